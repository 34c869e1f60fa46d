import PyProof.Rows.All
import Wide.All
import OpenK.AllK
import Wide.FinOn
import PySem.Challenge.RW_sj0074_01
set_option Elab.async false
set_option maxRecDepth 100000
set_option maxHeartbeats 8000000
-- SjA
namespace Sj
open PySem PySem.Calls PyProof.Rows PySem.W
noncomputable abbrev Kp (h h' : Heap) : Prop := ∀ b o, h.get? b = some o → h'.get? b = some o
noncomputable def upd (m : Str → Option Value) (x : Str) (v : Value) : Str → Option Value := fun y => if y = x then some v else m y
theorem upd_eq {m : Str → Option Value} {x : Str} {v : Value} : upd m x v x = some v := if_pos rfl
theorem upd_ne {m : Str → Option Value} {x y : Str} {v : Value} {u : Option Value} (hm : m y = u) (h : y ≠ x) : upd m x v y = u := (if_neg h).trans hm
noncomputable def IL (h : Heap) (a : Addr) (xs : List Int) : Prop := ∃ (vs : List Value) (n : Nat), h.get? a = some (listOf vs.toArray n) ∧ IntsAre vs xs
theorem IL.kp {h h' : Heap} {a : Addr} {xs : List Int} (x : IL h a xs) (k : Kp h h') : IL h' a xs :=
  let ⟨vs, n, e, i⟩ := x; ⟨vs, n, k _ _ e, i⟩
theorem IL.at {h h' : Heap} {a : Addr} {xs : List Int} (x : IL h a xs) (k : ∀ o, h.get? a = some o → h'.get? a = some o) : IL h' a xs :=
  let ⟨vs, n, e, i⟩ := x; ⟨vs, n, k _ e, i⟩
theorem IL.isList {h : Heap} {a : Addr} {xs : List Int} (x : IL h a xs) : ∃ vs : List Value, h.IsList a vs.toArray ∧ IntsAre vs xs :=
  let ⟨vs, n, e, i⟩ := x; ⟨vs, ⟨_, e, rfl, n, rfl⟩, i⟩
inductive Ow where
  | li (xs : List Int)
  | ob (o : Obj)
  | pr (P : Obj → Prop)
noncomputable def Ow.At (h : Heap) (a : Addr) : Ow → Prop
  | .li xs => IL h a xs
  | .ob o => h.get? a = some o
  | .pr P => ∃ o, h.get? a = some o ∧ P o
theorem Ow.At.at {h h' : Heap} {a : Addr} {w : Ow} (x : w.At h a) (k : ∀ o, h.get? a = some o → h'.get? a = some o) : w.At h' a := by
  cases w with
  | li xs => exact IL.at x k
  | ob o => exact k _ x
  | pr P => exact let ⟨o, e, q⟩ := x; ⟨o, k _ e, q⟩
theorem Ow.At.some {h : Heap} {a : Addr} {w : Ow} (x : w.At h a) : ∃ o, h.get? a = some o := by
  cases w with
  | li xs => exact let ⟨_, _, e, _⟩ := x; ⟨_, e⟩
  | ob o => exact ⟨_, x⟩
  | pr P => exact let ⟨o, e, _⟩ := x; ⟨o, e⟩
theorem Ow.At.lt {h : Heap} {a : Addr} {w : Ow} (x : w.At h a) : a < h.objs.size := let ⟨_, e⟩ := x.some; Heap.lt_size e
structure Rest (s s' : Shared) : Prop where
  gens : s'.gens = s.gens
  drawn : s'.drawn = s.drawn
  os : s'.os = s.os
theorem Rest.refl (s : Shared) : Rest s s := ⟨rfl, rfl, rfl⟩
theorem Rest.trans {s s' s'' : Shared} (x : Rest s s') (y : Rest s' s'') : Rest s s'' := ⟨y.gens.trans x.gens, y.drawn.trans x.drawn, y.os.trans x.os⟩
theorem Rest.set {s s' : Shared} (x : Rest s s') (h : Heap) (k : Nat) : Rest s { s' with heap := h, toks := k } := ⟨x.gens, x.drawn, x.os⟩
structure Wd (s₀ : Shared) (L : Addr) (s : Shared) (m : Str → Option Value) (own : List (Addr × Ow)) : Prop where
  fr : Fr s₀.heap L s.heap m
  ow : ∀ p ∈ own, p.2.At s.heap p.1 ∧ p.1 ≠ L ∧ s₀.heap.get? p.1 = none
  nd : (own.map (·.1)).Nodup
  rest : Rest s₀ s
section
variable {s₀ s s' : Shared} {L a : Addr} {m m' : Str → Option Value} {own : List (Addr × Ow)}
theorem Wd.keep (W : Wd s₀ L s m own) : Kp s₀.heap s.heap := W.fr.keep
theorem Wd.il (W : Wd s₀ L s m own) {xs : List Int} (h : IL s₀.heap a xs) : IL s.heap a xs := h.kp W.keep
theorem Wd.mem (W : Wd s₀ L s m own) {xs : List Int} (h : (a, Ow.li xs) ∈ own) : IL s.heap a xs := (W.ow _ h).1
theorem Wd.obj (W : Wd s₀ L s m own) {o : Obj} (h : (a, Ow.ob o) ∈ own) : s.heap.get? a = some o := (W.ow _ h).1
theorem Wd.new (W : Wd s₀ L s m own) {w : Ow} (h : (a, w) ∈ own) : s₀.heap.get? a = none := (W.ow _ h).2.2
theorem Wd.tk (W : Wd s₀ L s m own) {k : Nat} : Wd s₀ L { s with toks := k } m own := ⟨W.fr, W.ow, W.nd, W.rest.set _ _⟩
/-- everything that stood stands -/
theorem Wd.kp (W : Wd s₀ L s m own) (k : Kp s.heap s'.heap) (r : Rest s s') : Wd s₀ L s' m own :=
  ⟨W.fr.keeps k, fun p hp => ⟨(W.ow p hp).1.at fun o e => k _ _ e, (W.ow p hp).2⟩, W.nd, W.rest.trans r⟩
theorem Wd.add (W : Wd s₀ L s m own) (k : Kp s.heap s'.heap) (r : Rest s s') {w : Ow} (hw : w.At s'.heap a) (hn : s.heap.get? a = none) : Wd s₀ L s' m ((a, w) :: own) := by
  refine ⟨W.fr.keeps k, fun p hp => ?_, ?_, W.rest.trans r⟩
  · rcases List.mem_cons.mp hp with rfl | hp
    · refine ⟨hw, ?_, ?_⟩
      · rintro rfl
        obtain ⟨_, _, _, hL, _⟩ := W.fr.ns
        rw [hn] at hL; cases hL
      · cases q : s₀.heap.get? a with
        | none => rfl
        | some o => have := W.keep _ _ q; rw [hn] at this; cases this
    · exact ⟨(W.ow p hp).1.at fun o e => k _ _ e, (W.ow p hp).2⟩
  · refine List.nodup_cons.mpr ⟨fun h => ?_, W.nd⟩
    obtain ⟨p, hp, e⟩ := List.mem_map.mp h
    obtain ⟨o, ho⟩ := (W.ow p hp).1.some
    rw [e, hn] at ho; cases ho
theorem Wd.drop (W : Wd s₀ L s m own) {own' : List (Addr × Ow)} (h : own'.Sublist own) : Wd s₀ L s m own' :=
  ⟨W.fr, fun p hp => W.ow p (h.subset hp), W.nd.sublist (h.map _), W.rest⟩
theorem Wd.perm (W : Wd s₀ L s m own) {own' : List (Addr × Ow)} (h : own'.Perm own) : Wd s₀ L s m own' :=
  ⟨W.fr, fun p hp => W.ow p (h.subset hp), (h.map _).nodup_iff.mpr W.nd, W.rest⟩
theorem size_none (h : Heap) : h.get? h.objs.size = none := by
  cases q : h.get? h.objs.size with
  | none => rfl
  | some o => exact absurd (Heap.lt_size q) (Nat.lt_irrefl _)
theorem Wd.push (W : Wd s₀ L s m own) (o : Obj) (hf : o.isFreed = false := by rfl) (k : Nat := s.toks) :
    Wd s₀ L { s with heap := s.heap.push o, toks := k } m ((s.heap.objs.size, .ob o) :: own) :=
  W.add (s' := { s with heap := s.heap.push o, toks := k }) (fun _ _ e => Heap.get?_push_of_some _ e) ((Rest.refl s).set _ _) (Heap.get?_push_size _ hf) (size_none _)
theorem Wd.pushI (W : Wd s₀ L s m own) {vs : List Value} {xs : List Int} (i : IntsAre vs xs) (k : Nat := s.toks) :
    Wd s₀ L { s with heap := s.heap.push (listOf vs.toArray 0), toks := k } m ((s.heap.objs.size, .li xs) :: own) :=
  W.add (s' := { s with heap := s.heap.push (listOf vs.toArray 0), toks := k }) (fun _ _ e => Heap.get?_push_of_some _ e) ((Rest.refl s).set _ _) ⟨vs, 0, Heap.get?_push_size _ rfl, i⟩ (size_none _)
theorem Wd.store {x : Str} {v : Value} {h' : Heap} {k : Nat} (W : Wd s₀ L s m own) (hn : h'.Ns L (upd m x v)) (hs : Heap.SameBut L s.heap h') : Wd s₀ L { s with heap := h', toks := k } (upd m x v) own :=
  ⟨W.fr.set hn hs, fun p hp => ⟨(W.ow p hp).1.at fun o e => (hs.2 _ (W.ow p hp).2.1).trans e, (W.ow p hp).2⟩, W.nd, W.rest.set _ _⟩
/-- one owned thing is turned -/
theorem Wd.turn {w w' : Ow} {h' : Heap} {k : Nat} (W : Wd s₀ L s m ((a, w) :: own)) (hs : Heap.SameBut a s.heap h') (hw : w'.At h' a) : Wd s₀ L { s with heap := h', toks := k } m ((a, w') :: own) := by
  have A := W.ow _ (.head _)
  have nd := List.nodup_cons.mp W.nd
  refine ⟨⟨?_, fun b o e => ?_, W.fr.above⟩, fun p hp => ?_, W.nd, W.rest.set _ _⟩
  · exact W.fr.ns.sameBut hs (Ne.symm A.2.1)
  · refine (hs.2 b ?_).trans (W.keep b o e)
    rintro rfl
    rw [A.2.2] at e; cases e
  · rcases List.mem_cons.mp hp with rfl | hp
    · exact ⟨hw, A.2⟩
    · have P := W.ow p (.tail _ hp)
      refine ⟨P.1.at fun o e => (hs.2 _ ?_).trans e, P.2⟩
      intro q
      exact nd.1 (List.mem_map.mpr ⟨p, hp, q⟩)
/-- the first owned thing is spent -/
theorem Wd.spend {w : Ow} {h' : Heap} {k : Nat} (W : Wd s₀ L s m ((a, w) :: own)) (hs : Heap.ExtBut a s.heap h') : Wd s₀ L { s with heap := h', toks := k } m own := by
  have A := W.ow _ (.head _)
  have nd := List.nodup_cons.mp W.nd
  refine ⟨⟨W.fr.ns.extBut hs (Ne.symm A.2.1), fun b o e => ?_, W.fr.above⟩, fun p hp => ?_, nd.2, W.rest.set _ _⟩
  · refine hs b o ?_ (W.keep b o e)
    rintro rfl
    rw [A.2.2] at e; cases e
  · have P := W.ow p (.tail _ hp)
    refine ⟨P.1.at fun o e => hs _ o ?_ e, P.2⟩
    intro q
    exact nd.1 (List.mem_map.mpr ⟨p, hp, q⟩)
end
end Sj
-- SjB
namespace Sj
open PySem PySem.Calls PyProof.Rows PySem.W
noncomputable abbrev NE : Value → Shared → Prop := fun _ _ => False
/-- room for d nested calls -/
structure Rm (A : Around) (d : Nat) : Prop where
  hd : A.handled = none
  dp : A.depth + d < 990
  un : A.units + 8 * d + 200 < 9900
theorem Rm.le {A : Around} {d e : Nat} (R : Rm A d) (h : e ≤ d) : Rm A e := ⟨R.hd, by have := R.dp; omega, by have := R.un; omega⟩
theorem Rm.deeper {A : Around} {d : Nat} (R : Rm A (d + 1)) (env : Env) : Rm (A.deeper env) d :=
  ⟨R.hd, by have := R.dp; show A.depth + 1 + d < 990; omega, by have := R.un; show A.units + 3 + 8 * d + 200 < 9900; omega⟩
theorem Rm.room {A : Around} {d : Nat} (R : Rm A d) : A.depth < recursionLimit := by have := R.dp; show A.depth < 1000; omega
theorem Rm.units {A : Around} {d : Nat} (R : Rm A d) : A.units + 64 < cLine := by have := R.un; show A.units + 64 < 9900; omega
noncomputable abbrev FD := Arguments × List Stmt × Scope
noncomputable def fdOf (p : Program) (nm : Str) : Option FD := p.main.body.findSome? fun st => match st with
  | .FunctionDef n a b _ _ _ sc _ _ _ => if n = nm then some (a, b, sc) else none
  | _ => none
structure FnAt (mg : Str → Option Value) (h : Heap) (nm : Str) (d : FD) (f : Addr) : Prop where
  gl : mg nm = some (.ref f)
  fn : ∃ o pm cd doc, h.get? f = some o ∧ o.data = .func (docDef nm d.1 d.2.1 d.2.2 pm cd doc) ∧ h.CodeRec cd nm
theorem FnAt.kp {mg : Str → Option Value} {h h' : Heap} {nm : Str} {d : FD} {f : Addr} (x : FnAt mg h nm d f) (k : Kp h h') : FnAt mg h' nm d f :=
  ⟨x.gl, let ⟨o, pm, cd, doc, a, b, c⟩ := x.fn; ⟨o, pm, cd, doc, k _ _ a, b, c.keeps k⟩⟩
structure Gd (p : Program) (names free : List Str) (mg : Str → Option Value) (h : Heap) : Prop where
  g : h.Ns mainGlobals mg
  b : ∃ mb, h.Ns builtinsNs mb ∧ ∀ x : Str, x ≠ "__name__" → mb x = bootBuiltins x
  lim : h.NoLimit
  fns : ∀ nm ∈ names, ∀ d, fdOf p nm = some d → ∃ f, FnAt mg h nm d f
  free : ∀ x ∈ free, mg x = none
theorem Gd.kp {p : Program} {names free : List Str} {mg : Str → Option Value} {h h' : Heap} (G : Gd p names free mg h) (k : Kp h h') : Gd p names free mg h' :=
  ⟨G.g.keeps k, let ⟨mb, a, b⟩ := G.b; ⟨mb, a.keeps k, b⟩, G.lim.keeps k, fun nm hn d hd => let ⟨f, x⟩ := G.fns nm hn d hd; ⟨f, x.kp k⟩, G.free⟩
noncomputable def isLoc (sc : Scope) (x : Str) : Bool := sc.kind == .function && decide (sc.names.lookup x = some .local) && !(x == ("__debug__" : Str))
noncomputable def isGlo (sc : Scope) (x : Str) : Bool := sc.kind == .function && decide (sc.names.lookup x = some .globalImplicit) && !(x == ("__debug__" : Str))
theorem isLoc.out {sc : Scope} {x : Str} (h : isLoc sc x = true) : sc.kind = .function ∧ sc.names.lookup x = some .local ∧ (x == ("__debug__" : Str)) = false := by
  unfold isLoc at h
  simp only [Bool.and_eq_true, beq_iff_eq, decide_eq_true_eq, Bool.not_eq_true'] at h
  exact ⟨h.1.1, h.1.2, h.2⟩
theorem isGlo.out {sc : Scope} {x : Str} (h : isGlo sc x = true) : sc.kind = .function ∧ sc.names.lookup x = some .globalImplicit ∧ (x == ("__debug__" : Str)) = false := by
  unfold isGlo at h
  simp only [Bool.and_eq_true, beq_iff_eq, decide_eq_true_eq, Bool.not_eq_true'] at h
  exact ⟨h.1.1, h.1.2, h.2⟩
section
variable {prog : Program} {w : World} {A : Around} {E : Value → Shared → Prop} {s₀ s : Shared} {L f : Addr} {m mg : Str → Option Value} {own : List (Addr × Ow)} {nm : Str} {sc : Scope} {cd : Value}
  {p : Program} {names free : List Str}
theorem eName {x : Str} {pos : Pos} {v : Value} {Q : Value → Shared → Prop} (W : Wd s₀ L s m own) (hv : m x = some v) (hc : isLoc sc x = true) (h : Q v s) :
    wpAny (model prog w) A (eval (.Name x pos) (envOf nm sc L f cd)) Q E s :=
  let ⟨a, b, c⟩ := isLoc.out hc
  ld W.fr hv h a b c
theorem eGlob {x : Str} {pos : Pos} {v : Value} {Q : Value → Shared → Prop} (G : Gd p names free mg s₀.heap) (W : Wd s₀ L s m own) (hv : mg x = some v) (hc : isGlo sc x = true) (h : Q v s) :
    wpAny (model prog w) A (eval (.Name x pos) (envOf nm sc L f cd)) Q E s :=
  let ⟨a, b, c⟩ := isGlo.out hc
  Name_function_global a b (loadGlobal_global (env := envOf nm sc L f cd) (G.g.keeps W.keep) hv h) c
theorem eBuilt {x : Str} {pos : Pos} {v : Value} {Q : Value → Shared → Prop} (G : Gd p names free mg s₀.heap) (W : Wd s₀ L s m own) (hf : x ∈ free) (hv : bootBuiltins x = some v) (hn : x ≠ "__name__") (hc : isGlo sc x = true) (h : Q v s) :
    wpAny (model prog w) A (eval (.Name x pos) (envOf nm sc L f cd)) Q E s :=
  let ⟨a, b, c⟩ := isGlo.out hc
  let ⟨mb, hb, hm⟩ := G.b
  Name_function_global a b (loadGlobal_builtin (env := envOf nm sc L f cd) (G.g.keeps W.keep) (G.free x hf) (hb.keeps W.keep) ((hm x hn).trans hv) h) c
variable {env : Env} {M : Model} {Q : Value → Shared → Prop}
theorem eInt {i : Int} {k : Nat} {pos : Pos} (W : Wd s₀ L s m own) (h : ∀ s' t, Wd s₀ L s' m own → Q (.int i t) s') : wpAny M A (eval (.Constant (.int i) k pos) env) Q E s :=
  wpAny_Constant_int (h _ _ W.tk)
variable {a b : Int} {t u : Tok}
theorem oAdd (W : Wd s₀ L s m own) (h : ∀ s' t, Wd s₀ L s' m own → Q (.int (a + b) t) s') : wpAny (model prog w) A (binaryOp .Add (.int a t) (.int b u)) Q E s := PyProof.Rows.add_int (h _ _ W.tk)
theorem oSub (W : Wd s₀ L s m own) (h : ∀ s' t, Wd s₀ L s' m own → Q (.int (a - b) t) s') : wpAny (model prog w) A (binaryOp .Sub (.int a t) (.int b u)) Q E s := PyProof.Rows.sub_int (h _ _ W.tk)
theorem oMul (W : Wd s₀ L s m own) (hm : IntMulOk a b) (h : ∀ s' t, Wd s₀ L s' m own → Q (.int (a * b) t) s') : wpAny (model prog w) A (binaryOp .Mult (.int a t) (.int b u)) Q E s := PyProof.Rows.mul_int (h _ _ W.tk) hm
theorem oMod (W : Wd s₀ L s m own) (hb : b ≠ 0) (h : ∀ s' t, Wd s₀ L s' m own → Q (.int (a.fmod b) t) s') : wpAny (model prog w) A (binaryOp .Mod (.int a t) (.int b u)) Q E s := PyProof.Rows.mod_int hb (h _ _ W.tk)
theorem oShl (W : Wd s₀ L s m own) (hn : 0 ≤ b) (hs : (Builtin.Int.intBits a : Int) + b ≤ 2 ^ 27) (h : ∀ s' t, Wd s₀ L s' m own → Q (.int (a * 2 ^ b.toNat) t) s') : wpAny (model prog w) A (binaryOp .LShift (.int a t) (.int b u)) Q E s := PyProof.Rows.lshift_int hn hs (h _ _ W.tk)
theorem oShr (W : Wd s₀ L s m own) (hn : 0 ≤ b) (h : ∀ s' t, Wd s₀ L s' m own → Q (.int (a.fdiv (2 ^ b.toNat)) t) s') : wpAny (model prog w) A (binaryOp .RShift (.int a t) (.int b u)) Q E s := PyProof.Rows.rshift_int hn (h _ _ W.tk)
theorem oAnd (W : Wd s₀ L s m own) (h : ∀ s' t, Wd s₀ L s' m own → Q (.int (Builtin.bitAnd a b) t) s') : wpAny (model prog w) A (binaryOp .BitAnd (.int a t) (.int b u)) Q E s := PyProof.Rows.and_int (h _ _ W.tk)
theorem oOr (W : Wd s₀ L s m own) (h : ∀ s' t, Wd s₀ L s' m own → Q (.int (Builtin.bitOr a b) t) s') : wpAny (model prog w) A (binaryOp .BitOr (.int a t) (.int b u)) Q E s := PyProof.Rows.or_int (h _ _ W.tk)
theorem oPow (W : Wd s₀ L s m own) (hn : 0 ≤ b) (hs : (Builtin.Int.intBits a : Int) * b ≤ 2 ^ 27) (h : ∀ s' t, Wd s₀ L s' m own → Q (.int (a ^ b.toNat) t) s') : wpAny (model prog w) A (binaryOp .Pow (.int a t) (.int b u)) Q E s := PyProof.Rows.pow_int hn hs (h _ _ W.tk)
theorem oNeg (W : Wd s₀ L s m own) (h : ∀ s' t, Wd s₀ L s' m own → Q (.int (-a) t) s') : wpAny (model prog w) A (unaryOp .USub (.int a t)) Q E s := PySem.P.neg_int (h _ _ W.tk)
theorem iAdd (W : Wd s₀ L s m own) (h : ∀ s' t, Wd s₀ L s' m own → Q (.int (a + b) t) s') : wpAny (model prog w) A (inplaceOp .Add (.int a t) (.int b u)) Q E s := PyProof.Rows.iadd_int (h _ _ W.tk)
theorem iSub (W : Wd s₀ L s m own) (h : ∀ s' t, Wd s₀ L s' m own → Q (.int (a - b) t) s') : wpAny (model prog w) A (inplaceOp .Sub (.int a t) (.int b u)) Q E s := PyProof.Rows.isub_int (h _ _ W.tk)
theorem iShr (W : Wd s₀ L s m own) (hn : 0 ≤ b) (h : ∀ s' t, Wd s₀ L s' m own → Q (.int (a.fdiv (2 ^ b.toNat)) t) s') : wpAny (model prog w) A (inplaceOp .RShift (.int a t) (.int b u)) Q E s := PyProof.Rows.irshift_int hn (h _ _ W.tk)
theorem iOr (W : Wd s₀ L s m own) (h : ∀ s' t, Wd s₀ L s' m own → Q (.int (Builtin.bitOr a b) t) s') : wpAny (model prog w) A (inplaceOp .BitOr (.int a t) (.int b u)) Q E s := PyProof.Rows.ior_int (h _ _ W.tk)
theorem cLt (h : Q (.bool (decide (a < b))) s) : wpAny (model prog w) A (compareOp .Lt (.int a t) (.int b u)) Q E s := PyProof.Rows.lt_int h
theorem cGt (h : Q (.bool (decide (b < a))) s) : wpAny (model prog w) A (compareOp .Gt (.int a t) (.int b u)) Q E s := PyProof.Rows.gt_int h
theorem cGe (h : Q (.bool (decide (b ≤ a))) s) : wpAny (model prog w) A (compareOp .GtE (.int a t) (.int b u)) Q E s := PyProof.Rows.ge_int h
theorem cLe (h : Q (.bool (decide (a ≤ b))) s) : wpAny (model prog w) A (compareOp .LtE (.int a t) (.int b u)) Q E s := PyProof.Rows.le_int h
theorem cEq (h : Q (.bool (decide (a = b))) s) : wpAny (model prog w) A (compareOp .Eq (.int a t) (.int b u)) Q E s := PyProof.Rows.eq_int (by rw [show (a == b) = decide (a = b) from by by_cases e : a = b <;> simp [e]]; exact h)
theorem cNe (h : Q (.bool (decide (a ≠ b))) s) : wpAny (model prog w) A (compareOp .NotEq (.int a t) (.int b u)) Q E s := PyProof.Rows.ne_int (by rw [show (a != b) = decide (a ≠ b) from by by_cases e : a = b <;> simp [e]]; exact h)
theorem cEqL {x y : Addr} {xs ys : List Int} {k : Nat} (R : Rm A k) (hx : IL s.heap x xs) (hy : IL s.heap y ys) (h : Q (.bool (decide (xs = ys))) s) : wpAny (model prog w) A (compareOp .Eq (.ref x) (.ref y)) Q E s :=
  let ⟨vs, a, b⟩ := hx.isList; let ⟨us, c, d⟩ := hy.isList
  eq_intsK a b c d R.units h
theorem cNeL {x y : Addr} {xs ys : List Int} {k : Nat} (R : Rm A k) (hx : IL s.heap x xs) (hy : IL s.heap y ys) (h : Q (.bool (!decide (xs = ys))) s) : wpAny (model prog w) A (compareOp .NotEq (.ref x) (.ref y)) Q E s :=
  let ⟨vs, a, b⟩ := hx.isList; let ⟨us, c, d⟩ := hy.isList
  ne_intsK a b c d R.units h
end
end Sj
-- SjC
namespace Sj
open PySem PySem.Calls PyProof.Rows PySem.W
/-- one entry of the ledger turned -/
inductive Up (a : Addr) (x y : Ow) : List (Addr × Ow) → List (Addr × Ow) → Prop
  | head {r : List (Addr × Ow)} : Up a x y ((a, x) :: r) ((a, y) :: r)
  | tail {p : Addr × Ow} {r r' : List (Addr × Ow)} : Up a x y r r' → Up a x y (p :: r) (p :: r')
theorem Up.split {a : Addr} {x y : Ow} : ∀ {l l' : List (Addr × Ow)}, Up a x y l l' → ∃ u v, l = u ++ (a, x) :: v ∧ l' = u ++ (a, y) :: v
  | _, _, .head => ⟨[], _, rfl, rfl⟩
  | _, _, .tail (p := p) h => let ⟨u, v, e, e'⟩ := h.split; ⟨p :: u, v, by rw [e]; rfl, by rw [e']; rfl⟩
theorem Up.mem {a : Addr} {x y : Ow} {l l' : List (Addr × Ow)} (h : Up a x y l l') : (a, x) ∈ l := by
  obtain ⟨u, v, rfl, _⟩ := h.split
  exact List.mem_append.mpr (.inr (.head _))
theorem Wd.turnAt {s₀ s : Shared} {L a : Addr} {m : Str → Option Value} {own own' : List (Addr × Ow)} {x y : Ow} {h' : Heap} {k : Nat} (W : Wd s₀ L s m own) (U : Up a x y own own') (hs : Heap.SameBut a s.heap h') (hw : y.At h' a) :
    Wd s₀ L { s with heap := h', toks := k } m own' := by
  obtain ⟨u, v, rfl, rfl⟩ := U.split
  have p1 : (u ++ (a, x) :: v).Perm ((a, x) :: (u ++ v)) := List.perm_middle
  have p2 : (u ++ (a, y) :: v).Perm ((a, y) :: (u ++ v)) := List.perm_middle
  exact ((W.perm p1.symm).turn hs hw).perm p2
theorem Wd.as {s₀ s : Shared} {L : Addr} {m : Str → Option Value} {own own' : List (Addr × Ow)} (W : Wd s₀ L s m own) (h : own = own') : Wd s₀ L s m own' := h ▸ W
theorem ints_snoc {vs : List Value} {xs : List Int} (h : IntsAre vs xs) (i : Int) (t : Tok) : IntsAre (vs ++ [.int i t]) (xs ++ [i]) := by
  induction h with
  | nil => exact .cons i t .nil
  | cons k u _ ih => exact .cons k u ih
section
variable {prog : Program} {w : World} {A : Around} {E : Value → Shared → Prop} {s₀ s : Shared} {L f : Addr} {m mg : Str → Option Value} {own : List (Addr × Ow)} {nm : Str} {sc : Scope} {cd : Value}
  {p : Program} {names free : List Str}
theorem sSkip {env : Env} {Q : Flow → Shared → Prop} (h : Q .next s) : wpAny (model prog w) A (execs [] env) Q E s := wpAny_execs_nil h
theorem sSet {x : Str} {px pos : Pos} {value : Expr} {rest : List Stmt} {Q : Flow → Shared → Prop} (hc : isLoc sc x = true)
    (h : wpAny (model prog w) A (eval value (envOf nm sc L f cd)) (fun v s₁ => ∃ s₀ m own, Wd s₀ L s₁ m own ∧ ∀ s₂, Wd s₀ L s₂ (upd m x v) own → wpAny (model prog w) A (execs rest (envOf nm sc L f cd)) Q E s₂) E s)
    (hs : swapsWith value (some (.Name x px)) pos.line (envOf nm sc L f cd) = pure false := by rfl) :
    wpAny (model prog w) A (execs (.Assign [.Name x px] value pos :: rest) (envOf nm sc L f cd)) Q E s := by
  obtain ⟨a, b, c⟩ := isLoc.out hc
  refine wpAny_execs_cons (wpAny_Assign_Name (wpAny_mono h (fun v s₁ h₁ => ?_) fun _ _ e => e) hs)
  obtain ⟨s₀, m, own, W, k⟩ := h₁
  exact wpAny_storeName_local b W.fr.ns (fun h' hn hsb => k _ (W.store hn hsb)) (by show (sc.kind == .class || (sc.kind == .module && L != mainGlobals)) = false; rw [a]; rfl)
theorem sAug {x : Str} {px pos : Pos} {op : Operator} {value : Expr} {rest : List Stmt} {v₀ : Value} {Q : Flow → Shared → Prop} (W : Wd s₀ L s m own) (hv : m x = some v₀) (hc : isLoc sc x = true)
    (h : wpAny (model prog w) A (eval value (envOf nm sc L f cd)) (fun v s₁ => wpAny (model prog w) A (inplaceOp op v₀ v) (fun r s₂ => ∃ s₀ m own, Wd s₀ L s₂ m own ∧ ∀ s₃, Wd s₀ L s₃ (upd m x r) own → wpAny (model prog w) A (execs rest (envOf nm sc L f cd)) Q E s₃) E s₁) E s) :
    wpAny (model prog w) A (execs (.AugAssign (.Name x px) op value pos :: rest) (envOf nm sc L f cd)) Q E s := by
  obtain ⟨a, b, c⟩ := isLoc.out hc
  refine wpAny_execs_cons (wpAny_AugAssign_Name (ldn W.fr hv (wpAny_mono h (fun v s₁ h₁ => wpAny_mono h₁ (fun r s₂ h₂ => ?_) fun _ _ e => e) fun _ _ e => e) a b))
  obtain ⟨s₀, m, own, W, k⟩ := h₂
  exact wpAny_storeName_local b W.fr.ns (fun h' hn hsb => k _ (W.store hn hsb)) (by show (sc.kind == .class || (sc.kind == .module && L != mainGlobals)) = false; rw [a]; rfl)
theorem sIf {env : Env} {test : Expr} {body orelse rest : List Stmt} {pos : Pos} {Q : Flow → Shared → Prop}
    (h : wpAny (model prog w) A (isTrue test env (eval test env)) (fun b s₂ => if b = true then wpAny (model prog w) A (execs body env) (fun f s' => match f with | .next => wpAny (model prog w) A (execs rest env) Q E s' | f => Q f s') E s₂
      else wpAny (model prog w) A (execs orelse env) (fun f s' => match f with | .next => wpAny (model prog w) A (execs rest env) Q E s' | f => Q f s') E s₂) E s) :
    wpAny (model prog w) A (execs (.If test body orelse pos :: rest) env) Q E s :=
  wpAny_execs_cons (wpAny_If h)
theorem sRet {env : Env} {e : Expr} {pos : Pos} {rest : List Stmt} {Q : Flow → Shared → Prop} (h : wpAny (model prog w) A (eval e env) (fun v => Q (.ret v)) E s) : wpAny (model prog w) A (execs (.Return (some e) pos :: rest) env) Q E s :=
  wpAny_execs_cons (wpAny_Return_some h)
theorem callAppend {D : Addr} {xs : List Int} {i : Int} {t : Tok} {own' : List (Addr × Ow)} {Q : Value → Shared → Prop} (W : Wd s₀ L s m own) (U : Up D (.li xs) (.li (xs ++ [i])) own own') (hz : xs.length ≤ 16777216)
    (h : ∀ s', Wd s₀ L s' m own' → Q .none s') : wpAny (model prog w) A (call (.builtin "list.append") [.ref D, .int i t]) Q E s := by
  obtain ⟨vs, n, e, hi⟩ := W.mem U.mem
  refine append_at e (fun h' hs ho => h _ (W.turnAt U hs ⟨vs ++ [.int i t], n + 1, ?_, ints_snoc hi i t⟩)) ?_
  · rw [ho]; simp
  · show vs.toArray.size ≤ 16777216
    rw [List.size_toArray, hi.length]; exact hz
theorem sAppend {pl : Sem Bool} {x : Str} {p1 p2 p3 p4 : Pos} {e : Expr} {rest : List Stmt} {D : Addr} {Q : Flow → Shared → Prop} (W : Wd s₀ L s m own) (hx : m x = some (.ref D)) (hc : isLoc sc x = true) {xs₀ : List Int} (hD : (D, .li xs₀) ∈ own)
    (h : wpAny (model prog w) A (eval e (envOf nm sc L f cd)) (fun v s₁ => ∃ m own own' xs i t, v = .int i t ∧ Wd s₀ L s₁ m own ∧ Up D (.li xs) (.li (xs ++ [i])) own own' ∧ xs.length ≤ 16777216 ∧ ∀ s₂, Wd s₀ L s₂ m own' → wpAny (model prog w) A (execs rest (envOf nm sc L f cd)) Q E s₂) E s)
    (he : eval (.Call (.Attribute (.Name x p1) "append" p2) [e] [] p3) (envOf nm sc L f cd) = (do
      let ov ← eval (.Name x p1) (envOf nm sc L f cd)
      standAt p2.atName
      let (f', first) ← holding [ov] (getMethod ov "append" pl)
      callWith p3 f' first (backTo p3 (starEach [e] (envOf nm sc L f cd))) []) := by rfl)
    (hs : swapsWith (.Call (.Attribute (.Name x p1) "append" p2) [e] [] p3) none p4.line (envOf nm sc L f cd) = pure false := by rfl)
    (hst : starEach [e] (envOf nm sc L f cd) = (false, eval e (envOf nm sc L f cd)) :: starEach [] (envOf nm sc L f cd) := by rfl) :
    wpAny (model prog w) A (execs (.Expr (.Call (.Attribute (.Name x p1) "append" p2) [e] [] p3) p4 :: rest) (envOf nm sc L f cd)) Q E s := by
  obtain ⟨a, b, c⟩ := isLoc.out hc
  have hi : interactive (envOf nm sc L f cd) = false := by
    show (sc.kind == .module && _) = false
    rw [a]; rfl
  refine wpAny_execs_cons (wpAny_Expr (MethodCall_ (eName W hx hc ?_) he) hi hs)
  obtain ⟨vs, n, eD, hiD⟩ := W.mem hD
  refine getMethod_list_append eD rfl rfl ?_
  refine callWith_method1 (args_cons (wpAny_mono h (fun v s₁ h₁ => ?_) fun _ _ e => e) hst) hst
  obtain ⟨m, own, own', xs, i, t, rfl, W, U, hz, k⟩ := h₁
  exact args_nil (callAppend W U hz fun s' W' => k s' W')
end
end Sj
-- SjD
namespace Sj
open PySem PySem.Calls PyProof.Rows PySem.W
section
variable {prog : Program} {w : World} {A : Around} {E : Value → Shared → Prop} {s₀ s : Shared} {L f : Addr} {m mg : Str → Option Value} {own : List (Addr × Ow)} {nm : Str} {sc : Scope} {cd : Value}
  {p : Program} {names free : List Str} {env : Env} {Q : Value → Shared → Prop}
theorem IL.get {h : Heap} {a : Addr} {xs : List Int} (x : IL h a xs) : ∃ vs : List Value, h.IsList a vs.toArray ∧ IntsAre vs xs := x.isList
/-- an item at a place in bounds -/
theorem xItem {value slice : Expr} {a : Addr} {xs : List Int} {k : Int} {u : Tok} (hl : IL s.heap a xs) (h0 : 0 ≤ k) (h1 : k < xs.length) (hz : xs.length ≤ 16777216)
    (hs : subscripted slice false (.ref a) (.int k u) = operate [.ref a, .int k u] (getItem (.ref a) (.int k u)))
    (h : ∀ t, Q (.int (xs.getD k.toNat 0) t) s) :
    wpAny (model prog w) A (subscriptTail value slice (.ref a) (.int k u)) Q E s := by
  obtain ⟨vs, hl, hi⟩ := hl.isList
  exact tail_any hl.typeIs slot_list_getitem.lookup (getItem_intsK hl hi h0 h1 (by omega) h) hs
theorem ints_get {vs : List Value} {ns : List Int} (hi : IntsAre vs ns) : ∀ k, k < ns.length → ∃ t, vs[k]? = some (.int (ns.getD k 0) t) := by
  induction hi with
  | nil => intro k h; exact absurd h (Nat.not_lt_zero _)
  | cons n t _ ih =>
    intro k h
    cases k with
    | zero => exact ⟨t, rfl⟩
    | succ k => exact ih k (Nat.lt_of_succ_lt_succ h)
/-- an item counted from behind -/
theorem xItemNeg {value slice : Expr} {a : Addr} {xs : List Int} {k : Int} {u : Tok} (hl : IL s.heap a xs) (h0 : k < 0) (h1 : -(xs.length : Int) ≤ k) (hz : xs.length ≤ 16777216)
    (hs : subscripted slice false (.ref a) (.int k u) = operate [.ref a, .int k u] (getItem (.ref a) (.int k u)))
    (h : ∀ t, Q (.int (xs.getD (k + xs.length).toNat 0) t) s) :
    wpAny (model prog w) A (subscriptTail value slice (.ref a) (.int k u)) Q E s := by
  obtain ⟨vs, hl, hi⟩ := hl.isList
  have e : vs.toArray.size = xs.length := by rw [List.size_toArray, hi.length]
  obtain ⟨t, ht⟩ := ints_get hi (k + xs.length).toNat (by omega)
  exact tail_any hl.typeIs slot_list_getitem.lookup (wpAny_getItem_list_neg hl h0 (by rw [e]; exact h1) (by omega) (by rw [e]; simpa using ht) (h t)) hs
theorem callLen {a : Addr} {xs : List Int} (W : Wd s₀ L s m own) (hl : IL s.heap a xs) (hz : xs.length ≤ 16777216) (h : ∀ s' t, Wd s₀ L s' m own → Q (.int (xs.length : Nat) t) s') :
    wpAny (model prog w) A (call (.builtin "len") [.ref a]) Q E s := by
  obtain ⟨vs, hl, hi⟩ := hl.isList
  exact len_ints_fit hl hi (by omega) (h _ _ W.tk)
/-- a call of a built-in name, its arguments one by one -/
theorem eCallB {x : Str} {id : String} {p1 pos : Pos} {e : Expr} {rest : List Expr} (G : Gd p names free mg s₀.heap) (W : Wd s₀ L s m own) (hf : x ∈ free) (hv : bootBuiltins x = some (.builtin id)) (hn : x ≠ "__name__") (hc : isGlo sc x = true)
    (h : wpAny (model prog w) A (spliced (backTo pos (starEach (e :: rest) (envOf nm sc L f cd)))) (fun vs s₁ => wpAny (model prog w) A (call (.builtin id) vs) Q E s₁) E s)
    (he : eval (.Call (.Name x p1) (e :: rest) [] pos) (envOf nm sc L f cd) = (do callWith pos (← eval (.Name x p1) (envOf nm sc L f cd)) [] (backTo pos (starEach (e :: rest) (envOf nm sc L f cd))) (backToKw pos (keywordEach [] (envOf nm sc L f cd)))) := by rfl)
    (hst : starEach (e :: rest) (envOf nm sc L f cd) = (false, eval e (envOf nm sc L f cd)) :: starEach rest (envOf nm sc L f cd) := by rfl)
    (hplain : (backTo pos (starEach rest (envOf nm sc L f cd))).any (·.1) = false := by rfl) :
    wpAny (model prog w) A (eval (.Call (.Name x p1) (e :: rest) [] pos) (envOf nm sc L f cd)) Q E s :=
  Call_ (eBuilt G W hf hv hn hc (callWith_builtin1 h hst hplain)) he
theorem eCallT {x : Str} {T : String} {p1 pos : Pos} {e : Expr} {rest : List Expr} (G : Gd p names free mg s₀.heap) (W : Wd s₀ L s m own) (hf : x ∈ free) (hv : bootBuiltins x = some (.type T)) (hn : x ≠ "__name__") (hc : isGlo sc x = true)
    (h : wpAny (model prog w) A (spliced (backTo pos (starEach (e :: rest) (envOf nm sc L f cd)))) (fun vs s₁ => wpAny (model prog w) A (call (.type T) vs) Q E s₁) E s)
    (he : eval (.Call (.Name x p1) (e :: rest) [] pos) (envOf nm sc L f cd) = (do callWith pos (← eval (.Name x p1) (envOf nm sc L f cd)) [] (backTo pos (starEach (e :: rest) (envOf nm sc L f cd))) (backToKw pos (keywordEach [] (envOf nm sc L f cd)))) := by rfl)
    (hst : starEach (e :: rest) (envOf nm sc L f cd) = (false, eval e (envOf nm sc L f cd)) :: starEach rest (envOf nm sc L f cd) := by rfl)
    (hplain : (backTo pos (starEach rest (envOf nm sc L f cd))).any (·.1) = false := by rfl) :
    wpAny (model prog w) A (eval (.Call (.Name x p1) (e :: rest) [] pos) (envOf nm sc L f cd)) Q E s :=
  Call_ (eBuilt G W hf hv hn hc (callWith_type1 h hst hplain)) he
/-- a call of a def of the text -/
theorem eCallF {x : Str} {d : FD} {g : Addr} {p1 pos : Pos} {e : Expr} {rest : List Expr} (G : Gd p names free mg s₀.heap) (W : Wd s₀ L s m own) (hg : FnAt mg s₀.heap x d g) (hc : isGlo sc x = true)
    (h : wpAny (model prog w) A (spliced (backTo pos (starEach (e :: rest) (envOf nm sc L f cd)))) (fun vs s₁ => ∃ m own, Wd s₀ L s₁ m own ∧ (FnAt mg s₁.heap x d g → Gd p names free mg s₁.heap → wpAny (model prog w) A (call (.ref g) vs) Q E s₁)) E s)
    (he : eval (.Call (.Name x p1) (e :: rest) [] pos) (envOf nm sc L f cd) = (do callWith pos (← eval (.Name x p1) (envOf nm sc L f cd)) [] (backTo pos (starEach (e :: rest) (envOf nm sc L f cd))) (backToKw pos (keywordEach [] (envOf nm sc L f cd)))) := by rfl)
    (hst : starEach (e :: rest) (envOf nm sc L f cd) = (false, eval e (envOf nm sc L f cd)) :: starEach rest (envOf nm sc L f cd) := by rfl) :
    wpAny (model prog w) A (eval (.Call (.Name x p1) (e :: rest) [] pos) (envOf nm sc L f cd)) Q E s := by
  obtain ⟨o, pm, cd', doc, a, b, c⟩ := hg.fn
  refine Call_ (eGlob G W hg.gl hc (callWith_def b (wpAny_mono h (fun vs s₁ h₁ => ?_) fun _ _ e => e) hst)) he
  obtain ⟨m, own, W', k⟩ := h₁
  exact ⟨W'.keep _ _ a, k (hg.kp W'.keep) (G.kp W'.keep)⟩
/-- into a def's body -/
theorem enter {d : FD} {binds : List (Str × Value)} {args : List Value} {k : Nat} (R : Rm A k) (G : Gd p names free mg s.heap) (hf : FnAt mg s.heap nm d f)
    (hb : ∀ pm cd doc, bindArgs (docDef nm d.1 d.2.1 d.2.2 pm cd doc) ⟨args, []⟩ = pure binds) (hloc : (binds.all fun x => decide (d.2.2.names.lookup x.1 = some .local)) = true)
    (hsc : (d.2.2.isCoroutine || d.2.2.isGenerator || !(d.2.2.kind == .function) || d.2.2.names.any fun x => x.2 == .cell) = false)
    (h : ∀ L cd s', Wd s L s' (fun x => binds.reverse.lookup x) [] →
      wpAny (model prog w) (A.deeper (envOf nm d.2.2 L f cd)) (execs d.2.1 (envOf nm d.2.2 L f cd)) (fun fl s' => Q (match fl with | .ret v => v | _ => .none) s') NE s') :
    wpAny (model prog w) A (call (.ref f) args) Q E s := by
  obtain ⟨o, pm, cd, doc, a, b, c⟩ := hf.fn
  simp only [Bool.or_eq_false_iff, Bool.not_eq_false', beq_iff_eq] at hsc
  obtain ⟨⟨⟨h1, h2⟩, h3⟩, h4⟩ := hsc
  refine wpAny_call (call_plain_ret R.room a b G.lim c (hb pm cd doc) (locs hloc) (fun h₁ F => ?_) h1 h2 h3 ?_)
  · exact h _ cd _ ⟨F, fun _ hp => (nomatch hp), .nil, ⟨rfl, rfl, rfl⟩⟩
  · intro x hx e
    have := List.any_eq_false.mp h4 x hx
    rw [e] at this
    exact this rfl
end
end Sj
-- SjE
namespace Sj
open PySem PySem.Calls PyProof.Rows PySem.W
section
variable {prog : Program} {w : World} {A : Around} {E : Value → Shared → Prop} {s₀ s : Shared} {L f : Addr} {m mg : Str → Option Value} {own : List (Addr × Ow)} {nm : Str} {sc : Scope} {cd : Value}
  {p : Program} {names free : List Str} {env : Env} {R : Result → Shared → Prop}
theorem noE {α : Type} {M : Model} {t : Sem α} {Q : α → Shared → Prop} (h : wpAny M A t Q NE s) : wpAny M A t Q E s := wpAny_mono h (fun _ _ x => x) fun _ _ x => x.elim
theorem sWhile {test : Expr} {body rest : List Stmt} {pos : Pos} {Q : Flow → Shared → Prop} (I : Nat → Shared → Prop)
    (turn : ∀ n s, I n s → wpAny (model prog w) A (isTrue test env (eval test env)) (fun b s₂ => if b = true then wpAny (model prog w) A (execs body env) (fun f s₃ => f = .next ∧ ∃ k, k < n ∧ I k s₃) NE s₂
      else wpAny (model prog w) A (execs rest env) Q NE s₂) NE s) (n : Nat) (h : I n s) :
    wpAny (model prog w) A (execs (.While test body [] pos :: rest) env) Q E s := by
  refine wpAny_execs_cons (wpAny_While (codeAny_whileLoop I (fun n s hI => ?_) n h))
  refine wpAny_mono (turn n s hI) (fun b s₂ h₂ => ?_) fun _ _ x => x.elim
  cases b with
  | true =>
    rw [if_pos rfl] at h₂ ⊢
    refine wpAny_mono h₂ (fun f s₃ h₃ => ?_) fun _ _ x => x.elim
    obtain ⟨rfl, k⟩ := h₃
    exact k
  | false =>
    rw [if_neg Bool.false_ne_true] at h₂ ⊢
    exact wpAny_execs_nil (noE h₂)
noncomputable abbrev rIter (x left step : Int) : Obj := { cls := .type "range_iterator", dict := none, data := .fields #[rawInt x, rawInt left, rawInt step], slots := #[] }
/-- what a turn's end owes -/
noncomputable abbrev Turned (s₀ : Shared) (L : Addr) (it : Addr) (P : Ow) (J : (Str → Option Value) → List (Addr × Ow) → Prop) (R : Result → Shared → Prop) (f : Flow) (s' : Shared) : Prop := match f with
  | .next => ∃ m' own', Wd s₀ L s' m' ((it, P) :: own') ∧ J m' own'
  | .ret v => R (.ok (.ret v)) s'
  | _ => False
theorem loopRange {x : Str} {px : Pos} {body : List Stmt} {it : Addr} {a c : Int} {n : Nat} (hh : A.handled = none) (hc : isLoc sc x = true) (J : Nat → (Str → Option Value) → List (Addr × Ow) → Prop)
    (W : Wd s₀ L s m ((it, .ob (rIter a n c)) :: own)) (h0 : J 0 m own)
    (turn : ∀ i s m own t P, i < n → J i m own → Wd s₀ L s (upd m x (.int (a + (i : Nat) * c) t)) ((it, P) :: own) →
      wpAny (model prog w) A (execs body (envOf nm sc L f cd)) (Turned s₀ L it P (J (i + 1)) R) NE s)
    (fin : ∀ s m own, J n m own → Wd s₀ L s m own → R (.ok .next) s) :
    codeAny (model prog w) A (.forLoop (.Name x px) (.ref it) body [] (envOf nm sc L f cd)) R s := by
  obtain ⟨c1, c2, c3⟩ := isLoc.out hc
  have hp : ((envOf nm sc L f cd).scope.kind == .class || ((envOf nm sc L f cd).scope.kind == .module && (envOf nm sc L f cd).locals != (envOf nm sc L f cd).globals)) = false := by
    show (sc.kind == .class || (sc.kind == .module && L != mainGlobals)) = false; rw [c1]; rfl
  refine codeAny_forLoop (fun k s => ∃ i m own, i ≤ n ∧ k = n + 1 - i ∧ J i m own ∧ Wd s₀ L s m ((it, .ob (rIter (a + (i : Nat) * c) ((n : Int) - (i : Nat)) c)) :: own)) ?_ (n + 1) ⟨0, m, own, Nat.zero_le _, rfl, h0, by simpa using W⟩
  rintro k s ⟨i, m, own, hi, rfl, hJ, W⟩
  by_cases hlt : i < n
  · have hit := W.obj (.head _)
    refine wpAny_pyNext_range_item hit (by omega) fun h₁ hit₁ hs₁ => ?_
    have e1 : a + ((i + 1 : Nat) : Int) * c = a + (i : Int) * c + c := by push_cast; rw [Int.add_mul, Int.one_mul, Int.add_assoc]
    have e2 : (n : Int) - ((i + 1 : Nat) : Int) = (n : Int) - (i : Int) - 1 := by push_cast; omega
    have W₁ := W.turn (k := s.toks + 1) (w' := .ob (rIter (a + ((i + 1 : Nat) : Int) * c) ((n : Int) - ((i + 1 : Nat) : Int)) c)) hs₁ (by rw [e1, e2]; exact hit₁)
    refine wpAny_assign_Name (wpAny_storeName_local c2 W₁.fr.ns (fun h₂ hn₂ hs₂ => ?_) hp)
    refine wpAny_mono (turn i _ m own _ _ hlt hJ (W₁.store hn₂ hs₂)) (fun f s₃ h₃ => ?_) fun _ _ x => x.elim
    cases f with
    | next =>
      obtain ⟨m', own', W', hJ'⟩ := h₃
      exact ⟨n + 1 - (i + 1), by omega, i + 1, m', own', hlt, rfl, hJ', W'⟩
    | ret v => exact h₃
    | cont => exact h₃.elim
    | brk => exact h₃.elim
  · have hin : i = n := by omega
    subst hin
    refine wpAny_pyNext_range_end hh (W.obj (.head _)) (by omega) fun h₁ he₁ => wpAny_execs_nil ?_
    exact fin _ m own hJ (W.spend he₁)
noncomputable abbrev lIter (l : Addr) (i : Nat) : Ow := .pr fun o => o.cls = .type "list_iterator" ∧ o.data = .fields #[.ref l, .int i 0]
/-- over a list of ints that the turns leave alone -/
theorem loopList {x : Str} {px : Pos} {body : List Stmt} {it l : Addr} {xs : List Int} (hh : A.handled = none) (hc : isLoc sc x = true) (J : Nat → (Str → Option Value) → List (Addr × Ow) → Prop)
    (hl : IL s₀.heap l xs) (W : Wd s₀ L s m ((it, lIter l 0) :: own)) (h0 : J 0 m own)
    (turn : ∀ i s m own t P, i < xs.length → J i m own → Wd s₀ L s (upd m x (.int (xs.getD i 0) t)) ((it, P) :: own) →
      wpAny (model prog w) A (execs body (envOf nm sc L f cd)) (Turned s₀ L it P (J (i + 1)) R) NE s)
    (fin : ∀ s m own, J xs.length m own → Wd s₀ L s m own → R (.ok .next) s) :
    codeAny (model prog w) A (.forLoop (.Name x px) (.ref it) body [] (envOf nm sc L f cd)) R s := by
  obtain ⟨c1, c2, c3⟩ := isLoc.out hc
  have hp : ((envOf nm sc L f cd).scope.kind == .class || ((envOf nm sc L f cd).scope.kind == .module && (envOf nm sc L f cd).locals != (envOf nm sc L f cd).globals)) = false := by
    show (sc.kind == .class || (sc.kind == .module && L != mainGlobals)) = false; rw [c1]; rfl
  obtain ⟨vs, hl₀, hi⟩ := hl.isList
  refine codeAny_forLoop (fun k s => ∃ i m own, i ≤ xs.length ∧ k = xs.length + 1 - i ∧ J i m own ∧ Wd s₀ L s m ((it, lIter l i) :: own)) ?_ (xs.length + 1) ⟨0, m, own, Nat.zero_le _, rfl, h0, W⟩
  rintro k s ⟨i, m, own, hi', rfl, hJ, W⟩
  have hit : s.heap.IsListIter it l i := (W.ow _ (.head _)).1
  have hlt' : s.heap.IsList l vs.toArray := W.fr.lst hl₀
  by_cases hlt : i < xs.length
  · obtain ⟨t, ht⟩ := ints_get hi i hlt
    refine wpAny_pyNext_list_item hit hlt' (x := .int (xs.getD i 0) t) (by simpa using ht) fun h₁ hit₁ hs₁ => ?_
    have W₁ := W.turn (k := s.toks) (w' := lIter l (i + 1)) hs₁ hit₁
    refine wpAny_assign_Name (wpAny_storeName_local c2 W₁.fr.ns (fun h₂ hn₂ hs₂ => ?_) hp)
    refine wpAny_mono (turn i _ m own _ _ hlt hJ (W₁.store hn₂ hs₂)) (fun f s₃ h₃ => ?_) fun _ _ x => x.elim
    cases f with
    | next =>
      obtain ⟨m', own', W', hJ'⟩ := h₃
      exact ⟨xs.length + 1 - (i + 1), by omega, i + 1, m', own', hlt, rfl, hJ', W'⟩
    | ret v => exact h₃
    | cont => exact h₃.elim
    | brk => exact h₃.elim
  · have hin : i = xs.length := by omega
    subst hin
    refine wpAny_pyNext_list_end hh hit hlt' (by simp [hi.length]) fun h₁ he₁ => wpAny_execs_nil ?_
    exact fin _ m own hJ (W.spend (k := s.toks) he₁)
theorem sFor {target iter : Expr} {body rest : List Stmt} {pos : Pos} {Q : Flow → Shared → Prop}
    (h : wpAny (model prog w) A (eval iter env) (fun x s₁ => wpAny (model prog w) A (pyIter x) (fun it s₂ =>
      codeAny (model prog w) A (.forLoop target it body [] env) (fun r s' => match r with | .ok f => (match f with | .next => wpAny (model prog w) A (execs rest env) Q E s' | f => Q f s') | .error e => False) s₂) E s₁) E s)
    (hs : ∀ x, foldedSetIterable iter env x = pure x := by intro _; rfl) :
    wpAny (model prog w) A (execs (.For target iter body [] pos :: rest) env) Q E s := by
  refine wpAny_execs_cons (wpAny_For (wpAny_mono h (fun x s₁ h₁ => wpAny_mono h₁ (fun it s₂ h₂ => codeAny_mono h₂ fun r s' hr => ?_) fun _ _ e => e) fun _ _ e => e) hs)
  cases r with
  | ok f => exact hr
  | error e => exact hr.elim
theorem callRange1 {b : Int} {t : Tok} {Q : Value → Shared → Prop} (W : Wd s₀ L s m own) (h : ∀ r s' u t v, Wd s₀ L s' m own → IsRange s'.heap r 0 b 1 u t v → Q (.ref r) s') : wpAny (model prog w) A (call (.type "range") [.int b t]) Q E s := by
  refine call_range_1 (h _ _ _ _ _ ?_ (IsRange.new ..))
  exact (W.push _ rfl _).drop (List.sublist_cons_self _ _)
theorem callRange2 {a b : Int} {t u : Tok} {Q : Value → Shared → Prop} (W : Wd s₀ L s m own) (h : ∀ r s' u t v, Wd s₀ L s' m own → IsRange s'.heap r a b 1 u t v → Q (.ref r) s') : wpAny (model prog w) A (call (.type "range") [.int a t, .int b u]) Q E s := by
  refine call_range_2 (h _ _ _ _ _ ?_ (IsRange.new ..))
  exact (W.push _ rfl _).drop (List.sublist_cons_self _ _)
theorem iterRange {r : Addr} {a b c : Int} {u t v : Tok} {n : Nat} {Q : Value → Shared → Prop} (W : Wd s₀ L s m own) (hr : IsRange s.heap r a b c u t v) (hs : Builtin.Range.small a b c = true) (hn : Builtin.Range.rangeSize a b c = (n : Nat))
    (h : ∀ it s', Wd s₀ L s' m ((it, .ob (rIter a n c)) :: own) → Q (.ref it) s') : wpAny (model prog w) A (pyIter (.ref r)) Q E s := by
  refine wpAny_pyIter_range hr hs (h _ _ ?_)
  rw [← hn]
  exact W.push _ rfl _
theorem iterList {l : Addr} {xs : List Int} {Q : Value → Shared → Prop} (W : Wd s₀ L s m own) (hl : IL s.heap l xs) (h : ∀ it s', Wd s₀ L s' m ((it, lIter l 0) :: own) → Q (.ref it) s') : wpAny (model prog w) A (pyIter (.ref l)) Q E s := by
  obtain ⟨vs, hl, hi⟩ := hl.isList
  refine wpAny_pyIter_list hl (h _ _ ?_)
  exact W.add (s' := { s with heap := s.heap.push _ }) (fun _ _ e => Heap.get?_push_of_some _ e) ((Rest.refl s).set _ _) (w := lIter l 0) ⟨_, Heap.get?_push_size _ rfl, rfl, rfl⟩ (size_none _)
end
end Sj
-- SjF
namespace Sj
open PySem PySem.Calls PyProof.Rows PySem.W
noncomputable abbrev pw : Program := PySem.Challenge.pw_sj0074_01
section
variable {prog : Program} {w : World} {A : Around} {E : Value → Shared → Prop} {s₀ s : Shared} {L f : Addr} {m mg : Str → Option Value} {own : List (Addr × Ow)} {nm : Str} {sc : Scope} {cd : Value}
  {p : Program} {names free : List Str} {env : Env} {Q : Value → Shared → Prop}
theorem takeAll {α : Type} (l : List α) (b : Nat) : (l.toArray.toList.take b).toArray = (l.take b).toArray := rfl
theorem eSliceTo {value e : Expr} {p pos : Pos}
    (h : wpAny (model prog w) A (eval value env) (fun o s₁ => wpAny (model prog w) A (eval e env) (fun v s₂ => ∃ s₀ L a xs k t m own, o = .ref a ∧ v = .int k t ∧ Wd s₀ L s₂ m own ∧ IL s₂.heap a xs ∧ 0 ≤ k ∧ xs.length ≤ 16777216 ∧
      ∀ r s', Wd s₀ L s' m ((r, .li (xs.take k.toNat)) :: own) → Q (.ref r) s') E s₁) E s)
    (ht : ∀ o r, letTemporaryGo value o r = pure () := by intro _ _; rfl) :
    wpAny (model prog w) A (eval (.Subscript value (.Slice none (some e) none p) pos) env) Q E s := by
  refine wpAny_Subscript_list_slice (wpAny_mono h (fun o s₁ h₁ => ?_) fun _ _ e => e) ht
  rw [evalPart_none, evalPart_some]
  refine wpAny_pure (wpAny_mono h₁ (fun v s₂ h₂ => ?_) fun _ _ e => e)
  obtain ⟨s₀, L, a, xs, k, t, m, own, rfl, rfl, W, hl, h0, hz, k'⟩ := h₂
  obtain ⟨vs, hl, hi⟩ := hl.isList
  refine ⟨a, _, none, some k, rfl, hl, by show vs.toArray.size ≤ 16777216; rw [List.size_toArray, hi.length]; exact hz, .none, .int k t, ?_⟩
  have ek : k = (k.toNat : Int) := by omega
  rw [ek, slicePick_upto' vs.toArray k.toNat, ← ek, takeAll]
  have W₁ := (W.push (k := s₂.toks) { cls := .type "slice", data := .fields #[Value.none, .int k t, .none] }).pushI (k := s₂.toks) (hi.take k.toNat)
  have W₂ := W₁.drop (own' := ((s₂.heap.push { cls := .type "slice", data := .fields #[Value.none, .int k t, .none] }).objs.size, .li (xs.take k.toNat)) :: own) (.cons_cons _ (List.sublist_cons_self _ _))
  rw [Heap.size_push] at W₂
  exact k' _ _ W₂
theorem eSliceAll {value : Expr} {p pos : Pos}
    (h : wpAny (model prog w) A (eval value env) (fun o s₂ => ∃ s₀ L a xs m own, o = .ref a ∧ Wd s₀ L s₂ m own ∧ IL s₂.heap a xs ∧ xs.length ≤ 16777216 ∧
      ∀ r s', Wd s₀ L s' m ((r, .li xs) :: own) → Q (.ref r) s') E s)
    (ht : ∀ o r, letTemporaryGo value o r = pure () := by intro _ _; rfl) :
    wpAny (model prog w) A (eval (.Subscript value (.Slice none none none p) pos) env) Q E s := by
  refine wpAny_Subscript_list_slice (wpAny_mono h (fun o s₂ h₂ => ?_) fun _ _ e => e) ht
  rw [evalPart_none]
  refine wpAny_pure (wpAny_pure ?_)
  obtain ⟨s₀, L, a, xs, m, own, rfl, W, hl, hz, k'⟩ := h₂
  obtain ⟨vs, hl, hi⟩ := hl.isList
  refine ⟨a, _, none, none, rfl, hl, by show vs.toArray.size ≤ 16777216; rw [List.size_toArray, hi.length]; exact hz, .none, .none, ?_⟩
  rw [slicePick_all]
  have W₁ := (W.push (k := s₂.toks) { cls := .type "slice", data := .fields #[Value.none, .none, .none] }).pushI (k := s₂.toks) hi
  have W₂ := W₁.drop (own' := ((s₂.heap.push { cls := .type "slice", data := .fields #[Value.none, .none, .none] }).objs.size, .li xs) :: own) (.cons_cons _ (List.sublist_cons_self _ _))
  rw [Heap.size_push] at W₂
  exact k' _ _ W₂
/-- a def hands back a new list of ints -/
noncomputable def RetL (s : Shared) (xs : List Int) (Q : Value → Shared → Prop) : Prop := ∀ r s', Kp s.heap s'.heap → Rest s s' → s.heap.get? r = none → IL s'.heap r xs → Q (.ref r) s'
theorem Wd.retL {xs : List Int} (W : Wd s₀ L s m own) (h : ∀ r s', Wd s₀ L s' m ((r, .li xs) :: own) → Q (.ref r) s') : RetL s xs Q :=
  fun r s' k e n i => h r s' (W.add k e (w := .li xs) i n)
theorem RetL.back {xs : List Int} {r : Addr} {s' : Shared} (h : RetL s xs Q) (W : Wd s L s' m own) (hm : (r, .li xs) ∈ own) : Q (.ref r) s' := h r s' W.keep W.rest (W.new hm) (W.mem hm)
noncomputable def RetI (s : Shared) (i : Int) (Q : Value → Shared → Prop) : Prop := ∀ t s', Kp s.heap s'.heap → Rest s s' → Q (.int i t) s'
theorem Wd.retI {i : Int} (W : Wd s₀ L s m own) (h : ∀ t s', Wd s₀ L s' m own → Q (.int i t) s') : RetI s i Q := fun t s' k e => h t s' (W.kp k e)
theorem RetI.back {i : Int} {t : Tok} {s' : Shared} (h : RetI s i Q) (W : Wd s L s' m own) : Q (.int i t) s' := h t s' W.keep W.rest
noncomputable abbrev nom : Str → Option Value := fun _ => none
theorem lookup_upd (l : List (Str × Value)) : (fun y => l.reverse.lookup y) = l.foldl (fun m b => upd m b.1 b.2) nom := by
  have e : ∀ (l : List (Str × Value)) (m : Str → Option Value), l.foldl (fun m b => upd m b.1 b.2) m = fun y => (l.reverse.lookup y).or (m y) := by
    intro l
    induction l with
    | nil => intro m; rfl
    | cons b l ih =>
      intro m
      rw [List.foldl_cons, ih]
      funext y
      rw [List.reverse_cons, List.lookup_append]
      obtain ⟨x, v⟩ := b
      simp only [List.lookup, upd]
      by_cases h : y = x
      · subst h; simp [Option.or_assoc]
      · have : (y == x) = false := by simpa using h
        simp only [this, h, if_false, Option.or_none]
  rw [e]
  funext y; simp
/-- into a def's body, its arguments as names -/
theorem enterU {d : FD} (xs : List Str) {args : List Value} {k : Nat} (R : Rm A k) (G : Gd p names free mg s.heap) (hf : FnAt mg s.heap nm d f)
    (hb : ∀ pm cd doc, bindArgs (docDef nm d.1 d.2.1 d.2.2 pm cd doc) ⟨args, []⟩ = pure (xs.zip args)) (hloc : (xs.all fun x => decide (d.2.2.names.lookup x = some .local)) = true)
    (hsc : (d.2.2.isCoroutine || d.2.2.isGenerator || !(d.2.2.kind == .function) || d.2.2.names.any fun x => x.2 == .cell) = false)
    (h : ∀ L cd s', Wd s L s' ((xs.zip args).foldl (fun m b => upd m b.1 b.2) nom) [] →
      wpAny (model prog w) (A.deeper (envOf nm d.2.2 L f cd)) (execs d.2.1 (envOf nm d.2.2 L f cd)) (fun fl s' => Q (match fl with | .ret v => v | _ => .none) s') NE s') :
    wpAny (model prog w) A (call (.ref f) args) Q E s := by
  refine enter R G hf hb ?_ hsc fun L cd s' W => h L cd s' ?_
  · refine List.all_eq_true.mpr fun b hb => ?_
    exact List.all_eq_true.mp hloc b.1 (List.of_mem_zip hb).1
  · rw [← lookup_upd]; exact W
end
noncomputable abbrev fnNames : List Str := [Str.ofString "normal", Str.ofString "nat_of", Str.ofString "compare", Str.ofString "add", Str.ofString "sub", Str.ofString "shift_left", Str.ofString "shift_right", Str.ofString "bits", Str.ofString "low",
  Str.ofString "ring_one", Str.ofString "ring_add", Str.ofString "ring_sub", Str.ofString "ring_neg", Str.ofString "need_ring", Str.ofString "ring_fold", Str.ofString "ring_shift", Str.ofString "ring_mul", Str.ofString "element_of", Str.ofString "mul_school",
  Str.ofString "_law_turned", Str.ofString "_law_limbs", Str.ofString "_law_due", Str.ofString "_law_done", Str.ofString "_law_is_kept"]
noncomputable abbrev freeNames : List Str := [Str.ofString "len", Str.ofString "range", Str.ofString "abs", Str.ofString "int", Str.ofString "enumerate"]
noncomputable abbrev GD (mg : Str → Option Value) (h : Heap) : Prop := Gd pw fnNames freeNames mg h
theorem bb_len : bootBuiltins (Str.ofString "len") = some (.builtin "len") := by decide +kernel
theorem bb_abs : bootBuiltins (Str.ofString "abs") = some (.builtin "abs") := by decide +kernel
theorem bb_range : bootBuiltins (Str.ofString "range") = some (.type "range") := by decide +kernel
theorem bb_enumerate : bootBuiltins (Str.ofString "enumerate") = some (.type "enumerate") := by decide +kernel
theorem bb_int : bootBuiltins (Str.ofString "int") = some (.type "int") := by decide +kernel
theorem int_as {m : Str → Option Value} {x : Str} {i j : Int} {t : Tok} (h : m x = some (.int i t)) (e : i = j) : m x = some (.int j t) := e ▸ h
theorem iteD {c P Q : Prop} [Decidable c] (h : c → P) (h' : ¬ c → Q) : if decide c = true then P else Q := by
  by_cases e : c
  · rw [if_pos (decide_eq_true e)]; exact h e
  · rw [if_neg (by rw [decide_eq_false e]; exact Bool.false_ne_true)]; exact h' e
theorem iteT {P Q : Prop} (h : P) : if true = true then P else Q := by rw [if_pos rfl]; exact h
theorem iteF {P Q : Prop} (h : Q) : if false = true then P else Q := by rw [if_neg Bool.false_ne_true]; exact h
noncomputable def d_normal : {d : FD // fdOf pw (Str.ofString "normal") = some d} := ⟨_, rfl⟩
noncomputable def tEnd (xs : List Int) : Nat → Nat
  | 0 => 0
  | k + 1 => if xs.getD k 0 = 0 then tEnd xs k else k + 1
noncomputable def trim (xs : List Int) : List Int := xs.take (tEnd xs xs.length)
section
variable {prog : Program} {w : World} {A : Around} {E : Value → Shared → Prop} {s₀ s : Shared} {L f : Addr} {m mg : Str → Option Value} {own : List (Addr × Ow)} {nm : Str} {sc : Scope} {cd : Value}
  {p : Program} {names free : List Str} {env : Env} {Q : Value → Shared → Prop}
theorem words1 : True := by
  k_with "lk" => (first | with_reducible exact upd_eq | with_reducible assumption | ((with_reducible refine upd_ne ?_ (by decide +kernel)); k_extra "lk"))
  k_with "wd" => (with_reducible assumption)
  k_with "dk" => (decide +kernel)
  k_with "mem" => (first | with_reducible exact List.Mem.head _ | ((with_reducible refine List.Mem.tail _ ?_); k_extra "mem"))
  k_with "il" => (first | with_reducible assumption | ((with_reducible refine' Wd.il ?Wz1 ?hz1); (case Wz1 => k_extra "wd"); (case hz1 => with_reducible assumption)) | ((with_reducible refine' Wd.mem ?Wz2 ?hz2); (case Wz2 => k_extra "wd"); (case hz2 => k_extra "mem")))
  k_with "bb" => (first | exact bb_len | exact bb_abs)
  k_with "nx" => (intro _ _; intro _)
  k_with "ar" => (first | assumption | omega | decide)
  k_with "ev" => (first
  | ((with_reducible refine' eName ?Wz3 ?hvz3 ?hcz3 ?_); (case Wz3 => k_extra "wd"); (case hvz3 => k_extra "lk"); (case hcz3 => k_extra "dk"))
  | ((with_reducible refine' eInt ?Wz4 ?_); (case Wz4 => k_extra "wd"); intro _ _ _)
  | with_reducible refine Constant_bool ?_
  | with_reducible refine' wpAny_BinOp ?_
  | ((with_reducible refine' wpAny_Compare1 ?_ ?hmz6); (case hmz6 => exact rfl))
  | with_reducible refine' UnaryOp_ ?_
  | with_reducible refine' IfExp_ ?_
  | ((with_reducible refine' eSliceTo ?_ ?htz9); (case htz9 => (intro _ _; exact rfl)))
  | ((with_reducible refine' eSliceAll ?_ ?htz10); (case htz10 => (intro _ _; exact rfl)))
  | with_reducible refine' Subscript_ ?_
  | ((with_reducible refine' eCallB ?Gz12 ?Wz12 ?hfz12 ?hvz12 ?hnz12 ?hcz12 ?_ ?hez12 ?hstz12 ?hpz12); (case Gz12 => k_extra "wd"); (case Wz12 => k_extra "wd"); (case hfz12 => k_extra "dk"); (case hvz12 => k_extra "bb"); (case hnz12 => k_extra "dk"); (case hcz12 => k_extra "dk"); (case hez12 => exact rfl); (case hstz12 => exact rfl); (case hpz12 => exact rfl)))
  k_with "op" => (first
  | ((with_reducible refine' oAdd ?Wz13 ?_); (case Wz13 => k_extra "wd"); intro _ _ _)
  | ((with_reducible refine' oSub ?Wz14 ?_); (case Wz14 => k_extra "wd"); intro _ _ _)
  | ((with_reducible refine' oAnd ?Wz15 ?_); (case Wz15 => k_extra "wd"); intro _ _ _)
  | ((with_reducible refine' oOr ?Wz16 ?_); (case Wz16 => k_extra "wd"); intro _ _ _)
  | ((with_reducible refine' iAdd ?Wz17 ?_); (case Wz17 => k_extra "wd"); intro _ _ _)
  | ((with_reducible refine' iSub ?Wz18 ?_); (case Wz18 => k_extra "wd"); intro _ _ _)
  | ((with_reducible refine' iOr ?Wz19 ?_); (case Wz19 => k_extra "wd"); intro _ _ _)
  | ((with_reducible refine' oNeg ?Wz20 ?_); (case Wz20 => k_extra "wd"); intro _ _ _)
  | ((with_reducible refine' oShr ?Wz21 ?h0z21 ?_); (case Wz21 => k_extra "wd"); (case h0z21 => k_extra "ar"); intro _ _ _)
  | ((with_reducible refine' iShr ?Wz22 ?h0z22 ?_); (case Wz22 => k_extra "wd"); (case h0z22 => k_extra "ar"); intro _ _ _)
  | ((with_reducible refine' oMod ?Wz23 ?h0z23 ?_); (case Wz23 => k_extra "wd"); (case h0z23 => k_extra "ar"); intro _ _ _)
  | with_reducible refine' cLt ?_ | with_reducible refine' cGt ?_ | with_reducible refine' cGe ?_ | with_reducible refine' cLe ?_ | with_reducible refine' cEq ?_ | with_reducible refine' cNe ?_
  | with_reducible refine wpAny_truthy_bool ?_
  | ((with_reducible refine' callLen ?Wz30 ?hlz30 ?hzz30 ?_); (case Wz30 => k_extra "wd"); (case hlz30 => k_extra "il"); (case hzz30 => k_extra "ar"); intro _ _ _)
  | ((with_reducible refine' xItem ?hlz31 ?h0z31 ?h1z31 ?hzz31 ?hsz31 ?_); (case hlz31 => k_extra "il"); (case h0z31 => k_extra "ar"); (case h1z31 => k_extra "ar"); (case hzz31 => k_extra "ar"); (case hsz31 => with_unfolding_all rfl); intro _))
  k_with "sm" => (first
  | ((with_reducible refine' args_cons ?_ ?hez32); (case hez32 => exact rfl))
  | with_reducible refine args_nil ?_
  | ((with_reducible refine' sSet ?hcz33 ?_ ?hsz33); (case hcz33 => k_extra "dk"); (case hsz33 => exact rfl))
  | ((with_reducible refine' sAug ?Wz34 ?hvz34 ?hcz34 ?_); (case Wz34 => k_extra "wd"); (case hvz34 => k_extra "lk"); (case hcz34 => k_extra "dk"))
  | with_reducible refine sIf ?_
  | with_reducible refine iteT ?_ | with_reducible refine iteF ?_
  | with_reducible refine sRet ?_
  | with_reducible refine sSkip ?_
  | ((with_reducible refine' wpAny_isTrue_Compare1 ?_ ?hmz35); (case hmz35 => exact rfl))
  | with_reducible refine isTrue_and_nil ?_ | with_reducible refine isTrue_or_nil ?_
  | with_reducible refine isTrue_and ?_ | with_reducible refine isTrue_or ?_ | with_reducible refine isTrue_not ?_ | with_reducible refine isTrue_IfExp ?_
  | ((with_reducible refine' isTrue_plain ?_ ?hez36); (case hez36 => exact rfl))
  | ((with_reducible refine ⟨_, _, _, (by k_extra "wd"), ?_⟩); intro _ _)
  | ((with_reducible refine' ⟨_, _, _, _, _, _, _, _, rfl, rfl, ?Wz37, ?hlz37, ?h0z37, ?hzz37, ?_⟩); (case Wz37 => k_extra "wd"); (case hlz37 => k_extra "il"); (case h0z37 => k_extra "ar"); (case hzz37 => k_extra "ar"); intro _ _ _)
  | ((with_reducible refine' ⟨_, _, _, _, _, _, rfl, ?Wz38, ?hlz38, ?hzz38, ?_⟩); (case Wz38 => k_extra "wd"); (case hlz38 => k_extra "il"); (case hzz38 => k_extra "ar"); intro _ _ _))
  k_with "st" => (first | k_extra "ev" | k_extra "op" | k_extra "sm")
  trivial
theorem normal_ok {a : Addr} {xs : List Int} (R : Rm A 1) (G : GD mg s.heap) (hf : FnAt mg s.heap (Str.ofString "normal") d_normal.1 f)
    (ha : IL s.heap a xs) (hz : xs.length ≤ 1048576) (h : RetL s (trim xs) Q) : wpAny (model prog w) A (call (.ref f) [.ref a]) Q E s := by
  refine enterU [Str.ofString "a"] R G hf (by intro _ _ _; rfl) (by decide +kernel) (by decide +kernel) ?_
  intro L cd s' W
  dsimp only [List.foldl, List.zip, List.zipWith] at W
  have R' := R.deeper (envOf (Str.ofString "normal") d_normal.1.2.2 L f cd)
  refine sSet (by decide +kernel) ?_
  repeat k_extra "st"
  refine sWhile (fun n s' => ∃ m t, Wd s L s' m [] ∧ m (Str.ofString "a") = some (.ref a) ∧ m (Str.ofString "end") = some (.int (n : Nat) t) ∧ n ≤ xs.length ∧ tEnd xs n = tEnd xs xs.length) ?_ xs.length
    ⟨_, _, by k_extra "wd", by k_extra "lk", by k_extra "lk", Nat.le_refl _, rfl⟩
  rintro n s ⟨m, t, W, ma, me, hn, hE⟩
  repeat k_extra "st"
  refine iteD (fun h1 => ?_) (fun h1 => ?_)
  · repeat k_extra "st"
    refine iteD (fun h2 => ?_) (fun h2 => ?_)
    · repeat k_extra "st"
      refine ⟨rfl, n - 1, by omega, _, _, by k_extra "wd", by k_extra "lk", int_as (by k_extra "lk") (by omega), by omega, ?_⟩
      · rw [← hE]
        obtain ⟨k, rfl⟩ : ∃ k, n = k + 1 := ⟨n - 1, by omega⟩
        have : xs.getD k 0 = 0 := by rw [← h2]; congr 1; omega
        show tEnd xs k = if xs.getD k 0 = 0 then tEnd xs k else k + 1
        rw [if_pos this]
    · repeat k_extra "st"
      refine h.back (by k_extra "wd") ?_
      obtain ⟨k, rfl⟩ : ∃ k, n = k + 1 := ⟨n - 1, by omega⟩
      have : ¬ xs.getD k 0 = 0 := by intro e; apply h2; rw [← e]; congr 1; omega
      have e : tEnd xs xs.length = k + 1 := by
        rw [← hE]
        show (if xs.getD k 0 = 0 then tEnd xs k else k + 1) = k + 1
        rw [if_neg this]
      show _ ∈ [(_, Ow.li (xs.take (k + 1)))]
      unfold trim
      rw [e]; exact .head _
  · repeat k_extra "st"
    refine h.back (by k_extra "wd") ?_
    obtain rfl : n = 0 := by omega
    unfold trim
    rw [← hE]
    exact .head _
end
end Sj
-- SjP
namespace Sj
open PySem PySem.Calls PyProof.Rows PySem.W
/-- the j-th limb of e bits -/
noncomputable def D (e x j : Nat) : Nat := x / 2 ^ (e * j) % 2 ^ e
noncomputable def dg (e n x : Nat) : List Int := (List.range n).map fun j => ((D e x j : Nat) : Int)
noncomputable def nl (e x : Nat) : Nat := if x = 0 then 0 else x.log2 / e + 1
/-- the limbs of a number, none in front -/
noncomputable def lm (e x : Nat) : List Int := dg e (nl e x) x
theorem dg_len (e n x : Nat) : (dg e n x).length = n := by simp [dg]
theorem lm_len (e x : Nat) : (lm e x).length = nl e x := dg_len ..
theorem dg_get {e n x j : Nat} (h : j < n) : (dg e n x).getD j 0 = ((D e x j : Nat) : Int) := by
  simp [dg, List.getD_eq_getElem?_getD, h]
theorem dg_succ (e n x : Nat) : dg e (n + 1) x = dg e n x ++ [((D e x n : Nat) : Int)] := by simp [dg, List.range_succ]
theorem dg_zero (e x : Nat) : dg e 0 x = [] := rfl
theorem pow_pos' (n : Nat) : 0 < 2 ^ n := Nat.pow_pos (by decide)
theorem pow_le {a b : Nat} (h : a ≤ b) : 2 ^ a ≤ 2 ^ b := Nat.pow_le_pow_right (by decide) h
theorem lt_of_pow {a b : Nat} (h : 2 ^ a < 2 ^ b) : a < b := by
  rcases Nat.lt_or_ge a b with q | q
  · exact q
  · exact absurd h (Nat.not_lt.mpr (pow_le q))
theorem nl_zero (e : Nat) : nl e 0 = 0 := by simp [nl]
theorem lm_zero (e : Nat) : lm e 0 = [] := by unfold lm; rw [nl_zero]; rfl
theorem nl_lt {e : Nat} (he : 0 < e) (x : Nat) : x < 2 ^ (e * nl e x) := by
  unfold nl
  split
  · subst_vars; simp
  · rename_i h
    refine Nat.lt_of_lt_of_le Nat.lt_log2_self (pow_le ?_)
    have := Nat.div_add_mod x.log2 e
    have := Nat.mod_lt x.log2 he
    rw [Nat.mul_add]; omega
theorem nl_le {e x : Nat} (hx : x ≠ 0) : 2 ^ (e * (nl e x - 1)) ≤ x := by
  unfold nl
  rw [if_neg hx, Nat.add_sub_cancel]
  exact Nat.le_trans (pow_le (Nat.mul_div_le _ _)) (Nat.log2_self_le hx)
theorem nl_pos {e x : Nat} (hx : x ≠ 0) : 0 < nl e x := by unfold nl; rw [if_neg hx]; exact Nat.succ_pos _
theorem nl_eq {e x n : Nat} (he : 0 < e) (h : x < 2 ^ (e * n)) (h' : n = 0 ∨ 2 ^ (e * (n - 1)) ≤ x) : nl e x = n := by
  rcases Nat.eq_zero_or_pos x with rfl | hx
  · rw [nl_zero]
    rcases h' with rfl | h'
    · rfl
    · exact absurd h' (Nat.not_le.mpr (pow_pos' _))
  · have hx' : x ≠ 0 := by omega
    have a := lt_of_pow (Nat.lt_of_le_of_lt (nl_le (e := e) hx') h)
    have a' : nl e x - 1 < n := Nat.lt_of_mul_lt_mul_left a
    have p := nl_pos (e := e) hx'
    rcases h' with rfl | h'
    · omega
    · have b := lt_of_pow (Nat.lt_of_le_of_lt h' (nl_lt he x))
      have b' : n - 1 < nl e x := Nat.lt_of_mul_lt_mul_left b
      omega
theorem nl_le_of {e x n : Nat} (he : 0 < e) (h : x < 2 ^ (e * n)) : nl e x ≤ n := by
  rcases Nat.eq_zero_or_pos x with rfl | hx
  · rw [nl_zero]; omega
  · have a := lt_of_pow (Nat.lt_of_le_of_lt (nl_le (e := e) (by omega : x ≠ 0)) h)
    have a' : nl e x - 1 < n := Nat.lt_of_mul_lt_mul_left a
    omega
theorem lm_eq {e x n : Nat} (he : 0 < e) (h : x < 2 ^ (e * n)) (h' : n = 0 ∨ 2 ^ (e * (n - 1)) ≤ x) : lm e x = dg e n x := by unfold lm; rw [nl_eq he h h']
theorem D_high {e x j n : Nat} (h : x < 2 ^ (e * n)) (hj : n ≤ j) : D e x j = 0 := by
  unfold D
  rw [Nat.div_eq_of_lt (Nat.lt_of_lt_of_le h (pow_le (Nat.mul_le_mul_left _ hj))), Nat.zero_mod]
theorem lm_get {e : Nat} (he : 0 < e) (x j : Nat) : (lm e x).getD j 0 = ((D e x j : Nat) : Int) := by
  rcases Nat.lt_or_ge j (nl e x) with h | h
  · exact dg_get h
  · rw [D_high (nl_lt he x) h]
    simp [List.getD_eq_getElem?_getD, lm_len, h]
theorem P_succ (e i : Nat) : 2 ^ (e * (i + 1)) = 2 ^ (e * i) * 2 ^ e := by rw [Nat.mul_add, Nat.mul_one, Nat.pow_add]
theorem div_succ (e x i : Nat) : x / 2 ^ (e * (i + 1)) = x / 2 ^ (e * i) / 2 ^ e := by rw [P_succ, Nat.div_div_eq_div_mul]
theorem div_split (e x i : Nat) : x / 2 ^ (e * i) = 2 ^ e * (x / 2 ^ (e * (i + 1))) + D e x i := by rw [div_succ]; exact (Nat.div_add_mod _ _).symm
theorem D_lt (e x i : Nat) : D e x i < 2 ^ e := Nat.mod_lt _ (pow_pos' _)
theorem take_dg {e n x k : Nat} (h : k ≤ n) : (dg e n x).take k = dg e k x := by
  unfold dg
  rw [← List.map_take, List.take_range, Nat.min_eq_left h]
theorem tEnd_dg {e n x : Nat} (he : 0 < e) : ∀ k, k ≤ n → x < 2 ^ (e * k) → tEnd (dg e n x) k = nl e x
  | 0, _, hx => by
    have : x = 0 := by simp at hx; exact hx
    subst this; rw [nl_zero]; rfl
  | k + 1, hk, hx => by
    show (if (dg e n x).getD k 0 = 0 then tEnd (dg e n x) k else k + 1) = _
    rw [dg_get (by omega)]
    have hq : x / 2 ^ (e * k) < 2 ^ e := by
      rw [Nat.div_lt_iff_lt_mul (pow_pos' _), Nat.mul_comm, ← P_succ]; exact hx
    have eD : D e x k = x / 2 ^ (e * k) := Nat.mod_eq_of_lt hq
    by_cases h : D e x k = 0
    · rw [if_pos (by omega)]
      refine tEnd_dg he k (by omega) ?_
      rw [eD] at h
      exact (Nat.div_eq_zero_iff_lt (pow_pos' _)).mp h
    · rw [if_neg (by omega)]
      refine (nl_eq he hx (.inr ?_)).symm
      rw [Nat.add_sub_cancel]
      rw [eD] at h
      rcases Nat.lt_or_ge x (2 ^ (e * k)) with q | q
      · exact absurd (Nat.div_eq_of_lt q) h
      · exact q
theorem trim_dg {e n x : Nat} (he : 0 < e) (h : x < 2 ^ (e * n)) : trim (dg e n x) = lm e x := by
  unfold trim
  rw [dg_len, tEnd_dg he n (Nat.le_refl _) h, take_dg (nl_le_of he h)]; rfl
theorem trim_lm {e : Nat} (he : 0 < e) (x : Nat) : trim (lm e x) = lm e x := trim_dg he (nl_lt he x)
theorem lm_one {e : Nat} (he : 0 < e) : lm e 1 = [1] := by
  rw [lm_eq (n := 1) he (by rw [Nat.mul_one]; exact Nat.one_lt_two_pow (by omega)) (.inr (by simp))]
  rw [dg_succ, dg_zero]
  have : D e 1 0 = 1 := by
    unfold D
    rw [Nat.mul_zero, Nat.pow_zero, Nat.div_one]
    exact Nat.mod_eq_of_lt (Nat.one_lt_two_pow (by omega))
  rw [this]; rfl
theorem il_one {e : Nat} {h : Heap} {a : Addr} (he : 0 < e) (x : IL h a [1]) : IL h a (lm e 1) := by rw [lm_one he]; exact x
theorem c_and (t e : Nat) : Builtin.bitAnd ((t : Nat) : Int) ((2 : Int) ^ e - 1) = ((t % 2 ^ e : Nat) : Int) := by rw [kbt_mask]; push_cast; rfl
theorem c_shr (t e : Nat) : ((t : Nat) : Int).fdiv ((2 : Int) ^ e) = ((t / 2 ^ e : Nat) : Int) := by
  rw [Int.fdiv_eq_ediv_of_nonneg _ (Int.le_of_lt (Int.pow_pos (by decide)))]; push_cast; rfl
theorem nat_and_shl {a k : Nat} (h : a < 2 ^ k) (d : Nat) : a &&& (d * 2 ^ k) = 0 := by
  apply Nat.eq_of_testBit_eq
  intro i
  rw [Nat.testBit_and, Nat.zero_testBit, Nat.testBit_mul_two_pow]
  by_cases hi : k ≤ i
  · rw [Nat.testBit_lt_two_pow (Nat.lt_of_lt_of_le h (pow_le hi))]; rfl
  · simp [hi]
theorem c_or {a k : Nat} (h : a < 2 ^ k) (d : Nat) : Builtin.bitOr ((a : Nat) : Int) (((d * 2 ^ k : Nat)) : Int) = ((a + d * 2 ^ k : Nat) : Int) := by
  rw [bitOr_and, bitAnd_pp (Int.natCast_nonneg _) (Int.natCast_nonneg _)]
  simp only [Int.toNat_natCast]
  rw [nat_and_shl h]
  generalize d * 2 ^ k = z
  omega
theorem add_step {e x y i c : Nat} (h : (x + y) / 2 ^ (e * i) = x / 2 ^ (e * i) + y / 2 ^ (e * i) + c) :
    D e (x + y) i = (c + (D e x i + D e y i)) % 2 ^ e ∧ (x + y) / 2 ^ (e * (i + 1)) = x / 2 ^ (e * (i + 1)) + y / 2 ^ (e * (i + 1)) + (c + (D e x i + D e y i)) / 2 ^ e := by
  have e1 : (x + y) / 2 ^ (e * i) = 2 ^ e * (x / 2 ^ (e * (i + 1)) + y / 2 ^ (e * (i + 1))) + (c + (D e x i + D e y i)) := by
    rw [h, div_split e x i, div_split e y i, Nat.mul_add (2 ^ e)]; ac_rfl
  refine ⟨?_, ?_⟩
  · show (x + y) / 2 ^ (e * i) % 2 ^ e = _
    rw [e1, Nat.mul_add_mod]
  · rw [div_succ e (x + y), e1, Nat.mul_add_div (pow_pos' _)]
end Sj
-- SjG
namespace Sj
open PySem PySem.Calls PyProof.Rows PySem.W
section
variable {prog : Program} {w : World} {A : Around} {E : Value → Shared → Prop} {s₀ s : Shared} {L f : Addr} {m mg : Str → Option Value} {own : List (Addr × Ow)} {nm : Str} {sc : Scope} {cd : Value}
  {p : Program} {names free : List Str} {env : Env}
theorem unpackTup {t : Addr} {vs : List Value} {n : Nat} {Q : List Value → Shared → Prop} (W : Wd s₀ L s m own) (hh : A.handled = none) (ht : s.heap.get? t = some { cls := .type "tuple", data := .seq vs.toArray }) (hn : n = vs.length)
    (h : ∀ s', Wd s₀ L s' m own → Q vs s') : wpAny (model prog w) A (unpackItems (.ref t) n none) Q E s := by
  have e : n = vs.toArray.size := by rw [List.size_toArray]; exact hn
  rw [e]
  refine wpAny_unpackItems_tuple hh (items := vs.toArray) ⟨_, ht, rfl, 0, rfl⟩ fun h' he => h _ ?_
  exact W.kp (s' := { s with heap := h' }) (fun b o q => he b o (Nat.ne_of_lt (Heap.lt_size q)) q) ((Rest.refl s).set _ _)
theorem setName {x : Str} {v : Value} {Q : Unit → Shared → Prop} (W : Wd s₀ L s m own) (hc : isLoc sc x = true) (h : ∀ s', Wd s₀ L s' (upd m x v) own → Q () s') : wpAny (model prog w) A (bindName (envOf nm sc L f cd) x v) Q E s := by
  obtain ⟨a, b, c⟩ := isLoc.out hc
  exact wpAny_bindName (wpAny_storeName_local b W.fr.ns (fun h' hn hsb => h _ (W.store hn hsb)) (by show (sc.kind == .class || (sc.kind == .module && L != mainGlobals)) = false; rw [a]; rfl))
theorem eTuple {elts : List Expr} {k : Nat} {pos : Pos} {Q : Value → Shared → Prop} (h : wpAny (model prog w) A (spliced (backTo pos (starEach elts env))) (fun vs s₁ => vs.length ≤ 16777216 ∧ ∃ s₀ L m own, Wd s₀ L s₁ m own ∧ ∀ t s₂, Wd s₀ L s₂ m ((t, .ob { cls := .type "tuple", data := .seq vs.toArray }) :: own) → Q (.ref t) s₂) E s) :
    wpAny (model prog w) A (eval (.Tuple elts k pos) env) Q E s := by
  refine wpAny_Tuple_spliced (wpAny_mono h (fun vs s₁ h₁ => ?_) fun _ _ e => e)
  obtain ⟨hz, s₀, L, m, own, W, k'⟩ := h₁
  exact ⟨hz, k' _ _ (W.push _ rfl _)⟩
theorem sTup2 (x₁ x₂ : Str) {elts : List Expr} {k k' : Nat} {tp tp' pos : Pos} {e₁ e₂ : Expr} {rest : List Stmt} {Q : Flow → Shared → Prop} (hh : A.handled = none) (hc₁ : isLoc sc x₁ = true) (hc₂ : isLoc sc x₂ = true)
    (h : wpAny (model prog w) A (eval e₁ (envOf nm sc L f cd)) (fun v₁ s₁ => wpAny (model prog w) A (eval e₂ (envOf nm sc L f cd)) (fun v₂ s₂ =>
      ∃ s₀ m own, Wd s₀ L s₂ m own ∧ ∀ s₃, Wd s₀ L s₃ (upd (upd m x₂ v₂) x₁ v₁) own → wpAny (model prog w) A (execs rest (envOf nm sc L f cd)) Q E s₃) E s₁) E s)
    (hs : swapsWithSole [.Tuple elts k tp] (.Tuple [e₁, e₂] k' tp') pos.line (envOf nm sc L f cd) = pure false)
    (hw : swappedStores [.Tuple elts k tp] (.Tuple [e₁, e₂] k' tp') (envOf nm sc L f cd) = pure (some [x₁, x₂]))
    (h1 : starEach [e₁, e₂] (envOf nm sc L f cd) = (false, eval e₁ (envOf nm sc L f cd)) :: starEach [e₂] (envOf nm sc L f cd))
    (h2 : starEach [e₂] (envOf nm sc L f cd) = (false, eval e₂ (envOf nm sc L f cd)) :: starEach [] (envOf nm sc L f cd)) :
    wpAny (model prog w) A (execs (.Assign [.Tuple elts k tp] (.Tuple [e₁, e₂] k' tp') pos :: rest) (envOf nm sc L f cd)) Q E s := by
  refine wpAny_execs_cons (Assign_Tuple_swapped (eTuple (args_cons (wpAny_mono h (fun v₁ s₁ h₁ => args_cons (wpAny_mono h₁ (fun v₂ s₂ h₂ => args_nil ?_) fun _ _ e => e) h2) fun _ _ e => e) h1)) hs hw)
  obtain ⟨s₀, m, own, W, q⟩ := h₂
  refine ⟨by simp, s₀, L, m, own, W, fun t s₃ W₁ => ?_⟩
  refine unpackTup W₁ hh (W₁.obj (.head _)) rfl fun s₄ W₂ => ?_
  have W₃ := W₂.drop (List.sublist_cons_self _ _)
  show wpAny _ A (do holding [v₁] (bindName _ x₂ v₂); do holding [] (bindName _ x₁ v₁); pure ()) _ _ _
  refine wpAny_bind (wpAny_holding (setName W₃ hc₂ fun s₅ W₄ => ?_))
  exact wpAny_bind (wpAny_holding (setName W₄ hc₁ fun s₆ W₅ => wpAny_pure (q _ W₅)))
theorem sTup3 (x₁ x₂ x₃ : Str) {elts : List Expr} {k k' : Nat} {tp tp' pos : Pos} {e₁ e₂ e₃ : Expr} {rest : List Stmt} {Q : Flow → Shared → Prop} (hh : A.handled = none) (hc₁ : isLoc sc x₁ = true) (hc₂ : isLoc sc x₂ = true) (hc₃ : isLoc sc x₃ = true)
    (h : wpAny (model prog w) A (eval e₁ (envOf nm sc L f cd)) (fun v₁ s₁ => wpAny (model prog w) A (eval e₂ (envOf nm sc L f cd)) (fun v₂ s₂ => wpAny (model prog w) A (eval e₃ (envOf nm sc L f cd)) (fun v₃ s₂ =>
      ∃ s₀ m own, Wd s₀ L s₂ m own ∧ ∀ s₃, Wd s₀ L s₃ (upd (upd (upd m x₃ v₃) x₂ v₂) x₁ v₁) own → wpAny (model prog w) A (execs rest (envOf nm sc L f cd)) Q E s₃) E s₂) E s₁) E s)
    (hs : swapsWithSole [.Tuple elts k tp] (.Tuple [e₁, e₂, e₃] k' tp') pos.line (envOf nm sc L f cd) = pure false)
    (hw : swappedStores [.Tuple elts k tp] (.Tuple [e₁, e₂, e₃] k' tp') (envOf nm sc L f cd) = pure (some [x₁, x₂, x₃]))
    (h1 : starEach [e₁, e₂, e₃] (envOf nm sc L f cd) = (false, eval e₁ (envOf nm sc L f cd)) :: starEach [e₂, e₃] (envOf nm sc L f cd))
    (h2 : starEach [e₂, e₃] (envOf nm sc L f cd) = (false, eval e₂ (envOf nm sc L f cd)) :: starEach [e₃] (envOf nm sc L f cd))
    (h3 : starEach [e₃] (envOf nm sc L f cd) = (false, eval e₃ (envOf nm sc L f cd)) :: starEach [] (envOf nm sc L f cd)) :
    wpAny (model prog w) A (execs (.Assign [.Tuple elts k tp] (.Tuple [e₁, e₂, e₃] k' tp') pos :: rest) (envOf nm sc L f cd)) Q E s := by
  refine wpAny_execs_cons (Assign_Tuple_swapped (eTuple (args_cons (wpAny_mono h (fun v₁ s₁ h₁ => args_cons (wpAny_mono h₁ (fun v₂ s₂ h₂ => args_cons (wpAny_mono h₂ (fun v₃ s₃ h₃ => args_nil ?_) fun _ _ e => e) h3) fun _ _ e => e) h2) fun _ _ e => e) h1)) hs hw)
  obtain ⟨s₀, m, own, W, q⟩ := h₃
  refine ⟨by simp, s₀, L, m, own, W, fun t s₃ W₁ => ?_⟩
  refine unpackTup W₁ hh (W₁.obj (.head _)) rfl fun s₄ W₂ => ?_
  have W₃ := W₂.drop (List.sublist_cons_self _ _)
  show wpAny _ A (do holding [v₂, v₁] (bindName _ x₃ v₃); do holding [v₁] (bindName _ x₂ v₂); do holding [] (bindName _ x₁ v₁); pure ()) _ _ _
  refine wpAny_bind (wpAny_holding (setName W₃ hc₃ fun s₅ W₄ => ?_))
  refine wpAny_bind (wpAny_holding (setName W₄ hc₂ fun s₅ W₄ => ?_))
  exact wpAny_bind (wpAny_holding (setName W₄ hc₁ fun s₆ W₅ => wpAny_pure (q _ W₅)))
/-- an empty list displayed -/
theorem eNil {pos : Pos} {Q : Value → Shared → Prop} (W : Wd s₀ L s m own) (h : ∀ r s', Wd s₀ L s' m ((r, .li []) :: own) → Q (.ref r) s') : wpAny (model prog w) A (eval (.List [] pos) env) Q E s := by
  refine List_ (spliced_nil (wpAny_newList (h _ _ ?_) (by show 0 ≤ _; exact Nat.zero_le _)))
  exact W.pushI (vs := []) .nil s.toks
/-- a list of one int displayed -/
theorem eOne {e : Expr} {pos : Pos} {Q : Value → Shared → Prop}
    (h : wpAny (model prog w) A (eval e env) (fun v s₁ => ∃ s₀ L m own i t, v = .int i t ∧ Wd s₀ L s₁ m own ∧ ∀ r s', Wd s₀ L s' m ((r, .li [i]) :: own) → Q (.ref r) s') E s)
    (he : starEach [e] env = (false, eval e env) :: starEach [] env := by rfl) : wpAny (model prog w) A (eval (.List [e] pos) env) Q E s := by
  refine List_ (args_cons (wpAny_mono h (fun v s₁ h₁ => args_nil ?_) fun _ _ e => e) he)
  obtain ⟨s₀, L, m, own, i, t, rfl, W, k⟩ := h₁
  refine wpAny_newList (k _ _ ?_) (by show 1 ≤ 16777216; decide)
  exact W.pushI (vs := [.int i t]) (.cons i t .nil) s₁.toks
theorem foldl_rep (x : Value) : ∀ n : Nat, (List.foldl (fun x1 x2 => x1 ++ x2) (#[] : Array Value) (List.replicate n #[x])).toList = List.replicate n x := by
  have e : ∀ (n : Nat) (a : Array Value), (List.foldl (fun x1 x2 => x1 ++ x2) a (List.replicate n #[x])).toList = a.toList ++ List.replicate n x := by
    intro n
    induction n with
    | zero => intro a; simp
    | succ n ih => intro a; rw [List.replicate_succ, List.foldl_cons, ih, List.replicate_succ]; simp
  intro n; rw [e]; rfl
theorem ints_rep (i : Int) (t : Tok) : ∀ n : Nat, IntsAre (List.replicate n (.int i t)) (List.replicate n i)
  | 0 => .nil
  | n + 1 => .cons i t (ints_rep i t n)
theorem Wd.news (W : Wd s₀ L s m own) : ∃ news : List (Addr × Obj), News s₀.heap L s.heap news ∧ ∀ p ∈ own, ∃ o, (p.1, o) ∈ news ∧ s.heap.get? p.1 = some o := by
  refine ⟨own.filterMap fun p => (s.heap.get? p.1).map fun o => (p.1, o), fun q hq => ?_, fun p hp => ?_⟩
  · obtain ⟨p, hp, e⟩ := List.mem_filterMap.mp hq
    obtain ⟨o, ho, rfl⟩ := Option.map_eq_some_iff.mp e
    exact ⟨ho, (W.ow p hp).2⟩
  · obtain ⟨o, ho⟩ := (W.ow p hp).1.some
    exact ⟨o, List.mem_filterMap.mpr ⟨p, hp, by rw [ho]; rfl⟩, ho⟩
theorem Wd.afterNew {news : List (Addr × Obj)} {h' : Heap} {o : Obj} {x : Ow} {k : Nat} (W : Wd s₀ L s m own) (hn : ∀ p ∈ own, ∃ o, (p.1, o) ∈ news ∧ s.heap.get? p.1 = some o)
    (F' : Fr s₀.heap L h' m) (N' : News s₀.heap L h' ((s.heap.objs.size, o) :: news)) (hx : x.At h' s.heap.objs.size) : Wd s₀ L { s with heap := h', toks := k } m ((s.heap.objs.size, x) :: own) := by
  refine ⟨F', fun p hp => ?_, ?_, W.rest.set _ _⟩
  · rcases List.mem_cons.mp hp with rfl | hp
    · exact ⟨hx, (N' _ (.head _)).2⟩
    · refine ⟨(W.ow p hp).1.at fun o e => ?_, (W.ow p hp).2⟩
      obtain ⟨o', h1, h2⟩ := hn p hp
      rw [e] at h2; cases h2
      exact (N' _ (.tail _ h1)).1
  · refine List.nodup_cons.mpr ⟨fun h => ?_, W.nd⟩
    obtain ⟨p, hp, e⟩ := List.mem_map.mp h
    have := (W.ow p hp).1.lt
    rw [e] at this; exact Nat.lt_irrefl _ this
/-- [i] * n -/
theorem oRep {l : Addr} {i x : Int} {u : Tok} {Q : Value → Shared → Prop} (W : Wd s₀ L s m own) (hl : IL s.heap l [i]) (h0 : 0 ≤ x) (hz : x ≤ 1000000) (h : ∀ r s', Wd s₀ L s' m ((r, .li (List.replicate x.toNat i)) :: own) → Q (.ref r) s') :
    wpAny (model prog w) A (binaryOp .Mult (.ref l) (.int x u)) Q E s := by
  obtain ⟨vs, n, e, hi⟩ := hl
  obtain ⟨news, N, hn⟩ := W.news
  cases hi with
  | cons _ t hr =>
    cases hr
    refine mul_list W.fr N e (by omega) (by omega) (by show 1 * x.toNat ≤ 2 ^ 24; omega) fun h' F' N' => h _ _ (W.afterNew (k := s.toks) hn F' N' ?_)
    have e1 := (N' _ (.head _)).1
    refine ⟨List.replicate x.toNat (Value.int i t), 0, ?_, ints_rep i t _⟩
    have e2 : (List.foldl (fun x1 x2 => x1 ++ x2) (#[] : Array Value) (List.replicate x.toNat #[Value.int i t])) = (List.replicate x.toNat (Value.int i t)).toArray := by
      apply Array.ext'
      rw [foldl_rep]
    exact e1.trans (congrArg (fun a => some (listOf a 0)) e2)
/-- two lists of ints put together -/
theorem oCat {a b : Addr} {xs ys : List Int} {Q : Value → Shared → Prop} (W : Wd s₀ L s m own) (ha : IL s.heap a xs) (hb : IL s.heap b ys) (hz : xs.length + ys.length ≤ 16777216) (h : ∀ r s', Wd s₀ L s' m ((r, .li (xs ++ ys)) :: own) → Q (.ref r) s') :
    wpAny (model prog w) A (binaryOp .Add (.ref a) (.ref b)) Q E s := by
  obtain ⟨vs, hl, hi⟩ := ha.isList
  obtain ⟨us, hl', hi'⟩ := hb.isList
  obtain ⟨news, N, hn⟩ := W.news
  refine add_lists_ints W.fr N hl hl' hi hi' (fun h' F' N' hI => h _ _ (W.afterNew (k := s.toks) hn F' N' ⟨vs ++ us, 0, (N' _ (.head _)).1, hI⟩)) ?_
  show _ ≤ 16777216
  exact hz
end
end Sj
namespace Sj
open PySem PySem.Calls PyProof.Rows PySem.W
-- SjH
theorem words2 : True := by
  k_with_none
  k_with "lk" => (first | with_reducible exact upd_eq | with_reducible assumption | ((with_reducible refine upd_ne ?_ (by decide +kernel)); k_extra "lk"))
  k_with "wd" => (with_reducible assumption)
  k_with "dk" => (decide +kernel)
  k_with "mem" => (first | with_reducible assumption | with_reducible exact List.mem_cons_self | ((with_reducible refine List.mem_cons_of_mem _ ?_); k_extra "mem"))
  k_with "il" => (first | with_reducible assumption | ((with_reducible refine' Wd.il ?Wz39 ?hz39); (case Wz39 => k_extra "wd"); (case hz39 => with_reducible assumption)) | ((with_reducible refine' Wd.mem ?Wz40 ?hz40); (case Wz40 => k_extra "wd"); (case hz40 => k_extra "mem")) | ((with_reducible refine' Wd.held ?Wz41 ?hz41); (case Wz41 => k_extra "wd"); (case hz41 => k_extra "hd")) | ((with_reducible refine' il_one ?hez42 ?hz42); (case hez42 => k_extra "ar"); (case hz42 => k_extra "il1")))
  k_with "il1" => ((with_reducible refine' Wd.mem ?Wz43 ?hz43); (case Wz43 => k_extra "wd"); (case hz43 => k_extra "mem"))
  k_with "hd" => (first | with_reducible assumption | with_reducible exact Held.head | ((with_reducible refine Held.cons ?_); k_extra "hd"))
  k_with "bb" => (first | exact bb_len | exact bb_abs)
  k_with "bt" => (first | exact bb_range | exact bb_enumerate | exact bb_int)
  k_with "nx" => (intro _ _; intro _)
  k_with "ar" => (first | with_reducible assumption | with_reducible exact Int.natCast_nonneg _ | omega | decide | (simp only [dg_len, lm_len, List.length_take, List.length_append, List.length_cons, List.length_nil, List.length_replicate] at *; omega))
  k_with "up" => (first | with_reducible exact Up.head | with_reducible exact Up.tail Up.head | with_reducible exact Up.tail (Up.tail Up.head) | with_reducible exact Up.tail (Up.tail (Up.tail Up.head)) | with_reducible exact Up.tail (Up.tail (Up.tail (Up.tail Up.head))))
  k_with "bits" => (first | (have hB := bits_one; omega) | omega)
  k_with "ev" => (first
  | ((with_reducible refine' eName ?Wz44 ?hvz44 ?hcz44 ?_); (case Wz44 => k_extra "wd"); (case hvz44 => k_extra "lk"); (case hcz44 => k_extra "dk"))
  | ((with_reducible refine' eInt ?Wz45 ?_); (case Wz45 => k_extra "wd"); intro _ _ _)
  | with_reducible refine Constant_bool ?_
  | with_reducible refine' wpAny_BinOp ?_
  | ((with_reducible refine' wpAny_Compare1 ?_ ?hmz47); (case hmz47 => exact rfl))
  | with_reducible refine' UnaryOp_ ?_
  | ((with_reducible refine' eSliceTo ?_ ?htz49); (case htz49 => (intro _ _; exact rfl)))
  | ((with_reducible refine' eSliceAll ?_ ?htz50); (case htz50 => (intro _ _; exact rfl)))
  | with_reducible refine' Subscript_ ?_
  | ((with_reducible refine' eCallB ?Gz52 ?Wz52 ?hfz52 ?hvz52 ?hnz52 ?hcz52 ?_ ?hez52 ?hstz52 ?hpz52); (case Wz52 => k_extra "wd"); (case Gz52 => k_extra "wd"); (case hfz52 => k_extra "dk"); (case hvz52 => k_extra "bb"); (case hnz52 => k_extra "dk"); (case hcz52 => k_extra "dk"); (case hez52 => exact rfl); (case hstz52 => exact rfl); (case hpz52 => exact rfl))
  | ((with_reducible refine' eCallT ?Gz53 ?Wz53 ?hfz53 ?hvz53 ?hnz53 ?hcz53 ?_ ?hez53 ?hstz53 ?hpz53); (case Wz53 => k_extra "wd"); (case Gz53 => k_extra "wd"); (case hfz53 => k_extra "dk"); (case hvz53 => k_extra "bt"); (case hnz53 => k_extra "dk"); (case hcz53 => k_extra "dk"); (case hez53 => exact rfl); (case hstz53 => exact rfl); (case hpz53 => exact rfl)))
  k_with "op" => (first
  | ((with_reducible refine' oAdd ?Wz54 ?_); (case Wz54 => k_extra "wd"); intro _ _ _)
  | ((with_reducible refine' oSub ?Wz55 ?_); (case Wz55 => k_extra "wd"); intro _ _ _)
  | ((with_reducible refine' oAnd ?Wz56 ?_); (case Wz56 => k_extra "wd"); intro _ _ _)
  | ((with_reducible refine' oOr ?Wz57 ?_); (case Wz57 => k_extra "wd"); intro _ _ _)
  | ((with_reducible refine' iAdd ?Wz58 ?_); (case Wz58 => k_extra "wd"); intro _ _ _)
  | ((with_reducible refine' iSub ?Wz59 ?_); (case Wz59 => k_extra "wd"); intro _ _ _)
  | ((with_reducible refine' iOr ?Wz60 ?_); (case Wz60 => k_extra "wd"); intro _ _ _)
  | ((with_reducible refine' oNeg ?Wz61 ?_); (case Wz61 => k_extra "wd"); intro _ _ _)
  | ((with_reducible refine' oShr ?Wz62 ?h0z62 ?_); (case Wz62 => k_extra "wd"); (case h0z62 => k_extra "ar"); intro _ _ _)
  | ((with_reducible refine' iShr ?Wz63 ?h0z63 ?_); (case Wz63 => k_extra "wd"); (case h0z63 => k_extra "ar"); intro _ _ _)
  | ((with_reducible refine' oMod ?Wz64 ?h0z64 ?_); (case Wz64 => k_extra "wd"); (case h0z64 => k_extra "ar"); intro _ _ _)
  | with_reducible refine' cLt ?_ | with_reducible refine' cGt ?_ | with_reducible refine' cGe ?_ | with_reducible refine' cLe ?_ | with_reducible refine' cEq ?_ | with_reducible refine' cNe ?_
  | with_reducible refine wpAny_truthy_bool ?_
  | ((with_reducible refine' callLen ?Wz71 ?hlz71 ?hzz71 ?_); (case Wz71 => k_extra "wd"); (case hlz71 => k_extra "il"); (case hzz71 => k_extra "ar"); intro _ _ _)
  | ((with_reducible refine' xItem ?hlz72 ?h0z72 ?h1z72 ?hzz72 ?hsz72 ?_); (case hlz72 => k_extra "il"); (case h0z72 => k_extra "ar"); (case h1z72 => k_extra "ar"); (case hzz72 => k_extra "ar"); (case hsz72 => with_unfolding_all rfl); intro _))
  k_with "cf" => (first
  | ((with_reducible refine' eCallF ?Gz73 ?Wz73 ?hgz73 ?hcz73 ?_ ?hez73 ?hstz73); (case Wz73 => k_extra "wd"); (case Gz73 => k_extra "wd"); (case hgz73 => k_extra "wd"); (case hcz73 => k_extra "dk"); (case hez73 => exact rfl); (case hstz73 => exact rfl))
  | ((with_reducible refine' ⟨_, _, ?Wz74, ?_⟩); (case Wz74 => k_extra "wd"); intro _ _))
  k_with "sm" => (first
  | ((with_reducible refine' args_cons ?_ ?hez75); (case hez75 => exact rfl))
  | with_reducible refine args_nil ?_
  | ((with_reducible refine' sSet ?hcz76 ?_ ?hsz76); (case hcz76 => k_extra "dk"); (case hsz76 => exact rfl))
  | ((with_reducible refine' sAug ?Wz77 ?hvz77 ?hcz77 ?_); (case Wz77 => k_extra "wd"); (case hvz77 => k_extra "lk"); (case hcz77 => k_extra "dk"))
  | with_reducible refine sIf ?_
  | with_reducible refine iteT ?_ | with_reducible refine iteF ?_
  | with_reducible refine sRet ?_
  | with_reducible refine sSkip ?_
  | ((with_reducible refine' wpAny_isTrue_Compare1 ?_ ?hmz78); (case hmz78 => exact rfl))
  | with_reducible refine isTrue_and_nil ?_ | with_reducible refine isTrue_or_nil ?_
  | with_reducible refine isTrue_and ?_ | with_reducible refine isTrue_or ?_ | with_reducible refine isTrue_not ?_ | with_reducible refine isTrue_IfExp ?_
  | ((with_reducible refine' isTrue_plain ?_ ?hez79); (case hez79 => exact rfl))
  | ((with_reducible refine ⟨_, _, _, (by k_extra "wd"), ?_⟩); intro _ _)
  | ((with_reducible refine' ⟨_, _, _, _, _, _, _, _, rfl, rfl, ?Wz80, ?hlz80, ?h0z80, ?hzz80, ?_⟩); (case Wz80 => k_extra "wd"); (case hlz80 => k_extra "il"); (case h0z80 => k_extra "ar"); (case hzz80 => k_extra "ar"); intro _ _ _)
  | ((with_reducible refine' ⟨_, _, _, _, _, _, rfl, ?Wz81, ?Uz81, ?hzz81, ?_⟩); (case Wz81 => k_extra "wd"); (case Uz81 => k_extra "up"); (case hzz81 => k_extra "ar"); intro _ _)
  | ((with_reducible refine' ⟨_, _, _, _, _, _, rfl, ?Wz82, ?hlz82, ?hzz82, ?_⟩); (case Wz82 => k_extra "wd"); (case hlz82 => k_extra "il"); (case hzz82 => k_extra "ar"); intro _ _ _))
  k_with "tp" => (first
  | ((with_reducible refine' sTup2 ?_ ?_ ?hhz83 ?hc1z83 ?hc2z83 ?_ ?hsz83 ?hwz83 ?h1z83 ?h2z83); (case hwz83 => exact rfl); (case hhz83 => exact Rm.hd (by assumption)); (case hc1z83 => k_extra "dk"); (case hc2z83 => k_extra "dk"); (case hsz83 => exact rfl); (case h1z83 => exact rfl); (case h2z83 => exact rfl))
  | ((with_reducible refine' sTup3 ?_ ?_ ?_ ?hhz84 ?hc1z84 ?hc2z84 ?hc3z84 ?_ ?hsz84 ?hwz84 ?h1z84 ?h2z84 ?h3z84); (case hwz84 => exact rfl); (case hhz84 => exact Rm.hd (by assumption)); (case hc1z84 => k_extra "dk"); (case hc2z84 => k_extra "dk"); (case hc3z84 => k_extra "dk"); (case hsz84 => exact rfl); (case h1z84 => exact rfl); (case h2z84 => exact rfl); (case h3z84 => exact rfl))
  | ((with_reducible refine' eNil ?Wz85 ?_); (case Wz85 => k_extra "wd"); intro _ _ _)
  | ((with_reducible refine' oShl ?Wz86 ?h0z86 ?hsz86 ?_); (case Wz86 => k_extra "wd"); (case h0z86 => k_extra "ar"); (case hsz86 => k_extra "bits"); intro _ _ _)
  | ((with_reducible refine' sAppend ?Wz87 ?hxz87 ?hcz87 ?hDz87 ?_ ?hez87 ?hsz87 ?hstz87); (case Wz87 => k_extra "wd"); (case hxz87 => k_extra "lk"); (case hDz87 => k_extra "mem"); (case hcz87 => k_extra "dk"); (case hez87 => exact rfl); (case hsz87 => exact rfl); (case hstz87 => exact rfl)))
  k_with "nn" => (first
  | ((with_reducible refine' enumIter ?Wz88 ?hlz88 ?_); (case Wz88 => k_extra "wd"); (case hlz88 => k_extra "il"); intro _ _ _ _)
  | ((with_reducible refine' sSetAt ?_ ?hsz89); (case hsz89 => exact rfl))
  | ((with_reducible refine' ⟨_, _, _, _, _, _, _, _, _, _, _, rfl, rfl, rfl, ?Wz90, ?Uz90, ?hkz90, ?hzz90, ?_⟩); (case Wz90 => k_extra "wd"); (case Uz90 => k_extra "up"); (case hkz90 => k_extra "ar"); (case hzz90 => k_extra "ar"); intro _ _)
  | ((with_reducible refine' nMul ?Wz91 ?haz91 ?hbz91 ?hkz91 ?_); (case Wz91 => k_extra "wd"); (case haz91 => with_reducible assumption); (case hbz91 => with_reducible assumption); (case hkz91 => k_extra "ar"); intro _ _ _)
  | ((with_reducible refine' nItemG ?hlz92 ?hvz92 ?h1z92 ?hzz92 ?hsz92 ?_); (case hlz92 => k_extra "il"); (case hvz92 => with_reducible assumption); (case h1z92 => k_extra "ar"); (case hzz92 => k_extra "ar"); (case hsz92 => with_unfolding_all rfl); intro _)
  | ((with_reducible refine' nSub ?Wz93 ?hbz93 ?_); (case Wz93 => k_extra "wd"); (case hbz93 => k_extra "ar"); intro _ _ _)
  | ((with_reducible refine' nRep ?Wz94 ?hlz94 ?hzz94 ?_); (case Wz94 => k_extra "wd"); (case hlz94 => k_extra "il"); (case hzz94 => k_extra "ar"); intro _ _ _)
  | ((with_reducible refine' nShl ?Wz95 ?haz95 ?hkz95 ?hez95 ?_); (case Wz95 => k_extra "wd"); (case haz95 => with_reducible assumption); (case hkz95 => k_extra "ar"); (case hez95 => k_extra "ar"); intro _ _ _)
  | ((with_reducible refine' eOne ?_ ?hez96); (case hez96 => exact rfl))
  | ((with_reducible refine' ⟨_, _, _, _, _, _, rfl, ?Wz97, ?_⟩); (case Wz97 => k_extra "wd"); intro _ _ _)
  | ((with_reducible refine' iterList ?Wz98 ?hlz98 ?_); (case Wz98 => k_extra "wd"); (case hlz98 => k_extra "il"); intro _ _ _)
  | ((with_reducible refine' eBitLen ?_ ?hez99); (case hez99 => exact rfl))
  | ((with_reducible refine' nTop ?hlz100 ?hez100 ?h1z100 ?hzz100 ?hsz100 ?_); (case hlz100 => k_extra "il"); (case hez100 => k_extra "ar"); (case h1z100 => k_extra "ar"); (case hzz100 => k_extra "ar"); (case hsz100 => with_unfolding_all rfl); intro _)
  | ((with_reducible refine' oCat ?Wz101 ?haz101 ?hbz101 ?hzz101 ?_); (case Wz101 => k_extra "wd"); (case haz101 => k_extra "il"); (case hbz101 => k_extra "il"); (case hzz101 => k_extra "ar"); intro _ _ _)
  | ((with_reducible refine' oSub1 ?Wz102 ?_); (case Wz102 => k_extra "wd"); intro _ _ _)
  | ((with_reducible refine' oNeg1 ?Wz103 ?_); (case Wz103 => k_extra "wd"); intro _ _ _)
  | ((with_reducible refine' rangeIterDown ?Wz104 ?hnz104 ?_); (case Wz104 => k_extra "wd"); (case hnz104 => k_extra "ar"); intro _ _ _)
  | ((with_reducible refine' sFor ?_ ?hsz105); (case hsz105 => (intro _; exact rfl)))
  | ((with_reducible refine' rangeIter1 ?Wz106 ?hbz106 ?_); (case Wz106 => k_extra "wd"); (case hbz106 => k_extra "ar"); intro _ _ _)
  | ((with_reducible refine' rangeIter2 ?Wz107 ?haz107 ?hbz107 ?_); (case Wz107 => k_extra "wd"); (case haz107 => k_extra "ar"); (case hbz107 => k_extra "ar"); intro _ _ _)
  | ((with_reducible refine' nAdd ?Wz108 ?_); (case Wz108 => k_extra "wd"); intro _ _ _)
  | ((with_reducible refine' nAdd1 ?Wz109 ?_); (case Wz109 => k_extra "wd"); intro _ _ _)
  | ((with_reducible refine' niAdd ?Wz110 ?_); (case Wz110 => k_extra "wd"); intro _ _ _)
  | ((with_reducible refine' nShl1 ?Wz111 ?hez111 ?_); (case Wz111 => k_extra "wd"); (case hez111 => k_extra "ar"); intro _ _ _)
  | ((with_reducible refine' nShr ?Wz112 ?_); (case Wz112 => k_extra "wd"); intro _ _ _)
  | ((with_reducible refine' niShr ?Wz113 ?_); (case Wz113 => k_extra "wd"); intro _ _ _)
  | ((with_reducible refine' nAnd ?Wz114 ?_); (case Wz114 => k_extra "wd"); intro _ _ _)
  | ((with_reducible refine' nOr ?Wz115 ?haz115 ?_); (case Wz115 => k_extra "wd"); (case haz115 => k_extra "ar"); intro _ _ _)
  | ((with_reducible refine' niOr ?Wz116 ?haz116 ?_); (case Wz116 => k_extra "wd"); (case haz116 => k_extra "ar"); intro _ _ _)
  | ((with_reducible refine' nFloor ?Wz117 ?hbz117 ?hcz117 ?_); (case Wz117 => k_extra "wd"); (case hbz117 => k_extra "ar"); (case hcz117 => k_extra "ar"); intro _ _ _)
  | ((with_reducible refine' nMod ?Wz118 ?hbz118 ?_); (case Wz118 => k_extra "wd"); (case hbz118 => k_extra "ar"); intro _ _ _)
  | ((with_reducible refine' nItem ?hlz119 ?hez119 ?h1z119 ?hzz119 ?hsz119 ?_); (case hlz119 => k_extra "il"); (case hez119 => k_extra "ar"); (case h1z119 => k_extra "ar"); (case hzz119 => k_extra "ar"); (case hsz119 => with_unfolding_all rfl); intro _)
  | ((with_reducible refine' nLen ?Wz120 ?hlz120 ?hzz120 ?_); (case Wz120 => k_extra "wd"); (case hlz120 => k_extra "il"); (case hzz120 => k_extra "ar"); intro _ _ _))
  k_with "st" => (first | k_extra "ev" | k_extra "nn" | k_extra "op" | k_extra "sm" | k_extra "tp" | k_extra "cf" | k_extra "cl")
  trivial
section
theorem bits_one : Builtin.Int.intBits (1 : Int) = 1 := by decide +kernel
theorem bits_nat {a k : Nat} (h : a < 2 ^ k) : Builtin.Int.intBits ((a : Nat) : Int) ≤ k := intBits_le_iff.mpr (by rw [Int.natAbs_natCast]; exact h)
/-- a list that stands in the base or is owned -/
noncomputable def Held (s₀ : Shared) (own : List (Addr × Ow)) (a : Addr) (xs : List Int) : Prop := IL s₀.heap a xs ∨ (a, Ow.li xs) ∈ own
theorem Held.base {s₀ : Shared} {own : List (Addr × Ow)} {a : Addr} {xs : List Int} (h : IL s₀.heap a xs) : Held s₀ own a xs := .inl h
theorem Held.head {s₀ : Shared} {own : List (Addr × Ow)} {a : Addr} {xs : List Int} : Held s₀ ((a, .li xs) :: own) a xs := .inr (.head _)
theorem Held.cons {s₀ : Shared} {own : List (Addr × Ow)} {a : Addr} {xs : List Int} {p : Addr × Ow} (h : Held s₀ own a xs) : Held s₀ (p :: own) a xs := h.imp id fun h => .tail _ h
theorem Wd.held {s₀ s : Shared} {L : Addr} {m : Str → Option Value} {own : List (Addr × Ow)} {a : Addr} {xs : List Int} (W : Wd s₀ L s m own) (h : Held s₀ own a xs) : IL s.heap a xs := h.elim (fun h => W.il h) fun h => W.mem h
section
variable {prog : Program} {w : World} {A : Around} {E : Value → Shared → Prop} {s₀ s : Shared} {L f : Addr} {m mg : Str → Option Value} {own : List (Addr × Ow)} {nm : Str} {sc : Scope} {cd : Value}
  {p : Program} {names free : List Str} {env : Env} {Q : Value → Shared → Prop} {R : Result → Shared → Prop} {t u : Tok}
theorem nAdd {a b : Nat} (W : Wd s₀ L s m own) (h : ∀ s' t, Wd s₀ L s' m own → Q (.int ((a + b : Nat) : Int) t) s') : wpAny (model prog w) A (binaryOp .Add (.int (a : Nat) t) (.int (b : Nat) u)) Q E s := oAdd W h
theorem niAdd {a b : Nat} (W : Wd s₀ L s m own) (h : ∀ s' t, Wd s₀ L s' m own → Q (.int ((a + b : Nat) : Int) t) s') : wpAny (model prog w) A (inplaceOp .Add (.int (a : Nat) t) (.int (b : Nat) u)) Q E s := iAdd W h
theorem nAdd1 {a : Nat} (W : Wd s₀ L s m own) (h : ∀ s' t, Wd s₀ L s' m own → Q (.int ((a + 1 : Nat) : Int) t) s') : wpAny (model prog w) A (binaryOp .Add (.int (a : Nat) t) (.int 1 u)) Q E s := oAdd W h
theorem nShl1 {e : Nat} (W : Wd s₀ L s m own) (he : e ≤ 100000) (h : ∀ s' t, Wd s₀ L s' m own → Q (.int ((2 : Int) ^ e) t) s') : wpAny (model prog w) A (binaryOp .LShift (.int 1 t) (.int (e : Nat) u)) Q E s :=
  oShl W (by omega) (by rw [bits_one]; omega) fun s' t W => by rw [Int.toNat_natCast, Int.one_mul]; exact h s' t W
theorem nShl {a e k : Nat} (W : Wd s₀ L s m own) (ha : a < 2 ^ k) (hk : k ≤ 100000) (he : e ≤ 100000) (h : ∀ s' t, Wd s₀ L s' m own → Q (.int ((a * 2 ^ e : Nat) : Int) t) s') : wpAny (model prog w) A (binaryOp .LShift (.int (a : Nat) t) (.int (e : Nat) u)) Q E s :=
  oShl W (by omega) (by have := bits_nat ha; omega) fun s' t W => by
    have := h s' t W
    rw [Int.toNat_natCast]; push_cast at this ⊢; exact this
theorem nShr {a e : Nat} (W : Wd s₀ L s m own) (h : ∀ s' t, Wd s₀ L s' m own → Q (.int ((a / 2 ^ e : Nat) : Int) t) s') : wpAny (model prog w) A (binaryOp .RShift (.int (a : Nat) t) (.int (e : Nat) u)) Q E s :=
  oShr W (by omega) fun s' t W => by rw [Int.toNat_natCast, c_shr]; exact h s' t W
theorem niShr {a e : Nat} (W : Wd s₀ L s m own) (h : ∀ s' t, Wd s₀ L s' m own → Q (.int ((a / 2 ^ e : Nat) : Int) t) s') : wpAny (model prog w) A (inplaceOp .RShift (.int (a : Nat) t) (.int (e : Nat) u)) Q E s :=
  iShr W (by omega) fun s' t W => by rw [Int.toNat_natCast, c_shr]; exact h s' t W
theorem nAnd {a e : Nat} (W : Wd s₀ L s m own) (h : ∀ s' t, Wd s₀ L s' m own → Q (.int ((a % 2 ^ e : Nat) : Int) t) s') : wpAny (model prog w) A (binaryOp .BitAnd (.int (a : Nat) t) (.int ((2 : Int) ^ e - 1) u)) Q E s :=
  oAnd W fun s' t W => by rw [c_and]; exact h s' t W
theorem nOr {a d k : Nat} (W : Wd s₀ L s m own) (ha : a < 2 ^ k) (h : ∀ s' t, Wd s₀ L s' m own → Q (.int ((a + d * 2 ^ k : Nat) : Int) t) s') : wpAny (model prog w) A (binaryOp .BitOr (.int (a : Nat) t) (.int ((d * 2 ^ k : Nat) : Int) u)) Q E s :=
  oOr W fun s' t W => by rw [c_or ha]; exact h s' t W
theorem niOr {a d k : Nat} (W : Wd s₀ L s m own) (ha : a < 2 ^ k) (h : ∀ s' t, Wd s₀ L s' m own → Q (.int ((a + d * 2 ^ k : Nat) : Int) t) s') : wpAny (model prog w) A (inplaceOp .BitOr (.int (a : Nat) t) (.int ((d * 2 ^ k : Nat) : Int) u)) Q E s :=
  iOr W fun s' t W => by rw [c_or ha]; exact h s' t W
theorem nFloor {a b : Nat} (W : Wd s₀ L s m own) (hb : 0 < b) (hb' : b ≤ 1000000) (h : ∀ s' t, Wd s₀ L s' m own → Q (.int ((a / b : Nat) : Int) t) s') : wpAny (model prog w) A (binaryOp .FloorDiv (.int (a : Nat) t) (.int (b : Nat) u)) Q E s :=
  PyProof.Rows.floordiv_int (by omega) (by rw [Int.fdiv_eq_ediv_of_nonneg _ (by omega)]; exact h _ _ W.tk) (.inl (PyProof.noPylong_small (by omega)))
theorem nMod {a b : Nat} (W : Wd s₀ L s m own) (hb : 0 < b) (h : ∀ s' t, Wd s₀ L s' m own → Q (.int ((a % b : Nat) : Int) t) s') : wpAny (model prog w) A (binaryOp .Mod (.int (a : Nat) t) (.int (b : Nat) u)) Q E s :=
  oMod W (by omega) fun s' t W => by rw [Int.fmod_eq_emod_of_nonneg _ (by omega)]; exact h s' t W
/-- a limb of a number -/
theorem nItem {value slice : Expr} {a : Addr} {e x k : Nat} {u : Tok} (hl : IL s.heap a (lm e x)) (he : 0 < e) (h1 : k < nl e x) (hz : nl e x ≤ 1000000)
    (hs : subscripted slice false (.ref a) (.int (k : Nat) u) = operate [.ref a, .int (k : Nat) u] (getItem (.ref a) (.int (k : Nat) u)))
    (h : ∀ t, Q (.int ((D e x k : Nat) : Int) t) s) :
    wpAny (model prog w) A (subscriptTail value slice (.ref a) (.int (k : Nat) u)) Q E s :=
  xItem hl (by omega) (by rw [lm_len]; omega) (by rw [lm_len]; omega) hs fun t => by rw [Int.toNat_natCast, lm_get he]; exact h t
theorem nLen {a : Addr} {e x : Nat} (W : Wd s₀ L s m own) (hl : IL s.heap a (lm e x)) (hz : nl e x ≤ 1000000) (h : ∀ s' t, Wd s₀ L s' m own → Q (.int ((nl e x : Nat) : Int) t) s') :
    wpAny (model prog w) A (call (.builtin "len") [.ref a]) Q E s := callLen W hl (by rw [lm_len]; omega) (by rw [lm_len]; exact h)
/-- an if whose ways meet -/
theorem sIfJ {test : Expr} {body orelse rest : List Stmt} {pos : Pos} {Q : Flow → Shared → Prop} (J : Shared → Prop)
    (h : wpAny (model prog w) A (isTrue test env (eval test env)) (fun b s₂ => if b = true then wpAny (model prog w) A (execs body env) (fun f s' => f = .next ∧ J s') NE s₂
      else wpAny (model prog w) A (execs orelse env) (fun f s' => f = .next ∧ J s') NE s₂) NE s) (k : ∀ s', J s' → wpAny (model prog w) A (execs rest env) Q E s') :
    wpAny (model prog w) A (execs (.If test body orelse pos :: rest) env) Q E s := by
  refine sIf (noE (wpAny_mono h (fun b s₂ h₂ => ?_) fun _ _ x => x))
  cases b with
  | true => rw [if_pos rfl] at h₂ ⊢; exact wpAny_mono h₂ (fun f s' q => by obtain ⟨rfl, j⟩ := q; exact k s' j) fun _ _ x => x.elim
  | false => rw [if_neg Bool.false_ne_true] at h₂ ⊢; exact wpAny_mono h₂ (fun f s' q => by obtain ⟨rfl, j⟩ := q; exact k s' j) fun _ _ x => x.elim
theorem rangeIter1 {b : Nat} (W : Wd s₀ L s m own) (hb : b ≤ 1000000) (h : ∀ it s', Wd s₀ L s' m ((it, .ob (rIter ((0 : Nat) : Int) ((b - 0 : Nat) : Int) 1)) :: own) → Q (.ref it) s') :
    wpAny (model prog w) A (call (.type "range") [.int (b : Nat) t]) (fun xv s₁ => wpAny (model prog w) A (pyIter xv) Q E s₁) E s :=
  callRange1 W fun r s' u t v W hr => iterRange (n := b - 0) W hr (small_one (by omega) (by omega) (by omega) (by omega)) (by rw [rangeSize_one]; split <;> omega) h
theorem rangeIter2 {a b : Nat} (W : Wd s₀ L s m own) (ha : a ≤ 1000000) (hb : b ≤ 1000000) (h : ∀ it s', Wd s₀ L s' m ((it, .ob (rIter (a : Nat) ((b - a : Nat) : Int) 1)) :: own) → Q (.ref it) s') :
    wpAny (model prog w) A (call (.type "range") [.int (a : Nat) t, .int (b : Nat) u]) (fun xv s₁ => wpAny (model prog w) A (pyIter xv) Q E s₁) E s :=
  callRange2 W fun r s' u t v W hr => iterRange (n := b - a) W hr (small_one (by omega) (by omega) (by omega) (by omega)) (by rw [rangeSize_one]; split <;> omega) h
/-- over a range by ones -/
theorem loopUp {x : Str} {px : Pos} {body : List Stmt} {it : Addr} {a n : Nat} (hh : A.handled = none) (hc : isLoc sc x = true) (J : Nat → (Str → Option Value) → List (Addr × Ow) → Prop)
    (W : Wd s₀ L s m ((it, .ob (rIter (a : Nat) (n : Nat) 1)) :: own)) (h0 : J a m own)
    (turn : ∀ i s m own t P, a ≤ i → i < a + n → J i m own → Wd s₀ L s (upd m x (.int (i : Nat) t)) ((it, P) :: own) →
      wpAny (model prog w) A (execs body (envOf nm sc L f cd)) (Turned s₀ L it P (J (i + 1)) R) NE s)
    (fin : ∀ s m own, J (a + n) m own → Wd s₀ L s m own → R (.ok .next) s) :
    codeAny (model prog w) A (.forLoop (.Name x px) (.ref it) body [] (envOf nm sc L f cd)) R s := by
  refine loopRange hh hc (fun i => J (a + i)) W h0 (fun i s m own t P hi hJ W => ?_) fin
  rw [show ((a : Nat) : Int) + (i : Nat) * 1 = ((a + i : Nat) : Int) by omega] at W
  exact turn (a + i) s m own t P (by omega) (by omega) hJ W
end
end
-- FnatOf
section
noncomputable def d_nat_of : {d : FD // fdOf pw (Str.ofString "nat_of") = some d} := ⟨_, rfl⟩
section
variable {prog : Program} {w : World} {A : Around} {E : Value → Shared → Prop} {s₀ s : Shared} {L f : Addr} {m mg : Str → Option Value} {own : List (Addr × Ow)} {nm : Str} {sc : Scope} {cd : Value}
  {p : Program} {names free : List Str} {env : Env} {Q : Value → Shared → Prop}
theorem nat_of_ok {e x : Nat} {t u : Tok} (R : Rm A 1) (G : GD mg s.heap) (hf : FnAt mg s.heap (Str.ofString "nat_of") d_nat_of.1 f)
    (he : 1 ≤ e) (he8 : e ≤ 8) (hx : x < 2 ^ 100) (h : RetL s (lm e x) Q) : wpAny (model prog w) A (call (.ref f) [.int (x : Nat) t, .int (e : Nat) u]) Q E s := by
  refine enterU [Str.ofString "number", Str.ofString "w"] R G hf (by intro _ _ _; rfl) (by decide +kernel) (by decide +kernel) ?_
  intro L cd s' W
  dsimp only [List.foldl, List.zip, List.zipWith] at W
  have R' := R.deeper (envOf (Str.ofString "nat_of") d_nat_of.1.2.2 L f cd)
  refine sIf ?_
  repeat k_extra "st"
  refine iteD (fun h1 => absurd h1 (by omega)) (fun h1 => ?_)
  repeat k_extra "st"
  refine sWhile (fun n s' => ∃ m i t fa, Wd s L s' m [(fa, .li (dg e i x))] ∧ m (Str.ofString "found") = some (.ref fa) ∧ m (Str.ofString "mask") = some (.int ((2 : Int) ^ e - 1) t) ∧ (∃ t, m (Str.ofString "number") = some (.int (n : Nat) t)) ∧ m (Str.ofString "w") = some (.int (e : Nat) u) ∧
      n = x / 2 ^ (e * i) ∧ (i = 0 ∨ 2 ^ (e * (i - 1)) ≤ x)) ?_ x
    ⟨_, 0, _, _, by rw [dg_zero]; k_extra "wd", by k_extra "lk", by k_extra "lk", ⟨_, by k_extra "lk"⟩, by k_extra "lk", by simp, .inl rfl⟩
  rintro n s ⟨m, i, t, fa, W, m1, m2, ⟨t', m3⟩, m4, hn, hi⟩
  have hi100 : i ≤ 101 := by
    rcases hi with rfl | hi
    · omega
    · have := lt_of_pow (Nat.lt_of_le_of_lt hi hx)
      have : i - 1 ≤ e * (i - 1) := Nat.le_mul_of_pos_left _ he
      omega
  repeat k_extra "st"
  refine iteD (fun h1 => ?_) (fun h1 => ?_)
  · have hq : 2 ^ (e * i) ≤ x := by
      rcases Nat.lt_or_ge x (2 ^ (e * i)) with q | q
      · rw [Nat.div_eq_of_lt q] at hn; omega
      · exact q
    repeat k_extra "st"
    refine ⟨rfl, n / 2 ^ e, Nat.div_lt_self (by omega) (Nat.one_lt_two_pow (by omega)), _, i + 1, _, _, Wd.as (by k_extra "wd") (by rw [dg_succ, show D e x i = n % 2 ^ e by rw [hn]; rfl]), by k_extra "lk", by k_extra "lk", ⟨_, by k_extra "lk"⟩, by k_extra "lk", ?_, .inr (by rw [Nat.add_sub_cancel]; exact hq)⟩
    rw [div_succ, hn]
  · repeat k_extra "st"
    refine h.back (by k_extra "wd") ?_
    have : x < 2 ^ (e * i) := by
      rcases Nat.lt_or_ge x (2 ^ (e * i)) with q | q
      · exact q
      · have := Nat.div_pos q (pow_pos' _); omega
    rw [lm_eq he this hi]
    exact .head _
end
end
-- Fadd
section
noncomputable def d_add : {d : FD // fdOf pw (Str.ofString "add") = some d} := ⟨_, rfl⟩
theorem nl_bound {e x : Nat} (he : 1 ≤ e) (hx : x < 2 ^ 100) : nl e x ≤ 100 :=
  nl_le_of he (Nat.lt_of_lt_of_le hx (pow_le (Nat.le_mul_of_pos_left _ he)))
noncomputable def AddJ (e u v : Nat) (la lb : Addr) (tw : Tok) (i : Nat) (m : Str → Option Value) (own : List (Addr × Ow)) : Prop :=
  ∃ fa c t t', own = [(fa, .li (dg e i (u + v)))] ∧ m (Str.ofString "found") = some (.ref fa) ∧ m (Str.ofString "carry") = some (.int (c : Nat) t) ∧ m (Str.ofString "a") = some (.ref la) ∧ m (Str.ofString "b") = some (.ref lb) ∧
    m (Str.ofString "w") = some (.int (e : Nat) tw) ∧ m (Str.ofString "mask") = some (.int ((2 : Int) ^ e - 1) t') ∧ (u + v) / 2 ^ (e * i) = u / 2 ^ (e * i) + v / 2 ^ (e * i) + c
section
variable {prog : Program} {w : World} {A : Around} {E : Value → Shared → Prop} {s₀ s : Shared} {L f : Addr} {m mg : Str → Option Value} {own : List (Addr × Ow)} {nm : Str} {sc : Scope} {cd : Value}
  {p : Program} {names free : List Str} {env : Env} {Q : Value → Shared → Prop}
theorem add_ok {a b : Addr} {e x y : Nat} {tw : Tok} (R : Rm A 1) (G : GD mg s.heap) (hf : FnAt mg s.heap (Str.ofString "add") d_add.1 f)
    (he : 1 ≤ e) (he8 : e ≤ 8) (hx : x < 2 ^ 99) (hy : y < 2 ^ 99) (ha : IL s.heap a (lm e x)) (hb : IL s.heap b (lm e y)) (h : RetL s (lm e (x + y)) Q) : wpAny (model prog w) A (call (.ref f) [.ref a, .ref b, .int (e : Nat) tw]) Q E s := by
  refine enterU [Str.ofString "a", Str.ofString "b", Str.ofString "w"] R G hf (by intro _ _ _; rfl) (by decide +kernel) (by decide +kernel) ?_
  intro L cd s' W
  dsimp only [List.foldl, List.zip, List.zipWith] at W
  have R' := R.deeper (envOf (Str.ofString "add") d_add.1.2.2 L f cd)
  have hbx := nl_bound he (x := x) (Nat.lt_trans hx (by decide))
  have hby := nl_bound he (x := y) (Nat.lt_trans hy (by decide))
  refine sIfJ (fun s' => ∃ m la lb u v, Wd s L s' m [] ∧ m (Str.ofString "a") = some (.ref la) ∧ m (Str.ofString "b") = some (.ref lb) ∧ m (Str.ofString "w") = some (.int (e : Nat) tw) ∧ IL s.heap la (lm e u) ∧ IL s.heap lb (lm e v) ∧ u + v = x + y ∧ nl e v ≤ nl e u ∧ nl e u ≤ 100 ∧ u < 2 ^ 99) ?_ ?_
  · repeat k_extra "st"
    refine iteD (fun h1 => ?_) (fun h1 => ?_)
    · repeat k_extra "st"
      exact ⟨rfl, _, _, _, _, _, by k_extra "wd", by k_extra "lk", by k_extra "lk", by k_extra "lk", hb, ha, Nat.add_comm _ _, by omega, hby, hy⟩
    · repeat k_extra "st"
      exact ⟨rfl, _, _, _, _, _, by k_extra "wd", by k_extra "lk", by k_extra "lk", by k_extra "lk", ha, hb, rfl, by omega, hbx, hx⟩
  rintro s ⟨m, la, lb, u, v, W, m1, m2, m3, hla, hlb, huv, hn, hu, hu2⟩
  repeat k_extra "st"
  refine' loopUp R'.hd ?hc (AddJ e u v la lb tw) ?W ?h0 ?_ ?_
  case hc => decide +kernel
  case W => k_extra "wd"
  case h0 => exact ⟨_, 0, _, _, rfl, by k_extra "lk", int_as (by k_extra "lk") (by rfl), by k_extra "lk", by k_extra "lk", by k_extra "lk", by k_extra "lk", by simp⟩
  · rintro i s m own t P hi1 hi2 ⟨fa, c, t1, t2, rfl, m1, m2, m3, m4, m5, m6, hc⟩ W
    repeat k_extra "st"
    exact ⟨_, _, by k_extra "wd", fa, _, _, _, by rw [dg_succ, (add_step hc).1], by k_extra "lk", by k_extra "lk", by k_extra "lk", by k_extra "lk", by k_extra "lk", by k_extra "lk", (add_step hc).2⟩
  rintro s m own ⟨fa, c, t1, t2, rfl, m1, m2, m3, m4, m5, m6, hc⟩ W
  dsimp only
  repeat k_extra "st"
  refine' loopUp R'.hd ?hc (AddJ e u v la lb tw) ?W ?h0 ?_ ?_
  case hc => decide +kernel
  case W => k_extra "wd"
  case h0 => exact ⟨_, c, _, _, by rw [Nat.zero_add, Nat.sub_zero], by k_extra "lk", by k_extra "lk", by k_extra "lk", by k_extra "lk", by k_extra "lk", by k_extra "lk", by rw [Nat.zero_add, Nat.sub_zero] at hc; exact hc⟩
  · rintro i s m own t P hi1 hi2 ⟨fa, c, t1, t2, rfl, m1, m2, m3, m4, m5, m6, hc⟩ W
    have e0 : D e v i = 0 := D_high (nl_lt he v) hi1
    have hs := add_step hc
    rw [e0, Nat.add_zero] at hs
    repeat k_extra "st"
    exact ⟨_, _, by k_extra "wd", fa, _, _, _, by rw [dg_succ, hs.1], by k_extra "lk", by k_extra "lk", by k_extra "lk", by k_extra "lk", by k_extra "lk", by k_extra "lk", hs.2⟩
  rintro s m own ⟨fa, c, t1, t2, rfl, m1, m2, m3, m4, m5, m6, hc⟩ W
  rw [Nat.add_sub_cancel' hn] at hc W
  have hu' := nl_lt he u
  have hv' : v < 2 ^ (e * nl e u) := Nat.lt_of_lt_of_le (nl_lt he v) (pow_le (Nat.mul_le_mul_left _ hn))
  rw [Nat.div_eq_of_lt hu', Nat.div_eq_of_lt hv'] at hc
  simp only [Nat.zero_add] at hc
  dsimp only
  repeat k_extra "st"
  refine iteD (fun h1 => ?_) (fun h1 => ?_)
  · repeat k_extra "st"
    refine h.back (by k_extra "wd") ?_
    have hc2 : c < 2 := by
      rw [← hc, Nat.div_lt_iff_lt_mul (pow_pos' _)]; omega
    have h2e : 2 ≤ 2 ^ e := pow_le (a := 1) he
    rw [← huv, lm_eq (n := nl e u + 1) he, dg_succ]
    · rw [show D e (u + v) (nl e u) = c from by unfold D; rw [hc]; exact Nat.mod_eq_of_lt (by omega)]
      exact .head _
    · rw [P_succ]
      have : 2 ^ (e * nl e u) * 2 ≤ 2 ^ (e * nl e u) * 2 ^ e := Nat.mul_le_mul_left _ h2e
      omega
    · refine .inr ?_
      rw [Nat.add_sub_cancel]
      rcases Nat.lt_or_ge (u + v) (2 ^ (e * nl e u)) with q | q
      · rw [Nat.div_eq_of_lt q] at hc; omega
      · exact q
  · repeat k_extra "st"
    refine h.back (by k_extra "wd") ?_
    rw [← huv, lm_eq (n := nl e u) he]
    · exact .head _
    · refine (Nat.div_eq_zero_iff_lt (pow_pos' _)).mp ?_
      omega
    · rcases Nat.eq_zero_or_pos u with rfl | q
      · exact .inl (nl_zero e)
      · exact .inr (Nat.le_trans (nl_le (by omega)) (Nat.le_add_right _ _))
end
end
-- SjI
section
section
variable {prog : Program} {w : World} {A : Around} {E : Value → Shared → Prop} {s₀ s : Shared} {L f : Addr} {m mg : Str → Option Value} {own : List (Addr × Ow)} {nm : Str} {sc : Scope} {cd : Value}
  {p : Program} {names free : List Str} {env : Env} {Q : Value → Shared → Prop} {R : Result → Shared → Prop} {t u v : Tok}
theorem rangeIterDown {n : Nat} (W : Wd s₀ L s m own) (hn : n ≤ 1000000) (h : ∀ it s', Wd s₀ L s' m ((it, .ob (rIter ((n : Nat) - 1) (n : Nat) (-1))) :: own) → Q (.ref it) s') :
    wpAny (model prog w) A (call (.type "range") [.int ((n : Nat) - 1) t, .int (-1) u, .int (-1) v]) (fun xv s₁ => wpAny (model prog w) A (pyIter xv) Q E s₁) E s := by
  have hr : Builtin.Range.rangeSize ((n : Nat) - 1) (-1) (-1) = (n : Nat) := by
    unfold Builtin.Range.rangeSize
    simp
    omega
  refine call_range_3 (by decide) ?_ (.inl (PyProof.noPylong_small (by decide)))
  refine iterRange (n := n) ((W.push (k := s.toks) _ rfl).drop (List.sublist_cons_self _ _)) (IsRange.new ..) ?_ hr h
  unfold Builtin.Range.small
  rw [hr]
  simp only [Builtin.Range.rangeFitsLong, Bool.and_eq_true, Bool.or_eq_true, decide_eq_true_eq, beq_iff_eq, show ¬ ((-1 : Int) > 0) by decide, if_false]
  omega
/-- over a range downwards to nought -/
theorem loopDown {x : Str} {px : Pos} {body : List Stmt} {it : Addr} {n : Nat} (hh : A.handled = none) (hc : isLoc sc x = true) (J : Nat → (Str → Option Value) → List (Addr × Ow) → Prop)
    (W : Wd s₀ L s m ((it, .ob (rIter ((n : Nat) - 1) (n : Nat) (-1))) :: own)) (h0 : J n m own)
    (turn : ∀ i s m own t P, i < n → J (i + 1) m own → Wd s₀ L s (upd m x (.int (i : Nat) t)) ((it, P) :: own) →
      wpAny (model prog w) A (execs body (envOf nm sc L f cd)) (Turned s₀ L it P (J i) R) NE s)
    (fin : ∀ s m own, J 0 m own → Wd s₀ L s m own → R (.ok .next) s) :
    codeAny (model prog w) A (.forLoop (.Name x px) (.ref it) body [] (envOf nm sc L f cd)) R s := by
  refine loopRange hh hc (fun i => J (n - i)) W h0 (fun i s m own t P hi hJ W => ?_) fun s m own hJ W => fin s m own (by simpa using hJ) W
  rw [show ((n : Nat) : Int) - 1 + (i : Nat) * -1 = ((n - 1 - i : Nat) : Int) by omega] at W
  have := turn (n - 1 - i) s m own t P (by omega) (by rw [show n - 1 - i + 1 = n - i by omega]; exact hJ) W
  rw [show n - (i + 1) = n - 1 - i by omega]
  exact this
theorem RetI.fin {i j : Int} {t : Tok} {s' : Shared} (h : RetI s i Q) (W : Wd s L s' m own) (e : i = j) : Q (.int j t) s' := e ▸ h t s' W.keep W.rest
theorem oNeg1 (W : Wd s₀ L s m own) (h : ∀ s' t, Wd s₀ L s' m own → Q (.int (-1) t) s') : wpAny (model prog w) A (unaryOp .USub (.int 1 t)) Q E s := oNeg W h
theorem oSub1 {a : Nat} (W : Wd s₀ L s m own) (h : ∀ s' t, Wd s₀ L s' m own → Q (.int ((a : Nat) - 1) t) s') : wpAny (model prog w) A (binaryOp .Sub (.int (a : Nat) t) (.int 1 u)) Q E s := oSub W h
end
end
-- Fcompare
section
noncomputable def d_compare : {d : FD // fdOf pw (Str.ofString "compare") = some d} := ⟨_, rfl⟩
noncomputable def cmpI (x y : Nat) : Int := if x < y then -1 else if x = y then 0 else 1
theorem lt_of_div {x y p : Nat} (h : x / p < y / p) : x < y := by
  rcases Nat.lt_or_ge x y with q | q
  · exact q
  · exact absurd h (Nat.not_lt.mpr (Nat.div_le_div_right q))
theorem lt_of_nl {e x y : Nat} (he : 0 < e) (h : nl e x < nl e y) : x < y := by
  rcases Nat.eq_zero_or_pos y with rfl | hy
  · rw [nl_zero] at h; omega
  · refine Nat.lt_of_lt_of_le (nl_lt he x) (Nat.le_trans (pow_le (Nat.mul_le_mul_left _ ?_)) (nl_le (by omega)))
    omega
noncomputable def CmpJ (e x y : Nat) (a b : Addr) (i : Nat) (m : Str → Option Value) (own : List (Addr × Ow)) : Prop :=
  own = [] ∧ m (Str.ofString "a") = some (.ref a) ∧ m (Str.ofString "b") = some (.ref b) ∧ x / 2 ^ (e * i) = y / 2 ^ (e * i)
section
variable {prog : Program} {w : World} {A : Around} {E : Value → Shared → Prop} {s₀ s : Shared} {L f : Addr} {m mg : Str → Option Value} {own : List (Addr × Ow)} {nm : Str} {sc : Scope} {cd : Value}
  {p : Program} {names free : List Str} {env : Env} {Q : Value → Shared → Prop}
theorem compare_ok {a b : Addr} {e x y : Nat} (R : Rm A 1) (G : GD mg s.heap) (hf : FnAt mg s.heap (Str.ofString "compare") d_compare.1 f)
    (he : 1 ≤ e) (hx : x < 2 ^ 100) (hy : y < 2 ^ 100) (ha : IL s.heap a (lm e x)) (hb : IL s.heap b (lm e y)) (h : RetI s (cmpI x y) Q) : wpAny (model prog w) A (call (.ref f) [.ref a, .ref b]) Q E s := by
  refine enterU [Str.ofString "a", Str.ofString "b"] R G hf (by intro _ _ _; rfl) (by decide +kernel) (by decide +kernel) ?_
  intro L cd s' W
  dsimp only [List.foldl, List.zip, List.zipWith] at W
  have R' := R.deeper (envOf (Str.ofString "compare") d_compare.1.2.2 L f cd)
  have hbx := nl_bound he hx
  have hby := nl_bound he hy
  refine sIf ?_
  repeat k_extra "st"
  refine iteD (fun h1 => ?_) (fun h1 => ?_)
  · repeat k_extra "st"
    refine IfExp_ ?_
    repeat k_extra "st"
    refine iteD (fun h2 => ?_) (fun h2 => ?_)
    · repeat k_extra "st"
      exact h.fin (by k_extra "wd") (if_pos (lt_of_nl he (by omega)))
    · repeat k_extra "st"
      have := lt_of_nl he (x := y) (y := x) (by omega)
      exact h.fin (by k_extra "wd") (by unfold cmpI; rw [if_neg (by omega), if_neg (by omega)])
  have hn : nl e x = nl e y := by omega
  repeat k_extra "st"
  refine' loopDown R'.hd ?hc (CmpJ e x y a b) ?W ?h0 ?_ ?_
  case hc => decide +kernel
  case W => k_extra "wd"
  case h0 => exact ⟨rfl, by k_extra "lk", by k_extra "lk", by rw [Nat.div_eq_of_lt (nl_lt he x), Nat.div_eq_of_lt (by rw [hn]; exact nl_lt he y)]⟩
  · rintro i s m own t P hi ⟨rfl, m1, m2, hJ⟩ W
    have ex := div_split e x i
    have ey := div_split e y i
    repeat k_extra "st"
    refine iteD (fun h1 => ?_) (fun h1 => ?_)
    · repeat k_extra "st"
      refine IfExp_ ?_
      repeat k_extra "st"
      refine iteD (fun h2 => ?_) (fun h2 => ?_)
      · repeat k_extra "st"
        exact h.fin (by k_extra "wd") (if_pos (lt_of_div (p := 2 ^ (e * i)) (by rw [ex, ey, hJ]; omega)))
      · repeat k_extra "st"
        have := lt_of_div (x := y) (y := x) (p := 2 ^ (e * i)) (by rw [ex, ey, hJ]; omega)
        exact h.fin (by k_extra "wd") (by unfold cmpI; rw [if_neg (by omega), if_neg (by omega)])
    · repeat k_extra "st"
      exact ⟨_, _, by k_extra "wd", rfl, by k_extra "lk", by k_extra "lk", by rw [ex, ey, hJ]; omega⟩
  · rintro s m own ⟨rfl, m1, m2, hJ⟩ W
    dsimp only
    repeat k_extra "st"
    simp at hJ
    exact h.fin (by k_extra "wd") (by unfold cmpI; rw [if_neg (by omega), if_pos hJ])
end
end
-- Fsub
theorem words3 : True := by
  k_with "rl" => (first | ((with_reducible refine' Wd.retL ?Wz121 ?_); (case Wz121 => k_extra "wd"); intro _ _ _) | ((with_reducible refine' Wd.retI ?Wz122 ?_); (case Wz122 => k_extra "wd"); intro _ _ _))
  k_with "rm" => (exact Rm.le (by with_reducible assumption) (by decide))
  k_with "cl" => ((with_reducible refine' normal_ok ?Rz123 ?Gz123 ?hfz123 ?haz123 ?hzz123 ?_); (case Rz123 => k_extra "rm"); (case Gz123 => k_extra "wd"); (case hfz123 => k_extra "wd"); (case haz123 => k_extra "il"); (case hzz123 => k_extra "ar"); k_extra "rl")
  k_with "cl" => ((with_reducible refine' compare_ok ?Rz124 ?Gz124 ?hfz124 ?hez124 ?hxz124 ?hyz124 ?haz124 ?hbz124 ?_); (case Rz124 => k_extra "rm"); (case Gz124 => k_extra "wd"); (case hfz124 => k_extra "wd"); (case haz124 => k_extra "il"); (case hbz124 => k_extra "il"); (case hez124 => k_extra "ar"); (case hxz124 => k_extra "ar"); (case hyz124 => k_extra "ar"); k_extra "rl")
  trivial
section
noncomputable def d_sub : {d : FD // fdOf pw (Str.ofString "sub") = some d} := ⟨_, rfl⟩
theorem sub_step {e x y i β : Nat} (hy : y ≤ x) (hβ : β ≤ 1) (h : x / 2 ^ (e * i) = y / 2 ^ (e * i) + (x - y) / 2 ^ (e * i) + β) :
    ((((D e x i : Nat) : Int) - (β : Nat) - (D e y i : Nat) < 0 → ((D e (x - y) i : Nat) : Int) = (D e x i : Nat) - (β : Nat) - (D e y i : Nat) + 2 ^ e ∧ x / 2 ^ (e * (i + 1)) = y / 2 ^ (e * (i + 1)) + (x - y) / 2 ^ (e * (i + 1)) + 1) ∧
     (¬ ((D e x i : Nat) : Int) - (β : Nat) - (D e y i : Nat) < 0 → ((D e (x - y) i : Nat) : Int) = (D e x i : Nat) - (β : Nat) - (D e y i : Nat) ∧ x / 2 ^ (e * (i + 1)) = y / 2 ^ (e * (i + 1)) + (x - y) / 2 ^ (e * (i + 1)) + 0)) := by
  rw [div_split e x i, div_split e y i, div_split e (x - y) i] at h
  have b1 := D_lt e x i
  have b2 := D_lt e y i
  have b3 := D_lt e (x - y) i
  have pe : ((2 : Int) ^ e) = ((2 ^ e : Nat) : Int) := by push_cast; rfl
  rw [pe]
  generalize D e x i = dx at *
  generalize D e y i = dy at *
  generalize D e (x - y) i = dz at *
  generalize x / 2 ^ (e * (i + 1)) = X at *
  generalize y / 2 ^ (e * (i + 1)) = Y at *
  generalize (x - y) / 2 ^ (e * (i + 1)) = Z at *
  generalize 2 ^ e = B at *
  have key : X = Y + Z ∨ X = Y + Z + 1 := by
    rcases Nat.lt_or_ge X (Y + Z) with q | q
    · have : B * (X + 1) ≤ B * (Y + Z) := Nat.mul_le_mul_left _ q
      rw [Nat.mul_add, Nat.mul_add] at this; omega
    · rcases Nat.lt_or_ge (Y + Z + 1) X with q' | q'
      · have : B * (Y + Z + 1 + 1) ≤ B * X := Nat.mul_le_mul_left _ q'
        rw [Nat.mul_add, Nat.mul_add, Nat.mul_add] at this; omega
      · omega
  rcases key with rfl | rfl
  · rw [Nat.mul_add] at h
    refine ⟨fun q => ?_, fun q => ?_⟩
    · exfalso; omega
    · exact ⟨by omega, by omega⟩
  · rw [Nat.mul_add, Nat.mul_add] at h
    refine ⟨fun q => ?_, fun q => ?_⟩
    · exact ⟨by omega, by omega⟩
    · exfalso; omega
section
variable {prog : Program} {w : World} {A : Around} {E : Value → Shared → Prop} {s₀ s : Shared} {L f : Addr} {m mg : Str → Option Value} {own : List (Addr × Ow)} {nm : Str} {sc : Scope} {cd : Value}
  {p : Program} {names free : List Str} {env : Env} {Q : Value → Shared → Prop}
/-- a conditional whose int is known -/
theorem eIfInt (i : Int) {test body orelse : Expr} {pos : Pos} (W : Wd s₀ L s m own)
    (h : wpAny (model prog w) A (isTrue test env (eval test env)) (fun b s₂ => if b = true then wpAny (model prog w) A (eval body env) (fun v s' => (∃ t, v = .int i t) ∧ Wd s₀ L s' m own) NE s₂
      else wpAny (model prog w) A (eval orelse env) (fun v s' => (∃ t, v = .int i t) ∧ Wd s₀ L s' m own) NE s₂) NE s) (k : ∀ s' t, Wd s₀ L s' m own → Q (.int i t) s') :
    wpAny (model prog w) A (eval (.IfExp test body orelse pos) env) Q E s := by
  refine IfExp_ (noE (wpAny_mono h (fun b s₂ h₂ => ?_) fun _ _ x => x))
  cases b with
  | true => rw [if_pos rfl] at h₂ ⊢; exact wpAny_mono h₂ (fun v s' q => by obtain ⟨⟨t, rfl⟩, W⟩ := q; exact k s' t W) fun _ _ x => x.elim
  | false => rw [if_neg Bool.false_ne_true] at h₂ ⊢; exact wpAny_mono h₂ (fun v s' q => by obtain ⟨⟨t, rfl⟩, W⟩ := q; exact k s' t W) fun _ _ x => x.elim
noncomputable def SubJ (e x y : Nat) (a b : Addr) (tw : Tok) (i : Nat) (m : Str → Option Value) (own : List (Addr × Ow)) : Prop :=
  ∃ fa c t t', own = [(fa, .li (dg e i (x - y)))] ∧ m (Str.ofString "found") = some (.ref fa) ∧ m (Str.ofString "borrow") = some (.int (c : Nat) t) ∧ m (Str.ofString "a") = some (.ref a) ∧ m (Str.ofString "b") = some (.ref b) ∧
    m (Str.ofString "base") = some (.int ((2 : Int) ^ e) t') ∧ c ≤ 1 ∧ x / 2 ^ (e * i) = y / 2 ^ (e * i) + (x - y) / 2 ^ (e * i) + c
theorem sub_ok {a b : Addr} {e x y : Nat} {tw : Tok} (R : Rm A 2) (G : GD mg s.heap) (hf : FnAt mg s.heap (Str.ofString "sub") d_sub.1 f)
    (he : 1 ≤ e) (he8 : e ≤ 8) (hx : x < 2 ^ 100) (hy : y ≤ x) (ha : IL s.heap a (lm e x)) (hb : IL s.heap b (lm e y)) (h : RetL s (lm e (x - y)) Q) : wpAny (model prog w) A (call (.ref f) [.ref a, .ref b, .int (e : Nat) tw]) Q E s := by
  refine enterU [Str.ofString "a", Str.ofString "b", Str.ofString "w"] R G hf (by intro _ _ _; rfl) (by decide +kernel) (by decide +kernel) ?_
  intro L cd s' W
  dsimp only [List.foldl, List.zip, List.zipWith] at W
  have R' := R.deeper (envOf (Str.ofString "sub") d_sub.1.2.2 L f cd)
  have hy' : y < 2 ^ 100 := Nat.lt_of_le_of_lt hy hx
  have hbx := nl_bound he hx
  have hby := nl_bound he hy'
  obtain ⟨g1, hg1⟩ := G.fns (Str.ofString "compare") (by decide +kernel) _ d_compare.2
  obtain ⟨g2, hg2⟩ := G.fns (Str.ofString "normal") (by decide +kernel) _ d_normal.2
  refine sIf ?_
  repeat k_extra "st"
  refine iteD (fun h1 => ?_) (fun h1 => ?_)
  · exfalso
    unfold cmpI at h1
    rw [if_neg (by omega)] at h1
    split at h1 <;> omega
  repeat k_extra "st"
  refine' loopUp R'.hd ?hc (SubJ e x y a b tw) ?W ?h0 ?_ ?_
  case hc => decide +kernel
  case W => k_extra "wd"
  case h0 => exact ⟨_, 0, _, _, rfl, by k_extra "lk", int_as (by k_extra "lk") (by rfl), by k_extra "lk", by k_extra "lk", by k_extra "lk", by decide, by simp; omega⟩
  · rintro i s m own t P hi1 hi2 ⟨fa, c, t1, t2, rfl, m1, m2, m3, m4, m5, hc1, hc⟩ W
    have hs := sub_step hy hc1 hc
    refine sSet (by decide +kernel) ?_
    repeat k_extra "st"
    refine eIfInt ((D e y i : Nat) : Int) (by k_extra "wd") ?_ ?_
    · repeat k_extra "st"
      refine iteD (fun q => ?_) (fun q => ?_)
      · repeat k_extra "st"
        exact ⟨⟨_, rfl⟩, by k_extra "wd"⟩
      · repeat k_extra "st"
        exact ⟨⟨_, by rw [D_high (nl_lt he y) (by omega)]; rfl⟩, by k_extra "wd"⟩
    intro s t W
    by_cases hl : ((D e x i : Nat) : Int) - (c : Nat) - (D e y i : Nat) < 0
    · have hs := hs.1 hl
      repeat k_extra "st"
      refine IfExp_ ?_
      repeat k_extra "st"
      refine iteD (fun q => ?_) (fun q => absurd hl q)
      repeat k_extra "st"
      refine IfExp_ ?_
      repeat k_extra "st"
      refine iteD (fun q => ?_) (fun q => absurd hl q)
      repeat k_extra "st"
      exact ⟨_, _, by k_extra "wd", fa, 1, _, _, by rw [dg_succ, hs.1], by k_extra "lk", int_as (by k_extra "lk") (by rfl), by k_extra "lk", by k_extra "lk", by k_extra "lk", by decide, hs.2⟩
    · have hs := hs.2 hl
      repeat k_extra "st"
      refine IfExp_ ?_
      repeat k_extra "st"
      refine iteD (fun q => absurd q hl) (fun q => ?_)
      repeat k_extra "st"
      refine IfExp_ ?_
      repeat k_extra "st"
      refine iteD (fun q => absurd q hl) (fun q => ?_)
      repeat k_extra "st"
      exact ⟨_, _, by k_extra "wd", fa, 0, _, _, by rw [dg_succ, hs.1], by k_extra "lk", int_as (by k_extra "lk") (by rfl), by k_extra "lk", by k_extra "lk", by k_extra "lk", by decide, hs.2⟩
  · rintro s m own ⟨fa, c, t1, t2, rfl, m1, m2, m3, m4, m5, hc1, hc⟩ W
    dsimp only
    repeat k_extra "st"
    refine h.back (by k_extra "wd") ?_
    rw [trim_dg he (by rw [Nat.zero_add, Nat.sub_zero]; exact Nat.lt_of_le_of_lt (Nat.sub_le _ _) (nl_lt he x))]
    exact .head _
end
end
-- SjP2
theorem words4 : True := by
  k_with_none
  k_with "lk" => (first | with_reducible exact upd_eq | with_reducible assumption | ((with_reducible refine upd_ne ?_ (by decide +kernel)); k_extra "lk"))
  k_with "wd" => (with_reducible assumption)
  k_with "dk" => (decide +kernel)
  k_with "mem" => (first | with_reducible assumption | with_reducible exact List.mem_cons_self | ((with_reducible refine List.mem_cons_of_mem _ ?_); k_extra "mem"))
  k_with "il" => (first | with_reducible assumption | ((with_reducible refine' Wd.il ?Wz125 ?hz125); (case Wz125 => k_extra "wd"); (case hz125 => with_reducible assumption)) | ((with_reducible refine' Wd.mem ?Wz126 ?hz126); (case Wz126 => k_extra "wd"); (case hz126 => k_extra "mem")) | ((with_reducible refine' Wd.held ?Wz127 ?hz127); (case Wz127 => k_extra "wd"); (case hz127 => k_extra "hd")) | ((with_reducible refine' il_one ?hez128 ?hz128); (case hez128 => k_extra "ar"); (case hz128 => k_extra "il1")))
  k_with "il1" => ((with_reducible refine' Wd.mem ?Wz129 ?hz129); (case Wz129 => k_extra "wd"); (case hz129 => k_extra "mem"))
  k_with "hd" => (first | with_reducible assumption | with_reducible exact Held.head | ((with_reducible refine Held.cons ?_); k_extra "hd"))
  k_with "bb" => (first | exact bb_len | exact bb_abs)
  k_with "bt" => (first | exact bb_range | exact bb_enumerate | exact bb_int)
  k_with "nx" => (intro _ _; intro _)
  k_with "ar" => (first | with_reducible assumption | with_reducible exact Int.natCast_nonneg _ | omega | decide | (simp only [dg_len, lm_len, List.length_take, List.length_append, List.length_cons, List.length_nil, List.length_replicate] at *; omega))
  k_with "up" => (first | with_reducible exact Up.head | with_reducible exact Up.tail Up.head | with_reducible exact Up.tail (Up.tail Up.head) | with_reducible exact Up.tail (Up.tail (Up.tail Up.head)) | with_reducible exact Up.tail (Up.tail (Up.tail (Up.tail Up.head))))
  k_with "bits" => (first | (have hB := bits_one; omega) | omega)
  k_with "ev" => (first
  | ((with_reducible refine' eName ?Wz130 ?hvz130 ?hcz130 ?_); (case Wz130 => k_extra "wd"); (case hvz130 => k_extra "lk"); (case hcz130 => k_extra "dk"))
  | ((with_reducible refine' eInt ?Wz131 ?_); (case Wz131 => k_extra "wd"); intro _ _ _)
  | with_reducible refine Constant_bool ?_
  | with_reducible refine' wpAny_BinOp ?_
  | ((with_reducible refine' wpAny_Compare1 ?_ ?hmz133); (case hmz133 => exact rfl))
  | with_reducible refine' UnaryOp_ ?_
  | ((with_reducible refine' eSliceTo ?_ ?htz135); (case htz135 => (intro _ _; exact rfl)))
  | ((with_reducible refine' eSliceAll ?_ ?htz136); (case htz136 => (intro _ _; exact rfl)))
  | with_reducible refine' Subscript_ ?_
  | ((with_reducible refine' eCallB ?Gz138 ?Wz138 ?hfz138 ?hvz138 ?hnz138 ?hcz138 ?_ ?hez138 ?hstz138 ?hpz138); (case Wz138 => k_extra "wd"); (case Gz138 => k_extra "wd"); (case hfz138 => k_extra "dk"); (case hvz138 => k_extra "bb"); (case hnz138 => k_extra "dk"); (case hcz138 => k_extra "dk"); (case hez138 => exact rfl); (case hstz138 => exact rfl); (case hpz138 => exact rfl))
  | ((with_reducible refine' eCallT ?Gz139 ?Wz139 ?hfz139 ?hvz139 ?hnz139 ?hcz139 ?_ ?hez139 ?hstz139 ?hpz139); (case Wz139 => k_extra "wd"); (case Gz139 => k_extra "wd"); (case hfz139 => k_extra "dk"); (case hvz139 => k_extra "bt"); (case hnz139 => k_extra "dk"); (case hcz139 => k_extra "dk"); (case hez139 => exact rfl); (case hstz139 => exact rfl); (case hpz139 => exact rfl)))
  k_with "op" => (first
  | ((with_reducible refine' oAdd ?Wz140 ?_); (case Wz140 => k_extra "wd"); intro _ _ _)
  | ((with_reducible refine' oSub ?Wz141 ?_); (case Wz141 => k_extra "wd"); intro _ _ _)
  | ((with_reducible refine' oAnd ?Wz142 ?_); (case Wz142 => k_extra "wd"); intro _ _ _)
  | ((with_reducible refine' oOr ?Wz143 ?_); (case Wz143 => k_extra "wd"); intro _ _ _)
  | ((with_reducible refine' iAdd ?Wz144 ?_); (case Wz144 => k_extra "wd"); intro _ _ _)
  | ((with_reducible refine' iSub ?Wz145 ?_); (case Wz145 => k_extra "wd"); intro _ _ _)
  | ((with_reducible refine' iOr ?Wz146 ?_); (case Wz146 => k_extra "wd"); intro _ _ _)
  | ((with_reducible refine' oNeg ?Wz147 ?_); (case Wz147 => k_extra "wd"); intro _ _ _)
  | ((with_reducible refine' oShr ?Wz148 ?h0z148 ?_); (case Wz148 => k_extra "wd"); (case h0z148 => k_extra "ar"); intro _ _ _)
  | ((with_reducible refine' iShr ?Wz149 ?h0z149 ?_); (case Wz149 => k_extra "wd"); (case h0z149 => k_extra "ar"); intro _ _ _)
  | ((with_reducible refine' oMod ?Wz150 ?h0z150 ?_); (case Wz150 => k_extra "wd"); (case h0z150 => k_extra "ar"); intro _ _ _)
  | with_reducible refine' cLt ?_ | with_reducible refine' cGt ?_ | with_reducible refine' cGe ?_ | with_reducible refine' cLe ?_ | with_reducible refine' cEq ?_ | with_reducible refine' cNe ?_
  | with_reducible refine wpAny_truthy_bool ?_
  | ((with_reducible refine' callLen ?Wz157 ?hlz157 ?hzz157 ?_); (case Wz157 => k_extra "wd"); (case hlz157 => k_extra "il"); (case hzz157 => k_extra "ar"); intro _ _ _)
  | ((with_reducible refine' xItem ?hlz158 ?h0z158 ?h1z158 ?hzz158 ?hsz158 ?_); (case hlz158 => k_extra "il"); (case h0z158 => k_extra "ar"); (case h1z158 => k_extra "ar"); (case hzz158 => k_extra "ar"); (case hsz158 => with_unfolding_all rfl); intro _))
  k_with "cf" => (first
  | ((with_reducible refine' eCallF ?Gz159 ?Wz159 ?hgz159 ?hcz159 ?_ ?hez159 ?hstz159); (case Wz159 => k_extra "wd"); (case Gz159 => k_extra "wd"); (case hgz159 => k_extra "wd"); (case hcz159 => k_extra "dk"); (case hez159 => exact rfl); (case hstz159 => exact rfl))
  | ((with_reducible refine' ⟨_, _, ?Wz160, ?_⟩); (case Wz160 => k_extra "wd"); intro _ _))
  k_with "sm" => (first
  | ((with_reducible refine' args_cons ?_ ?hez161); (case hez161 => exact rfl))
  | with_reducible refine args_nil ?_
  | ((with_reducible refine' sSet ?hcz162 ?_ ?hsz162); (case hcz162 => k_extra "dk"); (case hsz162 => exact rfl))
  | ((with_reducible refine' sAug ?Wz163 ?hvz163 ?hcz163 ?_); (case Wz163 => k_extra "wd"); (case hvz163 => k_extra "lk"); (case hcz163 => k_extra "dk"))
  | with_reducible refine sIf ?_
  | with_reducible refine iteT ?_ | with_reducible refine iteF ?_
  | with_reducible refine sRet ?_
  | with_reducible refine sSkip ?_
  | ((with_reducible refine' wpAny_isTrue_Compare1 ?_ ?hmz164); (case hmz164 => exact rfl))
  | with_reducible refine isTrue_and_nil ?_ | with_reducible refine isTrue_or_nil ?_
  | with_reducible refine isTrue_and ?_ | with_reducible refine isTrue_or ?_ | with_reducible refine isTrue_not ?_ | with_reducible refine isTrue_IfExp ?_
  | ((with_reducible refine' isTrue_plain ?_ ?hez165); (case hez165 => exact rfl))
  | ((with_reducible refine ⟨_, _, _, (by k_extra "wd"), ?_⟩); intro _ _)
  | ((with_reducible refine' ⟨_, _, _, _, _, _, _, _, rfl, rfl, ?Wz166, ?hlz166, ?h0z166, ?hzz166, ?_⟩); (case Wz166 => k_extra "wd"); (case hlz166 => k_extra "il"); (case h0z166 => k_extra "ar"); (case hzz166 => k_extra "ar"); intro _ _ _)
  | ((with_reducible refine' ⟨_, _, _, _, _, _, rfl, ?Wz167, ?Uz167, ?hzz167, ?_⟩); (case Wz167 => k_extra "wd"); (case Uz167 => k_extra "up"); (case hzz167 => k_extra "ar"); intro _ _)
  | ((with_reducible refine' ⟨_, _, _, _, _, _, rfl, ?Wz168, ?hlz168, ?hzz168, ?_⟩); (case Wz168 => k_extra "wd"); (case hlz168 => k_extra "il"); (case hzz168 => k_extra "ar"); intro _ _ _))
  k_with "tp" => (first
  | ((with_reducible refine' sTup2 ?_ ?_ ?hhz169 ?hc1z169 ?hc2z169 ?_ ?hsz169 ?hwz169 ?h1z169 ?h2z169); (case hwz169 => exact rfl); (case hhz169 => exact Rm.hd (by assumption)); (case hc1z169 => k_extra "dk"); (case hc2z169 => k_extra "dk"); (case hsz169 => exact rfl); (case h1z169 => exact rfl); (case h2z169 => exact rfl))
  | ((with_reducible refine' sTup3 ?_ ?_ ?_ ?hhz170 ?hc1z170 ?hc2z170 ?hc3z170 ?_ ?hsz170 ?hwz170 ?h1z170 ?h2z170 ?h3z170); (case hwz170 => exact rfl); (case hhz170 => exact Rm.hd (by assumption)); (case hc1z170 => k_extra "dk"); (case hc2z170 => k_extra "dk"); (case hc3z170 => k_extra "dk"); (case hsz170 => exact rfl); (case h1z170 => exact rfl); (case h2z170 => exact rfl); (case h3z170 => exact rfl))
  | ((with_reducible refine' eNil ?Wz171 ?_); (case Wz171 => k_extra "wd"); intro _ _ _)
  | ((with_reducible refine' oShl ?Wz172 ?h0z172 ?hsz172 ?_); (case Wz172 => k_extra "wd"); (case h0z172 => k_extra "ar"); (case hsz172 => k_extra "bits"); intro _ _ _)
  | ((with_reducible refine' sAppend ?Wz173 ?hxz173 ?hcz173 ?hDz173 ?_ ?hez173 ?hsz173 ?hstz173); (case Wz173 => k_extra "wd"); (case hxz173 => k_extra "lk"); (case hDz173 => k_extra "mem"); (case hcz173 => k_extra "dk"); (case hez173 => exact rfl); (case hsz173 => exact rfl); (case hstz173 => exact rfl)))
  k_with "nn" => (first
  | ((with_reducible refine' enumIter ?Wz174 ?hlz174 ?_); (case Wz174 => k_extra "wd"); (case hlz174 => k_extra "il"); intro _ _ _ _)
  | ((with_reducible refine' sSetAt ?_ ?hsz175); (case hsz175 => exact rfl))
  | ((with_reducible refine' ⟨_, _, _, _, _, _, _, _, _, _, _, rfl, rfl, rfl, ?Wz176, ?Uz176, ?hkz176, ?hzz176, ?_⟩); (case Wz176 => k_extra "wd"); (case Uz176 => k_extra "up"); (case hkz176 => k_extra "ar"); (case hzz176 => k_extra "ar"); intro _ _)
  | ((with_reducible refine' nMul ?Wz177 ?haz177 ?hbz177 ?hkz177 ?_); (case Wz177 => k_extra "wd"); (case haz177 => with_reducible assumption); (case hbz177 => with_reducible assumption); (case hkz177 => k_extra "ar"); intro _ _ _)
  | ((with_reducible refine' nItemG ?hlz178 ?hvz178 ?h1z178 ?hzz178 ?hsz178 ?_); (case hlz178 => k_extra "il"); (case hvz178 => with_reducible assumption); (case h1z178 => k_extra "ar"); (case hzz178 => k_extra "ar"); (case hsz178 => with_unfolding_all rfl); intro _)
  | ((with_reducible refine' nSub ?Wz179 ?hbz179 ?_); (case Wz179 => k_extra "wd"); (case hbz179 => k_extra "ar"); intro _ _ _)
  | ((with_reducible refine' nRep ?Wz180 ?hlz180 ?hzz180 ?_); (case Wz180 => k_extra "wd"); (case hlz180 => k_extra "il"); (case hzz180 => k_extra "ar"); intro _ _ _)
  | ((with_reducible refine' nShl ?Wz181 ?haz181 ?hkz181 ?hez181 ?_); (case Wz181 => k_extra "wd"); (case haz181 => with_reducible assumption); (case hkz181 => k_extra "ar"); (case hez181 => k_extra "ar"); intro _ _ _)
  | ((with_reducible refine' eOne ?_ ?hez182); (case hez182 => exact rfl))
  | ((with_reducible refine' ⟨_, _, _, _, _, _, rfl, ?Wz183, ?_⟩); (case Wz183 => k_extra "wd"); intro _ _ _)
  | ((with_reducible refine' iterList ?Wz184 ?hlz184 ?_); (case Wz184 => k_extra "wd"); (case hlz184 => k_extra "il"); intro _ _ _)
  | ((with_reducible refine' eBitLen ?_ ?hez185); (case hez185 => exact rfl))
  | ((with_reducible refine' nTop ?hlz186 ?hez186 ?h1z186 ?hzz186 ?hsz186 ?_); (case hlz186 => k_extra "il"); (case hez186 => k_extra "ar"); (case h1z186 => k_extra "ar"); (case hzz186 => k_extra "ar"); (case hsz186 => with_unfolding_all rfl); intro _)
  | ((with_reducible refine' oCat ?Wz187 ?haz187 ?hbz187 ?hzz187 ?_); (case Wz187 => k_extra "wd"); (case haz187 => k_extra "il"); (case hbz187 => k_extra "il"); (case hzz187 => k_extra "ar"); intro _ _ _)
  | ((with_reducible refine' oSub1 ?Wz188 ?_); (case Wz188 => k_extra "wd"); intro _ _ _)
  | ((with_reducible refine' oNeg1 ?Wz189 ?_); (case Wz189 => k_extra "wd"); intro _ _ _)
  | ((with_reducible refine' rangeIterDown ?Wz190 ?hnz190 ?_); (case Wz190 => k_extra "wd"); (case hnz190 => k_extra "ar"); intro _ _ _)
  | ((with_reducible refine' sFor ?_ ?hsz191); (case hsz191 => (intro _; exact rfl)))
  | ((with_reducible refine' rangeIter1 ?Wz192 ?hbz192 ?_); (case Wz192 => k_extra "wd"); (case hbz192 => k_extra "ar"); intro _ _ _)
  | ((with_reducible refine' rangeIter2 ?Wz193 ?haz193 ?hbz193 ?_); (case Wz193 => k_extra "wd"); (case haz193 => k_extra "ar"); (case hbz193 => k_extra "ar"); intro _ _ _)
  | ((with_reducible refine' nAdd ?Wz194 ?_); (case Wz194 => k_extra "wd"); intro _ _ _)
  | ((with_reducible refine' nAdd1 ?Wz195 ?_); (case Wz195 => k_extra "wd"); intro _ _ _)
  | ((with_reducible refine' niAdd ?Wz196 ?_); (case Wz196 => k_extra "wd"); intro _ _ _)
  | ((with_reducible refine' nShl1 ?Wz197 ?hez197 ?_); (case Wz197 => k_extra "wd"); (case hez197 => k_extra "ar"); intro _ _ _)
  | ((with_reducible refine' nShr ?Wz198 ?_); (case Wz198 => k_extra "wd"); intro _ _ _)
  | ((with_reducible refine' niShr ?Wz199 ?_); (case Wz199 => k_extra "wd"); intro _ _ _)
  | ((with_reducible refine' nAnd ?Wz200 ?_); (case Wz200 => k_extra "wd"); intro _ _ _)
  | ((with_reducible refine' nOr ?Wz201 ?haz201 ?_); (case Wz201 => k_extra "wd"); (case haz201 => k_extra "ar"); intro _ _ _)
  | ((with_reducible refine' niOr ?Wz202 ?haz202 ?_); (case Wz202 => k_extra "wd"); (case haz202 => k_extra "ar"); intro _ _ _)
  | ((with_reducible refine' nFloor ?Wz203 ?hbz203 ?hcz203 ?_); (case Wz203 => k_extra "wd"); (case hbz203 => k_extra "ar"); (case hcz203 => k_extra "ar"); intro _ _ _)
  | ((with_reducible refine' nMod ?Wz204 ?hbz204 ?_); (case Wz204 => k_extra "wd"); (case hbz204 => k_extra "ar"); intro _ _ _)
  | ((with_reducible refine' nItem ?hlz205 ?hez205 ?h1z205 ?hzz205 ?hsz205 ?_); (case hlz205 => k_extra "il"); (case hez205 => k_extra "ar"); (case h1z205 => k_extra "ar"); (case hzz205 => k_extra "ar"); (case hsz205 => with_unfolding_all rfl); intro _)
  | ((with_reducible refine' nLen ?Wz206 ?hlz206 ?hzz206 ?_); (case Wz206 => k_extra "wd"); (case hlz206 => k_extra "il"); (case hzz206 => k_extra "ar"); intro _ _ _))
  k_with "st" => (first | k_extra "ev" | k_extra "nn" | k_extra "op" | k_extra "sm" | k_extra "tp" | k_extra "cf" | k_extra "cl")
  trivial
section
theorem shl_split (x n e : Nat) : x * 2 ^ n = x * 2 ^ (n % e) * 2 ^ (e * (n / e)) := by
  rw [Nat.mul_assoc, ← Nat.pow_add, Nat.add_comm, Nat.div_add_mod]
theorem shl_start (x n e : Nat) : x * 2 ^ n / 2 ^ (e * (n / e)) = x * 2 ^ (n % e) := by
  rw [shl_split x n e, Nat.mul_div_cancel _ (pow_pos' _)]
theorem shl_zeros (x n e : Nat) : dg e (n / e) (x * 2 ^ n) = List.replicate (n / e) 0 := by
  unfold dg
  refine List.eq_replicate_iff.mpr ⟨by simp, fun b hb => ?_⟩
  obtain ⟨j, hj, rfl⟩ := List.mem_map.mp hb
  have hj := List.mem_range.mp hj
  have : D e (x * 2 ^ n) j = 0 := by
    unfold D
    rw [shl_split x n e, show e * (n / e) = e * j + (e + e * (n / e - j - 1)) by
      have : n / e = j + 1 + (n / e - j - 1) := by omega
      rw [this]
      simp only [Nat.mul_add, Nat.mul_one, Nat.add_sub_cancel_left]
      rw [show j + 1 + (n / e - j - 1) - j - 1 = n / e - j - 1 by omega]
      omega]
    rw [Nat.pow_add, ← Nat.mul_assoc, Nat.mul_right_comm, Nat.mul_div_cancel _ (pow_pos' _), Nat.pow_add, ← Nat.mul_assoc, Nat.mul_right_comm, Nat.mul_mod_left]
  rw [this]; rfl
theorem shl_step {e x y i c f k : Nat} (h : y / 2 ^ (e * k) = x / 2 ^ (e * i) * 2 ^ f + c) (hc : c < 2 ^ f) :
    D e y k = (c + D e x i * 2 ^ f) % 2 ^ e ∧ y / 2 ^ (e * (k + 1)) = x / 2 ^ (e * (i + 1)) * 2 ^ f + (c + D e x i * 2 ^ f) / 2 ^ e ∧ (c + D e x i * 2 ^ f) / 2 ^ e < 2 ^ f := by
  have e1 : y / 2 ^ (e * k) = 2 ^ e * (x / 2 ^ (e * (i + 1)) * 2 ^ f) + (c + D e x i * 2 ^ f) := by
    rw [h, div_split e x i, Nat.add_mul, Nat.mul_assoc]; omega
  refine ⟨?_, ?_, ?_⟩
  · show y / 2 ^ (e * k) % 2 ^ e = _
    rw [e1, Nat.mul_add_mod]
  · rw [div_succ e y, e1, Nat.mul_add_div (pow_pos' _)]
  · rw [Nat.div_lt_iff_lt_mul (pow_pos' _)]
    have h1 : (D e x i + 1) * 2 ^ f ≤ 2 ^ e * 2 ^ f := Nat.mul_le_mul_right _ (D_lt e x i)
    rw [Nat.add_mul, Nat.one_mul, Nat.mul_comm (2 ^ e)] at h1
    omega
theorem shl_end {e x n : Nat} (he : 0 < e) (hx : x ≠ 0) {c : Nat} (hc : x * 2 ^ n / 2 ^ (e * (n / e + nl e x)) = c) (hc' : c < 2 ^ (n % e)) :
    (0 < c → lm e (x * 2 ^ n) = dg e (n / e + nl e x) (x * 2 ^ n) ++ [((c : Nat) : Int)]) ∧ (¬ 0 < c → lm e (x * 2 ^ n) = dg e (n / e + nl e x) (x * 2 ^ n)) := by
  have hf := Nat.mod_lt n he
  have hce : c < 2 ^ e := Nat.lt_of_lt_of_le hc' (pow_le (by omega))
  refine ⟨fun h => ?_, fun h => ?_⟩
  · rw [lm_eq (n := n / e + nl e x + 1) he, dg_succ]
    · rw [show D e (x * 2 ^ n) (n / e + nl e x) = c from by unfold D; rw [hc]; exact Nat.mod_eq_of_lt hce]
    · rw [P_succ]
      have := (Nat.div_lt_iff_lt_mul (k := 2 ^ (e * (n / e + nl e x))) (x := x * 2 ^ n) (y := 2 ^ e) (pow_pos' _)).mp (by rw [hc]; exact hce)
      exact Nat.lt_of_lt_of_eq this (Nat.mul_comm _ _)
    · refine .inr ?_
      rw [Nat.add_sub_cancel]
      rcases Nat.lt_or_ge (x * 2 ^ n) (2 ^ (e * (n / e + nl e x))) with q | q
      · rw [Nat.div_eq_of_lt q] at hc; omega
      · exact q
  · rw [lm_eq (n := n / e + nl e x) he]
    · exact (Nat.div_eq_zero_iff_lt (pow_pos' _)).mp (by omega)
    · refine .inr ?_
      have p := nl_pos (e := e) hx
      have q := nl_le (e := e) hx
      rw [show e * (n / e + nl e x - 1) = e * (nl e x - 1) + e * (n / e) by (rw [← Nat.mul_add, show n / e + nl e x - 1 = nl e x - 1 + n / e by (generalize n / e = k; omega)]), Nat.pow_add]
      refine Nat.mul_le_mul q (pow_le ?_)
      exact Nat.mul_div_le n e
theorem shr_digit {e x n i : Nat} (he : 0 < e) (hi : n / e ≤ i) :
    (D e x i / 2 ^ (n % e) + D e x (i + 1) * 2 ^ (e - n % e)) % 2 ^ e = D e (x / 2 ^ n) (i - n / e) := by
  have hf := Nat.mod_lt n he
  unfold D
  rw [Nat.div_div_eq_div_mul, ← Nat.pow_add]
  have en : n + e * (i - n / e) = e * i + n % e := by
    have := Nat.div_add_mod n e
    have h2 : e * i = e * (n / e) + e * (i - n / e) := by rw [← Nat.mul_add]; congr 1; omega
    omega
  rw [en, Nat.pow_add, ← Nat.div_div_eq_div_mul]
  rw [show e * (i + 1) = e * i + e by rw [Nat.mul_add, Nat.mul_one], Nat.pow_add, ← Nat.div_div_eq_div_mul]
  generalize x / 2 ^ (e * i) = X
  have hB : 2 ^ e = 2 ^ (n % e) * 2 ^ (e - n % e) := by rw [← Nat.pow_add]; congr 1; omega
  -- X = d + B X1
  have e1 : X / 2 ^ (n % e) = X % 2 ^ e / 2 ^ (n % e) + (X / 2 ^ e) * 2 ^ (e - n % e) := by
    conv => lhs; rw [← Nat.div_add_mod X (2 ^ e)]
    conv => lhs; rw [hB]
    rw [Nat.mul_assoc, Nat.mul_add_div (pow_pos' _), Nat.add_comm, Nat.mul_comm (2 ^ (e - n % e))]
    rw [← hB]
  rw [e1]
  have e2 : (X / 2 ^ e) * 2 ^ (e - n % e) = 2 ^ e * (X / 2 ^ e / 2 ^ e * 2 ^ (e - n % e)) + X / 2 ^ e % 2 ^ e * 2 ^ (e - n % e) := by
    conv => lhs; rw [← Nat.div_add_mod (X / 2 ^ e) (2 ^ e)]
    rw [Nat.add_mul, Nat.mul_assoc]
  rw [e2, Nat.add_left_comm, Nat.mul_add_mod]
theorem shr_small {e x n i : Nat} (he : 0 < e) : D e x i / 2 ^ (n % e) < 2 ^ (e - n % e) := by
  have hf := Nat.mod_lt n he
  rw [Nat.div_lt_iff_lt_mul (pow_pos' _), ← Nat.pow_add, show e - n % e + n % e = e by omega]
  exact D_lt e x i
theorem shr_room {e x n : Nat} (he : 0 < e) : x / 2 ^ n < 2 ^ (e * (nl e x - n / e)) := by
  rw [Nat.div_lt_iff_lt_mul (pow_pos' _), ← Nat.pow_add]
  refine Nat.lt_of_lt_of_le (nl_lt he x) (pow_le ?_)
  have h1 : e * nl e x ≤ e * (nl e x - n / e) + e * (n / e) := by rw [← Nat.mul_add]; exact Nat.mul_le_mul_left _ (by omega)
  have := Nat.mul_div_le n e
  omega
theorem low_digits {e x n : Nat} (he : 0 < e) : dg e (n / e) x ++ [((D e x (n / e) % 2 ^ (n % e) : Nat) : Int)] = dg e (n / e + 1) (x % 2 ^ n) := by
  have hf := Nat.mod_lt n he
  have hn := Nat.div_add_mod n e
  have spl : ∀ j, e * j ≤ n → x / 2 ^ (e * j) = 2 ^ (n - e * j) * (x / 2 ^ n) + x % 2 ^ n / 2 ^ (e * j) := by
    intro j hj
    have : 2 ^ n = 2 ^ (e * j) * 2 ^ (n - e * j) := by rw [← Nat.pow_add]; congr 1; omega
    conv => lhs; rw [← Nat.div_add_mod x (2 ^ n)]
    conv => lhs; rw [this]
    rw [Nat.mul_assoc, Nat.mul_add_div (pow_pos' _), ← this]
  rw [dg_succ]
  congr 1
  · unfold dg
    refine List.map_congr_left fun j hj => ?_
    have hj := List.mem_range.mp hj
    have h1 : e * j + e ≤ n := by
      have : e * (j + 1) ≤ e * (n / e) := Nat.mul_le_mul_left _ hj
      rw [Nat.mul_add] at this; omega
    unfold D
    rw [spl j (by omega), show n - e * j = e + (n - e * j - e) by omega, Nat.pow_add, Nat.mul_assoc, Nat.mul_add_mod]
  · have h1 := spl (n / e) (by omega)
    have h2 : n - e * (n / e) = n % e := by omega
    rw [h2] at h1
    have h3 : x % 2 ^ n / 2 ^ (e * (n / e)) < 2 ^ (n % e) := by
      rw [Nat.div_lt_iff_lt_mul (pow_pos' _), ← Nat.pow_add, Nat.add_comm, hn]; exact Nat.mod_lt _ (pow_pos' _)
    have h4 : D e x (n / e) % 2 ^ (n % e) = D e (x % 2 ^ n) (n / e) := by
      unfold D
      rw [Nat.mod_mod_of_dvd _ (Nat.pow_dvd_pow 2 (by omega)), h1, Nat.mul_add_mod, Nat.mod_eq_of_lt h3, Nat.mod_eq_of_lt (Nat.lt_of_lt_of_le h3 (pow_le (by omega)))]
    rw [h4]
theorem low_all {e x n : Nat} (he : 0 < e) (h : nl e x ≤ n / e) : x % 2 ^ n = x := by
  refine Nat.mod_eq_of_lt (Nat.lt_of_lt_of_le (nl_lt he x) (pow_le (Nat.le_trans (Nat.mul_le_mul_left _ h) (Nat.mul_div_le n e))))
theorem low_room {e x n : Nat} (he : 0 < e) : x % 2 ^ n < 2 ^ (e * (n / e + 1)) := by
  refine Nat.lt_of_lt_of_le (Nat.mod_lt _ (pow_pos' _)) (pow_le ?_)
  have := Nat.div_add_mod n e
  have := Nat.mod_lt n he
  rw [Nat.mul_add]; omega
theorem bits_top {e x : Nat} (he : 0 < e) (hx : x ≠ 0) : Builtin.Int.intBits ((x : Nat) : Int) = (nl e x - 1) * e + Builtin.Int.intBits ((D e x (nl e x - 1) : Nat) : Int) := by
  have p := nl_pos (e := e) hx
  have q := nl_le (e := e) hx
  have r := nl_lt he x
  have hD : D e x (nl e x - 1) = x / 2 ^ (e * (nl e x - 1)) := by
    refine Nat.mod_eq_of_lt ?_
    rw [Nat.div_lt_iff_lt_mul (pow_pos' _), Nat.mul_comm, ← P_succ, Nat.sub_add_cancel p]; exact r
  have ht : x / 2 ^ (e * (nl e x - 1)) ≠ 0 := by
    have := Nat.div_pos q (pow_pos' _); omega
  have hb : ∀ z : Nat, z ≠ 0 → Builtin.Int.intBits ((z : Nat) : Int) = z.log2 + 1 := by
    intro z hz
    unfold Builtin.Int.intBits
    have : (((z : Nat) : Int) == 0) = false := by simp; exact hz
    rw [this]
    simp
  rw [hD, hb x hx, hb _ ht]
  have h1 : x.log2 = e * (nl e x - 1) + (x / 2 ^ (e * (nl e x - 1))).log2 := by
    have a := Nat.log2_self_le ht
    have b := Nat.lt_log2_self (n := x / 2 ^ (e * (nl e x - 1)))
    rw [(Nat.log2_eq_iff hx)]
    constructor
    · rw [Nat.pow_add, Nat.mul_comm]
      exact (Nat.le_div_iff_mul_le (pow_pos' _)).mp a
    · rw [Nat.add_assoc, Nat.pow_add, Nat.mul_comm]
      exact (Nat.div_lt_iff_lt_mul (pow_pos' _)).mp b
  rw [h1, Nat.mul_comm]; omega
end
-- SjJ
section
section
variable {prog : Program} {w : World} {A : Around} {E : Value → Shared → Prop} {s₀ s : Shared} {L f : Addr} {m mg : Str → Option Value} {own : List (Addr × Ow)} {nm : Str} {sc : Scope} {cd : Value}
  {p : Program} {names free : List Str} {env : Env} {Q : Value → Shared → Prop} {R : Result → Shared → Prop} {t u v : Tok}
/-- over the limbs of a number -/
theorem loopLm {x : Str} {px : Pos} {body : List Stmt} {it l : Addr} {e y : Nat} (hh : A.handled = none) (hc : isLoc sc x = true) (J : Nat → (Str → Option Value) → List (Addr × Ow) → Prop)
    (hl : IL s₀.heap l (lm e y)) (he : 0 < e) (W : Wd s₀ L s m ((it, lIter l 0) :: own)) (h0 : J 0 m own)
    (turn : ∀ i s m own t P, i < nl e y → J i m own → Wd s₀ L s (upd m x (.int ((D e y i : Nat) : Int) t)) ((it, P) :: own) →
      wpAny (model prog w) A (execs body (envOf nm sc L f cd)) (Turned s₀ L it P (J (i + 1)) R) NE s)
    (fin : ∀ s m own, J (nl e y) m own → Wd s₀ L s m own → R (.ok .next) s) :
    codeAny (model prog w) A (.forLoop (.Name x px) (.ref it) body [] (envOf nm sc L f cd)) R s := by
  refine loopList hh hc J hl W h0 (fun i s m own t P hi hJ W => ?_) fun s m own hJ W => fin s m own (by rw [lm_len] at hJ; exact hJ) W
  rw [lm_get he] at W
  exact turn i s m own t P (by rw [lm_len] at hi; exact hi) hJ W
theorem nSub {a b : Nat} (W : Wd s₀ L s m own) (hb : b ≤ a) (h : ∀ s' t, Wd s₀ L s' m own → Q (.int ((a - b : Nat) : Int) t) s') : wpAny (model prog w) A (binaryOp .Sub (.int (a : Nat) t) (.int (b : Nat) u)) Q E s :=
  oSub W fun s' t W => by rw [show ((a : Nat) : Int) - (b : Nat) = ((a - b : Nat) : Int) by omega]; exact h s' t W
theorem nRep {l : Addr} {k : Nat} (W : Wd s₀ L s m own) (hl : IL s.heap l [0]) (hz : k ≤ 1000000) (h : ∀ r s', Wd s₀ L s' m ((r, .li (List.replicate k 0)) :: own) → Q (.ref r) s') :
    wpAny (model prog w) A (binaryOp .Mult (.ref l) (.int (k : Nat) u)) Q E s := oRep W hl (by omega) (by omega) fun r s' W => by rw [Int.toNat_natCast] at W; exact h r s' W
/-- the greatest limb -/
theorem nTop {value slice : Expr} {a : Addr} {e x : Nat} {u : Tok} (hl : IL s.heap a (lm e x)) (he : 0 < e) (h1 : 0 < nl e x) (hz : nl e x ≤ 1000000)
    (hs : subscripted slice false (.ref a) (.int (-1) u) = operate [.ref a, .int (-1) u] (getItem (.ref a) (.int (-1) u)))
    (h : ∀ t, Q (.int ((D e x (nl e x - 1) : Nat) : Int) t) s) : wpAny (model prog w) A (subscriptTail value slice (.ref a) (.int (-1) u)) Q E s :=
  xItemNeg hl (by decide) (by rw [lm_len]; omega) (by rw [lm_len]; omega) hs fun t => by
    rw [show (-1 + ((lm e x).length : Int)).toNat = nl e x - 1 by rw [lm_len]; omega, lm_get he]; exact h t
theorem eBitLen {pl : Sem Bool} {o : Expr} {p1 pos : Pos} (h : wpAny (model prog w) A (eval o env) (fun v s₁ => ∃ s₀ L m own i t, v = .int i t ∧ Wd s₀ L s₁ m own ∧ ∀ s' t, Wd s₀ L s' m own → Q (.int (Builtin.Int.intBits i : Nat) t) s') E s)
    (he : eval (.Call (.Attribute o (Str.ofString "bit_length") p1) [] [] pos) env = (do
      let ov ← eval o env
      standAt p1.atName
      let (f', first) ← holding [ov] (getMethod ov (Str.ofString "bit_length") pl)
      callWith pos f' first (backTo pos (starEach [] env)) [])) :
    wpAny (model prog w) A (eval (.Call (.Attribute o (Str.ofString "bit_length") p1) [] [] pos) env) Q E s := by
  refine MethodCall_ (wpAny_mono h (fun v s₁ h₁ => ?_) fun _ _ e => e) he
  obtain ⟨s₀, L, m, own, i, t, rfl, W, k⟩ := h₁
  exact getMethod_int_bit_length (callWith_method0 (call_int_bit_length (k _ _ W.tk)))
end
end
-- Fshl
theorem words5 : True := by
  k_with "rl" => (first | ((with_reducible refine' Wd.retL ?Wz207 ?_); (case Wz207 => k_extra "wd"); intro _ _ _) | ((with_reducible refine' Wd.retI ?Wz208 ?_); (case Wz208 => k_extra "wd"); intro _ _ _))
  k_with "rm" => (exact Rm.le (by with_reducible assumption) (by decide))
  k_with "cl" => ((with_reducible refine' normal_ok ?Rz209 ?Gz209 ?hfz209 ?haz209 ?hzz209 ?_); (case Rz209 => k_extra "rm"); (case Gz209 => k_extra "wd"); (case hfz209 => k_extra "wd"); (case haz209 => k_extra "il"); (case hzz209 => k_extra "ar"); k_extra "rl")
  k_with "cl" => ((with_reducible refine' compare_ok ?Rz210 ?Gz210 ?hfz210 ?hez210 ?hxz210 ?hyz210 ?haz210 ?hbz210 ?_); (case Rz210 => k_extra "rm"); (case Gz210 => k_extra "wd"); (case hfz210 => k_extra "wd"); (case haz210 => k_extra "il"); (case hbz210 => k_extra "il"); (case hez210 => k_extra "ar"); (case hxz210 => k_extra "ar"); (case hyz210 => k_extra "ar"); k_extra "rl")
  trivial
section
noncomputable def d_shift_left : {d : FD // fdOf pw (Str.ofString "shift_left") = some d} := ⟨_, rfl⟩
noncomputable def ShlJ (e x n : Nat) (tw : Tok) (i : Nat) (m : Str → Option Value) (own : List (Addr × Ow)) : Prop :=
  ∃ fa rest c t t' t'', own = (fa, .li (dg e (n / e + i) (x * 2 ^ n))) :: rest ∧ m (Str.ofString "found") = some (.ref fa) ∧ m (Str.ofString "carry") = some (.int (c : Nat) t) ∧ m (Str.ofString "few") = some (.int ((n % e : Nat) : Int) t'') ∧
    m (Str.ofString "w") = some (.int (e : Nat) tw) ∧ m (Str.ofString "mask") = some (.int ((2 : Int) ^ e - 1) t') ∧ c < 2 ^ (n % e) ∧ x * 2 ^ n / 2 ^ (e * (n / e + i)) = x / 2 ^ (e * i) * 2 ^ (n % e) + c
section
variable {prog : Program} {w : World} {A : Around} {E : Value → Shared → Prop} {s₀ s : Shared} {L f : Addr} {m mg : Str → Option Value} {own : List (Addr × Ow)} {nm : Str} {sc : Scope} {cd : Value}
  {p : Program} {names free : List Str} {env : Env} {Q : Value → Shared → Prop}
theorem shift_left_ok {a : Addr} {e x n : Nat} {tn tw : Tok} (R : Rm A 1) (G : GD mg s.heap) (hf : FnAt mg s.heap (Str.ofString "shift_left") d_shift_left.1 f)
    (he : 1 ≤ e) (he8 : e ≤ 8) (hx : x < 2 ^ 100) (hn : n ≤ 1000) (ha : IL s.heap a (lm e x)) (h : RetL s (lm e (x * 2 ^ n)) Q) : wpAny (model prog w) A (call (.ref f) [.ref a, .int (n : Nat) tn, .int (e : Nat) tw]) Q E s := by
  refine enterU [Str.ofString "a", Str.ofString "n", Str.ofString "w"] R G hf (by intro _ _ _; rfl) (by decide +kernel) (by decide +kernel) ?_
  intro L cd s' W
  dsimp only [List.foldl, List.zip, List.zipWith] at W
  have R' := R.deeper (envOf (Str.ofString "shift_left") d_shift_left.1.2.2 L f cd)
  have hbx := nl_bound he hx
  have hne : n / e ≤ 1000 := Nat.le_trans (Nat.div_le_self _ _) hn
  have hfe : n % e < e := Nat.mod_lt _ he
  have hfe' : n % e ≤ 100000 := by omega
  refine sIf ?_
  repeat k_extra "st"
  refine iteD (fun h1 => ?_) (fun h1 => ?_)
  · repeat k_extra "st"
    refine h.back (by k_extra "wd") ?_
    have : x = 0 := by
      rcases Nat.eq_zero_or_pos x with q | q
      · exact q
      · have := nl_pos (e := e) (x := x) (by omega); omega
    subst this
    rw [Nat.zero_mul, lm_zero]
    exact .head _
  have hx0 : x ≠ 0 := by rintro rfl; rw [nl_zero] at h1; exact h1 rfl
  repeat k_extra "st"
  refine' loopLm R'.hd ?hc (ShlJ e x n tw) ha he ?W ?h0 ?_ ?_
  case hc => decide +kernel
  case W => k_extra "wd"
  case h0 => exact ⟨_, _, 0, _, _, _, by rw [Nat.add_zero, shl_zeros], by k_extra "lk", int_as (by k_extra "lk") (by rfl), by k_extra "lk", by k_extra "lk", by k_extra "lk", pow_pos' _, by rw [Nat.add_zero, shl_start]; simp⟩
  · rintro i s m own t P hi ⟨fa, rest, c, t1, t2, t3, rfl, m1, m2, m3, m4, m5, hc, hJ⟩ W
    have hD := D_lt e x i
    have hs := shl_step hJ hc
    repeat k_extra "st"
    exact ⟨_, _, by k_extra "wd", fa, rest, _, _, _, _, by rw [← Nat.add_assoc, dg_succ, hs.1], by k_extra "lk", by k_extra "lk", by k_extra "lk", by k_extra "lk", by k_extra "lk", hs.2.2, hs.2.1⟩
  rintro s m own ⟨fa, rest, c, t1, t2, t3, rfl, m1, m2, m3, m4, m5, hc, hJ⟩ W
  rw [Nat.div_eq_of_lt (nl_lt he x), Nat.zero_mul, Nat.zero_add] at hJ
  have hs := shl_end he hx0 hJ hc
  dsimp only
  repeat k_extra "st"
  refine iteD (fun h1 => ?_) (fun h1 => ?_)
  · repeat k_extra "st"
    refine h.back (by k_extra "wd") ?_
    rw [hs.1 (by omega)]
    exact .head _
  · repeat k_extra "st"
    refine h.back (by k_extra "wd") ?_
    rw [hs.2 (by omega)]
    exact .head _
end
end
-- Fshr
section
noncomputable def d_shift_right : {d : FD // fdOf pw (Str.ofString "shift_right") = some d} := ⟨_, rfl⟩
noncomputable def ShrJ (e x n : Nat) (a : Addr) (tw : Tok) (i : Nat) (m : Str → Option Value) (own : List (Addr × Ow)) : Prop :=
  ∃ fa rest t' t'', own = (fa, .li (dg e (i - n / e) (x / 2 ^ n))) :: rest ∧ m (Str.ofString "found") = some (.ref fa) ∧ m (Str.ofString "a") = some (.ref a) ∧ m (Str.ofString "few") = some (.int ((n % e : Nat) : Int) t'') ∧
    m (Str.ofString "w") = some (.int (e : Nat) tw) ∧ m (Str.ofString "mask") = some (.int ((2 : Int) ^ e - 1) t')
section
variable {prog : Program} {w : World} {A : Around} {E : Value → Shared → Prop} {s₀ s : Shared} {L f : Addr} {m mg : Str → Option Value} {own : List (Addr × Ow)} {nm : Str} {sc : Scope} {cd : Value}
  {p : Program} {names free : List Str} {env : Env} {Q : Value → Shared → Prop}
theorem shift_right_ok {a : Addr} {e x n : Nat} {tn tw : Tok} (R : Rm A 2) (G : GD mg s.heap) (hf : FnAt mg s.heap (Str.ofString "shift_right") d_shift_right.1 f)
    (he : 1 ≤ e) (he8 : e ≤ 8) (hx : x < 2 ^ 100) (hn : n ≤ 1000) (ha : IL s.heap a (lm e x)) (h : RetL s (lm e (x / 2 ^ n)) Q) : wpAny (model prog w) A (call (.ref f) [.ref a, .int (n : Nat) tn, .int (e : Nat) tw]) Q E s := by
  refine enterU [Str.ofString "a", Str.ofString "n", Str.ofString "w"] R G hf (by intro _ _ _; rfl) (by decide +kernel) (by decide +kernel) ?_
  intro L cd s' W
  dsimp only [List.foldl, List.zip, List.zipWith] at W
  have R' := R.deeper (envOf (Str.ofString "shift_right") d_shift_right.1.2.2 L f cd)
  have hbx := nl_bound he hx
  have hne : n / e ≤ 1000 := Nat.le_trans (Nat.div_le_self _ _) hn
  have hfe : n % e < e := Nat.mod_lt _ he
  have hfe' : n % e ≤ 100000 := by omega
  obtain ⟨g2, hg2⟩ := G.fns (Str.ofString "normal") (by decide +kernel) _ d_normal.2
  have hne' : n / e ≤ 1000000 := by omega
  refine sTup2 _ _ R'.hd (by decide +kernel) (by decide +kernel) ?_ rfl rfl rfl rfl
  repeat k_extra "st"
  refine' loopUp R'.hd ?hc (ShrJ e x n a tw) ?W ?h0 ?_ ?_
  case hc => decide +kernel
  case W => k_extra "wd"
  case h0 => exact ⟨_, _, _, _, by rw [Nat.sub_self]; rfl, by k_extra "lk", by k_extra "lk", by k_extra "lk", by k_extra "lk", by k_extra "lk"⟩
  · rintro i s m own t P hi1 hi2 ⟨fa, rest, t2, t3, rfl, m1, m2, m3, m4, m5⟩ W
    have hD := D_lt e x (i + 1)
    have hq := shr_small (x := x) (n := n) (i := i) he
    have hi2' : i < nl e x := by generalize n / e = k at *; omega
    have hk : e - n % e ≤ 100000 := by omega
    refine sSet (by decide +kernel) ?_
    refine eIfInt ((D e x (i + 1) : Nat) : Int) (by k_extra "wd") ?_ ?_
    · repeat k_extra "st"
      refine iteD (fun q => ?_) (fun q => ?_)
      · repeat k_extra "st"
        exact ⟨⟨_, rfl⟩, by k_extra "wd"⟩
      · repeat k_extra "st"
        exact ⟨⟨_, by rw [D_high (nl_lt he x) (by omega)]; rfl⟩, by k_extra "wd"⟩
    intro s t W
    have hlen : i - n / e ≤ 1000 := by generalize n / e = k at *; omega
    repeat k_extra "st"
    exact ⟨_, _, by k_extra "wd", fa, rest, _, _, by rw [show i + 1 - n / e = i - n / e + 1 by (generalize n / e = k at *; omega), dg_succ, shr_digit he hi1], by k_extra "lk", by k_extra "lk", by k_extra "lk", by k_extra "lk", by k_extra "lk"⟩
  rintro s m own ⟨fa, rest, t2, t3, rfl, m1, m2, m3, m4, m5⟩ W
  dsimp only
  rw [Nat.add_sub_cancel_left] at W
  have hlen : nl e x - n / e ≤ 1000 := by generalize n / e = k at *; omega
  repeat k_extra "st"
  refine h.back (by k_extra "wd") ?_
  rw [trim_dg he (shr_room he)]
  exact .head _
end
end
-- Fbits
section
noncomputable def d_bits : {d : FD // fdOf pw (Str.ofString "bits") = some d} := ⟨_, rfl⟩
noncomputable def d_low : {d : FD // fdOf pw (Str.ofString "low") = some d} := ⟨_, rfl⟩
theorem mul_small {a b : Int} (ha : a.natAbs < 2 ^ 200) (hb : b.natAbs < 2 ^ 200) : IntMulOk a b :=
  .of_le (m := 200) (n := 200) (intBits_le_iff.mpr ha) (intBits_le_iff.mpr hb) (by decide)
section
variable {prog : Program} {w : World} {A : Around} {E : Value → Shared → Prop} {s₀ s : Shared} {L f : Addr} {m mg : Str → Option Value} {own : List (Addr × Ow)} {nm : Str} {sc : Scope} {cd : Value}
  {p : Program} {names free : List Str} {env : Env} {Q : Value → Shared → Prop}
theorem bits_ok {a : Addr} {e x : Nat} {tw : Tok} (R : Rm A 1) (G : GD mg s.heap) (hf : FnAt mg s.heap (Str.ofString "bits") d_bits.1 f)
    (he : 1 ≤ e) (he8 : e ≤ 8) (hx : x < 2 ^ 100) (ha : IL s.heap a (lm e x)) (h : RetI s (Builtin.Int.intBits ((x : Nat) : Int) : Nat) Q) : wpAny (model prog w) A (call (.ref f) [.ref a, .int (e : Nat) tw]) Q E s := by
  refine enterU [Str.ofString "a", Str.ofString "w"] R G hf (by intro _ _ _; rfl) (by decide +kernel) (by decide +kernel) ?_
  intro L cd s' W
  dsimp only [List.foldl, List.zip, List.zipWith] at W
  have R' := R.deeper (envOf (Str.ofString "bits") d_bits.1.2.2 L f cd)
  have hbx := nl_bound he hx
  refine sRet ?_
  refine IfExp_ ?_
  repeat k_extra "st"
  refine iteD (fun h1 => ?_) (fun h1 => ?_)
  · repeat k_extra "st"
    refine oMul (by k_extra "wd") (mul_small (by omega) (by omega)) fun s t W => ?_
    repeat k_extra "st"
    refine h.fin (by k_extra "wd") ?_
    rw [bits_top (e := e) he (by rintro rfl; rw [nl_zero] at h1; exact absurd h1 (by decide))]
    push_cast
    rw [Int.natCast_sub (by omega)]
    rfl
  · repeat k_extra "st"
    refine h.fin (by k_extra "wd") ?_
    have : x = 0 := by
      rcases Nat.eq_zero_or_pos x with q | q
      · exact q
      · have := nl_pos (e := e) (x := x) (by omega); omega
    subst this; rfl
theorem low_ok {a : Addr} {e x n : Nat} {tn tw : Tok} (R : Rm A 2) (G : GD mg s.heap) (hf : FnAt mg s.heap (Str.ofString "low") d_low.1 f)
    (he : 1 ≤ e) (he8 : e ≤ 8) (hx : x < 2 ^ 100) (hn : n ≤ 1000) (ha : IL s.heap a (lm e x)) (h : RetL s (lm e (x % 2 ^ n)) Q) : wpAny (model prog w) A (call (.ref f) [.ref a, .int (n : Nat) tn, .int (e : Nat) tw]) Q E s := by
  refine enterU [Str.ofString "a", Str.ofString "n", Str.ofString "w"] R G hf (by intro _ _ _; rfl) (by decide +kernel) (by decide +kernel) ?_
  intro L cd s' W
  dsimp only [List.foldl, List.zip, List.zipWith] at W
  have R' := R.deeper (envOf (Str.ofString "low") d_low.1.2.2 L f cd)
  have hbx := nl_bound he hx
  have hne : n / e ≤ 1000 := Nat.le_trans (Nat.div_le_self _ _) hn
  have hne' : n / e ≤ 1000000 := by omega
  have hfe : n % e < e := Nat.mod_lt _ he
  have hfe' : n % e ≤ 100000 := by omega
  obtain ⟨g2, hg2⟩ := G.fns (Str.ofString "normal") (by decide +kernel) _ d_normal.2
  refine sTup2 _ _ R'.hd (by decide +kernel) (by decide +kernel) ?_ rfl rfl rfl rfl
  repeat k_extra "st"
  refine iteD (fun h1 => ?_) (fun h1 => ?_)
  · repeat k_extra "st"
    refine h.back (by k_extra "wd") ?_
    rw [low_all he (by generalize n / e = k at *; omega)]
    exact .head _
  have h1' : n / e < nl e x := by generalize n / e = k at *; omega
  repeat k_extra "st"
  refine h.back (by k_extra "wd") ?_
  rw [Int.toNat_natCast, show (lm e x).take (n / e) = dg e (n / e) x from take_dg (by omega), low_digits he, trim_dg he (low_room he)]
  exact .head _
end
end
-- Fring
theorem words6 : True := by
  k_with "cl" => ((with_reducible refine' nat_of_ok ?Rz211 ?Gz211 ?hfz211 ?hez211 ?he8z211 ?hxz211 ?_); (case Rz211 => k_extra "rm"); (case Gz211 => k_extra "wd"); (case hfz211 => k_extra "wd"); (case hez211 => k_extra "ar"); (case he8z211 => k_extra "ar"); (case hxz211 => k_extra "ar"); k_extra "rl")
  k_with "cl" => ((with_reducible refine' add_ok ?Rz212 ?Gz212 ?hfz212 ?hez212 ?he8z212 ?hxz212 ?hyz212 ?haz212 ?hbz212 ?_); (case Rz212 => k_extra "rm"); (case Gz212 => k_extra "wd"); (case hfz212 => k_extra "wd"); (case haz212 => k_extra "il"); (case hbz212 => k_extra "il"); (case hez212 => k_extra "ar"); (case he8z212 => k_extra "ar"); (case hxz212 => k_extra "ar"); (case hyz212 => k_extra "ar"); k_extra "rl")
  k_with "cl" => ((with_reducible refine' sub_ok ?Rz213 ?Gz213 ?hfz213 ?hez213 ?he8z213 ?hxz213 ?hyz213 ?haz213 ?hbz213 ?_); (case Rz213 => k_extra "rm"); (case Gz213 => k_extra "wd"); (case hfz213 => k_extra "wd"); (case haz213 => k_extra "il"); (case hbz213 => k_extra "il"); (case hez213 => k_extra "ar"); (case he8z213 => k_extra "ar"); (case hxz213 => k_extra "ar"); (case hyz213 => k_extra "ar"); k_extra "rl")
  k_with "cl" => ((with_reducible refine' shift_left_ok ?Rz214 ?Gz214 ?hfz214 ?hez214 ?he8z214 ?hxz214 ?hnz214 ?haz214 ?_); (case Rz214 => k_extra "rm"); (case Gz214 => k_extra "wd"); (case hfz214 => k_extra "wd"); (case haz214 => k_extra "il"); (case hez214 => k_extra "ar"); (case he8z214 => k_extra "ar"); (case hxz214 => k_extra "ar"); (case hnz214 => k_extra "ar"); k_extra "rl")
  k_with "cl" => ((with_reducible refine' shift_right_ok ?Rz215 ?Gz215 ?hfz215 ?hez215 ?he8z215 ?hxz215 ?hnz215 ?haz215 ?_); (case Rz215 => k_extra "rm"); (case Gz215 => k_extra "wd"); (case hfz215 => k_extra "wd"); (case haz215 => k_extra "il"); (case hez215 => k_extra "ar"); (case he8z215 => k_extra "ar"); (case hxz215 => k_extra "ar"); (case hnz215 => k_extra "ar"); k_extra "rl")
  k_with "cl" => ((with_reducible refine' bits_ok ?Rz216 ?Gz216 ?hfz216 ?hez216 ?he8z216 ?hxz216 ?haz216 ?_); (case Rz216 => k_extra "rm"); (case Gz216 => k_extra "wd"); (case hfz216 => k_extra "wd"); (case haz216 => k_extra "il"); (case hez216 => k_extra "ar"); (case he8z216 => k_extra "ar"); (case hxz216 => k_extra "ar"); k_extra "rl")
  k_with "cl" => ((with_reducible refine' low_ok ?Rz217 ?Gz217 ?hfz217 ?hez217 ?he8z217 ?hxz217 ?hnz217 ?haz217 ?_); (case Rz217 => k_extra "rm"); (case Gz217 => k_extra "wd"); (case hfz217 => k_extra "wd"); (case haz217 => k_extra "il"); (case hez217 => k_extra "ar"); (case he8z217 => k_extra "ar"); (case hxz217 => k_extra "ar"); (case hnz217 => k_extra "ar"); k_extra "rl")
  trivial
section
noncomputable def d_ring_one : {d : FD // fdOf pw (Str.ofString "ring_one") = some d} := ⟨_, rfl⟩
noncomputable def d_ring_add : {d : FD // fdOf pw (Str.ofString "ring_add") = some d} := ⟨_, rfl⟩
noncomputable def d_ring_sub : {d : FD // fdOf pw (Str.ofString "ring_sub") = some d} := ⟨_, rfl⟩
noncomputable def d_ring_neg : {d : FD // fdOf pw (Str.ofString "ring_neg") = some d} := ⟨_, rfl⟩
section
variable {prog : Program} {w : World} {A : Around} {E : Value → Shared → Prop} {s₀ s : Shared} {L f : Addr} {m mg : Str → Option Value} {own : List (Addr × Ow)} {nm : Str} {sc : Scope} {cd : Value}
  {p : Program} {names free : List Str} {env : Env} {Q : Value → Shared → Prop}
theorem ring_one_ok {e n : Nat} {tn tw : Tok} (R : Rm A 2) (G : GD mg s.heap) (hf : FnAt mg s.heap (Str.ofString "ring_one") d_ring_one.1 f)
    (he : 1 ≤ e) (he8 : e ≤ 8) (hn : n ≤ 64) (h : RetL s (lm e (2 ^ n + 1)) Q) : wpAny (model prog w) A (call (.ref f) [.int (n : Nat) tn, .int (e : Nat) tw]) Q E s := by
  refine enterU [Str.ofString "n", Str.ofString "w"] R G hf (by intro _ _ _; rfl) (by decide +kernel) (by decide +kernel) ?_
  intro L cd s' W
  dsimp only [List.foldl, List.zip, List.zipWith] at W
  have R' := R.deeper (envOf (Str.ofString "ring_one") d_ring_one.1.2.2 L f cd)
  have hM : 2 ^ n ≤ 2 ^ 64 := pow_le hn
  have hM1 : 1 * 2 ^ n ≤ 2 ^ 64 := by omega
  obtain ⟨g1, hg1⟩ := G.fns (Str.ofString "add") (by decide +kernel) _ d_add.2
  obtain ⟨g2, hg2⟩ := G.fns (Str.ofString "shift_left") (by decide +kernel) _ d_shift_left.2
  refine sRet ?_
  repeat k_extra "st"
  refine h.back (by k_extra "wd") ?_
  rw [Nat.one_mul]
  exact .head _
theorem words7 : True := by
  k_with "cl" => ((with_reducible refine' ring_one_ok ?Rz218 ?Gz218 ?hfz218 ?hez218 ?he8z218 ?hnz218 ?_); (case Rz218 => k_extra "rm"); (case Gz218 => k_extra "wd"); (case hfz218 => k_extra "wd"); (case hez218 => k_extra "ar"); (case he8z218 => k_extra "ar"); (case hnz218 => k_extra "ar"); k_extra "rl")
  trivial
theorem cmpI_ge {x y : Nat} : (0 ≤ cmpI x y) ↔ y ≤ x := by
  unfold cmpI
  split
  · constructor <;> intro h <;> omega
  · split
    · constructor <;> intro h <;> omega
    · constructor <;> intro h <;> omega
theorem ring_add_ok {a b : Addr} {e n x y : Nat} {tn tw : Tok} (R : Rm A 3) (G : GD mg s.heap) (hf : FnAt mg s.heap (Str.ofString "ring_add") d_ring_add.1 f)
    (he : 1 ≤ e) (he8 : e ≤ 8) (hn : n ≤ 64) (hx : x ≤ 2 ^ n) (hy : y ≤ 2 ^ n) (ha : IL s.heap a (lm e x)) (hb : IL s.heap b (lm e y)) (h : RetL s (lm e ((x + y) % (2 ^ n + 1))) Q) :
    wpAny (model prog w) A (call (.ref f) [.ref a, .ref b, .int (n : Nat) tn, .int (e : Nat) tw]) Q E s := by
  refine enterU [Str.ofString "a", Str.ofString "b", Str.ofString "n", Str.ofString "w"] R G hf (by intro _ _ _; rfl) (by decide +kernel) (by decide +kernel) ?_
  intro L cd s' W
  dsimp only [List.foldl, List.zip, List.zipWith] at W
  have R' := R.deeper (envOf (Str.ofString "ring_add") d_ring_add.1.2.2 L f cd)
  have hM : 2 ^ n ≤ 2 ^ 64 := pow_le hn
  have hM1 : 1 * 2 ^ n ≤ 2 ^ 64 := by omega
  obtain ⟨g1, hg1⟩ := G.fns (Str.ofString "add") (by decide +kernel) _ d_add.2
  obtain ⟨g2, hg2⟩ := G.fns (Str.ofString "sub") (by decide +kernel) _ d_sub.2
  obtain ⟨g3, hg3⟩ := G.fns (Str.ofString "bits") (by decide +kernel) _ d_bits.2
  obtain ⟨g4, hg4⟩ := G.fns (Str.ofString "ring_one") (by decide +kernel) _ d_ring_one.2
  obtain ⟨g5, hg5⟩ := G.fns (Str.ofString "compare") (by decide +kernel) _ d_compare.2
  refine sSet (by decide +kernel) ?_
  repeat k_extra "st"
  refine IfExp_ ?_
  repeat k_extra "st"
  refine iteD (fun h1 => ?_) (fun h1 => ?_)
  · repeat k_extra "st"
    refine iteD (fun h2 => ?_) (fun h2 => ?_)
    · have h2 := cmpI_ge.mp h2
      repeat k_extra "st"
      refine h.back (by k_extra "wd") ?_
      rw [Nat.mod_eq_sub_mod h2, Nat.mod_eq_of_lt (by omega)]
      exact .head _
    · have h2 : ¬ _ := fun q => h2 (cmpI_ge.mpr q)
      repeat k_extra "st"
      refine h.back (by k_extra "wd") ?_
      rw [Nat.mod_eq_of_lt (by omega)]
      k_extra "mem"
  · repeat k_extra "st"
    refine h.back (by k_extra "wd") ?_
    have h3 : x + y < 2 ^ n := by
      have := (intBits_le_iff (m := n) (x := ((x + y : Nat) : Int))).mp (by omega)
      rw [Int.natAbs_natCast] at this; exact this
    rw [Nat.mod_eq_of_lt (by omega)]
    k_extra "mem"
theorem ring_sub_ok {a b : Addr} {e n x y : Nat} {tn tw : Tok} (R : Rm A 3) (G : GD mg s.heap) (hf : FnAt mg s.heap (Str.ofString "ring_sub") d_ring_sub.1 f)
    (he : 1 ≤ e) (he8 : e ≤ 8) (hn : n ≤ 64) (hx : x ≤ 2 ^ n) (hy : y ≤ 2 ^ n) (ha : IL s.heap a (lm e x)) (hb : IL s.heap b (lm e y)) (h : RetL s (lm e ((x + (2 ^ n + 1 - y)) % (2 ^ n + 1))) Q) :
    wpAny (model prog w) A (call (.ref f) [.ref a, .ref b, .int (n : Nat) tn, .int (e : Nat) tw]) Q E s := by
  refine enterU [Str.ofString "a", Str.ofString "b", Str.ofString "n", Str.ofString "w"] R G hf (by intro _ _ _; rfl) (by decide +kernel) (by decide +kernel) ?_
  intro L cd s' W
  dsimp only [List.foldl, List.zip, List.zipWith] at W
  have R' := R.deeper (envOf (Str.ofString "ring_sub") d_ring_sub.1.2.2 L f cd)
  have hM : 2 ^ n ≤ 2 ^ 64 := pow_le hn
  obtain ⟨g1, hg1⟩ := G.fns (Str.ofString "add") (by decide +kernel) _ d_add.2
  obtain ⟨g2, hg2⟩ := G.fns (Str.ofString "sub") (by decide +kernel) _ d_sub.2
  obtain ⟨g4, hg4⟩ := G.fns (Str.ofString "ring_one") (by decide +kernel) _ d_ring_one.2
  obtain ⟨g5, hg5⟩ := G.fns (Str.ofString "compare") (by decide +kernel) _ d_compare.2
  refine sIf ?_
  repeat k_extra "st"
  refine iteD (fun h1 => ?_) (fun h1 => ?_)
  · have h1 := cmpI_ge.mp h1
    repeat k_extra "st"
    refine h.back (by k_extra "wd") ?_
    rw [show x + (2 ^ n + 1 - y) = (2 ^ n + 1) + (x - y) by omega, Nat.add_mod_left, Nat.mod_eq_of_lt (by omega)]
    exact .head _
  · have h1 : ¬ y ≤ x := fun q => h1 (cmpI_ge.mpr q)
    repeat k_extra "st"
    refine h.back (by k_extra "wd") ?_
    rw [Nat.mod_eq_of_lt (by omega), show x + (2 ^ n + 1 - y) = x + (2 ^ n + 1) - y by omega]
    exact .head _
theorem ring_neg_ok {a : Addr} {e n x : Nat} {tn tw : Tok} (R : Rm A 3) (G : GD mg s.heap) (hf : FnAt mg s.heap (Str.ofString "ring_neg") d_ring_neg.1 f)
    (he : 1 ≤ e) (he8 : e ≤ 8) (hn : n ≤ 64) (hx : x ≤ 2 ^ n) (ha : IL s.heap a (lm e x)) (h : RetL s (lm e ((2 ^ n + 1 - x) % (2 ^ n + 1))) Q) :
    wpAny (model prog w) A (call (.ref f) [.ref a, .int (n : Nat) tn, .int (e : Nat) tw]) Q E s := by
  refine enterU [Str.ofString "a", Str.ofString "n", Str.ofString "w"] R G hf (by intro _ _ _; rfl) (by decide +kernel) (by decide +kernel) ?_
  intro L cd s' W
  dsimp only [List.foldl, List.zip, List.zipWith] at W
  have R' := R.deeper (envOf (Str.ofString "ring_neg") d_ring_neg.1.2.2 L f cd)
  have hM : 2 ^ n ≤ 2 ^ 64 := pow_le hn
  have hbx := nl_bound he (x := x) (by omega)
  obtain ⟨g2, hg2⟩ := G.fns (Str.ofString "sub") (by decide +kernel) _ d_sub.2
  obtain ⟨g4, hg4⟩ := G.fns (Str.ofString "ring_one") (by decide +kernel) _ d_ring_one.2
  refine sRet ?_
  refine IfExp_ ?_
  repeat k_extra "st"
  refine iteD (fun h1 => ?_) (fun h1 => ?_)
  · have hx0 : x ≠ 0 := by rintro rfl; rw [nl_zero] at h1; exact absurd h1 (by decide)
    repeat k_extra "st"
    refine h.back (by k_extra "wd") ?_
    rw [Nat.mod_eq_of_lt (by omega)]
    exact .head _
  · have : x = 0 := by
      rcases Nat.eq_zero_or_pos x with q | q
      · exact q
      · have := nl_pos (e := e) (x := x) (by omega); omega
    subst this
    repeat k_extra "st"
    refine h.back (by k_extra "wd") ?_
    rw [Nat.sub_zero, Nat.mod_self, lm_zero]
    exact .head _
end
end
-- Ffold
theorem words8 : True := by
  k_with "cl" => ((with_reducible refine' ring_add_ok ?Rz219 ?Gz219 ?hfz219 ?hez219 ?he8z219 ?hnz219 ?hxz219 ?hyz219 ?haz219 ?hbz219 ?_); (case Rz219 => k_extra "rm"); (case Gz219 => k_extra "wd"); (case hfz219 => k_extra "wd"); (case haz219 => k_extra "il"); (case hbz219 => k_extra "il"); (case hez219 => k_extra "ar"); (case he8z219 => k_extra "ar"); (case hnz219 => k_extra "ar"); (case hxz219 => k_extra "ar"); (case hyz219 => k_extra "ar"); k_extra "rl")
  k_with "cl" => ((with_reducible refine' ring_sub_ok ?Rz220 ?Gz220 ?hfz220 ?hez220 ?he8z220 ?hnz220 ?hxz220 ?hyz220 ?haz220 ?hbz220 ?_); (case Rz220 => k_extra "rm"); (case Gz220 => k_extra "wd"); (case hfz220 => k_extra "wd"); (case haz220 => k_extra "il"); (case hbz220 => k_extra "il"); (case hez220 => k_extra "ar"); (case he8z220 => k_extra "ar"); (case hnz220 => k_extra "ar"); (case hxz220 => k_extra "ar"); (case hyz220 => k_extra "ar"); k_extra "rl")
  k_with "cl" => ((with_reducible refine' ring_neg_ok ?Rz221 ?Gz221 ?hfz221 ?hez221 ?he8z221 ?hnz221 ?hxz221 ?haz221 ?_); (case Rz221 => k_extra "rm"); (case Gz221 => k_extra "wd"); (case hfz221 => k_extra "wd"); (case haz221 => k_extra "il"); (case hez221 => k_extra "ar"); (case he8z221 => k_extra "ar"); (case hnz221 => k_extra "ar"); (case hxz221 => k_extra "ar"); k_extra "rl")
  k_with "cl" => ((with_reducible refine' need_ring_ok ?Rz222 ?Gz222 ?hfz222 ?hnz222 ?_); (case Rz222 => k_extra "rm"); (case Gz222 => k_extra "wd"); (case hfz222 => k_extra "wd"); (case hnz222 => k_extra "ar"); ((with_reducible refine' Wd.retN ?Wz223 ?_); (case Wz223 => k_extra "wd"); intro _ _; refine ⟨rfl, ?_⟩))
  k_with "cl" => ((with_reducible refine' sExprN ?hkz224 ?_ ?hsz224); (case hkz224 => exact rfl); (case hsz224 => exact rfl))
  k_with "cl" => (with_reducible refine not_of ?_)
  k_with "cl" => ((with_reducible refine' ring_fold_ok ?Rz225 ?Gz225 ?hfz225 ?hez225 ?he8z225 ?hn1z225 ?hnz225 ?hxz225 ?haz225 ?_); (case Rz225 => k_extra "rm"); (case Gz225 => k_extra "wd"); (case hfz225 => k_extra "wd"); (case haz225 => k_extra "il"); (case hez225 => k_extra "ar"); (case he8z225 => k_extra "ar"); (case hn1z225 => k_extra "ar"); (case hnz225 => k_extra "ar"); (case hxz225 => k_extra "ar"); k_extra "rl")
  trivial
section
noncomputable def d_need_ring : {d : FD // fdOf pw (Str.ofString "need_ring") = some d} := ⟨_, rfl⟩
noncomputable def d_ring_fold : {d : FD // fdOf pw (Str.ofString "ring_fold") = some d} := ⟨_, rfl⟩
theorem fold_plus {n x y f : Nat} (h : (f + y) % (2 ^ n + 1) = x % (2 ^ n + 1)) : ((f + y % 2 ^ n) % (2 ^ n + 1) + 2 ^ n * (y / 2 ^ n)) % (2 ^ n + 1) = x % (2 ^ n + 1) := by
  rw [Nat.mod_add_mod, Nat.add_assoc, Nat.mod_add_div]; exact h
theorem fold_minus {n x y f : Nat} (h : (f + 2 ^ n * y) % (2 ^ n + 1) = x % (2 ^ n + 1)) : ((f + (2 ^ n + 1 - y % 2 ^ n)) % (2 ^ n + 1) + y / 2 ^ n) % (2 ^ n + 1) = x % (2 ^ n + 1) := by
  rw [Nat.mod_add_mod, ← h]
  have hp := Nat.mod_lt y (pow_pos' n)
  have hy := Nat.div_add_mod y (2 ^ n)
  generalize y % 2 ^ n = p at *
  generalize y / 2 ^ n = q at *
  have hN := pow_pos' n
  generalize 2 ^ n = N at *
  obtain ⟨k, rfl⟩ : ∃ k, N = k + 1 := ⟨N - 1, by omega⟩
  have key : f + (k + 1) * y + (k + 1 + 1) = f + (k + 1 + 1 - p) + q + (k + 1 + 1) * (p + k * q) := by
    rw [← hy]
    obtain ⟨r, rfl⟩ : ∃ r, k = p + r := ⟨k - p, by omega⟩
    rw [show p + r + 1 + 1 - p = r + 2 by omega]
    clear h hy
    grind
  have h1 : (f + (k + 1) * y) % (k + 1 + 1) = (f + (k + 1) * y + (k + 1 + 1)) % (k + 1 + 1) := (Nat.add_mod_right _ _).symm
  rw [h1, key, Nat.add_mul_mod_self_left]
section
variable {prog : Program} {w : World} {A : Around} {E : Value → Shared → Prop} {s₀ s : Shared} {L f : Addr} {m mg : Str → Option Value} {own : List (Addr × Ow)} {nm : Str} {sc : Scope} {cd : Value}
  {p : Program} {names free : List Str} {env : Env} {Q : Value → Shared → Prop}
/-- a def hands back None -/
noncomputable def RetN (s : Shared) (Q : Value → Shared → Prop) : Prop := ∀ s', Kp s.heap s'.heap → Rest s s' → Q .none s'
theorem Wd.retN (W : Wd s₀ L s m own) (h : ∀ s', Wd s₀ L s' m own → Q .none s') : RetN s Q := fun s' k e => h s' (W.kp k e)
theorem RetN.back {s' : Shared} (h : RetN s Q) (W : Wd s L s' m own) : Q .none s' := h s' W.keep W.rest
theorem sExprN {e : Expr} {pos : Pos} {rest : List Stmt} {Q : Flow → Shared → Prop} (hk : sc.kind = .function)
    (h : wpAny (model prog w) A (eval e (envOf nm sc L f cd)) (fun v s₁ => v = .none ∧ wpAny (model prog w) A (execs rest (envOf nm sc L f cd)) Q E s₁) E s)
    (hs : swapsWith e none pos.line (envOf nm sc L f cd) = pure false) : wpAny (model prog w) A (execs (.Expr e pos :: rest) (envOf nm sc L f cd)) Q E s := by
  have hi : interactive (envOf nm sc L f cd) = false := by
    show (sc.kind == .module && _) = false
    rw [hk]; rfl
  exact wpAny_execs_cons (wpAny_Expr (wpAny_mono h (fun v s₁ h₁ => by obtain ⟨rfl, k⟩ := h₁; exact k) fun _ _ e => e) hi hs)
theorem need_ring_ok {n : Nat} {tn : Tok} (R : Rm A 1) (G : GD mg s.heap) (hf : FnAt mg s.heap (Str.ofString "need_ring") d_need_ring.1 f)
    (hn : 1 ≤ n) (h : RetN s Q) : wpAny (model prog w) A (call (.ref f) [.int (n : Nat) tn]) Q E s := by
  refine enterU [Str.ofString "n"] R G hf (by intro _ _ _; rfl) (by decide +kernel) (by decide +kernel) ?_
  intro L cd s' W
  dsimp only [List.foldl, List.zip, List.zipWith] at W
  have R' := R.deeper (envOf (Str.ofString "need_ring") d_need_ring.1.2.2 L f cd)
  refine sIf ?_
  repeat k_extra "st"
  refine iteD (fun h1 => absurd h1 (by omega)) (fun h1 => ?_)
  repeat k_extra "st"
  exact h.back (by k_extra "wd")
theorem words9 : True := by
  k_with "cl" => ((with_reducible refine' need_ring_ok ?Rz226 ?Gz226 ?hfz226 ?hnz226 ?_); (case Rz226 => k_extra "rm"); (case Gz226 => k_extra "wd"); (case hfz226 => k_extra "wd"); (case hnz226 => k_extra "ar"); ((with_reducible refine' Wd.retN ?Wz227 ?_); (case Wz227 => k_extra "wd"); intro _ _; refine ⟨rfl, ?_⟩))
  k_with "cl" => ((with_reducible refine' sExprN ?hkz228 ?_ ?hsz228); (case hkz228 => exact rfl); (case hsz228 => exact rfl))
  k_with "cl" => (with_reducible refine not_of ?_)
  trivial
noncomputable def fval (n : Nat) (b : Bool) (f y : Nat) : Nat := if b then f + 2 ^ n * y else f + y
theorem ring_fold_ok {a : Addr} {e n x : Nat} {tn tw : Tok} (R : Rm A 4) (G : GD mg s.heap) (hf : FnAt mg s.heap (Str.ofString "ring_fold") d_ring_fold.1 f)
    (he : 1 ≤ e) (he8 : e ≤ 8) (hn1 : 1 ≤ n) (hn : n ≤ 64) (hx : x < 2 ^ 100) (ha : IL s.heap a (lm e x)) (h : RetL s (lm e (x % (2 ^ n + 1))) Q) :
    wpAny (model prog w) A (call (.ref f) [.ref a, .int (n : Nat) tn, .int (e : Nat) tw]) Q E s := by
  refine enterU [Str.ofString "a", Str.ofString "n", Str.ofString "w"] R G hf (by intro _ _ _; rfl) (by decide +kernel) (by decide +kernel) ?_
  intro L cd s' W
  dsimp only [List.foldl, List.zip, List.zipWith] at W
  have R' := R.deeper (envOf (Str.ofString "ring_fold") d_ring_fold.1.2.2 L f cd)
  obtain ⟨g1, hg1⟩ := G.fns (Str.ofString "need_ring") (by decide +kernel) _ d_need_ring.2
  obtain ⟨g2, hg2⟩ := G.fns (Str.ofString "low") (by decide +kernel) _ d_low.2
  obtain ⟨g3, hg3⟩ := G.fns (Str.ofString "ring_sub") (by decide +kernel) _ d_ring_sub.2
  obtain ⟨g4, hg4⟩ := G.fns (Str.ofString "ring_add") (by decide +kernel) _ d_ring_add.2
  obtain ⟨g5, hg5⟩ := G.fns (Str.ofString "shift_right") (by decide +kernel) _ d_shift_right.2
  refine sExprN rfl ?_ rfl
  repeat k_extra "st"
  refine sWhile (fun k s' => ∃ m own aa fa f y b, Wd s L s' m own ∧ m (Str.ofString "a") = some (.ref aa) ∧ m (Str.ofString "found") = some (.ref fa) ∧ m (Str.ofString "is_minus") = some (.bool b) ∧
      m (Str.ofString "n") = some (.int (n : Nat) tn) ∧ m (Str.ofString "w") = some (.int (e : Nat) tw) ∧ Held s own aa (lm e y) ∧ (fa, Ow.li (lm e f)) ∈ own ∧ f ≤ 2 ^ n ∧ fval n b f y % (2 ^ n + 1) = x % (2 ^ n + 1) ∧ y ≤ x ∧ k = y) ?_ x
    ⟨_, _, _, _, 0, x, false, by k_extra "wd", by k_extra "lk", by k_extra "lk", by k_extra "lk", by k_extra "lk", by k_extra "lk", .inl ha, by rw [lm_zero]; k_extra "mem", Nat.zero_le _, by unfold fval; simp, Nat.le_refl _, rfl⟩
  rintro k s ⟨m, own, aa, fa, f, y, b, W, m1, m2, m3, m4, m5, hA, hF, hf, hv, hyx, rfl⟩
  have hM : 2 ^ n ≤ 2 ^ 64 := pow_le hn
  have hby := nl_bound he (x := k) (by omega)
  repeat k_extra "st"
  refine iteD (fun h1 => ?_) (fun h1 => ?_)
  · have hk0 : k ≠ 0 := by rintro rfl; rw [nl_zero] at h1; exact absurd h1 (by decide)
    have hp : k % 2 ^ n ≤ 2 ^ n := Nat.le_of_lt (Nat.mod_lt _ (pow_pos' n))
    have hlt : k / 2 ^ n < k := Nat.div_lt_self (by omega) (Nat.one_lt_two_pow (by omega))
    refine sSet (by decide +kernel) ?_
    repeat k_extra "st"
    refine IfExp_ ?_
    repeat k_extra "st"
    cases b with
    | true =>
      have hq := fold_minus (n := n) (x := x) (y := k) (f := f) hv
      have hf' := Nat.mod_lt (f + (2 ^ n + 1 - k % 2 ^ n)) (show 0 < 2 ^ n + 1 by omega)
      repeat k_extra "st"
      exact ⟨rfl, _, hlt, _, _, _, _, _, _, _, by k_extra "wd", by k_extra "lk", by k_extra "lk", by k_extra "lk", by k_extra "lk", by k_extra "lk", by k_extra "hd", by k_extra "mem", by omega, by exact hq, by omega, rfl⟩
    | false =>
      have hq := fold_plus (n := n) (x := x) (y := k) (f := f) hv
      have hf' := Nat.mod_lt (f + k % 2 ^ n) (show 0 < 2 ^ n + 1 by omega)
      repeat k_extra "st"
      exact ⟨rfl, _, hlt, _, _, _, _, _, _, _, by k_extra "wd", by k_extra "lk", by k_extra "lk", by k_extra "lk", by k_extra "lk", by k_extra "lk", by k_extra "hd", by k_extra "mem", by omega, by exact hq, by omega, rfl⟩
  · have hk0 : k = 0 := by
      rcases Nat.eq_zero_or_pos k with q | q
      · exact q
      · have := nl_pos (e := e) (x := k) (by omega); omega
    subst hk0
    have hx' : f = x % (2 ^ n + 1) := by
      rw [← hv]
      unfold fval
      cases b <;> simp <;> exact (Nat.mod_eq_of_lt (by omega)).symm
    rw [← hx'] at h
    repeat k_extra "st"
    exact h.back (by k_extra "wd") (by k_extra "mem")
end
end
-- Fshift
theorem words10 : True := by
  k_with_none
  k_with "lk" => (first | with_reducible exact upd_eq | with_reducible assumption | ((with_reducible refine upd_ne ?_ (by decide +kernel)); k_extra "lk"))
  k_with "wd" => (with_reducible assumption)
  k_with "dk" => (decide +kernel)
  k_with "mem" => (first | with_reducible assumption | with_reducible exact List.mem_cons_self | ((with_reducible refine List.mem_cons_of_mem _ ?_); k_extra "mem"))
  k_with "il" => (first | with_reducible assumption | ((with_reducible refine' Wd.il ?Wz229 ?hz229); (case Wz229 => k_extra "wd"); (case hz229 => with_reducible assumption)) | ((with_reducible refine' Wd.mem ?Wz230 ?hz230); (case Wz230 => k_extra "wd"); (case hz230 => k_extra "mem")) | ((with_reducible refine' Wd.held ?Wz231 ?hz231); (case Wz231 => k_extra "wd"); (case hz231 => k_extra "hd")) | ((with_reducible refine' il_one ?hez232 ?hz232); (case hez232 => k_extra "ar"); (case hz232 => k_extra "il1")))
  k_with "il1" => ((with_reducible refine' Wd.mem ?Wz233 ?hz233); (case Wz233 => k_extra "wd"); (case hz233 => k_extra "mem"))
  k_with "hd" => (first | with_reducible assumption | with_reducible exact Held.head | ((with_reducible refine Held.cons ?_); k_extra "hd"))
  k_with "bb" => (first | exact bb_len | exact bb_abs)
  k_with "bt" => (first | exact bb_range | exact bb_enumerate | exact bb_int)
  k_with "nx" => (intro _ _; intro _)
  k_with "ar" => (first | with_reducible assumption | with_reducible exact Int.natCast_nonneg _ | omega | decide | (simp only [dg_len, lm_len, List.length_take, List.length_append, List.length_cons, List.length_nil, List.length_replicate] at *; omega))
  k_with "up" => (first | with_reducible exact Up.head | with_reducible exact Up.tail Up.head | with_reducible exact Up.tail (Up.tail Up.head) | with_reducible exact Up.tail (Up.tail (Up.tail Up.head)) | with_reducible exact Up.tail (Up.tail (Up.tail (Up.tail Up.head))))
  k_with "bits" => (first | (have hB := bits_one; omega) | omega)
  k_with "ev" => (first
  | ((with_reducible refine' eName ?Wz234 ?hvz234 ?hcz234 ?_); (case Wz234 => k_extra "wd"); (case hvz234 => k_extra "lk"); (case hcz234 => k_extra "dk"))
  | ((with_reducible refine' eInt ?Wz235 ?_); (case Wz235 => k_extra "wd"); intro _ _ _)
  | with_reducible refine Constant_bool ?_
  | with_reducible refine' wpAny_BinOp ?_
  | ((with_reducible refine' wpAny_Compare1 ?_ ?hmz237); (case hmz237 => exact rfl))
  | with_reducible refine' UnaryOp_ ?_
  | ((with_reducible refine' eSliceTo ?_ ?htz239); (case htz239 => (intro _ _; exact rfl)))
  | ((with_reducible refine' eSliceAll ?_ ?htz240); (case htz240 => (intro _ _; exact rfl)))
  | with_reducible refine' Subscript_ ?_
  | ((with_reducible refine' eCallB ?Gz242 ?Wz242 ?hfz242 ?hvz242 ?hnz242 ?hcz242 ?_ ?hez242 ?hstz242 ?hpz242); (case Wz242 => k_extra "wd"); (case Gz242 => k_extra "wd"); (case hfz242 => k_extra "dk"); (case hvz242 => k_extra "bb"); (case hnz242 => k_extra "dk"); (case hcz242 => k_extra "dk"); (case hez242 => exact rfl); (case hstz242 => exact rfl); (case hpz242 => exact rfl))
  | ((with_reducible refine' eCallT ?Gz243 ?Wz243 ?hfz243 ?hvz243 ?hnz243 ?hcz243 ?_ ?hez243 ?hstz243 ?hpz243); (case Wz243 => k_extra "wd"); (case Gz243 => k_extra "wd"); (case hfz243 => k_extra "dk"); (case hvz243 => k_extra "bt"); (case hnz243 => k_extra "dk"); (case hcz243 => k_extra "dk"); (case hez243 => exact rfl); (case hstz243 => exact rfl); (case hpz243 => exact rfl)))
  k_with "op" => (first
  | ((with_reducible refine' oAdd ?Wz244 ?_); (case Wz244 => k_extra "wd"); intro _ _ _)
  | ((with_reducible refine' oSub ?Wz245 ?_); (case Wz245 => k_extra "wd"); intro _ _ _)
  | ((with_reducible refine' oAnd ?Wz246 ?_); (case Wz246 => k_extra "wd"); intro _ _ _)
  | ((with_reducible refine' oOr ?Wz247 ?_); (case Wz247 => k_extra "wd"); intro _ _ _)
  | ((with_reducible refine' iAdd ?Wz248 ?_); (case Wz248 => k_extra "wd"); intro _ _ _)
  | ((with_reducible refine' iSub ?Wz249 ?_); (case Wz249 => k_extra "wd"); intro _ _ _)
  | ((with_reducible refine' iOr ?Wz250 ?_); (case Wz250 => k_extra "wd"); intro _ _ _)
  | ((with_reducible refine' oNeg ?Wz251 ?_); (case Wz251 => k_extra "wd"); intro _ _ _)
  | ((with_reducible refine' oShr ?Wz252 ?h0z252 ?_); (case Wz252 => k_extra "wd"); (case h0z252 => k_extra "ar"); intro _ _ _)
  | ((with_reducible refine' iShr ?Wz253 ?h0z253 ?_); (case Wz253 => k_extra "wd"); (case h0z253 => k_extra "ar"); intro _ _ _)
  | ((with_reducible refine' oMod ?Wz254 ?h0z254 ?_); (case Wz254 => k_extra "wd"); (case h0z254 => k_extra "ar"); intro _ _ _)
  | with_reducible refine' cLt ?_ | with_reducible refine' cGt ?_ | with_reducible refine' cGe ?_ | with_reducible refine' cLe ?_ | with_reducible refine' cEq ?_ | with_reducible refine' cNe ?_
  | with_reducible refine wpAny_truthy_bool ?_
  | ((with_reducible refine' callLen ?Wz261 ?hlz261 ?hzz261 ?_); (case Wz261 => k_extra "wd"); (case hlz261 => k_extra "il"); (case hzz261 => k_extra "ar"); intro _ _ _)
  | ((with_reducible refine' xItem ?hlz262 ?h0z262 ?h1z262 ?hzz262 ?hsz262 ?_); (case hlz262 => k_extra "il"); (case h0z262 => k_extra "ar"); (case h1z262 => k_extra "ar"); (case hzz262 => k_extra "ar"); (case hsz262 => with_unfolding_all rfl); intro _))
  k_with "cf" => (first
  | ((with_reducible refine' eCallF ?Gz263 ?Wz263 ?hgz263 ?hcz263 ?_ ?hez263 ?hstz263); (case Wz263 => k_extra "wd"); (case Gz263 => k_extra "wd"); (case hgz263 => k_extra "wd"); (case hcz263 => k_extra "dk"); (case hez263 => exact rfl); (case hstz263 => exact rfl))
  | ((with_reducible refine' ⟨_, _, ?Wz264, ?_⟩); (case Wz264 => k_extra "wd"); intro _ _))
  k_with "sm" => (first
  | ((with_reducible refine' args_cons ?_ ?hez265); (case hez265 => exact rfl))
  | with_reducible refine args_nil ?_
  | ((with_reducible refine' sSet ?hcz266 ?_ ?hsz266); (case hcz266 => k_extra "dk"); (case hsz266 => exact rfl))
  | ((with_reducible refine' sAug ?Wz267 ?hvz267 ?hcz267 ?_); (case Wz267 => k_extra "wd"); (case hvz267 => k_extra "lk"); (case hcz267 => k_extra "dk"))
  | with_reducible refine sIf ?_
  | with_reducible refine iteT ?_ | with_reducible refine iteF ?_
  | with_reducible refine sRet ?_
  | with_reducible refine sSkip ?_
  | ((with_reducible refine' wpAny_isTrue_Compare1 ?_ ?hmz268); (case hmz268 => exact rfl))
  | with_reducible refine isTrue_and_nil ?_ | with_reducible refine isTrue_or_nil ?_
  | with_reducible refine isTrue_and ?_ | with_reducible refine isTrue_or ?_ | with_reducible refine isTrue_not ?_ | with_reducible refine isTrue_IfExp ?_
  | ((with_reducible refine' isTrue_plain ?_ ?hez269); (case hez269 => exact rfl))
  | ((with_reducible refine ⟨_, _, _, (by k_extra "wd"), ?_⟩); intro _ _)
  | ((with_reducible refine' ⟨_, _, _, _, _, _, _, _, rfl, rfl, ?Wz270, ?hlz270, ?h0z270, ?hzz270, ?_⟩); (case Wz270 => k_extra "wd"); (case hlz270 => k_extra "il"); (case h0z270 => k_extra "ar"); (case hzz270 => k_extra "ar"); intro _ _ _)
  | ((with_reducible refine' ⟨_, _, _, _, _, _, rfl, ?Wz271, ?Uz271, ?hzz271, ?_⟩); (case Wz271 => k_extra "wd"); (case Uz271 => k_extra "up"); (case hzz271 => k_extra "ar"); intro _ _)
  | ((with_reducible refine' ⟨_, _, _, _, _, _, rfl, ?Wz272, ?hlz272, ?hzz272, ?_⟩); (case Wz272 => k_extra "wd"); (case hlz272 => k_extra "il"); (case hzz272 => k_extra "ar"); intro _ _ _))
  k_with "tp" => (first
  | ((with_reducible refine' sTup2 ?_ ?_ ?hhz273 ?hc1z273 ?hc2z273 ?_ ?hsz273 ?hwz273 ?h1z273 ?h2z273); (case hwz273 => exact rfl); (case hhz273 => exact Rm.hd (by assumption)); (case hc1z273 => k_extra "dk"); (case hc2z273 => k_extra "dk"); (case hsz273 => exact rfl); (case h1z273 => exact rfl); (case h2z273 => exact rfl))
  | ((with_reducible refine' sTup3 ?_ ?_ ?_ ?hhz274 ?hc1z274 ?hc2z274 ?hc3z274 ?_ ?hsz274 ?hwz274 ?h1z274 ?h2z274 ?h3z274); (case hwz274 => exact rfl); (case hhz274 => exact Rm.hd (by assumption)); (case hc1z274 => k_extra "dk"); (case hc2z274 => k_extra "dk"); (case hc3z274 => k_extra "dk"); (case hsz274 => exact rfl); (case h1z274 => exact rfl); (case h2z274 => exact rfl); (case h3z274 => exact rfl))
  | ((with_reducible refine' eNil ?Wz275 ?_); (case Wz275 => k_extra "wd"); intro _ _ _)
  | ((with_reducible refine' oShl ?Wz276 ?h0z276 ?hsz276 ?_); (case Wz276 => k_extra "wd"); (case h0z276 => k_extra "ar"); (case hsz276 => k_extra "bits"); intro _ _ _)
  | ((with_reducible refine' sAppend ?Wz277 ?hxz277 ?hcz277 ?hDz277 ?_ ?hez277 ?hsz277 ?hstz277); (case Wz277 => k_extra "wd"); (case hxz277 => k_extra "lk"); (case hDz277 => k_extra "mem"); (case hcz277 => k_extra "dk"); (case hez277 => exact rfl); (case hsz277 => exact rfl); (case hstz277 => exact rfl)))
  k_with "nn" => (first
  | ((with_reducible refine' enumIter ?Wz278 ?hlz278 ?_); (case Wz278 => k_extra "wd"); (case hlz278 => k_extra "il"); intro _ _ _ _)
  | ((with_reducible refine' sSetAt ?_ ?hsz279); (case hsz279 => exact rfl))
  | ((with_reducible refine' ⟨_, _, _, _, _, _, _, _, _, _, _, rfl, rfl, rfl, ?Wz280, ?Uz280, ?hkz280, ?hzz280, ?_⟩); (case Wz280 => k_extra "wd"); (case Uz280 => k_extra "up"); (case hkz280 => k_extra "ar"); (case hzz280 => k_extra "ar"); intro _ _)
  | ((with_reducible refine' nMul ?Wz281 ?haz281 ?hbz281 ?hkz281 ?_); (case Wz281 => k_extra "wd"); (case haz281 => with_reducible assumption); (case hbz281 => with_reducible assumption); (case hkz281 => k_extra "ar"); intro _ _ _)
  | ((with_reducible refine' nItemG ?hlz282 ?hvz282 ?h1z282 ?hzz282 ?hsz282 ?_); (case hlz282 => k_extra "il"); (case hvz282 => with_reducible assumption); (case h1z282 => k_extra "ar"); (case hzz282 => k_extra "ar"); (case hsz282 => with_unfolding_all rfl); intro _)
  | ((with_reducible refine' nSub ?Wz283 ?hbz283 ?_); (case Wz283 => k_extra "wd"); (case hbz283 => k_extra "ar"); intro _ _ _)
  | ((with_reducible refine' nRep ?Wz284 ?hlz284 ?hzz284 ?_); (case Wz284 => k_extra "wd"); (case hlz284 => k_extra "il"); (case hzz284 => k_extra "ar"); intro _ _ _)
  | ((with_reducible refine' nShl ?Wz285 ?haz285 ?hkz285 ?hez285 ?_); (case Wz285 => k_extra "wd"); (case haz285 => with_reducible assumption); (case hkz285 => k_extra "ar"); (case hez285 => k_extra "ar"); intro _ _ _)
  | ((with_reducible refine' eOne ?_ ?hez286); (case hez286 => exact rfl))
  | ((with_reducible refine' ⟨_, _, _, _, _, _, rfl, ?Wz287, ?_⟩); (case Wz287 => k_extra "wd"); intro _ _ _)
  | ((with_reducible refine' iterList ?Wz288 ?hlz288 ?_); (case Wz288 => k_extra "wd"); (case hlz288 => k_extra "il"); intro _ _ _)
  | ((with_reducible refine' eBitLen ?_ ?hez289); (case hez289 => exact rfl))
  | ((with_reducible refine' nTop ?hlz290 ?hez290 ?h1z290 ?hzz290 ?hsz290 ?_); (case hlz290 => k_extra "il"); (case hez290 => k_extra "ar"); (case h1z290 => k_extra "ar"); (case hzz290 => k_extra "ar"); (case hsz290 => with_unfolding_all rfl); intro _)
  | ((with_reducible refine' oCat ?Wz291 ?haz291 ?hbz291 ?hzz291 ?_); (case Wz291 => k_extra "wd"); (case haz291 => k_extra "il"); (case hbz291 => k_extra "il"); (case hzz291 => k_extra "ar"); intro _ _ _)
  | ((with_reducible refine' oSub1 ?Wz292 ?_); (case Wz292 => k_extra "wd"); intro _ _ _)
  | ((with_reducible refine' oNeg1 ?Wz293 ?_); (case Wz293 => k_extra "wd"); intro _ _ _)
  | ((with_reducible refine' rangeIterDown ?Wz294 ?hnz294 ?_); (case Wz294 => k_extra "wd"); (case hnz294 => k_extra "ar"); intro _ _ _)
  | ((with_reducible refine' sFor ?_ ?hsz295); (case hsz295 => (intro _; exact rfl)))
  | ((with_reducible refine' rangeIter1 ?Wz296 ?hbz296 ?_); (case Wz296 => k_extra "wd"); (case hbz296 => k_extra "ar"); intro _ _ _)
  | ((with_reducible refine' rangeIter2 ?Wz297 ?haz297 ?hbz297 ?_); (case Wz297 => k_extra "wd"); (case haz297 => k_extra "ar"); (case hbz297 => k_extra "ar"); intro _ _ _)
  | ((with_reducible refine' nAdd ?Wz298 ?_); (case Wz298 => k_extra "wd"); intro _ _ _)
  | ((with_reducible refine' nAdd1 ?Wz299 ?_); (case Wz299 => k_extra "wd"); intro _ _ _)
  | ((with_reducible refine' niAdd ?Wz300 ?_); (case Wz300 => k_extra "wd"); intro _ _ _)
  | ((with_reducible refine' nShl1 ?Wz301 ?hez301 ?_); (case Wz301 => k_extra "wd"); (case hez301 => k_extra "ar"); intro _ _ _)
  | ((with_reducible refine' nShr ?Wz302 ?_); (case Wz302 => k_extra "wd"); intro _ _ _)
  | ((with_reducible refine' niShr ?Wz303 ?_); (case Wz303 => k_extra "wd"); intro _ _ _)
  | ((with_reducible refine' nAnd ?Wz304 ?_); (case Wz304 => k_extra "wd"); intro _ _ _)
  | ((with_reducible refine' nOr ?Wz305 ?haz305 ?_); (case Wz305 => k_extra "wd"); (case haz305 => k_extra "ar"); intro _ _ _)
  | ((with_reducible refine' niOr ?Wz306 ?haz306 ?_); (case Wz306 => k_extra "wd"); (case haz306 => k_extra "ar"); intro _ _ _)
  | ((with_reducible refine' nFloor ?Wz307 ?hbz307 ?hcz307 ?_); (case Wz307 => k_extra "wd"); (case hbz307 => k_extra "ar"); (case hcz307 => k_extra "ar"); intro _ _ _)
  | ((with_reducible refine' nMod ?Wz308 ?hbz308 ?_); (case Wz308 => k_extra "wd"); (case hbz308 => k_extra "ar"); intro _ _ _)
  | ((with_reducible refine' nItem ?hlz309 ?hez309 ?h1z309 ?hzz309 ?hsz309 ?_); (case hlz309 => k_extra "il"); (case hez309 => k_extra "ar"); (case h1z309 => k_extra "ar"); (case hzz309 => k_extra "ar"); (case hsz309 => with_unfolding_all rfl); intro _)
  | ((with_reducible refine' nLen ?Wz310 ?hlz310 ?hzz310 ?_); (case Wz310 => k_extra "wd"); (case hlz310 => k_extra "il"); (case hzz310 => k_extra "ar"); intro _ _ _))
  k_with "st" => (first | k_extra "ev" | k_extra "nn" | k_extra "op" | k_extra "sm" | k_extra "tp" | k_extra "cf" | k_extra "cl")
  k_with "rl" => (first | ((with_reducible refine' Wd.retL ?Wz311 ?_); (case Wz311 => k_extra "wd"); intro _ _ _) | ((with_reducible refine' Wd.retI ?Wz312 ?_); (case Wz312 => k_extra "wd"); intro _ _ _))
  k_with "rm" => (exact Rm.le (by with_reducible assumption) (by decide))
  k_with "cl" => ((with_reducible refine' normal_ok ?Rz313 ?Gz313 ?hfz313 ?haz313 ?hzz313 ?_); (case Rz313 => k_extra "rm"); (case Gz313 => k_extra "wd"); (case hfz313 => k_extra "wd"); (case haz313 => k_extra "il"); (case hzz313 => k_extra "ar"); k_extra "rl")
  k_with "cl" => ((with_reducible refine' compare_ok ?Rz314 ?Gz314 ?hfz314 ?hez314 ?hxz314 ?hyz314 ?haz314 ?hbz314 ?_); (case Rz314 => k_extra "rm"); (case Gz314 => k_extra "wd"); (case hfz314 => k_extra "wd"); (case haz314 => k_extra "il"); (case hbz314 => k_extra "il"); (case hez314 => k_extra "ar"); (case hxz314 => k_extra "ar"); (case hyz314 => k_extra "ar"); k_extra "rl")
  k_with "cl" => ((with_reducible refine' nat_of_ok ?Rz315 ?Gz315 ?hfz315 ?hez315 ?he8z315 ?hxz315 ?_); (case Rz315 => k_extra "rm"); (case Gz315 => k_extra "wd"); (case hfz315 => k_extra "wd"); (case hez315 => k_extra "ar"); (case he8z315 => k_extra "ar"); (case hxz315 => k_extra "ar"); k_extra "rl")
  k_with "cl" => ((with_reducible refine' add_ok ?Rz316 ?Gz316 ?hfz316 ?hez316 ?he8z316 ?hxz316 ?hyz316 ?haz316 ?hbz316 ?_); (case Rz316 => k_extra "rm"); (case Gz316 => k_extra "wd"); (case hfz316 => k_extra "wd"); (case haz316 => k_extra "il"); (case hbz316 => k_extra "il"); (case hez316 => k_extra "ar"); (case he8z316 => k_extra "ar"); (case hxz316 => k_extra "ar"); (case hyz316 => k_extra "ar"); k_extra "rl")
  k_with "cl" => ((with_reducible refine' sub_ok ?Rz317 ?Gz317 ?hfz317 ?hez317 ?he8z317 ?hxz317 ?hyz317 ?haz317 ?hbz317 ?_); (case Rz317 => k_extra "rm"); (case Gz317 => k_extra "wd"); (case hfz317 => k_extra "wd"); (case haz317 => k_extra "il"); (case hbz317 => k_extra "il"); (case hez317 => k_extra "ar"); (case he8z317 => k_extra "ar"); (case hxz317 => k_extra "ar"); (case hyz317 => k_extra "ar"); k_extra "rl")
  k_with "cl" => ((with_reducible refine' shift_left_ok ?Rz318 ?Gz318 ?hfz318 ?hez318 ?he8z318 ?hxz318 ?hnz318 ?haz318 ?_); (case Rz318 => k_extra "rm"); (case Gz318 => k_extra "wd"); (case hfz318 => k_extra "wd"); (case haz318 => k_extra "il"); (case hez318 => k_extra "ar"); (case he8z318 => k_extra "ar"); (case hxz318 => k_extra "ar"); (case hnz318 => k_extra "ar"); k_extra "rl")
  k_with "cl" => ((with_reducible refine' shift_right_ok ?Rz319 ?Gz319 ?hfz319 ?hez319 ?he8z319 ?hxz319 ?hnz319 ?haz319 ?_); (case Rz319 => k_extra "rm"); (case Gz319 => k_extra "wd"); (case hfz319 => k_extra "wd"); (case haz319 => k_extra "il"); (case hez319 => k_extra "ar"); (case he8z319 => k_extra "ar"); (case hxz319 => k_extra "ar"); (case hnz319 => k_extra "ar"); k_extra "rl")
  k_with "cl" => ((with_reducible refine' bits_ok ?Rz320 ?Gz320 ?hfz320 ?hez320 ?he8z320 ?hxz320 ?haz320 ?_); (case Rz320 => k_extra "rm"); (case Gz320 => k_extra "wd"); (case hfz320 => k_extra "wd"); (case haz320 => k_extra "il"); (case hez320 => k_extra "ar"); (case he8z320 => k_extra "ar"); (case hxz320 => k_extra "ar"); k_extra "rl")
  k_with "cl" => ((with_reducible refine' low_ok ?Rz321 ?Gz321 ?hfz321 ?hez321 ?he8z321 ?hxz321 ?hnz321 ?haz321 ?_); (case Rz321 => k_extra "rm"); (case Gz321 => k_extra "wd"); (case hfz321 => k_extra "wd"); (case haz321 => k_extra "il"); (case hez321 => k_extra "ar"); (case he8z321 => k_extra "ar"); (case hxz321 => k_extra "ar"); (case hnz321 => k_extra "ar"); k_extra "rl")
  k_with "cl" => ((with_reducible refine' ring_one_ok ?Rz322 ?Gz322 ?hfz322 ?hez322 ?he8z322 ?hnz322 ?_); (case Rz322 => k_extra "rm"); (case Gz322 => k_extra "wd"); (case hfz322 => k_extra "wd"); (case hez322 => k_extra "ar"); (case he8z322 => k_extra "ar"); (case hnz322 => k_extra "ar"); k_extra "rl")
  k_with "cl" => ((with_reducible refine' ring_add_ok ?Rz323 ?Gz323 ?hfz323 ?hez323 ?he8z323 ?hnz323 ?hxz323 ?hyz323 ?haz323 ?hbz323 ?_); (case Rz323 => k_extra "rm"); (case Gz323 => k_extra "wd"); (case hfz323 => k_extra "wd"); (case haz323 => k_extra "il"); (case hbz323 => k_extra "il"); (case hez323 => k_extra "ar"); (case he8z323 => k_extra "ar"); (case hnz323 => k_extra "ar"); (case hxz323 => k_extra "ar"); (case hyz323 => k_extra "ar"); k_extra "rl")
  k_with "cl" => ((with_reducible refine' ring_sub_ok ?Rz324 ?Gz324 ?hfz324 ?hez324 ?he8z324 ?hnz324 ?hxz324 ?hyz324 ?haz324 ?hbz324 ?_); (case Rz324 => k_extra "rm"); (case Gz324 => k_extra "wd"); (case hfz324 => k_extra "wd"); (case haz324 => k_extra "il"); (case hbz324 => k_extra "il"); (case hez324 => k_extra "ar"); (case he8z324 => k_extra "ar"); (case hnz324 => k_extra "ar"); (case hxz324 => k_extra "ar"); (case hyz324 => k_extra "ar"); k_extra "rl")
  k_with "cl" => ((with_reducible refine' ring_neg_ok ?Rz325 ?Gz325 ?hfz325 ?hez325 ?he8z325 ?hnz325 ?hxz325 ?haz325 ?_); (case Rz325 => k_extra "rm"); (case Gz325 => k_extra "wd"); (case hfz325 => k_extra "wd"); (case haz325 => k_extra "il"); (case hez325 => k_extra "ar"); (case he8z325 => k_extra "ar"); (case hnz325 => k_extra "ar"); (case hxz325 => k_extra "ar"); k_extra "rl")
  k_with "cl" => ((with_reducible refine' need_ring_ok ?Rz326 ?Gz326 ?hfz326 ?hnz326 ?_); (case Rz326 => k_extra "rm"); (case Gz326 => k_extra "wd"); (case hfz326 => k_extra "wd"); (case hnz326 => k_extra "ar"); ((with_reducible refine' Wd.retN ?Wz327 ?_); (case Wz327 => k_extra "wd"); intro _ _; refine ⟨rfl, ?_⟩))
  k_with "cl" => ((with_reducible refine' sExprN ?hkz328 ?_ ?hsz328); (case hkz328 => exact rfl); (case hsz328 => exact rfl))
  k_with "cl" => (with_reducible refine not_of ?_)
  k_with "cl" => ((with_reducible refine' ring_fold_ok ?Rz329 ?Gz329 ?hfz329 ?hez329 ?he8z329 ?hn1z329 ?hnz329 ?hxz329 ?haz329 ?_); (case Rz329 => k_extra "rm"); (case Gz329 => k_extra "wd"); (case hfz329 => k_extra "wd"); (case haz329 => k_extra "il"); (case hez329 => k_extra "ar"); (case he8z329 => k_extra "ar"); (case hn1z329 => k_extra "ar"); (case hnz329 => k_extra "ar"); (case hxz329 => k_extra "ar"); k_extra "rl")
  trivial
section
noncomputable def d_ring_shift : {d : FD // fdOf pw (Str.ofString "ring_shift") = some d} := ⟨_, rfl⟩
noncomputable def d_ring_mul : {d : FD // fdOf pw (Str.ofString "ring_mul") = some d} := ⟨_, rfl⟩
noncomputable def d_element_of : {d : FD // fdOf pw (Str.ofString "element_of") = some d} := ⟨_, rfl⟩
theorem shift_neg {n z : Nat} : (2 ^ n + 1 - z % (2 ^ n + 1)) % (2 ^ n + 1) = z * 2 ^ n % (2 ^ n + 1) := by
  have hN := pow_pos' n
  generalize 2 ^ n = N at *
  have hr := Nat.mod_lt z (show 0 < N + 1 by omega)
  rw [Nat.mul_mod z N, Nat.mod_eq_of_lt (show N < N + 1 by omega)]
  generalize z % (N + 1) = r at *
  rcases Nat.eq_zero_or_pos r with rfl | h
  · simp
  · obtain ⟨q, rfl⟩ : ∃ q, r = q + 1 := ⟨r - 1, by omega⟩
    have : (q + 1) * N = (N + 1 - (q + 1)) + (N + 1) * q := by
      obtain ⟨p, rfl⟩ : ∃ p, N = q + p := ⟨N - q, by omega⟩
      rw [show q + p + 1 - (q + 1) = p by omega]
      grind
    rw [this, Nat.add_mul_mod_self_left]
section
variable {prog : Program} {w : World} {A : Around} {E : Value → Shared → Prop} {s₀ s : Shared} {L f : Addr} {m mg : Str → Option Value} {own : List (Addr × Ow)} {nm : Str} {sc : Scope} {cd : Value}
  {p : Program} {names free : List Str} {env : Env} {Q : Value → Shared → Prop} {t u : Tok}
theorem nMul2 {a : Nat} (W : Wd s₀ L s m own) (ha : a ≤ 1000000) (h : ∀ s' t, Wd s₀ L s' m own → Q (.int ((2 * a : Nat) : Int) t) s') : wpAny (model prog w) A (binaryOp .Mult (.int 2 t) (.int (a : Nat) u)) Q E s :=
  oMul W (mul_small (by decide) (by omega)) fun s' t W => h s' t W
theorem nModI {a : Int} {b : Nat} (W : Wd s₀ L s m own) (hb : 0 < b) (h : ∀ s' t, Wd s₀ L s' m own → Q (.int (((a % (b : Nat)).toNat : Nat) : Int) t) s') : wpAny (model prog w) A (binaryOp .Mod (.int a t) (.int (b : Nat) u)) Q E s :=
  oMod W (by omega) fun s' t W => by
    rw [Int.fmod_eq_emod_of_nonneg _ (by omega)]
    have := h s' t W
    rw [Int.toNat_of_nonneg (Int.emod_nonneg _ (by omega))] at this
    exact this
theorem ring_shift_small {a : Addr} {e n x k : Nat} {tk tn tw : Tok} (R : Rm A 5) (G : GD mg s.heap) (hf : FnAt mg s.heap (Str.ofString "ring_shift") d_ring_shift.1 f)
    (he : 1 ≤ e) (he8 : e ≤ 8) (hn1 : 1 ≤ n) (hn : n ≤ 40) (hx : x ≤ 2 ^ n) (hk : k < n) (ha : IL s.heap a (lm e x)) (h : RetL s (lm e (x * 2 ^ k % (2 ^ n + 1))) Q) :
    wpAny (model prog w) A (call (.ref f) [.ref a, .int (k : Nat) tk, .int (n : Nat) tn, .int (e : Nat) tw]) Q E s := by
  refine enterU [Str.ofString "a", Str.ofString "k", Str.ofString "n", Str.ofString "w"] R G hf (by intro _ _ _; rfl) (by decide +kernel) (by decide +kernel) ?_
  intro L cd s' W
  dsimp only [List.foldl, List.zip, List.zipWith] at W
  have R' := R.deeper (envOf (Str.ofString "ring_shift") d_ring_shift.1.2.2 L f cd)
  obtain ⟨g1, hg1⟩ := G.fns (Str.ofString "need_ring") (by decide +kernel) _ d_need_ring.2
  obtain ⟨g2, hg2⟩ := G.fns (Str.ofString "shift_left") (by decide +kernel) _ d_shift_left.2
  obtain ⟨g3, hg3⟩ := G.fns (Str.ofString "ring_fold") (by decide +kernel) _ d_ring_fold.2
  have hM : 2 ^ n ≤ 2 ^ 40 := pow_le hn
  have hxk : x * 2 ^ k ≤ 2 ^ 40 * 2 ^ 40 := Nat.mul_le_mul (by omega) (pow_le (by omega))
  have hxk' : x * 2 ^ k < 2 ^ 100 := by omega
  refine sExprN rfl ?_ rfl
  repeat k_extra "st"
  refine nMul2 (by k_extra "wd") (by omega) fun s t W => ?_
  refine nMod (by k_extra "wd") (by omega) fun s t W => ?_
  rw [Nat.mod_eq_of_lt (show k < 2 * n by omega)]
  repeat k_extra "st"
  refine iteD (fun h1 => absurd h1 (by omega)) (fun h1 => ?_)
  repeat k_extra "st"
  exact h.back (by k_extra "wd") (by k_extra "mem")
theorem ring_shift_ok {a : Addr} {e n x : Nat} {k : Int} {tk tn tw : Tok} (R : Rm A 6) (G : GD mg s.heap) (hf : FnAt mg s.heap (Str.ofString "ring_shift") d_ring_shift.1 f)
    (he : 1 ≤ e) (he8 : e ≤ 8) (hn1 : 1 ≤ n) (hn : n ≤ 40) (hx : x ≤ 2 ^ n) (ha : IL s.heap a (lm e x)) (h : RetL s (lm e (x * 2 ^ (k % ((2 * n : Nat) : Int)).toNat % (2 ^ n + 1))) Q) :
    wpAny (model prog w) A (call (.ref f) [.ref a, .int k tk, .int (n : Nat) tn, .int (e : Nat) tw]) Q E s := by
  refine enterU [Str.ofString "a", Str.ofString "k", Str.ofString "n", Str.ofString "w"] R G hf (by intro _ _ _; rfl) (by decide +kernel) (by decide +kernel) ?_
  intro L cd s' W
  dsimp only [List.foldl, List.zip, List.zipWith] at W
  have R' := R.deeper (envOf (Str.ofString "ring_shift") d_ring_shift.1.2.2 L f cd)
  obtain ⟨g1, hg1⟩ := G.fns (Str.ofString "need_ring") (by decide +kernel) _ d_need_ring.2
  obtain ⟨g2, hg2⟩ := G.fns (Str.ofString "shift_left") (by decide +kernel) _ d_shift_left.2
  obtain ⟨g3, hg3⟩ := G.fns (Str.ofString "ring_fold") (by decide +kernel) _ d_ring_fold.2
  obtain ⟨g4, hg4⟩ := G.fns (Str.ofString "ring_neg") (by decide +kernel) _ d_ring_neg.2
  have hM : 2 ^ n ≤ 2 ^ 40 := pow_le hn
  refine sExprN rfl ?_ rfl
  repeat k_extra "st"
  refine nMul2 (by k_extra "wd") (by omega) fun s t W => ?_
  refine nModI (by k_extra "wd") (by omega) fun s t W => ?_
  have hkk : (k % ((2 * n : Nat) : Int)).toNat < 2 * n := by
    have := Int.emod_lt_of_pos k (show (0 : Int) < ((2 * n : Nat) : Int) by omega)
    have := Int.emod_nonneg k (show ((2 * n : Nat) : Int) ≠ 0 by omega)
    omega
  generalize (k % ((2 * n : Nat) : Int)).toNat = kk at *
  repeat k_extra "st"
  refine iteD (fun h1 => ?_) (fun h1 => ?_)
  · have h1' : n ≤ kk := by omega
    have hlt : kk - n < n := by omega
    have hz := Nat.mod_lt (x * 2 ^ (kk - n)) (show 0 < 2 ^ n + 1 by omega)
    have hz' : x * 2 ^ (kk - n) % (2 ^ n + 1) ≤ 2 ^ n := by omega
    repeat k_extra "st"
    refine ring_shift_small (k := kk - n) (by k_extra "rm") (by k_extra "wd") (by k_extra "wd") he he8 hn1 hn hx hlt (by k_extra "il") ?_
    k_extra "rl"
    repeat k_extra "st"
    refine h.back (by k_extra "wd") ?_
    rw [show x * 2 ^ kk = x * 2 ^ (kk - n) * 2 ^ n by rw [Nat.mul_assoc, ← Nat.pow_add]; congr 2; omega, ← shift_neg]
    exact .head _
  · have hk : kk < n := by omega
    have hxk : x * 2 ^ kk ≤ 2 ^ 40 * 2 ^ 40 := Nat.mul_le_mul (by omega) (pow_le (by omega))
    have hxk' : x * 2 ^ kk < 2 ^ 100 := by omega
    repeat k_extra "st"
    exact h.back (by k_extra "wd") (by k_extra "mem")
end
end
-- SjK
theorem words11 : True := by
  k_with_none
  k_with "lk" => (first | with_reducible exact upd_eq | with_reducible assumption | ((with_reducible refine upd_ne ?_ (by decide +kernel)); k_extra "lk"))
  k_with "wd" => (with_reducible assumption)
  k_with "dk" => (decide +kernel)
  k_with "mem" => (first | with_reducible assumption | with_reducible exact List.mem_cons_self | ((with_reducible refine List.mem_cons_of_mem _ ?_); k_extra "mem"))
  k_with "il" => (first | with_reducible assumption | ((with_reducible refine' Wd.il ?Wz330 ?hz330); (case Wz330 => k_extra "wd"); (case hz330 => with_reducible assumption)) | ((with_reducible refine' Wd.mem ?Wz331 ?hz331); (case Wz331 => k_extra "wd"); (case hz331 => k_extra "mem")) | ((with_reducible refine' Wd.held ?Wz332 ?hz332); (case Wz332 => k_extra "wd"); (case hz332 => k_extra "hd")) | ((with_reducible refine' il_one ?hez333 ?hz333); (case hez333 => k_extra "ar"); (case hz333 => k_extra "il1")))
  k_with "il1" => ((with_reducible refine' Wd.mem ?Wz334 ?hz334); (case Wz334 => k_extra "wd"); (case hz334 => k_extra "mem"))
  k_with "hd" => (first | with_reducible assumption | with_reducible exact Held.head | ((with_reducible refine Held.cons ?_); k_extra "hd"))
  k_with "bb" => (first | exact bb_len | exact bb_abs)
  k_with "bt" => (first | exact bb_range | exact bb_enumerate | exact bb_int)
  k_with "nx" => (intro _ _; intro _)
  k_with "ar" => (first | with_reducible assumption | with_reducible exact Int.natCast_nonneg _ | omega | decide | (simp only [dg_len, lm_len, List.length_take, List.length_append, List.length_cons, List.length_nil, List.length_replicate] at *; omega))
  k_with "up" => (first | with_reducible exact Up.head | with_reducible exact Up.tail Up.head | with_reducible exact Up.tail (Up.tail Up.head) | with_reducible exact Up.tail (Up.tail (Up.tail Up.head)) | with_reducible exact Up.tail (Up.tail (Up.tail (Up.tail Up.head))))
  k_with "bits" => (first | (have hB := bits_one; omega) | omega)
  k_with "ev" => (first
  | ((with_reducible refine' eName ?Wz335 ?hvz335 ?hcz335 ?_); (case Wz335 => k_extra "wd"); (case hvz335 => k_extra "lk"); (case hcz335 => k_extra "dk"))
  | ((with_reducible refine' eInt ?Wz336 ?_); (case Wz336 => k_extra "wd"); intro _ _ _)
  | with_reducible refine Constant_bool ?_
  | with_reducible refine' wpAny_BinOp ?_
  | ((with_reducible refine' wpAny_Compare1 ?_ ?hmz338); (case hmz338 => exact rfl))
  | with_reducible refine' UnaryOp_ ?_
  | ((with_reducible refine' eSliceTo ?_ ?htz340); (case htz340 => (intro _ _; exact rfl)))
  | ((with_reducible refine' eSliceAll ?_ ?htz341); (case htz341 => (intro _ _; exact rfl)))
  | with_reducible refine' Subscript_ ?_
  | ((with_reducible refine' eCallB ?Gz343 ?Wz343 ?hfz343 ?hvz343 ?hnz343 ?hcz343 ?_ ?hez343 ?hstz343 ?hpz343); (case Wz343 => k_extra "wd"); (case Gz343 => k_extra "wd"); (case hfz343 => k_extra "dk"); (case hvz343 => k_extra "bb"); (case hnz343 => k_extra "dk"); (case hcz343 => k_extra "dk"); (case hez343 => exact rfl); (case hstz343 => exact rfl); (case hpz343 => exact rfl))
  | ((with_reducible refine' eCallT ?Gz344 ?Wz344 ?hfz344 ?hvz344 ?hnz344 ?hcz344 ?_ ?hez344 ?hstz344 ?hpz344); (case Wz344 => k_extra "wd"); (case Gz344 => k_extra "wd"); (case hfz344 => k_extra "dk"); (case hvz344 => k_extra "bt"); (case hnz344 => k_extra "dk"); (case hcz344 => k_extra "dk"); (case hez344 => exact rfl); (case hstz344 => exact rfl); (case hpz344 => exact rfl)))
  k_with "op" => (first
  | ((with_reducible refine' oAdd ?Wz345 ?_); (case Wz345 => k_extra "wd"); intro _ _ _)
  | ((with_reducible refine' oSub ?Wz346 ?_); (case Wz346 => k_extra "wd"); intro _ _ _)
  | ((with_reducible refine' oAnd ?Wz347 ?_); (case Wz347 => k_extra "wd"); intro _ _ _)
  | ((with_reducible refine' oOr ?Wz348 ?_); (case Wz348 => k_extra "wd"); intro _ _ _)
  | ((with_reducible refine' iAdd ?Wz349 ?_); (case Wz349 => k_extra "wd"); intro _ _ _)
  | ((with_reducible refine' iSub ?Wz350 ?_); (case Wz350 => k_extra "wd"); intro _ _ _)
  | ((with_reducible refine' iOr ?Wz351 ?_); (case Wz351 => k_extra "wd"); intro _ _ _)
  | ((with_reducible refine' oNeg ?Wz352 ?_); (case Wz352 => k_extra "wd"); intro _ _ _)
  | ((with_reducible refine' oShr ?Wz353 ?h0z353 ?_); (case Wz353 => k_extra "wd"); (case h0z353 => k_extra "ar"); intro _ _ _)
  | ((with_reducible refine' iShr ?Wz354 ?h0z354 ?_); (case Wz354 => k_extra "wd"); (case h0z354 => k_extra "ar"); intro _ _ _)
  | ((with_reducible refine' oMod ?Wz355 ?h0z355 ?_); (case Wz355 => k_extra "wd"); (case h0z355 => k_extra "ar"); intro _ _ _)
  | with_reducible refine' cLt ?_ | with_reducible refine' cGt ?_ | with_reducible refine' cGe ?_ | with_reducible refine' cLe ?_ | with_reducible refine' cEq ?_ | with_reducible refine' cNe ?_
  | with_reducible refine wpAny_truthy_bool ?_
  | ((with_reducible refine' callLen ?Wz362 ?hlz362 ?hzz362 ?_); (case Wz362 => k_extra "wd"); (case hlz362 => k_extra "il"); (case hzz362 => k_extra "ar"); intro _ _ _)
  | ((with_reducible refine' xItem ?hlz363 ?h0z363 ?h1z363 ?hzz363 ?hsz363 ?_); (case hlz363 => k_extra "il"); (case h0z363 => k_extra "ar"); (case h1z363 => k_extra "ar"); (case hzz363 => k_extra "ar"); (case hsz363 => with_unfolding_all rfl); intro _))
  k_with "cf" => (first
  | ((with_reducible refine' eCallF ?Gz364 ?Wz364 ?hgz364 ?hcz364 ?_ ?hez364 ?hstz364); (case Wz364 => k_extra "wd"); (case Gz364 => k_extra "wd"); (case hgz364 => k_extra "wd"); (case hcz364 => k_extra "dk"); (case hez364 => exact rfl); (case hstz364 => exact rfl))
  | ((with_reducible refine' ⟨_, _, ?Wz365, ?_⟩); (case Wz365 => k_extra "wd"); intro _ _))
  k_with "sm" => (first
  | ((with_reducible refine' args_cons ?_ ?hez366); (case hez366 => exact rfl))
  | with_reducible refine args_nil ?_
  | ((with_reducible refine' sSet ?hcz367 ?_ ?hsz367); (case hcz367 => k_extra "dk"); (case hsz367 => exact rfl))
  | ((with_reducible refine' sAug ?Wz368 ?hvz368 ?hcz368 ?_); (case Wz368 => k_extra "wd"); (case hvz368 => k_extra "lk"); (case hcz368 => k_extra "dk"))
  | with_reducible refine sIf ?_
  | with_reducible refine iteT ?_ | with_reducible refine iteF ?_
  | with_reducible refine sRet ?_
  | with_reducible refine sSkip ?_
  | ((with_reducible refine' wpAny_isTrue_Compare1 ?_ ?hmz369); (case hmz369 => exact rfl))
  | with_reducible refine isTrue_and_nil ?_ | with_reducible refine isTrue_or_nil ?_
  | with_reducible refine isTrue_and ?_ | with_reducible refine isTrue_or ?_ | with_reducible refine isTrue_not ?_ | with_reducible refine isTrue_IfExp ?_
  | ((with_reducible refine' isTrue_plain ?_ ?hez370); (case hez370 => exact rfl))
  | ((with_reducible refine ⟨_, _, _, (by k_extra "wd"), ?_⟩); intro _ _)
  | ((with_reducible refine' ⟨_, _, _, _, _, _, _, _, rfl, rfl, ?Wz371, ?hlz371, ?h0z371, ?hzz371, ?_⟩); (case Wz371 => k_extra "wd"); (case hlz371 => k_extra "il"); (case h0z371 => k_extra "ar"); (case hzz371 => k_extra "ar"); intro _ _ _)
  | ((with_reducible refine' ⟨_, _, _, _, _, _, rfl, ?Wz372, ?Uz372, ?hzz372, ?_⟩); (case Wz372 => k_extra "wd"); (case Uz372 => k_extra "up"); (case hzz372 => k_extra "ar"); intro _ _)
  | ((with_reducible refine' ⟨_, _, _, _, _, _, rfl, ?Wz373, ?hlz373, ?hzz373, ?_⟩); (case Wz373 => k_extra "wd"); (case hlz373 => k_extra "il"); (case hzz373 => k_extra "ar"); intro _ _ _))
  k_with "tp" => (first
  | ((with_reducible refine' sTup2 ?_ ?_ ?hhz374 ?hc1z374 ?hc2z374 ?_ ?hsz374 ?hwz374 ?h1z374 ?h2z374); (case hwz374 => exact rfl); (case hhz374 => exact Rm.hd (by assumption)); (case hc1z374 => k_extra "dk"); (case hc2z374 => k_extra "dk"); (case hsz374 => exact rfl); (case h1z374 => exact rfl); (case h2z374 => exact rfl))
  | ((with_reducible refine' sTup3 ?_ ?_ ?_ ?hhz375 ?hc1z375 ?hc2z375 ?hc3z375 ?_ ?hsz375 ?hwz375 ?h1z375 ?h2z375 ?h3z375); (case hwz375 => exact rfl); (case hhz375 => exact Rm.hd (by assumption)); (case hc1z375 => k_extra "dk"); (case hc2z375 => k_extra "dk"); (case hc3z375 => k_extra "dk"); (case hsz375 => exact rfl); (case h1z375 => exact rfl); (case h2z375 => exact rfl); (case h3z375 => exact rfl))
  | ((with_reducible refine' eNil ?Wz376 ?_); (case Wz376 => k_extra "wd"); intro _ _ _)
  | ((with_reducible refine' oShl ?Wz377 ?h0z377 ?hsz377 ?_); (case Wz377 => k_extra "wd"); (case h0z377 => k_extra "ar"); (case hsz377 => k_extra "bits"); intro _ _ _)
  | ((with_reducible refine' sAppend ?Wz378 ?hxz378 ?hcz378 ?hDz378 ?_ ?hez378 ?hsz378 ?hstz378); (case Wz378 => k_extra "wd"); (case hxz378 => k_extra "lk"); (case hDz378 => k_extra "mem"); (case hcz378 => k_extra "dk"); (case hez378 => exact rfl); (case hsz378 => exact rfl); (case hstz378 => exact rfl)))
  k_with "nn" => (first
  | ((with_reducible refine' enumIter ?Wz379 ?hlz379 ?_); (case Wz379 => k_extra "wd"); (case hlz379 => k_extra "il"); intro _ _ _ _)
  | ((with_reducible refine' sSetAt ?_ ?hsz380); (case hsz380 => exact rfl))
  | ((with_reducible refine' ⟨_, _, _, _, _, _, _, _, _, _, _, rfl, rfl, rfl, ?Wz381, ?Uz381, ?hkz381, ?hzz381, ?_⟩); (case Wz381 => k_extra "wd"); (case Uz381 => k_extra "up"); (case hkz381 => k_extra "ar"); (case hzz381 => k_extra "ar"); intro _ _)
  | ((with_reducible refine' nMul ?Wz382 ?haz382 ?hbz382 ?hkz382 ?_); (case Wz382 => k_extra "wd"); (case haz382 => with_reducible assumption); (case hbz382 => with_reducible assumption); (case hkz382 => k_extra "ar"); intro _ _ _)
  | ((with_reducible refine' nItemG ?hlz383 ?hvz383 ?h1z383 ?hzz383 ?hsz383 ?_); (case hlz383 => k_extra "il"); (case hvz383 => with_reducible assumption); (case h1z383 => k_extra "ar"); (case hzz383 => k_extra "ar"); (case hsz383 => with_unfolding_all rfl); intro _)
  | ((with_reducible refine' nSub ?Wz384 ?hbz384 ?_); (case Wz384 => k_extra "wd"); (case hbz384 => k_extra "ar"); intro _ _ _)
  | ((with_reducible refine' nRep ?Wz385 ?hlz385 ?hzz385 ?_); (case Wz385 => k_extra "wd"); (case hlz385 => k_extra "il"); (case hzz385 => k_extra "ar"); intro _ _ _)
  | ((with_reducible refine' nShl ?Wz386 ?haz386 ?hkz386 ?hez386 ?_); (case Wz386 => k_extra "wd"); (case haz386 => with_reducible assumption); (case hkz386 => k_extra "ar"); (case hez386 => k_extra "ar"); intro _ _ _)
  | ((with_reducible refine' eOne ?_ ?hez387); (case hez387 => exact rfl))
  | ((with_reducible refine' ⟨_, _, _, _, _, _, rfl, ?Wz388, ?_⟩); (case Wz388 => k_extra "wd"); intro _ _ _)
  | ((with_reducible refine' iterList ?Wz389 ?hlz389 ?_); (case Wz389 => k_extra "wd"); (case hlz389 => k_extra "il"); intro _ _ _)
  | ((with_reducible refine' eBitLen ?_ ?hez390); (case hez390 => exact rfl))
  | ((with_reducible refine' nTop ?hlz391 ?hez391 ?h1z391 ?hzz391 ?hsz391 ?_); (case hlz391 => k_extra "il"); (case hez391 => k_extra "ar"); (case h1z391 => k_extra "ar"); (case hzz391 => k_extra "ar"); (case hsz391 => with_unfolding_all rfl); intro _)
  | ((with_reducible refine' oCat ?Wz392 ?haz392 ?hbz392 ?hzz392 ?_); (case Wz392 => k_extra "wd"); (case haz392 => k_extra "il"); (case hbz392 => k_extra "il"); (case hzz392 => k_extra "ar"); intro _ _ _)
  | ((with_reducible refine' oSub1 ?Wz393 ?_); (case Wz393 => k_extra "wd"); intro _ _ _)
  | ((with_reducible refine' oNeg1 ?Wz394 ?_); (case Wz394 => k_extra "wd"); intro _ _ _)
  | ((with_reducible refine' rangeIterDown ?Wz395 ?hnz395 ?_); (case Wz395 => k_extra "wd"); (case hnz395 => k_extra "ar"); intro _ _ _)
  | ((with_reducible refine' sFor ?_ ?hsz396); (case hsz396 => (intro _; exact rfl)))
  | ((with_reducible refine' rangeIter1 ?Wz397 ?hbz397 ?_); (case Wz397 => k_extra "wd"); (case hbz397 => k_extra "ar"); intro _ _ _)
  | ((with_reducible refine' rangeIter2 ?Wz398 ?haz398 ?hbz398 ?_); (case Wz398 => k_extra "wd"); (case haz398 => k_extra "ar"); (case hbz398 => k_extra "ar"); intro _ _ _)
  | ((with_reducible refine' nAdd ?Wz399 ?_); (case Wz399 => k_extra "wd"); intro _ _ _)
  | ((with_reducible refine' nAdd1 ?Wz400 ?_); (case Wz400 => k_extra "wd"); intro _ _ _)
  | ((with_reducible refine' niAdd ?Wz401 ?_); (case Wz401 => k_extra "wd"); intro _ _ _)
  | ((with_reducible refine' nShl1 ?Wz402 ?hez402 ?_); (case Wz402 => k_extra "wd"); (case hez402 => k_extra "ar"); intro _ _ _)
  | ((with_reducible refine' nShr ?Wz403 ?_); (case Wz403 => k_extra "wd"); intro _ _ _)
  | ((with_reducible refine' niShr ?Wz404 ?_); (case Wz404 => k_extra "wd"); intro _ _ _)
  | ((with_reducible refine' nAnd ?Wz405 ?_); (case Wz405 => k_extra "wd"); intro _ _ _)
  | ((with_reducible refine' nOr ?Wz406 ?haz406 ?_); (case Wz406 => k_extra "wd"); (case haz406 => k_extra "ar"); intro _ _ _)
  | ((with_reducible refine' niOr ?Wz407 ?haz407 ?_); (case Wz407 => k_extra "wd"); (case haz407 => k_extra "ar"); intro _ _ _)
  | ((with_reducible refine' nFloor ?Wz408 ?hbz408 ?hcz408 ?_); (case Wz408 => k_extra "wd"); (case hbz408 => k_extra "ar"); (case hcz408 => k_extra "ar"); intro _ _ _)
  | ((with_reducible refine' nMod ?Wz409 ?hbz409 ?_); (case Wz409 => k_extra "wd"); (case hbz409 => k_extra "ar"); intro _ _ _)
  | ((with_reducible refine' nItem ?hlz410 ?hez410 ?h1z410 ?hzz410 ?hsz410 ?_); (case hlz410 => k_extra "il"); (case hez410 => k_extra "ar"); (case h1z410 => k_extra "ar"); (case hzz410 => k_extra "ar"); (case hsz410 => with_unfolding_all rfl); intro _)
  | ((with_reducible refine' nLen ?Wz411 ?hlz411 ?hzz411 ?_); (case Wz411 => k_extra "wd"); (case hlz411 => k_extra "il"); (case hzz411 => k_extra "ar"); intro _ _ _))
  k_with "st" => (first | k_extra "ev" | k_extra "nn" | k_extra "op" | k_extra "sm" | k_extra "tp" | k_extra "cf" | k_extra "cl")
  trivial
section
noncomputable def enObj (it : Addr) (i : Int) (old : Value) : Obj := { cls := .type "enumerate", dict := none, data := .fields #[.none, .bool false, .ref it, rawInt i, .none, old], slots := #[] }
noncomputable abbrev enW (it : Addr) (i : Nat) : Ow := .pr fun o => ∃ old, o = enObj it ((i : Nat) : Int) old
theorem Wd.turn2 {s₀ s : Shared} {L a b : Addr} {m : Str → Option Value} {own : List (Addr × Ow)} {x y x' y' : Ow} {h' : Heap} {k : Nat} (W : Wd s₀ L s m ((a, x) :: (b, y) :: own))
    (hk : ∀ c o, c ≠ a → c ≠ b → s.heap.get? c = some o → h'.get? c = some o) (ha : x'.At h' a) (hb : y'.At h' b) : Wd s₀ L { s with heap := h', toks := k } m ((a, x') :: (b, y') :: own) := by
  have A := W.ow _ (.head _)
  have B := W.ow _ (.tail _ (.head _))
  have nd := List.nodup_cons.mp W.nd
  have nd2 := List.nodup_cons.mp nd.2
  refine ⟨⟨W.fr.ns.at fun o e => hk _ o (Ne.symm A.2.1) (Ne.symm B.2.1) e, fun c o e => ?_, W.fr.above⟩, fun p hp => ?_, W.nd, W.rest.set _ _⟩
  · refine hk c o ?_ ?_ (W.keep c o e)
    · rintro rfl; rw [A.2.2] at e; cases e
    · rintro rfl; rw [B.2.2] at e; cases e
  · rcases List.mem_cons.mp hp with rfl | hp
    · exact ⟨ha, A.2⟩
    rcases List.mem_cons.mp hp with rfl | hp
    · exact ⟨hb, B.2⟩
    have P := W.ow p (.tail _ (.tail _ hp))
    refine ⟨P.1.at fun o e => hk _ o ?_ ?_ e, P.2⟩
    · intro q; exact nd.1 (List.mem_cons_of_mem _ (List.mem_map.mpr ⟨p, hp, q⟩))
    · intro q; exact nd2.1 (List.mem_map.mpr ⟨p, hp, q⟩)
noncomputable abbrev Turned2 (s₀ : Shared) (L : Addr) (en : Addr) (P : Ow) (it : Addr) (P' : Ow) (J : (Str → Option Value) → List (Addr × Ow) → Prop) (R : Result → Shared → Prop) (f : Flow) (s' : Shared) : Prop := match f with
  | .next => ∃ m' own', Wd s₀ L s' m' ((en, P) :: (it, P') :: own') ∧ J m' own'
  | .ret v => R (.ok (.ret v)) s'
  | _ => False
section
variable {prog : Program} {w : World} {A : Around} {E : Value → Shared → Prop} {s₀ s : Shared} {L f : Addr} {m mg : Str → Option Value} {own : List (Addr × Ow)} {nm : Str} {sc : Scope} {cd : Value}
  {p : Program} {names free : List Str} {env : Env} {Q : Value → Shared → Prop} {R : Result → Shared → Prop} {t u v : Tok}
theorem enumIter {l : Addr} {xs : List Int} (W : Wd s₀ L s m own) (hl : IL s.heap l xs) (h : ∀ en it s', Wd s₀ L s' m ((en, enW it 0) :: (it, lIter l 0) :: own) → Q (.ref en) s') :
    wpAny (model prog w) A (call (.type "enumerate") [.ref l]) (fun xv s₁ => wpAny (model prog w) A (pyIter xv) Q E s₁) E s := by
  obtain ⟨vs, n, e, hi⟩ := hl
  refine call_enumerate_1 e fun h' he hit hz hk => ?_
  refine wpAny_pyIter_enum he (h _ s.heap.objs.size _ ?_)
  have W₁ := W.add (s' := { s with heap := h' }) hk ((Rest.refl s).set _ _) (w := lIter l 0) (a := s.heap.objs.size) hit (size_none _)
  have hne : s.heap.get? (s.heap.objs.size + 1) = none := by
    cases q : s.heap.get? (s.heap.objs.size + 1) with
    | none => rfl
    | some o => exact absurd (Heap.lt_size q) (Nat.not_lt.mpr (Nat.le_succ _))
  have W₂ := W.add (s' := { s with heap := h' }) hk ((Rest.refl s).set _ _) (w := enW s.heap.objs.size 0) (a := s.heap.objs.size + 1) ⟨_, he, .none, rfl⟩ hne
  refine ⟨W₁.fr, fun p hp => ?_, ?_, W₁.rest⟩
  · rcases List.mem_cons.mp hp with rfl | hp
    · exact W₂.ow _ (.head _)
    · exact W₁.ow _ hp
  · refine List.nodup_cons.mpr ⟨fun q => ?_, W₁.nd⟩
    rcases List.mem_cons.mp q with q | q
    · exact absurd (q : s.heap.objs.size + 1 = s.heap.objs.size) (Nat.succ_ne_self _)
    · exact (List.nodup_cons.mp W₂.nd).1 q
theorem loopEnum {xi xv : Str} {pi pv pt : Pos} {x1 : Nat} {body : List Stmt} {en it l : Addr} {e y : Nat} (hh : A.handled = none) (hci : isLoc sc xi = true) (hcv : isLoc sc xv = true) (J : Nat → (Str → Option Value) → List (Addr × Ow) → Prop)
    (hl : IL s₀.heap l (lm e y)) (he : 0 < e) (W : Wd s₀ L s m ((en, enW it 0) :: (it, lIter l 0) :: own)) (h0 : J 0 m own)
    (turn : ∀ i s m own t t' P P', i < nl e y → J i m own → Wd s₀ L s (upd (upd m xi (.int (i : Nat) t)) xv (.int ((D e y i : Nat) : Int) t')) ((en, P) :: (it, P') :: own) →
      wpAny (model prog w) A (execs body (envOf nm sc L f cd)) (Turned2 s₀ L en P it P' (J (i + 1)) R) NE s)
    (fin : ∀ s m own, J (nl e y) m own → Wd s₀ L s m own → R (.ok .next) s) :
    codeAny (model prog w) A (.forLoop (.Tuple [.Name xi pi, .Name xv pv] x1 pt) (.ref en) body [] (envOf nm sc L f cd)) R s := by
  obtain ⟨c1, c2, c3⟩ := isLoc.out hci
  obtain ⟨d1, d2, d3⟩ := isLoc.out hcv
  have hp : ((envOf nm sc L f cd).scope.kind == .class || ((envOf nm sc L f cd).scope.kind == .module && (envOf nm sc L f cd).locals != (envOf nm sc L f cd).globals)) = false := by
    show (sc.kind == .class || (sc.kind == .module && L != mainGlobals)) = false; rw [c1]; rfl
  obtain ⟨vs, hl₀, hi⟩ := hl.isList
  have hn : vs.length = nl e y := by rw [hi.length, lm_len]
  refine codeAny_forLoop_any (fun k s => ∃ i m own, i ≤ nl e y ∧ k = nl e y + 1 - i ∧ J i m own ∧ Wd s₀ L s m ((en, enW it i) :: (it, lIter l i) :: own)) ?_ (nl e y + 1) ⟨0, m, own, Nat.zero_le _, rfl, h0, W⟩
  rintro k s ⟨i, m, own, hi', rfl, hJ, W⟩
  obtain ⟨oe, heo, old, rfl⟩ := (W.ow _ (.head _)).1
  have hit : s.heap.IsListIter it l i := (W.ow _ (.tail _ (.head _))).1
  have hls : s.heap.IsList l vs.toArray := W.fr.lst hl₀
  have hne : en ≠ it := fun q => (List.nodup_cons.mp W.nd).1 (by subst q; exact List.mem_cons_self)
  by_cases hlt : i < nl e y
  · obtain ⟨t, ht⟩ := ints_get hi i (by rw [lm_len]; exact hlt)
    rw [lm_get he] at ht
    refine wpAny_pyNext_enum_item heo hit hls (x := .int ((D e y i : Nat) : Int) t) (by simpa using ht) hne fun h₁ he₁ hit₁ ht₁ hz₁ hk₁ => ?_
    refine wpAny_letOwnedTupleGo_enum he₁ fun h₂ he₂ hs₂ => ?_
    replace hs₂ : Heap.SameBut en h₁ h₂ := hs₂
    have hen : en < s.heap.objs.size := Heap.lt_size heo
    have hT : h₂.IsTuple s.heap.objs.size #[.int (i : Nat) s.toks, .int ((D e y i : Nat) : Int) t] := ⟨_, (hs₂.2 _ (Nat.ne_of_gt hen)).trans ht₁, rfl, _, rfl⟩
    refine wpAny_assign_Tuple hh hT rfl rfl fun h₃ hx₃ => ?_
    replace hx₃ : Heap.ExtBut h₂.objs.size h₂ h₃ := hx₃
    have hz₂ : h₂.objs.size = s.heap.objs.size + 1 := hs₂.1.trans hz₁
    have old₃ : ∀ b o, b < s.heap.objs.size → h₂.get? b = some o → h₃.get? b = some o := fun b o hb x => hx₃ b o (by rw [hz₂]; exact Nat.ne_of_lt (Nat.lt_succ_of_lt hb)) x
    obtain ⟨oi, hoi, hoi'⟩ := id hit
    have hiH : it < s.heap.objs.size := Heap.lt_size hoi
    have W₃ := W.turn2 (h' := h₃) (k := s.toks + 1) (x' := enW it (i + 1)) (y' := lIter l (i + 1)) (fun c o h1 h2 q => old₃ c o (Heap.lt_size q) ((hs₂.2 c h1).trans (hk₁ c o h1 h2 q)))
      ⟨_, old₃ _ _ hen he₂, _, by show enObj it ((i : Int) + 1) _ = _; unfold enObj; congr 1⟩
      (by obtain ⟨o, q1, q2⟩ := hit₁; exact ⟨o, old₃ _ _ hiH ((hs₂.2 it (Ne.symm hne)).trans q1), q2⟩)
    show wpAny _ A (do holding [Value.int ((D e y i : Nat) : Int) t] (assign (.Name xi pi) (envOf nm sc L f cd) (.int (i : Nat) s.toks)); do holding [] (assign (.Name xv pv) (envOf nm sc L f cd) (.int ((D e y i : Nat) : Int) t)); pure ()) _ _ _
    refine wpAny_bind (wpAny_holding (wpAny_assign_Name (wpAny_storeName_local c2 W₃.fr.ns (fun h₄ hn₄ hs₄ => ?_) hp)))
    have W₄ := W₃.store (k := s.toks + 1 + 1) hn₄ hs₄
    refine wpAny_bind (wpAny_holding (wpAny_assign_Name (wpAny_storeName_local d2 W₄.fr.ns (fun h₅ hn₅ hs₅ => wpAny_pure ?_) hp)))
    have W₅ := W₄.store (k := s.toks + 1 + 1 + 1) hn₅ hs₅
    refine wpAny_mono (turn i _ m own _ _ _ _ hlt hJ W₅) (fun f s₃ h₃ => ?_) fun _ _ x => x.elim
    cases f with
    | next =>
      obtain ⟨m', own', W', hJ'⟩ := h₃
      exact ⟨nl e y + 1 - (i + 1), by omega, i + 1, m', own', hlt, rfl, hJ', W'⟩
    | ret v => exact h₃
    | cont => exact h₃.elim
    | brk => exact h₃.elim
  · have hin : i = nl e y := by omega
    subst hin
    refine wpAny_pyNext_enum_end hh heo hit hls (by simp [hn]) fun h₁ he₁ => wpAny_execs_nil ?_
    have Wp := (W.perm (List.Perm.swap _ _ _)).spend (k := s.toks) he₁
    exact fin _ m own hJ (Wp.drop (List.sublist_cons_self _ _))
theorem ints_set {vs : List Value} {xs : List Int} (hi : IntsAre vs xs) (i : Int) (t : Tok) : ∀ k, IntsAre (vs.set k (.int i t)) (xs.set k i) := by
  induction hi with
  | nil => intro k; exact .nil
  | cons n u hr ih =>
    intro k
    cases k with
    | zero => exact .cons i t hr
    | succ k => exact .cons n u (ih k)
theorem setAt {D : Addr} {xs : List Int} {k : Nat} {i : Int} {t u : Tok} {own' : List (Addr × Ow)} {Q : Unit → Shared → Prop} (W : Wd s₀ L s m own) (U : Up D (.li xs) (.li (xs.set k i)) own own') (hk : k < xs.length) (hz : xs.length ≤ 16777216)
    (h : ∀ s', Wd s₀ L s' m own' → Q () s') : wpAny (model prog w) A (setItem (.ref D) (.int (k : Nat) u) (.int i t)) Q E s := by
  obtain ⟨vs, n, e, hi⟩ := W.mem U.mem
  refine ki_setAt e (by omega) (by omega) (by rw [List.size_toArray, hi.length]; omega) (h _ (W.turnAt U (Heap.SameBut.update ..) ?_))
  have := IsL.update (h := s.heap) (l := D) (items := vs.toArray) (n := n) e (fun a => a.setIfInBounds ((k : Nat) : Int).toNat (.int i t))
  rw [List.setIfInBounds_toArray] at this
  show IL _ _ _
  exact ⟨_, _, this, by rw [Int.toNat_natCast]; exact ints_set hi i t k⟩
theorem sSetAt {o ie value : Expr} {p' pos : Pos} {rest : List Stmt} {Q : Flow → Shared → Prop}
    (h : wpAny (model prog w) A (eval value env) (fun v s₁ => wpAny (model prog w) A (eval o env) (fun ov s₂ => wpAny (model prog w) A (eval ie env) (fun iv s₃ =>
      ∃ s₀ L D m own own' xs k i t u, v = .int i t ∧ ov = .ref D ∧ iv = .int ((k : Nat) : Int) u ∧ Wd s₀ L s₃ m own ∧ Up D (.li xs) (.li (xs.set k i)) own own' ∧ k < xs.length ∧ xs.length ≤ 16777216 ∧ ∀ s', Wd s₀ L s' m own' → wpAny (model prog w) A (execs rest env) Q E s') E s₂) E s₁) E s)
    (hs : swapsWith value (some (.Subscript o ie p')) pos.line env = pure false) :
    wpAny (model prog w) A (execs (.Assign [.Subscript o ie p'] value pos :: rest) env) Q E s := by
  refine wpAny_execs_cons (wpAny_Assign_Subscript (wpAny_mono h (fun v s₁ h₁ => wpAny_mono h₁ (fun ov s₂ h₂ => wpAny_mono h₂ (fun iv s₃ h₃ => ?_) fun _ _ e => e) fun _ _ e => e) fun _ _ e => e) hs)
  obtain ⟨s₀, L, D, m, own, own', xs, k, i, t, u, rfl, rfl, rfl, W, U, hk, hz, q⟩ := h₃
  exact setAt W U hk hz q
theorem nMul {a b k : Nat} (W : Wd s₀ L s m own) (ha : a < 2 ^ k) (hb : b < 2 ^ k) (hk : k ≤ 100) (h : ∀ s' t, Wd s₀ L s' m own → Q (.int ((a * b : Nat) : Int) t) s') : wpAny (model prog w) A (binaryOp .Mult (.int (a : Nat) t) (.int (b : Nat) u)) Q E s := by
  have hp : 2 ^ k ≤ 2 ^ 100 := pow_le hk
  refine oMul W (mul_small (by rw [Int.natAbs_natCast]; omega) (by rw [Int.natAbs_natCast]; omega)) fun s' t W => ?_
  have := h s' t W
  push_cast at this
  exact this
theorem nItemG {value slice : Expr} {a : Addr} {xs : List Int} {k v : Nat} {u : Tok} (hl : IL s.heap a xs) (hv : xs.getD k 0 = ((v : Nat) : Int)) (h1 : k < xs.length) (hz : xs.length ≤ 1000000)
    (hs : subscripted slice false (.ref a) (.int (k : Nat) u) = operate [.ref a, .int (k : Nat) u] (getItem (.ref a) (.int (k : Nat) u)))
    (h : ∀ t, Q (.int ((v : Nat) : Int) t) s) :
    wpAny (model prog w) A (subscriptTail value slice (.ref a) (.int (k : Nat) u)) Q E s :=
  xItem hl (by omega) (by omega) (by omega) hs fun t => by rw [Int.toNat_natCast, hv]; exact h t
end
end
-- Fmul
theorem words12 : True := by
  k_with "rl" => (first | ((with_reducible refine' Wd.retL ?Wz412 ?_); (case Wz412 => k_extra "wd"); intro _ _ _) | ((with_reducible refine' Wd.retI ?Wz413 ?_); (case Wz413 => k_extra "wd"); intro _ _ _))
  k_with "rm" => (exact Rm.le (by with_reducible assumption) (by decide))
  k_with "cl" => ((with_reducible refine' normal_ok ?Rz414 ?Gz414 ?hfz414 ?haz414 ?hzz414 ?_); (case Rz414 => k_extra "rm"); (case Gz414 => k_extra "wd"); (case hfz414 => k_extra "wd"); (case haz414 => k_extra "il"); (case hzz414 => k_extra "ar"); k_extra "rl")
  k_with "cl" => ((with_reducible refine' compare_ok ?Rz415 ?Gz415 ?hfz415 ?hez415 ?hxz415 ?hyz415 ?haz415 ?hbz415 ?_); (case Rz415 => k_extra "rm"); (case Gz415 => k_extra "wd"); (case hfz415 => k_extra "wd"); (case haz415 => k_extra "il"); (case hbz415 => k_extra "il"); (case hez415 => k_extra "ar"); (case hxz415 => k_extra "ar"); (case hyz415 => k_extra "ar"); k_extra "rl")
  k_with "cl" => ((with_reducible refine' nat_of_ok ?Rz416 ?Gz416 ?hfz416 ?hez416 ?he8z416 ?hxz416 ?_); (case Rz416 => k_extra "rm"); (case Gz416 => k_extra "wd"); (case hfz416 => k_extra "wd"); (case hez416 => k_extra "ar"); (case he8z416 => k_extra "ar"); (case hxz416 => k_extra "ar"); k_extra "rl")
  k_with "cl" => ((with_reducible refine' add_ok ?Rz417 ?Gz417 ?hfz417 ?hez417 ?he8z417 ?hxz417 ?hyz417 ?haz417 ?hbz417 ?_); (case Rz417 => k_extra "rm"); (case Gz417 => k_extra "wd"); (case hfz417 => k_extra "wd"); (case haz417 => k_extra "il"); (case hbz417 => k_extra "il"); (case hez417 => k_extra "ar"); (case he8z417 => k_extra "ar"); (case hxz417 => k_extra "ar"); (case hyz417 => k_extra "ar"); k_extra "rl")
  k_with "cl" => ((with_reducible refine' sub_ok ?Rz418 ?Gz418 ?hfz418 ?hez418 ?he8z418 ?hxz418 ?hyz418 ?haz418 ?hbz418 ?_); (case Rz418 => k_extra "rm"); (case Gz418 => k_extra "wd"); (case hfz418 => k_extra "wd"); (case haz418 => k_extra "il"); (case hbz418 => k_extra "il"); (case hez418 => k_extra "ar"); (case he8z418 => k_extra "ar"); (case hxz418 => k_extra "ar"); (case hyz418 => k_extra "ar"); k_extra "rl")
  k_with "cl" => ((with_reducible refine' shift_left_ok ?Rz419 ?Gz419 ?hfz419 ?hez419 ?he8z419 ?hxz419 ?hnz419 ?haz419 ?_); (case Rz419 => k_extra "rm"); (case Gz419 => k_extra "wd"); (case hfz419 => k_extra "wd"); (case haz419 => k_extra "il"); (case hez419 => k_extra "ar"); (case he8z419 => k_extra "ar"); (case hxz419 => k_extra "ar"); (case hnz419 => k_extra "ar"); k_extra "rl")
  k_with "cl" => ((with_reducible refine' shift_right_ok ?Rz420 ?Gz420 ?hfz420 ?hez420 ?he8z420 ?hxz420 ?hnz420 ?haz420 ?_); (case Rz420 => k_extra "rm"); (case Gz420 => k_extra "wd"); (case hfz420 => k_extra "wd"); (case haz420 => k_extra "il"); (case hez420 => k_extra "ar"); (case he8z420 => k_extra "ar"); (case hxz420 => k_extra "ar"); (case hnz420 => k_extra "ar"); k_extra "rl")
  k_with "cl" => ((with_reducible refine' bits_ok ?Rz421 ?Gz421 ?hfz421 ?hez421 ?he8z421 ?hxz421 ?haz421 ?_); (case Rz421 => k_extra "rm"); (case Gz421 => k_extra "wd"); (case hfz421 => k_extra "wd"); (case haz421 => k_extra "il"); (case hez421 => k_extra "ar"); (case he8z421 => k_extra "ar"); (case hxz421 => k_extra "ar"); k_extra "rl")
  k_with "cl" => ((with_reducible refine' low_ok ?Rz422 ?Gz422 ?hfz422 ?hez422 ?he8z422 ?hxz422 ?hnz422 ?haz422 ?_); (case Rz422 => k_extra "rm"); (case Gz422 => k_extra "wd"); (case hfz422 => k_extra "wd"); (case haz422 => k_extra "il"); (case hez422 => k_extra "ar"); (case he8z422 => k_extra "ar"); (case hxz422 => k_extra "ar"); (case hnz422 => k_extra "ar"); k_extra "rl")
  trivial
section
noncomputable def d_mul_school : {d : FD // fdOf pw (Str.ofString "mul_school") = some d} := ⟨_, rfl⟩
/-- the limbs below k of one number, the rest of another -/
noncomputable def mx (e N k T S : Nat) : List Int := (List.range N).map fun q => ((if q < k then D e T q else D e S q : Nat) : Int)
theorem mx_len (e N k T S : Nat) : (mx e N k T S).length = N := by simp [mx]
theorem mx_get {e N k T S : Nat} (h : k < N) : (mx e N k T S).getD k 0 = ((D e S k : Nat) : Int) := by
  simp [mx, List.getD_eq_getElem?_getD, h]
theorem mx_set {e N k T S : Nat} (h : k < N) : (mx e N k T S).set k ((D e T k : Nat) : Int) = mx e N (k + 1) T S := by
  apply List.ext_getElem?
  intro q
  rw [List.getElem?_set]
  unfold mx
  simp only [List.length_map, List.length_range, List.getElem?_map]
  by_cases hq : k = q
  · subst hq
    simp [h]
  · rw [if_neg hq]
    by_cases hN : q < N
    · simp only [List.getElem?_range hN, Option.map_some]
      by_cases h1 : q < k
      · rw [if_pos h1, if_pos (by omega)]
      · rw [if_neg h1, if_neg (by omega)]
    · rw [List.getElem?_eq_none (by simp; omega)]; rfl
theorem mx_all {e N k T S : Nat} (h : ∀ q, q < N → k ≤ q → D e S q = D e T q) : mx e N k T S = dg e N T := by
  unfold mx dg
  refine List.map_congr_left fun q hq => ?_
  have hq := List.mem_range.mp hq
  by_cases h1 : q < k
  · rw [if_pos h1]
  · rw [if_neg h1, h q hq (by omega)]
theorem mx_start {e N i S z : Nat} : mx e N i (S + z * 2 ^ (e * i)) S = dg e N S := by
  unfold mx dg
  refine List.map_congr_left fun q _ => ?_
  by_cases h1 : q < i
  · rw [if_pos h1]
    have : D e (S + z * 2 ^ (e * i)) q = D e S q := by
      unfold D
      rw [show e * i = e * q + (e + e * (i - q - 1)) by
        rw [← Nat.mul_one e, Nat.mul_assoc, Nat.mul_assoc, Nat.mul_assoc, ← Nat.mul_add, ← Nat.mul_add]; congr 1; omega]
      rw [Nat.pow_add, Nat.pow_add, show z * (2 ^ (e * q) * (2 ^ e * 2 ^ (e * (i - q - 1)))) = 2 ^ (e * q) * (2 ^ e * (z * 2 ^ (e * (i - q - 1)))) by ac_rfl, Nat.add_mul_div_left _ _ (pow_pos' _), Nat.add_mul_mod_self_left]
    rw [this]
  · rw [if_neg h1]
theorem mul_step {e T S y d c k j : Nat} (h : T / 2 ^ (e * k) = S / 2 ^ (e * k) + d * (y / 2 ^ (e * j)) + c) :
    D e T k = (c + (D e S k + d * D e y j)) % 2 ^ e ∧ T / 2 ^ (e * (k + 1)) = S / 2 ^ (e * (k + 1)) + d * (y / 2 ^ (e * (j + 1))) + (c + (D e S k + d * D e y j)) / 2 ^ e := by
  have e1 : T / 2 ^ (e * k) = 2 ^ e * (S / 2 ^ (e * (k + 1)) + d * (y / 2 ^ (e * (j + 1)))) + (c + (D e S k + d * D e y j)) := by
    rw [h, div_split e S k, div_split e y j, Nat.mul_add d, Nat.mul_add (2 ^ e), show d * (2 ^ e * (y / 2 ^ (e * (j + 1)))) = 2 ^ e * (d * (y / 2 ^ (e * (j + 1)))) by ac_rfl]
    omega
  refine ⟨?_, ?_⟩
  · show T / 2 ^ (e * k) % 2 ^ e = _
    rw [e1, Nat.mul_add_mod]
  · rw [div_succ e T, e1, Nat.mul_add_div (pow_pos' _)]
theorem mod_succ (e x i : Nat) : x % 2 ^ (e * (i + 1)) = x % 2 ^ (e * i) + D e x i * 2 ^ (e * i) := by
  rw [P_succ, Nat.mod_mul]; exact congrArg (_ + ·) (Nat.mul_comm _ _)
noncomputable def MulO (e x y : Nat) (b : Addr) (tw : Tok) (i : Nat) (m : Str → Option Value) (own : List (Addr × Ow)) : Prop :=
  ∃ fa rest t', own = (fa, .li (dg e (nl e x + nl e y) (x % 2 ^ (e * i) * y))) :: rest ∧ m (Str.ofString "found") = some (.ref fa) ∧ m (Str.ofString "b") = some (.ref b) ∧
    m (Str.ofString "w") = some (.int (e : Nat) tw) ∧ m (Str.ofString "mask") = some (.int ((2 : Int) ^ e - 1) t')
noncomputable def MulI (e N i T S d y : Nat) (b fa : Addr) (tw : Tok) (en : Addr) (P : Ow) (it : Addr) (P' : Ow) (rest : List (Addr × Ow)) (j : Nat) (m : Str → Option Value) (own : List (Addr × Ow)) : Prop :=
  ∃ c t t1 t2 t3, own = (en, P) :: (it, P') :: (fa, .li (mx e N (i + j) T S)) :: rest ∧ m (Str.ofString "found") = some (.ref fa) ∧ m (Str.ofString "b") = some (.ref b) ∧
    m (Str.ofString "w") = some (.int (e : Nat) tw) ∧ m (Str.ofString "mask") = some (.int ((2 : Int) ^ e - 1) t) ∧ m (Str.ofString "at") = some (.int (i : Nat) t1) ∧ m (Str.ofString "limb") = some (.int (d : Nat) t2) ∧
    m (Str.ofString "carry") = some (.int (c : Nat) t3) ∧ T / 2 ^ (e * (i + j)) = S / 2 ^ (e * (i + j)) + d * (y / 2 ^ (e * j)) + c
theorem mul_bound {e a b i j : Nat} (ha : a < 2 ^ (e * i)) (hb : b < 2 ^ (e * j)) : a * b < 2 ^ (e * (i + j)) := by
  rw [Nat.mul_add, Nat.pow_add]
  exact Nat.mul_lt_mul'' ha hb
theorem mul_end {e x y i N c : Nat} (he : 0 < e) (hk : i + nl e y < N)
    (h : (x % 2 ^ (e * i) * y + D e x i * y * 2 ^ (e * i)) / 2 ^ (e * (i + nl e y)) = x % 2 ^ (e * i) * y / 2 ^ (e * (i + nl e y)) + D e x i * (y / 2 ^ (e * nl e y)) + c) :
    (mx e N (i + nl e y) (x % 2 ^ (e * i) * y + D e x i * y * 2 ^ (e * i)) (x % 2 ^ (e * i) * y)).set (i + nl e y) ((c : Nat) : Int) = dg e N (x % 2 ^ (e * (i + 1)) * y) := by
  have hy := nl_lt he y
  have hS : x % 2 ^ (e * i) * y < 2 ^ (e * (i + nl e y)) := mul_bound (Nat.mod_lt _ (pow_pos' _)) hy
  have eT : x % 2 ^ (e * i) * y + D e x i * y * 2 ^ (e * i) = x % 2 ^ (e * (i + 1)) * y := by
    rw [mod_succ, Nat.add_mul, Nat.mul_right_comm]
  have hT : x % 2 ^ (e * (i + 1)) * y < 2 ^ (e * (i + nl e y + 1)) := by
    have := mul_bound (e := e) (i := i + 1) (j := nl e y) (Nat.mod_lt x (pow_pos' (e * (i + 1)))) hy
    rwa [show i + 1 + nl e y = i + nl e y + 1 by omega] at this
  rw [eT] at h ⊢
  rw [Nat.div_eq_of_lt hS, Nat.div_eq_of_lt hy, Nat.mul_zero, Nat.zero_add] at h
  have hc : D e (x % 2 ^ (e * (i + 1)) * y) (i + nl e y) = c := by
    unfold D
    rw [h]
    refine Nat.mod_eq_of_lt ?_
    rw [← h]
    refine Nat.div_lt_of_lt_mul ?_
    rw [← P_succ]; exact hT
  rw [← hc, mx_set hk]
  refine mx_all fun q hq hq' => ?_
  rw [D_high hS (by omega), D_high hT (by omega)]
theorem mul_begin {e x y i : Nat} : (x % 2 ^ (e * i) * y + D e x i * y * 2 ^ (e * i)) / 2 ^ (e * (i + 0)) = x % 2 ^ (e * i) * y / 2 ^ (e * (i + 0)) + D e x i * (y / 2 ^ (e * 0)) + 0 := by
  rw [Nat.add_zero, Nat.add_zero, Nat.mul_zero, Nat.pow_zero, Nat.div_one, Nat.add_mul_div_right _ _ (pow_pos' _)]
theorem dg_nought (e n : Nat) : dg e n 0 = List.replicate n 0 := by
  unfold dg
  rw [List.eq_replicate_iff]
  refine ⟨by simp, fun b hb => ?_⟩
  obtain ⟨j, _, rfl⟩ := List.mem_map.mp hb
  simp [D]
section
variable {prog : Program} {w : World} {A : Around} {E : Value → Shared → Prop} {s₀ s : Shared} {L f : Addr} {m mg : Str → Option Value} {own : List (Addr × Ow)} {nm : Str} {sc : Scope} {cd : Value}
  {p : Program} {names free : List Str} {env : Env} {Q : Value → Shared → Prop}
theorem mul_school_ok {a b : Addr} {e x y : Nat} {tw : Tok} (R : Rm A 2) (G : GD mg s.heap) (hf : FnAt mg s.heap (Str.ofString "mul_school") d_mul_school.1 f)
    (he : 1 ≤ e) (he8 : e ≤ 8) (hx : x < 2 ^ 100) (hy : y < 2 ^ 100) (ha : IL s.heap a (lm e x)) (hb : IL s.heap b (lm e y)) (h : RetL s (lm e (x * y)) Q) :
    wpAny (model prog w) A (call (.ref f) [.ref a, .ref b, .int (e : Nat) tw]) Q E s := by
  refine enterU [Str.ofString "a", Str.ofString "b", Str.ofString "w"] R G hf (by intro _ _ _; rfl) (by decide +kernel) (by decide +kernel) ?_
  intro L cd s' W
  dsimp only [List.foldl, List.zip, List.zipWith] at W
  have R' := R.deeper (envOf (Str.ofString "mul_school") d_mul_school.1.2.2 L f cd)
  have hbx := nl_bound he hx
  have hby := nl_bound he hy
  obtain ⟨g2, hg2⟩ := G.fns (Str.ofString "normal") (by decide +kernel) _ d_normal.2
  refine sTup2 _ _ R'.hd (by decide +kernel) (by decide +kernel) ?_ rfl rfl rfl rfl
  repeat k_extra "st"
  refine' loopEnum R'.hd ?hci ?hcv (MulO e x y b tw) ha he ?W ?h0 ?_ ?_
  case hci => decide +kernel
  case hcv => decide +kernel
  case W => k_extra "wd"
  case h0 => exact ⟨_, _, _, by rw [Nat.mul_zero, Nat.pow_zero, Nat.mod_one, Nat.zero_mul, dg_nought], by k_extra "lk", by k_extra "lk", by k_extra "lk", by k_extra "lk"⟩
  · rintro i s m own t t' P P' hi ⟨fa, rest, tm, rfl, m1, m2, m3, m4⟩ W
    refine sSet (by decide +kernel) ?_
    repeat k_extra "st"
    refine' loopEnum R'.hd ?hci ?hcv (MulI e (nl e x + nl e y) i (x % 2 ^ (e * i) * y + D e x i * y * 2 ^ (e * i)) (x % 2 ^ (e * i) * y) (D e x i) y b fa tw _ P _ P' rest) hb he ?W ?h0 ?_ ?_
    case hci => decide +kernel
    case hcv => decide +kernel
    case W => k_extra "wd"
    case h0 => exact ⟨0, _, _, _, _, by rw [Nat.add_zero, mx_start], by k_extra "lk", by k_extra "lk", by k_extra "lk", by k_extra "lk", by k_extra "lk", by k_extra "lk", int_as (by k_extra "lk") (by rfl), mul_begin⟩
    · rintro j s m own u u' P2 P2' hj ⟨c, t, t1, t2, t3, rfl, m1, m2, m3, m4, m5, m6, m7, h7⟩ W
      have hd := D_lt e x i
      have ho := D_lt e y j
      have hk : i + j < nl e x + nl e y := by omega
      have hget := mx_get (e := e) (T := x % 2 ^ (e * i) * y + D e x i * y * 2 ^ (e * i)) (S := x % 2 ^ (e * i) * y) hk
      have hlen : i + j < (mx e (nl e x + nl e y) (i + j) (x % 2 ^ (e * i) * y + D e x i * y * 2 ^ (e * i)) (x % 2 ^ (e * i) * y)).length := by rw [mx_len]; exact hk
      have hlen' : (mx e (nl e x + nl e y) (i + j) (x % 2 ^ (e * i) * y + D e x i * y * 2 ^ (e * i)) (x % 2 ^ (e * i) * y)).length ≤ 1000000 := by rw [mx_len]; omega
      have hlen2 : (mx e (nl e x + nl e y) (i + j) (x % 2 ^ (e * i) * y + D e x i * y * 2 ^ (e * i)) (x % 2 ^ (e * i) * y)).length ≤ 16777216 := by rw [mx_len]; omega
      have hs := mul_step h7
      have hset := mx_set (e := e) (T := x % 2 ^ (e * i) * y + D e x i * y * 2 ^ (e * i)) (S := x % 2 ^ (e * i) * y) hk
      rw [hs.1] at hset
      refine sAug (by k_extra "wd") (by k_extra "lk") (by decide +kernel) ?_
      repeat k_extra "st"
      exact ⟨_, _, by k_extra "wd", _, _, _, _, _, by rw [hset]; rfl, by k_extra "lk", by k_extra "lk", by k_extra "lk", by k_extra "lk", by k_extra "lk", by k_extra "lk", by k_extra "lk", hs.2⟩
    · rintro s m own ⟨c, t, t1, t2, t3, rfl, m1, m2, m3, m4, m5, m6, m7, h7⟩ W
      dsimp only
      have hk : i + nl e y < nl e x + nl e y := by omega
      have hlen : i + nl e y < (mx e (nl e x + nl e y) (i + nl e y) (x % 2 ^ (e * i) * y + D e x i * y * 2 ^ (e * i)) (x % 2 ^ (e * i) * y)).length := by rw [mx_len]; exact hk
      have hlen2 : (mx e (nl e x + nl e y) (i + nl e y) (x % 2 ^ (e * i) * y + D e x i * y * 2 ^ (e * i)) (x % 2 ^ (e * i) * y)).length ≤ 16777216 := by rw [mx_len]; omega
      have hset := mul_end he hk h7
      repeat k_extra "st"
      exact ⟨_, _, by k_extra "wd", _, _, _, by rw [hset], by k_extra "lk", by k_extra "lk", by k_extra "lk", by k_extra "lk"⟩
  · rintro s m own ⟨fa, rest, tm, rfl, m1, m2, m3, m4⟩ W
    dsimp only
    have hlen : (dg e (nl e x + nl e y) (x % 2 ^ (e * nl e x) * y)).length ≤ 1048576 := by rw [dg_len]; omega
    repeat k_extra "st"
    refine h.back (by k_extra "wd") ?_
    rw [Nat.mod_eq_of_lt (nl_lt he x), trim_dg he (mul_bound (nl_lt he x) (nl_lt he y))]
    exact .head _
end
end
-- Felem
theorem words13 : True := by
  k_with "cl" => ((with_reducible refine' ring_one_ok ?Rz423 ?Gz423 ?hfz423 ?hez423 ?he8z423 ?hnz423 ?_); (case Rz423 => k_extra "rm"); (case Gz423 => k_extra "wd"); (case hfz423 => k_extra "wd"); (case hez423 => k_extra "ar"); (case he8z423 => k_extra "ar"); (case hnz423 => k_extra "ar"); k_extra "rl")
  k_with "cl" => ((with_reducible refine' ring_add_ok ?Rz424 ?Gz424 ?hfz424 ?hez424 ?he8z424 ?hnz424 ?hxz424 ?hyz424 ?haz424 ?hbz424 ?_); (case Rz424 => k_extra "rm"); (case Gz424 => k_extra "wd"); (case hfz424 => k_extra "wd"); (case haz424 => k_extra "il"); (case hbz424 => k_extra "il"); (case hez424 => k_extra "ar"); (case he8z424 => k_extra "ar"); (case hnz424 => k_extra "ar"); (case hxz424 => k_extra "ar"); (case hyz424 => k_extra "ar"); k_extra "rl")
  k_with "cl" => ((with_reducible refine' ring_sub_ok ?Rz425 ?Gz425 ?hfz425 ?hez425 ?he8z425 ?hnz425 ?hxz425 ?hyz425 ?haz425 ?hbz425 ?_); (case Rz425 => k_extra "rm"); (case Gz425 => k_extra "wd"); (case hfz425 => k_extra "wd"); (case haz425 => k_extra "il"); (case hbz425 => k_extra "il"); (case hez425 => k_extra "ar"); (case he8z425 => k_extra "ar"); (case hnz425 => k_extra "ar"); (case hxz425 => k_extra "ar"); (case hyz425 => k_extra "ar"); k_extra "rl")
  k_with "cl" => ((with_reducible refine' ring_neg_ok ?Rz426 ?Gz426 ?hfz426 ?hez426 ?he8z426 ?hnz426 ?hxz426 ?haz426 ?_); (case Rz426 => k_extra "rm"); (case Gz426 => k_extra "wd"); (case hfz426 => k_extra "wd"); (case haz426 => k_extra "il"); (case hez426 => k_extra "ar"); (case he8z426 => k_extra "ar"); (case hnz426 => k_extra "ar"); (case hxz426 => k_extra "ar"); k_extra "rl")
  k_with "cl" => ((with_reducible refine' need_ring_ok ?Rz427 ?Gz427 ?hfz427 ?hnz427 ?_); (case Rz427 => k_extra "rm"); (case Gz427 => k_extra "wd"); (case hfz427 => k_extra "wd"); (case hnz427 => k_extra "ar"); ((with_reducible refine' Wd.retN ?Wz428 ?_); (case Wz428 => k_extra "wd"); intro _ _; refine ⟨rfl, ?_⟩))
  k_with "cl" => ((with_reducible refine' sExprN ?hkz429 ?_ ?hsz429); (case hkz429 => exact rfl); (case hsz429 => exact rfl))
  k_with "cl" => (with_reducible refine not_of ?_)
  k_with "cl" => ((with_reducible refine' ring_fold_ok ?Rz430 ?Gz430 ?hfz430 ?hez430 ?he8z430 ?hn1z430 ?hnz430 ?hxz430 ?haz430 ?_); (case Rz430 => k_extra "rm"); (case Gz430 => k_extra "wd"); (case hfz430 => k_extra "wd"); (case haz430 => k_extra "il"); (case hez430 => k_extra "ar"); (case he8z430 => k_extra "ar"); (case hn1z430 => k_extra "ar"); (case hnz430 => k_extra "ar"); (case hxz430 => k_extra "ar"); k_extra "rl")
  trivial
section
noncomputable def d_law_limbs : {d : FD // fdOf pw (Str.ofString "_law_limbs") = some d} := ⟨_, rfl⟩
/-- an int's place in the ring -/
noncomputable def zm (z : Int) (n : Nat) : Nat := (z % ((2 ^ n + 1 : Nat) : Int)).toNat
theorem zm_cast (z : Int) (n : Nat) : ((zm z n : Nat) : Int) = z % ((2 ^ n + 1 : Nat) : Int) := Int.toNat_of_nonneg (Int.emod_nonneg _ (by have := pow_pos' n; generalize 2 ^ n = N at *; omega))
theorem zm_le (z : Int) (n : Nat) : zm z n ≤ 2 ^ n := by
  unfold zm
  generalize 2 ^ n = N
  have := Int.emod_lt_of_pos z (show (0 : Int) < ((N + 1 : Nat) : Int) by omega)
  omega
theorem zm_nat (x n : Nat) : zm (x : Int) n = x % (2 ^ n + 1) := by unfold zm; generalize 2 ^ n = N; omega
theorem zm_neg {z : Int} {n : Nat} (h : z < 0) : (2 ^ n + 1 - z.natAbs % (2 ^ n + 1)) % (2 ^ n + 1) = zm z n := by
  obtain ⟨k, hk⟩ : ∃ k : Nat, z = -(k : Int) := ⟨z.natAbs, by omega⟩
  subst hk
  rw [Int.natAbs_neg, Int.natAbs_natCast]
  have hM : 0 < 2 ^ n + 1 := Nat.succ_pos _
  unfold zm
  generalize 2 ^ n + 1 = M at *
  have hr := Nat.mod_lt k hM
  have e1 : ((M - k % M : Nat) : Int) % (M : Int) = (-(k : Int)) % (M : Int) := by
    rw [Int.ofNat_sub (Nat.le_of_lt hr)]
    rw [show ((M : Nat) : Int) - ((k % M : Nat) : Int) = -((k % M : Nat) : Int) + (M : Int) by omega, Int.add_emod_right]
    have e2 := Nat.div_add_mod k M
    have e3 : -(k : Int) = -((k % M : Nat) : Int) + (M : Int) * (-((k / M : Nat) : Int)) := by
      have : (k : Int) = (M : Int) * ((k / M : Nat) : Int) + ((k % M : Nat) : Int) := by exact_mod_cast e2.symm
      rw [Int.mul_neg]
      omega
    rw [e3, Int.add_mul_emod_self_left]
  rw [← e1]
  omega
theorem zm_pos {z : Int} {n : Nat} (h : ¬ z < 0) : z.natAbs % (2 ^ n + 1) = zm z n := by
  obtain ⟨k, hk⟩ : ∃ k : Nat, z = (k : Int) := ⟨z.natAbs, by omega⟩
  subst hk
  rw [zm_nat, Int.natAbs_natCast]
section
variable {prog : Program} {w : World} {A : Around} {E : Value → Shared → Prop} {s₀ s : Shared} {L f : Addr} {m mg : Str → Option Value} {own : List (Addr × Ow)} {nm : Str} {sc : Scope} {cd : Value}
  {p : Program} {names free : List Str} {env : Env} {Q : Value → Shared → Prop} {t u : Tok}
theorem callAbs {a : Int} (W : Wd s₀ L s m own) (h : ∀ s' t, Wd s₀ L s' m own → Q (.int ((a.natAbs : Nat) : Int) t) s') : wpAny (model prog w) A (call (.builtin "abs") [.int a t]) Q E s :=
  PyProof.Rows.call_abs_int fun u tk => by
    have := h _ u (W.tk (k := tk))
    rwa [show (if a < 0 then -a else a) = ((a.natAbs : Nat) : Int) by split <;> omega]
theorem nPow {e : Nat} (W : Wd s₀ L s m own) (he : e ≤ 1000) (h : ∀ s' t, Wd s₀ L s' m own → Q (.int ((2 ^ e : Nat) : Int) t) s') : wpAny (model prog w) A (binaryOp .Pow (.int 2 t) (.int (e : Nat) u)) Q E s :=
  oPow W (by omega) (by rw [show Builtin.Int.intBits (2 : Int) = 2 by decide +kernel]; omega) fun s' t W => by
    have := h s' t W
    rw [Int.toNat_natCast]; push_cast at this; exact this
/-- a call of a def that a local name holds -/
theorem eCallL {x nm' : Str} {d : FD} {g : Addr} {p1 pos : Pos} {e : Expr} {rest : List Expr} (G : Gd p names free mg s₀.heap) (W : Wd s₀ L s m own) (hv : m x = some (.ref g)) (hg : FnAt mg s₀.heap nm' d g) (hc : isLoc sc x = true)
    (h : wpAny (model prog w) A (spliced (backTo pos (starEach (e :: rest) (envOf nm sc L f cd)))) (fun vs s₁ => ∃ m own, Wd s₀ L s₁ m own ∧ (FnAt mg s₁.heap nm' d g → Gd p names free mg s₁.heap → wpAny (model prog w) A (call (.ref g) vs) Q E s₁)) E s)
    (he : eval (.Call (.Name x p1) (e :: rest) [] pos) (envOf nm sc L f cd) = (do callWith pos (← eval (.Name x p1) (envOf nm sc L f cd)) [] (backTo pos (starEach (e :: rest) (envOf nm sc L f cd))) (backToKw pos (keywordEach [] (envOf nm sc L f cd)))) := by rfl)
    (hst : starEach (e :: rest) (envOf nm sc L f cd) = (false, eval e (envOf nm sc L f cd)) :: starEach rest (envOf nm sc L f cd) := by rfl) :
    wpAny (model prog w) A (eval (.Call (.Name x p1) (e :: rest) [] pos) (envOf nm sc L f cd)) Q E s := by
  obtain ⟨o, pm, cd', doc, a, b, c⟩ := hg.fn
  refine Call_ (eName W hv hc (callWith_def b (wpAny_mono h (fun vs s₁ h₁ => ?_) fun _ _ e => e) hst)) he
  obtain ⟨m, own, W', k⟩ := h₁
  exact ⟨W'.keep _ _ a, k (hg.kp W'.keep) (G.kp W'.keep)⟩
theorem normal_lm {a : Addr} {e x : Nat} (R : Rm A 1) (G : GD mg s.heap) (hf : FnAt mg s.heap (Str.ofString "normal") d_normal.1 f) (he : 1 ≤ e) (hx : x < 2 ^ 100)
    (ha : IL s.heap a (lm e x)) (h : RetL s (lm e x) Q) : wpAny (model prog w) A (call (.ref f) [.ref a]) Q E s :=
  normal_ok R G hf ha (by rw [lm_len]; have := nl_bound he hx; omega) (by rw [trim_lm (by omega)]; exact h)
theorem words14 : True := by
  k_with "cl" => ((with_reducible refine' normal_lm ?Rz431 ?Gz431 ?hfz431 ?hez431 ?hxz431 ?haz431 ?_); (case Rz431 => k_extra "rm"); (case Gz431 => k_extra "wd"); (case hfz431 => k_extra "wd"); (case haz431 => k_extra "il"); (case hez431 => k_extra "ar"); (case hxz431 => k_extra "ar"); k_extra "rl")
  k_with "cl" => ((with_reducible refine' callAbs ?Wz432 ?_); (case Wz432 => k_extra "wd"); intro _ _ _)
  k_with "cl" => ((with_reducible refine' nPow ?Wz433 ?hez433 ?_); (case Wz433 => k_extra "wd"); (case hez433 => k_extra "ar"); intro _ _ _)
  k_with "cl" => ((with_reducible refine' mul_school_ok ?Rz434 ?Gz434 ?hfz434 ?hez434 ?he8z434 ?hxz434 ?hyz434 ?haz434 ?hbz434 ?_); (case Rz434 => k_extra "rm"); (case Gz434 => k_extra "wd"); (case hfz434 => k_extra "wd"); (case haz434 => k_extra "il"); (case hbz434 => k_extra "il"); (case hez434 => k_extra "ar"); (case he8z434 => k_extra "ar"); (case hxz434 => k_extra "ar"); (case hyz434 => k_extra "ar"); k_extra "rl")
  k_with "cl" => ((with_reducible refine' eCallL ?Gz435 ?Wz435 ?hvz435 ?hgz435 ?hcz435 ?_ ?hez435 ?hstz435); (case Wz435 => k_extra "wd"); (case Gz435 => k_extra "wd"); (case hvz435 => k_extra "lk"); (case hgz435 => k_extra "wd"); (case hcz435 => k_extra "dk"); (case hez435 => exact rfl); (case hstz435 => exact rfl))
  trivial
theorem ring_mul_ok {a b g : Addr} {e n x y : Nat} {tn tw : Tok} (R : Rm A 5) (G : GD mg s.heap) (hf : FnAt mg s.heap (Str.ofString "ring_mul") d_ring_mul.1 f) (hg : FnAt mg s.heap (Str.ofString "mul_school") d_mul_school.1 g)
    (he : 1 ≤ e) (he8 : e ≤ 8) (hn1 : 1 ≤ n) (hn : n ≤ 40) (hx : x ≤ 2 ^ n) (hy : y ≤ 2 ^ n) (ha : IL s.heap a (lm e x)) (hb : IL s.heap b (lm e y)) (h : RetL s (lm e (x * y % (2 ^ n + 1))) Q) :
    wpAny (model prog w) A (call (.ref f) [.ref a, .ref b, .int (n : Nat) tn, .int (e : Nat) tw, .ref g]) Q E s := by
  refine enterU [Str.ofString "a", Str.ofString "b", Str.ofString "n", Str.ofString "w", Str.ofString "mul"] R G hf (by intro _ _ _; rfl) (by decide +kernel) (by decide +kernel) ?_
  intro L cd s' W
  dsimp only [List.foldl, List.zip, List.zipWith] at W
  have R' := R.deeper (envOf (Str.ofString "ring_mul") d_ring_mul.1.2.2 L f cd)
  obtain ⟨g3, hg3⟩ := G.fns (Str.ofString "ring_fold") (by decide +kernel) _ d_ring_fold.2
  have hM : 2 ^ n ≤ 2 ^ 40 := pow_le hn
  have hxy : x * y ≤ 2 ^ 40 * 2 ^ 40 := Nat.mul_le_mul (by omega) (by omega)
  have hxy' : x * y < 2 ^ 100 := by omega
  refine sRet ?_
  repeat k_extra "st"
  exact h.back (by k_extra "wd") (by k_extra "mem")
theorem element_of_ok {e n : Nat} {z : Int} {tz tn tw : Tok} (R : Rm A 5) (G : GD mg s.heap) (hf : FnAt mg s.heap (Str.ofString "element_of") d_element_of.1 f)
    (he : 1 ≤ e) (he8 : e ≤ 8) (hn1 : 1 ≤ n) (hn : n ≤ 40) (hz : z.natAbs < 2 ^ 100) (h : RetL s (lm e (zm z n)) Q) :
    wpAny (model prog w) A (call (.ref f) [.int z tz, .int (n : Nat) tn, .int (e : Nat) tw]) Q E s := by
  refine enterU [Str.ofString "number", Str.ofString "n", Str.ofString "w"] R G hf (by intro _ _ _; rfl) (by decide +kernel) (by decide +kernel) ?_
  intro L cd s' W
  dsimp only [List.foldl, List.zip, List.zipWith] at W
  have R' := R.deeper (envOf (Str.ofString "element_of") d_element_of.1.2.2 L f cd)
  obtain ⟨g1, hg1⟩ := G.fns (Str.ofString "normal") (by decide +kernel) _ d_normal.2
  obtain ⟨g2, hg2⟩ := G.fns (Str.ofString "nat_of") (by decide +kernel) _ d_nat_of.2
  obtain ⟨g3, hg3⟩ := G.fns (Str.ofString "ring_fold") (by decide +kernel) _ d_ring_fold.2
  obtain ⟨g4, hg4⟩ := G.fns (Str.ofString "ring_neg") (by decide +kernel) _ d_ring_neg.2
  have hr := Nat.mod_lt z.natAbs (Nat.succ_pos (2 ^ n))
  have hr' : z.natAbs % (2 ^ n + 1) ≤ 2 ^ n := Nat.le_of_lt_succ hr
  refine sSet (by decide +kernel) ?_
  repeat k_extra "st"
  refine IfExp_ ?_
  repeat k_extra "st"
  refine iteD (fun h1 => ?_) (fun h1 => ?_)
  · repeat k_extra "st"
    refine h.back (by k_extra "wd") ?_
    rw [← zm_neg h1]
    k_extra "mem"
  · repeat k_extra "st"
    refine h.back (by k_extra "wd") ?_
    rw [← zm_pos h1]
    k_extra "mem"
theorem law_limbs_ok {e x : Nat} {t u : Tok} (R : Rm A 1) (G : GD mg s.heap) (hf : FnAt mg s.heap (Str.ofString "_law_limbs") d_law_limbs.1 f)
    (he : 1 ≤ e) (he8 : e ≤ 8) (hx : x < 2 ^ 100) (h : RetL s (lm e x) Q) : wpAny (model prog w) A (call (.ref f) [.int (x : Nat) t, .int (e : Nat) u]) Q E s := by
  refine enterU [Str.ofString "number", Str.ofString "w"] R G hf (by intro _ _ _; rfl) (by decide +kernel) (by decide +kernel) ?_
  intro L cd s' W
  dsimp only [List.foldl, List.zip, List.zipWith] at W
  have R' := R.deeper (envOf (Str.ofString "_law_limbs") d_law_limbs.1.2.2 L f cd)
  have hp := pow_pos' e
  have hp' : 2 ^ e ≤ 2 ^ 8 := pow_le he8
  have hp2 : 2 ^ e ≤ 1000000 := by omega
  refine sSet (by decide +kernel) ?_
  repeat k_extra "st"
  refine sWhile (fun n s' => ∃ m i fa, Wd s L s' m [(fa, .li (dg e i x))] ∧ m (Str.ofString "found") = some (.ref fa) ∧ (∃ t, m (Str.ofString "number") = some (.int (n : Nat) t)) ∧ m (Str.ofString "w") = some (.int (e : Nat) u) ∧
      n = x / 2 ^ (e * i) ∧ (i = 0 ∨ 2 ^ (e * (i - 1)) ≤ x)) ?_ x
    ⟨_, 0, _, by rw [dg_zero]; k_extra "wd", by k_extra "lk", ⟨_, by k_extra "lk"⟩, by k_extra "lk", by simp, .inl rfl⟩
  rintro n s ⟨m, i, fa, W, m1, ⟨t', m3⟩, m4, hn, hi⟩
  have hi100 : i ≤ 101 := by
    rcases hi with rfl | hi
    · omega
    · have := lt_of_pow (Nat.lt_of_le_of_lt hi hx)
      have : i - 1 ≤ e * (i - 1) := Nat.le_mul_of_pos_left _ he
      omega
  repeat k_extra "st"
  refine iteD (fun h1 => ?_) (fun h1 => ?_)
  · have hq : 2 ^ (e * i) ≤ x := by
      rcases Nat.lt_or_ge x (2 ^ (e * i)) with q | q
      · rw [Nat.div_eq_of_lt q] at hn; omega
      · exact q
    repeat k_extra "st"
    refine ⟨rfl, n / 2 ^ e, Nat.div_lt_self (by omega) (Nat.one_lt_two_pow (by omega)), _, i + 1, _, Wd.as (by k_extra "wd") (by rw [dg_succ, show D e x i = n % 2 ^ e by rw [hn]; rfl]), by k_extra "lk", ⟨_, by k_extra "lk"⟩, by k_extra "lk", ?_, .inr (by rw [Nat.add_sub_cancel]; exact hq)⟩
    rw [div_succ, hn]
  · repeat k_extra "st"
    refine h.back (by k_extra "wd") ?_
    have : x < 2 ^ (e * i) := by
      rcases Nat.lt_or_ge x (2 ^ (e * i)) with q | q
      · exact q
      · have := Nat.div_pos q (pow_pos' _); omega
    rw [lm_eq he this hi]
    exact .head _
end
end
-- SjL
theorem words15 : True := by
  k_with_none
  k_with "lk" => (first | with_reducible exact upd_eq | with_reducible assumption | ((with_reducible refine upd_ne ?_ (by decide +kernel)); k_extra "lk"))
  k_with "wd" => (with_reducible assumption)
  k_with "dk" => (decide +kernel)
  k_with "mem" => (first | with_reducible assumption | with_reducible exact List.mem_cons_self | ((with_reducible refine List.mem_cons_of_mem _ ?_); k_extra "mem"))
  k_with "il" => (first | with_reducible assumption | ((with_reducible refine' Wd.il ?Wz436 ?hz436); (case Wz436 => k_extra "wd"); (case hz436 => with_reducible assumption)) | ((with_reducible refine' Wd.mem ?Wz437 ?hz437); (case Wz437 => k_extra "wd"); (case hz437 => k_extra "mem")) | ((with_reducible refine' Wd.held ?Wz438 ?hz438); (case Wz438 => k_extra "wd"); (case hz438 => k_extra "hd")) | ((with_reducible refine' il_one ?hez439 ?hz439); (case hez439 => k_extra "ar"); (case hz439 => k_extra "il1")))
  k_with "il1" => ((with_reducible refine' Wd.mem ?Wz440 ?hz440); (case Wz440 => k_extra "wd"); (case hz440 => k_extra "mem"))
  k_with "hd" => (first | with_reducible assumption | with_reducible exact Held.head | ((with_reducible refine Held.cons ?_); k_extra "hd"))
  k_with "bb" => (first | exact bb_len | exact bb_abs)
  k_with "bt" => (first | exact bb_range | exact bb_enumerate | exact bb_int)
  k_with "nx" => (intro _ _; intro _)
  k_with "ar" => (first | with_reducible assumption | with_reducible exact Int.natCast_nonneg _ | omega | decide | (simp only [dg_len, lm_len, List.length_take, List.length_append, List.length_cons, List.length_nil, List.length_replicate] at *; omega))
  k_with "up" => (first | with_reducible exact Up.head | with_reducible exact Up.tail Up.head | with_reducible exact Up.tail (Up.tail Up.head) | with_reducible exact Up.tail (Up.tail (Up.tail Up.head)) | with_reducible exact Up.tail (Up.tail (Up.tail (Up.tail Up.head))))
  k_with "bits" => (first | (have hB := bits_one; omega) | omega)
  k_with "ev" => (first
  | ((with_reducible refine' eName ?Wz441 ?hvz441 ?hcz441 ?_); (case Wz441 => k_extra "wd"); (case hvz441 => k_extra "lk"); (case hcz441 => k_extra "dk"))
  | ((with_reducible refine' eInt ?Wz442 ?_); (case Wz442 => k_extra "wd"); intro _ _ _)
  | with_reducible refine Constant_bool ?_
  | with_reducible refine' wpAny_BinOp ?_
  | ((with_reducible refine' wpAny_Compare1 ?_ ?hmz444); (case hmz444 => exact rfl))
  | with_reducible refine' UnaryOp_ ?_
  | ((with_reducible refine' eSliceTo ?_ ?htz446); (case htz446 => (intro _ _; exact rfl)))
  | ((with_reducible refine' eSliceAll ?_ ?htz447); (case htz447 => (intro _ _; exact rfl)))
  | with_reducible refine' Subscript_ ?_
  | ((with_reducible refine' eCallB ?Gz449 ?Wz449 ?hfz449 ?hvz449 ?hnz449 ?hcz449 ?_ ?hez449 ?hstz449 ?hpz449); (case Wz449 => k_extra "wd"); (case Gz449 => k_extra "wd"); (case hfz449 => k_extra "dk"); (case hvz449 => k_extra "bb"); (case hnz449 => k_extra "dk"); (case hcz449 => k_extra "dk"); (case hez449 => exact rfl); (case hstz449 => exact rfl); (case hpz449 => exact rfl))
  | ((with_reducible refine' eCallT ?Gz450 ?Wz450 ?hfz450 ?hvz450 ?hnz450 ?hcz450 ?_ ?hez450 ?hstz450 ?hpz450); (case Wz450 => k_extra "wd"); (case Gz450 => k_extra "wd"); (case hfz450 => k_extra "dk"); (case hvz450 => k_extra "bt"); (case hnz450 => k_extra "dk"); (case hcz450 => k_extra "dk"); (case hez450 => exact rfl); (case hstz450 => exact rfl); (case hpz450 => exact rfl)))
  k_with "op" => (first
  | ((with_reducible refine' oAdd ?Wz451 ?_); (case Wz451 => k_extra "wd"); intro _ _ _)
  | ((with_reducible refine' oSub ?Wz452 ?_); (case Wz452 => k_extra "wd"); intro _ _ _)
  | ((with_reducible refine' oAnd ?Wz453 ?_); (case Wz453 => k_extra "wd"); intro _ _ _)
  | ((with_reducible refine' oOr ?Wz454 ?_); (case Wz454 => k_extra "wd"); intro _ _ _)
  | ((with_reducible refine' iAdd ?Wz455 ?_); (case Wz455 => k_extra "wd"); intro _ _ _)
  | ((with_reducible refine' iSub ?Wz456 ?_); (case Wz456 => k_extra "wd"); intro _ _ _)
  | ((with_reducible refine' iOr ?Wz457 ?_); (case Wz457 => k_extra "wd"); intro _ _ _)
  | ((with_reducible refine' oNeg ?Wz458 ?_); (case Wz458 => k_extra "wd"); intro _ _ _)
  | ((with_reducible refine' oShr ?Wz459 ?h0z459 ?_); (case Wz459 => k_extra "wd"); (case h0z459 => k_extra "ar"); intro _ _ _)
  | ((with_reducible refine' iShr ?Wz460 ?h0z460 ?_); (case Wz460 => k_extra "wd"); (case h0z460 => k_extra "ar"); intro _ _ _)
  | ((with_reducible refine' oMod ?Wz461 ?h0z461 ?_); (case Wz461 => k_extra "wd"); (case h0z461 => k_extra "ar"); intro _ _ _)
  | with_reducible refine' cLt ?_ | with_reducible refine' cGt ?_ | with_reducible refine' cGe ?_ | with_reducible refine' cLe ?_ | with_reducible refine' cEq ?_ | with_reducible refine' cNe ?_
  | with_reducible refine wpAny_truthy_bool ?_
  | ((with_reducible refine' callLen ?Wz468 ?hlz468 ?hzz468 ?_); (case Wz468 => k_extra "wd"); (case hlz468 => k_extra "il"); (case hzz468 => k_extra "ar"); intro _ _ _)
  | ((with_reducible refine' xItem ?hlz469 ?h0z469 ?h1z469 ?hzz469 ?hsz469 ?_); (case hlz469 => k_extra "il"); (case h0z469 => k_extra "ar"); (case h1z469 => k_extra "ar"); (case hzz469 => k_extra "ar"); (case hsz469 => with_unfolding_all rfl); intro _))
  k_with "cf" => (first
  | ((with_reducible refine' eCallF ?Gz470 ?Wz470 ?hgz470 ?hcz470 ?_ ?hez470 ?hstz470); (case Wz470 => k_extra "wd"); (case Gz470 => k_extra "wd"); (case hgz470 => k_extra "wd"); (case hcz470 => k_extra "dk"); (case hez470 => exact rfl); (case hstz470 => exact rfl))
  | ((with_reducible refine' ⟨_, _, ?Wz471, ?_⟩); (case Wz471 => k_extra "wd"); intro _ _))
  k_with "sm" => (first
  | ((with_reducible refine' args_cons ?_ ?hez472); (case hez472 => exact rfl))
  | with_reducible refine args_nil ?_
  | ((with_reducible refine' sSet ?hcz473 ?_ ?hsz473); (case hcz473 => k_extra "dk"); (case hsz473 => exact rfl))
  | ((with_reducible refine' sAug ?Wz474 ?hvz474 ?hcz474 ?_); (case Wz474 => k_extra "wd"); (case hvz474 => k_extra "lk"); (case hcz474 => k_extra "dk"))
  | with_reducible refine sIf ?_
  | with_reducible refine iteT ?_ | with_reducible refine iteF ?_
  | with_reducible refine sRet ?_
  | with_reducible refine sSkip ?_
  | ((with_reducible refine' wpAny_isTrue_Compare1 ?_ ?hmz475); (case hmz475 => exact rfl))
  | with_reducible refine isTrue_and_nil ?_ | with_reducible refine isTrue_or_nil ?_
  | with_reducible refine isTrue_and ?_ | with_reducible refine isTrue_or ?_ | with_reducible refine isTrue_not ?_ | with_reducible refine isTrue_IfExp ?_
  | ((with_reducible refine' isTrue_plain ?_ ?hez476); (case hez476 => exact rfl))
  | ((with_reducible refine ⟨_, _, _, (by k_extra "wd"), ?_⟩); intro _ _)
  | ((with_reducible refine' ⟨_, _, _, _, _, _, _, _, rfl, rfl, ?Wz477, ?hlz477, ?h0z477, ?hzz477, ?_⟩); (case Wz477 => k_extra "wd"); (case hlz477 => k_extra "il"); (case h0z477 => k_extra "ar"); (case hzz477 => k_extra "ar"); intro _ _ _)
  | ((with_reducible refine' ⟨_, _, _, _, _, _, rfl, ?Wz478, ?Uz478, ?hzz478, ?_⟩); (case Wz478 => k_extra "wd"); (case Uz478 => k_extra "up"); (case hzz478 => k_extra "ar"); intro _ _)
  | ((with_reducible refine' ⟨_, _, _, _, _, _, rfl, ?Wz479, ?hlz479, ?hzz479, ?_⟩); (case Wz479 => k_extra "wd"); (case hlz479 => k_extra "il"); (case hzz479 => k_extra "ar"); intro _ _ _))
  k_with "tp" => (first
  | ((with_reducible refine' sTup2 ?_ ?_ ?hhz480 ?hc1z480 ?hc2z480 ?_ ?hsz480 ?hwz480 ?h1z480 ?h2z480); (case hwz480 => exact rfl); (case hhz480 => exact Rm.hd (by assumption)); (case hc1z480 => k_extra "dk"); (case hc2z480 => k_extra "dk"); (case hsz480 => exact rfl); (case h1z480 => exact rfl); (case h2z480 => exact rfl))
  | ((with_reducible refine' sTup3 ?_ ?_ ?_ ?hhz481 ?hc1z481 ?hc2z481 ?hc3z481 ?_ ?hsz481 ?hwz481 ?h1z481 ?h2z481 ?h3z481); (case hwz481 => exact rfl); (case hhz481 => exact Rm.hd (by assumption)); (case hc1z481 => k_extra "dk"); (case hc2z481 => k_extra "dk"); (case hc3z481 => k_extra "dk"); (case hsz481 => exact rfl); (case h1z481 => exact rfl); (case h2z481 => exact rfl); (case h3z481 => exact rfl))
  | ((with_reducible refine' eNil ?Wz482 ?_); (case Wz482 => k_extra "wd"); intro _ _ _)
  | ((with_reducible refine' oShl ?Wz483 ?h0z483 ?hsz483 ?_); (case Wz483 => k_extra "wd"); (case h0z483 => k_extra "ar"); (case hsz483 => k_extra "bits"); intro _ _ _)
  | ((with_reducible refine' sAppend ?Wz484 ?hxz484 ?hcz484 ?hDz484 ?_ ?hez484 ?hsz484 ?hstz484); (case Wz484 => k_extra "wd"); (case hxz484 => k_extra "lk"); (case hDz484 => k_extra "mem"); (case hcz484 => k_extra "dk"); (case hez484 => exact rfl); (case hsz484 => exact rfl); (case hstz484 => exact rfl)))
  k_with "nn" => (first
  | ((with_reducible refine' enumIter ?Wz485 ?hlz485 ?_); (case Wz485 => k_extra "wd"); (case hlz485 => k_extra "il"); intro _ _ _ _)
  | ((with_reducible refine' sSetAt ?_ ?hsz486); (case hsz486 => exact rfl))
  | ((with_reducible refine' ⟨_, _, _, _, _, _, _, _, _, _, _, rfl, rfl, rfl, ?Wz487, ?Uz487, ?hkz487, ?hzz487, ?_⟩); (case Wz487 => k_extra "wd"); (case Uz487 => k_extra "up"); (case hkz487 => k_extra "ar"); (case hzz487 => k_extra "ar"); intro _ _)
  | ((with_reducible refine' nMul ?Wz488 ?haz488 ?hbz488 ?hkz488 ?_); (case Wz488 => k_extra "wd"); (case haz488 => with_reducible assumption); (case hbz488 => with_reducible assumption); (case hkz488 => k_extra "ar"); intro _ _ _)
  | ((with_reducible refine' nItemG ?hlz489 ?hvz489 ?h1z489 ?hzz489 ?hsz489 ?_); (case hlz489 => k_extra "il"); (case hvz489 => with_reducible assumption); (case h1z489 => k_extra "ar"); (case hzz489 => k_extra "ar"); (case hsz489 => with_unfolding_all rfl); intro _)
  | ((with_reducible refine' nSub ?Wz490 ?hbz490 ?_); (case Wz490 => k_extra "wd"); (case hbz490 => k_extra "ar"); intro _ _ _)
  | ((with_reducible refine' nRep ?Wz491 ?hlz491 ?hzz491 ?_); (case Wz491 => k_extra "wd"); (case hlz491 => k_extra "il"); (case hzz491 => k_extra "ar"); intro _ _ _)
  | ((with_reducible refine' nShl ?Wz492 ?haz492 ?hkz492 ?hez492 ?_); (case Wz492 => k_extra "wd"); (case haz492 => with_reducible assumption); (case hkz492 => k_extra "ar"); (case hez492 => k_extra "ar"); intro _ _ _)
  | ((with_reducible refine' eOne ?_ ?hez493); (case hez493 => exact rfl))
  | ((with_reducible refine' ⟨_, _, _, _, _, _, rfl, ?Wz494, ?_⟩); (case Wz494 => k_extra "wd"); intro _ _ _)
  | ((with_reducible refine' iterList ?Wz495 ?hlz495 ?_); (case Wz495 => k_extra "wd"); (case hlz495 => k_extra "il"); intro _ _ _)
  | ((with_reducible refine' eBitLen ?_ ?hez496); (case hez496 => exact rfl))
  | ((with_reducible refine' nTop ?hlz497 ?hez497 ?h1z497 ?hzz497 ?hsz497 ?_); (case hlz497 => k_extra "il"); (case hez497 => k_extra "ar"); (case h1z497 => k_extra "ar"); (case hzz497 => k_extra "ar"); (case hsz497 => with_unfolding_all rfl); intro _)
  | ((with_reducible refine' oCat ?Wz498 ?haz498 ?hbz498 ?hzz498 ?_); (case Wz498 => k_extra "wd"); (case haz498 => k_extra "il"); (case hbz498 => k_extra "il"); (case hzz498 => k_extra "ar"); intro _ _ _)
  | ((with_reducible refine' oSub1 ?Wz499 ?_); (case Wz499 => k_extra "wd"); intro _ _ _)
  | ((with_reducible refine' oNeg1 ?Wz500 ?_); (case Wz500 => k_extra "wd"); intro _ _ _)
  | ((with_reducible refine' rangeIterDown ?Wz501 ?hnz501 ?_); (case Wz501 => k_extra "wd"); (case hnz501 => k_extra "ar"); intro _ _ _)
  | ((with_reducible refine' sFor ?_ ?hsz502); (case hsz502 => (intro _; exact rfl)))
  | ((with_reducible refine' rangeIter1 ?Wz503 ?hbz503 ?_); (case Wz503 => k_extra "wd"); (case hbz503 => k_extra "ar"); intro _ _ _)
  | ((with_reducible refine' rangeIter2 ?Wz504 ?haz504 ?hbz504 ?_); (case Wz504 => k_extra "wd"); (case haz504 => k_extra "ar"); (case hbz504 => k_extra "ar"); intro _ _ _)
  | ((with_reducible refine' nAdd ?Wz505 ?_); (case Wz505 => k_extra "wd"); intro _ _ _)
  | ((with_reducible refine' nAdd1 ?Wz506 ?_); (case Wz506 => k_extra "wd"); intro _ _ _)
  | ((with_reducible refine' niAdd ?Wz507 ?_); (case Wz507 => k_extra "wd"); intro _ _ _)
  | ((with_reducible refine' nShl1 ?Wz508 ?hez508 ?_); (case Wz508 => k_extra "wd"); (case hez508 => k_extra "ar"); intro _ _ _)
  | ((with_reducible refine' nShr ?Wz509 ?_); (case Wz509 => k_extra "wd"); intro _ _ _)
  | ((with_reducible refine' niShr ?Wz510 ?_); (case Wz510 => k_extra "wd"); intro _ _ _)
  | ((with_reducible refine' nAnd ?Wz511 ?_); (case Wz511 => k_extra "wd"); intro _ _ _)
  | ((with_reducible refine' nOr ?Wz512 ?haz512 ?_); (case Wz512 => k_extra "wd"); (case haz512 => k_extra "ar"); intro _ _ _)
  | ((with_reducible refine' niOr ?Wz513 ?haz513 ?_); (case Wz513 => k_extra "wd"); (case haz513 => k_extra "ar"); intro _ _ _)
  | ((with_reducible refine' nFloor ?Wz514 ?hbz514 ?hcz514 ?_); (case Wz514 => k_extra "wd"); (case hbz514 => k_extra "ar"); (case hcz514 => k_extra "ar"); intro _ _ _)
  | ((with_reducible refine' nMod ?Wz515 ?hbz515 ?_); (case Wz515 => k_extra "wd"); (case hbz515 => k_extra "ar"); intro _ _ _)
  | ((with_reducible refine' nItem ?hlz516 ?hez516 ?h1z516 ?hzz516 ?hsz516 ?_); (case hlz516 => k_extra "il"); (case hez516 => k_extra "ar"); (case h1z516 => k_extra "ar"); (case hzz516 => k_extra "ar"); (case hsz516 => with_unfolding_all rfl); intro _)
  | ((with_reducible refine' nLen ?Wz517 ?hlz517 ?hzz517 ?_); (case Wz517 => k_extra "wd"); (case hlz517 => k_extra "il"); (case hzz517 => k_extra "ar"); intro _ _ _))
  k_with "st" => (first | k_extra "ev" | k_extra "nn" | k_extra "op" | k_extra "sm" | k_extra "tp" | k_extra "cf" | k_extra "cl")
  k_with "rl" => (first | ((with_reducible refine' Wd.retL ?Wz518 ?_); (case Wz518 => k_extra "wd"); intro _ _ _) | ((with_reducible refine' Wd.retI ?Wz519 ?_); (case Wz519 => k_extra "wd"); intro _ _ _))
  k_with "rm" => (exact Rm.le (by with_reducible assumption) (by decide))
  k_with "cl" => ((with_reducible refine' normal_ok ?Rz520 ?Gz520 ?hfz520 ?haz520 ?hzz520 ?_); (case Rz520 => k_extra "rm"); (case Gz520 => k_extra "wd"); (case hfz520 => k_extra "wd"); (case haz520 => k_extra "il"); (case hzz520 => k_extra "ar"); k_extra "rl")
  k_with "cl" => ((with_reducible refine' compare_ok ?Rz521 ?Gz521 ?hfz521 ?hez521 ?hxz521 ?hyz521 ?haz521 ?hbz521 ?_); (case Rz521 => k_extra "rm"); (case Gz521 => k_extra "wd"); (case hfz521 => k_extra "wd"); (case haz521 => k_extra "il"); (case hbz521 => k_extra "il"); (case hez521 => k_extra "ar"); (case hxz521 => k_extra "ar"); (case hyz521 => k_extra "ar"); k_extra "rl")
  k_with "cl" => ((with_reducible refine' nat_of_ok ?Rz522 ?Gz522 ?hfz522 ?hez522 ?he8z522 ?hxz522 ?_); (case Rz522 => k_extra "rm"); (case Gz522 => k_extra "wd"); (case hfz522 => k_extra "wd"); (case hez522 => k_extra "ar"); (case he8z522 => k_extra "ar"); (case hxz522 => k_extra "ar"); k_extra "rl")
  k_with "cl" => ((with_reducible refine' add_ok ?Rz523 ?Gz523 ?hfz523 ?hez523 ?he8z523 ?hxz523 ?hyz523 ?haz523 ?hbz523 ?_); (case Rz523 => k_extra "rm"); (case Gz523 => k_extra "wd"); (case hfz523 => k_extra "wd"); (case haz523 => k_extra "il"); (case hbz523 => k_extra "il"); (case hez523 => k_extra "ar"); (case he8z523 => k_extra "ar"); (case hxz523 => k_extra "ar"); (case hyz523 => k_extra "ar"); k_extra "rl")
  k_with "cl" => ((with_reducible refine' sub_ok ?Rz524 ?Gz524 ?hfz524 ?hez524 ?he8z524 ?hxz524 ?hyz524 ?haz524 ?hbz524 ?_); (case Rz524 => k_extra "rm"); (case Gz524 => k_extra "wd"); (case hfz524 => k_extra "wd"); (case haz524 => k_extra "il"); (case hbz524 => k_extra "il"); (case hez524 => k_extra "ar"); (case he8z524 => k_extra "ar"); (case hxz524 => k_extra "ar"); (case hyz524 => k_extra "ar"); k_extra "rl")
  k_with "cl" => ((with_reducible refine' shift_left_ok ?Rz525 ?Gz525 ?hfz525 ?hez525 ?he8z525 ?hxz525 ?hnz525 ?haz525 ?_); (case Rz525 => k_extra "rm"); (case Gz525 => k_extra "wd"); (case hfz525 => k_extra "wd"); (case haz525 => k_extra "il"); (case hez525 => k_extra "ar"); (case he8z525 => k_extra "ar"); (case hxz525 => k_extra "ar"); (case hnz525 => k_extra "ar"); k_extra "rl")
  k_with "cl" => ((with_reducible refine' shift_right_ok ?Rz526 ?Gz526 ?hfz526 ?hez526 ?he8z526 ?hxz526 ?hnz526 ?haz526 ?_); (case Rz526 => k_extra "rm"); (case Gz526 => k_extra "wd"); (case hfz526 => k_extra "wd"); (case haz526 => k_extra "il"); (case hez526 => k_extra "ar"); (case he8z526 => k_extra "ar"); (case hxz526 => k_extra "ar"); (case hnz526 => k_extra "ar"); k_extra "rl")
  k_with "cl" => ((with_reducible refine' bits_ok ?Rz527 ?Gz527 ?hfz527 ?hez527 ?he8z527 ?hxz527 ?haz527 ?_); (case Rz527 => k_extra "rm"); (case Gz527 => k_extra "wd"); (case hfz527 => k_extra "wd"); (case haz527 => k_extra "il"); (case hez527 => k_extra "ar"); (case he8z527 => k_extra "ar"); (case hxz527 => k_extra "ar"); k_extra "rl")
  k_with "cl" => ((with_reducible refine' low_ok ?Rz528 ?Gz528 ?hfz528 ?hez528 ?he8z528 ?hxz528 ?hnz528 ?haz528 ?_); (case Rz528 => k_extra "rm"); (case Gz528 => k_extra "wd"); (case hfz528 => k_extra "wd"); (case haz528 => k_extra "il"); (case hez528 => k_extra "ar"); (case he8z528 => k_extra "ar"); (case hxz528 => k_extra "ar"); (case hnz528 => k_extra "ar"); k_extra "rl")
  k_with "cl" => ((with_reducible refine' ring_one_ok ?Rz529 ?Gz529 ?hfz529 ?hez529 ?he8z529 ?hnz529 ?_); (case Rz529 => k_extra "rm"); (case Gz529 => k_extra "wd"); (case hfz529 => k_extra "wd"); (case hez529 => k_extra "ar"); (case he8z529 => k_extra "ar"); (case hnz529 => k_extra "ar"); k_extra "rl")
  k_with "cl" => ((with_reducible refine' ring_add_ok ?Rz530 ?Gz530 ?hfz530 ?hez530 ?he8z530 ?hnz530 ?hxz530 ?hyz530 ?haz530 ?hbz530 ?_); (case Rz530 => k_extra "rm"); (case Gz530 => k_extra "wd"); (case hfz530 => k_extra "wd"); (case haz530 => k_extra "il"); (case hbz530 => k_extra "il"); (case hez530 => k_extra "ar"); (case he8z530 => k_extra "ar"); (case hnz530 => k_extra "ar"); (case hxz530 => k_extra "ar"); (case hyz530 => k_extra "ar"); k_extra "rl")
  k_with "cl" => ((with_reducible refine' ring_sub_ok ?Rz531 ?Gz531 ?hfz531 ?hez531 ?he8z531 ?hnz531 ?hxz531 ?hyz531 ?haz531 ?hbz531 ?_); (case Rz531 => k_extra "rm"); (case Gz531 => k_extra "wd"); (case hfz531 => k_extra "wd"); (case haz531 => k_extra "il"); (case hbz531 => k_extra "il"); (case hez531 => k_extra "ar"); (case he8z531 => k_extra "ar"); (case hnz531 => k_extra "ar"); (case hxz531 => k_extra "ar"); (case hyz531 => k_extra "ar"); k_extra "rl")
  k_with "cl" => ((with_reducible refine' ring_neg_ok ?Rz532 ?Gz532 ?hfz532 ?hez532 ?he8z532 ?hnz532 ?hxz532 ?haz532 ?_); (case Rz532 => k_extra "rm"); (case Gz532 => k_extra "wd"); (case hfz532 => k_extra "wd"); (case haz532 => k_extra "il"); (case hez532 => k_extra "ar"); (case he8z532 => k_extra "ar"); (case hnz532 => k_extra "ar"); (case hxz532 => k_extra "ar"); k_extra "rl")
  k_with "cl" => ((with_reducible refine' need_ring_ok ?Rz533 ?Gz533 ?hfz533 ?hnz533 ?_); (case Rz533 => k_extra "rm"); (case Gz533 => k_extra "wd"); (case hfz533 => k_extra "wd"); (case hnz533 => k_extra "ar"); ((with_reducible refine' Wd.retN ?Wz534 ?_); (case Wz534 => k_extra "wd"); intro _ _; refine ⟨rfl, ?_⟩))
  k_with "cl" => ((with_reducible refine' sExprN ?hkz535 ?_ ?hsz535); (case hkz535 => exact rfl); (case hsz535 => exact rfl))
  k_with "cl" => (with_reducible refine not_of ?_)
  k_with "cl" => ((with_reducible refine' ring_fold_ok ?Rz536 ?Gz536 ?hfz536 ?hez536 ?he8z536 ?hn1z536 ?hnz536 ?hxz536 ?haz536 ?_); (case Rz536 => k_extra "rm"); (case Gz536 => k_extra "wd"); (case hfz536 => k_extra "wd"); (case haz536 => k_extra "il"); (case hez536 => k_extra "ar"); (case he8z536 => k_extra "ar"); (case hn1z536 => k_extra "ar"); (case hnz536 => k_extra "ar"); (case hxz536 => k_extra "ar"); k_extra "rl")
  trivial
section
section
variable {prog : Program} {w : World} {A : Around} {E : Value → Shared → Prop} {s₀ s : Shared} {L f : Addr} {m mg : Str → Option Value} {own : List (Addr × Ow)} {nm : Str} {sc : Scope} {cd : Value}
  {p : Program} {names free : List Str} {env : Env} {Q : Value → Shared → Prop} {t u : Tok}
/-- an item of a list that is owned as it stands -/
theorem obItem {value slice : Expr} {a : Addr} {items : Array Value} {n : Nat} {k : Int} {u : Tok} {v : Value} (W : Wd s₀ L s m own) (hm : (a, Ow.ob (listOf items n)) ∈ own) (h0 : 0 ≤ k) (hk : k < 1000000) (hx : items[k.toNat]? = some v)
    (hs : subscripted slice false (.ref a) (.int k u) = operate [.ref a, .int k u] (getItem (.ref a) (.int k u))) (h : Q v s) :
    wpAny (model prog w) A (subscriptTail value slice (.ref a) (.int k u)) Q E s := by
  have hl := PySem.IsL.isList (W.obj hm)
  exact tail_any hl.typeIs slot_list_getitem.lookup (wpAny_getItem_list hl h0 (by omega) hx h) hs
theorem obItem0 {value slice : Expr} {a : Addr} {x y : Value} {n : Nat} {u : Tok} (W : Wd s₀ L s m own) (hm : (a, Ow.ob (listOf #[x, y] n)) ∈ own)
    (hs : subscripted slice false (.ref a) (.int 0 u) = operate [.ref a, .int 0 u] (getItem (.ref a) (.int 0 u))) (h : Q x s) : wpAny (model prog w) A (subscriptTail value slice (.ref a) (.int 0 u)) Q E s := obItem W hm (by decide) (by decide) rfl hs h
theorem obItem1 {value slice : Expr} {a : Addr} {x y : Value} {n : Nat} {u : Tok} (W : Wd s₀ L s m own) (hm : (a, Ow.ob (listOf #[x, y] n)) ∈ own)
    (hs : subscripted slice false (.ref a) (.int 1 u) = operate [.ref a, .int 1 u] (getItem (.ref a) (.int 1 u))) (h : Q y s) : wpAny (model prog w) A (subscriptTail value slice (.ref a) (.int 1 u)) Q E s := obItem W hm (by decide) (by decide) rfl hs h
theorem setObAt {D : Addr} {items : Array Value} {n k : Nat} {v : Value} {u : Tok} {own' : List (Addr × Ow)} {Q : Unit → Shared → Prop} (W : Wd s₀ L s m own) (U : Up D (.ob (listOf items n)) (.ob (listOf (items.setIfInBounds k v) n)) own own') (hk : k < items.size) (hz : items.size ≤ 16777216)
    (h : ∀ s', Wd s₀ L s' m own' → Q () s') : wpAny (model prog w) A (setItem (.ref D) (.int (k : Nat) u) v) Q E s := by
  have e := W.obj U.mem
  refine ki_setAt e (by omega) (by omega) (by omega) (h _ (W.turnAt U (Heap.SameBut.update ..) ?_))
  have := IsL.update (h := s.heap) (l := D) (items := items) (n := n) e (fun a => a.setIfInBounds ((k : Nat) : Int).toNat v)
  rw [Array.size_setIfInBounds, beq_self_eq_true, if_pos rfl] at this
  exact this
theorem sSetOb {o ie value : Expr} {p' pos : Pos} {rest : List Stmt} {Q : Flow → Shared → Prop}
    (h : wpAny (model prog w) A (eval value env) (fun v s₁ => wpAny (model prog w) A (eval o env) (fun ov s₂ => wpAny (model prog w) A (eval ie env) (fun iv s₃ =>
      ∃ s₀ L D m own own' items n u, ov = .ref D ∧ iv = .int 0 u ∧ Wd s₀ L s₃ m own ∧ Up D (.ob (listOf items n)) (.ob (listOf (items.setIfInBounds 0 v) n)) own own' ∧ 0 < items.size ∧ items.size ≤ 16777216 ∧ ∀ s', Wd s₀ L s' m own' → wpAny (model prog w) A (execs rest env) Q E s') E s₂) E s₁) E s)
    (hs : swapsWith value (some (.Subscript o ie p')) pos.line env = pure false) :
    wpAny (model prog w) A (execs (.Assign [.Subscript o ie p'] value pos :: rest) env) Q E s := by
  refine wpAny_execs_cons (wpAny_Assign_Subscript (wpAny_mono h (fun v s₁ h₁ => wpAny_mono h₁ (fun ov s₂ h₂ => wpAny_mono h₂ (fun iv s₃ h₃ => ?_) fun _ _ e => e) fun _ _ e => e) fun _ _ e => e) hs)
  obtain ⟨s₀, L, D, m, own, own', items, n, u, rfl, rfl, W, U, hk, hz, q⟩ := h₃
  exact setObAt (k := 0) W U hk hz q
theorem n7 {a : Nat} (W : Wd s₀ L s m own) (ha : a ≤ 1000000) (h : ∀ s' t, Wd s₀ L s' m own → Q (.int ((7 * a : Nat) : Int) t) s') : wpAny (model prog w) A (binaryOp .Mult (.int 7 t) (.int (a : Nat) u)) Q E s :=
  oMul W (mul_small (by decide) (by omega)) fun s' t W => h s' t W
theorem nFloor4 {a : Nat} (W : Wd s₀ L s m own) (h : ∀ s' t, Wd s₀ L s' m own → Q (.int ((a / 4 : Nat) : Int) t) s') : wpAny (model prog w) A (binaryOp .FloorDiv (.int (a : Nat) t) (.int 4 u)) Q E s :=
  nFloor (b := 4) W (by decide) (by decide) h
theorem nAdd6 {a : Nat} (W : Wd s₀ L s m own) (h : ∀ s' t, Wd s₀ L s' m own → Q (.int ((a + 6 : Nat) : Int) t) s') : wpAny (model prog w) A (binaryOp .Add (.int (a : Nat) t) (.int 6 u)) Q E s := oAdd W h
/-- one thing of the base taken into the ledger -/
theorem Wd.hide {s' : Shared} {d : Addr} {o : Obj} (W : Wd s L s' m []) (hd : s.heap.get? d = some o) : Wd { s with heap := s.heap.hide d } L s' m [(d, .ob o)] := by
  have hlt := Heap.lt_size hd
  refine ⟨⟨W.fr.ns, fun b o e => W.keep b o (Heap.of_hide e), ?_⟩, fun p hp => ?_, ?_, ⟨W.rest.gens, W.rest.drawn, W.rest.os⟩⟩
  · show (s.heap.hide d).objs.size ≤ L
    rw [Heap.hide_size]; exact W.fr.above
  · rcases List.mem_cons.mp hp with rfl | hp
    · exact ⟨W.keep _ _ hd, Nat.ne_of_lt (Nat.lt_of_lt_of_le hlt W.fr.above), Heap.hide_self _ _⟩
    · cases hp
  · simp
end
theorem words16 : True := by
  k_with "cl" => ((with_reducible refine' n7 ?Wz537 ?haz537 ?_); (case Wz537 => k_extra "wd"); (case haz537 => k_extra "ar"); intro _ _ _)
  k_with "cl" => ((with_reducible refine' nFloor4 ?Wz538 ?_); (case Wz538 => k_extra "wd"); intro _ _ _)
  k_with "cl" => ((with_reducible refine' nAdd6 ?Wz539 ?_); (case Wz539 => k_extra "wd"); intro _ _ _)
  k_with "cl" => ((with_reducible refine' obItem0 ?Wz540 ?hmz540 ?hsz540 ?_); (case Wz540 => k_extra "wd"); (case hmz540 => k_extra "mem"); (case hsz540 => with_unfolding_all rfl))
  k_with "cl" => ((with_reducible refine' obItem1 ?Wz541 ?hmz541 ?hsz541 ?_); (case Wz541 => k_extra "wd"); (case hmz541 => k_extra "mem"); (case hsz541 => with_unfolding_all rfl))
  trivial
noncomputable def d_law_turned : {d : FD // fdOf pw (Str.ofString "_law_turned") = some d} := ⟨_, rfl⟩
noncomputable def turned (ns : List Int) (c many : Nat) : Nat := if c ≤ ns.length then (ns.getD (c - 1) 0 % (many : Int)).toNat else (7 * c + c / 4 + 6) % many
theorem turned_lt {ns : List Int} {c many : Nat} (h : 0 < many) : turned ns c many < many := by
  unfold turned
  split
  · have := Int.emod_lt_of_pos (ns.getD (c - 1) 0) (show (0 : Int) < (many : Int) by omega)
    have := Int.emod_nonneg (ns.getD (c - 1) 0) (show (many : Int) ≠ 0 by omega)
    omega
  · exact Nat.mod_lt _ h
section
variable {prog : Program} {w : World} {A : Around} {E : Value → Shared → Prop} {s₀ s : Shared} {L f : Addr} {m mg : Str → Option Value} {own : List (Addr × Ow)} {nm : Str} {sc : Scope} {cd : Value}
  {p : Program} {names free : List Str} {env : Env} {Q : Value → Shared → Prop} {t u : Tok}
theorem law_turned_ok {b : Shared} {d l : Addr} {c many n : Nat} {ns : List Int} {tc tm : Tok} (R : Rm A 1) (kb : Kp b.heap s.heap) (nb : b.heap.get? d = none) (G : GD mg b.heap) (hf : FnAt mg b.heap (Str.ofString "_law_turned") d_law_turned.1 f)
    (hd : s.heap.get? d = some (listOf #[.int (c : Nat) tc, .ref l] n)) (hl : IL s.heap l ns) (hdl : l ≠ d) (hns : ns.length ≤ 1000) (hc : c ≤ 1000) (hm : 0 < many)
    (h : ∀ t' t2 s', (∀ b o, b ≠ d → s.heap.get? b = some o → s'.heap.get? b = some o) → s'.heap.get? d = some (listOf #[.int (c + 1 : Nat) t2, .ref l] n) → Rest s s' → Q (.int ((turned ns (c + 1) many : Nat) : Int) t') s') :
    wpAny (model prog w) A (call (.ref f) [.ref d, .int (many : Nat) tm]) Q E s := by
  refine enterU [Str.ofString "dial", Str.ofString "many"] R (G.kp kb) (hf.kp kb) (by intro _ _ _; rfl) (by decide +kernel) (by decide +kernel) ?_
  intro L cd s' W
  dsimp only [List.foldl, List.zip, List.zipWith] at W
  have R' := R.deeper (envOf (Str.ofString "_law_turned") d_law_turned.1.2.2 L f cd)
  have kh : Kp b.heap (s.heap.hide d) := fun x o e => by
    rw [Heap.hide_ne]
    · exact kb x o e
    · rintro rfl; rw [nb] at e; cases e
  have G' : GD mg { s with heap := s.heap.hide d }.heap := G.kp kh
  have hl' : IL { s with heap := s.heap.hide d }.heap l ns := hl.at fun o e => by show (s.heap.hide d).get? l = _; rw [Heap.hide_ne _ hdl]; exact e
  have W := W.hide hd
  have back : ∀ {v : Nat} {t' : Tok} {s' : Shared} {m own t2}, Wd { s with heap := s.heap.hide d } L s' m own → (d, Ow.ob (listOf #[.int (c + 1 : Nat) t2, .ref l] n)) ∈ own → v = turned ns (c + 1) many → Q (.int (v : Int) t') s' := by
    intro v t' s' m own t2 W hm e
    subst e
    refine h _ t2 s' (fun x o hx e => W.keep x o ?_) (W.obj hm) ⟨W.rest.gens, W.rest.drawn, W.rest.os⟩
    show (s.heap.hide d).get? x = _
    rw [Heap.hide_ne _ hx]; exact e
  refine sSetOb ?_ rfl
  repeat k_extra "st"
  refine ⟨_, _, _, _, _, _, _, _, _, rfl, rfl, by k_extra "wd", .head, by show 0 < 2; decide, by show 2 ≤ _; decide, fun s W => ?_⟩
  replace W := W.as (own' := [(d, .ob (listOf #[.int (c + 1 : Nat) _, .ref l] n))]) rfl
  repeat k_extra "st"
  refine iteD (fun h1 => ?_) (fun h1 => ?_)
  · have h1' : c + 1 ≤ ns.length := by omega
    repeat k_extra "st"
    show Q (.int ((ns.getD (((c + 1 : Nat) : Int) - 1).toNat 0).fmod (many : Int)) _) _
    rw [show (ns.getD (((c + 1 : Nat) : Int) - 1).toNat 0).fmod (many : Int) = ((turned ns (c + 1) many : Nat) : Int) by
      unfold turned
      rw [if_pos h1', Int.fmod_eq_emod_of_nonneg _ (by omega), show (((c + 1 : Nat) : Int) - 1).toNat = c + 1 - 1 by omega, Int.toNat_of_nonneg (Int.emod_nonneg _ (by omega))]]
    exact back (by k_extra "wd") (by k_extra "mem") rfl
  · have h1' : ¬ c + 1 ≤ ns.length := by omega
    repeat k_extra "st"
    refine back (by k_extra "wd") (by k_extra "mem") ?_
    unfold turned
    rw [if_neg h1']
end
end
-- SjM
theorem words17 : True := by
  k_with_none
  k_with "lk" => (first | with_reducible exact upd_eq | with_reducible assumption | ((with_reducible refine upd_ne ?_ (by decide +kernel)); k_extra "lk"))
  k_with "wd" => (with_reducible assumption)
  k_with "dk" => (decide +kernel)
  k_with "mem" => (first | with_reducible assumption | with_reducible exact List.mem_cons_self | ((with_reducible refine List.mem_cons_of_mem _ ?_); k_extra "mem"))
  k_with "il" => (first | with_reducible assumption | ((with_reducible refine' Wd.il ?Wz542 ?hz542); (case Wz542 => k_extra "wd"); (case hz542 => with_reducible assumption)) | ((with_reducible refine' Wd.mem ?Wz543 ?hz543); (case Wz543 => k_extra "wd"); (case hz543 => k_extra "mem")) | ((with_reducible refine' Wd.held ?Wz544 ?hz544); (case Wz544 => k_extra "wd"); (case hz544 => k_extra "hd")) | ((with_reducible refine' il_one ?hez545 ?hz545); (case hez545 => k_extra "ar"); (case hz545 => k_extra "il1")))
  k_with "il1" => ((with_reducible refine' Wd.mem ?Wz546 ?hz546); (case Wz546 => k_extra "wd"); (case hz546 => k_extra "mem"))
  k_with "hd" => (first | with_reducible assumption | with_reducible exact Held.head | ((with_reducible refine Held.cons ?_); k_extra "hd"))
  k_with "bb" => (first | exact bb_len | exact bb_abs)
  k_with "bt" => (first | exact bb_range | exact bb_enumerate | exact bb_int)
  k_with "nx" => (intro _ _; intro _)
  k_with "ar" => (first | with_reducible assumption | with_reducible exact Int.natCast_nonneg _ | omega | decide | (simp only [dg_len, lm_len, List.length_take, List.length_append, List.length_cons, List.length_nil, List.length_replicate] at *; omega))
  k_with "up" => (first | with_reducible exact Up.head | with_reducible exact Up.tail Up.head | with_reducible exact Up.tail (Up.tail Up.head) | with_reducible exact Up.tail (Up.tail (Up.tail Up.head)) | with_reducible exact Up.tail (Up.tail (Up.tail (Up.tail Up.head))))
  k_with "bits" => (first | (have hB := bits_one; omega) | omega)
  k_with "ev" => (first
  | ((with_reducible refine' eName ?Wz547 ?hvz547 ?hcz547 ?_); (case Wz547 => k_extra "wd"); (case hvz547 => k_extra "lk"); (case hcz547 => k_extra "dk"))
  | ((with_reducible refine' eInt ?Wz548 ?_); (case Wz548 => k_extra "wd"); intro _ _ _)
  | with_reducible refine Constant_bool ?_
  | with_reducible refine' wpAny_BinOp ?_
  | ((with_reducible refine' wpAny_Compare1 ?_ ?hmz550); (case hmz550 => exact rfl))
  | with_reducible refine' UnaryOp_ ?_
  | ((with_reducible refine' eSliceTo ?_ ?htz552); (case htz552 => (intro _ _; exact rfl)))
  | ((with_reducible refine' eSliceAll ?_ ?htz553); (case htz553 => (intro _ _; exact rfl)))
  | with_reducible refine' Subscript_ ?_
  | ((with_reducible refine' eCallB ?Gz555 ?Wz555 ?hfz555 ?hvz555 ?hnz555 ?hcz555 ?_ ?hez555 ?hstz555 ?hpz555); (case Wz555 => k_extra "wd"); (case Gz555 => k_extra "wd"); (case hfz555 => k_extra "dk"); (case hvz555 => k_extra "bb"); (case hnz555 => k_extra "dk"); (case hcz555 => k_extra "dk"); (case hez555 => exact rfl); (case hstz555 => exact rfl); (case hpz555 => exact rfl))
  | ((with_reducible refine' eCallT ?Gz556 ?Wz556 ?hfz556 ?hvz556 ?hnz556 ?hcz556 ?_ ?hez556 ?hstz556 ?hpz556); (case Wz556 => k_extra "wd"); (case Gz556 => k_extra "wd"); (case hfz556 => k_extra "dk"); (case hvz556 => k_extra "bt"); (case hnz556 => k_extra "dk"); (case hcz556 => k_extra "dk"); (case hez556 => exact rfl); (case hstz556 => exact rfl); (case hpz556 => exact rfl)))
  k_with "op" => (first
  | ((with_reducible refine' oAdd ?Wz557 ?_); (case Wz557 => k_extra "wd"); intro _ _ _)
  | ((with_reducible refine' oSub ?Wz558 ?_); (case Wz558 => k_extra "wd"); intro _ _ _)
  | ((with_reducible refine' oAnd ?Wz559 ?_); (case Wz559 => k_extra "wd"); intro _ _ _)
  | ((with_reducible refine' oOr ?Wz560 ?_); (case Wz560 => k_extra "wd"); intro _ _ _)
  | ((with_reducible refine' iAdd ?Wz561 ?_); (case Wz561 => k_extra "wd"); intro _ _ _)
  | ((with_reducible refine' iSub ?Wz562 ?_); (case Wz562 => k_extra "wd"); intro _ _ _)
  | ((with_reducible refine' iOr ?Wz563 ?_); (case Wz563 => k_extra "wd"); intro _ _ _)
  | ((with_reducible refine' oNeg ?Wz564 ?_); (case Wz564 => k_extra "wd"); intro _ _ _)
  | ((with_reducible refine' oShr ?Wz565 ?h0z565 ?_); (case Wz565 => k_extra "wd"); (case h0z565 => k_extra "ar"); intro _ _ _)
  | ((with_reducible refine' iShr ?Wz566 ?h0z566 ?_); (case Wz566 => k_extra "wd"); (case h0z566 => k_extra "ar"); intro _ _ _)
  | ((with_reducible refine' oMod ?Wz567 ?h0z567 ?_); (case Wz567 => k_extra "wd"); (case h0z567 => k_extra "ar"); intro _ _ _)
  | with_reducible refine' cLt ?_ | with_reducible refine' cGt ?_ | with_reducible refine' cGe ?_ | with_reducible refine' cLe ?_ | with_reducible refine' cEq ?_ | with_reducible refine' cNe ?_
  | with_reducible refine wpAny_truthy_bool ?_
  | ((with_reducible refine' callLen ?Wz574 ?hlz574 ?hzz574 ?_); (case Wz574 => k_extra "wd"); (case hlz574 => k_extra "il"); (case hzz574 => k_extra "ar"); intro _ _ _)
  | ((with_reducible refine' xItem ?hlz575 ?h0z575 ?h1z575 ?hzz575 ?hsz575 ?_); (case hlz575 => k_extra "il"); (case h0z575 => k_extra "ar"); (case h1z575 => k_extra "ar"); (case hzz575 => k_extra "ar"); (case hsz575 => with_unfolding_all rfl); intro _))
  k_with "cf" => (first
  | ((with_reducible refine' eCallF ?Gz576 ?Wz576 ?hgz576 ?hcz576 ?_ ?hez576 ?hstz576); (case Wz576 => k_extra "wd"); (case Gz576 => k_extra "wd"); (case hgz576 => k_extra "wd"); (case hcz576 => k_extra "dk"); (case hez576 => exact rfl); (case hstz576 => exact rfl))
  | ((with_reducible refine' ⟨_, _, ?Wz577, ?_⟩); (case Wz577 => k_extra "wd"); intro _ _))
  k_with "sm" => (first
  | ((with_reducible refine' args_cons ?_ ?hez578); (case hez578 => exact rfl))
  | with_reducible refine args_nil ?_
  | ((with_reducible refine' sSet ?hcz579 ?_ ?hsz579); (case hcz579 => k_extra "dk"); (case hsz579 => exact rfl))
  | ((with_reducible refine' sAug ?Wz580 ?hvz580 ?hcz580 ?_); (case Wz580 => k_extra "wd"); (case hvz580 => k_extra "lk"); (case hcz580 => k_extra "dk"))
  | with_reducible refine sIf ?_
  | with_reducible refine iteT ?_ | with_reducible refine iteF ?_
  | with_reducible refine sRet ?_
  | with_reducible refine sSkip ?_
  | ((with_reducible refine' wpAny_isTrue_Compare1 ?_ ?hmz581); (case hmz581 => exact rfl))
  | with_reducible refine isTrue_and_nil ?_ | with_reducible refine isTrue_or_nil ?_
  | with_reducible refine isTrue_and ?_ | with_reducible refine isTrue_or ?_ | with_reducible refine isTrue_not ?_ | with_reducible refine isTrue_IfExp ?_
  | ((with_reducible refine' isTrue_plain ?_ ?hez582); (case hez582 => exact rfl))
  | ((with_reducible refine ⟨_, _, _, (by k_extra "wd"), ?_⟩); intro _ _)
  | ((with_reducible refine' ⟨_, _, _, _, _, _, _, _, rfl, rfl, ?Wz583, ?hlz583, ?h0z583, ?hzz583, ?_⟩); (case Wz583 => k_extra "wd"); (case hlz583 => k_extra "il"); (case h0z583 => k_extra "ar"); (case hzz583 => k_extra "ar"); intro _ _ _)
  | ((with_reducible refine' ⟨_, _, _, _, _, _, rfl, ?Wz584, ?Uz584, ?hzz584, ?_⟩); (case Wz584 => k_extra "wd"); (case Uz584 => k_extra "up"); (case hzz584 => k_extra "ar"); intro _ _)
  | ((with_reducible refine' ⟨_, _, _, _, _, _, rfl, ?Wz585, ?hlz585, ?hzz585, ?_⟩); (case Wz585 => k_extra "wd"); (case hlz585 => k_extra "il"); (case hzz585 => k_extra "ar"); intro _ _ _))
  k_with "tp" => (first
  | ((with_reducible refine' sTup2 ?_ ?_ ?hhz586 ?hc1z586 ?hc2z586 ?_ ?hsz586 ?hwz586 ?h1z586 ?h2z586); (case hwz586 => exact rfl); (case hhz586 => exact Rm.hd (by assumption)); (case hc1z586 => k_extra "dk"); (case hc2z586 => k_extra "dk"); (case hsz586 => exact rfl); (case h1z586 => exact rfl); (case h2z586 => exact rfl))
  | ((with_reducible refine' sTup3 ?_ ?_ ?_ ?hhz587 ?hc1z587 ?hc2z587 ?hc3z587 ?_ ?hsz587 ?hwz587 ?h1z587 ?h2z587 ?h3z587); (case hwz587 => exact rfl); (case hhz587 => exact Rm.hd (by assumption)); (case hc1z587 => k_extra "dk"); (case hc2z587 => k_extra "dk"); (case hc3z587 => k_extra "dk"); (case hsz587 => exact rfl); (case h1z587 => exact rfl); (case h2z587 => exact rfl); (case h3z587 => exact rfl))
  | ((with_reducible refine' eNil ?Wz588 ?_); (case Wz588 => k_extra "wd"); intro _ _ _)
  | ((with_reducible refine' oShl ?Wz589 ?h0z589 ?hsz589 ?_); (case Wz589 => k_extra "wd"); (case h0z589 => k_extra "ar"); (case hsz589 => k_extra "bits"); intro _ _ _)
  | ((with_reducible refine' sAppend ?Wz590 ?hxz590 ?hcz590 ?hDz590 ?_ ?hez590 ?hsz590 ?hstz590); (case Wz590 => k_extra "wd"); (case hxz590 => k_extra "lk"); (case hDz590 => k_extra "mem"); (case hcz590 => k_extra "dk"); (case hez590 => exact rfl); (case hsz590 => exact rfl); (case hstz590 => exact rfl)))
  k_with "nn" => (first
  | ((with_reducible refine' enumIter ?Wz591 ?hlz591 ?_); (case Wz591 => k_extra "wd"); (case hlz591 => k_extra "il"); intro _ _ _ _)
  | ((with_reducible refine' sSetAt ?_ ?hsz592); (case hsz592 => exact rfl))
  | ((with_reducible refine' ⟨_, _, _, _, _, _, _, _, _, _, _, rfl, rfl, rfl, ?Wz593, ?Uz593, ?hkz593, ?hzz593, ?_⟩); (case Wz593 => k_extra "wd"); (case Uz593 => k_extra "up"); (case hkz593 => k_extra "ar"); (case hzz593 => k_extra "ar"); intro _ _)
  | ((with_reducible refine' nMul ?Wz594 ?haz594 ?hbz594 ?hkz594 ?_); (case Wz594 => k_extra "wd"); (case haz594 => with_reducible assumption); (case hbz594 => with_reducible assumption); (case hkz594 => k_extra "ar"); intro _ _ _)
  | ((with_reducible refine' nItemG ?hlz595 ?hvz595 ?h1z595 ?hzz595 ?hsz595 ?_); (case hlz595 => k_extra "il"); (case hvz595 => with_reducible assumption); (case h1z595 => k_extra "ar"); (case hzz595 => k_extra "ar"); (case hsz595 => with_unfolding_all rfl); intro _)
  | ((with_reducible refine' nSub ?Wz596 ?hbz596 ?_); (case Wz596 => k_extra "wd"); (case hbz596 => k_extra "ar"); intro _ _ _)
  | ((with_reducible refine' nRep ?Wz597 ?hlz597 ?hzz597 ?_); (case Wz597 => k_extra "wd"); (case hlz597 => k_extra "il"); (case hzz597 => k_extra "ar"); intro _ _ _)
  | ((with_reducible refine' nShl ?Wz598 ?haz598 ?hkz598 ?hez598 ?_); (case Wz598 => k_extra "wd"); (case haz598 => with_reducible assumption); (case hkz598 => k_extra "ar"); (case hez598 => k_extra "ar"); intro _ _ _)
  | ((with_reducible refine' eOne ?_ ?hez599); (case hez599 => exact rfl))
  | ((with_reducible refine' ⟨_, _, _, _, _, _, rfl, ?Wz600, ?_⟩); (case Wz600 => k_extra "wd"); intro _ _ _)
  | ((with_reducible refine' iterList ?Wz601 ?hlz601 ?_); (case Wz601 => k_extra "wd"); (case hlz601 => k_extra "il"); intro _ _ _)
  | ((with_reducible refine' eBitLen ?_ ?hez602); (case hez602 => exact rfl))
  | ((with_reducible refine' nTop ?hlz603 ?hez603 ?h1z603 ?hzz603 ?hsz603 ?_); (case hlz603 => k_extra "il"); (case hez603 => k_extra "ar"); (case h1z603 => k_extra "ar"); (case hzz603 => k_extra "ar"); (case hsz603 => with_unfolding_all rfl); intro _)
  | ((with_reducible refine' oCat ?Wz604 ?haz604 ?hbz604 ?hzz604 ?_); (case Wz604 => k_extra "wd"); (case haz604 => k_extra "il"); (case hbz604 => k_extra "il"); (case hzz604 => k_extra "ar"); intro _ _ _)
  | ((with_reducible refine' oSub1 ?Wz605 ?_); (case Wz605 => k_extra "wd"); intro _ _ _)
  | ((with_reducible refine' oNeg1 ?Wz606 ?_); (case Wz606 => k_extra "wd"); intro _ _ _)
  | ((with_reducible refine' rangeIterDown ?Wz607 ?hnz607 ?_); (case Wz607 => k_extra "wd"); (case hnz607 => k_extra "ar"); intro _ _ _)
  | ((with_reducible refine' sFor ?_ ?hsz608); (case hsz608 => (intro _; exact rfl)))
  | ((with_reducible refine' rangeIter1 ?Wz609 ?hbz609 ?_); (case Wz609 => k_extra "wd"); (case hbz609 => k_extra "ar"); intro _ _ _)
  | ((with_reducible refine' rangeIter2 ?Wz610 ?haz610 ?hbz610 ?_); (case Wz610 => k_extra "wd"); (case haz610 => k_extra "ar"); (case hbz610 => k_extra "ar"); intro _ _ _)
  | ((with_reducible refine' nAdd ?Wz611 ?_); (case Wz611 => k_extra "wd"); intro _ _ _)
  | ((with_reducible refine' nAdd1 ?Wz612 ?_); (case Wz612 => k_extra "wd"); intro _ _ _)
  | ((with_reducible refine' niAdd ?Wz613 ?_); (case Wz613 => k_extra "wd"); intro _ _ _)
  | ((with_reducible refine' nShl1 ?Wz614 ?hez614 ?_); (case Wz614 => k_extra "wd"); (case hez614 => k_extra "ar"); intro _ _ _)
  | ((with_reducible refine' nShr ?Wz615 ?_); (case Wz615 => k_extra "wd"); intro _ _ _)
  | ((with_reducible refine' niShr ?Wz616 ?_); (case Wz616 => k_extra "wd"); intro _ _ _)
  | ((with_reducible refine' nAnd ?Wz617 ?_); (case Wz617 => k_extra "wd"); intro _ _ _)
  | ((with_reducible refine' nOr ?Wz618 ?haz618 ?_); (case Wz618 => k_extra "wd"); (case haz618 => k_extra "ar"); intro _ _ _)
  | ((with_reducible refine' niOr ?Wz619 ?haz619 ?_); (case Wz619 => k_extra "wd"); (case haz619 => k_extra "ar"); intro _ _ _)
  | ((with_reducible refine' nFloor ?Wz620 ?hbz620 ?hcz620 ?_); (case Wz620 => k_extra "wd"); (case hbz620 => k_extra "ar"); (case hcz620 => k_extra "ar"); intro _ _ _)
  | ((with_reducible refine' nMod ?Wz621 ?hbz621 ?_); (case Wz621 => k_extra "wd"); (case hbz621 => k_extra "ar"); intro _ _ _)
  | ((with_reducible refine' nItem ?hlz622 ?hez622 ?h1z622 ?hzz622 ?hsz622 ?_); (case hlz622 => k_extra "il"); (case hez622 => k_extra "ar"); (case h1z622 => k_extra "ar"); (case hzz622 => k_extra "ar"); (case hsz622 => with_unfolding_all rfl); intro _)
  | ((with_reducible refine' nLen ?Wz623 ?hlz623 ?hzz623 ?_); (case Wz623 => k_extra "wd"); (case hlz623 => k_extra "il"); (case hzz623 => k_extra "ar"); intro _ _ _))
  k_with "st" => (first | k_extra "ev" | k_extra "nn" | k_extra "op" | k_extra "sm" | k_extra "tp" | k_extra "cf" | k_extra "cl")
  k_with "rl" => (first | ((with_reducible refine' Wd.retL ?Wz624 ?_); (case Wz624 => k_extra "wd"); intro _ _ _) | ((with_reducible refine' Wd.retI ?Wz625 ?_); (case Wz625 => k_extra "wd"); intro _ _ _))
  k_with "rm" => (exact Rm.le (by with_reducible assumption) (by decide))
  k_with "cl" => ((with_reducible refine' normal_ok ?Rz626 ?Gz626 ?hfz626 ?haz626 ?hzz626 ?_); (case Rz626 => k_extra "rm"); (case Gz626 => k_extra "wd"); (case hfz626 => k_extra "wd"); (case haz626 => k_extra "il"); (case hzz626 => k_extra "ar"); k_extra "rl")
  k_with "cl" => ((with_reducible refine' compare_ok ?Rz627 ?Gz627 ?hfz627 ?hez627 ?hxz627 ?hyz627 ?haz627 ?hbz627 ?_); (case Rz627 => k_extra "rm"); (case Gz627 => k_extra "wd"); (case hfz627 => k_extra "wd"); (case haz627 => k_extra "il"); (case hbz627 => k_extra "il"); (case hez627 => k_extra "ar"); (case hxz627 => k_extra "ar"); (case hyz627 => k_extra "ar"); k_extra "rl")
  k_with "cl" => ((with_reducible refine' nat_of_ok ?Rz628 ?Gz628 ?hfz628 ?hez628 ?he8z628 ?hxz628 ?_); (case Rz628 => k_extra "rm"); (case Gz628 => k_extra "wd"); (case hfz628 => k_extra "wd"); (case hez628 => k_extra "ar"); (case he8z628 => k_extra "ar"); (case hxz628 => k_extra "ar"); k_extra "rl")
  k_with "cl" => ((with_reducible refine' add_ok ?Rz629 ?Gz629 ?hfz629 ?hez629 ?he8z629 ?hxz629 ?hyz629 ?haz629 ?hbz629 ?_); (case Rz629 => k_extra "rm"); (case Gz629 => k_extra "wd"); (case hfz629 => k_extra "wd"); (case haz629 => k_extra "il"); (case hbz629 => k_extra "il"); (case hez629 => k_extra "ar"); (case he8z629 => k_extra "ar"); (case hxz629 => k_extra "ar"); (case hyz629 => k_extra "ar"); k_extra "rl")
  k_with "cl" => ((with_reducible refine' sub_ok ?Rz630 ?Gz630 ?hfz630 ?hez630 ?he8z630 ?hxz630 ?hyz630 ?haz630 ?hbz630 ?_); (case Rz630 => k_extra "rm"); (case Gz630 => k_extra "wd"); (case hfz630 => k_extra "wd"); (case haz630 => k_extra "il"); (case hbz630 => k_extra "il"); (case hez630 => k_extra "ar"); (case he8z630 => k_extra "ar"); (case hxz630 => k_extra "ar"); (case hyz630 => k_extra "ar"); k_extra "rl")
  k_with "cl" => ((with_reducible refine' shift_left_ok ?Rz631 ?Gz631 ?hfz631 ?hez631 ?he8z631 ?hxz631 ?hnz631 ?haz631 ?_); (case Rz631 => k_extra "rm"); (case Gz631 => k_extra "wd"); (case hfz631 => k_extra "wd"); (case haz631 => k_extra "il"); (case hez631 => k_extra "ar"); (case he8z631 => k_extra "ar"); (case hxz631 => k_extra "ar"); (case hnz631 => k_extra "ar"); k_extra "rl")
  k_with "cl" => ((with_reducible refine' shift_right_ok ?Rz632 ?Gz632 ?hfz632 ?hez632 ?he8z632 ?hxz632 ?hnz632 ?haz632 ?_); (case Rz632 => k_extra "rm"); (case Gz632 => k_extra "wd"); (case hfz632 => k_extra "wd"); (case haz632 => k_extra "il"); (case hez632 => k_extra "ar"); (case he8z632 => k_extra "ar"); (case hxz632 => k_extra "ar"); (case hnz632 => k_extra "ar"); k_extra "rl")
  k_with "cl" => ((with_reducible refine' bits_ok ?Rz633 ?Gz633 ?hfz633 ?hez633 ?he8z633 ?hxz633 ?haz633 ?_); (case Rz633 => k_extra "rm"); (case Gz633 => k_extra "wd"); (case hfz633 => k_extra "wd"); (case haz633 => k_extra "il"); (case hez633 => k_extra "ar"); (case he8z633 => k_extra "ar"); (case hxz633 => k_extra "ar"); k_extra "rl")
  k_with "cl" => ((with_reducible refine' low_ok ?Rz634 ?Gz634 ?hfz634 ?hez634 ?he8z634 ?hxz634 ?hnz634 ?haz634 ?_); (case Rz634 => k_extra "rm"); (case Gz634 => k_extra "wd"); (case hfz634 => k_extra "wd"); (case haz634 => k_extra "il"); (case hez634 => k_extra "ar"); (case he8z634 => k_extra "ar"); (case hxz634 => k_extra "ar"); (case hnz634 => k_extra "ar"); k_extra "rl")
  k_with "cl" => ((with_reducible refine' ring_one_ok ?Rz635 ?Gz635 ?hfz635 ?hez635 ?he8z635 ?hnz635 ?_); (case Rz635 => k_extra "rm"); (case Gz635 => k_extra "wd"); (case hfz635 => k_extra "wd"); (case hez635 => k_extra "ar"); (case he8z635 => k_extra "ar"); (case hnz635 => k_extra "ar"); k_extra "rl")
  k_with "cl" => ((with_reducible refine' ring_add_ok ?Rz636 ?Gz636 ?hfz636 ?hez636 ?he8z636 ?hnz636 ?hxz636 ?hyz636 ?haz636 ?hbz636 ?_); (case Rz636 => k_extra "rm"); (case Gz636 => k_extra "wd"); (case hfz636 => k_extra "wd"); (case haz636 => k_extra "il"); (case hbz636 => k_extra "il"); (case hez636 => k_extra "ar"); (case he8z636 => k_extra "ar"); (case hnz636 => k_extra "ar"); (case hxz636 => k_extra "ar"); (case hyz636 => k_extra "ar"); k_extra "rl")
  k_with "cl" => ((with_reducible refine' ring_sub_ok ?Rz637 ?Gz637 ?hfz637 ?hez637 ?he8z637 ?hnz637 ?hxz637 ?hyz637 ?haz637 ?hbz637 ?_); (case Rz637 => k_extra "rm"); (case Gz637 => k_extra "wd"); (case hfz637 => k_extra "wd"); (case haz637 => k_extra "il"); (case hbz637 => k_extra "il"); (case hez637 => k_extra "ar"); (case he8z637 => k_extra "ar"); (case hnz637 => k_extra "ar"); (case hxz637 => k_extra "ar"); (case hyz637 => k_extra "ar"); k_extra "rl")
  k_with "cl" => ((with_reducible refine' ring_neg_ok ?Rz638 ?Gz638 ?hfz638 ?hez638 ?he8z638 ?hnz638 ?hxz638 ?haz638 ?_); (case Rz638 => k_extra "rm"); (case Gz638 => k_extra "wd"); (case hfz638 => k_extra "wd"); (case haz638 => k_extra "il"); (case hez638 => k_extra "ar"); (case he8z638 => k_extra "ar"); (case hnz638 => k_extra "ar"); (case hxz638 => k_extra "ar"); k_extra "rl")
  k_with "cl" => ((with_reducible refine' need_ring_ok ?Rz639 ?Gz639 ?hfz639 ?hnz639 ?_); (case Rz639 => k_extra "rm"); (case Gz639 => k_extra "wd"); (case hfz639 => k_extra "wd"); (case hnz639 => k_extra "ar"); ((with_reducible refine' Wd.retN ?Wz640 ?_); (case Wz640 => k_extra "wd"); intro _ _; refine ⟨rfl, ?_⟩))
  k_with "cl" => ((with_reducible refine' sExprN ?hkz641 ?_ ?hsz641); (case hkz641 => exact rfl); (case hsz641 => exact rfl))
  k_with "cl" => (with_reducible refine not_of ?_)
  k_with "cl" => ((with_reducible refine' ring_fold_ok ?Rz642 ?Gz642 ?hfz642 ?hez642 ?he8z642 ?hn1z642 ?hnz642 ?hxz642 ?haz642 ?_); (case Rz642 => k_extra "rm"); (case Gz642 => k_extra "wd"); (case hfz642 => k_extra "wd"); (case haz642 => k_extra "il"); (case hez642 => k_extra "ar"); (case he8z642 => k_extra "ar"); (case hn1z642 => k_extra "ar"); (case hnz642 => k_extra "ar"); (case hxz642 => k_extra "ar"); k_extra "rl")
  trivial
section
noncomputable def d_law_due : {d : FD // fdOf pw (Str.ofString "_law_due") = some d} := ⟨_, rfl⟩
noncomputable def d_law_done : {d : FD // fdOf pw (Str.ofString "_law_done") = some d} := ⟨_, rfl⟩
noncomputable def d_law_is_kept : {d : FD // fdOf pw (Str.ofString "_law_is_kept") = some d} := ⟨_, rfl⟩
/-- what a form of the law makes of two elements -/
noncomputable def due (form x y : Nat) (k : Int) (n : Nat) : Nat :=
  if form = 0 then (x + y) % (2 ^ n + 1) else if form = 1 then (x + (2 ^ n + 1 - y)) % (2 ^ n + 1) else if form = 2 then (2 ^ n + 1 - x) % (2 ^ n + 1)
  else if form = 3 then x * 2 ^ (k % ((2 * n : Nat) : Int)).toNat % (2 ^ n + 1) else if form = 4 then x * y % (2 ^ n + 1) else x * x % (2 ^ n + 1)
theorem due_le (form x y : Nat) (k : Int) (n : Nat) : due form x y k n ≤ 2 ^ n := by
  have h : ∀ z : Nat, z % (2 ^ n + 1) ≤ 2 ^ n := fun z => Nat.le_of_lt_succ (Nat.mod_lt z (Nat.succ_pos _))
  unfold due
  repeat' split
  all_goals exact h _
theorem zm_sub {x y n : Nat} (hy : y ≤ 2 ^ n) : zm ((x : Int) - (y : Int)) n = (x + (2 ^ n + 1 - y)) % (2 ^ n + 1) := by
  rw [← zm_nat]
  unfold zm
  generalize 2 ^ n = N at *
  have : ((x + (N + 1 - y) : Nat) : Int) = (x : Int) - (y : Int) + ((N + 1 : Nat) : Int) := by omega
  rw [this, Int.add_emod_right]
theorem due_eq {form x y n : Nat} {k : Int} (hf : form < 6) (h3 : form ≠ 3) (hx : x ≤ 2 ^ n) (hy : y ≤ 2 ^ n) :
    zm ([((x + y : Nat) : Int), (x : Int) - (y : Int), 0 - (x : Int), 0, ((x * y : Nat) : Int), ((x * x : Nat) : Int)].getD ((form : Nat) : Int).toNat 0) n = due form x y k n := by
  rw [Int.toNat_natCast]
  have h : form = 0 ∨ form = 1 ∨ form = 2 ∨ form = 4 ∨ form = 5 := by omega
  rcases h with rfl | rfl | rfl | rfl | rfl
  · exact zm_nat _ _
  · exact zm_sub hy
  · have := zm_sub (x := 0) hx
    rw [Nat.zero_add] at this
    exact this
  · exact zm_nat _ _
  · exact zm_nat _ _
section
variable {prog : Program} {w : World} {A : Around} {E : Value → Shared → Prop} {s₀ s : Shared} {L f : Addr} {m mg : Str → Option Value} {own : List (Addr × Ow)} {nm : Str} {sc : Scope} {cd : Value}
  {p : Program} {names free : List Str} {env : Env} {Q : Value → Shared → Prop} {t u : Tok}
/-- a list of ints displayed -/
theorem eIntsL {es : List Expr} {pos : Pos} (h : wpAny (model prog w) A (spliced (backTo pos (starEach es env))) (fun vs s₁ => ∃ s₀ L m own xs, Wd s₀ L s₁ m own ∧ IntsAre vs xs ∧ vs.length ≤ 16777216 ∧ ∀ r s', Wd s₀ L s' m ((r, .li xs) :: own) → Q (.ref r) s') E s) :
    wpAny (model prog w) A (eval (.List es pos) env) Q E s := by
  refine List_ (wpAny_mono h (fun vs s₁ h₁ => ?_) fun _ _ e => e)
  obtain ⟨s₀, L, m, own, xs, W, hi, hz, k⟩ := h₁
  exact wpAny_newList (k _ _ (W.pushI hi s₁.toks)) hz
/-- a list of values displayed -/
theorem eObL {es : List Expr} {pos : Pos} (h : wpAny (model prog w) A (spliced (backTo pos (starEach es env))) (fun vs s₁ => ∃ s₀ L m own, Wd s₀ L s₁ m own ∧ vs.length ≤ 16777216 ∧ ∀ r s', Wd s₀ L s' m ((r, .ob (listOf vs.toArray 0)) :: own) → Q (.ref r) s') E s) :
    wpAny (model prog w) A (eval (.List es pos) env) Q E s := by
  refine List_ (wpAny_mono h (fun vs s₁ h₁ => ?_) fun _ _ e => e)
  obtain ⟨s₀, L, m, own, W, hz, k⟩ := h₁
  exact wpAny_newList (k _ _ (W.push _ rfl s₁.toks)) hz
/-- one of two defs picked out of a list, and called -/
theorem eCallPick {x1 x2 xf nmx : Str} {dx : FD} {g1 g2 g : Addr} {i : Nat} {tf : Tok} {q1 q2 q3 q4 q5 pos : Pos} {e : Expr} {rest : List Expr} (G : Gd p names free mg s₀.heap) (W : Wd s₀ L s m own) (h1 : mg x1 = some (.ref g1)) (h2 : mg x2 = some (.ref g2)) (c1 : isGlo sc x1 = true) (c2 : isGlo sc x2 = true)
    (hv : m xf = some (.int (i : Nat) tf)) (cf : isLoc sc xf = true) (hi : [Value.ref g1, .ref g2][i]? = some (.ref g)) (hg : FnAt mg s₀.heap nmx dx g)
    (h : ∀ s, Wd s₀ L s m own → wpAny (model prog w) A (spliced (backTo pos (starEach (e :: rest) (envOf nm sc L f cd)))) (fun vs s₁ => ∃ m own, Wd s₀ L s₁ m own ∧ (FnAt mg s₁.heap nmx dx g → Gd p names free mg s₁.heap → wpAny (model prog w) A (call (.ref g) vs) Q E s₁)) E s)
    (he : eval (.Call (.Subscript (.List [.Name x1 q1, .Name x2 q2] q3) (.Name xf q4) q5) (e :: rest) [] pos) (envOf nm sc L f cd) = (do callWith pos (← eval (.Subscript (.List [.Name x1 q1, .Name x2 q2] q3) (.Name xf q4) q5) (envOf nm sc L f cd)) [] (backTo pos (starEach (e :: rest) (envOf nm sc L f cd))) (backToKw pos (keywordEach [] (envOf nm sc L f cd)))))
    (hst : starEach (e :: rest) (envOf nm sc L f cd) = (false, eval e (envOf nm sc L f cd)) :: starEach rest (envOf nm sc L f cd))
    (ha : starEach [.Name x1 q1, .Name x2 q2] (envOf nm sc L f cd) = (false, eval (.Name x1 q1) (envOf nm sc L f cd)) :: starEach [.Name x2 q2] (envOf nm sc L f cd)) (hb : starEach [.Name x2 q2] (envOf nm sc L f cd) = (false, eval (.Name x2 q2) (envOf nm sc L f cd)) :: starEach [] (envOf nm sc L f cd))
    (hs : ∀ r, subscripted (.Name xf q4) false (.ref r) (.int (i : Nat) tf) = operate [.ref r, .int (i : Nat) tf] (getItem (.ref r) (.int (i : Nat) tf))) :
    wpAny (model prog w) A (eval (.Call (.Subscript (.List [.Name x1 q1, .Name x2 q2] q3) (.Name xf q4) q5) (e :: rest) [] pos) (envOf nm sc L f cd)) Q E s := by
  obtain ⟨o, pm, cd', doc, a, b, c⟩ := hg.fn
  refine Call_ (Subscript_ (eObL (args_cons (eGlob G W h1 c1 (args_cons (eGlob G W h2 c2 (args_nil ?_)) hb)) ha))) he
  refine ⟨_, _, _, _, W, by show 2 ≤ _; decide, fun r s' W' => ?_⟩
  have hlt : i < 2 := by
    rcases Nat.lt_or_ge i 2 with q | q
    · exact q
    · rw [List.getElem?_eq_none (by simpa using q)] at hi; cases hi
  refine eName W' hv cf (obItem W' (.head _) (by omega) (by omega) (by rw [Int.toNat_natCast]; simpa using hi) (hs r) ?_)
  refine callWith_def b (wpAny_mono (h s' (W'.drop (List.sublist_cons_self _ _))) (fun vs s₁ h₁ => ?_) fun _ _ e => e) hst
  obtain ⟨m, own, W', k⟩ := h₁
  exact ⟨W'.keep _ _ a, k (hg.kp W'.keep) (G.kp W'.keep)⟩
theorem words18 : True := by
  k_with "cl" => ((with_reducible refine' nPow ?Wz643 ?hez643 ?_); (case Wz643 => k_extra "wd"); (case hez643 => k_extra "ar"); intro _ _ _)
  k_with "cl" => ((with_reducible refine' cEqL ?Rz644 ?hxz644 ?hyz644 ?_); (case Rz644 => with_reducible assumption); (case hxz644 => k_extra "il"); (case hyz644 => k_extra "il"))
  trivial
theorem law_due_ok {form x y n : Nat} {k : Int} {tf tx ty tk tn : Tok} (R : Rm A 1) (G : GD mg s.heap) (hf : FnAt mg s.heap (Str.ofString "_law_due") d_law_due.1 f)
    (hfm : form < 6) (hn1 : 1 ≤ n) (hn : n ≤ 40) (hx : x ≤ 2 ^ n) (hy : y ≤ 2 ^ n) (h : RetI s ((due form x y k n : Nat) : Int) Q) :
    wpAny (model prog w) A (call (.ref f) [.int (form : Nat) tf, .int (x : Nat) tx, .int (y : Nat) ty, .int k tk, .int (n : Nat) tn]) Q E s := by
  refine enterU [Str.ofString "form", Str.ofString "number", Str.ofString "other", Str.ofString "k", Str.ofString "n"] R G hf (by intro _ _ _; rfl) (by decide +kernel) (by decide +kernel) ?_
  intro L cd s' W
  dsimp only [List.foldl, List.zip, List.zipWith] at W
  have R' := R.deeper (envOf (Str.ofString "_law_due") d_law_due.1.2.2 L f cd)
  have hM : 2 ^ n ≤ 2 ^ 40 := pow_le hn
  have hx' : x < 2 ^ 81 := by omega
  have hy' : y < 2 ^ 81 := by omega
  refine sIf ?_
  repeat k_extra "st"
  refine iteD (fun h1 => ?_) (fun h1 => ?_)
  · have h3 : form = 3 := by omega
    subst h3
    have hkk : (k % ((2 * n : Nat) : Int)).toNat < 2 * n := by
      have := Int.emod_lt_of_pos k (show (0 : Int) < ((2 * n : Nat) : Int) by omega)
      have := Int.emod_nonneg k (show ((2 * n : Nat) : Int) ≠ 0 by omega)
      omega
    have hp : 2 ^ (k % ((2 * n : Nat) : Int)).toNat < 2 ^ 81 := Nat.pow_lt_pow_right (by decide) (by omega)
    have hk1 : (k % ((2 * n : Nat) : Int)).toNat ≤ 1000 := by omega
    repeat k_extra "st"
    refine nMul2 (by k_extra "wd") (by omega) fun s t W => ?_
    refine nModI (by k_extra "wd") (by omega) fun s t W => ?_
    repeat k_extra "st"
    exact h.fin (by k_extra "wd") rfl
  · have h3 : form ≠ 3 := by omega
    repeat k_extra "st"
    refine eIntsL ?_
    repeat k_extra "st"
    refine ⟨_, _, _, _, _, by k_extra "wd", .cons _ _ (.cons _ _ (.cons _ _ (.cons _ _ (.cons _ _ (.cons _ _ .nil))))), by show 6 ≤ _; decide, fun r s W => ?_⟩
    repeat k_extra "st"
    refine h.fin (by k_extra "wd") ?_
    rw [Int.fmod_eq_emod_of_nonneg _ (by omega), ← due_eq hfm h3 hx hy, zm_cast]
end
end
-- Fdone
theorem words19 : True := by
  k_with "cl" => ((with_reducible refine' nMul2 ?Wz645 ?haz645 ?_); (case Wz645 => k_extra "wd"); (case haz645 => k_extra "ar"); intro _ _ _)
  k_with "cl" => ((with_reducible refine' ring_shift_ok ?Rz646 ?Gz646 ?hfz646 ?hez646 ?he8z646 ?hn1z646 ?hnz646 ?hxz646 ?haz646 ?_); (case Rz646 => k_extra "rm"); (case Gz646 => k_extra "wd"); (case hfz646 => k_extra "wd"); (case haz646 => k_extra "il"); (case hez646 => k_extra "ar"); (case he8z646 => k_extra "ar"); (case hn1z646 => k_extra "ar"); (case hnz646 => k_extra "ar"); (case hxz646 => k_extra "ar"); k_extra "rl")
  k_with "cl" => ((with_reducible refine' ring_mul_ok ?Rz647 ?Gz647 ?hfz647 ?hgz647 ?hez647 ?he8z647 ?hn1z647 ?hnz647 ?hxz647 ?hyz647 ?haz647 ?hbz647 ?_); (case Rz647 => k_extra "rm"); (case Gz647 => k_extra "wd"); (case hfz647 => k_extra "wd"); (case hgz647 => k_extra "fn"); (case haz647 => k_extra "il"); (case hbz647 => k_extra "il"); (case hez647 => k_extra "ar"); (case he8z647 => k_extra "ar"); (case hn1z647 => k_extra "ar"); (case hnz647 => k_extra "ar"); (case hxz647 => k_extra "ar"); (case hyz647 => k_extra "ar"); k_extra "rl")
  k_with "fn" => (first | with_reducible assumption | (refine FnAt.kp (by assumption) (Wd.keep (by with_reducible assumption))))
  k_with "cl" => ((with_reducible refine' law_limbs_ok ?Rz648 ?Gz648 ?hfz648 ?hez648 ?he8z648 ?hxz648 ?_); (case Rz648 => k_extra "rm"); (case Gz648 => k_extra "wd"); (case hfz648 => k_extra "wd"); (case hez648 => k_extra "ar"); (case he8z648 => k_extra "ar"); (case hxz648 => k_extra "ar"); k_extra "rl")
  k_with "cl" => ((with_reducible refine' element_of_ok ?Rz649 ?Gz649 ?hfz649 ?hez649 ?he8z649 ?hn1z649 ?hnz649 ?hzz649 ?_); (case Rz649 => k_extra "rm"); (case Gz649 => k_extra "wd"); (case hfz649 => k_extra "wd"); (case hez649 => k_extra "ar"); (case he8z649 => k_extra "ar"); (case hn1z649 => k_extra "ar"); (case hnz649 => k_extra "ar"); (case hzz649 => k_extra "ar"); k_extra "rl")
  k_with "cl" => ((with_reducible refine' eGlob ?Gz650 ?Wz650 ?hvz650 ?hcz650 ?_); (case Wz650 => k_extra "wd"); (case Gz650 => k_extra "wd"); (case hvz650 => with_reducible exact FnAt.gl (by assumption)); (case hcz650 => k_extra "dk"))
  trivial
section
theorem due0 {x y n : Nat} {k : Int} : due 0 x y k n = (x + y) % (2 ^ n + 1) := rfl
theorem due1 {x y n : Nat} {k : Int} : due 1 x y k n = (x + (2 ^ n + 1 - y)) % (2 ^ n + 1) := rfl
theorem due2 {x y n : Nat} {k : Int} : due 2 x y k n = (2 ^ n + 1 - x) % (2 ^ n + 1) := rfl
theorem due3 {x y n : Nat} {k : Int} : due 3 x y k n = x * 2 ^ (k % ((2 * n : Nat) : Int)).toNat % (2 ^ n + 1) := rfl
theorem due4 {x y n : Nat} {k : Int} : due 4 x y k n = x * y % (2 ^ n + 1) := rfl
theorem due5 {x y n : Nat} {k : Int} : due 5 x y k n = x * x % (2 ^ n + 1) := rfl
section
variable {prog : Program} {w : World} {A : Around} {E : Value → Shared → Prop} {s₀ s : Shared} {L f : Addr} {m mg : Str → Option Value} {own : List (Addr × Ow)} {nm : Str} {sc : Scope} {cd : Value}
  {p : Program} {names free : List Str} {env : Env} {Q : Value → Shared → Prop} {t u : Tok}
/-- a def hands back a bool -/
noncomputable def RetB (s : Shared) (b : Bool) (Q : Value → Shared → Prop) : Prop := ∀ s', Kp s.heap s'.heap → Rest s s' → Q (.bool b) s'
theorem Wd.retB {b : Bool} (W : Wd s₀ L s m own) (h : ∀ s', Wd s₀ L s' m own → Q (.bool b) s') : RetB s b Q := fun s' k e => h s' (W.kp k e)
theorem RetB.back {b : Bool} {s' : Shared} (h : RetB s b Q) (W : Wd s L s' m own) : Q (.bool b) s' := h s' W.keep W.rest
theorem law_kept_ok {a : Addr} {e n x : Nat} {tn tw : Tok} (R : Rm A 7) (G : GD mg s.heap) (hf : FnAt mg s.heap (Str.ofString "_law_is_kept") d_law_is_kept.1 f)
    (he : 1 ≤ e) (he8 : e ≤ 8) (hn1 : 1 ≤ n) (hn : n ≤ 40) (hx : x ≤ 2 ^ n) (ha : IL s.heap a (lm e x)) (h : RetB s true Q) :
    wpAny (model prog w) A (call (.ref f) [.ref a, .int (n : Nat) tn, .int (e : Nat) tw]) Q E s := by
  refine enterU [Str.ofString "here", Str.ofString "n", Str.ofString "w"] R G hf (by intro _ _ _; rfl) (by decide +kernel) (by decide +kernel) ?_
  intro L cd s' W
  dsimp only [List.foldl, List.zip, List.zipWith] at W
  have R' := R.deeper (envOf (Str.ofString "_law_is_kept") d_law_is_kept.1.2.2 L f cd)
  obtain ⟨g1, hg1⟩ := G.fns (Str.ofString "ring_shift") (by decide +kernel) _ d_ring_shift.2
  obtain ⟨g2, hg2⟩ := G.fns (Str.ofString "ring_neg") (by decide +kernel) _ d_ring_neg.2
  have e1 : (((n : Nat) : Int) % ((2 * n : Nat) : Int)).toNat = n := by
    rw [← Int.natCast_emod, Nat.mod_eq_of_lt (by omega), Int.toNat_natCast]
  have e2 : (((2 * n : Nat) : Int) % ((2 * n : Nat) : Int)).toNat = 0 := by rw [Int.emod_self]; rfl
  have e3 := shift_neg (n := n) (z := x)
  rw [Nat.mod_eq_of_lt (Nat.lt_succ_of_le hx)] at e3
  refine sRet (BoolOp_and ?_)
  repeat k_extra "st"
  rw [e1, e3]
  refine iteD (fun _ => ?_) (fun q => absurd rfl q)
  refine BoolOp_one ?_
  repeat k_extra "st"
  rw [e2, Nat.pow_zero, Nat.mul_one, Nat.mod_eq_of_lt (Nat.lt_succ_of_le hx)]
  rw [show decide (lm e x = lm e x) = true from decide_eq_true rfl]
  exact h.back (by k_extra "wd")
theorem law_done_ok {a b : Addr} {form e n x y : Nat} {k : Int} {tf tk tn tw : Tok} (R : Rm A 7) (G : GD mg s.heap) (hf : FnAt mg s.heap (Str.ofString "_law_done") d_law_done.1 f) (hfm : form < 6)
    (he : 1 ≤ e) (he8 : e ≤ 8) (hn1 : 1 ≤ n) (hn : n ≤ 40) (hx : x ≤ 2 ^ n) (hy : y ≤ 2 ^ n) (ha : IL s.heap a (lm e x)) (hb : IL s.heap b (lm e y)) (h : RetL s (lm e (due form x y k n)) Q) :
    wpAny (model prog w) A (call (.ref f) [.int (form : Nat) tf, .ref a, .ref b, .int k tk, .int (n : Nat) tn, .int (e : Nat) tw]) Q E s := by
  refine enterU [Str.ofString "form", Str.ofString "here", Str.ofString "there", Str.ofString "k", Str.ofString "n", Str.ofString "w"] R G hf (by intro _ _ _; rfl) (by decide +kernel) (by decide +kernel) ?_
  intro L cd s' W
  dsimp only [List.foldl, List.zip, List.zipWith] at W
  have R' := R.deeper (envOf (Str.ofString "_law_done") d_law_done.1.2.2 L f cd)
  obtain ⟨g1, hg1⟩ := G.fns (Str.ofString "ring_add") (by decide +kernel) _ d_ring_add.2
  obtain ⟨g2, hg2⟩ := G.fns (Str.ofString "ring_sub") (by decide +kernel) _ d_ring_sub.2
  obtain ⟨g3, hg3⟩ := G.fns (Str.ofString "ring_neg") (by decide +kernel) _ d_ring_neg.2
  obtain ⟨g4, hg4⟩ := G.fns (Str.ofString "ring_shift") (by decide +kernel) _ d_ring_shift.2
  obtain ⟨g5, hg5⟩ := G.fns (Str.ofString "ring_mul") (by decide +kernel) _ d_ring_mul.2
  obtain ⟨g6, hg6⟩ := G.fns (Str.ofString "mul_school") (by decide +kernel) _ d_mul_school.2
  have hy' : y ≤ 2 ^ n + 1 := by omega
  refine sIf ?_
  repeat k_extra "st"
  refine iteD (fun h1 => ?_) (fun h1 => ?_)
  · refine sRet ?_
    rcases (show form = 0 ∨ form = 1 by omega) with rfl | rfl
    · refine eCallPick (i := 0) G (by k_extra "wd") hg1.gl hg2.gl (by decide +kernel) (by decide +kernel) (by k_extra "lk") (by decide +kernel) rfl hg1 (fun s W => ?_) rfl rfl rfl rfl (fun _ => by with_unfolding_all rfl)
      repeat k_extra "st"
      exact h.back (by k_extra "wd") (by rw [due0]; k_extra "mem")
    · refine eCallPick (i := 1) G (by k_extra "wd") hg1.gl hg2.gl (by decide +kernel) (by decide +kernel) (by k_extra "lk") (by decide +kernel) rfl hg2 (fun s W => ?_) rfl rfl rfl rfl (fun _ => by with_unfolding_all rfl)
      repeat k_extra "st"
      exact h.back (by k_extra "wd") (by rw [due1]; k_extra "mem")
  repeat k_extra "st"
  refine iteD (fun h2 => ?_) (fun h2 => ?_)
  · refine sRet (IfExp_ ?_)
    repeat k_extra "st"
    refine iteD (fun h3 => ?_) (fun h3 => ?_)
    · have : form = 2 := by omega
      subst this
      repeat k_extra "st"
      exact h.back (by k_extra "wd") (by rw [due2]; k_extra "mem")
    · have : form = 3 := by omega
      subst this
      repeat k_extra "st"
      exact h.back (by k_extra "wd") (by rw [due3]; k_extra "mem")
  · refine sSkip ?_
    dsimp only
    refine sRet ?_
    repeat k_extra "st"
    refine IfExp_ ?_
    repeat k_extra "st"
    refine iteD (fun h3 => ?_) (fun h3 => ?_)
    · have : form = 4 := by omega
      subst this
      repeat k_extra "st"
      exact h.back (by k_extra "wd") (by rw [due4]; k_extra "mem")
    · have : form = 5 := by omega
      subst this
      repeat k_extra "st"
      exact h.back (by k_extra "wd") (by rw [due5]; k_extra "mem")
end
end
-- SjN
section
/-- what the walk asks of a frame's environment -/
structure EnvL (env : Env) (sc : Scope) (L : Addr) : Prop where
  scope : env.scope = sc
  loc : env.locals = L
  glo : env.globals = mainGlobals
  blt : env.builtins = builtinsNs
noncomputable abbrev cellW (v : Option Value) : Ow := .pr fun o => o.data = .cell v
/-- one entry of the ledger brought to the front -/
inductive Pick (p : Addr × Ow) : List (Addr × Ow) → List (Addr × Ow) → Prop
  | head {r : List (Addr × Ow)} : Pick p (p :: r) r
  | tail {q : Addr × Ow} {r r' : List (Addr × Ow)} : Pick p r r' → Pick p (q :: r) (q :: r')
theorem Pick.perm {p : Addr × Ow} : ∀ {l l' : List (Addr × Ow)}, Pick p l l' → l.Perm (p :: l')
  | _, _, .head => .refl _
  | _, _, .tail (q := q) h => (List.Perm.cons q h.perm).trans (List.Perm.swap _ _ _)
theorem Wd.pick {s₀ s : Shared} {L : Addr} {m : Str → Option Value} {p : Addr × Ow} {own own' : List (Addr × Ow)} (W : Wd s₀ L s m own) (h : Pick p own own') : Wd s₀ L s m (p :: own') := W.perm h.perm.symm
section
variable {prog : Program} {w : World} {A : Around} {E : Value → Shared → Prop} {s₀ s : Shared} {L f : Addr} {m mg : Str → Option Value} {own : List (Addr × Ow)} {nm : Str} {sc : Scope} {cd : Value}
  {p : Program} {names free : List Str} {env : Env} {t u : Tok}
theorem EnvL.local (V : EnvL env sc L) {x : Str} (hc : isLoc sc x = true) : env.scope.kind = .function ∧ env.kindOf x = some .local ∧ (x == ("__debug__" : Str)) = false := by
  obtain ⟨a, b, c⟩ := isLoc.out hc
  exact ⟨by rw [V.scope]; exact a, by show env.scope.names.lookup x = _; rw [V.scope]; exact b, c⟩
theorem EnvL.plain (V : EnvL env sc L) {x : Str} (hc : isLoc sc x = true) : (env.scope.kind == .class || (env.scope.kind == .module && env.locals != env.globals)) = false := by
  rw [(V.local hc).1]; rfl
theorem gName {x : Str} {pos : Pos} {v : Value} {Q : Value → Shared → Prop} (V : EnvL env sc L) (W : Wd s₀ L s m own) (hv : m x = some v) (hc : isLoc sc x = true) (h : Q v s) : wpAny (model prog w) A (eval (.Name x pos) env) Q E s := by
  obtain ⟨a, b, c⟩ := V.local hc
  exact wpAny_Name (wpAny_loadName_local a b (by rw [V.loc]; exact W.fr.ns) hv h) c
theorem gCell {x : Str} {pos : Pos} {v : Value} {c : Addr} {Q : Value → Shared → Prop} (W : Wd s₀ L s m own) (hm : (c, cellW (some v)) ∈ own) (hk : env.scope.kind = .function) (hl : env.kindOf x = some .cell) (hc : env.cells.lookup x = some c)
    (hd : (x == ("__debug__" : Str)) = false) (h : Q v s) : wpAny (model prog w) A (eval (.Name x pos) env) Q E s :=
  wpAny_Name (wpAny_loadName_cell hk hl hc (W.ow _ hm).1 h) hd
theorem gGlob {x : Str} {pos : Pos} {v : Value} {Q : Value → Shared → Prop} (V : EnvL env sc L) (G : Gd p names free mg s₀.heap) (W : Wd s₀ L s m own) (hv : mg x = some v) (hc : isGlo sc x = true) (h : Q v s) : wpAny (model prog w) A (eval (.Name x pos) env) Q E s := by
  obtain ⟨a, b, c⟩ := isGlo.out hc
  exact Name_function_global (by rw [V.scope]; exact a) (by show env.scope.names.lookup x = _; rw [V.scope]; exact b) (loadGlobal_global (by rw [V.glo]; exact G.g.keeps W.keep) hv h) c
theorem gBuilt {x : Str} {pos : Pos} {v : Value} {Q : Value → Shared → Prop} (V : EnvL env sc L) (G : Gd p names free mg s₀.heap) (W : Wd s₀ L s m own) (hf : x ∈ free) (hv : bootBuiltins x = some v) (hn : x ≠ "__name__") (hc : isGlo sc x = true) (h : Q v s) :
    wpAny (model prog w) A (eval (.Name x pos) env) Q E s := by
  obtain ⟨a, b, c⟩ := isGlo.out hc
  obtain ⟨mb, hb, hm⟩ := G.b
  exact Name_function_global (by rw [V.scope]; exact a) (by show env.scope.names.lookup x = _; rw [V.scope]; exact b) (loadGlobal_builtin (by rw [V.glo]; exact G.g.keeps W.keep) (G.free x hf) (by rw [V.blt]; exact hb.keeps W.keep) ((hm x hn).trans hv) h) c
theorem gStore {x : Str} {v : Value} {Q : Unit → Shared → Prop} (V : EnvL env sc L) (W : Wd s₀ L s m own) (hc : isLoc sc x = true) (h : ∀ s', Wd s₀ L s' (upd m x v) own → Q () s') : wpAny (model prog w) A (storeName env x v) Q E s := by
  obtain ⟨a, b, c⟩ := V.local hc
  refine wpAny_storeName_local b (by rw [V.loc]; exact W.fr.ns) (fun h' hn hs => ?_) (V.plain hc)
  rw [V.loc] at hn hs
  exact h _ (W.store hn hs)
theorem gSet {x : Str} {px pos : Pos} {value : Expr} {rest : List Stmt} {Q : Flow → Shared → Prop} (V : EnvL env sc L) (hc : isLoc sc x = true)
    (h : wpAny (model prog w) A (eval value env) (fun v s₁ => ∃ s₀ m own, Wd s₀ L s₁ m own ∧ ∀ s₂, Wd s₀ L s₂ (upd m x v) own → wpAny (model prog w) A (execs rest env) Q E s₂) E s)
    (hs : swapsWith value (some (.Name x px)) pos.line env = pure false) :
    wpAny (model prog w) A (execs (.Assign [.Name x px] value pos :: rest) env) Q E s := by
  refine wpAny_execs_cons (wpAny_Assign_Name (wpAny_mono h (fun v s₁ h₁ => ?_) fun _ _ e => e) hs)
  obtain ⟨s₀, m, own, W, k⟩ := h₁
  exact gStore V W hc k
theorem gAsg {x : Str} {px : Pos} {v : Value} {Q : Unit → Shared → Prop} (V : EnvL env sc L) (W : Wd s₀ L s m own) (hc : isLoc sc x = true) (h : ∀ s', Wd s₀ L s' (upd m x v) own → Q () s') : wpAny (model prog w) A (assign (.Name x px) env v) Q E s :=
  wpAny_assign_Name (gStore V W hc h)
theorem gAsgC {x : Str} {px : Pos} {v : Value} {v₀ : Option Value} {c : Addr} {own' : List (Addr × Ow)} {Q : Unit → Shared → Prop} (W : Wd s₀ L s m own) (U : Up c (cellW v₀) (cellW (some v)) own own') (hk : env.scope.kind = .function) (hl : env.kindOf x = some .cell) (hc : env.cells.lookup x = some c)
    (h : ∀ s', Wd s₀ L s' m own' → Q () s') : wpAny (model prog w) A (assign (.Name x px) env v) Q E s :=
  wpAny_assign_Name (wpAny_storeName_cell hk hl hc (W.ow _ U.mem).1 fun h' hv hs => h _ (W.turnAt (k := s.toks) U hs hv))
/-- a tuple of two assigned in its order -/
theorem gTupN2 {x₁ x₂ : Str} {p₁ p₂ : Pos} {k k' : Nat} {tp tp' pos : Pos} {e₁ e₂ : Expr} {rest : List Stmt} {Q : Flow → Shared → Prop} (hh : A.handled = none)
    (h : wpAny (model prog w) A (eval e₁ env) (fun v₁ s₁ => wpAny (model prog w) A (eval e₂ env) (fun v₂ s₂ =>
      ∃ s₀ L m own, Wd s₀ L s₂ m own ∧ ∀ s₃, Wd s₀ L s₃ m own → wpAny (model prog w) A (assign (.Name x₁ p₁) env v₁) (fun _ s₄ => wpAny (model prog w) A (assign (.Name x₂ p₂) env v₂) (fun _ s₅ => wpAny (model prog w) A (execs rest env) Q E s₅) E s₄) E s₃) E s₁) E s)
    (hs : swapsWithSole [.Tuple [.Name x₁ p₁, .Name x₂ p₂] k tp] (.Tuple [e₁, e₂] k' tp') pos.line env = pure false)
    (hw : swappedStores [.Tuple [.Name x₁ p₁, .Name x₂ p₂] k tp] (.Tuple [e₁, e₂] k' tp') env = pure none)
    (h1 : starEach [e₁, e₂] env = (false, eval e₁ env) :: starEach [e₂] env) (h2 : starEach [e₂] env = (false, eval e₂ env) :: starEach [] env) :
    wpAny (model prog w) A (execs (.Assign [.Tuple [.Name x₁ p₁, .Name x₂ p₂] k tp] (.Tuple [e₁, e₂] k' tp') pos :: rest) env) Q E s := by
  refine wpAny_execs_cons (Assign_Tuple (eTuple (args_cons (wpAny_mono h (fun v₁ s₁ h₁ => args_cons (wpAny_mono h₁ (fun v₂ s₂ h₂ => args_nil ?_) fun _ _ e => e) h2) fun _ _ e => e) h1)) hs hw)
  obtain ⟨s₀, L, m, own, W, q⟩ := h₂
  refine ⟨by simp, s₀, L, m, own, W, fun t s₃ W₁ => ?_⟩
  have hT : s₃.heap.IsTuple t [v₁, v₂].toArray := ⟨_, W₁.obj (.head _), rfl, 0, rfl⟩
  refine wpAny_assign_Tuple hh hT rfl rfl fun h' he => ?_
  have W₂ : Wd s₀ L { s₃ with heap := h' } m own := (W₁.kp (s' := { s₃ with heap := h' }) (fun b o q => he b o (Nat.ne_of_lt (Heap.lt_size q)) q) ((Rest.refl s₃).set _ _)).drop (List.sublist_cons_self _ _)
  show wpAny _ A (do holding [v₂] (assign (.Name x₁ p₁) env v₁); do holding [] (assign (.Name x₂ p₂) env v₂); pure ()) _ _ _
  refine wpAny_bind (wpAny_holding (wpAny_mono (q _ W₂) (fun _ s₄ h₄ => ?_) fun _ _ e => e))
  exact wpAny_bind (wpAny_holding (wpAny_mono h₄ (fun _ s₅ h₅ => wpAny_pure h₅) fun _ _ e => e))
theorem gBind {x : Str} {v : Value} {Q : Unit → Shared → Prop} (V : EnvL env sc L) (W : Wd s₀ L s m own) (hc : isLoc sc x = true) (h : ∀ s', Wd s₀ L s' (upd m x v) own → Q () s') : wpAny (model prog w) A (bindName env x v) Q E s :=
  wpAny_bindName (gStore V W hc h)
theorem gTup2 (x₁ x₂ : Str) {elts : List Expr} {k k' : Nat} {tp tp' pos : Pos} {e₁ e₂ : Expr} {rest : List Stmt} {Q : Flow → Shared → Prop} (V : EnvL env sc L) (hh : A.handled = none) (hc₁ : isLoc sc x₁ = true) (hc₂ : isLoc sc x₂ = true)
    (h : wpAny (model prog w) A (eval e₁ env) (fun v₁ s₁ => wpAny (model prog w) A (eval e₂ env) (fun v₂ s₂ =>
      ∃ s₀ m own, Wd s₀ L s₂ m own ∧ ∀ s₃, Wd s₀ L s₃ (upd (upd m x₂ v₂) x₁ v₁) own → wpAny (model prog w) A (execs rest env) Q E s₃) E s₁) E s)
    (hs : swapsWithSole [.Tuple elts k tp] (.Tuple [e₁, e₂] k' tp') pos.line env = pure false)
    (hw : swappedStores [.Tuple elts k tp] (.Tuple [e₁, e₂] k' tp') env = pure (some [x₁, x₂]))
    (h1 : starEach [e₁, e₂] env = (false, eval e₁ env) :: starEach [e₂] env) (h2 : starEach [e₂] env = (false, eval e₂ env) :: starEach [] env) :
    wpAny (model prog w) A (execs (.Assign [.Tuple elts k tp] (.Tuple [e₁, e₂] k' tp') pos :: rest) env) Q E s := by
  refine wpAny_execs_cons (Assign_Tuple_swapped (eTuple (args_cons (wpAny_mono h (fun v₁ s₁ h₁ => args_cons (wpAny_mono h₁ (fun v₂ s₂ h₂ => args_nil ?_) fun _ _ e => e) h2) fun _ _ e => e) h1)) hs hw)
  obtain ⟨s₀, m, own, W, q⟩ := h₂
  refine ⟨by simp, s₀, L, m, own, W, fun t s₃ W₁ => ?_⟩
  refine unpackTup W₁ hh (W₁.obj (.head _)) rfl fun s₄ W₂ => ?_
  have W₃ := W₂.drop (List.sublist_cons_self _ _)
  show wpAny _ A (do holding [v₁] (bindName _ x₂ v₂); do holding [] (bindName _ x₁ v₁); pure ()) _ _ _
  refine wpAny_bind (wpAny_holding (gBind V W₃ hc₂ fun s₅ W₄ => ?_))
  exact wpAny_bind (wpAny_holding (gBind V W₄ hc₁ fun s₆ W₅ => wpAny_pure (q _ W₅)))
theorem gTup3 (x₁ x₂ x₃ : Str) {elts : List Expr} {k k' : Nat} {tp tp' pos : Pos} {e₁ e₂ e₃ : Expr} {rest : List Stmt} {Q : Flow → Shared → Prop} (V : EnvL env sc L) (hh : A.handled = none) (hc₁ : isLoc sc x₁ = true) (hc₂ : isLoc sc x₂ = true) (hc₃ : isLoc sc x₃ = true)
    (h : wpAny (model prog w) A (eval e₁ env) (fun v₁ s₁ => wpAny (model prog w) A (eval e₂ env) (fun v₂ s₂ => wpAny (model prog w) A (eval e₃ env) (fun v₃ s₂ =>
      ∃ s₀ m own, Wd s₀ L s₂ m own ∧ ∀ s₃, Wd s₀ L s₃ (upd (upd (upd m x₃ v₃) x₂ v₂) x₁ v₁) own → wpAny (model prog w) A (execs rest env) Q E s₃) E s₂) E s₁) E s)
    (hs : swapsWithSole [.Tuple elts k tp] (.Tuple [e₁, e₂, e₃] k' tp') pos.line env = pure false)
    (hw : swappedStores [.Tuple elts k tp] (.Tuple [e₁, e₂, e₃] k' tp') env = pure (some [x₁, x₂, x₃]))
    (h1 : starEach [e₁, e₂, e₃] env = (false, eval e₁ env) :: starEach [e₂, e₃] env) (h2 : starEach [e₂, e₃] env = (false, eval e₂ env) :: starEach [e₃] env) (h3 : starEach [e₃] env = (false, eval e₃ env) :: starEach [] env) :
    wpAny (model prog w) A (execs (.Assign [.Tuple elts k tp] (.Tuple [e₁, e₂, e₃] k' tp') pos :: rest) env) Q E s := by
  refine wpAny_execs_cons (Assign_Tuple_swapped (eTuple (args_cons (wpAny_mono h (fun v₁ s₁ h₁ => args_cons (wpAny_mono h₁ (fun v₂ s₂ h₂ => args_cons (wpAny_mono h₂ (fun v₃ s₃ h₃ => args_nil ?_) fun _ _ e => e) h3) fun _ _ e => e) h2) fun _ _ e => e) h1)) hs hw)
  obtain ⟨s₀, m, own, W, q⟩ := h₃
  refine ⟨by simp, s₀, L, m, own, W, fun t s₃ W₁ => ?_⟩
  refine unpackTup W₁ hh (W₁.obj (.head _)) rfl fun s₄ W₂ => ?_
  have W₃ := W₂.drop (List.sublist_cons_self _ _)
  show wpAny _ A (do holding [v₂, v₁] (bindName _ x₃ v₃); do holding [v₁] (bindName _ x₂ v₂); do holding [] (bindName _ x₁ v₁); pure ()) _ _ _
  refine wpAny_bind (wpAny_holding (gBind V W₃ hc₃ fun s₅ W₄ => ?_))
  refine wpAny_bind (wpAny_holding (gBind V W₄ hc₂ fun s₅ W₄ => ?_))
  exact wpAny_bind (wpAny_holding (gBind V W₄ hc₁ fun s₆ W₅ => wpAny_pure (q _ W₅)))
variable {Q : Value → Shared → Prop}
theorem gCallB {x : Str} {id : String} {p1 pos : Pos} {e : Expr} {rest : List Expr} (V : EnvL env sc L) (G : Gd p names free mg s₀.heap) (W : Wd s₀ L s m own) (hf : x ∈ free) (hv : bootBuiltins x = some (.builtin id)) (hn : x ≠ "__name__") (hc : isGlo sc x = true)
    (h : wpAny (model prog w) A (spliced (backTo pos (starEach (e :: rest) env))) (fun vs s₁ => wpAny (model prog w) A (call (.builtin id) vs) Q E s₁) E s)
    (he : eval (.Call (.Name x p1) (e :: rest) [] pos) env = (do callWith pos (← eval (.Name x p1) env) [] (backTo pos (starEach (e :: rest) env)) (backToKw pos (keywordEach [] env))))
    (hst : starEach (e :: rest) env = (false, eval e env) :: starEach rest env)
    (hplain : (backTo pos (starEach rest env)).any (·.1) = false) :
    wpAny (model prog w) A (eval (.Call (.Name x p1) (e :: rest) [] pos) env) Q E s :=
  Call_ (gBuilt V G W hf hv hn hc (callWith_builtin1 h hst hplain)) he
theorem gCallT {x : Str} {T : String} {p1 pos : Pos} {e : Expr} {rest : List Expr} (V : EnvL env sc L) (G : Gd p names free mg s₀.heap) (W : Wd s₀ L s m own) (hf : x ∈ free) (hv : bootBuiltins x = some (.type T)) (hn : x ≠ "__name__") (hc : isGlo sc x = true)
    (h : wpAny (model prog w) A (spliced (backTo pos (starEach (e :: rest) env))) (fun vs s₁ => wpAny (model prog w) A (call (.type T) vs) Q E s₁) E s)
    (he : eval (.Call (.Name x p1) (e :: rest) [] pos) env = (do callWith pos (← eval (.Name x p1) env) [] (backTo pos (starEach (e :: rest) env)) (backToKw pos (keywordEach [] env))))
    (hst : starEach (e :: rest) env = (false, eval e env) :: starEach rest env)
    (hplain : (backTo pos (starEach rest env)).any (·.1) = false) :
    wpAny (model prog w) A (eval (.Call (.Name x p1) (e :: rest) [] pos) env) Q E s :=
  Call_ (gBuilt V G W hf hv hn hc (callWith_type1 h hst hplain)) he
theorem gCallF {x : Str} {d : FD} {g : Addr} {p1 pos : Pos} {e : Expr} {rest : List Expr} (V : EnvL env sc L) (G : Gd p names free mg s₀.heap) (W : Wd s₀ L s m own) (hg : FnAt mg s₀.heap x d g) (hc : isGlo sc x = true)
    (h : wpAny (model prog w) A (spliced (backTo pos (starEach (e :: rest) env))) (fun vs s₁ => ∃ m own, Wd s₀ L s₁ m own ∧ (FnAt mg s₁.heap x d g → Gd p names free mg s₁.heap → wpAny (model prog w) A (call (.ref g) vs) Q E s₁)) E s)
    (he : eval (.Call (.Name x p1) (e :: rest) [] pos) env = (do callWith pos (← eval (.Name x p1) env) [] (backTo pos (starEach (e :: rest) env)) (backToKw pos (keywordEach [] env))))
    (hst : starEach (e :: rest) env = (false, eval e env) :: starEach rest env) :
    wpAny (model prog w) A (eval (.Call (.Name x p1) (e :: rest) [] pos) env) Q E s := by
  obtain ⟨o, pm, cd', doc, a, b, c⟩ := hg.fn
  refine Call_ (gGlob V G W hg.gl hc (callWith_def b (wpAny_mono h (fun vs s₁ h₁ => ?_) fun _ _ e => e) hst)) he
  obtain ⟨m, own, W', k⟩ := h₁
  exact ⟨W'.keep _ _ a, k (hg.kp W'.keep) (G.kp W'.keep)⟩
theorem gLoop {x : Str} {px : Pos} {body : List Stmt} {it : Addr} {n : Nat} {R : Result → Shared → Prop} (V : EnvL env sc L) (hh : A.handled = none) (hc : isLoc sc x = true) (J : Nat → (Str → Option Value) → List (Addr × Ow) → Prop)
    (W : Wd s₀ L s m ((it, .ob (rIter ((0 : Nat) : Int) ((n - 0 : Nat) : Int) 1)) :: own)) (h0 : J 0 m own)
    (turn : ∀ i s m own t P, i < n → J i m own → Wd s₀ L s (upd m x (.int (i : Nat) t)) ((it, P) :: own) →
      wpAny (model prog w) A (execs body env) (Turned s₀ L it P (J (i + 1)) R) NE s)
    (fin : ∀ s m own, J n m own → Wd s₀ L s m own → R (.ok .next) s) :
    codeAny (model prog w) A (.forLoop (.Name x px) (.ref it) body [] env) R s := by
  obtain ⟨c1, c2, c3⟩ := V.local hc
  rw [Nat.sub_zero] at W
  refine codeAny_forLoop (fun k s => ∃ i m own, i ≤ n ∧ k = n + 1 - i ∧ J i m own ∧ Wd s₀ L s m ((it, .ob (rIter ((i : Nat) : Int) ((n : Int) - (i : Nat)) 1)) :: own)) ?_ (n + 1) ⟨0, m, own, Nat.zero_le _, rfl, h0, by simpa using W⟩
  rintro k s ⟨i, m, own, hi, rfl, hJ, W⟩
  by_cases hlt : i < n
  · have hit := W.obj (.head _)
    refine wpAny_pyNext_range_item hit (by omega) fun h₁ hit₁ hs₁ => ?_
    have e1 : ((i + 1 : Nat) : Int) = (i : Int) + 1 := by omega
    have e2 : (n : Int) - ((i + 1 : Nat) : Int) = (n : Int) - (i : Int) - 1 := by omega
    have W₁ := W.turn (k := s.toks + 1) (w' := .ob (rIter ((i + 1 : Nat) : Int) ((n : Int) - ((i + 1 : Nat) : Int)) 1)) hs₁ (by rw [e2, e1]; exact hit₁)
    refine wpAny_assign_Name (gStore V W₁ hc fun s₂ W₂ => ?_)
    refine wpAny_mono (turn i _ m own _ _ hlt hJ W₂) (fun f s₃ h₃ => ?_) fun _ _ x => x.elim
    cases f with
    | next =>
      obtain ⟨m', own', W', hJ'⟩ := h₃
      exact ⟨n + 1 - (i + 1), by omega, i + 1, m', own', hlt, rfl, hJ', W'⟩
    | ret v => exact h₃
    | cont => exact h₃.elim
    | brk => exact h₃.elim
  · have hin : i = n := by omega
    subst hin
    refine wpAny_pyNext_range_end hh (W.obj (.head _)) (by omega) fun h₁ he₁ => wpAny_execs_nil ?_
    exact fin _ m own hJ (W.spend he₁)
/-- append, of an int to a list of ints or of any value to a list owned as it stands -/
theorem gAppend {pl : Sem Bool} {x : Str} {p1 p2 p3 p4 : Pos} {e : Expr} {rest : List Stmt} {D : Addr} {Q : Flow → Shared → Prop} (V : EnvL env sc L) (W : Wd s₀ L s m own) (hx : m x = some (.ref D)) (hc : isLoc sc x = true) {xs₀ : List Int} (hD : (D, .li xs₀) ∈ own)
    (h : wpAny (model prog w) A (eval e env) (fun v s₁ => ∃ m own own' xs i t, v = .int i t ∧ Wd s₀ L s₁ m own ∧ Up D (.li xs) (.li (xs ++ [i])) own own' ∧ xs.length ≤ 16777216 ∧ ∀ s₂, Wd s₀ L s₂ m own' → wpAny (model prog w) A (execs rest env) Q E s₂) E s)
    (he : eval (.Call (.Attribute (.Name x p1) "append" p2) [e] [] p3) env = (do
      let ov ← eval (.Name x p1) env
      standAt p2.atName
      let (f', first) ← holding [ov] (getMethod ov "append" pl)
      callWith p3 f' first (backTo p3 (starEach [e] env)) []))
    (hs : swapsWith (.Call (.Attribute (.Name x p1) "append" p2) [e] [] p3) none p4.line env = pure false)
    (hst : starEach [e] env = (false, eval e env) :: starEach [] env) :
    wpAny (model prog w) A (execs (.Expr (.Call (.Attribute (.Name x p1) "append" p2) [e] [] p3) p4 :: rest) env) Q E s := by
  have hi : interactive env = false := by
    show (env.scope.kind == .module && _) = false
    rw [(V.local hc).1]; rfl
  refine wpAny_execs_cons (wpAny_Expr (MethodCall_ (gName V W hx hc ?_) he) hi hs)
  obtain ⟨vs, n, eD, hiD⟩ := W.mem hD
  refine getMethod_list_append eD rfl rfl ?_
  refine callWith_method1 (args_cons (wpAny_mono h (fun v s₁ h₁ => ?_) fun _ _ e => e) hst) hst
  obtain ⟨m, own, own', xs, i, t, rfl, W, U, hz, k⟩ := h₁
  exact args_nil (callAppend W U hz fun s' W' => k s' W')
theorem callAppendO {D : Addr} {vs : List Value} {n : Nat} {v : Value} {own' : List (Addr × Ow)} (W : Wd s₀ L s m own) (U : Up D (.ob (listOf vs.toArray n)) (.ob (listOf (vs ++ [v]).toArray (n + 1))) own own') (hz : vs.length ≤ 16777216)
    (h : ∀ s', Wd s₀ L s' m own' → Q .none s') : wpAny (model prog w) A (call (.builtin "list.append") [.ref D, v]) Q E s := by
  have e := W.obj U.mem
  refine append_at e (fun h' hs ho => h _ (W.turnAt U hs ?_)) ?_
  · show h'.get? D = _
    rw [ho]; simp
  · show vs.toArray.size ≤ 16777216
    rw [List.size_toArray]; exact hz
theorem gAppendO {pl : Sem Bool} {x : Str} {p1 p2 p3 p4 : Pos} {e : Expr} {rest : List Stmt} {D : Addr} {vs : List Value} {n : Nat} {Q : Flow → Shared → Prop} (V : EnvL env sc L) (W : Wd s₀ L s m own) (hx : m x = some (.ref D)) (hc : isLoc sc x = true) (hD : (D, .ob (listOf vs.toArray n)) ∈ own)
    (h : wpAny (model prog w) A (eval e env) (fun v s₁ => ∃ m own own', Wd s₀ L s₁ m own ∧ Up D (.ob (listOf vs.toArray n)) (.ob (listOf (vs ++ [v]).toArray (n + 1))) own own' ∧ vs.length ≤ 16777216 ∧ ∀ s₂, Wd s₀ L s₂ m own' → wpAny (model prog w) A (execs rest env) Q E s₂) E s)
    (he : eval (.Call (.Attribute (.Name x p1) "append" p2) [e] [] p3) env = (do
      let ov ← eval (.Name x p1) env
      standAt p2.atName
      let (f', first) ← holding [ov] (getMethod ov "append" pl)
      callWith p3 f' first (backTo p3 (starEach [e] env)) []))
    (hs : swapsWith (.Call (.Attribute (.Name x p1) "append" p2) [e] [] p3) none p4.line env = pure false)
    (hst : starEach [e] env = (false, eval e env) :: starEach [] env) :
    wpAny (model prog w) A (execs (.Expr (.Call (.Attribute (.Name x p1) "append" p2) [e] [] p3) p4 :: rest) env) Q E s := by
  have hi : interactive env = false := by
    show (env.scope.kind == .module && _) = false
    rw [(V.local hc).1]; rfl
  refine wpAny_execs_cons (wpAny_Expr (MethodCall_ (gName V W hx hc ?_) he) hi hs)
  have eD := W.obj hD
  refine getMethod_list_append eD rfl rfl ?_
  refine callWith_method1 (args_cons (wpAny_mono h (fun v s₁ h₁ => ?_) fun _ _ e => e) hst) hst
  obtain ⟨m, own, own', W, U, hz, k⟩ := h₁
  exact args_nil (callAppendO W U hz fun s' W' => k s' W')
end
end
-- SjO
section
theorem keeps_refl (s : Shared) : Keeps s s := ⟨s.heap, s.toks, rfl, fun _ _ e => e⟩
theorem keeps_toks (s : Shared) (k : Nat) : Keeps s { s with toks := k } := ⟨s.heap, k, rfl, fun _ _ e => e⟩
theorem keeps_of {s s' : Shared} (k : Kp s.heap s'.heap) (r : Rest s s') : Keeps s s' := by
  obtain ⟨a, b, c⟩ := r
  refine ⟨s'.heap, s'.toks, ?_, k⟩
  cases s; cases s'
  simp only at a b c
  subst a b c
  rfl
theorem ints_paired {F : Value → Value → Prop} {g : Int → Int} (hF : ∀ i t y, F (.int i t) y → ∃ t', y = .int (g i) t') {vs : List Value} {xs : List Int} (hi : IntsAre vs xs) : ∀ {ys : List Value}, Paired F vs ys → IntsAre ys (xs.map g) := by
  induction hi with
  | nil => intro ys h; cases h; exact .nil
  | cons i t _ ih =>
    intro ys h
    cases h with
    | cons a b =>
      obtain ⟨t', rfl⟩ := hF _ _ _ a
      exact .cons _ t' (ih b)
theorem ints_at {vs : List Value} {xs : List Int} (hi : IntsAre vs xs) {k : Nat} {v : Value} (h : vs[k]? = some v) : ∃ i t, v = .int i t ∧ i ∈ xs := by
  induction hi generalizing k with
  | nil => cases h
  | cons i t _ ih =>
    cases k with
    | zero => cases h; exact ⟨i, t, rfl, .head _⟩
    | succ k => obtain ⟨j, u, e, m⟩ := ih h; exact ⟨j, u, e, .tail _ m⟩
/-- refs to lists of ints -/
noncomputable def LL (h : Heap) (ys : List Value) (xss : List (List Int)) : Prop := Paired (fun y xs => ∃ T vs, y = Value.ref T ∧ h.IsList T (List.toArray vs) ∧ IntsAre vs xs) ys xss
theorem lists_paired {h₀ h : Heap} {F : Nat → List Int} {G : Value → Array Value → Prop} (hG : ∀ z t its, G (.int ((z : Nat) : Int) t) its → IntsAre its.toList (F z)) {zs : List Nat} :
    ∀ {vs ys : List Value}, IntsAre vs (zs.map fun z => ((z : Nat) : Int)) → Paired (LstIs h₀ G h) vs ys → LL h ys (zs.map F) := by
  induction zs with
  | nil => intro vs ys hi hF; cases hi; cases hF; exact .nil
  | cons z r ih =>
    intro vs ys hi hF
    cases hi with
    | cons _ t hr =>
      cases hF with
      | cons a b =>
        obtain ⟨T, its, rfl, _, hT, g⟩ := a
        exact .cons ⟨T, its.toList, rfl, by simpa using hT, hG _ _ _ g⟩ (ih hr b)
section
variable {prog : Program} {w : World} {A : Around} {E : Value → Shared → Prop} {s₀ s : Shared} {L f : Addr} {m mg : Str → Option Value} {own : List (Addr × Ow)} {nm : Str} {sc : Scope} {cd : Value}
  {p : Program} {names free : List Str} {env : Env} {t u : Tok} {Q : Value → Shared → Prop}
theorem gCompI {elt iter : Expr} {x : Str} {px : Pos} {scope : Scope} {cl : List (Str × Addr)} {pos : Pos} (g : Int → Int) (sc' : Scope) (V : EnvL env sc L) (hsc : relabel scope env = sc') (hh : A.handled = none)
    (hclos : closureFor scope env = pure cl) (hcell : ∀ y ∈ scope.names, y.2 ≠ .cell) (hkind : scope.kind = .function) (hnames : ∀ y ∈ scope.names, y.2 = .local → scope.names.lookup y.1 = some .local) (hx : scope.names.lookup x = some .local)
    (hs : ∀ x, foldedSetIterable iter env x = pure x)
    (h : wpAny (model prog w) A (eval iter env) (fun xv s₁ => ∃ s₀ L m own r xs, xv = .ref r ∧ Wd s₀ L s₁ m own ∧ IL s₁.heap r xs ∧ xs.length ≤ 16777216 ∧
      (∀ base C s₃ m₃ i t, EnvL (compEnvC scope cl C env) sc' C → Kp s₀.heap base.heap → Wd base C s₃ m₃ [] → m₃ x = some (.int i t) → wpAny (model prog w) A (eval elt (compEnvC scope cl C env)) (fun y s₄ => (∃ t', y = .int (g i) t') ∧ Keeps s₃ s₄) NE s₃) ∧
      ∀ D s', Wd s₀ L s' m ((D, .li (xs.map g)) :: own) → Q (.ref D) s') E s) :
    wpAny (model prog w) A (eval (.ListComp elt [⟨.Name x px, iter, [], 0⟩] scope pos) env) Q E s := by
  refine wpAny_ListComp_free (fun _ => true) (fun v y => ∃ i t t', v = .int i t ∧ y = .int (g i) t') hclos hcell hkind hnames hx (wpAny_mono h (fun xv s₁ h₁ => ?_) fun _ _ e => e) hs
  obtain ⟨s₀, L, m, own, r, xs, rfl, W, hl, hz, helt, k⟩ := h₁
  obtain ⟨vs, hl, hi⟩ := hl.isList
  refine wpAny_pyIter_list hl ?_
  have hlt : r < s₁.heap.objs.size := let ⟨_, e, _⟩ := hl; Heap.lt_size e
  have up : Kp s₁.heap (s₁.heap.push { cls := .type "list_iterator", data := .fields #[.ref r, .int 0 0] }) := fun _ _ e => Heap.get?_push_of_some _ e
  have hI : ∀ b o, s₁.heap.get? b = some o → b ≠ s₁.heap.objs.size := fun b o e => Nat.ne_of_lt (Heap.lt_size e)
  refine ⟨s₁.heap.objs.size, _, _, _, _, _, rfl, Walks.list hh s₁.heap.objs.size r (Nat.ne_of_lt hlt) vs.toArray, by show vs.toArray.size ≤ 16777216; rw [List.size_toArray, hi.length]; exact hz, ⟨⟨_, Heap.get?_push_size _ rfl, rfl, rfl⟩, hl.push _⟩, fun b hb => ?_, ⟨fun C i v s₃ m₃ E' hC hP hn hm hk htk => wpAny_tests_nil ⟨rfl, keeps_refl _⟩, fun C i v s₃ m₃ E' hC hP hp hn hm hk htk => ?_⟩, fun D h' tk ys vs' hD hlD hpl hlen hP hF hk => ?_⟩
  · show b < (s₁.heap.push _).objs.size
    rw [Heap.size_push]
    rcases List.mem_cons.mp hb with rfl | hb
    · exact Nat.lt_succ_self _
    · rw [List.mem_singleton.mp hb]; exact Nat.lt_succ_of_lt hlt
  · obtain ⟨i, t, rfl, _⟩ := ints_at hi (by simpa using hP)
    have hh' : ∀ b, b ≠ s₁.heap.objs.size → (Heap.hide (s₁.heap.push { cls := .type "list_iterator", data := .fields #[.ref r, .int 0 0] }) s₁.heap.objs.size).get? b = (s₁.heap.push { cls := .type "list_iterator", data := .fields #[.ref r, .int 0 0] }).get? b := fun b hb => Heap.hide_ne _ hb
    refine noE (wpAny_mono (helt { s₃ with heap := (s₁.heap.push { cls := .type "list_iterator", data := .fields #[.ref r, .int 0 0] }).hide s₁.heap.objs.size } C s₃ m₃ i t ⟨hsc, rfl, V.glo, V.blt⟩ (fun b o e => ?_) ⟨⟨hn, fun b o e => ?_, ?_⟩, (fun _ hp => nomatch hp), .nil, ⟨rfl, rfl, rfl⟩⟩ hm) (fun y s₄ h₄ => ?_) fun _ _ e => e)
    · have e1 := W.keep b o e
      exact (hh' b (hI b o e1)).trans (up b o e1)
    · have e1 := Heap.of_hide e
      refine hk b o ?_ e1
      intro hb
      rw [List.mem_singleton.mp hb] at e
      rw [Heap.hide_self] at e
      cases e
    · show (Heap.hide _ _).objs.size ≤ C
      rw [Heap.hide_size]; exact hC
    · obtain ⟨⟨t', rfl⟩, kp⟩ := h₄
      exact ⟨⟨i, t, t', rfl, rfl⟩, kp⟩
  · have hv : vs' = vs := by
      apply List.ext_getElem?
      intro j
      cases e : vs'[j]? with
      | some v => exact (by simpa using hP j v e : vs[j]? = some v).symm
      | none =>
        have := List.getElem?_eq_none_iff.mp e
        exact (List.getElem?_eq_none (by simp at hlen; omega)).symm
    subst hv
    rw [List.filter_eq_self.mpr fun _ _ => rfl] at hF
    obtain ⟨n, hD'⟩ := hpl
    refine k D _ (W.add (s' := { s₁ with heap := h', toks := tk }) (fun b o e => hk b o (fun hb => hI b o e (List.mem_singleton.mp hb)) (up b o e)) ((Rest.refl s₁).set _ _) (w := .li (xs.map g)) ⟨ys.toList, n, by simpa using hD', ints_paired (fun i t y h => ?_) hi hF⟩ ?_)
    · obtain ⟨i', t₁, t', e1, e2⟩ := h
      cases e1
      exact ⟨t', e2⟩
    · cases e : s₁.heap.get? D with
      | none => rfl
      | some o => have := up D o e; rw [hD] at this; cases this
theorem gCompL {elt iter : Expr} {x : Str} {px : Pos} {scope : Scope} {cl : List (Str × Addr)} {pos : Pos} (F : Nat → List Int) (sc' : Scope) (V : EnvL env sc L) (hsc : relabel scope env = sc') (hh : A.handled = none)
    (hclos : closureFor scope env = pure cl) (hcell : ∀ y ∈ scope.names, y.2 ≠ .cell) (hkind : scope.kind = .function) (hnames : ∀ y ∈ scope.names, y.2 = .local → scope.names.lookup y.1 = some .local) (hx : scope.names.lookup x = some .local)
    (hs : ∀ x, foldedSetIterable iter env x = pure x)
    (h : wpAny (model prog w) A (eval iter env) (fun xv s₁ => ∃ s₀ L m own r, ∃ zs : List Nat, xv = .ref r ∧ Wd s₀ L s₁ m own ∧ IL s₁.heap r (zs.map fun z => ((z : Nat) : Int)) ∧ zs.length ≤ 16777216 ∧
      (∀ s₃ C m₃ z t, EnvL (compEnvC scope cl C env) sc' C → z ∈ zs → Wd { s₃ with heap := (s₁.heap.push { cls := .type "list_iterator", data := .fields #[.ref r, .int 0 0] }).hide s₁.heap.objs.size } C s₃ m₃ [] → Kp s₁.heap ((s₁.heap.push { cls := .type "list_iterator", data := .fields #[.ref r, .int 0 0] }).hide s₁.heap.objs.size) → m₃ x = some (.int ((z : Nat) : Int) t) →
        wpAny (model prog w) A (eval elt (compEnvC scope cl C env)) (fun y s₄ => (∃ T, y = .ref T ∧ s₃.heap.get? T = none ∧ IL s₄.heap T (F z)) ∧ Keeps s₃ s₄) NE s₃) ∧
      ∀ D s' ys, Wd s₀ L s' m own → s'.heap.IsList D ys.toArray → LL s'.heap ys (zs.map F) → Q (.ref D) s') E s) :
    wpAny (model prog w) A (eval (.ListComp elt [⟨.Name x px, iter, [], 0⟩] scope pos) env) Q E s := by
  refine wpAny_ListComp_freeO (fun _ => true) (fun v its => ∃ z : Nat, ∃ t, v = .int ((z : Nat) : Int) t ∧ IntsAre its.toList (F z)) hclos hcell hkind hnames hx (wpAny_mono h (fun xv s₁ h₁ => ?_) fun _ _ e => e) hs
  obtain ⟨s₀, L, m, own, r, zs, rfl, W, hl, hz, helt, k⟩ := h₁
  obtain ⟨vs, hl, hi⟩ := hl.isList
  have hlen0 : vs.length = zs.length := by rw [hi.length, List.length_map]
  refine wpAny_pyIter_list hl ?_
  have hlt : r < s₁.heap.objs.size := let ⟨_, e, _⟩ := hl; Heap.lt_size e
  have up : Kp s₁.heap (s₁.heap.push { cls := .type "list_iterator", data := .fields #[.ref r, .int 0 0] }) := fun _ _ e => Heap.get?_push_of_some _ e
  have hI : ∀ b o, s₁.heap.get? b = some o → b ≠ s₁.heap.objs.size := fun b o e => Nat.ne_of_lt (Heap.lt_size e)
  refine ⟨s₁.heap.objs.size, _, _, _, _, _, rfl, Walks.list hh s₁.heap.objs.size r (Nat.ne_of_lt hlt) vs.toArray, by show vs.toArray.size ≤ 16777216; rw [List.size_toArray, hlen0]; exact hz, fun i h st b hb => ?_, ⟨⟨_, Heap.get?_push_size _ rfl, rfl, rfl⟩, hl.push _⟩, fun b hb => ?_, ⟨fun C i v s₃ m₃ E' hC hP hn hm hk htk => wpAny_tests_nil ⟨rfl, keeps_refl _⟩, fun C i v s₃ m₃ E' hC hP hp hn hm hk htk => ?_⟩, fun D h' tk ys vs' hD hlD hpl hlen hP hF hnd hne hk => ?_⟩
  · rw [List.mem_singleton.mp hb]
    obtain ⟨o, e, _⟩ := st.1
    exact ⟨o, e⟩
  · show b < (s₁.heap.push _).objs.size
    rw [Heap.size_push]
    rcases List.mem_cons.mp hb with rfl | hb
    · exact Nat.lt_succ_self _
    · rw [List.mem_singleton.mp hb]; exact Nat.lt_succ_of_lt hlt
  · obtain ⟨i, t, rfl, hmem⟩ := ints_at hi (by simpa using hP)
    obtain ⟨z, hzm, rfl⟩ := List.mem_map.mp hmem
    refine noE (wpAny_mono (helt s₃ C m₃ z t ⟨hsc, rfl, V.glo, V.blt⟩ hzm ⟨⟨hn, fun b o e => ?_, ?_⟩, (fun _ hp => nomatch hp), .nil, ⟨rfl, rfl, rfl⟩⟩ (fun b o e => (Heap.hide_ne _ (hI b o e)).trans (up b o e)) hm) (fun y s₄ h₄ => ?_) fun _ _ e => e)
    · have e1 := Heap.of_hide e
      refine hk b o ?_ e1
      intro hb
      rw [List.mem_singleton.mp hb] at e
      rw [Heap.hide_self] at e
      cases e
    · show (Heap.hide _ _).objs.size ≤ C
      rw [Heap.hide_size]; exact hC
    · obtain ⟨⟨T, rfl, hT, us, n, eT, hI⟩, kp⟩ := h₄
      exact ⟨⟨T, us.toArray, rfl, hT, PySem.IsL.isList eT, z, t, rfl, by simpa using hI⟩, kp⟩
  · have hv : vs' = vs := by
      apply List.ext_getElem?
      intro j
      cases e : vs'[j]? with
      | some v => exact (by simpa using hP j v e : vs[j]? = some v).symm
      | none =>
        have := List.getElem?_eq_none_iff.mp e
        exact (List.getElem?_eq_none (by simp at hlen; omega)).symm
    subst hv
    rw [List.filter_eq_self.mpr fun _ _ => rfl] at hF
    refine k D _ ys.toList (W.kp (s' := { s₁ with heap := h', toks := tk }) (fun b o e => hk b o (fun hb => hI b o e (List.mem_singleton.mp hb)) (up b o e)) ((Rest.refl s₁).set _ _)) (by simpa using hlD) (lists_paired (fun z t its g => ?_) hi hF)
    obtain ⟨z', t', e1, e2⟩ := g
    cases e1
    exact e2
theorem paired_get {α β : Type} {F : α → β → Prop} {xs : List α} {ys : List β} (h : Paired F xs ys) : xs.length = ys.length ∧ ∀ j (h1 : j < xs.length) (h2 : j < ys.length), F xs[j] ys[j] := by
  induction h with
  | nil => exact ⟨rfl, fun j h => absurd h (Nat.not_lt_zero _)⟩
  | cons a b ih =>
    refine ⟨congrArg (· + 1) ih.1, fun j h1 h2 => ?_⟩
    cases j with
    | zero => exact a
    | succ j => exact ih.2 j (Nat.lt_of_succ_lt_succ h1) (Nat.lt_of_succ_lt_succ h2)
theorem cNeLL {a b : Addr} {us vs : List Value} {xss : List (List Int)} {k : Nat} (R : Rm A k) (ha : s.heap.IsList a us.toArray) (hb : s.heap.IsList b vs.toArray) (ua : LL s.heap us xss) (ub : LL s.heap vs xss) (h : Q (.bool false) s) :
    wpAny (model prog w) A (compareOp .NotEq (.ref a) (.ref b)) Q E s := by
  obtain ⟨l1, g1⟩ := paired_get ua
  obtain ⟨l2, g2⟩ := paired_get ub
  have hu : A.units < cLine := by have := R.units; omega
  have hu1 : A.in1.units + 64 < cLine := by have := R.un; show A.units + _ + 64 < 9900; omega
  have e := SeqAt.RcNeAt.lists (A := A) (e := fun _ => true) ha hb (by rw [List.size_toArray, List.size_toArray, l1, l2]) hu (fun j h1 h2 => ?_)
  · exact e prog w E Q (by rw [List.all_eq_true.mpr fun _ _ => rfl]; exact h)
  · have j1 : j < us.length := by simpa using h1
    have j2 : j < vs.length := by simpa using h2
    obtain ⟨T, ts, e1, h1', i1⟩ := g1 j j1 (by omega)
    obtain ⟨T', ts', e2, h2', i2⟩ := g2 j j2 (by omega)
    have := keq_ints (A := A) h1' i1 h2' i2 hu1
    rw [decide_eq_true rfl] at this
    simp only [List.getElem_toArray]
    rw [e1, e2]
    exact this
end
end
-- SjQ
section
noncomputable abbrev dialW (l : Addr) (c : Nat) : Ow := .pr fun o => ∃ t n, o = listOf #[.int ((c : Nat) : Int) t, .ref l] n
/-- refs to owned limbs -/
noncomputable def ML (e : Nat) (rest : List (Addr × Ow)) (vs : List Value) (zs : List Nat) : Prop := Paired (fun v z => ∃ a, v = Value.ref a ∧ (a, Ow.li (lm e z)) ∈ rest) vs zs
theorem ML.get {e : Nat} {rest : List (Addr × Ow)} {vs : List Value} {zs : List Nat} (h : ML e rest vs zs) {j : Nat} (hj : j < zs.length) : ∃ a, vs[j]? = some (.ref a) ∧ (a, Ow.li (lm e (zs.getD j 0))) ∈ rest := by
  obtain ⟨l, g⟩ := paired_get h
  obtain ⟨a, e1, e2⟩ := g j (by omega) hj
  refine ⟨a, ?_, ?_⟩
  · rw [List.getElem?_eq_getElem (by omega), e1]
  · rw [List.getD_eq_getElem?_getD, List.getElem?_eq_getElem hj]; exact e2
theorem ML.len {e : Nat} {rest : List (Addr × Ow)} {vs : List Value} {zs : List Nat} (h : ML e rest vs zs) : vs.length = zs.length := (paired_get h).1
theorem ML.more {e : Nat} {rest rest' : List (Addr × Ow)} {vs : List Value} {zs : List Nat} (h : ML e rest vs zs) (k : ∀ p ∈ rest, p ∈ rest') : ML e rest' vs zs := h.mono fun _ _ ⟨a, e, q⟩ => ⟨a, e, k _ q⟩
theorem ML.snoc {e : Nat} {rest : List (Addr × Ow)} {vs : List Value} {zs : List Nat} (h : ML e rest vs zs) {a : Addr} {z : Nat} (hm : (a, Ow.li (lm e z)) ∈ rest) : ML e rest (vs ++ [.ref a]) (zs ++ [z]) := Paired.snoc h ⟨a, rfl, hm⟩
theorem Wd.soft {s₀ s : Shared} {L a : Addr} {m : Str → Option Value} {own : List (Addr × Ow)} {o : Obj} {P : Obj → Prop} (W : Wd s₀ L s m ((a, .ob o) :: own)) (h : P o) : Wd s₀ L s m ((a, .pr P) :: own) := by
  refine ⟨W.fr, fun p hp => ?_, W.nd, W.rest⟩
  rcases List.mem_cons.mp hp with rfl | hp
  · have := W.ow _ (.head _)
    exact ⟨⟨o, this.1, h⟩, this.2⟩
  · exact W.ow _ (.tail _ hp)
/-- a call has turned one owned thing and kept the rest -/
theorem Wd.called {s₀ s s' : Shared} {L d : Addr} {m : Str → Option Value} {own own' : List (Addr × Ow)} {x y : Ow} (W : Wd s₀ L s m own) (U : Up d x y own own') (k : ∀ b o, b ≠ d → s.heap.get? b = some o → s'.heap.get? b = some o) (hy : y.At s'.heap d) (r : Rest s s') : Wd s₀ L s' m own' := by
  obtain ⟨u, v, rfl, rfl⟩ := U.split
  have p1 : (u ++ (d, x) :: v).Perm ((d, x) :: (u ++ v)) := List.perm_middle
  have p2 : (u ++ (d, y) :: v).Perm ((d, y) :: (u ++ v)) := List.perm_middle
  refine Wd.perm ?_ p2
  have W := W.perm p1.symm
  have D := W.ow _ (.head _)
  have nd := List.nodup_cons.mp W.nd
  refine ⟨⟨W.fr.ns.at' fun o e => k L o (Ne.symm D.2.1) e, fun b o e => k b o ?_ (W.keep b o e), W.fr.above⟩, fun p hp => ?_, W.nd, W.rest.trans r⟩
  · rintro rfl
    have := D.2.2
    rw [e] at this; cases this
  · rcases List.mem_cons.mp hp with rfl | hp
    · exact ⟨hy, D.2⟩
    · have P := W.ow p (.tail _ hp)
      refine ⟨P.1.at fun o e => k _ o ?_ e, P.2⟩
      intro q
      exact nd.1 (List.mem_map.mpr ⟨p, hp, q⟩)
theorem notT {P Q : Prop} (h : Q) : if (!true) = true then P else Q := h
section
variable {prog : Program} {w : World} {A : Around} {E : Value → Shared → Prop} {s₀ s : Shared} {L f : Addr} {m mg : Str → Option Value} {own : List (Addr × Ow)} {nm : Str} {sc : Scope} {cd : Value}
  {p : Program} {names free : List Str} {env : Env} {t u : Tok} {Q : Value → Shared → Prop}
theorem callTurned {d l g : Addr} {c many : Nat} {M : Int} {ns : List Int} {tm : Tok} {own' : List (Addr × Ow)} (R : Rm A 1) (G : GD mg s₀.heap) (hg : FnAt mg s₀.heap (Str.ofString "_law_turned") d_law_turned.1 g) (W : Wd s₀ L s m own)
    (U : Up d (dialW l c) (dialW l (c + 1)) own own') (hl : (l, Ow.li ns) ∈ own) (hns : ns.length ≤ 1000) (hc : c ≤ 1000) (hM : M = ((many : Nat) : Int)) (hm : 0 < many) (h : ∀ s' t', Wd s₀ L s' m own' → Q (.int ((turned ns (c + 1) many : Nat) : Int) t') s') :
    wpAny (model prog w) A (call (.ref g) [.ref d, .int M tm]) Q E s := by
  subst hM
  obtain ⟨o, ho, tc, n, rfl⟩ := (W.ow _ U.mem).1
  have hne : l ≠ d := by
    rintro rfl
    obtain ⟨vs, k, e, hi⟩ := W.mem hl
    rw [ho] at e
    have e1 : #[Value.int (c : Nat) tc, .ref l] = vs.toArray := by cases e; rfl
    have e2 : vs = [Value.int (c : Nat) tc, .ref l] := by
      have := congrArg Array.toList e1
      simpa using this.symm
    subst e2
    cases hi with
    | cons _ _ r => cases r
  refine law_turned_ok (b := s₀) R W.keep (W.ow _ U.mem).2.2 G hg ho (W.mem hl) hne hns hc hm fun t' t2 s' k hd r => h s' t' (W.called U k ⟨_, hd, _, _, rfl⟩ r)
theorem obNeg {value slice : Expr} {a : Addr} {vs : List Value} {n : Nat} {k : Int} {j : Nat} {v : Value} (W : Wd s₀ L s m own) (hm : (a, Ow.ob (listOf vs.toArray n)) ∈ own) (h0 : k < 0) (hj : vs.length = j + k.natAbs) (hx : vs[j]? = some v) (hz : vs.length ≤ 1000000)
    (hs : subscripted slice false (.ref a) (.int k u) = operate [.ref a, .int k u] (getItem (.ref a) (.int k u))) (h : Q v s) :
    wpAny (model prog w) A (subscriptTail value slice (.ref a) (.int k u)) Q E s := by
  have hl := PySem.IsL.isList (W.obj hm)
  refine tail_any hl.typeIs slot_list_getitem.lookup (wpAny_getItem_list_neg hl h0 (by rw [List.size_toArray]; omega) (by omega) (by rw [List.size_toArray, show (k + (vs.length : Int)).toNat = j by omega]; simpa using hx) h) hs
theorem obNat {value slice : Expr} {a : Addr} {vs : List Value} {n j : Nat} {v : Value} (W : Wd s₀ L s m own) (hm : (a, Ow.ob (listOf vs.toArray n)) ∈ own) (hx : vs[j]? = some v) (hj : j < 1000000)
    (hs : subscripted slice false (.ref a) (.int (j : Nat) u) = operate [.ref a, .int (j : Nat) u] (getItem (.ref a) (.int (j : Nat) u))) (h : Q v s) :
    wpAny (model prog w) A (subscriptTail value slice (.ref a) (.int (j : Nat) u)) Q E s :=
  obItem W hm (by omega) (by omega) (by rw [Int.toNat_natCast]; simpa using hx) hs h
theorem obLen {a : Addr} {vs : List Value} {n : Nat} (W : Wd s₀ L s m own) (hm : (a, Ow.ob (listOf vs.toArray n)) ∈ own) (hz : vs.length ≤ 1000000) (h : ∀ s' t, Wd s₀ L s' m own → Q (.int ((vs.length : Nat) : Int) t) s') :
    wpAny (model prog w) A (call (.builtin "len") [.ref a]) Q E s := by
  have hl := PySem.IsL.isList (W.obj hm)
  refine Calls.call_len_list hl (by rw [List.size_toArray]; omega) ?_
  rw [List.size_toArray]
  exact h _ _ (W.tk.tk)
/-- the item of a list of plain numbers, from behind -/
theorem negNat {value slice : Expr} {a : Addr} {zs : List Nat} {k : Int} {j : Nat} (hl : IL s.heap a (zs.map fun z => ((z : Nat) : Int))) (h0 : k < 0) (hj : zs.length = j + k.natAbs) (hz : zs.length ≤ 1000000)
    (hs : subscripted slice false (.ref a) (.int k u) = operate [.ref a, .int k u] (getItem (.ref a) (.int k u))) (h : ∀ t, Q (.int ((zs.getD j 0 : Nat) : Int) t) s) :
    wpAny (model prog w) A (subscriptTail value slice (.ref a) (.int k u)) Q E s := by
  refine xItemNeg hl h0 (by rw [List.length_map]; omega) (by rw [List.length_map]; omega) hs fun t => ?_
  rw [List.length_map, show (k + (zs.length : Int)).toNat = j by omega, List.getD_eq_getElem?_getD, List.getElem?_map]
  have := h t
  rw [List.getD_eq_getElem?_getD, List.getElem?_eq_getElem (show j < zs.length by omega)] at this
  rw [List.getElem?_eq_getElem (show j < zs.length by omega)]
  exact this
theorem posNat {value slice : Expr} {a : Addr} {zs : List Nat} {j : Nat} (hl : IL s.heap a (zs.map fun z => ((z : Nat) : Int))) (hj : j < zs.length) (hz : zs.length ≤ 1000000)
    (hs : subscripted slice false (.ref a) (.int (j : Nat) u) = operate [.ref a, .int (j : Nat) u] (getItem (.ref a) (.int (j : Nat) u))) (h : ∀ t, Q (.int ((zs.getD j 0 : Nat) : Int) t) s) :
    wpAny (model prog w) A (subscriptTail value slice (.ref a) (.int (j : Nat) u)) Q E s := by
  refine xItem hl (by omega) (by rw [List.length_map]; omega) (by rw [List.length_map]; omega) hs fun t => ?_
  rw [Int.toNat_natCast, List.getD_eq_getElem?_getD, List.getElem?_map]
  have := h t
  rw [List.getD_eq_getElem?_getD, List.getElem?_eq_getElem hj] at this
  rw [List.getElem?_eq_getElem hj]
  exact this
/-- a list of one def's answer displayed -/
theorem eOneRef {e : Expr} {pos : Pos}
    (h : wpAny (model prog w) A (eval e env) (fun v s₁ => ∃ s₀ L m own, Wd s₀ L s₁ m own ∧ ∀ r s', Wd s₀ L s' m ((r, .ob (listOf [v].toArray 0)) :: own) → Q (.ref r) s') E s)
    (he : starEach [e] env = (false, eval e env) :: starEach [] env) : wpAny (model prog w) A (eval (.List [e] pos) env) Q E s := by
  refine List_ (args_cons (wpAny_mono h (fun v s₁ h₁ => args_nil ?_) fun _ _ e => e) he)
  obtain ⟨s₀, L, m, own, W, k⟩ := h₁
  exact wpAny_newList (k _ _ (W.push _ rfl s₁.toks)) (by show 1 ≤ 16777216; decide)
theorem cNeS {x y : Addr} {xs : List Int} {k : Nat} (R : Rm A k) (hx : IL s.heap x xs) (hy : IL s.heap y xs) (h : Q (.bool false) s) : wpAny (model prog w) A (compareOp .NotEq (.ref x) (.ref y)) Q E s :=
  cNeL R hx hy (by rw [decide_eq_true rfl]; exact h)
theorem gSliceTo {value e : Expr} {p pos : Pos}
    (h : wpAny (model prog w) A (eval value env) (fun o s₁ => wpAny (model prog w) A (eval e env) (fun v s₂ => ∃ s₀ L a vs xs k t m own, o = .ref a ∧ v = .int k t ∧ Wd s₀ L s₂ m own ∧ s₂.heap.IsList a (List.toArray vs) ∧ IntsAre vs xs ∧ 0 ≤ k ∧ xs.length ≤ 16777216 ∧
      ∀ r s', Wd s₀ L s' m ((r, .li (xs.take k.toNat)) :: own) → Q (.ref r) s') E s₁) E s)
    (ht : ∀ o r, letTemporaryGo value o r = pure ()) :
    wpAny (model prog w) A (eval (.Subscript value (.Slice none (some e) none p) pos) env) Q E s := by
  refine wpAny_Subscript_list_slice (wpAny_mono h (fun o s₁ h₁ => ?_) fun _ _ e => e) ht
  rw [evalPart_none, evalPart_some]
  refine wpAny_pure (wpAny_mono h₁ (fun v s₂ h₂ => ?_) fun _ _ e => e)
  obtain ⟨s₀, L, a, vs, xs, k, t, m, own, rfl, rfl, W, hl, hi, h0, hz, k'⟩ := h₂
  refine ⟨a, _, none, some k, rfl, hl, by show vs.toArray.size ≤ 16777216; rw [List.size_toArray, hi.length]; exact hz, .none, .int k t, ?_⟩
  have ek : k = (k.toNat : Int) := by omega
  rw [ek, slicePick_upto' vs.toArray k.toNat, ← ek, takeAll]
  have W₁ := (W.push (k := s₂.toks) { cls := .type "slice", data := .fields #[Value.none, .int k t, .none] }).pushI (k := s₂.toks) (hi.take k.toNat)
  have W₂ := W₁.drop (own' := ((s₂.heap.push { cls := .type "slice", data := .fields #[Value.none, .int k t, .none] }).objs.size, .li (xs.take k.toNat)) :: own) (.cons_cons _ (List.sublist_cons_self _ _))
  rw [Heap.size_push] at W₂
  exact k' _ _ W₂
theorem n3Add {a : Nat} (W : Wd s₀ L s m own) (h : ∀ s' t, Wd s₀ L s' m own → Q (.int ((3 + a : Nat) : Int) t) s') : wpAny (model prog w) A (binaryOp .Add (.int 3 t) (.int (a : Nat) u)) Q E s := oAdd W h
theorem n1Add {a : Nat} (W : Wd s₀ L s m own) (h : ∀ s' t, Wd s₀ L s' m own → Q (.int ((1 + a : Nat) : Int) t) s') : wpAny (model prog w) A (binaryOp .Add (.int 1 t) (.int (a : Nat) u)) Q E s := oAdd W h
theorem n6 {a : Nat} (W : Wd s₀ L s m own) (ha : a ≤ 1000000) (h : ∀ s' t, Wd s₀ L s' m own → Q (.int ((6 * a : Nat) : Int) t) s') : wpAny (model prog w) A (binaryOp .Mult (.int 6 t) (.int (a : Nat) u)) Q E s :=
  oMul W (mul_small (by decide) (by omega)) fun s' t W => h s' t W
theorem n3 {a : Nat} (W : Wd s₀ L s m own) (ha : a ≤ 1000000) (h : ∀ s' t, Wd s₀ L s' m own → Q (.int ((3 * a : Nat) : Int) t) s') : wpAny (model prog w) A (binaryOp .Mult (.int 3 t) (.int (a : Nat) u)) Q E s :=
  oMul W (mul_small (by decide) (by omega)) fun s' t W => h s' t W
theorem nModZ {z : Int} {n : Nat} (W : Wd s₀ L s m own) (h : ∀ s' t, Wd s₀ L s' m own → Q (.int ((zm z n : Nat) : Int) t) s') : wpAny (model prog w) A (binaryOp .Mod (.int z t) (.int ((2 ^ n + 1 : Nat) : Int) u)) Q E s :=
  oMod W (by have := pow_pos' n; generalize 2 ^ n = N at *; omega) fun s' t W => by
    rw [Int.fmod_eq_emod_of_nonneg _ (by have := pow_pos' n; generalize 2 ^ n = N at *; omega), ← zm_cast]
    exact h s' t W
end
end
-- SjR
theorem words20 : True := by
  k_with_none
  k_with "lk" => (first | with_reducible exact upd_eq | with_reducible assumption | ((with_reducible refine upd_ne ?_ (by decide +kernel)); k_extra "lk"))
  k_with "wd" => (with_reducible assumption)
  k_with "dk" => (decide +kernel)
  k_with "mem" => (first | with_reducible assumption | with_reducible exact List.mem_cons_self | ((with_reducible refine List.mem_cons_of_mem _ ?_); k_extra "mem"))
  k_with "il" => (first | with_reducible assumption | ((with_reducible refine' Wd.il ?Wz651 ?hz651); (case Wz651 => k_extra "wd"); (case hz651 => with_reducible assumption)) | ((with_reducible refine' Wd.mem ?Wz652 ?hz652); (case Wz652 => k_extra "wd"); (case hz652 => k_extra "mem")) | ((with_reducible refine' Wd.held ?Wz653 ?hz653); (case Wz653 => k_extra "wd"); (case hz653 => k_extra "hd")) | ((with_reducible refine' il_one ?hez654 ?hz654); (case hez654 => k_extra "ar"); (case hz654 => k_extra "il1")))
  k_with "il1" => ((with_reducible refine' Wd.mem ?Wz655 ?hz655); (case Wz655 => k_extra "wd"); (case hz655 => k_extra "mem"))
  k_with "hd" => (first | with_reducible assumption | with_reducible exact Held.head | ((with_reducible refine Held.cons ?_); k_extra "hd"))
  k_with "bb" => (first | exact bb_len | exact bb_abs)
  k_with "bt" => (first | exact bb_range | exact bb_enumerate | exact bb_int)
  k_with "nx" => (intro _ _; intro _)
  k_with "ar" => (first | with_reducible assumption | with_reducible exact Int.natCast_nonneg _ | omega | decide | (simp only [dg_len, lm_len, List.length_take, List.length_append, List.length_cons, List.length_nil, List.length_replicate] at *; omega))
  k_with "up" => (first | with_reducible exact Up.head | with_reducible exact Up.tail Up.head | with_reducible exact Up.tail (Up.tail Up.head) | with_reducible exact Up.tail (Up.tail (Up.tail Up.head)) | with_reducible exact Up.tail (Up.tail (Up.tail (Up.tail Up.head))))
  k_with "bits" => (first | (have hB := bits_one; omega) | omega)
  k_with "ev" => (first
  | ((with_reducible refine' eName ?Wz656 ?hvz656 ?hcz656 ?_); (case Wz656 => k_extra "wd"); (case hvz656 => k_extra "lk"); (case hcz656 => k_extra "dk"))
  | ((with_reducible refine' eInt ?Wz657 ?_); (case Wz657 => k_extra "wd"); intro _ _ _)
  | with_reducible refine Constant_bool ?_
  | with_reducible refine' wpAny_BinOp ?_
  | ((with_reducible refine' wpAny_Compare1 ?_ ?hmz659); (case hmz659 => exact rfl))
  | with_reducible refine' UnaryOp_ ?_
  | ((with_reducible refine' eSliceTo ?_ ?htz661); (case htz661 => (intro _ _; exact rfl)))
  | ((with_reducible refine' eSliceAll ?_ ?htz662); (case htz662 => (intro _ _; exact rfl)))
  | with_reducible refine' Subscript_ ?_
  | ((with_reducible refine' eCallB ?Gz664 ?Wz664 ?hfz664 ?hvz664 ?hnz664 ?hcz664 ?_ ?hez664 ?hstz664 ?hpz664); (case Wz664 => k_extra "wd"); (case Gz664 => k_extra "wd"); (case hfz664 => k_extra "dk"); (case hvz664 => k_extra "bb"); (case hnz664 => k_extra "dk"); (case hcz664 => k_extra "dk"); (case hez664 => exact rfl); (case hstz664 => exact rfl); (case hpz664 => exact rfl))
  | ((with_reducible refine' eCallT ?Gz665 ?Wz665 ?hfz665 ?hvz665 ?hnz665 ?hcz665 ?_ ?hez665 ?hstz665 ?hpz665); (case Wz665 => k_extra "wd"); (case Gz665 => k_extra "wd"); (case hfz665 => k_extra "dk"); (case hvz665 => k_extra "bt"); (case hnz665 => k_extra "dk"); (case hcz665 => k_extra "dk"); (case hez665 => exact rfl); (case hstz665 => exact rfl); (case hpz665 => exact rfl)))
  k_with "op" => (first
  | ((with_reducible refine' oAdd ?Wz666 ?_); (case Wz666 => k_extra "wd"); intro _ _ _)
  | ((with_reducible refine' oSub ?Wz667 ?_); (case Wz667 => k_extra "wd"); intro _ _ _)
  | ((with_reducible refine' oAnd ?Wz668 ?_); (case Wz668 => k_extra "wd"); intro _ _ _)
  | ((with_reducible refine' oOr ?Wz669 ?_); (case Wz669 => k_extra "wd"); intro _ _ _)
  | ((with_reducible refine' iAdd ?Wz670 ?_); (case Wz670 => k_extra "wd"); intro _ _ _)
  | ((with_reducible refine' iSub ?Wz671 ?_); (case Wz671 => k_extra "wd"); intro _ _ _)
  | ((with_reducible refine' iOr ?Wz672 ?_); (case Wz672 => k_extra "wd"); intro _ _ _)
  | ((with_reducible refine' oNeg ?Wz673 ?_); (case Wz673 => k_extra "wd"); intro _ _ _)
  | ((with_reducible refine' oShr ?Wz674 ?h0z674 ?_); (case Wz674 => k_extra "wd"); (case h0z674 => k_extra "ar"); intro _ _ _)
  | ((with_reducible refine' iShr ?Wz675 ?h0z675 ?_); (case Wz675 => k_extra "wd"); (case h0z675 => k_extra "ar"); intro _ _ _)
  | ((with_reducible refine' oMod ?Wz676 ?h0z676 ?_); (case Wz676 => k_extra "wd"); (case h0z676 => k_extra "ar"); intro _ _ _)
  | with_reducible refine' cLt ?_ | with_reducible refine' cGt ?_ | with_reducible refine' cGe ?_ | with_reducible refine' cLe ?_ | with_reducible refine' cEq ?_ | with_reducible refine' cNe ?_
  | with_reducible refine wpAny_truthy_bool ?_
  | ((with_reducible refine' callLen ?Wz683 ?hlz683 ?hzz683 ?_); (case Wz683 => k_extra "wd"); (case hlz683 => k_extra "il"); (case hzz683 => k_extra "ar"); intro _ _ _)
  | ((with_reducible refine' xItem ?hlz684 ?h0z684 ?h1z684 ?hzz684 ?hsz684 ?_); (case hlz684 => k_extra "il"); (case h0z684 => k_extra "ar"); (case h1z684 => k_extra "ar"); (case hzz684 => k_extra "ar"); (case hsz684 => with_unfolding_all rfl); intro _))
  k_with "cf" => (first
  | ((with_reducible refine' eCallF ?Gz685 ?Wz685 ?hgz685 ?hcz685 ?_ ?hez685 ?hstz685); (case Wz685 => k_extra "wd"); (case Gz685 => k_extra "wd"); (case hgz685 => k_extra "wd"); (case hcz685 => k_extra "dk"); (case hez685 => exact rfl); (case hstz685 => exact rfl))
  | ((with_reducible refine' ⟨_, _, ?Wz686, ?_⟩); (case Wz686 => k_extra "wd"); intro _ _))
  k_with "sm" => (first
  | ((with_reducible refine' args_cons ?_ ?hez687); (case hez687 => exact rfl))
  | with_reducible refine args_nil ?_
  | ((with_reducible refine' sSet ?hcz688 ?_ ?hsz688); (case hcz688 => k_extra "dk"); (case hsz688 => exact rfl))
  | ((with_reducible refine' sAug ?Wz689 ?hvz689 ?hcz689 ?_); (case Wz689 => k_extra "wd"); (case hvz689 => k_extra "lk"); (case hcz689 => k_extra "dk"))
  | with_reducible refine sIf ?_
  | with_reducible refine iteT ?_ | with_reducible refine iteF ?_
  | with_reducible refine sRet ?_
  | with_reducible refine sSkip ?_
  | ((with_reducible refine' wpAny_isTrue_Compare1 ?_ ?hmz690); (case hmz690 => exact rfl))
  | with_reducible refine isTrue_and_nil ?_ | with_reducible refine isTrue_or_nil ?_
  | with_reducible refine isTrue_and ?_ | with_reducible refine isTrue_or ?_ | with_reducible refine isTrue_not ?_ | with_reducible refine isTrue_IfExp ?_
  | ((with_reducible refine' isTrue_plain ?_ ?hez691); (case hez691 => exact rfl))
  | ((with_reducible refine ⟨_, _, _, (by k_extra "wd"), ?_⟩); intro _ _)
  | ((with_reducible refine' ⟨_, _, _, _, _, _, _, _, rfl, rfl, ?Wz692, ?hlz692, ?h0z692, ?hzz692, ?_⟩); (case Wz692 => k_extra "wd"); (case hlz692 => k_extra "il"); (case h0z692 => k_extra "ar"); (case hzz692 => k_extra "ar"); intro _ _ _)
  | ((with_reducible refine' ⟨_, _, _, _, _, _, rfl, ?Wz693, ?Uz693, ?hzz693, ?_⟩); (case Wz693 => k_extra "wd"); (case Uz693 => k_extra "up"); (case hzz693 => k_extra "ar"); intro _ _)
  | ((with_reducible refine' ⟨_, _, _, _, _, _, rfl, ?Wz694, ?hlz694, ?hzz694, ?_⟩); (case Wz694 => k_extra "wd"); (case hlz694 => k_extra "il"); (case hzz694 => k_extra "ar"); intro _ _ _))
  k_with "tp" => (first
  | ((with_reducible refine' sTup2 ?_ ?_ ?hhz695 ?hc1z695 ?hc2z695 ?_ ?hsz695 ?hwz695 ?h1z695 ?h2z695); (case hwz695 => exact rfl); (case hhz695 => exact Rm.hd (by assumption)); (case hc1z695 => k_extra "dk"); (case hc2z695 => k_extra "dk"); (case hsz695 => exact rfl); (case h1z695 => exact rfl); (case h2z695 => exact rfl))
  | ((with_reducible refine' sTup3 ?_ ?_ ?_ ?hhz696 ?hc1z696 ?hc2z696 ?hc3z696 ?_ ?hsz696 ?hwz696 ?h1z696 ?h2z696 ?h3z696); (case hwz696 => exact rfl); (case hhz696 => exact Rm.hd (by assumption)); (case hc1z696 => k_extra "dk"); (case hc2z696 => k_extra "dk"); (case hc3z696 => k_extra "dk"); (case hsz696 => exact rfl); (case h1z696 => exact rfl); (case h2z696 => exact rfl); (case h3z696 => exact rfl))
  | ((with_reducible refine' eNil ?Wz697 ?_); (case Wz697 => k_extra "wd"); intro _ _ _)
  | ((with_reducible refine' oShl ?Wz698 ?h0z698 ?hsz698 ?_); (case Wz698 => k_extra "wd"); (case h0z698 => k_extra "ar"); (case hsz698 => k_extra "bits"); intro _ _ _)
  | ((with_reducible refine' sAppend ?Wz699 ?hxz699 ?hcz699 ?hDz699 ?_ ?hez699 ?hsz699 ?hstz699); (case Wz699 => k_extra "wd"); (case hxz699 => k_extra "lk"); (case hDz699 => k_extra "mem"); (case hcz699 => k_extra "dk"); (case hez699 => exact rfl); (case hsz699 => exact rfl); (case hstz699 => exact rfl)))
  k_with "nn" => (first
  | ((with_reducible refine' enumIter ?Wz700 ?hlz700 ?_); (case Wz700 => k_extra "wd"); (case hlz700 => k_extra "il"); intro _ _ _ _)
  | ((with_reducible refine' sSetAt ?_ ?hsz701); (case hsz701 => exact rfl))
  | ((with_reducible refine' ⟨_, _, _, _, _, _, _, _, _, _, _, rfl, rfl, rfl, ?Wz702, ?Uz702, ?hkz702, ?hzz702, ?_⟩); (case Wz702 => k_extra "wd"); (case Uz702 => k_extra "up"); (case hkz702 => k_extra "ar"); (case hzz702 => k_extra "ar"); intro _ _)
  | ((with_reducible refine' nMul ?Wz703 ?haz703 ?hbz703 ?hkz703 ?_); (case Wz703 => k_extra "wd"); (case haz703 => with_reducible assumption); (case hbz703 => with_reducible assumption); (case hkz703 => k_extra "ar"); intro _ _ _)
  | ((with_reducible refine' nItemG ?hlz704 ?hvz704 ?h1z704 ?hzz704 ?hsz704 ?_); (case hlz704 => k_extra "il"); (case hvz704 => with_reducible assumption); (case h1z704 => k_extra "ar"); (case hzz704 => k_extra "ar"); (case hsz704 => with_unfolding_all rfl); intro _)
  | ((with_reducible refine' nSub ?Wz705 ?hbz705 ?_); (case Wz705 => k_extra "wd"); (case hbz705 => k_extra "ar"); intro _ _ _)
  | ((with_reducible refine' nRep ?Wz706 ?hlz706 ?hzz706 ?_); (case Wz706 => k_extra "wd"); (case hlz706 => k_extra "il"); (case hzz706 => k_extra "ar"); intro _ _ _)
  | ((with_reducible refine' nShl ?Wz707 ?haz707 ?hkz707 ?hez707 ?_); (case Wz707 => k_extra "wd"); (case haz707 => with_reducible assumption); (case hkz707 => k_extra "ar"); (case hez707 => k_extra "ar"); intro _ _ _)
  | ((with_reducible refine' eOne ?_ ?hez708); (case hez708 => exact rfl))
  | ((with_reducible refine' ⟨_, _, _, _, _, _, rfl, ?Wz709, ?_⟩); (case Wz709 => k_extra "wd"); intro _ _ _)
  | ((with_reducible refine' iterList ?Wz710 ?hlz710 ?_); (case Wz710 => k_extra "wd"); (case hlz710 => k_extra "il"); intro _ _ _)
  | ((with_reducible refine' eBitLen ?_ ?hez711); (case hez711 => exact rfl))
  | ((with_reducible refine' nTop ?hlz712 ?hez712 ?h1z712 ?hzz712 ?hsz712 ?_); (case hlz712 => k_extra "il"); (case hez712 => k_extra "ar"); (case h1z712 => k_extra "ar"); (case hzz712 => k_extra "ar"); (case hsz712 => with_unfolding_all rfl); intro _)
  | ((with_reducible refine' oCat ?Wz713 ?haz713 ?hbz713 ?hzz713 ?_); (case Wz713 => k_extra "wd"); (case haz713 => k_extra "il"); (case hbz713 => k_extra "il"); (case hzz713 => k_extra "ar"); intro _ _ _)
  | ((with_reducible refine' oSub1 ?Wz714 ?_); (case Wz714 => k_extra "wd"); intro _ _ _)
  | ((with_reducible refine' oNeg1 ?Wz715 ?_); (case Wz715 => k_extra "wd"); intro _ _ _)
  | ((with_reducible refine' rangeIterDown ?Wz716 ?hnz716 ?_); (case Wz716 => k_extra "wd"); (case hnz716 => k_extra "ar"); intro _ _ _)
  | ((with_reducible refine' sFor ?_ ?hsz717); (case hsz717 => (intro _; exact rfl)))
  | ((with_reducible refine' rangeIter1 ?Wz718 ?hbz718 ?_); (case Wz718 => k_extra "wd"); (case hbz718 => k_extra "ar"); intro _ _ _)
  | ((with_reducible refine' rangeIter2 ?Wz719 ?haz719 ?hbz719 ?_); (case Wz719 => k_extra "wd"); (case haz719 => k_extra "ar"); (case hbz719 => k_extra "ar"); intro _ _ _)
  | ((with_reducible refine' nAdd ?Wz720 ?_); (case Wz720 => k_extra "wd"); intro _ _ _)
  | ((with_reducible refine' nAdd1 ?Wz721 ?_); (case Wz721 => k_extra "wd"); intro _ _ _)
  | ((with_reducible refine' niAdd ?Wz722 ?_); (case Wz722 => k_extra "wd"); intro _ _ _)
  | ((with_reducible refine' nShl1 ?Wz723 ?hez723 ?_); (case Wz723 => k_extra "wd"); (case hez723 => k_extra "ar"); intro _ _ _)
  | ((with_reducible refine' nShr ?Wz724 ?_); (case Wz724 => k_extra "wd"); intro _ _ _)
  | ((with_reducible refine' niShr ?Wz725 ?_); (case Wz725 => k_extra "wd"); intro _ _ _)
  | ((with_reducible refine' nAnd ?Wz726 ?_); (case Wz726 => k_extra "wd"); intro _ _ _)
  | ((with_reducible refine' nOr ?Wz727 ?haz727 ?_); (case Wz727 => k_extra "wd"); (case haz727 => k_extra "ar"); intro _ _ _)
  | ((with_reducible refine' niOr ?Wz728 ?haz728 ?_); (case Wz728 => k_extra "wd"); (case haz728 => k_extra "ar"); intro _ _ _)
  | ((with_reducible refine' nFloor ?Wz729 ?hbz729 ?hcz729 ?_); (case Wz729 => k_extra "wd"); (case hbz729 => k_extra "ar"); (case hcz729 => k_extra "ar"); intro _ _ _)
  | ((with_reducible refine' nMod ?Wz730 ?hbz730 ?_); (case Wz730 => k_extra "wd"); (case hbz730 => k_extra "ar"); intro _ _ _)
  | ((with_reducible refine' nItem ?hlz731 ?hez731 ?h1z731 ?hzz731 ?hsz731 ?_); (case hlz731 => k_extra "il"); (case hez731 => k_extra "ar"); (case h1z731 => k_extra "ar"); (case hzz731 => k_extra "ar"); (case hsz731 => with_unfolding_all rfl); intro _)
  | ((with_reducible refine' nLen ?Wz732 ?hlz732 ?hzz732 ?_); (case Wz732 => k_extra "wd"); (case hlz732 => k_extra "il"); (case hzz732 => k_extra "ar"); intro _ _ _))
  k_with "st" => (first | k_extra "ev" | k_extra "nn" | k_extra "op" | k_extra "sm" | k_extra "tp" | k_extra "cf" | k_extra "cl")
  trivial
section
theorem mod_add_back {x y N : Nat} (hx : x ≤ N) (hy : y ≤ N) : ((x + y) % (N + 1) + (N + 1 - y)) % (N + 1) = x := by
  rw [Nat.mod_add_mod, show x + y + (N + 1 - y) = x + (N + 1) by omega, Nat.add_mod_right, Nat.mod_eq_of_lt (by omega)]
theorem mod_sub_back {x y N : Nat} (hx : x ≤ N) (hy : y ≤ N) : ((x + (N + 1 - y)) % (N + 1) + y) % (N + 1) = x := by
  rw [Nat.mod_add_mod, show x + (N + 1 - y) + y = x + (N + 1) by omega, Nat.add_mod_right, Nat.mod_eq_of_lt (by omega)]
theorem mod_neg_back {x N : Nat} (hx : x ≤ N) : (N + 1 - (N + 1 - x) % (N + 1)) % (N + 1) = x := by
  rcases Nat.eq_zero_or_pos x with rfl | h
  · simp
  · rw [Nat.mod_eq_of_lt (show N + 1 - x < N + 1 by omega), show N + 1 - (N + 1 - x) = x by omega, Nat.mod_eq_of_lt (by omega)]
theorem turn_round {n : Nat} (hn : 1 ≤ n) : 2 ^ (2 * n) % (2 ^ n + 1) = 1 := by
  rw [show 2 * n = n + n by omega, Nat.pow_add]
  have hN : 2 ≤ 2 ^ n := by have := pow_le hn; simpa using this
  generalize 2 ^ n = N at *
  obtain ⟨q, rfl⟩ : ∃ q, N = q + 1 := ⟨N - 1, by omega⟩
  rw [show (q + 1) * (q + 1) = 1 + (q + 1 + 1) * q by grind, Nat.add_mul_mod_self_left, Nat.mod_eq_of_lt (by omega)]
theorem shift_back {x n : Nat} {k : Int} (hn : 1 ≤ n) (hx : x ≤ 2 ^ n) : x * 2 ^ (k % ((2 * n : Nat) : Int)).toNat % (2 ^ n + 1) * 2 ^ ((0 - k) % ((2 * n : Nat) : Int)).toNat % (2 ^ n + 1) = x := by
  have h2 : (0 : Int) < ((2 * n : Nat) : Int) := by omega
  have a1 := Int.emod_nonneg k (Int.ne_of_gt h2)
  have a2 := Int.emod_lt_of_pos k h2
  have b1 := Int.emod_nonneg (0 - k) (Int.ne_of_gt h2)
  have b2 := Int.emod_lt_of_pos (0 - k) h2
  have hs : (k % ((2 * n : Nat) : Int) + (0 - k) % ((2 * n : Nat) : Int)) % ((2 * n : Nat) : Int) = 0 := by
    rw [← Int.add_emod, show k + (0 - k) = 0 by omega]; rfl
  rw [Nat.mod_mul_mod, Nat.mul_assoc, ← Nat.pow_add]
  generalize hA : k % ((2 * n : Nat) : Int) = a at *
  generalize hB : (0 - k) % ((2 * n : Nat) : Int) = b at *
  have hc : a.toNat + b.toNat = 0 ∨ a.toNat + b.toNat = 2 * n := by
    by_cases q : a + b < ((2 * n : Nat) : Int)
    · rw [Int.emod_eq_of_lt (by omega) q] at hs; omega
    · have : (a + b) % ((2 * n : Nat) : Int) = a + b - ((2 * n : Nat) : Int) := by
        rw [← Int.sub_emod_right, Int.emod_eq_of_lt (by omega) (by omega)]
      omega
  rcases hc with h | h
  · rw [h, Nat.pow_zero, Nat.mul_one, Nat.mod_eq_of_lt (by omega)]
  · rw [h, Nat.mul_mod, turn_round hn, Nat.mul_one, Nat.mod_mod, Nat.mod_eq_of_lt (by omega)]
noncomputable def back4 (form : Nat) : Nat := if form = 0 then 1 else if form = 1 then 0 else form
theorem back4_get {form : Nat} (h : form < 4) : ([1, 0, 2, 3] : List Int).getD form 0 = ((back4 form : Nat) : Int) := by
  rcases (show form = 0 ∨ form = 1 ∨ form = 2 ∨ form = 3 by omega) with rfl | rfl | rfl | rfl <;> rfl
theorem undo {form x y n : Nat} {k : Int} (hf : form < 4) (hn : 1 ≤ n) (hx : x ≤ 2 ^ n) (hy : y ≤ 2 ^ n) : due (back4 form) (due form x y k n) y (0 - k) n = x := by
  rcases (show form = 0 ∨ form = 1 ∨ form = 2 ∨ form = 3 by omega) with rfl | rfl | rfl | rfl
  · exact mod_add_back hx hy
  · exact mod_sub_back hx hy
  · exact mod_neg_back hx
  · exact shift_back hn hx
theorem law_mul {x y a M : Nat} : x * a % M * y % M = x * y % M * a % M := by
  rw [Nat.mod_mul_mod, Nat.mod_mul_mod, Nat.mul_right_comm]
theorem law_add {x y a M : Nat} : (x * a % M + y * a % M) % M = (x + y) % M * a % M := by
  rw [← Nat.add_mod, Nat.mod_mul_mod, Nat.add_mul]
theorem law_fold {x n q : Nat} (hx : x ≤ 2 ^ n) : (x + (2 ^ n + 1) * q) % (2 ^ n + 1) = x := by
  rw [Nat.add_mul_mod_self_left, Nat.mod_eq_of_lt (by omega)]
end
-- SjS
theorem words21 : True := by
  k_with "rl" => (first | ((with_reducible refine' Wd.retL ?Wz733 ?_); (case Wz733 => k_extra "wd"); intro _ _ _) | ((with_reducible refine' Wd.retI ?Wz734 ?_); (case Wz734 => k_extra "wd"); intro _ _ _))
  k_with "rm" => (exact Rm.le (by with_reducible assumption) (by decide))
  k_with "cl" => ((with_reducible refine' normal_ok ?Rz735 ?Gz735 ?hfz735 ?haz735 ?hzz735 ?_); (case Rz735 => k_extra "rm"); (case Gz735 => k_extra "wd"); (case hfz735 => k_extra "wd"); (case haz735 => k_extra "il"); (case hzz735 => k_extra "ar"); k_extra "rl")
  k_with "cl" => ((with_reducible refine' compare_ok ?Rz736 ?Gz736 ?hfz736 ?hez736 ?hxz736 ?hyz736 ?haz736 ?hbz736 ?_); (case Rz736 => k_extra "rm"); (case Gz736 => k_extra "wd"); (case hfz736 => k_extra "wd"); (case haz736 => k_extra "il"); (case hbz736 => k_extra "il"); (case hez736 => k_extra "ar"); (case hxz736 => k_extra "ar"); (case hyz736 => k_extra "ar"); k_extra "rl")
  k_with "cl" => ((with_reducible refine' nat_of_ok ?Rz737 ?Gz737 ?hfz737 ?hez737 ?he8z737 ?hxz737 ?_); (case Rz737 => k_extra "rm"); (case Gz737 => k_extra "wd"); (case hfz737 => k_extra "wd"); (case hez737 => k_extra "ar"); (case he8z737 => k_extra "ar"); (case hxz737 => k_extra "ar"); k_extra "rl")
  k_with "cl" => ((with_reducible refine' add_ok ?Rz738 ?Gz738 ?hfz738 ?hez738 ?he8z738 ?hxz738 ?hyz738 ?haz738 ?hbz738 ?_); (case Rz738 => k_extra "rm"); (case Gz738 => k_extra "wd"); (case hfz738 => k_extra "wd"); (case haz738 => k_extra "il"); (case hbz738 => k_extra "il"); (case hez738 => k_extra "ar"); (case he8z738 => k_extra "ar"); (case hxz738 => k_extra "ar"); (case hyz738 => k_extra "ar"); k_extra "rl")
  k_with "cl" => ((with_reducible refine' sub_ok ?Rz739 ?Gz739 ?hfz739 ?hez739 ?he8z739 ?hxz739 ?hyz739 ?haz739 ?hbz739 ?_); (case Rz739 => k_extra "rm"); (case Gz739 => k_extra "wd"); (case hfz739 => k_extra "wd"); (case haz739 => k_extra "il"); (case hbz739 => k_extra "il"); (case hez739 => k_extra "ar"); (case he8z739 => k_extra "ar"); (case hxz739 => k_extra "ar"); (case hyz739 => k_extra "ar"); k_extra "rl")
  k_with "cl" => ((with_reducible refine' shift_left_ok ?Rz740 ?Gz740 ?hfz740 ?hez740 ?he8z740 ?hxz740 ?hnz740 ?haz740 ?_); (case Rz740 => k_extra "rm"); (case Gz740 => k_extra "wd"); (case hfz740 => k_extra "wd"); (case haz740 => k_extra "il"); (case hez740 => k_extra "ar"); (case he8z740 => k_extra "ar"); (case hxz740 => k_extra "ar"); (case hnz740 => k_extra "ar"); k_extra "rl")
  k_with "cl" => ((with_reducible refine' shift_right_ok ?Rz741 ?Gz741 ?hfz741 ?hez741 ?he8z741 ?hxz741 ?hnz741 ?haz741 ?_); (case Rz741 => k_extra "rm"); (case Gz741 => k_extra "wd"); (case hfz741 => k_extra "wd"); (case haz741 => k_extra "il"); (case hez741 => k_extra "ar"); (case he8z741 => k_extra "ar"); (case hxz741 => k_extra "ar"); (case hnz741 => k_extra "ar"); k_extra "rl")
  k_with "cl" => ((with_reducible refine' bits_ok ?Rz742 ?Gz742 ?hfz742 ?hez742 ?he8z742 ?hxz742 ?haz742 ?_); (case Rz742 => k_extra "rm"); (case Gz742 => k_extra "wd"); (case hfz742 => k_extra "wd"); (case haz742 => k_extra "il"); (case hez742 => k_extra "ar"); (case he8z742 => k_extra "ar"); (case hxz742 => k_extra "ar"); k_extra "rl")
  k_with "cl" => ((with_reducible refine' low_ok ?Rz743 ?Gz743 ?hfz743 ?hez743 ?he8z743 ?hxz743 ?hnz743 ?haz743 ?_); (case Rz743 => k_extra "rm"); (case Gz743 => k_extra "wd"); (case hfz743 => k_extra "wd"); (case haz743 => k_extra "il"); (case hez743 => k_extra "ar"); (case he8z743 => k_extra "ar"); (case hxz743 => k_extra "ar"); (case hnz743 => k_extra "ar"); k_extra "rl")
  k_with "cl" => ((with_reducible refine' ring_one_ok ?Rz744 ?Gz744 ?hfz744 ?hez744 ?he8z744 ?hnz744 ?_); (case Rz744 => k_extra "rm"); (case Gz744 => k_extra "wd"); (case hfz744 => k_extra "wd"); (case hez744 => k_extra "ar"); (case he8z744 => k_extra "ar"); (case hnz744 => k_extra "ar"); k_extra "rl")
  k_with "cl" => ((with_reducible refine' ring_add_ok ?Rz745 ?Gz745 ?hfz745 ?hez745 ?he8z745 ?hnz745 ?hxz745 ?hyz745 ?haz745 ?hbz745 ?_); (case Rz745 => k_extra "rm"); (case Gz745 => k_extra "wd"); (case hfz745 => k_extra "wd"); (case haz745 => k_extra "il"); (case hbz745 => k_extra "il"); (case hez745 => k_extra "ar"); (case he8z745 => k_extra "ar"); (case hnz745 => k_extra "ar"); (case hxz745 => k_extra "ar"); (case hyz745 => k_extra "ar"); k_extra "rl")
  k_with "cl" => ((with_reducible refine' ring_sub_ok ?Rz746 ?Gz746 ?hfz746 ?hez746 ?he8z746 ?hnz746 ?hxz746 ?hyz746 ?haz746 ?hbz746 ?_); (case Rz746 => k_extra "rm"); (case Gz746 => k_extra "wd"); (case hfz746 => k_extra "wd"); (case haz746 => k_extra "il"); (case hbz746 => k_extra "il"); (case hez746 => k_extra "ar"); (case he8z746 => k_extra "ar"); (case hnz746 => k_extra "ar"); (case hxz746 => k_extra "ar"); (case hyz746 => k_extra "ar"); k_extra "rl")
  k_with "cl" => ((with_reducible refine' ring_neg_ok ?Rz747 ?Gz747 ?hfz747 ?hez747 ?he8z747 ?hnz747 ?hxz747 ?haz747 ?_); (case Rz747 => k_extra "rm"); (case Gz747 => k_extra "wd"); (case hfz747 => k_extra "wd"); (case haz747 => k_extra "il"); (case hez747 => k_extra "ar"); (case he8z747 => k_extra "ar"); (case hnz747 => k_extra "ar"); (case hxz747 => k_extra "ar"); k_extra "rl")
  k_with "cl" => ((with_reducible refine' need_ring_ok ?Rz748 ?Gz748 ?hfz748 ?hnz748 ?_); (case Rz748 => k_extra "rm"); (case Gz748 => k_extra "wd"); (case hfz748 => k_extra "wd"); (case hnz748 => k_extra "ar"); ((with_reducible refine' Wd.retN ?Wz749 ?_); (case Wz749 => k_extra "wd"); intro _ _; refine ⟨rfl, ?_⟩))
  k_with "cl" => ((with_reducible refine' sExprN ?hkz750 ?_ ?hsz750); (case hkz750 => exact rfl); (case hsz750 => exact rfl))
  k_with "cl" => (with_reducible refine not_of ?_)
  k_with "cl" => ((with_reducible refine' ring_fold_ok ?Rz751 ?Gz751 ?hfz751 ?hez751 ?he8z751 ?hn1z751 ?hnz751 ?hxz751 ?haz751 ?_); (case Rz751 => k_extra "rm"); (case Gz751 => k_extra "wd"); (case hfz751 => k_extra "wd"); (case haz751 => k_extra "il"); (case hez751 => k_extra "ar"); (case he8z751 => k_extra "ar"); (case hn1z751 => k_extra "ar"); (case hnz751 => k_extra "ar"); (case hxz751 => k_extra "ar"); k_extra "rl")
  k_with "cl" => ((with_reducible refine' nPow ?Wz752 ?hez752 ?_); (case Wz752 => k_extra "wd"); (case hez752 => k_extra "ar"); intro _ _ _)
  k_with "cl" => ((with_reducible refine' cEqL ?Rz753 ?hxz753 ?hyz753 ?_); (case Rz753 => with_reducible assumption); (case hxz753 => k_extra "il"); (case hyz753 => k_extra "il"))
  k_with "cl" => ((with_reducible refine' nMul2 ?Wz754 ?haz754 ?_); (case Wz754 => k_extra "wd"); (case haz754 => k_extra "ar"); intro _ _ _)
  k_with "cl" => ((with_reducible refine' ring_shift_ok ?Rz755 ?Gz755 ?hfz755 ?hez755 ?he8z755 ?hn1z755 ?hnz755 ?hxz755 ?haz755 ?_); (case Rz755 => k_extra "rm"); (case Gz755 => k_extra "wd"); (case hfz755 => k_extra "wd"); (case haz755 => k_extra "il"); (case hez755 => k_extra "ar"); (case he8z755 => k_extra "ar"); (case hn1z755 => k_extra "ar"); (case hnz755 => k_extra "ar"); (case hxz755 => k_extra "ar"); k_extra "rl")
  k_with "cl" => ((with_reducible refine' ring_mul_ok ?Rz756 ?Gz756 ?hfz756 ?hgz756 ?hez756 ?he8z756 ?hn1z756 ?hnz756 ?hxz756 ?hyz756 ?haz756 ?hbz756 ?_); (case Rz756 => k_extra "rm"); (case Gz756 => k_extra "wd"); (case hfz756 => k_extra "wd"); (case hgz756 => k_extra "fn"); (case haz756 => k_extra "il"); (case hbz756 => k_extra "il"); (case hez756 => k_extra "ar"); (case he8z756 => k_extra "ar"); (case hn1z756 => k_extra "ar"); (case hnz756 => k_extra "ar"); (case hxz756 => k_extra "ar"); (case hyz756 => k_extra "ar"); k_extra "rl")
  k_with "fn" => (first | with_reducible assumption | (refine FnAt.kp (by assumption) (Wd.keep (by with_reducible assumption))))
  k_with "cl" => ((with_reducible refine' law_limbs_ok ?Rz757 ?Gz757 ?hfz757 ?hez757 ?he8z757 ?hxz757 ?_); (case Rz757 => k_extra "rm"); (case Gz757 => k_extra "wd"); (case hfz757 => k_extra "wd"); (case hez757 => k_extra "ar"); (case he8z757 => k_extra "ar"); (case hxz757 => k_extra "ar"); k_extra "rl")
  k_with "cl" => ((with_reducible refine' element_of_ok ?Rz758 ?Gz758 ?hfz758 ?hez758 ?he8z758 ?hn1z758 ?hnz758 ?hzz758 ?_); (case Rz758 => k_extra "rm"); (case Gz758 => k_extra "wd"); (case hfz758 => k_extra "wd"); (case hez758 => k_extra "ar"); (case he8z758 => k_extra "ar"); (case hn1z758 => k_extra "ar"); (case hnz758 => k_extra "ar"); (case hzz758 => k_extra "ar"); k_extra "rl")
  k_with "cl" => ((with_reducible refine' eGlob ?Gz759 ?Wz759 ?hvz759 ?hcz759 ?_); (case Wz759 => k_extra "wd"); (case Gz759 => k_extra "wd"); (case hvz759 => with_reducible exact FnAt.gl (by assumption)); (case hcz759 => k_extra "dk"))
  k_with "up" => (first | with_reducible exact Up.head | with_reducible exact Up.tail (by k_extra "up"))
  k_with "pk" => (first | with_reducible exact Pick.head | with_reducible exact Pick.tail (by k_extra "pk"))
  k_with "ii" => (first | exact IntsAre.nil | (refine IntsAre.cons _ _ ?_; k_extra "ii"))
  k_with "rl" => ((with_reducible refine' Wd.retB ?Wz760 ?_); (case Wz760 => k_extra "wd"); intro _ _)
  k_with "cl" => ((with_reducible refine' eIntsL ?_))
  k_with "cl" => ((with_reducible refine' ⟨_, _, _, _, _, ?Wz762, ?Iz762, ?Zz762, ?_⟩); (case Wz762 => k_extra "wd"); (case Iz762 => k_extra "ii"); (case Zz762 => (show 4 ≤ 16777216; decide)); intro _ _ _)
  k_with "cl" => ((with_reducible refine' law_due_ok ?Rz763 ?Gz763 ?hfz763 ?hfmz763 ?hn1z763 ?hnz763 ?hxz763 ?hyz763 ?_); (case Rz763 => k_extra "rm"); (case Gz763 => k_extra "wd"); (case hfz763 => k_extra "wd"); (case hfmz763 => k_extra "ar"); (case hn1z763 => k_extra "ar"); (case hnz763 => k_extra "ar"); (case hxz763 => k_extra "ar"); (case hyz763 => k_extra "ar"); k_extra "rl")
  k_with "cl" => ((with_reducible refine' law_done_ok ?Rz764 ?Gz764 ?hfz764 ?hfmz764 ?hez764 ?he8z764 ?hn1z764 ?hnz764 ?hxz764 ?hyz764 ?haz764 ?hbz764 ?_); (case Rz764 => k_extra "rm"); (case Gz764 => k_extra "wd"); (case hfz764 => k_extra "wd"); (case haz764 => k_extra "il"); (case hbz764 => k_extra "il"); (case hfmz764 => k_extra "ar"); (case hez764 => k_extra "ar"); (case he8z764 => k_extra "ar"); (case hn1z764 => k_extra "ar"); (case hnz764 => k_extra "ar"); (case hxz764 => k_extra "ar"); (case hyz764 => k_extra "ar"); k_extra "rl")
  k_with "cl" => ((with_reducible refine' law_kept_ok ?Rz765 ?Gz765 ?hfz765 ?hez765 ?he8z765 ?hn1z765 ?hnz765 ?hxz765 ?haz765 ?_); (case Rz765 => k_extra "rm"); (case Gz765 => k_extra "wd"); (case hfz765 => k_extra "wd"); (case haz765 => k_extra "il"); (case hez765 => k_extra "ar"); (case he8z765 => k_extra "ar"); (case hn1z765 => k_extra "ar"); (case hnz765 => k_extra "ar"); (case hxz765 => k_extra "ar"); k_extra "rl")
  k_with "cl" => ((with_reducible refine' callTurned ?Rz766 ?Gz766 ?hgz766 ?Wz766 ?Uz766 ?hlz766 ?hnsz766 ?hcz766 ?hMz766 ?hmz766 ?_); (case Wz766 => k_extra "wd"); (case Rz766 => k_extra "rm"); (case Gz766 => k_extra "wd"); (case hgz766 => k_extra "wd"); (case Uz766 => k_extra "up"); (case hlz766 => k_extra "mem"); (case hnsz766 => k_extra "ar"); (case hcz766 => k_extra "ar"); (case hMz766 => exact rfl); (case hmz766 => decide); intro _ _ _)
  k_with "cl" => ((with_reducible refine' callAbs ?Wz767 ?_); (case Wz767 => k_extra "wd"); intro _ _ _)
  k_with "cl" => ((with_reducible refine' obLen ?Wz768 ?hmz768 ?hzz768 ?_); (case Wz768 => k_extra "wd"); (case hmz768 => k_extra "mem"); (case hzz768 => k_extra "ar"); intro _ _ _)
  k_with "cl" => ((with_reducible refine' obNat ?Wz769 ?hmz769 ?hxz769 ?hjz769 ?hsz769 ?_); (case Wz769 => k_extra "wd"); (case hmz769 => k_extra "mem"); (case hxz769 => with_reducible assumption); (case hjz769 => k_extra "ar"); (case hsz769 => with_unfolding_all rfl))
  k_with "cl" => ((with_reducible refine' posNat ?hlz770 ?hjz770 ?hzz770 ?hsz770 ?_); (case hlz770 => k_extra "il"); (case hjz770 => k_extra "ar"); (case hzz770 => k_extra "ar"); (case hsz770 => with_unfolding_all rfl); intro _)
  k_with "cl" => ((with_reducible refine' obNeg ?Wz771 ?hmz771 ?h0z771 ?hjz771 ?hxz771 ?hzz771 ?hsz771 ?_); (case Wz771 => k_extra "wd"); (case hmz771 => k_extra "mem"); (case h0z771 => decide); (case hjz771 => with_reducible assumption); (case hxz771 => with_reducible assumption); (case hzz771 => k_extra "ar"); (case hsz771 => with_unfolding_all rfl))
  k_with "cl" => ((with_reducible refine' negNat ?hlz772 ?h0z772 ?hjz772 ?hzz772 ?hsz772 ?_); (case hlz772 => k_extra "il"); (case h0z772 => decide); (case hjz772 => with_reducible assumption); (case hzz772 => k_extra "ar"); (case hsz772 => with_unfolding_all rfl); intro _)
  k_with "cl" => ((with_reducible refine' cNeL ?Rz773 ?hxz773 ?hyz773 ?_); (case Rz773 => with_reducible assumption); (case hxz773 => k_extra "il"); (case hyz773 => k_extra "il"))
  k_with "cl" => ((with_reducible refine' cNeS ?Rz774 ?hxz774 ?hyz774 ?_); (case Rz774 => with_reducible assumption); (case hxz774 => k_extra "il"); (case hyz774 => k_extra "il"))
  k_with "cl" => (with_reducible refine notT ?_)
  k_with "cl" => ((with_reducible refine' n3Add ?Wz775 ?_); (case Wz775 => k_extra "wd"); intro _ _ _)
  k_with "cl" => ((with_reducible refine' n1Add ?Wz776 ?_); (case Wz776 => k_extra "wd"); intro _ _ _)
  k_with "cl" => ((with_reducible refine' n3 ?Wz777 ?haz777 ?_); (case Wz777 => k_extra "wd"); (case haz777 => k_extra "ar"); intro _ _ _)
  k_with "cl" => ((with_reducible refine' n6 ?Wz778 ?haz778 ?_); (case Wz778 => k_extra "wd"); (case haz778 => k_extra "ar"); intro _ _ _)
  k_with "nn" => (first
  | ((with_reducible refine' nModZ ?Wz779 ?_); (case Wz779 => k_extra "wd"); intro _ _ _)
  | ((with_reducible refine' n3Add ?Wz780 ?_); (case Wz780 => k_extra "wd"); intro _ _ _)
  | ((with_reducible refine' n1Add ?Wz781 ?_); (case Wz781 => k_extra "wd"); intro _ _ _))
  k_with "gg" => (first
  | ((with_reducible refine' gName ?Vz782 ?Wz782 ?hvz782 ?hcz782 ?_); (case Vz782 => with_reducible assumption); (case Wz782 => k_extra "wd"); (case hvz782 => k_extra "lk"); (case hcz782 => k_extra "dk"))
  | ((with_reducible refine' gCell ?Wz783 ?hmz783 ?hkz783 ?hlz783 ?hcz783 ?hdz783 ?_); (case Wz783 => k_extra "wd"); (case hcz783 => with_reducible assumption); (case hmz783 => k_extra "mem"); (case hkz783 => exact rfl); (case hlz783 => exact rfl); (case hdz783 => exact rfl))
  | ((with_reducible refine' gGlob ?Vz784 ?Gz784 ?Wz784 ?hvz784 ?hcz784 ?_); (case Vz784 => with_reducible assumption); (case Wz784 => k_extra "wd"); (case Gz784 => k_extra "wd"); (case hvz784 => with_reducible exact FnAt.gl (by assumption)); (case hcz784 => k_extra "dk"))
  | ((with_reducible refine' gSet ?Vz785 ?hcz785 ?_ ?hsz785); (case Vz785 => with_reducible assumption); (case hcz785 => k_extra "dk"); (case hsz785 => exact rfl))
  | ((with_reducible refine' gCallF ?Vz786 ?Gz786 ?Wz786 ?hgz786 ?hcz786 ?_ ?hez786 ?hstz786); (case Vz786 => with_reducible assumption); (case Wz786 => k_extra "wd"); (case Gz786 => k_extra "wd"); (case hgz786 => k_extra "wd"); (case hcz786 => k_extra "dk"); (case hez786 => exact rfl); (case hstz786 => exact rfl))
  | ((with_reducible refine' gCallB ?Vz787 ?Gz787 ?Wz787 ?hfz787 ?hvz787 ?hnz787 ?hcz787 ?_ ?hez787 ?hstz787 ?hpz787); (case Vz787 => with_reducible assumption); (case Wz787 => k_extra "wd"); (case Gz787 => k_extra "wd"); (case hfz787 => k_extra "dk"); (case hvz787 => k_extra "bb"); (case hnz787 => k_extra "dk"); (case hcz787 => k_extra "dk"); (case hez787 => exact rfl); (case hstz787 => exact rfl); (case hpz787 => exact rfl))
  | ((with_reducible refine' gCallT ?Vz788 ?Gz788 ?Wz788 ?hfz788 ?hvz788 ?hnz788 ?hcz788 ?_ ?hez788 ?hstz788 ?hpz788); (case Vz788 => with_reducible assumption); (case Wz788 => k_extra "wd"); (case Gz788 => k_extra "wd"); (case hfz788 => k_extra "dk"); (case hvz788 => k_extra "bt"); (case hnz788 => k_extra "dk"); (case hcz788 => k_extra "dk"); (case hez788 => exact rfl); (case hstz788 => exact rfl); (case hpz788 => exact rfl))
  | ((with_reducible refine' gAppend ?Vz789 ?Wz789 ?hxz789 ?hcz789 ?hDz789 ?_ ?hez789 ?hsz789 ?hstz789); (case Vz789 => with_reducible assumption); (case Wz789 => k_extra "wd"); (case hxz789 => k_extra "lk"); (case hDz789 => k_extra "mem"); (case hcz789 => k_extra "dk"); (case hez789 => exact rfl); (case hsz789 => exact rfl); (case hstz789 => exact rfl))
  | ((with_reducible refine' gAppendO ?Vz790 ?Wz790 ?hxz790 ?hcz790 ?hDz790 ?_ ?hez790 ?hsz790 ?hstz790); (case Vz790 => with_reducible assumption); (case Wz790 => k_extra "wd"); (case hxz790 => k_extra "lk"); (case hDz790 => k_extra "mem"); (case hcz790 => k_extra "dk"); (case hez790 => exact rfl); (case hsz790 => exact rfl); (case hstz790 => exact rfl))
  | ((with_reducible refine' ⟨_, _, _, (?Wz791 : Wd _ _ _ _ _), ?Uz791, ?hzz791, ?_⟩); (case Wz791 => k_extra "wd"); (case Uz791 => k_extra "up"); (case hzz791 => k_extra "ar"); intro _ _)
  | ((with_reducible refine' gAsg ?Vz792 ?Wz792 ?hcz792 ?_); (case Vz792 => with_reducible assumption); (case Wz792 => k_extra "wd"); (case hcz792 => k_extra "dk"); intro _ _)
  | ((with_reducible refine' gAsgC ?Wz793 ?Uz793 ?hkz793 ?hlz793 ?hcz793 ?_); (case Wz793 => k_extra "wd"); (case hcz793 => with_reducible assumption); (case Uz793 => k_extra "up"); (case hkz793 => exact rfl); (case hlz793 => exact rfl); intro _ _))
  k_with "st" => (first | k_extra "gg" | k_extra "ev" | k_extra "nn" | k_extra "op" | k_extra "sm" | k_extra "tp" | k_extra "cf" | k_extra "cl")
  trivial
section
set_option maxHeartbeats 8000000
noncomputable def d_law : {d : FD // fdOf pw (Str.ofString "law") = some d} := ⟨_, rfl⟩
noncomputable def theFor (l : List Stmt) : Option (List Stmt) := l.findSome? fun st => match st with
  | .For _ _ b _ _ => some b
  | _ => none
noncomputable def afterFor : List Stmt → List Stmt
  | [] => []
  | .For .. :: r => r
  | _ :: r => afterFor r
noncomputable def d_turn : {b : List Stmt // theFor d_law.1.2.1 = some b} := ⟨_, rfl⟩
noncomputable def d_after : {b : List Stmt // afterFor d_law.1.2.1 = b} := ⟨_, rfl⟩
noncomputable def LawJ (e n : Nat) (z : Int) (sl : List Int) (da la ra ma ce : Addr) (tw : Tok) (i : Nat) (m : Str → Option Value) (own : List (Addr × Ow)) : Prop :=
  ∃ zs vs nn k rest tn tk tz, own = (ma, .ob (listOf (List.toArray vs) nn)) :: (ra, .li (List.map (fun z : Nat => (z : Int)) zs)) :: (da, dialW la (4 + 2 * i)) :: rest ∧
    (ce, cellW (some (.int (e : Nat) tw))) ∈ rest ∧ (la, .li sl) ∈ rest ∧ ML e rest vs zs ∧ zs.length = i + 1 ∧ (∀ z ∈ zs, z ≤ 2 ^ n) ∧
    m (Str.ofString "dial") = some (.ref da) ∧ m (Str.ofString "n") = some (.int (n : Nat) tn) ∧ m (Str.ofString "number") = some (.int z tz) ∧ m (Str.ofString "rests") = some (.ref ra) ∧ m (Str.ofString "moments") = some (.ref ma) ∧ m (Str.ofString "k") = some (.int k tk)
theorem Wd.lst {s₀ s : Shared} {L a : Addr} {m : Str → Option Value} {own : List (Addr × Ow)} {items : Array Value} (W : Wd s₀ L s m own) (h : s₀.heap.IsList a items) : s.heap.IsList a items := W.fr.lst h
variable {prog : Program} {w : World} {A : Around} {E : Value → Shared → Prop} {s : Shared} {env : Env} {Q : Value → Shared → Prop} in
theorem eOneCall {g : Expr} {as : List Expr} {ks : List Keyword} {p pos : Pos}
    (h : wpAny (model prog w) A (eval (.Call g as ks p) env) (fun v s₁ => ∃ s₀ L m own, Wd s₀ L s₁ m own ∧ ∀ r s', Wd s₀ L s' m ((r, .ob (listOf [v].toArray 0)) :: own) → Q (.ref r) s') E s)
    (he : starEach [.Call g as ks p] env = (false, eval (.Call g as ks p) env) :: starEach [] env) : wpAny (model prog w) A (eval (.List [.Call g as ks p] pos) env) Q E s := eOneRef h he
end
-- Fturn
section
set_option maxHeartbeats 8000000
section
variable {prog : Program} {w : World} {A : Around} {E : Value → Shared → Prop} {s₀ s : Shared} {L f : Addr} {m mg : Str → Option Value} {own : List (Addr × Ow)} {nm : Str} {sc : Scope} {cd : Value}
  {p : Program} {names free : List Str} {env : Env} {t u : Tok} {Rr : Result → Shared → Prop}
theorem back4_lt {form : Nat} (h : form < 4) : back4 form < 6 := by
  rcases (show form = 0 ∨ form = 1 ∨ form = 2 ∨ form = 3 by omega) with rfl | rfl | rfl | rfl <;> decide
theorem turn_end {e n i : Nat} {z k : Int} {sl : List Int} {da la ra ma it a ce : Addr} {tw tn tk tz : Tok} {P : Ow} {vs : List Value} {nn d : Nat} {zs : List Nat} {rest rest' : List (Addr × Ow)}
    (W : Wd s₀ L s m ((it, P) :: (ma, .ob (listOf (vs ++ [Value.ref a]).toArray (nn + 1))) :: (ra, .li (List.map (fun z : Nat => (z : Int)) zs ++ [((d : Nat) : Int)])) :: (da, dialW la (4 + 2 * i + 1 + 1)) :: rest'))
    (hce : (ce, cellW (some (.int (e : Nat) tw))) ∈ rest') (hla : (la, .li sl) ∈ rest') (hsub : ∀ p ∈ rest, p ∈ rest') (hh : (a, Ow.li (lm e d)) ∈ rest') (hML : ML e rest vs zs) (hzl : zs.length = i + 1) (hzs : ∀ z ∈ zs, z ≤ 2 ^ n) (hd : d ≤ 2 ^ n)
    (m1 : m (Str.ofString "dial") = some (.ref da)) (m2 : m (Str.ofString "n") = some (.int (n : Nat) tn)) (m3 : m (Str.ofString "number") = some (.int z tz)) (m4 : m (Str.ofString "rests") = some (.ref ra)) (m5 : m (Str.ofString "moments") = some (.ref ma)) (m6 : m (Str.ofString "k") = some (.int k tk)) :
    Turned s₀ L it P (LawJ e n z sl da la ra ma ce tw (i + 1)) Rr .next s :=
  ⟨_, _, W, zs ++ [d], vs ++ [.ref a], nn + 1, k, rest', tn, tk, tz, by rw [List.map_append]; rfl, hce, hla, (hML.more hsub).snoc hh, by rw [List.length_append, hzl]; rfl, fun y hy => by
    rcases List.mem_append.mp hy with q | q
    · exact hzs y q
    · rw [List.mem_singleton.mp q]; exact hd, m1, m2, m3, m4, m5, m6⟩
noncomputable def d_tail : {b : List Stmt // d_turn.1.drop 5 = b} := ⟨_, rfl⟩
theorem tail_ok {e n i nn fm sp : Nat} {z k : Int} {sl : List Int} {da la ra ma it a : Addr} {tw tn tz tf ts tk : Tok} {P : Ow} {vs : List Value} {zs : List Nat} {rest rest' : List (Addr × Ow)} (R : Rm A 8) (G : GD mg s₀.heap) (hn1 : 1 ≤ n) (hn12 : n ≤ 12) (hi : i < 6) (hfm : fm < 6)
    (W : Wd s₀ L s m ((it, P) :: (ma, .ob (listOf vs.toArray nn)) :: (ra, .li (List.map (fun z : Nat => (z : Int)) zs)) :: (da, dialW la (4 + 2 * i + 1 + 1)) :: rest'))
    (hce : (L + 1, cellW (some (.int (e : Nat) tw))) ∈ rest') (hla : (la, .li sl) ∈ rest') (hsub : ∀ p ∈ rest, p ∈ rest') (hh : (a, Ow.li (lm e (due fm (zs.getD i 0) (zs.getD (sp % vs.length) 0) k n))) ∈ rest') (hML : ML e rest vs zs) (hzl : zs.length = i + 1) (hzs : ∀ z ∈ zs, z ≤ 2 ^ n)
    (m1 : m (Str.ofString "dial") = some (.ref da)) (m2 : m (Str.ofString "n") = some (.int (n : Nat) tn)) (m3 : m (Str.ofString "number") = some (.int z tz)) (m4 : m (Str.ofString "rests") = some (.ref ra)) (m5 : m (Str.ofString "moments") = some (.ref ma)) (m6 : m (Str.ofString "k") = some (.int k tk))
    (mf : m (Str.ofString "form") = some (.int (fm : Nat) tf)) (ms : m (Str.ofString "spot") = some (.int (sp : Nat) ts)) (mh : m (Str.ofString "here") = some (.ref a)) :
    wpAny (model prog w) A (execs d_tail.1 (envOfC (Str.ofString "law") d_law.1.2.2 L f cd)) (Turned s₀ L it P (LawJ e n z sl da la ra ma (L + 1) tw (i + 1)) Rr) NE s := by
  have V : EnvL (envOfC (Str.ofString "law") d_law.1.2.2 L f cd) d_law.1.2.2 L := ⟨rfl, rfl, rfl, rfl⟩
  have hM : 2 ^ n ≤ 2 ^ 40 := pow_le (by omega)
  obtain ⟨g5, hg5⟩ := G.fns (Str.ofString "_law_due") (by decide +kernel) _ d_law_due.2
  have hn : n ≤ 40 := by omega
  have hvl : vs.length = zs.length := hML.len
  have hj2 : zs.length = i + (-1 : Int).natAbs := by rw [hzl]; rfl
  have hjl : sp % vs.length < zs.length := by rw [← hvl]; exact Nat.mod_lt _ (by omega)
  have hxL : zs.getD i 0 ≤ 2 ^ n := by
    rw [List.getD_eq_getElem?_getD, List.getElem?_eq_getElem (by omega)]
    exact hzs _ (List.getElem_mem _)
  have hyL : zs.getD (sp % vs.length) 0 ≤ 2 ^ n := by
    rw [List.getD_eq_getElem?_getD, List.getElem?_eq_getElem hjl]
    exact hzs _ (List.getElem_mem _)
  have hdue := due_le fm (zs.getD i 0) (zs.getD (sp % vs.length) 0) k n
  have hzm : (List.map (fun z : Nat => (z : Int)) zs).length ≤ 16777216 := by rw [List.length_map]; omega
  refine gAppend V W m4 (by decide +kernel) (by k_extra "mem") ?_ rfl rfl rfl
  iterate 29 (first | k_extra "st" | fail)
  refine ⟨_, _, _, _, _, _, rfl, by k_extra "wd", by k_extra "up", hzm, fun _ _ => ?_⟩
  iterate 2 (first | k_extra "st" | fail)
  refine ⟨_, _, _, by k_extra "wd", by k_extra "up", by omega, fun _ _ => ?_⟩
  k_extra "st"
  exact turn_end (by k_extra "wd") hce hla hsub hh hML hzl hzs hdue m1 m2 m3 m4 m5 m6
theorem turn_ok {e n i : Nat} {z : Int} {sl : List Int} {da la ra ma it : Addr} {tw : Tok} {P : Ow} (R : Rm A 8) (G : GD mg s₀.heap) (he : 1 ≤ e) (he8 : e ≤ 8) (hn1 : 1 ≤ n) (hn12 : n ≤ 12) (hi : i < 6) (hsl : sl.length ≤ 1000)
    (hJ : LawJ e n z sl da la ra ma (L + 1) tw i m own) (W : Wd s₀ L s (upd m (Str.ofString "turn") (.int (i : Nat) t)) ((it, P) :: own)) :
    wpAny (model prog w) A (execs d_turn.1 (envOfC (Str.ofString "law") d_law.1.2.2 L f cd)) (Turned s₀ L it P (LawJ e n z sl da la ra ma (L + 1) tw (i + 1)) Rr) NE s := by
  have V : EnvL (envOfC (Str.ofString "law") d_law.1.2.2 L f cd) d_law.1.2.2 L := ⟨rfl, rfl, rfl, rfl⟩
  have hcW : (envOfC (Str.ofString "law") d_law.1.2.2 L f cd).cells.lookup (Str.ofString "w") = some (L + 1) := rfl
  have hn : n ≤ 40 := by omega
  have hM : 2 ^ n ≤ 2 ^ 40 := pow_le hn
  obtain ⟨g1, hg1⟩ := G.fns (Str.ofString "_law_turned") (by decide +kernel) _ d_law_turned.2
  obtain ⟨g2, hg2⟩ := G.fns (Str.ofString "_law_limbs") (by decide +kernel) _ d_law_limbs.2
  obtain ⟨g3, hg3⟩ := G.fns (Str.ofString "_law_is_kept") (by decide +kernel) _ d_law_is_kept.2
  obtain ⟨g4, hg4⟩ := G.fns (Str.ofString "_law_done") (by decide +kernel) _ d_law_done.2
  obtain ⟨g5, hg5⟩ := G.fns (Str.ofString "_law_due") (by decide +kernel) _ d_law_due.2
  obtain ⟨zs, vs, nn, k, rest, tn, tk, tz, rfl, hce, hla, hML, hzl, hzs, m1, m2, m3, m4, m5, m6⟩ := hJ
  have hvl : vs.length = zs.length := hML.len
  have hj1 : vs.length = i + (-1 : Int).natAbs := by rw [hvl, hzl]; rfl
  have hj2 : zs.length = i + (-1 : Int).natAbs := by rw [hzl]; rfl
  obtain ⟨aL, hvL, hmL⟩ := hML.get (show i < zs.length by omega)
  have hxL : zs.getD i 0 ≤ 2 ^ n := by
    rw [List.getD_eq_getElem?_getD, List.getElem?_eq_getElem (by omega)]
    exact hzs _ (List.getElem_mem _)
  have hx100 : zs.getD i 0 < 2 ^ 100 := by omega
  have hjl : turned sl (4 + 2 * i + 1 + 1) 1000 % vs.length < zs.length := by rw [← hvl]; exact Nat.mod_lt _ (by omega)
  obtain ⟨aY, hvY, hmY⟩ := hML.get hjl
  have hyL : zs.getD (turned sl (4 + 2 * i + 1 + 1) 1000 % vs.length) 0 ≤ 2 ^ n := by
    rw [List.getD_eq_getElem?_getD, List.getElem?_eq_getElem hjl]
    exact hzs _ (List.getElem_mem _)
  have hjz : turned sl (4 + 2 * i + 1 + 1) 1000 % vs.length < 1000000 := by omega
  have hfm := turned_lt (ns := sl) (c := 4 + 2 * i + 1) (many := 6) (by decide)
  refine sIf ?_
  repeat k_extra "st"
  refine gTup2 (Str.ofString "form") (Str.ofString "spot") V R.hd (by decide +kernel) (by decide +kernel) ?_ rfl rfl rfl rfl
  repeat k_extra "st"
  refine gTup2 (Str.ofString "k") (Str.ofString "there") V R.hd (by decide +kernel) (by decide +kernel) ?_ rfl rfl rfl rfl
  repeat k_extra "st"
  have hdue := due_le (turned sl (4 + 2 * i + 1) 6) (zs.getD i 0) (zs.getD (turned sl (4 + 2 * i + 1 + 1) 1000 % vs.length) 0) (((turned sl (4 + 2 * i + 1 + 1) 1000 % (6 * n + 1) : Nat) : Int) - ((3 * n : Nat) : Int)) n
  refine iteD (fun h4 => ?_) (fun h4 => ?_)
  · have hf4 : turned sl (4 + 2 * i + 1) 6 < 4 := Int.ofNat_lt.mp h4
    have hv4 := back4_get hf4
    have hv4l : turned sl (4 + 2 * i + 1) 6 < ([1, 0, 2, 3] : List Int).length := hf4
    have hv4z : ([1, 0, 2, 3] : List Int).length ≤ 1000000 := by decide
    have hb4 : back4 (turned sl (4 + 2 * i + 1) 6) < 6 := back4_lt hf4
    iterate 15 k_extra "st"
    refine ⟨_, _, _, _, _, by k_extra "wd", .cons _ _ (.cons _ _ (.cons _ _ (.cons _ _ .nil))), by show 4 ≤ 16777216; decide, fun r s W => ?_⟩
    k_extra "st"
    refine' nItemG (Wd.mem W List.mem_cons_self) hv4 hv4l hv4z ?hs ?_
    case hs => rfl
    intro t4
    repeat k_extra "st"
    rw [undo hf4 hn1 hxL hyL, decide_eq_true rfl]
    iterate 3 (first | k_extra "st" | fail)
    have W1 := Wd.pick (p := (da, dialW la (4 + 2 * i + 1 + 1))) (by k_extra "wd") (by k_extra "pk")
    have W2 := Wd.pick (p := (ra, _)) W1 (by k_extra "pk")
    have W3 := Wd.pick (p := (ma, _)) W2 (by k_extra "pk")
    exact tail_ok R G hn1 hn12 hi hfm (Wd.pick W3 (by k_extra "pk")) (by k_extra "mem") (by k_extra "mem") (fun p hp => by k_extra "mem") (by k_extra "mem") hML hzl hzs (by k_extra "lk") (by k_extra "lk") (by k_extra "lk") (by k_extra "lk") (by k_extra "lk") (by k_extra "lk") (by k_extra "lk") (by k_extra "lk") (by k_extra "lk")
  · iterate 2 (first | k_extra "st" | fail)
    have W1 := Wd.pick (p := (da, dialW la (4 + 2 * i + 1 + 1))) (by k_extra "wd") (by k_extra "pk")
    have W2 := Wd.pick (p := (ra, _)) W1 (by k_extra "pk")
    have W3 := Wd.pick (p := (ma, _)) W2 (by k_extra "pk")
    exact tail_ok R G hn1 hn12 hi hfm (Wd.pick W3 (by k_extra "pk")) (by k_extra "mem") (by k_extra "mem") (fun p hp => by k_extra "mem") (by k_extra "mem") hML hzl hzs (by k_extra "lk") (by k_extra "lk") (by k_extra "lk") (by k_extra "lk") (by k_extra "lk") (by k_extra "lk") (by k_extra "lk") (by k_extra "lk") (by k_extra "lk")
end
end
-- Fafter
section
set_option maxHeartbeats 8000000
section
variable {prog : Program} {w : World} {A : Around} {E : Value → Shared → Prop} {s₀ s : Shared} {L f : Addr} {m mg : Str → Option Value} {own : List (Addr × Ow)} {nm : Str} {sc : Scope} {cd : Value}
  {p : Program} {names free : List Str} {env : Env} {t u : Tok}
theorem ML.ll {e : Nat} {rest own : List (Addr × Ow)} {vs : List Value} {zs : List Nat} (h : ML e rest vs zs) (W : Wd s₀ L s m own) (k : ∀ p ∈ rest, p ∈ own) : LL s.heap vs (zs.map fun z => lm e z) := by
  induction h with
  | nil => exact .nil
  | cons a b ih =>
    obtain ⟨T, rfl, hm⟩ := a
    obtain ⟨us, n, eT, hI⟩ := W.mem (k _ hm)
    exact .cons ⟨T, us, rfl, PySem.IsL.isList eT, hI⟩ ih
theorem gCellB {x : Str} {pos : Pos} {v : Value} {c : Addr} {Q : Value → Shared → Prop} (W : Wd s₀ L s m own) (hv : s₀.heap.IsCell c (some v)) (hk : env.scope.kind = .function) (hl : env.kindOf x = some .cell) (hc : env.cells.lookup x = some c)
    (hd : (x == ("__debug__" : Str)) = false) (h : Q v s) : wpAny (model prog w) A (eval (.Name x pos) env) Q E s :=
  wpAny_Name (wpAny_loadName_cell hk hl hc (let ⟨o, a, b⟩ := hv; ⟨o, W.keep _ _ a, b⟩) h) hd
theorem after_ok {e n N : Nat} {z : Int} {sl : List Int} {da la ra ma : Addr} {tw : Tok} {Q : Flow → Shared → Prop} (R : Rm A 8) (G : GD mg s₀.heap) (he : 1 ≤ e) (he8 : e ≤ 8) (hn1 : 1 ≤ n) (hn12 : n ≤ 12) (hN1 : 1 ≤ N) (hN6 : N ≤ 6) (hz2 : z.natAbs ≤ 2000)
    (hJ : LawJ e n z sl da la ra ma (L + 1) tw N m own) (W : Wd s₀ L s m own) (h : ∀ s', Kp s₀.heap s'.heap → Rest s₀ s' → Q (.ret (.bool true)) s') :
    wpAny (model prog w) A (execs d_after.1 (envOfC (Str.ofString "law") d_law.1.2.2 L f cd)) Q NE s := by
  have V : EnvL (envOfC (Str.ofString "law") d_law.1.2.2 L f cd) d_law.1.2.2 L := ⟨rfl, rfl, rfl, rfl⟩
  have hcW : (envOfC (Str.ofString "law") d_law.1.2.2 L f cd).cells.lookup (Str.ofString "w") = some (L + 1) := rfl
  have hn : n ≤ 40 := by omega
  have hM : 2 ^ n ≤ 2 ^ 40 := pow_le hn
  obtain ⟨g1, hg1⟩ := G.fns (Str.ofString "_law_limbs") (by decide +kernel) _ d_law_limbs.2
  obtain ⟨g2, hg2⟩ := G.fns (Str.ofString "ring_mul") (by decide +kernel) _ d_ring_mul.2
  obtain ⟨g3, hg3⟩ := G.fns (Str.ofString "ring_shift") (by decide +kernel) _ d_ring_shift.2
  obtain ⟨g4, hg4⟩ := G.fns (Str.ofString "mul_school") (by decide +kernel) _ d_mul_school.2
  obtain ⟨g5, hg5⟩ := G.fns (Str.ofString "ring_add") (by decide +kernel) _ d_ring_add.2
  obtain ⟨g6, hg6⟩ := G.fns (Str.ofString "ring_fold") (by decide +kernel) _ d_ring_fold.2
  obtain ⟨zs, vs, nn, k, rest, tn, tk, tz, rfl, hce, hla, hML, hzl, hzs, m1, m2, m3, m4, m5, m6⟩ := hJ
  have hvl : vs.length = zs.length := hML.len
  obtain ⟨M, rfl⟩ : ∃ M, N = M + 1 := ⟨N - 1, by omega⟩
  have hj1 : vs.length = M + 1 + (-1 : Int).natAbs := by rw [hvl, hzl]; rfl
  have hj2 : vs.length = M + (-2 : Int).natAbs := by rw [hvl, hzl]; rfl
  have hj3 : zs.length = M + 1 + (-1 : Int).natAbs := by rw [hzl]; rfl
  obtain ⟨aX, hvX, hmX⟩ := hML.get (show M + 1 < zs.length by omega)
  obtain ⟨aY, hvY, hmY⟩ := hML.get (show M < zs.length by omega)
  have hxL : zs.getD (M + 1) 0 ≤ 2 ^ n := by
    rw [List.getD_eq_getElem?_getD, List.getElem?_eq_getElem (show M + 1 < zs.length by omega)]
    exact hzs _ (List.getElem_mem _)
  have hyL : zs.getD M 0 ≤ 2 ^ n := by
    rw [List.getD_eq_getElem?_getD, List.getElem?_eq_getElem (show M < zs.length by omega)]
    exact hzs _ (List.getElem_mem _)
  have hzm : (List.map (fun z : Nat => (z : Int)) zs).length ≤ 16777216 := by rw [List.length_map]; omega
  have hb : ∀ X : Nat, X % (2 ^ n + 1) ≤ 2 ^ n := fun X => Nat.le_of_lt_succ (Nat.mod_lt _ (Nat.succ_pos _))
  have ha := hb (zs.getD (M + 1) 0 * 2 ^ (k % ((2 * n : Nat) : Int)).toNat)
  have hc := hb (zs.getD M 0 * 2 ^ (k % ((2 * n : Nat) : Int)).toNat)
  have hd := hb (zs.getD (M + 1) 0 * zs.getD M 0)
  have hf := hb (zs.getD (M + 1) 0 + zs.getD M 0)
  have hp1 : 2 ^ n + 1 < 2 ^ 41 := by omega
  have hp2 : z.natAbs < 2 ^ 41 := by omega
  have hp3 : zs.getD (M + 1) 0 + (2 ^ n + 1) * z.natAbs < 2 ^ 100 := by
    have : (2 ^ n + 1) * z.natAbs ≤ (2 ^ 40 + 1) * 2000 := Nat.mul_le_mul (by omega) hz2
    omega
  refine sIf ?_
  repeat k_extra "st"
  refine gCompL (fun z => lm e z) { kind := .function, names := [(Str.ofString ".0", .local), (Str.ofString "rest", .local), (Str.ofString "_law_limbs", .globalImplicit), (Str.ofString "w", .cell)], isGenerator := false, isCoroutine := false, more := [] } V rfl R.hd rfl (by decide +kernel) (by decide +kernel) (by decide +kernel) (by decide +kernel) (fun _ => rfl) ?_
  k_extra "st"
  refine ⟨_, _, _, _, _, zs, rfl, by k_extra "wd", by k_extra "il", by omega, fun s₃ C m₃ z' t V₃ hz W₃ kp hm₃ => ?_, fun D s' ys W hD hLL => ?_⟩
  · have hz3 : z' < 2 ^ 100 := by have := hzs _ hz; omega
    have kb := fun b o q => kp b o (W.keep b o q)
    have G₃ := G.kp kb
    have hg₃ := hg1.kp kb
    obtain ⟨oc, hoc, hdc⟩ := (W.ow _ (show (L + 1, cellW (some (.int (e : Nat) tw))) ∈ _ from by k_extra "mem")).1
    refine gCallF V₃ G₃ W₃ hg₃ (by decide +kernel) ?_ rfl rfl
    repeat k_extra "st"
    refine gCellB W₃ ⟨oc, kp _ _ hoc, hdc⟩ rfl rfl rfl rfl ?_
    refine args_nil ?_
    refine ⟨_, _, W₃, fun hg' G' => ?_⟩
    exact law_limbs_ok (R.le (by decide)) G' hg' he he8 hz3 fun r s' k e n i => ⟨⟨r, rfl, n, i⟩, keeps_of k e⟩
  refine cNeLL R (PySem.IsL.isList (W.obj List.mem_cons_self)) hD (hML.ll W (fun p hp => by k_extra "mem")) hLL ?_
  repeat k_extra "st"
  dsimp only
  refine gTup2 (Str.ofString "x") (Str.ofString "y") V R.hd (by decide +kernel) (by decide +kernel) ?_ rfl rfl rfl rfl
  repeat k_extra "st"
  rw [law_mul, decide_eq_true rfl]
  refine notT ?_
  refine sSkip ?_
  dsimp only
  refine sIf ?_
  repeat k_extra "st"
  rw [law_add, decide_eq_true rfl]
  refine notT ?_
  refine sSkip ?_
  dsimp only
  refine sRet ?_
  repeat k_extra "st"
  rw [law_fold hxL, decide_eq_true rfl]
  exact h _ (Wd.keep (by k_extra "wd")) (Wd.rest (by k_extra "wd"))
end
end
-- Flaw
section
set_option maxHeartbeats 8000000
theorem words22 : True := by
  k_with "nn" => ((with_reducible refine' eOneCall ?_ ?hez794); (case hez794 => exact rfl))
  trivial
section
variable {prog : Program} {w : World} {A : Around} {E : Value → Shared → Prop} {s₀ s : Shared} {L f : Addr} {m mg : Str → Option Value} {own : List (Addr × Ow)} {nm : Str} {sc : Scope} {cd : Value}
  {p : Program} {names free : List Str} {env : Env} {t u : Tok} {Q : Flow → Shared → Prop}
theorem law_start {e n nn : Nat} {z k : Int} {sl : List Int} {da la ra ma it a ce : Addr} {tw tn tk tz : Tok} {P : Ow}
    (W : Wd s₀ L s m ((it, P) :: (ma, .ob (listOf #[Value.ref a] nn)) :: (ra, .li [((zm z n : Nat) : Int)]) :: (da, dialW la (0 + 1 + 1 + 1 + 1)) :: (a, .li (lm e (zm z n))) :: (la, .li sl) :: (ce, cellW (some (.int (e : Nat) tw))) :: []))
    (m1 : m (Str.ofString "dial") = some (.ref da)) (m2 : m (Str.ofString "n") = some (.int (n : Nat) tn)) (m3 : m (Str.ofString "number") = some (.int z tz)) (m4 : m (Str.ofString "rests") = some (.ref ra)) (m5 : m (Str.ofString "moments") = some (.ref ma)) (m6 : m (Str.ofString "k") = some (.int k tk)) :
    LawJ e n z sl da la ra ma ce tw 0 m ((ma, .ob (listOf #[Value.ref a] nn)) :: (ra, .li [((zm z n : Nat) : Int)]) :: (da, dialW la (0 + 1 + 1 + 1 + 1)) :: (a, .li (lm e (zm z n))) :: (la, .li sl) :: (ce, cellW (some (.int (e : Nat) tw))) :: []) :=
  ⟨[zm z n], [.ref a], nn, k, _, tn, tk, tz, rfl, List.mem_cons_of_mem _ (List.mem_cons_of_mem _ List.mem_cons_self), List.mem_cons_of_mem _ List.mem_cons_self, .cons ⟨a, rfl, List.mem_cons_self⟩ .nil, rfl, fun y hy => by rw [List.mem_singleton.mp hy]; exact zm_le _ _, m1, m2, m3, m4, m5, m6⟩
theorem law_walk {s' : Shared} {l : Addr} {vs : List Value} {ns : List Int} (R : Rm A 8) (G : GD mg s.heap) (W : Wd s L s' m [(L + 1, cellW none)]) (hm : m (Str.ofString "script") = some (.ref l)) (hl : s.heap.IsList l vs.toArray) (hi : IntsAre vs ns) (hlen : ns.length ≤ 1000)
    (h : ∀ s', Kp s.heap s'.heap → Rest s s' → Q (.ret (.bool true)) s') : wpAny (model prog w) A (execs d_law.1.2.1 (envOfC (Str.ofString "law") d_law.1.2.2 L f cd)) Q NE s' := by
  have V : EnvL (envOfC (Str.ofString "law") d_law.1.2.2 L f cd) d_law.1.2.2 L := ⟨rfl, rfl, rfl, rfl⟩
  have hcW : (envOfC (Str.ofString "law") d_law.1.2.2 L f cd).cells.lookup (Str.ofString "w") = some (L + 1) := rfl
  obtain ⟨g1, hg1⟩ := G.fns (Str.ofString "_law_turned") (by decide +kernel) _ d_law_turned.2
  obtain ⟨g2, hg2⟩ := G.fns (Str.ofString "element_of") (by decide +kernel) _ d_element_of.2
  refine gSet V (by decide +kernel) ?_ rfl
  refine eObL ?_
  repeat k_extra "st"
  refine gCompI (fun i => ((i.natAbs : Nat) : Int)) { kind := .function, names := [(Str.ofString ".0", .local), (Str.ofString "mark", .local), (Str.ofString "abs", .globalImplicit), (Str.ofString "int", .globalImplicit)], isGenerator := false, isCoroutine := false, more := [] } V rfl R.hd rfl (by decide +kernel) (by decide +kernel) (by decide +kernel) (by decide +kernel) (fun _ => rfl) ?_
  refine gSliceTo ?_ (fun _ _ => rfl)
  repeat k_extra "st"
  refine ⟨_, _, _, _, _, _, _, _, _, rfl, rfl, by k_extra "wd", Wd.lst (by k_extra "wd") hl, hi, by decide, by omega, fun r s W => ?_⟩
  refine ⟨_, _, _, _, _, _, rfl, by k_extra "wd", by k_extra "il", by rw [List.length_take]; omega, fun base C s₃ m₃ i t V₃ kb W₃ hm₃ => ?_, fun D s W => ?_⟩
  · have G₃ := G.kp kb
    repeat k_extra "st"
    refine call_int_int ?_
    refine args_nil ?_
    exact PyProof.Rows.call_abs_int fun u tk => ⟨⟨u, by congr 1; split <;> omega⟩, keeps_toks _ _⟩
  repeat k_extra "st"
  refine ⟨_, _, _, _, by k_extra "wd", by show 2 ≤ 16777216; decide, fun dA s W => ?_⟩
  have W := Wd.soft (P := fun o => ∃ t n, o = listOf #[.int ((0 : Nat) : Int) t, .ref D] n) W ⟨_, _, rfl⟩
  obtain ⟨sl, hsl⟩ : ∃ sl : List Int, sl = List.map (fun i => ((i.natAbs : Nat) : Int)) (List.take (Int.toNat 16) ns) := ⟨_, rfl⟩
  rw [← hsl] at W
  have hsl : sl.length ≤ 1000 := by rw [hsl, List.length_map, List.length_take]; omega
  have W := W.drop (own' := [(dA, dialW D 0), (D, .li sl), (L + 1, cellW none)]) (.cons_cons _ (.cons_cons _ (List.sublist_cons_self _ _)))
  refine ⟨_, _, _, W, fun s W => ?_⟩
  refine gTupN2 R.hd ?_ rfl rfl rfl rfl
  repeat k_extra "st"
  refine ⟨_, _, _, _, by k_extra "wd", fun s W => ?_⟩
  have he := turned_lt (ns := sl) (c := 0 + 1) (many := 6) (by decide)
  have hn := turned_lt (ns := sl) (c := 0 + 1 + 1) (many := 12) (by decide)
  have hz := turned_lt (ns := sl) (c := 0 + 1 + 1 + 1) (many := 4000) (by decide)
  have ht := turned_lt (ns := sl) (c := 0 + 1 + 1 + 1 + 1) (many := 6) (by decide)
  generalize hE : 3 + turned sl (0 + 1) 6 = e at *
  generalize hN : 1 + turned sl (0 + 1 + 1) 12 = n at *
  have he1 : 1 ≤ e := by omega
  have he8 : e ≤ 8 := by omega
  have hn1 : 1 ≤ n := by omega
  have hn12 : n ≤ 12 := by omega
  have hn40 : n ≤ 40 := by omega
  repeat k_extra "st"
  generalize hZ : ((turned sl (0 + 1 + 1 + 1) 4000 : Nat) : Int) - 2000 = z at *
  have hz100 : z.natAbs < 2 ^ 100 := by omega
  have hz2 : z.natAbs ≤ 2000 := by omega
  refine gTup3 (Str.ofString "rests") (Str.ofString "moments") (Str.ofString "k") V R.hd (by decide +kernel) (by decide +kernel) (by decide +kernel) ?_ rfl rfl rfl rfl rfl
  repeat k_extra "st"
  refine ⟨_, _, _, _, by k_extra "wd", fun ma s W => ?_⟩
  repeat k_extra "st"
  have W1 := Wd.pick (p := (dA, dialW D (0 + 1 + 1 + 1 + 1))) (by k_extra "wd") (by k_extra "pk")
  have W2 := Wd.pick (p := (_, Ow.li [((zm z n : Nat) : Int)])) W1 (by k_extra "pk")
  have W3 := Wd.pick (p := (ma, _)) W2 (by k_extra "pk")
  have W4 := Wd.pick W3 (p := (_, Ow.ob (rIter ((0 : Nat) : Int) _ 1))) (by k_extra "pk")
  refine gLoop V R.hd (by decide +kernel) _ W4 (law_start W4 (by k_extra "lk") (by k_extra "lk") (by k_extra "lk") (by k_extra "lk") (by k_extra "lk") (by k_extra "lk")) ?_ ?_
  · intro i s m own t P hi hJ W
    have hi6 : i < 6 := Nat.lt_of_lt_of_le (show i < 1 + turned sl (0 + 1 + 1 + 1 + 1) 6 from hi) (by omega)
    exact turn_ok R G he1 he8 hn1 hn12 hi6 hsl hJ W
  · intro s m own hJ W
    exact after_ok (N := 1 + turned sl (0 + 1 + 1 + 1 + 1) 6) R G he1 he8 hn1 hn12 (by omega) (by omega) hz2 hJ W h
end
end
end Sj
-- the head
namespace Sj
open PySem PySem.W PyProof.Rows
set_option maxHeartbeats 8000000
theorem recs_fd {p : Program} {names : List Str} (h : (names.map fun nm => ((recsOf p).find? (fun r => r.name == nm)).map (fun r => ((r.params, r.body, r.scope) : FD))) = names.map (fdOf pw))
    {loose : List Str} {mean : ExcName → Option Value} {mg mb : Str → Option Value} {hp : Heap} (T : Top p loose mean mg mb hp) : ∀ nm ∈ names, ∀ d, fdOf pw nm = some d → ∃ f, FnAt mg hp nm d f := by
  intro nm hn d hd
  have e := List.map_inj_left.mp h nm hn
  rw [hd] at e
  obtain ⟨r, hr, rfl⟩ := Option.map_eq_some_iff.mp e
  have hrn : r.name = nm := by have := List.find?_some hr; simpa using this
  obtain ⟨a, o, pm, code, doc, h1, h2, h3, h4⟩ := T.fn r (List.mem_of_find?_eq_some hr)
  subst hrn
  exact ⟨a, h1, o, pm, code, doc, h2, h3, h4⟩
theorem good_true {c : ClaimW} {cl : Str → Option Addr} {mean : ExcName → Option Value} {args : List WData} {s₁ s' : Shared} (k : Kp s₁.heap s'.heap) (r : Rest s₁ s') (hg : s₁.gens = #[])
    (hn : ∀ cls, c.raises args cls = false) (hp : c.post args (.bool true) args = true) : GoodW c cl mean args s₁ (.ok (.ret (.bool true))) s' :=
  ⟨.inl ⟨_, .bool true, [], rfl, hn, .bool true, hp, unshared_nil⟩, k, r.os, r.gens.trans hg⟩
theorem gd_top {p : Program} {loose : List Str} {mean : ExcName → Option Value} {mg mb : Str → Option Value} {hp : Heap} (T : Top p loose mean mg mb hp)
    (h : (fnNames.map fun nm => ((recsOf p).find? (fun r => r.name == nm)).map (fun r => ((r.params, r.body, r.scope) : FD))) = fnNames.map (fdOf pw))
    (hf : ∀ x ∈ freeNames, x ∉ startupNames ∧ x ∉ loose ∧ x ∉ (recsOf p).map (·.name) ∧ x ∉ (litsOf p).map (·.1) ∧ x ∉ (clssOf p loose).map (·.name)) : GD mg hp :=
  ⟨T.g, ⟨mb, T.b, T.builtins⟩, T.nolimit, recs_fd h T, fun x hx => let ⟨a, b, c, d, e⟩ := hf x hx; T.free x a b c d e⟩
theorem wd_head {s₁ s' : Shared} {L : Addr} {m : Str → Option Value} {c : Addr} {o : Obj} {v : Option Value} (F : Fr s₁.heap L s'.heap m) (N : News s₁.heap L s'.heap [(c, o)]) (hd : o.data = .cell v) (r : Rest s₁ s') : Wd s₁ L s' m [(c, cellW v)] := by
  refine ⟨F, fun p hp => ?_, by simp, r⟩
  obtain rfl := List.mem_singleton.mp hp
  have n := N _ (.head _)
  exact ⟨⟨o, n.1, hd⟩, n.2⟩
theorem rm_head : Rm callerA 9 := ⟨rfl, by decide +kernel, by decide +kernel⟩
theorem wordsEnd : True := by
  k_with_none
  trivial
end Sj
open PySem PySem.W PyProof.Rows
open Sj
set_option maxHeartbeats 8000000 in
theorem PySem.Challenge.cw_sj0074_01_holds : PySem.Challenge.rw_sj0074_01.Holds := by
  (w_on; o_law; o_head Hook.none; (case hw => w_witness2))
  w_strict (intro w s₀ s₁ mg mb G Y fa o pm cd doc dV kV ho hd hcd hD hmg hg args vals as hpre hlay hrd hwl hlo
            k_behind G ho hd hcd hD hmg hpre hlay hrd hwl hlo cd
            (all_goals try k_fold)
            rename Top _ _ _ _ _ _ => T
            rename Shared.gens _ = #[] => hgens
            rename Heap.IsList _ _ _ => hL
            rename IntsAre _ _ => hI
            rename Fr _ _ _ _ => F
            rename News _ _ _ _ => N
            rename Obj.data _ = Data.cell _ => hcell
            have G := gd_top T rfl (by decide +kernel)
            refine wpAny_mono (law_walk (rm_head.deeper _) G (wd_head F N hcell ⟨rfl, rfl, rfl⟩) rfl hL hI (by omega) (fun s' k r => ?_)) (fun _ _ x => x) (fun _ _ x => x.elim)
            exact good_true k r hgens (fun _ => rfl) (by wrow_post))
