import PyProof.Rows.All
import Wide.All
import OpenK.AllK
import Wide.FinOn
import PyProof.StationsW
import Lean
import PySem.Challenge.RW_pq0358_01
set_option autoImplicit false
set_option linter.unusedVariables false
set_option maxRecDepth 100000
section
set_option Elab.async false
open PySem PySem.Calls PySem.Spec PySem.W PyProof.Rows
namespace Mine
/-- pure values -/
inductive PV where
  | none
  | bool (b : Bool)
  | int (i : Int)
  | str (s : Str)
  | tup (xs : List PV)
  | lst (xs : List PV)
abbrev PH := Addr → Option (Value × Array Value)
mutual
def Rep (H : PH) : PV → Value → Prop
  | .none, v => v = .none
  | .bool b, v => v = .bool b
  | .int i, v => ∃ t, v = .int i t
  | .str s, v => ∃ t, v = .str s t
  | .tup ps, v => ∃ a vs, v = .ref a ∧ H a = some (.type "tuple", vs) ∧ Reps H ps vs.toList
  | .lst ps, v => ∃ a vs, v = .ref a ∧ H a = some (.type "list", vs) ∧ Reps H ps vs.toList
def Reps (H : PH) : List PV → List Value → Prop
  | [], vs => vs = []
  | p :: ps, vs => ∃ v r, vs = v :: r ∧ Rep H p v ∧ Reps H ps r
end
def Up (H H' : PH) : Prop := ∀ b x, H b = some x → H' b = some x
theorem Up.refl (H : PH) : Up H H := fun _ _ h => h
theorem Up.trans {H H' H'' : PH} (a : Up H H') (b : Up H' H'') : Up H H'' := fun x y h => b x y (a x y h)
mutual
theorem Rep.up {H H' : PH} (u : Up H H') : ∀ {p : PV} {v : Value}, Rep H p v → Rep H' p v
  | .none, _, h => h
  | .bool _, _, h => h
  | .int _, _, h => h
  | .str _, _, h => h
  | .tup _, _, ⟨a, vs, e, h, r⟩ => ⟨a, vs, e, u _ _ h, Reps.up u r⟩
  | .lst _, _, ⟨a, vs, e, h, r⟩ => ⟨a, vs, e, u _ _ h, Reps.up u r⟩
theorem Reps.up {H H' : PH} (u : Up H H') : ∀ {ps : List PV} {vs : List Value}, Reps H ps vs → Reps H' ps vs
  | [], _, h => h
  | _ :: _, _, ⟨v, r, e, h, t⟩ => ⟨v, r, e, Rep.up u h, Reps.up u t⟩
end
theorem Reps.length {H : PH} : ∀ {ps : List PV} {vs : List Value}, Reps H ps vs → vs.length = ps.length
  | [], _, h => by rw [show _ = [] from h]; rfl
  | _ :: ps, _, ⟨v, r, e, _, t⟩ => by rw [e, List.length_cons, List.length_cons, Reps.length t]
theorem Reps.get {H : PH} : ∀ {ps : List PV} {vs : List Value} {i : Nat} {p : PV}, Reps H ps vs → ps[i]? = some p → ∃ v, vs[i]? = some v ∧ Rep H p v
  | [], _, _, _, _, e => by simp at e
  | q :: ps, _, 0, p, ⟨v, r, e, h, _⟩, g => ⟨v, by rw [e]; rfl, by
      have : q = p := by simpa using g
      subst this; exact h⟩
  | _ :: ps, _, i + 1, p, ⟨v, r, e, _, t⟩, g => by
      obtain ⟨w, h1, h2⟩ := Reps.get (i := i) t (by simpa using g)
      exact ⟨w, by rw [e]; simpa using h1, h2⟩
theorem Reps.append {H : PH} : ∀ {ps qs : List PV} {vs ws : List Value}, Reps H ps vs → Reps H qs ws → Reps H (ps ++ qs) (vs ++ ws)
  | [], _, _, _, h, k => by rw [show _ = [] from h]; exact k
  | _ :: ps, _, _, _, ⟨v, r, e, h, t⟩, k => ⟨v, r ++ _, by rw [e]; rfl, h, Reps.append t k⟩
theorem Reps.one {H : PH} {p : PV} {v : Value} (h : Rep H p v) : Reps H [p] [v] := ⟨v, [], rfl, h, rfl⟩
/-- the pure heap lies in the heap -/
def Sub (H : PH) (h : Heap) : Prop := ∀ b c xs, H b = some (c, xs) → ∃ o n, h.get? b = some o ∧ o.cls = c ∧ o.data = .seq xs n
theorem Sub.keeps {H : PH} {h h' : Heap} (S : Sub H h) (k : ∀ b o, h.get? b = some o → h'.get? b = some o) : Sub H h' :=
  fun b c xs e => let ⟨o, n, h1, h2, h3⟩ := S b c xs e; ⟨o, n, k _ _ h1, h2, h3⟩
theorem Sub.slots {H : PH} {h h' : Heap} (S : Sub H h) (k : h.UpToSlots h') : Sub H h' := fun b c xs e => by
  obtain ⟨o, n, h1, h2, h3⟩ := S b c xs e
  obtain ⟨sl, h4⟩ := k b o h1 (fun vs q => by rw [h3] at q; cases q)
  exact ⟨_, n, h4, h2, h3⟩
theorem Sub.tup {H : PH} {h : Heap} {a : Addr} {vs : Array Value} (S : Sub H h) (e : H a = some (.type "tuple", vs)) : IsTup h a vs :=
  let ⟨o, n, h1, h2, h3⟩ := S _ _ _ e; ⟨o, h1, h2, n, h3⟩
theorem Sub.lst {H : PH} {h : Heap} {a : Addr} {vs : Array Value} (S : Sub H h) (e : H a = some (.type "list", vs)) : h.IsList a vs :=
  let ⟨o, n, h1, h2, h3⟩ := S _ _ _ e; ⟨o, h1, h2, n, h3⟩
/-- what a frame owns: a list that still grows, or the law's clock -/
inductive OV where
  | lst (ps : List PV)
  | clk (prog : Program) (w : World) (xs : List Int) (n : Nat)
/-- locals by value; at most one object of the frame's own that still changes -/
structure St where
  vars : List (Str × PV)
  own : Option (Str × OV)
def OvIn (H : PH) (h : Heap) (a : Addr) : OV → Prop
  | .lst ps => ∃ vs, PlainL h a vs ∧ Reps H ps vs.toList
  | .clk prog w xs n => ∃ o l t vs, h.get? a = some o ∧ o.IsDictOf (PySem.strKind prog w) [("script", .ref l), ("at", .int n t)] ∧ (a == sysModules) = false ∧ H l = some (.type "list", vs) ∧ IntsAre vs.toList xs
theorem OvIn.get {H : PH} {h : Heap} {a : Addr} : ∀ {v : OV}, OvIn H h a v → ∃ o, h.get? a = some o ∧ ∀ vs, o.data ≠ .fields vs
  | .lst _, ⟨_, ⟨o, n, h1, _, _, h4⟩, _⟩ => ⟨o, h1, fun vs e => by rw [h4] at e; cases e⟩
  | .clk .., ⟨o, _, _, _, h1, ⟨es, ep, _, h3, _⟩, _⟩ => ⟨o, h1, fun vs e => by rw [h3] at e; cases e⟩
theorem OvIn.keeps {H H' : PH} {h h' : Heap} {a : Addr} (u : Up H H') : ∀ {v : OV}, OvIn H h a v → (∀ o, h.get? a = some o → (∀ vs, o.data ≠ .fields vs) → h'.get? a = some o) → OvIn H' h' a v
  | .lst _, ⟨vs, ⟨o, n, h1, h2, h3, h4⟩, r⟩, k => ⟨vs, ⟨o, n, k o h1 (fun vs e => by rw [h4] at e; cases e), h2, h3, h4⟩, r.up u⟩
  | .clk .., ⟨o, l, t, vs, h1, ⟨es, ep, h2, h3, h4⟩, h5, h6, h7⟩, k => ⟨o, l, t, vs, k o h1 (fun vs e => by rw [h3] at e; cases e), ⟨es, ep, h2, h3, h4⟩, h5, u _ _ h6, h7⟩
/-- what does not change in the whole call of the law -/
structure Cx where
  prog : Program
  w : World
  K : Frag
  p : Program
  loose : List Str
  mean : ExcName → Option Value
  mg : Str → Option Value
  mb : Str → Option Value
  B : Heap
  exc : Value
  /-- the law's own frame, with none beneath it -/
  lone : Bool
structure GF (c : Cx) (h : Heap) : Prop where
  top : Top c.p c.loose c.mean c.mg c.mb h
  k : c.K.In h
  stays : c.B.StaysIn h
theorem Frag.In.keeps' {K : Frag} {h h' : Heap} (x : K.In h) (k : ∀ b o, h.get? b = some o → h'.get? b = some o) : K.In h' := fun a o e => k a o (x a o e)
theorem GF.keeps {c : Cx} {h h' : Heap} (G : GF c h) (k : ∀ b o, h.get? b = some o → h'.get? b = some o) : GF c h' :=
  ⟨G.top.keeps k, Frag.In.keeps' G.k k, fun b o e => k b o (G.stays b o e)⟩
def Room (A : Around) (d : Nat) : Prop := A.handled = none ∧ A.depth + d < 900 ∧ A.units + 16 * d < 9000
theorem Room.mono {A : Around} {d d' : Nat} (R : Room A d) (h : d' ≤ d) : Room A d' := ⟨R.1, by have := R.2.1; omega, by have := R.2.2; omega⟩
structure Ext (h₀ : Heap) (H H' : PH) : Prop where
  up : Up H H'
  old : ∀ b o, h₀.get? b = some o → H' b = H b
theorem Ext.refl (h₀ : Heap) (H : PH) : Ext h₀ H H := ⟨.refl H, fun _ _ _ => rfl⟩
theorem Ext.trans {h₀ : Heap} {H H' H'' : PH} (a : Ext h₀ H H') (b : Ext h₀ H' H'') : Ext h₀ H H'' :=
  ⟨a.up.trans b.up, fun x o e => (b.old x o e).trans (a.old x o e)⟩
def Own (h₀ : Heap) (L : Addr) (P : Addr → Obj → Prop) (H : PH) (h : Heap) (m : Str → Option Value) (x : Str) (ov : OV) : Prop :=
  ∃ a, m x = some (.ref a) ∧ OvIn H h a ov ∧ H a = none ∧ h₀.get? a = none ∧ a ≠ L ∧ ∀ o', ¬ P a o'
structure Inv (h₀ : Heap) (L : Addr) (P : Addr → Obj → Prop) (σ : St) (H : PH) (h : Heap) (m : Str → Option Value) : Prop where
  /-- what else stands and must stand -/
  prot : ∀ a o, P a o → h.get? a = some o ∧ a ≠ L
  fr : Fr h₀ L h m
  sub : Sub H h
  loc : H L = none
  vars : ∀ x p, σ.vars.lookup x = some p → ∃ v, m x = some v ∧ Rep H p v
  own : ∀ x ps, σ.own = some (x, ps) → Own h₀ L P H h m x ps
/-- an exception under way in a frame -/
inductive ExIn (base : Heap) (env : Env) (outer : List Env) (L e : Addr) (cls : Value) (h : Heap) : Prop where
  | fresh (a0 : Value) (oe : Obj) (vs : Array Value) : base.StaysIn h → base.get? e = none → h.FunFrames base (env :: outer) → h.get? e = some oe → oe.cls = cls → oe.data = .fields vs → vs[1]? = some .none → vs[0]? = some a0 → ExIn base env outer L e cls h
  | fly (a0 : Value) : Heap.FlyingW base (env :: outer) e cls a0 h → ExIn base env outer L e cls h
  | held (a0 : Value) : Heap.HeldW base (env :: outer) e cls a0 L h → ExIn base env outer L e cls h
def Belo (c : Cx) (A : Around) (outer : List Env) (h₀ : Heap) : Prop := Below A c.B outer h₀ ∧ (c.lone = true → outer = [])
/-- how an expression or a call ends -/
inductive Res (α : Type) where
  | ok (a : α)
  | exn
structure SemE (c : Cx) (d : Nat) (sc : Scope) (σ : St) (e : Expr) (r : Res PV) (σ' : St) : Prop where
  run :
  ∀ (A : Around) (outer : List Env) (nm : Str) (fa L : Addr) (cd : Value) (h₀ : Heap) (s : Shared) (P : Addr → Obj → Prop) (H : PH) (m : Str → Option Value) (Q E : Value → Shared → Prop),
    Belo c A outer h₀ → Room A d → GF c h₀ → sc.kind = .function → Inv h₀ L P σ H s.heap m →
    (match r with
      | .ok p => ∀ v h' tk' H', Inv h₀ L P σ' H' h' m → Ext h₀ H H' → Rep H' p v → Q v { s with heap := h', toks := tk' }
      | .exn => ∀ e h' tk', ExIn c.B (envOf nm sc L fa cd) outer L e c.exc h' → h₀.UpToSlots h' → E (.ref e) { s with heap := h', toks := tk' }) →
    wpAny (model c.prog c.w) (A.deeper (envOf nm sc L fa cd)) (eval e (envOf nm sc L fa cd)) Q E s
/-- a test: as `isTrue` reads it -/
structure SemT (c : Cx) (d : Nat) (sc : Scope) (σ : St) (e : Expr) (r : Res Bool) (σ' : St) : Prop where
  run :
  ∀ (A : Around) (outer : List Env) (nm : Str) (fa L : Addr) (cd : Value) (h₀ : Heap) (s : Shared) (P : Addr → Obj → Prop) (H : PH) (m : Str → Option Value) (Q : Bool → Shared → Prop) (E : Value → Shared → Prop),
    Belo c A outer h₀ → Room A d → GF c h₀ → sc.kind = .function → Inv h₀ L P σ H s.heap m →
    (match r with
      | .ok b => ∀ h' tk' H', Inv h₀ L P σ' H' h' m → Ext h₀ H H' → Q b { s with heap := h', toks := tk' }
      | .exn => ∀ e h' tk', ExIn c.B (envOf nm sc L fa cd) outer L e c.exc h' → h₀.UpToSlots h' → E (.ref e) { s with heap := h', toks := tk' }) →
    wpAny (model c.prog c.w) (A.deeper (envOf nm sc L fa cd)) (isTrue e (envOf nm sc L fa cd) (eval e (envOf nm sc L fa cd))) Q E s
/-- arguments and displays -/
structure SemL (c : Cx) (d : Nat) (sc : Scope) (σ : St) (es : List Expr) (r : Res (List PV)) (σ' : St) : Prop where
  run :
  ∀ (A : Around) (outer : List Env) (nm : Str) (fa L : Addr) (cd : Value) (h₀ : Heap) (s : Shared) (P : Addr → Obj → Prop) (H : PH) (m : Str → Option Value) (pos : Pos) (Q : List Value → Shared → Prop) (E : Value → Shared → Prop),
    Belo c A outer h₀ → Room A d → GF c h₀ → sc.kind = .function → Inv h₀ L P σ H s.heap m →
    (match r with
      | .ok ps => ∀ vs h' tk' H', Inv h₀ L P σ' H' h' m → Ext h₀ H H' → Reps H' ps vs → Q vs { s with heap := h', toks := tk' }
      | .exn => ∀ e h' tk', ExIn c.B (envOf nm sc L fa cd) outer L e c.exc h' → h₀.UpToSlots h' → E (.ref e) { s with heap := h', toks := tk' }) →
    wpAny (model c.prog c.w) (A.deeper (envOf nm sc L fa cd)) (spliced (backTo pos (starEach es (envOf nm sc L fa cd)))) Q E s
/-- flows of statements -/
inductive Fl where
  | next
  | brk
  | cont
  | ret (p : PV)
  /-- a list of the frame's own, and a second value -/
  | retF (ps : List PV) (q : PV)
def FlRep (h₀ : Heap) (H : PH) (h : Heap) : Fl → Flow → Prop
  | .next, f => f = .next
  | .brk, f => f = .brk
  | .cont, f => f = .cont
  | .ret p, f => ∃ v, f = .ret v ∧ Rep H p v
  | .retF ps q, f => ∃ t l u vs, f = .ret (.ref t) ∧ IsTup h t #[.ref l, u] ∧ PlainL h l vs ∧ H l = none ∧ h₀.get? l = none ∧ Reps H ps vs.toList ∧ Rep H q u
theorem FlRep.keeps {h₀ : Heap} {H : PH} {h : Heap} {f : Fl} {fl : Flow} (r : FlRep h₀ H h f fl) : FlRep h₀ H h f fl := r
def PostS (c : Cx) (sc : Scope) (r : Res Fl) (σ' : St) (outer : List Env) (nm : Str) (fa L : Addr) (cd : Value) (h₀ : Heap) (s : Shared) (P : Addr → Obj → Prop) (H : PH) (Q : Flow → Shared → Prop) (E : Value → Shared → Prop) : Prop :=
  match r with
  | .ok f => ∀ fl h' tk' H' m', Inv h₀ L P σ' H' h' m' → Ext h₀ H H' → FlRep h₀ H' h' f fl → Q fl { s with heap := h', toks := tk' }
  | .exn => ∀ e h' tk', ExIn c.B (envOf nm sc L fa cd) outer L e c.exc h' → h₀.UpToSlots h' → E (.ref e) { s with heap := h', toks := tk' }
structure SemS (c : Cx) (d : Nat) (sc : Scope) (σ : St) (st : Stmt) (r : Res Fl) (σ' : St) : Prop where
  run :
  ∀ (A : Around) (outer : List Env) (nm : Str) (fa L : Addr) (cd : Value) (h₀ : Heap) (s : Shared) (P : Addr → Obj → Prop) (H : PH) (m : Str → Option Value) (Q : Flow → Shared → Prop) (E : Value → Shared → Prop),
    Belo c A outer h₀ → Room A d → GF c h₀ → sc.kind = .function → Inv h₀ L P σ H s.heap m →
    PostS c sc r σ' outer nm fa L cd h₀ s P H Q E →
    wpAny (model c.prog c.w) (A.deeper (envOf nm sc L fa cd)) (exec st (envOf nm sc L fa cd)) Q E s
structure SemB (c : Cx) (d : Nat) (sc : Scope) (σ : St) (sts : List Stmt) (r : Res Fl) (σ' : St) : Prop where
  run :
  ∀ (A : Around) (outer : List Env) (nm : Str) (fa L : Addr) (cd : Value) (h₀ : Heap) (s : Shared) (P : Addr → Obj → Prop) (H : PH) (m : Str → Option Value) (Q : Flow → Shared → Prop) (E : Value → Shared → Prop),
    Belo c A outer h₀ → Room A d → GF c h₀ → sc.kind = .function → Inv h₀ L P σ H s.heap m →
    PostS c sc r σ' outer nm fa L cd h₀ s P H Q E →
    wpAny (model c.prog c.w) (A.deeper (envOf nm sc L fa cd)) (execs sts (envOf nm sc L fa cd)) Q E s
/-- the contract of a def of the text -/
def CallOk (c : Cx) (d : Nat) (fn : DefRec) (args : List PV) (r : Res PV) : Prop :=
  ∀ (A : Around) (outer : List Env) (s : Shared) (H : PH) (vs : List Value) (a : Addr) (o : Obj) (pm cd doc : Value) (Q E : Value → Shared → Prop),
    Below A c.B outer s.heap → Room A d → GF c s.heap → Sub H s.heap → Reps H args vs →
    s.heap.get? a = some o → o.data = .func (docDef fn.name fn.params fn.body fn.scope pm cd doc) → s.heap.CodeRec cd fn.name →
    (match r with
      | .ok p => ∀ v h' tk' H', (∀ b o, s.heap.get? b = some o → h'.get? b = some o) → Sub H' h' → Ext s.heap H H' → Rep H' p v → Q v { s with heap := h', toks := tk' }
      | .exn => ∀ e a0 h' tk', Heap.FlyingW c.B outer e c.exc a0 h' → s.heap.UpToSlots h' → E (.ref e) { s with heap := h', toks := tk' }) →
    wpAny (model c.prog c.w) A (call (.ref a) vs) Q E s
end Mine
end
section
set_option Elab.async false
open PySem PySem.Calls PySem.Spec PySem.W PyProof.Rows
namespace Mine
section
variable {c : Cx} {d : Nat} {sc : Scope} {σ σ' σ₁ σ₂ : St}
theorem Inv.toks {h₀ : Heap} {L : Addr} {P : Addr → Obj → Prop} {H : PH} {h : Heap} {m : Str → Option Value} (I : Inv h₀ L P σ H h m) : Inv h₀ L P σ H h m := I
theorem E_int {i : Int} {k : Nat} {pos : Pos} : SemE c d sc σ (.Constant (.int i) k pos) (.ok (.int i)) σ := by
  constructor; intro A outer nm fa L cd h₀ s P H m Q E _ _ _ _ I post
  exact wpAny_Constant_int (post _ s.heap _ H I (.refl ..) ⟨_, rfl⟩)
theorem E_str {x : Str} {k : Nat} {pos : Pos} : SemE c d sc σ (.Constant (.str x) k pos) (.ok (.str x)) σ := by
  constructor; intro A outer nm fa L cd h₀ s P H m Q E _ _ _ _ I post
  exact wpAny_Constant_str (post _ s.heap _ H I (.refl ..) ⟨_, rfl⟩)
theorem E_none {k : Nat} {pos : Pos} : SemE c d sc σ (.Constant .none k pos) (.ok .none) σ := by
  constructor; intro A outer nm fa L cd h₀ s P H m Q E _ _ _ _ I post
  exact wpAny_Constant_none (post _ s.heap s.toks H I (.refl ..) rfl)
theorem E_bool {b : Bool} {k : Nat} {pos : Pos} : SemE c d sc σ (.Constant (.bool b) k pos) (.ok (.bool b)) σ := by
  constructor; intro A outer nm fa L cd h₀ s P H m Q E _ _ _ _ I post
  exact wpAny_Constant_bool (post _ s.heap s.toks H I (.refl ..) rfl)
theorem E_var {x : Str} {pos : Pos} {p : PV} (hl : sc.names.lookup x = some .local) (hv : σ.vars.lookup x = some p) (hd : (x == ("__debug__" : Str)) = false) :
    SemE c d sc σ (.Name x pos) (.ok p) σ := by
  constructor; intro A outer nm fa L cd h₀ s P H m Q E _ _ _ hk I post
  obtain ⟨v, h1, h2⟩ := I.vars x p hv
  exact ld I.fr h1 (post _ s.heap s.toks H I (.refl ..) h2) hk hl hd
theorem E_gint {x : Str} {pos : Pos} {i : Int} (hg : sc.names.lookup x = some .globalImplicit) (hv : valOf c.p x = some (.int i)) (hd : (x == ("__debug__" : Str)) = false) :
    SemE c d sc σ (.Name x pos) (.ok (.int i)) σ := by
  constructor; intro A outer nm fa L cd h₀ s P H m Q E _ _ G hk I post
  exact tp_int I.fr G.top hv (fun t => post _ s.heap s.toks H I (.refl ..) ⟨t, rfl⟩) hk hg hd
theorem E_gstr {x : Str} {pos : Pos} {i : Str} (hg : sc.names.lookup x = some .globalImplicit) (hv : valOf c.p x = some (.str i)) (hd : (x == ("__debug__" : Str)) = false) :
    SemE c d sc σ (.Name x pos) (.ok (.str i)) σ := by
  constructor; intro A outer nm fa L cd h₀ s P H m Q E _ _ G hk I post
  exact tp_str I.fr G.top hv (fun t => post _ s.heap s.toks H I (.refl ..) ⟨t, rfl⟩) hk hg hd
/-- a list of the frame's own is looked at as a whole: from here on it does not grow -/
theorem Inv.freeze {h₀ : Heap} {L : Addr} {P : Addr → Obj → Prop} {H : PH} {h : Heap} {m : Str → Option Value} {vars : List (Str × PV)} {x : Str} {ps : List PV} (I : Inv h₀ L P ⟨vars, some (x, .lst ps)⟩ H h m) :
    ∃ H', Inv h₀ L P ⟨(x, .lst ps) :: vars, none⟩ H' h m ∧ Ext h₀ H H' := by
  obtain ⟨a, h1, ⟨vs, ⟨o, n, h2, h3, _, h4⟩, h8⟩, h5, h6, h7, h9⟩ := I.own x _ rfl
  let H' : PH := fun b => if b = a then some (.type "list", vs) else H b
  have up : Up H H' := fun b y hb => by
    show (if b = a then _ else _) = _
    rw [if_neg (fun e => by rw [e, h5] at hb; cases hb)]; exact hb
  have hne : ∀ b, b ≠ a → H' b = H b := fun b hb => if_neg hb
  refine ⟨H', ⟨I.prot, I.fr, fun b cc xs hb => ?_, ?_, fun y p hy => ?_, fun y q hy => by cases hy⟩, up, fun b o' hb => ?_⟩
  · by_cases e : b = a
    · subst e
      have : some (Value.type "list", vs) = some (cc, xs) := (if_pos rfl).symm.trans hb
      obtain ⟨rfl, rfl⟩ := Prod.mk.inj (Option.some.inj this)
      exact ⟨o, n, h2, h3, h4⟩
    · rw [hne b e] at hb; exact I.sub b cc xs hb
  · rw [hne L (Ne.symm h7)]; exact I.loc
  · by_cases e : y = x
    · subst e
      have : some (PV.lst ps) = some p := by simpa using hy
      obtain rfl := Option.some.inj this
      exact ⟨_, h1, a, vs, rfl, if_pos rfl, h8.up up⟩
    · have hb : (y == x) = false := by simpa using e
      rw [List.lookup_cons, hb] at hy
      obtain ⟨v, k1, k2⟩ := I.vars y p hy
      exact ⟨v, k1, k2.up up⟩
  · exact hne b fun e => by rw [e, h6] at hb; cases hb
theorem E_own {x : Str} {pos : Pos} {vars : List (Str × PV)} {ps : List PV} (hl : sc.names.lookup x = some .local) (hd : (x == ("__debug__" : Str)) = false) :
    SemE c d sc ⟨vars, some (x, .lst ps)⟩ (.Name x pos) (.ok (.lst ps)) ⟨(x, .lst ps) :: vars, none⟩ := by
  constructor; intro A outer nm fa L cd h₀ s P H m Q E _ _ _ hk I post
  obtain ⟨H', I', X⟩ := I.freeze
  obtain ⟨v, h1, h2⟩ := I'.vars x (.lst ps) (by simp)
  exact ld I.fr h1 (post _ s.heap s.toks H' I' X h2) hk hl hd
/-- a fresh tuple or list goes into the pure heap -/
theorem Inv.push {h₀ : Heap} {L : Addr} {P : Addr → Obj → Prop} {H : PH} {h : Heap} {m : Str → Option Value} (I : Inv h₀ L P σ H h m) (cls : Value) (vs : Array Value) :
    ∃ H', Inv h₀ L P σ H' (h.push { cls := cls, data := .seq vs }) m ∧ Ext h₀ H H' ∧ H' h.objs.size = some (cls, vs) := by
  have hno : H h.objs.size = none := by
    cases hq : H h.objs.size with
    | none => rfl
    | some y => obtain ⟨o, n, e, _⟩ := I.sub _ _ _ hq; exact absurd (Heap.lt_size e) (Nat.lt_irrefl _)
  let H' : PH := fun b => if b = h.objs.size then some (cls, vs) else H b
  have up : Up H H' := fun b y hb => by
    show (if b = _ then _ else _) = _
    rw [if_neg (fun e => by rw [e, hno] at hb; cases hb)]; exact hb
  have hne : ∀ b, b ≠ h.objs.size → H' b = H b := fun b hb => if_neg hb
  have hL : L < h.objs.size := I.fr.ns.lt
  refine ⟨H', ⟨fun a o hp => ⟨Heap.get?_push_of_some _ (I.prot a o hp).1, (I.prot a o hp).2⟩, I.fr.push _, fun b cc xs hb => ?_, ?_, fun y p hy => ?_, fun y q hy => ?_⟩, ⟨up, fun b o' hb => ?_⟩, if_pos rfl⟩
  · by_cases e : b = h.objs.size
    · subst e
      have : some (cls, vs) = some (cc, xs) := (if_pos rfl).symm.trans hb
      obtain ⟨rfl, rfl⟩ := Prod.mk.inj (Option.some.inj this)
      exact ⟨_, 0, Heap.get?_push_size _ rfl, rfl, rfl⟩
    · rw [hne b e] at hb
      obtain ⟨o, n, k1, k2, k3⟩ := I.sub b cc xs hb
      exact ⟨o, n, Heap.get?_push_of_some _ k1, k2, k3⟩
  · rw [hne L (Nat.ne_of_lt hL)]; exact I.loc
  · obtain ⟨v, k1, k2⟩ := I.vars y p hy
    exact ⟨v, k1, k2.up up⟩
  · obtain ⟨a, k1, k2, k5, k6, k7, k9⟩ := I.own y q hy
    obtain ⟨o, k3, _⟩ := k2.get
    exact ⟨a, k1, k2.keeps up fun o e _ => Heap.get?_push_of_some _ e, by rw [hne a (Nat.ne_of_lt (Heap.lt_size k3))]; exact k5, k6, k7, k9⟩
  · exact hne b (Nat.ne_of_lt (Heap.lt_size (I.fr.keep _ _ hb)))
theorem L_nil : SemL c d sc σ [] (.ok []) σ := by
  constructor; intro A outer nm fa L cd h₀ s P H m pos Q E _ _ _ _ I post
  exact wpAny_items_nil (post _ s.heap s.toks H I (.refl ..) rfl)
def plainE : Expr → Bool
  | .Starred .. => false
  | _ => true
theorem starEach_plain {e : Expr} {rest : List Expr} {env : Env} (h : plainE e = true) : starEach (e :: rest) env = (false, eval e env) :: starEach rest env := by
  cases e <;> first | rfl | cases h
theorem L_cons {e : Expr} {es : List Expr} {p : PV} {ps : List PV} (hp : plainE e = true) (h1 : SemE c d sc σ e (.ok p) σ₁) (h2 : SemL c d sc σ₁ es (.ok ps) σ₂) :
    SemL c d sc σ (e :: es) (.ok (p :: ps)) σ₂ := by
  constructor; intro A outer nm fa L cd h₀ s P H m pos Q E K R G hk I post
  refine wpAny_items_cons (h1.run A outer nm fa L cd h₀ s P H m _ _ K R G hk I fun v h' tk' H' I' X' r' => ?_) (starEach_plain hp)
  refine h2.run A outer nm fa L cd h₀ _ P H' m pos _ _ K R G hk I' fun vs h'' tk'' H'' I'' X'' r'' => ?_
  exact post _ h'' tk'' H'' I'' (X'.trans X'') ⟨v, vs, rfl, r'.up X''.up, r''⟩
theorem UpToSlots.of_frame {h₀ : Heap} {h h' : Heap} (k : ∀ b o, h.get? b = some o → h'.get? b = some o) : h.UpToSlots h' := .of_keeps k
theorem E_tuple {es : List Expr} {ps : List PV} {k : Nat} {pos : Pos} (h : SemL c d sc σ es (.ok ps) σ') (hs : ps.length ≤ 1000) :
    SemE c d sc σ (.Tuple es k pos) (.ok (.tup ps)) σ' := by
  constructor; intro A outer nm fa L cd h₀ s P H m Q E K R G hk I post
  refine wpAny_Tuple (h.run A outer nm fa L cd h₀ s P H m pos _ _ K R G hk I fun vs h' tk' H' I' X' r' => ?_)
  obtain ⟨H'', I'', X'', e⟩ := I'.push (.type "tuple") vs.toArray
  refine ⟨by rw [r'.length, sizeLine_eq]; omega, post _ _ _ H'' I'' (X'.trans X'') ⟨_, _, rfl, e, r'.up X''.up⟩⟩
theorem E_list {es : List Expr} {ps : List PV} {pos : Pos} (h : SemL c d sc σ es (.ok ps) σ') (hs : ps.length ≤ 1000) :
    SemE c d sc σ (.List es pos) (.ok (.lst ps)) σ' := by
  constructor; intro A outer nm fa L cd h₀ s P H m Q E K R G hk I post
  refine wpAny_List (h.run A outer nm fa L cd h₀ s P H m pos _ _ K R G hk I fun vs h' tk' H' I' X' r' => ?_)
  obtain ⟨H'', I'', X'', e⟩ := I'.push (.type "list") vs.toArray
  refine ⟨by rw [r'.length, sizeLine_eq]; omega, post _ _ _ H'' I'' (X'.trans X'') ⟨_, _, rfl, e, r'.up X''.up⟩⟩
/-- truth of a pure value -/
def PV.truth : PV → Option Bool
  | .none => some false
  | .bool b => some b
  | _ => Option.none
theorem truthy_of {M : Model} {A : Around} {E : Value → Shared → Prop} {s : Shared} {H : PH} {p : PV} {v : Value} {b : Bool} {Q : Bool → Shared → Prop} (r : Rep H p v) (hb : p.truth = some b) (h : Q b s) : wpAny M A (truthy v) Q E s := by
  cases p with
  | none => obtain rfl : v = .none := r; cases hb; exact truthy_none h
  | bool b' => obtain rfl : v = .bool b' := r; cases hb; exact wpAny_truthy_bool h
  | _ => cases hb
theorem E_not {e : Expr} {pos : Pos} {p : PV} {b : Bool} (h : SemE c d sc σ e (.ok p) σ') (hb : p.truth = some b) : SemE c d sc σ (.UnaryOp .Not e pos) (.ok (.bool (!b))) σ' := by
  constructor; intro A outer nm fa L cd h₀ s P H m Q E K R G hk I post
  refine UnaryOp_ (h.run A outer nm fa L cd h₀ s P H m _ _ K R G hk I fun v h' tk' H' I' X' r' => ?_)
  exact not_of (truthy_of r' hb (post _ _ _ H' I' X' rfl))
theorem E_and_f {e e₂ : Expr} {es : List Expr} {pos : Pos} {p : PV} (h : SemE c d sc σ e (.ok p) σ') (hb : p.truth = some false) : SemE c d sc σ (.BoolOp .And (e :: e₂ :: es) pos) (.ok p) σ' := by
  constructor; intro A outer nm fa L cd h₀ s P H m Q E K R G hk I post
  refine BoolOp_and (h.run A outer nm fa L cd h₀ s P H m _ _ K R G hk I fun v h' tk' H' I' X' r' => ?_)
  refine truthy_of r' hb ?_
  rw [if_neg (by decide)]; exact post _ _ _ H' I' X' r'
theorem E_and_t {e e₂ : Expr} {es : List Expr} {pos : Pos} {p : PV} {r : Res PV} (h : SemE c d sc σ e (.ok p) σ₁) (hb : p.truth = some true) (h2 : SemE c d sc σ₁ (.BoolOp .And (e₂ :: es) pos) r σ') :
    SemE c d sc σ (.BoolOp .And (e :: e₂ :: es) pos) r σ' := by
  constructor; intro A outer nm fa L cd h₀ s P H m Q E K R G hk I post
  refine BoolOp_and (h.run A outer nm fa L cd h₀ s P H m _ _ K R G hk I fun v h' tk' H' I' X' r' => ?_)
  refine truthy_of r' hb ?_
  rw [if_pos rfl]
  refine h2.run A outer nm fa L cd h₀ _ P H' m _ _ K R G hk I' ?_
  cases r with
  | ok q => exact fun v h'' tk'' H'' I'' X'' r'' => post v h'' tk'' H'' I'' (X'.trans X'') r''
  | exn => exact post
theorem E_bool1 {op : BoolOp} {e : Expr} {pos : Pos} {r : Res PV} (h : SemE c d sc σ e r σ') : SemE c d sc σ (.BoolOp op [e] pos) r σ' :=
  ⟨fun A outer nm fa L cd h₀ s P H m Q E K R G hk I post => BoolOp_one (h.run A outer nm fa L cd h₀ s P H m Q E K R G hk I post)⟩
end
end Mine
end
section
set_option Elab.async false
open PySem PySem.Calls PySem.Spec PySem.W PyProof.Rows
namespace Mine
/-- a comparison of two pure values gives b -/
def CmpOk (c : Cx) (op : CmpOp) (p q : PV) (b : Bool) : Prop :=
  ∀ (A : Around) (s : Shared) (H : PH) (v u : Value) (Q E : Value → Shared → Prop), A.handled = none → A.units < 9800 → Sub H s.heap → Rep H p v → Rep H q u → Q (.bool b) s → wpAny (model c.prog c.w) A (compareOp op v u) Q E s
/-- a binary operation of two pure values gives r -/
def BinOk (c : Cx) (op : Operator) (p q r : PV) : Prop :=
  ∀ (A : Around) (s : Shared) (H : PH) (v u : Value) (Q E : Value → Shared → Prop), Rep H p v → Rep H q u → (∀ x tk, Rep H r x → Q x { s with toks := tk }) → wpAny (model c.prog c.w) A (binaryOp op v u) Q E s
section
variable {c : Cx} {d : Nat} {sc : Scope} {σ σ' σ₁ σ₂ : St}
theorem room_units {A : Around} {env : Env} (R : Room A d) : (A.deeper env).units < 9800 := by
  have := R.2.2; show A.units + 3 < 9800; omega
theorem E_cmp {l r : Expr} {op : CmpOp} {pos : Pos} {p q : PV} {b : Bool} (h1 : SemE c d sc σ l (.ok p) σ₁) (h2 : SemE c d sc σ₁ r (.ok q) σ₂) (ho : CmpOk c op p q b)
    (hm : behindInMarks op r = false := by with_unfolding_all rfl) : SemE c d sc σ (.Compare l [op] [r] pos) (.ok (.bool b)) σ₂ := by
  constructor; intro A outer nm fa L cd h₀ s P H m Q E K R G hk I post
  refine wpAny_Compare1 (h1.run A outer nm fa L cd h₀ s P H m _ _ K R G hk I fun v h' tk' H' I' X' r' => ?_) hm
  refine h2.run A outer nm fa L cd h₀ _ P H' m _ _ K R G hk I' fun u h'' tk'' H'' I'' X'' r'' => ?_
  exact ho _ _ H'' v u _ _ R.1 (room_units R) I''.sub (r'.up X''.up) r'' (post _ h'' tk'' H'' I'' (X'.trans X'') rfl)
theorem T_cmp {l r : Expr} {op : CmpOp} {pos : Pos} {p q : PV} {b : Bool} (h1 : SemE c d sc σ l (.ok p) σ₁) (h2 : SemE c d sc σ₁ r (.ok q) σ₂) (ho : CmpOk c op p q b)
    (hm : behindInMarks op r = false := by with_unfolding_all rfl) : SemT c d sc σ (.Compare l [op] [r] pos) (.ok b) σ₂ := by
  constructor; intro A outer nm fa L cd h₀ s P H m Q E K R G hk I post
  refine wpAny_isTrue_Compare1 (h1.run A outer nm fa L cd h₀ s P H m _ _ K R G hk I fun v h' tk' H' I' X' r' => ?_) hm
  refine h2.run A outer nm fa L cd h₀ _ P H' m _ _ K R G hk I' fun u h'' tk'' H'' I'' X'' r'' => ?_
  exact ho _ _ H'' v u _ _ R.1 (room_units R) I''.sub (r'.up X''.up) r'' (wpAny_truthy_bool (post h'' tk'' H'' I'' (X'.trans X'')))
theorem T_not {e : Expr} {pos : Pos} {b : Bool} (h : SemT c d sc σ e (.ok b) σ') : SemT c d sc σ (.UnaryOp .Not e pos) (.ok (!b)) σ' := by
  constructor; intro A outer nm fa L cd h₀ s P H m Q E K R G hk I post
  exact isTrue_not (h.run A outer nm fa L cd h₀ s P H m _ _ K R G hk I post)
/-- expressions whose truth is asked of the value -/
def plainT : Expr → Bool
  | .Name .. | .Call .. | .Constant .. => true
  | _ => false
theorem isTrue_of_plain {e : Expr} {env : Env} {whole : Sem Value} (h : plainT e = true) : isTrue e env whole = (do let v ← whole; standAt e.pos; holding [v] (truthy v)) := by
  cases e <;> first | rfl | cases h
theorem T_plain {e : Expr} {p : PV} {b : Bool} (h : SemE c d sc σ e (.ok p) σ') (hb : p.truth = some b) (hp : plainT e = true) : SemT c d sc σ e (.ok b) σ' := by
  constructor; intro A outer nm fa L cd h₀ s P H m Q E K R G hk I post
  refine isTrue_plain (h.run A outer nm fa L cd h₀ s P H m _ _ K R G hk I fun v h' tk' H' I' X' r' => ?_) (isTrue_of_plain hp)
  exact truthy_of r' hb (post h' tk' H' I' X')
theorem T_and_nil {pos : Pos} : SemT c d sc σ (.BoolOp .And [] pos) (.ok true) σ :=
  ⟨fun A outer nm fa L cd h₀ s P H m Q E K R G hk I post => isTrue_and_nil (post s.heap s.toks H I (.refl ..))⟩
theorem T_or_nil {pos : Pos} : SemT c d sc σ (.BoolOp .Or [] pos) (.ok false) σ :=
  ⟨fun A outer nm fa L cd h₀ s P H m Q E K R G hk I post => isTrue_or_nil (post s.heap s.toks H I (.refl ..))⟩
theorem T_and_f {e : Expr} {es : List Expr} {pos : Pos} (h : SemT c d sc σ e (.ok false) σ') : SemT c d sc σ (.BoolOp .And (e :: es) pos) (.ok false) σ' := by
  constructor; intro A outer nm fa L cd h₀ s P H m Q E K R G hk I post
  refine isTrue_and (h.run A outer nm fa L cd h₀ s P H m _ _ K R G hk I fun h' tk' H' I' X' => ?_)
  rw [if_neg (by decide)]; exact post h' tk' H' I' X'
theorem T_and_t {e : Expr} {es : List Expr} {pos : Pos} {b : Bool} (h : SemT c d sc σ e (.ok true) σ₁) (h2 : SemT c d sc σ₁ (.BoolOp .And es pos) (.ok b) σ') : SemT c d sc σ (.BoolOp .And (e :: es) pos) (.ok b) σ' := by
  constructor; intro A outer nm fa L cd h₀ s P H m Q E K R G hk I post
  refine isTrue_and (h.run A outer nm fa L cd h₀ s P H m _ _ K R G hk I fun h' tk' H' I' X' => ?_)
  rw [if_pos rfl]
  exact h2.run A outer nm fa L cd h₀ _ P H' m _ _ K R G hk I' fun h'' tk'' H'' I'' X'' => post h'' tk'' H'' I'' (X'.trans X'')
theorem T_or_t {e : Expr} {es : List Expr} {pos : Pos} (h : SemT c d sc σ e (.ok true) σ') : SemT c d sc σ (.BoolOp .Or (e :: es) pos) (.ok true) σ' := by
  constructor; intro A outer nm fa L cd h₀ s P H m Q E K R G hk I post
  refine isTrue_or (h.run A outer nm fa L cd h₀ s P H m _ _ K R G hk I fun h' tk' H' I' X' => ?_)
  rw [if_pos rfl]; exact post h' tk' H' I' X'
theorem T_or_f {e : Expr} {es : List Expr} {pos : Pos} {b : Bool} (h : SemT c d sc σ e (.ok false) σ₁) (h2 : SemT c d sc σ₁ (.BoolOp .Or es pos) (.ok b) σ') : SemT c d sc σ (.BoolOp .Or (e :: es) pos) (.ok b) σ' := by
  constructor; intro A outer nm fa L cd h₀ s P H m Q E K R G hk I post
  refine isTrue_or (h.run A outer nm fa L cd h₀ s P H m _ _ K R G hk I fun h' tk' H' I' X' => ?_)
  rw [if_neg (by decide)]
  exact h2.run A outer nm fa L cd h₀ _ P H' m _ _ K R G hk I' fun h'' tk'' H'' I'' X'' => post h'' tk'' H'' I'' (X'.trans X'')
theorem E_or_t {e e₂ : Expr} {es : List Expr} {pos : Pos} {p : PV} (h : SemE c d sc σ e (.ok p) σ') (hb : p.truth = some true) : SemE c d sc σ (.BoolOp .Or (e :: e₂ :: es) pos) (.ok p) σ' := by
  constructor; intro A outer nm fa L cd h₀ s P H m Q E K R G hk I post
  refine BoolOp_or (h.run A outer nm fa L cd h₀ s P H m _ _ K R G hk I fun v h' tk' H' I' X' r' => ?_)
  refine truthy_of r' hb ?_
  rw [if_pos rfl]; exact post _ _ _ H' I' X' r'
theorem E_or_f {e e₂ : Expr} {es : List Expr} {pos : Pos} {p : PV} {r : Res PV} (h : SemE c d sc σ e (.ok p) σ₁) (hb : p.truth = some false) (h2 : SemE c d sc σ₁ (.BoolOp .Or (e₂ :: es) pos) r σ') :
    SemE c d sc σ (.BoolOp .Or (e :: e₂ :: es) pos) r σ' := by
  constructor; intro A outer nm fa L cd h₀ s P H m Q E K R G hk I post
  refine BoolOp_or (h.run A outer nm fa L cd h₀ s P H m _ _ K R G hk I fun v h' tk' H' I' X' r' => ?_)
  refine truthy_of r' hb ?_
  rw [if_neg (by decide)]
  refine h2.run A outer nm fa L cd h₀ _ P H' m _ _ K R G hk I' ?_
  cases r with
  | ok q => exact fun v h'' tk'' H'' I'' X'' r'' => post v h'' tk'' H'' I'' (X'.trans X'') r''
  | exn => exact post
theorem E_ifexp {t e₁ e₂ : Expr} {pos : Pos} {b : Bool} {r : Res PV} (h : SemT c d sc σ t (.ok b) σ₁) (h2 : SemE c d sc σ₁ (if b then e₁ else e₂) r σ') :
    SemE c d sc σ (.IfExp t e₁ e₂ pos) r σ' := by
  constructor; intro A outer nm fa L cd h₀ s P H m Q E K R G hk I post
  refine IfExp_ (h.run A outer nm fa L cd h₀ s P H m _ _ K R G hk I fun h' tk' H' I' X' => ?_)
  have k := h2.run A outer nm fa L cd h₀ { s with heap := h', toks := tk' } P H' m Q E K R G hk I' (by
    cases r with
    | ok q => exact fun v h'' tk'' H'' I'' X'' r'' => post v h'' tk'' H'' I'' (X'.trans X'') r''
    | exn => exact post)
  cases b
  · rw [if_neg (by decide)]; rw [if_neg (by decide)] at k; exact k
  · rw [if_pos rfl]; rw [if_pos rfl] at k; exact k
theorem E_bin {l r : Expr} {op : Operator} {pos : Pos} {p q x : PV} (h1 : SemE c d sc σ l (.ok p) σ₁) (h2 : SemE c d sc σ₁ r (.ok q) σ₂) (ho : BinOk c op p q x) :
    SemE c d sc σ (.BinOp l op r pos) (.ok x) σ₂ := by
  constructor; intro A outer nm fa L cd h₀ s P H m Q E K R G hk I post
  refine wpAny_BinOp (h1.run A outer nm fa L cd h₀ s P H m _ _ K R G hk I fun v h' tk' H' I' X' r' => ?_)
  refine h2.run A outer nm fa L cd h₀ _ P H' m _ _ K R G hk I' fun u h'' tk'' H'' I'' X'' r'' => ?_
  exact ho _ _ H'' v u _ _ (r'.up X''.up) r'' fun y tk ry => post y h'' tk H'' I'' (X'.trans X'') ry
/-! the operations -/
theorem cmp_eq_str {x y : Str} : CmpOk c .Eq (.str x) (.str y) (x == y) := by
  rintro A s H v u Q E _ _ _ ⟨t, rfl⟩ ⟨t', rfl⟩ h
  exact PyProof.Rows.eq_str h
theorem cmp_ne_str {x y : Str} : CmpOk c .NotEq (.str x) (.str y) (x != y) := by
  rintro A s H v u Q E _ _ _ ⟨t, rfl⟩ ⟨t', rfl⟩ h
  exact PyProof.Rows.ne_str h
theorem cmp_eq_int {x y : Int} : CmpOk c .Eq (.int x) (.int y) (x == y) := by
  rintro A s H v u Q E _ _ _ ⟨t, rfl⟩ ⟨t', rfl⟩ h
  exact PyProof.Rows.eq_int h
theorem cmp_ne_int {x y : Int} : CmpOk c .NotEq (.int x) (.int y) (x != y) := by
  rintro A s H v u Q E _ _ _ ⟨t, rfl⟩ ⟨t', rfl⟩ h
  exact PyProof.Rows.ne_int h
theorem cmp_lt_int {x y : Int} : CmpOk c .Lt (.int x) (.int y) (decide (x < y)) := by
  rintro A s H v u Q E _ _ _ ⟨t, rfl⟩ ⟨t', rfl⟩ h
  exact PyProof.Rows.lt_int h
theorem cmp_le_int {x y : Int} : CmpOk c .LtE (.int x) (.int y) (decide (x ≤ y)) := by
  rintro A s H v u Q E _ _ _ ⟨t, rfl⟩ ⟨t', rfl⟩ h
  exact PyProof.Rows.le_int h
theorem cmp_gt_int {x y : Int} : CmpOk c .Gt (.int x) (.int y) (decide (y < x)) := by
  rintro A s H v u Q E _ _ _ ⟨t, rfl⟩ ⟨t', rfl⟩ h
  exact PyProof.Rows.gt_int h
theorem cmp_ge_int {x y : Int} : CmpOk c .GtE (.int x) (.int y) (decide (y ≤ x)) := by
  rintro A s H v u Q E _ _ _ ⟨t, rfl⟩ ⟨t', rfl⟩ h
  exact PyProof.Rows.ge_int h
/-- x in y, both texts -/
def inStr (x y : Str) : Bool := !(Builtin.Str.occurrences y x 0 y.length 1).isEmpty
theorem cmp_in_str {x y : Str} : CmpOk c .In (.str x) (.str y) (inStr x y) := by
  rintro A s H v u Q E _ _ _ ⟨t, rfl⟩ ⟨t', rfl⟩ h
  exact PyProof.Rows.in_str h
theorem cmp_notin_str {x y : Str} : CmpOk c .NotIn (.str x) (.str y) (!inStr x y) := by
  rintro A s H v u Q E _ _ _ ⟨t, rfl⟩ ⟨t', rfl⟩ h
  exact PyProof.Rows.notIn_str h
theorem strs_of {H : PH} : ∀ {ys : List Str} {vs : List Value}, Reps H (ys.map PV.str) vs → StrsAre vs ys
  | [], vs, h => by rw [show vs = [] from h]; exact .nil
  | y :: ys, vs, ⟨v, r, e, ⟨t, ht⟩, k⟩ => by rw [e, ht]; exact .cons y t (strs_of k)
theorem cmp_in_strs {x : Str} {ys : List Str} : CmpOk c .In (.str x) (.tup (ys.map PV.str)) (ys.any (· == x)) := by
  rintro A s H v u Q E _ _ S ⟨t, rfl⟩ ⟨a, vs, rfl, h1, h2⟩ h
  exact in_tuple_strs (S.tup h1) (strs_of h2) h
theorem bin_add_int {x y : Int} : BinOk c .Add (.int x) (.int y) (.int (x + y)) := by
  rintro A s H v u Q E ⟨t, rfl⟩ ⟨t', rfl⟩ h
  exact PyProof.Rows.add_int (h _ _ ⟨_, rfl⟩)
theorem bin_sub_int {x y : Int} : BinOk c .Sub (.int x) (.int y) (.int (x - y)) := by
  rintro A s H v u Q E ⟨t, rfl⟩ ⟨t', rfl⟩ h
  exact PyProof.Rows.sub_int (h _ _ ⟨_, rfl⟩)
theorem bin_mul_one {y : Int} (hy : y.natAbs < 2 ^ 62) : BinOk c .Mult (.int 1) (.int y) (.int (1 * y)) := by
  rintro A s H v u Q E ⟨t, rfl⟩ ⟨t', rfl⟩ h
  exact PyProof.Rows.mul_int (h _ _ ⟨_, rfl⟩) (by mul_fits)
theorem bin_add_str {x y : Str} (hl : x.length + y.length ≤ 100000) : BinOk c .Add (.str x) (.str y) (.str (x ++ y)) := by
  rintro A s H v u Q E ⟨t, rfl⟩ ⟨t', rfl⟩ h
  exact PyProof.Rows.add_str (fun t' tk => h _ _ ⟨_, rfl⟩) (by rw [sizeLine_eq]; omega)
end
end Mine
end
section
set_option Elab.async false
open PySem PySem.Calls PySem.Spec PySem.W PyProof.Rows
namespace Mine
section
variable {M : Model} {prog : Program} {w : World} {A : Around} {E : Value → Shared → Prop} {s : Shared}
theorem letGo_any {value : Expr} {o r : Value} {Q : Unit → Shared → Prop} (h : Q () s) : wpAny (model prog w) A (letTemporaryGo value o r) Q E s := by
  unfold letTemporaryGo
  split
  · exact wpAny_pure h
  · exact wpAny_bind (wpAny_holding (wpAny_runValue (codeAny_builtin entry_let_go (show wpAny _ _ (ret .none) _ _ s from wpAny_pure (wpAny_pure h)))))
  · exact wpAny_pure h
theorem subscripted_ops (slice : Expr) (o i : Value) : ∃ ops, subscripted slice false o i = operate ops (getItem o i) := by
  unfold subscripted
  split
  · exact ⟨_, rfl⟩
  · contradiction
  · exact ⟨_, rfl⟩
theorem tail_ {value slice : Expr} {o i : Value} {T id : String} {Q : Value → Shared → Prop} (hT : s.TypeIs o T)
    (hl : typeLookup (.type T) "__getitem__" = pure (some (.builtin id))) (h : wpAny (model prog w) A (getItem o i) Q E s) :
    wpAny (model prog w) A (subscriptTail value slice o i) Q E s := by
  obtain ⟨ops, hs⟩ := subscripted_ops slice o i
  unfold subscriptTail
  refine wpAny_bind ?_
  rw [getitemInPython_of_ne hT.not_modules]
  refine wpAny_bind (wpAny_specialOf hT hl ?_)
  have fin : wpAny (model prog w) A (subscripted slice false o i) (fun r s₃ => wpAny (model prog w) A (letTemporaryGo value o r >>= fun _ => pure r) Q E s₃) E s := by
    rw [hs]
    exact wpAny_operating (wpAny_mono h (fun r s₃ h₃ => wpAny_bind (letGo_any (wpAny_pure h₃))) fun _ _ x => x)
  first
    | exact wpAny_pure (wpAny_bind fin)
    | exact wpAny_bind (wpAny_pure (wpAny_bind fin))
    | exact wpAny_bind fin
end
def ItemOk (c : Cx) (p q x : PV) : Prop :=
  ∀ (A : Around) (s : Shared) (H : PH) (v u : Value) (Q E : Value → Shared → Prop), Sub H s.heap → Rep H p v → Rep H q u → (∀ y tk, Rep H x y → Q y { s with toks := tk }) →
    ItemOn (model c.prog c.w) A E v u Q s
section
variable {c : Cx} {d : Nat} {sc : Scope} {σ σ' σ₁ σ₂ : St}
theorem E_sub {value slice : Expr} {pos : Pos} {p q x : PV} (h1 : SemE c d sc σ value (.ok p) σ₁) (h2 : SemE c d sc σ₁ slice (.ok q) σ₂) (ho : ItemOk c p q x) :
    SemE c d sc σ (.Subscript value slice pos) (.ok x) σ₂ := by
  constructor; intro A outer nm fa L cd h₀ s P H m Q E K R G hk I post
  refine Subscript_ (h1.run A outer nm fa L cd h₀ s P H m _ _ K R G hk I fun v h' tk' H' I' X' r' => ?_)
  refine h2.run A outer nm fa L cd h₀ _ P H' m _ _ K R G hk I' fun u h'' tk'' H'' I'' X'' r'' => ?_
  obtain ⟨T, id, k1, k2, k3⟩ := ho _ { s with heap := h'', toks := tk'' } H'' v u _ _ I''.sub (r'.up X''.up) r'' fun y tk ry => post y h'' tk H'' I'' (X'.trans X'') ry
  exact tail_ k2 k1 k3
theorem item_lst {ps : List PV} {i : Int} {x : PV} (h0 : 0 ≤ i) (hi : i < 100000) (hx : ps[i.toNat]? = some x) : ItemOk c (.lst ps) (.int i) x := by
  rintro A s H v u Q E S ⟨a, vs, rfl, e, r⟩ ⟨t, rfl⟩ h
  obtain ⟨y, hy, ry⟩ := r.get hx
  exact ⟨"list", _, slot_list_getitem.lookup, (S.lst e).typeIs, wpAny_getItem_list (S.lst e) h0 (by omega) (by simpa using hy) (h y _ ry)⟩
theorem item_tup {ps : List PV} {i : Nat} {x : PV} (hi : i < 1000) (hx : ps[i]? = some x) : ItemOk c (.tup ps) (.int (i : Int)) x := by
  rintro A s H v u Q E S ⟨a, vs, rfl, e, r⟩ ⟨t, rfl⟩ h
  obtain ⟨y, hy, ry⟩ := r.get hx
  have hlt : i < vs.size := by
    have := (List.getElem?_eq_some_iff.mp hy).1
    simpa using this
  refine ⟨"tuple", _, slot_tuple_getitem.lookup, (S.tup e).typeIs, PyProof.Rows.getItem_tuple (S.tup e) (by omega) (by omega) (j := i) ?_ (by simpa using hy) (h y _ ry)⟩
  unfold seqIndex?
  split <;> first | (simp; omega) | omega | (simp_all; omega)
theorem item_str' {x : Str} {i : Int} (h0 : 0 ≤ i) (h1 : i < x.length) (h2 : i < 100000) : ItemOk c (.str x) (.int i) (.str (Txt.item x i)) := by
  rintro A s H v u Q E S ⟨t, rfl⟩ ⟨t', rfl⟩ h
  exact SB.item (fitsSsize_of (N := 9223372036854775808) (by omega) (by omega) (Int.le_refl _)) (charAt_isSome (by omega) h1) (h _ _ ⟨_, rfl⟩)
theorem Inv.keeps {h₀ : Heap} {L : Addr} {P : Addr → Obj → Prop} {H : PH} {h h' : Heap} {m : Str → Option Value} (I : Inv h₀ L P σ H h m) (k : ∀ b o, h.get? b = some o → h'.get? b = some o) : Inv h₀ L P σ H h' m :=
  ⟨fun a o hp => ⟨k _ _ (I.prot a o hp).1, (I.prot a o hp).2⟩, I.fr.keeps k, I.sub.keeps k, I.loc, I.vars, fun x ps e => let ⟨a, h1, h2, h4⟩ := I.own x ps e; ⟨a, h1, h2.keeps (.refl H) fun o e _ => k _ _ e, h4⟩⟩
/-! slices of texts -/
theorem E_slice_ss {value lo hi : Expr} {sp pos : Pos} {x : Str} {i j : Int} (h1 : SemE c d sc σ value (.ok (.str x)) σ₁) (h2 : SemE c d sc σ₁ lo (.ok (.int i)) σ₂) (h3 : SemE c d sc σ₂ hi (.ok (.int j)) σ')
    (hx : x.length ≤ 100000) : SemE c d sc σ (.Subscript value (.Slice (some lo) (some hi) none sp) pos) (.ok (.str (Txt.slice x (some i) (some j)))) σ' := by
  constructor; intro A outer nm fa L cd h₀ s P H m Q E K R G hk I post
  refine Subscript_ (h1.run A outer nm fa L cd h₀ s P H m _ _ K R G hk I fun v h' tk' H' I' X' r' => ?_)
  refine wpAny_Slice (show wpAny _ _ (eval lo _) _ _ _ from h2.run A outer nm fa L cd h₀ _ P H' m _ _ K R G hk I' fun u h'' tk'' H'' I'' X'' r'' => ?_)
  refine (show wpAny _ _ (eval hi _) _ _ _ from h3.run A outer nm fa L cd h₀ _ P H'' m _ _ K R G hk I'' fun u' h3 tk3 H3 I3 X3 r3 => ?_)
  refine wpAny_pure ?_
  obtain ⟨t, rfl⟩ := r'
  obtain ⟨ti, rfl⟩ := r''
  obtain ⟨tj, rfl⟩ := r3
  obtain ⟨T, id, k1, k2, k3⟩ := SBH.sliceItem_ss (prog := c.prog) (w := c.w) (A := A.deeper (envOf nm sc L fa cd)) (E := E) (P := fun g => ∀ b o, h3.get? b = some o → g.get? b = some o) (s := { s with heap := h3, toks := tk3 }) (x := x) (t := t) (Q := Q) (i := i) (j := j) (ui := ti) (uj := tj)
    (fun g ob k b o e => Heap.get?_push_of_some _ (k b o e)) (fun _ _ e => e) (fun g t' tk hg => post _ g tk H3 (I3.keeps hg) (X'.trans (X''.trans X3)) ⟨t', rfl⟩) (by rw [sizeLine_eq]; omega)
  exact tail_ k2 k1 k3
theorem E_slice_sn {value lo : Expr} {sp pos : Pos} {x : Str} {i : Int} (h1 : SemE c d sc σ value (.ok (.str x)) σ₁) (h2 : SemE c d sc σ₁ lo (.ok (.int i)) σ')
    (hx : x.length ≤ 100000) : SemE c d sc σ (.Subscript value (.Slice (some lo) none none sp) pos) (.ok (.str (Txt.slice x (some i) none))) σ' := by
  constructor; intro A outer nm fa L cd h₀ s P H m Q E K R G hk I post
  refine Subscript_ (h1.run A outer nm fa L cd h₀ s P H m _ _ K R G hk I fun v h' tk' H' I' X' r' => ?_)
  refine wpAny_Slice (show wpAny _ _ (eval lo _) _ _ _ from h2.run A outer nm fa L cd h₀ _ P H' m _ _ K R G hk I' fun u h'' tk'' H'' I'' X'' r'' => ?_)
  refine wpAny_pure (wpAny_pure ?_)
  obtain ⟨t, rfl⟩ := r'
  obtain ⟨ti, rfl⟩ := r''
  obtain ⟨T, id, k1, k2, k3⟩ := SBH.sliceItem_sn (prog := c.prog) (w := c.w) (A := A.deeper (envOf nm sc L fa cd)) (E := E) (P := fun g => ∀ b o, h''.get? b = some o → g.get? b = some o) (s := { s with heap := h'', toks := tk'' }) (x := x) (t := t) (Q := Q) (i := i) (ui := ti)
    (fun g ob k b o e => Heap.get?_push_of_some _ (k b o e)) (fun _ _ e => e) (fun g t' tk hg => post _ g tk H'' (I''.keeps hg) (X'.trans X'') ⟨t', rfl⟩) (by rw [sizeLine_eq]; omega)
  exact tail_ k2 k1 k3
/-! calls of built-ins on pure values -/
def FnOk (c : Cx) (f : Value) (ps : List PV) (x : PV) : Prop :=
  ∀ (A : Around) (s : Shared) (H : PH) (vs : List Value) (Q E : Value → Shared → Prop), A.handled = none → Sub H s.heap → Reps H ps vs →
    (∀ y h' tk, (∀ b o, s.heap.get? b = some o → h'.get? b = some o) → Rep H x y → Q y { s with heap := h', toks := tk }) → wpAny (model c.prog c.w) A (call f vs) Q E s
/-- a name of the built-ins that the text does not bind -/
def GB (c : Cx) (x : Str) (v : Value) : Prop := ∀ h, GF c h → c.mg x = none ∧ c.mb x = some v
theorem plain_rest {es : List Expr} {env : Env} {pos : Pos} (h : es.all plainE = true) : (backTo pos (starEach es env)).any (·.1) = false := by
  induction es with
  | nil => rfl
  | cons e es ih =>
    rw [List.all_cons, Bool.and_eq_true] at h
    rw [starEach_plain h.1]
    show (false || (backTo pos (starEach es env)).any (·.1)) = false
    rw [ih h.2]; rfl
theorem E_builtin {x : Str} {id : String} {e : Expr} {es : List Expr} {np pos : Pos} {ps : List PV} {y : PV} (hb : GB c x (.builtin id)) (hg : sc.names.lookup x = some .globalImplicit)
    (h : SemL c d sc σ (e :: es) (.ok ps) σ') (hf : FnOk c (.builtin id) ps y) (hp : (e :: es).all plainE = true) (hd : (x == ("__debug__" : Str)) = false) :
    SemE c d sc σ (.Call (.Name x np) (e :: es) [] pos) (.ok y) σ' := by
  constructor; intro A outer nm fa L cd h₀ s P H m Q E K R G hk I post
  obtain ⟨b1, b2⟩ := hb _ G
  refine Call_Name rfl (ld_builtin_at I.fr G.top.g b1 G.top.b b2 ?_ hk hg hd)
  rw [List.all_cons, Bool.and_eq_true] at hp
  refine callWith_builtin1 ?_ (starEach_plain hp.1) (plain_rest hp.2)
  refine h.run A outer nm fa L cd h₀ s P H m pos _ _ K R G hk I fun vs h' tk' H' I' X' r' => ?_
  exact hf _ _ H' vs _ _ R.1 I'.sub r' fun v h'' tk'' k rv => post v h'' tk'' H' (I'.keeps k) X' rv
theorem E_type {x : Str} {T : String} {e : Expr} {es : List Expr} {np pos : Pos} {ps : List PV} {y : PV} (hb : GB c x (.type T)) (hg : sc.names.lookup x = some .globalImplicit)
    (h : SemL c d sc σ (e :: es) (.ok ps) σ') (hf : FnOk c (.type T) ps y) (hp : (e :: es).all plainE = true) (hd : (x == ("__debug__" : Str)) = false) :
    SemE c d sc σ (.Call (.Name x np) (e :: es) [] pos) (.ok y) σ' := by
  constructor; intro A outer nm fa L cd h₀ s P H m Q E K R G hk I post
  obtain ⟨b1, b2⟩ := hb _ G
  refine Call_Name rfl (ld_builtin_at I.fr G.top.g b1 G.top.b b2 ?_ hk hg hd)
  rw [List.all_cons, Bool.and_eq_true] at hp
  refine callWith_type1 ?_ (starEach_plain hp.1) (plain_rest hp.2)
  refine h.run A outer nm fa L cd h₀ s P H m pos _ _ K R G hk I fun vs h' tk' H' I' X' r' => ?_
  exact hf _ _ H' vs _ _ R.1 I'.sub r' fun v h'' tk'' k rv => post v h'' tk'' H' (I'.keeps k) X' rv
theorem reps1 {H : PH} {p : PV} {vs : List Value} (r : Reps H [p] vs) : ∃ v, vs = [v] ∧ Rep H p v := by
  obtain ⟨v, r', rfl, h, hn⟩ := r
  rw [show r' = [] from hn]; exact ⟨v, rfl, h⟩
theorem reps2 {H : PH} {p q : PV} {vs : List Value} (r : Reps H [p, q] vs) : ∃ v u, vs = [v, u] ∧ Rep H p v ∧ Rep H q u := by
  obtain ⟨v, r', rfl, h, k⟩ := r
  obtain ⟨u, rfl, k'⟩ := reps1 k
  exact ⟨v, u, rfl, h, k'⟩
theorem fn_len_str {x : Str} (hx : x.length ≤ 100000) : FnOk c (.builtin "len") [.str x] (.int x.length) := by
  intro A s H vs Q E hh S r h
  obtain ⟨v, rfl, t, rfl⟩ := reps1 r
  exact SBL.len (by omega) (h _ _ _ (fun _ _ e => e) ⟨_, rfl⟩)
theorem fn_len_lst {ps : List PV} (hx : ps.length ≤ 100000) : FnOk c (.builtin "len") [.lst ps] (.int ps.length) := by
  intro A s H vs Q E hh S r h
  obtain ⟨v, rfl, a, us, rfl, e, r'⟩ := reps1 r
  have hsz : us.size = ps.length := by rw [← r'.length, Array.length_toList]
  exact len_list (S.lst e) (by omega) (h _ _ _ (fun _ _ e => e) ⟨_, by rw [hsz]⟩)
theorem fn_max {a b : Int} : FnOk c (.builtin "max") [.int a, .int b] (.int (if b > a then b else a)) := by
  intro A s H vs Q E hh S r h
  obtain ⟨v, u, rfl, ⟨t, rfl⟩, t', rfl⟩ := reps2 r
  refine max_two_ints hh fun h' tk k => h _ h' tk k ?_
  split <;> exact ⟨_, rfl⟩
theorem fn_int {x : Str} {n : Int} (hn : PySem.intText? x = some n) (hl : x.length ≤ 640) : FnOk c (.type "int") [.str x] (.int n) := by
  intro A s H vs Q E hh S r h
  obtain ⟨v, rfl, t, rfl⟩ := reps1 r
  exact KIN.call_text hn hl (h _ _ _ (fun _ _ e => e) ⟨_, rfl⟩)
theorem fn_str {n : Int} (hn : n.natAbs.log2 < 1920) : FnOk c (.type "str") [.int n] (.str (Str.ofString (toString n))) := by
  intro A s H vs Q E hh S r h
  obtain ⟨v, rfl, t, rfl⟩ := reps1 r
  exact P.str_of_int hn (h _ _ _ (fun _ _ e => e) ⟨_, rfl⟩)
/-! len of the list that grows -/
theorem E_len_own {x xl : Str} {vars : List (Str × PV)} {ps : List PV} {np np' pos : Pos} (hb : GB c xl (.builtin "len")) (hg : sc.names.lookup xl = some .globalImplicit) (hl : sc.names.lookup x = some .local)
    (hs : ps.length ≤ 100000) (hd : (xl == ("__debug__" : Str)) = false) (hd' : (x == ("__debug__" : Str)) = false) :
    SemE c d sc ⟨vars, some (x, .lst ps)⟩ (.Call (.Name xl np) [.Name x np'] [] pos) (.ok (.int ps.length)) ⟨vars, some (x, .lst ps)⟩ := by
  constructor; intro A outer nm fa L cd h₀ s P H m Q E K R G hk I post
  obtain ⟨b1, b2⟩ := hb _ G
  refine Call_Name rfl (ld_builtin_at I.fr G.top.g b1 G.top.b b2 ?_ hk hg hd)
  refine callWith_builtin1 ?_ rfl rfl
  obtain ⟨a, k1, ⟨vs, ⟨o, n, k2, k3, _, k4⟩, k8⟩, k5, k6, k7, k9⟩ := I.own x _ rfl
  refine wpAny_items_cons (ld I.fr k1 (wpAny_items_nil ?_) hk hl hd') rfl
  have hsz : vs.size = ps.length := by rw [← k8.length, Array.length_toList]
  exact len_list ⟨o, k2, k3, n, k4⟩ (by omega) (post _ _ _ H I (.refl ..) ⟨_, by rw [hsz]⟩)
/-! calls of the text's defs -/
theorem E_call {x : Str} {fn : DefRec} {e : Expr} {es : List Expr} {np pos : Pos} {ps : List PV} {r : Res PV} (hfind : (recsOf c.p).find? (fun e => e.name == x) = some fn) (hg : sc.names.lookup x = some .globalImplicit)
    (h : SemL c (d + 1) sc σ (e :: es) (.ok ps) σ') (hf : CallOk c d fn ps r) (hp : (e :: es).all plainE = true) (hd : (x == ("__debug__" : Str)) = false) :
    SemE c (d + 1) sc σ (.Call (.Name x np) (e :: es) [] pos) r σ' := by
  constructor; intro A outer nm fa L cd h₀ s P H m Q E K R G hk I post
  refine Call_Name rfl (tp_def I.fr G.top hfind (fun f o pm code doc k1 k2 k3 => ?_) hk hg hd)
  rw [List.all_cons, Bool.and_eq_true] at hp
  refine callWith_def k2 ?_ (starEach_plain hp.1)
  refine h.run A outer nm fa L cd h₀ s P H m pos _ _ K R G hk I fun vs h' tk' H' I' X' r' => ⟨I'.fr.keep _ _ k1, ?_⟩
  have K' := K.1.push (name := nm) (a := fa) (cd := cd) I'.fr hk
  refine hf _ _ { s with heap := h', toks := tk' } H' vs f o pm code doc _ _ K' ⟨R.1, by have := R.2.1; show A.depth + 1 + d < 900; omega, by have := R.2.2; show A.units + 3 + 16 * d < 9000; omega⟩ (G.keeps I'.fr.keep) I'.sub r' (I'.fr.keep _ _ k1) k2 (k3.keeps I'.fr.keep) ?_
  cases r with
  | ok p =>
    intro v h'' tk'' H'' kp S'' X'' rv
    have up : Up H' H'' := X''.up
    refine post v h'' tk'' H'' ⟨fun a o hp => ⟨kp _ _ (I'.prot a o hp).1, (I'.prot a o hp).2⟩, I'.fr.keeps kp, S'', ?_, fun y q hy => ?_, fun y q hy => ?_⟩ (X'.trans ⟨up, fun b o' e => X''.old b o' (I'.fr.keep _ _ e)⟩) rv
    · obtain ⟨oL, _, _, hoL, _⟩ := I'.fr.ns
      rw [X''.old L oL hoL]; exact I'.loc
    · obtain ⟨v, k1, k2⟩ := I'.vars y q hy
      exact ⟨v, k1, k2.up up⟩
    · obtain ⟨a, j1, j2, j5, j6, j7, j9⟩ := I'.own y q hy
      obtain ⟨o, j3, _⟩ := j2.get
      exact ⟨a, j1, j2.keeps up fun o e _ => kp _ _ e, by rw [X''.old a o j3]; exact j5, j6, j7, j9⟩
  | exn =>
    intro e' a0 h'' tk'' fl up
    exact post e' h'' tk'' (.fly a0 fl) ((Heap.UpToSlots.of_keeps I'.fr.keep).trans up)
end
end Mine
end
section
set_option Elab.async false
open PySem PySem.Calls PySem.Spec PySem.W PyProof.Rows
namespace Mine
def ownOff : Option (Str × OV) → List Str → Bool
  | none, _ => true
  | some (y, _), xs => !xs.contains y
section
variable {c : Cx} {d : Nat} {sc : Scope} {σ σ' σ₁ σ₂ : St}
theorem Inv.store {h₀ : Heap} {L : Addr} {P : Addr → Obj → Prop} {H : PH} {h h' : Heap} {m : Str → Option Value} {vars : List (Str × PV)} {o : Option (Str × OV)} {x : Str} {p : PV} {v : Value}
    (I : Inv h₀ L P ⟨vars, o⟩ H h m) (ho : ownOff o [x] = true) (hn : h'.Ns L (fun y => if y = x then some v else m y)) (hs : Heap.SameBut L h h') (r : Rep H p v) :
    Inv h₀ L P ⟨(x, p) :: vars, o⟩ H h' (fun y => if y = x then some v else m y) := by
  have other : ∀ b, b ≠ L → h'.get? b = h.get? b := fun b hb => hs.2 b hb
  refine ⟨fun a ob hp => ⟨(other a (I.prot a ob hp).2).trans (I.prot a ob hp).1, (I.prot a ob hp).2⟩, I.fr.set hn hs, fun b cc xs hb => ?_, I.loc, fun y q hy => ?_, fun y q hy => ?_⟩
  · obtain ⟨ob, n, k1, k2, k3⟩ := I.sub b cc xs hb
    exact ⟨ob, n, (other b fun e => by rw [e, I.loc] at hb; cases hb).trans k1, k2, k3⟩
  · by_cases e : y = x
    · subst e
      have : some p = some q := by simpa using hy
      obtain rfl := Option.some.inj this
      exact ⟨v, if_pos rfl, r⟩
    · have hb : (y == x) = false := by simpa using e
      rw [List.lookup_cons, hb] at hy
      obtain ⟨u, k1, k2⟩ := I.vars y q hy
      exact ⟨u, (if_neg e).trans k1, k2⟩
  · obtain rfl : o = some (y, q) := hy
    have hne : y ≠ x := by
      have : (!([x] : List Str).contains y) = true := ho
      simpa using this
    obtain ⟨a, k1, k2, k4, k5, k6, k7⟩ := I.own y q rfl
    exact ⟨a, (if_neg hne).trans k1, k2.keeps (.refl H) fun o e _ => (other a k6).trans e, k4, k5, k6, k7⟩
theorem store_ {A : Around} {E : Value → Shared → Prop} {nm : Str} {fa L : Addr} {cd : Value} {h₀ : Heap} {s : Shared} {P : Addr → Obj → Prop} {H : PH} {m : Str → Option Value} {M : Model} {Q : Unit → Shared → Prop} {x : Str} {v : Value}
    (F : Fr h₀ L s.heap m) (hk : sc.kind = .function) (hl : sc.names.lookup x = some .local)
    (h : ∀ h', h'.Ns L (fun y => if y = x then some v else m y) → Heap.SameBut L s.heap h' → Q () { s with heap := h', toks := s.toks + 1 }) :
    wpAny M A (storeName (envOf nm sc L fa cd) x v) Q E s :=
  wpAny_storeName_local hl F.ns h (by show (sc.kind == .class || (sc.kind == .module && L != mainGlobals)) = false; rw [hk]; rfl)
def notComp : Expr → Bool
  | .ListComp .. | .SetComp .. | .DictComp .. => false
  | _ => true
theorem swaps_none {e : Expr} {t : Option Expr} {line : Nat} {env : Env} (h : notComp e = true) : swapsWith e t line env = pure false := by
  cases e <;> first | rfl | cases h
theorem S_assign {x : Str} {e : Expr} {p : PV} {vars : List (Str × PV)} {o : Option (Str × OV)} {xp pos : Pos} (h : SemE c d sc σ e (.ok p) ⟨vars, o⟩) (hl : sc.names.lookup x = some .local) (ho : ownOff o [x] = true) (hc : notComp e = true) :
    SemS c d sc σ (.Assign [.Name x xp] e pos) (.ok .next) ⟨(x, p) :: vars, o⟩ := by
  constructor; intro A outer nm fa L cd h₀ s P H m Q E K R G hk I post
  refine wpAny_Assign_Name (h.run A outer nm fa L cd h₀ s P H m _ _ K R G hk I fun v h' tk' H' I' X' r' => ?_) (swaps_none hc)
  exact store_ (P := P) (H := H) I'.fr hk hl fun h'' hn hs => post .next h'' _ H' _ (I'.store ho hn hs r') X' rfl
theorem S_assign_x {x : Str} {e : Expr} {xp pos : Pos} (h : SemE c d sc σ e .exn σ') (hc : notComp e = true) : SemS c d sc σ (.Assign [.Name x xp] e pos) .exn σ' := by
  constructor; intro A outer nm fa L cd h₀ s P H m Q E K R G hk I post
  exact wpAny_Assign_Name (h.run A outer nm fa L cd h₀ s P H m _ _ K R G hk I post) (swaps_none hc)
/-- a list display that is to grow -/
theorem S_own {x : Str} {es : List Expr} {ps : List PV} {vars : List (Str × PV)} {lp xp pos : Pos} (h : SemL c d sc σ es (.ok ps) ⟨vars, none⟩) (hs : ps.length ≤ 1000) (hl : sc.names.lookup x = some .local)
    (hv : vars.lookup x = none) : SemS c d sc σ (.Assign [.Name x xp] (.List es lp) pos) (.ok .next) ⟨vars, some (x, .lst ps)⟩ := by
  constructor; intro A outer nm fa L cd h₀ s P H m Q E K R G hk I post
  refine wpAny_Assign_Name (wpAny_List (h.run A outer nm fa L cd h₀ s P H m lp _ _ K R G hk I fun vs h' tk' H' I' X' r' => ?_)) (swaps_none rfl)
  refine ⟨by rw [r'.length, sizeLine_eq]; omega, ?_⟩
  have F' := I'.fr.push { cls := .type "list", data := .seq vs.toArray }
  show wpAny _ _ (storeName _ x (.ref h'.objs.size)) _ _ { s with heap := h'.push { cls := .type "list", data := .seq vs.toArray }, toks := tk' }
  refine store_ (s := { s with heap := h'.push { cls := .type "list", data := .seq vs.toArray }, toks := tk' }) (P := P) (H := H) F' hk hl fun h'' hn hs => post .next h'' _ H' (fun y => if y = x then some (.ref h'.objs.size) else m y) ?_ X' rfl
  have kp : ∀ b o, h'.get? b = some o → (h'.push { cls := .type "list", data := .seq vs.toArray }).get? b = some o := fun b o e => Heap.get?_push_of_some _ e
  have J := I'.keeps kp
  have other : ∀ b, b ≠ L → h''.get? b = _ := fun b hb => hs.2 b hb
  have hL : L < h'.objs.size := I'.fr.ns.lt
  have hno : H' h'.objs.size = none := by
    cases hq : H' h'.objs.size with
    | none => rfl
    | some y => obtain ⟨o, n, e, _⟩ := I'.sub _ _ _ hq; exact absurd (Heap.lt_size e) (Nat.lt_irrefl _)
  refine ⟨fun a ob hp => ⟨(other a (J.prot a ob hp).2).trans (J.prot a ob hp).1, (J.prot a ob hp).2⟩, J.fr.set hn hs, fun b cc xs hb => ?_, J.loc, fun y q hy => ?_, fun y q hy => ?_⟩
  · obtain ⟨ob, n, k1, k2, k3⟩ := J.sub b cc xs hb
    exact ⟨ob, n, (other b fun e => by rw [e, J.loc] at hb; cases hb).trans k1, k2, k3⟩
  · have e : y ≠ x := fun e => by
      subst e
      have : vars.lookup y = some q := hy
      rw [hv] at this; cases this
    obtain ⟨u, k1, k2⟩ := J.vars y q hy
    exact ⟨u, (if_neg e).trans k1, k2⟩
  · have e : some (x, OV.lst ps) = some (y, q) := hy
    obtain ⟨rfl, rfl⟩ := Prod.mk.inj (Option.some.inj e)
    refine ⟨h'.objs.size, if_pos rfl, ⟨vs.toArray, ⟨_, 0, (other _ (Nat.ne_of_gt hL)).trans (Heap.get?_push_size _ rfl), rfl, rfl, rfl⟩, by simpa using r'⟩, hno, ?_, Nat.ne_of_gt hL, fun o' hp => ?_⟩
    · cases hq : h₀.get? h'.objs.size with
      | none => rfl
      | some o' => exact absurd (Heap.lt_size (I'.fr.keep _ _ hq)) (Nat.lt_irrefl _)
    · exact absurd (Heap.lt_size (I'.prot _ _ hp).1) (Nat.lt_irrefl _)
theorem inplace_of_int {A : Around} {s : Shared} {E : Value → Shared → Prop} {Q : Value → Shared → Prop} {a b : Int} {t u : Tok} (h : Q (.int (a + b) s.toks) { s with toks := s.toks + 1 }) : wpAny (model c.prog c.w) A (inplaceOp .Add (.int a t) (.int b u)) Q E s :=
  PyProof.Rows.iadd_int h
theorem S_aug_add {x : Str} {e : Expr} {a b : Int} {vars vars' : List (Str × PV)} {o o' : Option (Str × OV)} {xp pos : Pos} (hv : vars.lookup x = some (.int a)) (h : SemE c d sc ⟨vars, o⟩ e (.ok (.int b)) ⟨vars', o'⟩)
    (hl : sc.names.lookup x = some .local) (ho : ownOff o' [x] = true) :
    SemS c d sc ⟨vars, o⟩ (.AugAssign (.Name x xp) .Add e pos) (.ok .next) ⟨(x, .int (a + b)) :: vars', o'⟩ := by
  constructor; intro A outer nm fa L cd h₀ s P H m Q E K R G hk I post
  obtain ⟨v, k1, t, rfl⟩ := I.vars x _ hv
  refine wpAny_AugAssign_Name (ldn I.fr k1 (h.run A outer nm fa L cd h₀ s P H m _ _ K R G hk I fun v h' tk' H' I' X' r' => ?_) hk hl)
  obtain ⟨u, rfl⟩ := r'
  refine PyProof.Rows.iadd_int ?_
  exact store_ (P := P) (H := H) I'.fr hk hl fun h'' hn hs => post .next h'' _ H' _ (I'.store ho hn hs ⟨_, rfl⟩) X' rfl
theorem S_aug_sub {x : Str} {e : Expr} {a b : Int} {vars vars' : List (Str × PV)} {o o' : Option (Str × OV)} {xp pos : Pos} (hv : vars.lookup x = some (.int a)) (h : SemE c d sc ⟨vars, o⟩ e (.ok (.int b)) ⟨vars', o'⟩)
    (hl : sc.names.lookup x = some .local) (ho : ownOff o' [x] = true) :
    SemS c d sc ⟨vars, o⟩ (.AugAssign (.Name x xp) .Sub e pos) (.ok .next) ⟨(x, .int (a - b)) :: vars', o'⟩ := by
  constructor; intro A outer nm fa L cd h₀ s P H m Q E K R G hk I post
  obtain ⟨v, k1, t, rfl⟩ := I.vars x _ hv
  refine wpAny_AugAssign_Name (ldn I.fr k1 (h.run A outer nm fa L cd h₀ s P H m _ _ K R G hk I fun v h' tk' H' I' X' r' => ?_) hk hl)
  obtain ⟨u, rfl⟩ := r'
  refine PyProof.Rows.isub_int ?_
  exact store_ (P := P) (H := H) I'.fr hk hl fun h'' hn hs => post .next h'' _ H' _ (I'.store ho hn hs ⟨_, rfl⟩) X' rfl
theorem S_if {t : Expr} {b₁ b₂ : List Stmt} {pos : Pos} {b : Bool} {r : Res Fl} (h : SemT c d sc σ t (.ok b) σ₁) (h2 : SemB c d sc σ₁ (if b then b₁ else b₂) r σ') : SemS c d sc σ (.If t b₁ b₂ pos) r σ' := by
  constructor; intro A outer nm fa L cd h₀ s P H m Q E K R G hk I post
  refine wpAny_If (h.run A outer nm fa L cd h₀ s P H m _ _ K R G hk I fun h' tk' H' I' X' => ?_)
  have k := h2.run A outer nm fa L cd h₀ { s with heap := h', toks := tk' } P H' m Q E K R G hk I' (by
    cases r with
    | ok q => exact fun v h'' tk'' H'' m'' I'' X'' r'' => post v h'' tk'' H'' m'' I'' (X'.trans X'') r''
    | exn => exact post)
  cases b
  · rw [if_neg (by decide)]; rw [if_neg (by decide)] at k; exact k
  · rw [if_pos rfl]; rw [if_pos rfl] at k; exact k
theorem S_return {e : Expr} {p : PV} {pos : Pos} (h : SemE c d sc σ e (.ok p) σ') : SemS c d sc σ (.Return (some e) pos) (.ok (.ret p)) σ' := by
  constructor; intro A outer nm fa L cd h₀ s P H m Q E K R G hk I post
  exact wpAny_Return_some (h.run A outer nm fa L cd h₀ s P H m _ _ K R G hk I fun v h' tk' H' I' X' r' => post (.ret v) h' tk' H' m I' X' ⟨v, rfl, r'⟩)
theorem S_return_x {e : Expr} {pos : Pos} (h : SemE c d sc σ e .exn σ') : SemS c d sc σ (.Return (some e) pos) .exn σ' := by
  constructor; intro A outer nm fa L cd h₀ s P H m Q E K R G hk I post
  exact wpAny_Return_some (h.run A outer nm fa L cd h₀ s P H m _ _ K R G hk I post)
theorem B_nil : SemB c d sc σ [] (.ok .next) σ := by
  constructor; intro A outer nm fa L cd h₀ s P H m Q E K R G hk I post
  exact wpAny_execs_nil (post .next s.heap s.toks H m I (.refl ..) rfl)
theorem B_cons {st : Stmt} {rest : List Stmt} {r : Res Fl} (h : SemS c d sc σ st (.ok .next) σ₁) (h2 : SemB c d sc σ₁ rest r σ') : SemB c d sc σ (st :: rest) r σ' := by
  constructor; intro A outer nm fa L cd h₀ s P H m Q E K R G hk I post
  refine wpAny_execs_cons (h.run A outer nm fa L cd h₀ s P H m _ _ K R G hk I fun fl h' tk' H' m' I' X' r' => ?_)
  obtain rfl : fl = .next := r'
  refine h2.run A outer nm fa L cd h₀ _ P H' m' _ _ K R G hk I' ?_
  cases r with
  | ok q => exact fun v h'' tk'' H'' m'' I'' X'' r'' => post v h'' tk'' H'' m'' I'' (X'.trans X'') r''
  | exn => exact post
theorem B_ret {st : Stmt} {rest : List Stmt} {p : PV} (h : SemS c d sc σ st (.ok (.ret p)) σ') : SemB c d sc σ (st :: rest) (.ok (.ret p)) σ' := by
  constructor; intro A outer nm fa L cd h₀ s P H m Q E K R G hk I post
  refine wpAny_execs_cons (h.run A outer nm fa L cd h₀ s P H m _ _ K R G hk I fun fl h' tk' H' m' I' X' r' => ?_)
  obtain ⟨v, rfl, rv⟩ := r'
  exact post _ h' tk' H' m' I' X' ⟨v, rfl, rv⟩
theorem B_exn {st : Stmt} {rest : List Stmt} (h : SemS c d sc σ st .exn σ') : SemB c d sc σ (st :: rest) .exn σ' := by
  constructor; intro A outer nm fa L cd h₀ s P H m Q E K R G hk I post
  exact wpAny_execs_cons (h.run A outer nm fa L cd h₀ s P H m _ _ K R G hk I post)
end
end Mine
end
section
set_option Elab.async false
open PySem PySem.Calls PySem.Spec PySem.W PyProof.Rows
namespace Mine
section
variable {c : Cx} {d : Nat} {sc : Scope} {σ σ' σ₁ σ₂ : St}
theorem not_interactive {nm : Str} {fa L : Addr} {cd : Value} (hk : sc.kind = .function) : interactive (envOf nm sc L fa cd) = false := by
  show (sc.kind == .module && _) = false
  rw [hk]; rfl
theorem Inv.grow {h₀ : Heap} {L a : Addr} {P : Addr → Obj → Prop} {H : PH} {h h' : Heap} {m : Str → Option Value} {vars : List (Str × PV)} {x : Str} {ps : List PV} {p : PV} {vs : Array Value} {v : Value}
    (I : Inv h₀ L P ⟨vars, some (x, .lst ps)⟩ H h m) (k1 : m x = some (.ref a)) (k4 : H a = none) (k5 : h₀.get? a = none) (k6 : a ≠ L) (k7 : Reps H ps vs.toList) (k8 : ∀ o', ¬ P a o')
    (hp : PlainL h' a (vs.push v)) (hs : Heap.SameBut a h h') (r : Rep H p v) : Inv h₀ L P ⟨vars, some (x, .lst (ps ++ [p]))⟩ H h' m := by
  have other : ∀ b, b ≠ a → h'.get? b = h.get? b := fun b hb => hs.2 b hb
  refine ⟨fun b o hq => ⟨(other b fun e => k8 o (e ▸ hq)).trans (I.prot b o hq).1, (I.prot b o hq).2⟩, ?_, fun b cc xs hb => ?_, I.loc, I.vars, fun y q hy => ?_⟩
  · obtain ⟨oL, z1, z2, hL, z3⟩ := I.fr.ns
    exact ⟨⟨oL, z1, z2, (other L (Ne.symm k6)).trans hL, z3⟩, fun b o e => (other b fun q => by rw [q, k5] at e; cases e).trans (I.fr.keep b o e), I.fr.above⟩
  · obtain ⟨ob, n, j1, j2, j3⟩ := I.sub b cc xs hb
    exact ⟨ob, n, (other b fun e => by rw [e, k4] at hb; cases hb).trans j1, j2, j3⟩
  · have e : some (x, OV.lst (ps ++ [p])) = some (y, q) := hy
    obtain ⟨rfl, rfl⟩ := Prod.mk.inj (Option.some.inj e)
    exact ⟨a, k1, ⟨vs.push v, hp, by rw [Array.toList_push]; exact k7.append (.one r)⟩, k4, k5, k6, k8⟩
theorem S_append {x : Str} {e : Expr} {p : PV} {vars : List (Str × PV)} {ps : List PV} {np apos cpos pos : Pos} (hl : sc.names.lookup x = some .local) (h : SemE c d sc ⟨vars, some (x, .lst ps)⟩ e (.ok p) ⟨vars, some (x, .lst ps)⟩)
    (hp : plainE e = true) (hline : (apos.endLine == cpos.line) = true) (hs : ps.length ≤ 100000) (hd : (x == ("__debug__" : Str)) = false) :
    SemS c d sc ⟨vars, some (x, .lst ps)⟩ (.Expr (.Call (.Attribute (.Name x np) "append" apos) [e] [] cpos) pos) (.ok .next) ⟨vars, some (x, .lst (ps ++ [p]))⟩ := by
  constructor; intro A outer nm fa L cd h₀ s P H m Q E K R G hk I post
  have hst := starEach_plain (env := envOf nm sc L fa cd) (rest := []) hp
  have htrees : backTo cpos (starEach [e] (envOf nm sc L fa cd)) = [(false, eval e (envOf nm sc L fa cd))] := by rw [hst]; rfl
  refine wpAny_Expr_any (wpAny_Call_append rfl (by rw [htrees]; rfl) hline htrees ?_) (not_interactive hk) (swaps_none rfl)
  obtain ⟨a, k1, ⟨vs, k2, k7⟩, k4, k5, k6, k8⟩ := I.own x _ rfl
  refine ld I.fr k1 ⟨a, vs, rfl, k2, ?_⟩ hk hl hd
  refine h.run A outer nm fa L cd h₀ s P H m _ _ K R G hk I fun v h' tk' H' I' X' r' => ?_
  obtain ⟨a', j1, ⟨vs', j2, j7⟩, j4, j5, j6, j8⟩ := I'.own x _ rfl
  obtain rfl : a = a' := by
    rw [k1] at j1
    exact Value.ref.inj (Option.some.inj j1)
  have hsz : vs'.size = ps.length := by rw [← j7.length, Array.length_toList]
  refine list_append_plainL j2 (fun h'' hp hs' => ?_) (by rw [hsz, sizeLine_eq]; omega)
  exact post .next h'' _ H' m (I'.grow j1 j4 j5 j6 j7 j8 hp hs' r') X' rfl
/-! several names at once -/
def targetsOf : List Expr → Option (List Str)
  | [] => some []
  | .Name x _ :: r => (targetsOf r).map (x :: ·)
  | _ => none
def bindAll : List Str → List PV → List (Str × PV) → List (Str × PV)
  | x :: xs, p :: ps, vars => bindAll xs ps ((x, p) :: vars)
  | _, _, vars => vars
theorem targets_star {env : Env} : ∀ {elts : List Expr} {xs : List Str}, targetsOf elts = some xs → (assignEach elts env).findIdx? (·.1) = none ∧ (assignEach elts env).length = xs.length
  | [], xs, h => by cases h; exact ⟨rfl, rfl⟩
  | e :: r, xs, h => by
    cases e <;> try (cases h; done)
    rename_i x p
    cases hr : targetsOf r with
    | none => simp [targetsOf, hr] at h
    | some ys =>
      simp [targetsOf, hr] at h
      subst h
      obtain ⟨i1, i2⟩ := targets_star (env := env) hr
      refine ⟨?_, ?_⟩
      · show List.findIdx? _ ((false, _) :: assignEach r env) = none
        rw [List.findIdx?_cons, i1]; rfl
      · show (assignEach r env).length + 1 = _
        rw [i2]; rfl
theorem ownOff_cons {o : Option (Str × OV)} {x : Str} {xs : List Str} (h : ownOff o (x :: xs) = true) : ownOff o [x] = true ∧ ownOff o xs = true := by
  cases o with
  | none => exact ⟨rfl, rfl⟩
  | some q =>
    obtain ⟨y, ps⟩ := q
    have h' : (!(x :: xs).contains y) = true := h
    simp only [List.contains_cons, Bool.not_or, Bool.and_eq_true, Bool.not_eq_true'] at h'
    refine ⟨?_, ?_⟩
    · show (!([x] : List Str).contains y) = true
      simp only [List.contains_cons, List.contains_nil, Bool.or_false, h'.1]; rfl
    · show (!xs.contains y) = true
      rw [h'.2]; rfl
theorem assign_names {A : Around} {E : Value → Shared → Prop} {nm : Str} {fa L : Addr} {cd : Value} {h₀ : Heap} {P : Addr → Obj → Prop} {H : PH} {M : Model} {o : Option (Str × OV)} {Q : Unit → Shared → Prop} (hk : sc.kind = .function) :
    ∀ {elts : List Expr} {xs : List Str} {ps : List PV} {vs : List Value} {vars : List (Str × PV)} {m : Str → Option Value} {s : Shared}, targetsOf elts = some xs → xs.length = ps.length → Reps H ps vs → (xs.all fun x => decide (sc.names.lookup x = some .local)) = true → ownOff o xs = true →
      Inv h₀ L P ⟨vars, o⟩ H s.heap m → (∀ h' tk m', Inv h₀ L P ⟨bindAll xs ps vars, o⟩ H h' m' → Q () { s with heap := h', toks := tk }) →
      wpAny M A (assignInOrder ((assignEach elts (envOf nm sc L fa cd)).map (·.2)) vs) Q E s
  | [], xs, ps, vs, vars, m, s, ht, hlen, r, hl, ho, I, h => by
    cases ht
    cases ps with
    | nil => rw [show vs = [] from r]; exact wpAny_pure (h s.heap s.toks m I)
    | cons => cases hlen
  | e :: rest, xs, ps, vs, vars, m, s, ht, hlen, r, hl, ho, I, h => by
    cases e <;> try (cases ht; done)
    rename_i x p
    cases hr : targetsOf rest with
    | none => simp [targetsOf, hr] at ht
    | some ys =>
      simp [targetsOf, hr] at ht
      subst ht
      cases ps with
      | nil => cases hlen
      | cons q qs =>
        obtain ⟨v, us, rfl, rv, rus⟩ := r
        rw [List.all_cons, Bool.and_eq_true] at hl
        obtain ⟨o1, o2⟩ := ownOff_cons ho
        show wpAny M A (do holding us (assign (.Name x p) (envOf nm sc L fa cd) v); assignInOrder ((assignEach rest (envOf nm sc L fa cd)).map (·.2)) us) Q E s
        refine wpAny_bind (wpAny_holding (PySem.wpAny_assign_Name (store_ (P := P) (H := H) I.fr hk (of_decide_eq_true hl.1) fun h' hn hs => ?_)))
        exact assign_names hk hr (Nat.succ.inj hlen) rus hl.2 o2 (I.store o1 hn hs rv) h
def notTuple : Expr → Bool
  | .Tuple .. => false
  | _ => true
theorem swapped_none {elts : List Expr} {k : Nat} {tp : Pos} {e : Expr} {env : Env} (h : notTuple e = true) : swappedStores [.Tuple elts k tp] e env = pure none := by
  cases e <;> first | rfl | cases h
theorem S_unpack {elts : List Expr} {xs : List Str} {k : Nat} {e : Expr} {ps : List PV} {vars : List (Str × PV)} {o : Option (Str × OV)} {tp pos : Pos} (h : SemE c d sc σ e (.ok (.tup ps)) ⟨vars, o⟩)
    (ht : targetsOf elts = some xs) (hlen : xs.length = ps.length) (hl : (xs.all fun x => decide (sc.names.lookup x = some .local)) = true) (ho : ownOff o xs = true) (hn : notTuple e = true) (hc : notComp e = true) :
    SemS c d sc σ (.Assign [.Tuple elts k tp] e pos) (.ok .next) ⟨bindAll xs ps vars, o⟩ := by
  constructor; intro A outer nm fa L cd h₀ s P H m Q E K R G hk I post
  refine Assign_Tuple (h.run A outer nm fa L cd h₀ s P H m _ _ K R G hk I fun v h' tk' H' I' X' r' => ?_) (by unfold swapsWithSole; exact swaps_none hc) (swapped_none hn)
  obtain ⟨a, vs, rfl, e1, e2⟩ := r'
  obtain ⟨t1, t2⟩ := targets_star (env := envOf nm sc L fa cd) ht
  show wpAny _ _ (do standAt tp; unpack (.ref a) (assignEach elts (envOf nm sc L fa cd))) _ _ _
  refine wpAny_bind (wpAny_standAt ?_)
  unfold unpack
  rw [t1, t2]
  have hsz : xs.length = vs.size := by rw [hlen, ← e2.length, Array.length_toList]
  refine wpAny_bind (wpAny_holding ?_)
  rw [hsz]
  refine unpackItems_tuple (s := { s with heap := h', toks := tk' }) R.1 (I'.sub.tup e1) fun g hg => ?_
  have J := I'.keeps fun b ob eb => hg b ob (Nat.ne_of_lt (Heap.lt_size eb)) eb
  exact assign_names (s := { s with heap := g, toks := tk' }) hk ht hlen e2 hl ho J fun h'' tk'' m' J' => post .next h'' tk'' H' m' J' X' rfl
theorem S_unpack_x {elts : List Expr} {k : Nat} {e : Expr} {tp pos : Pos} (h : SemE c d sc σ e .exn σ') (hn : notTuple e = true) (hc : notComp e = true) : SemS c d sc σ (.Assign [.Tuple elts k tp] e pos) .exn σ' := by
  constructor; intro A outer nm fa L cd h₀ s P H m Q E K R G hk I post
  exact Assign_Tuple (h.run A outer nm fa L cd h₀ s P H m _ _ K R G hk I post) (by unfold swapsWithSole; exact swaps_none hc) (swapped_none hn)
end
end Mine
end
section
set_option Elab.async false
open PySem PySem.Calls PySem.Spec PySem.W PyProof.Rows
namespace Mine
section
variable {c : Cx} {d : Nat} {sc : Scope} {σ σ' σ₁ σ₂ : St}
/-! exceptions on their way out -/
theorem note_ {A : Around} {outer : List Env} {nm : Str} {fa L e : Addr} {cd cls : Value} {B : Heap} {s : Shared} {M : Model} {E : Value → Shared → Prop} {Q : Unit → Shared → Prop}
    (hfr : A.frames = some (envOf nm sc L fa cd :: outer)) (x : ExIn B (envOf nm sc L fa cd) outer L e cls s.heap)
    (h : ∀ a0 h', Heap.HeldW B (envOf nm sc L fa cd :: outer) e cls a0 L h' → s.heap.UpToSlots h' → Q () { s with heap := h' }) :
    wpAny M A (noteFrame (.ref e) (envOf nm sc L fa cd)) Q E s := by
  cases x with
  | fly a0 f => exact wpAny_looks_onW hfr rfl f (h a0)
  | held a0 f => exact wpAny_noteFrame_againW rfl f.2.2.2 (h a0 s.heap f (Heap.UpToSlots.refl _))
  | fresh a0 oe vs f1 f2 f3 f4 f5 f6 f7 f8 =>
    unfold noteFrame
    simp only [show (envOf nm sc L fa cd).frame = some L from rfl]
    refine wpAny_bind (wpAny_field f4 f6 f7 ?_)
    rw [if_neg (by decide)]
    refine wpAny_entryW hfr f3 rfl f4 f1 f2 f6 (Array.getElem?_eq_some_iff.mp f7).1 f8 fun h' hn => ?_
    obtain ⟨k1, k2, k3, k4⟩ := hn
    exact h a0 h' ⟨k1, f2, k2, by rw [← f5]; exact k3⟩ k4
theorem leave_ {A : Around} {outer : List Env} {nm : Str} {fa L e : Addr} {cd cls : Value} {B : Heap} {s : Shared} {M : Model} {E : Value → Shared → Prop} {Q : Unit → Shared → Prop}
    (hfr : A.frames = some (envOf nm sc L fa cd :: outer)) (x : ExIn B (envOf nm sc L fa cd) outer L e cls s.heap)
    (h : ∀ a0 h', Heap.FlyingW B outer e cls a0 h' → s.heap.UpToSlots h' → Q () { s with heap := h' }) :
    wpAny M A (leaving (envOf nm sc L fa cd) (.ref e)) Q E s := by
  unfold leaving
  refine wpAny_bind (note_ hfr x fun a0 h' hh up => ?_)
  refine wpAny_landsW (s := { s with heap := h' }) hh fun h'' hf up' => ?_
  obtain ⟨k1, k2, ⟨_, _, k3⟩, k4⟩ := hf
  exact h a0 h'' ⟨k1, k2, k3, k4⟩ (up.trans up')
/-- behind an activation of the frame's own -/
theorem back_ {A : Around} {outer : List Env} {nm : Str} {fa L e : Addr} {cd cls a0 : Value} {B : Heap} {s : Shared} {M : Model} {E : Value → Shared → Prop}
    (hh : Heap.HeldW B (envOf nm sc L fa cd :: outer) e cls a0 L s.heap)
    (h : ∀ h', Heap.HeldW B (envOf nm sc L fa cd :: outer) e cls a0 L h' → s.heap.UpToSlots h' → E (.ref e) { s with heap := h' }) :
    cameBackBy M A (envOf nm sc L fa cd) E (.ref e) s := by
  obtain ⟨f1, f2, f3, oe, vs, T, oT, ts, he, hcls, hd, h1, hnT, hTe, hT, hdT, h3⟩ := hh
  have hsz3 : 3 < ts.size := (Array.getElem?_eq_some_iff.mp h3).1
  have other : ∀ b, b ≠ T → (s.heap.update T (Obj.mapFields (·.setIfInBounds 3 (rawInt L)))).get? b = s.heap.get? b := fun b hb => Heap.get?_update_other _ _ (Ne.symm hb)
  have noRecord : ∀ b o, s.heap.get? b = some o → (∀ vs, o.data ≠ .fields vs) → b ≠ T := fun b o hb hnf q => by
    rw [q, hT] at hb; injection hb with hb; subst hb; exact hnf ts hdT
  unfold cameBackBy
  refine wpAny_bind (wpAny_field he hd h1 ?_)
  rw [if_neg (show ¬ ((Value.ref T == Value.none) = true) from by simp)]
  unfold setFlight
  show wpAny M A (do let tb ← field (.ref e) 1; if tb != .none then setField tb 3 (rawInt L)) _ _ s
  refine wpAny_bind (wpAny_field he hd h1 ?_)
  rw [if_pos (show (Value.ref T != Value.none) = true from by simp)]
  refine wpAny_setField hT hdT hsz3 (h _ ⟨fun b o hbo => (other b fun q => by rw [q, hnT] at hbo; cases hbo).trans (f1 b o hbo), f2,
    f3.of_keeps fun b o hb hnf => ⟨o, (other b (noRecord b o hb hnf)).trans hb, rfl⟩, ?_⟩ fun b o hb hn => ⟨o.slots, (other b (noRecord b o hb hn)).trans hb⟩)
  exact ⟨oe, vs, T, _, _, (other e (Ne.symm hTe)).trans he, hcls, hd, h1, hnT, hTe, Heap.get?_update_self _ hT (Obj.isFreed_of_fields (Obj.data_mapFields hdT _)), Obj.data_mapFields hdT _, by simp [hsz3]⟩
/-! loops -/
structure SemW (c : Cx) (d : Nat) (sc : Scope) (σ : St) (test : Expr) (body : List Stmt) (r : Res Fl) (σ' : St) : Prop where
  run :
  ∀ (A : Around) (outer : List Env) (nm : Str) (fa L : Addr) (cd : Value) (h₀ : Heap) (s : Shared) (P : Addr → Obj → Prop) (H : PH) (m : Str → Option Value) (R : Result → Shared → Prop),
    Belo c A outer h₀ → Room A d → GF c h₀ → sc.kind = .function → Inv h₀ L P σ H s.heap m →
    (match r with
      | .ok f => ∀ fl h' tk' H' m', Inv h₀ L P σ' H' h' m' → Ext h₀ H H' → FlRep h₀ H' h' f fl → R (.ok fl) { s with heap := h', toks := tk' }
      | .exn => ∀ e a0 h' tk', Heap.HeldW c.B (envOf nm sc L fa cd :: outer) e c.exc a0 L h' → h₀.UpToSlots h' → R (.error (.ref e)) { s with heap := h', toks := tk' }) →
    codeAny (model c.prog c.w) (A.deeper (envOf nm sc L fa cd)) (.whileLoop test body [] (envOf nm sc L fa cd)) R s
theorem S_while {test : Expr} {body : List Stmt} {pos : Pos} {r : Res Fl} (h : SemW c d sc σ test body r σ') : SemS c d sc σ (.While test body [] pos) r σ' := by
  constructor; intro A outer nm fa L cd h₀ s P H m Q E K R G hk I post
  refine wpAny_While (h.run A outer nm fa L cd h₀ s P H m _ K R G hk I ?_)
  cases r with
  | ok f => exact post
  | exn =>
    intro e a0 h' tk' hh up
    exact back_ (s := { s with heap := h', toks := tk' }) hh fun h'' hh' up' => post e h'' tk' (.held a0 hh') (up.trans up')
theorem while_turn {prog : Program} {w : World} {A : Around} {R : Result → Shared → Prop} {s : Shared} {test : Expr} {body orelse : List Stmt} {env : Env}
    (h : wpAny (model prog w) A (isTrue test env (eval test env)) (fun b s₂ =>
        if b then wpAny (model prog w) A (execs body env) (fun f s₃ => match f with
            | .next | .cont => codeAny (model prog w) A (.whileLoop test body orelse env) R s₃
            | .brk => R (.ok .next) s₃
            | .ret v => R (.ok (.ret v)) s₃) (notedBy (model prog w) A env fun e s' => R (.error e) s') s₂
        else wpAny (model prog w) A (execs orelse env) (fun f s₃ => R (.ok f) s₃) (notedBy (model prog w) A env fun e s' => R (.error e) s') s₂)
        (notedBy (model prog w) A env fun e s' => R (.error e) s') s) : codeAny (model prog w) A (.whileLoop test body orelse env) R s := by
  refine codeAny_of_tree ?_
  show wpAny _ A ((whileTurn test body orelse env).onRaise (fun x => do noteFrame x env; theTreesLotGoes x)) _ _ s
  refine wpAny_noted ?_
  simp only [whileTurn]
  refine wpAny_bind (wpAny_mono h (fun b s₂ h₂ => ?_) fun _ _ h' => h')
  cases b with
  | false =>
    simp only [Bool.false_eq_true, if_false] at h₂ ⊢
    exact wpAny_bind (wpAny_mono h₂ (fun f s₃ h₃ => wpAny_pure h₃) fun _ _ h' => h')
  | true =>
    simp only [if_true] at h₂ ⊢
    refine wpAny_bind (wpAny_mono h₂ (fun f s₃ h₃ => ?_) fun _ _ h' => h')
    cases f with
    | next => exact wpAny_pure ⟨rfl, h₃⟩
    | cont => exact wpAny_pure ⟨rfl, h₃⟩
    | brk => exact wpAny_pure h₃
    | ret v => exact wpAny_pure h₃
theorem frames_of {A : Around} {B h₀ : Heap} {outer : List Env} {env : Env} (K : Below A B outer h₀) : (A.deeper env).frames = some (env :: outer) := Around.frames_deeper K.stack
theorem noted_of {A : Around} {outer : List Env} {nm : Str} {fa L : Addr} {cd : Value} {h₀ : Heap} {s : Shared} {R : Result → Shared → Prop} {e : Addr} {h' : Heap} {tk' : Nat} (K : Belo c A outer h₀)
    (post : ∀ e a0 h' tk', Heap.HeldW c.B (envOf nm sc L fa cd :: outer) e c.exc a0 L h' → h₀.UpToSlots h' → R (.error (.ref e)) { s with heap := h', toks := tk' })
    (x : ExIn c.B (envOf nm sc L fa cd) outer L e c.exc h') (up : h₀.UpToSlots h') :
    notedBy (model c.prog c.w) (A.deeper (envOf nm sc L fa cd)) (envOf nm sc L fa cd) (fun e s' => R (.error e) s') (.ref e) { s with heap := h', toks := tk' } :=
  note_ (s := { s with heap := h', toks := tk' }) (frames_of K.1) x fun a0 h'' hh up' => post e a0 h'' tk' hh (up.trans up')
theorem W_exit {test : Expr} {body : List Stmt} (h : SemT c d sc σ test (.ok false) σ') : SemW c d sc σ test body (.ok .next) σ' := by
  constructor; intro A outer nm fa L cd h₀ s P H m R K Rm G hk I post
  refine while_turn (h.run A outer nm fa L cd h₀ s P H m _ _ K Rm G hk I fun h' tk' H' I' X' => ?_)
  rw [if_neg (by decide)]
  exact wpAny_execs_nil (post .next h' tk' H' m I' X' rfl)
theorem W_step {test : Expr} {body : List Stmt} {r : Res Fl} (h : SemT c d sc σ test (.ok true) σ₁) (hb : SemB c d sc σ₁ body (.ok .next) σ₂) (hr : SemW c d sc σ₂ test body r σ') : SemW c d sc σ test body r σ' := by
  constructor; intro A outer nm fa L cd h₀ s P H m R K Rm G hk I post
  refine while_turn (h.run A outer nm fa L cd h₀ s P H m _ _ K Rm G hk I fun h' tk' H' I' X' => ?_)
  rw [if_pos rfl]
  refine hb.run A outer nm fa L cd h₀ { s with heap := h', toks := tk' } P H' m _ _ K Rm G hk I' fun fl h'' tk'' H'' m'' I'' X'' r'' => ?_
  obtain rfl : fl = .next := r''
  refine hr.run A outer nm fa L cd h₀ _ P H'' m'' _ K Rm G hk I'' ?_
  cases r with
  | ok f => exact fun fl h3 tk3 H3 m3 I3 X3 r3 => post fl h3 tk3 H3 m3 I3 (X'.trans (X''.trans X3)) r3
  | exn => exact post
theorem W_ret {test : Expr} {body : List Stmt} {p : PV} (h : SemT c d sc σ test (.ok true) σ₁) (hb : SemB c d sc σ₁ body (.ok (.ret p)) σ') : SemW c d sc σ test body (.ok (.ret p)) σ' := by
  constructor; intro A outer nm fa L cd h₀ s P H m R K Rm G hk I post
  refine while_turn (h.run A outer nm fa L cd h₀ s P H m _ _ K Rm G hk I fun h' tk' H' I' X' => ?_)
  rw [if_pos rfl]
  refine hb.run A outer nm fa L cd h₀ { s with heap := h', toks := tk' } P H' m _ _ K Rm G hk I' fun fl h'' tk'' H'' m'' I'' X'' r'' => ?_
  obtain ⟨v, rfl, rv⟩ := r''
  exact post _ h'' tk'' H'' m'' I'' (X'.trans X'') ⟨v, rfl, rv⟩
theorem W_exn {test : Expr} {body : List Stmt} (h : SemT c d sc σ test (.ok true) σ₁) (hb : SemB c d sc σ₁ body .exn σ') : SemW c d sc σ test body .exn σ' := by
  constructor; intro A outer nm fa L cd h₀ s P H m R K Rm G hk I post
  refine while_turn (h.run A outer nm fa L cd h₀ s P H m _ _ K Rm G hk I fun h' tk' H' I' X' => ?_)
  rw [if_pos rfl]
  exact hb.run A outer nm fa L cd h₀ { s with heap := h', toks := tk' } P H' m _ _ K Rm G hk I' fun e h'' tk'' x up => noted_of (s := s) K post x up
/-! the entry of a def -/
def Binds (fn : DefRec) (xs : List Str) : Prop := ∀ (vs : List Value) (pm cd doc : Value), vs.length = xs.length → bindArgs (docDef fn.name fn.params fn.body fn.scope pm cd doc) ⟨vs, []⟩ = pure (xs.zip vs)
theorem lookup_zip {H : PH} {x : Str} {p : PV} : ∀ {xs : List Str} {ps : List PV} {vs : List Value}, Reps H ps vs → (xs.zip ps).lookup x = some p → ∃ v, (xs.zip vs).lookup x = some v ∧ Rep H p v
  | [], _, _, _, h => by simp at h
  | _ :: _, [], _, _, h => by simp at h
  | y :: xs, q :: ps, _, ⟨v, r, rfl, rv, rr⟩, h => by
    rw [List.zip_cons_cons, List.lookup_cons] at h
    rw [List.zip_cons_cons, List.lookup_cons]
    cases hb : x == y with
    | true => rw [hb] at h; exact ⟨v, rfl, by rw [← Option.some.inj h]; exact rv⟩
    | false => rw [hb] at h; exact lookup_zip rr h
theorem lookup_append_none {α : Type} {x : Str} : ∀ {l l' : List (Str × α)}, l.lookup x = none → (l ++ l').lookup x = l'.lookup x
  | [], _, _ => rfl
  | (y, b) :: l, l', h => by
    rw [List.lookup_cons] at h
    rw [List.cons_append, List.lookup_cons]
    cases hb : x == y with
    | true => rw [hb] at h; cases h
    | false => rw [hb] at h; exact lookup_append_none h
theorem lookup_append_some {α : Type} {x : Str} {v : α} : ∀ {l l' : List (Str × α)}, l.lookup x = some v → (l ++ l').lookup x = some v
  | (y, b) :: l, l', h => by
    rw [List.lookup_cons] at h
    rw [List.cons_append, List.lookup_cons]
    cases hb : x == y with
    | true => rw [hb] at h; exact h
    | false => rw [hb] at h; exact lookup_append_some h
theorem lookup_none_of {α : Type} {x : Str} : ∀ {l : List (Str × α)}, x ∉ l.map (·.1) → l.lookup x = none
  | [], _ => rfl
  | (y, b) :: l, h => by
    rw [List.lookup_cons]
    have : (x == y) = false := by
      have : x ≠ y := fun e => h (by simp [e])
      simpa using this
    rw [this]
    exact lookup_none_of fun e => h (by simp [e])
theorem lookup_reverse {α : Type} {x : Str} {v : α} : ∀ {l : List (Str × α)}, (l.map (·.1)).Nodup → l.lookup x = some v → l.reverse.lookup x = some v
  | [], _, h => by simp at h
  | (y, b) :: l, hn, h => by
    rw [List.map_cons, List.nodup_cons] at hn
    rw [List.lookup_cons] at h
    rw [List.reverse_cons]
    cases hb : x == y with
    | true =>
      rw [hb] at h
      have e : x = y := by simpa using hb
      have hx : l.reverse.lookup x = none := lookup_none_of (by rw [List.map_reverse, List.mem_reverse, e]; exact hn.1)
      rw [lookup_append_none hx, List.lookup_cons, hb]; exact h
    | false =>
      rw [hb] at h
      exact lookup_append_some (lookup_reverse hn.2 h)
theorem zip_fst {α : Type} : ∀ {xs : List Str} {vs : List α}, xs.length = vs.length → (xs.zip vs).map (·.1) = xs
  | [], _, _ => rfl
  | x :: xs, [], h => by cases h
  | x :: xs, v :: vs, h => by rw [List.zip_cons_cons, List.map_cons, zip_fst (Nat.succ.inj h)]
/-- plain defs: what the entry asks of the text -/
structure Plainly (fn : DefRec) (xs : List Str) : Prop where
  binds : Binds fn xs
  nodup : xs.Nodup
  loc : ∀ x ∈ xs, fn.scope.names.lookup x = some .local
  co : fn.scope.isCoroutine = false
  gen : fn.scope.isGenerator = false
  kind : fn.scope.kind = .function
  cell : ∀ x ∈ fn.scope.names, x.2 ≠ .cell
theorem call_intro (hlone : c.lone = false) {fn : DefRec} {xs : List Str} {args : List PV} {r : Res PV} {σ' : St} (hp : Plainly fn xs) (hlen : xs.length = args.length)
    (h : ∃ f : Res Fl, SemB c d fn.scope ⟨xs.zip args, none⟩ fn.body f σ' ∧ (match f, r with
      | .ok (.ret p), .ok q => p = q
      | .ok .next, .ok q => q = .none
      | .exn, .exn => True
      | _, _ => False)) : CallOk c d fn args r := by
  intro A outer s H vs a o pm cd doc Q E K R G S rs ho hdat hcd post
  obtain ⟨f, hB, hfr⟩ := h
  have hvl : vs.length = xs.length := by rw [rs.length, hlen]
  refine wpAny_call (call_plain (binds := xs.zip vs) (by have := R.2.1; show A.depth < recursionLimit; unfold recursionLimit; omega) ho hdat G.top.nolimit hcd (hp.binds vs pm cd doc hvl) (fun x hx => hp.loc x.1 ?_) (fun h₁ F => ?_) hp.co hp.gen hp.kind hp.cell)
  · have := List.mem_map_of_mem (f := Prod.fst) hx
    rw [zip_fst hvl.symm] at this; exact this
  · have hLn : H s.heap.objs.size = none := by
      cases hq : H s.heap.objs.size with
      | none => rfl
      | some y => obtain ⟨o, n, e, _⟩ := S _ _ _ hq; exact absurd (Heap.lt_size e) (Nat.lt_irrefl _)
    have I : Inv s.heap s.heap.objs.size (fun _ _ => False) ⟨xs.zip args, none⟩ H h₁ (fun x => (xs.zip vs).reverse.lookup x) := by
      refine ⟨fun _ _ hf => hf.elim, F, S.keeps F.keep, hLn, fun x p hx => ?_, fun x ps hx => by cases hx⟩
      obtain ⟨v, k1, k2⟩ := lookup_zip rs hx
      exact ⟨v, lookup_reverse (by rw [zip_fst hvl.symm]; exact hp.nodup) k1, k2⟩
    refine hB.run A outer fn.name a s.heap.objs.size cd s.heap { s with heap := h₁, toks := s.toks + (xs.zip vs).length } _ H _ _ _ ⟨K, fun h => by rw [hlone] at h; cases h⟩ R G hp.kind I ?_
    cases f with
    | ok fl =>
      cases r with
      | exn => cases fl <;> exact hfr.elim
      | ok q =>
        intro flow h' tk' H' m' I' X' rf
        cases fl with
        | ret p =>
          obtain rfl : p = q := hfr
          obtain ⟨v, rfl, rv⟩ := rf
          exact post v h' tk' H' I'.fr.keep I'.sub X' rv
        | next =>
          obtain rfl : q = .none := hfr
          obtain rfl : flow = .next := rf
          exact post .none h' tk' H' I'.fr.keep I'.sub X' rfl
        | brk => exact hfr.elim
        | cont => exact hfr.elim
        | retF => exact hfr.elim
    | exn =>
      cases r with
      | ok q => exact hfr.elim
      | exn =>
        intro e h' tk' x up
        exact leave_ (s := { s with heap := h', toks := tk' }) (frames_of K) x fun a0 h'' hf up' => post e a0 h'' tk' hf (up.trans up')
theorem call_ret (hlone : c.lone = false) {fn : DefRec} {xs : List Str} {args : List PV} {p : PV} {σ' : St} (hp : Plainly fn xs) (hlen : xs.length = args.length) (h : SemB c d fn.scope ⟨xs.zip args, none⟩ fn.body (.ok (.ret p)) σ') : CallOk c d fn args (.ok p) :=
  call_intro hlone hp hlen ⟨_, h, rfl⟩
theorem call_exn (hlone : c.lone = false) {fn : DefRec} {xs : List Str} {args : List PV} {σ' : St} (hp : Plainly fn xs) (hlen : xs.length = args.length) (h : SemB c d fn.scope ⟨xs.zip args, none⟩ fn.body .exn σ') : CallOk c d fn args .exn :=
  call_intro hlone hp hlen ⟨_, h, trivial⟩
theorem CallOk.mono {fn : DefRec} {args : List PV} {r : Res PV} {d' : Nat} (h : CallOk c d fn args r) (hd : d ≤ d') : CallOk c d' fn args r :=
  fun A outer s H vs a o pm cd doc Q E K R => h A outer s H vs a o pm cd doc Q E K (R.mono hd)
end
section
variable {c : Cx}
theorem item_n {ps : List PV} {i : Nat} {x : PV} (hx : ps[i]? = some x) (hi : i < 100000) : ItemOk c (.lst ps) (.int (i : Int)) x :=
  item_lst (by omega) (by omega) (by simpa using hx)
theorem bin_add_nat {x y : Nat} : BinOk c .Add (.int (x : Int)) (.int (y : Int)) (.int ((x + y : Nat) : Int)) := by
  rw [Int.natCast_add]; exact bin_add_int
theorem cmp_lt_nat {x y : Nat} : CmpOk c .Lt (.int (x : Int)) (.int (y : Int)) (decide (x < y)) := by
  have := @cmp_lt_int c (x : Int) (y : Int)
  simpa using this
end
end Mine
end
section
set_option Elab.async false
open PySem PySem.Calls PySem.Spec PySem.W PyProof.Rows
namespace Mine
section
variable {c : Cx} {d : Nat} {sc : Scope} {σ σ' σ₁ σ₂ : St}
abbrev iterObj (k n : Int) : Obj := { cls := .type "range_iterator", dict := none, data := .fields #[rawInt k, rawInt n, rawInt 1], slots := #[] }
def SemF (c : Cx) (d : Nat) (sc : Scope) (σ : St) (x : Str) (body : List Stmt) (k : Int) (n : Nat) (r : Res Fl) (σ' : St) : Prop :=
  ∀ (A : Around) (outer : List Env) (nm : Str) (fa L : Addr) (cd : Value) (h₀ : Heap) (s : Shared) (P : Addr → Obj → Prop) (H : PH) (m : Str → Option Value) (px : Pos) (I : Addr) (R : Result → Shared → Prop),
    Belo c A outer h₀ → Room A d → GF c h₀ → sc.kind = .function → Inv h₀ L P σ H s.heap m →
    s.heap.get? I = some (iterObj k n) → I ≠ L → h₀.get? I = none → (∀ o, ¬ P I o) →
    (match r with
      | .ok f => ∀ fl h' tk' H' m', Inv h₀ L P σ' H' h' m' → Ext h₀ H H' → FlRep h₀ H' h' f fl → R (.ok fl) { s with heap := h', toks := tk' }
      | .exn => ∀ e a0 h' tk', Heap.HeldW c.B (envOf nm sc L fa cd :: outer) e c.exc a0 L h' → h₀.UpToSlots h' → R (.error (.ref e)) { s with heap := h', toks := tk' }) →
    codeAny (model c.prog c.w) (A.deeper (envOf nm sc L fa cd)) (.forLoop (.Name x px) (.ref I) body [] (envOf nm sc L fa cd)) R s
theorem for_turn {prog : Program} {w : World} {A : Around} {R : Result → Shared → Prop} {s : Shared} {target : Expr} {it : Value} {body orelse : List Stmt} {env : Env}
    (h : wpAny (model prog w) A (pyNext it) (fun r s₁ => match r with
      | none => wpAny (model prog w) A (execs orelse env) (fun f s₃ => R (.ok f) s₃) (notedBy (model prog w) A env fun e s' => R (.error e) s') s₁
      | some v => wpAny (model prog w) A (assign target env v) (fun _ s₂ => wpAny (model prog w) A (execs body env) (fun f s₃ => match f with
          | .next | .cont => codeAny (model prog w) A (.forLoop target it body orelse env) R s₃
          | .brk => R (.ok .next) s₃
          | .ret v => R (.ok (.ret v)) s₃) (notedBy (model prog w) A env fun e s' => R (.error e) s') s₂) (notedBy (model prog w) A env fun e s' => R (.error e) s') s₁) (notedBy (model prog w) A env fun e s' => R (.error e) s') s)
    (ht : ∀ v, letOwnedTupleGo target it v = pure ()) : codeAny (model prog w) A (.forLoop target it body orelse env) R s := by
  refine codeAny_of_tree ?_
  show wpAny _ A ((forTurn target it body orelse env).onRaise (fun x => do noteFrame x env; theTreesLotGoes x)) _ _ s
  refine wpAny_noted ?_
  simp only [forTurn]
  refine wpAny_bind (wpAny_standAt (wpAny_bind (wpAny_onRaise (wpAny_mono h (fun r s₁ h₁ => ?_) fun _ _ h' => wpAny_standAt h'))))
  cases r with
  | none => exact wpAny_pure ⟨rfl, codeAny_block h₁⟩
  | some v =>
    refine wpAny_bind (wpAny_of_eq (ht v) ?_)
    refine wpAny_bind (wpAny_mono h₁ (fun _ s₂ h₂ => wpAny_bind (wpAny_mono h₂ (fun f s₃ h₃ => ?_) fun _ _ h' => h')) fun _ _ h' => h')
    cases f with
    | next => exact wpAny_pure ⟨rfl, h₃⟩
    | cont => exact wpAny_pure ⟨rfl, h₃⟩
    | brk => exact wpAny_pure h₃
    | ret v => exact wpAny_pure h₃
/-- an object of no pure heap turns (the loop's own iterator) -/
theorem Inv.turn {h₀ : Heap} {L I : Addr} {P : Addr → Obj → Prop} {H : PH} {h h' : Heap} {m : Str → Option Value} {o : Obj} {vs : Array Value} (J : Inv h₀ L P σ H h m) (ho : h.get? I = some o) (hd : o.data = .fields vs) (hL : I ≠ L) (hb : h₀.get? I = none) (hP : ∀ o, ¬ P I o)
    (hs : ∀ b ob, b ≠ I → h.get? b = some ob → h'.get? b = some ob) : Inv h₀ L P σ H h' m := by
  refine ⟨fun b ob hq => ⟨hs b ob (fun e => hP ob (e ▸ hq)) (J.prot b ob hq).1, (J.prot b ob hq).2⟩, ?_, fun b cc xs hq => ?_, J.loc, J.vars, fun y q hy => ?_⟩
  · obtain ⟨oL, z1, z2, zL, z3⟩ := J.fr.ns
    exact ⟨⟨oL, z1, z2, hs L oL (Ne.symm hL) zL, z3⟩, fun b ob e => hs b ob (fun q => by rw [q, hb] at e; cases e) (J.fr.keep b ob e), J.fr.above⟩
  · obtain ⟨ob, n, j1, j2, j3⟩ := J.sub b cc xs hq
    exact ⟨ob, n, hs b ob (fun e => by rw [e, ho] at j1; obtain rfl := Option.some.inj j1; rw [hd] at j3; cases j3) j1, j2, j3⟩
  · obtain ⟨a, k1, k2, k6⟩ := J.own y q hy
    exact ⟨a, k1, k2.keeps (.refl H) fun ob k3 k4 => hs a ob (fun e => by rw [e, ho] at k3; obtain rfl := Option.some.inj k3; exact k4 _ hd) k3, k6⟩
def withIt (P : Addr → Obj → Prop) (I : Addr) (ob : Obj) : Addr → Obj → Prop := fun a o => P a o ∨ (a = I ∧ o = ob)
theorem Inv.guard {h₀ : Heap} {L I : Addr} {P : Addr → Obj → Prop} {H : PH} {h : Heap} {m : Str → Option Value} {o : Obj} {vs : Array Value} (J : Inv h₀ L P σ H h m) (ho : h.get? I = some o) (hd : o.data = .fields vs) (hL : I ≠ L) : Inv h₀ L (withIt P I o) σ H h m :=
  ⟨fun a ob hq => hq.elim (J.prot a ob) fun ⟨e1, e2⟩ => by subst e1; subst e2; exact ⟨ho, hL⟩, J.fr, J.sub, J.loc, J.vars, fun y q hy => by
    obtain ⟨a, k1, k2, k6, k7, k8, k10⟩ := J.own y q hy
    obtain ⟨ob, k3, k4⟩ := k2.get
    exact ⟨a, k1, k2, k6, k7, k8, fun o' hq => hq.elim (k10 o') fun ⟨e1, _⟩ => by
      rw [e1, ho] at k3; obtain rfl := Option.some.inj k3; exact k4 _ hd⟩⟩
theorem Inv.unguard {h₀ : Heap} {L : Addr} {P P' : Addr → Obj → Prop} {H : PH} {h : Heap} {m : Str → Option Value} (J : Inv h₀ L P' σ H h m) (hP : ∀ a o, P a o → P' a o) : Inv h₀ L P σ H h m :=
  ⟨fun a ob hq => J.prot a ob (hP _ _ hq), J.fr, J.sub, J.loc, J.vars, fun y q hy => by
    obtain ⟨a, k1, k2, k6, k7, k8, k10⟩ := J.own y q hy
    exact ⟨a, k1, k2, k6, k7, k8, fun o' hq => k10 o' (hP _ _ hq)⟩⟩
theorem F_end {x : Str} {body : List Stmt} {k : Int} : SemF c d sc σ x body k 0 (.ok .next) σ := by
  intro A outer nm fa L cd h₀ s P H m px I R K Rm G hk J hI hL hb hP post
  refine for_turn ?_ (fun _ => rfl)
  refine wpAny_pyNext_range_end (x := k) (step := 1) Rm.1 hI (by decide) fun h' he => ?_
  exact wpAny_execs_nil (post .next h' s.toks H m (J.turn hI rfl hL hb hP fun b ob hne e => he b ob hne e) (.refl ..) rfl)
theorem F_body {x : Str} {body : List Stmt} {k : Int} {n : Nat} {vars : List (Str × PV)} {o : Option (Str × OV)} {rb r : Res Fl} (hl : sc.names.lookup x = some .local) (ho : ownOff o [x] = true)
    (hb : SemB c d sc ⟨(x, .int k) :: vars, o⟩ body rb σ₂)
    (hr : match rb with
      | .ok .next => SemF c d sc σ₂ x body (k + 1) n r σ'
      | .ok .cont => SemF c d sc σ₂ x body (k + 1) n r σ'
      | .ok .brk => r = .ok .next ∧ σ' = σ₂
      | .ok (.ret p) => r = .ok (.ret p) ∧ σ' = σ₂
      | .ok (.retF ps q) => r = .ok (.retF ps q) ∧ σ' = σ₂
      | .exn => r = .exn) : SemF c d sc ⟨vars, o⟩ x body k (n + 1) r σ' := by
  intro A outer nm fa L cd h₀ s P H m px I R K Rm G hk J hI hL hbs hP post
  refine for_turn ?_ (fun _ => rfl)
  refine wpAny_pyNext_range_item (x := k) (left := ((n + 1 : Nat) : Int)) (step := 1) hI (by omega) fun h₁ hi hs => ?_
  have J1 := J.turn hI rfl hL hbs hP fun b ob hne e => (hs.2 b hne).trans e
  have hi' : h₁.get? I = some (iterObj (k + 1) n) := by
    have : ((n + 1 : Nat) : Int) - 1 = n := by omega
    rw [this] at hi; exact hi
  have J2 := J1.guard hi' rfl hL
  refine PySem.wpAny_assign_Name (store_ (s := { s with heap := h₁, toks := s.toks + 1 }) (P := P) (H := H) J2.fr hk hl fun h₂ hn hs₂ => ?_)
  have J3 := J2.store ho hn hs₂ (p := .int k) ⟨_, rfl⟩
  refine hb.run A outer nm fa L cd h₀ { s with heap := h₂, toks := s.toks + 1 + 1 } _ H _ _ _ K Rm G hk J3 ?_
  have sub : ∀ a ob, P a ob → withIt P I (iterObj (k + 1) n) a ob := fun a ob e => .inl e
  cases rb with
  | exn =>
    obtain rfl : r = .exn := hr
    exact fun e h' tk' X up => noted_of (s := s) K post X up
  | ok f =>
    intro fl h' tk' H' m' I' X' rf
    cases f with
    | next =>
      obtain rfl : fl = .next := rf
      refine hr A outer nm fa L cd h₀ { s with heap := h', toks := tk' } P H' m' px I R K Rm G hk (I'.unguard sub) (I'.prot I _ (.inr ⟨rfl, rfl⟩)).1 hL hbs hP ?_
      cases r with
      | ok f => exact fun fl h3 tk3 H3 m3 I3 X3 r3 => post fl h3 tk3 H3 m3 I3 (X'.trans X3) r3
      | exn => exact post
    | cont =>
      obtain rfl : fl = .cont := rf
      refine hr A outer nm fa L cd h₀ { s with heap := h', toks := tk' } P H' m' px I R K Rm G hk (I'.unguard sub) (I'.prot I _ (.inr ⟨rfl, rfl⟩)).1 hL hbs hP ?_
      cases r with
      | ok f => exact fun fl h3 tk3 H3 m3 I3 X3 r3 => post fl h3 tk3 H3 m3 I3 (X'.trans X3) r3
      | exn => exact post
    | brk =>
      obtain ⟨rfl, rfl⟩ := hr
      obtain rfl : fl = .brk := rf
      exact post .next h' tk' H' m' (I'.unguard sub) X' rfl
    | ret p =>
      obtain ⟨rfl, rfl⟩ := hr
      obtain ⟨v, rfl, rv⟩ := rf
      exact post _ h' tk' H' m' (I'.unguard sub) X' ⟨v, rfl, rv⟩
    | retF ps q =>
      obtain ⟨rfl, rfl⟩ := hr
      obtain ⟨t, l, u, vs, rfl, rv⟩ := rf
      exact post _ h' tk' H' m' (I'.unguard sub) X' ⟨t, l, u, vs, rfl, rv⟩
theorem S_for_of {x xr : Str} {es : List Expr} {body : List Stmt} {px np cp pos : Pos} {a b : Int} {r : Res Fl}
    (hiter : ∀ (A : Around) (outer : List Env) (nm : Str) (fa L : Addr) (cd : Value) (h₀ : Heap) (s : Shared) (P : Addr → Obj → Prop) (H : PH) (m : Str → Option Value) (Q E : Value → Shared → Prop),
      Belo c A outer h₀ → Room A d → GF c h₀ → sc.kind = .function → Inv h₀ L P σ H s.heap m →
      (∀ rr h' tk' t u v H', Inv h₀ L P σ₁ H' h' m → Ext h₀ H H' → IsRange h' rr a b 1 t u v → Q (.ref rr) { s with heap := h', toks := tk' }) →
      wpAny (model c.prog c.w) (A.deeper (envOf nm sc L fa cd)) (eval (.Call (.Name xr np) es [] cp) (envOf nm sc L fa cd)) Q E s)
    (ha : -(2 ^ 62) ≤ a ∧ a < 2 ^ 62 ∧ -(2 ^ 62) ≤ b ∧ b < 2 ^ 62)
    (h : SemF c d sc σ₁ x body a (b - a).toNat r σ') : SemS c d sc σ (.For (.Name x px) (.Call (.Name xr np) es [] cp) body [] pos) r σ' := by
  constructor; intro A outer nm fa L cd h₀ s P H m Q E K R G hk J post
  refine wpAny_For (hiter A outer nm fa L cd h₀ s P H m _ _ K R G hk J fun rr h' tk' t u v H' J' X' hr => ?_) (fun _ => rfl)
  refine wpAny_pyIter_range (s := { s with heap := h', toks := tk' }) hr (small_one ha.1 ha.2.1 ha.2.2.1 ha.2.2.2) ?_
  have hn : Builtin.Range.rangeSize a b 1 = ((b - a).toNat : Int) := by
    rw [rangeSize_one]
    split <;> omega
  rw [hn]
  have kp : ∀ bb o, h'.get? bb = some o → (h'.push (iterObj a ((b - a).toNat : Int))).get? bb = some o := fun bb o e => Heap.get?_push_of_some _ e
  refine h A outer nm fa L cd h₀ { s with heap := h'.push (iterObj a ((b - a).toNat : Int)), toks := tk' } P H' m px h'.objs.size _ K R G hk (J'.keeps kp) (Heap.get?_push_size _ rfl) (Nat.ne_of_gt J'.fr.ns.lt) ?_ (fun o hp => absurd (Heap.lt_size (J'.prot _ _ hp).1) (Nat.lt_irrefl _)) ?_
  · cases hq : h₀.get? h'.objs.size with
    | none => rfl
    | some o' => exact absurd (Heap.lt_size (J'.fr.keep _ _ hq)) (Nat.lt_irrefl _)
  · cases r with
    | ok f => exact fun fl h3 tk3 H3 m3 I3 X3 r3 => post fl h3 tk3 H3 m3 I3 (X'.trans X3) r3
    | exn =>
      intro e a0 h3 tk3 hh up
      exact back_ (s := { s with heap := h3, toks := tk3 }) hh fun h'' hh' up' => post e h'' tk3 (.held a0 hh') (up.trans up')
theorem S_for2 {x xr : Str} {e₁ e₂ : Expr} {body : List Stmt} {px np cp pos : Pos} {a b : Int} {r : Res Fl} (hb : GB c xr (.type "range")) (hg : sc.names.lookup xr = some .globalImplicit)
    (h1 : SemE c d sc σ e₁ (.ok (.int a)) σ₂) (h2 : SemE c d sc σ₂ e₂ (.ok (.int b)) σ₁) (p1 : plainE e₁ = true) (p2 : plainE e₂ = true) (hd : (xr == ("__debug__" : Str)) = false)
    (ha : -(2 ^ 62) ≤ a ∧ a < 2 ^ 62 ∧ -(2 ^ 62) ≤ b ∧ b < 2 ^ 62) (h : SemF c d sc σ₁ x body a (b - a).toNat r σ') : SemS c d sc σ (.For (.Name x px) (.Call (.Name xr np) [e₁, e₂] [] cp) body [] pos) r σ' := by
  refine S_for_of (fun A outer nm fa L cd h₀ s P H m Q E K R G hk J post => ?_) ha h
  obtain ⟨b1, b2⟩ := hb _ G
  refine Call_Name rfl (ld_builtin_at J.fr G.top.g b1 G.top.b b2 ?_ hk hg hd)
  refine callWith_type1 ?_ (starEach_plain p1) (plain_rest (by rw [List.all_cons, p2]; rfl))
  refine (L_cons p1 h1 (L_cons p2 h2 L_nil)).run A outer nm fa L cd h₀ s P H m cp _ _ K R G hk J fun vs h' tk' H' J' X' rr => ?_
  obtain ⟨v, u, rfl, ⟨t, rfl⟩, t', rfl⟩ := reps2 rr
  have kp : ∀ bb o, h'.get? bb = some o → (h'.push { cls := .type "range", data := .fields #[.int a t, .int b t', .int 1 tk'] }).get? bb = some o := fun bb o e => Heap.get?_push_of_some _ e
  exact call_range_2 (s := { s with heap := h', toks := tk' }) (post _ _ _ t t' tk' H' (J'.keeps kp) X' (IsRange.new ..))
theorem S_for1 {x xr : Str} {e₂ : Expr} {body : List Stmt} {px np cp pos : Pos} {b : Int} {r : Res Fl} (hb : GB c xr (.type "range")) (hg : sc.names.lookup xr = some .globalImplicit)
    (h2 : SemE c d sc σ e₂ (.ok (.int b)) σ₁) (p2 : plainE e₂ = true) (hd : (xr == ("__debug__" : Str)) = false)
    (ha : -(2 ^ 62) ≤ b ∧ b < 2 ^ 62) (h : SemF c d sc σ₁ x body 0 (b - 0).toNat r σ') : SemS c d sc σ (.For (.Name x px) (.Call (.Name xr np) [e₂] [] cp) body [] pos) r σ' := by
  refine S_for_of (fun A outer nm fa L cd h₀ s P H m Q E K R G hk J post => ?_) ⟨by decide, by decide, ha.1, ha.2⟩ h
  obtain ⟨b1, b2⟩ := hb _ G
  refine Call_Name rfl (ld_builtin_at J.fr G.top.g b1 G.top.b b2 ?_ hk hg hd)
  refine callWith_type1 ?_ (starEach_plain p2) rfl
  refine (L_cons p2 h2 L_nil).run A outer nm fa L cd h₀ s P H m cp _ _ K R G hk J fun vs h' tk' H' J' X' rr => ?_
  obtain ⟨u, rfl, t', rfl⟩ := reps1 rr
  have kp : ∀ bb o, h'.get? bb = some o → (h'.push { cls := .type "range", data := .fields #[.int 0 tk', .int b t', .int 1 (tk' + 1)] }).get? bb = some o := fun bb o e => Heap.get?_push_of_some _ e
  exact call_range_1 (s := { s with heap := h', toks := tk' }) (post _ _ _ tk' t' (tk' + 1) H' (J'.keeps kp) X' (IsRange.new ..))
end
end Mine
end
section
set_option Elab.async false
open PySem PySem.Calls PySem.Spec PySem.W PyProof.Rows
namespace Mine
section
variable {c : Cx} {d : Nat} {sc : Scope} {σ σ' σ₁ σ₂ : St}
def Fl.leaves : Fl → Bool
  | .next => false
  | _ => true
def Fl.stops : Fl → Bool
  | .ret _ => true
  | .retF .. => true
  | _ => false
theorem B_stop {st : Stmt} {rest : List Stmt} {f : Fl} (h : SemS c d sc σ st (.ok f) σ') (hf : f.leaves = true) : SemB c d sc σ (st :: rest) (.ok f) σ' := by
  constructor; intro A outer nm fa L cd h₀ s P H m Q E K R G hk I post
  refine wpAny_execs_cons (h.run A outer nm fa L cd h₀ s P H m _ _ K R G hk I fun fl h' tk' H' m' I' X' r' => ?_)
  cases f with
  | next => cases hf
  | brk => obtain rfl : fl = .brk := r'; exact post _ h' tk' H' m' I' X' rfl
  | cont => obtain rfl : fl = .cont := r'; exact post _ h' tk' H' m' I' X' rfl
  | ret p => obtain ⟨v, rfl, rv⟩ := r'; exact post _ h' tk' H' m' I' X' ⟨v, rfl, rv⟩
  | retF ps q => obtain ⟨t, l, u, vs, rfl, rv⟩ := r'; exact post _ h' tk' H' m' I' X' ⟨t, l, u, vs, rfl, rv⟩
theorem W_stop {test : Expr} {body : List Stmt} {f : Fl} (h : SemT c d sc σ test (.ok true) σ₁) (hb : SemB c d sc σ₁ body (.ok f) σ') (hf : f.stops = true) : SemW c d sc σ test body (.ok f) σ' := by
  constructor; intro A outer nm fa L cd h₀ s P H m R K Rm G hk I post
  refine while_turn (h.run A outer nm fa L cd h₀ s P H m _ _ K Rm G hk I fun h' tk' H' I' X' => ?_)
  rw [if_pos rfl]
  refine hb.run A outer nm fa L cd h₀ { s with heap := h', toks := tk' } P H' m _ _ K Rm G hk I' fun fl h'' tk'' H'' m'' I'' X'' r'' => ?_
  cases f with
  | next => cases hf
  | brk => cases hf
  | cont => cases hf
  | ret p => obtain ⟨v, rfl, rv⟩ := r''; exact post _ h'' tk'' H'' m'' I'' (X'.trans X'') ⟨v, rfl, rv⟩
  | retF ps q => obtain ⟨t, l, u, vs, rfl, rv⟩ := r''; exact post _ h'' tk'' H'' m'' I'' (X'.trans X'') ⟨t, l, u, vs, rfl, rv⟩
/-! rules whose truth is said -/
theorem E_cmpB {l r : Expr} {op : CmpOp} {pos : Pos} {p q : PV} {b b' : Bool} (h1 : SemE c d sc σ l (.ok p) σ₁) (h2 : SemE c d sc σ₁ r (.ok q) σ₂) (ho : CmpOk c op p q b) (hb : b = b')
    (hm : behindInMarks op r = false) : SemE c d sc σ (.Compare l [op] [r] pos) (.ok (.bool b')) σ₂ := hb ▸ E_cmp h1 h2 ho hm
theorem T_cmpB {l r : Expr} {op : CmpOp} {pos : Pos} {p q : PV} {b b' : Bool} (h1 : SemE c d sc σ l (.ok p) σ₁) (h2 : SemE c d sc σ₁ r (.ok q) σ₂) (ho : CmpOk c op p q b) (hb : b = b')
    (hm : behindInMarks op r = false) : SemT c d sc σ (.Compare l [op] [r] pos) (.ok b') σ₂ := hb ▸ T_cmp h1 h2 ho hm
theorem E_andT {e e₂ : Expr} {es : List Expr} {pos : Pos} {r : Res PV} (h : SemE c d sc σ e (.ok (.bool true)) σ₁) (h2 : SemE c d sc σ₁ (.BoolOp .And (e₂ :: es) pos) r σ') : SemE c d sc σ (.BoolOp .And (e :: e₂ :: es) pos) r σ' := E_and_t h rfl h2
theorem E_andF {e e₂ : Expr} {es : List Expr} {pos : Pos} (h : SemE c d sc σ e (.ok (.bool false)) σ') : SemE c d sc σ (.BoolOp .And (e :: e₂ :: es) pos) (.ok (.bool false)) σ' := E_and_f h rfl
theorem E_orT {e e₂ : Expr} {es : List Expr} {pos : Pos} (h : SemE c d sc σ e (.ok (.bool true)) σ') : SemE c d sc σ (.BoolOp .Or (e :: e₂ :: es) pos) (.ok (.bool true)) σ' := E_or_t h rfl
theorem E_orF {e e₂ : Expr} {es : List Expr} {pos : Pos} {r : Res PV} (h : SemE c d sc σ e (.ok (.bool false)) σ₁) (h2 : SemE c d sc σ₁ (.BoolOp .Or (e₂ :: es) pos) r σ') : SemE c d sc σ (.BoolOp .Or (e :: e₂ :: es) pos) r σ' := E_or_f h rfl h2
theorem E_notF {e : Expr} {pos : Pos} (h : SemE c d sc σ e (.ok (.bool true)) σ') : SemE c d sc σ (.UnaryOp .Not e pos) (.ok (.bool false)) σ' := E_not h rfl
theorem E_notT {e : Expr} {pos : Pos} (h : SemE c d sc σ e (.ok (.bool false)) σ') : SemE c d sc σ (.UnaryOp .Not e pos) (.ok (.bool true)) σ' := E_not h rfl
theorem T_notF {e : Expr} {pos : Pos} (h : SemT c d sc σ e (.ok true) σ') : SemT c d sc σ (.UnaryOp .Not e pos) (.ok false) σ' := T_not h
theorem T_notT {e : Expr} {pos : Pos} (h : SemT c d sc σ e (.ok false) σ') : SemT c d sc σ (.UnaryOp .Not e pos) (.ok true) σ' := T_not h
theorem E_ifT {t e₁ e₂ : Expr} {pos : Pos} {r : Res PV} (h : SemT c d sc σ t (.ok true) σ₁) (h2 : SemE c d sc σ₁ e₁ r σ') : SemE c d sc σ (.IfExp t e₁ e₂ pos) r σ' := E_ifexp h h2
theorem E_ifF {t e₁ e₂ : Expr} {pos : Pos} {r : Res PV} (h : SemT c d sc σ t (.ok false) σ₁) (h2 : SemE c d sc σ₁ e₂ r σ') : SemE c d sc σ (.IfExp t e₁ e₂ pos) r σ' := E_ifexp h h2
theorem S_ifT {t : Expr} {b₁ b₂ : List Stmt} {pos : Pos} {r : Res Fl} (h : SemT c d sc σ t (.ok true) σ₁) (h2 : SemB c d sc σ₁ b₁ r σ') : SemS c d sc σ (.If t b₁ b₂ pos) r σ' := S_if h h2
theorem S_ifF {t : Expr} {b₁ b₂ : List Stmt} {pos : Pos} {r : Res Fl} (h : SemT c d sc σ t (.ok false) σ₁) (h2 : SemB c d sc σ₁ b₂ r σ') : SemS c d sc σ (.If t b₁ b₂ pos) r σ' := S_if h h2
theorem T_name {x : Str} {pos : Pos} {b : Bool} (h : SemE c d sc σ (.Name x pos) (.ok (.bool b)) σ') : SemT c d sc σ (.Name x pos) (.ok b) σ' := T_plain h rfl rfl
theorem T_true {k : Nat} {pos : Pos} : SemT c d sc σ (.Constant (.bool true) k pos) (.ok true) σ := T_plain E_bool rfl rfl
theorem T_call {f : Expr} {es : List Expr} {pos : Pos} {b : Bool} (h : SemE c d sc σ (.Call f es [] pos) (.ok (.bool b)) σ') : SemT c d sc σ (.Call f es [] pos) (.ok b) σ' := T_plain h rfl rfl
theorem CallOk.bool {fn : DefRec} {args : List PV} {b b' : Bool} (h : CallOk c d fn args (.ok (.bool b))) (hb : b = b') : CallOk c d fn args (.ok (.bool b')) := hb ▸ h
theorem E_callD {x : Str} {fn : DefRec} {e : Expr} {es : List Expr} {np pos : Pos} {ps : List PV} {r : Res PV} (hfind : (recsOf c.p).find? (fun e => e.name == x) = some fn) (hg : sc.names.lookup x = some .globalImplicit)
    (h : SemL c d sc σ (e :: es) (.ok ps) σ') (hf : CallOk c (d - 1) fn ps r) (h0 : 1 ≤ d) (hp : (e :: es).all plainE = true) (hd : (x == ("__debug__" : Str)) = false) :
    SemE c d sc σ (.Call (.Name x np) (e :: es) [] pos) r σ' := by
  obtain ⟨k, rfl⟩ : ∃ k, d = k + 1 := ⟨d - 1, by omega⟩
  exact E_call hfind hg h hf hp hd
/-! exceptions from inside -/
theorem E_bin_x1 {l r : Expr} {op : Operator} {pos : Pos} (h1 : SemE c d sc σ l .exn σ') : SemE c d sc σ (.BinOp l op r pos) .exn σ' := by
  constructor; intro A outer nm fa L cd h₀ s P H m Q E K R G hk I post
  exact wpAny_BinOp (h1.run A outer nm fa L cd h₀ s P H m _ _ K R G hk I post)
theorem L_cons_x {e : Expr} {es : List Expr} (hp : plainE e = true) (h1 : SemE c d sc σ e .exn σ') : SemL c d sc σ (e :: es) .exn σ' := by
  constructor; intro A outer nm fa L cd h₀ s P H m pos Q E K R G hk I post
  exact wpAny_items_cons (h1.run A outer nm fa L cd h₀ s P H m _ _ K R G hk I post) (starEach_plain hp)
theorem L_cons_y {e : Expr} {es : List Expr} {p : PV} (hp : plainE e = true) (h1 : SemE c d sc σ e (.ok p) σ₁) (h2 : SemL c d sc σ₁ es .exn σ₂) : SemL c d sc σ (e :: es) .exn σ₂ := by
  constructor; intro A outer nm fa L cd h₀ s P H m pos Q E K R G hk I post
  refine wpAny_items_cons (h1.run A outer nm fa L cd h₀ s P H m _ _ K R G hk I fun v h' tk' H' I' X' r' => ?_) (starEach_plain hp)
  exact h2.run A outer nm fa L cd h₀ _ P H' m pos _ _ K R G hk I' post
theorem E_call_x {x : Str} {fn : DefRec} {e : Expr} {es : List Expr} {np pos : Pos} (hfind : (recsOf c.p).find? (fun e => e.name == x) = some fn) (hg : sc.names.lookup x = some .globalImplicit)
    (h : SemL c d sc σ (e :: es) .exn σ') (hp : (e :: es).all plainE = true) (hd : (x == ("__debug__" : Str)) = false) : SemE c d sc σ (.Call (.Name x np) (e :: es) [] pos) .exn σ' := by
  constructor; intro A outer nm fa L cd h₀ s P H m Q E K R G hk I post
  refine Call_Name rfl (tp_def I.fr G.top hfind (fun f o pm code doc k1 k2 k3 => ?_) hk hg hd)
  rw [List.all_cons, Bool.and_eq_true] at hp
  exact callWith_def k2 (h.run A outer nm fa L cd h₀ s P H m pos _ _ K R G hk I post) (starEach_plain hp.1)
/-! tokens -/
def TokAt (T : List PV) (a : Int) (k : Str) (v : PV) : Prop := ∃ (i : Nat) (p : Int), a = i ∧ i < 50000 ∧ T[i]? = some (.tup [.str k, v, .int p])
theorem TokAt.pos {T : List PV} {a : Int} {k : Str} {v : PV} (h : TokAt T a k v) : 0 ≤ a := by obtain ⟨i, p, rfl, _⟩ := h; omega
theorem TokAt.lt {T : List PV} {a : Int} {k : Str} {v : PV} (h : TokAt T a k v) : a < (T.length : Int) := by
  obtain ⟨i, p, rfl, _, h⟩ := h
  have := (List.getElem?_eq_some_iff.mp h).1
  omega
inductive Known (T : List PV) : List (Int × Str × PV) → Prop
  | nil : Known T []
  | cons {a : Int} {k : Str} {v : PV} {ks} : TokAt T a k v → Known T ks → Known T ((a, k, v) :: ks)
theorem Known.get {T : List PV} {ks : List (Int × Str × PV)} (K : Known T ks) : ∀ (i : Nat) {a b : Int} {k : Str} {v : PV}, ks[i]? = some (a, k, v) → a = b → TokAt T b k v := by
  induction K with
  | nil => intro i a b k v h; simp at h
  | cons h _ ih =>
    intro i a b k v e hab
    cases i with
    | zero =>
      have e' : some _ = some (a, k, v) := e
      obtain ⟨rfl, e''⟩ := Prod.mk.inj (Option.some.inj e')
      obtain ⟨rfl, rfl⟩ := Prod.mk.inj e''
      exact hab ▸ h
    | succ j => exact ih j (by simpa using e) hab
theorem known_at (i : Nat) {T : List PV} {ks : List (Int × Str × PV)} {a b : Int} {k : Str} {v : PV} (K : Known T ks) (e : ks[i]? = some (a, k, v)) (hab : a = b) : TokAt T b k v := K.get i e hab
theorem E_tok0 {v i : Expr} {k : Nat} {p1 p2 pos : Pos} {T : List PV} {a : Int} {kd : Str} {x : PV} (h1 : SemE c d sc σ v (.ok (.lst T)) σ₁) (h2 : SemE c d sc σ₁ i (.ok (.int a)) σ₂) (ht : TokAt T a kd x) :
    SemE c d sc σ (.Subscript (.Subscript v i p1) (.Constant (.int 0) k p2) pos) (.ok (.str kd)) σ₂ := by
  obtain ⟨j, p, rfl, hj, ht⟩ := ht
  exact E_sub (E_sub h1 h2 (item_n ht (by omega))) E_int (item_tup (i := 0) (by omega) rfl)
theorem E_tok1 {v i : Expr} {k : Nat} {p1 p2 pos : Pos} {T : List PV} {a : Int} {kd : Str} {x : PV} (h1 : SemE c d sc σ v (.ok (.lst T)) σ₁) (h2 : SemE c d sc σ₁ i (.ok (.int a)) σ₂) (ht : TokAt T a kd x) :
    SemE c d sc σ (.Subscript (.Subscript v i p1) (.Constant (.int 1) k p2) pos) (.ok x) σ₂ := by
  obtain ⟨j, p, rfl, hj, ht⟩ := ht
  exact E_sub (E_sub h1 h2 (item_n ht (by omega))) E_int (item_tup (i := 1) (by omega) rfl)
theorem E_at {v : Expr} {k : Nat} {p1 pos : Pos} {ps : List PV} {i : Int} {j : Nat} {x : PV} (h1 : SemE c d sc σ v (.ok (.tup ps)) σ') (hi : i = (j : Nat)) (hj : j < 1000) (hx : ps[j]? = some x) :
    SemE c d sc σ (.Subscript v (.Constant (.int i) k p1) pos) (.ok x) σ' := by
  subst hi; exact E_sub h1 E_int (item_tup hj hx)
theorem E_atL {v : Expr} {k : Nat} {p1 pos : Pos} {ps : List PV} {i : Int} {j : Nat} {x : PV} (h1 : SemE c d sc σ v (.ok (.lst ps)) σ') (hi : i = (j : Nat)) (hj : j < 1000) (hx : ps[j]? = some x) :
    SemE c d sc σ (.Subscript v (.Constant (.int i) k p1) pos) (.ok x) σ' := by
  subst hi; exact E_sub h1 E_int (item_n hx (by omega))
/-! t[:2] of a tuple -/
theorem adjust_upto (b n : Nat) (hb : b ≤ n) : Builtin.Slice.sliceAdjust none (some (b : Int)) 1 (n : Int) = (0, (b : Int)) := by
  unfold Builtin.Slice.sliceAdjust
  have h1 : ¬ ((1 : Int) < 0) := by omega
  have h2 : ¬ ((b : Int) < 0) := by omega
  simp only [h1, h2, if_false]
  congr 1
  omega
theorem places_upto (b : Nat) : Builtin.Slice.slicePlaces 0 (b : Int) 1 = b := by
  unfold Builtin.Slice.slicePlaces
  have h1 : (1 : Int) > 0 := by omega
  simp only [h1, if_true, Int.ediv_one]
  split <;> omega
end
section
variable {prog : Program} {w : World} {A : Around} {E : Value → Shared → Prop} {s : Shared}
theorem sliceApplied_upto {sl : Addr} {b n : Nat} {u : Tok} {Q : Int × Int × Nat → Shared → Prop} (hs : s.heap.IsSliceOf sl .none (.int b u) .none) (hb : b ≤ n) (h : Q (0, 1, b) s) :
    wpAny (model prog w) A (Builtin.Slice.sliceApplied (.ref sl) (pure (n : Int))) Q E s := by
  obtain ⟨os, hos, hcs, hds⟩ := id hs
  unfold Builtin.Slice.sliceApplied Builtin.Slice.sliceFields
  refine wpAny_bind (wpAny_bind (wpAny_field hos hds (x := .none) rfl (wpAny_bind (wpAny_field hos hds (x := .int b u) rfl (wpAny_bind (wpAny_field hos hds (x := .none) rfl (wpAny_pure ?_)))))))
  refine wpAny_bind (slicePart_none ?_)
  show wpAny _ _ (if ((1 : Int) == 0) = true then _ else _) _ _ s
  rw [if_neg (by decide)]
  refine wpAny_bind (slicePart_none (wpAny_bind (slicePart_int (wpAny_bind (wpAny_pure ?_)))))
  show wpAny _ _ (match Builtin.Slice.sliceAdjust none (some (b : Int)) 1 (n : Int) with | (lo, hi) => pure (lo, (1 : Int), Builtin.Slice.slicePlaces lo hi 1)) _ _ s
  rw [adjust_upto b n hb]
  show wpAny _ _ (pure ((0 : Int), (1 : Int), Builtin.Slice.slicePlaces 0 (b : Int) 1)) _ _ s
  rw [places_upto b]
  exact wpAny_pure h
theorem pick_upto (xs : Array Value) (b : Nat) : ((List.range b).filterMap fun (k : Nat) => xs[((0 : Int) + (k : Int) * 1).toNat]?).toArray = (xs.toList.take b).toArray := by
  have e : (fun (k : Nat) => xs[((0 : Int) + (k : Int) * 1).toNat]?) = fun k => xs[0 + k]? := by
    funext k
    have : ((0 : Int) + (k : Int) * 1).toNat = 0 + k := by omega
    rw [this]
  rw [e]
  have := pick_run xs 0 b
  rw [List.filterMap_map] at this
  have e2 : ((fun x => xs[x]?) ∘ fun x => 0 + x) = fun k => xs[0 + k]? := rfl
  rw [e2] at this
  rw [this]; rfl
theorem getItem_tuple_upto {t sl : Addr} {items : Array Value} {b : Nat} {u : Tok} {Q : Value → Shared → Prop} (ht : IsTup s.heap t items) (hs : s.heap.IsSliceOf sl .none (.int b u) .none) (hb : b < items.size)
    (h : Q (.ref s.heap.objs.size) { s with heap := s.heap.push { cls := .type "tuple", data := .seq (items.toList.take b).toArray } })
    (hsz : items.size ≤ sizeLine) : wpAny (model prog w) A (getItem (.ref t) (.ref sl)) Q E s := by
  have hdrop : sizeOk (.seq (items.toList.take b).toArray) := by
    show (items.toList.take b).toArray.size ≤ sizeLine
    rw [List.size_toArray, List.length_take, Array.length_toList]
    omega
  obtain ⟨os, hos, hcs, hds⟩ := id hs
  have hTs : s.TypeIs (.ref sl) "slice" := ⟨os, hos, hcs⟩
  unfold getItem
  try with_reducible refine wpAny_holding ?_
  first | refine wpAny_bind (wpAny_pure ?_) | skip
  refine wpAny_bind (wpAny_sequenceKey ht.typeIs (by decide) ?_)
  refine wpAny_bind (wpAny_callSpecial?_slot (name := Str.ofString "__getitem__") ht.typeIs slot_tuple_getitem
    (wpAny_call_entry slot_tuple_getitem ht.typeIs entry_tuple_getitem ?_ (args_tuple_getitem _ _)))
  show wpAny _ _ (Builtin.Tuple.tupleItemsOf (.ref t) >>= _) _ _ s
  refine wpAny_bind (tupleItemsOf_ ht ?_)
  refine wpAny_bind (wpAny_typeOf hTs ?_)
  rw [if_pos (by decide)]
  refine wpAny_bind (sliceApplied_upto hs (Nat.le_of_lt hb) ?_)
  have hno : ¬ (((0 : Int) == 0 && (1 : Int) == 1 && b == items.size) = true) := by
    have : (b == items.size) = false := by rw [beq_eq_false_iff_ne]; omega
    rw [this]; simp
  show wpAny _ _ (if ((0 : Int) == 0 && (1 : Int) == 1 && b == items.size) = true then _ else _) _ _ s
  rw [if_neg hno, pick_upto items b]
  first
    | exact wpAny_bind (m := Builtin.Tuple.tupleExact _) (wpAny_newObj_type (wpAny_pure ⟨_, rfl, wpAny_pure h⟩) hdrop)
    | exact wpAny_bind (m := Builtin.Tuple.tupleExact _) (wpAny_newObj_type (wpAny_bind (wpAny_pure (wpAny_pure ⟨_, rfl, wpAny_pure h⟩))) hdrop)
    | exact wpAny_bind (wpAny_bind (m := Builtin.Tuple.tupleExact _) (wpAny_newObj_type (wpAny_pure (wpAny_pure ⟨_, rfl, wpAny_pure h⟩)) hdrop))
    | exact wpAny_bind (wpAny_bind (m := Builtin.Tuple.tupleExact _) (wpAny_newObj_type (wpAny_pure ⟨_, rfl, wpAny_pure h⟩) hdrop))
end
theorem Reps.take {H : PH} : ∀ {ps : List PV} {vs : List Value} (n : Nat), Reps H ps vs → Reps H (ps.take n) (vs.take n)
  | [], vs, n, h => by rw [show vs = [] from h]; simp; exact (rfl : ([] : List Value) = [])
  | p :: ps, _, 0, ⟨v, r, rfl, h, t⟩ => (rfl : ([] : List Value) = [])
  | p :: ps, _, n + 1, ⟨v, r, rfl, h, t⟩ => ⟨v, r.take n, rfl, h, Reps.take n t⟩
section
variable {c : Cx} {d : Nat} {sc : Scope} {σ σ' σ₁ σ₂ : St}
theorem E_upto {value : Expr} {k : Nat} {cp sp pos : Pos} {ps : List PV} {i : Int} {b : Nat} (h1 : SemE c d sc σ value (.ok (.tup ps)) σ') (hi : i = (b : Nat)) (hb : b < ps.length) (hl : ps.length ≤ 1000) :
    SemE c d sc σ (.Subscript value (.Slice none (some (.Constant (.int i) k cp)) none sp) pos) (.ok (.tup (ps.take b))) σ' := by
  subst hi
  constructor; intro A outer nm fa L cd h₀ s P H m Q E K R G hk I post
  refine Subscript_ (h1.run A outer nm fa L cd h₀ s P H m _ _ K R G hk I fun v h' tk' H' I' X' r' => ?_)
  refine wpAny_Slice (wpAny_pure (show wpAny _ _ (eval _ _) _ _ _ from wpAny_Constant_int (wpAny_pure ?_)))
  obtain ⟨a, vs, rfl, e, r⟩ := r'
  have hsz : vs.size = ps.length := by rw [← r.length, Array.length_toList]
  have kp : ∀ bb o, h'.get? bb = some o → (h'.push { cls := .type "slice", data := .fields #[.none, .int (b : Nat) tk', .none] }).get? bb = some o := fun bb o e => Heap.get?_push_of_some _ e
  have J := I'.keeps kp
  obtain ⟨H'', J', X'', e''⟩ := J.push (.type "tuple") (vs.toList.take b).toArray
  refine tail_ (s := { s with heap := h'.push { cls := .type "slice", data := .fields #[.none, .int (b : Nat) tk', .none] }, toks := tk' + 1 }) (J.sub.tup e).typeIs slot_tuple_getitem.lookup ?_
  refine getItem_tuple_upto (J.sub.tup e) (Heap.IsSliceOf.new ..) (by omega) ?_ (by rw [sizeLine_eq]; omega)
  exact post _ _ _ H'' J' (X'.trans X'') ⟨_, _, rfl, e'', by simpa using (r.take b).up X''.up⟩
end
end Mine
end
section
set_option Elab.async false
open PySem PySem.Calls PySem.Spec PySem.W PyProof.Rows
namespace Mine
section
variable {c : Cx} {d : Nat} {sc : Scope} {σ σ' σ₁ σ₂ : St}
theorem S_returnF {x : Str} {e : Expr} {k : Nat} {xp tp pos : Pos} {vars : List (Str × PV)} {ps : List PV} {q : PV} (hl : sc.names.lookup x = some .local)
    (h : SemE c d sc ⟨vars, some (x, .lst ps)⟩ e (.ok q) ⟨vars, some (x, .lst ps)⟩) (hp : plainE e = true) (hd : (x == ("__debug__" : Str)) = false) :
    SemS c d sc ⟨vars, some (x, .lst ps)⟩ (.Return (some (.Tuple [.Name x xp, e] k tp)) pos) (.ok (.retF ps q)) ⟨vars, some (x, .lst ps)⟩ := by
  constructor; intro A outer nm fa L cd h₀ s P H m Q E K R G hk I post
  obtain ⟨a, k1, k2⟩ := I.own x _ rfl
  refine wpAny_Return_some (wpAny_Tuple (wpAny_items_cons (ld I.fr k1 ?_ hk hl hd) rfl))
  refine wpAny_items_cons (h.run A outer nm fa L cd h₀ s P H m _ _ K R G hk I fun u h' tk' H' I' X' r' => wpAny_items_nil ?_) (starEach_plain hp)
  refine ⟨by rw [sizeLine_eq]; exact (by decide : 2 ≤ 16777216), ?_⟩
  obtain ⟨a', j1, ⟨vs, ⟨o, n, j2, j3, j4, j5⟩, j6⟩, j7, j8, j9, _⟩ := I'.own x _ rfl
  obtain rfl : a = a' := by
    rw [k1] at j1
    exact Value.ref.inj (Option.some.inj j1)
  have kp : ∀ bb o, h'.get? bb = some o → (h'.push { cls := .type "tuple", data := .seq [Value.ref a, u].toArray }).get? bb = some o := fun bb o e => Heap.get?_push_of_some _ e
  exact post _ _ _ H' m (I'.keeps kp) X' ⟨_, a, u, vs, rfl, ⟨_, Heap.get?_push_size _ rfl, rfl, 0, rfl⟩, ⟨o, n, kp _ _ j2, j3, j4, j5⟩, j7, j8, j6, r'⟩
/-- the contract of a def that hands a list of its own, and a second value -/
def CallF (c : Cx) (d : Nat) (fn : DefRec) (args : List PV) (ps : List PV) (q : PV) : Prop :=
  ∀ (A : Around) (outer : List Env) (s : Shared) (H : PH) (vs : List Value) (a : Addr) (o : Obj) (pm cd doc : Value) (Q E : Value → Shared → Prop),
    Below A c.B outer s.heap → Room A d → GF c s.heap → Sub H s.heap → Reps H args vs →
    s.heap.get? a = some o → o.data = .func (docDef fn.name fn.params fn.body fn.scope pm cd doc) → s.heap.CodeRec cd fn.name →
    (∀ t l u ws h' tk' H', (∀ b o, s.heap.get? b = some o → h'.get? b = some o) → Sub H' h' → Ext s.heap H H' → IsTup h' t #[.ref l, u] → PlainL h' l ws → H' l = none → s.heap.get? l = none → Reps H' ps ws.toList → Rep H' q u →
      Q (.ref t) { s with heap := h', toks := tk' }) →
    wpAny (model c.prog c.w) A (call (.ref a) vs) Q E s
theorem CallF.mono {fn : DefRec} {args ps : List PV} {q : PV} {d' : Nat} (h : CallF c d fn args ps q) (hd : d ≤ d') : CallF c d' fn args ps q :=
  fun A outer s H vs a o pm cd doc Q E K R => h A outer s H vs a o pm cd doc Q E K (R.mono hd)
theorem call_retF (hlone : c.lone = false) {fn : DefRec} {xs : List Str} {args : List PV} {ps : List PV} {q : PV} {σ' : St} (hp : Plainly fn xs) (hlen : xs.length = args.length)
    (hB : SemB c d fn.scope ⟨xs.zip args, none⟩ fn.body (.ok (.retF ps q)) σ') : CallF c d fn args ps q := by
  intro A outer s H vs a o pm cd doc Q E K R G S rs ho hdat hcd post
  have hvl : vs.length = xs.length := by rw [rs.length, hlen]
  refine wpAny_call (call_plain (binds := xs.zip vs) (by have := R.2.1; show A.depth < recursionLimit; unfold recursionLimit; omega) ho hdat G.top.nolimit hcd (hp.binds vs pm cd doc hvl) (fun x hx => hp.loc x.1 ?_) (fun h₁ F => ?_) hp.co hp.gen hp.kind hp.cell)
  · have := List.mem_map_of_mem (f := Prod.fst) hx
    rw [zip_fst hvl.symm] at this; exact this
  · have hLn : H s.heap.objs.size = none := by
      cases hq : H s.heap.objs.size with
      | none => rfl
      | some y => obtain ⟨o, n, e, _⟩ := S _ _ _ hq; exact absurd (Heap.lt_size e) (Nat.lt_irrefl _)
    have I : Inv s.heap s.heap.objs.size (fun _ _ => False) ⟨xs.zip args, none⟩ H h₁ (fun x => (xs.zip vs).reverse.lookup x) := by
      refine ⟨fun _ _ hf => hf.elim, F, S.keeps F.keep, hLn, fun x p hx => ?_, fun x ps hx => by cases hx⟩
      obtain ⟨v, k1, k2⟩ := lookup_zip rs hx
      exact ⟨v, lookup_reverse (by rw [zip_fst hvl.symm]; exact hp.nodup) k1, k2⟩
    refine hB.run A outer fn.name a s.heap.objs.size cd s.heap { s with heap := h₁, toks := s.toks + (xs.zip vs).length } _ H _ _ _ ⟨K, fun h => by rw [hlone] at h; cases h⟩ R G hp.kind I ?_
    intro flow h' tk' H' m' I' X' rf
    obtain ⟨t, l, u, ws, rfl, r1, r2, r3, r4, r5, r6⟩ := rf
    exact post t l u ws h' tk' H' I'.fr.keep I'.sub X' r1 r2 r3 r4 r5 r6
theorem Inv.takes {h₀ : Heap} {L l : Addr} {P : Addr → Obj → Prop} {H : PH} {h h' : Heap} {m : Str → Option Value} {vars : List (Str × PV)} {x : Str} {ps : List PV} {vs : Array Value}
    (J : Inv h₀ L P ⟨vars, none⟩ H h m) (hv : vars.lookup x = none) (k1 : PlainL h l vs) (k2 : H l = none) (k3 : h₀.get? l = none) (k4 : l ≠ L) (k5 : ∀ o, ¬ P l o) (k6 : Reps H ps vs.toList)
    (hn : h'.Ns L (fun y => if y = x then some (.ref l) else m y)) (hs : Heap.SameBut L h h') : Inv h₀ L P ⟨vars, some (x, .lst ps)⟩ H h' (fun y => if y = x then some (.ref l) else m y) := by
  have other : ∀ b, b ≠ L → h'.get? b = _ := fun b hb => hs.2 b hb
  refine ⟨fun a ob hp => ⟨(other a (J.prot a ob hp).2).trans (J.prot a ob hp).1, (J.prot a ob hp).2⟩, J.fr.set hn hs, fun b cc xs hb => ?_, J.loc, fun y q hy => ?_, fun y q hy => ?_⟩
  · obtain ⟨ob, n, k1, k2, k3⟩ := J.sub b cc xs hb
    exact ⟨ob, n, (other b fun e => by rw [e, J.loc] at hb; cases hb).trans k1, k2, k3⟩
  · have e : y ≠ x := fun e => by
      subst e
      have : vars.lookup y = some q := hy
      rw [hv] at this; cases this
    obtain ⟨u, k1, k2⟩ := J.vars y q hy
    exact ⟨u, (if_neg e).trans k1, k2⟩
  · have e : some (x, OV.lst ps) = some (y, q) := hy
    obtain ⟨rfl, rfl⟩ := Prod.mk.inj (Option.some.inj e)
    obtain ⟨o, n, z1, z2⟩ := k1
    exact ⟨l, if_pos rfl, ⟨vs, ⟨o, n, (other _ k4).trans z1, z2⟩, k6⟩, k2, k3, k4, k5⟩
theorem S_unpackF {x y f : Str} {fn : DefRec} {e : Expr} {es : List Expr} {k : Nat} {xp yp np tp cp pos : Pos} {vars : List (Str × PV)} {as ps : List PV} {q : PV}
    (hfind : (recsOf c.p).find? (fun e => e.name == f) = some fn) (hg : sc.names.lookup f = some .globalImplicit)
    (h : SemL c d sc ⟨vars, none⟩ (e :: es) (.ok as) ⟨vars, none⟩) (hf : CallF c (d - 1) fn as ps q) (h0 : 1 ≤ d) (hp : (e :: es).all plainE = true) (hd : (f == ("__debug__" : Str)) = false)
    (hx : sc.names.lookup x = some .local) (hy : sc.names.lookup y = some .local) (hv : vars.lookup x = none) (hxy : (x == y) = false) :
    SemS c d sc ⟨vars, none⟩ (.Assign [.Tuple [.Name x xp, .Name y yp] k tp] (.Call (.Name f np) (e :: es) [] cp) pos) (.ok .next) ⟨(y, q) :: vars, some (x, .lst ps)⟩ := by
  constructor; intro A outer nm fa L cd h₀ s P H m Q E K R G hk I post
  refine Assign_Tuple (Call_Name rfl (tp_def I.fr G.top hfind (fun f o pm code doc k1 k2 k3 => ?_) hk hg hd)) (by unfold swapsWithSole; exact swaps_none rfl) (swapped_none rfl)
  rw [List.all_cons, Bool.and_eq_true] at hp
  refine callWith_def k2 ?_ (starEach_plain hp.1)
  refine h.run A outer nm fa L cd h₀ s P H m cp _ _ K R G hk I fun vs h' tk' H' I' X' r' => ⟨I'.fr.keep _ _ k1, ?_⟩
  have K' := K.1.push (name := nm) (a := fa) (cd := cd) I'.fr hk
  refine hf _ _ { s with heap := h', toks := tk' } H' vs f o pm code doc _ _ K' ⟨R.1, by have := R.2.1; show A.depth + 1 + (d - 1) < 900; omega, by have := R.2.2; show A.units + 3 + 16 * (d - 1) < 9000; omega⟩ (G.keeps I'.fr.keep) I'.sub r' (I'.fr.keep _ _ k1) k2 (k3.keeps I'.fr.keep) ?_
  intro t l u ws h2 tk2 H2 kp S2 X2 j1 j2 j3 j4 j5 j6
  have lL : l ≠ L := fun e => by
    obtain ⟨oL, _, _, hoL, _⟩ := I'.fr.ns
    rw [e, show h'.get? L = some oL from hoL] at j4; cases j4
  have J : Inv h₀ L P ⟨vars, none⟩ H2 h2 m := by
    refine ⟨fun a o hp => ⟨kp _ _ (I'.prot a o hp).1, (I'.prot a o hp).2⟩, I'.fr.keeps kp, S2, ?_, fun y q hy => ?_, fun y q hy => by cases hy⟩
    · obtain ⟨oL, _, _, hoL, _⟩ := I'.fr.ns
      rw [X2.old L oL hoL]; exact I'.loc
    · obtain ⟨v, z1, z2⟩ := I'.vars y q hy
      exact ⟨v, z1, z2.up X2.up⟩
  have XX : Ext h₀ H H2 := X'.trans ⟨X2.up, fun b o' e => X2.old b o' (I'.fr.keep _ _ e)⟩
  obtain ⟨t1, t2⟩ := targets_star (elts := [.Name x xp, .Name y yp]) (xs := [x, y]) (env := envOf nm sc L fa cd) rfl
  show wpAny _ _ (do standAt tp; unpack (.ref t) (assignEach [.Name x xp, .Name y yp] (envOf nm sc L fa cd))) _ _ _
  refine wpAny_bind (wpAny_standAt ?_)
  unfold unpack
  rw [t1, t2]
  refine wpAny_bind (wpAny_holding ?_)
  refine unpackItems_tuple (items := #[.ref l, u]) (s := { s with heap := h2, toks := tk2 }) R.1 j1 fun g hgg => ?_
  have kg : ∀ b ob, h2.get? b = some ob → g.get? b = some ob := fun b ob eb => hgg b ob (Nat.ne_of_lt (Heap.lt_size eb)) eb
  have J' := J.keeps kg
  show wpAny _ _ (do holding [u] (assign (.Name x xp) (envOf nm sc L fa cd) (.ref l)); assignInOrder ((assignEach [.Name y yp] (envOf nm sc L fa cd)).map (·.2)) [u]) _ _ _
  refine wpAny_bind (wpAny_holding (PySem.wpAny_assign_Name (store_ (s := { s with heap := g, toks := tk2 }) (P := P) (H := H2) J'.fr hk hx fun h3 hn3 hs3 => ?_)))
  obtain ⟨o2, n2, w1, w2⟩ := j2
  have J3 := J'.takes (x := x) hv ⟨o2, n2, kg _ _ w1, w2⟩ j3 (by
    cases hq : h₀.get? l with
    | none => rfl
    | some o' =>
      have := I'.fr.keep _ _ hq
      rw [show h'.get? l = none from j4] at this; cases this) lL (fun o' hp' => by
      have := (I'.prot l o' hp').1
      rw [show h'.get? l = none from j4] at this; cases this) j5 hn3 hs3
  show wpAny _ _ (do holding [] (assign (.Name y yp) (envOf nm sc L fa cd) u); assignInOrder [] []) _ _ _
  refine wpAny_bind (wpAny_holding (PySem.wpAny_assign_Name (store_ (s := { s with heap := h3, toks := tk2 + 1 }) (P := P) (H := H2) J3.fr hk hy fun h4 hn4 hs4 => ?_)))
  have hoff : ownOff (some (x, OV.lst ps)) [y] = true := by
    show (!([y] : List Str).contains x) = true
    simp only [List.contains_cons, List.contains_nil, Bool.or_false, hxy]; rfl
  exact wpAny_pure (post .next h4 _ H2 _ (J3.store hoff hn4 hs4 j6) XX rfl)
/-! comparing data -/
mutual
def PV.toD : PV → PyData
  | .none => .none
  | .bool b => .bool b
  | .int i => .int i
  | .str s => .str s
  | .tup ps => .tuple (PV.toDs ps)
  | .lst ps => .list (PV.toDs ps)
def PV.toDs : List PV → List PyData
  | [] => []
  | p :: ps => p.toD :: PV.toDs ps
end
mutual
theorem Rep.reads {H : PH} {h : Heap} (S : Sub H h) : ∀ {p : PV} {v : Value}, Rep H p v → ∃ as, Reads h v p.toD as
  | .none, v, e => by obtain rfl : v = .none := e; exact ⟨_, .none⟩
  | .bool b, v, e => by obtain rfl : v = .bool b := e; exact ⟨_, .bool b⟩
  | .int i, v, ⟨t, e⟩ => by subst e; exact ⟨_, .int i t⟩
  | .str x, v, ⟨t, e⟩ => by subst e; exact ⟨_, .str x t⟩
  | .tup ps, v, ⟨a, vs, e, k, r⟩ => by
    subst e
    obtain ⟨o, h1, h2, n, h3⟩ := S.tup k
    obtain ⟨as, ra⟩ := Reps.reads S r
    exact ⟨as, .tuple h1 h2 h3 ra⟩
  | .lst ps, v, ⟨a, vs, e, k, r⟩ => by
    subst e
    obtain ⟨o, h1, h2, n, h3⟩ := S.lst k
    obtain ⟨as, ra⟩ := Reps.reads S r
    exact ⟨a :: as, .list h1 h2 h3 ra⟩
theorem Reps.reads {H : PH} {h : Heap} (S : Sub H h) : ∀ {ps : List PV} {vs : List Value}, Reps H ps vs → ∃ as, ReadsAll h vs (PV.toDs ps) as
  | [], vs, e => by rw [show vs = [] from e]; exact ⟨_, .nil⟩
  | p :: ps, vs, ⟨v, r, e, rv, rr⟩ => by
    subst e
    obtain ⟨as, k1⟩ := Rep.reads S rv
    obtain ⟨bs, k2⟩ := Reps.reads S rr
    exact ⟨as ++ bs, .cons k1 k2⟩
end
theorem cmp_eq_pv {p q : PV} (hp : p.toD.canLay0 = true) (hq : q.toD.canLay0 = true) (hr : min p.toD.depth q.toD.depth ≤ 100) : CmpOk c .Eq p q (PyData.eqv p.toD q.toD) := by
  intro A s H v u Q E hh hu S rp rq h
  obtain ⟨as, k1⟩ := rp.reads S
  obtain ⟨bs, k2⟩ := rq.reads S
  exact SeqAt.compareEq_reads k1 k2 hp hq (by show A.units + _ < 9900; omega) h
theorem cmp_ne_pv {p q : PV} (hp : p.toD.canLay0 = true) (hq : q.toD.canLay0 = true) (hr : min p.toD.depth q.toD.depth ≤ 100) : CmpOk c .NotEq p q (!PyData.eqv p.toD q.toD) := by
  intro A s H v u Q E hh hu S rp rq h
  obtain ⟨as, k1⟩ := rp.reads S
  obtain ⟨bs, k2⟩ := rq.reads S
  exact SeqAt.compareNe_reads k1 k2 hp hq (by show A.units + _ < 9900; omega) h
end
end Mine
end
section
set_option Elab.async false
open PySem PySem.Calls PySem.Spec PySem.W PyProof.Rows
namespace Mine
section
variable {c : Cx} {d : Nat} {sc : Scope} {σ σ' σ₁ σ₂ : St}
def Cont (c : Cx) (d : Nat) (sc : Scope) (σ : St) (f : Fl) (rest : List Stmt) (r : Res Fl) (σ' : St) : Prop :=
  match f with
  | .next => SemB c d sc σ rest r σ'
  | f => r = .ok f ∧ σ' = σ
theorem Cont_next {rest : List Stmt} {r : Res Fl} (h : SemB c d sc σ rest r σ') : Cont c d sc σ .next rest r σ' := h
theorem Cont_ret {rest : List Stmt} {p : PV} : Cont c d sc σ (.ret p) rest (.ok (.ret p)) σ := ⟨rfl, rfl⟩
theorem Cont_retF {rest : List Stmt} {ps : List PV} {q : PV} : Cont c d sc σ (.retF ps q) rest (.ok (.retF ps q)) σ := ⟨rfl, rfl⟩
theorem Cont_brk {rest : List Stmt} : Cont c d sc σ .brk rest (.ok .brk) σ := ⟨rfl, rfl⟩
theorem Cont_cont {rest : List Stmt} : Cont c d sc σ .cont rest (.ok .cont) σ := ⟨rfl, rfl⟩
theorem B_gen {st : Stmt} {rest : List Stmt} {f : Fl} {r : Res Fl} (h : SemS c d sc σ st (.ok f) σ₁) (k : Cont c d sc σ₁ f rest r σ') : SemB c d sc σ (st :: rest) r σ' := by
  cases f with
  | next => exact B_cons h k
  | brk => obtain ⟨rfl, rfl⟩ := k; exact B_stop h rfl
  | cont => obtain ⟨rfl, rfl⟩ := k; exact B_stop h rfl
  | ret p => obtain ⟨rfl, rfl⟩ := k; exact B_stop h rfl
  | retF ps q => obtain ⟨rfl, rfl⟩ := k; exact B_stop h rfl
def WCont (c : Cx) (d : Nat) (sc : Scope) (σ : St) (f : Fl) (test : Expr) (body : List Stmt) (r : Res Fl) (σ' : St) : Prop :=
  match f with
  | .next => SemW c d sc σ test body r σ'
  | .ret p => r = .ok (.ret p) ∧ σ' = σ
  | .retF ps q => r = .ok (.retF ps q) ∧ σ' = σ
  | _ => False
theorem WCont_next {test : Expr} {body : List Stmt} {r : Res Fl} (h : SemW c d sc σ test body r σ') : WCont c d sc σ .next test body r σ' := h
theorem WCont_ret {test : Expr} {body : List Stmt} {p : PV} : WCont c d sc σ (.ret p) test body (.ok (.ret p)) σ := ⟨rfl, rfl⟩
theorem WCont_retF {test : Expr} {body : List Stmt} {ps : List PV} {q : PV} : WCont c d sc σ (.retF ps q) test body (.ok (.retF ps q)) σ := ⟨rfl, rfl⟩
theorem W_gen {test : Expr} {body : List Stmt} {f : Fl} {r : Res Fl} (h : SemT c d sc σ test (.ok true) σ₁) (hb : SemB c d sc σ₁ body (.ok f) σ₂) (k : WCont c d sc σ₂ f test body r σ') : SemW c d sc σ test body r σ' := by
  cases f with
  | next => exact W_step h hb k
  | ret p => obtain ⟨rfl, rfl⟩ := k; exact W_stop h hb rfl
  | retF ps q => obtain ⟨rfl, rfl⟩ := k; exact W_stop h hb rfl
  | brk => exact k.elim
  | cont => exact k.elim
theorem cmp_in_strs2 {x a b : Str} : CmpOk c .In (.str x) (.tup [.str a, .str b]) ([a, b].any (· == x)) := cmp_in_strs (ys := [a, b])
theorem cmp_in_strs3 {x a b e : Str} : CmpOk c .In (.str x) (.tup [.str a, .str b, .str e]) ([a, b, e].any (· == x)) := cmp_in_strs (ys := [a, b, e])
theorem E_neg {i : Int} {e : Expr} {pos : Pos} (h : SemE c d sc σ e (.ok (.int i)) σ') : SemE c d sc σ (.UnaryOp .USub e pos) (.ok (.int (-i))) σ' := by
  constructor; intro A outer nm fa L cd h₀ s P H m Q E K R G hk I post
  refine UnaryOp_ (h.run A outer nm fa L cd h₀ s P H m _ _ K R G hk I fun v h' tk' H' I' X' r' => ?_)
  obtain ⟨t, rfl⟩ := r'
  exact PyProof.Rows.neg_int (post _ _ _ H' I' X' ⟨_, rfl⟩)
/-- a table of the top, read by a key that it has not -/
def TabNo (c : Cx) (x k : Str) : Prop := ∀ h, GF c h → ∃ d D, c.mg x = some (.ref d) ∧ StrTab c.prog c.w h d D ∧ PySem.Spec.lookup (PyData.str k) D = none
theorem E_get {x k : Str} {n : Int} {e₁ e₂ : Expr} {np apos pos : Pos} (hp : TabNo c x k) (hg : sc.names.lookup x = some .globalImplicit) (h : SemL c d sc σ [e₁, e₂] (.ok [.str k, .int n]) σ')
    (h1 : plainE e₁ = true) (h2 : plainE e₂ = true) (hline : (apos.endLine == pos.line) = true) (hd : (x == ("__debug__" : Str)) = false) : SemE c d sc σ (.Call (.Attribute (.Name x np) "get" apos) [e₁, e₂] [] pos) (.ok (.int n)) σ' := by
  constructor; intro A outer nm fa L cd h₀ s P H m Q E K R G hk I post
  obtain ⟨dd, D, hm, T, hl⟩ := hp _ G
  have htrees : backTo pos (starEach [e₁, e₂] (envOf nm sc L fa cd)) = [(false, eval e₁ (envOf nm sc L fa cd)), (false, eval e₂ (envOf nm sc L fa cd))] := by
    rw [starEach_plain h1, starEach_plain h2]; rfl
  refine wpAny_Call_method2_late rfl hline htrees (ld_global_at I.fr G.top.g hm ?_ hk hg hd)
  have T' := TabAt.keep T I.fr.keep
  obtain ⟨lo, kvs, hd', hf⟩ := T'
  refine ⟨"dict", "dict.get", F.plainAttrs_dict, F.slot_dict_get, F.type_dict_get, hd'.typeIs, hd'.mapOf.noDict, ?_⟩
  rw [← htrees]
  refine callWith_method1 ?_ (starEach_plain h1) (plain_rest (by rw [List.all_cons, h2]; rfl))
  refine h.run A outer nm fa L cd h₀ s P H m pos _ _ K R G hk I fun vs h' tk' H' I' X' r' => ?_
  obtain ⟨v, u, rfl, ⟨t, rfl⟩, t', rfl⟩ := reps2 r'
  refine call_get2_strTab (TabAt.keep T I'.fr.keep) (PyProof.V.Flat.int n t') fun v hv => ?_
  rw [hl] at hv
  obtain ⟨t2, rfl⟩ := PyProof.V.Flat.int_inv hv
  exact post _ _ _ H' I' X' ⟨_, rfl⟩
/-! loops over a range -/
def FCont (c : Cx) (d : Nat) (sc : Scope) (σ : St) (f : Fl) (x : Str) (body : List Stmt) (k : Int) (n : Nat) (r : Res Fl) (σ' : St) : Prop :=
  match f with
  | .next => SemF c d sc σ x body (k + 1) n r σ'
  | .cont => SemF c d sc σ x body (k + 1) n r σ'
  | .brk => r = .ok .next ∧ σ' = σ
  | .ret p => r = .ok (.ret p) ∧ σ' = σ
  | .retF ps q => r = .ok (.retF ps q) ∧ σ' = σ
theorem FCont_next {x : Str} {body : List Stmt} {k : Int} {n : Nat} {r : Res Fl} (h : SemF c d sc σ x body (k + 1) n r σ') : FCont c d sc σ .next x body k n r σ' := h
theorem FCont_ret {x : Str} {body : List Stmt} {k : Int} {n : Nat} {p : PV} : FCont c d sc σ (.ret p) x body k n (.ok (.ret p)) σ := ⟨rfl, rfl⟩
theorem FCont_brk {x : Str} {body : List Stmt} {k : Int} {n : Nat} : FCont c d sc σ .brk x body k n (.ok .next) σ := ⟨rfl, rfl⟩
theorem F_more {x : Str} {body : List Stmt} {k : Int} {n : Nat} {vars : List (Str × PV)} {o : Option (Str × OV)} {f : Fl} {r : Res Fl} (hn : 1 ≤ n) (hl : sc.names.lookup x = some .local) (ho : ownOff o [x] = true)
    (hb : SemB c d sc ⟨(x, .int k) :: vars, o⟩ body (.ok f) σ₂) (hr : FCont c d sc σ₂ f x body k (n - 1) r σ') : SemF c d sc ⟨vars, o⟩ x body k n r σ' := by
  obtain ⟨m, rfl⟩ : ∃ m, n = m + 1 := ⟨n - 1, by omega⟩
  refine F_body hl ho hb ?_
  cases f <;> exact hr
theorem F_none {x : Str} {body : List Stmt} {k : Int} {n : Nat} (hn : n = 0) : SemF c d sc σ x body k n (.ok .next) σ := by
  subst hn; exact F_end
end
end Mine
end
section
set_option Elab.async false
open PySem PySem.Calls PySem.Spec PySem.W PyProof.Rows
namespace Mine
section
variable {c : Cx} {d : Nat} {sc : Scope} {σ σ' σ₁ σ₂ : St}
def Off (h₀ : Heap) (L : Addr) (P : Addr → Obj → Prop) (H : PH) (b : Addr) : Prop := H b = none ∧ b ≠ L ∧ h₀.get? b = none ∧ ∀ o, ¬ P b o
theorem Inv.but {h₀ : Heap} {L b : Addr} {P : Addr → Obj → Prop} {H : PH} {h h' : Heap} {m : Str → Option Value} {vars : List (Str × PV)} (J : Inv h₀ L P ⟨vars, none⟩ H h m) (ob : Off h₀ L P H b) (hs : ∀ a o, a ≠ b → h.get? a = some o → h'.get? a = some o) : Inv h₀ L P ⟨vars, none⟩ H h' m := by
  obtain ⟨o1, o2, o3, o4⟩ := ob
  refine ⟨fun a o hq => ⟨hs a o (fun e => o4 o (e ▸ hq)) (J.prot a o hq).1, (J.prot a o hq).2⟩, ?_, fun a cc xs hq => ?_, J.loc, J.vars, fun y q hy => by cases hy⟩
  · obtain ⟨oL, z1, z2, zL, z3⟩ := J.fr.ns
    exact ⟨⟨oL, z1, z2, hs L oL (Ne.symm o2) zL, z3⟩, fun a o e => hs a o (fun q => by rw [q, o3] at e; cases e) (J.fr.keep a o e), J.fr.above⟩
  · obtain ⟨ob, n, j1, j2, j3⟩ := J.sub a cc xs hq
    exact ⟨ob, n, hs a ob (fun e => by rw [e, o1] at hq; cases hq) j1, j2, j3⟩
theorem Inv.off_new {h₀ : Heap} {L : Addr} {P : Addr → Obj → Prop} {H : PH} {h : Heap} {m : Str → Option Value} (J : Inv h₀ L P σ H h m) {b : Addr} (hb : h.get? b = none) : Off h₀ L P H b := by
  refine ⟨?_, fun e => ?_, ?_, fun o hp => ?_⟩
  · cases hq : H b with
    | none => rfl
    | some y => obtain ⟨o, n, e, _⟩ := J.sub _ _ _ hq; rw [e] at hb; cases hb
  · obtain ⟨oL, _, _, zL, _⟩ := J.fr.ns
    rw [e, show h.get? L = some oL from zL] at hb; cases hb
  · cases hq : h₀.get? b with
    | none => rfl
    | some o' => rw [J.fr.keep _ _ hq] at hb; cases hb
  · rw [(J.prot _ _ hp).1] at hb; cases hb
theorem get_new (h : Heap) {b : Addr} (hb : h.objs.size ≤ b) : h.get? b = none := by
  cases e : h.get? b with
  | none => rfl
  | some o' => exact absurd (Heap.lt_size e) (Nat.not_lt.mpr hb)
theorem Off.ext {h₀ h : Heap} {L b : Addr} {P : Addr → Obj → Prop} {H H' : PH} {o : Obj} (x : Off h₀ L P H b) (X : Ext h H H') (e : h.get? b = some o) : Off h₀ L P H' b := ⟨(X.old b o e).trans x.1, x.2⟩
/-- a list that stands outside the pure heap is taken into it -/
theorem Inv.add {h₀ : Heap} {L b : Addr} {P : Addr → Obj → Prop} {H : PH} {h : Heap} {m : Str → Option Value} {vars : List (Str × PV)} {cls : Value} {vs : Array Value} (J : Inv h₀ L P ⟨vars, none⟩ H h m) (ob : Off h₀ L P H b) (ho : ∃ o n, h.get? b = some o ∧ o.cls = cls ∧ o.data = .seq vs n) :
    ∃ H', Inv h₀ L P ⟨vars, none⟩ H' h m ∧ Ext h₀ H H' ∧ H' b = some (cls, vs) := by
  obtain ⟨h5, h7, h6, h9⟩ := ob
  let H' : PH := fun a => if a = b then some (cls, vs) else H a
  have up : Up H H' := fun a y hb => by
    show (if a = b then _ else _) = _
    rw [if_neg (fun e => by rw [e, h5] at hb; cases hb)]; exact hb
  have hne : ∀ a, a ≠ b → H' a = H a := fun a ha => if_neg ha
  refine ⟨H', ⟨J.prot, J.fr, fun a cc xs hb => ?_, ?_, fun y p hy => ?_, fun y q hy => by cases hy⟩, ⟨up, fun a o' hb => ?_⟩, if_pos rfl⟩
  · by_cases e : a = b
    · subst e
      have : some (cls, vs) = some (cc, xs) := (if_pos rfl).symm.trans hb
      obtain ⟨rfl, rfl⟩ := Prod.mk.inj (Option.some.inj this)
      obtain ⟨o, n, z⟩ := ho
      exact ⟨o, n, z⟩
    · rw [hne a e] at hb; exact J.sub a cc xs hb
  · rw [hne L (Ne.symm h7)]; exact J.loc
  · obtain ⟨v, k1, k2⟩ := J.vars y p hy
    exact ⟨v, k1, k2.up up⟩
  · exact hne a fun e => by rw [e, h6] at hb; cases hb
/-- an element of a comprehension -/
structure ElemOk (c : Cx) (scope : Scope) (x : Str) (elt : Expr) (p q : PV) : Prop where
  run : ∀ (A : Around) (env : Env) (C : Addr) (mc : Str → Option Value) (s : Shared) (H : PH) (v : Value) (Q E : Value → Shared → Prop),
    A.handled = none → s.heap.Ns C mc → mc x = some v → Rep H p v → Sub H s.heap →
    (∀ y h' tk H', (∀ b o, s.heap.get? b = some o → h'.get? b = some o) → Sub H' h' → Ext s.heap H H' → Rep H' q y → Q y { s with heap := h', toks := tk }) →
    wpAny (model c.prog c.w) A (eval elt (compEnvC scope [] C env)) Q E s
theorem comp_turn {prog : Program} {w : World} {A : Around} {R : Result → Shared → Prop} {s : Shared} {elt target iter : Expr} {scope : Scope} {pos : Pos} {it acc : Value} {env : Env}
    (h : wpAny (model prog w) A (pyNext it) (fun r s₁ => match r with
      | none => R (.ok .next) s₁
      | some v => wpAny (model prog w) A (assign target env v) (fun _ s₂ => wpAny (model prog w) A (eval elt env) (fun x s₃ =>
          wpAny (model prog w) A (call (.builtin "list.append") [acc, x]) (fun _ s₄ => codeAny (model prog w) A (.compLoop (.ListComp elt [⟨target, iter, [], 0⟩] scope pos) 0 it acc env) R s₄) (notedBy (model prog w) A env fun e s' => R (.error e) s') s₃)
          (notedBy (model prog w) A env fun e s' => R (.error e) s') s₂) (notedBy (model prog w) A env fun e s' => R (.error e) s') s₁) (notedBy (model prog w) A env fun e s' => R (.error e) s') s)
    (ht : ∀ v, letOwnedTupleGo target it v = pure ()) : codeAny (model prog w) A (.compLoop (.ListComp elt [⟨target, iter, [], 0⟩] scope pos) 0 it acc env) R s := by
  refine codeAny_of_tree ?_
  show wpAny _ _ ((compTurn (.ListComp elt [⟨target, iter, [], 0⟩] scope pos) 0 it acc env).onRaise (fun x => do noteFrame x env; theTreesLotGoes x)) _ _ s
  refine wpAny_noted ?_
  rw [compTurn_list1]
  refine wpAny_bind (wpAny_standAt (wpAny_bind (wpAny_mono h (fun r s₁ h₁ => ?_) fun _ _ h' => h')))
  cases r with
  | none => exact wpAny_pure h₁
  | some v =>
    refine wpAny_bind (wpAny_of_eq (ht v) ?_)
    exact wpAny_bind (wpAny_mono h₁ (fun _ s₂ h₂ => wpAny_bind (wpAny_bind (wpAny_mono h₂ (fun x s₃ h₃ => wpAny_bind (wpAny_mono h₃
      (fun _ s₄ h₄ => wpAny_pure (wpAny_pure ⟨rfl, h₄⟩)) fun _ _ h' => h')) fun _ _ h' => h'))) fun _ _ h' => h')
inductive Elems (c : Cx) (scope : Scope) (x : Str) (elt : Expr) : List PV → List PV → Prop
  | nil : Elems c scope x elt [] []
  | cons {p q : PV} {ps qs : List PV} : ElemOk c scope x elt p q → Elems c scope x elt ps qs → Elems c scope x elt (p :: ps) (q :: qs)
theorem comp_loop {elt iter : Expr} {x : Str} {px : Pos} {scope : Scope} {pos : Pos} {env : Env} {A : Around} {h₀ : Heap} {L It C D ax : Addr} {P : Addr → Obj → Prop} {vars : List (Str × PV)} {m : Str → Option Value} {its : Array Value}
    (hh : A.handled = none) (hkind : scope.kind = .function) (hx : scope.names.lookup x = some .local) (n1 : It ≠ C) (n2 : It ≠ D) (n3 : C ≠ D) {ps qs : List PV} (el : Elems c scope x elt ps qs) :
    ∀ (i : Nat) (s : Shared) (H : PH) (mc : Str → Option Value) (ys : Array Value) (os : List PV) (R : Result → Shared → Prop),
      Inv h₀ L P ⟨vars, none⟩ H s.heap m → Off h₀ L P H It → Off h₀ L P H C → Off h₀ L P H D → s.heap.IsListIter It ax i → H ax = some (.type "list", its) → Reps H ps (its.toList.drop i) → PlainL s.heap D ys → Reps H os ys.toList → os.length + ps.length ≤ 1000 → s.heap.Ns C mc →
      (∀ h' tk H' ys' mc', Inv h₀ L P ⟨vars, none⟩ H' h' m → Ext h₀ H H' → Off h₀ L P H' C → Off h₀ L P H' D → PlainL h' D ys' → Reps H' (os ++ qs) ys'.toList → h'.Ns C mc' → R (.ok .next) { s with heap := h', toks := tk }) →
      codeAny (model c.prog c.w) A (.compLoop (.ListComp elt [⟨.Name x px, iter, [], 0⟩] scope pos) 0 (.ref It) (.ref D) (compEnvC scope [] C env)) R s := by
  induction el with
  | nil =>
    intro i s H mc ys os R I o1 o2 o3 hit hax rest hD rD hsz hC post
    refine comp_turn ?_ (fun _ => rfl)
    have hl := I.sub.lst hax
    have hn : its[i]? = none := by
      have : its.toList.drop i = [] := rest
      have := List.drop_eq_nil_iff.mp this
      simpa using this
    refine wpAny_pyNext_list_end hh hit hl hn fun h' hs => ?_
    have J := I.but o1 fun a o ha e => hs a o ha e
    obtain ⟨oD, nD, d1, d2⟩ := hD
    exact post h' _ H ys mc J (.refl ..) o2 o3 ⟨oD, nD, hs D oD (Ne.symm n2) d1, d2⟩ (by simpa using rD) (hC.extBut hs (Ne.symm n1))
  | @cons p q ps qs he _ ih =>
    intro i s H mc ys os R I o1 o2 o3 hit hax rest hD rD hsz hC post
    obtain ⟨v, r, e1, rv, rr⟩ := rest
    have hi : i < its.toList.length := by
      have : its.toList.drop i ≠ [] := by rw [e1]; simp
      rcases Nat.lt_or_ge i its.toList.length with h | h
      · exact h
      · exact absurd (List.drop_eq_nil_of_le h) this
    have hv : its[i]? = some v := by
      rw [List.drop_eq_getElem_cons hi] at e1
      have h1 := (List.cons.inj e1).1
      have : its.toList[i]? = some v := by rw [List.getElem?_eq_getElem hi, h1]
      simpa using this
    have hr : its.toList.drop (i + 1) = r := by
      rw [List.drop_eq_getElem_cons hi] at e1
      exact (List.cons.inj e1).2
    refine comp_turn ?_ (fun _ => rfl)
    have hl := I.sub.lst hax
    refine wpAny_pyNext_list_item hit hl hv fun h₁ hit₁ hs₁ => ?_
    have k1 : ∀ a o, a ≠ It → s.heap.get? a = some o → h₁.get? a = some o := fun a o ha e => (hs₁.2 a ha).trans e
    have I₁ := I.but o1 k1
    obtain ⟨oD, nD, d1, d2, d3, d4⟩ := hD
    refine PySem.wpAny_assign_Name (wpAny_storeName_local (lookup_relabel_local hx) (hC.sameBut hs₁ (Ne.symm n1)) (fun h₂ hn₂ hs₂ => ?_) (by simp [compEnvC, relabel, hkind]))
    have k2 : ∀ a o, a ≠ C → h₁.get? a = some o → h₂.get? a = some o := fun a o ha e => (hs₂.2 a ha).trans e
    have I₂ := I₁.but o2 k2
    refine he.run A env C _ { s with heap := h₂, toks := s.toks + 1 } H v _ _ hh hn₂ (if_pos rfl) rv I₂.sub fun y h₃ tk₃ H₃ k3 S₃ X₃ ry => ?_
    obtain ⟨oI, i1, i2⟩ := hit₁
    have eI : h₂.get? It = some oI := k2 _ _ n1 i1
    obtain ⟨oC, cx⟩ : ∃ o, h₂.get? C = some o := let ⟨o, _, _, e, _⟩ := hn₂; ⟨o, e⟩
    have eD : h₂.get? D = some oD := k2 _ _ (Ne.symm n3) (k1 _ _ (Ne.symm n2) d1)
    have I₃ : Inv h₀ L P ⟨vars, none⟩ H₃ h₃ m := by
      have J := I₂.keeps k3
      refine ⟨J.prot, J.fr, S₃, ?_, fun y' q' hy => ?_, fun y' q' hy => by cases hy⟩
      · obtain ⟨oL, _, _, zL, _⟩ := I₂.fr.ns
        rw [X₃.old L oL zL]; exact I₂.loc
      · obtain ⟨u, u1, u2⟩ := I₂.vars y' q' hy
        exact ⟨u, u1, u2.up X₃.up⟩
    have X₀ : Ext h₀ H H₃ := ⟨X₃.up, fun b o e => X₃.old b o (I₂.fr.keep b o e)⟩
    have hsz' : ys.size ≤ 1000 := by
      have := rD.length
      rw [Array.length_toList] at this
      omega
    refine list_append_plainL (s := { s with heap := h₃, toks := tk₃ }) ⟨oD, nD, k3 _ _ eD, d2, d3, d4⟩ (fun h₄ hD₄ hs₄ => ?_) (by rw [sizeLine_eq]; omega)
    have k4 : ∀ a o, a ≠ D → h₃.get? a = some o → h₄.get? a = some o := fun a o ha e => (hs₄.2 a ha).trans e
    have q1 := o1.ext X₃ eI
    have q2 := o2.ext X₃ cx
    have q3 := o3.ext X₃ eD
    refine ih (i + 1) { s with heap := h₄, toks := tk₃ } H₃ _ (ys.push y) (os ++ [q]) R (I₃.but q3 k4) q1 q2 q3 ⟨oI, k4 _ _ n2 (k3 _ _ eI), i2⟩ (X₃.up _ _ hax) (by rw [hr]; exact rr.up X₃.up) hD₄ (by rw [Array.toList_push]; exact (rD.up X₃.up).append (.one ry)) (by rw [List.length_append, List.length_singleton]; rw [List.length_cons] at hsz; omega) ((hn₂.keeps k3).sameBut hs₄ n3) ?_
    intro h' tk H' ys' mc' J' X' q2' q3' hD' r' hC'
    refine post h' tk H' ys' mc' J' (X₀.trans X') q2' q3' hD' ?_ hC'
    rwa [List.append_assoc] at r'
end
end Mine
end
section
set_option Elab.async false
open PySem PySem.Calls PySem.Spec PySem.W PyProof.Rows
namespace Mine
section
variable {c : Cx} {d : Nat} {sc : Scope} {σ σ' σ₁ σ₂ : St}
theorem comp_block {elt iter : Expr} {x : Str} {px : Pos} {scope : Scope} {pos : Pos} {env : Env} {A : Around} {h₀ : Heap} {L ax : Addr} {P : Addr → Obj → Prop} {vars : List (Str × PV)} {m : Str → Option Value} {its : Array Value} {ps qs : List PV} {s : Shared} {H : PH}
    {RR : Value → Addr → Result → Shared → Prop} {E : Value → Shared → Prop}
    (hh : A.handled = none) (hcell : ∀ y ∈ scope.names, y.2 ≠ .cell) (hkind : scope.kind = .function) (hx : scope.names.lookup x = some .local) (el : Elems c scope x elt ps qs)
    (I : Inv h₀ L P ⟨vars, none⟩ H s.heap m) (hax : H ax = some (.type "list", its)) (rs : Reps H ps its.toList) (hsz : ps.length ≤ 1000)
    (hRR : ∀ D C h' tk H' ys mc, Inv h₀ L P ⟨vars, none⟩ H' h' m → Ext h₀ H H' → Off h₀ L P H' C → Off h₀ L P H' D → PlainL h' D ys → Reps H' qs ys.toList → h'.Ns C mc → C ≠ D → RR (.ref D) C (.ok .next) { s with heap := h', toks := tk }) :
    wpAny (model c.prog c.w) A (pyIter (.ref ax)) (fun it s₂ => wpAny (model c.prog c.w) A (newList []) (fun acc s₃ => wpAny (model c.prog c.w) A (newFunctionEnv scope env.globals [] [] env.qual none .none (some env)) (fun cenv s₄ =>
      codeAny (model c.prog c.w) A (.compStart (.ListComp elt [⟨.Name x px, iter, [], 0⟩] scope pos) 0 it acc { cenv with scope := relabel scope env }) (RR acc cenv.locals) s₄) E s₃) E s₂) E s := by
  have hl := I.sub.lst hax
  refine wpAny_pyIter_list hl ?_
  refine wpAny_newObj_type (wpAny_newFunctionEnv hcell (by intro y hy; simp at hy) (fun h₁ hns₁ hsb₁ => ?_) hkind)
  dsimp only at hns₁ hsb₁ ⊢
  generalize hH1 : s.heap.push { cls := .type "list_iterator", data := .fields #[.ref ax, .int 0 0] } = H1 at hns₁ hsb₁ ⊢
  generalize hH2 : H1.push { cls := .type "list", dict := none, data := .seq ([] : List Value).toArray } = H2 at hns₁ hsb₁ ⊢
  have z1 : H1.objs.size = s.heap.objs.size + 1 := by rw [← hH1, Heap.size_push]
  have z2 : H2.objs.size = s.heap.objs.size + 2 := by rw [← hH2, Heap.size_push, z1]
  have up1 : ∀ b o, s.heap.get? b = some o → H1.get? b = some o := fun b o e => hH1 ▸ Heap.get?_push_of_some _ e
  have up2 : ∀ b o, H1.get? b = some o → H2.get? b = some o := fun b o e => hH2 ▸ Heap.get?_push_of_some _ e
  have up3 : ∀ b o, H2.get? b = some o → h₁.get? b = some o := fun b o e => hsb₁.extBut b o (fun q => by rw [q] at e; exact absurd (Heap.lt_size e) (Nat.lt_irrefl _)) (Heap.get?_push_of_some _ e)
  have a0 : Off h₀ L P H s.heap.objs.size := I.off_new (get_new _ (Nat.le_refl _))
  have a1 : Off h₀ L P H H1.objs.size := I.off_new (get_new _ (by rw [z1]; exact Nat.le_succ _))
  have a2 : Off h₀ L P H H2.objs.size := I.off_new (get_new _ (by rw [z2]; omega))
  have n1 : (s.heap.objs.size : Nat) ≠ H2.objs.size := by rw [z2]; omega
  have n2 : (s.heap.objs.size : Nat) ≠ H1.objs.size := by rw [z1]; omega
  have n3 : (H2.objs.size : Nat) ≠ H1.objs.size := by rw [z1, z2]; omega
  have hit : h₁.IsListIter s.heap.objs.size ax 0 := ⟨_, up3 _ _ (up2 _ _ (hH1 ▸ Heap.get?_push_size _ rfl)), rfl, rfl⟩
  have hD : PlainL h₁ H1.objs.size #[] := ⟨_, 0, up3 _ _ (hH2 ▸ Heap.get?_push_size _ rfl), rfl, rfl, rfl⟩
  have I₁ : Inv h₀ L P ⟨vars, none⟩ H h₁ m := I.keeps fun b o e => up3 _ _ (up2 _ _ (up1 _ _ e))
  have loop : ∀ s₃ : Shared, s₃ = { s with heap := h₁, toks := s.toks + ([] : List (Str × Value)).length } →
      codeAny (model c.prog c.w) A (.compLoop (.ListComp elt [⟨.Name x px, iter, [], 0⟩] scope pos) 0 (.ref s.heap.objs.size) (.ref H1.objs.size) (compEnvC scope [] H2.objs.size env)) (RR (.ref H1.objs.size) H2.objs.size) s₃ := by
    rintro s₃ rfl
    refine comp_loop hh hkind hx n1 n2 n3 el 0 { s with heap := h₁, toks := s.toks + ([] : List (Str × Value)).length } H _ #[] [] _ I₁ a0 a2 a1 hit hax (by simpa using rs) hD (by exact (rfl : (#[] : Array Value).toList = [])) (by simpa using hsz) hns₁ ?_
    intro h' tk H' ys' mc' J X q2 q3 hD' r hC'
    exact hRR _ _ h' tk H' ys' mc' J X q2 q3 hD' (by simpa using r) hC' n3
  exact codeAny_compStart_list (loop _ rfl) (wpAny_pyIter_listiter hit (loop _ rfl))
theorem E_comp {elt iter : Expr} {x : Str} {px : Pos} {scope : Scope} {pos : Pos} {vars : List (Str × PV)} {ps qs : List PV} (h : SemE c d sc σ iter (.ok (.lst ps)) ⟨vars, none⟩) (el : Elems c scope x elt ps qs) (hsz : ps.length ≤ 1000)
    (hcell : ∀ y ∈ scope.names, y.2 ≠ .cell) (hfree : ∀ y ∈ scope.names, y.2 ≠ .free) (hkind : scope.kind = .function) (hx : scope.names.lookup x = some .local) (hnames : ∀ z ∈ scope.names, z.2 = .local → scope.names.lookup z.1 = some .local)
    (hs : ∀ env x, foldedSetIterable iter env x = pure x) : SemE c d sc σ (.ListComp elt [⟨.Name x px, iter, [], 0⟩] scope pos) (.ok (.lst qs)) ⟨vars, none⟩ := by
  constructor; intro A outer nm fa L cd h₀ s P H m Q E K R G hk I post
  rw [eval_ListComp]
  refine wpAny_comprehension_free (use := none) rfl (hs _) (closureFor_none hfree) hkind hnames (h.run A outer nm fa L cd h₀ s P H m _ _ K R G hk I fun v h' tk' H' I' X' r' => ?_)
  obtain ⟨ax, its, rfl, e1, e2⟩ := r'
  refine comp_block (s := { s with heap := h', toks := tk' }) R.1 hcell hkind hx el I' e1 e2 hsz fun D C h'' tk H'' ys mc J X q1 q2 hD r hC hne => ?_
  refine ⟨mc, hC, fun h3 hs3 => ?_⟩
  have J3 := J.but q1 fun a o ha e => (hs3.2 a ha).trans e
  obtain ⟨oD, nD, d1, d2, _, d3⟩ := hD
  obtain ⟨H3, J4, X4, e4⟩ := J3.add (cls := .type "list") (vs := ys) q2 ⟨oD, nD, (hs3.2 D (Ne.symm hne)).trans d1, d2, d3⟩
  exact post _ h3 _ H3 J4 (X'.trans (X.trans X4)) ⟨D, ys, rfl, e4, r.up X4.up⟩
theorem S_comp {elt iter : Expr} {x y : Str} {px py : Pos} {scope : Scope} {pos spos : Pos} {vars : List (Str × PV)} {ps qs : List PV} (h : SemE c d sc σ iter (.ok (.lst ps)) ⟨vars, none⟩) (el : Elems c scope x elt ps qs) (hsz : ps.length ≤ 1000)
    (hcell : ∀ y ∈ scope.names, y.2 ≠ .cell) (hfree : ∀ y ∈ scope.names, y.2 ≠ .free) (hkind : scope.kind = .function) (hx : scope.names.lookup x = some .local) (hnames : ∀ z ∈ scope.names, z.2 = .local → scope.names.lookup z.1 = some .local)
    (hs : ∀ env x, foldedSetIterable iter env x = pure x) (hy : sc.names.lookup y = some .local)
    (hsw : ∀ (nm : Str) (fa L : Addr) (cd : Value), swapsWith (.ListComp elt [⟨.Name x px, iter, [], 0⟩] scope pos) (some (.Name y py)) spos.line (envOf nm sc L fa cd) = pure true) :
    SemS c d sc σ (.Assign [.Name y py] (.ListComp elt [⟨.Name x px, iter, [], 0⟩] scope pos) spos) (.ok .next) ⟨(y, .lst qs) :: vars, none⟩ := by
  constructor; intro A outer nm fa L cd h₀ s P H m Q E K R G hk I post
  rw [exec_Assign_Name_used _ _ _ _ (hsw nm fa L cd)]
  refine wpAny_bind (wpAny_standAt (wpAny_bind ?_))
  show wpAny _ _ (do let _ ← comprehension (.ListComp elt [⟨.Name x px, iter, [], 0⟩] scope pos) scope (envOf nm sc L fa cd) _ (newList []) false (eval iter (envOf nm sc L fa cd)) (some (assign (.Name y py) (envOf nm sc L fa cd)))) _ _ s
  refine wpAny_bind (wpAny_mono (wpAny_comprehension_free (use := some (assign (.Name y py) (envOf nm sc L fa cd))) (Q := fun _ s' => Q .next s') rfl (hs _) (closureFor_none hfree) hkind hnames
    (h.run A outer nm fa L cd h₀ s P H m _ _ K R G hk I fun v h' tk' H' I' X' r' => ?_)) (fun _ s' hq => wpAny_pure (wpAny_pure hq)) fun _ _ e => e)
  obtain ⟨ax, its, rfl, e1, e2⟩ := r'
  refine comp_block (s := { s with heap := h', toks := tk' }) R.1 hcell hkind hx el I' e1 e2 hsz fun D C h'' tk H'' ys mc J X q1 q2 hD r hC hne => ?_
  show wpAny _ _ (assign (.Name y py) (envOf nm sc L fa cd) (.ref D)) _ _ _
  obtain ⟨oD, nD, d1, d2, _, d3⟩ := hD
  obtain ⟨H3, J3, X3, e3⟩ := J.add (cls := .type "list") (vs := ys) q2 ⟨oD, nD, d1, d2, d3⟩
  have q1' : Off h₀ L P H3 C := by
    obtain ⟨oC, _, _, cx, _⟩ := id hC
    refine ⟨?_, q1.2⟩
    cases hq : H3 C with
    | none => rfl
    | some y =>
      obtain ⟨o', n', w1, w2, w3⟩ := J3.sub _ _ _ hq
      obtain ⟨oC', es, ep, cx', w4, _⟩ := hC
      rw [cx'] at w1
      obtain rfl := Option.some.inj w1
      simp_all
  refine PySem.wpAny_assign_Name (store_ (s := { s with heap := h'', toks := tk }) (P := P) (H := H3) J3.fr hk hy fun h4 hn4 hs4 => ?_)
  have J4 := J3.store rfl hn4 hs4 (x := y) (p := .lst qs) (v := .ref D) ⟨D, ys, rfl, e3, r.up X3.up⟩
  refine ⟨mc, hC.sameBut hs4 q1.2.1, fun h5 hs5 => ?_⟩
  exact post .next h5 _ H3 _ (J4.but q1' fun a o ha e => (hs5.2 a ha).trans e) (X'.trans (X.trans X3)) rfl
end
end Mine
end
section
set_option Elab.async false
open PySem PySem.Calls PySem.Spec PySem.W PyProof.Rows
namespace Mine
section
variable {c : Cx} {d : Nat} {sc : Scope} {σ σ' σ₁ σ₂ : St}
theorem F_pre {τ : St} {x : Str} {body : List Stmt} {k : Int} {n : Nat} {r : Res Fl} (h : SemF c d sc τ x body k n r σ') (hv : ∀ x p, τ.vars.lookup x = some p → σ.vars.lookup x = some p) (ho : τ.own = σ.own) : SemF c d sc σ x body k n r σ' := by
  intro A outer nm fa L cd h₀ s P H m px I R K Rm G hk J hI hL hb hP post
  exact h A outer nm fa L cd h₀ s P H m px I R K Rm G hk ⟨J.prot, J.fr, J.sub, J.loc, fun x p e => J.vars x p (hv x p e), fun x ps e => J.own x ps (ho ▸ e)⟩ hI hL hb hP post
theorem strs_values {H : PH} : ∀ {ss : List Str} {vs : List Value}, Reps H (ss.map PV.str) vs → ∃ l : List (Str × PySem.Tok), strValues l = vs ∧ l.map (·.1) = ss
  | [], vs, h => ⟨[], by rw [show vs = [] from h]; rfl, rfl⟩
  | y :: ys, vs, ⟨v, r, e, ⟨t, ht⟩, k⟩ => by
    obtain ⟨l, h1, h2⟩ := strs_values k
    refine ⟨(y, t) :: l, ?_, ?_⟩
    · rw [e, ht, ← h1]; rfl
    · rw [List.map_cons, h2]
theorem E_join {sep : Str} {arg : Expr} {ss : List Str} {k : Nat} {kp apos pos : Pos} (h : SemE c d sc σ arg (.ok (.lst (ss.map PV.str))) σ') (hp : plainE arg = true) (hok : JoinOk sep ss = true) (hline : (apos.endLine == pos.line) = true) :
    SemE c d sc σ (.Call (.Attribute (.Constant (.str sep) k kp) "join" apos) [arg] [] pos) (.ok (.str (Txt.join sep ss))) σ' := by
  constructor; intro A outer nm fa L cd h₀ s P H m Q E K R G hk I post
  have hst : starEach [arg] (envOf nm sc L fa cd) = [(false, eval arg (envOf nm sc L fa cd))] := starEach_plain hp
  refine Call_method1 rfl hst hline (wpAny_Constant_str ?_)
  refine ⟨"str", "str.join", F.plainAttrs_str, F.slot_str_join, F.type_str_join, typeIs_str _ _ _, (fun a e => by cases e), ?_⟩
  have := callWith_method1 (M := model c.prog c.w) (A := A.deeper (envOf nm sc L fa cd)) (E := E) (s := { s with toks := s.toks + 1 }) (env := envOf nm sc L fa cd) (pos := pos) (id := "str.join") (first := [.str sep s.toks]) (e := arg) (rest := []) (Q := Q) (by
    refine wpAny_items_cons (h.run A outer nm fa L cd h₀ { s with toks := s.toks + 1 } P H m _ _ K R G hk I fun v h' tk' H' I' X' r' => wpAny_items_nil ?_) hst
    obtain ⟨a, vs, rfl, e, r⟩ := r'
    obtain ⟨l, h1, h2⟩ := strs_values r
    refine SC.join (s := { s with heap := h', toks := tk' }) (D := a) (l := l) (by rw [h1]; simpa using I'.sub.lst e) h2 hok fun t' k => ?_
    exact post _ h' k H' I' X' ⟨t', rfl⟩) hst rfl
  rw [hst] at this
  exact this
theorem S_swap {x y : Str} {e₁ e₂ : Expr} {k k' : Nat} {xp yp tp vp pos : Pos} {vars : List (Str × PV)} {p q : PV} (h : SemL c d sc σ [e₁, e₂] (.ok [p, q]) ⟨vars, none⟩)
    (hx : sc.names.lookup x = some .local) (hy : sc.names.lookup y = some .local)
    (hs : ∀ (nm : Str) (fa L : Addr) (cd : Value), swappedStores [.Tuple [.Name x xp, .Name y yp] k tp] (.Tuple [e₁, e₂] k' vp) (envOf nm sc L fa cd) = pure (some [x, y])) :
    SemS c d sc σ (.Assign [.Tuple [.Name x xp, .Name y yp] k tp] (.Tuple [e₁, e₂] k' vp) pos) (.ok .next) ⟨(x, p) :: (y, q) :: vars, none⟩ := by
  constructor; intro A outer nm fa L cd h₀ s P H m Q E K R G hk I post
  refine Assign_Tuple_swapped (names := [x, y]) ((E_tuple h (Nat.le_of_ble_eq_true rfl)).run A outer nm fa L cd h₀ s P H m _ _ K R G hk I fun v h' tk' H' I' X' r' => ?_) rfl (hs nm fa L cd)
  obtain ⟨a, vs, rfl, e1, e2⟩ := r'
  obtain ⟨v1, v2, hvs, r1, r2⟩ := reps2 e2
  have hsz : vs.size = 2 := by rw [← Array.length_toList, hvs]; rfl
  show wpAny _ _ (unpackItems (.ref a) 2 none) _ _ _
  rw [← hsz]
  refine unpackItems_tuple (s := { s with heap := h', toks := tk' }) R.1 (I'.sub.tup e1) fun g hg => ?_
  rw [hvs]
  have J := I'.keeps fun b ob eb => hg b ob (Nat.ne_of_lt (Heap.lt_size eb)) eb
  show wpAny _ _ (do holding [v1] (bindName (envOf nm sc L fa cd) y v2); assignInOrder [bindName (envOf nm sc L fa cd) x] [v1]) _ _ _
  refine wpAny_bind (wpAny_holding ?_)
  refine wpAny_bindName (store_ (s := { s with heap := g, toks := tk' }) (P := P) (H := H') J.fr hk hy fun h₂ hn hs₂ => ?_)
  have J2 := J.store rfl hn hs₂ r2
  show wpAny _ _ (do holding [] (bindName (envOf nm sc L fa cd) x v1); assignInOrder [] []) _ _ _
  refine wpAny_bind (wpAny_holding ?_)
  refine wpAny_bindName (store_ (s := { s with heap := h₂, toks := tk' + 1 }) (P := P) (H := H') J2.fr hk hx fun h₃ hn hs₃ => ?_)
  exact wpAny_pure (post .next h₃ _ H' _ (J2.store rfl hn hs₃ r1) X' rfl)
end
end Mine
end
section
set_option Elab.async false
open PySem PySem.Calls PySem.Spec PySem.W PyProof.Rows
namespace Mine
section
variable {c : Cx}
theorem sub_push {H : PH} {h : Heap} (S : Sub H h) (cls : Value) (vs : Array Value) : ∃ H', Sub H' (h.push { cls := cls, data := .seq vs }) ∧ Ext h H H' ∧ H' h.objs.size = some (cls, vs) := by
  have hno : H h.objs.size = none := by
    cases hq : H h.objs.size with
    | none => rfl
    | some y => obtain ⟨o, n, e, _⟩ := S _ _ _ hq; exact absurd (Heap.lt_size e) (Nat.lt_irrefl _)
  let H' : PH := fun b => if b = h.objs.size then some (cls, vs) else H b
  have up : Up H H' := fun b y hb => by
    show (if b = _ then _ else _) = _
    rw [if_neg (fun e => by rw [e, hno] at hb; cases hb)]; exact hb
  have hne : ∀ b, b ≠ h.objs.size → H' b = H b := fun b hb => if_neg hb
  refine ⟨H', fun b cc xs hb => ?_, ⟨up, fun b o' hb => hne b (Nat.ne_of_lt (Heap.lt_size hb))⟩, if_pos rfl⟩
  by_cases e : b = h.objs.size
  · subst e
    have : some (cls, vs) = some (cc, xs) := (if_pos rfl).symm.trans hb
    obtain ⟨rfl, rfl⟩ := Prod.mk.inj (Option.some.inj this)
    exact ⟨_, 0, Heap.get?_push_size _ rfl, rfl, rfl⟩
  · rw [hne b e] at hb
    obtain ⟨o, n, k1, k2, k3⟩ := S b cc xs hb
    exact ⟨o, n, Heap.get?_push_of_some _ k1, k2, k3⟩
/-- written data, in any frame -/
structure KE (c : Cx) (e : Expr) (p : PV) : Prop where
  run : ∀ (A : Around) (env : Env) (s : Shared) (H : PH) (Q E : Value → Shared → Prop), Sub H s.heap →
    (∀ v h' tk H', (∀ b o, s.heap.get? b = some o → h'.get? b = some o) → Sub H' h' → Ext s.heap H H' → Rep H' p v → Q v { s with heap := h', toks := tk }) → wpAny (model c.prog c.w) A (eval e env) Q E s
structure KL (c : Cx) (es : List Expr) (ps : List PV) : Prop where
  run : ∀ (A : Around) (env : Env) (s : Shared) (H : PH) (pos : Pos) (Q : List Value → Shared → Prop) (E : Value → Shared → Prop), Sub H s.heap →
    (∀ vs h' tk H', (∀ b o, s.heap.get? b = some o → h'.get? b = some o) → Sub H' h' → Ext s.heap H H' → Reps H' ps vs → Q vs { s with heap := h', toks := tk }) → wpAny (model c.prog c.w) A (spliced (backTo pos (starEach es env))) Q E s
theorem K_str {x : Str} {k : Nat} {pos : Pos} : KE c (.Constant (.str x) k pos) (.str x) := ⟨fun A env s H Q E S post => wpAny_Constant_str (post _ s.heap _ H (fun _ _ e => e) S (.refl ..) ⟨_, rfl⟩)⟩
theorem K_nil : KL c [] [] := ⟨fun A env s H pos Q E S post => wpAny_items_nil (post _ s.heap s.toks H (fun _ _ e => e) S (.refl ..) rfl)⟩
theorem Ext.chain {h h' : Heap} {H H' H'' : PH} (a : Ext h H H') (k : ∀ b o, h.get? b = some o → h'.get? b = some o) (b : Ext h' H' H'') : Ext h H H'' := a.trans ⟨b.up, fun x o e => b.old x o (k x o e)⟩
theorem K_cons {e : Expr} {es : List Expr} {p : PV} {ps : List PV} (hp : plainE e = true) (h1 : KE c e p) (h2 : KL c es ps) : KL c (e :: es) (p :: ps) := by
  constructor; intro A env s H pos Q E S post
  refine wpAny_items_cons (h1.run A env s H _ _ S fun v h' tk' H' k' S' X' r' => ?_) (starEach_plain hp)
  refine h2.run A env { s with heap := h', toks := tk' } H' pos _ _ S' fun vs h'' tk'' H'' k'' S'' X'' r'' => ?_
  exact post _ h'' tk'' H'' (fun b o e => k'' b o (k' b o e)) S'' (X'.chain k' X'') ⟨v, vs, rfl, r'.up X''.up, r''⟩
theorem K_tuple {es : List Expr} {ps : List PV} {k : Nat} {pos : Pos} (h : KL c es ps) (hs : ps.length ≤ 1000) : KE c (.Tuple es k pos) (.tup ps) := by
  constructor; intro A env s H Q E S post
  refine wpAny_Tuple (h.run A env s H pos _ _ S fun vs h' tk' H' k' S' X' r' => ?_)
  obtain ⟨H'', S'', X'', e⟩ := sub_push S' (.type "tuple") vs.toArray
  exact ⟨by rw [r'.length, sizeLine_eq]; omega, post _ _ _ H'' (fun b o e => Heap.get?_push_of_some _ (k' b o e)) S'' (X'.chain k' X'') ⟨_, _, rfl, e, r'.up X''.up⟩⟩
theorem K_list {es : List Expr} {ps : List PV} {pos : Pos} (h : KL c es ps) (hs : ps.length ≤ 1000) : KE c (.List es pos) (.lst ps) := by
  constructor; intro A env s H Q E S post
  refine wpAny_List (h.run A env s H pos _ _ S fun vs h' tk' H' k' S' X' r' => ?_)
  obtain ⟨H'', S'', X'', e⟩ := sub_push S' (.type "list") vs.toArray
  exact ⟨by rw [r'.length, sizeLine_eq]; omega, post _ _ _ H'' (fun b o e => Heap.get?_push_of_some _ (k' b o e)) S'' (X'.chain k' X'') ⟨_, _, rfl, e, r'.up X''.up⟩⟩
theorem elem_index {v : Expr} {x : Str} {np pos : Pos} {scope : Scope} {ps : List PV} {i : Nat} {q : PV} (h : KE c v (.lst ps)) (hq : ps[i]? = some q) (hi : i < 1000) (hkind : scope.kind = .function) (hx : scope.names.lookup x = some .local) (hd : (x == ("__debug__" : Str)) = false) :
    ElemOk c scope x (.Subscript v (.Name x np) pos) (.int (i : Int)) q := by
  constructor; intro A env C mc s H u Q E hh hn hu ru S post
  refine Subscript_ (h.run A (compEnvC scope [] C env) s H _ _ S fun w h' tk' H' k' S' X' r' => ?_)
  refine ldVarK (hn.keeps k') hu ?_ (by simp [compEnvC, relabel, hkind]) (lookup_relabel_local hx) hd
  obtain ⟨T, id, k1, k2, k3⟩ := item_n (c := c) hq (by omega) A { s with heap := h', toks := tk' } H' w u Q E S' r' (ru.up X'.up) fun y tk ry => post y h' tk H' k' S' X' ry
  exact tail_ k2 k1 k3
end
end Mine
end
section
set_option Elab.async false
open PySem PySem.W
namespace Mine
/-! a class of exceptions whose parent, a class of the text too, has an __init__ -/
section
variable {M : Model} {A : Around} {E : Value → Shared → Prop} {h : Heap} {g : Array GenState} {d : Drawn} {t : Nat} {os : OsState}
variable {nm q : Str} {C N : Addr} {bs bm bmB : List Value} {hdct : Bool} {sn : List Str} {sub : List Value} {ab : Bool} {col : Option Bool} {dd : Option Addr} {k0 k1 k2 k3 k5 : Option Value} {B newId initId : String}
theorem own_check_new (F : ExcBaseFacts B newId initId bmB) (hcont : (Value.ref C :: bm).contains (.type B) = true) {rest : List Value} {Q : Unit → Shared → Prop} (hC : h.get? C = some (excClassObj nm q C N bs bm hdct sn sub ab col dd k0 k1 k2 k3 k5 newId))
    (hq : Q () ⟨h, g, d, t, os⟩) : wpAny M A (checkBuiltinCall newId ⟨.ref C :: rest, []⟩) Q E ⟨h, g, d, t, os⟩ := by
  have hstar := F.noStar
  simp only [checkBuiltinCall, F.newKind, F.newSplit, F.newRow]
  repeat (first | refine wpAny_loadPart_at hC ?_ | (refine wpAny_isSubtype_exc hC ?_; rw [hcont]) | refine wpAny_staticBase_exc hC ?_ | refine wpAny_madeBy_exc hC ?_ | simp only [bne_self_eq_false, Bool.false_eq_true, if_false] | wp_step)
  exact hq
end
section
variable {prog : Program} {w : World} {A : Around} {R : Result → Shared → Prop} {E : Value → Shared → Prop} {h : Heap} {g : Array GenState} {d : Drawn} {t : Nat} {os : OsState}
variable {nm q : Str} {C N : Addr} {bs bm bmB : List Value} {hdct : Bool} {sn : List Str} {sub : List Value} {ab : Bool} {col : Option Bool} {dd : Option Addr} {k0 k1 k2 k3 k5 : Option Value} {B newId initId : String}
theorem own_new (F : ExcBaseFacts B newId initId bmB) (hcB : (Value.ref C :: bm).contains (.type B) = true) (hcA : (Value.ref C :: bm).contains (.type "AttributeError") = false) (hcN : (Value.ref C :: bm).contains (.type "NameError") = false) {rest : List Value}
    (hC : h.get? C = some (excClassObj nm q C N bs bm hdct sn sub ab col dd k0 k1 k2 k3 k5 newId))
    (hq : R (.ok (.ret (.ref (h.objs.size + 1)))) ⟨(h.push { cls := .type "tuple", data := .seq rest.toArray }).push
      { cls := .ref C, data := .fields #[.ref h.objs.size, .none, .none, .none, .bool false, .none] }, g, d, t, os⟩) (hrest : rest.length ≤ sizeLine) :
    codeAny (model prog w) A (.builtin newId ⟨.ref C :: rest, []⟩) R ⟨h, g, d, t, os⟩ := by
  have hends := F.ends
  refine codeAny_builtinAt F.entry ?_
  unfold Builtin.«BaseException.__new__»
  refine wpAt_bind ?_
  show wpAt _ _ _ (stack >>= _) _ _ _
  refine wpAt_bind (wpAt_stack fun p below => wpAt_of_wpAny ?_)
  wp_walk
  refine wpAt_of_wpAny ?_
  rw [F.owner]
  repeat (first | with_reducible refine wpAny_madeHere_exc F.canon hC ?_ | with_reducible refine wpAny_loadPart_at hC ?_ | (with_reducible refine wpAny_isSubtype_exc hC ?_; first | rw [hcB] | rw [hcA] | rw [hcN]) | wp_step)
  show R _ _
  rw [Heap.size_push]
  exact hq
theorem own_type_call (F : ExcBaseFacts B newId initId bmB) (hcB : (Value.ref C :: bm).contains (.type B) = true) (hcA : (Value.ref C :: bm).contains (.type "AttributeError") = false) (hcN : (Value.ref C :: bm).contains (.type "NameError") = false)
    {rest : List Value} {fI : Addr} {oI : Obj} {Q : Fin → Shared → Prop}
    (hC : h.get? C = some (excClassObj nm q C N bs bm hdct sn sub ab col dd k0 k1 k2 k3 k5 newId)) (hi : Looks (model prog w) h (typeLookup (.ref C) "__init__") (some (.ref fI)))
    (hfI : h.get? fI = some oI) (hfc : oI.cls = .type "function")
    (hq : ∀ h' e, Heap.MadeExcOf h h' e (.ref C) rest →
      wpAny (model prog w) A (call (.ref fI) (.ref e :: rest)) (fun r s' => r = .none ∧ Q (.done (.ret (.ref e))) s') E ⟨h', g, d, t, os⟩) (hrest : rest.length ≤ sizeLine) :
    wpAny (model prog w) A (Builtin.«type.__call__» ⟨.ref C :: rest, []⟩) Q E ⟨h, g, d, t, os⟩ := by
  repeat (first | with_reducible refine wpAny_loadPart_at hC ?_ | with_reducible refine wpAny_madeBy_exc hC ?_ | wp_step)
  refine codeAny_call_builtin_code (Code.quiet_builtin _ F.quiet) (own_check_new F hcB hC ?_)
  refine own_new F hcB hcA hcN hC ?_ hrest
  show wpAny _ _ _ _ _ _
  have up : ∀ b o, h.get? b = some o → ((h.push { cls := .type "tuple", data := .seq rest.toArray }).push { cls := .ref C, data := .fields #[.ref h.objs.size, .none, .none, .none, .bool false, .none] }).get? b = some o :=
    fun b o e => Heap.get?_push_of_some _ (Heap.get?_push_of_some _ e)
  have hC₁ := up _ _ hC
  have hfI₁ := up _ _ hfI
  have hget : ((h.push { cls := .type "tuple", data := .seq rest.toArray }).push
      { cls := .ref C, data := .fields #[.ref h.objs.size, .none, .none, .none, .bool false, .none] }).get? (h.objs.size + 1) = some
      { cls := .ref C, data := .fields #[.ref h.objs.size, .none, .none, .none, .bool false, .none] } := by heap_get
  have hcC : (Value.ref C :: bm).contains (.ref C) = true := by simp
  unfold isInstance
  repeat (first | with_reducible refine wpAny_loadPart_at hget ?_ | (with_reducible refine wpAny_isSubtype_exc hC₁ ?_; rw [hcC]) | wp_step)
  show wpAny _ _ (typeLookup (.ref C) _) _ _ _
  refine (hi.keeps up).here ?_
  refine wpAny_holding (wpAny_bind ?_)
  unfold bindSpecial
  refine wpAny_bind (wpAny_typeOf (T := "function") ⟨_, hfI₁, hfc⟩ ?_)
  rw [if_pos (by decide)]
  refine wpAny_pure (wpAny_bind (wpAny_mono (hq _ (h.objs.size + 1) ⟨up, Heap.get?_none_of_le (Nat.le_succ _), h.objs.size, hget, Heap.get?_none_of_le (Nat.le_refl _), ?_⟩) (fun r s' hr => ?_) fun _ _ x => x))
  · exact Heap.get?_push_of_some _ (Heap.get?_push_at rfl rfl)
  · obtain ⟨rfl, hQ⟩ := hr
    wp_walk
    exact hQ
theorem own_call (F : ExcBaseFacts B newId initId bmB) (hcB : (Value.ref C :: bm).contains (.type B) = true) (hcA : (Value.ref C :: bm).contains (.type "AttributeError") = false) (hcN : (Value.ref C :: bm).contains (.type "NameError") = false)
    {rest : List Value} {fI : Addr} {oI : Obj} {Q : Value → Shared → Prop}
    (hC : h.get? C = some (excClassObj nm q C N bs bm hdct sn sub ab col dd k0 k1 k2 k3 k5 newId)) (hi : Looks (model prog w) h (typeLookup (.ref C) "__init__") (some (.ref fI)))
    (hfI : h.get? fI = some oI) (hfc : oI.cls = .type "function")
    (hq : ∀ h' e, Heap.MadeExcOf h h' e (.ref C) rest →
      wpAny (model prog w) (A.under (.builtin "type.__call__" ⟨.ref C :: rest, []⟩)) (call (.ref fI) (.ref e :: rest)) (fun r s' => r = .none ∧ Q (.ref e) s') E ⟨h', g, d, t, os⟩) (hrest : rest.length ≤ sizeLine) :
    wpAny (model prog w) A (call (.ref C) rest) Q E ⟨h, g, d, t, os⟩ := by
  have f1 := tc_lookup
  have f2 := tc_bind (.ref C)
  have hT : (⟨h, g, d, t, os⟩ : Shared).TypeIs (.ref C) "type" := ⟨_, hC, rfl⟩
  refine wpAny_call (codeAny_of_tree ?_)
  show wpAny _ _ (callAny (.ref C) _) _ _ _
  repeat (any_goals (first | assumption | with_reducible refine wpAny_loadPart_at hC ?_ | wp_step))
  refine ⟨rfl, ?_⟩
  refine codeAny_call_builtin_at (Code.quiet_builtin _ (by decide +kernel)) entry_typeCall (wpAny_check_type_call_sub hC (own_type_call F hcB hcA hcN hC hi hfI hfc (fun h' e hm => ?_) hrest))
  exact hq h' e hm
end
end Mine
end
section
set_option Elab.async false
open PySem PySem.W PySem.Builtin PySem.Builtin.ObjectAttr
namespace Mine
section
variable {prog : Program} {w : World} {A : Around} {R : Result → Shared → Prop} {E : Value → Shared → Prop} {h : Heap} {g : Array GenState} {d : Drawn} {t : Nat} {os : OsState}
variable {nm q : Str} {C P N x : Addr} {bs bm bmB : List Value} {sn : List Str} {sub : List Value} {ab : Bool} {col : Option Bool} {dd : Option Addr} {k0 k1 k2 k3 k5 : Option Value} {B newId initId sa owner : String} {name : Str} {v : Value}
theorem own_check_sa {M : Model} {o : Obj} {nameV : Value} {Q : Unit → Shared → Prop} (SF : StoreFacts B bmB sa owner) (hcB : (Value.ref C :: bm).contains (.type owner) = true)
    (hC : h.get? C = some (excClassObj nm q C N bs bm true sn sub ab col dd k0 k1 k2 k3 k5 newId)) (hx : h.get? x = some o) (hc : o.cls = .ref C) (hq : Q () ⟨h, g, d, t, os⟩) :
    wpAny M A (checkBuiltinCall sa ⟨[.ref x, nameV, v], []⟩) Q E ⟨h, g, d, t, os⟩ := by
  have ha := SF.args (.ref x) nameV v
  simp only [checkBuiltinCall, SF.kind, SF.split]
  refine wpAny_bind ?_
  · unfold isInstance
    repeat (first | (with_reducible refine wpAny_loadPart_at hx ?_; rw [hc]) | (with_reducible refine wpAny_isSubtype_exc hC ?_; rw [hcB]) | wp_step)
    cases hsig : Manifest.signature? sa with
    | none => exact wpAny_pure hq
    | some sig =>
      simp only [argsOk, hsig] at ha
      have h2 : Bind.checkArgs sa sig ⟨[.ref x, nameV, v], []⟩ = pure () := ha
      show wpAny M A (Bind.checkArgs sa sig ⟨[.ref x, nameV, v], []⟩) Q E _
      rw [h2]; exact wpAny_pure hq
theorem own_store_entry {tk : PySem.Tok} {Q : Fin → Shared → Prop} {o : Obj} (SF : StoreFacts B bmB sa owner)
    (hC : h.get? C = some (excClassObj nm q C N bs (.ref P :: bmB) true sn sub ab col dd k0 k1 k2 k3 k5 newId)) (ht : Looks (model prog w) h (typeLookup (.ref C) name) none)
    (hx : h.get? x = some o) (hc : o.cls = .ref C) (hnc : ∀ c, o.data ≠ .cls c) (hdn : o.dict = none)
    (hq : ∀ h' tk' D, h'.get? x = some { cls := o.cls, dict := some D, data := o.data, slots := o.slots } → (∀ b o, b ≠ x → h.get? b = some o → h'.get? b = some o) → Q (.done (.ret .none)) ⟨h', g, d, tk', os⟩) :
    wpAny (model prog w) A (Builtin.«object.__setattr__» ⟨[.ref x, .str name tk, v], []⟩) Q E ⟨h, g, d, t, os⟩ := by
  have hpass := SF.passes (.ref x)
  unfold Builtin.«object.__setattr__»
  repeat (first | rw [refuse_eq] | (rw [refuseLoop_ref, refuseLoop_ref, hpass]) | (with_reducible refine wpAny_loadPart_at hx ?_; rw [hc]) | with_reducible refine wpAny_mroOf_exc hC ?_ | with_reducible refine Looks.at ht ?_ | wp_step)
  rw [hdn, if_neg (by simp [typeHasDict])]
  split
  · rename_i hcd
    cases hcd
  split
  · rename_i c hcd
    exact absurd hcd (hnc c)
  · have hx₁ : (h.push { cls := .type "dict", data := .dict #[] }).get? x = some o := Heap.get?_push_of_some _ hx
    have hxs : x ≠ h.objs.size := Nat.ne_of_lt (Heap.lt_size hx)
    refine wpAny_bind (wpAny_alloc' ?_)
    refine wpAny_bind (wpAny_update' hx₁ ?_)
    refine wpAny_pure ?_
    have hgd : ((h.push { cls := .type "dict", data := .dict #[] }).update x fun o => { cls := o.cls, dict := some h.objs.size, data := o.data, slots := o.slots }).get? h.objs.size
        = some { cls := .type "dict", data := .dict #[] } :=
      (Heap.get?_update_ne _ _ _ _ hxs.symm).trans (Heap.get?_push_at rfl rfl)
    have hnd : ((h.push { cls := .type "dict", data := .dict #[] }).update x fun o => { cls := o.cls, dict := some h.objs.size, data := o.data, slots := o.slots }).Ns h.objs.size (fun _ => none) :=
      ⟨_, #[], _, hgd, rfl, fun e he => absurd he (by simp), fun _ => rfl⟩
    show wpAny _ _ (storeInDict h.objs.size (.str name tk) name v) _ _ _
    unfold storeInDict newKeyGuard
    refine wpAny_bind (wpAny_pure (wpAny_bind (wpAny_nsSet1 (Heap.Ns1.of_empty hnd) fun h' hn' hs => ?_)))
    obtain ⟨oD, esD, epD, hoD, hdD, hcD⟩ := hn'.count (Within.cons name v Within.nil)
    refine wpAny_bind (wpAny_lookBehind hoD (by rw [hdD]; exact pastItsLine_dict (Nat.le_trans hcD (by rw [List.length_cons, List.length_nil, sizeLine_eq]; omega))) ?_)
    wp_walk
    refine hq h' _ h.objs.size ?_ (fun b ob hbx hb => ?_)
    · refine (hs.2 x hxs).trans (Heap.get?_update_self _ hx₁ ?_)
      have hfr := (Heap.get?_some_iff.mp hx).2
      obtain ⟨oc, od, odt, osl⟩ := o
      cases odt <;> first | rfl | exact hfr
    · exact (hs.2 b (Nat.ne_of_lt (Heap.lt_size hb))).trans ((Heap.get?_update_ne _ _ _ _ hbx).trans (Heap.get?_push_of_some _ hb))
theorem own_store_call {tk : PySem.Tok} {o : Obj} (SF : StoreFacts B bmB sa owner) (hcB : (Value.ref C :: .ref P :: bmB).contains (.type owner) = true)
    (hC : h.get? C = some (excClassObj nm q C N bs (.ref P :: bmB) true sn sub ab col dd k0 k1 k2 k3 k5 newId)) (ht : Looks (model prog w) h (typeLookup (.ref C) name) none)
    (hx : h.get? x = some o) (hc : o.cls = .ref C) (hnc : ∀ c, o.data ≠ .cls c) (hdn : o.dict = none)
    (hq : ∀ h' tk' D, h'.get? x = some { cls := o.cls, dict := some D, data := o.data, slots := o.slots } → (∀ b o, b ≠ x → h.get? b = some o → h'.get? b = some o) → R (.ok (.ret .none)) ⟨h', g, d, tk', os⟩) :
    codeAny (model prog w) A (.call (.builtin sa) ⟨[.ref x, .str name tk, v], []⟩) R ⟨h, g, d, t, os⟩ :=
  codeAny_call_builtin SF.slot.plain SF.entry (own_check_sa SF hcB hC hx hc (own_store_entry SF hC ht hx hc hnc hdn hq))
theorem looks_type {M : Model} {h : Heap} {x : Addr} {o : Obj} (hx : h.get? x = some o) : Looks M h (typeOf (.ref x)) o.cls :=
  (Looks.ld (M := M) (part := none) hx).andThen .now
theorem own_store {Q : Unit → Shared → Prop} {o : Obj} (SF : StoreFacts B bmB "object.__setattr__" owner) (hcB : (Value.ref C :: .ref P :: bmB).contains (.type owner) = true)
    (hC : h.get? C = some (excClassObj nm q C N bs (.ref P :: bmB) true sn sub ab col dd k0 k1 k2 k3 k5 newId)) (hl : Looks (model prog w) h (typeLookup (.ref C) "__setattr__") (some (.builtin "object.__setattr__"))) (ht : Looks (model prog w) h (typeLookup (.ref C) name) none)
    (hx : h.get? x = some o) (hc : o.cls = .ref C) (hnc : ∀ c, o.data ≠ .cls c) (hdn : o.dict = none)
    (hq : ∀ h' tk' D, h'.get? x = some { cls := o.cls, dict := some D, data := o.data, slots := o.slots } → (∀ b o, b ≠ x → h.get? b = some o → h'.get? b = some o) → Q () ⟨h', g, d, tk', os⟩) :
    wpAny (model prog w) A (setAttr (.ref x) name v) Q E ⟨h, g, d, t, os⟩ := by
  have T := looks_type (M := model prog w) hx
  rw [hc] at T
  refine wpAny_bind (wpAny_mkText (wpAny_bind (wpAny_bind (wpAny_bind (T.at (hl.at (wpAny_holding ?_)))))))
  rw [SF.slot.bind]
  refine wpAny_bind (wpAny_pure (wpAny_bind (wpAny_call ?_)))
  refine own_store_call SF hcB hC ht hx hc hnc hdn fun h' tk' D k1 k2 => ?_
  exact wpAny_pure (wpAny_pure (hq h' tk' D k1 k2))
end
end Mine
end
section
set_option Elab.async false
open PySem PySem.W PySem.Builtin PySem.Builtin.ObjectAttr
namespace Mine
section
variable {prog : Program} {w : World} {A : Around} {R : Result → Shared → Prop} {E : Value → Shared → Prop} {h : Heap} {g : Array GenState} {d : Drawn} {t : Nat} {os : OsState}
variable {nm q : Str} {C N e : Addr} {bs bm bmB : List Value} {hdct : Bool} {sn : List Str} {sub : List Value} {ab : Bool} {col : Option Bool} {dd : Option Addr} {k0 k1 k2 k3 k5 : Option Value} {B newId initId : String}
theorem own_check_init (F : ExcBaseFacts B newId initId bmB) (hcB : (Value.ref C :: bm).contains (.type B) = true) {M : Model} {oe : Obj} {rest : List Value} {Q : Unit → Shared → Prop}
    (hC : h.get? C = some (excClassObj nm q C N bs bm hdct sn sub ab col dd k0 k1 k2 k3 k5 newId)) (he : h.get? e = some oe) (hcls : oe.cls = .ref C) (hq : Q () ⟨h, g, d, t, os⟩) :
    wpAny M A (checkBuiltinCall initId ⟨.ref e :: rest, []⟩) Q E ⟨h, g, d, t, os⟩ := by
  have hshort := F.noStar
  simp only [checkBuiltinCall, F.initKind, F.initSplit, F.initRow]
  repeat (first | (with_reducible refine wpAny_loadPart_at he ?_; rw [hcls]) | with_reducible refine wpAny_loadPart_at hC ?_ | (with_reducible refine wpAny_isSubtype_exc hC ?_; rw [hcB]) | wp_step)
  refine wpAny_onRaise ?_
  rw [show ∀ (a b : String) (n : Nat), Bind.check ⟨.positional, "*", B, .self, [⟨"args", .varPos, false⟩]⟩ a b n (List.map (fun x => x.fst) ({ pos := Value.ref e :: rest } : Args).kw) = pure () from
    fun a b n => check_star_args _ _ _ _ _ _]
  exact wpAny_pure hq
theorem own_exc_init (F : ExcBaseFacts B newId initId bmB) (hcB : (Value.ref C :: bm).contains (.type B) = true) {rest : List Value} {t0 : Addr}
    (hC : h.get? C = some (excClassObj nm q C N bs bm hdct sn sub ab col dd k0 k1 k2 k3 k5 newId)) (he : h.get? e = some { cls := .ref C, data := .fields #[.ref t0, .none, .none, .none, .bool false, .none] }) (hrest : rest.length ≤ sizeLine)
    (hq : ∀ h', h'.get? e = some { cls := .ref C, data := .fields #[.ref h.objs.size, .none, .none, .none, .bool false, .none] } → (∀ b o, b ≠ e → h.get? b = some o → h'.get? b = some o) → R (.ok (.ret .none)) ⟨h', g, d, t, os⟩) :
    codeAny (model prog w) A (.call (.builtin initId) ⟨.ref e :: rest, []⟩) R ⟨h, g, d, t, os⟩ := by
  refine codeAny_call_builtin F.init.plain F.initEntry (own_check_init F hcB hC he rfl ?_)
  wp_walk
  refine hq _ ?_ ?_
  · rw [Heap.get?_update_self _ (Heap.get?_push_of_some _ he) rfl]
    rfl
  · intro b o hb hbo
    rw [Heap.get?_update_other _ _ (Ne.symm hb)]
    exact Heap.get?_push_of_some _ hbo
end
end Mine
end
section
set_option Elab.async false
open PySem PySem.Calls PySem.Spec PySem.W PyProof.Rows
namespace Mine
def keepL : List Nat := [1, 2, 3, 5, 6, 7, 8, 9, 10, 12, 13, 14, 15, 16, 17, 18, 19, 20, 21, 22, 23, 24, 25, 26, 27, 28, 29, 30, 31, 32, 33, 34, 35, 36, 37, 38, 39, 41, 42, 43, 44, 45, 46, 47, 48, 49, 50, 51, 52, 53, 54, 55, 56, 57, 59, 61, 62, 63, 64, 65, 66, 68, 69, 70]
def vw : Program := PySem.W.view PySem.Challenge.pw_pq0358_01 keepL
def stAt (i : Nat) : Stmt := (PySem.Challenge.pw_pq0358_01.main.body)[i]?.getD (.Pass default)
def recOf (st : Stmt) : DefRec := match st with
  | .FunctionDef name a b _ _ _ sc _ _ pos => ⟨name, a, b, sc, pos⟩
  | _ => ⟨Str.empty, default, [], default, default⟩
def recL : List DefRec := ([5, 6, 7, 8, 9, 10, 21, 22, 23, 24, 25, 26, 27, 28, 29, 30, 31, 32, 33, 34, 35, 36, 37, 38, 39, 48, 49, 50, 51, 52, 53, 54, 55, 56, 57, 59, 61, 62, 63, 64, 65, 66, 68, 69, 70] : List Nat).map fun i => recOf (stAt i)
theorem recs_eq : recsOf vw = recL := by kernel_rfl
/-- a global name of the built-ins, and what the calls rest on -/
structure Names (c : Cx) : Prop where
  p : c.p = vw
  lone : c.lone = false
  len : GB c "len" (.builtin "len")
  rng : GB c "range" (.type "range")
  mx : GB c "max" (.builtin "max")
  str : GB c "str" (.type "str")
  int : GB c "int" (.type "int")
  prio1 : TabNo c "PRIORITIES" ")"
  prio2 : TabNo c "PRIORITIES" ","
  raiseS : ∀ {d : Nat} {sc : Scope} {σ : St} {msg : Str} {k : Nat} {np kp cp pos : Pos}, 4 ≤ d → sc.names.lookup ("SyntaxFault" : Str) = some .globalImplicit → SemS c d sc σ (.Raise (some (.Call (.Name "SyntaxFault" np) [.Constant (.str msg) k kp] [] cp)) none pos) .exn σ
variable {c : Cx} {d : Nat}
def r_kind_at : DefRec := recOf (stAt 5)
theorem f_kind_at : (recsOf vw).find? (fun e => e.name == ("kind_at" : Str)) = some r_kind_at := by rw [recs_eq]; kernel_rfl
theorem find_kind_at (g : Names c) : (recsOf c.p).find? (fun e => e.name == ("kind_at" : Str)) = some r_kind_at := g.p ▸ f_kind_at
theorem pl_kind_at : Plainly r_kind_at ["tokens", "at"] where
  binds := by
    intro vs pm cd doc h
    match vs, h with
    | [a0, a1], _ => rfl
  nodup := by decide
  loc := by
    intro x hx
    have : (["tokens", "at"] : List Str).all (fun x => decide (r_kind_at.scope.names.lookup x = some .local)) = true := by decide +kernel
    exact of_decide_eq_true (List.all_eq_true.mp this x hx)
  co := rfl
  gen := rfl
  kind := rfl
  cell := by decide +kernel
def r_is_op : DefRec := recOf (stAt 6)
theorem f_is_op : (recsOf vw).find? (fun e => e.name == ("is_op" : Str)) = some r_is_op := by rw [recs_eq]; kernel_rfl
theorem find_is_op (g : Names c) : (recsOf c.p).find? (fun e => e.name == ("is_op" : Str)) = some r_is_op := g.p ▸ f_is_op
theorem pl_is_op : Plainly r_is_op ["tokens", "at", "text"] where
  binds := by
    intro vs pm cd doc h
    match vs, h with
    | [a0, a1, a2], _ => rfl
  nodup := by decide
  loc := by
    intro x hx
    have : (["tokens", "at", "text"] : List Str).all (fun x => decide (r_is_op.scope.names.lookup x = some .local)) = true := by decide +kernel
    exact of_decide_eq_true (List.all_eq_true.mp this x hx)
  co := rfl
  gen := rfl
  kind := rfl
  cell := by decide +kernel
def r_need_op : DefRec := recOf (stAt 7)
theorem f_need_op : (recsOf vw).find? (fun e => e.name == ("need_op" : Str)) = some r_need_op := by rw [recs_eq]; kernel_rfl
theorem find_need_op (g : Names c) : (recsOf c.p).find? (fun e => e.name == ("need_op" : Str)) = some r_need_op := g.p ▸ f_need_op
theorem pl_need_op : Plainly r_need_op ["tokens", "at", "text"] where
  binds := by
    intro vs pm cd doc h
    match vs, h with
    | [a0, a1, a2], _ => rfl
  nodup := by decide
  loc := by
    intro x hx
    have : (["tokens", "at", "text"] : List Str).all (fun x => decide (r_need_op.scope.names.lookup x = some .local)) = true := by decide +kernel
    exact of_decide_eq_true (List.all_eq_true.mp this x hx)
  co := rfl
  gen := rfl
  kind := rfl
  cell := by decide +kernel
def r_need_name : DefRec := recOf (stAt 8)
theorem f_need_name : (recsOf vw).find? (fun e => e.name == ("need_name" : Str)) = some r_need_name := by rw [recs_eq]; kernel_rfl
theorem find_need_name (g : Names c) : (recsOf c.p).find? (fun e => e.name == ("need_name" : Str)) = some r_need_name := g.p ▸ f_need_name
theorem pl_need_name : Plainly r_need_name ["tokens", "at"] where
  binds := by
    intro vs pm cd doc h
    match vs, h with
    | [a0, a1], _ => rfl
  nodup := by decide
  loc := by
    intro x hx
    have : (["tokens", "at"] : List Str).all (fun x => decide (r_need_name.scope.names.lookup x = some .local)) = true := by decide +kernel
    exact of_decide_eq_true (List.all_eq_true.mp this x hx)
  co := rfl
  gen := rfl
  kind := rfl
  cell := by decide +kernel
def r_close_at : DefRec := recOf (stAt 10)
theorem f_close_at : (recsOf vw).find? (fun e => e.name == ("close_at" : Str)) = some r_close_at := by rw [recs_eq]; kernel_rfl
theorem find_close_at (g : Names c) : (recsOf c.p).find? (fun e => e.name == ("close_at" : Str)) = some r_close_at := g.p ▸ f_close_at
theorem pl_close_at : Plainly r_close_at ["tokens", "at"] where
  binds := by
    intro vs pm cd doc h
    match vs, h with
    | [a0, a1], _ => rfl
  nodup := by decide
  loc := by
    intro x hx
    have : (["tokens", "at"] : List Str).all (fun x => decide (r_close_at.scope.names.lookup x = some .local)) = true := by decide +kernel
    exact of_decide_eq_true (List.all_eq_true.mp this x hx)
  co := rfl
  gen := rfl
  kind := rfl
  cell := by decide +kernel
def r_priority_at : DefRec := recOf (stAt 21)
theorem f_priority_at : (recsOf vw).find? (fun e => e.name == ("priority_at" : Str)) = some r_priority_at := by rw [recs_eq]; kernel_rfl
theorem find_priority_at (g : Names c) : (recsOf c.p).find? (fun e => e.name == ("priority_at" : Str)) = some r_priority_at := g.p ▸ f_priority_at
theorem pl_priority_at : Plainly r_priority_at ["tokens", "at"] where
  binds := by
    intro vs pm cd doc h
    match vs, h with
    | [a0, a1], _ => rfl
  nodup := by decide
  loc := by
    intro x hx
    have : (["tokens", "at"] : List Str).all (fun x => decide (r_priority_at.scope.names.lookup x = some .local)) = true := by decide +kernel
    exact of_decide_eq_true (List.all_eq_true.mp this x hx)
  co := rfl
  gen := rfl
  kind := rfl
  cell := by decide +kernel
def r_higher : DefRec := recOf (stAt 22)
theorem f_higher : (recsOf vw).find? (fun e => e.name == ("higher" : Str)) = some r_higher := by rw [recs_eq]; kernel_rfl
theorem find_higher (g : Names c) : (recsOf c.p).find? (fun e => e.name == ("higher" : Str)) = some r_higher := g.p ▸ f_higher
theorem pl_higher : Plainly r_higher ["height"] where
  binds := by
    intro vs pm cd doc h
    match vs, h with
    | [a0], _ => rfl
  nodup := by decide
  loc := by
    intro x hx
    have : (["height"] : List Str).all (fun x => decide (r_higher.scope.names.lookup x = some .local)) = true := by decide +kernel
    exact of_decide_eq_true (List.all_eq_true.mp this x hx)
  co := rfl
  gen := rfl
  kind := rfl
  cell := by decide +kernel
def r_deeper : DefRec := recOf (stAt 23)
theorem f_deeper : (recsOf vw).find? (fun e => e.name == ("deeper" : Str)) = some r_deeper := by rw [recs_eq]; kernel_rfl
theorem find_deeper (g : Names c) : (recsOf c.p).find? (fun e => e.name == ("deeper" : Str)) = some r_deeper := g.p ▸ f_deeper
theorem pl_deeper : Plainly r_deeper ["deep"] where
  binds := by
    intro vs pm cd doc h
    match vs, h with
    | [a0], _ => rfl
  nodup := by decide
  loc := by
    intro x hx
    have : (["deep"] : List Str).all (fun x => decide (r_deeper.scope.names.lookup x = some .local)) = true := by decide +kernel
    exact of_decide_eq_true (List.all_eq_true.mp this x hx)
  co := rfl
  gen := rfl
  kind := rfl
  cell := by decide +kernel
def r_parse_expr : DefRec := recOf (stAt 24)
theorem f_parse_expr : (recsOf vw).find? (fun e => e.name == ("parse_expr" : Str)) = some r_parse_expr := by rw [recs_eq]; kernel_rfl
theorem find_parse_expr (g : Names c) : (recsOf c.p).find? (fun e => e.name == ("parse_expr" : Str)) = some r_parse_expr := g.p ▸ f_parse_expr
theorem pl_parse_expr : Plainly r_parse_expr ["tokens", "at"] where
  binds := by
    intro vs pm cd doc h
    match vs, h with
    | [a0, a1], _ => rfl
  nodup := by decide
  loc := by
    intro x hx
    have : (["tokens", "at"] : List Str).all (fun x => decide (r_parse_expr.scope.names.lookup x = some .local)) = true := by decide +kernel
    exact of_decide_eq_true (List.all_eq_true.mp this x hx)
  co := rfl
  gen := rfl
  kind := rfl
  cell := by decide +kernel
def r_read_binary : DefRec := recOf (stAt 25)
theorem f_read_binary : (recsOf vw).find? (fun e => e.name == ("read_binary" : Str)) = some r_read_binary := by rw [recs_eq]; kernel_rfl
theorem find_read_binary (g : Names c) : (recsOf c.p).find? (fun e => e.name == ("read_binary" : Str)) = some r_read_binary := g.p ▸ f_read_binary
theorem pl_read_binary : Plainly r_read_binary ["tokens", "at", "least", "deep"] where
  binds := by
    intro vs pm cd doc h
    match vs, h with
    | [a0, a1, a2, a3], _ => rfl
  nodup := by decide
  loc := by
    intro x hx
    have : (["tokens", "at", "least", "deep"] : List Str).all (fun x => decide (r_read_binary.scope.names.lookup x = some .local)) = true := by decide +kernel
    exact of_decide_eq_true (List.all_eq_true.mp this x hx)
  co := rfl
  gen := rfl
  kind := rfl
  cell := by decide +kernel
def r_read_first : DefRec := recOf (stAt 26)
theorem f_read_first : (recsOf vw).find? (fun e => e.name == ("read_first" : Str)) = some r_read_first := by rw [recs_eq]; kernel_rfl
theorem find_read_first (g : Names c) : (recsOf c.p).find? (fun e => e.name == ("read_first" : Str)) = some r_read_first := g.p ▸ f_read_first
theorem pl_read_first : Plainly r_read_first ["tokens", "at", "least", "deep"] where
  binds := by
    intro vs pm cd doc h
    match vs, h with
    | [a0, a1, a2, a3], _ => rfl
  nodup := by decide
  loc := by
    intro x hx
    have : (["tokens", "at", "least", "deep"] : List Str).all (fun x => decide (r_read_first.scope.names.lookup x = some .local)) = true := by decide +kernel
    exact of_decide_eq_true (List.all_eq_true.mp this x hx)
  co := rfl
  gen := rfl
  kind := rfl
  cell := by decide +kernel
def r_read_primary : DefRec := recOf (stAt 27)
theorem f_read_primary : (recsOf vw).find? (fun e => e.name == ("read_primary" : Str)) = some r_read_primary := by rw [recs_eq]; kernel_rfl
theorem find_read_primary (g : Names c) : (recsOf c.p).find? (fun e => e.name == ("read_primary" : Str)) = some r_read_primary := g.p ▸ f_read_primary
theorem pl_read_primary : Plainly r_read_primary ["tokens", "at", "deep"] where
  binds := by
    intro vs pm cd doc h
    match vs, h with
    | [a0, a1, a2], _ => rfl
  nodup := by decide
  loc := by
    intro x hx
    have : (["tokens", "at", "deep"] : List Str).all (fun x => decide (r_read_primary.scope.names.lookup x = some .local)) = true := by decide +kernel
    exact of_decide_eq_true (List.all_eq_true.mp this x hx)
  co := rfl
  gen := rfl
  kind := rfl
  cell := by decide +kernel
def r_constant_of : DefRec := recOf (stAt 28)
theorem f_constant_of : (recsOf vw).find? (fun e => e.name == ("constant_of" : Str)) = some r_constant_of := by rw [recs_eq]; kernel_rfl
theorem find_constant_of (g : Names c) : (recsOf c.p).find? (fun e => e.name == ("constant_of" : Str)) = some r_constant_of := g.p ▸ f_constant_of
theorem pl_constant_of : Plainly r_constant_of ["kind", "value", "sign"] where
  binds := by
    intro vs pm cd doc h
    match vs, h with
    | [a0, a1, a2], _ => rfl
  nodup := by decide
  loc := by
    intro x hx
    have : (["kind", "value", "sign"] : List Str).all (fun x => decide (r_constant_of.scope.names.lookup x = some .local)) = true := by decide +kernel
    exact of_decide_eq_true (List.all_eq_true.mp this x hx)
  co := rfl
  gen := rfl
  kind := rfl
  cell := by decide +kernel
def r_part_end : DefRec := recOf (stAt 30)
theorem f_part_end : (recsOf vw).find? (fun e => e.name == ("part_end" : Str)) = some r_part_end := by rw [recs_eq]; kernel_rfl
theorem find_part_end (g : Names c) : (recsOf c.p).find? (fun e => e.name == ("part_end" : Str)) = some r_part_end := g.p ▸ f_part_end
theorem pl_part_end : Plainly r_part_end ["tokens", "at"] where
  binds := by
    intro vs pm cd doc h
    match vs, h with
    | [a0, a1], _ => rfl
  nodup := by decide
  loc := by
    intro x hx
    have : (["tokens", "at"] : List Str).all (fun x => decide (r_part_end.scope.names.lookup x = some .local)) = true := by decide +kernel
    exact of_decide_eq_true (List.all_eq_true.mp this x hx)
  co := rfl
  gen := rfl
  kind := rfl
  cell := by decide +kernel
def r_is_complex : DefRec := recOf (stAt 31)
theorem f_is_complex : (recsOf vw).find? (fun e => e.name == ("is_complex" : Str)) = some r_is_complex := by rw [recs_eq]; kernel_rfl
theorem find_is_complex (g : Names c) : (recsOf c.p).find? (fun e => e.name == ("is_complex" : Str)) = some r_is_complex := g.p ▸ f_is_complex
theorem pl_is_complex : Plainly r_is_complex ["tokens", "at"] where
  binds := by
    intro vs pm cd doc h
    match vs, h with
    | [a0, a1], _ => rfl
  nodup := by decide
  loc := by
    intro x hx
    have : (["tokens", "at"] : List Str).all (fun x => decide (r_is_complex.scope.names.lookup x = some .local)) = true := by decide +kernel
    exact of_decide_eq_true (List.all_eq_true.mp this x hx)
  co := rfl
  gen := rfl
  kind := rfl
  cell := by decide +kernel
def r_read_named : DefRec := recOf (stAt 33)
theorem f_read_named : (recsOf vw).find? (fun e => e.name == ("read_named" : Str)) = some r_read_named := by rw [recs_eq]; kernel_rfl
theorem find_read_named (g : Names c) : (recsOf c.p).find? (fun e => e.name == ("read_named" : Str)) = some r_read_named := g.p ▸ f_read_named
theorem pl_read_named : Plainly r_read_named ["tokens", "at", "deep"] where
  binds := by
    intro vs pm cd doc h
    match vs, h with
    | [a0, a1, a2], _ => rfl
  nodup := by decide
  loc := by
    intro x hx
    have : (["tokens", "at", "deep"] : List Str).all (fun x => decide (r_read_named.scope.names.lookup x = some .local)) = true := by decide +kernel
    exact of_decide_eq_true (List.all_eq_true.mp this x hx)
  co := rfl
  gen := rfl
  kind := rfl
  cell := by decide +kernel
def r_holds_mark : DefRec := recOf (stAt 34)
theorem f_holds_mark : (recsOf vw).find? (fun e => e.name == ("holds_mark" : Str)) = some r_holds_mark := by rw [recs_eq]; kernel_rfl
theorem find_holds_mark (g : Names c) : (recsOf c.p).find? (fun e => e.name == ("holds_mark" : Str)) = some r_holds_mark := g.p ▸ f_holds_mark
theorem pl_holds_mark : Plainly r_holds_mark ["tokens", "at", "mark"] where
  binds := by
    intro vs pm cd doc h
    match vs, h with
    | [a0, a1, a2], _ => rfl
  nodup := by decide
  loc := by
    intro x hx
    have : (["tokens", "at", "mark"] : List Str).all (fun x => decide (r_holds_mark.scope.names.lookup x = some .local)) = true := by decide +kernel
    exact of_decide_eq_true (List.all_eq_true.mp this x hx)
  co := rfl
  gen := rfl
  kind := rfl
  cell := by decide +kernel
def r_read_arguments : DefRec := recOf (stAt 36)
theorem f_read_arguments : (recsOf vw).find? (fun e => e.name == ("read_arguments" : Str)) = some r_read_arguments := by rw [recs_eq]; kernel_rfl
theorem find_read_arguments (g : Names c) : (recsOf c.p).find? (fun e => e.name == ("read_arguments" : Str)) = some r_read_arguments := g.p ▸ f_read_arguments
theorem pl_read_arguments : Plainly r_read_arguments ["tokens", "at", "may_return", "deep"] where
  binds := by
    intro vs pm cd doc h
    match vs, h with
    | [a0, a1, a2, a3], _ => rfl
  nodup := by decide
  loc := by
    intro x hx
    have : (["tokens", "at", "may_return", "deep"] : List Str).all (fun x => decide (r_read_arguments.scope.names.lookup x = some .local)) = true := by decide +kernel
    exact of_decide_eq_true (List.all_eq_true.mp this x hx)
  co := rfl
  gen := rfl
  kind := rfl
  cell := by decide +kernel
def r_parse_list : DefRec := recOf (stAt 37)
theorem f_parse_list : (recsOf vw).find? (fun e => e.name == ("parse_list" : Str)) = some r_parse_list := by rw [recs_eq]; kernel_rfl
theorem find_parse_list (g : Names c) : (recsOf c.p).find? (fun e => e.name == ("parse_list" : Str)) = some r_parse_list := g.p ▸ f_parse_list
theorem pl_parse_list : Plainly r_parse_list ["tokens", "at"] where
  binds := by
    intro vs pm cd doc h
    match vs, h with
    | [a0, a1], _ => rfl
  nodup := by decide
  loc := by
    intro x hx
    have : (["tokens", "at"] : List Str).all (fun x => decide (r_parse_list.scope.names.lookup x = some .local)) = true := by decide +kernel
    exact of_decide_eq_true (List.all_eq_true.mp this x hx)
  co := rfl
  gen := rfl
  kind := rfl
  cell := by decide +kernel
def r_parse_target : DefRec := recOf (stAt 38)
theorem f_parse_target : (recsOf vw).find? (fun e => e.name == ("parse_target" : Str)) = some r_parse_target := by rw [recs_eq]; kernel_rfl
theorem find_parse_target (g : Names c) : (recsOf c.p).find? (fun e => e.name == ("parse_target" : Str)) = some r_parse_target := g.p ▸ f_parse_target
theorem pl_parse_target : Plainly r_parse_target ["tokens", "at"] where
  binds := by
    intro vs pm cd doc h
    match vs, h with
    | [a0, a1], _ => rfl
  nodup := by decide
  loc := by
    intro x hx
    have : (["tokens", "at"] : List Str).all (fun x => decide (r_parse_target.scope.names.lookup x = some .local)) = true := by decide +kernel
    exact of_decide_eq_true (List.all_eq_true.mp this x hx)
  co := rfl
  gen := rfl
  kind := rfl
  cell := by decide +kernel
def r_parse_bounds : DefRec := recOf (stAt 39)
theorem f_parse_bounds : (recsOf vw).find? (fun e => e.name == ("parse_bounds" : Str)) = some r_parse_bounds := by rw [recs_eq]; kernel_rfl
theorem find_parse_bounds (g : Names c) : (recsOf c.p).find? (fun e => e.name == ("parse_bounds" : Str)) = some r_parse_bounds := g.p ▸ f_parse_bounds
theorem pl_parse_bounds : Plainly r_parse_bounds ["tokens", "at"] where
  binds := by
    intro vs pm cd doc h
    match vs, h with
    | [a0, a1], _ => rfl
  nodup := by decide
  loc := by
    intro x hx
    have : (["tokens", "at"] : List Str).all (fun x => decide (r_parse_bounds.scope.names.lookup x = some .local)) = true := by decide +kernel
    exact of_decide_eq_true (List.all_eq_true.mp this x hx)
  co := rfl
  gen := rfl
  kind := rfl
  cell := by decide +kernel
def r_run_of : DefRec := recOf (stAt 48)
theorem f_run_of : (recsOf vw).find? (fun e => e.name == ("run_of" : Str)) = some r_run_of := by rw [recs_eq]; kernel_rfl
theorem find_run_of (g : Names c) : (recsOf c.p).find? (fun e => e.name == ("run_of" : Str)) = some r_run_of := g.p ▸ f_run_of
theorem pl_run_of : Plainly r_run_of ["text", "at", "signs"] where
  binds := by
    intro vs pm cd doc h
    match vs, h with
    | [a0, a1, a2], _ => rfl
  nodup := by decide
  loc := by
    intro x hx
    have : (["text", "at", "signs"] : List Str).all (fun x => decide (r_run_of.scope.names.lookup x = some .local)) = true := by decide +kernel
    exact of_decide_eq_true (List.all_eq_true.mp this x hx)
  co := rfl
  gen := rfl
  kind := rfl
  cell := by decide +kernel
def r_dotted_at : DefRec := recOf (stAt 49)
theorem f_dotted_at : (recsOf vw).find? (fun e => e.name == ("dotted_at" : Str)) = some r_dotted_at := by rw [recs_eq]; kernel_rfl
theorem find_dotted_at (g : Names c) : (recsOf c.p).find? (fun e => e.name == ("dotted_at" : Str)) = some r_dotted_at := g.p ▸ f_dotted_at
theorem pl_dotted_at : Plainly r_dotted_at ["text", "at"] where
  binds := by
    intro vs pm cd doc h
    match vs, h with
    | [a0, a1], _ => rfl
  nodup := by decide
  loc := by
    intro x hx
    have : (["text", "at"] : List Str).all (fun x => decide (r_dotted_at.scope.names.lookup x = some .local)) = true := by decide +kernel
    exact of_decide_eq_true (List.all_eq_true.mp this x hx)
  co := rfl
  gen := rfl
  kind := rfl
  cell := by decide +kernel
def r_power_at : DefRec := recOf (stAt 51)
theorem f_power_at : (recsOf vw).find? (fun e => e.name == ("power_at" : Str)) = some r_power_at := by rw [recs_eq]; kernel_rfl
theorem find_power_at (g : Names c) : (recsOf c.p).find? (fun e => e.name == ("power_at" : Str)) = some r_power_at := g.p ▸ f_power_at
theorem pl_power_at : Plainly r_power_at ["text", "at"] where
  binds := by
    intro vs pm cd doc h
    match vs, h with
    | [a0, a1], _ => rfl
  nodup := by decide
  loc := by
    intro x hx
    have : (["text", "at"] : List Str).all (fun x => decide (r_power_at.scope.names.lookup x = some .local)) = true := by decide +kernel
    exact of_decide_eq_true (List.all_eq_true.mp this x hx)
  co := rfl
  gen := rfl
  kind := rfl
  cell := by decide +kernel
def r_number_at : DefRec := recOf (stAt 52)
theorem f_number_at : (recsOf vw).find? (fun e => e.name == ("number_at" : Str)) = some r_number_at := by rw [recs_eq]; kernel_rfl
theorem find_number_at (g : Names c) : (recsOf c.p).find? (fun e => e.name == ("number_at" : Str)) = some r_number_at := g.p ▸ f_number_at
theorem pl_number_at : Plainly r_number_at ["text", "at"] where
  binds := by
    intro vs pm cd doc h
    match vs, h with
    | [a0, a1], _ => rfl
  nodup := by decide
  loc := by
    intro x hx
    have : (["text", "at"] : List Str).all (fun x => decide (r_number_at.scope.names.lookup x = some .local)) = true := by decide +kernel
    exact of_decide_eq_true (List.all_eq_true.mp this x hx)
  co := rfl
  gen := rfl
  kind := rfl
  cell := by decide +kernel
def r_name_at : DefRec := recOf (stAt 54)
theorem f_name_at : (recsOf vw).find? (fun e => e.name == ("name_at" : Str)) = some r_name_at := by rw [recs_eq]; kernel_rfl
theorem find_name_at (g : Names c) : (recsOf c.p).find? (fun e => e.name == ("name_at" : Str)) = some r_name_at := g.p ▸ f_name_at
theorem pl_name_at : Plainly r_name_at ["text", "at"] where
  binds := by
    intro vs pm cd doc h
    match vs, h with
    | [a0, a1], _ => rfl
  nodup := by decide
  loc := by
    intro x hx
    have : (["text", "at"] : List Str).all (fun x => decide (r_name_at.scope.names.lookup x = some .local)) = true := by decide +kernel
    exact of_decide_eq_true (List.all_eq_true.mp this x hx)
  co := rfl
  gen := rfl
  kind := rfl
  cell := by decide +kernel
def r_token_at : DefRec := recOf (stAt 56)
theorem f_token_at : (recsOf vw).find? (fun e => e.name == ("token_at" : Str)) = some r_token_at := by rw [recs_eq]; kernel_rfl
theorem find_token_at (g : Names c) : (recsOf c.p).find? (fun e => e.name == ("token_at" : Str)) = some r_token_at := g.p ▸ f_token_at
theorem pl_token_at : Plainly r_token_at ["text", "at"] where
  binds := by
    intro vs pm cd doc h
    match vs, h with
    | [a0, a1], _ => rfl
  nodup := by decide
  loc := by
    intro x hx
    have : (["text", "at"] : List Str).all (fun x => decide (r_token_at.scope.names.lookup x = some .local)) = true := by decide +kernel
    exact of_decide_eq_true (List.all_eq_true.mp this x hx)
  co := rfl
  gen := rfl
  kind := rfl
  cell := by decide +kernel
def r_tokens_of : DefRec := recOf (stAt 57)
theorem f_tokens_of : (recsOf vw).find? (fun e => e.name == ("tokens_of" : Str)) = some r_tokens_of := by rw [recs_eq]; kernel_rfl
theorem find_tokens_of (g : Names c) : (recsOf c.p).find? (fun e => e.name == ("tokens_of" : Str)) = some r_tokens_of := g.p ▸ f_tokens_of
theorem pl_tokens_of : Plainly r_tokens_of ["squeezed"] where
  binds := by
    intro vs pm cd doc h
    match vs, h with
    | [a0], _ => rfl
  nodup := by decide
  loc := by
    intro x hx
    have : (["squeezed"] : List Str).all (fun x => decide (r_tokens_of.scope.names.lookup x = some .local)) = true := by decide +kernel
    exact of_decide_eq_true (List.all_eq_true.mp this x hx)
  co := rfl
  gen := rfl
  kind := rfl
  cell := by decide +kernel
def r_parse_place : DefRec := recOf (stAt 59)
theorem f_parse_place : (recsOf vw).find? (fun e => e.name == ("parse_place" : Str)) = some r_parse_place := by rw [recs_eq]; kernel_rfl
theorem find_parse_place (g : Names c) : (recsOf c.p).find? (fun e => e.name == ("parse_place" : Str)) = some r_parse_place := g.p ▸ f_parse_place
theorem pl_parse_place : Plainly r_parse_place ["tokens", "at"] where
  binds := by
    intro vs pm cd doc h
    match vs, h with
    | [a0, a1], _ => rfl
  nodup := by decide
  loc := by
    intro x hx
    have : (["tokens", "at"] : List Str).all (fun x => decide (r_parse_place.scope.names.lookup x = some .local)) = true := by decide +kernel
    exact of_decide_eq_true (List.all_eq_true.mp this x hx)
  co := rfl
  gen := rfl
  kind := rfl
  cell := by decide +kernel
def r_parse_data_loop : DefRec := recOf (stAt 61)
theorem f_parse_data_loop : (recsOf vw).find? (fun e => e.name == ("parse_data_loop" : Str)) = some r_parse_data_loop := by rw [recs_eq]; kernel_rfl
theorem find_parse_data_loop (g : Names c) : (recsOf c.p).find? (fun e => e.name == ("parse_data_loop" : Str)) = some r_parse_data_loop := g.p ▸ f_parse_data_loop
theorem pl_parse_data_loop : Plainly r_parse_data_loop ["tokens", "at", "deep"] where
  binds := by
    intro vs pm cd doc h
    match vs, h with
    | [a0, a1, a2], _ => rfl
  nodup := by decide
  loc := by
    intro x hx
    have : (["tokens", "at", "deep"] : List Str).all (fun x => decide (r_parse_data_loop.scope.names.lookup x = some .local)) = true := by decide +kernel
    exact of_decide_eq_true (List.all_eq_true.mp this x hx)
  co := rfl
  gen := rfl
  kind := rfl
  cell := by decide +kernel
def r_parse_data_target : DefRec := recOf (stAt 62)
theorem f_parse_data_target : (recsOf vw).find? (fun e => e.name == ("parse_data_target" : Str)) = some r_parse_data_target := by rw [recs_eq]; kernel_rfl
theorem find_parse_data_target (g : Names c) : (recsOf c.p).find? (fun e => e.name == ("parse_data_target" : Str)) = some r_parse_data_target := g.p ▸ f_parse_data_target
theorem pl_parse_data_target : Plainly r_parse_data_target ["tokens", "at", "deep"] where
  binds := by
    intro vs pm cd doc h
    match vs, h with
    | [a0, a1, a2], _ => rfl
  nodup := by decide
  loc := by
    intro x hx
    have : (["tokens", "at", "deep"] : List Str).all (fun x => decide (r_parse_data_target.scope.names.lookup x = some .local)) = true := by decide +kernel
    exact of_decide_eq_true (List.all_eq_true.mp this x hx)
  co := rfl
  gen := rfl
  kind := rfl
  cell := by decide +kernel
def r_parse_constant : DefRec := recOf (stAt 63)
theorem f_parse_constant : (recsOf vw).find? (fun e => e.name == ("parse_constant" : Str)) = some r_parse_constant := by rw [recs_eq]; kernel_rfl
theorem find_parse_constant (g : Names c) : (recsOf c.p).find? (fun e => e.name == ("parse_constant" : Str)) = some r_parse_constant := g.p ▸ f_parse_constant
theorem pl_parse_constant : Plainly r_parse_constant ["tokens", "at"] where
  binds := by
    intro vs pm cd doc h
    match vs, h with
    | [a0, a1], _ => rfl
  nodup := by decide
  loc := by
    intro x hx
    have : (["tokens", "at"] : List Str).all (fun x => decide (r_parse_constant.scope.names.lookup x = some .local)) = true := by decide +kernel
    exact of_decide_eq_true (List.all_eq_true.mp this x hx)
  co := rfl
  gen := rfl
  kind := rfl
  cell := by decide +kernel
def r_parse_value : DefRec := recOf (stAt 64)
theorem f_parse_value : (recsOf vw).find? (fun e => e.name == ("parse_value" : Str)) = some r_parse_value := by rw [recs_eq]; kernel_rfl
theorem find_parse_value (g : Names c) : (recsOf c.p).find? (fun e => e.name == ("parse_value" : Str)) = some r_parse_value := g.p ▸ f_parse_value
theorem pl_parse_value : Plainly r_parse_value ["tokens", "at"] where
  binds := by
    intro vs pm cd doc h
    match vs, h with
    | [a0, a1], _ => rfl
  nodup := by decide
  loc := by
    intro x hx
    have : (["tokens", "at"] : List Str).all (fun x => decide (r_parse_value.scope.names.lookup x = some .local)) = true := by decide +kernel
    exact of_decide_eq_true (List.all_eq_true.mp this x hx)
  co := rfl
  gen := rfl
  kind := rfl
  cell := by decide +kernel
def r_parse_data_group : DefRec := recOf (stAt 65)
theorem f_parse_data_group : (recsOf vw).find? (fun e => e.name == ("parse_data_group" : Str)) = some r_parse_data_group := by rw [recs_eq]; kernel_rfl
theorem find_parse_data_group (g : Names c) : (recsOf c.p).find? (fun e => e.name == ("parse_data_group" : Str)) = some r_parse_data_group := g.p ▸ f_parse_data_group
theorem pl_parse_data_group : Plainly r_parse_data_group ["tokens", "at"] where
  binds := by
    intro vs pm cd doc h
    match vs, h with
    | [a0, a1], _ => rfl
  nodup := by decide
  loc := by
    intro x hx
    have : (["tokens", "at"] : List Str).all (fun x => decide (r_parse_data_group.scope.names.lookup x = some .local)) = true := by decide +kernel
    exact of_decide_eq_true (List.all_eq_true.mp this x hx)
  co := rfl
  gen := rfl
  kind := rfl
  cell := by decide +kernel
def r_parse_data : DefRec := recOf (stAt 66)
theorem f_parse_data : (recsOf vw).find? (fun e => e.name == ("parse_data" : Str)) = some r_parse_data := by rw [recs_eq]; kernel_rfl
theorem find_parse_data (g : Names c) : (recsOf c.p).find? (fun e => e.name == ("parse_data" : Str)) = some r_parse_data := g.p ▸ f_parse_data
theorem pl_parse_data : Plainly r_parse_data ["text"] where
  binds := by
    intro vs pm cd doc h
    match vs, h with
    | [a0], _ => rfl
  nodup := by decide
  loc := by
    intro x hx
    have : (["text"] : List Str).all (fun x => decide (r_parse_data.scope.names.lookup x = some .local)) = true := by decide +kernel
    exact of_decide_eq_true (List.all_eq_true.mp this x hx)
  co := rfl
  gen := rfl
  kind := rfl
  cell := by decide +kernel
def r_law_tick : DefRec := recOf (stAt 68)
theorem f_law_tick : (recsOf vw).find? (fun e => e.name == ("_law_tick" : Str)) = some r_law_tick := by rw [recs_eq]; kernel_rfl
theorem find_law_tick (g : Names c) : (recsOf c.p).find? (fun e => e.name == ("_law_tick" : Str)) = some r_law_tick := g.p ▸ f_law_tick
theorem pl_law_tick : Plainly r_law_tick ["clock", "many"] where
  binds := by
    intro vs pm cd doc h
    match vs, h with
    | [a0, a1], _ => rfl
  nodup := by decide
  loc := by
    intro x hx
    have : (["clock", "many"] : List Str).all (fun x => decide (r_law_tick.scope.names.lookup x = some .local)) = true := by decide +kernel
    exact of_decide_eq_true (List.all_eq_true.mp this x hx)
  co := rfl
  gen := rfl
  kind := rfl
  cell := by decide +kernel
def r_law_loops : DefRec := recOf (stAt 69)
theorem f_law_loops : (recsOf vw).find? (fun e => e.name == ("_law_loops" : Str)) = some r_law_loops := by rw [recs_eq]; kernel_rfl
theorem find_law_loops (g : Names c) : (recsOf c.p).find? (fun e => e.name == ("_law_loops" : Str)) = some r_law_loops := g.p ▸ f_law_loops
theorem pl_law_loops : Plainly r_law_loops ["high", "inner", "has_step"] where
  binds := by
    intro vs pm cd doc h
    match vs, h with
    | [a0, a1, a2], _ => rfl
  nodup := by decide
  loc := by
    intro x hx
    have : (["high", "inner", "has_step"] : List Str).all (fun x => decide (r_law_loops.scope.names.lookup x = some .local)) = true := by decide +kernel
    exact of_decide_eq_true (List.all_eq_true.mp this x hx)
  co := rfl
  gen := rfl
  kind := rfl
  cell := by decide +kernel
end Mine
end
section
set_option Elab.async false
open PySem PySem.Calls PySem.Spec PySem.W PyProof.Rows
namespace Mine
def r_init : DefRec := match stAt 1 with
  | .ClassDef _ _ _ (b :: _) _ _ _ _ _ _ _ => recOf b
  | _ => recOf (.Pass default)
abbrev bmE : List Value := [.type "Exception", .type "BaseException", .type "object"]
/-- what stands of the class SyntaxFault -/
structure ExcAt (c : Cx) where
  C : Addr
  P : Addr
  fI : Addr
  N : Addr
  nm : Str
  q : Str
  bs : List Value
  sn : List Str
  sub : List Value
  ab : Bool
  col : Option Bool
  dd : Option Addr
  k0 : Option Value
  k1 : Option Value
  k2 : Option Value
  k3 : Option Value
  k5 : Option Value
  oI : Obj
  pm : Value
  cd : Value
  doc : Value
  exc : c.exc = .ref C
  hC : ∀ h, GF c h → h.get? C = some (excClassObj nm q C N bs (.ref P :: bmE) true sn sub ab col dd k0 k1 k2 k3 k5 "Exception.__new__")
  hi : ∀ h, GF c h → Looks (model c.prog c.w) h (typeLookup (.ref C) "__init__") (some (.ref fI))
  hs : ∀ h, GF c h → Looks (model c.prog c.w) h (typeLookup (.ref C) "__setattr__") (some (.builtin "object.__setattr__"))
  ht : ∀ h, GF c h → Looks (model c.prog c.w) h (typeLookup (.ref C) "text") none
  hfI : ∀ h, GF c h → h.get? fI = some oI
  cls : oI.cls = .type "function"
  dat : oI.data = .func (methDef r_init.name "F77Error.__init__" r_init.params r_init.body r_init.scope pm cd doc)
  code : ∀ h, GF c h → h.CodeRec cd "F77Error.__init__"
  mg : ∀ h, GF c h → c.mg "SyntaxFault" = some (.ref C)
  exn : GB c "Exception" (.type "Exception")
theorem in_bmE {C P : Addr} {X : String} {b : Bool} (hb : bmE.contains (.type X) = b) : (Value.ref C :: .ref P :: bmE).contains (.type X) = b := by
  rw [List.contains_cons, List.contains_cons, hb]; rfl
section
variable {c : Cx} {d : Nat} {sc : Scope} {σ σ' : St}
/-- e is ours; all else stands -/
def Excs (C e : Addr) (h h' : Heap) : Prop := (∃ o t, h'.get? e = some o ∧ o.cls = .ref C ∧ o.data = .fields #[.ref t, .none, .none, .none, .bool false, .none]) ∧ ∀ b o, b ≠ e → h.get? b = some o → h'.get? b = some o
set_option maxHeartbeats 2000000 in
theorem init_run (X : ExcAt c) {A : Around} {E : Value → Shared → Prop} {s : Shared} {e : Addr} {msg : Str} {tk : PySem.Tok} {Q : Shared → Prop} {t0 : Addr} {hb : Heap} (Gb : GF c hb) (kb : ∀ b o, hb.get? b = some o → s.heap.get? b = some o) (hbe : hb.get? e = none) (hroom : A.depth < recursionLimit)
    (he : s.heap.get? e = some { cls := .ref X.C, data := .fields #[.ref t0, .none, .none, .none, .bool false, .none] })
    (hq : ∀ h' tk', Excs X.C e s.heap h' → Q { s with heap := h', toks := tk' }) :
    wpAny (model c.prog c.w) A (call (.ref X.fI) [.ref e, .str msg tk]) (fun r s' => r = .none ∧ Q s') E s := by
  have G : GF c s.heap := Gb.keeps kb
  refine wpAny_call (codeAny_call_def (fd := methDef r_init.name "F77Error.__init__" r_init.params r_init.body r_init.scope X.pm X.cd X.doc) (body := r_init.body) (binds := [("self", .ref e), ("text", .str msg tk)]) hroom (X.hfI _ G) X.dat G.top.nolimit (X.code _ G) rfl (.of_eq rfl) (show ∀ x ∈ r_init.scope.names, x.2 ≠ .cell by decide +kernel) (by
    intro x hx
    rcases List.mem_cons.mp hx with rfl | hx
    · rfl
    · rcases List.mem_cons.mp hx with rfl | hx
      · rfl
      · cases hx) (fun h₁ hns hkeep => ?_) rfl rfl rfl)
  have Fr₁ : Fr s.heap s.heap.objs.size h₁ (fun x => ([("self", .ref e), ("text", .str msg tk)] : List (Str × Value)).reverse.lookup x) := ⟨hns, hkeep, Nat.le_refl _⟩
  show wpAny _ (A.deeper (envOf "F77Error.__init__" r_init.scope s.heap.objs.size X.fI X.cd)) (execs r_init.body (envOf "F77Error.__init__" r_init.scope s.heap.objs.size X.fI X.cd)) _ _ _
  have G₁ : GF c h₁ := G.keeps Fr₁.keep
  refine wpAny_execs_cons (wpAny_Expr_any (MethodCall_ (ld_builtin_at Fr₁ G.top.g (X.exn _ G).1 G.top.b (X.exn _ G).2 ?_ rfl rfl rfl)) rfl rfl)
  refine method_type (K := []) Fr₁ (fun a o e => by cases e) (by kernel_rfl) (by decide +kernel) (v := .builtin "Exception.__init__") (by kernel_rfl) rfl ?_
  refine callWith_builtin1 ?_ rfl rfl
  refine wpAny_items_cons (ld Fr₁ (v := .ref e) (by rfl) (wpAny_items_cons (ld Fr₁ (v := .str msg tk) (by rfl) (wpAny_items_nil ?_) rfl rfl rfl) rfl) rfl rfl rfl) rfl
  refine wpAny_call (own_exc_init F.excBase_Exception (in_bmE (by decide +kernel)) (X.hC _ G₁) (Fr₁.keep _ _ he) (by rw [sizeLine_eq]; exact (by decide : 1 ≤ 16777216)) fun h₂ e2 k2 => ?_)
  have hL : s.heap.objs.size ≠ e := Nat.ne_of_gt (Heap.lt_size he)
  have n2 := Fr₁.ns.at' fun o eo => k2 _ o hL eo
  have G₂ : ∀ b o, b ≠ e → h₁.get? b = some o → h₂.get? b = some o := k2
  have G₂ : GF c h₂ := Gb.keeps fun b o eb => k2 _ _ (fun q => by rw [q, hbe] at eb; cases eb) (Fr₁.keep _ _ (kb _ _ eb))
  refine wpAny_execs_cons (plainObj_wpAny_Assign_Attribute ?_ rfl)
  refine wpAny_Name (wpAny_loadName_local rfl rfl n2 (v := .str msg tk) (by rfl) ?_) rfl
  refine wpAny_Name (wpAny_loadName_local rfl rfl n2 (v := .ref e) (by rfl) ?_) rfl
  refine own_store (P := X.P) F.store_Exception (in_bmE (by decide +kernel)) (X.hC _ G₂) (X.hs _ G₂) (X.ht _ G₂) e2 rfl (fun c e => by cases e) rfl fun h₃ tk₃ D e3 k3 => ?_
  refine wpAny_execs_nil ⟨rfl, hq h₃ tk₃ ⟨⟨_, _, e3, rfl, rfl⟩, fun b o hb' eb => k3 _ _ hb' (k2 _ _ hb' (Fr₁.keep _ _ eb))⟩⟩
end
end Mine
end
section
set_option Elab.async false
open PySem PySem.Calls PySem.W
namespace Mine
section
variable {M : Model} {A : Around} {E : Value → Shared → Prop} {env : Env}
variable {nm q : Str} {C N : Addr} {bs bm : List Value} {hdct : Bool} {sn : List Str} {sub : List Value} {ab : Bool} {col : Option Bool} {dd : Option Addr} {k0 k1 k2 k3 k5 : Option Value} {newId : String}
theorem own_raiseStmt {s : Shared} {x : Sem Value} {Q : Flow → Shared → Prop} (hcB : (Value.ref C :: bm).contains (.type "BaseException") = true) (hh : A.handled = none)
    (h : wpAny M A x (fun v s₁ => ∃ e t dx sl, v = .ref e ∧ s₁.heap.get? C = some (excClassObj nm q C N bs bm hdct sn sub ab col dd k0 k1 k2 k3 k5 newId) ∧
      s₁.heap.get? e = some { cls := .ref C, dict := dx, data := .fields #[.ref t, .none, .none, .none, .bool false, .none], slots := sl } ∧ E (.ref e) s₁) E s) :
    wpAny M A (raiseStmt env (some x) none) Q E s := by
  unfold raiseStmt
  refine wpAny_bind (wpAny_mono h (fun v s₁ h₁ => ?_) fun _ _ x => x)
  obtain ⟨e, t, dx, sl, rfl, hC, he, hE⟩ := h₁
  obtain ⟨hp, g, d, tk, os⟩ := s₁
  repeat (first | with_reducible refine wpAny_loadPart_at he ?_ | with_reducible refine wpAny_loadPart_at hC ?_ | (with_reducible refine wpAny_isSubtype_exc hC ?_; rw [hcB]) | wp_step)
  exact wpAny_raiseNew_none hh hE
end
section
variable {prog : Program} {w : World} {A : Around} {E : Value → Shared → Prop} {s : Shared} {env : Env}
variable {nm q : Str} {C N : Addr} {bs bm : List Value} {hdct : Bool} {sn : List Str} {sub : List Value} {ab : Bool} {col : Option Bool} {dd : Option Addr} {k0 k1 k2 k3 k5 : Option Value} {newId : String}
theorem own_Raise {x : Str} {np cpos pos : Pos} {args : List Expr} {Q : Flow → Shared → Prop} (hcB : (Value.ref C :: bm).contains (.type "BaseException") = true) (hh : A.handled = none)
    (hplain : (backTo cpos (starEach args env)).any (·.1) = false)
    (h : wpAny (model prog w) A (eval (.Name x np) env) (fun f s₁ => f = .ref C ∧ wpAny (model prog w) A (evalArgs (.ref C) true (backTo cpos (starEach args env)) [])
      (fun a s₂ => a.kw = [] ∧ s₂.heap.get? C = some (excClassObj nm q C N bs bm hdct sn sub ab col dd k0 k1 k2 k3 k5 newId) ∧
        wpAny (model prog w) A (call (.ref C) a.pos) (fun v s₃ => ∃ e t dx sl, v = .ref e ∧ s₃.heap.get? C = some (excClassObj nm q C N bs bm hdct sn sub ab col dd k0 k1 k2 k3 k5 newId) ∧
          s₃.heap.get? e = some { cls := .ref C, dict := dx, data := .fields #[.ref t, .none, .none, .none, .bool false, .none], slots := sl } ∧ E (.ref e) s₃) E s₂) E s₁) E s) :
    wpAny (model prog w) A (exec (.Raise (some (.Call (.Name x np) args [] cpos)) none pos) env) Q E s := by
  rw [arm_exec_Raise]
  first
    | refine wpAny_bind (wpAny_standAt (own_raiseStmt (C := C) (nm := nm) (q := q) (N := N) (bs := bs) (bm := bm) (hdct := hdct) (sn := sn) (sub := sub) (ab := ab) (col := col) (dd := dd) (k0 := k0) (k1 := k1) (k2 := k2) (k3 := k3) (k5 := k5) (newId := newId) hcB hh (wpAny_bind (wpAny_mono (wpAny_Call_ofName (wpAny_mono h (fun f s₁ h₁ => ?_) fun _ _ x => x)) (fun v s₃ h₃ => wpAny_bind (wpAny_standAt (wpAny_pure h₃))) fun _ _ x => x))))
    | (simp only [evalOpt, Option.map]; refine wpAny_bind (wpAny_standAt (own_raiseStmt (C := C) (nm := nm) (q := q) (N := N) (bs := bs) (bm := bm) (hdct := hdct) (sn := sn) (sub := sub) (ab := ab) (col := col) (dd := dd) (k0 := k0) (k1 := k1) (k2 := k2) (k3 := k3) (k5 := k5) (newId := newId) hcB hh (wpAny_bind (wpAny_mono (wpAny_Call_ofName (wpAny_mono h (fun f s₁ h₁ => ?_) fun _ _ x => x)) (fun v s₃ h₃ => wpAny_bind (wpAny_standAt (wpAny_pure h₃))) fun _ _ x => x)))))
    | (refine wpAny_bind (wpAny_standAt (own_raiseStmt (C := C) (nm := nm) (q := q) (N := N) (bs := bs) (bm := bm) (hdct := hdct) (sn := sn) (sub := sub) (ab := ab) (col := col) (dd := dd) (k0 := k0) (k1 := k1) (k2 := k2) (k3 := k3) (k5 := k5) (newId := newId) hcB hh ?_)); refine wpAny_bind (wpAny_mono (wpAny_Call_ofName (wpAny_mono h (fun f s₁ h₁ => ?_) fun _ _ x => x)) (fun v s₃ h₃ => wpAny_bind (wpAny_standAt (wpAny_pure h₃))) fun _ _ x => x))
  obtain ⟨rfl, h₁⟩ := h₁
  unfold callWith
  refine wpAny_bind (wpAny_holding (wpAny_mono h₁ (fun a s₂ h₂ => wpAny_bind (wpAny_standAt ?_)) fun _ _ x => x))
  obtain ⟨apos, akw⟩ := a
  obtain ⟨hkw, hC, h₂⟩ := h₂
  obtain rfl : akw = [] := hkw
  obtain ⟨hp, g, d, tk, os⟩ := s₂
  simp only [hplain]
  refine wpAny_bind (wpAny_keeperOf_exc hC ?_)
  exact wpAny_bind (wpAny_mono h₂ (fun v s₃ h₃ => wpAny_bind (wpAny_holding (wpAny_point (wpAny_pure h₃)))) fun _ _ x => x)
end
end Mine
end
section
set_option Elab.async false
open PySem PySem.Calls PySem.Spec PySem.W PyProof.Rows
namespace Mine
section
variable {c : Cx} {d : Nat} {sc : Scope} {σ σ' : St}
theorem raise_ok (X : ExcAt c) {msg : Str} {k : Nat} {np kp cp pos : Pos} (hd : 4 ≤ d) (hg : sc.names.lookup ("SyntaxFault" : Str) = some .globalImplicit) :
    SemS c d sc σ (.Raise (some (.Call (.Name "SyntaxFault" np) [.Constant (.str msg) k kp] [] cp)) none pos) .exn σ' := by
  constructor; intro A outer nm fa L cd h₀ s P H m Q E K R G hk I post
  have G₁ : GF c s.heap := G.keeps I.fr.keep
  refine own_Raise (nm := X.nm) (q := X.q) (C := X.C) (N := X.N) (bs := X.bs) (bm := .ref X.P :: bmE) (hdct := true) (sn := X.sn) (sub := X.sub) (ab := X.ab) (col := X.col) (dd := X.dd) (k0 := X.k0) (k1 := X.k1) (k2 := X.k2) (k3 := X.k3) (k5 := X.k5) (newId := "Exception.__new__") (in_bmE (by decide +kernel)) R.1 rfl (ld_global_at I.fr G.top.g (X.mg _ G) ⟨rfl, ?_⟩ hk hg rfl)
  refine evalArgs_plain (wpAny_items_cons (wpAny_Constant_str (wpAny_items_nil ?_)) rfl)
  refine ⟨rfl, X.hC _ G₁, ?_⟩
  have hroom : (A.deeper (envOf nm sc L fa cd)).depth + 1 < recursionLimit := by
    have := R.2.1
    show A.depth + 1 + 1 < 1000
    omega
  refine own_call F.excBase_Exception (in_bmE (by decide +kernel)) (in_bmE (by decide +kernel)) (in_bmE (by decide +kernel)) (X.hC _ G₁) (X.hi _ G₁) (X.hfI _ G₁) X.cls (fun h₁ e hm => ?_) (by rw [sizeLine_eq]; exact (by decide : 1 ≤ 16777216))
  obtain ⟨t, he, _, _⟩ := hm.there
  refine init_run X (s := { s with heap := h₁, toks := s.toks + 1 }) (hb := s.heap) G₁ hm.keeps hm.new (by
    have := R.2.1
    show A.depth + 1 + 1 < 1000
    omega) he fun h₂ tk₂ hx => ?_
  obtain ⟨⟨o, t', e1, e2, e3⟩, k2⟩ := hx
  have keep : ∀ b ob, s.heap.get? b = some ob → h₂.get? b = some ob := fun b ob eb => k2 _ _ (fun q => by rw [q, hm.new] at eb; cases eb) (hm.keeps _ _ eb)
  obtain ⟨oc, od, odt, osl⟩ := o
  obtain rfl : oc = .ref X.C := e2
  obtain rfl : odt = _ := e3
  refine ⟨e, t', od, osl, rfl, X.hC _ (G₁.keeps keep), e1, ?_⟩
  have K' := K.1.push (name := nm) (a := fa) (cd := cd) I.fr hk
  refine post e h₂ tk₂ (.fresh (.ref t') _ _ (fun b ob eb => keep _ _ (K'.stays b ob eb)) ?_ ?_ e1 X.exc.symm rfl rfl rfl) (Heap.UpToSlots.of_keeps fun b ob eb => keep _ _ (I.fr.keep _ _ eb))
  · cases hq : c.B.get? e with
    | none => rfl
    | some ob => have := K'.stays _ _ hq; rw [hm.new] at this; cases this
  · exact K'.frames.of_keeps fun b ob eb _ => ⟨ob, keep _ _ eb, rfl⟩
end
end Mine
end
section
set_option Elab.async false
open PySem PySem.Calls PySem.Spec PySem.W PyProof.Rows
namespace Mine
def Cx.shift (c : Cx) (B : Heap) : Cx := { c with B := B, lone := false }
section
variable {c : Cx} {d : Nat} {sc : Scope}
theorem GF.shift {h B : Heap} (G : GF c h) (k : B.StaysIn h) : GF (c.shift B) h := ⟨G.top, G.k, k⟩
theorem GF.unshift {h B : Heap} (G : GF (c.shift B) h) (k : c.B.StaysIn B) : GF c h := ⟨G.top, G.k, fun b o e => G.stays b o (k b o e)⟩
theorem Inv.landed {h₀ : Heap} {L : Addr} {P : Addr → Obj → Prop} {H : PH} {h h' : Heap} {m : Str → Option Value} {σ : St} (I : Inv h₀ L P σ H h m) (k : ∀ b ob, b ≠ L → h.get? b = some ob → h'.get? b = some ob) (up : h.UpToSlots h') : Inv h₀ L P σ H h' m := by
  have hL : h₀.get? L = none := Heap.get?_none_of_le I.fr.above
  refine ⟨fun a o hp => ⟨k _ _ (I.prot a o hp).2 (I.prot a o hp).1, (I.prot a o hp).2⟩, I.fr.of_stays (fun b ob e => k b ob (fun q => by rw [q, hL] at e; cases e) (I.fr.keep b ob e)) up, fun b cc xs hb => ?_, I.loc, I.vars, fun y q hy => ?_⟩
  · obtain ⟨ob, n, j1, j2, j3⟩ := I.sub b cc xs hb
    exact ⟨ob, n, k _ _ (fun e => by rw [e, I.loc] at hb; cases hb) j1, j2, j3⟩
  · obtain ⟨a, k1, k2, k4, k5, k6, k7⟩ := I.own y q hy
    exact ⟨a, k1, k2.keeps (.refl H) fun o e _ => k _ _ k6 e, k4, k5, k6, k7⟩
/-- try: x = f(arg) except SyntaxFault: x = None -/
theorem S_tryCall (X : ExcAt c) (hlone : c.lone = true) {x f : Str} {fn : DefRec} {e₁ : Expr} {np xp cp apos hp' xq kp apos' hpos pos : Pos} {k : Nat} {vars : List (Str × PV)} {o : Option (Str × OV)} {ps : List PV} {r : Res PV}
    (hfind : (recsOf c.p).find? (fun e => e.name == f) = some fn) (hg : sc.names.lookup f = some .globalImplicit) (h : SemL c d sc ⟨vars, o⟩ [e₁] (.ok ps) ⟨vars, o⟩)
    (hf : ∀ B, c.B.StaysIn B → CallOk (c.shift B) (d - 1) fn ps r) (h0 : 1 ≤ d) (hp : plainE e₁ = true) (hd : (f == ("__debug__" : Str)) = false) (hx : sc.names.lookup x = some .local) (ho : ownOff o [x] = true)
    (hexc : sc.names.lookup ("SyntaxFault" : Str) = some .globalImplicit) :
    SemS c d sc ⟨vars, o⟩ (.Try [.Assign [.Name x xp] (.Call (.Name f np) [e₁] [] cp) apos] [.ExceptHandler (some (.Name "SyntaxFault" hp')) none [.Assign [.Name x xq] (.Constant .none k kp) apos'] hpos] [] [] pos)
      (.ok .next) ⟨(x, match r with | .ok p => p | .exn => .none) :: vars, o⟩ := by
  constructor; intro A outer nm fa L cd h₀ s P H m Q E K R G hk I post
  refine wpAny_Try_except ?_
  refine wpAny_execs_cons (wpAny_Assign_Name (Call_Name rfl (tp_def I.fr G.top hfind (fun fa' of pm code doc j1 j2 j3 => ?_) hk hg hd)) (swaps_none rfl))
  refine callWith_def j2 ?_ (starEach_plain hp)
  refine h.run A outer nm fa L cd h₀ s P H m cp _ _ K R G hk I fun vs h' tk' H' I' X' r' => ⟨I'.fr.keep _ _ j1, ?_⟩
  have K' := K.1.push (name := nm) (a := fa) (cd := cd) I'.fr hk
  have hout := K.2 hlone
  subst hout
  let B : Heap := hideAll h' [L]
  have hB : c.B.StaysIn B := fun b ob eb => hideAll_get _ (K'.stays _ _ eb) (by
    intro hb
    rw [List.mem_singleton.mp hb] at eb
    obtain ⟨_, ⟨L', _, q1, q2, _⟩, _⟩ := K'.frames
    obtain rfl : L = L' := Option.some.inj q1
    rw [q2] at eb; cases eb)
  have K'' : Below (A.deeper (envOf nm sc L fa cd)) B [envOf nm sc L fa cd] h' := ⟨K'.stack, fun b ob eb => of_hideAll _ eb, funFrames_hide K'.frames fun env he a' hfa => by
    rw [List.mem_singleton.mp he] at hfa
    obtain rfl : L = a' := Option.some.inj hfa
    exact List.mem_singleton.mpr rfl⟩
  have G' : GF c h' := G.keeps I'.fr.keep
  refine hf B hB _ _ { s with heap := h', toks := tk' } H' vs fa' of pm code doc _ _ K'' ⟨R.1, by have := R.2.1; show A.depth + 1 + (d - 1) < 900; omega, by have := R.2.2; show A.units + 3 + 16 * (d - 1) < 9000; omega⟩ (G'.shift fun b ob eb => of_hideAll _ eb) I'.sub r' (I'.fr.keep _ _ j1) j2 (j3.keeps I'.fr.keep) ?_
  cases r with
  | ok p =>
    intro v h'' tk'' H'' kp S'' X'' rv
    have J : Inv h₀ L P ⟨vars, o⟩ H'' h'' m := by
      refine ⟨fun a o hp => ⟨kp _ _ (I'.prot a o hp).1, (I'.prot a o hp).2⟩, I'.fr.keeps kp, S'', ?_, fun y q hy => ?_, fun y q hy => ?_⟩
      · obtain ⟨oL, _, _, hoL, _⟩ := I'.fr.ns
        rw [X''.old L oL hoL]; exact I'.loc
      · obtain ⟨v, k1, k2⟩ := I'.vars y q hy
        exact ⟨v, k1, k2.up X''.up⟩
      · obtain ⟨a, i1, i2, i5, i6, i7, i9⟩ := I'.own y q hy
        obtain ⟨o, i3, _⟩ := i2.get
        exact ⟨a, i1, i2.keeps X''.up fun o e _ => kp _ _ e, by rw [X''.old a o i3]; exact i5, i6, i7, i9⟩
    have XX : Ext h₀ H H'' := X'.trans ⟨X''.up, fun b o' e => X''.old b o' (I'.fr.keep _ _ e)⟩
    refine store_ (s := { s with heap := h'', toks := tk'' }) (P := P) (H := H'') J.fr hk hx fun h3 hn hs => ?_
    exact wpAny_execs_nil (wpAny_execs_nil (post .next h3 _ H'' _ (J.store ho hn hs rv) XX rfl))
  | exn =>
    intro e a0 h'' tk'' fl up
    have kB : ∀ {g : Heap}, B.StaysIn g → ∀ b ob, b ≠ L → h'.get? b = some ob → g.get? b = some ob := fun st b ob hb eb => st _ _ (hideAll_get _ eb fun hm => hb (List.mem_singleton.mp hm))
    refine wpAny_looks_onW (s := { s with heap := h'', toks := tk'' }) (Around.frames_deeper K.1.stack) rfl fl fun h₄ hheld up₄ => ?_
    refine wpAny_landsW (s := { s with heap := h₄, toks := tk'' }) hheld fun h₅ fl₅ up₅ => ?_
    have U₅ := up.trans (up₄.trans up₅)
    have J₅ := I'.landed (kB fl₅.1) U₅
    have G₅ : GF c h₅ := G.keeps J₅.fr.keep
    obtain ⟨oe, he, hec⟩ := fl₅.there
    have hec' : oe.cls = .ref X.C := hec.trans X.exc
    refine wpAny_handleBy_cons (codeAny_handlers_test (ld_global_at J₅.fr G.top.g (X.mg _ G) ?_ hk hexc rfl)) (by intro q; cases q)
    refine wpAny_excMatches_sub_self (X.hC _ G₅) he hec' (by rw [List.contains_cons, show bmE.contains (.type "BaseException") = true by decide +kernel, Bool.or_true]) ?_
    refine codeAny_handlers_suite ?_
    refine lands_againW (s := { s with heap := h₅, toks := tk'' }) fl₅ fun h₆ fl₆ up₆ => ?_
    have J₆ := I'.landed (kB fl₆.1) (U₅.trans up₆)
    refine wpAny_execs_cons (wpAny_Assign_Name (wpAny_Constant_none ?_) (swaps_none rfl))
    refine store_ (s := { s with heap := h₆, toks := tk'' }) (P := P) (H := H') J₆.fr hk hx fun h₇ hn hs => ?_
    exact wpAny_execs_nil (post .next h₇ _ H' _ (J₆.store ho hn hs (p := .none) rfl) X' rfl)
end
end Mine
end
section
set_option Elab.async false
open PySem PySem.Calls PySem.Spec PySem.W PyProof.Rows
namespace Mine
theorem v_EQUIVALENCE : valOf vw "EQUIVALENCE" = some (.int 1) := by kernel_rfl
theorem v_NEGATION : valOf vw "NEGATION" = some (.int 4) := by kernel_rfl
theorem v_RELATION : valOf vw "RELATION" = some (.int 5) := by kernel_rfl
theorem v_SUM : valOf vw "SUM" = some (.int 7) := by kernel_rfl
theorem v_POWER : valOf vw "POWER" = some (.int 9) := by kernel_rfl
theorem v_MOST_DEEP : valOf vw "MOST_DEEP" = some (.int 40) := by kernel_rfl
theorem v_MOST_HIGH : valOf vw "MOST_HIGH" = some (.int 100) := by kernel_rfl
theorem v_LETTERS : valOf vw "LETTERS" = some (.str "ABCDEFGHIJKLMNOPQRSTUVWXYZ") := by kernel_rfl
theorem v_DIGITS : valOf vw "DIGITS" = some (.str "0123456789") := by kernel_rfl
theorem v_SIGNS : valOf vw "SIGNS" = some (.str "+-*/(),=:") := by kernel_rfl
theorem v_MOST_NAME : valOf vw "MOST_NAME" = some (.int 6) := by kernel_rfl
theorem v_MOST_DIGITS : valOf vw "MOST_DIGITS" = some (.int 1000) := by kernel_rfl
section
variable {c : Cx} {d : Nat} {sc : Scope} {σ : St} {pos : Pos}
theorem E_EQUIVALENCE (g : Names c) (hg : sc.names.lookup ("EQUIVALENCE" : Str) = some .globalImplicit) : SemE c d sc σ (.Name "EQUIVALENCE" pos) (.ok (.int 1)) σ := E_gint hg (g.p ▸ v_EQUIVALENCE) rfl
theorem E_NEGATION (g : Names c) (hg : sc.names.lookup ("NEGATION" : Str) = some .globalImplicit) : SemE c d sc σ (.Name "NEGATION" pos) (.ok (.int 4)) σ := E_gint hg (g.p ▸ v_NEGATION) rfl
theorem E_RELATION (g : Names c) (hg : sc.names.lookup ("RELATION" : Str) = some .globalImplicit) : SemE c d sc σ (.Name "RELATION" pos) (.ok (.int 5)) σ := E_gint hg (g.p ▸ v_RELATION) rfl
theorem E_SUM (g : Names c) (hg : sc.names.lookup ("SUM" : Str) = some .globalImplicit) : SemE c d sc σ (.Name "SUM" pos) (.ok (.int 7)) σ := E_gint hg (g.p ▸ v_SUM) rfl
theorem E_POWER (g : Names c) (hg : sc.names.lookup ("POWER" : Str) = some .globalImplicit) : SemE c d sc σ (.Name "POWER" pos) (.ok (.int 9)) σ := E_gint hg (g.p ▸ v_POWER) rfl
theorem E_MOST_DEEP (g : Names c) (hg : sc.names.lookup ("MOST_DEEP" : Str) = some .globalImplicit) : SemE c d sc σ (.Name "MOST_DEEP" pos) (.ok (.int 40)) σ := E_gint hg (g.p ▸ v_MOST_DEEP) rfl
theorem E_MOST_HIGH (g : Names c) (hg : sc.names.lookup ("MOST_HIGH" : Str) = some .globalImplicit) : SemE c d sc σ (.Name "MOST_HIGH" pos) (.ok (.int 100)) σ := E_gint hg (g.p ▸ v_MOST_HIGH) rfl
theorem E_MOST_NAME (g : Names c) (hg : sc.names.lookup ("MOST_NAME" : Str) = some .globalImplicit) : SemE c d sc σ (.Name "MOST_NAME" pos) (.ok (.int 6)) σ := E_gint hg (g.p ▸ v_MOST_NAME) rfl
theorem E_MOST_DIGITS (g : Names c) (hg : sc.names.lookup ("MOST_DIGITS" : Str) = some .globalImplicit) : SemE c d sc σ (.Name "MOST_DIGITS" pos) (.ok (.int 1000)) σ := E_gint hg (g.p ▸ v_MOST_DIGITS) rfl
theorem E_LETTERS (g : Names c) (hg : sc.names.lookup ("LETTERS" : Str) = some .globalImplicit) : SemE c d sc σ (.Name "LETTERS" pos) (.ok (.str "ABCDEFGHIJKLMNOPQRSTUVWXYZ")) σ := E_gstr hg (g.p ▸ v_LETTERS) rfl
theorem E_DIGITS (g : Names c) (hg : sc.names.lookup ("DIGITS" : Str) = some .globalImplicit) : SemE c d sc σ (.Name "DIGITS" pos) (.ok (.str "0123456789")) σ := E_gstr hg (g.p ▸ v_DIGITS) rfl
theorem E_SIGNS (g : Names c) (hg : sc.names.lookup ("SIGNS" : Str) = some .globalImplicit) : SemE c d sc σ (.Name "SIGNS" pos) (.ok (.str "+-*/(),=:")) σ := E_gstr hg (g.p ▸ v_SIGNS) rfl
end
end Mine
end
section
set_option Elab.async false
open PySem PySem.Calls PySem.Spec PySem.W PyProof.Rows
namespace Mine
/-! the walk of a def, rule by rule -/
local macro_rules | `(tactic| walk_at "tk") => `(tactic| first
  | assumption
  | (apply known_at (i := 0); (· assumption); (· exact rfl); (· omega))
  | (apply known_at (i := 1); (· assumption); (· exact rfl); (· omega))
  | (apply known_at (i := 2); (· assumption); (· exact rfl); (· omega))
  | (apply known_at (i := 3); (· assumption); (· exact rfl); (· omega))
  | (apply known_at (i := 4); (· assumption); (· exact rfl); (· omega))
  | (apply known_at (i := 5); (· assumption); (· exact rfl); (· omega))
  | (apply known_at (i := 6); (· assumption); (· exact rfl); (· omega))
  | (apply known_at (i := 7); (· assumption); (· exact rfl); (· omega)))
local macro_rules | `(tactic| walk_at "bb") => `(tactic| first
  | exact rfl
  | exact decide_eq_true (by omega)
  | exact decide_eq_false (by omega)
  | exact decide_eq_true (TokAt.lt (by walk_at "tk"))
  | (simp; done)
  | (simp_all; done))
local macro_rules | `(tactic| walk_at "cmp") => `(tactic| first
  | exact cmp_eq_str | exact cmp_ne_str | exact cmp_eq_int | exact cmp_ne_int | exact cmp_lt_int | exact cmp_le_int | exact cmp_gt_int | exact cmp_ge_int
  | exact cmp_in_str | exact cmp_notin_str | exact cmp_in_strs2 | exact cmp_in_strs3)
local macro_rules | `(tactic| walk_at "bin") => `(tactic| first
  | exact bin_add_int | exact bin_sub_int | (apply bin_mul_one; first | assumption | omega) | (apply bin_add_str; omega))
local macro_rules | `(tactic| walk_at "fn") => `(tactic| first
  | exact fn_max | (apply fn_len_lst; omega) | (apply fn_len_str; omega))
local macro_rules | `(tactic| walk_at "find") => `(tactic| first
  | exact find_is_op (by assumption) | exact find_kind_at (by assumption) | exact find_need_op (by assumption) | exact find_need_name (by assumption) | exact find_close_at (by assumption) | exact find_priority_at (by assumption)
  | exact find_higher (by assumption) | exact find_deeper (by assumption) | exact find_parse_expr (by assumption) | exact find_read_binary (by assumption) | exact find_read_first (by assumption) | exact find_read_primary (by assumption)
  | exact find_constant_of (by assumption) | exact find_part_end (by assumption) | exact find_is_complex (by assumption) | exact find_read_named (by assumption) | exact find_holds_mark (by assumption) | exact find_read_arguments (by assumption)
  | exact find_parse_list (by assumption) | exact find_parse_target (by assumption) | exact find_parse_bounds (by assumption) | exact find_parse_place (by assumption) | exact find_parse_data_loop (by assumption) | exact find_parse_data_target (by assumption)
  | exact find_parse_constant (by assumption) | exact find_parse_value (by assumption) | exact find_parse_data_group (by assumption) | exact find_parse_data (by assumption) | exact find_run_of (by assumption) | exact find_dotted_at (by assumption)
  | exact find_power_at (by assumption) | exact find_number_at (by assumption) | exact find_name_at (by assumption) | exact find_token_at (by assumption) | exact find_tokens_of (by assumption) | exact find_law_loops (by assumption))
local macro_rules | `(tactic| walk_at "side") => `(tactic| first | assumption | exact rfl | omega | walk_at "tk")
local macro_rules | `(tactic| walk_at "spec") => `(tactic| assumption)
local macro_rules | `(tactic| walk_at "L") => `(tactic| first
  | exact L_nil
  | (apply L_cons; (· exact rfl); (· walk_at "E"); (· walk_at "L")))
local macro_rules | `(tactic| walk_at "E") => `(tactic| first
  | exact E_var rfl rfl rfl
  | exact E_int | exact E_str | exact E_none | exact E_bool
  | exact E_EQUIVALENCE (by assumption) rfl | exact E_NEGATION (by assumption) rfl | exact E_RELATION (by assumption) rfl | exact E_SUM (by assumption) rfl | exact E_POWER (by assumption) rfl | exact E_MOST_DEEP (by assumption) rfl
  | exact E_MOST_HIGH (by assumption) rfl | exact E_MOST_NAME (by assumption) rfl | exact E_MOST_DIGITS (by assumption) rfl | exact E_LETTERS (by assumption) rfl | exact E_DIGITS (by assumption) rfl | exact E_SIGNS (by assumption) rfl
  | (apply E_tok0; (· walk_at "E"); (· walk_at "E"); (· walk_at "tk"))
  | (apply E_tok1; (· walk_at "E"); (· walk_at "E"); (· walk_at "tk"))
  | (apply E_callD; (· walk_at "find"); (· exact rfl); (· walk_at "L"); (· walk_at "spec"); (· omega); (· exact rfl); (· exact rfl))
  | (apply E_cmpB (b' := true); (· walk_at "E"); (· walk_at "E"); (· walk_at "cmp"); (· walk_at "bb"); (· exact rfl))
  | (apply E_cmpB (b' := false); (· walk_at "E"); (· walk_at "E"); (· walk_at "cmp"); (· walk_at "bb"); (· exact rfl))
  | (apply E_andF; (· walk_at "E"))
  | (apply E_andT; (· walk_at "E"); (· walk_at "E"))
  | (apply E_orT; (· walk_at "E"))
  | (apply E_orF; (· walk_at "E"); (· walk_at "E"))
  | (apply E_bool1; (· walk_at "E"))
  | (apply E_notF; (· walk_at "E"))
  | (apply E_notT; (· walk_at "E"))
  | (apply E_ifT; (· walk_at "T"); (· walk_at "E"))
  | (apply E_ifF; (· walk_at "T"); (· walk_at "E"))
  | (apply E_bin; (· walk_at "E"); (· walk_at "E"); (· walk_at "bin"))
  | (apply E_tuple; (· walk_at "L"); (· exact Nat.le_of_ble_eq_true rfl))
  | (apply E_list; (· walk_at "L"); (· exact Nat.le_of_ble_eq_true rfl))
  | (apply E_at (j := 0); (· walk_at "E"); (· exact rfl); (· decide); (· exact rfl))
  | (apply E_at (j := 1); (· walk_at "E"); (· exact rfl); (· decide); (· exact rfl))
  | (apply E_at (j := 2); (· walk_at "E"); (· exact rfl); (· decide); (· exact rfl))
  | (apply E_atL (j := 0); (· walk_at "E"); (· exact rfl); (· decide); (· exact rfl))
  | (apply E_atL (j := 1); (· walk_at "E"); (· exact rfl); (· decide); (· exact rfl))
  | (apply E_atL (j := 2); (· walk_at "E"); (· exact rfl); (· decide); (· exact rfl))
  | (apply E_upto (b := 2); (· walk_at "E"); (· exact rfl); (· exact Nat.le_of_ble_eq_true rfl); (· exact Nat.le_of_ble_eq_true rfl))
  | (apply E_len_own (Names.len (by assumption)); (· exact rfl); (· exact rfl); (· exact Nat.le_of_ble_eq_true rfl); (· exact rfl); (· exact rfl))
  | (apply E_builtin (Names.len (by assumption)); (· exact rfl); (· walk_at "L"); (· walk_at "fn"); (· exact rfl); (· exact rfl))
  | (apply E_builtin (Names.mx (by assumption)); (· exact rfl); (· walk_at "L"); (· walk_at "fn"); (· exact rfl); (· exact rfl))
  | (apply E_get (Names.prio1 (by assumption)); (· exact rfl); (· walk_at "L"); (· exact rfl); (· exact rfl); (· exact rfl); (· exact rfl))
  | (apply E_get (Names.prio2 (by assumption)); (· exact rfl); (· walk_at "L"); (· exact rfl); (· exact rfl); (· exact rfl); (· exact rfl))
  | (apply E_neg; (· walk_at "E"))
  | exact E_own rfl rfl)
local macro_rules | `(tactic| walk_at "T") => `(tactic| first
  | (apply T_name; (· walk_at "E"))
  | exact T_true
  | (apply T_call; (· walk_at "E"))
  | (apply T_cmpB; (· walk_at "E"); (· walk_at "E"); (· walk_at "cmp"); (· walk_at "bb"); (· exact rfl))
  | (apply T_notF; (· walk_at "T"))
  | (apply T_notT; (· walk_at "T"))
  | exact T_and_nil | exact T_or_nil
  | (apply T_and_f; (· walk_at "T"))
  | (apply T_and_t; (· walk_at "T"); (· walk_at "T"))
  | (apply T_or_t; (· walk_at "T"))
  | (apply T_or_f; (· walk_at "T"); (· walk_at "T")))
local macro_rules | `(tactic| walk_at "S") => `(tactic| first
  | (apply S_return; (· walk_at "E"))
  | (apply S_ifT; (· walk_at "T"); (· walk_at "B"))
  | (apply S_ifF; (· walk_at "T"); (· walk_at "B"))
  | (apply S_own (es := []) (ps := []); (· exact L_nil); (· decide); (· exact rfl); (· exact rfl))
  | (apply S_assign; (· walk_at "E"); (· exact rfl); (· exact rfl); (· exact rfl))
  | (apply S_unpack; (· walk_at "E"); (· exact rfl); (· exact rfl); (· exact rfl); (· exact rfl); (· exact rfl); (· exact rfl))
  | (apply S_aug_add; (· exact rfl); (· walk_at "E"); (· exact rfl); (· exact rfl))
  | (apply S_aug_sub; (· exact rfl); (· walk_at "E"); (· exact rfl); (· exact rfl))
  | (apply S_append; (· exact rfl); (· walk_at "E"); (· exact rfl); (· exact rfl); (· (simp; done)); (· exact rfl))
  | (apply S_while; (· walk_at "W"))
  | (apply Names.raiseS (by assumption); (· omega); (· exact rfl)))
local macro_rules | `(tactic| walk_at "W") => `(tactic| first
  | (apply W_exit; (· walk_at "T"))
  | (apply W_gen; (· walk_at "T"); (· walk_at "B"); (· walk_at "WC")))
local macro_rules | `(tactic| walk_at "C") => `(tactic| first
  | (apply Cont_next; (· walk_at "B")) | exact Cont_ret | exact Cont_retF | exact Cont_brk | exact Cont_cont)
local macro_rules | `(tactic| walk_at "WC") => `(tactic| first
  | (apply WCont_next; (· walk_at "W")) | exact WCont_ret | exact WCont_retF)
local macro_rules | `(tactic| walk_at "B") => `(tactic| first
  | exact B_nil
  | (apply B_gen; (· walk_at "S"); (· walk_at "C"))
  | (apply B_exn; (· walk_at "S")))
variable {c : Cx} {d : Nat}
def isOp (k : Str) (v : PV) (t : Str) : Bool := k == "OP" && match v with
  | .str u => u == t
  | _ => false
theorem kind_at_ok (g : Names c) {T : List PV} {a : Int} {k : Str} {v : PV} (h : TokAt T a k v) (hT : T.length ≤ 50000) : CallOk c d r_kind_at [.lst T, .int a] (.ok (.str k)) := by
  apply call_ret g.lone pl_kind_at rfl
  walk_at "B"
local macro_rules | `(tactic| walk_at "spec") => `(tactic| (apply kind_at_ok <;> walk_at "side"))
theorem is_op_k (g : Names c) {T : List PV} {a : Int} {k t : Str} {v : PV} (h : TokAt T a k v) (hT : T.length ≤ 50000) (hk : (k == "OP") = false) : CallOk c d r_is_op [.lst T, .int a, .str t] (.ok (.bool false)) := by
  apply call_ret g.lone pl_is_op rfl
  apply B_gen
  · apply S_return
    apply E_andT
    · walk_at "E"
    · apply E_andF
      apply E_cmpB (b' := false)
      · walk_at "E"
      · walk_at "E"
      · exact cmp_eq_str
      · exact hk
      · exact rfl
  · walk_at "C"
theorem is_op_op (g : Names c) {T : List PV} {a : Int} {u t : Str} {b : Bool} (h : TokAt T a "OP" (.str u)) (hT : T.length ≤ 50000) (hb : (u == t) = b) : CallOk c d r_is_op [.lst T, .int a, .str t] (.ok (.bool b)) := by
  apply call_ret g.lone pl_is_op rfl
  apply B_gen
  · apply S_return
    apply E_andT
    · walk_at "E"
    · apply E_andT
      · walk_at "E"
      · apply E_bool1
        apply E_cmpB
        · walk_at "E"
        · walk_at "E"
        · exact cmp_eq_str
        · exact hb
        · exact rfl
  · walk_at "C"
theorem is_op_end (g : Names c) {T : List PV} {a : Int} {t : Str} (h : T.length ≤ a) (hT : T.length ≤ 50000) : CallOk c d r_is_op [.lst T, .int a, .str t] (.ok (.bool false)) := by
  apply call_ret g.lone pl_is_op rfl
  walk_at "B"
theorem is_opT (g : Names c) {T : List PV} {a : Int} {k t : Str} {v : PV} (h : TokAt T a k v) (hT : T.length ≤ 50000) (hb : isOp k v t = true) : CallOk c d r_is_op [.lst T, .int a, .str t] (.ok (.bool true)) := by
  unfold isOp at hb
  rw [Bool.and_eq_true] at hb
  obtain rfl : k = "OP" := by simpa using hb.1
  cases v <;> first | (cases hb.2; done) | skip
  exact is_op_op g h hT hb.2
theorem is_opF (g : Names c) {T : List PV} {a : Int} {k t : Str} {v : PV} (h : TokAt T a k v) (hT : T.length ≤ 50000) (hk : isOp k v t = false ∧ (k == "OP") = false ∨ ∃ u, v = .str u ∧ (u == t) = false ∧ k = "OP") : CallOk c d r_is_op [.lst T, .int a, .str t] (.ok (.bool false)) := by
  rcases hk with ⟨_, hk⟩ | ⟨u, rfl, h1, rfl⟩
  · exact is_op_k g h hT hk
  · exact is_op_op g h hT h1
local macro_rules | `(tactic| walk_at "spec") => `(tactic| first
  | (apply is_opT <;> walk_at "side")
  | (apply is_op_k <;> walk_at "side")
  | (apply is_op_op (b := false) <;> walk_at "side")
  | (apply is_op_end <;> walk_at "side"))
theorem need_op_ok (g : Names c) {T : List PV} {a : Int} {t : Str} (h : TokAt T a "OP" (.str t)) (hT : T.length ≤ 50000) (hd : 1 ≤ d) : CallOk c d r_need_op [.lst T, .int a, .str t] (.ok (.int (a + 1))) := by
  apply call_ret g.lone pl_need_op rfl
  have hb : isOp "OP" (.str t) t = true := by unfold isOp; simp
  apply B_gen
  · apply S_ifF
    · apply T_notF
      apply T_call
      apply E_callD (find_is_op g) rfl (by walk_at "L") (is_opT g h hT hb) (by omega) rfl rfl
    · walk_at "B"
  · walk_at "C"
theorem need_name_ok (g : Names c) {T : List PV} {a : Int} {v : PV} (h : TokAt T a "NAME" v) (hT : T.length ≤ 50000) (hd : 1 ≤ d) : CallOk c d r_need_name [.lst T, .int a] (.ok (.tup [v, .int (a + 1)])) := by
  apply call_ret g.lone pl_need_name rfl
  walk_at "B"
theorem higher_ok (g : Names c) {a : Int} (h : a < 100) : CallOk c d r_higher [.int a] (.ok (.int (a + 1))) := by
  apply call_ret g.lone pl_higher rfl
  walk_at "B"
theorem deeper_ok (g : Names c) {a : Int} (h : a < 40) : CallOk c d r_deeper [.int a] (.ok (.int (a + 1))) := by
  apply call_ret g.lone pl_deeper rfl
  walk_at "B"
theorem constant_int' (g : Names c) {v : Int} (hv : v.natAbs < 2 ^ 62) : CallOk c d r_constant_of [.str "INT", .int v, .int 1] (.ok (.tup [.str "int", .int (1 * v)])) := by
  apply call_ret g.lone pl_constant_of rfl
  walk_at "B"
theorem constant_int (g : Names c) {v : Int} (hv : v.natAbs < 2 ^ 62) : CallOk c d r_constant_of [.str "INT", .int v, .int 1] (.ok (.tup [.str "int", .int v])) := by
  have := constant_int' (d := d) g hv
  rwa [Int.one_mul] at this
local macro_rules | `(tactic| walk_at "spec") => `(tactic| first
  | (apply need_op_ok <;> walk_at "side")
  | (apply need_name_ok <;> walk_at "side")
  | (apply higher_ok <;> walk_at "side")
  | (apply deeper_ok <;> walk_at "side")
  | (apply constant_int <;> walk_at "side"))
theorem part_end_no (g : Names c) {T : List PV} {a : Int} (h : TokAt T a "OP" (.str "/")) (hT : T.length ≤ 50000) (hd : 1 ≤ d) : CallOk c d r_part_end [.lst T, .int a] (.ok (.int (-1))) := by
  apply call_ret g.lone pl_part_end rfl
  walk_at "B"
local macro_rules | `(tactic| walk_at "spec") => `(tactic| (apply part_end_no <;> walk_at "side"))
theorem is_complex_no (g : Names c) {T : List PV} {a : Int} (h : TokAt T (a + 1) "OP" (.str "/")) (hT : T.length ≤ 50000) (hd : 2 ≤ d) : CallOk c d r_is_complex [.lst T, .int a] (.ok (.bool false)) := by
  apply call_ret g.lone pl_is_complex rfl
  walk_at "B"
local macro_rules | `(tactic| walk_at "spec") => `(tactic| (apply is_complex_no <;> walk_at "side"))
theorem priority_close (g : Names c) {T : List PV} {a : Int} (h : TokAt T a "OP" (.str ")")) (hT : T.length ≤ 50000) (hd : 1 ≤ d) : CallOk c d r_priority_at [.lst T, .int a] (.ok (.int 0)) := by
  apply call_ret g.lone pl_priority_at rfl
  walk_at "B"
theorem priority_comma (g : Names c) {T : List PV} {a : Int} (h : TokAt T a "OP" (.str ",")) (hT : T.length ≤ 50000) (hd : 1 ≤ d) : CallOk c d r_priority_at [.lst T, .int a] (.ok (.int 0)) := by
  apply call_ret g.lone pl_priority_at rfl
  walk_at "B"
local macro_rules | `(tactic| walk_at "spec") => `(tactic| first
  | (apply priority_close <;> walk_at "side")
  | (apply priority_comma <;> walk_at "side"))
/-! operands -/
theorem read_primary_int (g : Names c) {T : List PV} {a n : Int} {v : Int} (h : TokAt T a "INT" (.int v)) (hv : v.natAbs < 2 ^ 62) (hT : T.length ≤ 50000) (hd : 1 ≤ d) : CallOk c d r_read_primary [.lst T, .int a, .int n] (.ok (.tup [.tup [.str "int", .int v], .int (a + 1), .int 0])) := by
  apply call_ret g.lone pl_read_primary rfl
  walk_at "B"
local macro_rules | `(tactic| walk_at "spec") => `(tactic| (apply read_primary_int <;> walk_at "side"))
theorem read_named_plain (g : Names c) {T : List PV} {a n : Int} {v : Str} {t : Str} (h : TokAt T a "NAME" (.str v)) (h1 : TokAt T (a + 1) "OP" (.str t)) (ht : (t == "(") = false) (hT : T.length ≤ 50000) (hd : 2 ≤ d) :
    CallOk c d r_read_named [.lst T, .int a, .int n] (.ok (.tup [.tup [.str "name", .str v], .int (a + 1), .int 0])) := by
  apply call_ret g.lone pl_read_named rfl
  walk_at "B"
local macro_rules | `(tactic| walk_at "spec") => `(tactic| (apply read_named_plain <;> walk_at "side"))
theorem read_primary_name (g : Names c) {T : List PV} {a n : Int} {v : Str} {t : Str} (h : TokAt T a "NAME" (.str v)) (h1 : TokAt T (a + 1) "OP" (.str t)) (ht : (t == "(") = false) (hT : T.length ≤ 50000) (hd : 3 ≤ d) :
    CallOk c d r_read_primary [.lst T, .int a, .int n] (.ok (.tup [.tup [.str "name", .str v], .int (a + 1), .int 0])) := by
  apply call_ret g.lone pl_read_primary rfl
  walk_at "B"
local macro_rules | `(tactic| walk_at "spec") => `(tactic| (apply read_primary_name <;> walk_at "side"))
/-- an operand at a, behind which e is read -/
structure Operand (c : Cx) (T : List PV) (a : Int) (e : PV) : Prop where
  here : ∃ k v, TokAt T a k v ∧ (k == "OP") = false
  prim : ∀ (d : Nat) (n : Int), 3 ≤ d → CallOk c d r_read_primary [.lst T, .int a, .int n] (.ok (.tup [e, .int (a + 1), .int 0]))
  prio : ∀ d : Nat, 1 ≤ d → CallOk c d r_priority_at [.lst T, .int (a + 1)] (.ok (.int 0))
theorem read_first_ok (g : Names c) {T : List PV} {a n : Int} {e : PV} (o : Operand c T a e) (hT : T.length ≤ 50000) (hd : 4 ≤ d) : CallOk c d r_read_first [.lst T, .int a, .int 1, .int n] (.ok (.tup [e, .int (a + 1), .int 0])) := by
  obtain ⟨k, v, h, hk⟩ := o.here
  have hp := o.prim (d - 1) n (by omega)
  apply call_ret g.lone pl_read_first rfl
  walk_at "B"
theorem read_binary_ok (g : Names c) {T : List PV} {a n : Int} {e : PV} (o : Operand c T a e) (hT : T.length ≤ 50000) (hd : 5 ≤ d) : CallOk c d r_read_binary [.lst T, .int a, .int 1, .int n] (.ok (.tup [e, .int (a + 1), .int 0])) := by
  have hp := read_first_ok (d := d - 1) (n := n) g o hT (by omega)
  have hq := o.prio (d - 1) (by omega)
  apply call_ret g.lone pl_read_binary rfl
  walk_at "B"
theorem parse_expr_ok (g : Names c) {T : List PV} {a : Int} {e : PV} (o : Operand c T a e) (hT : T.length ≤ 50000) (hd : 6 ≤ d) : CallOk c d r_parse_expr [.lst T, .int a] (.ok (.tup [e, .int (a + 1)])) := by
  have hp := read_binary_ok (d := d - 1) (n := 0) g o hT (by omega)
  apply call_ret g.lone pl_parse_expr rfl
  walk_at "B"
theorem operand_int (g : Names c) {T : List PV} {a : Int} {v : Int} (h : TokAt T a "INT" (.int v)) (hv : v.natAbs < 2 ^ 62) (hT : T.length ≤ 50000) (h1 : TokAt T (a + 1) "OP" (.str ")") ∨ TokAt T (a + 1) "OP" (.str ",")) : Operand c T a (.tup [.str "int", .int v]) :=
  ⟨⟨_, _, h, rfl⟩, fun d n hd => read_primary_int g h hv hT (by omega), fun d hd => h1.elim (fun h1 => priority_close g h1 hT hd) fun h1 => priority_comma g h1 hT hd⟩
theorem operand_name (g : Names c) {T : List PV} {a : Int} {v : Str} (h : TokAt T a "NAME" (.str v)) (hT : T.length ≤ 50000) (h1 : TokAt T (a + 1) "OP" (.str ")")) : Operand c T a (.tup [.str "name", .str v]) :=
  ⟨⟨_, _, h, rfl⟩, fun d n hd => read_primary_name g h h1 rfl hT (by omega), fun d hd => priority_close g h1 hT hd⟩
/-! the element A(I1) -/
theorem TokAt.small {T : List PV} {a : Int} {k : Str} {v : PV} (h : TokAt T a k v) : a < 50000 := by obtain ⟨i, p, rfl, h, _⟩ := h; omega
theorem close_at_ok (g : Names c) {T : List PV} {a : Int} {v : Str} (h0 : TokAt T a "OP" (.str "(")) (h1 : TokAt T (a + 1) "NAME" (.str v)) (h2 : TokAt T (a + 2) "OP" (.str ")")) (hT : T.length ≤ 50000) (hd : 2 ≤ d) :
    CallOk c d r_close_at [.lst T, .int a] (.ok (.int (a + 2))) := by
  have K : Known T [(a, "OP", .str "("), (a + 1, "NAME", .str v), (a + 2, "OP", .str ")")] := .cons h0 (.cons h1 (.cons h2 .nil))
  have e0 := h0.pos
  have e1 := h0.small
  have e2 := h2.lt
  apply call_ret g.lone pl_close_at rfl
  apply B_gen
  · walk_at "S"
  apply Cont_next
  apply B_gen
  · apply S_for2 (Names.rng g)
    · exact rfl
    · walk_at "E"
    · walk_at "E"
    · exact rfl
    · exact rfl
    · exact rfl
    · omega
    · apply F_more
      · omega
      · exact rfl
      · exact rfl
      · walk_at "B"
      · apply FCont_next
        apply F_more
        · omega
        · exact rfl
        · exact rfl
        · walk_at "B"
        · apply FCont_next
          apply F_more
          · omega
          · exact rfl
          · exact rfl
          · walk_at "B"
          · exact FCont_ret
  · rw [show a + 1 + 1 = a + 2 by omega]
    exact Cont_ret
local macro_rules | `(tactic| walk_at "spec") => `(tactic| (apply close_at_ok <;> walk_at "side"))
theorem holds_mark_no (g : Names c) {T : List PV} {a : Int} {v : Str} (h0 : TokAt T a "OP" (.str "(")) (h1 : TokAt T (a + 1) "NAME" (.str v)) (h2 : TokAt T (a + 2) "OP" (.str ")")) (hT : T.length ≤ 50000) (hd : 3 ≤ d) :
    CallOk c d r_holds_mark [.lst T, .int a, .str ":"] (.ok (.bool false)) := by
  have K : Known T [(a, "OP", .str "("), (a + 1, "NAME", .str v), (a + 2, "OP", .str ")")] := .cons h0 (.cons h1 (.cons h2 .nil))
  have e0 := h0.pos
  have e1 := h0.small
  apply call_ret g.lone pl_holds_mark rfl
  apply B_gen
  · walk_at "S"
  apply Cont_next
  apply B_gen
  · walk_at "S"
  apply Cont_next
  apply B_gen
  · apply S_for2 (Names.rng g)
    · exact rfl
    · walk_at "E"
    · walk_at "E"
    · exact rfl
    · exact rfl
    · exact rfl
    · omega
    · apply F_more
      · omega
      · exact rfl
      · exact rfl
      · walk_at "B"
      · apply FCont_next
        apply F_none
        omega
  · walk_at "C"
local macro_rules | `(tactic| walk_at "spec") => `(tactic| (apply holds_mark_no <;> walk_at "side"))
theorem read_arguments_ok (g : Names c) {T : List PV} {a n : Int} {v : Str} (h0 : TokAt T a "OP" (.str "(")) (h1 : TokAt T (a + 1) "NAME" (.str v)) (h2 : TokAt T (a + 2) "OP" (.str ")")) (hT : T.length ≤ 50000) (hd : 6 ≤ d) :
    CallOk c d r_read_arguments [.lst T, .int a, .bool false, .int n] (.ok (.tup [.lst [.tup [.str "name", .str v]], .int (a + 3), .int 0])) := by
  have K : Known T [(a, "OP", .str "("), (a + 1, "NAME", .str v), (a + 2, "OP", .str ")")] := .cons h0 (.cons h1 (.cons h2 .nil))
  have o := operand_name g h1 hT (by rwa [show a + 1 + 1 = a + 2 by omega])
  have hp := read_binary_ok (d := d - 1) (n := n) g o hT (by omega)
  rw [show a + 3 = a + 1 + 1 + 1 by omega]
  apply call_ret g.lone pl_read_arguments rfl
  walk_at "B"
local macro_rules | `(tactic| walk_at "spec") => `(tactic| (apply read_arguments_ok <;> walk_at "side"))
def elemT : PV := .tup [.str "ref", .str "A", .lst [.tup [.str "name", .str "I1"]]]
theorem cmp_name_nil : CmpOk c .Eq (.lst [.tup [.str "name", .str "I1"]]) (.lst []) false :=
  cmp_eq_pv (p := .lst [.tup [.str "name", .str "I1"]]) (q := .lst []) (by decide +kernel) (by decide +kernel) (by decide +kernel)
local macro_rules | `(tactic| walk_at "cmp") => `(tactic| exact cmp_name_nil)
theorem read_named_elem (g : Names c) {T : List PV} {a : Int} {t : Str} (h0 : TokAt T a "NAME" (.str "A")) (h1 : TokAt T (a + 1) "OP" (.str "(")) (h2 : TokAt T (a + 2) "NAME" (.str "I1")) (h3 : TokAt T (a + 3) "OP" (.str ")")) (h4 : TokAt T (a + 4) "OP" (.str t)) (ht : (t == "(") = false)
    (hT : T.length ≤ 50000) (hd : 7 ≤ d) : CallOk c d r_read_named [.lst T, .int a, .int 0] (.ok (.tup [elemT, .int (a + 4), .int 1])) := by
  have K : Known T [(a, "NAME", .str "A"), (a + 1, "OP", .str "("), (a + 2, "NAME", .str "I1"), (a + 3, "OP", .str ")"), (a + 4, "OP", .str t)] := .cons h0 (.cons h1 (.cons h2 (.cons h3 (.cons h4 .nil))))
  rw [show a + 4 = a + 1 + 3 by omega]
  unfold elemT
  apply call_ret g.lone pl_read_named rfl
  walk_at "B"
theorem parse_target_elem (g : Names c) {T : List PV} {a : Int} {t : Str} (h0 : TokAt T a "NAME" (.str "A")) (h1 : TokAt T (a + 1) "OP" (.str "(")) (h2 : TokAt T (a + 2) "NAME" (.str "I1")) (h3 : TokAt T (a + 3) "OP" (.str ")")) (h4 : TokAt T (a + 4) "OP" (.str t)) (ht : (t == "(") = false)
    (hT : T.length ≤ 50000) (hd : 8 ≤ d) : CallOk c d r_parse_target [.lst T, .int a] (.ok (.tup [elemT, .int (a + 4)])) := by
  have hp := read_named_elem (d := d - 1) g h0 h1 h2 h3 h4 ht hT (by omega)
  apply call_ret g.lone pl_parse_target rfl
  walk_at "B"
theorem parse_place_elem (g : Names c) {T : List PV} {a : Int} {t : Str} (h0 : TokAt T a "NAME" (.str "A")) (h1 : TokAt T (a + 1) "OP" (.str "(")) (h2 : TokAt T (a + 2) "NAME" (.str "I1")) (h3 : TokAt T (a + 3) "OP" (.str ")")) (h4 : TokAt T (a + 4) "OP" (.str t)) (ht : (t == "(") = false)
    (hT : T.length ≤ 50000) (hd : 9 ≤ d) : CallOk c d r_parse_place [.lst T, .int a] (.ok (.tup [elemT, .int (a + 4)])) := by
  have hp := parse_target_elem (d := d - 1) g h0 h1 h2 h3 h4 ht hT (by omega)
  unfold elemT at hp ⊢
  apply call_ret g.lone pl_parse_place rfl
  walk_at "B"
theorem parse_target_plain (g : Names c) {T : List PV} {a : Int} {v t : Str} (h0 : TokAt T a "NAME" (.str v)) (h1 : TokAt T (a + 1) "OP" (.str t)) (ht : (t == "(") = false) (hT : T.length ≤ 50000) (hd : 3 ≤ d) :
    CallOk c d r_parse_target [.lst T, .int a] (.ok (.tup [.tup [.str "name", .str v], .int (a + 1)])) := by
  apply call_ret g.lone pl_parse_target rfl
  walk_at "B"
theorem parse_place_plain (g : Names c) {T : List PV} {a : Int} {v t : Str} (h0 : TokAt T a "NAME" (.str v)) (h1 : TokAt T (a + 1) "OP" (.str t)) (ht : (t == "(") = false) (hT : T.length ≤ 50000) (hd : 4 ≤ d) :
    CallOk c d r_parse_place [.lst T, .int a] (.ok (.tup [.tup [.str "name", .str v], .int (a + 1)])) := by
  have hp := parse_target_plain (d := d - 1) g h0 h1 ht hT (by omega)
  apply call_ret g.lone pl_parse_place rfl
  walk_at "B"
theorem parse_constant_int (g : Names c) {T : List PV} {a v : Int} (h0 : TokAt T a "INT" (.int v)) (h1 : TokAt T (a + 1) "OP" (.str "/")) (hv : v.natAbs < 2 ^ 62) (hT : T.length ≤ 50000) (hd : 3 ≤ d) :
    CallOk c d r_parse_constant [.lst T, .int a] (.ok (.tup [.tup [.str "int", .int v], .int (a + 1)])) := by
  apply call_ret g.lone pl_parse_constant rfl
  walk_at "B"
theorem parse_value_int (g : Names c) {T : List PV} {a v : Int} (h0 : TokAt T a "INT" (.int v)) (h1 : TokAt T (a + 1) "OP" (.str "/")) (hv : v.natAbs < 2 ^ 62) (hT : T.length ≤ 50000) (hd : 4 ≤ d) :
    CallOk c d r_parse_value [.lst T, .int a] (.ok (.tup [.tup [.none, .tup [.str "int", .int v]], .int (a + 1)])) := by
  have hp := parse_constant_int (d := d - 1) g h0 h1 hv hT (by omega)
  apply call_ret g.lone pl_parse_value rfl
  walk_at "B"
section
local macro_rules | `(tactic| walk_at "S") => `(tactic| (apply S_returnF; (· exact rfl); (· walk_at "E"); (· exact rfl); (· exact rfl)))
theorem parse_list2 (g : Names c) {T : List PV} {a : Int} {e1 e2 : PV} (o1 : Operand c T a e1) (h1 : TokAt T (a + 1) "OP" (.str ",")) (o2 : Operand c T (a + 2) e2) (h3 : TokAt T (a + 3) "OP" (.str ")")) (hT : T.length ≤ 50000) (hd : 7 ≤ d) :
    CallF c d r_parse_list [.lst T, .int a] [e1, e2] (.int (a + 3)) := by
  have p1 := parse_expr_ok (d := d - 1) g o1 hT (by omega)
  have p2 := parse_expr_ok (d := d - 1) g o2 hT (by omega)
  rw [show a + 2 = a + 1 + 1 by omega] at p2
  rw [show a + 3 = a + 1 + 1 + 1 by omega] at h3 ⊢
  apply call_retF g.lone pl_parse_list rfl
  walk_at "B"
theorem parse_list3 (g : Names c) {T : List PV} {a : Int} {e1 e2 e3 : PV} (o1 : Operand c T a e1) (h1 : TokAt T (a + 1) "OP" (.str ",")) (o2 : Operand c T (a + 2) e2) (h3 : TokAt T (a + 3) "OP" (.str ",")) (o3 : Operand c T (a + 4) e3) (h5 : TokAt T (a + 5) "OP" (.str ")")) (hT : T.length ≤ 50000) (hd : 7 ≤ d) :
    CallF c d r_parse_list [.lst T, .int a] [e1, e2, e3] (.int (a + 5)) := by
  have p1 := parse_expr_ok (d := d - 1) g o1 hT (by omega)
  have p2 := parse_expr_ok (d := d - 1) g o2 hT (by omega)
  have p3 := parse_expr_ok (d := d - 1) g o3 hT (by omega)
  rw [show a + 2 = a + 1 + 1 by omega] at p2
  rw [show a + 3 = a + 1 + 1 + 1 by omega] at h3
  rw [show a + 4 = a + 1 + 1 + 1 + 1 by omega] at p3
  rw [show a + 5 = a + 1 + 1 + 1 + 1 + 1 by omega] at h5 ⊢
  apply call_retF g.lone pl_parse_list rfl
  walk_at "B"
end
section
local macro_rules | `(tactic| walk_at "S") => `(tactic| (apply S_unpackF; (· walk_at "find"); (· exact rfl); (· walk_at "L"); (· assumption); (· omega); (· exact rfl); (· exact rfl); (· exact rfl); (· exact rfl); (· exact rfl); (· exact rfl)))
theorem parse_bounds2 (g : Names c) {T : List PV} {a : Int} {e1 e2 : PV} (o1 : Operand c T a e1) (h1 : TokAt T (a + 1) "OP" (.str ",")) (o2 : Operand c T (a + 2) e2) (h3 : TokAt T (a + 3) "OP" (.str ")")) (hT : T.length ≤ 50000) (hd : 8 ≤ d) :
    CallOk c d r_parse_bounds [.lst T, .int a] (.ok (.tup [.lst [e1, e2, .none], .int (a + 3)])) := by
  have p := parse_list2 (d := d - 1) g o1 h1 o2 h3 hT (by omega)
  apply call_ret g.lone pl_parse_bounds rfl
  walk_at "B"
theorem parse_bounds3 (g : Names c) {T : List PV} {a : Int} {e1 e2 e3 : PV} (o1 : Operand c T a e1) (h1 : TokAt T (a + 1) "OP" (.str ",")) (o2 : Operand c T (a + 2) e2) (h3 : TokAt T (a + 3) "OP" (.str ",")) (o3 : Operand c T (a + 4) e3) (h5 : TokAt T (a + 5) "OP" (.str ")")) (hT : T.length ≤ 50000) (hd : 8 ≤ d) :
    CallOk c d r_parse_bounds [.lst T, .int a] (.ok (.tup [.lst [e1, e2, e3], .int (a + 5)])) := by
  have p := parse_list3 (d := d - 1) g o1 h1 o2 h3 o3 h5 hT (by omega)
  apply call_ret g.lone pl_parse_bounds rfl
  walk_at "B"
end
local macro_rules | `(tactic| walk_at "LX") => `(tactic| first
  | (apply L_cons_x; (· exact rfl); (· walk_at "EX"))
  | (apply L_cons_y; (· exact rfl); (· walk_at "E"); (· walk_at "LX")))
local macro_rules | `(tactic| walk_at "EX") => `(tactic| first
  | (apply E_call_x; (· walk_at "find"); (· exact rfl); (· walk_at "LX"); (· exact rfl); (· exact rfl))
  | (apply E_callD; (· walk_at "find"); (· exact rfl); (· walk_at "L"); (· walk_at "spec"); (· omega); (· exact rfl); (· exact rfl)))
local macro_rules | `(tactic| walk_at "SX") => `(tactic| first
  | (apply Names.raiseS (by assumption); (· omega); (· exact rfl))
  | (apply S_return_x; (· walk_at "EX"))
  | (apply S_unpack_x; (· walk_at "EX"); (· exact rfl); (· exact rfl))
  | (apply S_ifT; (· walk_at "T"); (· walk_at "BX"))
  | (apply S_ifF; (· walk_at "T"); (· walk_at "BX"))
  | (apply S_while; (· apply W_exn; (· walk_at "T"); (· walk_at "BX"))))
local macro_rules | `(tactic| walk_at "BX") => `(tactic| first
  | (apply B_exn; (· walk_at "SX"))
  | (apply B_gen; (· walk_at "S"); (· apply Cont_next; (· walk_at "BX"))))
theorem deeper_x (g : Names c) {a : Int} (h : 40 ≤ a) (hd : 4 ≤ d) : CallOk c d r_deeper [.int a] .exn := by
  apply call_exn g.lone pl_deeper rfl
  walk_at "BX"
local macro_rules | `(tactic| walk_at "spec") => `(tactic| (apply deeper_x <;> walk_at "side"))
theorem loop_deep (g : Names c) {T : List PV} {a deep : Int} (h0 : TokAt T a "OP" (.str "(")) (hdeep : 40 ≤ deep) (hT : T.length ≤ 50000) (hd : 6 ≤ d) : CallOk c d r_parse_data_loop [.lst T, .int a, .int deep] .exn := by
  apply call_exn g.lone pl_parse_data_loop rfl
  walk_at "BX"
theorem loop_inner (g : Names c) {T : List PV} {a deep : Int} (h0 : TokAt T a "OP" (.str "(")) (hdeep : deep < 40) (hT : T.length ≤ 50000) (hd : 6 ≤ d) (hp : CallOk c (d - 1) r_parse_data_target [.lst T, .int (a + 1), .int (deep + 1)] .exn) : CallOk c d r_parse_data_loop [.lst T, .int a, .int deep] .exn := by
  apply call_exn g.lone pl_parse_data_loop rfl
  walk_at "BX"
theorem loop_name (g : Names c) {T : List PV} {a b deep : Int} {v : PV} (h0 : TokAt T a "OP" (.str "(")) (hdeep : deep < 40) (hT : T.length ≤ 50000) (hd : 6 ≤ d) (hp : CallOk c (d - 1) r_parse_data_target [.lst T, .int (a + 1), .int (deep + 1)] (.ok (.tup [.tup [.str "name", v], .int b]))) :
    CallOk c d r_parse_data_loop [.lst T, .int a, .int deep] .exn := by
  apply call_exn g.lone pl_parse_data_loop rfl
  walk_at "BX"
theorem target_loop_x (g : Names c) {T : List PV} {a deep : Int} (h0 : TokAt T a "OP" (.str "(")) (hT : T.length ≤ 50000) (hd : 6 ≤ d) (hp : CallOk c (d - 1) r_parse_data_loop [.lst T, .int a, .int deep] .exn) : CallOk c d r_parse_data_target [.lst T, .int a, .int deep] .exn := by
  apply call_exn g.lone pl_parse_data_target rfl
  walk_at "BX"
theorem target_loop (g : Names c) {T : List PV} {a deep : Int} {p : PV} (h0 : TokAt T a "OP" (.str "(")) (hT : T.length ≤ 50000) (hd : 6 ≤ d) (hp : CallOk c (d - 1) r_parse_data_loop [.lst T, .int a, .int deep] (.ok p)) : CallOk c d r_parse_data_target [.lst T, .int a, .int deep] (.ok p) := by
  apply call_ret g.lone pl_parse_data_target rfl
  walk_at "B"
theorem target_place (g : Names c) {T : List PV} {a deep : Int} {v p : PV} (h0 : TokAt T a "NAME" v) (hT : T.length ≤ 50000) (hd : 6 ≤ d) (hp : CallOk c (d - 1) r_parse_place [.lst T, .int a] (.ok p)) : CallOk c d r_parse_data_target [.lst T, .int a, .int deep] (.ok p) := by
  apply call_ret g.lone pl_parse_data_target rfl
  walk_at "B"
theorem loop_ido (g : Names c) {T : List PV} {a b e deep : Int} {rest : List PV} {nm e1 e2 e3 : PV} (h0 : TokAt T a "OP" (.str "(")) (hdeep : deep < 40) (hT : T.length ≤ 50000) (hd : 6 ≤ d)
    (hp : CallOk c (d - 1) r_parse_data_target [.lst T, .int (a + 1), .int (deep + 1)] (.ok (.tup [.tup (.str "ido" :: rest), .int b])))
    (h1 : TokAt T b "OP" (.str ",")) (h2 : TokAt T (b + 1) "NAME" nm) (h3 : TokAt T (b + 2) "OP" (.str "=")) (hb : CallOk c (d - 1) r_parse_bounds [.lst T, .int (b + 3)] (.ok (.tup [.lst [e1, e2, e3], .int e]))) (h4 : TokAt T e "OP" (.str ")")) :
    CallOk c d r_parse_data_loop [.lst T, .int a, .int deep] (.ok (.tup [.tup [.str "ido", .lst [.tup (.str "ido" :: rest)], nm, e1, e2, e3], .int (e + 1)])) := by
  rw [show b + 3 = b + 1 + 1 + 1 by omega] at hb
  rw [show b + 2 = b + 1 + 1 by omega] at h3
  apply call_ret g.lone pl_parse_data_loop rfl
  walk_at "B"
theorem loop_ref1 (g : Names c) {T : List PV} {a b e deep : Int} {rest : List PV} {nm e1 e2 e3 : PV} (h0 : TokAt T a "OP" (.str "(")) (hdeep : deep < 40) (hT : T.length ≤ 50000) (hd : 6 ≤ d)
    (hp : CallOk c (d - 1) r_parse_data_target [.lst T, .int (a + 1), .int (deep + 1)] (.ok (.tup [.tup (.str "ref" :: rest), .int b])))
    (h1 : TokAt T b "OP" (.str ",")) (h2 : TokAt T (b + 1) "NAME" nm) (h3 : TokAt T (b + 2) "OP" (.str "=")) (hb : CallOk c (d - 1) r_parse_bounds [.lst T, .int (b + 3)] (.ok (.tup [.lst [e1, e2, e3], .int e]))) (h4 : TokAt T e "OP" (.str ")")) :
    CallOk c d r_parse_data_loop [.lst T, .int a, .int deep] (.ok (.tup [.tup [.str "ido", .lst [.tup (.str "ref" :: rest)], nm, e1, e2, e3], .int (e + 1)])) := by
  rw [show b + 3 = b + 1 + 1 + 1 by omega] at hb
  rw [show b + 2 = b + 1 + 1 by omega] at h3
  apply call_ret g.lone pl_parse_data_loop rfl
  walk_at "B"
theorem loop_ref2 (g : Names c) {T : List PV} {a a' b e deep : Int} {rest rest' : List PV} {t : Str} {nm e1 e2 e3 : PV} (h0 : TokAt T a "OP" (.str "(")) (hdeep : deep < 40) (hT : T.length ≤ 50000) (hd : 6 ≤ d)
    (hp : CallOk c (d - 1) r_parse_data_target [.lst T, .int (a + 1), .int (deep + 1)] (.ok (.tup [.tup (.str "ref" :: rest), .int a'])))
    (k1 : TokAt T a' "OP" (.str ",")) (k2 : TokAt T (a' + 1 + 1) "OP" (.str t)) (kt : (t == "=") = false)
    (hp' : CallOk c (d - 1) r_parse_data_target [.lst T, .int (a' + 1), .int (deep + 1)] (.ok (.tup [.tup (.str "ref" :: rest'), .int b])))
    (h1 : TokAt T b "OP" (.str ",")) (h2 : TokAt T (b + 1) "NAME" nm) (h3 : TokAt T (b + 2) "OP" (.str "=")) (hb : CallOk c (d - 1) r_parse_bounds [.lst T, .int (b + 3)] (.ok (.tup [.lst [e1, e2, e3], .int e]))) (h4 : TokAt T e "OP" (.str ")")) :
    CallOk c d r_parse_data_loop [.lst T, .int a, .int deep] (.ok (.tup [.tup [.str "ido", .lst [.tup (.str "ref" :: rest), .tup (.str "ref" :: rest')], nm, e1, e2, e3], .int (e + 1)])) := by
  rw [show b + 3 = b + 1 + 1 + 1 by omega] at hb
  rw [show b + 2 = b + 1 + 1 by omega] at h3
  apply call_ret g.lone pl_parse_data_loop rfl
  walk_at "B"
/-! runs of tokens -/
abbrev TK := Str × PV
def Seg (T : List PV) (a : Int) (ks : List TK) : Prop := ∀ (j : Nat) (k : Str) (v : PV), ks[j]? = some (k, v) → TokAt T (a + j) k v
theorem Seg.left {T : List PV} {a : Int} {xs ys : List TK} (S : Seg T a (xs ++ ys)) : Seg T a xs := fun j k v h => S j k v (by
  have := (List.getElem?_eq_some_iff.mp h).1
  rw [List.getElem?_append_left this]; exact h)
theorem Seg.right {T : List PV} {a : Int} {xs ys : List TK} (S : Seg T a (xs ++ ys)) : Seg T (a + xs.length) ys := fun j k v h => by
  have := S (xs.length + j) k v (by rw [List.getElem?_append_right (by omega)]; simpa using h)
  rwa [show a + ((xs.length + j : Nat) : Int) = a + xs.length + j by omega] at this
theorem Seg.tok {T : List PV} {a b : Int} {ks : List TK} (S : Seg T a ks) (j : Nat) {k : Str} {v : PV} (h : ks[j]? = some (k, v)) (e : a + j = b) : TokAt T b k v := e ▸ S j k v h
def op (s : Str) : TK := ("OP", .str s)
def elemK : List TK := [("NAME", .str "A"), op "(", ("NAME", .str "I1"), op ")"]
def nameOf (k : Nat) : Str := "I" ++ Str.ofString (toString (k : Int))
def tailK (step : Bool) (k : Nat) : List TK := [op ",", ("NAME", .str (nameOf k)), op "=", ("INT", .int 1), op ",", ("INT", .int k)] ++ (if step then [op ",", ("INT", .int 2), op ")"] else [op ")"])
def loopK (step : Bool) (inner : List TK) : Nat → List TK
  | 0 => inner
  | k + 1 => op "(" :: (loopK step inner k ++ tailK step (k + 1))
def intT (i : Int) : PV := .tup [.str "int", .int i]
def ido (step : Bool) (items : List PV) (k : Nat) : PV := .tup [.str "ido", .lst items, .str (nameOf k), intT 1, intT k, if step then intT 2 else .none]
def itemsN (step : Bool) (inner : List PV) : Nat → List PV
  | 0 => inner
  | k + 1 => [ido step (itemsN step inner k) (k + 1)]
theorem tail_ok (g : Names c) {T : List PV} {b : Int} {step : Bool} {k : Nat} (hk : k < 1000) (S : Seg T b (tailK step k)) (hT : T.length ≤ 50000) (hd : 8 ≤ d) :
    TokAt T b "OP" (.str ",") ∧ TokAt T (b + 1) "NAME" (.str (nameOf k)) ∧ TokAt T (b + 2) "OP" (.str "=") ∧
    ∃ e, CallOk c d r_parse_bounds [.lst T, .int (b + 3)] (.ok (.tup [.lst [intT 1, intT k, if step then intT 2 else .none], .int e])) ∧ TokAt T e "OP" (.str ")") ∧ e + 1 = b + (tailK step k).length := by
  refine ⟨S.tok 0 rfl (by omega), S.tok 1 rfl (by omega), S.tok 2 rfl (by omega), ?_⟩
  have i1 : TokAt T (b + 3) "INT" (.int 1) := S.tok 3 rfl (by omega)
  have i2 : TokAt T (b + 3 + 1) "OP" (.str ",") := S.tok 4 rfl (by omega)
  have i3 : TokAt T (b + 3 + 2) "INT" (.int k) := S.tok 5 rfl (by omega)
  have o1 := operand_int g i1 (by decide) hT (.inr i2)
  cases step with
  | false =>
    have i4 : TokAt T (b + 3 + 3) "OP" (.str ")") := S.tok 6 rfl (by omega)
    have o2 := operand_int g i3 (by omega) hT (.inl (by rwa [show b + 3 + 2 + 1 = b + 3 + 3 by omega]))
    exact ⟨b + 3 + 3, parse_bounds2 g o1 i2 o2 i4 hT hd, i4, by show _ = b + ((7 : Nat) : Int); omega⟩
  | true =>
    have i4 : TokAt T (b + 3 + 3) "OP" (.str ",") := S.tok 6 rfl (by omega)
    have i5 : TokAt T (b + 3 + 4) "INT" (.int 2) := S.tok 7 rfl (by omega)
    have i6 : TokAt T (b + 3 + 5) "OP" (.str ")") := S.tok 8 rfl (by omega)
    have o2 := operand_int g i3 (by omega) hT (.inr (by rwa [show b + 3 + 2 + 1 = b + 3 + 3 by omega]))
    have o3 := operand_int g i5 (by decide) hT (.inl (by rwa [show b + 3 + 4 + 1 = b + 3 + 5 by omega]))
    exact ⟨b + 3 + 5, parse_bounds3 g o1 i2 o2 i4 o3 i6 hT hd, i6, by show _ = b + ((9 : Nat) : Int); omega⟩
theorem elem_target (g : Names c) {T : List PV} {a deep : Int} {t : Str} (S : Seg T a elemK) (h : TokAt T (a + 4) "OP" (.str t)) (ht : (t == "(") = false) (hT : T.length ≤ 50000) (hd : 10 ≤ d) :
    CallOk c d r_parse_data_target [.lst T, .int a, .int deep] (.ok (.tup [elemT, .int (a + 4)])) :=
  target_place g (S.tok 0 rfl (by omega)) hT (by omega) (parse_place_elem g (S.tok 0 rfl (by omega)) (S.tok 1 rfl (by omega)) (S.tok 2 rfl (by omega)) (S.tok 3 rfl (by omega)) h ht hT (by omega))
/-- the ways of the innermost place that are let -/
def innerK : Bool → List TK
  | false => elemK
  | true => elemK ++ (op "," :: elemK)
def innerT : Bool → List PV
  | false => [elemT]
  | true => [elemT, elemT]
theorem loop_one (g : Names c) {T : List PV} {a deep : Int} {step two : Bool} (S : Seg T a (loopK step (innerK two) 1)) (hdeep : deep < 40) (hT : T.length ≤ 50000) (hd : 12 ≤ d) :
    CallOk c d r_parse_data_loop [.lst T, .int a, .int deep] (.ok (.tup [ido step (innerT two) 1, .int (a + (loopK step (innerK two) 1).length)])) := by
  have S' : Seg T a ([op "("] ++ (innerK two ++ tailK step 1)) := S
  have h0 : TokAt T a "OP" (.str "(") := S'.tok 0 rfl (by omega)
  have S1 : Seg T (a + 1) (innerK two ++ tailK step 1) := S'.right
  have S2 := S1.right
  have S3 := S1.left
  obtain ⟨t1, t2, t3, e, t4, t5, t6⟩ := tail_ok (d := d - 1) g (k := 1) (by omega) S2 hT (by omega)
  have hlen : (a + (loopK step (innerK two) 1).length : Int) = e + 1 := by
    rw [t6]
    show a + ((([op "("] ++ (innerK two ++ tailK step 1)).length : Nat) : Int) = _
    simp only [List.length_append, List.length_cons, List.length_nil]
    omega
  rw [hlen]
  cases two with
  | false =>
    exact loop_ref1 g h0 hdeep hT (by omega) (elem_target g S3 t1 rfl hT (by omega)) t1 t2 t3 t4 t5
  | true =>
    have S4 : Seg T (a + 1) (elemK ++ ([op ","] ++ elemK)) := S3
    have S5 := S4.right
    have c1 : TokAt T (a + 1 + 4) "OP" (.str ",") := S5.tok 0 rfl (by show a + 1 + 4 + 0 = _; omega)
    have S6 : Seg T (a + 1 + 4 + 1) elemK := S5.right
    have c2 : TokAt T (a + 1 + 4 + 1 + 1) "OP" (.str "(") := S6.tok 1 rfl (by omega)
    have t1' : TokAt T (a + 1 + 4 + 1 + 4) "OP" (.str ",") := by
      have : (a + 1 + (innerK true).length : Int) = a + 1 + 4 + 1 + 4 := by show a + 1 + ((9 : Nat) : Int) = _; omega
      rw [← this]; exact t1
    have hb : (a + 1 + (innerK true).length : Int) = a + 1 + 4 + 1 + 4 := by show a + 1 + ((9 : Nat) : Int) = _; omega
    rw [hb] at t2 t3 t4
    exact loop_ref2 g h0 hdeep hT (by omega) (elem_target g S4.left c1 rfl hT (by omega)) c1 c2 rfl (elem_target g S6 t1' rfl hT (by omega)) t1' t2 t3 t4 t5
theorem loops_ok (g : Names c) {T : List PV} {step two : Bool} (hT : T.length ≤ 50000) : ∀ (n : Nat) (a deep : Int) (d : Nat), Seg T a (loopK step (innerK two) (n + 1)) → deep + n < 40 → 0 ≤ deep → 2 * n + 12 ≤ d →
    CallOk c d r_parse_data_loop [.lst T, .int a, .int deep] (.ok (.tup [ido step (itemsN step (innerT two) n) (n + 1), .int (a + (loopK step (innerK two) (n + 1)).length)]))
  | 0, a, deep, d, S, h1, _, h2 => loop_one g S (by omega) hT (by omega)
  | n + 1, a, deep, d, S, h1, h1', h2 => by
    have S' : Seg T a ([op "("] ++ (loopK step (innerK two) (n + 1) ++ tailK step (n + 2))) := S
    have h0 : TokAt T a "OP" (.str "(") := S'.tok 0 rfl (by omega)
    have S1 : Seg T (a + 1) (loopK step (innerK two) (n + 1) ++ tailK step (n + 2)) := S'.right
    have hp := loops_ok g hT n (a + 1) (deep + 1) (d - 2) S1.left (by omega) (by omega) (by omega)
    obtain ⟨t1, t2, t3, e, t4, t5, t6⟩ := tail_ok (d := d - 1) g (k := n + 2) (by omega) S1.right hT (by omega)
    have hi : TokAt T (a + 1) "OP" (.str "(") := by
      have : Seg T (a + 1) ([op "("] ++ (loopK step (innerK two) n ++ tailK step (n + 1))) := S1.left
      exact this.tok 0 rfl (by omega)
    have hlen : (a + (loopK step (innerK two) (n + 1 + 1)).length : Int) = e + 1 := by
      rw [t6]
      show a + ((([op "("] ++ (loopK step (innerK two) (n + 1) ++ tailK step (n + 2))).length : Nat) : Int) = _
      simp only [List.length_append, List.length_cons, List.length_nil]
      omega
    rw [hlen]
    exact loop_ido g h0 (by omega) hT (by omega) (target_loop g hi hT (by omega) hp) t1 t2 t3 t4 t5
theorem opens_x (g : Names c) {T : List PV} (hT : T.length ≤ 50000) : ∀ (m : Nat) (a deep : Int) (d : Nat), (∀ j : Nat, j ≤ m → TokAt T (a + j) "OP" (.str "(")) → deep + m = 40 → 2 * m + 12 ≤ d →
    CallOk c d r_parse_data_loop [.lst T, .int a, .int deep] .exn
  | 0, a, deep, d, h, h1, h2 => loop_deep g (by simpa using h 0 (by omega)) (by omega) hT (by omega)
  | m + 1, a, deep, d, h, h1, h2 => by
    have h0 : TokAt T a "OP" (.str "(") := by simpa using h 0 (by omega)
    have hi : TokAt T (a + 1) "OP" (.str "(") := by simpa using h 1 (by omega)
    refine loop_inner g h0 (by omega) hT (by omega) (target_loop_x g hi hT (by omega) (opens_x g hT m (a + 1) (deep + 1) (d - 1 - 1) (fun j hj => ?_) (by omega) (by omega)))
    have := h (j + 1) (by omega)
    rwa [show a + ((j + 1 : Nat) : Int) = a + 1 + j by omega] at this
theorem word_x (g : Names c) {T : List PV} {v t : Str} (ht : (t == "(") = false) (hT : T.length ≤ 50000) : ∀ (m : Nat) (a deep : Int) (d : Nat), (∀ j : Nat, j ≤ m → TokAt T (a + j) "OP" (.str "(")) → TokAt T (a + m + 1) "NAME" (.str v) → TokAt T (a + m + 2) "OP" (.str t) → deep + m < 40 → 2 * m + 12 ≤ d →
    CallOk c d r_parse_data_loop [.lst T, .int a, .int deep] .exn
  | 0, a, deep, d, h, h1, h2, h3, h4 => by
    have h1' : TokAt T (a + 1) "NAME" (.str v) := by simpa using h1
    have h2' : TokAt T (a + 1 + 1) "OP" (.str t) := by rw [show a + 1 + 1 = a + ((0 : Nat) : Int) + 2 by omega]; exact h2
    exact loop_name g (by simpa using h 0 (by omega)) (by omega) hT (by omega) (target_place g h1' hT (by omega) (parse_place_plain g h1' h2' ht hT (by omega)))
  | m + 1, a, deep, d, h, h1, h2, h3, h4 => by
    have h0 : TokAt T a "OP" (.str "(") := by simpa using h 0 (by omega)
    have hi : TokAt T (a + 1) "OP" (.str "(") := by simpa using h 1 (by omega)
    refine loop_inner g h0 (by omega) hT (by omega) (target_loop_x g hi hT (by omega) (word_x (v := v) g ht hT m (a + 1) (deep + 1) (d - 1 - 1) (fun j hj => ?_) ?_ ?_ (by omega) (by omega)))
    · have := h (j + 1) (by omega)
      rwa [show a + ((j + 1 : Nat) : Int) = a + 1 + j by omega] at this
    · rwa [show a + 1 + (m : Int) + 1 = a + ((m + 1 : Nat) : Int) + 1 by omega]
    · rwa [show a + 1 + (m : Int) + 2 = a + ((m + 1 : Nat) : Int) + 2 by omega]
theorem group_ok (g : Names c) {T : List PV} {b : Int} {t : PV} (hp : CallOk c (d - 1) r_parse_data_target [.lst T, .int 0, .int 0] (.ok (.tup [t, .int b]))) (h1 : TokAt T b "OP" (.str "/")) (h2 : TokAt T (b + 1) "INT" (.int 5)) (h3 : TokAt T (b + 2) "OP" (.str "/"))
    (hT : T.length ≤ 50000) (hd : 6 ≤ d) : CallOk c d r_parse_data_group [.lst T, .int 0] (.ok (.tup [.tup [.lst [t], .lst [.tup [.none, intT 5]]], .int (b + 3)])) := by
  have hv := parse_value_int (d := d - 1) g h2 (by rwa [show b + 1 + 1 = b + 2 by omega]) (by decide) hT (by omega)
  have K : Known T [(b, "OP", .str "/"), (b + 1, "INT", .int 5), (b + 2, "OP", .str "/")] := .cons h1 (.cons h2 (.cons h3 .nil))
  rw [show b + 3 = b + 1 + 1 + 1 by omega]
  unfold intT
  apply call_ret g.lone pl_parse_data_group rfl
  walk_at "B"
theorem group_x (g : Names c) {T : List PV} (hp : CallOk c (d - 1) r_parse_data_target [.lst T, .int 0, .int 0] .exn) (hT : T.length ≤ 50000) (hd : 6 ≤ d) : CallOk c d r_parse_data_group [.lst T, .int 0] .exn := by
  apply call_exn g.lone pl_parse_data_group rfl
  walk_at "BX"
local macro_rules | `(tactic| walk_at "E") => `(tactic| (apply E_slice_sn; (· walk_at "E"); (· walk_at "E"); (· omega)))
def foundT (t : PV) : PV := .lst [.tup [.str "data", .lst [.tup [.lst [t], .lst [.tup [.none, intT 5]]]]]]
theorem parse_data_ok (g : Names c) {T : List PV} {x : Str} {t : PV} (hx : x.length ≤ 100000) (hl : CallOk c (d - 1) r_tokens_of [.str (Txt.slice x (some 4) none)] (.ok (.lst T)))
    (hp : CallOk c (d - 1) r_parse_data_group [.lst T, .int 0] (.ok (.tup [.tup [.lst [t], .lst [.tup [.none, intT 5]]], .int T.length]))) (hT : T.length ≤ 50000) (hd : 6 ≤ d) : CallOk c d r_parse_data [.str x] (.ok (foundT t)) := by
  unfold foundT
  apply call_ret g.lone pl_parse_data rfl
  walk_at "B"
theorem parse_data_x (g : Names c) {T : List PV} {x : Str} (hx : x.length ≤ 100000) (hl : CallOk c (d - 1) r_tokens_of [.str (Txt.slice x (some 4) none)] (.ok (.lst T)))
    (hp : CallOk c (d - 1) r_parse_data_group [.lst T, .int 0] .exn) (hT : T.length ≤ 50000) (hd : 6 ≤ d) : CallOk c d r_parse_data [.str x] .exn := by
  apply call_exn g.lone pl_parse_data rfl
  walk_at "BX"
/-! texts by their signs -/
def tx (l : List Nat) : Str := ⟨l.toArray⟩
theorem tx_toList (l : List Nat) : (tx l).cps.toList = l := by simp [tx]
theorem tx_length (l : List Nat) : (tx l).length = l.length := by simp [tx, Str.length]
theorem tx_append (a b : List Nat) : tx a ++ tx b = tx (a ++ b) := Str.ext' (by simp [Str.cps_append, tx])
theorem tx_inj {a b : List Nat} : (tx a = tx b) ↔ a = b := ⟨fun h => by have := congrArg (fun s => s.cps.toList) h; simpa [tx] using this, fun h => by rw [h]⟩
theorem item_tx {l : List Nat} {i : Nat} {ch : Nat} (h : l[i]? = some ch) : Txt.item (tx l) (i : Int) = tx [ch] := by
  have hi : i < l.length := (List.getElem?_eq_some_iff.mp h).1
  have h0 : (tx l).cps[((i : Nat) : Int).toNat]? = some ch := by simpa [tx] using h
  unfold Txt.item
  have : Txt.charAt (tx l) (i : Int) = some ch := by
    exact StrLaws.at_nonneg (by omega) h0
  rw [this]; rfl
theorem slice_tx {l : List Nat} {i j : Nat} (h : i ≤ j) (hj : j ≤ l.length) : Txt.slice (tx l) (some (i : Int)) (some (j : Int)) = tx ((l.drop i).take (j - i)) := by
  have := StrLaws.sliceText_nat (tx l) h (by rw [tx_length]; exact hj)
  rw [tx_toList] at this
  exact this
theorem slice_tx_end {l : List Nat} {i : Nat} (h : i = l.length) : Txt.slice (tx l) (some (i : Int)) (some ((i : Int) + 1)) = tx [] := by
  have e : Txt.slice (tx l) (some (i : Int)) (some ((i : Int) + 1)) = Txt.slice (tx l) (some (i : Int)) (some (i : Int)) := by
    unfold Txt.slice Builtin.Str.strSliceIndices
    have h1 : ¬ ((i : Int) < 0) := by omega
    have h2 : ¬ ((i : Int) + 1 < 0) := by omega
    have e1 : max (0 : Int) (min (i : Int) ((tx l).length : Int)) = i := by rw [tx_length]; omega
    have e2 : max (0 : Int) (min ((i : Int) + 1) ((tx l).length : Int)) = i := by rw [tx_length]; omega
    simp only [h1, h2, if_false, show ((1 : Int) > 0) = True from by simp, if_true, e1, e2]
  rw [e, slice_tx (Nat.le_refl _) (by omega)]
  simp
theorem slice_tx_from {l : List Nat} {i : Nat} (h : i ≤ l.length) : Txt.slice (tx l) (some (i : Int)) none = tx (l.drop i) := by
  have := StrLaws.sliceText_from (x := tx l) (i := (i : Int)) ⟨by omega, by rw [tx_toList]; omega⟩
  rw [tx_toList] at this
  refine Eq.trans this ?_
  show tx _ = _
  congr 1
  have e1 : ((i : Nat) : Int).toNat = i := by omega
  have e2 : ((l.length : Int) - (i : Int)).toNat = l.length - i := by omega
  rw [e1, e2, List.take_of_length_le (by simp)]
theorem in_tx {ch : Nat} {y : Str} : inStr (tx [ch]) y = decide (ch ∈ y.cps.toList) := StrLaws.found_one y ch
theorem E_item_tx {sc : Scope} {σ σ₁ σ' : St} {v e : Expr} {pos : Pos} {l : List Nat} {i : Int} {n ch : Nat} (h1 : SemE c d sc σ v (.ok (.str (tx l))) σ₁) (h2 : SemE c d sc σ₁ e (.ok (.int i)) σ') (hi : i = (n : Int)) (hl : l.length ≤ 50000) (h : l[n]? = some ch) :
    SemE c d sc σ (.Subscript v e pos) (.ok (.str (tx [ch]))) σ' := by
  subst hi
  have hn : n < l.length := (List.getElem?_eq_some_iff.mp h).1
  have := E_sub (pos := pos) h1 h2 (item_str' (c := c) (x := tx l) (i := (n : Int)) (by omega) (by rw [tx_length]; omega) (by omega))
  rwa [item_tx h] at this
theorem Inv.weak {h₀ : Heap} {L : Addr} {P : Addr → Obj → Prop} {H : PH} {h : Heap} {m : Str → Option Value} {σ τ : St} (I : Inv h₀ L P σ H h m) (hv : ∀ x p, τ.vars.lookup x = some p → σ.vars.lookup x = some p) (ho : τ.own = σ.own) : Inv h₀ L P τ H h m :=
  ⟨I.prot, I.fr, I.sub, I.loc, fun x p e => I.vars x p (hv x p e), fun x ps e => I.own x ps (ho ▸ e)⟩
theorem W_pre {sc : Scope} {σ σ' τ : St} {test : Expr} {body : List Stmt} {r : Res Fl} (h : SemW c d sc τ test body r σ') (hv : ∀ x p, τ.vars.lookup x = some p → σ.vars.lookup x = some p) (ho : τ.own = σ.own) : SemW c d sc σ test body r σ' := by
  constructor; intro A outer nm fa L cd h₀ s P H m R K Rm G hk I post
  exact h.run A outer nm fa L cd h₀ s P H m R K Rm G hk (I.weak hv ho) post
theorem lookup_shadow {x : Str} {p q : PV} {vs : List (Str × PV)} : ∀ y r, List.lookup y ((x, p) :: vs) = some r → List.lookup y ((x, p) :: (x, q) :: vs) = some r := by
  intro y r h
  rw [List.lookup_cons] at h ⊢
  cases e : y == x with
  | true => rw [e] at h; exact h
  | false => rw [e] at h; show List.lookup y ((x, q) :: vs) = _; rw [List.lookup_cons, e]; exact h
def whileOf (sts : List Stmt) (i : Nat) : Expr × List Stmt := match sts[i]? with
  | some (.While t b _ _) => (t, b)
  | _ => (.Constant .none 0 default, [])
theorem T_in {sc : Scope} {σ σ₁ σ' : St} {l r : Expr} {pos : Pos} {ch : Nat} {y : Str} {b : Bool} (h1 : SemE c d sc σ l (.ok (.str (tx [ch]))) σ₁) (h2 : SemE c d sc σ₁ r (.ok (.str y)) σ') (hb : decide (ch ∈ y.cps.toList) = b) (hm : behindInMarks .In r = false) :
    SemT c d sc σ (.Compare l [.In] [r] pos) (.ok b) σ' := T_cmpB h1 h2 cmp_in_str (in_tx.trans hb) hm
theorem T_notin {sc : Scope} {σ σ₁ σ' : St} {l r : Expr} {pos : Pos} {ch : Nat} {y : Str} {b : Bool} (h1 : SemE c d sc σ l (.ok (.str (tx [ch]))) σ₁) (h2 : SemE c d sc σ₁ r (.ok (.str y)) σ') (hb : (!decide (ch ∈ y.cps.toList)) = b) (hm : behindInMarks .NotIn r = false) :
    SemT c d sc σ (.Compare l [.NotIn] [r] pos) (.ok b) σ' := T_cmpB h1 h2 cmp_notin_str ((congrArg (! ·) in_tx).trans hb) hm
theorem len_tx (g : Names c) {sc : Scope} {σ σ' : St} {e : Expr} {np pos : Pos} {l : List Nat} (h : SemE c d sc σ e (.ok (.str (tx l))) σ') (hg : sc.names.lookup ("len" : Str) = some .globalImplicit) (hl : l.length ≤ 50000) (hp : plainE e = true) :
    SemE c d sc σ (.Call (.Name "len" np) [e] [] pos) (.ok (.int l.length)) σ' := by
  have := E_builtin (np := np) (pos := pos) g.len hg (L_cons hp h L_nil) (fn_len_str (c := c) (x := tx l) (by rw [tx_length]; omega)) (by rw [List.all_cons, hp]; rfl) rfl
  rwa [tx_length] at this
/-- the loop of run_of -/
theorem run_loop (g : Names c) {l : List Nat} {s : Str} {a r : Int} (hl : l.length ≤ 50000) : ∀ (n k : Nat) (e : Int), e = k → r = e + n →
    (∀ j, j < n → ∃ ch, l[k + j]? = some ch ∧ ch ∈ s.cps.toList) → (l.length = k + n ∨ ∃ ch, l[k + n]? = some ch ∧ ch ∉ s.cps.toList) →
    SemW c d r_run_of.scope ⟨[("end", .int e), ("text", .str (tx l)), ("at", .int a), ("signs", .str s)], none⟩ (whileOf r_run_of.body 1).1 (whileOf r_run_of.body 1).2 (.ok .next) ⟨[("end", .int r), ("text", .str (tx l)), ("at", .int a), ("signs", .str s)], none⟩
  | 0, k, e, he, hr, _, h2 => by
    obtain rfl : r = e := by omega
    rcases h2 with h2 | ⟨ch, h2, h3⟩
    · apply W_exit
      apply T_and_f
      apply T_cmpB
      · walk_at "E"
      · exact len_tx g (E_var rfl rfl rfl) rfl hl rfl
      · exact cmp_lt_int
      · exact decide_eq_false (by omega)
      · exact rfl
    · have hk : k < l.length := (List.getElem?_eq_some_iff.mp h2).1
      apply W_exit
      apply T_and_t
      · apply T_cmpB
        · walk_at "E"
        · exact len_tx g (E_var rfl rfl rfl) rfl hl rfl
        · exact cmp_lt_int
        · exact decide_eq_true (by omega)
        · exact rfl
      · apply T_and_f
        exact T_in (E_item_tx (E_var rfl rfl rfl) (E_var rfl rfl rfl) he hl h2) (E_var rfl rfl rfl) (decide_eq_false h3) rfl
  | n + 1, k, e, he, hr, h1, h2 => by
    obtain ⟨ch, h3, h4⟩ := h1 0 (by omega)
    have hk : k < l.length := (List.getElem?_eq_some_iff.mp h3).1
    apply W_gen
    · apply T_and_t
      · apply T_cmpB
        · walk_at "E"
        · exact len_tx g (E_var rfl rfl rfl) rfl hl rfl
        · exact cmp_lt_int
        · exact decide_eq_true (by omega)
        · exact rfl
      · apply T_and_t
        · exact T_in (E_item_tx (E_var rfl rfl rfl) (E_var rfl rfl rfl) he hl h3) (E_var rfl rfl rfl) (decide_eq_true h4) rfl
        · exact T_and_nil
    · walk_at "B"
    · apply WCont_next
      refine W_pre (run_loop g hl n (k + 1) (e + 1) (by omega) (by omega) (fun j hj => ?_) ?_) lookup_shadow rfl
      · have := h1 (j + 1) (by omega)
        rwa [show k + (j + 1) = k + 1 + j by omega] at this
      · rwa [show k + 1 + n = k + (n + 1) by omega]
theorem run_of_ok (g : Names c) {l : List Nat} {s : Str} {a : Int} {k n : Nat} (ha : a = k) (hl : l.length ≤ 50000) (h1 : ∀ j, j < n → ∃ ch, l[k + j]? = some ch ∧ ch ∈ s.cps.toList) (h2 : l.length = k + n ∨ ∃ ch, l[k + n]? = some ch ∧ ch ∉ s.cps.toList) :
    CallOk c d r_run_of [.str (tx l), .int a, .str s] (.ok (.int (a + n))) := by
  apply call_ret g.lone pl_run_of rfl
  apply B_gen
  · walk_at "S"
  apply Cont_next
  apply B_gen
  · apply S_while
    exact run_loop g hl n k a ha rfl h1 h2
  · walk_at "C"
theorem E_slice_tx {sc : Scope} {σ σ₁ σ₂ σ' : St} {value lo hi : Expr} {sp pos : Pos} {l : List Nat} {i j : Int} {k n : Nat} (h1 : SemE c d sc σ value (.ok (.str (tx l))) σ₁) (h2 : SemE c d sc σ₁ lo (.ok (.int i)) σ₂) (h3 : SemE c d sc σ₂ hi (.ok (.int j)) σ') (hi' : i = k) (hj : j = k + n) (hn : k + n ≤ l.length) (hl : l.length ≤ 50000) :
    SemE c d sc σ (.Subscript value (.Slice (some lo) (some hi) none sp) pos) (.ok (.str (tx ((l.drop k).take n)))) σ' := by
  have := E_slice_ss (sp := sp) (pos := pos) h1 h2 h3 (by rw [tx_length]; omega)
  have e : Txt.slice (tx l) (some i) (some j) = tx ((l.drop k).take n) := by
    have := slice_tx (l := l) (i := k) (j := k + n) (by omega) hn
    rw [show k + n - k = n by omega] at this
    rw [hi', hj]; exact this
  rwa [e] at this
def signsSep : List Nat := [40, 41, 44, 47, 61]
def lettersL : List Nat := [65, 66, 67, 68, 69, 70, 71, 72, 73, 74, 75, 76, 77, 78, 79, 80, 81, 82, 83, 84, 85, 86, 87, 88, 89, 90]
def digitsL : List Nat := [48, 49, 50, 51, 52, 53, 54, 55, 56, 57]
theorem letters_cps : ("ABCDEFGHIJKLMNOPQRSTUVWXYZ" : Str).cps.toList = lettersL := by decide +kernel
theorem digits_cps : ("0123456789" : Str).cps.toList = digitsL := by decide +kernel
theorem alnum_cps : (("ABCDEFGHIJKLMNOPQRSTUVWXYZ" : Str) ++ ("0123456789" : Str)).cps.toList = lettersL ++ digitsL := by decide +kernel
theorem signs_cps : ("+-*/(),=:" : Str).cps.toList = [43, 45, 42, 47, 40, 41, 44, 61, 58] := by decide +kernel
theorem starslash_cps : ("*/" : Str).cps.toList = [42, 47] := by decide +kernel
theorem ed_cps : ("ED" : Str).cps.toList = [69, 68] := by decide +kernel
theorem name_at_ok (g : Names c) {l w : List Nat} {a : Int} {k n ch : Nat} (ha : a = k) (hl : l.length ≤ 50000) (h1 : ∀ j, j < n → ∃ ch, l[k + j]? = some ch ∧ ch ∈ lettersL ++ digitsL) (h2 : l[k + n]? = some ch) (h3 : ch ∉ lettersL ++ digitsL) (hn : n ≤ 6) (hw : (l.drop k).take n = w) (hd : 1 ≤ d) :
    CallOk c d r_name_at [.str (tx l), .int a] (.ok (.tup [.tup [.str "NAME", .str (tx w), .int a], .int (a + n)])) := by
  have hk : k + n < l.length := (List.getElem?_eq_some_iff.mp h2).1
  have hr : CallOk c (d - 1) r_run_of [.str (tx l), .int a, .str (("ABCDEFGHIJKLMNOPQRSTUVWXYZ" : Str) ++ ("0123456789" : Str))] (.ok (.int (a + n))) :=
    run_of_ok g ha hl (by rw [alnum_cps]; exact h1) (.inr ⟨ch, h2, by rw [alnum_cps]; exact h3⟩)
  subst hw
  apply call_ret g.lone pl_name_at rfl
  apply B_gen
  · apply S_assign
    · refine E_callD (find_run_of g) rfl ?_ hr hd rfl rfl
      apply L_cons rfl
      · walk_at "E"
      apply L_cons rfl
      · walk_at "E"
      apply L_cons rfl
      · exact E_bin (E_LETTERS g rfl) (E_DIGITS g rfl) (bin_add_str (by decide +kernel))
      exact L_nil
    · exact rfl
    · exact rfl
    · exact rfl
  apply Cont_next
  apply B_gen
  · walk_at "S"
  apply Cont_next
  apply B_gen
  · apply S_return
    apply E_tuple
    · apply L_cons rfl
      · apply E_tuple
        · apply L_cons rfl
          · walk_at "E"
          apply L_cons rfl
          · exact E_slice_tx (k := k) (n := n) (E_var rfl rfl rfl) (E_var rfl rfl rfl) (E_var rfl rfl rfl) ha (by omega) (by omega) hl
          walk_at "L"
        · exact Nat.le_of_ble_eq_true rfl
      walk_at "L"
    · exact Nat.le_of_ble_eq_true rfl
  · walk_at "C"
theorem power_at_no (g : Names c) {l : List Nat} {a : Int} {k ch : Nat} (ha : a = k) (hl : l.length ≤ 50000) (h2 : l[k]? = some ch) (h3 : ch ∉ [69, 68]) (hd : 1 ≤ d) :
    CallOk c d r_power_at [.str (tx l), .int a] (.ok (.tup [.str "", .int 0, .int a])) := by
  have hk : k < l.length := (List.getElem?_eq_some_iff.mp h2).1
  apply call_ret g.lone pl_power_at rfl
  apply B_gen
  · apply S_ifT
    · apply T_or_f
      · apply T_cmpB
        · walk_at "E"
        · exact len_tx g (E_var rfl rfl rfl) rfl hl rfl
        · exact cmp_ge_int
        · exact decide_eq_false (by omega)
        · exact rfl
      · apply T_or_t
        exact T_notin (E_item_tx (E_var rfl rfl rfl) (E_var rfl rfl rfl) ha hl h2) E_str (by rw [ed_cps, decide_eq_false h3]; rfl) rfl
    · walk_at "B"
  · walk_at "C"
local macro_rules | `(tactic| walk_at "spec") => `(tactic| (apply power_at_no <;> walk_at "side"))
theorem number_at_ok (g : Names c) {l w : List Nat} {a v : Int} {k n ch : Nat} (ha : a = k) (hl : l.length ≤ 50000) (h1 : ∀ j, j < n → ∃ ch, l[k + j]? = some ch ∧ ch ∈ digitsL) (h2 : l[k + n]? = some ch) (h3 : ch ∈ signsSep) (hn : n ≤ 6) (hw : (l.drop k).take n = w) (hv : PySem.intText? (tx w) = some v) (hwl : w.length ≤ 6) (hd : 2 ≤ d) :
    CallOk c d r_number_at [.str (tx l), .int a] (.ok (.tup [.tup [.str "INT", .int v, .int a], .int (a + n)])) := by
  have hk : k + n < l.length := (List.getElem?_eq_some_iff.mp h2).1
  have q1 : ∀ x ∈ signsSep, x ∉ digitsL ∧ x ∉ [69, 68] ∧ (tx [x] == ".") = false := by decide +kernel
  obtain ⟨n1, n2, n3⟩ := q1 ch h3
  have hr : CallOk c (d - 1) r_run_of [.str (tx l), .int a, .str ("0123456789" : Str)] (.ok (.int (a + n))) :=
    run_of_ok g ha hl (by rw [digits_cps]; exact h1) (.inr ⟨ch, h2, by rw [digits_cps]; exact n1⟩)
  have hp : CallOk c (d - 1) r_power_at [.str (tx l), .int (a + n)] (.ok (.tup [.str "", .int 0, .int (a + n)])) := power_at_no g (k := k + n) (by omega) hl h2 n2 (by omega)
  subst hw
  apply call_ret g.lone pl_number_at rfl
  apply B_gen
  · walk_at "S"
  apply Cont_next
  apply B_gen
  · apply S_assign
    · exact E_slice_tx (k := k) (n := n) (E_var rfl rfl rfl) (E_var rfl rfl rfl) (E_var rfl rfl rfl) ha (by omega) (by omega) hl
    · exact rfl
    · exact rfl
    · exact rfl
  apply Cont_next
  apply B_gen
  · walk_at "S"
  apply Cont_next
  apply B_gen
  · apply S_assign
    · apply E_andT
      · apply E_cmpB (b' := true)
        · walk_at "E"
        · exact len_tx g (E_var rfl rfl rfl) rfl hl rfl
        · exact cmp_lt_int
        · exact decide_eq_true (by omega)
        · exact rfl
      · apply E_andF
        apply E_cmpB (b' := false)
        · exact E_item_tx (n := k + n) (E_var rfl rfl rfl) (E_var rfl rfl rfl) (by omega) hl h2
        · walk_at "E"
        · exact cmp_eq_str
        · exact n3
        · exact rfl
    · exact rfl
    · exact rfl
    · exact rfl
  apply Cont_next
  apply B_gen
  · walk_at "S"
  apply Cont_next
  apply B_gen
  · walk_at "S"
  apply Cont_next
  apply B_gen
  · walk_at "S"
  apply Cont_next
  apply B_gen
  · apply S_ifT
    · walk_at "T"
    · apply B_gen
      · apply S_return
        apply E_tuple
        · apply L_cons rfl
          · apply E_tuple
            · apply L_cons rfl
              · walk_at "E"
              apply L_cons rfl
              · apply E_type g.int rfl
                · walk_at "L"
                · exact fn_int hv (by rw [tx_length]; omega)
                · exact rfl
                · exact rfl
              walk_at "L"
            · exact Nat.le_of_ble_eq_true rfl
          walk_at "L"
        · exact Nat.le_of_ble_eq_true rfl
      · walk_at "C"
  · walk_at "C"
theorem token_name (g : Names c) {l : List Nat} {a : Int} {k ch : Nat} {p : PV} (ha : a = k) (hl : l.length ≤ 50000) (h2 : l[k]? = some ch) (h3 : ch ∈ lettersL) (hp : CallOk c (d - 1) r_name_at [.str (tx l), .int a] (.ok p)) (hd : 1 ≤ d) :
    CallOk c d r_token_at [.str (tx l), .int a] (.ok p) := by
  apply call_ret g.lone pl_token_at rfl
  apply B_gen
  · apply S_assign
    · exact E_item_tx (E_var rfl rfl rfl) (E_var rfl rfl rfl) ha hl h2
    · exact rfl
    · exact rfl
    · exact rfl
  apply Cont_next
  apply B_gen
  · apply S_ifT
    · exact T_in (E_var rfl rfl rfl) (E_LETTERS g rfl) (by rw [letters_cps]; exact decide_eq_true h3) rfl
    · walk_at "B"
  · walk_at "C"
theorem token_num (g : Names c) {l : List Nat} {a : Int} {k ch : Nat} {p : PV} (ha : a = k) (hl : l.length ≤ 50000) (h2 : l[k]? = some ch) (h3 : ch ∈ digitsL) (hp : CallOk c (d - 1) r_number_at [.str (tx l), .int a] (.ok p)) (hd : 1 ≤ d) :
    CallOk c d r_token_at [.str (tx l), .int a] (.ok p) := by
  have q : ∀ x ∈ digitsL, x ∉ lettersL := by decide +kernel
  apply call_ret g.lone pl_token_at rfl
  apply B_gen
  · apply S_assign
    · exact E_item_tx (E_var rfl rfl rfl) (E_var rfl rfl rfl) ha hl h2
    · exact rfl
    · exact rfl
    · exact rfl
  apply Cont_next
  apply B_gen
  · apply S_ifF
    · exact T_in (E_var rfl rfl rfl) (E_LETTERS g rfl) (by rw [letters_cps]; exact decide_eq_false (q _ h3)) rfl
    · walk_at "B"
  apply Cont_next
  apply B_gen
  · apply S_ifT
    · exact T_in (E_var rfl rfl rfl) (E_DIGITS g rfl) (by rw [digits_cps]; exact decide_eq_true h3) rfl
    · walk_at "B"
  · walk_at "C"
theorem token_op (g : Names c) {l : List Nat} {a : Int} {k ch : Nat} (ha : a = k) (hl : l.length ≤ 50000) (h2 : l[k]? = some ch) (h3 : ch ∈ signsSep) (h4 : ch = 47 → l[k + 1]? ≠ some 47) :
    CallOk c d r_token_at [.str (tx l), .int a] (.ok (.tup [.tup [.str "OP", .str (tx [ch]), .int a], .int (a + 1)])) := by
  have hk : k < l.length := (List.getElem?_eq_some_iff.mp h2).1
  have q : ∀ x ∈ signsSep, x ∉ lettersL ∧ x ∉ digitsL ∧ (tx [x] == ".") = false ∧ (tx [x] == "'") = false ∧ x ∈ [43, 45, 42, 47, 40, 41, 44, 61, 58] ∧ (x ∉ [42, 47] ∨ x = 47) := by decide +kernel
  obtain ⟨q1, q2, q3, q4, q5, q6⟩ := q ch h3
  have hs : (l.drop k).take 1 = [ch] := by
    rw [List.getElem?_eq_some_iff] at h2
    obtain ⟨h, e⟩ := h2
    rw [List.drop_eq_getElem_cons h, e]; rfl
  apply call_ret g.lone pl_token_at rfl
  apply B_gen
  · apply S_assign
    · exact E_item_tx (E_var rfl rfl rfl) (E_var rfl rfl rfl) ha hl h2
    · exact rfl
    · exact rfl
    · exact rfl
  apply Cont_next
  apply B_gen
  · apply S_ifF
    · exact T_in (E_var rfl rfl rfl) (E_LETTERS g rfl) (by rw [letters_cps]; exact decide_eq_false q1) rfl
    · walk_at "B"
  apply Cont_next
  apply B_gen
  · apply S_ifF
    · exact T_in (E_var rfl rfl rfl) (E_DIGITS g rfl) (by rw [digits_cps]; exact decide_eq_false q2) rfl
    · walk_at "B"
  apply Cont_next
  apply B_gen
  · apply S_ifF
    · exact T_cmpB (E_var rfl rfl rfl) E_str cmp_eq_str q3 rfl
    · walk_at "B"
  apply Cont_next
  apply B_gen
  · apply S_ifF
    · exact T_cmpB (E_var rfl rfl rfl) E_str cmp_eq_str q4 rfl
    · walk_at "B"
  apply Cont_next
  apply B_gen
  · apply S_ifF
    · exact T_notin (E_var rfl rfl rfl) (E_SIGNS g rfl) (by rw [signs_cps, decide_eq_true q5]; rfl) rfl
    · walk_at "B"
  apply Cont_next
  apply B_gen
  · walk_at "S"
  apply Cont_next
  apply B_gen
  · apply S_ifF
    · rcases q6 with q6 | rfl
      · apply T_and_f
        exact T_in (E_var rfl rfl rfl) E_str (by rw [starslash_cps]; exact decide_eq_false q6) rfl
      · apply T_and_t
        · exact T_in (E_var rfl rfl rfl) E_str (by rw [starslash_cps]; rfl) rfl
        · apply T_and_f
          rcases Nat.lt_or_ge (k + 1) l.length with hlt | hge
          · have hn := h4 rfl
            obtain ⟨x, hx⟩ : ∃ x, l[k + 1]? = some x := ⟨_, List.getElem?_eq_getElem hlt⟩
            have hx' : (l.drop (k + 1)).take 1 = [x] := by
              rw [List.drop_eq_getElem_cons hlt]
              rw [List.getElem?_eq_getElem hlt] at hx
              rw [Option.some.inj hx]; rfl
            apply T_cmpB
            · exact E_slice_tx (k := k + 1) (n := 1) (E_var rfl rfl rfl) (E_var rfl rfl rfl) (E_bin (E_var rfl rfl rfl) E_int bin_add_int) (by omega) (by omega) (by omega) hl
            · exact E_var rfl rfl rfl
            · exact cmp_eq_str
            · rw [hx']
              have : x ≠ 47 := fun e => hn (e ▸ hx)
              rw [beq_eq_false_iff_ne]
              intro e
              have := tx_inj.mp e
              simp_all
            · exact rfl
          · apply T_cmpB
            · exact E_slice_ss (E_var rfl rfl rfl) (E_var rfl rfl rfl) (E_bin (E_var rfl rfl rfl) E_int bin_add_int) (by rw [tx_length]; omega)
            · exact E_var rfl rfl rfl
            · exact cmp_eq_str
            · have e : a + 1 = ((k + 1 : Nat) : Int) := by omega
              rw [e, slice_tx_end (l := l) (i := k + 1) (by omega)]
              decide +kernel
            · exact rfl
    · walk_at "B"
  apply Cont_next
  apply B_gen
  · apply S_return
    apply E_tuple
    · apply L_cons rfl
      · apply E_tuple
        · apply L_cons rfl
          · walk_at "E"
          apply L_cons rfl
          · exact E_slice_tx (k := k) (n := 1) (E_var rfl rfl rfl) (E_var rfl rfl rfl) (E_var rfl rfl rfl) ha (by omega) (by omega) hl
          walk_at "L"
        · exact Nat.le_of_ble_eq_true rfl
      walk_at "L"
    · exact Nat.le_of_ble_eq_true rfl
  · rw [hs]; walk_at "C"
inductive Lex (c : Cx) (l : List Nat) : Nat → List TK → Nat → Prop
  | nil (i : Nat) : Lex c l i [] i
  | cons {i j m : Nat} {k : Str} {v : PV} {ks : List TK} : (∀ d, 3 ≤ d → CallOk c d r_token_at [.str (tx l), .int i] (.ok (.tup [.tup [.str k, v, .int i], .int j]))) → i < l.length → Lex c l j ks m → Lex c l i ((k, v) :: ks) m
def Match (ts : List PV) (ks : List TK) : Prop := ts.length = ks.length ∧ ∀ (j : Nat) (k : Str) (v : PV), ks[j]? = some (k, v) → ∃ p : Int, ts[j]? = some (.tup [.str k, v, .int p])
theorem tokens_loop (g : Names c) {l : List Nat} (hl : l.length ≤ 50000) (hd : 4 ≤ d) {i m : Nat} {ks : List TK} (h : Lex c l i ks m) : m = l.length → ∀ os : List PV, os.length + ks.length ≤ 50000 →
    ∃ ts, Match ts ks ∧ SemW c d r_tokens_of.scope ⟨[("at", .int i), ("squeezed", .str (tx l))], some ("out", .lst os)⟩ (whileOf r_tokens_of.body 2).1 (whileOf r_tokens_of.body 2).2 (.ok .next) ⟨[("at", .int l.length), ("squeezed", .str (tx l))], some ("out", .lst (os ++ ts))⟩ := by
  induction h with
  | nil i =>
    rintro rfl os ho
    refine ⟨[], ⟨rfl, fun j k v h => by simp at h⟩, ?_⟩
    rw [List.append_nil]
    apply W_exit
    apply T_cmpB
    · walk_at "E"
    · exact len_tx g (E_var rfl rfl rfl) rfl hl rfl
    · exact cmp_lt_int
    · exact decide_eq_false (by omega)
    · exact rfl
  | @cons i j m k v ks ht hi hr ih =>
    intro hm os ho
    rw [List.length_cons] at ho
    obtain ⟨ts, ⟨m1, m2⟩, hw⟩ := ih hm (os ++ [.tup [.str k, v, .int i]]) (by rw [List.length_append, List.length_singleton]; omega)
    refine ⟨.tup [.str k, v, .int i] :: ts, ⟨by rw [List.length_cons, List.length_cons, m1], fun q k' v' h => ?_⟩, ?_⟩
    · cases q with
      | zero =>
        have h' : some (k, v) = some (k', v') := h
        obtain ⟨rfl, rfl⟩ := Prod.mk.inj (Option.some.inj h')
        exact ⟨i, rfl⟩
      | succ q => exact m2 q k' v' (by simpa using h)
    · rw [show os ++ PV.tup [.str k, v, .int i] :: ts = (os ++ [.tup [.str k, v, .int i]]) ++ ts by simp]
      apply W_gen
      · apply T_cmpB
        · walk_at "E"
        · exact len_tx g (E_var rfl rfl rfl) rfl hl rfl
        · exact cmp_lt_int
        · exact decide_eq_true (by omega)
        · exact rfl
      · apply B_gen
        · apply S_unpack
          · exact E_callD (find_token_at g) rfl (L_cons rfl (E_var rfl rfl rfl) (L_cons rfl (E_var rfl rfl rfl) L_nil)) (ht (d - 1) (by omega)) (by omega) rfl rfl
          · exact rfl
          · exact rfl
          · exact rfl
          · exact rfl
          · exact rfl
          · exact rfl
        apply Cont_next
        apply B_gen
        · apply S_append
          · exact rfl
          · exact E_var rfl rfl rfl
          · exact rfl
          · exact rfl
          · omega
          · exact rfl
        apply Cont_next
        exact B_nil
      · apply WCont_next
        refine W_pre hw (fun x p hx => ?_) rfl
        show List.lookup x ((("at" : Str), PV.int j) :: (("token" : Str), PV.tup [.str k, v, .int i]) :: [(("at" : Str), PV.int i), (("squeezed" : Str), PV.str (tx l))]) = some p
        have hx' : List.lookup x [(("at" : Str), PV.int j), (("squeezed" : Str), PV.str (tx l))] = some p := hx
        rw [List.lookup_cons] at hx' ⊢
        cases e1 : x == ("at" : Str) with
        | true => rw [e1] at hx'; exact hx'
        | false =>
          rw [e1] at hx'
          have hx'' : List.lookup x [(("squeezed" : Str), PV.str (tx l))] = some p := hx'
          rw [List.lookup_cons] at hx''
          cases e2 : x == ("squeezed" : Str) with
          | false => rw [e2] at hx''; cases hx''
          | true =>
            rw [e2] at hx''
            obtain rfl : x = ("squeezed" : Str) := by simpa using e2
            exact hx''
theorem tokens_of_ok (g : Names c) {l : List Nat} (hl : l.length ≤ 50000) {ks : List TK} (hk : ks.length ≤ 50000) (h : Lex c l 0 ks l.length) : ∃ T, Match T ks ∧ ∀ d, 4 ≤ d → CallOk c d r_tokens_of [.str (tx l)] (.ok (.lst T)) := by
  have key : ∀ d, 4 ≤ d → ∃ ts, Match ts ks ∧ CallOk c d r_tokens_of [.str (tx l)] (.ok (.lst ts)) := by
    intro d hd
    obtain ⟨ts, m, hw⟩ := tokens_loop (d := d) g hl hd h rfl [] (by simpa using hk)
    refine ⟨ts, m, ?_⟩
    rw [List.nil_append] at hw
    apply call_ret g.lone pl_tokens_of rfl
    apply B_gen
    · walk_at "S"
    apply Cont_next
    apply B_gen
    · walk_at "S"
    apply Cont_next
    apply B_gen
    · apply S_while
      exact hw
    apply Cont_next
    apply B_gen
    · apply S_return
      exact E_own rfl rfl
    · exact Cont_ret
  obtain ⟨T, m, h4⟩ := key 4 (by omega)
  exact ⟨T, m, fun d hd => h4.mono hd⟩
theorem Match.seg {T : List PV} {ks : List TK} (m : Match T ks) (hk : ks.length ≤ 50000) : Seg T 0 ks := fun j k v h => by
  obtain ⟨p, hp⟩ := m.2 j k v h
  have := (List.getElem?_eq_some_iff.mp h).1
  exact ⟨j, p, by omega, by omega, hp⟩
/-! pieces of text -/
def Lexes (c : Cx) (p : List Nat) (ks : List TK) (ok : List Nat → Prop) : Prop :=
  ∀ pre post, ok post → (pre ++ (p ++ post)).length ≤ 50000 → ∀ ks' m, Lex c (pre ++ (p ++ post)) (pre.length + p.length) ks' m → Lex c (pre ++ (p ++ post)) pre.length (ks ++ ks') m
theorem Lexes.append {p q : List Nat} {ks ks2 : List TK} {okp okq : List Nat → Prop} (hp : Lexes c p ks okp) (hq : Lexes c q ks2 okq) (hok : ∀ post, okq post → okp (q ++ post)) : Lexes c (p ++ q) (ks ++ ks2) okq := by
  intro pre post ho hl ks' m h
  have e1 : pre ++ (p ++ q ++ post) = pre ++ (p ++ (q ++ post)) := by simp
  have e2 : pre ++ (p ++ (q ++ post)) = (pre ++ p) ++ (q ++ post) := by simp
  rw [e1] at hl h ⊢
  rw [List.append_assoc]
  refine hp pre (q ++ post) (hok post ho) hl _ _ ?_
  have := hq (pre ++ p) post ho (by rw [← e2]; exact hl) ks' m (by
    rw [← e2]
    have e3 : (pre ++ p).length + q.length = pre.length + (p ++ q).length := by simp; omega
    rw [e3]; exact h)
  rw [← e2, List.length_append] at this
  exact this
def Sep (post : List Nat) : Prop := ∃ ch r, post = ch :: r ∧ ch ∈ signsSep
def Any (post : List Nat) : Prop := True
theorem Lexes.one {p : List Nat} {k : Str} {v : PV} {ok : List Nat → Prop} (hp : p ≠ []) (h : ∀ pre post d, 3 ≤ d → ok post → (pre ++ (p ++ post)).length ≤ 50000 → CallOk c d r_token_at [.str (tx (pre ++ (p ++ post))), .int (pre.length : Nat)] (.ok (.tup [.tup [.str k, v, .int (pre.length : Nat)], .int ((pre.length : Nat) + (p.length : Nat))]))) : Lexes c p [(k, v)] ok := by
  intro pre post ho hl ks' m hx
  refine Lex.cons (j := pre.length + p.length) (fun d hd => ?_) ?_ hx
  · have := h pre post d hd ho hl
    rwa [← Int.natCast_add] at this
  · have : 0 < p.length := List.length_pos_iff.mpr hp
    simp only [List.length_append]; omega
theorem get_mid {pre p post : List Nat} {j : Nat} (h : j < p.length) : (pre ++ (p ++ post))[pre.length + j]? = some p[j] := by
  rw [List.getElem?_append_right (by omega)]
  have : pre.length + j - pre.length = j := by omega
  rw [this, List.getElem?_append_left h, List.getElem?_eq_getElem h]
theorem get_post {pre p post : List Nat} {ch : Nat} {r : List Nat} (h : post = ch :: r) : (pre ++ (p ++ post))[pre.length + p.length]? = some ch := by
  rw [List.getElem?_append_right (by omega)]
  have : pre.length + p.length - pre.length = p.length := by omega
  rw [this, List.getElem?_append_right (by omega), h]
  simp
theorem cut_mid {pre p post : List Nat} : ((pre ++ (p ++ post)).drop pre.length).take p.length = p := by
  rw [List.drop_left, List.take_left]
theorem lex_op (g : Names c) {ch : Nat} (h : ch ∈ signsSep) (hn : ch ≠ 47) : Lexes c [ch] [("OP", .str (tx [ch]))] Any :=
  Lexes.one (by simp) fun pre post d hd ho hl => by
    have := token_op (d := d) g (a := (pre.length : Nat)) (k := pre.length) rfl hl (by have := get_mid (pre := pre) (p := [ch]) (post := post) (j := 0) (by simp); simpa using this) h (fun e => absurd e hn)
    exact this
theorem lex_slash (g : Names c) : Lexes c [47] [("OP", .str (tx [47]))] (fun post => post.head? ≠ some 47) :=
  Lexes.one (by simp) fun pre post d hd ho hl => by
    have := token_op (d := d) (ch := 47) g (a := (pre.length : Nat)) (k := pre.length) rfl hl (by have := get_mid (pre := pre) (p := [47]) (post := post) (j := 0) (by simp); simpa using this) (by decide) (fun _ => by
      intro e
      apply ho
      rw [List.getElem?_append_right (by omega)] at e
      have h1 : pre.length + 1 - pre.length = 1 := by omega
      rw [h1] at e
      cases post with
      | nil => simp at e
      | cons x r => simpa using e)
    exact this
theorem lex_name (g : Names c) {w : List Nat} (h0 : w ≠ []) (h1 : ∃ x, w[0]? = some x ∧ x ∈ lettersL) (h2 : ∀ x ∈ w, x ∈ lettersL ++ digitsL) (h3 : w.length ≤ 6) : Lexes c w [("NAME", .str (tx w))] Sep :=
  Lexes.one h0 fun pre post d hd ho hl => by
    obtain ⟨ch, r, hp, hs⟩ := ho
    obtain ⟨x, x1, x2⟩ := h1
    have hw : 0 < w.length := List.length_pos_iff.mpr h0
    have q : ∀ x ∈ signsSep, x ∉ lettersL ++ digitsL := by decide +kernel
    have e0 : (pre ++ (w ++ post))[pre.length]? = some x := by
      have := get_mid (pre := pre) (p := w) (post := post) (j := 0) hw
      rw [Nat.add_zero] at this
      rw [this]
      rw [List.getElem?_eq_getElem hw] at x1
      exact x1
    refine token_name g rfl hl e0 x2 ?_ (by omega)
    exact name_at_ok g rfl hl (n := w.length) (fun j hj => ⟨w[j], get_mid hj, h2 _ (List.getElem_mem hj)⟩) (get_post hp) (q ch hs) h3 cut_mid (by omega)
theorem lex_num (g : Names c) {w : List Nat} {v : Int} (h0 : w ≠ []) (h2 : ∀ x ∈ w, x ∈ digitsL) (h3 : w.length ≤ 6) (hv : PySem.intText? (tx w) = some v) : Lexes c w [("INT", .int v)] Sep :=
  Lexes.one h0 fun pre post d hd ho hl => by
    obtain ⟨ch, r, hp, hs⟩ := ho
    have hw : 0 < w.length := List.length_pos_iff.mpr h0
    have e0 : (pre ++ (w ++ post))[pre.length]? = some w[0] := by
      have := get_mid (pre := pre) (p := w) (post := post) (j := 0) hw
      rwa [Nat.add_zero] at this
    refine token_num g rfl hl e0 (h2 _ (List.getElem_mem hw)) ?_ (by omega)
    exact number_at_ok g rfl hl (n := w.length) (fun j hj => ⟨w[j], get_mid hj, h2 _ (List.getElem_mem hj)⟩) (get_post hp) hs h3 cut_mid hv h3 (by omega)
def dg (k : Nat) : List Nat := (Str.ofString (toString (k : Int))).cps.toList
theorem dg_facts : ∀ k, k < 43 → dg k ≠ [] ∧ (∀ x ∈ dg k, x ∈ digitsL) ∧ (dg k).length ≤ 2 ∧ PySem.intText? (tx (dg k)) = some (k : Int) := by decide +kernel
theorem tx_cps (s : Str) : tx s.cps.toList = s := Str.ext' (by simp [tx])
theorem eq_tx {s : Str} {l : List Nat} (h : s.cps.toList = l) : s = tx l := by rw [← h, tx_cps]
theorem cps_add (a b : Str) : (a ++ b).cps.toList = a.cps.toList ++ b.cps.toList := by simp [Str.cps_append]
theorem name_tx (k : Nat) : nameOf k = tx (73 :: dg k) := eq_tx (by
  unfold nameOf
  rw [cps_add, show ("I" : Str).cps.toList = [73] by decide +kernel]; rfl)
def tailC (step : Bool) (k : Nat) : List Nat := [44] ++ ((73 :: dg k) ++ ([61] ++ ([49] ++ ([44] ++ (dg k ++ (if step then [44] ++ ([50] ++ [41]) else [41]))))))
def loopC (step : Bool) (inner : List Nat) : Nat → List Nat
  | 0 => inner
  | k + 1 => [40] ++ (loopC step inner k ++ tailC step (k + 1))
def elemC : List Nat := [65] ++ ([40] ++ ([73, 49] ++ [41]))
def innerC : Bool → List Nat
  | false => elemC
  | true => elemC ++ ([44] ++ elemC)
theorem op_l : (("OP" : Str), PV.str (tx [40])) = op "(" := by unfold op; rw [show tx [40] = ("(" : Str) by decide +kernel]
theorem op_r : (("OP" : Str), PV.str (tx [41])) = op ")" := by unfold op; rw [show tx [41] = (")" : Str) by decide +kernel]
theorem op_c : (("OP" : Str), PV.str (tx [44])) = op "," := by unfold op; rw [show tx [44] = ("," : Str) by decide +kernel]
theorem op_e : (("OP" : Str), PV.str (tx [61])) = op "=" := by unfold op; rw [show tx [61] = ("=" : Str) by decide +kernel]
theorem op_s : (("OP" : Str), PV.str (tx [47])) = op "/" := by unfold op; rw [show tx [47] = ("/" : Str) by decide +kernel]
theorem lx_l (g : Names c) : Lexes c [40] [op "("] Any := op_l ▸ lex_op g (ch := 40) (by decide) (by decide)
theorem lx_r (g : Names c) : Lexes c [41] [op ")"] Any := op_r ▸ lex_op g (ch := 41) (by decide) (by decide)
theorem lx_c (g : Names c) : Lexes c [44] [op ","] Any := op_c ▸ lex_op g (ch := 44) (by decide) (by decide)
theorem lx_e (g : Names c) : Lexes c [61] [op "="] Any := op_e ▸ lex_op g (ch := 61) (by decide) (by decide)
theorem lx_s (g : Names c) : Lexes c [47] [op "/"] (fun post => post.head? ≠ some 47) := op_s ▸ lex_slash g
theorem sep_of {ch : Nat} {l : List Nat} (h : ch ∈ signsSep) : Sep (ch :: l) := ⟨ch, l, rfl, h⟩
theorem lx_A (g : Names c) : Lexes c [65] [("NAME", .str "A")] Sep := by
  have := lex_name g (w := [65]) (by simp) ⟨65, rfl, by decide⟩ (by decide) (by decide)
  rwa [show tx [65] = ("A" : Str) by decide +kernel] at this
theorem lx_B (g : Names c) : Lexes c [66] [("NAME", .str "B")] Sep := by
  have := lex_name g (w := [66]) (by simp) ⟨66, rfl, by decide⟩ (by decide) (by decide)
  rwa [show tx [66] = ("B" : Str) by decide +kernel] at this
theorem lx_I1 (g : Names c) : Lexes c [73, 49] [("NAME", .str "I1")] Sep := by
  have := lex_name g (w := [73, 49]) (by simp) ⟨73, rfl, by decide⟩ (by decide) (by decide)
  rwa [show tx [73, 49] = ("I1" : Str) by decide +kernel] at this
theorem lx_name (g : Names c) {k : Nat} (hk : k < 43) : Lexes c (73 :: dg k) [("NAME", .str (nameOf k))] Sep := by
  obtain ⟨d1, d2, d3, d4⟩ := dg_facts k hk
  rw [name_tx]
  refine lex_name g (by simp) ⟨73, rfl, by decide⟩ (fun x hx => ?_) (by rw [List.length_cons]; omega)
  rcases List.mem_cons.mp hx with rfl | hx
  · decide
  · exact List.mem_append_right _ (d2 x hx)
theorem lx_num (g : Names c) {k : Nat} (hk : k < 43) : Lexes c (dg k) [("INT", .int k)] Sep := by
  obtain ⟨d1, d2, d3, d4⟩ := dg_facts k hk
  exact lex_num g d1 d2 (by omega) d4
theorem lx_1 (g : Names c) : Lexes c [49] [("INT", .int 1)] Sep := by
  have := lx_num g (k := 1) (by decide)
  rwa [show dg 1 = [49] by decide +kernel] at this
theorem lx_2 (g : Names c) : Lexes c [50] [("INT", .int 2)] Sep := by
  have := lx_num g (k := 2) (by decide)
  rwa [show dg 2 = [50] by decide +kernel] at this
theorem lx_5 (g : Names c) : Lexes c [53] [("INT", .int 5)] Sep := by
  have := lx_num g (k := 5) (by decide)
  rwa [show dg 5 = [53] by decide +kernel] at this
theorem lx_elem (g : Names c) : Lexes c elemC elemK Any :=
  (lx_A g).append ((lx_l g).append ((lx_I1 g).append (lx_r g) fun _ _ => sep_of (by decide)) fun _ _ => trivial) fun _ _ => sep_of (by decide)
theorem lx_inner (g : Names c) (two : Bool) : Lexes c (innerC two) (innerK two) Any := by
  cases two with
  | false => exact lx_elem g
  | true => exact (lx_elem g).append ((lx_c g).append (lx_elem g) fun _ _ => trivial) fun _ _ => trivial
theorem lx_tail (g : Names c) (step : Bool) {k : Nat} (hk : k < 43) : Lexes c (tailC step k) (tailK step k) Any := by
  have last : Lexes c (if step then [44] ++ ([50] ++ [41]) else [41]) (if step then [op ",", ("INT", .int 2), op ")"] else [op ")"]) Any := by
    cases step with
    | false => exact lx_r g
    | true => exact (lx_c g).append ((lx_2 g).append (lx_r g) fun _ _ => sep_of (by decide)) fun _ _ => trivial
  have sepl : ∀ post, Sep ((if step then [44] ++ ([50] ++ [41]) else [41]) ++ post) := by
    intro post
    cases step <;> exact sep_of (by decide)
  exact (lx_c g).append ((lx_name g hk).append ((lx_e g).append ((lx_1 g).append ((lx_c g).append ((lx_num g hk).append last fun post _ => sepl post) fun _ _ => trivial) fun _ _ => sep_of (by decide)) fun _ _ => trivial) fun _ _ => sep_of (by decide)) fun _ _ => trivial
theorem lx_loop (g : Names c) (step : Bool) {inC : List Nat} {inK : List TK} (hi : Lexes c inC inK Sep) : ∀ n, n < 42 → Lexes c (loopC step inC (n + 1)) (loopK step inK (n + 1)) Any
  | 0, _ => (lx_l g).append (hi.append (lx_tail g step (k := 1) (by omega)) fun _ _ => sep_of (by decide)) fun _ _ => trivial
  | n + 1, h => (lx_l g).append ((lx_loop g step hi n (by omega)).append (lx_tail g step (k := n + 2) (by omega)) fun _ _ => trivial) fun _ _ => trivial
theorem Lexes.weaken {p : List Nat} {ks : List TK} {okp okq : List Nat → Prop} (h : Lexes c p ks okp) (k : ∀ post, okq post → okp post) : Lexes c p ks okq := fun pre post ho => h pre post (k post ho)
def endC : List Nat := [47] ++ ([53] ++ [47])
def endK : List TK := [op "/", ("INT", .int 5), op "/"]
theorem lx_end (g : Names c) : Lexes c endC endK (fun post => post = []) :=
  (lx_s g).append ((lx_5 g).append ((lx_s g).weaken fun post h => by rw [h]; simp) fun _ _ => sep_of (by decide)) fun _ _ => by simp
theorem lexed (g : Names c) {p : List Nat} {ks : List TK} (h : Lexes c p ks Sep) (hl : p.length ≤ 40000) (hk : ks.length ≤ 40000) : ∃ T, Match T (ks ++ endK) ∧ ∀ d, 4 ≤ d → CallOk c d r_tokens_of [.str (tx (p ++ endC))] (.ok (.lst T)) := by
  have hx := h.append (lx_end g) (fun post hp => sep_of (by decide))
  have := hx [] [] rfl (by simp [endC]; omega) [] (p ++ endC).length (by simpa using Lex.nil (c := c) (l := p ++ endC) (p ++ endC).length)
  simp only [List.nil_append, List.append_nil, List.length_nil] at this
  exact tokens_of_ok g (by simp [endC]; omega) (by simp [endK]; omega) this
def dataC : List Nat := [68, 65, 84, 65]
theorem slice_data (p : List Nat) : Txt.slice (tx (dataC ++ p)) (some 4) none = tx p := by
  have := slice_tx_from (l := dataC ++ p) (i := 4) (by simp [dataC])
  have e : (dataC ++ p).drop 4 = p := by
    show (dataC ++ p).drop dataC.length = p
    rw [List.drop_left]
  rw [e] at this
  exact this
theorem tailC_len (step : Bool) {k : Nat} (hk : k < 43) : (tailC step k).length ≤ 12 := by
  have := (dg_facts k hk).2.2.1
  unfold tailC
  cases step <;> simp <;> omega
theorem tailK_len (step : Bool) (k : Nat) : (tailK step k).length ≤ 9 := by
  unfold tailK
  cases step <;> simp
theorem loopC_len (step : Bool) (inC : List Nat) : ∀ n, n < 43 → (loopC step inC n).length ≤ inC.length + 13 * n
  | 0, _ => by simp [loopC]
  | n + 1, h => by
    have h1 := loopC_len step inC n (by omega)
    have h2 := tailC_len step (k := n + 1) h
    simp only [loopC, List.length_append, List.length_cons, List.length_nil]
    omega
theorem loopK_len (step : Bool) (inK : List TK) : ∀ n, (loopK step inK n).length ≤ inK.length + 10 * n
  | 0 => by simp [loopK]
  | n + 1 => by
    have h1 := loopK_len step inK n
    have h2 := tailK_len step (n + 1)
    simp only [loopK, List.length_append, List.length_cons]
    omega
theorem data_ok (g : Names c) {step two : Bool} {n : Nat} (hn : n < 40) (hd : 110 ≤ d) :
    CallOk c d r_parse_data [.str (tx (dataC ++ (loopC step (innerC two) (n + 1) ++ endC)))] (.ok (foundT (ido step (itemsN step (innerT two) n) (n + 1)))) := by
  have hi : (innerC two).length ≤ 11 ∧ (innerK two).length ≤ 9 := by cases two <;> decide
  have l1 := loopC_len step (innerC two) (n + 1) (by omega)
  have l2 := loopK_len step (innerK two) (n + 1)
  have hx : Lexes c (loopC step (innerC two) (n + 1)) (loopK step (innerK two) (n + 1)) Sep := (lx_loop g step ((lx_inner g two).weaken fun _ _ => trivial) n (by omega)).weaken fun _ _ => trivial
  obtain ⟨T, m, ht⟩ := lexed g hx (by omega) (by omega)
  have hT : T.length = (loopK step (innerK two) (n + 1)).length + 3 := by rw [m.1]; simp [endK]
  have S := m.seg (by simp [endK]; omega)
  have SR := S.right
  have hp := loops_ok g (T := T) (step := step) (two := two) (by omega) n 0 0 (d - 3) S.left (by omega) (by omega) (by omega)
  have h0 : TokAt T 0 "OP" (.str "(") := by
    have : Seg T 0 ([op "("] ++ (loopK step (innerK two) n ++ tailK step (n + 1))) := S.left
    exact this.tok 0 rfl (by omega)
  have h1 : TokAt T (0 + (loopK step (innerK two) (n + 1)).length) "OP" (.str "/") := SR.tok 0 rfl (by omega)
  have h2 : TokAt T (0 + (loopK step (innerK two) (n + 1)).length + 1) "INT" (.int 5) := SR.tok 1 rfl (by omega)
  have h3 : TokAt T (0 + (loopK step (innerK two) (n + 1)).length + 2) "OP" (.str "/") := SR.tok 2 rfl (by omega)
  have hg := group_ok (d := d - 1) g (target_loop (d := d - 1 - 1) g h0 (by omega) (by omega) hp) h1 h2 h3 (by omega) (by omega)
  rw [show (0 : Int) + (loopK step (innerK two) (n + 1)).length + 3 = T.length by omega] at hg
  refine parse_data_ok g (by rw [tx_length]; simp [dataC, endC]; omega) ?_ hg (by omega) (by omega)
  rw [slice_data]
  exact ht _ (by omega)
theorem data_x (g : Names c) {p : List Nat} {ks : List TK} (h : Lexes c p ks Sep) (hl : p.length ≤ 40000) (hk : ks.length ≤ 40000) (hd : 110 ≤ d)
    (hp : ∀ T, T.length ≤ 50000 → Seg T 0 (ks ++ endK) → CallOk c (d - 2) r_parse_data_target [.lst T, .int 0, .int 0] .exn) : CallOk c d r_parse_data [.str (tx (dataC ++ (p ++ endC)))] .exn := by
  obtain ⟨T, m, ht⟩ := lexed g h hl hk
  have hT : T.length = ks.length + 3 := by rw [m.1]; simp [endK]
  have hg := group_x (d := d - 1) g (hp T (by omega) (m.seg (by simp [endK]; omega))) (by omega) (by omega)
  refine parse_data_x g (by rw [tx_length]; simp [dataC, endC]; omega) ?_ hg (by omega) (by omega)
  rw [slice_data]
  exact ht _ (by omega)
theorem data_x_deep (g : Names c) {p : List Nat} {ks : List TK} (h : Lexes c p ks Sep) (hl : p.length ≤ 40000) (hk : ks.length ≤ 40000) (hd : 110 ≤ d) (ho : ∀ j, j ≤ 40 → ks[j]? = some (op "(")) : CallOk c d r_parse_data [.str (tx (dataC ++ (p ++ endC)))] .exn := by
  refine data_x g h hl hk hd fun T hT S => ?_
  have hh : ∀ j : Nat, j ≤ 40 → TokAt T (0 + j) "OP" (.str "(") := fun j hj => S.left j _ _ (ho j hj)
  exact target_loop_x g (by simpa using hh 0 (by omega)) hT (by omega) (opens_x g hT 40 0 0 _ hh (by omega) (by omega))
theorem data_x_word (g : Names c) {p : List Nat} {ks : List TK} {v t : Str} {m : Nat} (h : Lexes c p ks Sep) (hl : p.length ≤ 40000) (hk : ks.length ≤ 40000) (hd : 110 ≤ d) (hm : m < 40) (ho : ∀ j, j ≤ m → ks[j]? = some (op "(")) (h1 : ks[m + 1]? = some (("NAME" : Str), PV.str v)) (h2 : ks[m + 2]? = some (op t)) (ht : (t == "(") = false) :
    CallOk c d r_parse_data [.str (tx (dataC ++ (p ++ endC)))] .exn := by
  refine data_x g h hl hk hd fun T hT S => ?_
  have hh : ∀ j : Nat, j ≤ m → TokAt T (0 + j) "OP" (.str "(") := fun j hj => S.left j _ _ (ho j hj)
  have k1 : TokAt T (0 + m + 1) "NAME" (.str v) := by
    have := S.left _ _ _ h1
    rwa [show (0 : Int) + ((m + 1 : Nat) : Int) = 0 + m + 1 by omega] at this
  have k2 : TokAt T (0 + m + 2) "OP" (.str t) := by
    have := S.left _ _ _ h2
    rwa [show (0 : Int) + ((m + 2 : Nat) : Int) = 0 + m + 2 by omega] at this
  exact target_loop_x g (by simpa using hh 0 (by omega)) hT (by omega) (word_x (v := v) g ht hT m 0 0 _ hh k1 k2 (by omega) (by omega))
/-! the texts of the law -/
def tailsK (step : Bool) : Nat → List TK
  | 0 => []
  | k + 1 => tailsK step k ++ tailK step (k + 1)
theorem loopK_eq (step : Bool) (inK : List TK) : ∀ n, loopK step inK n = List.replicate n (op "(") ++ (inK ++ tailsK step n)
  | 0 => by simp [loopK, tailsK]
  | n + 1 => by simp [loopK, tailsK, loopK_eq step inK n, List.replicate_succ]
theorem rep_open {n j : Nat} {rest : List TK} (h : j < n) : (List.replicate n (op "(") ++ rest)[j]? = some (op "(") := by
  rw [List.getElem?_append_left (by simpa using h)]
  simp [h]
theorem rep_at {n j : Nat} {rest : List TK} : (List.replicate n (op "(") ++ rest)[n + j]? = rest[j]? := by
  rw [List.getElem?_append_right (by simp)]
  simp
theorem tailsK_head (step : Bool) : ∀ n, (tailsK step (n + 1))[0]? = some (op ",")
  | 0 => by cases step <;> rfl
  | n + 1 => by
    have := tailsK_head step n
    show (tailsK step (n + 1) ++ tailK step (n + 2))[0]? = _
    rw [List.getElem?_append_left (List.getElem?_eq_some_iff.mp this).1, this]
/-- forty-one loops and more -/
theorem data_deep (g : Names c) {step : Bool} {inC : List Nat} {inK : List TK} {n : Nat} (hi : Lexes c inC inK Sep) (h1 : inC.length ≤ 100) (h2 : inK.length ≤ 100) (hn : 40 ≤ n) (hn' : n < 42) (hd : 110 ≤ d) :
    CallOk c d r_parse_data [.str (tx (dataC ++ (loopC step inC (n + 1) ++ endC)))] .exn := by
  have l1 := loopC_len step inC (n + 1) (by omega)
  have l2 := loopK_len step inK (n + 1)
  refine data_x_deep g ((lx_loop g step hi n hn').weaken fun _ _ => trivial) (by omega) (by omega) hd fun j hj => ?_
  rw [loopK_eq]
  exact rep_open (by omega)
/-- a plain name inside -/
theorem data_plain (g : Names c) {step : Bool} {n : Nat} (hn : n < 40) (hd : 110 ≤ d) : CallOk c d r_parse_data [.str (tx (dataC ++ (loopC step [66] (n + 1) ++ endC)))] .exn := by
  have l1 := loopC_len step [66] (n + 1) (by omega)
  have l2 := loopK_len step [("NAME", .str "B")] (n + 1)
  simp only [List.length_cons, List.length_nil] at l1 l2
  refine data_x_word (v := "B") (t := ",") (m := n) g ((lx_loop g step (lx_B g) n (by omega)).weaken fun _ _ => trivial) (by omega) (by omega) hd hn (fun j hj => ?_) ?_ ?_ rfl
  · rw [loopK_eq]; exact rep_open (by omega)
  · rw [loopK_eq]; exact rep_at (n := n + 1) (j := 0)
  · rw [loopK_eq]
    have := rep_at (n := n + 1) (j := 1) (rest := [(("NAME" : Str), PV.str "B")] ++ tailsK step (n + 1))
    rw [show n + 1 + 1 = n + 2 by omega] at this
    rw [this]
    exact tailsK_head step n
/-- brackets without a loop -/
def bracC (m : Nat) : List Nat := List.replicate m 40 ++ ([65] ++ List.replicate m 41)
def bracK (m : Nat) : List TK := List.replicate m (op "(") ++ ((("NAME" : Str), PV.str "A") :: List.replicate m (op ")"))
theorem lx_rep (g : Names c) {ch : Nat} {k : TK} (h : Lexes c [ch] [k] Any) : ∀ m, Lexes c (List.replicate m ch) (List.replicate m k) Any
  | 0 => fun pre post _ _ ks' mm h => by simpa using h
  | m + 1 => h.append (lx_rep g h m) fun _ _ => trivial
theorem lx_brac (g : Names c) {m : Nat} (hm : 1 ≤ m) : Lexes c (bracC m) (bracK m) Any :=
  (lx_rep g (lx_l g) m).append ((lx_A g).append (lx_rep g (lx_r g) m) fun post _ => by
    obtain ⟨k, rfl⟩ : ∃ k, m = k + 1 := ⟨m - 1, by omega⟩
    exact sep_of (by decide)) fun _ _ => trivial
theorem data_brac (g : Names c) {m : Nat} (hm : 1 ≤ m) (hm' : m ≤ 1000) (hd : 110 ≤ d) : CallOk c d r_parse_data [.str (tx (dataC ++ (bracC m ++ endC)))] .exn := by
  have l1 : (bracC m).length = 2 * m + 1 := by simp [bracC]; omega
  have l2 : (bracK m).length = 2 * m + 1 := by simp [bracK]; omega
  rcases Nat.lt_or_ge 40 m with h | h
  · exact data_x_deep g ((lx_brac g hm).weaken fun _ _ => trivial) (by omega) (by omega) hd fun j hj => rep_open (by omega)
  · obtain ⟨k, rfl⟩ : ∃ k, m = k + 1 := ⟨m - 1, by omega⟩
    refine data_x_word (v := "A") (t := ")") (m := k) g ((lx_brac g hm).weaken fun _ _ => trivial) (by omega) (by omega) hd (by omega) (fun j hj => rep_open (by omega)) (rep_at (n := k + 1) (j := 0)) ?_ rfl
    have := rep_at (n := k + 1) (j := 1) (rest := (("NAME" : Str), PV.str "A") :: List.replicate (k + 1) (op ")"))
    rw [show k + 1 + 1 = k + 2 by omega] at this
    exact this
/-! texts joined sign by sign -/
theorem E_strC {sc : Scope} {σ : St} {s : Str} {l : List Nat} {k : Nat} {pos : Pos} (h : s.cps.toList = l) : SemE c d sc σ (.Constant (.str s) k pos) (.ok (.str (tx l))) σ := by
  rw [← eq_tx h]; exact E_str
theorem E_addT {sc : Scope} {σ σ₁ σ' : St} {e₁ e₂ : Expr} {pos : Pos} {a b : List Nat} (h1 : SemE c d sc σ e₁ (.ok (.str (tx a))) σ₁) (h2 : SemE c d sc σ₁ e₂ (.ok (.str (tx b))) σ') (hl : a.length + b.length ≤ 100000) : SemE c d sc σ (.BinOp e₁ .Add e₂ pos) (.ok (.str (tx (a ++ b)))) σ' := by
  rw [← tx_append]
  exact E_bin h1 h2 (bin_add_str (by rw [tx_length, tx_length]; exact hl))
theorem log_facts : ∀ k : Nat, k < 43 → ((k : Int)).natAbs.log2 < 1920 := by decide +kernel
theorem E_strI (g : Names c) {sc : Scope} {σ σ' : St} {e : Expr} {np pos : Pos} {k : Nat} (h : SemE c d sc σ e (.ok (.int (k : Int))) σ') (hg : sc.names.lookup ("str" : Str) = some .globalImplicit) (hk : k < 43) (hp : plainE e = true) :
    SemE c d sc σ (.Call (.Name "str" np) [e] [] pos) (.ok (.str (tx (dg k)))) σ' := by
  have := E_type (np := np) (pos := pos) g.str hg (L_cons hp h L_nil) (fn_str (c := c) (log_facts k hk)) (by rw [List.all_cons, hp]; rfl) rfl
  have e : tx (dg k) = Str.ofString (toString (k : Int)) := tx_cps _
  rwa [e]
theorem lookup3 {a b e x : Str} {p q r z : PV} (h : List.lookup x [(a, p), (b, q), (e, r)] = some z) : (x = a ∧ z = p) ∨ (x = b ∧ z = q) ∨ (x = e ∧ z = r) := by
  rw [List.lookup_cons] at h
  cases h1 : x == a with
  | true => rw [h1] at h; exact .inl ⟨by simpa using h1, (Option.some.inj h).symm⟩
  | false =>
    rw [h1] at h
    have h : List.lookup x [(b, q), (e, r)] = some z := h
    rw [List.lookup_cons] at h
    cases h2 : x == b with
    | true => rw [h2] at h; exact .inr (.inl ⟨by simpa using h2, (Option.some.inj h).symm⟩)
    | false =>
      rw [h2] at h
      have h : List.lookup x [(e, r)] = some z := h
      rw [List.lookup_cons] at h
      cases h3 : x == e with
      | true => rw [h3] at h; exact .inr (.inr ⟨by simpa using h3, (Option.some.inj h).symm⟩)
      | false => rw [h3] at h; cases h
def forOf (sts : List Stmt) (i : Nat) : List Stmt := match sts[i]? with
  | some (.For _ _ b _ _) => b
  | _ => []
theorem E_ifName {sc : Scope} {σ : St} {x : Str} {np pos : Pos} {e₁ e₂ : Expr} {b : Bool} {p q r : PV} (h : SemE c d sc σ (.Name x np) (.ok (.bool b)) σ) (h1 : SemE c d sc σ e₁ (.ok p) σ) (h2 : SemE c d sc σ e₂ (.ok q) σ) (hr : (if b then p else q) = r) : SemE c d sc σ (.IfExp (.Name x np) e₁ e₂ pos) (.ok r) σ := by
  subst hr
  cases b with
  | false => exact E_ifF (T_name h) h2
  | true => exact E_ifT (T_name h) h1
def stepC (step : Bool) : List Nat := if step then [44] ++ [50] else []
theorem text_next (step : Bool) (L : List Nat) (k : Nat) : ((((((([40] ++ L) ++ [44]) ++ (73 :: dg k)) ++ [61, 49, 44]) ++ dg k) ++ stepC step) ++ [41]) = [40] ++ (L ++ tailC step k) := by
  unfold tailC stepC
  cases step <;> simp
theorem law_loop (g : Names c) {step : Bool} {inC : List Nat} {inT : List PV} (hin : inC.length ≤ 100) (high : Nat) (hh : high ≤ 42) : ∀ (n k : Nat) (kk : Int), kk = (k : Int) + 1 → k + n = high →
    SemF c d r_law_loops.scope ⟨[("text", .str (tx (loopC step inC k))), ("items", .lst (itemsN step inT k)), ("has_step", .bool step)], none⟩ "number" (forOf r_law_loops.body 2) kk n (.ok .next) ⟨[("text", .str (tx (loopC step inC high))), ("items", .lst (itemsN step inT high)), ("has_step", .bool step)], none⟩
  | 0, k, kk, hk, hn => by
    obtain rfl : k = high := by omega
    exact F_none rfl
  | n + 1, k, kk, hk, hn => by
    obtain rfl : kk = ((k + 1 : Nat) : Int) := by omega
    have hL := loopC_len step inC k (by omega)
    have hdg := (dg_facts (k + 1) (by omega)).2.2.1
    have hsc : (stepC step).length ≤ 2 := by cases step <;> decide
    have hst : (if step then PV.str (tx [44, 50]) else PV.str (tx [])) = .str (tx (stepC step)) := by cases step <;> rfl
    apply F_more (by omega)
    · exact rfl
    · exact rfl
    · apply B_gen
      · apply S_assign
        · exact E_addT (E_strC (l := [73]) (by decide +kernel)) (E_strI g (E_var rfl rfl rfl) rfl (by omega) rfl) (by simp; omega)
        · exact rfl
        · exact rfl
        · exact rfl
      apply Cont_next
      apply B_gen
      · apply S_assign
        · refine E_addT (E_addT (E_addT (E_addT (E_addT (E_addT (E_addT (E_strC (l := [40]) (by decide +kernel)) (E_var rfl rfl rfl) ?_) (E_strC (l := [44]) (by decide +kernel)) ?_) (E_var (p := .str (tx ([73] ++ dg (k + 1)))) rfl rfl rfl) ?_) (E_strC (l := [61, 49, 44]) (by decide +kernel)) ?_)
            (E_strI g (E_var rfl rfl rfl) rfl (by omega) rfl) ?_) (b := stepC step) ?_ ?_) (E_strC (l := [41]) (by decide +kernel)) ?_
          · simp; omega
          · simp; omega
          · simp; omega
          · simp; omega
          · simp; omega
          · exact E_ifName (p := .str (tx [44, 50])) (q := .str (tx [])) (E_var rfl rfl rfl) (E_strC (by decide +kernel)) (E_strC (by decide +kernel)) hst
          · simp; omega
          · simp; omega
        · exact rfl
        · exact rfl
        · exact rfl
      apply Cont_next
      apply B_gen
      · apply S_assign (p := .lst (itemsN step inT (k + 1)))
        · show SemE _ _ _ _ _ (.ok (.lst [.tup [.str "ido", .lst (itemsN step inT k), .str (nameOf (k + 1)), intT 1, intT ((k + 1 : Nat) : Int), if step then intT 2 else .none]])) _
          rw [name_tx]
          unfold intT
          apply E_list
          · apply L_cons rfl
            · apply E_tuple
              · apply L_cons rfl
                · walk_at "E"
                apply L_cons rfl
                · walk_at "E"
                apply L_cons rfl
                · walk_at "E"
                apply L_cons rfl
                · walk_at "E"
                apply L_cons rfl
                · walk_at "E"
                apply L_cons rfl
                · exact E_ifName (p := .tup [.str "int", .int 2]) (q := .none) (E_var rfl rfl rfl) (E_tuple (L_cons rfl E_str (L_cons rfl E_int L_nil)) (Nat.le_of_ble_eq_true rfl)) E_none rfl
                exact L_nil
              · exact Nat.le_of_ble_eq_true rfl
            exact L_nil
          · exact Nat.le_of_ble_eq_true rfl
        · exact rfl
        · exact rfl
        · exact rfl
      apply Cont_next
      exact B_nil
    · apply FCont_next
      refine F_pre (law_loop g hin high hh n (k + 1) _ (by omega) (by omega)) (fun x p hx => ?_) rfl
      rcases lookup3 hx with ⟨rfl, rfl⟩ | ⟨rfl, rfl⟩ | ⟨rfl, rfl⟩
      · show some _ = _
        exact congrArg (fun l => some (PV.str (tx l))) (text_next step (loopC step inC k) (k + 1))
      · exact rfl
      · exact rfl
def valueOf (sts : List Stmt) (i : Nat) : Expr := match sts[i]? with
  | some (.Assign _ v _) => v
  | _ => .Constant .none 0 default
def secondOf (e : Expr) : Expr := match e with
  | .Tuple [_, b] _ _ => b
  | _ => e
def eltOf (e : Expr) : Expr := match e with
  | .ListComp elt _ _ _ => elt
  | _ => e
def scopeOf (e : Expr) : Scope := match e with
  | .ListComp _ _ s _ => s
  | _ => default
def comp1 : Expr := valueOf r_law_loops.body 0
def comp2 : Expr := secondOf (valueOf r_law_loops.body 1)
theorem law_loops_ok (g : Names c) {ones : List PV} {ss : List Str} {inT : List PV} {inC : List Nat} {step : Bool} {high : Nat} {q : PV}
    (e1 : Elems c (scopeOf comp1) "one" (eltOf comp1) ones (ss.map PV.str)) (e2 : Elems c (scopeOf comp2) "one" (eltOf comp2) ones inT) (ho : ones.length ≤ 10)
    (hj : Txt.join "," ss = tx inC) (hok : JoinOk "," ss = true) (hin : inC.length ≤ 100) (hh : high ≤ 42) (hq : (itemsN step inT high)[0]? = some q) (hd : 1 ≤ d) :
    CallOk c d r_law_loops [.int (high : Int), .lst ones, .bool step] (.ok (.tup [.str (tx (loopC step inC high)), q])) := by
  apply call_ret g.lone pl_law_loops rfl
  apply B_gen
  · apply S_comp (ps := ones) (qs := ss.map PV.str)
    · exact E_var rfl rfl rfl
    · exact e1
    · omega
    · decide +kernel
    · decide +kernel
    · exact rfl
    · exact rfl
    · decide +kernel
    · intro _ _; rfl
    · exact rfl
    · intro _ _ _ _; rfl
  apply Cont_next
  apply B_gen
  · apply S_swap (p := .str (tx inC)) (q := .lst inT)
    · apply L_cons rfl
      · rw [← hj]
        apply E_join
        · exact E_var rfl rfl rfl
        · exact rfl
        · exact hok
        · exact rfl
      apply L_cons rfl
      · apply E_comp (ps := ones) (qs := inT)
        · exact E_var rfl rfl rfl
        · exact e2
        · omega
        · decide +kernel
        · decide +kernel
        · exact rfl
        · exact rfl
        · decide +kernel
        · intro _ _; rfl
      exact L_nil
    · exact rfl
    · exact rfl
    · intro _ _ _ _; rfl
  apply Cont_next
  apply B_gen
  · apply S_for2 g.rng (a := 1) (b := (high : Int) + 1)
    · exact rfl
    · walk_at "E"
    · walk_at "E"
    · exact rfl
    · exact rfl
    · exact rfl
    · omega
    · refine F_pre (law_loop (step := step) (inT := inT) g hin high hh _ 0 _ (by omega) (by omega)) (fun x p hx => ?_) rfl
      rcases lookup3 hx with ⟨rfl, rfl⟩ | ⟨rfl, rfl⟩ | ⟨rfl, rfl⟩
      · exact rfl
      · exact rfl
      · exact rfl
  apply Cont_next
  apply B_gen
  · apply S_return
    apply E_tuple
    · apply L_cons rfl
      · walk_at "E"
      apply L_cons rfl
      · exact E_atL (j := 0) (E_var rfl rfl rfl) rfl (by decide) hq
      exact L_nil
    · exact Nat.le_of_ble_eq_true rfl
  · exact Cont_ret
/-! the four ways -/
def nameB : PV := .tup [.str "name", .str "B"]
theorem el1_0 : ElemOk c (scopeOf comp1) "one" (eltOf comp1) (.int (0 : Nat)) (.str "A(I1)") := elem_index (K_list (K_cons rfl K_str (K_cons rfl K_str K_nil)) (by exact Nat.le_of_ble_eq_true rfl)) rfl (by decide) rfl rfl rfl
theorem el1_1 : ElemOk c (scopeOf comp1) "one" (eltOf comp1) (.int (1 : Nat)) (.str "B") := elem_index (K_list (K_cons rfl K_str (K_cons rfl K_str K_nil)) (by exact Nat.le_of_ble_eq_true rfl)) rfl (by decide) rfl rfl rfl
theorem el2_0 : ElemOk c (scopeOf comp2) "one" (eltOf comp2) (.int (0 : Nat)) elemT := by
  apply elem_index (i := 0) (ps := [elemT, nameB])
  · unfold elemT nameB
    apply K_list
    · apply K_cons rfl
      · apply K_tuple
        · apply K_cons rfl
          · exact K_str
          apply K_cons rfl
          · exact K_str
          apply K_cons rfl
          · apply K_list
            · apply K_cons rfl
              · apply K_tuple
                · apply K_cons rfl
                  · exact K_str
                  apply K_cons rfl
                  · exact K_str
                  exact K_nil
                · exact Nat.le_of_ble_eq_true rfl
              exact K_nil
            · exact Nat.le_of_ble_eq_true rfl
          exact K_nil
        · exact Nat.le_of_ble_eq_true rfl
      apply K_cons rfl
      · apply K_tuple
        · apply K_cons rfl
          · exact K_str
          apply K_cons rfl
          · exact K_str
          exact K_nil
        · exact Nat.le_of_ble_eq_true rfl
      exact K_nil
    · exact Nat.le_of_ble_eq_true rfl
  · exact rfl
  · decide
  · exact rfl
  · exact rfl
  · exact rfl
theorem el2_1 : ElemOk c (scopeOf comp2) "one" (eltOf comp2) (.int (1 : Nat)) nameB := by
  apply elem_index (i := 1) (ps := [elemT, nameB])
  · unfold elemT nameB
    apply K_list
    · apply K_cons rfl
      · apply K_tuple
        · apply K_cons rfl
          · exact K_str
          apply K_cons rfl
          · exact K_str
          apply K_cons rfl
          · apply K_list
            · apply K_cons rfl
              · apply K_tuple
                · apply K_cons rfl
                  · exact K_str
                  apply K_cons rfl
                  · exact K_str
                  exact K_nil
                · exact Nat.le_of_ble_eq_true rfl
              exact K_nil
            · exact Nat.le_of_ble_eq_true rfl
          exact K_nil
        · exact Nat.le_of_ble_eq_true rfl
      apply K_cons rfl
      · apply K_tuple
        · apply K_cons rfl
          · exact K_str
          apply K_cons rfl
          · exact K_str
          exact K_nil
        · exact Nat.le_of_ble_eq_true rfl
      exact K_nil
    · exact Nat.le_of_ble_eq_true rfl
  · exact rfl
  · decide
  · exact rfl
  · exact rfl
  · exact rfl
def wayOnes : Nat → List PV
  | 1 => [.int (0 : Nat), .int (0 : Nat)]
  | 2 => [.int (1 : Nat)]
  | _ => [.int (0 : Nat)]
def wayC : Nat → List Nat
  | 1 => innerC true
  | 2 => [66]
  | _ => innerC false
def wayT : Nat → List PV
  | 1 => innerT true
  | 2 => [nameB]
  | _ => innerT false
theorem law_loops_way (g : Names c) {way high : Nat} {step : Bool} (hw : way < 4) (hh : high < 42) (hd : 1 ≤ d) :
    CallOk c d r_law_loops [.int ((high + 1 : Nat) : Int), .lst (wayOnes way), .bool step] (.ok (.tup [.str (tx (loopC step (wayC way) (high + 1))), ido step (itemsN step (wayT way) high) (high + 1)])) := by
  match way, hw with
  | 0, _ => exact law_loops_ok g (ss := ["A(I1)"]) (.cons el1_0 .nil) (.cons el2_0 .nil) (by decide) (by decide +kernel) (by decide +kernel) (by decide) (by omega) rfl hd
  | 1, _ => exact law_loops_ok g (ss := ["A(I1)", "A(I1)"]) (.cons el1_0 (.cons el1_0 .nil)) (.cons el2_0 (.cons el2_0 .nil)) (by decide) (by decide +kernel) (by decide +kernel) (by decide) (by omega) rfl hd
  | 2, _ => exact law_loops_ok g (ss := ["B"]) (.cons el1_1 .nil) (.cons el2_1 .nil) (by decide) (by decide +kernel) (by decide +kernel) (by decide) (by omega) rfl hd
  | 3, _ => exact law_loops_ok g (ss := ["A(I1)"]) (.cons el1_0 .nil) (.cons el2_0 .nil) (by decide) (by decide +kernel) (by decide +kernel) (by decide) (by omega) rfl hd
section
variable {c : Cx} {d : Nat}
/-- what a tick gives -/
def tickV (xs : List Int) (n : Nat) (many : Int) : Int := match xs[n]? with
  | some x => x.fmod many
  | none => (2 * ((n : Int) + 1) + ((n : Int) + 1).fdiv 2).fmod many
theorem ints_get : ∀ {vs : List Value} {xs : List Int} {k : Nat} {x : Int}, IntsAre vs xs → xs[k]? = some x → ∃ t, vs[k]? = some (.int x t)
  | _, [], _, _, _, h => by simp at h
  | _, _ :: _, 0, _, .cons _ t _, h => ⟨t, by
    have := Option.some.inj h
    subst this; rfl⟩
  | _, _ :: _, k + 1, _, .cons _ t r, h => by
    obtain ⟨u, hu⟩ := ints_get (k := k) r (by simpa using h)
    exact ⟨u, by simpa using hu⟩
structure TickAt (c : Cx) (h : Heap) (L a l : Addr) (vs : Array Value) (xs : List Int) (n : Int) (many : Int) (m : Str → Option Value) : Prop where
  ns : h.Ns L m
  clock : m "clock" = some (.ref a)
  many : ∃ t, m "many" = some (.int many t)
  dict : ∃ t, h.DictOf (PySem.strKind c.prog c.w) a [("script", .ref l), ("at", .int n t)]
  list : h.IsList l vs
  isInts : IntsAre vs.toList xs
  G : GF c h
variable {A : Around} {E : Value → Shared → Prop} {s : Shared} {L a l fa : Addr} {vs : Array Value} {xs : List Int} {n many : Int} {m : Str → Option Value} {cd : Value}
theorem tk_at (T : TickAt c s.heap L a l vs xs n many m) {k : Nat} {p1 p2 p3 : Pos} {Q : Value → Shared → Prop} (h : ∀ t tk, Q (.int n t) { s with toks := tk }) :
    wpAny (model c.prog c.w) A (eval (.Subscript (.Name "clock" p1) (.Constant (.str "at") k p2) p3) (envOf r_law_tick.name r_law_tick.scope L fa cd)) Q E s := by
  obtain ⟨t, D⟩ := T.dict
  refine Subscript_ (wpAny_Name (wpAny_loadName_local rfl rfl T.ns T.clock ?_) rfl)
  refine wpAny_Constant_str ?_
  refine tail_ (s := { s with toks := s.toks + 1 }) D.typeIs slot_dict_getitem.lookup ?_
  exact wpAny_getItem_of (PySem.strKind_is _ _ _ _) D.mapOf (by rfl) (h t _)
theorem tk_script (T : TickAt c s.heap L a l vs xs n many m) {k : Nat} {p1 p2 p3 : Pos} {Q : Value → Shared → Prop} (h : ∀ tk, Q (.ref l) { s with toks := tk }) :
    wpAny (model c.prog c.w) A (eval (.Subscript (.Name "clock" p1) (.Constant (.str "script") k p2) p3) (envOf r_law_tick.name r_law_tick.scope L fa cd)) Q E s := by
  obtain ⟨t, D⟩ := T.dict
  refine Subscript_ (wpAny_Name (wpAny_loadName_local rfl rfl T.ns T.clock ?_) rfl)
  refine wpAny_Constant_str ?_
  refine tail_ (s := { s with toks := s.toks + 1 }) D.typeIs slot_dict_getitem.lookup ?_
  exact wpAny_getItem_of (PySem.strKind_is _ _ _ _) D.mapOf (by rfl) (h _)
theorem tk_many (T : TickAt c s.heap L a l vs xs n many m) {p1 : Pos} {Q : Value → Shared → Prop} (h : ∀ t, Q (.int many t) s) :
    wpAny (model c.prog c.w) A (eval (.Name "many" p1) (envOf r_law_tick.name r_law_tick.scope L fa cd)) Q E s := by
  obtain ⟨t, hm⟩ := T.many
  exact wpAny_Name (wpAny_loadName_local rfl rfl T.ns hm (h t)) rfl
theorem tick_body (hlen : GB c "len" (.builtin "len")) (hh : A.handled = none) {k : Nat} (hk : n = (k : Int)) (hk' : k < 1000) (hx : xs.length ≤ 1000) (hm : many ≠ 0) (hm' : many.natAbs < 1000) {Q : Flow → Shared → Prop} {h₀ : Heap} (hG : ∀ h', (∀ b o, b ≠ a → s.heap.get? b = some o → h'.get? b = some o) → GF c h') (hal : a ≠ l) (haL : L ≠ a)
    (T : TickAt c s.heap L a l vs xs n many m)
    (post : ∀ h' tk t, (∀ b o, b ≠ a → s.heap.get? b = some o → h'.get? b = some o) → (∃ t', h'.DictOf (PySem.strKind c.prog c.w) a [("script", .ref l), ("at", .int ((k + 1 : Nat) : Int) t')]) → Q (.ret (.int (tickV xs k many) t)) { s with heap := h', toks := tk }) :
    wpAny (model c.prog c.w) A (execs r_law_tick.body (envOf r_law_tick.name r_law_tick.scope L fa cd)) Q E s := by
  have post1 : ∀ v, tickV xs k many = v → ∀ h' tk t, (∀ b o, b ≠ a → s.heap.get? b = some o → h'.get? b = some o) → (∃ t', h'.DictOf (PySem.strKind c.prog c.w) a [("script", .ref l), ("at", .int ((k + 1 : Nat) : Int) t')]) → Q (.ret (.int v t)) { s with heap := h', toks := tk } := by
    rintro v rfl; exact post
  refine wpAny_execs_cons (wpAny_Assign_Subscript ?_ rfl)
  refine wpAny_BinOp (tk_at T fun t tk => wpAny_Constant_int (PyProof.Rows.add_int ?_))
  obtain ⟨td, D⟩ := T.dict
  refine wpAny_Name (wpAny_loadName_local rfl rfl T.ns T.clock ?_) rfl
  refine wpAny_Constant_str ?_
  refine wpAny_setItem_pairs (PySem.strKind_is _ _ _ _) D (fun h₁ D₁ hs => ?_) (by rw [sizeLine_eq]; exact (by decide : 2 ≤ 16777216))
  have up : ∀ b o, b ≠ a → s.heap.get? b = some o → h₁.get? b = some o := fun b o hb e => (hs.2 b hb).trans e
  have D₂ : ∃ t', h₁.DictOf (PySem.strKind c.prog c.w) a [("script", .ref l), ("at", .int ((k + 1 : Nat) : Int) t')] := ⟨_, by have := D₁; rw [hk] at this; exact this⟩
  have T₁ : TickAt c h₁ L a l vs xs (n + 1) many m := ⟨T.ns.sameBut hs haL, T.clock, T.many, ⟨_, D₁⟩, by
    obtain ⟨o, e, r⟩ := T.list
    exact ⟨o, up _ _ (Ne.symm hal) e, r⟩, T.isInts, hG h₁ up⟩
  have hsz : vs.size = xs.length := by rw [← Array.length_toList, T.isInts.length]
  refine wpAny_execs_cons (wpAny_If (wpAny_isTrue_Compare1 (tk_at T₁ fun t1 tk1 => ?_)))
  refine Call_Name rfl (Name_function_global rfl rfl (loadGlobal_builtin T₁.G.top.g (hlen _ T₁.G).1 T₁.G.top.b (hlen _ T₁.G).2 ?_) rfl)
  refine callWith_builtin1 ?_ rfl rfl
  refine wpAny_items_cons (tk_script T₁ fun tk2 => wpAny_items_nil ?_) rfl
  refine len_list T₁.list (by omega) ?_
  refine PyProof.Rows.le_int (wpAny_truthy_bool ?_)
  rcases Nat.lt_or_ge k xs.length with hlt | hge
  · rw [if_pos (by rw [hsz]; exact decide_eq_true (by omega))]
    obtain ⟨tx, hv'⟩ := ints_get T.isInts (List.getElem?_eq_getElem hlt)
    have hv : vs[k]? = some (.int xs[k] tx) := by simpa using hv'
    refine wpAny_execs_cons (wpAny_Return_some ?_)
    refine wpAny_BinOp (Subscript_ (tk_script T₁ fun tk3 => ?_))
    refine wpAny_BinOp (tk_at T₁ fun t4 tk4 => wpAny_Constant_int (PyProof.Rows.sub_int ?_))
    refine tail_ T₁.list.typeIs slot_list_getitem.lookup ?_
    refine wpAny_getItem_list T₁.list (by omega) (by omega) (by rw [show (n + 1 - 1).toNat = k by omega]; exact hv) ?_
    refine tk_many T₁ fun t5 => ?_
    refine PyProof.Rows.mod_int hm ?_
    have e : tickV xs k many = (xs[k]).fmod many := by unfold tickV; rw [List.getElem?_eq_getElem hlt]
    exact post1 _ e h₁ _ _ up D₂
  · rw [if_neg (by rw [hsz, decide_eq_false (by omega)]; decide)]
    refine wpAny_execs_nil ?_
    refine wpAny_execs_cons (wpAny_Return_some ?_)
    refine wpAny_BinOp (wpAny_BinOp (wpAny_BinOp (wpAny_Constant_int (tk_at T₁ fun t3 tk3 => ?_))))
    refine PyProof.Rows.mul_int ?_ (by exact PySem.IntMulOk.of_left (by decide))
    refine wpAny_BinOp (tk_at T₁ fun t4 tk4 => wpAny_Constant_int ?_)
    refine PyProof.Rows.floordiv_int (by decide) ?_
    refine PyProof.Rows.add_int ?_
    refine tk_many T₁ fun t5 => ?_
    refine PyProof.Rows.mod_int hm ?_
    have e : tickV xs k many = (2 * (n + 1) + (n + 1).fdiv 2).fmod many := by
      unfold tickV; rw [List.getElem?_eq_none hge, hk]
    exact post1 _ e h₁ _ _ up D₂
end
section
variable {c : Cx} {d : Nat} {sc : Scope}
theorem Inv.reown {h₀ : Heap} {L a : Addr} {P : Addr → Obj → Prop} {H : PH} {h h' : Heap} {m : Str → Option Value} {vars : List (Str × PV)} {x : Str} {ov ov' : OV}
    (I : Inv h₀ L P ⟨vars, some (x, ov)⟩ H h m) (k1 : m x = some (.ref a)) (k4 : H a = none) (k5 : h₀.get? a = none) (k6 : a ≠ L) (k8 : ∀ o', ¬ P a o')
    (hs : ∀ b o, b ≠ a → h.get? b = some o → h'.get? b = some o) (hv : OvIn H h' a ov') : Inv h₀ L P ⟨vars, some (x, ov')⟩ H h' m := by
  refine ⟨fun b o hq => ⟨hs b o (fun e => k8 o (e ▸ hq)) (I.prot b o hq).1, (I.prot b o hq).2⟩, ?_, fun b cc xs hb => ?_, I.loc, I.vars, fun y q hy => ?_⟩
  · obtain ⟨oL, z1, z2, hL, z3⟩ := I.fr.ns
    exact ⟨⟨oL, z1, z2, hs L oL (Ne.symm k6) hL, z3⟩, fun b o e => hs b o (fun q => by rw [q, k5] at e; cases e) (I.fr.keep b o e), I.fr.above⟩
  · obtain ⟨ob, n, j1, j2, j3⟩ := I.sub b cc xs hb
    exact ⟨ob, n, hs b ob (fun e => by rw [e, k4] at hb; cases hb) j1, j2, j3⟩
  · have e : some (x, ov') = some (y, q) := hy
    obtain ⟨rfl, rfl⟩ := Prod.mk.inj (Option.some.inj e)
    exact ⟨a, k1, hv, k4, k5, k6, k8⟩
theorem E_tick (hcp : c.p = vw) (hlen : GB c "len" (.builtin "len")) {x : Str} {e : Expr} {np xp pos : Pos} {vars : List (Str × PV)} {xs : List Int} {n : Nat} {many : Int} (hn : n < 1000) (hx : xs.length ≤ 1000) (hm : many ≠ 0) (hm' : many.natAbs < 1000)
    (hg : sc.names.lookup ("_law_tick" : Str) = some .globalImplicit) (hl : sc.names.lookup x = some .local) (h2 : SemE c d sc ⟨vars, some (x, .clk c.prog c.w xs n)⟩ e (.ok (.int many)) ⟨vars, some (x, .clk c.prog c.w xs n)⟩) (hp : plainE e = true) (hd : (x == ("__debug__" : Str)) = false) :
    SemE c d sc ⟨vars, some (x, .clk c.prog c.w xs n)⟩ (.Call (.Name "_law_tick" np) [.Name x xp, e] [] pos) (.ok (.int (tickV xs n many))) ⟨vars, some (x, .clk c.prog c.w xs (n + 1))⟩ := by
  constructor; intro A outer nm fa L cd h₀ s P H m Q E K R G hk I post
  obtain ⟨a, k1, _⟩ := I.own x _ rfl
  refine Call_Name rfl (tp_def I.fr G.top (d := r_law_tick) (hcp ▸ f_law_tick) (fun f o pm code doc j1 j2 j3 => ?_) hk hg rfl)
  refine callWith_def j2 ?_ rfl
  refine wpAny_items_cons (ld I.fr k1 ?_ hk hl hd) rfl
  refine wpAny_items_cons (h2.run A outer nm fa L cd h₀ s P H m _ _ K R G hk I fun v h' tk' H' I' X' r' => wpAny_items_nil ?_) (starEach_plain hp)
  refine ⟨I'.fr.keep _ _ j1, ?_⟩
  obtain ⟨t, rfl⟩ := r'
  obtain ⟨a', q1, ⟨od, l, td, vs, q2, q3, q4, q5, q6⟩, q7, q8, q9, q10⟩ := I'.own x _ rfl
  obtain rfl : a = a' := by
    rw [k1] at q1
    exact Value.ref.inj (Option.some.inj q1)
  refine wpAny_call (call_plain (binds := [("clock", .ref a), ("many", .int many t)]) ?_ (I'.fr.keep _ _ j1) j2 (G.keeps I'.fr.keep).top.nolimit (j3.keeps I'.fr.keep) rfl (by
    intro y hy
    rcases List.mem_cons.mp hy with rfl | hy
    · rfl
    · rcases List.mem_cons.mp hy with rfl | hy
      · rfl
      · cases hy) (fun h₁ F₁ => ?_) rfl rfl rfl (by decide +kernel))
  · have := R.2.1
    show A.depth + 1 < 1000
    omega
  · have hal : a ≠ l := fun e => by rw [e] at q7; rw [q7] at q5; cases q5
    have haL : h'.objs.size ≠ a := Nat.ne_of_gt (Heap.lt_size q2)
    refine tick_body (s := { s with heap := h₁, toks := tk' + [("clock", Value.ref a), ("many", Value.int many t)].length }) (l := l) (vs := vs) (m := fun y => [(("clock" : Str), Value.ref a), (("many" : Str), Value.int many t)].reverse.lookup y) hlen ?_ (k := n) rfl hn hx hm hm' (h₀ := h₀) (fun h₂ hk₂ => G.keeps fun b ob eb => hk₂ b ob (fun e => by rw [e, q8] at eb; cases eb) (F₁.keep _ _ (I'.fr.keep _ _ eb))) hal haL ?_ fun h₂ tk₂ t₂ hk₂ hd₂ => ?_
    · exact R.1
    · refine ⟨F₁.ns, rfl, ⟨t, rfl⟩, ⟨td, Heap.dictOf_iff.mpr ⟨od, F₁.keep _ _ q2, q3⟩⟩, ?_, q6, G.keeps fun b ob eb => F₁.keep _ _ (I'.fr.keep _ _ eb)⟩
      obtain ⟨ol, e1, e2⟩ := I'.sub.lst q5
      exact ⟨ol, F₁.keep _ _ e1, e2⟩
    · obtain ⟨t', D⟩ := hd₂
      obtain ⟨od', e1, e2⟩ := Heap.dictOf_iff.mp D
      refine post (.int (tickV xs n many) t₂) h₂ tk₂ H' (I'.reown q1 q7 q8 q9 q10 (fun b ob hb eb => hk₂ b ob hb (F₁.keep _ _ eb)) ⟨od', l, t', vs, e1, e2, q4, q5, q6⟩) X' ⟨t₂, rfl⟩
end
section
variable {c : Cx} {d : Nat} {sc : Scope} {σ σ' σ₁ σ₂ : St}
theorem GB.shift {x : Str} {v : Value} {B : Heap} (g : GB c x v) (k : c.B.StaysIn B) : GB (c.shift B) x v := fun h G => g h (G.unshift k)
theorem TabNo.shift {x y : Str} {B : Heap} (g : TabNo c x y) (k : c.B.StaysIn B) : TabNo (c.shift B) x y := fun h G => g h (G.unshift k)
def ExcAt.shift {B : Heap} (X : ExcAt c) (k : c.B.StaysIn B) : ExcAt (c.shift B) :=
  { C := X.C, P := X.P, fI := X.fI, N := X.N, nm := X.nm, q := X.q, bs := X.bs, sn := X.sn, sub := X.sub, ab := X.ab, col := X.col, dd := X.dd, k0 := X.k0, k1 := X.k1, k2 := X.k2, k3 := X.k3, k5 := X.k5,
    oI := X.oI, pm := X.pm, cd := X.cd, doc := X.doc, exc := X.exc, hC := fun h G => X.hC h (G.unshift k), hi := fun h G => X.hi h (G.unshift k), hs := fun h G => X.hs h (G.unshift k), ht := fun h G => X.ht h (G.unshift k),
    hfI := fun h G => X.hfI h (G.unshift k), cls := X.cls, dat := X.dat, code := fun h G => X.code h (G.unshift k), mg := fun h G => X.mg h (G.unshift k), exn := X.exn.shift k }
/-- what the law rests on -/
structure Facts (c : Cx) where
  p : c.p = vw
  len : GB c "len" (.builtin "len")
  rng : GB c "range" (.type "range")
  mx : GB c "max" (.builtin "max")
  str : GB c "str" (.type "str")
  int : GB c "int" (.type "int")
  prio1 : TabNo c "PRIORITIES" ")"
  prio2 : TabNo c "PRIORITIES" ","
  exc : ExcAt c
def Facts.shift {B : Heap} (F : Facts c) (k : c.B.StaysIn B) : Facts (c.shift B) :=
  ⟨F.p, F.len.shift k, F.rng.shift k, F.mx.shift k, F.str.shift k, F.int.shift k, F.prio1.shift k, F.prio2.shift k, F.exc.shift k⟩
theorem Facts.names (F : Facts c) (hl : c.lone = false) : Names c :=
  ⟨F.p, hl, F.len, F.rng, F.mx, F.str, F.int, F.prio1, F.prio2, fun hd hg => raise_ok F.exc hd hg⟩
theorem Facts.under (F : Facts c) {B : Heap} (k : c.B.StaysIn B) : Names (c.shift B) := (F.shift k).names rfl
theorem CallOk.lower {fn : DefRec} {args : List PV} {r : Res PV} (h : CallOk (c.shift c.B) d fn args r) : CallOk c d fn args r :=
  fun A outer s H vs a o pm cd doc Q E K R G S rs ho hdat hcd post => h A outer s H vs a o pm cd doc Q E K R (G.shift G.stays) S rs ho hdat hcd post
/-! text times number -/
theorem foldl_rep (a : Array Nat) : ∀ (n : Nat) (b : Array Nat), ((List.replicate n a).foldl (· ++ ·) b).toList = b.toList ++ (List.replicate n a.toList).flatten
  | 0, b => by simp
  | n + 1, b => by
    rw [List.replicate_succ, List.foldl_cons, foldl_rep a n, List.replicate_succ, List.flatten_cons]
    simp
theorem bin_mul_sign {ch : Nat} {n : Nat} (h1 : 2 ≤ n) (h2 : n ≤ 1000) : BinOk c .Mult (.str (tx [ch])) (.int (n : Int)) (.str (tx (List.replicate n ch))) := by
  rintro A s H v u Q E ⟨t, rfl⟩ ⟨t', rfl⟩ h
  refine P.mul_str (by simp; omega) (fun _ _ => ?_) (fun _ _ => ?_) ?_
  · rw [tx_length]
    have : (1 : Int) ≤ (2 ^ 63 - 1) / (n : Int) := by
      rw [Int.le_ediv_iff_mul_le (by omega)]
      omega
    show ¬ (((1 : Nat) : Int) > _)
    omega
  · rw [tx_length]
    unfold Builtin.Str.tooLong sizeLine
    exact decide_eq_false (by simp; omega)
  · rw [if_neg (by omega), if_neg (by
      rw [tx_length]
      have : ((n : Int) == 1) = false := by rw [beq_eq_false_iff_ne]; omega
      rw [this]; exact Bool.false_ne_true)]
    have e : (⟨(List.replicate ((n : Int)).toNat (tx [ch]).cps).foldl (· ++ ·) #[]⟩ : Str) = tx (List.replicate n ch) := eq_tx (by
      show ((List.replicate ((n : Int)).toNat (tx [ch]).cps).foldl (· ++ ·) #[]).toList = _
      rw [foldl_rep, tx_toList]
      have : ((n : Int)).toNat = n := by omega
      rw [this]
      simp)
    rw [e]
    exact ⟨by rw [tx_length, List.length_replicate, sizeLine_eq]; omega, h _ _ ⟨_, rfl⟩⟩
theorem bin_mul_once {ch : Nat} : BinOk c .Mult (.str (tx [ch])) (.int 1) (.str (tx (List.replicate 1 ch))) := by
  rintro A s H v u Q E ⟨t, rfl⟩ ⟨t', rfl⟩ h
  refine P.mul_str (by decide) (fun _ h => by simp at h) (fun _ h => by simp at h) ?_
  rw [if_neg (by decide), if_pos (by rfl)]
  exact h _ s.toks ⟨t, rfl⟩
theorem bin_mul_any {ch : Nat} {n : Nat} (h1 : 1 ≤ n) (h2 : n ≤ 1000) : BinOk c .Mult (.str (tx [ch])) (.int (n : Int)) (.str (tx (List.replicate n ch))) := by
  rcases Nat.lt_or_ge 1 n with h | h
  · exact bin_mul_sign h h2
  · obtain rfl : n = 1 := by omega
    exact bin_mul_once
/-! lists of ints -/
theorem reps_ints {H : PH} : ∀ {vs : List Value} {ns : List Int}, IntsAre vs ns → Reps H (ns.map PV.int) vs
  | _, _, .nil => rfl
  | _, _, .cons a t r => ⟨_, _, rfl, ⟨t, rfl⟩, reps_ints r⟩
theorem ints_reps {H : PH} : ∀ {ns : List Int} {vs : List Value}, Reps H (ns.map PV.int) vs → IntsAre vs ns
  | [], vs, h => by rw [show vs = [] from h]; exact .nil
  | n :: ns, vs, ⟨v, r, e, ⟨t, ht⟩, k⟩ => by rw [e, ht]; exact .cons n t (ints_reps k)
/-- x[:k] of a list of ints -/
theorem E_ints_upto {value : Expr} {k : Nat} {cp sp pos : Pos} {ns : List Int} {i : Int} (h1 : SemE c d sc σ value (.ok (.lst (ns.map PV.int))) σ') (hl : ns.length ≤ 1000) :
    SemE c d sc σ (.Subscript value (.Slice none (some (.Constant (.int i) k cp)) none sp) pos) (.ok (.lst ((pickNums ns none (some i) none).map PV.int))) σ' := by
  constructor; intro A outer nm fa L cd h₀ s P H m Q E K R G hk I post
  refine Subscript_ (h1.run A outer nm fa L cd h₀ s P H m _ _ K R G hk I fun v h' tk' H' I' X' r' => ?_)
  refine wpAny_Slice (wpAny_pure (show wpAny _ _ (eval _ _) _ _ _ from wpAny_Constant_int (wpAny_pure ?_)))
  obtain ⟨a, vs, rfl, e, r⟩ := r'
  have hi := ints_reps r
  have hsz : vs.size = ns.length := by rw [← hi.length, Array.length_toList]
  have kp : ∀ bb o, h'.get? bb = some o → (h'.push { cls := .type "slice", data := .fields #[.none, .int i tk', .none] }).get? bb = some o := fun bb o e => Heap.get?_push_of_some _ e
  have J := I'.keeps kp
  obtain ⟨H'', J', X'', e''⟩ := J.push (.type "list") (slicePick vs none (some i) none)
  refine tail_ (s := { s with heap := h'.push { cls := .type "slice", data := .fields #[.none, .int i tk', .none] }, toks := tk' + 1 }) (J.sub.lst e).typeIs slot_list_getitem.lookup ?_
  refine wpAny_getItem_list_slice (J.sub.lst e) (Heap.IsSliceOf.new ..) .none (.int _ _) .none (by simp) ?_ (by rw [sizeLine_eq]; omega)
  exact post _ _ _ H'' J' (X'.trans X'') ⟨_, _, rfl, e'', reps_ints (hi.pick none (some i) none)⟩
end
section
variable {c : Cx} {d : Nat} {sc : Scope} {σ σ' σ₁ σ₂ : St}
theorem Inv.guard0 {h₀ : Heap} {L D : Addr} {P : Addr → Obj → Prop} {H : PH} {h : Heap} {m : Str → Option Value} {vars : List (Str × PV)} {ob : Obj} (J : Inv h₀ L P ⟨vars, none⟩ H h m) (a : Off h₀ L P H D) (e : h.get? D = some ob) : Inv h₀ L (withIt P D ob) ⟨vars, none⟩ H h m :=
  ⟨fun b o hq => hq.elim (J.prot b o) fun ⟨e1, e2⟩ => by subst e1; subst e2; exact ⟨e, a.2.1⟩, J.fr, J.sub, J.loc, J.vars, fun y q hy => by cases hy⟩
theorem Inv.takesO {h₀ : Heap} {L l : Addr} {P : Addr → Obj → Prop} {H : PH} {h h' : Heap} {m : Str → Option Value} {vars : List (Str × PV)} {x : Str} {ov : OV}
    (J : Inv h₀ L P ⟨vars, none⟩ H h m) (hv : vars.lookup x = none) (k1 : OvIn H h l ov) (k2 : Off h₀ L P H l)
    (hn : h'.Ns L (fun y => if y = x then some (.ref l) else m y)) (hs : Heap.SameBut L h h') : Inv h₀ L P ⟨vars, some (x, ov)⟩ H h' (fun y => if y = x then some (.ref l) else m y) := by
  have other : ∀ b, b ≠ L → h'.get? b = _ := fun b hb => hs.2 b hb
  obtain ⟨k2, k4, k3, k5⟩ := k2
  refine ⟨fun a ob hp => ⟨(other a (J.prot a ob hp).2).trans (J.prot a ob hp).1, (J.prot a ob hp).2⟩, J.fr.set hn hs, fun b cc xs hb => ?_, J.loc, fun y q hy => ?_, fun y q hy => ?_⟩
  · obtain ⟨ob, n, k1, k2, k3⟩ := J.sub b cc xs hb
    exact ⟨ob, n, (other b fun e => by rw [e, J.loc] at hb; cases hb).trans k1, k2, k3⟩
  · have e : y ≠ x := fun e => by
      subst e
      have : vars.lookup y = some q := hy
      rw [hv] at this; cases this
    obtain ⟨u, k1, k2⟩ := J.vars y q hy
    exact ⟨u, (if_neg e).trans k1, k2⟩
  · have e : some (x, ov) = some (y, q) := hy
    obtain ⟨rfl, rfl⟩ := Prod.mk.inj (Option.some.inj e)
    exact ⟨l, if_pos rfl, k1.keeps (.refl H) (fun o e _ => (other _ k4).trans e), k2, k3, k4, k5⟩
/-- clock = {'script': .., 'at': 0} -/
theorem S_clock {x : Str} {e : Expr} {k1 k2 k3 : Nat} {xp p1 p2 p3 dp pos : Pos} {vars : List (Str × PV)} {xs : List Int} (h : SemE c d sc ⟨vars, none⟩ e (.ok (.lst (xs.map PV.int))) ⟨vars, none⟩)
    (hl : sc.names.lookup x = some .local) (hv : vars.lookup x = none) :
    SemS c d sc ⟨vars, none⟩ (.Assign [.Name x xp] (.Dict [some (.Constant (.str "script") k1 p1), some (.Constant (.str "at") k2 p2)] [e, .Constant (.int 0) k3 p3] dp) pos) (.ok .next) ⟨vars, some (x, .clk c.prog c.w xs 0)⟩ := by
  constructor; intro A outer nm fa L cd h₀ s P H m Q E K R G hk I post
  refine wpAny_Assign_Name ?_ (swaps_none rfl)
  refine wpAny_Dict_pairs (knd := PySem.strKind c.prog c.w) (pairs := [(eval (.Constant (.str "script") k1 p1) (envOf nm sc L fa cd), do let x ← eval e (envOf nm sc L fa cd); standAt dp; pure x), (eval (.Constant (.str "at") k2 p2) (envOf nm sc L fa cd), do let x ← eval (.Constant (.int 0) k3 p3) (envOf nm sc L fa cd); standAt dp; pure x)]) rfl (by simp) (Nat.le_of_ble_eq_true rfl) ?_
  have kp : ∀ bb o, s.heap.get? bb = some o → (s.heap.push { cls := .type "dict", data := .dict #[] }).get? bb = some o := fun bb o e => Heap.get?_push_of_some _ e
  have J := I.keeps kp
  have a0 : Off h₀ L P H s.heap.objs.size := I.off_new (get_new _ (Nat.le_refl _))
  have hD : (s.heap.push { cls := .type "dict", data := .dict #[] }).get? s.heap.objs.size = some { cls := .type "dict", data := .dict #[] } := Heap.get?_push_size _ rfl
  have J0 := J.guard0 a0 hD
  refine evalPairs_cons (wpAny_Constant_str (wpAny_bind ?_))
  refine h.run A outer nm fa L cd h₀ _ _ H m _ _ K R G hk J0 fun v h' tk' H' I' X' r' => wpAny_bind (wpAny_standAt (wpAny_pure ?_))
  refine evalPairs_cons (wpAny_Constant_str (wpAny_bind (wpAny_Constant_int (wpAny_bind (wpAny_standAt (wpAny_pure (evalPairs_nil ?_)))))))
  obtain ⟨l, vs, rfl, e1, r1⟩ := r'
  obtain ⟨hD', _⟩ := I'.prot _ _ (.inr ⟨rfl, rfl⟩)
  have hHD : H' s.heap.objs.size = none := by
    cases hq : H' s.heap.objs.size with
    | none => rfl
    | some y =>
      obtain ⟨o', n', w1, w2, w3⟩ := I'.sub _ _ _ hq
      rw [hD'] at w1
      obtain rfl := Option.some.inj w1
      cases w3
  have a1 : Off h₀ L P H' s.heap.objs.size := ⟨hHD, a0.2⟩
  refine ⟨[("script", .ref l), ("at", .int 0 _)], ⟨PySem.strKind_is _ _ _ _, rfl, PySem.strKind_is _ _ _ _, rfl, trivial⟩, Heap.dictOf_iff.mpr ⟨_, hD', #[], 0, ⟨rfl, rfl, rfl⟩, rfl, fun e he => by simp at he, .nil, by simp⟩, fun h'' D hs => ?_⟩
  have J2 := (I'.unguard (P := P) fun a o hp => .inl hp).but a1 fun a o ha e => (hs.2 a ha).trans e
  refine store_ (P := P) (H := H') J2.fr hk hl fun h3 hn hs3 => post .next h3 _ H' _ (J2.takesO hv (ov := .clk c.prog c.w xs 0) ?_ a1 hn hs3) X' rfl
  obtain ⟨od, e3, e4⟩ := Heap.dictOf_iff.mp D
  refine ⟨od, l, _, vs, e3, e4, ?_, e1, ints_reps r1⟩
  have : (3 : Nat) < s.heap.objs.size := by
    obtain ⟨o, _, _, e, _⟩ := (G.keeps I.fr.keep).top.g
    exact Heap.lt_size e
  have h1 : s.heap.objs.size ≠ (1 : Nat) := by omega
  exact beq_eq_false_iff_ne.mpr h1
end
section
variable {c : Cx} {d : Nat}
def r_law : DefRec := recOf (stAt 70)
theorem tickV_range (xs : List Int) (n : Nat) {many : Int} (h : 0 < many) : ∃ j : Nat, tickV xs n many = (j : Int) ∧ (j : Int) < many := by
  have key : ∀ x : Int, ∃ j : Nat, x.fmod many = (j : Int) ∧ (j : Int) < many := fun x => by
    have h1 := Int.fmod_nonneg_of_pos x h
    have h2 := Int.fmod_lt_of_pos x h
    exact ⟨(x.fmod many).toNat, by omega, by omega⟩
  unfold tickV
  split <;> exact key _
/-- a tick within an index -/
theorem E_tickJ (F : Facts c) {np xp kp pos : Pos} {kk : Nat} {vars : List (Str × PV)} {xs : List Int} {n j : Nat} {many : Int} (hn : n < 1000) (hx : xs.length ≤ 1000) (hm : 0 < many) (hm' : many < 1000) (hj : tickV xs n many = (j : Int)) :
    SemE c d r_law.scope ⟨vars, some ("clock", .clk c.prog c.w xs n)⟩ (.Call (.Name "_law_tick" np) [.Name "clock" xp, .Constant (.int many) kk kp] [] pos) (.ok (.int (j : Int))) ⟨vars, some ("clock", .clk c.prog c.w xs (n + 1))⟩ := by
  rw [← hj]
  exact E_tick F.p F.len hn hx (by omega) (by omega) rfl rfl E_int rfl rfl
def highs : List Nat := [39, 0, 1, 2, 40, 41, 6]
theorem turn_start (F : Facts c) {vars : List (Str × PV)} {k : Int} {xs : List Int} {n j1 j2 : Nat} (hx : xs.length ≤ 1000) (hn : n < 900) (h1 : tickV xs n 7 = (j1 : Int)) (h1' : j1 < 7) (h2 : tickV xs (n + 1) 4 = (j2 : Int)) (h2' : j2 < 4)
    {rest : List Stmt} {r : Res Fl} {σ' : St} {high : Nat} (hh : highs[j1]? = some high)
    (hr : SemB c d r_law.scope ⟨("inner", .lst (wayOnes j2)) :: ("way", .int (j2 : Int)) :: ("high", .int ((high + 1 : Nat) : Int)) :: ("turn", .int k) :: vars, some ("clock", .clk c.prog c.w xs (n + 2))⟩ ((forOf r_law.body 1).drop 3) r σ') :
    SemB c d r_law.scope ⟨("turn", .int k) :: vars, some ("clock", .clk c.prog c.w xs n)⟩ (forOf r_law.body 1) r σ' := by
  apply B_gen
  · apply S_assign (p := .int ((high + 1 : Nat) : Int))
    · apply E_sub (x := .int ((high + 1 : Nat) : Int))
      · apply E_list
        · walk_at "L"
        · exact Nat.le_of_ble_eq_true rfl
      · exact E_tickJ F (by omega) hx (by decide) (by decide) h1
      · refine item_n ?_ (by omega)
        have : ([40, 1, 2, 3, 41, 42, 7] : List Int)[j1]? = some ((high + 1 : Nat) : Int) := by
          match j1, h1' with
          | 0, _ => cases hh; rfl
          | 1, _ => cases hh; rfl
          | 2, _ => cases hh; rfl
          | 3, _ => cases hh; rfl
          | 4, _ => cases hh; rfl
          | 5, _ => cases hh; rfl
          | 6, _ => cases hh; rfl
        have e : ([.int 40, .int 1, .int 2, .int 3, .int 41, .int 42, .int 7] : List PV) = ([40, 1, 2, 3, 41, 42, 7] : List Int).map PV.int := rfl
        rw [e, List.getElem?_map, this]; rfl
    · exact rfl
    · exact rfl
    · exact rfl
  apply Cont_next
  apply B_gen
  · apply S_assign (p := .int (j2 : Int))
    · exact E_tickJ F (by omega) hx (by decide) (by decide) h2
    · exact rfl
    · exact rfl
    · exact rfl
  apply Cont_next
  apply B_gen
  · apply S_assign (p := .lst (wayOnes j2))
    · apply E_sub (x := .lst (wayOnes j2))
      · apply E_list
        · walk_at "L"
        · exact Nat.le_of_ble_eq_true rfl
      · walk_at "E"
      · refine item_n ?_ (by omega)
        match j2, h2' with
        | 0, _ => exact rfl
        | 1, _ => exact rfl
        | 2, _ => exact rfl
        | 3, _ => exact rfl
    · exact rfl
    · exact rfl
    · exact rfl
  apply Cont_next
  exact hr
end
section
variable {c : Cx} {d : Nat}
theorem turn_loops (F : Facts c) {vars : List (Str × PV)} {xs : List Int} {n j2 j3 high : Nat} (hd : 2 ≤ d) (hx : xs.length ≤ 1000) (hn : n < 900) (h2' : j2 < 4) (hh : high < 42) (h3 : tickV xs n 2 = (j3 : Int))
    (hi : vars.lookup ("inner" : Str) = some (.lst (wayOnes j2))) (hg : vars.lookup ("high" : Str) = some (.int ((high + 1 : Nat) : Int)))
    {r : Res Fl} {σ' : St}
    (hr : SemB c d r_law.scope ⟨("tree", ido (decide (j3 = 1)) (itemsN (decide (j3 = 1)) (wayT j2) high) (high + 1)) :: ("text", .str (tx (loopC (decide (j3 = 1)) (wayC j2) (high + 1)))) :: vars, some ("clock", .clk c.prog c.w xs (n + 1))⟩ ((forOf r_law.body 1).drop 4) r σ') :
    SemB c d r_law.scope ⟨vars, some ("clock", .clk c.prog c.w xs n)⟩ ((forOf r_law.body 1).drop 3) r σ' := by
  have hL : CallOk c (d - 1) r_law_loops [.int ((high + 1 : Nat) : Int), .lst (wayOnes j2), .bool (decide (j3 = 1))] _ := CallOk.lower (law_loops_way (F.under fun _ _ e => e) h2' hh (by omega))
  apply B_gen
  · apply S_unpack
    · apply E_callD (F.p ▸ f_law_loops)
      · exact rfl
      · apply L_cons rfl
        · exact E_var rfl hg rfl
        apply L_cons rfl
        · exact E_var rfl hi rfl
        apply L_cons rfl
        · apply E_cmpB (b' := decide (j3 = 1))
          · exact E_tickJ F (by omega) hx (by decide) (by decide) h3
          · exact E_int
          · exact cmp_eq_int
          · rw [Bool.eq_iff_iff]
            simp
            omega
          · exact rfl
        exact L_nil
      · exact hL
      · omega
      · exact rfl
      · exact rfl
    · exact rfl
    · exact rfl
    · exact rfl
    · exact rfl
    · exact rfl
    · exact rfl
  apply Cont_next
  exact hr
end
section
variable {c : Cx} {d : Nat}
def manys : List Nat := [1, 40, 41, 520]
theorem turn_brac (F : Facts c) {vars : List (Str × PV)} {xs : List Int} {n j4 many : Nat} (hx : xs.length ≤ 1000) (hn : n < 900) (h4 : tickV xs n 4 = (j4 : Int)) (h4' : j4 < 4) (hm : manys[j4]? = some many)
    (hw : vars.lookup ("way" : Str) = some (.int ((3 : Nat) : Int))) {r : Res Fl} {σ' : St}
    (hr : SemB c d r_law.scope ⟨("text", .str (tx (bracC many))) :: ("many", .int (many : Int)) :: vars, some ("clock", .clk c.prog c.w xs (n + 1))⟩ ((forOf r_law.body 1).drop 5) r σ') :
    SemB c d r_law.scope ⟨vars, some ("clock", .clk c.prog c.w xs n)⟩ ((forOf r_law.body 1).drop 4) r σ' := by
  have hmm : 1 ≤ many ∧ many ≤ 1000 := by
    match j4, h4' with
    | 0, _ => cases hm; decide
    | 1, _ => cases hm; decide
    | 2, _ => cases hm; decide
    | 3, _ => cases hm; decide
  apply B_gen
  · apply S_ifT
    · apply T_cmpB
      · exact E_var rfl hw rfl
      · exact E_int
      · exact cmp_eq_int
      · exact rfl
      · exact rfl
    · apply B_gen
      · apply S_assign (p := .int (many : Int))
        · apply E_sub (x := .int (many : Int))
          · apply E_list
            · walk_at "L"
            · exact Nat.le_of_ble_eq_true rfl
          · exact E_tickJ F (by omega) hx (by decide) (by decide) h4
          · refine item_n ?_ (by omega)
            match j4, h4' with
            | 0, _ => cases hm; rfl
            | 1, _ => cases hm; rfl
            | 2, _ => cases hm; rfl
            | 3, _ => cases hm; rfl
        · exact rfl
        · exact rfl
        · exact rfl
      apply Cont_next
      apply B_gen
      · apply S_assign (p := .str (tx (bracC many)))
        · have e : bracC many = (List.replicate many 40 ++ [65]) ++ List.replicate many 41 := by simp [bracC]
          rw [e]
          refine E_addT (E_addT (E_bin (E_strC (l := [40]) (by decide +kernel)) (E_var rfl rfl rfl) (bin_mul_any hmm.1 hmm.2)) (E_strC (l := [65]) (by decide +kernel)) ?_) (E_bin (E_strC (l := [41]) (by decide +kernel)) (E_var rfl rfl rfl) (bin_mul_any hmm.1 hmm.2)) ?_
          · simp; omega
          · simp; omega
        · exact rfl
        · exact rfl
        · exact rfl
      apply Cont_next
      exact B_nil
  apply Cont_next
  exact hr
theorem turn_skip (F : Facts c) {vars : List (Str × PV)} {o : Option (Str × OV)} {j2 : Nat} (hj : j2 ≠ 3) (hw : vars.lookup ("way" : Str) = some (.int (j2 : Int))) {r : Res Fl} {σ' : St}
    (hr : SemB c d r_law.scope ⟨vars, o⟩ ((forOf r_law.body 1).drop 5) r σ') : SemB c d r_law.scope ⟨vars, o⟩ ((forOf r_law.body 1).drop 4) r σ' := by
  apply B_gen
  · apply S_ifF
    · apply T_cmpB
      · exact E_var rfl hw rfl
      · exact E_int
      · exact cmp_eq_int
      · rw [beq_eq_false_iff_ne]; omega
      · exact rfl
    · exact B_nil
  apply Cont_next
  exact hr
end
section
variable {c : Cx} {d : Nat}
def lawTree (way high : Nat) (step : Bool) : PV := ido step (itemsN step (wayT way) high) (high + 1)
theorem found_fine : ∀ n : Fin 40, ∀ w : Fin 2, ∀ step : Bool,
    ((foundT (lawTree w.val n.val step)).toD.canLay0 && Nat.ble (foundT (lawTree w.val n.val step)).toD.depth 100 && (foundT (lawTree w.val n.val step)).toD.eqv (foundT (lawTree w.val n.val step)).toD) = true := by decide +kernel
theorem cmp_found {n w : Nat} {step : Bool} (hn : n < 40) (hw : w < 2) : CmpOk c .NotEq (foundT (lawTree w n step)) (foundT (lawTree w n step)) false := by
  have h := found_fine ⟨n, hn⟩ ⟨w, hw⟩ step
  simp only [Bool.and_eq_true] at h
  have e := cmp_ne_pv (c := c) h.1.1 h.1.1 (by rw [Nat.min_self]; exact Nat.le_of_ble_eq_true h.1.2)
  rw [h.2] at e
  exact e
theorem cmp_nones : CmpOk c .NotEq .none .none false := by
  have e := cmp_ne_pv (c := c) (p := .none) (q := .none) rfl rfl (by decide)
  exact e
end
section
variable {c : Cx} {d : Nat}
theorem turn_let (F : Facts c) {vars : List (Str × PV)} {ov : OV} {high way : Nat} (hg : vars.lookup ("high" : Str) = some (.int ((high + 1 : Nat) : Int))) (hw : vars.lookup ("way" : Str) = some (.int (way : Int)))
    {r : Res Fl} {σ' : St} (hr : SemB c d r_law.scope ⟨("is_let", .bool (decide (high < 40) && decide (way < 2))) :: vars, some ("clock", ov)⟩ ((forOf r_law.body 1).drop 6) r σ') :
    SemB c d r_law.scope ⟨vars, some ("clock", ov)⟩ ((forOf r_law.body 1).drop 5) r σ' := by
  apply B_gen
  · apply S_assign (p := .bool (decide (high < 40) && decide (way < 2)))
    · rcases Nat.lt_or_ge high 40 with h | h
      · rw [decide_eq_true h]
        apply E_andT
        · apply E_cmpB
          · exact E_var rfl hg rfl
          · exact E_int
          · exact cmp_lt_int
          · rw [decide_eq_true_iff]; omega
          · exact rfl
        · apply E_bool1
          rw [Bool.true_and]
          apply E_cmpB
          · exact E_var rfl hw rfl
          · exact E_int
          · exact cmp_lt_int
          · rw [Bool.eq_iff_iff]; simp; omega
          · exact rfl
      · rw [decide_eq_false (by omega), Bool.false_and]
        apply E_andF
        apply E_cmpB
        · exact E_var rfl hg rfl
        · exact E_int
        · exact cmp_lt_int
        · rw [decide_eq_false_iff_not]; omega
        · exact rfl
    · exact rfl
    · exact rfl
    · exact rfl
  apply Cont_next
  exact hr
end
section
variable {c : Cx} {d : Nat}
def resV : Res PV → PV
  | .ok p => p
  | .exn => .none
theorem turn_try (F : Facts c) (hlone : c.lone = true) {vars : List (Str × PV)} {ov : OV} {C : List Nat} {r : Res PV} (hC : C.length ≤ 50000) (ht : vars.lookup ("text" : Str) = some (.str (tx C))) (hd : 1 ≤ d)
    (hf : ∀ B, c.B.StaysIn B → CallOk (c.shift B) (d - 1) r_parse_data [.str (tx (dataC ++ (C ++ endC)))] r)
    {r' : Res Fl} {σ' : St} (hr : SemB c d r_law.scope ⟨("found", resV r) :: vars, some ("clock", ov)⟩ ((forOf r_law.body 1).drop 7) r' σ') :
    SemB c d r_law.scope ⟨vars, some ("clock", ov)⟩ ((forOf r_law.body 1).drop 6) r' σ' := by
  apply B_gen
  · apply S_tryCall F.exc hlone (F.p ▸ f_parse_data) rfl (ps := [.str (tx (dataC ++ (C ++ endC)))])
    · apply L_cons rfl
      · rw [← List.append_assoc]
        refine E_addT (E_addT (E_strC (l := dataC) (by decide +kernel)) (E_var rfl ht rfl) ?_) (E_strC (l := endC) (by decide +kernel)) ?_
        · have : dataC.length = 4 := by decide
          omega
        · have : dataC.length = 4 := by decide
          have : endC.length = 3 := by decide
          simp; omega
      exact L_nil
    · exact hf
    · exact hd
    · exact rfl
    · exact rfl
    · exact rfl
    · exact rfl
    · exact rfl
  apply Cont_next
  cases r <;> exact hr
theorem turn_if {vars : List (Str × PV)} {ov : OV} {t fv : PV} {b : Bool} (h1 : vars.lookup ("found" : Str) = some fv) (h2 : vars.lookup ("tree" : Str) = some t) (h3 : vars.lookup ("is_let" : Str) = some (.bool b))
    (hc : CmpOk c .NotEq fv (if b then foundT t else .none) false) :
    SemB c d r_law.scope ⟨vars, some ("clock", ov)⟩ ((forOf r_law.body 1).drop 7) (.ok .next) ⟨vars, some ("clock", ov)⟩ := by
  apply B_gen
  · apply S_ifF
    · apply T_cmpB
      · exact E_var rfl h1 rfl
      · show SemE c d r_law.scope _ _ (.ok (if b then foundT t else .none)) _
        cases b with
        | true =>
          apply E_ifT
          · exact T_name (E_var rfl h3 rfl)
          · unfold foundT
            repeat (first | exact L_nil | exact E_var rfl h2 rfl | exact E_none | exact E_int | exact E_str | exact Nat.le_of_ble_eq_true rfl | apply E_list | apply E_tuple | apply L_cons rfl)
        | false =>
          apply E_ifF
          · exact T_name (E_var rfl h3 rfl)
          · exact E_none
      · exact hc
      · exact rfl
      · exact rfl
    · exact B_nil
  apply Cont_next
  exact B_nil
end
section
variable {c : Cx} {d : Nat}
theorem high_lt {j h : Nat} (e : highs[j]? = some h) : h < 42 := by
  have := List.mem_of_getElem? e
  revert this; unfold highs; simp; omega
theorem way_deep (g : Names c) {way n : Nat} {step : Bool} (hn : 40 ≤ n) (hn' : n < 42) (hw : way < 3) (hd : 110 ≤ d) : CallOk c d r_parse_data [.str (tx (dataC ++ (loopC step (wayC way) (n + 1) ++ endC)))] .exn := by
  match way, hw with
  | 0, _ => exact data_deep g ((lx_inner g false).weaken fun _ _ => trivial) (by decide) (by decide) hn hn' hd
  | 1, _ => exact data_deep g ((lx_inner g true).weaken fun _ _ => trivial) (by decide) (by decide) hn hn' hd
  | 2, _ => exact data_deep g (lx_B g) (by decide) (by decide) hn hn' hd
theorem way_loop (g : Names c) {way n : Nat} {step : Bool} (hn' : n < 42) (hw : way < 3) (hd : 110 ≤ d) :
    CallOk c d r_parse_data [.str (tx (dataC ++ (loopC step (wayC way) (n + 1) ++ endC)))] (if decide (n < 40) && decide (way < 2) then .ok (foundT (lawTree way n step)) else .exn) := by
  rcases Nat.lt_or_ge n 40 with h | h
  · match way, hw with
    | 0, _ => simp only [decide_eq_true h]; exact data_ok (two := false) g h hd
    | 1, _ => simp only [decide_eq_true h]; exact data_ok (two := true) g h hd
    | 2, _ => simp only [decide_eq_true h]; exact data_plain g h hd
  · rw [decide_eq_false (by omega), Bool.false_and]
    exact way_deep g h hn' hw hd
theorem cmp_way {way n : Nat} {step : Bool} (hw : way < 3) {r : Res PV} (hr : r = if decide (n < 40) && decide (way < 2) then .ok (foundT (lawTree way n step)) else .exn) :
    CmpOk c .NotEq (resV r) (if decide (n < 40) && decide (way < 2) then foundT (lawTree way n step) else .none) false := by
  subst hr
  rcases Nat.lt_or_ge n 40 with h | h
  · rcases Nat.lt_or_ge way 2 with h' | h'
    · simp only [decide_eq_true h, decide_eq_true h', Bool.and_self, if_true]; exact cmp_found h h'
    · have e : decide (way < 2) = false := decide_eq_false (by omega)
      simp only [e, Bool.and_false]; exact cmp_nones
  · have e : decide (n < 40) = false := decide_eq_false (by omega)
    simp only [e, Bool.false_and]; exact cmp_nones
end
section
variable {c : Cx} {d : Nat}
theorem turn_ok (F : Facts c) (hlone : c.lone = true) (hd : 111 ≤ d) {vars : List (Str × PV)} {k : Int} {xs : List Int} {n : Nat} (hx : xs.length ≤ 1000) (hn : n < 800) :
    ∃ vars' n', n' ≤ n + 4 ∧ SemB c d r_law.scope ⟨("turn", .int k) :: vars, some ("clock", .clk c.prog c.w xs n)⟩ (forOf r_law.body 1) (.ok .next) ⟨vars', some ("clock", .clk c.prog c.w xs n')⟩ := by
  obtain ⟨j1, e1, l1⟩ := tickV_range xs n (many := 7) (by decide)
  obtain ⟨j2, e2, l2⟩ := tickV_range xs (n + 1) (many := 4) (by decide)
  obtain ⟨j3, e3, l3⟩ := tickV_range xs (n + 2) (many := 2) (by decide)
  obtain ⟨j4, e4, l4⟩ := tickV_range xs (n + 3) (many := 4) (by decide)
  have l1' : j1 < highs.length := by show j1 < 7; omega
  have hh : highs[j1]? = some highs[j1] := List.getElem?_eq_getElem l1'
  have hlt := high_lt hh
  generalize highs[j1] = high at hh hlt
  by_cases h3 : j2 = 3
  · subst h3
    have l4' : j4 < manys.length := by show j4 < 4; omega
    have hm : manys[j4]? = some manys[j4] := List.getElem?_eq_getElem l4'
    generalize manys[j4] = many at hm
    have hmm : 1 ≤ many ∧ many ≤ 1000 := by
      have := List.mem_of_getElem? hm
      revert this; unfold manys; simp; omega
    apply Exists.intro
    apply Exists.intro (n + 4)
    apply And.intro (by omega)
    apply turn_start (rest := []) F hx (by omega) e1 (by omega) e2 (by omega) hh
    apply turn_loops F (by omega) hx (by omega) (by decide) hlt e3 rfl rfl
    apply turn_brac F hx (by omega) e4 (by omega) hm rfl
    apply turn_let F (high := high) (way := 3) rfl rfl
    apply turn_try F hlone (r := .exn) (C := bracC many) (by simp [bracC]; omega) rfl (by omega)
    · exact fun B hB => data_brac (F.under hB) hmm.1 hmm.2 (by omega)
    · apply turn_if rfl rfl rfl
      have e : (decide (high < 40) && decide (3 < 2)) = false := by simp
      rw [e]; exact cmp_nones
  · apply Exists.intro
    apply Exists.intro (n + 3)
    apply And.intro (by omega)
    apply turn_start (rest := []) F hx (by omega) e1 (by omega) e2 (by omega) hh
    apply turn_loops F (by omega) hx (by omega) (by omega) hlt e3 rfl rfl
    apply turn_skip F h3 rfl
    apply turn_let F (high := high) (way := j2) rfl rfl
    apply turn_try F hlone (C := loopC (decide (j3 = 1)) (wayC j2) (high + 1)) (by
      have hw : (wayC j2).length ≤ 100 := by unfold wayC; split <;> decide
      have := loopC_len (decide (j3 = 1)) (wayC j2) (high + 1) (by omega)
      omega) rfl (by omega)
    · exact fun B hB => way_loop (F.under hB) hlt (by omega) (by omega)
    · apply turn_if (t := lawTree j2 high (decide (j3 = 1))) rfl rfl rfl
      exact cmp_way (by omega) rfl
end
section
variable {c : Cx} {d : Nat}
theorem law_ok (F : Facts c) (hlone : c.lone = true) (hd : 111 ≤ d) {ns : List Int} (hl : ns.length ≤ 1000) (hp : (pickNums ns none (some 20) none).length ≤ 1000) :
    ∃ σ', SemB c d r_law.scope ⟨[("script", .lst (ns.map PV.int))], none⟩ r_law.body (.ok (.ret (.bool true))) σ' := by
  obtain ⟨v1, n1, q1, b1⟩ := turn_ok (d := d) F hlone hd (vars := [("script", .lst (ns.map PV.int))]) (k := 0) hp (n := 0) (by decide)
  obtain ⟨v2, n2, q2, b2⟩ := turn_ok (d := d) F hlone hd (vars := v1) (k := 1) hp (n := n1) (by omega)
  apply Exists.intro
  apply B_gen
  · apply S_clock
    · exact E_ints_upto (E_var rfl rfl rfl) hl
    · exact rfl
    · exact rfl
  apply Cont_next
  apply B_gen (f := .next)
  · apply S_for1 F.rng rfl
    · exact E_int
    · exact rfl
    · exact rfl
    · decide
    · apply F_more (by decide) rfl rfl
      · exact b1
      · apply FCont_next
        apply F_more (by decide) rfl rfl
        · exact b2
        · apply FCont_next
          exact F_none (by decide)
  apply Cont_next
  apply B_gen (f := .ret (.bool true))
  · walk_at "S"
  exact Cont_ret
end
section
open PySem PySem.Calls PySem.Spec PySem.W PyProof.Rows PyProof.V
/-- a table of the top whose keys are texts and whose values are ints, as it is written out -/
abbrev TRow := Str × PySem.Tok × Int × PySem.Tok
def tabE (P : Params) (l : List TRow) : List DictEntry := l.map fun x => ⟨PyData.keyHash P x.1, .str x.1 x.2.1, .int x.2.2.1 x.2.2.2⟩
def tabD (l : List TRow) : List (PyData × PyData) := l.map fun x => (.str x.1, .int x.2.2.1)
def tabK (l : List TRow) : List (Str × Value) := l.map fun x => (x.1, .int x.2.2.1 x.2.2.2)
theorem tabE_lit {P : Params} : ∀ {l : List TRow}, KeysLit P (tabE P l)
  | [] => trivial
  | _ :: _ => ⟨⟨_, _, rfl, rfl⟩, tabE_lit⟩
theorem tab_pairs {prog : Program} {w : World} : ∀ {l : List TRow}, Pairs (strKind prog w) (tabE w.params l) (tabK l)
  | [] => .nil
  | x :: _ => .cons (strKind_is prog w x.1 x.2.1) rfl tab_pairs
theorem tab_flat : ∀ {l : List TRow}, FlatPairs PyData.str (tabK l) (tabD l)
  | [] => .nil
  | x :: _ => .cons (.int _ _) tab_flat
theorem strTab_of {prog : Program} {w : World} {K : Frag} {h : Heap} {a : Addr} {n : Nat} {l : List TRow} (X : K.In h) (e : K.lookup a = some ⟨.type "dict", none, .dict (tabE w.params l).toArray n, #[]⟩) (lo : (a == sysModules) = false)
    (nd : (l.map (·.1)).Nodup) : StrTab prog w h a (tabD l) := by
  refine ⟨lo, tabK l, ⟨_, _, n, X _ _ e, ⟨rfl, rfl, rfl⟩, rfl, fun e he => ?_, ?_, ?_⟩, tab_flat⟩
  · obtain ⟨x, t, e1, e2⟩ := (tabE_lit (P := w.params) (l := l)).all e (by simpa using he)
    exact ⟨x, by rw [e1]; exact strKind_is prog w x t, e2⟩
  · rw [List.toList_toArray]; exact tab_pairs
  · have : (tabK l).map (·.1) = l.map (·.1) := by unfold tabK; rw [List.map_map]; rfl
    rw [this]; exact nd
def priL : List TRow := [(".EQV.", 334, 1, 335), (".NEQV.", 337, 1, 338), (".OR.", 340, 2, 341), (".AND.", 343, 3, 344), (".EQ.", 346, 5, 347), (".NE.", 349, 5, 350), (".LT.", 352, 5, 353), (".LE.", 355, 5, 356), (".GT.", 358, 5, 359),
  (".GE.", 361, 5, 362), ("//", 364, 6, 365), ("+", 367, 7, 368), ("-", 370, 7, 371), ("*", 373, 8, 374), ("/", 376, 8, 377), ("**", 379, 9, 380)]
def cls63 : Obj := excClassObj "SyntaxFault" "SyntaxFault" 63 62 [.ref 31] (.ref 31 :: bmE) true [] [] false none none (some (.ref 54)) none (some (.str "SyntaxFault" 244)) (some (.str "SyntaxFault" 252)) (some (.bool true)) "Exception.__new__"
def fun28 : Obj := { cls := .type "function", data := .func (methDef r_init.name "F77Error.__init__" r_init.params r_init.body r_init.scope (.str "f77.errors" 187) (.ref 27) .none) }
def dict109 (P : Params) : Obj := ⟨.type "dict", none, .dict (tabE P priL).toArray 16, #[]⟩
/-- what of the written part the law rests on -/
structure Lain (K : Params → Frag) : Prop where
  cls : ∀ P, (K P).lookup 63 = some cls63
  ini : ∀ P, (K P).lookup 28 = some fun28
  pri : ∀ P, (K P).lookup 109 = some (dict109 P)
  find1 : ∀ P, findIn (K P) (.ref 63) "__init__" = some (some (.ref 28))
  find2 : ∀ P, findIn (K P) (.ref 63) "__setattr__" = some (some (.builtin "object.__setattr__"))
  find3 : ∀ P, findIn (K P) (.ref 63) "text" = some none
  code : ∀ P, codeIn (K P) (.ref 27) "F77Error.__init__" = true
  fault : ∀ P, nsIn (K P) mainGlobals "SyntaxFault" = some (some (.ref 63))
  tab : ∀ P, nsIn (K P) mainGlobals "PRIORITIES" = some (some (.ref 109))
  exn : ∀ P, nsIn (K P) mainGlobals "Exception" = some none
  len : ∀ P, nsIn (K P) mainGlobals "len" = some none
  rng : ∀ P, nsIn (K P) mainGlobals "range" = some none
  mx : ∀ P, nsIn (K P) mainGlobals "max" = some none
  str : ∀ P, nsIn (K P) mainGlobals "str" = some none
  int : ∀ P, nsIn (K P) mainGlobals "int" = some none
theorem priNo {x : Str} (h : PySem.Spec.lookup (PyData.str x) (tabD priL) = none) {c : Cx} {K : Params → Frag} (l : Lain K) (hK : c.K = K c.w.params) : TabNo c "PRIORITIES" x := fun hp G => by
  have X : (K c.w.params).In hp := hK ▸ G.k
  exact ⟨109, tabD priL, mg_of X G.top.g (l.tab _), strTab_of X (l.pri _) (by decide) (by decide +kernel), h⟩
theorem gb_of {c : Cx} {K : Params → Frag} {x : Str} {v : Value} (hK : c.K = K c.w.params) (h : ∀ P, nsIn (K P) mainGlobals x = some none) (hx : x ≠ "__name__") (hv : bootBuiltins x = some v) : GB c x v := fun hp G => by
  have X : (K c.w.params).In hp := hK ▸ G.k
  exact ⟨mg_none_of X G.top.g (h _), (G.top.builtins _ hx).trans hv⟩
def facts_of {c : Cx} {K : Params → Frag} (l : Lain K) (hp : c.p = vw) (hK : c.K = K c.w.params) (he : c.exc = .ref 63) : Facts c where
  p := hp
  len := gb_of hK l.len (by decide +kernel) (by kernel_rfl)
  rng := gb_of hK l.rng (by decide +kernel) (by kernel_rfl)
  mx := gb_of hK l.mx (by decide +kernel) (by kernel_rfl)
  str := gb_of hK l.str (by decide +kernel) (by kernel_rfl)
  int := gb_of hK l.int (by decide +kernel) (by kernel_rfl)
  prio1 := priNo (by decide +kernel) l hK
  prio2 := priNo (by decide +kernel) l hK
  exc := {
    C := 63, P := 31, fI := 28, N := 62, nm := "SyntaxFault", q := "SyntaxFault", bs := [.ref 31], sn := [], sub := [], ab := false, col := none, dd := none, k0 := some (.ref 54), k1 := none,
    k2 := some (.str "SyntaxFault" 244), k3 := some (.str "SyntaxFault" 252), k5 := some (.bool true), oI := fun28, pm := .str "f77.errors" 187, cd := .ref 27, doc := .none
    exc := he
    hC := fun h G => (hK ▸ G.k : (K c.w.params).In h) _ _ (l.cls _)
    hi := fun h G => looks_findIn (hK ▸ G.k : (K c.w.params).In h) (l.find1 _)
    hs := fun h G => looks_findIn (hK ▸ G.k : (K c.w.params).In h) (l.find2 _)
    ht := fun h G => looks_findIn (hK ▸ G.k : (K c.w.params).In h) (l.find3 _)
    hfI := fun h G => (hK ▸ G.k : (K c.w.params).In h) _ _ (l.ini _)
    cls := rfl
    dat := rfl
    code := fun h G => codeRec_of (hK ▸ G.k : (K c.w.params).In h) (l.code _)
    mg := fun h G => mg_of (hK ▸ G.k : (K c.w.params).In h) G.top.g (l.fault _)
    exn := gb_of hK l.exn (by decide +kernel) (by kernel_rfl) }
def cxOf (w : World) (K : Frag) (p : Program) (loose : List Str) (mean : ExcName → Option Value) (mg mb : Str → Option Value) (B : Heap) : Cx :=
  { prog := PySem.Challenge.pw_pq0358_01, w := w, K := K, p := p, loose := loose, mean := mean, mg := mg, mb := mb, B := B, exc := .ref 63, lone := true }
theorem law_run {w : World} {K : Params → Frag} {loose : List Str} {mean : ExcName → Option Value} {mg mb : Str → Option Value} {s : Shared} (l : Lain K) (T : Top vw loose mean mg mb s.heap) (X : (K w.params).In s.heap)
    {fa : Addr} {o : Obj} {pm cd doc kV : Value} (ho : s.heap.get? fa = some o) (hd : o.data = .func { docDef r_law.name r_law.params r_law.body r_law.scope pm cd doc with defaults := .none, kwdefaults := kV }) (hcd : s.heap.CodeRec cd r_law.name)
    {a : Addr} {vs : List Value} {ns : List Int} (hL : s.heap.IsList a vs.toArray) (hI : IntsAre vs ns) (hn : ns.length ≤ 63) {R : Result → Shared → Prop}
    (hR : ∀ h' tk' L m, Fr s.heap L h' m → R (.ok (.ret (.bool true))) { s with heap := h', toks := tk' }) :
    codeAny (model PySem.Challenge.pw_pq0358_01 w) callerA (.call (.ref fa) ⟨[.ref a], []⟩) R s := by
  refine call_fullW (binds := [("script", .ref a)]) (by decide +kernel) ho hd T.nolimit hcd (BindsTo.of_eq rfl) (by
    intro x hx
    rcases List.mem_cons.mp hx with rfl | hx
    · rfl
    · cases hx) (fun h₁ F => ?_) rfl rfl rfl (by decide +kernel)
  obtain ⟨ol, e1, e2, nn, e3⟩ := hL
  have hne : a ≠ s.heap.objs.size := fun q => absurd (Heap.lt_size e1) (by rw [q]; exact Nat.lt_irrefl _)
  have hp : (pickNums ns none (some 20) none).length ≤ 1000 := Nat.le_trans (length_pickNums_le hI _ _ _) (by omega)
  obtain ⟨σ', B⟩ := law_ok (c := cxOf w (K w.params) vw loose mean mg mb s.heap) (d := 200) (facts_of l rfl rfl rfl) rfl (by decide) (ns := ns) (by omega) hp
  have G : GF (cxOf w (K w.params) vw loose mean mg mb s.heap) s.heap := ⟨T, X, fun _ _ e => e⟩
  let H : PH := fun b => if b = a then some (.type "list", vs.toArray) else none
  have I : Inv s.heap s.heap.objs.size (fun _ _ => False) ⟨[("script", .lst (ns.map PV.int))], none⟩ H h₁ (fun x => ([("script", .ref a)] : List (Str × Value)).reverse.lookup x) := by
    refine ⟨fun _ _ hf => hf.elim, F, fun b cl xs e => ?_, ?_, fun x p hx => ?_, fun x ps hx => by cases hx⟩
    · by_cases q : b = a
      · subst q
        have e : some ((Value.type "list"), vs.toArray) = some (cl, xs) := by have : H b = some (.type "list", vs.toArray) := if_pos rfl
                                                                              rw [← this]; exact e
        cases e
        exact ⟨ol, nn, F.keep _ _ e1, e2, e3⟩
      · have : H b = none := if_neg q
        rw [this] at e; cases e
    · exact if_neg (Ne.symm hne)
    · unfold List.lookup at hx
      split at hx
      · rename_i q
        obtain rfl : x = "script" := beq_iff_eq.mp q
        cases hx
        exact ⟨.ref a, by rfl, a, vs.toArray, rfl, if_pos rfl, reps_ints hI⟩
      · cases hx
  refine B.run callerA [] r_law.name fa s.heap.objs.size cd s.heap { s with heap := h₁, toks := s.toks + 1 } _ H _ _ _ ⟨below_caller _, fun _ => rfl⟩ ⟨rfl, by decide +kernel, by decide +kernel⟩ G rfl I ?_
  intro fl h' tk' H' m' I' X' rf
  obtain ⟨v, rfl, rv⟩ := rf
  obtain rfl : v = .bool true := rv
  exact hR h' tk' _ _ I'.fr
theorem join {q : Program} {K : Params → Frag} {YP : World → Heap → Prop} {d : DefRec} (l : Lain K) (hq : q = vw) (hY : ∀ w h, YP w h → (K w.params).In h) (hdr : d = r_law) :
    WalkO q ["PRIORITIES"] (XL q []) YP PySem.Challenge.rw_pq0358_01.row.toRowW d [] (fun f vs => PySem.call f vs) := by
  subst hq hdr
  intro w s₀ s₁ mg mb G Y fa o pm cd doc dV kV ho hd hcd hD hmg hg args vals as hpre hlay hrd hwl hlo
  wrow_args hpre hlay hrd hwl hlo
  have hL := ‹s₁.heap.IsList _ _›
  have hI := ‹IntsAre _ _›
  have hn := ‹¬ ((63 : Nat) : Int) < _›
  obtain rfl := hD.none rfl
  refine enter_call (codeAny_mono (R := GoodW _ _ _ _ _) ?_ fun _ _ g => GoodW.toG g)
  refine law_run l G.T (hY _ _ Y) ho hd hcd hL hI (by omega) fun h' tk' L m F => ?_
  exact goodW_bool F hg (raisesW_false (by wrow_none_raised)) (by wrow_post)
end
end Mine
end
open PySem PySem.W PySem.W.X PyProof.Rows
def Mine.hd.tw10727248033764811480 : Nat := 0 -- Mine.hd.heap_1_39
def Mine.hd.tw14490753871281386867 : Nat := 0 -- Mine.hd.heap_1_465
def Mine.hd.tw26425463804135960 : Nat := 0 -- Mine.hd.view_1_40
def Mine.hd.tw17629270745964329407 : Nat := 0 -- Mine.hd.tree_1_463
def Mine.hd.tw1361877798171713420 : Nat := 0 -- Mine.hd.tree_1_418
def Mine.hd.tw2735741816244006784 : Nat := 0 -- Mine.hd.tree_1_336
def Mine.hd.tw10456413670096429481 : Nat := 0 -- Mine.hd.sts_1_338
def Mine.hd.tw14589601179579921912 : Nat := 0 -- Mine.hd.tree_1_266
def Mine.hd.tw9357088731924715283 : Nat := 0 -- Mine.hd.sts_1_179
def Mine.hd.tw850559431314050405 : Nat := 0 -- Mine.hd.sts_1_268
def Mine.hd.tw6969160765537744556 : Nat := 0 -- Mine.hd.sts_1_420
def Mine.hd.tw13217225542625558698 : Nat := 0 -- Mine.hd.o_1_421
def Mine.hd.tw14176624398918483544 : Nat := 0 -- Mine.hd.o_1_339
def Mine.hd.tw2404053395309592108 : Nat := 0 -- Mine.hd.tree_1_175
def Mine.hd.tw4971549296188076032 : Nat := 0 -- Mine.hd.o_1_269
def Mine.hd.tw18414764529967284870 : Nat := 0 -- Mine.hd.tree_1_154
def Mine.hd.tw667777408057656426 : Nat := 0 -- Mine.hd.sts_1_156
def Mine.hd.tw5324259244718562562 : Nat := 0 -- PySem.Challenge.pw_pq0358_01
set_option maxHeartbeats 0 in
theorem Mine.hd : PySem.Challenge.rw_pq0358_01.Holds := by
  (w_on; o_law; k_head; (case hw => w_witness2); (refine Mine.join (d := _) ?_ (by kernel_rfl) (fun _ _ Y => kIn_of Y) (by kernel_rfl)); exact
    ⟨fun _ => by kernel_rfl, fun _ => by kernel_rfl, fun _ => by kernel_rfl, fun _ => by kernel_rfl, fun _ => by kernel_rfl, fun _ => by kernel_rfl, fun _ => by kernel_rfl, fun _ => by kernel_rfl,
     fun _ => by kernel_rfl, fun _ => by kernel_rfl, fun _ => by kernel_rfl, fun _ => by kernel_rfl, fun _ => by kernel_rfl, fun _ => by kernel_rfl, fun _ => by kernel_rfl⟩)
theorem PySem.Challenge.cw_pq0358_01_holds : PySem.Challenge.rw_pq0358_01.Holds :=
  Mine.hd
