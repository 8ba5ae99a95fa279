import PyProof.Rows.All
import HandS.Deep
import HandS.Defaults
import HandS.Ends
import HandS.ForMost
import HandS.IsInst
import HandS.IterVal
import HandS.TupAny
import HandS.Wide
import OpenK.AllK
import Wide.All
import Wide.FinOn
import PySem.Challenge.RW_soundyard_k05_holds
set_option Elab.async false
set_option maxRecDepth 100000
set_option linter.all false
set_option maxHeartbeats 4000000
namespace GL
open PySem L2 PySem.Spec PyProof.Rows
/-! ### data -/
inductive D where
  | non | bl (b : Bool) | int (i : Int) | str (x : Str) | lst (l : List D) | tup (l : List D) | obj (c : Nat) (l : List D) | ref (a : Addr) | scr (ns : List Int) | ty (n : String)
instance : Inhabited D := ⟨.non⟩
/-- the classes of the text: their addresses, the names of their attributes in order -/
structure Sg where
  K : PySem.W.Frag
  cls : Nat → Addr
  nms : Nat → List Str
mutual
inductive Rp (S : Sg) (H : Hp) : V → D → Prop
  | non : Rp S H .non .non
  | bl (b : Bool) : Rp S H (.bl b) (.bl b)
  | int (i : Int) : Rp S H (.int i) (.int i)
  | str (x : Str) : Rp S H (.str x) (.str x)
  | lst {a : Addr} {xs : List V} {ds : List D} : H a = some (.lst xs) → RpA S H xs ds → Rp S H (.ref a) (.lst ds)
  | tup {a : Addr} {xs : List V} {ds : List D} : SqT S.K H a xs → RpA S H xs ds → Rp S H (.ref a) (.tup ds)
  | obj {a dx : Addr} {c : Nat} {vs : List V} {ds : List D} : H a = some (.ins (S.cls c) dx ((S.nms c).zip vs)) → vs.length = (S.nms c).length → RpA S H vs ds → Rp S H (.ref a) (.obj c ds)
  | ref (a : Addr) : Rp S H (.ref a) (.ref a)
  | ty (n : String) : Rp S H (.ty n) (.ty n)
  | scr {a : Addr} {ns : List Int} : SqL S.K H a (ns.map V.int) → Rp S H (.ref a) (.scr ns)
inductive RpA (S : Sg) (H : Hp) : List V → List D → Prop
  | nil : RpA S H [] []
  | cons {v : V} {vs : List V} {d : D} {ds : List D} : Rp S H v d → RpA S H vs ds → RpA S H (v :: vs) (d :: ds)
end
def Ex (H H' : Hp) : Prop := ∀ a o, H a = some o → H' a = some o
theorem Ex.refl (H : Hp) : Ex H H := fun _ _ h => h
theorem Ex.trans {H H1 H2 : Hp} (a : Ex H H1) (b : Ex H1 H2) : Ex H H2 := fun x o h => b x o (a x o h)
theorem Ex.rd {H H' : Hp} {a : Addr} {u : HO} (e : Ex H H') (h : Rd H a u) : Rd H' a u := by
  rcases h with h | ⟨o, h⟩
  · exact Or.inl (e a _ h)
  · exact Or.inr ⟨o, e a _ h⟩
theorem Ex.l {K : PySem.W.Frag} {H H' : Hp} {a : Addr} {xs : List V} (e : Ex H H') (h : SqL K H a xs) : SqL K H' a xs := by
  rcases h with h | h
  · exact Or.inl (e.rd h)
  · exact Or.inr h
theorem Ex.t {K : PySem.W.Frag} {H H' : Hp} {a : Addr} {xs : List V} (e : Ex H H') (h : SqT K H a xs) : SqT K H' a xs := by
  rcases h with h | h
  · exact Or.inl (e.rd h)
  · exact Or.inr h
section
variable {S : Sg} {H H' : Hp}
mutual
theorem Rp.ext (e : Ex H H') : ∀ {v : V} {d : D}, Rp S H v d → Rp S H' v d
  | _, _, .non => .non
  | _, _, .bl b => .bl b
  | _, _, .int i => .int i
  | _, _, .str x => .str x
  | _, _, .lst h hs => .lst (e _ _ h) (RpA.ext e hs)
  | _, _, .tup h hs => .tup (e.t h) (RpA.ext e hs)
  | _, _, .obj h hl hs => .obj (e _ _ h) hl (RpA.ext e hs)
  | _, _, .ref a => .ref a
  | _, _, .ty n => .ty n
  | _, _, .scr h => .scr (e.l h)
theorem RpA.ext (e : Ex H H') : ∀ {vs : List V} {ds : List D}, RpA S H vs ds → RpA S H' vs ds
  | _, _, .nil => .nil
  | _, _, .cons h t => .cons (Rp.ext e h) (RpA.ext e t)
end
theorem RpA.length : ∀ {vs : List V} {ds : List D}, RpA S H vs ds → vs.length = ds.length
  | _, _, .nil => rfl
  | _, _, .cons _ t => by rw [List.length_cons, List.length_cons, RpA.length t]
theorem RpA.get : ∀ {vs : List V} {ds : List D} {i : Nat} {d : D}, RpA S H vs ds → ds[i]? = some d → ∃ v, vs[i]? = some v ∧ Rp S H v d
  | _, _, _, _, .nil, e => by simp at e
  | _, _, 0, _, .cons h _, e => by simp at e; subst e; exact ⟨_, by simp, h⟩
  | _, _, i + 1, _, .cons _ t, e => by
    obtain ⟨v, hv, r⟩ := RpA.get (i := i) t (by simpa using e)
    exact ⟨v, by simpa using hv, r⟩
theorem RpA.getV : ∀ {vs : List V} {ds : List D} {i : Nat} {v : V}, RpA S H vs ds → vs[i]? = some v → ∃ d, ds[i]? = some d ∧ Rp S H v d
  | _, _, _, _, .nil, e => by simp at e
  | _, _, 0, _, .cons h _, e => by simp at e; subst e; exact ⟨_, by simp, h⟩
  | _, _, i + 1, _, .cons _ t, e => by
    obtain ⟨v, hv, r⟩ := RpA.getV (i := i) t (by simpa using e)
    exact ⟨v, by simpa using hv, r⟩
theorem RpA.append : ∀ {vs ws : List V} {ds es : List D}, RpA S H vs ds → RpA S H ws es → RpA S H (vs ++ ws) (ds ++ es)
  | _, _, _, _, .nil, s => s
  | _, _, _, _, .cons h t, s => .cons h (RpA.append t s)
theorem RpA.set : ∀ {vs : List V} {ds : List D} {v : V} {d : D} (i : Nat), Rp S H v d → RpA S H vs ds → RpA S H (vs.set i v) (ds.set i d)
  | _, _, _, _, _, _, .nil => .nil
  | _, _, _, _, 0, r, .cons _ t => .cons r t
  | _, _, _, _, i + 1, r, .cons h t => .cons h (RpA.set i r t)
theorem RpA.take : ∀ {vs : List V} {ds : List D} (n : Nat), RpA S H vs ds → RpA S H (vs.take n) (ds.take n)
  | _, _, 0, _ => by simp; exact .nil
  | _, _, _ + 1, .nil => .nil
  | _, _, n + 1, .cons r t => .cons r (RpA.take n t)
theorem RpA.drop : ∀ {vs : List V} {ds : List D} (n : Nat), RpA S H vs ds → RpA S H (vs.drop n) (ds.drop n)
  | _, _, 0, r => r
  | _, _, _ + 1, .nil => .nil
  | _, _, n + 1, .cons _ t => RpA.drop n t
end
/-! ### memory: what may change -/
inductive M where
  | lst (ds : List D)
  | ins (C : Addr) (fs : List (Str × D))
  | dK (kvs : List (Key × D))
  | dT (kvs : List (List Key × D))
abbrev Mem := List (Addr × M)
abbrev Gm := List (Option D)
abbrev adr (μ : Mem) : List Addr := μ.map (·.1)
/-- what is to be seen: neither protected nor in the memory -/
def vis (N H : Hp) (A : List Addr) : Hp := fun b => if (N b).isSome = true ∨ b ∈ A then none else H b
theorem vis_le {N H : Hp} {A : List Addr} : Ex (vis N H A) H := fun a o e => by
  unfold vis at e
  split at e
  · cases e
  · exact e
theorem vis_mk {N H : Hp} {A : List Addr} {b : Addr} {o : HO} (e : H b = some o) (hn : N b = none) (ha : b ∉ A) : vis N H A b = some o := by
  unfold vis
  rw [if_neg (by rw [hn]; simp [ha])]
  exact e
theorem vis_in {N H : Hp} {A : List Addr} {b : Addr} {o : HO} (e : vis N H A b = some o) : N b = none ∧ b ∉ A ∧ H b = some o := by
  unfold vis at e
  split at e
  · cases e
  · rename_i h
    refine ⟨?_, fun z => h (.inr z), e⟩
    cases q : N b with
    | none => rfl
    | some x => exact absurd (.inl (by rw [q]; rfl)) h
/-- fields of an instance, by name and in order -/
inductive RpF (S : Sg) (H : Hp) : List (Str × V) → List (Str × D) → Prop
  | nil : RpF S H [] []
  | cons {f : Str} {v : V} {d : D} {vs : List (Str × V)} {ds : List (Str × D)} : Rp S H v d → RpF S H vs ds → RpF S H ((f, v) :: vs) ((f, d) :: ds)
inductive RpK {κ : Type} (S : Sg) (H : Hp) : List (κ × V) → List (κ × D) → Prop
  | nil : RpK S H [] []
  | cons {k : κ} {v : V} {d : D} {vs : List (κ × V)} {ds : List (κ × D)} : Rp S H v d → RpK S H vs ds → RpK S H ((k, v) :: vs) ((k, d) :: ds)
inductive RpM (S : Sg) (H : Hp) : M → HO → Prop
  | lst {ds : List D} {xs : List V} : RpA S H xs ds → RpM S H (.lst ds) (.lst xs)
  | ins {C dx : Addr} {fs : List (Str × D)} {vs : List (Str × V)} : RpF S H vs fs → RpM S H (.ins C fs) (.ins C dx vs)
  | dK {kvs : List (Key × D)} {vs : List (Key × V)} : RpK S H vs kvs → RpM S H (.dK kvs) (.dK vs)
  | dT {kvs : List (List Key × D)} {vs : List (List Key × V)} : RpK S H vs kvs → RpM S H (.dT kvs) (.dT vs)
theorem RpF.ext {S : Sg} {H H' : Hp} (e : Ex H H') : ∀ {vs : List (Str × V)} {ds : List (Str × D)}, RpF S H vs ds → RpF S H' vs ds
  | _, _, .nil => .nil
  | _, _, .cons h t => .cons (h.ext e) (RpF.ext e t)
theorem RpK.ext {κ : Type} {S : Sg} {H H' : Hp} (e : Ex H H') : ∀ {vs : List (κ × V)} {ds : List (κ × D)}, RpK S H vs ds → RpK S H' vs ds
  | _, _, .nil => .nil
  | _, _, .cons h t => .cons (h.ext e) (RpK.ext e t)
theorem RpM.ext {S : Sg} {H H' : Hp} (e : Ex H H') {m : M} {o : HO} (r : RpM S H m o) : RpM S H' m o := by
  cases r with
  | lst h => exact .lst (h.ext e)
  | ins h => exact .ins (h.ext e)
  | dK h => exact .dK (h.ext e)
  | dT h => exact .dT (h.ext e)
structure RelM (S : Sg) (F N H : Hp) (μ : Mem) : Prop where
  hid : Ex N H
  dis : ∀ a ∈ adr μ, N a = none
  ext : Ex F (vis N H (adr μ))
  nd : (adr μ).Nodup
  mem : ∀ p ∈ μ, ∃ o, H p.1 = some o ∧ RpM S (vis N H (adr μ)) p.2 o
abbrev RelO1 (S : Sg) (Hv : Hp) (o : Option V) (g : Option D) : Prop := ∀ d, g = some d → ∃ v, o = some v ∧ Rp S Hv v d
abbrev RelS (S : Sg) (Hv : Hp) (σ : L2.St) (Γ : Gm) : Prop := Paired (RelO1 S Hv) σ Γ
section
variable {S : Sg} {F F' N H H' Hv Hv' : Hp} {μ μ' : Mem} {σ : L2.St} {Γ : Gm}
theorem RelS.ext (e : Ex Hv Hv') (r : RelS S Hv σ Γ) : RelS S Hv' σ Γ := Paired.mapP r fun a b h d hd => by
  obtain ⟨v, hv, r⟩ := h d hd
  exact ⟨v, hv, r.ext e⟩
theorem RelS.get {d : D} : ∀ {σ : L2.St} {Γ : Gm} {i : Nat}, RelS S Hv σ Γ → Γ[i]? = some (some d) → ∃ v, σ[i]? = some (some v) ∧ Rp S Hv v d
  | _, _, _, .nil, e => by simp at e
  | _, _, 0, .cons h _, e => by
    simp at e
    subst e
    obtain ⟨v, hv, r⟩ := h _ rfl
    exact ⟨v, by simp [hv], r⟩
  | _, _, i + 1, .cons _ t, e => by
    obtain ⟨v, hv, r⟩ := RelS.get (d := d) (i := i) t (by simpa using e)
    exact ⟨v, by simpa using hv, r⟩
theorem RelS.set {v : V} {d : D} (r : Rp S Hv v d) : ∀ {σ : L2.St} {Γ : Gm} (i : Nat), RelS S Hv σ Γ → RelS S Hv (σ.set i (some v)) (Γ.set i (some d))
  | _, _, _, .nil => .nil
  | _, _, 0, .cons _ t => .cons (fun d hd => ⟨v, rfl, by cases hd; exact r⟩) t
  | _, _, i + 1, .cons h t => .cons h (RelS.set r i t)
theorem RelM.weakF (r : RelM S F N H μ) (e : Ex F' F) : RelM S F' N H μ := ⟨r.hid, r.dis, e.trans r.ext, r.nd, r.mem⟩
theorem RelM.top (r : RelM S F N H μ) : RelM S (vis N H (adr μ)) N H μ := ⟨r.hid, r.dis, Ex.refl _, r.nd, r.mem⟩
theorem RelM.le (r : RelM S F N H μ) : Ex F H := r.ext.trans vis_le
end
/-! ### what evaluates -/
/-- the weakest precondition of an expression over the abstract state -/
def EXt (X : Cx) (e : Expr) : TE := fun σ H Q => ∀ (pins : List (Addr × Obj)) (s : Shared), Inv X pins σ H s → wpAny (model X.prog X.w) X.A (eval e X.env) (EP X pins σ Q) X.xe s
theorem pe_ex {X : Cx} {e : Expr} : PE X e (EXt X e) := ⟨fun pins s _ _ _ I h => h pins s I⟩
theorem ex_of {X : Cx} {e : Expr} {t : TE} {σ : L2.St} {H : Hp} {Q : VK} (p : PE X e t) (h : t σ H Q) : EXt X e σ H Q := fun pins s I => p.run pins s σ H Q I h
theorem EXt.mono {X : Cx} {e : Expr} {σ : L2.St} {H : Hp} {Q Q' : VK} (h : EXt X e σ H Q) (m : ∀ v H', Q v H' → Q' v H') : EXt X e σ H Q' := fun pins s I =>
  thn (h pins s I) fun _ _ ⟨v, H', I', r, q⟩ => ⟨v, H', I', r, m v H' q⟩
/-- .. of a test -/
def TXt (X : Cx) (e : Expr) : TT := fun σ H Q => ∀ (pins : List (Addr × Obj)) (s : Shared), Inv X pins σ H s → wpAny (model X.prog X.w) X.A (isTrue e X.env (eval e X.env)) (TP X pins σ Q) X.xe s
theorem pt_ex {X : Cx} {e : Expr} : PT X e (TXt X e) := ⟨fun pins s _ _ _ I h => h pins s I⟩
theorem tx_of {X : Cx} {e : Expr} {t : TT} {σ : L2.St} {H : Hp} {Q : Bool → Hp → Prop} (p : PT X e t) (h : t σ H Q) : TXt X e σ H Q := fun pins s I => p.run pins s σ H Q I h
theorem TXt.mono {X : Cx} {e : Expr} {σ : L2.St} {H : Hp} {Q Q' : Bool → Hp → Prop} (h : TXt X e σ H Q) (m : ∀ v H', Q v H' → Q' v H') : TXt X e σ H Q' := fun pins s I =>
  thn (h pins s I) fun _ _ ⟨H', I', q⟩ => ⟨H', I', m _ H' q⟩
/-- a test whatever its whole is -/
def WXt (X : Cx) (e : Expr) : TT := fun σ H Q => ∀ (wh : Sem Value) (pins : List (Addr × Obj)) (s : Shared), Inv X pins σ H s → wpAny (model X.prog X.w) X.A (isTrue e X.env wh) (TP X pins σ Q) X.xe s
theorem pw_ex {X : Cx} {e : Expr} : PW X e (WXt X e) := ⟨fun wh pins s _ _ _ I h => h wh pins s I⟩
theorem wx_of {X : Cx} {e : Expr} {t : TT} {σ : L2.St} {H : Hp} {Q : Bool → Hp → Prop} (p : PW X e t) (h : t σ H Q) : WXt X e σ H Q := fun wh pins s I => p.run wh pins s σ H Q I h
/-- .. of an argument list -/
def AXt (X : Cx) (es : List Expr) : TA := fun σ H Q => ∀ (pos : Pos) (pins : List (Addr × Obj)) (s : Shared), Inv X pins σ H s → wpAny (model X.prog X.w) X.A (spliced (backTo pos (starEach es X.env))) (AP X pins σ Q) X.xe s
theorem pa_ex {X : Cx} {es : List Expr} : PA X es (AXt X es) := ⟨fun pos pins s _ _ _ I h => h pos pins s I⟩
theorem ax_of {X : Cx} {es : List Expr} {t : TA} {σ : L2.St} {H : Hp} {Q : List V → Hp → Prop} (p : PA X es t) (h : t σ H Q) : AXt X es σ H Q := fun pos pins s I => p.run pos pins s σ H Q I h
theorem AXt.mono {X : Cx} {es : List Expr} {σ : L2.St} {H : Hp} {Q Q' : List V → Hp → Prop} (h : AXt X es σ H Q) (m : ∀ v H', Q v H' → Q' v H') : AXt X es σ H Q' := fun pos pins s I =>
  thn (h pos pins s I) fun _ _ ⟨v, H', I', r, q⟩ => ⟨v, H', I', r, m v H' q⟩
/-- .. of a statement, a block -/
def SXt (X : Cx) (st : Stmt) : TS := fun D σ H => ∀ (pins : List (Addr × Obj)) (s : Shared), Inv X pins σ H s → wpAny (model X.prog X.w) X.A (exec st X.env) (SP X pins D) X.xe s
theorem ps_ex {X : Cx} {st : Stmt} : PS X st (SXt X st) := ⟨fun pins s _ _ _ I h => h pins s I⟩
theorem sx_of {X : Cx} {st : Stmt} {t : TS} {D : Ends} {σ : L2.St} {H : Hp} (p : PS X st t) (h : t D σ H) : SXt X st D σ H := fun pins s I => p.run pins s σ H D I h
def BXt (X : Cx) (st : List Stmt) : TS := fun D σ H => ∀ (pins : List (Addr × Obj)) (s : Shared), Inv X pins σ H s → wpAny (model X.prog X.w) X.A (execs st X.env) (SP X pins D) X.xe s
theorem pss_ex {X : Cx} {st : List Stmt} : PSs X st (BXt X st) := ⟨fun pins s _ _ _ I h => h pins s I⟩
theorem bx_of {X : Cx} {st : List Stmt} {t : TS} {D : Ends} {σ : L2.St} {H : Hp} (p : PSs X st t) (h : t D σ H) : BXt X st D σ H := fun pins s I => p.run pins s σ H D I h
abbrev QD := D → Mem → Prop
/-- the end of an expression, over the data -/
abbrev EndE (S : Sg) (F N : Hp) (Q : QD) : VK := fun v H' => ∃ d μ', RelM S F N H' μ' ∧ Rp S (vis N H' (adr μ')) v d ∧ Q d μ'
abbrev EndT (S : Sg) (F N : Hp) (Q : Bool → Mem → Prop) : Bool → Hp → Prop := fun b H' => ∃ μ', RelM S F N H' μ' ∧ Q b μ'
abbrev EndA (S : Sg) (F N : Hp) (Q : List D → Mem → Prop) : List V → Hp → Prop := fun vs H' => ∃ ds μ', RelM S F N H' μ' ∧ RpA S (vis N H' (adr μ')) vs ds ∧ Q ds μ'
/-- e evaluates, from the data Γ and the memory μ, to a datum and a memory of which Q holds -/
def EvG (X : Cx) (S : Sg) (e : Expr) (Γ : Gm) (μ : Mem) (Q : QD) : Prop :=
  ∀ F N σ H, RelM S F N H μ → RelS S (vis N H (adr μ)) σ Γ → EXt X e σ H (EndE S F N Q)
def EvT (X : Cx) (S : Sg) (e : Expr) (Γ : Gm) (μ : Mem) (Q : Bool → Mem → Prop) : Prop :=
  ∀ F N σ H, RelM S F N H μ → RelS S (vis N H (adr μ)) σ Γ → TXt X e σ H (EndT S F N Q)
def EvW (X : Cx) (S : Sg) (e : Expr) (Γ : Gm) (μ : Mem) (Q : Bool → Mem → Prop) : Prop :=
  ∀ F N σ H, RelM S F N H μ → RelS S (vis N H (adr μ)) σ Γ → WXt X e σ H (EndT S F N Q)
def EvA (X : Cx) (S : Sg) (es : List Expr) (Γ : Gm) (μ : Mem) (Q : List D → Mem → Prop) : Prop :=
  ∀ F N σ H, RelM S F N H μ → RelS S (vis N H (adr μ)) σ Γ → AXt X es σ H (EndA S F N Q)
structure EG where
  nx : Gm → Mem → Prop
  rt : QD
  bk : Gm → Mem → Prop := fun _ _ => False
  ct : Gm → Mem → Prop := fun _ _ => False
abbrev EndS (S : Sg) (F N : Hp) (P : Gm → Mem → Prop) : L2.St → Hp → Prop := fun σ' H' => ∃ Γ' μ', RelM S F N H' μ' ∧ RelS S (vis N H' (adr μ')) σ' Γ' ∧ P Γ' μ'
abbrev EG.ends (S : Sg) (F N : Hp) (E : EG) : Ends := ⟨EndS S F N E.nx, EndE S F N E.rt, EndS S F N E.bk, EndS S F N E.ct⟩
def StG (X : Cx) (S : Sg) (st : Stmt) (Γ : Gm) (μ : Mem) (E : EG) : Prop :=
  ∀ F N σ H, RelM S F N H μ → RelS S (vis N H (adr μ)) σ Γ → SXt X st (E.ends S F N) σ H
def BlG (X : Cx) (S : Sg) (st : List Stmt) (Γ : Gm) (μ : Mem) (E : EG) : Prop :=
  ∀ F N σ H, RelM S F N H μ → RelS S (vis N H (adr μ)) σ Γ → BXt X st (E.ends S F N) σ H
section
variable {X : Cx} {S : Sg} {e : Expr} {es : List Expr} {st : Stmt} {sts : List Stmt} {Γ : Gm} {μ : Mem} {F N H : Hp} {σ : L2.St}
/-- used: the slots are seen behind it, all that was seen is seen -/
theorem EvG.use {Q : QD} {P : VK} (h : EvG X S e Γ μ Q) (r : RelM S F N H μ) (rs : RelS S (vis N H (adr μ)) σ Γ)
    (k : ∀ v H' d μ', RelM S (vis N H (adr μ)) N H' μ' → RelS S (vis N H' (adr μ')) σ Γ → Rp S (vis N H' (adr μ')) v d → Q d μ' → P v H') : EXt X e σ H P :=
  (h (vis N H (adr μ)) N σ H r.top rs).mono fun v H' ⟨d, μ', r', rd, q⟩ => k v H' d μ' r' (rs.ext r'.ext) rd q
theorem EvT.use {Q : Bool → Mem → Prop} {P : Bool → Hp → Prop} (h : EvT X S e Γ μ Q) (r : RelM S F N H μ) (rs : RelS S (vis N H (adr μ)) σ Γ)
    (k : ∀ b H' μ', RelM S (vis N H (adr μ)) N H' μ' → RelS S (vis N H' (adr μ')) σ Γ → Q b μ' → P b H') : TXt X e σ H P :=
  (h (vis N H (adr μ)) N σ H r.top rs).mono fun v H' ⟨μ', r', q⟩ => k v H' μ' r' (rs.ext r'.ext) q
theorem EvA.use {Q : List D → Mem → Prop} {P : List V → Hp → Prop} (h : EvA X S es Γ μ Q) (r : RelM S F N H μ) (rs : RelS S (vis N H (adr μ)) σ Γ)
    (k : ∀ vs H' ds μ', RelM S (vis N H (adr μ)) N H' μ' → RelS S (vis N H' (adr μ')) σ Γ → RpA S (vis N H' (adr μ')) vs ds → Q ds μ' → P vs H') : AXt X es σ H P :=
  (h (vis N H (adr μ)) N σ H r.top rs).mono fun v H' ⟨d, μ', r', rd, q⟩ => k v H' d μ' r' (rs.ext r'.ext) rd q
theorem EvG.mono {Q Q' : QD} (h : EvG X S e Γ μ Q) (m : ∀ d μ', Q d μ' → Q' d μ') : EvG X S e Γ μ Q' := fun F N σ H r rs =>
  (h F N σ H r rs).mono fun _ _ ⟨d, μ', r', rd, q⟩ => ⟨d, μ', r', rd, m d μ' q⟩
end
end GL
namespace GL
open PySem L2 PySem.Spec PyProof.Rows
/-! ### heaps that grow and change -/
section
variable {S : Sg} {F N H H' : Hp} {μ : Mem} {p a : Addr} {o : HO}
theorem adr_some (r : RelM S F N H μ) (h : a ∈ adr μ) : ∃ o, H a = some o := by
  obtain ⟨q, hq, rfl⟩ := List.mem_map.mp h
  obtain ⟨o, e, _⟩ := r.mem q hq
  exact ⟨o, e⟩
theorem adr_new (r : RelM S F N H μ) (hp : H p = none) : p ∉ adr μ := fun h => by
  obtain ⟨o, e⟩ := adr_some r h
  rw [hp] at e
  cases e
theorem hid_new (r : RelM S F N H μ) (hp : H p = none) : N p = none := by
  cases q : N p with
  | none => rfl
  | some o =>
    have := r.hid p o q
    rw [hp] at this
    cases this
theorem vis_new (r : RelM S F N H μ) (hp : H p = none) : Ex (vis N H (adr μ)) (vis N (upd H p o) (adr μ)) := fun b u e => by
  obtain ⟨h1, h2, h3⟩ := vis_in e
  exact vis_mk (by rw [upd_ne (ne_of_none h3 hp)]; exact h3) h1 h2
/-- a new object that never changes -/
theorem RelM.alloc (r : RelM S F N H μ) (hp : H p = none) : RelM S F N (upd H p o) μ where
  hid := fun b u e => by
    have e' := r.hid b u e
    rw [upd_ne (ne_of_none e' hp)]
    exact e'
  dis := r.dis
  ext := r.ext.trans (vis_new r hp)
  nd := r.nd
  mem := fun q hq => by
    obtain ⟨u, e, m⟩ := r.mem q hq
    exact ⟨u, by rw [upd_ne (ne_of_none e hp)]; exact e, m.ext (vis_new r hp)⟩
theorem alloc_at (r : RelM S F N H μ) (hp : H p = none) : vis N (upd H p o) (adr μ) p = some o := vis_mk upd_same (hid_new r hp) (adr_new r hp)
theorem vis_same {m : M} (r : RelM S F N H μ) (hp : H p = none) : Ex (vis N H (adr μ)) (vis N (upd H p o) (adr ((p, m) :: μ))) := fun b u e => by
  obtain ⟨h1, h2, h3⟩ := vis_in e
  have ne : b ≠ p := ne_of_none h3 hp
  exact vis_mk (by rw [upd_ne ne]; exact h3) h1 (by
    show b ∉ p :: adr μ
    simp only [List.mem_cons, not_or]
    exact ⟨ne, h2⟩)
/-- a new object of the memory -/
theorem RelM.allocM {m : M} (r : RelM S F N H μ) (hp : H p = none) (hm : RpM S (vis N H (adr μ)) m o) : RelM S F N (upd H p o) ((p, m) :: μ) where
  hid := fun b u e => by
    have e' := r.hid b u e
    rw [upd_ne (ne_of_none e' hp)]
    exact e'
  dis := fun b hb => by
    rcases List.mem_cons.mp hb with rfl | hb
    · exact hid_new r hp
    · exact r.dis b hb
  ext := r.ext.trans (vis_same r hp)
  nd := List.nodup_cons.mpr ⟨adr_new r hp, r.nd⟩
  mem := fun q hq => by
    rcases List.mem_cons.mp hq with rfl | hq
    · exact ⟨o, upd_same, hm.ext (vis_same r hp)⟩
    · obtain ⟨u, e, m⟩ := r.mem q hq
      exact ⟨u, by rw [upd_ne (ne_of_none e hp)]; exact e, m.ext (vis_same r hp)⟩
end
/-- the entry at a is another one -/
inductive Upd (a : Addr) (m m' : M) : Mem → Mem → Prop
  | here {r : Mem} : Upd a m m' ((a, m) :: r) ((a, m') :: r)
  | there {p : Addr × M} {r r' : Mem} : Upd a m m' r r' → Upd a m m' (p :: r) (p :: r')
theorem Upd.adr {a : Addr} {m m' : M} {μ μ' : Mem} (u : Upd a m m' μ μ') : adr μ' = adr μ := by
  induction u with
  | here => rfl
  | there _ ih => exact congrArg (_ :: ·) ih
theorem Upd.mem {a : Addr} {m m' : M} {μ μ' : Mem} (u : Upd a m m' μ μ') : (a, m) ∈ μ := by
  induction u with
  | here => exact .head _
  | there _ ih => exact .tail _ ih
theorem Upd.out {a : Addr} {m m' : M} {μ μ' : Mem} (u : Upd a m m' μ μ') : ∀ q ∈ μ', q = (a, m') ∨ (q ∈ μ) := by
  induction u with
  | here => intro q hq; rcases List.mem_cons.mp hq with h | h; exact .inl h; exact .inr (.tail _ h)
  | there _ ih => intro q hq; rcases List.mem_cons.mp hq with h | h; exact .inr (h ▸ .head _); exact (ih q h).imp id (.tail _)
theorem Upd.out' {a : Addr} {m m' : M} {μ μ' : Mem} (u : Upd a m m' μ μ') (nd : (GL.adr μ).Nodup) : ∀ q ∈ μ', q = (a, m') ∨ (q ∈ μ ∧ q.1 ≠ a) := by
  induction u with
  | @here r =>
    intro q hq
    rcases List.mem_cons.mp hq with h | h
    · exact .inl h
    · refine .inr ⟨.tail _ h, fun e => ?_⟩
      have h1 : a ∉ GL.adr r := (List.nodup_cons.mp nd).1
      exact h1 (e ▸ List.mem_map_of_mem h)
  | @there p r r' u ih =>
    intro q hq
    rcases List.mem_cons.mp hq with h | h
    · refine .inr ⟨h ▸ .head _, fun e => ?_⟩
      have h1 : p.1 ∉ GL.adr r := (List.nodup_cons.mp nd).1
      rw [h] at e
      rw [e] at h1
      exact h1 (List.mem_map_of_mem u.mem)
    · rcases ih (List.nodup_cons.mp nd).2 q h with z | ⟨z, y⟩
      · exact .inl z
      · exact .inr ⟨.tail _ z, y⟩
section
variable {S : Sg} {F N H H' : Hp} {μ μ' : Mem} {p a : Addr} {o : HO} {m m' : M}
theorem RelM.find (r : RelM S F N H μ) (h : (a, m) ∈ μ) : ∃ o, H a = some o ∧ RpM S (vis N H (adr μ)) m o := r.mem (a, m) h
theorem vis_upd (h : a ∈ adr μ) : vis N (upd H a o) (adr μ) = vis N H (adr μ) := by
  funext b
  unfold vis
  by_cases hb : b = a
  · subst hb
    rw [if_pos (.inr h), if_pos (.inr h)]
  · rw [upd_ne hb]
/-- an object of the memory is changed -/
theorem RelM.put (r : RelM S F N H μ) (u : Upd a m m' μ μ') (hm : RpM S (vis N H (adr μ)) m' o) : RelM S F N (L2.upd H a o) μ' := by
  have ha : a ∈ adr μ := List.mem_map_of_mem u.mem
  have hN : N a = none := r.dis a ha
  refine ⟨fun b v e => ?_, by rw [u.adr]; exact r.dis, by rw [u.adr, vis_upd ha]; exact r.ext, by rw [u.adr]; exact r.nd, fun q hq => ?_⟩
  · by_cases hb : b = a
    · subst hb
      rw [hN] at e
      cases e
    · rw [upd_ne hb]
      exact r.hid b v e
  · rw [u.adr, vis_upd ha]
    rcases u.out' r.nd q hq with rfl | ⟨hq, hne⟩
    · exact ⟨o, upd_same, hm⟩
    · obtain ⟨v, e, hv⟩ := r.mem q hq
      exact ⟨v, by rw [upd_ne hne]; exact e, hv⟩
end
/-- the entry at a is left out -/
inductive Del (a : Addr) (m : M) : Mem → Mem → Prop
  | here {r : Mem} : Del a m ((a, m) :: r) r
  | there {p : Addr × M} {r r' : Mem} : Del a m r r' → Del a m (p :: r) (p :: r')
theorem Del.mem {a : Addr} {m : M} {μ μ' : Mem} (u : Del a m μ μ') : (a, m) ∈ μ := by
  induction u with
  | here => exact .head _
  | there _ ih => exact .tail _ ih
theorem Del.sub {a : Addr} {m : M} {μ μ' : Mem} (u : Del a m μ μ') : ∀ q ∈ μ', q ∈ μ := by
  induction u with
  | here => exact fun q h => .tail _ h
  | there _ ih => intro q hq; rcases List.mem_cons.mp hq with h | h; exact h ▸ .head _; exact .tail _ (ih q h)
theorem Del.adrs {a : Addr} {m : M} {μ μ' : Mem} (u : Del a m μ μ') (nd : (adr μ).Nodup) : (adr μ').Nodup ∧ ∀ b, b ∈ adr μ' ↔ (b ∈ adr μ ∧ b ≠ a) := by
  induction u with
  | @here r =>
    refine ⟨(List.nodup_cons.mp nd).2, fun b => ⟨fun h => ⟨.tail _ h, fun e => (List.nodup_cons.mp nd).1 (e ▸ h)⟩, fun h => ?_⟩⟩
    rcases List.mem_cons.mp h.1 with e | h'
    · exact absurd e h.2
    · exact h'
  | @there p r r' u ih =>
    obtain ⟨i1, i2⟩ := ih (List.nodup_cons.mp nd).2
    have hp := (List.nodup_cons.mp nd).1
    have hpa : p.1 ≠ a := fun e => hp (by
      have z : a ∈ adr r := List.mem_map_of_mem u.mem
      rw [← e] at z
      exact z)
    refine ⟨List.nodup_cons.mpr ⟨fun h => hp ((i2 _).mp h).1, i1⟩, fun b => ⟨fun h => ?_, fun h => ?_⟩⟩
    · rcases List.mem_cons.mp h with e | h'
      · exact ⟨e ▸ .head _, e ▸ hpa⟩
      · exact ⟨.tail _ ((i2 b).mp h').1, ((i2 b).mp h').2⟩
    · rcases List.mem_cons.mp h.1 with e | h'
      · exact e ▸ .head _
      · exact .tail _ ((i2 b).mpr ⟨h', h.2⟩)
section
variable {S : Sg} {F N H H' : Hp} {μ μ' : Mem} {p a : Addr} {o : HO} {m m' : M}
theorem vis_del (r : RelM S F N H μ) (u : Del a m μ μ') : Ex (vis N H (adr μ)) (vis N H (adr μ')) := fun b v e => by
  obtain ⟨h1, h2, h3⟩ := vis_in e
  exact vis_mk h3 h1 fun z => h2 (((u.adrs r.nd).2 b).mp z).1
/-- an object changes no more -/
theorem RelM.del (r : RelM S F N H μ) (u : Del a m μ μ') : RelM S F N H μ' :=
  ⟨r.hid, fun b hb => r.dis b (((u.adrs r.nd).2 b).mp hb).1, r.ext.trans (vis_del r u), (u.adrs r.nd).1, fun q hq => by
    obtain ⟨v, e, hv⟩ := r.mem q (u.sub q hq)
    exact ⟨v, e, hv.ext (vis_del r u)⟩⟩
/-- what a left out list is -/
theorem RelM.froz {ds : List D} (r : RelM S F N H μ) (u : Del a (.lst ds) μ μ') : Rp S (vis N H (adr μ')) (.ref a) (.lst ds) := by
  obtain ⟨o, e, hm⟩ := r.find u.mem
  cases hm with
  | lst h =>
    refine .lst (vis_mk e (r.dis a (List.mem_map_of_mem u.mem)) fun z => (((u.adrs r.nd).2 a).mp z).2 rfl) (h.ext (vis_del r u))
theorem RpF.zip {Hv : Hp} : ∀ {ns : List Str} {ds : List D} {vs : List (Str × V)}, ns.length = ds.length → RpF S Hv vs (ns.zip ds) → ∃ ws, vs = ns.zip ws ∧ ws.length = ns.length ∧ RpA S Hv ws ds
  | [], [], _, _, h => by
    cases h
    exact ⟨[], rfl, rfl, .nil⟩
  | [], _ :: _, _, e, _ => by simp at e
  | _ :: _, [], _, e, _ => by simp at e
  | n :: ns, d :: ds, _, e, h => by
    cases h with
    | cons h t =>
      obtain ⟨ws, e1, e2, e3⟩ := RpF.zip (ns := ns) (ds := ds) (by simpa using e) t
      exact ⟨_ :: ws, by rw [e1]; rfl, by simp [e2], .cons h e3⟩
/-- what a left out instance is -/
theorem RelM.frozI {c : Nat} {ds : List D} (r : RelM S F N H μ) (u : Del a (.ins (S.cls c) ((S.nms c).zip ds)) μ μ') (hl : (S.nms c).length = ds.length) : Rp S (vis N H (adr μ')) (.ref a) (.obj c ds) := by
  obtain ⟨o, e, hm⟩ := r.find u.mem
  cases hm with
  | ins h =>
    obtain ⟨ws, e1, e2, e3⟩ := h.zip hl
    subst e1
    exact .obj (vis_mk e (r.dis a (List.mem_map_of_mem u.mem)) fun z => (((u.adrs r.nd).2 a).mp z).2 rfl) e2 (e3.ext (vis_del r u))
end
/-! ### what is meant by a datum: itself, or the list that stands in the memory there -/
inductive Drf (μ : Mem) : D → List D → Prop
  | val (l : List D) : Drf μ (.lst l) l
  | ref {a : Addr} {l : List D} : (a, M.lst l) ∈ μ → Drf μ (.ref a) l
inductive DrfT (μ : Mem) : D → List D → Prop
  | l {d : D} {ds : List D} : Drf μ d ds → DrfT μ d ds
  | t (l : List D) : DrfT μ (.tup l) l
theorem Drf.at {S : Sg} {F N H : Hp} {μ : Mem} {d : D} {l : List D} {x : V} (h : Drf μ d l) (r : RelM S F N H μ) (rx : Rp S (vis N H (adr μ)) x d) : ∃ a xs, x = .ref a ∧ H a = some (.lst xs) ∧ RpA S (vis N H (adr μ)) xs l := by
  cases h with
  | val l =>
    cases rx with
    | lst h hs => exact ⟨_, _, rfl, vis_le _ _ h, hs⟩
  | ref hm =>
    cases rx
    obtain ⟨o, e, hm⟩ := r.find hm
    cases hm with
    | lst h => exact ⟨_, _, rfl, e, h⟩
/-! ### pure data, as the library's -/
mutual
def D.py : D → PyData
  | .non => .none
  | .bl b => .bool b
  | .int i => .int i
  | .str x => .str x
  | .lst l => .list (D.pyA l)
  | .tup l => .tuple (D.pyA l)
  | _ => .none
def D.pyA : List D → List PyData
  | [] => []
  | d :: l => D.py d :: D.pyA l
end
mutual
/-- pure, not deeper than n, the texts of real signs -/
def D.ok : Nat → D → Bool
  | _, .non => true
  | _, .bl _ => true
  | _, .int _ => true
  | _, .str x => PyData.strOk x
  | n + 1, .lst l => D.okA n l
  | n + 1, .tup l => D.okA n l
  | _, _ => false
def D.okA : Nat → List D → Bool
  | _, [] => true
  | n, d :: l => D.ok n d && D.okA n l
end
theorem D.okA_all : ∀ {n : Nat} {l : List D}, D.okA n l = true ↔ ∀ d ∈ l, D.ok n d = true
  | n, [] => by simp [D.okA]
  | n, d :: l => by simp [D.okA, D.okA_all (l := l)]
theorem D.pyA_map : ∀ l : List D, D.pyA l = l.map D.py
  | [] => by simp [D.pyA]
  | d :: l => by simp [D.pyA, D.pyA_map l]
mutual
theorem D.ok_lay : ∀ {n : Nat} {d : D}, D.ok n d = true → (D.py d).canLay0 = true ∧ (D.py d).depth ≤ n
  | n, .non, _ => by cases n <;> simp [D.py, PyData.canLay0, PyData.depth]
  | n, .bl b, _ => by cases n <;> simp [D.py, PyData.canLay0, PyData.depth]
  | n, .int i, _ => by cases n <;> simp [D.py, PyData.canLay0, PyData.depth]
  | n, .str x, h => by
    cases n <;> simp [D.ok] at h <;> simp [D.py, PyData.canLay0, PyData.depth, h]
  | 0, .lst l, h => by simp [D.ok] at h
  | n + 1, .lst l, h => by
    have := D.okA_lay (n := n) (l := l) (by simpa [D.ok] using h)
    refine ⟨by simp [D.py, PyData.canLay0, this.1], ?_⟩
    simp only [D.py, PyData.depth]
    have := this.2
    omega
  | 0, .tup l, h => by simp [D.ok] at h
  | n + 1, .tup l, h => by
    have := D.okA_lay (n := n) (l := l) (by simpa [D.ok] using h)
    refine ⟨by simp [D.py, PyData.canLay0, this.1], ?_⟩
    simp only [D.py, PyData.depth]
    have := this.2
    omega
  | n, .obj c l, h => by cases n <;> simp [D.ok] at h
  | n, .ref a, h => by cases n <;> simp [D.ok] at h
  | n, .scr a, h => by cases n <;> simp [D.ok] at h
  | n, .ty a, h => by cases n <;> simp [D.ok] at h
theorem D.okA_lay : ∀ {n : Nat} {l : List D}, D.okA n l = true → PyData.canLayAll0 (D.pyA l) = true ∧ PyData.depthAll (D.pyA l) ≤ n
  | n, [], _ => by simp [D.pyA, PyData.canLayAll0, PyData.depthAll]
  | n, d :: l, h => by
    have h' : D.ok n d = true ∧ D.okA n l = true := by simpa [D.okA] using h
    have h1 := D.ok_lay h'.1
    have h2 := D.okA_lay h'.2
    refine ⟨by simp [D.pyA, PyData.canLayAll0, h1.1, h2.1], ?_⟩
    simp only [D.pyA, PyData.depthAll]
    have := h1.2
    have := h2.2
    omega
end
theorem D.shaped {n : Nat} {d : D} (h : D.ok n d = true) (hn : n ≤ 60) : SeqAt.shaped (D.py d) = true := by
  have := D.ok_lay h
  show ((D.py d).canLay0 && decide ((D.py d).depth ≤ 64)) = true
  rw [this.1, Bool.true_and]
  exact decide_eq_true (by have := this.2; omega)
mutual
theorem Rp.dp {S : Sg} {H : Hp} : ∀ {n : Nat} {d : D} {v : V}, D.ok n d = true → Rp S H v d → Dp S.K H v (D.py d)
  | _, .non, _, _, h => by cases h; simp only [D.py]; exact .non
  | _, .bl b, _, _, h => by cases h; simp only [D.py]; exact .bl b
  | _, .int i, _, _, h => by cases h; simp only [D.py]; exact .int i
  | _, .str x, _, _, h => by cases h; simp only [D.py]; exact .str x
  | 0, .lst l, _, e, h => by simp [D.ok] at e
  | n + 1, .lst l, _, e, h => by
    cases h with
    | lst h hs => simp only [D.py]; exact .lst (SqL.of h) (RpA.dp (n := n) (by simpa [D.ok] using e) hs)
  | 0, .tup l, _, e, h => by simp [D.ok] at e
  | n + 1, .tup l, _, e, h => by
    cases h with
    | tup h hs => simp only [D.py]; exact .tup h (RpA.dp (n := n) (by simpa [D.ok] using e) hs)
  | n, .obj c l, _, e, h => by cases n <;> simp [D.ok] at e
  | n, .ref a, _, e, h => by cases n <;> simp [D.ok] at e
  | n, .scr a, _, e, h => by cases n <;> simp [D.ok] at e
  | n, .ty a, _, e, h => by cases n <;> simp [D.ok] at e
theorem RpA.dp {S : Sg} {H : Hp} : ∀ {n : Nat} {ds : List D} {vs : List V}, D.okA n ds = true → RpA S H vs ds → DpAll S.K H vs (D.pyA ds)
  | _, [], _, _, h => by cases h; simp only [D.pyA]; exact .nil
  | n, d :: ds, _, e, h => by
    have e' : D.ok n d = true ∧ D.okA n ds = true := by simpa [D.okA] using e
    cases h with
    | cons h t => simp only [D.pyA]; exact .cons (Rp.dp e'.1 h) (RpA.dp e'.2 t)
end
/-- == of data -/
def D.eqv (d e : D) : Bool := PyData.eqv (D.py d) (D.py e)
end GL
namespace GL
open PySem L2 PySem.Spec PyProof.Rows
/-! ### operations by values -/
def OPt (X : Cx) (f : Value → Value → Sem Value) : R2 := fun x y H Q => ∀ (pins : List (Addr × Obj)) (s : Shared) (σ : L2.St) (v u : Value), Inv X pins σ H s → RelV x v → RelV y u → wpAny (model X.prog X.w) X.A (f v u) (EP X pins σ Q) X.xe s
theorem opr_self {X : Cx} {f : Value → Value → Sem Value} : OpR X f (OPt X f) := fun pins s σ _ _ _ v u _ I rx ry h => h pins s σ v u I rx ry
theorem op_of {X : Cx} {f : Value → Value → Sem Value} {r : R2} {x y : V} {H : Hp} {Q : VK} (h : OpR X f r) (q : r x y H Q) : OPt X f x y H Q := fun pins s σ v u I rx ry => h pins s σ H x y v u Q I rx ry q
def UNt (X : Cx) (f : Value → Sem Value) : V → Hp → VK → Prop := fun x H Q => ∀ (pins : List (Addr × Obj)) (s : Shared) (σ : L2.St) (v : Value), Inv X pins σ H s → RelV x v → wpAny (model X.prog X.w) X.A (f v) (EP X pins σ Q) X.xe s
theorem unr_self {X : Cx} {f : Value → Sem Value} : UnR X f (UNt X f) := fun pins s σ _ _ v _ I rx h => h pins s σ v I rx
theorem un_of {X : Cx} {f : Value → Sem Value} {r : V → Hp → VK → Prop} {x : V} {H : Hp} {Q : VK} (h : UnR X f r) (q : r x H Q) : UNt X f x H Q := fun pins s σ v I rx => h pins s σ H x v Q I rx q
def CPt (X : Cx) (f : Value) : List V → Hp → VK → Prop := fun xs H Q => ∀ (pins : List (Addr × Obj)) (s : Shared) (σ : L2.St) (us : List Value), Inv X pins σ H s → Vals xs us → wpAny (model X.prog X.w) X.A (call f us) (EP X pins σ Q) X.xe s
theorem cpr_self {X : Cx} {f : Value} : CallR X f (CPt X f) := fun pins s σ _ _ us _ I r h => h pins s σ us I r
theorem cp_of {X : Cx} {f : Value} {r : List V → Hp → VK → Prop} {xs : List V} {H : Hp} {Q : VK} (h : CallR X f r) (q : r xs H Q) : CPt X f xs H Q := fun pins s σ us I rv => h pins s σ H xs us Q I rv q
/-- f on two data -/
def OpG (X : Cx) (S : Sg) (f : Value → Value → Sem Value) (d1 d2 : D) (μ : Mem) (Q : QD) : Prop :=
  ∀ F N H x y, RelM S F N H μ → Rp S (vis N H (adr μ)) x d1 → Rp S (vis N H (adr μ)) y d2 → OPt X f x y H (EndE S F N Q)
def UnG (X : Cx) (S : Sg) (f : Value → Sem Value) (d1 : D) (μ : Mem) (Q : QD) : Prop :=
  ∀ F N H x, RelM S F N H μ → Rp S (vis N H (adr μ)) x d1 → UNt X f x H (EndE S F N Q)
def CallG (X : Cx) (S : Sg) (f : Value) (ds : List D) (μ : Mem) (Q : QD) : Prop :=
  ∀ F N H xs, RelM S F N H μ → RpA S (vis N H (adr μ)) xs ds → CPt X f xs H (EndE S F N Q)
theorem OpG.mono {X : Cx} {S : Sg} {f : Value → Value → Sem Value} {d1 d2 : D} {μ : Mem} {Q Q' : QD} (h : OpG X S f d1 d2 μ Q) (m : ∀ d μ', Q d μ' → Q' d μ') : OpG X S f d1 d2 μ Q' := fun F N H x y r rx ry pins s σ v u I rv ru =>
  thn (h F N H x y r rx ry pins s σ v u I rv ru) fun _ _ ⟨z, H', I', rz, d, μ', r', rd, q⟩ => ⟨z, H', I', rz, d, μ', r', rd, m _ _ q⟩
section
variable {X : Cx} {S : Sg} {a b c e : Expr} {es rest : List Expr} {Γ : Gm} {μ : Mem} {Q : QD} {T : Bool → Mem → Prop} {x : Str} {pos p : Pos} {d : D}
/-! ### names, constants -/
theorem ev_name {i : Nat} (hN : X.N[i]? = some x) (hv : Vis X.env.scope x) (hΓ : Γ[i]? = some (some d)) (k : Q d μ) (hd : (x == ("__debug__" : Str)) = false := by decide) (hcd : (x == ("__classdict__" : Str)) = false := by decide) : EvG X S (.Name x pos) Γ μ Q :=
  fun F N σ H r rs => let ⟨v, hv', rv⟩ := RelS.get rs hΓ; ex_of (pe_var hN hv hd hcd) ⟨v, hv', d, μ, r, rv, k⟩
theorem ev_int {i : Int} {j} (k : Q (.int i) μ) : EvG X S (.Constant (.int i) j pos) Γ μ Q := fun F N σ H r rs => ex_of pe_int ⟨_, μ, r, .int i, k⟩
theorem ev_bl {i : Bool} {j} (k : Q (.bl i) μ) : EvG X S (.Constant (.bool i) j pos) Γ μ Q := fun F N σ H r rs => ex_of pe_bl ⟨_, μ, r, .bl i, k⟩
theorem ev_str {i : Str} {j} (k : Q (.str i) μ) : EvG X S (.Constant (.str i) j pos) Γ μ Q := fun F N σ H r rs => ex_of pe_str ⟨_, μ, r, .str i, k⟩
theorem ev_non {j} (k : Q .non μ) : EvG X S (.Constant .none j pos) Γ μ Q := fun F N σ H r rs => ex_of pe_non ⟨_, μ, r, .non, k⟩
/-- a class or a def of the module as a value -/
theorem ev_globR {u : Addr} (hg : Gl X x) (hm : X.mg x = some (.ref u)) (k : Q (.ref u) μ) (hd : (x == ("__debug__" : Str)) = false := by decide) : EvG X S (.Name x pos) Γ μ Q :=
  fun F N σ H r rs => ex_of (pe_glob (v := .ref u) hg hm rfl hd) ⟨_, μ, r, .ref u, k⟩
theorem ev_bty {n : String} (hg : Gl X x) (hm : X.mg x = none) (hv : bootBuiltins x = some (.type n)) (k : Q (.ty n) μ) (hn : x ≠ "__name__" := by decide) (hd : (x == ("__debug__" : Str)) = false := by decide) : EvG X S (.Name x pos) Γ μ Q :=
  fun F N σ H r rs => ex_of (pe_bltn (v := .ty n) hg hm hv rfl hn hd) ⟨_, μ, r, .ty n, k⟩
/-! ### operators -/
theorem ev_bin {op : Operator} (h : EvG X S a Γ μ fun d1 μ1 => EvG X S b Γ μ1 fun d2 μ2 => OpG X S (binaryOp op) d1 d2 μ2 Q) : EvG X S (.BinOp a op b pos) Γ μ Q := by
  intro F N σ H r rs
  refine ex_of (pe_op opr_self pe_ex pe_ex) ?_
  refine h.use r rs fun x H1 d1 μ1 r1 rs1 rx hb => ?_
  refine hb.use r1 rs1 fun y H2 d2 μ2 r2 rs2 ry ho => ?_
  exact ho F N H2 x y (r2.weakF (r.ext.trans r1.ext)) (rx.ext r2.ext) ry
theorem ev_un {op : UnaryOp} (h : EvG X S a Γ μ fun d1 μ1 => UnG X S (unaryOp op) d1 μ1 Q) : EvG X S (.UnaryOp op a pos) Γ μ Q := by
  intro F N σ H r rs
  refine ex_of (pe_un unr_self pe_ex) ?_
  refine h.use r rs fun x H1 d1 μ1 r1 rs1 rx hb => ?_
  exact hb F N H1 x (r1.weakF r.ext) rx
theorem ev_cmp {op : CmpOp} (h : EvG X S a Γ μ fun d1 μ1 => EvG X S b Γ μ1 fun d2 μ2 => OpG X S (compareOp op) d1 d2 μ2 Q) (hm : behindInMarks op b = false := by first | exact nobehind _ (by decide) (by decide) | rfl) : EvG X S (.Compare a [op] [b] pos) Γ μ Q := by
  intro F N σ H r rs
  refine ex_of (pe_cmpR opr_self pe_ex pe_ex hm) ?_
  refine h.use r rs fun x H1 d1 μ1 r1 rs1 rx hb => ?_
  refine hb.use r1 rs1 fun y H2 d2 μ2 r2 rs2 ry ho => ?_
  exact ho F N H2 x y (r2.weakF (r.ext.trans r1.ext)) (rx.ext r2.ext) ry
/-- tests -/
abbrev QB (T : Bool → Mem → Prop) : QD := fun d μ' => ∃ b, d = .bl b ∧ T b μ'
theorem endT_of {F N H : Hp} {v : V} (h : EndE S F N (QB T) v H) : ∃ c, v = .bl c ∧ EndT S F N T c H := by
  obtain ⟨d, μ', r, rd, b, e, q⟩ := h
  subst e
  cases rd
  exact ⟨b, rfl, μ', r, q⟩
theorem et_cmp {op : CmpOp} (h : EvG X S a Γ μ fun d1 μ1 => EvG X S b Γ μ1 fun d2 μ2 => OpG X S (compareOp op) d1 d2 μ2 (QB T)) (hm : behindInMarks op b = false := by first | exact nobehind _ (by decide) (by decide) | rfl) : EvT X S (.Compare a [op] [b] pos) Γ μ T := by
  intro F N σ H r rs
  refine tx_of (pt_cmpR opr_self pe_ex pe_ex hm) ?_
  refine EXt.mono (h.use (P := fun v H1 => EXt X b σ H1 fun y H2 => OPt X (compareOp op) v y H2 (EndE S F N (QB T))) r rs fun x H1 d1 μ1 r1 rs1 rx hb => ?_) fun v H1 q => q.mono fun y H2 q2 => ?_
  · refine hb.use r1 rs1 fun y H2 d2 μ2 r2 rs2 ry ho => ?_
    exact ho F N H2 x y (r2.weakF (r.ext.trans r1.ext)) (rx.ext r2.ext) ry
  · intro pins s σ' v u I rx ry
    exact thn (q2 pins s σ' v u I rx ry) fun _ _ ⟨z, H', I', rz, q⟩ => ⟨z, H', I', rz, endT_of q⟩
theorem et_val (h : EvG X S e Γ μ (QB T)) (he : ∀ whole, isTrue e X.env whole = (do let v ← whole; standAt e.pos; holding [v] (truthy v)) := by intro _; rfl) : EvT X S e Γ μ T := by
  intro F N σ H r rs
  exact tx_of (pt_val pe_ex he) ((h F N σ H r rs).mono fun v H' q => endT_of q)
theorem et_not (h : EvT X S a Γ μ fun b μ' => T (!b) μ') : EvT X S (.UnaryOp .Not a pos) Γ μ T := by
  intro F N σ H r rs
  exact tx_of (pt_not pt_ex) ((h F N σ H r rs).mono fun v H' q => q)
theorem et_w (h : EvW X S e Γ μ T) : EvT X S e Γ μ T := fun F N σ H r rs pins s I => h F N σ H r rs _ pins s I
theorem ew_and1 (h : EvT X S a Γ μ T) : EvW X S (.BoolOp .And [a] pos) Γ μ T := fun F N σ H r rs => wx_of (pw_and1 pt_ex) (h F N σ H r rs)
theorem ew_or1 (h : EvT X S a Γ μ T) : EvW X S (.BoolOp .Or [a] pos) Γ μ T := fun F N σ H r rs => wx_of (pw_or1 pt_ex) (h F N σ H r rs)
theorem ew_and (h : EvT X S a Γ μ fun c μ1 => (c = true → EvW X S (.BoolOp .And (b :: rest) pos) Γ μ1 T) ∧ (c = false → T false μ1)) : EvW X S (.BoolOp .And (a :: b :: rest) pos) Γ μ T := by
  intro F N σ H r rs
  refine wx_of (pw_and pt_ex pw_ex) (h.use r rs fun c H1 μ1 r1 rs1 q => ?_)
  cases c with
  | true => exact q.1 rfl F N σ H1 (r1.weakF r.ext) rs1
  | false => exact ⟨μ1, r1.weakF r.ext, q.2 rfl⟩
theorem ew_or (h : EvT X S a Γ μ fun c μ1 => (c = false → EvW X S (.BoolOp .Or (b :: rest) pos) Γ μ1 T) ∧ (c = true → T true μ1)) : EvW X S (.BoolOp .Or (a :: b :: rest) pos) Γ μ T := by
  intro F N σ H r rs
  refine wx_of (pw_or pt_ex pw_ex) (h.use r rs fun c H1 μ1 r1 rs1 q => ?_)
  cases c with
  | false => exact q.1 rfl F N σ H1 (r1.weakF r.ext) rs1
  | true => exact ⟨μ1, r1.weakF r.ext, q.2 rfl⟩
/-- and, or as values: bools -/
theorem ev_and1 (h : EvG X S a Γ μ Q) {op} : EvG X S (.BoolOp op [a] pos) Γ μ Q := fun F N σ H r rs => ex_of (pe_one pe_ex) (h F N σ H r rs)
theorem ev_and (h : EvG X S a Γ μ fun d μ1 => ∃ c, d = .bl c ∧ (c = true → EvG X S (.BoolOp .And (b :: rest) pos) Γ μ1 Q) ∧ (c = false → Q (.bl false) μ1)) : EvG X S (.BoolOp .And (a :: b :: rest) pos) Γ μ Q := by
  intro F N σ H r rs
  refine ex_of (pe_and pe_ex pe_ex) (h.use r rs fun v H1 d μ1 r1 rs1 rd q => ?_)
  obtain ⟨c, e, q1, q2⟩ := q
  subst e
  cases rd
  refine ⟨c, rfl, ?_⟩
  cases c with
  | true => exact q1 rfl F N σ H1 (r1.weakF r.ext) rs1
  | false => exact ⟨_, μ1, r1.weakF r.ext, .bl false, q2 rfl⟩
theorem ev_or (h : EvG X S a Γ μ fun d μ1 => ∃ c, d = .bl c ∧ (c = false → EvG X S (.BoolOp .Or (b :: rest) pos) Γ μ1 Q) ∧ (c = true → Q (.bl true) μ1)) : EvG X S (.BoolOp .Or (a :: b :: rest) pos) Γ μ Q := by
  intro F N σ H r rs
  refine ex_of (pe_or pe_ex pe_ex) (h.use r rs fun v H1 d μ1 r1 rs1 rd q => ?_)
  obtain ⟨c, e, q1, q2⟩ := q
  subst e
  cases rd
  refine ⟨c, rfl, ?_⟩
  cases c with
  | false => exact q1 rfl F N σ H1 (r1.weakF r.ext) rs1
  | true => exact ⟨_, μ1, r1.weakF r.ext, .bl true, q2 rfl⟩
theorem ev_not (h : EvG X S a Γ μ fun d μ1 => ∃ c, d = .bl c ∧ Q (.bl (!c)) μ1) : EvG X S (.UnaryOp .Not a pos) Γ μ Q := by
  intro F N σ H r rs
  refine ex_of (pe_not pe_ex) (h.use r rs fun v H1 d μ1 r1 rs1 rd q => ?_)
  obtain ⟨c, e, q1⟩ := q
  subst e
  cases rd
  exact ⟨c, rfl, _, μ1, r1.weakF r.ext, .bl _, q1⟩
theorem ev_if (h : EvT X S c Γ μ fun t μ1 => (t = true → EvG X S a Γ μ1 Q) ∧ (t = false → EvG X S b Γ μ1 Q)) : EvG X S (.IfExp c a b pos) Γ μ Q := by
  intro F N σ H r rs
  refine ex_of (pe_ifExp pt_ex pe_ex pe_ex) (h.use r rs fun t H1 μ1 r1 rs1 q => ?_)
  cases t with
  | true => exact q.1 rfl F N σ H1 (r1.weakF r.ext) rs1
  | false => exact q.2 rfl F N σ H1 (r1.weakF r.ext) rs1
/-! ### argument lists, displays -/
theorem ea_nil {Q : List D → Mem → Prop} (k : Q [] μ) : EvA X S [] Γ μ Q := fun F N σ H r rs => ax_of pa_nil ⟨[], μ, r, .nil, k⟩
theorem ea_cons {Q : List D → Mem → Prop} (h : EvG X S e Γ μ fun d μ1 => EvA X S es Γ μ1 fun ds μ2 => Q (d :: ds) μ2) (hs : starEach (e :: es) X.env = (false, eval e X.env) :: starEach es X.env := by rfl) : EvA X S (e :: es) Γ μ Q := by
  intro F N σ H r rs
  refine ax_of (pa_cons pe_ex pa_ex hs) (h.use r rs fun v H1 d μ1 r1 rs1 rd q => ?_)
  refine q.use r1 rs1 fun vs H2 ds μ2 r2 rs2 rds q2 => ?_
  exact ⟨d :: ds, μ2, r2.weakF (r.ext.trans r1.ext), .cons (rd.ext r2.ext) rds, q2⟩
theorem ev_tup {k} (h : EvA X S es Γ μ fun ds μ1 => ds.length ≤ 16777216 ∧ Q (.tup ds) μ1) : EvG X S (.Tuple es k pos) Γ μ Q := by
  intro F N σ H r rs
  refine ex_of (pe_tup pa_ex) (h.use r rs fun vs H1 ds μ1 r1 rs1 rd q => ?_)
  refine ⟨by rw [rd.length, sizeLine_eq]; exact q.1, fun p hp => ?_⟩
  exact ⟨_, μ1, (r1.weakF r.ext).alloc hp, .tup (SqT.of (alloc_at r1 hp)) (rd.ext (vis_new r1 hp)), q.2⟩
theorem ev_lst (h : EvA X S es Γ μ fun ds μ1 => ds.length ≤ 16777216 ∧ Q (.lst ds) μ1) : EvG X S (.List es pos) Γ μ Q := by
  intro F N σ H r rs
  refine ex_of (pe_lst pa_ex) (h.use r rs fun vs H1 ds μ1 r1 rs1 rd q => ?_)
  refine ⟨by rw [rd.length, sizeLine_eq]; exact q.1, fun p hp => ?_⟩
  exact ⟨_, μ1, (r1.weakF r.ext).alloc hp, .lst (alloc_at r1 hp) (rd.ext (vis_new r1 hp)), q.2⟩
/-- a list that is to be changed -/
theorem ev_lstM (h : EvA X S es Γ μ fun ds μ1 => ds.length ≤ 16777216 ∧ ∀ p, p ∉ adr μ1 → Q (.ref p) ((p, .lst ds) :: μ1)) : EvG X S (.List es pos) Γ μ Q := by
  intro F N σ H r rs
  refine ex_of (pe_lst pa_ex) (h.use r rs fun vs H1 ds μ1 r1 rs1 rd q => ?_)
  refine ⟨by rw [rd.length, sizeLine_eq]; exact q.1, fun p hp => ?_⟩
  exact ⟨_, _, (r1.weakF r.ext).allocM hp (.lst rd), .ref p, q.2 p (adr_new r1 hp)⟩
end
/-! ### operations on data -/
section
variable {X : Cx} {S : Sg} {μ : Mem} {Q : QD} {i j : Int} {x y : Str} {d e : D} {l l' : List D}
theorem og_addI (k : Q (.int (i + j)) μ) : OpG X S (binaryOp .Add) (.int i) (.int j) μ Q := fun F N H u v r ru rv => by cases ru; cases rv; exact op_of op_add ⟨i, j, rfl, rfl, _, μ, r, .int _, k⟩
theorem og_subI (k : Q (.int (i - j)) μ) : OpG X S (binaryOp .Sub) (.int i) (.int j) μ Q := fun F N H u v r ru rv => by cases ru; cases rv; exact op_of op_sub ⟨i, j, rfl, rfl, _, μ, r, .int _, k⟩
theorem og_mulI (c : CMul i j) (k : Q (.int (i * j)) μ) : OpG X S (binaryOp .Mult) (.int i) (.int j) μ Q := fun F N H u v r ru rv => by cases ru; cases rv; exact op_of op_mul ⟨i, j, rfl, rfl, c, _, μ, r, .int _, k⟩
theorem og_modI (c : 0 < j) (k : Q (.int (i % j)) μ) : OpG X S (binaryOp .Mod) (.int i) (.int j) μ Q := fun F N H u v r ru rv => by cases ru; cases rv; exact op_of op_mod ⟨i, j, rfl, rfl, c, _, μ, r, .int _, k⟩
theorem og_fdivI (c : CDiv i j) (k : Q (.int (i / j)) μ) : OpG X S (binaryOp .FloorDiv) (.int i) (.int j) μ Q := fun F N H u v r ru rv => by cases ru; cases rv; exact op_of op_fdiv ⟨i, j, rfl, rfl, c, _, μ, r, .int _, k⟩
theorem og_powI (c : CPow i j) (k : Q (.int (i ^ j.toNat)) μ) : OpG X S (binaryOp .Pow) (.int i) (.int j) μ Q := fun F N H u v r ru rv => by cases ru; cases rv; exact op_of op_pow ⟨i, j, rfl, rfl, c, _, μ, r, .int _, k⟩
theorem ug_neg (k : Q (.int (-i)) μ) : UnG X S (unaryOp .USub) (.int i) μ Q := fun F N H u r ru => by cases ru; exact un_of un_neg ⟨i, rfl, _, μ, r, .int _, k⟩
theorem og_addS (hz : x.length + y.length ≤ 16777216) (k : Q (.str (x ++ y)) μ) : OpG X S (binaryOp .Add) (.str x) (.str y) μ Q := fun F N H u v r ru rv => by cases ru; cases rv; exact op_of op_add_str ⟨x, y, rfl, rfl, by rw [sizeLine_eq]; exact hz, _, μ, r, .str _, k⟩
theorem og_addL (h1 : Drf μ d l) (h2 : Drf μ e l') (hz : l.length + l'.length ≤ 16777216) (k : Q (.lst (l ++ l')) μ) : OpG X S (binaryOp .Add) d e μ Q := fun F N H u v r ru rv => by
  obtain ⟨a, xs, rfl, ha, hs⟩ := h1.at r ru
  obtain ⟨b, ys, rfl, hb, ht⟩ := h2.at r rv
  refine op_of op_cat ⟨a, b, xs, ys, rfl, rfl, ha, hb, by rw [hs.length, ht.length, sizeLine_eq]; exact hz, fun p hp => ?_⟩
  exact ⟨_, μ, r.alloc hp, .lst (alloc_at r hp) ((hs.append ht).ext (vis_new r hp)), k⟩
theorem og_addT (hK : X.K = S.K) (hz : l.length + l'.length ≤ 16777216) (k : Q (.tup (l ++ l')) μ) : OpG X S (binaryOp .Add) (.tup l) (.tup l') μ Q := fun F N H u v r ru rv => by
  cases ru with
  | @tup a xs _ ha hs =>
  cases rv with
  | @tup b ys _ hb ht =>
  refine op_of op_catA ⟨a, b, xs, ys, rfl, rfl, by rw [hK]; exact vis_le.t ha, by rw [hK]; exact vis_le.t hb, by rw [hs.length, ht.length, sizeLine_eq]; exact hz, fun e => ?_, fun _ e => ?_, fun _ _ p hp => ?_⟩
  · subst e
    cases hs
    exact ⟨_, μ, r, .tup hb ht, k⟩
  · subst e
    cases ht
    exact ⟨_, μ, r, .tup ha (by rw [List.append_nil]; exact hs), k⟩
  · exact ⟨_, μ, r.alloc hp, .tup (SqT.of (alloc_at r hp)) ((hs.append ht).ext (vis_new r hp)), k⟩
theorem og_ltI (k : Q (.bl (decide (i < j))) μ) : OpG X S (compareOp .Lt) (.int i) (.int j) μ Q := fun F N H u v r ru rv => by cases ru; cases rv; exact op_of op_lt ⟨i, j, rfl, rfl, _, μ, r, .bl _, k⟩
theorem og_leI (k : Q (.bl (decide (i ≤ j))) μ) : OpG X S (compareOp .LtE) (.int i) (.int j) μ Q := fun F N H u v r ru rv => by cases ru; cases rv; exact op_of op_le ⟨i, j, rfl, rfl, _, μ, r, .bl _, k⟩
theorem og_gtI (k : Q (.bl (decide (j < i))) μ) : OpG X S (compareOp .Gt) (.int i) (.int j) μ Q := fun F N H u v r ru rv => by cases ru; cases rv; exact op_of op_gt ⟨i, j, rfl, rfl, _, μ, r, .bl _, k⟩
theorem og_geI (k : Q (.bl (decide (j ≤ i))) μ) : OpG X S (compareOp .GtE) (.int i) (.int j) μ Q := fun F N H u v r ru rv => by cases ru; cases rv; exact op_of op_ge ⟨i, j, rfl, rfl, _, μ, r, .bl _, k⟩
theorem og_eqI (k : Q (.bl (decide (i = j))) μ) : OpG X S (compareOp .Eq) (.int i) (.int j) μ Q := fun F N H u v r ru rv => by cases ru; cases rv; exact op_of op_eq ⟨rfl, _, μ, r, .bl _, by simpa using k⟩
theorem og_neI (k : Q (.bl (!decide (i = j))) μ) : OpG X S (compareOp .NotEq) (.int i) (.int j) μ Q := fun F N H u v r ru rv => by cases ru; cases rv; exact op_of op_ne ⟨rfl, _, μ, r, .bl _, by simpa using k⟩
theorem og_eqS (k : Q (.bl (decide (x = y))) μ) : OpG X S (compareOp .Eq) (.str x) (.str y) μ Q := fun F N H u v r ru rv => by cases ru; cases rv; exact op_of op_eq ⟨rfl, _, μ, r, .bl _, by simpa using k⟩
theorem og_neS (k : Q (.bl (!decide (x = y))) μ) : OpG X S (compareOp .NotEq) (.str x) (.str y) μ Q := fun F N H u v r ru rv => by cases ru; cases rv; exact op_of op_ne ⟨rfl, _, μ, r, .bl _, by simpa using k⟩
theorem og_eqB {a b : Bool} (k : Q (.bl (decide (a = b))) μ) : OpG X S (compareOp .Eq) (.bl a) (.bl b) μ Q := fun F N H u v r ru rv => by cases ru; cases rv; exact op_of op_eq ⟨rfl, _, μ, r, .bl _, by simpa using k⟩
theorem og_neB {a b : Bool} (k : Q (.bl (!decide (a = b))) μ) : OpG X S (compareOp .NotEq) (.bl a) (.bl b) μ Q := fun F N H u v r ru rv => by cases ru; cases rv; exact op_of op_ne ⟨rfl, _, μ, r, .bl _, by simpa using k⟩
/-- what a datum is, for reading as a whole: a list of the memory is read as a list -/
def Rsv (μ : Mem) (d e : D) : Prop := d = e ∨ ∃ l, Drf μ d l ∧ e = .lst l
theorem Rsv.val {d : D} : Rsv μ d d := .inl rfl
theorem Rsv.mem {a : Addr} (h : (a, M.lst l) ∈ μ) : Rsv μ (.ref a) (.lst l) := .inr ⟨l, .ref h, rfl⟩
theorem Rsv.dp {n : Nat} {F N H : Hp} {d e : D} {v : V} (h : Rsv μ d e) (ho : D.ok n e = true) (r : RelM S F N H μ) (rv : Rp S (vis N H (adr μ)) v d) : Dp S.K H v (D.py e) := by
  rcases h with rfl | ⟨l, h, rfl⟩
  · exact (rv.ext vis_le).dp ho
  · obtain ⟨a, xs, rfl, ha, hs⟩ := h.at r rv
    exact Rp.dp ho (.lst ha (hs.ext vis_le))
theorem og_eqD {n m : Nat} {d' e' : D} (hK : X.K = S.K) (hu : X.A.units + 65 < cLine) (h1 : Rsv μ d d') (h2 : Rsv μ e e') (o1 : D.ok n d' = true) (o2 : D.ok m e' = true) (n1 : n ≤ 60) (n2 : m ≤ 60) (k : Q (.bl (D.eqv d' e')) μ) : OpG X S (compareOp .Eq) d e μ Q := fun F N H u v r ru rv => by
  refine op_of (op_eqD (by omega)) ⟨_, _, ?_, ?_, D.shaped o1 n1, D.shaped o2 n2, _, μ, r, .bl _, k⟩
  · rw [hK]; exact h1.dp o1 r ru
  · rw [hK]; exact h2.dp o2 r rv
theorem og_neD {n m : Nat} {d' e' : D} (hK : X.K = S.K) (hu : X.A.units + 65 < cLine) (h1 : Rsv μ d d') (h2 : Rsv μ e e') (o1 : D.ok n d' = true) (o2 : D.ok m e' = true) (n1 : n ≤ 60) (n2 : m ≤ 60) (k : Q (.bl (!D.eqv d' e')) μ) : OpG X S (compareOp .NotEq) d e μ Q := fun F N H u v r ru rv => by
  refine op_of (op_neD (by omega)) ⟨_, _, ?_, ?_, D.shaped o1 n1, D.shaped o2 n2, _, μ, r, .bl _, k⟩
  · rw [hK]; exact h1.dp o1 r ru
  · rw [hK]; exact h2.dp o2 r rv
def D.inL (d : D) (l : List D) : Bool := l.any fun z => D.eqv z d
theorem any_py (d : D) : ∀ l : List D, ((D.pyA l).any fun z => PyData.eqv z (D.py d)) = D.inL d l
  | [] => rfl
  | z :: l => by
    have ih := any_py d l
    simp only [D.pyA, List.any_cons, D.inL, D.eqv] at ih ⊢
    rw [ih]
theorem og_inL {n : Nat} {d' : D} (hK : X.K = S.K) (hu : X.A.units + 65 < cLine) (h1 : Rsv μ d d') (h2 : Drf μ e l) (o1 : D.ok n d' = true) (o2 : D.okA n l = true) (n1 : n ≤ 50) (k : Q (.bl (D.inL d' l)) μ) : OpG X S (compareOp .In) d e μ Q := fun F N H u v r ru rv => by
  have o2' : D.ok (n + 1) (.lst l) = true := by simpa [D.ok] using o2
  have e2 := Rsv.dp (S := S) (e := .lst l) (.inr ⟨l, h2, rfl⟩) o2' r rv
  have s2 := D.shaped o2' (by omega)
  rw [D.py] at e2 s2
  refine op_of (op_inD hu) ⟨D.py d', D.pyA l, ?_, by rw [hK]; exact e2, D.shaped o1 (by omega), s2, _, μ, r, .bl _, ?_⟩
  · rw [hK]; exact h1.dp o1 r ru
  · rw [any_py]; exact k
theorem og_niL {n : Nat} {d' : D} (hK : X.K = S.K) (hu : X.A.units + 65 < cLine) (h1 : Rsv μ d d') (h2 : Drf μ e l) (o1 : D.ok n d' = true) (o2 : D.okA n l = true) (n1 : n ≤ 50) (k : Q (.bl (!D.inL d' l)) μ) : OpG X S (compareOp .NotIn) d e μ Q := fun F N H u v r ru rv => by
  have o2' : D.ok (n + 1) (.lst l) = true := by simpa [D.ok] using o2
  have e2 := Rsv.dp (S := S) (e := .lst l) (.inr ⟨l, h2, rfl⟩) o2' r rv
  have s2 := D.shaped o2' (by omega)
  rw [D.py] at e2 s2
  refine op_of (op_notInD hu) ⟨D.py d', D.pyA l, ?_, by rw [hK]; exact e2, D.shaped o1 (by omega), s2, _, μ, r, .bl _, ?_⟩
  · rw [hK]; exact h1.dp o1 r ru
  · rw [any_py]; exact k
end
end GL
namespace GL
open PySem L2 PySem.Spec PyProof.Rows
section
variable {X : Cx} {S : Sg} {a b c e o : Expr} {es rest : List Expr} {st : Stmt} {sts body orelse : List Stmt} {Γ : Gm} {μ : Mem} {Q : QD} {x : Str} {pos p : Pos} {d : D} {E : EG}
/-! ### statements -/
theorem bl_nil (k : E.nx Γ μ) : BlG X S [] Γ μ E := fun F N σ H r rs => bx_of pss_nil ⟨Γ, μ, r, rs, k⟩
theorem SXt.mono {D D' : Ends} {σ : L2.St} {H : Hp} (h : SXt X st D σ H) (h1 : ∀ σ H, D.nx σ H → D'.nx σ H) (h2 : ∀ v H, D.rt v H → D'.rt v H) (h3 : ∀ σ H, D.bk σ H → D'.bk σ H) (h4 : ∀ σ H, D.ct σ H → D'.ct σ H) : SXt X st D' σ H := fun pins s I =>
  thn (h pins s I) fun f s' q => by
    cases f with
    | next => obtain ⟨σ', H', I', q⟩ := q; exact ⟨σ', H', I', h1 _ _ q⟩
    | brk => obtain ⟨σ', H', I', q⟩ := q; exact ⟨σ', H', I', h3 _ _ q⟩
    | cont => obtain ⟨σ', H', I', q⟩ := q; exact ⟨σ', H', I', h4 _ _ q⟩
    | ret u => obtain ⟨v, σ', H', I', r, q⟩ := q; exact ⟨v, σ', H', I', r, h2 _ _ q⟩
theorem EG.weak {E : EG} {F F' N : Hp} (e : Ex F' F) : (∀ v H, (E.ends S F N).rt v H → (E.ends S F' N).rt v H) ∧ (∀ σ H, (E.ends S F N).nx σ H → (E.ends S F' N).nx σ H) ∧ (∀ σ H, (E.ends S F N).bk σ H → (E.ends S F' N).bk σ H) ∧ (∀ σ H, (E.ends S F N).ct σ H → (E.ends S F' N).ct σ H) :=
  ⟨fun _ _ ⟨d, m, r, q⟩ => ⟨d, m, r.weakF e, q⟩, fun _ _ ⟨d, m, r, q⟩ => ⟨d, m, r.weakF e, q⟩, fun _ _ ⟨d, m, r, q⟩ => ⟨d, m, r.weakF e, q⟩, fun _ _ ⟨d, m, r, q⟩ => ⟨d, m, r.weakF e, q⟩⟩
theorem bl_cons (h : StG X S st Γ μ { E with nx := fun Γ' μ' => BlG X S sts Γ' μ' E }) : BlG X S (st :: sts) Γ μ E := by
  intro F N σ H r rs
  refine bx_of (pss_cons ps_ex pss_ex) ?_
  refine SXt.mono (h F N σ H r rs) (fun σ' H' q => ?_) (fun _ _ q => q) (fun _ _ q => q) (fun _ _ q => q)
  obtain ⟨Γ', μ', r', rs', q⟩ := q
  exact q F N σ' H' r' rs'
theorem st_pass (k : E.nx Γ μ) : StG X S (.Pass pos) Γ μ E := fun F N σ H r rs => sx_of ps_pass ⟨Γ, μ, r, rs, k⟩
theorem st_break (k : E.bk Γ μ) : StG X S (.Break pos) Γ μ E := fun F N σ H r rs => sx_of ps_break ⟨Γ, μ, r, rs, k⟩
theorem st_cont (k : E.ct Γ μ) : StG X S (.Continue pos) Γ μ E := fun F N σ H r rs => sx_of ps_continue ⟨Γ, μ, r, rs, k⟩
theorem st_expr (h : EvG X S e Γ μ fun _ μ' => E.nx Γ μ') (hs : swapsWith e none pos.line X.env = pure false := by rfl) : StG X S (.Expr e pos) Γ μ E := by
  intro F N σ H r rs
  refine sx_of (ps_expr pe_ex hs) (h.use r rs fun v H' d μ' r' rs' _ q => ?_)
  exact ⟨Γ, μ', r'.weakF r.ext, rs', q⟩
theorem st_ret (h : EvG X S e Γ μ E.rt) : StG X S (.Return (some e) pos) Γ μ E := fun F N σ H r rs => sx_of (ps_ret pe_ex) (h F N σ H r rs)
theorem st_retN (h : E.rt .non μ) : StG X S (.Return none pos) Γ μ E := fun F N σ H r rs => sx_of ps_retN ⟨_, μ, r, .non, h⟩
theorem st_if (h : EvT X S c Γ μ fun t μ1 => (t = true → BlG X S body Γ μ1 E) ∧ (t = false → BlG X S orelse Γ μ1 E)) : StG X S (.If c body orelse pos) Γ μ E := by
  intro F N σ H r rs
  refine sx_of (ps_if pt_ex pss_ex pss_ex) (h.use r rs fun t H1 μ1 r1 rs1 q => ?_)
  cases t with
  | true => exact q.1 rfl F N σ H1 (r1.weakF r.ext) rs1
  | false => exact q.2 rfl F N σ H1 (r1.weakF r.ext) rs1
/-! ### targets -/
def GXt (X : Cx) (tg : Expr) : TG := fun v σ H Q => ∀ (pins : List (Addr × Obj)) (s : Shared) (u : Value), Inv X pins σ H s → RelV v u → wpAny (model X.prog X.w) X.A (assign tg X.env u) (fun _ s' => ∃ σ' H', Inv X pins σ' H' s' ∧ Q σ' H') X.xe s
theorem pg_ex {tg : Expr} : PG X tg (GXt X tg) := ⟨fun pins s σ H v u Q I r h => h pins s u I r⟩
theorem gx_of {tg : Expr} {t : TG} {v : V} {σ : L2.St} {H : Hp} {Q : L2.St → Hp → Prop} (p : PG X tg t) (h : t v σ H Q) : GXt X tg v σ H Q := fun pins s u I r => p.run pins s σ H v u Q I r h
theorem GXt.mono {tg : Expr} {v : V} {σ : L2.St} {H : Hp} {Q Q' : L2.St → Hp → Prop} (h : GXt X tg v σ H Q) (m : ∀ σ H, Q σ H → Q' σ H) : GXt X tg v σ H Q' := fun pins s u I r =>
  thn (h pins s u I r) fun _ _ ⟨σ', H', I', q⟩ => ⟨σ', H', I', m _ _ q⟩
theorem wipe_at {σ : L2.St} {j : Nat} : ∀ {vs : List Nat}, (wipe σ vs)[j]? = if j ∈ vs then σ[j]?.map (fun _ => none) else σ[j]?
  | [] => by simp [wipe]
  | v :: vs => by
    have ih := wipe_at (σ := σ) (j := j) (vs := vs)
    have hl := wipe_length σ vs
    show ((wipe σ vs).set v none)[j]? = _
    rw [List.getElem?_set, hl]
    by_cases hv : v = j
    · subst hv
      rw [if_pos rfl, if_pos (List.mem_cons_self)]
      by_cases hlt : v < σ.length
      · rw [if_pos hlt, List.getElem?_eq_getElem hlt]
        rfl
      · rw [if_neg hlt, List.getElem?_eq_none (by omega)]
        rfl
    · rw [if_neg hv, ih]
      by_cases hj : j ∈ vs
      · rw [if_pos hj, if_pos (List.mem_cons_of_mem _ hj)]
      · rw [if_neg hj, if_neg (by simp only [List.mem_cons, not_or]; exact ⟨fun e => hv e.symm, hj⟩)]
theorem wipe_set {σ : L2.St} {i : Nat} {x : Option V} {vs : List Nat} (h : i ∈ vs) : wipe (σ.set i x) vs = wipe σ vs := by
  refine List.ext_getElem? fun j => ?_
  rw [wipe_at, wipe_at, List.getElem?_set]
  by_cases hj : j ∈ vs
  · rw [if_pos hj, if_pos hj]
    by_cases e : i = j
    · subst e
      rw [if_pos rfl]
      by_cases hlt : i < σ.length
      · rw [if_pos hlt, List.getElem?_eq_getElem hlt]
        rfl
      · rw [if_neg hlt, List.getElem?_eq_none (by omega)]
    · rw [if_neg e]
  · rw [if_neg hj, if_neg hj, if_neg (fun e : i = j => hj (e ▸ h))]
abbrev EndW (S : Sg) (F N : Hp) (vs : List Nat) (σ : L2.St) (P : Gm → Mem → Prop) : L2.St → Hp → Prop := fun σ' H' => wipe σ' vs = wipe σ vs ∧ ∃ Γ' μ', RelM S F N H' μ' ∧ RelS S (vis N H' (adr μ')) σ' Γ' ∧ P Γ' μ'
/-- a datum is stored in a target; only the slots vs change -/
def TgG (X : Cx) (S : Sg) (vs : List Nat) (tg : Expr) (d : D) (Γ : Gm) (μ : Mem) (P : Gm → Mem → Prop) : Prop :=
  ∀ F N σ H v, RelM S F N H μ → RelS S (vis N H (adr μ)) σ Γ → Rp S (vis N H (adr μ)) v d → GXt X tg v σ H (EndW S F N vs σ P)
theorem tg_name {i : Nat} {vs : List Nat} {P : Gm → Mem → Prop} (hv : i ∈ vs) (hN : X.N.Nodup) (hi : X.N[i]? = some x) (hx : Loc X.env.scope x) (k : P (Γ.set i (some d)) μ) (hf : X.fn x = true ∨ X.env.scope.names.lookup x = some .local := by first | exact .inl rfl | exact .inr rfl | assumption) :
    TgG X S vs (.Name x pos) d Γ μ P := fun F N σ H v r rs rv => gx_of (pg_name hN hi hx hf) ⟨wipe_set hv, _, μ, r, RelS.set rv i rs, k⟩
/-- several targets, from the left -/
def TgsG (X : Cx) (S : Sg) (ws : List Nat) (tgs : List Expr) (ds : List D) (Γ : Gm) (μ : Mem) (P : Gm → Mem → Prop) : Prop :=
  ∀ F N σ H vs, RelM S F N H μ → RelS S (vis N H (adr μ)) σ Γ → RpA S (vis N H (adr μ)) vs ds → ∃ t, PGs X tgs t ∧ t vs σ H (EndW S F N ws σ P)
theorem tgs_nil {ws : List Nat} {P : Gm → Mem → Prop} (k : P Γ μ) : TgsG X S ws [] [] Γ μ P := fun F N σ H vs r rs rv => by
  cases rv
  exact ⟨_, pgs_nil, rfl, rfl, Γ, μ, r, rs, k⟩
def GsXt (X : Cx) (tgs : List Expr) : TGs := fun vs σ H Q => ∀ (pins : List (Addr × Obj)) (s : Shared) (us : List Value), Inv X pins σ H s → Vals vs us →
    wpAny (model X.prog X.w) X.A (assignInOrder ((assignEach tgs X.env).map (·.2)) us) (fun _ s' => ∃ σ' H', Inv X pins σ' H' s' ∧ Q σ' H') X.xe s
theorem pgs_ex {tgs : List Expr} : PGs X tgs (GsXt X tgs) := ⟨fun pins s σ H vs us Q I r h => h pins s us I r⟩
theorem tgs_cons {ws : List Nat} {tg : Expr} {tgs : List Expr} {ds : List D} {P : Gm → Mem → Prop} (h : TgG X S ws tg d Γ μ fun Γ1 μ1 => TgsG X S ws tgs ds Γ1 μ1 P)
    (hs : (assignEach (tg :: tgs) X.env).map (·.2) = assign tg X.env :: (assignEach tgs X.env).map (·.2) := by rfl) : TgsG X S ws (tg :: tgs) (d :: ds) Γ μ P := fun F N σ H vs r rs rv => by
  cases rv with
  | @cons v vs _ _ h1 h2 =>
  refine ⟨_, pgs_cons pg_ex pgs_ex hs, v, vs, rfl, ?_⟩
  refine (h (vis N H (adr μ)) N σ H v r.top rs h1).mono fun σ1 H1 ⟨hw, Γ1, μ1, r1, rs1, q⟩ => ?_
  intro pins s us I rv'
  obtain ⟨t, ht, q⟩ := q F N σ1 H1 vs (r1.weakF r.ext) rs1 (h2.ext r1.ext)
  exact thn (ht.run pins s σ1 H1 vs us _ I rv' q) fun _ _ ⟨σ2, H2, I2, hw2, q2⟩ => ⟨σ2, H2, I2, hw2.trans hw, q2⟩
theorem tg_tup {ws : List Nat} {tgs : List Expr} {k : Nat} {ds : List D} {n : Nat} {P : Gm → Mem → Prop} (hK : X.K = S.K) (hc : X.calm = true) (h : TgsG X S ws tgs ds Γ μ P) (hl : ds.length = n)
    (hn : (assignEach tgs X.env).length = n := by rfl) (hst : (assignEach tgs X.env).findIdx? (·.1) = none := by rfl) : TgG X S ws (.Tuple tgs k pos) (.tup ds) Γ μ P := fun F N σ H v r rs rv => by
  cases rv with
  | @tup a xs _ ha hs =>
  obtain ⟨t, ht, q⟩ := h F N σ H xs r rs hs
  exact gx_of (pg_tup hc ht hn hst) ⟨a, xs, rfl, by rw [hK]; exact vis_le.t ha, by rw [hs.length, hl], q⟩
theorem st_asg {tg : Expr} (h : EvG X S e Γ μ fun d μ1 => TgG X S (List.range 64) tg d Γ μ1 E.nx) (hs : swapsWithSole [tg] e pos.line X.env = pure false := by rfl) (hw : swappedStores [tg] e X.env = pure none := by rfl)
    (h1 : (assignEach [tg] X.env).map (·.2) = [assign tg X.env] := by rfl) : StG X S (.Assign [tg] e pos) Γ μ E := by
  intro F N σ H r rs
  refine sx_of (ps_asg pe_ex pg_ex hs hw h1) (h.use r rs fun v H' d μ' r' rs' rv q => ?_)
  exact (q F N σ H' v (r'.weakF r.ext) rs' rv).mono fun _ _ z => z.2
theorem st_set {i : Nat} {pos' : Pos} (hN : X.N.Nodup) (hi : X.N[i]? = some x) (hx : Loc X.env.scope x) (h : EvG X S e Γ μ fun d μ1 => E.nx (Γ.set i (some d)) μ1)
    (hs : swapsWith e (some (.Name x pos')) pos.line X.env = pure false := by rfl) (hf : X.fn x = true ∨ X.env.scope.names.lookup x = some .local := by first | exact .inl rfl | exact .inr rfl | assumption) : StG X S (.Assign [.Name x pos'] e pos) Γ μ E := by
  intro F N σ H r rs
  refine sx_of (ps_set hN hi hx pe_ex hs hf) (h.use r rs fun v H' d μ' r' rs' rv q => ?_)
  exact ⟨_, μ', r'.weakF r.ext, RelS.set rv i rs', q⟩
/-- what is no more needed is forgotten; a list of the memory is left alone for good -/
theorem set_self {α : Type} : ∀ {l : List α} {i : Nat} {v : α}, l[i]? = some v → l.set i v = l
  | [], _, _, h => by simp at h
  | _ :: _, 0, _, h => by
    simp at h
    subst h
    rfl
  | a :: l, i + 1, v, h => by
    have := set_self (l := l) (i := i) (v := v) (by simpa using h)
    show a :: l.set i v = a :: l
    rw [this]
theorem RelS.frz {Hv : Hp} {i : Nat} {d : D} {σ : L2.St} {v : V} (hv : σ[i]? = some (some v)) (r : Rp S Hv v d) : ∀ {Γ : Gm}, RelS S Hv σ Γ → RelS S Hv σ (Γ.set i (some d)) := fun {Γ} rs => by
  have := RelS.set r i rs
  rw [set_self hv] at this
  exact this
end
end GL
namespace GL
open PySem L2 PySem.Spec PyProof.Rows
/-- what a loop walks: the data ds, as long as Km holds of the memory -/
def ItOk (S : Sg) (J : It) (Km : Mem → Prop) (ds : List D) (Fv : Hp) : Prop :=
  ∀ N i H2 μ2, RelM S Fv N H2 μ2 → Km μ2 → (ds.length ≤ i → J.stop i H2) ∧
    ∀ d, ds[i]? = some d → J.go i H2 ∧ ∀ x H', J.yld i H2 x H' → RelM S (vis N H2 (adr μ2)) N H' μ2 ∧ Rp S (vis N H' (adr μ2)) x d
abbrev RI := (Mem → Prop) → List D → Mem → Prop
def WkG (S : Sg) (wi : TI) (Γ : Gm) (μ : Mem) (R : RI) : Prop :=
  ∀ F N σ H, RelM S F N H μ → RelS S (vis N H (adr μ)) σ Γ → ∀ Rr : It → Hp → Prop,
    (∀ J H1 ds Km μ1, RelM S (vis N H (adr μ)) N H1 μ1 → RelS S (vis N H1 (adr μ1)) σ Γ → ItOk S J Km ds (vis N H1 (adr μ1)) → R Km ds μ1 → Rr J H1) → wi σ H Rr
def IterG (X : Cx) (S : Sg) (tg iter : Expr) (Γ : Gm) (μ : Mem) (R : RI) : Prop := ∃ wi, PI X tg iter wi ∧ WkG S wi Γ μ R
section
variable {X : Cx} {S : Sg} {tg iter : Expr} {body : List Stmt} {Γ : Gm} {μ : Mem} {pos : Pos} {E : EG}
theorem st_for (hp : PassesOwn (model X.prog X.w) X.A X.env X.xe) (hc : X.calm = true)
    (hi : IterG X S tg iter Γ μ fun Km ds μ1 => ∃ I : Nat → Gm → Mem → Prop, I 0 Γ μ1 ∧ (∀ i Γ' μ', I i Γ' μ' → Km μ') ∧
      (∀ i d Γ' μ', ds[i]? = some d → I i Γ' μ' → TgG X S (List.range 64) tg d Γ' μ' fun Γ2 μ2 => BlG X S body Γ2 μ2 { nx := I (i + 1), ct := I (i + 1), bk := E.nx, rt := E.rt }) ∧
      (∀ Γ' μ', I ds.length Γ' μ' → E.nx Γ' μ'))
    (hs : ∀ x, foldedSetIterable iter X.env x = pure x := by intro _; rfl) : StG X S (.For tg iter body [] pos) Γ μ E := by
  intro F N σ H r rs
  obtain ⟨wi, hpi, hw⟩ := hi
  refine sx_of (ps_for hp hc hpi pg_ex pss_ex hs) (hw F N σ H r rs _ fun J H1 ds Km μ1 r1 rs1 ok q => ?_)
  obtain ⟨I, i0, ik, it, ie⟩ := q
  have eF : Ex F (vis N H1 (adr μ1)) := r.ext.trans r1.ext
  refine ⟨fun i m σ' H' => m = ds.length - i ∧ i ≤ ds.length ∧ ∃ Γ' μ', RelM S (vis N H1 (adr μ1)) N H' μ' ∧ RelS S (vis N H' (adr μ')) σ' Γ' ∧ I i Γ' μ', ⟨_, rfl, Nat.zero_le _, Γ, μ1, r1.top, rs1, i0⟩, ?_⟩
  rintro i m σ' H' ⟨rfl, hi, Γ', μ', r', rs', hI⟩
  by_cases hlt : i < ds.length
  · obtain ⟨hgo, hy⟩ := (ok N i H' μ' r' (ik i Γ' μ' hI)).2 ds[i] (List.getElem?_eq_getElem hlt)
    refine .inr ⟨hgo, fun σ2 H2 => ∃ Γ2 μ2, RelM S (vis N H1 (adr μ1)) N H2 μ2 ∧ RelS S (vis N H2 (adr μ2)) σ2 Γ2 ∧ I (i + 1) Γ2 μ2, fun σ2 H2 ⟨Γ2, μ2, q⟩ => ⟨_, by omega, rfl, hlt, Γ2, μ2, q⟩, fun x H2 hx => ?_⟩
    obtain ⟨r2, rx⟩ := hy x H2 hx
    refine (it i _ Γ' μ' (List.getElem?_eq_getElem hlt) hI (vis N H1 (adr μ1)) N σ' H2 x (r2.weakF r'.ext) (RelS.ext r2.ext rs') rx).mono fun σ3 H3 ⟨_, Γ3, μ3, r3, rs3, hb⟩ => ?_
    intro pins s I0
    refine thn (hb (vis N H1 (adr μ1)) N σ3 H3 r3 rs3 pins s I0) fun f s' q => ?_
    cases f with
    | next => obtain ⟨σ4, H4, I4, q⟩ := q; exact ⟨σ4, H4, I4, q⟩
    | cont => obtain ⟨σ4, H4, I4, q⟩ := q; exact ⟨σ4, H4, I4, q⟩
    | brk =>
      obtain ⟨σ4, H4, I4, Γ4, μ4, r4, rs4, q⟩ := q
      exact ⟨σ4, H4, I4, Γ4, μ4, r4.weakF eF, rs4, q⟩
    | ret u =>
      obtain ⟨v, σ4, H4, I4, rv, d4, μ4, r4, rd4, q⟩ := q
      exact ⟨v, σ4, H4, I4, rv, d4, μ4, r4.weakF eF, rd4, q⟩
  · have e : i = ds.length := by omega
    subst e
    exact .inl ⟨(ok N _ H' μ' r' (ik _ Γ' μ' hI)).1 (Nat.le_refl _), Γ', μ', r'.weakF eF, rs', ie Γ' μ' hI⟩
/-! ### what is walked, by data -/
def IVt (X : Cx) (tg : Expr) : V → Hp → (It → Hp → Prop) → Prop := fun x H R => ∀ (pins : List (Addr × Obj)) (s : Shared) (σ : L2.St) (v : Value), Inv X pins σ H s → RelV x v → wpAny (model X.prog X.w) X.A (pyIter v) (PIE X pins σ tg R) X.xe s
/-- a datum is walked -/
def IterV (X : Cx) (S : Sg) (tg : Expr) (d : D) (μ : Mem) (R : RI) : Prop :=
  ∀ F N H x, RelM S F N H μ → Rp S (vis N H (adr μ)) x d → ∀ Rr : It → Hp → Prop,
    (∀ J H1 ds Km μ1, RelM S (vis N H (adr μ)) N H1 μ1 → ItOk S J Km ds (vis N H1 (adr μ1)) → R Km ds μ1 → Rr J H1) → IVt X tg x H Rr
theorem ig_val {R : RI} (h : EvG X S iter Γ μ fun d μ1 => IterV X S tg d μ1 R) : IterG X S tg iter Γ μ R := by
  refine ⟨fun σ H Rr => EXt X iter σ H fun x H1 => IVt X tg x H1 Rr, ⟨fun pins s σ H Rr I h => ?_⟩, fun F N σ H r rs Rr k => ?_⟩
  · exact thn (h pins s I) fun v s1 ⟨x, H1, I1, rx, q⟩ => q pins s1 σ v I1 rx
  · refine h.use r rs fun v H1 d μ1 r1 rs1 rd q => ?_
    refine q F N H1 v (r1.weakF r.ext) rd Rr fun J H2 ds Km μ2 r2 ok qR => ?_
    exact k J H2 ds Km μ2 (r2.weakF r1.ext) (RelS.ext r2.ext rs1) ok qR
theorem yld_l {K : PySem.W.Frag} {a : Addr} {i : Nat} {H H' : Hp} {x : V} {xs : List V} (h : (Itl K a).yld i H x H') (hx : SqL K H a xs) : H' = H ∧ xs[i]? = some x := ⟨h.1, h.2 xs hx⟩
theorem yld_t {K : PySem.W.Frag} {a : Addr} {i : Nat} {H H' : Hp} {x : V} {xs : List V} (h : (Itt K a).yld i H x H') (hx : SqT K H a xs) : H' = H ∧ xs[i]? = some x := ⟨h.1, h.2 xs hx⟩
theorem at_same {S : Sg} {Hv : Hp} {vs : List V} {ds : List D} {i : Nat} {v : V} {d : D} (r : RpA S Hv vs ds) (h1 : vs[i]? = some v) (h2 : ds[i]? = some d) : Rp S Hv v d := by
  obtain ⟨v', hv, rv⟩ := r.get h2
  rw [h1] at hv
  cases hv
  exact rv
theorem itok_l {S : Sg} {Fv : Hp} {a : Addr} {xs : List V} {l : List D} (h : SqL S.K Fv a xs) (hs : RpA S Fv xs l) : ItOk S (Itl S.K a) (fun _ => True) l Fv := by
  intro N i H2 μ2 r2 _
  have h2 : SqL S.K H2 a xs := r2.le.l h
  refine ⟨fun hi => ⟨xs, h2, by rw [hs.length]; exact hi⟩, fun d hd => ?_⟩
  obtain ⟨v, hv, rv⟩ := hs.get hd
  refine ⟨⟨xs, v, h2, hv⟩, fun x H' hy => ?_⟩
  obtain ⟨rfl, hx⟩ := yld_l hy h2
  rw [hv] at hx
  cases hx
  exact ⟨r2.top, rv.ext r2.ext⟩
theorem itok_t {S : Sg} {Fv : Hp} {a : Addr} {xs : List V} {l : List D} (h : SqT S.K Fv a xs) (hs : RpA S Fv xs l) : ItOk S (Itt S.K a) (fun _ => True) l Fv := by
  intro N i H2 μ2 r2 _
  have h2 : SqT S.K H2 a xs := r2.le.t h
  refine ⟨fun hi => ⟨xs, h2, by rw [hs.length]; exact hi⟩, fun d hd => ?_⟩
  obtain ⟨v, hv, rv⟩ := hs.get hd
  refine ⟨⟨xs, v, h2, hv⟩, fun x H' hy => ?_⟩
  obtain ⟨rfl, hx⟩ := yld_t hy h2
  rw [hv] at hx
  cases hx
  exact ⟨r2.top, rv.ext r2.ext⟩
theorem itok_m {S : Sg} {Fv : Hp} {a : Addr} {l : List D} : ItOk S (Itl S.K a) (fun μ' => (a, M.lst l) ∈ μ') l Fv := by
  intro N i H2 μ2 r2 hm
  obtain ⟨o, e, rm⟩ := r2.find hm
  cases rm with
  | @lst _ xs hs =>
  have h2 : SqL S.K H2 a xs := SqL.of e
  refine ⟨fun hi => ⟨xs, h2, by rw [hs.length]; exact hi⟩, fun d hd => ?_⟩
  obtain ⟨v, hv, rv⟩ := hs.get hd
  refine ⟨⟨xs, v, h2, hv⟩, fun x H' hy => ?_⟩
  obtain ⟨rfl, hx⟩ := yld_l hy h2
  rw [hv] at hx
  cases hx
  exact ⟨r2.top, rv⟩
theorem iv_sql {H : Hp} {a : Addr} {xs : List V} {Rr : It → Hp → Prop} (h : SqL X.K H a xs) (q : Rr (Itl X.K a) H) : IVt X tg (.ref a) H Rr := by
  intro pins s σ v I rx
  cases rx
  obtain ⟨its, rv, p, hz⟩ := I.list h
  refine wpAny_pyIter_list p.isList ?_
  have hf := I.hok.fresh (Nat.le_refl _)
  refine ⟨_, [s.heap.objs.size], _, _, H, rfl, I.kept (t' := s.toks) (fun b o e => Heap.get?_push_of_some _ e), turn_list a _, ⟨_, Heap.get?_push_size _ rfl, rfl, rfl⟩, ?_, q⟩
  intro b hb
  rw [List.mem_singleton.mp hb]
  exact I.fpOk (Nat.le_refl _) hf
theorem iv_sqt {H : Hp} {a : Addr} {xs : List V} {Rr : It → Hp → Prop} (h : SqT X.K H a xs) (q : Rr (Itt X.K a) H) : IVt X tg (.ref a) H Rr := by
  intro pins s σ v I rx
  cases rx
  obtain ⟨its, rv, p, hz⟩ := I.tuple h
  refine wpAny_pyIter_tuple (show s.heap.IsTuple a its.toArray from p) ?_
  have hf := I.hok.fresh (Nat.le_refl _)
  refine ⟨_, [s.heap.objs.size], _, _, H, rfl, I.kept (t' := s.toks) (fun b o e => Heap.get?_push_of_some _ e), turn_tuple a _, ⟨_, Heap.get?_push_size _ rfl, rfl, rfl⟩, ?_, q⟩
  intro b hb
  rw [List.mem_singleton.mp hb]
  exact I.fpOk (Nat.le_refl _) hf
variable {R : RI} {d : D}
theorem iv_lst (hK : X.K = S.K) {l : List D} (k : R (fun _ => True) l μ) : IterV X S tg (.lst l) μ R := by
  intro F N H x r rx Rr kk
  cases rx with
  | @lst a xs _ h hs =>
  have h' : SqL S.K (vis N H (adr μ)) a xs := SqL.of h
  refine iv_sql (xs := xs) (by rw [hK]; exact vis_le.l h') ?_
  rw [hK]
  exact kk _ H l _ μ r.top (itok_l h' hs) k
theorem iv_tup (hK : X.K = S.K) {l : List D} (k : R (fun _ => True) l μ) : IterV X S tg (.tup l) μ R := by
  intro F N H x r rx Rr kk
  cases rx with
  | @tup a xs _ h hs =>
  refine iv_sqt (xs := xs) (by rw [hK]; exact vis_le.t h) ?_
  rw [hK]
  exact kk _ H l _ μ r.top (itok_t h hs) k
theorem iv_mem (hK : X.K = S.K) {a : Addr} {l : List D} (hm : (a, M.lst l) ∈ μ) (k : R (fun μ' => (a, M.lst l) ∈ μ') l μ) : IterV X S tg (.ref a) μ R := by
  intro F N H x r rx Rr kk
  cases rx
  obtain ⟨o, e, rm⟩ := r.find hm
  cases rm with
  | @lst _ xs hs =>
  refine iv_sql (xs := xs) (SqL.of e) ?_
  rw [hK]
  exact kk _ H l _ μ r.top itok_m k
theorem iv_scr (hK : X.K = S.K) {ns : List Int} (k : R (fun _ => True) (ns.map D.int) μ) : IterV X S tg (.scr ns) μ R := by
  intro F N H x r rx Rr kk
  cases rx with
  | @scr a _ h =>
  refine iv_sql (by rw [hK]; exact vis_le.l h) ?_
  rw [hK]
  have hs : ∀ ns : List Int, RpA S (vis N H (adr μ)) (ns.map V.int) (ns.map D.int) := fun ns => by
    induction ns with
    | nil => exact .nil
    | cons n ns ih => exact .cons (.int n) ih
  exact kk _ H _ _ μ r.top (itok_l h (hs ns)) k
/-- range(n) -/
def rng (lo : Int) (n : Nat) : List D := (List.range n).map fun (i : Nat) => D.int (lo + (i : Int))
theorem rng_get {lo : Int} {n i : Nat} {d : D} (h : (rng lo n)[i]? = some d) : i < n ∧ d = .int (lo + i) := by
  unfold rng at h
  rw [List.getElem?_map] at h
  by_cases hi : i < n
  · rw [List.getElem?_range hi] at h
    simp at h
    exact ⟨hi, h.symm⟩
  · rw [List.getElem?_eq_none (by rw [List.length_range]; omega)] at h
    cases h
theorem rng_len {lo : Int} {n : Nat} : (rng lo n).length = n := by unfold rng; rw [List.length_map, List.length_range]
theorem itok_r {S : Sg} {Fv : Hp} {lo : Int} {n : Nat} : ItOk S (Itr lo n) (fun _ => True) (rng lo n) Fv := by
  intro N i H2 μ2 r2 _
  refine ⟨fun hi => by rw [rng_len] at hi; exact hi, fun d hd => ?_⟩
  obtain ⟨hi, rfl⟩ := rng_get hd
  refine ⟨hi, fun x H' hy => ?_⟩
  obtain ⟨rfl, rfl⟩ := hy
  exact ⟨r2.top, .int _⟩
theorem ig_range1 {a : Expr} {p : Pos} (hg : Gl X "range") (hm : X.mg "range" = none)
    (h : EvA X S [a] Γ μ fun ds μ1 => ∃ j : Int, ds = [.int j] ∧ (-(2 ^ 62) ≤ j ∧ j < 2 ^ 62) ∧ R (fun _ => True) (rng 0 j.toNat) μ1) (hs : starEach [a] X.env = [(false, eval a X.env)] := by rfl) :
    IterG X S tg (.Call (.Name "range" p) [a] [] pos) Γ μ R := by
  refine ⟨_, pi_range1 hg hm pa_ex hs, fun F N σ H r rs Rr k => ?_⟩
  refine h.use r rs fun vs H1 ds μ1 r1 rs1 rds q => ?_
  obtain ⟨j, rfl, ⟨j1, j2⟩, q⟩ := q
  cases rds with
  | cons h1 h2 =>
  cases h1
  cases h2
  exact ⟨j, rfl, j1, j2, k _ H1 _ _ μ1 r1 rs1 itok_r q⟩
theorem ig_range2 {a b : Expr} {p : Pos} (hg : Gl X "range") (hm : X.mg "range" = none)
    (h : EvA X S [a, b] Γ μ fun ds μ1 => ∃ i j : Int, ds = [.int i, .int j] ∧ (-(2 ^ 62) ≤ i ∧ i < 2 ^ 62 ∧ -(2 ^ 62) ≤ j ∧ j < 2 ^ 62) ∧ R (fun _ => True) (rng i (j - i).toNat) μ1)
    (hs : starEach [a, b] X.env = [(false, eval a X.env), (false, eval b X.env)] := by rfl) (hs2 : starEach [b] X.env = [(false, eval b X.env)] := by rfl) :
    IterG X S tg (.Call (.Name "range" p) [a, b] [] pos) Γ μ R := by
  refine ⟨_, pi_range2 hg hm pa_ex hs hs2, fun F N σ H r rs Rr k => ?_⟩
  refine h.use r rs fun vs H1 ds μ1 r1 rs1 rds q => ?_
  obtain ⟨i, j, rfl, hb, q⟩ := q
  cases rds with
  | cons h1 h2 =>
  cases h1
  cases h2 with
  | cons h1 h2 =>
  cases h1
  cases h2
  exact ⟨i, j, rfl, hb, k _ H1 _ _ μ1 r1 rs1 itok_r q⟩
end
end GL
namespace GL
open PySem L2 PySem.Spec PyProof.Rows
/-! ### an object that is hidden for a while -/
section
variable {S : Sg} {F N H : Hp} {μ : Mem} {p : Addr} {o o' : HO}
theorem RelM.hide (r : RelM S F N H μ) (hp : H p = none) : RelM S F (upd N p o) (upd H p o) μ ∧ vis (upd N p o) (upd H p o) (adr μ) = vis N H (adr μ) := by
  have hN := hid_new r hp
  have hA := adr_new r hp
  have ev : vis (upd N p o) (upd H p o) (adr μ) = vis N H (adr μ) := by
    funext b
    unfold vis
    by_cases hb : b = p
    · subst hb
      rw [if_pos (.inl (by rw [upd_same]; rfl)), hp]
      split <;> rfl
    · rw [upd_ne hb, upd_ne hb]
  refine ⟨⟨fun b u e => ?_, fun b hb => ?_, by rw [ev]; exact r.ext, r.nd, fun q hq => ?_⟩, ev⟩
  · by_cases hb : b = p
    · subst hb
      rw [upd_same] at e ⊢
      exact e
    · rw [upd_ne hb] at e ⊢
      exact r.hid b u e
  · rw [upd_ne (fun e => hA (by rw [← e]; exact hb))]
    exact r.dis b hb
  · obtain ⟨u, e, m⟩ := r.mem q hq
    exact ⟨u, by rw [upd_ne (ne_of_none e hp)]; exact e, by rw [ev]; exact m⟩
theorem RelM.rehide (r : RelM S F (upd N p o) H μ) : RelM S F (upd N p o') (upd H p o') μ ∧ vis (upd N p o') (upd H p o') (adr μ) = vis (upd N p o) H (adr μ) := by
  have hA : p ∉ adr μ := fun h => by
    have := r.dis p h
    rw [upd_same] at this
    cases this
  have ev : vis (upd N p o') (upd H p o') (adr μ) = vis (upd N p o) H (adr μ) := by
    funext b
    unfold vis
    by_cases hb : b = p
    · subst hb
      rw [if_pos (.inl (by rw [upd_same]; rfl)), if_pos (.inl (by rw [upd_same]; rfl))]
    · rw [upd_ne hb, upd_ne hb, upd_ne hb]
  refine ⟨⟨fun b u e => ?_, fun b hb => ?_, by rw [ev]; exact r.ext, r.nd, fun q hq => ?_⟩, ev⟩
  · by_cases hb : b = p
    · subst hb
      rw [upd_same] at e ⊢
      exact e
    · rw [upd_ne hb] at e ⊢
      exact r.hid b u (by rw [upd_ne hb]; exact e)
  · have h1 := r.dis b hb
    have hne : b ≠ p := fun e => hA (by rw [← e]; exact hb)
    rw [upd_ne hne] at h1 ⊢
    exact h1
  · obtain ⟨u, e, m⟩ := r.mem q hq
    have hne : q.1 ≠ p := fun z => hA (by rw [← z]; exact List.mem_map_of_mem hq)
    exact ⟨u, by rw [upd_ne hne]; exact e, by rw [ev]; exact m⟩
theorem RelM.unhide (r : RelM S F (upd N p o) H μ) (hN : N p = none) : RelM S F N H μ ∧ Ex (vis (upd N p o) H (adr μ)) (vis N H (adr μ)) ∧ vis N H (adr μ) p = some o := by
  have hA : p ∉ adr μ := fun h => by
    have := r.dis p h
    rw [upd_same] at this
    cases this
  have ev : Ex (vis (upd N p o) H (adr μ)) (vis N H (adr μ)) := fun b u e => by
    obtain ⟨h1, h2, h3⟩ := vis_in e
    refine vis_mk h3 ?_ h2
    by_cases hb : b = p
    · subst hb; exact hN
    · rw [upd_ne hb] at h1; exact h1
  refine ⟨⟨fun b u e => ?_, fun b hb => ?_, r.ext.trans ev, r.nd, fun q hq => ?_⟩, ev, vis_mk (r.hid p o upd_same) hN hA⟩
  · refine r.hid b u ?_
    rw [upd_ne (fun z => by rw [z, hN] at e; cases e)]
    exact e
  · have h1 := r.dis b hb
    rw [upd_ne (fun e => hA (by rw [← e]; exact hb))] at h1
    exact h1
  · obtain ⟨u, e, m⟩ := r.mem q hq
    exact ⟨u, e, m.ext ev⟩
end
/-! ### comprehensions -/
def wipeG (Γ : Gm) : List Nat → Gm
  | [] => Γ
  | v :: vs => (wipeG Γ vs).set v none
theorem RelS.setN {S : Sg} {Hv : Hp} : ∀ {σ : L2.St} {Γ : Gm} (i : Nat), RelS S Hv σ Γ → RelS S Hv (σ.set i none) (Γ.set i none)
  | _, _, _, .nil => .nil
  | _, _, 0, .cons _ t => .cons (fun d hd => by cases hd) t
  | _, _, i + 1, .cons h t => .cons h (RelS.setN i t)
theorem RelS.wipe {S : Sg} {Hv : Hp} {σ : L2.St} {Γ : Gm} (r : RelS S Hv σ Γ) : ∀ vs : List Nat, RelS S Hv (L2.wipe σ vs) (wipeG Γ vs)
  | [] => r
  | v :: vs => RelS.setN v (RelS.wipe r vs)
/-- the tests of a comprehension -/
def TsXt (X : Cx) (ifs : List Expr) : TT := fun σ H Q => ∃ t Q0, PTs X ifs t ∧ t σ H Q0 ∧ ∀ b H', Q0 b H' → Q b H'
def TsG (X : Cx) (S : Sg) (ifs : List Expr) (Γ : Gm) (μ : Mem) (T : Bool → Mem → Prop) : Prop :=
  ∀ F N σ H, RelM S F N H μ → RelS S (vis N H (adr μ)) σ Γ → ∃ t, PTs X ifs t ∧ t σ H (EndT S F N T)
theorem ts_nil {X : Cx} {S : Sg} {Γ : Gm} {μ : Mem} {T : Bool → Mem → Prop} (k : T true μ) : TsG X S [] Γ μ T := fun F N σ H r rs => ⟨_, pts_nil, μ, r, k⟩
theorem ts_one {X : Cx} {S : Sg} {c : Expr} {Γ : Gm} {μ : Mem} {T : Bool → Mem → Prop} (h : EvT X S c Γ μ T) : TsG X S [c] Γ μ T := fun F N σ H r rs => ⟨_, pts_one pt_ex, h F N σ H r rs⟩
theorem pts_ex {X : Cx} {ifs : List Expr} : PTs X ifs (TsXt X ifs) := ⟨fun pins s σ H Q I h => by
  obtain ⟨t, Q0, ht, q, m⟩ := h
  exact thn (ht.run pins s σ H Q0 I q) fun b s' ⟨H', I', q'⟩ => ⟨H', I', m _ _ q'⟩⟩
/-- where the block of a comprehension runs -/
structure Bk where
  s : Shared
  H : Hp
  C : Addr
  cl : List (Str × Addr)
  fp : List Addr
abbrev Bk.cx (k : Bk) (X : Cx) (scope : Scope) : Cx := X.blk k.s k.H scope (compEnvC scope k.cl k.C X.env) k.fp
/-- a comprehension's turns, over the data -/
def LcG (X : Cx) (S : Sg) (tg elt : Expr) (ifs : List Expr) (scope : Scope) (vs : List Nat) (Γ : Gm) (Km : Mem → Prop) (ds : List D) (μ1 : Mem) (Q : List D → Mem → Prop) : Prop :=
  ∃ I : Nat → List D → Mem → Prop, I 0 [] μ1 ∧ (∀ i acc μ', I i acc μ' → Km μ') ∧
    (∀ i d acc μ', ds[i]? = some d → I i acc μ' → ∀ k : Bk,
      TgG (k.cx X scope) S vs tg d (wipeG Γ vs) μ' fun Γ2 μ2 => ∀ k : Bk, TsG (k.cx X scope) S ifs Γ2 μ2 fun b μ3 =>
          (b = true → ∀ k : Bk, EvG (k.cx X scope) S elt Γ2 μ3 fun y μ4 => acc.length < 16777216 ∧ I (i + 1) (acc ++ [y]) μ4) ∧ (b = false → I (i + 1) acc μ3)) ∧
    (∀ acc μ', I ds.length acc μ' → Q acc μ')
def lcT (X : Cx) (scope : Scope) (ifs : List Expr) : TT := fun σ H Q => ∀ k : Bk, TsXt (k.cx X scope) ifs σ H Q
def lcE (X : Cx) (scope : Scope) (elt : Expr) : TE := fun σ H Q => ∀ k : Bk, EXt (k.cx X scope) elt σ H Q
def lcT' (X : Cx) (scope : Scope) (tg : Expr) : TG := fun v σ H Q => ∀ k : Bk, GXt (k.cx X scope) tg v σ H Q
section
variable {X : Cx} {S : Sg} {tg iter elt : Expr} {ifs : List Expr} {scope : Scope} {own : List (Str × Nat)} {Γ : Gm} {μ : Mem} {pos : Pos}
theorem lc_sem {Qv : VK} {F N H : Hp} {σ : L2.St} {wi : TI} {vs : List Nat} {Q : List D → Mem → Prop}
    (hw : WkG S wi Γ μ fun Km ds μ1 => LcG X S tg elt ifs scope vs Γ Km ds μ1 Q)
    (r : RelM S F N H μ) (rs : RelS S (vis N H (adr μ)) σ Γ) (k : ∀ p H' acc μ', RelM S (vis N H (adr μ)) N H' μ' → RelS S (vis N H' (adr μ')) σ Γ → Rp S (vis N H' (adr μ')) (.ref p) (.lst acc) → Q acc μ' → Qv (.ref p) H') :
    tLc wi (lcT' X scope tg) (lcT X scope ifs) (lcE X scope elt) vs σ H Qv := by
  refine hw F N σ H r rs _ fun J H1 ds Km μ1 r1 rs1 ok q => ?_
  obtain ⟨I, i0, ik, it, ie⟩ := q
  intro p hp
  have hNp : N p = none := hid_new r1 hp
  have ww : wipe (wipe σ vs) vs = wipe σ vs := List.ext_getElem? fun j => by
    rw [wipe_at]
    by_cases hj : j ∈ vs
    · rw [if_pos hj, wipe_at, if_pos hj]
      cases σ[j]? <;> rfl
    · rw [if_neg hj]
  refine ⟨fun i m H' => m = ds.length - i ∧ i ≤ ds.length ∧ ∃ xs acc μ', RelM S (vis N H1 (adr μ1)) (upd N p (.lst xs)) H' μ' ∧ RpA S (vis (upd N p (.lst xs)) H' (adr μ')) xs acc ∧ I i acc μ', ⟨_, rfl, Nat.zero_le _, [], [], μ1, (r1.top.hide hp).1, .nil, i0⟩, ?_⟩
  rintro i m H' ⟨rfl, hi, xs, acc, μ', r', ra, hI⟩
  by_cases hlt : i < ds.length
  · have hd : ds[i]? = some ds[i] := List.getElem?_eq_getElem hlt
    obtain ⟨hgo, hy⟩ := (ok _ i H' μ' r' (ik i acc μ' hI)).2 ds[i] hd
    refine .inr ⟨hgo, fun H2 => ∃ xs acc μ2, RelM S (vis N H1 (adr μ1)) (upd N p (.lst xs)) H2 μ2 ∧ RpA S (vis (upd N p (.lst xs)) H2 (adr μ2)) xs acc ∧ I (i + 1) acc μ2, fun H2 q => ⟨_, by omega, rfl, hlt, q⟩, fun x H2 hx => ?_⟩
    obtain ⟨r2, rx⟩ := hy x H2 hx
    intro kb
    have rw2 : RelS S (vis (upd N p (.lst xs)) H2 (adr μ')) (wipe σ vs) (wipeG Γ vs) := RelS.ext (r'.ext.trans r2.ext) (RelS.wipe rs1 vs)
    refine (it i _ acc μ' hd hI kb _ _ (wipe σ vs) H2 x r2 rw2 rx).mono fun σ3 H3 ⟨hws, Γ3, μ3, r3, rs3, hb⟩ => ⟨by rw [hws, ww], ?_⟩
    intro kt
    obtain ⟨t, ht, qt⟩ := hb kt _ _ σ3 H3 r3.top rs3
    refine ⟨t, _, ht, qt, fun b H4 q4 => ?_⟩
    obtain ⟨μ4, r4, q5, q6⟩ := q4
    have ra4 : RpA S (vis (upd N p (.lst xs)) H4 (adr μ4)) xs acc := ra.ext (r3.ext.trans r4.ext)
    cases b with
    | false => exact ⟨xs, acc, μ4, r4.weakF (r'.ext.trans r3.ext), ra4, q6 rfl⟩
    | true =>
      rw [if_pos rfl]
      intro ke
      refine (q5 rfl ke).use r4 (RelS.ext r4.ext rs3) fun y H5 dy μ5 r5 rs5 ry q7 => ?_
      have hz : xs.length = acc.length := ra.length
      refine ⟨xs, r5.hid p _ upd_same, by rw [sizeLine_eq, hz]; exact q7.1, xs ++ [y], acc ++ [dy], μ5, ?_⟩
      obtain ⟨r6, ev⟩ := (r5.weakF ((r'.ext.trans r3.ext).trans r4.ext)).rehide (o' := .lst (xs ++ [y]))
      refine ⟨r6, ?_, q7.2⟩
      rw [ev]
      exact (ra4.ext r5.ext).append (.cons ry .nil)
  · have e : i = ds.length := by omega
    subst e
    obtain ⟨u1, u2, u3⟩ := r'.unhide hNp
    refine .inl ⟨(ok _ _ H' μ' r' (ik _ acc μ' hI)).1 (Nat.le_refl _), k p H' acc μ' (u1.weakF r1.ext) (RelS.ext (r'.ext.trans u2) rs1) (.lst u3 (ra.ext u2)) (ie acc μ' hI)⟩
theorem ev_lc {Q : QD} {vs : List Nat} (hc : X.calm = true) (hN : X.N.Nodup) (ok : BlkOk X.N X.env.scope scope own) (hvs : own.map (·.2) = vs) (hi : IterG X S tg iter Γ μ fun Km ds μ1 => LcG X S tg elt ifs scope vs Γ Km ds μ1 fun acc μ' => Q (.lst acc) μ')
    (hs : ∀ x, foldedSetIterable iter X.env x = pure x := by intro _; rfl) : EvG X S (.ListComp elt [⟨tg, iter, ifs, 0⟩] scope pos) Γ μ Q := by
  intro F N σ H r rs
  obtain ⟨wi, hpi, hw⟩ := hi
  subst hvs
  refine ex_of (pe_lc hc hN hpi ok (g := lcT' X scope tg) (tt := lcT X scope ifs) (te := lcE X scope elt) (fun s H C cl fp => ⟨fun pins s' σ H' v u Q' I rv h => (h ⟨s, H, C, cl, fp⟩) pins s' u I rv⟩) (fun s H C cl fp => ⟨fun pins s' σ H' Q' I h => pts_ex.run pins s' σ H' Q' I (h ⟨s, H, C, cl, fp⟩)⟩) (fun s H C cl fp => ⟨fun pins s' σ H' Q' I h => (h ⟨s, H, C, cl, fp⟩) pins s' I⟩) hs) ?_
  exact lc_sem hw r rs fun p H' acc μ' r' _ rp q => ⟨_, μ', r'.weakF r.ext, rp, q⟩
theorem st_setLc {E : EG} {i : Nat} {y : Str} {py spos : Pos} {vs : List Nat} (hc : X.calm = true) (hN : X.N.Nodup) (hy : X.N[i]? = some y) (hyl : X.env.scope.names.lookup y = some .local)
    (hsw : swapsWith (.ListComp elt [⟨tg, iter, ifs, 0⟩] scope pos) (some (.Name y py)) spos.line X.env = pure true) (ok : BlkOk X.N X.env.scope scope own) (hvs : own.map (·.2) = vs)
    (hi : IterG X S tg iter Γ μ fun Km ds μ1 => LcG X S tg elt ifs scope vs Γ Km ds μ1 fun acc μ' => E.nx (Γ.set i (some (.lst acc))) μ') (hs : ∀ x, foldedSetIterable iter X.env x = pure x := by intro _; rfl) :
    StG X S (.Assign [.Name y py] (.ListComp elt [⟨tg, iter, ifs, 0⟩] scope pos) spos) Γ μ E := by
  intro F N σ H r rs
  obtain ⟨wi, hpi, hw⟩ := hi
  subst hvs
  refine sx_of (ps_setLc hc hN hy hyl hsw hpi ok (g := lcT' X scope tg) (tt := lcT X scope ifs) (te := lcE X scope elt) (fun s H C cl fp => ⟨fun pins s' σ H' v u Q' I rv h => (h ⟨s, H, C, cl, fp⟩) pins s' u I rv⟩) (fun s H C cl fp => ⟨fun pins s' σ H' Q' I h => pts_ex.run pins s' σ H' Q' I (h ⟨s, H, C, cl, fp⟩)⟩) (fun s H C cl fp => ⟨fun pins s' σ H' Q' I h => (h ⟨s, H, C, cl, fp⟩) pins s' I⟩) hs) ?_
  exact lc_sem hw r rs fun p H' acc μ' r' rs' rp q => ⟨_, μ', r'.weakF r.ext, RelS.set rp i rs', q⟩
end
end GL
namespace GL
open PySem L2 PySem.Spec PyProof.Rows
/-! ### calls of built-ins -/
section
variable {X : Cx} {S : Sg} {a b e o : Expr} {es : List Expr} {Γ : Gm} {μ : Mem} {Q : QD} {x : Str} {pos p apos : Pos} {d : D}
theorem ev_callB {id : String} (hg : Gl X x) (hm : X.mg x = none) (hv : bootBuiltins x = some (.builtin id)) (h : EvA X S (e :: es) Γ μ fun ds μ1 => CallG X S (.builtin id) ds μ1 Q) (hn : x ≠ "__name__" := by decide) (hdb : (x == ("__debug__" : Str)) = false := by decide)
    (he : starEach (e :: es) X.env = (false, eval e X.env) :: starEach es X.env := by rfl) (hpl : (backTo pos (starEach es X.env)).any (·.1) = false := by rfl) : EvG X S (.Call (.Name x p) (e :: es) [] pos) Γ μ Q := by
  intro F N σ H r rs
  refine ex_of (pe_callB cpr_self hg hm hv pa_ex hn hdb he hpl) (h.use r rs fun vs H1 ds μ1 r1 rs1 rds q => ?_)
  exact q F N H1 vs (r1.weakF r.ext) rds
theorem ev_callTy {T : String} (hg : Gl X x) (hm : X.mg x = none) (hv : bootBuiltins x = some (.type T)) (h : EvA X S (e :: es) Γ μ fun ds μ1 => CallG X S (.type T) ds μ1 Q) (hn : x ≠ "__name__" := by decide) (hdb : (x == ("__debug__" : Str)) = false := by decide)
    (he : starEach (e :: es) X.env = (false, eval e X.env) :: starEach es X.env := by rfl) (hpl : (backTo pos (starEach es X.env)).any (·.1) = false := by rfl) : EvG X S (.Call (.Name x p) (e :: es) [] pos) Γ μ Q := by
  intro F N σ H r rs
  refine ex_of (pe_callTy cpr_self hg hm hv pa_ex hn hdb he hpl) (h.use r rs fun vs H1 ds μ1 r1 rs1 rds q => ?_)
  exact q F N H1 vs (r1.weakF r.ext) rds
theorem RpA.one {S : Sg} {H : Hp} {vs : List V} {d : D} (h : RpA S H vs [d]) : ∃ v, vs = [v] ∧ Rp S H v d := by
  cases h with
  | cons h t =>
  cases t
  exact ⟨_, rfl, h⟩
theorem RpA.two {S : Sg} {H : Hp} {vs : List V} {d e : D} (h : RpA S H vs [d, e]) : ∃ v w, vs = [v, w] ∧ Rp S H v d ∧ Rp S H w e := by
  cases h with
  | cons h t =>
  obtain ⟨w, rfl, r⟩ := t.one
  exact ⟨_, _, rfl, h, r⟩
/-- a list or a tuple as a sequence -/
theorem sq_at {F N H : Hp} {l : List D} {v : V} (hK : X.K = S.K) (h : DrfT μ d l) (r : RelM S F N H μ) (rv : Rp S (vis N H (adr μ)) v d) : ∃ a xs, v = .ref a ∧ (SqL X.K H a xs ∨ SqT X.K H a xs) ∧ RpA S (vis N H (adr μ)) xs l := by
  cases h with
  | l h =>
    obtain ⟨a, xs, rfl, ha, hs⟩ := h.at r rv
    exact ⟨a, xs, rfl, .inl (SqL.of ha), hs⟩
  | t l =>
    cases rv with
    | @tup a xs _ ha hs => exact ⟨a, xs, rfl, .inr (by rw [hK]; exact vis_le.t ha), hs⟩
theorem cg_len {l : List D} (hK : X.K = S.K) (h : DrfT μ d l) (k : Q (.int (l.length : Int)) μ) : CallG X S (.builtin "len") [d] μ Q := fun F N H xs r rq => by
  obtain ⟨v, rfl, rv⟩ := rq.one
  obtain ⟨a, ys, rfl, hq, hs⟩ := sq_at hK h r rv
  exact cp_of call_len_seq ⟨a, ys, rfl, hq, _, μ, r, by rw [hs.length]; exact .int _, k⟩
theorem cg_lenS {z : Str} (hz : z.length ≤ 16777216) (k : Q (.int (z.length : Int)) μ) : CallG X S (.builtin "len") [.str z] μ Q := fun F N H xs r rq => by
  obtain ⟨v, rfl, rv⟩ := rq.one
  cases rv
  exact cp_of call_len_str ⟨z, rfl, by rw [sizeLine_eq]; exact hz, _, μ, r, .int _, k⟩
theorem cg_lenScr {ns : List Int} (hK : X.K = S.K) (k : Q (.int (ns.length : Int)) μ) : CallG X S (.builtin "len") [.scr ns] μ Q := fun F N H xs r rq => by
  obtain ⟨v, rfl, rv⟩ := rq.one
  cases rv with
  | scr h =>
  exact cp_of call_len_seq ⟨_, _, rfl, .inl (by rw [hK]; exact vis_le.l h), _, μ, r, by rw [List.length_map]; exact .int _, k⟩
theorem bls_of {Hv : Hp} : ∀ {bs : List Bool} {vs : List V}, RpA S Hv vs (bs.map D.bl) → vs = bs.map V.bl
  | [], _, h => by cases h; rfl
  | _ :: _, _, h => by
    cases h with
    | cons h t =>
    cases h
    rw [bls_of t]
    rfl
theorem ints_of {Hv : Hp} : ∀ {ns : List Int} {vs : List V}, RpA S Hv vs (ns.map D.int) → vs = ns.map V.int
  | [], _, h => by cases h; rfl
  | _ :: _, _, h => by
    cases h with
    | cons h t =>
    cases h
    rw [ints_of t]
    rfl
theorem cg_all {bs : List Bool} (hc : X.calm = true) (h : Drf μ d (bs.map D.bl)) (k : Q (.bl (bs.all id)) μ) : CallG X S (.builtin "all") [d] μ Q := fun F N H xs r rq => by
  obtain ⟨v, rfl, rv⟩ := rq.one
  obtain ⟨a, ys, rfl, ha, hs⟩ := h.at r rv
  exact cp_of (cr_all hc) ⟨a, bs, rfl, by rw [← bls_of hs]; exact SqL.of ha, _, μ, r, .bl _, k⟩
theorem cg_any {bs : List Bool} (hc : X.calm = true) (h : Drf μ d (bs.map D.bl)) (k : Q (.bl (bs.any id)) μ) : CallG X S (.builtin "any") [d] μ Q := fun F N H xs r rq => by
  obtain ⟨v, rfl, rv⟩ := rq.one
  obtain ⟨a, ys, rfl, ha, hs⟩ := h.at r rv
  exact cp_of (cr_any hc) ⟨a, bs, rfl, by rw [← bls_of hs]; exact SqL.of ha, _, μ, r, .bl _, k⟩
theorem cg_sum {ns : List Int} (hc : X.calm = true) (h : Drf μ d (ns.map D.int)) (k : Q (.int ns.sum) μ) : CallG X S (.builtin "sum") [d] μ Q := fun F N H xs r rq => by
  obtain ⟨v, rfl, rv⟩ := rq.one
  obtain ⟨a, ys, rfl, ha, hs⟩ := h.at r rv
  exact cp_of (cr_sum hc) ⟨a, ns, rfl, by rw [← ints_of hs]; exact SqL.of ha, _, μ, r, .int _, k⟩
theorem cg_list {l : List D} (hK : X.K = S.K) (h : DrfT μ d l) (k : Q (.lst l) μ) : CallG X S (.type "list") [d] μ Q := fun F N H xs r rq => by
  obtain ⟨v, rfl, rv⟩ := rq.one
  obtain ⟨a, ys, rfl, hq, hs⟩ := sq_at hK h r rv
  refine cp_of call_list_of ⟨a, ys, rfl, hq, fun p hp => ?_⟩
  exact ⟨_, μ, r.alloc hp, .lst (alloc_at r hp) (hs.ext (vis_new r hp)), k⟩
/-- list(xs), to be changed -/
theorem cg_listM {l : List D} (hK : X.K = S.K) (h : DrfT μ d l) (k : ∀ p, p ∉ adr μ → Q (.ref p) ((p, .lst l) :: μ)) : CallG X S (.type "list") [d] μ Q := fun F N H xs r rq => by
  obtain ⟨v, rfl, rv⟩ := rq.one
  obtain ⟨a, ys, rfl, hq, hs⟩ := sq_at hK h r rv
  refine cp_of call_list_of ⟨a, ys, rfl, hq, fun p hp => ?_⟩
  exact ⟨_, _, r.allocM hp (.lst hs), .ref p, k p (adr_new r hp)⟩
theorem cg_tuple {l : List D} (hK : X.K = S.K) (h : DrfT μ d l) (k : Q (.tup l) μ) : CallG X S (.type "tuple") [d] μ Q := fun F N H xs r rq => by
  obtain ⟨v, rfl, rv⟩ := rq.one
  cases h with
  | l h =>
    obtain ⟨a, ys, rfl, ha, hs⟩ := h.at r rv
    refine cp_of call_tuple_of ⟨a, ys, rfl, .inl ⟨SqL.of ha, fun p hp => ?_⟩⟩
    exact ⟨_, μ, r.alloc hp, .tup (SqT.of (alloc_at r hp)) (hs.ext (vis_new r hp)), k⟩
  | t l =>
    cases rv with
    | @tup a ys _ ha hs => exact cp_of call_tuple_of ⟨a, ys, rfl, .inr ⟨by rw [hK]; exact vis_le.t ha, _, μ, r, .tup ha hs, k⟩⟩
theorem cg_int {i : Int} (k : Q (.int i) μ) : CallG X S (.type "int") [.int i] μ Q := fun F N H xs r rq => by
  obtain ⟨v, rfl, rv⟩ := rq.one
  cases rv
  exact cp_of call_int1 (.inl ⟨i, rfl, _, μ, r, .int _, k⟩)
theorem cg_intB {i : Bool} (k : Q (.int (if i then 1 else 0)) μ) : CallG X S (.type "int") [.bl i] μ Q := fun F N H xs r rq => by
  obtain ⟨v, rfl, rv⟩ := rq.one
  cases rv
  exact cp_of call_int1 (.inr ⟨i, rfl, _, μ, r, .int _, k⟩)
/-! ### isinstance -/
/-- what the text says of a class, for isinstance -/
structure IsC (K : PySem.W.Frag) (C : Addr) : Prop where
  cl : Cls K C
  ha : PySem.W.findIn K (.ref C) "__class__" = some (some (.builtin "object.__class__"))
  hn : PySem.W.specialIn K (.builtin "object.__class__") "__get__" = some (some (.builtin "getset_descriptor.__get__"))
  htk : PySem.W.takesIn K (.builtin "object.__class__") = some true
  hm : PySem.W.mroIn K C (.type "object") = some true
inductive TyD (S : Sg) (μ : Mem) : D → Value → Prop
  | non : TyD S μ .non (.type "NoneType")
  | bl (b : Bool) : TyD S μ (.bl b) (.type "bool")
  | int (i : Int) : TyD S μ (.int i) (.type "int")
  | str (x : Str) : TyD S μ (.str x) (.type "str")
  | lst {d : D} {l : List D} : Drf μ d l → TyD S μ d (.type "list")
  | tup (l : List D) : TyD S μ (.tup l) (.type "tuple")
  | obj {c : Nat} {l : List D} : IsC S.K (S.cls c) → TyD S μ (.obj c l) (.ref (S.cls c))
  | ins {a C : Addr} {fs : List (Str × D)} : IsC S.K C → (a, M.ins C fs) ∈ μ → TyD S μ (.ref a) (.ref C)
theorem TyD.at {F N H : Hp} {v : V} {t : Value} (h : TyD S μ d t) (r : RelM S F N H μ) (rv : Rp S (vis N H (adr μ)) v d) : TyX S.K H v t := by
  cases h with
  | non => cases rv; exact .base .non
  | bl => cases rv; exact .base (.bl _)
  | int => cases rv; exact .base (.int _)
  | str => cases rv; exact .base (.str _)
  | lst h =>
    obtain ⟨a, xs, rfl, ha, _⟩ := h.at r rv
    exact .base (.lst ha)
  | tup =>
    cases rv with
    | @tup a xs _ ha hs =>
    rcases vis_le.t ha with ha | ⟨o, its, n, ha, hc, _⟩
    · rcases ha with ha | ⟨o, ha⟩
      · exact .base (.tup ha)
      · exact .fTuple ha
    · exact .kTuple ha hc
  | obj c =>
    cases rv with
    | obj ha _ _ => exact .base (.ins (vis_le _ _ ha) c.cl c.ha c.hn c.htk c.hm)
  | ins c hm =>
    cases rv
    obtain ⟨o, e, rm⟩ := r.find hm
    cases rm with
    | ins h => exact .base (.ins e c.cl c.ha c.hn c.htk c.hm)
theorem cg_isi {C : Addr} {t : Value} {b : Bool} (hK : X.K = S.K) (ty : TyD S μ d t) (e : PySem.W.kitOne S.K t (.ref C) = some b) (k : Q (.bl b) μ) : CallG X S (.builtin "isinstance") [d, .ref C] μ Q := fun F N H xs r rq => by
  obtain ⟨v, w, rfl, rv, rw'⟩ := rq.two
  cases rw'
  exact cp_of call_isi ⟨v, .ref C, t, .ref C, b, rfl, .own C, by rw [hK]; exact ty.at r rv, by rw [hK]; exact e, _, μ, r, .bl _, k⟩
theorem cg_isiT {n : String} {t : Value} {b : Bool} (hK : X.K = S.K) (ty : TyD S μ d t) (e : PySem.W.kitOne S.K t (.type n) = some b) (k : Q (.bl b) μ) : CallG X S (.builtin "isinstance") [d, .ty n] μ Q := fun F N H xs r rq => by
  obtain ⟨v, w, rfl, rv, rw'⟩ := rq.two
  cases rw'
  exact cp_of call_isi ⟨v, .ty n, t, .type n, b, rfl, .ty n, by rw [hK]; exact ty.at r rv, by rw [hK]; exact e, _, μ, r, .bl _, k⟩
/-! ### items, slices -/
def IXt (X : Cx) : R2 := fun x y H Q => ∃ r : R2, IxR X r ∧ ∃ Q0 : VK, r x y H Q0 ∧ ∀ v H', Q0 v H' → Q v H'
theorem ixr_self : IxR X (IXt X) := by
  intro va sl pins s σ H x y v u Q I rx ry h hs
  obtain ⟨r, hr, Q0, q, m⟩ := h
  exact thn (hr va sl pins s σ H x y v u Q0 I rx ry q hs) fun _ _ ⟨z, H', I', rz, q⟩ => ⟨z, H', I', rz, m _ _ q⟩
/-- d[e], by data -/
def IxG (X : Cx) (S : Sg) (d1 d2 : D) (μ : Mem) (Q : QD) : Prop :=
  ∀ F N H x y, RelM S F N H μ → Rp S (vis N H (adr μ)) x d1 → Rp S (vis N H (adr μ)) y d2 → IXt X x y H (EndE S F N Q)
theorem ev_ix (hs : PlainIx b) (h : EvG X S a Γ μ fun d1 μ1 => EvG X S b Γ μ1 fun d2 μ2 => IxG X S d1 d2 μ2 Q) : EvG X S (.Subscript a b pos) Γ μ Q := by
  intro F N σ H r rs
  refine ex_of (pe_ix ixr_self pe_ex pe_ex hs) ?_
  refine h.use r rs fun x H1 d1 μ1 r1 rs1 rx hb => ?_
  refine hb.use r1 rs1 fun y H2 d2 μ2 r2 rs2 ry ho => ?_
  exact ho F N H2 x y (r2.weakF (r.ext.trans r1.ext)) (rx.ext r2.ext) ry
theorem RpA.atI {S : Sg} {Hv : Hp} {vs : List V} {ds : List D} {i : Int} {d : D} (r : RpA S Hv vs ds) (h : L2.atI ds i = some d) : ∃ v, L2.atI vs i = some v ∧ Rp S Hv v d := by
  unfold L2.atI at h ⊢
  rw [r.length]
  cases e : ixN ds.length i with
  | none => rw [e] at h; cases h
  | some j =>
    rw [e] at h
    exact r.get h
theorem ig_l {l : List D} {i : Int} {y : D} (h : Drf μ d l) (hi : atI l i = some y) (k : Q y μ) : IxG X S d (.int i) μ Q := fun F N H u v r ru rv => by
  cases rv
  obtain ⟨a, xs, rfl, ha, hs⟩ := h.at r ru
  obtain ⟨w, hw, rw'⟩ := hs.atI hi
  exact ⟨_, ix_list, EndE S F N Q, ⟨a, xs, i, w, rfl, rfl, SqL.of ha, hw, y, μ, r, rw', k⟩, fun _ _ q => q⟩
theorem ig_t {l : List D} {i : Int} {y : D} (hK : X.K = S.K) (hi : atI l i = some y) (k : Q y μ) : IxG X S (.tup l) (.int i) μ Q := fun F N H u v r ru rv => by
  cases rv
  cases ru with
  | @tup a xs _ ha hs =>
  obtain ⟨w, hw, rw'⟩ := hs.atI hi
  exact ⟨_, ix_tup, EndE S F N Q, ⟨a, xs, i, w, rfl, rfl, by rw [hK]; exact vis_le.t ha, hw, y, μ, r, rw', k⟩, fun _ _ q => q⟩
theorem ig_s {z : Str} {i : Int} {c : Nat} (hz : z.length ≤ 16777216) (hi : atI z.cps.toList i = some c) (k : Q (.str ⟨#[c]⟩) μ) : IxG X S (.str z) (.int i) μ Q := fun F N H u v r ru rv => by
  cases rv
  cases ru
  exact ⟨_, ix_str, EndE S F N Q, ⟨z, i, c, rfl, rfl, by rw [sizeLine_eq]; exact hz, hi, _, μ, r, .str _, k⟩, fun _ _ q => q⟩
theorem ig_scr {ns : List Int} {i y : Int} (hK : X.K = S.K) (hi : atI ns i = some y) (k : Q (.int y) μ) : IxG X S (.scr ns) (.int i) μ Q := fun F N H u v r ru rv => by
  cases rv
  cases ru with
  | @scr a _ ha =>
  have hi' : atI (ns.map V.int) i = some (.int y) := by
    unfold atI at hi ⊢
    rw [List.length_map]
    cases e : ixN ns.length i with
    | none => rw [e] at hi; cases hi
    | some j =>
      rw [e] at hi
      have hi : ns[j]? = some y := hi
      show (ns.map V.int)[j]? = _
      rw [List.getElem?_map, hi]
      rfl
  exact ⟨_, ix_list, EndE S F N Q, ⟨a, _, i, _, rfl, rfl, by rw [hK]; exact vis_le.l ha, hi', _, μ, r, .int _, k⟩, fun _ _ q => q⟩
def cutD (l : List D) (lo hi : Option Int) : List D := (l.drop (HT.sIx l.length 0 lo)).take (HT.sIx l.length l.length hi - HT.sIx l.length 0 lo)
theorem RpA.cut {S : Sg} {Hv : Hp} {vs : List V} {ds : List D} {lo hi : Option Int} (r : RpA S Hv vs ds) : RpA S Hv (cutV vs lo hi) (cutD ds lo hi) := by
  unfold cutV cutD
  rw [r.length]
  exact (r.drop _).take _
/-- one end of a slice -/
def PoG (X : Cx) (S : Sg) (e : Option Expr) (Γ : Gm) (μ : Mem) (P : Option Int → Mem → Prop) : Prop :=
  ∀ F N σ H, RelM S F N H μ → RelS S (vis N H (adr μ)) σ Γ → ∃ t, PO X e t ∧ ∀ Q : Option Int → Hp → Prop, (∀ i H' μ', RelM S (vis N H (adr μ)) N H' μ' → RelS S (vis N H' (adr μ')) σ Γ → P i μ' → Q i H') → t σ H Q
theorem po_no {P : Option Int → Mem → Prop} (k : P none μ) : PoG X S none Γ μ P := fun F N σ H r rs => ⟨_, po_none, fun Q q => q none H μ r.top rs k⟩
theorem po_so {P : Option Int → Mem → Prop} (h : EvG X S e Γ μ fun d μ' => ∃ i, d = .int i ∧ P (some i) μ') : PoG X S (some e) Γ μ P := fun F N σ H r rs => by
  refine ⟨_, po_some pe_ex, fun Q q => h.use r rs fun v H' d μ' r' rs' rd ⟨i, ei, k⟩ => ?_⟩
  subst ei
  cases rd
  exact ⟨i, rfl, q (some i) H' μ' r' rs' k⟩
def SlXt (X : Cx) : V → Option Int → Option Int → Hp → VK → Prop := fun x lo hi H Q => ∃ r, SlR X r ∧ ∃ Q0 : VK, r x lo hi H Q0 ∧ ∀ v H', Q0 v H' → Q v H'
theorem slr_self : SlR X (SlXt X) := by
  intro pins s σ H x v vl vu lo hi sl Q I rx hs pl pu h
  obtain ⟨r, hr, Q0, q, m⟩ := h
  obtain ⟨T, id, h1, h2, h3⟩ := hr pins s σ H x v vl vu lo hi sl Q0 I rx hs pl pu q
  exact ⟨T, id, h1, h2, thn h3 fun _ _ ⟨z, H', I', rz, q⟩ => ⟨z, H', I', rz, m _ _ q⟩⟩
def SlG (X : Cx) (S : Sg) (d : D) (lo hi : Option Int) (μ : Mem) (Q : QD) : Prop :=
  ∀ F N H x, RelM S F N H μ → Rp S (vis N H (adr μ)) x d → SlXt X x lo hi H (EndE S F N Q)
def POt (X : Cx) (e : Option Expr) : TO := fun σ H Q => ∃ t, PO X e t ∧ ∃ Q0, t σ H Q0 ∧ ∀ i H', Q0 i H' → Q i H'
theorem po_ex {e : Option Expr} : PO X e (POt X e) := ⟨fun pins s σ H Q I h => by
  obtain ⟨t, ht, Q0, q, m⟩ := h
  exact thn (ht.run pins s σ H Q0 I q) fun _ _ ⟨v, H', a, b, q'⟩ => ⟨v, H', a, b, m _ _ q'⟩⟩
theorem ev_sl {lo hi : Option Expr} {p2 : Pos} (h : EvG X S e Γ μ fun d μ1 => PoG X S lo Γ μ1 fun l μ2 => PoG X S hi Γ μ2 fun u μ3 => SlG X S d l u μ3 Q) : EvG X S (.Subscript e (.Slice lo hi none p2) pos) Γ μ Q := by
  intro F N σ H r rs
  refine ex_of (pe_slice slr_self pe_ex po_ex po_ex) ?_
  refine h.use r rs fun x H1 d μ1 r1 rs1 rx q1 => ?_
  obtain ⟨t, ht, q⟩ := q1 F N σ H1 (r1.weakF r.ext) rs1
  refine ⟨t, ht, _, q (fun i H2 => ∃ μ2, RelM S (vis N H1 (adr μ1)) N H2 μ2 ∧ RelS S (vis N H2 (adr μ2)) σ Γ ∧ PoG X S hi Γ μ2 fun u μ3 => SlG X S d i u μ3 Q) (fun i H2 μ2 r2 rs2 k => ⟨μ2, r2, rs2, k⟩), ?_⟩
  rintro i H2 ⟨μ2, r2, rs2, q2⟩
  obtain ⟨t', ht', q'⟩ := q2 F N σ H2 (r2.weakF (r.ext.trans r1.ext)) rs2
  refine ⟨t', ht', _, q' (fun u H3 => ∃ μ3, RelM S (vis N H2 (adr μ2)) N H3 μ3 ∧ SlG X S d i u μ3 Q) (fun u H3 μ3 r3 rs3 k => ⟨μ3, r3, k⟩), ?_⟩
  rintro u H3 ⟨μ3, r3, q3⟩
  exact q3 F N H3 x (r3.weakF ((r.ext.trans r1.ext).trans r2.ext)) (rx.ext (r2.ext.trans r3.ext))
theorem slg_l {l : List D} {lo hi : Option Int} (h : Drf μ d l) (k : Q (.lst (cutD l lo hi)) μ) : SlG X S d lo hi μ Q := fun F N H x r rx => by
  obtain ⟨a, xs, rfl, ha, hs⟩ := h.at r rx
  refine ⟨_, sl_list, EndE S F N Q, ⟨a, xs, rfl, SqL.of ha, fun p hp => ?_⟩, fun _ _ q => q⟩
  exact ⟨_, μ, r.alloc hp, .lst (alloc_at r hp) (hs.cut.ext (vis_new r hp)), k⟩
theorem cut_whole {l : List D} {lo hi : Option Int} (h : HT.sIx l.length 0 lo = 0 ∧ HT.sIx l.length l.length hi = l.length) : cutD l lo hi = l := by
  unfold cutD
  rw [h.1, h.2]
  simp
theorem slg_t {l : List D} {lo hi : Option Int} (hK : X.K = S.K) (k : Q (.tup (cutD l lo hi)) μ) : SlG X S (.tup l) lo hi μ Q := fun F N H x r rx => by
  cases rx with
  | @tup a xs _ ha hs =>
  refine ⟨_, sl_tupA, EndE S F N Q, ⟨a, xs, rfl, by rw [hK]; exact vis_le.t ha, fun hw => ?_, fun _ p hp => ?_⟩, fun _ _ q => q⟩
  · rw [hs.length] at hw
    rw [cut_whole hw] at k
    exact ⟨_, μ, r, .tup ha hs, k⟩
  · exact ⟨_, μ, r.alloc hp, .tup (SqT.of (alloc_at r hp)) (hs.cut.ext (vis_new r hp)), k⟩
theorem slg_s {z : Str} {lo hi : Option Int} (hz : z.length ≤ 16777216) (k : Q (.str (cutS z lo hi)) μ) : SlG X S (.str z) lo hi μ Q := fun F N H x r rx => by
  cases rx
  exact ⟨_, sl_str, EndE S F N Q, ⟨z, rfl, by rw [sizeLine_eq]; exact hz, _, μ, r, .str _, k⟩, fun _ _ q => q⟩
end
end GL
namespace GL
open PySem L2 PySem.Spec PyProof.Rows
/-! ### promises over the data -/
abbrev SpG := List D → Mem → QD → Prop
def spG (S : Sg) (sg : SpG) : Sp := fun vs H Q _ => ∃ F N ds μ, RelM S F N H μ ∧ RpA S (vis N H (adr μ)) vs ds ∧
  sg ds μ fun d μ' => ∀ v H', RelM S F N H' μ' → Rp S (vis N H' (adr μ')) v d → Q v H'
/-- the memory in two parts -/
inductive Split : Mem → Mem → Mem → Prop
  | nil : Split [] [] []
  | l {p : Addr × M} {μ a b : Mem} : Split μ a b → Split (p :: μ) (p :: a) b
  | r {p : Addr × M} {μ a b : Mem} : Split μ a b → Split (p :: μ) a (p :: b)
theorem Split.none : ∀ μ : Mem, Split μ [] μ
  | [] => .nil
  | _ :: μ => .r (Split.none μ)
theorem Split.all : ∀ μ : Mem, Split μ μ []
  | [] => .nil
  | _ :: μ => .l (Split.all μ)
theorem Split.mem {μ a b : Mem} (s : Split μ a b) : ∀ q, q ∈ μ ↔ q ∈ a ∨ q ∈ b := by
  induction s with
  | nil => simp
  | l _ ih => intro q; simp only [List.mem_cons, ih q]; exact or_assoc.symm
  | r _ ih => intro q; simp only [List.mem_cons, ih q]; exact or_left_comm
theorem Split.adr {μ a b : Mem} (s : Split μ a b) (c : Addr) : c ∈ GL.adr μ ↔ c ∈ GL.adr a ∨ c ∈ GL.adr b := by
  simp only [GL.adr, List.mem_map]
  constructor
  · rintro ⟨q, hq, e⟩
    rcases (s.mem q).mp hq with h | h
    · exact .inl ⟨q, h, e⟩
    · exact .inr ⟨q, h, e⟩
  · rintro (⟨q, hq, e⟩ | ⟨q, hq, e⟩)
    · exact ⟨q, (s.mem q).mpr (.inl hq), e⟩
    · exact ⟨q, (s.mem q).mpr (.inr hq), e⟩
theorem Split.nd {μ a b : Mem} (s : Split μ a b) (nd : (GL.adr μ).Nodup) : (GL.adr a).Nodup ∧ (GL.adr b).Nodup ∧ ∀ c, c ∈ GL.adr a → c ∉ GL.adr b := by
  induction s with
  | nil => exact ⟨List.nodup_nil, List.nodup_nil, fun c h => by cases h⟩
  | @l p μ a b s ih =>
    obtain ⟨h1, h2⟩ := List.nodup_cons.mp nd
    obtain ⟨i1, i2, i3⟩ := ih h2
    refine ⟨List.nodup_cons.mpr ⟨fun h => h1 ((s.adr _).mpr (.inl h)), i1⟩, i2, fun c h => ?_⟩
    rcases List.mem_cons.mp h with e | h
    · exact fun h' => h1 ((s.adr _).mpr (.inr (e ▸ h')))
    · exact i3 c h
  | @r p μ a b s ih =>
    obtain ⟨h1, h2⟩ := List.nodup_cons.mp nd
    obtain ⟨i1, i2, i3⟩ := ih h2
    refine ⟨i1, List.nodup_cons.mpr ⟨fun h => h1 ((s.adr _).mpr (.inr h)), i2⟩, fun c h h' => ?_⟩
    rcases List.mem_cons.mp h' with e | h'
    · exact h1 ((s.adr _).mpr (.inl (e ▸ h)))
    · exact i3 c h h'
def hidP (N H : Hp) (b : Mem) : Hp := fun c => if c ∈ adr b then H c else N c
section
variable {S : Sg} {F N H H' : Hp} {μ a b μ' : Mem}
theorem hidP_in (r : RelM S F N H μ) (s : Split μ a b) {c : Addr} (h : c ∈ adr b) : ∃ o, hidP N H b c = some o ∧ H c = some o := by
  obtain ⟨o, e⟩ := adr_some r ((s.adr c).mpr (.inr h))
  exact ⟨o, by unfold hidP; rw [if_pos h]; exact e, e⟩
theorem hidP_out {c : Addr} (h : c ∉ adr b) : hidP N H b c = N c := if_neg h
theorem split_vis (r : RelM S F N H μ) (s : Split μ a b) : vis (hidP N H b) H (adr a) = vis N H (adr μ) := by
  funext c
  unfold vis
  by_cases hb : c ∈ adr b
  · obtain ⟨o, e, _⟩ := hidP_in r s hb
    rw [if_pos (.inl (by rw [e]; rfl)), if_pos (.inr ((s.adr c).mpr (.inr hb)))]
  · rw [hidP_out hb]
    by_cases ha : c ∈ adr a
    · rw [if_pos (.inr ha), if_pos (.inr ((s.adr c).mpr (.inl ha)))]
    · have hm : c ∉ adr μ := fun h => ((s.adr c).mp h).elim ha hb
      by_cases hN : (N c).isSome = true
      · rw [if_pos (.inl hN), if_pos (.inl hN)]
      · rw [if_neg (by simp [hN, ha]), if_neg (by simp [hN, hm])]
/-- a part of the memory is handed out -/
theorem RelM.split (r : RelM S F N H μ) (s : Split μ a b) : RelM S (vis N H (adr μ)) (hidP N H b) H a := by
  have ev := split_vis r s
  obtain ⟨n1, n2, n3⟩ := s.nd r.nd
  refine ⟨fun c o e => ?_, fun c hc => ?_, by rw [ev]; exact Ex.refl _, n1, fun q hq => ?_⟩
  · by_cases hb : c ∈ adr b
    · unfold hidP at e
      rw [if_pos hb] at e
      exact e
    · rw [hidP_out hb] at e
      exact r.hid c o e
  · rw [hidP_out (n3 c hc)]
    exact r.dis c ((s.adr c).mpr (.inl hc))
  · rw [ev]
    exact r.mem q ((s.mem q).mpr (.inl hq))
/-- .. and comes back -/
theorem RelM.join (r : RelM S F N H μ) (s : Split μ a b) (r' : RelM S (vis N H (adr μ)) (hidP N H b) H' μ') :
    RelM S F N H' (μ' ++ b) ∧ vis N H' (adr (μ' ++ b)) = vis (hidP N H b) H' (adr μ') := by
  have key : ∀ c, c ∈ adr b → c ∉ adr μ' := fun c hc h => by
    obtain ⟨o, e, _⟩ := hidP_in r s hc
    have := r'.dis c h
    rw [e] at this
    cases this
  have hadr : ∀ c, c ∈ adr (μ' ++ b) ↔ c ∈ adr μ' ∨ c ∈ adr b := fun c => by simp only [adr, List.map_append, List.mem_append]
  have ev : vis N H' (adr (μ' ++ b)) = vis (hidP N H b) H' (adr μ') := by
    funext c
    unfold vis
    by_cases hb : c ∈ adr b
    · obtain ⟨o, e, _⟩ := hidP_in r s hb
      rw [if_pos (.inr ((hadr c).mpr (.inr hb))), if_pos (.inl (by rw [e]; rfl))]
    · rw [hidP_out hb]
      by_cases ha : c ∈ adr μ'
      · rw [if_pos (.inr ((hadr c).mpr (.inl ha))), if_pos (.inr ha)]
      · have hm : c ∉ adr (μ' ++ b) := fun h => ((hadr c).mp h).elim ha hb
        by_cases hN : (N c).isSome = true
        · rw [if_pos (.inl hN), if_pos (.inl hN)]
        · rw [if_neg (by simp only [hN, hm]; simp), if_neg (by simp only [hN, ha]; simp)]
  obtain ⟨n1, n2, n3⟩ := s.nd r.nd
  refine ⟨⟨fun c o e => ?_, fun c hc => ?_, ?_, ?_, fun q hq => ?_⟩, ev⟩
  · have hb : c ∉ adr b := fun h => by
      have := r.dis c ((s.adr c).mpr (.inr h))
      rw [this] at e
      cases e
    exact r'.hid c o (by rw [hidP_out hb]; exact e)
  · rcases (hadr c).mp hc with h | h
    · have := r'.dis c h
      rw [hidP_out (fun z => key c z h)] at this
      exact this
    · exact r.dis c ((s.adr c).mpr (.inr h))
  · rw [ev]
    exact r.ext.trans r'.ext
  · show ((μ' ++ b).map _).Nodup
    rw [List.map_append]
    exact List.nodup_append.mpr ⟨r'.nd, n2, fun x hx y hy e => key y hy (e ▸ hx)⟩
  · rw [ev]
    rcases List.mem_append.mp hq with h | h
    · exact r'.mem q h
    · obtain ⟨o, e, m⟩ := r.mem q ((s.mem q).mpr (.inr h))
      obtain ⟨o', e1, e2⟩ := hidP_in r s (List.mem_map_of_mem h : q.1 ∈ adr b)
      rw [e] at e2
      cases e2
      exact ⟨o, r'.hid _ _ e1, m.ext r'.ext⟩
end
/-- what a callee is asked, with the part of the memory that it may change -/
def AskG (sg : SpG) (ds : List D) (μ : Mem) (Q : QD) : Prop := ∃ a b, Split μ a b ∧ sg ds a fun d μ' => Q d (μ' ++ b)
/-- a promise does not lean on more than it says -/
def MonoG (sg : SpG) : Prop := ∀ ds μ Q Q', sg ds μ Q → (∀ d μ', Q d μ' → Q' d μ') → sg ds μ Q'
theorem ask_sp {S : Sg} {sg : SpG} {F N H : Hp} {μ : Mem} {vs : List V} {ds : List D} {Q : QD} {E : XK} (hm : MonoG sg) (r : RelM S F N H μ) (rv : RpA S (vis N H (adr μ)) vs ds) (h : AskG sg ds μ Q) : spG S sg vs H (EndE S F N Q) E := by
  obtain ⟨a, b, s, h⟩ := h
  refine ⟨_, _, ds, a, r.split s, by rw [split_vis r s]; exact rv, hm _ _ _ _ h fun d μ' q v H' r' rd => ?_⟩
  obtain ⟨j1, j2⟩ := r.join s r'
  exact ⟨d, μ' ++ b, j1, by rw [j2]; exact rd, q⟩
section
variable {X : Cx} {S : Sg} {CX : CXT} {k : Nat} {f C : Addr} {fd : FuncData} {ps : List Str} {sg : SpG} {dvs : List V} {dfs : List Value} {dds : List D} {E : XK} {x m : Str} {p pos apos : Pos} {e o : Expr} {es : List Expr} {Γ : Gm} {μ : Mem} {Q : QD} {d : D}
theorem ev_call (hm' : MonoG sg) (F : FnOk X.prog X.w X.K X.mg X.base CX k f fd ps (spG S sg)) (hr : Room k X.A) (hg : Gl X x) (hm : X.mg x = some (.ref f)) (hk : PySem.W.keepIn X.K (.ref f) = true) (hb : Binds X.K fd ps dfs) (hd : Vals dvs dfs) (hdd : ∀ Hv, RpA S Hv dvs dds) (hx : Passes CX X E)
    (h : EvA X S (e :: es) Γ μ fun ds μ1 => AskG sg (ds ++ dds) μ1 Q)
    (hdb : (x == ("__debug__" : Str)) = false := by decide) (he : starEach (e :: es) X.env = (false, eval e X.env) :: starEach es X.env := by rfl) (hpl : (backTo pos (starEach es X.env)).any (·.1) = false := by rfl) :
    EvG X S (.Call (.Name x p) (e :: es) [] pos) Γ μ Q := by
  intro F' N σ H r rs
  refine ex_of (pe_call (E := E) F hr hg hm hk hb hd hx pa_ex hdb he hpl) (h.use r rs fun vs H1 ds μ1 r1 rs1 rds q => ?_)
  exact ask_sp hm' (r1.weakF r.ext) (rds.append (hdd _)) q
theorem ev_call0 (hm' : MonoG sg) (F : FnOk X.prog X.w X.K X.mg X.base CX k f fd ps (spG S sg)) (hr : Room k X.A) (hg : Gl X x) (hm : X.mg x = some (.ref f)) (hk : PySem.W.keepIn X.K (.ref f) = true) (hb : Binds X.K fd ps dfs) (hd : Vals dvs dfs) (hdd : ∀ Hv, RpA S Hv dvs dds) (hx : Passes CX X E)
    (h : AskG sg dds μ Q) (hdb : (x == ("__debug__" : Str)) = false := by decide) : EvG X S (.Call (.Name x p) [] [] pos) Γ μ Q := by
  intro F' N σ H r rs
  refine ex_of (pe_call0 (E := E) F hr hg hm hk hb hd hx hdb) ?_
  exact ask_sp (E := E) (vs := dvs) hm' r (hdd _) h
/-! ### instances -/
/-- d is an instance of the class at C, its attributes' names -/
inductive Rcv (S : Sg) (μ : Mem) : D → Addr → List Str → Prop
  | obj {c : Nat} {l : List D} : Rcv S μ (.obj c l) (S.cls c) (S.nms c)
  | ins {a C : Addr} {fs : List (Str × D)} : (a, M.ins C fs) ∈ μ → Rcv S μ (.ref a) C (fs.map (·.1))
theorem lookup_none : ∀ {ns : List Str} {vs : List V} {m : Str}, m ∉ ns → (ns.zip vs).lookup m = none
  | [], _, _, _ => rfl
  | _ :: _, [], _, _ => rfl
  | n :: ns, v :: vs, m, h => by
    have h1 : m ≠ n := fun e => h (e ▸ List.mem_cons_self)
    have ih := lookup_none (ns := ns) (vs := vs) (m := m) fun z => h (List.mem_cons_of_mem _ z)
    show List.lookup m ((n, v) :: ns.zip vs) = none
    have hb : (m == n) = false := beq_eq_false_iff_ne.mpr h1
    simp only [List.lookup, hb]
    exact ih
theorem RpF.none {Hv : Hp} {m : Str} : ∀ {vs : List (Str × V)} {fs : List (Str × D)}, RpF S Hv vs fs → m ∉ fs.map (·.1) → vs.lookup m = Option.none
  | _, _, .nil, _ => rfl
  | _, _, @RpF.cons _ _ f v d vs ds _ t, h => by
    have h1 : m ≠ f := fun e => h (by rw [e]; exact List.mem_cons_self)
    have ih := RpF.none (m := m) t fun z => h (List.mem_cons_of_mem _ z)
    have hb : (m == f) = false := beq_eq_false_iff_ne.mpr h1
    simp only [List.lookup, hb]
    exact ih
theorem Rcv.at {F N H : Hp} {ns : List Str} {v : V} (h : Rcv S μ d C ns) (r : RelM S F N H μ) (rv : Rp S (vis N H (adr μ)) v d) : ∃ a dx fvs, v = .ref a ∧ H a = some (.ins C dx fvs) ∧ ∀ m, m ∉ ns → fvs.lookup m = none := by
  cases h with
  | obj =>
    cases rv with
    | obj ha hl hs => exact ⟨_, _, _, rfl, vis_le _ _ ha, fun m hm => lookup_none hm⟩
  | ins hm =>
    cases rv
    obtain ⟨o, e, rm⟩ := r.find hm
    cases rm with
    | ins h => exact ⟨_, _, _, rfl, e, fun m hm => h.none hm⟩
/-- o.m(e, ..) -/
theorem ev_meth {pl : Sem Bool} {ns : List Str} (hm' : MonoG sg) (c : Cls X.K C) (hm : Meth X.K C m f) (F : FnOk X.prog X.w X.K X.mg X.base CX k f fd ps (spG S sg)) (hr : Room k X.A) (hb : Binds X.K fd ps dfs) (hd : Vals dvs dfs) (hdd : ∀ Hv, RpA S Hv dvs dds) (hx : Passes CX X E)
    (h : EvG X S o Γ μ fun d μ1 => Rcv S μ1 d C ns ∧ m ∉ ns ∧ EvA X S (e :: es) Γ μ1 fun ds μ2 => AskG sg (d :: (ds ++ dds)) μ2 Q)
    (hst : starEach (e :: es) X.env = (false, eval e X.env) :: starEach es X.env := by rfl) (hpl : (backTo pos (starEach es X.env)).any (·.1) = false := by rfl)
    (ht : eval (.Call (.Attribute o m apos) (e :: es) [] pos) X.env = (do
      let ov ← eval o X.env
      standAt apos.atName
      let (f, first) ← holding [ov] (getMethod ov m pl)
      callWith pos f first (backTo pos (starEach (e :: es) X.env)) (backToKw pos (keywordEach [] X.env))) := by rfl) :
    EvG X S (.Call (.Attribute o m apos) (e :: es) [] pos) Γ μ Q := by
  intro F' N σ H r rs
  refine ex_of (pe_meth (E := E) pe_ex c hm F hr hb hd hx pa_ex hst hpl ht) (h.use r rs fun v H1 d μ1 r1 rs1 rd ⟨q1, q2, q3⟩ => ?_)
  obtain ⟨a, dx, fvs, e1, e2, e3⟩ := q1.at r1 rd
  refine ⟨a, dx, fvs, e1, e2, e3 m q2, ?_⟩
  refine q3.use r1 rs1 fun vs H2 ds μ2 r2 rs2 rds q => ?_
  exact ask_sp hm' (r2.weakF (r.ext.trans r1.ext)) (.cons (rd.ext r2.ext) (rds.append (hdd _))) q
theorem ev_meth0 {pl : Sem Bool} {ns : List Str} (hm' : MonoG sg) (c : Cls X.K C) (hm : Meth X.K C m f) (F : FnOk X.prog X.w X.K X.mg X.base CX k f fd ps (spG S sg)) (hr : Room k X.A) (hb : Binds X.K fd ps dfs) (hd : Vals dvs dfs) (hdd : ∀ Hv, RpA S Hv dvs dds) (hx : Passes CX X E)
    (h : EvG X S o Γ μ fun d μ1 => Rcv S μ1 d C ns ∧ m ∉ ns ∧ AskG sg (d :: dds) μ1 Q)
    (ht : eval (.Call (.Attribute o m apos) [] [] pos) X.env = (do
      let ov ← eval o X.env
      standAt apos.atName
      let (f, first) ← holding [ov] (getMethod ov m pl)
      callWith pos f first (backTo pos (starEach [] X.env)) (backToKw pos (keywordEach [] X.env))) := by rfl) :
    EvG X S (.Call (.Attribute o m apos) [] [] pos) Γ μ Q := by
  intro F' N σ H r rs
  refine ex_of (pe_meth0 (E := E) pe_ex c hm F hr hb hd hx ht) (h.use r rs fun v H1 d μ1 r1 rs1 rd ⟨q1, q2, q3⟩ => ?_)
  obtain ⟨a, dx, fvs, e1, e2, e3⟩ := q1.at r1 rd
  refine ⟨a, dx, fvs, e1, e2, e3 m q2, ?_⟩
  exact ask_sp (E := E) (vs := v :: dvs) hm' (r1.weakF r.ext) (.cons rd (hdd _)) q3
/-- C(..): the new instance is of the memory -/
def NewG (C : Addr) (sg : SpG) (ds : List D) (μ : Mem) (Q : QD) : Prop := ∃ a b, Split μ a b ∧ ∀ x, x ∉ adr μ → sg (.ref x :: ds) ((x, .ins C []) :: a) fun d μ' => d = .non ∧ Q (.ref x) (μ' ++ b)
theorem new_sp {F N H : Hp} {vs : List V} {ds : List D} (hm : MonoG sg) (r : RelM S F N H μ) (rv : RpA S (vis N H (adr μ)) vs ds) (h : NewG C sg ds μ Q) (z dx : Addr) (hz : H z = none) (hdx : H dx = none) (hne : dx ≠ z) :
    spG S sg (.ref z :: vs) (upd (upd H dx (.own z)) z (.ins C dx [])) (fun v H2 => v = .non ∧ EndE S F N Q (.ref z) H2) E := by
  obtain ⟨a, b, s, h⟩ := h
  have r1 := r.alloc (o := .own z) hdx
  have hz1 : upd H dx (.own z) z = none := by rw [upd_ne (Ne.symm hne)]; exact hz
  have r2 := r1.allocM (m := .ins C []) (o := .ins C dx []) hz1 (.ins .nil)
  have s2 : Split ((z, M.ins C []) :: μ) ((z, .ins C []) :: a) b := .l s
  refine ⟨_, _, .ref z :: ds, (z, .ins C []) :: a, r2.split s2, ?_, hm _ _ _ _ (h z (adr_new r hz)) fun d μ' q v H' r' rd => ?_⟩
  · rw [split_vis r2 s2]
    exact .cons (.ref z) (rv.ext ((vis_new r hdx).trans (vis_same r1 hz1)))
  · obtain ⟨j1, j2⟩ := r2.join s2 r'
    obtain ⟨rfl, q⟩ := q
    cases rd
    exact ⟨rfl, _, μ' ++ b, j1, .ref z, q⟩
theorem ev_make (hm' : MonoG sg) (M : Mk X.K C f) (F : FnOk X.prog X.w X.K X.mg X.base CX k f fd ps (spG S sg)) (hr : Room (k + 1) X.A) (hg : Gl X x) (hm : X.mg x = some (.ref C)) (hb : Binds X.K fd ps dfs) (hd : Vals dvs dfs) (hdd : ∀ Hv, RpA S Hv dvs dds) (hx : Passes CX X E)
    (h : EvA X S (e :: es) Γ μ fun ds μ1 => NewG C sg (ds ++ dds) μ1 Q)
    (hdb : (x == ("__debug__" : Str)) = false := by decide) (he : starEach (e :: es) X.env = (false, eval e X.env) :: starEach es X.env := by rfl) (hpl : (backTo pos (starEach es X.env)).any (·.1) = false := by rfl) :
    EvG X S (.Call (.Name x p) (e :: es) [] pos) Γ μ Q := by
  intro F' N σ H r rs
  refine ex_of (pe_make (E := E) M F hr hg hm hb hd hx pa_ex hdb he hpl) (h.use r rs fun vs H1 ds μ1 r1 rs1 rds q => ?_)
  intro z dx hz hdx hne
  exact new_sp hm' (r1.weakF r.ext) (rds.append (hdd _)) q z dx hz hdx hne
theorem ev_make0 (hm' : MonoG sg) (M : Mk X.K C f) (F : FnOk X.prog X.w X.K X.mg X.base CX k f fd ps (spG S sg)) (hr : Room (k + 1) X.A) (hg : Gl X x) (hm : X.mg x = some (.ref C)) (hb : Binds X.K fd ps dfs) (hd : Vals dvs dfs) (hdd : ∀ Hv, RpA S Hv dvs dds) (hx : Passes CX X E)
    (h : NewG C sg dds μ Q) (hdb : (x == ("__debug__" : Str)) = false := by decide) : EvG X S (.Call (.Name x p) [] [] pos) Γ μ Q := by
  intro F' N σ H r rs
  refine ex_of (pe_make0 (E := E) M F hr hg hm hb hd hx hdb) ?_
  intro z dx hz hdx hne
  exact new_sp hm' r (hdd _) h z dx hz hdx hne
/-- a result that is changed no more -/
def FrzQ (S : Sg) (Q : QD) : QD := fun d μ => ∃ a, d = .ref a ∧ ∃ μ', (∃ l, Del a (.lst l) μ μ' ∧ Q (.lst l) μ') ∨ (∃ c l, Del a (.ins (S.cls c) ((S.nms c).zip l)) μ μ' ∧ (S.nms c).length = l.length ∧ Q (.obj c l) μ')
theorem frz_end {F N H : Hp} {v : V} (h : EndE S F N (FrzQ S Q) v H) : EndE S F N Q v H := by
  obtain ⟨d, μ1, r, rd, a, rfl, μ', ⟨l, u, q⟩ | ⟨c, l, u, hl, q⟩⟩ := h
  · cases rd
    exact ⟨_, μ', r.del u, r.froz u, q⟩
  · cases rd
    exact ⟨_, μ', r.del u, r.frozI u hl, q⟩
theorem ev_frz (h : EvG X S e Γ μ (FrzQ S Q)) : EvG X S e Γ μ Q := fun F N σ H r rs => (h F N σ H r rs).mono fun _ _ q => frz_end q
theorem bl_frz {sts : List Stmt} {i : Nat} {a : Addr} {l : List D} {μ' : Mem} {E : EG} (hi : Γ[i]? = some (some (.ref a))) (u : Del a (.lst l) μ μ') (h : BlG X S sts (Γ.set i (some (.lst l))) μ' E) : BlG X S sts Γ μ E := fun F N σ H r rs => by
  obtain ⟨v, hv, rv⟩ := RelS.get rs hi
  cases rv
  exact h F N σ H (r.del u) (RelS.frz hv (r.froz u) (RelS.ext (vis_del r u) rs))
theorem bl_frzI {sts : List Stmt} {i : Nat} {a : Addr} {c : Nat} {l : List D} {μ' : Mem} {E : EG} (hi : Γ[i]? = some (some (.ref a))) (u : Del a (.ins (S.cls c) ((S.nms c).zip l)) μ μ') (hl : (S.nms c).length = l.length) (h : BlG X S sts (Γ.set i (some (.obj c l))) μ' E) : BlG X S sts Γ μ E := fun F N σ H r rs => by
  obtain ⟨v, hv, rv⟩ := RelS.get rs hi
  cases rv
  exact h F N σ H (r.del u) (RelS.frz hv (r.frozI u hl) (RelS.ext (vis_del r u) rs))
/-! ### attributes -/
/-- what the attribute f of d is -/
inductive FldG (S : Sg) (μ : Mem) : D → Addr → Str → D → Prop
  | obj {c : Nat} {l : List D} {i : Nat} {f : Str} {y : D} : (S.nms c)[i]? = some f → (S.nms c).Nodup → l[i]? = some y → FldG S μ (.obj c l) (S.cls c) f y
  | ins {a C : Addr} {fs : List (Str × D)} {f : Str} {y : D} : (a, M.ins C fs) ∈ μ → fs.lookup f = some y → FldG S μ (.ref a) C f y
theorem lookup_zip : ∀ {ns : List Str} {vs : List V} {i : Nat} {f : Str} {v : V}, ns.Nodup → ns[i]? = some f → vs[i]? = some v → (ns.zip vs).lookup f = some v
  | [], _, _, _, _, _, h, _ => by simp at h
  | _ :: _, [], _, _, _, _, _, h => by simp at h
  | n :: ns, w :: vs, 0, f, v, nd, h1, h2 => by
    simp at h1 h2
    subst h1 h2
    show List.lookup n ((n, w) :: ns.zip vs) = some w
    simp [List.lookup]
  | n :: ns, w :: vs, i + 1, f, v, nd, h1, h2 => by
    have h1 : ns[i]? = some f := by simpa using h1
    have h2 : vs[i]? = some v := by simpa using h2
    obtain ⟨n1, n2⟩ := List.nodup_cons.mp nd
    have hne : f ≠ n := fun e => n1 (e ▸ List.mem_of_getElem? h1)
    have ih := lookup_zip n2 h1 h2
    show List.lookup f ((n, w) :: ns.zip vs) = some v
    have hb : (f == n) = false := beq_eq_false_iff_ne.mpr hne
    simp only [List.lookup, hb]
    exact ih
theorem RpF.look {Hv : Hp} {f : Str} {y : D} : ∀ {vs : List (Str × V)} {fs : List (Str × D)}, RpF S Hv vs fs → fs.lookup f = some y → ∃ v, vs.lookup f = some v ∧ Rp S Hv v y
  | _, _, .nil, h => by cases h
  | _, _, @RpF.cons _ _ g v d vs ds r t, h => by
    by_cases e : f = g
    · subst e
      simp only [List.lookup, beq_self_eq_true] at h ⊢
      cases h
      exact ⟨v, rfl, r⟩
    · have hb : (f == g) = false := beq_eq_false_iff_ne.mpr e
      simp only [List.lookup, hb] at h ⊢
      exact RpF.look t h
theorem FldG.at {F N H : Hp} {f : Str} {y : D} {v : V} (h : FldG S μ d C f y) (r : RelM S F N H μ) (rv : Rp S (vis N H (adr μ)) v d) : ∃ a dx fvs w, v = .ref a ∧ H a = some (.ins C dx fvs) ∧ fvs.lookup f = some w ∧ Rp S (vis N H (adr μ)) w y := by
  cases h with
  | obj hi nd hy =>
    cases rv with
    | obj ha hl hs =>
    obtain ⟨w, hw, rw'⟩ := hs.get hy
    exact ⟨_, _, _, w, rfl, vis_le _ _ ha, lookup_zip nd hi hw, rw'⟩
  | ins hm hl =>
    cases rv
    obtain ⟨o, e, rm⟩ := r.find hm
    cases rm with
    | ins h =>
    obtain ⟨w, hw, rw'⟩ := h.look hl
    exact ⟨_, _, _, w, rfl, e, hw, rw'⟩
theorem ev_fld {f : Str} (c : Cls X.K C) (n : NoAttr X.K C f) (h : EvG X S e Γ μ fun d μ1 => ∃ y, FldG S μ1 d C f y ∧ Q y μ1) (hb : attributeBase e f X.env (eval e X.env) = eval e X.env := by rfl) : EvG X S (.Attribute e f pos) Γ μ Q := by
  intro F N σ H r rs
  refine ex_of (pe_fld pe_ex hb) (h.use r rs fun v H1 d μ1 r1 rs1 rd ⟨y, q1, q2⟩ => ?_)
  obtain ⟨a, dx, fvs, w, e1, e2, e3, e4⟩ := q1.at r1 rd
  exact ⟨a, C, dx, fvs, w, e1, e2, c, n, e3, y, μ1, r1.weakF r.ext, e4, q2⟩
def putD (f : Str) (d : D) : List (Str × D) → List (Str × D)
  | [] => [(f, d)]
  | (g, x) :: r => if g = f then (g, d) :: r else (g, x) :: putD f d r
theorem RpF.put {Hv : Hp} {f : Str} {v : V} {y : D} (rv : Rp S Hv v y) : ∀ {vs : List (Str × V)} {fs : List (Str × D)}, RpF S Hv vs fs → RpF S Hv (putF f v vs) (putD f y fs)
  | _, _, .nil => .cons rv .nil
  | _, _, @RpF.cons _ _ g w d vs ds r t => by
    show RpF S Hv (if g = f then (g, v) :: vs else (g, w) :: putF f v vs) (if g = f then (g, y) :: ds else (g, d) :: putD f y ds)
    by_cases e : g = f
    · rw [if_pos e, if_pos e]
      exact .cons rv t
    · rw [if_neg e, if_neg e]
      exact .cons r (RpF.put rv t)
theorem RpF.length {Hv : Hp} : ∀ {vs : List (Str × V)} {fs : List (Str × D)}, RpF S Hv vs fs → vs.length = fs.length
  | _, _, .nil => rfl
  | _, _, .cons _ t => by rw [List.length_cons, List.length_cons, RpF.length t]
theorem st_fld {f : Str} {value : Expr} {pos' : Pos} {E : EG} (c : Cls X.K C) (n : NoAttr X.K C f)
    (h : EvG X S value Γ μ fun y μ1 => EvG X S o Γ μ1 fun d μ2 => ∃ a fs μ3, d = .ref a ∧ Upd a (.ins C fs) (.ins C (putD f y fs)) μ2 μ3 ∧ fs.length < 1000 ∧ E.nx Γ μ3)
    (hs : swapsWith value (some (.Attribute o f pos')) pos.line X.env = pure false := by rfl) : StG X S (.Assign [.Attribute o f pos'] value pos) Γ μ E := by
  intro F N σ H r rs
  refine sx_of (ps_fld pe_ex pe_ex hs) (h.use r rs fun v H1 y μ1 r1 rs1 ry q1 => ?_)
  refine q1.use r1 rs1 fun w H2 d μ2 r2 rs2 rd ⟨a, fs, μ3, ed, u, hl, q⟩ => ?_
  subst ed
  cases rd
  obtain ⟨ob, e, rm⟩ := r2.find u.mem
  cases rm with
  | @ins _ dx _ fvs h' =>
  have r3 := (r2.weakF (r.ext.trans r1.ext)).put u (o := .ins C dx (putF f v fvs)) (.ins (h'.put (ry.ext r2.ext)))
  refine ⟨a, C, dx, fvs, rfl, e, c, n, by rw [h'.length]; exact hl, Γ, μ3, r3, ?_, q⟩
  rw [u.adr, vis_upd (List.mem_map_of_mem u.mem)]
  exact rs2
end
end GL
namespace GL
open PySem L2 PySem.Spec PyProof.Rows
/-! ### a def called once, its body run from the state of the call -/
section
variable {CX : CXT} {P : Program} {w : World} {K : PySem.W.Frag} {mg : Str → Option Value} {base : Heap} {k : Nat} {f : Addr} {N ps : List Str}
theorem fn_once {x qual : Str} {st : Stmt} {fd : FuncData} (F : Fun K x qual st f fd) (S : FnScope N ps (defScope st)) {A : Around} {outer : List Env} {s : Shared} {H : Hp} {args : Args} {us : List Value} {vs : List V} {Q : VK} {E : XK}
    (hr : Room (k + 1) A) (e0 : Env0 P w K mg base A outer s H) (hb : BindsTo s fd args (ps.zip us)) (rv : Vals vs us) (hl : vs.length = ps.length)
    (body : ∀ cdv, Room k (A.deeper (envOfC qual (defScope st) s.heap.objs.size f cdv)) → ∃ t, PSs (cxOf CX P w K mg base N qual (defScope st) f cdv A outer s H E) (defBody st) t ∧ t { nx := fun _ H' => Q .non H', rt := Q } (start N vs) H) :
    codeAny (model P w) A (.call (.ref f) args) (CR CX outer P w H s Q E) s := by
  obtain ⟨oc, od, kV, doc, pm, an, cdv, ct, osl, rfl, lk, hcd⟩ := F.ex
  have KX : K.In s.heap := e0.mod.kin.keeps fun b o e => (e0.bs b o e).1
  refine codeAny_call_function hr.depth (KX _ _ lk) rfl S.co S.gen rfl (PySem.W.codeRec_of KX hcd) (hb _ _ _ _ ?_)
  have hk : ∀ y ∈ ps.zip us, (defScope st).names.lookup y.1 = some .local ∨ ((defScope st).names.lookup y.1 = some .cell ∧ ((cellsFrom (s.heap.objs.size + 1) (defScope st).names []).lookup y.1).isSome = true) := by
    rintro ⟨n, v⟩ hy
    cases S.par n (List.of_mem_zip hy).1 with
    | inl q => exact .inl q
    | inr q => exact .inr ⟨q, PySem.W.cellsFrom_some _ _ _ (.inl q)⟩
  refine wpAny_newFunctionEnv_cells S.kind hk fun env he s1 ic => ?_
  subst he
  have lim : s.heap.NoLimit := e0.mod.nolimit.keeps fun b o e => (e0.bs b o e).1
  obtain ⟨t, ht, hq⟩ := body cdv (hr.deeper _)
  refine ⟨lim.keeps ic.toInCall.keep, codeAny_func ?_⟩
  have I := inv_start (CX := CX) (E := E) S hr.hd e0 hl rv ic
  have fin : ∀ (σ' : L2.St) (H' : Hp) (v : V) (u : Value) (s' : Shared), Inv (cxOf CX P w K mg base N qual (defScope st) f cdv A outer s H E) [] σ' H' s' → RelV v u → Q v H' → CE outer P w H s Q u s' := by
    intro σ' H' v u s' J r q
    exact ⟨v, H', J.os, J.bare, J.base, J.hok, r, q⟩
  refine wpAny_mono (ht.run [] s1 (start N vs) H _ I hq) (fun fl s' hs => ?_) (fun e s' hs => hs)
  cases fl with
  | next =>
    obtain ⟨σ', H', J, q⟩ := hs
    exact fin σ' H' .non .none s' J rfl q
  | ret u =>
    obtain ⟨v, σ', H', J, r, q⟩ := hs
    exact fin σ' H' v u s' J r q
  | brk => obtain ⟨_, _, _, q⟩ := hs; exact q.elim
  | cont => obtain ⟨_, _, _, q⟩ := hs; exact q.elim
end
/-! ### own __iter__ that gives the iterator of a list -/
structure FnIt (P : Program) (w : World) (K : PySem.W.Frag) (mg : Str → Option Value) (base : Heap) (k : Nat) (f C : Addr) (fld : Str) : Prop where
  run : ∀ (A : Around) (outer : List Env) (s : Shared) (H : Hp) (a dx l : Addr) (fs : List (Str × V)) (zs : List V), Room k A → Env0 P w K mg base A outer s H → H a = some (.ins C dx fs) → fs.lookup fld = some (.ref l) → SqL K H l zs →
    codeAny (model P w) A (.call (.ref f) ⟨[.ref a], []⟩) (CR CX0 outer P w H s (fun v H' => ∃ it, v = .ref it ∧ s.heap.objs.size ≤ it ∧ H it = none ∧ H' = upd H it (ItO l it 0)) E0) s
theorem fnit_of {P : Program} {w : World} {K : PySem.W.Frag} {mg : Str → Option Value} {base : Heap} {k : Nat} {f C : Addr} {x qual fld : Str} {st : Stmt} {fd : FuncData} {p1 p2 p3 p4 p5 : Pos}
    (F : Fun K x qual st f fd) (S : FnScope ["self"] ["self"] (defScope st)) (hb : Binds K fd ["self"] [])
    (hbody : defBody st = [.Return (some (.Call (.Name "iter" p1) [.Attribute (.Name "self" p2) fld p3] [] p4)) p5]) (c : Cls K C) (n : NoAttr K C fld) (hm : mg ("iter" : Str) = none) (hg : (defScope st).names.lookup ("iter" : Str) = some .globalImplicit)
    (hv : (defScope st).names.lookup ("self" : Str) = some .local) : FnIt P w K mg base (k + 1) f C fld := by
  refine ⟨fun A outer s H a dx l fs zs hr e0 ha hl hz => ?_⟩
  have KX : K.In s.heap := e0.mod.kin.keeps fun b o e => (e0.bs b o e).1
  refine fn_once F S (us := [.ref a]) (vs := [.ref a]) hr e0 (by simpa using hb s [.ref a] KX rfl) (.cons rfl .nil) rfl fun cdv hr' => ?_
  rw [hbody]
  refine ⟨_, PSs.nox (pss_one (ps_ret (pe_callB ItX.call_iterN hg hm (by decide +kernel) (pa_cons (pe_fld (pe_var (i := 0) rfl (.inl hv)) rfl) pa_nil)))), ?_⟩
  exact ⟨_, rfl, a, C, dx, fs, _, rfl, ha, c, n, hl, l, zs, rfl, hz, fun it h1 h2 => ⟨it, rfl, h2, h1, rfl⟩⟩
section
variable {X : Cx} {S : Sg} {tg : Expr} {μ : Mem} {R : RI} {d : D} {k : Nat} {f C : Addr} {fld : Str}
theorem iv_own {l : List D} (hK : X.K = S.K) (F : FnIt X.prog X.w X.K X.mg X.base k f C fld) (hr : Room k X.A) (hs : PySem.W.findIn X.K (.ref C) "__iter__" = some (some (.ref f))) (hf : PySem.W.isFn X.K (.ref f) = true)
    (h : FldG S μ d C fld (.lst l)) (q : R (fun _ => True) l μ) : IterV X S tg d μ R := by
  intro F0 N H x r rx Rr kk
  obtain ⟨a, dx, fvs, w, rfl, ha, hw, rw'⟩ := h.at r rx
  cases rw' with
  | @lst la xs _ hl hxs =>
  intro pins s σ v I rv
  cases rv
  obtain ⟨mA, O, _⟩ := ins_get I.hok ha
  obtain ⟨od, J, _⟩ := O.look
  obtain ⟨m, hF⟩ := I.fr
  refine PySem.W.owit_iter hF I.ok.mod.kin J hs hf (wpAny_call (codeAny_mono (F.run X.A X.stack s H a dx la fvs xs hr I.env0 ha hw (SqL.of (vis_le _ _ hl))) fun rs s' hq => ?_))
  cases rs with
  | error e => exact hq.elim
  | ok fl =>
    cases fl with
    | next => exact hq.elim
    | brk => exact hq.elim
    | cont => exact hq.elim
    | ret u =>
      obtain ⟨v, H', I', rv, it, rfl, h1, h2, rfl⟩ := I.after hq
      cases rv
      have eo : upd H it (ItO la it 0) it = some (ItO la it 0) := upd_same
      have eo' := eo
      unfold ItO at eo'
      have ho : s'.heap.get? it = some (GNX.itObj la 0) := L2.itO_get I' eo
      have st : s'.heap.IsListIter it la 0 := ⟨_, ho, rfl, rfl⟩
      refine wpAny_bind (wpAny_typeOf (T := "list_iterator") ⟨_, ho, rfl⟩ ?_)
      refine wpAny_of_eq slot_listiter_next.lookup ?_
      refine ⟨it, [it], _, _, ItX.dropH (upd H it (ItO la it 0)) it, rfl, ItX.inv_drop I' eo', turn_list la it, st, fun b hb => ?_, ?_⟩
      · rw [List.mem_singleton.mp hb]
        exact ItX.inv_fp I' eo (Nat.le_trans I.sz h1)
      · rw [ItX.dropH_upd h2, hK]
        exact kk _ H l _ μ r.top (itok_l (SqL.of hl) hxs) q
end
end GL
namespace GL
open PySem L2 PySem.Spec PyProof.Rows
section
variable {X : Cx} {S : Sg} {CX : CXT} {k : Nat} {f C : Addr} {fd : FuncData} {ps : List Str} {sg : SpG} {E : XK} {Γ : Gm} {μ : Mem} {Q : QD} {d e : D}
/-- a def called by values, somewhere below -/
theorem run_at {A : Around} {sp : Sp} {pins : List (Addr × Obj)} {σ : L2.St} {H : Hp} {s : Shared} {Qv : VK} {us : List Value} {vs : List V} (F : FnOk X.prog X.w X.K X.mg X.base CX k f fd ps sp) (hr : Room k A) (hfr : A.frames = X.A.frames) (hb : Binds X.K fd ps [])
    (hx : Passes CX X E) (I : Inv X pins σ H s) (r : Vals vs us) (h : sp vs H Qv E) : wpAny (model X.prog X.w) A (call (.ref f) us) (EP X pins σ Qv) X.xe s := by
  have e := I.env0
  have e0 : Env0 X.prog X.w X.K X.mg X.base A X.stack s H := ⟨hfr.trans e.frames, e.mod, e.bs, e.bsz, e.funs, e.frf, e.hok, e.bare⟩
  have hl : us.length = ps.length := by rw [← r.length]; exact F.len _ _ _ _ h
  have b := hb s us I.kIn (by rw [List.append_nil]; exact hl)
  rw [List.append_nil] at b
  refine wpAny_call (codeAny_mono (F.run A X.stack s H ⟨us, []⟩ us vs Qv E hr e0 b r h) fun rs s' hq => ?_)
  cases rs with
  | error er => exact hx pins σ H s er s' I hq
  | ok fl =>
    cases fl with
    | ret u => exact I.after hq
    | next => exact hq.elim
    | brk => exact hq.elim
    | cont => exact hq.elim
/-- what the text says of a method of the class at C -/
structure MethG (X : Cx) (S : Sg) (CX : CXT) (E : XK) (k : Nat) (C f : Addr) (m : Str) (fd : FuncData) (ps : List Str) (sg : SpG) : Prop where
  mono : MonoG sg
  at_ : PySem.W.findIn X.K (.ref C) m = some (some (.ref f))
  fn : PySem.W.isFn X.K (.ref f) = true
  ok : FnOk X.prog X.w X.K X.mg X.base CX k f fd ps (spG S sg)
  hb : Binds X.K fd ps []
  hx : Passes CX X E
theorem back_of {pins : List (Addr × Obj)} {σ : L2.St} {Qv : VK} {u : Value} {s : Shared} (h : EP X pins σ Qv u s) : PySem.W.CmpBack (EP X pins σ Qv) u s := by
  obtain ⟨v, H', I', rv, q⟩ := h
  cases u with
  | notImplemented => cases v <;> first | exact nomatch rv | exact nomatch rv.2
  | _ => exact ⟨v, H', I', rv, q⟩
/-- a op b, both of the class -/
theorem og_own {op : Operator} {ns ms : List Str} (M : MethG X S CX E k C f (PySem.dunder op.info.2) fd ps sg) (hr : Room k X.A) (hc : PySem.W.selfFirst X.K C = true)
    (h1 : Rcv S μ d C ns) (h2 : Rcv S μ e C ms) (h : AskG sg [d, e] μ Q) : OpG X S (binaryOp op) d e μ Q := by
  intro F N H x y r rx ry pins s σ v u I rv ru
  obtain ⟨a, dx, fvs, rfl, ha, _⟩ := h1.at r rx
  obtain ⟨b, dy, gvs, rfl, hb, _⟩ := h2.at r ry
  cases rv
  cases ru
  obtain ⟨mA, O, _⟩ := ins_get I.hok ha
  obtain ⟨od, J, _⟩ := O.look
  obtain ⟨mB, O', _⟩ := ins_get I.hok hb
  obtain ⟨od', J', _⟩ := O'.look
  obtain ⟨m, hF⟩ := I.fr
  refine PySem.W.binop_K hF I.ok.mod.kin J J'.type hc M.at_ M.fn ?_
  exact thn (run_at (vs := [.ref a, .ref b]) M.ok hr rfl M.hb M.hx I (.cons rfl (.cons rfl .nil)) (ask_sp M.mono r (.cons rx (.cons ry .nil)) h)) fun _ _ q => back_of q
/-- a comparison, the left one of the class -/
theorem rc_own {op : CmpOp} {ns : List Str} (M : MethG X S CX E k C f (PySem.cmpInfo op).2.1 fd ps sg) (hr : Room k X.A) (h1 : Rcv S μ d C ns)
    {tb : Value} (hn : PySem.W.notFirst X.K C tb = true) (hb : ∀ F N H y pins s σ u, RelM S F N H μ → Rp S (vis N H (adr μ)) y e → Inv X pins σ H s → RelV y u → PySem.W.Looks (model X.prog X.w) s.heap (typeOf u) tb)
    (h : AskG sg [d, e] μ Q) : OpG X S (richCompare op) d e μ Q := by
  intro F N H x y r rx ry pins s σ v u I rv ru
  obtain ⟨a, dx, fvs, rfl, ha, _⟩ := h1.at r rx
  cases rv
  obtain ⟨mA, O, _⟩ := ins_get I.hok ha
  obtain ⟨od, J, _⟩ := O.look
  obtain ⟨m, hF⟩ := I.fr
  refine PySem.W.cmp_K hr.units0 hF I.ok.mod.kin J (hb F N H y pins s σ u r ry I ru) hn M.at_ M.fn ?_
  exact thn (run_at (vs := [.ref a, y]) M.ok hr rfl M.hb M.hx I (.cons rfl (.cons ru .nil)) (ask_sp M.mono r (.cons rx (.cons ry .nil)) h)) fun _ _ q => back_of q
theorem looks_own {ns : List Str} (h2 : Rcv S μ e C ns) : ∀ F N H y pins s σ u, RelM S F N H μ → Rp S (vis N H (adr μ)) y e → Inv X pins σ H s → RelV y u → PySem.W.Looks (model X.prog X.w) s.heap (typeOf u) (.ref C) := by
  intro F N H y pins s σ u r ry I ru
  obtain ⟨b, dy, gvs, rfl, hb, _⟩ := h2.at r ry
  cases ru
  obtain ⟨mB, O', _⟩ := ins_get I.hok hb
  obtain ⟨od', J', _⟩ := O'.look
  exact J'.type
theorem looks_list {l : List D} (h2 : Drf μ e l) : ∀ F N H y pins s σ u, RelM S F N H μ → Rp S (vis N H (adr μ)) y e → Inv X pins σ H s → RelV y u → PySem.W.Looks (model X.prog X.w) s.heap (typeOf u) (.type "list") := by
  intro F N H y pins s σ u r ry I ru
  obtain ⟨b, ys, rfl, hb, _⟩ := h2.at r ry
  cases ru
  obtain ⟨_, its, n, _, ho⟩ := I.hok b _ hb
  exact (PySem.W.Looks.ld ho).andThen .now
/-- x in d, d of the class -/
theorem og_inOwn {ns : List Str} (M : MethG X S CX E k C f "__contains__" fd ps sg) (hr : Room k X.A) (h1 : Rcv S μ d C ns) (h : AskG sg [d, e] μ fun z μ' => ∃ b, z = .bl b ∧ Q (.bl b) μ') : OpG X S (compareOp .In) e d μ Q := by
  intro F N H y x r ry rx pins s σ u v I ru rv
  obtain ⟨a, dx, fvs, rfl, ha, _⟩ := h1.at r rx
  cases rv
  obtain ⟨mA, O, _⟩ := ins_get I.hok ha
  obtain ⟨od, J, _⟩ := O.look
  obtain ⟨m, hF⟩ := I.fr
  refine PySem.W.in_K hF I.ok.mod.kin J M.at_ M.fn ?_
  refine thn (run_at (vs := [.ref a, y]) M.ok hr rfl M.hb M.hx I (.cons rfl (.cons ru .nil)) (ask_sp M.mono r (.cons rx (.cons ry .nil)) h)) fun z s' ⟨w, H', I', rw', d', μ', r', rd, b, eb, q⟩ => ?_
  subst eb
  cases rd
  cases rw'
  exact wpAny_truthy_bool ⟨.bl b, H', I', rfl, _, μ', r', .bl b, q⟩
theorem og_niOwn {ns : List Str} (M : MethG X S CX E k C f "__contains__" fd ps sg) (hr : Room k X.A) (h1 : Rcv S μ d C ns) (h : AskG sg [d, e] μ fun z μ' => ∃ b, z = .bl b ∧ Q (.bl (!b)) μ') : OpG X S (compareOp .NotIn) e d μ Q := by
  intro F N H y x r ry rx pins s σ u v I ru rv
  obtain ⟨a, dx, fvs, rfl, ha, _⟩ := h1.at r rx
  cases rv
  obtain ⟨mA, O, _⟩ := ins_get I.hok ha
  obtain ⟨od, J, _⟩ := O.look
  obtain ⟨m, hF⟩ := I.fr
  refine PySem.W.notIn_K hF I.ok.mod.kin J M.at_ M.fn ?_
  refine thn (run_at (vs := [.ref a, y]) M.ok hr rfl M.hb M.hx I (.cons rfl (.cons ru .nil)) (ask_sp M.mono r (.cons rx (.cons ry .nil)) h)) fun z s' ⟨w, H', I', rw', d', μ', r', rd, b, eb, q⟩ => ?_
  subst eb
  cases rd
  cases rw'
  exact wpAny_truthy_bool ⟨.bl (!b), H', I', rfl, _, μ', r', .bl _, q⟩
/-- len(d), d of the class -/
theorem cg_lenOwn {ns : List Str} (M : MethG X S CX E k C f "__len__" fd ps sg) (hr : Room (k + 1) X.A) (h1 : Rcv S μ d C ns) (h : AskG sg [d] μ fun z μ' => ∃ n : Int, z = .int n ∧ (0 ≤ n ∧ n < 2 ^ 63) ∧ Q (.int n) μ') : CallG X S (.builtin "len") [d] μ Q := by
  intro F N H xs r rq pins s σ us I rv
  obtain ⟨x, rfl, rx⟩ := rq.one
  obtain ⟨u, rfl, ru⟩ := vals1 rv
  obtain ⟨a, dx, fvs, rfl, ha, _⟩ := h1.at r rx
  cases ru
  obtain ⟨mA, O, _⟩ := ins_get I.hok ha
  obtain ⟨od, J, _⟩ := O.look
  obtain ⟨m, hF⟩ := I.fr
  refine PySem.W.len_K hF I.ok.mod.kin J M.at_ M.fn ?_
  refine thn (run_at (vs := [.ref a]) M.ok hr.in1 rfl M.hb M.hx I (.cons rfl .nil) (ask_sp M.mono r (.cons rx .nil) h)) fun z s' ⟨w, H', I', rw', d', μ', r', rd, n, en, hn, q⟩ => ?_
  subst en
  cases rd
  obtain ⟨t, rfl⟩ := rw'
  exact ⟨hn, .int n, H', I'.tok _, ⟨_, rfl⟩, _, μ', r', .int n, q⟩
/-- d[e], d of the class -/
theorem ig_own {ns : List Str} (M : MethG X S CX E k C f "__getitem__" fd ps sg) (hfi : PySem.W.fnIn X.K f = true) (hr : Room (k + 1) X.A) (h1 : Rcv S μ d C ns) (h : AskG sg [d, e] μ Q)
    {a b : Expr} {pos : Pos} {Γ : Gm} {μ0 : Mem} (hsl : ∀ o i, subscripted b true o i = runValue (.builtin "lifetime.subscript" ⟨[o, i], []⟩) := by intro _ _; with_unfolding_all rfl) :
    ∀ F N H x y, RelM S F N H μ → Rp S (vis N H (adr μ)) x d → Rp S (vis N H (adr μ)) y e → OPt X (fun v u => subscriptTail a b v u) x y H (EndE S F N Q) := by
  intro F N H x y r rx ry pins s σ v u I rv ru
  obtain ⟨a, dx, fvs, rfl, ha, _⟩ := h1.at r rx
  cases rv
  obtain ⟨mA, O, _⟩ := ins_get I.hok ha
  obtain ⟨od, J, _⟩ := O.look
  obtain ⟨m, hF⟩ := I.fr
  refine PySem.W.sub_K hF I.ok.mod.kin J M.at_ hfi M.fn ?_ (hsl _ _)
  exact run_at (vs := [.ref a, y]) M.ok hr.in1 rfl M.hb M.hx I (.cons rfl (.cons ru .nil)) (ask_sp M.mono r (.cons rx (.cons ry .nil)) h)
theorem ev_ixOwn {a b : Expr} {pos : Pos} (hfi : PySem.W.fnIn X.K f = true) (hr : Room (k + 1) X.A) (M : MethG X S CX E k C f "__getitem__" fd ps sg)
    (h : EvG X S a Γ μ fun d1 μ1 => EvG X S b Γ μ1 fun d2 μ2 => ∃ ns, Rcv S μ2 d1 C ns ∧ AskG sg [d1, d2] μ2 Q)
    (hsl : ∀ o i, subscripted b true o i = runValue (.builtin "lifetime.subscript" ⟨[o, i], []⟩) := by intro _ _; with_unfolding_all rfl) : EvG X S (.Subscript a b pos) Γ μ Q := by
  intro F N σ H r rs pins s I
  refine Subscript_ (binT pe_ex pe_ex I (h.use r rs fun x H1 d1 μ1 r1 rs1 rx hb => hb.use (P := fun y H2 => OPt X (fun v u => subscriptTail a b v u) x y H2 (EndE S F N Q)) r1 rs1 fun y H2 d2 μ2 r2 rs2 ry ⟨ns, q1, q2⟩ => ?_) fun v u s2 x y H2 I2 rx ry q => q pins s2 σ v u I2 rx ry)
  exact ig_own M hfi hr q1 q2 (a := a) (b := b) (pos := pos) (Γ := Γ) (μ0 := μ) hsl F N H2 x y (r2.weakF (r.ext.trans r1.ext)) (rx.ext r2.ext) ry
end
/-! ### a def's body -/
def startG (N : List Str) (ds : List D) : Gm := ds.map some ++ List.replicate (N.length - ds.length) none
theorem start_rel {S : Sg} {Hv : Hp} {vs : List V} {ds : List D} {N : List Str} (h : RpA S Hv vs ds) : RelS S Hv (L2.start N vs) (startG N ds) := by
  have h2 : ∀ n, RelS S Hv (List.replicate n none) (List.replicate n none) := fun n => by
    induction n with
    | zero => exact .nil
    | succ n ih => exact .cons (fun d hd => by cases hd) ih
  have h1 : ∀ {vs : List V} {ds : List D} {σ : L2.St} {Γ : Gm}, RpA S Hv vs ds → RelS S Hv σ Γ → RelS S Hv (vs.map some ++ σ) (ds.map some ++ Γ) := by
    intro vs
    induction vs with
    | nil => intro ds σ Γ h t; cases h; exact t
    | cons v vs ih =>
      intro ds σ Γ h t
      cases h with
      | @cons _ _ d ds hv ht => exact .cons (fun e he => by cases he; exact ⟨v, rfl, hv⟩) (ih ht t)
  unfold L2.start startG
  rw [h.length]
  exact h1 h (h2 _)
section
variable {P : Program} {w : World} {K : PySem.W.Frag} {mg : Str → Option Value} {base : Heap} {S : Sg} {k : Nat} {f : Addr} {fd : FuncData} {N ps : List Str} {sg : SpG}
/-- a def that lets no exception out keeps its promise -/
theorem fun_ok {x qual : Str} {st : Stmt} (F : Fun K x qual st f fd) (sc : FnScope N ps (defScope st)) (len : ∀ ds μ Q, sg ds μ Q → ds.length = ps.length)
    (hbody : ∀ (cdv : Value) (A : Around) (outer : List Env) (s : Shared) (H : Hp) (E : XK) (ds : List D) (μ : Mem) (Q : QD), Room k (A.deeper (envOfC qual (defScope st) s.heap.objs.size f cdv)) → sg ds μ Q →
      BlG (cxOf CX0 P w K mg base N qual (defScope st) f cdv A outer s H E).nox S (defBody st) (startG N ds) μ { nx := fun _ μ' => Q .non μ', rt := Q }) :
    FnOk P w K mg base CX0 (k + 1) f fd ps (spG S sg) := by
  refine F.ok sc (fun vs H Q E h => ?_) (fun cdv A outer s H vs Q E hr h => ?_)
  · obtain ⟨_, _, ds, μ, _, rv, h⟩ := h
    rw [rv.length]
    exact len ds μ _ h
  · obtain ⟨F0, N0, ds, μ, r, rv, h⟩ := h
    refine ⟨_, pss_ex, fun pins s' I => ?_⟩
    refine thn (hbody cdv A outer s H E ds μ _ hr h F0 N0 (L2.start N vs) H r (start_rel rv) pins s' I) fun fl s2 q => ?_
    cases fl with
    | next =>
      obtain ⟨σ', H', I', Γ', μ', r', rs', q⟩ := q
      exact ⟨σ', H', I', q .non H' r' .non⟩
    | ret u =>
      obtain ⟨v, σ', H', I', rv', d', μ', r', rd, q⟩ := q
      exact ⟨v, σ', H', I', rv', q v H' r' rd⟩
    | brk => obtain ⟨σ', H', I', Γ', μ', r', rs', q⟩ := q; exact q.elim
    | cont => obtain ⟨σ', H', I', Γ', μ', r', rs', q⟩ := q; exact q.elim
end
end GL
namespace GL
open PySem L2 PySem.Spec PyProof.Rows
theorem kit_same {K : PySem.W.Frag} {c : Value} : PySem.W.kitOne K c c = some true := by
  unfold PySem.W.kitOne
  rw [if_pos (beq_self_eq_true c)]
theorem kit_other {K : PySem.W.Frag} {t : Value} {C : Addr} {b : Bool} (h1 : PySem.W.isClsIn K C = true) (h2 : PySem.W.typeIn K (.ref C) = some (.type "type")) (h3 : PySem.W.subIn K t (.ref C) = some b) (h4 : (t == .ref C) = false) : PySem.W.kitOne K t (.ref C) = some b := by
  have h1' : (PySem.W.clsIn K C).isSome = true := h1
  unfold PySem.W.kitOne PySem.W.kitCls
  rw [h4, if_neg Bool.false_ne_true]
  simp only [h1', h2, beq_self_eq_true, Bool.and_self, if_true]
  exact h3
end GL
namespace GL
open PySem L2 PySem.Spec PyProof.Rows
/-! ### short words -/
section
variable {X : Cx} {S : Sg} {a b c e o : Expr} {es : List Expr} {sts : List Stmt} {Γ : Gm} {μ : Mem} {Q : QD} {x : Str} {pos p : Pos} {d : D} {E : EG} {tg iter : Expr} {body : List Stmt}
/-- the name in slot i -/
theorem nm (i : Nat) (k : Q d μ) (hN : X.N[i]? = some x := by rfl) (hv : Vis X.env.scope x := by first | exact Or.inl rfl | exact Or.inr (Or.inl rfl) | exact Or.inr (Or.inr rfl)) (hΓ : Γ[i]? = some (some d) := by rfl)
    (hd : (x == ("__debug__" : Str)) = false := by decide) (hcd : (x == ("__classdict__" : Str)) = false := by decide) : EvG X S (.Name x pos) Γ μ Q := ev_name hN hv hΓ k hd hcd
/-- x = e; .. -/
theorem asg (i : Nat) {pos' : Pos} (nd : X.N.Nodup) (h : EvG X S e Γ μ fun d μ1 => BlG X S sts (Γ.set i (some d)) μ1 E) (hi : X.N[i]? = some x := by rfl) (hx : Loc X.env.scope x := by first | exact Or.inl rfl | exact Or.inr rfl)
    (hs : swapsWith e (some (.Name x pos')) pos.line X.env = pure false := by rfl) (hf : X.fn x = true ∨ X.env.scope.names.lookup x = some .local := by first | exact .inl rfl | exact .inr rfl) : BlG X S (.Assign [.Name x pos'] e pos :: sts) Γ μ E := bl_cons (st_set nd hi hx h hs hf)
/-- if c: ..; .. -/
theorem ifb {orelse : List Stmt} (h : EvT X S c Γ μ fun t μ1 => (t = true → BlG X S body Γ μ1 { E with nx := fun Γ' μ' => BlG X S sts Γ' μ' E }) ∧ (t = false → BlG X S orelse Γ μ1 { E with nx := fun Γ' μ' => BlG X S sts Γ' μ' E })) : BlG X S (.If c body orelse pos :: sts) Γ μ E := bl_cons (st_if h)
theorem ret (h : EvG X S e Γ μ E.rt) : BlG X S (.Return (some e) pos :: sts) Γ μ E := bl_cons (st_ret h)
theorem nil (k : E.nx Γ μ) : BlG X S [] Γ μ E := bl_nil k
theorem tn (i : Nat) {vs : List Nat} {P : Gm → Mem → Prop} (nd : X.N.Nodup) (k : P (Γ.set i (some d)) μ) (hv : i ∈ vs := by decide) (hi : X.N[i]? = some x := by rfl) (hx : Loc X.env.scope x := by first | exact Or.inl rfl | exact Or.inr rfl)
    (hf : X.fn x = true ∨ X.env.scope.names.lookup x = some .local := by first | exact .inl rfl | exact .inr rfl) : TgG X S vs (.Name x pos) d Γ μ P := tg_name hv nd hi hx k hf
/-- for tg in iter: ..; .. -/
theorem forb (hp : PassesOwn (model X.prog X.w) X.A X.env X.xe)
    (hi : IterG X S tg iter Γ μ fun Km ds μ1 => ∃ I : Nat → Gm → Mem → Prop, I 0 Γ μ1 ∧ (∀ i Γ' μ', I i Γ' μ' → Km μ') ∧
      (∀ i d Γ' μ', ds[i]? = some d → I i Γ' μ' → TgG X S (List.range 64) tg d Γ' μ' fun Γ2 μ2 => BlG X S body Γ2 μ2 { nx := I (i + 1), ct := I (i + 1), bk := fun Γ' μ' => BlG X S sts Γ' μ' E, rt := E.rt }) ∧
      (∀ Γ' μ', I ds.length Γ' μ' → BlG X S sts Γ' μ' E))
    (hc : X.calm = true := by rfl) (hs : ∀ x, foldedSetIterable iter X.env x = pure x := by intro _; rfl) : BlG X S (.For tg iter body [] pos :: sts) Γ μ E := bl_cons (st_for hp hc hi hs)
theorem append_at {a : Addr} {l : List D} {μ' : Mem} {d : D} (hu : Upd a (.lst l) (.lst (l ++ [d])) μ μ') (hl : l.length < 16777216) (k : Q .non μ') :
    ∀ F N H x xs, RelM S F N H μ → Rp S (vis N H (adr μ)) x (.ref a) → RpA S (vis N H (adr μ)) xs [d] → rAppend x xs H (EndE S F N Q) := fun F N H x xs r rx rq => by
  cases rx
  obtain ⟨v, rfl, rv⟩ := rq.one
  obtain ⟨ob, e, rm⟩ := r.find hu.mem
  cases rm with
  | @lst _ ys hs => exact ⟨a, ys, v, rfl, rfl, e, by rw [hs.length, sizeLine_eq]; exact hl, _, μ', r.put hu (.lst (hs.append (.cons rv .nil))), .non, k⟩
/-- a built-in type's method, by data -/
def MtG (X : Cx) (S : Sg) (id : String) (d : D) (ds : List D) (μ : Mem) (Q : QD) : Prop :=
  ∀ F N H x xs, RelM S F N H μ → Rp S (vis N H (adr μ)) x d → RpA S (vis N H (adr μ)) xs ds → ∃ r, MtR X id r ∧ ∃ Q0 : VK, r x xs H Q0 ∧ ∀ v H', Q0 v H' → EndE S F N Q v H'
def MTt (X : Cx) (id : String) : V → List V → Hp → VK → Prop := fun x xs H Q => ∃ r, MtR X id r ∧ ∃ Q0 : VK, r x xs H Q0 ∧ ∀ v H', Q0 v H' → Q v H'
theorem mtr_self {id : String} : MtR X id (MTt X id) := by
  intro pins s σ H x xs v us Q I rx rv h
  obtain ⟨r, hr, Q0, q, m⟩ := h
  exact thn (hr pins s σ H x xs v us Q0 I rx rv q) fun _ _ ⟨z, H', I', rz, q⟩ => ⟨z, H', I', rz, m _ _ q⟩
def tyD (μ : Mem) (T : String) (d : D) : Prop := match d with
  | .str _ => T = "str"
  | .lst _ => T = "list"
  | .ref a => T = "list" ∧ ∃ l, (a, M.lst l) ∈ μ
  | _ => False
theorem tyD_at {F N H : Hp} {T : String} {v : V} (h : tyD μ T d) (r : RelM S F N H μ) (rv : Rp S (vis N H (adr μ)) v d) : tyV X.K T v H := by
  cases rv with
  | str x => exact h
  | lst ha hs => exact .inl ⟨h, _, SqL.of (vis_le _ _ ha)⟩
  | ref a =>
    obtain ⟨h1, l, hm⟩ := h
    obtain ⟨o, e, rm⟩ := r.find hm
    cases rm with
    | lst hs => exact .inl ⟨h1, _, SqL.of e⟩
  | _ => exact h.elim
theorem ev_bm {name : Str} {apos : Pos} {T id : String} (pa : PlainAttrs T) (slot : Slot T name id) (hty : typeOf (.builtin id) = pure (.type "method_descriptor"))
    (h : EvG X S o Γ μ fun d μ1 => tyD μ1 T d ∧ EvA X S (e :: es) Γ μ1 fun ds μ2 => MtG X S id d ds μ2 Q)
    (hbase : attributeBase o name X.env (eval o X.env) = eval o X.env := by rfl)
    (hfew : ((backTo pos (starEach (e :: es) X.env)).all (fun x => !x.1) && (backToKw pos (keywordEach [] X.env)).all (fun x => x.1.isSome)
      && decide ((e :: es).length + ([] : List Keyword).length + (if ([] : List Keyword).isEmpty then 0 else 1) < 30)) = true := by rfl)
    (hline : (apos.endLine == pos.line) = true := by rfl) (hs : starEach (e :: es) X.env = (false, eval e X.env) :: starEach es X.env := by rfl) (hplain : (backTo pos (starEach es X.env)).any (·.1) = false := by rfl) :
    EvG X S (.Call (.Attribute o name apos) (e :: es) [] pos) Γ μ Q := by
  intro F N σ H r rs
  refine ex_of (pe_bm pa slot hty mtr_self pe_ex pa_ex hbase hfew hline hs hplain) (h.use r rs fun v H1 d μ1 r1 rs1 rd ⟨q1, q2⟩ => ⟨tyD_at q1 r1 rd, ?_⟩)
  exact q2.use r1 rs1 fun vs H2 ds μ2 r2 rs2 rds q => q F N H2 v vs (r2.weakF (r.ext.trans r1.ext)) (rd.ext r2.ext) rds
/-- xs.append(e) -/
theorem ev_app {apos : Pos} (h : EvG X S o Γ μ fun d μ1 => ∃ a, d = .ref a ∧ (∃ l, (a, M.lst l) ∈ μ1) ∧ EvA X S [e] Γ μ1 fun ds μ2 => ∃ y l μ3, ds = [y] ∧ Upd a (.lst l) (.lst (l ++ [y])) μ2 μ3 ∧ l.length < 16777216 ∧ Q .non μ3)
    (hbase : attributeBase o "append" X.env (eval o X.env) = eval o X.env := by rfl)
    (hfew : ((backTo pos (starEach [e] X.env)).all (fun x => !x.1) && (backToKw pos (keywordEach [] X.env)).all (fun x => x.1.isSome)
      && decide ([e].length + ([] : List Keyword).length + (if ([] : List Keyword).isEmpty then 0 else 1) < 30)) = true := by rfl)
    (hline : (apos.endLine == pos.line) = true := by rfl) (hs : starEach [e] X.env = (false, eval e X.env) :: starEach [] X.env := by rfl) (hplain : (backTo pos (starEach [] X.env)).any (·.1) = false := by rfl) :
    EvG X S (.Call (.Attribute o "append" apos) [e] [] pos) Γ μ Q := by
  refine ev_bm PySem.F.plainAttrs_list PySem.F.slot_list_append PySem.F.type_list_append (h.mono fun d μ1 ⟨a, ed, hl, q⟩ => ?_) hbase hfew hline hs hplain
  subst ed
  refine ⟨⟨rfl, hl⟩, fun F N σ H r rs => (q F N σ H r rs).mono fun vs H' ⟨ds, μ2, r2, rds, y, l, μ3, eds, u, hz, k⟩ => ⟨ds, μ2, r2, rds, ?_⟩⟩
  subst eds
  intro F N H x xs r rx rq
  exact ⟨_, mt_append, _, append_at u hz k F N H x xs r rx rq, fun _ _ q => q⟩
end
/-- a def (with or without defaults) that lets no exception out keeps its promise -/
theorem fund_ok {P : Program} {w : World} {K : PySem.W.Frag} {mg : Str → Option Value} {base : Heap} {S : Sg} {k : Nat} {f : Addr} {fd : FuncData} {N ps : List Str} {sg : SpG} {x qual : Str} {params : Arguments} {body : List Stmt} {scope : Scope} {dvs : List V} {kws : List (Str × V)}
    (F : FunD K x qual params body scope dvs kws f fd) (sc : FnScope N ps scope) (len : ∀ ds μ Q, sg ds μ Q → ds.length = ps.length)
    (hbody : ∀ (cdv : Value) (A : Around) (outer : List Env) (s : Shared) (H : Hp) (E : XK) (ds : List D) (μ : Mem) (Q : QD), Room k (A.deeper (envOfC qual scope s.heap.objs.size f cdv)) → sg ds μ Q →
      BlG (cxOf CX0 P w K mg base N qual scope f cdv A outer s H E).nox S body (startG N ds) μ { nx := fun _ μ' => Q .non μ', rt := Q }) :
    FnOk P w K mg base CX0 (k + 1) f fd ps (spG S sg) := by
  refine F.ok sc (fun vs H Q E h => ?_) (fun cdv A outer s H vs Q E hr h => ?_)
  · obtain ⟨_, _, ds, μ, _, rv, h⟩ := h
    rw [rv.length]
    exact len ds μ _ h
  · obtain ⟨F0, N0, ds, μ, r, rv, h⟩ := h
    refine ⟨_, PSs.nox pss_ex, fun pins s' I => ?_⟩
    refine thn (hbody cdv A outer s H E ds μ _ hr h F0 N0 (L2.start N vs) H r (start_rel rv) pins s' I) fun fl s2 q => ?_
    cases fl with
    | next =>
      obtain ⟨σ', H', I', Γ', μ', r', rs', q⟩ := q
      exact ⟨σ', H', I', q .non H' r' .non⟩
    | ret u =>
      obtain ⟨v, σ', H', I', rv', d', μ', r', rd, q⟩ := q
      exact ⟨v, σ', H', I', rv', q v H' r' rd⟩
    | brk => obtain ⟨σ', H', I', Γ', μ', r', rs', q⟩ := q; exact q.elim
    | cont => obtain ⟨σ', H', I', Γ', μ', r', rs', q⟩ := q; exact q.elim
end GL
namespace GL
open PySem L2
theorem fund_fun {K : PySem.W.Frag} {x qual : Str} {st : Stmt} {f : Addr} {fd : FuncData} {kws : List (Str × V)} (F : FunD K x qual (defArgs st) (defBody st) (defScope st) [] kws f fd) : Fun K x qual st f fd := by
  obtain ⟨oc, od, dV, kV, doc, pm, an, cdv, ct, osl, e, lk, hcd, hD, _⟩ := F.ex
  rcases hD with ⟨_, rfl⟩ | ⟨h, _⟩
  · exact ⟨⟨oc, od, kV, doc, pm, an, cdv, ct, osl, e, lk, hcd⟩, F.kp⟩
  · exact absurd rfl h
end GL
namespace GL
open PySem L2
theorem iv_seq {X : Cx} {S : Sg} {tg : Expr} {μ : Mem} {R : RI} {d : D} {l : List D} (hK : X.K = S.K) (h : d = .lst l ∨ d = .tup l) (k : R (fun _ => True) l μ) : IterV X S tg d μ R := by
  rcases h with rfl | rfl
  · exact iv_lst hK k
  · exact iv_tup hK k
theorem hu_room {A : Around} {k : Nat} (hr : Room k A) : A.units + 65 < cLine := by have := hr.un; omega
end GL
namespace GL
theorem few {n : Nat} (h : Nat.ble n 16777216 = true := by rfl) : n ≤ 16777216 := Nat.le_of_ble_eq_true h
end GL
namespace GL
open PySem L2
/-- a promise that leaves the memory alone -/
def pr (R : List D → D → Prop) : SpG := fun ds μ Q => ∃ d, R ds d ∧ Q d μ
theorem pr_mono {R : List D → D → Prop} : MonoG (pr R) := fun _ _ _ _ ⟨d, h, q⟩ m => ⟨d, h, m _ _ q⟩
theorem ask_pr {R : List D → D → Prop} {ds : List D} {μ : Mem} {Q : QD} {d : D} (h : R ds d) (q : Q d μ) : AskG (pr R) ds μ Q := ⟨[], μ, Split.none μ, d, h, q⟩
theorem rOr {α : Type} {a b : α} (h : a = b) : a = b := h
end GL
namespace GL
open PySem L2
theorem b_len : bootBuiltins "len" = some (.builtin "len") := by decide +kernel
theorem b_all : bootBuiltins "all" = some (.builtin "all") := by decide +kernel
theorem b_any : bootBuiltins "any" = some (.builtin "any") := by decide +kernel
theorem b_sum : bootBuiltins "sum" = some (.builtin "sum") := by decide +kernel
theorem b_isinstance : bootBuiltins "isinstance" = some (.builtin "isinstance") := by decide +kernel
theorem b_list : bootBuiltins "list" = some (.type "list") := by decide +kernel
theorem b_tuple : bootBuiltins "tuple" = some (.type "tuple") := by decide +kernel
theorem b_int : bootBuiltins "int" = some (.type "int") := by decide +kernel
theorem b_bool : bootBuiltins "bool" = some (.type "bool") := by decide +kernel
end GL
namespace GL
open PySem L2
section
variable {X : Cx} {S : Sg} {Γ : Gm} {μ : Mem} {Q : QD} {x f : Str} {pos p : Pos} {d y : D} {C : Addr}
/-- x.f of the name in slot i -/
theorem fld (i : Nat) (c : Cls X.K C) (n : NoAttr X.K C f) (h : FldG S μ d C f y) (k : Q y μ) (hN : X.N[i]? = some x := by rfl) (hv : Vis X.env.scope x := by first | exact Or.inl rfl | exact Or.inr (Or.inl rfl) | exact Or.inr (Or.inr rfl)) (hΓ : Γ[i]? = some (some d) := by rfl)
    (hd : (x == ("__debug__" : Str)) = false := by decide) (hcd : (x == ("__classdict__" : Str)) = false := by decide) (hb : attributeBase (.Name x p) f X.env (eval (.Name x p) X.env) = eval (.Name x p) X.env := by rfl) : EvG X S (.Attribute (.Name x p) f pos) Γ μ Q :=
  ev_fld c n (ev_name hN hv hΓ ⟨y, h, k⟩ hd hcd) hb
theorem ea_few {L : List D → Nat} {P' : List D → Mem → Prop} (k : P' [] μ) (h : L [] ≤ 16777216 := by exact few) : EvA X S [] Γ μ fun ds μ1 => L ds ≤ 16777216 ∧ P' ds μ1 := ea_nil ⟨h, k⟩
theorem isi {C : Addr} {t : Value} {b : Bool} (ty : TyD S μ d t) (e : PySem.W.kitOne S.K t (.ref C) = some b) (k : Q (.bl b) μ) (hK : X.K = S.K := by rfl) : CallG X S (.builtin "isinstance") [d, .ref C] μ Q := cg_isi hK ty e k
end
end GL
namespace GL
open PySem L2 PySem.Spec PyProof.Rows
/-! ### spots: pairs of texts -/
abbrev OkS (x : Str) : Prop := PyData.strOk x = true
abbrev Sp2 := Str × Str
def OkP (p : Sp2) : Prop := OkS p.1 ∧ OkS p.2
def spD (p : Sp2) : D := .tup [.str p.1, .str p.2]
theorem spD_ok {p : Sp2} (h : OkP p) : D.ok 1 (spD p) = true := by
  have h1 : PyData.strOk p.1 = true := h.1
  have h2 : PyData.strOk p.2 = true := h.2
  simp [spD, D.ok, D.okA, h1, h2]
theorem spDs_ok {ps : List Sp2} (h : ∀ p ∈ ps, OkP p) : D.okA 1 (ps.map spD) = true := by
  rw [D.okA_all]
  intro d hd
  obtain ⟨p, hp, rfl⟩ := List.mem_map.mp hd
  exact spD_ok (h p hp)
theorem strs_ok {ns : List Str} (h : ∀ n ∈ ns, OkS n) : D.okA 0 (ns.map D.str) = true := by
  rw [D.okA_all]
  intro d hd
  obtain ⟨p, hp, rfl⟩ := List.mem_map.mp hd
  have := h p hp
  simp only [D.ok]
  exact this
theorem eqv_str (x y : Str) : D.eqv (.str x) (.str y) = decide (x = y) := by
  simp only [D.eqv, D.py, PyData.eqv]
  exact Bool.beq_eq_decide_eq x y
theorem eqv_sp (p q : Sp2) : D.eqv (spD p) (spD q) = decide (p = q) := by
  obtain ⟨a, b⟩ := p
  obtain ⟨c, d⟩ := q
  simp only [D.eqv, spD, D.py, D.pyA, PyData.eqv, PyData.eqvAll, Bool.and_true]
  rw [Bool.eq_iff_iff]
  simp
theorem inL_sp (p : Sp2) (qs : List Sp2) : D.inL (spD p) (qs.map spD) = decide (p ∈ qs) := by
  unfold D.inL
  rw [List.any_map]
  induction qs with
  | nil => simp
  | cons q qs ih =>
    rw [List.any_cons, ih]
    show (D.eqv (spD q) (spD p) || decide (p ∈ qs)) = decide (p ∈ q :: qs)
    rw [eqv_sp]
    by_cases h : q = p
    · rw [decide_eq_true h, Bool.true_or, decide_eq_true (h ▸ List.mem_cons_self)]
    · rw [decide_eq_false h, Bool.false_or]
      refine decide_eq_decide.mpr ⟨fun z => List.mem_cons_of_mem _ z, fun z => ?_⟩
      rcases List.mem_cons.mp z with z | z
      · exact absurd z.symm h
      · exact z
theorem inL_str (p : Str) (qs : List Str) : D.inL (.str p) (qs.map D.str) = decide (p ∈ qs) := by
  unfold D.inL
  rw [List.any_map]
  induction qs with
  | nil => simp
  | cons q qs ih =>
    rw [List.any_cons, ih]
    show (D.eqv (.str q) (.str p) || decide (p ∈ qs)) = decide (p ∈ q :: qs)
    rw [eqv_str]
    by_cases h : q = p
    · rw [decide_eq_true h, Bool.true_or, decide_eq_true (h ▸ List.mem_cons_self)]
    · rw [decide_eq_false h, Bool.false_or]
      refine decide_eq_decide.mpr ⟨fun z => List.mem_cons_of_mem _ z, fun z => ?_⟩
      rcases List.mem_cons.mp z with z | z
      · exact absurd z.symm h
      · exact z
theorem eqv_list {α : Type} [DecidableEq α] (f : α → D) (h : ∀ a b, D.eqv (f a) (f b) = decide (a = b)) : ∀ xs ys : List α, D.eqv (.lst (xs.map f)) (.lst (ys.map f)) = decide (xs = ys)
  | [], [] => by simp [D.eqv, D.py, D.pyA, PyData.eqv, PyData.eqvAll]
  | [], _ :: _ => by simp [D.eqv, D.py, D.pyA, PyData.eqv, PyData.eqvAll]
  | _ :: _, [] => by simp [D.eqv, D.py, D.pyA, PyData.eqv, PyData.eqvAll]
  | x :: xs, y :: ys => by
    have ih := eqv_list f h xs ys
    have h1 := h x y
    simp only [D.eqv, D.py, D.pyA, PyData.eqv, PyData.eqvAll, List.map_cons] at ih h1 ⊢
    rw [ih, h1, Bool.eq_iff_iff]
    simp
theorem eqv_sps (ps qs : List Sp2) : D.eqv (.lst (ps.map spD)) (.lst (qs.map spD)) = decide (ps = qs) := eqv_list spD eqv_sp ps qs
/-- each once, in the order of the first occurrences -/
def once (ps : List Sp2) : List Sp2 := ps.foldl (fun acc p => if p ∈ acc then acc else acc ++ [p]) []
theorem once_snoc (ps : List Sp2) (p : Sp2) : once (ps ++ [p]) = if p ∈ once ps then once ps else once ps ++ [p] := by
  unfold once
  rw [List.foldl_append]
  rfl
theorem take_snoc {α : Type} {l : List α} {i : Nat} {x : α} (h : l[i]? = some x) : l.take (i + 1) = l.take i ++ [x] := by
  rw [List.take_succ, h]
  rfl
theorem map_at {α : Type} {f : α → D} {l : List α} {i : Nat} {d : D} (h : (l.map f)[i]? = some d) : ∃ x, l[i]? = some x ∧ d = f x := by
  rw [List.getElem?_map] at h
  cases e : l[i]? with
  | none => rw [e] at h; cases h
  | some x => rw [e] at h; exact ⟨x, rfl, (Option.some.inj h).symm⟩
theorem once_len (ps : List Sp2) : (once ps).length ≤ ps.length := by
  have : ∀ (ps acc : List Sp2), (ps.foldl (fun acc p => if p ∈ acc then acc else acc ++ [p]) acc).length ≤ acc.length + ps.length := by
    intro ps
    induction ps with
    | nil => intro acc; simp
    | cons p ps ih =>
      intro acc
      rw [List.foldl_cons, List.length_cons]
      have := ih (if p ∈ acc then acc else acc ++ [p])
      have h2 : (if p ∈ acc then acc else acc ++ [p]).length ≤ acc.length + 1 := by
        split
        · omega
        · rw [List.length_append, List.length_singleton]; omega
      omega
  have := this ps []
  simpa [once] using this
theorem mem_once {ps : List Sp2} {p : Sp2} : p ∈ once ps ↔ p ∈ ps := by
  have : ∀ (ps acc : List Sp2), p ∈ ps.foldl (fun acc p => if p ∈ acc then acc else acc ++ [p]) acc ↔ p ∈ acc ∨ p ∈ ps := by
    intro ps
    induction ps with
    | nil => intro acc; simp
    | cons q ps ih =>
      intro acc
      rw [List.foldl_cons, ih, List.mem_cons]
      split
      · rename_i h
        constructor
        · rintro (h1 | h1)
          · exact .inl h1
          · exact .inr (.inr h1)
        · rintro (h1 | rfl | h1)
          · exact .inl h1
          · exact .inl h
          · exact .inr h1
      · rw [List.mem_append, List.mem_singleton]
        constructor
        · rintro ((h1 | h1) | h1)
          · exact .inl h1
          · exact .inr (.inl h1)
          · exact .inr (.inr h1)
        · rintro (h1 | h1 | h1)
          · exact .inl (.inl h1)
          · exact .inl (.inr h1)
          · exact .inr h1
  have := this ps []
  simpa [once] using this
theorem once_nodup (ps : List Sp2) : (once ps).Nodup := by
  have : ∀ (ps acc : List Sp2), acc.Nodup → (ps.foldl (fun acc p => if p ∈ acc then acc else acc ++ [p]) acc).Nodup := by
    intro ps
    induction ps with
    | nil => intro acc h; exact h
    | cons q ps ih =>
      intro acc h
      rw [List.foldl_cons]
      refine ih _ ?_
      split
      · exact h
      · rename_i hq
        exact List.nodup_append.mpr ⟨h, by simp, fun a ha b hb e => hq (by rw [List.mem_singleton] at hb; rw [← hb, ← e]; exact ha)⟩
  exact this ps [] List.nodup_nil
theorem once_same {ps : List Sp2} (h : ps.Nodup) : once ps = ps := by
  have : ∀ (ps acc : List Sp2), (acc ++ ps).Nodup → ps.foldl (fun acc p => if p ∈ acc then acc else acc ++ [p]) acc = acc ++ ps := by
    intro ps
    induction ps with
    | nil => intro acc _; simp
    | cons q ps ih =>
      intro acc h
      rw [List.foldl_cons]
      have hq : q ∉ acc := fun hq => (List.nodup_append.mp h).2.2 q hq q List.mem_cons_self rfl
      rw [if_neg hq, ih (acc ++ [q]) (by simpa using h)]
      simp
  simpa [once] using this ps [] (by simpa using h)
theorem cut_tl {l : List D} {n : Nat} : cutD l none (some (n : Int)) = l.take n := by
  unfold cutD
  rw [HT.sIx_none, HT.sIx_nat, List.drop_zero, Nat.sub_zero]
  by_cases h : n ≤ l.length
  · rw [Nat.min_eq_left h]
  · rw [Nat.min_eq_right (by omega), List.take_of_length_le (Nat.le_refl _), List.take_of_length_le (by omega)]
end GL
namespace GL
open PySem L2 PySem.Spec PyProof.Rows
section
variable {S : Sg} {F N H : Hp} {μ μ' : Mem}
theorem vis_perm (p : μ.Perm μ') : vis N H (adr μ') = vis N H (adr μ) := by
  funext b
  have h : b ∈ adr μ' ↔ b ∈ adr μ := ((p.map (·.1)).mem_iff).symm
  unfold vis
  by_cases hb : (N b).isSome = true ∨ b ∈ adr μ
  · rw [if_pos hb, if_pos (hb.imp id h.mpr)]
  · rw [if_neg hb, if_neg fun z => hb (z.imp id h.mp)]
theorem RelM.perm (r : RelM S F N H μ) (p : μ.Perm μ') : RelM S F N H μ' := by
  have ev : vis N H (adr μ') = vis N H (adr μ) := vis_perm p
  refine ⟨r.hid, fun a ha => r.dis a (((p.map (·.1)).mem_iff).mpr ha), by rw [ev]; exact r.ext, (p.map (·.1)).nodup_iff.mp r.nd, fun q hq => ?_⟩
  rw [ev]
  exact r.mem q (p.mem_iff.mpr hq)
end
section
variable {X : Cx} {S : Sg} {a b c e o : Expr} {es : List Expr} {sts : List Stmt} {Γ : Gm} {μ μ' : Mem} {Q : QD} {x : Str} {pos p : Pos} {d : D} {E : EG}
theorem bl_perm (hp : μ.Perm μ') (h : BlG X S sts Γ μ' E) : BlG X S sts Γ μ E := fun F N σ H r rs => h F N σ H (r.perm hp) (by rw [vis_perm hp]; exact rs)
/-- a list that is to be changed, behind all others -/
theorem ev_lstE (h : EvA X S es Γ μ fun ds μ1 => ds.length ≤ 16777216 ∧ ∀ p, p ∉ adr μ1 → Q (.ref p) (μ1 ++ [(p, .lst ds)])) : EvG X S (.List es pos) Γ μ Q := by
  intro F N σ H r rs
  refine ex_of (pe_lst pa_ex) (h.use r rs fun vs H1 ds μ1 r1 rs1 rd q => ?_)
  refine ⟨by rw [rd.length, sizeLine_eq]; exact q.1, fun p hp => ?_⟩
  have pm : ((p, M.lst ds) :: μ1).Perm (μ1 ++ [(p, .lst ds)]) := (List.perm_append_singleton _ _).symm
  have r2 := (r1.weakF r.ext).allocM (m := .lst ds) hp (.lst rd)
  exact ⟨_, _, r2.perm pm, .ref p, q.2 p (adr_new r1 hp)⟩
theorem cg_listE {l : List D} (hK : X.K = S.K) (h : DrfT μ d l) (k : ∀ p, p ∉ adr μ → Q (.ref p) (μ ++ [(p, .lst l)])) : CallG X S (.type "list") [d] μ Q := fun F N H xs r rq => by
  obtain ⟨v, rfl, rv⟩ := rq.one
  obtain ⟨a, ys, rfl, hq, hs⟩ := sq_at hK h r rv
  refine cp_of call_list_of ⟨a, ys, rfl, hq, fun p hp => ?_⟩
  have pm : ((p, M.lst l) :: μ).Perm (μ ++ [(p, .lst l)]) := (List.perm_append_singleton _ _).symm
  exact ⟨_, _, (r.allocM hp (.lst hs)).perm pm, .ref p, k p (adr_new r hp)⟩
/-- o[i] = .. -/
theorem tg_sub {i : Expr} {vs : List Nat} {P : Gm → Mem → Prop} (h : EvG X S o Γ μ fun od μ1 => EvG X S i Γ μ1 fun id μ2 => ∃ a l k j μ3, od = .ref a ∧ id = .int k ∧ ixN l.length k = some j ∧ Upd a (.lst l) (.lst (l.set j d)) μ2 μ3 ∧ P Γ μ3)
    (ha : ∀ v, assign (.Subscript o i pos) X.env v = (do
      let ov ← holding [v] (eval o X.env)
      let iv ← holding [v, ov] (eval i X.env)
      standAt pos
      holding [v, ov, iv] (setItem ov iv v)
      release [v, ov, iv] []) := by intro _; rfl) : TgG X S vs (.Subscript o i pos) d Γ μ P := fun F N σ H v r rs rv => by
  refine gx_of (pg_sub pe_ex pe_ex set_list ha) ?_
  refine h.use r rs fun ov H1 od μ1 r1 rs1 ro q1 => ?_
  refine q1.use r1 rs1 fun iv H2 id μ2 r2 rs2 ri ⟨a, l, k, j, μ3, e1, e2, hj, u, q⟩ => ?_
  subst e1 e2
  cases ro
  cases ri
  obtain ⟨ob, e, rm⟩ := r2.find u.mem
  cases rm with
  | @lst _ xs hs =>
  refine ⟨a, xs, k, j, rfl, rfl, e, by rw [hs.length]; exact hj, rfl, Γ, μ3, (r2.weakF (r.ext.trans r1.ext)).put u (.lst (hs.set j (rv.ext (r1.ext.trans r2.ext)))), ?_, q⟩
  rw [u.adr, vis_upd (List.mem_map_of_mem u.mem)]
  exact rs2
theorem setb {tg : Expr} (h : EvG X S e Γ μ fun d μ1 => TgG X S (List.range 64) tg d Γ μ1 fun Γ' μ' => BlG X S sts Γ' μ' E) (hs : swapsWithSole [tg] e pos.line X.env = pure false := by rfl) (hw : swappedStores [tg] e X.env = pure none := by rfl)
    (h1 : (assignEach [tg] X.env).map (·.2) = [assign tg X.env] := by rfl) : BlG X S (.Assign [tg] e pos :: sts) Γ μ E := bl_cons (st_asg h hs hw h1)
theorem exb (h : EvG X S e Γ μ fun _ μ' => BlG X S sts Γ μ' E) (hs : swapsWith e none pos.line X.env = pure false := by rfl) : BlG X S (.Expr e pos :: sts) Γ μ E := bl_cons (st_expr h hs)
theorem og_fdivW {i j : Int} (c : CDivW i j) (k : Q (.int (i / j)) μ) : OpG X S (binaryOp .FloorDiv) (.int i) (.int j) μ Q := fun F N H u v r ru rv => by cases ru; cases rv; exact op_of op_fdivW ⟨i, j, rfl, rfl, c, _, μ, r, .int _, k⟩
/-- x[i] of names in slots i, j etc.: items of a list of the memory -/
theorem ix (hs : PlainIx b := by exact fun _ _ => rfl) (h : EvG X S a Γ μ fun d1 μ1 => EvG X S b Γ μ1 fun d2 μ2 => IxG X S d1 d2 μ2 Q) : EvG X S (.Subscript a b pos) Γ μ Q := ev_ix hs h
theorem mt_join {z : Str} {xs : List Str} (hd : d = .lst (xs.map D.str)) (hz : (xs.map (·.length)).sum + xs.length * z.length ≤ 16777216) (k : Q (.str (Txt.join z xs)) μ) : MtG X S "str.join" (.str z) [d] μ Q := by
  intro F N H v vs r rv rq
  subst hd
  cases rv
  obtain ⟨w, rfl, rw'⟩ := rq.one
  cases rw' with
  | @lst a ys _ ha hs =>
  have hy : ∀ {xs : List Str} {ys : List V}, RpA S (vis N H (adr μ)) ys (xs.map D.str) → ys = xs.map V.str := by
    intro xs
    induction xs with
    | nil => intro ys h; cases h; rfl
    | cons x xs ih =>
      intro ys h
      cases h with
      | cons h t =>
      cases h
      rw [ih t]
      rfl
  have e := hy hs
  subst e
  exact ⟨_, L2.mt_join, _, ⟨z, a, xs, rfl, rfl, .inl (SqL.of (vis_le _ _ ha)), hz, _, μ, r, .str _, k⟩, fun _ _ q => q⟩
end
/-! ### the draws -/
def PoolOk (l : List D) : Prop := (∃ n : Int, 0 ≤ n ∧ l = [.int n]) ∨
  ∃ (x k : Int) (cs : List Int), l = [.int x, .int k, .lst (cs.map D.int)] ∧ (0 ≤ x ∧ x < 65537) ∧ 0 ≤ k ∧ cs ≠ [] ∧ cs.length ≤ 63 ∧ ∀ c ∈ cs, 0 ≤ c ∧ c < 65537
def sg_take : SpG := fun ds μ Q => ∃ a l n, ds = [.ref a, .int n] ∧ μ = [(a, .lst l)] ∧ PoolOk l ∧ (0 < n ∧ n < 2 ^ 200) ∧ ∀ r l', 0 ≤ r → r < n → PoolOk l' → Q (.int r) [(a, .lst l')]
theorem take_mono : MonoG sg_take := fun _ _ _ _ ⟨a, l, n, h1, h2, h3, h4, q⟩ m => ⟨a, l, n, h1, h2, h3, h4, fun r l' a1 a2 a3 => m _ _ (q r l' a1 a2 a3)⟩
/-- a draw of n, the pool first in the memory -/
theorem ask_take {a : Addr} {l : List D} {n : Int} {μ : Mem} {Q : QD} (h : PoolOk l) (hn : 0 < n ∧ n < 2 ^ 200) (q : ∀ r l', 0 ≤ r → r < n → PoolOk l' → Q (.int r) ((a, .lst l') :: μ)) : AskG sg_take [.ref a, .int n] ((a, .lst l) :: μ) Q :=
  ⟨[(a, .lst l)], μ, .l (Split.none μ), a, l, n, rfl, rfl, h, hn, q⟩
theorem ixN0 {n : Nat} (h : 0 < n) : ixN n 0 = some 0 := by
  unfold ixN
  rw [if_pos (by decide), if_pos (by omega)]
  rfl
theorem atI_mod {cs : List Int} {k : Int} (h : cs ≠ []) (hk : 0 ≤ k) : ∃ c, c ∈ cs ∧ atI (cs.map D.int) (k % (cs.length : Int)) = some (.int c) := by
  have hl : 0 < cs.length := List.length_pos_iff.mpr h
  have h1 : 0 ≤ k % (cs.length : Int) := Int.emod_nonneg _ (by omega)
  have h2 : k % (cs.length : Int) < cs.length := Int.emod_lt_of_pos _ (by omega)
  obtain ⟨j, hj⟩ := Int.eq_ofNat_of_zero_le h1
  rw [hj] at h2 ⊢
  have h3 : j < cs.length := by omega
  refine ⟨cs[j], List.getElem_mem h3, atI_nat ?_⟩
  rw [List.getElem?_map, List.getElem?_eq_getElem h3]
  rfl
end GL
namespace GL
open PySem L2 PySem.Spec PyProof.Rows TL
/-! ### texts by their codes -/
abbrev cs (z : Str) : List Nat := z.cps.toList
theorem cs_len (z : Str) : z.length = (cs z).length := by
  show z.cps.size = z.cps.toList.length
  simp
theorem cs_app (x y : Str) : cs (x ++ y) = cs x ++ cs y := by
  show (x.cps ++ y.cps).toList = _
  simp
theorem cs_one (c : Nat) : cs ⟨#[c]⟩ = [c] := rfl
theorem cs_ext {x y : Str} (h : cs x = cs y) : x = y := by
  obtain ⟨a⟩ := x
  obtain ⟨b⟩ := y
  have : a = b := Array.toList_inj.mp h
  rw [this]
theorem OkS_of {z : Str} (h : ∀ c ∈ cs z, c < 1114112) : OkS z := by
  show z.cps.all (· < 0x110000) = true
  rw [← Array.all_toList]
  exact List.all_eq_true.mpr fun c hc => decide_eq_true (h c hc)
/-- the letters of a base, the marks of the names -/
def baseC : List Nat := cs ("mnopqrstuvwxyz0123456789" : Str)
def markC : List Nat := cs ("afkdibglejch" : Str)
theorem base_len : baseC.length = 24 := by decide +kernel
theorem mark_len : markC.length = 12 := by decide +kernel
theorem base_lt : ∀ c ∈ baseC, c < 1114112 := by decide +kernel
theorem mark_lt : ∀ c ∈ markC, c < 1114112 := by decide +kernel
theorem base_mark : ∀ c ∈ baseC, c ∉ markC := by decide +kernel
theorem mark_nd : markC.Nodup := by decide +kernel
def BaseOk (z : Str) : Prop := (cs z).length ≤ 11 ∧ ∀ c ∈ cs z, c ∈ baseC
/-- the k-th name: the k-th mark among base letters -/
def NameOk (k : Nat) (z : Str) : Prop := ∃ x y c, cs z = x ++ c :: y ∧ markC[k]? = some c ∧ (∀ c ∈ x ++ y, c ∈ baseC) ∧ (x ++ y).length ≤ 11
theorem NameOk.ok {k : Nat} {z : Str} (h : NameOk k z) : OkS z := by
  obtain ⟨x, y, c, e, hc, hb, _⟩ := h
  refine OkS_of fun d hd => ?_
  rw [e] at hd
  rcases List.mem_append.mp hd with hd | hd
  · exact base_lt d (hb d (List.mem_append_left _ hd))
  · rcases List.mem_cons.mp hd with rfl | hd
    · exact mark_lt d (List.mem_of_getElem? hc)
    · exact base_lt d (hb d (List.mem_append_right _ hd))
theorem NameOk.len {k : Nat} {z : Str} (h : NameOk k z) : z.length ≤ 12 := by
  obtain ⟨x, y, c, e, hc, hb, hl⟩ := h
  rw [cs_len, e]
  simp only [List.length_append, List.length_cons] at hl ⊢
  omega
theorem NameOk.inj {i j : Nat} {z : Str} (h : NameOk i z) (h' : NameOk j z) : i = j := by
  obtain ⟨x, y, c, e, hc, hb, _⟩ := h
  obtain ⟨x', y', c', e', hc', hb', _⟩ := h'
  have hm : c ∈ cs z := by rw [e]; simp
  rw [e'] at hm
  have hcm : c ∈ markC := List.mem_of_getElem? hc
  have : c = c' := by
    rcases List.mem_append.mp hm with hd | hd
    · exact absurd hcm (base_mark c (hb' c (List.mem_append_left _ hd)))
    · rcases List.mem_cons.mp hd with rfl | hd
      · rfl
      · exact absurd hcm (base_mark c (hb' c (List.mem_append_right _ hd)))
  subst this
  obtain ⟨h1, e1⟩ := List.getElem?_eq_some_iff.mp hc
  obtain ⟨h2, e2⟩ := List.getElem?_eq_some_iff.mp hc'
  exact (List.getElem_inj mark_nd).mp (e1.trans e2.symm)
theorem joinL_nil : ∀ l : List (List Nat), joinL [] l = l.flatten
  | [] => rfl
  | [x] => by simp [joinL]
  | x :: y :: l => by
    have ih := joinL_nil (y :: l)
    show x ++ ([] ++ joinL [] (y :: l)) = _
    rw [ih]
    simp
theorem flat_one : ∀ xs : List Nat, (xs.map fun c => tl (⟨#[c]⟩ : Str)).flatten = xs
  | [] => rfl
  | x :: xs => by
    show [x] ++ (xs.map fun c => tl (⟨#[c]⟩ : Str)).flatten = _
    rw [flat_one xs]
    rfl
theorem join_cs (xs : List Nat) : cs (Txt.join (Str.ofString "") (xs.map fun c => (⟨#[c]⟩ : Str))) = xs := by
  rw [join_eq]
  have h := tl_join (Str.ofString "") (xs.map fun c => (⟨#[c]⟩ : Str))
  have e0 : tl (Str.ofString "") = [] := by decide +kernel
  rw [e0, joinL_nil, List.map_map] at h
  exact h.trans (flat_one xs)
theorem cutS_tl {z : Str} {n : Nat} : cs (cutS z none (some (n : Int))) = (cs z).take n := by
  show (((z.cps.toList.drop (HT.sIx z.length 0 none)).take (HT.sIx z.length z.length (some (n : Int)) - HT.sIx z.length 0 none)).toArray).toList = _
  rw [HT.sIx_none, HT.sIx_nat, List.drop_zero, Nat.sub_zero]
  show (cs z).take (min n z.length) = _
  rw [cs_len]
  by_cases h : n ≤ (cs z).length
  · rw [Nat.min_eq_left h]
  · rw [Nat.min_eq_right (by omega), List.take_of_length_le (Nat.le_refl _), List.take_of_length_le (by omega)]
theorem cutS_hd {z : Str} {n : Nat} : cs (cutS z (some (n : Int)) none) = (cs z).drop n := by
  show (((z.cps.toList.drop (HT.sIx z.length 0 (some (n : Int)))).take (HT.sIx z.length z.length none - HT.sIx z.length 0 (some (n : Int)))).toArray).toList = _
  rw [HT.sIx_none, HT.sIx_nat]
  show ((cs z).drop (min n z.length)).take (z.length - min n z.length) = _
  rw [cs_len]
  by_cases h : n ≤ (cs z).length
  · rw [Nat.min_eq_left h, List.take_of_length_le (by rw [List.length_drop]; exact Nat.le_refl _)]
  · rw [Nat.min_eq_right (by omega), List.drop_of_length_le (Nat.le_refl _), List.drop_of_length_le (by omega)]
    simp
end GL
namespace GL
open PySem L2 PySem.Spec PyProof.Rows
theorem ItOk.weak {S : Sg} {J : It} {Km Km' : Mem → Prop} {ds : List D} {Fv : Hp} (h : ItOk S J Km ds Fv) (w : ∀ μ, Km' μ → Km μ) : ItOk S J Km' ds Fv := fun N i H2 μ2 r k => h N i H2 μ2 r (w μ2 k)
/-- a list, a tuple, or a list that stands in the memory -/
theorem iv_any {X : Cx} {S : Sg} {tg : Expr} {μ : Mem} {R : RI} {d : D} {l : List D} (hK : X.K = S.K) (h : d = .lst l ∨ d = .tup l ∨ ∃ g, d = .ref g ∧ (g, M.lst l) ∈ μ) (k : R (fun μ' => ∀ g, d = .ref g → (g, M.lst l) ∈ μ') l μ) : IterV X S tg d μ R := by
  intro F N H x r rx Rr kk
  rcases h with rfl | rfl | ⟨g, rfl, hm⟩
  · exact iv_lst (R := fun Km' ds μ' => Km' = (fun _ => True) ∧ ds = l ∧ μ' = μ) hK ⟨rfl, rfl, rfl⟩ F N H x r rx Rr fun J H1 ds Km μ1 r1 ok ⟨e1, e2, e3⟩ => by
      subst e1 e2 e3
      exact kk J H1 _ _ _ r1 (ok.weak fun _ _ => trivial) k
  · exact iv_tup (R := fun Km' ds μ' => Km' = (fun _ => True) ∧ ds = l ∧ μ' = μ) hK ⟨rfl, rfl, rfl⟩ F N H x r rx Rr fun J H1 ds Km μ1 r1 ok ⟨e1, e2, e3⟩ => by
      subst e1 e2 e3
      exact kk J H1 _ _ _ r1 (ok.weak fun _ _ => trivial) k
  · exact iv_mem (R := fun Km' ds μ' => Km' = (fun μ' => (g, M.lst l) ∈ μ') ∧ ds = l ∧ μ' = μ) hK hm ⟨rfl, rfl, rfl⟩ F N H x r rx Rr fun J H1 ds Km μ1 r1 ok ⟨e1, e2, e3⟩ => by
      subst e1 e2 e3
      exact kk J H1 _ _ _ r1 (ok.weak fun μ' h => h g rfl) k
/-! ### spots, once each -/
def onto (acc ps : List Sp2) : List Sp2 := ps.foldl (fun acc p => if p ∈ acc then acc else acc ++ [p]) acc
theorem onto_snoc (acc ps : List Sp2) (p : Sp2) : onto acc (ps ++ [p]) = if p ∈ onto acc ps then onto acc ps else onto acc ps ++ [p] := by
  unfold onto
  rw [List.foldl_append]
  rfl
theorem mem_onto {acc ps : List Sp2} {p : Sp2} : p ∈ onto acc ps ↔ p ∈ acc ∨ p ∈ ps := by
  induction ps generalizing acc with
  | nil => simp [onto]
  | cons q ps ih =>
    show p ∈ onto (if q ∈ acc then acc else acc ++ [q]) ps ↔ _
    rw [ih, List.mem_cons]
    by_cases h : q ∈ acc
    · rw [if_pos h]
      constructor
      · rintro (h1 | h1)
        · exact .inl h1
        · exact .inr (.inr h1)
      · rintro (h1 | rfl | h1)
        · exact .inl h1
        · exact .inl h
        · exact .inr h1
    · rw [if_neg h, List.mem_append, List.mem_singleton, or_assoc]
theorem list_snoc {α : Type} {C : List α → Prop} (h0 : C []) (h1 : ∀ l x, C l → C (l ++ [x])) : ∀ l, C l := fun l => by
  have : ∀ l : List α, C l.reverse := fun l => by
    induction l with
    | nil => exact h0
    | cons x l ih => rw [List.reverse_cons]; exact h1 _ _ ih
  have h := this l.reverse
  rwa [List.reverse_reverse] at h
theorem onto_once (acc : List Sp2) : ∀ ps, onto acc (once ps) = onto acc ps := by
  refine list_snoc rfl fun ps p ih => ?_
  rw [once_snoc]
  by_cases h : p ∈ once ps
  · rw [if_pos h, ih, onto_snoc, if_pos (mem_onto.mpr (.inr (mem_once.mp h)))]
  · rw [if_neg h, onto_snoc, onto_snoc, ih]
theorem once_app (ps qs : List Sp2) : once (ps ++ qs) = onto (once ps) qs := by
  unfold once onto
  rw [List.foldl_append]
theorem once_or (ps qs : List Sp2) : once (once ps ++ once qs) = once (ps ++ qs) := by
  rw [once_app, once_app, onto_once, once_same (once_nodup ps)]
theorem once_filter (ps : List Sp2) (f : Sp2 → Bool) : once ((once ps).filter f) = (once ps).filter f := once_same ((once_nodup ps).sublist List.filter_sublist)
theorem dec_once (p : Sp2) (qs : List Sp2) : decide (p ∈ once qs) = decide (p ∈ qs) := decide_eq_decide.mpr mem_once
theorem all_once (ps qs : List Sp2) : ((once ps).all fun p => decide (p ∈ once qs)) = decide ((((ps.filter fun p => !decide (p ∈ qs)).length : Nat) : Int) = 0) := by
  refine Bool.eq_iff_iff.mpr ?_
  rw [List.all_eq_true, decide_eq_true_iff]
  constructor
  · intro h
    have : (ps.filter fun p => !decide (p ∈ qs)) = [] := List.filter_eq_nil_iff.mpr fun p hp => by
      have := of_decide_eq_true (h p (mem_once.mpr hp))
      simp [mem_once.mp this]
    rw [this]
    rfl
  · intro h p hp
    have h0 : (ps.filter fun p => !decide (p ∈ qs)) = [] := List.eq_nil_of_length_eq_zero (by omega)
    have := List.filter_eq_nil_iff.mp h0 p (mem_once.mp hp)
    refine decide_eq_true (mem_once.mpr ?_)
    simpa using this
theorem nd_le {α : Type} [DecidableEq α] : ∀ {x y : List α}, x.Nodup → (∀ p ∈ x, p ∈ y) → x.length ≤ y.length
  | [], _, _, _ => Nat.zero_le _
  | p :: x, y, n, h => by
    have hp : p ∈ y := h p List.mem_cons_self
    obtain ⟨n1, n2⟩ := List.nodup_cons.mp n
    have := nd_le (x := x) (y := y.erase p) n2 fun q hq => (List.mem_erase_of_ne (fun (e : q = p) => n1 (e ▸ hq))).mpr (h q (List.mem_cons_of_mem _ hq))
    rw [List.length_erase_of_mem hp] at this
    have := List.length_pos_of_mem hp
    rw [List.length_cons]
    omega
theorem nd_eq {α : Type} [DecidableEq α] {x y : List α} (n : x.Nodup) (h : ∀ p ∈ x, p ∈ y) (l : y.length ≤ x.length) : ∀ p ∈ y, p ∈ x := fun p hp => by
  by_cases hx : p ∈ x
  · exact hx
  · have := nd_le (x := p :: x) (y := y) (List.nodup_cons.mpr ⟨hx, n⟩) fun q hq => by
      rcases List.mem_cons.mp hq with rfl | hq
      · exact hp
      · exact h q hq
    rw [List.length_cons] at this
    omega
theorem eq_once (ps qs : List Sp2) : (decide ((once ps).length = (once qs).length) && (once ps).all fun p => decide (p ∈ once qs)) = (((once ps).all fun p => decide (p ∈ once qs)) && (once qs).all fun p => decide (p ∈ once ps)) := by
  refine Bool.eq_iff_iff.mpr ?_
  rw [Bool.and_eq_true, Bool.and_eq_true, List.all_eq_true, List.all_eq_true, decide_eq_true_iff]
  constructor
  · rintro ⟨h1, h2⟩
    refine ⟨h2, fun p hp => decide_eq_true (nd_eq (once_nodup ps) (fun p hp => of_decide_eq_true (h2 p hp)) (by omega) p hp)⟩
  · rintro ⟨h1, h2⟩
    refine ⟨Nat.le_antisymm (nd_le (once_nodup ps) fun p hp => of_decide_eq_true (h1 p hp)) (nd_le (once_nodup qs) fun p hp => of_decide_eq_true (h2 p hp)), h1⟩
end GL
namespace GL
open PySem L2 PySem.Spec PyProof.Rows
theorem StG.mono {X : Cx} {S : Sg} {st : Stmt} {Γ : Gm} {μ : Mem} {E : EG} {R R' : Gm → Mem → Prop} (h : StG X S st Γ μ { E with nx := R }) (k : ∀ Γ' μ', R Γ' μ' → R' Γ' μ') : StG X S st Γ μ { E with nx := R' } :=
  fun F N σ H r rs => (h F N σ H r rs).mono (fun _ _ ⟨Γ', μ', r, rs, q⟩ => ⟨Γ', μ', r, rs, k _ _ q⟩) (fun _ _ h => h) (fun _ _ h => h) (fun _ _ h => h)
/-- a statement that ends in one of many states -/
theorem seqP {X : Cx} {S : Sg} {st : Stmt} {sts : List Stmt} {Γ : Gm} {μ : Mem} {E : EG} (R : Gm → Mem → Prop) (h : StG X S st Γ μ { E with nx := R }) (k : ∀ Γ' μ', R Γ' μ' → BlG X S sts Γ' μ' E) : BlG X S (st :: sts) Γ μ E := bl_cons (h.mono k)
end GL
namespace K05
open PySem L2 GL
/-! the text by places -/
def top (i : Nat) : Stmt := PySem.Challenge.pw_soundyard_k05_holds.main.body.getD i (.Pass ⟨0, 0, 0, 0⟩)
abbrev s_Hold_init : Stmt := inClass (top 1) 0
abbrev s_Hold_iter : Stmt := inClass (top 1) 1
abbrev s_Hold_len : Stmt := inClass (top 1) 2
abbrev s_Hold_contains : Stmt := inClass (top 1) 3
abbrev s_Hold_eq : Stmt := inClass (top 1) 4
abbrev s_Hold_le : Stmt := inClass (top 1) 5
abbrev s_Hold_or : Stmt := inClass (top 1) 6
abbrev s_Hold_and : Stmt := inClass (top 1) 7
abbrev s_Hold_sub : Stmt := inClass (top 1) 8
abbrev s_law_pool : Stmt := top 3
abbrev s_law_take : Stmt := top 4
abbrev s_law_base : Stmt := top 5
abbrev s_law_name : Stmt := top 6
abbrev s_law_once : Stmt := top 7
abbrev s_law_is_hold : Stmt := top 8
abbrev s_law_is_bool : Stmt := top 9
abbrev s_law_drawn_spots : Stmt := top 10
abbrev s_law : Stmt := top 11
/-! where things stand -/
structure Ad where
  C_Hold : Addr
  f_Hold_init : Addr
  fd_Hold_init : FuncData
  t_Hold_init : Addr
  f_Hold_iter : Addr
  fd_Hold_iter : FuncData
  f_Hold_len : Addr
  fd_Hold_len : FuncData
  f_Hold_contains : Addr
  fd_Hold_contains : FuncData
  f_Hold_eq : Addr
  fd_Hold_eq : FuncData
  f_Hold_le : Addr
  fd_Hold_le : FuncData
  f_Hold_or : Addr
  fd_Hold_or : FuncData
  f_Hold_and : Addr
  fd_Hold_and : FuncData
  f_Hold_sub : Addr
  fd_Hold_sub : FuncData
  f_law_pool : Addr
  fd_law_pool : FuncData
  f_law_take : Addr
  fd_law_take : FuncData
  f_law_base : Addr
  fd_law_base : FuncData
  f_law_name : Addr
  fd_law_name : FuncData
  f_law_once : Addr
  fd_law_once : FuncData
  f_law_is_hold : Addr
  fd_law_is_hold : FuncData
  f_law_is_bool : Addr
  fd_law_is_bool : FuncData
  f_law_drawn_spots : Addr
  fd_law_drawn_spots : FuncData
  f_law : Addr
  fd_law : FuncData
/-- what the top has written -/
structure Tx (K : PySem.W.Frag) (mg : Str → Option Value) (a : Ad) : Prop where
  cl_Hold : Cls K a.C_Hold
  is_Hold : IsC K a.C_Hold
  mk_Hold : Mk K a.C_Hold a.f_Hold_init
  mgC_Hold : mg "Hold" = some (.ref a.C_Hold)
  sf_Hold : PySem.W.selfFirst K a.C_Hold = true
  nf_Hold : PySem.W.notFirst K a.C_Hold (.ref a.C_Hold) = true
  nfl_Hold : PySem.W.notFirst K a.C_Hold (.type "list") = true
  ki_Hold : PySem.W.kitOne K (.ref a.C_Hold) (.ref a.C_Hold) = some true
  kl_Hold : PySem.W.kitOne K (.type "list") (.ref a.C_Hold) = some false
  na_Hold_rows : NoAttr K a.C_Hold "rows"
  F_Hold_init : FunD K "__init__" "Hold.__init__" (defArgs s_Hold_init) (defBody s_Hold_init) (defScope s_Hold_init) [.ref a.t_Hold_init] [] a.f_Hold_init a.fd_Hold_init
  b_Hold_init : Binds K a.fd_Hold_init ["self", "rows"] []
  bd_Hold_init : ∃ ds, Vals [.ref a.t_Hold_init] ds ∧ Binds K a.fd_Hold_init ["self", "rows"] ds
  td_Hold_init : ∀ H, SqT K H a.t_Hold_init []
  at_Hold_init : PySem.W.findIn K (.ref a.C_Hold) "__init__" = some (some (.ref a.f_Hold_init))
  fn_Hold_init : PySem.W.isFn K (.ref a.f_Hold_init) = true
  F_Hold_iter : FunD K "__iter__" "Hold.__iter__" (defArgs s_Hold_iter) (defBody s_Hold_iter) (defScope s_Hold_iter) [] [] a.f_Hold_iter a.fd_Hold_iter
  b_Hold_iter : Binds K a.fd_Hold_iter ["self"] []
  at_Hold_iter : PySem.W.findIn K (.ref a.C_Hold) "__iter__" = some (some (.ref a.f_Hold_iter))
  fn_Hold_iter : PySem.W.isFn K (.ref a.f_Hold_iter) = true
  F_Hold_len : FunD K "__len__" "Hold.__len__" (defArgs s_Hold_len) (defBody s_Hold_len) (defScope s_Hold_len) [] [] a.f_Hold_len a.fd_Hold_len
  b_Hold_len : Binds K a.fd_Hold_len ["self"] []
  at_Hold_len : PySem.W.findIn K (.ref a.C_Hold) "__len__" = some (some (.ref a.f_Hold_len))
  fn_Hold_len : PySem.W.isFn K (.ref a.f_Hold_len) = true
  F_Hold_contains : FunD K "__contains__" "Hold.__contains__" (defArgs s_Hold_contains) (defBody s_Hold_contains) (defScope s_Hold_contains) [] [] a.f_Hold_contains a.fd_Hold_contains
  b_Hold_contains : Binds K a.fd_Hold_contains ["self", "spot"] []
  at_Hold_contains : PySem.W.findIn K (.ref a.C_Hold) "__contains__" = some (some (.ref a.f_Hold_contains))
  fn_Hold_contains : PySem.W.isFn K (.ref a.f_Hold_contains) = true
  F_Hold_eq : FunD K "__eq__" "Hold.__eq__" (defArgs s_Hold_eq) (defBody s_Hold_eq) (defScope s_Hold_eq) [] [] a.f_Hold_eq a.fd_Hold_eq
  b_Hold_eq : Binds K a.fd_Hold_eq ["self", "other"] []
  at_Hold_eq : PySem.W.findIn K (.ref a.C_Hold) "__eq__" = some (some (.ref a.f_Hold_eq))
  fn_Hold_eq : PySem.W.isFn K (.ref a.f_Hold_eq) = true
  F_Hold_le : FunD K "__le__" "Hold.__le__" (defArgs s_Hold_le) (defBody s_Hold_le) (defScope s_Hold_le) [] [] a.f_Hold_le a.fd_Hold_le
  b_Hold_le : Binds K a.fd_Hold_le ["self", "other"] []
  at_Hold_le : PySem.W.findIn K (.ref a.C_Hold) "__le__" = some (some (.ref a.f_Hold_le))
  fn_Hold_le : PySem.W.isFn K (.ref a.f_Hold_le) = true
  F_Hold_or : FunD K "__or__" "Hold.__or__" (defArgs s_Hold_or) (defBody s_Hold_or) (defScope s_Hold_or) [] [] a.f_Hold_or a.fd_Hold_or
  b_Hold_or : Binds K a.fd_Hold_or ["self", "other"] []
  at_Hold_or : PySem.W.findIn K (.ref a.C_Hold) "__or__" = some (some (.ref a.f_Hold_or))
  fn_Hold_or : PySem.W.isFn K (.ref a.f_Hold_or) = true
  F_Hold_and : FunD K "__and__" "Hold.__and__" (defArgs s_Hold_and) (defBody s_Hold_and) (defScope s_Hold_and) [] [] a.f_Hold_and a.fd_Hold_and
  b_Hold_and : Binds K a.fd_Hold_and ["self", "other"] []
  at_Hold_and : PySem.W.findIn K (.ref a.C_Hold) "__and__" = some (some (.ref a.f_Hold_and))
  fn_Hold_and : PySem.W.isFn K (.ref a.f_Hold_and) = true
  F_Hold_sub : FunD K "__sub__" "Hold.__sub__" (defArgs s_Hold_sub) (defBody s_Hold_sub) (defScope s_Hold_sub) [] [] a.f_Hold_sub a.fd_Hold_sub
  b_Hold_sub : Binds K a.fd_Hold_sub ["self", "other"] []
  at_Hold_sub : PySem.W.findIn K (.ref a.C_Hold) "__sub__" = some (some (.ref a.f_Hold_sub))
  fn_Hold_sub : PySem.W.isFn K (.ref a.f_Hold_sub) = true
  F_law_pool : FunD K "_law_pool" "_law_pool" (defArgs s_law_pool) (defBody s_law_pool) (defScope s_law_pool) [] [] a.f_law_pool a.fd_law_pool
  b_law_pool : Binds K a.fd_law_pool ["_law_script"] []
  mg_law_pool : mg "_law_pool" = some (.ref a.f_law_pool)
  F_law_take : FunD K "_law_take" "_law_take" (defArgs s_law_take) (defBody s_law_take) (defScope s_law_take) [] [] a.f_law_take a.fd_law_take
  b_law_take : Binds K a.fd_law_take ["_law_pool_here", "_law_size"] []
  mg_law_take : mg "_law_take" = some (.ref a.f_law_take)
  F_law_base : FunD K "_law_base" "_law_base" (defArgs s_law_base) (defBody s_law_base) (defScope s_law_base) [] [] a.f_law_base a.fd_law_base
  b_law_base : Binds K a.fd_law_base ["_law_pool_here"] []
  mg_law_base : mg "_law_base" = some (.ref a.f_law_base)
  F_law_name : FunD K "_law_name" "_law_name" (defArgs s_law_name) (defBody s_law_name) (defScope s_law_name) [] [] a.f_law_name a.fd_law_name
  b_law_name : Binds K a.fd_law_name ["_law_pool_here", "_law_base_here", "_law_k"] []
  mg_law_name : mg "_law_name" = some (.ref a.f_law_name)
  F_law_once : FunD K "_law_once" "_law_once" (defArgs s_law_once) (defBody s_law_once) (defScope s_law_once) [] [] a.f_law_once a.fd_law_once
  b_law_once : Binds K a.fd_law_once ["_law_rows"] []
  mg_law_once : mg "_law_once" = some (.ref a.f_law_once)
  F_law_is_hold : FunD K "_law_is_hold" "_law_is_hold" (defArgs s_law_is_hold) (defBody s_law_is_hold) (defScope s_law_is_hold) [] [] a.f_law_is_hold a.fd_law_is_hold
  b_law_is_hold : Binds K a.fd_law_is_hold ["_law_hold", "_law_rows", "_law_names"] []
  mg_law_is_hold : mg "_law_is_hold" = some (.ref a.f_law_is_hold)
  F_law_is_bool : FunD K "_law_is_bool" "_law_is_bool" (defArgs s_law_is_bool) (defBody s_law_is_bool) (defScope s_law_is_bool) [] [] a.f_law_is_bool a.fd_law_is_bool
  b_law_is_bool : Binds K a.fd_law_is_bool ["_law_actual", "_law_expected"] []
  mg_law_is_bool : mg "_law_is_bool" = some (.ref a.f_law_is_bool)
  F_law_drawn_spots : FunD K "_law_drawn_spots" "_law_drawn_spots" (defArgs s_law_drawn_spots) (defBody s_law_drawn_spots) (defScope s_law_drawn_spots) [] [] a.f_law_drawn_spots a.fd_law_drawn_spots
  b_law_drawn_spots : Binds K a.fd_law_drawn_spots ["_law_pool_here", "_law_names", "_law_size"] []
  mg_law_drawn_spots : mg "_law_drawn_spots" = some (.ref a.f_law_drawn_spots)
  F_law : FunD K "law" "law" (defArgs s_law) (defBody s_law) (defScope s_law) [] [] a.f_law a.fd_law
  b_law : Binds K a.fd_law ["_law_script"] []
  mg_law : mg "law" = some (.ref a.f_law)
  z_len : mg "len" = none
  z_all : mg "all" = none
  z_list : mg "list" = none
  z_tuple : mg "tuple" = none
  z_int : mg "int" = none
  z_range : mg "range" = none
  z_isinstance : mg "isinstance" = none
  z_iter : mg "iter" = none
  z_bool : mg "bool" = none
abbrev N_Hold_init : List Str := ["self", "rows", "kept", "kind", "standing"]
theorem sc_Hold_init : FnScope ["self", "rows", "kept", "kind", "standing"] ["self", "rows"] (defScope s_Hold_init) := ⟨rfl, rfl, rfl, by decide +kernel, rfl, by decide +kernel, by decide +kernel⟩
abbrev N_Hold_iter : List Str := ["self"]
theorem sc_Hold_iter : FnScope ["self"] ["self"] (defScope s_Hold_iter) := ⟨rfl, rfl, rfl, by decide +kernel, rfl, by decide +kernel, by decide +kernel⟩
abbrev N_Hold_len : List Str := ["self"]
theorem sc_Hold_len : FnScope ["self"] ["self"] (defScope s_Hold_len) := ⟨rfl, rfl, rfl, by decide +kernel, rfl, by decide +kernel, by decide +kernel⟩
abbrev N_Hold_contains : List Str := ["self", "spot"]
theorem sc_Hold_contains : FnScope ["self", "spot"] ["self", "spot"] (defScope s_Hold_contains) := ⟨rfl, rfl, rfl, by decide +kernel, rfl, by decide +kernel, by decide +kernel⟩
abbrev N_Hold_eq : List Str := ["self", "other"]
theorem sc_Hold_eq : FnScope ["self", "other"] ["self", "other"] (defScope s_Hold_eq) := ⟨rfl, rfl, rfl, by decide +kernel, rfl, by decide +kernel, by decide +kernel⟩
abbrev N_Hold_le : List Str := ["self", "other", "spot"]
theorem sc_Hold_le : FnScope ["self", "other", "spot"] ["self", "other"] (defScope s_Hold_le) := ⟨rfl, rfl, rfl, by decide +kernel, rfl, by decide +kernel, by decide +kernel⟩
abbrev N_Hold_or : List Str := ["self", "other"]
theorem sc_Hold_or : FnScope ["self", "other"] ["self", "other"] (defScope s_Hold_or) := ⟨rfl, rfl, rfl, by decide +kernel, rfl, by decide +kernel, by decide +kernel⟩
abbrev N_Hold_and : List Str := ["self", "other", "spot"]
theorem sc_Hold_and : FnScope ["self", "other", "spot"] ["self", "other"] (defScope s_Hold_and) := ⟨rfl, rfl, rfl, by decide +kernel, rfl, by decide +kernel, by decide +kernel⟩
abbrev N_Hold_sub : List Str := ["self", "other", "spot"]
theorem sc_Hold_sub : FnScope ["self", "other", "spot"] ["self", "other"] (defScope s_Hold_sub) := ⟨rfl, rfl, rfl, by decide +kernel, rfl, by decide +kernel, by decide +kernel⟩
abbrev N_law_pool : List Str := ["_law_script", "_law_cell"]
theorem sc_law_pool : FnScope ["_law_script", "_law_cell"] ["_law_script"] (defScope s_law_pool) := ⟨rfl, rfl, rfl, by decide +kernel, rfl, by decide +kernel, by decide +kernel⟩
abbrev N_law_take : List Str := ["_law_pool_here", "_law_size", "_law_value", "_law_cells"]
theorem sc_law_take : FnScope ["_law_pool_here", "_law_size", "_law_value", "_law_cells"] ["_law_pool_here", "_law_size"] (defScope s_law_take) := ⟨rfl, rfl, rfl, by decide +kernel, rfl, by decide +kernel, by decide +kernel⟩
abbrev N_law_base : List Str := ["_law_pool_here", "_law_signs", "_law_k"]
theorem sc_law_base : FnScope ["_law_pool_here", "_law_signs", "_law_k"] ["_law_pool_here"] (defScope s_law_base) := ⟨rfl, rfl, rfl, by decide +kernel, rfl, by decide +kernel, by decide +kernel⟩
abbrev N_law_name : List Str := ["_law_pool_here", "_law_base_here", "_law_k", "_law_text", "_law_at"]
theorem sc_law_name : FnScope ["_law_pool_here", "_law_base_here", "_law_k", "_law_text", "_law_at"] ["_law_pool_here", "_law_base_here", "_law_k"] (defScope s_law_name) := ⟨rfl, rfl, rfl, by decide +kernel, rfl, by decide +kernel, by decide +kernel⟩
abbrev N_law_once : List Str := ["_law_rows", "_law_found", "_law_row"]
theorem sc_law_once : FnScope ["_law_rows", "_law_found", "_law_row"] ["_law_rows"] (defScope s_law_once) := ⟨rfl, rfl, rfl, by decide +kernel, rfl, by decide +kernel, by decide +kernel⟩
abbrev N_law_is_hold : List Str := ["_law_hold", "_law_rows", "_law_names", "_law_row", "_law_kind", "_law_standing"]
theorem sc_law_is_hold : FnScope ["_law_hold", "_law_rows", "_law_names", "_law_row", "_law_kind", "_law_standing"] ["_law_hold", "_law_rows", "_law_names"] (defScope s_law_is_hold) := ⟨rfl, rfl, rfl, by decide +kernel, rfl, by decide +kernel, by decide +kernel⟩
abbrev N_law_is_bool : List Str := ["_law_actual", "_law_expected"]
theorem sc_law_is_bool : FnScope ["_law_actual", "_law_expected"] ["_law_actual", "_law_expected"] (defScope s_law_is_bool) := ⟨rfl, rfl, rfl, by decide +kernel, rfl, by decide +kernel, by decide +kernel⟩
abbrev N_law_drawn_spots : List Str := ["_law_pool_here", "_law_names", "_law_size", "_law_rows", "_law_k"]
theorem sc_law_drawn_spots : FnScope ["_law_pool_here", "_law_names", "_law_size", "_law_rows", "_law_k"] ["_law_pool_here", "_law_names", "_law_size"] (defScope s_law_drawn_spots) := ⟨rfl, rfl, rfl, by decide +kernel, rfl, by decide +kernel, by decide +kernel⟩
abbrev N_law : List Str := ["_law_script", "_law_pool_here", "_law_base_here", "_law_names", "_law_k", "_law_size", "_law_first", "_law_second", "_law_row", "_law_given", "_law_one", "_law_two", "_law_near", "_law_within", "_law_around"]
theorem sc_law : FnScope ["_law_script", "_law_pool_here", "_law_base_here", "_law_names", "_law_k", "_law_size", "_law_first", "_law_second", "_law_row", "_law_given", "_law_one", "_law_two", "_law_near", "_law_within", "_law_around"] ["_law_script"] (defScope s_law) := ⟨rfl, rfl, rfl, by decide +kernel, rfl, by decide +kernel, by decide +kernel⟩
section
variable {P : Program} {w : World} {K : PySem.W.Frag} {mg : Str → Option Value} {base : Heap} {a : Ad}
/-- law's: a list of at most 63 ints is handed in, True comes out -/
def spLaw (K : PySem.W.Frag) : Sp := fun vs H Q _ => ∃ (a : Addr) (ns : List Int), vs = [.ref a] ∧ SqL K H a (ns.map V.int) ∧ ns.length ≤ 63 ∧ ∀ H', Q (.bl true) H'
abbrev sgK (K : PySem.W.Frag) (a : Ad) : Sg := ⟨K, fun n => match n with | 0 => a.C_Hold | _ => 0, fun n => match n with | 0 => ["rows"] | _ => []⟩
/-- a hold, as a datum -/
abbrev hD (ps : List Sp2) : D := .obj 0 [.lst (ps.map spD)]
def sg_init (C : Addr) : SpG := fun ds μ Q => ∃ x r ps μ0, ds = [.ref x, r] ∧ (r = .lst (ps.map spD) ∨ r = .tup (ps.map spD) ∨ ∃ g, r = .ref g ∧ (g, M.lst (ps.map spD)) ∈ μ0) ∧ (∀ p ∈ ps, OkP p) ∧ ps.length ≤ 1000000 ∧ μ = (x, .ins C []) :: μ0 ∧
  Q .non ((x, .ins C [("rows", .lst ((once ps).map spD))]) :: μ0)
theorem okOnce {ps : List Sp2} (h : ∀ p ∈ ps, OkP p) (i : Nat) : ∀ p ∈ once (ps.take i), OkP p := fun p hp => h p (List.mem_of_mem_take (mem_once.mp hp))
theorem lenOnce {ps : List Sp2} (h : ps.length ≤ 1000000) (i : Nat) : ((once (ps.take i)).map spD).length < 16777216 := by
  rw [List.length_map]
  have h1 := once_len (ps.take i)
  have h2 := List.length_take_le i ps
  have h3 : (ps.take i).length ≤ ps.length := List.length_take_le' i ps
  omega
theorem ok_init (T : Tx K mg a) : FnOk P w K mg base CX0 1 a.f_Hold_init a.fd_Hold_init ["self", "rows"] (spG (sgK K a) (sg_init a.C_Hold)) := by
  refine fund_ok T.F_Hold_init sc_Hold_init (fun ds μ Q h => ?_) (fun cdv A outer s H E ds μ Q hr h => ?_)
  · obtain ⟨x, r, ps, m0, rfl, _⟩ := h
    rfl
  obtain ⟨x, r, ps, m0, rfl, hr2, hok, hlen, rfl, q⟩ := h
  have hu := hu_room hr
  have nd := sc_Hold_init.nd
  -- kept = []
  refine asg 2 nd (ev_lstM (ea_nil ⟨few, fun p hp => ?_⟩))
  -- for kind, standing in rows
  have hr3 : ∀ p, r = .lst (ps.map spD) ∨ r = .tup (ps.map spD) ∨ ∃ g, r = .ref g ∧ (g, M.lst (ps.map spD)) ∈ (p, M.lst []) :: (x, .ins a.C_Hold []) :: m0 := fun p => by
    rcases hr2 with h | h | ⟨g, h, hm⟩
    · exact .inl h
    · exact .inr (.inl h)
    · exact .inr (.inr ⟨g, h, .tail _ (.tail _ hm)⟩)
  refine forb PassesOwn.never (ig_val (nm 1 (iv_any rfl (hr3 p) ⟨fun i Γ μ' => ∃ o1 o2, Γ = [some (.ref x), some r, some (.ref p), o1, o2] ∧ μ' = (p, .lst ((once (ps.take i)).map spD)) :: (x, .ins a.C_Hold []) :: m0, ⟨none, none, rfl, rfl⟩, ?_, ?_, ?_⟩)))
  · rintro i _ _ ⟨o1, o2, rfl, rfl⟩ g hg
    rcases hr2 with h | h | ⟨g', h, hm⟩
    · rw [h] at hg; cases hg
    · rw [h] at hg; cases hg
    · rw [h] at hg
      cases hg
      exact .tail _ (.tail _ hm)
  · rintro i d _ _ hd ⟨o1, o2, rfl, rfl⟩
    obtain ⟨sp, hsp, rfl⟩ := map_at hd
    have hsp' : sp ∈ ps := List.mem_of_getElem? hsp
    refine tg_tup (n := 2) rfl rfl (tgs_cons (tn 3 nd (tgs_cons (tn 4 nd (tgs_nil ?_))))) rfl
    refine ifb (et_cmp (ev_tup (ea_cons (nm 3 (ea_cons (nm 4 (ea_nil ⟨few, nm 2 (og_niL (d' := spD sp) (n := 1) rfl hu .val (.ref (.head _)) (spD_ok (hok sp hsp')) (spDs_ok (okOnce hok i)) (by decide) ⟨_, rfl, ?_⟩)⟩)))))))
    rw [inL_sp]
    refine ⟨fun ht => ?_, fun hf => ?_⟩
    · refine bl_cons (st_expr (ev_app (nm 2 ⟨p, rfl, ⟨_, .head _⟩, ea_cons (ev_tup (ea_cons (nm 3 (ea_cons (nm 4 (ea_nil ⟨few, ea_nil ⟨_, _, _, rfl, .here, lenOnce hlen i, nil (nil ?_)⟩⟩))))))⟩)))
      refine ⟨_, _, rfl, ?_⟩
      have hn : sp ∉ once (ps.take i) := by simpa using ht
      rw [take_snoc hsp, once_snoc, if_neg hn, List.map_append]
      rfl
    · refine nil (nil ⟨_, _, rfl, ?_⟩)
      have hn : sp ∈ once (ps.take i) := by simpa using hf
      rw [take_snoc hsp, once_snoc, if_pos hn]
  · rintro _ _ ⟨o1, o2, rfl, rfl⟩
    rw [List.length_map, List.take_length]
    -- self.rows = kept
    refine bl_frz (i := 2) rfl .here (bl_cons (st_fld T.cl_Hold T.na_Hold_rows (nm 2 (nm 0 ⟨x, _, _, rfl, .here, by decide, nil q⟩))))
theorem init_mono {C : Addr} : MonoG (sg_init C) := fun _ _ _ _ ⟨x, r, ps, m0, h1, h2, h3, h4, h5, q⟩ m => ⟨x, r, ps, m0, h1, h2, h3, h4, h5, m _ _ q⟩
abbrev OkPs (ps : List Sp2) : Prop := (∀ p ∈ ps, OkP p) ∧ ps.length ≤ 1000000
theorem newHold {r : D} {ps : List Sp2} {μ : Mem} {Q : QD} (hr : r = .lst (ps.map spD) ∨ r = .tup (ps.map spD)) (ok : OkPs ps) (q : Q (hD (once ps)) μ) : NewG a.C_Hold (sg_init a.C_Hold) [r] μ (FrzQ (sgK K a) Q) :=
  ⟨[], μ, Split.none μ, fun x _ => ⟨x, r, ps, [], rfl, hr.elim .inl (fun h => .inr (.inl h)), ok.1, ok.2, rfl, rfl, x, rfl, μ, .inr ⟨0, [.lst ((once ps).map spD)], .here, rfl, q⟩⟩⟩
/-- built from a list of the memory's -/
theorem newHoldM {g : Addr} {ps : List Sp2} {μ : Mem} {Q : QD} (ok : OkPs ps) (q : Q (hD (once ps)) ((g, .lst (ps.map spD)) :: μ)) : NewG a.C_Hold (sg_init a.C_Hold) [.ref g] ((g, .lst (ps.map spD)) :: μ) (FrzQ (sgK K a) Q) :=
  ⟨[(g, .lst (ps.map spD))], μ, .l (Split.none μ), fun x _ => ⟨x, .ref g, ps, [(g, .lst (ps.map spD))], rfl, .inr (.inr ⟨g, rfl, .head _⟩), ok.1, ok.2, rfl, rfl, x, rfl, _, .inr ⟨0, [.lst ((once ps).map spD)], .here, rfl, q⟩⟩⟩
theorem nd1 : (["rows"] : List Str).Nodup := by decide +kernel
abbrev R_len : List D → D → Prop := fun ds d => ∃ ps : List Sp2, ds = [hD ps] ∧ d = .int ps.length
theorem ok_len (T : Tx K mg a) : FnOk P w K mg base CX0 1 a.f_Hold_len a.fd_Hold_len ["self"] (spG (sgK K a) (pr R_len)) := by
  refine fund_ok T.F_Hold_len sc_Hold_len (fun ds μ Q h => ?_) (fun cdv A outer s H E ds μ Q hr h => ?_)
  · obtain ⟨_, ⟨ps, rfl, _⟩, _⟩ := h
    rfl
  obtain ⟨_, ⟨ps, rfl, rfl⟩, q⟩ := h
  refine ret <| ev_callB rfl T.z_len b_len <| ea_cons <| fld 0 T.cl_Hold T.na_Hold_rows (.obj (c := 0) (i := 0) rfl nd1 rfl) <| ea_nil <| cg_len rfl (.l (.val _)) ?_
  rw [List.length_map]
  exact q
abbrev R_contains : List D → D → Prop := fun ds d => ∃ (ps : List Sp2) (p : Sp2), ds = [hD ps, spD p] ∧ OkPs ps ∧ OkP p ∧ d = .bl (decide (p ∈ ps))
theorem ok_contains (T : Tx K mg a) : FnOk P w K mg base CX0 1 a.f_Hold_contains a.fd_Hold_contains ["self", "spot"] (spG (sgK K a) (pr R_contains)) := by
  refine fund_ok T.F_Hold_contains sc_Hold_contains (fun ds μ Q h => ?_) (fun cdv A outer s H E ds μ Q hr h => ?_)
  · obtain ⟨_, ⟨ps, p, rfl, _⟩, _⟩ := h
    rfl
  obtain ⟨_, ⟨ps, p, rfl, o1, o2, rfl⟩, q⟩ := h
  refine ret <| ev_cmp <| nm 1 <| fld 0 T.cl_Hold T.na_Hold_rows (.obj (c := 0) (i := 0) rfl nd1 rfl) <| og_inL (n := 1) rfl (hu_room hr) .val (.val _) (spD_ok o2) (spDs_ok o1.1) (by decide) ?_
  rw [inL_sp]
  exact q
abbrev R_le : List D → D → Prop := fun ds d => ∃ (ps qs : List Sp2), ds = [hD ps, hD qs] ∧ OkPs ps ∧ OkPs qs ∧ d = .bl (ps.all fun p => decide (p ∈ qs))
theorem ok_le (T : Tx K mg a) : FnOk P w K mg base CX0 1 a.f_Hold_le a.fd_Hold_le ["self", "other"] (spG (sgK K a) (pr R_le)) := by
  refine fund_ok T.F_Hold_le sc_Hold_le (fun ds μ Q h => ?_) (fun cdv A outer s H E ds μ Q hr h => ?_)
  · obtain ⟨_, ⟨ps, p, rfl, _⟩, _⟩ := h
    rfl
  obtain ⟨_, ⟨ps, qs, rfl, o1, o2, rfl⟩, q⟩ := h
  have hu := hu_room hr
  have nd := sc_Hold_le.nd
  refine ret <| ev_callB rfl T.z_all b_all <| ea_cons <| ev_lc (own := [("spot", 2)]) rfl nd (blkOk_by (N := N_Hold_le) (sc := defScope s_Hold_le) (by decide +kernel)) rfl <| ig_val <| fld 0 T.cl_Hold T.na_Hold_rows (.obj (c := 0) (i := 0) rfl nd1 rfl) <| iv_lst rfl ⟨fun i acc μ' => acc = ((ps.take i).map fun p => decide (p ∈ qs)).map D.bl ∧ μ' = μ, ⟨rfl, rfl⟩, fun _ _ _ _ => trivial, ?_, ?_⟩
  · rintro i d acc _ hd ⟨rfl, rfl⟩ k
    obtain ⟨sp, hsp, rfl⟩ := map_at hd
    have hsp' : sp ∈ ps := List.mem_of_getElem? hsp
    refine tn 2 nd fun k => ts_nil ⟨fun _ k => ?_, fun h => nomatch h⟩
    refine ev_cmp <| nm 2 <| fld 1 T.cl_Hold T.na_Hold_rows (.obj (c := 0) (i := 0) rfl nd1 rfl) <| og_inL (n := 1) rfl hu .val (.val _) (spD_ok (o1.1 sp hsp')) (spDs_ok o2.1) (by decide) ⟨?_, ?_, rfl⟩
    · have := o1.2
      have h3 : (ps.take i).length ≤ ps.length := List.length_take_le' i ps
      rw [List.length_map, List.length_map]
      omega
    · rw [inL_sp, take_snoc hsp, List.map_append, List.map_append]
      rfl
  · rintro acc _ ⟨rfl, rfl⟩
    rw [List.length_map, List.take_length]
    refine ea_nil (cg_all rfl (.val _) ?_)
    rw [List.all_map]
    exact q
theorem eq_len {ps qs : List Sp2} : (if decide (((ps.map spD).length : Int) = ((qs.map spD).length : Int)) = true then ps.all (fun p => decide (p ∈ qs)) else false) = (decide (ps.length = qs.length) && ps.all fun p => decide (p ∈ qs)) := by
  rw [List.length_map, List.length_map]
  by_cases h : ps.length = qs.length
  · rw [decide_eq_true h, decide_eq_true (by omega), if_pos rfl, Bool.true_and]
  · rw [decide_eq_false h, decide_eq_false (by omega), if_neg (by decide), Bool.false_and]
abbrev R_eq : List D → D → Prop := fun ds d => (∃ (ps qs : List Sp2), ds = [hD ps, hD qs] ∧ OkPs ps ∧ OkPs qs ∧ d = .bl (decide (ps.length = qs.length) && ps.all fun p => decide (p ∈ qs))) ∨ ∃ (ps : List Sp2) (l : List D), ds = [hD ps, .lst l] ∧ d = .bl false
theorem m_le (T : Tx K mg a) {X : Cx} (hX : X.prog = P ∧ X.w = w ∧ X.K = K ∧ X.mg = mg ∧ X.base = base) : MethG X (sgK K a) CX0 E0 1 a.C_Hold a.f_Hold_le "__le__" a.fd_Hold_le ["self", "other"] (pr R_le) := by
  obtain ⟨rfl, rfl, rfl, rfl, rfl⟩ := hX
  exact ⟨pr_mono, T.at_Hold_le, T.fn_Hold_le, ok_le T, T.b_Hold_le, pass0⟩
theorem ok_eq (T : Tx K mg a) : FnOk P w K mg base CX0 2 a.f_Hold_eq a.fd_Hold_eq ["self", "other"] (spG (sgK K a) (pr R_eq)) := by
  refine fund_ok T.F_Hold_eq sc_Hold_eq (fun ds μ Q h => ?_) (fun cdv A outer s H E ds μ Q hr h => ?_)
  · obtain ⟨_, ⟨ps, p, rfl, _⟩ | ⟨ps, p, rfl, _⟩, _⟩ := h
    · rfl
    · rfl
  obtain ⟨_, ⟨ps, qs, rfl, o1, o2, rfl⟩ | ⟨ps, l, rfl, rfl⟩, q⟩ := h
  · refine ifb <| et_not <| et_val <| ev_callB rfl T.z_isinstance b_isinstance <| ea_cons <| nm 1 <| ea_cons <| ev_globR rfl T.mgC_Hold <| ea_nil <| isi (.obj (c := 0) T.is_Hold) T.ki_Hold ⟨_, rfl, ?_⟩
    refine ⟨(fun h => nomatch h), fun _ => nil ?_⟩
    refine ret <| ev_and <| ev_cmp <| ev_callB rfl T.z_len b_len <| ea_cons <| fld 0 T.cl_Hold T.na_Hold_rows (.obj (c := 0) (i := 0) rfl nd1 rfl) <| ea_nil <| cg_len rfl (.l (.val _)) <| ev_callB rfl T.z_len b_len <| ea_cons <| fld 1 T.cl_Hold T.na_Hold_rows (.obj (c := 0) (i := 0) rfl nd1 rfl) <| ea_nil <| cg_len rfl (.l (.val _)) <| og_eqI ⟨_, rfl, ?_⟩
    rw [← eq_len] at q
    refine ⟨fun h => ?_, fun h => ?_⟩
    · rw [if_pos h] at q
      exact ev_and1 <| ev_cmp <| nm 0 <| nm 1 <| rc_own (op := .LtE) (m_le T ⟨rfl, rfl, rfl, rfl, rfl⟩) hr (.obj (c := 0)) T.nf_Hold (looks_own (.obj (c := 0))) (ask_pr ⟨ps, qs, rfl, o1, o2, rfl⟩ q)
    · rw [if_neg (by rw [h]; decide)] at q
      exact q
  · refine ifb <| et_not <| et_val <| ev_callB rfl T.z_isinstance b_isinstance <| ea_cons <| nm 1 <| ea_cons <| ev_globR rfl T.mgC_Hold <| ea_nil <| isi (.lst (.val _)) T.kl_Hold ⟨_, rfl, ?_⟩
    exact ⟨fun _ => ret (ev_bl q), fun h => nomatch h⟩
abbrev R_or : List D → D → Prop := fun ds d => ∃ (ps qs : List Sp2), ds = [hD ps, hD qs] ∧ OkPs ps ∧ OkPs qs ∧ ps.length + qs.length ≤ 1000000 ∧ d = hD (once (ps ++ qs))
theorem ok_or (T : Tx K mg a) : FnOk P w K mg base CX0 3 a.f_Hold_or a.fd_Hold_or ["self", "other"] (spG (sgK K a) (pr R_or)) := by
  refine fund_ok T.F_Hold_or sc_Hold_or (fun ds μ Q h => ?_) (fun cdv A outer s H E ds μ Q hr h => ?_)
  · obtain ⟨_, ⟨ps, p, rfl, _⟩, _⟩ := h
    rfl
  obtain ⟨_, ⟨ps, qs, rfl, o1, o2, o3, rfl⟩, q⟩ := h
  refine ret <| ev_frz <| ev_make init_mono T.mk_Hold (ok_init T) hr rfl T.mgC_Hold T.b_Hold_init .nil (fun _ => .nil) pass0 <| ea_cons <| ev_bin <| fld 0 T.cl_Hold T.na_Hold_rows (.obj (c := 0) (i := 0) rfl nd1 rfl) <| fld 1 T.cl_Hold T.na_Hold_rows (.obj (c := 0) (i := 0) rfl nd1 rfl) <| og_addL (.val _) (.val _) ?_ <| ea_nil ?_
  · rw [List.length_map, List.length_map]
    omega
  · exact newHold (ps := ps ++ qs) (.inl (by rw [List.map_append])) ⟨fun p hp => (List.mem_append.mp hp).elim (o1.1 p) (o2.1 p), by rw [List.length_append]; exact o3⟩ q
abbrev R_and : List D → D → Prop := fun ds d => ∃ (ps qs : List Sp2), ds = [hD ps, hD qs] ∧ OkPs ps ∧ OkPs qs ∧ d = hD (once (ps.filter fun p => decide (p ∈ qs)))
theorem filt_snoc {ps : List Sp2} {i : Nat} {p : Sp2} {f : Sp2 → Bool} (h : ps[i]? = some p) : (ps.take (i + 1)).filter f = if f p then (ps.take i).filter f ++ [p] else (ps.take i).filter f := by
  rw [take_snoc h, List.filter_append]
  cases hf : f p <;> simp [hf]
theorem filt_ok {ps : List Sp2} (o : OkPs ps) (f : Sp2 → Bool) : OkPs (ps.filter f) := ⟨fun p hp => o.1 p (List.mem_filter.mp hp).1, Nat.le_trans (List.length_filter_le f ps) o.2⟩
theorem filt_len {ps : List Sp2} (o : OkPs ps) (f : Sp2 → Bool) (i : Nat) : (((ps.take i).filter f).map spD).length < 16777216 := by
  rw [List.length_map]
  have h1 := List.length_filter_le f (ps.take i)
  have h3 : (ps.take i).length ≤ ps.length := List.length_take_le' i ps
  have := o.2
  omega
theorem ok_and (T : Tx K mg a) : FnOk P w K mg base CX0 3 a.f_Hold_and a.fd_Hold_and ["self", "other"] (spG (sgK K a) (pr R_and)) := by
  refine fund_ok T.F_Hold_and sc_Hold_and (fun ds μ Q h => ?_) (fun cdv A outer s H E ds μ Q hr h => ?_)
  · obtain ⟨_, ⟨ps, p, rfl, _⟩, _⟩ := h
    rfl
  obtain ⟨_, ⟨ps, qs, rfl, o1, o2, rfl⟩, q⟩ := h
  have hu := hu_room hr
  have nd := sc_Hold_and.nd
  refine ret <| ev_frz <| ev_make init_mono T.mk_Hold (ok_init T) hr rfl T.mgC_Hold T.b_Hold_init .nil (fun _ => .nil) pass0 <| ea_cons <| ev_lc (own := [("spot", 2)]) rfl nd (blkOk_by (N := N_Hold_and) (sc := defScope s_Hold_and) (by decide +kernel)) rfl <| ig_val <| fld 0 T.cl_Hold T.na_Hold_rows (.obj (c := 0) (i := 0) rfl nd1 rfl) <| iv_lst rfl ⟨fun i acc μ' => acc = ((ps.take i).filter fun p => decide (p ∈ qs)).map spD ∧ μ' = μ, ⟨rfl, rfl⟩, fun _ _ _ _ => trivial, ?_, ?_⟩
  · rintro i d acc _ hd ⟨rfl, rfl⟩ k
    obtain ⟨sp, hsp, rfl⟩ := map_at hd
    have hsp' : sp ∈ ps := List.mem_of_getElem? hsp
    refine tn 2 nd fun k => ts_one <| et_cmp <| nm 2 <| fld 1 T.cl_Hold T.na_Hold_rows (.obj (c := 0) (i := 0) rfl nd1 rfl) <| og_inL (n := 1) rfl hu .val (.val _) (spD_ok (o1.1 sp hsp')) (spDs_ok o2.1) (by decide) ⟨_, rfl, ?_⟩
    rw [inL_sp]
    refine ⟨fun h k => nm 2 ⟨filt_len o1 _ i, ?_, rfl⟩, fun h => ⟨?_, rfl⟩⟩
    · rw [filt_snoc hsp, if_pos h, List.map_append]
      rfl
    · rw [filt_snoc hsp, if_neg (by rw [h]; decide)]
  · rintro acc _ ⟨rfl, rfl⟩
    rw [List.length_map, List.take_length]
    exact ea_nil (newHold (.inl rfl) (filt_ok o1 _) q)
abbrev R_sub : List D → D → Prop := fun ds d => ∃ (ps qs : List Sp2), ds = [hD ps, hD qs] ∧ OkPs ps ∧ OkPs qs ∧ d = hD (once (ps.filter fun p => !decide (p ∈ qs)))
theorem ok_sub (T : Tx K mg a) : FnOk P w K mg base CX0 3 a.f_Hold_sub a.fd_Hold_sub ["self", "other"] (spG (sgK K a) (pr R_sub)) := by
  refine fund_ok T.F_Hold_sub sc_Hold_sub (fun ds μ Q h => ?_) (fun cdv A outer s H E ds μ Q hr h => ?_)
  · obtain ⟨_, ⟨ps, p, rfl, _⟩, _⟩ := h
    rfl
  obtain ⟨_, ⟨ps, qs, rfl, o1, o2, rfl⟩, q⟩ := h
  have hu := hu_room hr
  have nd := sc_Hold_sub.nd
  refine ret <| ev_frz <| ev_make init_mono T.mk_Hold (ok_init T) hr rfl T.mgC_Hold T.b_Hold_init .nil (fun _ => .nil) pass0 <| ea_cons <| ev_lc (own := [("spot", 2)]) rfl nd (blkOk_by (N := N_Hold_sub) (sc := defScope s_Hold_sub) (by decide +kernel)) rfl <| ig_val <| fld 0 T.cl_Hold T.na_Hold_rows (.obj (c := 0) (i := 0) rfl nd1 rfl) <| iv_lst rfl ⟨fun i acc μ' => acc = ((ps.take i).filter fun p => !decide (p ∈ qs)).map spD ∧ μ' = μ, ⟨rfl, rfl⟩, fun _ _ _ _ => trivial, ?_, ?_⟩
  · rintro i d acc _ hd ⟨rfl, rfl⟩ k
    obtain ⟨sp, hsp, rfl⟩ := map_at hd
    have hsp' : sp ∈ ps := List.mem_of_getElem? hsp
    refine tn 2 nd fun k => ts_one <| et_cmp <| nm 2 <| fld 1 T.cl_Hold T.na_Hold_rows (.obj (c := 0) (i := 0) rfl nd1 rfl) <| og_niL (n := 1) rfl hu .val (.val _) (spD_ok (o1.1 sp hsp')) (spDs_ok o2.1) (by decide) ⟨_, rfl, ?_⟩
    rw [inL_sp]
    refine ⟨fun h k => nm 2 ⟨filt_len o1 _ i, ?_, rfl⟩, fun h => ⟨?_, rfl⟩⟩
    · rw [filt_snoc hsp, if_pos h, List.map_append]
      rfl
    · rw [filt_snoc hsp, if_neg (by rw [h]; decide)]
  · rintro acc _ ⟨rfl, rfl⟩
    rw [List.length_map, List.take_length]
    exact ea_nil (newHold (.inl rfl) (filt_ok o1 _) q)
theorem ok_iter (T : Tx K mg a) : FnIt P w K mg base 1 a.f_Hold_iter a.C_Hold "rows" :=
  fnit_of (fund_fun T.F_Hold_iter) sc_Hold_iter T.b_Hold_iter rfl T.cl_Hold T.na_Hold_rows T.z_iter rfl rfl
theorem ok_take (T : Tx K mg a) : FnOk P w K mg base CX0 1 a.f_law_take a.fd_law_take ["_law_pool_here", "_law_size"] (spG (sgK K a) sg_take) := by
  refine fund_ok T.F_law_take sc_law_take (fun ds μ Q h => ?_) (fun cdv A outer s H E ds μ Q hr h => ?_)
  · obtain ⟨p, l, n, rfl, _⟩ := h
    rfl
  obtain ⟨p, l, n, rfl, rfl, hl, ⟨hn, hn2⟩, q⟩ := h
  have nd := sc_law_take.nd
  have hu := hu_room hr
  rcases hl with ⟨m, hm, rfl⟩ | ⟨x, k, cs, rfl, hx, hk, hc, hcl, hcs⟩
  · refine ifb <| et_cmp <| ev_callB rfl T.z_len b_len <| ea_cons <| nm 0 <| ea_nil <| cg_len rfl (.l (.ref (.head _))) <| ev_int <| og_eqI ⟨_, rfl, ⟨fun _ => ?_, fun h => by simp at h⟩⟩
    refine asg 2 nd <| ev_bin <| ev_callTy rfl T.z_int b_int <| ea_cons <| ev_ix (fun _ _ => rfl) <| nm 0 <| ev_int <| ig_l (.ref (.head _)) (by rfl) <| ea_nil <| cg_int <| nm 1 <| og_modI hn ?_
    refine setb <| ev_bin <| ev_ix (fun _ _ => rfl) <| nm 0 <| ev_int <| ig_l (.ref (.head _)) (by rfl) <| nm 1 <| og_fdivW (wide_div (b := 201) hn ?_ (by decide) (by decide)) <| tg_sub <| nm 0 <| ev_int ⟨p, _, _, 0, _, rfl, rfl, (by exact ixN0 (Nat.zero_lt_succ _)), .here, ?_⟩
    · have : (2 : Int) ^ 200 < 2 ^ 201 := by decide
      have e : ((2 ^ 201 : Nat) : Int) = 2 ^ 201 := by decide
      omega
    refine ret <| nm 2 <| q _ _ (Int.emod_nonneg _ (by omega)) (Int.emod_lt_of_pos _ hn) (.inl ⟨m / n, Int.ediv_nonneg hm (by omega), rfl⟩)
  · refine ifb <| et_cmp <| ev_callB rfl T.z_len b_len <| ea_cons <| nm 0 <| ea_nil <| cg_len rfl (.l (.ref (.head _))) <| ev_int <| og_eqI ⟨_, rfl, ⟨fun h => by simp at h, fun _ => nil ?_⟩⟩
    refine asg 3 nd <| ev_ix (fun _ _ => rfl) <| nm 0 <| ev_int <| ig_l (.ref (.head _)) (by rfl) ?_
    obtain ⟨c, hcm, hci⟩ := atI_mod hc hk
    have hc1 := hcs c hcm
    refine setb <| ev_bin <| ev_callTy rfl T.z_int b_int <| ea_cons <| ev_bin <| ev_bin <| ev_bin <| ev_ix (fun _ _ => rfl) <| nm 0 <| ev_int <| ig_l (.ref (.head _)) (by rfl) <| ev_int <| og_mulI (.inr ⟨by decide, by decide⟩) <| ev_ix (fun _ _ => rfl) <| nm 3 <| ev_bin <| ev_callTy rfl T.z_int b_int <| ea_cons <| ev_ix (fun _ _ => rfl) <| nm 0 <| ev_int <| ig_l (.ref (.head _)) (by rfl) <| ea_nil <| cg_int <| ev_callB rfl T.z_len b_len <| ea_cons <| nm 3 <| ea_nil <| cg_len rfl (.l (.val _)) <| og_modI ?_ <| ?_
    · rw [List.length_map]
      have hl : 0 < cs.length := List.length_pos_iff.mpr hc
      omega
    rw [List.length_map]
    refine ig_l (.val _) hci <| og_addI <| ev_int <| og_addI <| ea_nil <| cg_int <| ev_int <| og_modI (by decide) <| tg_sub <| nm 0 <| ev_int ⟨p, _, _, 0, _, rfl, rfl, (by exact ixN0 (Nat.zero_lt_succ _)), .here, ?_⟩
    have y1 : 0 ≤ (x * 75 + c + 74) % 65537 := Int.emod_nonneg _ (by decide)
    have y2 : (x * 75 + c + 74) % 65537 < 65537 := Int.emod_lt_of_pos _ (by decide)
    generalize (x * 75 + c + 74) % 65537 = y at y1 y2
    refine setb <| ev_bin <| ev_ix (fun _ _ => rfl) <| nm 0 <| ev_int <| ig_l (.ref (.head _)) (by rfl) <| ev_int <| og_addI <| tg_sub <| nm 0 <| ev_int ⟨p, _, _, 1, _, rfl, rfl, (by rfl), .here, ?_⟩
    have okl : PoolOk (((([.int x, .int k, .lst (cs.map D.int)] : List D).set 0 (.int y)).set 1 (.int (k + 1)))) := .inr ⟨y, k + 1, cs, rfl, ⟨y1, y2⟩, by omega, hc, hcl, hcs⟩
    refine ifb <| et_cmp <| nm 1 <| ev_int <| og_gtI ⟨_, rfl, ⟨fun _ => ?_, fun _ => nil ?_⟩⟩
    · refine ret <| ev_bin <| ev_callTy rfl T.z_int b_int <| ea_cons <| ev_bin <| ev_ix (fun _ _ => rfl) <| nm 0 <| ev_int <| ig_l (.ref (.head _)) (by rfl) <| ev_int <| og_powI ⟨by decide, by decide, by omega⟩ <| ea_nil <| cg_int <| nm 1 <| og_modI hn ?_
      exact q _ _ (Int.emod_nonneg _ (by omega)) (Int.emod_lt_of_pos _ hn) okl
    · refine ret <| ev_bin <| ev_callTy rfl T.z_int b_int <| ea_cons <| ev_ix (fun _ _ => rfl) <| nm 0 <| ev_int <| ig_l (.ref (.head _)) (by rfl) <| ea_nil <| cg_int <| nm 1 <| og_modI hn ?_
      exact q _ _ (Int.emod_nonneg _ (by omega)) (Int.emod_lt_of_pos _ hn) okl
/-! ### the law's own defs -/
theorem at0 {x : Int} {xs : List Int} : atI (x :: xs) 0 = some x := by
  unfold atI
  rw [ixN0 (n := (x :: xs).length) (Nat.zero_lt_succ _)]
  rfl
def sg_pool : SpG := fun ds μ Q => ∃ ns : List Int, ds = [.scr ns] ∧ ns.length ≤ 63 ∧ μ = [] ∧ ∀ p l, PoolOk l → Q (.ref p) [(p, .lst l)]
theorem pool_mono : MonoG sg_pool := fun _ _ _ _ ⟨ns, h1, h2, h3, q⟩ m => ⟨ns, h1, h2, h3, fun p l h => m _ _ (q p l h)⟩
theorem ok_pool (T : Tx K mg a) : FnOk P w K mg base CX0 1 a.f_law_pool a.fd_law_pool ["_law_script"] (spG (sgK K a) sg_pool) := by
  refine fund_ok T.F_law_pool sc_law_pool (fun ds μ Q h => ?_) (fun cdv A outer s H E ds μ Q hr h => ?_)
  · obtain ⟨ns, rfl, _⟩ := h
    rfl
  obtain ⟨ns, rfl, hlen, rfl, q⟩ := h
  have nd := sc_law_pool.nd
  refine ifb <| et_cmp <| ev_callB rfl T.z_len b_len <| ea_cons <| nm 0 <| ea_nil <| cg_lenScr rfl <| ev_int <| og_eqI ⟨_, rfl, fun h => ?_, fun h => nil ?_⟩
  · exact ret <| ev_lstM <| ea_cons <| ev_int <| ea_few (fun p _ => q p _ (.inl ⟨0, by decide, rfl⟩))
  · cases ns with
    | nil => simp at h
    | cons n ns =>
    refine ifb <| et_cmp <| ev_ix (fun _ _ => rfl) <| nm 0 <| ev_int <| ig_scr (ns := n :: ns) rfl at0 <| ev_bin <| ev_int <| ev_int <| og_powI ⟨by decide, by decide, by decide⟩ <| og_geI ⟨_, rfl, fun h => ?_, fun _ => nil ?_⟩
    · refine ret <| ev_lstM <| ea_cons <| ev_bin <| ev_ix (fun _ _ => rfl) <| nm 0 <| ev_int <| ig_scr (ns := n :: ns) rfl at0 <| ev_bin <| ev_int <| ev_int <| og_powI ⟨by decide, by decide, by decide⟩ <| og_subI <| ea_few (fun p _ => q p _ (.inl ⟨_, ?_, rfl⟩))
      have := of_decide_eq_true h
      omega
    · refine ret <| ev_lstM <| ea_cons <| ev_int <| ea_cons <| ev_int <| ea_cons <| ev_lc (own := [("_law_cell", 1)]) rfl nd (blkOk_by (N := N_law_pool) (sc := defScope s_law_pool) (by decide +kernel)) rfl <| ig_val <| nm 0 <| iv_scr rfl ⟨fun i acc μ' => acc = (((n :: ns).take i).map (fun c => c % 65537)).map D.int ∧ μ' = [], ⟨rfl, rfl⟩, fun _ _ _ _ => trivial, ?_, ?_⟩
      · rintro i d acc _ hd ⟨rfl, rfl⟩ k
        obtain ⟨c, hc, rfl⟩ := map_at hd
        refine tn 1 nd fun k => ts_nil ⟨fun _ k => ?_, fun h => nomatch h⟩
        refine ev_bin <| ev_callTy rfl T.z_int b_int <| ea_cons <| nm 1 <| ea_nil <| cg_int <| ev_int <| og_modI (by decide) ⟨?_, ?_, rfl⟩
        · have h3 : ((n :: ns).take i).length ≤ (n :: ns).length := List.length_take_le' i _
          rw [List.length_map, List.length_map]
          omega
        · rw [take_snoc hc, List.map_append, List.map_append]
          rfl
      · rintro acc _ ⟨rfl, rfl⟩
        rw [List.length_map, List.take_length]
        refine ea_few (fun p _ => q p _ (.inr ⟨1, 0, (n :: ns).map (fun c => c % 65537), rfl, by decide, by decide, (by simp), (by rw [List.length_map]; exact hlen), fun c hc => ?_⟩))
        obtain ⟨x, _, rfl⟩ := List.mem_map.mp hc
        exact ⟨Int.emod_nonneg _ (by decide), Int.emod_lt_of_pos _ (by decide)⟩
section
variable {X : Cx} {e : Expr} {es : List Expr} {Γ : Gm} {μ : Mem} {Q : QD} {p pos : Pos}
theorem c_take (T : Tx K mg a) (hX : X.prog = P ∧ X.w = w ∧ X.K = K ∧ X.mg = mg ∧ X.base = base) (hr : Room 1 X.A) (h : EvA X (sgK K a) (e :: es) Γ μ fun ds μ1 => AskG sg_take ds μ1 Q) (hg : Gl X "_law_take" := by rfl)
    (he : starEach (e :: es) X.env = (false, eval e X.env) :: starEach es X.env := by rfl) (hpl : (backTo pos (starEach es X.env)).any (·.1) = false := by rfl) : EvG X (sgK K a) (.Call (.Name "_law_take" p) (e :: es) [] pos) Γ μ Q := by
  obtain ⟨rfl, rfl, rfl, rfl, rfl⟩ := hX
  exact ev_call (E := E0) take_mono (ok_take T) hr hg T.mg_law_take T.F_law_take.kp T.b_law_take .nil (fun _ => .nil) pass0 (by simpa only [List.append_nil] using h) (by decide) he hpl
end
def sg_base : SpG := fun ds μ Q => ∃ p l, ds = [.ref p] ∧ μ = [(p, .lst l)] ∧ PoolOk l ∧ ∀ z l', BaseOk z → PoolOk l' → Q (.str z) [(p, .lst l')]
theorem base_mono : MonoG sg_base := fun _ _ _ _ ⟨p, l, h1, h2, h3, q⟩ m => ⟨p, l, h1, h2, h3, fun z l' a b => m _ _ (q z l' a b)⟩
theorem base_at {r : Int} (h1 : 0 ≤ r) (h2 : r < 24) : ∃ c, c ∈ baseC ∧ atI baseC r = some c := by
  obtain ⟨n, rfl⟩ := Int.eq_ofNat_of_zero_le h1
  have hn : n < baseC.length := by rw [base_len]; omega
  refine ⟨baseC[n], List.getElem_mem hn, ?_⟩
  have : ∀ n : Nat, n < 24 → atI baseC (n : Int) = baseC[n]? := by decide +kernel
  rw [this n (by omega)]
  exact List.getElem?_eq_getElem hn
theorem ok_base (T : Tx K mg a) : FnOk P w K mg base CX0 2 a.f_law_base a.fd_law_base ["_law_pool_here"] (spG (sgK K a) sg_base) := by
  refine fund_ok T.F_law_base sc_law_base (fun ds μ Q h => ?_) (fun cdv A outer s H E ds μ Q hr h => ?_)
  · obtain ⟨p, l, rfl, _⟩ := h
    rfl
  obtain ⟨p, l, rfl, rfl, hl, q⟩ := h
  have nd := sc_law_base.nd
  refine asg 1 nd <| ev_str <| ret <| ev_bm PySem.F.plainAttrs_str PySem.F.slot_str_join PySem.F.type_str_join <| ev_str ⟨rfl, ea_cons <| ev_lc (own := [("_law_k", 2)]) rfl nd (blkOk_by (N := N_law_base) (sc := defScope s_law_base) (by decide +kernel)) rfl <| ig_range1 rfl T.z_range <| ea_cons <| c_take (P := P) (w := w) (base := base) T ⟨rfl, rfl, rfl, rfl, rfl⟩ hr <| ea_cons <| nm 0 <| ea_cons <| ev_int <| ea_nil <| ask_take hl (by decide) fun r l1 r1 r2 hl1 => ea_nil ⟨r, rfl, by omega, ?_⟩⟩
  refine ⟨fun i acc μ' => ∃ (xs : List Nat) (l' : List D), acc = (xs.map fun c => (⟨#[c]⟩ : Str)).map D.str ∧ xs.length = i ∧ (∀ c ∈ xs, c ∈ baseC) ∧ μ' = [(p, .lst l')] ∧ PoolOk l', ⟨[], l1, rfl, rfl, (fun c h => by cases h), rfl, hl1⟩, fun _ _ _ _ => trivial, ?_, ?_⟩
  · rintro i d acc _ hd ⟨xs, l', rfl, hxl, hxs, rfl, hl'⟩ k
    obtain ⟨hi, rfl⟩ := rng_get hd
    refine tn 2 nd fun k => ts_nil ⟨fun _ k => ?_, fun h => nomatch h⟩
    refine ev_ix (fun _ _ => rfl) <| nm 1 <| c_take (P := P) (w := w) (base := base) T ⟨rfl, rfl, rfl, rfl, rfl⟩ hr <| ea_cons <| nm 0 <| ea_cons <| ev_int <| ea_nil <| ask_take hl' (by decide) fun r2 l2 r1 r2 hl2 => ?_
    obtain ⟨c, hc, hat⟩ := base_at r1 r2
    refine ig_s (by decide +kernel) hat ⟨?_, xs ++ [c], l2, (by rw [List.map_append, List.map_append]; rfl), (by simp [hxl]), ?_, rfl, hl2⟩
    · rw [List.length_map, List.length_map, hxl]
      omega
    · intro d hd
      rcases List.mem_append.mp hd with h | h
      · exact hxs d h
      · cases List.mem_singleton.mp h
        exact hc
  · rintro acc _ ⟨xs, l', rfl, hxl, hxs, rfl, hl'⟩
    rw [rng_len] at hxl
    refine ea_nil (mt_join rfl ?_ (q _ _ ⟨?_, ?_⟩ hl'))
    · have e1 : ∀ xs : List Nat, ((xs.map fun c => (⟨#[c]⟩ : Str)).map (·.length)).sum = xs.length := fun xs => by
        induction xs with
        | nil => rfl
        | cons x xs ih => rw [List.map_cons, List.map_cons, List.sum_cons, ih, List.length_cons]; show 1 + xs.length = _; omega
      rw [e1, List.length_map]
      show _ + _ * 0 ≤ _
      omega
    · rw [join_cs]
      omega
    · rw [join_cs]
      exact hxs
def sg_name : SpG := fun ds μ Q => ∃ p l b k, ds = [.ref p, .str b, .int k] ∧ μ = [(p, .lst l)] ∧ PoolOk l ∧ BaseOk b ∧ (0 ≤ k ∧ k < 12) ∧ ∀ z l', NameOk k.toNat z → PoolOk l' → Q (.str z) [(p, .lst l')]
theorem name_mono : MonoG sg_name := fun _ _ _ _ ⟨p, l, b, k, h1, h2, h3, h4, h5, q⟩ m => ⟨p, l, b, k, h1, h2, h3, h4, h5, fun z l' a b => m _ _ (q z l' a b)⟩
theorem mark_at {r : Int} (h1 : 0 ≤ r) (h2 : r < 12) : ∃ c, markC[r.toNat]? = some c ∧ atI markC r = some c := by
  obtain ⟨n, rfl⟩ := Int.eq_ofNat_of_zero_le h1
  have hn : n < markC.length := by rw [mark_len]; omega
  refine ⟨markC[n], by rw [Int.toNat_natCast]; exact List.getElem?_eq_getElem hn, ?_⟩
  have : ∀ n : Nat, n < 12 → atI markC (n : Int) = markC[n]? := by decide +kernel
  rw [this n (by omega)]
  exact List.getElem?_eq_getElem hn
theorem ok_name (T : Tx K mg a) : FnOk P w K mg base CX0 2 a.f_law_name a.fd_law_name ["_law_pool_here", "_law_base_here", "_law_k"] (spG (sgK K a) sg_name) := by
  refine fund_ok T.F_law_name sc_law_name (fun ds μ Q h => ?_) (fun cdv A outer s H E ds μ Q hr h => ?_)
  · obtain ⟨p, l, b, k, rfl, _⟩ := h
    rfl
  obtain ⟨p, l, b, k, rfl, rfl, hl, hb, ⟨k1, k2⟩, q⟩ := h
  have nd := sc_law_name.nd
  have hbl : b.length ≤ 11 := by rw [cs_len]; exact hb.1
  refine asg 3 nd <| ev_sl <| nm 1 <| po_no <| po_so <| c_take (P := P) (w := w) (base := base) T ⟨rfl, rfl, rfl, rfl, rfl⟩ hr <| ea_cons <| nm 0 <| ea_cons <| ev_bin <| ev_callB rfl T.z_len b_len <| ea_cons <| nm 1 <| ea_nil <| cg_lenS (z := b) (by omega) <| ev_int <| og_addI <| ea_nil <| ask_take hl (by omega) fun r l1 r1 r2 hl1 => ?_
  obtain ⟨n, rfl⟩ := Int.eq_ofNat_of_zero_le r1
  refine ⟨_, rfl, slg_s (by omega) ?_⟩
  have ht : cs (cutS b none (some (n : Int))) = (cs b).take n := cutS_tl
  generalize cutS b none (some (n : Int)) = t at ht
  have htl : t.length ≤ 11 := by
    rw [cs_len, ht]
    exact Nat.le_trans (List.length_take_le' n _) hb.1
  refine asg 4 nd <| c_take (P := P) (w := w) (base := base) T ⟨rfl, rfl, rfl, rfl, rfl⟩ hr <| ea_cons <| nm 0 <| ea_cons <| ev_bin <| ev_callB rfl T.z_len b_len <| ea_cons <| nm 3 <| ea_nil <| cg_lenS (z := t) (by omega) <| ev_int <| og_addI <| ea_nil <| ask_take hl1 (by omega) fun m l2 m1 m2 hl2 => ?_
  obtain ⟨m, rfl⟩ := Int.eq_ofNat_of_zero_le m1
  obtain ⟨c, hc, hat⟩ := mark_at k1 k2
  have a1 : cs (cutS t none (some (m : Int))) = (cs t).take m := cutS_tl
  have a2 : cs (cutS t (some (m : Int)) none) = (cs t).drop m := cutS_hd
  have b1 : (cutS t none (some (m : Int))).length ≤ 11 := by
    rw [cs_len, a1]
    have := List.length_take_le' m (cs t)
    rw [cs_len] at htl
    omega
  have b2 : (cutS t (some (m : Int)) none).length ≤ 11 := by
    rw [cs_len, a2, List.length_drop]
    rw [cs_len] at htl
    omega
  have b3 : (cutS t none (some (m : Int)) ++ (⟨#[c]⟩ : Str)).length ≤ 12 := by
    rw [cs_len, cs_app, List.length_append, ← cs_len, cs_one]
    show _ + 1 ≤ _
    omega
  refine ret <| ev_bin <| ev_bin <| ev_sl <| nm 3 <| po_no <| po_so <| nm 4 ⟨_, rfl, slg_s (z := t) (by omega) <| ev_ix (fun _ _ => rfl) <| ev_str <| nm 2 <| ig_s (by decide +kernel) hat <| og_addS (x := cutS t none (some (m : Int))) (y := ⟨#[c]⟩) (by show _ + 1 ≤ _; omega) <| ev_sl <| nm 3 <| po_so <| nm 4 ⟨_, rfl, po_no <| slg_s (z := t) (by omega) <| og_addS (x := cutS t none (some (m : Int)) ++ ⟨#[c]⟩) (y := cutS t (some (m : Int)) none) (by omega) (q _ _ ⟨(cs t).take m, (cs t).drop m, c, ?_, hc, ?_, ?_⟩ hl2)⟩⟩
  · rw [cs_app, cs_app, a1, a2, cs_one, List.append_assoc]
    rfl
  · rw [List.take_append_drop, ht]
    exact fun c hc => hb.2 c (List.mem_of_mem_take hc)
  · rw [List.take_append_drop, ← cs_len]
    exact htl
abbrev R_once : List D → D → Prop := fun ds d => ∃ ps : List Sp2, ds = [.lst (ps.map spD)] ∧ OkPs ps ∧ d = .lst ((once ps).map spD)
theorem ok_once (T : Tx K mg a) : FnOk P w K mg base CX0 1 a.f_law_once a.fd_law_once ["_law_rows"] (spG (sgK K a) (pr R_once)) := by
  refine fund_ok T.F_law_once sc_law_once (fun ds μ Q h => ?_) (fun cdv A outer s H E ds μ Q hr h => ?_)
  · obtain ⟨_, ⟨ps, rfl, _⟩, _⟩ := h
    rfl
  obtain ⟨_, ⟨ps, rfl, ok, rfl⟩, q⟩ := h
  have hu := hu_room hr
  have nd := sc_law_once.nd
  refine asg 1 nd (ev_lstM (ea_nil ⟨few, fun p hp => ?_⟩))
  refine forb PassesOwn.never (ig_val (nm 0 (iv_lst rfl ⟨fun i Γ μ' => ∃ o1, Γ = [some (.lst (ps.map spD)), some (.ref p), o1] ∧ μ' = (p, .lst ((once (ps.take i)).map spD)) :: μ, ⟨none, rfl, rfl⟩, fun _ _ _ _ => trivial, ?_, ?_⟩)))
  · rintro i d _ _ hd ⟨o1, rfl, rfl⟩
    obtain ⟨sp, hsp, rfl⟩ := map_at hd
    have hsp' : sp ∈ ps := List.mem_of_getElem? hsp
    refine tn 2 nd (ifb (et_cmp (nm 2 (nm 1 (og_niL (d' := spD sp) (n := 1) rfl hu .val (.ref (.head _)) (spD_ok (ok.1 sp hsp')) (spDs_ok (okOnce ok.1 i)) (by decide) ⟨_, rfl, ?_⟩)))))
    rw [inL_sp]
    refine ⟨fun ht => ?_, fun hf => ?_⟩
    · refine bl_cons (st_expr (ev_app (nm 1 ⟨p, rfl, ⟨_, .head _⟩, ea_cons (nm 2 (ea_nil ⟨_, _, _, rfl, .here, lenOnce ok.2 i, nil (nil ?_)⟩))⟩)))
      refine ⟨_, rfl, ?_⟩
      have hn : sp ∉ once (ps.take i) := by simpa using ht
      rw [take_snoc hsp, once_snoc, if_neg hn, List.map_append]
      rfl
    · refine nil (nil ⟨_, rfl, ?_⟩)
      have hn : sp ∈ once (ps.take i) := by simpa using hf
      rw [take_snoc hsp, once_snoc, if_pos hn]
  · rintro _ _ ⟨o1, rfl, rfl⟩
    rw [List.length_map, List.take_length]
    exact bl_frz (i := 1) rfl .here (ret (nm 1 q))
abbrev OkNs (ns : List Str) : Prop := (∀ n ∈ ns, OkS n) ∧ ns.length ≤ 1000
abbrev R_is : List D → D → Prop := fun ds d => ∃ (ps : List Sp2) (ns : List Str), ds = [hD ps, .lst (ps.map spD), .lst (ns.map D.str)] ∧ OkPs ps ∧ OkNs ns ∧ d = .bl true
theorem m_len (T : Tx K mg a) {X : Cx} (hX : X.prog = P ∧ X.w = w ∧ X.K = K ∧ X.mg = mg ∧ X.base = base) : MethG X (sgK K a) CX0 E0 1 a.C_Hold a.f_Hold_len "__len__" a.fd_Hold_len ["self"] (pr R_len) := by
  obtain ⟨rfl, rfl, rfl, rfl, rfl⟩ := hX
  exact ⟨pr_mono, T.at_Hold_len, T.fn_Hold_len, ok_len T, T.b_Hold_len, pass0⟩
theorem m_contains (T : Tx K mg a) {X : Cx} (hX : X.prog = P ∧ X.w = w ∧ X.K = K ∧ X.mg = mg ∧ X.base = base) : MethG X (sgK K a) CX0 E0 1 a.C_Hold a.f_Hold_contains "__contains__" a.fd_Hold_contains ["self", "spot"] (pr R_contains) := by
  obtain ⟨rfl, rfl, rfl, rfl, rfl⟩ := hX
  exact ⟨pr_mono, T.at_Hold_contains, T.fn_Hold_contains, ok_contains T, T.b_Hold_contains, pass0⟩
theorem sp_lt {ps : List Sp2} {i : Nat} (h : ps.length ≤ 1000000) : ((ps.take i).map spD).length < 16777216 := by
  rw [List.length_map]
  have h3 : (ps.take i).length ≤ ps.length := List.length_take_le' i ps
  omega
theorem sps_ok {ps : List Sp2} (h : OkPs ps) : D.ok 2 (.lst (ps.map spD)) = true := spDs_ok h.1
theorem ok_is (T : Tx K mg a) : FnOk P w K mg base CX0 3 a.f_law_is_hold a.fd_law_is_hold ["_law_hold", "_law_rows", "_law_names"] (spG (sgK K a) (pr R_is)) := by
  refine fund_ok T.F_law_is_hold sc_law_is_hold (fun ds μ Q h => ?_) (fun cdv A outer s H E ds μ Q hr h => ?_)
  · obtain ⟨_, ⟨ps, ns, rfl, _⟩, _⟩ := h
    rfl
  obtain ⟨_, ⟨ps, ns, rfl, ok, okn, rfl⟩, q⟩ := h
  have hu := hu_room hr
  have nd := sc_law_is_hold.nd
  refine ifb <| et_w <| ew_or <| et_not <| et_val <| ev_callB rfl T.z_isinstance b_isinstance <| ea_cons <| nm 0 <| ea_cons <| ev_globR rfl T.mgC_Hold <| ea_nil <| isi (.obj (c := 0) T.is_Hold) T.ki_Hold ⟨_, rfl, fun _ => ?_, (fun h => nomatch h)⟩
  refine ew_or <| et_cmp <| ev_lc (own := [("_law_row", 3)]) rfl nd (blkOk_by (N := N_law_is_hold) (sc := defScope s_law_is_hold) (by decide +kernel)) rfl <| ig_val <| nm 0 <| iv_own (l := ps.map spD) rfl (ok_iter T) (hr.mono (by decide)) T.at_Hold_iter T.fn_Hold_iter (.obj (c := 0) (i := 0) rfl nd1 rfl) ⟨fun i acc μ' => acc = (ps.take i).map spD ∧ μ' = μ, ⟨rfl, rfl⟩, fun _ _ _ _ => trivial, ?_, ?_⟩
  · rintro i d acc _ hd ⟨rfl, rfl⟩ k
    obtain ⟨sp, hsp, rfl⟩ := map_at hd
    refine tn 3 nd fun k => ts_nil ⟨fun _ k => nm 3 ⟨sp_lt ok.2, ?_, rfl⟩, fun h => nomatch h⟩
    rw [take_snoc hsp, List.map_append]
    rfl
  rintro acc m0 ⟨rfl, rfl⟩
  rw [List.length_map, List.take_length]
  refine nm 1 <| og_neD (d' := .lst (ps.map spD)) (e' := .lst (ps.map spD)) (n := 2) (m := 2) rfl hu .val .val (sps_ok ok) (sps_ok ok) (by decide) (by decide) ⟨_, rfl, ?_⟩
  rw [eqv_sps, decide_eq_true rfl]
  refine ⟨fun _ => ?_, (fun h => nomatch h)⟩
  refine ew_or1 <| et_cmp <| ev_callB rfl T.z_len b_len <| ea_cons <| nm 0 <| ea_nil <| cg_lenOwn (m_len (P := P) (w := w) (base := base) T ⟨rfl, rfl, rfl, rfl, rfl⟩) hr (.obj (c := 0)) <| ask_pr ⟨ps, rfl, rfl⟩ ⟨_, rfl, (by have := ok.2; omega), ev_callB rfl T.z_len b_len <| ea_cons <| nm 1 <| ea_nil <| cg_len rfl (.l (.val _)) <| og_neI ⟨_, rfl, ?_⟩⟩
  rw [List.length_map, decide_eq_true rfl]
  refine ⟨(fun h => nomatch h), fun _ => nil ?_⟩
  have ab : ∀ n ∈ ns, OkS n := okn.1
  refine forb PassesOwn.never (ig_val (nm 2 (iv_lst rfl ⟨fun i Γ μ' => ∃ o3 o4 o5, Γ = [some (hD ps), some (.lst (ps.map spD)), some (.lst (ns.map D.str)), o3, o4, o5] ∧ μ' = m0, ⟨_, _, _, rfl, rfl⟩, fun _ _ _ _ => trivial, ?_, ?_⟩)))
  · rintro i d _ m1 hd ⟨o3, o4, o5, rfl, rfl⟩
    obtain ⟨x, hx, rfl⟩ := map_at hd
    have hx' : x ∈ ns := List.mem_of_getElem? hx
    refine tn 4 nd <| forb PassesOwn.never (ig_val (nm 2 (iv_lst rfl ⟨fun i Γ μ' => ∃ o3 o5, Γ = [some (hD ps), some (.lst (ps.map spD)), some (.lst (ns.map D.str)), o3, some (.str x), o5] ∧ μ' = m1, ⟨_, _, rfl, rfl⟩, fun _ _ _ _ => trivial, ?_, ?_⟩)))
    · rintro i d _ _ hd ⟨o3, o5, rfl, rfl⟩
      obtain ⟨y, hy, rfl⟩ := map_at hd
      have hy' : y ∈ ns := List.mem_of_getElem? hy
      have oks : OkP (x, y) := ⟨ab x hx', ab y hy'⟩
      refine tn 5 nd <| ifb <| et_cmp <| ev_cmp <| ev_tup <| ea_cons <| nm 4 <| ea_cons <| nm 5 <| ea_few <| nm 0 <| og_inOwn (m_contains (P := P) (w := w) (base := base) T ⟨rfl, rfl, rfl, rfl, rfl⟩) (hr.mono (by decide)) (.obj (c := 0)) <| ask_pr ⟨ps, (x, y), rfl, ok, oks, rfl⟩ ⟨_, rfl, ev_cmp <| ev_tup <| ea_cons <| nm 4 <| ea_cons <| nm 5 <| ea_few <| nm 1 <| og_inL (d' := spD (x, y)) (n := 1) rfl hu .val (.val _) (spD_ok oks) (spDs_ok ok.1) (by decide) ?_⟩
      rw [inL_sp]
      refine og_neB ⟨_, rfl, ?_⟩
      rw [decide_eq_true rfl]
      exact ⟨(fun h => nomatch h), fun _ => nil (nil ⟨_, _, rfl, rfl⟩)⟩
    · rintro _ _ ⟨o3, o5, rfl, rfl⟩
      exact nil ⟨_, _, _, rfl, rfl⟩
  · rintro _ _ ⟨o3, o4, o5, rfl, rfl⟩
    exact ret (ev_bl q)
abbrev R_bool : List D → D → Prop := fun ds d => ∃ x y : Bool, ds = [.bl x, .bl y] ∧ x = y ∧ d = .bl true
theorem ok_bool (T : Tx K mg a) : FnOk P w K mg base CX0 1 a.f_law_is_bool a.fd_law_is_bool ["_law_actual", "_law_expected"] (spG (sgK K a) (pr R_bool)) := by
  refine fund_ok T.F_law_is_bool sc_law_is_bool (fun ds μ Q h => ?_) (fun cdv A outer s H E ds μ Q hr h => ?_)
  · obtain ⟨_, ⟨x, y, rfl, _⟩, _⟩ := h
    rfl
  obtain ⟨_, ⟨x, y, rfl, rfl, rfl⟩, q⟩ := h
  refine ret <| ev_and <| ev_callB rfl T.z_isinstance b_isinstance <| ea_cons <| nm 0 <| ea_cons <| ev_bty rfl T.z_bool b_bool <| ea_nil <| cg_isiT rfl (.bl x) kit_same ⟨true, rfl, fun _ => ev_and1 <| ev_cmp <| nm 0 <| nm 1 <| og_eqB ?_, fun h => nomatch h⟩
  rw [decide_eq_true rfl]
  exact q
def sg_drawn : SpG := fun ds μ Q => ∃ p l ns n, ds = [.ref p, .lst (ns.map D.str), .int n] ∧ μ = [(p, .lst l)] ∧ PoolOk l ∧ OkNs ns ∧ ns ≠ [] ∧ (0 ≤ n ∧ n ≤ 60) ∧ ∀ (ps : List Sp2) l', OkPs ps → ps.length = n.toNat → PoolOk l' → Q (.lst (ps.map spD)) [(p, .lst l')]
theorem drawn_mono : MonoG sg_drawn := fun _ _ _ _ ⟨p, l, ns, n, h1, h2, h3, h4, h5, h6, q⟩ m => ⟨p, l, ns, n, h1, h2, h3, h4, h5, h6, fun ps l' a b c => m _ _ (q ps l' a b c)⟩
theorem name_of {ns : List Str} {r : Int} (h1 : 0 ≤ r) (h2 : r < ns.length) : ∃ x, x ∈ ns ∧ atI (ns.map D.str) r = some (.str x) := by
  obtain ⟨n, rfl⟩ := Int.eq_ofNat_of_zero_le h1
  have hn : n < ns.length := by omega
  refine ⟨ns[n], List.getElem_mem hn, ?_⟩
  unfold atI ixN
  rw [if_pos (by omega), if_pos (by rw [List.length_map]; omega)]
  show (ns.map D.str)[((n : Int)).toNat]? = _
  rw [Int.toNat_natCast, List.getElem?_map, List.getElem?_eq_getElem hn]
  rfl
theorem ok_drawn (T : Tx K mg a) : FnOk P w K mg base CX0 2 a.f_law_drawn_spots a.fd_law_drawn_spots ["_law_pool_here", "_law_names", "_law_size"] (spG (sgK K a) sg_drawn) := by
  refine fund_ok T.F_law_drawn_spots sc_law_drawn_spots (fun ds μ Q h => ?_) (fun cdv A outer s H E ds μ Q hr h => ?_)
  · obtain ⟨p, l, ns, n, rfl, _⟩ := h
    rfl
  obtain ⟨p, l, ns, n, rfl, rfl, hl, okn, hne, ⟨n1, n2⟩, q⟩ := h
  have hu := hu_room hr
  have nd := sc_law_drawn_spots.nd
  have hnl : 0 < ns.length := List.length_pos_iff.mpr hne
  have hb : (0 : Int) < ((ns.map D.str).length : Int) ∧ ((ns.map D.str).length : Int) < 2 ^ 200 := by
    rw [List.length_map]
    have := okn.2
    have : (1000 : Int) < 2 ^ 200 := by decide
    omega
  refine asg 3 nd (ev_lstE (ea_nil ⟨few, fun y hy => ?_⟩))
  refine forb PassesOwn.never <| ig_range1 rfl T.z_range <| ea_cons <| nm 2 <| ea_nil ⟨n, rfl, by omega, fun i Γ μ' => ∃ o1 ps l', Γ = [some (.ref p), some (.lst (ns.map D.str)), some (.int n), some (.ref y), o1] ∧ μ' = [(p, .lst l'), (y, .lst (ps.map spD))] ∧ OkPs ps ∧ ps.length = i ∧ PoolOk l', ⟨none, [], l, rfl, rfl, ⟨(fun c h => by cases h), by decide⟩, rfl, hl⟩, fun _ _ _ _ => trivial, ?_, ?_⟩
  · rintro i d _ _ hd ⟨o1, ps, l', rfl, rfl, okp, hpl, hl'⟩
    obtain ⟨hi, rfl⟩ := rng_get hd
    refine tn 4 nd <| bl_cons <| st_expr <| ev_app <| nm 3 ⟨y, rfl, ⟨_, .tail _ (.head _)⟩, ea_cons <| ev_tup <| ea_cons <| ev_ix (fun _ _ => rfl) <| nm 1 <| c_take (P := P) (w := w) (base := base) T ⟨rfl, rfl, rfl, rfl, rfl⟩ hr <| ea_cons <| nm 0 <| ea_cons <| ev_callB rfl T.z_len b_len <| ea_cons <| nm 1 <| ea_nil <| cg_len rfl (.l (.val _)) <| ea_nil <| ask_take hl' hb fun r l1 r1 r2 hl1 => ?_⟩
    rw [List.length_map] at r2
    obtain ⟨u, hu1, hu2⟩ := name_of r1 r2
    refine ig_l (.val _) hu2 <| ea_cons <| ev_ix (fun _ _ => rfl) <| nm 1 <| c_take (P := P) (w := w) (base := base) T ⟨rfl, rfl, rfl, rfl, rfl⟩ hr <| ea_cons <| nm 0 <| ea_cons <| ev_callB rfl T.z_len b_len <| ea_cons <| nm 1 <| ea_nil <| cg_len rfl (.l (.val _)) <| ea_nil <| ask_take hl1 hb fun m l2 m1 m2 hl2 => ?_
    rw [List.length_map] at m2
    obtain ⟨v, hv1, hv2⟩ := name_of m1 m2
    refine ig_l (.val _) hv2 <| ea_few <| ea_nil ⟨_, ps.map spD, _, rfl, .there .here, ?_, nil ⟨_, ps ++ [(u, v)], l2, rfl, (by rw [List.map_append]; rfl), ⟨?_, ?_⟩, (by simp [hpl]), hl2⟩⟩
    · rw [List.length_map]
      have := okp.2
      omega
    · intro s hs
      rcases List.mem_append.mp hs with h | h
      · exact okp.1 s h
      · cases List.mem_singleton.mp h
        exact ⟨okn.1 u hu1, okn.1 v hv1⟩
    · rw [List.length_append]
      show _ + 1 ≤ _
      omega
  · rintro _ _ ⟨o1, ps, l', rfl, rfl, okp, hpl, hl'⟩
    rw [rng_len] at hpl
    exact bl_frz (i := 3) rfl (.there .here) (ret (nm 3 (q ps l' okp hpl hl')))
section
variable {X : Cx} {e : Expr} {es : List Expr} {Γ : Gm} {μ : Mem} {Q : QD} {p pos : Pos}
theorem c_is (T : Tx K mg a) (hX : X.prog = P ∧ X.w = w ∧ X.K = K ∧ X.mg = mg ∧ X.base = base) (hr : Room 7 X.A) (h : EvA X (sgK K a) (e :: es) Γ μ fun ds μ1 => AskG (pr R_is) ds μ1 Q) (hg : Gl X "_law_is_hold" := by rfl)
    (he : starEach (e :: es) X.env = (false, eval e X.env) :: starEach es X.env := by rfl) (hpl : (backTo pos (starEach es X.env)).any (·.1) = false := by rfl) : EvG X (sgK K a) (.Call (.Name "_law_is_hold" p) (e :: es) [] pos) Γ μ Q := by
  obtain ⟨rfl, rfl, rfl, rfl, rfl⟩ := hX
  exact ev_call (E := E0) pr_mono (ok_is T) (hr.mono (by decide)) hg T.mg_law_is_hold T.F_law_is_hold.kp T.b_law_is_hold .nil (fun _ => .nil) pass0 (by simpa only [List.append_nil] using h) (by decide) he hpl
theorem c_once (T : Tx K mg a) (hX : X.prog = P ∧ X.w = w ∧ X.K = K ∧ X.mg = mg ∧ X.base = base) (hr : Room 7 X.A) (h : EvA X (sgK K a) (e :: es) Γ μ fun ds μ1 => AskG (pr R_once) ds μ1 Q) (hg : Gl X "_law_once" := by rfl)
    (he : starEach (e :: es) X.env = (false, eval e X.env) :: starEach es X.env := by rfl) (hpl : (backTo pos (starEach es X.env)).any (·.1) = false := by rfl) : EvG X (sgK K a) (.Call (.Name "_law_once" p) (e :: es) [] pos) Γ μ Q := by
  obtain ⟨rfl, rfl, rfl, rfl, rfl⟩ := hX
  exact ev_call (E := E0) pr_mono (ok_once T) (hr.mono (by decide)) hg T.mg_law_once T.F_law_once.kp T.b_law_once .nil (fun _ => .nil) pass0 (by simpa only [List.append_nil] using h) (by decide) he hpl
theorem c_bool (T : Tx K mg a) (hX : X.prog = P ∧ X.w = w ∧ X.K = K ∧ X.mg = mg ∧ X.base = base) (hr : Room 7 X.A) (h : EvA X (sgK K a) (e :: es) Γ μ fun ds μ1 => AskG (pr R_bool) ds μ1 Q) (hg : Gl X "_law_is_bool" := by rfl)
    (he : starEach (e :: es) X.env = (false, eval e X.env) :: starEach es X.env := by rfl) (hpl : (backTo pos (starEach es X.env)).any (·.1) = false := by rfl) : EvG X (sgK K a) (.Call (.Name "_law_is_bool" p) (e :: es) [] pos) Γ μ Q := by
  obtain ⟨rfl, rfl, rfl, rfl, rfl⟩ := hX
  exact ev_call (E := E0) pr_mono (ok_bool T) (hr.mono (by decide)) hg T.mg_law_is_bool T.F_law_is_bool.kp T.b_law_is_bool .nil (fun _ => .nil) pass0 (by simpa only [List.append_nil] using h) (by decide) he hpl
theorem c_drawn (T : Tx K mg a) (hX : X.prog = P ∧ X.w = w ∧ X.K = K ∧ X.mg = mg ∧ X.base = base) (hr : Room 7 X.A) (h : EvA X (sgK K a) (e :: es) Γ μ fun ds μ1 => AskG sg_drawn ds μ1 Q) (hg : Gl X "_law_drawn_spots" := by rfl)
    (he : starEach (e :: es) X.env = (false, eval e X.env) :: starEach es X.env := by rfl) (hpl : (backTo pos (starEach es X.env)).any (·.1) = false := by rfl) : EvG X (sgK K a) (.Call (.Name "_law_drawn_spots" p) (e :: es) [] pos) Γ μ Q := by
  obtain ⟨rfl, rfl, rfl, rfl, rfl⟩ := hX
  exact ev_call (E := E0) drawn_mono (ok_drawn T) (hr.mono (by decide)) hg T.mg_law_drawn_spots T.F_law_drawn_spots.kp T.b_law_drawn_spots .nil (fun _ => .nil) pass0 (by simpa only [List.append_nil] using h) (by decide) he hpl
end
theorem m_or (T : Tx K mg a) {X : Cx} (hX : X.prog = P ∧ X.w = w ∧ X.K = K ∧ X.mg = mg ∧ X.base = base) : MethG X (sgK K a) CX0 E0 3 a.C_Hold a.f_Hold_or "__or__" a.fd_Hold_or ["self", "other"] (pr R_or) := by
  obtain ⟨rfl, rfl, rfl, rfl, rfl⟩ := hX
  exact ⟨pr_mono, T.at_Hold_or, T.fn_Hold_or, ok_or T, T.b_Hold_or, pass0⟩
theorem m_and (T : Tx K mg a) {X : Cx} (hX : X.prog = P ∧ X.w = w ∧ X.K = K ∧ X.mg = mg ∧ X.base = base) : MethG X (sgK K a) CX0 E0 3 a.C_Hold a.f_Hold_and "__and__" a.fd_Hold_and ["self", "other"] (pr R_and) := by
  obtain ⟨rfl, rfl, rfl, rfl, rfl⟩ := hX
  exact ⟨pr_mono, T.at_Hold_and, T.fn_Hold_and, ok_and T, T.b_Hold_and, pass0⟩
theorem m_sub (T : Tx K mg a) {X : Cx} (hX : X.prog = P ∧ X.w = w ∧ X.K = K ∧ X.mg = mg ∧ X.base = base) : MethG X (sgK K a) CX0 E0 3 a.C_Hold a.f_Hold_sub "__sub__" a.fd_Hold_sub ["self", "other"] (pr R_sub) := by
  obtain ⟨rfl, rfl, rfl, rfl, rfl⟩ := hX
  exact ⟨pr_mono, T.at_Hold_sub, T.fn_Hold_sub, ok_sub T, T.b_Hold_sub, pass0⟩
theorem m_eq (T : Tx K mg a) {X : Cx} (hX : X.prog = P ∧ X.w = w ∧ X.K = K ∧ X.mg = mg ∧ X.base = base) : MethG X (sgK K a) CX0 E0 2 a.C_Hold a.f_Hold_eq "__eq__" a.fd_Hold_eq ["self", "other"] (pr R_eq) := by
  obtain ⟨rfl, rfl, rfl, rfl, rfl⟩ := hX
  exact ⟨pr_mono, T.at_Hold_eq, T.fn_Hold_eq, ok_eq T, T.b_Hold_eq, pass0⟩
theorem at_neg {ps : List Sp2} {k : Nat} (h : k < ps.length) : ∃ p, p ∈ ps ∧ atI (ps.map spD) (-1 - (0 + (k : Int))) = some (spD p) := by
  refine ⟨ps[ps.length - 1 - k], List.getElem_mem (by omega), ?_⟩
  unfold atI ixN
  rw [if_neg (by omega), if_pos (by rw [List.length_map]; omega)]
  show (ps.map spD)[_]? = _
  rw [List.getElem?_map, List.length_map, show ((-1 - (0 + (k : Int))) + (ps.length : Int)).toNat = ps.length - 1 - k by omega, List.getElem?_eq_getElem (by omega)]
  rfl
def sg_law : SpG := fun ds μ Q => ∃ ns : List Int, ds = [.scr ns] ∧ ns.length ≤ 63 ∧ μ = [] ∧ ∀ μ', Q (.bl true) μ'
def near : List Sp2 := [("a", "bc"), ("ab", "c")]
theorem near_ok : OkPs near := ⟨fun p hp => by
  rcases List.mem_cons.mp hp with rfl | hp
  · exact ⟨by decide +kernel, by decide +kernel⟩
  · cases List.mem_singleton.mp hp
    exact ⟨by decide +kernel, by decide +kernel⟩, by decide⟩
theorem near_nd : near.Nodup := by decide +kernel
theorem near_ok1 : OkPs [("a", "bc")] := ⟨fun p hp => near_ok.1 p (by cases List.mem_singleton.mp hp; exact List.mem_cons_self), by decide⟩
theorem near_ok2 : OkPs [("ab", "c")] := ⟨fun p hp => near_ok.1 p (by cases List.mem_singleton.mp hp; exact List.mem_cons_of_mem _ List.mem_cons_self), by decide⟩
theorem near_le : ((once [("a", "bc")]).all fun p => decide (p ∈ once [("ab", "c")])) = false := by decide +kernel
theorem once_ok {ps : List Sp2} (h : OkPs ps) : OkPs (once ps) := ⟨fun p hp => h.1 p (mem_once.mp hp), Nat.le_trans (once_len ps) h.2⟩
theorem take_ok {ps : List Sp2} (h : OkPs ps) (n : Nat) : OkPs (ps.take n) := ⟨fun p hp => h.1 p (List.mem_of_mem_take hp), Nat.le_trans (List.length_take_le' n ps) h.2⟩
theorem drop_ok {ps : List Sp2} (h : OkPs ps) (n : Nat) : OkPs (ps.drop n) := ⟨fun p hp => h.1 p (List.mem_of_mem_drop hp), by rw [List.length_drop]; have := h.2; omega⟩
theorem ok_lawG (T : Tx K mg a) : FnOk P w K mg base CX0 8 a.f_law a.fd_law ["_law_script"] (spG (sgK K a) sg_law) := by
  refine fund_ok T.F_law sc_law (fun ds μ Q h => ?_) (fun cdv A outer s H E ds μ Q hr h => ?_)
  · obtain ⟨ns, rfl, _⟩ := h
    rfl
  obtain ⟨sc, rfl, hlen, rfl, q⟩ := h
  have hu := hu_room hr
  have nd := sc_law.nd
  have h1 := hr.mono (j := 1) (by decide)
  refine asg 1 nd <| ev_call (E := E0) pool_mono (ok_pool T) h1 rfl T.mg_law_pool T.F_law_pool.kp T.b_law_pool .nil (fun _ => .nil) pass0 <| ea_cons <| nm 0 <| ea_nil ⟨[], [], Split.none _, sc, rfl, hlen, rfl, fun p l hl => ?_⟩
  refine asg 2 nd <| ev_call (E := E0) base_mono (ok_base T) (hr.mono (by decide)) rfl T.mg_law_base T.F_law_base.kp T.b_law_base .nil (fun _ => .nil) pass0 <| ea_cons <| nm 1 <| ea_nil ⟨[(p, .lst l)], [], Split.all _, p, l, rfl, rfl, hl, fun z l hz hl => ?_⟩
  -- the names
  refine bl_cons <| st_setLc (i := 3) (own := [("_law_k", 4)]) rfl nd rfl rfl (by rfl) (blkOk_by (N := N_law) (sc := defScope s_law) (by decide +kernel)) rfl <| ig_range1 rfl T.z_range <| ea_cons <| ev_bin <| ev_int <| c_take (P := P) (w := w) (base := base) T ⟨rfl, rfl, rfl, rfl, rfl⟩ h1 <| ea_cons <| nm 1 <| ea_cons <| ev_int <| ea_nil <| ask_take hl (by decide) fun r l r1 r2 hl => og_addI <| ea_nil ⟨2 + r, rfl, by omega, ?_⟩
  refine ⟨fun i acc μ' => ∃ (xs : List Str) (l' : List D), acc = xs.map D.str ∧ xs.length = i ∧ (∀ x ∈ xs, OkS x) ∧ μ' = [(p, .lst l')] ∧ PoolOk l', ⟨[], l, rfl, rfl, (fun c h => by cases h), rfl, hl⟩, fun _ _ _ _ => trivial, ?_, ?_⟩
  · rintro i d acc _ hd ⟨xs, l', rfl, hxl, hxs, rfl, hl'⟩ k
    obtain ⟨hi, rfl⟩ := rng_get hd
    refine tn 4 nd fun k => ts_nil ⟨fun _ k => ?_, fun h => nomatch h⟩
    refine ev_call (E := E0) name_mono (ok_name T) (hr.mono (by decide)) rfl T.mg_law_name T.F_law_name.kp T.b_law_name .nil (fun _ => .nil) pass0 <| ea_cons <| nm 1 <| ea_cons <| nm 2 <| ea_cons <| nm 4 <| ea_nil ⟨[(p, .lst l')], [], Split.all _, p, l', z, 0 + (i : Int), rfl, rfl, hl', hz, (by omega), fun y l2 hy hl2 => ⟨?_, xs ++ [y], l2, (by rw [List.map_append]; rfl), (by simp [hxl]), ?_, rfl, hl2⟩⟩
    · rw [List.length_map]
      omega
    · intro x hx
      rcases List.mem_append.mp hx with h | h
      · exact hxs x h
      · cases List.mem_singleton.mp h
        exact hy.ok
  rintro acc _ ⟨ns, l, rfl, hnl, hns, rfl, hl⟩
  rw [rng_len] at hnl
  have okn : OkNs ns := ⟨hns, by omega⟩
  have hne : ns ≠ [] := fun h => by rw [h] at hnl; simp at hnl; omega
  -- the sizes
  refine asg 5 nd <| ev_bin <| ev_int <| c_take (P := P) (w := w) (base := base) T ⟨rfl, rfl, rfl, rfl, rfl⟩ h1 <| ea_cons <| nm 1 <| ea_cons <| ev_int <| ea_nil <| ask_take hl (by decide) fun r l r1 r2 hl => og_subI ?_
  refine seqP (fun Γ' μ' => ∃ (n : Int) (l : List D), (0 ≤ n ∧ n ≤ 60) ∧ Γ' = [some (.scr sc), some (.ref p), some (.str z), some (.lst (ns.map D.str)), none, some (.int n), none, none, none, none, none, none, none, none, none] ∧ μ' = [(p, .lst l)] ∧ PoolOk l) (st_if <| et_cmp <| c_take (P := P) (w := w) (base := base) T ⟨rfl, rfl, rfl, rfl, rfl⟩ h1 <| ea_cons <| nm 1 <| ea_cons <| ev_int <| ea_nil <| ask_take hl (by decide) fun m l m1 m2 hl => ev_int <| og_eqI ⟨_, rfl, fun _ => asg 5 nd <| ev_int <| nil ⟨60, l, by decide, rfl, rfl, hl⟩, fun _ => nil ⟨12 - r, l, by omega, rfl, rfl, hl⟩⟩) ?_
  rintro _ _ ⟨n, l, hn, rfl, rfl, hl⟩
  have ttwo : ∀ {l : List D}, D.ok 2 (.lst l) = true → True := fun _ => trivial
  refine asg 6 nd <| c_drawn (P := P) (w := w) (base := base) T ⟨rfl, rfl, rfl, rfl, rfl⟩ hr <| ea_cons <| nm 1 <| ea_cons <| nm 3 <| ea_cons <| nm 5 <| ea_nil ⟨[(p, .lst l)], [], Split.all _, p, l, ns, n, rfl, rfl, hl, okn, hne, hn, fun ps l okp hpl hl => ?_⟩
  refine asg 7 nd <| ev_lstE <| ea_cons <| c_drawn (P := P) (w := w) (base := base) T ⟨rfl, rfl, rfl, rfl, rfl⟩ hr <| ea_cons <| nm 1 <| ea_cons <| nm 3 <| ea_cons <| ev_bin <| ev_int <| c_take (P := P) (w := w) (base := base) T ⟨rfl, rfl, rfl, rfl, rfl⟩ h1 <| ea_cons <| nm 1 <| ea_cons <| ev_int <| ea_nil <| ask_take hl (by decide) fun m l m1 m2 hl => og_subI <| ea_nil ⟨[(p, .lst l)], [], Split.all _, p, l, ns, 12 - m, rfl, rfl, hl, okn, hne, (by omega), fun qa l oka hqa hl => ?_⟩
  refine ea_cons <| ev_lc (own := [("_law_k", 4)]) rfl nd (blkOk_by (N := N_law) (sc := defScope s_law) (by decide +kernel)) rfl <| ig_range1 rfl T.z_range <| ea_cons <| ev_callB rfl T.z_len b_len <| ea_cons <| nm 6 <| ea_nil <| cg_len (l := ps.map spD) rfl (.l (.val _)) <| ea_nil ⟨_, rfl, (by rw [List.length_map]; omega), ?_⟩
  have hps : ps.length ≤ 60 := by omega
  refine ⟨fun i acc μ' => ∃ (qs : List Sp2), acc = qs.map spD ∧ qs.length = i ∧ (∀ x ∈ qs, OkP x) ∧ μ' = [(p, .lst l)], ⟨[], rfl, rfl, (fun c h => by cases h), rfl⟩, fun _ _ _ _ => trivial, ?_, ?_⟩
  · rintro i d acc _ hd ⟨qs, rfl, hql, hqs, rfl⟩ k
    obtain ⟨hi, rfl⟩ := rng_get hd
    rw [List.length_map] at hi
    obtain ⟨sp, hsp, hat⟩ := at_neg (ps := ps) (k := i) (by omega)
    refine tn 4 nd fun k => ts_nil ⟨fun _ k => ?_, fun h => nomatch h⟩
    refine ev_ix (fun _ _ => rfl) <| nm 6 <| ev_bin <| ev_un <| ev_int <| ug_neg <| nm 4 <| og_subI <| ig_l (.val _) hat ⟨?_, qs ++ [sp], (by rw [List.map_append]; rfl), (by simp [hql]), ?_, rfl⟩
    · rw [List.length_map]
      omega
    · intro x hx
      rcases List.mem_append.mp hx with h | h
      · exact hqs x h
      · cases List.mem_singleton.mp h
        exact okp.1 _ hsp
  rintro acc _ ⟨qb, rfl, hqb, okb', rfl⟩
  rw [rng_len, List.length_map] at hqb
  have okb : OkPs qb := ⟨okb', by omega⟩
  refine ea_nil ⟨few, fun y hy => ?_⟩
  -- the third
  refine bl_cons <| st_expr <| ev_app <| nm 7 ⟨y, rfl, ⟨_, .tail _ (.head _)⟩, ea_cons <| ev_lc (own := [("_law_row", 8)]) rfl nd (blkOk_by (N := N_law) (sc := defScope s_law) (by decide +kernel)) rfl <| ig_val <| nm 6 <| iv_lst rfl ⟨fun i acc μ' => ∃ (qs : List Sp2) (l' : List D), acc = qs.map spD ∧ qs.length ≤ i ∧ (∀ x ∈ qs, OkP x) ∧ μ' = [(p, .lst l'), (y, .lst [.lst (qa.map spD), .lst (qb.map spD)])] ∧ PoolOk l', ⟨[], l, rfl, Nat.le_refl _, (fun c h => by cases h), rfl, hl⟩, fun _ _ _ _ => trivial, ?_, ?_⟩⟩
  · rintro i d acc _ hd ⟨qs, l', rfl, hql, hqs, rfl, hl'⟩ k
    obtain ⟨sp, hsp, rfl⟩ := map_at hd
    have hi : i < ps.length := (List.getElem?_eq_some_iff.mp hsp).1
    refine tn 8 nd fun k => ts_one <| et_cmp <| c_take (P := P) (w := w) (base := base) T ⟨rfl, rfl, rfl, rfl, rfl⟩ h1 <| ea_cons <| nm 1 <| ea_cons <| ev_int <| ea_nil <| ask_take hl' (by decide) fun r l r1 r2 hl => ev_int <| og_eqI ⟨_, rfl, fun h k => nm 8 ⟨?_, qs ++ [sp], l, (by rw [List.map_append]; rfl), (by simp; omega), ?_, rfl, hl⟩, fun h => ⟨qs, l, rfl, (by omega), hqs, rfl, hl⟩⟩
    · rw [List.length_map]
      omega
    · intro x hx
      rcases List.mem_append.mp hx with h | h
      · exact hqs x h
      · cases List.mem_singleton.mp h
        exact okp.1 _ (List.mem_of_getElem? hsp)
  rintro acc _ ⟨qc, l, rfl, hqc, okc', rfl, hl⟩
  rw [List.length_map] at hqc
  have okc : OkPs qc := ⟨okc', by omega⟩
  refine ea_nil ⟨_, [.lst (qa.map spD), .lst (qb.map spD)], _, rfl, .there .here, (by show 2 < 16777216; decide), ?_⟩
  -- one of the three
  refine asg 7 nd <| ev_ix (fun _ _ => rfl) <| nm 7 <| c_take (P := P) (w := w) (base := base) T ⟨rfl, rfl, rfl, rfl, rfl⟩ h1 <| ea_cons <| nm 1 <| ea_cons <| ev_int <| ea_nil <| ask_take hl (by decide) fun r l r1 r2 hl => ?_
  obtain ⟨qs, hqs, okq, hql⟩ : ∃ qs : List Sp2, atI ([.lst (qa.map spD), .lst (qb.map spD), .lst (qc.map spD)] : List D) r = some (.lst (qs.map spD)) ∧ OkPs qs ∧ qs.length ≤ 60 := by
    have : r = 0 ∨ r = 1 ∨ r = 2 := by omega
    rcases this with rfl | rfl | rfl
    · exact ⟨qa, rfl, oka, by omega⟩
    · exact ⟨qb, rfl, okb, by omega⟩
    · exact ⟨qc, rfl, okc, by omega⟩
  refine ig_l (.ref (.tail _ (.head _))) hqs ?_
  have okp' : OkPs ps := okp
  refine asg 9 nd <| ev_callTy rfl T.z_list b_list <| ea_cons <| nm 6 <| ea_nil <| cg_listM (l := ps.map spD) rfl (.l (.val _)) fun g hg => ?_
  have hX : True := trivial
  refine asg 10 nd <| ev_frz <| ev_make init_mono T.mk_Hold (ok_init T) (hr.mono (by decide)) rfl T.mgC_Hold T.b_Hold_init .nil (fun _ => .nil) pass0 <| ea_cons <| nm 9 <| ea_nil <| newHoldM okp ?_
  refine asg 11 nd <| ev_frz <| ev_make init_mono T.mk_Hold (ok_init T) (hr.mono (by decide)) rfl T.mgC_Hold T.b_Hold_init .nil (fun _ => .nil) pass0 <| ea_cons <| ev_callTy rfl T.z_tuple b_tuple <| ea_cons <| nm 7 <| ea_nil <| cg_tuple rfl (.l (.val _)) <| ea_nil <| newHold (ps := qs) (.inr rfl) okq ?_
  -- given != first, one
  refine ifb <| et_w <| ew_or <| et_cmp <| nm 9 <| nm 6 <| og_neD (d' := .lst (ps.map spD)) (e' := .lst (ps.map spD)) (n := 2) (m := 2) rfl hu (.mem (.head _)) .val (sps_ok okp) (sps_ok okp) (by decide) (by decide) ⟨_, rfl, ?_⟩
  rw [eqv_sps, decide_eq_true rfl]
  refine ⟨fun _ => ew_or1 <| et_not <| et_val <| c_is (P := P) (w := w) (base := base) T ⟨rfl, rfl, rfl, rfl, rfl⟩ hr <| ea_cons <| nm 10 <| ea_cons <| c_once (P := P) (w := w) (base := base) T ⟨rfl, rfl, rfl, rfl, rfl⟩ hr <| ea_cons <| nm 6 <| ea_nil <| ask_pr ⟨ps, rfl, okp, rfl⟩ <| ea_cons <| nm 3 <| ea_nil <| ask_pr ⟨once ps, ns, rfl, once_ok okp, okn, rfl⟩ ⟨_, rfl, (fun h => nomatch h), fun _ => nil ?_⟩, fun h => nomatch h⟩
  -- given grows
  obtain ⟨n0, n1, nr, ens⟩ : ∃ n0 n1 nr, ns = n0 :: n1 :: nr := by
    match ns, hnl with
    | n0 :: n1 :: nr, _ => exact ⟨n0, n1, nr, rfl⟩
    | [_], h => simp at h; omega
    | [], h => simp at h; omega
  have a0 : atI (ns.map D.str) 0 = some (.str n0) := by
    rw [ens]
    obtain ⟨x, _, h⟩ := name_of (ns := n0 :: n1 :: nr) (r := 0) (by decide) (by simp; omega)
    rw [h]
    unfold atI at h
    rw [ixN0 (by simp)] at h
    exact h.symm
  have a1 : ∃ x, atI (ns.map D.str) 1 = some (.str x) := by
    obtain ⟨x, _, h⟩ := name_of (ns := ns) (r := 1) (by decide) (by omega)
    exact ⟨x, h⟩
  obtain ⟨x1, a1⟩ := a1
  refine bl_cons <| st_expr <| ev_app <| nm 9 ⟨g, rfl, ⟨_, .head _⟩, ea_cons <| ev_tup <| ea_cons <| ev_ix (fun _ _ => rfl) <| nm 3 <| ev_int <| ig_l (.val _) a0 <| ea_cons <| ev_ix (fun _ _ => rfl) <| nm 3 <| ev_int <| ig_l (.val _) a0 <| ea_few <| ea_nil ⟨_, ps.map spD, _, rfl, .here, (by rw [List.length_map]; omega), ?_⟩⟩
  refine bl_cons <| st_expr <| ev_app <| nm 9 ⟨g, rfl, ⟨_, .head _⟩, ea_cons <| ev_tup <| ea_cons <| ev_ix (fun _ _ => rfl) <| nm 3 <| ev_int <| ig_l (.val _) a0 <| ea_cons <| ev_ix (fun _ _ => rfl) <| nm 3 <| ev_int <| ig_l (.val _) a1 <| ea_few <| ea_nil ⟨_, ps.map spD ++ [.tup [.str n0, .str n0]], _, rfl, .here, (by rw [List.length_append, List.length_map]; show _ + 1 < _; omega), ?_⟩⟩
  -- two, and a hold of nothing
  obtain ⟨dT, hdT, hbT⟩ := T.bd_Hold_init
  refine ifb <| et_w <| ew_or <| et_not <| et_val <| c_is (P := P) (w := w) (base := base) T ⟨rfl, rfl, rfl, rfl, rfl⟩ hr <| ea_cons <| nm 11 <| ea_cons <| c_once (P := P) (w := w) (base := base) T ⟨rfl, rfl, rfl, rfl, rfl⟩ hr <| ea_cons <| nm 7 <| ea_nil <| ask_pr ⟨qs, rfl, okq, rfl⟩ <| ea_cons <| nm 3 <| ea_nil <| ask_pr ⟨once qs, ns, rfl, once_ok okq, okn, rfl⟩ ⟨_, rfl, fun _ => ?_, fun h => nomatch h⟩
  refine ew_or1 <| et_not <| et_val <| c_is (P := P) (w := w) (base := base) T ⟨rfl, rfl, rfl, rfl, rfl⟩ hr <| ea_cons <| ev_frz <| ev_make0 init_mono T.mk_Hold (ok_init T) (hr.mono (by decide)) rfl T.mgC_Hold hbT hdT (dds := [.tup []]) (fun Hv => .cons (.tup (T.td_Hold_init Hv) .nil) .nil) pass0 <| newHold (ps := []) (.inr rfl) ⟨(fun p h => by cases h), by decide⟩ <| ea_cons <| ev_lst <| ea_few <| ea_cons <| nm 3 <| ea_nil <| ask_pr ⟨[], ns, rfl, ⟨(fun p h => by cases h), by decide⟩, okn, rfl⟩ ⟨_, rfl, (fun h => nomatch h), fun _ => nil ?_⟩
  -- or
  have oko := once_ok okp
  have okw := once_ok okq
  have oksum : OkPs (ps ++ qs) := ⟨fun p hp => (List.mem_append.mp hp).elim (okp.1 p) (okq.1 p), by rw [List.length_append]; omega⟩
  have l1 := once_len ps
  have l2 := once_len qs
  refine ifb <| et_not <| et_val <| c_is (P := P) (w := w) (base := base) T ⟨rfl, rfl, rfl, rfl, rfl⟩ hr <| ea_cons <| ev_bin <| nm 10 <| nm 11 <| og_own (op := .BitOr) (m_or (P := P) (w := w) (base := base) T ⟨rfl, rfl, rfl, rfl, rfl⟩) (hr.mono (by decide)) T.sf_Hold (.obj (c := 0)) (.obj (c := 0)) <| ask_pr ⟨once ps, once qs, rfl, oko, okw, (by omega), rfl⟩ ?_
  rw [once_or]
  refine ea_cons <| c_once (P := P) (w := w) (base := base) T ⟨rfl, rfl, rfl, rfl, rfl⟩ hr <| ea_cons <| ev_bin <| nm 6 <| nm 7 <| og_addL (l := ps.map spD) (l' := qs.map spD) (.val _) (.val _) (by rw [List.length_map, List.length_map]; omega) <| ea_nil <| ask_pr ⟨ps ++ qs, by rw [List.map_append], oksum, rfl⟩ <| ea_cons <| nm 3 <| ea_nil <| ask_pr ⟨once (ps ++ qs), ns, rfl, once_ok oksum, okn, rfl⟩ ⟨_, rfl, (fun h => nomatch h), fun _ => nil ?_⟩
  generalize ps.map spD ++ [.tup [.str n0, .str n0]] ++ [.tup [.str n0, .str x1]] = gl
  generalize ([(p, M.lst l), (y, M.lst ([D.lst (qa.map spD), D.lst (qb.map spD)] ++ [D.lst (qc.map spD)]))] : Mem) = rest
  refine ifb <| et_not <| et_val <| c_is (P := P) (w := w) (base := base) T ⟨rfl, rfl, rfl, rfl, rfl⟩ hr <| ea_cons <| ev_bin <| nm 10 <| nm 11 <| og_own (op := .BitAnd) (m_and (P := P) (w := w) (base := base) T ⟨rfl, rfl, rfl, rfl, rfl⟩) (hr.mono (by decide)) T.sf_Hold (.obj (c := 0)) (.obj (c := 0)) <| ask_pr ⟨once ps, once qs, rfl, oko, okw, rfl⟩ ?_
  rw [once_filter, show ((once ps).filter fun p => decide (p ∈ once qs)) = ((once ps).filter fun p => decide (p ∈ qs)) from List.filter_congr fun p _ => by rw [dec_once]]
  refine ea_cons <| ev_lc (own := [("_law_row", 8)]) rfl nd (blkOk_by (N := N_law) (sc := defScope s_law) (by decide +kernel)) rfl <| ig_val <| c_once (P := P) (w := w) (base := base) T ⟨rfl, rfl, rfl, rfl, rfl⟩ hr <| ea_cons <| nm 6 <| ea_nil <| ask_pr ⟨ps, rfl, okp, rfl⟩ <| iv_lst rfl ⟨fun i acc μ' => acc = (((once ps).take i).filter fun p => decide (p ∈ qs)).map spD ∧ μ' = (g, M.lst gl) :: rest, ⟨rfl, rfl⟩, fun _ _ _ _ => trivial, ?_, ?_⟩
  · rintro i d acc _ hd ⟨rfl, rfl⟩ k
    obtain ⟨sp, hsp, rfl⟩ := map_at hd
    have hsp' : sp ∈ once ps := List.mem_of_getElem? hsp
    refine tn 8 nd fun k => ts_one <| et_cmp <| nm 8 <| nm 7 <| og_inL (n := 1) rfl hu .val (.val _) (spD_ok ((oko).1 sp hsp')) (spDs_ok (okq).1) (by decide) ⟨_, rfl, ?_⟩
    rw [inL_sp]
    refine ⟨fun h k => nm 8 ⟨filt_len (oko) _ i, ?_, rfl⟩, fun h => ⟨?_, rfl⟩⟩
    · rw [filt_snoc hsp, if_pos h, List.map_append]
      rfl
    · rw [filt_snoc hsp, if_neg (by rw [h]; decide)]
  rintro acc _ ⟨rfl, rfl⟩
  rw [List.length_map, List.take_length]
  refine ea_cons <| nm 3 <| ea_nil <| ask_pr ⟨(once ps).filter fun p => decide (p ∈ qs), ns, rfl, filt_ok oko _, okn, rfl⟩ ⟨_, rfl, (fun h => nomatch h), fun _ => nil ?_⟩
  refine ifb <| et_not <| et_val <| c_is (P := P) (w := w) (base := base) T ⟨rfl, rfl, rfl, rfl, rfl⟩ hr <| ea_cons <| ev_bin <| nm 10 <| nm 11 <| og_own (op := .Sub) (m_sub (P := P) (w := w) (base := base) T ⟨rfl, rfl, rfl, rfl, rfl⟩) (hr.mono (by decide)) T.sf_Hold (.obj (c := 0)) (.obj (c := 0)) <| ask_pr ⟨once ps, once qs, rfl, oko, okw, rfl⟩ ?_
  rw [once_filter, show ((once ps).filter fun p => !decide (p ∈ once qs)) = ((once ps).filter fun p => !decide (p ∈ qs)) from List.filter_congr fun p _ => by rw [dec_once]]
  refine ea_cons <| ev_lc (own := [("_law_row", 8)]) rfl nd (blkOk_by (N := N_law) (sc := defScope s_law) (by decide +kernel)) rfl <| ig_val <| c_once (P := P) (w := w) (base := base) T ⟨rfl, rfl, rfl, rfl, rfl⟩ hr <| ea_cons <| nm 6 <| ea_nil <| ask_pr ⟨ps, rfl, okp, rfl⟩ <| iv_lst rfl ⟨fun i acc μ' => acc = (((once ps).take i).filter fun p => !decide (p ∈ qs)).map spD ∧ μ' = (g, M.lst gl) :: rest, ⟨rfl, rfl⟩, fun _ _ _ _ => trivial, ?_, ?_⟩
  · rintro i d acc _ hd ⟨rfl, rfl⟩ k
    obtain ⟨sp, hsp, rfl⟩ := map_at hd
    have hsp' : sp ∈ once ps := List.mem_of_getElem? hsp
    refine tn 8 nd fun k => ts_one <| et_cmp <| nm 8 <| nm 7 <| og_niL (n := 1) rfl hu .val (.val _) (spD_ok ((oko).1 sp hsp')) (spDs_ok (okq).1) (by decide) ⟨_, rfl, ?_⟩
    rw [inL_sp]
    refine ⟨fun h k => nm 8 ⟨filt_len (oko) _ i, ?_, rfl⟩, fun h => ⟨?_, rfl⟩⟩
    · rw [filt_snoc hsp, if_pos h, List.map_append]
      rfl
    · rw [filt_snoc hsp, if_neg (by rw [h]; decide)]
  rintro acc _ ⟨rfl, rfl⟩
  rw [List.length_map, List.take_length]
  refine ea_cons <| nm 3 <| ea_nil <| ask_pr ⟨(once ps).filter fun p => !decide (p ∈ qs), ns, rfl, filt_ok oko _, okn, rfl⟩ ⟨_, rfl, (fun h => nomatch h), fun _ => nil ?_⟩
  refine ifb <| et_not <| et_val <| c_is (P := P) (w := w) (base := base) T ⟨rfl, rfl, rfl, rfl, rfl⟩ hr <| ea_cons <| ev_bin <| nm 11 <| nm 10 <| og_own (op := .Sub) (m_sub (P := P) (w := w) (base := base) T ⟨rfl, rfl, rfl, rfl, rfl⟩) (hr.mono (by decide)) T.sf_Hold (.obj (c := 0)) (.obj (c := 0)) <| ask_pr ⟨once qs, once ps, rfl, okw, oko, rfl⟩ ?_
  rw [once_filter, show ((once qs).filter fun p => !decide (p ∈ once ps)) = ((once qs).filter fun p => !decide (p ∈ ps)) from List.filter_congr fun p _ => by rw [dec_once]]
  refine ea_cons <| ev_lc (own := [("_law_row", 8)]) rfl nd (blkOk_by (N := N_law) (sc := defScope s_law) (by decide +kernel)) rfl <| ig_val <| c_once (P := P) (w := w) (base := base) T ⟨rfl, rfl, rfl, rfl, rfl⟩ hr <| ea_cons <| nm 7 <| ea_nil <| ask_pr ⟨qs, rfl, okq, rfl⟩ <| iv_lst rfl ⟨fun i acc μ' => acc = (((once qs).take i).filter fun p => !decide (p ∈ ps)).map spD ∧ μ' = (g, M.lst gl) :: rest, ⟨rfl, rfl⟩, fun _ _ _ _ => trivial, ?_, ?_⟩
  · rintro i d acc _ hd ⟨rfl, rfl⟩ k
    obtain ⟨sp, hsp, rfl⟩ := map_at hd
    have hsp' : sp ∈ once qs := List.mem_of_getElem? hsp
    refine tn 8 nd fun k => ts_one <| et_cmp <| nm 8 <| nm 6 <| og_niL (n := 1) rfl hu .val (.val _) (spD_ok ((okw).1 sp hsp')) (spDs_ok (okp).1) (by decide) ⟨_, rfl, ?_⟩
    rw [inL_sp]
    refine ⟨fun h k => nm 8 ⟨filt_len (okw) _ i, ?_, rfl⟩, fun h => ⟨?_, rfl⟩⟩
    · rw [filt_snoc hsp, if_pos h, List.map_append]
      rfl
    · rw [filt_snoc hsp, if_neg (by rw [h]; decide)]
  rintro acc _ ⟨rfl, rfl⟩
  rw [List.length_map, List.take_length]
  refine ea_cons <| nm 3 <| ea_nil <| ask_pr ⟨(once qs).filter fun p => !decide (p ∈ ps), ns, rfl, filt_ok okw _, okn, rfl⟩ ⟨_, rfl, (fun h => nomatch h), fun _ => nil ?_⟩
  -- near
  refine asg 12 nd <| ev_lst <| ea_cons <| ev_tup <| ea_cons <| ev_str <| ea_cons <| ev_str <| ea_few <| ea_cons <| ev_tup <| ea_cons <| ev_str <| ea_cons <| ev_str <| ea_few <| ea_few ?_
  refine ifb <| et_w <| ew_or <| et_not <| et_val <| c_is (P := P) (w := w) (base := base) T ⟨rfl, rfl, rfl, rfl, rfl⟩ hr <| ea_cons <| ev_frz <| ev_make init_mono T.mk_Hold (ok_init T) (hr.mono (by decide)) rfl T.mgC_Hold T.b_Hold_init .nil (fun _ => .nil) pass0 <| ea_cons <| nm 12 <| ea_nil <| newHold (ps := near) (.inl rfl) near_ok ?_
  refine ea_cons <| nm 12 <| ea_cons <| ev_lst <| ea_cons <| ev_str <| ea_cons <| ev_str <| ea_cons <| ev_str <| ea_cons <| ev_str <| ea_few <| ea_nil <| ask_pr ⟨near, ["a", "ab", "bc", "c"], by rw [once_same near_nd]; rfl, near_ok, ⟨by decide +kernel, by decide⟩, rfl⟩ ⟨_, rfl, fun _ => ?_, fun h => nomatch h⟩
  refine ew_or1 <| et_cmp <| ev_frz <| ev_make init_mono T.mk_Hold (ok_init T) (hr.mono (by decide)) rfl T.mgC_Hold T.b_Hold_init .nil (fun _ => .nil) pass0 <| ea_cons <| ev_sl <| nm 12 <| po_no <| po_so <| ev_int ⟨_, rfl, slg_l (l := near.map spD) (.val _) <| ea_nil <| newHold (ps := [("a", "bc")]) (.inl (by rfl)) near_ok1 ?_⟩
  refine ev_frz <| ev_make init_mono T.mk_Hold (ok_init T) (hr.mono (by decide)) rfl T.mgC_Hold T.b_Hold_init .nil (fun _ => .nil) pass0 <| ea_cons <| ev_sl <| nm 12 <| po_so <| ev_int ⟨_, rfl, po_no <| slg_l (l := near.map spD) (.val _) <| ea_nil <| newHold (ps := [("ab", "c")]) (.inl (by rfl)) near_ok2 ?_⟩
  refine rc_own (op := .LtE) (m_le (P := P) (w := w) (base := base) T ⟨rfl, rfl, rfl, rfl, rfl⟩) (hr.mono (by decide)) (.obj (c := 0)) T.nf_Hold (looks_own (.obj (c := 0))) <| ask_pr ⟨once [("a", "bc")], once [("ab", "c")], rfl, once_ok near_ok1, once_ok near_ok2, rfl⟩ ⟨_, rfl, ?_⟩
  rw [near_le]
  refine ⟨(fun h => nomatch h), fun _ => nil ?_⟩
  refine asg 13 nd <| ev_cmp <| ev_callB rfl T.z_len b_len <| ea_cons <| ev_lc (own := [("_law_row", 8)]) rfl nd (blkOk_by (N := N_law) (sc := defScope s_law) (by decide +kernel)) rfl <| ig_val <| nm 6 <| iv_lst rfl ⟨fun i acc μ' => acc = (((ps).take i).filter fun p => !decide (p ∈ qs)).map spD ∧ μ' = (g, M.lst gl) :: rest, ⟨rfl, rfl⟩, fun _ _ _ _ => trivial, ?_, ?_⟩
  · rintro i d acc _ hd ⟨rfl, rfl⟩ k
    obtain ⟨sp, hsp, rfl⟩ := map_at hd
    have hsp' : sp ∈ ps := List.mem_of_getElem? hsp
    refine tn 8 nd fun k => ts_one <| et_cmp <| nm 8 <| nm 7 <| og_niL (n := 1) rfl hu .val (.val _) (spD_ok ((okp).1 sp hsp')) (spDs_ok (okq).1) (by decide) ⟨_, rfl, ?_⟩
    rw [inL_sp]
    refine ⟨fun h k => nm 8 ⟨filt_len (okp) _ i, ?_, rfl⟩, fun h => ⟨?_, rfl⟩⟩
    · rw [filt_snoc hsp, if_pos h, List.map_append]
      rfl
    · rw [filt_snoc hsp, if_neg (by rw [h]; decide)]
  rintro acc _ ⟨rfl, rfl⟩
  rw [List.length_map, List.take_length]
  refine ea_nil <| cg_len rfl (.l (.val _)) <| ev_int <| og_eqI ?_
  rw [List.length_map, ← all_once ps qs]
  refine asg 14 nd <| ev_cmp <| ev_callB rfl T.z_len b_len <| ea_cons <| ev_lc (own := [("_law_row", 8)]) rfl nd (blkOk_by (N := N_law) (sc := defScope s_law) (by decide +kernel)) rfl <| ig_val <| nm 7 <| iv_lst rfl ⟨fun i acc μ' => acc = (((qs).take i).filter fun p => !decide (p ∈ ps)).map spD ∧ μ' = (g, M.lst gl) :: rest, ⟨rfl, rfl⟩, fun _ _ _ _ => trivial, ?_, ?_⟩
  · rintro i d acc _ hd ⟨rfl, rfl⟩ k
    obtain ⟨sp, hsp, rfl⟩ := map_at hd
    have hsp' : sp ∈ qs := List.mem_of_getElem? hsp
    refine tn 8 nd fun k => ts_one <| et_cmp <| nm 8 <| nm 6 <| og_niL (n := 1) rfl hu .val (.val _) (spD_ok ((okq).1 sp hsp')) (spDs_ok (okp).1) (by decide) ⟨_, rfl, ?_⟩
    rw [inL_sp]
    refine ⟨fun h k => nm 8 ⟨filt_len (okq) _ i, ?_, rfl⟩, fun h => ⟨?_, rfl⟩⟩
    · rw [filt_snoc hsp, if_pos h, List.map_append]
      rfl
    · rw [filt_snoc hsp, if_neg (by rw [h]; decide)]
  rintro acc _ ⟨rfl, rfl⟩
  rw [List.length_map, List.take_length]
  refine ea_nil <| cg_len rfl (.l (.val _)) <| ev_int <| og_eqI ?_
  rw [List.length_map, ← all_once qs ps]
  refine ifb <| et_w <| ew_or <| et_not <| et_val <| c_bool (P := P) (w := w) (base := base) T ⟨rfl, rfl, rfl, rfl, rfl⟩ hr <| ea_cons <| ev_cmp <| nm 10 <| nm 11 <| rc_own (op := .LtE) (m_le (P := P) (w := w) (base := base) T ⟨rfl, rfl, rfl, rfl, rfl⟩) (hr.mono (by decide)) (.obj (c := 0)) T.nf_Hold (looks_own (.obj (c := 0))) <| ask_pr ⟨once ps, once qs, rfl, oko, okw, rfl⟩ <| ea_cons <| nm 13 <| ea_nil <| ask_pr ⟨_, _, rfl, rfl, rfl⟩ ⟨_, rfl, fun _ => ?_, fun h => nomatch h⟩
  refine ew_or1 <| et_not <| et_val <| c_bool (P := P) (w := w) (base := base) T ⟨rfl, rfl, rfl, rfl, rfl⟩ hr <| ea_cons <| ev_cmp <| nm 11 <| nm 10 <| rc_own (op := .LtE) (m_le (P := P) (w := w) (base := base) T ⟨rfl, rfl, rfl, rfl, rfl⟩) (hr.mono (by decide)) (.obj (c := 0)) T.nf_Hold (looks_own (.obj (c := 0))) <| ask_pr ⟨once qs, once ps, rfl, okw, oko, rfl⟩ <| ea_cons <| nm 14 <| ea_nil <| ask_pr ⟨_, _, rfl, rfl, rfl⟩ ⟨_, rfl, (fun h => nomatch h), fun _ => nil ?_⟩
  -- equal
  refine ifb <| et_w <| ew_or <| et_not <| et_val <| c_bool (P := P) (w := w) (base := base) T ⟨rfl, rfl, rfl, rfl, rfl⟩ hr <| ea_cons <| ev_cmp <| nm 10 <| nm 11 <| rc_own (op := .Eq) (m_eq (P := P) (w := w) (base := base) T ⟨rfl, rfl, rfl, rfl, rfl⟩) (hr.mono (by decide)) (.obj (c := 0)) T.nf_Hold (looks_own (.obj (c := 0))) <| ask_pr (.inl ⟨once ps, once qs, rfl, oko, okw, rfl⟩) ?_
  rw [eq_once]
  refine ea_cons <| ev_and <| nm 13 ⟨_, rfl, fun h => ev_and1 <| nm 14 <| ea_nil <| ask_pr ⟨_, _, rfl, ?e1, rfl⟩ ?k1, fun h => ea_nil <| ask_pr ⟨_, _, rfl, ?e2, rfl⟩ ?k2⟩
  case e1 => rw [h, Bool.true_and]
  case e2 => rw [h, Bool.false_and]
  all_goals
    refine ⟨_, rfl, fun _ => ?_, fun h => nomatch h⟩
    refine ew_or1 <| et_not <| et_val <| c_bool (P := P) (w := w) (base := base) T ⟨rfl, rfl, rfl, rfl, rfl⟩ hr <| ea_cons <| ev_cmp <| nm 10 <| c_once (P := P) (w := w) (base := base) T ⟨rfl, rfl, rfl, rfl, rfl⟩ hr <| ea_cons <| nm 6 <| ea_nil <| ask_pr ⟨ps, rfl, okp, rfl⟩ <| rc_own (op := .Eq) (m_eq (P := P) (w := w) (base := base) T ⟨rfl, rfl, rfl, rfl, rfl⟩) (hr.mono (by decide)) (.obj (c := 0)) T.nfl_Hold (looks_list (.val _)) <| ask_pr (.inr ⟨once ps, _, rfl, rfl⟩) <| ea_cons <| ev_bl <| ea_nil <| ask_pr ⟨_, _, rfl, rfl, rfl⟩ ⟨_, rfl, (fun h => nomatch h), fun _ => nil ?_⟩
    refine ret <| ev_and <| c_is (P := P) (w := w) (base := base) T ⟨rfl, rfl, rfl, rfl, rfl⟩ hr <| ea_cons <| nm 10 <| ea_cons <| c_once (P := P) (w := w) (base := base) T ⟨rfl, rfl, rfl, rfl, rfl⟩ hr <| ea_cons <| nm 6 <| ea_nil <| ask_pr ⟨ps, rfl, okp, rfl⟩ <| ea_cons <| nm 3 <| ea_nil <| ask_pr ⟨once ps, ns, rfl, oko, okn, rfl⟩ ⟨_, rfl, fun _ => ?_, fun h => nomatch h⟩
    exact ev_and1 <| c_is (P := P) (w := w) (base := base) T ⟨rfl, rfl, rfl, rfl, rfl⟩ hr <| ea_cons <| nm 11 <| ea_cons <| c_once (P := P) (w := w) (base := base) T ⟨rfl, rfl, rfl, rfl, rfl⟩ hr <| ea_cons <| nm 7 <| ea_nil <| ask_pr ⟨qs, rfl, okq, rfl⟩ <| ea_cons <| nm 3 <| ea_nil <| ask_pr ⟨once qs, ns, rfl, okw, okn, rfl⟩ (q _)
theorem ok_law (T : Tx K mg a) : FnOk P w K mg base CX0 8 a.f_law a.fd_law ["_law_script"] (spLaw K) :=
  (ok_lawG T).imp fun vs H Q E ⟨p, ns, hv, hs, hl, q⟩ => by
    subst hv
    have e : Ex H (vis (fun _ => none) H (adr [])) := fun b o h => vis_mk h rfl (fun h => nomatch h)
    refine ⟨fun _ => none, fun _ => none, [.scr ns], [], ⟨(fun _ _ h => nomatch h), (fun _ h => nomatch h), (fun _ _ h => nomatch h), List.nodup_nil, (fun _ h => nomatch h)⟩, .cons (.scr (e.l hs)) .nil, ns, rfl, hl, rfl, fun μ' v H' r rv => ?_⟩
    cases rv
    exact q H'
end
theorem all_mk {l : PySem.W.OpenLaw} {w : World} {K : PySem.W.Frag} {h : Heap} {mg : Str → Option Value} {fa : Addr} (X : K.In h) (G : h.Ns mainGlobals mg) (hfa : mg "law" = some (.ref fa))
    {C_Hold : Addr}
    {f_Hold_init : Addr} {od_Hold_init an_Hold_init : Option Addr} {sl_Hold_init : Array (Option Value)} {oc_Hold_init kV_Hold_init dc_Hold_init pm_Hold_init cd_Hold_init ct_Hold_init : Value}
    {t_Hold_init : Addr} {nt_Hold_init : Nat}
    {odt_Hold_init ode_Hold_init : Option Addr} {slt_Hold_init sle_Hold_init : Array (Option Value)} {e_Hold_init : Addr} {ne_Hold_init : Nat} {ct1_Hold_init : Value}
    {f_Hold_iter : Addr} {od_Hold_iter an_Hold_iter : Option Addr} {sl_Hold_iter : Array (Option Value)} {oc_Hold_iter kV_Hold_iter dc_Hold_iter pm_Hold_iter cd_Hold_iter ct_Hold_iter : Value}
    {f_Hold_len : Addr} {od_Hold_len an_Hold_len : Option Addr} {sl_Hold_len : Array (Option Value)} {oc_Hold_len kV_Hold_len dc_Hold_len pm_Hold_len cd_Hold_len ct_Hold_len : Value}
    {f_Hold_contains : Addr} {od_Hold_contains an_Hold_contains : Option Addr} {sl_Hold_contains : Array (Option Value)} {oc_Hold_contains kV_Hold_contains dc_Hold_contains pm_Hold_contains cd_Hold_contains ct_Hold_contains : Value}
    {f_Hold_eq : Addr} {od_Hold_eq an_Hold_eq : Option Addr} {sl_Hold_eq : Array (Option Value)} {oc_Hold_eq kV_Hold_eq dc_Hold_eq pm_Hold_eq cd_Hold_eq ct_Hold_eq : Value}
    {f_Hold_le : Addr} {od_Hold_le an_Hold_le : Option Addr} {sl_Hold_le : Array (Option Value)} {oc_Hold_le kV_Hold_le dc_Hold_le pm_Hold_le cd_Hold_le ct_Hold_le : Value}
    {f_Hold_or : Addr} {od_Hold_or an_Hold_or : Option Addr} {sl_Hold_or : Array (Option Value)} {oc_Hold_or kV_Hold_or dc_Hold_or pm_Hold_or cd_Hold_or ct_Hold_or : Value}
    {f_Hold_and : Addr} {od_Hold_and an_Hold_and : Option Addr} {sl_Hold_and : Array (Option Value)} {oc_Hold_and kV_Hold_and dc_Hold_and pm_Hold_and cd_Hold_and ct_Hold_and : Value}
    {f_Hold_sub : Addr} {od_Hold_sub an_Hold_sub : Option Addr} {sl_Hold_sub : Array (Option Value)} {oc_Hold_sub kV_Hold_sub dc_Hold_sub pm_Hold_sub cd_Hold_sub ct_Hold_sub : Value}
    {f_law_pool : Addr} {od_law_pool an_law_pool : Option Addr} {sl_law_pool : Array (Option Value)} {oc_law_pool kV_law_pool dc_law_pool pm_law_pool cd_law_pool ct_law_pool : Value}
    {f_law_take : Addr} {od_law_take an_law_take : Option Addr} {sl_law_take : Array (Option Value)} {oc_law_take kV_law_take dc_law_take pm_law_take cd_law_take ct_law_take : Value}
    {f_law_base : Addr} {od_law_base an_law_base : Option Addr} {sl_law_base : Array (Option Value)} {oc_law_base kV_law_base dc_law_base pm_law_base cd_law_base ct_law_base : Value}
    {f_law_name : Addr} {od_law_name an_law_name : Option Addr} {sl_law_name : Array (Option Value)} {oc_law_name kV_law_name dc_law_name pm_law_name cd_law_name ct_law_name : Value}
    {f_law_once : Addr} {od_law_once an_law_once : Option Addr} {sl_law_once : Array (Option Value)} {oc_law_once kV_law_once dc_law_once pm_law_once cd_law_once ct_law_once : Value}
    {f_law_is_hold : Addr} {od_law_is_hold an_law_is_hold : Option Addr} {sl_law_is_hold : Array (Option Value)} {oc_law_is_hold kV_law_is_hold dc_law_is_hold pm_law_is_hold cd_law_is_hold ct_law_is_hold : Value}
    {f_law_is_bool : Addr} {od_law_is_bool an_law_is_bool : Option Addr} {sl_law_is_bool : Array (Option Value)} {oc_law_is_bool kV_law_is_bool dc_law_is_bool pm_law_is_bool cd_law_is_bool ct_law_is_bool : Value}
    {f_law_drawn_spots : Addr} {od_law_drawn_spots an_law_drawn_spots : Option Addr} {sl_law_drawn_spots : Array (Option Value)} {oc_law_drawn_spots kV_law_drawn_spots dc_law_drawn_spots pm_law_drawn_spots cd_law_drawn_spots ct_law_drawn_spots : Value}
    {f_law : Addr} {od_law an_law : Option Addr} {sl_law : Array (Option Value)} {oc_law kV_law dc_law pm_law cd_law ct_law : Value}
    (aC_Hold : PySem.W.nsIn K mainGlobals "Hold" = some (some (.ref C_Hold)))
    (a_Hold_init : PySem.W.findIn K (.ref C_Hold) "__init__" = some (some (.ref f_Hold_init)))
    (i_Hold_init : PySem.W.isFn K (.ref f_Hold_init) = true)
    (l_Hold_init : K.lookup f_Hold_init = some ⟨oc_Hold_init, od_Hold_init, .func (PySem.W.fnOf "__init__" "Hold.__init__" (defArgs s_Hold_init) (defBody s_Hold_init) (defScope s_Hold_init) (.ref t_Hold_init) kV_Hold_init dc_Hold_init pm_Hold_init an_Hold_init cd_Hold_init ct_Hold_init), sl_Hold_init⟩)
    (c_Hold_init : PySem.W.codeIn K cd_Hold_init "Hold.__init__" = true)
    (k_Hold_init : PySem.W.keepIn K (.ref f_Hold_init) = true)
    (t1_Hold_init : K.lookup t_Hold_init = some ⟨ct1_Hold_init, odt_Hold_init, .seq #[.ref e_Hold_init] nt_Hold_init, slt_Hold_init⟩)
    (e1_Hold_init : K.lookup e_Hold_init = some ⟨.type "tuple", ode_Hold_init, .seq #[] ne_Hold_init, sle_Hold_init⟩)
    (a_Hold_iter : PySem.W.findIn K (.ref C_Hold) "__iter__" = some (some (.ref f_Hold_iter)))
    (i_Hold_iter : PySem.W.isFn K (.ref f_Hold_iter) = true)
    (l_Hold_iter : K.lookup f_Hold_iter = some ⟨oc_Hold_iter, od_Hold_iter, .func (PySem.W.fnOf "__iter__" "Hold.__iter__" (defArgs s_Hold_iter) (defBody s_Hold_iter) (defScope s_Hold_iter) .none kV_Hold_iter dc_Hold_iter pm_Hold_iter an_Hold_iter cd_Hold_iter ct_Hold_iter), sl_Hold_iter⟩)
    (c_Hold_iter : PySem.W.codeIn K cd_Hold_iter "Hold.__iter__" = true)
    (k_Hold_iter : PySem.W.keepIn K (.ref f_Hold_iter) = true)
    (a_Hold_len : PySem.W.findIn K (.ref C_Hold) "__len__" = some (some (.ref f_Hold_len)))
    (i_Hold_len : PySem.W.isFn K (.ref f_Hold_len) = true)
    (l_Hold_len : K.lookup f_Hold_len = some ⟨oc_Hold_len, od_Hold_len, .func (PySem.W.fnOf "__len__" "Hold.__len__" (defArgs s_Hold_len) (defBody s_Hold_len) (defScope s_Hold_len) .none kV_Hold_len dc_Hold_len pm_Hold_len an_Hold_len cd_Hold_len ct_Hold_len), sl_Hold_len⟩)
    (c_Hold_len : PySem.W.codeIn K cd_Hold_len "Hold.__len__" = true)
    (k_Hold_len : PySem.W.keepIn K (.ref f_Hold_len) = true)
    (a_Hold_contains : PySem.W.findIn K (.ref C_Hold) "__contains__" = some (some (.ref f_Hold_contains)))
    (i_Hold_contains : PySem.W.isFn K (.ref f_Hold_contains) = true)
    (l_Hold_contains : K.lookup f_Hold_contains = some ⟨oc_Hold_contains, od_Hold_contains, .func (PySem.W.fnOf "__contains__" "Hold.__contains__" (defArgs s_Hold_contains) (defBody s_Hold_contains) (defScope s_Hold_contains) .none kV_Hold_contains dc_Hold_contains pm_Hold_contains an_Hold_contains cd_Hold_contains ct_Hold_contains), sl_Hold_contains⟩)
    (c_Hold_contains : PySem.W.codeIn K cd_Hold_contains "Hold.__contains__" = true)
    (k_Hold_contains : PySem.W.keepIn K (.ref f_Hold_contains) = true)
    (a_Hold_eq : PySem.W.findIn K (.ref C_Hold) "__eq__" = some (some (.ref f_Hold_eq)))
    (i_Hold_eq : PySem.W.isFn K (.ref f_Hold_eq) = true)
    (l_Hold_eq : K.lookup f_Hold_eq = some ⟨oc_Hold_eq, od_Hold_eq, .func (PySem.W.fnOf "__eq__" "Hold.__eq__" (defArgs s_Hold_eq) (defBody s_Hold_eq) (defScope s_Hold_eq) .none kV_Hold_eq dc_Hold_eq pm_Hold_eq an_Hold_eq cd_Hold_eq ct_Hold_eq), sl_Hold_eq⟩)
    (c_Hold_eq : PySem.W.codeIn K cd_Hold_eq "Hold.__eq__" = true)
    (k_Hold_eq : PySem.W.keepIn K (.ref f_Hold_eq) = true)
    (a_Hold_le : PySem.W.findIn K (.ref C_Hold) "__le__" = some (some (.ref f_Hold_le)))
    (i_Hold_le : PySem.W.isFn K (.ref f_Hold_le) = true)
    (l_Hold_le : K.lookup f_Hold_le = some ⟨oc_Hold_le, od_Hold_le, .func (PySem.W.fnOf "__le__" "Hold.__le__" (defArgs s_Hold_le) (defBody s_Hold_le) (defScope s_Hold_le) .none kV_Hold_le dc_Hold_le pm_Hold_le an_Hold_le cd_Hold_le ct_Hold_le), sl_Hold_le⟩)
    (c_Hold_le : PySem.W.codeIn K cd_Hold_le "Hold.__le__" = true)
    (k_Hold_le : PySem.W.keepIn K (.ref f_Hold_le) = true)
    (a_Hold_or : PySem.W.findIn K (.ref C_Hold) "__or__" = some (some (.ref f_Hold_or)))
    (i_Hold_or : PySem.W.isFn K (.ref f_Hold_or) = true)
    (l_Hold_or : K.lookup f_Hold_or = some ⟨oc_Hold_or, od_Hold_or, .func (PySem.W.fnOf "__or__" "Hold.__or__" (defArgs s_Hold_or) (defBody s_Hold_or) (defScope s_Hold_or) .none kV_Hold_or dc_Hold_or pm_Hold_or an_Hold_or cd_Hold_or ct_Hold_or), sl_Hold_or⟩)
    (c_Hold_or : PySem.W.codeIn K cd_Hold_or "Hold.__or__" = true)
    (k_Hold_or : PySem.W.keepIn K (.ref f_Hold_or) = true)
    (a_Hold_and : PySem.W.findIn K (.ref C_Hold) "__and__" = some (some (.ref f_Hold_and)))
    (i_Hold_and : PySem.W.isFn K (.ref f_Hold_and) = true)
    (l_Hold_and : K.lookup f_Hold_and = some ⟨oc_Hold_and, od_Hold_and, .func (PySem.W.fnOf "__and__" "Hold.__and__" (defArgs s_Hold_and) (defBody s_Hold_and) (defScope s_Hold_and) .none kV_Hold_and dc_Hold_and pm_Hold_and an_Hold_and cd_Hold_and ct_Hold_and), sl_Hold_and⟩)
    (c_Hold_and : PySem.W.codeIn K cd_Hold_and "Hold.__and__" = true)
    (k_Hold_and : PySem.W.keepIn K (.ref f_Hold_and) = true)
    (a_Hold_sub : PySem.W.findIn K (.ref C_Hold) "__sub__" = some (some (.ref f_Hold_sub)))
    (i_Hold_sub : PySem.W.isFn K (.ref f_Hold_sub) = true)
    (l_Hold_sub : K.lookup f_Hold_sub = some ⟨oc_Hold_sub, od_Hold_sub, .func (PySem.W.fnOf "__sub__" "Hold.__sub__" (defArgs s_Hold_sub) (defBody s_Hold_sub) (defScope s_Hold_sub) .none kV_Hold_sub dc_Hold_sub pm_Hold_sub an_Hold_sub cd_Hold_sub ct_Hold_sub), sl_Hold_sub⟩)
    (c_Hold_sub : PySem.W.codeIn K cd_Hold_sub "Hold.__sub__" = true)
    (k_Hold_sub : PySem.W.keepIn K (.ref f_Hold_sub) = true)
    (a_law_pool : PySem.W.nsIn K mainGlobals "_law_pool" = some (some (.ref f_law_pool)))
    (l_law_pool : K.lookup f_law_pool = some ⟨oc_law_pool, od_law_pool, .func (PySem.W.fnOf "_law_pool" "_law_pool" (defArgs s_law_pool) (defBody s_law_pool) (defScope s_law_pool) .none kV_law_pool dc_law_pool pm_law_pool an_law_pool cd_law_pool ct_law_pool), sl_law_pool⟩)
    (c_law_pool : PySem.W.codeIn K cd_law_pool "_law_pool" = true)
    (k_law_pool : PySem.W.keepIn K (.ref f_law_pool) = true)
    (a_law_take : PySem.W.nsIn K mainGlobals "_law_take" = some (some (.ref f_law_take)))
    (l_law_take : K.lookup f_law_take = some ⟨oc_law_take, od_law_take, .func (PySem.W.fnOf "_law_take" "_law_take" (defArgs s_law_take) (defBody s_law_take) (defScope s_law_take) .none kV_law_take dc_law_take pm_law_take an_law_take cd_law_take ct_law_take), sl_law_take⟩)
    (c_law_take : PySem.W.codeIn K cd_law_take "_law_take" = true)
    (k_law_take : PySem.W.keepIn K (.ref f_law_take) = true)
    (a_law_base : PySem.W.nsIn K mainGlobals "_law_base" = some (some (.ref f_law_base)))
    (l_law_base : K.lookup f_law_base = some ⟨oc_law_base, od_law_base, .func (PySem.W.fnOf "_law_base" "_law_base" (defArgs s_law_base) (defBody s_law_base) (defScope s_law_base) .none kV_law_base dc_law_base pm_law_base an_law_base cd_law_base ct_law_base), sl_law_base⟩)
    (c_law_base : PySem.W.codeIn K cd_law_base "_law_base" = true)
    (k_law_base : PySem.W.keepIn K (.ref f_law_base) = true)
    (a_law_name : PySem.W.nsIn K mainGlobals "_law_name" = some (some (.ref f_law_name)))
    (l_law_name : K.lookup f_law_name = some ⟨oc_law_name, od_law_name, .func (PySem.W.fnOf "_law_name" "_law_name" (defArgs s_law_name) (defBody s_law_name) (defScope s_law_name) .none kV_law_name dc_law_name pm_law_name an_law_name cd_law_name ct_law_name), sl_law_name⟩)
    (c_law_name : PySem.W.codeIn K cd_law_name "_law_name" = true)
    (k_law_name : PySem.W.keepIn K (.ref f_law_name) = true)
    (a_law_once : PySem.W.nsIn K mainGlobals "_law_once" = some (some (.ref f_law_once)))
    (l_law_once : K.lookup f_law_once = some ⟨oc_law_once, od_law_once, .func (PySem.W.fnOf "_law_once" "_law_once" (defArgs s_law_once) (defBody s_law_once) (defScope s_law_once) .none kV_law_once dc_law_once pm_law_once an_law_once cd_law_once ct_law_once), sl_law_once⟩)
    (c_law_once : PySem.W.codeIn K cd_law_once "_law_once" = true)
    (k_law_once : PySem.W.keepIn K (.ref f_law_once) = true)
    (a_law_is_hold : PySem.W.nsIn K mainGlobals "_law_is_hold" = some (some (.ref f_law_is_hold)))
    (l_law_is_hold : K.lookup f_law_is_hold = some ⟨oc_law_is_hold, od_law_is_hold, .func (PySem.W.fnOf "_law_is_hold" "_law_is_hold" (defArgs s_law_is_hold) (defBody s_law_is_hold) (defScope s_law_is_hold) .none kV_law_is_hold dc_law_is_hold pm_law_is_hold an_law_is_hold cd_law_is_hold ct_law_is_hold), sl_law_is_hold⟩)
    (c_law_is_hold : PySem.W.codeIn K cd_law_is_hold "_law_is_hold" = true)
    (k_law_is_hold : PySem.W.keepIn K (.ref f_law_is_hold) = true)
    (a_law_is_bool : PySem.W.nsIn K mainGlobals "_law_is_bool" = some (some (.ref f_law_is_bool)))
    (l_law_is_bool : K.lookup f_law_is_bool = some ⟨oc_law_is_bool, od_law_is_bool, .func (PySem.W.fnOf "_law_is_bool" "_law_is_bool" (defArgs s_law_is_bool) (defBody s_law_is_bool) (defScope s_law_is_bool) .none kV_law_is_bool dc_law_is_bool pm_law_is_bool an_law_is_bool cd_law_is_bool ct_law_is_bool), sl_law_is_bool⟩)
    (c_law_is_bool : PySem.W.codeIn K cd_law_is_bool "_law_is_bool" = true)
    (k_law_is_bool : PySem.W.keepIn K (.ref f_law_is_bool) = true)
    (a_law_drawn_spots : PySem.W.nsIn K mainGlobals "_law_drawn_spots" = some (some (.ref f_law_drawn_spots)))
    (l_law_drawn_spots : K.lookup f_law_drawn_spots = some ⟨oc_law_drawn_spots, od_law_drawn_spots, .func (PySem.W.fnOf "_law_drawn_spots" "_law_drawn_spots" (defArgs s_law_drawn_spots) (defBody s_law_drawn_spots) (defScope s_law_drawn_spots) .none kV_law_drawn_spots dc_law_drawn_spots pm_law_drawn_spots an_law_drawn_spots cd_law_drawn_spots ct_law_drawn_spots), sl_law_drawn_spots⟩)
    (c_law_drawn_spots : PySem.W.codeIn K cd_law_drawn_spots "_law_drawn_spots" = true)
    (k_law_drawn_spots : PySem.W.keepIn K (.ref f_law_drawn_spots) = true)
    (a_law : PySem.W.nsIn K mainGlobals "law" = some (some (.ref f_law)))
    (l_law : K.lookup f_law = some ⟨oc_law, od_law, .func (PySem.W.fnOf "law" "law" (defArgs s_law) (defBody s_law) (defScope s_law) .none kV_law dc_law pm_law an_law cd_law ct_law), sl_law⟩)
    (c_law : PySem.W.codeIn K cd_law "law" = true)
    (k_law : PySem.W.keepIn K (.ref f_law) = true)
    (pg_Hold : PySem.W.plainGet K C_Hold Str.empty = true)
    (hd_Hold : PySem.W.hasDictIn K C_Hold = true)
    (po_Hold : PySem.W.plainOver K C_Hold = true)
    (sa_Hold : PySem.W.findIn K (.ref C_Hold) "__setattr__" = some (some (.builtin "object.__setattr__")))
    (mk_Hold : PySem.W.makesIn K C_Hold = true)
    (kc_Hold : PySem.W.keepIn K (.ref C_Hold) = true)
    (ha_Hold : PySem.W.findIn K (.ref C_Hold) "__class__" = some (some (.builtin "object.__class__")))
    (hm_Hold : PySem.W.mroIn K C_Hold (.type "object") = some true)
    (sf_Hold : PySem.W.selfFirst K C_Hold = true)
    (nf_Hold : PySem.W.notFirst K C_Hold (.ref C_Hold) = true)
    (nfl_Hold : PySem.W.notFirst K C_Hold (.type "list") = true)
    (ic_Hold : PySem.W.isClsIn K C_Hold = true)
    (ty_Hold : PySem.W.typeIn K (.ref C_Hold) = some (.type "type"))
    (sl_Hold : PySem.W.subIn K (.type "list") (.ref C_Hold) = some false)
    (na_Hold_rows : PySem.W.findIn K (.ref C_Hold) "rows" = some none)
    (hn : PySem.W.specialIn K (.builtin "object.__class__") "__get__" = some (some (.builtin "getset_descriptor.__get__")))
    (ht : PySem.W.takesIn K (.builtin "object.__class__") = some true)
    (z_len : PySem.W.nsIn K mainGlobals "len" = some none)
    (z_all : PySem.W.nsIn K mainGlobals "all" = some none)
    (z_list : PySem.W.nsIn K mainGlobals "list" = some none)
    (z_tuple : PySem.W.nsIn K mainGlobals "tuple" = some none)
    (z_int : PySem.W.nsIn K mainGlobals "int" = some none)
    (z_range : PySem.W.nsIn K mainGlobals "range" = some none)
    (z_isinstance : PySem.W.nsIn K mainGlobals "isinstance" = some none)
    (z_iter : PySem.W.nsIn K mainGlobals "iter" = some none)
    (z_bool : PySem.W.nsIn K mainGlobals "bool" = some none)
    : ∃ fd : FuncData, (∀ (s : Shared) (v : Value), BindsTo s fd ⟨[v], []⟩ [("_law_script", v)]) ∧ ∀ base : Heap, K.In base → base.Ns mainGlobals mg → FnOk l.prog w K mg base CX0 8 fa fd ["_law_script"] (spLaw K) := by
  have e : fa = f_law := by
    have e := hfa.symm.trans (PySem.W.mg_of X G a_law)
    injection e with e
    injection e with e
  rw [e]
  have F_Hold_init : FunD K "__init__" "Hold.__init__" (defArgs s_Hold_init) (defBody s_Hold_init) (defScope s_Hold_init) [.ref e_Hold_init] [] f_Hold_init (PySem.W.fnOf "__init__" "Hold.__init__" (defArgs s_Hold_init) (defBody s_Hold_init) (defScope s_Hold_init) (.ref t_Hold_init) kV_Hold_init dc_Hold_init pm_Hold_init an_Hold_init cd_Hold_init ct_Hold_init) := ⟨⟨oc_Hold_init, od_Hold_init, _, kV_Hold_init, dc_Hold_init, pm_Hold_init, an_Hold_init, cd_Hold_init, ct_Hold_init, sl_Hold_init, rfl, l_Hold_init, c_Hold_init, .inr ⟨by simp, t_Hold_init, _, [.ref e_Hold_init], _, rfl, t1_Hold_init, rfl, .cons rfl .nil⟩, .inl rfl⟩, k_Hold_init⟩
  obtain ⟨ds_Hold_init, vs_Hold_init, b_Hold_init⟩ := F_Hold_init.binds1 (ps := ["self", "rows"]) 2 1 (by simp) rfl fun _ _ _ _ _ _ _ us its hl hi => match us, its, hl, hi with | [_, _], [_], _, _ => ⟨_, rfl, rfl⟩
  cases vs_Hold_init
  have bd_Hold_init := F_Hold_init.binds1 (ps := ["self", "rows"]) 1 0 (by simp) rfl fun _ _ _ _ _ _ _ us its hl hi => match us, its, hl, hi with | [_], [_], _, _ => ⟨_, rfl, rfl⟩
  have F_Hold_iter : FunD K "__iter__" "Hold.__iter__" (defArgs s_Hold_iter) (defBody s_Hold_iter) (defScope s_Hold_iter) [] [] f_Hold_iter (PySem.W.fnOf "__iter__" "Hold.__iter__" (defArgs s_Hold_iter) (defBody s_Hold_iter) (defScope s_Hold_iter) .none kV_Hold_iter dc_Hold_iter pm_Hold_iter an_Hold_iter cd_Hold_iter ct_Hold_iter) := ⟨⟨oc_Hold_iter, od_Hold_iter, _, kV_Hold_iter, dc_Hold_iter, pm_Hold_iter, an_Hold_iter, cd_Hold_iter, ct_Hold_iter, sl_Hold_iter, rfl, l_Hold_iter, c_Hold_iter, .inl ⟨rfl, rfl⟩, .inl rfl⟩, k_Hold_iter⟩
  have b_Hold_iter : Binds K (PySem.W.fnOf "__iter__" "Hold.__iter__" (defArgs s_Hold_iter) (defBody s_Hold_iter) (defScope s_Hold_iter) .none kV_Hold_iter dc_Hold_iter pm_Hold_iter an_Hold_iter cd_Hold_iter ct_Hold_iter) ["self"] [] := F_Hold_iter.bindsN fun _ _ _ _ _ _ us hl => match us, hl with | [_], _ => rfl
  have F_Hold_len : FunD K "__len__" "Hold.__len__" (defArgs s_Hold_len) (defBody s_Hold_len) (defScope s_Hold_len) [] [] f_Hold_len (PySem.W.fnOf "__len__" "Hold.__len__" (defArgs s_Hold_len) (defBody s_Hold_len) (defScope s_Hold_len) .none kV_Hold_len dc_Hold_len pm_Hold_len an_Hold_len cd_Hold_len ct_Hold_len) := ⟨⟨oc_Hold_len, od_Hold_len, _, kV_Hold_len, dc_Hold_len, pm_Hold_len, an_Hold_len, cd_Hold_len, ct_Hold_len, sl_Hold_len, rfl, l_Hold_len, c_Hold_len, .inl ⟨rfl, rfl⟩, .inl rfl⟩, k_Hold_len⟩
  have b_Hold_len : Binds K (PySem.W.fnOf "__len__" "Hold.__len__" (defArgs s_Hold_len) (defBody s_Hold_len) (defScope s_Hold_len) .none kV_Hold_len dc_Hold_len pm_Hold_len an_Hold_len cd_Hold_len ct_Hold_len) ["self"] [] := F_Hold_len.bindsN fun _ _ _ _ _ _ us hl => match us, hl with | [_], _ => rfl
  have F_Hold_contains : FunD K "__contains__" "Hold.__contains__" (defArgs s_Hold_contains) (defBody s_Hold_contains) (defScope s_Hold_contains) [] [] f_Hold_contains (PySem.W.fnOf "__contains__" "Hold.__contains__" (defArgs s_Hold_contains) (defBody s_Hold_contains) (defScope s_Hold_contains) .none kV_Hold_contains dc_Hold_contains pm_Hold_contains an_Hold_contains cd_Hold_contains ct_Hold_contains) := ⟨⟨oc_Hold_contains, od_Hold_contains, _, kV_Hold_contains, dc_Hold_contains, pm_Hold_contains, an_Hold_contains, cd_Hold_contains, ct_Hold_contains, sl_Hold_contains, rfl, l_Hold_contains, c_Hold_contains, .inl ⟨rfl, rfl⟩, .inl rfl⟩, k_Hold_contains⟩
  have b_Hold_contains : Binds K (PySem.W.fnOf "__contains__" "Hold.__contains__" (defArgs s_Hold_contains) (defBody s_Hold_contains) (defScope s_Hold_contains) .none kV_Hold_contains dc_Hold_contains pm_Hold_contains an_Hold_contains cd_Hold_contains ct_Hold_contains) ["self", "spot"] [] := F_Hold_contains.bindsN fun _ _ _ _ _ _ us hl => match us, hl with | [_, _], _ => rfl
  have F_Hold_eq : FunD K "__eq__" "Hold.__eq__" (defArgs s_Hold_eq) (defBody s_Hold_eq) (defScope s_Hold_eq) [] [] f_Hold_eq (PySem.W.fnOf "__eq__" "Hold.__eq__" (defArgs s_Hold_eq) (defBody s_Hold_eq) (defScope s_Hold_eq) .none kV_Hold_eq dc_Hold_eq pm_Hold_eq an_Hold_eq cd_Hold_eq ct_Hold_eq) := ⟨⟨oc_Hold_eq, od_Hold_eq, _, kV_Hold_eq, dc_Hold_eq, pm_Hold_eq, an_Hold_eq, cd_Hold_eq, ct_Hold_eq, sl_Hold_eq, rfl, l_Hold_eq, c_Hold_eq, .inl ⟨rfl, rfl⟩, .inl rfl⟩, k_Hold_eq⟩
  have b_Hold_eq : Binds K (PySem.W.fnOf "__eq__" "Hold.__eq__" (defArgs s_Hold_eq) (defBody s_Hold_eq) (defScope s_Hold_eq) .none kV_Hold_eq dc_Hold_eq pm_Hold_eq an_Hold_eq cd_Hold_eq ct_Hold_eq) ["self", "other"] [] := F_Hold_eq.bindsN fun _ _ _ _ _ _ us hl => match us, hl with | [_, _], _ => rfl
  have F_Hold_le : FunD K "__le__" "Hold.__le__" (defArgs s_Hold_le) (defBody s_Hold_le) (defScope s_Hold_le) [] [] f_Hold_le (PySem.W.fnOf "__le__" "Hold.__le__" (defArgs s_Hold_le) (defBody s_Hold_le) (defScope s_Hold_le) .none kV_Hold_le dc_Hold_le pm_Hold_le an_Hold_le cd_Hold_le ct_Hold_le) := ⟨⟨oc_Hold_le, od_Hold_le, _, kV_Hold_le, dc_Hold_le, pm_Hold_le, an_Hold_le, cd_Hold_le, ct_Hold_le, sl_Hold_le, rfl, l_Hold_le, c_Hold_le, .inl ⟨rfl, rfl⟩, .inl rfl⟩, k_Hold_le⟩
  have b_Hold_le : Binds K (PySem.W.fnOf "__le__" "Hold.__le__" (defArgs s_Hold_le) (defBody s_Hold_le) (defScope s_Hold_le) .none kV_Hold_le dc_Hold_le pm_Hold_le an_Hold_le cd_Hold_le ct_Hold_le) ["self", "other"] [] := F_Hold_le.bindsN fun _ _ _ _ _ _ us hl => match us, hl with | [_, _], _ => rfl
  have F_Hold_or : FunD K "__or__" "Hold.__or__" (defArgs s_Hold_or) (defBody s_Hold_or) (defScope s_Hold_or) [] [] f_Hold_or (PySem.W.fnOf "__or__" "Hold.__or__" (defArgs s_Hold_or) (defBody s_Hold_or) (defScope s_Hold_or) .none kV_Hold_or dc_Hold_or pm_Hold_or an_Hold_or cd_Hold_or ct_Hold_or) := ⟨⟨oc_Hold_or, od_Hold_or, _, kV_Hold_or, dc_Hold_or, pm_Hold_or, an_Hold_or, cd_Hold_or, ct_Hold_or, sl_Hold_or, rfl, l_Hold_or, c_Hold_or, .inl ⟨rfl, rfl⟩, .inl rfl⟩, k_Hold_or⟩
  have b_Hold_or : Binds K (PySem.W.fnOf "__or__" "Hold.__or__" (defArgs s_Hold_or) (defBody s_Hold_or) (defScope s_Hold_or) .none kV_Hold_or dc_Hold_or pm_Hold_or an_Hold_or cd_Hold_or ct_Hold_or) ["self", "other"] [] := F_Hold_or.bindsN fun _ _ _ _ _ _ us hl => match us, hl with | [_, _], _ => rfl
  have F_Hold_and : FunD K "__and__" "Hold.__and__" (defArgs s_Hold_and) (defBody s_Hold_and) (defScope s_Hold_and) [] [] f_Hold_and (PySem.W.fnOf "__and__" "Hold.__and__" (defArgs s_Hold_and) (defBody s_Hold_and) (defScope s_Hold_and) .none kV_Hold_and dc_Hold_and pm_Hold_and an_Hold_and cd_Hold_and ct_Hold_and) := ⟨⟨oc_Hold_and, od_Hold_and, _, kV_Hold_and, dc_Hold_and, pm_Hold_and, an_Hold_and, cd_Hold_and, ct_Hold_and, sl_Hold_and, rfl, l_Hold_and, c_Hold_and, .inl ⟨rfl, rfl⟩, .inl rfl⟩, k_Hold_and⟩
  have b_Hold_and : Binds K (PySem.W.fnOf "__and__" "Hold.__and__" (defArgs s_Hold_and) (defBody s_Hold_and) (defScope s_Hold_and) .none kV_Hold_and dc_Hold_and pm_Hold_and an_Hold_and cd_Hold_and ct_Hold_and) ["self", "other"] [] := F_Hold_and.bindsN fun _ _ _ _ _ _ us hl => match us, hl with | [_, _], _ => rfl
  have F_Hold_sub : FunD K "__sub__" "Hold.__sub__" (defArgs s_Hold_sub) (defBody s_Hold_sub) (defScope s_Hold_sub) [] [] f_Hold_sub (PySem.W.fnOf "__sub__" "Hold.__sub__" (defArgs s_Hold_sub) (defBody s_Hold_sub) (defScope s_Hold_sub) .none kV_Hold_sub dc_Hold_sub pm_Hold_sub an_Hold_sub cd_Hold_sub ct_Hold_sub) := ⟨⟨oc_Hold_sub, od_Hold_sub, _, kV_Hold_sub, dc_Hold_sub, pm_Hold_sub, an_Hold_sub, cd_Hold_sub, ct_Hold_sub, sl_Hold_sub, rfl, l_Hold_sub, c_Hold_sub, .inl ⟨rfl, rfl⟩, .inl rfl⟩, k_Hold_sub⟩
  have b_Hold_sub : Binds K (PySem.W.fnOf "__sub__" "Hold.__sub__" (defArgs s_Hold_sub) (defBody s_Hold_sub) (defScope s_Hold_sub) .none kV_Hold_sub dc_Hold_sub pm_Hold_sub an_Hold_sub cd_Hold_sub ct_Hold_sub) ["self", "other"] [] := F_Hold_sub.bindsN fun _ _ _ _ _ _ us hl => match us, hl with | [_, _], _ => rfl
  have F_law_pool : FunD K "_law_pool" "_law_pool" (defArgs s_law_pool) (defBody s_law_pool) (defScope s_law_pool) [] [] f_law_pool (PySem.W.fnOf "_law_pool" "_law_pool" (defArgs s_law_pool) (defBody s_law_pool) (defScope s_law_pool) .none kV_law_pool dc_law_pool pm_law_pool an_law_pool cd_law_pool ct_law_pool) := ⟨⟨oc_law_pool, od_law_pool, _, kV_law_pool, dc_law_pool, pm_law_pool, an_law_pool, cd_law_pool, ct_law_pool, sl_law_pool, rfl, l_law_pool, c_law_pool, .inl ⟨rfl, rfl⟩, .inl rfl⟩, k_law_pool⟩
  have b_law_pool : Binds K (PySem.W.fnOf "_law_pool" "_law_pool" (defArgs s_law_pool) (defBody s_law_pool) (defScope s_law_pool) .none kV_law_pool dc_law_pool pm_law_pool an_law_pool cd_law_pool ct_law_pool) ["_law_script"] [] := F_law_pool.bindsN fun _ _ _ _ _ _ us hl => match us, hl with | [_], _ => rfl
  have F_law_take : FunD K "_law_take" "_law_take" (defArgs s_law_take) (defBody s_law_take) (defScope s_law_take) [] [] f_law_take (PySem.W.fnOf "_law_take" "_law_take" (defArgs s_law_take) (defBody s_law_take) (defScope s_law_take) .none kV_law_take dc_law_take pm_law_take an_law_take cd_law_take ct_law_take) := ⟨⟨oc_law_take, od_law_take, _, kV_law_take, dc_law_take, pm_law_take, an_law_take, cd_law_take, ct_law_take, sl_law_take, rfl, l_law_take, c_law_take, .inl ⟨rfl, rfl⟩, .inl rfl⟩, k_law_take⟩
  have b_law_take : Binds K (PySem.W.fnOf "_law_take" "_law_take" (defArgs s_law_take) (defBody s_law_take) (defScope s_law_take) .none kV_law_take dc_law_take pm_law_take an_law_take cd_law_take ct_law_take) ["_law_pool_here", "_law_size"] [] := F_law_take.bindsN fun _ _ _ _ _ _ us hl => match us, hl with | [_, _], _ => rfl
  have F_law_base : FunD K "_law_base" "_law_base" (defArgs s_law_base) (defBody s_law_base) (defScope s_law_base) [] [] f_law_base (PySem.W.fnOf "_law_base" "_law_base" (defArgs s_law_base) (defBody s_law_base) (defScope s_law_base) .none kV_law_base dc_law_base pm_law_base an_law_base cd_law_base ct_law_base) := ⟨⟨oc_law_base, od_law_base, _, kV_law_base, dc_law_base, pm_law_base, an_law_base, cd_law_base, ct_law_base, sl_law_base, rfl, l_law_base, c_law_base, .inl ⟨rfl, rfl⟩, .inl rfl⟩, k_law_base⟩
  have b_law_base : Binds K (PySem.W.fnOf "_law_base" "_law_base" (defArgs s_law_base) (defBody s_law_base) (defScope s_law_base) .none kV_law_base dc_law_base pm_law_base an_law_base cd_law_base ct_law_base) ["_law_pool_here"] [] := F_law_base.bindsN fun _ _ _ _ _ _ us hl => match us, hl with | [_], _ => rfl
  have F_law_name : FunD K "_law_name" "_law_name" (defArgs s_law_name) (defBody s_law_name) (defScope s_law_name) [] [] f_law_name (PySem.W.fnOf "_law_name" "_law_name" (defArgs s_law_name) (defBody s_law_name) (defScope s_law_name) .none kV_law_name dc_law_name pm_law_name an_law_name cd_law_name ct_law_name) := ⟨⟨oc_law_name, od_law_name, _, kV_law_name, dc_law_name, pm_law_name, an_law_name, cd_law_name, ct_law_name, sl_law_name, rfl, l_law_name, c_law_name, .inl ⟨rfl, rfl⟩, .inl rfl⟩, k_law_name⟩
  have b_law_name : Binds K (PySem.W.fnOf "_law_name" "_law_name" (defArgs s_law_name) (defBody s_law_name) (defScope s_law_name) .none kV_law_name dc_law_name pm_law_name an_law_name cd_law_name ct_law_name) ["_law_pool_here", "_law_base_here", "_law_k"] [] := F_law_name.bindsN fun _ _ _ _ _ _ us hl => match us, hl with | [_, _, _], _ => rfl
  have F_law_once : FunD K "_law_once" "_law_once" (defArgs s_law_once) (defBody s_law_once) (defScope s_law_once) [] [] f_law_once (PySem.W.fnOf "_law_once" "_law_once" (defArgs s_law_once) (defBody s_law_once) (defScope s_law_once) .none kV_law_once dc_law_once pm_law_once an_law_once cd_law_once ct_law_once) := ⟨⟨oc_law_once, od_law_once, _, kV_law_once, dc_law_once, pm_law_once, an_law_once, cd_law_once, ct_law_once, sl_law_once, rfl, l_law_once, c_law_once, .inl ⟨rfl, rfl⟩, .inl rfl⟩, k_law_once⟩
  have b_law_once : Binds K (PySem.W.fnOf "_law_once" "_law_once" (defArgs s_law_once) (defBody s_law_once) (defScope s_law_once) .none kV_law_once dc_law_once pm_law_once an_law_once cd_law_once ct_law_once) ["_law_rows"] [] := F_law_once.bindsN fun _ _ _ _ _ _ us hl => match us, hl with | [_], _ => rfl
  have F_law_is_hold : FunD K "_law_is_hold" "_law_is_hold" (defArgs s_law_is_hold) (defBody s_law_is_hold) (defScope s_law_is_hold) [] [] f_law_is_hold (PySem.W.fnOf "_law_is_hold" "_law_is_hold" (defArgs s_law_is_hold) (defBody s_law_is_hold) (defScope s_law_is_hold) .none kV_law_is_hold dc_law_is_hold pm_law_is_hold an_law_is_hold cd_law_is_hold ct_law_is_hold) := ⟨⟨oc_law_is_hold, od_law_is_hold, _, kV_law_is_hold, dc_law_is_hold, pm_law_is_hold, an_law_is_hold, cd_law_is_hold, ct_law_is_hold, sl_law_is_hold, rfl, l_law_is_hold, c_law_is_hold, .inl ⟨rfl, rfl⟩, .inl rfl⟩, k_law_is_hold⟩
  have b_law_is_hold : Binds K (PySem.W.fnOf "_law_is_hold" "_law_is_hold" (defArgs s_law_is_hold) (defBody s_law_is_hold) (defScope s_law_is_hold) .none kV_law_is_hold dc_law_is_hold pm_law_is_hold an_law_is_hold cd_law_is_hold ct_law_is_hold) ["_law_hold", "_law_rows", "_law_names"] [] := F_law_is_hold.bindsN fun _ _ _ _ _ _ us hl => match us, hl with | [_, _, _], _ => rfl
  have F_law_is_bool : FunD K "_law_is_bool" "_law_is_bool" (defArgs s_law_is_bool) (defBody s_law_is_bool) (defScope s_law_is_bool) [] [] f_law_is_bool (PySem.W.fnOf "_law_is_bool" "_law_is_bool" (defArgs s_law_is_bool) (defBody s_law_is_bool) (defScope s_law_is_bool) .none kV_law_is_bool dc_law_is_bool pm_law_is_bool an_law_is_bool cd_law_is_bool ct_law_is_bool) := ⟨⟨oc_law_is_bool, od_law_is_bool, _, kV_law_is_bool, dc_law_is_bool, pm_law_is_bool, an_law_is_bool, cd_law_is_bool, ct_law_is_bool, sl_law_is_bool, rfl, l_law_is_bool, c_law_is_bool, .inl ⟨rfl, rfl⟩, .inl rfl⟩, k_law_is_bool⟩
  have b_law_is_bool : Binds K (PySem.W.fnOf "_law_is_bool" "_law_is_bool" (defArgs s_law_is_bool) (defBody s_law_is_bool) (defScope s_law_is_bool) .none kV_law_is_bool dc_law_is_bool pm_law_is_bool an_law_is_bool cd_law_is_bool ct_law_is_bool) ["_law_actual", "_law_expected"] [] := F_law_is_bool.bindsN fun _ _ _ _ _ _ us hl => match us, hl with | [_, _], _ => rfl
  have F_law_drawn_spots : FunD K "_law_drawn_spots" "_law_drawn_spots" (defArgs s_law_drawn_spots) (defBody s_law_drawn_spots) (defScope s_law_drawn_spots) [] [] f_law_drawn_spots (PySem.W.fnOf "_law_drawn_spots" "_law_drawn_spots" (defArgs s_law_drawn_spots) (defBody s_law_drawn_spots) (defScope s_law_drawn_spots) .none kV_law_drawn_spots dc_law_drawn_spots pm_law_drawn_spots an_law_drawn_spots cd_law_drawn_spots ct_law_drawn_spots) := ⟨⟨oc_law_drawn_spots, od_law_drawn_spots, _, kV_law_drawn_spots, dc_law_drawn_spots, pm_law_drawn_spots, an_law_drawn_spots, cd_law_drawn_spots, ct_law_drawn_spots, sl_law_drawn_spots, rfl, l_law_drawn_spots, c_law_drawn_spots, .inl ⟨rfl, rfl⟩, .inl rfl⟩, k_law_drawn_spots⟩
  have b_law_drawn_spots : Binds K (PySem.W.fnOf "_law_drawn_spots" "_law_drawn_spots" (defArgs s_law_drawn_spots) (defBody s_law_drawn_spots) (defScope s_law_drawn_spots) .none kV_law_drawn_spots dc_law_drawn_spots pm_law_drawn_spots an_law_drawn_spots cd_law_drawn_spots ct_law_drawn_spots) ["_law_pool_here", "_law_names", "_law_size"] [] := F_law_drawn_spots.bindsN fun _ _ _ _ _ _ us hl => match us, hl with | [_, _, _], _ => rfl
  have F_law : FunD K "law" "law" (defArgs s_law) (defBody s_law) (defScope s_law) [] [] f_law (PySem.W.fnOf "law" "law" (defArgs s_law) (defBody s_law) (defScope s_law) .none kV_law dc_law pm_law an_law cd_law ct_law) := ⟨⟨oc_law, od_law, _, kV_law, dc_law, pm_law, an_law, cd_law, ct_law, sl_law, rfl, l_law, c_law, .inl ⟨rfl, rfl⟩, .inl rfl⟩, k_law⟩
  have b_law : Binds K (PySem.W.fnOf "law" "law" (defArgs s_law) (defBody s_law) (defScope s_law) .none kV_law dc_law pm_law an_law cd_law ct_law) ["_law_script"] [] := F_law.bindsN fun _ _ _ _ _ _ us hl => match us, hl with | [_], _ => rfl
  let a : Ad := { C_Hold := C_Hold, f_Hold_init := f_Hold_init, fd_Hold_init := PySem.W.fnOf "__init__" "Hold.__init__" (defArgs s_Hold_init) (defBody s_Hold_init) (defScope s_Hold_init) (.ref t_Hold_init) kV_Hold_init dc_Hold_init pm_Hold_init an_Hold_init cd_Hold_init ct_Hold_init, t_Hold_init := e_Hold_init, f_Hold_iter := f_Hold_iter, fd_Hold_iter := PySem.W.fnOf "__iter__" "Hold.__iter__" (defArgs s_Hold_iter) (defBody s_Hold_iter) (defScope s_Hold_iter) .none kV_Hold_iter dc_Hold_iter pm_Hold_iter an_Hold_iter cd_Hold_iter ct_Hold_iter, f_Hold_len := f_Hold_len, fd_Hold_len := PySem.W.fnOf "__len__" "Hold.__len__" (defArgs s_Hold_len) (defBody s_Hold_len) (defScope s_Hold_len) .none kV_Hold_len dc_Hold_len pm_Hold_len an_Hold_len cd_Hold_len ct_Hold_len, f_Hold_contains := f_Hold_contains, fd_Hold_contains := PySem.W.fnOf "__contains__" "Hold.__contains__" (defArgs s_Hold_contains) (defBody s_Hold_contains) (defScope s_Hold_contains) .none kV_Hold_contains dc_Hold_contains pm_Hold_contains an_Hold_contains cd_Hold_contains ct_Hold_contains, f_Hold_eq := f_Hold_eq, fd_Hold_eq := PySem.W.fnOf "__eq__" "Hold.__eq__" (defArgs s_Hold_eq) (defBody s_Hold_eq) (defScope s_Hold_eq) .none kV_Hold_eq dc_Hold_eq pm_Hold_eq an_Hold_eq cd_Hold_eq ct_Hold_eq, f_Hold_le := f_Hold_le, fd_Hold_le := PySem.W.fnOf "__le__" "Hold.__le__" (defArgs s_Hold_le) (defBody s_Hold_le) (defScope s_Hold_le) .none kV_Hold_le dc_Hold_le pm_Hold_le an_Hold_le cd_Hold_le ct_Hold_le, f_Hold_or := f_Hold_or, fd_Hold_or := PySem.W.fnOf "__or__" "Hold.__or__" (defArgs s_Hold_or) (defBody s_Hold_or) (defScope s_Hold_or) .none kV_Hold_or dc_Hold_or pm_Hold_or an_Hold_or cd_Hold_or ct_Hold_or, f_Hold_and := f_Hold_and, fd_Hold_and := PySem.W.fnOf "__and__" "Hold.__and__" (defArgs s_Hold_and) (defBody s_Hold_and) (defScope s_Hold_and) .none kV_Hold_and dc_Hold_and pm_Hold_and an_Hold_and cd_Hold_and ct_Hold_and, f_Hold_sub := f_Hold_sub, fd_Hold_sub := PySem.W.fnOf "__sub__" "Hold.__sub__" (defArgs s_Hold_sub) (defBody s_Hold_sub) (defScope s_Hold_sub) .none kV_Hold_sub dc_Hold_sub pm_Hold_sub an_Hold_sub cd_Hold_sub ct_Hold_sub, f_law_pool := f_law_pool, fd_law_pool := PySem.W.fnOf "_law_pool" "_law_pool" (defArgs s_law_pool) (defBody s_law_pool) (defScope s_law_pool) .none kV_law_pool dc_law_pool pm_law_pool an_law_pool cd_law_pool ct_law_pool, f_law_take := f_law_take, fd_law_take := PySem.W.fnOf "_law_take" "_law_take" (defArgs s_law_take) (defBody s_law_take) (defScope s_law_take) .none kV_law_take dc_law_take pm_law_take an_law_take cd_law_take ct_law_take, f_law_base := f_law_base, fd_law_base := PySem.W.fnOf "_law_base" "_law_base" (defArgs s_law_base) (defBody s_law_base) (defScope s_law_base) .none kV_law_base dc_law_base pm_law_base an_law_base cd_law_base ct_law_base, f_law_name := f_law_name, fd_law_name := PySem.W.fnOf "_law_name" "_law_name" (defArgs s_law_name) (defBody s_law_name) (defScope s_law_name) .none kV_law_name dc_law_name pm_law_name an_law_name cd_law_name ct_law_name, f_law_once := f_law_once, fd_law_once := PySem.W.fnOf "_law_once" "_law_once" (defArgs s_law_once) (defBody s_law_once) (defScope s_law_once) .none kV_law_once dc_law_once pm_law_once an_law_once cd_law_once ct_law_once, f_law_is_hold := f_law_is_hold, fd_law_is_hold := PySem.W.fnOf "_law_is_hold" "_law_is_hold" (defArgs s_law_is_hold) (defBody s_law_is_hold) (defScope s_law_is_hold) .none kV_law_is_hold dc_law_is_hold pm_law_is_hold an_law_is_hold cd_law_is_hold ct_law_is_hold, f_law_is_bool := f_law_is_bool, fd_law_is_bool := PySem.W.fnOf "_law_is_bool" "_law_is_bool" (defArgs s_law_is_bool) (defBody s_law_is_bool) (defScope s_law_is_bool) .none kV_law_is_bool dc_law_is_bool pm_law_is_bool an_law_is_bool cd_law_is_bool ct_law_is_bool, f_law_drawn_spots := f_law_drawn_spots, fd_law_drawn_spots := PySem.W.fnOf "_law_drawn_spots" "_law_drawn_spots" (defArgs s_law_drawn_spots) (defBody s_law_drawn_spots) (defScope s_law_drawn_spots) .none kV_law_drawn_spots dc_law_drawn_spots pm_law_drawn_spots an_law_drawn_spots cd_law_drawn_spots ct_law_drawn_spots, f_law := f_law, fd_law := PySem.W.fnOf "law" "law" (defArgs s_law) (defBody s_law) (defScope s_law) .none kV_law dc_law pm_law an_law cd_law ct_law }
  have T : Tx K mg a := {
    cl_Hold := ⟨pg_Hold, hd_Hold, po_Hold, sa_Hold⟩,
    is_Hold := ⟨⟨pg_Hold, hd_Hold, po_Hold, sa_Hold⟩, ha_Hold, hn, ht, hm_Hold⟩,
    mk_Hold := ⟨mk_Hold, a_Hold_init, i_Hold_init, kc_Hold⟩,
    mgC_Hold := PySem.W.mg_of X G aC_Hold,
    sf_Hold := sf_Hold,
    nf_Hold := nf_Hold,
    nfl_Hold := nfl_Hold,
    ki_Hold := kit_same,
    kl_Hold := kit_other ic_Hold ty_Hold sl_Hold rfl,
    na_Hold_rows := na_Hold_rows,
    F_Hold_init := F_Hold_init,
    b_Hold_init := b_Hold_init,
    bd_Hold_init := bd_Hold_init,
    td_Hold_init := fun H => .inr ⟨_, _, _, e1_Hold_init, rfl, rfl, by simp, .nil⟩,
    at_Hold_init := a_Hold_init,
    fn_Hold_init := i_Hold_init,
    F_Hold_iter := F_Hold_iter,
    b_Hold_iter := b_Hold_iter,
    at_Hold_iter := a_Hold_iter,
    fn_Hold_iter := i_Hold_iter,
    F_Hold_len := F_Hold_len,
    b_Hold_len := b_Hold_len,
    at_Hold_len := a_Hold_len,
    fn_Hold_len := i_Hold_len,
    F_Hold_contains := F_Hold_contains,
    b_Hold_contains := b_Hold_contains,
    at_Hold_contains := a_Hold_contains,
    fn_Hold_contains := i_Hold_contains,
    F_Hold_eq := F_Hold_eq,
    b_Hold_eq := b_Hold_eq,
    at_Hold_eq := a_Hold_eq,
    fn_Hold_eq := i_Hold_eq,
    F_Hold_le := F_Hold_le,
    b_Hold_le := b_Hold_le,
    at_Hold_le := a_Hold_le,
    fn_Hold_le := i_Hold_le,
    F_Hold_or := F_Hold_or,
    b_Hold_or := b_Hold_or,
    at_Hold_or := a_Hold_or,
    fn_Hold_or := i_Hold_or,
    F_Hold_and := F_Hold_and,
    b_Hold_and := b_Hold_and,
    at_Hold_and := a_Hold_and,
    fn_Hold_and := i_Hold_and,
    F_Hold_sub := F_Hold_sub,
    b_Hold_sub := b_Hold_sub,
    at_Hold_sub := a_Hold_sub,
    fn_Hold_sub := i_Hold_sub,
    F_law_pool := F_law_pool,
    b_law_pool := b_law_pool,
    mg_law_pool := PySem.W.mg_of X G a_law_pool,
    F_law_take := F_law_take,
    b_law_take := b_law_take,
    mg_law_take := PySem.W.mg_of X G a_law_take,
    F_law_base := F_law_base,
    b_law_base := b_law_base,
    mg_law_base := PySem.W.mg_of X G a_law_base,
    F_law_name := F_law_name,
    b_law_name := b_law_name,
    mg_law_name := PySem.W.mg_of X G a_law_name,
    F_law_once := F_law_once,
    b_law_once := b_law_once,
    mg_law_once := PySem.W.mg_of X G a_law_once,
    F_law_is_hold := F_law_is_hold,
    b_law_is_hold := b_law_is_hold,
    mg_law_is_hold := PySem.W.mg_of X G a_law_is_hold,
    F_law_is_bool := F_law_is_bool,
    b_law_is_bool := b_law_is_bool,
    mg_law_is_bool := PySem.W.mg_of X G a_law_is_bool,
    F_law_drawn_spots := F_law_drawn_spots,
    b_law_drawn_spots := b_law_drawn_spots,
    mg_law_drawn_spots := PySem.W.mg_of X G a_law_drawn_spots,
    F_law := F_law,
    b_law := b_law,
    mg_law := PySem.W.mg_of X G a_law,
    z_len := PySem.W.mg_none_of X G z_len,
    z_all := PySem.W.mg_none_of X G z_all,
    z_list := PySem.W.mg_none_of X G z_list,
    z_tuple := PySem.W.mg_none_of X G z_tuple,
    z_int := PySem.W.mg_none_of X G z_int,
    z_range := PySem.W.mg_none_of X G z_range,
    z_isinstance := PySem.W.mg_none_of X G z_isinstance,
    z_iter := PySem.W.mg_none_of X G z_iter,
    z_bool := PySem.W.mg_none_of X G z_bool }
  exact ⟨_, fun s v => F_law.bindsA (ps := ["_law_script"]) (fun _ _ _ _ _ _ us hl => match us, hl with | [_], _ => rfl) s [v] rfl, fun base _ _ => ok_law T⟩
theorem walk {l : PySem.W.OpenLaw} {q : Program} {loose : List Str} {XP : (Str → Option Value) → Heap → Prop} {YP : World → Heap → Prop} {d : DefRec} {K : Params → PySem.W.Frag} (hn : l.most = some 63) (hdf : d.params.defaults = [])
    (hY : ∀ (w : World) (h : Heap), YP w h → (K w.params).In h)
    (F : ∀ (w : World) (mg : Str → Option Value) (fa : Addr) (h : Heap), (K w.params).In h → h.Ns mainGlobals mg → mg d.name = some (.ref fa) →
      ∃ fd : FuncData, (∀ (s : Shared) (u : Value), BindsTo s fd ⟨[u], []⟩ [("_law_script", u)]) ∧ ∀ base : Heap, (K w.params).In base → base.Ns mainGlobals mg → FnOk l.prog w (K w.params) mg base CX0 8 fa fd ["_law_script"] (spLaw (K w.params))) :
    PySem.W.WalkO q loose XP YP l.row.toRowW d [] (fun f vs => PySem.call f vs) :=
  L2.walk_of (n := 63) (k := 8) (x := "_law_script") (CX := fun _ => CX0) (sp := fun w => spLaw (K w.params)) hn (by decide) hdf ⟨rfl, by decide, by decide⟩ hY F (fun _ _ a ns hl _ hS => ⟨a, ns, rfl, hS, hl, fun _ => rfl⟩) fun _ _ _ _ _ z => z
end K05
open PySem PySem.W PyProof.Rows
set_option maxRecDepth 100000 in
set_option maxHeartbeats 0 in
theorem PySem.Challenge.cw_soundyard_k05_holds_holds : PySem.Challenge.rw_soundyard_k05_holds.Holds := by
  w_on; o_law; k_head; (case hw => w_witness2)
  k_fill
  refine K05.walk (l := PySem.Challenge.rw_soundyard_k05_holds) rfl rfl (fun w h Y => PySem.W.kIn_of Y) ?F
  case F =>
    intro w mg fa h KX G hmg
    refine' K05.all_mk KX G hmg ?aC_Hold ?a_Hold_init ?i_Hold_init ?l_Hold_init ?c_Hold_init ?k_Hold_init ?t1_Hold_init ?e1_Hold_init ?a_Hold_iter ?i_Hold_iter ?l_Hold_iter ?c_Hold_iter ?k_Hold_iter ?a_Hold_len ?i_Hold_len ?l_Hold_len ?c_Hold_len ?k_Hold_len ?a_Hold_contains ?i_Hold_contains ?l_Hold_contains ?c_Hold_contains ?k_Hold_contains ?a_Hold_eq ?i_Hold_eq ?l_Hold_eq ?c_Hold_eq ?k_Hold_eq ?a_Hold_le ?i_Hold_le ?l_Hold_le ?c_Hold_le ?k_Hold_le ?a_Hold_or ?i_Hold_or ?l_Hold_or ?c_Hold_or ?k_Hold_or ?a_Hold_and ?i_Hold_and ?l_Hold_and ?c_Hold_and ?k_Hold_and ?a_Hold_sub ?i_Hold_sub ?l_Hold_sub ?c_Hold_sub ?k_Hold_sub ?a_law_pool ?l_law_pool ?c_law_pool ?k_law_pool ?a_law_take ?l_law_take ?c_law_take ?k_law_take ?a_law_base ?l_law_base ?c_law_base ?k_law_base ?a_law_name ?l_law_name ?c_law_name ?k_law_name ?a_law_once ?l_law_once ?c_law_once ?k_law_once ?a_law_is_hold ?l_law_is_hold ?c_law_is_hold ?k_law_is_hold ?a_law_is_bool ?l_law_is_bool ?c_law_is_bool ?k_law_is_bool ?a_law_drawn_spots ?l_law_drawn_spots ?c_law_drawn_spots ?k_law_drawn_spots ?a_law ?l_law ?c_law ?k_law ?pg_Hold ?hd_Hold ?po_Hold ?sa_Hold ?mk_Hold ?kc_Hold ?ha_Hold ?hm_Hold ?sf_Hold ?nf_Hold ?nfl_Hold ?ic_Hold ?ty_Hold ?sl_Hold ?na_Hold_rows ?hn ?ht ?z_len ?z_all ?z_list ?z_tuple ?z_int ?z_range ?z_isinstance ?z_iter ?z_bool
    (case aC_Hold => k_is)
    (case a_Hold_init => k_is)
    (case i_Hold_init => k_is)
    (case l_Hold_init => k_is)
    (case c_Hold_init => k_is)
    (case k_Hold_init => k_is)
    (case t1_Hold_init => k_is)
    (case e1_Hold_init => k_is)
    (case a_Hold_iter => k_is)
    (case i_Hold_iter => k_is)
    (case l_Hold_iter => k_is)
    (case c_Hold_iter => k_is)
    (case k_Hold_iter => k_is)
    (case a_Hold_len => k_is)
    (case i_Hold_len => k_is)
    (case l_Hold_len => k_is)
    (case c_Hold_len => k_is)
    (case k_Hold_len => k_is)
    (case a_Hold_contains => k_is)
    (case i_Hold_contains => k_is)
    (case l_Hold_contains => k_is)
    (case c_Hold_contains => k_is)
    (case k_Hold_contains => k_is)
    (case a_Hold_eq => k_is)
    (case i_Hold_eq => k_is)
    (case l_Hold_eq => k_is)
    (case c_Hold_eq => k_is)
    (case k_Hold_eq => k_is)
    (case a_Hold_le => k_is)
    (case i_Hold_le => k_is)
    (case l_Hold_le => k_is)
    (case c_Hold_le => k_is)
    (case k_Hold_le => k_is)
    (case a_Hold_or => k_is)
    (case i_Hold_or => k_is)
    (case l_Hold_or => k_is)
    (case c_Hold_or => k_is)
    (case k_Hold_or => k_is)
    (case a_Hold_and => k_is)
    (case i_Hold_and => k_is)
    (case l_Hold_and => k_is)
    (case c_Hold_and => k_is)
    (case k_Hold_and => k_is)
    (case a_Hold_sub => k_is)
    (case i_Hold_sub => k_is)
    (case l_Hold_sub => k_is)
    (case c_Hold_sub => k_is)
    (case k_Hold_sub => k_is)
    (case a_law_pool => k_is)
    (case l_law_pool => k_is)
    (case c_law_pool => k_is)
    (case k_law_pool => k_is)
    (case a_law_take => k_is)
    (case l_law_take => k_is)
    (case c_law_take => k_is)
    (case k_law_take => k_is)
    (case a_law_base => k_is)
    (case l_law_base => k_is)
    (case c_law_base => k_is)
    (case k_law_base => k_is)
    (case a_law_name => k_is)
    (case l_law_name => k_is)
    (case c_law_name => k_is)
    (case k_law_name => k_is)
    (case a_law_once => k_is)
    (case l_law_once => k_is)
    (case c_law_once => k_is)
    (case k_law_once => k_is)
    (case a_law_is_hold => k_is)
    (case l_law_is_hold => k_is)
    (case c_law_is_hold => k_is)
    (case k_law_is_hold => k_is)
    (case a_law_is_bool => k_is)
    (case l_law_is_bool => k_is)
    (case c_law_is_bool => k_is)
    (case k_law_is_bool => k_is)
    (case a_law_drawn_spots => k_is)
    (case l_law_drawn_spots => k_is)
    (case c_law_drawn_spots => k_is)
    (case k_law_drawn_spots => k_is)
    (case a_law => k_is)
    (case l_law => k_is)
    (case c_law => k_is)
    (case k_law => k_is)
    (case pg_Hold => k_is)
    (case hd_Hold => k_is)
    (case po_Hold => k_is)
    (case sa_Hold => k_is)
    (case mk_Hold => k_is)
    (case kc_Hold => k_is)
    (case ha_Hold => k_is)
    (case hm_Hold => k_is)
    (case sf_Hold => k_is)
    (case nf_Hold => k_is)
    (case nfl_Hold => k_is)
    (case ic_Hold => k_is)
    (case ty_Hold => k_is)
    (case sl_Hold => k_is)
    (case na_Hold_rows => k_is)
    (case hn => k_is)
    (case ht => k_is)
    (case z_len => k_is)
    (case z_all => k_is)
    (case z_list => k_is)
    (case z_tuple => k_is)
    (case z_int => k_is)
    (case z_range => k_is)
    (case z_isinstance => k_is)
    (case z_iter => k_is)
    (case z_bool => k_is)
