import PyProof.Rows.All
import HandS.ClsMeth
import HandS.Deep
import HandS.Defaults
import HandS.Dict
import HandS.DictComp
import HandS.DictTup
import HandS.Ends
import HandS.Exc
import HandS.ExcField
import HandS.ExcInit
import HandS.FStr
import HandS.ForMost
import HandS.IsInst
import HandS.Iter
import HandS.IterVal
import HandS.Property
import HandS.TryMany
import HandS.TupAny
import HandS.Wide
import KE.KExcSuper
import KE.KOpsOwn
import OpenK.AllK
import PyProof.ListMulAny
import PyProof.ListMulRight
import Wide.All
import Wide.FinOn
import PySem.Challenge.RW_soundyard_k06_steps_of_a_kind
set_option Elab.async false
set_option maxRecDepth 100000
set_option linter.all false
set_option maxHeartbeats 40000000
namespace GL
open PySem L2 PySem.Spec PyProof.Rows
/-! ### data -/
inductive D where
  | non | bl (b : Bool) | int (i : Int) | str (x : Str) | lst (l : List D) | tup (l : List D) | obj (c : Nat) (l : List D) | ref (a : Addr) | scr (ns : List Int) | ty (n : String)
  | dK (ks : List Key) (l : List D) | dT (ks : List (List Key)) (l : List D) | exc (c : Nat) (l : List D) | cau (a dd : Addr) (c : Nat) (l : List D)
instance : Inhabited D := ⟨.non⟩
/-- the classes of the text: their addresses, the names of their attributes in order -/
structure Sg0 where
  K : PySem.W.Frag
  cls : Nat → Addr
  nms : Nat → List Str
mutual
inductive Rp (S : Sg0) (H : Hp) : V → D → Prop
  | non : Rp S H .non .non
  | bl (b : Bool) : Rp S H (.bl b) (.bl b)
  | int (i : Int) : Rp S H (.int i) (.int i)
  | str (x : Str) : Rp S H (.str x) (.str x)
  | lst {a : Addr} {xs : List V} {ds : List D} : H a = some (.lst xs) → RpA S H xs ds → Rp S H (.ref a) (.lst ds)
  | tup {a : Addr} {xs : List V} {ds : List D} : SqT S.K H a xs → RpA S H xs ds → Rp S H (.ref a) (.tup ds)
  | obj {a dx : Addr} {c : Nat} {vs : List V} {ds : List D} : H a = some (.ins (S.cls c) dx ((S.nms c).zip vs)) → vs.length = (S.nms c).length → RpA S H vs ds → Rp S H (.ref a) (.obj c ds)
  | ref (a : Addr) : Rp S H (.ref a) (.ref a)
  | ty (n : String) : Rp S H (.ty n) (.ty n)
  | scr {a : Addr} {ns : List Int} : SqL S.K H a (ns.map V.int) → Rp S H (.ref a) (.scr ns)
  | dK {a : Addr} {o : Obj} {ks : List Key} {vs : List V} {ds : List D} : H a = some (.frz o (.dK (ks.zip vs))) → vs.length = ks.length → RpA S H vs ds → Rp S H (.ref a) (.dK ks ds)
  | dT {a : Addr} {o : Obj} {ks : List (List Key)} {vs : List V} {ds : List D} : H a = some (.frz o (.dT (ks.zip vs))) → vs.length = ks.length → RpA S H vs ds → Rp S H (.ref a) (.dT ks ds)
  | exc {a d : Addr} {c : Nat} {vs : List V} {ds : List D} : H a = some (exo a (S.cls c) (some d)) → H d = some (exd d ((S.nms c).zip vs)) → vs.length = (S.nms c).length → RpA S H vs ds → Rp S H (.ref a) (.exc c ds)
  | cau {a dd : Addr} {c : Nat} {vs : List V} {ds : List D} : H dd = some (.xd ((S.nms c).zip vs)) → vs.length = (S.nms c).length → RpA S H vs ds → Rp S H (.ref a) (.cau a dd c ds)
inductive RpA (S : Sg0) (H : Hp) : List V → List D → Prop
  | nil : RpA S H [] []
  | cons {v : V} {vs : List V} {d : D} {ds : List D} : Rp S H v d → RpA S H vs ds → RpA S H (v :: vs) (d :: ds)
end
def Ex (H H' : Hp) : Prop := ∀ a o, H a = some o → H' a = some o
theorem Ex.refl (H : Hp) : Ex H H := fun _ _ h => h
theorem Ex.trans {H H1 H2 : Hp} (a : Ex H H1) (b : Ex H1 H2) : Ex H H2 := fun x o h => b x o (a x o h)
theorem Ex.rd {H H' : Hp} {a : Addr} {u : HO} (e : Ex H H') (h : Rd H a u) : Rd H' a u := by
  rcases h with h | ⟨o, h⟩
  · exact Or.inl (e a _ h)
  · exact Or.inr ⟨o, e a _ h⟩
theorem Ex.l {K : PySem.W.Frag} {H H' : Hp} {a : Addr} {xs : List V} (e : Ex H H') (h : SqL K H a xs) : SqL K H' a xs := by
  rcases h with h | h
  · exact Or.inl (e.rd h)
  · exact Or.inr h
theorem Ex.t {K : PySem.W.Frag} {H H' : Hp} {a : Addr} {xs : List V} (e : Ex H H') (h : SqT K H a xs) : SqT K H' a xs := by
  rcases h with h | h
  · exact Or.inl (e.rd h)
  · exact Or.inr h
section
variable {S : Sg0} {H H' : Hp}
mutual
theorem Rp.ext (e : Ex H H') : ∀ {v : V} {d : D}, Rp S H v d → Rp S H' v d
  | _, _, .non => .non
  | _, _, .bl b => .bl b
  | _, _, .int i => .int i
  | _, _, .str x => .str x
  | _, _, .lst h hs => .lst (e _ _ h) (RpA.ext e hs)
  | _, _, .tup h hs => .tup (e.t h) (RpA.ext e hs)
  | _, _, .obj h hl hs => .obj (e _ _ h) hl (RpA.ext e hs)
  | _, _, .ref a => .ref a
  | _, _, .ty n => .ty n
  | _, _, .scr h => .scr (e.l h)
  | _, _, .dK h hl hs => .dK (e _ _ h) hl (RpA.ext e hs)
  | _, _, .dT h hl hs => .dT (e _ _ h) hl (RpA.ext e hs)
  | _, _, .exc h h2 hl hs => .exc (e _ _ h) (e _ _ h2) hl (RpA.ext e hs)
  | _, _, .cau h hl hs => .cau (e _ _ h) hl (RpA.ext e hs)
theorem RpA.ext (e : Ex H H') : ∀ {vs : List V} {ds : List D}, RpA S H vs ds → RpA S H' vs ds
  | _, _, .nil => .nil
  | _, _, .cons h t => .cons (Rp.ext e h) (RpA.ext e t)
end
theorem RpA.length : ∀ {vs : List V} {ds : List D}, RpA S H vs ds → vs.length = ds.length
  | _, _, .nil => rfl
  | _, _, .cons _ t => by rw [List.length_cons, List.length_cons, RpA.length t]
theorem RpA.get : ∀ {vs : List V} {ds : List D} {i : Nat} {d : D}, RpA S H vs ds → ds[i]? = some d → ∃ v, vs[i]? = some v ∧ Rp S H v d
  | _, _, _, _, .nil, e => by simp at e
  | _, _, 0, _, .cons h _, e => by simp at e; subst e; exact ⟨_, by simp, h⟩
  | _, _, i + 1, _, .cons _ t, e => by
    obtain ⟨v, hv, r⟩ := RpA.get (i := i) t (by simpa using e)
    exact ⟨v, by simpa using hv, r⟩
theorem RpA.getV : ∀ {vs : List V} {ds : List D} {i : Nat} {v : V}, RpA S H vs ds → vs[i]? = some v → ∃ d, ds[i]? = some d ∧ Rp S H v d
  | _, _, _, _, .nil, e => by simp at e
  | _, _, 0, _, .cons h _, e => by simp at e; subst e; exact ⟨_, by simp, h⟩
  | _, _, i + 1, _, .cons _ t, e => by
    obtain ⟨v, hv, r⟩ := RpA.getV (i := i) t (by simpa using e)
    exact ⟨v, by simpa using hv, r⟩
theorem RpA.append : ∀ {vs ws : List V} {ds es : List D}, RpA S H vs ds → RpA S H ws es → RpA S H (vs ++ ws) (ds ++ es)
  | _, _, _, _, .nil, s => s
  | _, _, _, _, .cons h t, s => .cons h (RpA.append t s)
theorem RpA.set : ∀ {vs : List V} {ds : List D} {v : V} {d : D} (i : Nat), Rp S H v d → RpA S H vs ds → RpA S H (vs.set i v) (ds.set i d)
  | _, _, _, _, _, _, .nil => .nil
  | _, _, _, _, 0, r, .cons _ t => .cons r t
  | _, _, _, _, i + 1, r, .cons h t => .cons h (RpA.set i r t)
theorem RpA.take : ∀ {vs : List V} {ds : List D} (n : Nat), RpA S H vs ds → RpA S H (vs.take n) (ds.take n)
  | _, _, 0, _ => by simp; exact .nil
  | _, _, _ + 1, .nil => .nil
  | _, _, n + 1, .cons r t => .cons r (RpA.take n t)
theorem RpA.drop : ∀ {vs : List V} {ds : List D} (n : Nat), RpA S H vs ds → RpA S H (vs.drop n) (ds.drop n)
  | _, _, 0, r => r
  | _, _, _ + 1, .nil => .nil
  | _, _, n + 1, .cons _ t => RpA.drop n t
end
/-! ### memory: what may change -/
inductive M where
  | lst (ds : List D)
  | ins (C : Addr) (fs : List (Str × D))
  | dK (kvs : List (Key × D))
  | dT (kvs : List (List Key × D))
  | fzK (o : Obj) (vs : List (Key × V)) (kvs : List (Key × D))
  | fzT (o : Obj) (vs : List (List Key × V)) (kvs : List (List Key × D))
abbrev Mem := List (Addr × M)
abbrev Gm := List (Option D)
abbrev adr (μ : Mem) : List Addr := μ.map (·.1)
/-- what is to be seen: neither protected nor in the memory -/
def vis (N H : Hp) (A : List Addr) : Hp := fun b => if (N b).isSome = true ∨ b ∈ A then none else H b
theorem vis_le {N H : Hp} {A : List Addr} : Ex (vis N H A) H := fun a o e => by
  unfold vis at e
  split at e
  · cases e
  · exact e
theorem vis_mk {N H : Hp} {A : List Addr} {b : Addr} {o : HO} (e : H b = some o) (hn : N b = none) (ha : b ∉ A) : vis N H A b = some o := by
  unfold vis
  rw [if_neg (by rw [hn]; simp [ha])]
  exact e
theorem vis_in {N H : Hp} {A : List Addr} {b : Addr} {o : HO} (e : vis N H A b = some o) : N b = none ∧ b ∉ A ∧ H b = some o := by
  unfold vis at e
  split at e
  · cases e
  · rename_i h
    refine ⟨?_, fun z => h (.inr z), e⟩
    cases q : N b with
    | none => rfl
    | some x => exact absurd (.inl (by rw [q]; rfl)) h
/-- fields of an instance, by name and in order -/
inductive RpF (S : Sg0) (H : Hp) : List (Str × V) → List (Str × D) → Prop
  | nil : RpF S H [] []
  | cons {f : Str} {v : V} {d : D} {vs : List (Str × V)} {ds : List (Str × D)} : Rp S H v d → RpF S H vs ds → RpF S H ((f, v) :: vs) ((f, d) :: ds)
inductive RpK {κ : Type} (S : Sg0) (H : Hp) : List (κ × V) → List (κ × D) → Prop
  | nil : RpK S H [] []
  | cons {k : κ} {v : V} {d : D} {vs : List (κ × V)} {ds : List (κ × D)} : Rp S H v d → RpK S H vs ds → RpK S H ((k, v) :: vs) ((k, d) :: ds)
inductive RpM (S : Sg0) (H : Hp) : M → HO → Prop
  | lst {ds : List D} {xs : List V} : RpA S H xs ds → RpM S H (.lst ds) (.lst xs)
  | ins {C dx : Addr} {fs : List (Str × D)} {vs : List (Str × V)} : RpF S H vs fs → RpM S H (.ins C fs) (.ins C dx vs)
  | dK {kvs : List (Key × D)} {vs : List (Key × V)} : RpK S H vs kvs → RpM S H (.dK kvs) (.dK vs)
  | dT {kvs : List (List Key × D)} {vs : List (List Key × V)} : RpK S H vs kvs → RpM S H (.dT kvs) (.dT vs)
  | fzK {o : Obj} {kvs : List (Key × D)} {vs : List (Key × V)} : RpK S H vs kvs → RpM S H (.fzK o vs kvs) (.frz o (.dK vs))
  | fzT {o : Obj} {kvs : List (List Key × D)} {vs : List (List Key × V)} : RpK S H vs kvs → RpM S H (.fzT o vs kvs) (.frz o (.dT vs))
theorem RpF.ext {S : Sg0} {H H' : Hp} (e : Ex H H') : ∀ {vs : List (Str × V)} {ds : List (Str × D)}, RpF S H vs ds → RpF S H' vs ds
  | _, _, .nil => .nil
  | _, _, .cons h t => .cons (h.ext e) (RpF.ext e t)
theorem RpK.ext {κ : Type} {S : Sg0} {H H' : Hp} (e : Ex H H') : ∀ {vs : List (κ × V)} {ds : List (κ × D)}, RpK S H vs ds → RpK S H' vs ds
  | _, _, .nil => .nil
  | _, _, .cons h t => .cons (h.ext e) (RpK.ext e t)
theorem RpM.ext {S : Sg0} {H H' : Hp} (e : Ex H H') {m : M} {o : HO} (r : RpM S H m o) : RpM S H' m o := by
  cases r with
  | lst h => exact .lst (h.ext e)
  | ins h => exact .ins (h.ext e)
  | dK h => exact .dK (h.ext e)
  | dT h => exact .dT (h.ext e)
  | fzK h => exact .fzK (h.ext e)
  | fzT h => exact .fzT (h.ext e)
theorem RpM.notup {S : Sg0} {H : Hp} {m : M} {o : HO} (r : RpM S H m o) : ∀ xs, o ≠ .tup xs := fun xs h => by
  cases r <;> cases h
/-- the state over the data: F is seen, N is hidden, μ is the memory -/
structure RelM0 (S : Sg0) (F N H : Hp) (μ : Mem) : Prop where
  hid : Ex N H
  dis : ∀ a ∈ adr μ, N a = none
  ext : Ex F (vis N H (adr μ))
  nd : (adr μ).Nodup
  mem : ∀ p ∈ μ, ∃ o, H p.1 = some o ∧ RpM S (vis N H (adr μ)) p.2 o
  tup : ∀ a xs, N a ≠ some (.tup xs)
abbrev RelO1 (S : Sg0) (Hv : Hp) (o : Option V) (g : Option D) : Prop := ∀ d, g = some d → ∃ v, o = some v ∧ Rp S Hv v d
abbrev RelS (S : Sg0) (Hv : Hp) (σ : L2.St) (Γ : Gm) : Prop := Paired (RelO1 S Hv) σ Γ
section
variable {S : Sg0} {F F' N H H' Hv Hv' : Hp} {μ μ' : Mem} {σ : L2.St} {Γ : Gm}
theorem RelS.ext (e : Ex Hv Hv') (r : RelS S Hv σ Γ) : RelS S Hv' σ Γ := Paired.mapP r fun a b h d hd => by
  obtain ⟨v, hv, r⟩ := h d hd
  exact ⟨v, hv, r.ext e⟩
theorem RelS.get {d : D} : ∀ {σ : L2.St} {Γ : Gm} {i : Nat}, RelS S Hv σ Γ → Γ[i]? = some (some d) → ∃ v, σ[i]? = some (some v) ∧ Rp S Hv v d
  | _, _, _, .nil, e => by simp at e
  | _, _, 0, .cons h _, e => by
    simp at e
    subst e
    obtain ⟨v, hv, r⟩ := h _ rfl
    exact ⟨v, by simp [hv], r⟩
  | _, _, i + 1, .cons _ t, e => by
    obtain ⟨v, hv, r⟩ := RelS.get (d := d) (i := i) t (by simpa using e)
    exact ⟨v, by simpa using hv, r⟩
theorem RelS.set {v : V} {d : D} (r : Rp S Hv v d) : ∀ {σ : L2.St} {Γ : Gm} (i : Nat), RelS S Hv σ Γ → RelS S Hv (σ.set i (some v)) (Γ.set i (some d))
  | _, _, _, .nil => .nil
  | _, _, 0, .cons _ t => .cons (fun d hd => ⟨v, rfl, by cases hd; exact r⟩) t
  | _, _, i + 1, .cons h t => .cons h (RelS.set r i t)
theorem RelM0.weakF (r : RelM0 S F N H μ) (e : Ex F' F) : RelM0 S F' N H μ := ⟨r.hid, r.dis, e.trans r.ext, r.nd, r.mem, r.tup⟩
theorem RelM0.top (r : RelM0 S F N H μ) : RelM0 S (vis N H (adr μ)) N H μ := ⟨r.hid, r.dis, Ex.refl _, r.nd, r.mem, r.tup⟩
theorem RelM0.le (r : RelM0 S F N H μ) : Ex F H := r.ext.trans vis_le
/-- nothing is hidden beside N when p's object is not -/
theorem RelM0.unhide {p : Addr} {o : HO} (r : RelM0 S F (upd N p o) H μ) (hN : N p = none) : RelM0 S F N H μ ∧ Ex (vis (upd N p o) H (adr μ)) (vis N H (adr μ)) ∧ vis N H (adr μ) p = some o := by
  have hp : H p = some o := r.hid p o upd_same
  have hpm : p ∉ adr μ := fun h => by
    have := r.dis p h
    rw [upd_same] at this
    cases this
  have e : Ex (vis (upd N p o) H (adr μ)) (vis N H (adr μ)) := fun b u h => by
    obtain ⟨h1, h2, h3⟩ := vis_in h
    refine vis_mk h3 ?_ h2
    by_cases hb : b = p
    · rw [hb]
      exact hN
    · rwa [upd_ne hb] at h1
  refine ⟨⟨fun b u h => r.hid b u (by rw [upd_ne (ne_of_none h hN)]; exact h), fun b hb => ?_, r.ext.trans e, r.nd, fun q hq => ?_, fun b xs h => r.tup b xs (by rw [upd_ne (ne_of_none h hN)]; exact h)⟩, e, vis_mk hp hN hpm⟩
  · have := r.dis b hb
    rwa [upd_ne (fun (z : b = p) => hpm (z ▸ hb))] at this
  · obtain ⟨u, h1, h2⟩ := r.mem q hq
    exact ⟨u, h1, h2.ext e⟩
end
/-! ### what an exception is to leave -/
abbrev QE := Nat → List D → Mem → Prop
/-- an exception of the own class c with its fields, over the data -/
def XEnd (S : Sg0) (F N : Hp) (qx : QE) : XK := fun cls d H => ∃ c dd vs ds μ, cls = .ref (S.cls c) ∧ d = some dd ∧ H dd = some (.xd ((S.nms c).zip vs)) ∧ vs.length = (S.nms c).length ∧ RpA S (vis N H (adr μ)) vs ds ∧ RelM0 S F N H μ ∧ N dd = none ∧ dd ∉ adr μ ∧ qx c ds μ
structure Sg extends Sg0 where
  qx : QE
  wx : XK
instance : CoeOut Sg Sg0 := ⟨Sg.toSg0⟩
/-- nothing is let out -/
abbrev Sg0.nx (S : Sg0) : Sg := { toSg0 := S, qx := fun _ _ _ => False, wx := fun _ _ _ => False }
def Sg.iv (S : Sg) (F N : Hp) : Prop := ∀ cls d H, XEnd S F N S.qx cls d H → S.wx cls d H
theorem nx_iv {S : Sg0} {F N : Hp} : S.nx.iv F N := fun _ _ _ ⟨_, _, _, _, _, _, _, _, _, _, _, _, _, q⟩ => q
structure RelM (S : Sg) (F N H : Hp) (μ : Mem) : Prop extends RelM0 S.toSg0 F N H μ where
  iv : S.iv F N
instance {S : Sg} {F N H : Hp} {μ : Mem} : CoeOut (RelM S F N H μ) (RelM0 S.toSg0 F N H μ) := ⟨RelM.toRelM0⟩
section
variable {S : Sg} {F F' N H H' Hv Hv' : Hp} {μ μ' : Mem} {σ : L2.St} {Γ : Gm}
theorem iv_ext (i : S.iv F N) (e : Ex F F') : S.iv F' N := fun cls d H ⟨c, dd, vs, ds, μ, h1, h2, h3, hl, h4, r, h5⟩ => i cls d H ⟨c, dd, vs, ds, μ, h1, h2, h3, hl, h4, r.weakF e, h5⟩
theorem iv_hid {p : Addr} {o : HO} (i : S.iv F N) (hN : N p = none) : S.iv F (upd N p o) := fun cls d H ⟨c, dd, vs, ds, μ, h1, h2, h3, hl, h4, r, h5, h6, h7⟩ => by
  obtain ⟨u1, u2, _⟩ := r.unhide hN
  refine i cls d H ⟨c, dd, vs, ds, μ, h1, h2, h3, hl, h4.ext u2, u1, ?_, h6, h7⟩
  by_cases hb : dd = p
  · rw [hb]
    exact hN
  · rwa [upd_ne hb] at h5
theorem RelM.weakF (r : RelM S F N H μ) (e : Ex F' F) (i : S.iv F' N := by exact RelM.iv (by assumption)) : RelM S F' N H μ := ⟨r.toRelM0.weakF e, i⟩
theorem RelM.top (r : RelM S F N H μ) : RelM S (vis N H (adr μ)) N H μ := ⟨r.toRelM0.top, iv_ext r.iv r.ext⟩
theorem RelM.le (r : RelM S F N H μ) : Ex F H := r.ext.trans vis_le
end
/-! ### what evaluates -/
/-- the weakest precondition of an expression over the abstract state -/
def EXt (X : Cx) (e : Expr) : TE := fun σ H Q => ∀ (pins : List (Addr × Obj)) (s : Shared), Inv X pins σ H s → wpAny (model X.prog X.w) X.A (eval e X.env) (EP X pins σ Q) X.xe s
theorem pe_ex {X : Cx} {e : Expr} : PE X e (EXt X e) := ⟨fun pins s _ _ _ I h => h pins s I⟩
theorem ex_of {X : Cx} {e : Expr} {t : TE} {σ : L2.St} {H : Hp} {Q : VK} (p : PE X e t) (h : t σ H Q) : EXt X e σ H Q := fun pins s I => p.run pins s σ H Q I h
theorem EXt.mono {X : Cx} {e : Expr} {σ : L2.St} {H : Hp} {Q Q' : VK} (h : EXt X e σ H Q) (m : ∀ v H', Q v H' → Q' v H') : EXt X e σ H Q' := fun pins s I =>
  thn (h pins s I) fun _ _ ⟨v, H', I', r, q⟩ => ⟨v, H', I', r, m v H' q⟩
/-- .. of a test -/
def TXt (X : Cx) (e : Expr) : TT := fun σ H Q => ∀ (pins : List (Addr × Obj)) (s : Shared), Inv X pins σ H s → wpAny (model X.prog X.w) X.A (isTrue e X.env (eval e X.env)) (TP X pins σ Q) X.xe s
theorem pt_ex {X : Cx} {e : Expr} : PT X e (TXt X e) := ⟨fun pins s _ _ _ I h => h pins s I⟩
theorem tx_of {X : Cx} {e : Expr} {t : TT} {σ : L2.St} {H : Hp} {Q : Bool → Hp → Prop} (p : PT X e t) (h : t σ H Q) : TXt X e σ H Q := fun pins s I => p.run pins s σ H Q I h
theorem TXt.mono {X : Cx} {e : Expr} {σ : L2.St} {H : Hp} {Q Q' : Bool → Hp → Prop} (h : TXt X e σ H Q) (m : ∀ v H', Q v H' → Q' v H') : TXt X e σ H Q' := fun pins s I =>
  thn (h pins s I) fun _ _ ⟨H', I', q⟩ => ⟨H', I', m _ H' q⟩
/-- a test whatever its whole is -/
def WXt (X : Cx) (e : Expr) : TT := fun σ H Q => ∀ (wh : Sem Value) (pins : List (Addr × Obj)) (s : Shared), Inv X pins σ H s → wpAny (model X.prog X.w) X.A (isTrue e X.env wh) (TP X pins σ Q) X.xe s
theorem pw_ex {X : Cx} {e : Expr} : PW X e (WXt X e) := ⟨fun wh pins s _ _ _ I h => h wh pins s I⟩
theorem wx_of {X : Cx} {e : Expr} {t : TT} {σ : L2.St} {H : Hp} {Q : Bool → Hp → Prop} (p : PW X e t) (h : t σ H Q) : WXt X e σ H Q := fun wh pins s I => p.run wh pins s σ H Q I h
/-- .. of an argument list -/
def AXt (X : Cx) (es : List Expr) : TA := fun σ H Q => ∀ (pos : Pos) (pins : List (Addr × Obj)) (s : Shared), Inv X pins σ H s → wpAny (model X.prog X.w) X.A (spliced (backTo pos (starEach es X.env))) (AP X pins σ Q) X.xe s
theorem pa_ex {X : Cx} {es : List Expr} : PA X es (AXt X es) := ⟨fun pos pins s _ _ _ I h => h pos pins s I⟩
theorem ax_of {X : Cx} {es : List Expr} {t : TA} {σ : L2.St} {H : Hp} {Q : List V → Hp → Prop} (p : PA X es t) (h : t σ H Q) : AXt X es σ H Q := fun pos pins s I => p.run pos pins s σ H Q I h
theorem AXt.mono {X : Cx} {es : List Expr} {σ : L2.St} {H : Hp} {Q Q' : List V → Hp → Prop} (h : AXt X es σ H Q) (m : ∀ v H', Q v H' → Q' v H') : AXt X es σ H Q' := fun pos pins s I =>
  thn (h pos pins s I) fun _ _ ⟨v, H', I', r, q⟩ => ⟨v, H', I', r, m v H' q⟩
/-- .. of a statement, a block -/
def SXt (X : Cx) (st : Stmt) : TS := fun D σ H => ∀ (pins : List (Addr × Obj)) (s : Shared), Inv X pins σ H s → wpAny (model X.prog X.w) X.A (exec st X.env) (SP X pins D) X.xe s
theorem ps_ex {X : Cx} {st : Stmt} : PS X st (SXt X st) := ⟨fun pins s _ _ _ I h => h pins s I⟩
theorem sx_of {X : Cx} {st : Stmt} {t : TS} {D : Ends} {σ : L2.St} {H : Hp} (p : PS X st t) (h : t D σ H) : SXt X st D σ H := fun pins s I => p.run pins s σ H D I h
def BXt (X : Cx) (st : List Stmt) : TS := fun D σ H => ∀ (pins : List (Addr × Obj)) (s : Shared), Inv X pins σ H s → wpAny (model X.prog X.w) X.A (execs st X.env) (SP X pins D) X.xe s
theorem pss_ex {X : Cx} {st : List Stmt} : PSs X st (BXt X st) := ⟨fun pins s _ _ _ I h => h pins s I⟩
theorem bx_of {X : Cx} {st : List Stmt} {t : TS} {D : Ends} {σ : L2.St} {H : Hp} (p : PSs X st t) (h : t D σ H) : BXt X st D σ H := fun pins s I => p.run pins s σ H D I h
abbrev QD := D → Mem → Prop
/-- the end of an expression, over the data -/
abbrev EndE (S : Sg) (F N : Hp) (Q : QD) : VK := fun v H' => ∃ d μ', RelM S F N H' μ' ∧ Rp S (vis N H' (adr μ')) v d ∧ Q d μ'
abbrev EndT (S : Sg) (F N : Hp) (Q : Bool → Mem → Prop) : Bool → Hp → Prop := fun b H' => ∃ μ', RelM S F N H' μ' ∧ Q b μ'
abbrev EndA (S : Sg) (F N : Hp) (Q : List D → Mem → Prop) : List V → Hp → Prop := fun vs H' => ∃ ds μ', RelM S F N H' μ' ∧ RpA S (vis N H' (adr μ')) vs ds ∧ Q ds μ'
/-- e evaluates, from the data Γ and the memory μ, to a datum and a memory of which Q holds -/
def EvG (X : Cx) (S : Sg) (e : Expr) (Γ : Gm) (μ : Mem) (Q : QD) : Prop :=
  ∀ F N σ H, RelM S F N H μ → RelS S (vis N H (adr μ)) σ Γ → EXt X e σ H (EndE S F N Q)
def EvT (X : Cx) (S : Sg) (e : Expr) (Γ : Gm) (μ : Mem) (Q : Bool → Mem → Prop) : Prop :=
  ∀ F N σ H, RelM S F N H μ → RelS S (vis N H (adr μ)) σ Γ → TXt X e σ H (EndT S F N Q)
def EvW (X : Cx) (S : Sg) (e : Expr) (Γ : Gm) (μ : Mem) (Q : Bool → Mem → Prop) : Prop :=
  ∀ F N σ H, RelM S F N H μ → RelS S (vis N H (adr μ)) σ Γ → WXt X e σ H (EndT S F N Q)
def EvA (X : Cx) (S : Sg) (es : List Expr) (Γ : Gm) (μ : Mem) (Q : List D → Mem → Prop) : Prop :=
  ∀ F N σ H, RelM S F N H μ → RelS S (vis N H (adr μ)) σ Γ → AXt X es σ H (EndA S F N Q)
structure EG where
  nx : Gm → Mem → Prop
  rt : QD
  bk : Gm → Mem → Prop := fun _ _ => False
  ct : Gm → Mem → Prop := fun _ _ => False
abbrev EndS (S : Sg) (F N : Hp) (P : Gm → Mem → Prop) : L2.St → Hp → Prop := fun σ' H' => ∃ Γ' μ', RelM S F N H' μ' ∧ RelS S (vis N H' (adr μ')) σ' Γ' ∧ P Γ' μ'
abbrev EG.ends (S : Sg) (F N : Hp) (E : EG) : Ends := ⟨EndS S F N E.nx, EndE S F N E.rt, EndS S F N E.bk, EndS S F N E.ct⟩
def StG (X : Cx) (S : Sg) (st : Stmt) (Γ : Gm) (μ : Mem) (E : EG) : Prop :=
  ∀ F N σ H, RelM S F N H μ → RelS S (vis N H (adr μ)) σ Γ → SXt X st (E.ends S F N) σ H
def BlG (X : Cx) (S : Sg) (st : List Stmt) (Γ : Gm) (μ : Mem) (E : EG) : Prop :=
  ∀ F N σ H, RelM S F N H μ → RelS S (vis N H (adr μ)) σ Γ → BXt X st (E.ends S F N) σ H
section
variable {X : Cx} {S : Sg} {e : Expr} {es : List Expr} {st : Stmt} {sts : List Stmt} {Γ : Gm} {μ : Mem} {F N H : Hp} {σ : L2.St}
/-- used: the slots are seen behind it, all that was seen is seen -/
theorem EvG.use {Q : QD} {P : VK} (h : EvG X S e Γ μ Q) (r : RelM S F N H μ) (rs : RelS S (vis N H (adr μ)) σ Γ)
    (k : ∀ v H' d μ', RelM S (vis N H (adr μ)) N H' μ' → RelS S (vis N H' (adr μ')) σ Γ → Rp S (vis N H' (adr μ')) v d → Q d μ' → P v H') : EXt X e σ H P :=
  (h (vis N H (adr μ)) N σ H r.top rs).mono fun v H' ⟨d, μ', r', rd, q⟩ => k v H' d μ' r' (rs.ext r'.ext) rd q
theorem EvT.use {Q : Bool → Mem → Prop} {P : Bool → Hp → Prop} (h : EvT X S e Γ μ Q) (r : RelM S F N H μ) (rs : RelS S (vis N H (adr μ)) σ Γ)
    (k : ∀ b H' μ', RelM S (vis N H (adr μ)) N H' μ' → RelS S (vis N H' (adr μ')) σ Γ → Q b μ' → P b H') : TXt X e σ H P :=
  (h (vis N H (adr μ)) N σ H r.top rs).mono fun v H' ⟨μ', r', q⟩ => k v H' μ' r' (rs.ext r'.ext) q
theorem EvA.use {Q : List D → Mem → Prop} {P : List V → Hp → Prop} (h : EvA X S es Γ μ Q) (r : RelM S F N H μ) (rs : RelS S (vis N H (adr μ)) σ Γ)
    (k : ∀ vs H' ds μ', RelM S (vis N H (adr μ)) N H' μ' → RelS S (vis N H' (adr μ')) σ Γ → RpA S (vis N H' (adr μ')) vs ds → Q ds μ' → P vs H') : AXt X es σ H P :=
  (h (vis N H (adr μ)) N σ H r.top rs).mono fun v H' ⟨d, μ', r', rd, q⟩ => k v H' d μ' r' (rs.ext r'.ext) rd q
theorem EvG.mono {Q Q' : QD} (h : EvG X S e Γ μ Q) (m : ∀ d μ', Q d μ' → Q' d μ') : EvG X S e Γ μ Q' := fun F N σ H r rs =>
  (h F N σ H r rs).mono fun _ _ ⟨d, μ', r', rd, q⟩ => ⟨d, μ', r', rd, m d μ' q⟩
end
end GL
namespace GL
open PySem L2 PySem.Spec PyProof.Rows
/-! ### heaps that grow and change -/
section
variable {S : Sg0} {F N H H' : Hp} {μ : Mem} {p a : Addr} {o : HO}
theorem adr_some (r : RelM0 S F N H μ) (h : a ∈ adr μ) : ∃ o, H a = some o := by
  obtain ⟨q, hq, rfl⟩ := List.mem_map.mp h
  obtain ⟨o, e, _⟩ := r.mem q hq
  exact ⟨o, e⟩
theorem adr_new (r : RelM0 S F N H μ) (hp : H p = none) : p ∉ adr μ := fun h => by
  obtain ⟨o, e⟩ := adr_some r h
  rw [hp] at e
  cases e
theorem hid_new (r : RelM0 S F N H μ) (hp : H p = none) : N p = none := by
  cases q : N p with
  | none => rfl
  | some o =>
    have := r.hid p o q
    rw [hp] at this
    cases this
theorem vis_new (r : RelM0 S F N H μ) (hp : H p = none) : Ex (vis N H (adr μ)) (vis N (upd H p o) (adr μ)) := fun b u e => by
  obtain ⟨h1, h2, h3⟩ := vis_in e
  exact vis_mk (by rw [upd_ne (ne_of_none h3 hp)]; exact h3) h1 h2
/-- a new object that never changes -/
theorem RelM0.alloc (r : RelM0 S F N H μ) (hp : H p = none) : RelM0 S F N (upd H p o) μ where
  hid := fun b u e => by
    have e' := r.hid b u e
    rw [upd_ne (ne_of_none e' hp)]
    exact e'
  dis := r.dis
  tup := r.tup
  ext := r.ext.trans (vis_new r hp)
  nd := r.nd
  mem := fun q hq => by
    obtain ⟨u, e, m⟩ := r.mem q hq
    exact ⟨u, by rw [upd_ne (ne_of_none e hp)]; exact e, m.ext (vis_new r hp)⟩
theorem alloc_at (r : RelM0 S F N H μ) (hp : H p = none) : vis N (upd H p o) (adr μ) p = some o := vis_mk upd_same (hid_new r hp) (adr_new r hp)
theorem vis_same {m : M} (r : RelM0 S F N H μ) (hp : H p = none) : Ex (vis N H (adr μ)) (vis N (upd H p o) (adr ((p, m) :: μ))) := fun b u e => by
  obtain ⟨h1, h2, h3⟩ := vis_in e
  have ne : b ≠ p := ne_of_none h3 hp
  exact vis_mk (by rw [upd_ne ne]; exact h3) h1 (by
    show b ∉ p :: adr μ
    simp only [List.mem_cons, not_or]
    exact ⟨ne, h2⟩)
/-- a new object of the memory -/
theorem RelM0.allocM {m : M} (r : RelM0 S F N H μ) (hp : H p = none) (hm : RpM S (vis N H (adr μ)) m o) : RelM0 S F N (upd H p o) ((p, m) :: μ) where
  hid := fun b u e => by
    have e' := r.hid b u e
    rw [upd_ne (ne_of_none e' hp)]
    exact e'
  dis := fun b hb => by
    rcases List.mem_cons.mp hb with rfl | hb
    · exact hid_new r hp
    · exact r.dis b hb
  ext := r.ext.trans (vis_same r hp)
  tup := r.tup
  nd := List.nodup_cons.mpr ⟨adr_new r hp, r.nd⟩
  mem := fun q hq => by
    rcases List.mem_cons.mp hq with rfl | hq
    · exact ⟨o, upd_same, hm.ext (vis_same r hp)⟩
    · obtain ⟨u, e, m⟩ := r.mem q hq
      exact ⟨u, by rw [upd_ne (ne_of_none e hp)]; exact e, m.ext (vis_same r hp)⟩
end
/-- the entry at a is another one -/
inductive Upd (a : Addr) (m m' : M) : Mem → Mem → Prop
  | here {r : Mem} : Upd a m m' ((a, m) :: r) ((a, m') :: r)
  | there {p : Addr × M} {r r' : Mem} : Upd a m m' r r' → Upd a m m' (p :: r) (p :: r')
theorem Upd.adr {a : Addr} {m m' : M} {μ μ' : Mem} (u : Upd a m m' μ μ') : adr μ' = adr μ := by
  induction u with
  | here => rfl
  | there _ ih => exact congrArg (_ :: ·) ih
theorem Upd.mem {a : Addr} {m m' : M} {μ μ' : Mem} (u : Upd a m m' μ μ') : (a, m) ∈ μ := by
  induction u with
  | here => exact .head _
  | there _ ih => exact .tail _ ih
theorem Upd.out {a : Addr} {m m' : M} {μ μ' : Mem} (u : Upd a m m' μ μ') : ∀ q ∈ μ', q = (a, m') ∨ (q ∈ μ) := by
  induction u with
  | here => intro q hq; rcases List.mem_cons.mp hq with h | h; exact .inl h; exact .inr (.tail _ h)
  | there _ ih => intro q hq; rcases List.mem_cons.mp hq with h | h; exact .inr (h ▸ .head _); exact (ih q h).imp id (.tail _)
theorem Upd.out' {a : Addr} {m m' : M} {μ μ' : Mem} (u : Upd a m m' μ μ') (nd : (GL.adr μ).Nodup) : ∀ q ∈ μ', q = (a, m') ∨ (q ∈ μ ∧ q.1 ≠ a) := by
  induction u with
  | @here r =>
    intro q hq
    rcases List.mem_cons.mp hq with h | h
    · exact .inl h
    · refine .inr ⟨.tail _ h, fun e => ?_⟩
      have h1 : a ∉ GL.adr r := (List.nodup_cons.mp nd).1
      exact h1 (e ▸ List.mem_map_of_mem h)
  | @there p r r' u ih =>
    intro q hq
    rcases List.mem_cons.mp hq with h | h
    · refine .inr ⟨h ▸ .head _, fun e => ?_⟩
      have h1 : p.1 ∉ GL.adr r := (List.nodup_cons.mp nd).1
      rw [h] at e
      rw [e] at h1
      exact h1 (List.mem_map_of_mem u.mem)
    · rcases ih (List.nodup_cons.mp nd).2 q h with z | ⟨z, y⟩
      · exact .inl z
      · exact .inr ⟨.tail _ z, y⟩
section
variable {S : Sg0} {F N H H' : Hp} {μ μ' : Mem} {p a : Addr} {o : HO} {m m' : M}
theorem RelM0.find (r : RelM0 S F N H μ) (h : (a, m) ∈ μ) : ∃ o, H a = some o ∧ RpM S (vis N H (adr μ)) m o := r.mem (a, m) h
theorem vis_upd (h : a ∈ adr μ) : vis N (upd H a o) (adr μ) = vis N H (adr μ) := by
  funext b
  unfold vis
  by_cases hb : b = a
  · subst hb
    rw [if_pos (.inr h), if_pos (.inr h)]
  · rw [upd_ne hb]
/-- an object of the memory is changed -/
theorem RelM0.put (r : RelM0 S F N H μ) (u : Upd a m m' μ μ') (hm : RpM S (vis N H (adr μ)) m' o) : RelM0 S F N (L2.upd H a o) μ' := by
  have ha : a ∈ adr μ := List.mem_map_of_mem u.mem
  have hN : N a = none := r.dis a ha
  refine ⟨fun b v e => ?_, by rw [u.adr]; exact r.dis, by rw [u.adr, vis_upd ha]; exact r.ext, by rw [u.adr]; exact r.nd, fun q hq => ?_, r.tup⟩
  · by_cases hb : b = a
    · subst hb
      rw [hN] at e
      cases e
    · rw [upd_ne hb]
      exact r.hid b v e
  · rw [u.adr, vis_upd ha]
    rcases u.out' r.nd q hq with rfl | ⟨hq, hne⟩
    · exact ⟨o, upd_same, hm⟩
    · obtain ⟨v, e, hv⟩ := r.mem q hq
      exact ⟨v, by rw [upd_ne hne]; exact e, hv⟩
end
/-- the entry at a is left out -/
inductive Del (a : Addr) (m : M) : Mem → Mem → Prop
  | here {r : Mem} : Del a m ((a, m) :: r) r
  | there {p : Addr × M} {r r' : Mem} : Del a m r r' → Del a m (p :: r) (p :: r')
theorem Del.mem {a : Addr} {m : M} {μ μ' : Mem} (u : Del a m μ μ') : (a, m) ∈ μ := by
  induction u with
  | here => exact .head _
  | there _ ih => exact .tail _ ih
theorem Del.sub {a : Addr} {m : M} {μ μ' : Mem} (u : Del a m μ μ') : ∀ q ∈ μ', q ∈ μ := by
  induction u with
  | here => exact fun q h => .tail _ h
  | there _ ih => intro q hq; rcases List.mem_cons.mp hq with h | h; exact h ▸ .head _; exact .tail _ (ih q h)
theorem Del.adrs {a : Addr} {m : M} {μ μ' : Mem} (u : Del a m μ μ') (nd : (adr μ).Nodup) : (adr μ').Nodup ∧ ∀ b, b ∈ adr μ' ↔ (b ∈ adr μ ∧ b ≠ a) := by
  induction u with
  | @here r =>
    refine ⟨(List.nodup_cons.mp nd).2, fun b => ⟨fun h => ⟨.tail _ h, fun e => (List.nodup_cons.mp nd).1 (e ▸ h)⟩, fun h => ?_⟩⟩
    rcases List.mem_cons.mp h.1 with e | h'
    · exact absurd e h.2
    · exact h'
  | @there p r r' u ih =>
    obtain ⟨i1, i2⟩ := ih (List.nodup_cons.mp nd).2
    have hp := (List.nodup_cons.mp nd).1
    have hpa : p.1 ≠ a := fun e => hp (by
      have z : a ∈ adr r := List.mem_map_of_mem u.mem
      rw [← e] at z
      exact z)
    refine ⟨List.nodup_cons.mpr ⟨fun h => hp ((i2 _).mp h).1, i1⟩, fun b => ⟨fun h => ?_, fun h => ?_⟩⟩
    · rcases List.mem_cons.mp h with e | h'
      · exact ⟨e ▸ .head _, e ▸ hpa⟩
      · exact ⟨.tail _ ((i2 b).mp h').1, ((i2 b).mp h').2⟩
    · rcases List.mem_cons.mp h.1 with e | h'
      · exact e ▸ .head _
      · exact .tail _ ((i2 b).mpr ⟨h', h.2⟩)
section
variable {S : Sg0} {F N H H' : Hp} {μ μ' : Mem} {p a : Addr} {o : HO} {m m' : M}
theorem vis_del (r : RelM0 S F N H μ) (u : Del a m μ μ') : Ex (vis N H (adr μ)) (vis N H (adr μ')) := fun b v e => by
  obtain ⟨h1, h2, h3⟩ := vis_in e
  exact vis_mk h3 h1 fun z => h2 (((u.adrs r.nd).2 b).mp z).1
/-- an object changes no more -/
theorem RelM0.del (r : RelM0 S F N H μ) (u : Del a m μ μ') : RelM0 S F N H μ' :=
  ⟨r.hid, fun b hb => r.dis b (((u.adrs r.nd).2 b).mp hb).1, r.ext.trans (vis_del r u), (u.adrs r.nd).1, fun q hq => by
    obtain ⟨v, e, hv⟩ := r.mem q (u.sub q hq)
    exact ⟨v, e, hv.ext (vis_del r u)⟩, r.tup⟩
/-- what a left out list is -/
theorem RelM0.froz {ds : List D} (r : RelM0 S F N H μ) (u : Del a (.lst ds) μ μ') : Rp S (vis N H (adr μ')) (.ref a) (.lst ds) := by
  obtain ⟨o, e, hm⟩ := r.find u.mem
  cases hm with
  | lst h =>
    refine .lst (vis_mk e (r.dis a (List.mem_map_of_mem u.mem)) fun z => (((u.adrs r.nd).2 a).mp z).2 rfl) (h.ext (vis_del r u))
theorem RpF.zip {Hv : Hp} : ∀ {ns : List Str} {ds : List D} {vs : List (Str × V)}, ns.length = ds.length → RpF S Hv vs (ns.zip ds) → ∃ ws, vs = ns.zip ws ∧ ws.length = ns.length ∧ RpA S Hv ws ds
  | [], [], _, _, h => by
    cases h
    exact ⟨[], rfl, rfl, .nil⟩
  | [], _ :: _, _, e, _ => by simp at e
  | _ :: _, [], _, e, _ => by simp at e
  | n :: ns, d :: ds, _, e, h => by
    cases h with
    | cons h t =>
      obtain ⟨ws, e1, e2, e3⟩ := RpF.zip (ns := ns) (ds := ds) (by simpa using e) t
      exact ⟨_ :: ws, by rw [e1]; rfl, by simp [e2], .cons h e3⟩
/-- what a left out instance is -/
theorem RelM0.frozI {c : Nat} {ds : List D} (r : RelM0 S F N H μ) (u : Del a (.ins (S.cls c) ((S.nms c).zip ds)) μ μ') (hl : (S.nms c).length = ds.length) : Rp S (vis N H (adr μ')) (.ref a) (.obj c ds) := by
  obtain ⟨o, e, hm⟩ := r.find u.mem
  cases hm with
  | ins h =>
    obtain ⟨ws, e1, e2, e3⟩ := h.zip hl
    subst e1
    exact .obj (vis_mk e (r.dis a (List.mem_map_of_mem u.mem)) fun z => (((u.adrs r.nd).2 a).mp z).2 rfl) e2 (e3.ext (vis_del r u))
end
section
variable {S : Sg} {F N H H' : Hp} {μ μ' : Mem} {p a : Addr} {o : HO} {m m' : M}
theorem RelM.alloc (r : RelM S F N H μ) (hp : H p = none) : RelM S F N (upd H p o) μ := ⟨r.toRelM0.alloc hp, r.iv⟩
theorem RelM.allocM (r : RelM S F N H μ) (hp : H p = none) (hm : RpM S (vis N H (adr μ)) m o) : RelM S F N (upd H p o) ((p, m) :: μ) := ⟨r.toRelM0.allocM hp hm, r.iv⟩
theorem RelM.put (r : RelM S F N H μ) (u : Upd a m m' μ μ') (hm : RpM S (vis N H (adr μ)) m' o) : RelM S F N (L2.upd H a o) μ' := ⟨r.toRelM0.put u hm, r.iv⟩
theorem RelM.del (r : RelM S F N H μ) (u : Del a m μ μ') : RelM S F N H μ' := ⟨r.toRelM0.del u, r.iv⟩
end
/-! ### what is meant by a datum: itself, or the list that stands in the memory there -/
inductive Drf (μ : Mem) : D → List D → Prop
  | val (l : List D) : Drf μ (.lst l) l
  | ref {a : Addr} {l : List D} : (a, M.lst l) ∈ μ → Drf μ (.ref a) l
inductive DrfT (μ : Mem) : D → List D → Prop
  | l {d : D} {ds : List D} : Drf μ d ds → DrfT μ d ds
  | t (l : List D) : DrfT μ (.tup l) l
theorem Drf.at {S : Sg0} {F N H : Hp} {μ : Mem} {d : D} {l : List D} {x : V} (h : Drf μ d l) (r : RelM0 S F N H μ) (rx : Rp S (vis N H (adr μ)) x d) : ∃ a xs, x = .ref a ∧ H a = some (.lst xs) ∧ RpA S (vis N H (adr μ)) xs l := by
  cases h with
  | val l =>
    cases rx with
    | lst h hs => exact ⟨_, _, rfl, vis_le _ _ h, hs⟩
  | ref hm =>
    cases rx
    obtain ⟨o, e, hm⟩ := r.find hm
    cases hm with
    | lst h => exact ⟨_, _, rfl, e, h⟩
/-! ### pure data, as the library's -/
mutual
def D.py : D → PyData
  | .non => .none
  | .bl b => .bool b
  | .int i => .int i
  | .str x => .str x
  | .lst l => .list (D.pyA l)
  | .tup l => .tuple (D.pyA l)
  | _ => .none
def D.pyA : List D → List PyData
  | [] => []
  | d :: l => D.py d :: D.pyA l
end
mutual
/-- pure, not deeper than n, the texts of real signs -/
def D.ok : Nat → D → Bool
  | _, .non => true
  | _, .bl _ => true
  | _, .int _ => true
  | _, .str x => PyData.strOk x
  | n + 1, .lst l => D.okA n l
  | n + 1, .tup l => D.okA n l
  | _, _ => false
def D.okA : Nat → List D → Bool
  | _, [] => true
  | n, d :: l => D.ok n d && D.okA n l
end
theorem D.okA_all : ∀ {n : Nat} {l : List D}, D.okA n l = true ↔ ∀ d ∈ l, D.ok n d = true
  | n, [] => by simp [D.okA]
  | n, d :: l => by simp [D.okA, D.okA_all (l := l)]
theorem D.pyA_map : ∀ l : List D, D.pyA l = l.map D.py
  | [] => by simp [D.pyA]
  | d :: l => by simp [D.pyA, D.pyA_map l]
mutual
theorem D.ok_lay : ∀ {n : Nat} {d : D}, D.ok n d = true → (D.py d).canLay0 = true ∧ (D.py d).depth ≤ n
  | n, .non, _ => by cases n <;> simp [D.py, PyData.canLay0, PyData.depth]
  | n, .bl b, _ => by cases n <;> simp [D.py, PyData.canLay0, PyData.depth]
  | n, .int i, _ => by cases n <;> simp [D.py, PyData.canLay0, PyData.depth]
  | n, .str x, h => by
    cases n <;> simp [D.ok] at h <;> simp [D.py, PyData.canLay0, PyData.depth, h]
  | 0, .lst l, h => by simp [D.ok] at h
  | n + 1, .lst l, h => by
    have := D.okA_lay (n := n) (l := l) (by simpa [D.ok] using h)
    refine ⟨by simp [D.py, PyData.canLay0, this.1], ?_⟩
    simp only [D.py, PyData.depth]
    have := this.2
    omega
  | 0, .tup l, h => by simp [D.ok] at h
  | n + 1, .tup l, h => by
    have := D.okA_lay (n := n) (l := l) (by simpa [D.ok] using h)
    refine ⟨by simp [D.py, PyData.canLay0, this.1], ?_⟩
    simp only [D.py, PyData.depth]
    have := this.2
    omega
  | n, .obj c l, h => by cases n <;> simp [D.ok] at h
  | n, .ref a, h => by cases n <;> simp [D.ok] at h
  | n, .scr a, h => by cases n <;> simp [D.ok] at h
  | n, .ty a, h => by cases n <;> simp [D.ok] at h
theorem D.okA_lay : ∀ {n : Nat} {l : List D}, D.okA n l = true → PyData.canLayAll0 (D.pyA l) = true ∧ PyData.depthAll (D.pyA l) ≤ n
  | n, [], _ => by simp [D.pyA, PyData.canLayAll0, PyData.depthAll]
  | n, d :: l, h => by
    have h' : D.ok n d = true ∧ D.okA n l = true := by simpa [D.okA] using h
    have h1 := D.ok_lay h'.1
    have h2 := D.okA_lay h'.2
    refine ⟨by simp [D.pyA, PyData.canLayAll0, h1.1, h2.1], ?_⟩
    simp only [D.pyA, PyData.depthAll]
    have := h1.2
    have := h2.2
    omega
end
theorem D.shaped {n : Nat} {d : D} (h : D.ok n d = true) (hn : n ≤ 60) : SeqAt.shaped (D.py d) = true := by
  have := D.ok_lay h
  show ((D.py d).canLay0 && decide ((D.py d).depth ≤ 64)) = true
  rw [this.1, Bool.true_and]
  exact decide_eq_true (by have := this.2; omega)
mutual
theorem Rp.dp {S : Sg0} {H : Hp} : ∀ {n : Nat} {d : D} {v : V}, D.ok n d = true → Rp S H v d → Dp S.K H v (D.py d)
  | _, .non, _, _, h => by cases h; simp only [D.py]; exact .non
  | _, .bl b, _, _, h => by cases h; simp only [D.py]; exact .bl b
  | _, .int i, _, _, h => by cases h; simp only [D.py]; exact .int i
  | _, .str x, _, _, h => by cases h; simp only [D.py]; exact .str x
  | 0, .lst l, _, e, h => by simp [D.ok] at e
  | n + 1, .lst l, _, e, h => by
    cases h with
    | lst h hs => simp only [D.py]; exact .lst (SqL.of h) (RpA.dp (n := n) (by simpa [D.ok] using e) hs)
  | 0, .tup l, _, e, h => by simp [D.ok] at e
  | n + 1, .tup l, _, e, h => by
    cases h with
    | tup h hs => simp only [D.py]; exact .tup h (RpA.dp (n := n) (by simpa [D.ok] using e) hs)
  | n, .obj c l, _, e, h => by cases n <;> simp [D.ok] at e
  | n, .ref a, _, e, h => by cases n <;> simp [D.ok] at e
  | n, .scr a, _, e, h => by cases n <;> simp [D.ok] at e
  | n, .ty a, _, e, h => by cases n <;> simp [D.ok] at e
theorem RpA.dp {S : Sg0} {H : Hp} : ∀ {n : Nat} {ds : List D} {vs : List V}, D.okA n ds = true → RpA S H vs ds → DpAll S.K H vs (D.pyA ds)
  | _, [], _, _, h => by cases h; simp only [D.pyA]; exact .nil
  | n, d :: ds, _, e, h => by
    have e' : D.ok n d = true ∧ D.okA n ds = true := by simpa [D.okA] using e
    cases h with
    | cons h t => simp only [D.pyA]; exact .cons (Rp.dp e'.1 h) (RpA.dp e'.2 t)
end
/-- == of data -/
def D.eqv (d e : D) : Bool := PyData.eqv (D.py d) (D.py e)
end GL
namespace GL
open PySem L2 PySem.Spec PyProof.Rows
/-! ### operations by values -/
def OPt (X : Cx) (f : Value → Value → Sem Value) : R2 := fun x y H Q => ∀ (pins : List (Addr × Obj)) (s : Shared) (σ : L2.St) (v u : Value), Inv X pins σ H s → RelV x v → RelV y u → wpAny (model X.prog X.w) X.A (f v u) (EP X pins σ Q) X.xe s
theorem opr_self {X : Cx} {f : Value → Value → Sem Value} : OpR X f (OPt X f) := fun pins s σ _ _ _ v u _ I rx ry h => h pins s σ v u I rx ry
theorem op_of {X : Cx} {f : Value → Value → Sem Value} {r : R2} {x y : V} {H : Hp} {Q : VK} (h : OpR X f r) (q : r x y H Q) : OPt X f x y H Q := fun pins s σ v u I rx ry => h pins s σ H x y v u Q I rx ry q
def UNt (X : Cx) (f : Value → Sem Value) : V → Hp → VK → Prop := fun x H Q => ∀ (pins : List (Addr × Obj)) (s : Shared) (σ : L2.St) (v : Value), Inv X pins σ H s → RelV x v → wpAny (model X.prog X.w) X.A (f v) (EP X pins σ Q) X.xe s
theorem unr_self {X : Cx} {f : Value → Sem Value} : UnR X f (UNt X f) := fun pins s σ _ _ v _ I rx h => h pins s σ v I rx
theorem un_of {X : Cx} {f : Value → Sem Value} {r : V → Hp → VK → Prop} {x : V} {H : Hp} {Q : VK} (h : UnR X f r) (q : r x H Q) : UNt X f x H Q := fun pins s σ v I rx => h pins s σ H x v Q I rx q
def CPt (X : Cx) (f : Value) : List V → Hp → VK → Prop := fun xs H Q => ∀ (pins : List (Addr × Obj)) (s : Shared) (σ : L2.St) (us : List Value), Inv X pins σ H s → Vals xs us → wpAny (model X.prog X.w) X.A (call f us) (EP X pins σ Q) X.xe s
theorem cpr_self {X : Cx} {f : Value} : CallR X f (CPt X f) := fun pins s σ _ _ us _ I r h => h pins s σ us I r
theorem cp_of {X : Cx} {f : Value} {r : List V → Hp → VK → Prop} {xs : List V} {H : Hp} {Q : VK} (h : CallR X f r) (q : r xs H Q) : CPt X f xs H Q := fun pins s σ us I rv => h pins s σ H xs us Q I rv q
/-- f on two data -/
def OpG (X : Cx) (S : Sg) (f : Value → Value → Sem Value) (d1 d2 : D) (μ : Mem) (Q : QD) : Prop :=
  ∀ F N H x y, RelM S F N H μ → Rp S (vis N H (adr μ)) x d1 → Rp S (vis N H (adr μ)) y d2 → OPt X f x y H (EndE S F N Q)
def UnG (X : Cx) (S : Sg) (f : Value → Sem Value) (d1 : D) (μ : Mem) (Q : QD) : Prop :=
  ∀ F N H x, RelM S F N H μ → Rp S (vis N H (adr μ)) x d1 → UNt X f x H (EndE S F N Q)
def CallG (X : Cx) (S : Sg) (f : Value) (ds : List D) (μ : Mem) (Q : QD) : Prop :=
  ∀ F N H xs, RelM S F N H μ → RpA S (vis N H (adr μ)) xs ds → CPt X f xs H (EndE S F N Q)
theorem OpG.mono {X : Cx} {S : Sg} {f : Value → Value → Sem Value} {d1 d2 : D} {μ : Mem} {Q Q' : QD} (h : OpG X S f d1 d2 μ Q) (m : ∀ d μ', Q d μ' → Q' d μ') : OpG X S f d1 d2 μ Q' := fun F N H x y r rx ry pins s σ v u I rv ru =>
  thn (h F N H x y r rx ry pins s σ v u I rv ru) fun _ _ ⟨z, H', I', rz, d, μ', r', rd, q⟩ => ⟨z, H', I', rz, d, μ', r', rd, m _ _ q⟩
section
variable {X : Cx} {S : Sg} {a b c e : Expr} {es rest : List Expr} {Γ : Gm} {μ : Mem} {Q : QD} {T : Bool → Mem → Prop} {x : Str} {pos p : Pos} {d : D}
/-! ### names, constants -/
theorem ev_name {i : Nat} (hN : X.N[i]? = some x) (hv : Vis X.env.scope x) (hΓ : Γ[i]? = some (some d)) (k : Q d μ) (hd : (x == ("__debug__" : Str)) = false := by decide) (hcd : (x == ("__classdict__" : Str)) = false := by decide) : EvG X S (.Name x pos) Γ μ Q :=
  fun F N σ H r rs => let ⟨v, hv', rv⟩ := RelS.get rs hΓ; ex_of (pe_var hN hv hd hcd) ⟨v, hv', d, μ, r, rv, k⟩
theorem ev_int {i : Int} {j} (k : Q (.int i) μ) : EvG X S (.Constant (.int i) j pos) Γ μ Q := fun F N σ H r rs => ex_of pe_int ⟨_, μ, r, .int i, k⟩
theorem ev_bl {i : Bool} {j} (k : Q (.bl i) μ) : EvG X S (.Constant (.bool i) j pos) Γ μ Q := fun F N σ H r rs => ex_of pe_bl ⟨_, μ, r, .bl i, k⟩
theorem ev_str {i : Str} {j} (k : Q (.str i) μ) : EvG X S (.Constant (.str i) j pos) Γ μ Q := fun F N σ H r rs => ex_of pe_str ⟨_, μ, r, .str i, k⟩
theorem ev_non {j} (k : Q .non μ) : EvG X S (.Constant .none j pos) Γ μ Q := fun F N σ H r rs => ex_of pe_non ⟨_, μ, r, .non, k⟩
/-- a class or a def of the module as a value -/
theorem ev_globR {u : Addr} (hg : Gl X x) (hm : X.mg x = some (.ref u)) (k : Q (.ref u) μ) (hd : (x == ("__debug__" : Str)) = false := by decide) : EvG X S (.Name x pos) Γ μ Q :=
  fun F N σ H r rs => ex_of (pe_glob (v := .ref u) hg hm rfl hd) ⟨_, μ, r, .ref u, k⟩
theorem ev_bty {n : String} (hg : Gl X x) (hm : X.mg x = none) (hv : bootBuiltins x = some (.type n)) (k : Q (.ty n) μ) (hn : x ≠ "__name__" := by decide) (hd : (x == ("__debug__" : Str)) = false := by decide) : EvG X S (.Name x pos) Γ μ Q :=
  fun F N σ H r rs => ex_of (pe_bltn (v := .ty n) hg hm hv rfl hn hd) ⟨_, μ, r, .ty n, k⟩
/-! ### operators -/
theorem ev_bin {op : Operator} (h : EvG X S a Γ μ fun d1 μ1 => EvG X S b Γ μ1 fun d2 μ2 => OpG X S (binaryOp op) d1 d2 μ2 Q) : EvG X S (.BinOp a op b pos) Γ μ Q := by
  intro F N σ H r rs
  refine ex_of (pe_op opr_self pe_ex pe_ex) ?_
  refine h.use r rs fun x H1 d1 μ1 r1 rs1 rx hb => ?_
  refine hb.use r1 rs1 fun y H2 d2 μ2 r2 rs2 ry ho => ?_
  exact ho F N H2 x y (r2.weakF (r.ext.trans r1.ext)) (rx.ext r2.ext) ry
theorem ev_un {op : UnaryOp} (h : EvG X S a Γ μ fun d1 μ1 => UnG X S (unaryOp op) d1 μ1 Q) : EvG X S (.UnaryOp op a pos) Γ μ Q := by
  intro F N σ H r rs
  refine ex_of (pe_un unr_self pe_ex) ?_
  refine h.use r rs fun x H1 d1 μ1 r1 rs1 rx hb => ?_
  exact hb F N H1 x (r1.weakF r.ext) rx
theorem ev_cmp {op : CmpOp} (h : EvG X S a Γ μ fun d1 μ1 => EvG X S b Γ μ1 fun d2 μ2 => OpG X S (compareOp op) d1 d2 μ2 Q) (hm : behindInMarks op b = false := by first | exact nobehind _ (by decide) (by decide) | rfl) : EvG X S (.Compare a [op] [b] pos) Γ μ Q := by
  intro F N σ H r rs
  refine ex_of (pe_cmpR opr_self pe_ex pe_ex hm) ?_
  refine h.use r rs fun x H1 d1 μ1 r1 rs1 rx hb => ?_
  refine hb.use r1 rs1 fun y H2 d2 μ2 r2 rs2 ry ho => ?_
  exact ho F N H2 x y (r2.weakF (r.ext.trans r1.ext)) (rx.ext r2.ext) ry
/-- tests -/
abbrev QB (T : Bool → Mem → Prop) : QD := fun d μ' => ∃ b, d = .bl b ∧ T b μ'
theorem endT_of {F N H : Hp} {v : V} (h : EndE S F N (QB T) v H) : ∃ c, v = .bl c ∧ EndT S F N T c H := by
  obtain ⟨d, μ', r, rd, b, e, q⟩ := h
  subst e
  cases rd
  exact ⟨b, rfl, μ', r, q⟩
theorem et_cmp {op : CmpOp} (h : EvG X S a Γ μ fun d1 μ1 => EvG X S b Γ μ1 fun d2 μ2 => OpG X S (compareOp op) d1 d2 μ2 (QB T)) (hm : behindInMarks op b = false := by first | exact nobehind _ (by decide) (by decide) | rfl) : EvT X S (.Compare a [op] [b] pos) Γ μ T := by
  intro F N σ H r rs
  refine tx_of (pt_cmpR opr_self pe_ex pe_ex hm) ?_
  refine EXt.mono (h.use (P := fun v H1 => EXt X b σ H1 fun y H2 => OPt X (compareOp op) v y H2 (EndE S F N (QB T))) r rs fun x H1 d1 μ1 r1 rs1 rx hb => ?_) fun v H1 q => q.mono fun y H2 q2 => ?_
  · refine hb.use r1 rs1 fun y H2 d2 μ2 r2 rs2 ry ho => ?_
    exact ho F N H2 x y (r2.weakF (r.ext.trans r1.ext)) (rx.ext r2.ext) ry
  · intro pins s σ' v u I rx ry
    exact thn (q2 pins s σ' v u I rx ry) fun _ _ ⟨z, H', I', rz, q⟩ => ⟨z, H', I', rz, endT_of q⟩
theorem et_val (h : EvG X S e Γ μ (QB T)) (he : ∀ whole, isTrue e X.env whole = (do let v ← whole; standAt e.pos; holding [v] (truthy v)) := by intro _; rfl) : EvT X S e Γ μ T := by
  intro F N σ H r rs
  exact tx_of (pt_val pe_ex he) ((h F N σ H r rs).mono fun v H' q => endT_of q)
theorem et_not (h : EvT X S a Γ μ fun b μ' => T (!b) μ') : EvT X S (.UnaryOp .Not a pos) Γ μ T := by
  intro F N σ H r rs
  exact tx_of (pt_not pt_ex) ((h F N σ H r rs).mono fun v H' q => q)
theorem et_w (h : EvW X S e Γ μ T) : EvT X S e Γ μ T := fun F N σ H r rs pins s I => h F N σ H r rs _ pins s I
theorem ew_and1 (h : EvT X S a Γ μ T) : EvW X S (.BoolOp .And [a] pos) Γ μ T := fun F N σ H r rs => wx_of (pw_and1 pt_ex) (h F N σ H r rs)
theorem ew_or1 (h : EvT X S a Γ μ T) : EvW X S (.BoolOp .Or [a] pos) Γ μ T := fun F N σ H r rs => wx_of (pw_or1 pt_ex) (h F N σ H r rs)
theorem ew_and (h : EvT X S a Γ μ fun c μ1 => (c = true → EvW X S (.BoolOp .And (b :: rest) pos) Γ μ1 T) ∧ (c = false → T false μ1)) : EvW X S (.BoolOp .And (a :: b :: rest) pos) Γ μ T := by
  intro F N σ H r rs
  refine wx_of (pw_and pt_ex pw_ex) (h.use r rs fun c H1 μ1 r1 rs1 q => ?_)
  cases c with
  | true => exact q.1 rfl F N σ H1 (r1.weakF r.ext) rs1
  | false => exact ⟨μ1, r1.weakF r.ext, q.2 rfl⟩
theorem ew_or (h : EvT X S a Γ μ fun c μ1 => (c = false → EvW X S (.BoolOp .Or (b :: rest) pos) Γ μ1 T) ∧ (c = true → T true μ1)) : EvW X S (.BoolOp .Or (a :: b :: rest) pos) Γ μ T := by
  intro F N σ H r rs
  refine wx_of (pw_or pt_ex pw_ex) (h.use r rs fun c H1 μ1 r1 rs1 q => ?_)
  cases c with
  | false => exact q.1 rfl F N σ H1 (r1.weakF r.ext) rs1
  | true => exact ⟨μ1, r1.weakF r.ext, q.2 rfl⟩
/-- and, or as values: bools -/
theorem ev_and1 (h : EvG X S a Γ μ Q) {op} : EvG X S (.BoolOp op [a] pos) Γ μ Q := fun F N σ H r rs => ex_of (pe_one pe_ex) (h F N σ H r rs)
theorem ev_and (h : EvG X S a Γ μ fun d μ1 => ∃ c, d = .bl c ∧ (c = true → EvG X S (.BoolOp .And (b :: rest) pos) Γ μ1 Q) ∧ (c = false → Q (.bl false) μ1)) : EvG X S (.BoolOp .And (a :: b :: rest) pos) Γ μ Q := by
  intro F N σ H r rs
  refine ex_of (pe_and pe_ex pe_ex) (h.use r rs fun v H1 d μ1 r1 rs1 rd q => ?_)
  obtain ⟨c, e, q1, q2⟩ := q
  subst e
  cases rd
  refine ⟨c, rfl, ?_⟩
  cases c with
  | true => exact q1 rfl F N σ H1 (r1.weakF r.ext) rs1
  | false => exact ⟨_, μ1, r1.weakF r.ext, .bl false, q2 rfl⟩
theorem ev_or (h : EvG X S a Γ μ fun d μ1 => ∃ c, d = .bl c ∧ (c = false → EvG X S (.BoolOp .Or (b :: rest) pos) Γ μ1 Q) ∧ (c = true → Q (.bl true) μ1)) : EvG X S (.BoolOp .Or (a :: b :: rest) pos) Γ μ Q := by
  intro F N σ H r rs
  refine ex_of (pe_or pe_ex pe_ex) (h.use r rs fun v H1 d μ1 r1 rs1 rd q => ?_)
  obtain ⟨c, e, q1, q2⟩ := q
  subst e
  cases rd
  refine ⟨c, rfl, ?_⟩
  cases c with
  | false => exact q1 rfl F N σ H1 (r1.weakF r.ext) rs1
  | true => exact ⟨_, μ1, r1.weakF r.ext, .bl true, q2 rfl⟩
theorem ev_not (h : EvG X S a Γ μ fun d μ1 => ∃ c, d = .bl c ∧ Q (.bl (!c)) μ1) : EvG X S (.UnaryOp .Not a pos) Γ μ Q := by
  intro F N σ H r rs
  refine ex_of (pe_not pe_ex) (h.use r rs fun v H1 d μ1 r1 rs1 rd q => ?_)
  obtain ⟨c, e, q1⟩ := q
  subst e
  cases rd
  exact ⟨c, rfl, _, μ1, r1.weakF r.ext, .bl _, q1⟩
theorem ev_if (h : EvT X S c Γ μ fun t μ1 => (t = true → EvG X S a Γ μ1 Q) ∧ (t = false → EvG X S b Γ μ1 Q)) : EvG X S (.IfExp c a b pos) Γ μ Q := by
  intro F N σ H r rs
  refine ex_of (pe_ifExp pt_ex pe_ex pe_ex) (h.use r rs fun t H1 μ1 r1 rs1 q => ?_)
  cases t with
  | true => exact q.1 rfl F N σ H1 (r1.weakF r.ext) rs1
  | false => exact q.2 rfl F N σ H1 (r1.weakF r.ext) rs1
/-! ### argument lists, displays -/
theorem ea_nil {Q : List D → Mem → Prop} (k : Q [] μ) : EvA X S [] Γ μ Q := fun F N σ H r rs => ax_of pa_nil ⟨[], μ, r, .nil, k⟩
theorem ea_cons {Q : List D → Mem → Prop} (h : EvG X S e Γ μ fun d μ1 => EvA X S es Γ μ1 fun ds μ2 => Q (d :: ds) μ2) (hs : starEach (e :: es) X.env = (false, eval e X.env) :: starEach es X.env := by rfl) : EvA X S (e :: es) Γ μ Q := by
  intro F N σ H r rs
  refine ax_of (pa_cons pe_ex pa_ex hs) (h.use r rs fun v H1 d μ1 r1 rs1 rd q => ?_)
  refine q.use r1 rs1 fun vs H2 ds μ2 r2 rs2 rds q2 => ?_
  exact ⟨d :: ds, μ2, r2.weakF (r.ext.trans r1.ext), .cons (rd.ext r2.ext) rds, q2⟩
theorem ev_tup {k} (h : EvA X S es Γ μ fun ds μ1 => ds.length ≤ 16777216 ∧ Q (.tup ds) μ1) : EvG X S (.Tuple es k pos) Γ μ Q := by
  intro F N σ H r rs
  refine ex_of (pe_tup pa_ex) (h.use r rs fun vs H1 ds μ1 r1 rs1 rd q => ?_)
  refine ⟨by rw [rd.length, sizeLine_eq]; exact q.1, fun p hp => ?_⟩
  exact ⟨_, μ1, (r1.weakF r.ext).alloc hp, .tup (SqT.of (alloc_at r1.toRelM0 hp)) (rd.ext (vis_new r1.toRelM0 hp)), q.2⟩
theorem ev_lst (h : EvA X S es Γ μ fun ds μ1 => ds.length ≤ 16777216 ∧ Q (.lst ds) μ1) : EvG X S (.List es pos) Γ μ Q := by
  intro F N σ H r rs
  refine ex_of (pe_lst pa_ex) (h.use r rs fun vs H1 ds μ1 r1 rs1 rd q => ?_)
  refine ⟨by rw [rd.length, sizeLine_eq]; exact q.1, fun p hp => ?_⟩
  exact ⟨_, μ1, (r1.weakF r.ext).alloc hp, .lst (alloc_at r1.toRelM0 hp) (rd.ext (vis_new r1.toRelM0 hp)), q.2⟩
/-- a list that is to be changed -/
theorem ev_lstM (h : EvA X S es Γ μ fun ds μ1 => ds.length ≤ 16777216 ∧ ∀ p, p ∉ adr μ1 → Q (.ref p) ((p, .lst ds) :: μ1)) : EvG X S (.List es pos) Γ μ Q := by
  intro F N σ H r rs
  refine ex_of (pe_lst pa_ex) (h.use r rs fun vs H1 ds μ1 r1 rs1 rd q => ?_)
  refine ⟨by rw [rd.length, sizeLine_eq]; exact q.1, fun p hp => ?_⟩
  exact ⟨_, _, (r1.weakF r.ext).allocM hp (.lst rd), .ref p, q.2 p (adr_new r1.toRelM0 hp)⟩
end
/-! ### operations on data -/
section
variable {X : Cx} {S : Sg} {μ : Mem} {Q : QD} {i j : Int} {x y : Str} {d e : D} {l l' : List D}
theorem og_addI (k : Q (.int (i + j)) μ) : OpG X S (binaryOp .Add) (.int i) (.int j) μ Q := fun F N H u v r ru rv => by cases ru; cases rv; exact op_of op_add ⟨i, j, rfl, rfl, _, μ, r, .int _, k⟩
theorem og_subI (k : Q (.int (i - j)) μ) : OpG X S (binaryOp .Sub) (.int i) (.int j) μ Q := fun F N H u v r ru rv => by cases ru; cases rv; exact op_of op_sub ⟨i, j, rfl, rfl, _, μ, r, .int _, k⟩
theorem og_mulI (c : CMul i j) (k : Q (.int (i * j)) μ) : OpG X S (binaryOp .Mult) (.int i) (.int j) μ Q := fun F N H u v r ru rv => by cases ru; cases rv; exact op_of op_mul ⟨i, j, rfl, rfl, c, _, μ, r, .int _, k⟩
theorem og_modI (c : 0 < j) (k : Q (.int (i % j)) μ) : OpG X S (binaryOp .Mod) (.int i) (.int j) μ Q := fun F N H u v r ru rv => by cases ru; cases rv; exact op_of op_mod ⟨i, j, rfl, rfl, c, _, μ, r, .int _, k⟩
theorem og_fdivI (c : CDiv i j) (k : Q (.int (i / j)) μ) : OpG X S (binaryOp .FloorDiv) (.int i) (.int j) μ Q := fun F N H u v r ru rv => by cases ru; cases rv; exact op_of op_fdiv ⟨i, j, rfl, rfl, c, _, μ, r, .int _, k⟩
theorem og_powI (c : CPow i j) (k : Q (.int (i ^ j.toNat)) μ) : OpG X S (binaryOp .Pow) (.int i) (.int j) μ Q := fun F N H u v r ru rv => by cases ru; cases rv; exact op_of op_pow ⟨i, j, rfl, rfl, c, _, μ, r, .int _, k⟩
theorem ug_neg (k : Q (.int (-i)) μ) : UnG X S (unaryOp .USub) (.int i) μ Q := fun F N H u r ru => by cases ru; exact un_of un_neg ⟨i, rfl, _, μ, r, .int _, k⟩
theorem og_addS (hz : x.length + y.length ≤ 16777216) (k : Q (.str (x ++ y)) μ) : OpG X S (binaryOp .Add) (.str x) (.str y) μ Q := fun F N H u v r ru rv => by cases ru; cases rv; exact op_of op_add_str ⟨x, y, rfl, rfl, by rw [sizeLine_eq]; exact hz, _, μ, r, .str _, k⟩
theorem og_addL (h1 : Drf μ d l) (h2 : Drf μ e l') (hz : l.length + l'.length ≤ 16777216) (k : Q (.lst (l ++ l')) μ) : OpG X S (binaryOp .Add) d e μ Q := fun F N H u v r ru rv => by
  obtain ⟨a, xs, rfl, ha, hs⟩ := h1.at r.toRelM0 ru
  obtain ⟨b, ys, rfl, hb, ht⟩ := h2.at r.toRelM0 rv
  refine op_of op_cat ⟨a, b, xs, ys, rfl, rfl, ha, hb, by rw [hs.length, ht.length, sizeLine_eq]; exact hz, fun p hp => ?_⟩
  exact ⟨_, μ, r.alloc hp, .lst (alloc_at r.toRelM0 hp) ((hs.append ht).ext (vis_new r.toRelM0 hp)), k⟩
theorem og_addT (hK : X.K = S.K) (hz : l.length + l'.length ≤ 16777216) (k : Q (.tup (l ++ l')) μ) : OpG X S (binaryOp .Add) (.tup l) (.tup l') μ Q := fun F N H u v r ru rv => by
  cases ru with
  | @tup a xs _ ha hs =>
  cases rv with
  | @tup b ys _ hb ht =>
  refine op_of op_catA ⟨a, b, xs, ys, rfl, rfl, by rw [hK]; exact vis_le.t ha, by rw [hK]; exact vis_le.t hb, by rw [hs.length, ht.length, sizeLine_eq]; exact hz, fun e => ?_, fun _ e => ?_, fun _ _ p hp => ?_⟩
  · subst e
    cases hs
    exact ⟨_, μ, r, .tup hb ht, k⟩
  · subst e
    cases ht
    exact ⟨_, μ, r, .tup ha (by rw [List.append_nil]; exact hs), k⟩
  · exact ⟨_, μ, r.alloc hp, .tup (SqT.of (alloc_at r.toRelM0 hp)) ((hs.append ht).ext (vis_new r.toRelM0 hp)), k⟩
theorem og_ltI (k : Q (.bl (decide (i < j))) μ) : OpG X S (compareOp .Lt) (.int i) (.int j) μ Q := fun F N H u v r ru rv => by cases ru; cases rv; exact op_of op_lt ⟨i, j, rfl, rfl, _, μ, r, .bl _, k⟩
theorem og_leI (k : Q (.bl (decide (i ≤ j))) μ) : OpG X S (compareOp .LtE) (.int i) (.int j) μ Q := fun F N H u v r ru rv => by cases ru; cases rv; exact op_of op_le ⟨i, j, rfl, rfl, _, μ, r, .bl _, k⟩
theorem og_gtI (k : Q (.bl (decide (j < i))) μ) : OpG X S (compareOp .Gt) (.int i) (.int j) μ Q := fun F N H u v r ru rv => by cases ru; cases rv; exact op_of op_gt ⟨i, j, rfl, rfl, _, μ, r, .bl _, k⟩
theorem og_geI (k : Q (.bl (decide (j ≤ i))) μ) : OpG X S (compareOp .GtE) (.int i) (.int j) μ Q := fun F N H u v r ru rv => by cases ru; cases rv; exact op_of op_ge ⟨i, j, rfl, rfl, _, μ, r, .bl _, k⟩
theorem og_eqI (k : Q (.bl (decide (i = j))) μ) : OpG X S (compareOp .Eq) (.int i) (.int j) μ Q := fun F N H u v r ru rv => by cases ru; cases rv; exact op_of op_eq ⟨rfl, _, μ, r, .bl _, by simpa using k⟩
theorem og_neI (k : Q (.bl (!decide (i = j))) μ) : OpG X S (compareOp .NotEq) (.int i) (.int j) μ Q := fun F N H u v r ru rv => by cases ru; cases rv; exact op_of op_ne ⟨rfl, _, μ, r, .bl _, by simpa using k⟩
theorem og_eqS (k : Q (.bl (decide (x = y))) μ) : OpG X S (compareOp .Eq) (.str x) (.str y) μ Q := fun F N H u v r ru rv => by cases ru; cases rv; exact op_of op_eq ⟨rfl, _, μ, r, .bl _, by simpa using k⟩
theorem og_neS (k : Q (.bl (!decide (x = y))) μ) : OpG X S (compareOp .NotEq) (.str x) (.str y) μ Q := fun F N H u v r ru rv => by cases ru; cases rv; exact op_of op_ne ⟨rfl, _, μ, r, .bl _, by simpa using k⟩
theorem og_eqB {a b : Bool} (k : Q (.bl (decide (a = b))) μ) : OpG X S (compareOp .Eq) (.bl a) (.bl b) μ Q := fun F N H u v r ru rv => by cases ru; cases rv; exact op_of op_eq ⟨rfl, _, μ, r, .bl _, by simpa using k⟩
theorem og_neB {a b : Bool} (k : Q (.bl (!decide (a = b))) μ) : OpG X S (compareOp .NotEq) (.bl a) (.bl b) μ Q := fun F N H u v r ru rv => by cases ru; cases rv; exact op_of op_ne ⟨rfl, _, μ, r, .bl _, by simpa using k⟩
/-- what a datum is, for reading as a whole: a list of the memory is read as a list -/
def Rsv (μ : Mem) (d e : D) : Prop := d = e ∨ ∃ l, Drf μ d l ∧ e = .lst l
theorem Rsv.val {d : D} : Rsv μ d d := .inl rfl
theorem Rsv.mem {a : Addr} (h : (a, M.lst l) ∈ μ) : Rsv μ (.ref a) (.lst l) := .inr ⟨l, .ref h, rfl⟩
theorem Rsv.dp {n : Nat} {F N H : Hp} {d e : D} {v : V} (h : Rsv μ d e) (ho : D.ok n e = true) (r : RelM S F N H μ) (rv : Rp S (vis N H (adr μ)) v d) : Dp S.K H v (D.py e) := by
  rcases h with rfl | ⟨l, h, rfl⟩
  · exact (rv.ext vis_le).dp ho
  · obtain ⟨a, xs, rfl, ha, hs⟩ := h.at r.toRelM0 rv
    exact Rp.dp ho (.lst ha (hs.ext vis_le))
theorem og_eqD {n m : Nat} {d' e' : D} (hK : X.K = S.K) (hu : X.A.units + 65 < cLine) (h1 : Rsv μ d d') (h2 : Rsv μ e e') (o1 : D.ok n d' = true) (o2 : D.ok m e' = true) (n1 : n ≤ 60) (n2 : m ≤ 60) (k : Q (.bl (D.eqv d' e')) μ) : OpG X S (compareOp .Eq) d e μ Q := fun F N H u v r ru rv => by
  refine op_of (op_eqD (by omega)) ⟨_, _, ?_, ?_, D.shaped o1 n1, D.shaped o2 n2, _, μ, r, .bl _, k⟩
  · rw [hK]; exact h1.dp o1 r ru
  · rw [hK]; exact h2.dp o2 r rv
theorem og_neD {n m : Nat} {d' e' : D} (hK : X.K = S.K) (hu : X.A.units + 65 < cLine) (h1 : Rsv μ d d') (h2 : Rsv μ e e') (o1 : D.ok n d' = true) (o2 : D.ok m e' = true) (n1 : n ≤ 60) (n2 : m ≤ 60) (k : Q (.bl (!D.eqv d' e')) μ) : OpG X S (compareOp .NotEq) d e μ Q := fun F N H u v r ru rv => by
  refine op_of (op_neD (by omega)) ⟨_, _, ?_, ?_, D.shaped o1 n1, D.shaped o2 n2, _, μ, r, .bl _, k⟩
  · rw [hK]; exact h1.dp o1 r ru
  · rw [hK]; exact h2.dp o2 r rv
def D.inL (d : D) (l : List D) : Bool := l.any fun z => D.eqv z d
theorem any_py (d : D) : ∀ l : List D, ((D.pyA l).any fun z => PyData.eqv z (D.py d)) = D.inL d l
  | [] => rfl
  | z :: l => by
    have ih := any_py d l
    simp only [D.pyA, List.any_cons, D.inL, D.eqv] at ih ⊢
    rw [ih]
theorem og_inL {n : Nat} {d' : D} (hK : X.K = S.K) (hu : X.A.units + 65 < cLine) (h1 : Rsv μ d d') (h2 : Drf μ e l) (o1 : D.ok n d' = true) (o2 : D.okA n l = true) (n1 : n ≤ 50) (k : Q (.bl (D.inL d' l)) μ) : OpG X S (compareOp .In) d e μ Q := fun F N H u v r ru rv => by
  have o2' : D.ok (n + 1) (.lst l) = true := by simpa [D.ok] using o2
  have e2 := Rsv.dp (S := S) (e := .lst l) (.inr ⟨l, h2, rfl⟩) o2' r rv
  have s2 := D.shaped o2' (by omega)
  rw [D.py] at e2 s2
  refine op_of (op_inD hu) ⟨D.py d', D.pyA l, ?_, by rw [hK]; exact e2, D.shaped o1 (by omega), s2, _, μ, r, .bl _, ?_⟩
  · rw [hK]; exact h1.dp o1 r ru
  · rw [any_py]; exact k
theorem og_niL {n : Nat} {d' : D} (hK : X.K = S.K) (hu : X.A.units + 65 < cLine) (h1 : Rsv μ d d') (h2 : Drf μ e l) (o1 : D.ok n d' = true) (o2 : D.okA n l = true) (n1 : n ≤ 50) (k : Q (.bl (!D.inL d' l)) μ) : OpG X S (compareOp .NotIn) d e μ Q := fun F N H u v r ru rv => by
  have o2' : D.ok (n + 1) (.lst l) = true := by simpa [D.ok] using o2
  have e2 := Rsv.dp (S := S) (e := .lst l) (.inr ⟨l, h2, rfl⟩) o2' r rv
  have s2 := D.shaped o2' (by omega)
  rw [D.py] at e2 s2
  refine op_of (op_notInD hu) ⟨D.py d', D.pyA l, ?_, by rw [hK]; exact e2, D.shaped o1 (by omega), s2, _, μ, r, .bl _, ?_⟩
  · rw [hK]; exact h1.dp o1 r ru
  · rw [any_py]; exact k
end
end GL
namespace GL
open PySem L2 PySem.Spec PyProof.Rows
section
variable {X : Cx} {S : Sg} {a b c e o : Expr} {es rest : List Expr} {st : Stmt} {sts body orelse : List Stmt} {Γ : Gm} {μ : Mem} {Q : QD} {x : Str} {pos p : Pos} {d : D} {E : EG}
/-! ### statements -/
theorem bl_nil (k : E.nx Γ μ) : BlG X S [] Γ μ E := fun F N σ H r rs => bx_of pss_nil ⟨Γ, μ, r, rs, k⟩
theorem SXt.mono {D D' : Ends} {σ : L2.St} {H : Hp} (h : SXt X st D σ H) (h1 : ∀ σ H, D.nx σ H → D'.nx σ H) (h2 : ∀ v H, D.rt v H → D'.rt v H) (h3 : ∀ σ H, D.bk σ H → D'.bk σ H) (h4 : ∀ σ H, D.ct σ H → D'.ct σ H) : SXt X st D' σ H := fun pins s I =>
  thn (h pins s I) fun f s' q => by
    cases f with
    | next => obtain ⟨σ', H', I', q⟩ := q; exact ⟨σ', H', I', h1 _ _ q⟩
    | brk => obtain ⟨σ', H', I', q⟩ := q; exact ⟨σ', H', I', h3 _ _ q⟩
    | cont => obtain ⟨σ', H', I', q⟩ := q; exact ⟨σ', H', I', h4 _ _ q⟩
    | ret u => obtain ⟨v, σ', H', I', r, q⟩ := q; exact ⟨v, σ', H', I', r, h2 _ _ q⟩
theorem bl_cons (h : StG X S st Γ μ { E with nx := fun Γ' μ' => BlG X S sts Γ' μ' E }) : BlG X S (st :: sts) Γ μ E := by
  intro F N σ H r rs
  refine bx_of (pss_cons ps_ex pss_ex) ?_
  refine SXt.mono (h F N σ H r rs) (fun σ' H' q => ?_) (fun _ _ q => q) (fun _ _ q => q) (fun _ _ q => q)
  obtain ⟨Γ', μ', r', rs', q⟩ := q
  exact q F N σ' H' r' rs'
theorem st_pass (k : E.nx Γ μ) : StG X S (.Pass pos) Γ μ E := fun F N σ H r rs => sx_of ps_pass ⟨Γ, μ, r, rs, k⟩
theorem st_break (k : E.bk Γ μ) : StG X S (.Break pos) Γ μ E := fun F N σ H r rs => sx_of ps_break ⟨Γ, μ, r, rs, k⟩
theorem st_cont (k : E.ct Γ μ) : StG X S (.Continue pos) Γ μ E := fun F N σ H r rs => sx_of ps_continue ⟨Γ, μ, r, rs, k⟩
theorem st_expr (h : EvG X S e Γ μ fun _ μ' => E.nx Γ μ') (hs : swapsWith e none pos.line X.env = pure false := by rfl) : StG X S (.Expr e pos) Γ μ E := by
  intro F N σ H r rs
  refine sx_of (ps_expr pe_ex hs) (h.use r rs fun v H' d μ' r' rs' _ q => ?_)
  exact ⟨Γ, μ', r'.weakF r.ext, rs', q⟩
theorem st_ret (h : EvG X S e Γ μ E.rt) : StG X S (.Return (some e) pos) Γ μ E := fun F N σ H r rs => sx_of (ps_ret pe_ex) (h F N σ H r rs)
theorem st_retN (h : E.rt .non μ) : StG X S (.Return none pos) Γ μ E := fun F N σ H r rs => sx_of ps_retN ⟨_, μ, r, .non, h⟩
theorem st_if (h : EvT X S c Γ μ fun t μ1 => (t = true → BlG X S body Γ μ1 E) ∧ (t = false → BlG X S orelse Γ μ1 E)) : StG X S (.If c body orelse pos) Γ μ E := by
  intro F N σ H r rs
  refine sx_of (ps_if pt_ex pss_ex pss_ex) (h.use r rs fun t H1 μ1 r1 rs1 q => ?_)
  cases t with
  | true => exact q.1 rfl F N σ H1 (r1.weakF r.ext) rs1
  | false => exact q.2 rfl F N σ H1 (r1.weakF r.ext) rs1
/-! ### targets -/
def GXt (X : Cx) (tg : Expr) : TG := fun v σ H Q => ∀ (pins : List (Addr × Obj)) (s : Shared) (u : Value), Inv X pins σ H s → RelV v u → wpAny (model X.prog X.w) X.A (assign tg X.env u) (fun _ s' => ∃ σ' H', Inv X pins σ' H' s' ∧ Q σ' H') X.xe s
theorem pg_ex {tg : Expr} : PG X tg (GXt X tg) := ⟨fun pins s σ H v u Q I r h => h pins s u I r⟩
theorem gx_of {tg : Expr} {t : TG} {v : V} {σ : L2.St} {H : Hp} {Q : L2.St → Hp → Prop} (p : PG X tg t) (h : t v σ H Q) : GXt X tg v σ H Q := fun pins s u I r => p.run pins s σ H v u Q I r h
theorem GXt.mono {tg : Expr} {v : V} {σ : L2.St} {H : Hp} {Q Q' : L2.St → Hp → Prop} (h : GXt X tg v σ H Q) (m : ∀ σ H, Q σ H → Q' σ H) : GXt X tg v σ H Q' := fun pins s u I r =>
  thn (h pins s u I r) fun _ _ ⟨σ', H', I', q⟩ => ⟨σ', H', I', m _ _ q⟩
theorem wipe_at {σ : L2.St} {j : Nat} : ∀ {vs : List Nat}, (wipe σ vs)[j]? = if j ∈ vs then σ[j]?.map (fun _ => none) else σ[j]?
  | [] => by simp [wipe]
  | v :: vs => by
    have ih := wipe_at (σ := σ) (j := j) (vs := vs)
    have hl := wipe_length σ vs
    show ((wipe σ vs).set v none)[j]? = _
    rw [List.getElem?_set, hl]
    by_cases hv : v = j
    · subst hv
      rw [if_pos rfl, if_pos (List.mem_cons_self)]
      by_cases hlt : v < σ.length
      · rw [if_pos hlt, List.getElem?_eq_getElem hlt]
        rfl
      · rw [if_neg hlt, List.getElem?_eq_none (by omega)]
        rfl
    · rw [if_neg hv, ih]
      by_cases hj : j ∈ vs
      · rw [if_pos hj, if_pos (List.mem_cons_of_mem _ hj)]
      · rw [if_neg hj, if_neg (by simp only [List.mem_cons, not_or]; exact ⟨fun e => hv e.symm, hj⟩)]
theorem wipe_set {σ : L2.St} {i : Nat} {x : Option V} {vs : List Nat} (h : i ∈ vs) : wipe (σ.set i x) vs = wipe σ vs := by
  refine List.ext_getElem? fun j => ?_
  rw [wipe_at, wipe_at, List.getElem?_set]
  by_cases hj : j ∈ vs
  · rw [if_pos hj, if_pos hj]
    by_cases e : i = j
    · subst e
      rw [if_pos rfl]
      by_cases hlt : i < σ.length
      · rw [if_pos hlt, List.getElem?_eq_getElem hlt]
        rfl
      · rw [if_neg hlt, List.getElem?_eq_none (by omega)]
    · rw [if_neg e]
  · rw [if_neg hj, if_neg hj, if_neg (fun e : i = j => hj (e ▸ h))]
abbrev EndW (S : Sg) (F N : Hp) (vs : List Nat) (σ : L2.St) (P : Gm → Mem → Prop) : L2.St → Hp → Prop := fun σ' H' => wipe σ' vs = wipe σ vs ∧ ∃ Γ' μ', RelM S F N H' μ' ∧ RelS S (vis N H' (adr μ')) σ' Γ' ∧ P Γ' μ'
/-- a datum is stored in a target; only the slots vs change -/
def TgG (X : Cx) (S : Sg) (vs : List Nat) (tg : Expr) (d : D) (Γ : Gm) (μ : Mem) (P : Gm → Mem → Prop) : Prop :=
  ∀ F N σ H v, RelM S F N H μ → RelS S (vis N H (adr μ)) σ Γ → Rp S (vis N H (adr μ)) v d → GXt X tg v σ H (EndW S F N vs σ P)
theorem tg_name {i : Nat} {vs : List Nat} {P : Gm → Mem → Prop} (hv : i ∈ vs) (hN : X.N.Nodup) (hi : X.N[i]? = some x) (hx : Loc X.env.scope x) (k : P (Γ.set i (some d)) μ) (hf : X.fn x = true ∨ X.env.scope.names.lookup x = some .local := by first | exact .inl rfl | exact .inr rfl | assumption) :
    TgG X S vs (.Name x pos) d Γ μ P := fun F N σ H v r rs rv => gx_of (pg_name hN hi hx hf) ⟨wipe_set hv, _, μ, r, RelS.set rv i rs, k⟩
/-- several targets, from the left -/
def TgsG (X : Cx) (S : Sg) (ws : List Nat) (tgs : List Expr) (ds : List D) (Γ : Gm) (μ : Mem) (P : Gm → Mem → Prop) : Prop :=
  ∀ F N σ H vs, RelM S F N H μ → RelS S (vis N H (adr μ)) σ Γ → RpA S (vis N H (adr μ)) vs ds → ∃ t, PGs X tgs t ∧ t vs σ H (EndW S F N ws σ P)
theorem tgs_nil {ws : List Nat} {P : Gm → Mem → Prop} (k : P Γ μ) : TgsG X S ws [] [] Γ μ P := fun F N σ H vs r rs rv => by
  cases rv
  exact ⟨_, pgs_nil, rfl, rfl, Γ, μ, r, rs, k⟩
def GsXt (X : Cx) (tgs : List Expr) : TGs := fun vs σ H Q => ∀ (pins : List (Addr × Obj)) (s : Shared) (us : List Value), Inv X pins σ H s → Vals vs us →
    wpAny (model X.prog X.w) X.A (assignInOrder ((assignEach tgs X.env).map (·.2)) us) (fun _ s' => ∃ σ' H', Inv X pins σ' H' s' ∧ Q σ' H') X.xe s
theorem pgs_ex {tgs : List Expr} : PGs X tgs (GsXt X tgs) := ⟨fun pins s σ H vs us Q I r h => h pins s us I r⟩
theorem tgs_cons {ws : List Nat} {tg : Expr} {tgs : List Expr} {ds : List D} {P : Gm → Mem → Prop} (h : TgG X S ws tg d Γ μ fun Γ1 μ1 => TgsG X S ws tgs ds Γ1 μ1 P)
    (hs : (assignEach (tg :: tgs) X.env).map (·.2) = assign tg X.env :: (assignEach tgs X.env).map (·.2) := by rfl) : TgsG X S ws (tg :: tgs) (d :: ds) Γ μ P := fun F N σ H vs r rs rv => by
  cases rv with
  | @cons v vs _ _ h1 h2 =>
  refine ⟨_, pgs_cons pg_ex pgs_ex hs, v, vs, rfl, ?_⟩
  refine (h (vis N H (adr μ)) N σ H v r.top rs h1).mono fun σ1 H1 ⟨hw, Γ1, μ1, r1, rs1, q⟩ => ?_
  intro pins s us I rv'
  obtain ⟨t, ht, q⟩ := q F N σ1 H1 vs (r1.weakF r.ext) rs1 (h2.ext r1.ext)
  exact thn (ht.run pins s σ1 H1 vs us _ I rv' q) fun _ _ ⟨σ2, H2, I2, hw2, q2⟩ => ⟨σ2, H2, I2, hw2.trans hw, q2⟩
theorem tg_tup {ws : List Nat} {tgs : List Expr} {k : Nat} {ds : List D} {n : Nat} {P : Gm → Mem → Prop} (hK : X.K = S.K) (hc : X.calm = true) (h : TgsG X S ws tgs ds Γ μ P) (hl : ds.length = n)
    (hn : (assignEach tgs X.env).length = n := by rfl) (hst : (assignEach tgs X.env).findIdx? (·.1) = none := by rfl) : TgG X S ws (.Tuple tgs k pos) (.tup ds) Γ μ P := fun F N σ H v r rs rv => by
  cases rv with
  | @tup a xs _ ha hs =>
  obtain ⟨t, ht, q⟩ := h F N σ H xs r rs hs
  exact gx_of (pg_tup hc ht hn hst) ⟨a, xs, rfl, by rw [hK]; exact vis_le.t ha, by rw [hs.length, hl], q⟩
theorem st_asg {tg : Expr} (h : EvG X S e Γ μ fun d μ1 => TgG X S (List.range 64) tg d Γ μ1 E.nx) (hs : swapsWithSole [tg] e pos.line X.env = pure false := by rfl) (hw : swappedStores [tg] e X.env = pure none := by rfl)
    (h1 : (assignEach [tg] X.env).map (·.2) = [assign tg X.env] := by rfl) : StG X S (.Assign [tg] e pos) Γ μ E := by
  intro F N σ H r rs
  refine sx_of (ps_asg pe_ex pg_ex hs hw h1) (h.use r rs fun v H' d μ' r' rs' rv q => ?_)
  exact (q F N σ H' v (r'.weakF r.ext) rs' rv).mono fun _ _ z => z.2
theorem st_set {i : Nat} {pos' : Pos} (hN : X.N.Nodup) (hi : X.N[i]? = some x) (hx : Loc X.env.scope x) (h : EvG X S e Γ μ fun d μ1 => E.nx (Γ.set i (some d)) μ1)
    (hs : swapsWith e (some (.Name x pos')) pos.line X.env = pure false := by rfl) (hf : X.fn x = true ∨ X.env.scope.names.lookup x = some .local := by first | exact .inl rfl | exact .inr rfl | assumption) : StG X S (.Assign [.Name x pos'] e pos) Γ μ E := by
  intro F N σ H r rs
  refine sx_of (ps_set hN hi hx pe_ex hs hf) (h.use r rs fun v H' d μ' r' rs' rv q => ?_)
  exact ⟨_, μ', r'.weakF r.ext, RelS.set rv i rs', q⟩
/-- what is no more needed is forgotten; a list of the memory is left alone for good -/
theorem set_self {α : Type} : ∀ {l : List α} {i : Nat} {v : α}, l[i]? = some v → l.set i v = l
  | [], _, _, h => by simp at h
  | _ :: _, 0, _, h => by
    simp at h
    subst h
    rfl
  | a :: l, i + 1, v, h => by
    have := set_self (l := l) (i := i) (v := v) (by simpa using h)
    show a :: l.set i v = a :: l
    rw [this]
theorem RelS.frz {Hv : Hp} {i : Nat} {d : D} {σ : L2.St} {v : V} (hv : σ[i]? = some (some v)) (r : Rp S Hv v d) : ∀ {Γ : Gm}, RelS S Hv σ Γ → RelS S Hv σ (Γ.set i (some d)) := fun {Γ} rs => by
  have := RelS.set r i rs
  rw [set_self hv] at this
  exact this
end
end GL
namespace GL
open PySem L2 PySem.Spec PyProof.Rows
/-- what a loop walks: the data ds, as long as Km holds of the memory -/
def ItOk (S : Sg) (J : It) (Km : Mem → Prop) (ds : List D) (Fv : Hp) : Prop :=
  ∀ N i H2 μ2, RelM S Fv N H2 μ2 → Km μ2 → (ds.length ≤ i → J.stop i H2) ∧
    ∀ d, ds[i]? = some d → J.go i H2 ∧ ∀ x H', J.yld i H2 x H' → RelM S (vis N H2 (adr μ2)) N H' μ2 ∧ Rp S (vis N H' (adr μ2)) x d
abbrev RI := (Mem → Prop) → List D → Mem → Prop
def WkG (S : Sg) (wi : TI) (Γ : Gm) (μ : Mem) (R : RI) : Prop :=
  ∀ F N σ H, RelM S F N H μ → RelS S (vis N H (adr μ)) σ Γ → ∀ Rr : It → Hp → Prop,
    (∀ J H1 ds Km μ1, RelM S (vis N H (adr μ)) N H1 μ1 → RelS S (vis N H1 (adr μ1)) σ Γ → ItOk S J Km ds (vis N H1 (adr μ1)) → R Km ds μ1 → Rr J H1) → wi σ H Rr
def IterG (X : Cx) (S : Sg) (tg iter : Expr) (Γ : Gm) (μ : Mem) (R : RI) : Prop := ∃ wi, PI X tg iter wi ∧ WkG S wi Γ μ R
section
variable {X : Cx} {S : Sg} {tg iter : Expr} {body : List Stmt} {Γ : Gm} {μ : Mem} {pos : Pos} {E : EG}
theorem st_for (hp : PassesOwn (model X.prog X.w) X.A X.env X.xe) (hc : X.calm = true)
    (hi : IterG X S tg iter Γ μ fun Km ds μ1 => ∃ I : Nat → Gm → Mem → Prop, I 0 Γ μ1 ∧ (∀ i Γ' μ', I i Γ' μ' → Km μ') ∧
      (∀ i d Γ' μ', ds[i]? = some d → I i Γ' μ' → TgG X S (List.range 64) tg d Γ' μ' fun Γ2 μ2 => BlG X S body Γ2 μ2 { nx := I (i + 1), ct := I (i + 1), bk := E.nx, rt := E.rt }) ∧
      (∀ Γ' μ', I ds.length Γ' μ' → E.nx Γ' μ'))
    (hs : ∀ x, foldedSetIterable iter X.env x = pure x := by intro _; rfl) : StG X S (.For tg iter body [] pos) Γ μ E := by
  intro F N σ H r rs
  obtain ⟨wi, hpi, hw⟩ := hi
  refine sx_of (ps_for hp hc hpi pg_ex pss_ex hs) (hw F N σ H r rs _ fun J H1 ds Km μ1 r1 rs1 ok q => ?_)
  obtain ⟨I, i0, ik, it, ie⟩ := q
  have eF : Ex F (vis N H1 (adr μ1)) := r.ext.trans r1.ext
  refine ⟨fun i m σ' H' => m = ds.length - i ∧ i ≤ ds.length ∧ ∃ Γ' μ', RelM S (vis N H1 (adr μ1)) N H' μ' ∧ RelS S (vis N H' (adr μ')) σ' Γ' ∧ I i Γ' μ', ⟨_, rfl, Nat.zero_le _, Γ, μ1, r1.top, rs1, i0⟩, ?_⟩
  rintro i m σ' H' ⟨rfl, hi, Γ', μ', r', rs', hI⟩
  by_cases hlt : i < ds.length
  · obtain ⟨hgo, hy⟩ := (ok N i H' μ' r' (ik i Γ' μ' hI)).2 ds[i] (List.getElem?_eq_getElem hlt)
    refine .inr ⟨hgo, fun σ2 H2 => ∃ Γ2 μ2, RelM S (vis N H1 (adr μ1)) N H2 μ2 ∧ RelS S (vis N H2 (adr μ2)) σ2 Γ2 ∧ I (i + 1) Γ2 μ2, fun σ2 H2 ⟨Γ2, μ2, q⟩ => ⟨_, by omega, rfl, hlt, Γ2, μ2, q⟩, fun x H2 hx => ?_⟩
    obtain ⟨r2, rx⟩ := hy x H2 hx
    refine (it i _ Γ' μ' (List.getElem?_eq_getElem hlt) hI (vis N H1 (adr μ1)) N σ' H2 x (r2.weakF r'.ext) (RelS.ext r2.ext rs') rx).mono fun σ3 H3 ⟨_, Γ3, μ3, r3, rs3, hb⟩ => ?_
    intro pins s I0
    refine thn (hb (vis N H1 (adr μ1)) N σ3 H3 r3 rs3 pins s I0) fun f s' q => ?_
    cases f with
    | next => obtain ⟨σ4, H4, I4, q⟩ := q; exact ⟨σ4, H4, I4, q⟩
    | cont => obtain ⟨σ4, H4, I4, q⟩ := q; exact ⟨σ4, H4, I4, q⟩
    | brk =>
      obtain ⟨σ4, H4, I4, Γ4, μ4, r4, rs4, q⟩ := q
      exact ⟨σ4, H4, I4, Γ4, μ4, r4.weakF eF, rs4, q⟩
    | ret u =>
      obtain ⟨v, σ4, H4, I4, rv, d4, μ4, r4, rd4, q⟩ := q
      exact ⟨v, σ4, H4, I4, rv, d4, μ4, r4.weakF eF, rd4, q⟩
  · have e : i = ds.length := by omega
    subst e
    exact .inl ⟨(ok N _ H' μ' r' (ik _ Γ' μ' hI)).1 (Nat.le_refl _), Γ', μ', r'.weakF eF, rs', ie Γ' μ' hI⟩
/-! ### what is walked, by data -/
def IVt (X : Cx) (tg : Expr) : V → Hp → (It → Hp → Prop) → Prop := fun x H R => ∀ (pins : List (Addr × Obj)) (s : Shared) (σ : L2.St) (v : Value), Inv X pins σ H s → RelV x v → wpAny (model X.prog X.w) X.A (pyIter v) (PIE X pins σ tg R) X.xe s
/-- a datum is walked -/
def IterV (X : Cx) (S : Sg) (tg : Expr) (d : D) (μ : Mem) (R : RI) : Prop :=
  ∀ F N H x, RelM S F N H μ → Rp S (vis N H (adr μ)) x d → ∀ Rr : It → Hp → Prop,
    (∀ J H1 ds Km μ1, RelM S (vis N H (adr μ)) N H1 μ1 → ItOk S J Km ds (vis N H1 (adr μ1)) → R Km ds μ1 → Rr J H1) → IVt X tg x H Rr
theorem ig_val {R : RI} (h : EvG X S iter Γ μ fun d μ1 => IterV X S tg d μ1 R) : IterG X S tg iter Γ μ R := by
  refine ⟨fun σ H Rr => EXt X iter σ H fun x H1 => IVt X tg x H1 Rr, ⟨fun pins s σ H Rr I h => ?_⟩, fun F N σ H r rs Rr k => ?_⟩
  · exact thn (h pins s I) fun v s1 ⟨x, H1, I1, rx, q⟩ => q pins s1 σ v I1 rx
  · refine h.use r rs fun v H1 d μ1 r1 rs1 rd q => ?_
    refine q F N H1 v (r1.weakF r.ext) rd Rr fun J H2 ds Km μ2 r2 ok qR => ?_
    exact k J H2 ds Km μ2 (r2.weakF r1.ext) (RelS.ext r2.ext rs1) ok qR
theorem yld_l {K : PySem.W.Frag} {a : Addr} {i : Nat} {H H' : Hp} {x : V} {xs : List V} (h : (Itl K a).yld i H x H') (hx : SqL K H a xs) : H' = H ∧ xs[i]? = some x := ⟨h.1, h.2 xs hx⟩
theorem yld_t {K : PySem.W.Frag} {a : Addr} {i : Nat} {H H' : Hp} {x : V} {xs : List V} (h : (Itt K a).yld i H x H') (hx : SqT K H a xs) : H' = H ∧ xs[i]? = some x := ⟨h.1, h.2 xs hx⟩
theorem at_same {S : Sg} {Hv : Hp} {vs : List V} {ds : List D} {i : Nat} {v : V} {d : D} (r : RpA S Hv vs ds) (h1 : vs[i]? = some v) (h2 : ds[i]? = some d) : Rp S Hv v d := by
  obtain ⟨v', hv, rv⟩ := r.get h2
  rw [h1] at hv
  cases hv
  exact rv
theorem itok_l {S : Sg} {Fv : Hp} {a : Addr} {xs : List V} {l : List D} (h : SqL S.K Fv a xs) (hs : RpA S Fv xs l) : ItOk S (Itl S.K a) (fun _ => True) l Fv := by
  intro N i H2 μ2 r2 _
  have h2 : SqL S.K H2 a xs := r2.le.l h
  refine ⟨fun hi => ⟨xs, h2, by rw [hs.length]; exact hi⟩, fun d hd => ?_⟩
  obtain ⟨v, hv, rv⟩ := hs.get hd
  refine ⟨⟨xs, v, h2, hv⟩, fun x H' hy => ?_⟩
  obtain ⟨rfl, hx⟩ := yld_l hy h2
  rw [hv] at hx
  cases hx
  exact ⟨r2.top, rv.ext r2.ext⟩
theorem itok_t {S : Sg} {Fv : Hp} {a : Addr} {xs : List V} {l : List D} (h : SqT S.K Fv a xs) (hs : RpA S Fv xs l) : ItOk S (Itt S.K a) (fun _ => True) l Fv := by
  intro N i H2 μ2 r2 _
  have h2 : SqT S.K H2 a xs := r2.le.t h
  refine ⟨fun hi => ⟨xs, h2, by rw [hs.length]; exact hi⟩, fun d hd => ?_⟩
  obtain ⟨v, hv, rv⟩ := hs.get hd
  refine ⟨⟨xs, v, h2, hv⟩, fun x H' hy => ?_⟩
  obtain ⟨rfl, hx⟩ := yld_t hy h2
  rw [hv] at hx
  cases hx
  exact ⟨r2.top, rv.ext r2.ext⟩
theorem itok_m {S : Sg} {Fv : Hp} {a : Addr} {l : List D} : ItOk S (Itl S.K a) (fun μ' => (a, M.lst l) ∈ μ') l Fv := by
  intro N i H2 μ2 r2 hm
  obtain ⟨o, e, rm⟩ := r2.find hm
  cases rm with
  | @lst _ xs hs =>
  have h2 : SqL S.K H2 a xs := SqL.of e
  refine ⟨fun hi => ⟨xs, h2, by rw [hs.length]; exact hi⟩, fun d hd => ?_⟩
  obtain ⟨v, hv, rv⟩ := hs.get hd
  refine ⟨⟨xs, v, h2, hv⟩, fun x H' hy => ?_⟩
  obtain ⟨rfl, hx⟩ := yld_l hy h2
  rw [hv] at hx
  cases hx
  exact ⟨r2.top, rv⟩
theorem iv_sql {H : Hp} {a : Addr} {xs : List V} {Rr : It → Hp → Prop} (h : SqL X.K H a xs) (q : Rr (Itl X.K a) H) : IVt X tg (.ref a) H Rr := by
  intro pins s σ v I rx
  cases rx
  obtain ⟨its, rv, p, hz⟩ := I.list h
  refine wpAny_pyIter_list p.isList ?_
  have hf := I.hok.fresh (Nat.le_refl _)
  refine ⟨_, [s.heap.objs.size], _, _, H, rfl, I.kept (t' := s.toks) (fun b o e => Heap.get?_push_of_some _ e), turn_list a _, ⟨_, Heap.get?_push_size _ rfl, rfl, rfl⟩, ?_, q⟩
  intro b hb
  rw [List.mem_singleton.mp hb]
  exact I.fpOk (Nat.le_refl _) hf
theorem iv_sqt {H : Hp} {a : Addr} {xs : List V} {Rr : It → Hp → Prop} (h : SqT X.K H a xs) (q : Rr (Itt X.K a) H) : IVt X tg (.ref a) H Rr := by
  intro pins s σ v I rx
  cases rx
  obtain ⟨its, rv, p, hz⟩ := I.tuple h
  refine wpAny_pyIter_tuple (show s.heap.IsTuple a its.toArray from p) ?_
  have hf := I.hok.fresh (Nat.le_refl _)
  refine ⟨_, [s.heap.objs.size], _, _, H, rfl, I.kept (t' := s.toks) (fun b o e => Heap.get?_push_of_some _ e), turn_tuple a _, ⟨_, Heap.get?_push_size _ rfl, rfl, rfl⟩, ?_, q⟩
  intro b hb
  rw [List.mem_singleton.mp hb]
  exact I.fpOk (Nat.le_refl _) hf
variable {R : RI} {d : D}
theorem iv_lst (hK : X.K = S.K) {l : List D} (k : R (fun _ => True) l μ) : IterV X S tg (.lst l) μ R := by
  intro F N H x r rx Rr kk
  cases rx with
  | @lst a xs _ h hs =>
  have h' : SqL S.K (vis N H (adr μ)) a xs := SqL.of h
  refine iv_sql (xs := xs) (by rw [hK]; exact vis_le.l h') ?_
  rw [hK]
  exact kk _ H l _ μ r.top (itok_l h' hs) k
theorem iv_tup (hK : X.K = S.K) {l : List D} (k : R (fun _ => True) l μ) : IterV X S tg (.tup l) μ R := by
  intro F N H x r rx Rr kk
  cases rx with
  | @tup a xs _ h hs =>
  refine iv_sqt (xs := xs) (by rw [hK]; exact vis_le.t h) ?_
  rw [hK]
  exact kk _ H l _ μ r.top (itok_t h hs) k
theorem iv_mem (hK : X.K = S.K) {a : Addr} {l : List D} (hm : (a, M.lst l) ∈ μ) (k : R (fun μ' => (a, M.lst l) ∈ μ') l μ) : IterV X S tg (.ref a) μ R := by
  intro F N H x r rx Rr kk
  cases rx
  obtain ⟨o, e, rm⟩ := r.find hm
  cases rm with
  | @lst _ xs hs =>
  refine iv_sql (xs := xs) (SqL.of e) ?_
  rw [hK]
  exact kk _ H l _ μ r.top itok_m k
theorem iv_scr (hK : X.K = S.K) {ns : List Int} (k : R (fun _ => True) (ns.map D.int) μ) : IterV X S tg (.scr ns) μ R := by
  intro F N H x r rx Rr kk
  cases rx with
  | @scr a _ h =>
  refine iv_sql (by rw [hK]; exact vis_le.l h) ?_
  rw [hK]
  have hs : ∀ ns : List Int, RpA S (vis N H (adr μ)) (ns.map V.int) (ns.map D.int) := fun ns => by
    induction ns with
    | nil => exact .nil
    | cons n ns ih => exact .cons (.int n) ih
  exact kk _ H _ _ μ r.top (itok_l h (hs ns)) k
/-- range(n) -/
def rng (lo : Int) (n : Nat) : List D := (List.range n).map fun (i : Nat) => D.int (lo + (i : Int))
theorem rng_get {lo : Int} {n i : Nat} {d : D} (h : (rng lo n)[i]? = some d) : i < n ∧ d = .int (lo + i) := by
  unfold rng at h
  rw [List.getElem?_map] at h
  by_cases hi : i < n
  · rw [List.getElem?_range hi] at h
    simp at h
    exact ⟨hi, h.symm⟩
  · rw [List.getElem?_eq_none (by rw [List.length_range]; omega)] at h
    cases h
theorem rng_len {lo : Int} {n : Nat} : (rng lo n).length = n := by unfold rng; rw [List.length_map, List.length_range]
theorem itok_r {S : Sg} {Fv : Hp} {lo : Int} {n : Nat} : ItOk S (Itr lo n) (fun _ => True) (rng lo n) Fv := by
  intro N i H2 μ2 r2 _
  refine ⟨fun hi => by rw [rng_len] at hi; exact hi, fun d hd => ?_⟩
  obtain ⟨hi, rfl⟩ := rng_get hd
  refine ⟨hi, fun x H' hy => ?_⟩
  obtain ⟨rfl, rfl⟩ := hy
  exact ⟨r2.top, .int _⟩
theorem ig_range1 {a : Expr} {p : Pos} (hg : Gl X "range") (hm : X.mg "range" = none)
    (h : EvA X S [a] Γ μ fun ds μ1 => ∃ j : Int, ds = [.int j] ∧ (-(2 ^ 62) ≤ j ∧ j < 2 ^ 62) ∧ R (fun _ => True) (rng 0 j.toNat) μ1) (hs : starEach [a] X.env = [(false, eval a X.env)] := by rfl) :
    IterG X S tg (.Call (.Name "range" p) [a] [] pos) Γ μ R := by
  refine ⟨_, pi_range1 hg hm pa_ex hs, fun F N σ H r rs Rr k => ?_⟩
  refine h.use r rs fun vs H1 ds μ1 r1 rs1 rds q => ?_
  obtain ⟨j, rfl, ⟨j1, j2⟩, q⟩ := q
  cases rds with
  | cons h1 h2 =>
  cases h1
  cases h2
  exact ⟨j, rfl, j1, j2, k _ H1 _ _ μ1 r1 rs1 itok_r q⟩
theorem ig_range2 {a b : Expr} {p : Pos} (hg : Gl X "range") (hm : X.mg "range" = none)
    (h : EvA X S [a, b] Γ μ fun ds μ1 => ∃ i j : Int, ds = [.int i, .int j] ∧ (-(2 ^ 62) ≤ i ∧ i < 2 ^ 62 ∧ -(2 ^ 62) ≤ j ∧ j < 2 ^ 62) ∧ R (fun _ => True) (rng i (j - i).toNat) μ1)
    (hs : starEach [a, b] X.env = [(false, eval a X.env), (false, eval b X.env)] := by rfl) (hs2 : starEach [b] X.env = [(false, eval b X.env)] := by rfl) :
    IterG X S tg (.Call (.Name "range" p) [a, b] [] pos) Γ μ R := by
  refine ⟨_, pi_range2 hg hm pa_ex hs hs2, fun F N σ H r rs Rr k => ?_⟩
  refine h.use r rs fun vs H1 ds μ1 r1 rs1 rds q => ?_
  obtain ⟨i, j, rfl, hb, q⟩ := q
  cases rds with
  | cons h1 h2 =>
  cases h1
  cases h2 with
  | cons h1 h2 =>
  cases h1
  cases h2
  exact ⟨i, j, rfl, hb, k _ H1 _ _ μ1 r1 rs1 itok_r q⟩
end
end GL
namespace GL
open PySem L2 PySem.Spec PyProof.Rows
/-! ### an object that is hidden for a while -/
section
variable {S : Sg0} {F N H : Hp} {μ : Mem} {p : Addr} {o o' : HO}
theorem RelM0.hide (r : RelM0 S F N H μ) (hp : H p = none) (ho : ∀ xs, o ≠ .tup xs) : RelM0 S F (upd N p o) (upd H p o) μ ∧ vis (upd N p o) (upd H p o) (adr μ) = vis N H (adr μ) := by
  have hN := hid_new r hp
  have hA := adr_new r hp
  have ev : vis (upd N p o) (upd H p o) (adr μ) = vis N H (adr μ) := by
    funext b
    unfold vis
    by_cases hb : b = p
    · subst hb
      rw [if_pos (.inl (by rw [upd_same]; rfl)), hp]
      split <;> rfl
    · rw [upd_ne hb, upd_ne hb]
  refine ⟨⟨fun b u e => ?_, fun b hb => ?_, by rw [ev]; exact r.ext, r.nd, fun q hq => ?_, fun b xs e => ?_⟩, ev⟩
  rotate_left 3
  · by_cases hb : b = p
    · rw [hb, upd_same] at e
      exact ho xs (Option.some.inj e)
    · rw [upd_ne hb] at e
      exact r.tup b xs e
  · by_cases hb : b = p
    · subst hb
      rw [upd_same] at e ⊢
      exact e
    · rw [upd_ne hb] at e ⊢
      exact r.hid b u e
  · rw [upd_ne (fun e => hA (by rw [← e]; exact hb))]
    exact r.dis b hb
  · obtain ⟨u, e, m⟩ := r.mem q hq
    exact ⟨u, by rw [upd_ne (ne_of_none e hp)]; exact e, by rw [ev]; exact m⟩
theorem RelM0.rehide (r : RelM0 S F (upd N p o) H μ) (ho : ∀ xs, o' ≠ .tup xs) : RelM0 S F (upd N p o') (upd H p o') μ ∧ vis (upd N p o') (upd H p o') (adr μ) = vis (upd N p o) H (adr μ) := by
  have hA : p ∉ adr μ := fun h => by
    have := r.dis p h
    rw [upd_same] at this
    cases this
  have ev : vis (upd N p o') (upd H p o') (adr μ) = vis (upd N p o) H (adr μ) := by
    funext b
    unfold vis
    by_cases hb : b = p
    · subst hb
      rw [if_pos (.inl (by rw [upd_same]; rfl)), if_pos (.inl (by rw [upd_same]; rfl))]
    · rw [upd_ne hb, upd_ne hb, upd_ne hb]
  refine ⟨⟨fun b u e => ?_, fun b hb => ?_, by rw [ev]; exact r.ext, r.nd, fun q hq => ?_, fun b xs e => ?_⟩, ev⟩
  rotate_left 3
  · by_cases hb : b = p
    · rw [hb, upd_same] at e
      exact ho xs (Option.some.inj e)
    · rw [upd_ne hb] at e
      exact r.tup b xs (by rw [upd_ne hb]; exact e)
  · by_cases hb : b = p
    · subst hb
      rw [upd_same] at e ⊢
      exact e
    · rw [upd_ne hb] at e ⊢
      exact r.hid b u (by rw [upd_ne hb]; exact e)
  · have h1 := r.dis b hb
    have hne : b ≠ p := fun e => hA (by rw [← e]; exact hb)
    rw [upd_ne hne] at h1 ⊢
    exact h1
  · obtain ⟨u, e, m⟩ := r.mem q hq
    have hne : q.1 ≠ p := fun z => hA (by rw [← z]; exact List.mem_map_of_mem hq)
    exact ⟨u, by rw [upd_ne hne]; exact e, by rw [ev]; exact m⟩
end
section
variable {S : Sg} {F N H : Hp} {μ : Mem} {p : Addr} {o o' : HO}
theorem RelM.hide (r : RelM S F N H μ) (hp : H p = none) (ho : ∀ xs, o ≠ .tup xs := by intro _ h; cases h) : RelM S F (upd N p o) (upd H p o) μ ∧ vis (upd N p o) (upd H p o) (adr μ) = vis N H (adr μ) :=
  ⟨⟨(r.toRelM0.hide hp ho).1, iv_hid r.iv (hid_new r.toRelM0 hp)⟩, (r.toRelM0.hide hp ho).2⟩
theorem RelM.rehide (r : RelM S F (upd N p o) H μ) (i : S.iv F N) (hN : N p = none) (ho : ∀ xs, o' ≠ .tup xs := by intro _ h; cases h) : RelM S F (upd N p o') (upd H p o') μ ∧ vis (upd N p o') (upd H p o') (adr μ) = vis (upd N p o) H (adr μ) :=
  ⟨⟨(r.toRelM0.rehide ho).1, iv_hid i hN⟩, (r.toRelM0.rehide ho).2⟩
theorem RelM.unhide (r : RelM S F (upd N p o) H μ) (i : S.iv F N) (hN : N p = none) : RelM S F N H μ ∧ Ex (vis (upd N p o) H (adr μ)) (vis N H (adr μ)) ∧ vis N H (adr μ) p = some o :=
  ⟨⟨(r.toRelM0.unhide hN).1, i⟩, (r.toRelM0.unhide hN).2⟩
end
/-! ### comprehensions -/
def wipeG (Γ : Gm) : List Nat → Gm
  | [] => Γ
  | v :: vs => (wipeG Γ vs).set v none
theorem RelS.setN {S : Sg} {Hv : Hp} : ∀ {σ : L2.St} {Γ : Gm} (i : Nat), RelS S Hv σ Γ → RelS S Hv (σ.set i none) (Γ.set i none)
  | _, _, _, .nil => .nil
  | _, _, 0, .cons _ t => .cons (fun d hd => by cases hd) t
  | _, _, i + 1, .cons h t => .cons h (RelS.setN i t)
theorem RelS.wipe {S : Sg} {Hv : Hp} {σ : L2.St} {Γ : Gm} (r : RelS S Hv σ Γ) : ∀ vs : List Nat, RelS S Hv (L2.wipe σ vs) (wipeG Γ vs)
  | [] => r
  | v :: vs => RelS.setN v (RelS.wipe r vs)
/-- the tests of a comprehension -/
def TsXt (X : Cx) (ifs : List Expr) : TT := fun σ H Q => ∃ t Q0, PTs X ifs t ∧ t σ H Q0 ∧ ∀ b H', Q0 b H' → Q b H'
def TsG (X : Cx) (S : Sg) (ifs : List Expr) (Γ : Gm) (μ : Mem) (T : Bool → Mem → Prop) : Prop :=
  ∀ F N σ H, RelM S F N H μ → RelS S (vis N H (adr μ)) σ Γ → ∃ t, PTs X ifs t ∧ t σ H (EndT S F N T)
theorem ts_nil {X : Cx} {S : Sg} {Γ : Gm} {μ : Mem} {T : Bool → Mem → Prop} (k : T true μ) : TsG X S [] Γ μ T := fun F N σ H r rs => ⟨_, pts_nil, μ, r, k⟩
theorem ts_one {X : Cx} {S : Sg} {c : Expr} {Γ : Gm} {μ : Mem} {T : Bool → Mem → Prop} (h : EvT X S c Γ μ T) : TsG X S [c] Γ μ T := fun F N σ H r rs => ⟨_, pts_one pt_ex, h F N σ H r rs⟩
theorem pts_ex {X : Cx} {ifs : List Expr} : PTs X ifs (TsXt X ifs) := ⟨fun pins s σ H Q I h => by
  obtain ⟨t, Q0, ht, q, m⟩ := h
  exact thn (ht.run pins s σ H Q0 I q) fun b s' ⟨H', I', q'⟩ => ⟨H', I', m _ _ q'⟩⟩
/-- where the block of a comprehension runs -/
structure Bk where
  s : Shared
  H : Hp
  C : Addr
  cl : List (Str × Addr)
  fp : List Addr
abbrev Bk.cx (k : Bk) (X : Cx) (scope : Scope) : Cx := X.blk k.s k.H scope (compEnvC scope k.cl k.C X.env) k.fp
/-- a comprehension's turns, over the data -/
def LcG (X : Cx) (S : Sg) (tg elt : Expr) (ifs : List Expr) (scope : Scope) (vs : List Nat) (Γ : Gm) (Km : Mem → Prop) (ds : List D) (μ1 : Mem) (Q : List D → Mem → Prop) : Prop :=
  ∃ I : Nat → List D → Mem → Prop, I 0 [] μ1 ∧ (∀ i acc μ', I i acc μ' → Km μ') ∧
    (∀ i d acc μ', ds[i]? = some d → I i acc μ' → ∀ k : Bk,
      TgG (k.cx X scope) S vs tg d (wipeG Γ vs) μ' fun Γ2 μ2 => ∀ k : Bk, TsG (k.cx X scope) S ifs Γ2 μ2 fun b μ3 =>
          (b = true → ∀ k : Bk, EvG (k.cx X scope) S elt Γ2 μ3 fun y μ4 => acc.length < 16777216 ∧ I (i + 1) (acc ++ [y]) μ4) ∧ (b = false → I (i + 1) acc μ3)) ∧
    (∀ acc μ', I ds.length acc μ' → Q acc μ')
def lcT (X : Cx) (scope : Scope) (ifs : List Expr) : TT := fun σ H Q => ∀ k : Bk, TsXt (k.cx X scope) ifs σ H Q
def lcE (X : Cx) (scope : Scope) (elt : Expr) : TE := fun σ H Q => ∀ k : Bk, EXt (k.cx X scope) elt σ H Q
def lcT' (X : Cx) (scope : Scope) (tg : Expr) : TG := fun v σ H Q => ∀ k : Bk, GXt (k.cx X scope) tg v σ H Q
section
variable {X : Cx} {S : Sg} {tg iter elt : Expr} {ifs : List Expr} {scope : Scope} {own : List (Str × Nat)} {Γ : Gm} {μ : Mem} {pos : Pos}
theorem lc_sem {Qv : VK} {F N H : Hp} {σ : L2.St} {wi : TI} {vs : List Nat} {Q : List D → Mem → Prop}
    (hw : WkG S wi Γ μ fun Km ds μ1 => LcG X S tg elt ifs scope vs Γ Km ds μ1 Q)
    (r : RelM S F N H μ) (rs : RelS S (vis N H (adr μ)) σ Γ) (k : ∀ p H' acc μ', RelM S (vis N H (adr μ)) N H' μ' → RelS S (vis N H' (adr μ')) σ Γ → Rp S (vis N H' (adr μ')) (.ref p) (.lst acc) → Q acc μ' → Qv (.ref p) H') :
    tLc wi (lcT' X scope tg) (lcT X scope ifs) (lcE X scope elt) vs σ H Qv := by
  refine hw F N σ H r rs _ fun J H1 ds Km μ1 r1 rs1 ok q => ?_
  obtain ⟨I, i0, ik, it, ie⟩ := q
  intro p hp
  have hNp : N p = none := hid_new r1.toRelM0 hp
  have ww : wipe (wipe σ vs) vs = wipe σ vs := List.ext_getElem? fun j => by
    rw [wipe_at]
    by_cases hj : j ∈ vs
    · rw [if_pos hj, wipe_at, if_pos hj]
      cases σ[j]? <;> rfl
    · rw [if_neg hj]
  refine ⟨fun i m H' => m = ds.length - i ∧ i ≤ ds.length ∧ ∃ xs acc μ', RelM S (vis N H1 (adr μ1)) (upd N p (.lst xs)) H' μ' ∧ RpA S (vis (upd N p (.lst xs)) H' (adr μ')) xs acc ∧ I i acc μ', ⟨_, rfl, Nat.zero_le _, [], [], μ1, (r1.top.hide hp).1, .nil, i0⟩, ?_⟩
  rintro i m H' ⟨rfl, hi, xs, acc, μ', r', ra, hI⟩
  by_cases hlt : i < ds.length
  · have hd : ds[i]? = some ds[i] := List.getElem?_eq_getElem hlt
    obtain ⟨hgo, hy⟩ := (ok _ i H' μ' r' (ik i acc μ' hI)).2 ds[i] hd
    refine .inr ⟨hgo, fun H2 => ∃ xs acc μ2, RelM S (vis N H1 (adr μ1)) (upd N p (.lst xs)) H2 μ2 ∧ RpA S (vis (upd N p (.lst xs)) H2 (adr μ2)) xs acc ∧ I (i + 1) acc μ2, fun H2 q => ⟨_, by omega, rfl, hlt, q⟩, fun x H2 hx => ?_⟩
    obtain ⟨r2, rx⟩ := hy x H2 hx
    intro kb
    have rw2 : RelS S (vis (upd N p (.lst xs)) H2 (adr μ')) (wipe σ vs) (wipeG Γ vs) := RelS.ext (r'.ext.trans r2.ext) (RelS.wipe rs1 vs)
    refine (it i _ acc μ' hd hI kb _ _ (wipe σ vs) H2 x r2 rw2 rx).mono fun σ3 H3 ⟨hws, Γ3, μ3, r3, rs3, hb⟩ => ⟨by rw [hws, ww], ?_⟩
    intro kt
    obtain ⟨t, ht, qt⟩ := hb kt _ _ σ3 H3 r3.top rs3
    refine ⟨t, _, ht, qt, fun b H4 q4 => ?_⟩
    obtain ⟨μ4, r4, q5, q6⟩ := q4
    have ra4 : RpA S (vis (upd N p (.lst xs)) H4 (adr μ4)) xs acc := ra.ext (r3.ext.trans r4.ext)
    cases b with
    | false => exact ⟨xs, acc, μ4, r4.weakF (r'.ext.trans r3.ext), ra4, q6 rfl⟩
    | true =>
      rw [if_pos rfl]
      intro ke
      refine (q5 rfl ke).use r4 (RelS.ext r4.ext rs3) fun y H5 dy μ5 r5 rs5 ry q7 => ?_
      have hz : xs.length = acc.length := ra.length
      refine ⟨xs, r5.hid p _ upd_same, by rw [sizeLine_eq, hz]; exact q7.1, xs ++ [y], acc ++ [dy], μ5, ?_⟩
      obtain ⟨r6, ev⟩ := (r5.weakF ((r'.ext.trans r3.ext).trans r4.ext)).rehide r1.top.iv hNp (o' := .lst (xs ++ [y]))
      refine ⟨r6, ?_, q7.2⟩
      rw [ev]
      exact (ra4.ext r5.ext).append (.cons ry .nil)
  · have e : i = ds.length := by omega
    subst e
    obtain ⟨u1, u2, u3⟩ := r'.unhide r1.top.iv hNp
    refine .inl ⟨(ok _ _ H' μ' r' (ik _ acc μ' hI)).1 (Nat.le_refl _), k p H' acc μ' (u1.weakF r1.ext) (RelS.ext (r'.ext.trans u2) rs1) (.lst u3 (ra.ext u2)) (ie acc μ' hI)⟩
theorem ev_lc {Q : QD} {vs : List Nat} (hc : X.calm = true) (hN : X.N.Nodup) (ok : BlkOk X.N X.env.scope scope own) (hvs : own.map (·.2) = vs) (hi : IterG X S tg iter Γ μ fun Km ds μ1 => LcG X S tg elt ifs scope vs Γ Km ds μ1 fun acc μ' => Q (.lst acc) μ')
    (hs : ∀ x, foldedSetIterable iter X.env x = pure x := by intro _; rfl) : EvG X S (.ListComp elt [⟨tg, iter, ifs, 0⟩] scope pos) Γ μ Q := by
  intro F N σ H r rs
  obtain ⟨wi, hpi, hw⟩ := hi
  subst hvs
  refine ex_of (pe_lc hc hN hpi ok (g := lcT' X scope tg) (tt := lcT X scope ifs) (te := lcE X scope elt) (fun s H C cl fp => ⟨fun pins s' σ H' v u Q' I rv h => (h ⟨s, H, C, cl, fp⟩) pins s' u I rv⟩) (fun s H C cl fp => ⟨fun pins s' σ H' Q' I h => pts_ex.run pins s' σ H' Q' I (h ⟨s, H, C, cl, fp⟩)⟩) (fun s H C cl fp => ⟨fun pins s' σ H' Q' I h => (h ⟨s, H, C, cl, fp⟩) pins s' I⟩) hs) ?_
  exact lc_sem hw r rs fun p H' acc μ' r' _ rp q => ⟨_, μ', r'.weakF r.ext, rp, q⟩
theorem st_setLc {E : EG} {i : Nat} {y : Str} {py spos : Pos} {vs : List Nat} (hc : X.calm = true) (hN : X.N.Nodup) (hy : X.N[i]? = some y) (hyl : X.env.scope.names.lookup y = some .local)
    (hsw : swapsWith (.ListComp elt [⟨tg, iter, ifs, 0⟩] scope pos) (some (.Name y py)) spos.line X.env = pure true) (ok : BlkOk X.N X.env.scope scope own) (hvs : own.map (·.2) = vs)
    (hi : IterG X S tg iter Γ μ fun Km ds μ1 => LcG X S tg elt ifs scope vs Γ Km ds μ1 fun acc μ' => E.nx (Γ.set i (some (.lst acc))) μ') (hs : ∀ x, foldedSetIterable iter X.env x = pure x := by intro _; rfl) :
    StG X S (.Assign [.Name y py] (.ListComp elt [⟨tg, iter, ifs, 0⟩] scope pos) spos) Γ μ E := by
  intro F N σ H r rs
  obtain ⟨wi, hpi, hw⟩ := hi
  subst hvs
  refine sx_of (ps_setLc hc hN hy hyl hsw hpi ok (g := lcT' X scope tg) (tt := lcT X scope ifs) (te := lcE X scope elt) (fun s H C cl fp => ⟨fun pins s' σ H' v u Q' I rv h => (h ⟨s, H, C, cl, fp⟩) pins s' u I rv⟩) (fun s H C cl fp => ⟨fun pins s' σ H' Q' I h => pts_ex.run pins s' σ H' Q' I (h ⟨s, H, C, cl, fp⟩)⟩) (fun s H C cl fp => ⟨fun pins s' σ H' Q' I h => (h ⟨s, H, C, cl, fp⟩) pins s' I⟩) hs) ?_
  exact lc_sem hw r rs fun p H' acc μ' r' rs' rp q => ⟨_, μ', r'.weakF r.ext, RelS.set rp i rs', q⟩
end
end GL
namespace GL
open PySem L2 PySem.Spec PyProof.Rows
/-! ### calls of built-ins -/
section
variable {X : Cx} {S : Sg} {a b e o : Expr} {es : List Expr} {Γ : Gm} {μ : Mem} {Q : QD} {x : Str} {pos p apos : Pos} {d : D}
theorem ev_callB {id : String} (hg : Gl X x) (hm : X.mg x = none) (hv : bootBuiltins x = some (.builtin id)) (h : EvA X S (e :: es) Γ μ fun ds μ1 => CallG X S (.builtin id) ds μ1 Q) (hn : x ≠ "__name__" := by decide) (hdb : (x == ("__debug__" : Str)) = false := by decide)
    (he : starEach (e :: es) X.env = (false, eval e X.env) :: starEach es X.env := by rfl) (hpl : (backTo pos (starEach es X.env)).any (·.1) = false := by rfl) : EvG X S (.Call (.Name x p) (e :: es) [] pos) Γ μ Q := by
  intro F N σ H r rs
  refine ex_of (pe_callB cpr_self hg hm hv pa_ex hn hdb he hpl) (h.use r rs fun vs H1 ds μ1 r1 rs1 rds q => ?_)
  exact q F N H1 vs (r1.weakF r.ext) rds
theorem ev_callTy {T : String} (hg : Gl X x) (hm : X.mg x = none) (hv : bootBuiltins x = some (.type T)) (h : EvA X S (e :: es) Γ μ fun ds μ1 => CallG X S (.type T) ds μ1 Q) (hn : x ≠ "__name__" := by decide) (hdb : (x == ("__debug__" : Str)) = false := by decide)
    (he : starEach (e :: es) X.env = (false, eval e X.env) :: starEach es X.env := by rfl) (hpl : (backTo pos (starEach es X.env)).any (·.1) = false := by rfl) : EvG X S (.Call (.Name x p) (e :: es) [] pos) Γ μ Q := by
  intro F N σ H r rs
  refine ex_of (pe_callTy cpr_self hg hm hv pa_ex hn hdb he hpl) (h.use r rs fun vs H1 ds μ1 r1 rs1 rds q => ?_)
  exact q F N H1 vs (r1.weakF r.ext) rds
theorem RpA.one {S : Sg} {H : Hp} {vs : List V} {d : D} (h : RpA S H vs [d]) : ∃ v, vs = [v] ∧ Rp S H v d := by
  cases h with
  | cons h t =>
  cases t
  exact ⟨_, rfl, h⟩
theorem RpA.two {S : Sg} {H : Hp} {vs : List V} {d e : D} (h : RpA S H vs [d, e]) : ∃ v w, vs = [v, w] ∧ Rp S H v d ∧ Rp S H w e := by
  cases h with
  | cons h t =>
  obtain ⟨w, rfl, r⟩ := t.one
  exact ⟨_, _, rfl, h, r⟩
/-- a list or a tuple as a sequence -/
theorem sq_at {F N H : Hp} {l : List D} {v : V} (hK : X.K = S.K) (h : DrfT μ d l) (r : RelM S F N H μ) (rv : Rp S (vis N H (adr μ)) v d) : ∃ a xs, v = .ref a ∧ (SqL X.K H a xs ∨ SqT X.K H a xs) ∧ RpA S (vis N H (adr μ)) xs l := by
  cases h with
  | l h =>
    obtain ⟨a, xs, rfl, ha, hs⟩ := h.at r.toRelM0 rv
    exact ⟨a, xs, rfl, .inl (SqL.of ha), hs⟩
  | t l =>
    cases rv with
    | @tup a xs _ ha hs => exact ⟨a, xs, rfl, .inr (by rw [hK]; exact vis_le.t ha), hs⟩
theorem cg_len {l : List D} (hK : X.K = S.K) (h : DrfT μ d l) (k : Q (.int (l.length : Int)) μ) : CallG X S (.builtin "len") [d] μ Q := fun F N H xs r rq => by
  obtain ⟨v, rfl, rv⟩ := rq.one
  obtain ⟨a, ys, rfl, hq, hs⟩ := sq_at hK h r rv
  exact cp_of call_len_seq ⟨a, ys, rfl, hq, _, μ, r, by rw [hs.length]; exact .int _, k⟩
theorem cg_lenS {z : Str} (hz : z.length ≤ 16777216) (k : Q (.int (z.length : Int)) μ) : CallG X S (.builtin "len") [.str z] μ Q := fun F N H xs r rq => by
  obtain ⟨v, rfl, rv⟩ := rq.one
  cases rv
  exact cp_of call_len_str ⟨z, rfl, by rw [sizeLine_eq]; exact hz, _, μ, r, .int _, k⟩
theorem cg_lenScr {ns : List Int} (hK : X.K = S.K) (k : Q (.int (ns.length : Int)) μ) : CallG X S (.builtin "len") [.scr ns] μ Q := fun F N H xs r rq => by
  obtain ⟨v, rfl, rv⟩ := rq.one
  cases rv with
  | scr h =>
  exact cp_of call_len_seq ⟨_, _, rfl, .inl (by rw [hK]; exact vis_le.l h), _, μ, r, by rw [List.length_map]; exact .int _, k⟩
theorem bls_of {Hv : Hp} : ∀ {bs : List Bool} {vs : List V}, RpA S Hv vs (bs.map D.bl) → vs = bs.map V.bl
  | [], _, h => by cases h; rfl
  | _ :: _, _, h => by
    cases h with
    | cons h t =>
    cases h
    rw [bls_of t]
    rfl
theorem ints_of {Hv : Hp} : ∀ {ns : List Int} {vs : List V}, RpA S Hv vs (ns.map D.int) → vs = ns.map V.int
  | [], _, h => by cases h; rfl
  | _ :: _, _, h => by
    cases h with
    | cons h t =>
    cases h
    rw [ints_of t]
    rfl
theorem cg_all {bs : List Bool} (hc : X.calm = true) (h : Drf μ d (bs.map D.bl)) (k : Q (.bl (bs.all id)) μ) : CallG X S (.builtin "all") [d] μ Q := fun F N H xs r rq => by
  obtain ⟨v, rfl, rv⟩ := rq.one
  obtain ⟨a, ys, rfl, ha, hs⟩ := h.at r.toRelM0 rv
  exact cp_of (cr_all hc) ⟨a, bs, rfl, by rw [← bls_of hs]; exact SqL.of ha, _, μ, r, .bl _, k⟩
theorem cg_any {bs : List Bool} (hc : X.calm = true) (h : Drf μ d (bs.map D.bl)) (k : Q (.bl (bs.any id)) μ) : CallG X S (.builtin "any") [d] μ Q := fun F N H xs r rq => by
  obtain ⟨v, rfl, rv⟩ := rq.one
  obtain ⟨a, ys, rfl, ha, hs⟩ := h.at r.toRelM0 rv
  exact cp_of (cr_any hc) ⟨a, bs, rfl, by rw [← bls_of hs]; exact SqL.of ha, _, μ, r, .bl _, k⟩
theorem cg_sum {ns : List Int} (hc : X.calm = true) (h : Drf μ d (ns.map D.int)) (k : Q (.int ns.sum) μ) : CallG X S (.builtin "sum") [d] μ Q := fun F N H xs r rq => by
  obtain ⟨v, rfl, rv⟩ := rq.one
  obtain ⟨a, ys, rfl, ha, hs⟩ := h.at r.toRelM0 rv
  exact cp_of (cr_sum hc) ⟨a, ns, rfl, by rw [← ints_of hs]; exact SqL.of ha, _, μ, r, .int _, k⟩
theorem cg_list {l : List D} (hK : X.K = S.K) (h : DrfT μ d l) (k : Q (.lst l) μ) : CallG X S (.type "list") [d] μ Q := fun F N H xs r rq => by
  obtain ⟨v, rfl, rv⟩ := rq.one
  obtain ⟨a, ys, rfl, hq, hs⟩ := sq_at hK h r rv
  refine cp_of call_list_of ⟨a, ys, rfl, hq, fun p hp => ?_⟩
  exact ⟨_, μ, r.alloc hp, .lst (alloc_at r.toRelM0 hp) (hs.ext (vis_new r.toRelM0 hp)), k⟩
/-- list(xs), to be changed -/
theorem cg_listM {l : List D} (hK : X.K = S.K) (h : DrfT μ d l) (k : ∀ p, p ∉ adr μ → Q (.ref p) ((p, .lst l) :: μ)) : CallG X S (.type "list") [d] μ Q := fun F N H xs r rq => by
  obtain ⟨v, rfl, rv⟩ := rq.one
  obtain ⟨a, ys, rfl, hq, hs⟩ := sq_at hK h r rv
  refine cp_of call_list_of ⟨a, ys, rfl, hq, fun p hp => ?_⟩
  exact ⟨_, _, r.allocM hp (.lst hs), .ref p, k p (adr_new r.toRelM0 hp)⟩
theorem cg_tuple {l : List D} (hK : X.K = S.K) (h : DrfT μ d l) (k : Q (.tup l) μ) : CallG X S (.type "tuple") [d] μ Q := fun F N H xs r rq => by
  obtain ⟨v, rfl, rv⟩ := rq.one
  cases h with
  | l h =>
    obtain ⟨a, ys, rfl, ha, hs⟩ := h.at r.toRelM0 rv
    refine cp_of call_tuple_of ⟨a, ys, rfl, .inl ⟨SqL.of ha, fun p hp => ?_⟩⟩
    exact ⟨_, μ, r.alloc hp, .tup (SqT.of (alloc_at r.toRelM0 hp)) (hs.ext (vis_new r.toRelM0 hp)), k⟩
  | t l =>
    cases rv with
    | @tup a ys _ ha hs => exact cp_of call_tuple_of ⟨a, ys, rfl, .inr ⟨by rw [hK]; exact vis_le.t ha, _, μ, r, .tup ha hs, k⟩⟩
theorem cg_int {i : Int} (k : Q (.int i) μ) : CallG X S (.type "int") [.int i] μ Q := fun F N H xs r rq => by
  obtain ⟨v, rfl, rv⟩ := rq.one
  cases rv
  exact cp_of call_int1 (.inl ⟨i, rfl, _, μ, r, .int _, k⟩)
theorem cg_intB {i : Bool} (k : Q (.int (if i then 1 else 0)) μ) : CallG X S (.type "int") [.bl i] μ Q := fun F N H xs r rq => by
  obtain ⟨v, rfl, rv⟩ := rq.one
  cases rv
  exact cp_of call_int1 (.inr ⟨i, rfl, _, μ, r, .int _, k⟩)
/-! ### isinstance -/
/-- what the text says of a class, for isinstance -/
structure IsC (K : PySem.W.Frag) (C : Addr) : Prop where
  cl : Cls K C
  ha : PySem.W.findIn K (.ref C) "__class__" = some (some (.builtin "object.__class__"))
  hn : PySem.W.specialIn K (.builtin "object.__class__") "__get__" = some (some (.builtin "getset_descriptor.__get__"))
  htk : PySem.W.takesIn K (.builtin "object.__class__") = some true
  hm : PySem.W.mroIn K C (.type "object") = some true
inductive TyD (S : Sg0) (μ : Mem) : D → Value → Prop
  | non : TyD S μ .non (.type "NoneType")
  | bl (b : Bool) : TyD S μ (.bl b) (.type "bool")
  | int (i : Int) : TyD S μ (.int i) (.type "int")
  | str (x : Str) : TyD S μ (.str x) (.type "str")
  | lst {d : D} {l : List D} : Drf μ d l → TyD S μ d (.type "list")
  | tup (l : List D) : TyD S μ (.tup l) (.type "tuple")
  | obj {c : Nat} {l : List D} : IsC S.K (S.cls c) → TyD S μ (.obj c l) (.ref (S.cls c))
  | ins {a C : Addr} {fs : List (Str × D)} : IsC S.K C → (a, M.ins C fs) ∈ μ → TyD S μ (.ref a) (.ref C)
theorem TyD.at {S : Sg0} {F N H : Hp} {v : V} {t : Value} (h : TyD S μ d t) (r : RelM0 S F N H μ) (rv : Rp S (vis N H (adr μ)) v d) : TyX S.K H v t := by
  cases h with
  | non => cases rv; exact .base .non
  | bl => cases rv; exact .base (.bl _)
  | int => cases rv; exact .base (.int _)
  | str => cases rv; exact .base (.str _)
  | lst h =>
    obtain ⟨a, xs, rfl, ha, _⟩ := h.at r rv
    exact .base (.lst ha)
  | tup =>
    cases rv with
    | @tup a xs _ ha hs =>
    rcases vis_le.t ha with ha | ⟨o, its, n, ha, hc, _⟩
    · rcases ha with ha | ⟨o, ha⟩
      · exact .base (.tup ha)
      · exact .fTuple ha
    · exact .kTuple ha hc
  | obj c =>
    cases rv with
    | obj ha _ _ => exact .base (.ins (vis_le _ _ ha) c.cl c.ha c.hn c.htk c.hm)
  | ins c hm =>
    cases rv
    obtain ⟨o, e, rm⟩ := r.find hm
    cases rm with
    | ins h => exact .base (.ins e c.cl c.ha c.hn c.htk c.hm)
theorem cg_isi {C : Addr} {t : Value} {b : Bool} (hK : X.K = S.K) (ty : TyD S μ d t) (e : PySem.W.kitOne S.K t (.ref C) = some b) (k : Q (.bl b) μ) : CallG X S (.builtin "isinstance") [d, .ref C] μ Q := fun F N H xs r rq => by
  obtain ⟨v, w, rfl, rv, rw'⟩ := rq.two
  cases rw'
  exact cp_of call_isi ⟨v, .ref C, t, .ref C, b, rfl, .own C, by rw [hK]; exact ty.at r.toRelM0 rv, by rw [hK]; exact e, _, μ, r, .bl _, k⟩
theorem cg_isiT {n : String} {t : Value} {b : Bool} (hK : X.K = S.K) (ty : TyD S μ d t) (e : PySem.W.kitOne S.K t (.type n) = some b) (k : Q (.bl b) μ) : CallG X S (.builtin "isinstance") [d, .ty n] μ Q := fun F N H xs r rq => by
  obtain ⟨v, w, rfl, rv, rw'⟩ := rq.two
  cases rw'
  exact cp_of call_isi ⟨v, .ty n, t, .type n, b, rfl, .ty n, by rw [hK]; exact ty.at r.toRelM0 rv, by rw [hK]; exact e, _, μ, r, .bl _, k⟩
/-! ### items, slices -/
def IXt (X : Cx) : R2 := fun x y H Q => ∃ r : R2, IxR X r ∧ ∃ Q0 : VK, r x y H Q0 ∧ ∀ v H', Q0 v H' → Q v H'
theorem ixr_self : IxR X (IXt X) := by
  intro va sl pins s σ H x y v u Q I rx ry h hs
  obtain ⟨r, hr, Q0, q, m⟩ := h
  exact thn (hr va sl pins s σ H x y v u Q0 I rx ry q hs) fun _ _ ⟨z, H', I', rz, q⟩ => ⟨z, H', I', rz, m _ _ q⟩
/-- d[e], by data -/
def IxG (X : Cx) (S : Sg) (d1 d2 : D) (μ : Mem) (Q : QD) : Prop :=
  ∀ F N H x y, RelM S F N H μ → Rp S (vis N H (adr μ)) x d1 → Rp S (vis N H (adr μ)) y d2 → IXt X x y H (EndE S F N Q)
theorem ev_ix (hs : PlainIx b) (h : EvG X S a Γ μ fun d1 μ1 => EvG X S b Γ μ1 fun d2 μ2 => IxG X S d1 d2 μ2 Q) : EvG X S (.Subscript a b pos) Γ μ Q := by
  intro F N σ H r rs
  refine ex_of (pe_ix ixr_self pe_ex pe_ex hs) ?_
  refine h.use r rs fun x H1 d1 μ1 r1 rs1 rx hb => ?_
  refine hb.use r1 rs1 fun y H2 d2 μ2 r2 rs2 ry ho => ?_
  exact ho F N H2 x y (r2.weakF (r.ext.trans r1.ext)) (rx.ext r2.ext) ry
theorem RpA.atI {S : Sg} {Hv : Hp} {vs : List V} {ds : List D} {i : Int} {d : D} (r : RpA S Hv vs ds) (h : L2.atI ds i = some d) : ∃ v, L2.atI vs i = some v ∧ Rp S Hv v d := by
  unfold L2.atI at h ⊢
  rw [r.length]
  cases e : ixN ds.length i with
  | none => rw [e] at h; cases h
  | some j =>
    rw [e] at h
    exact r.get h
theorem ig_l {l : List D} {i : Int} {y : D} (h : Drf μ d l) (hi : atI l i = some y) (k : Q y μ) : IxG X S d (.int i) μ Q := fun F N H u v r ru rv => by
  cases rv
  obtain ⟨a, xs, rfl, ha, hs⟩ := h.at r.toRelM0 ru
  obtain ⟨w, hw, rw'⟩ := hs.atI hi
  exact ⟨_, ix_list, EndE S F N Q, ⟨a, xs, i, w, rfl, rfl, SqL.of ha, hw, y, μ, r, rw', k⟩, fun _ _ q => q⟩
theorem ig_t {l : List D} {i : Int} {y : D} (hK : X.K = S.K) (hi : atI l i = some y) (k : Q y μ) : IxG X S (.tup l) (.int i) μ Q := fun F N H u v r ru rv => by
  cases rv
  cases ru with
  | @tup a xs _ ha hs =>
  obtain ⟨w, hw, rw'⟩ := hs.atI hi
  exact ⟨_, ix_tup, EndE S F N Q, ⟨a, xs, i, w, rfl, rfl, by rw [hK]; exact vis_le.t ha, hw, y, μ, r, rw', k⟩, fun _ _ q => q⟩
theorem ig_s {z : Str} {i : Int} {c : Nat} (hz : z.length ≤ 16777216) (hi : atI z.cps.toList i = some c) (k : Q (.str ⟨#[c]⟩) μ) : IxG X S (.str z) (.int i) μ Q := fun F N H u v r ru rv => by
  cases rv
  cases ru
  exact ⟨_, ix_str, EndE S F N Q, ⟨z, i, c, rfl, rfl, by rw [sizeLine_eq]; exact hz, hi, _, μ, r, .str _, k⟩, fun _ _ q => q⟩
theorem ig_scr {ns : List Int} {i y : Int} (hK : X.K = S.K) (hi : atI ns i = some y) (k : Q (.int y) μ) : IxG X S (.scr ns) (.int i) μ Q := fun F N H u v r ru rv => by
  cases rv
  cases ru with
  | @scr a _ ha =>
  have hi' : atI (ns.map V.int) i = some (.int y) := by
    unfold atI at hi ⊢
    rw [List.length_map]
    cases e : ixN ns.length i with
    | none => rw [e] at hi; cases hi
    | some j =>
      rw [e] at hi
      have hi : ns[j]? = some y := hi
      show (ns.map V.int)[j]? = _
      rw [List.getElem?_map, hi]
      rfl
  exact ⟨_, ix_list, EndE S F N Q, ⟨a, _, i, _, rfl, rfl, by rw [hK]; exact vis_le.l ha, hi', _, μ, r, .int _, k⟩, fun _ _ q => q⟩
def cutD (l : List D) (lo hi : Option Int) : List D := (l.drop (HT.sIx l.length 0 lo)).take (HT.sIx l.length l.length hi - HT.sIx l.length 0 lo)
theorem RpA.cut {S : Sg} {Hv : Hp} {vs : List V} {ds : List D} {lo hi : Option Int} (r : RpA S Hv vs ds) : RpA S Hv (cutV vs lo hi) (cutD ds lo hi) := by
  unfold cutV cutD
  rw [r.length]
  exact (r.drop _).take _
/-- one end of a slice -/
def PoG (X : Cx) (S : Sg) (e : Option Expr) (Γ : Gm) (μ : Mem) (P : Option Int → Mem → Prop) : Prop :=
  ∀ F N σ H, RelM S F N H μ → RelS S (vis N H (adr μ)) σ Γ → ∃ t, PO X e t ∧ ∀ Q : Option Int → Hp → Prop, (∀ i H' μ', RelM S (vis N H (adr μ)) N H' μ' → RelS S (vis N H' (adr μ')) σ Γ → P i μ' → Q i H') → t σ H Q
theorem po_no {P : Option Int → Mem → Prop} (k : P none μ) : PoG X S none Γ μ P := fun F N σ H r rs => ⟨_, po_none, fun Q q => q none H μ r.top rs k⟩
theorem po_so {P : Option Int → Mem → Prop} (h : EvG X S e Γ μ fun d μ' => ∃ i, d = .int i ∧ P (some i) μ') : PoG X S (some e) Γ μ P := fun F N σ H r rs => by
  refine ⟨_, po_some pe_ex, fun Q q => h.use r rs fun v H' d μ' r' rs' rd ⟨i, ei, k⟩ => ?_⟩
  subst ei
  cases rd
  exact ⟨i, rfl, q (some i) H' μ' r' rs' k⟩
def SlXt (X : Cx) : V → Option Int → Option Int → Hp → VK → Prop := fun x lo hi H Q => ∃ r, SlR X r ∧ ∃ Q0 : VK, r x lo hi H Q0 ∧ ∀ v H', Q0 v H' → Q v H'
theorem slr_self : SlR X (SlXt X) := by
  intro pins s σ H x v vl vu lo hi sl Q I rx hs pl pu h
  obtain ⟨r, hr, Q0, q, m⟩ := h
  obtain ⟨T, id, h1, h2, h3⟩ := hr pins s σ H x v vl vu lo hi sl Q0 I rx hs pl pu q
  exact ⟨T, id, h1, h2, thn h3 fun _ _ ⟨z, H', I', rz, q⟩ => ⟨z, H', I', rz, m _ _ q⟩⟩
def SlG (X : Cx) (S : Sg) (d : D) (lo hi : Option Int) (μ : Mem) (Q : QD) : Prop :=
  ∀ F N H x, RelM S F N H μ → Rp S (vis N H (adr μ)) x d → SlXt X x lo hi H (EndE S F N Q)
def POt (X : Cx) (e : Option Expr) : TO := fun σ H Q => ∃ t, PO X e t ∧ ∃ Q0, t σ H Q0 ∧ ∀ i H', Q0 i H' → Q i H'
theorem po_ex {e : Option Expr} : PO X e (POt X e) := ⟨fun pins s σ H Q I h => by
  obtain ⟨t, ht, Q0, q, m⟩ := h
  exact thn (ht.run pins s σ H Q0 I q) fun _ _ ⟨v, H', a, b, q'⟩ => ⟨v, H', a, b, m _ _ q'⟩⟩
theorem ev_sl {lo hi : Option Expr} {p2 : Pos} (h : EvG X S e Γ μ fun d μ1 => PoG X S lo Γ μ1 fun l μ2 => PoG X S hi Γ μ2 fun u μ3 => SlG X S d l u μ3 Q) : EvG X S (.Subscript e (.Slice lo hi none p2) pos) Γ μ Q := by
  intro F N σ H r rs
  refine ex_of (pe_slice slr_self pe_ex po_ex po_ex) ?_
  refine h.use r rs fun x H1 d μ1 r1 rs1 rx q1 => ?_
  obtain ⟨t, ht, q⟩ := q1 F N σ H1 (r1.weakF r.ext) rs1
  refine ⟨t, ht, _, q (fun i H2 => ∃ μ2, RelM S (vis N H1 (adr μ1)) N H2 μ2 ∧ RelS S (vis N H2 (adr μ2)) σ Γ ∧ PoG X S hi Γ μ2 fun u μ3 => SlG X S d i u μ3 Q) (fun i H2 μ2 r2 rs2 k => ⟨μ2, r2, rs2, k⟩), ?_⟩
  rintro i H2 ⟨μ2, r2, rs2, q2⟩
  obtain ⟨t', ht', q'⟩ := q2 F N σ H2 (r2.weakF (r.ext.trans r1.ext)) rs2
  refine ⟨t', ht', _, q' (fun u H3 => ∃ μ3, RelM S (vis N H2 (adr μ2)) N H3 μ3 ∧ SlG X S d i u μ3 Q) (fun u H3 μ3 r3 rs3 k => ⟨μ3, r3, k⟩), ?_⟩
  rintro u H3 ⟨μ3, r3, q3⟩
  exact q3 F N H3 x (r3.weakF ((r.ext.trans r1.ext).trans r2.ext)) (rx.ext (r2.ext.trans r3.ext))
theorem slg_l {l : List D} {lo hi : Option Int} (h : Drf μ d l) (k : Q (.lst (cutD l lo hi)) μ) : SlG X S d lo hi μ Q := fun F N H x r rx => by
  obtain ⟨a, xs, rfl, ha, hs⟩ := h.at r.toRelM0 rx
  refine ⟨_, sl_list, EndE S F N Q, ⟨a, xs, rfl, SqL.of ha, fun p hp => ?_⟩, fun _ _ q => q⟩
  exact ⟨_, μ, r.alloc hp, .lst (alloc_at r.toRelM0 hp) (hs.cut.ext (vis_new r.toRelM0 hp)), k⟩
theorem cut_whole {l : List D} {lo hi : Option Int} (h : HT.sIx l.length 0 lo = 0 ∧ HT.sIx l.length l.length hi = l.length) : cutD l lo hi = l := by
  unfold cutD
  rw [h.1, h.2]
  simp
theorem slg_t {l : List D} {lo hi : Option Int} (hK : X.K = S.K) (k : Q (.tup (cutD l lo hi)) μ) : SlG X S (.tup l) lo hi μ Q := fun F N H x r rx => by
  cases rx with
  | @tup a xs _ ha hs =>
  refine ⟨_, sl_tupA, EndE S F N Q, ⟨a, xs, rfl, by rw [hK]; exact vis_le.t ha, fun hw => ?_, fun _ p hp => ?_⟩, fun _ _ q => q⟩
  · rw [hs.length] at hw
    rw [cut_whole hw] at k
    exact ⟨_, μ, r, .tup ha hs, k⟩
  · exact ⟨_, μ, r.alloc hp, .tup (SqT.of (alloc_at r.toRelM0 hp)) (hs.cut.ext (vis_new r.toRelM0 hp)), k⟩
theorem slg_s {z : Str} {lo hi : Option Int} (hz : z.length ≤ 16777216) (k : Q (.str (cutS z lo hi)) μ) : SlG X S (.str z) lo hi μ Q := fun F N H x r rx => by
  cases rx
  exact ⟨_, sl_str, EndE S F N Q, ⟨z, rfl, by rw [sizeLine_eq]; exact hz, _, μ, r, .str _, k⟩, fun _ _ q => q⟩
end
end GL
namespace GL
open PySem L2 PySem.Spec PyProof.Rows
/-! ### promises over the data -/
/-- what goes in, the memory, what is to hold of the result, what of an exception -/
abbrev SpG := List D → Mem → QD → QE → Prop
def spG (S : Sg0) (sg : SpG) : Sp := fun vs H Q E => ∃ F N ds μ, RelM0 S F N H μ ∧ RpA S (vis N H (adr μ)) vs ds ∧
  sg ds μ (fun d μ' => ∀ v H', RelM0 S F N H' μ' → Rp S (vis N H' (adr μ')) v d → Q v H')
    (fun c fs μ' => ∀ dd vs H', RelM0 S F N H' μ' → H' dd = some (.xd ((S.nms c).zip vs)) → vs.length = (S.nms c).length → RpA S (vis N H' (adr μ')) vs fs → N dd = none → dd ∉ adr μ' → E (.ref (S.cls c)) (some dd) H')
/-- the memory in two parts -/
inductive Split : Mem → Mem → Mem → Prop
  | nil : Split [] [] []
  | l {p : Addr × M} {μ a b : Mem} : Split μ a b → Split (p :: μ) (p :: a) b
  | r {p : Addr × M} {μ a b : Mem} : Split μ a b → Split (p :: μ) a (p :: b)
theorem Split.none : ∀ μ : Mem, Split μ [] μ
  | [] => .nil
  | _ :: μ => .r (Split.none μ)
theorem Split.all : ∀ μ : Mem, Split μ μ []
  | [] => .nil
  | _ :: μ => .l (Split.all μ)
theorem Split.mem {μ a b : Mem} (s : Split μ a b) : ∀ q, q ∈ μ ↔ q ∈ a ∨ q ∈ b := by
  induction s with
  | nil => simp
  | l _ ih => intro q; simp only [List.mem_cons, ih q]; exact or_assoc.symm
  | r _ ih => intro q; simp only [List.mem_cons, ih q]; exact or_left_comm
theorem Split.adr {μ a b : Mem} (s : Split μ a b) (c : Addr) : c ∈ GL.adr μ ↔ c ∈ GL.adr a ∨ c ∈ GL.adr b := by
  simp only [GL.adr, List.mem_map]
  constructor
  · rintro ⟨q, hq, e⟩
    rcases (s.mem q).mp hq with h | h
    · exact .inl ⟨q, h, e⟩
    · exact .inr ⟨q, h, e⟩
  · rintro (⟨q, hq, e⟩ | ⟨q, hq, e⟩)
    · exact ⟨q, (s.mem q).mpr (.inl hq), e⟩
    · exact ⟨q, (s.mem q).mpr (.inr hq), e⟩
theorem Split.nd {μ a b : Mem} (s : Split μ a b) (nd : (GL.adr μ).Nodup) : (GL.adr a).Nodup ∧ (GL.adr b).Nodup ∧ ∀ c, c ∈ GL.adr a → c ∉ GL.adr b := by
  induction s with
  | nil => exact ⟨List.nodup_nil, List.nodup_nil, fun c h => by cases h⟩
  | @l p μ a b s ih =>
    obtain ⟨h1, h2⟩ := List.nodup_cons.mp nd
    obtain ⟨i1, i2, i3⟩ := ih h2
    refine ⟨List.nodup_cons.mpr ⟨fun h => h1 ((s.adr _).mpr (.inl h)), i1⟩, i2, fun c h => ?_⟩
    rcases List.mem_cons.mp h with e | h
    · exact fun h' => h1 ((s.adr _).mpr (.inr (e ▸ h')))
    · exact i3 c h
  | @r p μ a b s ih =>
    obtain ⟨h1, h2⟩ := List.nodup_cons.mp nd
    obtain ⟨i1, i2, i3⟩ := ih h2
    refine ⟨i1, List.nodup_cons.mpr ⟨fun h => h1 ((s.adr _).mpr (.inr h)), i2⟩, fun c h h' => ?_⟩
    rcases List.mem_cons.mp h' with e | h'
    · exact h1 ((s.adr _).mpr (.inl (e ▸ h)))
    · exact i3 c h h'
def hidP (N H : Hp) (b : Mem) : Hp := fun c => if c ∈ adr b then H c else N c
section
variable {S : Sg0} {F N H H' : Hp} {μ a b μ' : Mem}
theorem hidP_in (r : RelM0 S F N H μ) (s : Split μ a b) {c : Addr} (h : c ∈ adr b) : ∃ o, hidP N H b c = some o ∧ H c = some o := by
  obtain ⟨o, e⟩ := adr_some r ((s.adr c).mpr (.inr h))
  exact ⟨o, by unfold hidP; rw [if_pos h]; exact e, e⟩
theorem hidP_out {c : Addr} (h : c ∉ adr b) : hidP N H b c = N c := if_neg h
theorem split_vis (r : RelM0 S F N H μ) (s : Split μ a b) : vis (hidP N H b) H (adr a) = vis N H (adr μ) := by
  funext c
  unfold vis
  by_cases hb : c ∈ adr b
  · obtain ⟨o, e, _⟩ := hidP_in r s hb
    rw [if_pos (.inl (by rw [e]; rfl)), if_pos (.inr ((s.adr c).mpr (.inr hb)))]
  · rw [hidP_out hb]
    by_cases ha : c ∈ adr a
    · rw [if_pos (.inr ha), if_pos (.inr ((s.adr c).mpr (.inl ha)))]
    · have hm : c ∉ adr μ := fun h => ((s.adr c).mp h).elim ha hb
      by_cases hN : (N c).isSome = true
      · rw [if_pos (.inl hN), if_pos (.inl hN)]
      · rw [if_neg (by simp [hN, ha]), if_neg (by simp [hN, hm])]
/-- a part of the memory is handed out -/
theorem RelM0.split (r : RelM0 S F N H μ) (s : Split μ a b) : RelM0 S (vis N H (adr μ)) (hidP N H b) H a := by
  have ev := split_vis r s
  obtain ⟨n1, n2, n3⟩ := s.nd r.nd
  refine ⟨fun c o e => ?_, fun c hc => ?_, by rw [ev]; exact Ex.refl _, n1, fun q hq => ?_, fun c xs e => ?_⟩
  rotate_left 3
  · by_cases hb : c ∈ adr b
    · unfold hidP at e
      rw [if_pos hb] at e
      obtain ⟨q, hq, hqc⟩ := List.mem_map.mp ((s.adr c).mpr (.inr hb))
      obtain ⟨o, e1, e2⟩ := r.mem q hq
      rw [hqc, e] at e1
      cases e1
      exact e2.notup xs rfl
    · rw [hidP_out hb] at e
      exact r.tup c xs e
  · by_cases hb : c ∈ adr b
    · unfold hidP at e
      rw [if_pos hb] at e
      exact e
    · rw [hidP_out hb] at e
      exact r.hid c o e
  · rw [hidP_out (n3 c hc)]
    exact r.dis c ((s.adr c).mpr (.inl hc))
  · rw [ev]
    exact r.mem q ((s.mem q).mpr (.inl hq))
/-- .. and comes back -/
theorem RelM0.join (r : RelM0 S F N H μ) (s : Split μ a b) (r' : RelM0 S (vis N H (adr μ)) (hidP N H b) H' μ') :
    RelM0 S F N H' (μ' ++ b) ∧ vis N H' (adr (μ' ++ b)) = vis (hidP N H b) H' (adr μ') := by
  have key : ∀ c, c ∈ adr b → c ∉ adr μ' := fun c hc h => by
    obtain ⟨o, e, _⟩ := hidP_in r s hc
    have := r'.dis c h
    rw [e] at this
    cases this
  have hadr : ∀ c, c ∈ adr (μ' ++ b) ↔ c ∈ adr μ' ∨ c ∈ adr b := fun c => by simp only [adr, List.map_append, List.mem_append]
  have ev : vis N H' (adr (μ' ++ b)) = vis (hidP N H b) H' (adr μ') := by
    funext c
    unfold vis
    by_cases hb : c ∈ adr b
    · obtain ⟨o, e, _⟩ := hidP_in r s hb
      rw [if_pos (.inr ((hadr c).mpr (.inr hb))), if_pos (.inl (by rw [e]; rfl))]
    · rw [hidP_out hb]
      by_cases ha : c ∈ adr μ'
      · rw [if_pos (.inr ((hadr c).mpr (.inl ha))), if_pos (.inr ha)]
      · have hm : c ∉ adr (μ' ++ b) := fun h => ((hadr c).mp h).elim ha hb
        by_cases hN : (N c).isSome = true
        · rw [if_pos (.inl hN), if_pos (.inl hN)]
        · rw [if_neg (by simp only [hN, hm]; simp), if_neg (by simp only [hN, ha]; simp)]
  obtain ⟨n1, n2, n3⟩ := s.nd r.nd
  refine ⟨⟨fun c o e => ?_, fun c hc => ?_, ?_, ?_, fun q hq => ?_, r.tup⟩, ev⟩
  · have hb : c ∉ adr b := fun h => by
      have := r.dis c ((s.adr c).mpr (.inr h))
      rw [this] at e
      cases e
    exact r'.hid c o (by rw [hidP_out hb]; exact e)
  · rcases (hadr c).mp hc with h | h
    · have := r'.dis c h
      rw [hidP_out (fun z => key c z h)] at this
      exact this
    · exact r.dis c ((s.adr c).mpr (.inr h))
  · rw [ev]
    exact r.ext.trans r'.ext
  · show ((μ' ++ b).map _).Nodup
    rw [List.map_append]
    exact List.nodup_append.mpr ⟨r'.nd, n2, fun x hx y hy e => key y hy (e ▸ hx)⟩
  · rw [ev]
    rcases List.mem_append.mp hq with h | h
    · exact r'.mem q h
    · obtain ⟨o, e, m⟩ := r.mem q ((s.mem q).mpr (.inr h))
      obtain ⟨o', e1, e2⟩ := hidP_in r s (List.mem_map_of_mem h : q.1 ∈ adr b)
      rw [e] at e2
      cases e2
      exact ⟨o, r'.hid _ _ e1, m.ext r'.ext⟩
end
/-- what a callee is asked, with the part of the memory that it may change -/
def AskG (S : Sg) (sg : SpG) (ds : List D) (μ : Mem) (Q : QD) : Prop := ∃ a b, Split μ a b ∧ sg ds a (fun d μ' => Q d (μ' ++ b)) (fun C fs μ' => S.qx C fs (μ' ++ b))
/-- a promise does not lean on more than it says -/
def MonoG (sg : SpG) : Prop := ∀ ds μ Q Q' E E', sg ds μ Q E → (∀ d μ', Q d μ' → Q' d μ') → (∀ C fs μ', E C fs μ' → E' C fs μ') → sg ds μ Q' E'
theorem ask_sp {S : Sg} {sg : SpG} {F N H : Hp} {μ : Mem} {vs : List V} {ds : List D} {Q : QD} (hm : MonoG sg) (r : RelM S F N H μ) (rv : RpA S (vis N H (adr μ)) vs ds) (h : AskG S sg ds μ Q) : spG S sg vs H (EndE S F N Q) S.wx := by
  obtain ⟨a, b, s, h⟩ := h
  refine ⟨_, _, ds, a, r.toRelM0.split s, by rw [split_vis r.toRelM0 s]; exact rv, hm _ _ _ _ _ _ h (fun d μ' q v H' r' rd => ?_) (fun c fs μ' q dd vs H' r' hd hl hf n1 n2 => ?_)⟩
  · obtain ⟨j1, j2⟩ := r.toRelM0.join s r'
    exact ⟨d, μ' ++ b, ⟨j1, r.iv⟩, by rw [j2]; exact rd, q⟩
  · obtain ⟨j1, j2⟩ := r.toRelM0.join s r'
    have hb : dd ∉ adr b := fun z => by
      obtain ⟨o, e, _⟩ := hidP_in r.toRelM0 s z
      rw [n1] at e
      cases e
    rw [hidP_out hb] at n1
    exact r.iv _ _ _ ⟨c, dd, vs, fs, μ' ++ b, rfl, rfl, hd, hl, by rw [j2]; exact hf, j1, n1, (fun z => by
      rw [adr, List.map_append] at z
      exact (List.mem_append.mp z).elim n2 hb), q⟩
section
variable {X : Cx} {S : Sg} {CX : CXT} {k : Nat} {f C : Addr} {fd : FuncData} {ps : List Str} {sg : SpG} {dvs : List V} {dfs : List Value} {dds : List D} {x m : Str} {p pos apos : Pos} {e o : Expr} {es : List Expr} {Γ : Gm} {μ : Mem} {Q : QD} {d : D}
theorem ev_call (hm' : MonoG sg) (F : FnOk X.prog X.w X.K X.mg X.base CX k f fd ps (spG S sg)) (hr : Room k X.A) (hg : Gl X x) (hm : X.mg x = some (.ref f)) (hk : PySem.W.keepIn X.K (.ref f) = true) (hb : Binds X.K fd ps dfs) (hd : Vals dvs dfs) (hdd : ∀ Hv, RpA S Hv dvs dds) (hx : Passes CX X S.wx)
    (h : EvA X S (e :: es) Γ μ fun ds μ1 => AskG S sg (ds ++ dds) μ1 Q)
    (hdb : (x == ("__debug__" : Str)) = false := by decide) (he : starEach (e :: es) X.env = (false, eval e X.env) :: starEach es X.env := by rfl) (hpl : (backTo pos (starEach es X.env)).any (·.1) = false := by rfl) :
    EvG X S (.Call (.Name x p) (e :: es) [] pos) Γ μ Q := by
  intro F' N σ H r rs
  refine ex_of (pe_call (E := S.wx) F hr hg hm hk hb hd hx pa_ex hdb he hpl) (h.use r rs fun vs H1 ds μ1 r1 rs1 rds q => ?_)
  exact ask_sp hm' (r1.weakF r.ext) (rds.append (hdd _)) q
theorem ev_call0 (hm' : MonoG sg) (F : FnOk X.prog X.w X.K X.mg X.base CX k f fd ps (spG S sg)) (hr : Room k X.A) (hg : Gl X x) (hm : X.mg x = some (.ref f)) (hk : PySem.W.keepIn X.K (.ref f) = true) (hb : Binds X.K fd ps dfs) (hd : Vals dvs dfs) (hdd : ∀ Hv, RpA S Hv dvs dds) (hx : Passes CX X S.wx)
    (h : AskG S sg dds μ Q) (hdb : (x == ("__debug__" : Str)) = false := by decide) : EvG X S (.Call (.Name x p) [] [] pos) Γ μ Q := by
  intro F' N σ H r rs
  refine ex_of (pe_call0 (E := S.wx) F hr hg hm hk hb hd hx hdb) ?_
  exact ask_sp (vs := dvs) hm' r (hdd _) h
/-! ### instances -/
/-- d is an instance of the class at C, its attributes' names -/
inductive Rcv (S : Sg0) (μ : Mem) : D → Addr → List Str → Prop
  | obj {c : Nat} {l : List D} : Rcv S μ (.obj c l) (S.cls c) (S.nms c)
  | ins {a C : Addr} {fs : List (Str × D)} : (a, M.ins C fs) ∈ μ → Rcv S μ (.ref a) C (fs.map (·.1))
theorem lookup_none : ∀ {ns : List Str} {vs : List V} {m : Str}, m ∉ ns → (ns.zip vs).lookup m = none
  | [], _, _, _ => rfl
  | _ :: _, [], _, _ => rfl
  | n :: ns, v :: vs, m, h => by
    have h1 : m ≠ n := fun e => h (e ▸ List.mem_cons_self)
    have ih := lookup_none (ns := ns) (vs := vs) (m := m) fun z => h (List.mem_cons_of_mem _ z)
    show List.lookup m ((n, v) :: ns.zip vs) = none
    have hb : (m == n) = false := beq_eq_false_iff_ne.mpr h1
    simp only [List.lookup, hb]
    exact ih
theorem RpF.none {S : Sg0} {Hv : Hp} {m : Str} : ∀ {vs : List (Str × V)} {fs : List (Str × D)}, RpF S Hv vs fs → m ∉ fs.map (·.1) → vs.lookup m = Option.none
  | _, _, .nil, _ => rfl
  | _, _, @RpF.cons _ _ f v d vs ds _ t, h => by
    have h1 : m ≠ f := fun e => h (by rw [e]; exact List.mem_cons_self)
    have ih := RpF.none (m := m) t fun z => h (List.mem_cons_of_mem _ z)
    have hb : (m == f) = false := beq_eq_false_iff_ne.mpr h1
    simp only [List.lookup, hb]
    exact ih
theorem Rcv.at {S : Sg0} {F N H : Hp} {ns : List Str} {v : V} (h : Rcv S μ d C ns) (r : RelM0 S F N H μ) (rv : Rp S (vis N H (adr μ)) v d) : ∃ a dx fvs, v = .ref a ∧ H a = some (.ins C dx fvs) ∧ ∀ m, m ∉ ns → fvs.lookup m = none := by
  cases h with
  | obj =>
    cases rv with
    | obj ha hl hs => exact ⟨_, _, _, rfl, vis_le _ _ ha, fun m hm => lookup_none hm⟩
  | ins hm =>
    cases rv
    obtain ⟨o, e, rm⟩ := r.find hm
    cases rm with
    | ins h => exact ⟨_, _, _, rfl, e, fun m hm => h.none hm⟩
/-- o.m(e, ..) -/
theorem ev_meth {pl : Sem Bool} {ns : List Str} (hm' : MonoG sg) (c : Cls X.K C) (hm : Meth X.K C m f) (F : FnOk X.prog X.w X.K X.mg X.base CX k f fd ps (spG S sg)) (hr : Room k X.A) (hb : Binds X.K fd ps dfs) (hd : Vals dvs dfs) (hdd : ∀ Hv, RpA S Hv dvs dds) (hx : Passes CX X S.wx)
    (h : EvG X S o Γ μ fun d μ1 => Rcv S μ1 d C ns ∧ m ∉ ns ∧ EvA X S (e :: es) Γ μ1 fun ds μ2 => AskG S sg (d :: (ds ++ dds)) μ2 Q)
    (hst : starEach (e :: es) X.env = (false, eval e X.env) :: starEach es X.env := by rfl) (hpl : (backTo pos (starEach es X.env)).any (·.1) = false := by rfl)
    (ht : eval (.Call (.Attribute o m apos) (e :: es) [] pos) X.env = (do
      let ov ← eval o X.env
      standAt apos.atName
      let (f, first) ← holding [ov] (getMethod ov m pl)
      callWith pos f first (backTo pos (starEach (e :: es) X.env)) (backToKw pos (keywordEach [] X.env))) := by rfl) :
    EvG X S (.Call (.Attribute o m apos) (e :: es) [] pos) Γ μ Q := by
  intro F' N σ H r rs
  refine ex_of (pe_meth (E := S.wx) pe_ex c hm F hr hb hd hx pa_ex hst hpl ht) (h.use r rs fun v H1 d μ1 r1 rs1 rd ⟨q1, q2, q3⟩ => ?_)
  obtain ⟨a, dx, fvs, e1, e2, e3⟩ := q1.at r1.toRelM0 rd
  refine ⟨a, dx, fvs, e1, e2, e3 m q2, ?_⟩
  refine q3.use r1 rs1 fun vs H2 ds μ2 r2 rs2 rds q => ?_
  exact ask_sp hm' (r2.weakF (r.ext.trans r1.ext)) (.cons (rd.ext r2.ext) (rds.append (hdd _))) q
theorem ev_meth0 {pl : Sem Bool} {ns : List Str} (hm' : MonoG sg) (c : Cls X.K C) (hm : Meth X.K C m f) (F : FnOk X.prog X.w X.K X.mg X.base CX k f fd ps (spG S sg)) (hr : Room k X.A) (hb : Binds X.K fd ps dfs) (hd : Vals dvs dfs) (hdd : ∀ Hv, RpA S Hv dvs dds) (hx : Passes CX X S.wx)
    (h : EvG X S o Γ μ fun d μ1 => Rcv S μ1 d C ns ∧ m ∉ ns ∧ AskG S sg (d :: dds) μ1 Q)
    (ht : eval (.Call (.Attribute o m apos) [] [] pos) X.env = (do
      let ov ← eval o X.env
      standAt apos.atName
      let (f, first) ← holding [ov] (getMethod ov m pl)
      callWith pos f first (backTo pos (starEach [] X.env)) (backToKw pos (keywordEach [] X.env))) := by rfl) :
    EvG X S (.Call (.Attribute o m apos) [] [] pos) Γ μ Q := by
  intro F' N σ H r rs
  refine ex_of (pe_meth0 (E := S.wx) pe_ex c hm F hr hb hd hx ht) (h.use r rs fun v H1 d μ1 r1 rs1 rd ⟨q1, q2, q3⟩ => ?_)
  obtain ⟨a, dx, fvs, e1, e2, e3⟩ := q1.at r1.toRelM0 rd
  refine ⟨a, dx, fvs, e1, e2, e3 m q2, ?_⟩
  exact ask_sp (vs := v :: dvs) hm' (r1.weakF r.ext) (.cons rd (hdd _)) q3
/-- C(..): the new instance is of the memory -/
def NewG (S : Sg) (C : Addr) (sg : SpG) (ds : List D) (μ : Mem) (Q : QD) : Prop := ∃ a b, Split μ a b ∧ ∀ x, x ∉ adr μ → sg (.ref x :: ds) ((x, .ins C []) :: a) (fun d μ' => d = .non ∧ Q (.ref x) (μ' ++ b)) (fun C fs μ' => S.qx C fs (μ' ++ b))
theorem new_sp {F N H : Hp} {vs : List V} {ds : List D} (hm : MonoG sg) (r : RelM S F N H μ) (rv : RpA S (vis N H (adr μ)) vs ds) (h : NewG S C sg ds μ Q) (z dx : Addr) (hz : H z = none) (hdx : H dx = none) (hne : dx ≠ z) :
    spG S sg (.ref z :: vs) (upd (upd H dx (.own z)) z (.ins C dx [])) (fun v H2 => v = .non ∧ EndE S F N Q (.ref z) H2) S.wx := by
  obtain ⟨a, b, s, h⟩ := h
  have r1 := r.alloc (o := .own z) hdx
  have hz1 : upd H dx (.own z) z = none := by rw [upd_ne (Ne.symm hne)]; exact hz
  have r2 := r1.allocM (m := .ins C []) (o := .ins C dx []) hz1 (.ins .nil)
  have s2 : Split ((z, M.ins C []) :: μ) ((z, .ins C []) :: a) b := .l s
  have A : AskG S sg (.ref z :: ds) ((z, M.ins C []) :: μ) (fun d μ' => d = .non ∧ Q (.ref z) μ') := ⟨_, b, s2, h z (adr_new r.toRelM0 hz)⟩
  obtain ⟨F1, N1, ds1, μ1, p1, p2, p3⟩ := ask_sp hm r2 (.cons (.ref z) (rv.ext ((vis_new r.toRelM0 hdx).trans (vis_same r1.toRelM0 hz1)))) A
  refine ⟨F1, N1, ds1, μ1, p1, p2, hm _ _ _ _ _ _ p3 (fun d μ' q v H' r' rd => ?_) fun _ _ _ q => q⟩
  obtain ⟨d', μ2, q1, q2, q3, q4⟩ := q v H' r' rd
  subst q3
  cases q2
  exact ⟨rfl, _, μ2, q1, .ref z, q4⟩
theorem ev_make (hm' : MonoG sg) (M : Mk X.K C f) (F : FnOk X.prog X.w X.K X.mg X.base CX k f fd ps (spG S sg)) (hr : Room (k + 1) X.A) (hg : Gl X x) (hm : X.mg x = some (.ref C)) (hb : Binds X.K fd ps dfs) (hd : Vals dvs dfs) (hdd : ∀ Hv, RpA S Hv dvs dds) (hx : Passes CX X S.wx)
    (h : EvA X S (e :: es) Γ μ fun ds μ1 => NewG S C sg (ds ++ dds) μ1 Q)
    (hdb : (x == ("__debug__" : Str)) = false := by decide) (he : starEach (e :: es) X.env = (false, eval e X.env) :: starEach es X.env := by rfl) (hpl : (backTo pos (starEach es X.env)).any (·.1) = false := by rfl) :
    EvG X S (.Call (.Name x p) (e :: es) [] pos) Γ μ Q := by
  intro F' N σ H r rs
  refine ex_of (pe_make (E := S.wx) M F hr hg hm hb hd hx pa_ex hdb he hpl) (h.use r rs fun vs H1 ds μ1 r1 rs1 rds q => ?_)
  intro z dx hz hdx hne
  exact new_sp hm' (r1.weakF r.ext) (rds.append (hdd _)) q z dx hz hdx hne
theorem ev_make0 (hm' : MonoG sg) (M : Mk X.K C f) (F : FnOk X.prog X.w X.K X.mg X.base CX k f fd ps (spG S sg)) (hr : Room (k + 1) X.A) (hg : Gl X x) (hm : X.mg x = some (.ref C)) (hb : Binds X.K fd ps dfs) (hd : Vals dvs dfs) (hdd : ∀ Hv, RpA S Hv dvs dds) (hx : Passes CX X S.wx)
    (h : NewG S C sg dds μ Q) (hdb : (x == ("__debug__" : Str)) = false := by decide) : EvG X S (.Call (.Name x p) [] [] pos) Γ μ Q := by
  intro F' N σ H r rs
  refine ex_of (pe_make0 (E := S.wx) M F hr hg hm hb hd hx hdb) ?_
  intro z dx hz hdx hne
  exact new_sp hm' r (hdd _) h z dx hz hdx hne
/-- a result that is changed no more -/
def FrzQ (S : Sg0) (Q : QD) : QD := fun d μ => ∃ a, d = .ref a ∧ ∃ μ', (∃ l, Del a (.lst l) μ μ' ∧ Q (.lst l) μ') ∨ (∃ c l, Del a (.ins (S.cls c) ((S.nms c).zip l)) μ μ' ∧ (S.nms c).length = l.length ∧ Q (.obj c l) μ')
theorem frz_end {F N H : Hp} {v : V} (h : EndE S F N (FrzQ S Q) v H) : EndE S F N Q v H := by
  obtain ⟨d, μ1, r, rd, a, rfl, μ', ⟨l, u, q⟩ | ⟨c, l, u, hl, q⟩⟩ := h
  · cases rd
    exact ⟨_, μ', r.del u, r.froz u, q⟩
  · cases rd
    exact ⟨_, μ', r.del u, r.frozI u hl, q⟩
theorem ev_frz (h : EvG X S e Γ μ (FrzQ S Q)) : EvG X S e Γ μ Q := fun F N σ H r rs => (h F N σ H r rs).mono fun _ _ q => frz_end q
theorem bl_frz {sts : List Stmt} {i : Nat} {a : Addr} {l : List D} {μ' : Mem} {E : EG} (hi : Γ[i]? = some (some (.ref a))) (u : Del a (.lst l) μ μ') (h : BlG X S sts (Γ.set i (some (.lst l))) μ' E) : BlG X S sts Γ μ E := fun F N σ H r rs => by
  obtain ⟨v, hv, rv⟩ := RelS.get rs hi
  cases rv
  exact h F N σ H (r.del u) (RelS.frz hv (r.froz u) (RelS.ext (vis_del r.toRelM0 u) rs))
theorem bl_frzI {sts : List Stmt} {i : Nat} {a : Addr} {c : Nat} {l : List D} {μ' : Mem} {E : EG} (hi : Γ[i]? = some (some (.ref a))) (u : Del a (.ins (S.cls c) ((S.nms c).zip l)) μ μ') (hl : (S.nms c).length = l.length) (h : BlG X S sts (Γ.set i (some (.obj c l))) μ' E) : BlG X S sts Γ μ E := fun F N σ H r rs => by
  obtain ⟨v, hv, rv⟩ := RelS.get rs hi
  cases rv
  exact h F N σ H (r.del u) (RelS.frz hv (r.frozI u hl) (RelS.ext (vis_del r.toRelM0 u) rs))
/-! ### attributes -/
/-- what the attribute f of d is -/
inductive FldG (S : Sg0) (μ : Mem) : D → Addr → Str → D → Prop
  | obj {c : Nat} {l : List D} {i : Nat} {f : Str} {y : D} : (S.nms c)[i]? = some f → (S.nms c).Nodup → l[i]? = some y → FldG S μ (.obj c l) (S.cls c) f y
  | ins {a C : Addr} {fs : List (Str × D)} {f : Str} {y : D} : (a, M.ins C fs) ∈ μ → fs.lookup f = some y → FldG S μ (.ref a) C f y
theorem lookup_zip : ∀ {ns : List Str} {vs : List V} {i : Nat} {f : Str} {v : V}, ns.Nodup → ns[i]? = some f → vs[i]? = some v → (ns.zip vs).lookup f = some v
  | [], _, _, _, _, _, h, _ => by simp at h
  | _ :: _, [], _, _, _, _, _, h => by simp at h
  | n :: ns, w :: vs, 0, f, v, nd, h1, h2 => by
    simp at h1 h2
    subst h1 h2
    show List.lookup n ((n, w) :: ns.zip vs) = some w
    simp [List.lookup]
  | n :: ns, w :: vs, i + 1, f, v, nd, h1, h2 => by
    have h1 : ns[i]? = some f := by simpa using h1
    have h2 : vs[i]? = some v := by simpa using h2
    obtain ⟨n1, n2⟩ := List.nodup_cons.mp nd
    have hne : f ≠ n := fun e => n1 (e ▸ List.mem_of_getElem? h1)
    have ih := lookup_zip n2 h1 h2
    show List.lookup f ((n, w) :: ns.zip vs) = some v
    have hb : (f == n) = false := beq_eq_false_iff_ne.mpr hne
    simp only [List.lookup, hb]
    exact ih
theorem RpF.look {S : Sg0} {Hv : Hp} {f : Str} {y : D} : ∀ {vs : List (Str × V)} {fs : List (Str × D)}, RpF S Hv vs fs → fs.lookup f = some y → ∃ v, vs.lookup f = some v ∧ Rp S Hv v y
  | _, _, .nil, h => by cases h
  | _, _, @RpF.cons _ _ g v d vs ds r t, h => by
    by_cases e : f = g
    · subst e
      simp only [List.lookup, beq_self_eq_true] at h ⊢
      cases h
      exact ⟨v, rfl, r⟩
    · have hb : (f == g) = false := beq_eq_false_iff_ne.mpr e
      simp only [List.lookup, hb] at h ⊢
      exact RpF.look t h
theorem FldG.at {S : Sg0} {F N H : Hp} {f : Str} {y : D} {v : V} (h : FldG S μ d C f y) (r : RelM0 S F N H μ) (rv : Rp S (vis N H (adr μ)) v d) : ∃ a dx fvs w, v = .ref a ∧ H a = some (.ins C dx fvs) ∧ fvs.lookup f = some w ∧ Rp S (vis N H (adr μ)) w y := by
  cases h with
  | obj hi nd hy =>
    cases rv with
    | obj ha hl hs =>
    obtain ⟨w, hw, rw'⟩ := hs.get hy
    exact ⟨_, _, _, w, rfl, vis_le _ _ ha, lookup_zip nd hi hw, rw'⟩
  | ins hm hl =>
    cases rv
    obtain ⟨o, e, rm⟩ := r.find hm
    cases rm with
    | ins h =>
    obtain ⟨w, hw, rw'⟩ := h.look hl
    exact ⟨_, _, _, w, rfl, e, hw, rw'⟩
theorem ev_fld {f : Str} (c : Cls X.K C) (n : NoAttr X.K C f) (h : EvG X S e Γ μ fun d μ1 => ∃ y, FldG S μ1 d C f y ∧ Q y μ1) (hb : attributeBase e f X.env (eval e X.env) = eval e X.env := by rfl) : EvG X S (.Attribute e f pos) Γ μ Q := by
  intro F N σ H r rs
  refine ex_of (pe_fld pe_ex hb) (h.use r rs fun v H1 d μ1 r1 rs1 rd ⟨y, q1, q2⟩ => ?_)
  obtain ⟨a, dx, fvs, w, e1, e2, e3, e4⟩ := q1.at r1.toRelM0 rd
  exact ⟨a, C, dx, fvs, w, e1, e2, c, n, e3, y, μ1, r1.weakF r.ext, e4, q2⟩
def putD (f : Str) (d : D) : List (Str × D) → List (Str × D)
  | [] => [(f, d)]
  | (g, x) :: r => if g = f then (g, d) :: r else (g, x) :: putD f d r
theorem RpF.put {S : Sg0} {Hv : Hp} {f : Str} {v : V} {y : D} (rv : Rp S Hv v y) : ∀ {vs : List (Str × V)} {fs : List (Str × D)}, RpF S Hv vs fs → RpF S Hv (putF f v vs) (putD f y fs)
  | _, _, .nil => .cons rv .nil
  | _, _, @RpF.cons _ _ g w d vs ds r t => by
    show RpF S Hv (if g = f then (g, v) :: vs else (g, w) :: putF f v vs) (if g = f then (g, y) :: ds else (g, d) :: putD f y ds)
    by_cases e : g = f
    · rw [if_pos e, if_pos e]
      exact .cons rv t
    · rw [if_neg e, if_neg e]
      exact .cons r (RpF.put rv t)
theorem RpF.length {S : Sg0} {Hv : Hp} : ∀ {vs : List (Str × V)} {fs : List (Str × D)}, RpF S Hv vs fs → vs.length = fs.length
  | _, _, .nil => rfl
  | _, _, .cons _ t => by rw [List.length_cons, List.length_cons, RpF.length t]
theorem st_fld {f : Str} {value : Expr} {pos' : Pos} {E : EG} (c : Cls X.K C) (n : NoAttr X.K C f)
    (h : EvG X S value Γ μ fun y μ1 => EvG X S o Γ μ1 fun d μ2 => ∃ a fs μ3, d = .ref a ∧ Upd a (.ins C fs) (.ins C (putD f y fs)) μ2 μ3 ∧ fs.length < 1000 ∧ E.nx Γ μ3)
    (hs : swapsWith value (some (.Attribute o f pos')) pos.line X.env = pure false := by rfl) : StG X S (.Assign [.Attribute o f pos'] value pos) Γ μ E := by
  intro F N σ H r rs
  refine sx_of (ps_fld pe_ex pe_ex hs) (h.use r rs fun v H1 y μ1 r1 rs1 ry q1 => ?_)
  refine q1.use r1 rs1 fun w H2 d μ2 r2 rs2 rd ⟨a, fs, μ3, ed, u, hl, q⟩ => ?_
  subst ed
  cases rd
  obtain ⟨ob, e, rm⟩ := r2.find u.mem
  cases rm with
  | @ins _ dx _ fvs h' =>
  have r3 := (r2.weakF (r.ext.trans r1.ext)).put u (o := .ins C dx (putF f v fvs)) (.ins (h'.put (ry.ext r2.ext)))
  refine ⟨a, C, dx, fvs, rfl, e, c, n, by rw [h'.length]; exact hl, Γ, μ3, r3, ?_, q⟩
  rw [u.adr, vis_upd (List.mem_map_of_mem u.mem)]
  exact rs2
end
end GL
namespace GL
open PySem L2 PySem.Spec PyProof.Rows
/-! ### a def called once, its body run from the state of the call -/
section
variable {CX : CXT} {P : Program} {w : World} {K : PySem.W.Frag} {mg : Str → Option Value} {base : Heap} {k : Nat} {f : Addr} {N ps : List Str}
theorem fn_once {x qual : Str} {st : Stmt} {fd : FuncData} (F : Fun K x qual st f fd) (S : FnScope N ps (defScope st)) {A : Around} {outer : List Env} {s : Shared} {H : Hp} {args : Args} {us : List Value} {vs : List V} {Q : VK} {E : XK}
    (hr : Room (k + 1) A) (e0 : Env0 P w K mg base A outer s H) (hb : BindsTo s fd args (ps.zip us)) (rv : Vals vs us) (hl : vs.length = ps.length)
    (body : ∀ cdv, Room k (A.deeper (envOfC qual (defScope st) s.heap.objs.size f cdv)) → ∃ t, PSs (cxOf CX P w K mg base N qual (defScope st) f cdv A outer s H E) (defBody st) t ∧ t { nx := fun _ H' => Q .non H', rt := Q } (start N vs) H) :
    codeAny (model P w) A (.call (.ref f) args) (CR CX outer P w H s Q E) s := by
  obtain ⟨oc, od, kV, doc, pm, an, cdv, ct, osl, rfl, lk, hcd⟩ := F.ex
  have KX : K.In s.heap := e0.mod.kin.keeps fun b o e => (e0.bs b o e).1
  refine codeAny_call_function hr.depth (KX _ _ lk) rfl S.co S.gen rfl (PySem.W.codeRec_of KX hcd) (hb _ _ _ _ ?_)
  have hk : ∀ y ∈ ps.zip us, (defScope st).names.lookup y.1 = some .local ∨ ((defScope st).names.lookup y.1 = some .cell ∧ ((cellsFrom (s.heap.objs.size + 1) (defScope st).names []).lookup y.1).isSome = true) := by
    rintro ⟨n, v⟩ hy
    cases S.par n (List.of_mem_zip hy).1 with
    | inl q => exact .inl q
    | inr q => exact .inr ⟨q, PySem.W.cellsFrom_some _ _ _ (.inl q)⟩
  refine wpAny_newFunctionEnv_cells S.kind hk fun env he s1 ic => ?_
  subst he
  have lim : s.heap.NoLimit := e0.mod.nolimit.keeps fun b o e => (e0.bs b o e).1
  obtain ⟨t, ht, hq⟩ := body cdv (hr.deeper _)
  refine ⟨lim.keeps ic.toInCall.keep, codeAny_func ?_⟩
  have I := inv_start (CX := CX) (E := E) S hr.hd e0 hl rv ic
  have fin : ∀ (σ' : L2.St) (H' : Hp) (v : V) (u : Value) (s' : Shared), Inv (cxOf CX P w K mg base N qual (defScope st) f cdv A outer s H E) [] σ' H' s' → RelV v u → Q v H' → CE outer P w H s Q u s' := by
    intro σ' H' v u s' J r q
    exact ⟨v, H', J.os, J.bare, J.base, J.hok, r, q⟩
  refine wpAny_mono (ht.run [] s1 (start N vs) H _ I hq) (fun fl s' hs => ?_) (fun e s' hs => hs)
  cases fl with
  | next =>
    obtain ⟨σ', H', J, q⟩ := hs
    exact fin σ' H' .non .none s' J rfl q
  | ret u =>
    obtain ⟨v, σ', H', J, r, q⟩ := hs
    exact fin σ' H' v u s' J r q
  | brk => obtain ⟨_, _, _, q⟩ := hs; exact q.elim
  | cont => obtain ⟨_, _, _, q⟩ := hs; exact q.elim
end
/-! ### own __iter__ that gives the iterator of a list -/
structure FnIt (P : Program) (w : World) (K : PySem.W.Frag) (mg : Str → Option Value) (base : Heap) (k : Nat) (f C : Addr) (fld : Str) : Prop where
  run : ∀ (A : Around) (outer : List Env) (s : Shared) (H : Hp) (a dx l : Addr) (fs : List (Str × V)) (zs : List V), Room k A → Env0 P w K mg base A outer s H → H a = some (.ins C dx fs) → fs.lookup fld = some (.ref l) → SqL K H l zs →
    codeAny (model P w) A (.call (.ref f) ⟨[.ref a], []⟩) (CR CX0 outer P w H s (fun v H' => ∃ it, v = .ref it ∧ s.heap.objs.size ≤ it ∧ H it = none ∧ H' = upd H it (ItO l it 0)) E0) s
theorem fnit_of {P : Program} {w : World} {K : PySem.W.Frag} {mg : Str → Option Value} {base : Heap} {k : Nat} {f C : Addr} {x qual fld : Str} {st : Stmt} {fd : FuncData} {p1 p2 p3 p4 p5 : Pos}
    (F : Fun K x qual st f fd) (S : FnScope ["self"] ["self"] (defScope st)) (hb : Binds K fd ["self"] [])
    (hbody : defBody st = [.Return (some (.Call (.Name "iter" p1) [.Attribute (.Name "self" p2) fld p3] [] p4)) p5]) (c : Cls K C) (n : NoAttr K C fld) (hm : mg ("iter" : Str) = none) (hg : (defScope st).names.lookup ("iter" : Str) = some .globalImplicit)
    (hv : (defScope st).names.lookup ("self" : Str) = some .local) : FnIt P w K mg base (k + 1) f C fld := by
  refine ⟨fun A outer s H a dx l fs zs hr e0 ha hl hz => ?_⟩
  have KX : K.In s.heap := e0.mod.kin.keeps fun b o e => (e0.bs b o e).1
  refine fn_once F S (us := [.ref a]) (vs := [.ref a]) hr e0 (by simpa using hb s [.ref a] KX rfl) (.cons rfl .nil) rfl fun cdv hr' => ?_
  rw [hbody]
  refine ⟨_, PSs.nox (pss_one (ps_ret (pe_callB ItX.call_iterN hg hm (by decide +kernel) (pa_cons (pe_fld (pe_var (i := 0) rfl (.inl hv)) rfl) pa_nil)))), ?_⟩
  exact ⟨_, rfl, a, C, dx, fs, _, rfl, ha, c, n, hl, l, zs, rfl, hz, fun it h1 h2 => ⟨it, rfl, h2, h1, rfl⟩⟩
section
variable {X : Cx} {S : Sg} {tg : Expr} {μ : Mem} {R : RI} {d : D} {k : Nat} {f C : Addr} {fld : Str}
theorem iv_own {l : List D} (hK : X.K = S.K) (F : FnIt X.prog X.w X.K X.mg X.base k f C fld) (hr : Room k X.A) (hs : PySem.W.findIn X.K (.ref C) "__iter__" = some (some (.ref f))) (hf : PySem.W.isFn X.K (.ref f) = true)
    (h : FldG S μ d C fld (.lst l)) (q : R (fun _ => True) l μ) : IterV X S tg d μ R := by
  intro F0 N H x r rx Rr kk
  obtain ⟨a, dx, fvs, w, rfl, ha, hw, rw'⟩ := h.at r.toRelM0 rx
  cases rw' with
  | @lst la xs _ hl hxs =>
  intro pins s σ v I rv
  cases rv
  obtain ⟨mA, O, _⟩ := ins_get I.hok ha
  obtain ⟨od, J, _⟩ := O.look
  obtain ⟨m, hF⟩ := I.fr
  refine PySem.W.owit_iter hF I.ok.mod.kin J hs hf (wpAny_call (codeAny_mono (F.run X.A X.stack s H a dx la fvs xs hr I.env0 ha hw (SqL.of (vis_le _ _ hl))) fun rs s' hq => ?_))
  cases rs with
  | error e => exact hq.elim
  | ok fl =>
    cases fl with
    | next => exact hq.elim
    | brk => exact hq.elim
    | cont => exact hq.elim
    | ret u =>
      obtain ⟨v, H', I', rv, it, rfl, h1, h2, rfl⟩ := I.after hq
      cases rv
      have eo : upd H it (ItO la it 0) it = some (ItO la it 0) := upd_same
      have eo' := eo
      unfold ItO at eo'
      have ho : s'.heap.get? it = some (GNX.itObj la 0) := L2.itO_get I' eo
      have st : s'.heap.IsListIter it la 0 := ⟨_, ho, rfl, rfl⟩
      refine wpAny_bind (wpAny_typeOf (T := "list_iterator") ⟨_, ho, rfl⟩ ?_)
      refine wpAny_of_eq slot_listiter_next.lookup ?_
      refine ⟨it, [it], _, _, ItX.dropH (upd H it (ItO la it 0)) it, rfl, ItX.inv_drop I' eo', turn_list la it, st, fun b hb => ?_, ?_⟩
      · rw [List.mem_singleton.mp hb]
        exact ItX.inv_fp I' eo (Nat.le_trans I.sz h1)
      · rw [ItX.dropH_upd h2, hK]
        exact kk _ H l _ μ r.top (itok_l (SqL.of hl) hxs) q
end
end GL
namespace GL
open PySem L2 PySem.Spec PyProof.Rows
section
variable {X : Cx} {S : Sg} {CX : CXT} {k : Nat} {f C : Addr} {fd : FuncData} {ps : List Str} {sg : SpG} {Γ : Gm} {μ : Mem} {Q : QD} {d e : D}
/-- a def called by values, somewhere below -/
theorem run_at {A : Around} {sp : Sp} {pins : List (Addr × Obj)} {σ : L2.St} {H : Hp} {s : Shared} {Qv : VK} {us : List Value} {vs : List V} {E : XK} (F : FnOk X.prog X.w X.K X.mg X.base CX k f fd ps sp) (hr : Room k A) (hfr : A.frames = X.A.frames) (hb : Binds X.K fd ps [])
    (hx : Passes CX X E) (I : Inv X pins σ H s) (r : Vals vs us) (h : sp vs H Qv E) : wpAny (model X.prog X.w) A (call (.ref f) us) (EP X pins σ Qv) X.xe s := by
  have e := I.env0
  have e0 : Env0 X.prog X.w X.K X.mg X.base A X.stack s H := ⟨hfr.trans e.frames, e.mod, e.bs, e.bsz, e.funs, e.frf, e.hok, e.bare⟩
  have hl : us.length = ps.length := by rw [← r.length]; exact F.len _ _ _ _ h
  have b := hb s us I.kIn (by rw [List.append_nil]; exact hl)
  rw [List.append_nil] at b
  refine wpAny_call (codeAny_mono (F.run A X.stack s H ⟨us, []⟩ us vs Qv E hr e0 b r h) fun rs s' hq => ?_)
  cases rs with
  | error er => exact hx pins σ H s er s' I hq
  | ok fl =>
    cases fl with
    | ret u => exact I.after hq
    | next => exact hq.elim
    | brk => exact hq.elim
    | cont => exact hq.elim
/-- what the text says of a method of the class at C -/
structure MethG (X : Cx) (S : Sg) (CX : CXT) (k : Nat) (C f : Addr) (m : Str) (fd : FuncData) (ps : List Str) (sg : SpG) : Prop where
  mono : MonoG sg
  at_ : PySem.W.findIn X.K (.ref C) m = some (some (.ref f))
  fn : PySem.W.isFn X.K (.ref f) = true
  ok : FnOk X.prog X.w X.K X.mg X.base CX k f fd ps (spG S sg)
  hb : Binds X.K fd ps []
  hx : Passes CX X S.wx
theorem back_of {pins : List (Addr × Obj)} {σ : L2.St} {Qv : VK} {u : Value} {s : Shared} (h : EP X pins σ Qv u s) : PySem.W.CmpBack (EP X pins σ Qv) u s := by
  obtain ⟨v, H', I', rv, q⟩ := h
  cases u with
  | notImplemented => cases v <;> first | exact nomatch rv | exact nomatch rv.2
  | _ => exact ⟨v, H', I', rv, q⟩
/-- a op b, both of the class -/
theorem og_own {op : Operator} {ns ms : List Str} (M : MethG X S CX k C f (PySem.dunder op.info.2) fd ps sg) (hr : Room k X.A) (hc : PySem.W.selfFirst X.K C = true)
    (h1 : Rcv S μ d C ns) (h2 : Rcv S μ e C ms) (h : AskG S sg [d, e] μ Q) : OpG X S (binaryOp op) d e μ Q := by
  intro F N H x y r rx ry pins s σ v u I rv ru
  obtain ⟨a, dx, fvs, rfl, ha, _⟩ := h1.at r.toRelM0 rx
  obtain ⟨b, dy, gvs, rfl, hb, _⟩ := h2.at r.toRelM0 ry
  cases rv
  cases ru
  obtain ⟨mA, O, _⟩ := ins_get I.hok ha
  obtain ⟨od, J, _⟩ := O.look
  obtain ⟨mB, O', _⟩ := ins_get I.hok hb
  obtain ⟨od', J', _⟩ := O'.look
  obtain ⟨m, hF⟩ := I.fr
  refine PySem.W.binop_K hF I.ok.mod.kin J J'.type hc M.at_ M.fn ?_
  exact thn (run_at (vs := [.ref a, .ref b]) M.ok hr rfl M.hb M.hx I (.cons rfl (.cons rfl .nil)) (ask_sp M.mono r (.cons rx (.cons ry .nil)) h)) fun _ _ q => back_of q
/-- a comparison, the left one of the class -/
theorem rc_own {op : CmpOp} {ns : List Str} (M : MethG X S CX k C f (PySem.cmpInfo op).2.1 fd ps sg) (hr : Room k X.A) (h1 : Rcv S μ d C ns)
    {tb : Value} (hn : PySem.W.notFirst X.K C tb = true) (hb : ∀ F N H y pins s σ u, RelM S F N H μ → Rp S (vis N H (adr μ)) y e → Inv X pins σ H s → RelV y u → PySem.W.Looks (model X.prog X.w) s.heap (typeOf u) tb)
    (h : AskG S sg [d, e] μ Q) : OpG X S (richCompare op) d e μ Q := by
  intro F N H x y r rx ry pins s σ v u I rv ru
  obtain ⟨a, dx, fvs, rfl, ha, _⟩ := h1.at r.toRelM0 rx
  cases rv
  obtain ⟨mA, O, _⟩ := ins_get I.hok ha
  obtain ⟨od, J, _⟩ := O.look
  obtain ⟨m, hF⟩ := I.fr
  refine PySem.W.cmp_K hr.units0 hF I.ok.mod.kin J (hb F N H y pins s σ u r ry I ru) hn M.at_ M.fn ?_
  exact thn (run_at (vs := [.ref a, y]) M.ok hr rfl M.hb M.hx I (.cons rfl (.cons ru .nil)) (ask_sp M.mono r (.cons rx (.cons ry .nil)) h)) fun _ _ q => back_of q
theorem looks_own {ns : List Str} (h2 : Rcv S μ e C ns) : ∀ F N H y pins s σ u, RelM S F N H μ → Rp S (vis N H (adr μ)) y e → Inv X pins σ H s → RelV y u → PySem.W.Looks (model X.prog X.w) s.heap (typeOf u) (.ref C) := by
  intro F N H y pins s σ u r ry I ru
  obtain ⟨b, dy, gvs, rfl, hb, _⟩ := h2.at r.toRelM0 ry
  cases ru
  obtain ⟨mB, O', _⟩ := ins_get I.hok hb
  obtain ⟨od', J', _⟩ := O'.look
  exact J'.type
theorem looks_list {l : List D} (h2 : Drf μ e l) : ∀ F N H y pins s σ u, RelM S F N H μ → Rp S (vis N H (adr μ)) y e → Inv X pins σ H s → RelV y u → PySem.W.Looks (model X.prog X.w) s.heap (typeOf u) (.type "list") := by
  intro F N H y pins s σ u r ry I ru
  obtain ⟨b, ys, rfl, hb, _⟩ := h2.at r.toRelM0 ry
  cases ru
  obtain ⟨_, its, n, _, ho⟩ := I.hok b _ hb
  exact (PySem.W.Looks.ld ho).andThen .now
/-- x in d, d of the class -/
theorem og_inOwn {ns : List Str} (M : MethG X S CX k C f "__contains__" fd ps sg) (hr : Room k X.A) (h1 : Rcv S μ d C ns) (h : AskG S sg [d, e] μ fun z μ' => ∃ b, z = .bl b ∧ Q (.bl b) μ') : OpG X S (compareOp .In) e d μ Q := by
  intro F N H y x r ry rx pins s σ u v I ru rv
  obtain ⟨a, dx, fvs, rfl, ha, _⟩ := h1.at r.toRelM0 rx
  cases rv
  obtain ⟨mA, O, _⟩ := ins_get I.hok ha
  obtain ⟨od, J, _⟩ := O.look
  obtain ⟨m, hF⟩ := I.fr
  refine PySem.W.in_K hF I.ok.mod.kin J M.at_ M.fn ?_
  refine thn (run_at (vs := [.ref a, y]) M.ok hr rfl M.hb M.hx I (.cons rfl (.cons ru .nil)) (ask_sp M.mono r (.cons rx (.cons ry .nil)) h)) fun z s' ⟨w, H', I', rw', d', μ', r', rd, b, eb, q⟩ => ?_
  subst eb
  cases rd
  cases rw'
  exact wpAny_truthy_bool ⟨.bl b, H', I', rfl, _, μ', r', .bl b, q⟩
theorem og_niOwn {ns : List Str} (M : MethG X S CX k C f "__contains__" fd ps sg) (hr : Room k X.A) (h1 : Rcv S μ d C ns) (h : AskG S sg [d, e] μ fun z μ' => ∃ b, z = .bl b ∧ Q (.bl (!b)) μ') : OpG X S (compareOp .NotIn) e d μ Q := by
  intro F N H y x r ry rx pins s σ u v I ru rv
  obtain ⟨a, dx, fvs, rfl, ha, _⟩ := h1.at r.toRelM0 rx
  cases rv
  obtain ⟨mA, O, _⟩ := ins_get I.hok ha
  obtain ⟨od, J, _⟩ := O.look
  obtain ⟨m, hF⟩ := I.fr
  refine PySem.W.notIn_K hF I.ok.mod.kin J M.at_ M.fn ?_
  refine thn (run_at (vs := [.ref a, y]) M.ok hr rfl M.hb M.hx I (.cons rfl (.cons ru .nil)) (ask_sp M.mono r (.cons rx (.cons ry .nil)) h)) fun z s' ⟨w, H', I', rw', d', μ', r', rd, b, eb, q⟩ => ?_
  subst eb
  cases rd
  cases rw'
  exact wpAny_truthy_bool ⟨.bl (!b), H', I', rfl, _, μ', r', .bl _, q⟩
/-- len(d), d of the class -/
theorem cg_lenOwn {ns : List Str} (M : MethG X S CX k C f "__len__" fd ps sg) (hr : Room (k + 1) X.A) (h1 : Rcv S μ d C ns) (h : AskG S sg [d] μ fun z μ' => ∃ n : Int, z = .int n ∧ (0 ≤ n ∧ n < 2 ^ 63) ∧ Q (.int n) μ') : CallG X S (.builtin "len") [d] μ Q := by
  intro F N H xs r rq pins s σ us I rv
  obtain ⟨x, rfl, rx⟩ := rq.one
  obtain ⟨u, rfl, ru⟩ := vals1 rv
  obtain ⟨a, dx, fvs, rfl, ha, _⟩ := h1.at r.toRelM0 rx
  cases ru
  obtain ⟨mA, O, _⟩ := ins_get I.hok ha
  obtain ⟨od, J, _⟩ := O.look
  obtain ⟨m, hF⟩ := I.fr
  refine PySem.W.len_K hF I.ok.mod.kin J M.at_ M.fn ?_
  refine thn (run_at (vs := [.ref a]) M.ok hr.in1 rfl M.hb M.hx I (.cons rfl .nil) (ask_sp M.mono r (.cons rx .nil) h)) fun z s' ⟨w, H', I', rw', d', μ', r', rd, n, en, hn, q⟩ => ?_
  subst en
  cases rd
  obtain ⟨t, rfl⟩ := rw'
  exact ⟨hn, .int n, H', I'.tok _, ⟨_, rfl⟩, _, μ', r', .int n, q⟩
/-- d[e], d of the class -/
theorem ig_own {ns : List Str} (M : MethG X S CX k C f "__getitem__" fd ps sg) (hfi : PySem.W.fnIn X.K f = true) (hr : Room (k + 1) X.A) (h1 : Rcv S μ d C ns) (h : AskG S sg [d, e] μ Q)
    {a b : Expr} {pos : Pos} {Γ : Gm} {μ0 : Mem} (hsl : ∀ o i, subscripted b true o i = runValue (.builtin "lifetime.subscript" ⟨[o, i], []⟩) := by intro _ _; with_unfolding_all rfl) :
    ∀ F N H x y, RelM S F N H μ → Rp S (vis N H (adr μ)) x d → Rp S (vis N H (adr μ)) y e → OPt X (fun v u => subscriptTail a b v u) x y H (EndE S F N Q) := by
  intro F N H x y r rx ry pins s σ v u I rv ru
  obtain ⟨a, dx, fvs, rfl, ha, _⟩ := h1.at r.toRelM0 rx
  cases rv
  obtain ⟨mA, O, _⟩ := ins_get I.hok ha
  obtain ⟨od, J, _⟩ := O.look
  obtain ⟨m, hF⟩ := I.fr
  refine PySem.W.sub_K hF I.ok.mod.kin J M.at_ hfi M.fn ?_ (hsl _ _)
  exact run_at (vs := [.ref a, y]) M.ok hr.in1 rfl M.hb M.hx I (.cons rfl (.cons ru .nil)) (ask_sp M.mono r (.cons rx (.cons ry .nil)) h)
theorem ev_ixOwn {a b : Expr} {pos : Pos} (hfi : PySem.W.fnIn X.K f = true) (hr : Room (k + 1) X.A) (M : MethG X S CX k C f "__getitem__" fd ps sg)
    (h : EvG X S a Γ μ fun d1 μ1 => EvG X S b Γ μ1 fun d2 μ2 => ∃ ns, Rcv S μ2 d1 C ns ∧ AskG S sg [d1, d2] μ2 Q)
    (hsl : ∀ o i, subscripted b true o i = runValue (.builtin "lifetime.subscript" ⟨[o, i], []⟩) := by intro _ _; with_unfolding_all rfl) : EvG X S (.Subscript a b pos) Γ μ Q := by
  intro F N σ H r rs pins s I
  refine Subscript_ (binT pe_ex pe_ex I (h.use r rs fun x H1 d1 μ1 r1 rs1 rx hb => hb.use (P := fun y H2 => OPt X (fun v u => subscriptTail a b v u) x y H2 (EndE S F N Q)) r1 rs1 fun y H2 d2 μ2 r2 rs2 ry ⟨ns, q1, q2⟩ => ?_) fun v u s2 x y H2 I2 rx ry q => q pins s2 σ v u I2 rx ry)
  exact ig_own M hfi hr q1 q2 (a := a) (b := b) (pos := pos) (Γ := Γ) (μ0 := μ) hsl F N H2 x y (r2.weakF (r.ext.trans r1.ext)) (rx.ext r2.ext) ry
end
/-! ### a def's body -/
def startG (N : List Str) (ds : List D) : Gm := ds.map some ++ List.replicate (N.length - ds.length) none
theorem start_rel {S : Sg0} {Hv : Hp} {vs : List V} {ds : List D} {N : List Str} (h : RpA S Hv vs ds) : RelS S Hv (L2.start N vs) (startG N ds) := by
  have h2 : ∀ n, RelS S Hv (List.replicate n none) (List.replicate n none) := fun n => by
    induction n with
    | zero => exact .nil
    | succ n ih => exact .cons (fun d hd => by cases hd) ih
  have h1 : ∀ {vs : List V} {ds : List D} {σ : L2.St} {Γ : Gm}, RpA S Hv vs ds → RelS S Hv σ Γ → RelS S Hv (vs.map some ++ σ) (ds.map some ++ Γ) := by
    intro vs
    induction vs with
    | nil => intro ds σ Γ h t; cases h; exact t
    | cons v vs ih =>
      intro ds σ Γ h t
      cases h with
      | @cons _ _ d ds hv ht => exact .cons (fun e he => by cases he; exact ⟨v, rfl, hv⟩) (ih ht t)
  unfold L2.start startG
  rw [h.length]
  exact h1 h (h2 _)
end GL
namespace GL
open PySem L2 PySem.Spec PyProof.Rows
theorem kit_same {K : PySem.W.Frag} {c : Value} : PySem.W.kitOne K c c = some true := by
  unfold PySem.W.kitOne
  rw [if_pos (beq_self_eq_true c)]
theorem kit_other {K : PySem.W.Frag} {t : Value} {C : Addr} {b : Bool} (h1 : PySem.W.isClsIn K C = true) (h2 : PySem.W.typeIn K (.ref C) = some (.type "type")) (h3 : PySem.W.subIn K t (.ref C) = some b) (h4 : (t == .ref C) = false) : PySem.W.kitOne K t (.ref C) = some b := by
  have h1' : (PySem.W.clsIn K C).isSome = true := h1
  unfold PySem.W.kitOne PySem.W.kitCls
  rw [h4, if_neg Bool.false_ne_true]
  simp only [h1', h2, beq_self_eq_true, Bool.and_self, if_true]
  exact h3
end GL
namespace GL
open PySem L2 PySem.Spec PyProof.Rows
/-! ### short words -/
section
variable {X : Cx} {S : Sg} {a b c e o : Expr} {es : List Expr} {sts : List Stmt} {Γ : Gm} {μ : Mem} {Q : QD} {x : Str} {pos p : Pos} {d : D} {E : EG} {tg iter : Expr} {body : List Stmt}
/-- the name in slot i -/
theorem nm (i : Nat) (k : Q d μ) (hN : X.N[i]? = some x := by rfl) (hv : Vis X.env.scope x := by first | exact Or.inl rfl | exact Or.inr (Or.inl rfl) | exact Or.inr (Or.inr rfl)) (hΓ : Γ[i]? = some (some d) := by rfl)
    (hd : (x == ("__debug__" : Str)) = false := by decide) (hcd : (x == ("__classdict__" : Str)) = false := by decide) : EvG X S (.Name x pos) Γ μ Q := ev_name hN hv hΓ k hd hcd
/-- x = e; .. -/
theorem asg (i : Nat) {pos' : Pos} (nd : X.N.Nodup) (h : EvG X S e Γ μ fun d μ1 => BlG X S sts (Γ.set i (some d)) μ1 E) (hi : X.N[i]? = some x := by rfl) (hx : Loc X.env.scope x := by first | exact Or.inl rfl | exact Or.inr rfl)
    (hs : swapsWith e (some (.Name x pos')) pos.line X.env = pure false := by rfl) (hf : X.fn x = true ∨ X.env.scope.names.lookup x = some .local := by first | exact .inl rfl | exact .inr rfl) : BlG X S (.Assign [.Name x pos'] e pos :: sts) Γ μ E := bl_cons (st_set nd hi hx h hs hf)
/-- if c: ..; .. -/
theorem ifb {orelse : List Stmt} (h : EvT X S c Γ μ fun t μ1 => (t = true → BlG X S body Γ μ1 { E with nx := fun Γ' μ' => BlG X S sts Γ' μ' E }) ∧ (t = false → BlG X S orelse Γ μ1 { E with nx := fun Γ' μ' => BlG X S sts Γ' μ' E })) : BlG X S (.If c body orelse pos :: sts) Γ μ E := bl_cons (st_if h)
theorem ret (h : EvG X S e Γ μ E.rt) : BlG X S (.Return (some e) pos :: sts) Γ μ E := bl_cons (st_ret h)
theorem nil (k : E.nx Γ μ) : BlG X S [] Γ μ E := bl_nil k
theorem tn (i : Nat) {vs : List Nat} {P : Gm → Mem → Prop} (nd : X.N.Nodup) (k : P (Γ.set i (some d)) μ) (hv : i ∈ vs := by decide) (hi : X.N[i]? = some x := by rfl) (hx : Loc X.env.scope x := by first | exact Or.inl rfl | exact Or.inr rfl)
    (hf : X.fn x = true ∨ X.env.scope.names.lookup x = some .local := by first | exact .inl rfl | exact .inr rfl) : TgG X S vs (.Name x pos) d Γ μ P := tg_name hv nd hi hx k hf
/-- for tg in iter: ..; .. -/
theorem forb (hp : PassesOwn (model X.prog X.w) X.A X.env X.xe)
    (hi : IterG X S tg iter Γ μ fun Km ds μ1 => ∃ I : Nat → Gm → Mem → Prop, I 0 Γ μ1 ∧ (∀ i Γ' μ', I i Γ' μ' → Km μ') ∧
      (∀ i d Γ' μ', ds[i]? = some d → I i Γ' μ' → TgG X S (List.range 64) tg d Γ' μ' fun Γ2 μ2 => BlG X S body Γ2 μ2 { nx := I (i + 1), ct := I (i + 1), bk := fun Γ' μ' => BlG X S sts Γ' μ' E, rt := E.rt }) ∧
      (∀ Γ' μ', I ds.length Γ' μ' → BlG X S sts Γ' μ' E))
    (hc : X.calm = true := by rfl) (hs : ∀ x, foldedSetIterable iter X.env x = pure x := by intro _; rfl) : BlG X S (.For tg iter body [] pos :: sts) Γ μ E := bl_cons (st_for hp hc hi hs)
theorem append_at {a : Addr} {l : List D} {μ' : Mem} {d : D} (hu : Upd a (.lst l) (.lst (l ++ [d])) μ μ') (hl : l.length < 16777216) (k : Q .non μ') :
    ∀ F N H x xs, RelM S F N H μ → Rp S (vis N H (adr μ)) x (.ref a) → RpA S (vis N H (adr μ)) xs [d] → rAppend x xs H (EndE S F N Q) := fun F N H x xs r rx rq => by
  cases rx
  obtain ⟨v, rfl, rv⟩ := rq.one
  obtain ⟨ob, e, rm⟩ := r.find hu.mem
  cases rm with
  | @lst _ ys hs => exact ⟨a, ys, v, rfl, rfl, e, by rw [hs.length, sizeLine_eq]; exact hl, _, μ', r.put hu (.lst (hs.append (.cons rv .nil))), .non, k⟩
/-- a built-in type's method, by data -/
def MtG (X : Cx) (S : Sg) (id : String) (d : D) (ds : List D) (μ : Mem) (Q : QD) : Prop :=
  ∀ F N H x xs, RelM S F N H μ → Rp S (vis N H (adr μ)) x d → RpA S (vis N H (adr μ)) xs ds → ∃ r, MtR X id r ∧ ∃ Q0 : VK, r x xs H Q0 ∧ ∀ v H', Q0 v H' → EndE S F N Q v H'
def MTt (X : Cx) (id : String) : V → List V → Hp → VK → Prop := fun x xs H Q => ∃ r, MtR X id r ∧ ∃ Q0 : VK, r x xs H Q0 ∧ ∀ v H', Q0 v H' → Q v H'
theorem mtr_self {id : String} : MtR X id (MTt X id) := by
  intro pins s σ H x xs v us Q I rx rv h
  obtain ⟨r, hr, Q0, q, m⟩ := h
  exact thn (hr pins s σ H x xs v us Q0 I rx rv q) fun _ _ ⟨z, H', I', rz, q⟩ => ⟨z, H', I', rz, m _ _ q⟩
def tyD (μ : Mem) (T : String) (d : D) : Prop := match d with
  | .str _ => T = "str"
  | .lst _ => T = "list"
  | .ref a => T = "list" ∧ ∃ l, (a, M.lst l) ∈ μ
  | _ => False
theorem tyD_at {F N H : Hp} {T : String} {v : V} (h : tyD μ T d) (r : RelM S F N H μ) (rv : Rp S (vis N H (adr μ)) v d) : tyV X.K T v H := by
  cases rv with
  | str x => exact h
  | lst ha hs => exact .inl ⟨h, _, SqL.of (vis_le _ _ ha)⟩
  | ref a =>
    obtain ⟨h1, l, hm⟩ := h
    obtain ⟨o, e, rm⟩ := r.find hm
    cases rm with
    | lst hs => exact .inl ⟨h1, _, SqL.of e⟩
  | _ => exact h.elim
theorem ev_bm {name : Str} {apos : Pos} {T id : String} (pa : PlainAttrs T) (slot : Slot T name id) (hty : typeOf (.builtin id) = pure (.type "method_descriptor"))
    (h : EvG X S o Γ μ fun d μ1 => tyD μ1 T d ∧ EvA X S (e :: es) Γ μ1 fun ds μ2 => MtG X S id d ds μ2 Q)
    (hbase : attributeBase o name X.env (eval o X.env) = eval o X.env := by rfl)
    (hfew : ((backTo pos (starEach (e :: es) X.env)).all (fun x => !x.1) && (backToKw pos (keywordEach [] X.env)).all (fun x => x.1.isSome)
      && decide ((e :: es).length + ([] : List Keyword).length + (if ([] : List Keyword).isEmpty then 0 else 1) < 30)) = true := by rfl)
    (hline : (apos.endLine == pos.line) = true := by rfl) (hs : starEach (e :: es) X.env = (false, eval e X.env) :: starEach es X.env := by rfl) (hplain : (backTo pos (starEach es X.env)).any (·.1) = false := by rfl) :
    EvG X S (.Call (.Attribute o name apos) (e :: es) [] pos) Γ μ Q := by
  intro F N σ H r rs
  refine ex_of (pe_bm pa slot hty mtr_self pe_ex pa_ex hbase hfew hline hs hplain) (h.use r rs fun v H1 d μ1 r1 rs1 rd ⟨q1, q2⟩ => ⟨tyD_at q1 r1 rd, ?_⟩)
  exact q2.use r1 rs1 fun vs H2 ds μ2 r2 rs2 rds q => q F N H2 v vs (r2.weakF (r.ext.trans r1.ext)) (rd.ext r2.ext) rds
/-- xs.append(e) -/
theorem ev_app {apos : Pos} (h : EvG X S o Γ μ fun d μ1 => ∃ a, d = .ref a ∧ (∃ l, (a, M.lst l) ∈ μ1) ∧ EvA X S [e] Γ μ1 fun ds μ2 => ∃ y l μ3, ds = [y] ∧ Upd a (.lst l) (.lst (l ++ [y])) μ2 μ3 ∧ l.length < 16777216 ∧ Q .non μ3)
    (hbase : attributeBase o "append" X.env (eval o X.env) = eval o X.env := by rfl)
    (hfew : ((backTo pos (starEach [e] X.env)).all (fun x => !x.1) && (backToKw pos (keywordEach [] X.env)).all (fun x => x.1.isSome)
      && decide ([e].length + ([] : List Keyword).length + (if ([] : List Keyword).isEmpty then 0 else 1) < 30)) = true := by rfl)
    (hline : (apos.endLine == pos.line) = true := by rfl) (hs : starEach [e] X.env = (false, eval e X.env) :: starEach [] X.env := by rfl) (hplain : (backTo pos (starEach [] X.env)).any (·.1) = false := by rfl) :
    EvG X S (.Call (.Attribute o "append" apos) [e] [] pos) Γ μ Q := by
  refine ev_bm PySem.F.plainAttrs_list PySem.F.slot_list_append PySem.F.type_list_append (h.mono fun d μ1 ⟨a, ed, hl, q⟩ => ?_) hbase hfew hline hs hplain
  subst ed
  refine ⟨⟨rfl, hl⟩, fun F N σ H r rs => (q F N σ H r rs).mono fun vs H' ⟨ds, μ2, r2, rds, y, l, μ3, eds, u, hz, k⟩ => ⟨ds, μ2, r2, rds, ?_⟩⟩
  subst eds
  intro F N H x xs r rx rq
  exact ⟨_, mt_append, _, append_at u hz k F N H x xs r rx rq, fun _ _ q => q⟩
end
/-- a def (with or without defaults) that lets no exception out keeps its promise -/
theorem fund_ok {P : Program} {w : World} {K : PySem.W.Frag} {mg : Str → Option Value} {base : Heap} {S : Sg0} {k : Nat} {f : Addr} {fd : FuncData} {N ps : List Str} {sg : SpG} {x qual : Str} {params : Arguments} {body : List Stmt} {scope : Scope} {dvs : List V} {kws : List (Str × V)}
    (F : FunD K x qual params body scope dvs kws f fd) (sc : FnScope N ps scope) (len : ∀ ds μ Q Ex, sg ds μ Q Ex → ds.length = ps.length)
    (hbody : ∀ (cdv : Value) (A : Around) (outer : List Env) (s : Shared) (H : Hp) (E : XK) (ds : List D) (μ : Mem) (Q : QD) (Ex : QE), Room k (A.deeper (envOfC qual scope s.heap.objs.size f cdv)) → sg ds μ Q Ex →
      BlG (cxOf CX0 P w K mg base N qual scope f cdv A outer s H E).nox S.nx body (startG N ds) μ { nx := fun _ μ' => Q .non μ', rt := Q }) :
    FnOk P w K mg base CX0 (k + 1) f fd ps (spG S sg) := by
  refine F.ok sc (fun vs H Q E h => ?_) (fun cdv A outer s H vs Q E hr h => ?_)
  · obtain ⟨_, _, ds, μ, _, rv, h⟩ := h
    rw [rv.length]
    exact len ds μ _ _ h
  · obtain ⟨F0, N0, ds, μ, r, rv, h⟩ := h
    refine ⟨_, PSs.nox pss_ex, fun pins s' I => ?_⟩
    refine thn (hbody cdv A outer s H E ds μ _ _ hr h F0 N0 (L2.start N vs) H ⟨r, nx_iv⟩ (start_rel rv) pins s' I) fun fl s2 q => ?_
    cases fl with
    | next =>
      obtain ⟨σ', H', I', Γ', μ', r', rs', q⟩ := q
      exact ⟨σ', H', I', q .non H' r'.toRelM0 .non⟩
    | ret u =>
      obtain ⟨v, σ', H', I', rv', d', μ', r', rd, q⟩ := q
      exact ⟨v, σ', H', I', rv', q v H' r'.toRelM0 rd⟩
    | brk => obtain ⟨σ', H', I', Γ', μ', r', rs', q⟩ := q; exact q.elim
    | cont => obtain ⟨σ', H', I', Γ', μ', r', rs', q⟩ := q; exact q.elim
/-- a def that may let an exception out -/
theorem fund_okX {P : Program} {w : World} {K : PySem.W.Frag} {mg : Str → Option Value} {base : Heap} {S : Sg0} {k : Nat} {f : Addr} {fd : FuncData} {N ps : List Str} {sg : SpG} {x qual : Str} {params : Arguments} {body : List Stmt} {scope : Scope} {dvs : List V} {kws : List (Str × V)}
    (F : FunD K x qual params body scope dvs kws f fd) (sc : FnScope N ps scope) (len : ∀ ds μ Q Ex, sg ds μ Q Ex → ds.length = ps.length)
    (hbody : ∀ (cdv : Value) (A : Around) (outer : List Env) (s : Shared) (H : Hp) (E : XK) (ds : List D) (μ : Mem) (Q : QD) (Ex : QE), Room k (A.deeper (envOfC qual scope s.heap.objs.size f cdv)) → sg ds μ Q Ex →
      Takes (cxOf (L2.CX P w) P w K mg base N qual scope f cdv A outer s H E) (fun cls d _ H => E cls d H) →
      BlG (cxOf (L2.CX P w) P w K mg base N qual scope f cdv A outer s H E) ⟨S, Ex, E⟩ body (startG N ds) μ { nx := fun _ μ' => Q .non μ', rt := Q }) :
    FnOk P w K mg base (L2.CX P w) (k + 1) f fd ps (spG S sg) := by
  refine F.ok sc (fun vs H Q E h => ?_) (fun cdv A outer s H vs Q E hr h => ?_)
  · obtain ⟨_, _, ds, μ, _, rv, h⟩ := h
    rw [rv.length]
    exact len ds μ _ _ h
  · obtain ⟨F0, N0, ds, μ, r, rv, h⟩ := h
    refine ⟨_, pss_ex, fun pins s' I => ?_⟩
    have tk : Takes (cxOf (L2.CX P w) P w K mg base N qual scope f cdv A outer s H E) (fun cls d _ H => E cls d H) := takes_of rfl rfl rfl rfl
    refine thn (hbody cdv A outer s H E ds μ _ _ hr h tk F0 N0 (L2.start N vs) H ⟨r, fun cls d H' ⟨c, dd, fs, gs, μ', e1, e2, hd, hl, hf, r', n1, n2, q⟩ => by
      subst e1 e2
      exact q dd fs H' r' hd hl hf n1 n2⟩ (start_rel rv) pins s' I) fun fl s2 q => ?_
    cases fl with
    | next =>
      obtain ⟨σ', H', I', Γ', μ', r', rs', q⟩ := q
      exact ⟨σ', H', I', q .non H' r'.toRelM0 .non⟩
    | ret u =>
      obtain ⟨v, σ', H', I', rv', d', μ', r', rd, q⟩ := q
      exact ⟨v, σ', H', I', rv', q v H' r'.toRelM0 rd⟩
    | brk => obtain ⟨σ', H', I', Γ', μ', r', rs', q⟩ := q; exact q.elim
    | cont => obtain ⟨σ', H', I', Γ', μ', r', rs', q⟩ := q; exact q.elim
end GL
namespace GL
open PySem L2
theorem fund_fun {K : PySem.W.Frag} {x qual : Str} {st : Stmt} {f : Addr} {fd : FuncData} {kws : List (Str × V)} (F : FunD K x qual (defArgs st) (defBody st) (defScope st) [] kws f fd) : Fun K x qual st f fd := by
  obtain ⟨oc, od, dV, kV, doc, pm, an, cdv, ct, osl, e, lk, hcd, hD, _⟩ := F.ex
  rcases hD with ⟨_, rfl⟩ | ⟨h, _⟩
  · exact ⟨⟨oc, od, kV, doc, pm, an, cdv, ct, osl, e, lk, hcd⟩, F.kp⟩
  · exact absurd rfl h
end GL
namespace GL
open PySem L2
theorem iv_seq {X : Cx} {S : Sg} {tg : Expr} {μ : Mem} {R : RI} {d : D} {l : List D} (hK : X.K = S.K) (h : d = .lst l ∨ d = .tup l) (k : R (fun _ => True) l μ) : IterV X S tg d μ R := by
  rcases h with rfl | rfl
  · exact iv_lst hK k
  · exact iv_tup hK k
theorem hu_room {A : Around} {k : Nat} (hr : Room k A) : A.units + 65 < cLine := by have := hr.un; omega
end GL
namespace GL
theorem few {n : Nat} (h : Nat.ble n 16777216 = true := by rfl) : n ≤ 16777216 := Nat.le_of_ble_eq_true h
end GL
namespace GL
open PySem L2
/-- a promise that leaves the memory alone -/
def pr (R : List D → D → Prop) : SpG := fun ds μ Q _ => ∃ d, R ds d ∧ Q d μ
theorem pr_mono {R : List D → D → Prop} : MonoG (pr R) := fun _ _ _ _ _ _ ⟨d, h, q⟩ m _ => ⟨d, h, m _ _ q⟩
theorem ask_pr {S : Sg} {R : List D → D → Prop} {ds : List D} {μ : Mem} {Q : QD} {d : D} (h : R ds d) (q : Q d μ) : AskG S (pr R) ds μ Q := ⟨[], μ, Split.none μ, d, h, q⟩
theorem rOr {α : Type} {a b : α} (h : a = b) : a = b := h
end GL
namespace GL
open PySem L2
theorem b_len : bootBuiltins "len" = some (.builtin "len") := by decide +kernel
theorem b_all : bootBuiltins "all" = some (.builtin "all") := by decide +kernel
theorem b_any : bootBuiltins "any" = some (.builtin "any") := by decide +kernel
theorem b_sum : bootBuiltins "sum" = some (.builtin "sum") := by decide +kernel
theorem b_isinstance : bootBuiltins "isinstance" = some (.builtin "isinstance") := by decide +kernel
theorem b_list : bootBuiltins "list" = some (.type "list") := by decide +kernel
theorem b_tuple : bootBuiltins "tuple" = some (.type "tuple") := by decide +kernel
theorem b_int : bootBuiltins "int" = some (.type "int") := by decide +kernel
theorem b_bool : bootBuiltins "bool" = some (.type "bool") := by decide +kernel
end GL
namespace GL
open PySem L2
section
variable {X : Cx} {S : Sg} {Γ : Gm} {μ : Mem} {Q : QD} {x f : Str} {pos p : Pos} {d y : D} {C : Addr}
/-- x.f of the name in slot i -/
theorem fld (i : Nat) (c : Cls X.K C) (n : NoAttr X.K C f) (h : FldG S μ d C f y) (k : Q y μ) (hN : X.N[i]? = some x := by rfl) (hv : Vis X.env.scope x := by first | exact Or.inl rfl | exact Or.inr (Or.inl rfl) | exact Or.inr (Or.inr rfl)) (hΓ : Γ[i]? = some (some d) := by rfl)
    (hd : (x == ("__debug__" : Str)) = false := by decide) (hcd : (x == ("__classdict__" : Str)) = false := by decide) (hb : attributeBase (.Name x p) f X.env (eval (.Name x p) X.env) = eval (.Name x p) X.env := by rfl) : EvG X S (.Attribute (.Name x p) f pos) Γ μ Q :=
  ev_fld c n (ev_name hN hv hΓ ⟨y, h, k⟩ hd hcd) hb
theorem ea_few {L : List D → Nat} {P' : List D → Mem → Prop} (k : P' [] μ) (h : L [] ≤ 16777216 := by exact few) : EvA X S [] Γ μ fun ds μ1 => L ds ≤ 16777216 ∧ P' ds μ1 := ea_nil ⟨h, k⟩
theorem isi {C : Addr} {t : Value} {b : Bool} (ty : TyD S μ d t) (e : PySem.W.kitOne S.K t (.ref C) = some b) (k : Q (.bl b) μ) (hK : X.K = S.K := by rfl) : CallG X S (.builtin "isinstance") [d, .ref C] μ Q := cg_isi hK ty e k
end
end GL
namespace GL
open PySem L2 PySem.Spec PyProof.Rows
/-! ### spots: pairs of texts -/
abbrev OkS (x : Str) : Prop := PyData.strOk x = true
abbrev Sp2 := Str × Str
def OkP (p : Sp2) : Prop := OkS p.1 ∧ OkS p.2
def spD (p : Sp2) : D := .tup [.str p.1, .str p.2]
theorem spD_ok {p : Sp2} (h : OkP p) : D.ok 1 (spD p) = true := by
  have h1 : PyData.strOk p.1 = true := h.1
  have h2 : PyData.strOk p.2 = true := h.2
  simp [spD, D.ok, D.okA, h1, h2]
theorem spDs_ok {ps : List Sp2} (h : ∀ p ∈ ps, OkP p) : D.okA 1 (ps.map spD) = true := by
  rw [D.okA_all]
  intro d hd
  obtain ⟨p, hp, rfl⟩ := List.mem_map.mp hd
  exact spD_ok (h p hp)
theorem strs_ok {ns : List Str} (h : ∀ n ∈ ns, OkS n) : D.okA 0 (ns.map D.str) = true := by
  rw [D.okA_all]
  intro d hd
  obtain ⟨p, hp, rfl⟩ := List.mem_map.mp hd
  have := h p hp
  simp only [D.ok]
  exact this
theorem eqv_str (x y : Str) : D.eqv (.str x) (.str y) = decide (x = y) := by
  simp only [D.eqv, D.py, PyData.eqv]
  exact Bool.beq_eq_decide_eq x y
theorem eqv_sp (p q : Sp2) : D.eqv (spD p) (spD q) = decide (p = q) := by
  obtain ⟨a, b⟩ := p
  obtain ⟨c, d⟩ := q
  simp only [D.eqv, spD, D.py, D.pyA, PyData.eqv, PyData.eqvAll, Bool.and_true]
  rw [Bool.eq_iff_iff]
  simp
theorem inL_sp (p : Sp2) (qs : List Sp2) : D.inL (spD p) (qs.map spD) = decide (p ∈ qs) := by
  unfold D.inL
  rw [List.any_map]
  induction qs with
  | nil => simp
  | cons q qs ih =>
    rw [List.any_cons, ih]
    show (D.eqv (spD q) (spD p) || decide (p ∈ qs)) = decide (p ∈ q :: qs)
    rw [eqv_sp]
    by_cases h : q = p
    · rw [decide_eq_true h, Bool.true_or, decide_eq_true (h ▸ List.mem_cons_self)]
    · rw [decide_eq_false h, Bool.false_or]
      refine decide_eq_decide.mpr ⟨fun z => List.mem_cons_of_mem _ z, fun z => ?_⟩
      rcases List.mem_cons.mp z with z | z
      · exact absurd z.symm h
      · exact z
theorem inL_str (p : Str) (qs : List Str) : D.inL (.str p) (qs.map D.str) = decide (p ∈ qs) := by
  unfold D.inL
  rw [List.any_map]
  induction qs with
  | nil => simp
  | cons q qs ih =>
    rw [List.any_cons, ih]
    show (D.eqv (.str q) (.str p) || decide (p ∈ qs)) = decide (p ∈ q :: qs)
    rw [eqv_str]
    by_cases h : q = p
    · rw [decide_eq_true h, Bool.true_or, decide_eq_true (h ▸ List.mem_cons_self)]
    · rw [decide_eq_false h, Bool.false_or]
      refine decide_eq_decide.mpr ⟨fun z => List.mem_cons_of_mem _ z, fun z => ?_⟩
      rcases List.mem_cons.mp z with z | z
      · exact absurd z.symm h
      · exact z
theorem eqv_list {α : Type} [DecidableEq α] (f : α → D) (h : ∀ a b, D.eqv (f a) (f b) = decide (a = b)) : ∀ xs ys : List α, D.eqv (.lst (xs.map f)) (.lst (ys.map f)) = decide (xs = ys)
  | [], [] => by simp [D.eqv, D.py, D.pyA, PyData.eqv, PyData.eqvAll]
  | [], _ :: _ => by simp [D.eqv, D.py, D.pyA, PyData.eqv, PyData.eqvAll]
  | _ :: _, [] => by simp [D.eqv, D.py, D.pyA, PyData.eqv, PyData.eqvAll]
  | x :: xs, y :: ys => by
    have ih := eqv_list f h xs ys
    have h1 := h x y
    simp only [D.eqv, D.py, D.pyA, PyData.eqv, PyData.eqvAll, List.map_cons] at ih h1 ⊢
    rw [ih, h1, Bool.eq_iff_iff]
    simp
theorem eqv_sps (ps qs : List Sp2) : D.eqv (.lst (ps.map spD)) (.lst (qs.map spD)) = decide (ps = qs) := eqv_list spD eqv_sp ps qs
/-- each once, in the order of the first occurrences -/
def once (ps : List Sp2) : List Sp2 := ps.foldl (fun acc p => if p ∈ acc then acc else acc ++ [p]) []
theorem once_snoc (ps : List Sp2) (p : Sp2) : once (ps ++ [p]) = if p ∈ once ps then once ps else once ps ++ [p] := by
  unfold once
  rw [List.foldl_append]
  rfl
theorem take_snoc {α : Type} {l : List α} {i : Nat} {x : α} (h : l[i]? = some x) : l.take (i + 1) = l.take i ++ [x] := by
  rw [List.take_succ, h]
  rfl
theorem map_at {α : Type} {f : α → D} {l : List α} {i : Nat} {d : D} (h : (l.map f)[i]? = some d) : ∃ x, l[i]? = some x ∧ d = f x := by
  rw [List.getElem?_map] at h
  cases e : l[i]? with
  | none => rw [e] at h; cases h
  | some x => rw [e] at h; exact ⟨x, rfl, (Option.some.inj h).symm⟩
theorem once_len (ps : List Sp2) : (once ps).length ≤ ps.length := by
  have : ∀ (ps acc : List Sp2), (ps.foldl (fun acc p => if p ∈ acc then acc else acc ++ [p]) acc).length ≤ acc.length + ps.length := by
    intro ps
    induction ps with
    | nil => intro acc; simp
    | cons p ps ih =>
      intro acc
      rw [List.foldl_cons, List.length_cons]
      have := ih (if p ∈ acc then acc else acc ++ [p])
      have h2 : (if p ∈ acc then acc else acc ++ [p]).length ≤ acc.length + 1 := by
        split
        · omega
        · rw [List.length_append, List.length_singleton]; omega
      omega
  have := this ps []
  simpa [once] using this
theorem mem_once {ps : List Sp2} {p : Sp2} : p ∈ once ps ↔ p ∈ ps := by
  have : ∀ (ps acc : List Sp2), p ∈ ps.foldl (fun acc p => if p ∈ acc then acc else acc ++ [p]) acc ↔ p ∈ acc ∨ p ∈ ps := by
    intro ps
    induction ps with
    | nil => intro acc; simp
    | cons q ps ih =>
      intro acc
      rw [List.foldl_cons, ih, List.mem_cons]
      split
      · rename_i h
        constructor
        · rintro (h1 | h1)
          · exact .inl h1
          · exact .inr (.inr h1)
        · rintro (h1 | rfl | h1)
          · exact .inl h1
          · exact .inl h
          · exact .inr h1
      · rw [List.mem_append, List.mem_singleton]
        constructor
        · rintro ((h1 | h1) | h1)
          · exact .inl h1
          · exact .inr (.inl h1)
          · exact .inr (.inr h1)
        · rintro (h1 | h1 | h1)
          · exact .inl (.inl h1)
          · exact .inl (.inr h1)
          · exact .inr h1
  have := this ps []
  simpa [once] using this
theorem once_nodup (ps : List Sp2) : (once ps).Nodup := by
  have : ∀ (ps acc : List Sp2), acc.Nodup → (ps.foldl (fun acc p => if p ∈ acc then acc else acc ++ [p]) acc).Nodup := by
    intro ps
    induction ps with
    | nil => intro acc h; exact h
    | cons q ps ih =>
      intro acc h
      rw [List.foldl_cons]
      refine ih _ ?_
      split
      · exact h
      · rename_i hq
        exact List.nodup_append.mpr ⟨h, by simp, fun a ha b hb e => hq (by rw [List.mem_singleton] at hb; rw [← hb, ← e]; exact ha)⟩
  exact this ps [] List.nodup_nil
theorem once_same {ps : List Sp2} (h : ps.Nodup) : once ps = ps := by
  have : ∀ (ps acc : List Sp2), (acc ++ ps).Nodup → ps.foldl (fun acc p => if p ∈ acc then acc else acc ++ [p]) acc = acc ++ ps := by
    intro ps
    induction ps with
    | nil => intro acc _; simp
    | cons q ps ih =>
      intro acc h
      rw [List.foldl_cons]
      have hq : q ∉ acc := fun hq => (List.nodup_append.mp h).2.2 q hq q List.mem_cons_self rfl
      rw [if_neg hq, ih (acc ++ [q]) (by simpa using h)]
      simp
  simpa [once] using this ps [] (by simpa using h)
theorem cut_tl {l : List D} {n : Nat} : cutD l none (some (n : Int)) = l.take n := by
  unfold cutD
  rw [HT.sIx_none, HT.sIx_nat, List.drop_zero, Nat.sub_zero]
  by_cases h : n ≤ l.length
  · rw [Nat.min_eq_left h]
  · rw [Nat.min_eq_right (by omega), List.take_of_length_le (Nat.le_refl _), List.take_of_length_le (by omega)]
end GL
namespace GL
open PySem L2 PySem.Spec PyProof.Rows
section
variable {S : Sg} {F N H : Hp} {μ μ' : Mem}
theorem vis_perm (p : μ.Perm μ') : vis N H (adr μ') = vis N H (adr μ) := by
  funext b
  have h : b ∈ adr μ' ↔ b ∈ adr μ := ((p.map (·.1)).mem_iff).symm
  unfold vis
  by_cases hb : (N b).isSome = true ∨ b ∈ adr μ
  · rw [if_pos hb, if_pos (hb.imp id h.mpr)]
  · rw [if_neg hb, if_neg fun z => hb (z.imp id h.mp)]
theorem RelM.perm (r : RelM S F N H μ) (p : μ.Perm μ') : RelM S F N H μ' := by
  have ev : vis N H (adr μ') = vis N H (adr μ) := vis_perm p
  refine ⟨⟨r.hid, fun a ha => r.dis a (((p.map (·.1)).mem_iff).mpr ha), by rw [ev]; exact r.ext, (p.map (·.1)).nodup_iff.mp r.nd, fun q hq => ?_, r.tup⟩, r.iv⟩
  rw [ev]
  exact r.mem q (p.mem_iff.mpr hq)
end
section
variable {X : Cx} {S : Sg} {a b c e o : Expr} {es : List Expr} {sts : List Stmt} {Γ : Gm} {μ μ' : Mem} {Q : QD} {x : Str} {pos p : Pos} {d : D} {E : EG}
theorem bl_perm (hp : μ.Perm μ') (h : BlG X S sts Γ μ' E) : BlG X S sts Γ μ E := fun F N σ H r rs => h F N σ H (r.perm hp) (by rw [vis_perm hp]; exact rs)
/-- a list that is to be changed, behind all others -/
theorem ev_lstE (h : EvA X S es Γ μ fun ds μ1 => ds.length ≤ 16777216 ∧ ∀ p, p ∉ adr μ1 → Q (.ref p) (μ1 ++ [(p, .lst ds)])) : EvG X S (.List es pos) Γ μ Q := by
  intro F N σ H r rs
  refine ex_of (pe_lst pa_ex) (h.use r rs fun vs H1 ds μ1 r1 rs1 rd q => ?_)
  refine ⟨by rw [rd.length, sizeLine_eq]; exact q.1, fun p hp => ?_⟩
  have pm : ((p, M.lst ds) :: μ1).Perm (μ1 ++ [(p, .lst ds)]) := (List.perm_append_singleton _ _).symm
  have r2 := (r1.weakF r.ext).allocM (m := .lst ds) hp (.lst rd)
  exact ⟨_, _, r2.perm pm, .ref p, q.2 p (adr_new r1.toRelM0 hp)⟩
theorem cg_listE {l : List D} (hK : X.K = S.K) (h : DrfT μ d l) (k : ∀ p, p ∉ adr μ → Q (.ref p) (μ ++ [(p, .lst l)])) : CallG X S (.type "list") [d] μ Q := fun F N H xs r rq => by
  obtain ⟨v, rfl, rv⟩ := rq.one
  obtain ⟨a, ys, rfl, hq, hs⟩ := sq_at hK h r rv
  refine cp_of call_list_of ⟨a, ys, rfl, hq, fun p hp => ?_⟩
  have pm : ((p, M.lst l) :: μ).Perm (μ ++ [(p, .lst l)]) := (List.perm_append_singleton _ _).symm
  exact ⟨_, _, (r.allocM hp (.lst hs)).perm pm, .ref p, k p (adr_new r.toRelM0 hp)⟩
/-- o[i] = .. -/
theorem tg_sub {i : Expr} {vs : List Nat} {P : Gm → Mem → Prop} (h : EvG X S o Γ μ fun od μ1 => EvG X S i Γ μ1 fun id μ2 => ∃ a l k j μ3, od = .ref a ∧ id = .int k ∧ ixN l.length k = some j ∧ Upd a (.lst l) (.lst (l.set j d)) μ2 μ3 ∧ P Γ μ3)
    (ha : ∀ v, assign (.Subscript o i pos) X.env v = (do
      let ov ← holding [v] (eval o X.env)
      let iv ← holding [v, ov] (eval i X.env)
      standAt pos
      holding [v, ov, iv] (setItem ov iv v)
      release [v, ov, iv] []) := by intro _; rfl) : TgG X S vs (.Subscript o i pos) d Γ μ P := fun F N σ H v r rs rv => by
  refine gx_of (pg_sub pe_ex pe_ex set_list ha) ?_
  refine h.use r rs fun ov H1 od μ1 r1 rs1 ro q1 => ?_
  refine q1.use r1 rs1 fun iv H2 id μ2 r2 rs2 ri ⟨a, l, k, j, μ3, e1, e2, hj, u, q⟩ => ?_
  subst e1 e2
  cases ro
  cases ri
  obtain ⟨ob, e, rm⟩ := r2.find u.mem
  cases rm with
  | @lst _ xs hs =>
  refine ⟨a, xs, k, j, rfl, rfl, e, by rw [hs.length]; exact hj, rfl, Γ, μ3, (r2.weakF (r.ext.trans r1.ext)).put u (.lst (hs.set j (rv.ext (r1.ext.trans r2.ext)))), ?_, q⟩
  rw [u.adr, vis_upd (List.mem_map_of_mem u.mem)]
  exact rs2
theorem setb {tg : Expr} (h : EvG X S e Γ μ fun d μ1 => TgG X S (List.range 64) tg d Γ μ1 fun Γ' μ' => BlG X S sts Γ' μ' E) (hs : swapsWithSole [tg] e pos.line X.env = pure false := by rfl) (hw : swappedStores [tg] e X.env = pure none := by rfl)
    (h1 : (assignEach [tg] X.env).map (·.2) = [assign tg X.env] := by rfl) : BlG X S (.Assign [tg] e pos :: sts) Γ μ E := bl_cons (st_asg h hs hw h1)
theorem exb (h : EvG X S e Γ μ fun _ μ' => BlG X S sts Γ μ' E) (hs : swapsWith e none pos.line X.env = pure false := by rfl) : BlG X S (.Expr e pos :: sts) Γ μ E := bl_cons (st_expr h hs)
theorem og_fdivW {i j : Int} (c : CDivW i j) (k : Q (.int (i / j)) μ) : OpG X S (binaryOp .FloorDiv) (.int i) (.int j) μ Q := fun F N H u v r ru rv => by cases ru; cases rv; exact op_of op_fdivW ⟨i, j, rfl, rfl, c, _, μ, r, .int _, k⟩
/-- x[i] of names in slots i, j etc.: items of a list of the memory -/
theorem ix (hs : PlainIx b := by exact fun _ _ => rfl) (h : EvG X S a Γ μ fun d1 μ1 => EvG X S b Γ μ1 fun d2 μ2 => IxG X S d1 d2 μ2 Q) : EvG X S (.Subscript a b pos) Γ μ Q := ev_ix hs h
theorem mt_join {z : Str} {xs : List Str} (hd : d = .lst (xs.map D.str)) (hz : (xs.map (·.length)).sum + xs.length * z.length ≤ 16777216) (k : Q (.str (Txt.join z xs)) μ) : MtG X S "str.join" (.str z) [d] μ Q := by
  intro F N H v vs r rv rq
  subst hd
  cases rv
  obtain ⟨w, rfl, rw'⟩ := rq.one
  cases rw' with
  | @lst a ys _ ha hs =>
  have hy : ∀ {xs : List Str} {ys : List V}, RpA S (vis N H (adr μ)) ys (xs.map D.str) → ys = xs.map V.str := by
    intro xs
    induction xs with
    | nil => intro ys h; cases h; rfl
    | cons x xs ih =>
      intro ys h
      cases h with
      | cons h t =>
      cases h
      rw [ih t]
      rfl
  have e := hy hs
  subst e
  exact ⟨_, L2.mt_join, _, ⟨z, a, xs, rfl, rfl, .inl (SqL.of (vis_le _ _ ha)), hz, _, μ, r, .str _, k⟩, fun _ _ q => q⟩
end
/-! ### the draws -/
def PoolOk (l : List D) : Prop := (∃ n : Int, 0 ≤ n ∧ l = [.int n]) ∨
  ∃ (x k : Int) (cs : List Int), l = [.int x, .int k, .lst (cs.map D.int)] ∧ (0 ≤ x ∧ x < 65537) ∧ 0 ≤ k ∧ cs ≠ [] ∧ cs.length ≤ 63 ∧ ∀ c ∈ cs, 0 ≤ c ∧ c < 65537
def sg_take : SpG := fun ds μ Q _ => ∃ a l n, ds = [.ref a, .int n] ∧ μ = [(a, .lst l)] ∧ PoolOk l ∧ (0 < n ∧ n < 2 ^ 200) ∧ ∀ r l', 0 ≤ r → r < n → PoolOk l' → Q (.int r) [(a, .lst l')]
theorem take_mono : MonoG sg_take := fun _ _ _ _ _ _ ⟨a, l, n, h1, h2, h3, h4, q⟩ m _ => ⟨a, l, n, h1, h2, h3, h4, fun r l' a1 a2 a3 => m _ _ (q r l' a1 a2 a3)⟩
/-- a draw of n, the pool first in the memory -/
theorem ask_take {S : Sg} {a : Addr} {l : List D} {n : Int} {μ : Mem} {Q : QD} (h : PoolOk l) (hn : 0 < n ∧ n < 2 ^ 200) (q : ∀ r l', 0 ≤ r → r < n → PoolOk l' → Q (.int r) ((a, .lst l') :: μ)) : AskG S sg_take [.ref a, .int n] ((a, .lst l) :: μ) Q :=
  ⟨[(a, .lst l)], μ, .l (Split.none μ), a, l, n, rfl, rfl, h, hn, q⟩
theorem ixN0 {n : Nat} (h : 0 < n) : ixN n 0 = some 0 := by
  unfold ixN
  rw [if_pos (by decide), if_pos (by omega)]
  rfl
theorem atI_mod {cs : List Int} {k : Int} (h : cs ≠ []) (hk : 0 ≤ k) : ∃ c, c ∈ cs ∧ atI (cs.map D.int) (k % (cs.length : Int)) = some (.int c) := by
  have hl : 0 < cs.length := List.length_pos_iff.mpr h
  have h1 : 0 ≤ k % (cs.length : Int) := Int.emod_nonneg _ (by omega)
  have h2 : k % (cs.length : Int) < cs.length := Int.emod_lt_of_pos _ (by omega)
  obtain ⟨j, hj⟩ := Int.eq_ofNat_of_zero_le h1
  rw [hj] at h2 ⊢
  have h3 : j < cs.length := by omega
  refine ⟨cs[j], List.getElem_mem h3, atI_nat ?_⟩
  rw [List.getElem?_map, List.getElem?_eq_getElem h3]
  rfl
end GL
namespace GL
open PySem L2 PySem.Spec PyProof.Rows TL
/-! ### texts by their codes -/
abbrev cs (z : Str) : List Nat := z.cps.toList
theorem cs_len (z : Str) : z.length = (cs z).length := by
  show z.cps.size = z.cps.toList.length
  simp
theorem cs_app (x y : Str) : cs (x ++ y) = cs x ++ cs y := by
  show (x.cps ++ y.cps).toList = _
  simp
theorem cs_one (c : Nat) : cs ⟨#[c]⟩ = [c] := rfl
theorem cs_ext {x y : Str} (h : cs x = cs y) : x = y := by
  obtain ⟨a⟩ := x
  obtain ⟨b⟩ := y
  have : a = b := Array.toList_inj.mp h
  rw [this]
theorem OkS_of {z : Str} (h : ∀ c ∈ cs z, c < 1114112) : OkS z := by
  show z.cps.all (· < 0x110000) = true
  rw [← Array.all_toList]
  exact List.all_eq_true.mpr fun c hc => decide_eq_true (h c hc)
/-- the letters of a base, the marks of the names -/
def baseC : List Nat := cs ("mnopqrstuvwxyz0123456789" : Str)
def markC : List Nat := cs ("afkdibglejch" : Str)
theorem base_len : baseC.length = 24 := by decide +kernel
theorem mark_len : markC.length = 12 := by decide +kernel
theorem base_lt : ∀ c ∈ baseC, c < 1114112 := by decide +kernel
theorem mark_lt : ∀ c ∈ markC, c < 1114112 := by decide +kernel
theorem base_mark : ∀ c ∈ baseC, c ∉ markC := by decide +kernel
theorem mark_nd : markC.Nodup := by decide +kernel
def BaseOk (z : Str) : Prop := (cs z).length ≤ 11 ∧ ∀ c ∈ cs z, c ∈ baseC
/-- the k-th name: the k-th mark among base letters -/
def NameOk (k : Nat) (z : Str) : Prop := ∃ x y c, cs z = x ++ c :: y ∧ markC[k]? = some c ∧ (∀ c ∈ x ++ y, c ∈ baseC) ∧ (x ++ y).length ≤ 11
theorem NameOk.ok {k : Nat} {z : Str} (h : NameOk k z) : OkS z := by
  obtain ⟨x, y, c, e, hc, hb, _⟩ := h
  refine OkS_of fun d hd => ?_
  rw [e] at hd
  rcases List.mem_append.mp hd with hd | hd
  · exact base_lt d (hb d (List.mem_append_left _ hd))
  · rcases List.mem_cons.mp hd with rfl | hd
    · exact mark_lt d (List.mem_of_getElem? hc)
    · exact base_lt d (hb d (List.mem_append_right _ hd))
theorem NameOk.len {k : Nat} {z : Str} (h : NameOk k z) : z.length ≤ 12 := by
  obtain ⟨x, y, c, e, hc, hb, hl⟩ := h
  rw [cs_len, e]
  simp only [List.length_append, List.length_cons] at hl ⊢
  omega
theorem NameOk.inj {i j : Nat} {z : Str} (h : NameOk i z) (h' : NameOk j z) : i = j := by
  obtain ⟨x, y, c, e, hc, hb, _⟩ := h
  obtain ⟨x', y', c', e', hc', hb', _⟩ := h'
  have hm : c ∈ cs z := by rw [e]; simp
  rw [e'] at hm
  have hcm : c ∈ markC := List.mem_of_getElem? hc
  have : c = c' := by
    rcases List.mem_append.mp hm with hd | hd
    · exact absurd hcm (base_mark c (hb' c (List.mem_append_left _ hd)))
    · rcases List.mem_cons.mp hd with rfl | hd
      · rfl
      · exact absurd hcm (base_mark c (hb' c (List.mem_append_right _ hd)))
  subst this
  obtain ⟨h1, e1⟩ := List.getElem?_eq_some_iff.mp hc
  obtain ⟨h2, e2⟩ := List.getElem?_eq_some_iff.mp hc'
  exact (List.getElem_inj mark_nd).mp (e1.trans e2.symm)
theorem joinL_nil : ∀ l : List (List Nat), joinL [] l = l.flatten
  | [] => rfl
  | [x] => by simp [joinL]
  | x :: y :: l => by
    have ih := joinL_nil (y :: l)
    show x ++ ([] ++ joinL [] (y :: l)) = _
    rw [ih]
    simp
theorem flat_one : ∀ xs : List Nat, (xs.map fun c => tl (⟨#[c]⟩ : Str)).flatten = xs
  | [] => rfl
  | x :: xs => by
    show [x] ++ (xs.map fun c => tl (⟨#[c]⟩ : Str)).flatten = _
    rw [flat_one xs]
    rfl
theorem join_cs (xs : List Nat) : cs (Txt.join (Str.ofString "") (xs.map fun c => (⟨#[c]⟩ : Str))) = xs := by
  rw [join_eq]
  have h := tl_join (Str.ofString "") (xs.map fun c => (⟨#[c]⟩ : Str))
  have e0 : tl (Str.ofString "") = [] := by decide +kernel
  rw [e0, joinL_nil, List.map_map] at h
  exact h.trans (flat_one xs)
theorem cutS_tl {z : Str} {n : Nat} : cs (cutS z none (some (n : Int))) = (cs z).take n := by
  show (((z.cps.toList.drop (HT.sIx z.length 0 none)).take (HT.sIx z.length z.length (some (n : Int)) - HT.sIx z.length 0 none)).toArray).toList = _
  rw [HT.sIx_none, HT.sIx_nat, List.drop_zero, Nat.sub_zero]
  show (cs z).take (min n z.length) = _
  rw [cs_len]
  by_cases h : n ≤ (cs z).length
  · rw [Nat.min_eq_left h]
  · rw [Nat.min_eq_right (by omega), List.take_of_length_le (Nat.le_refl _), List.take_of_length_le (by omega)]
theorem cutS_hd {z : Str} {n : Nat} : cs (cutS z (some (n : Int)) none) = (cs z).drop n := by
  show (((z.cps.toList.drop (HT.sIx z.length 0 (some (n : Int)))).take (HT.sIx z.length z.length none - HT.sIx z.length 0 (some (n : Int)))).toArray).toList = _
  rw [HT.sIx_none, HT.sIx_nat]
  show ((cs z).drop (min n z.length)).take (z.length - min n z.length) = _
  rw [cs_len]
  by_cases h : n ≤ (cs z).length
  · rw [Nat.min_eq_left h, List.take_of_length_le (by rw [List.length_drop]; exact Nat.le_refl _)]
  · rw [Nat.min_eq_right (by omega), List.drop_of_length_le (Nat.le_refl _), List.drop_of_length_le (by omega)]
    simp
end GL
namespace GL
open PySem L2 PySem.Spec PyProof.Rows
theorem ItOk.weak {S : Sg} {J : It} {Km Km' : Mem → Prop} {ds : List D} {Fv : Hp} (h : ItOk S J Km ds Fv) (w : ∀ μ, Km' μ → Km μ) : ItOk S J Km' ds Fv := fun N i H2 μ2 r k => h N i H2 μ2 r (w μ2 k)
/-- a list, a tuple, or a list that stands in the memory -/
theorem iv_any {X : Cx} {S : Sg} {tg : Expr} {μ : Mem} {R : RI} {d : D} {l : List D} (hK : X.K = S.K) (h : d = .lst l ∨ d = .tup l ∨ ∃ g, d = .ref g ∧ (g, M.lst l) ∈ μ) (k : R (fun μ' => ∀ g, d = .ref g → (g, M.lst l) ∈ μ') l μ) : IterV X S tg d μ R := by
  intro F N H x r rx Rr kk
  rcases h with rfl | rfl | ⟨g, rfl, hm⟩
  · exact iv_lst (R := fun Km' ds μ' => Km' = (fun _ => True) ∧ ds = l ∧ μ' = μ) hK ⟨rfl, rfl, rfl⟩ F N H x r rx Rr fun J H1 ds Km μ1 r1 ok ⟨e1, e2, e3⟩ => by
      subst e1 e2 e3
      exact kk J H1 _ _ _ r1 (ok.weak fun _ _ => trivial) k
  · exact iv_tup (R := fun Km' ds μ' => Km' = (fun _ => True) ∧ ds = l ∧ μ' = μ) hK ⟨rfl, rfl, rfl⟩ F N H x r rx Rr fun J H1 ds Km μ1 r1 ok ⟨e1, e2, e3⟩ => by
      subst e1 e2 e3
      exact kk J H1 _ _ _ r1 (ok.weak fun _ _ => trivial) k
  · exact iv_mem (R := fun Km' ds μ' => Km' = (fun μ' => (g, M.lst l) ∈ μ') ∧ ds = l ∧ μ' = μ) hK hm ⟨rfl, rfl, rfl⟩ F N H x r rx Rr fun J H1 ds Km μ1 r1 ok ⟨e1, e2, e3⟩ => by
      subst e1 e2 e3
      exact kk J H1 _ _ _ r1 (ok.weak fun μ' h => h g rfl) k
/-! ### spots, once each -/
def onto (acc ps : List Sp2) : List Sp2 := ps.foldl (fun acc p => if p ∈ acc then acc else acc ++ [p]) acc
theorem onto_snoc (acc ps : List Sp2) (p : Sp2) : onto acc (ps ++ [p]) = if p ∈ onto acc ps then onto acc ps else onto acc ps ++ [p] := by
  unfold onto
  rw [List.foldl_append]
  rfl
theorem mem_onto {acc ps : List Sp2} {p : Sp2} : p ∈ onto acc ps ↔ p ∈ acc ∨ p ∈ ps := by
  induction ps generalizing acc with
  | nil => simp [onto]
  | cons q ps ih =>
    show p ∈ onto (if q ∈ acc then acc else acc ++ [q]) ps ↔ _
    rw [ih, List.mem_cons]
    by_cases h : q ∈ acc
    · rw [if_pos h]
      constructor
      · rintro (h1 | h1)
        · exact .inl h1
        · exact .inr (.inr h1)
      · rintro (h1 | rfl | h1)
        · exact .inl h1
        · exact .inl h
        · exact .inr h1
    · rw [if_neg h, List.mem_append, List.mem_singleton, or_assoc]
theorem list_snoc {α : Type} {C : List α → Prop} (h0 : C []) (h1 : ∀ l x, C l → C (l ++ [x])) : ∀ l, C l := fun l => by
  have : ∀ l : List α, C l.reverse := fun l => by
    induction l with
    | nil => exact h0
    | cons x l ih => rw [List.reverse_cons]; exact h1 _ _ ih
  have h := this l.reverse
  rwa [List.reverse_reverse] at h
theorem onto_once (acc : List Sp2) : ∀ ps, onto acc (once ps) = onto acc ps := by
  refine list_snoc rfl fun ps p ih => ?_
  rw [once_snoc]
  by_cases h : p ∈ once ps
  · rw [if_pos h, ih, onto_snoc, if_pos (mem_onto.mpr (.inr (mem_once.mp h)))]
  · rw [if_neg h, onto_snoc, onto_snoc, ih]
theorem once_app (ps qs : List Sp2) : once (ps ++ qs) = onto (once ps) qs := by
  unfold once onto
  rw [List.foldl_append]
theorem once_or (ps qs : List Sp2) : once (once ps ++ once qs) = once (ps ++ qs) := by
  rw [once_app, once_app, onto_once, once_same (once_nodup ps)]
theorem once_filter (ps : List Sp2) (f : Sp2 → Bool) : once ((once ps).filter f) = (once ps).filter f := once_same ((once_nodup ps).sublist List.filter_sublist)
theorem dec_once (p : Sp2) (qs : List Sp2) : decide (p ∈ once qs) = decide (p ∈ qs) := decide_eq_decide.mpr mem_once
theorem all_once (ps qs : List Sp2) : ((once ps).all fun p => decide (p ∈ once qs)) = decide ((((ps.filter fun p => !decide (p ∈ qs)).length : Nat) : Int) = 0) := by
  refine Bool.eq_iff_iff.mpr ?_
  rw [List.all_eq_true, decide_eq_true_iff]
  constructor
  · intro h
    have : (ps.filter fun p => !decide (p ∈ qs)) = [] := List.filter_eq_nil_iff.mpr fun p hp => by
      have := of_decide_eq_true (h p (mem_once.mpr hp))
      simp [mem_once.mp this]
    rw [this]
    rfl
  · intro h p hp
    have h0 : (ps.filter fun p => !decide (p ∈ qs)) = [] := List.eq_nil_of_length_eq_zero (by omega)
    have := List.filter_eq_nil_iff.mp h0 p (mem_once.mp hp)
    refine decide_eq_true (mem_once.mpr ?_)
    simpa using this
theorem nd_le {α : Type} [DecidableEq α] : ∀ {x y : List α}, x.Nodup → (∀ p ∈ x, p ∈ y) → x.length ≤ y.length
  | [], _, _, _ => Nat.zero_le _
  | p :: x, y, n, h => by
    have hp : p ∈ y := h p List.mem_cons_self
    obtain ⟨n1, n2⟩ := List.nodup_cons.mp n
    have := nd_le (x := x) (y := y.erase p) n2 fun q hq => (List.mem_erase_of_ne (fun (e : q = p) => n1 (e ▸ hq))).mpr (h q (List.mem_cons_of_mem _ hq))
    rw [List.length_erase_of_mem hp] at this
    have := List.length_pos_of_mem hp
    rw [List.length_cons]
    omega
theorem nd_eq {α : Type} [DecidableEq α] {x y : List α} (n : x.Nodup) (h : ∀ p ∈ x, p ∈ y) (l : y.length ≤ x.length) : ∀ p ∈ y, p ∈ x := fun p hp => by
  by_cases hx : p ∈ x
  · exact hx
  · have := nd_le (x := p :: x) (y := y) (List.nodup_cons.mpr ⟨hx, n⟩) fun q hq => by
      rcases List.mem_cons.mp hq with rfl | hq
      · exact hp
      · exact h q hq
    rw [List.length_cons] at this
    omega
theorem eq_once (ps qs : List Sp2) : (decide ((once ps).length = (once qs).length) && (once ps).all fun p => decide (p ∈ once qs)) = (((once ps).all fun p => decide (p ∈ once qs)) && (once qs).all fun p => decide (p ∈ once ps)) := by
  refine Bool.eq_iff_iff.mpr ?_
  rw [Bool.and_eq_true, Bool.and_eq_true, List.all_eq_true, List.all_eq_true, decide_eq_true_iff]
  constructor
  · rintro ⟨h1, h2⟩
    refine ⟨h2, fun p hp => decide_eq_true (nd_eq (once_nodup ps) (fun p hp => of_decide_eq_true (h2 p hp)) (by omega) p hp)⟩
  · rintro ⟨h1, h2⟩
    refine ⟨Nat.le_antisymm (nd_le (once_nodup ps) fun p hp => of_decide_eq_true (h1 p hp)) (nd_le (once_nodup qs) fun p hp => of_decide_eq_true (h2 p hp)), h1⟩
end GL
namespace GL
open PySem L2 PySem.Spec PyProof.Rows
theorem StG.mono {X : Cx} {S : Sg} {st : Stmt} {Γ : Gm} {μ : Mem} {E : EG} {R R' : Gm → Mem → Prop} (h : StG X S st Γ μ { E with nx := R }) (k : ∀ Γ' μ', R Γ' μ' → R' Γ' μ') : StG X S st Γ μ { E with nx := R' } :=
  fun F N σ H r rs => (h F N σ H r rs).mono (fun _ _ ⟨Γ', μ', r, rs, q⟩ => ⟨Γ', μ', r, rs, k _ _ q⟩) (fun _ _ h => h) (fun _ _ h => h) (fun _ _ h => h)
/-- a statement that ends in one of many states -/
theorem seqP {X : Cx} {S : Sg} {st : Stmt} {sts : List Stmt} {Γ : Gm} {μ : Mem} {E : EG} (R : Gm → Mem → Prop) (h : StG X S st Γ μ { E with nx := R }) (k : ∀ Γ' μ', R Γ' μ' → BlG X S sts Γ' μ' E) : BlG X S (st :: sts) Γ μ E := bl_cons (h.mono k)
end GL
namespace GL
open PySem L2 PySem.Spec PyProof.Rows
/-! ### a def that closes over its class: super().__init__(..) of an own exception -/
structure FnScopeS (N P : List Str) (sc : Scope) : Prop where
  kind : sc.kind = .function
  co : sc.isCoroutine = false
  gen : sc.isGenerator = false
  nd : N.Nodup
  pre : N.take P.length = P
  par : ∀ x ∈ P, sc.names.lookup x = some .local
  nocell : ∀ y ∈ sc.names, y.2 ≠ .cell
  free : ∀ y, sc.names.lookup y = some .free → y = "__class__"
  sup : sc.names.lookup ("super" : Str) = some .globalImplicit
  cls : sc.names.lookup ("__class__" : Str) = some .free
abbrev envS (qual : Str) (scope : Scope) (L f cda cc : Addr) : Env := PySem.W.envX qual scope L f (.ref cda) [("__class__", cc)]
def cxS (P : Program) (w : World) (K : PySem.W.Frag) (mg : Str → Option Value) (base : Heap) (N : List Str) (qual : Str) (scope : Scope) (f cda cc : Addr) (A : Around) (outer : List Env) (s : Shared) (H : Hp) : Cx where
  prog := P
  w := w
  K := K
  mg := mg
  base := base
  A := A.deeper (envS qual scope s.heap.objs.size f cda cc)
  N := N
  s_0 := s
  H_0 := H
  env := envS qual scope s.heap.objs.size f cda cc
  outer := outer
  stack := envS qual scope s.heap.objs.size f cda cc :: outer
  ex := []
  calm := true
  fn := fun _ => false
  pn := []
  xe := fun _ _ => False
theorem look_rev : ∀ {ps : List Str} {us : List Value} {i : Nat} {x : Str} {u : Value}, ps.Nodup → ps[i]? = some x → us[i]? = some u → (ps.zip us).reverse.lookup x = some u
  | [], _, _, _, _, _, h, _ => by simp at h
  | _ :: _, [], _, _, _, _, _, h => by simp at h
  | p :: ps, v :: us, 0, x, u, nd, h1, h2 => by
    simp at h1 h2
    subst h1 h2
    have hn : (ps.zip us).reverse.lookup p = none := by
      rw [List.lookup_eq_none_iff]
      intro q hq
      have : q.1 ∈ ps := (List.of_mem_zip (List.mem_reverse.mp hq)).1
      exact bne_iff_ne.mpr fun e => (List.nodup_cons.mp nd).1 (e ▸ this)
    rw [List.zip_cons_cons, List.reverse_cons, List.lookup_append, hn]
    simp [List.lookup]
  | p :: ps, v :: us, i + 1, x, u, nd, h1, h2 => by
    have ih := look_rev (i := i) (List.nodup_cons.mp nd).2 (by simpa using h1) (by simpa using h2)
    rw [List.zip_cons_cons, List.reverse_cons, List.lookup_append, ih]
    rfl
/-- what the text says of such a def -/
structure FunS (P : Program) (K : PySem.W.Frag) (x qual : Str) (params : Arguments) (body : List Stmt) (scope : Scope) (f : Addr) (fd : FuncData) (C cda cc : Addr) : Prop where
  ex : ∃ (oc : Value) (od : Option Addr) (kV doc pm : Value) (an : Option Addr) (ct : Value) (osl : Array (Option Value)),
    fd = PySem.W.ksFn x qual params body scope .none kV doc pm an (.ref cda) ct cc ∧ K.lookup f = some ⟨oc, od, .func fd, osl⟩ ∧ PySem.W.codeIn K (.ref cda) qual = true
  code : ∃ (ccl : Value) (cdd : Option Addr) (vs : Array Value) (ccs : Array (Option Value)) (file : Str) (tf : Tok), K.lookup cda = some ⟨ccl, cdd, .fields vs, ccs⟩ ∧ vs[2]? = some (.str file tf) ∧ ((P.main.file : Str) == file) = true
  cell : ∃ (cl : Value) (cld : Option Addr) (csl : Array (Option Value)), K.lookup cc = some ⟨cl, cld, .cell (some (.ref C)), csl⟩
  top : (P.main.scope.names.lookup ("super" : Str)).isSome = false
section
variable {P : Program} {w : World} {K : PySem.W.Frag} {mg : Str → Option Value} {base : Heap} {N ps : List Str} {x qual : Str} {params : Arguments} {body : List Stmt} {scope : Scope} {f C cda cc : Addr} {fd : FuncData} {A : Around} {outer : List Env} {s : Shared} {H : Hp}
theorem free_only {l : List (Str × NameKind)} (h : ∀ y ∈ l, y.2 = .free → y.1 = "__class__") : ∀ y, l.lookup y = some .free → y = "__class__" := fun y e => h (y, .free) (PySem.mem_of_lookup e) rfl
theorem FunS.bindsS (F : FunS P K x qual params body scope f fd C cda cc)
    (h : ∀ (kV doc pm : Value) (an : Option Addr) (cdv ct : Value) (us : List Value), us.length = ps.length → bindArgs (PySem.W.ksFn x qual params body scope .none kV doc pm an cdv ct cc) ⟨us, []⟩ = pure (ps.zip us)) : Binds K fd ps [] := by
  obtain ⟨oc, od, kV, doc, pm, an, ct, osl, rfl, _⟩ := F.ex
  exact .all (h kV doc pm an (.ref cda) ct)
theorem FunS.cellAt (F : FunS P K x qual params body scope f fd C cda cc) {h : Heap} (k : K.In h) : h.IsCell cc (some (.ref C)) := by
  obtain ⟨cl, cld, csl, e⟩ := F.cell
  exact ⟨_, k _ _ e, rfl⟩
theorem inv_startS (F : FunS P K x qual params body scope f fd C cda cc) (S : FnScopeS N ps scope) (hd : A.handled = none) (e0 : Env0 P w K mg base A outer s H) {us : List Value} {vs : List V} (hl : vs.length = ps.length) (r : Vals vs us) {h1 : Heap} {tk : Nat}
    (hns : h1.Ns s.heap.objs.size (fun y => (ps.zip us).reverse.lookup y)) (hk : ∀ b o, s.heap.get? b = some o → h1.get? b = some o) :
    Inv (cxS P w K mg base N qual scope f cda cc A outer s H) [] (L2.start N vs) H { s with heap := h1, toks := tk } := by
  have hpl : ps.length ≤ N.length := by have := congrArg List.length S.pre; rw [List.length_take] at this; omega
  have noA : ∀ b : Addr, b ∉ (cxS P w K mg base N qual scope f cda cc A outer s H).ex := fun b z => absurd (show b ∈ ([] : List Addr) from z) (by simp)
  have look : ∀ {y : Str} {c : Addr}, (cxS P w K mg base N qual scope f cda cc A outer s H).env.cells.lookup y = some c → y = "__class__" ∧ c = cc := fun {y c} e => by
    have e : List.lookup y [(("__class__" : Str), cc)] = some c := e
    by_cases hy : y = "__class__"
    · subst hy
      simp [List.lookup] at e
      exact ⟨rfl, e.symm⟩
    · have hb : (y == ("__class__" : Str)) = false := beq_eq_false_iff_ne.mpr hy
      simp [List.lookup, hb] at e
  have kin : K.In s.heap := e0.mod.kin.keeps fun b o e => (e0.bs b o e).1
  have ccell : base.get? cc ≠ none ∧ H cc = none := by
    obtain ⟨cl, cld, csl, e⟩ := F.cell
    have hb := e0.mod.kin _ _ e
    exact ⟨by rw [hb]; simp, (e0.bs _ _ hb).2⟩
  have cab : cc < s.heap.objs.size := (F.cellAt kin).lt
  refine ⟨⟨e0.mod, S.kind, rfl, rfl, Nat.le_refl _, fun y z c h1 h2 => by rw [(look h1).1, (look h2).1], fun y hy => ?_, fun y c h _ => (by cases h), fun _ => hd, Around.frames_deeper e0.frames, .inr ⟨rfl, rfl⟩, fun b z => absurd z (noA b), e0.bs, e0.bsz, fun b _ _ => noA b, fun b z => absurd z (noA b), e0.funs, e0.frf⟩,
    rfl, e0.bare, Un.kept hk, ⟨_, hns, fun i y v h1 h2 h3 => ?_⟩, fun y c h => ⟨some (.ref C), by rw [(look h).2]; exact (F.cellAt kin).keeps hk⟩, e0.hok.fresh (Nat.le_refl _), fun y c h => by rw [(look h).2]; exact ccell.2, fun p hp => absurd (show p ∈ ([] : List (Addr × Obj)) from hp) (by simp), e0.hok.kept hk, ?_⟩
  · have hy : scope.names.lookup y = some .cell ∨ scope.names.lookup y = some .free := hy
    rcases hy with hy | hy
    · exact absurd rfl (S.nocell _ (PySem.mem_of_lookup hy))
    · exact ⟨cc, by rw [S.free y hy]; rfl⟩
  · have hi : i < vs.length := by
      unfold L2.start at h2
      by_cases hi : i < vs.length
      · exact hi
      · rw [List.getElem?_append_right (by simpa using hi), List.getElem?_replicate] at h2
        split at h2 <;> cases h2
    have ha : vs[i]? = some v := by
      unfold L2.start at h2
      rw [List.getElem?_append_left (by simpa using hi), List.getElem?_map] at h2
      cases e : vs[i]? with
      | none => rw [e] at h2; cases h2
      | some a => rw [e] at h2; cases h2; rfl
    obtain ⟨u, hu, rv⟩ := r.get ha
    have hp : ps[i]? = some y := by rw [← S.pre, List.getElem?_take_of_lt (by omega)]; exact h1
    have ndP : ps.Nodup := by rw [← S.pre]; exact S.nd.sublist (List.take_sublist _ _)
    exact ⟨u, rv, .inl ⟨S.par y (List.mem_of_getElem? hp), look_rev ndP hp hu⟩⟩
  · unfold L2.start
    show _ = N.length
    rw [List.length_append, List.length_map, List.length_replicate]
    omega
end
end GL
namespace GL
open PySem L2 PySem.Spec PyProof.Rows
/-- what the text says of an own exception class, under ValueError -/
structure ExcCls (K : PySem.W.Frag) (C : Addr) : Prop where
  T : OexC K C
  sup : PySem.W.ks_superIn K C C "__init__" = some (some (.builtin "ValueError.__init__"))
  sub : PySem.W.subIn K (.ref C) (.type "ValueError") = some true
  mro : PySem.W.mroIn K C (.ref C) = some true
  stat : PySem.W.nsIn K cStatics "thirdparty.any" = some none
section
variable {P : Program} {w : World} {A : Around} {E : Value → Shared → Prop} {h : Heap} {g : Array GenState} {d : Drawn} {t : Nat} {os : OsState} {K : PySem.W.Frag} {C a u t0 : Addr}
/-- the bound ValueError.__init__, called -/
theorem call_mw {rest : List Value} {Q : Value → Shared → Prop} (T : OexC K C) (k : K.In h) (he : h.get? a = some (PySem.W.excObj C t0 none .none)) (hu : h.get? u = some (PySem.W.kxs_mw "ValueError.__init__" a)) (hz : rest.length ≤ sizeLine)
    (q : ∀ h' t1, (∀ b o, b ≠ a → h.get? b = some o → h'.get? b = some o) → h'.get? a = some (PySem.W.excObj C t1 none .none) → Q .none ⟨h', g, d, t, os⟩) : wpAny (model P w) A (call (.ref u) rest) Q E ⟨h, g, d, t, os⟩ := by
  obtain ⟨nm, qn, N, bs, bm, sn, sub, ab, col, dd, k0, k1, k2, k3, k5, hC, _⟩ := T.cls
  have hC := k _ _ hC
  refine wpAny_call (codeAny_of_tree (show wpAny _ A.in1 (callAny (.ref u) ⟨rest, []⟩) _ _ _ from ?_))
  unfold callAny
  refine wpAny_bind (wpAny_load hu ?_)
  dsimp only [PySem.W.kxs_mw]
  rw [show (Value.type "method-wrapper" == Value.type "method" || Value.type "method-wrapper" == Value.type "builtin_function_or_method" || Value.type "method-wrapper" == Value.type "method-wrapper") = true by decide]
  refine PySem.W.KFB.if_so (by decide) (wpAny_bind (PySem.W.check_bound_init F.excBase_ValueError.toExcCallFacts hC he rfl ?_))
  refine wpAny_bind (wpAny_pure (wpAny_pure ⟨plainId_quiet F.excBase_ValueError.init.plain _, codeAny_builtin F.excBase_ValueError.initEntry ?_⟩))
  exact PySem.W.exc_init_tree (cls := .ref C) (t0 := t0) (dv := none) (c2 := .none) (c3 := .none) (b4 := .bool false) he hz fun h' k' e' _ => q h' _ k' e'
end
section
variable {P : Program} {w : World} {K : PySem.W.Frag} {mg : Str → Option Value} {base : Heap} {N ps : List Str} {x qual : Str} {params : Arguments} {body : List Stmt} {scope : Scope} {f C cda cc : Addr} {fd : FuncData} {A : Around} {outer : List Env} {s0 : Shared} {H0 : Hp}
variable {pins : List (Addr × Obj)} {σ : L2.St} {H : Hp} {s : Shared} {a : Addr}
/-- the super() object -/
theorem sup_base {ar : Arg} {p0 p1 : Pos} {attr : Str} {whole : Sem Value} {Q : Value → Shared → Prop} {E : Value → Shared → Prop} (F : FunS P K x qual params body scope f fd C cda cc) (S : FnScopeS N ps scope) (G : ExcCls K C)
    (hp : (params.posonlyargs ++ params.args).head? = some ar) (h0 : N[0]? = some ar.arg) (hl : scope.names.lookup ar.arg = some .local) (hmg : mg "super" = none) (hat : (attr == ("__class__" : Str)) = false)
    (I : Inv (cxS P w K mg base N qual scope f cda cc A outer s0 H0) pins σ H s) (h1 : σ[0]? = some (some (.ref a))) (e : H a = some (exo a C none))
    (q : ∀ h', h'.get? s.heap.objs.size = some (PySem.W.ks_superObj C a C) → (∀ b o, s.heap.get? b = some o → h'.get? b = some o) → Q (.ref s.heap.objs.size) { s with heap := h' }) :
    _root_.PySem.wpAt (model P w) (A.deeper (envS qual scope s0.heap.objs.size f cda cc)) (.func body (envS qual scope s0.heap.objs.size f cda cc)) (attributeBase (.Call (.Name "super" p0) [] [] p1) attr (envS qual scope s0.heap.objs.size f cda cc) whole) Q E s := by
  have k := I.kIn
  obtain ⟨oc, od, kV, doc, pm, an, ct, osl, rfl, lk, hcd⟩ := F.ex
  obtain ⟨ccl, cdd, vs, ccs, file, tf, hc1, hc2, hc3⟩ := F.code
  obtain ⟨nm, qn, N', bs, bm, sn, sub, ab, col, dd, k0, k1, k2, k3, k5, hC, _⟩ := G.T.cls
  obtain ⟨t1, ho⟩ := exo_at I.hok e
  obtain ⟨mb, b1, b2⟩ := I.mod.blt
  obtain ⟨m, hn, hv⟩ := I.loc
  obtain ⟨u, ru, lu⟩ := hv 0 ar.arg (.ref a) h0 h1 (.inl hl)
  obtain rfl : u = Value.ref a := ru
  have lm : m ar.arg = some (.ref a) := by
    rcases lu with ⟨_, z⟩ | ⟨z | z, _⟩
    · exact z
    · have z : scope.names.lookup ar.arg = some .cell := z
      rw [hl] at z
      cases z
    · have z : scope.names.lookup ar.arg = some .free := z
      rw [hl] at z
      cases z
  have hs : (envS qual scope s0.heap.objs.size f cda cc).kindOf "super" = some .globalImplicit := S.sup
  have hcl : (envS qual scope s0.heap.objs.size f cda cc).kindOf "__class__" = some .free := S.cls
  have hla : (envS qual scope s0.heap.objs.size f cda cc).kindOf ar.arg = some .local := hl
  refine PySem.ks_wpAt_super_base hs hcl hat rfl (k _ _ lk) rfl hp rfl (k _ _ hc1) rfl hc2 hc3 F.top ?_
  refine PySem.W.ks_loadName_global S.kind hs (Calls.loadGlobal_builtin (I.mod.glob.keeps I.bk) hmg (b1.keeps I.bk) ((b2 _ (by decide)).trans PyProof.Rows.Boot.«super») ⟨rfl, ?_⟩)
  refine wpAny_loadName_free S.kind hcl rfl (F.cellAt k) (wpAny_loadName_local S.kind hla hn lm ?_)
  obtain ⟨hp', g, d, t, os⟩ := s
  refine PySem.ks_wpAny_isType_cls (k _ _ hC) rfl ⟨rfl, ?_⟩
  exact PySem.ks_wpAny_call_super (k _ _ hC) rfl ho rfl (fun c z => by cases z) (PySem.W.looks_mroIn k G.mro) fun h' e' k' => q h' e' k'
/-- super().__init__(e) -/
theorem sup_stmt {ar : Arg} {p0 p1 p2 p3 p4 : Pos} {e : Expr} {Q : Flow → Shared → Prop} (F : FunS P K x qual params body scope f fd C cda cc) (S : FnScopeS N ps scope) (G : ExcCls K C)
    (hp : (params.posonlyargs ++ params.args).head? = some ar) (h0 : N[0]? = some ar.arg) (hl : scope.names.lookup ar.arg = some .local) (hmg : mg "super" = none)
    (I : Inv (cxS P w K mg base N qual scope f cda cc A outer s0 H0) [] σ H s) (h1 : σ[0]? = some (some (.ref a))) (ea : H a = some (exo a C none))
    (he : EXt (cxS P w K mg base N qual scope f cda cc A outer s0 H0) e σ H fun _ H1 => H1 = H)
    (q : ∀ s', Inv (cxS P w K mg base N qual scope f cda cc A outer s0 H0) [] σ H s' → Q .next s')
    (hst : starEach [e] (envS qual scope s0.heap.objs.size f cda cc) = [(false, eval e (envS qual scope s0.heap.objs.size f cda cc))] := by rfl) (hsw : swapsWith (.Call (.Attribute (.Call (.Name "super" p0) [] [] p1) "__init__" p2) [e] [] p3) none p4.line (envS qual scope s0.heap.objs.size f cda cc) = pure false := by rfl)
    {pl : Sem Bool} (hev : eval (.Call (.Attribute (.Call (.Name "super" p0) [] [] p1) "__init__" p2) [e] [] p3) (envS qual scope s0.heap.objs.size f cda cc) = (do
      let ov ← attributeBase (.Call (.Name "super" p0) [] [] p1) "__init__" (envS qual scope s0.heap.objs.size f cda cc) (eval (.Call (.Name "super" p0) [] [] p1) (envS qual scope s0.heap.objs.size f cda cc))
      standAt p2.atName
      let (fv, first) ← holding [ov] (getMethod ov "__init__" pl)
      callWith p3 fv first (backTo p3 (starEach [e] (envS qual scope s0.heap.objs.size f cda cc))) (backToKw p3 (keywordEach [] (envS qual scope s0.heap.objs.size f cda cc)))) := by rfl) :
    _root_.PySem.wpAt (model P w) (A.deeper (envS qual scope s0.heap.objs.size f cda cc)) (.func body (envS qual scope s0.heap.objs.size f cda cc)) (exec (.Expr (.Call (.Attribute (.Call (.Name "super" p0) [] [] p1) "__init__" p2) [e] [] p3) p4) (envS qual scope s0.heap.objs.size f cda cc)) Q (fun _ _ => False) s := by
  have hq : interactive (envS qual scope s0.heap.objs.size f cda cc) = false := I.quiet
  rw [exec_Expr _ _ _ hq hsw]
  refine _root_.PySem.wpAt_bind (_root_.PySem.wpAt_of_wpAny (wpAny_standAt ?_))
  refine _root_.PySem.wpAt_bind ?_
  rw [hev]
  refine _root_.PySem.wpAt_bind (sup_base F S G hp h0 hl hmg (by decide) I h1 ea fun h1' hso k1 => _root_.PySem.wpAt_of_wpAny ?_)
  refine wpAny_bind (wpAny_standAt (wpAny_bind (wpAny_holding ?_)))
  have I1 := I.kept (t' := s.toks) k1
  have kk := I1.kIn
  obtain ⟨t1, ho⟩ := exo_at I1.hok ea
  obtain ⟨hp', g, d, t, os⟩ := s
  have hI : PySem.W.Looks (model P w) h1' (isInstance (.ref a) (.type "ValueError")) true := PySem.W.Looks.andThen (fun A Q E s k q => wpAny_typeOf_ref (k _ _ ho) q) (PySem.W.looks_subIn kk G.sub)
  have hsup := G.sup
  unfold PySem.W.ks_superIn at hsup
  cases hcl : PySem.W.clsIn K C with
  | none => rw [hcl] at hsup; cases hsup
  | some cd =>
  rw [hcl] at hsup
  have hne : a ≠ C := fun z => by
    obtain ⟨nm, qn, N', bs, bm, sn, sub, ab, col, dd, k0, k1, k2, k3, k5, hC, _⟩ := G.T.cls
    have := kk _ _ hC
    rw [← z, ho] at this
    cases this
  refine PySem.W.kxs_getMethod PySem.W.kxs_ValueError hso (PySem.W.looks_opaque kk G.stat) (l₀ := cd.mro) (fun A Q E s k q => wpAny_bind ((PySem.W.looks_clsIn kk hcl) A _ E s k (wpAny_pure q))) rfl kk hsup hI hne (by decide) ?_
  have I2 : Inv (cxS P w K mg base N qual scope f cda cc A outer s0 H0) [] σ H ⟨h1'.push (PySem.W.kxs_mw "ValueError.__init__" a), g, d, t + 1, os⟩ := I1.kept (t' := t + 1) fun b o z => Heap.get?_push_of_some _ z
  have hu : (h1'.push (PySem.W.kxs_mw "ValueError.__init__" a)).get? h1'.objs.size = some (PySem.W.kxs_mw "ValueError.__init__" a) := Heap.get?_push_size _ rfl
  have I3 : Inv (cxS P w K mg base N qual scope f cda cc A outer s0 H0) [(h1'.objs.size, PySem.W.kxs_mw "ValueError.__init__" a)] σ H ⟨h1'.push (PySem.W.kxs_mw "ValueError.__init__" a), g, d, t + 1, os⟩ := I2.pins_of fun p hp => by
    cases List.mem_singleton.mp hp
    exact ⟨hu, I1.hok.fresh (Nat.le_refl _), Nat.ne_of_gt I1.lt, I1.nofs (Nat.le_refl _), fun v z => by cases z⟩
  have hany : (backTo p3 (starEach [e] (envS qual scope s0.heap.objs.size f cda cc))).any (·.1) = false := by rw [hst]; rfl
  refine PySem.W.kxs_callWith (i := "ValueError.__init__") (x := a) hany ?_
  have hA : AXt (cxS P w K mg base N qual scope f cda cc A outer s0 H0) [e] σ H (fun vs H1 => vs.length = 1 ∧ H1 = H) := ax_of (pa_cons pe_ex pa_nil hst) (he.mono fun v H1 z => ⟨rfl, z⟩)
  have hA : wpAny (model P w) (A.deeper (envS qual scope s0.heap.objs.size f cda cc)) (spliced (backTo p3 (starEach [e] (envS qual scope s0.heap.objs.size f cda cc)))) _ (fun _ _ => False) _ := hA p3 _ _ I3
  rw [hst] at hA ⊢
  refine PySem.Calls.evalArgs_plain (thn hA fun us s2 ⟨vs, H2, I4, r4, hl4, z4⟩ => ?_)
  subst z4
  have hpin := (I4.pin _ (List.mem_append_right _ List.mem_cons_self)).1
  refine ⟨hpin, ?_⟩
  obtain ⟨t2, ho2⟩ := exo_at I4.hok ea
  obtain ⟨h2, g2, d2, tk2, os2⟩ := s2
  refine call_mw G.T I4.kIn ho2 hpin (by rw [sizeLine_eq]; have := Paired.length r4; simp only [List.nil_append]; omega) fun h3 t3 k3 e3 => ?_
  have I5 : Inv (cxS P w K mg base N qual scope f cda cc A outer s0 H0) [] σ H2 ⟨h2, g2, d2, tk2, os2⟩ := I4.pins_of fun p hp => by cases hp
  have J := I5.write (t' := tk2) (x := a) (e := a) (o := exo a C none) (h' := h3) (by rw [ea]; exact True.intro) (.inl rfl) k3 ⟨_, e3⟩ (exo_ok e3)
  have eu : upd H2 a (exo a C none) = H2 := by
    funext b
    by_cases hb : b = a
    · rw [hb, upd_same, ea]
    · rw [upd_ne hb]
  rw [eu] at J
  exact _root_.PySem.wpAt_of_wpAny (wpAny_dropValue (q _ J))
end
end GL
namespace GL
open PySem L2 PySem.Spec PyProof.Rows
section
variable {P : Program} {w : World} {K : PySem.W.Frag} {mg : Str → Option Value} {base : Heap} {N ps : List Str} {x qual : Str} {params : Arguments} {scope : Scope} {f C cda cc : Addr} {fd : FuncData}
/-- an own exception's __init__, that begins with super().__init__(e) -/
theorem exc_fn {CX : CXT} {k : Nat} {ar : Arg} {p0 p1 p2 p3 p4 : Pos} {e : Expr} {rest : List Stmt} {sp : Sp} (F : FunS P K x qual params (.Expr (.Call (.Attribute (.Call (.Name "super" p0) [] [] p1) "__init__" p2) [e] [] p3) p4 :: rest) scope f fd C cda cc)
    (S : FnScopeS N ps scope) (G : ExcCls K C) (hp : (params.posonlyargs ++ params.args).head? = some ar) (h0 : N[0]? = some ar.arg) (hl : scope.names.lookup ar.arg = some .local) (hmg : mg "super" = none) (len : ∀ vs H Q E, sp vs H Q E → vs.length = ps.length)
    (hb : ∀ (A : Around) (outer : List Env) (s : Shared) (H : Hp) (vs : List V) (Q : VK) (E : XK), sp vs H Q E → ∃ a ws, vs = .ref a :: ws ∧ H a = some (exo a C none) ∧ EXt (cxS P w K mg base N qual scope f cda cc A outer s H) e (L2.start N vs) H (fun _ H1 => H1 = H) ∧
      BXt (cxS P w K mg base N qual scope f cda cc A outer s H) rest { nx := fun _ H' => Q .non H', rt := Q } (L2.start N vs) H)
    (hst : ∀ env, starEach [e] env = [(false, eval e env)] := by intro _; rfl) (hsw : ∀ L, swapsWith (.Call (.Attribute (.Call (.Name "super" p0) [] [] p1) "__init__" p2) [e] [] p3) none p4.line (envS qual scope L f cda cc) = pure false := by intro _; rfl)
    (hev : ∀ L, ∃ pl : Sem Bool, eval (.Call (.Attribute (.Call (.Name "super" p0) [] [] p1) "__init__" p2) [e] [] p3) (envS qual scope L f cda cc) = (do
      let ov ← attributeBase (.Call (.Name "super" p0) [] [] p1) "__init__" (envS qual scope L f cda cc) (eval (.Call (.Name "super" p0) [] [] p1) (envS qual scope L f cda cc))
      standAt p2.atName
      let (fv, first) ← holding [ov] (getMethod ov "__init__" pl)
      callWith p3 fv first (backTo p3 (starEach [e] (envS qual scope L f cda cc))) (backToKw p3 (keywordEach [] (envS qual scope L f cda cc)))) := by intro _; exact ⟨_, rfl⟩) :
    FnOk P w K mg base CX (k + 1) f fd ps sp := by
  refine ⟨len, fun A outer s H args us vs Q E hr e0 hbd r hsp => ?_⟩
  have hlen := len _ _ _ _ hsp
  obtain ⟨a, ws, rfl, ea, he, hbody⟩ := hb A outer s H vs Q E hsp
  obtain ⟨oc, od, kV, doc, pm, an, ct, osl, rfl, lk, hcd⟩ := id F.ex
  have kin : K.In s.heap := e0.mod.kin.keeps fun b o e => (e0.bs b o e).1
  have lim : s.heap.NoLimit := e0.mod.nolimit.keeps fun b o e => (e0.bs b o e).1
  have ndN : (0 : Nat) < N.length := (List.getElem?_eq_some_iff.mp h0).1
  have hs0 : (L2.start N (V.ref a :: ws))[0]? = some (some (.ref a)) := by
    unfold L2.start
    rfl
  refine PySem.ks_codeAny_call_defAt (fd := PySem.W.ksFn x qual params _ scope .none kV doc pm an (.ref cda) ct cc) (binds := ps.zip us) hr.depth (kin _ _ lk) rfl lim (PySem.W.codeRec_of kin hcd) rfl hbd S.nocell (fun y hy => S.par _ (List.of_mem_zip hy).1) (fun h1 hns hk => ?_) S.co S.gen S.kind
  have I := inv_startS (w := w) (mg := mg) (base := base) (tk := s.toks + (ps.zip us).length) F S hr.hd e0 hlen r hns hk
  show _root_.PySem.wpAt (model P w) (A.deeper (envS qual scope s.heap.objs.size f cda cc)) (.func _ (envS qual scope s.heap.objs.size f cda cc)) (execs _ (envS qual scope s.heap.objs.size f cda cc)) _ _ _
  unfold execs
  obtain ⟨pl, hev⟩ := hev s.heap.objs.size
  refine _root_.PySem.wpAt_bind (_root_.PySem.wpAt_mono (sup_stmt F S G hp h0 hl hmg I hs0 ea he (Q := fun fl s2 => fl = .next ∧ Inv (cxS P w K mg base N qual scope f cda cc A outer s H) [] (L2.start N (V.ref a :: ws)) H s2) (fun s2 I2 => ⟨rfl, I2⟩) (hst _) (hsw _) (pl := pl) hev) (fun fl s2 z => ?_) fun _ _ z => z.elim)
  obtain ⟨rfl, I2⟩ := z
  refine _root_.PySem.wpAt_of_wpAny (wpAny_mono (hbody [] s2 I2) (fun fl s' hs => ?_) fun _ _ z => False.elim z)
  have fin : ∀ {σ' : L2.St} {H' : Hp} {v : V} {u : Value}, Inv (cxS P w K mg base N qual scope f cda cc A outer s H) [] σ' H' s' → RelV v u → Q v H' → CE outer P w H s Q u s' :=
    fun {σ' H' v u} J rv q => ⟨v, H', J.os, J.bare, J.base, J.hok, rv, q⟩
  cases fl with
  | ret u =>
    obtain ⟨v, σ', H', J, rv, q⟩ := hs
    exact fin J rv q
  | next =>
    obtain ⟨σ', H', J, q⟩ := hs
    exact fin (v := V.non) (u := Value.none) J rfl q
  | brk =>
    obtain ⟨_, _, _, q⟩ := hs
    exact False.elim q
  | cont =>
    obtain ⟨_, _, _, q⟩ := hs
    exact False.elim q
end
section
variable {X : Cx} {D : Ends} {σ : L2.St} {H : Hp} {a C d : Addr} {f slf : Str} {e : Expr} {rest : List Stmt} {p1 p2 p4 : Pos} {fs : List (Str × V)}
/-- self.f = e, the first field -/
theorem bx_f1 (T : OexC X.K C) (hno : PySem.W.findIn X.K (.ref C) f = some none) (h0 : X.N[0]? = some slf) (hv : Vis X.env.scope slf) (h1 : σ[0]? = some (some (.ref a)))
    (h : EXt X e σ H fun v H1 => H1 a = some (exo a C none) ∧ ∀ d, H1 d = none → d ≠ a → BXt X rest D σ (upd (upd H1 d (exd d [(f, v)])) a (exo a C (some d))))
    (hs : swapsWith e (some (.Attribute (.Name slf p1) f p2)) p4.line X.env = pure false := by rfl) (hb : (slf == ("__debug__" : Str)) = false := by decide) (hc : (slf == ("__classdict__" : Str)) = false := by decide) : BXt X (.Assign [.Attribute (.Name slf p1) f p2] e p4 :: rest) D σ H := by
  refine bx_of (pss_cons (ps_ost (pe_var h0 hv hb hc) pe_ex hs) pss_ex) ?_
  refine h.mono fun v H1 ⟨ea, q⟩ => ?_
  exact ⟨.ref a, h1, a, C, rfl, T, hno, .inl ⟨ea, fun dx hn hne => q dx hn hne⟩⟩
theorem bx_f2 (T : OexC X.K C) (hno : PySem.W.findIn X.K (.ref C) f = some none) (h0 : X.N[0]? = some slf) (hv : Vis X.env.scope slf) (h1 : σ[0]? = some (some (.ref a))) (hz : fs.length ≤ 900)
    (h : EXt X e σ H fun v H1 => H1 a = some (exo a C (some d)) ∧ H1 d = some (exd d fs) ∧ BXt X rest D σ (upd H1 d (exd d ((f, v) :: fs))))
    (hs : swapsWith e (some (.Attribute (.Name slf p1) f p2)) p4.line X.env = pure false := by rfl) (hb : (slf == ("__debug__" : Str)) = false := by decide) (hc : (slf == ("__classdict__" : Str)) = false := by decide) : BXt X (.Assign [.Attribute (.Name slf p1) f p2] e p4 :: rest) D σ H := by
  refine bx_of (pss_cons (ps_ost (pe_var h0 hv hb hc) pe_ex hs) pss_ex) ?_
  refine h.mono fun v H1 ⟨ea, ed, q⟩ => ?_
  exact ⟨.ref a, h1, a, C, rfl, T, hno, .inr ⟨d, fs, ea, ed, hz, q⟩⟩
end
end GL
namespace GL
open PySem L2 PySem.Spec PyProof.Rows
/-! ### own exceptions over the data -/
/-- an own exception's __init__: the fields are the arguments, the last one first -/
def spEx (S : Sg0) (c : Nat) (chk : List V → Prop) : Sp := fun vs H Q _ => ∃ a ws, vs = .ref a :: ws ∧ ws.length = (S.nms c).length ∧ chk ws ∧ H a = some (exo a (S.cls c) none) ∧
  ∀ d H', H d = none → d ≠ a → H' a = some (exo a (S.cls c) (some d)) → H' d = some (exd d ((S.nms c).zip ws.reverse)) → (∀ b, b ≠ a → b ≠ d → H' b = H b) → Q .non H'
def txts (ws : List V) : Prop := ∀ v ∈ ws, ∃ z : Str, v = .str z ∧ z.length ≤ 10000
def anyV (_ : List V) : Prop := True
structure ExcP (P : Program) (w : World) (K : PySem.W.Frag) (mg : Str → Option Value) (base : Heap) (S : Sg0) (c : Nat) (fI : Addr) (fd : FuncData) (ps : List Str) (chk : List V → Prop) : Prop where
  T : OexC K (S.cls c)
  iC : PySem.W.findIn K (.ref (S.cls c)) "__init__" = some (some (.ref fI))
  tI : PySem.W.typeIn K (.ref fI) = some (.type "function")
  hb : Binds K fd ps []
  F : FnOk P w K mg base CX0 1 fI fd ps (spEx S c chk)
section
variable {X : Cx} {S : Sg} {c : Nat} {fI : Addr} {fd : FuncData} {ps : List Str} {chk : List V → Prop} {x : Str} {p pos pos' : Pos} {e : Expr} {es : List Expr} {Γ : Gm} {μ : Mem} {E : EG}
theorem made_end {F N H1 H' : Hp} {vs : List V} {ds : List D} {a d : Addr} (r : RelM S F N H1 μ) (rv : RpA S (vis N H1 (adr μ)) vs ds) (hl : vs.length = (S.nms c).length) (q : S.qx c ds.reverse μ) (ha : H1 a = none) (hd : upd H1 a (exo a (S.cls c) none) d = none) (hne : d ≠ a)
    (e1 : H' a = some (exo a (S.cls c) (some d))) (hk : ∀ b, b ≠ a → b ≠ d → H' b = upd H1 a (exo a (S.cls c) none) b) :
    S.wx (.ref (S.cls c)) (some d) (upd (L2.del H' a) d (.xd ((S.nms c).zip vs.reverse))) := by
  rw [upd_ne hne] at hd
  have e : upd (L2.del H' a) d (.xd ((S.nms c).zip vs.reverse)) = upd H1 d (.xd ((S.nms c).zip vs.reverse)) := by
    funext b
    by_cases hb : b = d
    · rw [hb, upd_same, upd_same]
    · rw [upd_ne hb, upd_ne hb]
      by_cases hba : b = a
      · rw [hba, del_same, ha]
      · rw [del_ne hba, hk b hba hb, upd_ne hba]
  rw [e]
  have rr : ∀ {vs : List V} {ds : List D}, RpA S (vis N H1 (adr μ)) vs ds → RpA S (vis N H1 (adr μ)) vs.reverse ds.reverse := by
    intro vs ds h
    induction vs generalizing ds with
    | nil => cases h; exact .nil
    | cons v vs ih =>
      cases h with
      | cons h t =>
      rw [List.reverse_cons, List.reverse_cons]
      exact (ih t).append (.cons h .nil)
  have r1 := r.toRelM0.alloc (o := .xd ((S.nms c).zip vs.reverse)) hd
  exact r.iv _ _ _ ⟨c, d, vs.reverse, ds.reverse, μ, rfl, rfl, upd_same, by rw [List.length_reverse]; exact hl, (rr rv).ext (vis_new r.toRelM0 hd), r1, hid_new r.toRelM0 hd, adr_new r.toRelM0 hd, q⟩
/-- raise C(e, ..) -/
theorem st_raise (R : ExcP X.prog X.w X.K X.mg X.base S c fI fd ps chk) (tk : Takes X (fun cls d _ H => S.wx cls d H)) (hr : Room 2 X.A) (hc : X.calm = true) (hg : Gl X x) (hm : X.mg x = some (.ref (S.cls c)))
    (h : EvA X S (e :: es) Γ μ fun ds μ1 => ds.length = (S.nms c).length ∧ ds.length ≤ 1000 ∧ (∀ Hv vs, RpA S Hv vs ds → chk vs) ∧ S.qx c ds.reverse μ1)
    (hdb : (x == ("__debug__" : Str)) = false := by decide) (he : starEach (e :: es) X.env = (false, eval e X.env) :: starEach es X.env := by rfl) (hpl : (backTo pos (starEach es X.env)).any (·.1) = false := by rfl) : StG X S (.Raise (some (.Call (.Name x p) (e :: es) [] pos)) none pos') Γ μ E := by
  intro F N σ H r rs
  refine sx_of (ps_raise hc tk (pmk_oex R.T R.iC R.tI R.F hr R.hb .nil pass0 hg hm pa_ex hdb he hpl)) ?_
  refine h.use r rs fun vs H1 ds μ1 r1 rs1 rd ⟨q1, q2, q3, q4⟩ => ⟨by rw [rd.length]; exact q2, fun a ha => ?_⟩
  rw [List.append_nil]
  have hl : vs.length = (S.nms c).length := by rw [rd.length]; exact q1
  refine ⟨a, vs, rfl, hl, q3 _ _ rd, upd_same, fun d H' h1 h2 h3 h4 h5 => ⟨rfl, d, _, h3, h4, by rwa [upd_ne h2] at h1, ?_⟩⟩
  exact made_end (r1.weakF r.ext) rd hl q4 ha h1 h2 h3 h5
end
theorem txts_of {S : Sg0} {Hv : Hp} : ∀ {ds : List D} {vs : List V}, (∀ d ∈ ds, ∃ z : Str, d = .str z ∧ z.length ≤ 10000) → RpA S Hv vs ds → txts vs
  | [], _, _, h => by
    cases h
    intro v hv
    cases hv
  | d :: ds, _, hd, h => by
    cases h with
    | cons r t =>
    obtain ⟨z, rfl, hz⟩ := hd d List.mem_cons_self
    cases r
    intro v hv
    rcases List.mem_cons.mp hv with rfl | hv
    · exact ⟨z, rfl, hz⟩
    · exact txts_of (fun d hd' => hd d (List.mem_cons_of_mem _ hd')) t v hv
/-! ### what a caught exception's fields are -/
section
variable {X : Cx} {S : Sg} {a dd : Addr} {c : Nat} {l : List D} {oe : Obj} {cls : Value} {d : Option Addr} {pn : List (Addr × Obj)} {e : Expr} {Γ : Gm} {μ : Mem} {Q : QD} {pos : Pos} {n : Str}
theorem ev_xf (T : XfC X.K (S.cls c)) (hno : PySem.W.findIn X.K (.ref (S.cls c)) n = some none) (hz : Zc (.ref (S.cls c)) (some dd) oe) (hf : ∃ vs, oe.data = .fields vs) (nd : (S.nms c).Nodup)
    (h : EvG (X.suite a ((a, oe) :: pn)) S e Γ μ fun d μ1 => ∃ (l : List D) (i : Nat) (y : D), d = .cau a dd c l ∧ (S.nms c)[i]? = some n ∧ l[i]? = some y ∧ Q y μ1) (hb : attributeBase e n X.env (eval e X.env) = eval e X.env := by rfl) :
    EvG (X.suite a ((a, oe) :: pn)) S (.Attribute e n pos) Γ μ Q := by
  intro F N σ H r rs
  refine ex_of (pe_xf T hno hz hf pe_ex hb) (h.use r rs fun v H1 d μ1 r1 rs1 rd ⟨l, i, y, e1, e2, e3, q⟩ => ?_)
  subst e1
  cases rd with
  | @cau _ _ _ vs _ hd hl hs =>
  obtain ⟨w, hw, rw'⟩ := hs.get e3
  exact ⟨rfl, rfl, dd, _, w, rfl, vis_le _ _ hd, lookup_zip nd e2 hw, y, μ1, r1.weakF r.ext, rw', q⟩
end
end GL
namespace GL
open PySem L2 PySem.Spec PyProof.Rows
/-! ### several clauses, each with its name -/
abbrev Cl3 := Value × Nat × (Addr → Value → Option Addr → TS)
def offE (D : Ends) (i : Nat) : Ends := { nx := fun τ G => D.nx (τ.set i none) G, rt := D.rt, bk := fun τ G => D.bk (τ.set i none) G, ct := fun τ G => D.ct (τ.set i none) G }
def wMs (K : PySem.W.Frag) (W0 : WX) (D : Ends) : List Cl3 → WX
  | [] => W0
  | (c, i, ts) :: r => fun cls d τ G => ∃ b, PySem.W.exmOne K cls c = some b ∧ (b = true → ∀ a, G a = none → ts a cls d (offE D i) (τ.set i (some (.ref a))) G) ∧ (b = false → wMs K W0 D r cls d τ G)
inductive Hd3 (X : Cx) : List ExceptHandler → List Cl3 → Prop
  | nil : Hd3 X [] []
  | cons {x n : Str} {c : Value} {i : Nat} {ts : Addr → Value → Option Addr → TS} {st : Stmt} {suite : List Stmt} {np pp : Pos} {hds : List ExceptHandler} {l : List Cl3} (hi : X.N[i]? = some n) (hn : X.env.kindOf n = some .local) (hc : Names X x c)
      (hb : ∀ (a : Addr) (oe : Obj) (cls : Value) (d : Option Addr) (pn : List (Addr × Obj)), Zc cls d oe → (∃ vs, oe.data = .fields vs) → PSs (X.suite a ((a, oe) :: pn)) (st :: suite) (ts a cls d)) (r : Hd3 X hds l) :
      Hd3 X (.ExceptHandler (some (.Name x np)) (some n) (st :: suite) pp :: hds) ((c, i, ts) :: l)
section
variable {X : Cx} {body : List Stmt} {h0 : ExceptHandler} {hds : List ExceptHandler} {l : List Cl3} {pos : Pos} {tb : WX → TS} {W0 : WX}
theorem ps_try3 (hstk : X.stack = X.env :: X.outer) (hfr0 : X.env.frame = some X.env.locals) (nd : X.N.Nodup) (tk : Takes X W0)
    (hb : ∀ (W : WX) (pn : List (Addr × Obj)) (xe : Value → Shared → Prop), Takes (X.tr pn xe) W → PSs (X.tr pn xe) body (tb W)) (hh : Hd3 X (h0 :: hds) l) :
    PS X (.Try body (h0 :: hds) [] [] pos) (fun D τ G => tb (wMs X.K W0 D l) D τ G) := by
  refine ⟨fun pins s τ G D I h => ?_⟩
  have okX := I.ok
  have hfrm : X.A.frames = some (X.env :: X.outer) := okX.frames.trans (by rw [hstk])
  refine wpAny_Try_except (wpAny_mono ((hb (wMs X.K W0 D l) (X.pn ++ pins) (fun e s₁ => wpAny (model X.prog X.w) X.A (noteFrame e X.env) (fun _ s₂ => wpAny (model X.prog X.w) X.A (setFlight e none)
    (fun _ s₃ => wpAny (model X.prog X.w) X.A (handleBy e X.env (h0 :: hds)) (SP X pins D) X.xe s₃) X.xe s₂) X.xe s₁) (fun u s' xx => ?_)).run [] s τ G D (I.toTry _) h) (fun fl s1 hsp => ?_) (fun e s1 z => z))
  · obtain ⟨a, B, sI, pins', τ1, G1, cls, d, rfl, J0, nb, up, sky, na, os, ag, wi⟩ := xx
    have JA : Inv X pins τ1 G1 sI := J0.ofTry okX
    show wpAny (model X.prog X.w) X.A (noteFrame (.ref a) X.env) _ _ _
    refine Sky.land Zc.steady hfrm hfr0 (L := X.env.locals) (B := B) (Z := Zc cls d) (by rw [← hstk]; exact sky) fun hA flA upA => ?_
    have JB : Inv X pins τ1 G1 { s' with heap := hA } := JA.landed nb flA.1 (up.trans upA) os ag
    obtain ⟨oA, vA, eA, zA, dA⟩ := flA.there
    have out : a ∉ frs (X.env :: X.outer) := fun hm => by
      obtain ⟨_, o', e', hnf⟩ := flA.2.2.1.mem hm
      rw [eA] at e'
      cases e'
      exact hnf _ dA
    have oL : a ≠ X.env.locals := fun z => out (List.mem_filterMap.mpr ⟨_, List.mem_cons_self, hfr0.trans (by rw [z])⟩)
    have oF : a ∉ X.fs := fun hm => by
      obtain ⟨ev, m1, m2⟩ := List.mem_filterMap.mp hm
      exact out (List.mem_filterMap.mpr ⟨ev, List.mem_cons_of_mem _ m1, m2⟩)
    have SA := JB.suite eA dA na oL oF
    have run : ∀ {hs : List ExceptHandler} {ls : List Cl3}, Hd3 X hs ls → wMs X.K W0 D ls cls d τ1 G1 → wpAny (model X.prog X.w) X.A (handleBy (.ref a) X.env hs) (SP X pins D) X.xe { s' with heap := hA } := by
      intro hs ls hk
      induction hk with
      | nil =>
        intro wn
        refine wpAny_handleBy_nil ?_
        obtain ⟨_, _, _, oe, vs, T, _, _, he, _, hd, h1, _⟩ := id flA
        unfold PySem.passOn
        refine wpAny_bind (wpAny_field he hd h1 ?_)
        have hT : ¬ ((Value.ref T == Value.none) = true) := by simp
        rw [if_neg hT]
        have thr : wpAny (model X.prog X.w) X.A (setFlight (.ref a) X.env.frame) (fun _ s4 => wpAny (model X.prog X.w) X.A (throw (.ref a) : Sem Flow) (SP X pins D) X.xe s4) X.xe { s' with heap := hA } := by
          rw [hfr0]
          refine HandSPX.setFlight_upZ flA fun hC heC upC => wpAny_throw (tk _ _ ⟨a, B, sI, pins, τ1, G1, cls, d, rfl, JA, nb, (up.trans upA).trans upC, .inr (.inr (by rw [hstk]; exact heC)), na, os, ag, wn⟩)
        first
          | exact wpAny_bind (wpAny_pure (wpAny_bind thr))
          | exact wpAny_bind thr
      | @cons x n c i ts st suite np pp hds2 l2 hi hn hc hsu r ih =>
        rintro ⟨b, hb1, hy, hno⟩
        refine wpAny_handleBy_cons (codeAny_handlers_test ?_) (fun q => by cases q)
        have look := PySem.W.exm_one (M := model X.prog X.w) JB.kIn (e := a) (cls := cls) (fun A Q E s k q => wpAny_typeOf_ref (k _ _ eA) (by rw [zA.1]; exact q)) hb1
        have nameOk : ∀ {Q : Value → Shared → Prop} {E : Value → Shared → Prop}, Q c { s' with heap := hA } → wpAny (model X.prog X.w) (X.A.mark (some (.ref a))) (eval (.Name x np) X.env) Q E { s' with heap := hA } := by
          intro Q E q
          obtain ⟨hg, hdbg, hm | ⟨hm, hv, hnn⟩⟩ := hc
          · exact ld_glob (X := X.suite a ((a, oA) :: (X.pn ++ pins))) SA hg hm q hdbg
          · exact ld_blt (X := X.suite a ((a, oA) :: (X.pn ++ pins))) SA hg hm hv q hnn hdbg
        refine nameOk (look.here ?_)
        cases b with
        | false => exact ih (hno rfl)
        | true =>
          refine codeAny_handlers_suite_as (HandSPX.lands_againZ flA fun hB flB upB => ?_)
          have JC : Inv X pins τ1 G1 { s' with heap := hB } := JA.landed nb flB.1 ((up.trans upA).trans upB) os ag
          obtain ⟨oB, vB, eB, zB, dB⟩ := flB.there
          refine store_ok (X := X.suite a ((a, oB) :: (X.pn ++ pins))) (v := .ref a) (JC.suite eB dB na oL oF) nd hi (.inl hn) rfl (fun s5 S5 => ?_) (.inr hn)
          refine wpAny_mono ((hsu a oB cls d (X.pn ++ pins) zB ⟨_, dB⟩).run [] s5 _ G1 _ S5 (hy rfl a na)) (fun fl s6 q6 => ?_) (fun _ _ z => False.elim z)
          have off : ∀ {τ6 : L2.St} {G6 : Hp} {Q : Shared → Prop}, Inv (X.suite a ((a, oB) :: (X.pn ++ pins))) [] τ6 G6 s6 → (∀ s7, Inv X pins (τ6.set i none) G6 s7 → Q s7) →
              wpAny (model X.prog X.w) X.A (do bindName X.env n .none; unbindBehindTheSuite X.env n pp) (fun _ s7 => Q s7) X.xe s6 := fun S6 q => gone_ok (S6.unsuite okX) nd hi hn q
          cases fl with
          | next => obtain ⟨t6, g6, S6, q⟩ := q6; exact off S6 fun s7 J7 => ⟨_, _, J7, q⟩
          | brk => obtain ⟨t6, g6, S6, q⟩ := q6; exact off S6 fun s7 J7 => ⟨_, _, J7, q⟩
          | cont => obtain ⟨t6, g6, S6, q⟩ := q6; exact off S6 fun s7 J7 => ⟨_, _, J7, q⟩
          | ret u => obtain ⟨v6, t6, g6, S6, rv, q⟩ := q6; exact off S6 fun s7 J7 => ⟨_, _, _, J7, rv, q⟩
    exact run hh wi
  · cases fl with
    | next => obtain ⟨t1, g1, J1, q⟩ := hsp; exact wpAny_execs_nil ⟨t1, g1, J1.ofTry okX, q⟩
    | brk => obtain ⟨t1, g1, J1, q⟩ := hsp; exact ⟨t1, g1, J1.ofTry okX, q⟩
    | cont => obtain ⟨t1, g1, J1, q⟩ := hsp; exact ⟨t1, g1, J1.ofTry okX, q⟩
    | ret u => obtain ⟨v1, t1, g1, J1, rv, q⟩ := hsp; exact ⟨v1, t1, g1, J1.ofTry okX, rv, q⟩
end
end GL
namespace GL
open PySem L2 PySem.Spec PyProof.Rows
abbrev EG.off (E : EG) (i : Nat) : EG := { nx := fun Γ μ => E.nx (Γ.set i none) μ, rt := E.rt, bk := fun Γ μ => E.bk (Γ.set i none) μ, ct := fun Γ μ => E.ct (Γ.set i none) μ }
/-- what the clauses wish of an exception: k's fields ds, the memory -/
def hdlQ (X : Cx) (S : Sg0) (E : EG) (suite : List Stmt) (c : Value) (i : Nat) (q : QE) : QE := fun k ds μ => ∃ b, PySem.W.exmOne X.K (.ref (S.cls k)) c = some b ∧
  (b = true → ∀ (a dd : Addr) (oe : Obj) (pn : List (Addr × Obj)), Zc (.ref (S.cls k)) (some dd) oe → (∃ vs, oe.data = .fields vs) → BlG (X.suite a ((a, oe) :: pn)) S.nx suite ((List.replicate X.N.length none).set i (some (.cau a dd k ds))) μ (E.off i)) ∧ (b = false → q k ds μ)
def tsG (X : Cx) (suite : List Stmt) : Addr → Value → Option Addr → TS := fun a cls d D σ H => ∀ (oe : Obj) (pn : List (Addr × Obj)), Zc cls d oe → (∃ vs, oe.data = .fields vs) → BXt (X.suite a ((a, oe) :: pn)) suite D σ H
inductive HdG (X : Cx) (S : Sg) (E : EG) : List ExceptHandler → List Cl3 → QE → Prop
  | nil : HdG X S E [] [] S.qx
  | cons {x n : Str} {c : Value} {i : Nat} {st : Stmt} {suite : List Stmt} {np pp : Pos} {hds : List ExceptHandler} {l : List Cl3} {q : QE} (hi : X.N[i]? = some n) (hn : X.env.kindOf n = some .local) (hc : Names X x c) (r : HdG X S E hds l q) :
      HdG X S E (.ExceptHandler (some (.Name x np)) (some n) (st :: suite) pp :: hds) ((c, i, tsG X (st :: suite)) :: l) (hdlQ X S E (st :: suite) c i q)
theorem BXt.mono {X : Cx} {sts : List Stmt} {D D' : Ends} {σ : L2.St} {H : Hp} (h : BXt X sts D σ H) (h1 : ∀ σ H, D.nx σ H → D'.nx σ H) (h2 : ∀ v H, D.rt v H → D'.rt v H) (h3 : ∀ σ H, D.bk σ H → D'.bk σ H) (h4 : ∀ σ H, D.ct σ H → D'.ct σ H) : BXt X sts D' σ H := fun pins s I =>
  thn (h pins s I) fun f s' q => by
    cases f with
    | next => obtain ⟨σ', H', I', q⟩ := q; exact ⟨σ', H', I', h1 _ _ q⟩
    | brk => obtain ⟨σ', H', I', q⟩ := q; exact ⟨σ', H', I', h3 _ _ q⟩
    | cont => obtain ⟨σ', H', I', q⟩ := q; exact ⟨σ', H', I', h4 _ _ q⟩
    | ret u => obtain ⟨v, σ', H', I', r, q⟩ := q; exact ⟨v, σ', H', I', r, h2 _ _ q⟩
theorem rel_none {S : Sg0} {Hv : Hp} : ∀ {σ : L2.St} {n : Nat}, σ.length = n → RelS S Hv σ (List.replicate n none)
  | [], 0, _ => .nil
  | [], n + 1, h => by simp at h
  | v :: σ, 0, h => by simp at h
  | v :: σ, n + 1, h => .cons (fun d hd => by cases hd) (rel_none (by simpa using h))
section
variable {X : Cx} {S : Sg} {E : EG} {hds : List ExceptHandler} {l : List Cl3} {q : QE} {body : List Stmt} {Γ : Gm} {μ : Mem} {pos : Pos}
theorem HdG.hd3 (h : HdG X S E hds l q) : Hd3 X hds l := by
  induction h with
  | nil => exact .nil
  | cons hi hn hc r ih => exact .cons hi hn hc (fun a oe cls d pn hz hf => ⟨fun pins s σ H D I h => h oe pn hz hf pins s I⟩) ih
theorem HdG.wish {F N : Hp} (h : HdG X S E hds l q) (iv : S.iv F N) {k : Nat} {dd : Addr} {vs : List V} {ds : List D} {μ : Mem} {H : Hp} {σ : L2.St} (hd : H dd = some (.xd ((S.nms k).zip vs))) (hl : vs.length = (S.nms k).length) (ra : RpA S (vis N H (adr μ)) vs ds) (r : RelM0 S F N H μ) (n1 : N dd = none) (n2 : dd ∉ adr μ)
    (hσ : σ.length = X.N.length) (hq : q k ds μ) : wMs X.K (fun cls d _ H => S.wx cls d H) (E.ends S F N) l (.ref (S.cls k)) (some dd) σ H := by
  induction h with
  | nil => exact iv _ _ _ ⟨k, dd, vs, ds, μ, rfl, rfl, hd, hl, ra, r, n1, n2, hq⟩
  | @cons x n c i st suite np pp hds l q hi hn hc r' ih =>
    obtain ⟨b, e, h1, h2⟩ := hq
    refine ⟨b, e, fun hb a ha oe pn hz hf => ?_, fun hb => ih (h2 hb)⟩
    have rs := RelS.set (Rp.cau (a := a) (vis_mk hd n1 n2) hl ra) i (rel_none (S := S) hσ)
    refine BXt.mono (h1 hb a dd oe pn hz hf F N _ H ⟨r, nx_iv⟩ rs) (fun σ' H' ⟨Γ', μ', r6, rs6, z⟩ => ?_) (fun v H' ⟨d', μ', r6, rd, z⟩ => ?_) (fun σ' H' ⟨Γ', μ', r6, rs6, z⟩ => ?_) (fun σ' H' ⟨Γ', μ', r6, rs6, z⟩ => ?_)
    · exact ⟨_, μ', ⟨r6.toRelM0, iv⟩, RelS.setN i rs6, z⟩
    · exact ⟨d', μ', ⟨r6.toRelM0, iv⟩, rd, z⟩
    · exact ⟨_, μ', ⟨r6.toRelM0, iv⟩, RelS.setN i rs6, z⟩
    · exact ⟨_, μ', ⟨r6.toRelM0, iv⟩, RelS.setN i rs6, z⟩
/-- try: body / except C as n: .. -/
theorem st_try {h0 : ExceptHandler} (hs : X.stack = X.env :: X.outer) (hf : X.env.frame = some X.env.locals) (nd : X.N.Nodup) (tk : Takes X (fun cls d _ H => S.wx cls d H)) (hh : HdG X S E (h0 :: hds) l q)
    (h : ∀ (pn : List (Addr × Obj)) (xe : Value → Shared → Prop) (wx : XK), Takes (X.tr pn xe) (fun cls d _ H => wx cls d H) → BlG (X.tr pn xe) ⟨S.toSg0, q, wx⟩ body Γ μ E) : StG X S (.Try body (h0 :: hds) [] [] pos) Γ μ E := by
  intro F N σ H r rs
  refine sx_of (ps_try3 (l := l) (tb := fun W D σ H => ∀ (pn : List (Addr × Obj)) (xe : Value → Shared → Prop), Takes (X.tr pn xe) W → BXt (X.tr pn xe) body D σ H) hs hf nd tk (fun W pn xe tw => ⟨fun pins s σ H D I h => h pn xe tw pins s I⟩) hh.hd3) ?_
  intro pn xe tw
  have tw' : Takes (X.tr pn xe) (fun cls d _ H' => ∀ σ' : L2.St, σ'.length = X.N.length → wMs X.K (fun cls d _ H => S.wx cls d H) (E.ends S F N) l cls d σ' H') := fun u s' ⟨a, B, sI, pins, σ, H, cls, d, e, I, nb, up, sky, na, os, ag, w⟩ =>
    tw u s' ⟨a, B, sI, pins, σ, H, cls, d, e, I, nb, up, sky, na, os, ag, w σ I.len⟩
  refine BXt.mono (h pn xe _ tw' F N σ H ⟨r.toRelM0, fun cls d H' ⟨k, dd, vs, ds, μ', e1, e2, hd, hl, ra, r', n1, n2, hq⟩ σ' hσ => ?_⟩ rs) (fun σ' H' ⟨Γ', μ', r6, rs6, z⟩ => ?_) (fun v H' ⟨d', μ', r6, rd, z⟩ => ?_) (fun σ' H' ⟨Γ', μ', r6, rs6, z⟩ => ?_) (fun σ' H' ⟨Γ', μ', r6, rs6, z⟩ => ?_)
  · subst e1 e2
    exact hh.wish r.iv hd hl ra r' n1 n2 hσ hq
  · exact ⟨_, μ', ⟨r6.toRelM0, r.iv⟩, rs6, z⟩
  · exact ⟨d', μ', ⟨r6.toRelM0, r.iv⟩, rd, z⟩
  · exact ⟨_, μ', ⟨r6.toRelM0, r.iv⟩, rs6, z⟩
  · exact ⟨_, μ', ⟨r6.toRelM0, r.iv⟩, rs6, z⟩
end
end GL
namespace GL
open PySem L2 PySem.Spec PyProof.Rows
/-! ### dicts over the data -/
def kD : Key → D
  | .inl i => .int i
  | .inr x => .str x
section
variable {κ : Type} [DecidableEq κ]
def valD (kvs : List (κ × D)) (k : κ) : Option D := (kvs.find? fun kv => decide (kv.1 = k)).map (·.2)
def putKD (kvs : List (κ × D)) (k : κ) (v : D) : List (κ × D) := if (kvs.any fun kv => decide (kv.1 = k)) = true then kvs.map (fun kv => if kv.1 = k then (kv.1, v) else kv) else kvs ++ [(k, v)]
variable {S : Sg0} {H : Hp}
theorem RpK.val : ∀ {vs : List (κ × V)} {kvs : List (κ × D)} (k : κ), RpK S H vs kvs → (∃ v d, valV vs k = some v ∧ valD kvs k = some d ∧ Rp S H v d) ∨ (valV vs k = none ∧ valD kvs k = none)
  | _, _, _, .nil => .inr ⟨rfl, rfl⟩
  | _, _, k, @RpK.cons _ _ _ j v d vs kvs r t => by
    by_cases e : j = k
    · refine .inl ⟨v, d, ?_, ?_, r⟩
      · unfold valV; rw [List.find?_cons_of_pos (by simp [e])]; rfl
      · unfold valD; rw [List.find?_cons_of_pos (by simp [e])]; rfl
    · have h1 : valV ((j, v) :: vs) k = valV vs k := by unfold valV; rw [List.find?_cons_of_neg (by simp [e])]
      have h2 : valD ((j, d) :: kvs) k = valD kvs k := by unfold valD; rw [List.find?_cons_of_neg (by simp [e])]
      rw [h1, h2]
      exact RpK.val k t
theorem RpK.length : ∀ {vs : List (κ × V)} {kvs : List (κ × D)}, RpK S H vs kvs → vs.length = kvs.length
  | _, _, .nil => rfl
  | _, _, .cons _ t => by rw [List.length_cons, List.length_cons, RpK.length t]
theorem RpK.any : ∀ {vs : List (κ × V)} {kvs : List (κ × D)} (k : κ), RpK S H vs kvs → (vs.any fun kv => decide (kv.1 = k)) = kvs.any fun kv => decide (kv.1 = k)
  | _, _, _, .nil => rfl
  | _, _, k, .cons _ t => by rw [List.any_cons, List.any_cons, RpK.any k t]
theorem RpK.mapK {v : V} {d : D} {k : κ} (r : Rp S H v d) : ∀ {vs : List (κ × V)} {kvs : List (κ × D)}, RpK S H vs kvs → RpK S H (vs.map (fun kv => if kv.1 = k then (kv.1, v) else kv)) (kvs.map (fun kv => if kv.1 = k then (kv.1, d) else kv))
  | _, _, .nil => .nil
  | _, _, @RpK.cons _ _ _ j w e vs kvs r' t => by
    rw [List.map_cons, List.map_cons]
    by_cases h : j = k
    · rw [if_pos (show (j, w).1 = k from h), if_pos (show (j, e).1 = k from h)]
      exact .cons r (RpK.mapK r t)
    · rw [if_neg (show ¬ (j, w).1 = k from h), if_neg (show ¬ (j, e).1 = k from h)]
      exact .cons r' (RpK.mapK r t)
theorem RpK.app {v : V} {d : D} {k : κ} (r : Rp S H v d) : ∀ {vs : List (κ × V)} {kvs : List (κ × D)}, RpK S H vs kvs → RpK S H (vs ++ [(k, v)]) (kvs ++ [(k, d)])
  | _, _, .nil => .cons r .nil
  | _, _, .cons r' t => .cons r' (RpK.app r t)
theorem RpK.put {v : V} {d : D} {k : κ} (r : Rp S H v d) {vs : List (κ × V)} {kvs : List (κ × D)} (h : RpK S H vs kvs) : RpK S H (putK vs k v) (putKD kvs k d) := by
  unfold putK putKD
  rw [h.any k]
  split
  · exact h.mapK r
  · exact h.app r
theorem RpK.get {k : κ} {d : D} : ∀ {vs : List (κ × V)} {kvs : List (κ × D)} {i : Nat}, RpK S H vs kvs → kvs[i]? = some (k, d) → ∃ v, vs[i]? = some (k, v) ∧ Rp S H v d
  | _, _, _, .nil, e => by simp at e
  | _, _, 0, .cons r _, e => by
    simp at e
    obtain ⟨rfl, rfl⟩ := e
    exact ⟨_, by simp, r⟩
  | _, _, i + 1, .cons _ t, e => by
    obtain ⟨v, h1, h2⟩ := RpK.get (k := k) (d := d) (i := i) t (by simpa using e)
    exact ⟨v, by simpa using h1, h2⟩
end
theorem kV_of {S : Sg0} {H : Hp} {k : Key} {v : V} (r : Rp S H v (kD k)) : v = kV k := by
  cases k <;> cases r <;> rfl
theorem kVs_of {S : Sg0} {H : Hp} : ∀ {k : List Key} {vs : List V}, RpA S H vs (k.map kD) → vs = k.map kV
  | [], _, h => by cases h; rfl
  | k :: ks, _, h => by
    cases h with
    | cons r t => rw [kV_of r, kVs_of t]; rfl
theorem kD_rp {S : Sg0} {H : Hp} : ∀ k : Key, Rp S H (kV k) (kD k)
  | .inl i => .int i
  | .inr x => .str x
theorem kDs_rp {S : Sg0} {H : Hp} : ∀ k : List Key, RpA S H (k.map kV) (k.map kD)
  | [] => .nil
  | k :: ks => .cons (kD_rp k) (kDs_rp ks)
section
variable {X : Cx} {S : Sg} {o e f : Expr} {es : List Expr} {kk : Nat} {Γ : Gm} {μ : Mem} {Q : QD} {pos p1 p2 apos cpos : Pos} {d : D}
theorem ev_dnewT (h : ∀ p, p ∉ adr μ → Q (.ref p) ((p, .dT []) :: μ)) : EvG X S (.Dict [] [] pos) Γ μ Q := by
  intro F N σ H r rs
  refine ex_of pe_dnewT fun p hp => ?_
  exact ⟨_, _, r.allocM hp (.dT .nil), .ref p, h p (adr_new r.toRelM0 hp)⟩
theorem ev_dnewK (h : ∀ p, p ∉ adr μ → Q (.ref p) ((p, .dK []) :: μ)) : EvG X S (.Dict [] [] pos) Γ μ Q := by
  intro F N σ H r rs
  refine ex_of pe_dnewK fun p hp => ?_
  exact ⟨_, _, r.allocM hp (.dK .nil), .ref p, h p (adr_new r.toRelM0 hp)⟩
/-- d.get((..), f), d a dict of the memory with tuple keys -/
theorem ev_dgetT (hu : X.A.units + 1 < cLine) (m : M2 X o "get" apos (.Tuple es kk p1) f cpos)
    (h : EvG X S o Γ μ fun d μ1 => ∃ a, d = .ref a ∧ (∃ kvs, (a, M.dT kvs) ∈ μ1) ∧ EvA X S es Γ μ1 fun ds μ2 => ds.length ≤ 16777216 ∧ EvG X S f Γ μ2 fun z μ3 => ∃ kvs k, (a, M.dT kvs) ∈ μ3 ∧ ds = k.map kD ∧ Q ((valD kvs k).getD z) μ3) :
    EvG X S (.Call (.Attribute o "get" apos) [.Tuple es kk p1, f] [] cpos) Γ μ Q := by
  intro F N σ H r rs
  refine ex_of (pe_dget2 hu pe_ex (pe_tup pa_ex) pe_ex m) (h.use r rs fun v H1 d μ1 r1 rs1 rd ⟨a, e1, ⟨kv0, hk0⟩, q⟩ => ?_)
  subst e1
  cases rd
  obtain ⟨ob, e2, rm⟩ := r1.find hk0
  cases rm with
  | @dT _ vs0 _ =>
  refine ⟨a, rfl, .inr ⟨_, .inl e2⟩, ?_⟩
  refine q.use r1 rs1 fun ws H2 ds μ2 r2 rs2 rds ⟨hz, q⟩ => ⟨by rw [rds.length, sizeLine_eq]; exact hz, fun t ht => ?_⟩
  have r2' := r2.alloc (o := .tup ws) ht
  have hnt := hid_new r2.toRelM0 ht
  have hat := adr_new r2.toRelM0 ht
  refine q.use r2' (RelS.ext (vis_new r2.toRelM0 ht) rs2) fun z H3 zd μ3 r3 rs3 rz ⟨kvs, k, hk, ek, qq⟩ => ?_
  have hT : H3 t = some (.tup ws) := r3.le t _ (vis_mk upd_same hnt hat)
  subst ek
  rw [kVs_of rds] at hT
  obtain ⟨ob3, e3, rm3⟩ := r3.find hk
  cases rm3 with
  | @dT _ vs hvs =>
  refine ⟨valV vs k, DGet.t e3 hT, ?_⟩
  have rfin : RelM S F N H3 μ3 := r3.weakF (r.ext.trans (r1.ext.trans (r2.ext.trans (vis_new r2.toRelM0 ht))))
  rcases hvs.val k with ⟨v, d, h1, h2, h3⟩ | ⟨h1, h2⟩
  · rw [h1]
    rw [h2] at qq
    exact ⟨d, μ3, rfin, h3, qq⟩
  · rw [h1]
    rw [h2] at qq
    exact ⟨zd, μ3, rfin, rz, qq⟩
/-- d[..] = f, d a dict of the memory with tuple keys -/
theorem st_dputT {E : EG} (hu : X.A.units + 1 < cLine) (h : EvG X S f Γ μ fun y μ1 => EvG X S o Γ μ1 fun d μ2 => EvA X S es Γ μ2 fun ds μ3 => ds.length ≤ 16777216 ∧ ∃ a kvs k μ4, d = .ref a ∧ ds = k.map kD ∧ kvs.length < 16777216 ∧ Upd a (.dT kvs) (.dT (putKD kvs k y)) μ3 μ4 ∧ E.nx Γ μ4)
    (hs : swapsWith f (some (.Subscript o (.Tuple es kk p1) p2)) pos.line X.env = pure false := by rfl) : StG X S (.Assign [.Subscript o (.Tuple es kk p1) p2] f pos) Γ μ E := by
  intro F N σ H r rs
  refine sx_of (ps_dput hu pe_ex (pe_tup pa_ex) pe_ex hs) (h.use r rs fun v H1 y μ1 r1 rs1 ry q => ?_)
  refine q.use r1 rs1 fun x H2 d μ2 r2 rs2 rd q => ?_
  refine q.use r2 rs2 fun ws H3 ds μ3 r3 rs3 rds ⟨hz, a, kvs, k, μ4, e1, e2, hl, u, qq⟩ => ⟨by rw [rds.length, sizeLine_eq]; exact hz, fun t ht => ?_⟩
  subst e1
  cases rd
  subst e2
  have hT : upd H3 t (.tup ws) t = some (.tup (k.map kV)) := by rw [upd_same, kVs_of rds]
  have r4 := r3.alloc (o := .tup ws) ht
  obtain ⟨ob, e3, rm⟩ := r4.find u.mem
  cases rm with
  | @dT _ vs hvs =>
  have hv := vis_new (o := .tup ws) r3.toRelM0 ht
  refine ⟨a, _, rfl, DPut.t e3 hT (by rw [hvs.length, sizeLine_eq]; exact hl), ?_⟩
  have r5 := r4.put u (o := .dT (putK vs k v)) (.dT (hvs.put ((ry.ext (r2.ext.trans r3.ext)).ext hv)))
  refine ⟨Γ, μ4, r5.weakF (r.ext.trans (r1.ext.trans r2.ext)), ?_, qq⟩
  rw [u.adr, vis_upd (List.mem_map_of_mem u.mem)]
  exact RelS.ext hv rs3
/-- while e is evaluated the dict stays as it is -/
theorem ev_lockT {a : Addr} {kvs : List (List Key × D)} {μf : Obj → List (List Key × V) → Mem} (hu : ∀ ob vs, Upd a (.dT kvs) (.fzT ob vs kvs) μ (μf ob vs)) (h : ∀ (ob : Obj) (vs : List (List Key × V)), EvG X S e Γ (μf ob vs) fun x μ1 => ∃ μ2, Upd a (.fzT ob vs kvs) (.dT kvs) μ1 μ2 ∧ Q x μ2) : EvG X S e Γ μ Q := by
  intro F N σ H r rs
  have hm : (a, M.dT kvs) ∈ μ := (hu default []).mem
  obtain ⟨o0, e0, rm⟩ := r.find hm
  cases rm with
  | @dT _ vs hvs =>
  refine ex_of (pe_lock pe_ex) ⟨a, _, e0, True.intro, fun od => ?_⟩
  have u := hu od vs
  have r1 := r.put u (o := .frz od (.dT vs)) (.fzT hvs)
  have ev : vis N (upd H a (.frz od (.dT vs))) (adr (μf od vs)) = vis N H (adr μ) := by rw [u.adr, vis_upd (List.mem_map_of_mem hm)]
  refine (h od vs F N σ _ r1 (by rw [ev]; exact rs)).mono fun x H1 ⟨d, μ1, r2, rd, μ2, u2, q⟩ => ?_
  obtain ⟨o2, e2, rm2⟩ := r2.find u2.mem
  cases rm2 with
  | fzT hvs2 =>
  have r3 := r2.put u2 (o := .dT vs) (.dT hvs2)
  refine ⟨e2, d, μ2, r3, ?_, q⟩
  rw [u2.adr, vis_upd (List.mem_map_of_mem u2.mem)]
  exact rd
end
theorem upd_ex {a : Addr} {m m' : M} : ∀ {μ : Mem}, (a, m) ∈ μ → ∃ μ', Upd a m m' μ μ'
  | _ :: μ, h => by
    rcases List.mem_cons.mp h with rfl | h
    · exact ⟨_, .here⟩
    · obtain ⟨μ', u⟩ := upd_ex (m' := m') h
      exact ⟨_, .there u⟩
end GL
namespace GL
open PySem L2 PySem.Spec PyProof.Rows PySem.W PySem.Calls
/-! ### d.items(), the keys tuples -/
def ItiT (d : Addr) (o : Obj) (kvs : List (List L2.Key × V)) : It :=
  ⟨fun i H => H d = some (.frz o (.dT kvs)) ∧ i < kvs.length, fun i H x H' => ∃ T k v q, kvs[i]? = some (k, v) ∧ x = .ref T ∧ H T = none ∧ H q = some (.tup (k.map kV)) ∧ H' = upd H T (.tup [.ref q, v]), fun i H => H d = some (.frz o (.dT kvs)) ∧ kvs.length ≤ i⟩
section
variable {X : Cx} {pins : List (Addr × Obj)} {σ : L2.St} {H : Hp} {s : Shared} {d : Addr} {o : Obj}
theorem frzT_at {kvs : List (List L2.Key × V)} (I : Inv X pins σ H s) (h : H d = some (.frz o (.dT kvs))) : (d == sysModules) = false ∧ ∃ (es : Array DictEntry) (ep : Nat), DT.Raw s.heap d es ep ∧ o.data = .dict es ep ∧ es.size = kvs.length ∧
    ∀ (i : Nat) (k : List L2.Key) (v : V), kvs[i]? = some (k, v) → ∃ (en : DictEntry) (q : Addr), es[i]? = some en ∧ en.key = .ref q ∧ H q = some (.tup (k.map kV)) ∧ RelV v en.val := by
  obtain ⟨hd, z, hs, xs, pr, o', es, ep, ho, hx, hdt, he, _⟩ := I.hok d _ h
  rw [hd] at ho
  cases ho
  have l1 : es.size = xs.length := by
    have := congrArg List.length he
    rwa [Array.length_toList, List.length_map] at this
  have l2 : kvs.length = xs.length := Paired.length pr
  refine ⟨hs, es, ep, ⟨o, hd, hx, hdt⟩, hdt, l1.trans l2.symm, fun i k v e => ?_⟩
  obtain ⟨b, hb, e1, e2, e3⟩ := paired_get pr e
  have q := entry_at he i
  rw [hb] at q
  exact ⟨_, b.2.1, q, rfl, e2, e3⟩
theorem turn_itemsT {P : Program} {w : World} {K : PySem.W.Frag} {es : Array DictEntry} {ep : Nat} {kvs : List (List L2.Key × V)} {elts : List Expr} {kk : Nat} {tpos : Pos} (it : Addr) (hod : o.data = .dict es ep) :
    Turn P w K (.Tuple elts kk tpos) (ItiT d o kvs) [it] it (fun i h => ∃ ok ov, IsItemIter h it d i kvs.length ep ok ov) where
  mem := List.mem_singleton.mpr rfl
  obj := fun i h ⟨ok, ov, e⟩ b hb => by
    cases List.mem_singleton.mp hb
    exact ⟨_, e, fun v z => by cases z⟩
  keep := fun i h h' ⟨ok, ov, e⟩ k => ⟨ok, ov, k it (List.mem_singleton.mpr rfl) _ e⟩
  self := fun A i s Q E ⟨_, _, e⟩ h => PySem.W.kcp_self e h
  item := by
    intro X hP hw hK hc i pins s σ H E I hf ⟨ok, ov, he⟩ ⟨hd, hi⟩
    subst hP hw hK
    obtain ⟨hs, es1, ep1, hraw, hdt, hsz, ent⟩ := frzT_at I hd
    rw [hod] at hdt
    cases hdt
    obtain ⟨⟨k, v⟩, hkv⟩ : ∃ p, kvs[i]? = some p := ⟨kvs[i], List.getElem?_eq_getElem hi⟩
    obtain ⟨en, q, hen, hk1, hk2, rv⟩ := ent i k v hkv
    have hlt : it < s.heap.objs.size := Heap.lt_size he
    have hie : i < es.size := by omega
    have een : es[i] = en := by
      rw [Array.getElem?_eq_getElem hie] at hen
      exact Option.some.inj hen
    refine DT.nextI (es := es) (by rw [hsz]; exact he) hraw hie fun h1 o1 t1 _ keep1 => ⟨_, rfl, wpAny_letOwnedTupleGo_items (s := { s with heap := h1 }) o1 fun h2 o2 sb => ?_⟩
    rw [een, hk1] at t1 o2
    have t2 : h2.get? s.heap.objs.size = some { cls := .type "tuple", data := .seq #[.ref q, en.val] } := (sb.2 _ (Nat.ne_of_gt hlt)).trans t1
    have new : ObjOk X.prog X.w (upd H s.heap.objs.size (.tup [.ref q, v])) h2 s.heap.objs.size (.tup [.ref q, v]) :=
      ⟨by show 2 ≤ sizeLine; decide, [.ref q, en.val], .cons rfl (.cons rv .nil), ⟨_, t2, rfl, _, rfl⟩⟩
    have J : Inv X pins σ (upd H s.heap.objs.size (.tup [.ref q, v])) { s with heap := h2 } :=
      I.turnedNew (t' := s.toks) (ch := [it]) (fun b ob hb e => (sb.2 b (fun z => hb (List.mem_singleton.mpr z))).trans (keep1 b ob (fun z => hb (List.mem_singleton.mpr z)) e)) hf (Nat.le_refl _) new
    refine ⟨.ref s.heap.objs.size, _, J, rfl, ⟨_, k, v, q, hkv, rfl, I.hok.fresh (Nat.le_refl _), hk2, rfl⟩, ⟨_, _, by rw [← hsz]; exact o2⟩, fun b hb => ?_⟩
    cases List.mem_singleton.mp hb
    rw [upd_ne (Nat.ne_of_lt hlt)]
    exact (hf it (List.mem_singleton.mpr rfl)).1
  done := by
    intro X hP hw hK hc i pins s σ H E I hf ⟨ok, ov, he⟩ ⟨hd, hi⟩
    subst hP hw hK
    obtain ⟨f0, f1, f2, f3, f4, f5⟩ := hf it (List.mem_singleton.mpr rfl)
    obtain ⟨hs, es1, ep1, hraw, hdt, hsz, ent⟩ := frzT_at I hd
    rw [hod] at hdt
    cases hdt
    exact DT.endI (es := es) (I.ok.hd hc) (by rw [hsz]; exact he) hraw (by omega) fun h' eb => ⟨rfl, I.turned (t' := s.toks) (fun b ob hb e => eb b ob hb e) f0 f1 f3 f4 f5⟩
def iItemsT (td : TE) : TI := fun σ H R => td σ H fun x H1 => ∃ d o kvs, x = .ref d ∧ H1 d = some (.frz o (.dT kvs)) ∧ R (ItiT d o kvs) H1
theorem pi_itemsT {e : Expr} {td : TE} {apos cpos : Pos} {elts : List Expr} {kk : Nat} {tpos : Pos} (he : PE X e td) (hbase : attributeBase e "items" X.env (eval e X.env) = eval e X.env := by rfl) (hline : (apos.endLine == cpos.line) = true := by rfl) :
    PI X (.Tuple elts kk tpos) (.Call (.Attribute e "items" apos) [] [] cpos) (iItemsT td) := by
  refine ⟨fun pins s σ H R I h => ?_⟩
  refine wpAny_Call_method (T := "dict") (id := "dict.items") hbase rfl hline PySem.F.plainAttrs_dict PySem.F.slot_dict_items PySem.F.type_dict_items (thn (he.run pins s σ H _ I h) fun u s1 ⟨x, H1, I1, rx, d, o, kvs, ex, hd, q⟩ => ?_)
  subst ex
  obtain rfl : u = Value.ref d := rx
  obtain ⟨hs, es, ep, hraw, hdt, hsz, ent⟩ := frzT_at I1 hd
  have hdict : ∀ b, Value.ref d = .ref b → ∃ ob, s1.heap.get? b = some ob ∧ ob.dict = none := fun b z => by
    cases z
    obtain ⟨ob, h1, h2, h3⟩ := hraw
    exact ⟨ob, h1, h2.2.1⟩
  refine ⟨hraw.typeIs, hdict, ?_⟩
  have J : Inv X pins σ H1 { s1 with heap := s1.heap.push { cls := .type "dict_items", data := .fields #[.ref d] } } := I1.kept (t' := s1.toks) fun b ob q => Heap.get?_push_of_some _ q
  have fin : wpAny (model X.prog X.w) X.A (pyIter (.ref s1.heap.objs.size)) (PIE X pins σ (.Tuple elts kk tpos) R) X.xe { s1 with heap := s1.heap.push { cls := .type "dict_items", data := .fields #[.ref d] } } := by
    refine DT.iterI (d := d) (es := es) (ep := ep) ⟨_, Heap.get?_push_size _ rfl, rfl, rfl⟩ (hraw.push _) (pi_one (tk := s1.toks) J _ (turn_itemsT _ hdt) ⟨.none, .none, ?_⟩ q)
    rw [← hsz]
    exact Heap.get?_push_size _ rfl
  show wpAny _ _ (callWith cpos (.builtin "dict.items") [.ref d] [] []) _ X.xe s1
  exact method_meetsIn PySem.F.slot_dict_items PySem.F.entry_dict_items rfl (PySem.evalArgs_none ⟨rfl, hraw.typeIs, PySem.F.args_dict_items_1 _, _, DT.meetsItems (es := es) (ep := ep) hs, ⟨hraw, fin⟩⟩)
end
section
variable {X : Cx} {S : Sg} {e : Expr} {Γ : Gm} {μ : Mem} {R : RI} {a : Addr} {ob : Obj} {kvs : List (List L2.Key × D)} {vs : List (List L2.Key × V)} {elts : List Expr} {kk : Nat} {tpos apos cpos : Pos}
theorem vis_tup {S : Sg0} {F N H : Hp} {μ : Mem} {q : Addr} {xs : List V} (r : RelM0 S F N H μ) (h : H q = some (.tup xs)) : vis N H (adr μ) q = some (.tup xs) := by
  refine vis_mk h ?_ fun hm => ?_
  · cases e : N q with
    | none => rfl
    | some o =>
      have := r.hid q o e
      rw [h] at this
      cases this
      exact absurd e (r.tup q xs)
  · obtain ⟨p, hp, rfl⟩ := List.mem_map.mp hm
    obtain ⟨o, e1, e2⟩ := r.mem p hp
    rw [h] at e1
    cases e1
    exact e2.notup xs rfl
theorem itok_itemsT {Fv : Hp} : ItOk S (ItiT a ob vs) (fun μ' => (a, M.fzT ob vs kvs) ∈ μ') (kvs.map fun p => D.tup [.tup (p.1.map kD), p.2]) Fv := fun N i H2 μ2 r hm => by
  obtain ⟨o, e1, e2⟩ := r.find hm
  cases e2 with
  | fzT hv =>
  have hl := hv.length
  refine ⟨fun h => ⟨e1, by rw [List.length_map] at h; omega⟩, fun d hd => ?_⟩
  rw [List.getElem?_map] at hd
  obtain ⟨⟨k, y⟩, hk, rfl⟩ := Option.map_eq_some_iff.mp hd
  have hi : i < kvs.length := (List.getElem?_eq_some_iff.mp hk).1
  refine ⟨⟨e1, by omega⟩, fun x H' ⟨T, k', v, q, h1, h2, h3, h4, h5⟩ => ?_⟩
  obtain ⟨v', g1, g2⟩ := hv.get hk
  rw [g1] at h1
  cases h1
  subst h2 h5
  have r1 := r.top.alloc (o := .tup [.ref q, v]) h3
  have hw := vis_new (o := .tup [.ref q, v]) r.toRelM0 h3
  exact ⟨r1, .tup (SqT.of (alloc_at r.toRelM0 h3)) (.cons (.tup (SqT.of (hw _ _ (vis_tup r.toRelM0 h4))) (kDs_rp _)) (.cons (g2.ext hw) .nil))⟩
theorem ig_itemsT (h : EvG X S e Γ μ fun d μ1 => d = .ref a ∧ (a, M.fzT ob vs kvs) ∈ μ1 ∧ R (fun μ' => (a, M.fzT ob vs kvs) ∈ μ') (kvs.map fun p => D.tup [.tup (p.1.map kD), p.2]) μ1)
    (hbase : attributeBase e "items" X.env (eval e X.env) = eval e X.env := by rfl) (hline : (apos.endLine == cpos.line) = true := by rfl) : IterG X S (.Tuple elts kk tpos) (.Call (.Attribute e "items" apos) [] [] cpos) Γ μ R := by
  refine ⟨_, pi_itemsT pe_ex hbase hline, fun F N σ H r rs Rr k => ?_⟩
  refine h.use r rs fun v H1 d μ1 r1 rs1 rd ⟨e1, hm, q⟩ => ?_
  subst e1
  cases rd
  obtain ⟨o, e1, e2⟩ := r1.find hm
  cases e2 with
  | fzT hv => exact ⟨a, ob, vs, rfl, e1, k _ H1 _ _ μ1 r1 rs1 itok_itemsT q⟩
end
end GL
namespace GL
open PySem L2 PySem.Spec PyProof.Rows ClX
section
variable {X : Cx} {S : Sg} {CX : CXT} {k : Nat} {f C p g : Addr} {fd : FuncData} {ps : List Str} {sg : SpG} {dvs : List V} {dfs : List Value} {dds : List D} {m x : Str} {pos apos np : Pos} {e o : Expr} {es : List Expr} {Γ : Gm} {μ : Mem} {Q : QD} {d : D} {mc : Value}
/-- o.m, a property of o's class -/
theorem ev_prop {ns : List Str} (hm' : MonoG sg) (c : Cls X.K C) (hp : PropOf X.K C m p g) (F : FnOk X.prog X.w X.K X.mg X.base CX k g fd ps (spG S sg)) (hr : Room (k + 1) X.A) (hb : Binds X.K fd ps []) (hx : Passes CX X.nox S.wx)
    (h : EvG X S o Γ μ fun d μ1 => Rcv S μ1 d C ns ∧ AskG S sg [d] μ1 Q) (hab : attributeBase o m X.env (eval o X.env) = eval o X.env := by rfl) : EvG X S (.Attribute o m pos) Γ μ Q := by
  intro F' N σ H r rs
  refine ex_of (pe_prop (E := S.wx) pe_ex c hp F hr hb .nil hx hab) (h.use r rs fun v H1 d μ1 r1 rs1 rd ⟨q1, q2⟩ => ?_)
  obtain ⟨a, dx, fvs, e1, e2, _⟩ := q1.at r1.toRelM0 rd
  subst e1
  exact ⟨a, dx, fvs, rfl, e2, ask_sp hm' (r1.weakF r.ext) (.cons rd .nil) q2⟩
/-- o.m(e, ..), o the class at C, m a classmethod -/
theorem ev_cmeth {pl : Sem Bool} (hm' : MonoG sg) (cr : CRead X.K C mc) (c : CMet X.K C mc m p g) (F : FnR X.prog X.w X.K X.mg X.base CX k g (spG S sg)) (hr : Room k X.A) (hx : Passes CX X S.wx)
    (h : EvG X S o Γ μ fun d μ1 => d = .ref C ∧ EvA X S (e :: es) Γ μ1 fun ds μ2 => AskG S sg (.ref C :: ds) μ2 Q)
    (hst : starEach (e :: es) X.env = (false, eval e X.env) :: starEach es X.env := by rfl) (hpl : (backTo pos (starEach es X.env)).any (·.1) = false := by rfl)
    (ht : eval (.Call (.Attribute o m apos) (e :: es) [] pos) X.env = (do
      let ov ← eval o X.env
      standAt apos.atName
      let (fv, first) ← holding [ov] (getMethod ov m pl)
      callWith pos fv first (backTo pos (starEach (e :: es) X.env)) (backToKw pos (keywordEach [] X.env))) := by rfl) :
    EvG X S (.Call (.Attribute o m apos) (e :: es) [] pos) Γ μ Q := by
  intro F' N σ H r rs
  refine ex_of (pe_cmeth (E := S.wx) pe_ex cr c F hr hx pa_ex hst hpl ht) (h.use r rs fun v H1 d μ1 r1 rs1 rd ⟨e1, q2⟩ => ?_)
  subst e1
  cases rd
  refine ⟨rfl, q2.use r1 rs1 fun vs H2 ds μ2 r2 rs2 rds q => ?_⟩
  exact ask_sp hm' (r2.weakF (r.ext.trans r1.ext)) (.cons (.ref C) rds) q
/-- x(e, ..), the local x a class -/
theorem pe_makeV {sp : Sp} {t : TA} {E : XK} {i : Nat} {ds : List Value} (M : Mk X.K C f) (F : FnOk X.prog X.w X.K X.mg X.base CX k f fd ps sp) (hr : Room (k + 1) X.A) (hN : X.N[i]? = some x) (hv : Vis X.env.scope x) (hb : Binds X.K fd ps ds) (hd : Vals dvs ds) (hx : Passes CX X E)
    (ha : PA X (e :: es) t) (hdb : (x == ("__debug__" : Str)) = false := by decide) (hcd : (x == ("__classdict__" : Str)) = false := by decide) (he : starEach (e :: es) X.env = (false, eval e X.env) :: starEach es X.env := by rfl) (hpl : (backTo pos (starEach es X.env)).any (·.1) = false := by rfl) :
    PE X (.Call (.Name x np) (e :: es) [] pos) (fun σ H Q => σ[i]? = some (some (.ref C)) ∧ tMake C sp dvs E t σ H Q) := by
  refine ⟨fun pins s σ H Q I ⟨h0, h⟩ => ?_⟩
  refine wpAny_Call_Name_kw (thn ((pe_var (pos := np) hN hv hdb hcd).run pins s σ H (fun v H1 => v = .ref C ∧ H1 = H) I ⟨_, h0, rfl, rfl⟩) fun u s1 ⟨v, H1, I1, rv, e1, e2⟩ => ?_)
  subst e1 e2
  obtain rfl : u = Value.ref C := rv
  refine PySem.W.callWith_K (h₀ := X.base) I1.ok.mod.kin M.kp (thn (ha.run pos pins s1 σ _ _ I1 h) fun us s2 ⟨vs, H2, I2, r, q⟩ => ⟨I2.kIn, run_make M F hr hb hd hx I2 r q⟩) he hpl
theorem ev_makeV (i : Nat) (hm' : MonoG sg) (M : Mk X.K C f) (F : FnOk X.prog X.w X.K X.mg X.base CX k f fd ps (spG S sg)) (hr : Room (k + 1) X.A) (hb : Binds X.K fd ps dfs) (hd : Vals dvs dfs) (hdd : ∀ Hv, RpA S Hv dvs dds) (hx : Passes CX X S.wx)
    (hΓ : Γ[i]? = some (some (.ref C))) (h : EvA X S (e :: es) Γ μ fun ds μ1 => NewG S C sg (ds ++ dds) μ1 Q) (hN : X.N[i]? = some x := by rfl) (hv : Vis X.env.scope x := by first | exact Or.inl rfl | exact Or.inr (Or.inl rfl) | exact Or.inr (Or.inr rfl))
    (hdb : (x == ("__debug__" : Str)) = false := by decide) (hcd : (x == ("__classdict__" : Str)) = false := by decide) (he : starEach (e :: es) X.env = (false, eval e X.env) :: starEach es X.env := by rfl) (hpl : (backTo pos (starEach es X.env)).any (·.1) = false := by rfl) :
    EvG X S (.Call (.Name x np) (e :: es) [] pos) Γ μ Q := by
  intro F' N σ H r rs
  obtain ⟨v, h0, rv⟩ := RelS.get rs hΓ
  cases rv
  refine ex_of (pe_makeV (E := S.wx) M F hr hN hv hb hd hx pa_ex hdb hcd he hpl) ⟨h0, h.use r rs fun vs H1 ds μ1 r1 rs1 rds q => ?_⟩
  intro z dx hz hdx hne
  exact new_sp hm' (r1.weakF r.ext) (rds.append (hdd _)) q z dx hz hdx hne
/-- xs.index(y): the first place -/
theorem mt_ixG {l : List D} {y : D} {n : Nat} {j : Nat} (hK : X.K = S.K) (hu : X.A.units + 65 < cLine) (hd : Drf μ d l) (o1 : D.okA n l = true) (o2 : D.ok n y = true) (n1 : n ≤ 50) (hj : ∃ z, l[j]? = some z ∧ D.eqv z y = true) (hb : ∀ m z, m < j → l[m]? = some z → D.eqv z y = false) (k : Q (.int (j : Nat)) μ) :
    MtG X S "list.index" d [y] μ Q := fun F N H x xs r rx rq => by
  obtain ⟨v, rfl, rv⟩ := rq.one
  obtain ⟨z, hz, ez⟩ := hj
  refine ⟨_, mt_indexD hu, _, ?_, fun _ _ q => q⟩
  obtain ⟨a, ys, rfl, ha, hs⟩ := hd.at r.toRelM0 rx
  have hl : D.ok (n + 1) (.lst l) = true := o1
  have hq := Rsv.dp (d := d) (e := .lst l) (by
    cases hd with
    | val l => exact .inl rfl
    | ref h => exact .inr ⟨l, .ref h, rfl⟩) hl r rx
  have hy := Rp.dp o2 (rv.ext vis_le)
  have pyl : ∀ m, (D.pyA l)[m]? = (l[m]?).map D.py := fun m => by rw [D.pyA_map, List.getElem?_map]
  refine ⟨a, v, D.py y, D.pyA l, j, D.py z, rfl, rfl, by rw [hK]; exact hq, by rw [hK]; exact hy, D.shaped hl (by omega), D.shaped o2 (by omega), by rw [pyl, hz]; rfl, ez, fun m z' hm hz' => ?_, _, μ, r, .int _, k⟩
  rw [pyl] at hz'
  obtain ⟨w, hw, rfl⟩ := Option.map_eq_some_iff.mp hz'
  exact hb m w hm hw
end
theorem exm_of {K : PySem.W.Frag} {t : Value} {C : Addr} {b : Bool} (h1 : PySem.W.subIn K (.ref C) (.type "BaseException") = some true) (h2 : (PySem.W.clsIn K C).isSome = true) (h3 : PySem.W.typeIn K (.ref C) = some (.type "type")) (h4 : PySem.W.subIn K t (.ref C) = some b) : PySem.W.exmOne K t (.ref C) = some b := by
  unfold PySem.W.exmOne PySem.W.kitCls
  rw [h1, if_pos (by rfl)]
  show (if ((PySem.W.clsIn K C).isSome && PySem.W.typeIn K (.ref C) == some (.type "type")) = true then PySem.W.subIn K t (.ref C) else none) = _
  rw [h2, h3, if_pos (by rfl), h4]
theorem cls_some {K : PySem.W.Frag} {C N : Addr} {nm qn : Str} {bs bm : List Value} {sn : List Str} {sub : List Value} {ab hd : Bool} {col : Option Bool} {dd : Option Addr} {k0 k1 k2 k3 k5 : Option Value} {nw : String} (h : K.lookup C = some (excClassObj nm qn C N bs bm hd sn sub ab col dd k0 k1 k2 k3 k5 nw)) : (PySem.W.clsIn K C).isSome = true := by
  unfold PySem.W.clsIn
  rw [h]
  rfl
end GL
namespace GL
open PySem L2 PySem.Spec PyProof.Rows
/-! ### a part of the memory is forgotten -/
section
variable {S : Sg} {F N H : Hp} {μ μ' : Mem}
theorem sub_vis (s : μ'.Sublist μ) : Ex (vis N H (adr μ)) (vis N H (adr μ')) := fun b o e => by
  obtain ⟨h1, h2, h3⟩ := vis_in e
  exact vis_mk h3 h1 fun z => h2 ((s.map (·.1)).subset z)
theorem RelM.drop (r : RelM S F N H μ) (s : μ'.Sublist μ) : RelM S F N H μ' :=
  ⟨⟨r.hid, fun a ha => r.dis a ((s.map (·.1)).subset ha), r.ext.trans (sub_vis s), r.nd.sublist (s.map (·.1)), fun p hp => by
    obtain ⟨o, h1, h2⟩ := r.mem p (s.subset hp)
    exact ⟨o, h1, h2.ext (sub_vis s)⟩, r.tup⟩, r.iv⟩
end
section
variable {X : Cx} {S : Sg} {e : Expr} {sts : List Stmt} {st : Stmt} {Γ : Gm} {μ μ' : Mem} {Q : QD} {E : EG}
theorem bl_drop (s : μ'.Sublist μ) (h : BlG X S sts Γ μ' E) : BlG X S sts Γ μ E := fun F N σ H r rs => h F N σ H (r.drop s) (RelS.ext (sub_vis s) rs)
theorem st_drop (s : μ'.Sublist μ) (h : StG X S st Γ μ' E) : StG X S st Γ μ E := fun F N σ H r rs => h F N σ H (r.drop s) (RelS.ext (sub_vis s) rs)
theorem ev_drop (s : μ'.Sublist μ) (h : EvG X S e Γ μ' Q) : EvG X S e Γ μ Q := fun F N σ H r rs => h F N σ H (r.drop s) (RelS.ext (sub_vis s) rs)
/-- the result's memory -/
theorem ev_out (h : EvG X S e Γ μ fun d μ1 => ∃ μ2, μ2.Sublist μ1 ∧ Q d μ2) : EvG X S e Γ μ Q := fun F N σ H r rs => (h F N σ H r rs).mono fun v H' ⟨d, μ1, r1, rd, μ2, s, q⟩ => ⟨d, μ2, r1.drop s, rd.ext (sub_vis s), q⟩
end
/-- an own exception's fields, as they are stored -/
theorem spEx_end1 {H : Hp} {a d C : Addr} {f : Str} {v : V} (hne : d ≠ a) : upd (upd H d (exd d [(f, v)])) a (exo a C (some d)) a = some (exo a C (some d)) ∧ upd (upd H d (exd d [(f, v)])) a (exo a C (some d)) d = some (exd d [(f, v)]) ∧ ∀ b, b ≠ a → b ≠ d → upd (upd H d (exd d [(f, v)])) a (exo a C (some d)) b = H b :=
  ⟨upd_same, by rw [upd_ne hne, upd_same], fun b h1 h2 => by rw [upd_ne h1, upd_ne h2]⟩
end GL
namespace GL
open PySem L2
def notComp : Expr → Bool | .ListComp _ _ _ _ => false | .SetComp _ _ _ _ => false | .DictComp _ _ _ _ _ => false | _ => true
theorem swaps_no {e : Expr} {t : Option Expr} {l : Nat} {env : Env} (h : notComp e = true) : swapsWith e t l env = pure false := by
  cases e <;> first | rfl | exact nomatch h
end GL
namespace GL
open PySem L2 PySem.Spec PyProof.Rows
/-! ### typed data -/
mutual
theorem D.ok_up : ∀ {n m : Nat} {d : D}, D.ok n d = true → n ≤ m → D.ok m d = true
  | n, m, .non, _, _ => by cases m <;> rfl
  | n, m, .bl b, _, _ => by cases m <;> rfl
  | n, m, .int i, _, _ => by cases m <;> rfl
  | n, m, .str x, h, _ => by cases n <;> cases m <;> exact h
  | 0, m, .lst l, h, _ => by simp [D.ok] at h
  | n + 1, 0, .lst l, _, hm => by omega
  | n + 1, m + 1, .lst l, h, hm => by
    have h' : D.okA n l = true := by simpa only [D.ok] using h
    simp only [D.ok]
    exact D.okA_up h' (by omega)
  | 0, m, .tup l, h, _ => by simp [D.ok] at h
  | n + 1, 0, .tup l, _, hm => by omega
  | n + 1, m + 1, .tup l, h, hm => by
    have h' : D.okA n l = true := by simpa only [D.ok] using h
    simp only [D.ok]
    exact D.okA_up h' (by omega)
  | n, m, .obj c l, h, _ => by cases n <;> simp [D.ok] at h
  | n, m, .ref a, h, _ => by cases n <;> simp [D.ok] at h
  | n, m, .scr a, h, _ => by cases n <;> simp [D.ok] at h
  | n, m, .ty a, h, _ => by cases n <;> simp [D.ok] at h
  | n, m, .dK a b, h, _ => by cases n <;> simp [D.ok] at h
  | n, m, .dT a b, h, _ => by cases n <;> simp [D.ok] at h
  | n, m, .exc a b, h, _ => by cases n <;> simp [D.ok] at h
  | n, m, .cau a b c d, h, _ => by cases n <;> simp [D.ok] at h
theorem D.okA_up : ∀ {n m : Nat} {l : List D}, D.okA n l = true → n ≤ m → D.okA m l = true
  | n, m, [], _, _ => by simp [D.okA]
  | n, m, d :: l, h, hm => by
    have h' : D.ok n d = true ∧ D.okA n l = true := by simpa [D.okA] using h
    simp only [D.okA, Bool.and_eq_true]
    exact ⟨D.ok_up h'.1 hm, D.okA_up h'.2 hm⟩
end
class Rpd (α : Type) where
  rp : α → D
abbrev rp {α : Type} [Rpd α] (x : α) : D := Rpd.rp x
class Dt (α : Type) [DecidableEq α] extends Rpd α where
  dep : Nat
  dok : ∀ x : α, D.ok dep (rp x) = true
  deq : ∀ x y : α, D.eqv (rp x) (rp y) = decide (x = y)
/-- never None -/
class Nn (α : Type) [DecidableEq α] [Dt α] : Prop where
  nn : ∀ x : α, D.eqv .non (Rpd.rp x) = false ∧ D.eqv (Rpd.rp x) .non = false
abbrev Nm := {x : Str // OkS x ∧ x.length ≤ 1000}
structure T3 (α β γ : Type) where
  a : α
  b : β
  c : γ
deriving DecidableEq
structure T4 (α β γ δ : Type) where
  a : α
  b : β
  c : γ
  d : δ
deriving DecidableEq
/-- a tuple of any length -/
structure Tu (α : Type) where
  l : List α
deriving DecidableEq
instance : Rpd Int := ⟨.int⟩
instance : Rpd Bool := ⟨.bl⟩
instance : Rpd Unit := ⟨fun _ => .non⟩
instance : Rpd Nm := ⟨fun x => .str x.1⟩
section
variable {α β γ δ : Type}
instance [Rpd α] : Rpd (List α) := ⟨fun l => .lst (l.map rp)⟩
instance [Rpd α] : Rpd (Tu α) := ⟨fun l => .tup (l.l.map rp)⟩
instance [Rpd α] [Rpd β] : Rpd (α × β) := ⟨fun x => .tup [rp x.1, rp x.2]⟩
instance [Rpd α] [Rpd β] [Rpd γ] : Rpd (T3 α β γ) := ⟨fun x => .tup [rp x.a, rp x.b, rp x.c]⟩
instance [Rpd α] [Rpd β] [Rpd γ] [Rpd δ] : Rpd (T4 α β γ δ) := ⟨fun x => .tup [rp x.a, rp x.b, rp x.c, rp x.d]⟩
instance [Rpd α] : Rpd (Option α) := ⟨fun x => match x with | none => .non | some y => rp y⟩
end
theorem eqv_tup0 {d e : D} {l k : List D} : D.eqv (.tup (d :: l)) (.tup (e :: k)) = (D.eqv d e && D.eqv (.tup l) (.tup k)) := by
  simp [D.eqv, D.py, D.pyA, PyData.eqv, PyData.eqvAll]
theorem eqv_tupN : D.eqv (.tup []) (.tup []) = true := by
  simp [D.eqv, D.py, D.pyA, PyData.eqv, PyData.eqvAll]
theorem eqv_tuple {α : Type} [DecidableEq α] (f : α → D) (h : ∀ a b, D.eqv (f a) (f b) = decide (a = b)) : ∀ xs ys : List α, D.eqv (.tup (xs.map f)) (.tup (ys.map f)) = decide (xs = ys)
  | [], [] => by simp [D.eqv, D.py, D.pyA, PyData.eqv, PyData.eqvAll]
  | [], _ :: _ => by simp [D.eqv, D.py, D.pyA, PyData.eqv, PyData.eqvAll]
  | _ :: _, [] => by simp [D.eqv, D.py, D.pyA, PyData.eqv, PyData.eqvAll]
  | x :: xs, y :: ys => by
    have ih := eqv_tuple f h xs ys
    have h1 := h x y
    simp only [D.eqv, D.py, D.pyA, PyData.eqv, PyData.eqvAll, List.map_cons] at ih h1 ⊢
    rw [ih, h1, Bool.eq_iff_iff]
    simp
theorem and_dec {p q : Prop} [Decidable p] [Decidable q] : (decide p && decide q) = decide (p ∧ q) := by
  by_cases h : p <;> by_cases k : q <;> simp [h, k]
theorem eqv_int (x y : Int) : D.eqv (.int x) (.int y) = decide (x = y) := by
  simp only [D.eqv, D.py, PyData.eqv]
  exact Bool.beq_eq_decide_eq x y
instance : Dt Int where
  dep := 0
  dok _ := rfl
  deq := eqv_int
instance : Dt Bool where
  dep := 0
  dok _ := rfl
  deq x y := by
    show PyData.eqv (.bool x) (.bool y) = _
    cases x <;> cases y <;> rfl
instance : Dt Nm where
  dep := 0
  dok x := x.2.1
  deq x y := by
    refine (eqv_str x.1 y.1).trans (decide_eq_decide.mpr ⟨fun h => Subtype.ext h, fun h => by rw [h]⟩)
section
variable {α β γ δ : Type} [DecidableEq α] [DecidableEq β] [DecidableEq γ] [DecidableEq δ]
theorem okA_map {f : α → D} {n : Nat} (h : ∀ x, D.ok n (f x) = true) (l : List α) : D.okA n (l.map f) = true := by
  rw [D.okA_all]
  intro d hd
  obtain ⟨x, _, rfl⟩ := List.mem_map.mp hd
  exact h x
instance [Dt α] : Dt (List α) where
  dep := Dt.dep α + 1
  dok l := by
    show D.okA (Dt.dep α) (l.map rp) = true
    exact okA_map (fun x => Dt.dok x) l
  deq := eqv_list _ Dt.deq
instance [Dt α] : Dt (Tu α) where
  dep := Dt.dep α + 1
  dok l := by
    show D.okA (Dt.dep α) (l.l.map rp) = true
    exact okA_map (fun x => Dt.dok x) l.l
  deq x y := by
    refine (eqv_tuple _ Dt.deq x.l y.l).trans (decide_eq_decide.mpr ⟨fun h => ?_, fun h => by rw [h]⟩)
    cases x
    cases y
    exact congrArg Tu.mk h
instance [Dt α] [Dt β] : Dt (α × β) where
  dep := max (Dt.dep α) (Dt.dep β) + 1
  dok x := by
    show D.okA (max (Dt.dep α) (Dt.dep β)) [rp x.1, rp x.2] = true
    rw [D.okA_all]
    intro d hd
    rcases List.mem_cons.mp hd with rfl | hd
    · exact D.ok_up (Dt.dok x.1) (by omega)
    · cases List.mem_singleton.mp hd
      exact D.ok_up (Dt.dok x.2) (by omega)
  deq x y := by
    show D.eqv (.tup [rp x.1, rp x.2]) (.tup [rp y.1, rp y.2]) = _
    rw [eqv_tup0, eqv_tup0, eqv_tupN, Dt.deq, Dt.deq, Bool.and_true, and_dec]
    exact decide_eq_decide.mpr Prod.ext_iff.symm
instance [Dt α] [Dt β] [Dt γ] : Dt (T3 α β γ) where
  dep := max (Dt.dep α) (max (Dt.dep β) (Dt.dep γ)) + 1
  dok x := by
    show D.okA (max (Dt.dep α) (max (Dt.dep β) (Dt.dep γ))) [rp x.a, rp x.b, rp x.c] = true
    rw [D.okA_all]
    intro d hd
    rcases List.mem_cons.mp hd with rfl | hd
    · exact D.ok_up (Dt.dok x.a) (by omega)
    rcases List.mem_cons.mp hd with rfl | hd
    · exact D.ok_up (Dt.dok x.b) (by omega)
    · cases List.mem_singleton.mp hd
      exact D.ok_up (Dt.dok x.c) (by omega)
  deq x y := by
    show D.eqv (.tup [rp x.a, rp x.b, rp x.c]) (.tup [rp y.a, rp y.b, rp y.c]) = _
    rw [eqv_tup0, eqv_tup0, eqv_tup0, eqv_tupN, Dt.deq, Dt.deq, Dt.deq, Bool.and_true, and_dec, and_dec]
    cases x
    cases y
    exact decide_eq_decide.mpr (by simp)
instance [Dt α] [Dt β] [Dt γ] [Dt δ] : Dt (T4 α β γ δ) where
  dep := max (Dt.dep α) (max (Dt.dep β) (max (Dt.dep γ) (Dt.dep δ))) + 1
  dok x := by
    show D.okA (max (Dt.dep α) (max (Dt.dep β) (max (Dt.dep γ) (Dt.dep δ)))) [rp x.a, rp x.b, rp x.c, rp x.d] = true
    rw [D.okA_all]
    intro d hd
    rcases List.mem_cons.mp hd with rfl | hd
    · exact D.ok_up (Dt.dok x.a) (by omega)
    rcases List.mem_cons.mp hd with rfl | hd
    · exact D.ok_up (Dt.dok x.b) (by omega)
    rcases List.mem_cons.mp hd with rfl | hd
    · exact D.ok_up (Dt.dok x.c) (by omega)
    · cases List.mem_singleton.mp hd
      exact D.ok_up (Dt.dok x.d) (by omega)
  deq x y := by
    show D.eqv (.tup [rp x.a, rp x.b, rp x.c, rp x.d]) (.tup [rp y.a, rp y.b, rp y.c, rp y.d]) = _
    rw [eqv_tup0, eqv_tup0, eqv_tup0, eqv_tup0, eqv_tupN, Dt.deq, Dt.deq, Dt.deq, Dt.deq, Bool.and_true, and_dec, and_dec, and_dec]
    cases x
    cases y
    exact decide_eq_decide.mpr (by simp)
instance : Nn Int := ⟨fun x => by simp [Rpd.rp, D.eqv, D.py, PyData.eqv]⟩
instance : Nn Bool := ⟨fun x => by simp [Rpd.rp, D.eqv, D.py, PyData.eqv]⟩
instance : Nn Nm := ⟨fun x => by simp [Rpd.rp, D.eqv, D.py, PyData.eqv]⟩
instance [Dt α] : Nn (List α) := ⟨fun x => by simp [Rpd.rp, D.eqv, D.py, PyData.eqv]⟩
instance [Dt α] : Nn (Tu α) := ⟨fun x => by simp [Rpd.rp, D.eqv, D.py, PyData.eqv]⟩
instance [Dt α] [Dt β] : Nn (α × β) := ⟨fun x => by simp [Rpd.rp, D.eqv, D.py, PyData.eqv]⟩
instance [Dt α] [Dt β] [Dt γ] : Nn (T3 α β γ) := ⟨fun x => by simp [Rpd.rp, D.eqv, D.py, PyData.eqv]⟩
instance [Dt α] [Dt β] [Dt γ] [Dt δ] : Nn (T4 α β γ δ) := ⟨fun x => by simp [Rpd.rp, D.eqv, D.py, PyData.eqv]⟩
instance [Dt α] [Nn α] : Dt (Option α) where
  dep := Dt.dep α
  dok x := by
    cases x with
    | none => cases h : Dt.dep α <;> rfl
    | some y => exact Dt.dok y
  deq x y := by
    cases x with
    | none => cases y with
      | none => show D.eqv .non .non = _; simp [D.eqv, D.py, PyData.eqv]
      | some y => exact (Nn.nn y).1.trans (by simp)
    | some x => cases y with
      | none => exact (Nn.nn x).2.trans (by simp)
      | some y => exact (Dt.deq x y).trans (decide_eq_decide.mpr (by simp))
end
end GL
namespace GL
open PySem L2 PySem.Spec PyProof.Rows
/-! ### promises by what a def is worth -/
mutual
/-- data without lists (b false), with instances of the classes cs alone -/
def D.only (b : Bool) (cs : List Nat) : D → Bool
  | .lst l => b && D.onlyA b cs l
  | .tup l => D.onlyA b cs l
  | .obj c l => cs.contains c && D.onlyA b cs l
  | .dK _ l => D.onlyA b cs l
  | .dT _ l => D.onlyA b cs l
  | .exc _ l => D.onlyA b cs l
  | .cau _ _ _ l => D.onlyA b cs l
  | .scr _ => b
  | _ => true
def D.onlyA (b : Bool) (cs : List Nat) : List D → Bool
  | [] => true
  | d :: l => D.only b cs d && D.onlyA b cs l
end
mutual
theorem D.only_up {b : Bool} {cs : List Nat} : ∀ {d : D}, D.only false [] d = true → D.only b cs d = true
  | .lst l, h => by simp [D.only] at h
  | .tup l, h => by simp only [D.only] at h ⊢; exact D.onlyA_up h
  | .obj c l, h => by simp [D.only] at h
  | .dK _ l, h => by simp only [D.only] at h ⊢; exact D.onlyA_up h
  | .dT _ l, h => by simp only [D.only] at h ⊢; exact D.onlyA_up h
  | .exc _ l, h => by simp only [D.only] at h ⊢; exact D.onlyA_up h
  | .cau _ _ _ l, h => by simp only [D.only] at h ⊢; exact D.onlyA_up h
  | .scr _, h => by simp [D.only] at h
  | .non, _ => rfl
  | .bl _, _ => rfl
  | .int _, _ => rfl
  | .str _, _ => rfl
  | .ref _, _ => rfl
  | .ty _, _ => rfl
theorem D.onlyA_up {b : Bool} {cs : List Nat} : ∀ {l : List D}, D.onlyA false [] l = true → D.onlyA b cs l = true
  | [], _ => rfl
  | d :: l, h => by
    simp only [D.onlyA, Bool.and_eq_true] at h ⊢
    exact ⟨D.only_up h.1, D.onlyA_up h.2⟩
end
abbrev Plain (fs : List D) : Prop := D.onlyA false [] fs = true
abbrev KX := Nat → List D → Prop
section
variable {A ρ : Type} [Rpd ρ]
/-- no memory, no exception -/
def sgN (args : A → List D) (m : A → (ρ → Prop) → Prop) : SpG := fun ds μ Q _ => ∃ a k, ds = args a ∧ μ = [] ∧ m a k ∧ ∀ r, k r → Q (rp r) []
/-- no memory -/
def sgX (args : A → List D) (m : A → (ρ → Prop) → KX → Prop) : SpG := fun ds μ Q E => ∃ a k kx, ds = args a ∧ μ = [] ∧ m a k kx ∧ (∀ r, k r → Q (rp r) []) ∧ ∀ c fs, kx c fs → Plain fs → E c fs []
/-- the pool ahead -/
def sgP (args : A → List D) (m : A → (ρ → Prop) → Prop) : SpG := fun ds μ Q _ => ∃ a p l k, ds = .ref p :: args a ∧ μ = [(p, .lst l)] ∧ PoolOk l ∧ m a k ∧ ∀ r l', PoolOk l' → k r → Q (rp r) [(p, .lst l')]
variable {args : A → List D}
theorem sgN_mono {m : A → (ρ → Prop) → Prop} : MonoG (sgN args m) := fun _ _ _ _ _ _ ⟨a, k, h1, h2, h3, q⟩ w _ => ⟨a, k, h1, h2, h3, fun r hr => w _ _ (q r hr)⟩
theorem sgX_mono {m : A → (ρ → Prop) → KX → Prop} : MonoG (sgX args m) := fun _ _ _ _ _ _ ⟨a, k, kx, h1, h2, h3, q, e⟩ w we => ⟨a, k, kx, h1, h2, h3, fun r hr => w _ _ (q r hr), fun c fs h hp => we _ _ _ (e c fs h hp)⟩
theorem sgP_mono {m : A → (ρ → Prop) → Prop} : MonoG (sgP args m) := fun _ _ _ _ _ _ ⟨a, p, l, k, h1, h2, h3, h4, q⟩ w _ => ⟨a, p, l, k, h1, h2, h3, h4, fun r l' hl hr => w _ _ (q r l' hl hr)⟩
variable {S : Sg} {μ : Mem} {Q : QD} {ds : List D}
theorem ask_n {m : A → (ρ → Prop) → Prop} {k : ρ → Prop} (a : A) (hd : ds = args a) (h : m a k) (q : ∀ r, k r → Q (rp r) μ) : AskG S (sgN args m) ds μ Q := ⟨[], μ, Split.none μ, a, k, hd, rfl, h, q⟩
theorem ask_x {m : A → (ρ → Prop) → KX → Prop} {k : ρ → Prop} {kx : KX} (a : A) (hd : ds = args a) (h : m a k kx) (q : ∀ r, k r → Q (rp r) μ) (qe : ∀ c fs, kx c fs → Plain fs → S.qx c fs μ) : AskG S (sgX args m) ds μ Q := ⟨[], μ, Split.none μ, a, k, kx, hd, rfl, h, q, qe⟩
theorem ask_p {m : A → (ρ → Prop) → Prop} {k : ρ → Prop} {p : Addr} {l : List D} (a : A) (hd : ds = .ref p :: args a) (hl : PoolOk l) (h : m a k) (q : ∀ r l', PoolOk l' → k r → Q (rp r) ((p, .lst l') :: μ)) : AskG S (sgP args m) ds ((p, .lst l) :: μ) Q :=
  ⟨[(p, .lst l)], μ, .l (Split.none μ), a, p, l, k, hd, rfl, hl, h, q⟩
end
/-- a draw -/
theorem ask_t {S : Sg} {a : Addr} {l : List D} {n : Int} {μ : Mem} {Q : QD} {R : Int → Prop} (hl : PoolOk l) (h : (0 < n ∧ n < 2 ^ 200) ∧ ∀ r, 0 ≤ r → r < n → R r) (q : ∀ r l', PoolOk l' → R r → Q (.int r) ((a, .lst l') :: μ)) : AskG S sg_take [.ref a, .int n] ((a, .lst l) :: μ) Q :=
  ask_take hl h.1 fun r l' r1 r2 hl' => q r l' hl' (h.2 r r1 r2)
/-- draws, as they are asked -/
def drw (n : Int) (R : Int → Prop) : Prop := (0 < n ∧ n < 2 ^ 200) ∧ ∀ r, 0 ≤ r → r < n → R r
/-! ### a def's walk -/
theorem sub_vis0 {N H : Hp} {μ μ' : Mem} (s : μ'.Sublist μ) : Ex (vis N H (adr μ)) (vis N H (adr μ')) := fun b v e => by
  obtain ⟨h1, h2, h3⟩ := vis_in e
  exact vis_mk h3 h1 fun z => h2 ((s.map _).subset z)
theorem RelM0.drop {S : Sg0} {F N H : Hp} {μ μ' : Mem} (r : RelM0 S F N H μ) (s : μ'.Sublist μ) : RelM0 S F N H μ' :=
  ⟨r.hid, fun a h => r.dis a ((s.map _).subset h), r.ext.trans (sub_vis0 s), r.nd.sublist (s.map _), fun q h => by
    obtain ⟨u, e, m⟩ := r.mem q (s.subset h)
    exact ⟨u, e, m.ext (sub_vis0 s)⟩, r.tup⟩
section
variable {P : Program} {w : World} {K : PySem.W.Frag} {mg : Str → Option Value} {base : Heap} {S : Sg0} {k : Nat} {f : Addr} {fd : FuncData} {N ps : List Str} {x qual : Str} {params : Arguments} {body : List Stmt} {scope : Scope} {dvs : List V} {kws : List (Str × V)}
variable {A ρ : Type} [Rpd ρ] {args : A → List D}
abbrev EN (k : ρ → Prop) : EG := { nx := fun _ _ => ∃ r : ρ, (D.non = rp r) ∧ k r, rt := fun d _ => ∃ r, d = rp r ∧ k r }
theorem fundN {m : A → (ρ → Prop) → Prop} (F : FunD K x qual params body scope dvs kws f fd) (sc : FnScope N ps scope) (len : ∀ a, (args a).length = ps.length)
    (hbody : ∀ (cdv : Value) (Ar : Around) (outer : List Env) (s : Shared) (H : Hp) (E : XK) (a : A) (kk : ρ → Prop), Room k (Ar.deeper (envOfC qual scope s.heap.objs.size f cdv)) → m a kk →
      BlG (cxOf CX0 P w K mg base N qual scope f cdv Ar outer s H E).nox S.nx body (startG N (args a)) [] (EN kk)) :
    FnOk P w K mg base CX0 (k + 1) f fd ps (spG S (sgN args m)) := by
  refine F.ok sc (fun vs H Q E h => ?_) (fun cdv A outer s H vs Q E hr h => ?_)
  · obtain ⟨_, _, ds, μ, _, rv, a, kk, rfl, _⟩ := h
    rw [rv.length]
    exact len a
  · obtain ⟨F0, N0, ds, μ, r, rv, a, kk, rfl, rfl, hm, q0⟩ := h
    refine ⟨_, PSs.nox pss_ex, fun pins s' I => ?_⟩
    refine thn (hbody cdv A outer s H E a kk hr hm F0 N0 (L2.start N vs) H ⟨r, nx_iv⟩ (start_rel rv) pins s' I) fun fl s2 q => ?_
    cases fl with
    | next =>
      obtain ⟨σ', H', I', Γ', μ', r', rs', y, e, q⟩ := q
      exact ⟨σ', H', I', q0 y q .non H' (r'.toRelM0.drop (List.nil_sublist _)) (e ▸ .non)⟩
    | ret u =>
      obtain ⟨v, σ', H', I', rv', d', μ', r', rd, y, rfl, q⟩ := q
      exact ⟨v, σ', H', I', rv', q0 y q v H' (r'.toRelM0.drop (List.nil_sublist _)) (rd.ext (sub_vis0 (List.nil_sublist _)))⟩
    | brk => obtain ⟨σ', H', I', Γ', μ', r', rs', q⟩ := q; exact q.elim
    | cont => obtain ⟨σ', H', I', Γ', μ', r', rs', q⟩ := q; exact q.elim
abbrev EP' (p : Addr) (k : ρ → Prop) : EG := { nx := fun _ μ' => ∃ (r : ρ) (l : List D) (μ0 : Mem), (D.non = rp r) ∧ μ' = (p, .lst l) :: μ0 ∧ PoolOk l ∧ k r, rt := fun d μ' => ∃ (r : ρ) (l : List D) (μ0 : Mem), d = rp r ∧ μ' = (p, .lst l) :: μ0 ∧ PoolOk l ∧ k r }
theorem pool_sub {p : Addr} {l : List D} {μ0 : Mem} : List.Sublist [(p, M.lst l)] ((p, .lst l) :: μ0) := List.Sublist.cons_cons _ (List.nil_sublist _)
theorem fundP {m : A → (ρ → Prop) → Prop} (F : FunD K x qual params body scope dvs kws f fd) (sc : FnScope N ps scope) (len : ∀ a, (args a).length + 1 = ps.length)
    (hbody : ∀ (cdv : Value) (Ar : Around) (outer : List Env) (s : Shared) (H : Hp) (E : XK) (a : A) (p : Addr) (l : List D) (kk : ρ → Prop), Room k (Ar.deeper (envOfC qual scope s.heap.objs.size f cdv)) → PoolOk l → m a kk →
      BlG (cxOf CX0 P w K mg base N qual scope f cdv Ar outer s H E).nox S.nx body (startG N (.ref p :: args a)) [(p, .lst l)] (EP' p kk)) :
    FnOk P w K mg base CX0 (k + 1) f fd ps (spG S (sgP args m)) := by
  refine F.ok sc (fun vs H Q E h => ?_) (fun cdv A outer s H vs Q E hr h => ?_)
  · obtain ⟨_, _, ds, μ, _, rv, a, p, l, kk, rfl, _⟩ := h
    rw [rv.length]
    exact len a
  · obtain ⟨F0, N0, ds, μ, r, rv, a, p, l, kk, rfl, rfl, hl, hm, q0⟩ := h
    refine ⟨_, PSs.nox pss_ex, fun pins s' I => ?_⟩
    refine thn (hbody cdv A outer s H E a p l kk hr hl hm F0 N0 (L2.start N vs) H ⟨r, nx_iv⟩ (start_rel rv) pins s' I) fun fl s2 q => ?_
    cases fl with
    | next =>
      obtain ⟨σ', H', I', Γ', μ', r', rs', y, l', m0, e, rfl, hl', q⟩ := q
      exact ⟨σ', H', I', q0 y l' hl' q .non H' (r'.toRelM0.drop pool_sub) (e ▸ .non)⟩
    | ret u =>
      obtain ⟨v, σ', H', I', rv', d', μ', r', rd, y, l', m0, rfl, rfl, hl', q⟩ := q
      exact ⟨v, σ', H', I', rv', q0 y l' hl' q v H' (r'.toRelM0.drop pool_sub) (rd.ext (sub_vis0 pool_sub))⟩
    | brk => obtain ⟨σ', H', I', Γ', μ', r', rs', q⟩ := q; exact q.elim
    | cont => obtain ⟨σ', H', I', Γ', μ', r', rs', q⟩ := q; exact q.elim
theorem fundX {m : A → (ρ → Prop) → KX → Prop} (F : FunD K x qual params body scope dvs kws f fd) (sc : FnScope N ps scope) (len : ∀ a, (args a).length = ps.length)
    (hbody : ∀ (cdv : Value) (Ar : Around) (outer : List Env) (s : Shared) (H : Hp) (E : XK) (a : A) (kk : ρ → Prop) (kx : KX), Room k (Ar.deeper (envOfC qual scope s.heap.objs.size f cdv)) →
      Takes (cxOf (L2.CX P w) P w K mg base N qual scope f cdv Ar outer s H E) (fun cls d _ H => E cls d H) → m a kk kx →
      BlG (cxOf (L2.CX P w) P w K mg base N qual scope f cdv Ar outer s H E) ⟨S, fun c fs _ => kx c fs ∧ Plain fs, E⟩ body (startG N (args a)) [] (EN kk)) :
    FnOk P w K mg base (L2.CX P w) (k + 1) f fd ps (spG S (sgX args m)) := by
  refine F.ok sc (fun vs H Q E h => ?_) (fun cdv A outer s H vs Q E hr h => ?_)
  · obtain ⟨_, _, ds, μ, _, rv, a, kk, kx, rfl, _⟩ := h
    rw [rv.length]
    exact len a
  · obtain ⟨F0, N0, ds, μ, r, rv, a, kk, kx, rfl, rfl, hm, q0, qe⟩ := h
    refine ⟨_, pss_ex, fun pins s' I => ?_⟩
    have tk : Takes (cxOf (L2.CX P w) P w K mg base N qual scope f cdv A outer s H E) (fun cls d _ H => E cls d H) := takes_of rfl rfl rfl rfl
    refine thn (hbody cdv A outer s H E a kk kx hr tk hm F0 N0 (L2.start N vs) H ⟨r, fun cls d H' ⟨c, dd, fs, gs, μ', e1, e2, hd, hl, hf, r', n1, n2, q⟩ => by
      subst e1 e2
      exact qe c gs q.1 q.2 dd fs H' (r'.drop (List.nil_sublist _)) hd hl (hf.ext (sub_vis0 (List.nil_sublist _))) n1 (fun z => nomatch z)⟩ (start_rel rv) pins s' I) fun fl s2 q => ?_
    cases fl with
    | next =>
      obtain ⟨σ', H', I', Γ', μ', r', rs', y, e, q⟩ := q
      exact ⟨σ', H', I', q0 y q .non H' (r'.toRelM0.drop (List.nil_sublist _)) (e ▸ .non)⟩
    | ret u =>
      obtain ⟨v, σ', H', I', rv', d', μ', r', rd, y, rfl, q⟩ := q
      exact ⟨v, σ', H', I', rv', q0 y q v H' (r'.toRelM0.drop (List.nil_sublist _)) (rd.ext (sub_vis0 (List.nil_sublist _)))⟩
    | brk => obtain ⟨σ', H', I', Γ', μ', r', rs', q⟩ := q; exact q.elim
    | cont => obtain ⟨σ', H', I', Γ', μ', r', rs', q⟩ := q; exact q.elim
end
end GL
namespace GL
open PySem L2 PySem.Spec PyProof.Rows
/-! ### side conditions by shape -/
def notStar : Expr → Bool | .Starred _ _ => false | _ => true
theorem star_cs {e : Expr} {es : List Expr} {env : Env} (h : notStar e = true) : starEach (e :: es) env = (false, eval e env) :: starEach es env := by
  cases e <;> first | rfl | exact nomatch h
theorem plain_ns {env : Env} {pos : Pos} : ∀ {es : List Expr}, es.all notStar = true → (backTo pos (starEach es env)).any (·.1) = false
  | [], _ => rfl
  | e :: es, h => by
    rw [List.all_cons, Bool.and_eq_true] at h
    rw [star_cs h.1]
    have ih := plain_ns (env := env) (pos := pos) h.2
    unfold backTo at ih ⊢
    rw [List.map_cons, List.any_cons, ih]
    rfl
section
variable {X : Cx} {S : Sg} {a b c e o : Expr} {es : List Expr} {st : Stmt} {sts body orelse : List Stmt} {Γ : Gm} {μ : Mem} {Q : QD} {x : Str} {pos p : Pos} {d : D} {E : EG} {tg iter : Expr}
theorem ea_c {Q : List D → Mem → Prop} (h : EvG X S e Γ μ fun d μ1 => EvA X S es Γ μ1 fun ds μ2 => Q (d :: ds) μ2) (hs : notStar e = true := by rfl) : EvA X S (e :: es) Γ μ Q := ea_cons h (star_cs hs)
theorem cB {id : String} (hm : X.mg x = none) (hv : bootBuiltins x = some (.builtin id)) (h : EvA X S (e :: es) Γ μ fun ds μ1 => CallG X S (.builtin id) ds μ1 Q) (hg : Gl X x := by rfl) (hn : x ≠ "__name__" := by decide) (hdb : (x == ("__debug__" : Str)) = false := by decide)
    (h1 : notStar e = true := by rfl) (h2 : es.all notStar = true := by rfl) : EvG X S (.Call (.Name x p) (e :: es) [] pos) Γ μ Q := ev_callB hg hm hv h hn hdb (star_cs h1) (plain_ns h2)
theorem cT {T : String} (hm : X.mg x = none) (hv : bootBuiltins x = some (.type T)) (h : EvA X S (e :: es) Γ μ fun ds μ1 => CallG X S (.type T) ds μ1 Q) (hg : Gl X x := by rfl) (hn : x ≠ "__name__" := by decide) (hdb : (x == ("__debug__" : Str)) = false := by decide)
    (h1 : notStar e = true := by rfl) (h2 : es.all notStar = true := by rfl) : EvG X S (.Call (.Name x p) (e :: es) [] pos) Γ μ Q := ev_callTy hg hm hv h hn hdb (star_cs h1) (plain_ns h2)
section
variable {CX : CXT} {k : Nat} {f : Addr} {fd : FuncData} {ps : List Str} {sg : SpG}
/-- a def of the module, called -/
theorem cF (hm' : MonoG sg) (F : FnOk X.prog X.w X.K X.mg X.base CX k f fd ps (spG S sg)) (hr : Room k X.A) (hm : X.mg x = some (.ref f)) (hk : PySem.W.keepIn X.K (.ref f) = true) (hb : Binds X.K fd ps []) (hx : Passes CX X S.wx)
    (h : EvA X S (e :: es) Γ μ fun ds μ1 => AskG S sg ds μ1 Q) (hg : Gl X x := by rfl) (hdb : (x == ("__debug__" : Str)) = false := by decide) (h1 : notStar e = true := by rfl) (h2 : es.all notStar = true := by rfl) : EvG X S (.Call (.Name x p) (e :: es) [] pos) Γ μ Q :=
  ev_call hm' F hr hg hm hk hb .nil (fun _ => .nil) hx (by simpa only [List.append_nil] using h) hdb (star_cs h1) (plain_ns h2)
/-- C(..) -/
theorem cC {C : Addr} (hm' : MonoG sg) (M : Mk X.K C f) (F : FnOk X.prog X.w X.K X.mg X.base CX k f fd ps (spG S sg)) (hr : Room (k + 1) X.A) (hm : X.mg x = some (.ref C)) (hb : Binds X.K fd ps []) (hx : Passes CX X S.wx)
    (h : EvA X S (e :: es) Γ μ fun ds μ1 => NewG S C sg ds μ1 (FrzQ S.toSg0 Q)) (hg : Gl X x := by rfl) (hdb : (x == ("__debug__" : Str)) = false := by decide) (h1 : notStar e = true := by rfl) (h2 : es.all notStar = true := by rfl) : EvG X S (.Call (.Name x p) (e :: es) [] pos) Γ μ Q :=
  ev_frz <| ev_make hm' M F hr hg hm hb .nil (fun _ => .nil) hx (by simpa only [List.append_nil] using h) hdb (star_cs h1) (plain_ns h2)
end
/-- x = e; .. -/
theorem asgF (i : Nat) {pos' : Pos} (nd : X.N.Nodup) (h : EvG X S e Γ μ fun d μ1 => BlG X S sts (Γ.set i (some d)) μ1 E) (hi : X.N[i]? = some x := by rfl) (hx : Loc X.env.scope x := by first | exact Or.inl rfl | exact Or.inr rfl)
    (hs : notComp e = true := by rfl) (hf : X.fn x = true ∨ X.env.scope.names.lookup x = some .local := by first | exact .inl rfl | exact .inr rfl) : BlG X S (.Assign [.Name x pos'] e pos :: sts) Γ μ E := bl_cons (st_set nd hi hx h (swaps_no hs) hf)
theorem exF (h : EvG X S e Γ μ fun _ μ' => BlG X S sts Γ μ' E) (hs : notComp e = true := by rfl) : BlG X S (.Expr e pos :: sts) Γ μ E := exb h (swaps_no hs)
theorem ixF (h : EvG X S a Γ μ fun d1 μ1 => EvG X S b Γ μ1 fun d2 μ2 => IxG X S d1 d2 μ2 Q) (hs : PlainIx b := by exact fun _ _ => rfl) : EvG X S (.Subscript a b pos) Γ μ Q := ev_ix hs h
/-- a bool, for a test -/
theorem xb {P : Bool → Prop} {c : Bool} (h : P c) : ∃ c', D.bl c = .bl c' ∧ P c' := ⟨c, rfl, h⟩
theorem xi {P : Int → Prop} {c : Int} (h : P c) : ∃ c', D.int c = .int c' ∧ P c' := ⟨c, rfl, h⟩
/-- a test's ways -/
theorem tb {c : Bool} {A B : Prop} (h1 : c = true → A) (h2 : c = false → B) : (c = true → A) ∧ (c = false → B) := ⟨h1, h2⟩
theorem ex_none {v : V} {S : Sg0} {H : Hp} {d : D} (r : Rp S H v d) (hv : v = .non) : d = .non := by
  subst hv
  cases r
  rfl
end
/-! ### typed steps -/
theorem atI_map {α β : Type} (f : α → β) (l : List α) (i : Int) : atI (l.map f) i = (atI l i).map f := by
  unfold atI
  rw [List.length_map]
  cases ixN l.length i with
  | none => rfl
  | some j => exact List.getElem?_map
/-- a datum that is a list of typed data -/
def IsL {α : Type} [Rpd α] (μ : Mem) (d : D) (l : List α) : Prop := Drf μ d (l.map rp)
theorem IsL.val {α : Type} [Rpd α] {μ : Mem} (l : List α) : IsL μ (rp l) l := Drf.val _
theorem IsL.mem {α : Type} [Rpd α] {μ : Mem} {a : Addr} {l : List α} (h : (a, M.lst (l.map rp)) ∈ μ) : IsL μ (.ref a) l := Drf.ref h
def inb {α : Type} [DecidableEq α] (x : α) (l : List α) : Bool := decide (x ∈ l)
theorem inb_t {α : Type} [DecidableEq α] {x : α} {l : List α} : inb x l = true ↔ x ∈ l := decide_eq_true_iff
theorem inb_f {α : Type} [DecidableEq α] {x : α} {l : List α} : inb x l = false ↔ ¬ x ∈ l := decide_eq_false_iff_not
theorem tyL {α : Type} [Rpd α] {μ : Mem} (l : List α) : tyD μ "list" (rp l) := rfl
theorem tyM {μ : Mem} {a : Addr} {l : List D} (h : (a, M.lst l) ∈ μ) : tyD μ "list" (.ref a) := ⟨rfl, l, h⟩
section
variable {X : Cx} {S : Sg} {Γ : Gm} {μ : Mem} {Q : QD} {d e : D}
section
variable {α β : Type} [DecidableEq α] [Dt α] [DecidableEq β] [Dt β]
theorem op_eq (x y : α) (hu : X.A.units + 65 < cLine) (h1 : Rsv μ d (rp x)) (h2 : Rsv μ e (rp y)) (k : Q (.bl (decide (x = y))) μ) (hK : X.K = S.K := by rfl) (n1 : Dt.dep α ≤ 60 := by decide) : OpG X S (compareOp .Eq) d e μ Q := by
  refine og_eqD hK hu h1 h2 (Dt.dok x) (Dt.dok y) n1 n1 ?_
  rw [Dt.deq]
  exact k
theorem op_ne (x y : α) (hu : X.A.units + 65 < cLine) (h1 : Rsv μ d (rp x)) (h2 : Rsv μ e (rp y)) (k : Q (.bl (!decide (x = y))) μ) (hK : X.K = S.K := by rfl) (n1 : Dt.dep α ≤ 60 := by decide) : OpG X S (compareOp .NotEq) d e μ Q := by
  refine og_neD hK hu h1 h2 (Dt.dok x) (Dt.dok y) n1 n1 ?_
  rw [Dt.deq]
  exact k
theorem inL_t (x : α) : ∀ l : List α, D.inL (rp x) (l.map rp) = decide (x ∈ l)
  | [] => by simp [D.inL]
  | y :: l => by
    have ih := inL_t x l
    unfold D.inL at ih ⊢
    rw [List.map_cons, List.any_cons, ih, Dt.deq]
    by_cases h : y = x
    · rw [decide_eq_true h, Bool.true_or, decide_eq_true (h ▸ List.mem_cons_self)]
    · rw [decide_eq_false h, Bool.false_or]
      refine decide_eq_decide.mpr ⟨fun z => List.mem_cons_of_mem _ z, fun z => ?_⟩
      rcases List.mem_cons.mp z with z | z
      · exact absurd z.symm h
      · exact z
theorem op_in (x : α) (l : List α) (hu : X.A.units + 65 < cLine) (h1 : Rsv μ d (rp x)) (h2 : IsL μ e l) (k : Q (.bl (inb x l)) μ) (hK : X.K = S.K := by rfl) (n1 : Dt.dep α ≤ 50 := by decide) : OpG X S (compareOp .In) d e μ Q := by
  refine og_inL hK hu h1 h2 (Dt.dok x) (okA_map (fun x => Dt.dok x) l) n1 ?_
  rw [inL_t]
  exact k
theorem op_ni (x : α) (l : List α) (hu : X.A.units + 65 < cLine) (h1 : Rsv μ d (rp x)) (h2 : IsL μ e l) (k : Q (.bl (!inb x l)) μ) (hK : X.K = S.K := by rfl) (n1 : Dt.dep α ≤ 50 := by decide) : OpG X S (compareOp .NotIn) d e μ Q := by
  refine og_niL hK hu h1 h2 (Dt.dok x) (okA_map (fun x => Dt.dok x) l) n1 ?_
  rw [inL_t]
  exact k
theorem rp_nn [Nn α] (x : α) : (Rpd.rp x : D) ≠ .non := fun h => by
  have := (Nn.nn x).1
  rw [h] at this
  simp [D.eqv, D.py, PyData.eqv] at this
theorem op_isN' [Nn α] (x : Option α) (k : Q (.bl x.isNone) μ) : OpG X S (compareOp .Is) (rp x) .non μ Q := fun F N H u v r ru rv => by
  cases rv
  refine op_of L2.op_isN ⟨rfl, _, μ, r, .bl _, ?_⟩
  cases x with
  | none =>
    cases ru
    exact k
  | some y =>
    have : decide (u = V.non) = false := decide_eq_false fun h => rp_nn y (ex_none ru h)
    rw [this]
    exact k
theorem op_notN' [Nn α] (x : Option α) (k : Q (.bl x.isSome) μ) : OpG X S (compareOp .IsNot) (rp x) .non μ Q := fun F N H u v r ru rv => by
  cases rv
  refine op_of L2.op_notN ⟨rfl, _, μ, r, .bl _, ?_⟩
  cases x with
  | none =>
    cases ru
    exact k
  | some y =>
    have : decide (u = V.non) = false := decide_eq_false fun h => rp_nn y (ex_none ru h)
    rw [this]
    exact k
end
section
variable {α β : Type} [Rpd α] [Rpd β]
theorem op_addL (l k : List α) (h1 : IsL μ d l) (h2 : IsL μ e k) (hz : l.length + k.length ≤ 16777216) (q : Q (rp (l ++ k)) μ) : OpG X S (binaryOp .Add) d e μ Q := by
  refine og_addL h1 h2 (by rw [List.length_map, List.length_map]; exact hz) ?_
  rw [← List.map_append]
  exact q
theorem op_addT (l k : Tu α) (hz : l.l.length + k.l.length ≤ 16777216) (q : Q (rp (Tu.mk (l.l ++ k.l))) μ) (hK : X.K = S.K := by rfl) : OpG X S (binaryOp .Add) (rp l) (rp k) μ Q := by
  refine og_addT hK (by rw [List.length_map, List.length_map]; exact hz) ?_
  rw [← List.map_append]
  exact q
theorem ix_l (l : List α) {i : Int} {y : α} (h : IsL μ d l) (hi : atI l i = some y) (k : Q (rp y) μ) : IxG X S d (.int i) μ Q := ig_l h (by rw [atI_map, hi]; rfl) k
theorem ix_T (l : Tu α) {i : Int} {y : α} (hi : atI l.l i = some y) (k : Q (rp y) μ) (hK : X.K = S.K := by rfl) : IxG X S (rp l) (.int i) μ Q := ig_t hK (by rw [atI_map, hi]; rfl) k
/-- a fixed place of a tuple, of a list -/
theorem ix_t {l : List D} {i : Int} (y : D) (k : Q y μ) (hi : atI l i = some y := by rfl) (hK : X.K = S.K := by rfl) : IxG X S (.tup l) (.int i) μ Q := ig_t hK hi k
theorem ix_f {l : List D} {i : Int} (y : D) (k : Q y μ) (hi : atI l i = some y := by rfl) : IxG X S (.lst l) (.int i) μ Q := ig_l (.val l) hi k
def cutL (l : List α) (lo hi : Option Int) : List α := (l.drop (HT.sIx l.length 0 lo)).take (HT.sIx l.length l.length hi - HT.sIx l.length 0 lo)
theorem cutD_map (l : List α) (lo hi : Option Int) : cutD (l.map rp) lo hi = (cutL l lo hi).map rp := by
  unfold cutD cutL
  rw [List.length_map, ← List.map_drop, ← List.map_take]
theorem sl_l (l : List α) {lo hi : Option Int} (h : IsL μ d l) (k : Q (rp (cutL l lo hi)) μ) : SlG X S d lo hi μ Q := slg_l h (by rw [cutD_map]; exact k)
theorem sl_T (l : Tu α) {lo hi : Option Int} (k : Q (rp (Tu.mk (cutL l.l lo hi))) μ) (hK : X.K = S.K := by rfl) : SlG X S (rp l) lo hi μ Q := slg_t hK (by rw [cutD_map]; exact k)
/-- a slice of a fixed tuple -/
theorem sl_t {l : List D} {lo hi : Option Int} (r : List D) (k : Q (.tup r) μ) (hr : cutD l lo hi = r := by rfl) (hK : X.K = S.K := by rfl) : SlG X S (.tup l) lo hi μ Q := slg_t hK (by rw [hr]; exact k)
theorem c_len (l : List α) (h : IsL μ d l) (k : Q (.int (l.length : Int)) μ) (hK : X.K = S.K := by rfl) : CallG X S (.builtin "len") [d] μ Q := by
  refine cg_len hK (.l h) ?_
  rw [List.length_map]
  exact k
theorem c_lenT (l : Tu α) (k : Q (.int (l.l.length : Int)) μ) (hK : X.K = S.K := by rfl) : CallG X S (.builtin "len") [rp l] μ Q := by
  refine cg_len hK (.t _) ?_
  rw [List.length_map]
  exact k
theorem c_list (l : List α) (h : DrfT μ d (l.map rp)) (k : Q (rp l) μ) (hK : X.K = S.K := by rfl) : CallG X S (.type "list") [d] μ Q := cg_list hK h k
theorem c_listE (l : List α) (h : DrfT μ d (l.map rp)) (k : ∀ p, p ∉ adr μ → Q (.ref p) (μ ++ [(p, .lst (l.map rp))])) (hK : X.K = S.K := by rfl) : CallG X S (.type "list") [d] μ Q := cg_listE hK h k
theorem c_tuple (l : List α) (h : DrfT μ d (l.map rp)) (k : Q (rp (Tu.mk l)) μ) (hK : X.K = S.K := by rfl) : CallG X S (.type "tuple") [d] μ Q := cg_tuple hK h k
theorem c_all (l : List Bool) (h : IsL μ d l) (k : Q (.bl (l.all id)) μ) (hc : X.calm = true := by rfl) : CallG X S (.builtin "all") [d] μ Q := cg_all hc h k
theorem c_any (l : List Bool) (h : IsL μ d l) (k : Q (.bl (l.any id)) μ) (hc : X.calm = true := by rfl) : CallG X S (.builtin "any") [d] μ Q := cg_any hc h k
theorem c_sum (l : List Int) (h : IsL μ d l) (k : Q (.int l.sum) μ) (hc : X.calm = true := by rfl) : CallG X S (.builtin "sum") [d] μ Q := cg_sum hc h k
end
end
end GL
namespace GL
open PySem L2 PySem.Spec PyProof.Rows
/-! ### loops and comprehensions by what they are worth -/
def forI {α σ : Type} (xs : List α) (s0 : σ) (step : α → σ → (σ → Prop) → Prop) (K : σ → Prop) : Prop :=
  ∃ I : Nat → σ → Prop, I 0 s0 ∧ (∀ i x s, xs[i]? = some x → I i s → step x s (I (i + 1))) ∧ ∀ s, I xs.length s → K s
def lcI {α β : Type} (xs : List α) (step : α → (Option β → Prop) → Prop) (K : List β → Prop) : Prop :=
  ∃ I : Nat → List β → Prop, I 0 [] ∧ (∀ i x acc, xs[i]? = some x → I i acc → acc.length < 16777216 ∧ step x (fun o => I (i + 1) (acc ++ o.toList))) ∧ ∀ acc, I xs.length acc → K acc
section
variable {X : Cx} {S : Sg} {Γ : Gm} {μ : Mem} {E : EG} {tg elt : Expr} {ifs : List Expr} {body sts : List Stmt} {scope : Scope}
abbrev RFor (X : Cx) (S : Sg) (tg : Expr) (body sts : List Stmt) (Γ : Gm) (E : EG) : RI := fun Km ds μ1 => ∃ I : Nat → Gm → Mem → Prop, I 0 Γ μ1 ∧ (∀ i Γ' μ', I i Γ' μ' → Km μ') ∧
      (∀ i d Γ' μ', ds[i]? = some d → I i Γ' μ' → TgG X S (List.range 64) tg d Γ' μ' fun Γ2 μ2 => BlG X S body Γ2 μ2 { nx := I (i + 1), ct := I (i + 1), bk := fun Γ' μ' => BlG X S sts Γ' μ' E, rt := E.rt }) ∧
      (∀ Γ' μ', I ds.length Γ' μ' → BlG X S sts Γ' μ' E)
/-- where a turn ends -/
abbrev ETurn {σ : Type} (R : σ → Gm → Mem → Prop) (J : σ → Prop) (X : Cx) (S : Sg) (sts : List Stmt) (E : EG) : EG :=
  { nx := fun Γ μ => ∃ s, J s ∧ R s Γ μ, ct := fun Γ μ => ∃ s, J s ∧ R s Γ μ, bk := fun Γ' μ' => BlG X S sts Γ' μ' E, rt := E.rt }
theorem forQ {α σ : Type} {f : α → D} {xs : List α} {s0 : σ} {step : α → σ → (σ → Prop) → Prop} {K : σ → Prop} {Km : Mem → Prop} (h : forI xs s0 step K) (R : σ → Gm → Mem → Prop) (h0 : R s0 Γ μ) (km : ∀ s Γ' μ', R s Γ' μ' → Km μ')
    (hstep : ∀ x s J Γ' μ', x ∈ xs → R s Γ' μ' → step x s J → TgG X S (List.range 64) tg (f x) Γ' μ' fun Γ2 μ2 => BlG X S body Γ2 μ2 (ETurn R J X S sts E))
    (hend : ∀ s Γ' μ', R s Γ' μ' → K s → BlG X S sts Γ' μ' E) : RFor X S tg body sts Γ E Km (xs.map f) μ := by
  obtain ⟨I, i0, hs, hk⟩ := h
  refine ⟨fun i Γ' μ' => ∃ s, I i s ∧ R s Γ' μ', ⟨s0, i0, h0⟩, fun i Γ' μ' ⟨s, _, r⟩ => km s Γ' μ' r, ?_, ?_⟩
  · rintro i d Γ' μ' hd ⟨s, hi, r⟩
    obtain ⟨x, hx, rfl⟩ := map_at hd
    exact hstep x s _ Γ' μ' (List.mem_of_getElem? hx) r (hs i x s hx hi)
  · rintro Γ' μ' ⟨s, hi, r⟩
    rw [List.length_map] at hi
    exact hend s Γ' μ' r (hk s hi)
abbrev RLc (X : Cx) (S : Sg) (tg elt : Expr) (ifs : List Expr) (scope : Scope) (vs : List Nat) (Γ : Gm) (Q : List D → Mem → Prop) : RI := fun Km ds μ1 => LcG X S tg elt ifs scope vs Γ Km ds μ1 Q
abbrev LcStep (X : Cx) (S : Sg) (tg elt : Expr) (ifs : List Expr) (scope : Scope) (vs : List Nat) (Γ : Gm) (k : Bk) (d : D) (μ' : Mem) (T : Bool → Mem → Prop) (W : D → Mem → Prop) : Prop :=
  TgG (k.cx X scope) S vs tg d (wipeG Γ vs) μ' fun Γ2 μ2 => ∀ k : Bk, TsG (k.cx X scope) S ifs Γ2 μ2 fun b μ3 => (b = true → ∀ k : Bk, EvG (k.cx X scope) S elt Γ2 μ3 W) ∧ (b = false → T b μ3)
/-- a comprehension by its word -/
theorem lcQ {α β : Type} [Rpd β] {f : α → D} {xs : List α} {step : α → (Option β → Prop) → Prop} {K : List β → Prop} {Km : Mem → Prop} {vs : List Nat} {Q : List D → Mem → Prop} (h : lcI xs step K) (R : Mem → Prop) (h0 : R μ) (km : ∀ μ', R μ' → Km μ')
    (hstep : ∀ x J μ', x ∈ xs → R μ' → step x J → ∀ k : Bk, LcStep X S tg elt ifs scope vs Γ k (f x) μ' (fun _ μ3 => J none ∧ R μ3) (fun y μ4 => ∃ z : β, y = rp z ∧ J (some z) ∧ R μ4))
    (hend : ∀ acc μ', R μ' → K acc → Q (acc.map rp) μ') : RLc X S tg elt ifs scope vs Γ Q Km (xs.map f) μ := by
  obtain ⟨I, i0, hs, hk⟩ := h
  refine ⟨fun i acc μ' => ∃ ys : List β, acc = ys.map rp ∧ I i ys ∧ R μ', ⟨[], rfl, i0, h0⟩, fun i acc μ' ⟨_, _, _, r⟩ => km μ' r, ?_, ?_⟩
  · rintro i d acc μ' hd ⟨ys, rfl, hi, r⟩ k
    obtain ⟨x, hx, rfl⟩ := map_at hd
    obtain ⟨hz, h1⟩ := hs i x ys hx hi
    intro F N σ H v r1 rs rv
    refine (hstep x _ μ' (List.mem_of_getElem? hx) r h1 k F N σ H v r1 rs rv).mono fun σ' H' ⟨w, Γ2, μ2, r2, rs2, q⟩ => ⟨w, Γ2, μ2, r2, rs2, fun k F N σ H r rs => ?_⟩
    obtain ⟨t, ht, q⟩ := q k F N σ H r rs
    refine ⟨_, pts_ex, t, _, ht, q, fun b H' ⟨μ3, r3, q1, q2⟩ => ⟨μ3, r3, fun hb k => (q1 hb k).mono fun y μ4 ⟨z, e, hj, r4⟩ => ⟨by rw [List.length_map]; exact hz, ys ++ [z], by rw [List.map_append, e]; rfl, hj, r4⟩, fun hb => ?_⟩⟩
    obtain ⟨hj, r4⟩ := q2 hb
    exact ⟨ys, rfl, by simpa using hj, r4⟩
  · rintro acc μ' ⟨ys, rfl, hi, r⟩
    rw [List.length_map] at hi
    exact hend ys μ' r (hk ys hi)
theorem filt_snoc {α β : Type} {p : α → Bool} {f : α → β} {l : List α} {i : Nat} {x : α} (h : l[i]? = some x) : (((l.take (i + 1)).filter p).map f) = ((l.take i).filter p).map f ++ (if p x = true then some (f x) else none).toList := by
  rw [take_snoc h, List.filter_append, List.map_append]
  by_cases hp : p x = true
  · rw [if_pos hp, List.filter_cons_of_pos hp]
    rfl
  · rw [if_neg hp, List.filter_cons_of_neg hp]
    rfl
/-- a comprehension that neither draws nor asks -/
theorem lcFM {α β : Type} [Rpd β] {f : α → D} {xs : List α} {Km : Mem → Prop} {vs : List Nat} {Q : List D → Mem → Prop} (p : α → Bool) (g : α → β) (hz : xs.length ≤ 16777216) (km : Km μ)
    (hstep : ∀ x, x ∈ xs → ∀ k : Bk, LcStep X S tg elt ifs scope vs Γ k (f x) μ (fun _ μ3 => p x = false ∧ μ3 = μ) (fun y μ4 => y = rp (g x) ∧ p x = true ∧ μ4 = μ))
    (hend : Q (((xs.filter p).map g).map rp) μ) : RLc X S tg elt ifs scope vs Γ Q Km (xs.map f) μ := by
  refine lcQ (β := β) (step := fun x J => x ∈ xs ∧ (p x = true → J (some (g x))) ∧ (p x = false → J none)) (K := fun acc => acc = (xs.filter p).map g) ⟨fun i acc => acc = ((xs.take i).filter p).map g ∧ i ≤ xs.length, ⟨rfl, Nat.zero_le _⟩, ?_, ?_⟩ (fun μ' => μ' = μ) rfl (fun μ' h => h ▸ km) ?_ (fun acc μ' h1 h2 => by rw [h1, h2]; exact hend)
  · rintro i x acc hx ⟨rfl, hi⟩
    have hlt : i < xs.length := by
      rcases Nat.lt_or_ge i xs.length with h | h
      · exact h
      · rw [List.getElem?_eq_none h] at hx; cases hx
    refine ⟨?_, List.mem_of_getElem? hx, fun hp => ⟨?_, hlt⟩, fun hp => ⟨?_, hlt⟩⟩
    · rw [List.length_map]
      have := List.length_filter_le p (xs.take i)
      have := List.length_take_le i xs
      omega
    · rw [filt_snoc hx, if_pos hp]
    · rw [filt_snoc hx, if_neg (by rw [hp]; decide)]
  · rintro acc ⟨rfl, _⟩
    rw [List.take_length]
  · rintro x J μ' hx rfl ⟨_, h1, h2⟩ k
    intro F N σ H v r1 rs rv
    refine (hstep x hx k F N σ H v r1 rs rv).mono fun σ' H' ⟨w, Γ2, μ2, r2, rs2, q⟩ => ⟨w, Γ2, μ2, r2, rs2, fun k F N σ H r rs => ?_⟩
    obtain ⟨t, ht, q⟩ := q k F N σ H r rs
    refine ⟨_, pts_ex, t, _, ht, q, fun b H' ⟨μ3, r3, q1, q2⟩ => ⟨μ3, r3, fun hb k => (q1 hb k).mono fun y μ4 ⟨e, hp, e2⟩ => ⟨g x, e, h1 hp, e2⟩, fun hb => ?_⟩⟩
    obtain ⟨hp, e2⟩ := q2 hb
    exact ⟨h2 hp, e2⟩
end
end GL
namespace GL
open PySem L2 PySem.Spec PyProof.Rows
section
variable {X : Cx} {S : Sg} {Γ : Gm} {μ : Mem} {Q : QD} {tg : Expr} {R : RI} {a b c e : Expr} {es rest : List Expr} {T : Bool → Mem → Prop} {pos p : Pos} {x : Str}
section
variable {α : Type} [Rpd α]
theorem it_l (xs : List α) (k : R (fun _ => True) (xs.map rp) μ) (hK : X.K = S.K := by rfl) : IterV X S tg (rp xs) μ R := iv_lst hK k
theorem it_T (xs : Tu α) (k : R (fun _ => True) (xs.l.map rp) μ) (hK : X.K = S.K := by rfl) : IterV X S tg (rp xs) μ R := iv_tup hK k
theorem it_m {g : Addr} (xs : List α) (hm : (g, M.lst (xs.map rp)) ∈ μ) (k : R (fun μ' => (g, M.lst (xs.map rp)) ∈ μ') (xs.map rp) μ) (hK : X.K = S.K := by rfl) : IterV X S tg (.ref g) μ R := iv_mem hK hm k
end
theorem rng0 (n : Nat) : rng 0 n = (List.range n).map fun i : Nat => D.int (i : Int) := by
  unfold rng
  refine List.map_congr_left fun i _ => ?_
  rw [Int.zero_add]
theorem ir1 (hm : X.mg "range" = none) (h : EvA X S [a] Γ μ fun ds μ1 => ∃ j : Int, ds = [.int j] ∧ (-(2 ^ 62) ≤ j ∧ j < 2 ^ 62) ∧ R (fun _ => True) ((List.range j.toNat).map fun i : Nat => D.int (i : Int)) μ1) (hg : Gl X "range" := by rfl) (hs : notStar a = true := by rfl) :
    IterG X S tg (.Call (.Name "range" p) [a] [] pos) Γ μ R := ig_range1 hg hm ((fun F N σ H r rs => (h F N σ H r rs).mono fun vs H' ⟨ds, μ', r', ra, j, e1, e2, q⟩ => ⟨ds, μ', r', ra, j, e1, e2, by rw [rng0]; exact q⟩)) (star_cs hs)
theorem ir2 (hm : X.mg "range" = none) (h : EvA X S [a, b] Γ μ fun ds μ1 => ∃ i j : Int, ds = [.int i, .int j] ∧ (-(2 ^ 62) ≤ i ∧ i < 2 ^ 62 ∧ -(2 ^ 62) ≤ j ∧ j < 2 ^ 62) ∧ R (fun _ => True) ((List.range (j - i).toNat).map fun n : Nat => D.int (i + n)) μ1) (hg : Gl X "range" := by rfl) (h1 : notStar a = true := by rfl) (h2 : notStar b = true := by rfl) :
    IterG X S tg (.Call (.Name "range" p) [a, b] [] pos) Γ μ R := ig_range2 hg hm ((fun F N σ H r rs => (h F N σ H r rs).mono fun vs H' ⟨ds, μ', r', ra, i, j, e1, e2, q⟩ => ⟨ds, μ', r', ra, i, j, e1, e2, q⟩)) (by rw [star_cs h1, star_cs h2]; rfl) (star_cs h2)
/-- tests whose parts always evaluate -/
theorem ew_orP {u v : Bool} (ha : ∀ {T : Bool → Mem → Prop}, T u μ → EvT X S a Γ μ T) (hb : ∀ {T : Bool → Mem → Prop}, T v μ → EvW X S (.BoolOp .Or (b :: rest) pos) Γ μ T) (k : T (u || v) μ) : EvW X S (.BoolOp .Or (a :: b :: rest) pos) Γ μ T := by
  refine ew_or (ha ⟨fun h => ?_, fun h => ?_⟩)
  · subst h
    exact hb k
  · subst h
    exact k
theorem ew_andP {u v : Bool} (ha : ∀ {T : Bool → Mem → Prop}, T u μ → EvT X S a Γ μ T) (hb : ∀ {T : Bool → Mem → Prop}, T v μ → EvW X S (.BoolOp .And (b :: rest) pos) Γ μ T) (k : T (u && v) μ) : EvW X S (.BoolOp .And (a :: b :: rest) pos) Γ μ T := by
  refine ew_and (ha ⟨fun h => ?_, fun h => ?_⟩)
  · subst h
    exact hb k
  · subst h
    exact k
theorem ev_orP {u v : Bool} (ha : ∀ {Q : QD}, Q (.bl u) μ → EvG X S a Γ μ Q) (hb : ∀ {Q : QD}, Q (.bl v) μ → EvG X S (.BoolOp .Or (b :: rest) pos) Γ μ Q) (k : Q (.bl (u || v)) μ) : EvG X S (.BoolOp .Or (a :: b :: rest) pos) Γ μ Q := by
  refine ev_or (ha ⟨_, rfl, fun h => ?_, fun h => ?_⟩)
  · subst h
    exact hb k
  · subst h
    exact k
theorem ev_andP {u v : Bool} (ha : ∀ {Q : QD}, Q (.bl u) μ → EvG X S a Γ μ Q) (hb : ∀ {Q : QD}, Q (.bl v) μ → EvG X S (.BoolOp .And (b :: rest) pos) Γ μ Q) (k : Q (.bl (u && v)) μ) : EvG X S (.BoolOp .And (a :: b :: rest) pos) Γ μ Q := by
  refine ev_and (ha ⟨_, rfl, fun h => ?_, fun h => ?_⟩)
  · subst h
    exact hb k
  · subst h
    exact k
/-- a test cut off from what follows -/
theorem et_cut {T' : Bool → Mem → Prop} (U : Bool → Prop) (R : Mem → Prop) (h : EvT X S e Γ μ fun b μ1 => U b ∧ R μ1) (k : ∀ b μ1, U b → R μ1 → T' b μ1) : EvT X S e Γ μ T' := fun F N σ H r rs =>
  (h F N σ H r rs).mono fun _ _ ⟨μ', r', q1, q2⟩ => ⟨μ', r', k _ _ q1 q2⟩
theorem ev_cut {Q' : QD} (Q : QD) (h : EvG X S e Γ μ Q) (k : ∀ d μ1, Q d μ1 → Q' d μ1) : EvG X S e Γ μ Q' := h.mono k
end
section
variable {X : Cx} {S : Sg} {Γ : Gm} {μ : Mem} {E : EG} {sts : List Stmt} {o e i : Expr} {pos apos cpos : Pos} {α : Type} [Rpd α]
/-- xs.append(e); .. -/
theorem appF {a : Addr} {l0 : List D} (ho : ∀ {Q : QD}, Q (.ref a) μ → EvG X S o Γ μ Q) (hm : (a, M.lst l0) ∈ μ)
    (he : EvG X S e Γ μ fun d μ2 => ∃ (l : List α) (y : α) (μ3 : Mem), d = rp y ∧ l.length < 16777216 ∧ Upd a (.lst (l.map rp)) (.lst ((l ++ [y]).map rp)) μ2 μ3 ∧ BlG X S sts Γ μ3 E)
    (hbase : attributeBase o "append" X.env (eval o X.env) = eval o X.env := by rfl)
    (hs : notStar e = true := by rfl) (hline : (apos.endLine == cpos.line) = true := by rfl) : BlG X S (.Expr (.Call (.Attribute o "append" apos) [e] [] cpos) pos :: sts) Γ μ E := by
  refine exF <| ev_app (ho ⟨a, rfl, ⟨_, hm⟩, ea_c ?_ hs⟩) hbase (by rw [star_cs hs]; rfl) hline (star_cs hs) rfl
  refine he.mono fun d μ2 ⟨l, y, μ3, h1, h2, h3, h4⟩ => ea_nil ⟨d, l.map rp, μ3, rfl, ?_, by rw [List.length_map]; exact h2, h4⟩
  rw [h1, show l.map rp ++ [rp y] = (l ++ [y]).map rp by rw [List.map_append]; rfl]
  exact h3
/-- xs[i] = e; .. -/
theorem setF {o : Expr} {a : Addr} (he : EvG X S e Γ μ fun d μ1 => EvG X S o Γ μ1 fun od μ2 => EvG X S i Γ μ2 fun id μ3 => ∃ (l : List α) (k : Int) (j : Nat) (y : α) (μ4 : Mem), od = .ref a ∧ id = .int k ∧ d = rp y ∧ ixN l.length k = some j ∧ Upd a (.lst (l.map rp)) (.lst ((l.set j y).map rp)) μ3 μ4 ∧ BlG X S sts Γ μ4 E)
    (hs : notComp e = true := by rfl) {p1 : Pos} (ha : ∀ v, assign (.Subscript o i p1) X.env v = (do
      let ov ← holding [v] (eval o X.env)
      let iv ← holding [v, ov] (eval i X.env)
      standAt p1
      holding [v, ov, iv] (setItem ov iv v)
      release [v, ov, iv] []) := by intro _; rfl) (hw : swappedStores [.Subscript o i p1] e X.env = pure none := by rfl) (h1 : (assignEach [.Subscript o i p1] X.env).map (·.2) = [assign (.Subscript o i p1) X.env] := by rfl) : BlG X S (.Assign [.Subscript o i p1] e pos :: sts) Γ μ E := by
  refine setb (he.mono fun d μ1 h => tg_sub (h.mono fun od μ2 h => h.mono fun id μ3 ⟨l, k, j, y, μ4, e1, e2, e3, e4, e5, e6⟩ => ⟨a, l.map rp, k, j, μ4, e1, e2, by rw [List.length_map]; exact e4, ?_, e6⟩) ha) (by rw [swapsWithSole]; exact swaps_no hs) hw h1
  rw [e3, show (l.map rp).set j (rp y) = (l.set j y).map rp by rw [List.map_set]]
  exact e5
end
/-! ### what a def is worth, as a function -/
section
variable {A ρ : Type} [Rpd ρ]
def sgF (args : A → List D) (Pre : A → Prop) (F : A → ρ) : SpG := fun ds μ Q _ => ∃ a, ds = args a ∧ μ = [] ∧ Pre a ∧ Q (rp (F a)) []
theorem sgF_mono {args : A → List D} {Pre : A → Prop} {F : A → ρ} : MonoG (sgF args Pre F) := fun _ _ _ _ _ _ ⟨a, h1, h2, h3, q⟩ w _ => ⟨a, h1, h2, h3, w _ _ q⟩
theorem ask_f {S : Sg} {μ : Mem} {Q : QD} {ds : List D} {args : A → List D} {Pre : A → Prop} {F : A → ρ} (a : A) (h : Pre a) (q : Q (rp (F a)) μ) (hd : ds = args a := by rfl) : AskG S (sgF args Pre F) ds μ Q := ⟨[], μ, Split.none μ, a, hd, rfl, h, q⟩
theorem okF {P : Program} {w : World} {K : PySem.W.Frag} {mg : Str → Option Value} {base : Heap} {CX : CXT} {k : Nat} {f : Addr} {fd : FuncData} {ps : List Str} {S : Sg0} {args : A → List D} {m : A → (ρ → Prop) → Prop} {Pre : A → Prop} {F : A → ρ}
    (h : FnOk P w K mg base CX k f fd ps (spG S (sgN args m))) (vc : ∀ a (kk : ρ → Prop), Pre a → kk (F a) → m a kk) : FnOk P w K mg base CX k f fd ps (spG S (sgF args Pre F)) :=
  h.imp fun vs H Q E ⟨F0, N, ds, μ, r, rv, a, e1, e2, hp, q⟩ => ⟨F0, N, ds, μ, r, rv, a, fun x => x = F a, e1, e2, vc a _ hp rfl, fun r h => by rw [h]; exact q⟩
end
end GL
namespace GL
open PySem L2 PySem.Spec PyProof.Rows
/-- y = [..] on one line -/
theorem swaps_yes {elt : Expr} {gens : List Comprehension} {scope : Scope} {pos py : Pos} {y : Str} {env : Env} {line : Nat} (hb : env.blockKind = .function) (hy : env.kindOf y = some .local) (hl : py.line = pos.line)
    (hn : (scope.names.any fun x => x.1 == y && (x.2 == .local || x.2 == .cell)) = false) : swapsWith (.ListComp elt gens scope pos) (some (.Name y py)) line env = pure true := by
  have h1 : (env.blockKind == ScopeKind.function) = true := by rw [hb]; rfl
  have h2 : (env.kindOf y == some NameKind.local) = true := by rw [hy]; rfl
  have h3 : (py.line == pos.line) = true := by rw [hl]; simp
  show (pure (env.blockKind == ScopeKind.function && env.kindOf y == some NameKind.local && py.line == pos.line && !(scope.names.any fun x => x.1 == y && (x.2 == .local || x.2 == .cell))) : Sem Bool) = pure true
  rw [h1, h2, h3, hn]
  rfl
theorem swaps_cell {elt : Expr} {gens : List Comprehension} {scope : Scope} {pos py : Pos} {y : Str} {env : Env} {line : Nat} (hy : env.kindOf y = some .cell) : swapsWith (.ListComp elt gens scope pos) (some (.Name y py)) line env = pure false := by
  have h2 : (env.kindOf y == some NameKind.local) = false := by rw [hy]; rfl
  show (pure (env.blockKind == ScopeKind.function && env.kindOf y == some NameKind.local && py.line == pos.line && !(scope.names.any fun x => x.1 == y && (x.2 == .local || x.2 == .cell))) : Sem Bool) = pure false
  rw [h2, Bool.and_false, Bool.false_and, Bool.false_and]
theorem swaps_line {elt : Expr} {gens : List Comprehension} {scope : Scope} {pos py : Pos} {y : Str} {env : Env} {line : Nat} (hl : (py.line == pos.line) = false) : swapsWith (.ListComp elt gens scope pos) (some (.Name y py)) line env = pure false := by
  show (pure (env.blockKind == ScopeKind.function && env.kindOf y == some NameKind.local && py.line == pos.line && !(scope.names.any fun x => x.1 == y && (x.2 == .local || x.2 == .cell))) : Sem Bool) = pure false
  rw [hl, Bool.and_false, Bool.false_and]
section
variable {X : Cx} {S : Sg} {e : Expr} {sts : List Stmt} {Γ : Gm} {μ : Mem} {E : EG} {x : Str} {pos : Pos}
/-- x = [..]; .., x a cell or on another line -/
theorem asgL (i : Nat) {pos' : Pos} (nd : X.N.Nodup) (hs : swapsWith e (some (.Name x pos')) pos.line X.env = pure false) (h : EvG X S e Γ μ fun d μ1 => BlG X S sts (Γ.set i (some d)) μ1 E) (hi : X.N[i]? = some x := by rfl) (hx : Loc X.env.scope x := by first | exact Or.inl rfl | exact Or.inr rfl)
    (hf : X.fn x = true ∨ X.env.scope.names.lookup x = some .local := by first | exact .inl rfl | exact .inr rfl) : BlG X S (.Assign [.Name x pos'] e pos :: sts) Γ μ E := bl_cons (st_set nd hi hx h hs hf)
end
theorem isl {α : Type} [Rpd α] {μ : Mem} {d : D} {l : List α} (h : d = rp l) : IsL μ d l := by
  rw [h]
  exact .val _
/-- the first place -/
def fst {α : Type} [DecidableEq α] (x : α) : List α → Nat
  | [] => 0
  | y :: l => if y = x then 0 else fst x l + 1
section
variable {α : Type} [DecidableEq α]
theorem fst_at {x : α} : ∀ {l : List α}, x ∈ l → l[fst x l]? = some x
  | y :: l, h => by
    unfold fst
    by_cases e : y = x
    · rw [if_pos e, e]
      rfl
    · rw [if_neg e]
      rcases List.mem_cons.mp h with h | h
      · exact absurd h.symm e
      · exact fst_at h
theorem fst_ne {x : α} : ∀ {l : List α} {m : Nat} {z : α}, m < fst x l → l[m]? = some z → z ≠ x
  | [], m, z, h, _ => by simp [fst] at h
  | y :: l, m, z, h, e => by
    unfold fst at h
    by_cases e1 : y = x
    · rw [if_pos e1] at h
      omega
    · rw [if_neg e1] at h
      cases m with
      | zero =>
        cases e
        exact e1
      | succ m => exact fst_ne (l := l) (m := m) (by omega) (by simpa using e)
theorem fst_lt {x : α} {l : List α} (h : x ∈ l) : fst x l < l.length := by
  have := fst_at h
  rcases Nat.lt_or_ge (fst x l) l.length with h | h
  · exact h
  · rw [List.getElem?_eq_none h] at this
    cases this
variable [Dt α] {X : Cx} {S : Sg} {μ : Mem} {Q : QD} {d e : D}
theorem mt_idx (l : List α) (y : α) (hu : X.A.units + 65 < cLine) (hd : IsL μ d l) (hy : y ∈ l) (k : Q (.int (fst y l : Nat)) μ) (hK : X.K = S.K := by rfl) (n1 : Dt.dep α ≤ 50 := by decide) : MtG X S "list.index" d [rp y] μ Q := by
  refine mt_ixG hK hu hd (okA_map (fun x => Dt.dok x) l) (Dt.dok y) n1 ⟨rp y, by rw [List.getElem?_map, fst_at hy]; rfl, by rw [Dt.deq]; exact decide_eq_true rfl⟩ (fun m z hm hz => ?_) k
  obtain ⟨x, hx, rfl⟩ := map_at hz
  rw [Dt.deq]
  exact decide_eq_false (fst_ne hm hx)
end
end GL
namespace GL
open PySem L2 PySem.Spec PyProof.Rows
/-! ### f-strings of texts and names -/
theorem str_app_len (x y : Str) : (x ++ y).length = x.length + y.length := by
  rw [cs_len, cs_len, cs_len, cs_app, List.length_append]
section
variable {X : Cx} {σ : L2.St} {H : Hp}
def FJ (X : Cx) (σ : L2.St) (H : Hp) (es : List Expr) (n : Nat) : Prop := ∃ ts, PJ X es ts ∧ ∀ acc : Str, acc.length + n ≤ sizeLine → tJs ts acc σ H (fun _ H1 => H1 = H)
theorem fj_nil : FJ X σ H [] 0 := ⟨[], .nil, fun _ _ => rfl⟩
theorem fj_c {x : Str} {j} {pos : Pos} {es : List Expr} {n : Nat} (h : FJ X σ H es n) (hz : Nat.ble x.length 1000 = true := by rfl) : FJ X σ H (.Constant (.str x) j pos :: es) (1000 + n) := by
  obtain ⟨ts, h1, h2⟩ := h
  have hz := Nat.le_of_ble_eq_true hz
  refine ⟨_, .cons pe_str h1, fun acc ha => ⟨x, rfl, ?_, h2 _ ?_⟩⟩ <;> rw [str_app_len] <;> omega
theorem fj_v {x : Str} {p pos : Pos} {es : List Expr} {n : Nat} (i : Nat) {z : Str} (hσ : σ[i]? = some (some (.str z))) (hz : z.length ≤ 10000) (h : FJ X σ H es n) (hN : X.N[i]? = some x := by rfl) (hv : Vis X.env.scope x := by exact Or.inl rfl) (hd : (x == ("__debug__" : Str)) = false := by decide) (hcd : (x == ("__classdict__" : Str)) = false := by decide) :
    FJ X σ H (.FormattedValue (.Name x p) (-1) none pos :: es) (10000 + n) := by
  obtain ⟨ts, h1, h2⟩ := h
  refine ⟨_, .cons (pe_fmt (pe_var hN hv hd hcd)) h1, fun acc ha => ⟨_, hσ, .inl ⟨z, rfl, ?_, z, rfl, ?_, h2 _ ?_⟩⟩⟩
  · rw [sizeLine_eq]
    omega
  · rw [str_app_len]
    omega
  · rw [str_app_len]
    omega
theorem ex_fj {v1 v2 : Expr} {rest : List Expr} {n : Nat} {pos : Pos} (h : FJ X σ H (v1 :: v2 :: rest) n) (hn : Nat.ble n 100000 = true := by rfl) : EXt X (.JoinedStr (v1 :: v2 :: rest) pos) σ H (fun _ H1 => H1 = H) := by
  obtain ⟨ts, h1, h2⟩ := h
  refine ex_of (pe_joined h1) (h2 Str.empty ?_)
  have := Nat.le_of_ble_eq_true hn
  rw [sizeLine_eq]
  show 0 + n ≤ _
  omega
end
theorem spEx_end2 {H : Hp} {a d C : Addr} {f g : Str} {v u : V} (hne : d ≠ a) :
    upd (upd (upd H d (exd d [(f, v)])) a (exo a C (some d))) d (exd d [(g, u), (f, v)]) a = some (exo a C (some d)) ∧ upd (upd (upd H d (exd d [(f, v)])) a (exo a C (some d))) d (exd d [(g, u), (f, v)]) d = some (exd d [(g, u), (f, v)]) ∧ ∀ b, b ≠ a → b ≠ d → upd (upd (upd H d (exd d [(f, v)])) a (exo a C (some d))) d (exd d [(g, u), (f, v)]) b = H b :=
  ⟨by rw [upd_ne hne.symm, upd_same], upd_same, fun b h1 h2 => by rw [upd_ne h2, upd_ne h1, upd_ne h2]⟩
theorem spEx_end3 {H : Hp} {a d C : Addr} {f g h : Str} {v u w : V} (hne : d ≠ a) :
    upd (upd (upd (upd H d (exd d [(f, v)])) a (exo a C (some d))) d (exd d [(g, u), (f, v)])) d (exd d [(h, w), (g, u), (f, v)]) a = some (exo a C (some d)) ∧ upd (upd (upd (upd H d (exd d [(f, v)])) a (exo a C (some d))) d (exd d [(g, u), (f, v)])) d (exd d [(h, w), (g, u), (f, v)]) d = some (exd d [(h, w), (g, u), (f, v)]) ∧ ∀ b, b ≠ a → b ≠ d → upd (upd (upd (upd H d (exd d [(f, v)])) a (exo a C (some d))) d (exd d [(g, u), (f, v)])) d (exd d [(h, w), (g, u), (f, v)]) b = H b :=
  ⟨by rw [upd_ne hne.symm, upd_ne hne.symm, upd_same], upd_same, fun b h1 h2 => by rw [upd_ne h2, upd_ne h2, upd_ne h1, upd_ne h2]⟩
theorem mid2 {H : Hp} {a d C : Addr} {f : Str} {v : V} (hne : d ≠ a) : upd (upd H d (exd d [(f, v)])) a (exo a C (some d)) a = some (exo a C (some d)) ∧ upd (upd H d (exd d [(f, v)])) a (exo a C (some d)) d = some (exd d [(f, v)]) := ⟨upd_same, by rw [upd_ne hne, upd_same]⟩
theorem mid3 {H : Hp} {a d C : Addr} {f g : Str} {v u : V} (hne : d ≠ a) : upd (upd (upd H d (exd d [(f, v)])) a (exo a C (some d))) d (exd d [(g, u), (f, v)]) a = some (exo a C (some d)) ∧ upd (upd (upd H d (exd d [(f, v)])) a (exo a C (some d))) d (exd d [(g, u), (f, v)]) d = some (exd d [(g, u), (f, v)]) := ⟨by rw [upd_ne hne.symm, upd_same], upd_same⟩
theorem tx0 (x : Nm) : ∃ z : Str, (rp x : D) = .str z ∧ z.length ≤ 10000 := ⟨x.1, rfl, Nat.le_trans x.2.2 (by decide)⟩
theorem tx1 (x : Nm) : ∀ d ∈ ([rp x] : List D), ∃ z : Str, d = .str z ∧ z.length ≤ 10000 := fun d h => by
  cases List.mem_singleton.mp h
  exact tx0 x
theorem tx2 (x y : Nm) : ∀ d ∈ ([rp x, rp y] : List D), ∃ z : Str, d = .str z ∧ z.length ≤ 10000 := fun d h => by
  rcases List.mem_cons.mp h with rfl | h
  · exact tx0 x
  · exact tx1 y d h
theorem tx3 (x y z : Nm) : ∀ d ∈ ([rp x, rp y, rp z] : List D), ∃ z : Str, d = .str z ∧ z.length ≤ 10000 := fun d h => by
  rcases List.mem_cons.mp h with rfl | h
  · exact tx0 x
  · exact tx2 y z d h
instance {α β : Type} [Rpd α] [Rpd β] : Rpd (α ⊕ β) := ⟨fun x => match x with | .inl a => rp a | .inr b => rp b⟩
theorem kit_type {K : PySem.W.Frag} {C : Addr} {T : String} {b : Bool} (h1 : PySem.W.kitMeta T = true) (h : PySem.W.subIn K (.ref C) (.type T) = some b) : PySem.W.kitOne K (.ref C) (.type T) = some b := by
  unfold PySem.W.kitOne PySem.W.kitCls
  rw [if_neg (by simp)]
  show (if PySem.W.kitMeta T = true then PySem.W.subIn K (.ref C) (.type T) else none) = _
  rw [if_pos h1, h]
/-! ### lists or tuples handed to a constructor -/
structure Sq (α : Type) where
  tup : Bool
  l : List α
instance {α : Type} [Rpd α] : Rpd (Sq α) := ⟨fun x => match x.tup with | true => .tup (x.l.map rp) | false => .lst (x.l.map rp)⟩
section
variable {X : Cx} {S : Sg} {μ : Mem} {tg : Expr} {R : RI} {α : Type} [Rpd α]
theorem it_S (xs : Sq α) (k : R (fun _ => True) (xs.l.map rp) μ) (hK : X.K = S.K := by rfl) : IterV X S tg (rp xs) μ R := by
  obtain ⟨b, l⟩ := xs
  cases b with
  | true => exact iv_tup hK k
  | false => exact iv_lst hK k
end
/-! ### constructors -/
section
variable {A V : Type}
def sgC (C : Addr) (args : A → List D) (flds : V → List (Str × D)) (m : A → (V → Prop) → KX → Prop) : SpG := fun ds μ Q E => ∃ x a k kx, ds = .ref x :: args a ∧ μ = [(x, .ins C [])] ∧ m a k kx ∧ (∀ v, k v → Q .non [(x, .ins C (flds v))]) ∧ ∀ c fs, kx c fs → Plain fs → E c fs []
variable {C : Addr} {args : A → List D} {flds : V → List (Str × D)}
theorem sgC_mono {m : A → (V → Prop) → KX → Prop} : MonoG (sgC C args flds m) := fun _ _ _ _ _ _ ⟨x, a, k, kx, h1, h2, h3, q, e⟩ w we => ⟨x, a, k, kx, h1, h2, h3, fun r hr => w _ _ (q r hr), fun c fs h hp => we _ _ _ (e c fs h hp)⟩
/-- a new one, that is changed no more -/
theorem new_c {S : Sg} {μ : Mem} {Q : QD} {ds : List D} [Rpd V] {m : A → (V → Prop) → KX → Prop} {k : V → Prop} {kx : KX} (c : Nat) (lf : V → List D) (a : A) (hd : ds = args a) (h : m a k kx) (q : ∀ v, k v → Q (rp v) μ) (qe : ∀ c fs, kx c fs → Plain fs → S.qx c fs μ)
    (hC : C = S.cls c := by rfl) (h1 : ∀ v, flds v = (S.nms c).zip (lf v) := by intro _; rfl) (h2 : ∀ v, (S.nms c).length = (lf v).length := by intro _; rfl) (h3 : ∀ v, rp v = .obj c (lf v) := by intro _; rfl) : NewG S C (sgC C args flds m) ds μ (FrzQ S.toSg0 Q) :=
  ⟨[], μ, Split.none μ, fun x _ => ⟨x, a, k, kx, by rw [hd], rfl, h, fun v hv => ⟨rfl, x, rfl, μ, .inr ⟨c, lf v, by rw [h1, hC]; exact .here, h2 v, by rw [← h3]; exact q v hv⟩⟩, fun c fs hk hp => qe c fs hk hp⟩⟩
end
section
variable {P : Program} {w : World} {K : PySem.W.Frag} {mg : Str → Option Value} {base : Heap} {S : Sg0} {k : Nat} {f : Addr} {fd : FuncData} {N ps : List Str} {x qual : Str} {params : Arguments} {body : List Stmt} {scope : Scope} {dvs : List V} {kws : List (Str × V)}
variable {A W : Type} {args : A → List D} {flds : W → List (Str × D)} {C : Addr}
abbrev EC (C : Addr) (x : Addr) (flds : W → List (Str × D)) (k : W → Prop) : EG := { nx := fun _ μ' => ∃ (r : W) (μ0 : Mem), μ' = (x, .ins C (flds r)) :: μ0 ∧ k r, rt := fun _ _ => False }
theorem one_sub {p : Addr × M} {μ0 : Mem} : List.Sublist [p] (p :: μ0) := List.Sublist.cons_cons _ (List.nil_sublist _)
theorem fundC {m : A → (W → Prop) → KX → Prop} (F : FunD K x qual params body scope dvs kws f fd) (sc : FnScope N ps scope) (len : ∀ a, (args a).length + 1 = ps.length)
    (hbody : ∀ (cdv : Value) (Ar : Around) (outer : List Env) (s : Shared) (H : Hp) (E : XK) (a : A) (z : Addr) (kk : W → Prop) (kx : KX), Room k (Ar.deeper (envOfC qual scope s.heap.objs.size f cdv)) →
      Takes (cxOf (L2.CX P w) P w K mg base N qual scope f cdv Ar outer s H E) (fun cls d _ H => E cls d H) → m a kk kx →
      BlG (cxOf (L2.CX P w) P w K mg base N qual scope f cdv Ar outer s H E) ⟨S, fun c fs _ => kx c fs ∧ Plain fs, E⟩ body (startG N (.ref z :: args a)) [(z, .ins C [])] (EC C z flds kk)) :
    FnOk P w K mg base (L2.CX P w) (k + 1) f fd ps (spG S (sgC C args flds m)) := by
  refine F.ok sc (fun vs H Q E h => ?_) (fun cdv A outer s H vs Q E hr h => ?_)
  · obtain ⟨_, _, ds, μ, _, rv, z, a, kk, kx, rfl, _⟩ := h
    rw [rv.length]
    exact len a
  · obtain ⟨F0, N0, ds, μ, r, rv, z, a, kk, kx, rfl, rfl, hm, q0, qe⟩ := h
    refine ⟨_, pss_ex, fun pins s' I => ?_⟩
    have tk : Takes (cxOf (L2.CX P w) P w K mg base N qual scope f cdv A outer s H E) (fun cls d _ H => E cls d H) := takes_of rfl rfl rfl rfl
    refine thn (hbody cdv A outer s H E a z kk kx hr tk hm F0 N0 (L2.start N vs) H ⟨r, fun cls d H' ⟨c, dd, fs, gs, μ', e1, e2, hd, hl, hf, r', n1, n2, q⟩ => by
      subst e1 e2
      exact qe c gs q.1 q.2 dd fs H' (r'.drop (List.nil_sublist _)) hd hl (hf.ext (sub_vis0 (List.nil_sublist _))) n1 (fun z => nomatch z)⟩ (start_rel rv) pins s' I) fun fl s2 q => ?_
    cases fl with
    | next =>
      obtain ⟨σ', H', I', Γ', μ', r', rs', y, m0, rfl, q⟩ := q
      exact ⟨σ', H', I', q0 y q .non H' (r'.toRelM0.drop one_sub) .non⟩
    | ret u =>
      obtain ⟨v, σ', H', I', rv', d', μ', r', rd, q⟩ := q
      exact q.elim
    | brk => obtain ⟨σ', H', I', Γ', μ', r', rs', q⟩ := q; exact q.elim
    | cont => obtain ⟨σ', H', I', Γ', μ', r', rs', q⟩ := q; exact q.elim
end
section
variable {X : Cx} {S : Sg0} {Γ : Gm} {μ : Mem} {Q : QD} {E : EG} {sts : List Stmt}
theorem xlen {P : Int → Prop} {n : Int} (hb : 0 ≤ n ∧ n < 2 ^ 63) (k : P n) : ∃ m : Int, D.int n = .int m ∧ (0 ≤ m ∧ m < 2 ^ 63) ∧ P m := ⟨n, rfl, hb, k⟩
theorem xrc {d : D} {C : Addr} {ns : List Str} {P : Prop} (h : Rcv S μ d C ns) (k : P) : ∃ ns, Rcv S μ d C ns ∧ P := ⟨ns, h, k⟩
theorem xex {P : D → Prop} {a dd : Addr} {c : Nat} {l : List D} {i : Nat} {n : Str} (y : D) (h1 : (S.nms c)[i]? = some n) (h2 : l[i]? = some y) (k : P y) : ∃ (l' : List D) (i : Nat) (y : D), D.cau a dd c l = .cau a dd c l' ∧ (S.nms c)[i]? = some n ∧ l'[i]? = some y ∧ P y := ⟨l, i, y, rfl, h1, h2, k⟩
theorem xandF {A : Prop} {B : Prop} (k : B) : ∃ c, D.bl false = .bl c ∧ (c = true → A) ∧ (c = false → B) := ⟨false, rfl, (fun h => nomatch h), fun _ => k⟩
theorem xandT {A : Prop} {B : Prop} (k : B) : ∃ c, D.bl true = .bl c ∧ (c = false → A) ∧ (c = true → B) := ⟨true, rfl, (fun h => nomatch h), fun _ => k⟩
theorem xcntT {A : Prop} {B : Prop} (k : A) : ∃ c, D.bl true = .bl c ∧ (c = true → A) ∧ (c = false → B) := ⟨true, rfl, fun _ => k, (fun h => by cases h)⟩
theorem xcntF {A : Prop} {B : Prop} (k : A) : ∃ c, D.bl false = .bl c ∧ (c = false → A) ∧ (c = true → B) := ⟨false, rfl, fun _ => k, (fun h => by cases h)⟩
theorem tstpF {A B : Prop} {c : Bool} (k : B) (hc : c = false := by rfl) : (c = true → A) ∧ (c = false → B) := ⟨(fun h => by rw [hc] at h; cases h), fun _ => k⟩
theorem tstpT {A B : Prop} {c : Bool} (k : B) (hc : c = true := by rfl) : (c = false → A) ∧ (c = true → B) := ⟨(fun h => by rw [hc] at h; cases h), fun _ => k⟩
theorem tcntT {A B : Prop} {c : Bool} (k : A) (hc : c = true := by rfl) : (c = true → A) ∧ (c = false → B) := ⟨fun _ => k, fun h => by rw [hc] at h; cases h⟩
theorem tcntF {A B : Prop} {c : Bool} (k : A) (hc : c = false := by rfl) : (c = false → A) ∧ (c = true → B) := ⟨fun _ => k, fun h => by rw [hc] at h; cases h⟩
theorem c_lenS {S : Sg} {α : Type} [Rpd α] (l : Sq α) (k : Q (.int (l.l.length : Int)) μ) (hK : X.K = S.K := by rfl) : CallG X S (.builtin "len") [rp l] μ Q := by
  obtain ⟨b, l⟩ := l
  cases b with
  | true => exact cg_len hK (.t _) (by rw [List.length_map]; exact k)
  | false => exact cg_len hK (.l (.val _)) (by rw [List.length_map]; exact k)
theorem pass_nx {Y : Cx} : Passes (L2.CX Y.prog Y.w) Y (fun _ _ _ => False) := fun _ _ _ _ _ _ _ ⟨_, _, _, _, _, _, _, _, _, _, _, _, z⟩ => z.elim
/-- a field of a frozen object -/
theorem xfo {P : D → Prop} {c i : Nat} {l : List D} {f : Str} {y : D} {C : Addr} (h1 : (S.nms c)[i]? = some f) (h2 : (S.nms c).Nodup) (h3 : l[i]? = some y) (k : P y) (hC : C = S.cls c := by rfl) : ∃ y, FldG S μ (.obj c l) C f y ∧ P y := ⟨y, by rw [hC]; exact .obj h1 h2 h3, k⟩
theorem xfm {P : D → Prop} {a C : Addr} {fs : List (Str × D)} {f : Str} (y : D) (h1 : (a, M.ins C fs) ∈ μ) (h2 : fs.lookup f = some y) (k : P y) : ∃ y, FldG S μ (.ref a) C f y ∧ P y := ⟨y, .ins h1 h2, k⟩
end
end GL
namespace GL
open PySem L2
/-! ### how loops and comprehensions are met, in plain Lean -/
section
variable {α β σ : Type} {xs : List α}
theorem at_lt {i : Nat} {x : α} (h : xs[i]? = some x) : i < xs.length := by
  rcases Nat.lt_or_ge i xs.length with h' | h'
  · exact h'
  · rw [List.getElem?_eq_none h'] at h; cases h
theorem forI_find {p : α → Bool} {A : α → Prop} {K : Unit → Prop} (h1 : ∀ x, xs.find? p = some x → A x) (h2 : xs.find? p = none → K ()) : forI xs () (fun x _ J => (p x = true → A x) ∧ (p x = false → J ())) K := by
  refine ⟨fun i _ => (xs.take i).find? p = none, rfl, ?_, ?_⟩
  · intro i x _ hx hn
    refine ⟨fun hp => ?_, fun hp => ?_⟩
    · have e : xs.find? p = some x := by
        rw [← List.take_append_drop (i + 1) xs, take_snoc hx, List.find?_append, List.find?_append, hn, Option.none_or, List.find?_cons_of_pos hp]
        rfl
      exact h1 x e
    · show (xs.take (i + 1)).find? p = none
      rw [take_snoc hx, List.find?_append, hn, Option.none_or, List.find?_cons_of_neg (by rw [hp]; decide)]
      rfl
  · intro _ hn
    rw [List.take_length] at hn
    exact h2 hn
theorem forI_fold {s0 : σ} {step : α → σ → (σ → Prop) → Prop} {K : σ → Prop} (f : σ → α → σ) (hs : ∀ i x, xs[i]? = some x → ∀ J : σ → Prop, J (f ((xs.take i).foldl f s0) x) → step x ((xs.take i).foldl f s0) J) (hk : K (xs.foldl f s0)) : forI xs s0 step K := by
  refine ⟨fun i s => s = (xs.take i).foldl f s0, rfl, ?_, ?_⟩
  · rintro i x s hx rfl
    refine hs i x hx _ ?_
    show _ = (xs.take (i + 1)).foldl f s0
    rw [take_snoc hx, List.foldl_append]
    rfl
  · rintro s rfl
    rw [List.take_length]
    exact hk
theorem forI_fn {s0 : σ} {step : α → σ → (σ → Prop) → Prop} {K : σ → Prop} (F : List α → σ) (h0 : F [] = s0) (hs : ∀ i x, xs[i]? = some x → ∀ J : σ → Prop, J (F (xs.take i ++ [x])) → step x (F (xs.take i)) J) (hk : K (F xs)) : forI xs s0 step K := by
  refine ⟨fun i s => s = F (xs.take i), h0.symm, ?_, ?_⟩
  · rintro i x s hx rfl
    refine hs i x hx _ ?_
    show _ = F (xs.take (i + 1))
    rw [take_snoc hx]
  · rintro s rfl
    rw [List.take_length]
    exact hk
theorem lcI_fm {step : α → (Option β → Prop) → Prop} {K : List β → Prop} (g : α → Option β) (hz : xs.length ≤ 16777216) (hs : ∀ x ∈ xs, ∀ J : Option β → Prop, J (g x) → step x J) (hk : K (xs.filterMap g)) : lcI xs step K := by
  refine ⟨fun i acc => acc = (xs.take i).filterMap g, rfl, ?_, ?_⟩
  · rintro i x acc hx rfl
    refine ⟨?_, hs x (List.mem_of_getElem? hx) _ ?_⟩
    · have h1 := List.length_filterMap_le g (xs.take i)
      have h2 := at_lt hx
      have h3 := List.length_take_le i xs
      omega
    · show _ = (xs.take (i + 1)).filterMap g
      rw [take_snoc hx, List.filterMap_append]
      cases h : g x <;> simp [h]
  · rintro acc rfl
    rw [List.take_length]
    exact hk
theorem lcI_map {step : α → (Option β → Prop) → Prop} {K : List β → Prop} (g : α → β) (hz : xs.length ≤ 16777216) (hs : ∀ x ∈ xs, ∀ J : Option β → Prop, J (some (g x)) → step x J) (hk : K (xs.map g)) : lcI xs step K :=
  lcI_fm (fun x => some (g x)) hz hs (by rw [List.filterMap_eq_map']; exact hk)
/-- a comprehension that draws, without a test -/
theorem lcI_rel {step : α → (Option β → Prop) → Prop} {K : List β → Prop} (R : α → β → Prop) (hz : xs.length ≤ 16777216) (hs : ∀ x ∈ xs, ∀ J : Option β → Prop, (∀ y, R x y → J (some y)) → step x J)
    (hk : ∀ ys : List β, ys.length = xs.length → (∀ (i : Nat) (x : α) (y : β), xs[i]? = some x → ys[i]? = some y → R x y) → K ys) : lcI xs step K := by
  refine ⟨fun i acc => acc.length = i ∧ ∀ (j : Nat) (x : α) (y : β), xs[j]? = some x → acc[j]? = some y → R x y, ⟨rfl, fun j x y _ h => by simp at h⟩, ?_, ?_⟩
  · rintro i x acc hx ⟨hl, hr⟩
    have := at_lt hx
    refine ⟨by omega, hs x (List.mem_of_getElem? hx) _ fun y hy => ⟨by simp [hl], fun j x' y' h1 h2 => ?_⟩⟩
    rcases Nat.lt_trichotomy j acc.length with h | h | h
    · rw [Option.toList_some, List.getElem?_append_left h] at h2
      exact hr j x' y' h1 h2
    · subst h
      rw [hl] at h1
      rw [hx] at h1
      cases h1
      rw [Option.toList_some, List.getElem?_append_right (Nat.le_refl _), Nat.sub_self] at h2
      simp at h2
      exact h2 ▸ hy
    · rw [Option.toList_some, List.getElem?_eq_none (by simp; omega)] at h2
      cases h2
  · rintro acc ⟨hl, hr⟩
    exact hk acc hl hr
/-- .. with a test: what holds of each -/
theorem lcI_all {step : α → (Option β → Prop) → Prop} {K : List β → Prop} (R : α → β → Prop) (hz : xs.length ≤ 16777216) (hs : ∀ x ∈ xs, ∀ J : Option β → Prop, J none → (∀ y, R x y → J (some y)) → step x J)
    (hk : ∀ ys : List β, ys.length ≤ xs.length → (∀ y ∈ ys, ∃ x ∈ xs, R x y) → K ys) : lcI xs step K := by
  refine ⟨fun i acc => acc.length ≤ i ∧ ∀ y ∈ acc, ∃ x ∈ xs, R x y, ⟨Nat.le_refl _, fun y h => by cases h⟩, ?_, ?_⟩
  · rintro i x acc hx ⟨hl, hr⟩
    have := at_lt hx
    refine ⟨by omega, hs x (List.mem_of_getElem? hx) _ ⟨by simp; omega, by simpa using hr⟩ fun y hy => ⟨by simp; omega, fun z hz => ?_⟩⟩
    rcases List.mem_append.mp hz with h | h
    · exact hr z h
    · rw [Option.toList_some, List.mem_singleton] at h
      exact ⟨x, List.mem_of_getElem? hx, h ▸ hy⟩
  · rintro acc ⟨hl, hr⟩
    exact hk acc hl hr
end
/-! ### each once -/
section
variable {α : Type} [DecidableEq α]
def onceL (l : List α) : List α := l.foldl (fun acc x => if inb x acc = true then acc else acc ++ [x]) []
theorem onceL_snoc (l : List α) (x : α) : onceL (l ++ [x]) = if inb x (onceL l) = true then onceL l else onceL l ++ [x] := by
  unfold onceL
  rw [List.foldl_append]
  rfl
theorem list_rev {P : List α → Prop} (h0 : P []) (hs : ∀ l x, P l → P (l ++ [x])) : ∀ l, P l := list_snoc h0 hs
theorem onceL_len : ∀ l : List α, (onceL l).length ≤ l.length := list_rev (Nat.le_refl _) fun l x h => by
  rw [onceL_snoc, List.length_append]
  split
  · exact Nat.le_trans h (Nat.le_add_right _ _)
  · rw [List.length_append]
    exact Nat.add_le_add_right h _
theorem mem_onceL {x : α} : ∀ l : List α, x ∈ onceL l ↔ x ∈ l := list_rev (by simp [onceL]) fun l y h => by
  rw [onceL_snoc]
  by_cases e : inb y (onceL l) = true
  · rw [if_pos e, List.mem_append, h]
    refine ⟨.inl, fun z => z.elim id fun z => ?_⟩
    rw [List.mem_singleton.mp z]
    exact h.mp (List.mem_singleton.mp z ▸ inb_t.mp e) |> fun w => by rw [← List.mem_singleton.mp z]; exact w
  · rw [if_neg e, List.mem_append, List.mem_append, h]
theorem onceL_nd : ∀ l : List α, (onceL l).Nodup := list_rev List.nodup_nil fun l y h => by
  rw [onceL_snoc]
  split
  · exact h
  · rename_i e
    rw [List.nodup_append]
    refine ⟨h, by simp, fun a ha b hb => ?_⟩
    rw [List.mem_singleton] at hb
    subst hb
    exact fun z => e (inb_t.mpr (z ▸ ha))
theorem onceL_same : ∀ l : List α, l.Nodup → onceL l = l := list_rev (fun _ => rfl) fun l y h hn => by
  rw [List.nodup_append] at hn
  rw [onceL_snoc, h hn.1, if_neg]
  intro z
  exact hn.2.2 y (inb_t.mp z) y (List.mem_singleton_self _) rfl
end
/-! ### places -/
theorem ixN_nat {n i : Nat} (h : i < n) : ixN n (i : Int) = some i := by
  unfold ixN
  rw [if_pos (by omega), if_pos (by omega)]
  simp
theorem atN {α : Type} {l : List α} {i : Nat} {x : α} (h : l[i]? = some x) : atI l (i : Int) = some x := by
  unfold atI
  rw [ixN_nat (at_lt h)]
  exact h
theorem atI_ge {α : Type} {l : List α} {r : Int} (h1 : 0 ≤ r) (h2 : r < l.length) : ∃ x, x ∈ l ∧ atI l r = some x := by
  obtain ⟨n, rfl⟩ := Int.eq_ofNat_of_zero_le h1
  have hn : n < l.length := by omega
  exact ⟨l[n], List.getElem_mem hn, atN (List.getElem?_eq_getElem hn)⟩
theorem atI_neg {α : Type} {l : List α} {k : Nat} (h : k < l.length) : atI l (-1 - (k : Int)) = some (l[l.length - 1 - k]'(by omega)) := by
  unfold atI ixN
  rw [if_neg (by omega), if_pos (by omega)]
  show l[_]? = _
  rw [show ((-1 - (k : Int)) + (l.length : Int)).toNat = l.length - 1 - k by omega, List.getElem?_eq_getElem (by omega)]
end GL
namespace GL
open PySem L2 PySem.Spec PyProof.Rows
/-! ### dicts with text keys: frozen ones, ones of the memory -/
inductive DrfK (μ : Mem) : D → List (Key × D) → Prop
  | val {ks : List Key} {ds : List D} : ks.length = ds.length → DrfK μ (.dK ks ds) (ks.zip ds)
  | ref {a : Addr} {kvs : List (Key × D)} : (a, M.dK kvs) ∈ μ → DrfK μ (.ref a) kvs
theorem RpA.zipK {S : Sg0} {Hv : Hp} : ∀ {ks : List Key} {vs : List V} {ds : List D}, RpA S Hv vs ds → RpK S Hv (ks.zip vs) (ks.zip ds)
  | [], _, _, _ => by simp; exact .nil
  | _ :: _, _, _, .nil => .nil
  | _ :: _, _, _, .cons r t => .cons r (RpA.zipK t)
theorem DrfK.at {S : Sg0} {F N H : Hp} {μ : Mem} {d : D} {kvs : List (Key × D)} {x : V} (h : DrfK μ d kvs) (r : RelM0 S F N H μ) (rx : Rp S (vis N H (adr μ)) x d) : ∃ a vs, x = .ref a ∧ Rd H a (.dK vs) ∧ RpK S (vis N H (adr μ)) vs kvs := by
  cases h with
  | val hl =>
    cases rx with
    | dK h1 h2 h3 => exact ⟨_, _, rfl, .inr ⟨_, vis_le _ _ h1⟩, h3.zipK⟩
  | ref hm =>
    cases rx
    obtain ⟨o, e, rm⟩ := r.find hm
    cases rm with
    | dK h => exact ⟨_, _, rfl, .inl e, h⟩
section
variable {X : Cx} {S : Sg} {o i e f : Expr} {Γ : Gm} {μ : Mem} {Q : QD} {T : Bool → Mem → Prop} {pos p1 p2 apos cpos : Pos} {d : D}
theorem RpK.isSome {S : Sg0} {Hv : Hp} {vs : List (Key × V)} {kvs : List (Key × D)} (h : RpK S Hv vs kvs) (k : Key) : (valV vs k).isSome = (valD kvs k).isSome := by
  rcases h.val k with ⟨v, d, h1, h2, _⟩ | ⟨h1, h2⟩ <;> rw [h1, h2] <;> rfl
/-- k in d -/
theorem ev_dinK (hu : X.A.units + 1 < cLine) (h : EvG X S i Γ μ fun y μ1 => EvG X S o Γ μ1 fun d μ2 => ∃ kvs k, DrfK μ2 d kvs ∧ y = kD k ∧ Q (.bl (valD kvs k).isSome) μ2) (hb : behindInMarks .In o = false := by rfl) : EvG X S (.Compare i [.In] [o] pos) Γ μ Q := by
  intro F N σ H r rs
  refine ex_of (pe_cmp (pc_din hu pe_ex pe_ex) hb) (h.use r rs fun v H1 y μ1 r1 rs1 ry q => ?_)
  refine q.use r1 rs1 fun x H2 d μ2 r2 rs2 rd ⟨kvs, k, hd, e1, qq⟩ => ?_
  obtain ⟨a, vs, e2, hr, hk⟩ := hd.at r2.toRelM0 rd
  subst e1 e2
  have e3 := kV_of ry
  subst e3
  exact ⟨a, valV vs k, rfl, .inl ⟨vs, k, hr, rfl, rfl⟩, _, μ2, r2.weakF (r.ext.trans r1.ext), .bl _, by rw [hk.isSome]; exact qq⟩
theorem et_dinK (hu : X.A.units + 1 < cLine) (h : EvG X S i Γ μ fun y μ1 => EvG X S o Γ μ1 fun d μ2 => ∃ kvs k, DrfK μ2 d kvs ∧ y = kD k ∧ T (valD kvs k).isSome μ2) (hb : behindInMarks .In o = false := by rfl) : EvT X S (.Compare i [.In] [o] pos) Γ μ T := by
  intro F N σ H r rs
  refine tx_of (pt_cmp (pc_din hu pe_ex pe_ex) hb) (h.use r rs fun v H1 y μ1 r1 rs1 ry q => ?_)
  refine q.use r1 rs1 fun x H2 d μ2 r2 rs2 rd ⟨kvs, k, hd, e1, qq⟩ => ?_
  obtain ⟨a, vs, e2, hr, hk⟩ := hd.at r2.toRelM0 rd
  subst e1 e2
  have e3 := kV_of ry
  subst e3
  exact ⟨a, valV vs k, rfl, .inl ⟨vs, k, hr, rfl, rfl⟩, _, rfl, μ2, r2.weakF (r.ext.trans r1.ext), by rw [hk.isSome]; exact qq⟩
theorem et_dniK (hu : X.A.units + 1 < cLine) (h : EvG X S i Γ μ fun y μ1 => EvG X S o Γ μ1 fun d μ2 => ∃ kvs k, DrfK μ2 d kvs ∧ y = kD k ∧ T (!(valD kvs k).isSome) μ2) (hb : behindInMarks .NotIn o = false := by rfl) : EvT X S (.Compare i [.NotIn] [o] pos) Γ μ T := by
  intro F N σ H r rs
  refine tx_of (pt_cmp (pc_dnotin hu pe_ex pe_ex) hb) (h.use r rs fun v H1 y μ1 r1 rs1 ry q => ?_)
  refine q.use r1 rs1 fun x H2 d μ2 r2 rs2 rd ⟨kvs, k, hd, e1, qq⟩ => ?_
  obtain ⟨a, vs, e2, hr, hk⟩ := hd.at r2.toRelM0 rd
  subst e1 e2
  have e3 := kV_of ry
  subst e3
  exact ⟨a, valV vs k, rfl, .inl ⟨vs, k, hr, rfl, rfl⟩, _, rfl, μ2, r2.weakF (r.ext.trans r1.ext), by rw [hk.isSome]; exact qq⟩
/-- d[k] -/
theorem ev_dgetK (hu : X.A.units + 1 < cLine) (h : EvG X S o Γ μ fun d μ1 => EvG X S i Γ μ1 fun y μ2 => ∃ kvs k z, DrfK μ2 d kvs ∧ y = kD k ∧ valD kvs k = some z ∧ Q z μ2) (hs : NoSl i := by exact fun _ _ => rfl) : EvG X S (.Subscript o i pos) Γ μ Q := by
  intro F N σ H r rs
  refine ex_of (pe_dget hu pe_ex pe_ex hs) (h.use r rs fun x H1 d μ1 r1 rs1 rd q => ?_)
  refine q.use r1 rs1 fun v H2 y μ2 r2 rs2 ry ⟨kvs, k, z, hd, e1, hz, q⟩ => ?_
  obtain ⟨a, vs, e2, hr, hk⟩ := hd.at r2.toRelM0 (rd.ext r2.ext)
  subst e1 e2
  have e3 := kV_of ry
  subst e3
  rcases hk.val k with ⟨v, d', h1, h2, h3⟩ | ⟨h1, h2⟩
  · rw [hz] at h2
    cases h2
    exact ⟨a, v, rfl, .inl ⟨vs, k, hr, rfl, h1.symm⟩, _, μ2, r2.weakF (r.ext.trans r1.ext), h3, q⟩
  · rw [hz] at h2
    cases h2
/-- d.get(k) -/
theorem ev_dget1K (hu : X.A.units + 1 < cLine) (h : EvG X S o Γ μ fun d μ1 => (∃ kvs, DrfK μ1 d kvs) ∧ EvG X S e Γ μ1 fun y μ2 => ∃ kvs k, DrfK μ2 d kvs ∧ y = kD k ∧ Q ((valD kvs k).getD .non) μ2) (m : M1 X o "get" apos e cpos := by exact ⟨rfl, rfl, rfl, rfl⟩) : EvG X S (.Call (.Attribute o "get" apos) [e] [] cpos) Γ μ Q := by
  intro F N σ H r rs
  refine ex_of (pe_dget1 hu pe_ex pe_ex m) (h.use r rs fun x H1 d μ1 r1 rs1 rd ⟨⟨kv0, hd0⟩, q⟩ => ?_)
  obtain ⟨a, vs0, e2, hr0, _⟩ := hd0.at r1.toRelM0 rd
  subst e2
  refine ⟨a, rfl, .inl ⟨vs0, hr0⟩, ?_⟩
  refine q.use r1 rs1 fun v H2 y μ2 r2 rs2 ry ⟨kvs, k, hd, e1, q⟩ => ?_
  obtain ⟨a', vs, e2, hr, hk⟩ := hd.at r2.toRelM0 (rd.ext r2.ext)
  cases e2
  subst e1
  have e3 := kV_of ry
  subst e3
  refine ⟨valV vs k, .inl ⟨vs, k, hr, rfl, rfl⟩, ?_⟩
  have rfin := r2.weakF (r.ext.trans r1.ext)
  rcases hk.val k with ⟨v, d', h1, h2, h3⟩ | ⟨h1, h2⟩
  · rw [h1]
    rw [h2] at q
    exact ⟨_, μ2, rfin, h3, q⟩
  · rw [h1]
    rw [h2] at q
    exact ⟨_, μ2, rfin, .non, q⟩
/-- d[k] = v, d of the memory -/
theorem st_dputK {E : EG} (hu : X.A.units + 1 < cLine) (h : EvG X S f Γ μ fun y μ1 => EvG X S o Γ μ1 fun d μ2 => EvG X S i Γ μ2 fun z μ3 => ∃ a kvs k μ4, d = .ref a ∧ z = kD k ∧ kvs.length < 16777216 ∧ Upd a (.dK kvs) (.dK (putKD kvs k y)) μ3 μ4 ∧ E.nx Γ μ4)
    (hs : swapsWith f (some (.Subscript o i p2)) pos.line X.env = pure false) : StG X S (.Assign [.Subscript o i p2] f pos) Γ μ E := by
  intro F N σ H r rs
  refine sx_of (ps_dput hu pe_ex pe_ex pe_ex hs) (h.use r rs fun v H1 y μ1 r1 rs1 ry q => ?_)
  refine q.use r1 rs1 fun x H2 d μ2 r2 rs2 rd q => ?_
  refine q.use r2 rs2 fun w H3 z μ3 r3 rs3 rz ⟨a, kvs, k, μ4, e1, e2, hl, u, qq⟩ => ?_
  subst e1
  cases rd
  subst e2
  have e3 := kV_of rz
  subst e3
  obtain ⟨ob, e3, rm⟩ := r3.find u.mem
  cases rm with
  | @dK _ vs hvs =>
  refine ⟨a, _, rfl, DPut.k e3 (by rw [hvs.length, sizeLine_eq]; exact hl), ?_⟩
  have r5 := r3.put u (o := .dK (putK vs k v)) (.dK (hvs.put (ry.ext (r2.ext.trans r3.ext))))
  refine ⟨Γ, μ4, r5.weakF (r.ext.trans (r1.ext.trans r2.ext)), ?_, qq⟩
  rw [u.adr, vis_upd (List.mem_map_of_mem u.mem)]
  exact rs3
end
/-! ### a dict of the memory changes no more -/
theorem zip_fst {κ α : Type} : ∀ l : List (κ × α), (l.map (·.1)).zip (l.map (·.2)) = l
  | [] => rfl
  | (a, b) :: l => by simp [zip_fst l]
theorem RpK.zips {κ : Type} {S : Sg0} {Hv : Hp} : ∀ {vs : List (κ × V)} {kvs : List (κ × D)}, RpK S Hv vs kvs → vs.map (·.1) = kvs.map (·.1) ∧ RpA S Hv (vs.map (·.2)) (kvs.map (·.2))
  | _, _, .nil => ⟨rfl, .nil⟩
  | _, _, .cons r t => by
    obtain ⟨h1, h2⟩ := t.zips
    exact ⟨by rw [List.map_cons, List.map_cons, h1], .cons r h2⟩
section
variable {X : Cx} {S : Sg} {Γ : Gm} {μ μ' : Mem} {E : EG} {sts : List Stmt}
/-- what is known of the state may be said anew -/
theorem bl_lockD {a : Addr} {kvs : List (Key × D)} (u : Del a (.dK kvs) μ μ')
    (h : ∀ F N σ H, RelM S F N H μ' → RelS S (vis N H (adr μ')) σ Γ → Rp S (vis N H (adr μ')) (.ref a) (.dK (kvs.map (·.1)) (kvs.map (·.2))) → BXt X sts (E.ends S F N) σ H) : BlG X S sts Γ μ E := by
  intro F N σ H r rs
  obtain ⟨o, e0, rm⟩ := r.find u.mem
  cases rm with
  | @dK _ vs hvs =>
  intro pins s I
  obtain ⟨od, I1⟩ := I.lock e0 True.intro
  obtain ⟨μf, uu⟩ := upd_ex (m' := M.fzK od vs kvs) u.mem
  have r1 := r.put uu (o := .frz od (.dK vs)) (.fzK hvs)
  have ev : vis N (upd H a (.frz od (.dK vs))) (adr μf) = vis N H (adr μ) := by rw [uu.adr, vis_upd (List.mem_map_of_mem u.mem)]
  have e1 : vis N (upd H a (.frz od (.dK vs))) (adr μ) = vis N H (adr μ) := vis_upd (List.mem_map_of_mem u.mem)
  -- the entry left out
  have dd : ∀ {μ μ' μf : Mem}, Del a (.dK kvs) μ μ' → Upd a (.dK kvs) (.fzK od vs kvs) μ μf → (adr μ).Nodup → Del a (.fzK od vs kvs) μf μ' := by
    intro μ μ' μf d
    induction d generalizing μf with
    | here =>
      intro u nd
      cases u with
      | here => exact .here
      | there u' => exact absurd (List.mem_map_of_mem u'.mem) (List.nodup_cons.mp nd).1
    | there d ih =>
      intro u nd
      cases u with
      | here => exact absurd (List.mem_map_of_mem d.mem) (List.nodup_cons.mp nd).1
      | there u' => exact .there (ih u' (List.nodup_cons.mp nd).2)
  have d1 := dd u uu r.nd
  have r2 := r1.del d1
  have hvd := vis_del r1.toRelM0 d1
  have hz := hvs.zips
  refine h F N σ _ r2 ((RelS.ext hvd (by rw [ev]; exact rs))) (.dK (o := od) (vs := vs.map (·.2)) ?_ (by rw [← hz.1]; simp) ((hz.2.ext (by rw [ev] at hvd; exact hvd)))) pins s I1
  rw [← hz.1, zip_fst]
  have ha : a ∈ adr μ := List.mem_map_of_mem u.mem
  refine vis_mk upd_same (r.dis a ha) fun z => ?_
  exact (((u.adrs r.nd).2 a).mp z).2 rfl
end
/-! ### typed: a dict from names -/
abbrev kN (x : Nm) : Key := .inr x.1
structure Dc (α : Type) where
  l : List (Nm × α)
instance {α : Type} [Rpd α] : Rpd (Dc α) := ⟨fun x => .dK (x.l.map (kN ·.1)) (x.l.map (rp ·.2))⟩
def look {α : Type} (l : List (Nm × α)) (k : Nm) : Option α := (l.find? fun p => decide (p.1 = k)).map (·.2)
def kvD {α : Type} [Rpd α] (l : List (Nm × α)) : List (Key × D) := l.map fun p => (kN p.1, rp p.2)
theorem kN_inj {x y : Nm} : kN x = kN y ↔ x = y := ⟨fun h => Subtype.ext (Sum.inr.inj h), fun h => by rw [h]⟩
section
variable {α : Type} [Rpd α]
theorem drfD {μ : Mem} (x : Dc α) : DrfK μ (rp x) (kvD x.l) := by
  have e : (x.l.map (kN ·.1)).zip (x.l.map (rp ·.2)) = kvD x.l := by
    unfold kvD
    rw [List.zip_map']
  exact e ▸ DrfK.val (by rw [List.length_map, List.length_map])
theorem val_look (l : List (Nm × α)) (k : Nm) : valD (kvD l) (kN k) = (look l k).map rp := by
  unfold valD kvD look
  rw [List.find?_map]
  have e : ((fun kv : Key × D => decide (kv.1 = kN k)) ∘ fun p : Nm × α => (kN p.1, rp p.2)) = fun p => decide (p.1 = k) := by
    funext p
    exact decide_eq_decide.mpr kN_inj
  rw [e]
  cases l.find? fun p => decide (p.1 = k) <;> rfl
variable {X : Cx} {S : Sg} {o i e f : Expr} {Γ : Gm} {μ : Mem} {Q : QD} {T : Bool → Mem → Prop} {pos p1 p2 apos cpos : Pos} {d : D}
theorem xdin {P : Bool → Prop} (x : Dc α) (k : Nm) (h : P (look x.l k).isSome) : ∃ kvs k', DrfK μ (rp x) kvs ∧ (rp k : D) = kD k' ∧ P (valD kvs k').isSome := ⟨kvD x.l, kN k, drfD x, rfl, by rw [val_look, Option.isSome_map]; exact h⟩
theorem xdget {P : D → Prop} (x : Dc α) (k : Nm) {v : α} (hv : look x.l k = some v) (h : P (rp v)) : ∃ kvs k' z, DrfK μ (rp x) kvs ∧ (rp k : D) = kD k' ∧ valD kvs k' = some z ∧ P z := ⟨kvD x.l, kN k, rp v, drfD x, rfl, by rw [val_look, hv]; rfl, h⟩
theorem xdget1 {P : D → Prop} (x : Dc α) (k : Nm) (h : P (rp (look x.l k))) : ∃ kvs k', DrfK μ (rp x) kvs ∧ (rp k : D) = kD k' ∧ P ((valD kvs k').getD .non) := ⟨kvD x.l, kN k, drfD x, rfl, by
  rw [val_look]
  cases hl : look x.l k with
  | none => rw [hl] at h; exact h
  | some v => rw [hl] at h; exact h⟩
end
/-! ### for k, v in d.items(), d frozen -/
section
variable {X : Cx} {S : Sg} {e : Expr} {Γ : Gm} {μ : Mem} {R : RI} {elts : List Expr} {kk : Nat} {tpos apos cpos : Pos} {α : Type} [Rpd α]
theorem itok_itemsK {Fv : Hp} {a : Addr} {ob : Obj} {vs : List (Key × V)} {kvs : List (Key × D)} (ha : Fv a = some (.frz ob (.dK vs))) (hk : RpK S Fv vs kvs) : ItOk S (Iti a ob vs) (fun _ => True) (kvs.map fun p => D.tup [kD p.1, p.2]) Fv := fun N i H2 μ2 r _ => by
  have e1 : H2 a = some (.frz ob (.dK vs)) := r.le a _ ha
  have hl := hk.length
  refine ⟨fun h => ⟨e1, by rw [List.length_map] at h; omega⟩, fun d hd => ?_⟩
  rw [List.getElem?_map] at hd
  obtain ⟨⟨k, y⟩, hk', rfl⟩ := Option.map_eq_some_iff.mp hd
  have hi : i < kvs.length := (List.getElem?_eq_some_iff.mp hk').1
  refine ⟨⟨e1, by omega⟩, fun x H' ⟨T, k', v, h1, h2, h4, h5⟩ => ?_⟩
  obtain ⟨v', g1, g2⟩ := hk.get hk'
  rw [g1] at h1
  cases h1
  subst h2 h5
  have r1 := r.top.alloc (o := .tup [kV k, v]) h4
  have hw := vis_new (o := .tup [kV k, v]) r.toRelM0 h4
  exact ⟨r1, .tup (SqT.of (alloc_at r.toRelM0 h4)) (.cons (kD_rp _) (.cons ((g2.ext r.ext).ext hw) .nil))⟩
theorem ig_itemsK (h : EvG X S e Γ μ fun d μ1 => ∃ ks ds, d = .dK ks ds ∧ R (fun _ => True) ((ks.zip ds).map fun p => D.tup [kD p.1, p.2]) μ1)
    (hbase : attributeBase e "items" X.env (eval e X.env) = eval e X.env := by rfl) (hline : (apos.endLine == cpos.line) = true := by rfl) : IterG X S (.Tuple elts kk tpos) (.Call (.Attribute e "items" apos) [] [] cpos) Γ μ R := by
  refine ⟨_, pi_items pe_ex hbase hline, fun F N σ H r rs Rr k => ?_⟩
  refine h.use r rs fun v H1 d μ1 r1 rs1 rd ⟨ks, ds, e1, q⟩ => ?_
  subst e1
  cases rd with
  | @dK a ob _ vs _ h1 h2 h3 => exact ⟨a, ob, _, rfl, vis_le _ _ h1, k _ H1 _ _ μ1 r1 rs1 (itok_itemsK h1 h3.zipK) q⟩
theorem xitems (x : Dc α) (h : R (fun _ => True) (x.l.map rp) μ) : ∃ ks ds, (rp x : D) = .dK ks ds ∧ R (fun _ => True) ((ks.zip ds).map fun p => D.tup [kD p.1, p.2]) μ := by
  refine ⟨_, _, rfl, ?_⟩
  rw [List.zip_map', List.map_map]
  exact h
end
end GL
namespace GL
open PySem L2 PySem.Spec PyProof.Rows ClX
section
variable {X : Cx} {S : Sg} {CX : CXT} {k : Nat} {f C : Addr} {fd : FuncData} {ps : List Str} {sg : SpG} {mc : Value} {m : Str} {pos apos p2 : Pos} {o e i value : Expr} {es : List Expr} {Γ : Gm} {μ : Mem} {Q : QD} {E : EG}
/-- C.m(e, ..), m a def of the class at C -/
theorem ev_cfn {pl : Sem Bool} (hm' : MonoG sg) (cr : CRead X.K C mc) (cv : CVal X.K C mc m (.ref f) (.ref f)) (F : FnOk X.prog X.w X.K X.mg X.base CX k f fd ps (spG S sg)) (hr : Room k X.A) (hk : PySem.W.keepIn X.K (.ref f) = true) (hb : Binds X.K fd ps []) (hx : Passes CX X S.wx)
    (h : EvG X S o Γ μ fun d μ1 => d = .ref C ∧ EvA X S (e :: es) Γ μ1 fun ds μ2 => AskG S sg ds μ2 Q)
    (hst : starEach (e :: es) X.env = (false, eval e X.env) :: starEach es X.env := by rfl) (hpl : (backTo pos (starEach es X.env)).any (·.1) = false := by rfl)
    (ht : eval (.Call (.Attribute o m apos) (e :: es) [] pos) X.env = (do
      let ov ← eval o X.env
      standAt apos.atName
      let (fv, first) ← holding [ov] (getMethod ov m pl)
      callWith pos fv first (backTo pos (starEach (e :: es) X.env)) (backToKw pos (keywordEach [] X.env))) := by rfl) :
    EvG X S (.Call (.Attribute o m apos) (e :: es) [] pos) Γ μ Q := by
  intro F' N σ H r rs
  intro pins s I
  refine PySem.W.methodCall_KW (pl := pl) (thn (EvG.use (P := fun v H1 => v = .ref C ∧ AXt X (e :: es) σ H1 fun vs H2 => spG S sg vs H2 (EndE S F' N Q) S.wx) h r rs (fun v H1 d μ1 r1 rs1 rd ⟨e1, q2⟩ => ?_) pins s I) fun u s1 ⟨x, H1, I1, rx, ex, q⟩ => ?_) ht
  · subst e1
    cases rd
    exact ⟨rfl, q2.use r1 rs1 fun vs H2 ds μ2 r2 rs2 rds q => ask_sp hm' (r2.weakF (r.ext.trans r1.ext)) rds q⟩
  · subst ex
    obtain rfl : u = Value.ref C := rx
    refine PySem.W.method_cls I1.kIn cr.ga (getcval_ok I1 cr cv fun s2 I2 => ?_)
    refine PySem.W.callWith_K (first := []) (h₀ := X.base) I.ok.mod.kin hk (thn (q pos pins s2 I2) fun us s3 ⟨vs, H2, I3, rv, q2⟩ => ⟨I3.kIn, ?_⟩) hst hpl
    exact run_fn F hr hb .nil hx I3 rv (by rw [List.append_nil]; exact q2)
/-- o[i] = value, o of a class with its own __setitem__ -/
theorem st_setOwn {ns : List Str} (M : MethG X S CX k C f "__setitem__" fd ps sg) (hq : PySem.W.noSeq X.K C = true) (hr : Room k X.A)
    (h : EvG X S value Γ μ fun y μ1 => EvG X S o Γ μ1 fun d μ2 => EvG X S i Γ μ2 fun z μ3 => Rcv S μ3 d C ns ∧ AskG S sg [d, z, y] μ3 fun _ μ4 => E.nx Γ μ4)
    (hs : swapsWith value (some (.Subscript o i p2)) pos.line X.env = pure false) : StG X S (.Assign [.Subscript o i p2] value pos) Γ μ E := by
  intro F' N σ H r rs pins s I
  refine wpAny_Assign_Subscript (thn (EvG.use (P := fun y H1 => EXt X o σ H1 fun d H2 => EXt X i σ H2 fun z H3 => ∃ a dx fvs, d = .ref a ∧ H3 a = some (.ins C dx fvs) ∧ spG S sg [d, z, y] H3 (fun _ H4 => EndS S F' N E.nx σ H4) S.wx) h r rs (fun y H1 dy μ1 r1 rs1 ry q => ?_) pins s I) ?_) hs
  · refine q.use r1 rs1 fun d H2 dd μ2 r2 rs2 rd q => ?_
    refine q.use r2 rs2 fun z H3 dz μ3 r3 rs3 rz ⟨hrc, q⟩ => ?_
    have rd' := rd.ext r3.ext
    obtain ⟨a, dx, fvs, e1, e2, _⟩ := hrc.at r3.toRelM0 rd'
    refine ⟨a, dx, fvs, e1, e2, ?_⟩
    have w3 : RelM S (vis N H (adr μ)) N H3 μ3 := r3.weakF (r1.ext.trans r2.ext)
    have := ask_sp M.mono w3 (.cons rd' (.cons rz (.cons ((ry.ext r2.ext).ext r3.ext) .nil))) q
    obtain ⟨F0, N0, ds, μ0, q1, q2, q3⟩ := this
    refine ⟨F0, N0, ds, μ0, q1, q2, M.mono _ _ _ _ _ _ q3 (fun d μ' hh v H' r' rv' => ?_) fun _ _ _ z => z⟩
    obtain ⟨d', μ4, r4, _, q4⟩ := hh v H' r' rv'
    exact ⟨Γ, μ4, r4.weakF r.ext, RelS.ext r4.ext rs, q4⟩
  · intro v s1 ⟨y, H1, I1, ry, q1⟩
    refine thn (q1 pins s1 I1) fun ov s2 ⟨d, H2, I2, rd, q2⟩ => ?_
    refine thn (q2 pins s2 I2) fun iv s3 ⟨z, H3, I3, rz, a, dx, fvs, e1, e2, q3⟩ => ?_
    subst e1
    cases rd
    obtain ⟨mA, O, _⟩ := ins_get I3.hok e2
    obtain ⟨od, J, _⟩ := O.look
    obtain ⟨m, hF⟩ := I3.fr
    refine PySem.W.ksp_setItem hF I3.ok.mod.kin J hq M.at_ M.fn ?_
    exact thn (run_at (vs := [.ref a, z, y]) M.ok hr rfl M.hb M.hx I3 (.cons rfl (.cons rz (.cons ry .nil))) q3) fun _ _ ⟨_, H', I', _, q⟩ => ⟨σ, H', I', q⟩
end
end GL
namespace GL
open PySem L2 PySem.Spec PyProof.Rows
/-! ### kinds of parts: what they are worth, how they stand in the memory -/
structure KindV where
  many : Bool
  order : List Nm
  leads : Dc (List Nm)
  rows : List Nm
  doors : Dc (Tu Nm × Tu Nm)
  name : Nm
abbrev kNum (m : Bool) : Nat := if m then 5 else 4
instance : Rpd KindV := ⟨fun x => .obj (kNum x.many) [rp x.order, rp x.leads, rp x.rows, rp x.doors, rp x.name]⟩
/-- where a kind's own objects stand -/
structure KAd where
  o : Addr
  d : Addr
  e : Addr
  ls : List Addr
def lsM : List Addr → List (List Nm) → Mem
  | a :: as, l :: ll => (a, .lst (l.map rp)) :: lsM as ll
  | _, _ => []
abbrev kvR (order : List Nm) (ls : List Addr) : List (Key × D) := (order.map kN).zip (ls.map D.ref)
def kindM (C x : Addr) (A : KAd) (κ : KindV) : Mem :=
  (x, .ins C [("order", .ref A.o), ("leads", .ref A.d), ("rows", rp κ.rows), ("doors", .ref A.e), ("name", rp κ.name)]) :: (A.o, .lst (κ.order.map rp)) :: (A.d, .dK (kvR κ.order A.ls)) :: (A.e, .dK (kvD κ.doors.l)) :: lsM A.ls (κ.leads.l.map (·.2))
/-- a kind as it is made -/
structure KOk (κ : KindV) : Prop where
  nd : κ.order.Nodup
  le : κ.leads.l.map (·.1) = κ.order
  ro : κ.rows = κ.order
  dk : κ.doors.l.map (·.1) = κ.order
  few : κ.order.length ≤ 1000000
theorem KOk.ll {κ : KindV} (h : KOk κ) : κ.leads.l.length = κ.order.length := by
  rw [← h.le, List.length_map]
theorem kvR_val : ∀ {order : List Nm} {ls : List Addr} (k : Nm), order.length = ls.length → (valD (kvR order ls) (kN k)).isSome = inb k order
  | [], [], k, _ => by simp [kvR, valD, inb]
  | [], _ :: _, _, h => by simp at h
  | _ :: _, [], _, h => by simp at h
  | x :: order, a :: ls, k, h => by
    have ih := kvR_val (order := order) (ls := ls) k (by simpa using h)
    unfold valD kvR at ih ⊢
    rw [List.map_cons, List.map_cons, List.zip_cons_cons]
    by_cases e : x = k
    · rw [List.find?_cons_of_pos (by simp [e])]
      exact (inb_t.mpr (e ▸ List.mem_cons_self)).symm
    · rw [List.find?_cons_of_neg (by simp only [decide_eq_true_eq]; exact fun z => e (kN_inj.mp z)), ih]
      unfold inb
      refine decide_eq_decide.mpr ⟨fun z => List.mem_cons_of_mem _ z, fun z => ?_⟩
      rcases List.mem_cons.mp z with z | z
      · exact absurd z.symm e
      · exact z
/-- the place of a key, its list -/
theorem kvR_at : ∀ {leads : List (Nm × List Nm)} {ls : List Addr} {k : Nm} {l : List Nm}, leads.length = ls.length → look leads k = some l →
    ∃ b, valD (kvR (leads.map (·.1)) ls) (kN k) = some (.ref b) ∧ (b, M.lst (l.map rp)) ∈ lsM ls (leads.map (·.2)) ∧
      ∀ l', Upd b (.lst (l.map rp)) (.lst (l'.map rp)) (lsM ls (leads.map (·.2))) (lsM ls ((leads.map fun p => if p.1 = k then (p.1, l') else p).map (·.2))) ∨ ¬ (leads.map (·.1)).Nodup
  | [], _, _, _, _, h => by simp [look] at h
  | _ :: _, [], _, _, h, _ => by simp at h
  | (x, y) :: leads, a :: ls, k, l, h, hl => by
    by_cases e : x = k
    · have : y = l := by
        unfold look at hl
        rw [List.find?_cons_of_pos (by simp [e])] at hl
        simpa using hl
      subst this e
      refine ⟨a, ?_, .head _, fun l' => ?_⟩
      · unfold valD
        rw [List.map_cons]
        show Option.map _ (List.find? _ ((kN x, D.ref a) :: _)) = _
        rw [List.find?_cons_of_pos (by simp)]
        rfl
      · by_cases hx : x ∈ leads.map (·.1)
        · exact .inr fun z => (List.nodup_cons.mp z).1 hx
        · refine .inl ?_
          have e1 : (leads.map fun p => if p.1 = x then (p.1, l') else p) = leads := by
            conv => rhs; rw [← List.map_id leads]
            refine List.map_congr_left fun p hp => ?_
            rw [if_neg fun (z : p.1 = x) => hx (by rw [← z]; exact List.mem_map_of_mem hp)]
            rfl
          rw [List.map_cons, List.map_cons, if_pos rfl, e1]
          exact .here
    · have hl' : look leads k = some l := by
        unfold look at hl ⊢
        rwa [List.find?_cons_of_neg (by simp [e])] at hl
      obtain ⟨b, h1, h2, h3⟩ := kvR_at (leads := leads) (ls := ls) (by simpa using h) hl'
      refine ⟨b, ?_, .tail _ h2, fun l' => ?_⟩
      · unfold valD at h1 ⊢
        rw [List.map_cons]
        show Option.map _ (List.find? _ ((kN x, D.ref a) :: _)) = _
        rw [List.find?_cons_of_neg (by simp only [decide_eq_true_eq]; exact fun z => e (kN_inj.mp z))]
        exact h1
      · rcases h3 l' with h3 | h3
        · refine .inl ?_
          rw [List.map_cons, List.map_cons, if_neg e]
          exact .there h3
        · exact .inr fun z => h3 (List.nodup_cons.mp z).2
theorem look_some {α : Type} {l : List (Nm × α)} {k : Nm} (h : k ∈ l.map (·.1)) : ∃ v, look l k = some v ∧ (k, v) ∈ l := by
  unfold look
  cases e : l.find? fun p => decide (p.1 = k) with
  | none =>
    obtain ⟨p, hp, rfl⟩ := List.mem_map.mp h
    exact absurd (decide_eq_true rfl) (List.find?_eq_none.mp e p hp)
  | some p =>
    have h1 := List.mem_of_find?_eq_some e
    have h2 : p.1 = k := by
      have := List.find?_some e
      simpa using this
    exact ⟨p.2, rfl, by rw [← h2]; exact h1⟩
/-- a step more -/
def allowF (κ : KindV) (b c : Nm) : KindV := { κ with leads := ⟨κ.leads.l.map fun p => if p.1 = b then (p.1, if c ∈ p.2 then p.2 else p.2 ++ [c]) else p⟩ }
theorem allow_ok {κ : KindV} (h : KOk κ) (b c : Nm) : KOk (allowF κ b c) := by
  refine ⟨h.nd, ?_, h.ro, h.dk, h.few⟩
  show (κ.leads.l.map _).map _ = κ.order
  rw [← h.le]
  rw [List.map_map]
  refine List.map_congr_left fun p _ => ?_
  show (if p.1 = b then _ else p).1 = p.1
  split <;> rfl
/-- the doors of a standing set anew -/
def setF' (κ : KindV) (k : Nm) (v : Tu Nm × Tu Nm) : KindV := { κ with doors := ⟨κ.doors.l.map fun p => if p.1 = k then (p.1, v) else p⟩ }
theorem set_ok {κ : KindV} (h : KOk κ) (k : Nm) (v : Tu Nm × Tu Nm) : KOk (setF' κ k v) := by
  refine ⟨h.nd, h.le, h.ro, ?_, h.few⟩
  show (κ.doors.l.map _).map _ = κ.order
  rw [← h.dk]
  rw [List.map_map]
  refine List.map_congr_left fun p _ => ?_
  show (if p.1 = k then _ else p).1 = p.1
  split <;> rfl
theorem put_kvD {α : Type} [Rpd α] {l : List (Nm × α)} {k : Nm} (v : α) (h : k ∈ l.map (·.1)) : putKD (kvD l) (kN k) (rp v) = kvD (l.map fun p => if p.1 = k then (p.1, v) else p) := by
  unfold putKD kvD
  have e : ((l.map fun p => (kN p.1, (rp p.2 : D))).any fun kv => decide (kv.1 = kN k)) = true := by
    obtain ⟨p, hp, rfl⟩ := List.mem_map.mp h
    rw [List.any_map]
    exact List.any_eq_true.mpr ⟨p, hp, by simp⟩
  rw [if_pos e, List.map_map, List.map_map]
  refine List.map_congr_left fun p _ => ?_
  show (if kN p.1 = kN k then (kN p.1, rp v) else (kN p.1, rp p.2)) = (kN (if p.1 = k then (p.1, v) else p).1, rp (if p.1 = k then (p.1, v) else p).2)
  by_cases e : p.1 = k
  · rw [if_pos (kN_inj.mpr e), if_pos e]
  · rw [if_neg (fun z => e (kN_inj.mp z)), if_neg e]
end GL
namespace GL
open PySem L2 PySem.Spec PyProof.Rows
theorem adr_app (a b : Mem) : adr (a ++ b) = adr a ++ adr b := List.map_append
theorem kvR_refs {S : Sg0} {Hv : Hp} : ∀ {ks : List Key} {ls : List Addr} {vd : List (Key × V)}, RpK S Hv vd (ks.zip (ls.map D.ref)) → ks.length = ls.length → vd = ks.zip (ls.map V.ref)
  | [], [], _, h, _ => by cases h; rfl
  | [], _ :: _, _, _, e => by simp at e
  | _ :: _, [], _, _, e => by simp at e
  | k :: ks, a :: ls, _, h, e => by
    rw [List.map_cons, List.zip_cons_cons] at h
    cases h with
    | cons r t =>
      cases r
      rw [kvR_refs t (by simpa using e)]
      rfl
theorem lsM_rp {S : Sg0} {W : Hp} : ∀ {ls : List Addr} {ll : List (List Nm)}, ls.length = ll.length → (∀ p ∈ lsM ls ll, ∃ o, W p.1 = some o ∧ RpM S W p.2 o) → RpA S W (ls.map V.ref) (ll.map rp)
  | [], [], _, _ => .nil
  | [], _ :: _, e, _ => by simp at e
  | _ :: _, [], e, _ => by simp at e
  | a :: ls, l :: ll, e, h => by
    refine .cons ?_ (lsM_rp (by simpa using e) fun p hp => h p (.tail _ hp))
    obtain ⟨o, h1, h2⟩ := h (a, .lst (l.map rp)) (.head _)
    cases h2 with
    | lst hs => exact .lst h1 hs
/-- a kind in the memory changes no more -/
theorem kind_frz {X : Cx} {S : Sg} {pins : List (Addr × Obj)} {σ : L2.St} {s : Shared} {F N H : Hp} {C x : Addr} {A : KAd} {κ : KindV} {μ0 : Mem} (I : Inv X pins σ H s) (r : RelM S F N H (kindM C x A κ ++ μ0)) (hc : C = S.cls (kNum κ.many)) (hn : S.nms (kNum κ.many) = (["order", "leads", "rows", "doors", "name"] : List Str)) (ok : KOk κ) (hls : A.ls.length = κ.order.length) :
    ∃ H', Inv X pins σ H' s ∧ RelM S F N H' μ0 ∧ Rp S.toSg0 (vis N H' (adr μ0)) (.ref x) (rp κ) ∧ Ex (vis N H (adr (kindM C x A κ ++ μ0))) (vis N H' (adr μ0)) := by
  have hm := r.mem
  have nd := r.nd
  rw [adr_app, List.nodup_append] at nd
  obtain ⟨nd1, nd2, nd3⟩ := nd
  have ix : (x, M.ins C [("order", D.ref A.o), ("leads", .ref A.d), ("rows", rp κ.rows), ("doors", .ref A.e), ("name", rp κ.name)]) ∈ kindM C x A κ := .head _
  have io : (A.o, M.lst (κ.order.map rp)) ∈ kindM C x A κ := .tail _ (.head _)
  have id : (A.d, M.dK (kvR κ.order A.ls)) ∈ kindM C x A κ := .tail _ (.tail _ (.head _))
  have ie : (A.e, M.dK (kvD κ.doors.l)) ∈ kindM C x A κ := .tail _ (.tail _ (.tail _ (.head _)))
  have il : ∀ p ∈ lsM A.ls (κ.leads.l.map (·.2)), p ∈ kindM C x A κ := fun p hp => .tail _ (.tail _ (.tail _ (.tail _ hp)))
  obtain ⟨bx, hx, rx⟩ := hm _ (List.mem_append_left _ ix)
  obtain ⟨bo, ho, ro⟩ := hm _ (List.mem_append_left _ io)
  obtain ⟨bd, hd, rd⟩ := hm _ (List.mem_append_left _ id)
  obtain ⟨be, he, re⟩ := hm _ (List.mem_append_left _ ie)
  cases rx with
  | @ins _ dx _ vs rx =>
  cases ro with
  | @lst _ xo ro =>
  cases rd with
  | @dK _ vd rd =>
  cases re with
  | @dK _ ve re =>
  have nin : ∀ p ∈ kindM C x A κ, p.1 ∉ adr μ0 := fun p hp z => nd3 _ (List.mem_map_of_mem hp) _ z rfl
  have hN : ∀ p ∈ kindM C x A κ, N p.1 = none := fun p hp => r.dis _ (List.mem_map_of_mem (List.mem_append_left _ hp))
  -- the addresses differ
  have nd1' : (x :: A.o :: A.d :: A.e :: adr (lsM A.ls (κ.leads.l.map (·.2)))).Nodup := nd1
  have n1 := List.nodup_cons.mp nd1'
  have n2 := List.nodup_cons.mp n1.2
  have n3 := List.nodup_cons.mp n2.2
  have n4 := List.nodup_cons.mp n3.2
  have de : A.d ≠ A.e := fun z => n3.1 (z ▸ List.mem_cons_self)
  have xd : x ≠ A.d := fun z => n1.1 (z ▸ List.mem_cons_of_mem _ List.mem_cons_self)
  have xe : x ≠ A.e := fun z => n1.1 (z ▸ List.mem_cons_of_mem _ (List.mem_cons_of_mem _ List.mem_cons_self))
  have od' : A.o ≠ A.d := fun z => n2.1 (z ▸ List.mem_cons_self)
  have oe' : A.o ≠ A.e := fun z => n2.1 (z ▸ List.mem_cons_of_mem _ List.mem_cons_self)
  obtain ⟨od, I1⟩ := I.lock hd True.intro
  obtain ⟨oe, I2⟩ := I1.lock (show upd H A.d (.frz od (.dK vd)) A.e = some (.dK ve) by rw [upd_ne de.symm]; exact he) True.intro
  refine ⟨_, I2, ?_⟩
  have hne : ∀ b, b ≠ A.d → b ≠ A.e → upd (upd H A.d (.frz od (.dK vd))) A.e (.frz oe (.dK ve)) b = H b := fun b h1 h2 => by rw [upd_ne h2, upd_ne h1]
  have dm : A.d ∈ adr (kindM C x A κ ++ μ0) := List.mem_map_of_mem (List.mem_append_left _ id)
  have em : A.e ∈ adr (kindM C x A κ ++ μ0) := List.mem_map_of_mem (List.mem_append_left _ ie)
  have ex : Ex (vis N H (adr (kindM C x A κ ++ μ0))) (vis N (upd (upd H A.d (.frz od (.dK vd))) A.e (.frz oe (.dK ve))) (adr μ0)) := fun b u hb => by
    obtain ⟨h1, h2, h3⟩ := vis_in hb
    refine vis_mk (by rw [hne b (fun z => h2 (z ▸ dm)) (fun z => h2 (z ▸ em))]; exact h3) h1 fun z => h2 ?_
    rw [adr_app]
    exact List.mem_append_right _ z
  have W : ∀ p ∈ kindM C x A κ, ∀ u, upd (upd H A.d (.frz od (.dK vd))) A.e (.frz oe (.dK ve)) p.1 = some u → vis N (upd (upd H A.d (.frz od (.dK vd))) A.e (.frz oe (.dK ve))) (adr μ0) p.1 = some u := fun p hp u hu => vis_mk hu (hN p hp) (nin p hp)
  refine ⟨⟨⟨fun b u hb => ?_, fun b hb => r.dis b (by rw [adr_app]; exact List.mem_append_right _ hb), r.ext.trans ex, nd2, fun p hp => ?_, r.tup⟩, r.iv⟩, ?_, ex⟩
  · have h1 := r.hid b u hb
    have hbd : b ≠ A.d := fun z => by
      have := hN _ id
      rw [← z, hb] at this
      cases this
    have hbe : b ≠ A.e := fun z => by
      have := hN _ ie
      rw [← z, hb] at this
      cases this
    rw [hne b hbd hbe]
    exact h1
  · obtain ⟨u, h1, h2⟩ := hm p (List.mem_append_right _ hp)
    have hpd : p.1 ≠ A.d := fun z => nin _ id (by show A.d ∈ _; rw [← z]; exact List.mem_map_of_mem hp)
    have hpe : p.1 ≠ A.e := fun z => nin _ ie (by show A.e ∈ _; rw [← z]; exact List.mem_map_of_mem hp)
    exact ⟨u, by rw [hne _ hpd hpe]; exact h1, h2.ext ex⟩
  · cases rx with
    | cons a1 rx =>
    cases rx with
    | cons a2 rx =>
    cases rx with
    | cons a3 rx =>
    cases rx with
    | cons a4 rx =>
    cases rx with
    | cons a5 rx =>
    cases rx
    cases a1
    cases a2
    cases a4
    have hk : κ.order.map kN = κ.leads.l.map (fun p => kN p.1) := by rw [← ok.le, List.map_map]; rfl
    have hvd : vd = (κ.order.map kN).zip (A.ls.map V.ref) := kvR_refs rd (by rw [List.length_map, hls])
    have hlen : A.ls.length = (κ.leads.l.map (·.2)).length := by rw [List.length_map, ok.ll, hls]
    have r1 : Rp S.toSg0 (vis N (upd (upd H A.d (.frz od (.dK vd))) A.e (.frz oe (.dK ve))) (adr μ0)) (.ref A.o) (rp κ.order) := .lst (W _ io _ (by rw [hne _ od' oe']; exact ho)) (ro.ext ex)
    have r2 : Rp S.toSg0 (vis N (upd (upd H A.d (.frz od (.dK vd))) A.e (.frz oe (.dK ve))) (adr μ0)) (.ref A.d) (rp κ.leads) := by
      refine .dK (o := od) (vs := A.ls.map V.ref) (W _ id _ ?_) (by simp [hls, ok.ll]) ?_
      · rw [upd_ne de, upd_same, hvd, hk]
      · have : RpA S.toSg0 (vis N (upd (upd H A.d (.frz od (.dK vd))) A.e (.frz oe (.dK ve))) (adr μ0)) (A.ls.map V.ref) ((κ.leads.l.map (·.2)).map rp) := by
          refine lsM_rp hlen fun p hp => ?_
          obtain ⟨u, h1, h2⟩ := hm p (List.mem_append_left _ (il p hp))
          have hpd : p.1 ≠ A.d := fun z => n3.1 (z ▸ List.mem_cons_of_mem _ (List.mem_map_of_mem hp))
          have hpe : p.1 ≠ A.e := fun z => n4.1 (z ▸ List.mem_map_of_mem hp)
          exact ⟨u, W p (il p hp) u (by rw [hne _ hpd hpe]; exact h1), h2.ext ex⟩
        rw [List.map_map] at this
        exact this
    have r4 : Rp S.toSg0 (vis N (upd (upd H A.d (.frz od (.dK vd))) A.e (.frz oe (.dK ve))) (adr μ0)) (.ref A.e) (rp κ.doors) := by
      have hz := re.zips
      have k1 : κ.doors.l.map (fun p => kN p.1) = (kvD κ.doors.l).map (·.1) := by unfold kvD; rw [List.map_map]; rfl
      have k2 : κ.doors.l.map (fun p => (rp p.2 : D)) = (kvD κ.doors.l).map (·.2) := by unfold kvD; rw [List.map_map]; rfl
      have e2 : rp κ.doors = D.dK ((kvD κ.doors.l).map (·.1)) ((kvD κ.doors.l).map (·.2)) := by rw [← k1, ← k2]; rfl
      rw [e2]
      refine .dK (o := oe) (vs := ve.map (·.2)) (W _ ie _ ?_) (by have := congrArg List.length hz.1; simpa using this) (hz.2.ext ex)
      rw [upd_same, ← hz.1, zip_fst]
    have hx' := W _ ix _ (by rw [hne _ xd xe]; exact hx)
    rw [hc] at hx'
    refine .obj (c := kNum κ.many) (dx := dx) (vs := [.ref A.o, .ref A.d, _, .ref A.e, _]) (by rw [hn]; exact hx') (by rw [hn]; rfl) ?_
    exact .cons r1 (.cons r2 (.cons (a3.ext ex) (.cons r4 (.cons (a5.ext ex) .nil))))
section
variable {X : Cx} {S : Sg} {e : Expr} {sts : List Stmt} {Γ : Gm} {μ : Mem} {Q : QD} {E : EG}
/-- a result that is a kind, changed no more -/
theorem ev_frzKind (h : EvG X S e Γ μ fun d μ1 => ∃ C x A κ μ0, d = .ref x ∧ μ1 = kindM C x A κ ++ μ0 ∧ C = S.cls (kNum κ.many) ∧ S.nms (kNum κ.many) = (["order", "leads", "rows", "doors", "name"] : List Str) ∧ KOk κ ∧ A.ls.length = κ.order.length ∧ Q (rp κ) μ0) : EvG X S e Γ μ Q := by
  intro F N σ H r rs pins s I
  refine thn (h F N σ H r rs pins s I) fun u s1 ⟨v, H1, I1, rv, d, μ1, r1, rd, C, x, A, κ, μ0, e1, e2, hc, hn, ok, hl, q⟩ => ?_
  subst e1 e2
  cases rd
  obtain ⟨H2, I2, r2, rk, ex⟩ := kind_frz I1 r1 hc hn ok hl
  exact ⟨.ref x, H2, I2, rv, rp κ, μ0, r2, rk, q⟩
theorem bl_frzKind {i : Nat} {C x : Addr} {A : KAd} {κ : KindV} {μ0 : Mem} (hi : Γ[i]? = some (some (.ref x))) (hμ : μ = kindM C x A κ ++ μ0) (hc : C = S.cls (kNum κ.many)) (hn : S.nms (kNum κ.many) = (["order", "leads", "rows", "doors", "name"] : List Str)) (ok : KOk κ) (hl : A.ls.length = κ.order.length) (h : BlG X S sts (Γ.set i (some (rp κ))) μ0 E) : BlG X S sts Γ μ E := by
  intro F N σ H r rs pins s I
  subst hμ
  obtain ⟨H2, I2, r2, rk, ex⟩ := kind_frz I r hc hn ok hl
  obtain ⟨v, hv, rv⟩ := rs.get hi
  cases rv
  exact h F N σ H2 r2 (RelS.frz hv rk (rs.ext ex)) pins s I2
end
end GL
namespace GL
open PySem L2 PySem.Spec PyProof.Rows
/-! ### {k: v for ..} -/
/-- what was hidden is of the memory -/
theorem RelM0.adopt {S : Sg0} {F N H : Hp} {μ : Mem} {p : Addr} {o : HO} {m : M} (r : RelM0 S F (upd N p o) H μ) (hN : N p = none) (hm : RpM S (vis (upd N p o) H (adr μ)) m o) : RelM0 S F N H ((p, m) :: μ) ∧ Ex (vis (upd N p o) H (adr μ)) (vis N H (adr ((p, m) :: μ))) := by
  have hpm : p ∉ adr μ := fun h => by
    have := r.dis p h
    rw [upd_same] at this
    cases this
  have ex : Ex (vis (upd N p o) H (adr μ)) (vis N H (adr ((p, m) :: μ))) := fun b u e => by
    obtain ⟨h1, h2, h3⟩ := vis_in e
    have hb : b ≠ p := fun z => by rw [z, upd_same] at h1; cases h1
    refine vis_mk h3 (by rwa [upd_ne hb] at h1) fun z => ?_
    rcases List.mem_cons.mp z with z | z
    · exact hb z
    · exact h2 z
  refine ⟨⟨fun b u h => r.hid b u (by rw [upd_ne (ne_of_none h hN)]; exact h), fun b hb => ?_, r.ext.trans ex, List.nodup_cons.mpr ⟨hpm, r.nd⟩, fun q hq => ?_, fun b xs h => r.tup b xs (by rw [upd_ne (ne_of_none h hN)]; exact h)⟩, ex⟩
  · rcases List.mem_cons.mp hb with z | z
    · exact z ▸ hN
    · have := r.dis b z
      rwa [upd_ne (fun (e : b = p) => hpm (e ▸ z))] at this
  · rcases List.mem_cons.mp hq with z | z
    · subst z
      exact ⟨o, r.hid p o upd_same, hm.ext ex⟩
    · obtain ⟨u, h1, h2⟩ := r.mem q z
      exact ⟨u, h1, h2.ext ex⟩
abbrev RDc (X : Cx) (S : Sg) (tg kx vx : Expr) (scope : Scope) (vs : List Nat) (Γ : Gm) (Q : List (Key × D) → Mem → Prop) : RI := fun Km ds μ1 => ∃ I : Nat → List (Key × D) → Mem → Prop, I 0 [] μ1 ∧ (∀ i kvs μ', I i kvs μ' → Km μ') ∧
    (∀ i d kvs μ', ds[i]? = some d → I i kvs μ' → ∀ k : Bk, TgG (k.cx X scope) S vs tg d (wipeG Γ vs) μ' fun Γ2 μ2 => ∀ k : Bk, EvG (k.cx X scope) S kx Γ2 μ2 fun y μ3 => ∀ k : Bk, EvG (k.cx X scope) S vx Γ2 μ3 fun z μ4 => ∃ key, y = kD key ∧ kvs.length < 16777216 ∧ I (i + 1) (putKD kvs key z) μ4) ∧
    (∀ kvs μ', I ds.length kvs μ' → Q kvs μ')
section
variable {X : Cx} {S : Sg} {tg iter kx vx : Expr} {scope : Scope} {own : List (Str × Nat)} {Γ : Gm} {μ : Mem} {pos : Pos}
theorem ev_dcM {Q : QD} {vs : List Nat} (hc : X.calm = true) (hN : X.N.Nodup) (ok : BlkOk X.N X.env.scope scope own) (hvs : own.map (·.2) = vs) (hi : IterG X S tg iter Γ μ (RDc X S tg kx vx scope vs Γ fun kvs μ' => ∀ D, D ∉ adr μ' → Q (.ref D) ((D, .dK kvs) :: μ')))
    (hs : ∀ x, foldedSetIterable iter X.env x = pure x := by intro _; rfl) : EvG X S (.DictComp kx vx [⟨tg, iter, [], 0⟩] scope pos) Γ μ Q := by
  intro F N σ H r rs
  obtain ⟨wi, hpi, hw⟩ := hi
  subst hvs
  refine ex_of (pe_dc hc hN hpi ok (g := lcT' X scope tg) (tt := lcT X scope []) (tk := lcE X scope kx) (tv := lcE X scope vx) (fun s H C cl fp => ⟨fun pins s' σ H' v u Q' I rv h => (h ⟨s, H, C, cl, fp⟩) pins s' u I rv⟩) (fun s H C cl fp => ⟨fun pins s' σ H' Q' I h => pts_ex.run pins s' σ H' Q' I (h ⟨s, H, C, cl, fp⟩)⟩) (fun s H C cl fp => ⟨fun pins s' σ H' Q' I h => (h ⟨s, H, C, cl, fp⟩) pins s' I⟩) (fun s H C cl fp => ⟨fun pins s' σ H' Q' I h => (h ⟨s, H, C, cl, fp⟩) pins s' I⟩) hs) ?_
  refine hw F N σ H r rs _ fun J H1 ds Km μ1 r1 rs1 ok q => ?_
  obtain ⟨I, i0, ik, it, ie⟩ := q
  intro p hp
  have hNp : N p = none := hid_new r1.toRelM0 hp
  have ww : wipe (wipe σ (own.map (·.2))) (own.map (·.2)) = wipe σ (own.map (·.2)) := List.ext_getElem? fun j => by
    rw [wipe_at]
    by_cases hj : j ∈ own.map (·.2)
    · rw [if_pos hj, wipe_at, if_pos hj]
      cases σ[j]? <;> rfl
    · rw [if_neg hj]
  refine ⟨fun i m H' => m = ds.length - i ∧ i ≤ ds.length ∧ ∃ xs kvs μ', RelM S (vis N H1 (adr μ1)) (upd N p (.dK xs)) H' μ' ∧ RpK S.toSg0 (vis (upd N p (.dK xs)) H' (adr μ')) xs kvs ∧ I i kvs μ', ⟨_, rfl, Nat.zero_le _, [], [], μ1, (r1.top.hide hp).1, .nil, i0⟩, ?_⟩
  rintro i m H' ⟨rfl, hi, xs, kvs, μ', r', ra, hI⟩
  by_cases hlt : i < ds.length
  · have hd : ds[i]? = some ds[i] := List.getElem?_eq_getElem hlt
    obtain ⟨hgo, hy⟩ := (ok _ i H' μ' r' (ik i kvs μ' hI)).2 ds[i] hd
    refine .inr ⟨hgo, fun H2 => ∃ xs kvs μ2, RelM S (vis N H1 (adr μ1)) (upd N p (.dK xs)) H2 μ2 ∧ RpK S.toSg0 (vis (upd N p (.dK xs)) H2 (adr μ2)) xs kvs ∧ I (i + 1) kvs μ2, fun H2 q => ⟨_, by omega, rfl, hlt, q⟩, fun x H2 hx => ?_⟩
    obtain ⟨r2, rx⟩ := hy x H2 hx
    intro kb
    have rw2 : RelS S (vis (upd N p (.dK xs)) H2 (adr μ')) (wipe σ (own.map (·.2))) (wipeG Γ (own.map (·.2))) := RelS.ext (r'.ext.trans r2.ext) (RelS.wipe rs1 _)
    refine GXt.mono (it i _ kvs μ' hd hI kb _ _ (wipe σ (own.map (·.2))) H2 x r2 rw2 rx) (fun σ3 H3 hq => ?_)
    obtain ⟨hws, Γ3, μ3, r3, rs3, hb⟩ := hq
    refine ⟨by rw [hws, ww], ?_⟩
    intro kt
    refine ⟨_, fun b H4 => b = true ∧ H4 = H3, pts_nil, ⟨rfl, rfl⟩, fun b H4 hb4 => ?_⟩
    obtain ⟨rfl, rfl⟩ := hb4
    rw [if_pos rfl]
    intro ke
    refine (hb ke).use r3 rs3 fun y H4 dy μ4 r4 rs4 ry q4 => ?_
    intro kv
    refine (q4 kv).use r4 rs4 fun z H5 dz μ5 r5 rs5 rz ⟨key, e1, hz, q5⟩ => ?_
    subst e1
    have ey := kV_of ry
    subst ey
    have rtop := r5.weakF ((r'.ext.trans r3.ext).trans r4.ext)
    have ra5 : RpK S.toSg0 (vis (upd N p (.dK xs)) H5 (adr μ5)) xs kvs := ra.ext (r3.ext.trans (r4.ext.trans r5.ext))
    refine ⟨xs, key, rfl, r5.hid p _ upd_same, by rw [ra5.length, sizeLine_eq]; exact hz, putK xs key z, putKD kvs key dz, μ5, ?_⟩
    obtain ⟨r6, ev⟩ := rtop.rehide r1.top.iv hNp (o' := .dK (putK xs key z))
    refine ⟨r6, ?_, q5⟩
    rw [ev]
    exact ra5.put rz
  · have e : i = ds.length := by omega
    subst e
    obtain ⟨u1, u2⟩ := r'.toRelM0.adopt (m := .dK kvs) hNp (.dK ra)
    refine .inl ⟨(ok _ _ H' μ' r' (ik _ kvs μ' hI)).1 (Nat.le_refl _), .ref p, (p, .dK kvs) :: μ', ⟨u1.weakF (r.ext.trans r1.ext), r.iv⟩, .ref p, ?_⟩
    refine ie kvs μ' hI p fun h => ?_
    have := r'.dis p h
    rw [upd_same] at this
    cases this
end
theorem swaps_at {e o : Expr} {f : Str} {p : Pos} {l : Nat} {env : Env} : swapsWith e (some (.Attribute o f p)) l env = pure false := by cases e <;> rfl
theorem swaps_su {e o i : Expr} {p : Pos} {l : Nat} {env : Env} : swapsWith e (some (.Subscript o i p)) l env = pure false := by cases e <;> rfl
end GL
namespace GL
open PySem L2 PySem.Spec PyProof.Rows
/-- an entry of the memory told anew -/
theorem RelM0.chg {S : Sg0} {F N H : Hp} {x : Addr} {m m' : M} {μ : Mem} (r : RelM0 S F N H ((x, m) :: μ)) (hm : ∀ o, H x = some o → RpM S (vis N H (adr ((x, m) :: μ))) m o → RpM S (vis N H (adr ((x, m) :: μ))) m' o) : RelM0 S F N H ((x, m') :: μ) :=
  ⟨r.hid, r.dis, r.ext, r.nd, fun q hq => by
    rcases List.mem_cons.mp hq with h | h
    · subst h
      obtain ⟨o, h1, h2⟩ := r.mem (x, m) (.head _)
      exact ⟨o, h1, hm o h1 h2⟩
    · exact r.mem q (.tail _ h), r.tup⟩
/-- a dict that a new object's only field holds changes no more -/
theorem bl_lockF {X : Cx} {S : Sg} {Γ : Gm} {E : EG} {sts : List Stmt} {x C d : Addr} {f : Str} {kvs : List (Key × D)} {μ0 : Mem} (h : BlG X S sts Γ ((x, .ins C [(f, .dK (kvs.map (·.1)) (kvs.map (·.2)))]) :: μ0) E) : BlG X S sts Γ ((x, .ins C [(f, .ref d)]) :: (d, .dK kvs) :: μ0) E := by
  refine bl_lockD (μ' := (x, .ins C [(f, .ref d)]) :: μ0) (.there .here) fun F N σ H r rs rd => ?_
  have r' : RelM S F N H ((x, .ins C [(f, .dK (kvs.map (·.1)) (kvs.map (·.2)))]) :: μ0) := ⟨r.toRelM0.chg fun o _ h => by
    cases h with
    | ins hf =>
    cases hf with
    | cons h1 h2 =>
    cases h2
    cases h1
    exact .ins (.cons rd .nil), r.iv⟩
  exact h F N σ H r' rs
theorem kvD_fst {α : Type} [Rpd α] (l : List (Nm × α)) : (rp (Dc.mk l) : D) = .dK ((kvD l).map (·.1)) ((kvD l).map (·.2)) := by
  unfold kvD
  rw [List.map_map, List.map_map]
  rfl
end GL
namespace GL
open PySem L2 PySem.Spec PyProof.Rows PySem.W
theorem mul_int_inst (a : Int) (t : Tok) (x C dx : Addr) :
    Meets (Builtin.«int.__mul__» ⟨[.int a t, .ref x], []⟩) (fun _ R s => s.heap.get? x = some (PySem.W.instObj C dx) ∧ R (.ok (.ret Value.notImplemented)) s) :=
  .of_wp fun prog w A R s h => by obtain ⟨hp, g, d, tk, os⟩ := s; obtain ⟨hl, h⟩ := h; wp_walk; exact ⟨_, rfl, h⟩
section raw
variable {prog : Program} {w : World} {A : Around} {E : Value → Shared → Prop} {s : Shared} {K : Frag} {x C L f dx : Addr} {h₀ : Heap} {m : Str → Option Value} {od : Option Obj}
/-- n * o, o of a class with its own __mul__ and __rmul__ -/
theorem rmulI_K {n : Int} {tk : Tok} {fm : Addr} {Q : Value → Shared → Prop} (Fm : Fr h₀ L s.heap m) (X₀ : K.In h₀) (I : InstAt s.heap x (instObj C dx) C od) (hc : selfFirst K C = true)
    (hm : findIn K (.ref C) "__mul__" = some (some (.ref fm))) (hs : findIn K (.ref C) "__rmul__" = some (some (.ref f))) (hf : isFn K (.ref f) = true) (hsub : subIn K (.ref C) (.type "int") = some false)
    (h : wpAny (model prog w) A (call (.ref f) [.ref x, .int n tk]) (PySem.W.CmpBack Q) E s) : wpAny (model prog w) A (binaryOp .Mult (.int n tk) (.ref x)) Q E s := by
  have X := X₀.keeps Fm.keep
  obtain ⟨cd, rest, hcd, hmr⟩ := ksp_first hc
  have hx : s.heap.get? x = some (instObj C dx) := I.at_
  have one := ksp_try X I hs hf h
  have zero : ∀ Q' : Option Value → Shared → Prop, Q' none s → wpAny (model prog w) A (tryMethod (.int n tk) "__mul__" (.ref x)) Q' E s := by
    intro Q' q
    unfold tryMethod
    refine wpAny_bind (wpAny_callSpecial?_slot (typeIs_int s n tk) F.slot_int_mul ?_)
    refine call_meets F.slot_int_mul (typeIs_int s n tk) F.entry_int_mul (F.args_int_mul_2 _ _) (mul_int_inst n tk x C dx) ⟨hx, ?_⟩
    exact wpAny_pure q
  obtain ⟨hh, g, d, tt, os⟩ := s
  have L1 : Looks (model prog w) hh (typeOf (.ref x)) (.ref C) := I.type
  have L2 : Looks (model prog w) hh (typeOf (.int n tk)) (.type "int") := Looks.of_pure rfl
  have L3 : Looks (model prog w) hh (fillsNumberSlot (.ref C) "mul") true := fills_K X hcd hmr hm
  have L4 : Looks (model prog w) hh (fillsNumberSlot (.type "int") "mul") true := Looks.of_pure F.fills_int_mul
  have L5 : Looks (model prog w) hh (isSubtype (.ref C) (.type "int")) false := looks_subIn X hsub
  have L7 : Looks (model prog w) hh (numberSlotInPython (.type "int") "mul") false := Looks.of_pure rfl
  have hne : (Value.type "int" == Value.ref C) = false := Bool.eq_false_iff.mpr fun q => by cases beq_iff_eq.mp q
  unfold binaryOp
  refine wpAny_holding (wpAny_bind ?_)
  show wpAny (model prog w) A (binaryOp1 "mul" (.int n tk) (.ref x)) _ _ _
  unfold binaryOp1
  refine wpAny_bind (L2.at (wpAny_bind (L1.at (wpAny_bind (L4.at ?_)))))
  simp only [hne, Bool.false_eq_true, if_false]
  ksp_lk
  refine zero _ ?_
  ksp_lk
  refine wpAny_mono one (fun r s' hr' => ?_) fun _ _ e => e
  obtain ⟨v, rfl, hq⟩ := hr'
  ksp_lk
  exact hq
end raw
end GL
namespace GL
open PySem L2 PySem.Spec PyProof.Rows PySem.W
theorem sub_int {K : Frag} {C : Addr} : subIn K (.type "int") (.ref C) = some false := by
  have e : fastBuiltinMro "int" = some [.type "int", .type "object"] := by kernel_rfl
  show Option.map _ (fastBuiltinMro "int") = _
  rw [e]
  show some _ = some false
  congr 1
def sumB {α β : Type} (bl br : Bool) : α ⊕ β → Bool | .inl _ => bl | .inr _ => br
section
variable {X : Cx} {S : Sg} {CX : CXT} {k : Nat} {f g C : Addr} {fd : FuncData} {ps : List Str} {sg : SpG} {Γ : Gm} {μ : Mem} {Q : QD} {d e : D}
theorem og_mulW {i j : Int} (c : CMulW i j) (k : Q (.int (i * j)) μ) : OpG X S (binaryOp .Mult) (.int i) (.int j) μ Q := fun F N H u v r ru rv => by cases ru; cases rv; exact op_of op_mulW ⟨i, j, rfl, rfl, c, _, μ, r, .int _, k⟩
theorem cmulW {i j : Int} (hi : i.natAbs < 2 ^ 300) (hj : j.natAbs < 2 ^ 300) : CMulW i j := by
  have h1 : i.natAbs.log2 < 300 := by
    by_cases e : i.natAbs = 0
    · rw [e]; decide
    · exact (Nat.log2_lt e).mpr hi
  have h2 : j.natAbs.log2 < 300 := by
    by_cases e : j.natAbs = 0
    · rw [e]; decide
    · exact (Nat.log2_lt e).mpr hj
  show _ < 1000000
  omega
/-- o * n, o of a class with its own __mul__ and __rmul__ -/
theorem og_mulOI {ns : List Str} {n : Int} (M : MethG X S CX k C f "__mul__" fd ps sg) (hr : Room k X.A) (hc : selfFirst X.K C = true) (hR : findIn X.K (.ref C) "__rmul__" = some (some (.ref g)))
    (h1 : Rcv S μ d C ns) (h : AskG S sg [d, .int n] μ Q) : OpG X S (binaryOp .Mult) d (.int n) μ Q := by
  intro F N H x y r rx ry pins s σ v u I rv ru
  obtain ⟨a, dx, fvs, rfl, ha, _⟩ := h1.at r.toRelM0 rx
  cases ry
  cases rv
  obtain ⟨tk, rfl⟩ := ru
  obtain ⟨mA, O, _⟩ := ins_get I.hok ha
  obtain ⟨od, J, _⟩ := O.look
  obtain ⟨m, hF⟩ := I.fr
  refine PySem.W.ksp_binT (T := "int") hF I.ok.mod.kin J rfl hc M.at_ M.fn hR (.inr ⟨_, rfl⟩) (fo := some (.builtin "int.__mul__")) (ro := some (.builtin "int.__rmul__")) (by kernel_rfl) (by kernel_rfl) sub_int ?_
  exact thn (run_at (vs := [.ref a, .int n]) M.ok hr rfl M.hb M.hx I (.cons rfl (.cons ⟨tk, rfl⟩ .nil)) (ask_sp M.mono r (.cons rx (.cons (.int _) .nil)) h)) fun _ _ q => back_of q
/-- n * o -/
theorem og_mulIO {ns : List Str} {n : Int} (M : MethG X S CX k C f "__rmul__" fd ps sg) (hr : Room k X.A) (hc : selfFirst X.K C = true) (hm : findIn X.K (.ref C) "__mul__" = some (some (.ref g)))
    (hsub : subIn X.K (.ref C) (.type "int") = some false)
    (h1 : Rcv S μ d C ns) (h : AskG S sg [d, .int n] μ Q) : OpG X S (binaryOp .Mult) (.int n) d μ Q := by
  intro F N H y x r ry rx pins s σ u v I ru rv
  obtain ⟨a, dx, fvs, rfl, ha, _⟩ := h1.at r.toRelM0 rx
  cases ry
  cases rv
  obtain ⟨tk, rfl⟩ := ru
  obtain ⟨mA, O, _⟩ := ins_get I.hok ha
  obtain ⟨od, J, _⟩ := O.look
  obtain ⟨m, hF⟩ := I.fr
  refine rmulI_K hF I.ok.mod.kin J hc hm M.at_ M.fn hsub ?_
  exact thn (run_at (vs := [.ref a, .int n]) M.ok hr rfl M.hb M.hx I (.cons rfl (.cons ⟨tk, rfl⟩ .nil)) (ask_sp M.mono r (.cons rx (.cons (.int _) .nil)) h)) fun _ _ q => back_of q
def sg_law : SpG := fun ds μ Q _ => ∃ ns : List Int, ds = [.scr ns] ∧ ns.length ≤ 63 ∧ μ = [] ∧ ∀ μ', Q (.bl true) μ'
theorem law_end {b : Bool} (h : b = true) (q : ∀ μ', Q (.bl true) μ') : Q (rp b) μ := by subst h; exact q _
end
section
variable {X : Cx} {S : Sg} {tg : Expr} {elt : Expr} {ifs : List Expr} {scope : Scope} {Γ : Gm} {μ : Mem}
theorem lcFMr {α β : Type} [Rpd β] {f : α → D} {xs : List α} {Km : Mem → Prop} {vs : List Nat} {Q : List D → Mem → Prop} (p : α → Bool) (g : α → β) (hz : xs.length ≤ 16777216) (km : Km μ)
    (hstep : ∀ x, x ∈ xs → ∀ k : Bk, LcStep X S tg elt ifs scope vs Γ k (f x) μ (fun _ μ3 => p x = false ∧ μ3 = μ) (fun y μ4 => y = rp (g x) ∧ p x = true ∧ μ4 = μ))
    (r : List β) (e : (xs.filter p).map g = r) (hend : Q (r.map rp) μ) : RLc X S tg elt ifs scope vs Γ Q Km (xs.map f) μ :=
  lcFM p g hz km hstep (by rw [e]; exact hend)
theorem isi_sum {α β : Type} [Rpd α] [Rpd β] {Q : QD} {f : Value} {e : D} (z : α ⊕ β) {bl br : Bool} (L : ∀ (a : α) (Q : QD), Q (.bl bl) μ → CallG X S f [rp a, e] μ Q) (R : ∀ (b : β) (Q : QD), Q (.bl br) μ → CallG X S f [rp b, e] μ Q)
    (k : Q (.bl (sumB bl br z)) μ) : CallG X S f [rp z, e] μ Q := by
  cases z with
  | inl a => exact L a Q k
  | inr b => exact R b Q k
end
end GL
namespace GL
open PySem L2 PySem.Spec PyProof.Rows
theorem RelM0.perm {S : Sg0} {F N H : Hp} {μ ν : Mem} (r : RelM0 S F N H μ) (h : ∀ q, q ∈ ν ↔ q ∈ μ) (nd : (adr ν).Nodup) : RelM0 S F N H ν ∧ vis N H (adr ν) = vis N H (adr μ) := by
  have ha : ∀ c, c ∈ adr ν ↔ c ∈ adr μ := fun c => by
    simp only [adr, List.mem_map]
    exact ⟨fun ⟨q, h1, h2⟩ => ⟨q, (h q).mp h1, h2⟩, fun ⟨q, h1, h2⟩ => ⟨q, (h q).mpr h1, h2⟩⟩
  have e : vis N H (adr ν) = vis N H (adr μ) := by
    funext c
    unfold vis
    by_cases k : (N c).isSome = true ∨ c ∈ adr μ
    · rw [if_pos k, if_pos (k.imp_right (ha c).mpr)]
    · rw [if_neg k, if_neg fun z => k (z.imp_right (ha c).mp)]
  exact ⟨⟨r.hid, fun c hc => r.dis c ((ha c).mp hc), by rw [e]; exact r.ext, nd, fun q hq => by rw [e]; exact r.mem q ((h q).mp hq), r.tup⟩, e⟩
/-- a part of the memory, in whatever order -/
def SubP (m μ : Mem) : Prop := ∃ m2, List.Perm m m2 ∧ List.Sublist m2 μ
theorem SubP.of {m μ : Mem} (h : List.Sublist m μ) : SubP m μ := ⟨m, .refl _, h⟩
theorem SubP.pm {m m2 μ : Mem} (p : List.Perm m m2) (h : List.Sublist m2 μ) : SubP m μ := ⟨m2, p, h⟩
theorem SubP.rel {S : Sg0} {F N H : Hp} {m μ : Mem} (h : SubP m μ) (r : RelM0 S F N H μ) : RelM0 S F N H m := by
  obtain ⟨m2, p, s⟩ := h
  exact ((r.drop s).perm (fun q => p.mem_iff) ((p.map _).nodup_iff.mpr (r.drop s).nd)).1
theorem SubP.ext {N H : Hp} {m μ : Mem} (h : SubP m μ) : Ex (vis N H (adr μ)) (vis N H (adr m)) := by
  obtain ⟨m2, p, s⟩ := h
  rw [← vis_perm p]
  exact sub_vis0 s
theorem SubP.adr {m μ : Mem} (h : SubP m μ) {a : Addr} (k : a ∈ GL.adr m) : a ∈ GL.adr μ := by
  obtain ⟨m2, p, s⟩ := h
  exact (s.map _).subset ((p.map _).subset k)
/-! ### promises over the memory: Z the addresses, A the values, ρ the worth, Y what an exception leaves -/
section
variable {A Z ρ Y : Type}
def sgU (args : A → Z → List D) (mem : A → Z → Mem → Prop) (post : A → Z → ρ → D → Mem → Prop) (posx : A → Z → Y → Mem → Prop) (m : A → (ρ → Prop) → (Y → KX) → Prop) : SpG := fun ds μ Q E =>
  ∃ a z k kx, ds = args a z ∧ mem a z μ ∧ m a k kx ∧ (∀ r d μ', k r → post a z r d μ' → Q d μ') ∧ (∀ c fs y μ', kx y c fs → Plain fs → posx a z y μ' → E c fs μ')
theorem sgU_mono {args : A → Z → List D} {mem : A → Z → Mem → Prop} {post : A → Z → ρ → D → Mem → Prop} {posx : A → Z → Y → Mem → Prop} {m : A → (ρ → Prop) → (Y → KX) → Prop} : MonoG (sgU args mem post posx m) :=
  fun _ _ _ _ _ _ ⟨a, z, k, kx, h1, h2, h3, q, e⟩ w we => ⟨a, z, k, kx, h1, h2, h3, fun r d μ' h h' => w _ _ (q r d μ' h h'), fun c fs y μ' h hp h' => we _ _ _ (e c fs y μ' h hp h')⟩
variable {P : Program} {w : World} {K : PySem.W.Frag} {mg : Str → Option Value} {base : Heap} {S : Sg0} {k : Nat} {f : Addr} {fd : FuncData} {N ps : List Str} {x qual : Str} {params : Arguments} {body : List Stmt} {scope : Scope} {dvs : List V} {kws : List (Str × V)}
abbrev EU (post : ρ → D → Mem → Prop) (k : ρ → Prop) : EG := { nx := fun _ μ' => ∃ r m1, List.Sublist m1 μ' ∧ k r ∧ post r .non m1, rt := fun d μ' => ∃ r m1, List.Sublist m1 μ' ∧ k r ∧ post r d m1 }
theorem fundU {args : A → Z → List D} {mem : A → Z → Mem → Prop} {post : A → Z → ρ → D → Mem → Prop} {posx : A → Z → Y → Mem → Prop} {m : A → (ρ → Prop) → (Y → KX) → Prop}
    (F : FunD K x qual params body scope dvs kws f fd) (sc : FnScope N ps scope) (len : ∀ a z, (args a z).length = ps.length)
    (hbody : ∀ (cdv : Value) (Ar : Around) (outer : List Env) (s : Shared) (H : Hp) (E : XK) (a : A) (z : Z) (μ : Mem) (kk : ρ → Prop) (kx : Y → KX), Room k (Ar.deeper (envOfC qual scope s.heap.objs.size f cdv)) →
      Takes (cxOf (L2.CX P w) P w K mg base N qual scope f cdv Ar outer s H E) (fun cls d _ H => E cls d H) → mem a z μ → m a kk kx →
      BlG (cxOf (L2.CX P w) P w K mg base N qual scope f cdv Ar outer s H E) ⟨S, fun c fs μ' => ∃ y m1, SubP m1 μ' ∧ kx y c fs ∧ Plain fs ∧ posx a z y m1, E⟩ body (startG N (args a z)) μ (EU (post a z) kk)) :
    FnOk P w K mg base (L2.CX P w) (k + 1) f fd ps (spG S (sgU args mem post posx m)) := by
  refine F.ok sc (fun vs H Q E h => ?_) (fun cdv A outer s H vs Q E hr h => ?_)
  · obtain ⟨_, _, ds, μ, _, rv, a, z, kk, kx, rfl, _⟩ := h
    rw [rv.length]
    exact len a z
  · obtain ⟨F0, N0, ds, μ, r, rv, a, z, kk, kx, rfl, hμ, hm, q0, qe⟩ := h
    refine ⟨_, pss_ex, fun pins s' I => ?_⟩
    have tk : Takes (cxOf (L2.CX P w) P w K mg base N qual scope f cdv A outer s H E) (fun cls d _ H => E cls d H) := takes_of rfl rfl rfl rfl
    refine thn (hbody cdv A outer s H E a z μ kk kx hr tk hμ hm F0 N0 (L2.start N vs) H ⟨r, fun cls d H' ⟨c, dd, fs, gs, μ', e1, e2, hd, hl, hf, r', n1, n2, y, m1, sb, hk, hpl, hp⟩ => by
      subst e1 e2
      exact qe c gs y m1 hk hpl hp dd fs H' (sb.rel r') hd hl (hf.ext sb.ext) n1 (fun z => n2 (sb.adr z))⟩ (start_rel rv) pins s' I) fun fl s2 q => ?_
    cases fl with
    | next =>
      obtain ⟨σ', H', I', Γ', μ', r', rs', y, m1, sb, q, hp⟩ := q
      exact ⟨σ', H', I', q0 y _ m1 q hp .non H' (r'.toRelM0.drop sb) .non⟩
    | ret u =>
      obtain ⟨v, σ', H', I', rv', d', μ', r', rd, y, m1, sb, q, hp⟩ := q
      exact ⟨v, σ', H', I', rv', q0 y _ m1 q hp v H' (r'.toRelM0.drop sb) (rd.ext (sub_vis0 sb))⟩
    | brk => obtain ⟨σ', H', I', Γ', μ', r', rs', q⟩ := q; exact q.elim
    | cont => obtain ⟨σ', H', I', Γ', μ', r', rs', q⟩ := q; exact q.elim
/-- asked, the memory in two parts -/
theorem ask_u {S : Sg} {μ a1 b1 : Mem} {Q : QD} {ds : List D} {args : A → Z → List D} {mem : A → Z → Mem → Prop} {post : A → Z → ρ → D → Mem → Prop} {posx : A → Z → Y → Mem → Prop} {m : A → (ρ → Prop) → (Y → KX) → Prop} {k : ρ → Prop} {kx : Y → KX} (a : A) (z : Z)
    (sp : Split μ a1 b1) (hd : ds = args a z) (hm : mem a z a1) (h : m a k kx) (q : ∀ r d μ', k r → post a z r d μ' → Q d (μ' ++ b1)) (qe : ∀ c fs y μ', kx y c fs → Plain fs → posx a z y μ' → S.qx c fs (μ' ++ b1)) : AskG S (sgU args mem post posx m) ds μ Q :=
  ⟨a1, b1, sp, a, z, k, kx, hd, hm, h, q, qe⟩
end
end GL
namespace GL
open PySem L2 PySem.Spec PyProof.Rows
/-! ### an object of the memory lent out: seen as a value while an expression evaluates -/
/-- what may be lent -/
structure Lent (S : Sg0) (b : Bool) (cs : List Nat) (o : HO) : Prop where
  l : ∀ xs, o = .lst xs → b = false
  i : ∀ C dx vs, o = .ins C dx vs → ∀ c ∈ cs, S.cls c ≠ C
  nt : ∀ xs, o ≠ .tup xs
  nf : ∀ u v, o ≠ .frz u v
  ne : ∀ f, o ≠ .ext f
  nx : ∀ x, o ≠ .xd x
section
variable {S : Sg0} {H H' : Hp} {b : Bool} {cs : List Nat}
theorem rd_cut {a : Addr} {u : HO} (hz : ∀ a o, H a = some o → H' a = some o ∨ Lent S b cs o) (h : Rd H a u) (hu : ¬ Lent S b cs u) : Rd H' a u := by
  rcases h with h | ⟨o, h⟩
  · exact (hz _ _ h).elim .inl fun z => absurd z hu
  · exact (hz _ _ h).elim (fun z => .inr ⟨o, z⟩) fun z => absurd rfl (z.nf _ _)
mutual
theorem Rp.lose (hz : ∀ a o, H a = some o → H' a = some o ∨ Lent S b cs o) : ∀ {v : V} {d : D}, Rp S H v d → D.only b cs d = true → Rp S H' v d
  | _, _, .non, _ => .non
  | _, _, .bl b, _ => .bl b
  | _, _, .int i, _ => .int i
  | _, _, .str x, _ => .str x
  | _, _, .lst h hs, e => by
    simp only [D.only, Bool.and_eq_true] at e
    refine .lst ((hz _ _ h).resolve_right fun z => ?_) (RpA.lose hz hs e.2)
    have := z.l _ rfl
    rw [e.1] at this
    cases this
  | _, _, .tup h hs, e => by
    simp only [D.only] at e
    refine .tup ?_ (RpA.lose hz hs e)
    rcases h with h | h
    · exact .inl (rd_cut hz h fun z => z.nt _ rfl)
    · exact .inr h
  | _, _, .obj h hl hs, e => by
    simp only [D.only, Bool.and_eq_true] at e
    exact .obj ((hz _ _ h).resolve_right fun z => z.i _ _ _ rfl _ (by simpa using e.1) rfl) hl (RpA.lose hz hs e.2)
  | _, _, .ref a, _ => .ref a
  | _, _, .ty n, _ => .ty n
  | _, _, .scr h, e => by
    simp only [D.only] at e
    refine .scr ?_
    rcases h with h | h
    · exact .inl (rd_cut hz h fun z => by
        have := z.l _ rfl
        rw [e] at this
        cases this)
    · exact .inr h
  | _, _, .dK h hl hs, e => by
    simp only [D.only] at e
    exact .dK ((hz _ _ h).resolve_right fun z => z.nf _ _ rfl) hl (RpA.lose hz hs e)
  | _, _, .dT h hl hs, e => by
    simp only [D.only] at e
    exact .dT ((hz _ _ h).resolve_right fun z => z.nf _ _ rfl) hl (RpA.lose hz hs e)
  | _, _, .exc h h2 hl hs, e => by
    simp only [D.only] at e
    exact .exc ((hz _ _ h).resolve_right fun z => z.ne _ rfl) ((hz _ _ h2).resolve_right fun z => z.ne _ rfl) hl (RpA.lose hz hs e)
  | _, _, .cau h hl hs, e => by
    simp only [D.only] at e
    exact .cau ((hz _ _ h).resolve_right fun z => z.nx _ rfl) hl (RpA.lose hz hs e)
theorem RpA.lose (hz : ∀ a o, H a = some o → H' a = some o ∨ Lent S b cs o) : ∀ {vs : List V} {ds : List D}, RpA S H vs ds → D.onlyA b cs ds = true → RpA S H' vs ds
  | _, _, .nil, _ => .nil
  | _, _, .cons h t, e => by
    simp only [D.onlyA, Bool.and_eq_true] at e
    exact .cons (Rp.lose hz h e.1) (RpA.lose hz t e.2)
end
/-- a cell of the memory, likewise -/
def M.only (b : Bool) (cs : List Nat) : M → Bool
  | .lst ds => D.onlyA b cs ds
  | .ins _ fs => D.onlyA b cs (fs.map (·.2))
  | .dK kvs => D.onlyA b cs (kvs.map (·.2))
  | .dT kvs => D.onlyA b cs (kvs.map (·.2))
  | .fzK _ _ kvs => D.onlyA b cs (kvs.map (·.2))
  | .fzT _ _ kvs => D.onlyA b cs (kvs.map (·.2))
theorem RpF.lose (hz : ∀ a o, H a = some o → H' a = some o ∨ Lent S b cs o) : ∀ {vs : List (Str × V)} {ds : List (Str × D)}, RpF S H vs ds → D.onlyA b cs (ds.map (·.2)) = true → RpF S H' vs ds
  | _, _, .nil, _ => .nil
  | _, _, .cons h t, e => by
    simp only [List.map_cons, D.onlyA, Bool.and_eq_true] at e
    exact .cons (Rp.lose hz h e.1) (RpF.lose hz t e.2)
theorem RpK.lose {κ : Type} (hz : ∀ a o, H a = some o → H' a = some o ∨ Lent S b cs o) : ∀ {vs : List (κ × V)} {ds : List (κ × D)}, RpK S H vs ds → D.onlyA b cs (ds.map (·.2)) = true → RpK S H' vs ds
  | _, _, .nil, _ => .nil
  | _, _, .cons h t, e => by
    simp only [List.map_cons, D.onlyA, Bool.and_eq_true] at e
    exact .cons (Rp.lose hz h e.1) (RpK.lose hz t e.2)
theorem RpM.lose {m : M} {o : HO} (hz : ∀ a o, H a = some o → H' a = some o ∨ Lent S b cs o) (h : RpM S H m o) (e : M.only b cs m = true) : RpM S H' m o := by
  cases h with
  | lst h => exact .lst (h.lose hz e)
  | ins h => exact .ins (h.lose hz e)
  | dK h => exact .dK (h.lose hz e)
  | dT h => exact .dT (h.lose hz e)
  | fzK h => exact .fzK (h.lose hz e)
  | fzT h => exact .fzT (h.lose hz e)
end
/-- a cell lent, as it is seen -/
inductive LendM (S : Sg0) (b : Bool) (cs : List Nat) : M → D → Prop
  | lst {ds : List D} : b = false → LendM S b cs (.lst ds) (.lst ds)
  | ins {c : Nat} {l : List D} : (S.nms c).length = l.length → (∀ c' ∈ cs, S.cls c' ≠ S.cls c) → LendM S b cs (.ins (S.cls c) ((S.nms c).zip l)) (.obj c l)
/-- cells lent -/
inductive Lend (S : Sg0) (b : Bool) (cs : List Nat) : Mem → List (Addr × D) → Prop
  | nil : Lend S b cs [] []
  | cons {z : Addr} {m : M} {d : D} {μ : Mem} {l : List (Addr × D)} : LendM S b cs m d → Lend S b cs μ l → Lend S b cs ((z, m) :: μ) ((z, d) :: l)
/-- the slots, lent cells seen as values -/
inductive Bor (l : List (Addr × D)) : Gm → Gm → Prop
  | nil : Bor l [] []
  | same {g : Option D} {Γ Γ' : Gm} : Bor l Γ Γ' → Bor l (g :: Γ) (g :: Γ')
  | bor {z : Addr} {o : D} {Γ Γ' : Gm} : (z, o) ∈ l → Bor l Γ Γ' → Bor l (some (.ref z) :: Γ) (some o :: Γ')
theorem Lend.adr {S : Sg0} {b : Bool} {cs : List Nat} : ∀ {μ : Mem} {l : List (Addr × D)}, Lend S b cs μ l → ∀ z o, (z, o) ∈ l → ∃ m, (z, m) ∈ μ ∧ LendM S b cs m o
  | _, _, .nil, _, _, h => by cases h
  | _, _, .cons h t, z, o, hm => by
    rcases List.mem_cons.mp hm with e | hm
    · cases e
      exact ⟨_, .head _, h⟩
    · obtain ⟨m, h1, h2⟩ := t.adr z o hm
      exact ⟨m, .tail _ h1, h2⟩
theorem Lend.m {S : Sg0} {b : Bool} {cs : List Nat} : ∀ {μ : Mem} {l : List (Addr × D)}, Lend S b cs μ l → ∀ q ∈ μ, ∃ o, LendM S b cs q.2 o
  | _, _, .nil, _, h => by cases h
  | _, _, .cons h t, q, hm => by
    rcases List.mem_cons.mp hm with rfl | hm
    · exact ⟨_, h⟩
    · exact t.m q hm
theorem LendM.lent {S : Sg0} {H : Hp} {b : Bool} {cs : List Nat} {m : M} {d : D} {o : HO} (h : LendM S b cs m d) (r : RpM S H m o) : Lent S b cs o := by
  cases h with
  | lst hb =>
    cases r
    exact ⟨fun _ _ => hb, fun _ _ _ e => (by cases e), fun _ e => (by cases e), fun _ _ e => (by cases e), fun _ e => (by cases e), fun _ e => (by cases e)⟩
  | ins hl hc =>
    cases r
    exact ⟨fun _ e => (by cases e), fun _ _ _ e => (by cases e; exact hc), fun _ e => (by cases e), fun _ _ e => (by cases e), fun _ e => (by cases e), fun _ e => (by cases e)⟩
theorem LendM.rp {S : Sg0} {H W : Hp} {b : Bool} {cs : List Nat} {m : M} {d : D} {o : HO} {z : Addr} (h : LendM S b cs m d) (r : RpM S H m o) (e : Ex H W) (hz : W z = some o) : Rp S W (.ref z) d := by
  cases h with
  | lst hb =>
    cases r with
    | lst r => exact .lst hz (r.ext e)
  | ins hl hc =>
    cases r with
    | ins r =>
      obtain ⟨ws, e1, e2, e3⟩ := r.zip hl
      subst e1
      exact .obj hz e2 (e3.ext e)
section
variable {S : Sg0} {F N H H' : Hp} {μ a d0 bz bh μ' : Mem} {bb : Bool} {cs : List Nat} {lz : List (Addr × D)}
theorem Split.sub {μ a b : Mem} (s : Split μ a b) : List.Sublist a μ ∧ List.Sublist b μ := by
  induction s with
  | nil => exact ⟨.slnil, .slnil⟩
  | l _ ih => exact ⟨ih.1.cons_cons _, ih.2.cons _⟩
  | r _ ih => exact ⟨ih.1.cons _, ih.2.cons_cons _⟩
/-- back again -/
theorem RelM0.back (r : RelM0 S F N H μ) (s : Split μ a d0) (s2 : Split d0 bz bh) (L : Lend S bb cs bz lz) {ν : Mem} (hν : ∀ q, q ∈ ν ↔ q ∈ a ∨ q ∈ bh) (hs : List.Sublist ν μ) (sν : Split ν a bh)
    (r' : RelM0 S (vis N H (adr ν)) (hidP N H bh) H' μ') (ho : ∀ q ∈ μ', M.only bb cs q.2 = true) :
    RelM0 S F N H' (μ' ++ d0) ∧ (∀ {v d}, Rp S (vis (hidP N H bh) H' (adr μ')) v d → D.only bb cs d = true → Rp S (vis N H' (adr (μ' ++ d0))) v d) ∧
      (∀ {v d}, RpA S (vis (hidP N H bh) H' (adr μ')) v d → D.onlyA bb cs d = true → RpA S (vis N H' (adr (μ' ++ d0))) v d) ∧ ∀ z, (hidP N H bh) z = none → z ∉ adr μ' → z ∈ adr (μ' ++ d0) → ∃ o, H' z = some o ∧ Lent S bb cs o := by
  have rν := r.drop hs
  obtain ⟨j1, j2⟩ := rν.join sν r'
  obtain ⟨n1, n2, n3⟩ := s.nd r.nd
  obtain ⟨m1, m2, m3⟩ := s2.nd n2
  -- the lent cells
  have hz : ∀ q ∈ bz, ∃ o, H q.1 = some o ∧ RpM S (vis N H (adr μ)) q.2 o ∧ vis N H (adr ν) q.1 = some o := fun q hq => by
    have hq0 : q ∈ d0 := (s2.mem q).mpr (.inl hq)
    have hqm : q ∈ μ := (s.mem q).mpr (.inr hq0)
    obtain ⟨o, e, m⟩ := r.mem q hqm
    refine ⟨o, e, m, vis_mk e (r.dis _ (List.mem_map_of_mem hqm)) fun z => ?_⟩
    obtain ⟨q', h1, h2⟩ := List.mem_map.mp z
    rcases (hν q').mp h1 with h | h
    · exact n3 q'.1 (List.mem_map_of_mem h) (h2 ▸ List.mem_map_of_mem hq0)
    · exact m3 q.1 (List.mem_map_of_mem hq) (h2 ▸ List.mem_map_of_mem h)
  have hzv : ∀ q ∈ bz, ∃ o, H' q.1 = some o ∧ RpM S (vis N H (adr μ)) q.2 o ∧ vis N H' (adr (μ' ++ bh)) q.1 = some o ∧ Lent S bb cs o := fun q hq => by
    obtain ⟨o, e, m, hv⟩ := hz q hq
    obtain ⟨x, lx⟩ := L.m q hq
    have := (rν.ext.trans (Ex.refl _))
    have e1 : vis N H' (adr (μ' ++ bh)) q.1 = some o := by rw [j2]; exact r'.ext _ _ hv
    exact ⟨o, vis_le _ _ e1, m, e1, lx.lent m⟩
  have had : ∀ c, c ∈ adr (μ' ++ d0) ↔ c ∈ adr (μ' ++ bh) ∨ c ∈ adr bz := fun c => by
    have := s2.adr c
    simp only [adr, List.map_append, List.mem_append] at this ⊢
    rw [this, or_assoc, or_comm (a := c ∈ List.map _ bz)]
  have key : ∀ c ∈ adr bz, c ∉ adr (μ' ++ bh) := fun c hc h => by
    obtain ⟨q, hq, rfl⟩ := List.mem_map.mp hc
    obtain ⟨o, e, m, hv, _⟩ := hzv q hq
    exact (vis_in hv).2.1 h
  have hle : ∀ x o, vis N H' (adr (μ' ++ bh)) x = some o → vis N H' (adr (μ' ++ d0)) x = some o ∨ Lent S bb cs o := fun x o e => by
    obtain ⟨h1, h2, h3⟩ := vis_in e
    by_cases hx : x ∈ adr bz
    · obtain ⟨q, hq, rfl⟩ := List.mem_map.mp hx
      obtain ⟨o', e', _, hv, l⟩ := hzv q hq
      rw [h3] at e'
      cases e'
      exact .inr l
    · exact .inl (vis_mk h3 h1 fun z => ((had x).mp z).elim h2 hx)
  have up : Ex (vis N H (adr μ)) (vis N H' (adr (μ' ++ d0))) := fun x o e => by
    obtain ⟨h1, h2, h3⟩ := vis_in e
    have e0 : vis N H (adr ν) x = some o := vis_mk h3 h1 fun z => h2 ((hs.map _).subset z)
    have e1 : vis N H' (adr (μ' ++ bh)) x = some o := by rw [j2]; exact r'.ext _ _ e0
    obtain ⟨k1, k2, k3⟩ := vis_in e1
    refine vis_mk k3 k1 fun z => ((had x).mp z).elim k2 fun hz => h2 ((s.adr x).mpr (.inr ((s2.adr x).mpr (.inl hz))))
  have cut : ∀ {v d}, Rp S (vis (hidP N H bh) H' (adr μ')) v d → D.only bb cs d = true → Rp S (vis N H' (adr (μ' ++ d0))) v d := fun h e => by
    rw [← j2] at h
    exact h.lose hle e
  have cutA : ∀ {v d}, RpA S (vis (hidP N H bh) H' (adr μ')) v d → D.onlyA bb cs d = true → RpA S (vis N H' (adr (μ' ++ d0))) v d := fun h e => by
    rw [← j2] at h
    exact h.lose hle e
  refine ⟨⟨j1.hid, fun c hc => ?_, r.ext.trans up, ?_, fun q hq => ?_, r.tup⟩, cut, cutA, fun z h1 h2 h3 => ?_⟩
  · rcases (had c).mp hc with h | h
    · exact j1.dis c h
    · exact r.dis c ((s.adr c).mpr (.inr ((s2.adr c).mpr (.inl h))))
  · show ((μ' ++ d0).map _).Nodup
    rw [List.map_append]
    refine List.nodup_append.mpr ⟨r'.nd, n2, fun x hx y hy e => ?_⟩
    subst e
    rcases (s2.adr x).mp hy with h | h
    · exact key x h (by simp only [adr, List.map_append, List.mem_append]; exact .inl hx)
    · have := (List.nodup_append.mp (show ((adr μ') ++ (adr bh)).Nodup from by rw [adr, adr, ← List.map_append]; exact j1.nd)).2.2
      exact this x hx x h rfl
  · rcases List.mem_append.mp hq with h | h
    · obtain ⟨o, e, m⟩ := r'.mem q h
      rw [← j2] at m
      exact ⟨o, e, m.lose hle (ho q h)⟩
    · rcases (s2.mem q).mp h with h | h
      · obtain ⟨o, e, m, _⟩ := hzv q h
        exact ⟨o, e, m.ext up⟩
      · obtain ⟨o, e, m⟩ := r.mem q ((s.mem q).mpr (.inr ((s2.mem q).mpr (.inr h))))
        obtain ⟨o', e1, e2⟩ := hidP_in rν sν (List.mem_map_of_mem h : q.1 ∈ adr bh)
        rw [e] at e2
        cases e2
        exact ⟨o, r'.hid _ _ e1, m.ext up⟩
  · rcases (had z).mp h3 with h | h
    · simp only [adr, List.map_append, List.mem_append] at h
      rcases h with h | h
      · exact absurd h h2
      · obtain ⟨o, e, _⟩ := hidP_in rν sν h
        rw [h1] at e
        cases e
    · obtain ⟨q, hq, rfl⟩ := List.mem_map.mp h
      obtain ⟨o, e, _, _, l⟩ := hzv q hq
      exact ⟨o, e, l⟩
/-- what remains when the lent cells are let go -/
theorem split_rest (s : Split μ a d0) : ∀ {bz bh : Mem}, Split d0 bz bh → ∃ ν, Split ν a bh ∧ List.Sublist ν μ := by
  induction s with
  | nil => intro bz bh s2; cases s2; exact ⟨[], .nil, .slnil⟩
  | l _ ih => intro bz bh s2; obtain ⟨ν, h1, h2⟩ := ih s2; exact ⟨_, .l h1, h2.cons_cons _⟩
  | r _ ih =>
    intro bz bh s2
    cases s2 with
    | l s2 => obtain ⟨ν, h1, h2⟩ := ih s2; exact ⟨ν, h1, h2.cons _⟩
    | r s2 => obtain ⟨ν, h1, h2⟩ := ih s2; exact ⟨_, .r h1, h2.cons_cons _⟩
theorem bor_rel {Hv W : Hp} (hle : Ex Hv W) (hz : ∀ z o, (z, o) ∈ lz → Rp S W (.ref z) o) : ∀ {σ : L2.St} {Γ Γ' : Gm}, Bor lz Γ Γ' → RelS S Hv σ Γ → RelS S W σ Γ'
  | _, _, _, .nil, .nil => .nil
  | _, _, _, .same h, .cons p t => .cons (fun d hd => by obtain ⟨v, e, r⟩ := p d hd; exact ⟨v, e, r.ext hle⟩) (bor_rel hle hz h t)
  | _, _, _, .bor hm h, .cons p t => .cons (fun d hd => by
      obtain ⟨v, e, r⟩ := p _ rfl
      cases r
      cases hd
      exact ⟨_, e, hz _ _ hm⟩) (bor_rel hle hz h t)
end
/-- the exceptions of an expression to which cells are lent -/
abbrev Sg.lend (S : Sg) (bb : Bool) (cs : List Nat) (d0 : Mem) : Sg := ⟨S.toSg0, fun c fs μ' => D.onlyA bb cs fs = true ∧ (∀ q ∈ μ', M.only bb cs q.2 = true) ∧ S.qx c fs (μ' ++ d0), S.wx⟩
section
variable {X : Cx} {S : Sg} {e : Expr} {es : List Expr} {Γ Γ' : Gm} {μ a d0 bz bh : Mem} {bb : Bool} {cs : List Nat} {lz : List (Addr × D)}
theorem lend_pre {F N H : Hp} {σ : L2.St} (r : RelM S F N H μ) (rs : RelS S (vis N H (adr μ)) σ Γ) (s : Split μ a d0) (s2 : Split d0 bz bh) (L : Lend S bb cs bz lz) (B : Bor lz Γ Γ') :
    ∃ ν, Split ν a bh ∧ List.Sublist ν μ ∧ RelM (S.lend bb cs d0) (vis N H (adr ν)) (hidP N H bh) H a ∧ RelS S (vis (hidP N H bh) H (adr a)) σ Γ' := by
  obtain ⟨ν, sν, hs⟩ := split_rest s s2
  have rν := r.toRelM0.drop hs
  have ev := split_vis rν sν
  refine ⟨ν, sν, hs, ⟨rν.split sν, fun cls d H' ⟨c, dd, vs, ds, μ', h1, h2, h3, hl, h4, r', h5, h6, h7, h8, h9⟩ => ?_⟩, ?_⟩
  · obtain ⟨b1, b2, b3, b4⟩ := r.toRelM0.back s s2 L sν.mem hs sν r' h8
    refine r.iv _ _ _ ⟨c, dd, vs, ds, μ' ++ d0, h1, h2, h3, hl, b3 h4 h7, b1, ?_, fun z => ?_, h9⟩
    · by_cases hb : dd ∈ adr bh
      · obtain ⟨o, e, _⟩ := hidP_in rν sν hb
        rw [h5] at e
        cases e
      · rwa [hidP_out hb] at h5
    · obtain ⟨o, e, l⟩ := b4 dd h5 h6 z
      rw [h3] at e
      cases e
      exact l.nx _ rfl
  · rw [ev]
    refine bor_rel (sub_vis0 hs) (fun z o hm => ?_) B rs
    obtain ⟨m, h1, h2⟩ := L.adr z o hm
    have hq0 : (z, m) ∈ d0 := (s2.mem _).mpr (.inl h1)
    have hqm : (z, m) ∈ μ := (s.mem _).mpr (.inr hq0)
    obtain ⟨n1, n2, n3⟩ := s.nd r.nd
    obtain ⟨m1, m2, m3⟩ := s2.nd n2
    obtain ⟨o', e', rm⟩ := r.mem _ hqm
    refine h2.rp rm (sub_vis0 hs) (vis_mk e' (r.dis _ (List.mem_map_of_mem hqm)) fun z' => ?_)
    obtain ⟨q', k1, k2⟩ := List.mem_map.mp z'
    rcases (sν.mem q').mp k1 with h | h
    · exact n3 q'.1 (List.mem_map_of_mem h) (k2 ▸ List.mem_map_of_mem hq0)
    · exact m3 z (List.mem_map_of_mem h1) (k2 ▸ List.mem_map_of_mem h)
theorem ev_bor {Q : QD} (s : Split μ a d0) (s2 : Split d0 bz bh) (L : Lend S bb cs bz lz) (B : Bor lz Γ Γ')
    (h : EvG X (S.lend bb cs d0) e Γ' a fun d μ' => D.only bb cs d = true ∧ (∀ q ∈ μ', M.only bb cs q.2 = true) ∧ Q d (μ' ++ d0)) : EvG X S e Γ μ Q := by
  intro F N σ H r rs
  obtain ⟨ν, sν, hs, r1, rs1⟩ := lend_pre r rs s s2 L B
  refine (h _ _ σ H r1 rs1).mono fun v H' ⟨d, μ', r', rd, q1, q2, q3⟩ => ?_
  obtain ⟨b1, b2, b3, b4⟩ := r.toRelM0.back s s2 L sν.mem hs sν r'.toRelM0 q2
  exact ⟨d, μ' ++ d0, ⟨b1, r.iv⟩, b2 rd q1, q3⟩
theorem et_bor {Q : Bool → Mem → Prop} (s : Split μ a d0) (s2 : Split d0 bz bh) (L : Lend S bb cs bz lz) (B : Bor lz Γ Γ')
    (h : EvT X (S.lend bb cs d0) e Γ' a fun d μ' => (∀ q ∈ μ', M.only bb cs q.2 = true) ∧ Q d (μ' ++ d0)) : EvT X S e Γ μ Q := by
  intro F N σ H r rs
  obtain ⟨ν, sν, hs, r1, rs1⟩ := lend_pre r rs s s2 L B
  refine (h _ _ σ H r1 rs1).mono fun v H' ⟨μ', r', q2, q3⟩ => ?_
  obtain ⟨b1, b2, b3, b4⟩ := r.toRelM0.back s s2 L sν.mem hs sν r'.toRelM0 q2
  exact ⟨μ' ++ d0, ⟨b1, r.iv⟩, q3⟩
theorem ea_bor {Q : List D → Mem → Prop} (s : Split μ a d0) (s2 : Split d0 bz bh) (L : Lend S bb cs bz lz) (B : Bor lz Γ Γ')
    (h : EvA X (S.lend bb cs d0) es Γ' a fun d μ' => D.onlyA bb cs d = true ∧ (∀ q ∈ μ', M.only bb cs q.2 = true) ∧ Q d (μ' ++ d0)) : EvA X S es Γ μ Q := by
  intro F N σ H r rs
  obtain ⟨ν, sν, hs, r1, rs1⟩ := lend_pre r rs s s2 L B
  refine (h _ _ σ H r1 rs1).mono fun v H' ⟨d, μ', r', rd, q1, q2, q3⟩ => ?_
  obtain ⟨b1, b2, b3, b4⟩ := r.toRelM0.back s s2 L sν.mem hs sν r'.toRelM0 q2
  exact ⟨d, μ' ++ d0, ⟨b1, r.iv⟩, b3 rd q1, q3⟩
end
end GL
namespace GL
open PySem L2 PySem.Spec PyProof.Rows
/-! ### lent cells in typed walks -/
class Only (b : Bool) (cs : List Nat) (α : Type) [Rpd α] : Prop where
  on : ∀ x : α, D.only b cs (rp x) = true
section
variable {b : Bool} {cs : List Nat} {α β γ δ : Type}
instance : Only b cs Int := ⟨fun _ => rfl⟩
instance : Only b cs Bool := ⟨fun _ => rfl⟩
instance : Only b cs Unit := ⟨fun _ => rfl⟩
instance : Only b cs Nm := ⟨fun _ => rfl⟩
theorem onA [Rpd α] [Only b cs α] : ∀ l : List α, D.onlyA b cs (l.map rp) = true
  | [] => rfl
  | x :: l => by
    show (D.only b cs (rp x) && D.onlyA b cs (l.map rp)) = true
    rw [Only.on x, onA l]
    rfl
instance [Rpd α] [Only true cs α] : Only true cs (List α) := ⟨fun l => by
  show (true && D.onlyA true cs (l.map rp)) = true
  rw [onA l]
  rfl⟩
instance [Rpd α] [Only b cs α] : Only b cs (Tu α) := ⟨fun l => onA l.l⟩
instance [Rpd α] [Rpd β] [Only b cs α] [Only b cs β] : Only b cs (α × β) := ⟨fun x => by
  show (D.only b cs (rp x.1) && (D.only b cs (rp x.2) && true)) = true
  rw [Only.on x.1, Only.on x.2]
  rfl⟩
instance [Rpd α] [Rpd β] [Rpd γ] [Only b cs α] [Only b cs β] [Only b cs γ] : Only b cs (T3 α β γ) := ⟨fun x => by
  show (D.only b cs (rp x.a) && (D.only b cs (rp x.b) && (D.only b cs (rp x.c) && true))) = true
  rw [Only.on x.a, Only.on x.b, Only.on x.c]
  rfl⟩
instance [Rpd α] [Rpd β] [Rpd γ] [Rpd δ] [Only b cs α] [Only b cs β] [Only b cs γ] [Only b cs δ] : Only b cs (T4 α β γ δ) := ⟨fun x => by
  show (D.only b cs (rp x.a) && (D.only b cs (rp x.b) && (D.only b cs (rp x.c) && (D.only b cs (rp x.d) && true)))) = true
  rw [Only.on x.a, Only.on x.b, Only.on x.c, Only.on x.d]
  rfl⟩
instance [Rpd α] [Only b cs α] : Only b cs (Option α) := ⟨fun x => by
  cases x with
  | none => rfl
  | some y => exact Only.on y⟩
instance [Rpd α] [Rpd β] [Only b cs α] [Only b cs β] : Only b cs (α ⊕ β) := ⟨fun x => by
  cases x with
  | inl y => exact Only.on y
  | inr y => exact Only.on y⟩
theorem on_ints {cs : List Nat} : ∀ l : List Int, D.onlyA b cs (l.map D.int) = true
  | [] => rfl
  | x :: l => by
    show (true && D.onlyA b cs (l.map D.int)) = true
    rw [on_ints l]
    rfl
theorem on_pool {cs : List Nat} {l : List D} (h : PoolOk l) : D.onlyA true cs l = true := by
  rcases h with ⟨n, _, rfl⟩ | ⟨x, k, c, rfl, _⟩
  · rfl
  · show (true && (true && ((true && D.onlyA true cs (c.map D.int)) && true))) = true
    rw [on_ints]
    rfl
end
section
variable {X : Cx} {S : Sg} {e : Expr} {es : List Expr} {Γ Γ' : Gm} {μ a d0 bz bh : Mem} {bb : Bool} {cs : List Nat} {lz : List (Addr × D)}
/-- nothing of the memory is touched -/
abbrev Sg.lend0 (S : Sg) (μ : Mem) : Sg := ⟨S.toSg0, fun c fs μ' => Plain fs ∧ μ' = [] ∧ S.qx c fs μ, S.wx⟩
/-- the pool alone is touched -/
abbrev Sg.lendP (S : Sg) (p : Addr) (μ : Mem) : Sg := ⟨S.toSg0, fun c fs μ' => Plain fs ∧ ∃ l', PoolOk l' ∧ μ' = [(p, .lst l')] ∧ S.qx c fs ((p, .lst l') :: μ), S.wx⟩
theorem RelM.qx {S : Sg} {q : QE} {F N H : Hp} {μ : Mem} (r : RelM S F N H μ) (h : ∀ c fs μ', q c fs μ' → S.qx c fs μ') : RelM ⟨S.toSg0, q, S.wx⟩ F N H μ :=
  ⟨r.toRelM0, fun cls d H ⟨c, dd, vs, ds, μ, h1, h2, h3, hl, h4, r', h5, h6, h7⟩ => r.iv cls d H ⟨c, dd, vs, ds, μ, h1, h2, h3, hl, h4, r', h5, h6, h c ds μ h7⟩⟩
theorem EvG.qx {q : QE} {Q : QD} (h : ∀ c fs μ', q c fs μ' → S.qx c fs μ') (k : EvG X ⟨S.toSg0, q, S.wx⟩ e Γ μ Q) : EvG X S e Γ μ Q := fun F N σ H r rs =>
  (k F N σ H (r.qx h) rs).mono fun _ _ ⟨d, μ', r', rd, z⟩ => ⟨d, μ', ⟨r'.toRelM0, r.iv⟩, rd, z⟩
theorem EvT.qx {q : QE} {Q : Bool → Mem → Prop} (h : ∀ c fs μ', q c fs μ' → S.qx c fs μ') (k : EvT X ⟨S.toSg0, q, S.wx⟩ e Γ μ Q) : EvT X S e Γ μ Q := fun F N σ H r rs =>
  (k F N σ H (r.qx h) rs).mono fun _ _ ⟨μ', r', z⟩ => ⟨μ', ⟨r'.toRelM0, r.iv⟩, z⟩
theorem EvT.mono {Q Q' : Bool → Mem → Prop} (h : EvT X S e Γ μ Q) (m : ∀ d μ', Q d μ' → Q' d μ') : EvT X S e Γ μ Q' := fun F N σ H r rs =>
  (h F N σ H r rs).mono fun _ _ ⟨μ', r', q⟩ => ⟨μ', r', m _ μ' q⟩
theorem ev_lend {Q : QD} (s2 : Split μ bz bh) (L : Lend S bb cs bz lz) (B : Bor lz Γ Γ')
    (h : EvG X (S.lend0 μ) e Γ' [] fun d μ' => μ' = [] ∧ D.only bb cs d = true ∧ Q d μ) : EvG X S e Γ μ Q := by
  refine ev_bor (Split.none μ) s2 L B (EvG.qx (q := (S.lend0 μ).qx) (fun c fs μ' ⟨h1, h2, h3⟩ => ?_) (h.mono fun d μ' ⟨h1, h2, h3⟩ => ?_))
  · subst h2
    exact ⟨D.onlyA_up h1, (fun _ z => nomatch z), h3⟩
  · subst h1
    exact ⟨h2, (fun _ z => nomatch z), h3⟩
theorem et_lend {Q : Bool → Mem → Prop} (s2 : Split μ bz bh) (L : Lend S bb cs bz lz) (B : Bor lz Γ Γ')
    (h : EvT X (S.lend0 μ) e Γ' [] fun d μ' => μ' = [] ∧ Q d μ) : EvT X S e Γ μ Q := by
  refine et_bor (Split.none μ) s2 L B (EvT.qx (q := (S.lend0 μ).qx) (fun c fs μ' ⟨h1, h2, h3⟩ => ?_) (h.mono fun d μ' ⟨h1, h2⟩ => ?_))
  · subst h2
    exact ⟨D.onlyA_up h1, (fun _ z => nomatch z), h3⟩
  · subst h1
    exact ⟨(fun _ z => nomatch z), h2⟩
theorem ev_lendP {Q : QD} {p : Addr} {l : List D} (s2 : Split d0 bz bh) (L : Lend S true cs bz lz) (B : Bor lz Γ Γ')
    (h : EvG X (S.lendP p d0) e Γ' [(p, .lst l)] fun d μ' => ∃ l', PoolOk l' ∧ μ' = [(p, .lst l')] ∧ D.only true cs d = true ∧ Q d ((p, .lst l') :: d0)) : EvG X S e Γ ((p, .lst l) :: d0) Q := by
  refine ev_bor (.l (Split.none d0)) s2 L B (EvG.qx (q := (S.lendP p d0).qx) (fun c fs μ' ⟨h1, l', hl, h2, h3⟩ => ?_) (h.mono fun d μ' ⟨l', hl, h1, h2, h3⟩ => ?_))
  · subst h2
    refine ⟨D.onlyA_up h1, (fun q z => ?_), h3⟩
    cases List.mem_singleton.mp z
    exact on_pool hl
  · subst h1
    refine ⟨h2, (fun q z => ?_), h3⟩
    cases List.mem_singleton.mp z
    exact on_pool hl
end
/-! ### memory in another order -/
theorem Del.perm {a : Addr} {m : M} {μ μr : Mem} (u : Del a m μ μr) : (∀ q, q ∈ (a, m) :: μr ↔ q ∈ μ) ∧ ((adr μ).Nodup → (adr ((a, m) :: μr)).Nodup) := by
  induction u with
  | here => exact ⟨fun q => Iff.rfl, fun h => h⟩
  | @there p r r' u ih =>
    refine ⟨fun q => ?_, fun h => ?_⟩
    · have := ih.1 q
      simp only [List.mem_cons] at this ⊢
      rw [← this, ← or_assoc, ← or_assoc, or_comm (a := q = (a, m))]
    · obtain ⟨h1, h2⟩ := List.nodup_cons.mp h
      have i2 := ih.2 h2
      obtain ⟨k1, k2⟩ := List.nodup_cons.mp i2
      have hm : ∀ c, c ∈ adr ((a, m) :: r') ↔ c ∈ adr r := fun c => by
        simp only [adr, List.mem_map]
        exact ⟨fun ⟨q, h1, h2⟩ => ⟨q, (ih.1 q).mp h1, h2⟩, fun ⟨q, h1, h2⟩ => ⟨q, (ih.1 q).mpr h1, h2⟩⟩
      refine List.nodup_cons.mpr ⟨fun z => ?_, List.nodup_cons.mpr ⟨fun z => h1 ((hm _).mp (List.mem_cons_of_mem _ z)), k2⟩⟩
      rcases List.mem_cons.mp z with e | z
      · exact h1 ((hm _).mp (by rw [← e]; exact List.mem_cons_self))
      · exact k1 z
/-- a cell to the front -/
theorem bl_front {X : Cx} {S : Sg} {sts : List Stmt} {Γ : Gm} {μ μr : Mem} {E : EG} {a : Addr} {m : M} (u : Del a m μ μr) (h : BlG X S sts Γ ((a, m) :: μr) E) : BlG X S sts Γ μ E := fun F N σ H r rs => by
  obtain ⟨r', e⟩ := r.toRelM0.perm u.perm.1 (u.perm.2 r.nd)
  exact h F N σ H ⟨r', r.iv⟩ (by rw [e]; exact rs)
/-! ### instances that stay in the memory -/
section
variable {A W : Type} {args : A → List D} {flds : W → List (Str × D)} {C : Addr}
theorem new_cL {S : Sg} {μ : Mem} {Q : QD} {ds : List D} {m : A → (W → Prop) → KX → Prop} {k : W → Prop} {kx : KX} (a : A) (hd : ds = args a) (h : m a k kx) (q : ∀ x v, k v → Q (.ref x) ((x, .ins C (flds v)) :: μ)) (qe : ∀ c fs, kx c fs → Plain fs → S.qx c fs μ) : NewG S C (sgC C args flds m) ds μ Q :=
  ⟨[], μ, Split.none μ, fun x _ => ⟨x, a, k, kx, by rw [hd], rfl, h, fun v hv => ⟨rfl, q x v hv⟩, fun c fs hk hp => qe c fs hk hp⟩⟩
end
section
variable {X : Cx} {S : Sg} {CX : CXT} {k : Nat} {f C : Addr} {fd : FuncData} {ps : List Str} {sg : SpG} {Γ : Gm} {μ : Mem} {Q : QD} {e : Expr} {es : List Expr} {x : Str} {pos p : Pos} {E : EG} {sts : List Stmt} {dvs : List V} {dds : List D}
theorem cCL {C : Addr} (hm' : MonoG sg) (M : Mk X.K C f) (F : FnOk X.prog X.w X.K X.mg X.base CX k f fd ps (spG S sg)) (hr : Room (k + 1) X.A) (hm : X.mg x = some (.ref C)) (hb : Binds X.K fd ps []) (hx : Passes CX X S.wx)
    (h : EvA X S (e :: es) Γ μ fun ds μ1 => NewG S C sg ds μ1 Q) (hg : Gl X x := by rfl) (hdb : (x == ("__debug__" : Str)) = false := by decide) (h1 : notStar e = true := by rfl) (h2 : es.all notStar = true := by rfl) : EvG X S (.Call (.Name x p) (e :: es) [] pos) Γ μ Q :=
  ev_make hm' M F hr hg hm hb .nil (fun _ => .nil) hx (by simpa only [List.append_nil] using h) hdb (star_cs h1) (plain_ns h2)
theorem cC0 {C : Addr} (hm' : MonoG sg) (M : Mk X.K C f) (F : FnOk X.prog X.w X.K X.mg X.base CX k f fd ps (spG S sg)) (hr : Room (k + 1) X.A) (hm : X.mg x = some (.ref C)) (hb : ∃ ds, Vals dvs ds ∧ Binds X.K fd ps ds) (hdd : ∀ Hv, RpA S Hv dvs dds) (hx : Passes CX X S.wx)
    (h : NewG S C sg dds μ (FrzQ S.toSg0 Q)) (hg : Gl X x := by rfl) (hdb : (x == ("__debug__" : Str)) = false := by decide) : EvG X S (.Call (.Name x p) [] [] pos) Γ μ Q := by
  obtain ⟨ds, hd, hb⟩ := hb
  exact ev_frz <| ev_make0 hm' M F hr hg hm hb hd hdd hx h hdb
theorem cC0L {C : Addr} (hm' : MonoG sg) (M : Mk X.K C f) (F : FnOk X.prog X.w X.K X.mg X.base CX k f fd ps (spG S sg)) (hr : Room (k + 1) X.A) (hm : X.mg x = some (.ref C)) (hb : ∃ ds, Vals dvs ds ∧ Binds X.K fd ps ds) (hdd : ∀ Hv, RpA S Hv dvs dds) (hx : Passes CX X S.wx)
    (h : NewG S C sg dds μ Q) (hg : Gl X x := by rfl) (hdb : (x == ("__debug__" : Str)) = false := by decide) : EvG X S (.Call (.Name x p) [] [] pos) Γ μ Q := by
  obtain ⟨ds, hd, hb⟩ := hb
  exact ev_make0 hm' M F hr hg hm hb hd hdd hx h hdb
/-- x op= e, x of a class with its own operator in place -/
theorem st_aug {op : Operator} {i : Nat} {pos' : Pos} {d : D} {ns : List Str} (M : MethG X S CX k C f (PySem.dunderI op.info.2) fd ps sg) (hr : Room k X.A) (hc : PySem.W.selfFirst X.K C = true) (hN : X.N.Nodup) (hi : X.N[i]? = some x) (hx : Loc X.env.scope x) (hg : Γ[i]? = some (some d))
    (h : EvG X S e Γ μ fun y μ1 => Rcv S μ1 d C ns ∧ AskG S sg [d, y] μ1 fun z μ2 => E.nx (Γ.set i (some z)) μ2) (hf : X.fn x = true ∨ X.env.scope.names.lookup x = some .local := by first | exact .inl rfl | exact .inr rfl | assumption) : StG X S (.AugAssign (.Name x pos') op e pos) Γ μ E := by
  intro F N σ H r rs
  have hp : PIp X op (fun x y H Q => ∃ a dx fvs, x = .ref a ∧ H a = some (.ins C dx fvs) ∧ spG S sg [x, y] H Q S.wx) := by
    intro pins s σ H x y v u Q I rv ru ⟨a, dx, fvs, e1, e2, q⟩
    subst e1
    cases rv
    obtain ⟨mA, O, _⟩ := ins_get I.hok e2
    obtain ⟨od, J, _⟩ := O.look
    obtain ⟨m, hF⟩ := I.fr
    refine PySem.W.ksp_inplace hF I.ok.mod.kin J hc M.at_ M.fn ?_
    exact thn (run_at (vs := [.ref a, y]) M.ok hr rfl M.hb M.hx I (.cons rfl (.cons ru .nil)) q) fun _ _ q => back_of q
  obtain ⟨v, hv, rv⟩ := RelS.get rs hg
  refine sx_of (ps_aug hN hi hx pe_ex hp hf) ⟨v, hv, h.use r rs fun y H1 dy μ1 r1 rs1 ry ⟨hrc, q⟩ => ?_⟩
  have rv' := rv.ext r1.ext
  obtain ⟨a, dx, fvs, e1, e2, _⟩ := hrc.at r1.toRelM0 rv'
  refine ⟨a, dx, fvs, e1, e2, ?_⟩
  have w1 : RelM S (vis N H (adr μ)) N H1 μ1 := r1
  obtain ⟨F0, N0, ds, μ0, q1, q2, q3⟩ := ask_sp M.mono w1 (.cons rv' (.cons ry .nil)) q
  refine ⟨F0, N0, ds, μ0, q1, q2, M.mono _ _ _ _ _ _ q3 (fun d μ' hh v H' r' rv' => ?_) fun _ _ _ z => z⟩
  obtain ⟨d', μ4, r4, rd4, q4⟩ := hh v H' r' rv'
  exact ⟨_, μ4, r4.weakF r.ext, RelS.set rd4 i (RelS.ext r4.ext rs), q4⟩
theorem augF {op : Operator} (i : Nat) {pos' : Pos} {d : D} {ns : List Str} (M : MethG X S CX k C f (PySem.dunderI op.info.2) fd ps sg) (hr : Room k X.A) (hc : PySem.W.selfFirst X.K C = true) (nd : X.N.Nodup)
    (h : EvG X S e Γ μ fun y μ1 => Rcv S μ1 d C ns ∧ AskG S sg [d, y] μ1 fun z μ2 => BlG X S sts (Γ.set i (some z)) μ2 E) (hg : Γ[i]? = some (some d) := by rfl) (hi : X.N[i]? = some x := by rfl) (hx : Loc X.env.scope x := by first | exact Or.inl rfl | exact Or.inr rfl)
    (hf : X.fn x = true ∨ X.env.scope.names.lookup x = some .local := by first | exact .inl rfl | exact .inr rfl) : BlG X S (.AugAssign (.Name x pos') op e pos :: sts) Γ μ E := bl_cons (st_aug M hr hc nd hi hx hg h hf)
end
/-! ### a loop over a display, turn by turn -/
section
variable {X : Cx} {S : Sg} {tg : Expr} {body sts : List Stmt} {E : EG}
def ForU (X : Cx) (S : Sg) (tg : Expr) (body sts : List Stmt) (E : EG) : List D → Gm → Mem → Prop
  | [], Γ, μ => BlG X S sts Γ μ E
  | d :: ds, Γ, μ => TgG X S (List.range 64) tg d Γ μ fun Γ2 μ2 => BlG X S body Γ2 μ2 { nx := ForU X S tg body sts E ds, ct := ForU X S tg body sts E ds, bk := fun Γ' μ' => BlG X S sts Γ' μ' E, rt := E.rt }
theorem forU {Γ : Gm} {μ : Mem} {ds : List D} (h : ForU X S tg body sts E ds Γ μ) : RFor X S tg body sts Γ E (fun _ => True) ds μ := by
  refine ⟨fun i Γ' μ' => ForU X S tg body sts E (ds.drop i) Γ' μ', by simpa using h, fun _ _ _ _ => trivial, fun i d Γ' μ' hd hI => ?_, fun Γ' μ' hI => ?_⟩
  · obtain ⟨hlt, e⟩ := List.getElem?_eq_some_iff.mp hd
    replace hI : ForU X S tg body sts E (List.drop i ds) Γ' μ' := hI
    rw [List.drop_eq_getElem_cons hlt, e] at hI
    exact hI
  · replace hI : ForU X S tg body sts E (List.drop ds.length ds) Γ' μ' := hI
    rw [List.drop_length] at hI
    exact hI
end
theorem cpw30 : CPow 10 30 := ⟨by decide, by decide, by decide⟩
theorem cpw18 : CPow 10 18 := ⟨by decide, by decide, by decide⟩
theorem cpw20 : CPow 10 20 := ⟨by decide, by decide, by decide⟩
theorem bl_norm {X : Cx} {S : Sg} {sts : List Stmt} {Γ : Gm} {μ : Mem} {E : EG} (Γ' : Gm) (μ' : Mem) (h : BlG X S sts Γ' μ' E) (e : Γ = Γ' := by rfl) (e2 : μ = μ' := by rfl) : BlG X S sts Γ μ E := by
  subst e e2
  exact h
/-! ### short ends -/
theorem lend_e {b : Bool} {cs : List Nat} {α : Type} [Rpd α] [Only b cs α] (x : α) {P : Prop} (h : P) : ([] : Mem) = [] ∧ D.only b cs (rp x) = true ∧ P := ⟨rfl, Only.on x, h⟩
theorem lend_t {P : Prop} (h : P) : ([] : Mem) = [] ∧ P := ⟨rfl, h⟩
theorem lend_p {cs : List Nat} {p : Addr} {l : List D} {P : List D → Prop} {α : Type} [Rpd α] [Only true cs α] (x : α) (hl : PoolOk l) (h : P l) : ∃ l', PoolOk l' ∧ [(p, M.lst l)] = [(p, M.lst l')] ∧ D.only true cs (rp x) = true ∧ P l' := ⟨l, hl, rfl, Only.on x, h⟩
section
variable {X : Cx} {S : Sg} {tg : Expr} {body sts : List Stmt} {E : EG}
theorem forU_c {d : D} {ds : List D} {Γ : Gm} {μ : Mem} (h : TgG X S (List.range 64) tg d Γ μ fun Γ2 μ2 => BlG X S body Γ2 μ2 { nx := ForU X S tg body sts E ds, ct := ForU X S tg body sts E ds, bk := fun Γ' μ' => BlG X S sts Γ' μ' E, rt := E.rt }) : ForU X S tg body sts E (d :: ds) Γ μ := h
theorem bl_id {Γ : Gm} {μ : Mem} (h : BlG X S sts Γ μ E) : BlG X S sts Γ μ E := h
end
end GL
namespace GL
open PySem L2 PySem.Spec PyProof.Rows
/-! ### unions as data -/
class Apart (α β : Type) [Rpd α] [Rpd β] : Prop where
  ap : ∀ (x : α) (y : β), D.eqv (rp x) (rp y) = false ∧ D.eqv (rp y) (rp x) = false
section
variable {α β γ δ : Type}
instance [Rpd α] [Rpd β] : Apart (Tu α) (List β) := ⟨fun x y => by
  show D.eqv (.tup _) (.lst _) = false ∧ D.eqv (.lst _) (.tup _) = false
  simp [D.eqv, D.py, PyData.eqv]⟩
instance [Rpd α] [Rpd β] [Rpd γ] : Apart (α × β) (List γ) := ⟨fun x y => by
  show D.eqv (.tup _) (.lst _) = false ∧ D.eqv (.lst _) (.tup _) = false
  simp [D.eqv, D.py, PyData.eqv]⟩
instance [Rpd α] [Rpd β] [Rpd γ] [Rpd δ] : Apart (T3 α β γ) (List δ) := ⟨fun x y => by
  show D.eqv (.tup _) (.lst _) = false ∧ D.eqv (.lst _) (.tup _) = false
  simp [D.eqv, D.py, PyData.eqv]⟩
theorem eqv_tupL : ∀ {l k : List D}, l.length ≠ k.length → D.eqv (.tup l) (.tup k) = false
  | [], [], h => absurd rfl h
  | [], _ :: _, _ => by simp [D.eqv, D.py, D.pyA, PyData.eqv, PyData.eqvAll]
  | _ :: _, [], _ => by simp [D.eqv, D.py, D.pyA, PyData.eqv, PyData.eqvAll]
  | x :: l, y :: k, h => by
    rw [eqv_tup0, eqv_tupL (fun e => h (by simp [e])), Bool.and_false]
instance {α' β' : Type} [Rpd α] [Rpd β] [Rpd α'] [Rpd β'] [Rpd γ] : Apart (α × β) (T3 α' β' γ) := ⟨fun x y => ⟨eqv_tupL (fun h => nomatch h), eqv_tupL (fun h => nomatch h)⟩⟩
variable [DecidableEq α] [DecidableEq β]
instance [Dt α] [Dt β] [Apart α β] : Dt (α ⊕ β) where
  dep := max (Dt.dep α) (Dt.dep β)
  dok x := by
    cases x with
    | inl x => exact D.ok_up (Dt.dok x) (Nat.le_max_left _ _)
    | inr x => exact D.ok_up (Dt.dok x) (Nat.le_max_right _ _)
  deq x y := by
    cases x with
    | inl x => cases y with
      | inl y => exact (Dt.deq x y).trans (decide_eq_decide.mpr (by simp))
      | inr y => exact (Apart.ap x y).1.trans (by simp)
    | inr x => cases y with
      | inl y => exact (Apart.ap y x).2.trans (by simp)
      | inr y => exact (Dt.deq x y).trans (decide_eq_decide.mpr (by simp))
instance [Dt α] [Dt β] [Apart α β] [Nn α] [Nn β] : Nn (α ⊕ β) := ⟨fun x => by
  cases x with
  | inl x => exact Nn.nn x
  | inr x => exact Nn.nn x⟩
end
/-! ### a list that stands in the memory or changes no more -/
section
variable {X : Cx} {S : Sg} {tg : Expr} {μ : Mem} {R : RI}
theorem iv_lstK (hK : X.K = S.K) {l : List D} {Km : Mem → Prop} (k : R Km l μ) : IterV X S tg (.lst l) μ R := by
  intro F N H x r rx Rr kk
  cases rx with
  | @lst a xs _ h hs =>
  have h' : SqL S.K (vis N H (adr μ)) a xs := SqL.of h
  refine iv_sql (xs := xs) (by rw [hK]; exact vis_le.l h') ?_
  rw [hK]
  exact kk _ H l Km μ r.top ((itok_l h' hs).weak fun _ _ => trivial) k
theorem it_d {α : Type} [Rpd α] (xs : List α) {d : D} (h : Drf μ d (xs.map rp)) (k : R (fun μ' => Drf μ' d (xs.map rp)) (xs.map rp) μ) (hK : X.K = S.K := by rfl) : IterV X S tg d μ R := by
  cases h with
  | val => exact iv_lstK hK k
  | ref hm =>
    intro F N H x r rx Rr kk
    cases rx
    obtain ⟨o, e, rm⟩ := r.find hm
    cases rm with
    | @lst _ zs hs =>
    refine iv_sql (xs := zs) (SqL.of e) ?_
    rw [hK]
    refine kk _ H _ _ μ r.top (itok_m.weak fun μ' h => ?_) k
    cases h with
    | ref h => exact h
end
/-! ### parts of the memory, blocks -/
theorem Split.left : ∀ A B : Mem, Split (A ++ B) A B
  | [], B => Split.none B
  | _ :: A, B => .l (Split.left A B)
theorem Split.right : ∀ A B : Mem, Split (A ++ B) B A
  | [], B => Split.all B
  | _ :: A, B => .r (Split.right A B)
theorem Split.blk {μ a b : Mem} (s : Split μ a b) : ∀ A : Mem, Split (A ++ μ) (A ++ a) b
  | [] => s
  | _ :: A => .l (s.blk A)
theorem Split.skip {μ a b : Mem} (s : Split μ a b) : ∀ A : Mem, Split (A ++ μ) a (A ++ b)
  | [] => s
  | _ :: A => .r (s.skip A)
theorem bl_permR {X : Cx} {S : Sg} {sts : List Stmt} {Γ : Gm} {μ μ' : Mem} {E : EG} (u : List.Perm μ μ') (h : BlG X S sts Γ μ' E) : BlG X S sts Γ μ E := fun F N σ H r rs => by
  obtain ⟨r', e⟩ := r.toRelM0.perm (fun q => u.mem_iff.symm) ((u.map _).nodup_iff.mp r.nd)
  exact h F N σ H ⟨r', r.iv⟩ (by rw [e]; exact rs)
/-- a part of the memory to the front -/
theorem bl_pf {X : Cx} {S : Sg} {sts : List Stmt} {Γ : Gm} {E : EG} (pre s post : Mem) (h : BlG X S sts Γ (s ++ (pre ++ post)) E) : BlG X S sts Γ (pre ++ (s ++ post)) E := by
  refine bl_permR ?_ h
  rw [← List.append_assoc, ← List.append_assoc]
  exact List.perm_append_comm.append_right post
theorem bl_pf0 {X : Cx} {S : Sg} {sts : List Stmt} {Γ : Gm} {E : EG} (pre s : Mem) (h : BlG X S sts Γ (s ++ pre) E) : BlG X S sts Γ (pre ++ s) E := bl_permR List.perm_append_comm h
theorem Split.perm {μ a b : Mem} (s : Split μ a b) : List.Perm μ (a ++ b) := by
  induction s with
  | nil => exact .refl _
  | l _ ih => exact .cons _ ih
  | r _ ih => exact (List.Perm.cons _ ih).trans List.perm_middle.symm
theorem ev_permQ {X : Cx} {S : Sg} {e : Expr} {Γ : Gm} {μ : Mem} {Q : QD} (h : EvG X S e Γ μ fun d μ' => ∃ μ'', List.Perm μ' μ'' ∧ Q d μ'') : EvG X S e Γ μ Q := fun F N σ H r rs =>
  (h F N σ H r rs).mono fun v H' ⟨d, μ', r', rd, μ'', p, q⟩ => by
    obtain ⟨r2, e⟩ := r'.toRelM0.perm (ν := μ'') (fun q => p.mem_iff.symm) ((p.map _).nodup_iff.mp r'.nd)
    exact ⟨d, μ'', ⟨r2, r'.iv⟩, by rw [e]; exact rd, q⟩
/-- parts forgotten -/
theorem bl_less {X : Cx} {S : Sg} {sts : List Stmt} {Γ : Gm} {μ μ' : Mem} {E : EG} (s : μ'.Sublist μ) (h : BlG X S sts Γ μ' E) : BlG X S sts Γ μ E := fun F N σ H r rs =>
  h F N σ H ⟨r.toRelM0.drop s, r.iv⟩ (RelS.ext (sub_vis0 s) rs)
/-! ### draws from a pool that stands anywhere -/
theorem ask_tS {S : Sg} {a : Addr} {l : List D} {n : Int} {μ b : Mem} {Q : QD} {R : Int → Prop} (s : Split μ [(a, .lst l)] b) (hl : PoolOk l) (h : (0 < n ∧ n < 2 ^ 200) ∧ ∀ r, 0 ≤ r → r < n → R r) (q : ∀ r l', PoolOk l' → R r → Q (.int r) ((a, .lst l') :: b)) : AskG S sg_take [.ref a, .int n] μ Q :=
  ⟨[(a, .lst l)], b, s, a, l, n, rfl, rfl, hl, h.1, fun r l' h1 h2 h3 => q r l' h3 (h.2 r h1 h2)⟩
theorem ask_pS {A ρ : Type} [Rpd ρ] {args : A → List D} {S : Sg} {μ b : Mem} {Q : QD} {ds : List D} {m : A → (ρ → Prop) → Prop} {k : ρ → Prop} {p : Addr} {l : List D} (s : Split μ [(p, .lst l)] b) (a : A) (hd : ds = .ref p :: args a) (hl : PoolOk l) (h : m a k) (q : ∀ r l', PoolOk l' → k r → Q (rp r) ((p, .lst l') :: b)) : AskG S (sgP args m) ds μ Q :=
  ⟨[(p, .lst l)], b, s, a, p, l, k, hd, rfl, hl, h, q⟩
end GL
namespace GL
open PySem L2 PySem.Spec PyProof.Rows
section
variable {a : Addr} {m m' : M} {μ μ' : Mem}
theorem Upd.blk (u : Upd a m m' μ μ') : ∀ B : Mem, Upd a m m' (B ++ μ) (B ++ μ')
  | [] => u
  | _ :: B => .there (u.blk B)
theorem Del.blk (u : Del a m μ μ') : ∀ B : Mem, Del a m (B ++ μ) (B ++ μ')
  | [] => u
  | _ :: B => .there (u.blk B)
end
section
variable {A Z ρ Y : Type} {args : A → Z → List D} {mem : A → Z → Mem → Prop} {post : A → Z → ρ → D → Mem → Prop} {posx : A → Z → Y → Mem → Prop} {m : A → (ρ → Prop) → (Y → KX) → Prop} {k : ρ → Prop} {kx : Y → KX} {S : Sg} {C : Addr} {ds : List D} {μ a1 b1 : Mem} {Q : QD}
/-- asked, all of the memory -/
theorem ask_uA (a : A) (z : Z) (hd : ds = args a z) (hm : mem a z μ) (h : m a k kx) (q : ∀ r d μ', k r → post a z r d μ' → Q d μ') (qe : ∀ c fs y μ', kx y c fs → Plain fs → posx a z y μ' → S.qx c fs μ') : AskG S (sgU args mem post posx m) ds μ Q :=
  ask_u a z (Split.all μ) hd hm h (fun r d μ' h1 h2 => by rw [List.append_nil]; exact q r d μ' h1 h2) fun c fs y μ' h1 h2 h3 => by rw [List.append_nil]; exact qe c fs y μ' h1 h2 h3
/-- a new instance, its memory -/
theorem new_u (a : A) (z : Addr → Z) (sp : Split μ a1 b1) (hd : ∀ x, .ref x :: ds = args a (z x)) (hm : ∀ x, mem a (z x) ((x, .ins C []) :: a1)) (h : m a k kx) (q : ∀ x r d μ', k r → post a (z x) r d μ' → d = .non ∧ Q (.ref x) (μ' ++ b1)) (qe : ∀ x c fs y μ', kx y c fs → Plain fs → posx a (z x) y μ' → S.qx c fs (μ' ++ b1)) :
    NewG S C (sgU args mem post posx m) ds μ Q :=
  ⟨a1, b1, sp, fun x _ => ⟨a, z x, k, kx, hd x, hm x, h, fun r d μ' h1 h2 => q x r d μ' h1 h2, fun c fs y μ' h1 h2 h3 => qe x c fs y μ' h1 h2 h3⟩⟩
end
end GL
namespace GL
open PySem L2 PySem.Spec PyProof.Rows
/-! ### names put together -/
theorem OkS.app {x y : Str} (h : OkS x) (k : OkS y) : OkS (x ++ y) := by
  refine OkS_of fun c hc => ?_
  have e1 : ∀ z : Str, OkS z → ∀ c ∈ cs z, c < 1114112 := fun z hz c hc => by
    have hz : z.cps.all (· < 0x110000) = true := hz
    rw [← Array.all_toList] at hz
    exact of_decide_eq_true (List.all_eq_true.mp hz c hc)
  rw [cs_app] at hc
  rcases List.mem_append.mp hc with hc | hc
  · exact e1 x h c hc
  · exact e1 y k c hc
theorem b_str : bootBuiltins "str" = some (.type "str") := by decide +kernel
def nmE : Nm := ⟨"", by decide +kernel⟩
def nmApp (a b : Nm) : Nm := if h : a.1.length + b.1.length ≤ 1000 then ⟨a.1 ++ b.1, a.2.1.app b.2.1, by rw [str_app_len]; exact h⟩ else nmE
theorem int_txt : ∀ n : Fin 100, OkS (toString ((n.val : Nat) : Int)) ∧ (toString ((n.val : Nat) : Int) : Str).length ≤ 1000 := by decide +kernel
def nmInt (i : Int) : Nm := if h : 0 ≤ i ∧ i < 100 then ⟨toString i, by
  have := int_txt ⟨i.toNat, by omega⟩
  rw [show ((i.toNat : Nat) : Int) = i by omega] at this
  exact this⟩ else nmE
section
variable {X : Cx} {S : Sg} {μ : Mem} {Q : QD}
theorem op_addNm (a b : Nm) (h : a.1.length + b.1.length ≤ 1000) (k : Q (rp (nmApp a b)) μ) : OpG X S (binaryOp .Add) (rp a) (rp b) μ Q := by
  refine og_addS (by omega) ?_
  have e : rp (nmApp a b) = .str (a.1 ++ b.1) := by
    unfold nmApp
    rw [dif_pos h]
    rfl
  rw [← e]
  exact k
theorem c_strI {i : Int} (h : 0 ≤ i ∧ i < 100) (k : Q (rp (nmInt i)) μ) : CallG X S (.type "str") [.int i] μ Q := fun F N H xs r rq => by
  obtain ⟨v, rfl, rv⟩ := rq.one
  cases rv
  have hz : i.natAbs.log2 < 1920 := by
    have h1 : i.natAbs < 100 := by omega
    by_cases h0 : i.natAbs = 0
    · rw [h0]; decide
    · have := Nat.log2_lt (n := i.natAbs) (k := 1920) h0
      exact this.mpr (Nat.lt_of_lt_of_le h1 (Nat.le_trans (show 100 ≤ 2 ^ 7 by decide) (Nat.pow_le_pow_right (by decide) (by decide))))
  refine cp_of call_str_int ⟨i, rfl, hz, _, μ, r, .str _, ?_⟩
  have e : rp (nmInt i) = .str (toString i) := by
    unfold nmInt
    rw [dif_pos h]
    rfl
  rw [← e]
  exact k
theorem c_minI {i j : Int} (k : Q (.int (min i j)) μ) (hc : X.calm = true := by rfl) : CallG X S (.builtin "min") [.int i, .int j] μ Q := fun F N H xs r rq => by
  cases rq with
  | cons h1 t =>
  cases t with
  | cons h2 t =>
  cases t
  cases h1
  cases h2
  refine cp_of (call_min2 hc) ⟨i, j, rfl, _, μ, r, .int _, ?_⟩
  have e : (if j < i then j else i) = min i j := by
    by_cases h : j < i
    · rw [if_pos h]; omega
    · rw [if_neg h]; omega
  rw [e]
  exact k
theorem b_min : bootBuiltins "min" = some (.builtin "min") := by decide +kernel
/-- displays of integers -/
def intsOf : List Expr → Option (List Int)
  | [] => some []
  | .Constant (.int i) _ _ :: es => (intsOf es).map (i :: ·)
  | _ => none
theorem ea_ints {Γ : Gm} : ∀ {es : List Expr} {ns : List Int} {R : List D → Mem → Prop}, intsOf es = some ns → R (ns.map D.int) μ → EvA X S es Γ μ R
  | [], ns, R, h, k => by
    cases h
    exact ea_nil k
  | .Constant (.int i) j p :: es, ns, R, h, k => by
    unfold intsOf at h
    obtain ⟨ms, h1, h2⟩ := Option.map_eq_some_iff.mp h
    subst h2
    exact ea_cons (ev_int (ea_ints h1 k)) (star_cs rfl)
theorem ev_lstI {Γ : Gm} {es : List Expr} {pos : Pos} (ns : List Int) (k : Q (rp ns) μ) (h : intsOf es = some ns := by rfl) (hn : Nat.ble ns.length 1000 = true := by rfl) : EvG X S (.List es pos) Γ μ Q :=
  ev_lst (ea_ints h ⟨by rw [List.length_map]; have := Nat.le_of_ble_eq_true hn; omega, k⟩)
end
end GL
namespace K06
open PySem L2 GL
/-! the text by places -/
def top (i : Nat) : Stmt := PySem.Challenge.pw_soundyard_k06_steps_of_a_kind.main.body.getD i (.Pass ⟨0, 0, 0, 0⟩)
abbrev s_wall : Stmt := top 0
abbrev s_Steps_init : Stmt := inClass (top 7) 0
abbrev s_Steps_standings : Stmt := inClass (top 7) 1
abbrev s_Steps_allow : Stmt := inClass (top 7) 2
abbrev s_Steps_steps_from : Stmt := inClass (top 7) 3
abbrev s_Doors_init : Stmt := inClass (top 8) 0
abbrev s_Part_init : Stmt := inClass (top 10) 0
abbrev s_law_pool : Stmt := top 14
abbrev s_law_take : Stmt := top 15
abbrev s_law_base : Stmt := top 16
abbrev s_law_name : Stmt := top 17
abbrev s_law_is_tuple : Stmt := top 18
abbrev s_law_made : Stmt := top 19
abbrev s_law_repeated : Stmt := top 20
abbrev s_law_allowed : Stmt := top 21
abbrev s_law_steps : Stmt := top 22
abbrev s_law_due : Stmt := top 23
abbrev s_law_agrees : Stmt := top 24
abbrev s_law : Stmt := top 25
abbrev s_Repeated_init : Stmt := inClass (top 3) 0
abbrev s_Unknown_init : Stmt := inClass (top 4) 0
abbrev s_NoStep_init : Stmt := inClass (top 5) 0
/-! where things stand -/
structure Ad where
  C_Steps : Addr
  C_Doors : Addr
  C_Part : Addr
  C_Single : Addr
  C_Many : Addr
  C_Repeated : Addr
  C_Unknown : Addr
  C_NoStep : Addr
  f_Repeated_init : Addr
  fd_Repeated_init : FuncData
  cda_Repeated_init : Addr
  cc_Repeated_init : Addr
  f_Unknown_init : Addr
  fd_Unknown_init : FuncData
  cda_Unknown_init : Addr
  cc_Unknown_init : Addr
  f_NoStep_init : Addr
  fd_NoStep_init : FuncData
  cda_NoStep_init : Addr
  cc_NoStep_init : Addr
  f_wall : Addr
  fd_wall : FuncData
  f_Steps_init : Addr
  fd_Steps_init : FuncData
  f_Steps_standings : Addr
  fd_Steps_standings : FuncData
  f_Steps_allow : Addr
  fd_Steps_allow : FuncData
  f_Steps_steps_from : Addr
  fd_Steps_steps_from : FuncData
  f_Doors_init : Addr
  fd_Doors_init : FuncData
  f_Part_init : Addr
  fd_Part_init : FuncData
  f_law_pool : Addr
  fd_law_pool : FuncData
  f_law_take : Addr
  fd_law_take : FuncData
  f_law_base : Addr
  fd_law_base : FuncData
  f_law_name : Addr
  fd_law_name : FuncData
  f_law_is_tuple : Addr
  fd_law_is_tuple : FuncData
  f_law_made : Addr
  fd_law_made : FuncData
  f_law_repeated : Addr
  fd_law_repeated : FuncData
  f_law_allowed : Addr
  fd_law_allowed : FuncData
  f_law_steps : Addr
  fd_law_steps : FuncData
  f_law_due : Addr
  fd_law_due : FuncData
  f_law_agrees : Addr
  fd_law_agrees : FuncData
  f_law : Addr
  fd_law : FuncData
/-- what the top has written -/
structure Tx (P : Program) (K : PySem.W.Frag) (mg : Str → Option Value) (a : Ad) : Prop where
  cl_Steps : Cls K a.C_Steps
  is_Steps : IsC K a.C_Steps
  mk_Steps : Mk K a.C_Steps a.f_Steps_init
  mgC_Steps : mg "Steps" = some (.ref a.C_Steps)
  sf_Steps : PySem.W.selfFirst K a.C_Steps = true
  nf_Steps : PySem.W.notFirst K a.C_Steps (.ref a.C_Steps) = true
  nfl_Steps : PySem.W.notFirst K a.C_Steps (.type "list") = true
  ki_Steps : PySem.W.kitOne K (.ref a.C_Steps) (.ref a.C_Steps) = some true
  kl_Steps : PySem.W.kitOne K (.type "list") (.ref a.C_Steps) = some false
  na_Steps_order : NoAttr K a.C_Steps "order"
  na_Steps_leads : NoAttr K a.C_Steps "leads"
  cl_Doors : Cls K a.C_Doors
  is_Doors : IsC K a.C_Doors
  mk_Doors : Mk K a.C_Doors a.f_Doors_init
  mgC_Doors : mg "Doors" = some (.ref a.C_Doors)
  sf_Doors : PySem.W.selfFirst K a.C_Doors = true
  nf_Doors : PySem.W.notFirst K a.C_Doors (.ref a.C_Doors) = true
  nfl_Doors : PySem.W.notFirst K a.C_Doors (.type "list") = true
  ki_Doors : PySem.W.kitOne K (.ref a.C_Doors) (.ref a.C_Doors) = some true
  kl_Doors : PySem.W.kitOne K (.type "list") (.ref a.C_Doors) = some false
  na_Doors_rows : NoAttr K a.C_Doors "rows"
  na_Doors_doors : NoAttr K a.C_Doors "doors"
  cl_Part : Cls K a.C_Part
  is_Part : IsC K a.C_Part
  mk_Part : Mk K a.C_Part a.f_Part_init
  mgC_Part : mg "Part" = some (.ref a.C_Part)
  sf_Part : PySem.W.selfFirst K a.C_Part = true
  nf_Part : PySem.W.notFirst K a.C_Part (.ref a.C_Part) = true
  nfl_Part : PySem.W.notFirst K a.C_Part (.type "list") = true
  ki_Part : PySem.W.kitOne K (.ref a.C_Part) (.ref a.C_Part) = some true
  kl_Part : PySem.W.kitOne K (.type "list") (.ref a.C_Part) = some false
  na_Part_rows : NoAttr K a.C_Part "rows"
  na_Part_doors : NoAttr K a.C_Part "doors"
  na_Part_order : NoAttr K a.C_Part "order"
  na_Part_leads : NoAttr K a.C_Part "leads"
  na_Part_name : NoAttr K a.C_Part "name"
  cl_Single : Cls K a.C_Single
  is_Single : IsC K a.C_Single
  mk_Single : Mk K a.C_Single a.f_Part_init
  mgC_Single : mg "Single" = some (.ref a.C_Single)
  sf_Single : PySem.W.selfFirst K a.C_Single = true
  nf_Single : PySem.W.notFirst K a.C_Single (.ref a.C_Single) = true
  nfl_Single : PySem.W.notFirst K a.C_Single (.type "list") = true
  ki_Single : PySem.W.kitOne K (.ref a.C_Single) (.ref a.C_Single) = some true
  kl_Single : PySem.W.kitOne K (.type "list") (.ref a.C_Single) = some false
  na_Single_rows : NoAttr K a.C_Single "rows"
  na_Single_doors : NoAttr K a.C_Single "doors"
  na_Single_order : NoAttr K a.C_Single "order"
  na_Single_leads : NoAttr K a.C_Single "leads"
  na_Single_name : NoAttr K a.C_Single "name"
  cl_Many : Cls K a.C_Many
  is_Many : IsC K a.C_Many
  mk_Many : Mk K a.C_Many a.f_Part_init
  mgC_Many : mg "Many" = some (.ref a.C_Many)
  sf_Many : PySem.W.selfFirst K a.C_Many = true
  nf_Many : PySem.W.notFirst K a.C_Many (.ref a.C_Many) = true
  nfl_Many : PySem.W.notFirst K a.C_Many (.type "list") = true
  ki_Many : PySem.W.kitOne K (.ref a.C_Many) (.ref a.C_Many) = some true
  kl_Many : PySem.W.kitOne K (.type "list") (.ref a.C_Many) = some false
  na_Many_rows : NoAttr K a.C_Many "rows"
  na_Many_doors : NoAttr K a.C_Many "doors"
  na_Many_order : NoAttr K a.C_Many "order"
  na_Many_leads : NoAttr K a.C_Many "leads"
  na_Many_name : NoAttr K a.C_Many "name"
  ec_Repeated : ExcCls K a.C_Repeated
  mgC_Repeated : mg "Repeated" = some (.ref a.C_Repeated)
  xf_Repeated : XfC K a.C_Repeated
  na_Repeated_name : PySem.W.findIn K (.ref a.C_Repeated) "name" = some none
  ex_Repeated_Repeated : PySem.W.exmOne K (.ref a.C_Repeated) (.ref a.C_Repeated) = some true
  ex_Repeated_Unknown : PySem.W.exmOne K (.ref a.C_Repeated) (.ref a.C_Unknown) = some false
  ex_Repeated_NoStep : PySem.W.exmOne K (.ref a.C_Repeated) (.ref a.C_NoStep) = some false
  ec_Unknown : ExcCls K a.C_Unknown
  mgC_Unknown : mg "Unknown" = some (.ref a.C_Unknown)
  xf_Unknown : XfC K a.C_Unknown
  na_Unknown_name : PySem.W.findIn K (.ref a.C_Unknown) "name" = some none
  ex_Unknown_Repeated : PySem.W.exmOne K (.ref a.C_Unknown) (.ref a.C_Repeated) = some false
  ex_Unknown_Unknown : PySem.W.exmOne K (.ref a.C_Unknown) (.ref a.C_Unknown) = some true
  ex_Unknown_NoStep : PySem.W.exmOne K (.ref a.C_Unknown) (.ref a.C_NoStep) = some false
  ec_NoStep : ExcCls K a.C_NoStep
  mgC_NoStep : mg "NoStep" = some (.ref a.C_NoStep)
  xf_NoStep : XfC K a.C_NoStep
  na_NoStep_before : PySem.W.findIn K (.ref a.C_NoStep) "before" = some none
  na_NoStep_after : PySem.W.findIn K (.ref a.C_NoStep) "after" = some none
  ex_NoStep_Repeated : PySem.W.exmOne K (.ref a.C_NoStep) (.ref a.C_Repeated) = some false
  ex_NoStep_Unknown : PySem.W.exmOne K (.ref a.C_NoStep) (.ref a.C_Unknown) = some false
  ex_NoStep_NoStep : PySem.W.exmOne K (.ref a.C_NoStep) (.ref a.C_NoStep) = some true
  F_Repeated_init : FunS P K "__init__" "Repeated.__init__" (defArgs s_Repeated_init) (defBody s_Repeated_init) (defScope s_Repeated_init) a.f_Repeated_init a.fd_Repeated_init a.C_Repeated a.cda_Repeated_init a.cc_Repeated_init
  b_Repeated_init : Binds K a.fd_Repeated_init ["self", "name"] []
  at_Repeated_init : PySem.W.findIn K (.ref a.C_Repeated) "__init__" = some (some (.ref a.f_Repeated_init))
  ti_Repeated_init : PySem.W.typeIn K (.ref a.f_Repeated_init) = some (.type "function")
  F_Unknown_init : FunS P K "__init__" "Unknown.__init__" (defArgs s_Unknown_init) (defBody s_Unknown_init) (defScope s_Unknown_init) a.f_Unknown_init a.fd_Unknown_init a.C_Unknown a.cda_Unknown_init a.cc_Unknown_init
  b_Unknown_init : Binds K a.fd_Unknown_init ["self", "name"] []
  at_Unknown_init : PySem.W.findIn K (.ref a.C_Unknown) "__init__" = some (some (.ref a.f_Unknown_init))
  ti_Unknown_init : PySem.W.typeIn K (.ref a.f_Unknown_init) = some (.type "function")
  F_NoStep_init : FunS P K "__init__" "NoStep.__init__" (defArgs s_NoStep_init) (defBody s_NoStep_init) (defScope s_NoStep_init) a.f_NoStep_init a.fd_NoStep_init a.C_NoStep a.cda_NoStep_init a.cc_NoStep_init
  b_NoStep_init : Binds K a.fd_NoStep_init ["self", "before", "after"] []
  at_NoStep_init : PySem.W.findIn K (.ref a.C_NoStep) "__init__" = some (some (.ref a.f_NoStep_init))
  ti_NoStep_init : PySem.W.typeIn K (.ref a.f_NoStep_init) = some (.type "function")
  F_wall : FunD K "_wall" "_wall" (defArgs s_wall) (defBody s_wall) (defScope s_wall) [] [] a.f_wall a.fd_wall
  b_wall : Binds K a.fd_wall ["k"] []
  mg_wall : mg "_wall" = some (.ref a.f_wall)
  F_Steps_init : FunD K "__init__" "Steps.__init__" (defArgs s_Steps_init) (defBody s_Steps_init) (defScope s_Steps_init) [] [] a.f_Steps_init a.fd_Steps_init
  b_Steps_init : Binds K a.fd_Steps_init ["self", "standings"] []
  at_Steps_init : PySem.W.findIn K (.ref a.C_Steps) "__init__" = some (some (.ref a.f_Steps_init))
  fn_Steps_init : PySem.W.isFn K (.ref a.f_Steps_init) = true
  F_Steps_standings : FunD K "standings" "Steps.standings" (defArgs s_Steps_standings) (defBody s_Steps_standings) (defScope s_Steps_standings) [] [] a.f_Steps_standings a.fd_Steps_standings
  b_Steps_standings : Binds K a.fd_Steps_standings ["self"] []
  at_Steps_standings : PySem.W.findIn K (.ref a.C_Steps) "standings" = some (some (.ref a.f_Steps_standings))
  fn_Steps_standings : PySem.W.isFn K (.ref a.f_Steps_standings) = true
  F_Steps_allow : FunD K "allow" "Steps.allow" (defArgs s_Steps_allow) (defBody s_Steps_allow) (defScope s_Steps_allow) [] [] a.f_Steps_allow a.fd_Steps_allow
  b_Steps_allow : Binds K a.fd_Steps_allow ["self", "before", "after"] []
  at_Steps_allow : PySem.W.findIn K (.ref a.C_Steps) "allow" = some (some (.ref a.f_Steps_allow))
  fn_Steps_allow : PySem.W.isFn K (.ref a.f_Steps_allow) = true
  F_Steps_steps_from : FunD K "steps_from" "Steps.steps_from" (defArgs s_Steps_steps_from) (defBody s_Steps_steps_from) (defScope s_Steps_steps_from) [] [] a.f_Steps_steps_from a.fd_Steps_steps_from
  b_Steps_steps_from : Binds K a.fd_Steps_steps_from ["self", "standing"] []
  at_Steps_steps_from : PySem.W.findIn K (.ref a.C_Steps) "steps_from" = some (some (.ref a.f_Steps_steps_from))
  fn_Steps_steps_from : PySem.W.isFn K (.ref a.f_Steps_steps_from) = true
  F_Doors_init : FunD K "__init__" "Doors.__init__" (defArgs s_Doors_init) (defBody s_Doors_init) (defScope s_Doors_init) [] [] a.f_Doors_init a.fd_Doors_init
  b_Doors_init : Binds K a.fd_Doors_init ["self", "standings"] []
  at_Doors_init : PySem.W.findIn K (.ref a.C_Doors) "__init__" = some (some (.ref a.f_Doors_init))
  fn_Doors_init : PySem.W.isFn K (.ref a.f_Doors_init) = true
  F_Part_init : FunD K "__init__" "Part.__init__" (defArgs s_Part_init) (defBody s_Part_init) (defScope s_Part_init) [] [] a.f_Part_init a.fd_Part_init
  b_Part_init : Binds K a.fd_Part_init ["self", "name", "standings"] []
  at_Part_init : PySem.W.findIn K (.ref a.C_Part) "__init__" = some (some (.ref a.f_Part_init))
  fn_Part_init : PySem.W.isFn K (.ref a.f_Part_init) = true
  F_law_pool : FunD K "_law_pool" "_law_pool" (defArgs s_law_pool) (defBody s_law_pool) (defScope s_law_pool) [] [] a.f_law_pool a.fd_law_pool
  b_law_pool : Binds K a.fd_law_pool ["_law_script"] []
  mg_law_pool : mg "_law_pool" = some (.ref a.f_law_pool)
  F_law_take : FunD K "_law_take" "_law_take" (defArgs s_law_take) (defBody s_law_take) (defScope s_law_take) [] [] a.f_law_take a.fd_law_take
  b_law_take : Binds K a.fd_law_take ["_law_pool_here", "_law_size"] []
  mg_law_take : mg "_law_take" = some (.ref a.f_law_take)
  F_law_base : FunD K "_law_base" "_law_base" (defArgs s_law_base) (defBody s_law_base) (defScope s_law_base) [] [] a.f_law_base a.fd_law_base
  b_law_base : Binds K a.fd_law_base ["_law_pool_here"] []
  mg_law_base : mg "_law_base" = some (.ref a.f_law_base)
  F_law_name : FunD K "_law_name" "_law_name" (defArgs s_law_name) (defBody s_law_name) (defScope s_law_name) [] [] a.f_law_name a.fd_law_name
  b_law_name : Binds K a.fd_law_name ["_law_pool_here", "_law_base_here", "_law_k"] []
  mg_law_name : mg "_law_name" = some (.ref a.f_law_name)
  F_law_is_tuple : FunD K "_law_is_tuple" "_law_is_tuple" (defArgs s_law_is_tuple) (defBody s_law_is_tuple) (defScope s_law_is_tuple) [] [] a.f_law_is_tuple a.fd_law_is_tuple
  b_law_is_tuple : Binds K a.fd_law_is_tuple ["_law_actual", "_law_expected"] []
  mg_law_is_tuple : mg "_law_is_tuple" = some (.ref a.f_law_is_tuple)
  F_law_made : FunD K "_law_made" "_law_made" (defArgs s_law_made) (defBody s_law_made) (defScope s_law_made) [] [] a.f_law_made a.fd_law_made
  b_law_made : Binds K a.fd_law_made ["_law_k", "_law_name_here", "_law_standings"] []
  mg_law_made : mg "_law_made" = some (.ref a.f_law_made)
  F_law_repeated : FunD K "_law_repeated" "_law_repeated" (defArgs s_law_repeated) (defBody s_law_repeated) (defScope s_law_repeated) [] [] a.f_law_repeated a.fd_law_repeated
  b_law_repeated : Binds K a.fd_law_repeated ["_law_k", "_law_name_here", "_law_standings"] []
  mg_law_repeated : mg "_law_repeated" = some (.ref a.f_law_repeated)
  F_law_allowed : FunD K "_law_allowed" "_law_allowed" (defArgs s_law_allowed) (defBody s_law_allowed) (defScope s_law_allowed) [] [] a.f_law_allowed a.fd_law_allowed
  b_law_allowed : Binds K a.fd_law_allowed ["_law_part", "_law_before", "_law_after"] []
  mg_law_allowed : mg "_law_allowed" = some (.ref a.f_law_allowed)
  F_law_steps : FunD K "_law_steps" "_law_steps" (defArgs s_law_steps) (defBody s_law_steps) (defScope s_law_steps) [] [] a.f_law_steps a.fd_law_steps
  b_law_steps : Binds K a.fd_law_steps ["_law_part", "_law_standing"] []
  mg_law_steps : mg "_law_steps" = some (.ref a.f_law_steps)
  F_law_due : FunD K "_law_due" "_law_due" (defArgs s_law_due) (defBody s_law_due) (defScope s_law_due) [] [] a.f_law_due a.fd_law_due
  b_law_due : Binds K a.fd_law_due ["_law_standings", "_law_before", "_law_after"] []
  mg_law_due : mg "_law_due" = some (.ref a.f_law_due)
  F_law_agrees : FunD K "_law_agrees" "_law_agrees" (defArgs s_law_agrees) (defBody s_law_agrees) (defScope s_law_agrees) [] [] a.f_law_agrees a.fd_law_agrees
  b_law_agrees : Binds K a.fd_law_agrees ["_law_part", "_law_standings", "_law_steps_here", "_law_strange"] []
  mg_law_agrees : mg "_law_agrees" = some (.ref a.f_law_agrees)
  F_law : FunD K "law" "law" (defArgs s_law) (defBody s_law) (defScope s_law) [] [] a.f_law a.fd_law
  b_law : Binds K a.fd_law ["_law_script"] []
  mg_law : mg "law" = some (.ref a.f_law)
  at_Part_standings : PySem.W.findIn K (.ref a.C_Part) "standings" = some (some (.ref a.f_Steps_standings))
  at_Part_allow : PySem.W.findIn K (.ref a.C_Part) "allow" = some (some (.ref a.f_Steps_allow))
  at_Part_steps_from : PySem.W.findIn K (.ref a.C_Part) "steps_from" = some (some (.ref a.f_Steps_steps_from))
  at_Single_init : PySem.W.findIn K (.ref a.C_Single) "__init__" = some (some (.ref a.f_Part_init))
  at_Single_standings : PySem.W.findIn K (.ref a.C_Single) "standings" = some (some (.ref a.f_Steps_standings))
  at_Single_allow : PySem.W.findIn K (.ref a.C_Single) "allow" = some (some (.ref a.f_Steps_allow))
  at_Single_steps_from : PySem.W.findIn K (.ref a.C_Single) "steps_from" = some (some (.ref a.f_Steps_steps_from))
  at_Many_init : PySem.W.findIn K (.ref a.C_Many) "__init__" = some (some (.ref a.f_Part_init))
  at_Many_standings : PySem.W.findIn K (.ref a.C_Many) "standings" = some (some (.ref a.f_Steps_standings))
  at_Many_allow : PySem.W.findIn K (.ref a.C_Many) "allow" = some (some (.ref a.f_Steps_allow))
  at_Many_steps_from : PySem.W.findIn K (.ref a.C_Many) "steps_from" = some (some (.ref a.f_Steps_steps_from))
  of_Steps_init : ClX.CVal K a.C_Steps (.type "type") "__init__" (.ref a.f_Steps_init) (.ref a.f_Steps_init)
  cd_Steps : ClX.CRead K a.C_Steps (.type "type")
  of_Doors_init : ClX.CVal K a.C_Doors (.type "type") "__init__" (.ref a.f_Doors_init) (.ref a.f_Doors_init)
  cd_Doors : ClX.CRead K a.C_Doors (.type "type")
  z_len : mg "len" = none
  z_list : mg "list" = none
  z_tuple : mg "tuple" = none
  z_int : mg "int" = none
  z_range : mg "range" = none
  z_isinstance : mg "isinstance" = none
  z_iter : mg "iter" = none
  z_min : mg "min" = none
  z_str : mg "str" = none
  z_super : mg "super" = none
  z_ValueError : mg "ValueError" = none
abbrev N_wall : List Str := ["k"]
theorem sc_wall : FnScope ["k"] ["k"] (defScope s_wall) := ⟨rfl, rfl, rfl, by decide +kernel, rfl, by decide +kernel, by decide +kernel⟩
abbrev N_Steps_init : List Str := ["self", "standings", "standing"]
theorem sc_Steps_init : FnScope ["self", "standings", "standing"] ["self", "standings"] (defScope s_Steps_init) := ⟨rfl, rfl, rfl, by decide +kernel, rfl, by decide +kernel, by decide +kernel⟩
abbrev N_Steps_standings : List Str := ["self"]
theorem sc_Steps_standings : FnScope ["self"] ["self"] (defScope s_Steps_standings) := ⟨rfl, rfl, rfl, by decide +kernel, rfl, by decide +kernel, by decide +kernel⟩
abbrev N_Steps_allow : List Str := ["self", "before", "after", "standing"]
theorem sc_Steps_allow : FnScope ["self", "before", "after", "standing"] ["self", "before", "after"] (defScope s_Steps_allow) := ⟨rfl, rfl, rfl, by decide +kernel, rfl, by decide +kernel, by decide +kernel⟩
abbrev N_Steps_steps_from : List Str := ["self", "standing", "after"]
theorem sc_Steps_steps_from : FnScope ["self", "standing", "after"] ["self", "standing"] (defScope s_Steps_steps_from) := ⟨rfl, rfl, rfl, by decide +kernel, rfl, by decide +kernel, by decide +kernel⟩
abbrev N_Doors_init : List Str := ["self", "standings", "standing"]
theorem sc_Doors_init : FnScope ["self", "standings", "standing"] ["self", "standings"] (defScope s_Doors_init) := ⟨rfl, rfl, rfl, by decide +kernel, rfl, by decide +kernel, by decide +kernel⟩
abbrev N_Part_init : List Str := ["self", "name", "standings"]
theorem sc_Part_init : FnScope ["self", "name", "standings"] ["self", "name", "standings"] (defScope s_Part_init) := ⟨rfl, rfl, rfl, by decide +kernel, rfl, by decide +kernel, by decide +kernel⟩
abbrev N_law_pool : List Str := ["_law_script", "_law_cell"]
theorem sc_law_pool : FnScope ["_law_script", "_law_cell"] ["_law_script"] (defScope s_law_pool) := ⟨rfl, rfl, rfl, by decide +kernel, rfl, by decide +kernel, by decide +kernel⟩
abbrev N_law_take : List Str := ["_law_pool_here", "_law_size", "_law_value", "_law_cells"]
theorem sc_law_take : FnScope ["_law_pool_here", "_law_size", "_law_value", "_law_cells"] ["_law_pool_here", "_law_size"] (defScope s_law_take) := ⟨rfl, rfl, rfl, by decide +kernel, rfl, by decide +kernel, by decide +kernel⟩
abbrev N_law_base : List Str := ["_law_pool_here", "_law_signs", "_law_k"]
theorem sc_law_base : FnScope ["_law_pool_here", "_law_signs", "_law_k"] ["_law_pool_here"] (defScope s_law_base) := ⟨rfl, rfl, rfl, by decide +kernel, rfl, by decide +kernel, by decide +kernel⟩
abbrev N_law_name : List Str := ["_law_pool_here", "_law_base_here", "_law_k", "_law_text", "_law_at"]
theorem sc_law_name : FnScope ["_law_pool_here", "_law_base_here", "_law_k", "_law_text", "_law_at"] ["_law_pool_here", "_law_base_here", "_law_k"] (defScope s_law_name) := ⟨rfl, rfl, rfl, by decide +kernel, rfl, by decide +kernel, by decide +kernel⟩
abbrev N_law_is_tuple : List Str := ["_law_actual", "_law_expected"]
theorem sc_law_is_tuple : FnScope ["_law_actual", "_law_expected"] ["_law_actual", "_law_expected"] (defScope s_law_is_tuple) := ⟨rfl, rfl, rfl, by decide +kernel, rfl, by decide +kernel, by decide +kernel⟩
abbrev N_law_made : List Str := ["_law_k", "_law_name_here", "_law_standings"]
theorem sc_law_made : FnScope ["_law_k", "_law_name_here", "_law_standings"] ["_law_k", "_law_name_here", "_law_standings"] (defScope s_law_made) := ⟨rfl, rfl, rfl, by decide +kernel, rfl, by decide +kernel, by decide +kernel⟩
abbrev N_law_repeated : List Str := ["_law_k", "_law_name_here", "_law_standings", "e"]
theorem sc_law_repeated : FnScope ["_law_k", "_law_name_here", "_law_standings", "e"] ["_law_k", "_law_name_here", "_law_standings"] (defScope s_law_repeated) := ⟨rfl, rfl, rfl, by decide +kernel, rfl, by decide +kernel, by decide +kernel⟩
abbrev N_law_allowed : List Str := ["_law_part", "_law_before", "_law_after", "e"]
theorem sc_law_allowed : FnScope ["_law_part", "_law_before", "_law_after", "e"] ["_law_part", "_law_before", "_law_after"] (defScope s_law_allowed) := ⟨rfl, rfl, rfl, by decide +kernel, rfl, by decide +kernel, by decide +kernel⟩
abbrev N_law_steps : List Str := ["_law_part", "_law_standing", "e"]
theorem sc_law_steps : FnScope ["_law_part", "_law_standing", "e"] ["_law_part", "_law_standing"] (defScope s_law_steps) := ⟨rfl, rfl, rfl, by decide +kernel, rfl, by decide +kernel, by decide +kernel⟩
abbrev N_law_due : List Str := ["_law_standings", "_law_before", "_law_after", "_law_name_here"]
theorem sc_law_due : FnScope ["_law_standings", "_law_before", "_law_after", "_law_name_here"] ["_law_standings", "_law_before", "_law_after"] (defScope s_law_due) := ⟨rfl, rfl, rfl, by decide +kernel, rfl, by decide +kernel, by decide +kernel⟩
abbrev N_law_agrees : List Str := ["_law_part", "_law_standings", "_law_steps_here", "_law_strange", "_law_standing", "_law_due_here", "_law_after"]
theorem sc_law_agrees : FnScope ["_law_part", "_law_standings", "_law_steps_here", "_law_strange", "_law_standing", "_law_due_here", "_law_after"] ["_law_part", "_law_standings", "_law_steps_here", "_law_strange"] (defScope s_law_agrees) := ⟨rfl, rfl, rfl, by decide +kernel, rfl, by decide +kernel, by decide +kernel⟩
abbrev N_law : List Str := ["_law_script", "_law_pool_here", "_law_base_here", "_law_kind", "_law_size", "_law_names", "_law_k", "_law_standings", "_law_given", "_law_part", "_law_steps_here", "_law_before", "_law_after", "_law_due_here", "_law_at", "_law_twice", "_law_wrong"]
theorem sc_law : FnScope ["_law_script", "_law_pool_here", "_law_base_here", "_law_kind", "_law_size", "_law_names", "_law_k", "_law_standings", "_law_given", "_law_part", "_law_steps_here", "_law_before", "_law_after", "_law_due_here", "_law_at", "_law_twice", "_law_wrong"] ["_law_script"] (defScope s_law) := ⟨rfl, rfl, rfl, by decide +kernel, rfl, by decide +kernel, by decide +kernel⟩
abbrev N_Repeated_init : List Str := ["self", "name"]
theorem sc_Repeated_init : FnScopeS ["self", "name"] ["self", "name"] (defScope s_Repeated_init) := ⟨rfl, rfl, rfl, by decide +kernel, rfl, by decide +kernel, by decide +kernel, free_only (by decide +kernel), rfl, rfl⟩
abbrev N_Unknown_init : List Str := ["self", "name"]
theorem sc_Unknown_init : FnScopeS ["self", "name"] ["self", "name"] (defScope s_Unknown_init) := ⟨rfl, rfl, rfl, by decide +kernel, rfl, by decide +kernel, by decide +kernel, free_only (by decide +kernel), rfl, rfl⟩
abbrev N_NoStep_init : List Str := ["self", "before", "after"]
theorem sc_NoStep_init : FnScopeS ["self", "before", "after"] ["self", "before", "after"] (defScope s_NoStep_init) := ⟨rfl, rfl, rfl, by decide +kernel, rfl, by decide +kernel, by decide +kernel, free_only (by decide +kernel), rfl, rfl⟩
section
variable {P : Program} {w : World} {K : PySem.W.Frag} {mg : Str → Option Value} {base : Heap} {a : Ad}
/-- law's: a list of at most 63 ints is handed in, True comes out -/
def spLaw (K : PySem.W.Frag) : Sp := fun vs H Q _ => ∃ (a : Addr) (ns : List Int), vs = [.ref a] ∧ SqL K H a (ns.map V.int) ∧ ns.length ≤ 63 ∧ ∀ H', Q (.bl true) H'
abbrev sgK (K : PySem.W.Frag) (a : Ad) : Sg0 := ⟨K, fun n => match n with | 9 => a.C_Repeated | 10 => a.C_Unknown | 11 => a.C_NoStep | _ => 0, fun n => match n with | 9 => ["name"] | 10 => ["name"] | 11 => ["after", "before"] | _ => []⟩
theorem nd_Repeated : (["name"] : List Str).Nodup := by decide +kernel
theorem ok_Repeated_init (T : Tx P K mg a) : FnOk P w K mg base CX0 1 a.f_Repeated_init a.fd_Repeated_init ["self", "name"] (spEx (sgK K a) 9 txts) := by
  refine exc_fn T.F_Repeated_init sc_Repeated_init T.ec_Repeated rfl rfl rfl T.z_super (fun vs H Q E h => ?_) (fun A outer s H vs Q E h => ?_)
  · obtain ⟨x, ws, rfl, hl, _⟩ := h
    exact congrArg (· + 1) hl
  · obtain ⟨x, ws, rfl, hl, hc, ea, q⟩ := h
    match ws, hl with
    | [v1], _ =>
    obtain ⟨z1, rfl, hz1⟩ := hc v1 (by simp)
    refine ⟨x, _, rfl, ea, ex_fj (fj_v 1 rfl hz1 (fj_c fj_nil)), ?_⟩
    refine bx_f1 T.ec_Repeated.T T.na_Repeated_name rfl (.inl rfl) rfl (ex_of (pe_var (i := 1) rfl (.inl rfl)) ⟨_, rfl, ea, fun d hn hne => ?_⟩)
    exact bx_of pss_nil (q d _ hn hne (spEx_end1 hne).1 (spEx_end1 hne).2.1 (spEx_end1 hne).2.2)
theorem ex_Repeated (T : Tx P K mg a) : ExcP P w K mg base (sgK K a) 9 a.f_Repeated_init a.fd_Repeated_init ["self", "name"] txts := ⟨T.ec_Repeated.T, T.at_Repeated_init, T.ti_Repeated_init, T.b_Repeated_init, ok_Repeated_init T⟩
theorem nd_Unknown : (["name"] : List Str).Nodup := by decide +kernel
theorem ok_Unknown_init (T : Tx P K mg a) : FnOk P w K mg base CX0 1 a.f_Unknown_init a.fd_Unknown_init ["self", "name"] (spEx (sgK K a) 10 txts) := by
  refine exc_fn T.F_Unknown_init sc_Unknown_init T.ec_Unknown rfl rfl rfl T.z_super (fun vs H Q E h => ?_) (fun A outer s H vs Q E h => ?_)
  · obtain ⟨x, ws, rfl, hl, _⟩ := h
    exact congrArg (· + 1) hl
  · obtain ⟨x, ws, rfl, hl, hc, ea, q⟩ := h
    match ws, hl with
    | [v1], _ =>
    obtain ⟨z1, rfl, hz1⟩ := hc v1 (by simp)
    refine ⟨x, _, rfl, ea, ex_fj (fj_v 1 rfl hz1 (fj_c fj_nil)), ?_⟩
    refine bx_f1 T.ec_Unknown.T T.na_Unknown_name rfl (.inl rfl) rfl (ex_of (pe_var (i := 1) rfl (.inl rfl)) ⟨_, rfl, ea, fun d hn hne => ?_⟩)
    exact bx_of pss_nil (q d _ hn hne (spEx_end1 hne).1 (spEx_end1 hne).2.1 (spEx_end1 hne).2.2)
theorem ex_Unknown (T : Tx P K mg a) : ExcP P w K mg base (sgK K a) 10 a.f_Unknown_init a.fd_Unknown_init ["self", "name"] txts := ⟨T.ec_Unknown.T, T.at_Unknown_init, T.ti_Unknown_init, T.b_Unknown_init, ok_Unknown_init T⟩
theorem nd_NoStep : (["after", "before"] : List Str).Nodup := by decide +kernel
theorem ok_NoStep_init (T : Tx P K mg a) : FnOk P w K mg base CX0 1 a.f_NoStep_init a.fd_NoStep_init ["self", "before", "after"] (spEx (sgK K a) 11 txts) := by
  refine exc_fn T.F_NoStep_init sc_NoStep_init T.ec_NoStep rfl rfl rfl T.z_super (fun vs H Q E h => ?_) (fun A outer s H vs Q E h => ?_)
  · obtain ⟨x, ws, rfl, hl, _⟩ := h
    exact congrArg (· + 1) hl
  · obtain ⟨x, ws, rfl, hl, hc, ea, q⟩ := h
    match ws, hl with
    | [v1, v2], _ =>
    obtain ⟨z1, rfl, hz1⟩ := hc v1 (by simp)
    obtain ⟨z2, rfl, hz2⟩ := hc v2 (by simp)
    refine ⟨x, _, rfl, ea, ex_fj (fj_c (fj_v 1 rfl hz1 (fj_c (fj_v 2 rfl hz2 fj_nil)))), ?_⟩
    refine bx_f1 T.ec_NoStep.T T.na_NoStep_before rfl (.inl rfl) rfl (ex_of (pe_var (i := 1) rfl (.inl rfl)) ⟨_, rfl, ea, fun d hn hne => ?_⟩)
    refine bx_f2 T.ec_NoStep.T T.na_NoStep_after rfl (.inl rfl) rfl (Nat.le_of_ble_eq_true rfl) (ex_of (pe_var (i := 2) rfl (.inl rfl)) ⟨_, rfl, (mid2 hne).1, (mid2 hne).2, ?_⟩)
    exact bx_of pss_nil (q d _ hn hne (spEx_end2 hne).1 (spEx_end2 hne).2.1 (spEx_end2 hne).2.2)
theorem ex_NoStep (T : Tx P K mg a) : ExcP P w K mg base (sgK K a) 11 a.f_NoStep_init a.fd_NoStep_init ["self", "before", "after"] txts := ⟨T.ec_NoStep.T, T.at_NoStep_init, T.ti_NoStep_init, T.b_NoStep_init, ok_NoStep_init T⟩
/-! ### kinds of parts in the memory, error ways too -/
def KSt (a : Ad) (C : Addr) : Prop := C = a.C_Steps ∨ C = a.C_Part ∨ C = a.C_Single ∨ C = a.C_Many
def KDr (a : Ad) (C : Addr) : Prop := C = a.C_Doors ∨ C = a.C_Part ∨ C = a.C_Single ∨ C = a.C_Many
def KPa (a : Ad) (C : Addr) : Prop := C = a.C_Part ∨ C = a.C_Single ∨ C = a.C_Many
theorem KPa.st {C : Addr} (h : KPa a C) : KSt a C := .inr h
theorem KPa.dr {C : Addr} (h : KPa a C) : KDr a C := .inr h
section
variable {C : Addr}
theorem clS (T : Tx P K mg a) (h : KSt a C) : Cls K C := by rcases h with rfl | rfl | rfl | rfl <;> first | exact T.cl_Steps | exact T.cl_Part | exact T.cl_Single | exact T.cl_Many
theorem naSo (T : Tx P K mg a) (h : KSt a C) : NoAttr K C "order" := by rcases h with rfl | rfl | rfl | rfl <;> first | exact T.na_Steps_order | exact T.na_Part_order | exact T.na_Single_order | exact T.na_Many_order
theorem naSl (T : Tx P K mg a) (h : KSt a C) : NoAttr K C "leads" := by rcases h with rfl | rfl | rfl | rfl <;> first | exact T.na_Steps_leads | exact T.na_Part_leads | exact T.na_Single_leads | exact T.na_Many_leads
theorem clD (T : Tx P K mg a) (h : KDr a C) : Cls K C := by rcases h with rfl | rfl | rfl | rfl <;> first | exact T.cl_Doors | exact T.cl_Part | exact T.cl_Single | exact T.cl_Many
theorem naDr (T : Tx P K mg a) (h : KDr a C) : NoAttr K C "rows" := by rcases h with rfl | rfl | rfl | rfl <;> first | exact T.na_Doors_rows | exact T.na_Part_rows | exact T.na_Single_rows | exact T.na_Many_rows
theorem naDd (T : Tx P K mg a) (h : KDr a C) : NoAttr K C "doors" := by rcases h with rfl | rfl | rfl | rfl <;> first | exact T.na_Doors_doors | exact T.na_Part_doors | exact T.na_Single_doors | exact T.na_Many_doors
theorem naPn (T : Tx P K mg a) (h : KPa a C) : NoAttr K C "name" := by rcases h with rfl | rfl | rfl <;> first | exact T.na_Part_name | exact T.na_Single_name | exact T.na_Many_name
end
theorem not_in_take {α : Type} {l : List α} (hn : l.Nodup) {i : Nat} {x : α} (h : l[i]? = some x) : x ∉ l.take i := fun z => by
  obtain ⟨j, hj⟩ := List.mem_iff_getElem?.mp z
  have h1 := at_lt hj
  rw [List.length_take] at h1
  rw [List.getElem?_take, if_pos (by omega)] at hj
  have := (List.getElem?_inj (show j < l.length by omega) hn).mp (hj.trans h.symm)
  omega
/-- the first one that occurred before -/
def dupS : List Nm → List Nm → Option Nm
  | [], _ => none
  | x :: l, s => if x ∈ s then some x else dupS l (s ++ [x])
theorem dupS_app : ∀ (l m s : List Nm), dupS (l ++ m) s = (dupS l s).or (dupS m (s ++ l))
  | [], m, s => by rw [List.append_nil]; rfl
  | x :: l, m, s => by
    rw [List.cons_append]
    show (if x ∈ s then _ else _) = Option.or (if x ∈ s then _ else _) _
    by_cases h : x ∈ s
    · rw [if_pos h, if_pos h]; rfl
    · rw [if_neg h, if_neg h, dupS_app l m (s ++ [x]), List.append_assoc]; rfl
theorem dupS_nd : ∀ {l s : List Nm}, s.Nodup → dupS l s = none → (s ++ l).Nodup
  | [], s, hs, _ => by rwa [List.append_nil]
  | x :: l, s, hs, h => by
    by_cases e : x ∈ s
    · rw [dupS, if_pos e] at h; cases h
    · rw [dupS, if_neg e] at h
      have hs' : (s ++ [x]).Nodup := List.nodup_append.mpr ⟨hs, by simp, fun u hu v hv => by rw [List.mem_singleton.mp hv]; exact fun z => e (z ▸ hu)⟩
      have := dupS_nd hs' h
      rwa [List.append_assoc] at this
theorem dupS_no {l : List Nm} (h : dupS l [] = none) : l.Nodup := dupS_nd (s := []) List.nodup_nil h
theorem dupS_of : ∀ {l s : List Nm}, (s ++ l).Nodup → dupS l s = none
  | [], _, _ => rfl
  | x :: l, s, h => by
    have hx : x ∉ s := fun z => (List.nodup_append.mp h).2.2 x z x List.mem_cons_self rfl
    rw [dupS, if_neg hx]
    refine dupS_of ?_
    rwa [List.append_assoc]
/-- the lists of a new kind -/
def nilM (ls : List Addr) : Mem := ls.map fun a => (a, M.lst [])
theorem nilM_ls : ∀ (ls : List Addr) (ll : List Nm), ls.length = ll.length → nilM ls = lsM ls (ll.map fun _ => [])
  | [], [], _ => rfl
  | [], _ :: _, h => by simp at h
  | _ :: _, [], h => by simp at h
  | a :: ls, l :: ll, h => by
    show (a, M.lst []) :: nilM ls = (a, M.lst []) :: lsM ls (ll.map fun _ => [])
    rw [nilM_ls ls ll (by simpa using h)]
theorem kvR_snoc {st : List Nm} {ls : List Addr} (y : Nm) (b : Addr) (h : st.length = ls.length) (hn : y ∉ st) : putKD (kvR st ls) (kN y) (.ref b) = kvR (st ++ [y]) (ls ++ [b]) := by
  have e := kvR_val (order := st) (ls := ls) y h
  unfold putKD
  have : ((kvR st ls).any fun kv => decide (kv.1 = kN y)) = false := by
    rw [List.any_eq_false]
    intro p hp
    rw [decide_eq_true_eq]
    intro z
    obtain ⟨q, hq⟩ : ∃ q, (kvR st ls).find? (fun kv => decide (kv.1 = kN y)) = some q := by
      cases e2 : (kvR st ls).find? fun kv => decide (kv.1 = kN y) with
      | some q => exact ⟨q, rfl⟩
      | none => exact absurd (decide_eq_true z) (List.find?_eq_none.mp e2 p hp)
    have hf : inb y st = true := by
      rw [← e]
      unfold valD
      rw [hq]
      rfl
    exact hn (inb_t.mp hf)
  rw [if_neg (by rw [this]; decide)]
  unfold kvR
  rw [List.map_append, List.map_append, List.zip_append (by simpa using h)]
  rfl
/-! ### Steps(standings) -/
structure KZ where
  C : Addr
  x : Addr
  dst : D
  μs : Mem
def m_Steps_init (st : List Nm) (k : Unit → Prop) (kx : Unit → KX) : Prop := st.length ≤ 1000000 ∧ (dupS st [] = none → k ()) ∧ ∀ c, dupS st [] = some c → kx () 9 [rp c]
abbrev sg_Steps_init (a : Ad) : SpG := sgU (A := List Nm) (Z := KZ) (ρ := Unit) (Y := Unit) (fun x z => [.ref z.x, z.dst]) (fun x z μ => KSt a z.C ∧ Drf z.μs z.dst (x.map rp) ∧ μ = (z.x, .ins z.C []) :: z.μs)
  (fun x z r d μ => d = .non ∧ ∃ o dd ls, ls.length = x.length ∧ μ = (z.x, .ins z.C [("order", .ref o), ("leads", .ref dd)]) :: (o, .lst (x.map rp)) :: (dd, .dK (kvR x ls)) :: (nilM ls ++ z.μs)) (fun x z y μ => μ = z.μs) (fun x k kx => m_Steps_init x k kx)
theorem ok_Steps_init (T : Tx P K mg a) : FnOk P w K mg base (L2.CX P w) 3 a.f_Steps_init a.fd_Steps_init ["self", "standings"] (spG (sgK K a) (sg_Steps_init a)) := by
  refine fundU T.F_Steps_init sc_Steps_init (fun _ _ => rfl) (fun cdv A outer s H E st z μ k kx hr tk hm h => ?_)
  obtain ⟨C, x, dst, μs⟩ := z
  obtain ⟨hC, hdst, rfl⟩ := hm
  obtain ⟨hl, hk, hx⟩ := h
  have hu := hu_room hr
  have nd := sc_Steps_init.nd
  have cl := clS T hC
  have no := naSo T hC
  have nl := naSl T hC
  refine bl_cons ?_
  refine st_fld cl no ?_ (hs := swaps_at)
  refine ev_lstE ?_
  refine ea_nil ⟨few, fun o ho => ?_⟩
  refine nm 0 ?_
  refine ⟨x, [], _, rfl, .here, by decide, ?_⟩
  refine forb (passes_of rfl) ?_
  refine ig_val ?_
  refine nm 1 ?_
  have hd0 : ∀ {m1 m2 : M} {q : Addr × M}, Drf ((x, m1) :: μs ++ [(o, m2)]) dst (st.map rp) := by
    intro m1 m2 q
    cases hdst with
    | val => exact .val _
    | ref h => exact .ref (List.mem_append_left _ (.tail _ h))
  refine it_d st (hd0 (q := (x, .lst []))) ?_
  refine ⟨fun i Γ' μ' => ∃ o2, Γ' = [some (.ref x), some dst, o2] ∧ μ' = (x, .ins C [("order", .ref o)]) :: μs ++ [(o, .lst ((st.take i).map rp))] ∧ dupS (st.take i) [] = none, ⟨none, rfl, rfl, rfl⟩, fun _ _ _ ⟨_, _, e, _⟩ => by rw [e]; exact hd0 (q := (x, .lst [])), ?_, ?_⟩
  · rintro i d _ _ hd ⟨o2, rfl, rfl, hdup⟩
    obtain ⟨y, hy, rfl⟩ := map_at hd
    have mo : (o, M.lst ((st.take i).map rp)) ∈ (x, M.ins C [("order", .ref o)]) :: μs ++ [(o, .lst ((st.take i).map rp))] := List.mem_append_right _ (.head _)
    have up : ∀ m, Upd o (.lst ((st.take i).map rp)) m ((x, M.ins C [("order", .ref o)]) :: μs ++ [(o, .lst ((st.take i).map rp))]) ((x, M.ins C [("order", .ref o)]) :: μs ++ [(o, m)]) := fun m => by
      generalize (x, M.ins C [("order", .ref o)]) :: μs = L
      induction L with
      | nil => exact .here
      | cons q L ih => exact .there ih
    refine tn 2 ?nd1 ?_
    case nd1 => exact nd
    refine ifb ?_
    refine et_cmp ?_
    refine nm 2 ?_
    refine ev_fld cl no ?_
    refine nm 0 ?_
    refine xfm (.ref o) (.head _) rfl ?_
    refine op_in y (st.take i) hu .val (IsL.mem mo) ?_
    refine xb ?_
    refine ⟨fun ht => ?_, fun hf => ?_⟩
    · have hy2 : y ∈ st.take i := inb_t.mp ht
      have e : dupS st [] = some y := by
        rw [← List.take_append_drop i st, dupS_app, hdup, List.nil_append]
        have e2 : st.drop i = y :: st.drop (i + 1) := by
          obtain ⟨h1, h2⟩ := List.getElem?_eq_some_iff.mp hy
          rw [List.drop_eq_getElem_cons h1, h2]
        rw [e2, dupS, if_pos hy2]
        rfl
      refine bl_cons ?_
      refine st_raise (ex_Repeated T) tk (hr.mono (by decide)) rfl rfl T.mgC_Repeated ?_
      refine ea_c ?_
      refine nm 2 ?_
      exact ea_nil ⟨rfl, Nat.le_of_ble_eq_true rfl, fun _ _ r => txts_of (tx1 y) r, (), _, SubP.of ((List.sublist_append_left μs _).cons _), hx y e, rfl, rfl⟩
    · have hy2 : y ∉ st.take i := inb_f.mp hf
      refine nil ?_
      refine appF (α := Nm) (fun z => ev_fld cl no (nm 0 (xfm (.ref o) (.head _) rfl z))) mo ?_
      refine nm 2 ?_
      refine ⟨st.take i, y, _, rfl, by have := List.length_take_le i st; have := List.length_take_le' i st; omega, up _, ?_⟩
      refine nil ⟨_, rfl, ?_, ?_⟩
      · rw [take_snoc hy]
      · rw [take_snoc hy, dupS_app, hdup, List.nil_append]
        show (if y ∈ st.take i then _ else _) = _
        rw [if_neg hy2]
        rfl
  rintro _ _ ⟨o2, rfl, rfl, hdup⟩
  rw [List.length_map, List.take_length] at hdup ⊢
  have hn := dupS_no hdup
  refine bl_perm (μ' := (x, .ins C [("order", .ref o)]) :: (o, .lst (st.map rp)) :: μs) (.cons _ (List.perm_append_comm (l₁ := μs) (l₂ := [(o, M.lst (st.map rp))]))) ?_
  refine bl_cons ?_
  refine st_fld cl nl ?_ (hs := swaps_at)
  refine ev_dcM (own := [("standing", 2)]) (by rfl) ?nd2 (blkOk_by (N := N_Steps_init) (sc := defScope s_Steps_init) (by decide +kernel)) (by rfl) ?_
  case nd2 => exact nd
  refine ig_val ?_
  refine ev_fld cl no ?_
  refine nm 0 ?_
  refine xfm (.ref o) (.head _) rfl ?_
  refine it_m st (.tail _ (.head _)) ?_
  refine ⟨fun i kvs μ' => ∃ ls, ls.length = i ∧ i ≤ st.length ∧ kvs = kvR (st.take i) ls ∧ μ' = (x, .ins C [("order", .ref o)]) :: (o, .lst (st.map rp)) :: (μs ++ nilM ls), ⟨[], rfl, Nat.zero_le _, rfl, by rw [show nilM [] = [] from rfl, List.append_nil]⟩, (fun i kvs μ' ⟨ls, _, _, _, e⟩ => by rw [e]; exact .tail _ (.head _)), ?_, ?_⟩
  · rintro i d _ _ hd ⟨ls, hls, hi, rfl, rfl⟩ k
    obtain ⟨y, hy, rfl⟩ := map_at hd
    refine tn 2 ?nd3 ?_
    case nd3 => exact nd
    intro k
    refine nm 2 ?_
    intro k
    refine ev_lstE ?_
    refine ea_nil ⟨few, fun b hb => ?_⟩
    refine ⟨kN y, rfl, ?_, ls ++ [b], by simp [hls], at_lt hy, ?_, ?_⟩
    · have := List.length_take_le i st
      have := List.length_take_le' i st
      unfold kvR
      rw [List.length_zip, List.length_map, List.length_map, hls]
      omega
    · have := at_lt hy
      rw [kvR_snoc y b (by rw [List.length_take, hls]; omega) (not_in_take hn hy), take_snoc hy]
    · show _ :: _ :: ((μs ++ nilM ls) ++ [(b, M.lst [])]) = _
      unfold nilM
      rw [List.map_append, List.append_assoc]
      rfl
  · rintro kvs μ' ⟨ls, hls, hi, rfl, rfl⟩
    rw [List.length_map] at hls hi ⊢
    intro d hd
    rw [List.take_length]
    refine nm 0 ?_
    refine ⟨x, _, _, rfl, .there .here, (show 1 < 1000 by decide), ?_⟩
    refine bl_perm (μ' := (x, .ins C [("order", .ref o), ("leads", .ref d)]) :: (o, .lst (st.map rp)) :: (d, .dK (kvR st ls)) :: (nilM ls ++ μs)) ?_ (nil ⟨(), _, List.Sublist.refl _, hk hdup, rfl, o, d, ls, hls, rfl⟩)
    refine (List.Perm.swap _ _ _).trans (.cons _ ?_)
    refine (List.Perm.swap _ _ _).trans (.cons _ (.cons _ List.perm_append_comm))
/-! ### Doors(standings) -/
structure DZ where
  C : Addr
  x : Addr
  dst : D
  μs : Mem
  fs : List (Str × D)
abbrev nilD (st : List Nm) : List (Nm × (Tu Nm × Tu Nm)) := st.map fun s => (s, ((Tu.mk [], Tu.mk []) : Tu Nm × Tu Nm))
def sg_Doors (a : Ad) : SpG := sgU (A := List Nm) (Z := DZ) (ρ := Unit) (Y := Unit) (fun x z => [.ref z.x, z.dst]) (fun x z μ => KDr a z.C ∧ Drf z.μs z.dst (x.map rp) ∧ z.fs.length < 100 ∧ μ = (z.x, .ins z.C z.fs) :: z.μs)
  (fun x z r d μ => d = .non ∧ ∃ e, μ = (z.x, .ins z.C (putD "doors" (.ref e) (putD "rows" (rp x) z.fs))) :: (e, .dK (kvD (nilD x))) :: z.μs) (fun x z y μ => μ = z.μs) (fun x k kx => x.length ≤ 1000000 ∧ List.Nodup (α := Nm) x ∧ k ())
theorem putD_len (f : Str) (d : D) : ∀ fs : List (Str × D), (putD f d fs).length ≤ fs.length + 1
  | [] => Nat.le_refl _
  | (g, x) :: r => by
    unfold putD
    split
    · simp
    · have := putD_len f d r
      simp
      omega
theorem putD_look (f : Str) (d : D) : ∀ fs : List (Str × D), (putD f d fs).lookup f = some d
  | [] => by simp [putD, List.lookup]
  | (g, x) :: r => by
    unfold putD
    split
    · rename_i h
      simp [List.lookup, h]
    · rename_i h
      have : (f == g) = false := by simpa using fun z : f = g => h z.symm
      simp [List.lookup, this, putD_look f d r]
theorem kvD_snoc {α : Type} [Rpd α] (l : List (Nm × α)) (k : Nm) (v : α) (hn : k ∉ l.map (·.1)) : putKD (kvD l) (kN k) (rp v) = kvD (l ++ [(k, v)]) := by
  unfold putKD kvD
  rw [if_neg, List.map_append]
  · rfl
  · rw [List.any_map, List.any_eq_true]
    rintro ⟨p, hp, h⟩
    have h : kN p.1 = kN k := by simpa using h
    exact hn (by rw [← kN_inj.mp h]; exact List.mem_map_of_mem hp)
theorem ok_Doors_init (T : Tx P K mg a) : FnOk P w K mg base (L2.CX P w) 3 a.f_Doors_init a.fd_Doors_init ["self", "standings"] (spG (sgK K a) (sg_Doors a)) := by
  refine fundU T.F_Doors_init sc_Doors_init (fun _ _ => rfl) (fun cdv A outer s H E st z μ k kx hr tk hm h => ?_)
  obtain ⟨C, x, dst, μs, fs⟩ := z
  obtain ⟨hC, hdst, hf, rfl⟩ := hm
  obtain ⟨hl, hn, hk⟩ := h
  have nd := sc_Doors_init.nd
  have cl := clD T hC
  have nr := naDr T hC
  have ndd := naDd T hC
  refine bl_cons ?_
  refine st_fld cl nr ?_ (hs := swaps_at)
  refine cT T.z_list b_list ?_
  refine ea_c ?_
  refine nm 1 ?_
  refine ea_nil ?_
  refine c_list st (.l (by
    cases hdst with
    | val => exact .val _
    | ref h => exact .ref (.tail _ h))) ?_
  refine nm 0 ?_
  refine ⟨x, fs, _, rfl, .here, (show fs.length < 1000 by have : fs.length < 100 := hf; omega), ?_⟩
  refine bl_cons ?_
  refine st_fld cl ndd ?_ (hs := swaps_at)
  refine ev_dcM (own := [("standing", 2)]) (by rfl) ?nd2 (blkOk_by (N := N_Doors_init) (sc := defScope s_Doors_init) (by decide +kernel)) (by rfl) ?_
  case nd2 => exact nd
  refine ig_val ?_
  refine ev_fld cl nr ?_
  refine nm 0 ?_
  refine xfm (rp st) (.head _) (putD_look _ _ _) ?_
  refine it_l st ?_
  refine ⟨fun i kvs μ' => i ≤ st.length ∧ kvs = kvD (nilD (st.take i)) ∧ μ' = (x, .ins C (putD "rows" (rp st) fs)) :: μs, ⟨Nat.zero_le _, rfl, rfl⟩, (fun _ _ _ _ => trivial), ?_, ?_⟩
  · rintro i d _ _ hd ⟨hi, rfl, rfl⟩ k
    obtain ⟨y, hy, rfl⟩ := map_at hd
    refine tn 2 ?nd3 ?_
    case nd3 => exact nd
    intro k
    refine nm 2 ?_
    intro k
    refine ev_tup ?_
    refine ea_c ?_
    refine ev_tup ?_
    refine ea_few ?_
    refine ea_c ?_
    refine ev_tup ?_
    refine ea_few ?_
    refine ea_few ?_
    refine ⟨kN y, rfl, ?_, at_lt hy, ?_, rfl⟩
    · have := List.length_take_le i st
      have := List.length_take_le' i st
      unfold kvD
      rw [List.length_map, List.length_map]
      omega
    · have h1 : y ∉ (nilD (st.take i)).map (·.1) := by
        rw [List.map_map]
        show y ∉ (st.take i).map fun s => s
        rw [List.map_id']
        exact not_in_take hn hy
      rw [take_snoc hy, show nilD (st.take i ++ [y]) = nilD (st.take i) ++ [(y, ((Tu.mk [], Tu.mk []) : Tu Nm × Tu Nm))] from List.map_append]
      exact kvD_snoc _ y ((Tu.mk [], Tu.mk []) : Tu Nm × Tu Nm) h1
  · rintro kvs μ' ⟨hi, rfl, rfl⟩
    rw [List.length_map, List.take_length]
    intro e he
    refine nm 0 ?_
    refine ⟨x, _, _, rfl, .there .here, ?_, ?_⟩
    · have := putD_len "rows" (rp st) fs
      have : fs.length < 100 := hf
      omega
    refine bl_perm (List.Perm.swap _ _ _) (nil ⟨(), _, List.Sublist.refl _, hk, rfl, e, rfl⟩)
/-! ### Part(name, standings) -/
def newK (m : Bool) (n : Nm) (st : List Nm) : KindV := ⟨m, st, ⟨st.map fun s => (s, [])⟩, st, ⟨nilD st⟩, n⟩
theorem newK_ok {m : Bool} {n : Nm} {st : List Nm} (hn : st.Nodup) (hl : st.length ≤ 1000000) : KOk (newK m n st) :=
  ⟨hn, by show (st.map _).map _ = st; rw [List.map_map]; exact List.map_id' _, rfl, by show (st.map _).map _ = st; rw [List.map_map]; exact List.map_id' _, hl⟩
abbrev sg_Part_init (a : Ad) : SpG := sgU (A := Nm × List Nm) (Z := KZ) (ρ := Unit) (Y := Unit) (fun x z => [.ref z.x, rp x.1, z.dst]) (fun x z μ => KPa a z.C ∧ Drf z.μs z.dst (x.2.map rp) ∧ μ = (z.x, .ins z.C []) :: z.μs)
  (fun x z r d μ => d = .non ∧ ∃ A : KAd, A.ls.length = x.2.length ∧ ∀ m, μ = kindM z.C z.x A (newK m x.1 x.2) ++ z.μs) (fun x z y μ => μ = z.μs) (fun x k kx => m_Steps_init x.2 k kx)
theorem ok_Part_init (T : Tx P K mg a) : FnOk P w K mg base (L2.CX P w) 4 a.f_Part_init a.fd_Part_init ["self", "name", "standings"] (spG (sgK K a) (sg_Part_init a)) := by
  refine fundU T.F_Part_init sc_Part_init (fun _ _ => rfl) (fun cdv A outer s H E x z μ k kx hr tk hm h => ?_)
  obtain ⟨n, st⟩ := x
  obtain ⟨C, x, dst, μs⟩ := z
  obtain ⟨hC, hdst, rfl⟩ := hm
  obtain ⟨hl, hk, hx⟩ := h
  refine exF ?_
  refine ev_cfn (CX := L2.CX P w) sgU_mono T.cd_Steps T.of_Steps_init (ok_Steps_init T) (hr.mono (by decide)) T.F_Steps_init.kp T.b_Steps_init (passes_call tk fun _ _ _ _ h => h) ?_
  refine ev_globR (by rfl) T.mgC_Steps ?_
  refine ⟨rfl, ?_⟩
  refine ea_c ?_
  refine nm 0 ?_
  refine ea_c ?_
  refine nm 2 ?_
  refine ea_nil ?_
  refine ask_u (k := fun _ => dupS st [] = none) (kx := fun _ c fs => kx () c fs) st ⟨C, x, dst, μs⟩ (Split.all _) rfl ⟨hC.st, hdst, rfl⟩ ⟨hl, fun e => e, hx⟩ (fun r d μ1 hdup hz => ?_) (fun c fs y μ1 h hp hz => by rw [hz, List.append_nil]; exact ⟨(), _, SubP.of (List.Sublist.refl _), h, hp, rfl⟩)
  obtain ⟨_, o, dd, ls, hls, rfl⟩ := hz
  have hn := dupS_no hdup
  refine exF ?_
  refine ev_cfn (CX := L2.CX P w) sgU_mono T.cd_Doors T.of_Doors_init (ok_Doors_init T) (hr.mono (by decide)) T.F_Doors_init.kp T.b_Doors_init (passes_call tk fun _ _ _ _ h => h) ?_
  refine ev_globR (by rfl) T.mgC_Doors ?_
  refine ⟨rfl, ?_⟩
  refine ea_c ?_
  refine nm 0 ?_
  refine ea_c ?_
  refine nm 2 ?_
  refine ea_nil ?_
  have sp : Split ((x, M.ins C [("order", D.ref o), ("leads", D.ref dd)]) :: (o, .lst (st.map rp)) :: (dd, .dK (kvR st ls)) :: (nilM ls ++ μs) ++ []) ((x, M.ins C [("order", D.ref o), ("leads", D.ref dd)]) :: μs) ((o, .lst (st.map rp)) :: (dd, .dK (kvR st ls)) :: nilM ls) := by
    rw [List.append_nil]
    exact .l (.r (.r (Split.right (nilM ls) μs)))
  refine ask_u (k := fun _ => True) (kx := fun _ _ _ => False) st ⟨C, x, dst, μs, [("order", .ref o), ("leads", .ref dd)]⟩ sp rfl ⟨hC.dr, hdst, (show 2 < 100 by decide), rfl⟩ ⟨hl, hn, trivial⟩ (fun r d μ1 _ hz => ?_) (fun c fs y μ1 h hp hz => h.elim)
  obtain ⟨_, e, rfl⟩ := hz
  refine bl_cons ?_
  refine st_fld (clS T hC.st) (naPn T hC) ?_ (hs := swaps_at)
  refine nm 1 ?_
  refine nm 0 ?_
  refine ⟨x, [("order", .ref o), ("leads", .ref dd), ("rows", rp st), ("doors", .ref e)], (x, .ins C [("order", .ref o), ("leads", .ref dd), ("rows", rp st), ("doors", .ref e), ("name", rp n)]) :: (e, .dK (kvD (nilD st))) :: (μs ++ (o, .lst (st.map rp)) :: (dd, .dK (kvR st ls)) :: nilM ls), rfl, .here, (show 4 < 1000 by decide), ?_⟩
  have hp : ∀ m, List.Perm ((x, M.ins C [("order", .ref o), ("leads", .ref dd), ("rows", rp st), ("doors", .ref e), ("name", rp n)]) :: (e, .dK (kvD (nilD st))) :: (μs ++ (o, .lst (st.map rp)) :: (dd, .dK (kvR st ls)) :: nilM ls)) (kindM C x ⟨o, dd, e, ls⟩ (newK m n st) ++ μs) := fun m => by
    refine .cons _ ?_
    have : nilM ls = lsM ls ((newK m n st).leads.l.map (·.2)) := by
      show _ = lsM ls ((st.map fun s => (s, ([] : List Nm))).map (·.2))
      rw [List.map_map]
      exact nilM_ls ls st hls
    rw [this]
    refine (List.Perm.cons _ List.perm_append_comm).trans ?_
    refine (List.Perm.swap _ _ _).trans (.cons _ ?_)
    exact (List.Perm.swap _ _ _).trans (.refl _)
  have hm : ∀ m m', kindM C x ⟨o, dd, e, ls⟩ (newK m n st) = kindM C x ⟨o, dd, e, ls⟩ (newK m' n st) := fun m m' => rfl
  exact bl_perm (hp true) (nil ⟨(), _, List.Sublist.refl _, hk hdup, rfl, ⟨o, dd, e, ls⟩, hls, fun m => rfl⟩)
/-! ### an object with steps, as it stands in the memory -/
structure StV where
  order : List Nm
  leads : Dc (List Nm)
structure StZ where
  C : Addr
  x : Addr
  o : Addr
  d : Addr
  ls : List Addr
  fs : List (Str × D)
def stM (z : StZ) (v : StV) : Mem := (z.x, .ins z.C z.fs) :: (z.o, .lst (v.order.map rp)) :: (z.d, .dK (kvR v.order z.ls)) :: lsM z.ls (v.leads.l.map (·.2))
structure StGood (v : StV) : Prop where
  nd : v.order.Nodup
  few : v.order.length ≤ 1000000
  le : v.leads.l.map (·.1) = v.order
  st : ∀ p ∈ v.leads.l, p.2.Nodup ∧ ∀ c ∈ p.2, c ∈ v.order
structure StOk (a : Ad) (z : StZ) (v : StV) : Prop extends StGood v where
  cl : KSt a z.C
  fo : z.fs.lookup ("order" : Str) = some (.ref z.o)
  fl : z.fs.lookup ("leads" : Str) = some (.ref z.d)
  ll : z.ls.length = v.order.length
  mn : ∀ m : Str, m ∈ z.fs.map (·.1) → m ∈ (["order", "leads", "rows", "doors", "name"] : List Str)
def allowS (v : StV) (b c : Nm) : StV := { v with leads := ⟨v.leads.l.map fun p => if p.1 = b then (p.1, if c ∈ p.2 then p.2 else p.2 ++ [c]) else p⟩ }
theorem allowS_good {v : StV} {b c : Nm} (h : StGood v) (hc : c ∈ v.order) : StGood (allowS v b c) := by
  refine ⟨h.nd, h.few, ?_, fun p hp => ?_⟩
  · show (v.leads.l.map _).map _ = v.order
    rw [← h.le, List.map_map]
    refine List.map_congr_left fun p _ => ?_
    show (if p.1 = b then _ else p).1 = p.1
    split <;> rfl
  · obtain ⟨q, hq, rfl⟩ := List.mem_map.mp hp
    obtain ⟨h1, h2⟩ := h.st q hq
    split
    · split
      · exact ⟨h1, h2⟩
      · rename_i hn
        refine ⟨List.nodup_append.mpr ⟨h1, by simp, fun u hu w hw => by rw [List.mem_singleton.mp hw]; exact fun z => hn (z ▸ hu)⟩, fun u hu => ?_⟩
        rcases List.mem_append.mp hu with hu | hu
        · exact h2 u hu
        · rw [List.mem_singleton.mp hu]; exact hc
    · exact ⟨h1, h2⟩
theorem nd_len {α : Type} [DecidableEq α] : ∀ {l m : List α}, l.Nodup → (∀ c ∈ l, c ∈ m) → l.length ≤ m.length
  | [], _, _, _ => Nat.zero_le _
  | x :: l, m, hn, h => by
    have h1 := List.nodup_cons.mp hn
    have := nd_len (l := l) (m := m.erase x) h1.2 fun c hc => (List.mem_erase_of_ne (fun (z : c = x) => h1.1 (by rw [← z]; exact hc))).mpr (h c (List.mem_cons_of_mem _ hc))
    rw [List.length_erase_of_mem (h x List.mem_cons_self)] at this
    have hp : 0 < m.length := List.length_pos_of_mem (h x List.mem_cons_self)
    rw [List.length_cons]
    omega
def leadsOf (v : StV) (s : Nm) : List Nm := (look v.leads.l s).getD []
section
variable {z : StZ} {v : StV}
theorem StOk.up {b c : Nm} (h : StOk a z v) (hc : c ∈ v.order) : StOk a z (allowS v b c) := ⟨allowS_good h.toStGood hc, h.cl, h.fo, h.fl, h.ll, h.mn⟩
theorem StOk.m0 {fs : List (Str × D)} : (z.x, M.ins z.C z.fs) ∈ stM z v := .head _
theorem StOk.m1 : (z.o, M.lst (v.order.map rp)) ∈ stM z v := .tail _ (.head _)
theorem StOk.m2 : (z.d, M.dK (kvR v.order z.ls)) ∈ stM z v := .tail _ (.tail _ (.head _))
theorem StOk.val (h : StOk a z v) (k : Nm) : (valD (kvR v.order z.ls) (kN k)).isSome = inb k v.order := kvR_val k h.ll.symm
theorem StOk.at (h : StOk a z v) {b : Nm} (hb : b ∈ v.order) : ∃ l lb, look v.leads.l b = some l ∧ (b, l) ∈ v.leads.l ∧ valD (kvR v.order z.ls) (kN b) = some (.ref lb) ∧ (lb, M.lst (l.map rp)) ∈ stM z v ∧
    ∀ l', Upd lb (.lst (l.map rp)) (.lst (l'.map rp)) (stM z v) (stM z ⟨v.order, ⟨v.leads.l.map fun p => if p.1 = b then (p.1, l') else p⟩⟩) := by
  have hbl : b ∈ v.leads.l.map (·.1) := by rw [h.le]; exact hb
  obtain ⟨l, hl1, hl2⟩ := look_some hbl
  have e : v.leads.l.length = z.ls.length := by
    have := congrArg List.length h.le
    rw [List.length_map] at this
    rw [h.ll, this]
  obtain ⟨lb, k1, k2, k3⟩ := kvR_at (ls := z.ls) e hl1
  rw [h.le] at k1
  refine ⟨l, lb, hl1, hl2, k1, .tail _ (.tail _ (.tail _ k2)), fun l' => .there (.there (.there ?_))⟩
  rcases k3 l' with k3 | k3
  · exact k3
  · exact absurd (by rw [h.le]; exact h.nd) k3
theorem StGood.one (h : StGood v) {b : Nm} {l : List Nm} {p : Nm × List Nm} (h1 : (b, l) ∈ v.leads.l) (hp : p ∈ v.leads.l) (e : p.1 = b) : p.2 = l := by
  have hn : (v.leads.l.map (·.1)).Nodup := by rw [h.le]; exact h.nd
  obtain ⟨i, hi⟩ := List.mem_iff_getElem?.mp hp
  obtain ⟨j, hj⟩ := List.mem_iff_getElem?.mp h1
  have e1 : (v.leads.l.map (·.1))[i]? = some b := by rw [List.getElem?_map, hi]; exact congrArg some e
  have e2 : (v.leads.l.map (·.1))[j]? = some b := by rw [List.getElem?_map, hj]; rfl
  have := (List.getElem?_inj (at_lt e1) hn).mp (e1.trans e2.symm)
  subst this
  rw [hi] at hj
  cases hj
  rfl
theorem StGood.allow (h : StGood v) {b c : Nm} {l : List Nm} (h1 : (b, l) ∈ v.leads.l) : allowS v b c = ⟨v.order, ⟨v.leads.l.map fun p => if p.1 = b then (p.1, if c ∈ l then l else l ++ [c]) else p⟩⟩ := by
  show StV.mk v.order _ = _
  refine congrArg (fun l => StV.mk v.order ⟨l⟩) (List.map_congr_left fun p hp => ?_)
  by_cases e : p.1 = b
  · rw [if_pos e, if_pos e, h.one h1 hp e]
  · rw [if_neg e, if_neg e]
theorem StGood.same (h : StGood v) {b : Nm} {l : List Nm} (h1 : (b, l) ∈ v.leads.l) : (v.leads.l.map fun p => if p.1 = b then (p.1, l) else p) = v.leads.l := by
  conv => rhs; rw [← List.map_id v.leads.l]
  refine List.map_congr_left fun p hp => ?_
  by_cases e : p.1 = b
  · rw [if_pos e, ← h.one h1 hp e]; rfl
  · rw [if_neg e]; rfl
theorem StGood.llen (h : StGood v) {b : Nm} {l : List Nm} (h1 : (b, l) ∈ v.leads.l) : l.length ≤ 1000000 := Nat.le_trans (nd_len (h.st _ h1).1 (h.st _ h1).2) h.few
end
section
variable {C : Addr}
theorem mS_Steps_allow (T : Tx P K mg a) (h : KSt a C) : Meth K C "allow" a.f_Steps_allow := by rcases h with rfl | rfl | rfl | rfl <;> first | exact ⟨T.at_Steps_allow, T.fn_Steps_allow, T.F_Steps_allow.kp⟩ | exact ⟨T.at_Part_allow, T.fn_Steps_allow, T.F_Steps_allow.kp⟩ | exact ⟨T.at_Single_allow, T.fn_Steps_allow, T.F_Steps_allow.kp⟩ | exact ⟨T.at_Many_allow, T.fn_Steps_allow, T.F_Steps_allow.kp⟩
theorem mS_Steps_steps_from (T : Tx P K mg a) (h : KSt a C) : Meth K C "steps_from" a.f_Steps_steps_from := by rcases h with rfl | rfl | rfl | rfl <;> first | exact ⟨T.at_Steps_steps_from, T.fn_Steps_steps_from, T.F_Steps_steps_from.kp⟩ | exact ⟨T.at_Part_steps_from, T.fn_Steps_steps_from, T.F_Steps_steps_from.kp⟩ | exact ⟨T.at_Single_steps_from, T.fn_Steps_steps_from, T.F_Steps_steps_from.kp⟩ | exact ⟨T.at_Many_steps_from, T.fn_Steps_steps_from, T.F_Steps_steps_from.kp⟩
theorem mS_Steps_standings (T : Tx P K mg a) (h : KSt a C) : Meth K C "standings" a.f_Steps_standings := by rcases h with rfl | rfl | rfl | rfl <;> first | exact ⟨T.at_Steps_standings, T.fn_Steps_standings, T.F_Steps_standings.kp⟩ | exact ⟨T.at_Part_standings, T.fn_Steps_standings, T.F_Steps_standings.kp⟩ | exact ⟨T.at_Single_standings, T.fn_Steps_standings, T.F_Steps_standings.kp⟩ | exact ⟨T.at_Many_standings, T.fn_Steps_standings, T.F_Steps_standings.kp⟩
end
/-! ### allow, steps_from, standings -/
def m_Steps_allow (v : StV) (b c : Nm) (k : Unit × StV → Prop) (kx : StV → KX) : Prop :=
  (b ∉ v.order → kx v 10 [rp b]) ∧ (b ∈ v.order → c ∉ v.order → kx v 10 [rp c]) ∧ (b ∈ v.order → c ∈ v.order → b = c → kx v 11 [rp c, rp b]) ∧ (b ∈ v.order → c ∈ v.order → b ≠ c → k ((), allowS v b c))
abbrev sg_Steps_allow (a : Ad) : SpG := sgU (A := StV × Nm × Nm) (Z := StZ) (ρ := Unit × StV) (Y := StV) (fun x z => [.ref z.x, rp x.2.1, rp x.2.2]) (fun x z μ => StOk a z x.1 ∧ μ = stM z x.1) (fun x z r d μ => d = rp r.1 ∧ StOk a z r.2 ∧ μ = stM z r.2) (fun x z y μ => StOk a z y ∧ μ = stM z y) (fun x k kx => m_Steps_allow x.1 x.2.1 x.2.2 k kx)
theorem ok_Steps_allow (T : Tx P K mg a) : FnOk P w K mg base (L2.CX P w) 3 a.f_Steps_allow a.fd_Steps_allow ["self", "before", "after"] (spG (sgK K a) (sg_Steps_allow a)) := by
  refine fundU T.F_Steps_allow sc_Steps_allow (fun _ _ => rfl) (fun cdv A outer s H E x z μ k kx hr tk hm h => ?_)
  obtain ⟨v, b, c⟩ := x
  obtain ⟨ok, rfl⟩ := hm
  obtain ⟨q1, q2, q3, q4⟩ := h
  replace ok : StOk a z v := ok
  have hu := hu_room hr
  have nd := sc_Steps_allow.nd
  have hu1 := Nat.lt_of_le_of_lt (Nat.add_le_add_left (show 1 ≤ 65 by decide) _) hu
  have cl := clS T ok.cl
  have nl := naSl T ok.cl
  have m0 : (z.x, M.ins z.C z.fs) ∈ stM z v := .head _
  refine forb (passes_of rfl) ?_
  refine ig_val ?_
  refine ev_tup ?_
  refine ea_c ?_
  refine nm 1 ?_
  refine ea_c ?_
  refine nm 2 ?_
  refine ea_few ?_
  refine it_T (Tu.mk [b, c]) ?_
  refine forU ?_
  -- before
  refine forU_c ?_
  refine tn 3 ?nd1 ?_
  case nd1 => exact nd
  refine ifb ?_
  refine et_dniK hu1 ?_
  refine nm 3 ?_
  refine ev_fld cl nl ?_
  refine nm 0 ?_
  refine xfm (.ref z.d) m0 ok.fl ?_
  refine ⟨_, kN b, .ref StOk.m2, rfl, ?_⟩
  rw [ok.val]
  refine ⟨fun ht => ?_, fun hf => ?_⟩
  · refine bl_cons ?_
    refine st_raise (ex_Unknown T) tk (hr.mono (by decide)) rfl rfl T.mgC_Unknown ?_
    refine ea_c ?_
    refine nm 3 ?_
    exact ea_nil ⟨rfl, Nat.le_of_ble_eq_true rfl, fun _ _ r => txts_of (tx1 b) r, v, _, SubP.of (List.Sublist.refl _), q1 (inb_f.mp (by simpa using ht)), rfl, ok, rfl⟩
  have hb : b ∈ v.order := inb_t.mp (by simpa using hf)
  refine nil ?_
  refine nil ?_
  -- after
  refine forU_c ?_
  refine tn 3 ?nd1 ?_
  case nd1 => exact nd
  refine ifb ?_
  refine et_dniK hu1 ?_
  refine nm 3 ?_
  refine ev_fld cl nl ?_
  refine nm 0 ?_
  refine xfm (.ref z.d) m0 ok.fl ?_
  refine ⟨_, kN c, .ref StOk.m2, rfl, ?_⟩
  rw [ok.val]
  refine ⟨fun ht => ?_, fun hf => ?_⟩
  · refine bl_cons ?_
    refine st_raise (ex_Unknown T) tk (hr.mono (by decide)) rfl rfl T.mgC_Unknown ?_
    refine ea_c ?_
    refine nm 3 ?_
    exact ea_nil ⟨rfl, Nat.le_of_ble_eq_true rfl, fun _ _ r => txts_of (tx1 c) r, v, _, SubP.of (List.Sublist.refl _), q2 hb (inb_f.mp (by simpa using ht)), rfl, ok, rfl⟩
  have hc : c ∈ v.order := inb_t.mp (by simpa using hf)
  refine nil ?_
  refine nil ?_
  refine bl_id ?_
  refine ifb ?_
  refine et_cmp ?_
  refine nm 1 ?_
  refine nm 2 ?_
  refine op_eq b c hu .val .val ?_
  refine xb ?_
  refine ⟨fun ht => ?_, fun hf => ?_⟩
  · have e : b = c := of_decide_eq_true ht
    refine bl_cons ?_
    refine st_raise (ex_NoStep T) tk (hr.mono (by decide)) rfl rfl T.mgC_NoStep ?_
    refine ea_c ?_
    refine nm 1 ?_
    refine ea_c ?_
    refine nm 2 ?_
    exact ea_nil ⟨rfl, Nat.le_of_ble_eq_true rfl, fun _ _ r => txts_of (tx2 b c) r, v, _, SubP.of (List.Sublist.refl _), q3 hb hc e, rfl, ok, rfl⟩
  have hbc : b ≠ c := of_decide_eq_false hf
  refine nil ?_
  obtain ⟨l, lb, hl1, hl2, k1, mem, up⟩ := ok.at hb
  refine ifb ?_
  refine et_cmp ?_
  refine nm 2 ?_
  refine ev_dgetK hu1 ?_
  refine ev_fld cl nl ?_
  refine nm 0 ?_
  refine xfm (.ref z.d) m0 ok.fl ?_
  refine nm 1 ?_
  refine ⟨_, kN b, _, .ref StOk.m2, rfl, k1, ?_⟩
  refine op_ni c l hu .val (IsL.mem mem) ?_
  refine xb ?_
  have ea := ok.toStGood.allow (c := c) hl2
  refine ⟨fun ht => ?_, fun hf => ?_⟩
  · have hcl : c ∉ l := inb_f.mp (by simpa using ht)
    rw [if_neg hcl] at ea
    refine appF (α := Nm) (fun y => ev_dgetK hu1 (ev_fld cl nl (nm 0 (xfm (.ref z.d) m0 ok.fl (nm 1 ⟨_, kN b, _, .ref StOk.m2, rfl, k1, y⟩))))) mem ?_
    refine nm 2 ?_
    have u := up (l ++ [c])
    rw [← ea] at u
    exact ⟨l, c, _, rfl, by have := ok.toStGood.llen hl2; omega, u, nil (nil ⟨((), allowS v b c), _, List.Sublist.refl _, q4 hb hc hbc, rfl, ok.up hc, rfl⟩)⟩
  · have hcl : c ∈ l := inb_t.mp (by simpa using hf)
    rw [if_pos hcl, ok.toStGood.same hl2] at ea
    have ea : allowS v b c = v := ea
    have q := q4 hb hc hbc
    have okv := ok
    rw [ea] at q
    exact nil (nil ⟨((), v), _, List.Sublist.refl _, q, rfl, ok, rfl⟩)
def fromS (v : StV) (s : Nm) : List Nm := v.order.filter fun c => inb c (leadsOf v s)
def m_Steps_steps_from (v : StV) (s : Nm) (k : Tu Nm → Prop) (kx : Unit → KX) : Prop := (s ∉ v.order → kx () 10 [rp s]) ∧ (s ∈ v.order → k (Tu.mk (fromS v s)))
abbrev sg_Steps_steps_from (a : Ad) : SpG := sgU (A := StV × Nm) (Z := StZ) (ρ := Tu Nm) (Y := Unit) (fun x z => [.ref z.x, rp x.2]) (fun x z μ => StOk a z x.1 ∧ μ = stM z x.1) (fun x z r d μ => d = rp r ∧ StOk a z x.1 ∧ μ = stM z x.1) (fun x z y μ => StOk a z x.1 ∧ μ = stM z x.1) (fun x k kx => m_Steps_steps_from x.1 x.2 k kx)
theorem ok_Steps_steps_from (T : Tx P K mg a) : FnOk P w K mg base (L2.CX P w) 3 a.f_Steps_steps_from a.fd_Steps_steps_from ["self", "standing"] (spG (sgK K a) (sg_Steps_steps_from a)) := by
  refine fundU T.F_Steps_steps_from sc_Steps_steps_from (fun _ _ => rfl) (fun cdv A outer s H E x z μ k kx hr tk hm h => ?_)
  obtain ⟨v, b⟩ := x
  obtain ⟨ok, rfl⟩ := hm
  obtain ⟨q1, q2⟩ := h
  replace ok : StOk a z v := ok
  have hu := hu_room hr
  have nd := sc_Steps_steps_from.nd
  have hu1 := Nat.lt_of_le_of_lt (Nat.add_le_add_left (show 1 ≤ 65 by decide) _) hu
  have cl := clS T ok.cl
  have nl := naSl T ok.cl
  have no := naSo T ok.cl
  have m0 : (z.x, M.ins z.C z.fs) ∈ stM z v := .head _
  refine ifb ?_
  refine et_dniK hu1 ?_
  refine nm 1 ?_
  refine ev_fld cl nl ?_
  refine nm 0 ?_
  refine xfm (.ref z.d) m0 ok.fl ?_
  refine ⟨_, kN b, .ref StOk.m2, rfl, ?_⟩
  rw [ok.val]
  refine ⟨fun ht => ?_, fun hf => ?_⟩
  · refine bl_cons ?_
    refine st_raise (ex_Unknown T) tk (hr.mono (by decide)) rfl rfl T.mgC_Unknown ?_
    refine ea_c ?_
    refine nm 1 ?_
    exact ea_nil ⟨rfl, Nat.le_of_ble_eq_true rfl, fun _ _ r => txts_of (tx1 b) r, (), _, SubP.of (List.Sublist.refl _), q1 (inb_f.mp (by simpa using ht)), rfl, ok, rfl⟩
  have hb : b ∈ v.order := inb_t.mp (by simpa using hf)
  refine nil ?_
  obtain ⟨l, lb, hl1, hl2, k1, mem, up⟩ := ok.at hb
  have el : leadsOf v b = l := by unfold leadsOf; rw [hl1]; rfl
  refine ret ?_
  refine cT T.z_tuple b_tuple ?_
  refine ea_c ?_
  refine ev_lc (own := [("after", 2)]) (by rfl) ?nd3 (blkOk_by (N := N_Steps_steps_from) (sc := defScope s_Steps_steps_from) (by decide +kernel)) (by rfl) ?_
  case nd3 => exact nd
  refine ig_val ?_
  refine ev_fld cl no ?_
  refine nm 0 ?_
  refine xfm (.ref z.o) m0 ok.fo ?_
  refine it_m v.order StOk.m1 ?_
  refine lcFM (β := Nm) (xs := v.order) (f := fun y : Nm => rp y) (fun y : Nm => inb y l) (fun y : Nm => y) (by have := ok.few; omega) StOk.m1 (by
    intro y hy k
    refine tn 2 (by exact nd) ?_
    refine fun k => ts_one ?_
    refine et_cmp ?_
    refine nm 2 ?_
    refine ev_dgetK hu1 ?_
    refine ev_fld cl nl ?_
    refine nm 0 ?_
    refine xfm (.ref z.d) m0 ok.fl ?_
    refine nm 1 ?_
    refine ⟨_, kN b, _, .ref StOk.m2, rfl, k1, ?_⟩
    refine op_in y l hu .val (IsL.mem mem) ?_
    refine xb ?_
    refine ⟨fun ht k => ?_, fun hf => ⟨hf, rfl⟩⟩
    refine nm 2 ?_
    exact ⟨rfl, ht, rfl⟩) ?_
  rw [List.map_id' (List.filter _ v.order)]
  refine ea_nil ?_
  refine c_tuple (List.filter (fun y : Nm => inb y l) v.order) (.l (.val _)) ?_
  have q := q2 hb
  unfold fromS at q
  rw [el] at q
  exact ⟨Tu.mk (List.filter (fun y : Nm => inb y l) v.order), _, List.Sublist.refl _, q, rfl, ok, rfl⟩
def m_Steps_standings (v : StV) (k : Tu Nm → Prop) (kx : Unit → KX) : Prop := k (Tu.mk v.order)
abbrev sg_Steps_standings (a : Ad) : SpG := sgU (A := StV) (Z := StZ) (ρ := Tu Nm) (Y := Unit) (fun x z => [.ref z.x]) (fun x z μ => StOk a z x ∧ μ = stM z x) (fun x z r d μ => d = rp r ∧ StOk a z x ∧ μ = stM z x) (fun x z y μ => StOk a z x ∧ μ = stM z x) (fun x k kx => m_Steps_standings x k kx)
theorem ok_Steps_standings (T : Tx P K mg a) : FnOk P w K mg base (L2.CX P w) 1 a.f_Steps_standings a.fd_Steps_standings ["self"] (spG (sgK K a) (sg_Steps_standings a)) := by
  refine fundU T.F_Steps_standings sc_Steps_standings (fun _ _ => rfl) (fun cdv A outer s H E v z μ k kx hr tk hm h => ?_)
  obtain ⟨ok, rfl⟩ := hm
  have cl := clS T ok.cl
  have no := naSo T ok.cl
  have m0 : (z.x, M.ins z.C z.fs) ∈ stM z v := .head _
  refine ret ?_
  refine cT T.z_tuple b_tuple ?_
  refine ea_c ?_
  refine ev_fld cl no ?_
  refine nm 0 ?_
  refine xfm (.ref z.o) m0 ok.fo ?_
  refine ea_nil ?_
  refine c_tuple v.order (.l (.ref StOk.m1)) ?_
  exact ⟨Tu.mk v.order, _, List.Sublist.refl _, h, rfl, ok, rfl⟩
/-! ### `_law_made` -/
def newS (st : List Nm) : StV := ⟨st, ⟨st.map fun s => (s, [])⟩⟩
theorem newS_good {st : List Nm} (hn : st.Nodup) (hl : st.length ≤ 1000000) : StGood (newS st) :=
  ⟨hn, hl, by show (st.map _).map _ = st; rw [List.map_map]; exact List.map_id' _, fun p hp => by
    obtain ⟨s, _, rfl⟩ := List.mem_map.mp hp
    exact ⟨List.nodup_nil, fun c h => by cases h⟩⟩
def m_law_made (st : List Nm) (k : StV → Prop) (kx : Unit → KX) : Prop := st.length ≤ 1000000 ∧ (dupS st [] = none → k (newS st)) ∧ ∀ c, dupS st [] = some c → kx () 9 [rp c]
abbrev sg_law_made (a : Ad) : SpG := sgU (A := Int × Nm × List Nm) (Z := D × Mem) (ρ := StV) (Y := Unit) (fun x z => [rp x.1, rp x.2.1, z.1]) (fun x z μ => Drf z.2 z.1 (x.2.2.map rp) ∧ μ = z.2)
  (fun x z r d μ => ∃ y : StZ, d = .ref y.x ∧ StOk a y r ∧ μ = stM y r ++ z.2) (fun x z y μ => μ = z.2) (fun x k kx => m_law_made x.2.2 k kx)
theorem ok_law_made (T : Tx P K mg a) : FnOk P w K mg base (L2.CX P w) 6 a.f_law_made a.fd_law_made ["_law_k", "_law_name_here", "_law_standings"] (spG (sgK K a) (sg_law_made a)) := by
  refine fundU T.F_law_made sc_law_made (fun _ _ => rfl) (fun cdv A outer s H E x z μ k kx hr tk hm h => ?_)
  obtain ⟨kk, n, st⟩ := x
  obtain ⟨dst, μs⟩ := z
  obtain ⟨hdst, rfl⟩ := hm
  obtain ⟨hl, hk, hx⟩ := h
  have part : ∀ {C x : Addr} {A : KAd} {m1 : Mem}, KPa a C → A.ls.length = st.length → dupS st [] = none → (∀ m, m1 = kindM C x A (newK m n st) ++ μ) →
      ∃ r m2, List.Sublist m2 (m1 ++ []) ∧ k r ∧ ∃ y : StZ, D.ref x = .ref y.x ∧ StOk a y r ∧ m2 = stM y r ++ μ := fun {C x A m1} hC hls hd e => by
    have g := newS_good (dupS_no hd) hl
    refine ⟨newS st, stM ⟨C, x, A.o, A.d, A.ls, [("order", .ref A.o), ("leads", .ref A.d), ("rows", rp st), ("doors", .ref A.e), ("name", rp n)]⟩ (newS st) ++ μ, ?_, hk hd, _, rfl, ⟨g, hC.st, rfl, rfl, hls, by simp⟩, rfl⟩
    rw [e true, List.append_nil]
    refine List.Sublist.append ?_ (List.Sublist.refl μ)
    exact .cons_cons _ (.cons_cons _ (.cons_cons _ (.cons _ (List.Sublist.refl _))))
  refine ifb ?_
  refine et_cmp ?_
  refine nm 0 ?_
  refine ev_int ?_
  refine og_eqI ?_
  refine xb ?_
  refine ⟨fun _ => ?_, fun _ => nil ?_⟩
  · refine ret ?_
    refine cCL (CX := L2.CX P w) sgU_mono T.mk_Steps (ok_Steps_init T) (hr.mono (by decide)) T.mgC_Steps T.b_Steps_init (passes_call tk fun _ _ _ _ h => h) ?_
    refine ea_c ?_
    refine nm 2 ?_
    refine ea_nil ?_
    refine new_u (k := fun _ => dupS st [] = none) (kx := fun _ c fs => kx () c fs) st (fun x => ⟨a.C_Steps, x, dst, μ⟩) (Split.all _) (fun _ => rfl) (fun x => ⟨.inl rfl, hdst, rfl⟩) ⟨hl, fun e => e, hx⟩ (fun x r d μ1 hd hz => ?_) (fun x c fs y μ1 h hp hz => by rw [hz, List.append_nil]; exact ⟨(), _, SubP.of (List.Sublist.refl _), h, hp, rfl⟩)
    obtain ⟨hnon, o, dd, ls, hls, rfl⟩ := hz
    have g := newS_good (dupS_no hd) hl
    refine ⟨hnon, newS st, stM ⟨a.C_Steps, x, o, dd, ls, [("order", .ref o), ("leads", .ref dd)]⟩ (newS st) ++ μ, ?_, hk hd, _, rfl, ⟨g, .inl rfl, rfl, rfl, hls, by simp⟩, rfl⟩
    rw [List.append_nil]
    have e : nilM ls = lsM ls ((newS st).leads.l.map (·.2)) := by
      show _ = lsM ls ((st.map fun s => (s, ([] : List Nm))).map (·.2))
      rw [List.map_map]
      exact nilM_ls ls st hls
    rw [e]
    exact List.Sublist.refl _
  refine ifb ?_
  refine et_cmp ?_
  refine nm 0 ?_
  refine ev_int ?_
  refine og_eqI ?_
  refine xb ?_
  refine ⟨fun _ => ?_, fun _ => nil ?_⟩
  · refine ret ?_
    refine cCL (CX := L2.CX P w) sgU_mono T.mk_Part (ok_Part_init T) (hr.mono (by decide)) T.mgC_Part T.b_Part_init (passes_call tk fun _ _ _ _ h => h) ?_
    refine ea_c ?_
    refine nm 1 ?_
    refine ea_c ?_
    refine nm 2 ?_
    refine ea_nil ?_
    refine new_u (k := fun _ => dupS st [] = none) (kx := fun _ c fs => kx () c fs) (n, st) (fun x => ⟨a.C_Part, x, dst, μ⟩) (Split.all _) (fun _ => rfl) (fun x => ⟨.inl rfl, hdst, rfl⟩) ⟨hl, fun e => e, hx⟩ (fun x r d μ1 hd hz => ⟨hz.1, ?_⟩) (fun x c fs y μ1 h hp hz => by rw [hz, List.append_nil]; exact ⟨(), _, SubP.of (List.Sublist.refl _), h, hp, rfl⟩)
    obtain ⟨_, A, hls, e⟩ := hz
    exact part (.inl rfl) hls hd e
  refine ifb ?_
  refine et_cmp ?_
  refine nm 0 ?_
  refine ev_int ?_
  refine og_eqI ?_
  refine xb ?_
  refine ⟨fun _ => ?_, fun _ => nil ?_⟩
  · refine ret ?_
    refine cCL (CX := L2.CX P w) sgU_mono T.mk_Single (ok_Part_init T) (hr.mono (by decide)) T.mgC_Single T.b_Part_init (passes_call tk fun _ _ _ _ h => h) ?_
    refine ea_c ?_
    refine nm 1 ?_
    refine ea_c ?_
    refine nm 2 ?_
    refine ea_nil ?_
    refine new_u (k := fun _ => dupS st [] = none) (kx := fun _ c fs => kx () c fs) (n, st) (fun x => ⟨a.C_Single, x, dst, μ⟩) (Split.all _) (fun _ => rfl) (fun x => ⟨.inr (.inl rfl), hdst, rfl⟩) ⟨hl, fun e => e, hx⟩ (fun x r d μ1 hd hz => ⟨hz.1, ?_⟩) (fun x c fs y μ1 h hp hz => by rw [hz, List.append_nil]; exact ⟨(), _, SubP.of (List.Sublist.refl _), h, hp, rfl⟩)
    obtain ⟨_, A, hls, e⟩ := hz
    exact part (.inr (.inl rfl)) hls hd e
  · refine ret ?_
    refine cCL (CX := L2.CX P w) sgU_mono T.mk_Many (ok_Part_init T) (hr.mono (by decide)) T.mgC_Many T.b_Part_init (passes_call tk fun _ _ _ _ h => h) ?_
    refine ea_c ?_
    refine nm 1 ?_
    refine ea_c ?_
    refine nm 2 ?_
    refine ea_nil ?_
    refine new_u (k := fun _ => dupS st [] = none) (kx := fun _ c fs => kx () c fs) (n, st) (fun x => ⟨a.C_Many, x, dst, μ⟩) (Split.all _) (fun _ => rfl) (fun x => ⟨.inr (.inr rfl), hdst, rfl⟩) ⟨hl, fun e => e, hx⟩ (fun x r d μ1 hd hz => ⟨hz.1, ?_⟩) (fun x c fs y μ1 h hp hz => by rw [hz, List.append_nil]; exact ⟨(), _, SubP.of (List.Sublist.refl _), h, hp, rfl⟩)
    obtain ⟨_, A, hls, e⟩ := hz
    exact part (.inr (.inr rfl)) hls hd e
theorem ok_take (T : Tx P K mg a) : FnOk P w K mg base CX0 1 a.f_law_take a.fd_law_take ["_law_pool_here", "_law_size"] (spG (sgK K a) sg_take) := by
  refine fund_ok T.F_law_take sc_law_take (fun ds μ Q Ex h => ?_) (fun cdv A outer s H E ds μ Q Ex hr h => ?_)
  · obtain ⟨p, l, n, rfl, _⟩ := h
    rfl
  obtain ⟨p, l, n, rfl, rfl, hl, ⟨hn, hn2⟩, q⟩ := h
  have nd := sc_law_take.nd
  have hu := hu_room hr
  rcases hl with ⟨m, hm, rfl⟩ | ⟨x, k, cs, rfl, hx, hk, hc, hcl, hcs⟩
  · refine ifb <| et_cmp <| ev_callB rfl T.z_len b_len <| ea_cons <| nm 0 <| ea_nil <| cg_len rfl (.l (.ref (.head _))) <| ev_int <| og_eqI ⟨_, rfl, ⟨fun _ => ?_, fun h => by simp at h⟩⟩
    refine asg 2 nd <| ev_bin <| ev_callTy rfl T.z_int b_int <| ea_cons <| ev_ix (fun _ _ => rfl) <| nm 0 <| ev_int <| ig_l (.ref (.head _)) (by rfl) <| ea_nil <| cg_int <| nm 1 <| og_modI hn ?_
    refine setb <| ev_bin <| ev_ix (fun _ _ => rfl) <| nm 0 <| ev_int <| ig_l (.ref (.head _)) (by rfl) <| nm 1 <| og_fdivW (wide_div (b := 201) hn ?_ (by decide) (by decide)) <| tg_sub <| nm 0 <| ev_int ⟨p, _, _, 0, _, rfl, rfl, (by exact ixN0 (Nat.zero_lt_succ _)), .here, ?_⟩
    · have : (2 : Int) ^ 200 < 2 ^ 201 := by decide
      have e : ((2 ^ 201 : Nat) : Int) = 2 ^ 201 := by decide
      omega
    refine ret <| nm 2 <| q _ _ (Int.emod_nonneg _ (by omega)) (Int.emod_lt_of_pos _ hn) (.inl ⟨m / n, Int.ediv_nonneg hm (by omega), rfl⟩)
  · refine ifb <| et_cmp <| ev_callB rfl T.z_len b_len <| ea_cons <| nm 0 <| ea_nil <| cg_len rfl (.l (.ref (.head _))) <| ev_int <| og_eqI ⟨_, rfl, ⟨fun h => by simp at h, fun _ => nil ?_⟩⟩
    refine asg 3 nd <| ev_ix (fun _ _ => rfl) <| nm 0 <| ev_int <| ig_l (.ref (.head _)) (by rfl) ?_
    obtain ⟨c, hcm, hci⟩ := atI_mod hc hk
    have hc1 := hcs c hcm
    refine setb <| ev_bin <| ev_callTy rfl T.z_int b_int <| ea_cons <| ev_bin <| ev_bin <| ev_bin <| ev_ix (fun _ _ => rfl) <| nm 0 <| ev_int <| ig_l (.ref (.head _)) (by rfl) <| ev_int <| og_mulI (.inr ⟨by decide, by decide⟩) <| ev_ix (fun _ _ => rfl) <| nm 3 <| ev_bin <| ev_callTy rfl T.z_int b_int <| ea_cons <| ev_ix (fun _ _ => rfl) <| nm 0 <| ev_int <| ig_l (.ref (.head _)) (by rfl) <| ea_nil <| cg_int <| ev_callB rfl T.z_len b_len <| ea_cons <| nm 3 <| ea_nil <| cg_len rfl (.l (.val _)) <| og_modI ?_ <| ?_
    · rw [List.length_map]
      have hl : 0 < cs.length := List.length_pos_iff.mpr hc
      omega
    rw [List.length_map]
    refine ig_l (.val _) hci <| og_addI <| ev_int <| og_addI <| ea_nil <| cg_int <| ev_int <| og_modI (by decide) <| tg_sub <| nm 0 <| ev_int ⟨p, _, _, 0, _, rfl, rfl, (by exact ixN0 (Nat.zero_lt_succ _)), .here, ?_⟩
    have y1 : 0 ≤ (x * 75 + c + 74) % 65537 := Int.emod_nonneg _ (by decide)
    have y2 : (x * 75 + c + 74) % 65537 < 65537 := Int.emod_lt_of_pos _ (by decide)
    generalize (x * 75 + c + 74) % 65537 = y at y1 y2
    refine setb <| ev_bin <| ev_ix (fun _ _ => rfl) <| nm 0 <| ev_int <| ig_l (.ref (.head _)) (by rfl) <| ev_int <| og_addI <| tg_sub <| nm 0 <| ev_int ⟨p, _, _, 1, _, rfl, rfl, (by rfl), .here, ?_⟩
    have okl : PoolOk (((([.int x, .int k, .lst (cs.map D.int)] : List D).set 0 (.int y)).set 1 (.int (k + 1)))) := .inr ⟨y, k + 1, cs, rfl, ⟨y1, y2⟩, by omega, hc, hcl, hcs⟩
    refine ifb <| et_cmp <| nm 1 <| ev_int <| og_gtI ⟨_, rfl, ⟨fun _ => ?_, fun _ => nil ?_⟩⟩
    · refine ret <| ev_bin <| ev_callTy rfl T.z_int b_int <| ea_cons <| ev_bin <| ev_ix (fun _ _ => rfl) <| nm 0 <| ev_int <| ig_l (.ref (.head _)) (by rfl) <| ev_int <| og_powI ⟨by decide, by decide, by omega⟩ <| ea_nil <| cg_int <| nm 1 <| og_modI hn ?_
      exact q _ _ (Int.emod_nonneg _ (by omega)) (Int.emod_lt_of_pos _ hn) okl
    · refine ret <| ev_bin <| ev_callTy rfl T.z_int b_int <| ea_cons <| ev_ix (fun _ _ => rfl) <| nm 0 <| ev_int <| ig_l (.ref (.head _)) (by rfl) <| ea_nil <| cg_int <| nm 1 <| og_modI hn ?_
      exact q _ _ (Int.emod_nonneg _ (by omega)) (Int.emod_lt_of_pos _ hn) okl
/-! ### the law's own defs -/
theorem at0 {x : Int} {xs : List Int} : atI (x :: xs) 0 = some x := by
  unfold atI
  rw [ixN0 (n := (x :: xs).length) (Nat.zero_lt_succ _)]
  rfl
def sg_pool : SpG := fun ds μ Q _ => ∃ ns : List Int, ds = [.scr ns] ∧ ns.length ≤ 63 ∧ μ = [] ∧ ∀ p l, PoolOk l → Q (.ref p) [(p, .lst l)]
theorem pool_mono : MonoG sg_pool := fun _ _ _ _ _ _ ⟨ns, h1, h2, h3, q⟩ m _ => ⟨ns, h1, h2, h3, fun p l h => m _ _ (q p l h)⟩
theorem ok_pool (T : Tx P K mg a) : FnOk P w K mg base CX0 1 a.f_law_pool a.fd_law_pool ["_law_script"] (spG (sgK K a) sg_pool) := by
  refine fund_ok T.F_law_pool sc_law_pool (fun ds μ Q Ex h => ?_) (fun cdv A outer s H E ds μ Q Ex hr h => ?_)
  · obtain ⟨ns, rfl, _⟩ := h
    rfl
  obtain ⟨ns, rfl, hlen, rfl, q⟩ := h
  have nd := sc_law_pool.nd
  refine ifb <| et_cmp <| ev_callB rfl T.z_len b_len <| ea_cons <| nm 0 <| ea_nil <| cg_lenScr rfl <| ev_int <| og_eqI ⟨_, rfl, fun h => ?_, fun h => nil ?_⟩
  · exact ret <| ev_lstM <| ea_cons <| ev_int <| ea_few (fun p _ => q p _ (.inl ⟨0, by decide, rfl⟩))
  · cases ns with
    | nil => simp at h
    | cons n ns =>
    refine ifb <| et_cmp <| ev_ix (fun _ _ => rfl) <| nm 0 <| ev_int <| ig_scr (ns := n :: ns) rfl at0 <| ev_bin <| ev_int <| ev_int <| og_powI ⟨by decide, by decide, by decide⟩ <| og_geI ⟨_, rfl, fun h => ?_, fun _ => nil ?_⟩
    · refine ret <| ev_lstM <| ea_cons <| ev_bin <| ev_ix (fun _ _ => rfl) <| nm 0 <| ev_int <| ig_scr (ns := n :: ns) rfl at0 <| ev_bin <| ev_int <| ev_int <| og_powI ⟨by decide, by decide, by decide⟩ <| og_subI <| ea_few (fun p _ => q p _ (.inl ⟨_, ?_, rfl⟩))
      have := of_decide_eq_true h
      omega
    · refine ret <| ev_lstM <| ea_cons <| ev_int <| ea_cons <| ev_int <| ea_cons <| ev_lc (own := [("_law_cell", 1)]) rfl nd (blkOk_by (N := N_law_pool) (sc := defScope s_law_pool) (by decide +kernel)) rfl <| ig_val <| nm 0 <| iv_scr rfl ⟨fun i acc μ' => acc = (((n :: ns).take i).map (fun c => c % 65537)).map D.int ∧ μ' = [], ⟨rfl, rfl⟩, fun _ _ _ _ => trivial, ?_, ?_⟩
      · rintro i d acc _ hd ⟨rfl, rfl⟩ k
        obtain ⟨c, hc, rfl⟩ := map_at hd
        refine tn 1 nd fun k => ts_nil ⟨fun _ k => ?_, fun h => nomatch h⟩
        refine ev_bin <| ev_callTy rfl T.z_int b_int <| ea_cons <| nm 1 <| ea_nil <| cg_int <| ev_int <| og_modI (by decide) ⟨?_, ?_, rfl⟩
        · have h3 : ((n :: ns).take i).length ≤ (n :: ns).length := List.length_take_le' i _
          rw [List.length_map, List.length_map]
          omega
        · rw [take_snoc hc, List.map_append, List.map_append]
          rfl
      · rintro acc _ ⟨rfl, rfl⟩
        rw [List.length_map, List.take_length]
        refine ea_few (fun p _ => q p _ (.inr ⟨1, 0, (n :: ns).map (fun c => c % 65537), rfl, by decide, by decide, (by simp), (by rw [List.length_map]; exact hlen), fun c hc => ?_⟩))
        obtain ⟨x, _, rfl⟩ := List.mem_map.mp hc
        exact ⟨Int.emod_nonneg _ (by decide), Int.emod_lt_of_pos _ (by decide)⟩
section
variable {X : Cx} {e : Expr} {es : List Expr} {Γ : Gm} {μ : Mem} {Q : QD} {p pos : Pos}
theorem c_take (T : Tx P K mg a) (hX : X.prog = P ∧ X.w = w ∧ X.K = K ∧ X.mg = mg ∧ X.base = base) (hr : Room 1 X.A) (h : EvA X (sgK K a).nx (e :: es) Γ μ fun ds μ1 => AskG (sgK K a).nx sg_take ds μ1 Q) (hg : Gl X "_law_take" := by rfl)
    (he : starEach (e :: es) X.env = (false, eval e X.env) :: starEach es X.env := by rfl) (hpl : (backTo pos (starEach es X.env)).any (·.1) = false := by rfl) : EvG X (sgK K a).nx (.Call (.Name "_law_take" p) (e :: es) [] pos) Γ μ Q := by
  obtain ⟨rfl, rfl, rfl, rfl, rfl⟩ := hX
  exact ev_call take_mono (ok_take T) hr hg T.mg_law_take T.F_law_take.kp T.b_law_take .nil (fun _ => .nil) pass0 (by simpa only [List.append_nil] using h) (by decide) he hpl
end
def sg_base : SpG := fun ds μ Q _ => ∃ p l, ds = [.ref p] ∧ μ = [(p, .lst l)] ∧ PoolOk l ∧ ∀ z l', BaseOk z → PoolOk l' → Q (.str z) [(p, .lst l')]
theorem base_mono : MonoG sg_base := fun _ _ _ _ _ _ ⟨p, l, h1, h2, h3, q⟩ m _ => ⟨p, l, h1, h2, h3, fun z l' a b => m _ _ (q z l' a b)⟩
theorem base_at {r : Int} (h1 : 0 ≤ r) (h2 : r < 24) : ∃ c, c ∈ baseC ∧ atI baseC r = some c := by
  obtain ⟨n, rfl⟩ := Int.eq_ofNat_of_zero_le h1
  have hn : n < baseC.length := by rw [base_len]; omega
  refine ⟨baseC[n], List.getElem_mem hn, ?_⟩
  have : ∀ n : Nat, n < 24 → atI baseC (n : Int) = baseC[n]? := by decide +kernel
  rw [this n (by omega)]
  exact List.getElem?_eq_getElem hn
theorem ok_base (T : Tx P K mg a) : FnOk P w K mg base CX0 2 a.f_law_base a.fd_law_base ["_law_pool_here"] (spG (sgK K a) sg_base) := by
  refine fund_ok T.F_law_base sc_law_base (fun ds μ Q Ex h => ?_) (fun cdv A outer s H E ds μ Q Ex hr h => ?_)
  · obtain ⟨p, l, rfl, _⟩ := h
    rfl
  obtain ⟨p, l, rfl, rfl, hl, q⟩ := h
  have nd := sc_law_base.nd
  refine asg 1 nd <| ev_str <| ret <| ev_bm PySem.F.plainAttrs_str PySem.F.slot_str_join PySem.F.type_str_join <| ev_str ⟨rfl, ea_cons <| ev_lc (own := [("_law_k", 2)]) rfl nd (blkOk_by (N := N_law_base) (sc := defScope s_law_base) (by decide +kernel)) rfl <| ig_range1 rfl T.z_range <| ea_cons <| c_take (P := P) (w := w) (base := base) T ⟨rfl, rfl, rfl, rfl, rfl⟩ hr <| ea_cons <| nm 0 <| ea_cons <| ev_int <| ea_nil <| ask_take hl (by decide) fun r l1 r1 r2 hl1 => ea_nil ⟨r, rfl, by omega, ?_⟩⟩
  refine ⟨fun i acc μ' => ∃ (xs : List Nat) (l' : List D), acc = (xs.map fun c => (⟨#[c]⟩ : Str)).map D.str ∧ xs.length = i ∧ (∀ c ∈ xs, c ∈ baseC) ∧ μ' = [(p, .lst l')] ∧ PoolOk l', ⟨[], l1, rfl, rfl, (fun c h => by cases h), rfl, hl1⟩, fun _ _ _ _ => trivial, ?_, ?_⟩
  · rintro i d acc _ hd ⟨xs, l', rfl, hxl, hxs, rfl, hl'⟩ k
    obtain ⟨hi, rfl⟩ := rng_get hd
    refine tn 2 nd fun k => ts_nil ⟨fun _ k => ?_, fun h => nomatch h⟩
    refine ev_ix (fun _ _ => rfl) <| nm 1 <| c_take (P := P) (w := w) (base := base) T ⟨rfl, rfl, rfl, rfl, rfl⟩ hr <| ea_cons <| nm 0 <| ea_cons <| ev_int <| ea_nil <| ask_take hl' (by decide) fun r2 l2 r1 r2 hl2 => ?_
    obtain ⟨c, hc, hat⟩ := base_at r1 r2
    refine ig_s (by decide +kernel) hat ⟨?_, xs ++ [c], l2, (by rw [List.map_append, List.map_append]; rfl), (by simp [hxl]), ?_, rfl, hl2⟩
    · rw [List.length_map, List.length_map, hxl]
      omega
    · intro d hd
      rcases List.mem_append.mp hd with h | h
      · exact hxs d h
      · cases List.mem_singleton.mp h
        exact hc
  · rintro acc _ ⟨xs, l', rfl, hxl, hxs, rfl, hl'⟩
    rw [rng_len] at hxl
    refine ea_nil (mt_join rfl ?_ (q _ _ ⟨?_, ?_⟩ hl'))
    · have e1 : ∀ xs : List Nat, ((xs.map fun c => (⟨#[c]⟩ : Str)).map (·.length)).sum = xs.length := fun xs => by
        induction xs with
        | nil => rfl
        | cons x xs ih => rw [List.map_cons, List.map_cons, List.sum_cons, ih, List.length_cons]; show 1 + xs.length = _; omega
      rw [e1, List.length_map]
      show _ + _ * 0 ≤ _
      omega
    · rw [join_cs]
      omega
    · rw [join_cs]
      exact hxs
def sg_name : SpG := fun ds μ Q _ => ∃ p l b k, ds = [.ref p, .str b, .int k] ∧ μ = [(p, .lst l)] ∧ PoolOk l ∧ BaseOk b ∧ (0 ≤ k ∧ k < 12) ∧ ∀ z l', NameOk k.toNat z → PoolOk l' → Q (.str z) [(p, .lst l')]
theorem name_mono : MonoG sg_name := fun _ _ _ _ _ _ ⟨p, l, b, k, h1, h2, h3, h4, h5, q⟩ m _ => ⟨p, l, b, k, h1, h2, h3, h4, h5, fun z l' a b => m _ _ (q z l' a b)⟩
theorem mark_at {r : Int} (h1 : 0 ≤ r) (h2 : r < 12) : ∃ c, markC[r.toNat]? = some c ∧ atI markC r = some c := by
  obtain ⟨n, rfl⟩ := Int.eq_ofNat_of_zero_le h1
  have hn : n < markC.length := by rw [mark_len]; omega
  refine ⟨markC[n], by rw [Int.toNat_natCast]; exact List.getElem?_eq_getElem hn, ?_⟩
  have : ∀ n : Nat, n < 12 → atI markC (n : Int) = markC[n]? := by decide +kernel
  rw [this n (by omega)]
  exact List.getElem?_eq_getElem hn
theorem ok_name (T : Tx P K mg a) : FnOk P w K mg base CX0 2 a.f_law_name a.fd_law_name ["_law_pool_here", "_law_base_here", "_law_k"] (spG (sgK K a) sg_name) := by
  refine fund_ok T.F_law_name sc_law_name (fun ds μ Q Ex h => ?_) (fun cdv A outer s H E ds μ Q Ex hr h => ?_)
  · obtain ⟨p, l, b, k, rfl, _⟩ := h
    rfl
  obtain ⟨p, l, b, k, rfl, rfl, hl, hb, ⟨k1, k2⟩, q⟩ := h
  have nd := sc_law_name.nd
  have hbl : b.length ≤ 11 := by rw [cs_len]; exact hb.1
  refine asg 3 nd <| ev_sl <| nm 1 <| po_no <| po_so <| c_take (P := P) (w := w) (base := base) T ⟨rfl, rfl, rfl, rfl, rfl⟩ hr <| ea_cons <| nm 0 <| ea_cons <| ev_bin <| ev_callB rfl T.z_len b_len <| ea_cons <| nm 1 <| ea_nil <| cg_lenS (z := b) (by omega) <| ev_int <| og_addI <| ea_nil <| ask_take hl (by omega) fun r l1 r1 r2 hl1 => ?_
  obtain ⟨n, rfl⟩ := Int.eq_ofNat_of_zero_le r1
  refine ⟨_, rfl, slg_s (by omega) ?_⟩
  have ht : cs (cutS b none (some (n : Int))) = (cs b).take n := cutS_tl
  generalize cutS b none (some (n : Int)) = t at ht
  have htl : t.length ≤ 11 := by
    rw [cs_len, ht]
    exact Nat.le_trans (List.length_take_le' n _) hb.1
  refine asg 4 nd <| c_take (P := P) (w := w) (base := base) T ⟨rfl, rfl, rfl, rfl, rfl⟩ hr <| ea_cons <| nm 0 <| ea_cons <| ev_bin <| ev_callB rfl T.z_len b_len <| ea_cons <| nm 3 <| ea_nil <| cg_lenS (z := t) (by omega) <| ev_int <| og_addI <| ea_nil <| ask_take hl1 (by omega) fun m l2 m1 m2 hl2 => ?_
  obtain ⟨m, rfl⟩ := Int.eq_ofNat_of_zero_le m1
  obtain ⟨c, hc, hat⟩ := mark_at k1 k2
  have a1 : cs (cutS t none (some (m : Int))) = (cs t).take m := cutS_tl
  have a2 : cs (cutS t (some (m : Int)) none) = (cs t).drop m := cutS_hd
  have b1 : (cutS t none (some (m : Int))).length ≤ 11 := by
    rw [cs_len, a1]
    have := List.length_take_le' m (cs t)
    rw [cs_len] at htl
    omega
  have b2 : (cutS t (some (m : Int)) none).length ≤ 11 := by
    rw [cs_len, a2, List.length_drop]
    rw [cs_len] at htl
    omega
  have b3 : (cutS t none (some (m : Int)) ++ (⟨#[c]⟩ : Str)).length ≤ 12 := by
    rw [cs_len, cs_app, List.length_append, ← cs_len, cs_one]
    show _ + 1 ≤ _
    omega
  refine ret <| ev_bin <| ev_bin <| ev_sl <| nm 3 <| po_no <| po_so <| nm 4 ⟨_, rfl, slg_s (z := t) (by omega) <| ev_ix (fun _ _ => rfl) <| ev_str <| nm 2 <| ig_s (by decide +kernel) hat <| og_addS (x := cutS t none (some (m : Int))) (y := ⟨#[c]⟩) (by show _ + 1 ≤ _; omega) <| ev_sl <| nm 3 <| po_so <| nm 4 ⟨_, rfl, po_no <| slg_s (z := t) (by omega) <| og_addS (x := cutS t none (some (m : Int)) ++ ⟨#[c]⟩) (y := cutS t (some (m : Int)) none) (by omega) (q _ _ ⟨(cs t).take m, (cs t).drop m, c, ?_, hc, ?_, ?_⟩ hl2)⟩⟩
  · rw [cs_app, cs_app, a1, a2, cs_one, List.append_assoc]
    rfl
  · rw [List.take_append_drop, ht]
    exact fun c hc => hb.2 c (List.mem_of_mem_take hc)
  · rw [List.take_append_drop, ← cs_len]
    exact htl
/-! ### the drawing defs, over typed data -/
abbrev BaseS := {z : Str // BaseOk z}
instance : Rpd BaseS := ⟨fun x => .str x.1⟩
theorem nm_of {k : Nat} {z : Str} (h : NameOk k z) : OkS z ∧ z.length ≤ 1000 := ⟨h.ok, Nat.le_trans h.len (by decide)⟩
def m_law_base (k : BaseS → Prop) : Prop := ∀ z, k z
def m_law_name (b : BaseS) (i : Int) (k : Nm → Prop) : Prop := (0 ≤ i ∧ i < 12) ∧ ∀ z : Nm, NameOk i.toNat z.1 → k z
abbrev sg_law_base : SpG := sgP (fun (_ : Unit) => []) (fun _ kk => m_law_base kk)
abbrev sg_law_name : SpG := sgP (fun (x : BaseS × Int) => [rp x.1, rp x.2]) (fun x kk => m_law_name x.1 x.2 kk)
theorem ok_law_base (T : Tx P K mg a) : FnOk P w K mg base CX0 2 a.f_law_base a.fd_law_base ["_law_pool_here"] (spG (sgK K a) sg_law_base) :=
  (ok_base T).imp fun vs H Q E ⟨F0, N, ds, μ, r, rv, _, p, l, k, e1, e2, hl, hm, q⟩ => ⟨F0, N, ds, μ, r, rv, p, l, e1, e2, hl, fun z l' hz hl' => q ⟨z, hz⟩ l' hl' (hm ⟨z, hz⟩)⟩
theorem ok_law_name (T : Tx P K mg a) : FnOk P w K mg base CX0 2 a.f_law_name a.fd_law_name ["_law_pool_here", "_law_base_here", "_law_k"] (spG (sgK K a) sg_law_name) :=
  (ok_name T).imp fun vs H Q E ⟨F0, N, ds, μ, r, rv, x, p, l, k, e1, e2, hl, hm, q⟩ => ⟨F0, N, ds, μ, r, rv, p, l, x.1.1, x.2, e1, e2, hl, x.1.2, hm.1, fun z l' hz hl' => q ⟨z, nm_of hz⟩ l' hl' (hm.2 ⟨z, nm_of hz⟩ hz)⟩
def m_law_is_tuple (v_actual : ((Tu Nm) ⊕ (List Nm))) (v_expected : (Tu Nm)) (k : Bool → Prop) : Prop :=
  match v_actual with | .inl u1 => (k (decide (u1 = v_expected))) | .inr u2 => (k false)
abbrev sg_law_is_tuple : SpG := sgN (fun (x : ((Tu Nm) ⊕ (List Nm)) × (Tu Nm)) => [rp x.1, rp x.2]) (fun (x : ((Tu Nm) ⊕ (List Nm)) × (Tu Nm)) kk => m_law_is_tuple x.1 x.2 kk)
theorem ok_law_is_tuple (T : Tx P K mg a) : FnOk P w K mg base CX0 1 a.f_law_is_tuple a.fd_law_is_tuple ["_law_actual", "_law_expected"] (spG (sgK K a) sg_law_is_tuple) := by
  refine fundN T.F_law_is_tuple sc_law_is_tuple (fun _ => rfl) (fun cdv A outer s H E x k hr h => ?_)
  obtain ⟨v_actual, v_expected⟩ := x
  have hu := hu_room hr
  have nd := sc_law_is_tuple.nd
  replace h : m_law_is_tuple v_actual v_expected k := h
  unfold m_law_is_tuple at h
  cases v_actual with
  | inl u1 =>
    refine ret ?_
    refine ev_and ?_
    refine cB T.z_isinstance b_isinstance ?_
    refine ea_c ?_
    refine nm 0 ?_
    refine ea_c ?_
    refine ev_bty (by rfl) T.z_tuple b_tuple ?_
    refine ea_nil ?_
    refine cg_isiT (by rfl) (.tup _) kit_same ?_
    refine xcntT ?_
    refine ev_and1 ?_
    refine ev_cmp ?_
    refine nm 0 ?_
    refine nm 1 ?_
    refine op_eq u1 v_expected hu .val .val ?_
    refine ⟨decide (u1 = v_expected), rfl, h⟩
  | inr u2 =>
    refine ret ?_
    refine ev_and ?_
    refine cB T.z_isinstance b_isinstance ?_
    refine ea_c ?_
    refine nm 0 ?_
    refine ea_c ?_
    refine ev_bty (by rfl) T.z_tuple b_tuple ?_
    refine ea_nil ?_
    refine cg_isiT (by rfl) (.lst (.val _)) (show PySem.W.kitOne K (.type "list") (.type "tuple") = some false by kernel_rfl) ?_
    refine xandF ?_
    refine ⟨false, rfl, h⟩

def m_law_due (v_standings : (List Nm)) (v_before : Nm) (v_after : Nm) (k : (Option ((Nm × Nm) ⊕ (T3 Nm Nm Nm))) → Prop) : Prop :=
  forI ([v_before, v_after]) () (fun (x4 : Nm) (s1 : Unit) J2 => ((!(inb x4 v_standings)) = true → k (some (Sum.inl ((⟨"unknown", by decide +kernel⟩ : Nm), x4) : ((Nm × Nm) ⊕ (T3 Nm Nm Nm))))) ∧ ((!(inb x4 v_standings)) = false → J2 ())) (fun s1 => (decide (v_before = v_after) = true → k (some (Sum.inr (T3.mk (⟨"nostep", by decide +kernel⟩ : Nm) v_before v_after) : ((Nm × Nm) ⊕ (T3 Nm Nm Nm))))) ∧ (decide (v_before = v_after) = false → k none))
abbrev sg_law_due : SpG := sgN (fun (x : (List Nm) × Nm × Nm) => [rp x.1, rp x.2.1, rp x.2.2]) (fun (x : (List Nm) × Nm × Nm) kk => m_law_due x.1 x.2.1 x.2.2 kk)
theorem ok_law_due (T : Tx P K mg a) : FnOk P w K mg base CX0 1 a.f_law_due a.fd_law_due ["_law_standings", "_law_before", "_law_after"] (spG (sgK K a) sg_law_due) := by
  refine fundN T.F_law_due sc_law_due (fun _ => rfl) (fun cdv A outer s H E x k hr h => ?_)
  obtain ⟨v_standings, v_before, v_after⟩ := x
  have hu := hu_room hr
  have nd := sc_law_due.nd
  replace h : m_law_due v_standings v_before v_after k := h
  unfold m_law_due at h
  refine forb PassesOwn.never ?_
  refine ig_val ?_
  refine ev_lst ?_
  refine ea_c ?_
  refine nm 1 ?_
  refine ea_c ?_
  refine nm 2 ?_
  refine ea_few ?_
  refine it_l ([v_before, v_after]) ?_
  refine forQ (xs := ([v_before, v_after])) (s0 := ()) (f := fun x4 : Nm => rp x4) h (fun (s1 : Unit) Γ' μ' => ∃ (o3 : Option D) , Γ' = [some (rp v_standings), some (rp v_before), some (rp v_after), o3] ∧ μ' = []) ⟨_, rfl, rfl⟩ (fun _ _ _ _ => trivial) (fun x4 s1 J2 Γ' μ' hx r h => ?_) (fun s1 Γ' μ' r h => ?_)
  · obtain ⟨o3, rfl, rfl⟩ := r
    refine tn 3 ?nd5 ?_
    case nd5 => exact nd
    refine ifb ?_
    refine et_cmp ?_
    refine nm 3 ?_
    refine nm 0 ?_
    refine op_ni x4 v_standings hu .val (isl rfl) ?_
    refine xb ?_
    refine ⟨fun ht => ?_, fun ht => ?_⟩
    · replace h := h.1 ht
      refine ret ?_
      refine ev_tup ?_
      refine ea_c ?_
      refine ev_str ?_
      refine ea_c ?_
      refine nm 3 ?_
      refine ea_few ?_
      refine ⟨(some (Sum.inl ((⟨"unknown", by decide +kernel⟩ : Nm), x4) : ((Nm × Nm) ⊕ (T3 Nm Nm Nm)))), rfl, h⟩
    replace h := h.2 ht
    refine nil ?_
    exact nil ⟨(), h, ⟨_, rfl, rfl⟩⟩
  obtain ⟨o3, rfl, rfl⟩ := r
  refine ifb ?_
  refine et_cmp ?_
  refine nm 1 ?_
  refine nm 2 ?_
  refine op_eq v_before v_after hu .val .val ?_
  refine xb ?_
  refine ⟨fun ht => ?_, fun ht => ?_⟩
  · replace h := h.1 ht
    refine ret ?_
    refine ev_tup ?_
    refine ea_c ?_
    refine ev_str ?_
    refine ea_c ?_
    refine nm 1 ?_
    refine ea_c ?_
    refine nm 2 ?_
    refine ea_few ?_
    refine ⟨(some (Sum.inr (T3.mk (⟨"nostep", by decide +kernel⟩ : Nm) v_before v_after) : ((Nm × Nm) ⊕ (T3 Nm Nm Nm)))), rfl, h⟩
  replace h := h.2 ht
  refine nil ?_
  refine ret ?_
  refine ev_non ?_
  refine ⟨none, rfl, h⟩

def m_law_steps (v_part : StV) (v_standing : Nm) (k : ((Tu Nm) ⊕ (List Nm)) → Prop) (kx : Unit → KX) : Prop :=
  m_Steps_steps_from v_part v_standing (fun r3 => k (Sum.inl r3 : ((Tu Nm) ⊕ (List Nm)))) (fun y4 c fs => (c = 10 ∧ ∃ (e6 : Nm), fs = [rp e6] ∧ (k (Sum.inr ([(⟨"unknown", by decide +kernel⟩ : Nm), e6]) : ((Tu Nm) ⊕ (List Nm))))))
abbrev sg_law_steps (a : Ad) : SpG := sgU (A := StV × Nm) (Z := StZ) (ρ := ((Tu Nm) ⊕ (List Nm))) (Y := Unit) (fun x z => [.ref z.x, rp x.2]) (fun x z μ => StOk a z x.1 ∧ μ = stM z x.1) (fun x z r d μ => d = rp r ∧ StOk a z x.1 ∧ μ = stM z x.1) (fun x z y μ => StOk a z x.1 ∧ μ = stM z x.1) (fun x k kx => m_law_steps x.1 x.2 k kx)
theorem ok_law_steps (T : Tx P K mg a) : FnOk P w K mg base (L2.CX P w) 4 a.f_law_steps a.fd_law_steps ["_law_part", "_law_standing"] (spG (sgK K a) (sg_law_steps a)) := by
  refine fundU T.F_law_steps sc_law_steps (fun _ _ => rfl) (fun cdv A outer s H E x z1 μ k kx hr tk hm h => ?_)
  obtain ⟨v_part, v_standing⟩ := x
  obtain ⟨kz1, rfl⟩ := hm
  replace kz1 : StOk a z1 v_part := kz1
  have hu := hu_room hr
  have nd := sc_law_steps.nd
  replace h : m_law_steps v_part v_standing k kx := h
  unfold m_law_steps at h
  refine bl_cons ?_
  refine st_try (by rfl) (by rfl) nd tk (.cons (i := 2) (by rfl) (by rfl) ⟨by rfl, by decide, .inl T.mgC_Unknown⟩ .nil) fun pn xe wx tk => ?_
  refine ret ?_
  refine ev_meth (ns := z1.fs.map (·.1)) (CX := L2.CX P w) sgU_mono (clS T kz1.cl) (mS_Steps_steps_from T kz1.cl) (ok_Steps_steps_from T) (hr.mono (by decide)) T.b_Steps_steps_from .nil (fun _ => .nil) (passes_call tk fun _ _ _ _ h => h) ?_
  refine nm 0 ?_
  refine And.intro (.ins (.head _)) ?_
  refine And.intro (fun hh => absurd (kz1.mn _ hh) (by decide)) ?_
  refine ea_c ?_
  refine nm 1 ?_
  refine ea_nil ?_
  refine ask_uA (v_part, v_standing) z1 rfl ⟨kz1, rfl⟩ h (fun r3 d μ1 h hz => ?_) (fun c fs y4 μ1 h hp hz => ?_)
  rotate_left
  · obtain ⟨k5, rfl⟩ := hz
    rcases h with ⟨rfl, h⟩
    · refine ⟨true, T.ex_Unknown_Unknown, fun _ ax dd oe pn hz hf => ?_, fun h => nomatch h⟩
      obtain ⟨e6, rfl, h⟩ := h
      refine ret ?_
      refine ev_lst ?_
      refine ea_c ?_
      refine ev_str ?_
      refine ea_c ?_
      refine ev_xf (c := 10) T.xf_Unknown T.na_Unknown_name hz hf nd_Unknown ?_
      refine nm 2 ?_
      refine xex (l := [rp e6]) (i := 0) (rp e6) (by rfl) (by rfl) ?_
      refine ea_few ?_
      refine ⟨(Sum.inr ([(⟨"unknown", by decide +kernel⟩ : Nm), e6]) : ((Tu Nm) ⊕ (List Nm))), _, (List.Sublist.refl _), h, rfl, k5, rfl⟩
  obtain ⟨rfl, k7, rfl⟩ := hz
  refine ⟨(Sum.inl r3 : ((Tu Nm) ⊕ (List Nm))), _, (List.Sublist.refl _), h, rfl, k7, rfl⟩

def m_law_allowed (v_part : StV) (v_before : Nm) (v_after : Nm) (k : ((Option ((Nm × Nm) ⊕ (T3 Nm Nm Nm))) × StV) → Prop) (kx : StV → KX) : Prop :=
  m_Steps_allow v_part v_before v_after (fun r5 => k ((none : (Option ((Nm × Nm) ⊕ (T3 Nm Nm Nm)))), r5.2)) (fun y6 c fs => (c = 10 ∧ ∃ (e8 : Nm), fs = [rp e8] ∧ (k ((some (Sum.inl ((⟨"unknown", by decide +kernel⟩ : Nm), e8) : ((Nm × Nm) ⊕ (T3 Nm Nm Nm)))), y6))) ∨ (c = 11 ∧ ∃ (e9 : Nm) (e10 : Nm), fs = [rp e10, rp e9] ∧ (k ((some (Sum.inr (T3.mk (⟨"nostep", by decide +kernel⟩ : Nm) e9 e10) : ((Nm × Nm) ⊕ (T3 Nm Nm Nm)))), y6))))
abbrev sg_law_allowed (a : Ad) : SpG := sgU (A := StV × Nm × Nm) (Z := StZ) (ρ := (Option ((Nm × Nm) ⊕ (T3 Nm Nm Nm))) × StV) (Y := StV) (fun x z => [.ref z.x, rp x.2.1, rp x.2.2]) (fun x z μ => StOk a z x.1 ∧ μ = stM z x.1) (fun x z r d μ => d = rp r.1 ∧ StOk a z r.2 ∧ μ = stM z r.2) (fun x z y μ => StOk a z y ∧ μ = stM z y) (fun x k kx => m_law_allowed x.1 x.2.1 x.2.2 k kx)
theorem ok_law_allowed (T : Tx P K mg a) : FnOk P w K mg base (L2.CX P w) 4 a.f_law_allowed a.fd_law_allowed ["_law_part", "_law_before", "_law_after"] (spG (sgK K a) (sg_law_allowed a)) := by
  refine fundU T.F_law_allowed sc_law_allowed (fun _ _ => rfl) (fun cdv A outer s H E x z1 μ k kx hr tk hm h => ?_)
  obtain ⟨v_part, v_before, v_after⟩ := x
  obtain ⟨kz1, rfl⟩ := hm
  replace kz1 : StOk a z1 v_part := kz1
  have hu := hu_room hr
  have nd := sc_law_allowed.nd
  replace h : m_law_allowed v_part v_before v_after k kx := h
  unfold m_law_allowed at h
  refine bl_cons ?_
  refine st_try (by rfl) (by rfl) nd tk (.cons (i := 3) (by rfl) (by rfl) ⟨by rfl, by decide, .inl T.mgC_Unknown⟩ (.cons (i := 3) (by rfl) (by rfl) ⟨by rfl, by decide, .inl T.mgC_NoStep⟩ .nil)) fun pn xe wx tk => ?_
  refine ret ?_
  refine ev_meth (ns := z1.fs.map (·.1)) (CX := L2.CX P w) sgU_mono (clS T kz1.cl) (mS_Steps_allow T kz1.cl) (ok_Steps_allow T) (hr.mono (by decide)) T.b_Steps_allow .nil (fun _ => .nil) (passes_call tk fun _ _ _ _ h => h) ?_
  refine nm 0 ?_
  refine And.intro (.ins (.head _)) ?_
  refine And.intro (fun hh => absurd (kz1.mn _ hh) (by decide)) ?_
  refine ea_c ?_
  refine nm 1 ?_
  refine ea_c ?_
  refine nm 2 ?_
  refine ea_nil ?_
  refine ask_uA (v_part, v_before, v_after) z1 rfl ⟨kz1, rfl⟩ h (fun r5 d μ1 h hz => ?_) (fun c fs y6 μ1 h hp hz => ?_)
  rotate_left
  · obtain ⟨k7, rfl⟩ := hz
    rcases h with ⟨rfl, h⟩ | ⟨rfl, h⟩
    · refine ⟨true, T.ex_Unknown_Unknown, fun _ ax dd oe pn hz hf => ?_, fun h => nomatch h⟩
      obtain ⟨e8, rfl, h⟩ := h
      refine ret ?_
      refine ev_tup ?_
      refine ea_c ?_
      refine ev_str ?_
      refine ea_c ?_
      refine ev_xf (c := 10) T.xf_Unknown T.na_Unknown_name hz hf nd_Unknown ?_
      refine nm 3 ?_
      refine xex (l := [rp e8]) (i := 0) (rp e8) (by rfl) (by rfl) ?_
      refine ea_few ?_
      refine ⟨((some (Sum.inl ((⟨"unknown", by decide +kernel⟩ : Nm), e8) : ((Nm × Nm) ⊕ (T3 Nm Nm Nm)))), y6), _, (List.Sublist.refl _), h, rfl, k7, rfl⟩
    · refine ⟨false, T.ex_NoStep_Unknown, (fun h => nomatch h), fun _ => ?_⟩
      refine ⟨true, T.ex_NoStep_NoStep, fun _ ax dd oe pn hz hf => ?_, fun h => nomatch h⟩
      obtain ⟨e9, e10, rfl, h⟩ := h
      refine ret ?_
      refine ev_tup ?_
      refine ea_c ?_
      refine ev_str ?_
      refine ea_c ?_
      refine ev_xf (c := 11) T.xf_NoStep T.na_NoStep_before hz hf nd_NoStep ?_
      refine nm 3 ?_
      refine xex (l := [rp e10, rp e9]) (i := 1) (rp e9) (by rfl) (by rfl) ?_
      refine ea_c ?_
      refine ev_xf (c := 11) T.xf_NoStep T.na_NoStep_after hz hf nd_NoStep ?_
      refine nm 3 ?_
      refine xex (l := [rp e10, rp e9]) (i := 0) (rp e10) (by rfl) (by rfl) ?_
      refine ea_few ?_
      refine ⟨((some (Sum.inr (T3.mk (⟨"nostep", by decide +kernel⟩ : Nm) e9 e10) : ((Nm × Nm) ⊕ (T3 Nm Nm Nm)))), y6), _, (List.Sublist.refl _), h, rfl, k7, rfl⟩
  obtain ⟨rfl, k11, rfl⟩ := hz
  refine ⟨((none : (Option ((Nm × Nm) ⊕ (T3 Nm Nm Nm)))), r5.2), _, (List.Sublist.refl _), h, rfl, k11, rfl⟩

def m_law_repeated (v_k : Int) (v_name_here : Nm) (v_standings : (List Nm)) (k : (Option (Nm × Nm)) → Prop) : Prop :=
  ∃ J2 : Prop, (m_law_made v_standings (fun r3 => J2) (fun _ c fs => (c = 9 ∧ ∃ (e6 : Nm), fs = [rp e6] ∧ (k (some ((⟨"repeated", by decide +kernel⟩ : Nm), e6)))))) ∧ (J2 → k none)
abbrev sg_law_repeated : SpG := sgN (fun (x : Int × Nm × (List Nm)) => [rp x.1, rp x.2.1, rp x.2.2]) (fun (x : Int × Nm × (List Nm)) kk => m_law_repeated x.1 x.2.1 x.2.2 kk)
theorem ok_law_repeated (T : Tx P K mg a) : FnOk P w K mg base CX0 8 a.f_law_repeated a.fd_law_repeated ["_law_k", "_law_name_here", "_law_standings"] (spG (sgK K a) sg_law_repeated) := by
  refine fundN T.F_law_repeated sc_law_repeated (fun _ => rfl) (fun cdv A outer s H E x k hr h => ?_)
  obtain ⟨v_k, v_name_here, v_standings⟩ := x
  have hu := hu_room hr
  have nd := sc_law_repeated.nd
  replace h : m_law_repeated v_k v_name_here v_standings k := h
  unfold m_law_repeated at h
  obtain ⟨J2, h, hJ⟩ := h
  refine seqP (fun Γ' μ' => ∃ (o1 : Option D), J2 ∧ Γ' = [some (rp v_k), some (rp v_name_here), some (rp v_standings), o1] ∧ μ' = []) ?_ ?_
  · refine st_try (by rfl) (by rfl) nd (fun _ _ ⟨_, _, _, _, _, _, _, _, _, _, _, _, _, _, _, _, z⟩ => z.elim) (.cons (i := 3) (by rfl) (by rfl) ⟨by rfl, by decide, .inl T.mgC_Repeated⟩ .nil) fun pn xe wx tk => ?_
    refine exF ?_
    refine cF (CX := L2.CX P w) sgU_mono (ok_law_made T) (hr.mono (by decide)) T.mg_law_made T.F_law_made.kp T.b_law_made (passes_call tk fun _ _ _ _ h => h) ?_
    refine ea_c ?_
    refine nm 0 ?_
    refine ea_c ?_
    refine nm 1 ?_
    refine ea_c ?_
    refine nm 2 ?_
    refine ea_nil ?_
    refine ask_u (v_k, v_name_here, v_standings) ((rp v_standings), []) (.nil) rfl ⟨(.val _), rfl⟩ h (fun r3 d μ1 h hz => ?_) (fun c fs _ μ1 h hp hz => ?_)
    rotate_left
    · obtain rfl := hz
      rcases h with ⟨rfl, h⟩
      · refine ⟨true, T.ex_Repeated_Repeated, fun _ ax dd oe pn hz hf => ?_, fun h => nomatch h⟩
        obtain ⟨e6, rfl, h⟩ := h
        refine ret ?_
        refine ev_tup ?_
        refine ea_c ?_
        refine ev_str ?_
        refine ea_c ?_
        refine ev_xf (c := 9) T.xf_Repeated T.na_Repeated_name hz hf nd_Repeated ?_
        refine nm 3 ?_
        refine xex (l := [rp e6]) (i := 0) (rp e6) (by rfl) (by rfl) ?_
        refine ea_few ?_
        refine ⟨(some ((⟨"repeated", by decide +kernel⟩ : Nm), e6)), rfl, h⟩
    obtain ⟨z4, rfl, k5, rfl⟩ := hz
    rw [List.append_nil]
    refine bl_less (μ' := []) (List.nil_sublist _) ?_
    exact nil ⟨_, h, rfl, rfl⟩
  rintro _ _ ⟨o1, hs, rfl, rfl⟩
  replace h := hJ  hs
  refine ret ?_
  refine ev_non ?_
  refine ⟨none, rfl, h⟩

def m_law_agrees (v_part : StV) (v_standings : (List Nm)) (v_steps_here : (List (Nm × Nm))) (v_strange : Nm) (k : Bool → Prop) (kx : Unit → KX) : Prop :=
  m_Steps_standings v_part (fun r1 => m_law_is_tuple (Sum.inl r1 : ((Tu Nm) ⊕ (List Nm))) (Tu.mk v_standings) (fun r5 => ((!r5) = true → k false) ∧ ((!r5) = false → forI v_standings () (fun (x11 : Nm) (s6 : Unit) J7 => (v_standings.length ≤ 16777216) ∧ (m_law_steps v_part x11 (fun r17 => m_law_is_tuple r17 (Tu.mk (List.filter (fun x15 : Nm => inb (x11, x15) v_steps_here) v_standings)) (fun r21 => ((!r21) = true → k false) ∧ ((!r21) = false → J7 ()))) (fun y18 c fs => kx () c fs))) (fun s6 => m_law_steps v_part v_strange (fun r22 => k (decide (r22 = (Sum.inr ([(⟨"unknown", by decide +kernel⟩ : Nm), v_strange]) : ((Tu Nm) ⊕ (List Nm)))))) (fun y23 c fs => kx () c fs))))) (fun y2 c fs => kx () c fs)
abbrev sg_law_agrees (a : Ad) : SpG := sgU (A := StV × (List Nm) × (List (Nm × Nm)) × Nm) (Z := Addr × StZ) (ρ := Bool) (Y := Unit) (fun x z => [.ref z.2.x, rp x.2.1, .ref z.1, rp x.2.2.2]) (fun x z μ => StOk a z.2 x.1 ∧ μ = ((z.1, .lst (List.map rp x.2.2.1)) :: stM z.2 x.1)) (fun x z r d μ => d = rp r ∧ StOk a z.2 x.1 ∧ μ = ((z.1, .lst (List.map rp x.2.2.1)) :: stM z.2 x.1)) (fun x z y μ => StOk a z.2 x.1 ∧ μ = ((z.1, .lst (List.map rp x.2.2.1)) :: stM z.2 x.1)) (fun x k kx => m_law_agrees x.1 x.2.1 x.2.2.1 x.2.2.2 k kx)
theorem ok_law_agrees (T : Tx P K mg a) : FnOk P w K mg base (L2.CX P w) 5 a.f_law_agrees a.fd_law_agrees ["_law_part", "_law_standings", "_law_steps_here", "_law_strange"] (spG (sgK K a) (sg_law_agrees a)) := by
  refine fundU T.F_law_agrees sc_law_agrees (fun _ _ => rfl) (fun cdv A outer s H E x z μ k kx hr tk hm h => ?_)
  obtain ⟨v_part, v_standings, v_steps_here, v_strange⟩ := x
  obtain ⟨z2, z1⟩ := z
  obtain ⟨kz1, rfl⟩ := hm
  replace kz1 : StOk a z1 v_part := kz1
  have hu := hu_room hr
  have nd := sc_law_agrees.nd
  replace h : m_law_agrees v_part v_standings v_steps_here v_strange k kx := h
  unfold m_law_agrees at h
  refine ifb ?_
  refine et_not ?_
  refine et_val ?_
  refine cF sgN_mono (ok_law_is_tuple T) (hr.mono (by decide)) T.mg_law_is_tuple T.F_law_is_tuple.kp T.b_law_is_tuple pass0 ?_
  refine ea_c ?_
  refine ev_permQ ?_
  refine ev_meth0 (ns := z1.fs.map (·.1)) (CX := L2.CX P w) sgU_mono (clS T kz1.cl) (mS_Steps_standings T kz1.cl) (ok_Steps_standings T) (hr.mono (by decide)) T.b_Steps_standings .nil (fun _ => .nil) (passes_call tk fun _ _ _ _ h => h) ?_
  refine nm 0 ?_
  refine And.intro (.ins (.tail _ (.head _))) ?_
  refine And.intro (fun hh => absurd (kz1.mn _ hh) (by decide)) ?_
  refine ask_u v_part z1 (.r ((Split.all (stM z1 v_part)))) rfl ⟨kz1, rfl⟩ h (fun r1 d μ1 h hz => ?_) (fun c fs y2 μ1 h hp hz => by obtain ⟨k3, rfl⟩ := hz; exact ⟨(), _, (SubP.pm (Split.perm (.r ((Split.all (stM z1 v_part))))) (List.Sublist.append (List.Sublist.refl _) (.cons_cons _ .slnil))), h, hp, k3, rfl⟩)
  obtain ⟨rfl, k4, rfl⟩ := hz
  refine ⟨((z2, .lst (List.map rp v_steps_here)) :: (stM z1 v_part)), (Split.perm (.r ((Split.all (stM z1 v_part))))).symm, ?_⟩
  refine ea_c ?_
  refine cT T.z_tuple b_tuple ?_
  refine ea_c ?_
  refine nm 1 ?_
  refine ea_nil ?_
  refine c_tuple v_standings (.l (.val _)) ?_
  refine ea_nil ?_
  refine ask_n ((Sum.inl r1 : ((Tu Nm) ⊕ (List Nm))), (Tu.mk v_standings)) rfl h (fun r5 h => ?_)
  refine xb ?_
  refine ⟨fun ht => ?_, fun ht => ?_⟩
  · replace h := h.1 ht
    refine ret ?_
    refine ev_bl ?_
    refine ⟨false, _, (.cons_cons _ (List.Sublist.refl _)), h, rfl, k4, rfl⟩
  replace h := h.2 ht
  refine nil ?_
  refine forb (passes_of rfl) ?_
  refine ig_val ?_
  refine nm 1 ?_
  refine it_l v_standings ?_
  refine forQ (xs := v_standings) (s0 := ()) (f := fun x11 : Nm => rp x11) h (fun (s6 : Unit) Γ' μ' => ∃ (o8 o9 o10 : Option D) , Γ' = [some (.ref z1.x), some (rp v_standings), some (.ref z2), some (rp v_strange), o8, o9, o10] ∧ μ' = ((z2, .lst (List.map rp v_steps_here)) :: (stM z1 v_part))) ⟨_, _, _, rfl, rfl⟩ (fun _ _ _ _ => trivial) (fun x11 s6 J7 Γ' μ' hx r h => ?_) (fun s6 Γ' μ' r h => ?_)
  · obtain ⟨o8, o9, o10, rfl, rfl⟩ := r
    refine tn 4 ?nd12 ?_
    case nd12 => exact nd
    refine asgF 5 ?nd13 ?_
    case nd13 => exact nd
    refine cT T.z_tuple b_tuple ?_
    refine ea_c ?_
    refine ev_lc (own := [("_law_after", 6)]) (by rfl) ?nd14 (blkOk_by (N := N_law_agrees) (sc := defScope s_law_agrees) (by decide +kernel)) (by rfl) ?_
    case nd14 => exact nd
    refine ig_val ?_
    refine nm 1 ?_
    refine it_l v_standings ?_
    obtain ⟨g16, h⟩ := h
    refine lcFM (β := Nm) (xs := v_standings) (f := fun x15 : Nm => rp x15) (fun x15 : Nm => inb (x11, x15) v_steps_here) (fun x15 : Nm => x15) g16 (trivial) (by intro x15 hx k; refine tn 6 (by exact nd) ?_; refine fun k => ts_one ?_; refine et_cmp ?_; refine ev_tup ?_; refine ea_c ?_; refine nm 4 ?_; refine ea_c ?_; refine nm 6 ?_; refine ea_few ?_; refine nm 2 ?_; refine op_in (x11, x15) v_steps_here hu .val (IsL.mem (.head _)) ?_; refine xb ?_; refine ⟨fun ht k => ?_, fun hf => ⟨hf, rfl⟩⟩; refine nm 6 ?_; exact ⟨rfl, ht, rfl⟩) ?_
    rw [show ∀ l : List Nm, List.map (fun x15 : Nm => x15) l = l from fun l => List.map_id' l]
    refine ea_nil ?_
    refine c_tuple (List.filter (fun x15 : Nm => inb (x11, x15) v_steps_here) v_standings) (.l (.val _)) ?_
    refine ifb ?_
    refine et_not ?_
    refine et_val ?_
    refine cF sgN_mono (ok_law_is_tuple T) (hr.mono (by decide)) T.mg_law_is_tuple T.F_law_is_tuple.kp T.b_law_is_tuple pass0 ?_
    refine ea_c ?_
    refine ev_permQ ?_
    refine cF sgU_mono (ok_law_steps T) (hr.mono (by decide)) T.mg_law_steps T.F_law_steps.kp T.b_law_steps (passes_call tk fun _ _ _ _ h => h) ?_
    refine ea_c ?_
    refine nm 0 ?_
    refine ea_c ?_
    refine nm 4 ?_
    refine ea_nil ?_
    refine ask_u (v_part, x11) z1 (.r ((Split.all (stM z1 v_part)))) rfl ⟨k4, rfl⟩ h (fun r17 d μ1 h hz => ?_) (fun c fs y18 μ1 h hp hz => by obtain ⟨k19, rfl⟩ := hz; exact ⟨(), _, (SubP.pm (Split.perm (.r ((Split.all (stM z1 v_part))))) (List.Sublist.append (List.Sublist.refl _) (.cons_cons _ .slnil))), h, hp, k19, rfl⟩)
    obtain ⟨rfl, k20, rfl⟩ := hz
    refine ⟨((z2, .lst (List.map rp v_steps_here)) :: (stM z1 v_part)), (Split.perm (.r ((Split.all (stM z1 v_part))))).symm, ?_⟩
    refine ea_c ?_
    refine nm 5 ?_
    refine ea_nil ?_
    refine ask_n (r17, (Tu.mk (List.filter (fun x15 : Nm => inb (x11, x15) v_steps_here) v_standings))) rfl h (fun r21 h => ?_)
    refine xb ?_
    refine ⟨fun ht => ?_, fun ht => ?_⟩
    · replace h := h.1 ht
      refine ret ?_
      refine ev_bl ?_
      refine ⟨false, _, (.cons_cons _ (List.Sublist.refl _)), h, rfl, k20, rfl⟩
    replace h := h.2 ht
    refine nil ?_
    exact nil ⟨(), h, ⟨_, _, _, rfl, rfl⟩⟩
  obtain ⟨o8, o9, o10, rfl, rfl⟩ := r
  refine ret ?_
  refine ev_cmp ?_
  refine ev_permQ ?_
  refine cF sgU_mono (ok_law_steps T) (hr.mono (by decide)) T.mg_law_steps T.F_law_steps.kp T.b_law_steps (passes_call tk fun _ _ _ _ h => h) ?_
  refine ea_c ?_
  refine nm 0 ?_
  refine ea_c ?_
  refine nm 3 ?_
  refine ea_nil ?_
  refine ask_u (v_part, v_strange) z1 (.r ((Split.all (stM z1 v_part)))) rfl ⟨k4, rfl⟩ h (fun r22 d μ1 h hz => ?_) (fun c fs y23 μ1 h hp hz => by obtain ⟨k24, rfl⟩ := hz; exact ⟨(), _, (SubP.pm (Split.perm (.r ((Split.all (stM z1 v_part))))) (List.Sublist.append (List.Sublist.refl _) (.cons_cons _ .slnil))), h, hp, k24, rfl⟩)
  obtain ⟨rfl, k25, rfl⟩ := hz
  refine ⟨((z2, .lst (List.map rp v_steps_here)) :: (stM z1 v_part)), (Split.perm (.r ((Split.all (stM z1 v_part))))).symm, ?_⟩
  refine ev_lst ?_
  refine ea_c ?_
  refine ev_str ?_
  refine ea_c ?_
  refine nm 3 ?_
  refine ea_few ?_
  refine op_eq r22 (Sum.inr ([(⟨"unknown", by decide +kernel⟩ : Nm), v_strange]) : ((Tu Nm) ⊕ (List Nm))) hu .val .val ?_
  refine ⟨decide (r22 = (Sum.inr ([(⟨"unknown", by decide +kernel⟩ : Nm), v_strange]) : ((Tu Nm) ⊕ (List Nm)))), _, (.cons_cons _ (List.Sublist.refl _)), h, rfl, k25, rfl⟩
def m_law (k : Bool → Prop) : Prop :=
  m_law_base  (fun r2 => drw (4 : Int) (fun r4 => drw (10 : Int) (fun r6 => ∃ v7 : Int, (atI ([(2 : Int), (1 : Int), (3 : Int), (4 : Int), (5 : Int), (6 : Int), (7 : Int), (8 : Int), (9 : Int), (10 : Int)]) r6 = some v7) ∧ (∃ J9 : Int → Prop, (drw (8 : Int) (fun r11 => (decide (r11 = (7 : Int)) = true → J9 (60 : Int)) ∧ (decide (r11 = (7 : Int)) = false → J9 v7))) ∧ ∀ (s10 : Int), J9 s10 → (-(2 ^ 62) ≤ (s10 + (1 : Int)) ∧ (s10 + (1 : Int)) < 2 ^ 62) ∧ (lcI (List.range (Int.toNat (s10 + (1 : Int)))) (fun (x16 : Nat) J17 => m_law_name r2 ((x16 : Int) % (12 : Int)) (fun r20 => (0 ≤ ((x16 : Int) / (12 : Int)) ∧ ((x16 : Int) / (12 : Int)) < 100) ∧ ((r20.1.length + (nmInt ((x16 : Int) / (12 : Int))).1.length ≤ 1000) ∧ (J17 (some (nmApp r20 (nmInt ((x16 : Int) / (12 : Int))))))))) (fun acc18 : List Nm => ∃ v27 : Nm, (atI acc18 s10 = some v27) ∧ (m_law_made (cutL acc18 none (some s10)) (fun r29 => ((!(decide ((cutL acc18 none (some s10)) = (cutL acc18 none (some s10))))) = true → k false) ∧ ((!(decide ((cutL acc18 none (some s10)) = (cutL acc18 none (some s10))))) = false → ∃ v32 : Nm, (atI acc18 s10 = some v32) ∧ (((cutL acc18 none (some s10)).length < 16777216) ∧ (∃ v37 : Nm, (atI acc18 s10 = some v37) ∧ (m_law_agrees r29 (cutL acc18 none (some s10)) ([] : (List (Nm × Nm))) v37 (fun r39 => ((!r39) = true → k false) ∧ ((!r39) = false → drw (13 : Int) (fun r45 => (-(2 ^ 62) ≤ ((2 : Int) + r45) ∧ ((2 : Int) + r45) < 2 ^ 62) ∧ (forI (List.range (Int.toNat ((2 : Int) + r45))) (([] : (List (Nm × Nm))), r29) (fun (x52 : Nat) (s43 : (List (Nm × Nm)) × StV) J44 => drw (s10 + (1 : Int)) (fun r55 => ∃ v56 : Nm, (atI acc18 r55 = some v56) ∧ (drw (s10 + (1 : Int)) (fun r59 => (0 < (s10 + (1 : Int))) ∧ (∃ v61 : Nm, (atI acc18 (((1 : Int) + r59) % (s10 + (1 : Int))) = some v61) ∧ (m_law_due (cutL acc18 none (some s10)) v56 v61 (fun r64 => m_law_allowed s43.2 v56 v61 (fun r65 => ((!(decide (r65.1 = r64))) = true → k false) ∧ ((!(decide (r65.1 = r64))) = false → ∃ J69 : (List (Nm × Nm)) → Prop, ((r64.isNone = true → (s43.1.length < 16777216) ∧ (J69 (s43.1 ++ [(v56, v61)]))) ∧ (r64.isNone = false → J69 s43.1)) ∧ ∀ (s70 : (List (Nm × Nm))), J69 s70 → ∃ v72 : Nm, (atI acc18 s10 = some v72) ∧ (m_law_agrees r65.2 (cutL acc18 none (some s10)) s70 v72 (fun r74 => ((!r74) = true → k false) ∧ ((!r74) = false → J44 (s70, r65.2))) (fun _ _ _ => False)))) (fun _ _ _ => False)))))))) (fun s43 => drw (min s10 (59 : Int)) (fun r79 => drw ((1 : Int) + r79) (fun r81 => ∃ v82 : Nm, (atI (cutL acc18 none (some s10)) r81 = some v82) ∧ (((cutL (cutL acc18 none (some s10)) none (some ((1 : Int) + r79))).length + ([v82]).length ≤ 16777216) ∧ ((((cutL (cutL acc18 none (some s10)) none (some ((1 : Int) + r79))) ++ [v82]).length + (cutL (cutL acc18 none (some s10)) (some ((1 : Int) + r79)) none).length ≤ 16777216) ∧ (∃ v87 : Nm, (atI (cutL acc18 none (some s10)) (0 : Int) = some v87) ∧ (((((cutL (cutL acc18 none (some s10)) none (some ((1 : Int) + r79))) ++ [v82]) ++ (cutL (cutL acc18 none (some s10)) (some ((1 : Int) + r79)) none)).length + ([v87]).length ≤ 16777216) ∧ (∃ v90 : Nm, (atI acc18 s10 = some v90) ∧ (m_law_repeated r4 v90 (cutL ((((cutL (cutL acc18 none (some s10)) none (some ((1 : Int) + r79))) ++ [v82]) ++ (cutL (cutL acc18 none (some s10)) (some ((1 : Int) + r79)) none)) ++ [v87]) none (some (60 : Int))) (fun r92 => ((!(decide (r92 = (some ((⟨"repeated", by decide +kernel⟩ : Nm), v82))))) = true → k false) ∧ ((!(decide (r92 = (some ((⟨"repeated", by decide +kernel⟩ : Nm), v82))))) = false → ∃ v93 : Nm, (atI acc18 s10 = some v93) ∧ (m_law_repeated r4 v93 (cutL acc18 none (some s10)) (fun r95 => k r95.isNone))))))))))))))))) (fun _ _ _ => False)))))) (fun _ _ _ => False))))))))
theorem ok_lawG (T : Tx P K mg a) (h : m_law (fun b => b = true)) : FnOk P w K mg base CX0 9 a.f_law a.fd_law ["_law_script"] (spG (sgK K a) sg_law) := by
  refine fund_ok T.F_law sc_law (fun ds μ Q Ex h => ?_) (fun cdv A outer s H E ds μ Q Ex hr h0 => ?_)
  · obtain ⟨ns, rfl, _⟩ := h
    rfl
  obtain ⟨sc, rfl, hlen, rfl, q⟩ := h0
  have hu := hu_room hr
  have nd := sc_law.nd
  unfold m_law at h
  refine asg 1 nd ?_
  refine ev_call pool_mono (ok_pool T) (hr.mono (by decide)) rfl T.mg_law_pool T.F_law_pool.kp T.b_law_pool .nil (fun _ => .nil) pass0 ?_
  refine ea_cons ?_
  refine nm 0 ?_
  refine ea_nil ⟨[], [], Split.none _, sc, rfl, hlen, rfl, fun p l hl => ?_⟩
  refine bl_norm [some (.scr sc), some (.ref p), none, none, none, none, none, none, none, none, none, none, none, none, none, none, none] [(p, .lst l)] ?_
  refine asgF 2 ?nd1 ?_
  case nd1 => exact nd
  refine cF sgP_mono (ok_law_base T) (hr.mono (by decide)) T.mg_law_base T.F_law_base.kp T.b_law_base pass0 ?_
  refine ea_c ?_
  refine nm 1 ?_
  refine ea_nil ?_
  refine ask_p () rfl hl h (fun r2 l hl h => ?_)
  refine bl_norm [some (.scr sc), some (.ref p), some (rp r2), none, none, none, none, none, none, none, none, none, none, none, none, none, none] [(p, .lst l)] ?_
  refine asgF 3 ?nd3 ?_
  case nd3 => exact nd
  refine cF take_mono (ok_take T) (hr.mono (by decide)) T.mg_law_take T.F_law_take.kp T.b_law_take pass0 ?_
  refine ea_c ?_
  refine nm 1 ?_
  refine ea_c ?_
  refine ev_int ?_
  refine ea_nil ?_
  refine ask_t hl h fun r4 l hl h => ?_
  refine bl_norm [some (.scr sc), some (.ref p), some (rp r2), some (rp r4), none, none, none, none, none, none, none, none, none, none, none, none, none] [(p, .lst l)] ?_
  refine asgF 4 ?nd5 ?_
  case nd5 => exact nd
  refine ixF ?_
  refine ev_lstI [(2 : Int), (1 : Int), (3 : Int), (4 : Int), (5 : Int), (6 : Int), (7 : Int), (8 : Int), (9 : Int), (10 : Int)] ?_
  refine cF take_mono (ok_take T) (hr.mono (by decide)) T.mg_law_take T.F_law_take.kp T.b_law_take pass0 ?_
  refine ea_c ?_
  refine nm 1 ?_
  refine ea_c ?_
  refine ev_int ?_
  refine ea_nil ?_
  refine ask_t hl h fun r6 l hl h => ?_
  obtain ⟨v7, g8, h⟩ := h
  refine ix_l ([(2 : Int), (1 : Int), (3 : Int), (4 : Int), (5 : Int), (6 : Int), (7 : Int), (8 : Int), (9 : Int), (10 : Int)]) (isl rfl) g8 ?_
  refine bl_norm [some (.scr sc), some (.ref p), some (rp r2), some (rp r4), some (rp v7), none, none, none, none, none, none, none, none, none, none, none, none] [(p, .lst l)] ?_
  obtain ⟨J9, h, hJ⟩ := h
  refine seqP (fun Γ' μ' => ∃ (s10 : Int)  (l : List D), PoolOk l ∧ J9 s10 ∧ Γ' = [some (.scr sc), some (.ref p), some (rp r2), some (rp r4), some (rp s10), none, none, none, none, none, none, none, none, none, none, none, none] ∧ μ' = [(p, .lst l)]) ?_ ?_
  · refine st_if ?_
    refine et_cmp ?_
    refine cF take_mono (ok_take T) (hr.mono (by decide)) T.mg_law_take T.F_law_take.kp T.b_law_take pass0 ?_
    refine ea_c ?_
    refine nm 1 ?_
    refine ea_c ?_
    refine ev_int ?_
    refine ea_nil ?_
    refine ask_t hl h fun r11 l hl h => ?_
    refine ev_int ?_
    refine og_eqI ?_
    refine xb ?_
    refine ⟨fun ht => ?_, fun ht => ?_⟩
    · replace h := h.1 ht
      refine asgF 4 ?nd12 ?_
      case nd12 => exact nd
      refine ev_int ?_
      exact nil ⟨(60 : Int), l, hl, h, rfl, rfl⟩
    · replace h := h.2 ht
      exact nil ⟨v7, l, hl, h, rfl, rfl⟩
  rintro _ _ ⟨s10, l, hl, hs, rfl, rfl⟩
  replace h := hJ s10 hs
  refine bl_norm [some (.scr sc), some (.ref p), some (rp r2), some (rp r4), some (rp s10), none, none, none, none, none, none, none, none, none, none, none, none] [(p, .lst l)] ?_
  refine bl_cons ?_
  refine st_setLc (i := 5) (own := [("_law_k", 6)]) (by rfl) ?nd13 (by rfl) (by rfl) (swaps_yes (by rfl) (by rfl) (by rfl) (by decide +kernel)) (blkOk_by (N := N_law) (sc := defScope s_law) (by decide +kernel)) (by rfl) ?_
  case nd13 => exact nd
  refine ir1 T.z_range ?_
  refine ea_c ?_
  refine ev_bin ?_
  refine nm 4 ?_
  refine ev_int ?_
  refine og_addI ?_
  refine ea_nil ?_
  obtain ⟨g14, h⟩ := h
  refine ⟨(s10 + (1 : Int)), rfl, g14, lcQ (xs := (List.range (Int.toNat (s10 + (1 : Int))))) (f := fun x16 : Nat => rp (x16 : Int)) h (fun μ' => ∃ l, PoolOk l ∧ μ' = [(p, .lst l)]) ⟨l, hl, rfl⟩ (fun _ _ => trivial) (fun x16 J17 μ' hx r h k => ?_) (fun acc18 μ' r h => ?_)⟩
  · obtain ⟨l, hl, rfl⟩ := r
    refine tn 6 ?nd19 ?_
    case nd19 => exact nd
    refine fun k => ts_nil ⟨fun _ k => ?_, fun h => nomatch h⟩
    refine ev_bin ?_
    refine cF sgP_mono (ok_law_name T) (hr.mono (by decide)) T.mg_law_name T.F_law_name.kp T.b_law_name pass0 ?_
    refine ea_c ?_
    refine nm 1 ?_
    refine ea_c ?_
    refine nm 2 ?_
    refine ea_c ?_
    refine ev_bin ?_
    refine cT T.z_int b_int ?_
    refine ea_c ?_
    refine nm 6 ?_
    refine ea_nil ?_
    refine cg_int ?_
    refine ev_int ?_
    refine og_modI (by decide) ?_
    refine ea_nil ?_
    refine ask_p (r2, ((x16 : Int) % (12 : Int))) rfl hl h (fun r20 l hl h => ?_)
    refine cT T.z_str b_str ?_
    refine ea_c ?_
    refine ev_bin ?_
    refine nm 6 ?_
    refine ev_int ?_
    refine og_fdivI ⟨by decide, by decide⟩ ?_
    refine ea_nil ?_
    obtain ⟨g21, h⟩ := h
    refine c_strI g21 ?_
    obtain ⟨g22, h⟩ := h
    refine op_addNm r20 (nmInt ((x16 : Int) / (12 : Int))) g22 ?_
    refine ⟨(nmApp r20 (nmInt ((x16 : Int) / (12 : Int)))), rfl, h, l, hl, rfl⟩
  obtain ⟨l, hl, rfl⟩ := r
  refine bl_norm [some (.scr sc), some (.ref p), some (rp r2), some (rp r4), some (rp s10), some (rp acc18), none, none, none, none, none, none, none, none, none, none, none] [(p, .lst l)] ?_
  refine asgF 7 ?nd23 ?_
  case nd23 => exact nd
  refine ev_sl ?_
  refine nm 5 ?_
  refine po_no ?_
  refine po_so ?_
  refine nm 4 ?_
  refine xi ?_
  refine sl_l acc18 (isl rfl) ?_
  refine bl_norm [some (.scr sc), some (.ref p), some (rp r2), some (rp r4), some (rp s10), some (rp acc18), none, some (rp (cutL acc18 none (some s10))), none, none, none, none, none, none, none, none, none] [(p, .lst l)] ?_
  refine asgF 8 ?nd25 ?_
  case nd25 => exact nd
  refine cT T.z_list b_list ?_
  refine ea_c ?_
  refine nm 7 ?_
  refine ea_nil ?_
  refine c_listE (cutL acc18 none (some s10)) (.l (.val _)) (fun y24 hy24 => ?_)
  refine bl_norm [some (.scr sc), some (.ref p), some (rp r2), some (rp r4), some (rp s10), some (rp acc18), none, some (rp (cutL acc18 none (some s10))), some (.ref y24), none, none, none, none, none, none, none, none] [(p, .lst l), (y24, .lst (List.map rp (cutL acc18 none (some s10))))] ?_
  refine asgF 9 ?nd26 ?_
  case nd26 => exact nd
  refine cF (CX := L2.CX P w) sgU_mono (ok_law_made T) (hr.mono (by decide)) T.mg_law_made T.F_law_made.kp T.b_law_made pass_nx ?_
  refine ea_c ?_
  refine nm 3 ?_
  refine ea_c ?_
  refine ixF ?_
  refine nm 5 ?_
  refine nm 4 ?_
  obtain ⟨v27, g28, h⟩ := h
  refine ix_l acc18 (isl rfl) g28 ?_
  refine ea_c ?_
  refine nm 8 ?_
  refine ea_nil ?_
  refine ask_u (r4, v27, (cutL acc18 none (some s10))) ((.ref y24), [(y24, .lst (List.map rp (cutL acc18 none (some s10))))]) (.r (.l (.nil))) rfl ⟨(.ref (.head _)), rfl⟩ h (fun r29 d μ1 h hz => ?_) (fun c fs _ μ1 h hp hz => h.elim)
  obtain ⟨z30, rfl, k31, rfl⟩ := hz
  rw [List.append_assoc]
  refine bl_permR (Split.perm ((Split.skip (.l (.r (.nil))) (stM z30 r29)))) ?_
  refine bl_permR (Split.perm (.r ((Split.right (stM z30 r29) [(p, .lst l)])))) ?_
  refine bl_norm _ ((p, .lst l) :: ((y24, .lst (List.map rp (cutL acc18 none (some s10)))) :: (stM z30 r29))) ?_
  refine bl_norm [some (.scr sc), some (.ref p), some (rp r2), some (rp r4), some (rp s10), some (rp acc18), none, some (rp (cutL acc18 none (some s10))), some (.ref y24), some (.ref z30.x), none, none, none, none, none, none, none] ((p, .lst l) :: ((y24, .lst (List.map rp (cutL acc18 none (some s10)))) :: (stM z30 r29))) ?_
  refine ifb ?_
  refine et_cmp ?_
  refine nm 8 ?_
  refine nm 7 ?_
  refine op_ne (cutL acc18 none (some s10)) (cutL acc18 none (some s10)) hu (.mem (.tail _ (.head _))) .val ?_
  refine xb ?_
  refine ⟨fun ht => ?_, fun ht => ?_⟩
  · replace h := h.1 ht
    refine ret ?_
    refine ev_bl ?_
    refine law_end h q
  replace h := h.2 ht
  refine nil ?_
  refine appF (α := Nm) (fun z => nm 8 z) (.tail _ (.head _)) ?_
  refine ixF ?_
  refine nm 5 ?_
  refine nm 4 ?_
  obtain ⟨v32, g33, h⟩ := h
  refine ix_l acc18 (isl rfl) g33 ?_
  obtain ⟨g34, h⟩ := h
  refine ⟨(cutL acc18 none (some s10)), v32, _, rfl, g34, (.there (.here)), ?_⟩
  refine bl_norm [some (.scr sc), some (.ref p), some (rp r2), some (rp r4), some (rp s10), some (rp acc18), none, some (rp (cutL acc18 none (some s10))), some (.ref y24), some (.ref z30.x), none, none, none, none, none, none, none] ((p, .lst l) :: ((y24, .lst (List.map rp ((cutL acc18 none (some s10)) ++ [v32]))) :: (stM z30 r29))) ?_
  refine asgF 10 ?nd36 ?_
  case nd36 => exact nd
  refine ev_lstE ?_
  refine ea_nil ⟨few, fun y35 hy35 => ?_⟩
  refine bl_permR (Split.perm (.l (.l ((Split.right (stM z30 r29) [(y35, .lst (List.map rp ([] : (List (Nm × Nm)))))]))))) ?_
  refine bl_norm _ ((p, .lst l) :: ((y24, .lst (List.map rp ((cutL acc18 none (some s10)) ++ [v32]))) :: ((y35, .lst (List.map rp ([] : (List (Nm × Nm))))) :: (stM z30 r29)))) ?_
  refine bl_norm [some (.scr sc), some (.ref p), some (rp r2), some (rp r4), some (rp s10), some (rp acc18), none, some (rp (cutL acc18 none (some s10))), some (.ref y24), some (.ref z30.x), some (.ref y35), none, none, none, none, none, none] ((p, .lst l) :: ((y24, .lst (List.map rp ((cutL acc18 none (some s10)) ++ [v32]))) :: ((y35, .lst (List.map rp ([] : (List (Nm × Nm))))) :: (stM z30 r29)))) ?_
  refine ifb ?_
  refine et_not ?_
  refine et_val ?_
  refine ev_permQ ?_
  refine cF sgU_mono (ok_law_agrees T) (hr.mono (by decide)) T.mg_law_agrees T.F_law_agrees.kp T.b_law_agrees pass_nx ?_
  refine ea_c ?_
  refine nm 9 ?_
  refine ea_c ?_
  refine nm 7 ?_
  refine ea_c ?_
  refine nm 10 ?_
  refine ea_c ?_
  refine ixF ?_
  refine nm 5 ?_
  refine nm 4 ?_
  obtain ⟨v37, g38, h⟩ := h
  refine ix_l acc18 (isl rfl) g38 ?_
  refine ea_nil ?_
  refine ask_u (r29, (cutL acc18 none (some s10)), ([] : (List (Nm × Nm))), v37) (y35, z30) (.r (.r (.l ((Split.all (stM z30 r29)))))) rfl ⟨k31, rfl⟩ h (fun r39 d μ1 h hz => ?_) (fun c fs y40 μ1 h hp hz => h.elim)
  obtain ⟨rfl, k42, rfl⟩ := hz
  refine ⟨((p, .lst l) :: ((y24, .lst (List.map rp ((cutL acc18 none (some s10)) ++ [v32]))) :: ((y35, .lst (List.map rp ([] : (List (Nm × Nm))))) :: (stM z30 r29)))), (Split.perm (.r (.r (.l ((Split.all (stM z30 r29))))))).symm, ?_⟩
  refine xb ?_
  refine ⟨fun ht => ?_, fun ht => ?_⟩
  · replace h := h.1 ht
    refine ret ?_
    refine ev_bl ?_
    refine law_end h q
  replace h := h.2 ht
  refine nil ?_
  refine forb PassesOwn.never ?_
  refine ir1 T.z_range ?_
  refine ea_c ?_
  refine ev_bin ?_
  refine ev_int ?_
  refine cF take_mono (ok_take T) (hr.mono (by decide)) T.mg_law_take T.F_law_take.kp T.b_law_take pass0 ?_
  refine ea_c ?_
  refine nm 1 ?_
  refine ea_c ?_
  refine ev_int ?_
  refine ea_nil ?_
  refine ask_t hl h fun r45 l hl h => ?_
  refine og_addI ?_
  refine ea_nil ?_
  obtain ⟨g46, h⟩ := h
  refine ⟨((2 : Int) + r45), rfl, g46, forQ (xs := (List.range (Int.toNat ((2 : Int) + r45)))) (s0 := (([] : (List (Nm × Nm))), r29)) (f := fun x52 : Nat => rp (x52 : Int)) h (fun (s43 : (List (Nm × Nm)) × StV) Γ' μ' => ∃ (o47 o48 o49 o50 : Option D) (l : List D), PoolOk l ∧ StOk a z30 s43.2 ∧ Γ' = [some (.scr sc), some (.ref p), some (rp r2), some (rp r4), some (rp s10), some (rp acc18), o47, some (rp (cutL acc18 none (some s10))), some (.ref y24), some (.ref z30.x), some (.ref y35), o48, o49, o50, none, none, none] ∧ μ' = ((p, .lst l) :: ((y24, .lst (List.map rp ((cutL acc18 none (some s10)) ++ [v32]))) :: ((y35, .lst (List.map rp s43.1)) :: (stM z30 s43.2))))) ⟨_, _, _, _, l, hl, k42, rfl, rfl⟩ (fun _ _ _ _ => trivial) (fun x52 s43 J44 Γ' μ' hx r h => ?_) (fun s43 Γ' μ' r h => ?_)⟩
  · obtain ⟨o47, o48, o49, o50, l, hl, k51, rfl, rfl⟩ := r
    refine tn 6 ?nd53 ?_
    case nd53 => exact nd
    refine bl_norm [some (.scr sc), some (.ref p), some (rp r2), some (rp r4), some (rp s10), some (rp acc18), some (rp (x52 : Int)), some (rp (cutL acc18 none (some s10))), some (.ref y24), some (.ref z30.x), some (.ref y35), o48, o49, o50, none, none, none] ((p, .lst l) :: ((y24, .lst (List.map rp ((cutL acc18 none (some s10)) ++ [v32]))) :: ((y35, .lst (List.map rp s43.1)) :: (stM z30 s43.2)))) ?_
    refine asgF 11 ?nd54 ?_
    case nd54 => exact nd
    refine ixF ?_
    refine nm 5 ?_
    refine cF take_mono (ok_take T) (hr.mono (by decide)) T.mg_law_take T.F_law_take.kp T.b_law_take pass0 ?_
    refine ea_c ?_
    refine nm 1 ?_
    refine ea_c ?_
    refine ev_bin ?_
    refine nm 4 ?_
    refine ev_int ?_
    refine og_addI ?_
    refine ea_nil ?_
    refine ask_t hl h fun r55 l hl h => ?_
    obtain ⟨v56, g57, h⟩ := h
    refine ix_l acc18 (isl rfl) g57 ?_
    refine bl_norm [some (.scr sc), some (.ref p), some (rp r2), some (rp r4), some (rp s10), some (rp acc18), some (rp (x52 : Int)), some (rp (cutL acc18 none (some s10))), some (.ref y24), some (.ref z30.x), some (.ref y35), some (rp v56), o49, o50, none, none, none] ((p, .lst l) :: ((y24, .lst (List.map rp ((cutL acc18 none (some s10)) ++ [v32]))) :: ((y35, .lst (List.map rp s43.1)) :: (stM z30 s43.2)))) ?_
    refine asgF 12 ?nd58 ?_
    case nd58 => exact nd
    refine ixF ?_
    refine nm 5 ?_
    refine ev_bin ?_
    refine cT T.z_int b_int ?_
    refine ea_c ?_
    refine ev_bin ?_
    refine ev_int ?_
    refine cF take_mono (ok_take T) (hr.mono (by decide)) T.mg_law_take T.F_law_take.kp T.b_law_take pass0 ?_
    refine ea_c ?_
    refine nm 1 ?_
    refine ea_c ?_
    refine ev_bin ?_
    refine nm 4 ?_
    refine ev_int ?_
    refine og_addI ?_
    refine ea_nil ?_
    refine ask_t hl h fun r59 l hl h => ?_
    refine og_addI ?_
    refine ea_nil ?_
    refine cg_int ?_
    refine ev_bin ?_
    refine nm 4 ?_
    refine ev_int ?_
    refine og_addI ?_
    obtain ⟨g60, h⟩ := h
    refine og_modI g60 ?_
    obtain ⟨v61, g62, h⟩ := h
    refine ix_l acc18 (isl rfl) g62 ?_
    refine bl_norm [some (.scr sc), some (.ref p), some (rp r2), some (rp r4), some (rp s10), some (rp acc18), some (rp (x52 : Int)), some (rp (cutL acc18 none (some s10))), some (.ref y24), some (.ref z30.x), some (.ref y35), some (rp v56), some (rp v61), o50, none, none, none] ((p, .lst l) :: ((y24, .lst (List.map rp ((cutL acc18 none (some s10)) ++ [v32]))) :: ((y35, .lst (List.map rp s43.1)) :: (stM z30 s43.2)))) ?_
    refine asgF 13 ?nd63 ?_
    case nd63 => exact nd
    refine cF sgN_mono (ok_law_due T) (hr.mono (by decide)) T.mg_law_due T.F_law_due.kp T.b_law_due pass0 ?_
    refine ea_c ?_
    refine nm 7 ?_
    refine ea_c ?_
    refine nm 11 ?_
    refine ea_c ?_
    refine nm 12 ?_
    refine ea_nil ?_
    refine ask_n ((cutL acc18 none (some s10)), v56, v61) rfl h (fun r64 h => ?_)
    refine bl_norm [some (.scr sc), some (.ref p), some (rp r2), some (rp r4), some (rp s10), some (rp acc18), some (rp (x52 : Int)), some (rp (cutL acc18 none (some s10))), some (.ref y24), some (.ref z30.x), some (.ref y35), some (rp v56), some (rp v61), some (rp r64), none, none, none] ((p, .lst l) :: ((y24, .lst (List.map rp ((cutL acc18 none (some s10)) ++ [v32]))) :: ((y35, .lst (List.map rp s43.1)) :: (stM z30 s43.2)))) ?_
    refine ifb ?_
    refine et_cmp ?_
    refine ev_permQ ?_
    refine cF sgU_mono (ok_law_allowed T) (hr.mono (by decide)) T.mg_law_allowed T.F_law_allowed.kp T.b_law_allowed pass_nx ?_
    refine ea_c ?_
    refine nm 9 ?_
    refine ea_c ?_
    refine nm 11 ?_
    refine ea_c ?_
    refine nm 12 ?_
    refine ea_nil ?_
    refine ask_u (s43.2, v56, v61) z30 (.r (.r (.r ((Split.all (stM z30 s43.2)))))) rfl ⟨k51, rfl⟩ h (fun r65 d μ1 h hz => ?_) (fun c fs y66 μ1 h hp hz => h.elim)
    obtain ⟨rfl, k68, rfl⟩ := hz
    refine ⟨((p, .lst l) :: ((y24, .lst (List.map rp ((cutL acc18 none (some s10)) ++ [v32]))) :: ((y35, .lst (List.map rp s43.1)) :: (stM z30 r65.2)))), (Split.perm (.r (.r (.r ((Split.all (stM z30 r65.2))))))).symm, ?_⟩
    refine nm 13 ?_
    refine op_ne r65.1 r64 hu .val .val ?_
    refine xb ?_
    refine ⟨fun ht => ?_, fun ht => ?_⟩
    · replace h := h.1 ht
      refine bl_norm [some (.scr sc), some (.ref p), some (rp r2), some (rp r4), some (rp s10), some (rp acc18), some (rp (x52 : Int)), some (rp (cutL acc18 none (some s10))), some (.ref y24), some (.ref z30.x), some (.ref y35), some (rp v56), some (rp v61), some (rp r64), none, none, none] ((p, .lst l) :: ((y24, .lst (List.map rp ((cutL acc18 none (some s10)) ++ [v32]))) :: ((y35, .lst (List.map rp s43.1)) :: (stM z30 r65.2)))) ?_
      refine ret ?_
      refine ev_bl ?_
      refine law_end h q
    replace h := h.2 ht
    refine nil ?_
    obtain ⟨J69, h, hJ⟩ := h
    refine seqP (fun Γ' μ' => ∃ (s70 : (List (Nm × Nm)))  (l : List D), PoolOk l ∧ J69 s70 ∧ Γ' = [some (.scr sc), some (.ref p), some (rp r2), some (rp r4), some (rp s10), some (rp acc18), some (rp (x52 : Int)), some (rp (cutL acc18 none (some s10))), some (.ref y24), some (.ref z30.x), some (.ref y35), some (rp v56), some (rp v61), some (rp r64), none, none, none] ∧ μ' = ((p, .lst l) :: ((y24, .lst (List.map rp ((cutL acc18 none (some s10)) ++ [v32]))) :: ((y35, .lst (List.map rp s70)) :: (stM z30 r65.2))))) ?_ ?_
    · refine st_if ?_
      refine et_cmp ?_
      refine nm 13 ?_
      refine ev_non ?_
      refine op_isN' r64 ?_
      refine xb ?_
      refine ⟨fun ht => ?_, fun ht => ?_⟩
      · replace h := h.1 ht
        refine appF (α := (Nm × Nm)) (fun z => nm 10 z) (.tail _ (.tail _ (.head _))) ?_
        refine ev_tup ?_
        refine ea_c ?_
        refine nm 11 ?_
        refine ea_c ?_
        refine nm 12 ?_
        refine ea_few ?_
        obtain ⟨g71, h⟩ := h
        refine ⟨s43.1, (v56, v61), _, rfl, g71, (.there (.there (.here))), ?_⟩
        exact nil ⟨(s43.1 ++ [(v56, v61)]), l, hl, h, rfl, rfl⟩
      · replace h := h.2 ht
        exact nil ⟨s43.1, l, hl, h, rfl, rfl⟩
    rintro _ _ ⟨s70, l, hl, hs, rfl, rfl⟩
    replace h := hJ s70 hs
    refine bl_norm [some (.scr sc), some (.ref p), some (rp r2), some (rp r4), some (rp s10), some (rp acc18), some (rp (x52 : Int)), some (rp (cutL acc18 none (some s10))), some (.ref y24), some (.ref z30.x), some (.ref y35), some (rp v56), some (rp v61), some (rp r64), none, none, none] ((p, .lst l) :: ((y24, .lst (List.map rp ((cutL acc18 none (some s10)) ++ [v32]))) :: ((y35, .lst (List.map rp s70)) :: (stM z30 r65.2)))) ?_
    refine ifb ?_
    refine et_not ?_
    refine et_val ?_
    refine ev_permQ ?_
    refine cF sgU_mono (ok_law_agrees T) (hr.mono (by decide)) T.mg_law_agrees T.F_law_agrees.kp T.b_law_agrees pass_nx ?_
    refine ea_c ?_
    refine nm 9 ?_
    refine ea_c ?_
    refine nm 7 ?_
    refine ea_c ?_
    refine nm 10 ?_
    refine ea_c ?_
    refine ixF ?_
    refine nm 5 ?_
    refine nm 4 ?_
    obtain ⟨v72, g73, h⟩ := h
    refine ix_l acc18 (isl rfl) g73 ?_
    refine ea_nil ?_
    refine ask_u (r65.2, (cutL acc18 none (some s10)), s70, v72) (y35, z30) (.r (.r (.l ((Split.all (stM z30 r65.2)))))) rfl ⟨k68, rfl⟩ h (fun r74 d μ1 h hz => ?_) (fun c fs y75 μ1 h hp hz => h.elim)
    obtain ⟨rfl, k77, rfl⟩ := hz
    refine ⟨((p, .lst l) :: ((y24, .lst (List.map rp ((cutL acc18 none (some s10)) ++ [v32]))) :: ((y35, .lst (List.map rp s70)) :: (stM z30 r65.2)))), (Split.perm (.r (.r (.l ((Split.all (stM z30 r65.2))))))).symm, ?_⟩
    refine xb ?_
    refine ⟨fun ht => ?_, fun ht => ?_⟩
    · replace h := h.1 ht
      refine ret ?_
      refine ev_bl ?_
      refine law_end h q
    replace h := h.2 ht
    refine nil ?_
    exact nil ⟨(s70, r65.2), h, ⟨_, _, _, _, l, hl, k77, rfl, rfl⟩⟩
  obtain ⟨o47, o48, o49, o50, l, hl, k51, rfl, rfl⟩ := r
  refine bl_norm [some (.scr sc), some (.ref p), some (rp r2), some (rp r4), some (rp s10), some (rp acc18), o47, some (rp (cutL acc18 none (some s10))), some (.ref y24), some (.ref z30.x), some (.ref y35), o48, o49, o50, none, none, none] ((p, .lst l) :: ((y24, .lst (List.map rp ((cutL acc18 none (some s10)) ++ [v32]))) :: ((y35, .lst (List.map rp s43.1)) :: (stM z30 s43.2)))) ?_
  refine asgF 14 ?nd78 ?_
  case nd78 => exact nd
  refine ev_bin ?_
  refine ev_int ?_
  refine cF take_mono (ok_take T) (hr.mono (by decide)) T.mg_law_take T.F_law_take.kp T.b_law_take pass0 ?_
  refine ea_c ?_
  refine nm 1 ?_
  refine ea_c ?_
  refine cB T.z_min b_min ?_
  refine ea_c ?_
  refine nm 4 ?_
  refine ea_c ?_
  refine ev_int ?_
  refine ea_nil ?_
  refine c_minI ?_
  refine ea_nil ?_
  refine ask_t hl h fun r79 l hl h => ?_
  refine og_addI ?_
  refine bl_norm [some (.scr sc), some (.ref p), some (rp r2), some (rp r4), some (rp s10), some (rp acc18), o47, some (rp (cutL acc18 none (some s10))), some (.ref y24), some (.ref z30.x), some (.ref y35), o48, o49, o50, some (rp ((1 : Int) + r79)), none, none] ((p, .lst l) :: ((y24, .lst (List.map rp ((cutL acc18 none (some s10)) ++ [v32]))) :: ((y35, .lst (List.map rp s43.1)) :: (stM z30 s43.2)))) ?_
  refine asgF 15 ?nd80 ?_
  case nd80 => exact nd
  refine ixF ?_
  refine nm 7 ?_
  refine cF take_mono (ok_take T) (hr.mono (by decide)) T.mg_law_take T.F_law_take.kp T.b_law_take pass0 ?_
  refine ea_c ?_
  refine nm 1 ?_
  refine ea_c ?_
  refine nm 14 ?_
  refine ea_nil ?_
  refine ask_t hl h fun r81 l hl h => ?_
  obtain ⟨v82, g83, h⟩ := h
  refine ix_l (cutL acc18 none (some s10)) (isl rfl) g83 ?_
  refine bl_norm [some (.scr sc), some (.ref p), some (rp r2), some (rp r4), some (rp s10), some (rp acc18), o47, some (rp (cutL acc18 none (some s10))), some (.ref y24), some (.ref z30.x), some (.ref y35), o48, o49, o50, some (rp ((1 : Int) + r79)), some (rp v82), none] ((p, .lst l) :: ((y24, .lst (List.map rp ((cutL acc18 none (some s10)) ++ [v32]))) :: ((y35, .lst (List.map rp s43.1)) :: (stM z30 s43.2)))) ?_
  refine asgF 16 ?nd84 ?_
  case nd84 => exact nd
  refine ev_bin ?_
  refine ev_bin ?_
  refine ev_bin ?_
  refine ev_sl ?_
  refine nm 7 ?_
  refine po_no ?_
  refine po_so ?_
  refine nm 14 ?_
  refine xi ?_
  refine sl_l (cutL acc18 none (some s10)) (isl rfl) ?_
  refine ev_lst ?_
  refine ea_c ?_
  refine nm 15 ?_
  refine ea_few ?_
  obtain ⟨g85, h⟩ := h
  refine op_addL (cutL (cutL acc18 none (some s10)) none (some ((1 : Int) + r79))) ([v82]) (isl rfl) (isl rfl) g85 ?_
  refine ev_sl ?_
  refine nm 7 ?_
  refine po_so ?_
  refine nm 14 ?_
  refine xi ?_
  refine po_no ?_
  refine sl_l (cutL acc18 none (some s10)) (isl rfl) ?_
  obtain ⟨g86, h⟩ := h
  refine op_addL ((cutL (cutL acc18 none (some s10)) none (some ((1 : Int) + r79))) ++ [v82]) (cutL (cutL acc18 none (some s10)) (some ((1 : Int) + r79)) none) (isl rfl) (isl rfl) g86 ?_
  refine ev_lst ?_
  refine ea_c ?_
  refine ixF ?_
  refine nm 7 ?_
  refine ev_int ?_
  obtain ⟨v87, g88, h⟩ := h
  refine ix_l (cutL acc18 none (some s10)) (isl rfl) g88 ?_
  refine ea_few ?_
  obtain ⟨g89, h⟩ := h
  refine op_addL (((cutL (cutL acc18 none (some s10)) none (some ((1 : Int) + r79))) ++ [v82]) ++ (cutL (cutL acc18 none (some s10)) (some ((1 : Int) + r79)) none)) ([v87]) (isl rfl) (isl rfl) g89 ?_
  refine bl_norm [some (.scr sc), some (.ref p), some (rp r2), some (rp r4), some (rp s10), some (rp acc18), o47, some (rp (cutL acc18 none (some s10))), some (.ref y24), some (.ref z30.x), some (.ref y35), o48, o49, o50, some (rp ((1 : Int) + r79)), some (rp v82), some (rp ((((cutL (cutL acc18 none (some s10)) none (some ((1 : Int) + r79))) ++ [v82]) ++ (cutL (cutL acc18 none (some s10)) (some ((1 : Int) + r79)) none)) ++ [v87]))] ((p, .lst l) :: ((y24, .lst (List.map rp ((cutL acc18 none (some s10)) ++ [v32]))) :: ((y35, .lst (List.map rp s43.1)) :: (stM z30 s43.2)))) ?_
  refine ifb ?_
  refine et_cmp ?_
  refine cF sgN_mono (ok_law_repeated T) (hr.mono (by decide)) T.mg_law_repeated T.F_law_repeated.kp T.b_law_repeated pass0 ?_
  refine ea_c ?_
  refine nm 3 ?_
  refine ea_c ?_
  refine ixF ?_
  refine nm 5 ?_
  refine nm 4 ?_
  obtain ⟨v90, g91, h⟩ := h
  refine ix_l acc18 (isl rfl) g91 ?_
  refine ea_c ?_
  refine ev_sl ?_
  refine nm 16 ?_
  refine po_no ?_
  refine po_so ?_
  refine ev_int ?_
  refine xi ?_
  refine sl_l ((((cutL (cutL acc18 none (some s10)) none (some ((1 : Int) + r79))) ++ [v82]) ++ (cutL (cutL acc18 none (some s10)) (some ((1 : Int) + r79)) none)) ++ [v87]) (isl rfl) ?_
  refine ea_nil ?_
  refine ask_n (r4, v90, (cutL ((((cutL (cutL acc18 none (some s10)) none (some ((1 : Int) + r79))) ++ [v82]) ++ (cutL (cutL acc18 none (some s10)) (some ((1 : Int) + r79)) none)) ++ [v87]) none (some (60 : Int)))) rfl h (fun r92 h => ?_)
  refine ev_tup ?_
  refine ea_c ?_
  refine ev_str ?_
  refine ea_c ?_
  refine nm 15 ?_
  refine ea_few ?_
  refine op_ne r92 (some ((⟨"repeated", by decide +kernel⟩ : Nm), v82)) hu .val .val ?_
  refine xb ?_
  refine ⟨fun ht => ?_, fun ht => ?_⟩
  · replace h := h.1 ht
    refine ret ?_
    refine ev_bl ?_
    refine law_end h q
  replace h := h.2 ht
  refine nil ?_
  refine ret ?_
  refine ev_cmp ?_
  refine cF sgN_mono (ok_law_repeated T) (hr.mono (by decide)) T.mg_law_repeated T.F_law_repeated.kp T.b_law_repeated pass0 ?_
  refine ea_c ?_
  refine nm 3 ?_
  refine ea_c ?_
  refine ixF ?_
  refine nm 5 ?_
  refine nm 4 ?_
  obtain ⟨v93, g94, h⟩ := h
  refine ix_l acc18 (isl rfl) g94 ?_
  refine ea_c ?_
  refine nm 7 ?_
  refine ea_nil ?_
  refine ask_n (r4, v93, (cutL acc18 none (some s10))) rfl h (fun r95 h => ?_)
  refine ev_non ?_
  refine op_isN' r95 ?_
  refine law_end h q
theorem ok_law_of (T : Tx P K mg a) (hm : m_law (fun b => b = true)) : FnOk P w K mg base CX0 9 a.f_law a.fd_law ["_law_script"] (spLaw K) :=
  (ok_lawG T hm).imp fun vs H Q E ⟨p, ns, hv, hs, hl, q⟩ => by
    subst hv
    have e : Ex H (vis (fun _ => none) H (adr [])) := fun b o h => vis_mk h rfl (fun h => nomatch h)
    refine ⟨fun _ => none, fun _ => none, [.scr ns], [], ⟨(fun _ _ h => nomatch h), (fun _ h => nomatch h), (fun _ _ h => nomatch h), List.nodup_nil, (fun _ h => nomatch h), (fun _ _ h => nomatch h)⟩, .cons (.scr (e.l hs)) .nil, ns, rfl, hl, rfl, fun μ' v H' r rv => ?_⟩
    cases rv
    exact q H'
/-! ### names with a number -/
def NmK (k : Nat) (z : Nm) : Prop := ∃ y : Nm, NameOk (k % 12) y.1 ∧ y.1.length ≤ 12 ∧ z = nmApp y (nmInt ((k / 12 : Nat) : Int))
theorem int_cs : ∀ q : Fin 6, cs (nmInt ((q.val : Nat) : Int)).1 = [48 + q.val] := by decide +kernel
theorem NmK.cs {k : Nat} {z : Nm} (h : NmK k z) (hk : k ≤ 60) : ∃ y : Nm, NameOk (k % 12) y.1 ∧ GL.cs z.1 = GL.cs y.1 ++ [48 + k / 12] := by
  obtain ⟨y, h1, h2, rfl⟩ := h
  have hq : k / 12 < 6 := by omega
  have e := int_cs ⟨k / 12, hq⟩
  refine ⟨y, h1, ?_⟩
  have hl : y.1.length + (nmInt ((k / 12 : Nat) : Int)).1.length ≤ 1000 := by
    have e2 : (nmInt ((k / 12 : Nat) : Int)).1.length = 1 := by rw [cs_len, e]; rfl
    omega
  unfold nmApp
  rw [dif_pos hl]
  show GL.cs (y.1 ++ _) = _
  rw [cs_app, e]
theorem NmK.inj {i j : Nat} {z : Nm} (h : NmK i z) (h' : NmK j z) (hi : i ≤ 60) (hj : j ≤ 60) : i = j := by
  obtain ⟨y, h1, e⟩ := h.cs hi
  obtain ⟨y', h1', e'⟩ := h'.cs hj
  rw [e] at e'
  obtain ⟨e1, e2⟩ := List.append_inj' e' rfl
  have e3 : y.1 = y'.1 := cs_ext e1
  rw [e3] at h1
  have := h1.inj h1'
  injection e2 with e2 _
  omega
theorem names_nd {l : List Nm} (hl : l.length ≤ 61) (h : ∀ i z, l[i]? = some z → NmK i z) : l.Nodup := by
  refine List.pairwise_iff_getElem.mpr fun i j hi hj hij e => ?_
  have h1 := h i _ (List.getElem?_eq_getElem hi)
  have h2 := h j _ (List.getElem?_eq_getElem hj)
  rw [e] at h1
  have := h1.inj h2 (by omega) (by omega)
  omega
/-! ### steps against a list of pairs -/
def RelS6 (st : List Nm) (v : StV) (ps : List (Nm × Nm)) : Prop := StGood v ∧ v.order = st ∧ ∀ b ∈ st, ∀ c, c ∈ leadsOf v b ↔ (b, c) ∈ ps
theorem rel_new {st : List Nm} (hn : st.Nodup) (hl : st.length ≤ 1000000) : RelS6 st (newS st) [] := by
  refine ⟨newS_good hn hl, rfl, fun b hb c => ⟨fun h => ?_, fun h => by cases h⟩⟩
  have : ∀ l : List Nm, (look (l.map fun s => (s, ([] : List Nm))) b).getD [] = [] := fun l => by
    unfold look
    cases e : (l.map fun s => (s, ([] : List Nm))).find? fun p => decide (p.1 = b) with
    | none => rfl
    | some p =>
      obtain ⟨s, _, hs⟩ := List.mem_map.mp (List.mem_of_find?_eq_some e)
      rw [← hs]
      rfl
  have h : c ∈ (look (st.map fun s => (s, ([] : List Nm))) b).getD [] := h
  rw [this st] at h
  cases h
theorem look_map {l : List (Nm × List Nm)} (g : Nm → List Nm → List Nm) (b : Nm) : look (l.map fun p => (p.1, g p.1 p.2)) b = (look l b).map (g b) := by
  unfold look
  rw [List.find?_map]
  have e : ((fun p : Nm × List Nm => decide (p.1 = b)) ∘ fun p : Nm × List Nm => (p.1, g p.1 p.2)) = fun p => decide (p.1 = b) := rfl
  rw [e]
  cases e2 : l.find? fun p => decide (p.1 = b) with
  | none => rfl
  | some p =>
    have : p.1 = b := by simpa using List.find?_some e2
    show some (g p.1 p.2) = some (g b p.2)
    rw [this]
theorem leads_allow {v : StV} {b c d : Nm} (h : StGood v) (hd : d ∈ v.order) : leadsOf (allowS v b c) d = if d = b then (if c ∈ leadsOf v d then leadsOf v d else leadsOf v d ++ [c]) else leadsOf v d := by
  obtain ⟨l, hl, _⟩ := look_some (l := v.leads.l) (k := d) (by rw [h.le]; exact hd)
  unfold leadsOf
  have e : (allowS v b c).leads.l = v.leads.l.map fun p => (p.1, (fun x (y : List Nm) => if x = b then (if c ∈ y then y else y ++ [c]) else y) p.1 p.2) := by
    show v.leads.l.map _ = _
    refine List.map_congr_left fun p _ => ?_
    by_cases e : p.1 = b
    · rw [if_pos e]
      dsimp only
      rw [if_pos e]
    · rw [if_neg e]
      dsimp only
      rw [if_neg e]
  rw [e, look_map (fun x (y : List Nm) => if x = b then (if c ∈ y then y else y ++ [c]) else y) d, hl]
  rfl
theorem rel_allow {st : List Nm} {v : StV} {ps : List (Nm × Nm)} {b c : Nm} (h : RelS6 st v ps) (hb : b ∈ st) (hc : c ∈ st) : RelS6 st (allowS v b c) (ps ++ [(b, c)]) := by
  obtain ⟨h1, h2, h3⟩ := h
  refine ⟨allowS_good h1 (by rw [h2]; exact hc), h2, fun d hd x => ?_⟩
  rw [leads_allow h1 (by rw [h2]; exact hd), List.mem_append, List.mem_singleton, ← h3 d hd x]
  by_cases e : d = b
  · subst e
    rw [if_pos rfl]
    by_cases hm : c ∈ leadsOf v d
    · rw [if_pos hm]
      constructor
      · exact .inl
      · rintro (k | k)
        · exact k
        · injection k with _ k
          rw [k]; exact hm
    · rw [if_neg hm, List.mem_append, List.mem_singleton]
      constructor
      · rintro (k | k)
        · exact .inl k
        · exact .inr (by rw [k])
      · rintro (k | k)
        · exact .inl k
        · injection k with _ k
          exact .inr k
  · rw [if_neg e]
    constructor
    · exact .inl
    · rintro (k | k)
      · exact k
      · injection k with k _
        exact absurd k e
theorem w_steps {st : List Nm} {v : StV} {ps : List (Nm × Nm)} {s : Nm} {k : (Tu Nm) ⊕ (List Nm) → Prop} {kx : Unit → KX} (h : RelS6 st v ps) (h1 : s ∈ st → k (.inl (Tu.mk (st.filter fun c => inb (s, c) ps)))) (h2 : s ∉ st → k (.inr [⟨"unknown", by decide +kernel⟩, s])) : m_law_steps v s k kx := by
  obtain ⟨g, rfl, hr⟩ := h
  refine ⟨fun hs => ⟨rfl, s, rfl, h2 hs⟩, fun hs => ?_⟩
  have e : fromS v s = v.order.filter fun c => inb (s, c) ps := by
    unfold fromS
    refine List.filter_congr fun c _ => ?_
    exact decide_eq_decide.mpr (hr s hs c)
  rw [e]
  exact h1 hs
theorem w_agrees6 {st : List Nm} {v : StV} {ps : List (Nm × Nm)} {x : Nm} {k : Bool → Prop} {kx : Unit → KX} (h : RelS6 st v ps) (hx : x ∉ st) (hk : k true) : m_law_agrees v st ps x k kx := by
  have hf : st.length ≤ 1000000 := by rw [← h.2.1]; exact h.1.few
  unfold m_law_agrees m_Steps_standings m_law_is_tuple
  dsimp only
  rw [h.2.1, decide_eq_true (rfl : Tu.mk st = Tu.mk st)]
  refine ⟨(fun z => nomatch z), fun _ => ⟨fun _ _ => True, trivial, fun i y s hy _ => ⟨by omega, ?_⟩, fun s _ => ?_⟩⟩
  · refine w_steps h (fun hs => ?_) fun hs => absurd (List.mem_of_getElem? hy) hs
    dsimp only
    rw [decide_eq_true rfl]
    exact ⟨(fun z => nomatch z), fun _ => trivial⟩
  · refine w_steps h (fun hs => absurd hs hx) fun _ => ?_
    rw [decide_eq_true rfl]
    exact hk
/-- what allow is to say -/
def dueF (st : List Nm) (b c : Nm) : Option ((Nm × Nm) ⊕ (T3 Nm Nm Nm)) :=
  if b ∉ st then some (.inl (⟨"unknown", by decide +kernel⟩, b)) else if c ∉ st then some (.inl (⟨"unknown", by decide +kernel⟩, c)) else if b = c then some (.inr ⟨⟨"nostep", by decide +kernel⟩, b, c⟩) else none
theorem w_due {st : List Nm} {b c : Nm} {k : Option ((Nm × Nm) ⊕ (T3 Nm Nm Nm)) → Prop} (hk : k (dueF st b c)) : m_law_due st b c k := by
  unfold m_law_due
  unfold dueF at hk
  refine ⟨fun i _ => i ≤ 2 ∧ (1 ≤ i → b ∈ st) ∧ (2 ≤ i → c ∈ st), ⟨by omega, by omega, by omega⟩, fun i x s hx ⟨h1, h2, h3⟩ => ?_, fun s ⟨h1, h2, h3⟩ => ?_⟩
  · match i, hx with
    | 0, hx =>
      cases hx
      refine ⟨fun z => ?_, fun z => ⟨by omega, fun _ => inb_t.mp (by simpa using z), by omega⟩⟩
      rw [if_pos (inb_f.mp (by simpa using z))] at hk
      exact hk
    | 1, hx =>
      cases hx
      refine ⟨fun z => ?_, fun z => ⟨by omega, fun _ => h2 (by omega), fun _ => inb_t.mp (by simpa using z)⟩⟩
      rw [if_neg (fun n => n (h2 (by omega))), if_pos (inb_f.mp (by simpa using z))] at hk
      exact hk
    | n + 2, hx => simp at hx
  · rw [if_neg (fun n => n (h2 (show 1 ≤ 2 by decide))), if_neg (fun n => n (h3 (show 2 ≤ 2 by decide)))] at hk
    refine ⟨fun z => ?_, fun z => ?_⟩
    · rw [if_pos (of_decide_eq_true z)] at hk; exact hk
    · rw [if_neg (of_decide_eq_false z)] at hk; exact hk
theorem w_allowed {st : List Nm} {v : StV} {ps : List (Nm × Nm)} {b c : Nm} {k : Option ((Nm × Nm) ⊕ (T3 Nm Nm Nm)) × StV → Prop} {kx : StV → KX} (h : RelS6 st v ps)
    (h1 : ∀ e, dueF st b c = some e → k (some e, v)) (h2 : dueF st b c = none → b ∈ st → c ∈ st → k (none, allowS v b c)) : m_law_allowed v b c k kx := by
  obtain ⟨g, rfl, hr⟩ := h
  unfold dueF at h1 h2
  refine ⟨fun hb => .inl ⟨rfl, b, rfl, h1 _ (if_pos hb)⟩, fun hb hc => .inl ⟨rfl, c, rfl, h1 _ ?_⟩, fun hb hc e => .inr ⟨rfl, b, c, rfl, h1 _ ?_⟩, fun hb hc e => h2 ?_ hb hc⟩
  · rw [if_neg (fun n => n hb), if_pos hc]
  · rw [if_neg (fun n => n hb), if_neg (fun n => n hc), if_pos e]
  · rw [if_neg (fun n => n hb), if_neg (fun n => n hc), if_neg e]
theorem dupS_hit {l m : List Nm} {x : Nm} (hn : l.Nodup) (hx : x ∈ l) : dupS (l ++ x :: m) [] = some x := by
  rw [dupS_app, dupS_of (by rwa [List.nil_append]), Option.none_or, List.nil_append, dupS, if_pos hx]
theorem w_repeated_yes {kk : Int} {n x : Nm} {l : List Nm} {k : Option (Nm × Nm) → Prop} (hl : l.length ≤ 1000) (hd : dupS l [] = some x) (hk : k (some (⟨"repeated", by decide +kernel⟩, x))) : m_law_repeated kk n l k := by
  refine ⟨False, ⟨Nat.le_trans hl (by decide), fun e => (by rw [hd] at e; cases e), fun c e => ⟨rfl, c, rfl, ?_⟩⟩, fun h => h.elim⟩
  rw [hd] at e
  cases e
  exact hk
theorem w_repeated_no {kk : Int} {n : Nm} {l : List Nm} {k : Option (Nm × Nm) → Prop} (hl : l.length ≤ 1000) (hd : l.Nodup) (hk : k none) : m_law_repeated kk n l k := by
  refine ⟨True, ⟨Nat.le_trans hl (by decide), fun _ => trivial, fun c e => ?_⟩, fun _ => hk⟩
  rw [dupS_of (by rwa [List.nil_append])] at e
  cases e
/-! ### the law -/
theorem cut_take {α : Type} {l : List α} {n : Nat} (h : n ≤ l.length) : cutL l none (some (n : Int)) = l.take n := by
  unfold cutL
  rw [HT.sIx_none, HT.sIx_nat, Nat.min_eq_left h, List.drop_zero, Nat.sub_zero]
theorem cut_drop {α : Type} {l : List α} {n : Nat} (h : n ≤ l.length) : cutL l (some (n : Int)) none = l.drop n := by
  unfold cutL
  rw [HT.sIx_none, HT.sIx_nat, Nat.min_eq_left h, ← List.length_drop, List.take_length]
theorem cut_take' {α : Type} {l : List α} {n : Nat} : cutL l none (some (n : Int)) = l.take n := by
  unfold cutL
  rw [HT.sIx_none, HT.sIx_nat, List.drop_zero, Nat.sub_zero]
  by_cases h : n ≤ l.length
  · rw [Nat.min_eq_left h]
  · rw [Nat.min_eq_right (by omega), List.take_length, List.take_of_length_le (by omega)]
theorem law_true : m_law (fun b => b = true) := by
  unfold m_law
  intro z
  refine ⟨by decide, fun kk hk0 hk1 => ?_⟩
  refine ⟨by decide, fun r6 h1 h2 => ?_⟩
  obtain ⟨v7, hv, e7⟩ := atI_ge (l := [(2 : Int), (1 : Int), (3 : Int), (4 : Int), (5 : Int), (6 : Int), (7 : Int), (8 : Int), (9 : Int), (10 : Int)]) h1 h2
  refine ⟨v7, e7, fun s => 1 ≤ s ∧ s ≤ 60, ⟨by decide, fun r11 _ _ => ⟨fun _ => by decide, fun _ => ?_⟩⟩, fun s10 hs => ?_⟩
  · simp only [List.mem_cons, List.not_mem_nil, or_false] at hv
    omega
  obtain ⟨hs1, hs2⟩ := hs
  obtain ⟨n, rfl⟩ : ∃ n : Nat, s10 = (n : Int) := ⟨s10.toNat, by omega⟩
  refine ⟨by omega, ?_⟩
  refine ⟨fun i acc => acc.length = i ∧ ∀ j z, acc[j]? = some z → NmK j z, ⟨rfl, fun j z h => by simp at h⟩, fun i x acc hx ⟨hl, ha⟩ => ?_, fun acc ⟨hl, ha⟩ => ?_⟩
  · have hlt := at_lt hx
    rw [List.length_range] at hlt
    rw [List.getElem?_range (by omega)] at hx
    cases hx
    refine ⟨by omega, ⟨by omega, by omega⟩, fun y hy => ?_⟩
    have e1 : ((i : Int) / 12) = ((i / 12 : Nat) : Int) := by omega
    have e2 : ((i : Int) % 12).toNat = i % 12 := by omega
    rw [e2] at hy
    have hq := int_cs ⟨i / 12, by omega⟩
    have hy12 := hy.len
    rw [e1]
    have hl1 : (nmInt ((i / 12 : Nat) : Int)).1.length = 1 := by rw [cs_len, hq]; rfl
    refine ⟨⟨by omega, by omega⟩, by omega, ?_, fun j z hz => ?_⟩
    · show (acc ++ [_]).length = _
      rw [List.length_append, hl]
      rfl
    · have hz : (acc ++ [nmApp y (nmInt ((i / 12 : Nat) : Int))])[j]? = some z := hz
      rw [List.getElem?_append] at hz
      by_cases hj : j < acc.length
      · rw [if_pos hj] at hz
        exact ha j z hz
      · rw [if_neg hj] at hz
        have hj2 := at_lt hz
        rw [List.length_singleton] at hj2
        have : j = i := by omega
        subst this
        rw [show j - acc.length = 0 by omega] at hz
        cases hz
        exact ⟨y, hy, hy12, rfl⟩
  rw [List.length_range] at hl
  have hl : acc.length = n + 1 := by omega
  have nda := names_nd (by omega) ha
  obtain ⟨x0, hx0⟩ : ∃ x, acc[n]? = some x := ⟨_, List.getElem?_eq_getElem (by omega)⟩
  have ex0 : atI acc (n : Int) = some x0 := atN hx0
  refine ⟨x0, ex0, ?_⟩
  rw [cut_take (show n ≤ acc.length by omega)]
  have hst : (acc.take n).length = n := by rw [List.length_take]; omega
  have ndst : (acc.take n).Nodup := nda.sublist (List.take_sublist n acc)
  have hx : x0 ∉ acc.take n := fun h => by
    obtain ⟨j, hj⟩ := List.mem_iff_getElem?.mp h
    have h1 := at_lt hj
    rw [List.getElem?_take, if_pos (by omega)] at hj
    have := (List.getElem?_inj (show j < acc.length by omega) nda).mp (hj.trans hx0.symm)
    omega
  generalize hste : acc.take n = st at hst ndst hx
  have rn := rel_new ndst (by omega)
  refine ⟨by omega, fun _ => ?_, fun c e => ?_⟩
  rotate_left
  · rw [dupS_of (by rwa [List.nil_append])] at e
    cases e
  refine ⟨fun z => (by rw [decide_eq_true rfl] at z; cases z), fun _ => ⟨x0, ex0, by omega, x0, ex0, ?_⟩⟩
  refine w_agrees6 rn hx ⟨(fun z => nomatch z), fun _ => ?_⟩
  refine ⟨by decide, fun r45 h3 h4 => ⟨by omega, ?_⟩⟩
  refine ⟨fun i s => RelS6 st s.2 s.1 ∧ s.1.length ≤ i, ⟨rn, Nat.le_refl _⟩, fun i x52 s hxi ⟨hR, hlen⟩ => ?_, fun s _ => ?_⟩
  · have hi := at_lt hxi
    rw [List.length_range] at hi
    refine ⟨by omega, fun r55 a1 a2 => ?_⟩
    obtain ⟨b, hb, eb⟩ := atI_ge (l := acc) a1 (by omega)
    refine ⟨b, eb, by omega, fun r59 b1 b2 => ⟨by omega, ?_⟩⟩
    obtain ⟨c, hc, ec⟩ := atI_ge (l := acc) (r := (1 + r59) % ((n : Int) + 1)) (Int.emod_nonneg _ (by omega)) (by rw [hl]; exact Int.emod_lt_of_pos _ (by omega))
    refine ⟨c, ec, ?_⟩
    refine w_due ?_
    refine w_allowed hR (fun e he => ?_) fun he hb' hc' => ?_
    · rw [he]
      refine ⟨fun z => (by rw [decide_eq_true rfl] at z; cases z), fun _ => ⟨fun ps => ps = s.1, ⟨fun z => (by cases z), fun _ => rfl⟩, fun ps hps => ?_⟩⟩
      refine ⟨x0, ex0, ?_⟩
      rw [hps]
      exact w_agrees6 hR hx ⟨(fun z => nomatch z), fun _ => ⟨hR, by show s.1.length ≤ _; omega⟩⟩
    · rw [he]
      refine ⟨fun z => (by rw [decide_eq_true rfl] at z; cases z), fun _ => ⟨fun ps => ps = s.1 ++ [(b, c)], ⟨fun _ => ⟨by omega, rfl⟩, fun z => (by cases z)⟩, fun ps hps => ?_⟩⟩
      refine ⟨x0, ex0, ?_⟩
      rw [hps]
      have hR' := rel_allow hR hb' hc'
      exact w_agrees6 hR' hx ⟨(fun z => nomatch z), fun _ => ⟨hR', by show (s.1 ++ [(b, c)]).length ≤ _; rw [List.length_append]; show s.1.length + 1 ≤ _; omega⟩⟩
  refine ⟨by omega, fun r79 c1 c2 => ?_⟩
  obtain ⟨t, rfl⟩ : ∃ t : Nat, r79 = (t : Int) := ⟨r79.toNat, by omega⟩
  refine ⟨by omega, fun r81 d1 d2 => ?_⟩
  obtain ⟨u, rfl⟩ : ∃ u : Nat, r81 = (u : Int) := ⟨r81.toNat, by omega⟩
  obtain ⟨x, hxu⟩ : ∃ x, st[u]? = some x := ⟨_, List.getElem?_eq_getElem (by omega)⟩
  obtain ⟨y, hy0⟩ : ∃ x, st[0]? = some x := ⟨_, List.getElem?_eq_getElem (by omega)⟩
  rw [show (1 : Int) + (t : Int) = ((t + 1 : Nat) : Int) by omega, cut_take (show t + 1 ≤ st.length by omega), cut_drop (show t + 1 ≤ st.length by omega)]
  have l1 : (st.take (t + 1)).length = t + 1 := by rw [List.length_take]; omega
  have l2 : (st.drop (t + 1)).length = n - (t + 1) := by rw [List.length_drop]; omega
  have hxt : x ∈ st.take (t + 1) := by
    refine List.mem_of_getElem? (i := u) ?_
    rw [List.getElem?_take, if_pos (by omega)]
    exact hxu
  refine ⟨x, atN hxu, by rw [l1]; show t + 1 + 1 ≤ _; omega, by rw [List.length_append, l1, l2]; show t + 1 + 1 + _ ≤ _; omega, y, atN hy0, by rw [List.length_append, List.length_append, l1, l2]; show t + 1 + 1 + _ + 1 ≤ _; omega, x0, ex0, ?_⟩
  rw [show (60 : Int) = ((60 : Nat) : Int) from rfl, cut_take']
  have ew : List.take 60 (((st.take (t + 1) ++ [x]) ++ st.drop (t + 1)) ++ [y]) = st.take (t + 1) ++ x :: (List.take (60 - (t + 1 + 1)) (st.drop (t + 1) ++ [y])) := by
    rw [List.append_assoc, List.append_assoc, List.take_append, l1, List.take_of_length_le (by omega)]
    show _ ++ List.take (60 - (t + 1)) (x :: (st.drop (t + 1) ++ [y])) = _
    rw [show 60 - (t + 1) = (60 - (t + 1 + 1)) + 1 by omega, List.take_succ_cons]
  refine w_repeated_yes (x := x) ?_ ?_ ⟨fun z => (by rw [decide_eq_true rfl] at z; cases z), fun _ => ⟨x0, ex0, ?_⟩⟩
  · exact Nat.le_trans (List.length_take_le _ _) (by decide)
  · rw [ew]
    exact dupS_hit (ndst.sublist (List.take_sublist _ _)) hxt
  · exact w_repeated_no (by omega) ndst rfl
theorem ok_law (T : Tx P K mg a) : FnOk P w K mg base CX0 9 a.f_law a.fd_law ["_law_script"] (spLaw K) := ok_law_of T law_true
end
theorem all_mk {l : PySem.W.OpenLaw} {w : World} {K : PySem.W.Frag} {h : Heap} {mg : Str → Option Value} {fa : Addr} (X : K.In h) (G : h.Ns mainGlobals mg) (hfa : mg "law" = some (.ref fa))
    {C_Steps : Addr}
    {C_Doors : Addr}
    {C_Part : Addr}
    {C_Single : Addr}
    {C_Many : Addr}
    {C_Repeated : Addr}
    {nm_Repeated q_Repeated : Str} {N_Repeated : Addr} {bs_Repeated bm_Repeated : List Value} {sn_Repeated : List Str} {sb_Repeated : List Value} {ab_Repeated : Bool} {cl_Repeated : Option Bool} {dd_Repeated : Option Addr} {k0_Repeated k1_Repeated k2_Repeated k3_Repeated k5_Repeated : Option Value}
    {C_Unknown : Addr}
    {nm_Unknown q_Unknown : Str} {N_Unknown : Addr} {bs_Unknown bm_Unknown : List Value} {sn_Unknown : List Str} {sb_Unknown : List Value} {ab_Unknown : Bool} {cl_Unknown : Option Bool} {dd_Unknown : Option Addr} {k0_Unknown k1_Unknown k2_Unknown k3_Unknown k5_Unknown : Option Value}
    {C_NoStep : Addr}
    {nm_NoStep q_NoStep : Str} {N_NoStep : Addr} {bs_NoStep bm_NoStep : List Value} {sn_NoStep : List Str} {sb_NoStep : List Value} {ab_NoStep : Bool} {cl_NoStep : Option Bool} {dd_NoStep : Option Addr} {k0_NoStep k1_NoStep k2_NoStep k3_NoStep k5_NoStep : Option Value}
    {f_Repeated_init cda_Repeated_init cc_Repeated_init : Addr} {od_Repeated_init an_Repeated_init : Option Addr} {sl_Repeated_init : Array (Option Value)} {oc_Repeated_init kV_Repeated_init dc_Repeated_init pm_Repeated_init ct_Repeated_init : Value}
    {ccl_Repeated_init cl_Repeated_init : Value} {cdd_Repeated_init cld_Repeated_init : Option Addr} {cvs_Repeated_init : Array Value} {ccs_Repeated_init csl_Repeated_init : Array (Option Value)} {file_Repeated_init : Str} {tf_Repeated_init : Tok}
    {f_Unknown_init cda_Unknown_init cc_Unknown_init : Addr} {od_Unknown_init an_Unknown_init : Option Addr} {sl_Unknown_init : Array (Option Value)} {oc_Unknown_init kV_Unknown_init dc_Unknown_init pm_Unknown_init ct_Unknown_init : Value}
    {ccl_Unknown_init cl_Unknown_init : Value} {cdd_Unknown_init cld_Unknown_init : Option Addr} {cvs_Unknown_init : Array Value} {ccs_Unknown_init csl_Unknown_init : Array (Option Value)} {file_Unknown_init : Str} {tf_Unknown_init : Tok}
    {f_NoStep_init cda_NoStep_init cc_NoStep_init : Addr} {od_NoStep_init an_NoStep_init : Option Addr} {sl_NoStep_init : Array (Option Value)} {oc_NoStep_init kV_NoStep_init dc_NoStep_init pm_NoStep_init ct_NoStep_init : Value}
    {ccl_NoStep_init cl_NoStep_init : Value} {cdd_NoStep_init cld_NoStep_init : Option Addr} {cvs_NoStep_init : Array Value} {ccs_NoStep_init csl_NoStep_init : Array (Option Value)} {file_NoStep_init : Str} {tf_NoStep_init : Tok}
    {f_wall : Addr} {od_wall an_wall : Option Addr} {sl_wall : Array (Option Value)} {oc_wall kV_wall dc_wall pm_wall cd_wall ct_wall : Value}
    {f_Steps_init : Addr} {od_Steps_init an_Steps_init : Option Addr} {sl_Steps_init : Array (Option Value)} {oc_Steps_init kV_Steps_init dc_Steps_init pm_Steps_init cd_Steps_init ct_Steps_init : Value}
    {f_Steps_standings : Addr} {od_Steps_standings an_Steps_standings : Option Addr} {sl_Steps_standings : Array (Option Value)} {oc_Steps_standings kV_Steps_standings dc_Steps_standings pm_Steps_standings cd_Steps_standings ct_Steps_standings : Value}
    {f_Steps_allow : Addr} {od_Steps_allow an_Steps_allow : Option Addr} {sl_Steps_allow : Array (Option Value)} {oc_Steps_allow kV_Steps_allow dc_Steps_allow pm_Steps_allow cd_Steps_allow ct_Steps_allow : Value}
    {f_Steps_steps_from : Addr} {od_Steps_steps_from an_Steps_steps_from : Option Addr} {sl_Steps_steps_from : Array (Option Value)} {oc_Steps_steps_from kV_Steps_steps_from dc_Steps_steps_from pm_Steps_steps_from cd_Steps_steps_from ct_Steps_steps_from : Value}
    {f_Doors_init : Addr} {od_Doors_init an_Doors_init : Option Addr} {sl_Doors_init : Array (Option Value)} {oc_Doors_init kV_Doors_init dc_Doors_init pm_Doors_init cd_Doors_init ct_Doors_init : Value}
    {f_Part_init : Addr} {od_Part_init an_Part_init : Option Addr} {sl_Part_init : Array (Option Value)} {oc_Part_init kV_Part_init dc_Part_init pm_Part_init cd_Part_init ct_Part_init : Value}
    {f_law_pool : Addr} {od_law_pool an_law_pool : Option Addr} {sl_law_pool : Array (Option Value)} {oc_law_pool kV_law_pool dc_law_pool pm_law_pool cd_law_pool ct_law_pool : Value}
    {f_law_take : Addr} {od_law_take an_law_take : Option Addr} {sl_law_take : Array (Option Value)} {oc_law_take kV_law_take dc_law_take pm_law_take cd_law_take ct_law_take : Value}
    {f_law_base : Addr} {od_law_base an_law_base : Option Addr} {sl_law_base : Array (Option Value)} {oc_law_base kV_law_base dc_law_base pm_law_base cd_law_base ct_law_base : Value}
    {f_law_name : Addr} {od_law_name an_law_name : Option Addr} {sl_law_name : Array (Option Value)} {oc_law_name kV_law_name dc_law_name pm_law_name cd_law_name ct_law_name : Value}
    {f_law_is_tuple : Addr} {od_law_is_tuple an_law_is_tuple : Option Addr} {sl_law_is_tuple : Array (Option Value)} {oc_law_is_tuple kV_law_is_tuple dc_law_is_tuple pm_law_is_tuple cd_law_is_tuple ct_law_is_tuple : Value}
    {f_law_made : Addr} {od_law_made an_law_made : Option Addr} {sl_law_made : Array (Option Value)} {oc_law_made kV_law_made dc_law_made pm_law_made cd_law_made ct_law_made : Value}
    {f_law_repeated : Addr} {od_law_repeated an_law_repeated : Option Addr} {sl_law_repeated : Array (Option Value)} {oc_law_repeated kV_law_repeated dc_law_repeated pm_law_repeated cd_law_repeated ct_law_repeated : Value}
    {f_law_allowed : Addr} {od_law_allowed an_law_allowed : Option Addr} {sl_law_allowed : Array (Option Value)} {oc_law_allowed kV_law_allowed dc_law_allowed pm_law_allowed cd_law_allowed ct_law_allowed : Value}
    {f_law_steps : Addr} {od_law_steps an_law_steps : Option Addr} {sl_law_steps : Array (Option Value)} {oc_law_steps kV_law_steps dc_law_steps pm_law_steps cd_law_steps ct_law_steps : Value}
    {f_law_due : Addr} {od_law_due an_law_due : Option Addr} {sl_law_due : Array (Option Value)} {oc_law_due kV_law_due dc_law_due pm_law_due cd_law_due ct_law_due : Value}
    {f_law_agrees : Addr} {od_law_agrees an_law_agrees : Option Addr} {sl_law_agrees : Array (Option Value)} {oc_law_agrees kV_law_agrees dc_law_agrees pm_law_agrees cd_law_agrees ct_law_agrees : Value}
    {f_law : Addr} {od_law an_law : Option Addr} {sl_law : Array (Option Value)} {oc_law kV_law dc_law pm_law cd_law ct_law : Value}
    (aC_Steps : PySem.W.nsIn K mainGlobals "Steps" = some (some (.ref C_Steps)))
    (aC_Doors : PySem.W.nsIn K mainGlobals "Doors" = some (some (.ref C_Doors)))
    (aC_Part : PySem.W.nsIn K mainGlobals "Part" = some (some (.ref C_Part)))
    (aC_Single : PySem.W.nsIn K mainGlobals "Single" = some (some (.ref C_Single)))
    (aC_Many : PySem.W.nsIn K mainGlobals "Many" = some (some (.ref C_Many)))
    (aC_Repeated : PySem.W.nsIn K mainGlobals "Repeated" = some (some (.ref C_Repeated)))
    (lC_Repeated : K.lookup C_Repeated = some (excClassObj nm_Repeated q_Repeated C_Repeated N_Repeated bs_Repeated bm_Repeated true sn_Repeated sb_Repeated ab_Repeated cl_Repeated dd_Repeated k0_Repeated k1_Repeated k2_Repeated k3_Repeated k5_Repeated "ValueError.__new__"))
    (rv_Repeated : PySem.HandSPX.refsVE bm_Repeated = true)
    (sa_Repeated : PySem.W.findIn K (.ref C_Repeated) "__setattr__" = some (some (.builtin "object.__setattr__")))
    (eb_Repeated : PySem.W.subIn K (.ref C_Repeated) (.type "BaseException") = some true)
    (ty_Repeated : PySem.W.typeIn K (.ref C_Repeated) = some (.type "type"))
    (kc_Repeated : PySem.W.keepIn K (.ref C_Repeated) = true)
    (su_Repeated : PySem.W.ks_superIn K C_Repeated C_Repeated "__init__" = some (some (.builtin "ValueError.__init__")))
    (ve_Repeated : PySem.W.subIn K (.ref C_Repeated) (.type "ValueError") = some true)
    (mr_Repeated : PySem.W.mroIn K C_Repeated (.ref C_Repeated) = some true)
    (ga_Repeated : PySem.W.findIn K (.ref C_Repeated) "__getattribute__" = some (some (.builtin "BaseException.__getattribute__")))
    (gg_Repeated : PySem.W.findIn K (.ref C_Repeated) "__getattr__" = some none)
    (hd_Repeated : PySem.W.hasDictIn K C_Repeated = true)
    (na_Repeated_name : PySem.W.findIn K (.ref C_Repeated) "name" = some none)
    (aC_Unknown : PySem.W.nsIn K mainGlobals "Unknown" = some (some (.ref C_Unknown)))
    (lC_Unknown : K.lookup C_Unknown = some (excClassObj nm_Unknown q_Unknown C_Unknown N_Unknown bs_Unknown bm_Unknown true sn_Unknown sb_Unknown ab_Unknown cl_Unknown dd_Unknown k0_Unknown k1_Unknown k2_Unknown k3_Unknown k5_Unknown "ValueError.__new__"))
    (rv_Unknown : PySem.HandSPX.refsVE bm_Unknown = true)
    (sa_Unknown : PySem.W.findIn K (.ref C_Unknown) "__setattr__" = some (some (.builtin "object.__setattr__")))
    (eb_Unknown : PySem.W.subIn K (.ref C_Unknown) (.type "BaseException") = some true)
    (ty_Unknown : PySem.W.typeIn K (.ref C_Unknown) = some (.type "type"))
    (kc_Unknown : PySem.W.keepIn K (.ref C_Unknown) = true)
    (su_Unknown : PySem.W.ks_superIn K C_Unknown C_Unknown "__init__" = some (some (.builtin "ValueError.__init__")))
    (ve_Unknown : PySem.W.subIn K (.ref C_Unknown) (.type "ValueError") = some true)
    (mr_Unknown : PySem.W.mroIn K C_Unknown (.ref C_Unknown) = some true)
    (ga_Unknown : PySem.W.findIn K (.ref C_Unknown) "__getattribute__" = some (some (.builtin "BaseException.__getattribute__")))
    (gg_Unknown : PySem.W.findIn K (.ref C_Unknown) "__getattr__" = some none)
    (hd_Unknown : PySem.W.hasDictIn K C_Unknown = true)
    (na_Unknown_name : PySem.W.findIn K (.ref C_Unknown) "name" = some none)
    (aC_NoStep : PySem.W.nsIn K mainGlobals "NoStep" = some (some (.ref C_NoStep)))
    (lC_NoStep : K.lookup C_NoStep = some (excClassObj nm_NoStep q_NoStep C_NoStep N_NoStep bs_NoStep bm_NoStep true sn_NoStep sb_NoStep ab_NoStep cl_NoStep dd_NoStep k0_NoStep k1_NoStep k2_NoStep k3_NoStep k5_NoStep "ValueError.__new__"))
    (rv_NoStep : PySem.HandSPX.refsVE bm_NoStep = true)
    (sa_NoStep : PySem.W.findIn K (.ref C_NoStep) "__setattr__" = some (some (.builtin "object.__setattr__")))
    (eb_NoStep : PySem.W.subIn K (.ref C_NoStep) (.type "BaseException") = some true)
    (ty_NoStep : PySem.W.typeIn K (.ref C_NoStep) = some (.type "type"))
    (kc_NoStep : PySem.W.keepIn K (.ref C_NoStep) = true)
    (su_NoStep : PySem.W.ks_superIn K C_NoStep C_NoStep "__init__" = some (some (.builtin "ValueError.__init__")))
    (ve_NoStep : PySem.W.subIn K (.ref C_NoStep) (.type "ValueError") = some true)
    (mr_NoStep : PySem.W.mroIn K C_NoStep (.ref C_NoStep) = some true)
    (ga_NoStep : PySem.W.findIn K (.ref C_NoStep) "__getattribute__" = some (some (.builtin "BaseException.__getattribute__")))
    (gg_NoStep : PySem.W.findIn K (.ref C_NoStep) "__getattr__" = some none)
    (hd_NoStep : PySem.W.hasDictIn K C_NoStep = true)
    (na_NoStep_before : PySem.W.findIn K (.ref C_NoStep) "before" = some none)
    (na_NoStep_after : PySem.W.findIn K (.ref C_NoStep) "after" = some none)
    (ex_Repeated_Repeated : PySem.W.subIn K (.ref C_Repeated) (.ref C_Repeated) = some true)
    (ex_Repeated_Unknown : PySem.W.subIn K (.ref C_Repeated) (.ref C_Unknown) = some false)
    (ex_Repeated_NoStep : PySem.W.subIn K (.ref C_Repeated) (.ref C_NoStep) = some false)
    (ex_Unknown_Repeated : PySem.W.subIn K (.ref C_Unknown) (.ref C_Repeated) = some false)
    (ex_Unknown_Unknown : PySem.W.subIn K (.ref C_Unknown) (.ref C_Unknown) = some true)
    (ex_Unknown_NoStep : PySem.W.subIn K (.ref C_Unknown) (.ref C_NoStep) = some false)
    (ex_NoStep_Repeated : PySem.W.subIn K (.ref C_NoStep) (.ref C_Repeated) = some false)
    (ex_NoStep_Unknown : PySem.W.subIn K (.ref C_NoStep) (.ref C_Unknown) = some false)
    (ex_NoStep_NoStep : PySem.W.subIn K (.ref C_NoStep) (.ref C_NoStep) = some true)
    (stat : PySem.W.nsIn K cStatics "thirdparty.any" = some none)
    (a_Repeated_init : PySem.W.findIn K (.ref C_Repeated) "__init__" = some (some (.ref f_Repeated_init)))
    (ti_Repeated_init : PySem.W.typeIn K (.ref f_Repeated_init) = some (.type "function"))
    (l_Repeated_init : K.lookup f_Repeated_init = some ⟨oc_Repeated_init, od_Repeated_init, .func (PySem.W.ksFn "__init__" "Repeated.__init__" (defArgs s_Repeated_init) (defBody s_Repeated_init) (defScope s_Repeated_init) .none kV_Repeated_init dc_Repeated_init pm_Repeated_init an_Repeated_init (.ref cda_Repeated_init) ct_Repeated_init cc_Repeated_init), sl_Repeated_init⟩)
    (c_Repeated_init : PySem.W.codeIn K (.ref cda_Repeated_init) "Repeated.__init__" = true)
    (cd1_Repeated_init : K.lookup cda_Repeated_init = some ⟨ccl_Repeated_init, cdd_Repeated_init, .fields cvs_Repeated_init, ccs_Repeated_init⟩)
    (cd2_Repeated_init : cvs_Repeated_init[2]? = some (.str file_Repeated_init tf_Repeated_init))
    (cd3_Repeated_init : ((l.prog.main.file : Str) == file_Repeated_init) = true)
    (cl1_Repeated_init : K.lookup cc_Repeated_init = some ⟨cl_Repeated_init, cld_Repeated_init, .cell (some (.ref C_Repeated)), csl_Repeated_init⟩)
    (a_Unknown_init : PySem.W.findIn K (.ref C_Unknown) "__init__" = some (some (.ref f_Unknown_init)))
    (ti_Unknown_init : PySem.W.typeIn K (.ref f_Unknown_init) = some (.type "function"))
    (l_Unknown_init : K.lookup f_Unknown_init = some ⟨oc_Unknown_init, od_Unknown_init, .func (PySem.W.ksFn "__init__" "Unknown.__init__" (defArgs s_Unknown_init) (defBody s_Unknown_init) (defScope s_Unknown_init) .none kV_Unknown_init dc_Unknown_init pm_Unknown_init an_Unknown_init (.ref cda_Unknown_init) ct_Unknown_init cc_Unknown_init), sl_Unknown_init⟩)
    (c_Unknown_init : PySem.W.codeIn K (.ref cda_Unknown_init) "Unknown.__init__" = true)
    (cd1_Unknown_init : K.lookup cda_Unknown_init = some ⟨ccl_Unknown_init, cdd_Unknown_init, .fields cvs_Unknown_init, ccs_Unknown_init⟩)
    (cd2_Unknown_init : cvs_Unknown_init[2]? = some (.str file_Unknown_init tf_Unknown_init))
    (cd3_Unknown_init : ((l.prog.main.file : Str) == file_Unknown_init) = true)
    (cl1_Unknown_init : K.lookup cc_Unknown_init = some ⟨cl_Unknown_init, cld_Unknown_init, .cell (some (.ref C_Unknown)), csl_Unknown_init⟩)
    (a_NoStep_init : PySem.W.findIn K (.ref C_NoStep) "__init__" = some (some (.ref f_NoStep_init)))
    (ti_NoStep_init : PySem.W.typeIn K (.ref f_NoStep_init) = some (.type "function"))
    (l_NoStep_init : K.lookup f_NoStep_init = some ⟨oc_NoStep_init, od_NoStep_init, .func (PySem.W.ksFn "__init__" "NoStep.__init__" (defArgs s_NoStep_init) (defBody s_NoStep_init) (defScope s_NoStep_init) .none kV_NoStep_init dc_NoStep_init pm_NoStep_init an_NoStep_init (.ref cda_NoStep_init) ct_NoStep_init cc_NoStep_init), sl_NoStep_init⟩)
    (c_NoStep_init : PySem.W.codeIn K (.ref cda_NoStep_init) "NoStep.__init__" = true)
    (cd1_NoStep_init : K.lookup cda_NoStep_init = some ⟨ccl_NoStep_init, cdd_NoStep_init, .fields cvs_NoStep_init, ccs_NoStep_init⟩)
    (cd2_NoStep_init : cvs_NoStep_init[2]? = some (.str file_NoStep_init tf_NoStep_init))
    (cd3_NoStep_init : ((l.prog.main.file : Str) == file_NoStep_init) = true)
    (cl1_NoStep_init : K.lookup cc_NoStep_init = some ⟨cl_NoStep_init, cld_NoStep_init, .cell (some (.ref C_NoStep)), csl_NoStep_init⟩)
    (topS : (l.prog.main.scope.names.lookup ("super" : Str)).isSome = false)
    (a_wall : PySem.W.nsIn K mainGlobals "_wall" = some (some (.ref f_wall)))
    (l_wall : K.lookup f_wall = some ⟨oc_wall, od_wall, .func (PySem.W.fnOf "_wall" "_wall" (defArgs s_wall) (defBody s_wall) (defScope s_wall) .none kV_wall dc_wall pm_wall an_wall cd_wall ct_wall), sl_wall⟩)
    (c_wall : PySem.W.codeIn K cd_wall "_wall" = true)
    (k_wall : PySem.W.keepIn K (.ref f_wall) = true)
    (a_Steps_init : PySem.W.findIn K (.ref C_Steps) "__init__" = some (some (.ref f_Steps_init)))
    (i_Steps_init : PySem.W.isFn K (.ref f_Steps_init) = true)
    (l_Steps_init : K.lookup f_Steps_init = some ⟨oc_Steps_init, od_Steps_init, .func (PySem.W.fnOf "__init__" "Steps.__init__" (defArgs s_Steps_init) (defBody s_Steps_init) (defScope s_Steps_init) .none kV_Steps_init dc_Steps_init pm_Steps_init an_Steps_init cd_Steps_init ct_Steps_init), sl_Steps_init⟩)
    (c_Steps_init : PySem.W.codeIn K cd_Steps_init "Steps.__init__" = true)
    (k_Steps_init : PySem.W.keepIn K (.ref f_Steps_init) = true)
    (a_Steps_standings : PySem.W.findIn K (.ref C_Steps) "standings" = some (some (.ref f_Steps_standings)))
    (i_Steps_standings : PySem.W.isFn K (.ref f_Steps_standings) = true)
    (l_Steps_standings : K.lookup f_Steps_standings = some ⟨oc_Steps_standings, od_Steps_standings, .func (PySem.W.fnOf "standings" "Steps.standings" (defArgs s_Steps_standings) (defBody s_Steps_standings) (defScope s_Steps_standings) .none kV_Steps_standings dc_Steps_standings pm_Steps_standings an_Steps_standings cd_Steps_standings ct_Steps_standings), sl_Steps_standings⟩)
    (c_Steps_standings : PySem.W.codeIn K cd_Steps_standings "Steps.standings" = true)
    (k_Steps_standings : PySem.W.keepIn K (.ref f_Steps_standings) = true)
    (a_Steps_allow : PySem.W.findIn K (.ref C_Steps) "allow" = some (some (.ref f_Steps_allow)))
    (i_Steps_allow : PySem.W.isFn K (.ref f_Steps_allow) = true)
    (l_Steps_allow : K.lookup f_Steps_allow = some ⟨oc_Steps_allow, od_Steps_allow, .func (PySem.W.fnOf "allow" "Steps.allow" (defArgs s_Steps_allow) (defBody s_Steps_allow) (defScope s_Steps_allow) .none kV_Steps_allow dc_Steps_allow pm_Steps_allow an_Steps_allow cd_Steps_allow ct_Steps_allow), sl_Steps_allow⟩)
    (c_Steps_allow : PySem.W.codeIn K cd_Steps_allow "Steps.allow" = true)
    (k_Steps_allow : PySem.W.keepIn K (.ref f_Steps_allow) = true)
    (a_Steps_steps_from : PySem.W.findIn K (.ref C_Steps) "steps_from" = some (some (.ref f_Steps_steps_from)))
    (i_Steps_steps_from : PySem.W.isFn K (.ref f_Steps_steps_from) = true)
    (l_Steps_steps_from : K.lookup f_Steps_steps_from = some ⟨oc_Steps_steps_from, od_Steps_steps_from, .func (PySem.W.fnOf "steps_from" "Steps.steps_from" (defArgs s_Steps_steps_from) (defBody s_Steps_steps_from) (defScope s_Steps_steps_from) .none kV_Steps_steps_from dc_Steps_steps_from pm_Steps_steps_from an_Steps_steps_from cd_Steps_steps_from ct_Steps_steps_from), sl_Steps_steps_from⟩)
    (c_Steps_steps_from : PySem.W.codeIn K cd_Steps_steps_from "Steps.steps_from" = true)
    (k_Steps_steps_from : PySem.W.keepIn K (.ref f_Steps_steps_from) = true)
    (a_Doors_init : PySem.W.findIn K (.ref C_Doors) "__init__" = some (some (.ref f_Doors_init)))
    (i_Doors_init : PySem.W.isFn K (.ref f_Doors_init) = true)
    (l_Doors_init : K.lookup f_Doors_init = some ⟨oc_Doors_init, od_Doors_init, .func (PySem.W.fnOf "__init__" "Doors.__init__" (defArgs s_Doors_init) (defBody s_Doors_init) (defScope s_Doors_init) .none kV_Doors_init dc_Doors_init pm_Doors_init an_Doors_init cd_Doors_init ct_Doors_init), sl_Doors_init⟩)
    (c_Doors_init : PySem.W.codeIn K cd_Doors_init "Doors.__init__" = true)
    (k_Doors_init : PySem.W.keepIn K (.ref f_Doors_init) = true)
    (a_Part_init : PySem.W.findIn K (.ref C_Part) "__init__" = some (some (.ref f_Part_init)))
    (i_Part_init : PySem.W.isFn K (.ref f_Part_init) = true)
    (l_Part_init : K.lookup f_Part_init = some ⟨oc_Part_init, od_Part_init, .func (PySem.W.fnOf "__init__" "Part.__init__" (defArgs s_Part_init) (defBody s_Part_init) (defScope s_Part_init) .none kV_Part_init dc_Part_init pm_Part_init an_Part_init cd_Part_init ct_Part_init), sl_Part_init⟩)
    (c_Part_init : PySem.W.codeIn K cd_Part_init "Part.__init__" = true)
    (k_Part_init : PySem.W.keepIn K (.ref f_Part_init) = true)
    (a_law_pool : PySem.W.nsIn K mainGlobals "_law_pool" = some (some (.ref f_law_pool)))
    (l_law_pool : K.lookup f_law_pool = some ⟨oc_law_pool, od_law_pool, .func (PySem.W.fnOf "_law_pool" "_law_pool" (defArgs s_law_pool) (defBody s_law_pool) (defScope s_law_pool) .none kV_law_pool dc_law_pool pm_law_pool an_law_pool cd_law_pool ct_law_pool), sl_law_pool⟩)
    (c_law_pool : PySem.W.codeIn K cd_law_pool "_law_pool" = true)
    (k_law_pool : PySem.W.keepIn K (.ref f_law_pool) = true)
    (a_law_take : PySem.W.nsIn K mainGlobals "_law_take" = some (some (.ref f_law_take)))
    (l_law_take : K.lookup f_law_take = some ⟨oc_law_take, od_law_take, .func (PySem.W.fnOf "_law_take" "_law_take" (defArgs s_law_take) (defBody s_law_take) (defScope s_law_take) .none kV_law_take dc_law_take pm_law_take an_law_take cd_law_take ct_law_take), sl_law_take⟩)
    (c_law_take : PySem.W.codeIn K cd_law_take "_law_take" = true)
    (k_law_take : PySem.W.keepIn K (.ref f_law_take) = true)
    (a_law_base : PySem.W.nsIn K mainGlobals "_law_base" = some (some (.ref f_law_base)))
    (l_law_base : K.lookup f_law_base = some ⟨oc_law_base, od_law_base, .func (PySem.W.fnOf "_law_base" "_law_base" (defArgs s_law_base) (defBody s_law_base) (defScope s_law_base) .none kV_law_base dc_law_base pm_law_base an_law_base cd_law_base ct_law_base), sl_law_base⟩)
    (c_law_base : PySem.W.codeIn K cd_law_base "_law_base" = true)
    (k_law_base : PySem.W.keepIn K (.ref f_law_base) = true)
    (a_law_name : PySem.W.nsIn K mainGlobals "_law_name" = some (some (.ref f_law_name)))
    (l_law_name : K.lookup f_law_name = some ⟨oc_law_name, od_law_name, .func (PySem.W.fnOf "_law_name" "_law_name" (defArgs s_law_name) (defBody s_law_name) (defScope s_law_name) .none kV_law_name dc_law_name pm_law_name an_law_name cd_law_name ct_law_name), sl_law_name⟩)
    (c_law_name : PySem.W.codeIn K cd_law_name "_law_name" = true)
    (k_law_name : PySem.W.keepIn K (.ref f_law_name) = true)
    (a_law_is_tuple : PySem.W.nsIn K mainGlobals "_law_is_tuple" = some (some (.ref f_law_is_tuple)))
    (l_law_is_tuple : K.lookup f_law_is_tuple = some ⟨oc_law_is_tuple, od_law_is_tuple, .func (PySem.W.fnOf "_law_is_tuple" "_law_is_tuple" (defArgs s_law_is_tuple) (defBody s_law_is_tuple) (defScope s_law_is_tuple) .none kV_law_is_tuple dc_law_is_tuple pm_law_is_tuple an_law_is_tuple cd_law_is_tuple ct_law_is_tuple), sl_law_is_tuple⟩)
    (c_law_is_tuple : PySem.W.codeIn K cd_law_is_tuple "_law_is_tuple" = true)
    (k_law_is_tuple : PySem.W.keepIn K (.ref f_law_is_tuple) = true)
    (a_law_made : PySem.W.nsIn K mainGlobals "_law_made" = some (some (.ref f_law_made)))
    (l_law_made : K.lookup f_law_made = some ⟨oc_law_made, od_law_made, .func (PySem.W.fnOf "_law_made" "_law_made" (defArgs s_law_made) (defBody s_law_made) (defScope s_law_made) .none kV_law_made dc_law_made pm_law_made an_law_made cd_law_made ct_law_made), sl_law_made⟩)
    (c_law_made : PySem.W.codeIn K cd_law_made "_law_made" = true)
    (k_law_made : PySem.W.keepIn K (.ref f_law_made) = true)
    (a_law_repeated : PySem.W.nsIn K mainGlobals "_law_repeated" = some (some (.ref f_law_repeated)))
    (l_law_repeated : K.lookup f_law_repeated = some ⟨oc_law_repeated, od_law_repeated, .func (PySem.W.fnOf "_law_repeated" "_law_repeated" (defArgs s_law_repeated) (defBody s_law_repeated) (defScope s_law_repeated) .none kV_law_repeated dc_law_repeated pm_law_repeated an_law_repeated cd_law_repeated ct_law_repeated), sl_law_repeated⟩)
    (c_law_repeated : PySem.W.codeIn K cd_law_repeated "_law_repeated" = true)
    (k_law_repeated : PySem.W.keepIn K (.ref f_law_repeated) = true)
    (a_law_allowed : PySem.W.nsIn K mainGlobals "_law_allowed" = some (some (.ref f_law_allowed)))
    (l_law_allowed : K.lookup f_law_allowed = some ⟨oc_law_allowed, od_law_allowed, .func (PySem.W.fnOf "_law_allowed" "_law_allowed" (defArgs s_law_allowed) (defBody s_law_allowed) (defScope s_law_allowed) .none kV_law_allowed dc_law_allowed pm_law_allowed an_law_allowed cd_law_allowed ct_law_allowed), sl_law_allowed⟩)
    (c_law_allowed : PySem.W.codeIn K cd_law_allowed "_law_allowed" = true)
    (k_law_allowed : PySem.W.keepIn K (.ref f_law_allowed) = true)
    (a_law_steps : PySem.W.nsIn K mainGlobals "_law_steps" = some (some (.ref f_law_steps)))
    (l_law_steps : K.lookup f_law_steps = some ⟨oc_law_steps, od_law_steps, .func (PySem.W.fnOf "_law_steps" "_law_steps" (defArgs s_law_steps) (defBody s_law_steps) (defScope s_law_steps) .none kV_law_steps dc_law_steps pm_law_steps an_law_steps cd_law_steps ct_law_steps), sl_law_steps⟩)
    (c_law_steps : PySem.W.codeIn K cd_law_steps "_law_steps" = true)
    (k_law_steps : PySem.W.keepIn K (.ref f_law_steps) = true)
    (a_law_due : PySem.W.nsIn K mainGlobals "_law_due" = some (some (.ref f_law_due)))
    (l_law_due : K.lookup f_law_due = some ⟨oc_law_due, od_law_due, .func (PySem.W.fnOf "_law_due" "_law_due" (defArgs s_law_due) (defBody s_law_due) (defScope s_law_due) .none kV_law_due dc_law_due pm_law_due an_law_due cd_law_due ct_law_due), sl_law_due⟩)
    (c_law_due : PySem.W.codeIn K cd_law_due "_law_due" = true)
    (k_law_due : PySem.W.keepIn K (.ref f_law_due) = true)
    (a_law_agrees : PySem.W.nsIn K mainGlobals "_law_agrees" = some (some (.ref f_law_agrees)))
    (l_law_agrees : K.lookup f_law_agrees = some ⟨oc_law_agrees, od_law_agrees, .func (PySem.W.fnOf "_law_agrees" "_law_agrees" (defArgs s_law_agrees) (defBody s_law_agrees) (defScope s_law_agrees) .none kV_law_agrees dc_law_agrees pm_law_agrees an_law_agrees cd_law_agrees ct_law_agrees), sl_law_agrees⟩)
    (c_law_agrees : PySem.W.codeIn K cd_law_agrees "_law_agrees" = true)
    (k_law_agrees : PySem.W.keepIn K (.ref f_law_agrees) = true)
    (a_law : PySem.W.nsIn K mainGlobals "law" = some (some (.ref f_law)))
    (l_law : K.lookup f_law = some ⟨oc_law, od_law, .func (PySem.W.fnOf "law" "law" (defArgs s_law) (defBody s_law) (defScope s_law) .none kV_law dc_law pm_law an_law cd_law ct_law), sl_law⟩)
    (c_law : PySem.W.codeIn K cd_law "law" = true)
    (k_law : PySem.W.keepIn K (.ref f_law) = true)
    (pg_Steps : PySem.W.plainGet K C_Steps Str.empty = true)
    (hd_Steps : PySem.W.hasDictIn K C_Steps = true)
    (po_Steps : PySem.W.plainOver K C_Steps = true)
    (sa_Steps : PySem.W.findIn K (.ref C_Steps) "__setattr__" = some (some (.builtin "object.__setattr__")))
    (mk_Steps : PySem.W.makesIn K C_Steps = true)
    (kc_Steps : PySem.W.keepIn K (.ref C_Steps) = true)
    (ha_Steps : PySem.W.findIn K (.ref C_Steps) "__class__" = some (some (.builtin "object.__class__")))
    (hm_Steps : PySem.W.mroIn K C_Steps (.type "object") = some true)
    (sf_Steps : PySem.W.selfFirst K C_Steps = true)
    (nf_Steps : PySem.W.notFirst K C_Steps (.ref C_Steps) = true)
    (nfl_Steps : PySem.W.notFirst K C_Steps (.type "list") = true)
    (ic_Steps : PySem.W.isClsIn K C_Steps = true)
    (ty_Steps : PySem.W.typeIn K (.ref C_Steps) = some (.type "type"))
    (sl_Steps : PySem.W.subIn K (.type "list") (.ref C_Steps) = some false)
    (na_Steps_order : PySem.W.findIn K (.ref C_Steps) "order" = some none)
    (na_Steps_leads : PySem.W.findIn K (.ref C_Steps) "leads" = some none)
    (pg_Doors : PySem.W.plainGet K C_Doors Str.empty = true)
    (hd_Doors : PySem.W.hasDictIn K C_Doors = true)
    (po_Doors : PySem.W.plainOver K C_Doors = true)
    (sa_Doors : PySem.W.findIn K (.ref C_Doors) "__setattr__" = some (some (.builtin "object.__setattr__")))
    (mk_Doors : PySem.W.makesIn K C_Doors = true)
    (kc_Doors : PySem.W.keepIn K (.ref C_Doors) = true)
    (ha_Doors : PySem.W.findIn K (.ref C_Doors) "__class__" = some (some (.builtin "object.__class__")))
    (hm_Doors : PySem.W.mroIn K C_Doors (.type "object") = some true)
    (sf_Doors : PySem.W.selfFirst K C_Doors = true)
    (nf_Doors : PySem.W.notFirst K C_Doors (.ref C_Doors) = true)
    (nfl_Doors : PySem.W.notFirst K C_Doors (.type "list") = true)
    (ic_Doors : PySem.W.isClsIn K C_Doors = true)
    (ty_Doors : PySem.W.typeIn K (.ref C_Doors) = some (.type "type"))
    (sl_Doors : PySem.W.subIn K (.type "list") (.ref C_Doors) = some false)
    (na_Doors_rows : PySem.W.findIn K (.ref C_Doors) "rows" = some none)
    (na_Doors_doors : PySem.W.findIn K (.ref C_Doors) "doors" = some none)
    (pg_Part : PySem.W.plainGet K C_Part Str.empty = true)
    (hd_Part : PySem.W.hasDictIn K C_Part = true)
    (po_Part : PySem.W.plainOver K C_Part = true)
    (h_Part_standings : PySem.W.findIn K (.ref C_Part) "standings" = some (some (.ref f_Steps_standings)))
    (h_Part_allow : PySem.W.findIn K (.ref C_Part) "allow" = some (some (.ref f_Steps_allow)))
    (h_Part_steps_from : PySem.W.findIn K (.ref C_Part) "steps_from" = some (some (.ref f_Steps_steps_from)))
    (sa_Part : PySem.W.findIn K (.ref C_Part) "__setattr__" = some (some (.builtin "object.__setattr__")))
    (mk_Part : PySem.W.makesIn K C_Part = true)
    (kc_Part : PySem.W.keepIn K (.ref C_Part) = true)
    (ha_Part : PySem.W.findIn K (.ref C_Part) "__class__" = some (some (.builtin "object.__class__")))
    (hm_Part : PySem.W.mroIn K C_Part (.type "object") = some true)
    (sf_Part : PySem.W.selfFirst K C_Part = true)
    (nf_Part : PySem.W.notFirst K C_Part (.ref C_Part) = true)
    (nfl_Part : PySem.W.notFirst K C_Part (.type "list") = true)
    (ic_Part : PySem.W.isClsIn K C_Part = true)
    (ty_Part : PySem.W.typeIn K (.ref C_Part) = some (.type "type"))
    (sl_Part : PySem.W.subIn K (.type "list") (.ref C_Part) = some false)
    (na_Part_rows : PySem.W.findIn K (.ref C_Part) "rows" = some none)
    (na_Part_doors : PySem.W.findIn K (.ref C_Part) "doors" = some none)
    (na_Part_order : PySem.W.findIn K (.ref C_Part) "order" = some none)
    (na_Part_leads : PySem.W.findIn K (.ref C_Part) "leads" = some none)
    (na_Part_name : PySem.W.findIn K (.ref C_Part) "name" = some none)
    (pg_Single : PySem.W.plainGet K C_Single Str.empty = true)
    (hd_Single : PySem.W.hasDictIn K C_Single = true)
    (po_Single : PySem.W.plainOver K C_Single = true)
    (h_Single_init : PySem.W.findIn K (.ref C_Single) "__init__" = some (some (.ref f_Part_init)))
    (h_Single_standings : PySem.W.findIn K (.ref C_Single) "standings" = some (some (.ref f_Steps_standings)))
    (h_Single_allow : PySem.W.findIn K (.ref C_Single) "allow" = some (some (.ref f_Steps_allow)))
    (h_Single_steps_from : PySem.W.findIn K (.ref C_Single) "steps_from" = some (some (.ref f_Steps_steps_from)))
    (sa_Single : PySem.W.findIn K (.ref C_Single) "__setattr__" = some (some (.builtin "object.__setattr__")))
    (mk_Single : PySem.W.makesIn K C_Single = true)
    (kc_Single : PySem.W.keepIn K (.ref C_Single) = true)
    (ha_Single : PySem.W.findIn K (.ref C_Single) "__class__" = some (some (.builtin "object.__class__")))
    (hm_Single : PySem.W.mroIn K C_Single (.type "object") = some true)
    (sf_Single : PySem.W.selfFirst K C_Single = true)
    (nf_Single : PySem.W.notFirst K C_Single (.ref C_Single) = true)
    (nfl_Single : PySem.W.notFirst K C_Single (.type "list") = true)
    (ic_Single : PySem.W.isClsIn K C_Single = true)
    (ty_Single : PySem.W.typeIn K (.ref C_Single) = some (.type "type"))
    (sl_Single : PySem.W.subIn K (.type "list") (.ref C_Single) = some false)
    (na_Single_rows : PySem.W.findIn K (.ref C_Single) "rows" = some none)
    (na_Single_doors : PySem.W.findIn K (.ref C_Single) "doors" = some none)
    (na_Single_order : PySem.W.findIn K (.ref C_Single) "order" = some none)
    (na_Single_leads : PySem.W.findIn K (.ref C_Single) "leads" = some none)
    (na_Single_name : PySem.W.findIn K (.ref C_Single) "name" = some none)
    (pg_Many : PySem.W.plainGet K C_Many Str.empty = true)
    (hd_Many : PySem.W.hasDictIn K C_Many = true)
    (po_Many : PySem.W.plainOver K C_Many = true)
    (h_Many_init : PySem.W.findIn K (.ref C_Many) "__init__" = some (some (.ref f_Part_init)))
    (h_Many_standings : PySem.W.findIn K (.ref C_Many) "standings" = some (some (.ref f_Steps_standings)))
    (h_Many_allow : PySem.W.findIn K (.ref C_Many) "allow" = some (some (.ref f_Steps_allow)))
    (h_Many_steps_from : PySem.W.findIn K (.ref C_Many) "steps_from" = some (some (.ref f_Steps_steps_from)))
    (sa_Many : PySem.W.findIn K (.ref C_Many) "__setattr__" = some (some (.builtin "object.__setattr__")))
    (mk_Many : PySem.W.makesIn K C_Many = true)
    (kc_Many : PySem.W.keepIn K (.ref C_Many) = true)
    (ha_Many : PySem.W.findIn K (.ref C_Many) "__class__" = some (some (.builtin "object.__class__")))
    (hm_Many : PySem.W.mroIn K C_Many (.type "object") = some true)
    (sf_Many : PySem.W.selfFirst K C_Many = true)
    (nf_Many : PySem.W.notFirst K C_Many (.ref C_Many) = true)
    (nfl_Many : PySem.W.notFirst K C_Many (.type "list") = true)
    (ic_Many : PySem.W.isClsIn K C_Many = true)
    (ty_Many : PySem.W.typeIn K (.ref C_Many) = some (.type "type"))
    (sl_Many : PySem.W.subIn K (.type "list") (.ref C_Many) = some false)
    (na_Many_rows : PySem.W.findIn K (.ref C_Many) "rows" = some none)
    (na_Many_doors : PySem.W.findIn K (.ref C_Many) "doors" = some none)
    (na_Many_order : PySem.W.findIn K (.ref C_Many) "order" = some none)
    (na_Many_leads : PySem.W.findIn K (.ref C_Many) "leads" = some none)
    (na_Many_name : PySem.W.findIn K (.ref C_Many) "name" = some none)
    (of_Steps_init : PySem.W.findCls K (.ref C_Steps) (.type "type") "__init__" = some (.val (.ref f_Steps_init)))
    (cd1_Steps : PySem.W.readsIn K C_Steps (.type "type") = true)
    (cd2x_Steps : PySem.W.specialIn K (.ref C_Steps) "__getattribute__" = some (some (.builtin "type.__getattribute__")))
    (of_Doors_init : PySem.W.findCls K (.ref C_Doors) (.type "type") "__init__" = some (.val (.ref f_Doors_init)))
    (cd1_Doors : PySem.W.readsIn K C_Doors (.type "type") = true)
    (cd2x_Doors : PySem.W.specialIn K (.ref C_Doors) "__getattribute__" = some (some (.builtin "type.__getattribute__")))
    (hn : PySem.W.specialIn K (.builtin "object.__class__") "__get__" = some (some (.builtin "getset_descriptor.__get__")))
    (ht : PySem.W.takesIn K (.builtin "object.__class__") = some true)
    (z_len : PySem.W.nsIn K mainGlobals "len" = some none)
    (z_list : PySem.W.nsIn K mainGlobals "list" = some none)
    (z_tuple : PySem.W.nsIn K mainGlobals "tuple" = some none)
    (z_int : PySem.W.nsIn K mainGlobals "int" = some none)
    (z_range : PySem.W.nsIn K mainGlobals "range" = some none)
    (z_isinstance : PySem.W.nsIn K mainGlobals "isinstance" = some none)
    (z_iter : PySem.W.nsIn K mainGlobals "iter" = some none)
    (z_min : PySem.W.nsIn K mainGlobals "min" = some none)
    (z_str : PySem.W.nsIn K mainGlobals "str" = some none)
    (z_super : PySem.W.nsIn K mainGlobals "super" = some none)
    (z_ValueError : PySem.W.nsIn K mainGlobals "ValueError" = some none)
    : ∃ fd : FuncData, (∀ (s : Shared) (v : Value), BindsTo s fd ⟨[v], []⟩ [("_law_script", v)]) ∧ ∀ base : Heap, K.In base → base.Ns mainGlobals mg → FnOk l.prog w K mg base CX0 9 fa fd ["_law_script"] (spLaw K) := by
  have e : fa = f_law := by
    have e := hfa.symm.trans (PySem.W.mg_of X G a_law)
    injection e with e
    injection e with e
  rw [e]
  have F_wall : FunD K "_wall" "_wall" (defArgs s_wall) (defBody s_wall) (defScope s_wall) [] [] f_wall (PySem.W.fnOf "_wall" "_wall" (defArgs s_wall) (defBody s_wall) (defScope s_wall) .none kV_wall dc_wall pm_wall an_wall cd_wall ct_wall) := ⟨⟨oc_wall, od_wall, _, kV_wall, dc_wall, pm_wall, an_wall, cd_wall, ct_wall, sl_wall, rfl, l_wall, c_wall, .inl ⟨rfl, rfl⟩, .inl rfl⟩, k_wall⟩
  have b_wall : Binds K (PySem.W.fnOf "_wall" "_wall" (defArgs s_wall) (defBody s_wall) (defScope s_wall) .none kV_wall dc_wall pm_wall an_wall cd_wall ct_wall) ["k"] [] := F_wall.bindsN fun _ _ _ _ _ _ us hl => match us, hl with | [_], _ => rfl
  have F_Steps_init : FunD K "__init__" "Steps.__init__" (defArgs s_Steps_init) (defBody s_Steps_init) (defScope s_Steps_init) [] [] f_Steps_init (PySem.W.fnOf "__init__" "Steps.__init__" (defArgs s_Steps_init) (defBody s_Steps_init) (defScope s_Steps_init) .none kV_Steps_init dc_Steps_init pm_Steps_init an_Steps_init cd_Steps_init ct_Steps_init) := ⟨⟨oc_Steps_init, od_Steps_init, _, kV_Steps_init, dc_Steps_init, pm_Steps_init, an_Steps_init, cd_Steps_init, ct_Steps_init, sl_Steps_init, rfl, l_Steps_init, c_Steps_init, .inl ⟨rfl, rfl⟩, .inl rfl⟩, k_Steps_init⟩
  have b_Steps_init : Binds K (PySem.W.fnOf "__init__" "Steps.__init__" (defArgs s_Steps_init) (defBody s_Steps_init) (defScope s_Steps_init) .none kV_Steps_init dc_Steps_init pm_Steps_init an_Steps_init cd_Steps_init ct_Steps_init) ["self", "standings"] [] := F_Steps_init.bindsN fun _ _ _ _ _ _ us hl => match us, hl with | [_, _], _ => rfl
  have F_Steps_standings : FunD K "standings" "Steps.standings" (defArgs s_Steps_standings) (defBody s_Steps_standings) (defScope s_Steps_standings) [] [] f_Steps_standings (PySem.W.fnOf "standings" "Steps.standings" (defArgs s_Steps_standings) (defBody s_Steps_standings) (defScope s_Steps_standings) .none kV_Steps_standings dc_Steps_standings pm_Steps_standings an_Steps_standings cd_Steps_standings ct_Steps_standings) := ⟨⟨oc_Steps_standings, od_Steps_standings, _, kV_Steps_standings, dc_Steps_standings, pm_Steps_standings, an_Steps_standings, cd_Steps_standings, ct_Steps_standings, sl_Steps_standings, rfl, l_Steps_standings, c_Steps_standings, .inl ⟨rfl, rfl⟩, .inl rfl⟩, k_Steps_standings⟩
  have b_Steps_standings : Binds K (PySem.W.fnOf "standings" "Steps.standings" (defArgs s_Steps_standings) (defBody s_Steps_standings) (defScope s_Steps_standings) .none kV_Steps_standings dc_Steps_standings pm_Steps_standings an_Steps_standings cd_Steps_standings ct_Steps_standings) ["self"] [] := F_Steps_standings.bindsN fun _ _ _ _ _ _ us hl => match us, hl with | [_], _ => rfl
  have F_Steps_allow : FunD K "allow" "Steps.allow" (defArgs s_Steps_allow) (defBody s_Steps_allow) (defScope s_Steps_allow) [] [] f_Steps_allow (PySem.W.fnOf "allow" "Steps.allow" (defArgs s_Steps_allow) (defBody s_Steps_allow) (defScope s_Steps_allow) .none kV_Steps_allow dc_Steps_allow pm_Steps_allow an_Steps_allow cd_Steps_allow ct_Steps_allow) := ⟨⟨oc_Steps_allow, od_Steps_allow, _, kV_Steps_allow, dc_Steps_allow, pm_Steps_allow, an_Steps_allow, cd_Steps_allow, ct_Steps_allow, sl_Steps_allow, rfl, l_Steps_allow, c_Steps_allow, .inl ⟨rfl, rfl⟩, .inl rfl⟩, k_Steps_allow⟩
  have b_Steps_allow : Binds K (PySem.W.fnOf "allow" "Steps.allow" (defArgs s_Steps_allow) (defBody s_Steps_allow) (defScope s_Steps_allow) .none kV_Steps_allow dc_Steps_allow pm_Steps_allow an_Steps_allow cd_Steps_allow ct_Steps_allow) ["self", "before", "after"] [] := F_Steps_allow.bindsN fun _ _ _ _ _ _ us hl => match us, hl with | [_, _, _], _ => rfl
  have F_Steps_steps_from : FunD K "steps_from" "Steps.steps_from" (defArgs s_Steps_steps_from) (defBody s_Steps_steps_from) (defScope s_Steps_steps_from) [] [] f_Steps_steps_from (PySem.W.fnOf "steps_from" "Steps.steps_from" (defArgs s_Steps_steps_from) (defBody s_Steps_steps_from) (defScope s_Steps_steps_from) .none kV_Steps_steps_from dc_Steps_steps_from pm_Steps_steps_from an_Steps_steps_from cd_Steps_steps_from ct_Steps_steps_from) := ⟨⟨oc_Steps_steps_from, od_Steps_steps_from, _, kV_Steps_steps_from, dc_Steps_steps_from, pm_Steps_steps_from, an_Steps_steps_from, cd_Steps_steps_from, ct_Steps_steps_from, sl_Steps_steps_from, rfl, l_Steps_steps_from, c_Steps_steps_from, .inl ⟨rfl, rfl⟩, .inl rfl⟩, k_Steps_steps_from⟩
  have b_Steps_steps_from : Binds K (PySem.W.fnOf "steps_from" "Steps.steps_from" (defArgs s_Steps_steps_from) (defBody s_Steps_steps_from) (defScope s_Steps_steps_from) .none kV_Steps_steps_from dc_Steps_steps_from pm_Steps_steps_from an_Steps_steps_from cd_Steps_steps_from ct_Steps_steps_from) ["self", "standing"] [] := F_Steps_steps_from.bindsN fun _ _ _ _ _ _ us hl => match us, hl with | [_, _], _ => rfl
  have F_Doors_init : FunD K "__init__" "Doors.__init__" (defArgs s_Doors_init) (defBody s_Doors_init) (defScope s_Doors_init) [] [] f_Doors_init (PySem.W.fnOf "__init__" "Doors.__init__" (defArgs s_Doors_init) (defBody s_Doors_init) (defScope s_Doors_init) .none kV_Doors_init dc_Doors_init pm_Doors_init an_Doors_init cd_Doors_init ct_Doors_init) := ⟨⟨oc_Doors_init, od_Doors_init, _, kV_Doors_init, dc_Doors_init, pm_Doors_init, an_Doors_init, cd_Doors_init, ct_Doors_init, sl_Doors_init, rfl, l_Doors_init, c_Doors_init, .inl ⟨rfl, rfl⟩, .inl rfl⟩, k_Doors_init⟩
  have b_Doors_init : Binds K (PySem.W.fnOf "__init__" "Doors.__init__" (defArgs s_Doors_init) (defBody s_Doors_init) (defScope s_Doors_init) .none kV_Doors_init dc_Doors_init pm_Doors_init an_Doors_init cd_Doors_init ct_Doors_init) ["self", "standings"] [] := F_Doors_init.bindsN fun _ _ _ _ _ _ us hl => match us, hl with | [_, _], _ => rfl
  have F_Part_init : FunD K "__init__" "Part.__init__" (defArgs s_Part_init) (defBody s_Part_init) (defScope s_Part_init) [] [] f_Part_init (PySem.W.fnOf "__init__" "Part.__init__" (defArgs s_Part_init) (defBody s_Part_init) (defScope s_Part_init) .none kV_Part_init dc_Part_init pm_Part_init an_Part_init cd_Part_init ct_Part_init) := ⟨⟨oc_Part_init, od_Part_init, _, kV_Part_init, dc_Part_init, pm_Part_init, an_Part_init, cd_Part_init, ct_Part_init, sl_Part_init, rfl, l_Part_init, c_Part_init, .inl ⟨rfl, rfl⟩, .inl rfl⟩, k_Part_init⟩
  have b_Part_init : Binds K (PySem.W.fnOf "__init__" "Part.__init__" (defArgs s_Part_init) (defBody s_Part_init) (defScope s_Part_init) .none kV_Part_init dc_Part_init pm_Part_init an_Part_init cd_Part_init ct_Part_init) ["self", "name", "standings"] [] := F_Part_init.bindsN fun _ _ _ _ _ _ us hl => match us, hl with | [_, _, _], _ => rfl
  have F_law_pool : FunD K "_law_pool" "_law_pool" (defArgs s_law_pool) (defBody s_law_pool) (defScope s_law_pool) [] [] f_law_pool (PySem.W.fnOf "_law_pool" "_law_pool" (defArgs s_law_pool) (defBody s_law_pool) (defScope s_law_pool) .none kV_law_pool dc_law_pool pm_law_pool an_law_pool cd_law_pool ct_law_pool) := ⟨⟨oc_law_pool, od_law_pool, _, kV_law_pool, dc_law_pool, pm_law_pool, an_law_pool, cd_law_pool, ct_law_pool, sl_law_pool, rfl, l_law_pool, c_law_pool, .inl ⟨rfl, rfl⟩, .inl rfl⟩, k_law_pool⟩
  have b_law_pool : Binds K (PySem.W.fnOf "_law_pool" "_law_pool" (defArgs s_law_pool) (defBody s_law_pool) (defScope s_law_pool) .none kV_law_pool dc_law_pool pm_law_pool an_law_pool cd_law_pool ct_law_pool) ["_law_script"] [] := F_law_pool.bindsN fun _ _ _ _ _ _ us hl => match us, hl with | [_], _ => rfl
  have F_law_take : FunD K "_law_take" "_law_take" (defArgs s_law_take) (defBody s_law_take) (defScope s_law_take) [] [] f_law_take (PySem.W.fnOf "_law_take" "_law_take" (defArgs s_law_take) (defBody s_law_take) (defScope s_law_take) .none kV_law_take dc_law_take pm_law_take an_law_take cd_law_take ct_law_take) := ⟨⟨oc_law_take, od_law_take, _, kV_law_take, dc_law_take, pm_law_take, an_law_take, cd_law_take, ct_law_take, sl_law_take, rfl, l_law_take, c_law_take, .inl ⟨rfl, rfl⟩, .inl rfl⟩, k_law_take⟩
  have b_law_take : Binds K (PySem.W.fnOf "_law_take" "_law_take" (defArgs s_law_take) (defBody s_law_take) (defScope s_law_take) .none kV_law_take dc_law_take pm_law_take an_law_take cd_law_take ct_law_take) ["_law_pool_here", "_law_size"] [] := F_law_take.bindsN fun _ _ _ _ _ _ us hl => match us, hl with | [_, _], _ => rfl
  have F_law_base : FunD K "_law_base" "_law_base" (defArgs s_law_base) (defBody s_law_base) (defScope s_law_base) [] [] f_law_base (PySem.W.fnOf "_law_base" "_law_base" (defArgs s_law_base) (defBody s_law_base) (defScope s_law_base) .none kV_law_base dc_law_base pm_law_base an_law_base cd_law_base ct_law_base) := ⟨⟨oc_law_base, od_law_base, _, kV_law_base, dc_law_base, pm_law_base, an_law_base, cd_law_base, ct_law_base, sl_law_base, rfl, l_law_base, c_law_base, .inl ⟨rfl, rfl⟩, .inl rfl⟩, k_law_base⟩
  have b_law_base : Binds K (PySem.W.fnOf "_law_base" "_law_base" (defArgs s_law_base) (defBody s_law_base) (defScope s_law_base) .none kV_law_base dc_law_base pm_law_base an_law_base cd_law_base ct_law_base) ["_law_pool_here"] [] := F_law_base.bindsN fun _ _ _ _ _ _ us hl => match us, hl with | [_], _ => rfl
  have F_law_name : FunD K "_law_name" "_law_name" (defArgs s_law_name) (defBody s_law_name) (defScope s_law_name) [] [] f_law_name (PySem.W.fnOf "_law_name" "_law_name" (defArgs s_law_name) (defBody s_law_name) (defScope s_law_name) .none kV_law_name dc_law_name pm_law_name an_law_name cd_law_name ct_law_name) := ⟨⟨oc_law_name, od_law_name, _, kV_law_name, dc_law_name, pm_law_name, an_law_name, cd_law_name, ct_law_name, sl_law_name, rfl, l_law_name, c_law_name, .inl ⟨rfl, rfl⟩, .inl rfl⟩, k_law_name⟩
  have b_law_name : Binds K (PySem.W.fnOf "_law_name" "_law_name" (defArgs s_law_name) (defBody s_law_name) (defScope s_law_name) .none kV_law_name dc_law_name pm_law_name an_law_name cd_law_name ct_law_name) ["_law_pool_here", "_law_base_here", "_law_k"] [] := F_law_name.bindsN fun _ _ _ _ _ _ us hl => match us, hl with | [_, _, _], _ => rfl
  have F_law_is_tuple : FunD K "_law_is_tuple" "_law_is_tuple" (defArgs s_law_is_tuple) (defBody s_law_is_tuple) (defScope s_law_is_tuple) [] [] f_law_is_tuple (PySem.W.fnOf "_law_is_tuple" "_law_is_tuple" (defArgs s_law_is_tuple) (defBody s_law_is_tuple) (defScope s_law_is_tuple) .none kV_law_is_tuple dc_law_is_tuple pm_law_is_tuple an_law_is_tuple cd_law_is_tuple ct_law_is_tuple) := ⟨⟨oc_law_is_tuple, od_law_is_tuple, _, kV_law_is_tuple, dc_law_is_tuple, pm_law_is_tuple, an_law_is_tuple, cd_law_is_tuple, ct_law_is_tuple, sl_law_is_tuple, rfl, l_law_is_tuple, c_law_is_tuple, .inl ⟨rfl, rfl⟩, .inl rfl⟩, k_law_is_tuple⟩
  have b_law_is_tuple : Binds K (PySem.W.fnOf "_law_is_tuple" "_law_is_tuple" (defArgs s_law_is_tuple) (defBody s_law_is_tuple) (defScope s_law_is_tuple) .none kV_law_is_tuple dc_law_is_tuple pm_law_is_tuple an_law_is_tuple cd_law_is_tuple ct_law_is_tuple) ["_law_actual", "_law_expected"] [] := F_law_is_tuple.bindsN fun _ _ _ _ _ _ us hl => match us, hl with | [_, _], _ => rfl
  have F_law_made : FunD K "_law_made" "_law_made" (defArgs s_law_made) (defBody s_law_made) (defScope s_law_made) [] [] f_law_made (PySem.W.fnOf "_law_made" "_law_made" (defArgs s_law_made) (defBody s_law_made) (defScope s_law_made) .none kV_law_made dc_law_made pm_law_made an_law_made cd_law_made ct_law_made) := ⟨⟨oc_law_made, od_law_made, _, kV_law_made, dc_law_made, pm_law_made, an_law_made, cd_law_made, ct_law_made, sl_law_made, rfl, l_law_made, c_law_made, .inl ⟨rfl, rfl⟩, .inl rfl⟩, k_law_made⟩
  have b_law_made : Binds K (PySem.W.fnOf "_law_made" "_law_made" (defArgs s_law_made) (defBody s_law_made) (defScope s_law_made) .none kV_law_made dc_law_made pm_law_made an_law_made cd_law_made ct_law_made) ["_law_k", "_law_name_here", "_law_standings"] [] := F_law_made.bindsN fun _ _ _ _ _ _ us hl => match us, hl with | [_, _, _], _ => rfl
  have F_law_repeated : FunD K "_law_repeated" "_law_repeated" (defArgs s_law_repeated) (defBody s_law_repeated) (defScope s_law_repeated) [] [] f_law_repeated (PySem.W.fnOf "_law_repeated" "_law_repeated" (defArgs s_law_repeated) (defBody s_law_repeated) (defScope s_law_repeated) .none kV_law_repeated dc_law_repeated pm_law_repeated an_law_repeated cd_law_repeated ct_law_repeated) := ⟨⟨oc_law_repeated, od_law_repeated, _, kV_law_repeated, dc_law_repeated, pm_law_repeated, an_law_repeated, cd_law_repeated, ct_law_repeated, sl_law_repeated, rfl, l_law_repeated, c_law_repeated, .inl ⟨rfl, rfl⟩, .inl rfl⟩, k_law_repeated⟩
  have b_law_repeated : Binds K (PySem.W.fnOf "_law_repeated" "_law_repeated" (defArgs s_law_repeated) (defBody s_law_repeated) (defScope s_law_repeated) .none kV_law_repeated dc_law_repeated pm_law_repeated an_law_repeated cd_law_repeated ct_law_repeated) ["_law_k", "_law_name_here", "_law_standings"] [] := F_law_repeated.bindsN fun _ _ _ _ _ _ us hl => match us, hl with | [_, _, _], _ => rfl
  have F_law_allowed : FunD K "_law_allowed" "_law_allowed" (defArgs s_law_allowed) (defBody s_law_allowed) (defScope s_law_allowed) [] [] f_law_allowed (PySem.W.fnOf "_law_allowed" "_law_allowed" (defArgs s_law_allowed) (defBody s_law_allowed) (defScope s_law_allowed) .none kV_law_allowed dc_law_allowed pm_law_allowed an_law_allowed cd_law_allowed ct_law_allowed) := ⟨⟨oc_law_allowed, od_law_allowed, _, kV_law_allowed, dc_law_allowed, pm_law_allowed, an_law_allowed, cd_law_allowed, ct_law_allowed, sl_law_allowed, rfl, l_law_allowed, c_law_allowed, .inl ⟨rfl, rfl⟩, .inl rfl⟩, k_law_allowed⟩
  have b_law_allowed : Binds K (PySem.W.fnOf "_law_allowed" "_law_allowed" (defArgs s_law_allowed) (defBody s_law_allowed) (defScope s_law_allowed) .none kV_law_allowed dc_law_allowed pm_law_allowed an_law_allowed cd_law_allowed ct_law_allowed) ["_law_part", "_law_before", "_law_after"] [] := F_law_allowed.bindsN fun _ _ _ _ _ _ us hl => match us, hl with | [_, _, _], _ => rfl
  have F_law_steps : FunD K "_law_steps" "_law_steps" (defArgs s_law_steps) (defBody s_law_steps) (defScope s_law_steps) [] [] f_law_steps (PySem.W.fnOf "_law_steps" "_law_steps" (defArgs s_law_steps) (defBody s_law_steps) (defScope s_law_steps) .none kV_law_steps dc_law_steps pm_law_steps an_law_steps cd_law_steps ct_law_steps) := ⟨⟨oc_law_steps, od_law_steps, _, kV_law_steps, dc_law_steps, pm_law_steps, an_law_steps, cd_law_steps, ct_law_steps, sl_law_steps, rfl, l_law_steps, c_law_steps, .inl ⟨rfl, rfl⟩, .inl rfl⟩, k_law_steps⟩
  have b_law_steps : Binds K (PySem.W.fnOf "_law_steps" "_law_steps" (defArgs s_law_steps) (defBody s_law_steps) (defScope s_law_steps) .none kV_law_steps dc_law_steps pm_law_steps an_law_steps cd_law_steps ct_law_steps) ["_law_part", "_law_standing"] [] := F_law_steps.bindsN fun _ _ _ _ _ _ us hl => match us, hl with | [_, _], _ => rfl
  have F_law_due : FunD K "_law_due" "_law_due" (defArgs s_law_due) (defBody s_law_due) (defScope s_law_due) [] [] f_law_due (PySem.W.fnOf "_law_due" "_law_due" (defArgs s_law_due) (defBody s_law_due) (defScope s_law_due) .none kV_law_due dc_law_due pm_law_due an_law_due cd_law_due ct_law_due) := ⟨⟨oc_law_due, od_law_due, _, kV_law_due, dc_law_due, pm_law_due, an_law_due, cd_law_due, ct_law_due, sl_law_due, rfl, l_law_due, c_law_due, .inl ⟨rfl, rfl⟩, .inl rfl⟩, k_law_due⟩
  have b_law_due : Binds K (PySem.W.fnOf "_law_due" "_law_due" (defArgs s_law_due) (defBody s_law_due) (defScope s_law_due) .none kV_law_due dc_law_due pm_law_due an_law_due cd_law_due ct_law_due) ["_law_standings", "_law_before", "_law_after"] [] := F_law_due.bindsN fun _ _ _ _ _ _ us hl => match us, hl with | [_, _, _], _ => rfl
  have F_law_agrees : FunD K "_law_agrees" "_law_agrees" (defArgs s_law_agrees) (defBody s_law_agrees) (defScope s_law_agrees) [] [] f_law_agrees (PySem.W.fnOf "_law_agrees" "_law_agrees" (defArgs s_law_agrees) (defBody s_law_agrees) (defScope s_law_agrees) .none kV_law_agrees dc_law_agrees pm_law_agrees an_law_agrees cd_law_agrees ct_law_agrees) := ⟨⟨oc_law_agrees, od_law_agrees, _, kV_law_agrees, dc_law_agrees, pm_law_agrees, an_law_agrees, cd_law_agrees, ct_law_agrees, sl_law_agrees, rfl, l_law_agrees, c_law_agrees, .inl ⟨rfl, rfl⟩, .inl rfl⟩, k_law_agrees⟩
  have b_law_agrees : Binds K (PySem.W.fnOf "_law_agrees" "_law_agrees" (defArgs s_law_agrees) (defBody s_law_agrees) (defScope s_law_agrees) .none kV_law_agrees dc_law_agrees pm_law_agrees an_law_agrees cd_law_agrees ct_law_agrees) ["_law_part", "_law_standings", "_law_steps_here", "_law_strange"] [] := F_law_agrees.bindsN fun _ _ _ _ _ _ us hl => match us, hl with | [_, _, _, _], _ => rfl
  have F_law : FunD K "law" "law" (defArgs s_law) (defBody s_law) (defScope s_law) [] [] f_law (PySem.W.fnOf "law" "law" (defArgs s_law) (defBody s_law) (defScope s_law) .none kV_law dc_law pm_law an_law cd_law ct_law) := ⟨⟨oc_law, od_law, _, kV_law, dc_law, pm_law, an_law, cd_law, ct_law, sl_law, rfl, l_law, c_law, .inl ⟨rfl, rfl⟩, .inl rfl⟩, k_law⟩
  have b_law : Binds K (PySem.W.fnOf "law" "law" (defArgs s_law) (defBody s_law) (defScope s_law) .none kV_law dc_law pm_law an_law cd_law ct_law) ["_law_script"] [] := F_law.bindsN fun _ _ _ _ _ _ us hl => match us, hl with | [_], _ => rfl
  have FS_Repeated_init : FunS l.prog K "__init__" "Repeated.__init__" (defArgs s_Repeated_init) (defBody s_Repeated_init) (defScope s_Repeated_init) f_Repeated_init (PySem.W.ksFn "__init__" "Repeated.__init__" (defArgs s_Repeated_init) (defBody s_Repeated_init) (defScope s_Repeated_init) .none kV_Repeated_init dc_Repeated_init pm_Repeated_init an_Repeated_init (.ref cda_Repeated_init) ct_Repeated_init cc_Repeated_init) C_Repeated cda_Repeated_init cc_Repeated_init := ⟨⟨_, _, kV_Repeated_init, dc_Repeated_init, pm_Repeated_init, an_Repeated_init, ct_Repeated_init, _, rfl, l_Repeated_init, c_Repeated_init⟩, ⟨_, _, _, _, _, _, cd1_Repeated_init, cd2_Repeated_init, cd3_Repeated_init⟩, ⟨_, _, _, cl1_Repeated_init⟩, topS⟩
  have FS_Unknown_init : FunS l.prog K "__init__" "Unknown.__init__" (defArgs s_Unknown_init) (defBody s_Unknown_init) (defScope s_Unknown_init) f_Unknown_init (PySem.W.ksFn "__init__" "Unknown.__init__" (defArgs s_Unknown_init) (defBody s_Unknown_init) (defScope s_Unknown_init) .none kV_Unknown_init dc_Unknown_init pm_Unknown_init an_Unknown_init (.ref cda_Unknown_init) ct_Unknown_init cc_Unknown_init) C_Unknown cda_Unknown_init cc_Unknown_init := ⟨⟨_, _, kV_Unknown_init, dc_Unknown_init, pm_Unknown_init, an_Unknown_init, ct_Unknown_init, _, rfl, l_Unknown_init, c_Unknown_init⟩, ⟨_, _, _, _, _, _, cd1_Unknown_init, cd2_Unknown_init, cd3_Unknown_init⟩, ⟨_, _, _, cl1_Unknown_init⟩, topS⟩
  have FS_NoStep_init : FunS l.prog K "__init__" "NoStep.__init__" (defArgs s_NoStep_init) (defBody s_NoStep_init) (defScope s_NoStep_init) f_NoStep_init (PySem.W.ksFn "__init__" "NoStep.__init__" (defArgs s_NoStep_init) (defBody s_NoStep_init) (defScope s_NoStep_init) .none kV_NoStep_init dc_NoStep_init pm_NoStep_init an_NoStep_init (.ref cda_NoStep_init) ct_NoStep_init cc_NoStep_init) C_NoStep cda_NoStep_init cc_NoStep_init := ⟨⟨_, _, kV_NoStep_init, dc_NoStep_init, pm_NoStep_init, an_NoStep_init, ct_NoStep_init, _, rfl, l_NoStep_init, c_NoStep_init⟩, ⟨_, _, _, _, _, _, cd1_NoStep_init, cd2_NoStep_init, cd3_NoStep_init⟩, ⟨_, _, _, cl1_NoStep_init⟩, topS⟩
  let a : Ad := { C_Steps := C_Steps, C_Doors := C_Doors, C_Part := C_Part, C_Single := C_Single, C_Many := C_Many, C_Repeated := C_Repeated, C_Unknown := C_Unknown, C_NoStep := C_NoStep, f_Repeated_init := f_Repeated_init, fd_Repeated_init := PySem.W.ksFn "__init__" "Repeated.__init__" (defArgs s_Repeated_init) (defBody s_Repeated_init) (defScope s_Repeated_init) .none kV_Repeated_init dc_Repeated_init pm_Repeated_init an_Repeated_init (.ref cda_Repeated_init) ct_Repeated_init cc_Repeated_init, cda_Repeated_init := cda_Repeated_init, cc_Repeated_init := cc_Repeated_init, f_Unknown_init := f_Unknown_init, fd_Unknown_init := PySem.W.ksFn "__init__" "Unknown.__init__" (defArgs s_Unknown_init) (defBody s_Unknown_init) (defScope s_Unknown_init) .none kV_Unknown_init dc_Unknown_init pm_Unknown_init an_Unknown_init (.ref cda_Unknown_init) ct_Unknown_init cc_Unknown_init, cda_Unknown_init := cda_Unknown_init, cc_Unknown_init := cc_Unknown_init, f_NoStep_init := f_NoStep_init, fd_NoStep_init := PySem.W.ksFn "__init__" "NoStep.__init__" (defArgs s_NoStep_init) (defBody s_NoStep_init) (defScope s_NoStep_init) .none kV_NoStep_init dc_NoStep_init pm_NoStep_init an_NoStep_init (.ref cda_NoStep_init) ct_NoStep_init cc_NoStep_init, cda_NoStep_init := cda_NoStep_init, cc_NoStep_init := cc_NoStep_init, f_wall := f_wall, fd_wall := PySem.W.fnOf "_wall" "_wall" (defArgs s_wall) (defBody s_wall) (defScope s_wall) .none kV_wall dc_wall pm_wall an_wall cd_wall ct_wall, f_Steps_init := f_Steps_init, fd_Steps_init := PySem.W.fnOf "__init__" "Steps.__init__" (defArgs s_Steps_init) (defBody s_Steps_init) (defScope s_Steps_init) .none kV_Steps_init dc_Steps_init pm_Steps_init an_Steps_init cd_Steps_init ct_Steps_init, f_Steps_standings := f_Steps_standings, fd_Steps_standings := PySem.W.fnOf "standings" "Steps.standings" (defArgs s_Steps_standings) (defBody s_Steps_standings) (defScope s_Steps_standings) .none kV_Steps_standings dc_Steps_standings pm_Steps_standings an_Steps_standings cd_Steps_standings ct_Steps_standings, f_Steps_allow := f_Steps_allow, fd_Steps_allow := PySem.W.fnOf "allow" "Steps.allow" (defArgs s_Steps_allow) (defBody s_Steps_allow) (defScope s_Steps_allow) .none kV_Steps_allow dc_Steps_allow pm_Steps_allow an_Steps_allow cd_Steps_allow ct_Steps_allow, f_Steps_steps_from := f_Steps_steps_from, fd_Steps_steps_from := PySem.W.fnOf "steps_from" "Steps.steps_from" (defArgs s_Steps_steps_from) (defBody s_Steps_steps_from) (defScope s_Steps_steps_from) .none kV_Steps_steps_from dc_Steps_steps_from pm_Steps_steps_from an_Steps_steps_from cd_Steps_steps_from ct_Steps_steps_from, f_Doors_init := f_Doors_init, fd_Doors_init := PySem.W.fnOf "__init__" "Doors.__init__" (defArgs s_Doors_init) (defBody s_Doors_init) (defScope s_Doors_init) .none kV_Doors_init dc_Doors_init pm_Doors_init an_Doors_init cd_Doors_init ct_Doors_init, f_Part_init := f_Part_init, fd_Part_init := PySem.W.fnOf "__init__" "Part.__init__" (defArgs s_Part_init) (defBody s_Part_init) (defScope s_Part_init) .none kV_Part_init dc_Part_init pm_Part_init an_Part_init cd_Part_init ct_Part_init, f_law_pool := f_law_pool, fd_law_pool := PySem.W.fnOf "_law_pool" "_law_pool" (defArgs s_law_pool) (defBody s_law_pool) (defScope s_law_pool) .none kV_law_pool dc_law_pool pm_law_pool an_law_pool cd_law_pool ct_law_pool, f_law_take := f_law_take, fd_law_take := PySem.W.fnOf "_law_take" "_law_take" (defArgs s_law_take) (defBody s_law_take) (defScope s_law_take) .none kV_law_take dc_law_take pm_law_take an_law_take cd_law_take ct_law_take, f_law_base := f_law_base, fd_law_base := PySem.W.fnOf "_law_base" "_law_base" (defArgs s_law_base) (defBody s_law_base) (defScope s_law_base) .none kV_law_base dc_law_base pm_law_base an_law_base cd_law_base ct_law_base, f_law_name := f_law_name, fd_law_name := PySem.W.fnOf "_law_name" "_law_name" (defArgs s_law_name) (defBody s_law_name) (defScope s_law_name) .none kV_law_name dc_law_name pm_law_name an_law_name cd_law_name ct_law_name, f_law_is_tuple := f_law_is_tuple, fd_law_is_tuple := PySem.W.fnOf "_law_is_tuple" "_law_is_tuple" (defArgs s_law_is_tuple) (defBody s_law_is_tuple) (defScope s_law_is_tuple) .none kV_law_is_tuple dc_law_is_tuple pm_law_is_tuple an_law_is_tuple cd_law_is_tuple ct_law_is_tuple, f_law_made := f_law_made, fd_law_made := PySem.W.fnOf "_law_made" "_law_made" (defArgs s_law_made) (defBody s_law_made) (defScope s_law_made) .none kV_law_made dc_law_made pm_law_made an_law_made cd_law_made ct_law_made, f_law_repeated := f_law_repeated, fd_law_repeated := PySem.W.fnOf "_law_repeated" "_law_repeated" (defArgs s_law_repeated) (defBody s_law_repeated) (defScope s_law_repeated) .none kV_law_repeated dc_law_repeated pm_law_repeated an_law_repeated cd_law_repeated ct_law_repeated, f_law_allowed := f_law_allowed, fd_law_allowed := PySem.W.fnOf "_law_allowed" "_law_allowed" (defArgs s_law_allowed) (defBody s_law_allowed) (defScope s_law_allowed) .none kV_law_allowed dc_law_allowed pm_law_allowed an_law_allowed cd_law_allowed ct_law_allowed, f_law_steps := f_law_steps, fd_law_steps := PySem.W.fnOf "_law_steps" "_law_steps" (defArgs s_law_steps) (defBody s_law_steps) (defScope s_law_steps) .none kV_law_steps dc_law_steps pm_law_steps an_law_steps cd_law_steps ct_law_steps, f_law_due := f_law_due, fd_law_due := PySem.W.fnOf "_law_due" "_law_due" (defArgs s_law_due) (defBody s_law_due) (defScope s_law_due) .none kV_law_due dc_law_due pm_law_due an_law_due cd_law_due ct_law_due, f_law_agrees := f_law_agrees, fd_law_agrees := PySem.W.fnOf "_law_agrees" "_law_agrees" (defArgs s_law_agrees) (defBody s_law_agrees) (defScope s_law_agrees) .none kV_law_agrees dc_law_agrees pm_law_agrees an_law_agrees cd_law_agrees ct_law_agrees, f_law := f_law, fd_law := PySem.W.fnOf "law" "law" (defArgs s_law) (defBody s_law) (defScope s_law) .none kV_law dc_law pm_law an_law cd_law ct_law }
  have T : Tx l.prog K mg a := {
    cl_Steps := ⟨pg_Steps, hd_Steps, po_Steps, sa_Steps⟩,
    is_Steps := ⟨⟨pg_Steps, hd_Steps, po_Steps, sa_Steps⟩, ha_Steps, hn, ht, hm_Steps⟩,
    mk_Steps := ⟨mk_Steps, a_Steps_init, i_Steps_init, kc_Steps⟩,
    mgC_Steps := PySem.W.mg_of X G aC_Steps,
    sf_Steps := sf_Steps,
    nf_Steps := nf_Steps,
    nfl_Steps := nfl_Steps,
    ki_Steps := kit_same,
    kl_Steps := kit_other ic_Steps ty_Steps sl_Steps rfl,
    na_Steps_order := na_Steps_order,
    na_Steps_leads := na_Steps_leads,
    cl_Doors := ⟨pg_Doors, hd_Doors, po_Doors, sa_Doors⟩,
    is_Doors := ⟨⟨pg_Doors, hd_Doors, po_Doors, sa_Doors⟩, ha_Doors, hn, ht, hm_Doors⟩,
    mk_Doors := ⟨mk_Doors, a_Doors_init, i_Doors_init, kc_Doors⟩,
    mgC_Doors := PySem.W.mg_of X G aC_Doors,
    sf_Doors := sf_Doors,
    nf_Doors := nf_Doors,
    nfl_Doors := nfl_Doors,
    ki_Doors := kit_same,
    kl_Doors := kit_other ic_Doors ty_Doors sl_Doors rfl,
    na_Doors_rows := na_Doors_rows,
    na_Doors_doors := na_Doors_doors,
    cl_Part := ⟨pg_Part, hd_Part, po_Part, sa_Part⟩,
    is_Part := ⟨⟨pg_Part, hd_Part, po_Part, sa_Part⟩, ha_Part, hn, ht, hm_Part⟩,
    mk_Part := ⟨mk_Part, a_Part_init, i_Part_init, kc_Part⟩,
    mgC_Part := PySem.W.mg_of X G aC_Part,
    sf_Part := sf_Part,
    nf_Part := nf_Part,
    nfl_Part := nfl_Part,
    ki_Part := kit_same,
    kl_Part := kit_other ic_Part ty_Part sl_Part rfl,
    na_Part_rows := na_Part_rows,
    na_Part_doors := na_Part_doors,
    na_Part_order := na_Part_order,
    na_Part_leads := na_Part_leads,
    na_Part_name := na_Part_name,
    at_Part_standings := h_Part_standings,
    at_Part_allow := h_Part_allow,
    at_Part_steps_from := h_Part_steps_from,
    cl_Single := ⟨pg_Single, hd_Single, po_Single, sa_Single⟩,
    is_Single := ⟨⟨pg_Single, hd_Single, po_Single, sa_Single⟩, ha_Single, hn, ht, hm_Single⟩,
    mk_Single := ⟨mk_Single, h_Single_init, i_Part_init, kc_Single⟩,
    mgC_Single := PySem.W.mg_of X G aC_Single,
    sf_Single := sf_Single,
    nf_Single := nf_Single,
    nfl_Single := nfl_Single,
    ki_Single := kit_same,
    kl_Single := kit_other ic_Single ty_Single sl_Single rfl,
    na_Single_rows := na_Single_rows,
    na_Single_doors := na_Single_doors,
    na_Single_order := na_Single_order,
    na_Single_leads := na_Single_leads,
    na_Single_name := na_Single_name,
    at_Single_init := h_Single_init,
    at_Single_standings := h_Single_standings,
    at_Single_allow := h_Single_allow,
    at_Single_steps_from := h_Single_steps_from,
    cl_Many := ⟨pg_Many, hd_Many, po_Many, sa_Many⟩,
    is_Many := ⟨⟨pg_Many, hd_Many, po_Many, sa_Many⟩, ha_Many, hn, ht, hm_Many⟩,
    mk_Many := ⟨mk_Many, h_Many_init, i_Part_init, kc_Many⟩,
    mgC_Many := PySem.W.mg_of X G aC_Many,
    sf_Many := sf_Many,
    nf_Many := nf_Many,
    nfl_Many := nfl_Many,
    ki_Many := kit_same,
    kl_Many := kit_other ic_Many ty_Many sl_Many rfl,
    na_Many_rows := na_Many_rows,
    na_Many_doors := na_Many_doors,
    na_Many_order := na_Many_order,
    na_Many_leads := na_Many_leads,
    na_Many_name := na_Many_name,
    at_Many_init := h_Many_init,
    at_Many_standings := h_Many_standings,
    at_Many_allow := h_Many_allow,
    at_Many_steps_from := h_Many_steps_from,
    ec_Repeated := ⟨⟨⟨_, _, _, _, _, _, _, _, _, _, _, _, _, _, _, lC_Repeated, rv_Repeated⟩, sa_Repeated, eb_Repeated, ty_Repeated, kc_Repeated⟩, su_Repeated, ve_Repeated, mr_Repeated, stat⟩,
    mgC_Repeated := PySem.W.mg_of X G aC_Repeated,
    xf_Repeated := ⟨ga_Repeated, gg_Repeated, eb_Repeated, hd_Repeated⟩,
    na_Repeated_name := na_Repeated_name,
    ex_Repeated_Repeated := exm_of eb_Repeated (cls_some lC_Repeated) ty_Repeated ex_Repeated_Repeated,
    ex_Repeated_Unknown := exm_of eb_Unknown (cls_some lC_Unknown) ty_Unknown ex_Repeated_Unknown,
    ex_Repeated_NoStep := exm_of eb_NoStep (cls_some lC_NoStep) ty_NoStep ex_Repeated_NoStep,
    ec_Unknown := ⟨⟨⟨_, _, _, _, _, _, _, _, _, _, _, _, _, _, _, lC_Unknown, rv_Unknown⟩, sa_Unknown, eb_Unknown, ty_Unknown, kc_Unknown⟩, su_Unknown, ve_Unknown, mr_Unknown, stat⟩,
    mgC_Unknown := PySem.W.mg_of X G aC_Unknown,
    xf_Unknown := ⟨ga_Unknown, gg_Unknown, eb_Unknown, hd_Unknown⟩,
    na_Unknown_name := na_Unknown_name,
    ex_Unknown_Repeated := exm_of eb_Repeated (cls_some lC_Repeated) ty_Repeated ex_Unknown_Repeated,
    ex_Unknown_Unknown := exm_of eb_Unknown (cls_some lC_Unknown) ty_Unknown ex_Unknown_Unknown,
    ex_Unknown_NoStep := exm_of eb_NoStep (cls_some lC_NoStep) ty_NoStep ex_Unknown_NoStep,
    ec_NoStep := ⟨⟨⟨_, _, _, _, _, _, _, _, _, _, _, _, _, _, _, lC_NoStep, rv_NoStep⟩, sa_NoStep, eb_NoStep, ty_NoStep, kc_NoStep⟩, su_NoStep, ve_NoStep, mr_NoStep, stat⟩,
    mgC_NoStep := PySem.W.mg_of X G aC_NoStep,
    xf_NoStep := ⟨ga_NoStep, gg_NoStep, eb_NoStep, hd_NoStep⟩,
    na_NoStep_before := na_NoStep_before,
    na_NoStep_after := na_NoStep_after,
    ex_NoStep_Repeated := exm_of eb_Repeated (cls_some lC_Repeated) ty_Repeated ex_NoStep_Repeated,
    ex_NoStep_Unknown := exm_of eb_Unknown (cls_some lC_Unknown) ty_Unknown ex_NoStep_Unknown,
    ex_NoStep_NoStep := exm_of eb_NoStep (cls_some lC_NoStep) ty_NoStep ex_NoStep_NoStep,
    F_Repeated_init := FS_Repeated_init,
    b_Repeated_init := FS_Repeated_init.bindsS fun _ _ _ _ _ _ us hl => match us, hl with | [_, _], _ => rfl,
    at_Repeated_init := a_Repeated_init,
    ti_Repeated_init := ti_Repeated_init,
    F_Unknown_init := FS_Unknown_init,
    b_Unknown_init := FS_Unknown_init.bindsS fun _ _ _ _ _ _ us hl => match us, hl with | [_, _], _ => rfl,
    at_Unknown_init := a_Unknown_init,
    ti_Unknown_init := ti_Unknown_init,
    F_NoStep_init := FS_NoStep_init,
    b_NoStep_init := FS_NoStep_init.bindsS fun _ _ _ _ _ _ us hl => match us, hl with | [_, _, _], _ => rfl,
    at_NoStep_init := a_NoStep_init,
    ti_NoStep_init := ti_NoStep_init,
    F_wall := F_wall,
    b_wall := b_wall,
    mg_wall := PySem.W.mg_of X G a_wall,
    F_Steps_init := F_Steps_init,
    b_Steps_init := b_Steps_init,
    at_Steps_init := a_Steps_init,
    fn_Steps_init := i_Steps_init,
    F_Steps_standings := F_Steps_standings,
    b_Steps_standings := b_Steps_standings,
    at_Steps_standings := a_Steps_standings,
    fn_Steps_standings := i_Steps_standings,
    F_Steps_allow := F_Steps_allow,
    b_Steps_allow := b_Steps_allow,
    at_Steps_allow := a_Steps_allow,
    fn_Steps_allow := i_Steps_allow,
    F_Steps_steps_from := F_Steps_steps_from,
    b_Steps_steps_from := b_Steps_steps_from,
    at_Steps_steps_from := a_Steps_steps_from,
    fn_Steps_steps_from := i_Steps_steps_from,
    F_Doors_init := F_Doors_init,
    b_Doors_init := b_Doors_init,
    at_Doors_init := a_Doors_init,
    fn_Doors_init := i_Doors_init,
    F_Part_init := F_Part_init,
    b_Part_init := b_Part_init,
    at_Part_init := a_Part_init,
    fn_Part_init := i_Part_init,
    F_law_pool := F_law_pool,
    b_law_pool := b_law_pool,
    mg_law_pool := PySem.W.mg_of X G a_law_pool,
    F_law_take := F_law_take,
    b_law_take := b_law_take,
    mg_law_take := PySem.W.mg_of X G a_law_take,
    F_law_base := F_law_base,
    b_law_base := b_law_base,
    mg_law_base := PySem.W.mg_of X G a_law_base,
    F_law_name := F_law_name,
    b_law_name := b_law_name,
    mg_law_name := PySem.W.mg_of X G a_law_name,
    F_law_is_tuple := F_law_is_tuple,
    b_law_is_tuple := b_law_is_tuple,
    mg_law_is_tuple := PySem.W.mg_of X G a_law_is_tuple,
    F_law_made := F_law_made,
    b_law_made := b_law_made,
    mg_law_made := PySem.W.mg_of X G a_law_made,
    F_law_repeated := F_law_repeated,
    b_law_repeated := b_law_repeated,
    mg_law_repeated := PySem.W.mg_of X G a_law_repeated,
    F_law_allowed := F_law_allowed,
    b_law_allowed := b_law_allowed,
    mg_law_allowed := PySem.W.mg_of X G a_law_allowed,
    F_law_steps := F_law_steps,
    b_law_steps := b_law_steps,
    mg_law_steps := PySem.W.mg_of X G a_law_steps,
    F_law_due := F_law_due,
    b_law_due := b_law_due,
    mg_law_due := PySem.W.mg_of X G a_law_due,
    F_law_agrees := F_law_agrees,
    b_law_agrees := b_law_agrees,
    mg_law_agrees := PySem.W.mg_of X G a_law_agrees,
    F_law := F_law,
    b_law := b_law,
    mg_law := PySem.W.mg_of X G a_law,
    z_len := PySem.W.mg_none_of X G z_len,
    z_list := PySem.W.mg_none_of X G z_list,
    z_tuple := PySem.W.mg_none_of X G z_tuple,
    z_int := PySem.W.mg_none_of X G z_int,
    z_range := PySem.W.mg_none_of X G z_range,
    z_isinstance := PySem.W.mg_none_of X G z_isinstance,
    z_iter := PySem.W.mg_none_of X G z_iter,
    z_min := PySem.W.mg_none_of X G z_min,
    z_str := PySem.W.mg_none_of X G z_str,
    z_super := PySem.W.mg_none_of X G z_super,
    z_ValueError := PySem.W.mg_none_of X G z_ValueError,
    of_Steps_init := ⟨of_Steps_init, rfl⟩,
    cd_Steps := ⟨cd1_Steps, cd2x_Steps⟩,
    of_Doors_init := ⟨of_Doors_init, rfl⟩,
    cd_Doors := ⟨cd1_Doors, cd2x_Doors⟩ }
  exact ⟨_, fun s v => F_law.bindsA (ps := ["_law_script"]) (fun _ _ _ _ _ _ us hl => match us, hl with | [_], _ => rfl) s [v] rfl, fun base _ _ => ok_law T⟩
theorem walk {l : PySem.W.OpenLaw} {q : Program} {loose : List Str} {XP : (Str → Option Value) → Heap → Prop} {YP : World → Heap → Prop} {d : DefRec} {K : Params → PySem.W.Frag} (hn : l.most = some 63) (hdf : d.params.defaults = [])
    (hY : ∀ (w : World) (h : Heap), YP w h → (K w.params).In h)
    (F : ∀ (w : World) (mg : Str → Option Value) (fa : Addr) (h : Heap), (K w.params).In h → h.Ns mainGlobals mg → mg d.name = some (.ref fa) →
      ∃ fd : FuncData, (∀ (s : Shared) (u : Value), BindsTo s fd ⟨[u], []⟩ [("_law_script", u)]) ∧ ∀ base : Heap, (K w.params).In base → base.Ns mainGlobals mg → FnOk l.prog w (K w.params) mg base CX0 9 fa fd ["_law_script"] (spLaw (K w.params))) :
    PySem.W.WalkO q loose XP YP l.row.toRowW d [] (fun f vs => PySem.call f vs) :=
  L2.walk_of (n := 63) (k := 9) (x := "_law_script") (CX := fun _ => CX0) (sp := fun w => spLaw (K w.params)) hn (by decide) hdf ⟨rfl, by decide, by decide⟩ hY F (fun _ _ a ns hl _ hS => ⟨a, ns, rfl, hS, hl, fun _ => rfl⟩) fun _ _ _ _ _ z => z
end K06
open PySem PySem.W PyProof.Rows
set_option maxRecDepth 100000 in
set_option maxHeartbeats 0 in
theorem PySem.Challenge.cw_soundyard_k06_steps_of_a_kind_holds : PySem.Challenge.rw_soundyard_k06_steps_of_a_kind.Holds := by
  w_on; o_law; k_head; (case hw => w_witness2)
  k_fill
  refine K06.walk (l := PySem.Challenge.rw_soundyard_k06_steps_of_a_kind) rfl rfl (fun w h Y => PySem.W.kIn_of Y) ?F
  case F =>
    intro w mg fa h KX G hmg
    refine' K06.all_mk KX G hmg ?aC_Steps ?aC_Doors ?aC_Part ?aC_Single ?aC_Many ?aC_Repeated ?lC_Repeated ?rv_Repeated ?sa_Repeated ?eb_Repeated ?ty_Repeated ?kc_Repeated ?su_Repeated ?ve_Repeated ?mr_Repeated ?ga_Repeated ?gg_Repeated ?hd_Repeated ?na_Repeated_name ?aC_Unknown ?lC_Unknown ?rv_Unknown ?sa_Unknown ?eb_Unknown ?ty_Unknown ?kc_Unknown ?su_Unknown ?ve_Unknown ?mr_Unknown ?ga_Unknown ?gg_Unknown ?hd_Unknown ?na_Unknown_name ?aC_NoStep ?lC_NoStep ?rv_NoStep ?sa_NoStep ?eb_NoStep ?ty_NoStep ?kc_NoStep ?su_NoStep ?ve_NoStep ?mr_NoStep ?ga_NoStep ?gg_NoStep ?hd_NoStep ?na_NoStep_before ?na_NoStep_after ?ex_Repeated_Repeated ?ex_Repeated_Unknown ?ex_Repeated_NoStep ?ex_Unknown_Repeated ?ex_Unknown_Unknown ?ex_Unknown_NoStep ?ex_NoStep_Repeated ?ex_NoStep_Unknown ?ex_NoStep_NoStep ?stat ?a_Repeated_init ?ti_Repeated_init ?l_Repeated_init ?c_Repeated_init ?cd1_Repeated_init ?cd2_Repeated_init ?cd3_Repeated_init ?cl1_Repeated_init ?a_Unknown_init ?ti_Unknown_init ?l_Unknown_init ?c_Unknown_init ?cd1_Unknown_init ?cd2_Unknown_init ?cd3_Unknown_init ?cl1_Unknown_init ?a_NoStep_init ?ti_NoStep_init ?l_NoStep_init ?c_NoStep_init ?cd1_NoStep_init ?cd2_NoStep_init ?cd3_NoStep_init ?cl1_NoStep_init ?topS ?a_wall ?l_wall ?c_wall ?k_wall ?a_Steps_init ?i_Steps_init ?l_Steps_init ?c_Steps_init ?k_Steps_init ?a_Steps_standings ?i_Steps_standings ?l_Steps_standings ?c_Steps_standings ?k_Steps_standings ?a_Steps_allow ?i_Steps_allow ?l_Steps_allow ?c_Steps_allow ?k_Steps_allow ?a_Steps_steps_from ?i_Steps_steps_from ?l_Steps_steps_from ?c_Steps_steps_from ?k_Steps_steps_from ?a_Doors_init ?i_Doors_init ?l_Doors_init ?c_Doors_init ?k_Doors_init ?a_Part_init ?i_Part_init ?l_Part_init ?c_Part_init ?k_Part_init ?a_law_pool ?l_law_pool ?c_law_pool ?k_law_pool ?a_law_take ?l_law_take ?c_law_take ?k_law_take ?a_law_base ?l_law_base ?c_law_base ?k_law_base ?a_law_name ?l_law_name ?c_law_name ?k_law_name ?a_law_is_tuple ?l_law_is_tuple ?c_law_is_tuple ?k_law_is_tuple ?a_law_made ?l_law_made ?c_law_made ?k_law_made ?a_law_repeated ?l_law_repeated ?c_law_repeated ?k_law_repeated ?a_law_allowed ?l_law_allowed ?c_law_allowed ?k_law_allowed ?a_law_steps ?l_law_steps ?c_law_steps ?k_law_steps ?a_law_due ?l_law_due ?c_law_due ?k_law_due ?a_law_agrees ?l_law_agrees ?c_law_agrees ?k_law_agrees ?a_law ?l_law ?c_law ?k_law ?pg_Steps ?hd_Steps ?po_Steps ?sa_Steps ?mk_Steps ?kc_Steps ?ha_Steps ?hm_Steps ?sf_Steps ?nf_Steps ?nfl_Steps ?ic_Steps ?ty_Steps ?sl_Steps ?na_Steps_order ?na_Steps_leads ?pg_Doors ?hd_Doors ?po_Doors ?sa_Doors ?mk_Doors ?kc_Doors ?ha_Doors ?hm_Doors ?sf_Doors ?nf_Doors ?nfl_Doors ?ic_Doors ?ty_Doors ?sl_Doors ?na_Doors_rows ?na_Doors_doors ?pg_Part ?hd_Part ?po_Part ?h_Part_standings ?h_Part_allow ?h_Part_steps_from ?sa_Part ?mk_Part ?kc_Part ?ha_Part ?hm_Part ?sf_Part ?nf_Part ?nfl_Part ?ic_Part ?ty_Part ?sl_Part ?na_Part_rows ?na_Part_doors ?na_Part_order ?na_Part_leads ?na_Part_name ?pg_Single ?hd_Single ?po_Single ?h_Single_init ?h_Single_standings ?h_Single_allow ?h_Single_steps_from ?sa_Single ?mk_Single ?kc_Single ?ha_Single ?hm_Single ?sf_Single ?nf_Single ?nfl_Single ?ic_Single ?ty_Single ?sl_Single ?na_Single_rows ?na_Single_doors ?na_Single_order ?na_Single_leads ?na_Single_name ?pg_Many ?hd_Many ?po_Many ?h_Many_init ?h_Many_standings ?h_Many_allow ?h_Many_steps_from ?sa_Many ?mk_Many ?kc_Many ?ha_Many ?hm_Many ?sf_Many ?nf_Many ?nfl_Many ?ic_Many ?ty_Many ?sl_Many ?na_Many_rows ?na_Many_doors ?na_Many_order ?na_Many_leads ?na_Many_name ?of_Steps_init ?cd1_Steps ?cd2x_Steps ?of_Doors_init ?cd1_Doors ?cd2x_Doors ?hn ?ht ?z_len ?z_list ?z_tuple ?z_int ?z_range ?z_isinstance ?z_iter ?z_min ?z_str ?z_super ?z_ValueError
    (case aC_Steps => k_is)
    (case aC_Doors => k_is)
    (case aC_Part => k_is)
    (case aC_Single => k_is)
    (case aC_Many => k_is)
    (case aC_Repeated => k_is)
    (case lC_Repeated => k_is)
    (case rv_Repeated => exact rfl)
    (case sa_Repeated => k_is)
    (case eb_Repeated => k_is)
    (case ty_Repeated => k_is)
    (case kc_Repeated => k_is)
    (case su_Repeated => ks_is)
    (case ve_Repeated => k_is)
    (case mr_Repeated => k_is)
    (case ga_Repeated => k_is)
    (case gg_Repeated => k_is)
    (case hd_Repeated => k_is)
    (case na_Repeated_name => k_is)
    (case aC_Unknown => k_is)
    (case lC_Unknown => k_is)
    (case rv_Unknown => exact rfl)
    (case sa_Unknown => k_is)
    (case eb_Unknown => k_is)
    (case ty_Unknown => k_is)
    (case kc_Unknown => k_is)
    (case su_Unknown => ks_is)
    (case ve_Unknown => k_is)
    (case mr_Unknown => k_is)
    (case ga_Unknown => k_is)
    (case gg_Unknown => k_is)
    (case hd_Unknown => k_is)
    (case na_Unknown_name => k_is)
    (case aC_NoStep => k_is)
    (case lC_NoStep => k_is)
    (case rv_NoStep => exact rfl)
    (case sa_NoStep => k_is)
    (case eb_NoStep => k_is)
    (case ty_NoStep => k_is)
    (case kc_NoStep => k_is)
    (case su_NoStep => ks_is)
    (case ve_NoStep => k_is)
    (case mr_NoStep => k_is)
    (case ga_NoStep => k_is)
    (case gg_NoStep => k_is)
    (case hd_NoStep => k_is)
    (case na_NoStep_before => k_is)
    (case na_NoStep_after => k_is)
    (case ex_Repeated_Repeated => k_is)
    (case ex_Repeated_Unknown => k_is)
    (case ex_Repeated_NoStep => k_is)
    (case ex_Unknown_Repeated => k_is)
    (case ex_Unknown_Unknown => k_is)
    (case ex_Unknown_NoStep => k_is)
    (case ex_NoStep_Repeated => k_is)
    (case ex_NoStep_Unknown => k_is)
    (case ex_NoStep_NoStep => k_is)
    (case stat => k_is)
    (case a_Repeated_init => k_is)
    (case ti_Repeated_init => k_is)
    (case l_Repeated_init => k_is)
    (case c_Repeated_init => k_is)
    (case cd1_Repeated_init => k_is)
    (case cd2_Repeated_init => exact rfl)
    (case cd3_Repeated_init => decide +kernel)
    (case cl1_Repeated_init => k_is)
    (case a_Unknown_init => k_is)
    (case ti_Unknown_init => k_is)
    (case l_Unknown_init => k_is)
    (case c_Unknown_init => k_is)
    (case cd1_Unknown_init => k_is)
    (case cd2_Unknown_init => exact rfl)
    (case cd3_Unknown_init => decide +kernel)
    (case cl1_Unknown_init => k_is)
    (case a_NoStep_init => k_is)
    (case ti_NoStep_init => k_is)
    (case l_NoStep_init => k_is)
    (case c_NoStep_init => k_is)
    (case cd1_NoStep_init => k_is)
    (case cd2_NoStep_init => exact rfl)
    (case cd3_NoStep_init => decide +kernel)
    (case cl1_NoStep_init => k_is)
    (case topS => exact rfl)
    (case a_wall => k_is)
    (case l_wall => k_is)
    (case c_wall => k_is)
    (case k_wall => k_is)
    (case a_Steps_init => k_is)
    (case i_Steps_init => k_is)
    (case l_Steps_init => k_is)
    (case c_Steps_init => k_is)
    (case k_Steps_init => k_is)
    (case a_Steps_standings => k_is)
    (case i_Steps_standings => k_is)
    (case l_Steps_standings => k_is)
    (case c_Steps_standings => k_is)
    (case k_Steps_standings => k_is)
    (case a_Steps_allow => k_is)
    (case i_Steps_allow => k_is)
    (case l_Steps_allow => k_is)
    (case c_Steps_allow => k_is)
    (case k_Steps_allow => k_is)
    (case a_Steps_steps_from => k_is)
    (case i_Steps_steps_from => k_is)
    (case l_Steps_steps_from => k_is)
    (case c_Steps_steps_from => k_is)
    (case k_Steps_steps_from => k_is)
    (case a_Doors_init => k_is)
    (case i_Doors_init => k_is)
    (case l_Doors_init => k_is)
    (case c_Doors_init => k_is)
    (case k_Doors_init => k_is)
    (case a_Part_init => k_is)
    (case i_Part_init => k_is)
    (case l_Part_init => k_is)
    (case c_Part_init => k_is)
    (case k_Part_init => k_is)
    (case a_law_pool => k_is)
    (case l_law_pool => k_is)
    (case c_law_pool => k_is)
    (case k_law_pool => k_is)
    (case a_law_take => k_is)
    (case l_law_take => k_is)
    (case c_law_take => k_is)
    (case k_law_take => k_is)
    (case a_law_base => k_is)
    (case l_law_base => k_is)
    (case c_law_base => k_is)
    (case k_law_base => k_is)
    (case a_law_name => k_is)
    (case l_law_name => k_is)
    (case c_law_name => k_is)
    (case k_law_name => k_is)
    (case a_law_is_tuple => k_is)
    (case l_law_is_tuple => k_is)
    (case c_law_is_tuple => k_is)
    (case k_law_is_tuple => k_is)
    (case a_law_made => k_is)
    (case l_law_made => k_is)
    (case c_law_made => k_is)
    (case k_law_made => k_is)
    (case a_law_repeated => k_is)
    (case l_law_repeated => k_is)
    (case c_law_repeated => k_is)
    (case k_law_repeated => k_is)
    (case a_law_allowed => k_is)
    (case l_law_allowed => k_is)
    (case c_law_allowed => k_is)
    (case k_law_allowed => k_is)
    (case a_law_steps => k_is)
    (case l_law_steps => k_is)
    (case c_law_steps => k_is)
    (case k_law_steps => k_is)
    (case a_law_due => k_is)
    (case l_law_due => k_is)
    (case c_law_due => k_is)
    (case k_law_due => k_is)
    (case a_law_agrees => k_is)
    (case l_law_agrees => k_is)
    (case c_law_agrees => k_is)
    (case k_law_agrees => k_is)
    (case a_law => k_is)
    (case l_law => k_is)
    (case c_law => k_is)
    (case k_law => k_is)
    (case pg_Steps => k_is)
    (case hd_Steps => k_is)
    (case po_Steps => k_is)
    (case sa_Steps => k_is)
    (case mk_Steps => k_is)
    (case kc_Steps => k_is)
    (case ha_Steps => k_is)
    (case hm_Steps => k_is)
    (case sf_Steps => k_is)
    (case nf_Steps => k_is)
    (case nfl_Steps => k_is)
    (case ic_Steps => k_is)
    (case ty_Steps => k_is)
    (case sl_Steps => k_is)
    (case na_Steps_order => k_is)
    (case na_Steps_leads => k_is)
    (case pg_Doors => k_is)
    (case hd_Doors => k_is)
    (case po_Doors => k_is)
    (case sa_Doors => k_is)
    (case mk_Doors => k_is)
    (case kc_Doors => k_is)
    (case ha_Doors => k_is)
    (case hm_Doors => k_is)
    (case sf_Doors => k_is)
    (case nf_Doors => k_is)
    (case nfl_Doors => k_is)
    (case ic_Doors => k_is)
    (case ty_Doors => k_is)
    (case sl_Doors => k_is)
    (case na_Doors_rows => k_is)
    (case na_Doors_doors => k_is)
    (case pg_Part => k_is)
    (case hd_Part => k_is)
    (case po_Part => k_is)
    (case h_Part_standings => k_is)
    (case h_Part_allow => k_is)
    (case h_Part_steps_from => k_is)
    (case sa_Part => k_is)
    (case mk_Part => k_is)
    (case kc_Part => k_is)
    (case ha_Part => k_is)
    (case hm_Part => k_is)
    (case sf_Part => k_is)
    (case nf_Part => k_is)
    (case nfl_Part => k_is)
    (case ic_Part => k_is)
    (case ty_Part => k_is)
    (case sl_Part => k_is)
    (case na_Part_rows => k_is)
    (case na_Part_doors => k_is)
    (case na_Part_order => k_is)
    (case na_Part_leads => k_is)
    (case na_Part_name => k_is)
    (case pg_Single => k_is)
    (case hd_Single => k_is)
    (case po_Single => k_is)
    (case h_Single_init => k_is)
    (case h_Single_standings => k_is)
    (case h_Single_allow => k_is)
    (case h_Single_steps_from => k_is)
    (case sa_Single => k_is)
    (case mk_Single => k_is)
    (case kc_Single => k_is)
    (case ha_Single => k_is)
    (case hm_Single => k_is)
    (case sf_Single => k_is)
    (case nf_Single => k_is)
    (case nfl_Single => k_is)
    (case ic_Single => k_is)
    (case ty_Single => k_is)
    (case sl_Single => k_is)
    (case na_Single_rows => k_is)
    (case na_Single_doors => k_is)
    (case na_Single_order => k_is)
    (case na_Single_leads => k_is)
    (case na_Single_name => k_is)
    (case pg_Many => k_is)
    (case hd_Many => k_is)
    (case po_Many => k_is)
    (case h_Many_init => k_is)
    (case h_Many_standings => k_is)
    (case h_Many_allow => k_is)
    (case h_Many_steps_from => k_is)
    (case sa_Many => k_is)
    (case mk_Many => k_is)
    (case kc_Many => k_is)
    (case ha_Many => k_is)
    (case hm_Many => k_is)
    (case sf_Many => k_is)
    (case nf_Many => k_is)
    (case nfl_Many => k_is)
    (case ic_Many => k_is)
    (case ty_Many => k_is)
    (case sl_Many => k_is)
    (case na_Many_rows => k_is)
    (case na_Many_doors => k_is)
    (case na_Many_order => k_is)
    (case na_Many_leads => k_is)
    (case na_Many_name => k_is)
    (case of_Steps_init => k_is)
    (case cd1_Steps => k_is)
    (case cd2x_Steps => k_is)
    (case of_Doors_init => k_is)
    (case cd1_Doors => k_is)
    (case cd2x_Doors => k_is)
    (case hn => k_is)
    (case ht => k_is)
    (case z_len => k_is)
    (case z_list => k_is)
    (case z_tuple => k_is)
    (case z_int => k_is)
    (case z_range => k_is)
    (case z_isinstance => k_is)
    (case z_iter => k_is)
    (case z_min => k_is)
    (case z_str => k_is)
    (case z_super => k_is)
    (case z_ValueError => k_is)
