import PyProof.Rows.All
import Wide.All
import OpenK.AllK
import Wide.FinOn
import HandS.ForMost
import HandS.Wide
import HandS.IsInst
import HandS.Codes
import PySem.Challenge.RW_ditchturn_k04_parts_written
set_option Elab.async false
set_option linter.all false
set_option maxRecDepth 100000
set_option maxHeartbeats 4000000
/-! PD: programs over plain data. A reading of the hand layer, told by functions on data. -/
namespace PD
open PySem L2

/-! ### data -/
/-- the built-in types that isinstance is asked of -/
inductive Tk where
  | int | bool | str | tuple | list | dict
  deriving DecidableEq
def Tk.nm : Tk → String
  | .int => "int" | .bool => "bool" | .str => "str" | .tuple => "tuple" | .list => "list" | .dict => "dict"
inductive D where
  | ty (t : Tk)
  | non | bl (b : Bool) | int (i : Int) | str (x : Str)
  | tup (ds : List D) | lst (ds : List D)
  | dic (kvs : List (Key × D)) | ins (C : Addr) (fs : List (Str × D))

theorem sameR {H H' : Hp} {a : Addr} {u : HO} (e : Same H H') (h : Rd H a u) : Rd H' a u := by
  rcases h with h | ⟨o, h⟩
  · exact .inl (e _ _ h)
  · exact .inr ⟨o, e _ _ h⟩
theorem sameL {K : PySem.W.Frag} {H H' : Hp} {a : Addr} {xs : List V} (e : Same H H') (h : SqL K H a xs) : SqL K H' a xs := by
  rcases h with h | h
  · exact .inl (sameR e h)
  · exact .inr h
theorem sameT {K : PySem.W.Frag} {H H' : Hp} {a : Addr} {xs : List V} (e : Same H H') (h : SqT K H a xs) : SqT K H' a xs := by
  rcases h with h | h
  · exact .inl (sameR e h)
  · exact .inr h
theorem sameNew {H : Hp} {p : Addr} {o : HO} (h : H p = none) : Same H (upd H p o) := fun a u e => by
  rw [upd_ne (ne_of_none e h)]
  exact e
theorem sameMut {H H' : Hp} {p : Addr} {o : HO} (e : Same H H') (h : H p = none) : Same H (upd H' p o) := fun a u ha => by
  rw [upd_ne (ne_of_none ha h)]
  exact e a u ha

mutual
inductive Dn (K : PySem.W.Frag) (H : Hp) : V → D → Prop
  | ty (t : Tk) : Dn K H (.ty t.nm) (.ty t)
  | non : Dn K H .non .non
  | bl (b : Bool) : Dn K H (.bl b) (.bl b)
  | int (i : Int) : Dn K H (.int i) (.int i)
  | str (x : Str) : Dn K H (.str x) (.str x)
  | tup {a : Addr} {vs : List V} {ds : List D} : SqT K H a vs → Dns K H vs ds → Dn K H (.ref a) (.tup ds)
  | lst {a : Addr} {vs : List V} {ds : List D} : SqL K H a vs → Dns K H vs ds → Dn K H (.ref a) (.lst ds)
  | dic {a : Addr} {kvs : List (Key × V)} {ds : List (Key × D)} : H a = some (.dK kvs) → Dks K H kvs ds → Dn K H (.ref a) (.dic ds)
  | ins {a C dx : Addr} {fs : List (Str × V)} {ds : List (Str × D)} : H a = some (.ins C dx fs) → Dfs K H fs ds → Dn K H (.ref a) (.ins C ds)
inductive Dns (K : PySem.W.Frag) (H : Hp) : List V → List D → Prop
  | nil : Dns K H [] []
  | cons {v : V} {d : D} {vs : List V} {ds : List D} : Dn K H v d → Dns K H vs ds → Dns K H (v :: vs) (d :: ds)
inductive Dks (K : PySem.W.Frag) (H : Hp) : List (Key × V) → List (Key × D) → Prop
  | nil : Dks K H [] []
  | cons {k : Key} {v : V} {d : D} {vs : List (Key × V)} {ds : List (Key × D)} : Dn K H v d → Dks K H vs ds → Dks K H ((k, v) :: vs) ((k, d) :: ds)
inductive Dfs (K : PySem.W.Frag) (H : Hp) : List (Str × V) → List (Str × D) → Prop
  | nil : Dfs K H [] []
  | cons {k : Str} {v : V} {d : D} {vs : List (Str × V)} {ds : List (Str × D)} : Dn K H v d → Dfs K H vs ds → Dfs K H ((k, v) :: vs) ((k, d) :: ds)
end

section
variable {K : PySem.W.Frag} {H H' : Hp}
mutual
theorem Dn.mono (e : Same H H') : ∀ {v : V} {d : D}, Dn K H v d → Dn K H' v d
  | _, _, .ty t => .ty t
  | _, _, .non => .non
  | _, _, .bl b => .bl b
  | _, _, .int i => .int i
  | _, _, .str x => .str x
  | _, _, .tup h r => .tup (sameT e h) (Dns.mono e r)
  | _, _, .lst h r => .lst (sameL e h) (Dns.mono e r)
  | _, _, .dic h r => .dic (e _ _ h) (Dks.mono e r)
  | _, _, .ins h r => .ins (e _ _ h) (Dfs.mono e r)
theorem Dns.mono (e : Same H H') : ∀ {v : List V} {d : List D}, Dns K H v d → Dns K H' v d
  | _, _, .nil => .nil
  | _, _, .cons h r => .cons (Dn.mono e h) (Dns.mono e r)
theorem Dks.mono (e : Same H H') : ∀ {v : List (Key × V)} {d : List (Key × D)}, Dks K H v d → Dks K H' v d
  | _, _, .nil => .nil
  | _, _, .cons h r => .cons (Dn.mono e h) (Dks.mono e r)
theorem Dfs.mono (e : Same H H') : ∀ {v : List (Str × V)} {d : List (Str × D)}, Dfs K H v d → Dfs K H' v d
  | _, _, .nil => .nil
  | _, _, .cons h r => .cons (Dn.mono e h) (Dfs.mono e r)
end
theorem Dns.length : ∀ {vs : List V} {ds : List D}, Dns K H vs ds → vs.length = ds.length
  | _, _, .nil => rfl
  | _, _, .cons _ r => by rw [List.length_cons, List.length_cons, Dns.length r]
theorem Dns.get : ∀ {vs : List V} {ds : List D} {i : Nat} {d : D}, Dns K H vs ds → ds[i]? = some d → ∃ v, vs[i]? = some v ∧ Dn K H v d
  | _, _, _, _, .nil, e => by simp at e
  | _, _, 0, _, .cons h _, e => by simp at e; subst e; exact ⟨_, rfl, h⟩
  | _, _, i + 1, _, .cons _ r, e => by
    obtain ⟨v, h1, h2⟩ := Dns.get (i := i) r (by simpa using e)
    exact ⟨v, by simpa using h1, h2⟩
theorem Dns.get' {vs : List V} {ds : List D} {i : Nat} {v : V} (r : Dns K H vs ds) (e : vs[i]? = some v) : ∃ d, ds[i]? = some d ∧ Dn K H v d := by
  have h1 : i < vs.length := by
    rcases List.getElem?_eq_some_iff.mp e with ⟨h, _⟩
    exact h
  have h2 : i < ds.length := by rw [← r.length]; exact h1
  obtain ⟨v', e', q⟩ := r.get (List.getElem?_eq_getElem h2)
  rw [e] at e'; cases e'
  exact ⟨_, List.getElem?_eq_getElem h2, q⟩
theorem Dns.append : ∀ {vs ws : List V} {ds es : List D}, Dns K H vs ds → Dns K H ws es → Dns K H (vs ++ ws) (ds ++ es)
  | _, _, _, _, .nil, q => q
  | _, _, _, _, .cons h r, q => .cons h (Dns.append r q)
theorem Dns.set : ∀ {vs : List V} {ds : List D} {v : V} {d : D} (i : Nat), Dns K H vs ds → Dn K H v d → Dns K H (vs.set i v) (ds.set i d)
  | _, _, _, _, _, .nil, _ => .nil
  | _, _, _, _, 0, .cons _ r, q => .cons q r
  | _, _, _, _, i + 1, .cons h r, q => .cons h (Dns.set i r q)
theorem Dns.take : ∀ {vs : List V} {ds : List D} (n : Nat), Dns K H vs ds → Dns K H (vs.take n) (ds.take n)
  | _, _, 0, _ => by simp; exact .nil
  | _, _, _ + 1, .nil => by simp; exact .nil
  | _, _, n + 1, .cons h r => .cons h (Dns.take n r)
theorem Dns.drop : ∀ {vs : List V} {ds : List D} (n : Nat), Dns K H vs ds → Dns K H (vs.drop n) (ds.drop n)
  | _, _, 0, r => r
  | _, _, _ + 1, .nil => .nil
  | _, _, n + 1, .cons _ r => Dns.drop n r
end

/-! ### the slots -/
abbrev En := List (Option D)
def eV (i : Nat) (ρ : En) : Option D := ρ.getD i none
theorem eV_some {i : Nat} {ρ : En} {d : D} (h : eV i ρ = some d) : ρ[i]? = some (some d) := by
  unfold eV at h
  rw [List.getD_eq_getElem?_getD] at h
  cases e : ρ[i]? with
  | none => rw [e] at h; cases h
  | some o => rw [e] at h; exact congrArg some h

/-- the view Hv is a part of H in which data is told; all slots that ρ tells -/
structure EOk (K : PySem.W.Frag) (Hv : Hp) (σ : St) (ρ : En) : Prop where
  len : σ.length = ρ.length
  at_ : ∀ (i : Nat) (d : D), ρ[i]? = some (some d) → ∃ v, σ[i]? = some (some v) ∧ Dn K Hv v d
theorem EOk.mono {K : PySem.W.Frag} {H H' : Hp} {σ : St} {ρ : En} (h : EOk K H σ ρ) (e : Same H H') : EOk K H' σ ρ :=
  ⟨h.len, fun i d q => let ⟨v, a, b⟩ := h.at_ i d q; ⟨v, a, b.mono e⟩⟩

/-- what may change: a list, a dict -/
def Mb : HO → Bool
  | .lst _ => true
  | .dK _ => true
  | _ => false
structure Stp (H Hv H' Hv' : Hp) : Prop where
  a : Same H H'
  b : Same Hv Hv'
  c : Same Hv' H'
  h : ∀ p o, Mb o = true → H p = some o → Hv p = none → Hv' p = none
theorem Stp.refl {H Hv : Hp} (e : Same Hv H) : Stp H Hv H Hv := ⟨.refl _, .refl _, e, fun _ _ _ _ n => n⟩
theorem Stp.trans {H Hv H1 Hv1 H2 Hv2 : Hp} (x : Stp H Hv H1 Hv1) (y : Stp H1 Hv1 H2 Hv2) : Stp H Hv H2 Hv2 :=
  ⟨x.a.trans y.a, x.b.trans y.b, y.c, fun p o m q n => y.h p o m (x.a _ _ q) (x.h p o m q n)⟩
/-- a new object, told -/
theorem Stp.new {H Hv : Hp} {p : Addr} {o : HO} (e : Same Hv H) (n : H p = none) : Stp H Hv (upd H p o) (upd Hv p o) := by
  have nv : Hv p = none := e.free n
  refine ⟨sameNew n, sameNew nv, fun a u q => ?_, fun q o' m hq n' => ?_⟩
  · by_cases h : a = p
    · subst h; rw [upd_same] at q ⊢; exact q
    · rw [upd_ne h] at q ⊢; exact e _ _ q
  · rw [upd_ne (ne_of_none hq n)]; exact n'
/-- a new object, not told -/
theorem Stp.newH {H Hv : Hp} {p : Addr} {o : HO} (e : Same Hv H) (n : H p = none) : Stp H Hv (upd H p o) Hv :=
  ⟨sameNew n, .refl _, sameMut e (e.free n), fun _ _ _ _ n' => n'⟩

/-! ### readings by functions -/
def rdE (K : PySem.W.Frag) (f : En → Option D) : TE := fun σ H Q => ∃ (Hv : Hp) (ρ : En) (d : D), Same Hv H ∧ EOk K Hv σ ρ ∧ f ρ = some d ∧ ∀ v H' Hv', Stp H Hv H' Hv' → Dn K Hv' v d → Q v H'
def rdT (K : PySem.W.Frag) (f : En → Option Bool) : TT := fun σ H Q => ∃ (Hv : Hp) (ρ : En) (b : Bool), Same Hv H ∧ EOk K Hv σ ρ ∧ f ρ = some b ∧ ∀ H' Hv', Stp H Hv H' Hv' → Q b H'
def rdA (K : PySem.W.Frag) (f : En → Option (List D)) : TA := fun σ H Q => ∃ (Hv : Hp) (ρ : En) (ds : List D), Same Hv H ∧ EOk K Hv σ ρ ∧ f ρ = some ds ∧ ∀ vs H' Hv', Stp H Hv H' Hv' → Dns K Hv' vs ds → Q vs H'
/-- a new list -/
def rdF (K : PySem.W.Frag) (f : En → Option (List D)) : TE := fun σ H Q => ∃ (Hv : Hp) (ρ : En) (ds : List D), Same Hv H ∧ EOk K Hv σ ρ ∧ f ρ = some ds ∧
  ∀ p vs H' Hv', Stp H Hv H' Hv' → H p = none → Hv' p = none → H' p = some (.lst vs) → Dns K Hv' vs ds → Q (.ref p) H'
section
variable {X : Cx}
theorem pe_imp {e : Expr} {t t' : TE} (h : PE X e t) (i : ∀ σ H Q, t' σ H Q → t σ H Q) : PE X e t' := ⟨fun pins s σ H Q I w => h.run pins s σ H Q I (i σ H Q w)⟩
theorem pt_imp {e : Expr} {t t' : TT} (h : PT X e t) (i : ∀ σ H Q, t' σ H Q → t σ H Q) : PT X e t' := ⟨fun pins s σ H Q I w => h.run pins s σ H Q I (i σ H Q w)⟩
theorem pw_imp {e : Expr} {t t' : TT} (h : PW X e t) (i : ∀ σ H Q, t' σ H Q → t σ H Q) : PW X e t' := ⟨fun wh pins s σ H Q I w => h.run wh pins s σ H Q I (i σ H Q w)⟩
theorem pa_imp {e : List Expr} {t t' : TA} (h : PA X e t) (i : ∀ σ H Q, t' σ H Q → t σ H Q) : PA X e t' := ⟨fun pos pins s σ H Q I w => h.run pos pins s σ H Q I (i σ H Q w)⟩
theorem ps_imp {e : Stmt} {t t' : TS} (h : PS X e t) (i : ∀ D σ H, t' D σ H → t D σ H) : PS X e t' := ⟨fun pins s σ H D I w => h.run pins s σ H D I (i D σ H w)⟩
theorem pss_imp {e : List Stmt} {t t' : TS} (h : PSs X e t) (i : ∀ D σ H, t' D σ H → t D σ H) : PSs X e t' := ⟨fun pins s σ H D I w => h.run pins s σ H D I (i D σ H w)⟩

/-! ### names, constants -/
def eC (d : D) (_ : En) : Option D := some d
theorem rd_var {K : PySem.W.Frag} {i : Nat} {σ : St} {H : Hp} {Q : VK} (h : rdE K (eV i) σ H Q) : tVar i σ H Q := by
  obtain ⟨Hv, ρ, d, e, ok, f, k⟩ := h
  obtain ⟨v, h1, h2⟩ := ok.at_ i d (eV_some f)
  exact ⟨v, h1, k v H Hv (.refl e) h2⟩
theorem rd_c {K : PySem.W.Frag} {v : V} {d : D} (hd : ∀ H, Dn K H v d) {σ : St} {H : Hp} {Q : VK} (h : rdE K (eC d) σ H Q) : tC v σ H Q := by
  obtain ⟨Hv, ρ, d', e, ok, f, k⟩ := h
  cases f
  exact k v H Hv (.refl e) (hd _)
theorem pd_var (i : Nat) {x : Str} {pos : Pos} (hN : X.N[i]? = some x := by rfl) (hv : Vis X.env.scope x := by first | exact Or.inl rfl | exact Or.inr (Or.inl rfl) | exact Or.inr (Or.inr rfl)) (hd : (x == ("__debug__" : Str)) = false := by decide)
    (hcd : (x == ("__classdict__" : Str)) = false := by decide) : PE X (.Name x pos) (rdE X.K (eV i)) := pe_imp (pe_var hN hv hd hcd) fun _ _ _ => rd_var
theorem pd_int {i j pos} : PE X (.Constant (.int i) j pos) (rdE X.K (eC (.int i))) := pe_imp pe_int fun _ _ _ => rd_c fun _ => .int i
theorem pd_bl {i j pos} : PE X (.Constant (.bool i) j pos) (rdE X.K (eC (.bl i))) := pe_imp pe_bl fun _ _ _ => rd_c fun _ => .bl i
theorem pd_non {j pos} : PE X (.Constant .none j pos) (rdE X.K (eC .non)) := pe_imp pe_non fun _ _ _ => rd_c fun _ => .non
theorem pd_str {i j pos} : PE X (.Constant (.str i) j pos) (rdE X.K (eC (.str i))) := pe_imp pe_str fun _ _ _ => rd_c fun _ => .str i
/-- a module's constant -/
theorem pd_glob {x : Str} {v : V} {u : Value} {d : D} {pos : Pos} (hg : Gl X x) (hm : X.mg x = some u) (r : RelV v u) (hd : ∀ H, Dn X.K H v d) (hb : (x == ("__debug__" : Str)) = false := by decide) : PE X (.Name x pos) (rdE X.K (eC d)) :=
  pe_imp (pe_glob hg hm r hb) fun _ _ _ => rd_c hd

/-! ### operators -/
def e2 (g : D → D → Option D) (f1 f2 : En → Option D) (ρ : En) : Option D := (f1 ρ).bind fun a => (f2 ρ).bind fun b => g a b
def e1 (g : D → Option D) (f1 : En → Option D) (ρ : En) : Option D := (f1 ρ).bind g
/-- an operator's reading by values does what g says -/
def Ok2 (K : PySem.W.Frag) (r : R2) (g : D → D → Option D) : Prop := ∀ H Hv x y a b d (Q : VK), Same Hv H → Dn K Hv x a → Dn K Hv y b → g a b = some d → (∀ v H' Hv', Stp H Hv H' Hv' → Dn K Hv' v d → Q v H') → r x y H Q
def Ok1 (K : PySem.W.Frag) (r : V → Hp → VK → Prop) (g : D → Option D) : Prop := ∀ H Hv x a d (Q : VK), Same Hv H → Dn K Hv x a → g a = some d → (∀ v H' Hv', Stp H Hv H' Hv' → Dn K Hv' v d → Q v H') → r x H Q
theorem rd_op {K : PySem.W.Frag} {r : R2} {g : D → D → Option D} {f1 f2 : En → Option D} (ok : Ok2 K r g) {σ : St} {H : Hp} {Q : VK} (h : rdE K (e2 g f1 f2) σ H Q) : tOp r (rdE K f1) (rdE K f2) σ H Q := by
  obtain ⟨Hv, ρ, d, e, en, f, k⟩ := h
  unfold e2 at f
  cases h1 : f1 ρ with
  | none => rw [h1] at f; cases f
  | some a =>
    cases h2 : f2 ρ with
    | none => rw [h1, h2] at f; cases f
    | some b =>
      rw [h1, h2] at f
      refine ⟨Hv, ρ, a, e, en, h1, fun v1 H1 Hv1 s1 d1 => ?_⟩
      refine ⟨Hv1, ρ, b, s1.c, en.mono s1.b, h2, fun v2 H2 Hv2 s2 d2 => ?_⟩
      exact ok H2 Hv2 v1 v2 a b d Q s2.c (d1.mono s2.b) d2 f fun v H' Hv' s3 d3 => k v H' Hv' ((s1.trans s2).trans s3) d3
theorem rd_un {K : PySem.W.Frag} {r : V → Hp → VK → Prop} {g : D → Option D} {f1 : En → Option D} (ok : Ok1 K r g) {σ : St} {H : Hp} {Q : VK} (h : rdE K (e1 g f1) σ H Q) : tUn r (rdE K f1) σ H Q := by
  obtain ⟨Hv, ρ, d, e, en, f, k⟩ := h
  unfold e1 at f
  cases h1 : f1 ρ with
  | none => rw [h1] at f; cases f
  | some a =>
    rw [h1] at f
    refine ⟨Hv, ρ, a, e, en, h1, fun v1 H1 Hv1 s1 d1 => ?_⟩
    exact ok H1 Hv1 v1 a d Q s1.c d1 f fun v H' Hv' s3 d3 => k v H' Hv' (s1.trans s3) d3
section
variable {a b : Expr} {f1 f2 : En → Option D} {pos : Pos} {g : D → D → Option D} {r : R2}
theorem pd_op {op : Operator} (ho : OpR X (binaryOp op) r) (ok : Ok2 X.K r g) (ha : PE X a (rdE X.K f1)) (hb : PE X b (rdE X.K f2)) : PE X (.BinOp a op b pos) (rdE X.K (e2 g f1 f2)) := pe_imp (pe_op ho ha hb) fun _ _ _ => rd_op ok
theorem pd_cmp {op : CmpOp} (ho : OpR X (compareOp op) r) (ok : Ok2 X.K r g) (ha : PE X a (rdE X.K f1)) (hb : PE X b (rdE X.K f2)) (hm : behindInMarks op b = false) : PE X (.Compare a [op] [b] pos) (rdE X.K (e2 g f1 f2)) :=
  pe_imp (pe_cmpR ho ha hb hm) fun _ _ _ => rd_op ok
/-- a test: the value is a bool -/
def tB2 (f : En → Option D) (ρ : En) : Option Bool := match f ρ with | some (.bl b) => some b | _ => none
theorem rd_tB {K : PySem.W.Frag} {t : TE} {f : En → Option D} (i : ∀ σ H Q, rdE K f σ H Q → t σ H Q) {σ : St} {H : Hp} {Q : Bool → Hp → Prop} (h : rdT K (tB2 f) σ H Q) : t σ H fun x H' => ∃ k, x = .bl k ∧ Q k H' := by
  obtain ⟨Hv, ρ, b, e, en, f', k⟩ := h
  unfold tB2 at f'
  split at f'
  · rename_i b' hb
    cases f'
    refine i σ H _ ⟨Hv, ρ, _, e, en, hb, fun v H' Hv' s d => ?_⟩
    cases d
    exact ⟨_, rfl, k H' Hv' s⟩
  · cases f'
theorem pt_cmpd {op : CmpOp} (ho : OpR X (compareOp op) r) (ok : Ok2 X.K r g) (ha : PE X a (rdE X.K f1)) (hb : PE X b (rdE X.K f2)) (hm : behindInMarks op b = false) : PT X (.Compare a [op] [b] pos) (rdT X.K (tB2 (e2 g f1 f2))) :=
  pt_imp (pt_cmpR ho ha hb hm) fun _ _ _ => rd_tB fun _ _ _ => rd_op ok
theorem pt_vald {e : Expr} {f : En → Option D} (h : PE X e (rdE X.K f)) (he : ∀ whole, isTrue e X.env whole = (do let v ← whole; standAt e.pos; holding [v] (truthy v)) := by intro _; rfl) : PT X e (rdT X.K (tB2 f)) :=
  pt_imp (pt_val h he) fun _ _ _ => rd_tB fun _ _ _ q => q
theorem pd_un {op : UnaryOp} {r : V → Hp → VK → Prop} {g : D → Option D} (ho : UnR X (unaryOp op) r) (ok : Ok1 X.K r g) (ha : PE X a (rdE X.K f1)) : PE X (.UnaryOp op a pos) (rdE X.K (e1 g f1)) := pe_imp (pe_un ho ha) fun _ _ _ => rd_un ok
end

/-! the operators' functions -/
def gI (g : Int → Int → Option D) : D → D → Option D
  | .int i, .int j => g i j
  | _, _ => none
def dAdd : D → D → Option D := gI fun i j => some (.int (i + j))
def dSub : D → D → Option D := gI fun i j => some (.int (i - j))
def okMul (i j : Int) : Bool := decide (i.natAbs.log2 + j.natAbs.log2 < 1000000) || (decide (i.natAbs < 2 ^ 63) || decide (j.natAbs < 2 ^ 63))
def CMulX (i j : Int) : Prop := CMulW i j ∨ CMul i j
theorem okMul_x {i j : Int} (h : okMul i j = true) : CMulX i j := by
  unfold okMul at h
  rw [Bool.or_eq_true, Bool.or_eq_true] at h
  rcases h with h | h | h
  · exact .inl (show i.natAbs.log2 + j.natAbs.log2 < 1000000 from of_decide_eq_true h)
  · have := of_decide_eq_true h
    exact .inr (.inl ⟨by omega, by omega⟩)
  · have := of_decide_eq_true h
    exact .inr (.inr ⟨by omega, by omega⟩)
theorem op_mulX {X : Cx} : OpR X (binaryOp .Mult) (rI CMulX fun i j => .int (i * j)) := opI fun _ _ _ _ _ _ _ hc q => PyProof.Rows.mul_int q (hc.elim CMulW.ok CMul.ok)
def okDiv (j : Int) : Bool := decide (0 < j) && decide (j.natAbs.log2 < 9000)
def dMul : D → D → Option D := gI fun i j => if okMul i j then some (.int (i * j)) else none
def dDiv : D → D → Option D := gI fun i j => if okDiv j then some (.int (i / j)) else none
def dMod : D → D → Option D := gI fun i j => if 0 < j then some (.int (i % j)) else none
def dPow : D → D → Option D := gI fun i j => if 0 ≤ j ∧ j ≤ 1000000 ∧ i.natAbs < 2 ^ 64 then some (.int (i ^ j.toNat)) else none
def dLt : D → D → Option D := gI fun i j => some (.bl (decide (i < j)))
def dLe : D → D → Option D := gI fun i j => some (.bl (decide (i ≤ j)))
def dGt : D → D → Option D := gI fun i j => some (.bl (decide (j < i)))
def dGe : D → D → Option D := gI fun i j => some (.bl (decide (j ≤ i)))
def dNeg : D → Option D
  | .int i => some (.int (-i))
  | _ => none
variable {K : PySem.W.Frag}
theorem ok_I0 {g : Int → Int → D} {f : Int → Int → V} (hf : ∀ i j H, Dn K H (f i j) (g i j)) : Ok2 K (rI0 f) (gI fun i j => some (g i j)) := by
  intro H Hv x y a b d Q e hx hy h k
  unfold gI at h
  split at h
  · cases hx; cases hy; cases h
    exact ⟨_, _, rfl, rfl, k _ H Hv (.refl e) (hf _ _ _)⟩
  · cases h
theorem ok_I {C : Int → Int → Prop} {g : Int → Int → Option D} {f : Int → Int → V} (hf : ∀ i j d, g i j = some d → C i j ∧ ∀ H, Dn K H (f i j) d) : Ok2 K (rI C f) (gI g) := by
  intro H Hv x y a b d Q e hx hy h k
  unfold gI at h
  split at h
  · cases hx; cases hy
    obtain ⟨c, q⟩ := hf _ _ _ h
    exact ⟨_, _, rfl, rfl, c, k _ H Hv (.refl e) (q _)⟩
  · cases h
theorem ok_add : Ok2 K (rI0 fun i j => .int (i + j)) dAdd := ok_I0 fun _ _ _ => .int _
theorem ok_sub : Ok2 K (rI0 fun i j => .int (i - j)) dSub := ok_I0 fun _ _ _ => .int _
theorem ok_mul : Ok2 K (rI CMulX fun i j => .int (i * j)) dMul := ok_I fun i j d h => by
  split at h
  · rename_i c; cases h; exact ⟨okMul_x c, fun _ => .int _⟩
  · cases h
theorem ok_div : Ok2 K (rI CDivW fun i j => .int (i / j)) dDiv := ok_I fun i j d h => by
  split at h
  · rename_i c; cases h
    unfold okDiv at c
    rw [Bool.and_eq_true] at c
    exact ⟨⟨of_decide_eq_true c.1, of_decide_eq_true c.2⟩, fun _ => .int _⟩
  · cases h
theorem ok_mod : Ok2 K (rI (fun _ j => 0 < j) fun i j => .int (i % j)) dMod := ok_I fun i j d h => by
  split at h
  · rename_i c; cases h; exact ⟨c, fun _ => .int _⟩
  · cases h
theorem ok_pow : Ok2 K (rI CPow fun i j => .int (i ^ j.toNat)) dPow := ok_I fun i j d h => by
  split at h
  · rename_i c; cases h; exact ⟨c, fun _ => .int _⟩
  · cases h
theorem ok_lt : Ok2 K (rI0 fun i j => .bl (decide (i < j))) dLt := ok_I0 fun _ _ _ => .bl _
theorem ok_le : Ok2 K (rI0 fun i j => .bl (decide (i ≤ j))) dLe := ok_I0 fun _ _ _ => .bl _
theorem ok_gt : Ok2 K (rI0 fun i j => .bl (decide (j < i))) dGt := ok_I0 fun _ _ _ => .bl _
theorem ok_ge : Ok2 K (rI0 fun i j => .bl (decide (j ≤ i))) dGe := ok_I0 fun _ _ _ => .bl _
theorem ok_neg : Ok1 K (rU fun i => .int (-i)) dNeg := by
  intro H Hv x a d Q e hx h k
  unfold dNeg at h
  split at h
  · cases hx; cases h
    exact ⟨_, rfl, k _ H Hv (.refl e) (.int _)⟩
  · cases h
section
variable {a b : Expr} {f1 f2 : En → Option D} {pos : Pos}
theorem pd_add (ha : PE X a (rdE X.K f1)) (hb : PE X b (rdE X.K f2)) : PE X (.BinOp a .Add b pos) (rdE X.K (e2 dAdd f1 f2)) := pd_op op_add ok_add ha hb
theorem pd_sub (ha : PE X a (rdE X.K f1)) (hb : PE X b (rdE X.K f2)) : PE X (.BinOp a .Sub b pos) (rdE X.K (e2 dSub f1 f2)) := pd_op op_sub ok_sub ha hb
theorem pd_mul (ha : PE X a (rdE X.K f1)) (hb : PE X b (rdE X.K f2)) : PE X (.BinOp a .Mult b pos) (rdE X.K (e2 dMul f1 f2)) := pd_op op_mulX ok_mul ha hb
theorem pd_div (ha : PE X a (rdE X.K f1)) (hb : PE X b (rdE X.K f2)) : PE X (.BinOp a .FloorDiv b pos) (rdE X.K (e2 dDiv f1 f2)) := pd_op op_fdivW ok_div ha hb
theorem pd_mod (ha : PE X a (rdE X.K f1)) (hb : PE X b (rdE X.K f2)) : PE X (.BinOp a .Mod b pos) (rdE X.K (e2 dMod f1 f2)) := pd_op op_mod ok_mod ha hb
theorem pd_pow (ha : PE X a (rdE X.K f1)) (hb : PE X b (rdE X.K f2)) : PE X (.BinOp a .Pow b pos) (rdE X.K (e2 dPow f1 f2)) := pd_op op_pow ok_pow ha hb
theorem pd_neg (ha : PE X a (rdE X.K f1)) : PE X (.UnaryOp .USub a pos) (rdE X.K (e1 dNeg f1)) := pd_un un_neg ok_neg ha
theorem pd_lt (ha : PE X a (rdE X.K f1)) (hb : PE X b (rdE X.K f2)) : PE X (.Compare a [.Lt] [b] pos) (rdE X.K (e2 dLt f1 f2)) := pd_cmp op_lt ok_lt ha hb (nomark _)
theorem pd_le (ha : PE X a (rdE X.K f1)) (hb : PE X b (rdE X.K f2)) : PE X (.Compare a [.LtE] [b] pos) (rdE X.K (e2 dLe f1 f2)) := pd_cmp op_le ok_le ha hb (nomark _)
theorem pd_gt (ha : PE X a (rdE X.K f1)) (hb : PE X b (rdE X.K f2)) : PE X (.Compare a [.Gt] [b] pos) (rdE X.K (e2 dGt f1 f2)) := pd_cmp op_gt ok_gt ha hb (nomark _)
theorem pd_ge (ha : PE X a (rdE X.K f1)) (hb : PE X b (rdE X.K f2)) : PE X (.Compare a [.GtE] [b] pos) (rdE X.K (e2 dGe f1 f2)) := pd_cmp op_ge ok_ge ha hb (nomark _)
theorem pt_lt (ha : PE X a (rdE X.K f1)) (hb : PE X b (rdE X.K f2)) : PT X (.Compare a [.Lt] [b] pos) (rdT X.K (tB2 (e2 dLt f1 f2))) := pt_cmpd op_lt ok_lt ha hb (nomark _)
theorem pt_le (ha : PE X a (rdE X.K f1)) (hb : PE X b (rdE X.K f2)) : PT X (.Compare a [.LtE] [b] pos) (rdT X.K (tB2 (e2 dLe f1 f2))) := pt_cmpd op_le ok_le ha hb (nomark _)
theorem pt_gt (ha : PE X a (rdE X.K f1)) (hb : PE X b (rdE X.K f2)) : PT X (.Compare a [.Gt] [b] pos) (rdT X.K (tB2 (e2 dGt f1 f2))) := pt_cmpd op_gt ok_gt ha hb (nomark _)
theorem pt_ge (ha : PE X a (rdE X.K f1)) (hb : PE X b (rdE X.K f2)) : PT X (.Compare a [.GtE] [b] pos) (rdT X.K (tB2 (e2 dGe f1 f2))) := pt_cmpd op_ge ok_ge ha hb (nomark _)
end
end
end PD
namespace PD
open PySem L2
/-! ### arguments, displays -/
def aNil (_ : En) : Option (List D) := some []
def aCons (f : En → Option D) (g : En → Option (List D)) (ρ : En) : Option (List D) := (f ρ).bind fun d => (g ρ).bind fun ds => some (d :: ds)
section
variable {K : PySem.W.Frag} {σ : St} {H : Hp}
theorem rd_nil {Q : List V → Hp → Prop} (h : rdA K aNil σ H Q) : tNil σ H Q := by
  obtain ⟨Hv, ρ, d, e, en, f, k⟩ := h
  cases f
  exact k [] H Hv (.refl e) .nil
theorem rd_cons {f : En → Option D} {g : En → Option (List D)} {Q : List V → Hp → Prop} (h : rdA K (aCons f g) σ H Q) : tCons (rdE K f) (rdA K g) σ H Q := by
  obtain ⟨Hv, ρ, ds, e, en, f', k⟩ := h
  unfold aCons at f'
  cases h1 : f ρ with
  | none => rw [h1] at f'; cases f'
  | some d =>
    cases h2 : g ρ with
    | none => rw [h1, h2] at f'; cases f'
    | some r =>
      rw [h1, h2] at f'
      cases f'
      refine ⟨Hv, ρ, d, e, en, h1, fun v1 H1 Hv1 s1 d1 => ?_⟩
      refine ⟨Hv1, ρ, r, s1.c, en.mono s1.b, h2, fun vs H2 Hv2 s2 d2 => ?_⟩
      exact k _ H2 Hv2 (s1.trans s2) (.cons (d1.mono s2.b) d2)
/-- a display's length -/
def okLen (n : Nat) : Bool := decide (n ≤ 1000000)
theorem okLen_le {n : Nat} (h : okLen n = true) : n ≤ sizeLine := Nat.le_trans (of_decide_eq_true h) (by rw [sizeLine_eq]; decide)
theorem okLen_lt {n : Nat} (h : okLen n = true) : n < sizeLine := Nat.lt_of_le_of_lt (of_decide_eq_true h) (by rw [sizeLine_eq]; decide)
def eTup (f : En → Option (List D)) (ρ : En) : Option D := (f ρ).bind fun ds => if okLen ds.length then some (.tup ds) else none
def eLst (f : En → Option (List D)) (ρ : En) : Option (List D) := (f ρ).bind fun ds => if okLen ds.length then some ds else none
theorem rd_tup {f : En → Option (List D)} {Q : VK} (h : rdE K (eTup f) σ H Q) : tTup (rdA K f) σ H Q := by
  obtain ⟨Hv, ρ, d, e, en, f', k⟩ := h
  unfold eTup at f'
  cases h1 : f ρ with
  | none => rw [h1] at f'; cases f'
  | some ds =>
    rw [h1] at f'
    replace f' : (if okLen ds.length then some (D.tup ds) else none) = some d := f'
    split at f'
    · rename_i c
      cases f'
      refine ⟨Hv, ρ, ds, e, en, h1, fun vs H1 Hv1 s1 d1 => ?_⟩
      refine ⟨by rw [d1.length]; exact okLen_le c, fun p hp => ?_⟩
      have s2 := Stp.new (o := .tup vs) s1.c hp
      exact k _ _ _ (s1.trans s2) (.tup (.of upd_same) (d1.mono s2.b))
    · cases f'
theorem rd_lst {f : En → Option (List D)} {Q : VK} (h : rdF K (eLst f) σ H Q) : tLst (rdA K f) σ H Q := by
  obtain ⟨Hv, ρ, d, e, en, f', k⟩ := h
  unfold eLst at f'
  cases h1 : f ρ with
  | none => rw [h1] at f'; cases f'
  | some ds =>
    rw [h1] at f'
    replace f' : (if okLen ds.length then some ds else none) = some d := f'
    split at f'
    · rename_i c
      cases f'
      refine ⟨Hv, ρ, _, e, en, h1, fun vs H1 Hv1 s1 d1 => ?_⟩
      refine ⟨by rw [d1.length]; exact okLen_le c, fun p hp => ?_⟩
      exact k _ _ _ _ (s1.trans (Stp.newH s1.c hp)) (s1.a.free hp) (s1.c.free hp) upd_same d1
    · cases f'
/-- a new list, told from now on -/
def eFr (f : En → Option (List D)) (ρ : En) : Option D := (f ρ).map .lst
theorem rd_fr {f : En → Option (List D)} {Q : VK} (h : rdE K (eFr f) σ H Q) : rdF K f σ H Q := by
  obtain ⟨Hv, ρ, d, e, en, f', k⟩ := h
  unfold eFr at f'
  cases h1 : f ρ with
  | none => rw [h1] at f'; cases f'
  | some ds =>
    rw [h1] at f'
    cases f'
    refine ⟨Hv, ρ, ds, e, en, h1, fun p vs H' Hv' s n n' hp r => ?_⟩
    have nv : Hv p = none := e.free n
    have s2 : Stp H Hv H' (upd Hv' p (.lst vs)) := by
      refine ⟨s.a, sameMut s.b nv, fun a u q => ?_, fun q o' m hq hn => ?_⟩
      · by_cases ha : a = p
        · subst ha; rw [upd_same] at q; cases q; exact hp
        · rw [upd_ne ha] at q; exact s.c _ _ q
      · rw [upd_ne (ne_of_none hq n)]; exact s.h q o' m hq hn
    exact k _ _ _ s2 (.lst (.of upd_same) (r.mono (sameNew n')))
end
section
variable {X : Cx} {pos : Pos} {e : Expr} {es : List Expr} {f : En → Option D} {g : En → Option (List D)}
theorem ad_nil : PA X [] (rdA X.K aNil) := pa_imp pa_nil fun _ _ _ => rd_nil
theorem ad_cons (ha : PE X e (rdE X.K f)) (hr : PA X es (rdA X.K g)) (hs : starEach (e :: es) X.env = (false, eval e X.env) :: starEach es X.env := by rfl) : PA X (e :: es) (rdA X.K (aCons f g)) := pa_imp (pa_cons ha hr hs) fun _ _ _ => rd_cons
theorem pd_tup {k : Nat} (h : PA X es (rdA X.K g)) : PE X (.Tuple es k pos) (rdE X.K (eTup g)) := pe_imp (pe_tup h) fun _ _ _ => rd_tup
theorem pf_lst (h : PA X es (rdA X.K g)) : PE X (.List es pos) (rdF X.K (eLst g)) := pe_imp (pe_lst h) fun _ _ _ => rd_lst
theorem pd_fr (h : PE X e (rdF X.K g)) : PE X e (rdE X.K (eFr g)) := pe_imp h fun _ _ _ => rd_fr
end

/-! ### tests -/
def fAnd (f g : En → Option Bool) (ρ : En) : Option Bool := (f ρ).bind fun b => if b then g ρ else some false
def fOr (f g : En → Option Bool) (ρ : En) : Option Bool := (f ρ).bind fun b => if b then some true else g ρ
def fNot (f : En → Option Bool) (ρ : En) : Option Bool := (f ρ).map (!·)
def eAnd (f g : En → Option D) (ρ : En) : Option D := (f ρ).bind fun d => match d with | .bl true => g ρ | .bl false => some (.bl false) | _ => none
def eOr (f g : En → Option D) (ρ : En) : Option D := (f ρ).bind fun d => match d with | .bl false => g ρ | .bl true => some (.bl true) | _ => none
def eNot : D → Option D
  | .bl b => some (.bl (!b))
  | _ => none
def eIf (c : En → Option Bool) (f g : En → Option D) (ρ : En) : Option D := (c ρ).bind fun b => if b then f ρ else g ρ
section
variable {K : PySem.W.Frag} {σ : St} {H : Hp} {f g : En → Option Bool} {Q : Bool → Hp → Prop}
theorem rd_and (h : rdT K (fAnd f g) σ H Q) : tAnd (rdT K f) (rdT K g) σ H Q := by
  obtain ⟨Hv, ρ, b, e, en, f', k⟩ := h
  unfold fAnd at f'
  cases h1 : f ρ with
  | none => rw [h1] at f'; cases f'
  | some c =>
    rw [h1] at f'
    refine ⟨Hv, ρ, c, e, en, h1, fun H1 Hv1 s1 => ?_⟩
    cases c with
    | true =>
      show rdT K g σ H1 Q
      exact ⟨Hv1, ρ, b, s1.c, en.mono s1.b, f', fun H2 Hv2 s2 => k H2 Hv2 (s1.trans s2)⟩
    | false =>
      show Q false H1
      cases f'
      exact k H1 Hv1 s1
theorem rd_or (h : rdT K (fOr f g) σ H Q) : tOr (rdT K f) (rdT K g) σ H Q := by
  obtain ⟨Hv, ρ, b, e, en, f', k⟩ := h
  unfold fOr at f'
  cases h1 : f ρ with
  | none => rw [h1] at f'; cases f'
  | some c =>
    rw [h1] at f'
    refine ⟨Hv, ρ, c, e, en, h1, fun H1 Hv1 s1 => ?_⟩
    cases c with
    | false =>
      show rdT K g σ H1 Q
      exact ⟨Hv1, ρ, b, s1.c, en.mono s1.b, f', fun H2 Hv2 s2 => k H2 Hv2 (s1.trans s2)⟩
    | true =>
      show Q true H1
      cases f'
      exact k H1 Hv1 s1
theorem rd_not (h : rdT K (fNot f) σ H Q) : tNot (rdT K f) σ H Q := by
  obtain ⟨Hv, ρ, b, e, en, f', k⟩ := h
  unfold fNot at f'
  cases h1 : f ρ with
  | none => rw [h1] at f'; cases f'
  | some c =>
    rw [h1] at f'
    cases f'
    exact ⟨Hv, ρ, c, e, en, h1, fun H1 Hv1 s1 => k H1 Hv1 s1⟩
end
section
variable {K : PySem.W.Frag} {σ : St} {H : Hp} {f g : En → Option D} {Q : VK}
theorem rd_andV (h : rdE K (eAnd f g) σ H Q) : tAndV (rdE K f) (rdE K g) σ H Q := by
  obtain ⟨Hv, ρ, b, e, en, f', k⟩ := h
  unfold eAnd at f'
  cases h1 : f ρ with
  | none => rw [h1] at f'; cases f'
  | some c =>
    rw [h1] at f'
    refine ⟨Hv, ρ, c, e, en, h1, fun v1 H1 Hv1 s1 d1 => ?_⟩
    simp only [Option.bind_some] at f'
    split at f'
    · cases d1
      exact ⟨true, rfl, ⟨Hv1, ρ, b, s1.c, en.mono s1.b, f', fun v2 H2 Hv2 s2 => k v2 H2 Hv2 (s1.trans s2)⟩⟩
    · cases d1
      cases f'
      exact ⟨false, rfl, k _ H1 Hv1 s1 (.bl _)⟩
    · cases f'
theorem rd_orV (h : rdE K (eOr f g) σ H Q) : tOrV (rdE K f) (rdE K g) σ H Q := by
  obtain ⟨Hv, ρ, b, e, en, f', k⟩ := h
  unfold eOr at f'
  cases h1 : f ρ with
  | none => rw [h1] at f'; cases f'
  | some c =>
    rw [h1] at f'
    refine ⟨Hv, ρ, c, e, en, h1, fun v1 H1 Hv1 s1 d1 => ?_⟩
    simp only [Option.bind_some] at f'
    split at f'
    · cases d1
      exact ⟨false, rfl, ⟨Hv1, ρ, b, s1.c, en.mono s1.b, f', fun v2 H2 Hv2 s2 => k v2 H2 Hv2 (s1.trans s2)⟩⟩
    · cases d1
      cases f'
      exact ⟨true, rfl, k _ H1 Hv1 s1 (.bl _)⟩
    · cases f'
theorem rd_notV (h : rdE K (e1 eNot f) σ H Q) : tNotV (rdE K f) σ H Q := by
  obtain ⟨Hv, ρ, b, e, en, f', k⟩ := h
  unfold e1 at f'
  cases h1 : f ρ with
  | none => rw [h1] at f'; cases f'
  | some c =>
    rw [h1] at f'
    refine ⟨Hv, ρ, c, e, en, h1, fun v1 H1 Hv1 s1 d1 => ?_⟩
    simp only [Option.bind_some, eNot] at f'
    split at f'
    · cases d1
      cases f'
      exact ⟨_, rfl, k _ H1 Hv1 s1 (.bl _)⟩
    · cases f'
theorem rd_if {c : En → Option Bool} (h : rdE K (eIf c f g) σ H Q) : tIf (rdT K c) (rdE K f) (rdE K g) σ H Q := by
  obtain ⟨Hv, ρ, b, e, en, f', k⟩ := h
  unfold eIf at f'
  cases h1 : c ρ with
  | none => rw [h1] at f'; cases f'
  | some t =>
    rw [h1] at f'
    refine ⟨Hv, ρ, t, e, en, h1, fun H1 Hv1 s1 => ?_⟩
    cases t with
    | true =>
      show rdE K f σ H1 Q
      exact ⟨Hv1, ρ, b, s1.c, en.mono s1.b, f', fun v2 H2 Hv2 s2 => k v2 H2 Hv2 (s1.trans s2)⟩
    | false =>
      show rdE K g σ H1 Q
      exact ⟨Hv1, ρ, b, s1.c, en.mono s1.b, f', fun v2 H2 Hv2 s2 => k v2 H2 Hv2 (s1.trans s2)⟩
end
section
variable {X : Cx} {pos : Pos} {a b : Expr} {rest : List Expr}
theorem wd_and1 {f : En → Option Bool} (ha : PT X a (rdT X.K f)) : PW X (.BoolOp .And [a] pos) (rdT X.K f) := pw_and1 ha
theorem wd_or1 {f : En → Option Bool} (ha : PT X a (rdT X.K f)) : PW X (.BoolOp .Or [a] pos) (rdT X.K f) := pw_or1 ha
theorem wd_and {f g : En → Option Bool} (ha : PT X a (rdT X.K f)) (hb : PW X (.BoolOp .And (b :: rest) pos) (rdT X.K g)) : PW X (.BoolOp .And (a :: b :: rest) pos) (rdT X.K (fAnd f g)) := pw_imp (pw_and ha hb) fun _ _ _ => rd_and
theorem wd_or {f g : En → Option Bool} (ha : PT X a (rdT X.K f)) (hb : PW X (.BoolOp .Or (b :: rest) pos) (rdT X.K g)) : PW X (.BoolOp .Or (a :: b :: rest) pos) (rdT X.K (fOr f g)) := pw_imp (pw_or ha hb) fun _ _ _ => rd_or
theorem td_not {f : En → Option Bool} (ha : PT X a (rdT X.K f)) : PT X (.UnaryOp .Not a pos) (rdT X.K (fNot f)) := pt_imp (pt_not ha) fun _ _ _ => rd_not
theorem pd_one {op} {f : En → Option D} (h : PE X a (rdE X.K f)) : PE X (.BoolOp op [a] pos) (rdE X.K f) := pe_one h
theorem pd_and {f g : En → Option D} (ha : PE X a (rdE X.K f)) (hb : PE X (.BoolOp .And (b :: rest) pos) (rdE X.K g)) : PE X (.BoolOp .And (a :: b :: rest) pos) (rdE X.K (eAnd f g)) := pe_imp (pe_and ha hb) fun _ _ _ => rd_andV
theorem pd_or {f g : En → Option D} (ha : PE X a (rdE X.K f)) (hb : PE X (.BoolOp .Or (b :: rest) pos) (rdE X.K g)) : PE X (.BoolOp .Or (a :: b :: rest) pos) (rdE X.K (eOr f g)) := pe_imp (pe_or ha hb) fun _ _ _ => rd_orV
theorem pd_not {f : En → Option D} (ha : PE X a (rdE X.K f)) : PE X (.UnaryOp .Not a pos) (rdE X.K (e1 eNot f)) := pe_imp (pe_not ha) fun _ _ _ => rd_notV
theorem pd_ife {c : Expr} {t : En → Option Bool} {f g : En → Option D} (hc : PT X c (rdT X.K t)) (ha : PE X a (rdE X.K f)) (hb : PE X b (rdE X.K g)) : PE X (.IfExp c a b pos) (rdE X.K (eIf t f g)) := pe_imp (pe_ifExp hc ha hb) fun _ _ _ => rd_if
end

/-! ### == and != of data -/
mutual
def toP : D → PyData
  | .ty _ => .none
  | .non => .none
  | .bl b => .bool b
  | .int i => .int i
  | .str x => .str x
  | .tup ds => .tuple (toPs ds)
  | .lst ds => .list (toPs ds)
  | .dic _ => .dict []
  | .ins _ _ => .dict []
def toPs : List D → List PyData
  | [] => []
  | d :: ds => toP d :: toPs ds
end
mutual
def noObj : D → Bool
  | .ty _ => false
  | .dic _ => false
  | .ins _ _ => false
  | .tup ds => noObjs ds
  | .lst ds => noObjs ds
  | _ => true
def noObjs : List D → Bool
  | [] => true
  | d :: ds => noObj d && noObjs ds
end
mutual
theorem Dn.dp {K : PySem.W.Frag} {H : Hp} : ∀ {v : V} {d : D}, Dn K H v d → noObj d = true → Dp K H v (toP d)
  | _, _, .non, _ => .non
  | _, _, .bl b, _ => .bl b
  | _, _, .int i, _ => .int i
  | _, _, .str x, _ => .str x
  | _, _, .tup h r, n => .tup h (Dns.dp r (by simpa only [noObj] using n))
  | _, _, .lst h r, n => .lst h (Dns.dp r (by simpa only [noObj] using n))
  | _, _, .dic h r, n => by simp [noObj] at n
  | _, _, .ins h r, n => by simp [noObj] at n
  | _, _, .ty h, n => by simp [noObj] at n
theorem Dns.dp {K : PySem.W.Frag} {H : Hp} : ∀ {v : List V} {d : List D}, Dns K H v d → noObjs d = true → DpAll K H v (toPs d)
  | _, _, .nil, _ => .nil
  | _, _, .cons h r, n => by
    simp only [noObjs, Bool.and_eq_true] at n
    exact .cons (Dn.dp h n.1) (Dns.dp r n.2)
end
def shp (d : D) : Bool := noObj d && SeqAt.shaped (toP d)
def dEq (a b : D) : Option D := if shp a && shp b then some (.bl (PyData.eqv (toP a) (toP b))) else none
def dNe (a b : D) : Option D := if shp a && shp b then some (.bl (!PyData.eqv (toP a) (toP b))) else none
theorem ok_eq {K : PySem.W.Frag} : Ok2 K (rEqD K) dEq := by
  intro H Hv x y a b d Q e hx hy h k
  unfold dEq at h
  split at h
  · rename_i c
    cases h
    simp only [shp, Bool.and_eq_true] at c
    exact ⟨_, _, (hx.mono e).dp c.1.1, (hy.mono e).dp c.2.1, c.1.2, c.2.2, k _ H Hv (.refl e) (.bl _)⟩
  · cases h
theorem ok_ne {K : PySem.W.Frag} : Ok2 K (rNeD K) dNe := by
  intro H Hv x y a b d Q e hx hy h k
  unfold dNe at h
  split at h
  · rename_i c
    cases h
    simp only [shp, Bool.and_eq_true] at c
    exact ⟨_, _, (hx.mono e).dp c.1.1, (hy.mono e).dp c.2.1, c.1.2, c.2.2, k _ H Hv (.refl e) (.bl _)⟩
  · cases h
section
variable {X : Cx} {pos : Pos} {a b : Expr} {f1 f2 : En → Option D}
theorem pd_eq (hu : X.A.units + 64 < cLine) (ha : PE X a (rdE X.K f1)) (hb : PE X b (rdE X.K f2)) : PE X (.Compare a [.Eq] [b] pos) (rdE X.K (e2 dEq f1 f2)) := pd_cmp (op_eqD hu) ok_eq ha hb (nomark _)
theorem pd_ne (hu : X.A.units + 64 < cLine) (ha : PE X a (rdE X.K f1)) (hb : PE X b (rdE X.K f2)) : PE X (.Compare a [.NotEq] [b] pos) (rdE X.K (e2 dNe f1 f2)) := pd_cmp (op_neD hu) ok_ne ha hb (nomark _)
theorem td_eq (hu : X.A.units + 64 < cLine) (ha : PE X a (rdE X.K f1)) (hb : PE X b (rdE X.K f2)) : PT X (.Compare a [.Eq] [b] pos) (rdT X.K (tB2 (e2 dEq f1 f2))) := pt_cmpd (op_eqD hu) ok_eq ha hb (nomark _)
theorem td_ne (hu : X.A.units + 64 < cLine) (ha : PE X a (rdE X.K f1)) (hb : PE X b (rdE X.K f2)) : PT X (.Compare a [.NotEq] [b] pos) (rdT X.K (tB2 (e2 dNe f1 f2))) := pt_cmpd (op_neD hu) ok_ne ha hb (nomark _)
end

/-! ### subscripts -/
def dIx : D → D → Option D
  | .tup ds, .int i => atI ds i
  | .lst ds, .int i => atI ds i
  | .str z, .int i => if okLen z.length then (atI z.cps.toList i).map fun c => .str ⟨#[c]⟩ else none
  | _, _ => none
theorem Dns.atI {K : PySem.W.Frag} {H : Hp} {vs : List V} {ds : List D} {i : Int} {d : D} (r : Dns K H vs ds) (h : L2.atI ds i = some d) : ∃ v, L2.atI vs i = some v ∧ Dn K H v d := by
  unfold L2.atI at h ⊢
  rw [r.length]
  cases e : ixN ds.length i with
  | none => rw [e] at h; cases h
  | some j =>
    rw [e] at h
    exact r.get h
theorem ok_ix {K : PySem.W.Frag} : Ok2 K (rIx K) dIx := by
  intro H Hv x y a b d Q e hx hy h k
  unfold dIx at h
  split at h
  · cases hx with
    | tup hs r =>
      cases hy
      obtain ⟨v, h1, h2⟩ := r.atI h
      exact .inr (.inl ⟨_, _, _, v, rfl, rfl, sameT e hs, h1, k v H Hv (.refl e) h2⟩)
  · cases hx with
    | lst hs r =>
      cases hy
      obtain ⟨v, h1, h2⟩ := r.atI h
      exact .inl ⟨_, _, _, v, rfl, rfl, sameL e hs, h1, k v H Hv (.refl e) h2⟩
  · rename_i z i
    cases hx
    cases hy
    split at h
    · rename_i c
      cases h1 : atI z.cps.toList i with
      | none => rw [h1] at h; cases h
      | some cc =>
        rw [h1] at h
        cases h
        exact .inr (.inr ⟨_, _, cc, rfl, rfl, okLen_le c, h1, k _ H Hv (.refl e) (.str _)⟩)
    · cases h
  · cases h
/-- an index, a slice's end -/
def asInt : Option D → Option Int
  | some (.int i) => some i
  | _ => none
def rdO (K : PySem.W.Frag) (f : En → Option (Option Int)) : TO := fun σ H Q => ∃ (Hv : Hp) (ρ : En) (o : Option Int), Same Hv H ∧ EOk K Hv σ ρ ∧ f ρ = some o ∧ ∀ H' Hv', Stp H Hv H' Hv' → Q o H'
def oNone (_ : En) : Option (Option Int) := some none
def oSome (f : En → Option D) (ρ : En) : Option (Option Int) := (asInt (f ρ)).map some
theorem asInt_some {o : Option D} {i : Int} (h : asInt o = some i) : o = some (.int i) := by
  unfold asInt at h
  split at h
  · cases h; rfl
  · cases h
def cutD (xs : List D) (lo hi : Option Int) : List D := (xs.drop (HT.sIx xs.length 0 lo)).take (HT.sIx xs.length xs.length hi - HT.sIx xs.length 0 lo)
theorem Dns.cut {K : PySem.W.Frag} {H : Hp} {vs : List V} {ds : List D} (r : Dns K H vs ds) (lo hi : Option Int) : Dns K H (cutV vs lo hi) (cutD ds lo hi) := by
  unfold cutV cutD
  rw [r.length]
  exact (r.drop _).take _
def eSl (f : En → Option D) (lo hi : En → Option (Option Int)) (ρ : En) : Option (List D) := (f ρ).bind fun d => (lo ρ).bind fun l => (hi ρ).bind fun h => match d with | .lst ds => some (cutD ds l h) | _ => none
def eSlS (f : En → Option D) (lo hi : En → Option (Option Int)) (ρ : En) : Option D := (f ρ).bind fun d => (lo ρ).bind fun l => (hi ρ).bind fun h => match d with | .str z => if okLen z.length then some (.str (cutS z l h)) else none | _ => none
theorem bind_some2 {α β : Type} {o : Option α} {f : α → Option β} {b : β} (h : o.bind f = some b) : ∃ a, o = some a ∧ f a = some b := by
  cases o with
  | none => cases h
  | some a => exact ⟨a, rfl, h⟩
theorem rd_sl {K : PySem.W.Frag} {f : En → Option D} {lo hi : En → Option (Option Int)} {σ : St} {H : Hp} {Q : VK} (h : rdF K (eSl f lo hi) σ H Q) : tSl (rSlL K) (rdE K f) (rdO K lo) (rdO K hi) σ H Q := by
  obtain ⟨Hv, ρ, ds, e, en, f', k⟩ := h
  obtain ⟨d, h1, f'⟩ := bind_some2 f'
  obtain ⟨l, h2, f'⟩ := bind_some2 f'
  obtain ⟨u, h3, f'⟩ := bind_some2 f'
  split at f'
  · cases f'
    refine ⟨Hv, ρ, _, e, en, h1, fun v1 H1 Hv1 s1 d1 => ?_⟩
    refine ⟨Hv1, ρ, l, s1.c, en.mono s1.b, h2, fun H2 Hv2 s2 => ?_⟩
    refine ⟨Hv2, ρ, u, s2.c, (en.mono s1.b).mono s2.b, h3, fun H3 Hv3 s3 => ?_⟩
    cases d1 with
    | lst hs r =>
      have s23 := s2.trans s3
      refine ⟨_, _, rfl, sameL (s23.b.trans s23.c) hs, fun p hp => ?_⟩
      have s13 := s1.trans s23
      exact k _ _ _ _ (s13.trans (Stp.newH s13.c hp)) (s13.a.free hp) (s13.c.free hp) upd_same ((r.mono s23.b).cut l u)
  · cases f'
theorem rd_slS {K : PySem.W.Frag} {f : En → Option D} {lo hi : En → Option (Option Int)} {σ : St} {H : Hp} {Q : VK} (h : rdE K (eSlS f lo hi) σ H Q) : tSl rSlS (rdE K f) (rdO K lo) (rdO K hi) σ H Q := by
  obtain ⟨Hv, ρ, ds, e, en, f', k⟩ := h
  obtain ⟨d, h1, f'⟩ := bind_some2 f'
  obtain ⟨l, h2, f'⟩ := bind_some2 f'
  obtain ⟨u, h3, f'⟩ := bind_some2 f'
  split at f'
  · split at f'
    · rename_i c
      cases f'
      refine ⟨Hv, ρ, _, e, en, h1, fun v1 H1 Hv1 s1 d1 => ?_⟩
      refine ⟨Hv1, ρ, l, s1.c, en.mono s1.b, h2, fun H2 Hv2 s2 => ?_⟩
      refine ⟨Hv2, ρ, u, s2.c, (en.mono s1.b).mono s2.b, h3, fun H3 Hv3 s3 => ?_⟩
      cases d1
      exact ⟨_, rfl, okLen_le c, k _ H3 Hv3 ((s1.trans s2).trans s3) (.str _)⟩
    · cases f'
  · cases f'
theorem rd_oNone {K : PySem.W.Frag} {σ : St} {H : Hp} {Q : Option Int → Hp → Prop} (h : rdO K oNone σ H Q) : tNoPart σ H Q := by
  obtain ⟨Hv, ρ, o, e, en, f', k⟩ := h
  cases f'
  exact k H Hv (.refl e)
theorem rd_oSome {K : PySem.W.Frag} {f : En → Option D} {σ : St} {H : Hp} {Q : Option Int → Hp → Prop} (h : rdO K (oSome f) σ H Q) : tPart (rdE K f) σ H Q := by
  obtain ⟨Hv, ρ, o, e, en, f', k⟩ := h
  unfold oSome at f'
  cases h1 : asInt (f ρ) with
  | none => rw [h1] at f'; cases f'
  | some i =>
    rw [h1] at f'
    cases f'
    refine ⟨Hv, ρ, _, e, en, asInt_some h1, fun v1 H1 Hv1 s1 d1 => ?_⟩
    cases d1
    exact ⟨_, rfl, k H1 Hv1 s1⟩
theorem po_imp {X : Cx} {e : Option Expr} {t t' : TO} (h : PO X e t) (i : ∀ σ H Q, t' σ H Q → t σ H Q) : PO X e t' := ⟨fun pins s σ H Q I w => h.run pins s σ H Q I (i σ H Q w)⟩
section
variable {X : Cx} {pos p2 : Pos} {a b : Expr} {f1 f2 : En → Option D} {lo hi : Option Expr} {fl fh : En → Option (Option Int)}
theorem pd_ix (ha : PE X a (rdE X.K f1)) (hb : PE X b (rdE X.K f2)) (hs : PlainIx b := by exact fun _ _ => rfl) : PE X (.Subscript a b pos) (rdE X.K (e2 dIx f1 f2)) := pe_imp (pe_ix ix_seq ha hb hs) fun _ _ _ => rd_op ok_ix
theorem od_none : PO X none (rdO X.K oNone) := po_imp po_none fun _ _ _ => rd_oNone
theorem od_some (ha : PE X a (rdE X.K f1)) : PO X (some a) (rdO X.K (oSome f1)) := po_imp (po_some ha) fun _ _ _ => rd_oSome
theorem pf_sl (ha : PE X a (rdE X.K f1)) (hl : PO X lo (rdO X.K fl)) (hh : PO X hi (rdO X.K fh)) : PE X (.Subscript a (.Slice lo hi none p2) pos) (rdF X.K (eSl f1 fl fh)) := pe_imp (pe_slice sl_list ha hl hh) fun _ _ _ => rd_sl
theorem pd_slS (ha : PE X a (rdE X.K f1)) (hl : PO X lo (rdO X.K fl)) (hh : PO X hi (rdO X.K fh)) : PE X (.Subscript a (.Slice lo hi none p2) pos) (rdE X.K (eSlS f1 fl fh)) := pe_imp (pe_slice sl_str ha hl hh) fun _ _ _ => rd_slS
end

/-! ### calls of built-ins -/
def eCB (g : List D → Option D) (f : En → Option (List D)) (ρ : En) : Option D := (f ρ).bind g
def OkC (K : PySem.W.Frag) (r : List V → Hp → VK → Prop) (g : List D → Option D) : Prop := ∀ H Hv vs ds d (Q : VK), Same Hv H → Dns K Hv vs ds → g ds = some d → (∀ v H' Hv', Stp H Hv H' Hv' → Dn K Hv' v d → Q v H') → r vs H Q
def eCF (g : List D → Option (List D)) (f : En → Option (List D)) (ρ : En) : Option (List D) := (f ρ).bind g
def OkF (K : PySem.W.Frag) (r : List V → Hp → VK → Prop) (g : List D → Option (List D)) : Prop := ∀ H Hv vs ds d (Q : VK), Same Hv H → Dns K Hv vs ds → g ds = some d →
  (∀ p vs H' Hv', Stp H Hv H' Hv' → H p = none → Hv' p = none → H' p = some (.lst vs) → Dns K Hv' vs d → Q (.ref p) H') → r vs H Q
theorem rd_cb {K : PySem.W.Frag} {r : List V → Hp → VK → Prop} {g : List D → Option D} {f : En → Option (List D)} (ok : OkC K r g) {σ : St} {H : Hp} {Q : VK} (h : rdE K (eCB g f) σ H Q) : tCB r (rdA K f) σ H Q := by
  obtain ⟨Hv, ρ, d, e, en, f', k⟩ := h
  obtain ⟨ds, h1, f'⟩ := bind_some2 f'
  refine ⟨Hv, ρ, ds, e, en, h1, fun vs H1 Hv1 s1 d1 => ?_⟩
  exact ok H1 Hv1 vs ds d Q s1.c d1 f' fun v H' Hv' s2 d2 => k v H' Hv' (s1.trans s2) d2
theorem rd_cf {K : PySem.W.Frag} {r : List V → Hp → VK → Prop} {g : List D → Option (List D)} {f : En → Option (List D)} (ok : OkF K r g) {σ : St} {H : Hp} {Q : VK} (h : rdF K (eCF g f) σ H Q) : tCB r (rdA K f) σ H Q := by
  obtain ⟨Hv, ρ, d, e, en, f', k⟩ := h
  obtain ⟨ds, h1, f'⟩ := bind_some2 f'
  refine ⟨Hv, ρ, ds, e, en, h1, fun vs H1 Hv1 s1 d1 => ?_⟩
  exact ok H1 Hv1 vs ds d Q s1.c d1 f' fun p vs H' Hv' s2 n n' hp d2 => k p vs H' Hv' (s1.trans s2) (s1.a.free n) n' hp d2
section
variable {X : Cx} {id T : String} {x : Str} {p pos : Pos} {e : Expr} {es : List Expr} {r : List V → Hp → VK → Prop} {f : En → Option (List D)}
theorem pd_cb {g : List D → Option D} (hc : CallR X (.builtin id) r) (ok : OkC X.K r g) (hg : Gl X x) (hm : X.mg x = none) (hv : bootBuiltins x = some (.builtin id)) (ha : PA X (e :: es) (rdA X.K f)) (hn : x ≠ "__name__" := by decide) (hdb : (x == ("__debug__" : Str)) = false := by decide)
    (he : starEach (e :: es) X.env = (false, eval e X.env) :: starEach es X.env := by rfl) (hpl : (backTo pos (starEach es X.env)).any (·.1) = false := by rfl) : PE X (.Call (.Name x p) (e :: es) [] pos) (rdE X.K (eCB g f)) :=
  pe_imp (pe_callB hc hg hm hv ha hn hdb he hpl) fun _ _ _ => rd_cb ok
theorem pd_ct {g : List D → Option D} (hc : CallR X (.type T) r) (ok : OkC X.K r g) (hg : Gl X x) (hm : X.mg x = none) (hv : bootBuiltins x = some (.type T)) (ha : PA X (e :: es) (rdA X.K f)) (hn : x ≠ "__name__" := by decide) (hdb : (x == ("__debug__" : Str)) = false := by decide)
    (he : starEach (e :: es) X.env = (false, eval e X.env) :: starEach es X.env := by rfl) (hpl : (backTo pos (starEach es X.env)).any (·.1) = false := by rfl) : PE X (.Call (.Name x p) (e :: es) [] pos) (rdE X.K (eCB g f)) :=
  pe_imp (pe_callTy hc hg hm hv ha hn hdb he hpl) fun _ _ _ => rd_cb ok
theorem pf_ct {g : List D → Option (List D)} (hc : CallR X (.type T) r) (ok : OkF X.K r g) (hg : Gl X x) (hm : X.mg x = none) (hv : bootBuiltins x = some (.type T)) (ha : PA X (e :: es) (rdA X.K f)) (hn : x ≠ "__name__" := by decide) (hdb : (x == ("__debug__" : Str)) = false := by decide)
    (he : starEach (e :: es) X.env = (false, eval e X.env) :: starEach es X.env := by rfl) (hpl : (backTo pos (starEach es X.env)).any (·.1) = false := by rfl) : PE X (.Call (.Name x p) (e :: es) [] pos) (rdF X.K (eCF g f)) :=
  pe_imp (pe_callTy hc hg hm hv ha hn hdb he hpl) fun _ _ _ => rd_cf ok
/-- the name of a built-in type as a value -/
theorem pd_ty {x : Str} {t : Tk} (hg : Gl X x) (hm : X.mg x = none) (hv : bootBuiltins x = some (.type t.nm)) (hn : x ≠ "__name__" := by decide) (hd : (x == ("__debug__" : Str)) = false := by decide) : PE X (.Name x pos) (rdE X.K (eC (.ty t))) :=
  pe_imp (pe_bltn (v := .ty t.nm) hg hm hv rfl hn hd) fun _ _ _ => rd_c fun _ => .ty t
end
def cAbs : List D → Option D
  | [.int i] => some (.int (if i < 0 then -i else i))
  | _ => none
def cLen : List D → Option D
  | [.lst ds] => some (.int ds.length)
  | [.tup ds] => some (.int ds.length)
  | [.str z] => if okLen z.length then some (.int z.length) else none
  | _ => none
def cInt : List D → Option D
  | [.int i] => some (.int i)
  | [.bl b] => some (.int (if b then 1 else 0))
  | _ => none
def cList : List D → Option (List D)
  | [.lst ds] => some ds
  | [.tup ds] => some ds
  | _ => none
def cMin2 : List D → Option D
  | [.int i, .int j] => some (.int (if j < i then j else i))
  | _ => none
def cMax2 : List D → Option D
  | [.int i, .int j] => some (.int (if j > i then j else i))
  | _ => none
def allInt : List D → Option (List Int)
  | [] => some []
  | .int i :: r => (allInt r).map (i :: ·)
  | _ => none
def allBl : List D → Option (List Bool)
  | [] => some []
  | .bl i :: r => (allBl r).map (i :: ·)
  | _ => none
def cSum : List D → Option D
  | [.lst ds] => (allInt ds).map fun ns => .int ns.sum
  | _ => none
def cAll : List D → Option D
  | [.lst ds] => (allBl ds).map fun ns => .bl (ns.all id)
  | _ => none
def cAny : List D → Option D
  | [.lst ds] => (allBl ds).map fun ns => .bl (ns.any id)
  | _ => none
def kdOf : D → Option Tk
  | .bl _ => some .bool
  | .int _ => some .int
  | .str _ => some .str
  | .tup _ => some .tuple
  | .lst _ => some .list
  | .dic _ => some .dict
  | _ => none
def isiTk (a b : Tk) : Bool := decide (a = b) || (decide (a = .bool) && decide (b = .int))
def cIsi : List D → Option D
  | [d, .ty t] => match d with
    | .non => some (.bl false)
    | .bl _ => some (.bl (isiTk .bool t))
    | .int _ => some (.bl (isiTk .int t))
    | .str _ => some (.bl (isiTk .str t))
    | .tup _ => some (.bl (isiTk .tuple t))
    | .lst _ => some (.bl (isiTk .list t))
    | .dic _ => some (.bl (isiTk .dict t))
    | _ => none
  | _ => none
section
variable {K : PySem.W.Frag} {H : Hp}
theorem Dns.ints : ∀ {vs : List V} {ds : List D} {ns : List Int}, Dns K H vs ds → allInt ds = some ns → vs = ns.map V.int
  | _, _, _, .nil, h => by cases h; rfl
  | _, _, ns, .cons (d := d) q r, h => by
    cases d <;> simp only [allInt] at h <;> try cases h
    rename_i i
    cases q
    cases e : allInt _ with
    | none => rw [e] at h; cases h
    | some ms =>
      rw [e] at h
      cases h
      rw [Dns.ints r e]; rfl
theorem Dns.bls : ∀ {vs : List V} {ds : List D} {ns : List Bool}, Dns K H vs ds → allBl ds = some ns → vs = ns.map V.bl
  | _, _, _, .nil, h => by cases h; rfl
  | _, _, ns, .cons (d := d) q r, h => by
    cases d <;> simp only [allBl] at h <;> try cases h
    rename_i i
    cases q
    cases e : allBl _ with
    | none => rw [e] at h; cases h
    | some ms =>
      rw [e] at h
      cases h
      rw [Dns.bls r e]; rfl
theorem okc_abs : OkC K (fun xs H Q => ∃ i, xs = [.int i] ∧ Q (.int (if i < 0 then -i else i)) H) cAbs := by
  intro H Hv vs ds d Q e r h k
  unfold cAbs at h
  split at h
  · cases h
    cases r with
    | cons q r =>
      cases r; cases q
      exact ⟨_, rfl, k _ H Hv (.refl e) (.int _)⟩
  · cases h
theorem okc_len : OkC K (fun xs H Q => (∃ p ys, xs = [.ref p] ∧ (SqL K H p ys ∨ SqT K H p ys) ∧ Q (.int ys.length) H) ∨ ∃ z, xs = [.str z] ∧ z.length ≤ sizeLine ∧ Q (.int z.length) H) cLen := by
  intro H Hv vs ds d Q e r h k
  unfold cLen at h
  split at h
  · cases h
    cases r with
    | cons q r =>
      cases r
      cases q with
      | lst hs r => exact .inl ⟨_, _, rfl, .inl (sameL e hs), by rw [r.length]; exact k _ H Hv (.refl e) (.int _)⟩
  · cases h
    cases r with
    | cons q r =>
      cases r
      cases q with
      | tup hs r => exact .inl ⟨_, _, rfl, .inr (sameT e hs), by rw [r.length]; exact k _ H Hv (.refl e) (.int _)⟩
  · split at h
    · rename_i c
      cases h
      cases r with
      | cons q r =>
        cases r; cases q
        exact .inr ⟨_, rfl, okLen_le c, k _ H Hv (.refl e) (.int _)⟩
    · cases h
  · cases h
theorem okc_int : OkC K (fun xs H Q => (∃ i, xs = [.int i] ∧ Q (.int i) H) ∨ ∃ k, xs = [.bl k] ∧ Q (.int (if k then 1 else 0)) H) cInt := by
  intro H Hv vs ds d Q e r h k
  unfold cInt at h
  split at h
  · cases h
    cases r with
    | cons q r =>
      cases r; cases q
      exact .inl ⟨_, rfl, k _ H Hv (.refl e) (.int _)⟩
  · cases h
    cases r with
    | cons q r =>
      cases r; cases q
      exact .inr ⟨_, rfl, k _ H Hv (.refl e) (.int _)⟩
  · cases h
theorem okf_list : OkF K (fun xs H Q => ∃ p ys, xs = [.ref p] ∧ (SqL K H p ys ∨ SqT K H p ys) ∧ ∀ l, H l = none → Q (.ref l) (upd H l (.lst ys))) cList := by
  intro H Hv vs ds d Q e r h k
  unfold cList at h
  split at h
  · cases h
    cases r with
    | cons q r =>
      cases r
      cases q with
      | lst hs r => exact ⟨_, _, rfl, .inl (sameL e hs), fun l hl => k _ _ _ _ (Stp.newH e hl) hl (e.free hl) upd_same r⟩
  · cases h
    cases r with
    | cons q r =>
      cases r
      cases q with
      | tup hs r => exact ⟨_, _, rfl, .inr (sameT e hs), fun l hl => k _ _ _ _ (Stp.newH e hl) hl (e.free hl) upd_same r⟩
  · cases h
theorem okc_min2 : OkC K (fun xs H Q => ∃ i j, xs = [.int i, .int j] ∧ Q (.int (if j < i then j else i)) H) cMin2 := by
  intro H Hv vs ds d Q e r h k
  unfold cMin2 at h
  split at h
  · cases h
    cases r with
    | cons q r =>
      cases r with
      | cons q2 r =>
        cases r; cases q; cases q2
        exact ⟨_, _, rfl, k _ H Hv (.refl e) (.int _)⟩
  · cases h
theorem okc_max2 : OkC K (fun xs H Q => ∃ i j, xs = [.int i, .int j] ∧ Q (.int (if j > i then j else i)) H) cMax2 := by
  intro H Hv vs ds d Q e r h k
  unfold cMax2 at h
  split at h
  · cases h
    cases r with
    | cons q r =>
      cases r with
      | cons q2 r =>
        cases r; cases q; cases q2
        exact ⟨_, _, rfl, k _ H Hv (.refl e) (.int _)⟩
  · cases h
theorem okc_sum : OkC K (rSum K) cSum := by
  intro H Hv vs ds d Q e r h k
  unfold cSum at h
  split at h
  · rename_i l
    cases e1 : allInt l with
    | none => rw [e1] at h; cases h
    | some ns =>
      rw [e1] at h
      cases h
      cases r with
      | cons q r =>
        cases r
        cases q with
        | lst hs r =>
          have := r.ints e1
          subst this
          exact ⟨_, ns, rfl, sameL e hs, k _ H Hv (.refl e) (.int _)⟩
  · cases h
theorem okc_all : OkC K (rAll K) cAll := by
  intro H Hv vs ds d Q e r h k
  unfold cAll at h
  split at h
  · rename_i l
    cases e1 : allBl l with
    | none => rw [e1] at h; cases h
    | some ns =>
      rw [e1] at h
      cases h
      cases r with
      | cons q r =>
        cases r
        cases q with
        | lst hs r =>
          have := r.bls e1
          subst this
          exact ⟨_, ns, rfl, sameL e hs, k _ H Hv (.refl e) (.bl _)⟩
  · cases h
theorem okc_any : OkC K (rAny K) cAny := by
  intro H Hv vs ds d Q e r h k
  unfold cAny at h
  split at h
  · rename_i l
    cases e1 : allBl l with
    | none => rw [e1] at h; cases h
    | some ns =>
      rw [e1] at h
      cases h
      cases r with
      | cons q r =>
        cases r
        cases q with
        | lst hs r =>
          have := r.bls e1
          subst this
          exact ⟨_, ns, rfl, sameL e hs, k _ H Hv (.refl e) (.bl _)⟩
  · cases h
theorem kit_tab (a b : Tk) : kitB a.nm b.nm = some (isiTk a b) := by
  cases a <;> cases b <;> decide +kernel
theorem kit_non (b : Tk) : kitB "NoneType" b.nm = some false := by
  cases b <;> decide +kernel
theorem tyx_list {a : Addr} {vs : List V} (h : SqL K H a vs) : TyX K H (.ref a) (.type "list") := by
  rcases h with (h | ⟨o, h⟩) | ⟨o, its, n, h, c, _⟩
  · exact .base (.lst h)
  · exact .base (.frz h)
  · exact .kList h c
theorem tyx_tup {a : Addr} {vs : List V} (h : SqT K H a vs) : TyX K H (.ref a) (.type "tuple") := by
  rcases h with (h | ⟨o, h⟩) | ⟨o, its, n, h, c, _⟩
  · exact .base (.tup h)
  · exact .fTuple h
  · exact .kTuple h c
theorem okc_isi : OkC K (rIsi K) cIsi := by
  intro H Hv vs ds d Q e r h k
  unfold cIsi at h
  split at h
  · rename_i x t
    cases r with
    | cons q r =>
      cases r with
      | cons q2 r =>
        cases r
        cases q2
        cases q <;> simp only at h <;> try cases h
        · exact ⟨_, _, _, _, _, rfl, .ty _, .base .non, kit_ty (kit_non t), k _ H Hv (.refl e) (.bl _)⟩
        · exact ⟨_, _, _, _, _, rfl, .ty _, .base (.bl _), kit_ty (kit_tab .bool t), k _ H Hv (.refl e) (.bl _)⟩
        · exact ⟨_, _, _, _, _, rfl, .ty _, .base (.int _), kit_ty (kit_tab .int t), k _ H Hv (.refl e) (.bl _)⟩
        · exact ⟨_, _, _, _, _, rfl, .ty _, .base (.str _), kit_ty (kit_tab .str t), k _ H Hv (.refl e) (.bl _)⟩
        · rename_i hs r
          exact ⟨_, _, _, _, _, rfl, .ty _, tyx_tup (sameT e hs), kit_ty (kit_tab .tuple t), k _ H Hv (.refl e) (.bl _)⟩
        · rename_i hs r
          exact ⟨_, _, _, _, _, rfl, .ty _, tyx_list (sameL e hs), kit_ty (kit_tab .list t), k _ H Hv (.refl e) (.bl _)⟩
        · rename_i hs r
          exact ⟨_, _, _, _, _, rfl, .ty _, .base (.dK (e _ _ hs)), kit_ty (kit_tab .dict t), k _ H Hv (.refl e) (.bl _)⟩
  · cases h
end
end PD
namespace PD
open PySem L2
/-! ### what never changes: data without lists -/
mutual
def imm : D → Bool
  | .tup ds => imms ds
  | .lst _ => false
  | .dic _ => false
  | .ins _ _ => false
  | _ => true
def imms : List D → Bool
  | [] => true
  | d :: ds => imm d && imms ds
end
/-- the view and all tuples -/
def tupV (Hv H : Hp) : Hp := fun a => match Hv a with
  | some o => some o
  | none => match H a with
    | some (.tup xs) => some (.tup xs)
    | some (.frz o (.tup xs)) => some (.frz o (.tup xs))
    | _ => none
theorem tupV_a (Hv H : Hp) : Same Hv (tupV Hv H) := fun a o e => by unfold tupV; rw [e]
theorem tupV_c {Hv H : Hp} (s : Same Hv H) : Same (tupV Hv H) H := fun a o e => by
  unfold tupV at e
  cases h : Hv a with
  | some u => rw [h] at e; cases e; exact s _ _ h
  | none =>
    rw [h] at e
    simp only at e
    split at e
    · rename_i q; cases e; exact q
    · rename_i q; cases e; exact q
    · cases e
theorem tupV_h {Hv H : Hp} {p : Addr} {o : HO} (m : Mb o = true) (h : H p = some o) (n : Hv p = none) : tupV Hv H p = none := by
  unfold tupV
  rw [n, h]
  cases o <;> first | rfl | cases m
section
variable {K : PySem.W.Frag} {H Hv : Hp}
theorem tupV_t {a : Addr} {vs : List V} (s : Same Hv H) (h : SqT K H a vs) : SqT K (tupV Hv H) a vs := by
  rcases h with (h | ⟨o, h⟩) | h
  · refine .inl (.inl ?_)
    unfold tupV
    cases e : Hv a with
    | some u => have := s _ _ e; rw [h] at this; cases this; rfl
    | none => simp only [h]
  · refine .inl (.inr ⟨o, ?_⟩)
    unfold tupV
    cases e : Hv a with
    | some u => have := s _ _ e; rw [h] at this; cases this; rfl
    | none => simp only [h]
  · exact .inr h
mutual
theorem Dn.imm (s : Same Hv H) : ∀ {v : V} {d : D}, Dn K H v d → imm d = true → Dn K (tupV Hv H) v d
  | _, _, .ty t, _ => .ty t
  | _, _, .non, _ => .non
  | _, _, .bl b, _ => .bl b
  | _, _, .int i, _ => .int i
  | _, _, .str x, _ => .str x
  | _, _, .tup h r, m => .tup (tupV_t s h) (Dns.imm s r (by simpa only [PD.imm] using m))
  | _, _, .lst _ _, m => by simp [PD.imm] at m
  | _, _, .dic _ _, m => by simp [PD.imm] at m
  | _, _, .ins _ _, m => by simp [PD.imm] at m
theorem Dns.imm (s : Same Hv H) : ∀ {v : List V} {d : List D}, Dns K H v d → imms d = true → Dns K (tupV Hv H) v d
  | _, _, .nil, _ => .nil
  | _, _, .cons h r, m => by
    simp only [imms, Bool.and_eq_true] at m
    exact .cons (Dn.imm s h m.1) (Dns.imm s r m.2)
end
end

/-! ### slots owned, slots told -/
inductive Own (K : PySem.W.Frag) (H : Hp) : HO → D → Prop
  | lst {vs : List V} {ds : List D} : Dns K H vs ds → Own K H (.lst vs) (.lst ds)
  | dic {vs : List (Key × V)} {ds : List (Key × D)} : Dks K H vs ds → Own K H (.dK vs) (.dic ds)
theorem Own.mono {K : PySem.W.Frag} {H H' : Hp} (e : Same H H') : ∀ {o : HO} {d : D}, Own K H o d → Own K H' o d
  | _, _, .lst r => .lst (r.mono e)
  | _, _, .dic r => .dic (r.mono e)
theorem Own.mb {K : PySem.W.Frag} {H : Hp} : ∀ {o : HO} {d : D}, Own K H o d → Mb o = true
  | _, _, .lst _ => rfl
  | _, _, .dic _ => rfl
theorem Own.dn {K : PySem.W.Frag} {H : Hp} {p : Addr} : ∀ {o : HO} {d : D}, Own K H o d → H p = some o → Dn K H (.ref p) d
  | _, _, .lst r, h => .lst (.of h) r
  | _, _, .dic r, h => .dic h r
def mask : List Nat → En → En
  | [], ρ => ρ
  | i :: O, ρ => (mask O ρ).set i none
theorem mask_length (ρ : En) : ∀ O : List Nat, (mask O ρ).length = ρ.length
  | [] => rfl
  | i :: O => by unfold mask; rw [List.length_set, mask_length ρ O]
theorem mask_some {ρ : En} {i : Nat} {d : D} : ∀ {O : List Nat}, (mask O ρ)[i]? = some (some d) → ρ[i]? = some (some d) ∧ i ∉ O
  | [], h => ⟨h, by simp⟩
  | j :: O, h => by
    unfold mask at h
    by_cases hi : j = i
    · subst hi
      by_cases hv : j < (mask O ρ).length
      · rw [List.getElem?_set_self hv] at h; cases h
      · rw [List.getElem?_eq_none (by simpa using hv)] at h; cases h
    · rw [List.getElem?_set_ne hi] at h
      obtain ⟨h1, h2⟩ := mask_some h
      exact ⟨h1, by simp only [List.mem_cons, not_or]; exact ⟨fun e => hi e.symm, h2⟩⟩
theorem mask_out {ρ : En} {i : Nat} : ∀ {O : List Nat}, i ∉ O → (mask O ρ)[i]? = ρ[i]?
  | [], _ => rfl
  | j :: O, h => by
    simp only [List.mem_cons, not_or] at h
    unfold mask
    rw [List.getElem?_set_ne (Ne.symm h.1)]
    exact mask_out h.2
theorem mask_set {ρ : En} {i : Nat} {x : Option D} : ∀ {O : List Nat}, i ∉ O → mask O (ρ.set i x) = (mask O ρ).set i x
  | [], _ => rfl
  | j :: O, h => by
    simp only [List.mem_cons, not_or] at h
    unfold mask
    rw [mask_set h.2, List.set_comm _ _ h.1]

structure Ok (K : PySem.W.Frag) (O : List Nat) (H0 Hv0 Hb : Hp) (σ : St) (ρ : En) (H Hv : Hp) : Prop where
  len : σ.length = ρ.length
  ex : Same H0 H
  vex : Same Hv0 Hv
  vb : Same Hb Hv
  vin : Same Hv H
  hid : ∀ p o, Mb o = true → H0 p = some o → Hv0 p = none → Hv p = none
  fz : ∀ (i : Nat) (d : D), i ∉ O → ρ[i]? = some (some d) → ∃ v, σ[i]? = some (some v) ∧ Dn K Hv v d
  ow : ∀ (i : Nat) (d : D), i ∈ O → ρ[i]? = some (some d) → ∃ p o, Own K Hv o d ∧ σ[i]? = some (some (.ref p)) ∧ H0 p = none ∧ Hv p = none ∧ H p = some o
  sep : ∀ (i j : Nat) (d d' : D) (p : Addr), i ∈ O → j ∈ O → ρ[i]? = some (some d) → ρ[j]? = some (some d') → σ[i]? = some (some (.ref p)) → σ[j]? = some (some (.ref p)) → i = j
section
variable {K : PySem.W.Frag} {O : List Nat} {H0 Hv0 Hb : Hp} {σ : St} {ρ : En} {H Hv : Hp}
/-- all slots, told in H -/
theorem Ok.full (k : Ok K O H0 Hv0 Hb σ ρ H Hv) : EOk K H σ ρ := ⟨k.len, fun i d e => by
  by_cases hi : i ∈ O
  · obtain ⟨p, o, h3, h1, _, _, h2⟩ := k.ow i d hi e
    exact ⟨_, h1, (h3.mono k.vin).dn h2⟩
  · obtain ⟨v, h1, h2⟩ := k.fz i d hi e
    exact ⟨v, h1, h2.mono k.vin⟩⟩
theorem Ok.msk (k : Ok K O H0 Hv0 Hb σ ρ H Hv) : EOk K Hv σ (mask O ρ) := ⟨by rw [mask_length]; exact k.len, fun i d e => by
  obtain ⟨h1, h2⟩ := mask_some e
  exact k.fz i d h2 h1⟩
/-- what is new since the entry, told too -/
def allV (H0 Hv H : Hp) : Hp := fun a => match Hv a with
  | some o => some o
  | none => match H0 a with
    | none => H a
    | some _ => none
theorem allV_a (H0 Hv H : Hp) : Same Hv (allV H0 Hv H) := fun a o e => by unfold allV; rw [e]
theorem allV_c {H0 Hv H : Hp} (s : Same Hv H) : Same (allV H0 Hv H) H := fun a o e => by
  unfold allV at e
  cases h : Hv a with
  | some u => rw [h] at e; cases e; exact s _ _ h
  | none =>
    rw [h] at e
    simp only at e
    split at e
    · exact e
    · cases e
theorem Ok.all (k : Ok K O H0 Hv0 Hb σ ρ H Hv) : EOk K (allV H0 Hv H) σ ρ := ⟨k.len, fun i d e => by
  by_cases hi : i ∈ O
  · obtain ⟨p, o, h3, h1, n0, nv, h2⟩ := k.ow i d hi e
    refine ⟨_, h1, (h3.mono (allV_a _ _ _)).dn ?_⟩
    unfold allV
    rw [nv, n0]
    exact h2
  · obtain ⟨v, h1, h2⟩ := k.fz i d hi e
    exact ⟨v, h1, h2.mono (allV_a _ _ _)⟩⟩
theorem Ok.stp (k : Ok K O H0 Hv0 Hb σ ρ H Hv) : Stp H0 Hv0 H Hv := ⟨k.ex, k.vex, k.vin, k.hid⟩
theorem Ok.stpA (k : Ok K O H0 Hv0 Hb σ ρ H Hv) : Stp H0 Hv0 H (allV H0 Hv H) := ⟨k.ex, k.vex.trans (allV_a _ _ _), allV_c k.vin, fun p o m h n => by
  unfold allV
  rw [k.hid p o m h n, h]⟩
theorem Ok.step {H' Hv' : Hp} (k : Ok K O H0 Hv0 Hb σ ρ H Hv) (s : Stp H Hv H' Hv') : Ok K O H0 Hv0 Hb σ ρ H' Hv' :=
  ⟨k.len, k.ex.trans s.a, k.vex.trans s.b, k.vb.trans s.b, s.c, fun p o m h n => s.h p o m (k.ex _ _ h) (k.hid p o m h n),
   fun i d hi e => let ⟨v, a, b⟩ := k.fz i d hi e; ⟨v, a, b.mono s.b⟩,
   fun i d hi e => let ⟨p, o, r, b, n0, nv, c⟩ := k.ow i d hi e; ⟨p, o, r.mono s.b, b, n0, s.h p o r.mb c nv, s.a _ _ c⟩, k.sep⟩
theorem Ok.grow {H' : Hp} (k : Ok K O H0 Hv0 Hb σ ρ H Hv) (s : Same H H') : Ok K O H0 Hv0 Hb σ ρ H' Hv := k.step ⟨s, .refl _, k.vin.trans s, fun _ _ _ _ n => n⟩
theorem Ok.base (k : Ok K O H0 Hv0 Hb σ ρ H Hv) : Ok K O H0 Hv0 Hv σ ρ H Hv := ⟨k.len, k.ex, k.vex, .refl _, k.vin, k.hid, k.fz, k.ow, k.sep⟩
theorem Ok.rebase {Hc : Hp} (k : Ok K O H0 Hv0 Hc σ ρ H Hv) (s : Same Hb Hc) : Ok K O H0 Hv0 Hb σ ρ H Hv := ⟨k.len, k.ex, k.vex, s.trans k.vb, k.vin, k.hid, k.fz, k.ow, k.sep⟩
theorem get_set_self {α : Type} {l : List α} {i : Nat} {x : α} {y : α} (h : (l.set i x)[i]? = some y) : i < l.length ∧ x = y := by
  by_cases hi : i < l.length
  · rw [List.getElem?_set_self hi] at h; cases h; exact ⟨hi, rfl⟩
  · rw [List.getElem?_eq_none (by simpa using hi)] at h; cases h
theorem Ok.setF {i : Nat} {v : V} {d : D} (k : Ok K O H0 Hv0 Hb σ ρ H Hv) (hi : i ∉ O) (q : Dn K Hv v d) : Ok K O H0 Hv0 Hb (σ.set i (some v)) (ρ.set i (some d)) H Hv := by
  have ne : ∀ j, j ∈ O → i ≠ j := fun j hj e => hi (e ▸ hj)
  refine ⟨by simp [k.len], k.ex, k.vex, k.vb, k.vin, k.hid, fun j d' hj e => ?_, fun j d' hj e => ?_, fun j j' d1 d2 p hj hj' e1 e2 e3 e4 => ?_⟩
  · by_cases h : i = j
    · subst h
      obtain ⟨h1, h2⟩ := get_set_self e
      cases h2
      exact ⟨v, List.getElem?_set_self (by rw [k.len]; exact h1), q⟩
    · rw [List.getElem?_set_ne h] at e ⊢
      exact k.fz j d' hj e
  · rw [List.getElem?_set_ne (ne j hj)] at e ⊢
    exact k.ow j d' hj e
  · rw [List.getElem?_set_ne (ne j hj)] at e1 e3
    rw [List.getElem?_set_ne (ne j' hj')] at e2 e4
    exact k.sep j j' d1 d2 p hj hj' e1 e2 e3 e4
/-- an owned slot takes a list that is not told and that no other owned slot holds -/
theorem Ok.setO {i : Nat} {p : Addr} {o : HO} {dd : D} (k : Ok K O H0 Hv0 Hb σ ρ H Hv) (hi : i ∈ O) (n0 : H0 p = none) (nv : Hv p = none) (hp : H p = some o) (q : Own K Hv o dd)
    (nx : ∀ (j : Nat) (d : D), j ∈ O → j ≠ i → ρ[j]? = some (some d) → σ[j]? ≠ some (some (.ref p))) : Ok K O H0 Hv0 Hb (σ.set i (some (.ref p))) (ρ.set i (some dd)) H Hv := by
  refine ⟨by simp [k.len], k.ex, k.vex, k.vb, k.vin, k.hid, fun j d' hj e => ?_, fun j d' hj e => ?_, fun j j' d1 d2 p' hj hj' e1 e2 e3 e4 => ?_⟩
  · have h : i ≠ j := fun e => hj (e ▸ hi)
    rw [List.getElem?_set_ne h] at e ⊢
    exact k.fz j d' hj e
  · by_cases h : i = j
    · subst h
      obtain ⟨h1, h2⟩ := get_set_self e
      cases h2
      exact ⟨p, o, q, List.getElem?_set_self (by rw [k.len]; exact h1), n0, nv, hp⟩
    · rw [List.getElem?_set_ne h] at e ⊢
      exact k.ow j d' hj e
  · by_cases h : i = j
    · by_cases h' : i = j'
      · rw [← h, ← h']
      · exfalso
        subst h
        obtain ⟨_, z⟩ := get_set_self e3
        cases z
        rw [List.getElem?_set_ne h'] at e2 e4
        exact nx j' d2 hj' (Ne.symm h') e2 e4
    · rw [List.getElem?_set_ne h] at e1 e3
      by_cases h' : i = j'
      · exfalso
        subst h'
        obtain ⟨_, z⟩ := get_set_self e4
        cases z
        exact nx j d1 hj (Ne.symm h) e1 e3
      · rw [List.getElem?_set_ne h'] at e2 e4
        exact k.sep j j' d1 d2 p' hj hj' e1 e2 e3 e4
/-- an owned list is changed -/
theorem Ok.upd {i : Nat} {p : Addr} {ob : HO} {dd de : D} (k : Ok K O H0 Hv0 Hb σ ρ H Hv) (hi : i ∈ O) (hρ : ρ[i]? = some (some de)) (hσ : σ[i]? = some (some (.ref p))) (n0 : H0 p = none) (nv : Hv p = none) (q : Own K Hv ob dd) :
    Ok K O H0 Hv0 Hb σ (ρ.set i (some dd)) (L2.upd H p ob) Hv := by
  have hlen : i < ρ.length := (List.getElem?_eq_some_iff.mp hρ).1
  refine ⟨by simp [k.len], sameMut k.ex n0, k.vex, k.vb, sameMut k.vin nv, k.hid, fun j d' hj e => ?_, fun j d' hj e => ?_, fun j j' d1 d2 p' hj hj' e1 e2 e3 e4 => ?_⟩
  · have h : i ≠ j := fun e => hj (e ▸ hi)
    rw [List.getElem?_set_ne h] at e
    exact k.fz j d' hj e
  · by_cases h : i = j
    · subst h
      obtain ⟨h1, h2⟩ := get_set_self e
      cases h2
      exact ⟨p, ob, q, hσ, n0, nv, upd_same⟩
    · rw [List.getElem?_set_ne h] at e
      obtain ⟨p', o', a1, a2, a3, a4, a5⟩ := k.ow j d' hj e
      refine ⟨p', o', a1, a2, a3, a4, ?_⟩
      rw [upd_ne ?_]
      · exact a5
      · intro z
        subst z
        exact h (k.sep i j _ _ p' hi hj hρ e hσ a2)
  · have get : ∀ (m : Nat) (d : D), (ρ.set i (some dd))[m]? = some (some d) → ∃ d', ρ[m]? = some (some d') := fun m d e => by
      by_cases h : i = m
      · subst h; exact ⟨_, hρ⟩
      · rw [List.getElem?_set_ne h] at e; exact ⟨_, e⟩
    obtain ⟨d1', e1'⟩ := get j d1 e1
    obtain ⟨d2', e2'⟩ := get j' d2 e2
    exact k.sep j j' d1' d2' p' hj hj' e1' e2' e3 e4
end

/-! ### statements -/
theorem Ok.owL {K : PySem.W.Frag} {O : List Nat} {H0 Hv0 Hb : Hp} {σ : St} {ρ : En} {H Hv : Hp} {i : Nat} {es : List D} (k : Ok K O H0 Hv0 Hb σ ρ H Hv) (hi : i ∈ O) (e : ρ[i]? = some (some (.lst es))) :
    ∃ p vs ds, D.lst es = .lst ds ∧ σ[i]? = some (some (.ref p)) ∧ H0 p = none ∧ Hv p = none ∧ H p = some (.lst vs) ∧ Dns K Hv vs ds := by
  obtain ⟨p, o, a1, a2, a3, a4, a5⟩ := k.ow i _ hi e
  cases a1 with
  | lst r => exact ⟨p, _, es, rfl, a2, a3, a4, a5, r⟩
theorem Ok.owK {K : PySem.W.Frag} {O : List Nat} {H0 Hv0 Hb : Hp} {σ : St} {ρ : En} {H Hv : Hp} {i : Nat} {es : List (Key × D)} (k : Ok K O H0 Hv0 Hb σ ρ H Hv) (hi : i ∈ O) (e : ρ[i]? = some (some (.dic es))) :
    ∃ p vs, σ[i]? = some (some (.ref p)) ∧ H0 p = none ∧ Hv p = none ∧ H p = some (.dK vs) ∧ Dks K Hv vs es := by
  obtain ⟨p, o, a1, a2, a3, a4, a5⟩ := k.ow i _ hi e
  cases a1 with
  | dic r => exact ⟨p, _, a2, a3, a4, a5, r⟩
inductive Out where
  | nx (ρ : En) | rt (d : D) | rf (ds : List D) | bk (ρ : En) | ct (ρ : En)
def Rt (K : PySem.W.Frag) (H0 Hv0 : Hp) (v : V) (H' : Hp) (d : D) : Prop := ∃ Hv', Stp H0 Hv0 H' Hv' ∧ Dn K Hv' v d
def RtF (K : PySem.W.Frag) (H0 Hv0 : Hp) (v : V) (H' : Hp) (ds : List D) : Prop := ∃ p vs Hv', v = .ref p ∧ Stp H0 Hv0 H' Hv' ∧ H0 p = none ∧ Hv' p = none ∧ H' p = some (.lst vs) ∧ Dns K Hv' vs ds
def Post (K : PySem.W.Frag) (O : List Nat) (H0 Hv0 Hb : Hp) (D : Ends) : Out → Prop
  | .nx ρ => ∀ σ H Hv, Ok K O H0 Hv0 Hb σ ρ H Hv → D.nx σ H
  | .bk ρ => ∀ σ H Hv, Ok K O H0 Hv0 Hb σ ρ H Hv → D.bk σ H
  | .ct ρ => ∀ σ H Hv, Ok K O H0 Hv0 Hb σ ρ H Hv → D.ct σ H
  | .rt d => ∀ v H', Rt K H0 Hv0 v H' d → D.rt v H'
  | .rf ds => ∀ v H', RtF K H0 Hv0 v H' ds → D.rt v H'
def rdS (K : PySem.W.Frag) (O : List Nat) (F : En → Option Out) : TS := fun D σ H => ∃ (H0 Hv0 Hb Hv : Hp) (ρ : En) (o : Out), Ok K O H0 Hv0 Hb σ ρ H Hv ∧ F ρ = some o ∧ Post K O H0 Hv0 Hb D o
def sSeq (F G : En → Option Out) (ρ : En) : Option Out := (F ρ).bind fun o => match o with
  | .nx ρ' => G ρ'
  | o => some o
def sNil (ρ : En) : Option Out := some (.nx ρ)
def sIf (c : En → Option Bool) (F G : En → Option Out) (ρ : En) : Option Out := (c ρ).bind fun b => if b then F ρ else G ρ
def sBrk (ρ : En) : Option Out := some (.bk ρ)
def sCont (ρ : En) : Option Out := some (.ct ρ)
def sAsg (O : List Nat) (i : Nat) (f : En → Option D) (ρ : En) : Option Out := (f (mask O ρ)).map fun d => .nx (ρ.set i (some d))
def sAsgI (i : Nat) (f : En → Option D) (ρ : En) : Option Out := (f ρ).bind fun d => if imm d then some (.nx (ρ.set i (some d))) else none
def sAsgO (O : List Nat) (i : Nat) (f : En → Option (List D)) (ρ : En) : Option Out := (f (mask O ρ)).map fun d => .nx (ρ.set i (some (.lst d)))
def sAsgOI (i : Nat) (f : En → Option (List D)) (ρ : En) : Option Out := (f ρ).bind fun d => if imms d then some (.nx (ρ.set i (some (.lst d)))) else none
def sRet (f : En → Option D) (ρ : En) : Option Out := (f ρ).map .rt
def sRetF (f : En → Option (List D)) (ρ : En) : Option Out := (f ρ).map .rf
def sRetO (i : Nat) (ρ : En) : Option Out := match eV i ρ with | some (.lst ds) => some (.rf ds) | _ => none
def sRetN (_ : En) : Option Out := some (.rt .non)
def sPar (O : List Nat) (i j : Nat) (f g : En → Option D) (ρ : En) : Option Out := (f (mask O ρ)).bind fun d => (g (mask O ρ)).bind fun d' => some (.nx ((ρ.set i (some d)).set j (some d')))
def sApp (O : List Nat) (i : Nat) (f : En → Option D) (ρ : En) : Option Out := match eV i ρ with
  | some (.lst ds) => (f (mask O ρ)).bind fun d => if okLen ds.length then some (.nx (ρ.set i (some (.lst (ds ++ [d]))))) else none
  | _ => none
def sAppI (i : Nat) (f : En → Option D) (ρ : En) : Option Out := match eV i ρ with
  | some (.lst ds) => (f ρ).bind fun d => if okLen ds.length && imm d then some (.nx (ρ.set i (some (.lst (ds ++ [d]))))) else none
  | _ => none
def sSetI (i : Nat) (k : En → Option D) (f : En → Option D) (ρ : En) : Option Out := match eV i ρ with
  | some (.lst ds) => (f ρ).bind fun d => if imm d then (asInt (k ρ)).bind fun z => (ixN ds.length z).bind fun j => some (.nx (ρ.set i (some (.lst (ds.set j d))))) else none
  | _ => none
section
variable {K : PySem.W.Frag} {O : List Nat} {σ : St} {H : Hp} {D' : Ends} {F G : En → Option Out}
theorem rs_nil (h : rdS K O sNil D' σ H) : tNext D' σ H := by
  obtain ⟨H0, Hv0, Hb, Hv, ρ, o, k, f, p⟩ := h
  cases f
  exact p σ H Hv k
theorem rs_brk (h : rdS K O sBrk D' σ H) : tBreak D' σ H := by
  obtain ⟨H0, Hv0, Hb, Hv, ρ, o, k, f, p⟩ := h
  cases f
  exact p σ H Hv k
theorem rs_cont (h : rdS K O sCont D' σ H) : tCont D' σ H := by
  obtain ⟨H0, Hv0, Hb, Hv, ρ, o, k, f, p⟩ := h
  cases f
  exact p σ H Hv k
theorem rs_seq (h : rdS K O (sSeq F G) D' σ H) : tSeq (rdS K O F) (rdS K O G) D' σ H := by
  obtain ⟨H0, Hv0, Hb, Hv, ρ, o, k, f, p⟩ := h
  obtain ⟨o1, h1, f⟩ := bind_some2 f
  refine ⟨H0, Hv0, Hb, Hv, ρ, o1, k, h1, ?_⟩
  cases o1 with
  | nx ρ' => exact fun σ' H' Hv' k' => ⟨H0, Hv0, Hb, Hv', ρ', o, k', f, p⟩
  | rt d => cases f; exact p
  | rf d => cases f; exact p
  | bk d => cases f; exact p
  | ct d => cases f; exact p
theorem rs_if {c : En → Option Bool} (h : rdS K O (sIf c F G) D' σ H) : tIfS (rdT K c) (rdS K O F) (rdS K O G) D' σ H := by
  obtain ⟨H0, Hv0, Hb, Hv, ρ, o, k, f, p⟩ := h
  obtain ⟨b, h1, f⟩ := bind_some2 f
  refine ⟨H, ρ, b, .refl _, k.full, h1, fun H' Hv' s => ?_⟩
  have k' := k.grow s.a
  cases b with
  | true => exact ⟨H0, Hv0, Hb, Hv, ρ, o, k', f, p⟩
  | false => exact ⟨H0, Hv0, Hb, Hv, ρ, o, k', f, p⟩
theorem rs_asg {i : Nat} {f : En → Option D} (hi : i ∉ O) (h : rdS K O (sAsg O i f) D' σ H) : tAsg (rdE K f) (gName i) D' σ H := by
  obtain ⟨H0, Hv0, Hb, Hv, ρ, o, k, f', p⟩ := h
  unfold sAsg at f'
  cases h1 : f (mask O ρ) with
  | none => rw [h1] at f'; cases f'
  | some d =>
    rw [h1] at f'
    cases f'
    exact ⟨Hv, mask O ρ, d, k.vin, k.msk, h1, fun v H' Hv' s q => p _ H' Hv' ((k.step s).setF hi q)⟩
theorem rs_asgI {i : Nat} {f : En → Option D} (hi : i ∉ O) (h : rdS K O (sAsgI i f) D' σ H) : tAsg (rdE K f) (gName i) D' σ H := by
  obtain ⟨H0, Hv0, Hb, Hv, ρ, o, k, f', p⟩ := h
  obtain ⟨d, h1, f'⟩ := bind_some2 f'
  split at f'
  · rename_i m
    cases f'
    refine ⟨H, ρ, d, .refl _, k.full, h1, fun v H' Hv' s q => ?_⟩
    have q' := q.mono s.c
    have k' := k.grow s.a
    exact p _ H' (tupV Hv H') ((k'.step ⟨.refl _, tupV_a _ _, tupV_c k'.vin, fun p o m hp n => tupV_h m hp n⟩).setF hi (q'.imm k'.vin m))
  · cases f'
theorem rs_asgO {i : Nat} {f : En → Option (List D)} (hi : i ∈ O) (h : rdS K O (sAsgO O i f) D' σ H) : tAsg (rdF K f) (gName i) D' σ H := by
  obtain ⟨H0, Hv0, Hb, Hv, ρ, o, k, f', p⟩ := h
  unfold sAsgO at f'
  cases h1 : f (mask O ρ) with
  | none => rw [h1] at f'; cases f'
  | some d =>
    rw [h1] at f'
    cases f'
    refine ⟨Hv, mask O ρ, d, k.vin, k.msk, h1, fun a vs H' Hv' s n n' hp q => p _ H' Hv' ((k.step s).setO hi (k.ex.free n) n' hp (.lst q) fun j d' hj ne e e' => ?_)⟩
    obtain ⟨p', o', a1, a2, a3, a4, a5⟩ := k.ow j d' hj e
    rw [a2] at e'
    cases e'
    rw [n] at a5; cases a5
theorem rs_asgOI {i : Nat} {f : En → Option (List D)} (hi : i ∈ O) (h : rdS K O (sAsgOI i f) D' σ H) : tAsg (rdF K f) (gName i) D' σ H := by
  obtain ⟨H0, Hv0, Hb, Hv, ρ, o, k, f', p⟩ := h
  obtain ⟨d, h1, f'⟩ := bind_some2 f'
  split at f'
  · rename_i m
    cases f'
    refine ⟨H, ρ, d, .refl _, k.full, h1, fun a vs H' Hv' s n n' hp q => ?_⟩
    have k' := k.grow s.a
    have k2 := k'.step (Hv' := tupV Hv H') ⟨.refl _, tupV_a _ _, tupV_c k'.vin, fun p o m hp n => tupV_h m hp n⟩
    refine p _ H' (tupV Hv H') (k2.setO hi (k.ex.free n) (tupV_h rfl hp (k.vin.free n)) hp (.lst ((q.mono s.c).imm k'.vin m)) fun j d' hj ne e e' => ?_)
    obtain ⟨p', o', a1, a2, a3, a4, a5⟩ := k.ow j d' hj e
    rw [a2] at e'
    cases e'
    rw [n] at a5; cases a5
  · cases f'
theorem rs_ret {f : En → Option D} (h : rdS K O (sRet f) D' σ H) : tRet (rdE K f) D' σ H := by
  obtain ⟨H0, Hv0, Hb, Hv, ρ, o, k, f', p⟩ := h
  unfold sRet at f'
  cases h1 : f ρ with
  | none => rw [h1] at f'; cases f'
  | some d =>
    rw [h1] at f'
    cases f'
    exact ⟨allV H0 Hv H, ρ, d, allV_c k.vin, k.all, h1, fun v H' Hv' s q => p v H' ⟨Hv', k.stpA.trans s, q⟩⟩
theorem rs_retN (h : rdS K O sRetN D' σ H) : tRetN D' σ H := by
  obtain ⟨H0, Hv0, Hb, Hv, ρ, o, k, f', p⟩ := h
  cases f'
  exact p .non H ⟨Hv, k.stp, .non⟩
theorem rs_retF {f : En → Option (List D)} (h : rdS K O (sRetF f) D' σ H) : tRet (rdF K f) D' σ H := by
  obtain ⟨H0, Hv0, Hb, Hv, ρ, o, k, f', p⟩ := h
  unfold sRetF at f'
  cases h1 : f ρ with
  | none => rw [h1] at f'; cases f'
  | some d =>
    rw [h1] at f'
    cases f'
    exact ⟨allV H0 Hv H, ρ, d, allV_c k.vin, k.all, h1, fun a vs H' Hv' s n n' hp q => p _ H' ⟨a, vs, Hv', rfl, k.stpA.trans s, k.ex.free n, n', hp, q⟩⟩
theorem rs_retO {i : Nat} (hi : i ∈ O) (h : rdS K O (sRetO i) D' σ H) : tRet (tVar i) D' σ H := by
  obtain ⟨H0, Hv0, Hb, Hv, ρ, o, k, f', p⟩ := h
  unfold sRetO at f'
  split at f'
  · rename_i ds e
    cases f'
    obtain ⟨a, vs, ds', a1, a2, a3, a4, a5, a6⟩ := k.owL hi (eV_some e)
    cases a1
    exact ⟨_, a2, p _ H ⟨a, vs, Hv, rfl, k.stp, a3, a4, a5, a6⟩⟩
  · cases f'
theorem rs_par {i j : Nat} {f g : En → Option D} (hi : i ∉ O) (hj : j ∉ O) (h : rdS K O (sPar O i j f g) D' σ H) : tPar i j (rdA K (aCons f (aCons g aNil))) D' σ H := by
  obtain ⟨H0, Hv0, Hb, Hv, ρ, o, k, f', p⟩ := h
  obtain ⟨d1, h1, f'⟩ := bind_some2 f'
  obtain ⟨d2, h2, f'⟩ := bind_some2 f'
  cases f'
  refine ⟨Hv, mask O ρ, [d1, d2], k.vin, k.msk, by unfold aCons aNil; rw [h1, h2]; rfl, fun vs H' Hv' s q => ?_⟩
  cases q with
  | cons q1 q =>
    cases q with
    | cons q2 q =>
      cases q
      exact ⟨_, _, rfl, p _ H' Hv' (((k.step s).setF hi q1).setF hj q2)⟩
theorem rs_app {i : Nat} {f : En → Option D} (hi : i ∈ O) (h : rdS K O (sApp O i f) D' σ H) : tDrop (tBM K "list" rAppend (tVar i) (tCons (rdE K f) tNil)) D' σ H := by
  obtain ⟨H0, Hv0, Hb, Hv, ρ, o, k, f', p⟩ := h
  unfold sApp at f'
  split at f'
  · rename_i ds e
    have hρ := eV_some e
    obtain ⟨a, vs, ds', a1, a2, a3, a4, a5, a6⟩ := k.owL hi hρ
    cases a1
    obtain ⟨d, h1, f'⟩ := bind_some2 f'
    split at f'
    · rename_i c
      cases f'
      refine ⟨_, a2, Or.inl ⟨rfl, _, .inl (.inl a5)⟩, Hv, mask O ρ, d, k.vin, k.msk, h1, fun v H' Hv' s q => ?_⟩
      have k' := k.step s
      exact ⟨a, vs, v, rfl, rfl, s.a _ _ a5, by rw [a6.length]; exact okLen_lt c, p _ _ Hv' (k'.upd hi hρ a2 a3 (s.h a _ rfl a5 a4) (.lst ((a6.mono s.b).append (.cons q .nil))))⟩
    · cases f'
  · cases f'
theorem rs_appI {i : Nat} {f : En → Option D} (hi : i ∈ O) (h : rdS K O (sAppI i f) D' σ H) : tDrop (tBM K "list" rAppend (tVar i) (tCons (rdE K f) tNil)) D' σ H := by
  obtain ⟨H0, Hv0, Hb, Hv, ρ, o, k, f', p⟩ := h
  unfold sAppI at f'
  split at f'
  · rename_i ds e
    have hρ := eV_some e
    obtain ⟨a, vs, ds', a1, a2, a3, a4, a5, a6⟩ := k.owL hi hρ
    cases a1
    obtain ⟨d, h1, f'⟩ := bind_some2 f'
    split at f'
    · rename_i c
      rw [Bool.and_eq_true] at c
      cases f'
      refine ⟨_, a2, Or.inl ⟨rfl, _, .inl (.inl a5)⟩, H, ρ, d, .refl _, k.full, h1, fun v H' Hv' s q => ?_⟩
      have k' := k.grow s.a
      have k2 := k'.step (Hv' := tupV Hv H') ⟨.refl _, tupV_a _ _, tupV_c k'.vin, fun p o m hp n => tupV_h m hp n⟩
      have a5' := s.a _ _ a5
      exact ⟨a, vs, v, rfl, rfl, a5', by rw [a6.length]; exact okLen_lt c.1, p _ _ _ (k2.upd hi hρ a2 a3 (tupV_h rfl a5' a4) (.lst ((a6.mono (tupV_a _ _)).append (.cons ((q.mono s.c).imm k'.vin c.2) .nil))))⟩
    · cases f'
  · cases f'
theorem rs_setI {i : Nat} {f g : En → Option D} (hi : i ∈ O) (h : rdS K O (sSetI i g f) D' σ H) : tAsg (rdE K f) (gSub (tVar i) (rdE K g) rSetL) D' σ H := by
  obtain ⟨H0, Hv0, Hb, Hv, ρ, o, k, f', p⟩ := h
  unfold sSetI at f'
  split at f'
  · rename_i ds e
    have hρ := eV_some e
    obtain ⟨a, vs, ds', a1, a2, a3, a4, a5, a6⟩ := k.owL hi hρ
    cases a1
    obtain ⟨d, h1, f'⟩ := bind_some2 f'
    split at f'
    · rename_i c
      obtain ⟨z, h2, f'⟩ := bind_some2 f'
      obtain ⟨j, h3, f'⟩ := bind_some2 f'
      cases f'
      refine ⟨H, ρ, d, .refl _, k.full, h1, fun v H' Hv' s q => ?_⟩
      have k' := k.grow s.a
      refine ⟨_, a2, H', ρ, .int z, .refl _, k'.full, asInt_some h2, fun v2 H2 Hv2 s2 q2 => ?_⟩
      cases q2
      have k2 := k'.grow s2.a
      have k3 := k2.step (Hv' := tupV Hv H2) ⟨.refl _, tupV_a _ _, tupV_c k2.vin, fun p o m hp n => tupV_h m hp n⟩
      have a5' := s2.a _ _ (s.a _ _ a5)
      refine ⟨a, vs, z, j, rfl, rfl, a5', by rw [a6.length]; exact h3, p _ _ _ (k3.upd hi hρ a2 a3 (tupV_h rfl a5' a4) (.lst ((a6.mono (tupV_a _ _)).set j (((q.mono s.c).mono s2.a).imm k2.vin c))))⟩
    · cases f'
  · cases f'
end
section
variable {X : Cx} {O : List Nat} {F G : En → Option Out} {pos : Pos}
theorem ss_nil : PSs X [] (rdS X.K O sNil) := pss_imp pss_nil fun _ _ _ => rs_nil
theorem ss_cons {st : Stmt} {rest : List Stmt} (h1 : PS X st (rdS X.K O F)) (h2 : PSs X rest (rdS X.K O G)) : PSs X (st :: rest) (rdS X.K O (sSeq F G)) := pss_imp (pss_cons h1 h2) fun _ _ _ => rs_seq
theorem ss_one {st : Stmt} (h1 : PS X st (rdS X.K O F)) : PSs X [st] (rdS X.K O F) := pss_one h1
theorem sd_if {c : Expr} {a b : List Stmt} {t : En → Option Bool} (hc : PT X c (rdT X.K t)) (ha : PSs X a (rdS X.K O F)) (hb : PSs X b (rdS X.K O G)) : PS X (.If c a b pos) (rdS X.K O (sIf t F G)) := ps_imp (ps_if hc ha hb) fun _ _ _ => rs_if
theorem sd_brk : PS X (.Break pos) (rdS X.K O sBrk) := ps_imp ps_break fun _ _ _ => rs_brk
theorem sd_cont : PS X (.Continue pos) (rdS X.K O sCont) := ps_imp ps_continue fun _ _ _ => rs_cont
theorem sd_pass : PS X (.Pass pos) (rdS X.K O sNil) := ps_imp ps_pass fun _ _ _ => rs_nil
theorem sd_doc {x j p2} : PS X (.Expr (.Constant (.str x) j pos) p2) (rdS X.K O sNil) := ps_imp ps_doc fun _ _ _ => rs_nil
theorem sd_ret {e : Expr} {f : En → Option D} (h : PE X e (rdE X.K f)) : PS X (.Return (some e) pos) (rdS X.K O (sRet f)) := ps_imp (ps_ret h) fun _ _ _ => rs_ret
theorem sd_retF {e : Expr} {f : En → Option (List D)} (h : PE X e (rdF X.K f)) : PS X (.Return (some e) pos) (rdS X.K O (sRetF f)) := ps_imp (ps_ret h) fun _ _ _ => rs_retF
theorem sd_retN : PS X (.Return none pos) (rdS X.K O sRetN) := ps_imp ps_retN fun _ _ _ => rs_retN
theorem sd_retO {i : Nat} {x : Str} {p2 : Pos} (h : PE X (.Name x p2) (tVar i)) (hi : i ∈ O) : PS X (.Return (some (.Name x p2)) pos) (rdS X.K O (sRetO i)) := ps_imp (ps_ret h) fun _ _ _ => rs_retO hi
variable {i : Nat} {x : Str} {e : Expr} {p' : Pos}
theorem sd_asg {f : En → Option D} (hN : X.N.Nodup) (hi : X.N[i]? = some x) (hx : Loc X.env.scope x) (ho : i ∉ O) (he : PE X e (rdE X.K f)) (hs : swapsWith e (some (.Name x p')) pos.line X.env = pure false := by rfl) (hf : X.fn x = true ∨ X.env.scope.names.lookup x = some .local := by first | exact .inl rfl | exact .inr rfl | assumption) :
    PS X (.Assign [.Name x p'] e pos) (rdS X.K O (sAsg O i f)) := ps_imp (ps_set hN hi hx he hs hf) fun _ _ _ => rs_asg ho
theorem sd_asgI {f : En → Option D} (hN : X.N.Nodup) (hi : X.N[i]? = some x) (hx : Loc X.env.scope x) (ho : i ∉ O) (he : PE X e (rdE X.K f)) (hs : swapsWith e (some (.Name x p')) pos.line X.env = pure false := by rfl) (hf : X.fn x = true ∨ X.env.scope.names.lookup x = some .local := by first | exact .inl rfl | exact .inr rfl | assumption) :
    PS X (.Assign [.Name x p'] e pos) (rdS X.K O (sAsgI i f)) := ps_imp (ps_set hN hi hx he hs hf) fun _ _ _ => rs_asgI ho
theorem sd_asgO {f : En → Option (List D)} (hN : X.N.Nodup) (hi : X.N[i]? = some x) (hx : Loc X.env.scope x) (ho : i ∈ O) (he : PE X e (rdF X.K f)) (hs : swapsWith e (some (.Name x p')) pos.line X.env = pure false := by rfl) (hf : X.fn x = true ∨ X.env.scope.names.lookup x = some .local := by first | exact .inl rfl | exact .inr rfl | assumption) :
    PS X (.Assign [.Name x p'] e pos) (rdS X.K O (sAsgO O i f)) := ps_imp (ps_set hN hi hx he hs hf) fun _ _ _ => rs_asgO ho
theorem sd_asgOI {f : En → Option (List D)} (hN : X.N.Nodup) (hi : X.N[i]? = some x) (hx : Loc X.env.scope x) (ho : i ∈ O) (he : PE X e (rdF X.K f)) (hs : swapsWith e (some (.Name x p')) pos.line X.env = pure false := by rfl) (hf : X.fn x = true ∨ X.env.scope.names.lookup x = some .local := by first | exact .inl rfl | exact .inr rfl | assumption) :
    PS X (.Assign [.Name x p'] e pos) (rdS X.K O (sAsgOI i f)) := ps_imp (ps_set hN hi hx he hs hf) fun _ _ _ => rs_asgOI ho
theorem sd_par {j : Nat} {y : Str} {a b : Expr} {f g : En → Option D} {px py pt : Pos} {kt k2 pt2} (hc : X.calm = true) (hN : X.N.Nodup) (hi : X.N[i]? = some x) (hj : X.N[j]? = some y) (hij : i ≠ j)
    (hx : X.env.scope.names.lookup x = some .local) (hy : X.env.scope.names.lookup y = some .local) (ha : PA X [a, b] (rdA X.K (aCons f (aCons g aNil)))) (hoi : i ∉ O) (hoj : j ∉ O)
    (hw : swappedStores [.Tuple [.Name x px, .Name y py] kt pt] (.Tuple [a, b] k2 pt2) X.env = pure (some [x, y]))
    (hs : swapsWithSole [.Tuple [.Name x px, .Name y py] kt pt] (.Tuple [a, b] k2 pt2) pos.line X.env = pure false := by rfl) :
    PS X (.Assign [.Tuple [.Name x px, .Name y py] kt pt] (.Tuple [a, b] k2 pt2) pos) (rdS X.K O (sPar O i j f g)) := ps_imp (ps_par hc hN hi hj hij hx hy ha hw hs) fun _ _ _ => rs_par hoi hoj
theorem sd_app {st : Stmt} {f : En → Option D} (ho : i ∈ O) (h : PS X st (tDrop (tBM X.K "list" rAppend (tVar i) (tCons (rdE X.K f) tNil)))) : PS X st (rdS X.K O (sApp O i f)) := ps_imp h fun _ _ _ => rs_app ho
theorem sd_appI {st : Stmt} {f : En → Option D} (ho : i ∈ O) (h : PS X st (tDrop (tBM X.K "list" rAppend (tVar i) (tCons (rdE X.K f) tNil)))) : PS X st (rdS X.K O (sAppI i f)) := ps_imp h fun _ _ _ => rs_appI ho
theorem sd_setI {st : Stmt} {f g : En → Option D} (ho : i ∈ O) (h : PS X st (tAsg (rdE X.K f) (gSub (tVar i) (rdE X.K g) rSetL))) : PS X st (rdS X.K O (sSetI i g f)) := ps_imp h fun _ _ _ => rs_setI ho
end
end PD
namespace PD
open PySem L2
/-! ### targets -/
inductive Tgt where
  | nm (i : Nat) | tp (is : List Nat)
def Tgt.slots : Tgt → List Nat
  | .nm i => [i]
  | .tp is => is
def setAll : List Nat → List D → En → En
  | i :: is, d :: ds, ρ => setAll is ds (ρ.set i (some d))
  | _, _, ρ => ρ
def stD : Tgt → D → En → Option En
  | .nm i, d, ρ => some (ρ.set i (some d))
  | .tp is, .tup ds, ρ => if is.length = ds.length then some (setAll is ds ρ) else none
  | _, _, _ => none
def gNames : List Nat → TGs
  | [] => gNil
  | i :: is => gCons (gName i) (gNames is)
def gTg (K : PySem.W.Frag) : Tgt → TG
  | .nm i => gName i
  | .tp is => gTup K is.length (gNames is)
section
variable {K : PySem.W.Frag} {σ : St} {H Hv : Hp} {ρ ρ1 : En}
theorem EOk.set {i : Nat} {v : V} {d : D} (k : EOk K Hv σ ρ) (q : Dn K Hv v d) : EOk K Hv (σ.set i (some v)) (ρ.set i (some d)) := by
  refine ⟨by simp [k.len], fun j d' e => ?_⟩
  by_cases h : i = j
  · subst h
    obtain ⟨h1, h2⟩ := get_set_self e
    cases h2
    exact ⟨v, List.getElem?_set_self (by rw [k.len]; exact h1), q⟩
  · rw [List.getElem?_set_ne h] at e ⊢
    exact k.at_ j d' e
theorem gNames_ok : ∀ {is : List Nat} {vs : List V} {ds : List D} {σ : St} {ρ : En} {Q : St → Hp → Prop}, EOk K Hv σ ρ → Dns K Hv vs ds → is.length = ds.length →
    (∀ σ1, EOk K Hv σ1 (setAll is ds ρ) → (∀ k, k ∉ is → σ1[k]? = σ[k]?) → σ1.length = σ.length → Q σ1 H) → gNames is vs σ H Q
  | [], _, _, σ, ρ, Q, k, .nil, _, q => ⟨rfl, q σ k (fun _ _ => rfl) rfl⟩
  | i :: is, _, _, σ, ρ, Q, k, .cons (v := v) (d := d) hv r, l, q => by
    refine ⟨v, _, rfl, ?_⟩
    show gNames is _ (σ.set i (some v)) H Q
    refine gNames_ok (k.set hv) r (by simpa using l) fun σ1 k1 a1 l1 => q σ1 k1 (fun j hj => ?_) (by simpa using l1)
    simp only [List.mem_cons, not_or] at hj
    rw [a1 j hj.2, List.getElem?_set_ne (Ne.symm hj.1)]
theorem gTg_ok {t : Tgt} {x : V} {d : D} {Q : St → Hp → Prop} (k : EOk K Hv σ ρ) (s : Same Hv H) (hx : Dn K Hv x d) (h : stD t d ρ = some ρ1)
    (q : ∀ σ1, EOk K Hv σ1 ρ1 → (∀ j, j ∉ t.slots → σ1[j]? = σ[j]?) → σ1.length = σ.length → Q σ1 H) : gTg K t x σ H Q := by
  cases t with
  | nm i =>
    cases h
    exact q _ (k.set hx) (fun j hj => List.getElem?_set_ne (fun e => hj (by simp [Tgt.slots, e]))) (by simp)
  | tp is =>
    cases hx with
    | tup ht r =>
      simp only [stD] at h
      split at h
      · rename_i l
        cases h
        exact ⟨_, _, rfl, sameT s ht, by rw [r.length]; exact l.symm, gNames_ok k r l q⟩
      · cases h
    | _ => simp [stD] at h
theorem setAll_len : ∀ (is : List Nat) (ds : List D) (ρ : En), (setAll is ds ρ).length = ρ.length
  | [], _, _ => by simp [setAll]
  | _ :: _, [], _ => by simp [setAll]
  | i :: is, d :: ds, ρ => by rw [setAll, setAll_len]; simp
theorem setAll_out : ∀ {is : List Nat} {ds : List D} {ρ : En} {j : Nat}, j ∉ is → (setAll is ds ρ)[j]? = ρ[j]?
  | [], _, _, _, _ => by simp [setAll]
  | _ :: _, [], _, _, _ => by simp [setAll]
  | i :: is, d :: ds, ρ, j, h => by
    simp only [List.mem_cons, not_or] at h
    rw [setAll, setAll_out h.2, List.getElem?_set_ne (Ne.symm h.1)]
theorem setAll_mask {O : List Nat} : ∀ {is : List Nat} {ds : List D} {ρ : En}, (∀ i ∈ is, i ∉ O) → setAll is ds (mask O ρ) = mask O (setAll is ds ρ)
  | [], _, _, _ => by simp [setAll]
  | _ :: _, [], _, _ => by simp [setAll]
  | i :: is, d :: ds, ρ, h => by
    rw [setAll, setAll, ← mask_set (h i (by simp)), setAll_mask fun j hj => h j (List.mem_cons_of_mem _ hj)]
theorem stD_mask {O : List Nat} {t : Tgt} {d : D} (h : stD t d ρ = some ρ1) (ho : ∀ i ∈ t.slots, i ∉ O) : stD t d (mask O ρ) = some (mask O ρ1) := by
  cases t with
  | nm i =>
    cases h
    simp only [stD]
    rw [mask_set (ho i (by simp [Tgt.slots]))]
  | tp is =>
    cases d <;> simp only [stD] at h ⊢ <;> try cases h
    split at h
    · rename_i l
      cases h
      rw [if_pos l, setAll_mask (is := is) ho]
    · cases h
theorem stD_out {t : Tgt} {d : D} (h : stD t d ρ = some ρ1) : ρ1.length = ρ.length ∧ ∀ j, j ∉ t.slots → ρ1[j]? = ρ[j]? := by
  cases t with
  | nm i =>
    cases h
    exact ⟨by simp, fun j hj => List.getElem?_set_ne (fun e => hj (by simp [Tgt.slots, e]))⟩
  | tp is =>
    cases d <;> simp only [stD] at h <;> try cases h
    split at h
    · cases h
      exact ⟨setAll_len _ _ _, fun j hj => setAll_out hj⟩
    · cases h
/-- a target's store, the owned slots untouched -/
theorem gTg_Ok {O : List Nat} {H0 Hv0 Hb : Hp} {t : Tgt} {x : V} {d : D} {Q : St → Hp → Prop} (k : Ok K O H0 Hv0 Hb σ ρ H Hv) (ho : ∀ i ∈ t.slots, i ∉ O) (hx : Dn K Hv x d) (h : stD t d ρ = some ρ1)
    (q : ∀ σ1, Ok K O H0 Hv0 Hb σ1 ρ1 H Hv → Q σ1 H) : gTg K t x σ H Q := by
  obtain ⟨l1, o1⟩ := stD_out h
  refine gTg_ok k.msk k.vin hx (stD_mask h ho) fun σ1 k1 a1 e1 => q σ1 ?_
  have ns : ∀ j, j ∈ O → j ∉ t.slots := fun j hj hs => ho j hs hj
  refine ⟨by rw [e1, l1]; exact k.len, k.ex, k.vex, k.vb, k.vin, k.hid, fun i d' hi e => ?_, fun i d' hi e => ?_, fun i j d1 d2 p hi hj e1 e2 e3 e4 => ?_⟩
  · exact k1.at_ i d' (by rw [mask_out hi]; exact e)
  · rw [o1 i (ns i hi)] at e
    rw [a1 i (ns i hi)]
    exact k.ow i d' hi e
  · rw [o1 i (ns i hi)] at e1
    rw [o1 j (ns j hj)] at e2
    rw [a1 i (ns i hi)] at e3
    rw [a1 j (ns j hj)] at e4
    exact k.sep i j d1 d2 p hi hj e1 e2 e3 e4
end

/-! ### what is walked -/
def Walk (K : PySem.W.Frag) (Hv1 : Hp) (J : It) (ds : List D) : Prop := ∀ (i : Nat) (H Hv : Hp), Same Hv1 Hv → Same Hv H →
  (∀ d, ds[i]? = some d → J.go i H ∧ ∀ x H', J.yld i H x H' → ∃ Hv', Stp H Hv H' Hv' ∧ Dn K Hv' x d) ∧ (ds[i]? = none → J.stop i H)
def rdI (K : PySem.W.Frag) (f : En → Option (List D)) : TI := fun σ H R => ∃ (Hv : Hp) (ρ : En) (ds : List D), Same Hv H ∧ EOk K Hv σ ρ ∧ f ρ = some ds ∧ ∀ J H1 Hv1, Stp H Hv H1 Hv1 → Walk K Hv1 J ds → R J H1
theorem pi_imp {X : Cx} {tg e : Expr} {t t' : TI} (h : PI X tg e t) (i : ∀ σ H R, t' σ H R → t σ H R) : PI X tg e t' := ⟨fun pins s σ H R I w => h.run pins s σ H R I (i σ H R w)⟩
def iL (f : En → Option D) (ρ : En) : Option (List D) := match f ρ with | some (.lst ds) => some ds | _ => none
def iT (f : En → Option D) (ρ : En) : Option (List D) := match f ρ with | some (.tup ds) => some ds | _ => none
def rngD (lo : Int) (n : Nat) : List D := (List.range n).map fun (i : Nat) => D.int (lo + (i : Int))
def small62 (j : Int) : Bool := decide (-(2 ^ 62) ≤ j) && decide (j < 2 ^ 62)
def iR1 (f : En → Option (List D)) (ρ : En) : Option (List D) := match f ρ with | some [.int j] => if small62 j then some (rngD 0 j.toNat) else none | _ => none
def iR2 (f : En → Option (List D)) (ρ : En) : Option (List D) := match f ρ with | some [.int i, .int j] => if small62 i && small62 j then some (rngD i (j - i).toNat) else none | _ => none
/-- range(i, j, -1) -/
def iR3 (f : En → Option (List D)) (ρ : En) : Option (List D) := match f ρ with | some [.int i, .int j, .int (-1)] => if small62 i && small62 j then some ((List.range (i - j).toNat).map fun (m : Nat) => D.int (i - (m : Int))) else none | _ => none
def zipD : List D → List D → List D
  | a :: as, b :: bs => .tup [a, b] :: zipD as bs
  | _, _ => []
def enuD : Nat → List D → List D
  | n, a :: as => .tup [.int (n : Int), a] :: enuD (n + 1) as
  | _, [] => []
def iZ (f : En → Option (List D)) (ρ : En) : Option (List D) := match f ρ with | some [.lst as, .lst bs] => some (zipD as bs) | _ => none
def iE (f : En → Option (List D)) (ρ : En) : Option (List D) := match f ρ with | some [.lst as] => some (enuD 0 as) | _ => none
section
variable {K : PySem.W.Frag} {σ : St} {H : Hp} {R : It → Hp → Prop}
theorem walk_list {Hv1 : Hp} {a : Addr} {vs : List V} {ds : List D} (h : SqL K Hv1 a vs) (r : Dns K Hv1 vs ds) (hu : ∀ (H : Hp) xs ys, SqL K H a xs → SqL K H a ys → xs = ys) : Walk K Hv1 (Itl K a) ds := by
  intro i H Hv s1 s2
  have hH := sameL (s1.trans s2) h
  refine ⟨fun d e => ?_, fun e => ⟨vs, hH, ?_⟩⟩
  · obtain ⟨v, h1, h2⟩ := r.get e
    refine ⟨⟨vs, v, hH, h1⟩, fun x H' y => ?_⟩
    obtain ⟨e1, e2⟩ := y
    subst e1
    have := e2 vs hH
    rw [h1] at this
    cases this
    exact ⟨Hv, .refl s2, h2.mono s1⟩
  · rw [r.length]; exact List.getElem?_eq_none_iff.mp e
theorem walk_list' {Hv1 : Hp} {a : Addr} {vs : List V} {ds : List D} (h : SqL K Hv1 a vs) (r : Dns K Hv1 vs ds) : Walk K Hv1 (Itl K a) ds := by
  intro i H Hv s1 s2
  have hH := sameL (s1.trans s2) h
  refine ⟨fun d e => ?_, fun e => ⟨vs, hH, ?_⟩⟩
  · obtain ⟨v, h1, h2⟩ := r.get e
    refine ⟨⟨vs, v, hH, h1⟩, fun x H' y => ?_⟩
    obtain ⟨e1, e2⟩ := y
    subst e1
    have := e2 vs hH
    rw [h1] at this
    cases this
    exact ⟨Hv, .refl s2, h2.mono s1⟩
  · rw [r.length]; exact List.getElem?_eq_none_iff.mp e
theorem walk_tup {Hv1 : Hp} {a : Addr} {vs : List V} {ds : List D} (h : SqT K Hv1 a vs) (r : Dns K Hv1 vs ds) : Walk K Hv1 (Itt K a) ds := by
  intro i H Hv s1 s2
  have hH := sameT (s1.trans s2) h
  refine ⟨fun d e => ?_, fun e => ⟨vs, hH, ?_⟩⟩
  · obtain ⟨v, h1, h2⟩ := r.get e
    refine ⟨⟨vs, v, hH, h1⟩, fun x H' y => ?_⟩
    obtain ⟨e1, e2⟩ := y
    subst e1
    have := e2 vs hH
    rw [h1] at this
    cases this
    exact ⟨Hv, .refl s2, h2.mono s1⟩
  · rw [r.length]; exact List.getElem?_eq_none_iff.mp e
theorem rngD_get {lo : Int} {n i : Nat} : (rngD lo n)[i]? = if i < n then some (D.int (lo + (i : Int))) else none := by
  unfold rngD
  rw [List.getElem?_map]
  by_cases h : i < n
  · rw [List.getElem?_range h, if_pos h]; rfl
  · rw [List.getElem?_eq_none (by simpa using h), if_neg h]; rfl
theorem walk_rng {Hv1 : Hp} (lo : Int) (n : Nat) : Walk K Hv1 (Itr lo n) (rngD lo n) := by
  intro i H Hv s1 s2
  rw [rngD_get]
  by_cases h : i < n
  · rw [if_pos h]
    refine ⟨fun d e => ⟨h, fun x H' y => ?_⟩, fun e => nomatch e⟩
    cases e
    obtain ⟨e1, e2⟩ := y
    subst e1 e2
    exact ⟨Hv, .refl s2, .int _⟩
  · rw [if_neg h]
    exact ⟨fun d e => (nomatch e), fun _ => Nat.le_of_not_lt h⟩
theorem walk_rngC {Hv1 : Hp} (lo : Int) (n : Nat) : Walk K Hv1 (Itc lo (-1) n) ((List.range n).map fun (m : Nat) => D.int (lo - (m : Int))) := by
  intro i H Hv s1 s2
  rw [List.getElem?_map]
  by_cases h : i < n
  · rw [List.getElem?_range h]
    refine ⟨fun d e => ⟨h, fun x H' y => ?_⟩, fun e => nomatch e⟩
    cases e
    obtain ⟨e1, e2⟩ := y
    subst e1 e2
    have : lo + (i : Int) * (-1) = lo - (i : Int) := by omega
    rw [this]
    exact ⟨Hv, .refl s2, .int _⟩
  · rw [List.getElem?_eq_none (by simpa using h)]
    exact ⟨fun d e => (nomatch e), fun _ => Nat.le_of_not_lt h⟩
theorem zipD_get : ∀ {as bs : List D} {i : Nat}, (zipD as bs)[i]? = match as[i]?, bs[i]? with | some a, some b => some (.tup [a, b]) | _, _ => none
  | [], _, i => by simp [zipD]
  | _ :: _, [], i => by simp [zipD]
  | a :: as, b :: bs, 0 => by simp [zipD]
  | a :: as, b :: bs, i + 1 => by simpa [zipD] using zipD_get (as := as) (bs := bs) (i := i)
theorem enuD_get : ∀ {as : List D} {n i : Nat}, (enuD n as)[i]? = (as[i]?).map fun a => .tup [.int ((n + i : Nat) : Int), a]
  | [], n, i => by simp [enuD]
  | a :: as, n, 0 => by simp [enuD]
  | a :: as, n, i + 1 => by
    have := enuD_get (as := as) (n := n + 1) (i := i)
    simp only [enuD, List.getElem?_cons_succ]
    rw [this]
    have e : n + 1 + i = n + (i + 1) := by omega
    rw [e]
theorem walk_zip {Hv1 : Hp} {a b : Addr} {vs ws : List V} {ds es : List D} (h : SqL K Hv1 a vs) (r : Dns K Hv1 vs ds) (h' : SqL K Hv1 b ws) (r' : Dns K Hv1 ws es) : Walk K Hv1 (Itz K a b) (zipD ds es) := by
  intro i H Hv s1 s2
  have hH := sameL (s1.trans s2) h
  have hH' := sameL (s1.trans s2) h'
  rw [zipD_get]
  refine ⟨fun d e => ?_, fun e => ⟨vs, ws, hH, hH', ?_⟩⟩
  · cases e1 : ds[i]? with
    | none => rw [e1] at e; cases e
    | some d1 =>
      cases e2 : es[i]? with
      | none => rw [e1, e2] at e; cases e
      | some d2 =>
        rw [e1, e2] at e
        cases e
        obtain ⟨v, h1, h2⟩ := r.get e1
        obtain ⟨v', h1', h2'⟩ := r'.get e2
        refine ⟨⟨vs, ws, v, v', hH, hH', h1, h1'⟩, fun x H' y => ?_⟩
        obtain ⟨T, x1, x2, rfl, nT, rfl, q1, q2⟩ := y
        have z1 := q1 vs hH
        have z2 := q2 ws hH'
        rw [h1] at z1
        rw [h1'] at z2
        cases z1; cases z2
        have st := Stp.new (o := .tup [v, v']) s2 nT
        exact ⟨_, st, .tup (.of upd_same) (.cons (h2.mono (s1.trans st.b)) (.cons (h2'.mono (s1.trans st.b)) .nil))⟩
  · cases e1 : ds[i]? with
    | none => left; rw [r.length]; exact List.getElem?_eq_none_iff.mp e1
    | some d1 =>
      cases e2 : es[i]? with
      | none => right; rw [r'.length]; exact List.getElem?_eq_none_iff.mp e2
      | some d2 => rw [e1, e2] at e; cases e
theorem walk_enu {Hv1 : Hp} {a : Addr} {vs : List V} {ds : List D} (h : SqL K Hv1 a vs) (r : Dns K Hv1 vs ds) : Walk K Hv1 (Ite K a) (enuD 0 ds) := by
  intro i H Hv s1 s2
  have hH := sameL (s1.trans s2) h
  rw [enuD_get]
  refine ⟨fun d e => ?_, fun e => ⟨vs, hH, ?_⟩⟩
  · cases e1 : ds[i]? with
    | none => rw [e1] at e; cases e
    | some d1 =>
      rw [e1] at e
      cases e
      obtain ⟨v, h1, h2⟩ := r.get e1
      refine ⟨⟨vs, v, hH, h1⟩, fun x H' y => ?_⟩
      obtain ⟨T, x1, rfl, nT, rfl, q1⟩ := y
      have z1 := q1 vs hH
      rw [h1] at z1
      cases z1
      have st := Stp.new (o := .tup [.int (i : Int), v]) s2 nT
      refine ⟨_, st, .tup (.of upd_same) (.cons ?_ (.cons (h2.mono (s1.trans st.b)) .nil))⟩
      rw [Nat.zero_add]
      exact .int _
  · cases e1 : ds[i]? with
    | none => rw [r.length]; exact List.getElem?_eq_none_iff.mp e1
    | some d1 => rw [e1] at e; cases e
theorem ri_list {f : En → Option D} (h : rdI K (iL f) σ H R) : iList K (rdE K f) σ H R := by
  obtain ⟨Hv, ρ, ds, e, en, f', k⟩ := h
  unfold iL at f'
  split at f'
  · rename_i l e1
    cases f'
    refine ⟨Hv, ρ, _, e, en, e1, fun v H' Hv' s q => ?_⟩
    cases q with
    | lst hs r => exact ⟨_, rfl, ⟨_, sameL s.c hs⟩, k _ H' Hv' s (walk_list' hs r)⟩
  · cases f'
theorem ri_tup {f : En → Option D} (h : rdI K (iT f) σ H R) : iTup K (rdE K f) σ H R := by
  obtain ⟨Hv, ρ, ds, e, en, f', k⟩ := h
  unfold iT at f'
  split at f'
  · rename_i l e1
    cases f'
    refine ⟨Hv, ρ, _, e, en, e1, fun v H' Hv' s q => ?_⟩
    cases q with
    | tup hs r => exact ⟨_, rfl, ⟨_, sameT s.c hs⟩, k _ H' Hv' s (walk_tup hs r)⟩
  · cases f'
theorem small_of {j : Int} (h : small62 j = true) : -(2 ^ 62) ≤ j ∧ j < 2 ^ 62 := by
  unfold small62 at h
  rw [Bool.and_eq_true] at h
  exact ⟨of_decide_eq_true h.1, of_decide_eq_true h.2⟩
theorem ri_r1 {f : En → Option (List D)} (h : rdI K (iR1 f) σ H R) : iRng1 (rdA K f) σ H R := by
  obtain ⟨Hv, ρ, ds, e, en, f', k⟩ := h
  unfold iR1 at f'
  split at f'
  · rename_i j e1
    split at f'
    · rename_i c
      cases f'
      obtain ⟨c1, c2⟩ := small_of c
      refine ⟨Hv, ρ, _, e, en, e1, fun v H' Hv' s q => ?_⟩
      cases q with
      | cons q r =>
        cases r; cases q
        exact ⟨j, rfl, c1, c2, k _ H' Hv' s (walk_rng 0 j.toNat)⟩
    · cases f'
  · cases f'
theorem ri_r2 {f : En → Option (List D)} (h : rdI K (iR2 f) σ H R) : iRng2 (rdA K f) σ H R := by
  obtain ⟨Hv, ρ, ds, e, en, f', k⟩ := h
  unfold iR2 at f'
  split at f'
  · rename_i i j e1
    split at f'
    · rename_i c
      cases f'
      rw [Bool.and_eq_true] at c
      obtain ⟨c1, c2⟩ := small_of c.1
      obtain ⟨c3, c4⟩ := small_of c.2
      refine ⟨Hv, ρ, _, e, en, e1, fun v H' Hv' s q => ?_⟩
      cases q with
      | cons q r =>
        cases r with
        | cons q2 r =>
          cases r; cases q; cases q2
          exact ⟨i, j, rfl, ⟨c1, c2, c3, c4⟩, k _ H' Hv' s (walk_rng i (j - i).toNat)⟩
    · cases f'
  · cases f'
theorem ri_r3 {f : En → Option (List D)} (h : rdI K (iR3 f) σ H R) : iRng3 (rdA K f) σ H R := by
  obtain ⟨Hv, ρ, ds, e, en, f', k⟩ := h
  unfold iR3 at f'
  split at f'
  · rename_i i j e1
    split at f'
    · rename_i c
      cases f'
      rw [Bool.and_eq_true] at c
      obtain ⟨c1, c2⟩ := small_of c.1
      obtain ⟨c3, c4⟩ := small_of c.2
      refine ⟨Hv, ρ, _, e, en, e1, fun v H' Hv' s q => ?_⟩
      cases q with
      | cons q r =>
        cases r with
        | cons q2 r =>
          cases r with
          | cons q3 r =>
            cases r; cases q; cases q2; cases q3
            exact ⟨i, j, -1, _, rfl, RgC.neg c1 c2 c3 c4, k _ H' Hv' s (walk_rngC i (i - j).toNat)⟩
    · cases f'
  · cases f'
theorem ri_zip {f : En → Option (List D)} (h : rdI K (iZ f) σ H R) : iZip K (rdA K f) σ H R := by
  obtain ⟨Hv, ρ, ds, e, en, f', k⟩ := h
  unfold iZ at f'
  split at f'
  · rename_i as bs e1
    cases f'
    refine ⟨Hv, ρ, _, e, en, e1, fun v H' Hv' s q => ?_⟩
    cases q with
    | cons q r =>
      cases r with
      | cons q2 r =>
        cases r
        cases q with
        | lst h1 r1 =>
          cases q2 with
          | lst h2 r2 => exact ⟨_, _, _, _, rfl, sameL s.c h1, sameL s.c h2, k _ H' Hv' s (walk_zip h1 r1 h2 r2)⟩
  · cases f'
theorem ri_enu {f : En → Option (List D)} (h : rdI K (iE f) σ H R) : iEnum K (rdA K f) σ H R := by
  obtain ⟨Hv, ρ, ds, e, en, f', k⟩ := h
  unfold iE at f'
  split at f'
  · rename_i as e1
    cases f'
    refine ⟨Hv, ρ, _, e, en, e1, fun v H' Hv' s q => ?_⟩
    cases q with
    | cons q r =>
      cases r
      cases q with
      | lst h1 r1 => exact ⟨_, _, rfl, sameL s.c h1, k _ H' Hv' s (walk_enu h1 r1)⟩
  · cases f'
end

/-! ### loops -/
def loopD (t : Tgt) (body : En → Option Out) : List D → En → Option Out
  | [], ρ => some (.nx ρ)
  | d :: ds, ρ => (stD t d ρ).bind fun ρ1 => (body ρ1).bind fun o => match o with
    | .nx ρ' => loopD t body ds ρ'
    | .ct ρ' => loopD t body ds ρ'
    | .bk ρ' => some (.nx ρ')
    | o => some o
def sFor (O : List Nat) (src : En → Option (List D)) (t : Tgt) (body : En → Option Out) (ρ : En) : Option Out := (src (mask O ρ)).bind fun ds => loopD t body ds ρ
def whileD (c : En → Option Bool) (body : En → Option Out) : Nat → En → Option Out
  | 0, _ => none
  | n + 1, ρ => (c ρ).bind fun b => if b then (body ρ).bind fun o => match o with
    | .nx ρ' => whileD c body n ρ'
    | .ct ρ' => whileD c body n ρ'
    | .bk ρ' => some (.nx ρ')
    | o => some o
    else some (.nx ρ)
def sWhile (fuel : En → Nat) (c : En → Option Bool) (body : En → Option Out) (ρ : En) : Option Out := whileD c body (fuel ρ) ρ
section
variable {K : PySem.W.Frag} {O : List Nat} {σ : St} {H : Hp} {D' : Ends}
theorem rs_for {src : En → Option (List D)} {t : Tgt} {body : En → Option Out} (ho : ∀ i ∈ t.slots, i ∉ O) (h : rdS K O (sFor O src t body) D' σ H) : tFor (rdI K src) (gTg K t) (rdS K O body) D' σ H := by
  obtain ⟨H0, Hv0, Hb, Hv, ρ, o, k, f, p⟩ := h
  obtain ⟨ds, h1, f⟩ := bind_some2 f
  refine ⟨Hv, mask O ρ, ds, k.vin, k.msk, h1, fun J H1 Hv1 s1 W1 => ?_⟩
  have k1 := k.step s1
  refine ⟨fun i m σ H => m = ds.length - i ∧ i ≤ ds.length ∧ ∃ Hv ρ, Ok K O H0 Hv0 Hb σ ρ H Hv ∧ Same Hv1 Hv ∧ loopD t body (ds.drop i) ρ = some o, ⟨_, rfl, Nat.zero_le _, Hv1, ρ, k1, .refl _, f⟩, ?_⟩
  rintro i m σ2 H2 ⟨rfl, hi, Hv2, ρ2, k2, s2, f2⟩
  obtain ⟨w1, w2⟩ := W1 i H2 Hv2 s2 k2.vin
  by_cases hlt : i < ds.length
  · right
    have e : ds[i]? = some ds[i] := List.getElem?_eq_getElem hlt
    obtain ⟨g1, g2⟩ := w1 _ e
    refine ⟨g1, fun σ' H' => ∃ Hv ρ, Ok K O H0 Hv0 Hb σ' ρ H' Hv ∧ Same Hv1 Hv ∧ loopD t body (ds.drop (i + 1)) ρ = some o, fun σ' H' ⟨Hv', ρ', a, b, c⟩ => ⟨_, by omega, rfl, hlt, Hv', ρ', a, b, c⟩, fun x H3 y => ?_⟩
    obtain ⟨Hv3, s3, q3⟩ := g2 x H3 y
    rw [List.drop_eq_getElem_cons hlt] at f2
    unfold loopD at f2
    obtain ⟨ρ3, st3, f2⟩ := bind_some2 f2
    obtain ⟨o3, b3, f2⟩ := bind_some2 f2
    refine gTg_Ok (k2.step s3) ho q3 st3 fun σ4 k4 => ?_
    refine ⟨H0, Hv0, Hv3, Hv3, ρ3, o3, k4.base, b3, ?_⟩
    have rb : ∀ {σ ρ H Hv}, Ok K O H0 Hv0 Hv3 σ ρ H Hv → Ok K O H0 Hv0 Hb σ ρ H Hv ∧ Same Hv1 Hv := fun q => ⟨q.rebase k4.vb, (s2.trans s3.b).trans q.vb⟩
    cases o3 with
    | nx ρ' => exact fun σ5 H5 Hv5 k5 => ⟨Hv5, ρ', (rb k5).1, (rb k5).2, f2⟩
    | ct ρ' => exact fun σ5 H5 Hv5 k5 => ⟨Hv5, ρ', (rb k5).1, (rb k5).2, f2⟩
    | bk ρ' =>
      cases f2
      exact fun σ5 H5 Hv5 k5 => p σ5 H5 Hv5 (rb k5).1
    | rt d =>
      cases f2
      exact p
    | rf d =>
      cases f2
      exact p
  · left
    have e : i = ds.length := by omega
    subst e
    refine ⟨w2 (by simp), ?_⟩
    simp only [List.drop_length, loopD, Option.some.injEq] at f2
    subst f2
    exact p σ2 H2 Hv2 k2
theorem rs_while {fuel : En → Nat} {c : En → Option Bool} {body : En → Option Out} (h : rdS K O (sWhile fuel c body) D' σ H) : tWhile (rdT K c) (rdS K O body) D' σ H := by
  obtain ⟨H0, Hv0, Hb, Hv, ρ, o, k, f, p⟩ := h
  refine ⟨fun m σ H => ∃ Hv ρ, Ok K O H0 Hv0 Hb σ ρ H Hv ∧ whileD c body m ρ = some o, ⟨_, Hv, ρ, k, f⟩, ?_⟩
  rintro m σ2 H2 ⟨Hv2, ρ2, k2, f2⟩
  cases m with
  | zero => cases f2
  | succ m =>
    unfold whileD at f2
    obtain ⟨b, h1, f2⟩ := bind_some2 f2
    refine ⟨H2, ρ2, b, .refl _, k2.full, h1, fun H' Hv' s => ?_⟩
    have k3 := k2.grow s.a
    cases b with
    | false =>
      simp only [Bool.false_eq_true, if_false, Option.some.injEq] at f2
      subst f2
      exact p σ2 H' Hv2 k3
    | true =>
      simp only [if_true] at f2
      obtain ⟨o3, b3, f2⟩ := bind_some2 f2
      refine ⟨fun σ' H' => ∃ Hv ρ, Ok K O H0 Hv0 Hb σ' ρ H' Hv ∧ whileD c body m ρ = some o, fun σ' H' q => ⟨m, Nat.lt_succ_self m, q⟩, ?_⟩
      refine ⟨H0, Hv0, Hb, Hv2, ρ2, o3, k3, b3, ?_⟩
      cases o3 with
      | nx ρ' => exact fun σ5 H5 Hv5 k5 => ⟨Hv5, ρ', k5, f2⟩
      | ct ρ' => exact fun σ5 H5 Hv5 k5 => ⟨Hv5, ρ', k5, f2⟩
      | bk ρ' => cases f2; exact p
      | rt d => cases f2; exact p
      | rf d => cases f2; exact p
end

/-! ### comprehensions -/
def compD (t : Tgt) (test : En → Option Bool) (elt : En → Option D) (ρ : En) : List D → Option (List D)
  | [] => some []
  | d :: ds => (stD t d ρ).bind fun ρ1 => (test ρ1).bind fun b => if b then (elt ρ1).bind fun x => (compD t test elt ρ ds).map (x :: ·) else compD t test elt ρ ds
def eComp (own : List Nat) (src : En → Option (List D)) (t : Tgt) (test : En → Option Bool) (elt : En → Option D) (ρ : En) : Option (List D) := (src ρ).bind fun ds => if okLen ds.length then compD t test elt (mask own ρ) ds else none
def tTrue (_ : En) : Option Bool := some true
theorem rd_true {K : PySem.W.Frag} {σ : St} {H : Hp} {Q : Bool → Hp → Prop} (h : rdT K tTrue σ H Q) : tYes σ H Q := by
  obtain ⟨Hv, ρ, b, e, en, f, k⟩ := h
  cases f
  exact k H Hv (.refl e)
theorem wipe_ok {K : PySem.W.Frag} {Hv : Hp} {σ : St} {ρ : En} (k : EOk K Hv σ ρ) (vs : List Nat) : EOk K Hv (wipe σ vs) (mask vs ρ) := ⟨by rw [wipe_length, mask_length]; exact k.len, fun i d e => by
  obtain ⟨h1, h2⟩ := mask_some e
  rw [wipe_out h2]
  exact k.at_ i d h1⟩
theorem wipe_in {σ : St} {i : Nat} : ∀ {vs : List Nat}, i ∈ vs → i < σ.length → (wipe σ vs)[i]? = some none
  | v :: vs, h, hl => by
    unfold wipe
    by_cases e : v = i
    · subst e
      rw [List.getElem?_set_self (by rw [wipe_length]; exact hl)]
    · rw [List.getElem?_set_ne e]
      refine wipe_in ?_ hl
      rcases List.mem_cons.mp h with z | z
      · exact absurd z.symm e
      · exact z
theorem wipe_same {σ σ2 : St} {vs : List Nat} (l : σ2.length = (wipe σ vs).length) (h : ∀ k, k ∉ vs → σ2[k]? = (wipe σ vs)[k]?) : wipe σ2 vs = wipe σ vs := by
  apply List.ext_getElem?
  intro i
  by_cases hi : i ∈ vs
  · by_cases hl : i < σ.length
    · rw [wipe_in hi hl, wipe_in hi (by rw [l, wipe_length]; exact hl)]
    · rw [List.getElem?_eq_none (by rw [wipe_length, l, wipe_length]; omega), List.getElem?_eq_none (by rw [wipe_length]; omega)]
  · rw [wipe_out hi]
    exact h i hi
theorem rd_comp {K : PySem.W.Frag} {own : List Nat} {src : En → Option (List D)} {t : Tgt} {test : En → Option Bool} {elt : En → Option D} (ho : ∀ i ∈ t.slots, i ∈ own) {σ : St} {H : Hp} {Q : VK} (h : rdF K (eComp own src t test elt) σ H Q) :
    tLc (rdI K src) (gTg K t) (rdT K test) (rdE K elt) own σ H Q := by
  obtain ⟨Hv, ρ, res, e, en, f, k⟩ := h
  obtain ⟨ds, h1, f⟩ := bind_some2 f
  split at f
  case isFalse => cases f
  rename_i cl
  refine ⟨Hv, ρ, ds, e, en, h1, fun J H1 Hv1 s1 W1 => ?_⟩
  intro a ha
  have nv1 : Hv1 a = none := s1.c.free ha
  refine ⟨fun i m H => m = ds.length - i ∧ i ≤ ds.length ∧ ∃ Hv vs acc rest, Stp H1 Hv1 H Hv ∧ Hv a = none ∧ H a = some (.lst vs) ∧ Dns K Hv vs acc ∧ compD t test elt (mask own ρ) (ds.drop i) = some rest ∧ acc ++ rest = res ∧ acc.length ≤ i,
    ⟨_, rfl, Nat.zero_le _, Hv1, [], [], res, Stp.newH s1.c ha, nv1, upd_same, .nil, f, rfl, Nat.le_refl _⟩, ?_⟩
  rintro i m H2 ⟨rfl, hi, Hv2, vs, acc, rest, s2, n2, l2, r2, c2, e2, len2⟩
  obtain ⟨w1, w2⟩ := W1 i H2 Hv2 s2.b s2.c
  by_cases hlt : i < ds.length
  · right
    have eg : ds[i]? = some ds[i] := List.getElem?_eq_getElem hlt
    obtain ⟨g1, g2⟩ := w1 _ eg
    refine ⟨g1, fun H => ∃ Hv vs acc rest, Stp H1 Hv1 H Hv ∧ Hv a = none ∧ H a = some (.lst vs) ∧ Dns K Hv vs acc ∧ compD t test elt (mask own ρ) (ds.drop (i + 1)) = some rest ∧ acc ++ rest = res ∧ acc.length ≤ i + 1,
      fun H' q => ⟨_, by omega, rfl, hlt, q⟩, fun x H3 y => ?_⟩
    obtain ⟨Hv3, s3, q3⟩ := g2 x H3 y
    rw [List.drop_eq_getElem_cons hlt] at c2
    unfold compD at c2
    obtain ⟨ρ3, st3, c2⟩ := bind_some2 c2
    obtain ⟨b, t3, c2⟩ := bind_some2 c2
    have en3 : EOk K Hv3 (wipe σ own) (mask own ρ) := wipe_ok (((en.mono s1.b).mono s2.b).mono s3.b) own
    refine gTg_ok en3 s3.c q3 st3 fun σ4 en4 a4 l4 => ⟨wipe_same l4 fun j hj => a4 j fun z => hj (ho j z), ?_⟩
    refine ⟨Hv3, ρ3, b, s3.c, en4, t3, fun H5 Hv5 s5 => ?_⟩
    cases b with
    | false =>
      show ∃ Hv vs acc rest, _
      exact ⟨Hv5, vs, acc, rest, (s2.trans s3).trans s5, (s3.trans s5).h a _ rfl l2 n2, s5.a _ _ (s3.a _ _ l2), (r2.mono s3.b).mono s5.b, c2, e2, Nat.le_succ_of_le len2⟩
    | true =>
      simp only [if_true] at c2
      obtain ⟨x3, x4, c2⟩ := bind_some2 c2
      cases c3 : compD t test elt (mask own ρ) (ds.drop (i + 1)) with
      | none => rw [c3] at c2; cases c2
      | some rest' =>
        rw [c3] at c2
        cases c2
        refine ⟨Hv5, ρ3, x3, s5.c, en4.mono s5.b, x4, fun y5 H6 Hv6 s6 q6 => ?_⟩
        have s36 := (s3.trans s5).trans s6
        have la := s36.a _ _ l2
        have na := s36.h a _ rfl l2 n2
        refine ⟨vs, la, by rw [r2.length]; exact Nat.lt_of_le_of_lt (Nat.le_trans len2 hi) (okLen_lt cl), ?_⟩
        have st := s2.trans s36
        refine ⟨Hv6, vs ++ [y5], acc ++ [x3], rest', ⟨sameMut st.a ha, st.b, sameMut st.c na, st.h⟩, na, upd_same, (r2.mono s36.b).append (.cons q6 .nil), rfl, by rw [List.append_assoc]; exact e2, by simp; exact len2⟩
  · left
    have ei : i = ds.length := by omega
    subst ei
    refine ⟨w2 (by simp), ?_⟩
    simp only [List.drop_length, compD, Option.some.injEq] at c2
    subst c2
    rw [List.append_nil] at e2
    subst e2
    exact k a vs H2 Hv2 (s1.trans s2) (s1.a.free ha) n2 l2 r2
section
variable {X : Cx} {pos : Pos}
theorem id_list {tg l : Expr} {f : En → Option D} (hl : PE X l (rdE X.K f)) : PI X tg l (rdI X.K (iL f)) := pi_imp (pi_list hl) fun _ _ _ => ri_list
theorem id_tup {tg l : Expr} {f : En → Option D} (hl : PE X l (rdE X.K f)) : PI X tg l (rdI X.K (iT f)) := pi_imp (pi_tup hl) fun _ _ _ => ri_tup
theorem id_r1 {tg a : Expr} {f : En → Option (List D)} {p : Pos} (hg : Gl X "range") (hm : X.mg "range" = none) (ha : PA X [a] (rdA X.K f)) (hs : starEach [a] X.env = [(false, eval a X.env)] := by rfl) : PI X tg (.Call (.Name "range" p) [a] [] pos) (rdI X.K (iR1 f)) := pi_imp (pi_range1 hg hm ha hs) fun _ _ _ => ri_r1
theorem id_r2 {tg a b : Expr} {f : En → Option (List D)} {p : Pos} (hg : Gl X "range") (hm : X.mg "range" = none) (ha : PA X [a, b] (rdA X.K f)) (hs : starEach [a, b] X.env = [(false, eval a X.env), (false, eval b X.env)] := by rfl) (hs2 : starEach [b] X.env = [(false, eval b X.env)] := by rfl) :
    PI X tg (.Call (.Name "range" p) [a, b] [] pos) (rdI X.K (iR2 f)) := pi_imp (pi_range2 hg hm ha hs hs2) fun _ _ _ => ri_r2
theorem id_zip {e e2 : Expr} {f : En → Option (List D)} {p tpos : Pos} {elts : List Expr} {kk : Nat} (hg : Gl X "zip") (hm : X.mg "zip" = none) (ha : PA X [e, e2] (rdA X.K f))
    (hs : starEach [e, e2] X.env = (false, eval e X.env) :: starEach [e2] X.env := by rfl) (hpl : (backTo pos (starEach [e2] X.env)).any (·.1) = false := by rfl) :
    PI X (.Tuple elts kk tpos) (.Call (.Name "zip" p) [e, e2] [] pos) (rdI X.K (iZ f)) := pi_imp (pi_zip hg hm ha hs hpl) fun _ _ _ => ri_zip
theorem id_enu {e : Expr} {f : En → Option (List D)} {p tpos : Pos} {elts : List Expr} {kk : Nat} (hg : Gl X "enumerate") (hm : X.mg "enumerate" = none) (ha : PA X [e] (rdA X.K f)) (hs : starEach [e] X.env = [(false, eval e X.env)] := by rfl) :
    PI X (.Tuple elts kk tpos) (.Call (.Name "enumerate" p) [e] [] pos) (rdI X.K (iE f)) := pi_imp (pi_enum hg hm ha hs) fun _ _ _ => ri_enu
theorem sd_for {O : List Nat} {tg iter : Expr} {body : List Stmt} {src : En → Option (List D)} {t : Tgt} {F : En → Option Out} (hp : PassesOwn (model X.prog X.w) X.A X.env X.xe) (hc : X.calm = true) (ho : ∀ i ∈ t.slots, i ∉ O) (hi : PI X tg iter (rdI X.K src)) (hg : PG X tg (gTg X.K t)) (hb : PSs X body (rdS X.K O F))
    (hs : ∀ x, foldedSetIterable iter X.env x = pure x := by intro _; rfl) : PS X (.For tg iter body [] pos) (rdS X.K O (sFor O src t F)) := ps_imp (ps_for hp hc hi hg hb hs) fun _ _ _ => rs_for ho
theorem sd_while {O : List Nat} (fuel : En → Nat) {c : Expr} {body : List Stmt} {t : En → Option Bool} {F : En → Option Out} (hp : PassesOwn (model X.prog X.w) X.A X.env X.xe) (hc : PT X c (rdT X.K t)) (hb : PSs X body (rdS X.K O F)) : PS X (.While c body [] pos) (rdS X.K O (sWhile fuel t F)) :=
  ps_imp (ps_while hp hc hb) fun _ _ _ => rs_while
theorem ts_nil : PTs X [] (rdT X.K tTrue) := ⟨fun pins s σ H Q I w => pts_nil.run pins s σ H Q I (rd_true w)⟩
theorem ts_one {c : Expr} {t : En → Option Bool} (h : PT X c (rdT X.K t)) : PTs X [c] (rdT X.K t) := pts_one h
theorem pf_comp {elt tg iter : Expr} {ifs : List Expr} {scope : Scope} {own : List (Str × Nat)} {src : En → Option (List D)} {t : Tgt} {test : En → Option Bool} {fe : En → Option D} (hc : X.calm = true) (hN : X.N.Nodup) (ho : ∀ i ∈ t.slots, i ∈ own.map (·.2)) (hi : PI X tg iter (rdI X.K src)) (ok : BlkOk X.N X.env.scope scope own)
    (hg : ∀ (s : Shared) (H : Hp) (C : Addr) (cl : List (Str × Addr)) (fp : List Addr), PG (X.blk s H scope (compEnvC scope cl C X.env) fp) tg (gTg X.K t)) (ht : ∀ (s : Shared) (H : Hp) (C : Addr) (cl : List (Str × Addr)) (fp : List Addr), PTs (X.blk s H scope (compEnvC scope cl C X.env) fp) ifs (rdT X.K test))
    (he : ∀ (s : Shared) (H : Hp) (C : Addr) (cl : List (Str × Addr)) (fp : List Addr), PE (X.blk s H scope (compEnvC scope cl C X.env) fp) elt (rdE X.K fe)) (hs : ∀ x, foldedSetIterable iter X.env x = pure x := by intro _; rfl) :
    PE X (.ListComp elt [⟨tg, iter, ifs, 0⟩] scope pos) (rdF X.K (eComp (own.map (·.2)) src t test fe)) := pe_imp (pe_lc hc hN hi ok hg ht he hs) fun _ _ _ => rd_comp ho
end

/-! ### defs -/
def startD (n : Nat) (ds : List D) : En := ds.map some ++ List.replicate (n - ds.length) none
/-- the promise: plain data back | a new list back -/
def spD (K : PySem.W.Frag) (f : List D → Option D) : Sp := fun vs H Q _ => ∃ (Hv : Hp) (ds : List D) (d : D), Same Hv H ∧ Dns K Hv vs ds ∧ f ds = some d ∧ ∀ v H', Rt K H Hv v H' d → Q v H'
def spF (K : PySem.W.Frag) (f : List D → Option (List D)) : Sp := fun vs H Q _ => ∃ (Hv : Hp) (ds es : List D), Same Hv H ∧ Dns K Hv vs ds ∧ f ds = some es ∧ ∀ v H', RtF K H Hv v H' es → Q v H'
def outD : Option Out → Option D
  | some (.nx _) => some .non
  | some (.rt d) => some d
  | some (.rf ds) => some (.lst ds)
  | _ => none
def outF : Option Out → Option (List D)
  | some (.rf ds) => some ds
  | _ => none
theorem start_ok {K : PySem.W.Frag} {Hv : Hp} {N : List Str} {vs : List V} {ds : List D} (r : Dns K Hv vs ds) (hl : vs.length ≤ N.length) : EOk K Hv (L2.start N vs) (startD N.length ds) := by
  have l := r.length
  refine ⟨by simp [L2.start, startD, l], fun i d e => ?_⟩
  unfold startD at e
  unfold L2.start
  by_cases h : i < ds.length
  · rw [List.getElem?_append_left (by simpa using h), List.getElem?_map] at e
    rw [List.getElem?_append_left (by simpa [l] using h), List.getElem?_map]
    cases e1 : ds[i]? with
    | none => rw [e1] at e; cases e
    | some d' =>
      rw [e1] at e
      cases e
      obtain ⟨v, h1, h2⟩ := r.get e1
      exact ⟨v, by rw [h1]; rfl, h2⟩
  · rw [List.getElem?_append_right (by simpa using h), List.getElem?_replicate] at e
    split at e
    · cases e
    · cases e
theorem Ok.start {K : PySem.W.Frag} {O : List Nat} {H Hv : Hp} {N : List Str} {vs : List V} {ds : List D} (s : Same Hv H) (r : Dns K Hv vs ds) (hl : vs.length ≤ N.length) (ho : ∀ i ∈ O, ds.length ≤ i) : Ok K O H Hv Hv (L2.start N vs) (startD N.length ds) H Hv := by
  have k := start_ok r hl
  have no : ∀ (i : Nat) (d : D), i ∈ O → (startD N.length ds)[i]? ≠ some (some d) := fun i d hi e => by
    have := ho i hi
    unfold startD at e
    rw [List.getElem?_append_right (by simpa using this), List.getElem?_replicate] at e
    split at e <;> cases e
  exact ⟨k.len, .refl _, .refl _, .refl _, s, fun _ _ _ _ n => n, fun i d _ e => k.at_ i d e, fun i d hi e => absurd e (no i d hi), fun i j d d' p hi hj e => absurd e (no i d hi)⟩
/-- a def with m parameters, n slots, the body F -/
def fnOut (m n : Nat) (F : En → Option Out) (ds : List D) : Option D := if ds.length = m then outD (F (startD n ds)) else none
def fnOutF (m n : Nat) (F : En → Option Out) (ds : List D) : Option (List D) := if ds.length = m then outF (F (startD n ds)) else none
section
variable {P : Program} {w : World} {K : PySem.W.Frag} {mg : Str → Option Value} {base : Heap}
theorem fnD {x qual : Str} {st : Stmt} {f : Addr} {fd : FuncData} {N ps : List Str} {k : Nat} {O : List Nat} {F : En → Option Out} {m n : Nat} (G : Fun K x qual st f fd) (S : FnScope N ps (defScope st)) (hm : ps.length = m) (hn : N.length = n) (hps : m ≤ n) (ho : ∀ i ∈ O, m ≤ i)
    (hb : ∀ (cdv : Value) (A : Around) (outer : List Env) (s : Shared) (H : Hp) (E : XK), Room k (A.deeper (PyProof.Rows.envOfC qual (defScope st) s.heap.objs.size f cdv)) → PSs (cxOf CX0 P w K mg base N qual (defScope st) f cdv A outer s H E).nox (defBody st) (rdS K O F)) :
    FnOk P w K mg base CX0 (k + 1) f fd ps (spD K (fnOut m n F)) := by
  subst hm hn
  refine G.ok S (fun vs H Q E h => ?_) (fun cdv A outer s H vs Q E hr h => ?_)
  · obtain ⟨Hv, ds, d, sm, r, e, _⟩ := h
    simp only [fnOut, fnOutF] at e
    split at e
    · rename_i l; rw [r.length, l]
    · cases e
  · obtain ⟨Hv, ds, d, sm, r, e, q⟩ := h
    simp only [fnOut, fnOutF] at e
    split at e
    case isFalse => cases e
    rename_i l
    refine ⟨_, hb cdv A outer s H E hr, ?_⟩
    have k0 : Ok K O H Hv Hv (L2.start N vs) (startD N.length ds) H Hv := Ok.start sm r (by rw [r.length, l]; exact hps) (by rw [l]; exact ho)
    cases e1 : F (startD N.length ds) with
    | none => rw [e1] at e; cases e
    | some o =>
      rw [e1] at e
      refine ⟨H, Hv, Hv, Hv, _, o, k0, e1, ?_⟩
      cases o with
      | nx ρ => cases e; exact fun σ H' Hv' k' => q .non H' ⟨Hv', k'.stp, .non⟩
      | rt d => cases e; exact q
      | rf ds =>
        cases e
        refine fun v H' z => q v H' ?_
        obtain ⟨p, vs', Hv', rfl, st, n0, nv, hp, r'⟩ := z
        have nv0 : Hv p = none := sm.free n0
        refine ⟨upd Hv' p (.lst vs'), ⟨st.a, sameMut st.b nv0, fun a u e => ?_, fun a o m ha hn => ?_⟩, .lst (.of upd_same) (r'.mono (sameNew nv))⟩
        · by_cases ha : a = p
          · subst ha; rw [upd_same] at e; cases e; exact hp
          · rw [upd_ne ha] at e; exact st.c _ _ e
        · rw [upd_ne (ne_of_none ha n0)]; exact st.h a o m ha hn
      | bk ρ => cases e
      | ct ρ => cases e
theorem fnF {x qual : Str} {st : Stmt} {f : Addr} {fd : FuncData} {N ps : List Str} {k : Nat} {O : List Nat} {F : En → Option Out} {m n : Nat} (G : Fun K x qual st f fd) (S : FnScope N ps (defScope st)) (hm : ps.length = m) (hn : N.length = n) (hps : m ≤ n) (ho : ∀ i ∈ O, m ≤ i)
    (hb : ∀ (cdv : Value) (A : Around) (outer : List Env) (s : Shared) (H : Hp) (E : XK), Room k (A.deeper (PyProof.Rows.envOfC qual (defScope st) s.heap.objs.size f cdv)) → PSs (cxOf CX0 P w K mg base N qual (defScope st) f cdv A outer s H E).nox (defBody st) (rdS K O F)) :
    FnOk P w K mg base CX0 (k + 1) f fd ps (spF K (fnOutF m n F)) := by
  subst hm hn
  refine G.ok S (fun vs H Q E h => ?_) (fun cdv A outer s H vs Q E hr h => ?_)
  · obtain ⟨Hv, ds, d, sm, r, e, _⟩ := h
    simp only [fnOut, fnOutF] at e
    split at e
    · rename_i l; rw [r.length, l]
    · cases e
  · obtain ⟨Hv, ds, d, sm, r, e, q⟩ := h
    simp only [fnOut, fnOutF] at e
    split at e
    case isFalse => cases e
    rename_i l
    refine ⟨_, hb cdv A outer s H E hr, ?_⟩
    have k0 : Ok K O H Hv Hv (L2.start N vs) (startD N.length ds) H Hv := Ok.start sm r (by rw [r.length, l]; exact hps) (by rw [l]; exact ho)
    cases e1 : F (startD N.length ds) with
    | none => rw [e1] at e; cases e
    | some o =>
      rw [e1] at e
      refine ⟨H, Hv, Hv, Hv, _, o, k0, e1, ?_⟩
      cases o with
      | rf ds => cases e; exact q
      | _ => cases e
end
theorem okc_sp {K : PySem.W.Frag} {E : XK} {g : List D → Option D} : OkC K (fun vs H Q => spD K g vs H Q E) g := fun H Hv vs ds d Q e r h k => ⟨Hv, ds, d, e, r, h, fun v H' ⟨Hv', s, q⟩ => k v H' Hv' s q⟩
theorem okf_sp {K : PySem.W.Frag} {E : XK} {g : List D → Option (List D)} : OkF K (fun vs H Q => spF K g vs H Q E) g := fun H Hv vs ds d Q e r h k => ⟨Hv, ds, d, e, r, h, fun v H' ⟨p, vs', Hv', e', s, n, n', hp, q⟩ => by
  subst e'
  exact k p vs' H' Hv' s n n' hp q⟩
section
variable {X : Cx} {fa : Addr} {fd : FuncData} {x : Str} {k : Nat} {ps : List Str} {p pos : Pos} {e : Expr} {es : List Expr} {f : En → Option (List D)}
theorem pd_call {g : List D → Option D} (F : FnOk X.prog X.w X.K X.mg X.base CX0 k fa fd ps (spD X.K g)) (hr : Room k X.A) (hg : Gl X x) (hm : X.mg x = some (.ref fa)) (hk : PySem.W.keepIn X.K (.ref fa) = true) (hb : Binds X.K fd ps [])
    (ha : PA X (e :: es) (rdA X.K f)) (hs : starEach (e :: es) X.env = (false, eval e X.env) :: starEach es X.env := by rfl) (hpl : (backTo pos (starEach es X.env)).any (·.1) = false := by rfl) (hd : (x == ("__debug__" : Str)) = false := by decide) : PE X (.Call (.Name x p) (e :: es) [] pos) (rdE X.K (eCB g f)) :=
  pe_imp (pe_call (E := E0) (dvs := []) F hr hg hm hk hb .nil pass0 ha (hdb := hd) (he := hs) (hpl := hpl)) fun σ H Q h => by
    have h2 : tCB (fun vs H Q => spD X.K g vs H Q E0) (rdA X.K f) σ H Q := rd_cb okc_sp h
    unfold tCB at h2
    unfold tCall
    simpa only [List.append_nil] using h2
theorem pf_call {g : List D → Option (List D)} (F : FnOk X.prog X.w X.K X.mg X.base CX0 k fa fd ps (spF X.K g)) (hr : Room k X.A) (hg : Gl X x) (hm : X.mg x = some (.ref fa)) (hk : PySem.W.keepIn X.K (.ref fa) = true) (hb : Binds X.K fd ps [])
    (ha : PA X (e :: es) (rdA X.K f)) (hs : starEach (e :: es) X.env = (false, eval e X.env) :: starEach es X.env := by rfl) (hpl : (backTo pos (starEach es X.env)).any (·.1) = false := by rfl) (hd : (x == ("__debug__" : Str)) = false := by decide) : PE X (.Call (.Name x p) (e :: es) [] pos) (rdF X.K (eCF g f)) :=
  pe_imp (pe_call (E := E0) (dvs := []) F hr hg hm hk hb .nil pass0 ha (hdb := hd) (he := hs) (hpl := hpl)) fun σ H Q h => by
    have h2 : tCB (fun vs H Q => spF X.K g vs H Q E0) (rdA X.K f) σ H Q := rd_cf okf_sp h
    unfold tCB at h2
    unfold tCall
    simpa only [List.append_nil] using h2
end
end PD
namespace PD
open PySem L2
/-- the fuel of «while x > 0» where x falls -/
def fuelI (i : Nat) (ρ : En) : Nat := match eV i ρ with | some (.int j) => j.toNat + 1 | _ => 0
end PD
namespace PD
open PySem L2
/-! ### a chain of two comparisons -/
def eChain (g g' : D → D → Option D) (f1 f2 f3 : En → Option D) (ρ : En) : Option D := (f1 ρ).bind fun a => (f2 ρ).bind fun b => (g a b).bind fun z => match z with
  | .bl true => (f3 ρ).bind fun c => g' b c
  | .bl false => some (.bl false)
  | _ => none
theorem rd_chain {K : PySem.W.Frag} {r r' : R2} {g g' : D → D → Option D} {f1 f2 f3 : En → Option D} (ok : Ok2 K r g) (ok' : Ok2 K r' g') {σ : St} {H : Hp} {Q : VK} (h : rdE K (eChain g g' f1 f2 f3) σ H Q) : tChain r r' (rdE K f1) (rdE K f2) (rdE K f3) σ H Q := by
  obtain ⟨Hv, ρ, d, e, en, f, k⟩ := h
  obtain ⟨a, h1, f⟩ := bind_some2 f
  obtain ⟨b, h2, f⟩ := bind_some2 f
  obtain ⟨z, h3, f⟩ := bind_some2 f
  refine ⟨Hv, ρ, a, e, en, h1, fun v1 H1 Hv1 s1 d1 => ?_⟩
  refine ⟨Hv1, ρ, b, s1.c, en.mono s1.b, h2, fun v2 H2 Hv2 s2 d2 => ?_⟩
  refine ok H2 Hv2 v1 v2 a b z _ s2.c (d1.mono s2.b) d2 h3 fun v3 H3 Hv3 s3 d3 => ?_
  split at f
  · cases d3
    refine ⟨true, rfl, ?_⟩
    show rdE K f3 σ H3 _
    obtain ⟨c, h4, f⟩ := bind_some2 f
    refine ⟨Hv3, ρ, c, s3.c, ((en.mono s1.b).mono s2.b).mono s3.b, h4, fun v4 H4 Hv4 s4 d4 => ?_⟩
    exact ok' H4 Hv4 v2 v4 b c d Q s4.c ((d2.mono s3.b).mono s4.b) d4 f fun v H' Hv' s5 d5 => k v H' Hv' ((((s1.trans s2).trans s3).trans s4).trans s5) d5
  · cases d3
    cases f
    exact ⟨false, rfl, k _ H3 Hv3 ((s1.trans s2).trans s3) (.bl _)⟩
  · cases f
section
variable {X : Cx} {pos : Pos} {a b c : Expr} {f1 f2 f3 : En → Option D} {r r' : R2} {g g' : D → D → Option D}
theorem pd_chain {op op' : CmpOp} (ho : OpR X (compareOp op) r) (ho' : OpR X (compareOp op') r') (ok : Ok2 X.K r g) (ok' : Ok2 X.K r' g') (ha : PE X a (rdE X.K f1)) (hb : PE X b (rdE X.K f2)) (hc : PE X c (rdE X.K f3))
    (h : PE X (.Compare a [op, op'] [b, c] pos) (tChain r r' (rdE X.K f1) (rdE X.K f2) (rdE X.K f3))) : PE X (.Compare a [op, op'] [b, c] pos) (rdE X.K (eChain g g' f1 f2 f3)) := pe_imp h fun _ _ _ => rd_chain ok ok'
theorem td_chain {op op' : CmpOp} (ok : Ok2 X.K r g) (ok' : Ok2 X.K r' g')
    (h : PT X (.Compare a [op, op'] [b, c] pos) (tTest (tChain r r' (rdE X.K f1) (rdE X.K f2) (rdE X.K f3)))) : PT X (.Compare a [op, op'] [b, c] pos) (rdT X.K (tB2 (eChain g g' f1 f2 f3))) := pt_imp h fun _ _ _ => rd_tB fun _ _ _ => rd_chain ok ok'
end

/-! ### to reckon with the functions: each applied, strict in what it looks at -/
section
def seqO : Option Out → (En → Option Out) → Option Out
  | some (.nx ρ), G => G ρ
  | some (.rt d), _ => some (.rt d)
  | some (.rf d), _ => some (.rf d)
  | some (.bk ρ), _ => some (.bk ρ)
  | some (.ct ρ), _ => some (.ct ρ)
  | none, _ => none
def ifO : Option Bool → (En → Option Out) → (En → Option Out) → En → Option Out
  | some true, F, _, ρ => F ρ
  | some false, _, G, ρ => G ρ
  | none, _, _, _ => none
def binO (g : D → D → Option D) : Option D → Option D → Option D
  | some a, some b => g a b
  | _, _ => none
def unO (g : D → Option D) : Option D → Option D
  | some a => g a
  | _ => none
def consO : Option D → Option (List D) → Option (List D)
  | some a, some l => some (a :: l)
  | _, _ => none
def tupO : Option (List D) → Option D
  | some ds => if okLen ds.length then some (.tup ds) else none
  | none => none
def lstO : Option (List D) → Option (List D)
  | some ds => if okLen ds.length then some ds else none
  | none => none
def frO : Option (List D) → Option D
  | some ds => some (.lst ds)
  | none => none
def cbO (g : List D → Option D) : Option (List D) → Option D
  | some ds => g ds
  | none => none
def cfO (g : List D → Option (List D)) : Option (List D) → Option (List D)
  | some ds => g ds
  | none => none
def blO : Option D → Option Bool
  | some (.bl b) => some b
  | _ => none
def andO : Option Bool → (En → Option Bool) → En → Option Bool
  | some true, g, ρ => g ρ
  | some false, _, _ => some false
  | none, _, _ => none
def orO : Option Bool → (En → Option Bool) → En → Option Bool
  | some false, g, ρ => g ρ
  | some true, _, _ => some true
  | none, _, _ => none
def notO : Option Bool → Option Bool
  | some b => some (!b)
  | none => none
def andE : Option D → (En → Option D) → En → Option D
  | some (.bl true), g, ρ => g ρ
  | some (.bl false), _, _ => some (.bl false)
  | _, _, _ => none
def orE : Option D → (En → Option D) → En → Option D
  | some (.bl false), g, ρ => g ρ
  | some (.bl true), _, _ => some (.bl true)
  | _, _, _ => none
def ifE : Option Bool → (En → Option D) → (En → Option D) → En → Option D
  | some true, F, _, ρ => F ρ
  | some false, _, G, ρ => G ρ
  | none, _, _, _ => none
def asgX (i : Nat) : Option D → En → Option Out
  | some d, ρ => some (.nx (ρ.set i (some d)))
  | none, _ => none
def asgIX (i : Nat) : Option D → En → Option Out
  | some d, ρ => if imm d then some (.nx (ρ.set i (some d))) else none
  | none, _ => none
def asgOX (i : Nat) : Option (List D) → En → Option Out
  | some d, ρ => some (.nx (ρ.set i (some (.lst d))))
  | none, _ => none
def asgOIX (i : Nat) : Option (List D) → En → Option Out
  | some d, ρ => if imms d then some (.nx (ρ.set i (some (.lst d)))) else none
  | none, _ => none
def retX : Option D → Option Out
  | some d => some (.rt d)
  | none => none
def retFX : Option (List D) → Option Out
  | some d => some (.rf d)
  | none => none
def retOX : Option D → Option Out
  | some (.lst ds) => some (.rf ds)
  | _ => none
def parX (i j : Nat) : Option D → Option D → En → Option Out
  | some d, some d', ρ => some (.nx ((ρ.set i (some d)).set j (some d')))
  | _, _, _ => none
def appX (i : Nat) : Option D → Option D → En → Option Out
  | some (.lst ds), some d, ρ => if okLen ds.length then some (.nx (ρ.set i (some (.lst (ds ++ [d]))))) else none
  | _, _, _ => none
def appIX (i : Nat) : Option D → Option D → En → Option Out
  | some (.lst ds), some d, ρ => if okLen ds.length && imm d then some (.nx (ρ.set i (some (.lst (ds ++ [d]))))) else none
  | _, _, _ => none
def setPut (i : Nat) (ds : List D) (d : D) (ρ : En) : Option Nat → Option Out
  | some j => some (.nx (ρ.set i (some (.lst (ds.set j d)))))
  | none => none
def setIX (i : Nat) : Option D → Option D → Option D → En → Option Out
  | some (.lst ds), some d, some (.int z), ρ => if imm d then setPut i ds d ρ (ixN ds.length z) else none
  | _, _, _, _ => none
def forX (t : Tgt) (body : En → Option Out) : Option (List D) → En → Option Out
  | some ds, ρ => loopD t body ds ρ
  | none, _ => none
def nextX (t : Tgt) (body : En → Option Out) (ds : List D) : Option Out → Option Out
  | some (.nx ρ) => loopD t body ds ρ
  | some (.ct ρ) => loopD t body ds ρ
  | some (.bk ρ) => some (.nx ρ)
  | some (.rt d) => some (.rt d)
  | some (.rf d) => some (.rf d)
  | none => none
def turnX (body : En → Option Out) : Option En → Option Out
  | some ρ => body ρ
  | none => none
def compX (t : Tgt) (test : En → Option Bool) (elt : En → Option D) (ρ : En) : Option (List D) → Option (List D)
  | some ds => if okLen ds.length then compD t test elt ρ ds else none
  | none => none
def oX : Option D → Option (Option Int)
  | some (.int i) => some (some i)
  | _ => none
def slX : Option D → Option (Option Int) → Option (Option Int) → Option (List D)
  | some (.lst ds), some l, some h => some (cutD ds l h)
  | _, _, _ => none
def slSX : Option D → Option (Option Int) → Option (Option Int) → Option D
  | some (.str z), some l, some h => if okLen z.length then some (.str (cutS z l h)) else none
  | _, _, _ => none
def iLX : Option D → Option (List D)
  | some (.lst ds) => some ds
  | _ => none
def iTX : Option D → Option (List D)
  | some (.tup ds) => some ds
  | _ => none
def iR1X : Option (List D) → Option (List D)
  | some [.int j] => if small62 j then some (rngD 0 j.toNat) else none
  | _ => none
def iR2X : Option (List D) → Option (List D)
  | some [.int i, .int j] => if small62 i && small62 j then some (rngD i (j - i).toNat) else none
  | _ => none
def iZX : Option (List D) → Option (List D)
  | some [.lst as, .lst bs] => some (zipD as bs)
  | _ => none
def iEX : Option (List D) → Option (List D)
  | some [.lst as] => some (enuD 0 as)
  | _ => none
def chainX (g' : D → D → Option D) (f3 : En → Option D) (ρ : En) : Option D → Option D → Option D
  | some (.bl true), some b => binO g' (some b) (f3 ρ)
  | some (.bl false), some _ => some (.bl false)
  | _, _ => none
variable {F G : En → Option Out} {c t u : En → Option Bool} {f f' f3 : En → Option D} {h h' : En → Option (List D)} {O : List Nat} {i j : Nat} {ρ : En} {g g' : D → D → Option D} {lo hi : En → Option (Option Int)} {tg : Tgt} {d : D} {ds : List D}
theorem x_seq : sSeq F G ρ = seqO (F ρ) G := by unfold sSeq; cases F ρ with | none => rfl | some o => cases o <;> rfl
theorem x_if : sIf c F G ρ = ifO (c ρ) F G ρ := by unfold sIf; cases c ρ with | none => rfl | some o => cases o <;> rfl
theorem x_2 : e2 g f f' ρ = binO g (f ρ) (f' ρ) := by unfold e2; cases f ρ <;> cases f' ρ <;> rfl
theorem x_1 {g : D → Option D} : e1 g f ρ = unO g (f ρ) := by unfold e1; cases f ρ <;> rfl
theorem x_cons : aCons f h ρ = consO (f ρ) (h ρ) := by unfold aCons; cases f ρ <;> cases h ρ <;> rfl
theorem x_tup : eTup h ρ = tupO (h ρ) := by unfold eTup; cases h ρ <;> rfl
theorem x_lst : eLst h ρ = lstO (h ρ) := by unfold eLst; cases h ρ <;> rfl
theorem x_fr : eFr h ρ = frO (h ρ) := by unfold eFr; cases h ρ <;> rfl
theorem x_cb {g : List D → Option D} : eCB g h ρ = cbO g (h ρ) := by unfold eCB; cases h ρ <;> rfl
theorem x_cf {g : List D → Option (List D)} : eCF g h ρ = cfO g (h ρ) := by unfold eCF; cases h ρ <;> rfl
theorem x_tb : tB2 f ρ = blO (f ρ) := by unfold tB2; rfl
theorem x_and : fAnd t u ρ = andO (t ρ) u ρ := by unfold fAnd; cases t ρ with | none => rfl | some o => cases o <;> rfl
theorem x_or : fOr t u ρ = orO (t ρ) u ρ := by unfold fOr; cases t ρ with | none => rfl | some o => cases o <;> rfl
theorem x_not : fNot t ρ = notO (t ρ) := by unfold fNot; cases t ρ <;> rfl
theorem x_andE : eAnd f f' ρ = andE (f ρ) f' ρ := by
  unfold eAnd
  cases f ρ with
  | none => rfl
  | some d => cases d <;> first | rfl | (rename_i b; cases b <;> rfl)
theorem x_orE : eOr f f' ρ = orE (f ρ) f' ρ := by
  unfold eOr
  cases f ρ with
  | none => rfl
  | some d => cases d <;> first | rfl | (rename_i b; cases b <;> rfl)
theorem x_ifE : eIf t f f' ρ = ifE (t ρ) f f' ρ := by unfold eIf; cases t ρ with | none => rfl | some o => cases o <;> rfl
theorem x_asg : sAsg O i f ρ = asgX i (f (mask O ρ)) ρ := by unfold sAsg; cases f (mask O ρ) <;> rfl
theorem x_asgI : sAsgI i f ρ = asgIX i (f ρ) ρ := by unfold sAsgI; cases f ρ <;> rfl
theorem x_asgO : sAsgO O i h ρ = asgOX i (h (mask O ρ)) ρ := by unfold sAsgO; cases h (mask O ρ) <;> rfl
theorem x_asgOI : sAsgOI i h ρ = asgOIX i (h ρ) ρ := by unfold sAsgOI; cases h ρ <;> rfl
theorem x_ret : sRet f ρ = retX (f ρ) := by unfold sRet; cases f ρ <;> rfl
theorem x_retF : sRetF h ρ = retFX (h ρ) := by unfold sRetF; cases h ρ <;> rfl
theorem x_retO : sRetO i ρ = retOX (eV i ρ) := by unfold sRetO; rfl
theorem x_par : sPar O i j f f' ρ = parX i j (f (mask O ρ)) (f' (mask O ρ)) ρ := by unfold sPar; cases f (mask O ρ) <;> cases f' (mask O ρ) <;> rfl
theorem x_app : sApp O i f ρ = appX i (eV i ρ) (f (mask O ρ)) ρ := by
  unfold sApp
  cases eV i ρ with
  | none => rfl
  | some d => cases d <;> cases f (mask O ρ) <;> rfl
theorem x_appI : sAppI i f ρ = appIX i (eV i ρ) (f ρ) ρ := by
  unfold sAppI
  cases eV i ρ with
  | none => rfl
  | some d => cases d <;> cases f ρ <;> rfl
theorem x_setI : sSetI i f' f ρ = setIX i (eV i ρ) (f ρ) (f' ρ) ρ := by
  have key : ∀ (o : Option Nat) (ds : List D) (x : D), (o.bind fun j => some (Out.nx (ρ.set i (some (.lst (ds.set j x)))))) = setPut i ds x ρ o := fun o _ _ => by cases o <;> rfl
  unfold sSetI
  cases eV i ρ with
  | none => rfl
  | some d =>
    cases d <;> try rfl
    cases f ρ with
    | none => rfl
    | some x =>
      cases f' ρ with
      | none => simp [setIX, asInt]
      | some z =>
        cases z <;> simp only [Option.bind_some, asInt, setIX, key] <;> first | (split <;> rfl) | rfl
theorem x_for : sFor O h tg F ρ = forX tg F (h (mask O ρ)) ρ := by unfold sFor; cases h (mask O ρ) <;> rfl
theorem x_nil : loopD tg F [] ρ = some (.nx ρ) := rfl
theorem x_loop : loopD tg F (d :: ds) ρ = nextX tg F ds (turnX F (stD tg d ρ)) := by
  unfold loopD
  cases stD tg d ρ with
  | none => rfl
  | some r =>
    show (F r).bind _ = nextX tg F ds (F r)
    cases F r with
    | none => rfl
    | some o => cases o <;> rfl
theorem x_comp {own : List Nat} : eComp own h tg t f ρ = compX tg t f (mask own ρ) (h ρ) := by unfold eComp; cases h ρ <;> rfl
theorem x_oS : oSome f ρ = oX (f ρ) := by
  unfold oSome
  cases f ρ with
  | none => rfl
  | some d => cases d <;> rfl
theorem x_sl : eSl f lo hi ρ = slX (f ρ) (lo ρ) (hi ρ) := by
  unfold eSl
  cases f ρ with
  | none => rfl
  | some d => cases lo ρ <;> cases hi ρ <;> cases d <;> rfl
theorem x_slS : eSlS f lo hi ρ = slSX (f ρ) (lo ρ) (hi ρ) := by
  unfold eSlS
  cases f ρ with
  | none => rfl
  | some d => cases lo ρ <;> cases hi ρ <;> cases d <;> rfl
theorem x_iL : iL f ρ = iLX (f ρ) := by unfold iL; rfl
theorem x_iT : iT f ρ = iTX (f ρ) := by unfold iT; rfl
theorem x_iR1 : iR1 h ρ = iR1X (h ρ) := by unfold iR1; rfl
theorem x_iR2 : iR2 h ρ = iR2X (h ρ) := by unfold iR2; rfl
theorem x_iZ : iZ h ρ = iZX (h ρ) := by unfold iZ; rfl
theorem x_iE : iE h ρ = iEX (h ρ) := by unfold iE; rfl
theorem x_chain : eChain g g' f f' f3 ρ = chainX g' f3 ρ (binO g (f ρ) (f' ρ)) (f' ρ) := by
  unfold eChain
  cases f ρ with
  | none => cases f' ρ <;> rfl
  | some a =>
    cases f' ρ with
    | none => rfl
    | some b =>
      show (g a b).bind _ = chainX g' f3 ρ (g a b) (some b)
      cases g a b with
      | none => rfl
      | some z =>
        cases z <;> try rfl
        rename_i b'
        cases b' <;> try rfl
        show (f3 ρ).bind _ = binO g' (some b) (f3 ρ)
        cases f3 ρ <;> rfl
theorem x_getD0 {α : Type} {x a : α} {l : List α} : (a :: l).getD 0 x = a := (rfl)
theorem x_getDs {α : Type} {x a : α} {l : List α} {n : Nat} : (a :: l).getD (n + 1) x = l.getD n x := (rfl)
end
/-! equations -/
section
theorem q_seq1 {G : En → Option Out} {ρ : En} : seqO (some (.nx ρ)) G = G ρ := (rfl)
theorem q_seq2 {G : En → Option Out} {d : D} : seqO (some (.rt d)) G = some (.rt d) := (rfl)
theorem q_seq3 {G : En → Option Out} {d : List D} : seqO (some (.rf d)) G = some (.rf d) := (rfl)
theorem q_seq4 {G : En → Option Out} {ρ : En} : seqO (some (.bk ρ)) G = some (.bk ρ) := (rfl)
theorem q_seq5 {G : En → Option Out} {ρ : En} : seqO (some (.ct ρ)) G = some (.ct ρ) := (rfl)
theorem q_if1 {F G : En → Option Out} {ρ : En} : ifO (some true) F G ρ = F ρ := (rfl)
theorem q_if2 {F G : En → Option Out} {ρ : En} : ifO (some false) F G ρ = G ρ := (rfl)
theorem q_bin {g : D → D → Option D} {a b : D} : binO g (some a) (some b) = g a b := (rfl)
theorem q_un {g : D → Option D} {a : D} : unO g (some a) = g a := (rfl)
theorem q_cons {a : D} {l : List D} : consO (some a) (some l) = some (a :: l) := (rfl)
theorem q_tup {l : List D} : tupO (some l) = if okLen l.length then some (.tup l) else none := (rfl)
theorem q_lst {l : List D} : lstO (some l) = if okLen l.length then some l else none := (rfl)
theorem q_fr {l : List D} : frO (some l) = some (.lst l) := (rfl)
theorem q_cb {g : List D → Option D} {l : List D} : cbO g (some l) = g l := (rfl)
theorem q_cf {g : List D → Option (List D)} {l : List D} : cfO g (some l) = g l := (rfl)
theorem q_bl {b : Bool} : blO (some (.bl b)) = some b := (rfl)
theorem q_and1 {g : En → Option Bool} {ρ : En} : andO (some true) g ρ = g ρ := (rfl)
theorem q_and2 {g : En → Option Bool} {ρ : En} : andO (some false) g ρ = some false := (rfl)
theorem q_or1 {g : En → Option Bool} {ρ : En} : orO (some false) g ρ = g ρ := (rfl)
theorem q_or2 {g : En → Option Bool} {ρ : En} : orO (some true) g ρ = some true := (rfl)
theorem q_not {b : Bool} : notO (some b) = some (!b) := (rfl)
theorem q_andE1 {g : En → Option D} {ρ : En} : andE (some (.bl true)) g ρ = g ρ := (rfl)
theorem q_andE2 {g : En → Option D} {ρ : En} : andE (some (.bl false)) g ρ = some (.bl false) := (rfl)
theorem q_orE1 {g : En → Option D} {ρ : En} : orE (some (.bl false)) g ρ = g ρ := (rfl)
theorem q_orE2 {g : En → Option D} {ρ : En} : orE (some (.bl true)) g ρ = some (.bl true) := (rfl)
theorem q_ifE1 {F G : En → Option D} {ρ : En} : ifE (some true) F G ρ = F ρ := (rfl)
theorem q_ifE2 {F G : En → Option D} {ρ : En} : ifE (some false) F G ρ = G ρ := (rfl)
theorem q_asg {i : Nat} {d : D} {ρ : En} : asgX i (some d) ρ = some (.nx (ρ.set i (some d))) := (rfl)
theorem q_asgI {i : Nat} {d : D} {ρ : En} : asgIX i (some d) ρ = if imm d then some (.nx (ρ.set i (some d))) else none := (rfl)
theorem q_asgO {i : Nat} {d : List D} {ρ : En} : asgOX i (some d) ρ = some (.nx (ρ.set i (some (.lst d)))) := (rfl)
theorem q_asgOI {i : Nat} {d : List D} {ρ : En} : asgOIX i (some d) ρ = if imms d then some (.nx (ρ.set i (some (.lst d)))) else none := (rfl)
theorem q_ret {d : D} : retX (some d) = some (.rt d) := (rfl)
theorem q_retF {d : List D} : retFX (some d) = some (.rf d) := (rfl)
theorem q_retO {d : List D} : retOX (some (.lst d)) = some (.rf d) := (rfl)
theorem q_par {i j : Nat} {a b : D} {ρ : En} : parX i j (some a) (some b) ρ = some (.nx ((ρ.set i (some a)).set j (some b))) := (rfl)
theorem q_app {i : Nat} {ds : List D} {d : D} {ρ : En} : appX i (some (.lst ds)) (some d) ρ = if okLen ds.length then some (.nx (ρ.set i (some (.lst (ds ++ [d]))))) else none := (rfl)
theorem q_appI {i : Nat} {ds : List D} {d : D} {ρ : En} : appIX i (some (.lst ds)) (some d) ρ = if okLen ds.length && imm d then some (.nx (ρ.set i (some (.lst (ds ++ [d]))))) else none := (rfl)
theorem q_set1 {i : Nat} {ds : List D} {d : D} {z : Int} {ρ : En} : setIX i (some (.lst ds)) (some d) (some (.int z)) ρ = if imm d then setPut i ds d ρ (ixN ds.length z) else none := (rfl)
theorem q_set2 {i j : Nat} {ds : List D} {d : D} {ρ : En} : setPut i ds d ρ (some j) = some (.nx (ρ.set i (some (.lst (ds.set j d))))) := (rfl)
theorem q_for {t : Tgt} {F : En → Option Out} {ds : List D} {ρ : En} : forX t F (some ds) ρ = loopD t F ds ρ := (rfl)
theorem q_next0 {t : Tgt} {F : En → Option Out} {ds : List D} {ρ : En} : nextX t F ds (some (.nx ρ)) = loopD t F ds ρ := (rfl)
theorem q_next1 {t : Tgt} {F : En → Option Out} {ds : List D} {ρ : En} : nextX t F ds (some (.ct ρ)) = loopD t F ds ρ := (rfl)
theorem q_next2 {t : Tgt} {F : En → Option Out} {ds : List D} {ρ : En} : nextX t F ds (some (.bk ρ)) = some (.nx ρ) := (rfl)
theorem q_next3 {t : Tgt} {F : En → Option Out} {ds : List D} {d : D} : nextX t F ds (some (.rt d)) = some (.rt d) := (rfl)
theorem q_next4 {t : Tgt} {F : En → Option Out} {ds : List D} {d : List D} : nextX t F ds (some (.rf d)) = some (.rf d) := (rfl)
theorem q_turn {F : En → Option Out} {ρ : En} : turnX F (some ρ) = F ρ := (rfl)
theorem q_comp {t : Tgt} {c : En → Option Bool} {f : En → Option D} {ds : List D} {ρ : En} : compX t c f ρ (some ds) = if okLen ds.length then compD t c f ρ ds else none := (rfl)
theorem q_o {i : Int} : oX (some (.int i)) = some (some i) := (rfl)
theorem q_sl {ds : List D} {l h : Option Int} : slX (some (.lst ds)) (some l) (some h) = some (cutD ds l h) := (rfl)
theorem q_slS {z : Str} {l h : Option Int} : slSX (some (.str z)) (some l) (some h) = if okLen z.length then some (.str (cutS z l h)) else none := (rfl)
theorem q_iL {ds : List D} : iLX (some (.lst ds)) = some ds := (rfl)
theorem q_iT {ds : List D} : iTX (some (.tup ds)) = some ds := (rfl)
theorem q_iR1 {j : Int} : iR1X (some [.int j]) = if small62 j then some (rngD 0 j.toNat) else none := (rfl)
theorem q_iR2 {i j : Int} : iR2X (some [.int i, .int j]) = if small62 i && small62 j then some (rngD i (j - i).toNat) else none := (rfl)
theorem q_iZ {a b : List D} : iZX (some [.lst a, .lst b]) = some (zipD a b) := (rfl)
theorem q_iE {a : List D} : iEX (some [.lst a]) = some (enuD 0 a) := (rfl)
theorem q_ch1 {g' : D → D → Option D} {f3 : En → Option D} {ρ : En} {b : D} : chainX g' f3 ρ (some (.bl true)) (some b) = binO g' (some b) (f3 ρ) := (rfl)
theorem q_ch2 {g' : D → D → Option D} {f3 : En → Option D} {ρ : En} {b : D} : chainX g' f3 ρ (some (.bl false)) (some b) = some (.bl false) := (rfl)
theorem q_dAdd {i j : Int} : dAdd (.int i) (.int j) = some (.int (i + j)) := (rfl)
theorem q_dSub {i j : Int} : dSub (.int i) (.int j) = some (.int (i - j)) := (rfl)
theorem q_dMul {i j : Int} : dMul (.int i) (.int j) = if okMul i j then some (.int (i * j)) else none := (rfl)
theorem q_dDiv {i j : Int} : dDiv (.int i) (.int j) = if okDiv j then some (.int (i / j)) else none := (rfl)
theorem q_dMod {i j : Int} : dMod (.int i) (.int j) = if 0 < j then some (.int (i % j)) else none := (rfl)
theorem q_dPow {i j : Int} : dPow (.int i) (.int j) = if 0 ≤ j ∧ j ≤ 1000000 ∧ i.natAbs < 2 ^ 64 then some (.int (i ^ j.toNat)) else none := (rfl)
theorem q_dLt {i j : Int} : dLt (.int i) (.int j) = some (.bl (decide (i < j))) := (rfl)
theorem q_dLe {i j : Int} : dLe (.int i) (.int j) = some (.bl (decide (i ≤ j))) := (rfl)
theorem q_dGt {i j : Int} : dGt (.int i) (.int j) = some (.bl (decide (j < i))) := (rfl)
theorem q_dGe {i j : Int} : dGe (.int i) (.int j) = some (.bl (decide (j ≤ i))) := (rfl)
theorem q_neg {i : Int} : dNeg (.int i) = some (.int (-i)) := (rfl)
theorem q_eNot {b : Bool} : eNot (.bl b) = some (.bl (!b)) := (rfl)
theorem q_abs {i : Int} : cAbs [.int i] = some (.int (if i < 0 then -i else i)) := (rfl)
theorem q_len1 {l : List D} : cLen [.lst l] = some (.int l.length) := (rfl)
theorem q_len2 {l : List D} : cLen [.tup l] = some (.int l.length) := (rfl)
theorem q_len3 {z : Str} : cLen [.str z] = if okLen z.length then some (.int z.length) else none := (rfl)
theorem q_int1 {i : Int} : cInt [.int i] = some (.int i) := (rfl)
theorem q_int2 {b : Bool} : cInt [.bl b] = some (.int (if b then 1 else 0)) := (rfl)
theorem q_list1 {l : List D} : cList [.lst l] = some l := (rfl)
theorem q_list2 {l : List D} : cList [.tup l] = some l := (rfl)
theorem q_min {i j : Int} : cMin2 [.int i, .int j] = some (.int (if j < i then j else i)) := (rfl)
theorem q_max {i j : Int} : cMax2 [.int i, .int j] = some (.int (if j > i then j else i)) := (rfl)
theorem q_isi_non_int  : cIsi [.non, .ty .int] = some (.bl false) := (rfl)
theorem q_isi_non_bool  : cIsi [.non, .ty .bool] = some (.bl false) := (rfl)
theorem q_isi_non_str  : cIsi [.non, .ty .str] = some (.bl false) := (rfl)
theorem q_isi_non_tuple  : cIsi [.non, .ty .tuple] = some (.bl false) := (rfl)
theorem q_isi_non_list  : cIsi [.non, .ty .list] = some (.bl false) := (rfl)
theorem q_isi_non_dict  : cIsi [.non, .ty .dict] = some (.bl false) := (rfl)
theorem q_isi_bl_int {b : Bool} : cIsi [(.bl b), .ty .int] = some (.bl true) := (rfl)
theorem q_isi_bl_bool {b : Bool} : cIsi [(.bl b), .ty .bool] = some (.bl true) := (rfl)
theorem q_isi_bl_str {b : Bool} : cIsi [(.bl b), .ty .str] = some (.bl false) := (rfl)
theorem q_isi_bl_tuple {b : Bool} : cIsi [(.bl b), .ty .tuple] = some (.bl false) := (rfl)
theorem q_isi_bl_list {b : Bool} : cIsi [(.bl b), .ty .list] = some (.bl false) := (rfl)
theorem q_isi_bl_dict {b : Bool} : cIsi [(.bl b), .ty .dict] = some (.bl false) := (rfl)
theorem q_isi_int_int {i : Int} : cIsi [(.int i), .ty .int] = some (.bl true) := (rfl)
theorem q_isi_int_bool {i : Int} : cIsi [(.int i), .ty .bool] = some (.bl false) := (rfl)
theorem q_isi_int_str {i : Int} : cIsi [(.int i), .ty .str] = some (.bl false) := (rfl)
theorem q_isi_int_tuple {i : Int} : cIsi [(.int i), .ty .tuple] = some (.bl false) := (rfl)
theorem q_isi_int_list {i : Int} : cIsi [(.int i), .ty .list] = some (.bl false) := (rfl)
theorem q_isi_int_dict {i : Int} : cIsi [(.int i), .ty .dict] = some (.bl false) := (rfl)
theorem q_isi_str_int {z : Str} : cIsi [(.str z), .ty .int] = some (.bl false) := (rfl)
theorem q_isi_str_bool {z : Str} : cIsi [(.str z), .ty .bool] = some (.bl false) := (rfl)
theorem q_isi_str_str {z : Str} : cIsi [(.str z), .ty .str] = some (.bl true) := (rfl)
theorem q_isi_str_tuple {z : Str} : cIsi [(.str z), .ty .tuple] = some (.bl false) := (rfl)
theorem q_isi_str_list {z : Str} : cIsi [(.str z), .ty .list] = some (.bl false) := (rfl)
theorem q_isi_str_dict {z : Str} : cIsi [(.str z), .ty .dict] = some (.bl false) := (rfl)
theorem q_isi_tup_int {l : List D} : cIsi [(.tup l), .ty .int] = some (.bl false) := (rfl)
theorem q_isi_tup_bool {l : List D} : cIsi [(.tup l), .ty .bool] = some (.bl false) := (rfl)
theorem q_isi_tup_str {l : List D} : cIsi [(.tup l), .ty .str] = some (.bl false) := (rfl)
theorem q_isi_tup_tuple {l : List D} : cIsi [(.tup l), .ty .tuple] = some (.bl true) := (rfl)
theorem q_isi_tup_list {l : List D} : cIsi [(.tup l), .ty .list] = some (.bl false) := (rfl)
theorem q_isi_tup_dict {l : List D} : cIsi [(.tup l), .ty .dict] = some (.bl false) := (rfl)
theorem q_isi_lst_int {l : List D} : cIsi [(.lst l), .ty .int] = some (.bl false) := (rfl)
theorem q_isi_lst_bool {l : List D} : cIsi [(.lst l), .ty .bool] = some (.bl false) := (rfl)
theorem q_isi_lst_str {l : List D} : cIsi [(.lst l), .ty .str] = some (.bl false) := (rfl)
theorem q_isi_lst_tuple {l : List D} : cIsi [(.lst l), .ty .tuple] = some (.bl false) := (rfl)
theorem q_isi_lst_list {l : List D} : cIsi [(.lst l), .ty .list] = some (.bl true) := (rfl)
theorem q_isi_lst_dict {l : List D} : cIsi [(.lst l), .ty .dict] = some (.bl false) := (rfl)
theorem q_isi_dic_int {l : List (Key × D)} : cIsi [(.dic l), .ty .int] = some (.bl false) := (rfl)
theorem q_isi_dic_bool {l : List (Key × D)} : cIsi [(.dic l), .ty .bool] = some (.bl false) := (rfl)
theorem q_isi_dic_str {l : List (Key × D)} : cIsi [(.dic l), .ty .str] = some (.bl false) := (rfl)
theorem q_isi_dic_tuple {l : List (Key × D)} : cIsi [(.dic l), .ty .tuple] = some (.bl false) := (rfl)
theorem q_isi_dic_list {l : List (Key × D)} : cIsi [(.dic l), .ty .list] = some (.bl false) := (rfl)
theorem q_isi_dic_dict {l : List (Key × D)} : cIsi [(.dic l), .ty .dict] = some (.bl true) := (rfl)
theorem q_outD1 {ρ : En} : outD (some (.nx ρ)) = some .non := (rfl)
theorem q_outD2 {d : D} : outD (some (.rt d)) = some d := (rfl)
theorem q_outD3 {d : List D} : outD (some (.rf d)) = some (.lst d) := (rfl)
theorem q_outF {d : List D} : outF (some (.rf d)) = some d := (rfl)
theorem q_st {i : Nat} {d : D} {ρ : En} : stD (.nm i) d ρ = some (ρ.set i (some d)) := (rfl)
theorem q_st2 {is : List Nat} {ds : List D} {ρ : En} : stD (.tp is) (.tup ds) ρ = if is.length = ds.length then some (setAll is ds ρ) else none := (rfl)
theorem q_sa1 {i : Nat} {is : List Nat} {d : D} {ds : List D} {ρ : En} : setAll (i :: is) (d :: ds) ρ = setAll is ds (ρ.set i (some d)) := (rfl)
theorem q_sa2 {ρ : En} : setAll [] [] ρ = ρ := (rfl)
theorem q_mask1 {ρ : En} : mask [] ρ = ρ := (rfl)
theorem q_mask2 {i : Nat} {O : List Nat} {ρ : En} : mask (i :: O) ρ = (mask O ρ).set i none := (rfl)
theorem q_nil {ρ : En} : sNil ρ = some (.nx ρ) := (rfl)
theorem q_brk {ρ : En} : sBrk ρ = some (.bk ρ) := (rfl)
theorem q_cont {ρ : En} : sCont ρ = some (.ct ρ) := (rfl)
theorem q_retN {ρ : En} : sRetN ρ = some (.rt .non) := (rfl)
theorem q_eC {d : D} {ρ : En} : eC d ρ = some d := (rfl)
theorem q_eV {i : Nat} {ρ : En} : eV i ρ = ρ.getD i none := (rfl)
theorem q_aNil {ρ : En} : aNil ρ = some [] := (rfl)
theorem q_tT {ρ : En} : tTrue ρ = some true := (rfl)
theorem q_oN {ρ : En} : oNone ρ = some none := (rfl)
theorem q_ix1 {l : List D} {i : Int} : dIx (.lst l) (.int i) = atI l i := (rfl)
theorem q_ix2 {l : List D} {i : Int} : dIx (.tup l) (.int i) = atI l i := (rfl)
theorem q_at0 {α : Type} {a0 : α} {l : List α} : atI (a0 :: l) 0 = some a0 := atI_nat (j := 0) rfl
theorem q_at1 {α : Type} {a0 a1 : α} {l : List α} : atI (a0 :: a1 :: l) 1 = some a1 := atI_nat (j := 1) rfl
theorem q_at2 {α : Type} {a0 a1 a2 : α} {l : List α} : atI (a0 :: a1 :: a2 :: l) 2 = some a2 := atI_nat (j := 2) rfl
theorem q_at3 {α : Type} {a0 a1 a2 a3 : α} {l : List α} : atI (a0 :: a1 :: a2 :: a3 :: l) 3 = some a3 := atI_nat (j := 3) rfl
theorem q_at4 {α : Type} {a0 a1 a2 a3 a4 : α} {l : List α} : atI (a0 :: a1 :: a2 :: a3 :: a4 :: l) 4 = some a4 := atI_nat (j := 4) rfl
theorem q_at5 {α : Type} {a0 a1 a2 a3 a4 a5 : α} {l : List α} : atI (a0 :: a1 :: a2 :: a3 :: a4 :: a5 :: l) 5 = some a5 := atI_nat (j := 5) rfl
theorem q_imm1 {i : Int} : imm (.int i) = true := (rfl)
theorem q_imm2 {b : Bool} : imm (.bl b) = true := (rfl)
theorem q_imm3 {z : Str} : imm (.str z) = true := (rfl)
theorem q_imm4  : imm .non = true := (rfl)
theorem q_imm5 {l : List D} : imm (.tup l) = imms l := by unfold imm; rfl
theorem q_imms1 : imms [] = true := by unfold imms; rfl
theorem q_imms2 {d : D} {l : List D} : imms (d :: l) = (imm d && imms l) := by rw [imms]
theorem q_set0 {α : Type} {a b : α} {l : List α} : (a :: l).set 0 b = b :: l := (rfl)
theorem q_setS {α : Type} {a b : α} {l : List α} {n : Nat} : (a :: l).set (n + 1) b = a :: l.set n b := (rfl)
theorem q_set_1 {α : Type} {a0 a1 b : α} {l : List α} : (a0 :: a1 :: l).set 1 b = a0 :: b :: l := (rfl)
theorem q_get_1 {α : Type} {a0 a1 b : α} {l : List α} : (a0 :: a1 :: l).getD 1 b = a1 := (rfl)
theorem q_set_2 {α : Type} {a0 a1 a2 b : α} {l : List α} : (a0 :: a1 :: a2 :: l).set 2 b = a0 :: a1 :: b :: l := (rfl)
theorem q_get_2 {α : Type} {a0 a1 a2 b : α} {l : List α} : (a0 :: a1 :: a2 :: l).getD 2 b = a2 := (rfl)
theorem q_set_3 {α : Type} {a0 a1 a2 a3 b : α} {l : List α} : (a0 :: a1 :: a2 :: a3 :: l).set 3 b = a0 :: a1 :: a2 :: b :: l := (rfl)
theorem q_get_3 {α : Type} {a0 a1 a2 a3 b : α} {l : List α} : (a0 :: a1 :: a2 :: a3 :: l).getD 3 b = a3 := (rfl)
theorem q_set_4 {α : Type} {a0 a1 a2 a3 a4 b : α} {l : List α} : (a0 :: a1 :: a2 :: a3 :: a4 :: l).set 4 b = a0 :: a1 :: a2 :: a3 :: b :: l := (rfl)
theorem q_get_4 {α : Type} {a0 a1 a2 a3 a4 b : α} {l : List α} : (a0 :: a1 :: a2 :: a3 :: a4 :: l).getD 4 b = a4 := (rfl)
theorem q_set_5 {α : Type} {a0 a1 a2 a3 a4 a5 b : α} {l : List α} : (a0 :: a1 :: a2 :: a3 :: a4 :: a5 :: l).set 5 b = a0 :: a1 :: a2 :: a3 :: a4 :: b :: l := (rfl)
theorem q_get_5 {α : Type} {a0 a1 a2 a3 a4 a5 b : α} {l : List α} : (a0 :: a1 :: a2 :: a3 :: a4 :: a5 :: l).getD 5 b = a5 := (rfl)
theorem q_set_6 {α : Type} {a0 a1 a2 a3 a4 a5 a6 b : α} {l : List α} : (a0 :: a1 :: a2 :: a3 :: a4 :: a5 :: a6 :: l).set 6 b = a0 :: a1 :: a2 :: a3 :: a4 :: a5 :: b :: l := (rfl)
theorem q_get_6 {α : Type} {a0 a1 a2 a3 a4 a5 a6 b : α} {l : List α} : (a0 :: a1 :: a2 :: a3 :: a4 :: a5 :: a6 :: l).getD 6 b = a6 := (rfl)
theorem q_set_7 {α : Type} {a0 a1 a2 a3 a4 a5 a6 a7 b : α} {l : List α} : (a0 :: a1 :: a2 :: a3 :: a4 :: a5 :: a6 :: a7 :: l).set 7 b = a0 :: a1 :: a2 :: a3 :: a4 :: a5 :: a6 :: b :: l := (rfl)
theorem q_get_7 {α : Type} {a0 a1 a2 a3 a4 a5 a6 a7 b : α} {l : List α} : (a0 :: a1 :: a2 :: a3 :: a4 :: a5 :: a6 :: a7 :: l).getD 7 b = a7 := (rfl)
theorem q_set_8 {α : Type} {a0 a1 a2 a3 a4 a5 a6 a7 a8 b : α} {l : List α} : (a0 :: a1 :: a2 :: a3 :: a4 :: a5 :: a6 :: a7 :: a8 :: l).set 8 b = a0 :: a1 :: a2 :: a3 :: a4 :: a5 :: a6 :: a7 :: b :: l := (rfl)
theorem q_get_8 {α : Type} {a0 a1 a2 a3 a4 a5 a6 a7 a8 b : α} {l : List α} : (a0 :: a1 :: a2 :: a3 :: a4 :: a5 :: a6 :: a7 :: a8 :: l).getD 8 b = a8 := (rfl)
theorem q_set_9 {α : Type} {a0 a1 a2 a3 a4 a5 a6 a7 a8 a9 b : α} {l : List α} : (a0 :: a1 :: a2 :: a3 :: a4 :: a5 :: a6 :: a7 :: a8 :: a9 :: l).set 9 b = a0 :: a1 :: a2 :: a3 :: a4 :: a5 :: a6 :: a7 :: a8 :: b :: l := (rfl)
theorem q_get_9 {α : Type} {a0 a1 a2 a3 a4 a5 a6 a7 a8 a9 b : α} {l : List α} : (a0 :: a1 :: a2 :: a3 :: a4 :: a5 :: a6 :: a7 :: a8 :: a9 :: l).getD 9 b = a9 := (rfl)
theorem q_set_10 {α : Type} {a0 a1 a2 a3 a4 a5 a6 a7 a8 a9 a10 b : α} {l : List α} : (a0 :: a1 :: a2 :: a3 :: a4 :: a5 :: a6 :: a7 :: a8 :: a9 :: a10 :: l).set 10 b = a0 :: a1 :: a2 :: a3 :: a4 :: a5 :: a6 :: a7 :: a8 :: a9 :: b :: l := (rfl)
theorem q_get_10 {α : Type} {a0 a1 a2 a3 a4 a5 a6 a7 a8 a9 a10 b : α} {l : List α} : (a0 :: a1 :: a2 :: a3 :: a4 :: a5 :: a6 :: a7 :: a8 :: a9 :: a10 :: l).getD 10 b = a10 := (rfl)
theorem q_set_11 {α : Type} {a0 a1 a2 a3 a4 a5 a6 a7 a8 a9 a10 a11 b : α} {l : List α} : (a0 :: a1 :: a2 :: a3 :: a4 :: a5 :: a6 :: a7 :: a8 :: a9 :: a10 :: a11 :: l).set 11 b = a0 :: a1 :: a2 :: a3 :: a4 :: a5 :: a6 :: a7 :: a8 :: a9 :: a10 :: b :: l := (rfl)
theorem q_get_11 {α : Type} {a0 a1 a2 a3 a4 a5 a6 a7 a8 a9 a10 a11 b : α} {l : List α} : (a0 :: a1 :: a2 :: a3 :: a4 :: a5 :: a6 :: a7 :: a8 :: a9 :: a10 :: a11 :: l).getD 11 b = a11 := (rfl)
theorem q_set_12 {α : Type} {a0 a1 a2 a3 a4 a5 a6 a7 a8 a9 a10 a11 a12 b : α} {l : List α} : (a0 :: a1 :: a2 :: a3 :: a4 :: a5 :: a6 :: a7 :: a8 :: a9 :: a10 :: a11 :: a12 :: l).set 12 b = a0 :: a1 :: a2 :: a3 :: a4 :: a5 :: a6 :: a7 :: a8 :: a9 :: a10 :: a11 :: b :: l := (rfl)
theorem q_get_12 {α : Type} {a0 a1 a2 a3 a4 a5 a6 a7 a8 a9 a10 a11 a12 b : α} {l : List α} : (a0 :: a1 :: a2 :: a3 :: a4 :: a5 :: a6 :: a7 :: a8 :: a9 :: a10 :: a11 :: a12 :: l).getD 12 b = a12 := (rfl)
theorem q_set_13 {α : Type} {a0 a1 a2 a3 a4 a5 a6 a7 a8 a9 a10 a11 a12 a13 b : α} {l : List α} : (a0 :: a1 :: a2 :: a3 :: a4 :: a5 :: a6 :: a7 :: a8 :: a9 :: a10 :: a11 :: a12 :: a13 :: l).set 13 b = a0 :: a1 :: a2 :: a3 :: a4 :: a5 :: a6 :: a7 :: a8 :: a9 :: a10 :: a11 :: a12 :: b :: l := (rfl)
theorem q_get_13 {α : Type} {a0 a1 a2 a3 a4 a5 a6 a7 a8 a9 a10 a11 a12 a13 b : α} {l : List α} : (a0 :: a1 :: a2 :: a3 :: a4 :: a5 :: a6 :: a7 :: a8 :: a9 :: a10 :: a11 :: a12 :: a13 :: l).getD 13 b = a13 := (rfl)
theorem q_set_14 {α : Type} {a0 a1 a2 a3 a4 a5 a6 a7 a8 a9 a10 a11 a12 a13 a14 b : α} {l : List α} : (a0 :: a1 :: a2 :: a3 :: a4 :: a5 :: a6 :: a7 :: a8 :: a9 :: a10 :: a11 :: a12 :: a13 :: a14 :: l).set 14 b = a0 :: a1 :: a2 :: a3 :: a4 :: a5 :: a6 :: a7 :: a8 :: a9 :: a10 :: a11 :: a12 :: a13 :: b :: l := (rfl)
theorem q_get_14 {α : Type} {a0 a1 a2 a3 a4 a5 a6 a7 a8 a9 a10 a11 a12 a13 a14 b : α} {l : List α} : (a0 :: a1 :: a2 :: a3 :: a4 :: a5 :: a6 :: a7 :: a8 :: a9 :: a10 :: a11 :: a12 :: a13 :: a14 :: l).getD 14 b = a14 := (rfl)
theorem q_set_15 {α : Type} {a0 a1 a2 a3 a4 a5 a6 a7 a8 a9 a10 a11 a12 a13 a14 a15 b : α} {l : List α} : (a0 :: a1 :: a2 :: a3 :: a4 :: a5 :: a6 :: a7 :: a8 :: a9 :: a10 :: a11 :: a12 :: a13 :: a14 :: a15 :: l).set 15 b = a0 :: a1 :: a2 :: a3 :: a4 :: a5 :: a6 :: a7 :: a8 :: a9 :: a10 :: a11 :: a12 :: a13 :: a14 :: b :: l := (rfl)
theorem q_get_15 {α : Type} {a0 a1 a2 a3 a4 a5 a6 a7 a8 a9 a10 a11 a12 a13 a14 a15 b : α} {l : List α} : (a0 :: a1 :: a2 :: a3 :: a4 :: a5 :: a6 :: a7 :: a8 :: a9 :: a10 :: a11 :: a12 :: a13 :: a14 :: a15 :: l).getD 15 b = a15 := (rfl)
theorem q_okL {n : Nat} (h : n ≤ 1000000) : okLen n = true := decide_eq_true h
end
/-! while, a turn -/
def wNext (c : En → Option Bool) (F : En → Option Out) (n : Nat) : Option Out → Option Out
  | some (.nx ρ) => whileD c F n ρ
  | some (.ct ρ) => whileD c F n ρ
  | some (.bk ρ) => some (.nx ρ)
  | some (.rt d) => some (.rt d)
  | some (.rf d) => some (.rf d)
  | none => none
def wIf (c : En → Option Bool) (F : En → Option Out) (n : Nat) : Option Bool → En → Option Out
  | some true, ρ => wNext c F n (F ρ)
  | some false, ρ => some (.nx ρ)
  | none, _ => none
theorem x_while {c : En → Option Bool} {F : En → Option Out} {n : Nat} {ρ : En} : whileD c F (n + 1) ρ = wIf c F n (c ρ) ρ := by
  rw [whileD]
  cases c ρ with
  | none => rfl
  | some b =>
    cases b with
    | false => rfl
    | true =>
      show (F ρ).bind _ = wNext c F n (F ρ)
      cases F ρ with
      | none => rfl
      | some o => cases o <;> rfl
theorem q_wIf1 {c : En → Option Bool} {F : En → Option Out} {n : Nat} {ρ : En} : wIf c F n (some true) ρ = wNext c F n (F ρ) := (rfl)
theorem q_wIf2 {c : En → Option Bool} {F : En → Option Out} {n : Nat} {ρ : En} : wIf c F n (some false) ρ = some (.nx ρ) := (rfl)
theorem q_wNext1 {c : En → Option Bool} {F : En → Option Out} {n : Nat} {ρ : En} : wNext c F n (some (.nx ρ)) = whileD c F n ρ := (rfl)
theorem q_wNext2 {c : En → Option Bool} {F : En → Option Out} {n : Nat} {ρ : En} : wNext c F n (some (.ct ρ)) = whileD c F n ρ := (rfl)
theorem q_wNext3 {c : En → Option Bool} {F : En → Option Out} {n : Nat} {ρ : En} : wNext c F n (some (.bk ρ)) = some (.nx ρ) := (rfl)
theorem q_wNext4 {c : En → Option Bool} {F : En → Option Out} {n : Nat} {d : D} : wNext c F n (some (.rt d)) = some (.rt d) := (rfl)
theorem q_wNext5 {c : En → Option Bool} {F : En → Option Out} {n : Nat} {d : List D} : wNext c F n (some (.rf d)) = some (.rf d) := (rfl)
theorem fn_1 {n : Nat} {F : En → Option Out} {a0 : D} : fnOut 1 n F [a0] = outD (F (startD n [a0])) := (rfl)
theorem fnF_1 {n : Nat} {F : En → Option Out} {a0 : D} : fnOutF 1 n F [a0] = outF (F (startD n [a0])) := (rfl)
theorem fn_2 {n : Nat} {F : En → Option Out} {a0 a1 : D} : fnOut 2 n F [a0, a1] = outD (F (startD n [a0, a1])) := (rfl)
theorem fnF_2 {n : Nat} {F : En → Option Out} {a0 a1 : D} : fnOutF 2 n F [a0, a1] = outF (F (startD n [a0, a1])) := (rfl)
theorem fn_3 {n : Nat} {F : En → Option Out} {a0 a1 a2 : D} : fnOut 3 n F [a0, a1, a2] = outD (F (startD n [a0, a1, a2])) := (rfl)
theorem fnF_3 {n : Nat} {F : En → Option Out} {a0 a1 a2 : D} : fnOutF 3 n F [a0, a1, a2] = outF (F (startD n [a0, a1, a2])) := (rfl)
theorem fn_4 {n : Nat} {F : En → Option Out} {a0 a1 a2 a3 : D} : fnOut 4 n F [a0, a1, a2, a3] = outD (F (startD n [a0, a1, a2, a3])) := (rfl)
theorem fnF_4 {n : Nat} {F : En → Option Out} {a0 a1 a2 a3 : D} : fnOutF 4 n F [a0, a1, a2, a3] = outF (F (startD n [a0, a1, a2, a3])) := (rfl)
theorem fn_5 {n : Nat} {F : En → Option Out} {a0 a1 a2 a3 a4 : D} : fnOut 5 n F [a0, a1, a2, a3, a4] = outD (F (startD n [a0, a1, a2, a3, a4])) := (rfl)
theorem fnF_5 {n : Nat} {F : En → Option Out} {a0 a1 a2 a3 a4 : D} : fnOutF 5 n F [a0, a1, a2, a3, a4] = outF (F (startD n [a0, a1, a2, a3, a4])) := (rfl)
theorem fn_6 {n : Nat} {F : En → Option Out} {a0 a1 a2 a3 a4 a5 : D} : fnOut 6 n F [a0, a1, a2, a3, a4, a5] = outD (F (startD n [a0, a1, a2, a3, a4, a5])) := (rfl)
theorem fnF_6 {n : Nat} {F : En → Option Out} {a0 a1 a2 a3 a4 a5 : D} : fnOutF 6 n F [a0, a1, a2, a3, a4, a5] = outF (F (startD n [a0, a1, a2, a3, a4, a5])) := (rfl)
end PD
namespace PD
open PySem L2
/-! ### more statements -/
/-- x += e, ints -/
def sAug (g : Int → Int → Int) (i : Nat) (f : En → Option D) (ρ : En) : Option Out := match eV i ρ, f ρ with
  | some (.int a), some (.int b) => some (.nx (ρ.set i (some (.int (g a b)))))
  | _, _ => none
/-- a, b = e -/
def tgX (t : Tgt) : Option D → En → Option Out
  | some d, ρ => match stD t d ρ with
    | some ρ' => some (.nx ρ')
    | none => none
  | none, _ => none
def sTg (O : List Nat) (t : Tgt) (f : En → Option D) (ρ : En) : Option Out := tgX t (f (mask O ρ)) ρ
/-- .. the value without lists -/
def sTgI (t : Tgt) (f : En → Option D) (ρ : En) : Option Out := (f ρ).bind fun d => if imm d then tgX t (some d) ρ else none
/-- xs[k] += e, ints -/
def sSetAug (g : Int → Int → Int) (i : Nat) (k f : En → Option D) (ρ : En) : Option Out := match eV i ρ, k ρ, f ρ with
  | some (.lst ds), some (.int z), some (.int b) => match ixN ds.length z with
    | some j => if 0 ≤ z ∧ z < 1000000 then (match ds[j]? with
      | some (.int a) => some (.nx (ρ.set i (some (.lst (ds.set j (.int (g a b)))))))
      | _ => none) else none
    | none => none
  | _, _, _ => none
/-- xs.append(ys.pop(k)) -/
def sPopApp (i j : Nat) (k : En → Option D) (ρ : En) : Option Out := match eV i ρ, eV j ρ, k ρ with
  | some (.lst xs), some (.lst ys), some (.int z) => if 0 ≤ z ∧ z < 1000000 then (match ys[z.toNat]? with
    | some y => if okLen xs.length then some (.nx ((ρ.set j (some (.lst (ys.eraseIdx z.toNat)))).set i (some (.lst (xs ++ [y]))))) else none
    | none => none) else none
  | _, _, _ => none
/-- xs.extend(a new list without lists) -/
def sExtI (i : Nat) (f : En → Option (List D)) (ρ : En) : Option Out := match eV i ρ with
  | some (.lst xs) => (f ρ).bind fun ys => if imms ys && okLen (xs.length + ys.length) then some (.nx (ρ.set i (some (.lst (xs ++ ys))))) else none
  | _ => none
def truD : D → Option Bool
  | .non => some false
  | .bl b => some b
  | .int i => some (i != 0)
  | .str y => if okLen y.length then some ((y.length : Int) != 0) else none
  | .lst ds => some (!ds.isEmpty)
  | .tup ds => some (!ds.isEmpty)
  | .dic ds => some (!ds.isEmpty)
  | _ => none
def truO : Option D → Option Bool
  | some d => truD d
  | none => none
def tTru (f : En → Option D) (ρ : En) : Option Bool := truO (f ρ)
def isNonD : D → Option D
  | .non => some (.bl true)
  | _ => some (.bl false)
def notNonD : D → Option D
  | .non => some (.bl false)
  | _ => some (.bl true)
theorem Dns.erase {K : PySem.W.Frag} {H : Hp} : ∀ {vs : List V} {ds : List D} (i : Nat), Dns K H vs ds → Dns K H (vs.eraseIdx i) (ds.eraseIdx i)
  | _, _, _, .nil => by simp; exact .nil
  | _, _, 0, .cons _ r => r
  | _, _, i + 1, .cons h r => .cons h (Dns.erase i r)
theorem Dns.empty {K : PySem.W.Frag} {H : Hp} {vs : List V} {ds : List D} (r : Dns K H vs ds) : vs.isEmpty = ds.isEmpty := by cases r <;> rfl
theorem Dks.empty {K : PySem.W.Frag} {H : Hp} {vs : List (Key × V)} {ds : List (Key × D)} (r : Dks K H vs ds) : vs.isEmpty = ds.isEmpty := by cases r <;> rfl
section
variable {K : PySem.W.Frag} {O : List Nat} {σ : St} {H : Hp} {D' : Ends}
theorem rd_tru {f : En → Option D} {Q : Bool → Hp → Prop} (h : rdT K (tTru f) σ H Q) : rdE K f σ H fun x H' => ∃ k, TruV K x H' k ∧ Q k H' := by
  obtain ⟨Hv, ρ, b, e, en, f', k⟩ := h
  unfold tTru at f'
  cases h1 : f ρ with
  | none => rw [h1] at f'; cases f'
  | some d =>
    rw [h1] at f'
    refine ⟨Hv, ρ, d, e, en, h1, fun v H' Hv' s q => ⟨b, ?_, k H' Hv' s⟩⟩
    replace f' : truD d = some b := f'
    cases q <;> simp only [truD] at f' <;> try cases f'
    · rfl
    · rfl
    · rfl
    · split at f'
      · rename_i c; cases f'; exact ⟨okLen_le c, rfl⟩
      · cases f'
    · rename_i hs r; exact .inr (.inl ⟨_, sameT s.c hs, by rw [r.empty]⟩)
    · rename_i hs r; exact .inl ⟨_, sameL s.c hs, by rw [r.empty]⟩
    · rename_i hs r; exact .inr (.inr ⟨_, s.c _ _ hs, by rw [r.empty]⟩)
theorem rd_isN {f : En → Option D} {Q : VK} (h : rdE K (e1 isNonD f) σ H Q) : tIsN (rdE K f) σ H Q := by
  obtain ⟨Hv, ρ, d, e, en, f', k⟩ := h
  obtain ⟨c, h1, f'⟩ := bind_some2 f'
  refine ⟨Hv, ρ, c, e, en, h1, fun v H' Hv' s q => ?_⟩
  cases q <;> cases f' <;> exact k _ H' Hv' s (.bl _)
theorem rd_notN {f : En → Option D} {Q : VK} (h : rdE K (e1 notNonD f) σ H Q) : tNotN (rdE K f) σ H Q := by
  obtain ⟨Hv, ρ, d, e, en, f', k⟩ := h
  obtain ⟨c, h1, f'⟩ := bind_some2 f'
  refine ⟨Hv, ρ, c, e, en, h1, fun v H' Hv' s q => ?_⟩
  cases q <;> cases f' <;> exact k _ H' Hv' s (.bl _)
theorem rs_aug {g : Int → Int → Int} {i : Nat} {f : En → Option D} (hi : i ∉ O) (h : rdS K O (sAug g i f) D' σ H) : tAug i (rdE K f) (ipI g) D' σ H := by
  obtain ⟨H0, Hv0, Hb, Hv, ρ, o, k, f', p⟩ := h
  unfold sAug at f'
  split at f'
  · rename_i a b e1 e2
    cases f'
    obtain ⟨v, h1, h2⟩ := k.fz i _ hi (eV_some e1)
    cases h2
    refine ⟨_, h1, H, ρ, _, .refl _, k.full, e2, fun v H' Hv' s q => ?_⟩
    cases q
    exact ⟨a, b, rfl, rfl, p _ H' Hv ((k.grow s.a).setF hi (.int _))⟩
  · cases f'
theorem rs_tg {t : Tgt} {f : En → Option D} (ho : ∀ i ∈ t.slots, i ∉ O) (h : rdS K O (sTg O t f) D' σ H) : tAsg (rdE K f) (gTg K t) D' σ H := by
  obtain ⟨H0, Hv0, Hb, Hv, ρ, o, k, f', p⟩ := h
  unfold sTg at f'
  cases h1 : f (mask O ρ) with
  | none => rw [h1] at f'; cases f'
  | some d =>
    rw [h1] at f'
    simp only [tgX] at f'
    split at f'
    · rename_i ρ' e
      cases f'
      refine ⟨Hv, mask O ρ, d, k.vin, k.msk, h1, fun v H' Hv' s q => ?_⟩
      exact gTg_Ok (k.step s) ho q e fun σ1 k1 => p σ1 H' Hv' k1
    · cases f'
theorem rs_tgI {t : Tgt} {f : En → Option D} (ho : ∀ i ∈ t.slots, i ∉ O) (h : rdS K O (sTgI t f) D' σ H) : tAsg (rdE K f) (gTg K t) D' σ H := by
  obtain ⟨H0, Hv0, Hb, Hv, ρ, o, k, f', p⟩ := h
  obtain ⟨d, h1, f'⟩ := bind_some2 f'
  split at f'
  · rename_i m
    simp only [tgX] at f'
    split at f'
    · rename_i ρ' e
      cases f'
      refine ⟨H, ρ, d, .refl _, k.full, h1, fun v H' Hv' s q => ?_⟩
      have k' := k.grow s.a
      have k2 := k'.step (Hv' := tupV Hv H') ⟨.refl _, tupV_a _ _, tupV_c k'.vin, fun p o m hp n => tupV_h m hp n⟩
      exact gTg_Ok k2 ho ((q.mono s.c).imm k'.vin m) e fun σ1 k1 => p σ1 H' _ k1
    · cases f'
  · cases f'
/-- a list's item read ahead of xs[k] += e -/
def rGetL : V → V → Hp → VK → Prop := fun x y H Q => ∃ p xs i v, x = .ref p ∧ y = .int i ∧ H p = some (.lst xs) ∧ 0 ≤ i ∧ i < 1000000 ∧ xs[i.toNat]? = some v ∧ Q v H
theorem get_list {X : Cx} : PGet X rGetL := by
  intro pins s σ H x y v u Q I rx ry h
  obtain ⟨p, xs, i, z, rfl, rfl, hq, h0, h1, he, q⟩ := h
  cases rx
  obtain ⟨t, rfl⟩ := ry
  obtain ⟨its, r, pl, hz⟩ := I.list (.of hq)
  obtain ⟨w, ew, rw'⟩ := r.get he
  exact wpAny_getItem_list pl.isList h0 (by omega) (by simpa using ew) ⟨z, H, I, rw', q⟩
theorem rs_setAug {g : Int → Int → Int} {i : Nat} {f f2 : En → Option D} (hi : i ∈ O) (h : rdS K O (sSetAug g i f2 f) D' σ H) : tAugS (tVar i) (rdE K f2) (rdE K f) rGetL (ipI g) rSetL D' σ H := by
  obtain ⟨H0, Hv0, Hb, Hv, ρ, o, k, f', p⟩ := h
  unfold sSetAug at f'
  split at f'
  · rename_i ds z b e1 e2 e3
    split at f'
    · rename_i j ej
      split at f'
      case isFalse => cases f'
      rename_i hz
      split at f'
      · rename_i a ea
        cases f'
        have hρ := eV_some e1
        obtain ⟨l, vs, ds', a1, a2, a3, a4, a5, a6⟩ := k.owL hi hρ
        cases a1
        have hj : z.toNat = j := by
          unfold ixN at ej
          rw [if_pos hz.1] at ej
          split at ej
          · exact Option.some.inj ej
          · cases ej
        obtain ⟨v, hv, dv⟩ := a6.get ea
        cases dv
        refine ⟨_, a2, H, ρ, _, .refl _, k.full, e2, fun v1 H1 Hv1 s1 q1 => ?_⟩
        cases q1
        refine ⟨l, vs, z, _, rfl, rfl, s1.a _ _ a5, hz.1, hz.2, by rw [hj]; exact hv, ?_⟩
        have k1 := k.grow s1.a
        refine ⟨H1, ρ, _, .refl _, k1.full, e3, fun v2 H2 Hv2 s2 q2 => ?_⟩
        cases q2
        refine ⟨a, b, rfl, rfl, ?_⟩
        have k2 := k1.grow s2.a
        exact ⟨l, vs, z, j, rfl, rfl, s2.a _ _ (s1.a _ _ a5), by rw [a6.length]; exact ej, p _ _ Hv (k2.upd hi hρ a2 a3 a4 (.lst (a6.set j (.int _))))⟩
      · cases f'
    · cases f'
  · cases f'
theorem seqIndex_nat {z : Int} {n : Nat} (h0 : 0 ≤ z) (h : z.toNat < n) : seqIndex? z n = some z.toNat := by
  have e : ixN n z = some z.toNat := by
    unfold ixN
    rw [if_pos h0, if_pos (by omega)]
  exact (ixN_seq e).1
theorem rs_popApp {i j : Nat} {f : En → Option D} (hi : i ∈ O) (hj : j ∈ O) (hij : i ≠ j) (h : rdS K O (sPopApp i j f) D' σ H) :
    tDrop (tBM K "list" rAppend (tVar i) (tCons (tBM K "list" rPopAt (tVar j) (tCons (rdE K f) tNil)) tNil)) D' σ H := by
  obtain ⟨H0, Hv0, Hb, Hv, ρ, o, k, f', p⟩ := h
  unfold sPopApp at f'
  split at f'
  · rename_i xs ys z e1 e2 e3
    split at f'
    case isFalse => cases f'
    rename_i hz
    split at f'
    · rename_i y ey
      split at f'
      case isFalse => cases f'
      rename_i c
      cases f'
      have hρi := eV_some e1
      have hρj := eV_some e2
      obtain ⟨a, vs, _, a1, a2, a3, a4, a5, a6⟩ := k.owL hi hρi
      obtain ⟨b, ws, _, b1, b2, b3, b4, b5, b6⟩ := k.owL hj hρj
      cases a1; cases b1
      have nab : a ≠ b := fun e => by subst e; exact hij (k.sep i j _ _ a hi hj hρi hρj a2 b2)
      obtain ⟨w, hw, dw⟩ := b6.get ey
      have hlt : z.toNat < ws.length := (List.getElem?_eq_some_iff.mp hw).1
      refine ⟨_, a2, Or.inl ⟨rfl, _, .inl (.inl a5)⟩, ?_⟩
      refine ⟨_, b2, Or.inl ⟨rfl, _, .inl (.inl b5)⟩, ?_⟩
      refine ⟨H, ρ, _, .refl _, k.full, e3, fun v1 H1 Hv1 s1 q1 => ?_⟩
      cases q1
      have k1 := k.grow s1.a
      refine ⟨b, ws, z, z.toNat, w, rfl, rfl, s1.a _ _ b5, by omega, by omega, seqIndex_nat hz.1 hlt, hw, ?_⟩
      have k2 := k1.upd hj hρj b2 b3 b4 (.lst (b6.erase z.toNat))
      refine ⟨a, vs, w, rfl, rfl, by rw [upd_ne nab]; exact s1.a _ _ a5, by rw [a6.length]; exact okLen_lt c, ?_⟩
      refine p _ _ Hv (k2.upd hi (de := .lst xs) ?_ a2 a3 a4 (.lst (a6.append (.cons dw .nil))))
      rw [List.getElem?_set_ne (Ne.symm hij)]
      exact hρi
    · cases f'
  · cases f'
theorem rs_extI {i : Nat} {f : En → Option (List D)} (hi : i ∈ O) (h : rdS K O (sExtI i f) D' σ H) : tDrop (tBM K "list" rExtend (tVar i) (tCons (rdF K f) tNil)) D' σ H := by
  obtain ⟨H0, Hv0, Hb, Hv, ρ, o, k, f', p⟩ := h
  unfold sExtI at f'
  split at f'
  · rename_i ds e
    have hρ := eV_some e
    obtain ⟨a, vs, ds', a1, a2, a3, a4, a5, a6⟩ := k.owL hi hρ
    cases a1
    obtain ⟨d, h1, f'⟩ := bind_some2 f'
    split at f'
    · rename_i c
      rw [Bool.and_eq_true] at c
      cases f'
      refine ⟨_, a2, Or.inl ⟨rfl, _, .inl (.inl a5)⟩, H, ρ, d, .refl _, k.full, h1, fun b ws H' Hv' s n n' hb q => ?_⟩
      have k' := k.grow s.a
      have k2 := k'.step (Hv' := tupV Hv H') ⟨.refl _, tupV_a _ _, tupV_c k'.vin, fun p o m hp n => tupV_h m hp n⟩
      have a5' := s.a _ _ a5
      exact ⟨a, b, vs, ws, rfl, rfl, a5', hb, by rw [a6.length, q.length]; exact okLen_le c.2, p _ _ _ (k2.upd hi hρ a2 a3 (tupV_h rfl a5' a4) (.lst ((a6.mono (tupV_a _ _)).append ((q.mono s.c).imm k'.vin c.1))))⟩
    · cases f'
  · cases f'
end
section
variable {X : Cx} {O : List Nat} {i j : Nat} {st : Stmt} {pos : Pos} {e : Expr} {f : En → Option D}
theorem td_tru (h : PE X e (rdE X.K f)) (he : ∀ whole, isTrue e X.env whole = (do let v ← whole; standAt e.pos; holding [v] (truthy v)) := by intro _; rfl) : PT X e (rdT X.K (tTru f)) := pt_imp (pt_truth h he) fun _ _ _ => rd_tru
theorem pd_isN {k : Nat} {p2 : Pos} (h : PE X e (rdE X.K f)) : PE X (.Compare e [.Is] [.Constant .none k p2] pos) (rdE X.K (e1 isNonD f)) := pe_imp (pe_cmp (pc_isN h) rfl) fun _ _ _ => rd_isN
theorem pd_notN {k : Nat} {p2 : Pos} (h : PE X e (rdE X.K f)) : PE X (.Compare e [.IsNot] [.Constant .none k p2] pos) (rdE X.K (e1 notNonD f)) := pe_imp (pe_cmp (pc_notN h) rfl) fun _ _ _ => rd_notN
theorem td_isN {k : Nat} {p2 : Pos} (h : PE X e (rdE X.K f)) : PT X (.Compare e [.Is] [.Constant .none k p2] pos) (rdT X.K (tB2 (e1 isNonD f))) := pt_imp (pt_cmp (pc_isN h) rfl) fun _ _ _ => rd_tB fun _ _ _ => rd_isN
theorem td_notN {k : Nat} {p2 : Pos} (h : PE X e (rdE X.K f)) : PT X (.Compare e [.IsNot] [.Constant .none k p2] pos) (rdT X.K (tB2 (e1 notNonD f))) := pt_imp (pt_cmp (pc_notN h) rfl) fun _ _ _ => rd_tB fun _ _ _ => rd_notN
theorem sd_aug {g : Int → Int → Int} (ho : i ∉ O) (h : PS X st (tAug i (rdE X.K f) (ipI g))) : PS X st (rdS X.K O (sAug g i f)) := ps_imp h fun _ _ _ => rs_aug ho
theorem sd_tg {t : Tgt} (ho : ∀ i ∈ t.slots, i ∉ O) (h : PS X st (tAsg (rdE X.K f) (gTg X.K t))) : PS X st (rdS X.K O (sTg O t f)) := ps_imp h fun _ _ _ => rs_tg ho
theorem sd_tgI {t : Tgt} (ho : ∀ i ∈ t.slots, i ∉ O) (h : PS X st (tAsg (rdE X.K f) (gTg X.K t))) : PS X st (rdS X.K O (sTgI t f)) := ps_imp h fun _ _ _ => rs_tgI ho
theorem sd_setAug {g : Int → Int → Int} {f2 : En → Option D} (ho : i ∈ O) (h : PS X st (tAugS (tVar i) (rdE X.K f2) (rdE X.K f) rGetL (ipI g) rSetL)) : PS X st (rdS X.K O (sSetAug g i f2 f)) := ps_imp h fun _ _ _ => rs_setAug ho
theorem sd_popApp (hi : i ∈ O) (hj : j ∈ O) (hij : i ≠ j) (h : PS X st (tDrop (tBM X.K "list" rAppend (tVar i) (tCons (tBM X.K "list" rPopAt (tVar j) (tCons (rdE X.K f) tNil)) tNil)))) : PS X st (rdS X.K O (sPopApp i j f)) := ps_imp h fun _ _ _ => rs_popApp hi hj hij
theorem sd_extI {ff : En → Option (List D)} (hi : i ∈ O) (h : PS X st (tDrop (tBM X.K "list" rExtend (tVar i) (tCons (rdF X.K ff) tNil)))) : PS X st (rdS X.K O (sExtI i ff)) := ps_imp h fun _ _ _ => rs_extI hi
/-- x = [.. for ..] on one line, x a plain local -/
theorem sd_asgC {own : List Nat} {src : En → Option (List D)} {t : Tgt} {test : En → Option Bool} {fe : En → Option D} (ho : i ∉ O) (hw : ∀ k ∈ t.slots, k ∈ own) (h : PS X st (tAsg (tLc (rdI X.K src) (gTg X.K t) (rdT X.K test) (rdE X.K fe) own) (gName i))) :
    PS X st (rdS X.K O (sAsg O i (eFr (eComp own src t test fe)))) := ps_imp h fun D σ H q => by
  have := rs_asg ho q
  exact rd_comp hw (rd_fr this)
theorem sd_asgCI {own : List Nat} {src : En → Option (List D)} {t : Tgt} {test : En → Option Bool} {fe : En → Option D} (ho : i ∉ O) (hw : ∀ k ∈ t.slots, k ∈ own) (h : PS X st (tAsg (tLc (rdI X.K src) (gTg X.K t) (rdT X.K test) (rdE X.K fe) own) (gName i))) :
    PS X st (rdS X.K O (sAsgI i (eFr (eComp own src t test fe)))) := ps_imp h fun D σ H q => by
  have := rs_asgI ho q
  exact rd_comp hw (rd_fr this)
theorem sd_asgCO {own : List Nat} {src : En → Option (List D)} {t : Tgt} {test : En → Option Bool} {fe : En → Option D} (ho : i ∈ O) (hw : ∀ k ∈ t.slots, k ∈ own) (h : PS X st (tAsg (tLc (rdI X.K src) (gTg X.K t) (rdT X.K test) (rdE X.K fe) own) (gName i))) :
    PS X st (rdS X.K O (sAsgO O i (eComp own src t test fe))) := ps_imp h fun D σ H q => by
  have := rs_asgO ho q
  exact rd_comp hw this
theorem sd_asgCOI {own : List Nat} {src : En → Option (List D)} {t : Tgt} {test : En → Option Bool} {fe : En → Option D} (ho : i ∈ O) (hw : ∀ k ∈ t.slots, k ∈ own) (h : PS X st (tAsg (tLc (rdI X.K src) (gTg X.K t) (rdT X.K test) (rdE X.K fe) own) (gName i))) :
    PS X st (rdS X.K O (sAsgOI i (eComp own src t test fe))) := ps_imp h fun D σ H q => by
  have := rs_asgOI ho q
  exact rd_comp hw this
theorem id_r3 {tg a b c : Expr} {ff : En → Option (List D)} {p : Pos} (h : PI X tg (.Call (.Name "range" p) [a, b, c] [] pos) (iRng3 (rdA X.K ff))) : PI X tg (.Call (.Name "range" p) [a, b, c] [] pos) (rdI X.K (iR3 ff)) := pi_imp h fun _ _ _ => ri_r3
end
/-! equations -/
section
def augX (g : Int → Int → Int) (i : Nat) : Option D → Option D → En → Option Out
  | some (.int a), some (.int b), ρ => some (.nx (ρ.set i (some (.int (g a b)))))
  | _, _, _ => none
def tgIX (t : Tgt) : Option D → En → Option Out
  | some d, ρ => if imm d then tgX t (some d) ρ else none
  | none, _ => none
def extIX (i : Nat) : Option D → Option (List D) → En → Option Out
  | some (.lst xs), some ys, ρ => if imms ys && okLen (xs.length + ys.length) then some (.nx (ρ.set i (some (.lst (xs ++ ys))))) else none
  | _, _, _ => none
def popPut (i j : Nat) (xs ys : List D) (z : Int) (ρ : En) : Option D → Option Out
  | some y => if okLen xs.length then some (.nx ((ρ.set j (some (.lst (ys.eraseIdx z.toNat)))).set i (some (.lst (xs ++ [y]))))) else none
  | none => none
def popX (i j : Nat) : Option D → Option D → Option D → En → Option Out
  | some (.lst xs), some (.lst ys), some (.int z), ρ => if 0 ≤ z ∧ z < 1000000 then popPut i j xs ys z ρ (ys[z.toNat]?) else none
  | _, _, _, _ => none
def setAugPut (g : Int → Int → Int) (i : Nat) (ds : List D) (b : Int) (j : Nat) (ρ : En) : Option D → Option Out
  | some (.int a) => some (.nx (ρ.set i (some (.lst (ds.set j (.int (g a b)))))))
  | _ => none
def setAugJ (g : Int → Int → Int) (i : Nat) (ds : List D) (z b : Int) (ρ : En) : Option Nat → Option Out
  | some j => if 0 ≤ z ∧ z < 1000000 then setAugPut g i ds b j ρ (ds[j]?) else none
  | none => none
def setAugX (g : Int → Int → Int) (i : Nat) : Option D → Option D → Option D → En → Option Out
  | some (.lst ds), some (.int z), some (.int b), ρ => setAugJ g i ds z b ρ (ixN ds.length z)
  | _, _, _, _ => none
variable {O : List Nat} {i j : Nat} {ρ : En} {f f2 : En → Option D} {ff : En → Option (List D)} {t : Tgt} {g : Int → Int → Int}
theorem x_aug : sAug g i f ρ = augX g i (eV i ρ) (f ρ) ρ := by
  unfold sAug
  cases eV i ρ with
  | none => rfl
  | some d => cases d <;> first | rfl | (cases f ρ with | none => rfl | some d2 => cases d2 <;> rfl)
theorem x_tg : sTg O t f ρ = tgX t (f (mask O ρ)) ρ := (rfl)
theorem x_tgI : sTgI t f ρ = tgIX t (f ρ) ρ := by unfold sTgI; cases f ρ <;> rfl
theorem x_tru : tTru f ρ = truO (f ρ) := (rfl)
theorem x_extI : sExtI i ff ρ = extIX i (eV i ρ) (ff ρ) ρ := by
  unfold sExtI
  cases eV i ρ with
  | none => rfl
  | some d => cases d <;> cases ff ρ <;> rfl
theorem x_popApp : sPopApp i j f ρ = popX i j (eV i ρ) (eV j ρ) (f ρ) ρ := by
  unfold sPopApp
  cases eV i ρ with
  | none => rfl
  | some d =>
    cases d <;> try rfl
    cases eV j ρ with
    | none => rfl
    | some d2 =>
      cases d2 <;> try rfl
      cases f ρ with
      | none => rfl
      | some d3 =>
        cases d3 <;> first | rfl | (simp only [popX]; split <;> first | rfl | (split <;> rename_i h <;> simp only [h, popPut]))
theorem x_setAug : sSetAug g i f2 f ρ = setAugX g i (eV i ρ) (f2 ρ) (f ρ) ρ := by
  unfold sSetAug
  cases eV i ρ with
  | none => rfl
  | some d =>
    cases d <;> try rfl
    cases f2 ρ with
    | none => rfl
    | some d2 =>
      cases d2 <;> try rfl
      cases f ρ with
      | none => rfl
      | some d3 =>
        cases d3 <;> rfl
theorem q_stp1 {i0 : Nat} {a : D} : stD (.tp [i0]) (.tup [a]) ρ = some (ρ.set i0 (some a)) := (rfl)
theorem q_stp2 {i0 i1 : Nat} {a b : D} : stD (.tp [i0, i1]) (.tup [a, b]) ρ = some ((ρ.set i0 (some a)).set i1 (some b)) := (rfl)
theorem q_stp3 {i0 i1 i2 : Nat} {a b c : D} : stD (.tp [i0, i1, i2]) (.tup [a, b, c]) ρ = some (((ρ.set i0 (some a)).set i1 (some b)).set i2 (some c)) := (rfl)
theorem q_stp4 {i0 i1 i2 i3 : Nat} {a b c d : D} : stD (.tp [i0, i1, i2, i3]) (.tup [a, b, c, d]) ρ = some ((((ρ.set i0 (some a)).set i1 (some b)).set i2 (some c)).set i3 (some d)) := (rfl)
theorem q_tgp2 {i0 i1 : Nat} {a b : D} : tgX (.tp [i0, i1]) (some (.tup [a, b])) ρ = some (.nx ((ρ.set i0 (some a)).set i1 (some b))) := (rfl)
theorem q_tgp3 {i0 i1 i2 : Nat} {a b c : D} : tgX (.tp [i0, i1, i2]) (some (.tup [a, b, c])) ρ = some (.nx (((ρ.set i0 (some a)).set i1 (some b)).set i2 (some c))) := (rfl)
theorem q_aug {a b : Int} : augX g i (some (.int a)) (some (.int b)) ρ = some (.nx (ρ.set i (some (.int (g a b))))) := (rfl)
theorem q_tg {ρ' : En} {d : D} (h : stD t d ρ = some ρ') : tgX t (some d) ρ = some (.nx ρ') := by simp only [tgX, h]
theorem q_tgN {k : Nat} {d : D} : tgX (.nm k) (some d) ρ = some (.nx (ρ.set k (some d))) := (rfl)
theorem q_tgT {is : List Nat} {ds : List D} : tgX (.tp is) (some (.tup ds)) ρ = if is.length = ds.length then some (.nx (setAll is ds ρ)) else none := by
  simp only [tgX, stD]
  split <;> (rename_i h; split at h <;> simp_all)
theorem q_tgI {d : D} : tgIX t (some d) ρ = if imm d then tgX t (some d) ρ else none := (rfl)
theorem q_tru {d : D} : truO (some d) = truD d := (rfl)
theorem q_truL {l : List D} : truD (.lst l) = some (!l.isEmpty) := (rfl)
theorem q_truI {z : Int} : truD (.int z) = some (z != 0) := (rfl)
theorem q_truB {z : Bool} : truD (.bl z) = some z := (rfl)
theorem q_truN : truD .non = some false := (rfl)
theorem q_extI {xs ys : List D} : extIX i (some (.lst xs)) (some ys) ρ = if imms ys && okLen (xs.length + ys.length) then some (.nx (ρ.set i (some (.lst (xs ++ ys))))) else none := (rfl)
theorem q_pop1 {xs ys : List D} {z : Int} : popX i j (some (.lst xs)) (some (.lst ys)) (some (.int z)) ρ = if 0 ≤ z ∧ z < 1000000 then popPut i j xs ys z ρ (ys[z.toNat]?) else none := (rfl)
theorem q_pop2 {xs ys : List D} {z : Int} {y : D} : popPut i j xs ys z ρ (some y) = if okLen xs.length then some (.nx ((ρ.set j (some (.lst (ys.eraseIdx z.toNat)))).set i (some (.lst (xs ++ [y]))))) else none := (rfl)
theorem q_sa3 {ds : List D} {z b : Int} : setAugX g i (some (.lst ds)) (some (.int z)) (some (.int b)) ρ = setAugJ g i ds z b ρ (ixN ds.length z) := (rfl)
theorem q_sa4 {ds : List D} {z b : Int} : setAugJ g i ds z b ρ (some j) = if 0 ≤ z ∧ z < 1000000 then setAugPut g i ds b j ρ (ds[j]?) else none := (rfl)
theorem q_sa5 {ds : List D} {a b : Int} : setAugPut g i ds b j ρ (some (.int a)) = some (.nx (ρ.set i (some (.lst (ds.set j (.int (g a b))))))) := (rfl)
theorem q_isN1 : isNonD .non = some (.bl true) := (rfl)
theorem q_notN1 : notNonD .non = some (.bl false) := (rfl)
theorem q_isN2 {z : Int} : isNonD (.int z) = some (.bl false) := (rfl)
theorem q_notN2 {z : Int} : notNonD (.int z) = some (.bl true) := (rfl)
theorem q_isN3 {z : List D} : isNonD (.tup z) = some (.bl false) := (rfl)
theorem q_notN3 {z : List D} : notNonD (.tup z) = some (.bl true) := (rfl)
theorem q_isN4 {z : List D} : isNonD (.lst z) = some (.bl false) := (rfl)
theorem q_notN4 {z : List D} : notNonD (.lst z) = some (.bl true) := (rfl)
end
/-- a tuple of two ints that the top has written -/
theorem tup2_dn {K : PySem.W.Frag} {c : Addr} {od : Option Addr} {i j : Int} {t u : Tok} {n : Nat} {sl : Array (Option Value)} (h : K.lookup c = some ⟨.type "tuple", od, .seq #[.int i t, .int j u] n, sl⟩) (H : Hp) : Dn K H (.ref c) (.tup [.int i, .int j]) :=
  .tup (vs := [.int i, .int j]) (.inr ⟨_, _, _, h, rfl, rfl, (by show 2 ≤ sizeLine; rw [sizeLine_eq]; decide), .cons ⟨_, rfl⟩ (.cons ⟨_, rfl⟩ .nil)⟩) (.cons (.int i) (.cons (.int j) .nil))
theorem pd_globE {X : Cx} {x : Str} {v : V} {d : D} {pos : Pos} (hm : ∃ u, X.mg x = some u ∧ RelV v u) (hd : ∀ H, Dn X.K H v d) (hg : Gl X x := by rfl) (hb : (x == ("__debug__" : Str)) = false := by decide) : PE X (.Name x pos) (rdE X.K (eC d)) := by
  obtain ⟨u, h1, h2⟩ := hm
  exact pd_glob hg h1 h2 hd hb
/-- the fuel of «while xs» where each turn takes an item -/
def fuelL (i : Nat) (ρ : En) : Nat := match eV i ρ with | some (.lst l) => l.length + 1 | _ => 0
end PD
namespace PD
open PySem L2
/-! ### texts -/
section
variable {K : PySem.W.Frag}
def dCat : D → D → Option D
  | .str a, .str b => if okLen (a.length + b.length) then some (.str (a ++ b)) else none
  | _, _ => none
theorem ok_cat : Ok2 K (fun x y H Q => ∃ i j, x = .str i ∧ y = .str j ∧ i.length + j.length ≤ sizeLine ∧ Q (.str (i ++ j)) H) dCat := by
  intro H Hv x y a b d Q e hx hy h k
  unfold dCat at h
  split at h
  · cases hx; cases hy
    split at h
    · rename_i c
      cases h
      exact ⟨_, _, rfl, rfl, okLen_le c, k _ H Hv (.refl e) (.str _)⟩
    · cases h
  · cases h
def dIn : D → D → Option D
  | .str a, .str b => some (.bl (!(Builtin.Str.occurrences b a 0 b.length 1).isEmpty))
  | _, _ => none
theorem ok_in : Ok2 K (fun x y H Q => ∃ i j, x = .str i ∧ y = .str j ∧ Q (.bl (!(Builtin.Str.occurrences j i 0 j.length 1).isEmpty)) H) dIn := by
  intro H Hv x y a b d Q e hx hy h k
  unfold dIn at h
  split at h
  · cases hx; cases hy; cases h
    exact ⟨_, _, rfl, rfl, k _ H Hv (.refl e) (.bl _)⟩
  · cases h
def dNin : D → D → Option D
  | .str a, .str b => some (.bl (!(!(Builtin.Str.occurrences b a 0 b.length 1).isEmpty)))
  | _, _ => none
theorem ok_nin : Ok2 K (fun x y H Q => ∃ i j, x = .str i ∧ y = .str j ∧ Q (.bl (!(!(Builtin.Str.occurrences j i 0 j.length 1).isEmpty))) H) dNin := by
  intro H Hv x y a b d Q e hx hy h k
  unfold dNin at h
  split at h
  · cases hx; cases hy; cases h
    exact ⟨_, _, rfl, rfl, k _ H Hv (.refl e) (.bl _)⟩
  · cases h
def cStr : List D → Option D
  | [.int i] => if i.natAbs.log2 < 1920 then some (.str (Str.ofString (toString i))) else none
  | _ => none
theorem okc_str : OkC K (fun xs H Q => ∃ i, xs = [.int i] ∧ i.natAbs.log2 < 1920 ∧ Q (.str (toString i)) H) cStr := by
  intro H Hv vs ds d Q e r h k
  unfold cStr at h
  split at h
  · cases r with
    | cons q r =>
      cases r; cases q
      split at h
      · rename_i c
        cases h
        exact ⟨_, rfl, c, k _ H Hv (.refl e) (.str _)⟩
      · cases h
  · cases h
def cIntS : List D → Option D
  | [.str a] => if a.length ≤ 640 then (PySem.intText? a).map D.int else none
  | _ => none
theorem okc_intS : OkC K (fun xs H Q => ∃ a n, xs = [.str a] ∧ PySem.intText? a = some n ∧ a.length ≤ 640 ∧ Q (.int n) H) cIntS := by
  intro H Hv vs ds d Q e r h k
  unfold cIntS at h
  split at h
  · cases r with
    | cons q r =>
      cases r; cases q
      split at h
      · rename_i c
        cases e1 : PySem.intText? _ with
        | none => rw [e1] at h; cases h
        | some n =>
          rw [e1] at h
          cases h
          exact ⟨_, n, rfl, e1, c, k _ H Hv (.refl e) (.int _)⟩
      · cases h
  · cases h
/-- text.split(by) -/
def eSplit (f g : En → Option D) (ρ : En) : Option (List D) := match f ρ, g ρ with
  | some (.str a), some (.str b) => if !(b.length == 0) && okLen (a.length + 2) then some ((Txt.split a b).map D.str) else none
  | _, _ => none
theorem dns_strs {H : Hp} : ∀ l : List Str, Dns K H (l.map V.str) (l.map D.str)
  | [] => .nil
  | s :: l => .cons (.str s) (dns_strs l)
variable {σ : St} {H : Hp}
theorem rd_split {f g : En → Option D} {Q : VK} (h : rdF K (eSplit f g) σ H Q) : tM1 (fun x xs H Q => ∃ a b, x = .str a ∧ xs = [.str b] ∧ (b.length == 0) = false ∧ a.length + 2 ≤ sizeLine ∧ rNewStrs (Txt.split a b) H Q) (rdE K f) (rdE K g) σ H Q := by
  obtain ⟨Hv, ρ, ds, e, en, f', k⟩ := h
  unfold eSplit at f'
  split at f'
  · rename_i a b e1 e2
    split at f'
    · rename_i c
      rw [Bool.and_eq_true, Bool.not_eq_true'] at c
      cases f'
      refine ⟨Hv, ρ, _, e, en, e1, fun v1 H1 Hv1 s1 d1 => ?_⟩
      cases d1
      refine ⟨⟨_, rfl⟩, Hv1, ρ, _, s1.c, en.mono s1.b, e2, fun v2 H2 Hv2 s2 d2 => ?_⟩
      cases d2
      refine ⟨_, _, rfl, rfl, c.1, okLen_le c.2, fun p hp => ?_⟩
      have s12 := s1.trans s2
      have hn : H p = none := by
        cases eh : H p with
        | none => rfl
        | some o => rw [s12.a _ _ eh] at hp; cases hp
      have nv : Hv2 p = none := s2.c.free hp
      exact k p _ _ Hv2 (s12.trans ⟨sameNew hp, .refl _, fun a u q => sameNew hp _ _ (s2.c _ _ q), fun q o m hq n => n⟩) hn nv upd_same (dns_strs _)
    · cases f'
  · cases f'
/-- for sign in text -/
def iS (f : En → Option D) (ρ : En) : Option (List D) := match f ρ with | some (.str z) => some (z.cps.toList.map fun c => D.str ⟨#[c]⟩) | _ => none
theorem walk_str {Hv1 : Hp} (z : Str) : Walk K Hv1 (Its z) (z.cps.toList.map fun c => D.str ⟨#[c]⟩) := by
  intro i H Hv s1 s2
  rw [List.getElem?_map, Array.getElem?_toList]
  refine ⟨fun d e => ?_, fun e => ?_⟩
  · cases e1 : z.cps[i]? with
    | none => rw [e1] at e; cases e
    | some c =>
      rw [e1] at e
      cases e
      refine ⟨?_, fun x H' y => ?_⟩
      · show i < z.cps.size
        exact (Array.getElem?_eq_some_iff.mp e1).1
      · obtain ⟨h1, c', h2, h3⟩ := y
        subst h1 h3
        rw [e1] at h2
        cases h2
        exact ⟨Hv, .refl s2, .str _⟩
  · cases e1 : z.cps[i]? with
    | none => exact Array.getElem?_eq_none_iff.mp e1
    | some c => rw [e1] at e; cases e
theorem ri_str {R : It → Hp → Prop} {f : En → Option D} (h : rdI K (iS f) σ H R) : iStr (rdE K f) σ H R := by
  obtain ⟨Hv, ρ, ds, e, en, f', k⟩ := h
  unfold iS at f'
  split at f'
  · rename_i l e1
    cases f'
    refine ⟨Hv, ρ, _, e, en, e1, fun v H' Hv' s q => ?_⟩
    cases q
    exact ⟨_, rfl, k _ H' Hv' s (walk_str _)⟩
  · cases f'
end
section
variable {X : Cx} {e o a b tg : Expr} {f g : En → Option D} {pos apos p2 : Pos} {O : List Nat}
theorem pd_cat (ha : PE X a (rdE X.K f)) (hb : PE X b (rdE X.K g)) : PE X (.BinOp a .Add b pos) (rdE X.K (e2 dCat f g)) := pd_op op_add_str ok_cat ha hb
theorem pd_in (ha : PE X a (rdE X.K f)) (hb : PE X b (rdE X.K g)) (hm : behindInMarks .In b = false := by rfl) : PE X (.Compare a [.In] [b] pos) (rdE X.K (e2 dIn f g)) := pd_cmp op_in_str ok_in ha hb hm
theorem pd_nin (ha : PE X a (rdE X.K f)) (hb : PE X b (rdE X.K g)) (hm : behindInMarks .NotIn b = false := by rfl) : PE X (.Compare a [.NotIn] [b] pos) (rdE X.K (e2 dNin f g)) := pd_cmp op_notin_str ok_nin ha hb hm
theorem pt_in (ha : PE X a (rdE X.K f)) (hb : PE X b (rdE X.K g)) (hm : behindInMarks .In b = false := by rfl) : PT X (.Compare a [.In] [b] pos) (rdT X.K (tB2 (e2 dIn f g))) := pt_cmpd op_in_str ok_in ha hb hm
theorem pt_nin (ha : PE X a (rdE X.K f)) (hb : PE X b (rdE X.K g)) (hm : behindInMarks .NotIn b = false := by rfl) : PT X (.Compare a [.NotIn] [b] pos) (rdT X.K (tB2 (e2 dNin f g))) := pt_cmpd op_notin_str ok_nin ha hb hm
theorem pf_split (ho : PE X o (rdE X.K f)) (he : PE X e (rdE X.K g)) (hs : starEach [e] X.env = [(false, eval e X.env)] := by rfl) (hbase : attributeBase o "split" X.env (eval o X.env) = eval o X.env := by rfl) (hline : (apos.endLine == pos.line) = true := by rfl) :
    PE X (.Call (.Attribute o "split" apos) [e] [] pos) (rdF X.K (eSplit f g)) := pe_imp (pe_split ho he hs hbase hline) fun _ _ _ => rd_split
theorem id_str (h : PE X e (rdE X.K f)) : PI X tg e (rdI X.K (iS f)) := pi_imp (pi_str h) fun _ _ _ => ri_str
/-- what is never reached -/
def sNo (_ : En) : Option Out := none
theorem sd_no {st : Stmt} : PS X st (rdS X.K O sNo) := ⟨fun pins s D σ H I w => by
  obtain ⟨_, _, _, _, _, _, _, e, _⟩ := w
  cases e⟩
end
/-! ### reckoning -/
def splX : Option D → Option D → Option (List D)
  | some (.str a), some (.str b) => if !(b.length == 0) && okLen (a.length + 2) then some ((Txt.split a b).map D.str) else none
  | _, _ => none
def iSX : Option D → Option (List D)
  | some (.str z) => some (z.cps.toList.map fun c => D.str ⟨#[c]⟩)
  | _ => none
section
variable {f g : En → Option D} {ρ : En} {a b : Str} {i : Int}
theorem x_split : eSplit f g ρ = splX (f ρ) (g ρ) := by
  unfold eSplit
  cases f ρ with
  | none => rfl
  | some d =>
    cases d
    case str a =>
     cases g ρ with
     | none => rfl
     | some d2 => cases d2 <;> rfl
    all_goals rfl
theorem x_iS : iS f ρ = iSX (f ρ) := by
  unfold iS
  cases f ρ with
  | none => rfl
  | some d => cases d <;> rfl
theorem q_split : splX (some (.str a)) (some (.str b)) = if !(b.length == 0) && okLen (a.length + 2) then some ((Txt.split a b).map D.str) else none := (rfl)
theorem q_iS : iSX (some (.str a)) = some (a.cps.toList.map fun c => D.str ⟨#[c]⟩) := (rfl)
theorem q_cat : dCat (.str a) (.str b) = if okLen (a.length + b.length) then some (.str (a ++ b)) else none := (rfl)
theorem q_in : dIn (.str a) (.str b) = some (.bl (!(Builtin.Str.occurrences b a 0 b.length 1).isEmpty)) := (rfl)
theorem q_nin : dNin (.str a) (.str b) = some (.bl (!(!(Builtin.Str.occurrences b a 0 b.length 1).isEmpty))) := (rfl)
theorem q_str : cStr [.int i] = if i.natAbs.log2 < 1920 then some (.str (Str.ofString (toString i))) else none := (rfl)
theorem q_intS : cIntS [.str a] = if a.length ≤ 640 then (PySem.intText? a).map D.int else none := (rfl)
theorem q_ix3 : dIx (.str a) (.int i) = if okLen a.length then (atI a.cps.toList i).map fun c => .str ⟨#[c]⟩ else none := (rfl)
end
end PD
set_option exponentiation.threshold 100000
open PD in
local macro_rules | `(tactic| walk_at "ev") => `(tactic| simp (config := { decide := false, failIfUnchanged := false }) only [x_split, x_iS, q_split, q_iS, q_cat, q_in, q_nin, q_str, q_intS, q_ix3, x_aug, x_tg, x_tgI, x_tru, x_extI, x_popApp, x_setAug, q_aug, q_tgN, q_tgp2, q_tgp3, q_stp1, q_stp2, q_stp3, q_stp4, q_tgI, q_tru, q_truL, q_truI, q_truB, q_truN, q_extI, q_pop1, q_pop2, q_sa3, q_sa4, q_sa5, q_isN1, q_notN1, q_isN2, q_notN2, q_isN3, q_notN3, q_isN4, q_notN4, q_wIf1, q_wIf2, q_wNext1, q_wNext2, q_wNext3, q_wNext4, q_wNext5, x_seq, x_if, x_2, x_1, x_cons, x_tup, x_lst, x_fr, x_cb, x_cf, x_tb, x_and, x_or, x_not, x_andE, x_orE, x_ifE, x_asg, x_asgI, x_asgO, x_asgOI, x_ret, x_retF, x_retO, x_par, x_app, x_appI, x_setI, x_for, x_comp, x_oS, x_sl, x_slS, x_iL, x_iT, x_iR1, x_iR2, x_iZ, x_iE, x_chain, x_getD0,
  q_seq1, q_seq2, q_seq3, q_seq4, q_seq5, q_if1, q_if2, q_bin, q_un, q_cons, q_tup, q_lst, q_fr, q_cb, q_cf, q_bl, q_and1, q_and2, q_or1, q_or2, q_not, q_andE1, q_andE2, q_orE1, q_orE2, q_ifE1, q_ifE2, q_asg, q_asgI, q_asgO, q_asgOI, q_ret, q_retF, q_retO, q_par, q_app, q_appI, q_set1, q_set2, q_for, q_next0, q_next1, q_next2, q_next3, q_next4, q_turn, q_comp, q_o, q_sl, q_slS, q_iL, q_iT, q_iR1, q_iR2, q_iZ, q_iE, q_ch1, q_ch2, q_dAdd, q_dSub, q_dMul, q_dDiv, q_dMod, q_dPow, q_dLt, q_dLe, q_dGt, q_dGe, q_neg, q_eNot, q_abs, q_len1, q_len2, q_len3, q_int1, q_int2, q_list1, q_list2, q_min, q_max, q_isi_non_int, q_isi_non_bool, q_isi_non_str, q_isi_non_tuple, q_isi_non_list, q_isi_non_dict, q_isi_bl_int, q_isi_bl_bool, q_isi_bl_str, q_isi_bl_tuple, q_isi_bl_list, q_isi_bl_dict, q_isi_int_int, q_isi_int_bool, q_isi_int_str, q_isi_int_tuple, q_isi_int_list, q_isi_int_dict, q_isi_str_int, q_isi_str_bool, q_isi_str_str, q_isi_str_tuple, q_isi_str_list, q_isi_str_dict, q_isi_tup_int, q_isi_tup_bool, q_isi_tup_str, q_isi_tup_tuple, q_isi_tup_list, q_isi_tup_dict, q_isi_lst_int, q_isi_lst_bool, q_isi_lst_str, q_isi_lst_tuple, q_isi_lst_list, q_isi_lst_dict, q_isi_dic_int, q_isi_dic_bool, q_isi_dic_str, q_isi_dic_tuple, q_isi_dic_list, q_isi_dic_dict, q_outD1, q_outD2, q_outD3, q_outF, q_st, q_sa1, q_sa2, q_mask1, q_mask2, q_nil, q_brk, q_cont, q_retN, q_eC, q_eV, q_aNil, q_tT, q_oN, q_ix1, q_ix2, q_at0, q_at1, q_at2, q_at3, q_at4, q_at5, q_imm1, q_imm2, q_imm3, q_imm4, q_imm5, q_imms1, q_imms2, q_set0, q_setS, q_set_1, q_get_1, q_set_2, q_get_2, q_set_3, q_get_3, q_set_4, q_get_4, q_set_5, q_get_5, q_set_6, q_get_6, q_set_7, q_get_7, q_set_8, q_get_8, q_set_9, q_get_9, q_set_10, q_get_10, q_set_11, q_get_11, q_set_12, q_get_12, q_set_13, q_get_13, q_set_14, q_get_14, q_set_15, q_get_15,
  okLen, Int.reduceEq, Int.reduceAdd, Int.reduceSub, Int.reduceMul, Int.reduceNeg, Int.cast_ofNat_Int, List.length_cons, List.length_nil, List.length_map, List.map_cons, List.map_nil, Nat.reduceAdd, Nat.reduceLeDiff, Nat.reduceSub, Nat.reduceEqDiff, Int.reduceLT, Int.reduceLE, Int.reduceToNat, decide_true, decide_false, ite_true, ite_false, if_true, if_false, Bool.and_true, Bool.true_and, Bool.and_self, Bool.not_true, Bool.not_false, reduceCtorEq, Bool.false_eq_true, ↓reduceIte])
open PD in
local macro_rules | `(tactic| walk_at "evs") => `(tactic| simp (config := { decide := false, failIfUnchanged := false }) only [x_split, x_iS, q_split, q_iS, q_cat, q_in, q_nin, q_str, q_intS, q_ix3, x_aug, x_tg, x_tgI, x_tru, x_extI, x_popApp, x_setAug, q_aug, q_tgN, q_tgp2, q_tgp3, q_stp1, q_stp2, q_stp3, q_stp4, q_tgI, q_tru, q_truL, q_truI, q_truB, q_truN, q_extI, q_pop1, q_pop2, q_sa3, q_sa4, q_sa5, q_isN1, q_notN1, q_isN2, q_notN2, q_isN3, q_notN3, q_isN4, q_notN4, q_wIf1, q_wIf2, q_wNext1, q_wNext2, q_wNext3, q_wNext4, q_wNext5, x_seq, x_if, x_2, x_1, x_cons, x_tup, x_lst, x_fr, x_cb, x_cf, x_tb, x_and, x_or, x_not, x_andE, x_orE, x_ifE, x_asg, x_asgI, x_asgO, x_asgOI, x_ret, x_retF, x_retO, x_par, x_app, x_appI, x_setI, x_for, x_comp, x_oS, x_sl, x_slS, x_iL, x_iT, x_iR1, x_iR2, x_iZ, x_iE, x_chain, x_getD0,
  q_seq1, q_seq2, q_seq3, q_seq4, q_seq5, q_if1, q_if2, q_bin, q_un, q_cons, q_tup, q_lst, q_fr, q_cb, q_cf, q_bl, q_and1, q_and2, q_or1, q_or2, q_not, q_andE1, q_andE2, q_orE1, q_orE2, q_ifE1, q_ifE2, q_asg, q_asgI, q_asgO, q_asgOI, q_ret, q_retF, q_retO, q_par, q_app, q_appI, q_set1, q_set2, q_for, q_next0, q_next1, q_next2, q_next3, q_next4, q_turn, q_comp, q_o, q_sl, q_slS, q_iL, q_iT, q_iR1, q_iR2, q_iZ, q_iE, q_ch1, q_ch2, q_dAdd, q_dSub, q_dMul, q_dDiv, q_dMod, q_dPow, q_dLt, q_dLe, q_dGt, q_dGe, q_neg, q_eNot, q_abs, q_len1, q_len2, q_len3, q_int1, q_int2, q_list1, q_list2, q_min, q_max, q_isi_non_int, q_isi_non_bool, q_isi_non_str, q_isi_non_tuple, q_isi_non_list, q_isi_non_dict, q_isi_bl_int, q_isi_bl_bool, q_isi_bl_str, q_isi_bl_tuple, q_isi_bl_list, q_isi_bl_dict, q_isi_int_int, q_isi_int_bool, q_isi_int_str, q_isi_int_tuple, q_isi_int_list, q_isi_int_dict, q_isi_str_int, q_isi_str_bool, q_isi_str_str, q_isi_str_tuple, q_isi_str_list, q_isi_str_dict, q_isi_tup_int, q_isi_tup_bool, q_isi_tup_str, q_isi_tup_tuple, q_isi_tup_list, q_isi_tup_dict, q_isi_lst_int, q_isi_lst_bool, q_isi_lst_str, q_isi_lst_tuple, q_isi_lst_list, q_isi_lst_dict, q_isi_dic_int, q_isi_dic_bool, q_isi_dic_str, q_isi_dic_tuple, q_isi_dic_list, q_isi_dic_dict, q_outD1, q_outD2, q_outD3, q_outF, q_st, q_sa1, q_sa2, q_mask1, q_mask2, q_nil, q_brk, q_cont, q_retN, q_eC, q_eV, q_aNil, q_tT, q_oN, q_ix1, q_ix2, q_at0, q_at1, q_at2, q_at3, q_at4, q_at5, q_imm1, q_imm2, q_imm3, q_imm4, q_imm5, q_imms1, q_imms2, q_set0, q_setS, q_set_1, q_get_1, q_set_2, q_get_2, q_set_3, q_get_3, q_set_4, q_get_4, q_set_5, q_get_5, q_set_6, q_get_6, q_set_7, q_get_7, q_set_8, q_get_8, q_set_9, q_get_9, q_set_10, q_get_10, q_set_11, q_get_11, q_set_12, q_get_12, q_set_13, q_get_13, q_set_14, q_get_14, q_set_15, q_get_15,
  okLen, Int.reduceEq, Int.reduceAdd, Int.reduceSub, Int.reduceMul, Int.reduceNeg, Int.cast_ofNat_Int, List.length_cons, List.length_nil, List.length_map, List.map_cons, List.map_nil, Nat.reduceAdd, Nat.reduceLeDiff, Nat.reduceSub, Nat.reduceEqDiff, Int.reduceLT, Int.reduceLE, Int.reduceToNat, decide_true, decide_false, ite_true, ite_false, if_true, if_false, Bool.and_true, Bool.true_and, Bool.and_self, Bool.not_true, Bool.not_false, reduceCtorEq, Bool.false_eq_true, ↓reduceIte, *])
open PD in
local macro_rules | `(tactic| walk_at "op") => `(tactic| simp only [fn_1, fn_2, fn_3, fn_4, fn_5, fn_6, fnF_1, fnF_2, fnF_3, fnF_4, fnF_5, fnF_6, startD, List.map_cons, List.map_nil, List.length_cons, List.length_nil, Nat.reduceAdd, Nat.reduceSub, List.reduceReplicate, List.cons_append, List.nil_append, List.append_nil, Nat.sub_self])
namespace PM
open PySem L2 PD

/-! measure(one, other): slots 0:one 1:other -/
def measureB : En → Option Out := (sSeq (sAsg [] 0 (eCB cAbs (aCons (eV 0) aNil)))
  (sSeq (sWhile (fuelI 1) (tB2 (e2 dGt (eV 1) (eC (.int 0)))) (sPar [] 0 1 (eV 1) (e2 dMod (eV 0) (eV 1))))
  (sRet (eV 0))))
def measureF : List D → Option D := fnOut 2 2 measureB
/-! lowest(top, bottom): slots 0:top 1:bottom 2:by -/
def lowestB : En → Option Out := (sSeq (sAsg [] 2 (eCB measureF (aCons (eV 0) (aCons (eV 1) aNil))))
  (sRet (eTup (aCons (e2 dDiv (eV 0) (eV 2)) (aCons (e2 dDiv (eV 1) (eV 2)) aNil)))))
def lowestF : List D → Option D := fnOut 2 3 lowestB
/-! plus(a, b): slots 0:a 1:b -/
def plusB : En → Option Out := (sRet (eCB lowestF (aCons (e2 dAdd (e2 dMul (e2 dIx (eV 0) (eC (.int 0))) (e2 dIx (eV 1) (eC (.int 1)))) (e2 dMul (e2 dIx (eV 1) (eC (.int 0))) (e2 dIx (eV 0) (eC (.int 1))))) (aCons (e2 dMul (e2 dIx (eV 0) (eC (.int 1))) (e2 dIx (eV 1) (eC (.int 1)))) aNil))))
def plusF : List D → Option D := fnOut 2 2 plusB
/-! minus(a, b): slots 0:a 1:b -/
def minusB : En → Option Out := (sRet (eCB lowestF (aCons (e2 dSub (e2 dMul (e2 dIx (eV 0) (eC (.int 0))) (e2 dIx (eV 1) (eC (.int 1)))) (e2 dMul (e2 dIx (eV 1) (eC (.int 0))) (e2 dIx (eV 0) (eC (.int 1))))) (aCons (e2 dMul (e2 dIx (eV 0) (eC (.int 1))) (e2 dIx (eV 1) (eC (.int 1)))) aNil))))
def minusF : List D → Option D := fnOut 2 2 minusB
/-! times(a, b): slots 0:a 1:b -/
def timesB : En → Option Out := (sRet (eCB lowestF (aCons (e2 dMul (e2 dIx (eV 0) (eC (.int 0))) (e2 dIx (eV 1) (eC (.int 0)))) (aCons (e2 dMul (e2 dIx (eV 0) (eC (.int 1))) (e2 dIx (eV 1) (eC (.int 1)))) aNil))))
def timesF : List D → Option D := fnOut 2 2 timesB
/-! over(a, b): slots 0:a 1:b -/
def overB : En → Option Out := (sRet (eCB lowestF (aCons (e2 dMul (e2 dIx (eV 0) (eC (.int 0))) (e2 dIx (eV 1) (eC (.int 1)))) (aCons (e2 dMul (e2 dIx (eV 0) (eC (.int 1))) (e2 dIx (eV 1) (eC (.int 0)))) aNil))))
def overF : List D → Option D := fnOut 2 2 overB
/-! total(row): slots 0:row 1:found 2:a -/
def totalB : En → Option Out := (sSeq (sAsg [] 1 (eTup (aCons (eC (.int 0)) (aCons (eC (.int 1)) aNil))))
  (sSeq (sFor [] (iL (eV 0)) (.nm 2) (sAsg [] 1 (eCB plusF (aCons (eV 1) (aCons (eV 2) aNil)))))
  (sRet (eV 1))))
def totalF : List D → Option D := fnOut 1 3 totalB
/-! law_flow(law_script, law_many): slots 0:law_script 1:law_many 2:law_great 3:law_row 4:law_k 5:law_cell 6:law_mixed -/
def law_flowB : En → Option Out := (sSeq (sAsg [3] 2 (eC (.int 0)))
  (sSeq (sIf (fAnd (tB2 (e2 dGt (eCB cLen (aCons (eV 0) aNil)) (eC (.int 0)))) (tB2 (e2 dGe (eCB cAbs (aCons (e2 dIx (eV 0) (eC (.int 0))) aNil)) (e2 dPow (eC (.int 10)) (eC (.int 18)))))) (sAsg [3] 2 (e2 dSub (eCB cAbs (aCons (e2 dIx (eV 0) (eC (.int 0))) aNil)) (e2 dPow (eC (.int 10)) (eC (.int 18))))) sNil)
  (sSeq (sAsgO [3] 3 (eLst aNil))
  (sSeq (sFor [3] (iR1 (aCons (eV 1) aNil)) (.nm 4) (sIf (tB2 (e2 dGt (eV 2) (eC (.int 0)))) (sSeq (sApp [3] 3 (e2 dMod (eV 2) (eC (.int 1000000))))
  (sAsg [3] 2 (e2 dDiv (eV 2) (eC (.int 1000000))))) (sSeq (sAsg [3] 5 (e2 dAdd (eV 4) (eC (.int 1))))
  (sSeq (sIf (tB2 (e2 dGt (eCB cLen (aCons (eV 0) aNil)) (eC (.int 0)))) (sAsg [3] 5 (e2 dIx (eV 0) (e2 dMod (eV 4) (eCB cLen (aCons (eV 0) aNil))))) sNil)
  (sSeq (sAsg [3] 6 (e2 dMod (e2 dAdd (e2 dAdd (e2 dMul (eV 5) (eC (.int 48271))) (e2 dMul (eV 4) (eC (.int 40692)))) (eC (.int 11))) (eC (.int 2147483647))))
  (sSeq (sAsg [3] 6 (e2 dMod (e2 dAdd (e2 dAdd (e2 dMul (eV 6) (eC (.int 69621))) (e2 dMul (eV 4) (eC (.int 7919)))) (eCB cLen (aCons (eV 0) aNil))) (eC (.int 2147483629))))
  (sApp [3] 3 (e2 dMod (e2 dDiv (eV 6) (eC (.int 19))) (eC (.int 1000000))))))))))
  (sRetO 3)))))
def law_flowF : List D → Option (List D) := fnOutF 2 7 law_flowB
/-! law_whole(law_found): slots 0:law_found -/
def law_wholeB : En → Option Out := (sRet (eAnd (eCB cIsi (aCons (eV 0) (aCons (eC (.ty .int)) aNil))) (e1 eNot (eCB cIsi (aCons (eV 0) (aCons (eC (.ty .bool)) aNil))))))
def law_wholeF : List D → Option D := fnOut 1 1 law_wholeB
/-! law_low(law_top, law_bottom): slots 0:law_top 1:law_bottom 2:law_one 3:law_other -/
def law_lowB : En → Option Out := (sSeq (sAsg [] 2 (eCB cAbs (aCons (eV 0) aNil)))
  (sSeq (sAsg [] 3 (eV 1))
  (sSeq (sWhile (fuelI 3) (tB2 (e2 dGt (eV 3) (eC (.int 0)))) (sPar [] 2 3 (eV 3) (e2 dMod (eV 2) (eV 3))))
  (sRet (eTup (aCons (e2 dDiv (eV 0) (eV 2)) (aCons (e2 dDiv (eV 1) (eV 2)) aNil)))))))
def law_lowF : List D → Option D := fnOut 2 4 law_lowB
/-! law_add(law_a, law_b): slots 0:law_a 1:law_b -/
def law_addB : En → Option Out := (sRet (eCB law_lowF (aCons (e2 dAdd (e2 dMul (e2 dIx (eV 0) (eC (.int 0))) (e2 dIx (eV 1) (eC (.int 1)))) (e2 dMul (e2 dIx (eV 1) (eC (.int 0))) (e2 dIx (eV 0) (eC (.int 1))))) (aCons (e2 dMul (e2 dIx (eV 0) (eC (.int 1))) (e2 dIx (eV 1) (eC (.int 1)))) aNil))))
def law_addF : List D → Option D := fnOut 2 2 law_addB
/-! law_sub(law_a, law_b): slots 0:law_a 1:law_b -/
def law_subB : En → Option Out := (sRet (eCB law_lowF (aCons (e2 dSub (e2 dMul (e2 dIx (eV 0) (eC (.int 0))) (e2 dIx (eV 1) (eC (.int 1)))) (e2 dMul (e2 dIx (eV 1) (eC (.int 0))) (e2 dIx (eV 0) (eC (.int 1))))) (aCons (e2 dMul (e2 dIx (eV 0) (eC (.int 1))) (e2 dIx (eV 1) (eC (.int 1)))) aNil))))
def law_subF : List D → Option D := fnOut 2 2 law_subB
/-! law_mul(law_a, law_b): slots 0:law_a 1:law_b -/
def law_mulB : En → Option Out := (sRet (eCB law_lowF (aCons (e2 dMul (e2 dIx (eV 0) (eC (.int 0))) (e2 dIx (eV 1) (eC (.int 0)))) (aCons (e2 dMul (e2 dIx (eV 0) (eC (.int 1))) (e2 dIx (eV 1) (eC (.int 1)))) aNil))))
def law_mulF : List D → Option D := fnOut 2 2 law_mulB
/-! law_sum(law_row): slots 0:law_row 1:law_found 2:law_a -/
def law_sumB : En → Option Out := (sSeq (sAsg [] 1 (eTup (aCons (eC (.int 0)) (aCons (eC (.int 1)) aNil))))
  (sSeq (sFor [] (iL (eV 0)) (.nm 2) (sAsg [] 1 (eCB law_addF (aCons (eV 1) (aCons (eV 2) aNil)))))
  (sRet (eV 1))))
def law_sumF : List D → Option D := fnOut 1 3 law_sumB
/-! law_part(law_found): slots 0:law_found -/
def law_partB : En → Option Out := (sSeq (sIf (fOr (fNot (tB2 (eCB cIsi (aCons (eV 0) (aCons (eC (.ty .tuple)) aNil))))) (tB2 (e2 dNe (eCB cLen (aCons (eV 0) aNil)) (eC (.int 2))))) (sRet (eC (.bl false))) sNil)
  (sRet (eAnd (eCB law_wholeF (aCons (e2 dIx (eV 0) (eC (.int 0))) aNil)) (eCB law_wholeF (aCons (e2 dIx (eV 0) (eC (.int 1))) aNil)))))
def law_partF : List D → Option D := fnOut 1 1 law_partB
/-! law_is(law_found, law_due): slots 0:law_found 1:law_due -/
def law_isB : En → Option Out := (sRet (eAnd (eCB law_partF (aCons (eV 0) aNil)) (e2 dEq (eV 0) (eV 1))))
def law_isF : List D → Option D := fnOut 2 2 law_isB
/-! law_any(law_one, law_two): slots 0:law_one 1:law_two 2:law_top 3:law_bottom -/
def law_anyB : En → Option Out := (sSeq (sIf (tB2 (e2 dEq (e2 dMod (eV 0) (eC (.int 9))) (eC (.int 0)))) (sRet (eTup (aCons (eC (.int 0)) (aCons (eC (.int 1)) aNil)))) sNil)
  (sSeq (sAsg [] 2 (e2 dSub (e2 dMod (eV 0) (eC (.int 41))) (eC (.int 20))))
  (sSeq (sAsg [] 3 (e2 dAdd (eC (.int 1)) (e2 dMod (eV 1) (eC (.int 24)))))
  (sSeq (sIf (tB2 (e2 dEq (e2 dMod (e2 dDiv (eV 0) (eC (.int 41))) (eC (.int 6))) (eC (.int 1)))) (sSeq (sAsg [] 2 (e2 dSub (eV 0) (eC (.int 500000))))
  (sAsg [] 3 (e2 dAdd (eC (.int 1)) (eV 1)))) sNil)
  (sSeq (sIf (tB2 (e2 dEq (e2 dMod (e2 dDiv (eV 0) (eC (.int 41))) (eC (.int 6))) (eC (.int 2)))) (sSeq (sAsg [] 2 (e2 dAdd (e2 dMul (eV 0) (e2 dPow (eC (.int 10)) (eC (.int 40)))) (eV 1)))
  (sSeq (sAsg [] 3 (e2 dAdd (e2 dMul (eV 1) (e2 dPow (eC (.int 10)) (eC (.int 30)))) (eC (.int 1))))
  (sIf (tB2 (e2 dEq (e2 dMod (eV 0) (eC (.int 2))) (eC (.int 0)))) (sAsg [] 2 (e1 dNeg (eV 2))) sNil))) sNil)
  (sRet (eCB law_lowF (aCons (eV 2) (aCons (eV 3) aNil)))))))))
def law_anyF : List D → Option D := fnOut 2 4 law_anyB
/-! below(a, b): slots 0:a 1:b -/
def belowB : En → Option Out := (sRet (e2 dLt (e2 dMul (e2 dIx (eV 0) (eC (.int 0))) (e2 dIx (eV 1) (eC (.int 1)))) (e2 dMul (e2 dIx (eV 1) (eC (.int 0))) (e2 dIx (eV 0) (eC (.int 1))))))
def belowF : List D → Option D := fnOut 2 2 belowB
/-! floor_of(a): slots 0:a -/
def floor_ofB : En → Option Out := (sRet (e2 dDiv (e2 dIx (eV 0) (eC (.int 0))) (e2 dIx (eV 0) (eC (.int 1)))))
def floor_ofF : List D → Option D := fnOut 1 1 floor_ofB
/-! ceil_of(a): slots 0:a -/
def ceil_ofB : En → Option Out := (sRet (e1 dNeg (e2 dDiv (e1 dNeg (e2 dIx (eV 0) (eC (.int 0)))) (e2 dIx (eV 0) (eC (.int 1))))))
def ceil_ofF : List D → Option D := fnOut 1 1 ceil_ofB
/-! law_less(law_a, law_b): slots 0:law_a 1:law_b -/
def law_lessB : En → Option Out := (sRet (e2 dLt (e2 dMul (e2 dIx (eV 0) (eC (.int 0))) (e2 dIx (eV 1) (eC (.int 1)))) (e2 dMul (e2 dIx (eV 1) (eC (.int 0))) (e2 dIx (eV 0) (eC (.int 1))))))
def law_lessF : List D → Option D := fnOut 2 2 law_lessB
end PM
namespace PM
open PySem L2 PD
/-! ### parts as pairs of ints -/
def P (a : Int × Int) : D := .tup [.int a.1, .int a.2]
def low (t b : Int) : Int × Int := (t / (Int.gcd t b : Int), b / (Int.gcd t b : Int))
def plus (a b : Int × Int) : Int × Int := low (a.1 * b.2 + b.1 * a.2) (a.2 * b.2)
def minus (a b : Int × Int) : Int × Int := low (a.1 * b.2 - b.1 * a.2) (a.2 * b.2)
def times (a b : Int × Int) : Int × Int := low (a.1 * b.1) (a.2 * b.2)
def over (a b : Int × Int) : Int × Int := low (a.1 * b.2) (a.2 * b.1)
def less (a b : Int × Int) : Bool := decide (a.1 * b.2 < b.1 * a.2)
/-- a part of size n: bottom above nought, both below 2 ^ n -/
structure Pt (n : Nat) (a : Int × Int) : Prop where
  pos : 0 < a.2
  top : a.1.natAbs < 2 ^ n
  bot : a.2.natAbs < 2 ^ n
  one : Int.gcd a.1 a.2 = 1
theorem Pt.mono {n m : Nat} {a : Int × Int} (h : Pt n a) (l : n ≤ m) : Pt m a :=
  ⟨h.pos, Nat.lt_of_lt_of_le h.top (Nat.pow_le_pow_right (by decide) l), Nat.lt_of_lt_of_le h.bot (Nat.pow_le_pow_right (by decide) l), h.one⟩
set_option exponentiation.threshold 100000
theorem okDiv_of {x : Int} {n : Nat} (h : 0 < x) (hx : x.natAbs < 2 ^ n) (hn : n ≤ 9000) : okDiv x = true := by
  have h2 : x.natAbs < 2 ^ 9000 := Nat.lt_of_lt_of_le hx (Nat.pow_le_pow_right (by decide) hn)
  have q : CDivW 0 x := wide_div h h2 (by decide) (Nat.le_refl _)
  unfold okDiv
  rw [Bool.and_eq_true]
  exact ⟨decide_eq_true q.1, decide_eq_true q.2⟩
theorem okMul_of {x y : Int} {a b : Nat} (hx : x.natAbs < 2 ^ a) (hy : y.natAbs < 2 ^ b) (h : a + b ≤ 900000) : okMul x y = true := by
  have h1 : x.natAbs < 2 ^ (a + 1) := Nat.lt_of_lt_of_le hx (Nat.pow_le_pow_right (by decide) (Nat.le_succ _))
  have h2 : y.natAbs < 2 ^ (b + 1) := Nat.lt_of_lt_of_le hy (Nat.pow_le_pow_right (by decide) (Nat.le_succ _))
  unfold okMul
  rw [Bool.or_eq_true]
  exact .inl (decide_eq_true (wide_mul h1 h2 (Nat.succ_pos _) (Nat.succ_pos _) (by omega)))
theorem okMul_r {x y : Int} (hy : y.natAbs < 2 ^ 63) : okMul x y = true := by
  unfold okMul
  rw [Bool.or_eq_true, Bool.or_eq_true]
  exact .inr (.inr (decide_eq_true hy))
theorem okMul_l {x y : Int} (hy : x.natAbs < 2 ^ 63) : okMul x y = true := by
  unfold okMul
  rw [Bool.or_eq_true, Bool.or_eq_true]
  exact .inr (.inl (decide_eq_true hy))
theorem gcd_pos {t b : Int} (h : 0 < b) : (0 : Int) < (Int.gcd t b : Int) := by
  have : 0 < Int.gcd t b := Nat.pos_of_ne_zero fun e => by
    have := (Int.gcd_eq_zero_iff.mp e).2
    omega
  omega
theorem gcd_le {t b : Int} (h : 0 < b) : (Int.gcd t b : Int) ≤ b := Int.le_of_dvd h (Int.gcd_dvd_right ..)
theorem natAbs_ediv_le (x : Int) {y : Int} (h : 0 < y) (d : y ∣ x) : (x / y).natAbs ≤ x.natAbs := by
  obtain ⟨k, rfl⟩ := d
  rw [Int.mul_ediv_cancel_left _ (by omega), Int.natAbs_mul]
  have : 1 ≤ y.natAbs := by omega
  exact Nat.le_mul_of_pos_left _ this
theorem low_pt {t b : Int} {n : Nat} (h : 0 < b) (ht : t.natAbs < 2 ^ n) (hb : b.natAbs < 2 ^ n) : Pt n (low t b) := by
  have g := gcd_pos (t := t) h
  have d1 : (Int.gcd t b : Int) ∣ t := Int.gcd_dvd_left ..
  have d2 : (Int.gcd t b : Int) ∣ b := Int.gcd_dvd_right ..
  refine ⟨?_, ?_, ?_, ?_⟩
  · show 0 < b / _
    exact Int.ediv_pos_of_pos_of_dvd h (by omega) d2
  · exact Nat.lt_of_le_of_lt (natAbs_ediv_le t g d1) ht
  · exact Nat.lt_of_le_of_lt (natAbs_ediv_le b g d2) hb
  · show Int.gcd (t / _) (b / _) = 1
    exact Int.gcd_ediv_gcd_ediv_gcd (by omega)
/-- crosswise worth the same -/
theorem low_cross {t b : Int} (h : 0 < b) : (low t b).1 * b = t * (low t b).2 := by
  have g := gcd_pos (t := t) h
  obtain ⟨k, hk⟩ : (Int.gcd t b : Int) ∣ t := Int.gcd_dvd_left ..
  obtain ⟨m, hm⟩ : (Int.gcd t b : Int) ∣ b := Int.gcd_dvd_right ..
  have e1 : t / (Int.gcd t b : Int) = k := by
    conv => lhs; lhs; rw [hk]
    exact Int.mul_ediv_cancel_left _ (by omega)
  have e2 : b / (Int.gcd t b : Int) = m := by
    conv => lhs; lhs; rw [hm]
    exact Int.mul_ediv_cancel_left _ (by omega)
  show t / _ * b = t * (b / _)
  rw [e1, e2]
  conv => lhs; rhs; rw [hm]
  conv => rhs; lhs; rw [hk]
  rw [← Int.mul_assoc, Int.mul_comm k]
theorem low_self {a : Int × Int} (h : Int.gcd a.1 a.2 = 1) : low a.1 a.2 = a := by
  unfold low
  rw [h]
  simp

/-! ### equality -/
theorem dEq_int {i j : Int} : dEq (.int i) (.int j) = some (.bl (decide (i = j))) := by
  have : dEq (.int i) (.int j) = some (.bl (i == j)) := rfl
  rw [this, Bool.beq_eq_decide_eq]
theorem dNe_int {i j : Int} : dNe (.int i) (.int j) = some (.bl (!decide (i = j))) := by
  have : dNe (.int i) (.int j) = some (.bl (!(i == j))) := rfl
  rw [this, Bool.beq_eq_decide_eq]
theorem eqv_P (a b : Int × Int) : PyData.eqv (toP (P a)) (toP (P b)) = decide (a = b) := by
  have : PyData.eqv (toP (P a)) (toP (P b)) = ((a.1 == b.1) && ((a.2 == b.2) && true)) := rfl
  rw [this, Bool.and_true, Bool.beq_eq_decide_eq, Bool.beq_eq_decide_eq, ← Bool.decide_and]
  congr 1
  exact propext ⟨fun ⟨h1, h2⟩ => Prod.ext h1 h2, fun h => by rw [h]; exact ⟨rfl, rfl⟩⟩
theorem shp_P (a : Int × Int) : shp (P a) = true := rfl
theorem dEq_P {a b : Int × Int} : dEq (P a) (P b) = some (.bl (decide (a = b))) := by
  unfold dEq
  rw [shp_P, shp_P, eqv_P]; rfl
theorem dNe_P {a b : Int × Int} : dNe (P a) (P b) = some (.bl (!decide (a = b))) := by
  unfold dNe
  rw [shp_P, shp_P, eqv_P]; rfl

/-! ### the loop of measure -/
theorem abs_nat (t : Int) : (if t < 0 then -t else t) = (t.natAbs : Int) := by split <;> omega
theorem meas_loop : ∀ (n a b : Nat), b < n → whileD (tB2 (e2 dGt (eV 1) (eC (.int 0)))) (sPar [] 0 1 (eV 1) (e2 dMod (eV 0) (eV 1))) n [some (.int (a : Int)), some (.int (b : Int))] = some (.nx [some (.int (Nat.gcd b a : Nat)), some (.int 0)])
  | 0, _, _, h => by omega
  | n + 1, a, b, h => by
    rw [x_while]
    by_cases hb : b = 0
    · subst hb
      walk_at "ev"
      simp [q_wIf2]
    · have c : (0 : Int) < (b : Int) := by omega
      have ih := meas_loop n b (a % b) (by have := Nat.mod_lt a (Nat.pos_of_ne_zero hb); omega)
      walk_at "evs"
      rw [← Int.natCast_emod, ih, Nat.gcd_rec b a]
theorem low_loop (t u : Option D) : ∀ (n a b : Nat), b < n → whileD (tB2 (e2 dGt (eV 3) (eC (.int 0)))) (sPar [] 2 3 (eV 3) (e2 dMod (eV 2) (eV 3))) n [t, u, some (.int (a : Int)), some (.int (b : Int))] = some (.nx [t, u, some (.int (Nat.gcd b a : Nat)), some (.int 0)])
  | 0, _, _, h => by omega
  | n + 1, a, b, h => by
    rw [x_while]
    by_cases hb : b = 0
    · subst hb
      walk_at "ev"
      simp [q_wIf2]
    · have c : (0 : Int) < (b : Int) := by omega
      have ih := low_loop t u n b (a % b) (by have := Nat.mod_lt a (Nat.pos_of_ne_zero hb); omega)
      walk_at "evs"
      rw [← Int.natCast_emod, ih, Nat.gcd_rec b a]
theorem fuel1 {ρ : En} {i : Nat} {b : Int} (h : eV i ρ = some (.int b)) : fuelI i ρ = b.toNat + 1 := by unfold fuelI; rw [h]
theorem measure_eq {t b : Int} (h : 0 ≤ b) : measureF [.int t, .int b] = some (.int (Int.gcd t b : Int)) := by
  obtain ⟨m, rfl⟩ := Int.eq_ofNat_of_zero_le h
  have l := meas_loop (m + 1) t.natAbs m (Nat.lt_succ_self _)
  have e : Nat.gcd m t.natAbs = Int.gcd t (m : Int) := by rw [Nat.gcd_comm]; rfl
  unfold measureF fnOut measureB startD
  simp only [List.length_cons, List.length_nil, if_true, List.map, Nat.sub_self, List.replicate, List.append_nil]
  walk_at "ev"
  unfold sWhile
  rw [fuel1 rfl, abs_nat, Int.toNat_natCast, l]
  walk_at "ev"
  rw [e]
theorem lowest_eq {t b : Int} (h : 0 < b) (hb : b.natAbs < 2 ^ 9000) : lowestF [.int t, .int b] = some (P (low t b)) := by
  have g := gcd_pos (t := t) h
  have k : okDiv (Int.gcd t b : Int) = true := okDiv_of g (Nat.lt_of_le_of_lt (by have := gcd_le (t := t) h; omega) hb) (Nat.le_refl _)
  unfold lowestF fnOut lowestB startD
  simp only [List.length_cons, List.length_nil, if_true, List.map, List.replicate, List.cons_append, List.nil_append]
  walk_at "ev"
  rw [measure_eq (by omega)]
  walk_at "ev"
  simp only [k, if_true]
  walk_at "ev"
  rfl
theorem law_low_eq {t b : Int} (h : 0 < b) (hb : b.natAbs < 2 ^ 9000) : law_lowF [.int t, .int b] = some (P (low t b)) := by
  have g := gcd_pos (t := t) h
  have k : okDiv (Int.gcd t b : Int) = true := okDiv_of g (Nat.lt_of_le_of_lt (by have := gcd_le (t := t) h; omega) hb) (Nat.le_refl _)
  obtain ⟨m, rfl⟩ := Int.eq_ofNat_of_zero_le (show 0 ≤ b by omega)
  have l := low_loop (some (.int t)) (some (.int (m : Int))) (m + 1) t.natAbs m (Nat.lt_succ_self _)
  have e : Nat.gcd m t.natAbs = Int.gcd t (m : Int) := by rw [Nat.gcd_comm]; rfl
  unfold law_lowF fnOut law_lowB startD
  simp only [List.length_cons, List.length_nil, if_true, List.map, List.replicate, List.cons_append, List.nil_append]
  walk_at "ev"
  unfold sWhile
  rw [fuel1 rfl, abs_nat, Int.toNat_natCast, l]
  walk_at "ev"
  rw [e]
  simp only [k, if_true]
  walk_at "ev"
  rfl
end PM
namespace PM
open PySem L2 PD
theorem pow_mul {x y : Int} {n m : Nat} (hx : x.natAbs < 2 ^ n) (hy : y.natAbs < 2 ^ m) : (x * y).natAbs < 2 ^ (n + m) := wide_lt hx hy
theorem pow_add {x y : Int} {n : Nat} (hx : x.natAbs < 2 ^ n) (hy : y.natAbs < 2 ^ n) : (x + y).natAbs < 2 ^ (n + 1) := by
  rw [Nat.pow_succ]
  omega
theorem pow_sub {x y : Int} {n : Nat} (hx : x.natAbs < 2 ^ n) (hy : y.natAbs < 2 ^ n) : (x - y).natAbs < 2 ^ (n + 1) := by
  rw [Nat.pow_succ]
  omega
theorem pow_mono {x : Int} {n m : Nat} (hx : x.natAbs < 2 ^ n) (h : n ≤ m) : x.natAbs < 2 ^ m := Nat.lt_of_lt_of_le hx (Nat.pow_le_pow_right (by decide) h)
section
variable {n m : Nat} {a b : Int × Int}
theorem plus_pt (ha : Pt n a) (hb : Pt m b) : Pt (n + m + 1) (plus a b) :=
  low_pt (Int.mul_pos ha.pos hb.pos) (pow_add (pow_mul ha.top hb.bot) (by rw [Nat.add_comm n m]; exact pow_mul hb.top ha.bot)) (pow_mono (pow_mul ha.bot hb.bot) (Nat.le_succ _))
theorem minus_pt (ha : Pt n a) (hb : Pt m b) : Pt (n + m + 1) (minus a b) :=
  low_pt (Int.mul_pos ha.pos hb.pos) (pow_sub (pow_mul ha.top hb.bot) (by rw [Nat.add_comm n m]; exact pow_mul hb.top ha.bot)) (pow_mono (pow_mul ha.bot hb.bot) (Nat.le_succ _))
theorem times_pt (ha : Pt n a) (hb : Pt m b) : Pt (n + m) (times a b) := low_pt (Int.mul_pos ha.pos hb.pos) (pow_mul ha.top hb.top) (pow_mul ha.bot hb.bot)
theorem over_pt (ha : Pt n a) (hb : Pt m b) (h : 0 < b.1) : Pt (n + m) (over a b) := low_pt (Int.mul_pos ha.pos h) (pow_mul ha.top hb.bot) (pow_mul ha.bot hb.top)
theorem okMul_pt {x y : Int} (hx : x.natAbs < 2 ^ n) (hy : y.natAbs < 2 ^ m) (h : n + m ≤ 8999) : okMul x y = true := okMul_of hx hy (by omega)
theorem P_ix0 : dIx (P a) (.int 0) = some (.int a.1) := by unfold P; rw [q_ix2, q_at0]
theorem P_ix1 : dIx (P a) (.int 1) = some (.int a.2) := by unfold P; rw [q_ix2, q_at1]
theorem plus_eq (ha : Pt n a) (hb : Pt m b) (h : n + m ≤ 8999) : plusF [P a, P b] = some (P (plus a b)) := by
  have h1 := okMul_pt ha.top hb.bot h
  have h2 := okMul_pt hb.top ha.bot (by omega)
  have h3 := okMul_pt ha.bot hb.bot h
  have hp := Int.mul_pos ha.pos hb.pos
  have l := lowest_eq (t := a.1 * b.2 + b.1 * a.2) hp (pow_mono (pow_mul ha.bot hb.bot) (by omega))
  unfold plusF fnOut plusB startD
  simp only [List.length_cons, List.length_nil, if_true, List.map, Nat.sub_self, List.replicate, List.append_nil, Nat.reduceAdd, Nat.reduceSub]
  walk_at "ev"
  simp only [P_ix0, P_ix1]
  walk_at "evs"
  rfl
theorem minus_eq (ha : Pt n a) (hb : Pt m b) (h : n + m ≤ 8999) : minusF [P a, P b] = some (P (minus a b)) := by
  have h1 := okMul_pt ha.top hb.bot h
  have h2 := okMul_pt hb.top ha.bot (by omega)
  have h3 := okMul_pt ha.bot hb.bot h
  have hp := Int.mul_pos ha.pos hb.pos
  have l := lowest_eq (t := a.1 * b.2 - b.1 * a.2) hp (pow_mono (pow_mul ha.bot hb.bot) (by omega))
  unfold minusF fnOut minusB startD
  simp only [List.length_cons, List.length_nil, if_true, List.map, Nat.sub_self, List.replicate, List.append_nil, Nat.reduceAdd, Nat.reduceSub]
  walk_at "ev"
  simp only [P_ix0, P_ix1]
  walk_at "evs"
  rfl
theorem times_eq (ha : Pt n a) (hb : Pt m b) (h : n + m ≤ 8999) : timesF [P a, P b] = some (P (times a b)) := by
  have h1 := okMul_pt ha.top hb.top h
  have h3 := okMul_pt ha.bot hb.bot h
  have hp := Int.mul_pos ha.pos hb.pos
  have l := lowest_eq (t := a.1 * b.1) hp (pow_mono (pow_mul ha.bot hb.bot) (by omega))
  unfold timesF fnOut timesB startD
  simp only [List.length_cons, List.length_nil, if_true, List.map, Nat.sub_self, List.replicate, List.append_nil, Nat.reduceAdd, Nat.reduceSub]
  walk_at "ev"
  simp only [P_ix0, P_ix1]
  walk_at "evs"
  rfl
theorem over_eq (ha : Pt n a) (hb : Pt m b) (h0 : 0 < b.1) (h : n + m ≤ 8999) : overF [P a, P b] = some (P (over a b)) := by
  have h1 := okMul_pt ha.top hb.bot h
  have h3 := okMul_pt ha.bot hb.top h
  have hp := Int.mul_pos ha.pos h0
  have l := lowest_eq (t := a.1 * b.2) hp (pow_mono (pow_mul ha.bot hb.top) (by omega))
  unfold overF fnOut overB startD
  simp only [List.length_cons, List.length_nil, if_true, List.map, Nat.sub_self, List.replicate, List.append_nil, Nat.reduceAdd, Nat.reduceSub]
  walk_at "ev"
  simp only [P_ix0, P_ix1]
  walk_at "evs"
  rfl
theorem law_add_eq (ha : Pt n a) (hb : Pt m b) (h : n + m ≤ 8999) : law_addF [P a, P b] = some (P (plus a b)) := by
  have h1 := okMul_pt ha.top hb.bot h
  have h2 := okMul_pt hb.top ha.bot (by omega)
  have h3 := okMul_pt ha.bot hb.bot h
  have hp := Int.mul_pos ha.pos hb.pos
  have l := law_low_eq (t := a.1 * b.2 + b.1 * a.2) hp (pow_mono (pow_mul ha.bot hb.bot) (by omega))
  unfold law_addF fnOut law_addB startD
  simp only [List.length_cons, List.length_nil, if_true, List.map, Nat.sub_self, List.replicate, List.append_nil, Nat.reduceAdd, Nat.reduceSub]
  walk_at "ev"
  simp only [P_ix0, P_ix1]
  walk_at "evs"
  rfl
theorem law_sub_eq (ha : Pt n a) (hb : Pt m b) (h : n + m ≤ 8999) : law_subF [P a, P b] = some (P (minus a b)) := by
  have h1 := okMul_pt ha.top hb.bot h
  have h2 := okMul_pt hb.top ha.bot (by omega)
  have h3 := okMul_pt ha.bot hb.bot h
  have hp := Int.mul_pos ha.pos hb.pos
  have l := law_low_eq (t := a.1 * b.2 - b.1 * a.2) hp (pow_mono (pow_mul ha.bot hb.bot) (by omega))
  unfold law_subF fnOut law_subB startD
  simp only [List.length_cons, List.length_nil, if_true, List.map, Nat.sub_self, List.replicate, List.append_nil, Nat.reduceAdd, Nat.reduceSub]
  walk_at "ev"
  simp only [P_ix0, P_ix1]
  walk_at "evs"
  rfl
theorem law_mul_eq (ha : Pt n a) (hb : Pt m b) (h : n + m ≤ 8999) : law_mulF [P a, P b] = some (P (times a b)) := by
  have h1 := okMul_pt ha.top hb.top h
  have h3 := okMul_pt ha.bot hb.bot h
  have hp := Int.mul_pos ha.pos hb.pos
  have l := law_low_eq (t := a.1 * b.1) hp (pow_mono (pow_mul ha.bot hb.bot) (by omega))
  unfold law_mulF fnOut law_mulB startD
  simp only [List.length_cons, List.length_nil, if_true, List.map, Nat.sub_self, List.replicate, List.append_nil, Nat.reduceAdd, Nat.reduceSub]
  walk_at "ev"
  simp only [P_ix0, P_ix1]
  walk_at "evs"
  rfl
theorem below_eq (ha : Pt n a) (hb : Pt m b) (h : n + m ≤ 8999) : belowF [P a, P b] = some (.bl (less a b)) := by
  have h1 := okMul_pt ha.top hb.bot h
  have h2 := okMul_pt hb.top ha.bot (by omega)
  unfold belowF fnOut belowB startD
  simp only [List.length_cons, List.length_nil, if_true, List.map, Nat.sub_self, List.replicate, List.append_nil, Nat.reduceAdd, Nat.reduceSub]
  walk_at "ev"
  simp only [P_ix0, P_ix1]
  walk_at "evs"
  rfl
theorem law_less_eq (ha : Pt n a) (hb : Pt m b) (h : n + m ≤ 8999) : law_lessF [P a, P b] = some (.bl (less a b)) := by
  have h1 := okMul_pt ha.top hb.bot h
  have h2 := okMul_pt hb.top ha.bot (by omega)
  unfold law_lessF fnOut law_lessB startD
  simp only [List.length_cons, List.length_nil, if_true, List.map, Nat.sub_self, List.replicate, List.append_nil, Nat.reduceAdd, Nat.reduceSub]
  walk_at "ev"
  simp only [P_ix0, P_ix1]
  walk_at "evs"
  rfl
theorem floor_of_eq (ha : Pt n a) (h : n ≤ 9000) : floor_ofF [P a] = some (.int (a.1 / a.2)) := by
  have h1 := okDiv_of ha.pos ha.bot h
  unfold floor_ofF fnOut floor_ofB startD
  simp only [List.length_cons, List.length_nil, if_true, List.map, Nat.sub_self, List.replicate, List.append_nil, Nat.reduceAdd, Nat.reduceSub]
  walk_at "ev"
  simp only [P_ix0, P_ix1]
  walk_at "evs"
theorem ceil_of_eq (ha : Pt n a) (h : n ≤ 9000) : ceil_ofF [P a] = some (.int (-(-a.1 / a.2))) := by
  have h1 := okDiv_of ha.pos ha.bot h
  unfold ceil_ofF fnOut ceil_ofB startD
  simp only [List.length_cons, List.length_nil, if_true, List.map, Nat.sub_self, List.replicate, List.append_nil, Nat.reduceAdd, Nat.reduceSub]
  walk_at "ev"
  simp only [P_ix0, P_ix1]
  walk_at "evs"
theorem law_whole_eq (i : Int) : law_wholeF [.int i] = some (.bl true) := by
  unfold law_wholeF fnOut law_wholeB startD
  simp only [List.length_cons, List.length_nil, if_true, List.map, Nat.sub_self, List.replicate, List.append_nil, Nat.reduceAdd, Nat.reduceSub]
  walk_at "ev"
theorem law_part_eq (a : Int × Int) : law_partF [P a] = some (.bl true) := by
  have hw := law_whole_eq
  unfold law_partF fnOut law_partB startD
  simp only [List.length_cons, List.length_nil, if_true, List.map, Nat.sub_self, List.replicate, List.append_nil, Nat.reduceAdd, Nat.reduceSub]
  simp only [P]
  have h1 := @dNe_int
  walk_at "evs"
theorem law_is_eq (a b : Int × Int) : law_isF [P a, P b] = some (.bl (decide (a = b))) := by
  unfold law_isF fnOut law_isB startD
  simp only [List.length_cons, List.length_nil, if_true, List.map, Nat.sub_self, List.replicate, List.append_nil, Nat.reduceAdd, Nat.reduceSub]
  walk_at "ev"
  simp only [law_part_eq]
  walk_at "ev"
  simp only [dEq_P]
  walk_at "ev"
end

/-! ### loops over made lists: an invariant -/
theorem loop_inv {t : Tgt} {F : En → Option Out} (I : Nat → En → Prop) : ∀ (ds : List D) (n : Nat) (ρ : En), I n ρ →
    (∀ i d ρ, ds[i]? = some d → I (n + i) ρ → ∃ ρ1 ρ', stD t d ρ = some ρ1 ∧ (F ρ1 = some (.nx ρ') ∨ F ρ1 = some (.ct ρ')) ∧ I (n + i + 1) ρ') → ∃ ρ', loopD t F ds ρ = some (.nx ρ') ∧ I (n + ds.length) ρ'
  | [], n, ρ, h, _ => ⟨ρ, rfl, h⟩
  | d :: ds, n, ρ, h, st => by
    obtain ⟨ρ1, ρ', s1, s2, h'⟩ := st 0 d ρ rfl h
    obtain ⟨ρ2, l, h2⟩ := loop_inv I ds (n + 1) ρ' h' fun i d ρ e hi => by
      have := st (i + 1) d ρ (by simpa using e) (by rw [show n + (i + 1) = n + 1 + i by omega]; exact hi)
      rw [show n + (i + 1) = n + 1 + i by omega] at this
      exact this
    refine ⟨ρ2, ?_, by rw [List.length_cons, show n + (ds.length + 1) = n + 1 + ds.length by omega]; exact h2⟩
    rw [x_loop, s1, q_turn]
    rcases s2 with e | e
    · rw [e, q_next0, l]
    · rw [e, q_next1, l]
/-- the sum of a list of parts, from the left -/
def sumP (l : List (Int × Int)) : Int × Int := l.foldl plus (0, 1)
theorem zero_pt : Pt 1 (0, 1) := ⟨by decide, by decide, by decide, by decide⟩
theorem one_pt : Pt 1 (1, 1) := ⟨by decide, by decide, by decide, by decide⟩
/-- sizes of a sum: n a part -/
theorem fold_pt {n : Nat} : ∀ (l : List (Int × Int)) (a : Int × Int) (m : Nat), Pt m a → (∀ x ∈ l, Pt n x) → Pt (m + l.length * (n + 1)) (l.foldl plus a)
  | [], a, m, h, _ => by simpa using h
  | x :: l, a, m, h, hl => by
    have := fold_pt l (plus a x) (m + n + 1) (plus_pt h (hl x (by simp))) fun y hy => hl y (by simp [hy])
    rw [List.foldl_cons, List.length_cons, Nat.succ_mul, show m + (l.length * (n + 1) + (n + 1)) = m + n + 1 + l.length * (n + 1) by omega]
    exact this
theorem sum_pt {n : Nat} {l : List (Int × Int)} (h : ∀ x ∈ l, Pt n x) : Pt (1 + l.length * (n + 1)) (sumP l) := fold_pt l _ 1 zero_pt h
theorem fold_loop {F : En → Option Out} (n : Nat) (u : Option D) : ∀ (l : List (Int × Int)) (m : Nat) (a : Int × Int) (v : Option D), Pt m a → (∀ x ∈ l, Pt n x) → m + l.length * (n + 1) ≤ 8999 →
    (∀ m a x, Pt m a → Pt n x → m + n ≤ 8999 → F [u, some (P a), some (P x)] = some (.nx [u, some (P (plus a x)), some (P x)])) →
    ∃ v', loopD (.nm 2) F (l.map P) [u, some (P a), v] = some (.nx [u, some (P (l.foldl plus a)), v'])
  | [], m, a, v, _, _, _, _ => ⟨v, rfl⟩
  | x :: l, m, a, v, h, hl, hs, hF => by
    rw [List.length_cons, Nat.succ_mul] at hs
    obtain ⟨v', e⟩ := fold_loop n u l (m + n + 1) (plus a x) (some (P x)) (plus_pt h (hl x (by simp))) (fun y hy => hl y (by simp [hy])) (by omega) hF
    refine ⟨v', ?_⟩
    rw [List.map_cons, x_loop, q_st, q_set_2, q_turn, hF m a x h (hl x (by simp)) (by omega), q_next0, e]
    rfl
theorem total_eq {n : Nat} {l : List (Int × Int)} (h : ∀ x ∈ l, Pt n x) (hs : 1 + l.length * (n + 1) ≤ 8999) : totalF [.lst (l.map P)] = some (P (sumP l)) := by
  unfold totalF fnOut totalB startD
  simp only [List.length_cons, List.length_nil, if_true, List.map_cons, List.map_nil, List.replicate, List.cons_append, List.nil_append, Nat.reduceAdd, Nat.reduceSub]
  walk_at "ev"
  obtain ⟨v, e⟩ := fold_loop (F := sAsg [] 1 (eCB plusF (aCons (eV 1) (aCons (eV 2) aNil)))) n (some (.lst (l.map P))) l 1 (0, 1) none zero_pt h hs fun m a x ha hx hm => by
    walk_at "ev"
    rw [plus_eq ha hx hm]
    walk_at "ev"
  rw [show D.tup [D.int 0, D.int 1] = P (0, 1) from rfl, e]
  walk_at "ev"
  rfl
theorem law_sum_eq {n : Nat} {l : List (Int × Int)} (h : ∀ x ∈ l, Pt n x) (hs : 1 + l.length * (n + 1) ≤ 8999) : law_sumF [.lst (l.map P)] = some (P (sumP l)) := by
  unfold law_sumF fnOut law_sumB startD
  simp only [List.length_cons, List.length_nil, if_true, List.map_cons, List.map_nil, List.replicate, List.cons_append, List.nil_append, Nat.reduceAdd, Nat.reduceSub]
  walk_at "ev"
  obtain ⟨v, e⟩ := fold_loop (F := sAsg [] 1 (eCB law_addF (aCons (eV 1) (aCons (eV 2) aNil)))) n (some (.lst (l.map P))) l 1 (0, 1) none zero_pt h hs fun m a x ha hx hm => by
    walk_at "ev"
    rw [law_add_eq ha hx hm]
    walk_at "ev"
  rw [show D.tup [D.int 0, D.int 1] = P (0, 1) from rfl, e]
  walk_at "ev"
  rfl
end PM
open PD PM in
local macro_rules | `(tactic| walk_at "pv") => `(tactic| simp (config := { decide := false, failIfUnchanged := false }) only [x_split, x_iS, q_split, q_iS, q_cat, q_in, q_nin, q_str, q_intS, q_ix3, x_aug, x_tg, x_tgI, x_tru, x_extI, x_popApp, x_setAug, q_aug, q_tgN, q_tgp2, q_tgp3, q_stp1, q_stp2, q_stp3, q_stp4, q_tgI, q_tru, q_truL, q_truI, q_truB, q_truN, q_extI, q_pop1, q_pop2, q_sa3, q_sa4, q_sa5, q_isN1, q_notN1, q_isN2, q_notN2, q_isN3, q_notN3, q_isN4, q_notN4, q_wIf1, q_wIf2, q_wNext1, q_wNext2, q_wNext3, q_wNext4, q_wNext5, x_seq, x_if, x_2, x_1, x_cons, x_tup, x_lst, x_fr, x_cb, x_cf, x_tb, x_and, x_or, x_not, x_andE, x_orE, x_ifE, x_asg, x_asgI, x_asgO, x_asgOI, x_ret, x_retF, x_retO, x_par, x_app, x_appI, x_setI, x_for, x_comp, x_oS, x_sl, x_slS, x_iL, x_iT, x_iR1, x_iR2, x_iZ, x_iE, x_chain, x_getD0,
  q_seq1, q_seq2, q_seq3, q_seq4, q_seq5, q_if1, q_if2, q_bin, q_un, q_cons, q_tup, q_lst, q_fr, q_cb, q_cf, q_bl, q_and1, q_and2, q_or1, q_or2, q_not, q_andE1, q_andE2, q_orE1, q_orE2, q_ifE1, q_ifE2, q_asg, q_asgI, q_asgO, q_asgOI, q_ret, q_retF, q_retO, q_par, q_app, q_appI, q_set1, q_set2, q_for, q_next0, q_next1, q_next2, q_next3, q_next4, q_turn, q_comp, q_o, q_sl, q_slS, q_iL, q_iT, q_iR1, q_iR2, q_iZ, q_iE, q_ch1, q_ch2, q_dAdd, q_dSub, q_dMul, q_dDiv, q_dMod, q_dPow, q_dLt, q_dLe, q_dGt, q_dGe, q_neg, q_eNot, q_abs, q_len1, q_len2, q_len3, q_int1, q_int2, q_list1, q_list2, q_min, q_max, q_isi_non_int, q_isi_non_bool, q_isi_non_str, q_isi_non_tuple, q_isi_non_list, q_isi_non_dict, q_isi_bl_int, q_isi_bl_bool, q_isi_bl_str, q_isi_bl_tuple, q_isi_bl_list, q_isi_bl_dict, q_isi_int_int, q_isi_int_bool, q_isi_int_str, q_isi_int_tuple, q_isi_int_list, q_isi_int_dict, q_isi_str_int, q_isi_str_bool, q_isi_str_str, q_isi_str_tuple, q_isi_str_list, q_isi_str_dict, q_isi_tup_int, q_isi_tup_bool, q_isi_tup_str, q_isi_tup_tuple, q_isi_tup_list, q_isi_tup_dict, q_isi_lst_int, q_isi_lst_bool, q_isi_lst_str, q_isi_lst_tuple, q_isi_lst_list, q_isi_lst_dict, q_isi_dic_int, q_isi_dic_bool, q_isi_dic_str, q_isi_dic_tuple, q_isi_dic_list, q_isi_dic_dict, q_outD1, q_outD2, q_outD3, q_outF, q_st, q_sa1, q_sa2, q_mask1, q_mask2, q_nil, q_brk, q_cont, q_retN, q_eC, q_eV, q_aNil, q_tT, q_oN, q_ix1, q_ix2, q_at0, q_at1, q_at2, q_at3, q_at4, q_at5, q_imm1, q_imm2, q_imm3, q_imm4, q_imm5, q_imms1, q_imms2, q_set0, q_setS, q_set_1, q_get_1, q_set_2, q_get_2, q_set_3, q_get_3, q_set_4, q_get_4, q_set_5, q_get_5, q_set_6, q_get_6, q_set_7, q_get_7, q_set_8, q_get_8, q_set_9, q_get_9, q_set_10, q_get_10, q_set_11, q_get_11, q_set_12, q_get_12, q_set_13, q_get_13, q_set_14, q_get_14, q_set_15, q_get_15,
  okLen, Int.reduceEq, Int.reduceAdd, Int.reduceSub, Int.reduceMul, Int.reduceNeg, Int.cast_ofNat_Int, List.length_cons, List.length_nil, List.length_map, List.map_cons, List.map_nil, Nat.reduceAdd, Nat.reduceLeDiff, Nat.reduceSub, Nat.reduceEqDiff, Int.reduceLT, Int.reduceLE, Int.reduceToNat, decide_true, decide_false, ite_true, ite_false, if_true, if_false, Bool.and_true, Bool.true_and, Bool.and_self, Bool.not_true, Bool.not_false, reduceCtorEq, Bool.false_eq_true, ↓reduceIte, dEq_int, dNe_int, dEq_P, dNe_P, P_ix0, P_ix1, law_whole_eq, law_part_eq, law_is_eq, *])
namespace PM
open PySem L2 PD
/-! ### the flow of drawn numbers, each from 0 to 999999 -/
def Row (l : List Int) : Prop := ∀ x ∈ l, 0 ≤ x ∧ x < 1000000
theorem atI_ok {α : Type} {l : List α} {i : Int} (h0 : 0 ≤ i) (h1 : i < l.length) : ∃ v ∈ l, atI l i = some v := by
  obtain ⟨n, rfl⟩ := Int.eq_ofNat_of_zero_le h0
  have h : n < l.length := by omega
  exact ⟨l[n], List.getElem_mem h, atI_nat (List.getElem?_eq_getElem h)⟩
theorem atI_map {α β : Type} (f : α → β) (l : List α) (i : Int) : atI (l.map f) i = (atI l i).map f := by
  unfold atI
  rw [List.length_map]
  cases ixN l.length i with
  | none => rfl
  | some j => simp
structure FlowI (ns : List Int) (m : Int) (i : Nat) (ρ : En) : Prop where
  ex : ∃ (g : Int) (row : List Int) (k cell mixed : Option D), 0 ≤ g ∧ row.length = i ∧ Row row ∧ ρ = [some (.lst (ns.map .int)), some (.int m), some (.int g), some (.lst (row.map .int)), k, cell, mixed]
theorem Row.snoc {l : List Int} {x : Int} (h : Row l) (h0 : 0 ≤ x) (h1 : x < 1000000) : Row (l ++ [x]) := fun y hy => by
  rcases List.mem_append.mp hy with z | z
  · exact h y z
  · have : y = x := by simpa using z
    rw [this]; exact ⟨h0, h1⟩
def flowBody : En → Option Out := (sIf (tB2 (e2 dGt (eV 2) (eC (.int 0)))) (sSeq (sApp [3] 3 (e2 dMod (eV 2) (eC (.int 1000000))))
  (sAsg [3] 2 (e2 dDiv (eV 2) (eC (.int 1000000))))) (sSeq (sAsg [3] 5 (e2 dAdd (eV 4) (eC (.int 1))))
  (sSeq (sIf (tB2 (e2 dGt (eCB cLen (aCons (eV 0) aNil)) (eC (.int 0)))) (sAsg [3] 5 (e2 dIx (eV 0) (e2 dMod (eV 4) (eCB cLen (aCons (eV 0) aNil))))) sNil)
  (sSeq (sAsg [3] 6 (e2 dMod (e2 dAdd (e2 dAdd (e2 dMul (eV 5) (eC (.int 48271))) (e2 dMul (eV 4) (eC (.int 40692)))) (eC (.int 11))) (eC (.int 2147483647))))
  (sSeq (sAsg [3] 6 (e2 dMod (e2 dAdd (e2 dAdd (e2 dMul (eV 6) (eC (.int 69621))) (e2 dMul (eV 4) (eC (.int 7919)))) (eCB cLen (aCons (eV 0) aNil))) (eC (.int 2147483629))))
  (sApp [3] 3 (e2 dMod (e2 dDiv (eV 6) (eC (.int 19))) (eC (.int 1000000)))))))))
theorem flow_turn {ns : List Int} {m : Int} {i : Nat} {ρ : En} (hi : i < 100000) (h : FlowI ns m i ρ) : ∃ ρ1 ρ', stD (.nm 4) (.int (0 + (i : Int))) ρ = some ρ1 ∧ flowBody ρ1 = some (.nx ρ') ∧ FlowI ns m (i + 1) ρ' := by
  obtain ⟨g, row, k, cell, mixed, hg, hl, hr, rfl⟩ := h
  have him : i ≤ 1000000 := by omega
  have okd : okDiv 1000000 = true := by decide +kernel
  have okd19 : okDiv 19 = true := by decide +kernel
  have p1 : (0 : Int) < 2147483647 := by decide
  have p2 : (0 : Int) < 2147483629 := by decide
  have p3 : (0 : Int) < 1000000 := by decide
  have hk := Int.zero_add (i : Int)
  rw [hk]
  by_cases hp : 0 < g
  · refine ⟨_, [some (.lst (ns.map .int)), some (.int m), some (.int (g / 1000000)), some (.lst ((row ++ [g % 1000000]).map .int)), some (.int (i : Int)), cell, mixed], rfl, ?_, ⟨_, _, _, _, _, Int.ediv_nonneg hg (by decide), by simp [hl], hr.snoc (Int.emod_nonneg _ (by decide)) (Int.emod_lt_of_pos _ (by decide)), rfl⟩⟩
    unfold flowBody
    walk_at "evs"
    simp
  · have fin : ∀ c : Int, ∃ mx : Int, okMul c 48271 = true ∧ okMul (i : Int) 40692 = true ∧ ((c * 48271 + (i : Int) * 40692 + 11) % 2147483647 = mx) ∧ okMul mx 69621 = true ∧ okMul (i : Int) 7919 = true := fun c =>
      ⟨_, okMul_r (by decide), okMul_r (by decide), rfl, okMul_r (by decide), okMul_r (by decide)⟩
    cases ns with
    | nil =>
      obtain ⟨mx, o1, o2, e, o3, o4⟩ := fin ((i : Int) + 1)
      refine ⟨_, [some (.lst []), some (.int m), some (.int g), some (.lst ((row ++ [(mx * 69621 + (i : Int) * 7919 + 0) % 2147483629 / 19 % 1000000]).map .int)), some (.int (i : Int)), some (.int ((i : Int) + 1)), some (.int ((mx * 69621 + (i : Int) * 7919 + 0) % 2147483629))], rfl, ?_, ⟨_, _, _, _, _, hg, by simp [hl], hr.snoc (Int.emod_nonneg _ (by decide)) (Int.emod_lt_of_pos _ (by decide)), rfl⟩⟩
      unfold flowBody
      walk_at "evs"
      simp
    | cons x r =>
      have hn : (0 : Int) < ((r.length + 1 : Nat) : Int) := by omega
      obtain ⟨v, _, hv⟩ := atI_ok (l := x :: r) (i := (i : Int) % ((r.length + 1 : Nat) : Int)) (Int.emod_nonneg _ (by omega)) (Int.emod_lt_of_pos _ hn)
      have hv' : atI ((x :: r).map D.int) ((i : Int) % ((r.length + 1 : Nat) : Int)) = some (.int v) := by rw [atI_map, hv]; rfl
      rw [List.map_cons] at hv'
      obtain ⟨mx, o1, o2, e, o3, o4⟩ := fin v
      refine ⟨_, [some (.lst ((x :: r).map .int)), some (.int m), some (.int g), some (.lst ((row ++ [(mx * 69621 + (i : Int) * 7919 + ((r.length + 1 : Nat) : Int)) % 2147483629 / 19 % 1000000]).map .int)), some (.int (i : Int)), some (.int v), some (.int ((mx * 69621 + (i : Int) * 7919 + ((r.length + 1 : Nat) : Int)) % 2147483629))], rfl, ?_, ⟨_, _, _, _, _, hg, by simp [hl], hr.snoc (Int.emod_nonneg _ (by decide)) (Int.emod_lt_of_pos _ (by decide)), rfl⟩⟩
      unfold flowBody
      walk_at "evs"
      simp

theorem law_flow_eq (ns : List Int) (m : Nat) (hm : m ≤ 100000) : ∃ row : List Int, row.length = m ∧ Row row ∧ law_flowF [.lst (ns.map .int), .int (m : Int)] = some (row.map .int) := by
  have hsm : small62 (m : Int) = true := by
    unfold small62
    rw [Bool.and_eq_true]
    exact ⟨decide_eq_true (by omega), decide_eq_true (by omega)⟩
  have e10 : dPow (.int 10) (.int 18) = some (.int 1000000000000000000) := by rw [q_dPow, if_pos (by decide)]; rfl
  have head : ∃ g : Int, 0 ≤ g ∧ sIf (fAnd (tB2 (e2 dGt (eCB cLen (aCons (eV 0) aNil)) (eC (.int 0)))) (tB2 (e2 dGe (eCB cAbs (aCons (e2 dIx (eV 0) (eC (.int 0))) aNil)) (e2 dPow (eC (.int 10)) (eC (.int 18)))))) (sAsg [3] 2 (e2 dSub (eCB cAbs (aCons (e2 dIx (eV 0) (eC (.int 0))) aNil)) (e2 dPow (eC (.int 10)) (eC (.int 18))))) sNil
      [some (.lst (ns.map .int)), some (.int (m : Int)), some (.int 0), none, none, none, none] = some (.nx [some (.lst (ns.map .int)), some (.int (m : Int)), some (.int g), none, none, none, none]) := by
    cases ns with
    | nil => exact ⟨0, Int.le_refl _, by walk_at "ev"⟩
    | cons x r =>
      have hn : (0 : Int) < ((r.length + 1 : Nat) : Int) := by omega
      have e10x := e10
      by_cases hx : (1000000000000000000 : Int) ≤ (if x < 0 then -x else x)
      · refine ⟨(if x < 0 then -x else x) - 1000000000000000000, by omega, ?_⟩
        generalize hy : (if x < 0 then -x else x) = y at hx
        have ha : cAbs [.int x] = some (.int y) := by rw [q_abs, hy]
        clear hy
        simp only [x_if, x_and, x_tb, x_2, x_cb, x_cons, q_eV, x_getD0, q_aNil, q_cons, q_cb, q_len1, q_eC, q_bin, List.length_map, List.map_cons, List.length_cons, q_dGt, decide_eq_true hn, q_bl, q_and1, q_ix1, q_at0, ha, e10, q_dGe, decide_eq_true hx, q_if1, x_asg, q_mask1, q_mask2, q_set_3, q_dSub, q_asg, q_set_2]
      · refine ⟨0, Int.le_refl _, ?_⟩
        generalize hy : (if x < 0 then -x else x) = y at hx
        have ha : cAbs [.int x] = some (.int y) := by rw [q_abs, hy]
        clear hy
        simp only [x_if, x_and, x_tb, x_2, x_cb, x_cons, q_eV, x_getD0, q_aNil, q_cons, q_cb, q_len1, q_eC, q_bin, List.length_map, List.map_cons, List.length_cons, q_dGt, decide_eq_true hn, q_bl, q_and1, q_ix1, q_at0, ha, e10, q_dGe, decide_eq_false hx, q_if2, q_nil]
  obtain ⟨g, hg, hd⟩ := head
  obtain ⟨ρ', hl, row, hI⟩ : ∃ ρ', loopD (.nm 4) flowBody (rngD 0 m) [some (.lst (ns.map .int)), some (.int (m : Int)), some (.int g), some (.lst []), none, none, none] = some (.nx ρ') ∧ ∃ row : List Int, row.length = m ∧ Row row ∧ ρ'.getD 3 none = some (.lst (row.map .int)) := by
    obtain ⟨ρ', h1, h2⟩ := loop_inv (t := .nm 4) (F := flowBody) (FlowI ns (m : Int)) (rngD 0 m) 0 [some (.lst (ns.map .int)), some (.int (m : Int)), some (.int g), some (.lst []), none, none, none] ⟨g, [], none, none, none, hg, rfl, fun _ h => (by cases h), rfl⟩ (fun i d ρ e hI => by
      rw [rngD_get] at e
      split at e
      case isFalse => cases e
      rename_i him
      cases e
      rw [Nat.zero_add] at hI ⊢
      obtain ⟨ρ1, ρ', a, b, c⟩ := flow_turn (by omega) hI
      exact ⟨ρ1, ρ', a, .inl b, c⟩)
    obtain ⟨g', row, k, c, mx, _, l, r, rfl⟩ := h2
    have lr : (rngD 0 m).length = m := by simp [rngD]
    exact ⟨_, h1, row, by rw [l, lr, Nat.zero_add], r, rfl⟩
  refine ⟨row, hI.1, hI.2.1, ?_⟩
  have h3 := hI.2.2
  unfold law_flowF law_flowB
  rw [fnF_2, show startD 7 [D.lst (ns.map D.int), .int (m : Int)] = [some (.lst (ns.map D.int)), some (.int (m : Int)), none, none, none, none, none] from rfl]
  rw [x_seq, x_asg, q_eC, q_asg, q_seq1, q_set_2, x_seq, hd, q_seq1, x_seq, x_asgO, x_lst, q_aNil, q_lst, if_pos (by decide), q_asgO, q_seq1, q_set_3, x_seq]
  have e5 : sFor [3] (iR1 (aCons (eV 1) aNil)) (.nm 4) flowBody [some (.lst (ns.map .int)), some (.int (m : Int)), some (.int g), some (.lst []), none, none, none] = some (.nx ρ') := by
    rw [x_for]
    walk_at "ev"
    rw [hsm, Int.toNat_natCast]
    walk_at "ev"
    exact hl
  rw [show (sIf (tB2 (e2 dGt (eV 2) (eC (D.int 0)))) _ _) = flowBody from rfl, e5, q_seq1, x_retO, q_eV, h3]
  rfl
/-! ### any drawn part -/
theorem Pt.zero {n : Nat} (h : 1 ≤ n) : Pt n (0, 1) := zero_pt.mono h
set_option maxRecDepth 4000 in
theorem law_any_eq {x y : Int} (hx : 0 ≤ x ∧ x < 1000000) (hy : 0 ≤ y ∧ y < 1000000) : ∃ a : Int × Int, Pt 200 a ∧ law_anyF [.int x, .int y] = some (P a) := by
  have e40 : dPow (.int 10) (.int 40) = some (.int (10 ^ 40)) := by rw [q_dPow, if_pos (by decide)]; rfl
  have e30 : dPow (.int 10) (.int 30) = some (.int (10 ^ 30)) := by rw [q_dPow, if_pos (by decide)]; rfl
  have d41 : okDiv 41 = true := by decide +kernel
  have m1 : okMul x (10 ^ 40) = true := okMul_l (by omega)
  have m2 : okMul y (10 ^ 30) = true := okMul_l (by omega)
  have p9 : (0 : Int) < 9 := by decide
  have p41 : (0 : Int) < 41 := by decide
  have p24 : (0 : Int) < 24 := by decide
  have p6 : (0 : Int) < 6 := by decide
  have p2 : (0 : Int) < 2 := by decide
  have big : ∀ t b : Int, 0 < b → t.natAbs < 2 ^ 200 → b.natAbs < 2 ^ 200 → ∃ a, Pt 200 a ∧ law_lowF [.int t, .int b] = some (P a) := fun t b h ht hb =>
    ⟨_, low_pt h ht hb, law_low_eq h (pow_mono hb (by decide))⟩
  have h1 := @dEq_int
  unfold law_anyF law_anyB
  rw [fn_2, show startD 4 [D.int x, D.int y] = [some (.int x), some (.int y), none, none] from rfl]
  by_cases c9 : x % 9 = 0
  · refine ⟨(0, 1), zero_pt.mono (by decide), ?_⟩
    walk_at "evs"
    rfl
  · by_cases c1 : x / 41 % 6 = 1
    · obtain ⟨a, ha, e⟩ := big (x - 500000) (1 + y) (by omega) (by omega) (by omega)
      refine ⟨a, ha, ?_⟩
      have c2 : ¬ (1 : Int) = 2 := by decide
      walk_at "evs"
    · by_cases c2 : x / 41 % 6 = 2
      · by_cases c3 : x % 2 = 0
        · obtain ⟨a, ha, e⟩ := big (-(x * 10 ^ 40 + y)) (y * 10 ^ 30 + 1) (by omega) (by omega) (by omega)
          refine ⟨a, ha, ?_⟩
          have c4 : ¬ (2 : Int) = 1 := by decide
          walk_at "evs"
        · obtain ⟨a, ha, e⟩ := big (x * 10 ^ 40 + y) (y * 10 ^ 30 + 1) (by omega) (by omega) (by omega)
          refine ⟨a, ha, ?_⟩
          have c4 : ¬ (2 : Int) = 1 := by decide
          walk_at "evs"
      · obtain ⟨a, ha, e⟩ := big (x % 41 - 20) (1 + y % 24) (by omega) (by omega) (by omega)
        refine ⟨a, ha, ?_⟩
        walk_at "evs"
end PM
namespace PM
open PySem L2 PD
/-! ### == of lists of parts, of lists of ints, of lists of such lists -/
theorem shp_lst {ds : List D} (h : ∀ d ∈ ds, shp d = true ∧ (toP d).depth ≤ 60) : shp (.lst ds) = true ∧ (toP (.lst ds)).depth ≤ 61 := by
  have key : ∀ ds : List D, (∀ d ∈ ds, shp d = true ∧ (toP d).depth ≤ 60) → noObjs ds = true ∧ PyData.canLayAll0 (toPs ds) = true ∧ PyData.depthAll (toPs ds) ≤ 60 := by
    intro ds
    induction ds with
    | nil => intro _; exact ⟨by simp [noObjs], by simp [toPs, PyData.canLayAll0], by simp [toPs, PyData.depthAll]⟩
    | cons d r ih =>
      intro h
      obtain ⟨a, b, c⟩ := ih fun x hx => h x (by simp [hx])
      obtain ⟨h1, h2⟩ := h d (by simp)
      unfold shp at h1
      rw [Bool.and_eq_true] at h1
      have h3 := SeqAt.canLay_of_shaped h1.2
      refine ⟨by simp [noObjs, h1.1, a], by simp [toPs, PyData.canLayAll0, h3, b], ?_⟩
      simp only [toPs, PyData.depthAll]
      omega
  obtain ⟨a, b, c⟩ := key ds h
  have d : (toP (.lst ds)).depth ≤ 61 := by
    simp only [toP, PyData.depth]
    omega
  refine ⟨?_, d⟩
  unfold shp
  rw [Bool.and_eq_true]
  refine ⟨by simpa [noObj] using a, ?_⟩
  unfold SeqAt.shaped
  rw [Bool.and_eq_true]
  exact ⟨by simpa [toP, PyData.canLay0] using b, decide_eq_true (by omega)⟩
theorem shp_lP (l : List (Int × Int)) : shp (.lst (l.map P)) = true ∧ (toP (.lst (l.map P))).depth ≤ 61 := shp_lst fun d hd => by
  obtain ⟨a, _, rfl⟩ := List.mem_map.mp hd
  exact ⟨shp_P a, by show (max 0 (max 0 0) + 1 : Nat) ≤ 60; decide⟩
theorem eqv_lP : ∀ l m : List (Int × Int), PyData.eqvAll (toPs (l.map P)) (toPs (m.map P)) = decide (l = m)
  | [], [] => rfl
  | [], _ :: _ => rfl
  | _ :: _, [] => rfl
  | a :: l, b :: m => by
    have h1 := eqv_P a b
    have h2 := eqv_lP l m
    simp only [List.map_cons, toPs, PyData.eqvAll, h1, h2, List.cons.injEq, Bool.decide_and]
theorem dEq_lP {l m : List (Int × Int)} : dEq (.lst (l.map P)) (.lst (m.map P)) = some (.bl (decide (l = m))) := by
  unfold dEq
  rw [(shp_lP l).1, (shp_lP m).1]
  simp only [toP, PyData.eqv, eqv_lP, Bool.and_self, if_true]
theorem dNe_lP {l m : List (Int × Int)} : dNe (.lst (l.map P)) (.lst (m.map P)) = some (.bl (!decide (l = m))) := by
  unfold dNe
  rw [(shp_lP l).1, (shp_lP m).1]
  simp only [toP, PyData.eqv, eqv_lP, Bool.and_self, if_true]
/-! ### comprehensions -/
theorem comp_all {α : Type} {t : Tgt} {test : En → Option Bool} {elt : En → Option D} {ρ : En} (f : α → D) (Pr : α → Prop) : ∀ ds : List D, (∀ d ∈ ds, ∃ ρ1 a, stD t d ρ = some ρ1 ∧ test ρ1 = some true ∧ elt ρ1 = some (f a) ∧ Pr a) →
    ∃ l : List α, compD t test elt ρ ds = some (l.map f) ∧ (∀ a ∈ l, Pr a) ∧ l.length = ds.length
  | [], _ => ⟨[], rfl, by simp, rfl⟩
  | d :: ds, h => by
    obtain ⟨ρ1, a, h1, h2, h3, h4⟩ := h d (by simp)
    obtain ⟨l, e, hl, n⟩ := comp_all f Pr ds fun x hx => h x (by simp [hx])
    refine ⟨a :: l, ?_, ?_, by simp [n]⟩
    · unfold compD
      simp only [h1, h2, h3, e, Option.bind_some, if_true, Option.map_some, List.map_cons]
    · intro x hx
      rcases List.mem_cons.mp hx with rfl | hx
      · exact h4
      · exact hl x hx
/-- each element told -/
theorem comp_map {α β : Type} {t : Tgt} {test : En → Option Bool} {elt : En → Option D} {ρ : En} (e : α → D) (f : β → D) (g : α → β) : ∀ as : List α, (∀ a ∈ as, ∃ ρ1, stD t (e a) ρ = some ρ1 ∧ test ρ1 = some true ∧ elt ρ1 = some (f (g a))) →
    compD t test elt ρ (as.map e) = some ((as.map g).map f)
  | [], _ => rfl
  | a :: as, h => by
    obtain ⟨ρ1, h1, h2, h3⟩ := h a (by simp)
    have ih := comp_map e f g as fun x hx => h x (by simp [hx])
    rw [List.map_cons]
    unfold compD
    simp only [h1, h2, h3, ih, Option.bind_some, if_true, Option.map_some, List.map_cons]
theorem small_nat {n : Nat} (h : n ≤ 1000000) : small62 (n : Int) = true := by
  unfold small62
  rw [Bool.and_eq_true]
  exact ⟨decide_eq_true (by omega), decide_eq_true (by omega)⟩
theorem small_int {n : Int} (h0 : -1000000 ≤ n) (h : n ≤ 1000000) : small62 n = true := by
  unfold small62
  rw [Bool.and_eq_true]
  exact ⟨decide_eq_true (by omega), decide_eq_true (by omega)⟩
theorem rng_mem {lo : Int} {n : Nat} {d : D} (h : d ∈ rngD lo n) : ∃ i : Nat, i < n ∧ d = .int (lo + (i : Int)) := by
  unfold rngD at h
  obtain ⟨i, hi, rfl⟩ := List.mem_map.mp h
  exact ⟨i, List.mem_range.mp hi, rfl⟩
theorem rng_len {lo : Int} {n : Nat} : (rngD lo n).length = n := by simp [rngD]
theorem row_at {row : List Int} {k : Nat} (hr : Row row) (h : k < row.length) : ∃ v : Int, (0 ≤ v ∧ v < 1000000) ∧ atI (row.map D.int) (k : Int) = some (.int v) := by
  refine ⟨row[k], hr _ (List.getElem_mem h), ?_⟩
  rw [atI_map, atI_nat (List.getElem?_eq_getElem h)]; rfl
theorem row_ati {row : List Int} {i : Int} (hr : Row row) (h0 : 0 ≤ i) (h : i < row.length) : ∃ v : Int, (0 ≤ v ∧ v < 1000000) ∧ atI (row.map D.int) i = some (.int v) := by
  obtain ⟨k, rfl⟩ := Int.eq_ofNat_of_zero_le h0
  exact row_at hr (by omega)
theorem low_idem {t b : Int} (h : 0 < b) : low (low t b).1 (low t b).2 = low t b := low_self (Int.gcd_ediv_gcd_ediv_gcd (by have := gcd_pos (t := t) h; omega))
end PM
namespace PM
open PySem L2 PD
/-! ### parts as rationals -/
def val (a : Int × Int) : Rat := Rat.divInt a.1 a.2
theorem val_low {t b : Int} (h : 0 < b) : val (low t b) = Rat.divInt t b := by
  have p := (low_pt (n := t.natAbs + b.natAbs) (t := t) h (Nat.lt_of_le_of_lt (Nat.le_add_right _ _) Nat.lt_two_pow_self) (Nat.lt_of_le_of_lt (Nat.le_add_left _ _) Nat.lt_two_pow_self)).pos
  unfold val
  rw [Rat.divInt_eq_divInt_iff (by omega) (by omega)]
  exact low_cross h
theorem val_plus {a b : Int × Int} (ha : 0 < a.2) (hb : 0 < b.2) : val (plus a b) = val a + val b := by
  unfold plus
  rw [val_low (Int.mul_pos ha hb)]
  unfold val
  rw [Rat.divInt_add_divInt _ _ (by omega) (by omega)]
theorem val_minus {a b : Int × Int} (ha : 0 < a.2) (hb : 0 < b.2) : val (minus a b) = val a - val b := by
  unfold minus
  rw [val_low (Int.mul_pos ha hb)]
  unfold val
  rw [Rat.divInt_sub_divInt _ _ (by omega) (by omega)]
theorem val_times {a b : Int × Int} (ha : 0 < a.2) (hb : 0 < b.2) : val (times a b) = val a * val b := by
  unfold times
  rw [val_low (Int.mul_pos ha hb)]
  unfold val
  rw [Rat.divInt_mul_divInt]
theorem val_over {a b : Int × Int} (ha : 0 < a.2) (hb : 0 < b.2) (h : 0 < b.1) : val (over a b) = val a / val b := by
  unfold over
  rw [val_low (Int.mul_pos ha h)]
  unfold val
  rw [Rat.div_def, Rat.inv_divInt, Rat.divInt_mul_divInt]
theorem val_num {a : Int × Int} (h : 0 < a.2) (g : Int.gcd a.1 a.2 = 1) : (val a).num = a.1 := by
  unfold val
  rw [Rat.num_divInt, Int.gcd_comm, g, Int.sign_eq_one_of_pos h]
  simp
theorem val_den {a : Int × Int} (h : 0 < a.2) (g : Int.gcd a.1 a.2 = 1) : ((val a).den : Int) = a.2 := by
  unfold val
  rw [Rat.den_divInt, if_neg (by omega), Int.gcd_comm, g]
  simp
  omega
theorem val_inj {n m : Nat} {a b : Int × Int} (ha : Pt n a) (hb : Pt m b) (h : val a = val b) : a = b := by
  have h1 := val_num ha.pos ha.one
  have h2 := val_num hb.pos hb.one
  have h3 := val_den ha.pos ha.one
  have h4 := val_den hb.pos hb.one
  rw [h] at h1 h3
  exact Prod.ext (h1.symm.trans h2) (h3.symm.trans h4)
theorem val_lt {a b : Int × Int} (ha : 0 < a.2) (hb : 0 < b.2) : a.1 * b.2 < b.1 * a.2 ↔ val a < val b := by
  unfold val
  rw [Rat.divInt_eq_div, Rat.divInt_eq_div]
  have pa : (0 : Rat) < (a.2 : Rat) := Rat.intCast_pos.mpr ha
  have pb : (0 : Rat) < (b.2 : Rat) := Rat.intCast_pos.mpr hb
  rw [Rat.div_lt_iff pa, Rat.div_def, Rat.mul_assoc, Rat.mul_comm (b.2 : Rat)⁻¹, ← Rat.mul_assoc, ← Rat.div_def, Rat.lt_div_iff pb]
  rw [← Rat.intCast_mul, ← Rat.intCast_mul, Rat.intCast_lt_intCast]
theorem less_val {a b : Int × Int} (ha : 0 < a.2) (hb : 0 < b.2) : less a b = decide (val a < val b) := by
  unfold less
  exact decide_eq_decide.mpr (val_lt ha hb)
theorem val_int (z : Int) : val (z, 1) = (z : Rat) := by
  have h1 := val_num (a := (z, 1)) (show (0 : Int) < 1 by decide) (by simp)
  have h2 := val_den (a := (z, 1)) (show (0 : Int) < 1 by decide) (by simp)
  refine Rat.ext (by rw [h1]; rfl) ?_
  have : ((val (z, 1)).den : Int) = ((1 : Nat) : Int) := h2
  rw [Rat.den_intCast]
  exact Int.ofNat.inj this
theorem val_zero : val (0, 1) = 0 := val_int 0
theorem val_one : val (1, 1) = 1 := val_int 1
end PM
namespace PM
open PySem L2 PD

/-! most(many, k): slots 0:many 1:k 2:found 3:j -/
def mostB : En → Option Out := (sSeq (sAsg [] 2 (eTup (aCons (eC (.int 0)) (aCons (eC (.int 1)) aNil))))
  (sSeq (sFor [] (iR2 (aCons (e2 dAdd (eV 1) (eC (.int 1))) (aCons (e2 dAdd (eV 0) (eC (.int 1))) aNil))) (.nm 3) (sAsg [] 2 (eCB plusF (aCons (eV 2) (aCons (eTup (aCons (eC (.int 1)) (aCons (eV 3) aNil))) aNil)))))
  (sRet (eCB lowestF (aCons (e2 dMul (e2 dIx (eV 2) (eC (.int 0))) (eV 1)) (aCons (e2 dIx (eV 2) (eC (.int 1))) aNil))))))
def mostF : List D → Option D := fnOut 2 4 mostB
/-! behind(many): slots 0:many -/
def behindB : En → Option Out := (sRet (eCB mostF (aCons (eV 0) (aCons (eC (.int 1)) aNil))))
def behindF : List D → Option D := fnOut 1 1 behindB
/-! before(many): slots 0:many -/
def beforeB : En → Option Out := (sRet (eCB minusF (aCons (eC (.tup [(.int 1), (.int 1)])) (aCons (eTup (aCons (eC (.int 1)) (aCons (eV 0) aNil))) aNil))))
def beforeF : List D → Option D := fnOut 1 1 beforeB
/-! wait(many, share): slots 0:many 1:share -/
def waitB : En → Option Out := (sRet (eCB floor_ofF (aCons (eCB overF (aCons (eCB plusF (aCons (eCB behindF (aCons (eV 0) aNil)) (aCons (eCB beforeF (aCons (eV 0) aNil)) aNil))) (aCons (eV 1) aNil))) aNil)))
def waitF : List D → Option D := fnOut 2 2 waitB
/-! foe_hours(many): slots 0:many -/
def foe_hoursB : En → Option Out := (sRet (eCB ceil_ofF (aCons (eCB timesF (aCons (eTup (aCons (eV 0) (aCons (eC (.int 1)) aNil))) (aCons (eCB behindF (aCons (eV 0) aNil)) aNil))) aNil)))
def foe_hoursF : List D → Option D := fnOut 1 1 foe_hoursB
/-! law_most(law_n, law_k): slots 0:law_n 1:law_k 2:law_found 3:law_j -/
def law_mostB : En → Option Out := (sSeq (sAsg [] 2 (eTup (aCons (eC (.int 0)) (aCons (eC (.int 1)) aNil))))
  (sSeq (sFor [] (iR2 (aCons (e2 dAdd (eV 1) (eC (.int 1))) (aCons (e2 dAdd (eV 0) (eC (.int 1))) aNil))) (.nm 3) (sAsg [] 2 (eCB law_addF (aCons (eV 2) (aCons (eTup (aCons (eV 1) (aCons (eV 3) aNil))) aNil)))))
  (sRet (eV 2))))
def law_mostF : List D → Option D := fnOut 2 4 law_mostB
end PM
namespace PM
open PySem L2 PD
/-! ### a loop that folds one value of the slots; v: the loop's own name -/
theorem fold_gen {α β : Type} (mk : α → Option D → En) {t : Tgt} {F : En → Option Out} (enc : β → D) (f : α → β → α) (Inv : Nat → α → Prop) (Q : β → Prop) (step B : Nat)
    (turn : ∀ m a b v, Inv m a → Q b → m + step ≤ B → ∃ ρ1 v', stD t (enc b) (mk a v) = some ρ1 ∧ F ρ1 = some (.nx (mk (f a b) v')) ∧ Inv (m + step) (f a b)) :
    ∀ (bs : List β) (m : Nat) (a : α) (v : Option D), Inv m a → (∀ b ∈ bs, Q b) → m + bs.length * step ≤ B → ∃ v', loopD t F (bs.map enc) (mk a v) = some (.nx (mk (bs.foldl f a) v')) ∧ Inv (m + bs.length * step) (bs.foldl f a)
  | [], m, a, v, h, _, _ => ⟨v, rfl, by simpa using h⟩
  | b :: bs, m, a, v, h, hq, hB => by
    rw [List.length_cons, Nat.succ_mul] at hB
    obtain ⟨ρ1, v1, s1, s2, h1⟩ := turn m a b v h (hq b (by simp)) (by omega)
    obtain ⟨v2, e, h2⟩ := fold_gen mk enc f Inv Q step B turn bs (m + step) (f a b) v1 h1 (fun x hx => hq x (by simp [hx])) (by omega)
    refine ⟨v2, ?_, ?_⟩
    · rw [List.map_cons, x_loop, s1, q_turn, s2, q_next0, e]; rfl
    · rw [List.length_cons, Nat.succ_mul, List.foldl_cons]
      have : m + (bs.length * step + step) = m + step + bs.length * step := by omega
      rw [this]
      exact h2
/-- a fraction of size n, not always in lowest terms -/
structure Sz (n : Nat) (a : Int × Int) : Prop where
  pos : 0 < a.2
  top : a.1.natAbs < 2 ^ n
  bot : a.2.natAbs < 2 ^ n
theorem Pt.sz {n : Nat} {a : Int × Int} (h : Pt n a) : Sz n a := ⟨h.pos, h.top, h.bot⟩
theorem plus_ptz {n m : Nat} {a b : Int × Int} (ha : Sz n a) (hb : Sz m b) : Pt (n + m + 1) (plus a b) :=
  low_pt (Int.mul_pos ha.pos hb.pos) (pow_add (pow_mul ha.top hb.bot) (by rw [Nat.add_comm n m]; exact pow_mul hb.top ha.bot)) (pow_mono (pow_mul ha.bot hb.bot) (Nat.le_succ _))
theorem plus_pos {a b : Int × Int} (ha : 0 < a.2) (hb : 0 < b.2) : 0 < (plus a b).2 := by
  have h := Int.mul_pos ha hb
  show 0 < a.2 * b.2 / _
  exact Int.ediv_pos_of_pos_of_dvd h (by have := gcd_pos (t := a.1 * b.2 + b.1 * a.2) h; omega) (Int.gcd_dvd_right ..)
theorem law_add_eqz {n m : Nat} {a b : Int × Int} (ha : Sz n a) (hb : Sz m b) (h : n + m ≤ 8999) : law_addF [P a, P b] = some (P (plus a b)) := by
  have h1 := okMul_pt ha.top hb.bot h
  have h2 := okMul_pt hb.top ha.bot (by omega)
  have h3 := okMul_pt ha.bot hb.bot h
  have hp := Int.mul_pos ha.pos hb.pos
  have l := law_low_eq (t := a.1 * b.2 + b.1 * a.2) hp (pow_mono (pow_mul ha.bot hb.bot) (by omega))
  unfold law_addF law_addB
  walk_at "op"
  walk_at "ev"
  simp only [P_ix0, P_ix1]
  walk_at "evs"
  rfl
theorem unit_pt {j : Int} (h : 0 < j) (h2 : j < 64) : Pt 6 (1, j) := ⟨h, by show 1 < 64; decide, by show j.natAbs < 64; omega, by simp⟩
theorem unit_sz {k j : Int} (h0 : 0 ≤ k) (hk : k < 64) (h : 0 < j) (h2 : j < 64) : Sz 6 (k, j) := ⟨h, by show k.natAbs < 64; omega, by show j.natAbs < 64; omega⟩
theorem num_pt {j : Int} {n : Nat} (h : j.natAbs < 2 ^ n) (hn : 1 ≤ n) : Pt n (j, 1) := ⟨(by decide : (0 : Int) < 1), h, (by show 1 < 2 ^ n; exact Nat.one_lt_two_pow (by omega)), by simp⟩
/-! ### most, behind, before, wait, foe_hours -/
/-- lo, lo + 1, .. (c of them) -/
def ups (lo : Int) (c : Nat) : List Int := (List.range c).map fun (i : Nat) => lo + (i : Int)
theorem rng_ups (lo : Int) (c : Nat) : rngD lo c = (ups lo c).map D.int := by
  unfold rngD ups
  rw [List.map_map]
  rfl
theorem ups_len (lo : Int) (c : Nat) : (ups lo c).length = c := by simp [ups]
theorem ups_mem {lo j : Int} {c : Nat} (h : j ∈ ups lo c) : lo ≤ j ∧ j < lo + c := by
  unfold ups at h
  obtain ⟨i, hi, rfl⟩ := List.mem_map.mp h
  have := List.mem_range.mp hi
  omega
theorem ups_succ (lo : Int) (c : Nat) : ups lo (c + 1) = ups lo c ++ [lo + (c : Int)] := by
  unfold ups
  rw [List.range_succ, List.map_append]
  rfl
/-- 1/(k+1) + .. + 1/(k+c) -/
def harm (k : Int) (c : Nat) : Int × Int := (ups (k + 1) c).foldl (fun a j => plus a (1, j)) (0, 1)
def most (n k : Nat) : Int × Int := low ((harm k (n - k)).1 * k) (harm k (n - k)).2
def before (n : Nat) : Int × Int := minus (1, 1) (1, n)
/-- the same as a rational -/
def hsum (k : Nat) : Nat → Rat
  | 0 => 0
  | c + 1 => hsum k c + 1 / ((k + 1 + c : Nat) : Rat)
theorem foldl_pt {e : Int → Int × Int} {q : Int → Prop} (he : ∀ j, q j → Sz 6 (e j)) : ∀ (l : List Int) (m : Nat) (a : Int × Int), Pt m a → (∀ j ∈ l, q j) → Pt (m + l.length * 7) (l.foldl (fun a j => plus a (e j)) a)
  | [], m, a, h, _ => by simpa using h
  | j :: l, m, a, h, hq => by
    have := foldl_pt he l (m + 7) (plus a (e j)) (plus_ptz h.sz (he j (hq j (by simp)))) fun x hx => hq x (by simp [hx])
    rw [List.length_cons, Nat.succ_mul, show m + (l.length * 7 + 7) = m + 7 + l.length * 7 by omega]
    exact this
theorem harm_pt {k : Int} {c : Nat} (h0 : 0 ≤ k) (h : k + c < 64) : Pt (1 + c * 7) (harm k c) := by
  have := foldl_pt (e := fun j => (1, j)) (q := fun j => 0 < j ∧ j < 64) (fun j h => (unit_pt h.1 h.2).sz) (ups (k + 1) c) 1 (0, 1) zero_pt fun j hj => by
    have := ups_mem hj
    omega
  rw [ups_len] at this
  exact this
theorem val_unit {j : Nat} (h : 0 < j) : val (1, (j : Int)) = 1 / (j : Rat) := by
  unfold val
  rw [Rat.divInt_eq_div]
  rfl
theorem harm_val (k : Nat) : ∀ c : Nat, k + c < 64 → val (harm k c) = hsum k c
  | 0, _ => val_zero
  | c + 1, h => by
    have ih := harm_val k c (by omega)
    have p := harm_pt (k := k) (c := c) (by omega) (by omega)
    have e : harm k (c + 1) = plus (harm k c) (1, (k : Int) + 1 + c) := by
      unfold harm
      rw [ups_succ, List.foldl_append]
      rfl
    rw [e, val_plus p.pos (show (0 : Int) < (k : Int) + 1 + c by omega), ih, hsum]
    have := val_unit (j := k + 1 + c) (by omega)
    rw [← this]
    rfl
theorem most_pt {n k : Nat} (h : n < 64) : Pt 500 (most n k) := by
  unfold most
  by_cases hk : k ≤ n
  · have p := harm_pt (k := k) (c := n - k) (by omega) (by omega)
    have hk6 : ((k : Int)).natAbs < 2 ^ 6 := by show (k : Int).natAbs < 64; omega
    refine low_pt p.pos (pow_mono (pow_mul p.top hk6) (by omega)) (pow_mono p.bot (by omega))
  · rw [Nat.sub_eq_zero_of_le (by omega)]
    have : Pt 500 ((0, 1) : Int × Int) := zero_pt.mono (by decide)
    show Pt 500 (low (0 * (k : Int)) 1)
    rw [Int.zero_mul]
    exact this
theorem most_val {n k : Nat} (hk : k ≤ n) (h : n < 64) : val (most n k) = (k : Rat) * hsum k (n - k) := by
  have p := harm_pt (k := k) (c := n - k) (by omega) (by omega)
  unfold most
  rw [val_low p.pos, ← harm_val k (n - k) (by omega)]
  unfold val
  rw [Rat.divInt_eq_div, Rat.divInt_eq_div, Rat.intCast_mul, Rat.div_def, Rat.div_def, Rat.intCast_natCast]
  grind
theorem most_loop {n k : Nat} (h : n < 64) (x0 x1 : Option D) : ∃ v', loopD (.nm 3) (sAsg [] 2 (eCB plusF (aCons (eV 2) (aCons (eTup (aCons (eC (.int 1)) (aCons (eV 3) aNil))) aNil)))) (rngD ((k : Int) + 1) (n - k)) [x0, x1, some (P (0, 1)), none] = some (.nx [x0, x1, some (P (harm k (n - k))), v']) := by
  rw [rng_ups]
  obtain ⟨v, e, _⟩ := fold_gen (fun a v => [x0, x1, some (P a), v]) (t := .nm 3) (F := sAsg [] 2 (eCB plusF (aCons (eV 2) (aCons (eTup (aCons (eC (.int 1)) (aCons (eV 3) aNil))) aNil)))) D.int (fun a j => plus a (1, j)) (fun m a => Pt m a) (fun j => 0 < j ∧ j < 64) 7 8000
    (fun m a j v ha hj hm => by
      have e := plus_eq ha (unit_pt hj.1 hj.2) (by omega)
      refine ⟨_, some (.int j), rfl, ?_, plus_ptz ha.sz (unit_pt hj.1 hj.2).sz⟩
      unfold P at e ⊢
      walk_at "evs") (ups ((k : Int) + 1) (n - k)) 1 (0, 1) none zero_pt (fun j hj => by have := ups_mem hj; omega) (by rw [ups_len]; omega)
  exact ⟨v, e⟩
theorem most_eq {n k : Nat} (h : n < 64) (hk : k ≤ n) : mostF [.int n, .int k] = some (P (most n k)) := by
  obtain ⟨v, e⟩ := most_loop (n := n) (k := k) h (some (.int n)) (some (.int k))
  have p := harm_pt (k := k) (c := n - k) (by omega) (by omega)
  have hk6 : ((k : Int)).natAbs < 2 ^ 6 := by show (k : Int).natAbs < 64; omega
  have m1 := okMul_pt p.top hk6 (by omega)
  have l := lowest_eq (t := (harm k (n - k)).1 * (k : Int)) p.pos (pow_mono p.bot (by omega))
  have s1 := small_int (n := (k : Int) + 1) (by omega) (by omega)
  have s2 := small_int (n := (n : Int) + 1) (by omega) (by omega)
  have c : ((n : Int) + 1 - ((k : Int) + 1)).toNat = n - k := by omega
  unfold mostF mostB
  unfold P at e
  walk_at "op"
  walk_at "evs"
  rfl
theorem behind_eq {n : Nat} (h : n < 64) (h1 : 1 ≤ n) : behindF [.int n] = some (P (most n 1)) := by
  have e := most_eq h h1
  rw [show ((1 : Nat) : Int) = 1 from rfl] at e
  unfold behindF behindB
  walk_at "op"
  walk_at "evs"
theorem before_pt {n : Nat} (h : n < 64) (h1 : 1 ≤ n) : Pt 8 (before n) := minus_pt one_pt (unit_pt (by omega) (by omega))
theorem before_eq {n : Nat} (h : n < 64) (h1 : 1 ≤ n) : beforeF [.int n] = some (P (before n)) := by
  have e := minus_eq one_pt (unit_pt (j := (n : Int)) (by omega) (by omega)) (by omega)
  unfold P at e
  unfold beforeF beforeB before P
  walk_at "op"
  walk_at "evs"
theorem before_val {n : Nat} (h1 : 1 ≤ n) : val (before n) = 1 - 1 / (n : Rat) := by
  unfold before
  rw [val_minus (by decide) (show (0 : Int) < n by omega), val_one, val_unit h1]
/-- the law's own -/
theorem law_most_eq {n k : Nat} (h : n < 64) (hk : k ≤ n) : ∃ a, Pt 500 a ∧ val a = (k : Rat) * hsum k (n - k) ∧ law_mostF [.int n, .int k] = some (P a) := by
  have s1 := small_int (n := (k : Int) + 1) (by omega) (by omega)
  have s2 := small_int (n := (n : Int) + 1) (by omega) (by omega)
  have c : ((n : Int) + 1 - ((k : Int) + 1)).toNat = n - k := by omega
  have hq : ∀ j ∈ ups ((k : Int) + 1) (n - k), 0 < j ∧ j < 64 := fun j hj => by have := ups_mem hj; omega
  obtain ⟨v, e, p⟩ := fold_gen (fun a v => [some (.int n), some (.int k), some (P a), v]) (t := .nm 3) (F := sAsg [] 2 (eCB law_addF (aCons (eV 2) (aCons (eTup (aCons (eV 1) (aCons (eV 3) aNil))) aNil)))) D.int (fun a j => plus a ((k : Int), j)) (fun m a => Pt m a) (fun j => 0 < j ∧ j < 64) 7 8000
    (fun m a j v ha hj hm => by
      have e := law_add_eqz ha.sz (unit_sz (k := (k : Int)) (by omega) (by omega) hj.1 hj.2) (by omega)
      refine ⟨_, some (.int j), rfl, ?_, plus_ptz ha.sz (unit_sz (by omega) (by omega) hj.1 hj.2)⟩
      unfold P at e ⊢
      walk_at "evs") (ups ((k : Int) + 1) (n - k)) 1 (0, 1) none zero_pt hq (by rw [ups_len]; omega)
  rw [ups_len] at p
  refine ⟨(ups ((k : Int) + 1) (n - k)).foldl (fun a j => plus a ((k : Int), j)) (0, 1), p.mono (by omega), ?_, ?_⟩
  · have gen : ∀ c : Nat, k + c < 64 → val ((ups ((k : Int) + 1) c).foldl (fun a j => plus a ((k : Int), j)) (0, 1)) = (k : Rat) * hsum k c ∧ 0 < ((ups ((k : Int) + 1) c).foldl (fun a j => plus a ((k : Int), j)) (0, 1)).2 := by
      intro c
      induction c with
      | zero => intro _; exact ⟨by show val (0, 1) = _; rw [val_zero, hsum, Rat.mul_zero], (show (0 : Int) < 1 by decide)⟩
      | succ c ih =>
        intro hc
        obtain ⟨i1, i2⟩ := ih (by omega)
        have pj : (0 : Int) < (k : Int) + 1 + c := by omega
        rw [ups_succ, List.foldl_append, List.foldl_cons, List.foldl_nil]
        refine ⟨?_, ?_⟩
        · rw [val_plus i2 pj, i1, hsum, Rat.mul_add]
          have e : val ((k : Int), (k : Int) + 1 + c) = (k : Rat) * (1 / ((k + 1 + c : Nat) : Rat)) := by
            unfold val
            rw [Rat.divInt_eq_div, Rat.div_def, Rat.div_def, Rat.one_mul]
            rfl
          rw [e]
        · exact plus_pos i2 pj
    exact (gen (n - k) (by omega)).1
  · unfold law_mostF law_mostB
    rw [← rng_ups] at e
    unfold P at e ⊢
    walk_at "op"
    walk_at "evs"
end PM
namespace PM
open PySem L2 PD
theorem loop_all {t : Tgt} {F : En → Option Out} (I : En → Prop) (ds : List D) (ρ : En) (h : I ρ) (st : ∀ d ∈ ds, ∀ ρ, I ρ → ∃ ρ1 ρ', stD t d ρ = some ρ1 ∧ (F ρ1 = some (.nx ρ') ∨ F ρ1 = some (.ct ρ')) ∧ I ρ') : ∃ ρ', loopD t F ds ρ = some (.nx ρ') ∧ I ρ' := by
  obtain ⟨ρ', a, b⟩ := loop_inv (t := t) (F := F) (fun _ ρ => I ρ) ds 0 ρ h fun i d ρ e hi => st d (List.mem_of_getElem? e) ρ hi
  exact ⟨ρ', a, b⟩
theorem hsum_first (k : Nat) : ∀ c : Nat, hsum k (c + 1) = 1 / ((k + 1 : Nat) : Rat) + hsum (k + 1) c
  | 0 => by simp only [hsum]; grind
  | c + 1 => by
    rw [hsum, hsum_first k c, hsum]
    have : k + 1 + (c + 1) = k + 1 + 1 + c := by omega
    rw [this, Rat.add_assoc]
theorem hsum_nonneg (k : Nat) : ∀ c : Nat, 0 ≤ hsum k c
  | 0 => Rat.le_refl
  | c + 1 => by
    have h := hsum_nonneg k c
    have h2 : (0 : Rat) < ((k + 1 + c : Nat) : Rat) := Rat.natCast_pos.mpr (by omega)
    have h3 := Rat.inv_pos.mpr h2
    rw [hsum, Rat.div_def, Rat.one_mul]
    grind
theorem val_pos_of {a : Int × Int} (ha : 0 < a.2) (h : 0 < a.1) : 0 < val a := by
  have := (val_lt (a := (0, 1)) (b := a) (by show (0 : Int) < 1; decide) ha).mp (by show 0 * a.2 < a.1 * 1; omega)
  rwa [val_zero] at this
theorem val_floor {n : Nat} {a : Int × Int} (h : Pt n a) : ((a.1 / a.2 : Int) : Rat) ≤ val a ∧ val a < ((a.1 / a.2 + 1 : Int) : Rat) := by
  have e : (val a).floor = a.1 / a.2 := by rw [Rat.floor_def, val_num h.pos h.one, val_den h.pos h.one]
  rw [← e]
  exact ⟨Rat.floor_le _, Rat.lt_floor_add_one _⟩
/-- n's own sum behind + before -/
def both (n : Nat) : Int × Int := plus (most n 1) (before n)
theorem both_pt {n : Nat} (h : n < 64) (h1 : 1 ≤ n) : Pt 509 (both n) := plus_pt (most_pt h) (before_pt h h1)
theorem both_val {n : Nat} (h : n < 64) (h1 : 1 ≤ n) : val (both n) = hsum 1 (n - 1) + (1 - 1 / (n : Rat)) := by
  unfold both
  rw [val_plus (most_pt h).pos (before_pt h h1).pos, most_val h1 h, before_val h1]
  have : ((1 : Nat) : Rat) = 1 := rfl
  rw [this, Rat.one_mul]
theorem wait_eq {n : Nat} {s : Int × Int} {m : Nat} (h : n < 64) (h1 : 1 ≤ n) (hs : Pt m s) (h0 : 0 < s.1) (hm : m ≤ 7000) : waitF [.int n, P s] = some (.int ((over (both n) s).1 / (over (both n) s).2)) := by
  have e1 := behind_eq h h1
  have e2' := before_eq h h1
  have e3 := plus_eq (most_pt (k := 1) h) (before_pt h h1) (by decide)
  have e4 := over_eq (both_pt h h1) hs h0 (by omega)
  have e5 := floor_of_eq (over_pt (both_pt h h1) hs h0) (by omega)
  unfold both at e4 e5 ⊢
  unfold waitF waitB
  walk_at "op"
  walk_at "evs"
theorem foe_hours_eq {n : Nat} (h : n < 64) (h1 : 1 ≤ n) : foe_hoursF [.int n] = some (.int (-(-(times ((n : Int), 1) (most n 1)).1 / (times ((n : Int), 1) (most n 1)).2))) := by
  have pn : Pt 6 ((n : Int), 1) := num_pt (by show (n : Int).natAbs < 64; omega) (by decide)
  have e1 := behind_eq h h1
  have e2' := times_eq pn (most_pt (k := 1) h) (by decide)
  have e3 := ceil_of_eq (times_pt pn (most_pt (k := 1) h)) (by decide)
  unfold P at e2'
  unfold P at e1 e3
  unfold foe_hoursF foe_hoursB
  walk_at "op"
  walk_at "evs"
end PM
namespace PM
open PySem L2 PD

/-! raised(lags, shares): slots 0:lags 1:shares 2:lag 3:share -/
def raisedB : En → Option Out := (sRetF (eComp [2, 3] (iZ (aCons (eV 0) (aCons (eV 1) aNil))) (.tp [2, 3]) tTrue (eCB plusF (aCons (eV 2) (aCons (eV 3) aNil)))))
def raisedF : List D → Option (List D) := fnOutF 2 4 raisedB
/-! turn_of(row): slots 0:row 1:found 2:place -/
def turn_ofB : En → Option Out := (sSeq (sAsg [] 1 (eC (.int 0)))
  (sSeq (sFor [] (iR1 (aCons (eCB cLen (aCons (eV 0) aNil)) aNil)) (.nm 2) (sIf (tB2 (eCB belowF (aCons (e2 dIx (eV 0) (eV 1)) (aCons (e2 dIx (eV 0) (eV 2)) aNil)))) (sAsg [] 1 (eV 2)) sNil))
  (sRet (eV 1))))
def turn_ofF : List D → Option D := fnOut 1 3 turn_ofB
/-! law_parts(law_found): slots 0:law_found 1:law_a -/
def law_partsB : En → Option Out := (sRet (eAnd (eCB cIsi (aCons (eV 0) (aCons (eC (.ty .list)) aNil))) (eCB cAll (aCons (eFr (eComp [1] (iL (eV 0)) (.nm 1) tTrue (eCB law_partF (aCons (eV 1) aNil)))) aNil))))
def law_partsF : List D → Option D := fnOut 1 2 law_partsB
/-! law_shares(law_row, law_n): slots 0:law_row 1:law_n 2:law_weights 3:law_whole_here 4:law_one 5:law_weight -/
def law_shares_s1 : En → Option Out := (sAsgO [2] 2 (eComp [4] (iL (eFr (eSl (eV 0) oNone (oSome (eV 1))))) (.nm 4) tTrue (e2 dMod (eV 4) (eC (.int 12)))))
def law_shares_s2 : En → Option Out := (sIf (tB2 (e2 dEq (e2 dMod (e2 dIx (eV 0) (eV 1)) (eC (.int 5))) (eC (.int 1)))) (sAsgO [2] 2 (eComp [4] (iL (eFr (eSl (eV 0) oNone (oSome (eV 1))))) (.nm 4) tTrue (e2 dMod (eV 4) (eC (.int 2))))) sNil)
def law_shares_s3 : En → Option Out := (sIf (tB2 (e2 dEq (e2 dMod (e2 dIx (eV 0) (eV 1)) (eC (.int 5))) (eC (.int 2)))) (sAsgO [2] 2 (eComp [4] (iL (eFr (eSl (eV 0) oNone (oSome (eV 1))))) (.nm 4) tTrue (e2 dMul (eV 4) (eCB cInt (aCons (e2 dEq (e2 dMod (eV 4) (eC (.int 3))) (eC (.int 0))) aNil))))) sNil)
def law_shares_s4 : En → Option Out := (sIf (tB2 (e2 dEq (e2 dMod (e2 dIx (eV 0) (eV 1)) (eC (.int 5))) (eC (.int 3)))) (sAsgO [2] 2 (eComp [4] (iL (eFr (eSl (eV 0) oNone (oSome (eV 1))))) (.nm 4) tTrue (eC (.int 0)))) sNil)
def law_shares_s5 : En → Option Out := (sSetAug (· + ·) 2 (e2 dMod (e2 dDiv (e2 dIx (eV 0) (eV 1)) (eC (.int 5))) (eV 1)) (e2 dAdd (eC (.int 1)) (e2 dMod (e2 dDiv (e2 dIx (eV 0) (eV 1)) (eC (.int 131))) (eC (.int 4)))))
def law_shares_s7 : En → Option Out := (sRetF (eComp [5] (iL (eV 2)) (.nm 5) tTrue (eCB law_lowF (aCons (eV 5) (aCons (eV 3) aNil)))))
def law_sharesB : En → Option Out := (sSeq law_shares_s1
  (sSeq law_shares_s2
  (sSeq law_shares_s3
  (sSeq law_shares_s4
  (sSeq law_shares_s5
  (sSeq (sAsgI 3 (eCB cSum (aCons (eV 2) aNil)))
  law_shares_s7))))))
def law_sharesF : List D → Option (List D) := fnOutF 2 6 law_sharesB
/-! law_first(law_row): slots 0:law_row 1:law_at 2:law_k -/
def law_firstB : En → Option Out := (sSeq (sAsg [] 1 (eC (.int 0)))
  (sSeq (sFor [] (iR1 (aCons (eCB cLen (aCons (eV 0) aNil)) aNil)) (.nm 2) (sIf (tB2 (eCB law_lessF (aCons (e2 dIx (eV 0) (eV 1)) (aCons (e2 dIx (eV 0) (eV 2)) aNil)))) (sAsg [] 1 (eV 2)) sNil))
  (sRet (eV 1))))
def law_firstF : List D → Option D := fnOut 1 3 law_firstB
/-! law_many_fields(law_one, law_top): slots 0:law_one 1:law_top -/
def law_many_fieldsB : En → Option Out := (sSeq (sIf (tB2 (e2 dEq (e2 dMod (eV 0) (eC (.int 4))) (eC (.int 0)))) (sRet (e2 dAdd (eC (.int 1)) (e2 dMod (e2 dDiv (eV 0) (eC (.int 4))) (eV 1)))) sNil)
  (sRet (e2 dAdd (eC (.int 1)) (e2 dMod (e2 dDiv (eV 0) (eC (.int 4))) (eCB cMin2 (aCons (eV 1) (aCons (eC (.int 5)) aNil)))))))
def law_many_fieldsF : List D → Option D := fnOut 2 2 law_many_fieldsB
end PM
namespace PM
open PySem L2 PD
/-! ### reading on -/
theorem seq_nx {F G : En → Option Out} {ρ ρ' : En} {o : Option Out} (h : F ρ = some (.nx ρ')) (k : G ρ' = o) : sSeq F G ρ = o := by
  rw [x_seq, h, q_seq1, k]
theorem cut_take {l : List D} {n : Nat} (h : n ≤ l.length) : cutD l none (some (n : Int)) = l.take n := by
  unfold cutD
  rw [HT.sIx_nat, HT.sIx_none, List.drop_zero, Nat.sub_zero, Nat.min_eq_left h]
theorem cut_drop {l : List D} {n : Nat} (h : n ≤ l.length) : cutD l (some (n : Int)) none = l.drop n := by
  unfold cutD
  rw [HT.sIx_nat, HT.sIx_none, Nat.min_eq_left h]
  exact List.take_of_length_le (by rw [List.length_drop]; exact Nat.le_refl _)
theorem Row.take {l : List Int} (h : Row l) (n : Nat) : Row (l.take n) := fun x hx => h x (List.mem_of_mem_take hx)
theorem Row.drop {l : List Int} (h : Row l) (n : Nat) : Row (l.drop n) := fun x hx => h x (List.mem_of_mem_drop hx)
theorem zip_P : ∀ l s : List (Int × Int), zipD (l.map P) (s.map P) = (l.zip s).map fun p => .tup [P p.1, P p.2]
  | [], _ => by simp [zipD]
  | _ :: _, [] => by simp [zipD]
  | a :: l, b :: s => by simp [zipD, zip_P l s]
/-- lags and shares together -/
def raise (l s : List (Int × Int)) : List (Int × Int) := (l.zip s).map fun p => plus p.1 p.2
theorem raise_len {l s : List (Int × Int)} (h : s.length = l.length) : (raise l s).length = l.length := by unfold raise; simp [h]
theorem raise_pt {n m : Nat} {l s : List (Int × Int)} (hl : ∀ x ∈ l, Pt n x) (hs : ∀ x ∈ s, Pt m x) : ∀ x ∈ raise l s, Pt (n + m + 1) x := by
  intro x hx
  obtain ⟨p, hp, rfl⟩ := List.mem_map.mp hx
  obtain ⟨a, b⟩ := p
  exact plus_pt (hl _ (List.of_mem_zip hp).1) (hs _ (List.of_mem_zip hp).2)
theorem raised_eq {n m : Nat} {l s : List (Int × Int)} (hl : ∀ x ∈ l, Pt n x) (hs : ∀ x ∈ s, Pt m x) (h : n + m ≤ 8999) (hz : l.length ≤ 1000) : raisedF [.lst (l.map P), .lst (s.map P)] = some ((raise l s).map P) := by
  have c := comp_map (t := .tp [2, 3]) (test := tTrue) (elt := eCB plusF (aCons (eV 2) (aCons (eV 3) aNil))) (ρ := mask [2, 3] [some (.lst (l.map P)), some (.lst (s.map P)), none, none]) (fun p : (Int × Int) × (Int × Int) => D.tup [P p.1, P p.2]) P (fun p => plus p.1 p.2) (l.zip s) (fun p hp => by
    obtain ⟨a, b⟩ := p
    have e := plus_eq (hl _ (List.of_mem_zip hp).1) (hs _ (List.of_mem_zip hp).2) h
    refine ⟨[some (.lst (l.map P)), some (.lst (s.map P)), some (P a), some (P b)], rfl, rfl, ?_⟩
    walk_at "pv")
  rw [← zip_P] at c
  have ok : (zipD (l.map P) (s.map P)).length ≤ 1000000 := by rw [zip_P]; simp; omega
  unfold raisedF raisedB
  walk_at "op"
  rw [x_retF, x_comp, x_iZ, x_cons, x_cons]
  walk_at "ev"
  simp only [ok, decide_true, if_true]
  have e0 : mask [2, 3] [some (.lst (l.map P)), some (.lst (s.map P)), none, none] = [some (.lst (l.map P)), some (.lst (s.map P)), none, none] := rfl
  rw [e0] at c
  rw [c]
  rfl
theorem due_comp {n m : Nat} {l s : List (Int × Int)} (hl : ∀ x ∈ l, Pt n x) (hs : ∀ x ∈ s, Pt m x) (h : n + m ≤ 8999) {i j : Nat} {ρ : En} (st : ∀ a b, ∃ ρ1, stD (.tp [i, j]) (.tup [P a, P b]) ρ = some ρ1 ∧ eV i ρ1 = some (P a) ∧ eV j ρ1 = some (P b)) : compD (.tp [i, j]) tTrue (eCB law_addF (aCons (eV i) (aCons (eV j) aNil))) ρ (zipD (l.map P) (s.map P)) = some ((raise l s).map P) := by
  rw [zip_P]
  refine comp_map (fun p : (Int × Int) × (Int × Int) => D.tup [P p.1, P p.2]) P (fun p => plus p.1 p.2) (l.zip s) (fun p hp => ?_)
  obtain ⟨a, b⟩ := p
  have e := law_add_eq (hl _ (List.of_mem_zip hp).1) (hs _ (List.of_mem_zip hp).2) h
  obtain ⟨ρ1, s1, s2, s3⟩ := st a b
  refine ⟨ρ1, s1, rfl, ?_⟩
  rw [x_cb, x_cons, x_cons, s2, s3]
  walk_at "evs"
/-! ### the first of the greatest -/
def nth (l : List (Int × Int)) (k : Nat) : Int × Int := l.getD k (0, 1)
def firstOf (l : List (Int × Int)) : Nat := (List.range l.length).foldl (fun at' k => if less (nth l at') (nth l k) then k else at') 0
theorem nth_mem {l : List (Int × Int)} {k : Nat} (h : k < l.length) : nth l k ∈ l := by
  unfold nth
  rw [List.getD_eq_getElem?_getD, List.getElem?_eq_getElem h]
  exact List.getElem_mem h
theorem atI_nth {l : List (Int × Int)} {k : Nat} (h : k < l.length) : atI (l.map P) (k : Int) = some (P (nth l k)) := by
  rw [atI_map]
  unfold atI ixN
  have h1 : ¬ ((k : Int) < 0) := by omega
  unfold nth
  rw [List.getD_eq_getElem?_getD, List.getElem?_eq_getElem h]
  simp [h1, h, List.getElem?_eq_getElem h]
theorem rng0 (n : Nat) : rngD 0 n = (List.range n).map fun (k : Nat) => D.int (k : Int) := by
  unfold rngD
  simp
theorem first_loop {f : List D → Option D} {l : List (Int × Int)} {v : Option D} (hf : ∀ a ∈ l, ∀ b ∈ l, f [P a, P b] = some (.bl (less a b))) (h1 : 1 ≤ l.length) :
    ∃ v', loopD (.nm 2) (sIf (tB2 (eCB f (aCons (e2 dIx (eV 0) (eV 1)) (aCons (e2 dIx (eV 0) (eV 2)) aNil)))) (sAsg [] 1 (eV 2)) sNil) (rngD 0 l.length) [some (.lst (l.map P)), some (.int 0), v] = some (.nx [some (.lst (l.map P)), some (.int (firstOf l)), v']) ∧ firstOf l < l.length := by
  rw [rng0]
  obtain ⟨v', e, p⟩ := fold_gen (fun (a : Nat) v => [some (.lst (l.map P)), some (.int a), v]) (t := .nm 2) (F := sIf (tB2 (eCB f (aCons (e2 dIx (eV 0) (eV 1)) (aCons (e2 dIx (eV 0) (eV 2)) aNil)))) (sAsg [] 1 (eV 2)) sNil) (fun (k : Nat) => D.int (k : Int)) (fun at' k => if less (nth l at') (nth l k) then k else at') (fun _ a => a < l.length) (fun k => k < l.length) 0 0
    (fun m a b v ha hb _ => by
      have i1 := atI_nth ha
      have i2 := atI_nth hb
      have e := hf _ (nth_mem ha) _ (nth_mem hb)
      refine ⟨_, some (.int b), rfl, ?_, by show (if less (nth l a) (nth l b) then b else a) < l.length; split <;> omega⟩
      by_cases c : less (nth l a) (nth l b) = true
      · rw [c] at e
        show _ = some (Out.nx [_, some (.int ((if less (nth l a) (nth l b) = true then b else a : Nat) : Int)), _])
        rw [if_pos c]
        walk_at "evs"
      · rw [Bool.not_eq_true] at c
        rw [c] at e
        show _ = some (Out.nx [_, some (.int ((if less (nth l a) (nth l b) = true then b else a : Nat) : Int)), _])
        rw [if_neg (by rw [c]; decide)]
        walk_at "evs") (List.range l.length) 0 0 v h1 (fun k hk => List.mem_range.mp hk) (by simp)
  exact ⟨v', e, p⟩
theorem turn_of_eq {n : Nat} {l : List (Int × Int)} (hl : ∀ x ∈ l, Pt n x) (h : n + n ≤ 8999) (h1 : 1 ≤ l.length) (hz : l.length ≤ 1000) : turn_ofF [.lst (l.map P)] = some (.int (firstOf l)) := by
  obtain ⟨v', e, _⟩ := first_loop (f := belowF) (v := none) (fun a ha b hb => below_eq (hl a ha) (hl b hb) h) h1
  have s := small_nat (n := l.length) (by omega)
  unfold turn_ofF turn_ofB
  walk_at "op"
  walk_at "evs"
  rw [Int.toNat_natCast, e]
  walk_at "ev"
theorem law_first_eq {n : Nat} {l : List (Int × Int)} (hl : ∀ x ∈ l, Pt n x) (h : n + n ≤ 8999) (h1 : 1 ≤ l.length) (hz : l.length ≤ 1000) : law_firstF [.lst (l.map P)] = some (.int (firstOf l)) := by
  obtain ⟨v', e, _⟩ := first_loop (f := law_lessF) (v := none) (fun a ha b hb => law_less_eq (hl a ha) (hl b hb) h) h1
  have s := small_nat (n := l.length) (by omega)
  unfold law_firstF law_firstB
  walk_at "op"
  walk_at "evs"
  rw [Int.toNat_natCast, e]
  walk_at "ev"
theorem first_lt {l : List (Int × Int)} (h1 : 1 ≤ l.length) : firstOf l < l.length := by
  unfold firstOf
  have : ∀ (ks : List Nat) (a : Nat), a < l.length → (∀ k ∈ ks, k < l.length) → ks.foldl (fun at' k => if less (nth l at') (nth l k) then k else at') a < l.length := by
    intro ks
    induction ks with
    | nil => intro a ha _; exact ha
    | cons k ks ih => intro a ha hk; exact ih _ (by show (if less (nth l a) (nth l k) = true then k else a) < l.length; split; exact hk k (by simp); exact ha) fun x hx => hk x (by simp [hx])
  exact this _ 0 (by omega) fun k hk => List.mem_range.mp hk
/-! ### lists of parts, numbers of fields -/
theorem allBl_true : ∀ l : List Bool, allBl (l.map D.bl) = some l
  | [] => rfl
  | b :: l => by rw [List.map_cons, allBl, allBl_true l]; rfl
theorem law_parts_eq (l : List (Int × Int)) (hz : l.length ≤ 1000) : law_partsF [.lst (l.map P)] = some (.bl true) := by
  have c := comp_map (t := .nm 1) (test := tTrue) (elt := eCB law_partF (aCons (eV 1) aNil)) (ρ := [some (.lst (l.map P)), none]) P D.bl (fun _ => true) l (fun a _ => by
    refine ⟨_, rfl, rfl, ?_⟩
    have e := law_part_eq a
    show eCB law_partF (aCons (eV 1) aNil) [some (.lst (l.map P)), some (P a)] = _
    walk_at "evs")
  have ok : l.length ≤ 1000000 := by omega
  have ca : cAll [.lst ((l.map fun _ => true).map D.bl)] = some (.bl true) := by
    unfold cAll
    simp only [allBl_true, Option.map_some]
    simp
  unfold law_partsF law_partsB
  walk_at "op"
  walk_at "evs"
theorem law_many_fields_eq {x : Int} (hx : 0 ≤ x ∧ x < 1000000) {top : Nat} (h1 : 1 ≤ top) (h2 : top ≤ 63) : ∃ n : Nat, 1 ≤ n ∧ n ≤ top ∧ law_many_fieldsF [.int x, .int (top : Int)] = some (.int (n : Int)) := by
  have p4 : (0 : Int) < 4 := by decide
  have tp : (0 : Int) < (top : Int) := by omega
  have o1 : okDiv 4 = true := by decide
  have a1 := Int.emod_nonneg (x / 4) (show (top : Int) ≠ 0 by omega)
  have a2 := Int.emod_lt_of_pos (x / 4) tp
  by_cases c : x % 4 = 0
  · refine ⟨(1 + x / 4 % (top : Int)).toNat, by omega, by omega, ?_⟩
    rw [show (((1 + x / 4 % (top : Int)).toNat : Nat) : Int) = 1 + x / 4 % (top : Int) by omega]
    unfold law_many_fieldsF law_many_fieldsB
    walk_at "op"
    walk_at "pv"
  · by_cases c5 : (5 : Int) < top
    · have b1 := Int.emod_nonneg (x / 4) (show (5 : Int) ≠ 0 by omega)
      have b2 := Int.emod_lt_of_pos (x / 4) (show (0 : Int) < 5 by omega)
      have p5 : (0 : Int) < 5 := by decide
      refine ⟨(1 + x / 4 % 5).toNat, by omega, by omega, ?_⟩
      rw [show (((1 + x / 4 % 5).toNat : Nat) : Int) = 1 + x / 4 % 5 by omega]
      unfold law_many_fieldsF law_many_fieldsB
      walk_at "op"
      walk_at "pv"
    · refine ⟨(1 + x / 4 % (top : Int)).toNat, by omega, by omega, ?_⟩
      rw [show (((1 + x / 4 % (top : Int)).toNat : Nat) : Int) = 1 + x / 4 % (top : Int) by omega]
      unfold law_many_fieldsF law_many_fieldsB
      walk_at "op"
      walk_at "pv"
end PM
namespace PM
open PySem L2 PD
/-! ### shares -/
structure Shs (n : Nat) (s : List (Int × Int)) : Prop where
  len : s.length = n
  pt : ∀ x ∈ s, Pt 32 x
  nn : ∀ x ∈ s, 0 ≤ x.1
  one : (s.map val).sum = 1
def Wt (n : Nat) (w : List Int) : Prop := w.length = n ∧ Row w
theorem allInt_map : ∀ w : List Int, allInt (w.map D.int) = some w
  | [] => rfl
  | b :: l => by rw [List.map_cons, allInt, allInt_map l]; rfl
theorem sum_map (w : List Int) : cSum [.lst (w.map D.int)] = some (.int w.sum) := by
  unfold cSum
  simp only [allInt_map, Option.map_some]
theorem wt_comp {row : List Int} (hr : Row row) {n : Nat} (hl : n < row.length) (hn : n ≤ 63) {elt : En → Option D} (r2 r3 r4 r5 : Option D) (f : Int → Int)
    (he : ∀ x, 0 ≤ x → x < 1000000 → elt [some (.lst (row.map .int)), some (.int n), r2, r3, some (.int x), r5] = some (.int (f x)) ∧ 0 ≤ f x ∧ f x < 1000000) :
    ∃ w, Wt n w ∧ eComp [4] (iL (eFr (eSl (eV 0) oNone (oSome (eV 1))))) (.nm 4) tTrue elt [some (.lst (row.map .int)), some (.int n), r2, r3, r4, r5] = some (w.map D.int) := by
  have e : cutD (row.map D.int) none (some (n : Int)) = (row.take n).map D.int := by
    rw [cut_take (by simp; omega), List.map_take]
  have c := comp_map (t := .nm 4) (test := tTrue) (elt := elt) (ρ := [some (.lst (row.map .int)), some (.int n), r2, r3, none, r5]) D.int D.int f (row.take n) (fun x hx => ⟨_, rfl, rfl, (he x (hr.take n x hx).1 (hr.take n x hx).2).1⟩)
  refine ⟨(row.take n).map f, ⟨by simp; omega, fun y hy => ?_⟩, ?_⟩
  · obtain ⟨x, hx, rfl⟩ := List.mem_map.mp hy
    exact (he x (hr.take n x hx).1 (hr.take n x hx).2).2
  · have ok : (row.take n).length ≤ 1000000 := by simp; omega
    rw [x_comp, x_iL, x_fr, x_sl, x_oS]
    walk_at "ev"
    simp only [e, List.length_map, ok, decide_true, if_true]
    exact c
theorem sum_set : ∀ (w : List Int) (k : Nat) (x : Int), k < w.length → (w.set k x).sum = w.sum - w.getD k 0 + x
  | a :: w, 0, x, _ => by simp; omega
  | a :: w, k + 1, x, h => by
    have := sum_set w k x (by simpa using h)
    simp only [List.set_cons_succ, List.sum_cons, this, List.getD_cons_succ]
    omega
theorem sum_bd : ∀ (w : List Int) (b : Int), (∀ x ∈ w, 0 ≤ x ∧ x ≤ b) → 0 ≤ w.sum ∧ w.sum ≤ w.length * b
  | [], b, _ => by simp
  | a :: w, b, h => by
    have := sum_bd w b fun x hx => h x (by simp [hx])
    have h2 := h a (by simp)
    simp only [List.sum_cons, List.length_cons]
    have : ((w.length + 1 : Nat) : Int) * b = w.length * b + b := by rw [Int.natCast_succ, Int.add_mul, Int.one_mul]
    omega
theorem mem_le_sum : ∀ (w : List Int), (∀ x ∈ w, 0 ≤ x) → ∀ x ∈ w, x ≤ w.sum
  | a :: w, h, x, hx => by
    have s : 0 ≤ w.sum := by
      have : ∀ l : List Int, (∀ x ∈ l, 0 ≤ x) → 0 ≤ l.sum := by
        intro l; induction l with
        | nil => simp
        | cons b l ih => intro h; have := ih fun x hx => h x (by simp [hx]); have := h b (by simp); simp; omega
      exact this w fun x hx => h x (by simp [hx])
    simp only [List.sum_cons]
    rcases List.mem_cons.mp hx with rfl | hx
    · omega
    · have := mem_le_sum w (fun x hx => h x (by simp [hx])) x hx
      have := h a (by simp)
      omega
theorem val_sum_low (S : Int) (h : 0 < S) : ∀ w : List Int, (w.map fun x => val (low x S)).sum = (w.sum : Rat) / (S : Rat)
  | [] => by simp; grind
  | a :: w => by
    rw [List.map_cons, List.sum_cons, val_sum_low S h w, val_low h, Rat.divInt_eq_div, List.sum_cons, Rat.intCast_add]
    grind
/-- the end of it: from weights that sum up to 1 or more -/
theorem sh_of {n : Nat} (hn : n ≤ 63) {w : List Int} (hw : w.length = n) (hb : ∀ x ∈ w, 0 ≤ x ∧ x ≤ 1000010) (hs : 1 ≤ w.sum) : Shs n (w.map fun x => low x w.sum) := by
  have s2 := (sum_bd w 1000010 hb).2
  have sb : w.sum.natAbs < 2 ^ 32 := by
    have : (w.length : Int) * 1000010 ≤ 63 * 1000010 := Int.mul_le_mul_of_nonneg_right (by omega) (by decide)
    omega
  have pt : ∀ x ∈ w, Pt 32 (low x w.sum) := fun x hx => low_pt (by omega) (by have := hb x hx; omega) sb
  refine ⟨by simp [hw], fun y hy => ?_, fun y hy => ?_, ?_⟩
  · obtain ⟨x, hx, rfl⟩ := List.mem_map.mp hy
    exact pt x hx
  · obtain ⟨x, hx, rfl⟩ := List.mem_map.mp hy
    exact Int.ediv_nonneg (hb x hx).1 (by omega)
  · rw [List.map_map]
    show (w.map fun x => val (low x w.sum)).sum = 1
    rw [val_sum_low _ (by omega), Rat.div_def]
    exact Rat.mul_inv_cancel _ (by have : w.sum ≠ 0 := by omega
                                   exact fun e => this (by exact_mod_cast e))
theorem asgO_of {O : List Nat} {i : Nat} {F : En → Option (List D)} {ρ : En} {ds : List D} (e : F (mask O ρ) = some ds) : sAsgO O i F ρ = some (.nx (ρ.set i (some (.lst ds)))) := by
  rw [x_asgO, e, q_asgO]
theorem law_shares_eq {row : List Int} (hr : Row row) {n : Nat} (h1 : 1 ≤ n) (hn : n ≤ 63) (hl : n < row.length) : ∃ s, Shs n s ∧ law_sharesF [.lst (row.map .int), .int n] = some (s.map P) := by
  obtain ⟨v, hv, at0⟩ := row_at (k := n) hr hl
  have p5 : (0 : Int) < 5 := by decide
  have p12 : (0 : Int) < 12 := by decide
  have p3 : (0 : Int) < 3 := by decide
  have p2 : (0 : Int) < 2 := by decide
  have p4 : (0 : Int) < 4 := by decide
  have pn : (0 : Int) < n := by omega
  have o5 : okDiv 5 = true := by decide
  have o131 : okDiv 131 = true := by decide
  obtain ⟨w1, hw1, t1⟩ := wt_comp hr hl hn (elt := e2 dMod (eV 4) (eC (.int 12))) none none none none (fun x => x % 12) (fun x a b => by
      refine ⟨by walk_at "evs", ?_, ?_⟩ <;> omega)
  have s1 : law_shares_s1 [some (.lst (row.map .int)), some (.int n), none, none, none, none] = some (.nx [some (.lst (row.map .int)), some (.int n), some (.lst (w1.map .int)), none, none, none]) := asgO_of t1
  have s2 : ∀ w, Wt n w → ∃ w', Wt n w' ∧ law_shares_s2 [some (.lst (row.map .int)), some (.int n), some (.lst (w.map .int)), none, none, none] = some (.nx [some (.lst (row.map .int)), some (.int n), some (.lst (w'.map .int)), none, none, none]) := by
    intro w hw
    obtain ⟨w', hw', t⟩ := wt_comp hr hl hn (elt := e2 dMod (eV 4) (eC (.int 2))) none none none none (fun x => x % 2) (fun x a b => by
      refine ⟨by walk_at "evs", ?_, ?_⟩ <;> omega)
    have u := asgO_of (O := [2]) (i := 2) (ρ := [some (.lst (row.map .int)), some (.int n), some (.lst (w.map .int)), none, none, none]) t
    unfold law_shares_s2
    rw [x_if]
    by_cases c : v % 5 = 1
    · refine ⟨w', hw', ?_⟩
      have ct : tB2 (e2 dEq (e2 dMod (e2 dIx (eV 0) (eV 1)) (eC (.int 5))) (eC (.int 1))) [some (.lst (row.map .int)), some (.int n), some (.lst (w.map .int)), none, none, none] = some true := by walk_at "pv"
      rw [ct, q_if1]
      exact u
    · refine ⟨w, hw, ?_⟩
      walk_at "pv"
  have s3 : ∀ w, Wt n w → ∃ w', Wt n w' ∧ law_shares_s3 [some (.lst (row.map .int)), some (.int n), some (.lst (w.map .int)), none, none, none] = some (.nx [some (.lst (row.map .int)), some (.int n), some (.lst (w'.map .int)), none, none, none]) := by
    intro w hw
    obtain ⟨w', hw', t⟩ := wt_comp hr hl hn (elt := e2 dMul (eV 4) (eCB cInt (aCons (e2 dEq (e2 dMod (eV 4) (eC (.int 3))) (eC (.int 0))) aNil))) none none none none (fun x => x * (if decide (x % 3 = 0) then 1 else 0)) (fun x a b => by
      have m : okMul x (if decide (x % 3 = 0) then 1 else 0) = true := okMul_r (by split <;> decide)
      refine ⟨by walk_at "pv", ?_, ?_⟩ <;> split <;> omega)
    have u := asgO_of (O := [2]) (i := 2) (ρ := [some (.lst (row.map .int)), some (.int n), some (.lst (w.map .int)), none, none, none]) t
    unfold law_shares_s3
    rw [x_if]
    by_cases c : v % 5 = 2
    · refine ⟨w', hw', ?_⟩
      have ct : tB2 (e2 dEq (e2 dMod (e2 dIx (eV 0) (eV 1)) (eC (.int 5))) (eC (.int 2))) [some (.lst (row.map .int)), some (.int n), some (.lst (w.map .int)), none, none, none] = some true := by walk_at "pv"
      rw [ct, q_if1]
      exact u
    · refine ⟨w, hw, ?_⟩
      walk_at "pv"
  have s4 : ∀ w, Wt n w → ∃ w', Wt n w' ∧ law_shares_s4 [some (.lst (row.map .int)), some (.int n), some (.lst (w.map .int)), none, none, none] = some (.nx [some (.lst (row.map .int)), some (.int n), some (.lst (w'.map .int)), none, none, none]) := by
    intro w hw
    obtain ⟨w', hw', t⟩ := wt_comp hr hl hn (elt := eC (.int 0)) none none none none (fun x => 0) (fun x a b => by
      refine ⟨by walk_at "pv", ?_, ?_⟩ <;> omega)
    have u := asgO_of (O := [2]) (i := 2) (ρ := [some (.lst (row.map .int)), some (.int n), some (.lst (w.map .int)), none, none, none]) t
    unfold law_shares_s4
    rw [x_if]
    by_cases c : v % 5 = 3
    · refine ⟨w', hw', ?_⟩
      have ct : tB2 (e2 dEq (e2 dMod (e2 dIx (eV 0) (eV 1)) (eC (.int 5))) (eC (.int 3))) [some (.lst (row.map .int)), some (.int n), some (.lst (w.map .int)), none, none, none] = some true := by walk_at "pv"
      rw [ct, q_if1]
      exact u
    · refine ⟨w, hw, ?_⟩
      walk_at "pv"
  obtain ⟨w2, hw2, t2⟩ := s2 w1 hw1
  obtain ⟨w3, hw3, t3⟩ := s3 w2 hw2
  obtain ⟨w4, hw4, t4⟩ := s4 w3 hw3
  -- one weight more
  have k0 := Int.emod_nonneg (v / 5) (show (n : Int) ≠ 0 by omega)
  have k1 := Int.emod_lt_of_pos (v / 5) pn
  obtain ⟨k, hk, hkn⟩ : ∃ k : Nat, v / 5 % (n : Int) = (k : Int) ∧ k < n := ⟨(v / 5 % (n : Int)).toNat, by omega, by omega⟩
  have q0 : 0 ≤ v / 131 % 4 ∧ v / 131 % 4 < 4 := by omega
  generalize hq : v / 131 % 4 = q at *
  have hlen : k < w4.length := by rw [hw4.1]; exact hkn
  have g4 : (w4.map D.int)[k]? = some (.int (w4.getD k 0)) := by
    rw [List.getElem?_map, List.getElem?_eq_getElem hlen, List.getD_eq_getElem?_getD, List.getElem?_eq_getElem hlen]; rfl
  have b4 := hw4.2 (w4.getD k 0) (by rw [List.getD_eq_getElem?_getD, List.getElem?_eq_getElem hlen]; exact List.getElem_mem hlen)
  have ix : ixN w4.length (k : Int) = some k := by
    unfold ixN
    have h1 : ¬ ((k : Int) < 0) := by omega
    simp [h1, hlen]
  have kb : (0 : Int) ≤ (k : Int) ∧ (k : Int) < 1000000 := by omega
  have s5 : law_shares_s5 [some (.lst (row.map .int)), some (.int n), some (.lst (w4.map .int)), none, none, none] = some (.nx [some (.lst (row.map .int)), some (.int n), some (.lst ((w4.set k (w4.getD k 0 + (1 + q))).map .int)), none, none, none]) := by
    rw [List.map_set]
    unfold law_shares_s5
    walk_at "pv"
    rw [if_pos ⟨trivial, trivial⟩]
  have ss := sum_set w4 k (w4.getD k 0 + (1 + q)) hlen
  have wl : (w4.set k (w4.getD k 0 + (1 + q))).length = n := by rw [List.length_set]; exact hw4.1
  have wb : ∀ x ∈ w4.set k (w4.getD k 0 + (1 + q)), 0 ≤ x ∧ x ≤ 1000010 := by
    intro x hx
    rcases List.mem_or_eq_of_mem_set hx with h | rfl
    · have := hw4.2 x h; omega
    · omega
  have n4 := mem_le_sum w4 (fun x hx => (hw4.2 x hx).1) _ (show w4.getD k 0 ∈ w4 by rw [List.getD_eq_getElem?_getD, List.getElem?_eq_getElem hlen]; exact List.getElem_mem hlen)
  have wsum : 1 ≤ (w4.set k (w4.getD k 0 + (1 + q))).sum := by omega
  clear ss
  generalize w4.set k (w4.getD k 0 + (1 + q)) = w at *
  refine ⟨_, sh_of hn wl wb wsum, ?_⟩
  have s2' := (sum_bd w 1000010 wb).2
  have sb : w.sum.natAbs < 2 ^ 9000 := by
    have : (w.length : Int) * 1000010 ≤ 63 * 1000010 := Int.mul_le_mul_of_nonneg_right (by omega) (by decide)
    exact pow_mono (n := 32) (by omega) (by decide)
  have c := comp_map (t := .nm 5) (test := tTrue) (elt := eCB law_lowF (aCons (eV 5) (aCons (eV 3) aNil))) (ρ := [some (.lst (row.map .int)), some (.int n), some (.lst (w.map .int)), some (.int w.sum), none, none]) D.int P (fun x => low x w.sum) w (fun x hx => ⟨_, rfl, rfl, by
    have e := law_low_eq (t := x) (b := w.sum) (by omega) sb
    show eCB law_lowF (aCons (eV 5) (aCons (eV 3) aNil)) [some (.lst (row.map .int)), some (.int n), some (.lst (w.map .int)), some (.int w.sum), none, some (.int x)] = _
    walk_at "evs"⟩)
  have sm := sum_map w
  have ok : n ≤ 1000000 := by omega
  have tail : (sSeq (sAsgI 3 (eCB cSum (aCons (eV 2) aNil))) law_shares_s7) [some (.lst (row.map .int)), some (.int n), some (.lst (w.map .int)), none, none, none] = some (.rf ((w.map fun x => low x w.sum).map P)) := by
    unfold law_shares_s7
    walk_at "pv"
  unfold law_sharesF law_sharesB
  walk_at "op"
  rw [seq_nx s1 (seq_nx t2 (seq_nx t3 (seq_nx t4 (seq_nx s5 tail))))]
  rfl
end PM
namespace PM
open PySem L2 PD
/-! ### plain data: == with itself -/
structure Pl (k : Nat) (d : D) : Prop where
  no : noObj d = true
  lay : PyData.canLay0 (toP d) = true
  dep : (toP d).depth ≤ k
  eqv : PyData.eqv (toP d) (toP d) = true
theorem Pl.mono {k m : Nat} {d : D} (h : Pl k d) (l : k ≤ m) : Pl m d := ⟨h.no, h.lay, Nat.le_trans h.dep l, h.eqv⟩
theorem pl_int (i : Int) : Pl 0 (.int i) := ⟨rfl, rfl, Nat.le_refl _, by simp [toP, PyData.eqv]⟩
theorem pl_bl (i : Bool) : Pl 0 (.bl i) := ⟨rfl, rfl, Nat.le_refl _, by simp [toP, PyData.eqv]⟩
theorem pl_str {i : Str} (h : PyData.strOk i = true) : Pl 0 (.str i) := ⟨rfl, (by simpa [toP, PyData.canLay0] using h), Nat.le_refl _, by simp [toP, PyData.eqv]⟩
theorem pl_non : Pl 0 .non := ⟨rfl, rfl, Nat.le_refl _, by simp [toP, PyData.eqv]⟩
theorem pl_all {k : Nat} : ∀ {ds : List D}, (∀ d ∈ ds, Pl k d) → noObjs ds = true ∧ PyData.canLayAll0 (toPs ds) = true ∧ PyData.depthAll (toPs ds) ≤ k ∧ PyData.eqvAll (toPs ds) (toPs ds) = true
  | [], _ => ⟨by simp [noObjs], by simp [toPs, PyData.canLayAll0], by simp [toPs, PyData.depthAll], by simp [toPs, PyData.eqvAll]⟩
  | d :: ds, h => by
    obtain ⟨a, b, c, e⟩ := pl_all fun x hx => h x (List.mem_cons_of_mem _ hx)
    obtain ⟨a1, b1, c1, e1⟩ := h d (by simp)
    refine ⟨by simp [noObjs, a, a1], by simp [toPs, PyData.canLayAll0, b, b1], ?_, by simp [toPs, PyData.eqvAll, e, e1]⟩
    simp only [toPs, PyData.depthAll]
    omega
theorem pl_lst {k : Nat} {ds : List D} (h : ∀ d ∈ ds, Pl k d) : Pl (k + 1) (.lst ds) := by
  obtain ⟨a, b, c, e⟩ := pl_all h
  exact ⟨by simpa [noObj] using a, by simpa [toP, PyData.canLay0] using b, by simp only [toP, PyData.depth]; omega, by simpa [toP, PyData.eqv] using e⟩
theorem pl_tup {k : Nat} {ds : List D} (h : ∀ d ∈ ds, Pl k d) : Pl (k + 1) (.tup ds) := by
  obtain ⟨a, b, c, e⟩ := pl_all h
  exact ⟨by simpa [noObj] using a, by simpa [toP, PyData.canLay0] using b, by simp only [toP, PyData.depth]; omega, by simpa [toP, PyData.eqv] using e⟩
theorem pl_all2 {k : Nat} {d : D} {ds : List D} (h : Pl k d) (hs : ∀ x ∈ ds, Pl k x) : ∀ x ∈ d :: ds, Pl k x := fun x hx => by
  rcases List.mem_cons.mp hx with rfl | hx
  · exact h
  · exact hs x hx
theorem pl_all0 {k : Nat} : ∀ x ∈ ([] : List D), Pl k x := fun _ h => nomatch h
theorem pl_map {α : Type} {k : Nat} {f : α → D} {l : List α} (h : ∀ a, Pl k (f a)) : ∀ x ∈ l.map f, Pl k x := fun x hx => by
  obtain ⟨a, _, rfl⟩ := List.mem_map.mp hx
  exact h a
theorem pl_P (a : Int × Int) : Pl 1 (P a) := pl_tup (pl_all2 (pl_int _) (pl_all2 (pl_int _) pl_all0))
theorem pl_lP (l : List (Int × Int)) : Pl 2 (.lst (l.map P)) := pl_lst (pl_map pl_P)
theorem Pl.shp {k : Nat} {d : D} (h : Pl k d) (hk : k ≤ 61) : shp d = true := by
  unfold PD.shp SeqAt.shaped
  rw [h.no, h.lay, decide_eq_true (by have := h.dep; omega)]
  rfl
theorem Pl.eq {k : Nat} {d : D} (h : Pl k d) (hk : k ≤ 61) : dEq d d = some (.bl true) := by
  unfold dEq
  rw [h.shp hk, h.eqv]
  rfl
theorem Pl.ne {k : Nat} {d : D} (h : Pl k d) (hk : k ≤ 61) : dNe d d = some (.bl false) := by
  unfold dNe
  rw [h.shp hk, h.eqv]
  rfl
end PM
namespace PM
open PySem L2 PD

/-! part_text(a): slots 0:a -/
def part_textB : En → Option Out := (sRet (e2 dCat (e2 dCat (eCB cStr (aCons (e2 dIx (eV 0) (eC (.int 0))) aNil)) (eC (.str "/"))) (eCB cStr (aCons (e2 dIx (eV 0) (eC (.int 1))) aNil))))
def part_textF : List D → Option D := fnOut 1 1 part_textB
/-! number_read(word): slots 0:word 1:sign -/
def number_readB : En → Option Out := (sSeq (sIf (fOr (tB2 (e2 dEq (eV 0) (eC (.str "")))) (fAnd (tB2 (e2 dGt (eCB cLen (aCons (eV 0) aNil)) (eC (.int 1)))) (tB2 (e2 dEq (e2 dIx (eV 0) (eC (.int 0))) (eC (.str "0")))))) (sRet (eC .non)) sNil)
  (sSeq (sFor [] (iS (eV 0)) (.nm 1) (sIf (tB2 (e2 dNin (eV 1) (eC (.str "0123456789")))) (sRet (eC .non)) sNil))
  (sRet (eCB cIntS (aCons (eV 0) aNil)))))
def number_readF : List D → Option D := fnOut 1 2 number_readB
/-! part_within(text, most): slots 0:text 1:most 2:words 3:figures 4:top 5:bottom -/
def part_within_s2 : En → Option Out := (sIf (tB2 (e2 dNe (eCB cLen (aCons (eV 2) aNil)) (eC (.int 2)))) sNo sNil)
def part_within_s4 : En → Option Out := (sIf (tB2 (e2 dEq (eSlS (eV 3) oNone (oSome (eC (.int 1)))) (eC (.str "-")))) (sAsg [] 3 (eSlS (eV 3) (oSome (eC (.int 1))) oNone)) sNil)
def part_within_s5 : En → Option Out := (sIf (fOr (tB2 (e2 dGt (eCB cLen (aCons (eV 3) aNil)) (eV 1))) (tB2 (e2 dGt (eCB cLen (aCons (e2 dIx (eV 2) (eC (.int 1))) aNil)) (eV 1)))) sNo sNil)
def part_within_s7 : En → Option Out := (sAsg [] 5 (eCB number_readF (aCons (e2 dIx (eV 2) (eC (.int 1))) aNil)))
def part_within_s8 : En → Option Out := (sIf (fOr (tB2 (e1 isNonD (eV 4))) (fOr (tB2 (e1 isNonD (eV 5))) (tB2 (e2 dEq (eV 5) (eC (.int 0)))))) sNo sNil)
def part_within_s9 : En → Option Out := (sIf (tB2 (e2 dNe (e2 dIx (eV 2) (eC (.int 0))) (eV 3))) (sSeq (sIf (tB2 (e2 dEq (eV 4) (eC (.int 0)))) sNo sNil)
  (sAsg [] 4 (e1 dNeg (eV 4)))) sNil)
def part_within_s10 : En → Option Out := (sIf (tB2 (e2 dNe (eCB lowestF (aCons (eV 4) (aCons (eV 5) aNil))) (eTup (aCons (eV 4) (aCons (eV 5) aNil))))) sNo sNil)
def part_withinB : En → Option Out := (sSeq (sAsg [] 2 (eFr (eSplit (eV 0) (eC (.str "/")))))
  (sSeq part_within_s2
  (sSeq (sAsg [] 3 (e2 dIx (eV 2) (eC (.int 0))))
  (sSeq part_within_s4
  (sSeq part_within_s5
  (sSeq (sAsg [] 4 (eCB number_readF (aCons (eV 3) aNil)))
  (sSeq part_within_s7
  (sSeq part_within_s8
  (sSeq part_within_s9
  (sSeq part_within_s10
  (sRet (eTup (aCons (eV 4) (aCons (eV 5) aNil))))))))))))))
def part_withinF : List D → Option D := fnOut 2 6 part_withinB
/-! part_read(text): slots 0:text -/
def part_readB : En → Option Out := (sRet (eCB part_withinF (aCons (eV 0) (aCons (eC (.int 400)) aNil))))
def part_readF : List D → Option D := fnOut 1 1 part_readB
end PM
namespace PM
open PySem L2 PD
/-! ### texts by their signs -/
abbrev SS (l : List Nat) : Str := SX.S l
def Tx (l : List Nat) : Prop := ∀ c ∈ l, c < 0x110000
theorem Tx.ok {l : List Nat} (h : Tx l) : PyData.strOk (SS l) = true := by
  unfold PyData.strOk
  rw [show (SS l).cps = l.toArray from rfl]
  simp only [List.all_toArray]
  exact List.all_eq_true.mpr fun c hc => decide_eq_true (h c hc)
theorem shp_S {l : List Nat} (h : Tx l) : shp (.str (SS l)) = true := (pl_str h.ok).shp (by decide)
theorem dEq_S {a b : List Nat} (ha : Tx a) (hb : Tx b) : dEq (.str (SS a)) (.str (SS b)) = some (.bl (decide (a = b))) := by
  unfold dEq
  rw [shp_S ha, shp_S hb]
  simp only [toP, PyData.eqv, Bool.and_self, if_true, SX.S_beq_eq]
theorem dNe_S {a b : List Nat} (ha : Tx a) (hb : Tx b) : dNe (.str (SS a)) (.str (SS b)) = some (.bl (!decide (a = b))) := by
  unfold dNe
  rw [shp_S ha, shp_S hb]
  simp only [toP, PyData.eqv, Bool.and_self, if_true, SX.S_beq_eq]
theorem dIn_S {a : List Nat} {c : Nat} : dIn (.str ⟨#[c]⟩) (.str (SS a)) = some (.bl (decide (c ∈ a))) := by
  rw [q_in]
  exact congrArg (fun b => some (D.bl b)) (SX.in_one a c)
theorem dNin_S {a : List Nat} {c : Nat} : dNin (.str ⟨#[c]⟩) (.str (SS a)) = some (.bl (!decide (c ∈ a))) := by
  rw [q_nin]
  exact congrArg (fun b => some (D.bl (!b))) (SX.in_one a c)
theorem dCat_S {a b : List Nat} (h : a.length + b.length ≤ 1000000) : dCat (.str (SS a)) (.str (SS b)) = some (.str (SS (a ++ b))) := by
  rw [q_cat, SX.S_len, SX.S_len, if_pos (by unfold okLen; exact decide_eq_true h), SX.S_cat]
/-! ### numbers as texts -/
def zL (z : Int) : List Nat := if z < 0 then 45 :: TL.numL z.natAbs else TL.numL z.natAbs
theorem dig_tx (n : Nat) : Tx (TL.numL n) := fun c hc => by have := TL.numL_digits n c hc; omega
theorem zL_tx (z : Int) : Tx (zL z) := fun c hc => by
  unfold zL at hc
  split at hc
  · rcases List.mem_cons.mp hc with rfl | hc
    · decide
    · exact dig_tx _ c hc
  · exact dig_tx _ c hc
theorem str_z (z : Int) : Str.ofString (toString z) = SS (zL z) := by
  unfold zL
  by_cases h : z < 0
  · rw [if_pos h]
    obtain ⟨n, rfl⟩ : ∃ n : Nat, z = Int.negSucc n := ⟨(-z - 1).toNat, by omega⟩
    have e : toString (Int.negSucc n) = "-" ++ toString (n + 1) := rfl
    rw [e, Str.ofString_eq_toList]
    have e2 := SX.num_S (n + 1)
    rw [show toString ((n + 1 : Nat) : Int) = toString (n + 1) from rfl, Str.ofString_eq_toList] at e2
    have e3 : ((toString (n + 1)).toList.map Char.toNat) = TL.numL (n + 1) := by
      have := congrArg (fun x : Str => x.cps.toList) e2
      simpa using this
    show Str.mk _ = Str.mk _
    congr 1
    rw [String.toList_append, List.map_append, e3]
    rfl
  · rw [if_neg h]
    obtain ⟨n, rfl⟩ : ∃ n : Nat, z = (n : Int) := ⟨z.toNat, by omega⟩
    exact SX.num_S n
theorem zL_len {z : Int} {k : Nat} (hk : 0 < k) (h : z.natAbs < 10 ^ k) : (zL z).length ≤ k + 1 := by
  have := TL.numL_len hk h
  unfold zL
  split
  · simp only [List.length_cons]; omega
  · omega
theorem zL_free (z : Int) : 47 ∉ zL z := by
  unfold zL
  split
  · simp only [List.mem_cons, not_or]
    exact ⟨by decide, TL.numL_free (by omega)⟩
  · exact TL.numL_free (by omega)
theorem numL_head : ∀ n : Nat, 1 ≤ n → ∀ c, (TL.numL n).head? = some c → c ≠ 48 := by
  intro n
  induction n using Nat.strongRecOn with
  | _ n ih =>
    intro h c hc
    by_cases h10 : n < 10
    · rw [TL.numL_lt h10] at hc
      cases hc
      omega
    · rw [TL.numL_step (by omega)] at hc
      refine ih (n / 10) (by omega) (by omega) c ?_
      cases e : TL.numL (n / 10) with
      | nil => exact absurd e (TL.numL_ne _)
      | cons x r => rw [e] at hc; simpa using hc
/-! ### a part's text -/
def partL (a : Int × Int) : List Nat := zL a.1 ++ 47 :: zL a.2
theorem part_text_eq {n : Nat} {a : Int × Int} (h : Pt n a) (hn : n ≤ 1900) : part_textF [P a] = some (.str (SS (partL a))) := by
  have lg : ∀ z : Int, z.natAbs < 2 ^ n → z.natAbs.log2 < 1920 := by
    intro z hz
    by_cases h0 : z.natAbs = 0
    · rw [h0]; decide
    · have := (Nat.log2_lt h0).mpr hz; omega
  have big : ∀ z : Int, z.natAbs < 2 ^ n → (zL z).length ≤ 2000 := by
    intro z hz
    refine Nat.le_trans (zL_len (k := 1900) (by decide) ?_) (by decide)
    exact Nat.lt_of_lt_of_le hz (Nat.le_trans (Nat.pow_le_pow_right (by decide) hn) (Nat.pow_le_pow_left (by decide) _))
  have l1 := lg _ h.top
  have l2 := lg _ h.bot
  have b1 := big _ h.top
  have b2 := big _ h.bot
  have s1 : cStr [.int a.1] = some (.str (SS (zL a.1))) := by rw [q_str, if_pos l1, str_z]
  have s2 : cStr [.int a.2] = some (.str (SS (zL a.2))) := by rw [q_str, if_pos l2, str_z]
  have sl : (("/" : Str)) = SS [47] := by decide +kernel
  have c1 := dCat_S (a := zL a.1) (b := [47]) (by simp; omega)
  have c2 := dCat_S (a := zL a.1 ++ [47]) (b := zL a.2) (by simp; omega)
  unfold part_textF part_textB
  walk_at "op"
  rw [sl]
  unfold P
  rw [x_ret, x_2, x_2, x_cb, x_cons, x_2, x_cb, x_cons, x_2]
  walk_at "evs"
  unfold partL
  rw [List.append_assoc]
  rfl
/-- number_read of the figures of n -/
theorem number_read_eq {n : Nat} (h : (TL.numL n).length ≤ 640) : number_readF [.str (SS (TL.numL n))] = some (.int n) := by
  have e0 : (("" : Str)) = SS [] := by decide +kernel
  have e1' : (("0" : Str)) = SS [48] := by decide +kernel
  have e2' : (("0123456789" : Str)) = SS [48, 49, 50, 51, 52, 53, 54, 55, 56, 57] := by decide +kernel
  have d0 := dEq_S (a := TL.numL n) (b := []) (dig_tx n) (fun _ h => nomatch h)
  rw [decide_eq_false (TL.numL_ne n)] at d0
  have l0 : (SS (TL.numL n)).length = (TL.numL n).length := SX.S_len _
  have ok : (TL.numL n).length ≤ 1000000 := by omega
  have cl : (SS (TL.numL n)).cps.toList = TL.numL n := rfl
  -- no nought ahead
  have hz : fAnd (tB2 (e2 dGt (eCB cLen (aCons (eV 0) aNil)) (eC (.int 1)))) (tB2 (e2 dEq (e2 dIx (eV 0) (eC (.int 0))) (eC (.str (SS [48]))))) [some (.str (SS (TL.numL n))), none] = some false := by
    by_cases c1 : (1 : Int) < ((TL.numL n).length : Int)
    · obtain ⟨c, r, e⟩ : ∃ c r, TL.numL n = c :: r := by
        cases e : TL.numL n with
        | nil => exact absurd e (TL.numL_ne n)
        | cons c r => exact ⟨c, r, rfl⟩
      have n1 : 1 ≤ n := by
        rcases Nat.eq_zero_or_pos n with rfl | h
        · rw [TL.numL_lt (by decide)] at c1; exact absurd c1 (by decide)
        · exact h
      have c48 := numL_head n n1 c (by rw [e]; rfl)
      have hc : c < 0x110000 := dig_tx n c (by rw [e]; simp)
      have d1 := dEq_S (a := [c]) (b := [48]) (fun x hx => by cases hx with | head => exact hc | tail _ h => cases h) (fun x hx => by cases hx with | head => decide | tail _ h => cases h)
      rw [decide_eq_false (fun e => c48 (List.cons.inj e).1)] at d1
      replace d1 : dEq (.str ⟨#[c]⟩) (.str (SS [48])) = some (.bl false) := d1
      have i0 : dIx (.str (SS (TL.numL n))) (.int 0) = some (.str ⟨#[c]⟩) := by
        rw [q_ix3, l0, if_pos (by unfold okLen; exact decide_eq_true ok), cl, e, q_at0]
        rfl
      clear e
      walk_at "evs"
    · walk_at "evs"
  obtain ⟨ρ', e, v, rfl⟩ := loop_all (t := .nm 1) (F := sIf (tB2 (e2 dNin (eV 1) (eC (.str (SS [48, 49, 50, 51, 52, 53, 54, 55, 56, 57]))))) (sRet (eC .non)) sNil) (fun ρ => ∃ v, ρ = [some (.str (SS (TL.numL n))), v]) ((TL.numL n).map fun c => D.str ⟨#[c]⟩) [some (.str (SS (TL.numL n))), none] ⟨none, rfl⟩ fun d hd ρ hρ => by
    obtain ⟨v, rfl⟩ := hρ
    obtain ⟨c, hc, rfl⟩ := List.mem_map.mp hd
    have dg := TL.numL_digits n c hc
    have d1 := @dNin_S [48, 49, 50, 51, 52, 53, 54, 55, 56, 57] c
    rw [decide_eq_true (by simp only [List.mem_cons]; omega)] at d1
    refine ⟨_, _, rfl, Or.inl (?_ : _ = some (Out.nx [some (.str (SS (TL.numL n))), some (.str ⟨#[c]⟩)])), _, rfl⟩
    walk_at "evs"
  have i1 : cIntS [.str (SS (TL.numL n))] = some (.int n) := by
    rw [q_intS, l0, if_pos h, SX.int_S (List.all_eq_true.mpr fun c hc => by have := TL.numL_digits n c hc; simp; omega) (TL.numL_ne n) (by omega), TL.numL_val]
    rfl
  have d0' : tB2 (e2 dEq (eV 0) (eC (.str (SS [])))) [some (.str (SS (TL.numL n))), none] = some false := by walk_at "evs"
  unfold number_readF number_readB
  walk_at "op"
  rw [e0, e1', e2', x_seq, x_if, x_or, d0']
  simp only [q_or1, q_or2, hz]
  walk_at "ev"
  rw [e]
  walk_at "evs"
theorem cut_S1 {a : List Nat} : cutS (SS a) none (some 1) = SS (a.take 1) := by rw [C8.cutS_slice]; exact SX.slice_to (by decide)
theorem cut_S2 {a : List Nat} : cutS (SS a) (some 1) none = SS (a.drop 1) := by rw [C8.cutS_slice]; exact SX.slice_from (by decide)
theorem zL_pos {z : Int} (h : 0 ≤ z) : zL z = TL.numL z.natAbs := by unfold zL; rw [if_neg (by omega)]
theorem zL_neg {z : Int} (h : z < 0) : zL z = 45 :: TL.numL z.natAbs := by unfold zL; rw [if_pos h]
theorem part_split {a : Int × Int} : Txt.split (SS (partL a)) (SS [47]) = [SS (zL a.1), SS (zL a.2)] := by
  have e : partL a = TL.joinL [47] [zL a.1, zL a.2] := rfl
  rw [SX.split_S (by decide) (by decide), e, SX.spl_join (by simp) (fun p hp => by
    rcases List.mem_cons.mp hp with rfl | hp
    · exact zL_free _
    · rcases List.mem_cons.mp hp with rfl | hp
      · exact zL_free _
      · cases hp)]
  rfl
theorem seq_assoc (A B C : En → Option Out) : sSeq (sSeq A B) C = sSeq A (sSeq B C) := by
  funext ρ
  rw [x_seq, x_seq, x_seq]
  cases A ρ with
  | none => rfl
  | some o => cases o <;> first | rfl | (rw [q_seq1, q_seq1, x_seq])
/-- the end of it: top and bottom known -/
theorem part_within_eq {n : Nat} {a : Int × Int} (h : Pt n a) (hn : n ≤ 8000) {most : Int} (h1 : ((TL.numL a.1.natAbs).length : Int) ≤ most) (h2 : ((TL.numL a.2.natAbs).length : Int) ≤ most) (hm : most ≤ 600) : part_withinF [.str (SS (partL a)), .int most] = some (P a) := by
  have es : (("/" : Str)) = SS [47] := by decide +kernel
  have em : (("-" : Str)) = SS [45] := by decide +kernel
  have lz : ∀ z : Int, (zL z).length ≤ (TL.numL z.natAbs).length + 1 := by
    intro z; unfold zL; split <;> simp
  have g1 := lz a.1
  have g2 := lz a.2
  have lp : (SS (partL a)).length = (partL a).length := SX.S_len _
  have lq : (partL a).length = (zL a.1).length + (zL a.2).length + 1 := by unfold partL; simp; omega
  have ok : (partL a).length ≤ 999998 := by omega
  have sp : eSplit (eV 0) (eC (.str (SS [47]))) [some (.str (SS (partL a))), some (.int most), none, none, none, none] = some [.str (SS (zL a.1)), .str (SS (zL a.2))] := by
    rw [x_split]
    walk_at "ev"
    rw [part_split]
    have l47 : ((SS [47]).length == 0) = false := rfl
    rw [l47, lp, decide_eq_true ok]
    rfl
  have ln : ∀ m : Nat, (SS (TL.numL m)).length = (TL.numL m).length := fun m => SX.S_len _
  have zb : zL a.2 = TL.numL a.2.natAbs := zL_pos (Int.le_of_lt h.pos)
  have nb := number_read_eq (n := a.2.natAbs) (by omega)
  have nt := number_read_eq (n := a.1.natAbs) (by omega)
  have bn : (a.2.natAbs : Int) = a.2 := by have := h.pos; omega
  rw [bn] at nb
  have lo := lowest_eq (t := a.1) h.pos (pow_mono h.bot (by omega))
  rw [low_self h.one] at lo
  have pe := @dNe_P a a
  rw [decide_eq_true rfl] at pe
  have b0 : ¬ a.2 = 0 := by have := h.pos; omega
  have m1 : ¬ (most < ((TL.numL a.1.natAbs).length : Int)) := by omega
  have m2 : ¬ (most < ((TL.numL a.2.natAbs).length : Int)) := by omega
  have okA : (TL.numL a.1.natAbs).length ≤ 1000000 := by omega
  have okA1 : (TL.numL a.1.natAbs).length + 1 ≤ 1000000 := by omega
  have okB : (TL.numL a.2.natAbs).length ≤ 1000000 := by omega
  have okz : (SS (zL a.1)).length ≤ 1000000 := by rw [SX.S_len]; omega
  have t1 : sAsg [] 2 (eFr (eSplit (eV 0) (eC (.str (SS [47]))))) [some (.str (SS (partL a))), some (.int most), none, none, none, none] = some (.nx [some (.str (SS (partL a))), some (.int most), some (.lst [.str (SS (zL a.1)), .str (SS (zL a.2))]), none, none, none]) := by
    rw [x_asg, q_mask1, x_fr, sp]
    rfl
  have fin : ∀ r0 r1 : Option D, (sSeq part_within_s10 (sRet (eTup (aCons (eV 4) (aCons (eV 5) aNil))))) [r0, some (.int most), r1, some (.str (SS (TL.numL a.1.natAbs))), some (.int a.1), some (.int a.2)] = some (.rt (P a)) := by
    intro r0 r1
    unfold part_within_s10
    unfold P at *
    walk_at "evs"
  have mid : ∀ r0 : Option D, ∀ p : List Nat, ∀ neg : Bool, p = (if neg then 45 :: TL.numL a.1.natAbs else TL.numL a.1.natAbs) → a.1 = (if neg then -(a.1.natAbs : Int) else a.1.natAbs) → (neg = true → a.1 ≠ 0) →
      (sSeq part_within_s5 (sSeq (sAsg [] 4 (eCB number_readF (aCons (eV 3) aNil))) (sSeq part_within_s7 (sSeq part_within_s8 part_within_s9)))) [r0, some (.int most), some (.lst [.str (SS p), .str (SS (TL.numL a.2.natAbs))]), some (.str (SS (TL.numL a.1.natAbs))), none, none] = some (.nx [r0, some (.int most), some (.lst [.str (SS p), .str (SS (TL.numL a.2.natAbs))]), some (.str (SS (TL.numL a.1.natAbs))), some (.int a.1), some (.int a.2)]) := by
    intro r0 p
    have l1 := ln a.1.natAbs
    have l2 := ln a.2.natAbs
    have s5 : part_within_s5 [r0, some (.int most), some (.lst [.str (SS p), .str (SS (TL.numL a.2.natAbs))]), some (.str (SS (TL.numL a.1.natAbs))), none, none] = some (.nx [r0, some (.int most), some (.lst [.str (SS p), .str (SS (TL.numL a.2.natAbs))]), some (.str (SS (TL.numL a.1.natAbs))), none, none]) := by
      unfold part_within_s5
      walk_at "pv"
    have s6 : (sAsg [] 4 (eCB number_readF (aCons (eV 3) aNil))) [r0, some (.int most), some (.lst [.str (SS p), .str (SS (TL.numL a.2.natAbs))]), some (.str (SS (TL.numL a.1.natAbs))), none, none] = some (.nx [r0, some (.int most), some (.lst [.str (SS p), .str (SS (TL.numL a.2.natAbs))]), some (.str (SS (TL.numL a.1.natAbs))), some (.int a.1.natAbs), none]) := by
      walk_at "pv"
    have s7 : part_within_s7 [r0, some (.int most), some (.lst [.str (SS p), .str (SS (TL.numL a.2.natAbs))]), some (.str (SS (TL.numL a.1.natAbs))), some (.int a.1.natAbs), none] = some (.nx [r0, some (.int most), some (.lst [.str (SS p), .str (SS (TL.numL a.2.natAbs))]), some (.str (SS (TL.numL a.1.natAbs))), some (.int a.1.natAbs), some (.int a.2)]) := by
      unfold part_within_s7
      walk_at "pv"
    have s8 : part_within_s8 [r0, some (.int most), some (.lst [.str (SS p), .str (SS (TL.numL a.2.natAbs))]), some (.str (SS (TL.numL a.1.natAbs))), some (.int a.1.natAbs), some (.int a.2)] = some (.nx [r0, some (.int most), some (.lst [.str (SS p), .str (SS (TL.numL a.2.natAbs))]), some (.str (SS (TL.numL a.1.natAbs))), some (.int a.1.natAbs), some (.int a.2)]) := by
      unfold part_within_s8
      walk_at "pv"
    intro neg hp ha h0
    rw [seq_nx s5 (seq_nx s6 (seq_nx s7 (seq_nx s8 rfl)))]
    unfold part_within_s9
    cases neg with
    | false =>
      rw [if_neg (by decide)] at hp ha
      subst hp
      have d := dNe_S (dig_tx a.1.natAbs) (dig_tx a.1.natAbs)
      rw [decide_eq_true rfl] at d
      have ha' := ha.symm
      clear ha sp t1 fin s5 s6 s7 s8
      walk_at "pv"
    | true =>
      rw [if_pos rfl] at hp ha
      subst hp
      have d := dNe_S (a := 45 :: TL.numL a.1.natAbs) (b := TL.numL a.1.natAbs) (fun c hc => by
        rcases List.mem_cons.mp hc with rfl | hc
        · decide
        · exact dig_tx _ c hc) (dig_tx a.1.natAbs)
      rw [decide_eq_false (fun e => by have := congrArg List.length e; simp at this)] at d
      have z : ¬ ((a.1.natAbs : Int) = 0) := by have := h0 rfl; omega
      have ha' : -(a.1.natAbs : Int) = a.1 := ha.symm
      clear ha sp t1 fin s5 s6 s7 s8 h0
      walk_at "pv"
  have s4 : part_within_s4 [some (.str (SS (partL a))), some (.int most), some (.lst [.str (SS (zL a.1)), .str (SS (zL a.2))]), some (.str (SS (zL a.1))), none, none] = some (.nx [some (.str (SS (partL a))), some (.int most), some (.lst [.str (SS (zL a.1)), .str (SS (zL a.2))]), some (.str (SS (TL.numL a.1.natAbs))), none, none]) := by
    have c1 := @cut_S1 (zL a.1)
    have c2 := @cut_S2 (zL a.1)
    unfold part_within_s4
    by_cases hneg : a.1 < 0
    · have e := zL_neg hneg
      rw [e] at c1 c2
      have d := dEq_S (a := [45]) (b := [45]) (fun c hc => by cases hc with | head => decide | tail _ h => cases h) (fun c hc => by cases hc with | head => decide | tail _ h => cases h)
      rw [decide_eq_true rfl] at d
      replace c1 : cutS (SS (45 :: TL.numL a.1.natAbs)) none (some 1) = SS [45] := c1
      replace c2 : cutS (SS (45 :: TL.numL a.1.natAbs)) (some 1) none = SS (TL.numL a.1.natAbs) := c2
      rw [e] at okz ⊢
      rw [em]
      clear sp t1 mid fin
      walk_at "pv"
    · have e := zL_pos (z := a.1) (by omega)
      rw [e] at c1
      obtain ⟨c, r, ec⟩ : ∃ c r, TL.numL a.1.natAbs = c :: r := by
        cases e : TL.numL a.1.natAbs with
        | nil => exact absurd e (TL.numL_ne _)
        | cons c r => exact ⟨c, r, rfl⟩
      have hc := TL.numL_digits a.1.natAbs c (by rw [ec]; simp)
      have d := dEq_S (a := [c]) (b := [45]) (fun c hc => by cases hc with | head => omega | tail _ h => cases h) (fun c hc => by cases hc with | head => decide | tail _ h => cases h)
      rw [decide_eq_false (fun e => by have := (List.cons.inj e).1; omega)] at d
      have c1' : cutS (SS (TL.numL a.1.natAbs)) none (some 1) = SS [c] := by rw [c1, ec]; rfl
      rw [e] at okz ⊢
      rw [em]
      clear sp t1 mid fin ec c1 c2
      walk_at "pv"
  have t2 : part_within_s2 [some (.str (SS (partL a))), some (.int most), some (.lst [.str (SS (zL a.1)), .str (SS (zL a.2))]), none, none, none] = some (.nx [some (.str (SS (partL a))), some (.int most), some (.lst [.str (SS (zL a.1)), .str (SS (zL a.2))]), none, none, none]) := by
    unfold part_within_s2
    walk_at "pv"
  have t3 : sAsg [] 3 (e2 dIx (eV 2) (eC (.int 0))) [some (.str (SS (partL a))), some (.int most), some (.lst [.str (SS (zL a.1)), .str (SS (zL a.2))]), none, none, none] = some (.nx [some (.str (SS (partL a))), some (.int most), some (.lst [.str (SS (zL a.1)), .str (SS (zL a.2))]), some (.str (SS (zL a.1))), none, none]) := by
    walk_at "pv"
  have m := mid (some (.str (SS (partL a)))) (zL a.1) (decide (a.1 < 0)) (by unfold zL; by_cases c : a.1 < 0 <;> simp [c]) (by by_cases c : a.1 < 0 <;> simp [c] <;> omega) (fun e => by have := of_decide_eq_true e; omega)
  rw [← zb] at m
  unfold part_withinF part_withinB
  walk_at "op"
  rw [es, seq_nx t1 (seq_nx t2 (seq_nx t3 (seq_nx s4 rfl)))]
  simp only [← seq_assoc] at m fin ⊢
  rw [zb] at m ⊢
  rw [x_seq]
  have f := fin (some (.str (SS (partL a)))) (some (.lst [.str (SS (zL a.1)), .str (SS (TL.numL a.2.natAbs))]))
  have key : ∀ (A B C : En → Option Out) (ρ ρ' : En) (o : Option Out), A ρ = some (.nx ρ') → sSeq B C ρ' = o → sSeq (sSeq A B) C ρ = o := fun A B C ρ ρ' o h k => by rw [seq_assoc]; exact seq_nx h k
  rw [← x_seq, key _ _ _ _ _ _ m f]
  rfl
theorem part_read_eq {n : Nat} {a : Int × Int} (h : Pt n a) (hn : n ≤ 1300) : part_readF [.str (SS (partL a))] = some (P a) := by
  have d : ∀ z : Int, z.natAbs < 2 ^ n → ((TL.numL z.natAbs).length : Int) ≤ 400 := by
    intro z hz
    have := TL.numL_len (n := z.natAbs) (k := 400) (by decide) (Nat.lt_of_lt_of_le hz (Nat.le_trans (Nat.pow_le_pow_right (by decide) hn) (by decide +kernel)))
    omega
  have e := part_within_eq h (by omega) (d _ h.top) (d _ h.bot) (by decide)
  unfold part_readF part_readB
  walk_at "op"
  walk_at "evs"
end PM
namespace L_k04
open PySem L2 PD PM

/-! law(law_script): slots 0:law_script 1:law_row 2:law_at 3:law_a 4:law_found -/
def law_b1 : En → Option Out := (sSeq (sAsg [] 3 (eCB law_anyF (aCons (e2 dIx (eV 1) (eV 2)) (aCons (e2 dIx (eV 1) (e2 dAdd (eV 2) (eC (.int 1)))) aNil))))
  (sSeq (sAsg [] 4 (eCB part_textF (aCons (eV 3) aNil)))
  (sSeq (sIf (fOr (fNot (tB2 (eCB cIsi (aCons (eV 4) (aCons (eC (.ty .str)) aNil))))) (tB2 (e2 dNe (eV 4) (e2 dCat (e2 dCat (eCB cStr (aCons (e2 dIx (eV 3) (eC (.int 0))) aNil)) (eC (.str "/"))) (eCB cStr (aCons (e2 dIx (eV 3) (eC (.int 1))) aNil)))))) (sRet (eC (.bl false))) sNil)
  (sIf (fNot (tB2 (eCB law_isF (aCons (eCB part_readF (aCons (eV 4) aNil)) (aCons (eV 3) aNil))))) (sRet (eC (.bl false))) sNil))))
def law_s1 : En → Option Out := (sAsg [] 1 (eFr (eCF law_flowF (aCons (eV 0) (aCons (eC (.int 6)) aNil)))))
def law_s2 : En → Option Out := (sFor [] (iT (eTup (aCons (eC (.int 0)) (aCons (eC (.int 2)) (aCons (eC (.int 4)) aNil))))) (.nm 2) law_b1)
def lawB : En → Option Out := (sSeq law_s1
  (sSeq law_s2
  (sRet (eC (.bl true)))))
def lawF : List D → Option D := fnOut 1 5 lawB
end L_k04
namespace L_k04
open PySem L2 PD PM
theorem turn {ns row : List Int} (hr : Row row) (hl : row.length = 6) (k : Nat) (h : k + 1 < 6) (r3 r4 : Option D) : ∃ r3' r4', law_b1 [some (.lst (ns.map .int)), some (.lst (row.map .int)), some (.int k), r3, r4] = some (.nx [some (.lst (ns.map .int)), some (.lst (row.map .int)), some (.int k), r3', r4']) := by
  obtain ⟨v0, b0, h0⟩ := row_at (k := k) hr (by omega)
  obtain ⟨v1, b1, h1⟩ := row_at (k := k + 1) hr (by omega)
  replace h1 : atI (row.map D.int) ((k : Int) + 1) = some (.int v1) := h1
  obtain ⟨a, pa, ea⟩ := law_any_eq b0 b1
  have et := part_text_eq pa (by decide)
  have er := part_read_eq pa (by decide)
  have lg : ∀ z : Int, z.natAbs < 2 ^ 200 → z.natAbs.log2 < 1920 := by
    intro z hz
    by_cases h0 : z.natAbs = 0
    · rw [h0]; decide
    · have := (Nat.log2_lt h0).mpr hz; omega
  have big : ∀ z : Int, z.natAbs < 2 ^ 200 → (zL z).length ≤ 2000 := by
    intro z hz
    refine Nat.le_trans (zL_len (k := 1900) (by decide) ?_) (by decide)
    exact Nat.lt_of_lt_of_le hz (Nat.le_trans (Nat.pow_le_pow_right (by decide) (by decide)) (Nat.pow_le_pow_left (by decide) _))
  have s1 : cStr [.int a.1] = some (.str (SS (zL a.1))) := by rw [q_str, if_pos (lg _ pa.top), str_z]
  have s2 : cStr [.int a.2] = some (.str (SS (zL a.2))) := by rw [q_str, if_pos (lg _ pa.bot), str_z]
  have sl : (("/" : Str)) = SS [47] := by decide +kernel
  have b1' := big _ pa.top
  have b2' := big _ pa.bot
  have c1 := dCat_S (a := zL a.1) (b := [47]) (by simp; omega)
  have c2 := dCat_S (a := zL a.1 ++ [47]) (b := zL a.2) (by simp; omega)
  rw [List.append_assoc] at c2
  replace c2 : dCat (.str (SS (zL a.1 ++ [47]))) (.str (SS (zL a.2))) = some (.str (SS (partL a))) := c2
  have tx : Tx (partL a) := fun c hc => by
    unfold partL at hc
    rcases List.mem_append.mp hc with h | h
    · exact zL_tx _ c h
    · rcases List.mem_cons.mp h with rfl | h
      · decide
      · exact zL_tx _ c h
  have d := dNe_S tx tx
  rw [decide_eq_true rfl] at d
  have li := law_is_eq a a
  rw [decide_eq_true rfl] at li
  refine ⟨some (P a), some (.str (SS (partL a))), ?_⟩
  have t1 : sAsg [] 3 (eCB law_anyF (aCons (e2 dIx (eV 1) (eV 2)) (aCons (e2 dIx (eV 1) (e2 dAdd (eV 2) (eC (.int 1)))) aNil))) [some (.lst (ns.map .int)), some (.lst (row.map .int)), some (.int k), r3, r4] = some (.nx [some (.lst (ns.map .int)), some (.lst (row.map .int)), some (.int k), some (P a), r4]) := by walk_at "pv"
  have t2 : sAsg [] 4 (eCB part_textF (aCons (eV 3) aNil)) [some (.lst (ns.map .int)), some (.lst (row.map .int)), some (.int k), some (P a), r4] = some (.nx [some (.lst (ns.map .int)), some (.lst (row.map .int)), some (.int k), some (P a), some (.str (SS (partL a)))]) := by walk_at "pv"
  unfold law_b1
  rw [seq_nx t1 (seq_nx t2 rfl), sl]
  walk_at "pv"
theorem law_true : ∀ ns : List Int, ns.length ≤ 63 → lawF [.lst (ns.map D.int)] = some (.bl true) := by
  intro ns _
  obtain ⟨row, hl, hr, hf⟩ := law_flow_eq ns 6 (by decide)
  replace hf : law_flowF [.lst (ns.map .int), .int 6] = some (row.map .int) := hf
  obtain ⟨a1, a2, t1⟩ := turn (ns := ns) hr hl 0 (by decide) none none
  obtain ⟨b1, b2, t2⟩ := turn (ns := ns) hr hl 2 (by decide) a1 a2
  obtain ⟨c1, c2, t3⟩ := turn (ns := ns) hr hl 4 (by decide) b1 b2
  rw [show ((0 : Nat) : Int) = 0 from rfl] at t1
  rw [show ((2 : Nat) : Int) = 2 from rfl] at t2
  rw [show ((4 : Nat) : Int) = 4 from rfl] at t3
  unfold lawF lawB law_s1 law_s2
  walk_at "op"
  rw [x_seq, x_asg, x_fr, x_cf]
  walk_at "ev"
  rw [hf]
  walk_at "ev"
  rw [x_loop, q_st, q_set_2, q_turn, t1, q_next0, x_loop, q_st, q_set_2, q_turn, t2, q_next0, x_loop, q_st, q_set_2, q_turn, t3, q_next0, x_nil]
  walk_at "ev"
end L_k04
namespace L_k04
open PySem L2 PD PM

def topS (i : Nat) : Stmt := PySem.Challenge.pw_ditchturn_k04_parts_written.main.body.getD i (.Pass ⟨0, 0, 0, 0⟩)
abbrev s_measure : Stmt := topS 6
abbrev n_measure : List Str := ["one", "other"]
theorem sc_measure : FnScope n_measure ["one", "other"] (defScope s_measure) := ⟨rfl, rfl, rfl, by decide +kernel, rfl, by decide +kernel, by decide +kernel⟩
abbrev s_lowest : Stmt := topS 7
abbrev n_lowest : List Str := ["top", "bottom", "by"]
theorem sc_lowest : FnScope n_lowest ["top", "bottom"] (defScope s_lowest) := ⟨rfl, rfl, rfl, by decide +kernel, rfl, by decide +kernel, by decide +kernel⟩
abbrev s_part_text : Stmt := topS 8
abbrev n_part_text : List Str := ["a"]
theorem sc_part_text : FnScope n_part_text ["a"] (defScope s_part_text) := ⟨rfl, rfl, rfl, by decide +kernel, rfl, by decide +kernel, by decide +kernel⟩
abbrev s_number_read : Stmt := topS 9
abbrev n_number_read : List Str := ["word", "sign"]
theorem sc_number_read : FnScope n_number_read ["word"] (defScope s_number_read) := ⟨rfl, rfl, rfl, by decide +kernel, rfl, by decide +kernel, by decide +kernel⟩
abbrev s_part_within : Stmt := topS 10
abbrev n_part_within : List Str := ["text", "most", "words", "figures", "top", "bottom"]
theorem sc_part_within : FnScope n_part_within ["text", "most"] (defScope s_part_within) := ⟨rfl, rfl, rfl, by decide +kernel, rfl, by decide +kernel, by decide +kernel⟩
abbrev s_part_read : Stmt := topS 11
abbrev n_part_read : List Str := ["text"]
theorem sc_part_read : FnScope n_part_read ["text"] (defScope s_part_read) := ⟨rfl, rfl, rfl, by decide +kernel, rfl, by decide +kernel, by decide +kernel⟩
abbrev s_law_flow : Stmt := topS 13
abbrev n_law_flow : List Str := ["_law_script", "_law_many", "_law_great", "_law_row", "_law_k", "_law_cell", "_law_mixed"]
theorem sc_law_flow : FnScope n_law_flow ["_law_script", "_law_many"] (defScope s_law_flow) := ⟨rfl, rfl, rfl, by decide +kernel, rfl, by decide +kernel, by decide +kernel⟩
abbrev s_law_whole : Stmt := topS 14
abbrev n_law_whole : List Str := ["_law_found"]
theorem sc_law_whole : FnScope n_law_whole ["_law_found"] (defScope s_law_whole) := ⟨rfl, rfl, rfl, by decide +kernel, rfl, by decide +kernel, by decide +kernel⟩
abbrev s_law_low : Stmt := topS 15
abbrev n_law_low : List Str := ["_law_top", "_law_bottom", "_law_one", "_law_other"]
theorem sc_law_low : FnScope n_law_low ["_law_top", "_law_bottom"] (defScope s_law_low) := ⟨rfl, rfl, rfl, by decide +kernel, rfl, by decide +kernel, by decide +kernel⟩
abbrev s_law_part : Stmt := topS 16
abbrev n_law_part : List Str := ["_law_found"]
theorem sc_law_part : FnScope n_law_part ["_law_found"] (defScope s_law_part) := ⟨rfl, rfl, rfl, by decide +kernel, rfl, by decide +kernel, by decide +kernel⟩
abbrev s_law_is : Stmt := topS 17
abbrev n_law_is : List Str := ["_law_found", "_law_due"]
theorem sc_law_is : FnScope n_law_is ["_law_found", "_law_due"] (defScope s_law_is) := ⟨rfl, rfl, rfl, by decide +kernel, rfl, by decide +kernel, by decide +kernel⟩
abbrev s_law_any : Stmt := topS 18
abbrev n_law_any : List Str := ["_law_one", "_law_two", "_law_top", "_law_bottom"]
theorem sc_law_any : FnScope n_law_any ["_law_one", "_law_two"] (defScope s_law_any) := ⟨rfl, rfl, rfl, by decide +kernel, rfl, by decide +kernel, by decide +kernel⟩
abbrev s_law : Stmt := topS 19
abbrev n_law : List Str := ["_law_script", "_law_row", "_law_at", "_law_a", "_law_found"]
theorem sc_law : FnScope n_law ["_law_script"] (defScope s_law) := ⟨rfl, rfl, rfl, by decide +kernel, rfl, by decide +kernel, by decide +kernel⟩
/-- what the top has written -/
structure Txt (K : PySem.W.Frag) (mg : Str → Option Value) (a : Nat → Addr) : Prop where
  g_measure : mg "measure" = some (.ref (a 0))
  k_measure : PySem.W.keepIn K (.ref (a 0)) = true
  g_lowest : mg "lowest" = some (.ref (a 1))
  k_lowest : PySem.W.keepIn K (.ref (a 1)) = true
  g_part_text : mg "part_text" = some (.ref (a 2))
  k_part_text : PySem.W.keepIn K (.ref (a 2)) = true
  g_number_read : mg "number_read" = some (.ref (a 3))
  k_number_read : PySem.W.keepIn K (.ref (a 3)) = true
  g_part_within : mg "part_within" = some (.ref (a 4))
  k_part_within : PySem.W.keepIn K (.ref (a 4)) = true
  g_part_read : mg "part_read" = some (.ref (a 5))
  k_part_read : PySem.W.keepIn K (.ref (a 5)) = true
  g_law_flow : mg "_law_flow" = some (.ref (a 6))
  k_law_flow : PySem.W.keepIn K (.ref (a 6)) = true
  g_law_whole : mg "_law_whole" = some (.ref (a 7))
  k_law_whole : PySem.W.keepIn K (.ref (a 7)) = true
  g_law_low : mg "_law_low" = some (.ref (a 8))
  k_law_low : PySem.W.keepIn K (.ref (a 8)) = true
  g_law_part : mg "_law_part" = some (.ref (a 9))
  k_law_part : PySem.W.keepIn K (.ref (a 9)) = true
  g_law_is : mg "_law_is" = some (.ref (a 10))
  k_law_is : PySem.W.keepIn K (.ref (a 10)) = true
  g_law_any : mg "_law_any" = some (.ref (a 11))
  k_law_any : PySem.W.keepIn K (.ref (a 11)) = true
  g_law : mg "law" = some (.ref (a 12))
  k_law : PySem.W.keepIn K (.ref (a 12)) = true
  b_abs : mg "abs" = none
  b_bool : mg "bool" = none
  b_int : mg "int" = none
  b_isinstance : mg "isinstance" = none
  b_len : mg "len" = none
  b_range : mg "range" = none
  b_str : mg "str" = none
  b_tuple : mg "tuple" = none
  g_FIGURES : ∃ u, mg "FIGURES" = some u ∧ RelV (.str "0123456789") u
  d_FIGURES : ∀ H, Dn K H (.str "0123456789") (.str "0123456789")
  g_MOST_FIGURES : ∃ u, mg "MOST_FIGURES" = some u ∧ RelV (.int 400) u
  d_MOST_FIGURES : ∀ H, Dn K H (.int 400) (.int 400)
structure Df (P : Program) (w : World) (K : PySem.W.Frag) (mg : Str → Option Value) (base : Heap) (k : Nat) (f : Addr) (ps : List Str) (sp : Sp) (fd : FuncData) : Prop where
  ok : FnOk P w K mg base CX0 k f fd ps sp
  bd : Binds K fd ps []
section
variable {P : Program} {w : World} {K : PySem.W.Frag} {mg : Str → Option Value} {base : Heap} {a : Nat → Addr}
theorem ok_measure {fd : FuncData} (G : Fun K "measure" "measure" s_measure (a 0) fd) (T : Txt K mg a) : FnOk P w K mg base CX0 1 (a 0) fd ["one", "other"] (spD K measureF) := by
  refine fnD (O := []) (F := measureB) G sc_measure rfl rfl (by decide) (by decide) (fun cdv A outer s H E hr => ?_)
  exact (ss_cons (sd_asg (i := 0) sc_measure.nd rfl (by first | exact Or.inl rfl | exact Or.inr rfl) (by decide) (pd_cb call_abs okc_abs rfl T.b_abs (by decide +kernel) (ad_cons (pd_var 0) ad_nil)))
  (ss_cons (sd_while (fuelI 1) PassesOwn.never (pt_gt (pd_var 1) pd_int) (ss_one (sd_par (i := 0) (j := 1) rfl sc_measure.nd rfl rfl (by decide) rfl rfl (ad_cons (pd_var 1) (ad_cons (pd_mod (pd_var 0) (pd_var 1)) ad_nil)) (by decide) (by decide) (by rfl))))
  (ss_one (sd_ret (pd_var 0)))))
theorem ok_lowest {fd : FuncData} (G : Fun K "lowest" "lowest" s_lowest (a 1) fd) (T : Txt K mg a) {fd_measure : FuncData} (C_measure : Df P w K mg base 1 (a 0) ["one", "other"] (spD K measureF) fd_measure) : FnOk P w K mg base CX0 2 (a 1) fd ["top", "bottom"] (spD K lowestF) := by
  refine fnD (O := []) (F := lowestB) G sc_lowest rfl rfl (by decide) (by decide) (fun cdv A outer s H E hr => ?_)
  exact (ss_cons (sd_asg (i := 2) sc_lowest.nd rfl (by first | exact Or.inl rfl | exact Or.inr rfl) (by decide) (pd_call C_measure.ok (hr.mono (by decide)) rfl T.g_measure T.k_measure C_measure.bd (ad_cons (pd_var 0) (ad_cons (pd_var 1) ad_nil))))
  (ss_one (sd_ret (pd_tup (ad_cons (pd_div (pd_var 0) (pd_var 2)) (ad_cons (pd_div (pd_var 1) (pd_var 2)) ad_nil))))))
theorem ok_part_text {fd : FuncData} (G : Fun K "part_text" "part_text" s_part_text (a 2) fd) (T : Txt K mg a) : FnOk P w K mg base CX0 1 (a 2) fd ["a"] (spD K part_textF) := by
  refine fnD (O := []) (F := part_textB) G sc_part_text rfl rfl (by decide) (by decide) (fun cdv A outer s H E hr => ?_)
  exact (ss_one (sd_ret (pd_cat (pd_cat (pd_ct call_str_int okc_str rfl T.b_str (by decide +kernel) (ad_cons (pd_ix (pd_var 0) pd_int) ad_nil)) pd_str) (pd_ct call_str_int okc_str rfl T.b_str (by decide +kernel) (ad_cons (pd_ix (pd_var 0) pd_int) ad_nil)))))
theorem ok_number_read {fd : FuncData} (G : Fun K "number_read" "number_read" s_number_read (a 3) fd) (T : Txt K mg a) : FnOk P w K mg base CX0 1 (a 3) fd ["word"] (spD K number_readF) := by
  refine fnD (O := []) (F := number_readB) G sc_number_read rfl rfl (by decide) (by decide) (fun cdv A outer s H E hr => ?_)
  exact (ss_cons (sd_if (PW.pt (wd_or (td_eq hr.units (pd_var 0) pd_str) (wd_or1 (PW.pt (wd_and (pt_gt (pd_cb (CallR.or call_len_seq call_len_str) okc_len rfl T.b_len (by decide +kernel) (ad_cons (pd_var 0) ad_nil)) pd_int) (wd_and1 (td_eq hr.units (pd_ix (pd_var 0) pd_int) pd_str))))))) (ss_one (sd_ret pd_non)) ss_nil)
  (ss_cons (sd_for PassesOwn.never rfl (by decide) (id_str (pd_var 0)) (pg_name (i := 1) sc_number_read.nd rfl (by first | exact Or.inl rfl | exact Or.inr rfl)) (ss_one (sd_if (pt_nin (pd_var 1) (pd_globE T.g_FIGURES T.d_FIGURES)) (ss_one (sd_ret pd_non)) ss_nil)))
  (ss_one (sd_ret (pd_ct call_int_str okc_intS rfl T.b_int (by decide +kernel) (ad_cons (pd_var 0) ad_nil))))))
theorem ok_part_within {fd : FuncData} (G : Fun K "part_within" "part_within" s_part_within (a 4) fd) (T : Txt K mg a) {fd_number_read : FuncData} (C_number_read : Df P w K mg base 1 (a 3) ["word"] (spD K number_readF) fd_number_read) {fd_lowest : FuncData} (C_lowest : Df P w K mg base 2 (a 1) ["top", "bottom"] (spD K lowestF) fd_lowest) : FnOk P w K mg base CX0 3 (a 4) fd ["text", "most"] (spD K part_withinF) := by
  refine fnD (O := []) (F := part_withinB) G sc_part_within rfl rfl (by decide) (by decide) (fun cdv A outer s H E hr => ?_)
  exact (ss_cons (sd_asg (i := 2) sc_part_within.nd rfl (by first | exact Or.inl rfl | exact Or.inr rfl) (by decide) (pd_fr (pf_split (pd_var 0) pd_str)))
  (ss_cons (sd_if (td_ne hr.units (pd_cb (CallR.or call_len_seq call_len_str) okc_len rfl T.b_len (by decide +kernel) (ad_cons (pd_var 2) ad_nil)) pd_int) (ss_one sd_no) ss_nil)
  (ss_cons (sd_asg (i := 3) sc_part_within.nd rfl (by first | exact Or.inl rfl | exact Or.inr rfl) (by decide) (pd_ix (pd_var 2) pd_int))
  (ss_cons (sd_if (td_eq hr.units (pd_slS (pd_var 3) od_none (od_some pd_int)) pd_str) (ss_one (sd_asg (i := 3) sc_part_within.nd rfl (by first | exact Or.inl rfl | exact Or.inr rfl) (by decide) (pd_slS (pd_var 3) (od_some pd_int) od_none))) ss_nil)
  (ss_cons (sd_if (PW.pt (wd_or (pt_gt (pd_cb (CallR.or call_len_seq call_len_str) okc_len rfl T.b_len (by decide +kernel) (ad_cons (pd_var 3) ad_nil)) (pd_var 1)) (wd_or1 (pt_gt (pd_cb (CallR.or call_len_seq call_len_str) okc_len rfl T.b_len (by decide +kernel) (ad_cons (pd_ix (pd_var 2) pd_int) ad_nil)) (pd_var 1))))) (ss_one sd_no) ss_nil)
  (ss_cons (sd_asg (i := 4) sc_part_within.nd rfl (by first | exact Or.inl rfl | exact Or.inr rfl) (by decide) (pd_call C_number_read.ok (hr.mono (by decide)) rfl T.g_number_read T.k_number_read C_number_read.bd (ad_cons (pd_var 3) ad_nil)))
  (ss_cons (sd_asg (i := 5) sc_part_within.nd rfl (by first | exact Or.inl rfl | exact Or.inr rfl) (by decide) (pd_call C_number_read.ok (hr.mono (by decide)) rfl T.g_number_read T.k_number_read C_number_read.bd (ad_cons (pd_ix (pd_var 2) pd_int) ad_nil)))
  (ss_cons (sd_if (PW.pt (wd_or (td_isN (pd_var 4)) (wd_or (td_isN (pd_var 5)) (wd_or1 (td_eq hr.units (pd_var 5) pd_int))))) (ss_one sd_no) ss_nil)
  (ss_cons (sd_if (td_ne hr.units (pd_ix (pd_var 2) pd_int) (pd_var 3)) (ss_cons (sd_if (td_eq hr.units (pd_var 4) pd_int) (ss_one sd_no) ss_nil)
  (ss_one (sd_asg (i := 4) sc_part_within.nd rfl (by first | exact Or.inl rfl | exact Or.inr rfl) (by decide) (pd_neg (pd_var 4))))) ss_nil)
  (ss_cons (sd_if (td_ne hr.units (pd_call C_lowest.ok (hr.mono (by decide)) rfl T.g_lowest T.k_lowest C_lowest.bd (ad_cons (pd_var 4) (ad_cons (pd_var 5) ad_nil))) (pd_tup (ad_cons (pd_var 4) (ad_cons (pd_var 5) ad_nil)))) (ss_one sd_no) ss_nil)
  (ss_one (sd_ret (pd_tup (ad_cons (pd_var 4) (ad_cons (pd_var 5) ad_nil)))))))))))))))
theorem ok_part_read {fd : FuncData} (G : Fun K "part_read" "part_read" s_part_read (a 5) fd) (T : Txt K mg a) {fd_part_within : FuncData} (C_part_within : Df P w K mg base 3 (a 4) ["text", "most"] (spD K part_withinF) fd_part_within) : FnOk P w K mg base CX0 4 (a 5) fd ["text"] (spD K part_readF) := by
  refine fnD (O := []) (F := part_readB) G sc_part_read rfl rfl (by decide) (by decide) (fun cdv A outer s H E hr => ?_)
  exact (ss_one (sd_ret (pd_call C_part_within.ok (hr.mono (by decide)) rfl T.g_part_within T.k_part_within C_part_within.bd (ad_cons (pd_var 0) (ad_cons (pd_globE T.g_MOST_FIGURES T.d_MOST_FIGURES) ad_nil)))))
theorem ok_law_flow {fd : FuncData} (G : Fun K "_law_flow" "_law_flow" s_law_flow (a 6) fd) (T : Txt K mg a) : FnOk P w K mg base CX0 1 (a 6) fd ["_law_script", "_law_many"] (spF K law_flowF) := by
  refine fnF (O := [3]) (F := law_flowB) G sc_law_flow rfl rfl (by decide) (by decide) (fun cdv A outer s H E hr => ?_)
  exact (ss_cons (sd_asg (i := 2) sc_law_flow.nd rfl (by first | exact Or.inl rfl | exact Or.inr rfl) (by decide) pd_int)
  (ss_cons (sd_if (PW.pt (wd_and (pt_gt (pd_cb (CallR.or call_len_seq call_len_str) okc_len rfl T.b_len (by decide +kernel) (ad_cons (pd_var 0) ad_nil)) pd_int) (wd_and1 (pt_ge (pd_cb call_abs okc_abs rfl T.b_abs (by decide +kernel) (ad_cons (pd_ix (pd_var 0) pd_int) ad_nil)) (pd_pow pd_int pd_int))))) (ss_one (sd_asg (i := 2) sc_law_flow.nd rfl (by first | exact Or.inl rfl | exact Or.inr rfl) (by decide) (pd_sub (pd_cb call_abs okc_abs rfl T.b_abs (by decide +kernel) (ad_cons (pd_ix (pd_var 0) pd_int) ad_nil)) (pd_pow pd_int pd_int)))) ss_nil)
  (ss_cons (sd_asgO (i := 3) sc_law_flow.nd rfl (by first | exact Or.inl rfl | exact Or.inr rfl) (by decide) (pf_lst ad_nil))
  (ss_cons (sd_for PassesOwn.never rfl (by decide) (id_r1 rfl T.b_range (ad_cons (pd_var 1) ad_nil)) (pg_name (i := 4) sc_law_flow.nd rfl (by first | exact Or.inl rfl | exact Or.inr rfl)) (ss_one (sd_if (pt_gt (pd_var 2) pd_int) (ss_cons (sd_app (by decide) (ps_expr (pe_bm PySem.F.plainAttrs_list PySem.F.slot_list_append PySem.F.type_list_append mt_append (pv 3) (pa_cons (pd_mod (pd_var 2) pd_int) pa_nil))))
  (ss_one (sd_asg (i := 2) sc_law_flow.nd rfl (by first | exact Or.inl rfl | exact Or.inr rfl) (by decide) (pd_div (pd_var 2) pd_int)))) (ss_cons (sd_asg (i := 5) sc_law_flow.nd rfl (by first | exact Or.inl rfl | exact Or.inr rfl) (by decide) (pd_add (pd_var 4) pd_int))
  (ss_cons (sd_if (pt_gt (pd_cb (CallR.or call_len_seq call_len_str) okc_len rfl T.b_len (by decide +kernel) (ad_cons (pd_var 0) ad_nil)) pd_int) (ss_one (sd_asg (i := 5) sc_law_flow.nd rfl (by first | exact Or.inl rfl | exact Or.inr rfl) (by decide) (pd_ix (pd_var 0) (pd_mod (pd_var 4) (pd_cb (CallR.or call_len_seq call_len_str) okc_len rfl T.b_len (by decide +kernel) (ad_cons (pd_var 0) ad_nil)))))) ss_nil)
  (ss_cons (sd_asg (i := 6) sc_law_flow.nd rfl (by first | exact Or.inl rfl | exact Or.inr rfl) (by decide) (pd_mod (pd_add (pd_add (pd_mul (pd_var 5) pd_int) (pd_mul (pd_var 4) pd_int)) pd_int) pd_int))
  (ss_cons (sd_asg (i := 6) sc_law_flow.nd rfl (by first | exact Or.inl rfl | exact Or.inr rfl) (by decide) (pd_mod (pd_add (pd_add (pd_mul (pd_var 6) pd_int) (pd_mul (pd_var 4) pd_int)) (pd_cb (CallR.or call_len_seq call_len_str) okc_len rfl T.b_len (by decide +kernel) (ad_cons (pd_var 0) ad_nil))) pd_int))
  (ss_one (sd_app (by decide) (ps_expr (pe_bm PySem.F.plainAttrs_list PySem.F.slot_list_append PySem.F.type_list_append mt_append (pv 3) (pa_cons (pd_mod (pd_div (pd_var 6) pd_int) pd_int) pa_nil))))))))))))
  (ss_one (sd_retO (pv 3) (by decide)))))))
theorem ok_law_whole {fd : FuncData} (G : Fun K "_law_whole" "_law_whole" s_law_whole (a 7) fd) (T : Txt K mg a) : FnOk P w K mg base CX0 1 (a 7) fd ["_law_found"] (spD K law_wholeF) := by
  refine fnD (O := []) (F := law_wholeB) G sc_law_whole rfl rfl (by decide) (by decide) (fun cdv A outer s H E hr => ?_)
  exact (ss_one (sd_ret (pd_and (pd_cb call_isi okc_isi rfl T.b_isinstance (by decide +kernel) (ad_cons (pd_var 0) (ad_cons (pd_ty (t := .int) rfl T.b_int (by decide +kernel)) ad_nil))) (pd_one (pd_not (pd_cb call_isi okc_isi rfl T.b_isinstance (by decide +kernel) (ad_cons (pd_var 0) (ad_cons (pd_ty (t := .bool) rfl T.b_bool (by decide +kernel)) ad_nil))))))))
theorem ok_law_low {fd : FuncData} (G : Fun K "_law_low" "_law_low" s_law_low (a 8) fd) (T : Txt K mg a) : FnOk P w K mg base CX0 1 (a 8) fd ["_law_top", "_law_bottom"] (spD K law_lowF) := by
  refine fnD (O := []) (F := law_lowB) G sc_law_low rfl rfl (by decide) (by decide) (fun cdv A outer s H E hr => ?_)
  exact (ss_cons (sd_asg (i := 2) sc_law_low.nd rfl (by first | exact Or.inl rfl | exact Or.inr rfl) (by decide) (pd_cb call_abs okc_abs rfl T.b_abs (by decide +kernel) (ad_cons (pd_var 0) ad_nil)))
  (ss_cons (sd_asg (i := 3) sc_law_low.nd rfl (by first | exact Or.inl rfl | exact Or.inr rfl) (by decide) (pd_var 1))
  (ss_cons (sd_while (fuelI 3) PassesOwn.never (pt_gt (pd_var 3) pd_int) (ss_one (sd_par (i := 2) (j := 3) rfl sc_law_low.nd rfl rfl (by decide) rfl rfl (ad_cons (pd_var 3) (ad_cons (pd_mod (pd_var 2) (pd_var 3)) ad_nil)) (by decide) (by decide) (by rfl))))
  (ss_one (sd_ret (pd_tup (ad_cons (pd_div (pd_var 0) (pd_var 2)) (ad_cons (pd_div (pd_var 1) (pd_var 2)) ad_nil))))))))
theorem ok_law_part {fd : FuncData} (G : Fun K "_law_part" "_law_part" s_law_part (a 9) fd) (T : Txt K mg a) {fd_law_whole : FuncData} (C_law_whole : Df P w K mg base 1 (a 7) ["_law_found"] (spD K law_wholeF) fd_law_whole) : FnOk P w K mg base CX0 2 (a 9) fd ["_law_found"] (spD K law_partF) := by
  refine fnD (O := []) (F := law_partB) G sc_law_part rfl rfl (by decide) (by decide) (fun cdv A outer s H E hr => ?_)
  exact (ss_cons (sd_if (PW.pt (wd_or (td_not (pt_vald (pd_cb call_isi okc_isi rfl T.b_isinstance (by decide +kernel) (ad_cons (pd_var 0) (ad_cons (pd_ty (t := .tuple) rfl T.b_tuple (by decide +kernel)) ad_nil))))) (wd_or1 (td_ne hr.units (pd_cb (CallR.or call_len_seq call_len_str) okc_len rfl T.b_len (by decide +kernel) (ad_cons (pd_var 0) ad_nil)) pd_int)))) (ss_one (sd_ret pd_bl)) ss_nil)
  (ss_one (sd_ret (pd_and (pd_call C_law_whole.ok (hr.mono (by decide)) rfl T.g_law_whole T.k_law_whole C_law_whole.bd (ad_cons (pd_ix (pd_var 0) pd_int) ad_nil)) (pd_one (pd_call C_law_whole.ok (hr.mono (by decide)) rfl T.g_law_whole T.k_law_whole C_law_whole.bd (ad_cons (pd_ix (pd_var 0) pd_int) ad_nil)))))))
theorem ok_law_is {fd : FuncData} (G : Fun K "_law_is" "_law_is" s_law_is (a 10) fd) (T : Txt K mg a) {fd_law_part : FuncData} (C_law_part : Df P w K mg base 2 (a 9) ["_law_found"] (spD K law_partF) fd_law_part) : FnOk P w K mg base CX0 3 (a 10) fd ["_law_found", "_law_due"] (spD K law_isF) := by
  refine fnD (O := []) (F := law_isB) G sc_law_is rfl rfl (by decide) (by decide) (fun cdv A outer s H E hr => ?_)
  exact (ss_one (sd_ret (pd_and (pd_call C_law_part.ok (hr.mono (by decide)) rfl T.g_law_part T.k_law_part C_law_part.bd (ad_cons (pd_var 0) ad_nil)) (pd_one (pd_eq hr.units (pd_var 0) (pd_var 1))))))
theorem ok_law_any {fd : FuncData} (G : Fun K "_law_any" "_law_any" s_law_any (a 11) fd) (T : Txt K mg a) {fd_law_low : FuncData} (C_law_low : Df P w K mg base 1 (a 8) ["_law_top", "_law_bottom"] (spD K law_lowF) fd_law_low) : FnOk P w K mg base CX0 2 (a 11) fd ["_law_one", "_law_two"] (spD K law_anyF) := by
  refine fnD (O := []) (F := law_anyB) G sc_law_any rfl rfl (by decide) (by decide) (fun cdv A outer s H E hr => ?_)
  exact (ss_cons (sd_if (td_eq hr.units (pd_mod (pd_var 0) pd_int) pd_int) (ss_one (sd_ret (pd_tup (ad_cons pd_int (ad_cons pd_int ad_nil))))) ss_nil)
  (ss_cons (sd_asg (i := 2) sc_law_any.nd rfl (by first | exact Or.inl rfl | exact Or.inr rfl) (by decide) (pd_sub (pd_mod (pd_var 0) pd_int) pd_int))
  (ss_cons (sd_asg (i := 3) sc_law_any.nd rfl (by first | exact Or.inl rfl | exact Or.inr rfl) (by decide) (pd_add pd_int (pd_mod (pd_var 1) pd_int)))
  (ss_cons (sd_if (td_eq hr.units (pd_mod (pd_div (pd_var 0) pd_int) pd_int) pd_int) (ss_cons (sd_asg (i := 2) sc_law_any.nd rfl (by first | exact Or.inl rfl | exact Or.inr rfl) (by decide) (pd_sub (pd_var 0) pd_int))
  (ss_one (sd_asg (i := 3) sc_law_any.nd rfl (by first | exact Or.inl rfl | exact Or.inr rfl) (by decide) (pd_add pd_int (pd_var 1))))) ss_nil)
  (ss_cons (sd_if (td_eq hr.units (pd_mod (pd_div (pd_var 0) pd_int) pd_int) pd_int) (ss_cons (sd_asg (i := 2) sc_law_any.nd rfl (by first | exact Or.inl rfl | exact Or.inr rfl) (by decide) (pd_add (pd_mul (pd_var 0) (pd_pow pd_int pd_int)) (pd_var 1)))
  (ss_cons (sd_asg (i := 3) sc_law_any.nd rfl (by first | exact Or.inl rfl | exact Or.inr rfl) (by decide) (pd_add (pd_mul (pd_var 1) (pd_pow pd_int pd_int)) pd_int))
  (ss_one (sd_if (td_eq hr.units (pd_mod (pd_var 0) pd_int) pd_int) (ss_one (sd_asg (i := 2) sc_law_any.nd rfl (by first | exact Or.inl rfl | exact Or.inr rfl) (by decide) (pd_neg (pd_var 2)))) ss_nil)))) ss_nil)
  (ss_one (sd_ret (pd_call C_law_low.ok (hr.mono (by decide)) rfl T.g_law_low T.k_law_low C_law_low.bd (ad_cons (pd_var 2) (ad_cons (pd_var 3) ad_nil))))))))))
theorem ok_law {fd : FuncData} (G : Fun K "law" "law" s_law (a 12) fd) (T : Txt K mg a) {fd_law_flow : FuncData} (C_law_flow : Df P w K mg base 1 (a 6) ["_law_script", "_law_many"] (spF K law_flowF) fd_law_flow) {fd_law_any : FuncData} (C_law_any : Df P w K mg base 2 (a 11) ["_law_one", "_law_two"] (spD K law_anyF) fd_law_any) {fd_part_text : FuncData} (C_part_text : Df P w K mg base 1 (a 2) ["a"] (spD K part_textF) fd_part_text) {fd_part_read : FuncData} (C_part_read : Df P w K mg base 4 (a 5) ["text"] (spD K part_readF) fd_part_read) {fd_law_is : FuncData} (C_law_is : Df P w K mg base 3 (a 10) ["_law_found", "_law_due"] (spD K law_isF) fd_law_is) : FnOk P w K mg base CX0 5 (a 12) fd ["_law_script"] (spD K lawF) := by
  refine fnD (O := []) (F := lawB) G sc_law rfl rfl (by decide) (by decide) (fun cdv A outer s H E hr => ?_)
  exact (ss_cons (sd_asg (i := 1) sc_law.nd rfl (by first | exact Or.inl rfl | exact Or.inr rfl) (by decide) (pd_fr (pf_call C_law_flow.ok (hr.mono (by decide)) rfl T.g_law_flow T.k_law_flow C_law_flow.bd (ad_cons (pd_var 0) (ad_cons pd_int ad_nil)))))
  (ss_cons (sd_for PassesOwn.never rfl (by decide) (id_tup (pd_tup (ad_cons pd_int (ad_cons pd_int (ad_cons pd_int ad_nil))))) (pg_name (i := 2) sc_law.nd rfl (by first | exact Or.inl rfl | exact Or.inr rfl)) (ss_cons (sd_asg (i := 3) sc_law.nd rfl (by first | exact Or.inl rfl | exact Or.inr rfl) (by decide) (pd_call C_law_any.ok (hr.mono (by decide)) rfl T.g_law_any T.k_law_any C_law_any.bd (ad_cons (pd_ix (pd_var 1) (pd_var 2)) (ad_cons (pd_ix (pd_var 1) (pd_add (pd_var 2) pd_int)) ad_nil))))
  (ss_cons (sd_asg (i := 4) sc_law.nd rfl (by first | exact Or.inl rfl | exact Or.inr rfl) (by decide) (pd_call C_part_text.ok (hr.mono (by decide)) rfl T.g_part_text T.k_part_text C_part_text.bd (ad_cons (pd_var 3) ad_nil)))
  (ss_cons (sd_if (PW.pt (wd_or (td_not (pt_vald (pd_cb call_isi okc_isi rfl T.b_isinstance (by decide +kernel) (ad_cons (pd_var 4) (ad_cons (pd_ty (t := .str) rfl T.b_str (by decide +kernel)) ad_nil))))) (wd_or1 (td_ne hr.units (pd_var 4) (pd_cat (pd_cat (pd_ct call_str_int okc_str rfl T.b_str (by decide +kernel) (ad_cons (pd_ix (pd_var 3) pd_int) ad_nil)) pd_str) (pd_ct call_str_int okc_str rfl T.b_str (by decide +kernel) (ad_cons (pd_ix (pd_var 3) pd_int) ad_nil))))))) (ss_one (sd_ret pd_bl)) ss_nil)
  (ss_one (sd_if (td_not (pt_vald (pd_call C_law_is.ok (hr.mono (by decide)) rfl T.g_law_is T.k_law_is C_law_is.bd (ad_cons (pd_call C_part_read.ok (hr.mono (by decide)) rfl T.g_part_read T.k_part_read C_part_read.bd (ad_cons (pd_var 4) ad_nil)) (ad_cons (pd_var 3) ad_nil))))) (ss_one (sd_ret pd_bl)) ss_nil))))))
  (ss_one (sd_ret pd_bl))))
end
theorem all_mk {l : PySem.W.OpenLaw} {w : World} {K : PySem.W.Frag} {h : Heap} {mg : Str → Option Value} {fa f0 f1 f2 f3 f4 f5 f6 f7 f8 f9 f10 f11 f12 : Addr} (X : K.In h) (G : h.Ns mainGlobals mg) (hfa : mg "law" = some (.ref fa))
    {qt0 : Tok} {qt1 : Tok}
    {od0 an0 od1 an1 od2 an2 od3 an3 od4 an4 od5 an5 od6 an6 od7 an7 od8 an8 od9 an9 od10 an10 od11 an11 od12 an12 : Option Addr} {sl0 sl1 sl2 sl3 sl4 sl5 sl6 sl7 sl8 sl9 sl10 sl11 sl12 : Array (Option Value)} {oc0 kV0 dc0 pm0 cd0 ct0 oc1 kV1 dc1 pm1 cd1 ct1 oc2 kV2 dc2 pm2 cd2 ct2 oc3 kV3 dc3 pm3 cd3 ct3 oc4 kV4 dc4 pm4 cd4 ct4 oc5 kV5 dc5 pm5 cd5 ct5 oc6 kV6 dc6 pm6 cd6 ct6 oc7 kV7 dc7 pm7 cd7 ct7 oc8 kV8 dc8 pm8 cd8 ct8 oc9 kV9 dc9 pm9 cd9 ct9 oc10 kV10 dc10 pm10 cd10 ct10 oc11 kV11 dc11 pm11 cd11 ct11 oc12 kV12 dc12 pm12 cd12 ct12 : Value}
    (a0 : PySem.W.nsIn K mainGlobals "measure" = some (some (.ref f0)))
    (l0 : K.lookup f0 = some ⟨oc0, od0, .func (PySem.W.fnOf "measure" "measure" (defArgs s_measure) (defBody s_measure) (defScope s_measure) .none kV0 dc0 pm0 an0 cd0 ct0), sl0⟩)
    (c0 : PySem.W.codeIn K cd0 "measure" = true)
    (k0 : PySem.W.keepIn K (.ref f0) = true)
    (a1 : PySem.W.nsIn K mainGlobals "lowest" = some (some (.ref f1)))
    (l1 : K.lookup f1 = some ⟨oc1, od1, .func (PySem.W.fnOf "lowest" "lowest" (defArgs s_lowest) (defBody s_lowest) (defScope s_lowest) .none kV1 dc1 pm1 an1 cd1 ct1), sl1⟩)
    (c1 : PySem.W.codeIn K cd1 "lowest" = true)
    (k1 : PySem.W.keepIn K (.ref f1) = true)
    (a2 : PySem.W.nsIn K mainGlobals "part_text" = some (some (.ref f2)))
    (l2 : K.lookup f2 = some ⟨oc2, od2, .func (PySem.W.fnOf "part_text" "part_text" (defArgs s_part_text) (defBody s_part_text) (defScope s_part_text) .none kV2 dc2 pm2 an2 cd2 ct2), sl2⟩)
    (c2 : PySem.W.codeIn K cd2 "part_text" = true)
    (k2 : PySem.W.keepIn K (.ref f2) = true)
    (a3 : PySem.W.nsIn K mainGlobals "number_read" = some (some (.ref f3)))
    (l3 : K.lookup f3 = some ⟨oc3, od3, .func (PySem.W.fnOf "number_read" "number_read" (defArgs s_number_read) (defBody s_number_read) (defScope s_number_read) .none kV3 dc3 pm3 an3 cd3 ct3), sl3⟩)
    (c3 : PySem.W.codeIn K cd3 "number_read" = true)
    (k3 : PySem.W.keepIn K (.ref f3) = true)
    (a4 : PySem.W.nsIn K mainGlobals "part_within" = some (some (.ref f4)))
    (l4 : K.lookup f4 = some ⟨oc4, od4, .func (PySem.W.fnOf "part_within" "part_within" (defArgs s_part_within) (defBody s_part_within) (defScope s_part_within) .none kV4 dc4 pm4 an4 cd4 ct4), sl4⟩)
    (c4 : PySem.W.codeIn K cd4 "part_within" = true)
    (k4 : PySem.W.keepIn K (.ref f4) = true)
    (a5 : PySem.W.nsIn K mainGlobals "part_read" = some (some (.ref f5)))
    (l5 : K.lookup f5 = some ⟨oc5, od5, .func (PySem.W.fnOf "part_read" "part_read" (defArgs s_part_read) (defBody s_part_read) (defScope s_part_read) .none kV5 dc5 pm5 an5 cd5 ct5), sl5⟩)
    (c5 : PySem.W.codeIn K cd5 "part_read" = true)
    (k5 : PySem.W.keepIn K (.ref f5) = true)
    (a6 : PySem.W.nsIn K mainGlobals "_law_flow" = some (some (.ref f6)))
    (l6 : K.lookup f6 = some ⟨oc6, od6, .func (PySem.W.fnOf "_law_flow" "_law_flow" (defArgs s_law_flow) (defBody s_law_flow) (defScope s_law_flow) .none kV6 dc6 pm6 an6 cd6 ct6), sl6⟩)
    (c6 : PySem.W.codeIn K cd6 "_law_flow" = true)
    (k6 : PySem.W.keepIn K (.ref f6) = true)
    (a7 : PySem.W.nsIn K mainGlobals "_law_whole" = some (some (.ref f7)))
    (l7 : K.lookup f7 = some ⟨oc7, od7, .func (PySem.W.fnOf "_law_whole" "_law_whole" (defArgs s_law_whole) (defBody s_law_whole) (defScope s_law_whole) .none kV7 dc7 pm7 an7 cd7 ct7), sl7⟩)
    (c7 : PySem.W.codeIn K cd7 "_law_whole" = true)
    (k7 : PySem.W.keepIn K (.ref f7) = true)
    (a8 : PySem.W.nsIn K mainGlobals "_law_low" = some (some (.ref f8)))
    (l8 : K.lookup f8 = some ⟨oc8, od8, .func (PySem.W.fnOf "_law_low" "_law_low" (defArgs s_law_low) (defBody s_law_low) (defScope s_law_low) .none kV8 dc8 pm8 an8 cd8 ct8), sl8⟩)
    (c8 : PySem.W.codeIn K cd8 "_law_low" = true)
    (k8 : PySem.W.keepIn K (.ref f8) = true)
    (a9 : PySem.W.nsIn K mainGlobals "_law_part" = some (some (.ref f9)))
    (l9 : K.lookup f9 = some ⟨oc9, od9, .func (PySem.W.fnOf "_law_part" "_law_part" (defArgs s_law_part) (defBody s_law_part) (defScope s_law_part) .none kV9 dc9 pm9 an9 cd9 ct9), sl9⟩)
    (c9 : PySem.W.codeIn K cd9 "_law_part" = true)
    (k9 : PySem.W.keepIn K (.ref f9) = true)
    (a10 : PySem.W.nsIn K mainGlobals "_law_is" = some (some (.ref f10)))
    (l10 : K.lookup f10 = some ⟨oc10, od10, .func (PySem.W.fnOf "_law_is" "_law_is" (defArgs s_law_is) (defBody s_law_is) (defScope s_law_is) .none kV10 dc10 pm10 an10 cd10 ct10), sl10⟩)
    (c10 : PySem.W.codeIn K cd10 "_law_is" = true)
    (k10 : PySem.W.keepIn K (.ref f10) = true)
    (a11 : PySem.W.nsIn K mainGlobals "_law_any" = some (some (.ref f11)))
    (l11 : K.lookup f11 = some ⟨oc11, od11, .func (PySem.W.fnOf "_law_any" "_law_any" (defArgs s_law_any) (defBody s_law_any) (defScope s_law_any) .none kV11 dc11 pm11 an11 cd11 ct11), sl11⟩)
    (c11 : PySem.W.codeIn K cd11 "_law_any" = true)
    (k11 : PySem.W.keepIn K (.ref f11) = true)
    (a12 : PySem.W.nsIn K mainGlobals "law" = some (some (.ref f12)))
    (l12 : K.lookup f12 = some ⟨oc12, od12, .func (PySem.W.fnOf "law" "law" (defArgs s_law) (defBody s_law) (defScope s_law) .none kV12 dc12 pm12 an12 cd12 ct12), sl12⟩)
    (c12 : PySem.W.codeIn K cd12 "law" = true)
    (k12 : PySem.W.keepIn K (.ref f12) = true)
    (z_abs : PySem.W.nsIn K mainGlobals "abs" = some none)
    (z_bool : PySem.W.nsIn K mainGlobals "bool" = some none)
    (z_int : PySem.W.nsIn K mainGlobals "int" = some none)
    (z_isinstance : PySem.W.nsIn K mainGlobals "isinstance" = some none)
    (z_len : PySem.W.nsIn K mainGlobals "len" = some none)
    (z_range : PySem.W.nsIn K mainGlobals "range" = some none)
    (z_str : PySem.W.nsIn K mainGlobals "str" = some none)
    (z_tuple : PySem.W.nsIn K mainGlobals "tuple" = some none)
    (v_FIGURES : PySem.W.nsIn K mainGlobals "FIGURES" = some (some (.str "0123456789" qt0)))
    (v_MOST_FIGURES : PySem.W.nsIn K mainGlobals "MOST_FIGURES" = some (some (.int 400 qt1)))
    : ∃ fd : FuncData, (∀ (s : Shared) (v : Value), BindsTo s fd ⟨[v], []⟩ [("_law_script", v)]) ∧ ∀ base : Heap, K.In base → base.Ns mainGlobals mg → FnOk l.prog w K mg base CX0 5 fa fd ["_law_script"] (spD K lawF) := by
  have e := hfa.symm.trans (PySem.W.mg_of X G a12)
  cases e
  have T : Txt K mg (fun i => [f0, f1, f2, f3, f4, f5, f6, f7, f8, f9, f10, f11, fa, 0, 0].getD i 0) := ⟨PySem.W.mg_of X G a0, k0, PySem.W.mg_of X G a1, k1, PySem.W.mg_of X G a2, k2, PySem.W.mg_of X G a3, k3, PySem.W.mg_of X G a4, k4, PySem.W.mg_of X G a5, k5, PySem.W.mg_of X G a6, k6, PySem.W.mg_of X G a7, k7, PySem.W.mg_of X G a8, k8, PySem.W.mg_of X G a9, k9, PySem.W.mg_of X G a10, k10, PySem.W.mg_of X G a11, k11, PySem.W.mg_of X G a12, k12, PySem.W.mg_none_of X G z_abs, PySem.W.mg_none_of X G z_bool, PySem.W.mg_none_of X G z_int, PySem.W.mg_none_of X G z_isinstance, PySem.W.mg_none_of X G z_len, PySem.W.mg_none_of X G z_range, PySem.W.mg_none_of X G z_str, PySem.W.mg_none_of X G z_tuple, ⟨_, PySem.W.mg_of X G v_FIGURES, ⟨_, rfl⟩⟩, fun _ => .str _, ⟨_, PySem.W.mg_of X G v_MOST_FIGURES, ⟨_, rfl⟩⟩, fun _ => .int _⟩
  have G0 := fun_mk (st := s_measure) l0 c0 k0
  have B0 := G0.binds (ps := ["one", "other"]) fun _ _ _ _ _ _ us hl => match us, hl with | [_, _], _ => rfl
  have G1 := fun_mk (st := s_lowest) l1 c1 k1
  have B1 := G1.binds (ps := ["top", "bottom"]) fun _ _ _ _ _ _ us hl => match us, hl with | [_, _], _ => rfl
  have G2 := fun_mk (st := s_part_text) l2 c2 k2
  have B2 := G2.binds (ps := ["a"]) fun _ _ _ _ _ _ us hl => match us, hl with | [_], _ => rfl
  have G3 := fun_mk (st := s_number_read) l3 c3 k3
  have B3 := G3.binds (ps := ["word"]) fun _ _ _ _ _ _ us hl => match us, hl with | [_], _ => rfl
  have G4 := fun_mk (st := s_part_within) l4 c4 k4
  have B4 := G4.binds (ps := ["text", "most"]) fun _ _ _ _ _ _ us hl => match us, hl with | [_, _], _ => rfl
  have G5 := fun_mk (st := s_part_read) l5 c5 k5
  have B5 := G5.binds (ps := ["text"]) fun _ _ _ _ _ _ us hl => match us, hl with | [_], _ => rfl
  have G6 := fun_mk (st := s_law_flow) l6 c6 k6
  have B6 := G6.binds (ps := ["_law_script", "_law_many"]) fun _ _ _ _ _ _ us hl => match us, hl with | [_, _], _ => rfl
  have G7 := fun_mk (st := s_law_whole) l7 c7 k7
  have B7 := G7.binds (ps := ["_law_found"]) fun _ _ _ _ _ _ us hl => match us, hl with | [_], _ => rfl
  have G8 := fun_mk (st := s_law_low) l8 c8 k8
  have B8 := G8.binds (ps := ["_law_top", "_law_bottom"]) fun _ _ _ _ _ _ us hl => match us, hl with | [_, _], _ => rfl
  have G9 := fun_mk (st := s_law_part) l9 c9 k9
  have B9 := G9.binds (ps := ["_law_found"]) fun _ _ _ _ _ _ us hl => match us, hl with | [_], _ => rfl
  have G10 := fun_mk (st := s_law_is) l10 c10 k10
  have B10 := G10.binds (ps := ["_law_found", "_law_due"]) fun _ _ _ _ _ _ us hl => match us, hl with | [_, _], _ => rfl
  have G11 := fun_mk (st := s_law_any) l11 c11 k11
  have B11 := G11.binds (ps := ["_law_one", "_law_two"]) fun _ _ _ _ _ _ us hl => match us, hl with | [_, _], _ => rfl
  have G12 := fun_mk (st := s_law) l12 c12 k12
  refine ⟨PySem.W.fnOf "law" "law" (defArgs s_law) (defBody s_law) (defScope s_law) .none kV12 dc12 pm12 an12 cd12 ct12, fun s v => .of_eq rfl, fun base _ _ => ?_⟩
  have D0 : Df l.prog w K mg base 1 _ ["one", "other"] (spD K measureF) _ := ⟨ok_measure (a := fun i => [f0, f1, f2, f3, f4, f5, f6, f7, f8, f9, f10, f11, fa, 0, 0].getD i 0) G0 T, B0⟩
  have D2 : Df l.prog w K mg base 1 _ ["a"] (spD K part_textF) _ := ⟨ok_part_text (a := fun i => [f0, f1, f2, f3, f4, f5, f6, f7, f8, f9, f10, f11, fa, 0, 0].getD i 0) G2 T, B2⟩
  have D3 : Df l.prog w K mg base 1 _ ["word"] (spD K number_readF) _ := ⟨ok_number_read (a := fun i => [f0, f1, f2, f3, f4, f5, f6, f7, f8, f9, f10, f11, fa, 0, 0].getD i 0) G3 T, B3⟩
  have D6 : Df l.prog w K mg base 1 _ ["_law_script", "_law_many"] (spF K law_flowF) _ := ⟨ok_law_flow (a := fun i => [f0, f1, f2, f3, f4, f5, f6, f7, f8, f9, f10, f11, fa, 0, 0].getD i 0) G6 T, B6⟩
  have D7 : Df l.prog w K mg base 1 _ ["_law_found"] (spD K law_wholeF) _ := ⟨ok_law_whole (a := fun i => [f0, f1, f2, f3, f4, f5, f6, f7, f8, f9, f10, f11, fa, 0, 0].getD i 0) G7 T, B7⟩
  have D8 : Df l.prog w K mg base 1 _ ["_law_top", "_law_bottom"] (spD K law_lowF) _ := ⟨ok_law_low (a := fun i => [f0, f1, f2, f3, f4, f5, f6, f7, f8, f9, f10, f11, fa, 0, 0].getD i 0) G8 T, B8⟩
  have D1 : Df l.prog w K mg base 2 _ ["top", "bottom"] (spD K lowestF) _ := ⟨ok_lowest (a := fun i => [f0, f1, f2, f3, f4, f5, f6, f7, f8, f9, f10, f11, fa, 0, 0].getD i 0) G1 T (C_measure := D0), B1⟩
  have D9 : Df l.prog w K mg base 2 _ ["_law_found"] (spD K law_partF) _ := ⟨ok_law_part (a := fun i => [f0, f1, f2, f3, f4, f5, f6, f7, f8, f9, f10, f11, fa, 0, 0].getD i 0) G9 T (C_law_whole := D7), B9⟩
  have D11 : Df l.prog w K mg base 2 _ ["_law_one", "_law_two"] (spD K law_anyF) _ := ⟨ok_law_any (a := fun i => [f0, f1, f2, f3, f4, f5, f6, f7, f8, f9, f10, f11, fa, 0, 0].getD i 0) G11 T (C_law_low := D8), B11⟩
  have D4 : Df l.prog w K mg base 3 _ ["text", "most"] (spD K part_withinF) _ := ⟨ok_part_within (a := fun i => [f0, f1, f2, f3, f4, f5, f6, f7, f8, f9, f10, f11, fa, 0, 0].getD i 0) G4 T (C_number_read := D3) (C_lowest := D1), B4⟩
  have D10 : Df l.prog w K mg base 3 _ ["_law_found", "_law_due"] (spD K law_isF) _ := ⟨ok_law_is (a := fun i => [f0, f1, f2, f3, f4, f5, f6, f7, f8, f9, f10, f11, fa, 0, 0].getD i 0) G10 T (C_law_part := D9), B10⟩
  have D5 : Df l.prog w K mg base 4 _ ["text"] (spD K part_readF) _ := ⟨ok_part_read (a := fun i => [f0, f1, f2, f3, f4, f5, f6, f7, f8, f9, f10, f11, fa, 0, 0].getD i 0) G5 T (C_part_within := D4), B5⟩
  exact ok_law (a := fun i => [f0, f1, f2, f3, f4, f5, f6, f7, f8, f9, f10, f11, fa, 0, 0].getD i 0) G12 T (C_law_flow := D6) (C_law_any := D11) (C_part_text := D2) (C_part_read := D5) (C_law_is := D10)
theorem ints_dns {K : PySem.W.Frag} {H : Hp} : ∀ ns : List Int, Dns K H (ns.map V.int) (ns.map D.int)
  | [] => .nil
  | n :: r => .cons (.int n) (ints_dns r)
theorem walk {l : PySem.W.OpenLaw} {q : Program} {loose : List Str} {XP : (Str → Option Value) → Heap → Prop} {YP : World → Heap → Prop} {d : DefRec} {K : Params → PySem.W.Frag} (hn : l.most = some 63) (hdf : d.params.defaults = [])
    (hY : ∀ (w : World) (h : Heap), YP w h → (K w.params).In h)
    (F : ∀ (w : World) (mg : Str → Option Value) (fa : Addr) (h : Heap), (K w.params).In h → h.Ns mainGlobals mg → mg d.name = some (.ref fa) →
      ∃ fd : FuncData, (∀ (s : Shared) (u : Value), BindsTo s fd ⟨[u], []⟩ [("_law_script", u)]) ∧ ∀ base : Heap, (K w.params).In base → base.Ns mainGlobals mg → FnOk l.prog w (K w.params) mg base CX0 5 fa fd ["_law_script"] (spD (K w.params) lawF)) :
    PySem.W.WalkO q loose XP YP l.row.toRowW d [] (fun f vs => PySem.call f vs) :=
  L2.walk_of (n := 63) (k := 5) (x := "_law_script") (CX := fun _ => CX0) (sp := fun w => spD (K w.params) lawF) hn (by decide) hdf ⟨rfl, by decide, by decide⟩ hY F
    (fun _ H a ns hl _ hS => ⟨H, [.lst (ns.map D.int)], .bl true, .refl _, .cons (.lst hS (ints_dns ns)) .nil, law_true ns hl, fun v H' ⟨_, _, q⟩ => by cases q; rfl⟩) fun _ _ _ _ _ z => z
end L_k04
open PySem PySem.W PyProof.Rows
set_option maxRecDepth 100000 in
set_option maxHeartbeats 0 in
theorem PySem.Challenge.cw_ditchturn_k04_parts_written_holds : PySem.Challenge.rw_ditchturn_k04_parts_written.Holds := by
  w_on; o_law; k_head; (case hw => w_witness2)
  k_fill
  refine L_k04.walk (l := PySem.Challenge.rw_ditchturn_k04_parts_written) rfl rfl (fun w h Y => PySem.W.kIn_of Y) ?F
  case F =>
    intro w mg fa h KX G hmg
    refine' L_k04.all_mk KX G hmg ?a0 ?l0 ?c0 ?k0 ?a1 ?l1 ?c1 ?k1 ?a2 ?l2 ?c2 ?k2 ?a3 ?l3 ?c3 ?k3 ?a4 ?l4 ?c4 ?k4 ?a5 ?l5 ?c5 ?k5 ?a6 ?l6 ?c6 ?k6 ?a7 ?l7 ?c7 ?k7 ?a8 ?l8 ?c8 ?k8 ?a9 ?l9 ?c9 ?k9 ?a10 ?l10 ?c10 ?k10 ?a11 ?l11 ?c11 ?k11 ?a12 ?l12 ?c12 ?k12 ?z_abs ?z_bool ?z_int ?z_isinstance ?z_len ?z_range ?z_str ?z_tuple ?v_FIGURES ?v_MOST_FIGURES
    (case a0 => k_is)
    (case l0 => k_is)
    (case c0 => k_is)
    (case k0 => k_is)
    (case a1 => k_is)
    (case l1 => k_is)
    (case c1 => k_is)
    (case k1 => k_is)
    (case a2 => k_is)
    (case l2 => k_is)
    (case c2 => k_is)
    (case k2 => k_is)
    (case a3 => k_is)
    (case l3 => k_is)
    (case c3 => k_is)
    (case k3 => k_is)
    (case a4 => k_is)
    (case l4 => k_is)
    (case c4 => k_is)
    (case k4 => k_is)
    (case a5 => k_is)
    (case l5 => k_is)
    (case c5 => k_is)
    (case k5 => k_is)
    (case a6 => k_is)
    (case l6 => k_is)
    (case c6 => k_is)
    (case k6 => k_is)
    (case a7 => k_is)
    (case l7 => k_is)
    (case c7 => k_is)
    (case k7 => k_is)
    (case a8 => k_is)
    (case l8 => k_is)
    (case c8 => k_is)
    (case k8 => k_is)
    (case a9 => k_is)
    (case l9 => k_is)
    (case c9 => k_is)
    (case k9 => k_is)
    (case a10 => k_is)
    (case l10 => k_is)
    (case c10 => k_is)
    (case k10 => k_is)
    (case a11 => k_is)
    (case l11 => k_is)
    (case c11 => k_is)
    (case k11 => k_is)
    (case a12 => k_is)
    (case l12 => k_is)
    (case c12 => k_is)
    (case k12 => k_is)
    (case z_abs => k_is)
    (case z_bool => k_is)
    (case z_int => k_is)
    (case z_isinstance => k_is)
    (case z_len => k_is)
    (case z_range => k_is)
    (case z_str => k_is)
    (case z_tuple => k_is)
    (case v_FIGURES => k_is)
    (case v_MOST_FIGURES => k_is)
#print axioms PySem.Challenge.cw_ditchturn_k04_parts_written_holds
