import PyProof.Rows.All
import Wide.All
import OpenK.AllK
import Wide.FinOn
import HandS.ForMost
import HandS.Wide
import HandS.IsInst
import HandS.Codes
import HandS.ForExc
import HandS.TryOnly
import HandS.TryMany
import HandS.TryElse
import HandS.SuiteRaise
import HandS.RaiseFrom
import HandS.RaiseMore
import HandS.ExcOwn
import HandS.ExcField
import HandS.ExcInit
import HandS.ExcIs
import HandS.ClsMeth
import HandS.CallRecv
import HandS.Remove
import HandS.Rev
import HandS.FStr
import HandS.StrMore
import HandS.Flow
import HandS.Conv
import HandS.NoneIn
import HandS.DictEq
import HandS.TupAny
import HandS.ListEq
import HandS.RepeatKit
import HandS.Deep
import HandS.WordsDict
import HandS.SetFor
import HandS.Zip
import HandS.HotCalls
import HandS.TupLe
import PySem.Challenge.RW_ditchturn_k17_whole_foe_wins
set_option Elab.async false
set_option linter.all false
set_option maxRecDepth 100000
set_option maxHeartbeats 4000000
/-! PD: programs over plain data. A reading of the hand layer, told by functions on data. -/
namespace PD
open PySem L2

/-! ### data -/
/-- the built-in types that isinstance is asked of -/
inductive Tk where
  | int | bool | str | tuple | list | dict
  deriving DecidableEq
def Tk.nm : Tk → String
  | .int => "int" | .bool => "bool" | .str => "str" | .tuple => "tuple" | .list => "list" | .dict => "dict"
inductive D where
  | ty (t : Tk)
  | non | bl (b : Bool) | int (i : Int) | str (x : Str)
  | tup (ds : List D) | lst (ds : List D)
  | dic (kvs : List (Key × D)) | ins (C : Addr) (fs : List (Str × D))
  | ob (a : Addr)

theorem sameR {H H' : Hp} {a : Addr} {u : HO} (e : Same H H') (h : Rd H a u) : Rd H' a u := by
  rcases h with h | ⟨o, h⟩
  · exact .inl (e _ _ h)
  · exact .inr ⟨o, e _ _ h⟩
theorem sameL {K : PySem.W.Frag} {H H' : Hp} {a : Addr} {xs : List V} (e : Same H H') (h : SqL K H a xs) : SqL K H' a xs := by
  rcases h with h | h
  · exact .inl (sameR e h)
  · exact .inr h
theorem sameT {K : PySem.W.Frag} {H H' : Hp} {a : Addr} {xs : List V} (e : Same H H') (h : SqT K H a xs) : SqT K H' a xs := by
  rcases h with h | h
  · exact .inl (sameR e h)
  · exact .inr h
theorem sameNew {H : Hp} {p : Addr} {o : HO} (h : H p = none) : Same H (upd H p o) := fun a u e => by
  rw [upd_ne (ne_of_none e h)]
  exact e
theorem sameMut {H H' : Hp} {p : Addr} {o : HO} (e : Same H H') (h : H p = none) : Same H (upd H' p o) := fun a u ha => by
  rw [upd_ne (ne_of_none ha h)]
  exact e a u ha

mutual
inductive Dn (K : PySem.W.Frag) (H : Hp) : V → D → Prop
  | ty (t : Tk) : Dn K H (.ty t.nm) (.ty t)
  | non : Dn K H .non .non
  | bl (b : Bool) : Dn K H (.bl b) (.bl b)
  | int (i : Int) : Dn K H (.int i) (.int i)
  | str (x : Str) : Dn K H (.str x) (.str x)
  | tup {a : Addr} {vs : List V} {ds : List D} : SqT K H a vs → Dns K H vs ds → Dn K H (.ref a) (.tup ds)
  | lst {a : Addr} {vs : List V} {ds : List D} : SqL K H a vs → Dns K H vs ds → Dn K H (.ref a) (.lst ds)
  | dic {a : Addr} {kvs : List (Key × V)} {ds : List (Key × D)} : H a = some (.dK kvs) → Dks K H kvs ds → Dn K H (.ref a) (.dic ds)
  | ins {a C dx : Addr} {fs : List (Str × V)} {ds : List (Str × D)} : H a = some (.ins C dx fs) → Dfs K H fs ds → Dn K H (.ref a) (.ins C ds)
  | ob (a : Addr) : Dn K H (.ref a) (.ob a)
inductive Dns (K : PySem.W.Frag) (H : Hp) : List V → List D → Prop
  | nil : Dns K H [] []
  | cons {v : V} {d : D} {vs : List V} {ds : List D} : Dn K H v d → Dns K H vs ds → Dns K H (v :: vs) (d :: ds)
inductive Dks (K : PySem.W.Frag) (H : Hp) : List (Key × V) → List (Key × D) → Prop
  | nil : Dks K H [] []
  | cons {k : Key} {v : V} {d : D} {vs : List (Key × V)} {ds : List (Key × D)} : Dn K H v d → Dks K H vs ds → Dks K H ((k, v) :: vs) ((k, d) :: ds)
inductive Dfs (K : PySem.W.Frag) (H : Hp) : List (Str × V) → List (Str × D) → Prop
  | nil : Dfs K H [] []
  | cons {k : Str} {v : V} {d : D} {vs : List (Str × V)} {ds : List (Str × D)} : Dn K H v d → Dfs K H vs ds → Dfs K H ((k, v) :: vs) ((k, d) :: ds)
end

section
variable {K : PySem.W.Frag} {H H' : Hp}
mutual
theorem Dn.mono (e : Same H H') : ∀ {v : V} {d : D}, Dn K H v d → Dn K H' v d
  | _, _, .ty t => .ty t
  | _, _, .non => .non
  | _, _, .bl b => .bl b
  | _, _, .int i => .int i
  | _, _, .str x => .str x
  | _, _, .tup h r => .tup (sameT e h) (Dns.mono e r)
  | _, _, .lst h r => .lst (sameL e h) (Dns.mono e r)
  | _, _, .dic h r => .dic (e _ _ h) (Dks.mono e r)
  | _, _, .ins h r => .ins (e _ _ h) (Dfs.mono e r)
  | _, _, .ob a => .ob a
theorem Dns.mono (e : Same H H') : ∀ {v : List V} {d : List D}, Dns K H v d → Dns K H' v d
  | _, _, .nil => .nil
  | _, _, .cons h r => .cons (Dn.mono e h) (Dns.mono e r)
theorem Dks.mono (e : Same H H') : ∀ {v : List (Key × V)} {d : List (Key × D)}, Dks K H v d → Dks K H' v d
  | _, _, .nil => .nil
  | _, _, .cons h r => .cons (Dn.mono e h) (Dks.mono e r)
theorem Dfs.mono (e : Same H H') : ∀ {v : List (Str × V)} {d : List (Str × D)}, Dfs K H v d → Dfs K H' v d
  | _, _, .nil => .nil
  | _, _, .cons h r => .cons (Dn.mono e h) (Dfs.mono e r)
end
theorem Dns.length : ∀ {vs : List V} {ds : List D}, Dns K H vs ds → vs.length = ds.length
  | _, _, .nil => rfl
  | _, _, .cons _ r => by rw [List.length_cons, List.length_cons, Dns.length r]
theorem Dns.get : ∀ {vs : List V} {ds : List D} {i : Nat} {d : D}, Dns K H vs ds → ds[i]? = some d → ∃ v, vs[i]? = some v ∧ Dn K H v d
  | _, _, _, _, .nil, e => by simp at e
  | _, _, 0, _, .cons h _, e => by simp at e; subst e; exact ⟨_, rfl, h⟩
  | _, _, i + 1, _, .cons _ r, e => by
    obtain ⟨v, h1, h2⟩ := Dns.get (i := i) r (by simpa using e)
    exact ⟨v, by simpa using h1, h2⟩
theorem Dns.get' {vs : List V} {ds : List D} {i : Nat} {v : V} (r : Dns K H vs ds) (e : vs[i]? = some v) : ∃ d, ds[i]? = some d ∧ Dn K H v d := by
  have h1 : i < vs.length := by
    rcases List.getElem?_eq_some_iff.mp e with ⟨h, _⟩
    exact h
  have h2 : i < ds.length := by rw [← r.length]; exact h1
  obtain ⟨v', e', q⟩ := r.get (List.getElem?_eq_getElem h2)
  rw [e] at e'; cases e'
  exact ⟨_, List.getElem?_eq_getElem h2, q⟩
theorem Dns.append : ∀ {vs ws : List V} {ds es : List D}, Dns K H vs ds → Dns K H ws es → Dns K H (vs ++ ws) (ds ++ es)
  | _, _, _, _, .nil, q => q
  | _, _, _, _, .cons h r, q => .cons h (Dns.append r q)
theorem Dns.set : ∀ {vs : List V} {ds : List D} {v : V} {d : D} (i : Nat), Dns K H vs ds → Dn K H v d → Dns K H (vs.set i v) (ds.set i d)
  | _, _, _, _, _, .nil, _ => .nil
  | _, _, _, _, 0, .cons _ r, q => .cons q r
  | _, _, _, _, i + 1, .cons h r, q => .cons h (Dns.set i r q)
theorem Dns.take : ∀ {vs : List V} {ds : List D} (n : Nat), Dns K H vs ds → Dns K H (vs.take n) (ds.take n)
  | _, _, 0, _ => by simp; exact .nil
  | _, _, _ + 1, .nil => by simp; exact .nil
  | _, _, n + 1, .cons h r => .cons h (Dns.take n r)
theorem Dns.drop : ∀ {vs : List V} {ds : List D} (n : Nat), Dns K H vs ds → Dns K H (vs.drop n) (ds.drop n)
  | _, _, 0, r => r
  | _, _, _ + 1, .nil => .nil
  | _, _, n + 1, .cons _ r => Dns.drop n r
end

/-! ### the slots -/
abbrev En := List (Option D)
def eV (i : Nat) (ρ : En) : Option D := ρ.getD i none
theorem eV_some {i : Nat} {ρ : En} {d : D} (h : eV i ρ = some d) : ρ[i]? = some (some d) := by
  unfold eV at h
  rw [List.getD_eq_getElem?_getD] at h
  cases e : ρ[i]? with
  | none => rw [e] at h; cases h
  | some o => rw [e] at h; exact congrArg some h

/-- the view Hv is a part of H in which data is told; all slots that ρ tells -/
structure EOk (K : PySem.W.Frag) (Hv : Hp) (σ : St) (ρ : En) : Prop where
  len : σ.length = ρ.length
  at_ : ∀ (i : Nat) (d : D), ρ[i]? = some (some d) → ∃ v, σ[i]? = some (some v) ∧ Dn K Hv v d
theorem EOk.mono {K : PySem.W.Frag} {H H' : Hp} {σ : St} {ρ : En} (h : EOk K H σ ρ) (e : Same H H') : EOk K H' σ ρ :=
  ⟨h.len, fun i d q => let ⟨v, a, b⟩ := h.at_ i d q; ⟨v, a, b.mono e⟩⟩

/-- what may change: a list, a dict -/
def Mb : HO → Bool
  | .lst _ => true
  | .dK _ => true
  | .ins _ _ _ => true
  | _ => false
structure Stp (H Hv H' Hv' : Hp) : Prop where
  a : Same H H'
  b : Same Hv Hv'
  c : Same Hv' H'
  h : ∀ p o, Mb o = true → H p = some o → Hv p = none → Hv' p = none
theorem Stp.refl {H Hv : Hp} (e : Same Hv H) : Stp H Hv H Hv := ⟨.refl _, .refl _, e, fun _ _ _ _ n => n⟩
theorem Stp.trans {H Hv H1 Hv1 H2 Hv2 : Hp} (x : Stp H Hv H1 Hv1) (y : Stp H1 Hv1 H2 Hv2) : Stp H Hv H2 Hv2 :=
  ⟨x.a.trans y.a, x.b.trans y.b, y.c, fun p o m q n => y.h p o m (x.a _ _ q) (x.h p o m q n)⟩
/-- a new object, told -/
theorem Stp.new {H Hv : Hp} {p : Addr} {o : HO} (e : Same Hv H) (n : H p = none) : Stp H Hv (upd H p o) (upd Hv p o) := by
  have nv : Hv p = none := e.free n
  refine ⟨sameNew n, sameNew nv, fun a u q => ?_, fun q o' m hq n' => ?_⟩
  · by_cases h : a = p
    · subst h; rw [upd_same] at q ⊢; exact q
    · rw [upd_ne h] at q ⊢; exact e _ _ q
  · rw [upd_ne (ne_of_none hq n)]; exact n'
/-- a new object, not told -/
theorem Stp.newH {H Hv : Hp} {p : Addr} {o : HO} (e : Same Hv H) (n : H p = none) : Stp H Hv (upd H p o) Hv :=
  ⟨sameNew n, .refl _, sameMut e (e.free n), fun _ _ _ _ n' => n'⟩

/-! ### readings by functions -/
def rdE (K : PySem.W.Frag) (f : En → Option D) : TE := fun σ H Q => ∃ (Hv : Hp) (ρ : En) (d : D), Same Hv H ∧ EOk K Hv σ ρ ∧ f ρ = some d ∧ ∀ v H' Hv', Stp H Hv H' Hv' → Dn K Hv' v d → Q v H'
def rdT (K : PySem.W.Frag) (f : En → Option Bool) : TT := fun σ H Q => ∃ (Hv : Hp) (ρ : En) (b : Bool), Same Hv H ∧ EOk K Hv σ ρ ∧ f ρ = some b ∧ ∀ H' Hv', Stp H Hv H' Hv' → Q b H'
def rdA (K : PySem.W.Frag) (f : En → Option (List D)) : TA := fun σ H Q => ∃ (Hv : Hp) (ρ : En) (ds : List D), Same Hv H ∧ EOk K Hv σ ρ ∧ f ρ = some ds ∧ ∀ vs H' Hv', Stp H Hv H' Hv' → Dns K Hv' vs ds → Q vs H'
/-- a new list -/
def rdF (K : PySem.W.Frag) (f : En → Option (List D)) : TE := fun σ H Q => ∃ (Hv : Hp) (ρ : En) (ds : List D), Same Hv H ∧ EOk K Hv σ ρ ∧ f ρ = some ds ∧
  ∀ p vs H' Hv', Stp H Hv H' Hv' → H p = none → Hv' p = none → H' p = some (.lst vs) → Dns K Hv' vs ds → Q (.ref p) H'
section
variable {X : Cx}
theorem pe_imp {e : Expr} {t t' : TE} (h : PE X e t) (i : ∀ σ H Q, t' σ H Q → t σ H Q) : PE X e t' := ⟨fun pins s σ H Q I w => h.run pins s σ H Q I (i σ H Q w)⟩
theorem pt_imp {e : Expr} {t t' : TT} (h : PT X e t) (i : ∀ σ H Q, t' σ H Q → t σ H Q) : PT X e t' := ⟨fun pins s σ H Q I w => h.run pins s σ H Q I (i σ H Q w)⟩
theorem pw_imp {e : Expr} {t t' : TT} (h : PW X e t) (i : ∀ σ H Q, t' σ H Q → t σ H Q) : PW X e t' := ⟨fun wh pins s σ H Q I w => h.run wh pins s σ H Q I (i σ H Q w)⟩
theorem pa_imp {e : List Expr} {t t' : TA} (h : PA X e t) (i : ∀ σ H Q, t' σ H Q → t σ H Q) : PA X e t' := ⟨fun pos pins s σ H Q I w => h.run pos pins s σ H Q I (i σ H Q w)⟩
theorem ps_imp {e : Stmt} {t t' : TS} (h : PS X e t) (i : ∀ D σ H, t' D σ H → t D σ H) : PS X e t' := ⟨fun pins s σ H D I w => h.run pins s σ H D I (i D σ H w)⟩
theorem pss_imp {e : List Stmt} {t t' : TS} (h : PSs X e t) (i : ∀ D σ H, t' D σ H → t D σ H) : PSs X e t' := ⟨fun pins s σ H D I w => h.run pins s σ H D I (i D σ H w)⟩

/-! ### names, constants -/
def eC (d : D) (_ : En) : Option D := some d
theorem rd_var {K : PySem.W.Frag} {i : Nat} {σ : St} {H : Hp} {Q : VK} (h : rdE K (eV i) σ H Q) : tVar i σ H Q := by
  obtain ⟨Hv, ρ, d, e, ok, f, k⟩ := h
  obtain ⟨v, h1, h2⟩ := ok.at_ i d (eV_some f)
  exact ⟨v, h1, k v H Hv (.refl e) h2⟩
theorem rd_c {K : PySem.W.Frag} {v : V} {d : D} (hd : ∀ H, Dn K H v d) {σ : St} {H : Hp} {Q : VK} (h : rdE K (eC d) σ H Q) : tC v σ H Q := by
  obtain ⟨Hv, ρ, d', e, ok, f, k⟩ := h
  cases f
  exact k v H Hv (.refl e) (hd _)
theorem pd_var (i : Nat) {x : Str} {pos : Pos} (hN : X.N[i]? = some x := by rfl) (hv : Vis X.env.scope x := by first | exact Or.inl rfl | exact Or.inr (Or.inl rfl) | exact Or.inr (Or.inr rfl)) (hd : (x == ("__debug__" : Str)) = false := by decide)
    (hcd : (x == ("__classdict__" : Str)) = false := by decide) : PE X (.Name x pos) (rdE X.K (eV i)) := pe_imp (pe_var hN hv hd hcd) fun _ _ _ => rd_var
theorem pd_int {i j pos} : PE X (.Constant (.int i) j pos) (rdE X.K (eC (.int i))) := pe_imp pe_int fun _ _ _ => rd_c fun _ => .int i
theorem pd_bl {i j pos} : PE X (.Constant (.bool i) j pos) (rdE X.K (eC (.bl i))) := pe_imp pe_bl fun _ _ _ => rd_c fun _ => .bl i
theorem pd_non {j pos} : PE X (.Constant .none j pos) (rdE X.K (eC .non)) := pe_imp pe_non fun _ _ _ => rd_c fun _ => .non
theorem pd_str {i j pos} : PE X (.Constant (.str i) j pos) (rdE X.K (eC (.str i))) := pe_imp pe_str fun _ _ _ => rd_c fun _ => .str i
/-- a module's constant -/
theorem pd_glob {x : Str} {v : V} {u : Value} {d : D} {pos : Pos} (hg : Gl X x) (hm : X.mg x = some u) (r : RelV v u) (hd : ∀ H, Dn X.K H v d) (hb : (x == ("__debug__" : Str)) = false := by decide) : PE X (.Name x pos) (rdE X.K (eC d)) :=
  pe_imp (pe_glob hg hm r hb) fun _ _ _ => rd_c hd

/-! ### operators -/
def e2 (g : D → D → Option D) (f1 f2 : En → Option D) (ρ : En) : Option D := (f1 ρ).bind fun a => (f2 ρ).bind fun b => g a b
def e1 (g : D → Option D) (f1 : En → Option D) (ρ : En) : Option D := (f1 ρ).bind g
/-- an operator's reading by values does what g says -/
def Ok2 (K : PySem.W.Frag) (r : R2) (g : D → D → Option D) : Prop := ∀ H Hv x y a b d (Q : VK), Same Hv H → Dn K Hv x a → Dn K Hv y b → g a b = some d → (∀ v H' Hv', Stp H Hv H' Hv' → Dn K Hv' v d → Q v H') → r x y H Q
def Ok1 (K : PySem.W.Frag) (r : V → Hp → VK → Prop) (g : D → Option D) : Prop := ∀ H Hv x a d (Q : VK), Same Hv H → Dn K Hv x a → g a = some d → (∀ v H' Hv', Stp H Hv H' Hv' → Dn K Hv' v d → Q v H') → r x H Q
theorem rd_op {K : PySem.W.Frag} {r : R2} {g : D → D → Option D} {f1 f2 : En → Option D} (ok : Ok2 K r g) {σ : St} {H : Hp} {Q : VK} (h : rdE K (e2 g f1 f2) σ H Q) : tOp r (rdE K f1) (rdE K f2) σ H Q := by
  obtain ⟨Hv, ρ, d, e, en, f, k⟩ := h
  unfold e2 at f
  cases h1 : f1 ρ with
  | none => rw [h1] at f; cases f
  | some a =>
    cases h2 : f2 ρ with
    | none => rw [h1, h2] at f; cases f
    | some b =>
      rw [h1, h2] at f
      refine ⟨Hv, ρ, a, e, en, h1, fun v1 H1 Hv1 s1 d1 => ?_⟩
      refine ⟨Hv1, ρ, b, s1.c, en.mono s1.b, h2, fun v2 H2 Hv2 s2 d2 => ?_⟩
      exact ok H2 Hv2 v1 v2 a b d Q s2.c (d1.mono s2.b) d2 f fun v H' Hv' s3 d3 => k v H' Hv' ((s1.trans s2).trans s3) d3
theorem rd_un {K : PySem.W.Frag} {r : V → Hp → VK → Prop} {g : D → Option D} {f1 : En → Option D} (ok : Ok1 K r g) {σ : St} {H : Hp} {Q : VK} (h : rdE K (e1 g f1) σ H Q) : tUn r (rdE K f1) σ H Q := by
  obtain ⟨Hv, ρ, d, e, en, f, k⟩ := h
  unfold e1 at f
  cases h1 : f1 ρ with
  | none => rw [h1] at f; cases f
  | some a =>
    rw [h1] at f
    refine ⟨Hv, ρ, a, e, en, h1, fun v1 H1 Hv1 s1 d1 => ?_⟩
    exact ok H1 Hv1 v1 a d Q s1.c d1 f fun v H' Hv' s3 d3 => k v H' Hv' (s1.trans s3) d3
section
variable {a b : Expr} {f1 f2 : En → Option D} {pos : Pos} {g : D → D → Option D} {r : R2}
theorem pd_op {op : Operator} (ho : OpR X (binaryOp op) r) (ok : Ok2 X.K r g) (ha : PE X a (rdE X.K f1)) (hb : PE X b (rdE X.K f2)) : PE X (.BinOp a op b pos) (rdE X.K (e2 g f1 f2)) := pe_imp (pe_op ho ha hb) fun _ _ _ => rd_op ok
theorem pd_cmp {op : CmpOp} (ho : OpR X (compareOp op) r) (ok : Ok2 X.K r g) (ha : PE X a (rdE X.K f1)) (hb : PE X b (rdE X.K f2)) (hm : behindInMarks op b = false) : PE X (.Compare a [op] [b] pos) (rdE X.K (e2 g f1 f2)) :=
  pe_imp (pe_cmpR ho ha hb hm) fun _ _ _ => rd_op ok
/-- a test: the value is a bool -/
def tB2 (f : En → Option D) (ρ : En) : Option Bool := match f ρ with | some (.bl b) => some b | _ => none
theorem rd_tB {K : PySem.W.Frag} {t : TE} {f : En → Option D} (i : ∀ σ H Q, rdE K f σ H Q → t σ H Q) {σ : St} {H : Hp} {Q : Bool → Hp → Prop} (h : rdT K (tB2 f) σ H Q) : t σ H fun x H' => ∃ k, x = .bl k ∧ Q k H' := by
  obtain ⟨Hv, ρ, b, e, en, f', k⟩ := h
  unfold tB2 at f'
  split at f'
  · rename_i b' hb
    cases f'
    refine i σ H _ ⟨Hv, ρ, _, e, en, hb, fun v H' Hv' s d => ?_⟩
    cases d
    exact ⟨_, rfl, k H' Hv' s⟩
  · cases f'
theorem pt_cmpd {op : CmpOp} (ho : OpR X (compareOp op) r) (ok : Ok2 X.K r g) (ha : PE X a (rdE X.K f1)) (hb : PE X b (rdE X.K f2)) (hm : behindInMarks op b = false) : PT X (.Compare a [op] [b] pos) (rdT X.K (tB2 (e2 g f1 f2))) :=
  pt_imp (pt_cmpR ho ha hb hm) fun _ _ _ => rd_tB fun _ _ _ => rd_op ok
theorem pt_vald {e : Expr} {f : En → Option D} (h : PE X e (rdE X.K f)) (he : ∀ whole, isTrue e X.env whole = (do let v ← whole; standAt e.pos; holding [v] (truthy v)) := by intro _; rfl) : PT X e (rdT X.K (tB2 f)) :=
  pt_imp (pt_val h he) fun _ _ _ => rd_tB fun _ _ _ q => q
theorem pd_un {op : UnaryOp} {r : V → Hp → VK → Prop} {g : D → Option D} (ho : UnR X (unaryOp op) r) (ok : Ok1 X.K r g) (ha : PE X a (rdE X.K f1)) : PE X (.UnaryOp op a pos) (rdE X.K (e1 g f1)) := pe_imp (pe_un ho ha) fun _ _ _ => rd_un ok
end

/-! the operators' functions -/
def gI (g : Int → Int → Option D) : D → D → Option D
  | .int i, .int j => g i j
  | _, _ => none
def dAdd : D → D → Option D := gI fun i j => some (.int (i + j))
def dSub : D → D → Option D := gI fun i j => some (.int (i - j))
def okMul (i j : Int) : Bool := decide (i.natAbs.log2 + j.natAbs.log2 < 1000000) || (decide (i.natAbs < 2 ^ 63) || decide (j.natAbs < 2 ^ 63))
def CMulX (i j : Int) : Prop := CMulW i j ∨ CMul i j
theorem okMul_x {i j : Int} (h : okMul i j = true) : CMulX i j := by
  unfold okMul at h
  rw [Bool.or_eq_true, Bool.or_eq_true] at h
  rcases h with h | h | h
  · exact .inl (show i.natAbs.log2 + j.natAbs.log2 < 1000000 from of_decide_eq_true h)
  · have := of_decide_eq_true h
    exact .inr (.inl ⟨by omega, by omega⟩)
  · have := of_decide_eq_true h
    exact .inr (.inr ⟨by omega, by omega⟩)
theorem op_mulX {X : Cx} : OpR X (binaryOp .Mult) (rI CMulX fun i j => .int (i * j)) := opI fun _ _ _ _ _ _ _ hc q => PyProof.Rows.mul_int q (hc.elim CMulW.ok CMul.ok)
def okDiv (j : Int) : Bool := decide (0 < j) && decide (j.natAbs.log2 < 9000)
def dMul : D → D → Option D := gI fun i j => if okMul i j then some (.int (i * j)) else none
def dDiv : D → D → Option D := gI fun i j => if okDiv j then some (.int (i / j)) else none
def dMod : D → D → Option D := gI fun i j => if 0 < j then some (.int (i % j)) else none
def dPow : D → D → Option D := gI fun i j => if 0 ≤ j ∧ j ≤ 1000000 ∧ i.natAbs < 2 ^ 64 then some (.int (i ^ j.toNat)) else none
def dLt : D → D → Option D := gI fun i j => some (.bl (decide (i < j)))
def dLe : D → D → Option D := gI fun i j => some (.bl (decide (i ≤ j)))
def dGt : D → D → Option D := gI fun i j => some (.bl (decide (j < i)))
def dGe : D → D → Option D := gI fun i j => some (.bl (decide (j ≤ i)))
def dNeg : D → Option D
  | .int i => some (.int (-i))
  | _ => none
variable {K : PySem.W.Frag}
theorem ok_I0 {g : Int → Int → D} {f : Int → Int → V} (hf : ∀ i j H, Dn K H (f i j) (g i j)) : Ok2 K (rI0 f) (gI fun i j => some (g i j)) := by
  intro H Hv x y a b d Q e hx hy h k
  unfold gI at h
  split at h
  · cases hx; cases hy; cases h
    exact ⟨_, _, rfl, rfl, k _ H Hv (.refl e) (hf _ _ _)⟩
  · cases h
theorem ok_I {C : Int → Int → Prop} {g : Int → Int → Option D} {f : Int → Int → V} (hf : ∀ i j d, g i j = some d → C i j ∧ ∀ H, Dn K H (f i j) d) : Ok2 K (rI C f) (gI g) := by
  intro H Hv x y a b d Q e hx hy h k
  unfold gI at h
  split at h
  · cases hx; cases hy
    obtain ⟨c, q⟩ := hf _ _ _ h
    exact ⟨_, _, rfl, rfl, c, k _ H Hv (.refl e) (q _)⟩
  · cases h
theorem ok_add : Ok2 K (rI0 fun i j => .int (i + j)) dAdd := ok_I0 fun _ _ _ => .int _
theorem ok_sub : Ok2 K (rI0 fun i j => .int (i - j)) dSub := ok_I0 fun _ _ _ => .int _
theorem ok_mul : Ok2 K (rI CMulX fun i j => .int (i * j)) dMul := ok_I fun i j d h => by
  split at h
  · rename_i c; cases h; exact ⟨okMul_x c, fun _ => .int _⟩
  · cases h
theorem ok_div : Ok2 K (rI CDivW fun i j => .int (i / j)) dDiv := ok_I fun i j d h => by
  split at h
  · rename_i c; cases h
    unfold okDiv at c
    rw [Bool.and_eq_true] at c
    exact ⟨⟨of_decide_eq_true c.1, of_decide_eq_true c.2⟩, fun _ => .int _⟩
  · cases h
theorem ok_mod : Ok2 K (rI (fun _ j => 0 < j) fun i j => .int (i % j)) dMod := ok_I fun i j d h => by
  split at h
  · rename_i c; cases h; exact ⟨c, fun _ => .int _⟩
  · cases h
theorem ok_pow : Ok2 K (rI CPow fun i j => .int (i ^ j.toNat)) dPow := ok_I fun i j d h => by
  split at h
  · rename_i c; cases h; exact ⟨c, fun _ => .int _⟩
  · cases h
theorem ok_lt : Ok2 K (rI0 fun i j => .bl (decide (i < j))) dLt := ok_I0 fun _ _ _ => .bl _
theorem ok_le : Ok2 K (rI0 fun i j => .bl (decide (i ≤ j))) dLe := ok_I0 fun _ _ _ => .bl _
theorem ok_gt : Ok2 K (rI0 fun i j => .bl (decide (j < i))) dGt := ok_I0 fun _ _ _ => .bl _
theorem ok_ge : Ok2 K (rI0 fun i j => .bl (decide (j ≤ i))) dGe := ok_I0 fun _ _ _ => .bl _
theorem ok_neg : Ok1 K (rU fun i => .int (-i)) dNeg := by
  intro H Hv x a d Q e hx h k
  unfold dNeg at h
  split at h
  · cases hx; cases h
    exact ⟨_, rfl, k _ H Hv (.refl e) (.int _)⟩
  · cases h
section
variable {a b : Expr} {f1 f2 : En → Option D} {pos : Pos}
theorem pd_add (ha : PE X a (rdE X.K f1)) (hb : PE X b (rdE X.K f2)) : PE X (.BinOp a .Add b pos) (rdE X.K (e2 dAdd f1 f2)) := pd_op op_add ok_add ha hb
theorem pd_sub (ha : PE X a (rdE X.K f1)) (hb : PE X b (rdE X.K f2)) : PE X (.BinOp a .Sub b pos) (rdE X.K (e2 dSub f1 f2)) := pd_op op_sub ok_sub ha hb
theorem pd_mul (ha : PE X a (rdE X.K f1)) (hb : PE X b (rdE X.K f2)) : PE X (.BinOp a .Mult b pos) (rdE X.K (e2 dMul f1 f2)) := pd_op op_mulX ok_mul ha hb
theorem pd_div (ha : PE X a (rdE X.K f1)) (hb : PE X b (rdE X.K f2)) : PE X (.BinOp a .FloorDiv b pos) (rdE X.K (e2 dDiv f1 f2)) := pd_op op_fdivW ok_div ha hb
theorem pd_mod (ha : PE X a (rdE X.K f1)) (hb : PE X b (rdE X.K f2)) : PE X (.BinOp a .Mod b pos) (rdE X.K (e2 dMod f1 f2)) := pd_op op_mod ok_mod ha hb
theorem pd_pow (ha : PE X a (rdE X.K f1)) (hb : PE X b (rdE X.K f2)) : PE X (.BinOp a .Pow b pos) (rdE X.K (e2 dPow f1 f2)) := pd_op op_pow ok_pow ha hb
theorem pd_neg (ha : PE X a (rdE X.K f1)) : PE X (.UnaryOp .USub a pos) (rdE X.K (e1 dNeg f1)) := pd_un un_neg ok_neg ha
theorem pd_lt (ha : PE X a (rdE X.K f1)) (hb : PE X b (rdE X.K f2)) : PE X (.Compare a [.Lt] [b] pos) (rdE X.K (e2 dLt f1 f2)) := pd_cmp op_lt ok_lt ha hb (nomark _)
theorem pd_le (ha : PE X a (rdE X.K f1)) (hb : PE X b (rdE X.K f2)) : PE X (.Compare a [.LtE] [b] pos) (rdE X.K (e2 dLe f1 f2)) := pd_cmp op_le ok_le ha hb (nomark _)
theorem pd_gt (ha : PE X a (rdE X.K f1)) (hb : PE X b (rdE X.K f2)) : PE X (.Compare a [.Gt] [b] pos) (rdE X.K (e2 dGt f1 f2)) := pd_cmp op_gt ok_gt ha hb (nomark _)
theorem pd_ge (ha : PE X a (rdE X.K f1)) (hb : PE X b (rdE X.K f2)) : PE X (.Compare a [.GtE] [b] pos) (rdE X.K (e2 dGe f1 f2)) := pd_cmp op_ge ok_ge ha hb (nomark _)
theorem pt_lt (ha : PE X a (rdE X.K f1)) (hb : PE X b (rdE X.K f2)) : PT X (.Compare a [.Lt] [b] pos) (rdT X.K (tB2 (e2 dLt f1 f2))) := pt_cmpd op_lt ok_lt ha hb (nomark _)
theorem pt_le (ha : PE X a (rdE X.K f1)) (hb : PE X b (rdE X.K f2)) : PT X (.Compare a [.LtE] [b] pos) (rdT X.K (tB2 (e2 dLe f1 f2))) := pt_cmpd op_le ok_le ha hb (nomark _)
theorem pt_gt (ha : PE X a (rdE X.K f1)) (hb : PE X b (rdE X.K f2)) : PT X (.Compare a [.Gt] [b] pos) (rdT X.K (tB2 (e2 dGt f1 f2))) := pt_cmpd op_gt ok_gt ha hb (nomark _)
theorem pt_ge (ha : PE X a (rdE X.K f1)) (hb : PE X b (rdE X.K f2)) : PT X (.Compare a [.GtE] [b] pos) (rdT X.K (tB2 (e2 dGe f1 f2))) := pt_cmpd op_ge ok_ge ha hb (nomark _)
end
end
end PD
namespace PD
open PySem L2
/-! ### arguments, displays -/
def aNil (_ : En) : Option (List D) := some []
def aCons (f : En → Option D) (g : En → Option (List D)) (ρ : En) : Option (List D) := (f ρ).bind fun d => (g ρ).bind fun ds => some (d :: ds)
section
variable {K : PySem.W.Frag} {σ : St} {H : Hp}
theorem rd_nil {Q : List V → Hp → Prop} (h : rdA K aNil σ H Q) : tNil σ H Q := by
  obtain ⟨Hv, ρ, d, e, en, f, k⟩ := h
  cases f
  exact k [] H Hv (.refl e) .nil
theorem rd_cons {f : En → Option D} {g : En → Option (List D)} {Q : List V → Hp → Prop} (h : rdA K (aCons f g) σ H Q) : tCons (rdE K f) (rdA K g) σ H Q := by
  obtain ⟨Hv, ρ, ds, e, en, f', k⟩ := h
  unfold aCons at f'
  cases h1 : f ρ with
  | none => rw [h1] at f'; cases f'
  | some d =>
    cases h2 : g ρ with
    | none => rw [h1, h2] at f'; cases f'
    | some r =>
      rw [h1, h2] at f'
      cases f'
      refine ⟨Hv, ρ, d, e, en, h1, fun v1 H1 Hv1 s1 d1 => ?_⟩
      refine ⟨Hv1, ρ, r, s1.c, en.mono s1.b, h2, fun vs H2 Hv2 s2 d2 => ?_⟩
      exact k _ H2 Hv2 (s1.trans s2) (.cons (d1.mono s2.b) d2)
/-- a display's length -/
def okLen (n : Nat) : Bool := decide (n ≤ 1000000)
theorem okLen_le {n : Nat} (h : okLen n = true) : n ≤ sizeLine := Nat.le_trans (of_decide_eq_true h) (by rw [sizeLine_eq]; decide)
theorem okLen_lt {n : Nat} (h : okLen n = true) : n < sizeLine := Nat.lt_of_le_of_lt (of_decide_eq_true h) (by rw [sizeLine_eq]; decide)
def eTup (f : En → Option (List D)) (ρ : En) : Option D := (f ρ).bind fun ds => if okLen ds.length then some (.tup ds) else none
def eLst (f : En → Option (List D)) (ρ : En) : Option (List D) := (f ρ).bind fun ds => if okLen ds.length then some ds else none
theorem rd_tup {f : En → Option (List D)} {Q : VK} (h : rdE K (eTup f) σ H Q) : tTup (rdA K f) σ H Q := by
  obtain ⟨Hv, ρ, d, e, en, f', k⟩ := h
  unfold eTup at f'
  cases h1 : f ρ with
  | none => rw [h1] at f'; cases f'
  | some ds =>
    rw [h1] at f'
    replace f' : (if okLen ds.length then some (D.tup ds) else none) = some d := f'
    split at f'
    · rename_i c
      cases f'
      refine ⟨Hv, ρ, ds, e, en, h1, fun vs H1 Hv1 s1 d1 => ?_⟩
      refine ⟨by rw [d1.length]; exact okLen_le c, fun p hp => ?_⟩
      have s2 := Stp.new (o := .tup vs) s1.c hp
      exact k _ _ _ (s1.trans s2) (.tup (.of upd_same) (d1.mono s2.b))
    · cases f'
theorem rd_lst {f : En → Option (List D)} {Q : VK} (h : rdF K (eLst f) σ H Q) : tLst (rdA K f) σ H Q := by
  obtain ⟨Hv, ρ, d, e, en, f', k⟩ := h
  unfold eLst at f'
  cases h1 : f ρ with
  | none => rw [h1] at f'; cases f'
  | some ds =>
    rw [h1] at f'
    replace f' : (if okLen ds.length then some ds else none) = some d := f'
    split at f'
    · rename_i c
      cases f'
      refine ⟨Hv, ρ, _, e, en, h1, fun vs H1 Hv1 s1 d1 => ?_⟩
      refine ⟨by rw [d1.length]; exact okLen_le c, fun p hp => ?_⟩
      exact k _ _ _ _ (s1.trans (Stp.newH s1.c hp)) (s1.a.free hp) (s1.c.free hp) upd_same d1
    · cases f'
/-- a new list, told from now on -/
def eFr (f : En → Option (List D)) (ρ : En) : Option D := (f ρ).map .lst
theorem rd_fr {f : En → Option (List D)} {Q : VK} (h : rdE K (eFr f) σ H Q) : rdF K f σ H Q := by
  obtain ⟨Hv, ρ, d, e, en, f', k⟩ := h
  unfold eFr at f'
  cases h1 : f ρ with
  | none => rw [h1] at f'; cases f'
  | some ds =>
    rw [h1] at f'
    cases f'
    refine ⟨Hv, ρ, ds, e, en, h1, fun p vs H' Hv' s n n' hp r => ?_⟩
    have nv : Hv p = none := e.free n
    have s2 : Stp H Hv H' (upd Hv' p (.lst vs)) := by
      refine ⟨s.a, sameMut s.b nv, fun a u q => ?_, fun q o' m hq hn => ?_⟩
      · by_cases ha : a = p
        · subst ha; rw [upd_same] at q; cases q; exact hp
        · rw [upd_ne ha] at q; exact s.c _ _ q
      · rw [upd_ne (ne_of_none hq n)]; exact s.h q o' m hq hn
    exact k _ _ _ s2 (.lst (.of upd_same) (r.mono (sameNew n')))
end
section
variable {X : Cx} {pos : Pos} {e : Expr} {es : List Expr} {f : En → Option D} {g : En → Option (List D)}
theorem ad_nil : PA X [] (rdA X.K aNil) := pa_imp pa_nil fun _ _ _ => rd_nil
theorem ad_cons (ha : PE X e (rdE X.K f)) (hr : PA X es (rdA X.K g)) (hs : starEach (e :: es) X.env = (false, eval e X.env) :: starEach es X.env := by rfl) : PA X (e :: es) (rdA X.K (aCons f g)) := pa_imp (pa_cons ha hr hs) fun _ _ _ => rd_cons
theorem pd_tup {k : Nat} (h : PA X es (rdA X.K g)) : PE X (.Tuple es k pos) (rdE X.K (eTup g)) := pe_imp (pe_tup h) fun _ _ _ => rd_tup
theorem pf_lst (h : PA X es (rdA X.K g)) : PE X (.List es pos) (rdF X.K (eLst g)) := pe_imp (pe_lst h) fun _ _ _ => rd_lst
theorem pd_fr (h : PE X e (rdF X.K g)) : PE X e (rdE X.K (eFr g)) := pe_imp h fun _ _ _ => rd_fr
end

/-! ### tests -/
def fAnd (f g : En → Option Bool) (ρ : En) : Option Bool := (f ρ).bind fun b => if b then g ρ else some false
def fOr (f g : En → Option Bool) (ρ : En) : Option Bool := (f ρ).bind fun b => if b then some true else g ρ
def fNot (f : En → Option Bool) (ρ : En) : Option Bool := (f ρ).map (!·)
def eAnd (f g : En → Option D) (ρ : En) : Option D := (f ρ).bind fun d => match d with | .bl true => g ρ | .bl false => some (.bl false) | _ => none
def eOr (f g : En → Option D) (ρ : En) : Option D := (f ρ).bind fun d => match d with | .bl false => g ρ | .bl true => some (.bl true) | _ => none
def eNot : D → Option D
  | .bl b => some (.bl (!b))
  | _ => none
def eIf (c : En → Option Bool) (f g : En → Option D) (ρ : En) : Option D := (c ρ).bind fun b => if b then f ρ else g ρ
section
variable {K : PySem.W.Frag} {σ : St} {H : Hp} {f g : En → Option Bool} {Q : Bool → Hp → Prop}
theorem rd_and (h : rdT K (fAnd f g) σ H Q) : tAnd (rdT K f) (rdT K g) σ H Q := by
  obtain ⟨Hv, ρ, b, e, en, f', k⟩ := h
  unfold fAnd at f'
  cases h1 : f ρ with
  | none => rw [h1] at f'; cases f'
  | some c =>
    rw [h1] at f'
    refine ⟨Hv, ρ, c, e, en, h1, fun H1 Hv1 s1 => ?_⟩
    cases c with
    | true =>
      show rdT K g σ H1 Q
      exact ⟨Hv1, ρ, b, s1.c, en.mono s1.b, f', fun H2 Hv2 s2 => k H2 Hv2 (s1.trans s2)⟩
    | false =>
      show Q false H1
      cases f'
      exact k H1 Hv1 s1
theorem rd_or (h : rdT K (fOr f g) σ H Q) : tOr (rdT K f) (rdT K g) σ H Q := by
  obtain ⟨Hv, ρ, b, e, en, f', k⟩ := h
  unfold fOr at f'
  cases h1 : f ρ with
  | none => rw [h1] at f'; cases f'
  | some c =>
    rw [h1] at f'
    refine ⟨Hv, ρ, c, e, en, h1, fun H1 Hv1 s1 => ?_⟩
    cases c with
    | false =>
      show rdT K g σ H1 Q
      exact ⟨Hv1, ρ, b, s1.c, en.mono s1.b, f', fun H2 Hv2 s2 => k H2 Hv2 (s1.trans s2)⟩
    | true =>
      show Q true H1
      cases f'
      exact k H1 Hv1 s1
theorem rd_not (h : rdT K (fNot f) σ H Q) : tNot (rdT K f) σ H Q := by
  obtain ⟨Hv, ρ, b, e, en, f', k⟩ := h
  unfold fNot at f'
  cases h1 : f ρ with
  | none => rw [h1] at f'; cases f'
  | some c =>
    rw [h1] at f'
    cases f'
    exact ⟨Hv, ρ, c, e, en, h1, fun H1 Hv1 s1 => k H1 Hv1 s1⟩
end
section
variable {K : PySem.W.Frag} {σ : St} {H : Hp} {f g : En → Option D} {Q : VK}
theorem rd_andV (h : rdE K (eAnd f g) σ H Q) : tAndV (rdE K f) (rdE K g) σ H Q := by
  obtain ⟨Hv, ρ, b, e, en, f', k⟩ := h
  unfold eAnd at f'
  cases h1 : f ρ with
  | none => rw [h1] at f'; cases f'
  | some c =>
    rw [h1] at f'
    refine ⟨Hv, ρ, c, e, en, h1, fun v1 H1 Hv1 s1 d1 => ?_⟩
    simp only [Option.bind_some] at f'
    split at f'
    · cases d1
      exact ⟨true, rfl, ⟨Hv1, ρ, b, s1.c, en.mono s1.b, f', fun v2 H2 Hv2 s2 => k v2 H2 Hv2 (s1.trans s2)⟩⟩
    · cases d1
      cases f'
      exact ⟨false, rfl, k _ H1 Hv1 s1 (.bl _)⟩
    · cases f'
theorem rd_orV (h : rdE K (eOr f g) σ H Q) : tOrV (rdE K f) (rdE K g) σ H Q := by
  obtain ⟨Hv, ρ, b, e, en, f', k⟩ := h
  unfold eOr at f'
  cases h1 : f ρ with
  | none => rw [h1] at f'; cases f'
  | some c =>
    rw [h1] at f'
    refine ⟨Hv, ρ, c, e, en, h1, fun v1 H1 Hv1 s1 d1 => ?_⟩
    simp only [Option.bind_some] at f'
    split at f'
    · cases d1
      exact ⟨false, rfl, ⟨Hv1, ρ, b, s1.c, en.mono s1.b, f', fun v2 H2 Hv2 s2 => k v2 H2 Hv2 (s1.trans s2)⟩⟩
    · cases d1
      cases f'
      exact ⟨true, rfl, k _ H1 Hv1 s1 (.bl _)⟩
    · cases f'
theorem rd_notV (h : rdE K (e1 eNot f) σ H Q) : tNotV (rdE K f) σ H Q := by
  obtain ⟨Hv, ρ, b, e, en, f', k⟩ := h
  unfold e1 at f'
  cases h1 : f ρ with
  | none => rw [h1] at f'; cases f'
  | some c =>
    rw [h1] at f'
    refine ⟨Hv, ρ, c, e, en, h1, fun v1 H1 Hv1 s1 d1 => ?_⟩
    simp only [Option.bind_some, eNot] at f'
    split at f'
    · cases d1
      cases f'
      exact ⟨_, rfl, k _ H1 Hv1 s1 (.bl _)⟩
    · cases f'
theorem rd_if {c : En → Option Bool} (h : rdE K (eIf c f g) σ H Q) : tIf (rdT K c) (rdE K f) (rdE K g) σ H Q := by
  obtain ⟨Hv, ρ, b, e, en, f', k⟩ := h
  unfold eIf at f'
  cases h1 : c ρ with
  | none => rw [h1] at f'; cases f'
  | some t =>
    rw [h1] at f'
    refine ⟨Hv, ρ, t, e, en, h1, fun H1 Hv1 s1 => ?_⟩
    cases t with
    | true =>
      show rdE K f σ H1 Q
      exact ⟨Hv1, ρ, b, s1.c, en.mono s1.b, f', fun v2 H2 Hv2 s2 => k v2 H2 Hv2 (s1.trans s2)⟩
    | false =>
      show rdE K g σ H1 Q
      exact ⟨Hv1, ρ, b, s1.c, en.mono s1.b, f', fun v2 H2 Hv2 s2 => k v2 H2 Hv2 (s1.trans s2)⟩
end
section
variable {X : Cx} {pos : Pos} {a b : Expr} {rest : List Expr}
theorem wd_and1 {f : En → Option Bool} (ha : PT X a (rdT X.K f)) : PW X (.BoolOp .And [a] pos) (rdT X.K f) := pw_and1 ha
theorem wd_or1 {f : En → Option Bool} (ha : PT X a (rdT X.K f)) : PW X (.BoolOp .Or [a] pos) (rdT X.K f) := pw_or1 ha
theorem wd_and {f g : En → Option Bool} (ha : PT X a (rdT X.K f)) (hb : PW X (.BoolOp .And (b :: rest) pos) (rdT X.K g)) : PW X (.BoolOp .And (a :: b :: rest) pos) (rdT X.K (fAnd f g)) := pw_imp (pw_and ha hb) fun _ _ _ => rd_and
theorem wd_or {f g : En → Option Bool} (ha : PT X a (rdT X.K f)) (hb : PW X (.BoolOp .Or (b :: rest) pos) (rdT X.K g)) : PW X (.BoolOp .Or (a :: b :: rest) pos) (rdT X.K (fOr f g)) := pw_imp (pw_or ha hb) fun _ _ _ => rd_or
theorem td_not {f : En → Option Bool} (ha : PT X a (rdT X.K f)) : PT X (.UnaryOp .Not a pos) (rdT X.K (fNot f)) := pt_imp (pt_not ha) fun _ _ _ => rd_not
theorem pd_one {op} {f : En → Option D} (h : PE X a (rdE X.K f)) : PE X (.BoolOp op [a] pos) (rdE X.K f) := pe_one h
theorem pd_and {f g : En → Option D} (ha : PE X a (rdE X.K f)) (hb : PE X (.BoolOp .And (b :: rest) pos) (rdE X.K g)) : PE X (.BoolOp .And (a :: b :: rest) pos) (rdE X.K (eAnd f g)) := pe_imp (pe_and ha hb) fun _ _ _ => rd_andV
theorem pd_or {f g : En → Option D} (ha : PE X a (rdE X.K f)) (hb : PE X (.BoolOp .Or (b :: rest) pos) (rdE X.K g)) : PE X (.BoolOp .Or (a :: b :: rest) pos) (rdE X.K (eOr f g)) := pe_imp (pe_or ha hb) fun _ _ _ => rd_orV
theorem pd_not {f : En → Option D} (ha : PE X a (rdE X.K f)) : PE X (.UnaryOp .Not a pos) (rdE X.K (e1 eNot f)) := pe_imp (pe_not ha) fun _ _ _ => rd_notV
theorem pd_ife {c : Expr} {t : En → Option Bool} {f g : En → Option D} (hc : PT X c (rdT X.K t)) (ha : PE X a (rdE X.K f)) (hb : PE X b (rdE X.K g)) : PE X (.IfExp c a b pos) (rdE X.K (eIf t f g)) := pe_imp (pe_ifExp hc ha hb) fun _ _ _ => rd_if
end

/-! ### == and != of data -/
mutual
def toP : D → PyData
  | .ty _ => .none
  | .non => .none
  | .bl b => .bool b
  | .int i => .int i
  | .str x => .str x
  | .tup ds => .tuple (toPs ds)
  | .lst ds => .list (toPs ds)
  | .dic _ => .dict []
  | .ins _ _ => .dict []
  | .ob _ => .none
def toPs : List D → List PyData
  | [] => []
  | d :: ds => toP d :: toPs ds
end
mutual
def noObj : D → Bool
  | .ty _ => false
  | .dic _ => false
  | .ins _ _ => false
  | .ob _ => false
  | .tup ds => noObjs ds
  | .lst ds => noObjs ds
  | _ => true
def noObjs : List D → Bool
  | [] => true
  | d :: ds => noObj d && noObjs ds
end
mutual
theorem Dn.dp {K : PySem.W.Frag} {H : Hp} : ∀ {v : V} {d : D}, Dn K H v d → noObj d = true → Dp K H v (toP d)
  | _, _, .non, _ => .non
  | _, _, .bl b, _ => .bl b
  | _, _, .int i, _ => .int i
  | _, _, .str x, _ => .str x
  | _, _, .tup h r, n => .tup h (Dns.dp r (by simpa only [noObj] using n))
  | _, _, .lst h r, n => .lst h (Dns.dp r (by simpa only [noObj] using n))
  | _, _, .dic h r, n => by simp [noObj] at n
  | _, _, .ins h r, n => by simp [noObj] at n
  | _, _, .ob a, n => by simp [noObj] at n
  | _, _, .ty h, n => by simp [noObj] at n
theorem Dns.dp {K : PySem.W.Frag} {H : Hp} : ∀ {v : List V} {d : List D}, Dns K H v d → noObjs d = true → DpAll K H v (toPs d)
  | _, _, .nil, _ => .nil
  | _, _, .cons h r, n => by
    simp only [noObjs, Bool.and_eq_true] at n
    exact .cons (Dn.dp h n.1) (Dns.dp r n.2)
end
def shp (d : D) : Bool := noObj d && SeqAt.shaped (toP d)
def dEq (a b : D) : Option D := if shp a && shp b then some (.bl (PyData.eqv (toP a) (toP b))) else none
def dNe (a b : D) : Option D := if shp a && shp b then some (.bl (!PyData.eqv (toP a) (toP b))) else none
theorem ok_eq {K : PySem.W.Frag} : Ok2 K (rEqD K) dEq := by
  intro H Hv x y a b d Q e hx hy h k
  unfold dEq at h
  split at h
  · rename_i c
    cases h
    simp only [shp, Bool.and_eq_true] at c
    exact ⟨_, _, (hx.mono e).dp c.1.1, (hy.mono e).dp c.2.1, c.1.2, c.2.2, k _ H Hv (.refl e) (.bl _)⟩
  · cases h
theorem ok_ne {K : PySem.W.Frag} : Ok2 K (rNeD K) dNe := by
  intro H Hv x y a b d Q e hx hy h k
  unfold dNe at h
  split at h
  · rename_i c
    cases h
    simp only [shp, Bool.and_eq_true] at c
    exact ⟨_, _, (hx.mono e).dp c.1.1, (hy.mono e).dp c.2.1, c.1.2, c.2.2, k _ H Hv (.refl e) (.bl _)⟩
  · cases h
section
variable {X : Cx} {pos : Pos} {a b : Expr} {f1 f2 : En → Option D}
theorem pd_eq (hu : X.A.units + 64 < cLine) (ha : PE X a (rdE X.K f1)) (hb : PE X b (rdE X.K f2)) : PE X (.Compare a [.Eq] [b] pos) (rdE X.K (e2 dEq f1 f2)) := pd_cmp (op_eqD hu) ok_eq ha hb (nomark _)
theorem pd_ne (hu : X.A.units + 64 < cLine) (ha : PE X a (rdE X.K f1)) (hb : PE X b (rdE X.K f2)) : PE X (.Compare a [.NotEq] [b] pos) (rdE X.K (e2 dNe f1 f2)) := pd_cmp (op_neD hu) ok_ne ha hb (nomark _)
theorem td_eq (hu : X.A.units + 64 < cLine) (ha : PE X a (rdE X.K f1)) (hb : PE X b (rdE X.K f2)) : PT X (.Compare a [.Eq] [b] pos) (rdT X.K (tB2 (e2 dEq f1 f2))) := pt_cmpd (op_eqD hu) ok_eq ha hb (nomark _)
theorem td_ne (hu : X.A.units + 64 < cLine) (ha : PE X a (rdE X.K f1)) (hb : PE X b (rdE X.K f2)) : PT X (.Compare a [.NotEq] [b] pos) (rdT X.K (tB2 (e2 dNe f1 f2))) := pt_cmpd (op_neD hu) ok_ne ha hb (nomark _)
end

/-! ### subscripts -/
def dIx : D → D → Option D
  | .tup ds, .int i => atI ds i
  | .lst ds, .int i => atI ds i
  | .str z, .int i => if okLen z.length then (atI z.cps.toList i).map fun c => .str ⟨#[c]⟩ else none
  | _, _ => none
theorem Dns.atI {K : PySem.W.Frag} {H : Hp} {vs : List V} {ds : List D} {i : Int} {d : D} (r : Dns K H vs ds) (h : L2.atI ds i = some d) : ∃ v, L2.atI vs i = some v ∧ Dn K H v d := by
  unfold L2.atI at h ⊢
  rw [r.length]
  cases e : ixN ds.length i with
  | none => rw [e] at h; cases h
  | some j =>
    rw [e] at h
    exact r.get h
theorem ok_ix {K : PySem.W.Frag} : Ok2 K (rIx K) dIx := by
  intro H Hv x y a b d Q e hx hy h k
  unfold dIx at h
  split at h
  · cases hx with
    | tup hs r =>
      cases hy
      obtain ⟨v, h1, h2⟩ := r.atI h
      exact .inr (.inl ⟨_, _, _, v, rfl, rfl, sameT e hs, h1, k v H Hv (.refl e) h2⟩)
  · cases hx with
    | lst hs r =>
      cases hy
      obtain ⟨v, h1, h2⟩ := r.atI h
      exact .inl ⟨_, _, _, v, rfl, rfl, sameL e hs, h1, k v H Hv (.refl e) h2⟩
  · rename_i z i
    cases hx
    cases hy
    split at h
    · rename_i c
      cases h1 : atI z.cps.toList i with
      | none => rw [h1] at h; cases h
      | some cc =>
        rw [h1] at h
        cases h
        exact .inr (.inr ⟨_, _, cc, rfl, rfl, okLen_le c, h1, k _ H Hv (.refl e) (.str _)⟩)
    · cases h
  · cases h
/-- an index, a slice's end -/
def asInt : Option D → Option Int
  | some (.int i) => some i
  | _ => none
def rdO (K : PySem.W.Frag) (f : En → Option (Option Int)) : TO := fun σ H Q => ∃ (Hv : Hp) (ρ : En) (o : Option Int), Same Hv H ∧ EOk K Hv σ ρ ∧ f ρ = some o ∧ ∀ H' Hv', Stp H Hv H' Hv' → Q o H'
def oNone (_ : En) : Option (Option Int) := some none
def oSome (f : En → Option D) (ρ : En) : Option (Option Int) := (asInt (f ρ)).map some
theorem asInt_some {o : Option D} {i : Int} (h : asInt o = some i) : o = some (.int i) := by
  unfold asInt at h
  split at h
  · cases h; rfl
  · cases h
def cutD (xs : List D) (lo hi : Option Int) : List D := (xs.drop (HT.sIx xs.length 0 lo)).take (HT.sIx xs.length xs.length hi - HT.sIx xs.length 0 lo)
theorem Dns.cut {K : PySem.W.Frag} {H : Hp} {vs : List V} {ds : List D} (r : Dns K H vs ds) (lo hi : Option Int) : Dns K H (cutV vs lo hi) (cutD ds lo hi) := by
  unfold cutV cutD
  rw [r.length]
  exact (r.drop _).take _
def eSl (f : En → Option D) (lo hi : En → Option (Option Int)) (ρ : En) : Option (List D) := (f ρ).bind fun d => (lo ρ).bind fun l => (hi ρ).bind fun h => match d with | .lst ds => some (cutD ds l h) | _ => none
def eSlS (f : En → Option D) (lo hi : En → Option (Option Int)) (ρ : En) : Option D := (f ρ).bind fun d => (lo ρ).bind fun l => (hi ρ).bind fun h => match d with | .str z => if okLen z.length then some (.str (cutS z l h)) else none | _ => none
theorem bind_some2 {α β : Type} {o : Option α} {f : α → Option β} {b : β} (h : o.bind f = some b) : ∃ a, o = some a ∧ f a = some b := by
  cases o with
  | none => cases h
  | some a => exact ⟨a, rfl, h⟩
theorem rd_sl {K : PySem.W.Frag} {f : En → Option D} {lo hi : En → Option (Option Int)} {σ : St} {H : Hp} {Q : VK} (h : rdF K (eSl f lo hi) σ H Q) : tSl (rSlL K) (rdE K f) (rdO K lo) (rdO K hi) σ H Q := by
  obtain ⟨Hv, ρ, ds, e, en, f', k⟩ := h
  obtain ⟨d, h1, f'⟩ := bind_some2 f'
  obtain ⟨l, h2, f'⟩ := bind_some2 f'
  obtain ⟨u, h3, f'⟩ := bind_some2 f'
  split at f'
  · cases f'
    refine ⟨Hv, ρ, _, e, en, h1, fun v1 H1 Hv1 s1 d1 => ?_⟩
    refine ⟨Hv1, ρ, l, s1.c, en.mono s1.b, h2, fun H2 Hv2 s2 => ?_⟩
    refine ⟨Hv2, ρ, u, s2.c, (en.mono s1.b).mono s2.b, h3, fun H3 Hv3 s3 => ?_⟩
    cases d1 with
    | lst hs r =>
      have s23 := s2.trans s3
      refine ⟨_, _, rfl, sameL (s23.b.trans s23.c) hs, fun p hp => ?_⟩
      have s13 := s1.trans s23
      exact k _ _ _ _ (s13.trans (Stp.newH s13.c hp)) (s13.a.free hp) (s13.c.free hp) upd_same ((r.mono s23.b).cut l u)
  · cases f'
theorem rd_slS {K : PySem.W.Frag} {f : En → Option D} {lo hi : En → Option (Option Int)} {σ : St} {H : Hp} {Q : VK} (h : rdE K (eSlS f lo hi) σ H Q) : tSl rSlS (rdE K f) (rdO K lo) (rdO K hi) σ H Q := by
  obtain ⟨Hv, ρ, ds, e, en, f', k⟩ := h
  obtain ⟨d, h1, f'⟩ := bind_some2 f'
  obtain ⟨l, h2, f'⟩ := bind_some2 f'
  obtain ⟨u, h3, f'⟩ := bind_some2 f'
  split at f'
  · split at f'
    · rename_i c
      cases f'
      refine ⟨Hv, ρ, _, e, en, h1, fun v1 H1 Hv1 s1 d1 => ?_⟩
      refine ⟨Hv1, ρ, l, s1.c, en.mono s1.b, h2, fun H2 Hv2 s2 => ?_⟩
      refine ⟨Hv2, ρ, u, s2.c, (en.mono s1.b).mono s2.b, h3, fun H3 Hv3 s3 => ?_⟩
      cases d1
      exact ⟨_, rfl, okLen_le c, k _ H3 Hv3 ((s1.trans s2).trans s3) (.str _)⟩
    · cases f'
  · cases f'
theorem rd_oNone {K : PySem.W.Frag} {σ : St} {H : Hp} {Q : Option Int → Hp → Prop} (h : rdO K oNone σ H Q) : tNoPart σ H Q := by
  obtain ⟨Hv, ρ, o, e, en, f', k⟩ := h
  cases f'
  exact k H Hv (.refl e)
theorem rd_oSome {K : PySem.W.Frag} {f : En → Option D} {σ : St} {H : Hp} {Q : Option Int → Hp → Prop} (h : rdO K (oSome f) σ H Q) : tPart (rdE K f) σ H Q := by
  obtain ⟨Hv, ρ, o, e, en, f', k⟩ := h
  unfold oSome at f'
  cases h1 : asInt (f ρ) with
  | none => rw [h1] at f'; cases f'
  | some i =>
    rw [h1] at f'
    cases f'
    refine ⟨Hv, ρ, _, e, en, asInt_some h1, fun v1 H1 Hv1 s1 d1 => ?_⟩
    cases d1
    exact ⟨_, rfl, k H1 Hv1 s1⟩
theorem po_imp {X : Cx} {e : Option Expr} {t t' : TO} (h : PO X e t) (i : ∀ σ H Q, t' σ H Q → t σ H Q) : PO X e t' := ⟨fun pins s σ H Q I w => h.run pins s σ H Q I (i σ H Q w)⟩
section
variable {X : Cx} {pos p2 : Pos} {a b : Expr} {f1 f2 : En → Option D} {lo hi : Option Expr} {fl fh : En → Option (Option Int)}
theorem pd_ix (ha : PE X a (rdE X.K f1)) (hb : PE X b (rdE X.K f2)) (hs : PlainIx b := by exact fun _ _ => rfl) : PE X (.Subscript a b pos) (rdE X.K (e2 dIx f1 f2)) := pe_imp (pe_ix ix_seq ha hb hs) fun _ _ _ => rd_op ok_ix
theorem od_none : PO X none (rdO X.K oNone) := po_imp po_none fun _ _ _ => rd_oNone
theorem od_some (ha : PE X a (rdE X.K f1)) : PO X (some a) (rdO X.K (oSome f1)) := po_imp (po_some ha) fun _ _ _ => rd_oSome
theorem pf_sl (ha : PE X a (rdE X.K f1)) (hl : PO X lo (rdO X.K fl)) (hh : PO X hi (rdO X.K fh)) : PE X (.Subscript a (.Slice lo hi none p2) pos) (rdF X.K (eSl f1 fl fh)) := pe_imp (pe_slice sl_list ha hl hh) fun _ _ _ => rd_sl
theorem pd_slS (ha : PE X a (rdE X.K f1)) (hl : PO X lo (rdO X.K fl)) (hh : PO X hi (rdO X.K fh)) : PE X (.Subscript a (.Slice lo hi none p2) pos) (rdE X.K (eSlS f1 fl fh)) := pe_imp (pe_slice sl_str ha hl hh) fun _ _ _ => rd_slS
end

/-! ### calls of built-ins -/
def eCB (g : List D → Option D) (f : En → Option (List D)) (ρ : En) : Option D := (f ρ).bind g
def OkC (K : PySem.W.Frag) (r : List V → Hp → VK → Prop) (g : List D → Option D) : Prop := ∀ H Hv vs ds d (Q : VK), Same Hv H → Dns K Hv vs ds → g ds = some d → (∀ v H' Hv', Stp H Hv H' Hv' → Dn K Hv' v d → Q v H') → r vs H Q
def eCF (g : List D → Option (List D)) (f : En → Option (List D)) (ρ : En) : Option (List D) := (f ρ).bind g
def OkF (K : PySem.W.Frag) (r : List V → Hp → VK → Prop) (g : List D → Option (List D)) : Prop := ∀ H Hv vs ds d (Q : VK), Same Hv H → Dns K Hv vs ds → g ds = some d →
  (∀ p vs H' Hv', Stp H Hv H' Hv' → H p = none → Hv' p = none → H' p = some (.lst vs) → Dns K Hv' vs d → Q (.ref p) H') → r vs H Q
theorem rd_cb {K : PySem.W.Frag} {r : List V → Hp → VK → Prop} {g : List D → Option D} {f : En → Option (List D)} (ok : OkC K r g) {σ : St} {H : Hp} {Q : VK} (h : rdE K (eCB g f) σ H Q) : tCB r (rdA K f) σ H Q := by
  obtain ⟨Hv, ρ, d, e, en, f', k⟩ := h
  obtain ⟨ds, h1, f'⟩ := bind_some2 f'
  refine ⟨Hv, ρ, ds, e, en, h1, fun vs H1 Hv1 s1 d1 => ?_⟩
  exact ok H1 Hv1 vs ds d Q s1.c d1 f' fun v H' Hv' s2 d2 => k v H' Hv' (s1.trans s2) d2
theorem rd_cf {K : PySem.W.Frag} {r : List V → Hp → VK → Prop} {g : List D → Option (List D)} {f : En → Option (List D)} (ok : OkF K r g) {σ : St} {H : Hp} {Q : VK} (h : rdF K (eCF g f) σ H Q) : tCB r (rdA K f) σ H Q := by
  obtain ⟨Hv, ρ, d, e, en, f', k⟩ := h
  obtain ⟨ds, h1, f'⟩ := bind_some2 f'
  refine ⟨Hv, ρ, ds, e, en, h1, fun vs H1 Hv1 s1 d1 => ?_⟩
  exact ok H1 Hv1 vs ds d Q s1.c d1 f' fun p vs H' Hv' s2 n n' hp d2 => k p vs H' Hv' (s1.trans s2) (s1.a.free n) n' hp d2
section
variable {X : Cx} {id T : String} {x : Str} {p pos : Pos} {e : Expr} {es : List Expr} {r : List V → Hp → VK → Prop} {f : En → Option (List D)}
theorem pd_cb {g : List D → Option D} (hc : CallR X (.builtin id) r) (ok : OkC X.K r g) (hg : Gl X x) (hm : X.mg x = none) (hv : bootBuiltins x = some (.builtin id)) (ha : PA X (e :: es) (rdA X.K f)) (hn : x ≠ "__name__" := by decide) (hdb : (x == ("__debug__" : Str)) = false := by decide)
    (he : starEach (e :: es) X.env = (false, eval e X.env) :: starEach es X.env := by rfl) (hpl : (backTo pos (starEach es X.env)).any (·.1) = false := by rfl) : PE X (.Call (.Name x p) (e :: es) [] pos) (rdE X.K (eCB g f)) :=
  pe_imp (pe_callB hc hg hm hv ha hn hdb he hpl) fun _ _ _ => rd_cb ok
theorem pd_ct {g : List D → Option D} (hc : CallR X (.type T) r) (ok : OkC X.K r g) (hg : Gl X x) (hm : X.mg x = none) (hv : bootBuiltins x = some (.type T)) (ha : PA X (e :: es) (rdA X.K f)) (hn : x ≠ "__name__" := by decide) (hdb : (x == ("__debug__" : Str)) = false := by decide)
    (he : starEach (e :: es) X.env = (false, eval e X.env) :: starEach es X.env := by rfl) (hpl : (backTo pos (starEach es X.env)).any (·.1) = false := by rfl) : PE X (.Call (.Name x p) (e :: es) [] pos) (rdE X.K (eCB g f)) :=
  pe_imp (pe_callTy hc hg hm hv ha hn hdb he hpl) fun _ _ _ => rd_cb ok
theorem pf_ct {g : List D → Option (List D)} (hc : CallR X (.type T) r) (ok : OkF X.K r g) (hg : Gl X x) (hm : X.mg x = none) (hv : bootBuiltins x = some (.type T)) (ha : PA X (e :: es) (rdA X.K f)) (hn : x ≠ "__name__" := by decide) (hdb : (x == ("__debug__" : Str)) = false := by decide)
    (he : starEach (e :: es) X.env = (false, eval e X.env) :: starEach es X.env := by rfl) (hpl : (backTo pos (starEach es X.env)).any (·.1) = false := by rfl) : PE X (.Call (.Name x p) (e :: es) [] pos) (rdF X.K (eCF g f)) :=
  pe_imp (pe_callTy hc hg hm hv ha hn hdb he hpl) fun _ _ _ => rd_cf ok
/-- the name of a built-in type as a value -/
theorem pd_ty {x : Str} {t : Tk} (hg : Gl X x) (hm : X.mg x = none) (hv : bootBuiltins x = some (.type t.nm)) (hn : x ≠ "__name__" := by decide) (hd : (x == ("__debug__" : Str)) = false := by decide) : PE X (.Name x pos) (rdE X.K (eC (.ty t))) :=
  pe_imp (pe_bltn (v := .ty t.nm) hg hm hv rfl hn hd) fun _ _ _ => rd_c fun _ => .ty t
end
def cAbs : List D → Option D
  | [.int i] => some (.int (if i < 0 then -i else i))
  | _ => none
def cLen : List D → Option D
  | [.lst ds] => some (.int ds.length)
  | [.tup ds] => some (.int ds.length)
  | [.str z] => if okLen z.length then some (.int z.length) else none
  | _ => none
def cInt : List D → Option D
  | [.int i] => some (.int i)
  | [.bl b] => some (.int (if b then 1 else 0))
  | _ => none
def cList : List D → Option (List D)
  | [.lst ds] => some ds
  | [.tup ds] => some ds
  | _ => none
def cMin2 : List D → Option D
  | [.int i, .int j] => some (.int (if j < i then j else i))
  | _ => none
def cMax2 : List D → Option D
  | [.int i, .int j] => some (.int (if j > i then j else i))
  | _ => none
def allInt : List D → Option (List Int)
  | [] => some []
  | .int i :: r => (allInt r).map (i :: ·)
  | _ => none
def allBl : List D → Option (List Bool)
  | [] => some []
  | .bl i :: r => (allBl r).map (i :: ·)
  | _ => none
def cSum : List D → Option D
  | [.lst ds] => (allInt ds).map fun ns => .int ns.sum
  | _ => none
def cAll : List D → Option D
  | [.lst ds] => (allBl ds).map fun ns => .bl (ns.all id)
  | _ => none
def cAny : List D → Option D
  | [.lst ds] => (allBl ds).map fun ns => .bl (ns.any id)
  | _ => none
def kdOf : D → Option Tk
  | .bl _ => some .bool
  | .int _ => some .int
  | .str _ => some .str
  | .tup _ => some .tuple
  | .lst _ => some .list
  | .dic _ => some .dict
  | _ => none
def isiTk (a b : Tk) : Bool := decide (a = b) || (decide (a = .bool) && decide (b = .int))
def cIsi : List D → Option D
  | [d, .ty t] => match d with
    | .non => some (.bl false)
    | .bl _ => some (.bl (isiTk .bool t))
    | .int _ => some (.bl (isiTk .int t))
    | .str _ => some (.bl (isiTk .str t))
    | .tup _ => some (.bl (isiTk .tuple t))
    | .lst _ => some (.bl (isiTk .list t))
    | .dic _ => some (.bl (isiTk .dict t))
    | _ => none
  | _ => none
section
variable {K : PySem.W.Frag} {H : Hp}
theorem Dns.ints : ∀ {vs : List V} {ds : List D} {ns : List Int}, Dns K H vs ds → allInt ds = some ns → vs = ns.map V.int
  | _, _, _, .nil, h => by cases h; rfl
  | _, _, ns, .cons (d := d) q r, h => by
    cases d <;> simp only [allInt] at h <;> try cases h
    rename_i i
    cases q
    cases e : allInt _ with
    | none => rw [e] at h; cases h
    | some ms =>
      rw [e] at h
      cases h
      rw [Dns.ints r e]; rfl
theorem Dns.bls : ∀ {vs : List V} {ds : List D} {ns : List Bool}, Dns K H vs ds → allBl ds = some ns → vs = ns.map V.bl
  | _, _, _, .nil, h => by cases h; rfl
  | _, _, ns, .cons (d := d) q r, h => by
    cases d <;> simp only [allBl] at h <;> try cases h
    rename_i i
    cases q
    cases e : allBl _ with
    | none => rw [e] at h; cases h
    | some ms =>
      rw [e] at h
      cases h
      rw [Dns.bls r e]; rfl
theorem okc_abs : OkC K (fun xs H Q => ∃ i, xs = [.int i] ∧ Q (.int (if i < 0 then -i else i)) H) cAbs := by
  intro H Hv vs ds d Q e r h k
  unfold cAbs at h
  split at h
  · cases h
    cases r with
    | cons q r =>
      cases r; cases q
      exact ⟨_, rfl, k _ H Hv (.refl e) (.int _)⟩
  · cases h
theorem okc_len : OkC K (fun xs H Q => (∃ p ys, xs = [.ref p] ∧ (SqL K H p ys ∨ SqT K H p ys) ∧ Q (.int ys.length) H) ∨ ∃ z, xs = [.str z] ∧ z.length ≤ sizeLine ∧ Q (.int z.length) H) cLen := by
  intro H Hv vs ds d Q e r h k
  unfold cLen at h
  split at h
  · cases h
    cases r with
    | cons q r =>
      cases r
      cases q with
      | lst hs r => exact .inl ⟨_, _, rfl, .inl (sameL e hs), by rw [r.length]; exact k _ H Hv (.refl e) (.int _)⟩
  · cases h
    cases r with
    | cons q r =>
      cases r
      cases q with
      | tup hs r => exact .inl ⟨_, _, rfl, .inr (sameT e hs), by rw [r.length]; exact k _ H Hv (.refl e) (.int _)⟩
  · split at h
    · rename_i c
      cases h
      cases r with
      | cons q r =>
        cases r; cases q
        exact .inr ⟨_, rfl, okLen_le c, k _ H Hv (.refl e) (.int _)⟩
    · cases h
  · cases h
theorem okc_int : OkC K (fun xs H Q => (∃ i, xs = [.int i] ∧ Q (.int i) H) ∨ ∃ k, xs = [.bl k] ∧ Q (.int (if k then 1 else 0)) H) cInt := by
  intro H Hv vs ds d Q e r h k
  unfold cInt at h
  split at h
  · cases h
    cases r with
    | cons q r =>
      cases r; cases q
      exact .inl ⟨_, rfl, k _ H Hv (.refl e) (.int _)⟩
  · cases h
    cases r with
    | cons q r =>
      cases r; cases q
      exact .inr ⟨_, rfl, k _ H Hv (.refl e) (.int _)⟩
  · cases h
theorem okf_list : OkF K (fun xs H Q => ∃ p ys, xs = [.ref p] ∧ (SqL K H p ys ∨ SqT K H p ys) ∧ ∀ l, H l = none → Q (.ref l) (upd H l (.lst ys))) cList := by
  intro H Hv vs ds d Q e r h k
  unfold cList at h
  split at h
  · cases h
    cases r with
    | cons q r =>
      cases r
      cases q with
      | lst hs r => exact ⟨_, _, rfl, .inl (sameL e hs), fun l hl => k _ _ _ _ (Stp.newH e hl) hl (e.free hl) upd_same r⟩
  · cases h
    cases r with
    | cons q r =>
      cases r
      cases q with
      | tup hs r => exact ⟨_, _, rfl, .inr (sameT e hs), fun l hl => k _ _ _ _ (Stp.newH e hl) hl (e.free hl) upd_same r⟩
  · cases h
theorem okc_min2 : OkC K (fun xs H Q => ∃ i j, xs = [.int i, .int j] ∧ Q (.int (if j < i then j else i)) H) cMin2 := by
  intro H Hv vs ds d Q e r h k
  unfold cMin2 at h
  split at h
  · cases h
    cases r with
    | cons q r =>
      cases r with
      | cons q2 r =>
        cases r; cases q; cases q2
        exact ⟨_, _, rfl, k _ H Hv (.refl e) (.int _)⟩
  · cases h
theorem okc_max2 : OkC K (fun xs H Q => ∃ i j, xs = [.int i, .int j] ∧ Q (.int (if j > i then j else i)) H) cMax2 := by
  intro H Hv vs ds d Q e r h k
  unfold cMax2 at h
  split at h
  · cases h
    cases r with
    | cons q r =>
      cases r with
      | cons q2 r =>
        cases r; cases q; cases q2
        exact ⟨_, _, rfl, k _ H Hv (.refl e) (.int _)⟩
  · cases h
theorem okc_sum : OkC K (rSum K) cSum := by
  intro H Hv vs ds d Q e r h k
  unfold cSum at h
  split at h
  · rename_i l
    cases e1 : allInt l with
    | none => rw [e1] at h; cases h
    | some ns =>
      rw [e1] at h
      cases h
      cases r with
      | cons q r =>
        cases r
        cases q with
        | lst hs r =>
          have := r.ints e1
          subst this
          exact ⟨_, ns, rfl, sameL e hs, k _ H Hv (.refl e) (.int _)⟩
  · cases h
theorem okc_all : OkC K (rAll K) cAll := by
  intro H Hv vs ds d Q e r h k
  unfold cAll at h
  split at h
  · rename_i l
    cases e1 : allBl l with
    | none => rw [e1] at h; cases h
    | some ns =>
      rw [e1] at h
      cases h
      cases r with
      | cons q r =>
        cases r
        cases q with
        | lst hs r =>
          have := r.bls e1
          subst this
          exact ⟨_, ns, rfl, sameL e hs, k _ H Hv (.refl e) (.bl _)⟩
  · cases h
theorem okc_any : OkC K (rAny K) cAny := by
  intro H Hv vs ds d Q e r h k
  unfold cAny at h
  split at h
  · rename_i l
    cases e1 : allBl l with
    | none => rw [e1] at h; cases h
    | some ns =>
      rw [e1] at h
      cases h
      cases r with
      | cons q r =>
        cases r
        cases q with
        | lst hs r =>
          have := r.bls e1
          subst this
          exact ⟨_, ns, rfl, sameL e hs, k _ H Hv (.refl e) (.bl _)⟩
  · cases h
theorem kit_tab (a b : Tk) : kitB a.nm b.nm = some (isiTk a b) := by
  cases a <;> cases b <;> decide +kernel
theorem kit_non (b : Tk) : kitB "NoneType" b.nm = some false := by
  cases b <;> decide +kernel
theorem tyx_list {a : Addr} {vs : List V} (h : SqL K H a vs) : TyX K H (.ref a) (.type "list") := by
  rcases h with (h | ⟨o, h⟩) | ⟨o, its, n, h, c, _⟩
  · exact .base (.lst h)
  · exact .base (.frz h)
  · exact .kList h c
theorem tyx_tup {a : Addr} {vs : List V} (h : SqT K H a vs) : TyX K H (.ref a) (.type "tuple") := by
  rcases h with (h | ⟨o, h⟩) | ⟨o, its, n, h, c, _⟩
  · exact .base (.tup h)
  · exact .fTuple h
  · exact .kTuple h c
theorem okc_isi : OkC K (rIsi K) cIsi := by
  intro H Hv vs ds d Q e r h k
  unfold cIsi at h
  split at h
  · rename_i x t
    cases r with
    | cons q r =>
      cases r with
      | cons q2 r =>
        cases r
        cases q2
        cases q <;> simp only at h <;> try cases h
        · exact ⟨_, _, _, _, _, rfl, .ty _, .base .non, kit_ty (kit_non t), k _ H Hv (.refl e) (.bl _)⟩
        · exact ⟨_, _, _, _, _, rfl, .ty _, .base (.bl _), kit_ty (kit_tab .bool t), k _ H Hv (.refl e) (.bl _)⟩
        · exact ⟨_, _, _, _, _, rfl, .ty _, .base (.int _), kit_ty (kit_tab .int t), k _ H Hv (.refl e) (.bl _)⟩
        · exact ⟨_, _, _, _, _, rfl, .ty _, .base (.str _), kit_ty (kit_tab .str t), k _ H Hv (.refl e) (.bl _)⟩
        · rename_i hs r
          exact ⟨_, _, _, _, _, rfl, .ty _, tyx_tup (sameT e hs), kit_ty (kit_tab .tuple t), k _ H Hv (.refl e) (.bl _)⟩
        · rename_i hs r
          exact ⟨_, _, _, _, _, rfl, .ty _, tyx_list (sameL e hs), kit_ty (kit_tab .list t), k _ H Hv (.refl e) (.bl _)⟩
        · rename_i hs r
          exact ⟨_, _, _, _, _, rfl, .ty _, .base (.dK (e _ _ hs)), kit_ty (kit_tab .dict t), k _ H Hv (.refl e) (.bl _)⟩
  · cases h
end
end PD
namespace PD
open PySem L2
/-! ### what never changes: data without lists -/
mutual
def imm : D → Bool
  | .tup ds => imms ds
  | .lst _ => false
  | .dic _ => false
  | .ins _ _ => false
  | _ => true
def imms : List D → Bool
  | [] => true
  | d :: ds => imm d && imms ds
end
/-- the view and all tuples -/
def tupV (Hv H : Hp) : Hp := fun a => match Hv a with
  | some o => some o
  | none => match H a with
    | some (.tup xs) => some (.tup xs)
    | some (.frz o (.tup xs)) => some (.frz o (.tup xs))
    | _ => none
theorem tupV_a (Hv H : Hp) : Same Hv (tupV Hv H) := fun a o e => by unfold tupV; rw [e]
theorem tupV_c {Hv H : Hp} (s : Same Hv H) : Same (tupV Hv H) H := fun a o e => by
  unfold tupV at e
  cases h : Hv a with
  | some u => rw [h] at e; cases e; exact s _ _ h
  | none =>
    rw [h] at e
    simp only at e
    split at e
    · rename_i q; cases e; exact q
    · rename_i q; cases e; exact q
    · cases e
theorem tupV_h {Hv H : Hp} {p : Addr} {o : HO} (m : Mb o = true) (h : H p = some o) (n : Hv p = none) : tupV Hv H p = none := by
  unfold tupV
  rw [n, h]
  cases o <;> first | rfl | cases m
section
variable {K : PySem.W.Frag} {H Hv : Hp}
theorem tupV_t {a : Addr} {vs : List V} (s : Same Hv H) (h : SqT K H a vs) : SqT K (tupV Hv H) a vs := by
  rcases h with (h | ⟨o, h⟩) | h
  · refine .inl (.inl ?_)
    unfold tupV
    cases e : Hv a with
    | some u => have := s _ _ e; rw [h] at this; cases this; rfl
    | none => simp only [h]
  · refine .inl (.inr ⟨o, ?_⟩)
    unfold tupV
    cases e : Hv a with
    | some u => have := s _ _ e; rw [h] at this; cases this; rfl
    | none => simp only [h]
  · exact .inr h
mutual
theorem Dn.imm (s : Same Hv H) : ∀ {v : V} {d : D}, Dn K H v d → imm d = true → Dn K (tupV Hv H) v d
  | _, _, .ty t, _ => .ty t
  | _, _, .non, _ => .non
  | _, _, .bl b, _ => .bl b
  | _, _, .int i, _ => .int i
  | _, _, .str x, _ => .str x
  | _, _, .ob a, _ => .ob a
  | _, _, .tup h r, m => .tup (tupV_t s h) (Dns.imm s r (by simpa only [PD.imm] using m))
  | _, _, .lst _ _, m => by simp [PD.imm] at m
  | _, _, .dic _ _, m => by simp [PD.imm] at m
  | _, _, .ins _ _, m => by simp [PD.imm] at m
theorem Dns.imm (s : Same Hv H) : ∀ {v : List V} {d : List D}, Dns K H v d → imms d = true → Dns K (tupV Hv H) v d
  | _, _, .nil, _ => .nil
  | _, _, .cons h r, m => by
    simp only [imms, Bool.and_eq_true] at m
    exact .cons (Dn.imm s h m.1) (Dns.imm s r m.2)
end
end

/-! ### slots owned, slots told -/
inductive Own (K : PySem.W.Frag) (H : Hp) : HO → D → Prop
  | lst {vs : List V} {ds : List D} : Dns K H vs ds → Own K H (.lst vs) (.lst ds)
  | dic {vs : List (Key × V)} {ds : List (Key × D)} : Dks K H vs ds → Own K H (.dK vs) (.dic ds)
theorem Own.mono {K : PySem.W.Frag} {H H' : Hp} (e : Same H H') : ∀ {o : HO} {d : D}, Own K H o d → Own K H' o d
  | _, _, .lst r => .lst (r.mono e)
  | _, _, .dic r => .dic (r.mono e)
theorem Own.mb {K : PySem.W.Frag} {H : Hp} : ∀ {o : HO} {d : D}, Own K H o d → Mb o = true
  | _, _, .lst _ => rfl
  | _, _, .dic _ => rfl
theorem Own.dn {K : PySem.W.Frag} {H : Hp} {p : Addr} : ∀ {o : HO} {d : D}, Own K H o d → H p = some o → Dn K H (.ref p) d
  | _, _, .lst r, h => .lst (.of h) r
  | _, _, .dic r, h => .dic h r
def mask : List Nat → En → En
  | [], ρ => ρ
  | i :: O, ρ => (mask O ρ).set i none
theorem mask_length (ρ : En) : ∀ O : List Nat, (mask O ρ).length = ρ.length
  | [] => rfl
  | i :: O => by unfold mask; rw [List.length_set, mask_length ρ O]
theorem mask_some {ρ : En} {i : Nat} {d : D} : ∀ {O : List Nat}, (mask O ρ)[i]? = some (some d) → ρ[i]? = some (some d) ∧ i ∉ O
  | [], h => ⟨h, by simp⟩
  | j :: O, h => by
    unfold mask at h
    by_cases hi : j = i
    · subst hi
      by_cases hv : j < (mask O ρ).length
      · rw [List.getElem?_set_self hv] at h; cases h
      · rw [List.getElem?_eq_none (by simpa using hv)] at h; cases h
    · rw [List.getElem?_set_ne hi] at h
      obtain ⟨h1, h2⟩ := mask_some h
      exact ⟨h1, by simp only [List.mem_cons, not_or]; exact ⟨fun e => hi e.symm, h2⟩⟩
theorem mask_out {ρ : En} {i : Nat} : ∀ {O : List Nat}, i ∉ O → (mask O ρ)[i]? = ρ[i]?
  | [], _ => rfl
  | j :: O, h => by
    simp only [List.mem_cons, not_or] at h
    unfold mask
    rw [List.getElem?_set_ne (Ne.symm h.1)]
    exact mask_out h.2
theorem mask_set {ρ : En} {i : Nat} {x : Option D} : ∀ {O : List Nat}, i ∉ O → mask O (ρ.set i x) = (mask O ρ).set i x
  | [], _ => rfl
  | j :: O, h => by
    simp only [List.mem_cons, not_or] at h
    unfold mask
    rw [mask_set h.2, List.set_comm _ _ h.1]

structure Ok (K : PySem.W.Frag) (O : List Nat) (H0 Hv0 Hb : Hp) (σ : St) (ρ : En) (H Hv : Hp) : Prop where
  len : σ.length = ρ.length
  ex : Same H0 H
  vex : Same Hv0 Hv
  vb : Same Hb Hv
  vin : Same Hv H
  hid : ∀ p o, Mb o = true → H0 p = some o → Hv0 p = none → Hv p = none
  fz : ∀ (i : Nat) (d : D), i ∉ O → ρ[i]? = some (some d) → ∃ v, σ[i]? = some (some v) ∧ Dn K Hv v d
  ow : ∀ (i : Nat) (d : D), i ∈ O → ρ[i]? = some (some d) → ∃ p o, Own K Hv o d ∧ σ[i]? = some (some (.ref p)) ∧ H0 p = none ∧ Hv p = none ∧ H p = some o
  sep : ∀ (i j : Nat) (d d' : D) (p : Addr), i ∈ O → j ∈ O → ρ[i]? = some (some d) → ρ[j]? = some (some d') → σ[i]? = some (some (.ref p)) → σ[j]? = some (some (.ref p)) → i = j
section
variable {K : PySem.W.Frag} {O : List Nat} {H0 Hv0 Hb : Hp} {σ : St} {ρ : En} {H Hv : Hp}
/-- all slots, told in H -/
theorem Ok.full (k : Ok K O H0 Hv0 Hb σ ρ H Hv) : EOk K H σ ρ := ⟨k.len, fun i d e => by
  by_cases hi : i ∈ O
  · obtain ⟨p, o, h3, h1, _, _, h2⟩ := k.ow i d hi e
    exact ⟨_, h1, (h3.mono k.vin).dn h2⟩
  · obtain ⟨v, h1, h2⟩ := k.fz i d hi e
    exact ⟨v, h1, h2.mono k.vin⟩⟩
theorem Ok.msk (k : Ok K O H0 Hv0 Hb σ ρ H Hv) : EOk K Hv σ (mask O ρ) := ⟨by rw [mask_length]; exact k.len, fun i d e => by
  obtain ⟨h1, h2⟩ := mask_some e
  exact k.fz i d h2 h1⟩
/-- what is new since the entry, told too -/
def allV (H0 Hv H : Hp) : Hp := fun a => match Hv a with
  | some o => some o
  | none => match H0 a with
    | none => H a
    | some _ => none
theorem allV_a (H0 Hv H : Hp) : Same Hv (allV H0 Hv H) := fun a o e => by unfold allV; rw [e]
theorem allV_c {H0 Hv H : Hp} (s : Same Hv H) : Same (allV H0 Hv H) H := fun a o e => by
  unfold allV at e
  cases h : Hv a with
  | some u => rw [h] at e; cases e; exact s _ _ h
  | none =>
    rw [h] at e
    simp only at e
    split at e
    · exact e
    · cases e
theorem Ok.all (k : Ok K O H0 Hv0 Hb σ ρ H Hv) : EOk K (allV H0 Hv H) σ ρ := ⟨k.len, fun i d e => by
  by_cases hi : i ∈ O
  · obtain ⟨p, o, h3, h1, n0, nv, h2⟩ := k.ow i d hi e
    refine ⟨_, h1, (h3.mono (allV_a _ _ _)).dn ?_⟩
    unfold allV
    rw [nv, n0]
    exact h2
  · obtain ⟨v, h1, h2⟩ := k.fz i d hi e
    exact ⟨v, h1, h2.mono (allV_a _ _ _)⟩⟩
theorem Ok.stp (k : Ok K O H0 Hv0 Hb σ ρ H Hv) : Stp H0 Hv0 H Hv := ⟨k.ex, k.vex, k.vin, k.hid⟩
theorem Ok.stpA (k : Ok K O H0 Hv0 Hb σ ρ H Hv) : Stp H0 Hv0 H (allV H0 Hv H) := ⟨k.ex, k.vex.trans (allV_a _ _ _), allV_c k.vin, fun p o m h n => by
  unfold allV
  rw [k.hid p o m h n, h]⟩
theorem Ok.step {H' Hv' : Hp} (k : Ok K O H0 Hv0 Hb σ ρ H Hv) (s : Stp H Hv H' Hv') : Ok K O H0 Hv0 Hb σ ρ H' Hv' :=
  ⟨k.len, k.ex.trans s.a, k.vex.trans s.b, k.vb.trans s.b, s.c, fun p o m h n => s.h p o m (k.ex _ _ h) (k.hid p o m h n),
   fun i d hi e => let ⟨v, a, b⟩ := k.fz i d hi e; ⟨v, a, b.mono s.b⟩,
   fun i d hi e => let ⟨p, o, r, b, n0, nv, c⟩ := k.ow i d hi e; ⟨p, o, r.mono s.b, b, n0, s.h p o r.mb c nv, s.a _ _ c⟩, k.sep⟩
theorem Ok.grow {H' : Hp} (k : Ok K O H0 Hv0 Hb σ ρ H Hv) (s : Same H H') : Ok K O H0 Hv0 Hb σ ρ H' Hv := k.step ⟨s, .refl _, k.vin.trans s, fun _ _ _ _ n => n⟩
theorem Ok.base (k : Ok K O H0 Hv0 Hb σ ρ H Hv) : Ok K O H0 Hv0 Hv σ ρ H Hv := ⟨k.len, k.ex, k.vex, .refl _, k.vin, k.hid, k.fz, k.ow, k.sep⟩
theorem Ok.rebase {Hc : Hp} (k : Ok K O H0 Hv0 Hc σ ρ H Hv) (s : Same Hb Hc) : Ok K O H0 Hv0 Hb σ ρ H Hv := ⟨k.len, k.ex, k.vex, s.trans k.vb, k.vin, k.hid, k.fz, k.ow, k.sep⟩
theorem get_set_self {α : Type} {l : List α} {i : Nat} {x : α} {y : α} (h : (l.set i x)[i]? = some y) : i < l.length ∧ x = y := by
  by_cases hi : i < l.length
  · rw [List.getElem?_set_self hi] at h; cases h; exact ⟨hi, rfl⟩
  · rw [List.getElem?_eq_none (by simpa using hi)] at h; cases h
theorem Ok.setF {i : Nat} {v : V} {d : D} (k : Ok K O H0 Hv0 Hb σ ρ H Hv) (hi : i ∉ O) (q : Dn K Hv v d) : Ok K O H0 Hv0 Hb (σ.set i (some v)) (ρ.set i (some d)) H Hv := by
  have ne : ∀ j, j ∈ O → i ≠ j := fun j hj e => hi (e ▸ hj)
  refine ⟨by simp [k.len], k.ex, k.vex, k.vb, k.vin, k.hid, fun j d' hj e => ?_, fun j d' hj e => ?_, fun j j' d1 d2 p hj hj' e1 e2 e3 e4 => ?_⟩
  · by_cases h : i = j
    · subst h
      obtain ⟨h1, h2⟩ := get_set_self e
      cases h2
      exact ⟨v, List.getElem?_set_self (by rw [k.len]; exact h1), q⟩
    · rw [List.getElem?_set_ne h] at e ⊢
      exact k.fz j d' hj e
  · rw [List.getElem?_set_ne (ne j hj)] at e ⊢
    exact k.ow j d' hj e
  · rw [List.getElem?_set_ne (ne j hj)] at e1 e3
    rw [List.getElem?_set_ne (ne j' hj')] at e2 e4
    exact k.sep j j' d1 d2 p hj hj' e1 e2 e3 e4
/-- an owned slot takes a list that is not told and that no other owned slot holds -/
theorem Ok.setO {i : Nat} {p : Addr} {o : HO} {dd : D} (k : Ok K O H0 Hv0 Hb σ ρ H Hv) (hi : i ∈ O) (n0 : H0 p = none) (nv : Hv p = none) (hp : H p = some o) (q : Own K Hv o dd)
    (nx : ∀ (j : Nat) (d : D), j ∈ O → j ≠ i → ρ[j]? = some (some d) → σ[j]? ≠ some (some (.ref p))) : Ok K O H0 Hv0 Hb (σ.set i (some (.ref p))) (ρ.set i (some dd)) H Hv := by
  refine ⟨by simp [k.len], k.ex, k.vex, k.vb, k.vin, k.hid, fun j d' hj e => ?_, fun j d' hj e => ?_, fun j j' d1 d2 p' hj hj' e1 e2 e3 e4 => ?_⟩
  · have h : i ≠ j := fun e => hj (e ▸ hi)
    rw [List.getElem?_set_ne h] at e ⊢
    exact k.fz j d' hj e
  · by_cases h : i = j
    · subst h
      obtain ⟨h1, h2⟩ := get_set_self e
      cases h2
      exact ⟨p, o, q, List.getElem?_set_self (by rw [k.len]; exact h1), n0, nv, hp⟩
    · rw [List.getElem?_set_ne h] at e ⊢
      exact k.ow j d' hj e
  · by_cases h : i = j
    · by_cases h' : i = j'
      · rw [← h, ← h']
      · exfalso
        subst h
        obtain ⟨_, z⟩ := get_set_self e3
        cases z
        rw [List.getElem?_set_ne h'] at e2 e4
        exact nx j' d2 hj' (Ne.symm h') e2 e4
    · rw [List.getElem?_set_ne h] at e1 e3
      by_cases h' : i = j'
      · exfalso
        subst h'
        obtain ⟨_, z⟩ := get_set_self e4
        cases z
        exact nx j d1 hj (Ne.symm h) e1 e3
      · rw [List.getElem?_set_ne h'] at e2 e4
        exact k.sep j j' d1 d2 p' hj hj' e1 e2 e3 e4
/-- an owned list is changed -/
theorem Ok.upd {i : Nat} {p : Addr} {ob : HO} {dd de : D} (k : Ok K O H0 Hv0 Hb σ ρ H Hv) (hi : i ∈ O) (hρ : ρ[i]? = some (some de)) (hσ : σ[i]? = some (some (.ref p))) (n0 : H0 p = none) (nv : Hv p = none) (q : Own K Hv ob dd) :
    Ok K O H0 Hv0 Hb σ (ρ.set i (some dd)) (L2.upd H p ob) Hv := by
  have hlen : i < ρ.length := (List.getElem?_eq_some_iff.mp hρ).1
  refine ⟨by simp [k.len], sameMut k.ex n0, k.vex, k.vb, sameMut k.vin nv, k.hid, fun j d' hj e => ?_, fun j d' hj e => ?_, fun j j' d1 d2 p' hj hj' e1 e2 e3 e4 => ?_⟩
  · have h : i ≠ j := fun e => hj (e ▸ hi)
    rw [List.getElem?_set_ne h] at e
    exact k.fz j d' hj e
  · by_cases h : i = j
    · subst h
      obtain ⟨h1, h2⟩ := get_set_self e
      cases h2
      exact ⟨p, ob, q, hσ, n0, nv, upd_same⟩
    · rw [List.getElem?_set_ne h] at e
      obtain ⟨p', o', a1, a2, a3, a4, a5⟩ := k.ow j d' hj e
      refine ⟨p', o', a1, a2, a3, a4, ?_⟩
      rw [upd_ne ?_]
      · exact a5
      · intro z
        subst z
        exact h (k.sep i j _ _ p' hi hj hρ e hσ a2)
  · have get : ∀ (m : Nat) (d : D), (ρ.set i (some dd))[m]? = some (some d) → ∃ d', ρ[m]? = some (some d') := fun m d e => by
      by_cases h : i = m
      · subst h; exact ⟨_, hρ⟩
      · rw [List.getElem?_set_ne h] at e; exact ⟨_, e⟩
    obtain ⟨d1', e1'⟩ := get j d1 e1
    obtain ⟨d2', e2'⟩ := get j' d2 e2
    exact k.sep j j' d1' d2' p' hj hj' e1' e2' e3 e4
end

/-! ### statements -/
theorem Ok.owL {K : PySem.W.Frag} {O : List Nat} {H0 Hv0 Hb : Hp} {σ : St} {ρ : En} {H Hv : Hp} {i : Nat} {es : List D} (k : Ok K O H0 Hv0 Hb σ ρ H Hv) (hi : i ∈ O) (e : ρ[i]? = some (some (.lst es))) :
    ∃ p vs ds, D.lst es = .lst ds ∧ σ[i]? = some (some (.ref p)) ∧ H0 p = none ∧ Hv p = none ∧ H p = some (.lst vs) ∧ Dns K Hv vs ds := by
  obtain ⟨p, o, a1, a2, a3, a4, a5⟩ := k.ow i _ hi e
  cases a1 with
  | lst r => exact ⟨p, _, es, rfl, a2, a3, a4, a5, r⟩
theorem Ok.owK {K : PySem.W.Frag} {O : List Nat} {H0 Hv0 Hb : Hp} {σ : St} {ρ : En} {H Hv : Hp} {i : Nat} {es : List (Key × D)} (k : Ok K O H0 Hv0 Hb σ ρ H Hv) (hi : i ∈ O) (e : ρ[i]? = some (some (.dic es))) :
    ∃ p vs, σ[i]? = some (some (.ref p)) ∧ H0 p = none ∧ Hv p = none ∧ H p = some (.dK vs) ∧ Dks K Hv vs es := by
  obtain ⟨p, o, a1, a2, a3, a4, a5⟩ := k.ow i _ hi e
  cases a1 with
  | dic r => exact ⟨p, _, a2, a3, a4, a5, r⟩
inductive Out where
  | nx (ρ : En) | rt (d : D) | rf (ds : List D) | bk (ρ : En) | ct (ρ : En)
def Rt (K : PySem.W.Frag) (H0 Hv0 : Hp) (v : V) (H' : Hp) (d : D) : Prop := ∃ Hv', Stp H0 Hv0 H' Hv' ∧ Dn K Hv' v d
def RtF (K : PySem.W.Frag) (H0 Hv0 : Hp) (v : V) (H' : Hp) (ds : List D) : Prop := ∃ p vs Hv', v = .ref p ∧ Stp H0 Hv0 H' Hv' ∧ H0 p = none ∧ Hv' p = none ∧ H' p = some (.lst vs) ∧ Dns K Hv' vs ds
def Post (K : PySem.W.Frag) (O : List Nat) (H0 Hv0 Hb : Hp) (D : Ends) : Out → Prop
  | .nx ρ => ∀ σ H Hv, Ok K O H0 Hv0 Hb σ ρ H Hv → D.nx σ H
  | .bk ρ => ∀ σ H Hv, Ok K O H0 Hv0 Hb σ ρ H Hv → D.bk σ H
  | .ct ρ => ∀ σ H Hv, Ok K O H0 Hv0 Hb σ ρ H Hv → D.ct σ H
  | .rt d => ∀ v H', Rt K H0 Hv0 v H' d → D.rt v H'
  | .rf ds => ∀ v H', RtF K H0 Hv0 v H' ds → D.rt v H'
def rdS (K : PySem.W.Frag) (O : List Nat) (F : En → Option Out) : TS := fun D σ H => ∃ (H0 Hv0 Hb Hv : Hp) (ρ : En) (o : Out), Ok K O H0 Hv0 Hb σ ρ H Hv ∧ F ρ = some o ∧ Post K O H0 Hv0 Hb D o
def sSeq (F G : En → Option Out) (ρ : En) : Option Out := (F ρ).bind fun o => match o with
  | .nx ρ' => G ρ'
  | o => some o
def sNil (ρ : En) : Option Out := some (.nx ρ)
def sIf (c : En → Option Bool) (F G : En → Option Out) (ρ : En) : Option Out := (c ρ).bind fun b => if b then F ρ else G ρ
def sBrk (ρ : En) : Option Out := some (.bk ρ)
def sCont (ρ : En) : Option Out := some (.ct ρ)
def sAsg (O : List Nat) (i : Nat) (f : En → Option D) (ρ : En) : Option Out := (f (mask O ρ)).map fun d => .nx (ρ.set i (some d))
def sAsgI (i : Nat) (f : En → Option D) (ρ : En) : Option Out := (f ρ).bind fun d => if imm d then some (.nx (ρ.set i (some d))) else none
def sAsgO (O : List Nat) (i : Nat) (f : En → Option (List D)) (ρ : En) : Option Out := (f (mask O ρ)).map fun d => .nx (ρ.set i (some (.lst d)))
def sAsgOI (i : Nat) (f : En → Option (List D)) (ρ : En) : Option Out := (f ρ).bind fun d => if imms d then some (.nx (ρ.set i (some (.lst d)))) else none
def sRet (f : En → Option D) (ρ : En) : Option Out := (f ρ).map .rt
def sRetF (f : En → Option (List D)) (ρ : En) : Option Out := (f ρ).map .rf
def sRetO (i : Nat) (ρ : En) : Option Out := match eV i ρ with | some (.lst ds) => some (.rf ds) | _ => none
def sRetN (_ : En) : Option Out := some (.rt .non)
def sPar (O : List Nat) (i j : Nat) (f g : En → Option D) (ρ : En) : Option Out := (f (mask O ρ)).bind fun d => (g (mask O ρ)).bind fun d' => some (.nx ((ρ.set i (some d)).set j (some d')))
def sApp (O : List Nat) (i : Nat) (f : En → Option D) (ρ : En) : Option Out := match eV i ρ with
  | some (.lst ds) => (f (mask O ρ)).bind fun d => if okLen ds.length then some (.nx (ρ.set i (some (.lst (ds ++ [d]))))) else none
  | _ => none
def sAppI (i : Nat) (f : En → Option D) (ρ : En) : Option Out := match eV i ρ with
  | some (.lst ds) => (f ρ).bind fun d => if okLen ds.length && imm d then some (.nx (ρ.set i (some (.lst (ds ++ [d]))))) else none
  | _ => none
def sSetI (i : Nat) (k : En → Option D) (f : En → Option D) (ρ : En) : Option Out := match eV i ρ with
  | some (.lst ds) => (f ρ).bind fun d => if imm d then (asInt (k ρ)).bind fun z => (ixN ds.length z).bind fun j => some (.nx (ρ.set i (some (.lst (ds.set j d))))) else none
  | _ => none
section
variable {K : PySem.W.Frag} {O : List Nat} {σ : St} {H : Hp} {D' : Ends} {F G : En → Option Out}
theorem rs_nil (h : rdS K O sNil D' σ H) : tNext D' σ H := by
  obtain ⟨H0, Hv0, Hb, Hv, ρ, o, k, f, p⟩ := h
  cases f
  exact p σ H Hv k
theorem rs_brk (h : rdS K O sBrk D' σ H) : tBreak D' σ H := by
  obtain ⟨H0, Hv0, Hb, Hv, ρ, o, k, f, p⟩ := h
  cases f
  exact p σ H Hv k
theorem rs_cont (h : rdS K O sCont D' σ H) : tCont D' σ H := by
  obtain ⟨H0, Hv0, Hb, Hv, ρ, o, k, f, p⟩ := h
  cases f
  exact p σ H Hv k
theorem rs_seq (h : rdS K O (sSeq F G) D' σ H) : tSeq (rdS K O F) (rdS K O G) D' σ H := by
  obtain ⟨H0, Hv0, Hb, Hv, ρ, o, k, f, p⟩ := h
  obtain ⟨o1, h1, f⟩ := bind_some2 f
  refine ⟨H0, Hv0, Hb, Hv, ρ, o1, k, h1, ?_⟩
  cases o1 with
  | nx ρ' => exact fun σ' H' Hv' k' => ⟨H0, Hv0, Hb, Hv', ρ', o, k', f, p⟩
  | rt d => cases f; exact p
  | rf d => cases f; exact p
  | bk d => cases f; exact p
  | ct d => cases f; exact p
theorem rs_if {c : En → Option Bool} (h : rdS K O (sIf c F G) D' σ H) : tIfS (rdT K c) (rdS K O F) (rdS K O G) D' σ H := by
  obtain ⟨H0, Hv0, Hb, Hv, ρ, o, k, f, p⟩ := h
  obtain ⟨b, h1, f⟩ := bind_some2 f
  refine ⟨H, ρ, b, .refl _, k.full, h1, fun H' Hv' s => ?_⟩
  have k' := k.grow s.a
  cases b with
  | true => exact ⟨H0, Hv0, Hb, Hv, ρ, o, k', f, p⟩
  | false => exact ⟨H0, Hv0, Hb, Hv, ρ, o, k', f, p⟩
theorem rs_asg {i : Nat} {f : En → Option D} (hi : i ∉ O) (h : rdS K O (sAsg O i f) D' σ H) : tAsg (rdE K f) (gName i) D' σ H := by
  obtain ⟨H0, Hv0, Hb, Hv, ρ, o, k, f', p⟩ := h
  unfold sAsg at f'
  cases h1 : f (mask O ρ) with
  | none => rw [h1] at f'; cases f'
  | some d =>
    rw [h1] at f'
    cases f'
    exact ⟨Hv, mask O ρ, d, k.vin, k.msk, h1, fun v H' Hv' s q => p _ H' Hv' ((k.step s).setF hi q)⟩
theorem rs_asgI {i : Nat} {f : En → Option D} (hi : i ∉ O) (h : rdS K O (sAsgI i f) D' σ H) : tAsg (rdE K f) (gName i) D' σ H := by
  obtain ⟨H0, Hv0, Hb, Hv, ρ, o, k, f', p⟩ := h
  obtain ⟨d, h1, f'⟩ := bind_some2 f'
  split at f'
  · rename_i m
    cases f'
    refine ⟨H, ρ, d, .refl _, k.full, h1, fun v H' Hv' s q => ?_⟩
    have q' := q.mono s.c
    have k' := k.grow s.a
    exact p _ H' (tupV Hv H') ((k'.step ⟨.refl _, tupV_a _ _, tupV_c k'.vin, fun p o m hp n => tupV_h m hp n⟩).setF hi (q'.imm k'.vin m))
  · cases f'
theorem rs_asgO {i : Nat} {f : En → Option (List D)} (hi : i ∈ O) (h : rdS K O (sAsgO O i f) D' σ H) : tAsg (rdF K f) (gName i) D' σ H := by
  obtain ⟨H0, Hv0, Hb, Hv, ρ, o, k, f', p⟩ := h
  unfold sAsgO at f'
  cases h1 : f (mask O ρ) with
  | none => rw [h1] at f'; cases f'
  | some d =>
    rw [h1] at f'
    cases f'
    refine ⟨Hv, mask O ρ, d, k.vin, k.msk, h1, fun a vs H' Hv' s n n' hp q => p _ H' Hv' ((k.step s).setO hi (k.ex.free n) n' hp (.lst q) fun j d' hj ne e e' => ?_)⟩
    obtain ⟨p', o', a1, a2, a3, a4, a5⟩ := k.ow j d' hj e
    rw [a2] at e'
    cases e'
    rw [n] at a5; cases a5
theorem rs_asgOI {i : Nat} {f : En → Option (List D)} (hi : i ∈ O) (h : rdS K O (sAsgOI i f) D' σ H) : tAsg (rdF K f) (gName i) D' σ H := by
  obtain ⟨H0, Hv0, Hb, Hv, ρ, o, k, f', p⟩ := h
  obtain ⟨d, h1, f'⟩ := bind_some2 f'
  split at f'
  · rename_i m
    cases f'
    refine ⟨H, ρ, d, .refl _, k.full, h1, fun a vs H' Hv' s n n' hp q => ?_⟩
    have k' := k.grow s.a
    have k2 := k'.step (Hv' := tupV Hv H') ⟨.refl _, tupV_a _ _, tupV_c k'.vin, fun p o m hp n => tupV_h m hp n⟩
    refine p _ H' (tupV Hv H') (k2.setO hi (k.ex.free n) (tupV_h rfl hp (k.vin.free n)) hp (.lst ((q.mono s.c).imm k'.vin m)) fun j d' hj ne e e' => ?_)
    obtain ⟨p', o', a1, a2, a3, a4, a5⟩ := k.ow j d' hj e
    rw [a2] at e'
    cases e'
    rw [n] at a5; cases a5
  · cases f'
theorem rs_ret {f : En → Option D} (h : rdS K O (sRet f) D' σ H) : tRet (rdE K f) D' σ H := by
  obtain ⟨H0, Hv0, Hb, Hv, ρ, o, k, f', p⟩ := h
  unfold sRet at f'
  cases h1 : f ρ with
  | none => rw [h1] at f'; cases f'
  | some d =>
    rw [h1] at f'
    cases f'
    exact ⟨allV H0 Hv H, ρ, d, allV_c k.vin, k.all, h1, fun v H' Hv' s q => p v H' ⟨Hv', k.stpA.trans s, q⟩⟩
theorem rs_retN (h : rdS K O sRetN D' σ H) : tRetN D' σ H := by
  obtain ⟨H0, Hv0, Hb, Hv, ρ, o, k, f', p⟩ := h
  cases f'
  exact p .non H ⟨Hv, k.stp, .non⟩
theorem rs_retF {f : En → Option (List D)} (h : rdS K O (sRetF f) D' σ H) : tRet (rdF K f) D' σ H := by
  obtain ⟨H0, Hv0, Hb, Hv, ρ, o, k, f', p⟩ := h
  unfold sRetF at f'
  cases h1 : f ρ with
  | none => rw [h1] at f'; cases f'
  | some d =>
    rw [h1] at f'
    cases f'
    exact ⟨allV H0 Hv H, ρ, d, allV_c k.vin, k.all, h1, fun a vs H' Hv' s n n' hp q => p _ H' ⟨a, vs, Hv', rfl, k.stpA.trans s, k.ex.free n, n', hp, q⟩⟩
theorem rs_retO {i : Nat} (hi : i ∈ O) (h : rdS K O (sRetO i) D' σ H) : tRet (tVar i) D' σ H := by
  obtain ⟨H0, Hv0, Hb, Hv, ρ, o, k, f', p⟩ := h
  unfold sRetO at f'
  split at f'
  · rename_i ds e
    cases f'
    obtain ⟨a, vs, ds', a1, a2, a3, a4, a5, a6⟩ := k.owL hi (eV_some e)
    cases a1
    exact ⟨_, a2, p _ H ⟨a, vs, Hv, rfl, k.stp, a3, a4, a5, a6⟩⟩
  · cases f'
theorem rs_par {i j : Nat} {f g : En → Option D} (hi : i ∉ O) (hj : j ∉ O) (h : rdS K O (sPar O i j f g) D' σ H) : tPar i j (rdA K (aCons f (aCons g aNil))) D' σ H := by
  obtain ⟨H0, Hv0, Hb, Hv, ρ, o, k, f', p⟩ := h
  obtain ⟨d1, h1, f'⟩ := bind_some2 f'
  obtain ⟨d2, h2, f'⟩ := bind_some2 f'
  cases f'
  refine ⟨Hv, mask O ρ, [d1, d2], k.vin, k.msk, by unfold aCons aNil; rw [h1, h2]; rfl, fun vs H' Hv' s q => ?_⟩
  cases q with
  | cons q1 q =>
    cases q with
    | cons q2 q =>
      cases q
      exact ⟨_, _, rfl, p _ H' Hv' (((k.step s).setF hi q1).setF hj q2)⟩
theorem rs_app {i : Nat} {f : En → Option D} (hi : i ∈ O) (h : rdS K O (sApp O i f) D' σ H) : tDrop (tBM K "list" rAppend (tVar i) (tCons (rdE K f) tNil)) D' σ H := by
  obtain ⟨H0, Hv0, Hb, Hv, ρ, o, k, f', p⟩ := h
  unfold sApp at f'
  split at f'
  · rename_i ds e
    have hρ := eV_some e
    obtain ⟨a, vs, ds', a1, a2, a3, a4, a5, a6⟩ := k.owL hi hρ
    cases a1
    obtain ⟨d, h1, f'⟩ := bind_some2 f'
    split at f'
    · rename_i c
      cases f'
      refine ⟨_, a2, Or.inl ⟨rfl, _, .inl (.inl a5)⟩, Hv, mask O ρ, d, k.vin, k.msk, h1, fun v H' Hv' s q => ?_⟩
      have k' := k.step s
      exact ⟨a, vs, v, rfl, rfl, s.a _ _ a5, by rw [a6.length]; exact okLen_lt c, p _ _ Hv' (k'.upd hi hρ a2 a3 (s.h a _ rfl a5 a4) (.lst ((a6.mono s.b).append (.cons q .nil))))⟩
    · cases f'
  · cases f'
theorem rs_appI {i : Nat} {f : En → Option D} (hi : i ∈ O) (h : rdS K O (sAppI i f) D' σ H) : tDrop (tBM K "list" rAppend (tVar i) (tCons (rdE K f) tNil)) D' σ H := by
  obtain ⟨H0, Hv0, Hb, Hv, ρ, o, k, f', p⟩ := h
  unfold sAppI at f'
  split at f'
  · rename_i ds e
    have hρ := eV_some e
    obtain ⟨a, vs, ds', a1, a2, a3, a4, a5, a6⟩ := k.owL hi hρ
    cases a1
    obtain ⟨d, h1, f'⟩ := bind_some2 f'
    split at f'
    · rename_i c
      rw [Bool.and_eq_true] at c
      cases f'
      refine ⟨_, a2, Or.inl ⟨rfl, _, .inl (.inl a5)⟩, H, ρ, d, .refl _, k.full, h1, fun v H' Hv' s q => ?_⟩
      have k' := k.grow s.a
      have k2 := k'.step (Hv' := tupV Hv H') ⟨.refl _, tupV_a _ _, tupV_c k'.vin, fun p o m hp n => tupV_h m hp n⟩
      have a5' := s.a _ _ a5
      exact ⟨a, vs, v, rfl, rfl, a5', by rw [a6.length]; exact okLen_lt c.1, p _ _ _ (k2.upd hi hρ a2 a3 (tupV_h rfl a5' a4) (.lst ((a6.mono (tupV_a _ _)).append (.cons ((q.mono s.c).imm k'.vin c.2) .nil))))⟩
    · cases f'
  · cases f'
theorem rs_setI {i : Nat} {f g : En → Option D} (hi : i ∈ O) (h : rdS K O (sSetI i g f) D' σ H) : tAsg (rdE K f) (gSub (tVar i) (rdE K g) rSetL) D' σ H := by
  obtain ⟨H0, Hv0, Hb, Hv, ρ, o, k, f', p⟩ := h
  unfold sSetI at f'
  split at f'
  · rename_i ds e
    have hρ := eV_some e
    obtain ⟨a, vs, ds', a1, a2, a3, a4, a5, a6⟩ := k.owL hi hρ
    cases a1
    obtain ⟨d, h1, f'⟩ := bind_some2 f'
    split at f'
    · rename_i c
      obtain ⟨z, h2, f'⟩ := bind_some2 f'
      obtain ⟨j, h3, f'⟩ := bind_some2 f'
      cases f'
      refine ⟨H, ρ, d, .refl _, k.full, h1, fun v H' Hv' s q => ?_⟩
      have k' := k.grow s.a
      refine ⟨_, a2, H', ρ, .int z, .refl _, k'.full, asInt_some h2, fun v2 H2 Hv2 s2 q2 => ?_⟩
      cases q2
      have k2 := k'.grow s2.a
      have k3 := k2.step (Hv' := tupV Hv H2) ⟨.refl _, tupV_a _ _, tupV_c k2.vin, fun p o m hp n => tupV_h m hp n⟩
      have a5' := s2.a _ _ (s.a _ _ a5)
      refine ⟨a, vs, z, j, rfl, rfl, a5', by rw [a6.length]; exact h3, p _ _ _ (k3.upd hi hρ a2 a3 (tupV_h rfl a5' a4) (.lst ((a6.mono (tupV_a _ _)).set j (((q.mono s.c).mono s2.a).imm k2.vin c))))⟩
    · cases f'
  · cases f'
end
section
variable {X : Cx} {O : List Nat} {F G : En → Option Out} {pos : Pos}
theorem ss_nil : PSs X [] (rdS X.K O sNil) := pss_imp pss_nil fun _ _ _ => rs_nil
theorem ss_cons {st : Stmt} {rest : List Stmt} (h1 : PS X st (rdS X.K O F)) (h2 : PSs X rest (rdS X.K O G)) : PSs X (st :: rest) (rdS X.K O (sSeq F G)) := pss_imp (pss_cons h1 h2) fun _ _ _ => rs_seq
theorem ss_one {st : Stmt} (h1 : PS X st (rdS X.K O F)) : PSs X [st] (rdS X.K O F) := pss_one h1
theorem sd_if {c : Expr} {a b : List Stmt} {t : En → Option Bool} (hc : PT X c (rdT X.K t)) (ha : PSs X a (rdS X.K O F)) (hb : PSs X b (rdS X.K O G)) : PS X (.If c a b pos) (rdS X.K O (sIf t F G)) := ps_imp (ps_if hc ha hb) fun _ _ _ => rs_if
theorem sd_brk : PS X (.Break pos) (rdS X.K O sBrk) := ps_imp ps_break fun _ _ _ => rs_brk
theorem sd_cont : PS X (.Continue pos) (rdS X.K O sCont) := ps_imp ps_continue fun _ _ _ => rs_cont
theorem sd_pass : PS X (.Pass pos) (rdS X.K O sNil) := ps_imp ps_pass fun _ _ _ => rs_nil
theorem sd_doc {x j p2} : PS X (.Expr (.Constant (.str x) j pos) p2) (rdS X.K O sNil) := ps_imp ps_doc fun _ _ _ => rs_nil
theorem sd_ret {e : Expr} {f : En → Option D} (h : PE X e (rdE X.K f)) : PS X (.Return (some e) pos) (rdS X.K O (sRet f)) := ps_imp (ps_ret h) fun _ _ _ => rs_ret
theorem sd_retF {e : Expr} {f : En → Option (List D)} (h : PE X e (rdF X.K f)) : PS X (.Return (some e) pos) (rdS X.K O (sRetF f)) := ps_imp (ps_ret h) fun _ _ _ => rs_retF
theorem sd_retN : PS X (.Return none pos) (rdS X.K O sRetN) := ps_imp ps_retN fun _ _ _ => rs_retN
theorem sd_retO {i : Nat} {x : Str} {p2 : Pos} (h : PE X (.Name x p2) (tVar i)) (hi : i ∈ O) : PS X (.Return (some (.Name x p2)) pos) (rdS X.K O (sRetO i)) := ps_imp (ps_ret h) fun _ _ _ => rs_retO hi
variable {i : Nat} {x : Str} {e : Expr} {p' : Pos}
theorem sd_asg {f : En → Option D} (hN : X.N.Nodup) (hi : X.N[i]? = some x) (hx : Loc X.env.scope x) (ho : i ∉ O) (he : PE X e (rdE X.K f)) (hs : swapsWith e (some (.Name x p')) pos.line X.env = pure false := by rfl) (hf : X.fn x = true ∨ X.env.scope.names.lookup x = some .local := by first | exact .inl rfl | exact .inr rfl | assumption) :
    PS X (.Assign [.Name x p'] e pos) (rdS X.K O (sAsg O i f)) := ps_imp (ps_set hN hi hx he hs hf) fun _ _ _ => rs_asg ho
theorem sd_asgI {f : En → Option D} (hN : X.N.Nodup) (hi : X.N[i]? = some x) (hx : Loc X.env.scope x) (ho : i ∉ O) (he : PE X e (rdE X.K f)) (hs : swapsWith e (some (.Name x p')) pos.line X.env = pure false := by rfl) (hf : X.fn x = true ∨ X.env.scope.names.lookup x = some .local := by first | exact .inl rfl | exact .inr rfl | assumption) :
    PS X (.Assign [.Name x p'] e pos) (rdS X.K O (sAsgI i f)) := ps_imp (ps_set hN hi hx he hs hf) fun _ _ _ => rs_asgI ho
theorem sd_asgO {f : En → Option (List D)} (hN : X.N.Nodup) (hi : X.N[i]? = some x) (hx : Loc X.env.scope x) (ho : i ∈ O) (he : PE X e (rdF X.K f)) (hs : swapsWith e (some (.Name x p')) pos.line X.env = pure false := by rfl) (hf : X.fn x = true ∨ X.env.scope.names.lookup x = some .local := by first | exact .inl rfl | exact .inr rfl | assumption) :
    PS X (.Assign [.Name x p'] e pos) (rdS X.K O (sAsgO O i f)) := ps_imp (ps_set hN hi hx he hs hf) fun _ _ _ => rs_asgO ho
theorem sd_asgOI {f : En → Option (List D)} (hN : X.N.Nodup) (hi : X.N[i]? = some x) (hx : Loc X.env.scope x) (ho : i ∈ O) (he : PE X e (rdF X.K f)) (hs : swapsWith e (some (.Name x p')) pos.line X.env = pure false := by rfl) (hf : X.fn x = true ∨ X.env.scope.names.lookup x = some .local := by first | exact .inl rfl | exact .inr rfl | assumption) :
    PS X (.Assign [.Name x p'] e pos) (rdS X.K O (sAsgOI i f)) := ps_imp (ps_set hN hi hx he hs hf) fun _ _ _ => rs_asgOI ho
theorem sd_par {j : Nat} {y : Str} {a b : Expr} {f g : En → Option D} {px py pt : Pos} {kt k2 pt2} (hc : X.calm = true) (hN : X.N.Nodup) (hi : X.N[i]? = some x) (hj : X.N[j]? = some y) (hij : i ≠ j)
    (hx : X.env.scope.names.lookup x = some .local) (hy : X.env.scope.names.lookup y = some .local) (ha : PA X [a, b] (rdA X.K (aCons f (aCons g aNil)))) (hoi : i ∉ O) (hoj : j ∉ O)
    (hw : swappedStores [.Tuple [.Name x px, .Name y py] kt pt] (.Tuple [a, b] k2 pt2) X.env = pure (some [x, y]))
    (hs : swapsWithSole [.Tuple [.Name x px, .Name y py] kt pt] (.Tuple [a, b] k2 pt2) pos.line X.env = pure false := by rfl) :
    PS X (.Assign [.Tuple [.Name x px, .Name y py] kt pt] (.Tuple [a, b] k2 pt2) pos) (rdS X.K O (sPar O i j f g)) := ps_imp (ps_par hc hN hi hj hij hx hy ha hw hs) fun _ _ _ => rs_par hoi hoj
theorem sd_app {st : Stmt} {f : En → Option D} (ho : i ∈ O) (h : PS X st (tDrop (tBM X.K "list" rAppend (tVar i) (tCons (rdE X.K f) tNil)))) : PS X st (rdS X.K O (sApp O i f)) := ps_imp h fun _ _ _ => rs_app ho
theorem sd_appI {st : Stmt} {f : En → Option D} (ho : i ∈ O) (h : PS X st (tDrop (tBM X.K "list" rAppend (tVar i) (tCons (rdE X.K f) tNil)))) : PS X st (rdS X.K O (sAppI i f)) := ps_imp h fun _ _ _ => rs_appI ho
theorem sd_setI {st : Stmt} {f g : En → Option D} (ho : i ∈ O) (h : PS X st (tAsg (rdE X.K f) (gSub (tVar i) (rdE X.K g) rSetL))) : PS X st (rdS X.K O (sSetI i g f)) := ps_imp h fun _ _ _ => rs_setI ho
end
end PD
namespace PD
open PySem L2
/-! ### targets -/
inductive Tgt where
  | nm (i : Nat) | tp (is : List Nat)
def Tgt.slots : Tgt → List Nat
  | .nm i => [i]
  | .tp is => is
def setAll : List Nat → List D → En → En
  | i :: is, d :: ds, ρ => setAll is ds (ρ.set i (some d))
  | _, _, ρ => ρ
def stD : Tgt → D → En → Option En
  | .nm i, d, ρ => some (ρ.set i (some d))
  | .tp is, .tup ds, ρ => if is.length = ds.length then some (setAll is ds ρ) else none
  | _, _, _ => none
def gNames : List Nat → TGs
  | [] => gNil
  | i :: is => gCons (gName i) (gNames is)
def gTg (K : PySem.W.Frag) : Tgt → TG
  | .nm i => gName i
  | .tp is => gTup K is.length (gNames is)
section
variable {K : PySem.W.Frag} {σ : St} {H Hv : Hp} {ρ ρ1 : En}
theorem EOk.set {i : Nat} {v : V} {d : D} (k : EOk K Hv σ ρ) (q : Dn K Hv v d) : EOk K Hv (σ.set i (some v)) (ρ.set i (some d)) := by
  refine ⟨by simp [k.len], fun j d' e => ?_⟩
  by_cases h : i = j
  · subst h
    obtain ⟨h1, h2⟩ := get_set_self e
    cases h2
    exact ⟨v, List.getElem?_set_self (by rw [k.len]; exact h1), q⟩
  · rw [List.getElem?_set_ne h] at e ⊢
    exact k.at_ j d' e
theorem gNames_ok : ∀ {is : List Nat} {vs : List V} {ds : List D} {σ : St} {ρ : En} {Q : St → Hp → Prop}, EOk K Hv σ ρ → Dns K Hv vs ds → is.length = ds.length →
    (∀ σ1, EOk K Hv σ1 (setAll is ds ρ) → (∀ k, k ∉ is → σ1[k]? = σ[k]?) → σ1.length = σ.length → Q σ1 H) → gNames is vs σ H Q
  | [], _, _, σ, ρ, Q, k, .nil, _, q => ⟨rfl, q σ k (fun _ _ => rfl) rfl⟩
  | i :: is, _, _, σ, ρ, Q, k, .cons (v := v) (d := d) hv r, l, q => by
    refine ⟨v, _, rfl, ?_⟩
    show gNames is _ (σ.set i (some v)) H Q
    refine gNames_ok (k.set hv) r (by simpa using l) fun σ1 k1 a1 l1 => q σ1 k1 (fun j hj => ?_) (by simpa using l1)
    simp only [List.mem_cons, not_or] at hj
    rw [a1 j hj.2, List.getElem?_set_ne (Ne.symm hj.1)]
theorem gTg_ok {t : Tgt} {x : V} {d : D} {Q : St → Hp → Prop} (k : EOk K Hv σ ρ) (s : Same Hv H) (hx : Dn K Hv x d) (h : stD t d ρ = some ρ1)
    (q : ∀ σ1, EOk K Hv σ1 ρ1 → (∀ j, j ∉ t.slots → σ1[j]? = σ[j]?) → σ1.length = σ.length → Q σ1 H) : gTg K t x σ H Q := by
  cases t with
  | nm i =>
    cases h
    exact q _ (k.set hx) (fun j hj => List.getElem?_set_ne (fun e => hj (by simp [Tgt.slots, e]))) (by simp)
  | tp is =>
    cases hx with
    | tup ht r =>
      simp only [stD] at h
      split at h
      · rename_i l
        cases h
        exact ⟨_, _, rfl, sameT s ht, by rw [r.length]; exact l.symm, gNames_ok k r l q⟩
      · cases h
    | _ => simp [stD] at h
theorem setAll_len : ∀ (is : List Nat) (ds : List D) (ρ : En), (setAll is ds ρ).length = ρ.length
  | [], _, _ => by simp [setAll]
  | _ :: _, [], _ => by simp [setAll]
  | i :: is, d :: ds, ρ => by rw [setAll, setAll_len]; simp
theorem setAll_out : ∀ {is : List Nat} {ds : List D} {ρ : En} {j : Nat}, j ∉ is → (setAll is ds ρ)[j]? = ρ[j]?
  | [], _, _, _, _ => by simp [setAll]
  | _ :: _, [], _, _, _ => by simp [setAll]
  | i :: is, d :: ds, ρ, j, h => by
    simp only [List.mem_cons, not_or] at h
    rw [setAll, setAll_out h.2, List.getElem?_set_ne (Ne.symm h.1)]
theorem setAll_mask {O : List Nat} : ∀ {is : List Nat} {ds : List D} {ρ : En}, (∀ i ∈ is, i ∉ O) → setAll is ds (mask O ρ) = mask O (setAll is ds ρ)
  | [], _, _, _ => by simp [setAll]
  | _ :: _, [], _, _ => by simp [setAll]
  | i :: is, d :: ds, ρ, h => by
    rw [setAll, setAll, ← mask_set (h i (by simp)), setAll_mask fun j hj => h j (List.mem_cons_of_mem _ hj)]
theorem stD_mask {O : List Nat} {t : Tgt} {d : D} (h : stD t d ρ = some ρ1) (ho : ∀ i ∈ t.slots, i ∉ O) : stD t d (mask O ρ) = some (mask O ρ1) := by
  cases t with
  | nm i =>
    cases h
    simp only [stD]
    rw [mask_set (ho i (by simp [Tgt.slots]))]
  | tp is =>
    cases d <;> simp only [stD] at h ⊢ <;> try cases h
    split at h
    · rename_i l
      cases h
      rw [if_pos l, setAll_mask (is := is) ho]
    · cases h
theorem stD_out {t : Tgt} {d : D} (h : stD t d ρ = some ρ1) : ρ1.length = ρ.length ∧ ∀ j, j ∉ t.slots → ρ1[j]? = ρ[j]? := by
  cases t with
  | nm i =>
    cases h
    exact ⟨by simp, fun j hj => List.getElem?_set_ne (fun e => hj (by simp [Tgt.slots, e]))⟩
  | tp is =>
    cases d <;> simp only [stD] at h <;> try cases h
    split at h
    · cases h
      exact ⟨setAll_len _ _ _, fun j hj => setAll_out hj⟩
    · cases h
/-- a target's store, the owned slots untouched -/
theorem gTg_Ok {O : List Nat} {H0 Hv0 Hb : Hp} {t : Tgt} {x : V} {d : D} {Q : St → Hp → Prop} (k : Ok K O H0 Hv0 Hb σ ρ H Hv) (ho : ∀ i ∈ t.slots, i ∉ O) (hx : Dn K Hv x d) (h : stD t d ρ = some ρ1)
    (q : ∀ σ1, Ok K O H0 Hv0 Hb σ1 ρ1 H Hv → Q σ1 H) : gTg K t x σ H Q := by
  obtain ⟨l1, o1⟩ := stD_out h
  refine gTg_ok k.msk k.vin hx (stD_mask h ho) fun σ1 k1 a1 e1 => q σ1 ?_
  have ns : ∀ j, j ∈ O → j ∉ t.slots := fun j hj hs => ho j hs hj
  refine ⟨by rw [e1, l1]; exact k.len, k.ex, k.vex, k.vb, k.vin, k.hid, fun i d' hi e => ?_, fun i d' hi e => ?_, fun i j d1 d2 p hi hj e1 e2 e3 e4 => ?_⟩
  · exact k1.at_ i d' (by rw [mask_out hi]; exact e)
  · rw [o1 i (ns i hi)] at e
    rw [a1 i (ns i hi)]
    exact k.ow i d' hi e
  · rw [o1 i (ns i hi)] at e1
    rw [o1 j (ns j hj)] at e2
    rw [a1 i (ns i hi)] at e3
    rw [a1 j (ns j hj)] at e4
    exact k.sep i j d1 d2 p hi hj e1 e2 e3 e4
end

/-! ### what is walked -/
def Walk (K : PySem.W.Frag) (Hv1 : Hp) (J : It) (ds : List D) : Prop := ∀ (i : Nat) (H Hv : Hp), Same Hv1 Hv → Same Hv H →
  (∀ d, ds[i]? = some d → J.go i H ∧ ∀ x H', J.yld i H x H' → ∃ Hv', Stp H Hv H' Hv' ∧ Dn K Hv' x d) ∧ (ds[i]? = none → J.stop i H)
def rdI (K : PySem.W.Frag) (f : En → Option (List D)) : TI := fun σ H R => ∃ (Hv : Hp) (ρ : En) (ds : List D), Same Hv H ∧ EOk K Hv σ ρ ∧ f ρ = some ds ∧ ∀ J H1 Hv1, Stp H Hv H1 Hv1 → Walk K Hv1 J ds → R J H1
theorem pi_imp {X : Cx} {tg e : Expr} {t t' : TI} (h : PI X tg e t) (i : ∀ σ H R, t' σ H R → t σ H R) : PI X tg e t' := ⟨fun pins s σ H R I w => h.run pins s σ H R I (i σ H R w)⟩
def iL (f : En → Option D) (ρ : En) : Option (List D) := match f ρ with | some (.lst ds) => some ds | _ => none
def iT (f : En → Option D) (ρ : En) : Option (List D) := match f ρ with | some (.tup ds) => some ds | _ => none
def rngD (lo : Int) (n : Nat) : List D := (List.range n).map fun (i : Nat) => D.int (lo + (i : Int))
def small62 (j : Int) : Bool := decide (-(2 ^ 62) ≤ j) && decide (j < 2 ^ 62)
def iR1 (f : En → Option (List D)) (ρ : En) : Option (List D) := match f ρ with | some [.int j] => if small62 j then some (rngD 0 j.toNat) else none | _ => none
def iR2 (f : En → Option (List D)) (ρ : En) : Option (List D) := match f ρ with | some [.int i, .int j] => if small62 i && small62 j then some (rngD i (j - i).toNat) else none | _ => none
/-- range(i, j, -1) -/
def iR3 (f : En → Option (List D)) (ρ : En) : Option (List D) := match f ρ with | some [.int i, .int j, .int (-1)] => if small62 i && small62 j then some ((List.range (i - j).toNat).map fun (m : Nat) => D.int (i - (m : Int))) else none | _ => none
def zipD : List D → List D → List D
  | a :: as, b :: bs => .tup [a, b] :: zipD as bs
  | _, _ => []
def enuD : Nat → List D → List D
  | n, a :: as => .tup [.int (n : Int), a] :: enuD (n + 1) as
  | _, [] => []
def iZ (f : En → Option (List D)) (ρ : En) : Option (List D) := match f ρ with | some [.lst as, .lst bs] => some (zipD as bs) | _ => none
def iE (f : En → Option (List D)) (ρ : En) : Option (List D) := match f ρ with | some [.lst as] => some (enuD 0 as) | _ => none
section
variable {K : PySem.W.Frag} {σ : St} {H : Hp} {R : It → Hp → Prop}
theorem walk_list {Hv1 : Hp} {a : Addr} {vs : List V} {ds : List D} (h : SqL K Hv1 a vs) (r : Dns K Hv1 vs ds) (hu : ∀ (H : Hp) xs ys, SqL K H a xs → SqL K H a ys → xs = ys) : Walk K Hv1 (Itl K a) ds := by
  intro i H Hv s1 s2
  have hH := sameL (s1.trans s2) h
  refine ⟨fun d e => ?_, fun e => ⟨vs, hH, ?_⟩⟩
  · obtain ⟨v, h1, h2⟩ := r.get e
    refine ⟨⟨vs, v, hH, h1⟩, fun x H' y => ?_⟩
    obtain ⟨e1, e2⟩ := y
    subst e1
    have := e2 vs hH
    rw [h1] at this
    cases this
    exact ⟨Hv, .refl s2, h2.mono s1⟩
  · rw [r.length]; exact List.getElem?_eq_none_iff.mp e
theorem walk_list' {Hv1 : Hp} {a : Addr} {vs : List V} {ds : List D} (h : SqL K Hv1 a vs) (r : Dns K Hv1 vs ds) : Walk K Hv1 (Itl K a) ds := by
  intro i H Hv s1 s2
  have hH := sameL (s1.trans s2) h
  refine ⟨fun d e => ?_, fun e => ⟨vs, hH, ?_⟩⟩
  · obtain ⟨v, h1, h2⟩ := r.get e
    refine ⟨⟨vs, v, hH, h1⟩, fun x H' y => ?_⟩
    obtain ⟨e1, e2⟩ := y
    subst e1
    have := e2 vs hH
    rw [h1] at this
    cases this
    exact ⟨Hv, .refl s2, h2.mono s1⟩
  · rw [r.length]; exact List.getElem?_eq_none_iff.mp e
theorem walk_tup {Hv1 : Hp} {a : Addr} {vs : List V} {ds : List D} (h : SqT K Hv1 a vs) (r : Dns K Hv1 vs ds) : Walk K Hv1 (Itt K a) ds := by
  intro i H Hv s1 s2
  have hH := sameT (s1.trans s2) h
  refine ⟨fun d e => ?_, fun e => ⟨vs, hH, ?_⟩⟩
  · obtain ⟨v, h1, h2⟩ := r.get e
    refine ⟨⟨vs, v, hH, h1⟩, fun x H' y => ?_⟩
    obtain ⟨e1, e2⟩ := y
    subst e1
    have := e2 vs hH
    rw [h1] at this
    cases this
    exact ⟨Hv, .refl s2, h2.mono s1⟩
  · rw [r.length]; exact List.getElem?_eq_none_iff.mp e
theorem rngD_get {lo : Int} {n i : Nat} : (rngD lo n)[i]? = if i < n then some (D.int (lo + (i : Int))) else none := by
  unfold rngD
  rw [List.getElem?_map]
  by_cases h : i < n
  · rw [List.getElem?_range h, if_pos h]; rfl
  · rw [List.getElem?_eq_none (by simpa using h), if_neg h]; rfl
theorem walk_rng {Hv1 : Hp} (lo : Int) (n : Nat) : Walk K Hv1 (Itr lo n) (rngD lo n) := by
  intro i H Hv s1 s2
  rw [rngD_get]
  by_cases h : i < n
  · rw [if_pos h]
    refine ⟨fun d e => ⟨h, fun x H' y => ?_⟩, fun e => nomatch e⟩
    cases e
    obtain ⟨e1, e2⟩ := y
    subst e1 e2
    exact ⟨Hv, .refl s2, .int _⟩
  · rw [if_neg h]
    exact ⟨fun d e => (nomatch e), fun _ => Nat.le_of_not_lt h⟩
theorem walk_rngC {Hv1 : Hp} (lo : Int) (n : Nat) : Walk K Hv1 (Itc lo (-1) n) ((List.range n).map fun (m : Nat) => D.int (lo - (m : Int))) := by
  intro i H Hv s1 s2
  rw [List.getElem?_map]
  by_cases h : i < n
  · rw [List.getElem?_range h]
    refine ⟨fun d e => ⟨h, fun x H' y => ?_⟩, fun e => nomatch e⟩
    cases e
    obtain ⟨e1, e2⟩ := y
    subst e1 e2
    have : lo + (i : Int) * (-1) = lo - (i : Int) := by omega
    rw [this]
    exact ⟨Hv, .refl s2, .int _⟩
  · rw [List.getElem?_eq_none (by simpa using h)]
    exact ⟨fun d e => (nomatch e), fun _ => Nat.le_of_not_lt h⟩
theorem zipD_get : ∀ {as bs : List D} {i : Nat}, (zipD as bs)[i]? = match as[i]?, bs[i]? with | some a, some b => some (.tup [a, b]) | _, _ => none
  | [], _, i => by simp [zipD]
  | _ :: _, [], i => by simp [zipD]
  | a :: as, b :: bs, 0 => by simp [zipD]
  | a :: as, b :: bs, i + 1 => by simpa [zipD] using zipD_get (as := as) (bs := bs) (i := i)
theorem enuD_get : ∀ {as : List D} {n i : Nat}, (enuD n as)[i]? = (as[i]?).map fun a => .tup [.int ((n + i : Nat) : Int), a]
  | [], n, i => by simp [enuD]
  | a :: as, n, 0 => by simp [enuD]
  | a :: as, n, i + 1 => by
    have := enuD_get (as := as) (n := n + 1) (i := i)
    simp only [enuD, List.getElem?_cons_succ]
    rw [this]
    have e : n + 1 + i = n + (i + 1) := by omega
    rw [e]
theorem walk_zip {Hv1 : Hp} {a b : Addr} {vs ws : List V} {ds es : List D} (h : SqL K Hv1 a vs) (r : Dns K Hv1 vs ds) (h' : SqL K Hv1 b ws) (r' : Dns K Hv1 ws es) : Walk K Hv1 (Itz K a b) (zipD ds es) := by
  intro i H Hv s1 s2
  have hH := sameL (s1.trans s2) h
  have hH' := sameL (s1.trans s2) h'
  rw [zipD_get]
  refine ⟨fun d e => ?_, fun e => ⟨vs, ws, hH, hH', ?_⟩⟩
  · cases e1 : ds[i]? with
    | none => rw [e1] at e; cases e
    | some d1 =>
      cases e2 : es[i]? with
      | none => rw [e1, e2] at e; cases e
      | some d2 =>
        rw [e1, e2] at e
        cases e
        obtain ⟨v, h1, h2⟩ := r.get e1
        obtain ⟨v', h1', h2'⟩ := r'.get e2
        refine ⟨⟨vs, ws, v, v', hH, hH', h1, h1'⟩, fun x H' y => ?_⟩
        obtain ⟨T, x1, x2, rfl, nT, rfl, q1, q2⟩ := y
        have z1 := q1 vs hH
        have z2 := q2 ws hH'
        rw [h1] at z1
        rw [h1'] at z2
        cases z1; cases z2
        have st := Stp.new (o := .tup [v, v']) s2 nT
        exact ⟨_, st, .tup (.of upd_same) (.cons (h2.mono (s1.trans st.b)) (.cons (h2'.mono (s1.trans st.b)) .nil))⟩
  · cases e1 : ds[i]? with
    | none => left; rw [r.length]; exact List.getElem?_eq_none_iff.mp e1
    | some d1 =>
      cases e2 : es[i]? with
      | none => right; rw [r'.length]; exact List.getElem?_eq_none_iff.mp e2
      | some d2 => rw [e1, e2] at e; cases e
theorem walk_enu {Hv1 : Hp} {a : Addr} {vs : List V} {ds : List D} (h : SqL K Hv1 a vs) (r : Dns K Hv1 vs ds) : Walk K Hv1 (Ite K a) (enuD 0 ds) := by
  intro i H Hv s1 s2
  have hH := sameL (s1.trans s2) h
  rw [enuD_get]
  refine ⟨fun d e => ?_, fun e => ⟨vs, hH, ?_⟩⟩
  · cases e1 : ds[i]? with
    | none => rw [e1] at e; cases e
    | some d1 =>
      rw [e1] at e
      cases e
      obtain ⟨v, h1, h2⟩ := r.get e1
      refine ⟨⟨vs, v, hH, h1⟩, fun x H' y => ?_⟩
      obtain ⟨T, x1, rfl, nT, rfl, q1⟩ := y
      have z1 := q1 vs hH
      rw [h1] at z1
      cases z1
      have st := Stp.new (o := .tup [.int (i : Int), v]) s2 nT
      refine ⟨_, st, .tup (.of upd_same) (.cons ?_ (.cons (h2.mono (s1.trans st.b)) .nil))⟩
      rw [Nat.zero_add]
      exact .int _
  · cases e1 : ds[i]? with
    | none => rw [r.length]; exact List.getElem?_eq_none_iff.mp e1
    | some d1 => rw [e1] at e; cases e
theorem ri_list {f : En → Option D} (h : rdI K (iL f) σ H R) : iList K (rdE K f) σ H R := by
  obtain ⟨Hv, ρ, ds, e, en, f', k⟩ := h
  unfold iL at f'
  split at f'
  · rename_i l e1
    cases f'
    refine ⟨Hv, ρ, _, e, en, e1, fun v H' Hv' s q => ?_⟩
    cases q with
    | lst hs r => exact ⟨_, rfl, ⟨_, sameL s.c hs⟩, k _ H' Hv' s (walk_list' hs r)⟩
  · cases f'
theorem ri_tup {f : En → Option D} (h : rdI K (iT f) σ H R) : iTup K (rdE K f) σ H R := by
  obtain ⟨Hv, ρ, ds, e, en, f', k⟩ := h
  unfold iT at f'
  split at f'
  · rename_i l e1
    cases f'
    refine ⟨Hv, ρ, _, e, en, e1, fun v H' Hv' s q => ?_⟩
    cases q with
    | tup hs r => exact ⟨_, rfl, ⟨_, sameT s.c hs⟩, k _ H' Hv' s (walk_tup hs r)⟩
  · cases f'
theorem small_of {j : Int} (h : small62 j = true) : -(2 ^ 62) ≤ j ∧ j < 2 ^ 62 := by
  unfold small62 at h
  rw [Bool.and_eq_true] at h
  exact ⟨of_decide_eq_true h.1, of_decide_eq_true h.2⟩
theorem ri_r1 {f : En → Option (List D)} (h : rdI K (iR1 f) σ H R) : iRng1 (rdA K f) σ H R := by
  obtain ⟨Hv, ρ, ds, e, en, f', k⟩ := h
  unfold iR1 at f'
  split at f'
  · rename_i j e1
    split at f'
    · rename_i c
      cases f'
      obtain ⟨c1, c2⟩ := small_of c
      refine ⟨Hv, ρ, _, e, en, e1, fun v H' Hv' s q => ?_⟩
      cases q with
      | cons q r =>
        cases r; cases q
        exact ⟨j, rfl, c1, c2, k _ H' Hv' s (walk_rng 0 j.toNat)⟩
    · cases f'
  · cases f'
theorem ri_r2 {f : En → Option (List D)} (h : rdI K (iR2 f) σ H R) : iRng2 (rdA K f) σ H R := by
  obtain ⟨Hv, ρ, ds, e, en, f', k⟩ := h
  unfold iR2 at f'
  split at f'
  · rename_i i j e1
    split at f'
    · rename_i c
      cases f'
      rw [Bool.and_eq_true] at c
      obtain ⟨c1, c2⟩ := small_of c.1
      obtain ⟨c3, c4⟩ := small_of c.2
      refine ⟨Hv, ρ, _, e, en, e1, fun v H' Hv' s q => ?_⟩
      cases q with
      | cons q r =>
        cases r with
        | cons q2 r =>
          cases r; cases q; cases q2
          exact ⟨i, j, rfl, ⟨c1, c2, c3, c4⟩, k _ H' Hv' s (walk_rng i (j - i).toNat)⟩
    · cases f'
  · cases f'
theorem ri_r3 {f : En → Option (List D)} (h : rdI K (iR3 f) σ H R) : iRng3 (rdA K f) σ H R := by
  obtain ⟨Hv, ρ, ds, e, en, f', k⟩ := h
  unfold iR3 at f'
  split at f'
  · rename_i i j e1
    split at f'
    · rename_i c
      cases f'
      rw [Bool.and_eq_true] at c
      obtain ⟨c1, c2⟩ := small_of c.1
      obtain ⟨c3, c4⟩ := small_of c.2
      refine ⟨Hv, ρ, _, e, en, e1, fun v H' Hv' s q => ?_⟩
      cases q with
      | cons q r =>
        cases r with
        | cons q2 r =>
          cases r with
          | cons q3 r =>
            cases r; cases q; cases q2; cases q3
            exact ⟨i, j, -1, _, rfl, RgC.neg c1 c2 c3 c4, k _ H' Hv' s (walk_rngC i (i - j).toNat)⟩
    · cases f'
  · cases f'
theorem ri_zip {f : En → Option (List D)} (h : rdI K (iZ f) σ H R) : iZip K (rdA K f) σ H R := by
  obtain ⟨Hv, ρ, ds, e, en, f', k⟩ := h
  unfold iZ at f'
  split at f'
  · rename_i as bs e1
    cases f'
    refine ⟨Hv, ρ, _, e, en, e1, fun v H' Hv' s q => ?_⟩
    cases q with
    | cons q r =>
      cases r with
      | cons q2 r =>
        cases r
        cases q with
        | lst h1 r1 =>
          cases q2 with
          | lst h2 r2 => exact ⟨_, _, _, _, rfl, sameL s.c h1, sameL s.c h2, k _ H' Hv' s (walk_zip h1 r1 h2 r2)⟩
  · cases f'
theorem ri_enu {f : En → Option (List D)} (h : rdI K (iE f) σ H R) : iEnum K (rdA K f) σ H R := by
  obtain ⟨Hv, ρ, ds, e, en, f', k⟩ := h
  unfold iE at f'
  split at f'
  · rename_i as e1
    cases f'
    refine ⟨Hv, ρ, _, e, en, e1, fun v H' Hv' s q => ?_⟩
    cases q with
    | cons q r =>
      cases r
      cases q with
      | lst h1 r1 => exact ⟨_, _, rfl, sameL s.c h1, k _ H' Hv' s (walk_enu h1 r1)⟩
  · cases f'
end

/-! ### loops -/
def loopD (t : Tgt) (body : En → Option Out) : List D → En → Option Out
  | [], ρ => some (.nx ρ)
  | d :: ds, ρ => (stD t d ρ).bind fun ρ1 => (body ρ1).bind fun o => match o with
    | .nx ρ' => loopD t body ds ρ'
    | .ct ρ' => loopD t body ds ρ'
    | .bk ρ' => some (.nx ρ')
    | o => some o
def sFor (O : List Nat) (src : En → Option (List D)) (t : Tgt) (body : En → Option Out) (ρ : En) : Option Out := (src (mask O ρ)).bind fun ds => loopD t body ds ρ
def whileD (c : En → Option Bool) (body : En → Option Out) : Nat → En → Option Out
  | 0, _ => none
  | n + 1, ρ => (c ρ).bind fun b => if b then (body ρ).bind fun o => match o with
    | .nx ρ' => whileD c body n ρ'
    | .ct ρ' => whileD c body n ρ'
    | .bk ρ' => some (.nx ρ')
    | o => some o
    else some (.nx ρ)
def sWhile (fuel : En → Nat) (c : En → Option Bool) (body : En → Option Out) (ρ : En) : Option Out := whileD c body (fuel ρ) ρ
section
variable {K : PySem.W.Frag} {O : List Nat} {σ : St} {H : Hp} {D' : Ends}
theorem rs_for {src : En → Option (List D)} {t : Tgt} {body : En → Option Out} (ho : ∀ i ∈ t.slots, i ∉ O) (h : rdS K O (sFor O src t body) D' σ H) : tFor (rdI K src) (gTg K t) (rdS K O body) D' σ H := by
  obtain ⟨H0, Hv0, Hb, Hv, ρ, o, k, f, p⟩ := h
  obtain ⟨ds, h1, f⟩ := bind_some2 f
  refine ⟨Hv, mask O ρ, ds, k.vin, k.msk, h1, fun J H1 Hv1 s1 W1 => ?_⟩
  have k1 := k.step s1
  refine ⟨fun i m σ H => m = ds.length - i ∧ i ≤ ds.length ∧ ∃ Hv ρ, Ok K O H0 Hv0 Hb σ ρ H Hv ∧ Same Hv1 Hv ∧ loopD t body (ds.drop i) ρ = some o, ⟨_, rfl, Nat.zero_le _, Hv1, ρ, k1, .refl _, f⟩, ?_⟩
  rintro i m σ2 H2 ⟨rfl, hi, Hv2, ρ2, k2, s2, f2⟩
  obtain ⟨w1, w2⟩ := W1 i H2 Hv2 s2 k2.vin
  by_cases hlt : i < ds.length
  · right
    have e : ds[i]? = some ds[i] := List.getElem?_eq_getElem hlt
    obtain ⟨g1, g2⟩ := w1 _ e
    refine ⟨g1, fun σ' H' => ∃ Hv ρ, Ok K O H0 Hv0 Hb σ' ρ H' Hv ∧ Same Hv1 Hv ∧ loopD t body (ds.drop (i + 1)) ρ = some o, fun σ' H' ⟨Hv', ρ', a, b, c⟩ => ⟨_, by omega, rfl, hlt, Hv', ρ', a, b, c⟩, fun x H3 y => ?_⟩
    obtain ⟨Hv3, s3, q3⟩ := g2 x H3 y
    rw [List.drop_eq_getElem_cons hlt] at f2
    unfold loopD at f2
    obtain ⟨ρ3, st3, f2⟩ := bind_some2 f2
    obtain ⟨o3, b3, f2⟩ := bind_some2 f2
    refine gTg_Ok (k2.step s3) ho q3 st3 fun σ4 k4 => ?_
    refine ⟨H0, Hv0, Hv3, Hv3, ρ3, o3, k4.base, b3, ?_⟩
    have rb : ∀ {σ ρ H Hv}, Ok K O H0 Hv0 Hv3 σ ρ H Hv → Ok K O H0 Hv0 Hb σ ρ H Hv ∧ Same Hv1 Hv := fun q => ⟨q.rebase k4.vb, (s2.trans s3.b).trans q.vb⟩
    cases o3 with
    | nx ρ' => exact fun σ5 H5 Hv5 k5 => ⟨Hv5, ρ', (rb k5).1, (rb k5).2, f2⟩
    | ct ρ' => exact fun σ5 H5 Hv5 k5 => ⟨Hv5, ρ', (rb k5).1, (rb k5).2, f2⟩
    | bk ρ' =>
      cases f2
      exact fun σ5 H5 Hv5 k5 => p σ5 H5 Hv5 (rb k5).1
    | rt d =>
      cases f2
      exact p
    | rf d =>
      cases f2
      exact p
  · left
    have e : i = ds.length := by omega
    subst e
    refine ⟨w2 (by simp), ?_⟩
    simp only [List.drop_length, loopD, Option.some.injEq] at f2
    subst f2
    exact p σ2 H2 Hv2 k2
theorem rs_while {fuel : En → Nat} {c : En → Option Bool} {body : En → Option Out} (h : rdS K O (sWhile fuel c body) D' σ H) : tWhile (rdT K c) (rdS K O body) D' σ H := by
  obtain ⟨H0, Hv0, Hb, Hv, ρ, o, k, f, p⟩ := h
  refine ⟨fun m σ H => ∃ Hv ρ, Ok K O H0 Hv0 Hb σ ρ H Hv ∧ whileD c body m ρ = some o, ⟨_, Hv, ρ, k, f⟩, ?_⟩
  rintro m σ2 H2 ⟨Hv2, ρ2, k2, f2⟩
  cases m with
  | zero => cases f2
  | succ m =>
    unfold whileD at f2
    obtain ⟨b, h1, f2⟩ := bind_some2 f2
    refine ⟨H2, ρ2, b, .refl _, k2.full, h1, fun H' Hv' s => ?_⟩
    have k3 := k2.grow s.a
    cases b with
    | false =>
      simp only [Bool.false_eq_true, if_false, Option.some.injEq] at f2
      subst f2
      exact p σ2 H' Hv2 k3
    | true =>
      simp only [if_true] at f2
      obtain ⟨o3, b3, f2⟩ := bind_some2 f2
      refine ⟨fun σ' H' => ∃ Hv ρ, Ok K O H0 Hv0 Hb σ' ρ H' Hv ∧ whileD c body m ρ = some o, fun σ' H' q => ⟨m, Nat.lt_succ_self m, q⟩, ?_⟩
      refine ⟨H0, Hv0, Hb, Hv2, ρ2, o3, k3, b3, ?_⟩
      cases o3 with
      | nx ρ' => exact fun σ5 H5 Hv5 k5 => ⟨Hv5, ρ', k5, f2⟩
      | ct ρ' => exact fun σ5 H5 Hv5 k5 => ⟨Hv5, ρ', k5, f2⟩
      | bk ρ' => cases f2; exact p
      | rt d => cases f2; exact p
      | rf d => cases f2; exact p
end

/-! ### comprehensions -/
def compD (t : Tgt) (test : En → Option Bool) (elt : En → Option D) (ρ : En) : List D → Option (List D)
  | [] => some []
  | d :: ds => (stD t d ρ).bind fun ρ1 => (test ρ1).bind fun b => if b then (elt ρ1).bind fun x => (compD t test elt ρ ds).map (x :: ·) else compD t test elt ρ ds
def eComp (own : List Nat) (src : En → Option (List D)) (t : Tgt) (test : En → Option Bool) (elt : En → Option D) (ρ : En) : Option (List D) := (src ρ).bind fun ds => if okLen ds.length then compD t test elt (mask own ρ) ds else none
def tTrue (_ : En) : Option Bool := some true
theorem rd_true {K : PySem.W.Frag} {σ : St} {H : Hp} {Q : Bool → Hp → Prop} (h : rdT K tTrue σ H Q) : tYes σ H Q := by
  obtain ⟨Hv, ρ, b, e, en, f, k⟩ := h
  cases f
  exact k H Hv (.refl e)
theorem wipe_ok {K : PySem.W.Frag} {Hv : Hp} {σ : St} {ρ : En} (k : EOk K Hv σ ρ) (vs : List Nat) : EOk K Hv (wipe σ vs) (mask vs ρ) := ⟨by rw [wipe_length, mask_length]; exact k.len, fun i d e => by
  obtain ⟨h1, h2⟩ := mask_some e
  rw [wipe_out h2]
  exact k.at_ i d h1⟩
theorem wipe_in {σ : St} {i : Nat} : ∀ {vs : List Nat}, i ∈ vs → i < σ.length → (wipe σ vs)[i]? = some none
  | v :: vs, h, hl => by
    unfold wipe
    by_cases e : v = i
    · subst e
      rw [List.getElem?_set_self (by rw [wipe_length]; exact hl)]
    · rw [List.getElem?_set_ne e]
      refine wipe_in ?_ hl
      rcases List.mem_cons.mp h with z | z
      · exact absurd z.symm e
      · exact z
theorem wipe_same {σ σ2 : St} {vs : List Nat} (l : σ2.length = (wipe σ vs).length) (h : ∀ k, k ∉ vs → σ2[k]? = (wipe σ vs)[k]?) : wipe σ2 vs = wipe σ vs := by
  apply List.ext_getElem?
  intro i
  by_cases hi : i ∈ vs
  · by_cases hl : i < σ.length
    · rw [wipe_in hi hl, wipe_in hi (by rw [l, wipe_length]; exact hl)]
    · rw [List.getElem?_eq_none (by rw [wipe_length, l, wipe_length]; omega), List.getElem?_eq_none (by rw [wipe_length]; omega)]
  · rw [wipe_out hi]
    exact h i hi
theorem rd_comp {K : PySem.W.Frag} {own : List Nat} {src : En → Option (List D)} {t : Tgt} {test : En → Option Bool} {elt : En → Option D} (ho : ∀ i ∈ t.slots, i ∈ own) {σ : St} {H : Hp} {Q : VK} (h : rdF K (eComp own src t test elt) σ H Q) :
    tLc (rdI K src) (gTg K t) (rdT K test) (rdE K elt) own σ H Q := by
  obtain ⟨Hv, ρ, res, e, en, f, k⟩ := h
  obtain ⟨ds, h1, f⟩ := bind_some2 f
  split at f
  case isFalse => cases f
  rename_i cl
  refine ⟨Hv, ρ, ds, e, en, h1, fun J H1 Hv1 s1 W1 => ?_⟩
  intro a ha
  have nv1 : Hv1 a = none := s1.c.free ha
  refine ⟨fun i m H => m = ds.length - i ∧ i ≤ ds.length ∧ ∃ Hv vs acc rest, Stp H1 Hv1 H Hv ∧ Hv a = none ∧ H a = some (.lst vs) ∧ Dns K Hv vs acc ∧ compD t test elt (mask own ρ) (ds.drop i) = some rest ∧ acc ++ rest = res ∧ acc.length ≤ i,
    ⟨_, rfl, Nat.zero_le _, Hv1, [], [], res, Stp.newH s1.c ha, nv1, upd_same, .nil, f, rfl, Nat.le_refl _⟩, ?_⟩
  rintro i m H2 ⟨rfl, hi, Hv2, vs, acc, rest, s2, n2, l2, r2, c2, e2, len2⟩
  obtain ⟨w1, w2⟩ := W1 i H2 Hv2 s2.b s2.c
  by_cases hlt : i < ds.length
  · right
    have eg : ds[i]? = some ds[i] := List.getElem?_eq_getElem hlt
    obtain ⟨g1, g2⟩ := w1 _ eg
    refine ⟨g1, fun H => ∃ Hv vs acc rest, Stp H1 Hv1 H Hv ∧ Hv a = none ∧ H a = some (.lst vs) ∧ Dns K Hv vs acc ∧ compD t test elt (mask own ρ) (ds.drop (i + 1)) = some rest ∧ acc ++ rest = res ∧ acc.length ≤ i + 1,
      fun H' q => ⟨_, by omega, rfl, hlt, q⟩, fun x H3 y => ?_⟩
    obtain ⟨Hv3, s3, q3⟩ := g2 x H3 y
    rw [List.drop_eq_getElem_cons hlt] at c2
    unfold compD at c2
    obtain ⟨ρ3, st3, c2⟩ := bind_some2 c2
    obtain ⟨b, t3, c2⟩ := bind_some2 c2
    have en3 : EOk K Hv3 (wipe σ own) (mask own ρ) := wipe_ok (((en.mono s1.b).mono s2.b).mono s3.b) own
    refine gTg_ok en3 s3.c q3 st3 fun σ4 en4 a4 l4 => ⟨wipe_same l4 fun j hj => a4 j fun z => hj (ho j z), ?_⟩
    refine ⟨Hv3, ρ3, b, s3.c, en4, t3, fun H5 Hv5 s5 => ?_⟩
    cases b with
    | false =>
      show ∃ Hv vs acc rest, _
      exact ⟨Hv5, vs, acc, rest, (s2.trans s3).trans s5, (s3.trans s5).h a _ rfl l2 n2, s5.a _ _ (s3.a _ _ l2), (r2.mono s3.b).mono s5.b, c2, e2, Nat.le_succ_of_le len2⟩
    | true =>
      simp only [if_true] at c2
      obtain ⟨x3, x4, c2⟩ := bind_some2 c2
      cases c3 : compD t test elt (mask own ρ) (ds.drop (i + 1)) with
      | none => rw [c3] at c2; cases c2
      | some rest' =>
        rw [c3] at c2
        cases c2
        refine ⟨Hv5, ρ3, x3, s5.c, en4.mono s5.b, x4, fun y5 H6 Hv6 s6 q6 => ?_⟩
        have s36 := (s3.trans s5).trans s6
        have la := s36.a _ _ l2
        have na := s36.h a _ rfl l2 n2
        refine ⟨vs, la, by rw [r2.length]; exact Nat.lt_of_le_of_lt (Nat.le_trans len2 hi) (okLen_lt cl), ?_⟩
        have st := s2.trans s36
        refine ⟨Hv6, vs ++ [y5], acc ++ [x3], rest', ⟨sameMut st.a ha, st.b, sameMut st.c na, st.h⟩, na, upd_same, (r2.mono s36.b).append (.cons q6 .nil), rfl, by rw [List.append_assoc]; exact e2, by simp; exact len2⟩
  · left
    have ei : i = ds.length := by omega
    subst ei
    refine ⟨w2 (by simp), ?_⟩
    simp only [List.drop_length, compD, Option.some.injEq] at c2
    subst c2
    rw [List.append_nil] at e2
    subst e2
    exact k a vs H2 Hv2 (s1.trans s2) (s1.a.free ha) n2 l2 r2
section
variable {X : Cx} {pos : Pos}
theorem id_list {tg l : Expr} {f : En → Option D} (hl : PE X l (rdE X.K f)) : PI X tg l (rdI X.K (iL f)) := pi_imp (pi_list hl) fun _ _ _ => ri_list
theorem id_tup {tg l : Expr} {f : En → Option D} (hl : PE X l (rdE X.K f)) : PI X tg l (rdI X.K (iT f)) := pi_imp (pi_tup hl) fun _ _ _ => ri_tup
theorem id_r1 {tg a : Expr} {f : En → Option (List D)} {p : Pos} (hg : Gl X "range") (hm : X.mg "range" = none) (ha : PA X [a] (rdA X.K f)) (hs : starEach [a] X.env = [(false, eval a X.env)] := by rfl) : PI X tg (.Call (.Name "range" p) [a] [] pos) (rdI X.K (iR1 f)) := pi_imp (pi_range1 hg hm ha hs) fun _ _ _ => ri_r1
theorem id_r2 {tg a b : Expr} {f : En → Option (List D)} {p : Pos} (hg : Gl X "range") (hm : X.mg "range" = none) (ha : PA X [a, b] (rdA X.K f)) (hs : starEach [a, b] X.env = [(false, eval a X.env), (false, eval b X.env)] := by rfl) (hs2 : starEach [b] X.env = [(false, eval b X.env)] := by rfl) :
    PI X tg (.Call (.Name "range" p) [a, b] [] pos) (rdI X.K (iR2 f)) := pi_imp (pi_range2 hg hm ha hs hs2) fun _ _ _ => ri_r2
theorem id_zip {e e2 : Expr} {f : En → Option (List D)} {p tpos : Pos} {elts : List Expr} {kk : Nat} (hg : Gl X "zip") (hm : X.mg "zip" = none) (ha : PA X [e, e2] (rdA X.K f))
    (hs : starEach [e, e2] X.env = (false, eval e X.env) :: starEach [e2] X.env := by rfl) (hpl : (backTo pos (starEach [e2] X.env)).any (·.1) = false := by rfl) :
    PI X (.Tuple elts kk tpos) (.Call (.Name "zip" p) [e, e2] [] pos) (rdI X.K (iZ f)) := pi_imp (pi_zip hg hm ha hs hpl) fun _ _ _ => ri_zip
theorem id_enu {e : Expr} {f : En → Option (List D)} {p tpos : Pos} {elts : List Expr} {kk : Nat} (hg : Gl X "enumerate") (hm : X.mg "enumerate" = none) (ha : PA X [e] (rdA X.K f)) (hs : starEach [e] X.env = [(false, eval e X.env)] := by rfl) :
    PI X (.Tuple elts kk tpos) (.Call (.Name "enumerate" p) [e] [] pos) (rdI X.K (iE f)) := pi_imp (pi_enum hg hm ha hs) fun _ _ _ => ri_enu
theorem sd_for {O : List Nat} {tg iter : Expr} {body : List Stmt} {src : En → Option (List D)} {t : Tgt} {F : En → Option Out} (hp : PassesOwn (model X.prog X.w) X.A X.env X.xe) (hc : X.calm = true) (ho : ∀ i ∈ t.slots, i ∉ O) (hi : PI X tg iter (rdI X.K src)) (hg : PG X tg (gTg X.K t)) (hb : PSs X body (rdS X.K O F))
    (hs : ∀ x, foldedSetIterable iter X.env x = pure x := by intro _; rfl) : PS X (.For tg iter body [] pos) (rdS X.K O (sFor O src t F)) := ps_imp (ps_for hp hc hi hg hb hs) fun _ _ _ => rs_for ho
theorem sd_while {O : List Nat} (fuel : En → Nat) {c : Expr} {body : List Stmt} {t : En → Option Bool} {F : En → Option Out} (hp : PassesOwn (model X.prog X.w) X.A X.env X.xe) (hc : PT X c (rdT X.K t)) (hb : PSs X body (rdS X.K O F)) : PS X (.While c body [] pos) (rdS X.K O (sWhile fuel t F)) :=
  ps_imp (ps_while hp hc hb) fun _ _ _ => rs_while
theorem ts_nil : PTs X [] (rdT X.K tTrue) := ⟨fun pins s σ H Q I w => pts_nil.run pins s σ H Q I (rd_true w)⟩
theorem ts_one {c : Expr} {t : En → Option Bool} (h : PT X c (rdT X.K t)) : PTs X [c] (rdT X.K t) := pts_one h
theorem pf_comp {elt tg iter : Expr} {ifs : List Expr} {scope : Scope} {own : List (Str × Nat)} {src : En → Option (List D)} {t : Tgt} {test : En → Option Bool} {fe : En → Option D} (hc : X.calm = true) (hN : X.N.Nodup) (ho : ∀ i ∈ t.slots, i ∈ own.map (·.2)) (hi : PI X tg iter (rdI X.K src)) (ok : BlkOk X.N X.env.scope scope own)
    (hg : ∀ (s : Shared) (H : Hp) (C : Addr) (cl : List (Str × Addr)) (fp : List Addr), PG (X.blk s H scope (compEnvC scope cl C X.env) fp) tg (gTg X.K t)) (ht : ∀ (s : Shared) (H : Hp) (C : Addr) (cl : List (Str × Addr)) (fp : List Addr), PTs (X.blk s H scope (compEnvC scope cl C X.env) fp) ifs (rdT X.K test))
    (he : ∀ (s : Shared) (H : Hp) (C : Addr) (cl : List (Str × Addr)) (fp : List Addr), PE (X.blk s H scope (compEnvC scope cl C X.env) fp) elt (rdE X.K fe)) (hs : ∀ x, foldedSetIterable iter X.env x = pure x := by intro _; rfl) :
    PE X (.ListComp elt [⟨tg, iter, ifs, 0⟩] scope pos) (rdF X.K (eComp (own.map (·.2)) src t test fe)) := pe_imp (pe_lc hc hN hi ok hg ht he hs) fun _ _ _ => rd_comp ho
end

/-! ### defs -/
def startD (n : Nat) (ds : List D) : En := ds.map some ++ List.replicate (n - ds.length) none
/-- the promise: plain data back | a new list back -/
def spD (K : PySem.W.Frag) (f : List D → Option D) : Sp := fun vs H Q _ => ∃ (Hv : Hp) (ds : List D) (d : D), Same Hv H ∧ Dns K Hv vs ds ∧ f ds = some d ∧ ∀ v H', Rt K H Hv v H' d → Q v H'
def spF (K : PySem.W.Frag) (f : List D → Option (List D)) : Sp := fun vs H Q _ => ∃ (Hv : Hp) (ds es : List D), Same Hv H ∧ Dns K Hv vs ds ∧ f ds = some es ∧ ∀ v H', RtF K H Hv v H' es → Q v H'
def outD : Option Out → Option D
  | some (.nx _) => some .non
  | some (.rt d) => some d
  | some (.rf ds) => some (.lst ds)
  | _ => none
def outF : Option Out → Option (List D)
  | some (.rf ds) => some ds
  | _ => none
theorem start_ok {K : PySem.W.Frag} {Hv : Hp} {N : List Str} {vs : List V} {ds : List D} (r : Dns K Hv vs ds) (hl : vs.length ≤ N.length) : EOk K Hv (L2.start N vs) (startD N.length ds) := by
  have l := r.length
  refine ⟨by simp [L2.start, startD, l], fun i d e => ?_⟩
  unfold startD at e
  unfold L2.start
  by_cases h : i < ds.length
  · rw [List.getElem?_append_left (by simpa using h), List.getElem?_map] at e
    rw [List.getElem?_append_left (by simpa [l] using h), List.getElem?_map]
    cases e1 : ds[i]? with
    | none => rw [e1] at e; cases e
    | some d' =>
      rw [e1] at e
      cases e
      obtain ⟨v, h1, h2⟩ := r.get e1
      exact ⟨v, by rw [h1]; rfl, h2⟩
  · rw [List.getElem?_append_right (by simpa using h), List.getElem?_replicate] at e
    split at e
    · cases e
    · cases e
theorem Ok.start {K : PySem.W.Frag} {O : List Nat} {H Hv : Hp} {N : List Str} {vs : List V} {ds : List D} (s : Same Hv H) (r : Dns K Hv vs ds) (hl : vs.length ≤ N.length) (ho : ∀ i ∈ O, ds.length ≤ i) : Ok K O H Hv Hv (L2.start N vs) (startD N.length ds) H Hv := by
  have k := start_ok r hl
  have no : ∀ (i : Nat) (d : D), i ∈ O → (startD N.length ds)[i]? ≠ some (some d) := fun i d hi e => by
    have := ho i hi
    unfold startD at e
    rw [List.getElem?_append_right (by simpa using this), List.getElem?_replicate] at e
    split at e <;> cases e
  exact ⟨k.len, .refl _, .refl _, .refl _, s, fun _ _ _ _ n => n, fun i d _ e => k.at_ i d e, fun i d hi e => absurd e (no i d hi), fun i j d d' p hi hj e => absurd e (no i d hi)⟩
/-- a def with m parameters, n slots, the body F -/
def fnOut (m n : Nat) (F : En → Option Out) (ds : List D) : Option D := if ds.length = m then outD (F (startD n ds)) else none
def fnOutF (m n : Nat) (F : En → Option Out) (ds : List D) : Option (List D) := if ds.length = m then outF (F (startD n ds)) else none
section
variable {P : Program} {w : World} {K : PySem.W.Frag} {mg : Str → Option Value} {base : Heap}
theorem fnD {x qual : Str} {st : Stmt} {f : Addr} {fd : FuncData} {N ps : List Str} {k : Nat} {O : List Nat} {F : En → Option Out} {m n : Nat} (G : Fun K x qual st f fd) (S : FnScope N ps (defScope st)) (hm : ps.length = m) (hn : N.length = n) (hps : m ≤ n) (ho : ∀ i ∈ O, m ≤ i)
    (hb : ∀ (cdv : Value) (A : Around) (outer : List Env) (s : Shared) (H : Hp) (E : XK), Room k (A.deeper (PyProof.Rows.envOfC qual (defScope st) s.heap.objs.size f cdv)) → PSs (cxOf CX0 P w K mg base N qual (defScope st) f cdv A outer s H E).nox (defBody st) (rdS K O F)) :
    FnOk P w K mg base CX0 (k + 1) f fd ps (spD K (fnOut m n F)) := by
  subst hm hn
  refine G.ok S (fun vs H Q E h => ?_) (fun cdv A outer s H vs Q E hr h => ?_)
  · obtain ⟨Hv, ds, d, sm, r, e, _⟩ := h
    simp only [fnOut, fnOutF] at e
    split at e
    · rename_i l; rw [r.length, l]
    · cases e
  · obtain ⟨Hv, ds, d, sm, r, e, q⟩ := h
    simp only [fnOut, fnOutF] at e
    split at e
    case isFalse => cases e
    rename_i l
    refine ⟨_, hb cdv A outer s H E hr, ?_⟩
    have k0 : Ok K O H Hv Hv (L2.start N vs) (startD N.length ds) H Hv := Ok.start sm r (by rw [r.length, l]; exact hps) (by rw [l]; exact ho)
    cases e1 : F (startD N.length ds) with
    | none => rw [e1] at e; cases e
    | some o =>
      rw [e1] at e
      refine ⟨H, Hv, Hv, Hv, _, o, k0, e1, ?_⟩
      cases o with
      | nx ρ => cases e; exact fun σ H' Hv' k' => q .non H' ⟨Hv', k'.stp, .non⟩
      | rt d => cases e; exact q
      | rf ds =>
        cases e
        refine fun v H' z => q v H' ?_
        obtain ⟨p, vs', Hv', rfl, st, n0, nv, hp, r'⟩ := z
        have nv0 : Hv p = none := sm.free n0
        refine ⟨upd Hv' p (.lst vs'), ⟨st.a, sameMut st.b nv0, fun a u e => ?_, fun a o m ha hn => ?_⟩, .lst (.of upd_same) (r'.mono (sameNew nv))⟩
        · by_cases ha : a = p
          · subst ha; rw [upd_same] at e; cases e; exact hp
          · rw [upd_ne ha] at e; exact st.c _ _ e
        · rw [upd_ne (ne_of_none ha n0)]; exact st.h a o m ha hn
      | bk ρ => cases e
      | ct ρ => cases e
theorem fnF {x qual : Str} {st : Stmt} {f : Addr} {fd : FuncData} {N ps : List Str} {k : Nat} {O : List Nat} {F : En → Option Out} {m n : Nat} (G : Fun K x qual st f fd) (S : FnScope N ps (defScope st)) (hm : ps.length = m) (hn : N.length = n) (hps : m ≤ n) (ho : ∀ i ∈ O, m ≤ i)
    (hb : ∀ (cdv : Value) (A : Around) (outer : List Env) (s : Shared) (H : Hp) (E : XK), Room k (A.deeper (PyProof.Rows.envOfC qual (defScope st) s.heap.objs.size f cdv)) → PSs (cxOf CX0 P w K mg base N qual (defScope st) f cdv A outer s H E).nox (defBody st) (rdS K O F)) :
    FnOk P w K mg base CX0 (k + 1) f fd ps (spF K (fnOutF m n F)) := by
  subst hm hn
  refine G.ok S (fun vs H Q E h => ?_) (fun cdv A outer s H vs Q E hr h => ?_)
  · obtain ⟨Hv, ds, d, sm, r, e, _⟩ := h
    simp only [fnOut, fnOutF] at e
    split at e
    · rename_i l; rw [r.length, l]
    · cases e
  · obtain ⟨Hv, ds, d, sm, r, e, q⟩ := h
    simp only [fnOut, fnOutF] at e
    split at e
    case isFalse => cases e
    rename_i l
    refine ⟨_, hb cdv A outer s H E hr, ?_⟩
    have k0 : Ok K O H Hv Hv (L2.start N vs) (startD N.length ds) H Hv := Ok.start sm r (by rw [r.length, l]; exact hps) (by rw [l]; exact ho)
    cases e1 : F (startD N.length ds) with
    | none => rw [e1] at e; cases e
    | some o =>
      rw [e1] at e
      refine ⟨H, Hv, Hv, Hv, _, o, k0, e1, ?_⟩
      cases o with
      | rf ds => cases e; exact q
      | _ => cases e
end
theorem okc_sp {K : PySem.W.Frag} {E : XK} {g : List D → Option D} : OkC K (fun vs H Q => spD K g vs H Q E) g := fun H Hv vs ds d Q e r h k => ⟨Hv, ds, d, e, r, h, fun v H' ⟨Hv', s, q⟩ => k v H' Hv' s q⟩
theorem okf_sp {K : PySem.W.Frag} {E : XK} {g : List D → Option (List D)} : OkF K (fun vs H Q => spF K g vs H Q E) g := fun H Hv vs ds d Q e r h k => ⟨Hv, ds, d, e, r, h, fun v H' ⟨p, vs', Hv', e', s, n, n', hp, q⟩ => by
  subst e'
  exact k p vs' H' Hv' s n n' hp q⟩
section
variable {X : Cx} {fa : Addr} {fd : FuncData} {x : Str} {k : Nat} {ps : List Str} {p pos : Pos} {e : Expr} {es : List Expr} {f : En → Option (List D)}
theorem pd_call {g : List D → Option D} (F : FnOk X.prog X.w X.K X.mg X.base CX0 k fa fd ps (spD X.K g)) (hr : Room k X.A) (hg : Gl X x) (hm : X.mg x = some (.ref fa)) (hk : PySem.W.keepIn X.K (.ref fa) = true) (hb : Binds X.K fd ps [])
    (ha : PA X (e :: es) (rdA X.K f)) (hs : starEach (e :: es) X.env = (false, eval e X.env) :: starEach es X.env := by rfl) (hpl : (backTo pos (starEach es X.env)).any (·.1) = false := by rfl) (hd : (x == ("__debug__" : Str)) = false := by decide) : PE X (.Call (.Name x p) (e :: es) [] pos) (rdE X.K (eCB g f)) :=
  pe_imp (pe_call (E := E0) (dvs := []) F hr hg hm hk hb .nil pass0 ha (hdb := hd) (he := hs) (hpl := hpl)) fun σ H Q h => by
    have h2 : tCB (fun vs H Q => spD X.K g vs H Q E0) (rdA X.K f) σ H Q := rd_cb okc_sp h
    unfold tCB at h2
    unfold tCall
    simpa only [List.append_nil] using h2
theorem pf_call {g : List D → Option (List D)} (F : FnOk X.prog X.w X.K X.mg X.base CX0 k fa fd ps (spF X.K g)) (hr : Room k X.A) (hg : Gl X x) (hm : X.mg x = some (.ref fa)) (hk : PySem.W.keepIn X.K (.ref fa) = true) (hb : Binds X.K fd ps [])
    (ha : PA X (e :: es) (rdA X.K f)) (hs : starEach (e :: es) X.env = (false, eval e X.env) :: starEach es X.env := by rfl) (hpl : (backTo pos (starEach es X.env)).any (·.1) = false := by rfl) (hd : (x == ("__debug__" : Str)) = false := by decide) : PE X (.Call (.Name x p) (e :: es) [] pos) (rdF X.K (eCF g f)) :=
  pe_imp (pe_call (E := E0) (dvs := []) F hr hg hm hk hb .nil pass0 ha (hdb := hd) (he := hs) (hpl := hpl)) fun σ H Q h => by
    have h2 : tCB (fun vs H Q => spF X.K g vs H Q E0) (rdA X.K f) σ H Q := rd_cf okf_sp h
    unfold tCB at h2
    unfold tCall
    simpa only [List.append_nil] using h2
end
end PD
namespace PD
open PySem L2
/-- the fuel of «while x > 0» where x falls -/
def fuelI (i : Nat) (ρ : En) : Nat := match eV i ρ with | some (.int j) => j.toNat + 1 | _ => 0
end PD
namespace PD
open PySem L2
/-! ### a chain of two comparisons -/
def eChain (g g' : D → D → Option D) (f1 f2 f3 : En → Option D) (ρ : En) : Option D := (f1 ρ).bind fun a => (f2 ρ).bind fun b => (g a b).bind fun z => match z with
  | .bl true => (f3 ρ).bind fun c => g' b c
  | .bl false => some (.bl false)
  | _ => none
theorem rd_chain {K : PySem.W.Frag} {r r' : R2} {g g' : D → D → Option D} {f1 f2 f3 : En → Option D} (ok : Ok2 K r g) (ok' : Ok2 K r' g') {σ : St} {H : Hp} {Q : VK} (h : rdE K (eChain g g' f1 f2 f3) σ H Q) : tChain r r' (rdE K f1) (rdE K f2) (rdE K f3) σ H Q := by
  obtain ⟨Hv, ρ, d, e, en, f, k⟩ := h
  obtain ⟨a, h1, f⟩ := bind_some2 f
  obtain ⟨b, h2, f⟩ := bind_some2 f
  obtain ⟨z, h3, f⟩ := bind_some2 f
  refine ⟨Hv, ρ, a, e, en, h1, fun v1 H1 Hv1 s1 d1 => ?_⟩
  refine ⟨Hv1, ρ, b, s1.c, en.mono s1.b, h2, fun v2 H2 Hv2 s2 d2 => ?_⟩
  refine ok H2 Hv2 v1 v2 a b z _ s2.c (d1.mono s2.b) d2 h3 fun v3 H3 Hv3 s3 d3 => ?_
  split at f
  · cases d3
    refine ⟨true, rfl, ?_⟩
    show rdE K f3 σ H3 _
    obtain ⟨c, h4, f⟩ := bind_some2 f
    refine ⟨Hv3, ρ, c, s3.c, ((en.mono s1.b).mono s2.b).mono s3.b, h4, fun v4 H4 Hv4 s4 d4 => ?_⟩
    exact ok' H4 Hv4 v2 v4 b c d Q s4.c ((d2.mono s3.b).mono s4.b) d4 f fun v H' Hv' s5 d5 => k v H' Hv' ((((s1.trans s2).trans s3).trans s4).trans s5) d5
  · cases d3
    cases f
    exact ⟨false, rfl, k _ H3 Hv3 ((s1.trans s2).trans s3) (.bl _)⟩
  · cases f
section
variable {X : Cx} {pos : Pos} {a b c : Expr} {f1 f2 f3 : En → Option D} {r r' : R2} {g g' : D → D → Option D}
theorem pd_chain {op op' : CmpOp} (ho : OpR X (compareOp op) r) (ho' : OpR X (compareOp op') r') (ok : Ok2 X.K r g) (ok' : Ok2 X.K r' g') (ha : PE X a (rdE X.K f1)) (hb : PE X b (rdE X.K f2)) (hc : PE X c (rdE X.K f3))
    (h : PE X (.Compare a [op, op'] [b, c] pos) (tChain r r' (rdE X.K f1) (rdE X.K f2) (rdE X.K f3))) : PE X (.Compare a [op, op'] [b, c] pos) (rdE X.K (eChain g g' f1 f2 f3)) := pe_imp h fun _ _ _ => rd_chain ok ok'
theorem td_chain {op op' : CmpOp} (ok : Ok2 X.K r g) (ok' : Ok2 X.K r' g')
    (h : PT X (.Compare a [op, op'] [b, c] pos) (tTest (tChain r r' (rdE X.K f1) (rdE X.K f2) (rdE X.K f3)))) : PT X (.Compare a [op, op'] [b, c] pos) (rdT X.K (tB2 (eChain g g' f1 f2 f3))) := pt_imp h fun _ _ _ => rd_tB fun _ _ _ => rd_chain ok ok'
end

/-! ### to reckon with the functions: each applied, strict in what it looks at -/
section
def seqO : Option Out → (En → Option Out) → Option Out
  | some (.nx ρ), G => G ρ
  | some (.rt d), _ => some (.rt d)
  | some (.rf d), _ => some (.rf d)
  | some (.bk ρ), _ => some (.bk ρ)
  | some (.ct ρ), _ => some (.ct ρ)
  | none, _ => none
def ifO : Option Bool → (En → Option Out) → (En → Option Out) → En → Option Out
  | some true, F, _, ρ => F ρ
  | some false, _, G, ρ => G ρ
  | none, _, _, _ => none
def binO (g : D → D → Option D) : Option D → Option D → Option D
  | some a, some b => g a b
  | _, _ => none
def unO (g : D → Option D) : Option D → Option D
  | some a => g a
  | _ => none
def consO : Option D → Option (List D) → Option (List D)
  | some a, some l => some (a :: l)
  | _, _ => none
def tupO : Option (List D) → Option D
  | some ds => if okLen ds.length then some (.tup ds) else none
  | none => none
def lstO : Option (List D) → Option (List D)
  | some ds => if okLen ds.length then some ds else none
  | none => none
def frO : Option (List D) → Option D
  | some ds => some (.lst ds)
  | none => none
def cbO (g : List D → Option D) : Option (List D) → Option D
  | some ds => g ds
  | none => none
def cfO (g : List D → Option (List D)) : Option (List D) → Option (List D)
  | some ds => g ds
  | none => none
def blO : Option D → Option Bool
  | some (.bl b) => some b
  | _ => none
def andO : Option Bool → (En → Option Bool) → En → Option Bool
  | some true, g, ρ => g ρ
  | some false, _, _ => some false
  | none, _, _ => none
def orO : Option Bool → (En → Option Bool) → En → Option Bool
  | some false, g, ρ => g ρ
  | some true, _, _ => some true
  | none, _, _ => none
def notO : Option Bool → Option Bool
  | some b => some (!b)
  | none => none
def andE : Option D → (En → Option D) → En → Option D
  | some (.bl true), g, ρ => g ρ
  | some (.bl false), _, _ => some (.bl false)
  | _, _, _ => none
def orE : Option D → (En → Option D) → En → Option D
  | some (.bl false), g, ρ => g ρ
  | some (.bl true), _, _ => some (.bl true)
  | _, _, _ => none
def ifE : Option Bool → (En → Option D) → (En → Option D) → En → Option D
  | some true, F, _, ρ => F ρ
  | some false, _, G, ρ => G ρ
  | none, _, _, _ => none
def asgX (i : Nat) : Option D → En → Option Out
  | some d, ρ => some (.nx (ρ.set i (some d)))
  | none, _ => none
def asgIX (i : Nat) : Option D → En → Option Out
  | some d, ρ => if imm d then some (.nx (ρ.set i (some d))) else none
  | none, _ => none
def asgOX (i : Nat) : Option (List D) → En → Option Out
  | some d, ρ => some (.nx (ρ.set i (some (.lst d))))
  | none, _ => none
def asgOIX (i : Nat) : Option (List D) → En → Option Out
  | some d, ρ => if imms d then some (.nx (ρ.set i (some (.lst d)))) else none
  | none, _ => none
def retX : Option D → Option Out
  | some d => some (.rt d)
  | none => none
def retFX : Option (List D) → Option Out
  | some d => some (.rf d)
  | none => none
def retOX : Option D → Option Out
  | some (.lst ds) => some (.rf ds)
  | _ => none
def parX (i j : Nat) : Option D → Option D → En → Option Out
  | some d, some d', ρ => some (.nx ((ρ.set i (some d)).set j (some d')))
  | _, _, _ => none
def appX (i : Nat) : Option D → Option D → En → Option Out
  | some (.lst ds), some d, ρ => if okLen ds.length then some (.nx (ρ.set i (some (.lst (ds ++ [d]))))) else none
  | _, _, _ => none
def appIX (i : Nat) : Option D → Option D → En → Option Out
  | some (.lst ds), some d, ρ => if okLen ds.length && imm d then some (.nx (ρ.set i (some (.lst (ds ++ [d]))))) else none
  | _, _, _ => none
def setPut (i : Nat) (ds : List D) (d : D) (ρ : En) : Option Nat → Option Out
  | some j => some (.nx (ρ.set i (some (.lst (ds.set j d)))))
  | none => none
def setIX (i : Nat) : Option D → Option D → Option D → En → Option Out
  | some (.lst ds), some d, some (.int z), ρ => if imm d then setPut i ds d ρ (ixN ds.length z) else none
  | _, _, _, _ => none
def forX (t : Tgt) (body : En → Option Out) : Option (List D) → En → Option Out
  | some ds, ρ => loopD t body ds ρ
  | none, _ => none
def nextX (t : Tgt) (body : En → Option Out) (ds : List D) : Option Out → Option Out
  | some (.nx ρ) => loopD t body ds ρ
  | some (.ct ρ) => loopD t body ds ρ
  | some (.bk ρ) => some (.nx ρ)
  | some (.rt d) => some (.rt d)
  | some (.rf d) => some (.rf d)
  | none => none
def turnX (body : En → Option Out) : Option En → Option Out
  | some ρ => body ρ
  | none => none
def compX (t : Tgt) (test : En → Option Bool) (elt : En → Option D) (ρ : En) : Option (List D) → Option (List D)
  | some ds => if okLen ds.length then compD t test elt ρ ds else none
  | none => none
def oX : Option D → Option (Option Int)
  | some (.int i) => some (some i)
  | _ => none
def slX : Option D → Option (Option Int) → Option (Option Int) → Option (List D)
  | some (.lst ds), some l, some h => some (cutD ds l h)
  | _, _, _ => none
def slSX : Option D → Option (Option Int) → Option (Option Int) → Option D
  | some (.str z), some l, some h => if okLen z.length then some (.str (cutS z l h)) else none
  | _, _, _ => none
def iLX : Option D → Option (List D)
  | some (.lst ds) => some ds
  | _ => none
def iTX : Option D → Option (List D)
  | some (.tup ds) => some ds
  | _ => none
def iR1X : Option (List D) → Option (List D)
  | some [.int j] => if small62 j then some (rngD 0 j.toNat) else none
  | _ => none
def iR2X : Option (List D) → Option (List D)
  | some [.int i, .int j] => if small62 i && small62 j then some (rngD i (j - i).toNat) else none
  | _ => none
def iZX : Option (List D) → Option (List D)
  | some [.lst as, .lst bs] => some (zipD as bs)
  | _ => none
def iEX : Option (List D) → Option (List D)
  | some [.lst as] => some (enuD 0 as)
  | _ => none
def chainX (g' : D → D → Option D) (f3 : En → Option D) (ρ : En) : Option D → Option D → Option D
  | some (.bl true), some b => binO g' (some b) (f3 ρ)
  | some (.bl false), some _ => some (.bl false)
  | _, _ => none
variable {F G : En → Option Out} {c t u : En → Option Bool} {f f' f3 : En → Option D} {h h' : En → Option (List D)} {O : List Nat} {i j : Nat} {ρ : En} {g g' : D → D → Option D} {lo hi : En → Option (Option Int)} {tg : Tgt} {d : D} {ds : List D}
theorem x_seq : sSeq F G ρ = seqO (F ρ) G := by unfold sSeq; cases F ρ with | none => rfl | some o => cases o <;> rfl
theorem x_if : sIf c F G ρ = ifO (c ρ) F G ρ := by unfold sIf; cases c ρ with | none => rfl | some o => cases o <;> rfl
theorem x_2 : e2 g f f' ρ = binO g (f ρ) (f' ρ) := by unfold e2; cases f ρ <;> cases f' ρ <;> rfl
theorem x_1 {g : D → Option D} : e1 g f ρ = unO g (f ρ) := by unfold e1; cases f ρ <;> rfl
theorem x_cons : aCons f h ρ = consO (f ρ) (h ρ) := by unfold aCons; cases f ρ <;> cases h ρ <;> rfl
theorem x_tup : eTup h ρ = tupO (h ρ) := by unfold eTup; cases h ρ <;> rfl
theorem x_lst : eLst h ρ = lstO (h ρ) := by unfold eLst; cases h ρ <;> rfl
theorem x_fr : eFr h ρ = frO (h ρ) := by unfold eFr; cases h ρ <;> rfl
theorem x_cb {g : List D → Option D} : eCB g h ρ = cbO g (h ρ) := by unfold eCB; cases h ρ <;> rfl
theorem x_cf {g : List D → Option (List D)} : eCF g h ρ = cfO g (h ρ) := by unfold eCF; cases h ρ <;> rfl
theorem x_tb : tB2 f ρ = blO (f ρ) := by unfold tB2; rfl
theorem x_and : fAnd t u ρ = andO (t ρ) u ρ := by unfold fAnd; cases t ρ with | none => rfl | some o => cases o <;> rfl
theorem x_or : fOr t u ρ = orO (t ρ) u ρ := by unfold fOr; cases t ρ with | none => rfl | some o => cases o <;> rfl
theorem x_not : fNot t ρ = notO (t ρ) := by unfold fNot; cases t ρ <;> rfl
theorem x_andE : eAnd f f' ρ = andE (f ρ) f' ρ := by
  unfold eAnd
  cases f ρ with
  | none => rfl
  | some d => cases d <;> first | rfl | (rename_i b; cases b <;> rfl)
theorem x_orE : eOr f f' ρ = orE (f ρ) f' ρ := by
  unfold eOr
  cases f ρ with
  | none => rfl
  | some d => cases d <;> first | rfl | (rename_i b; cases b <;> rfl)
theorem x_ifE : eIf t f f' ρ = ifE (t ρ) f f' ρ := by unfold eIf; cases t ρ with | none => rfl | some o => cases o <;> rfl
theorem x_asg : sAsg O i f ρ = asgX i (f (mask O ρ)) ρ := by unfold sAsg; cases f (mask O ρ) <;> rfl
theorem x_asgI : sAsgI i f ρ = asgIX i (f ρ) ρ := by unfold sAsgI; cases f ρ <;> rfl
theorem x_asgO : sAsgO O i h ρ = asgOX i (h (mask O ρ)) ρ := by unfold sAsgO; cases h (mask O ρ) <;> rfl
theorem x_asgOI : sAsgOI i h ρ = asgOIX i (h ρ) ρ := by unfold sAsgOI; cases h ρ <;> rfl
theorem x_ret : sRet f ρ = retX (f ρ) := by unfold sRet; cases f ρ <;> rfl
theorem x_retF : sRetF h ρ = retFX (h ρ) := by unfold sRetF; cases h ρ <;> rfl
theorem x_retO : sRetO i ρ = retOX (eV i ρ) := by unfold sRetO; rfl
theorem x_par : sPar O i j f f' ρ = parX i j (f (mask O ρ)) (f' (mask O ρ)) ρ := by unfold sPar; cases f (mask O ρ) <;> cases f' (mask O ρ) <;> rfl
theorem x_app : sApp O i f ρ = appX i (eV i ρ) (f (mask O ρ)) ρ := by
  unfold sApp
  cases eV i ρ with
  | none => rfl
  | some d => cases d <;> cases f (mask O ρ) <;> rfl
theorem x_appI : sAppI i f ρ = appIX i (eV i ρ) (f ρ) ρ := by
  unfold sAppI
  cases eV i ρ with
  | none => rfl
  | some d => cases d <;> cases f ρ <;> rfl
theorem x_setI : sSetI i f' f ρ = setIX i (eV i ρ) (f ρ) (f' ρ) ρ := by
  have key : ∀ (o : Option Nat) (ds : List D) (x : D), (o.bind fun j => some (Out.nx (ρ.set i (some (.lst (ds.set j x)))))) = setPut i ds x ρ o := fun o _ _ => by cases o <;> rfl
  unfold sSetI
  cases eV i ρ with
  | none => rfl
  | some d =>
    cases d <;> try rfl
    cases f ρ with
    | none => rfl
    | some x =>
      cases f' ρ with
      | none => simp [setIX, asInt]
      | some z =>
        cases z <;> simp only [Option.bind_some, asInt, setIX, key] <;> first | (split <;> rfl) | rfl
theorem x_for : sFor O h tg F ρ = forX tg F (h (mask O ρ)) ρ := by unfold sFor; cases h (mask O ρ) <;> rfl
theorem x_nil : loopD tg F [] ρ = some (.nx ρ) := rfl
theorem x_loop : loopD tg F (d :: ds) ρ = nextX tg F ds (turnX F (stD tg d ρ)) := by
  unfold loopD
  cases stD tg d ρ with
  | none => rfl
  | some r =>
    show (F r).bind _ = nextX tg F ds (F r)
    cases F r with
    | none => rfl
    | some o => cases o <;> rfl
theorem x_comp {own : List Nat} : eComp own h tg t f ρ = compX tg t f (mask own ρ) (h ρ) := by unfold eComp; cases h ρ <;> rfl
theorem x_oS : oSome f ρ = oX (f ρ) := by
  unfold oSome
  cases f ρ with
  | none => rfl
  | some d => cases d <;> rfl
theorem x_sl : eSl f lo hi ρ = slX (f ρ) (lo ρ) (hi ρ) := by
  unfold eSl
  cases f ρ with
  | none => rfl
  | some d => cases lo ρ <;> cases hi ρ <;> cases d <;> rfl
theorem x_slS : eSlS f lo hi ρ = slSX (f ρ) (lo ρ) (hi ρ) := by
  unfold eSlS
  cases f ρ with
  | none => rfl
  | some d => cases lo ρ <;> cases hi ρ <;> cases d <;> rfl
theorem x_iL : iL f ρ = iLX (f ρ) := by unfold iL; rfl
theorem x_iT : iT f ρ = iTX (f ρ) := by unfold iT; rfl
theorem x_iR1 : iR1 h ρ = iR1X (h ρ) := by unfold iR1; rfl
theorem x_iR2 : iR2 h ρ = iR2X (h ρ) := by unfold iR2; rfl
theorem x_iZ : iZ h ρ = iZX (h ρ) := by unfold iZ; rfl
theorem x_iE : iE h ρ = iEX (h ρ) := by unfold iE; rfl
theorem x_chain : eChain g g' f f' f3 ρ = chainX g' f3 ρ (binO g (f ρ) (f' ρ)) (f' ρ) := by
  unfold eChain
  cases f ρ with
  | none => cases f' ρ <;> rfl
  | some a =>
    cases f' ρ with
    | none => rfl
    | some b =>
      show (g a b).bind _ = chainX g' f3 ρ (g a b) (some b)
      cases g a b with
      | none => rfl
      | some z =>
        cases z <;> try rfl
        rename_i b'
        cases b' <;> try rfl
        show (f3 ρ).bind _ = binO g' (some b) (f3 ρ)
        cases f3 ρ <;> rfl
theorem x_getD0 {α : Type} {x a : α} {l : List α} : (a :: l).getD 0 x = a := (rfl)
theorem x_getDs {α : Type} {x a : α} {l : List α} {n : Nat} : (a :: l).getD (n + 1) x = l.getD n x := (rfl)
end
/-! equations -/
section
theorem q_seq1 {G : En → Option Out} {ρ : En} : seqO (some (.nx ρ)) G = G ρ := (rfl)
theorem q_seq2 {G : En → Option Out} {d : D} : seqO (some (.rt d)) G = some (.rt d) := (rfl)
theorem q_seq3 {G : En → Option Out} {d : List D} : seqO (some (.rf d)) G = some (.rf d) := (rfl)
theorem q_seq4 {G : En → Option Out} {ρ : En} : seqO (some (.bk ρ)) G = some (.bk ρ) := (rfl)
theorem q_seq5 {G : En → Option Out} {ρ : En} : seqO (some (.ct ρ)) G = some (.ct ρ) := (rfl)
theorem q_if1 {F G : En → Option Out} {ρ : En} : ifO (some true) F G ρ = F ρ := (rfl)
theorem q_if2 {F G : En → Option Out} {ρ : En} : ifO (some false) F G ρ = G ρ := (rfl)
theorem q_bin {g : D → D → Option D} {a b : D} : binO g (some a) (some b) = g a b := (rfl)
theorem q_un {g : D → Option D} {a : D} : unO g (some a) = g a := (rfl)
theorem q_cons {a : D} {l : List D} : consO (some a) (some l) = some (a :: l) := (rfl)
theorem q_tup {l : List D} : tupO (some l) = if okLen l.length then some (.tup l) else none := (rfl)
theorem q_lst {l : List D} : lstO (some l) = if okLen l.length then some l else none := (rfl)
theorem q_fr {l : List D} : frO (some l) = some (.lst l) := (rfl)
theorem q_cb {g : List D → Option D} {l : List D} : cbO g (some l) = g l := (rfl)
theorem q_cf {g : List D → Option (List D)} {l : List D} : cfO g (some l) = g l := (rfl)
theorem q_bl {b : Bool} : blO (some (.bl b)) = some b := (rfl)
theorem q_and1 {g : En → Option Bool} {ρ : En} : andO (some true) g ρ = g ρ := (rfl)
theorem q_and2 {g : En → Option Bool} {ρ : En} : andO (some false) g ρ = some false := (rfl)
theorem q_or1 {g : En → Option Bool} {ρ : En} : orO (some false) g ρ = g ρ := (rfl)
theorem q_or2 {g : En → Option Bool} {ρ : En} : orO (some true) g ρ = some true := (rfl)
theorem q_not {b : Bool} : notO (some b) = some (!b) := (rfl)
theorem q_andE1 {g : En → Option D} {ρ : En} : andE (some (.bl true)) g ρ = g ρ := (rfl)
theorem q_andE2 {g : En → Option D} {ρ : En} : andE (some (.bl false)) g ρ = some (.bl false) := (rfl)
theorem q_orE1 {g : En → Option D} {ρ : En} : orE (some (.bl false)) g ρ = g ρ := (rfl)
theorem q_orE2 {g : En → Option D} {ρ : En} : orE (some (.bl true)) g ρ = some (.bl true) := (rfl)
theorem q_ifE1 {F G : En → Option D} {ρ : En} : ifE (some true) F G ρ = F ρ := (rfl)
theorem q_ifE2 {F G : En → Option D} {ρ : En} : ifE (some false) F G ρ = G ρ := (rfl)
theorem q_asg {i : Nat} {d : D} {ρ : En} : asgX i (some d) ρ = some (.nx (ρ.set i (some d))) := (rfl)
theorem q_asgI {i : Nat} {d : D} {ρ : En} : asgIX i (some d) ρ = if imm d then some (.nx (ρ.set i (some d))) else none := (rfl)
theorem q_asgO {i : Nat} {d : List D} {ρ : En} : asgOX i (some d) ρ = some (.nx (ρ.set i (some (.lst d)))) := (rfl)
theorem q_asgOI {i : Nat} {d : List D} {ρ : En} : asgOIX i (some d) ρ = if imms d then some (.nx (ρ.set i (some (.lst d)))) else none := (rfl)
theorem q_ret {d : D} : retX (some d) = some (.rt d) := (rfl)
theorem q_retF {d : List D} : retFX (some d) = some (.rf d) := (rfl)
theorem q_retO {d : List D} : retOX (some (.lst d)) = some (.rf d) := (rfl)
theorem q_par {i j : Nat} {a b : D} {ρ : En} : parX i j (some a) (some b) ρ = some (.nx ((ρ.set i (some a)).set j (some b))) := (rfl)
theorem q_app {i : Nat} {ds : List D} {d : D} {ρ : En} : appX i (some (.lst ds)) (some d) ρ = if okLen ds.length then some (.nx (ρ.set i (some (.lst (ds ++ [d]))))) else none := (rfl)
theorem q_appI {i : Nat} {ds : List D} {d : D} {ρ : En} : appIX i (some (.lst ds)) (some d) ρ = if okLen ds.length && imm d then some (.nx (ρ.set i (some (.lst (ds ++ [d]))))) else none := (rfl)
theorem q_set1 {i : Nat} {ds : List D} {d : D} {z : Int} {ρ : En} : setIX i (some (.lst ds)) (some d) (some (.int z)) ρ = if imm d then setPut i ds d ρ (ixN ds.length z) else none := (rfl)
theorem q_set2 {i j : Nat} {ds : List D} {d : D} {ρ : En} : setPut i ds d ρ (some j) = some (.nx (ρ.set i (some (.lst (ds.set j d))))) := (rfl)
theorem q_for {t : Tgt} {F : En → Option Out} {ds : List D} {ρ : En} : forX t F (some ds) ρ = loopD t F ds ρ := (rfl)
theorem q_next0 {t : Tgt} {F : En → Option Out} {ds : List D} {ρ : En} : nextX t F ds (some (.nx ρ)) = loopD t F ds ρ := (rfl)
theorem q_next1 {t : Tgt} {F : En → Option Out} {ds : List D} {ρ : En} : nextX t F ds (some (.ct ρ)) = loopD t F ds ρ := (rfl)
theorem q_next2 {t : Tgt} {F : En → Option Out} {ds : List D} {ρ : En} : nextX t F ds (some (.bk ρ)) = some (.nx ρ) := (rfl)
theorem q_next3 {t : Tgt} {F : En → Option Out} {ds : List D} {d : D} : nextX t F ds (some (.rt d)) = some (.rt d) := (rfl)
theorem q_next4 {t : Tgt} {F : En → Option Out} {ds : List D} {d : List D} : nextX t F ds (some (.rf d)) = some (.rf d) := (rfl)
theorem q_turn {F : En → Option Out} {ρ : En} : turnX F (some ρ) = F ρ := (rfl)
theorem q_comp {t : Tgt} {c : En → Option Bool} {f : En → Option D} {ds : List D} {ρ : En} : compX t c f ρ (some ds) = if okLen ds.length then compD t c f ρ ds else none := (rfl)
theorem q_o {i : Int} : oX (some (.int i)) = some (some i) := (rfl)
theorem q_sl {ds : List D} {l h : Option Int} : slX (some (.lst ds)) (some l) (some h) = some (cutD ds l h) := (rfl)
theorem q_slS {z : Str} {l h : Option Int} : slSX (some (.str z)) (some l) (some h) = if okLen z.length then some (.str (cutS z l h)) else none := (rfl)
theorem q_iL {ds : List D} : iLX (some (.lst ds)) = some ds := (rfl)
theorem q_iT {ds : List D} : iTX (some (.tup ds)) = some ds := (rfl)
theorem q_iR1 {j : Int} : iR1X (some [.int j]) = if small62 j then some (rngD 0 j.toNat) else none := (rfl)
theorem q_iR2 {i j : Int} : iR2X (some [.int i, .int j]) = if small62 i && small62 j then some (rngD i (j - i).toNat) else none := (rfl)
theorem q_iZ {a b : List D} : iZX (some [.lst a, .lst b]) = some (zipD a b) := (rfl)
theorem q_iE {a : List D} : iEX (some [.lst a]) = some (enuD 0 a) := (rfl)
theorem q_ch1 {g' : D → D → Option D} {f3 : En → Option D} {ρ : En} {b : D} : chainX g' f3 ρ (some (.bl true)) (some b) = binO g' (some b) (f3 ρ) := (rfl)
theorem q_ch2 {g' : D → D → Option D} {f3 : En → Option D} {ρ : En} {b : D} : chainX g' f3 ρ (some (.bl false)) (some b) = some (.bl false) := (rfl)
theorem q_dAdd {i j : Int} : dAdd (.int i) (.int j) = some (.int (i + j)) := (rfl)
theorem q_dSub {i j : Int} : dSub (.int i) (.int j) = some (.int (i - j)) := (rfl)
theorem q_dMul {i j : Int} : dMul (.int i) (.int j) = if okMul i j then some (.int (i * j)) else none := (rfl)
theorem q_dDiv {i j : Int} : dDiv (.int i) (.int j) = if okDiv j then some (.int (i / j)) else none := (rfl)
theorem q_dMod {i j : Int} : dMod (.int i) (.int j) = if 0 < j then some (.int (i % j)) else none := (rfl)
theorem q_dPow {i j : Int} : dPow (.int i) (.int j) = if 0 ≤ j ∧ j ≤ 1000000 ∧ i.natAbs < 2 ^ 64 then some (.int (i ^ j.toNat)) else none := (rfl)
theorem q_dLt {i j : Int} : dLt (.int i) (.int j) = some (.bl (decide (i < j))) := (rfl)
theorem q_dLe {i j : Int} : dLe (.int i) (.int j) = some (.bl (decide (i ≤ j))) := (rfl)
theorem q_dGt {i j : Int} : dGt (.int i) (.int j) = some (.bl (decide (j < i))) := (rfl)
theorem q_dGe {i j : Int} : dGe (.int i) (.int j) = some (.bl (decide (j ≤ i))) := (rfl)
theorem q_neg {i : Int} : dNeg (.int i) = some (.int (-i)) := (rfl)
theorem q_eNot {b : Bool} : eNot (.bl b) = some (.bl (!b)) := (rfl)
theorem q_abs {i : Int} : cAbs [.int i] = some (.int (if i < 0 then -i else i)) := (rfl)
theorem q_len1 {l : List D} : cLen [.lst l] = some (.int l.length) := (rfl)
theorem q_len2 {l : List D} : cLen [.tup l] = some (.int l.length) := (rfl)
theorem q_len3 {z : Str} : cLen [.str z] = if okLen z.length then some (.int z.length) else none := (rfl)
theorem q_int1 {i : Int} : cInt [.int i] = some (.int i) := (rfl)
theorem q_int2 {b : Bool} : cInt [.bl b] = some (.int (if b then 1 else 0)) := (rfl)
theorem q_list1 {l : List D} : cList [.lst l] = some l := (rfl)
theorem q_list2 {l : List D} : cList [.tup l] = some l := (rfl)
theorem q_min {i j : Int} : cMin2 [.int i, .int j] = some (.int (if j < i then j else i)) := (rfl)
theorem q_max {i j : Int} : cMax2 [.int i, .int j] = some (.int (if j > i then j else i)) := (rfl)
theorem q_isi_non_int  : cIsi [.non, .ty .int] = some (.bl false) := (rfl)
theorem q_isi_non_bool  : cIsi [.non, .ty .bool] = some (.bl false) := (rfl)
theorem q_isi_non_str  : cIsi [.non, .ty .str] = some (.bl false) := (rfl)
theorem q_isi_non_tuple  : cIsi [.non, .ty .tuple] = some (.bl false) := (rfl)
theorem q_isi_non_list  : cIsi [.non, .ty .list] = some (.bl false) := (rfl)
theorem q_isi_non_dict  : cIsi [.non, .ty .dict] = some (.bl false) := (rfl)
theorem q_isi_bl_int {b : Bool} : cIsi [(.bl b), .ty .int] = some (.bl true) := (rfl)
theorem q_isi_bl_bool {b : Bool} : cIsi [(.bl b), .ty .bool] = some (.bl true) := (rfl)
theorem q_isi_bl_str {b : Bool} : cIsi [(.bl b), .ty .str] = some (.bl false) := (rfl)
theorem q_isi_bl_tuple {b : Bool} : cIsi [(.bl b), .ty .tuple] = some (.bl false) := (rfl)
theorem q_isi_bl_list {b : Bool} : cIsi [(.bl b), .ty .list] = some (.bl false) := (rfl)
theorem q_isi_bl_dict {b : Bool} : cIsi [(.bl b), .ty .dict] = some (.bl false) := (rfl)
theorem q_isi_int_int {i : Int} : cIsi [(.int i), .ty .int] = some (.bl true) := (rfl)
theorem q_isi_int_bool {i : Int} : cIsi [(.int i), .ty .bool] = some (.bl false) := (rfl)
theorem q_isi_int_str {i : Int} : cIsi [(.int i), .ty .str] = some (.bl false) := (rfl)
theorem q_isi_int_tuple {i : Int} : cIsi [(.int i), .ty .tuple] = some (.bl false) := (rfl)
theorem q_isi_int_list {i : Int} : cIsi [(.int i), .ty .list] = some (.bl false) := (rfl)
theorem q_isi_int_dict {i : Int} : cIsi [(.int i), .ty .dict] = some (.bl false) := (rfl)
theorem q_isi_str_int {z : Str} : cIsi [(.str z), .ty .int] = some (.bl false) := (rfl)
theorem q_isi_str_bool {z : Str} : cIsi [(.str z), .ty .bool] = some (.bl false) := (rfl)
theorem q_isi_str_str {z : Str} : cIsi [(.str z), .ty .str] = some (.bl true) := (rfl)
theorem q_isi_str_tuple {z : Str} : cIsi [(.str z), .ty .tuple] = some (.bl false) := (rfl)
theorem q_isi_str_list {z : Str} : cIsi [(.str z), .ty .list] = some (.bl false) := (rfl)
theorem q_isi_str_dict {z : Str} : cIsi [(.str z), .ty .dict] = some (.bl false) := (rfl)
theorem q_isi_tup_int {l : List D} : cIsi [(.tup l), .ty .int] = some (.bl false) := (rfl)
theorem q_isi_tup_bool {l : List D} : cIsi [(.tup l), .ty .bool] = some (.bl false) := (rfl)
theorem q_isi_tup_str {l : List D} : cIsi [(.tup l), .ty .str] = some (.bl false) := (rfl)
theorem q_isi_tup_tuple {l : List D} : cIsi [(.tup l), .ty .tuple] = some (.bl true) := (rfl)
theorem q_isi_tup_list {l : List D} : cIsi [(.tup l), .ty .list] = some (.bl false) := (rfl)
theorem q_isi_tup_dict {l : List D} : cIsi [(.tup l), .ty .dict] = some (.bl false) := (rfl)
theorem q_isi_lst_int {l : List D} : cIsi [(.lst l), .ty .int] = some (.bl false) := (rfl)
theorem q_isi_lst_bool {l : List D} : cIsi [(.lst l), .ty .bool] = some (.bl false) := (rfl)
theorem q_isi_lst_str {l : List D} : cIsi [(.lst l), .ty .str] = some (.bl false) := (rfl)
theorem q_isi_lst_tuple {l : List D} : cIsi [(.lst l), .ty .tuple] = some (.bl false) := (rfl)
theorem q_isi_lst_list {l : List D} : cIsi [(.lst l), .ty .list] = some (.bl true) := (rfl)
theorem q_isi_lst_dict {l : List D} : cIsi [(.lst l), .ty .dict] = some (.bl false) := (rfl)
theorem q_isi_dic_int {l : List (Key × D)} : cIsi [(.dic l), .ty .int] = some (.bl false) := (rfl)
theorem q_isi_dic_bool {l : List (Key × D)} : cIsi [(.dic l), .ty .bool] = some (.bl false) := (rfl)
theorem q_isi_dic_str {l : List (Key × D)} : cIsi [(.dic l), .ty .str] = some (.bl false) := (rfl)
theorem q_isi_dic_tuple {l : List (Key × D)} : cIsi [(.dic l), .ty .tuple] = some (.bl false) := (rfl)
theorem q_isi_dic_list {l : List (Key × D)} : cIsi [(.dic l), .ty .list] = some (.bl false) := (rfl)
theorem q_isi_dic_dict {l : List (Key × D)} : cIsi [(.dic l), .ty .dict] = some (.bl true) := (rfl)
theorem q_outD1 {ρ : En} : outD (some (.nx ρ)) = some .non := (rfl)
theorem q_outD2 {d : D} : outD (some (.rt d)) = some d := (rfl)
theorem q_outD3 {d : List D} : outD (some (.rf d)) = some (.lst d) := (rfl)
theorem q_outF {d : List D} : outF (some (.rf d)) = some d := (rfl)
theorem q_st {i : Nat} {d : D} {ρ : En} : stD (.nm i) d ρ = some (ρ.set i (some d)) := (rfl)
theorem q_st2 {is : List Nat} {ds : List D} {ρ : En} : stD (.tp is) (.tup ds) ρ = if is.length = ds.length then some (setAll is ds ρ) else none := (rfl)
theorem q_sa1 {i : Nat} {is : List Nat} {d : D} {ds : List D} {ρ : En} : setAll (i :: is) (d :: ds) ρ = setAll is ds (ρ.set i (some d)) := (rfl)
theorem q_sa2 {ρ : En} : setAll [] [] ρ = ρ := (rfl)
theorem q_mask1 {ρ : En} : mask [] ρ = ρ := (rfl)
theorem q_mask2 {i : Nat} {O : List Nat} {ρ : En} : mask (i :: O) ρ = (mask O ρ).set i none := (rfl)
theorem q_nil {ρ : En} : sNil ρ = some (.nx ρ) := (rfl)
theorem q_brk {ρ : En} : sBrk ρ = some (.bk ρ) := (rfl)
theorem q_cont {ρ : En} : sCont ρ = some (.ct ρ) := (rfl)
theorem q_retN {ρ : En} : sRetN ρ = some (.rt .non) := (rfl)
theorem q_eC {d : D} {ρ : En} : eC d ρ = some d := (rfl)
theorem q_eV {i : Nat} {ρ : En} : eV i ρ = ρ.getD i none := (rfl)
theorem q_aNil {ρ : En} : aNil ρ = some [] := (rfl)
theorem q_tT {ρ : En} : tTrue ρ = some true := (rfl)
theorem q_oN {ρ : En} : oNone ρ = some none := (rfl)
theorem q_ix1 {l : List D} {i : Int} : dIx (.lst l) (.int i) = atI l i := (rfl)
theorem q_ix2 {l : List D} {i : Int} : dIx (.tup l) (.int i) = atI l i := (rfl)
theorem q_at0 {α : Type} {a0 : α} {l : List α} : atI (a0 :: l) 0 = some a0 := atI_nat (j := 0) rfl
theorem q_at1 {α : Type} {a0 a1 : α} {l : List α} : atI (a0 :: a1 :: l) 1 = some a1 := atI_nat (j := 1) rfl
theorem q_at2 {α : Type} {a0 a1 a2 : α} {l : List α} : atI (a0 :: a1 :: a2 :: l) 2 = some a2 := atI_nat (j := 2) rfl
theorem q_at3 {α : Type} {a0 a1 a2 a3 : α} {l : List α} : atI (a0 :: a1 :: a2 :: a3 :: l) 3 = some a3 := atI_nat (j := 3) rfl
theorem q_at4 {α : Type} {a0 a1 a2 a3 a4 : α} {l : List α} : atI (a0 :: a1 :: a2 :: a3 :: a4 :: l) 4 = some a4 := atI_nat (j := 4) rfl
theorem q_at5 {α : Type} {a0 a1 a2 a3 a4 a5 : α} {l : List α} : atI (a0 :: a1 :: a2 :: a3 :: a4 :: a5 :: l) 5 = some a5 := atI_nat (j := 5) rfl
theorem q_imm1 {i : Int} : imm (.int i) = true := (rfl)
theorem q_imm2 {b : Bool} : imm (.bl b) = true := (rfl)
theorem q_imm3 {z : Str} : imm (.str z) = true := (rfl)
theorem q_imm4  : imm .non = true := (rfl)
theorem q_imm5 {l : List D} : imm (.tup l) = imms l := by unfold imm; rfl
theorem q_imms1 : imms [] = true := by unfold imms; rfl
theorem q_imms2 {d : D} {l : List D} : imms (d :: l) = (imm d && imms l) := by rw [imms]
theorem q_set0 {α : Type} {a b : α} {l : List α} : (a :: l).set 0 b = b :: l := (rfl)
theorem q_setS {α : Type} {a b : α} {l : List α} {n : Nat} : (a :: l).set (n + 1) b = a :: l.set n b := (rfl)
theorem q_set_1 {α : Type} {a0 a1 b : α} {l : List α} : (a0 :: a1 :: l).set 1 b = a0 :: b :: l := (rfl)
theorem q_get_1 {α : Type} {a0 a1 b : α} {l : List α} : (a0 :: a1 :: l).getD 1 b = a1 := (rfl)
theorem q_set_2 {α : Type} {a0 a1 a2 b : α} {l : List α} : (a0 :: a1 :: a2 :: l).set 2 b = a0 :: a1 :: b :: l := (rfl)
theorem q_get_2 {α : Type} {a0 a1 a2 b : α} {l : List α} : (a0 :: a1 :: a2 :: l).getD 2 b = a2 := (rfl)
theorem q_set_3 {α : Type} {a0 a1 a2 a3 b : α} {l : List α} : (a0 :: a1 :: a2 :: a3 :: l).set 3 b = a0 :: a1 :: a2 :: b :: l := (rfl)
theorem q_get_3 {α : Type} {a0 a1 a2 a3 b : α} {l : List α} : (a0 :: a1 :: a2 :: a3 :: l).getD 3 b = a3 := (rfl)
theorem q_set_4 {α : Type} {a0 a1 a2 a3 a4 b : α} {l : List α} : (a0 :: a1 :: a2 :: a3 :: a4 :: l).set 4 b = a0 :: a1 :: a2 :: a3 :: b :: l := (rfl)
theorem q_get_4 {α : Type} {a0 a1 a2 a3 a4 b : α} {l : List α} : (a0 :: a1 :: a2 :: a3 :: a4 :: l).getD 4 b = a4 := (rfl)
theorem q_set_5 {α : Type} {a0 a1 a2 a3 a4 a5 b : α} {l : List α} : (a0 :: a1 :: a2 :: a3 :: a4 :: a5 :: l).set 5 b = a0 :: a1 :: a2 :: a3 :: a4 :: b :: l := (rfl)
theorem q_get_5 {α : Type} {a0 a1 a2 a3 a4 a5 b : α} {l : List α} : (a0 :: a1 :: a2 :: a3 :: a4 :: a5 :: l).getD 5 b = a5 := (rfl)
theorem q_set_6 {α : Type} {a0 a1 a2 a3 a4 a5 a6 b : α} {l : List α} : (a0 :: a1 :: a2 :: a3 :: a4 :: a5 :: a6 :: l).set 6 b = a0 :: a1 :: a2 :: a3 :: a4 :: a5 :: b :: l := (rfl)
theorem q_get_6 {α : Type} {a0 a1 a2 a3 a4 a5 a6 b : α} {l : List α} : (a0 :: a1 :: a2 :: a3 :: a4 :: a5 :: a6 :: l).getD 6 b = a6 := (rfl)
theorem q_set_7 {α : Type} {a0 a1 a2 a3 a4 a5 a6 a7 b : α} {l : List α} : (a0 :: a1 :: a2 :: a3 :: a4 :: a5 :: a6 :: a7 :: l).set 7 b = a0 :: a1 :: a2 :: a3 :: a4 :: a5 :: a6 :: b :: l := (rfl)
theorem q_get_7 {α : Type} {a0 a1 a2 a3 a4 a5 a6 a7 b : α} {l : List α} : (a0 :: a1 :: a2 :: a3 :: a4 :: a5 :: a6 :: a7 :: l).getD 7 b = a7 := (rfl)
theorem q_set_8 {α : Type} {a0 a1 a2 a3 a4 a5 a6 a7 a8 b : α} {l : List α} : (a0 :: a1 :: a2 :: a3 :: a4 :: a5 :: a6 :: a7 :: a8 :: l).set 8 b = a0 :: a1 :: a2 :: a3 :: a4 :: a5 :: a6 :: a7 :: b :: l := (rfl)
theorem q_get_8 {α : Type} {a0 a1 a2 a3 a4 a5 a6 a7 a8 b : α} {l : List α} : (a0 :: a1 :: a2 :: a3 :: a4 :: a5 :: a6 :: a7 :: a8 :: l).getD 8 b = a8 := (rfl)
theorem q_set_9 {α : Type} {a0 a1 a2 a3 a4 a5 a6 a7 a8 a9 b : α} {l : List α} : (a0 :: a1 :: a2 :: a3 :: a4 :: a5 :: a6 :: a7 :: a8 :: a9 :: l).set 9 b = a0 :: a1 :: a2 :: a3 :: a4 :: a5 :: a6 :: a7 :: a8 :: b :: l := (rfl)
theorem q_get_9 {α : Type} {a0 a1 a2 a3 a4 a5 a6 a7 a8 a9 b : α} {l : List α} : (a0 :: a1 :: a2 :: a3 :: a4 :: a5 :: a6 :: a7 :: a8 :: a9 :: l).getD 9 b = a9 := (rfl)
theorem q_set_10 {α : Type} {a0 a1 a2 a3 a4 a5 a6 a7 a8 a9 a10 b : α} {l : List α} : (a0 :: a1 :: a2 :: a3 :: a4 :: a5 :: a6 :: a7 :: a8 :: a9 :: a10 :: l).set 10 b = a0 :: a1 :: a2 :: a3 :: a4 :: a5 :: a6 :: a7 :: a8 :: a9 :: b :: l := (rfl)
theorem q_get_10 {α : Type} {a0 a1 a2 a3 a4 a5 a6 a7 a8 a9 a10 b : α} {l : List α} : (a0 :: a1 :: a2 :: a3 :: a4 :: a5 :: a6 :: a7 :: a8 :: a9 :: a10 :: l).getD 10 b = a10 := (rfl)
theorem q_set_11 {α : Type} {a0 a1 a2 a3 a4 a5 a6 a7 a8 a9 a10 a11 b : α} {l : List α} : (a0 :: a1 :: a2 :: a3 :: a4 :: a5 :: a6 :: a7 :: a8 :: a9 :: a10 :: a11 :: l).set 11 b = a0 :: a1 :: a2 :: a3 :: a4 :: a5 :: a6 :: a7 :: a8 :: a9 :: a10 :: b :: l := (rfl)
theorem q_get_11 {α : Type} {a0 a1 a2 a3 a4 a5 a6 a7 a8 a9 a10 a11 b : α} {l : List α} : (a0 :: a1 :: a2 :: a3 :: a4 :: a5 :: a6 :: a7 :: a8 :: a9 :: a10 :: a11 :: l).getD 11 b = a11 := (rfl)
theorem q_set_12 {α : Type} {a0 a1 a2 a3 a4 a5 a6 a7 a8 a9 a10 a11 a12 b : α} {l : List α} : (a0 :: a1 :: a2 :: a3 :: a4 :: a5 :: a6 :: a7 :: a8 :: a9 :: a10 :: a11 :: a12 :: l).set 12 b = a0 :: a1 :: a2 :: a3 :: a4 :: a5 :: a6 :: a7 :: a8 :: a9 :: a10 :: a11 :: b :: l := (rfl)
theorem q_get_12 {α : Type} {a0 a1 a2 a3 a4 a5 a6 a7 a8 a9 a10 a11 a12 b : α} {l : List α} : (a0 :: a1 :: a2 :: a3 :: a4 :: a5 :: a6 :: a7 :: a8 :: a9 :: a10 :: a11 :: a12 :: l).getD 12 b = a12 := (rfl)
theorem q_set_13 {α : Type} {a0 a1 a2 a3 a4 a5 a6 a7 a8 a9 a10 a11 a12 a13 b : α} {l : List α} : (a0 :: a1 :: a2 :: a3 :: a4 :: a5 :: a6 :: a7 :: a8 :: a9 :: a10 :: a11 :: a12 :: a13 :: l).set 13 b = a0 :: a1 :: a2 :: a3 :: a4 :: a5 :: a6 :: a7 :: a8 :: a9 :: a10 :: a11 :: a12 :: b :: l := (rfl)
theorem q_get_13 {α : Type} {a0 a1 a2 a3 a4 a5 a6 a7 a8 a9 a10 a11 a12 a13 b : α} {l : List α} : (a0 :: a1 :: a2 :: a3 :: a4 :: a5 :: a6 :: a7 :: a8 :: a9 :: a10 :: a11 :: a12 :: a13 :: l).getD 13 b = a13 := (rfl)
theorem q_set_14 {α : Type} {a0 a1 a2 a3 a4 a5 a6 a7 a8 a9 a10 a11 a12 a13 a14 b : α} {l : List α} : (a0 :: a1 :: a2 :: a3 :: a4 :: a5 :: a6 :: a7 :: a8 :: a9 :: a10 :: a11 :: a12 :: a13 :: a14 :: l).set 14 b = a0 :: a1 :: a2 :: a3 :: a4 :: a5 :: a6 :: a7 :: a8 :: a9 :: a10 :: a11 :: a12 :: a13 :: b :: l := (rfl)
theorem q_get_14 {α : Type} {a0 a1 a2 a3 a4 a5 a6 a7 a8 a9 a10 a11 a12 a13 a14 b : α} {l : List α} : (a0 :: a1 :: a2 :: a3 :: a4 :: a5 :: a6 :: a7 :: a8 :: a9 :: a10 :: a11 :: a12 :: a13 :: a14 :: l).getD 14 b = a14 := (rfl)
theorem q_set_15 {α : Type} {a0 a1 a2 a3 a4 a5 a6 a7 a8 a9 a10 a11 a12 a13 a14 a15 b : α} {l : List α} : (a0 :: a1 :: a2 :: a3 :: a4 :: a5 :: a6 :: a7 :: a8 :: a9 :: a10 :: a11 :: a12 :: a13 :: a14 :: a15 :: l).set 15 b = a0 :: a1 :: a2 :: a3 :: a4 :: a5 :: a6 :: a7 :: a8 :: a9 :: a10 :: a11 :: a12 :: a13 :: a14 :: b :: l := (rfl)
theorem q_get_15 {α : Type} {a0 a1 a2 a3 a4 a5 a6 a7 a8 a9 a10 a11 a12 a13 a14 a15 b : α} {l : List α} : (a0 :: a1 :: a2 :: a3 :: a4 :: a5 :: a6 :: a7 :: a8 :: a9 :: a10 :: a11 :: a12 :: a13 :: a14 :: a15 :: l).getD 15 b = a15 := (rfl)
theorem q_okL {n : Nat} (h : n ≤ 1000000) : okLen n = true := decide_eq_true h
end
/-! while, a turn -/
def wNext (c : En → Option Bool) (F : En → Option Out) (n : Nat) : Option Out → Option Out
  | some (.nx ρ) => whileD c F n ρ
  | some (.ct ρ) => whileD c F n ρ
  | some (.bk ρ) => some (.nx ρ)
  | some (.rt d) => some (.rt d)
  | some (.rf d) => some (.rf d)
  | none => none
def wIf (c : En → Option Bool) (F : En → Option Out) (n : Nat) : Option Bool → En → Option Out
  | some true, ρ => wNext c F n (F ρ)
  | some false, ρ => some (.nx ρ)
  | none, _ => none
theorem x_while {c : En → Option Bool} {F : En → Option Out} {n : Nat} {ρ : En} : whileD c F (n + 1) ρ = wIf c F n (c ρ) ρ := by
  rw [whileD]
  cases c ρ with
  | none => rfl
  | some b =>
    cases b with
    | false => rfl
    | true =>
      show (F ρ).bind _ = wNext c F n (F ρ)
      cases F ρ with
      | none => rfl
      | some o => cases o <;> rfl
theorem q_wIf1 {c : En → Option Bool} {F : En → Option Out} {n : Nat} {ρ : En} : wIf c F n (some true) ρ = wNext c F n (F ρ) := (rfl)
theorem q_wIf2 {c : En → Option Bool} {F : En → Option Out} {n : Nat} {ρ : En} : wIf c F n (some false) ρ = some (.nx ρ) := (rfl)
theorem q_wNext1 {c : En → Option Bool} {F : En → Option Out} {n : Nat} {ρ : En} : wNext c F n (some (.nx ρ)) = whileD c F n ρ := (rfl)
theorem q_wNext2 {c : En → Option Bool} {F : En → Option Out} {n : Nat} {ρ : En} : wNext c F n (some (.ct ρ)) = whileD c F n ρ := (rfl)
theorem q_wNext3 {c : En → Option Bool} {F : En → Option Out} {n : Nat} {ρ : En} : wNext c F n (some (.bk ρ)) = some (.nx ρ) := (rfl)
theorem q_wNext4 {c : En → Option Bool} {F : En → Option Out} {n : Nat} {d : D} : wNext c F n (some (.rt d)) = some (.rt d) := (rfl)
theorem q_wNext5 {c : En → Option Bool} {F : En → Option Out} {n : Nat} {d : List D} : wNext c F n (some (.rf d)) = some (.rf d) := (rfl)
theorem fn_1 {n : Nat} {F : En → Option Out} {a0 : D} : fnOut 1 n F [a0] = outD (F (startD n [a0])) := (rfl)
theorem fnF_1 {n : Nat} {F : En → Option Out} {a0 : D} : fnOutF 1 n F [a0] = outF (F (startD n [a0])) := (rfl)
theorem fn_2 {n : Nat} {F : En → Option Out} {a0 a1 : D} : fnOut 2 n F [a0, a1] = outD (F (startD n [a0, a1])) := (rfl)
theorem fnF_2 {n : Nat} {F : En → Option Out} {a0 a1 : D} : fnOutF 2 n F [a0, a1] = outF (F (startD n [a0, a1])) := (rfl)
theorem fn_3 {n : Nat} {F : En → Option Out} {a0 a1 a2 : D} : fnOut 3 n F [a0, a1, a2] = outD (F (startD n [a0, a1, a2])) := (rfl)
theorem fnF_3 {n : Nat} {F : En → Option Out} {a0 a1 a2 : D} : fnOutF 3 n F [a0, a1, a2] = outF (F (startD n [a0, a1, a2])) := (rfl)
theorem fn_4 {n : Nat} {F : En → Option Out} {a0 a1 a2 a3 : D} : fnOut 4 n F [a0, a1, a2, a3] = outD (F (startD n [a0, a1, a2, a3])) := (rfl)
theorem fnF_4 {n : Nat} {F : En → Option Out} {a0 a1 a2 a3 : D} : fnOutF 4 n F [a0, a1, a2, a3] = outF (F (startD n [a0, a1, a2, a3])) := (rfl)
theorem fn_5 {n : Nat} {F : En → Option Out} {a0 a1 a2 a3 a4 : D} : fnOut 5 n F [a0, a1, a2, a3, a4] = outD (F (startD n [a0, a1, a2, a3, a4])) := (rfl)
theorem fnF_5 {n : Nat} {F : En → Option Out} {a0 a1 a2 a3 a4 : D} : fnOutF 5 n F [a0, a1, a2, a3, a4] = outF (F (startD n [a0, a1, a2, a3, a4])) := (rfl)
theorem fn_6 {n : Nat} {F : En → Option Out} {a0 a1 a2 a3 a4 a5 : D} : fnOut 6 n F [a0, a1, a2, a3, a4, a5] = outD (F (startD n [a0, a1, a2, a3, a4, a5])) := (rfl)
theorem fnF_6 {n : Nat} {F : En → Option Out} {a0 a1 a2 a3 a4 a5 : D} : fnOutF 6 n F [a0, a1, a2, a3, a4, a5] = outF (F (startD n [a0, a1, a2, a3, a4, a5])) := (rfl)
end PD
namespace PD
open PySem L2
/-! ### more statements -/
/-- x += e, ints -/
def sAug (g : Int → Int → Int) (i : Nat) (f : En → Option D) (ρ : En) : Option Out := match eV i ρ, f ρ with
  | some (.int a), some (.int b) => some (.nx (ρ.set i (some (.int (g a b)))))
  | _, _ => none
/-- a, b = e -/
def tgX (t : Tgt) : Option D → En → Option Out
  | some d, ρ => match stD t d ρ with
    | some ρ' => some (.nx ρ')
    | none => none
  | none, _ => none
def sTg (O : List Nat) (t : Tgt) (f : En → Option D) (ρ : En) : Option Out := tgX t (f (mask O ρ)) ρ
/-- .. the value without lists -/
def sTgI (t : Tgt) (f : En → Option D) (ρ : En) : Option Out := (f ρ).bind fun d => if imm d then tgX t (some d) ρ else none
/-- xs[k] += e, ints -/
def sSetAug (g : Int → Int → Int) (i : Nat) (k f : En → Option D) (ρ : En) : Option Out := match eV i ρ, k ρ, f ρ with
  | some (.lst ds), some (.int z), some (.int b) => match ixN ds.length z with
    | some j => if 0 ≤ z ∧ z < 1000000 then (match ds[j]? with
      | some (.int a) => some (.nx (ρ.set i (some (.lst (ds.set j (.int (g a b)))))))
      | _ => none) else none
    | none => none
  | _, _, _ => none
/-- xs.append(ys.pop(k)) -/
def sPopApp (i j : Nat) (k : En → Option D) (ρ : En) : Option Out := match eV i ρ, eV j ρ, k ρ with
  | some (.lst xs), some (.lst ys), some (.int z) => if 0 ≤ z ∧ z < 1000000 then (match ys[z.toNat]? with
    | some y => if okLen xs.length then some (.nx ((ρ.set j (some (.lst (ys.eraseIdx z.toNat)))).set i (some (.lst (xs ++ [y]))))) else none
    | none => none) else none
  | _, _, _ => none
/-- xs.extend(a new list without lists) -/
def sExtI (i : Nat) (f : En → Option (List D)) (ρ : En) : Option Out := match eV i ρ with
  | some (.lst xs) => (f ρ).bind fun ys => if imms ys && okLen (xs.length + ys.length) then some (.nx (ρ.set i (some (.lst (xs ++ ys))))) else none
  | _ => none
def truD : D → Option Bool
  | .non => some false
  | .bl b => some b
  | .int i => some (i != 0)
  | .str y => if okLen y.length then some ((y.length : Int) != 0) else none
  | .lst ds => some (!ds.isEmpty)
  | .tup ds => some (!ds.isEmpty)
  | .dic ds => some (!ds.isEmpty)
  | _ => none
def truO : Option D → Option Bool
  | some d => truD d
  | none => none
def tTru (f : En → Option D) (ρ : En) : Option Bool := truO (f ρ)
def isNonD : D → Option D
  | .non => some (.bl true)
  | _ => some (.bl false)
def notNonD : D → Option D
  | .non => some (.bl false)
  | _ => some (.bl true)
theorem Dns.erase {K : PySem.W.Frag} {H : Hp} : ∀ {vs : List V} {ds : List D} (i : Nat), Dns K H vs ds → Dns K H (vs.eraseIdx i) (ds.eraseIdx i)
  | _, _, _, .nil => by simp; exact .nil
  | _, _, 0, .cons _ r => r
  | _, _, i + 1, .cons h r => .cons h (Dns.erase i r)
theorem Dns.empty {K : PySem.W.Frag} {H : Hp} {vs : List V} {ds : List D} (r : Dns K H vs ds) : vs.isEmpty = ds.isEmpty := by cases r <;> rfl
theorem Dks.empty {K : PySem.W.Frag} {H : Hp} {vs : List (Key × V)} {ds : List (Key × D)} (r : Dks K H vs ds) : vs.isEmpty = ds.isEmpty := by cases r <;> rfl
section
variable {K : PySem.W.Frag} {O : List Nat} {σ : St} {H : Hp} {D' : Ends}
theorem rd_tru {f : En → Option D} {Q : Bool → Hp → Prop} (h : rdT K (tTru f) σ H Q) : rdE K f σ H fun x H' => ∃ k, TruV K x H' k ∧ Q k H' := by
  obtain ⟨Hv, ρ, b, e, en, f', k⟩ := h
  unfold tTru at f'
  cases h1 : f ρ with
  | none => rw [h1] at f'; cases f'
  | some d =>
    rw [h1] at f'
    refine ⟨Hv, ρ, d, e, en, h1, fun v H' Hv' s q => ⟨b, ?_, k H' Hv' s⟩⟩
    replace f' : truD d = some b := f'
    cases q <;> simp only [truD] at f' <;> try cases f'
    · rfl
    · rfl
    · rfl
    · split at f'
      · rename_i c; cases f'; exact ⟨okLen_le c, rfl⟩
      · cases f'
    · rename_i hs r; exact .inr (.inl ⟨_, sameT s.c hs, by rw [r.empty]⟩)
    · rename_i hs r; exact .inl ⟨_, sameL s.c hs, by rw [r.empty]⟩
    · rename_i hs r; exact .inr (.inr ⟨_, s.c _ _ hs, by rw [r.empty]⟩)
theorem rd_isN {f : En → Option D} {Q : VK} (h : rdE K (e1 isNonD f) σ H Q) : tIsN (rdE K f) σ H Q := by
  obtain ⟨Hv, ρ, d, e, en, f', k⟩ := h
  obtain ⟨c, h1, f'⟩ := bind_some2 f'
  refine ⟨Hv, ρ, c, e, en, h1, fun v H' Hv' s q => ?_⟩
  cases q <;> cases f' <;> exact k _ H' Hv' s (.bl _)
theorem rd_notN {f : En → Option D} {Q : VK} (h : rdE K (e1 notNonD f) σ H Q) : tNotN (rdE K f) σ H Q := by
  obtain ⟨Hv, ρ, d, e, en, f', k⟩ := h
  obtain ⟨c, h1, f'⟩ := bind_some2 f'
  refine ⟨Hv, ρ, c, e, en, h1, fun v H' Hv' s q => ?_⟩
  cases q <;> cases f' <;> exact k _ H' Hv' s (.bl _)
theorem rs_aug {g : Int → Int → Int} {i : Nat} {f : En → Option D} (hi : i ∉ O) (h : rdS K O (sAug g i f) D' σ H) : tAug i (rdE K f) (ipI g) D' σ H := by
  obtain ⟨H0, Hv0, Hb, Hv, ρ, o, k, f', p⟩ := h
  unfold sAug at f'
  split at f'
  · rename_i a b e1 e2
    cases f'
    obtain ⟨v, h1, h2⟩ := k.fz i _ hi (eV_some e1)
    cases h2
    refine ⟨_, h1, H, ρ, _, .refl _, k.full, e2, fun v H' Hv' s q => ?_⟩
    cases q
    exact ⟨a, b, rfl, rfl, p _ H' Hv ((k.grow s.a).setF hi (.int _))⟩
  · cases f'
theorem rs_tg {t : Tgt} {f : En → Option D} (ho : ∀ i ∈ t.slots, i ∉ O) (h : rdS K O (sTg O t f) D' σ H) : tAsg (rdE K f) (gTg K t) D' σ H := by
  obtain ⟨H0, Hv0, Hb, Hv, ρ, o, k, f', p⟩ := h
  unfold sTg at f'
  cases h1 : f (mask O ρ) with
  | none => rw [h1] at f'; cases f'
  | some d =>
    rw [h1] at f'
    simp only [tgX] at f'
    split at f'
    · rename_i ρ' e
      cases f'
      refine ⟨Hv, mask O ρ, d, k.vin, k.msk, h1, fun v H' Hv' s q => ?_⟩
      exact gTg_Ok (k.step s) ho q e fun σ1 k1 => p σ1 H' Hv' k1
    · cases f'
theorem rs_tgI {t : Tgt} {f : En → Option D} (ho : ∀ i ∈ t.slots, i ∉ O) (h : rdS K O (sTgI t f) D' σ H) : tAsg (rdE K f) (gTg K t) D' σ H := by
  obtain ⟨H0, Hv0, Hb, Hv, ρ, o, k, f', p⟩ := h
  obtain ⟨d, h1, f'⟩ := bind_some2 f'
  split at f'
  · rename_i m
    simp only [tgX] at f'
    split at f'
    · rename_i ρ' e
      cases f'
      refine ⟨H, ρ, d, .refl _, k.full, h1, fun v H' Hv' s q => ?_⟩
      have k' := k.grow s.a
      have k2 := k'.step (Hv' := tupV Hv H') ⟨.refl _, tupV_a _ _, tupV_c k'.vin, fun p o m hp n => tupV_h m hp n⟩
      exact gTg_Ok k2 ho ((q.mono s.c).imm k'.vin m) e fun σ1 k1 => p σ1 H' _ k1
    · cases f'
  · cases f'
/-- a list's item read ahead of xs[k] += e -/
def rGetL : V → V → Hp → VK → Prop := fun x y H Q => ∃ p xs i v, x = .ref p ∧ y = .int i ∧ H p = some (.lst xs) ∧ 0 ≤ i ∧ i < 1000000 ∧ xs[i.toNat]? = some v ∧ Q v H
theorem get_list {X : Cx} : PGet X rGetL := by
  intro pins s σ H x y v u Q I rx ry h
  obtain ⟨p, xs, i, z, rfl, rfl, hq, h0, h1, he, q⟩ := h
  cases rx
  obtain ⟨t, rfl⟩ := ry
  obtain ⟨its, r, pl, hz⟩ := I.list (.of hq)
  obtain ⟨w, ew, rw'⟩ := r.get he
  exact wpAny_getItem_list pl.isList h0 (by omega) (by simpa using ew) ⟨z, H, I, rw', q⟩
theorem rs_setAug {g : Int → Int → Int} {i : Nat} {f f2 : En → Option D} (hi : i ∈ O) (h : rdS K O (sSetAug g i f2 f) D' σ H) : tAugS (tVar i) (rdE K f2) (rdE K f) rGetL (ipI g) rSetL D' σ H := by
  obtain ⟨H0, Hv0, Hb, Hv, ρ, o, k, f', p⟩ := h
  unfold sSetAug at f'
  split at f'
  · rename_i ds z b e1 e2 e3
    split at f'
    · rename_i j ej
      split at f'
      case isFalse => cases f'
      rename_i hz
      split at f'
      · rename_i a ea
        cases f'
        have hρ := eV_some e1
        obtain ⟨l, vs, ds', a1, a2, a3, a4, a5, a6⟩ := k.owL hi hρ
        cases a1
        have hj : z.toNat = j := by
          unfold ixN at ej
          rw [if_pos hz.1] at ej
          split at ej
          · exact Option.some.inj ej
          · cases ej
        obtain ⟨v, hv, dv⟩ := a6.get ea
        cases dv
        refine ⟨_, a2, H, ρ, _, .refl _, k.full, e2, fun v1 H1 Hv1 s1 q1 => ?_⟩
        cases q1
        refine ⟨l, vs, z, _, rfl, rfl, s1.a _ _ a5, hz.1, hz.2, by rw [hj]; exact hv, ?_⟩
        have k1 := k.grow s1.a
        refine ⟨H1, ρ, _, .refl _, k1.full, e3, fun v2 H2 Hv2 s2 q2 => ?_⟩
        cases q2
        refine ⟨a, b, rfl, rfl, ?_⟩
        have k2 := k1.grow s2.a
        exact ⟨l, vs, z, j, rfl, rfl, s2.a _ _ (s1.a _ _ a5), by rw [a6.length]; exact ej, p _ _ Hv (k2.upd hi hρ a2 a3 a4 (.lst (a6.set j (.int _))))⟩
      · cases f'
    · cases f'
  · cases f'
theorem seqIndex_nat {z : Int} {n : Nat} (h0 : 0 ≤ z) (h : z.toNat < n) : seqIndex? z n = some z.toNat := by
  have e : ixN n z = some z.toNat := by
    unfold ixN
    rw [if_pos h0, if_pos (by omega)]
  exact (ixN_seq e).1
theorem rs_popApp {i j : Nat} {f : En → Option D} (hi : i ∈ O) (hj : j ∈ O) (hij : i ≠ j) (h : rdS K O (sPopApp i j f) D' σ H) :
    tDrop (tBM K "list" rAppend (tVar i) (tCons (tBM K "list" rPopAt (tVar j) (tCons (rdE K f) tNil)) tNil)) D' σ H := by
  obtain ⟨H0, Hv0, Hb, Hv, ρ, o, k, f', p⟩ := h
  unfold sPopApp at f'
  split at f'
  · rename_i xs ys z e1 e2 e3
    split at f'
    case isFalse => cases f'
    rename_i hz
    split at f'
    · rename_i y ey
      split at f'
      case isFalse => cases f'
      rename_i c
      cases f'
      have hρi := eV_some e1
      have hρj := eV_some e2
      obtain ⟨a, vs, _, a1, a2, a3, a4, a5, a6⟩ := k.owL hi hρi
      obtain ⟨b, ws, _, b1, b2, b3, b4, b5, b6⟩ := k.owL hj hρj
      cases a1; cases b1
      have nab : a ≠ b := fun e => by subst e; exact hij (k.sep i j _ _ a hi hj hρi hρj a2 b2)
      obtain ⟨w, hw, dw⟩ := b6.get ey
      have hlt : z.toNat < ws.length := (List.getElem?_eq_some_iff.mp hw).1
      refine ⟨_, a2, Or.inl ⟨rfl, _, .inl (.inl a5)⟩, ?_⟩
      refine ⟨_, b2, Or.inl ⟨rfl, _, .inl (.inl b5)⟩, ?_⟩
      refine ⟨H, ρ, _, .refl _, k.full, e3, fun v1 H1 Hv1 s1 q1 => ?_⟩
      cases q1
      have k1 := k.grow s1.a
      refine ⟨b, ws, z, z.toNat, w, rfl, rfl, s1.a _ _ b5, by omega, by omega, seqIndex_nat hz.1 hlt, hw, ?_⟩
      have k2 := k1.upd hj hρj b2 b3 b4 (.lst (b6.erase z.toNat))
      refine ⟨a, vs, w, rfl, rfl, by rw [upd_ne nab]; exact s1.a _ _ a5, by rw [a6.length]; exact okLen_lt c, ?_⟩
      refine p _ _ Hv (k2.upd hi (de := .lst xs) ?_ a2 a3 a4 (.lst (a6.append (.cons dw .nil))))
      rw [List.getElem?_set_ne (Ne.symm hij)]
      exact hρi
    · cases f'
  · cases f'
theorem rs_extI {i : Nat} {f : En → Option (List D)} (hi : i ∈ O) (h : rdS K O (sExtI i f) D' σ H) : tDrop (tBM K "list" rExtend (tVar i) (tCons (rdF K f) tNil)) D' σ H := by
  obtain ⟨H0, Hv0, Hb, Hv, ρ, o, k, f', p⟩ := h
  unfold sExtI at f'
  split at f'
  · rename_i ds e
    have hρ := eV_some e
    obtain ⟨a, vs, ds', a1, a2, a3, a4, a5, a6⟩ := k.owL hi hρ
    cases a1
    obtain ⟨d, h1, f'⟩ := bind_some2 f'
    split at f'
    · rename_i c
      rw [Bool.and_eq_true] at c
      cases f'
      refine ⟨_, a2, Or.inl ⟨rfl, _, .inl (.inl a5)⟩, H, ρ, d, .refl _, k.full, h1, fun b ws H' Hv' s n n' hb q => ?_⟩
      have k' := k.grow s.a
      have k2 := k'.step (Hv' := tupV Hv H') ⟨.refl _, tupV_a _ _, tupV_c k'.vin, fun p o m hp n => tupV_h m hp n⟩
      have a5' := s.a _ _ a5
      exact ⟨a, b, vs, ws, rfl, rfl, a5', hb, by rw [a6.length, q.length]; exact okLen_le c.2, p _ _ _ (k2.upd hi hρ a2 a3 (tupV_h rfl a5' a4) (.lst ((a6.mono (tupV_a _ _)).append ((q.mono s.c).imm k'.vin c.1))))⟩
    · cases f'
  · cases f'
end
section
variable {X : Cx} {O : List Nat} {i j : Nat} {st : Stmt} {pos : Pos} {e : Expr} {f : En → Option D}
theorem td_tru (h : PE X e (rdE X.K f)) (he : ∀ whole, isTrue e X.env whole = (do let v ← whole; standAt e.pos; holding [v] (truthy v)) := by intro _; rfl) : PT X e (rdT X.K (tTru f)) := pt_imp (pt_truth h he) fun _ _ _ => rd_tru
theorem pd_isN {k : Nat} {p2 : Pos} (h : PE X e (rdE X.K f)) : PE X (.Compare e [.Is] [.Constant .none k p2] pos) (rdE X.K (e1 isNonD f)) := pe_imp (pe_cmp (pc_isN h) rfl) fun _ _ _ => rd_isN
theorem pd_notN {k : Nat} {p2 : Pos} (h : PE X e (rdE X.K f)) : PE X (.Compare e [.IsNot] [.Constant .none k p2] pos) (rdE X.K (e1 notNonD f)) := pe_imp (pe_cmp (pc_notN h) rfl) fun _ _ _ => rd_notN
theorem td_isN {k : Nat} {p2 : Pos} (h : PE X e (rdE X.K f)) : PT X (.Compare e [.Is] [.Constant .none k p2] pos) (rdT X.K (tB2 (e1 isNonD f))) := pt_imp (pt_cmp (pc_isN h) rfl) fun _ _ _ => rd_tB fun _ _ _ => rd_isN
theorem td_notN {k : Nat} {p2 : Pos} (h : PE X e (rdE X.K f)) : PT X (.Compare e [.IsNot] [.Constant .none k p2] pos) (rdT X.K (tB2 (e1 notNonD f))) := pt_imp (pt_cmp (pc_notN h) rfl) fun _ _ _ => rd_tB fun _ _ _ => rd_notN
theorem sd_aug {g : Int → Int → Int} (ho : i ∉ O) (h : PS X st (tAug i (rdE X.K f) (ipI g))) : PS X st (rdS X.K O (sAug g i f)) := ps_imp h fun _ _ _ => rs_aug ho
theorem sd_tg {t : Tgt} (ho : ∀ i ∈ t.slots, i ∉ O) (h : PS X st (tAsg (rdE X.K f) (gTg X.K t))) : PS X st (rdS X.K O (sTg O t f)) := ps_imp h fun _ _ _ => rs_tg ho
theorem sd_tgI {t : Tgt} (ho : ∀ i ∈ t.slots, i ∉ O) (h : PS X st (tAsg (rdE X.K f) (gTg X.K t))) : PS X st (rdS X.K O (sTgI t f)) := ps_imp h fun _ _ _ => rs_tgI ho
theorem sd_setAug {g : Int → Int → Int} {f2 : En → Option D} (ho : i ∈ O) (h : PS X st (tAugS (tVar i) (rdE X.K f2) (rdE X.K f) rGetL (ipI g) rSetL)) : PS X st (rdS X.K O (sSetAug g i f2 f)) := ps_imp h fun _ _ _ => rs_setAug ho
theorem sd_popApp (hi : i ∈ O) (hj : j ∈ O) (hij : i ≠ j) (h : PS X st (tDrop (tBM X.K "list" rAppend (tVar i) (tCons (tBM X.K "list" rPopAt (tVar j) (tCons (rdE X.K f) tNil)) tNil)))) : PS X st (rdS X.K O (sPopApp i j f)) := ps_imp h fun _ _ _ => rs_popApp hi hj hij
theorem sd_extI {ff : En → Option (List D)} (hi : i ∈ O) (h : PS X st (tDrop (tBM X.K "list" rExtend (tVar i) (tCons (rdF X.K ff) tNil)))) : PS X st (rdS X.K O (sExtI i ff)) := ps_imp h fun _ _ _ => rs_extI hi
/-- x = [.. for ..] on one line, x a plain local -/
theorem sd_asgC {own : List Nat} {src : En → Option (List D)} {t : Tgt} {test : En → Option Bool} {fe : En → Option D} (ho : i ∉ O) (hw : ∀ k ∈ t.slots, k ∈ own) (h : PS X st (tAsg (tLc (rdI X.K src) (gTg X.K t) (rdT X.K test) (rdE X.K fe) own) (gName i))) :
    PS X st (rdS X.K O (sAsg O i (eFr (eComp own src t test fe)))) := ps_imp h fun D σ H q => by
  have := rs_asg ho q
  exact rd_comp hw (rd_fr this)
theorem sd_asgCI {own : List Nat} {src : En → Option (List D)} {t : Tgt} {test : En → Option Bool} {fe : En → Option D} (ho : i ∉ O) (hw : ∀ k ∈ t.slots, k ∈ own) (h : PS X st (tAsg (tLc (rdI X.K src) (gTg X.K t) (rdT X.K test) (rdE X.K fe) own) (gName i))) :
    PS X st (rdS X.K O (sAsgI i (eFr (eComp own src t test fe)))) := ps_imp h fun D σ H q => by
  have := rs_asgI ho q
  exact rd_comp hw (rd_fr this)
theorem sd_asgCO {own : List Nat} {src : En → Option (List D)} {t : Tgt} {test : En → Option Bool} {fe : En → Option D} (ho : i ∈ O) (hw : ∀ k ∈ t.slots, k ∈ own) (h : PS X st (tAsg (tLc (rdI X.K src) (gTg X.K t) (rdT X.K test) (rdE X.K fe) own) (gName i))) :
    PS X st (rdS X.K O (sAsgO O i (eComp own src t test fe))) := ps_imp h fun D σ H q => by
  have := rs_asgO ho q
  exact rd_comp hw this
theorem sd_asgCOI {own : List Nat} {src : En → Option (List D)} {t : Tgt} {test : En → Option Bool} {fe : En → Option D} (ho : i ∈ O) (hw : ∀ k ∈ t.slots, k ∈ own) (h : PS X st (tAsg (tLc (rdI X.K src) (gTg X.K t) (rdT X.K test) (rdE X.K fe) own) (gName i))) :
    PS X st (rdS X.K O (sAsgOI i (eComp own src t test fe))) := ps_imp h fun D σ H q => by
  have := rs_asgOI ho q
  exact rd_comp hw this
theorem id_r3 {tg a b c : Expr} {ff : En → Option (List D)} {p : Pos} (h : PI X tg (.Call (.Name "range" p) [a, b, c] [] pos) (iRng3 (rdA X.K ff))) : PI X tg (.Call (.Name "range" p) [a, b, c] [] pos) (rdI X.K (iR3 ff)) := pi_imp h fun _ _ _ => ri_r3
end
/-! equations -/
section
def augX (g : Int → Int → Int) (i : Nat) : Option D → Option D → En → Option Out
  | some (.int a), some (.int b), ρ => some (.nx (ρ.set i (some (.int (g a b)))))
  | _, _, _ => none
def tgIX (t : Tgt) : Option D → En → Option Out
  | some d, ρ => if imm d then tgX t (some d) ρ else none
  | none, _ => none
def extIX (i : Nat) : Option D → Option (List D) → En → Option Out
  | some (.lst xs), some ys, ρ => if imms ys && okLen (xs.length + ys.length) then some (.nx (ρ.set i (some (.lst (xs ++ ys))))) else none
  | _, _, _ => none
def popPut (i j : Nat) (xs ys : List D) (z : Int) (ρ : En) : Option D → Option Out
  | some y => if okLen xs.length then some (.nx ((ρ.set j (some (.lst (ys.eraseIdx z.toNat)))).set i (some (.lst (xs ++ [y]))))) else none
  | none => none
def popX (i j : Nat) : Option D → Option D → Option D → En → Option Out
  | some (.lst xs), some (.lst ys), some (.int z), ρ => if 0 ≤ z ∧ z < 1000000 then popPut i j xs ys z ρ (ys[z.toNat]?) else none
  | _, _, _, _ => none
def setAugPut (g : Int → Int → Int) (i : Nat) (ds : List D) (b : Int) (j : Nat) (ρ : En) : Option D → Option Out
  | some (.int a) => some (.nx (ρ.set i (some (.lst (ds.set j (.int (g a b)))))))
  | _ => none
def setAugJ (g : Int → Int → Int) (i : Nat) (ds : List D) (z b : Int) (ρ : En) : Option Nat → Option Out
  | some j => if 0 ≤ z ∧ z < 1000000 then setAugPut g i ds b j ρ (ds[j]?) else none
  | none => none
def setAugX (g : Int → Int → Int) (i : Nat) : Option D → Option D → Option D → En → Option Out
  | some (.lst ds), some (.int z), some (.int b), ρ => setAugJ g i ds z b ρ (ixN ds.length z)
  | _, _, _, _ => none
variable {O : List Nat} {i j : Nat} {ρ : En} {f f2 : En → Option D} {ff : En → Option (List D)} {t : Tgt} {g : Int → Int → Int}
theorem x_aug : sAug g i f ρ = augX g i (eV i ρ) (f ρ) ρ := by
  unfold sAug
  cases eV i ρ with
  | none => rfl
  | some d => cases d <;> first | rfl | (cases f ρ with | none => rfl | some d2 => cases d2 <;> rfl)
theorem x_tg : sTg O t f ρ = tgX t (f (mask O ρ)) ρ := (rfl)
theorem x_tgI : sTgI t f ρ = tgIX t (f ρ) ρ := by unfold sTgI; cases f ρ <;> rfl
theorem x_tru : tTru f ρ = truO (f ρ) := (rfl)
theorem x_extI : sExtI i ff ρ = extIX i (eV i ρ) (ff ρ) ρ := by
  unfold sExtI
  cases eV i ρ with
  | none => rfl
  | some d => cases d <;> cases ff ρ <;> rfl
theorem x_popApp : sPopApp i j f ρ = popX i j (eV i ρ) (eV j ρ) (f ρ) ρ := by
  unfold sPopApp
  cases eV i ρ with
  | none => rfl
  | some d =>
    cases d <;> try rfl
    cases eV j ρ with
    | none => rfl
    | some d2 =>
      cases d2 <;> try rfl
      cases f ρ with
      | none => rfl
      | some d3 =>
        cases d3 <;> first | rfl | (simp only [popX]; split <;> first | rfl | (split <;> rename_i h <;> simp only [h, popPut]))
theorem x_setAug : sSetAug g i f2 f ρ = setAugX g i (eV i ρ) (f2 ρ) (f ρ) ρ := by
  unfold sSetAug
  cases eV i ρ with
  | none => rfl
  | some d =>
    cases d <;> try rfl
    cases f2 ρ with
    | none => rfl
    | some d2 =>
      cases d2 <;> try rfl
      cases f ρ with
      | none => rfl
      | some d3 =>
        cases d3 <;> rfl
theorem q_stp1 {i0 : Nat} {a : D} : stD (.tp [i0]) (.tup [a]) ρ = some (ρ.set i0 (some a)) := (rfl)
theorem q_stp2 {i0 i1 : Nat} {a b : D} : stD (.tp [i0, i1]) (.tup [a, b]) ρ = some ((ρ.set i0 (some a)).set i1 (some b)) := (rfl)
theorem q_stp3 {i0 i1 i2 : Nat} {a b c : D} : stD (.tp [i0, i1, i2]) (.tup [a, b, c]) ρ = some (((ρ.set i0 (some a)).set i1 (some b)).set i2 (some c)) := (rfl)
theorem q_stp4 {i0 i1 i2 i3 : Nat} {a b c d : D} : stD (.tp [i0, i1, i2, i3]) (.tup [a, b, c, d]) ρ = some ((((ρ.set i0 (some a)).set i1 (some b)).set i2 (some c)).set i3 (some d)) := (rfl)
theorem q_tgp2 {i0 i1 : Nat} {a b : D} : tgX (.tp [i0, i1]) (some (.tup [a, b])) ρ = some (.nx ((ρ.set i0 (some a)).set i1 (some b))) := (rfl)
theorem q_tgp3 {i0 i1 i2 : Nat} {a b c : D} : tgX (.tp [i0, i1, i2]) (some (.tup [a, b, c])) ρ = some (.nx (((ρ.set i0 (some a)).set i1 (some b)).set i2 (some c))) := (rfl)
theorem q_aug {a b : Int} : augX g i (some (.int a)) (some (.int b)) ρ = some (.nx (ρ.set i (some (.int (g a b))))) := (rfl)
theorem q_tg {ρ' : En} {d : D} (h : stD t d ρ = some ρ') : tgX t (some d) ρ = some (.nx ρ') := by simp only [tgX, h]
theorem q_tgN {k : Nat} {d : D} : tgX (.nm k) (some d) ρ = some (.nx (ρ.set k (some d))) := (rfl)
theorem q_tgT {is : List Nat} {ds : List D} : tgX (.tp is) (some (.tup ds)) ρ = if is.length = ds.length then some (.nx (setAll is ds ρ)) else none := by
  simp only [tgX, stD]
  split <;> (rename_i h; split at h <;> simp_all)
theorem q_tgI {d : D} : tgIX t (some d) ρ = if imm d then tgX t (some d) ρ else none := (rfl)
theorem q_tru {d : D} : truO (some d) = truD d := (rfl)
theorem q_truL {l : List D} : truD (.lst l) = some (!l.isEmpty) := (rfl)
theorem q_truI {z : Int} : truD (.int z) = some (z != 0) := (rfl)
theorem q_truB {z : Bool} : truD (.bl z) = some z := (rfl)
theorem q_truN : truD .non = some false := (rfl)
theorem q_extI {xs ys : List D} : extIX i (some (.lst xs)) (some ys) ρ = if imms ys && okLen (xs.length + ys.length) then some (.nx (ρ.set i (some (.lst (xs ++ ys))))) else none := (rfl)
theorem q_pop1 {xs ys : List D} {z : Int} : popX i j (some (.lst xs)) (some (.lst ys)) (some (.int z)) ρ = if 0 ≤ z ∧ z < 1000000 then popPut i j xs ys z ρ (ys[z.toNat]?) else none := (rfl)
theorem q_pop2 {xs ys : List D} {z : Int} {y : D} : popPut i j xs ys z ρ (some y) = if okLen xs.length then some (.nx ((ρ.set j (some (.lst (ys.eraseIdx z.toNat)))).set i (some (.lst (xs ++ [y]))))) else none := (rfl)
theorem q_sa3 {ds : List D} {z b : Int} : setAugX g i (some (.lst ds)) (some (.int z)) (some (.int b)) ρ = setAugJ g i ds z b ρ (ixN ds.length z) := (rfl)
theorem q_sa4 {ds : List D} {z b : Int} : setAugJ g i ds z b ρ (some j) = if 0 ≤ z ∧ z < 1000000 then setAugPut g i ds b j ρ (ds[j]?) else none := (rfl)
theorem q_sa5 {ds : List D} {a b : Int} : setAugPut g i ds b j ρ (some (.int a)) = some (.nx (ρ.set i (some (.lst (ds.set j (.int (g a b))))))) := (rfl)
theorem q_isN1 : isNonD .non = some (.bl true) := (rfl)
theorem q_notN1 : notNonD .non = some (.bl false) := (rfl)
theorem q_isN2 {z : Int} : isNonD (.int z) = some (.bl false) := (rfl)
theorem q_notN2 {z : Int} : notNonD (.int z) = some (.bl true) := (rfl)
theorem q_isN3 {z : List D} : isNonD (.tup z) = some (.bl false) := (rfl)
theorem q_notN3 {z : List D} : notNonD (.tup z) = some (.bl true) := (rfl)
theorem q_isN4 {z : List D} : isNonD (.lst z) = some (.bl false) := (rfl)
theorem q_notN4 {z : List D} : notNonD (.lst z) = some (.bl true) := (rfl)
end
/-- a tuple of two ints that the top has written -/
theorem tup2_dn {K : PySem.W.Frag} {c : Addr} {od : Option Addr} {i j : Int} {t u : Tok} {n : Nat} {sl : Array (Option Value)} (h : K.lookup c = some ⟨.type "tuple", od, .seq #[.int i t, .int j u] n, sl⟩) (H : Hp) : Dn K H (.ref c) (.tup [.int i, .int j]) :=
  .tup (vs := [.int i, .int j]) (.inr ⟨_, _, _, h, rfl, rfl, (by show 2 ≤ sizeLine; rw [sizeLine_eq]; decide), .cons ⟨_, rfl⟩ (.cons ⟨_, rfl⟩ .nil)⟩) (.cons (.int i) (.cons (.int j) .nil))
theorem pd_globE {X : Cx} {x : Str} {v : V} {d : D} {pos : Pos} (hm : ∃ u, X.mg x = some u ∧ RelV v u) (hd : ∀ H, Dn X.K H v d) (hg : Gl X x := by rfl) (hb : (x == ("__debug__" : Str)) = false := by decide) : PE X (.Name x pos) (rdE X.K (eC d)) := by
  obtain ⟨u, h1, h2⟩ := hm
  exact pd_glob hg h1 h2 hd hb
/-- the fuel of «while xs» where each turn takes an item -/
def fuelL (i : Nat) (ρ : En) : Nat := match eV i ρ with | some (.lst l) => l.length + 1 | _ => 0
end PD
namespace PD
open PySem L2
/-! ### texts -/
section
variable {K : PySem.W.Frag}
def dCat : D → D → Option D
  | .str a, .str b => if okLen (a.length + b.length) then some (.str (a ++ b)) else none
  | _, _ => none
theorem ok_cat : Ok2 K (fun x y H Q => ∃ i j, x = .str i ∧ y = .str j ∧ i.length + j.length ≤ sizeLine ∧ Q (.str (i ++ j)) H) dCat := by
  intro H Hv x y a b d Q e hx hy h k
  unfold dCat at h
  split at h
  · cases hx; cases hy
    split at h
    · rename_i c
      cases h
      exact ⟨_, _, rfl, rfl, okLen_le c, k _ H Hv (.refl e) (.str _)⟩
    · cases h
  · cases h
def dIn : D → D → Option D
  | .str a, .str b => some (.bl (!(Builtin.Str.occurrences b a 0 b.length 1).isEmpty))
  | _, _ => none
theorem ok_in : Ok2 K (fun x y H Q => ∃ i j, x = .str i ∧ y = .str j ∧ Q (.bl (!(Builtin.Str.occurrences j i 0 j.length 1).isEmpty)) H) dIn := by
  intro H Hv x y a b d Q e hx hy h k
  unfold dIn at h
  split at h
  · cases hx; cases hy; cases h
    exact ⟨_, _, rfl, rfl, k _ H Hv (.refl e) (.bl _)⟩
  · cases h
def dNin : D → D → Option D
  | .str a, .str b => some (.bl (!(!(Builtin.Str.occurrences b a 0 b.length 1).isEmpty)))
  | _, _ => none
theorem ok_nin : Ok2 K (fun x y H Q => ∃ i j, x = .str i ∧ y = .str j ∧ Q (.bl (!(!(Builtin.Str.occurrences j i 0 j.length 1).isEmpty))) H) dNin := by
  intro H Hv x y a b d Q e hx hy h k
  unfold dNin at h
  split at h
  · cases hx; cases hy; cases h
    exact ⟨_, _, rfl, rfl, k _ H Hv (.refl e) (.bl _)⟩
  · cases h
def cStr : List D → Option D
  | [.int i] => if i.natAbs.log2 < 1920 then some (.str (Str.ofString (toString i))) else none
  | _ => none
theorem okc_str : OkC K (fun xs H Q => ∃ i, xs = [.int i] ∧ i.natAbs.log2 < 1920 ∧ Q (.str (toString i)) H) cStr := by
  intro H Hv vs ds d Q e r h k
  unfold cStr at h
  split at h
  · cases r with
    | cons q r =>
      cases r; cases q
      split at h
      · rename_i c
        cases h
        exact ⟨_, rfl, c, k _ H Hv (.refl e) (.str _)⟩
      · cases h
  · cases h
def cIntS : List D → Option D
  | [.str a] => if a.length ≤ 640 then (PySem.intText? a).map D.int else none
  | _ => none
theorem okc_intS : OkC K (fun xs H Q => ∃ a n, xs = [.str a] ∧ PySem.intText? a = some n ∧ a.length ≤ 640 ∧ Q (.int n) H) cIntS := by
  intro H Hv vs ds d Q e r h k
  unfold cIntS at h
  split at h
  · cases r with
    | cons q r =>
      cases r; cases q
      split at h
      · rename_i c
        cases e1 : PySem.intText? _ with
        | none => rw [e1] at h; cases h
        | some n =>
          rw [e1] at h
          cases h
          exact ⟨_, n, rfl, e1, c, k _ H Hv (.refl e) (.int _)⟩
      · cases h
  · cases h
/-- text.split(by) -/
def eSplit (f g : En → Option D) (ρ : En) : Option (List D) := match f ρ, g ρ with
  | some (.str a), some (.str b) => if !(b.length == 0) && okLen (a.length + 2) then some ((Txt.split a b).map D.str) else none
  | _, _ => none
theorem dns_strs {H : Hp} : ∀ l : List Str, Dns K H (l.map V.str) (l.map D.str)
  | [] => .nil
  | s :: l => .cons (.str s) (dns_strs l)
variable {σ : St} {H : Hp}
theorem rd_split {f g : En → Option D} {Q : VK} (h : rdF K (eSplit f g) σ H Q) : tM1 (fun x xs H Q => ∃ a b, x = .str a ∧ xs = [.str b] ∧ (b.length == 0) = false ∧ a.length + 2 ≤ sizeLine ∧ rNewStrs (Txt.split a b) H Q) (rdE K f) (rdE K g) σ H Q := by
  obtain ⟨Hv, ρ, ds, e, en, f', k⟩ := h
  unfold eSplit at f'
  split at f'
  · rename_i a b e1 e2
    split at f'
    · rename_i c
      rw [Bool.and_eq_true, Bool.not_eq_true'] at c
      cases f'
      refine ⟨Hv, ρ, _, e, en, e1, fun v1 H1 Hv1 s1 d1 => ?_⟩
      cases d1
      refine ⟨⟨_, rfl⟩, Hv1, ρ, _, s1.c, en.mono s1.b, e2, fun v2 H2 Hv2 s2 d2 => ?_⟩
      cases d2
      refine ⟨_, _, rfl, rfl, c.1, okLen_le c.2, fun p hp => ?_⟩
      have s12 := s1.trans s2
      have hn : H p = none := by
        cases eh : H p with
        | none => rfl
        | some o => rw [s12.a _ _ eh] at hp; cases hp
      have nv : Hv2 p = none := s2.c.free hp
      exact k p _ _ Hv2 (s12.trans ⟨sameNew hp, .refl _, fun a u q => sameNew hp _ _ (s2.c _ _ q), fun q o m hq n => n⟩) hn nv upd_same (dns_strs _)
    · cases f'
  · cases f'
/-- for sign in text -/
def iS (f : En → Option D) (ρ : En) : Option (List D) := match f ρ with | some (.str z) => some (z.cps.toList.map fun c => D.str ⟨#[c]⟩) | _ => none
theorem walk_str {Hv1 : Hp} (z : Str) : Walk K Hv1 (Its z) (z.cps.toList.map fun c => D.str ⟨#[c]⟩) := by
  intro i H Hv s1 s2
  rw [List.getElem?_map, Array.getElem?_toList]
  refine ⟨fun d e => ?_, fun e => ?_⟩
  · cases e1 : z.cps[i]? with
    | none => rw [e1] at e; cases e
    | some c =>
      rw [e1] at e
      cases e
      refine ⟨?_, fun x H' y => ?_⟩
      · show i < z.cps.size
        exact (Array.getElem?_eq_some_iff.mp e1).1
      · obtain ⟨h1, c', h2, h3⟩ := y
        subst h1 h3
        rw [e1] at h2
        cases h2
        exact ⟨Hv, .refl s2, .str _⟩
  · cases e1 : z.cps[i]? with
    | none => exact Array.getElem?_eq_none_iff.mp e1
    | some c => rw [e1] at e; cases e
theorem ri_str {R : It → Hp → Prop} {f : En → Option D} (h : rdI K (iS f) σ H R) : iStr (rdE K f) σ H R := by
  obtain ⟨Hv, ρ, ds, e, en, f', k⟩ := h
  unfold iS at f'
  split at f'
  · rename_i l e1
    cases f'
    refine ⟨Hv, ρ, _, e, en, e1, fun v H' Hv' s q => ?_⟩
    cases q
    exact ⟨_, rfl, k _ H' Hv' s (walk_str _)⟩
  · cases f'
end
section
variable {X : Cx} {e o a b tg : Expr} {f g : En → Option D} {pos apos p2 : Pos} {O : List Nat}
theorem pd_cat (ha : PE X a (rdE X.K f)) (hb : PE X b (rdE X.K g)) : PE X (.BinOp a .Add b pos) (rdE X.K (e2 dCat f g)) := pd_op op_add_str ok_cat ha hb
theorem pd_in (ha : PE X a (rdE X.K f)) (hb : PE X b (rdE X.K g)) (hm : behindInMarks .In b = false := by rfl) : PE X (.Compare a [.In] [b] pos) (rdE X.K (e2 dIn f g)) := pd_cmp op_in_str ok_in ha hb hm
theorem pd_nin (ha : PE X a (rdE X.K f)) (hb : PE X b (rdE X.K g)) (hm : behindInMarks .NotIn b = false := by rfl) : PE X (.Compare a [.NotIn] [b] pos) (rdE X.K (e2 dNin f g)) := pd_cmp op_notin_str ok_nin ha hb hm
theorem pt_in (ha : PE X a (rdE X.K f)) (hb : PE X b (rdE X.K g)) (hm : behindInMarks .In b = false := by rfl) : PT X (.Compare a [.In] [b] pos) (rdT X.K (tB2 (e2 dIn f g))) := pt_cmpd op_in_str ok_in ha hb hm
theorem pt_nin (ha : PE X a (rdE X.K f)) (hb : PE X b (rdE X.K g)) (hm : behindInMarks .NotIn b = false := by rfl) : PT X (.Compare a [.NotIn] [b] pos) (rdT X.K (tB2 (e2 dNin f g))) := pt_cmpd op_notin_str ok_nin ha hb hm
theorem pf_split (ho : PE X o (rdE X.K f)) (he : PE X e (rdE X.K g)) (hs : starEach [e] X.env = [(false, eval e X.env)] := by rfl) (hbase : attributeBase o "split" X.env (eval o X.env) = eval o X.env := by rfl) (hline : (apos.endLine == pos.line) = true := by rfl) :
    PE X (.Call (.Attribute o "split" apos) [e] [] pos) (rdF X.K (eSplit f g)) := pe_imp (pe_split ho he hs hbase hline) fun _ _ _ => rd_split
theorem id_str (h : PE X e (rdE X.K f)) : PI X tg e (rdI X.K (iS f)) := pi_imp (pi_str h) fun _ _ _ => ri_str
/-- what is never reached -/
def sNo (_ : En) : Option Out := none
theorem sd_no {st : Stmt} : PS X st (rdS X.K O sNo) := ⟨fun pins s D σ H I w => by
  obtain ⟨_, _, _, _, _, _, _, e, _⟩ := w
  cases e⟩
end
/-! ### reckoning -/
def splX : Option D → Option D → Option (List D)
  | some (.str a), some (.str b) => if !(b.length == 0) && okLen (a.length + 2) then some ((Txt.split a b).map D.str) else none
  | _, _ => none
def iSX : Option D → Option (List D)
  | some (.str z) => some (z.cps.toList.map fun c => D.str ⟨#[c]⟩)
  | _ => none
section
variable {f g : En → Option D} {ρ : En} {a b : Str} {i : Int}
theorem x_split : eSplit f g ρ = splX (f ρ) (g ρ) := by
  unfold eSplit
  cases f ρ with
  | none => rfl
  | some d =>
    cases d
    case str a =>
     cases g ρ with
     | none => rfl
     | some d2 => cases d2 <;> rfl
    all_goals rfl
theorem x_iS : iS f ρ = iSX (f ρ) := by
  unfold iS
  cases f ρ with
  | none => rfl
  | some d => cases d <;> rfl
theorem q_split : splX (some (.str a)) (some (.str b)) = if !(b.length == 0) && okLen (a.length + 2) then some ((Txt.split a b).map D.str) else none := (rfl)
theorem q_iS : iSX (some (.str a)) = some (a.cps.toList.map fun c => D.str ⟨#[c]⟩) := (rfl)
theorem q_cat : dCat (.str a) (.str b) = if okLen (a.length + b.length) then some (.str (a ++ b)) else none := (rfl)
theorem q_in : dIn (.str a) (.str b) = some (.bl (!(Builtin.Str.occurrences b a 0 b.length 1).isEmpty)) := (rfl)
theorem q_nin : dNin (.str a) (.str b) = some (.bl (!(!(Builtin.Str.occurrences b a 0 b.length 1).isEmpty))) := (rfl)
theorem q_str : cStr [.int i] = if i.natAbs.log2 < 1920 then some (.str (Str.ofString (toString i))) else none := (rfl)
theorem q_intS : cIntS [.str a] = if a.length ≤ 640 then (PySem.intText? a).map D.int else none := (rfl)
theorem q_ix3 : dIx (.str a) (.int i) = if okLen a.length then (atI a.cps.toList i).map fun c => .str ⟨#[c]⟩ else none := (rfl)
end
end PD
namespace PD
open PySem L2
/-! ### fields, dicts, methods told by functions, membership, lists joined -/
/-! str * 0, str * 1 -/
theorem op_rep01 {X : Cx} : OpR X (binaryOp .Mult) (fun x y H Q => ∃ i k, x = .str i ∧ y = .int k ∧ (k = 0 ∨ k = 1) ∧ Q (.str (if k = 1 then i else Str.empty)) H) := by
  intro pins s σ H x y v u Q I rx ry h
  obtain ⟨i, k, rfl, rfl, hk, q⟩ := h
  obtain ⟨t, rfl⟩ := rx
  obtain ⟨t', rfl⟩ := ry
  rcases hk with rfl | rfl
  · refine PySem.P.mul_str_none (by decide) (by decide) ?_
    exact ⟨.str Str.empty, H, I.tok _, ⟨_, rfl⟩, by simpa using q⟩
  · refine PySem.P.mul_str (by decide) (by simp) (by simp) ?_
    exact ⟨.str i, H, I, ⟨_, rfl⟩, by simpa using q⟩
def dRepS : D → D → Option D
  | .str i, .int k => if k = 0 ∨ k = 1 then some (.str (if k = 1 then i else Str.empty)) else none
  | _, _ => none
section
variable {K : PySem.W.Frag}
theorem ok_repS : Ok2 K (fun x y H Q => ∃ i k, x = .str i ∧ y = .int k ∧ (k = 0 ∨ k = 1) ∧ Q (.str (if k = 1 then i else Str.empty)) H) dRepS := by
  intro H Hv x y a b d Q e hx hy h k
  unfold dRepS at h
  split at h
  · split at h
    · rename_i c
      cases hx; cases hy; cases h
      exact ⟨_, _, rfl, rfl, c, k _ H Hv (.refl e) (.str _)⟩
    · cases h
  · cases h
/-! membership -/
def dInL : D → D → Option D
  | x, .lst ds => if shp x && shp (.lst ds) then some (.bl ((toPs ds).any fun z => PyData.eqv z (toP x))) else none
  | _, _ => none
def dNinL : D → D → Option D
  | x, .lst ds => if shp x && shp (.lst ds) then some (.bl (!(toPs ds).any fun z => PyData.eqv z (toP x))) else none
  | _, _ => none
theorem ok_inL : Ok2 K (rInD K) dInL := by
  intro H Hv x y a b d Q e hx hy h k
  unfold dInL at h
  split at h
  · split at h
    · rename_i c
      rw [Bool.and_eq_true] at c
      unfold shp at c
      rw [Bool.and_eq_true, Bool.and_eq_true] at c
      cases h
      refine ⟨_, _, (hx.mono e).dp c.1.1, ?_, c.1.2, ?_, k _ H Hv (.refl e) (.bl _)⟩
      · have := (hy.mono e).dp c.2.1
        simpa only [toP] using this
      · simpa only [toP] using c.2.2
    · cases h
  · cases h
theorem ok_ninL : Ok2 K (rNotInD K) dNinL := by
  intro H Hv x y a b d Q e hx hy h k
  unfold dNinL at h
  split at h
  · split at h
    · rename_i c
      rw [Bool.and_eq_true] at c
      unfold shp at c
      rw [Bool.and_eq_true, Bool.and_eq_true] at c
      cases h
      refine ⟨_, _, (hx.mono e).dp c.1.1, ?_, c.1.2, ?_, k _ H Hv (.refl e) (.bl _)⟩
      · have := (hy.mono e).dp c.2.1
        simpa only [toP] using this
      · simpa only [toP] using c.2.2
    · cases h
  · cases h
def toF : D → Option V
  | .non => some .non
  | .bl b => some (.bl b)
  | .int i => some (.int i)
  | .str x => some (.str x)
  | _ => none
def toFs : List D → Option (List V)
  | [] => some []
  | d :: ds => match toF d, toFs ds with
    | some v, some vs => some (v :: vs)
    | _, _ => none
theorem toF_dn {H : Hp} {v v' : V} {d : D} (h : Dn K H v d) (e : toF d = some v') : v = v' ∧ flatV v = true := by
  cases h <;> simp only [toF, Option.some.injEq] at e <;> first | (subst e; exact ⟨rfl, rfl⟩) | cases e
theorem toFs_dn {H : Hp} : ∀ {vs vs' : List V} {ds : List D}, Dns K H vs ds → toFs ds = some vs' → vs = vs' ∧ vs.all flatV = true
  | _, _, _, .nil, e => by simp only [toFs, Option.some.injEq] at e; subst e; exact ⟨rfl, rfl⟩
  | _, _, _, .cons (d := d) (ds := ds) h r, e => by
    simp only [toFs] at e
    cases h1 : toF d with
    | none => rw [h1] at e; cases e
    | some w =>
      cases h2 : toFs ds with
      | none => rw [h1, h2] at e; cases e
      | some ws =>
        rw [h1, h2] at e
        cases e
        obtain ⟨rfl, f1⟩ := toF_dn h h1
        obtain ⟨rfl, f2⟩ := toFs_dn r h2
        exact ⟨rfl, by rw [List.all_cons, f1, f2]; rfl⟩
def dInT : D → D → Option D
  | x, .tup ds => match toF x, toFs ds with
    | some v, some vs => some (.bl (inV v vs))
    | _, _ => none
  | _, _ => none
def dNinT : D → D → Option D
  | x, .tup ds => match toF x, toFs ds with
    | some v, some vs => some (.bl (!inV v vs))
    | _, _ => none
  | _, _ => none
theorem ok_inT : Ok2 K (rIn K false) dInT := by
  intro H Hv x y a b d Q e hx hy h k
  unfold dInT at h
  split at h
  · rename_i ds
    cases h1 : toF a with
    | none => rw [h1] at h; cases h
    | some w =>
      cases h2 : toFs ds with
      | none => rw [h1, h2] at h; cases h
      | some ws =>
        rw [h1, h2] at h
        cases h
        obtain ⟨rfl, f1⟩ := toF_dn hx h1
        cases hy with
        | tup hs r =>
          obtain ⟨rfl, f2⟩ := toFs_dn r h2
          exact ⟨_, _, rfl, .inr (sameT e hs), f1, f2, k _ H Hv (.refl e) (.bl _)⟩
  · cases h
theorem ok_ninT : Ok2 K (rIn K true) dNinT := by
  intro H Hv x y a b d Q e hx hy h k
  unfold dNinT at h
  split at h
  · rename_i ds
    cases h1 : toF a with
    | none => rw [h1] at h; cases h
    | some w =>
      cases h2 : toFs ds with
      | none => rw [h1, h2] at h; cases h
      | some ws =>
        rw [h1, h2] at h
        cases h
        obtain ⟨rfl, f1⟩ := toF_dn hx h1
        cases hy with
        | tup hs r =>
          obtain ⟨rfl, f2⟩ := toFs_dn r h2
          exact ⟨_, _, rfl, .inr (sameT e hs), f1, f2, k _ H Hv (.refl e) (.bl _)⟩
  · cases h
/-! dicts -/
def keyD : D → Option Key
  | .int i => some (.inl i)
  | .str x => some (.inr x)
  | _ => none
def getD? (key : Key) : List (Key × D) → Option D
  | [] => none
  | (k, d) :: r => if k = key then some d else getD? key r
def dGet : D → D → Option D
  | .dic kds, k => (keyD k).bind fun key => getD? key kds
  | _, _ => none
def dInK : D → D → Option D
  | k, .dic kds => (keyD k).map fun key => .bl (getD? key kds).isSome
  | _, _ => none
def dNinK : D → D → Option D
  | k, .dic kds => (keyD k).map fun key => .bl (!(getD? key kds).isSome)
  | _, _ => none
theorem key_dnD {H : Hp} {v : V} {d : D} {key : Key} (q : Dn K H v d) (e : keyD d = some key) : v = kV key := by
  cases q <;> simp only [keyD, Option.some.injEq] at e <;> try cases e
  · rfl
  · rfl
theorem val_dks {H : Hp} {key : Key} : ∀ {kvs : List (Key × V)} {kds : List (Key × D)}, Dks K H kvs kds → (getD? key kds = none → valV kvs key = none) ∧ ∀ d, getD? key kds = some d → ∃ v, valV kvs key = some v ∧ Dn K H v d
  | _, _, .nil => ⟨fun _ => rfl, fun d e => by simp [getD?] at e⟩
  | _, _, .cons (k := k) h r => by
    obtain ⟨a, b⟩ := val_dks r
    by_cases hk : k = key
    · subst hk
      refine ⟨fun e => by simp [getD?] at e, fun d e => ?_⟩
      simp only [getD?, if_true, Option.some.injEq] at e
      subst e
      exact ⟨_, valV_pos rfl, h⟩
    · refine ⟨fun e => ?_, fun d e => ?_⟩
      · simp only [getD?, if_neg hk] at e; rw [valV_neg hk]; exact a e
      · simp only [getD?, if_neg hk] at e; rw [valV_neg hk]; exact b d e
theorem val_some {H : Hp} {key : Key} {kvs : List (Key × V)} {kds : List (Key × D)} (r : Dks K H kvs kds) : (valV kvs key).isSome = (getD? key kds).isSome := by
  obtain ⟨a, b⟩ := val_dks (key := key) r
  cases e : getD? key kds with
  | none => rw [a e]; rfl
  | some d => obtain ⟨v, h, _⟩ := b d e; rw [h]; rfl
theorem rd_dget {f1 f2 : En → Option D} {σ : St} {H : Hp} {Q : VK} (h : rdE K (e2 dGet f1 f2) σ H Q) : tDGet (rdE K f1) (rdE K f2) σ H Q := by
  obtain ⟨Hv, ρ, d, e, en, f, k⟩ := h
  unfold e2 at f
  obtain ⟨a, h1, f⟩ := bind_some2 f
  obtain ⟨b, h2, f⟩ := bind_some2 f
  refine ⟨Hv, ρ, a, e, en, h1, fun v1 H1 Hv1 s1 d1 => ?_⟩
  refine ⟨Hv1, ρ, b, s1.c, en.mono s1.b, h2, fun v2 H2 Hv2 s2 d2 => ?_⟩
  unfold dGet at f
  split at f
  · obtain ⟨key, h3, f⟩ := bind_some2 f
    have := key_dnD d2 h3
    subst this
    have d1' := d1.mono s2.b
    cases d1' with
    | dic hi r =>
      obtain ⟨w, g1, g2⟩ := (val_dks r).2 d f
      refine ⟨_, w, rfl, ?_, k w H2 Hv2 (s1.trans s2) g2⟩
      have := DGet.k (k := key) (s2.c _ _ hi)
      rwa [g1] at this
  · cases f
theorem rd_din {f1 f2 : En → Option D} {σ : St} {H : Hp} {Q : VK} (h : rdE K (e2 dInK f1 f2) σ H Q) : tDIn (rdE K f1) (rdE K f2) σ H Q := by
  obtain ⟨Hv, ρ, d, e, en, f, k⟩ := h
  unfold e2 at f
  obtain ⟨a, h1, f⟩ := bind_some2 f
  obtain ⟨b, h2, f⟩ := bind_some2 f
  refine ⟨Hv, ρ, a, e, en, h1, fun v1 H1 Hv1 s1 d1 => ?_⟩
  refine ⟨Hv1, ρ, b, s1.c, en.mono s1.b, h2, fun v2 H2 Hv2 s2 d2 => ?_⟩
  unfold dInK at f
  split at f
  · rename_i kds
    cases h3 : keyD a with
    | none => rw [h3] at f; cases f
    | some key =>
      rw [h3] at f
      cases f
      have := key_dnD d1 h3
      subst this
      cases d2 with
      | dic hi r =>
        refine ⟨_, _, rfl, DGet.k (s2.c _ _ hi), ?_⟩
        rw [val_some r]
        exact k _ H2 Hv2 (s1.trans s2) (.bl _)
  · cases f
theorem rd_dnin {f1 f2 : En → Option D} {σ : St} {H : Hp} {Q : VK} (h : rdE K (e2 dNinK f1 f2) σ H Q) : tDNotIn (rdE K f1) (rdE K f2) σ H Q := by
  obtain ⟨Hv, ρ, d, e, en, f, k⟩ := h
  unfold e2 at f
  obtain ⟨a, h1, f⟩ := bind_some2 f
  obtain ⟨b, h2, f⟩ := bind_some2 f
  refine ⟨Hv, ρ, a, e, en, h1, fun v1 H1 Hv1 s1 d1 => ?_⟩
  refine ⟨Hv1, ρ, b, s1.c, en.mono s1.b, h2, fun v2 H2 Hv2 s2 d2 => ?_⟩
  unfold dNinK at f
  split at f
  · rename_i kds
    cases h3 : keyD a with
    | none => rw [h3] at f; cases f
    | some key =>
      rw [h3] at f
      cases f
      have := key_dnD d1 h3
      subst this
      cases d2 with
      | dic hi r =>
        refine ⟨_, _, rfl, DGet.k (s2.c _ _ hi), ?_⟩
        rw [val_some r]
        exact k _ H2 Hv2 (s1.trans s2) (.bl _)
  · cases f
/-! len of a dict as well -/
def cLenA : List D → Option D
  | [.dic kds] => some (.int kds.length)
  | ds => cLen ds
theorem dks_len {H : Hp} {kvs : List (Key × V)} {kds : List (Key × D)} (h : Dks K H kvs kds) : kvs.length = kds.length := by
  induction kvs generalizing kds with
  | nil => cases h; rfl
  | cons p r ih => cases h with | cons q r' => rw [List.length_cons, List.length_cons, ih r']
theorem okc_lenA : OkC K (fun xs H Q => ((∃ p ys, xs = [.ref p] ∧ (SqL K H p ys ∨ SqT K H p ys) ∧ Q (.int ys.length) H) ∨ ∃ z, xs = [.str z] ∧ z.length ≤ sizeLine ∧ Q (.int z.length) H) ∨ ∃ a kvs, xs = [V.ref a] ∧ H a = some (.dK kvs) ∧ Q (.int kvs.length) H) cLenA := by
  intro H Hv vs ds d Q e r h k
  unfold cLenA at h
  split at h
  · cases h
    cases r with
    | cons q r =>
      cases r
      cases q with
      | dic hi rr => exact .inr ⟨_, _, rfl, e _ _ hi, by rw [dks_len rr]; exact k _ H Hv (.refl e) (.int _)⟩
  · exact .inl (okc_len H Hv vs _ d Q e r h k)
/-! fields -/
def lookD (f : Str) : List (Str × D) → Option D
  | [] => none
  | (g, d) :: r => if g = f then some d else lookD f r
def dFld (C : Addr) (f : Str) : D → Option D
  | .ins C' fs => if C' = C then lookD f fs else none
  | _ => none
theorem dFld_some {C : Addr} {f : Str} {a d : D} (h : dFld C f a = some d) : ∃ fs, a = .ins C fs ∧ lookD f fs = some d := by
  unfold dFld at h
  split at h
  · split at h
    · rename_i hc; subst hc; exact ⟨_, rfl, h⟩
    · cases h
  · cases h
theorem look_dfs {H : Hp} {f : Str} : ∀ {fvs : List (Str × V)} {fs : List (Str × D)}, Dfs K H fvs fs → ∀ d, lookD f fs = some d → ∃ v, fvs.lookup f = some v ∧ Dn K H v d
  | _, _, .nil, d, e => by simp [lookD] at e
  | _, _, .cons (k := g) h r, d, e => by
    by_cases hk : g = f
    · subst hk
      simp only [lookD, if_true, Option.some.injEq] at e
      subst e
      exact ⟨_, by simp [List.lookup], h⟩
    · simp only [lookD, if_neg hk] at e
      obtain ⟨v, h1, h2⟩ := look_dfs r d e
      refine ⟨v, ?_, h2⟩
      rw [List.lookup_cons]
      have : (f == g) = false := by simpa using fun e : f = g => hk e.symm
      rw [this]
      exact h1
theorem rd_fld {C : Addr} {f : Str} {f1 : En → Option D} (c : Cls K C) (na : NoAttr K C f) {σ : St} {H : Hp} {Q : VK} (h : rdE K (e1 (dFld C f) f1) σ H Q) : tFld K (rdE K f1) f σ H Q := by
  obtain ⟨Hv, ρ, d, e, en, f', k⟩ := h
  unfold e1 at f'
  obtain ⟨a, h1, f'⟩ := bind_some2 f'
  refine ⟨Hv, ρ, a, e, en, h1, fun v H1 Hv1 s1 d1 => ?_⟩
  obtain ⟨fs, rfl, g⟩ := dFld_some f'
  cases d1 with
  | ins hi r =>
    obtain ⟨w, g1, g2⟩ := look_dfs r d g
    exact ⟨_, _, _, _, w, rfl, s1.c _ _ hi, c, na, g1, k w H1 Hv1 s1 g2⟩
/-! methods told by functions -/
def eMt (C : Addr) (m : Str) (g : List D → Option D) (fo : En → Option D) (fa : En → Option (List D)) (ρ : En) : Option D := (fo ρ).bind fun d => (fa ρ).bind fun ds => match d with
  | .ins C' fs => if C' = C ∧ m ∉ fs.map (·.1) then g (d :: ds) else none
  | _ => none
def eMtF (C : Addr) (m : Str) (g : List D → Option (List D)) (fo : En → Option D) (fa : En → Option (List D)) (ρ : En) : Option (List D) := (fo ρ).bind fun d => (fa ρ).bind fun ds => match d with
  | .ins C' fs => if C' = C ∧ m ∉ fs.map (·.1) then g (d :: ds) else none
  | _ => none
theorem lookup_noD {H : Hp} {f : Str} : ∀ {fvs : List (Str × V)} {fs : List (Str × D)}, Dfs K H fvs fs → f ∉ fs.map (·.1) → fvs.lookup f = none
  | _, _, .nil, _ => rfl
  | _, _, .cons (k := g) h r, n => by
    simp only [List.map_cons, List.mem_cons, not_or] at n
    rw [List.lookup_cons]
    have : (f == g) = false := by simpa using n.1
    rw [this]
    exact lookup_noD r n.2
theorem rd_mt {C : Addr} {m : Str} {g : List D → Option D} {fo : En → Option D} {fa : En → Option (List D)} {E : XK} {σ : St} {H : Hp} {Q : VK} (h : rdE K (eMt C m g fo fa) σ H Q) : tMeth C m (spD K g) [] E (rdE K fo) (rdA K fa) σ H Q := by
  obtain ⟨Hv, ρ, d, e, en, f, k⟩ := h
  unfold eMt at f
  obtain ⟨o, h1, f9⟩ := bind_some2 f
  clear f
  obtain ⟨ds, h2, f8⟩ := bind_some2 f9
  clear f9
  split at f8
  · rename_i C' fs
    split at f8
    · rename_i hc
      obtain ⟨rfl, hm⟩ := hc
      have f := f8
      refine ⟨Hv, ρ, _, e, en, h1, fun v H1 Hv1 s1 d1 => ?_⟩
      have d1' := d1
      cases d1' with
      | ins hi r =>
        refine ⟨_, _, _, rfl, s1.c _ _ hi, lookup_noD r hm, ?_⟩
        refine ⟨Hv1, ρ, ds, s1.c, en.mono s1.b, h2, fun vs H2 Hv2 s2 d2 => ?_⟩
        refine ⟨Hv2, _, d, s2.c, ?_, f, fun w H3 q => ?_⟩
        · rw [List.append_nil]; exact .cons (d1.mono s2.b) d2
        · obtain ⟨Hv3, s3, q⟩ := q
          exact k w H3 Hv3 ((s1.trans s2).trans s3) q
    · cases f8
  · cases f8
theorem rd_mtF {C : Addr} {m : Str} {g : List D → Option (List D)} {fo : En → Option D} {fa : En → Option (List D)} {E : XK} {σ : St} {H : Hp} {Q : VK} (h : rdF K (eMtF C m g fo fa) σ H Q) : tMeth C m (spF K g) [] E (rdE K fo) (rdA K fa) σ H Q := by
  obtain ⟨Hv, ρ, d, e, en, f, k⟩ := h
  unfold eMtF at f
  obtain ⟨o, h1, f9⟩ := bind_some2 f
  clear f
  obtain ⟨ds, h2, f8⟩ := bind_some2 f9
  clear f9
  split at f8
  · rename_i C' fs
    split at f8
    · rename_i hc
      obtain ⟨rfl, hm⟩ := hc
      have f := f8
      refine ⟨Hv, ρ, _, e, en, h1, fun v H1 Hv1 s1 d1 => ?_⟩
      have d1' := d1
      cases d1' with
      | ins hi r =>
        refine ⟨_, _, _, rfl, s1.c _ _ hi, lookup_noD r hm, ?_⟩
        refine ⟨Hv1, ρ, ds, s1.c, en.mono s1.b, h2, fun vs H2 Hv2 s2 d2 => ?_⟩
        refine ⟨Hv2, _, d, s2.c, ?_, f, fun w H3 q => ?_⟩
        · rw [List.append_nil]; exact .cons (d1.mono s2.b) d2
        · obtain ⟨p, vs', Hv3, rfl, s3, n1, n2, hp, q⟩ := q
          have s12 := s1.trans s2
          exact k p vs' H3 Hv3 (s12.trans s3) (Classical.byContradiction fun hne => by
            cases hh : H p with
            | none => exact hne hh
            | some o => have := s12.a _ _ hh; rw [n1] at this; cases this) n2 hp q
    · cases f8
  · cases f8
/-! two new lists joined -/
def eCatF (f g : En → Option (List D)) (ρ : En) : Option (List D) := (f ρ).bind fun a => (g ρ).bind fun b => if okLen (a.length + b.length) then some (a ++ b) else none
theorem rd_catF {f g : En → Option (List D)} {σ : St} {H : Hp} {Q : VK} (h : rdF K (eCatF f g) σ H Q) : tOp rCat (rdF K f) (rdF K g) σ H Q := by
  obtain ⟨Hv, ρ, ds, e, en, f', k⟩ := h
  unfold eCatF at f'
  obtain ⟨a, h1, f'⟩ := bind_some2 f'
  obtain ⟨b, h2, f'⟩ := bind_some2 f'
  split at f'
  · rename_i hl
    cases f'
    refine ⟨Hv, ρ, a, e, en, h1, fun p vs H1 Hv1 s1 n1 m1 l1 r1 => ?_⟩
    refine ⟨Hv1, ρ, b, s1.c, en.mono s1.b, h2, fun p2 vs2 H2 Hv2 s2 n2 m2 l2 r2 => ?_⟩
    refine ⟨p, p2, vs, vs2, rfl, rfl, s2.a _ _ l1, l2, by rw [r1.length, r2.length]; exact okLen_le hl, fun q hq => ?_⟩
    have s12 := s1.trans s2
    have sn := Stp.newH (o := .lst (vs ++ vs2)) s2.c hq
    refine k q _ _ Hv2 (s12.trans sn) (s12.a.free hq) (s2.c.free hq) upd_same ((r1.mono s2.b).append r2)
  · cases f'
/-! tuples -/
def cTup : List D → Option D
  | [.lst ds] => some (.tup ds)
  | [.tup ds] => some (.tup ds)
  | _ => none
theorem okc_tup : OkC K (fun xs H Q => ∃ p ys, xs = [.ref p] ∧ ((SqL K H p ys ∧ ∀ l, H l = none → Q (.ref l) (upd H l (.tup ys))) ∨ (SqT K H p ys ∧ Q (.ref p) H))) cTup := by
  intro H Hv vs ds d Q e r h k
  unfold cTup at h
  split at h
  · cases h
    cases r with
    | cons q r =>
      cases r
      cases q with
      | @lst _ ys _ hs rr =>
        refine ⟨_, _, rfl, .inl ⟨sameL e hs, fun l hl => ?_⟩⟩
        have s := Stp.new (o := .tup ys) e hl
        exact k _ _ _ s (.tup (.of upd_same) (rr.mono s.b))
  · cases h
    cases r with
    | cons q r =>
      cases r
      have q' := q
      cases q' with
      | tup hs rr => exact ⟨_, _, rfl, .inr ⟨sameT e hs, k _ H Hv (.refl e) q⟩⟩
  · cases h
def eSlT (f : En → Option D) (lo hi : En → Option (Option Int)) (ρ : En) : Option D := (f ρ).bind fun d => (lo ρ).bind fun l => (hi ρ).bind fun h => match d with | .tup ds => some (.tup (cutD ds l h)) | _ => none
theorem cut_whole {α : Type} {xs : List α} {lo hi : Option Int} (h : HT.sIx xs.length 0 lo = 0 ∧ HT.sIx xs.length xs.length hi = xs.length) : (xs.drop (HT.sIx xs.length 0 lo)).take (HT.sIx xs.length xs.length hi - HT.sIx xs.length 0 lo) = xs := by
  rw [h.1, h.2]; simp
theorem rd_slT {f : En → Option D} {lo hi : En → Option (Option Int)} {σ : St} {H : Hp} {Q : VK} (h : rdE K (eSlT f lo hi) σ H Q) : tSl (rSlA K) (rdE K f) (rdO K lo) (rdO K hi) σ H Q := by
  obtain ⟨Hv, ρ, d0, e, en, f', k⟩ := h
  obtain ⟨d, h1, f'⟩ := bind_some2 f'
  obtain ⟨l, h2, f'⟩ := bind_some2 f'
  obtain ⟨u, h3, f'⟩ := bind_some2 f'
  split at f'
  · rename_i ds
    cases f'
    refine ⟨Hv, ρ, _, e, en, h1, fun v1 H1 Hv1 s1 d1 => ?_⟩
    refine ⟨Hv1, ρ, l, s1.c, en.mono s1.b, h2, fun H2 Hv2 s2 => ?_⟩
    refine ⟨Hv2, ρ, u, s2.c, (en.mono s1.b).mono s2.b, h3, fun H3 Hv3 s3 => ?_⟩
    have s23 := s2.trans s3
    have s13 := s1.trans s23
    have d3 := d1.mono s23.b
    have d3' := d3
    cases d3' with
    | @tup a vs _ hs r =>
      refine ⟨_, _, rfl, sameT s3.c hs, fun hw => ?_, fun _ p hp => ?_⟩
      · refine k _ H3 Hv3 s13 ?_
        rw [r.length] at hw
        have := cut_whole hw
        unfold cutD
        rw [this]
        exact d3
      · have s := Stp.new (o := .tup (cutV vs l u)) s3.c hp
        exact k _ _ _ (s13.trans s) (.tup (.of upd_same) ((r.mono s.b).cut l u))
  · cases f'
end
section
variable {X : Cx} {a b e o : Expr} {es : List Expr} {f1 f2 : En → Option D} {g1 g2 : En → Option (List D)} {pos apos p2 : Pos} {k : Nat} {fa C : Addr} {fd : FuncData} {ps : List Str} {m : Str} {fs : En → Option (List D)} {lo hi : Option Expr} {fl fh : En → Option (Option Int)}
theorem pd_repS (ha : PE X a (rdE X.K f1)) (hb : PE X b (rdE X.K f2)) : PE X (.BinOp a .Mult b pos) (rdE X.K (e2 dRepS f1 f2)) := pd_op op_rep01 ok_repS ha hb
theorem pd_inL (hu : X.A.units + 65 < cLine) (ha : PE X a (rdE X.K f1)) (hb : PE X b (rdE X.K f2)) (hm : behindInMarks .In b = false := by rfl) : PE X (.Compare a [.In] [b] pos) (rdE X.K (e2 dInL f1 f2)) := pd_cmp (op_inD hu) ok_inL ha hb hm
theorem pd_ninL (hu : X.A.units + 65 < cLine) (ha : PE X a (rdE X.K f1)) (hb : PE X b (rdE X.K f2)) (hm : behindInMarks .NotIn b = false := by rfl) : PE X (.Compare a [.NotIn] [b] pos) (rdE X.K (e2 dNinL f1 f2)) := pd_cmp (op_notInD hu) ok_ninL ha hb hm
theorem pt_inL (hu : X.A.units + 65 < cLine) (ha : PE X a (rdE X.K f1)) (hb : PE X b (rdE X.K f2)) (hm : behindInMarks .In b = false := by rfl) : PT X (.Compare a [.In] [b] pos) (rdT X.K (tB2 (e2 dInL f1 f2))) := pt_cmpd (op_inD hu) ok_inL ha hb hm
theorem pt_ninL (hu : X.A.units + 65 < cLine) (ha : PE X a (rdE X.K f1)) (hb : PE X b (rdE X.K f2)) (hm : behindInMarks .NotIn b = false := by rfl) : PT X (.Compare a [.NotIn] [b] pos) (rdT X.K (tB2 (e2 dNinL f1 f2))) := pt_cmpd (op_notInD hu) ok_ninL ha hb hm
theorem pd_inT (ha : PE X a (rdE X.K f1)) (hb : PE X b (rdE X.K f2)) (hm : behindInMarks .In b = false := by rfl) : PE X (.Compare a [.In] [b] pos) (rdE X.K (e2 dInT f1 f2)) := pd_cmp op_in_seq ok_inT ha hb hm
theorem pd_ninT (ha : PE X a (rdE X.K f1)) (hb : PE X b (rdE X.K f2)) (hm : behindInMarks .NotIn b = false := by rfl) : PE X (.Compare a [.NotIn] [b] pos) (rdE X.K (e2 dNinT f1 f2)) := pd_cmp op_notIn_seq ok_ninT ha hb hm
theorem pt_inT (ha : PE X a (rdE X.K f1)) (hb : PE X b (rdE X.K f2)) (hm : behindInMarks .In b = false := by rfl) : PT X (.Compare a [.In] [b] pos) (rdT X.K (tB2 (e2 dInT f1 f2))) := pt_cmpd op_in_seq ok_inT ha hb hm
theorem pt_ninT (ha : PE X a (rdE X.K f1)) (hb : PE X b (rdE X.K f2)) (hm : behindInMarks .NotIn b = false := by rfl) : PT X (.Compare a [.NotIn] [b] pos) (rdT X.K (tB2 (e2 dNinT f1 f2))) := pt_cmpd op_notIn_seq ok_ninT ha hb hm
theorem pd_dget (hu : X.A.units + 1 < cLine) (ha : PE X a (rdE X.K f1)) (hb : PE X b (rdE X.K f2)) (hs : NoSl b := by exact fun _ _ => rfl) : PE X (.Subscript a b pos) (rdE X.K (e2 dGet f1 f2)) := pe_imp (pe_dget hu ha hb hs) fun _ _ _ => rd_dget
theorem pd_inK (hu : X.A.units + 1 < cLine) (ha : PE X a (rdE X.K f1)) (hb : PE X b (rdE X.K f2)) (hm : behindInMarks .In b = false := by rfl) : PE X (.Compare a [.In] [b] pos) (rdE X.K (e2 dInK f1 f2)) := pe_imp (pe_cmp (pc_din hu ha hb) hm) fun _ _ _ => rd_din
theorem pd_ninK (hu : X.A.units + 1 < cLine) (ha : PE X a (rdE X.K f1)) (hb : PE X b (rdE X.K f2)) (hm : behindInMarks .NotIn b = false := by rfl) : PE X (.Compare a [.NotIn] [b] pos) (rdE X.K (e2 dNinK f1 f2)) := pe_imp (pe_cmp (pc_dnotin hu ha hb) hm) fun _ _ _ => rd_dnin
theorem pt_inK (hu : X.A.units + 1 < cLine) (ha : PE X a (rdE X.K f1)) (hb : PE X b (rdE X.K f2)) (hm : behindInMarks .In b = false := by rfl) : PT X (.Compare a [.In] [b] pos) (rdT X.K (tB2 (e2 dInK f1 f2))) := pt_imp (pt_cmp (pc_din hu ha hb) hm) fun _ _ _ => rd_tB fun _ _ _ => rd_din
theorem pt_ninK (hu : X.A.units + 1 < cLine) (ha : PE X a (rdE X.K f1)) (hb : PE X b (rdE X.K f2)) (hm : behindInMarks .NotIn b = false := by rfl) : PT X (.Compare a [.NotIn] [b] pos) (rdT X.K (tB2 (e2 dNinK f1 f2))) := pt_imp (pt_cmp (pc_dnotin hu ha hb) hm) fun _ _ _ => rd_tB fun _ _ _ => rd_dnin
theorem pd_fld {f : Str} (cl : Cls X.K C) (na : NoAttr X.K C f) (ha : PE X a (rdE X.K f1)) (hb : attributeBase a f X.env (eval a X.env) = eval a X.env := by rfl) : PE X (.Attribute a f pos) (rdE X.K (e1 (dFld C f) f1)) := pe_imp (pe_fld ha hb) fun _ _ _ => rd_fld cl na
theorem pd_mt {pl : Sem Bool} {g : List D → Option D} (he : PE X o (rdE X.K f1)) (c : Cls X.K C) (hm : Meth X.K C m fa) (F : FnOk X.prog X.w X.K X.mg X.base CX0 k fa fd ps (spD X.K g)) (hr : Room k X.A) (hb : Binds X.K fd ps []) (ha : PA X (e :: es) (rdA X.K fs))
    (hst : starEach (e :: es) X.env = (false, eval e X.env) :: starEach es X.env := by rfl) (hpl : (backTo pos (starEach es X.env)).any (·.1) = false := by rfl)
    (ht : eval (.Call (.Attribute o m apos) (e :: es) [] pos) X.env = (do
      let ov ← eval o X.env
      standAt apos.atName
      let (f, first) ← holding [ov] (getMethod ov m pl)
      callWith pos f first (backTo pos (starEach (e :: es) X.env)) (backToKw pos (keywordEach [] X.env))) := by rfl) :
    PE X (.Call (.Attribute o m apos) (e :: es) [] pos) (rdE X.K (eMt C m g f1 fs)) := pe_imp (pe_meth (E := E0) he c hm F hr hb .nil pass0 ha hst hpl ht) fun _ _ _ => rd_mt
theorem rd_mt0 {g : List D → Option D} {E : XK} {σ : St} {H : Hp} {Q : VK} {K : PySem.W.Frag} (h : rdE K (eMt C m g f1 aNil) σ H Q) : tMeth C m (spD K g) [] E (rdE K f1) tNil σ H Q := by
  have h2 := rd_mt (E := E) h
  obtain ⟨Hv, ρ, d, e, en, f, k⟩ := h2
  exact ⟨Hv, ρ, d, e, en, f, fun v H' Hv' s q => let ⟨x, dx, fs, e1, e2, e3, e4⟩ := k v H' Hv' s q; ⟨x, dx, fs, e1, e2, e3, rd_nil e4⟩⟩
theorem rd_mtF0 {g : List D → Option (List D)} {E : XK} {σ : St} {H : Hp} {Q : VK} {K : PySem.W.Frag} (h : rdF K (eMtF C m g f1 aNil) σ H Q) : tMeth C m (spF K g) [] E (rdE K f1) tNil σ H Q := by
  have h2 := rd_mtF (E := E) h
  obtain ⟨Hv, ρ, d, e, en, f, k⟩ := h2
  exact ⟨Hv, ρ, d, e, en, f, fun v H' Hv' s q => let ⟨x, dx, fs, e1, e2, e3, e4⟩ := k v H' Hv' s q; ⟨x, dx, fs, e1, e2, e3, rd_nil e4⟩⟩
theorem pd_mt0 {pl : Sem Bool} {g : List D → Option D} (he : PE X o (rdE X.K f1)) (c : Cls X.K C) (hm : Meth X.K C m fa) (F : FnOk X.prog X.w X.K X.mg X.base CX0 k fa fd ps (spD X.K g)) (hr : Room k X.A) (hb : Binds X.K fd ps [])
    (ht : eval (.Call (.Attribute o m apos) [] [] pos) X.env = (do
      let ov ← eval o X.env
      standAt apos.atName
      let (f, first) ← holding [ov] (getMethod ov m pl)
      callWith pos f first (backTo pos (starEach [] X.env)) (backToKw pos (keywordEach [] X.env))) := by rfl) :
    PE X (.Call (.Attribute o m apos) [] [] pos) (rdE X.K (eMt C m g f1 aNil)) := pe_imp (pe_meth0 (E := E0) he c hm F hr hb .nil pass0 ht) fun _ _ _ => rd_mt0
theorem pf_mt {pl : Sem Bool} {g : List D → Option (List D)} (he : PE X o (rdE X.K f1)) (c : Cls X.K C) (hm : Meth X.K C m fa) (F : FnOk X.prog X.w X.K X.mg X.base CX0 k fa fd ps (spF X.K g)) (hr : Room k X.A) (hb : Binds X.K fd ps []) (ha : PA X (e :: es) (rdA X.K fs))
    (hst : starEach (e :: es) X.env = (false, eval e X.env) :: starEach es X.env := by rfl) (hpl : (backTo pos (starEach es X.env)).any (·.1) = false := by rfl)
    (ht : eval (.Call (.Attribute o m apos) (e :: es) [] pos) X.env = (do
      let ov ← eval o X.env
      standAt apos.atName
      let (f, first) ← holding [ov] (getMethod ov m pl)
      callWith pos f first (backTo pos (starEach (e :: es) X.env)) (backToKw pos (keywordEach [] X.env))) := by rfl) :
    PE X (.Call (.Attribute o m apos) (e :: es) [] pos) (rdF X.K (eMtF C m g f1 fs)) := pe_imp (pe_meth (E := E0) he c hm F hr hb .nil pass0 ha hst hpl ht) fun _ _ _ => rd_mtF
theorem pf_mt0 {pl : Sem Bool} {g : List D → Option (List D)} (he : PE X o (rdE X.K f1)) (c : Cls X.K C) (hm : Meth X.K C m fa) (F : FnOk X.prog X.w X.K X.mg X.base CX0 k fa fd ps (spF X.K g)) (hr : Room k X.A) (hb : Binds X.K fd ps [])
    (ht : eval (.Call (.Attribute o m apos) [] [] pos) X.env = (do
      let ov ← eval o X.env
      standAt apos.atName
      let (f, first) ← holding [ov] (getMethod ov m pl)
      callWith pos f first (backTo pos (starEach [] X.env)) (backToKw pos (keywordEach [] X.env))) := by rfl) :
    PE X (.Call (.Attribute o m apos) [] [] pos) (rdF X.K (eMtF C m g f1 aNil)) := pe_imp (pe_meth0 (E := E0) he c hm F hr hb .nil pass0 ht) fun _ _ _ => rd_mtF0
theorem pf_catF (ha : PE X a (rdF X.K g1)) (hb : PE X b (rdF X.K g2)) : PE X (.BinOp a .Add b pos) (rdF X.K (eCatF g1 g2)) := pe_imp (pe_op op_cat ha hb) fun _ _ _ => rd_catF
theorem pd_slT (ha : PE X a (rdE X.K f1)) (hl : PO X lo (rdO X.K fl)) (hh : PO X hi (rdO X.K fh)) : PE X (.Subscript a (.Slice lo hi none p2) pos) (rdE X.K (eSlT f1 fl fh)) := pe_imp (pe_slice sl_tupA ha hl hh) fun _ _ _ => rd_slT
end
end PD
namespace PD
open PySem L2
theorem hu65 {k : Nat} {A : Around} (r : Room k A) : A.units + 65 < cLine := by have := r.un; omega
end PD
namespace PD
open PySem L2
/-! equations -/
def catFX : Option (List D) → Option (List D) → Option (List D)
  | some a, some b => if okLen (a.length + b.length) then some (a ++ b) else none
  | _, _ => none
def mtX {α : Type} (C : Addr) (m : Str) (g : List D → Option α) : Option D → Option (List D) → Option α
  | some (.ins C' fs), some ds => if C' = C ∧ m ∉ fs.map (·.1) then g (.ins C' fs :: ds) else none
  | _, _ => none
def slTX : Option D → Option (Option Int) → Option (Option Int) → Option D
  | some (.tup ds), some l, some h => some (.tup (cutD ds l h))
  | _, _, _ => none
def gtO (kds : List (Key × D)) : Option Key → Option D
  | some key => getD? key kds
  | none => none
def inKO (kds : List (Key × D)) : Option Key → Option D
  | some key => some (.bl (getD? key kds).isSome)
  | none => none
def ninKO (kds : List (Key × D)) : Option Key → Option D
  | some key => some (.bl (!(getD? key kds).isSome))
  | none => none
section
variable {f g : En → Option D} {fs gs : En → Option (List D)} {ρ : En} {C C' : Addr} {m : Str} {h : List D → Option D} {hF : List D → Option (List D)} {lo hi : En → Option (Option Int)} {ds es : List D} {d : D} {kds : List (Key × D)} {key : Key} {fl : List (Str × D)} {l u : Option Int} {i : Int} {x : Str} {o : Option (List D)}
theorem x_catF : eCatF fs gs ρ = catFX (fs ρ) (gs ρ) := by unfold eCatF; cases fs ρ <;> cases gs ρ <;> rfl
theorem q_catF : catFX (some ds) (some es) = if okLen (ds.length + es.length) then some (ds ++ es) else none := (rfl)
theorem x_mt : eMt C m h f fs ρ = mtX C m h (f ρ) (fs ρ) := by
  unfold eMt
  cases f ρ with
  | none => rfl
  | some d => cases fs ρ with
    | none => cases d <;> rfl
    | some ds => cases d <;> rfl
theorem x_mtF : eMtF C m hF f fs ρ = mtX C m hF (f ρ) (fs ρ) := by
  unfold eMtF
  cases f ρ with
  | none => rfl
  | some d => cases fs ρ with
    | none => cases d <;> rfl
    | some ds => cases d <;> rfl
theorem q_mt {α : Type} {w : List D → Option α} : mtX C m w (some (.ins C' fl)) (some ds) = if C' = C ∧ m ∉ fl.map (·.1) then w (.ins C' fl :: ds) else none := (rfl)
theorem x_slT : eSlT f lo hi ρ = slTX (f ρ) (lo ρ) (hi ρ) := by
  unfold eSlT
  cases f ρ with
  | none => rfl
  | some d =>
    cases lo ρ with
    | none => cases d <;> rfl
    | some l => cases hi ρ <;> cases d <;> rfl
theorem q_slT : slTX (some (.tup ds)) (some l) (some u) = some (.tup (cutD ds l u)) := (rfl)
theorem q_dGet : dGet (.dic kds) d = gtO kds (keyD d) := by show (keyD d).bind _ = _; cases keyD d <;> rfl
theorem q_key1 : keyD (.int i) = some (.inl i) := (rfl)
theorem q_key2 : keyD (.str x) = some (.inr x) := (rfl)
theorem q_gtO : gtO kds (some key) = getD? key kds := (rfl)
theorem q_inK : dInK d (.dic kds) = inKO kds (keyD d) := by show (keyD d).map _ = _; cases keyD d <;> rfl
theorem q_ninK : dNinK d (.dic kds) = ninKO kds (keyD d) := by show (keyD d).map _ = _; cases keyD d <;> rfl
theorem q_inKO : inKO kds (some key) = some (.bl (getD? key kds).isSome) := (rfl)
theorem q_ninKO : ninKO kds (some key) = some (.bl (!(getD? key kds).isSome)) := (rfl)
theorem q_dFld : dFld C m (.ins C' fl) = if C' = C then lookD m fl else none := (rfl)
theorem q_lenA1 : cLenA [.dic kds] = some (.int kds.length) := (rfl)
theorem q_lenA2 : cLenA [.lst ds] = some (.int ds.length) := (rfl)
theorem q_lenA3 : cLenA [.tup ds] = some (.int ds.length) := (rfl)
theorem q_cTup1 : cTup [.lst ds] = some (.tup ds) := (rfl)
theorem q_cTup2 : cTup [.tup ds] = some (.tup ds) := (rfl)
theorem q_repS : dRepS (.str x) (.int i) = if i = 0 ∨ i = 1 then some (.str (if i = 1 then x else Str.empty)) else none := (rfl)
end
end PD
namespace PD
open PySem L2
/-! is True -/
def dIsB : D → D → Option D
  | .bl a, .bl b => some (.bl (decide (a = b)))
  | _, _ => none
def dNotB : D → D → Option D
  | .bl a, .bl b => some (.bl (!decide (a = b)))
  | _, _ => none
theorem ok_isB {K : PySem.W.Frag} : Ok2 K (fun x y H Q => ∃ a b, x = .bl a ∧ y = .bl b ∧ Q (.bl (decide (a = b))) H) dIsB := by
  intro H Hv x y a b d Q e hx hy h k
  unfold dIsB at h
  split at h
  · cases hx; cases hy; cases h
    exact ⟨_, _, rfl, rfl, k _ H Hv (.refl e) (.bl _)⟩
  · cases h
theorem ok_notB {K : PySem.W.Frag} : Ok2 K (fun x y H Q => ∃ a b, x = .bl a ∧ y = .bl b ∧ Q (.bl (!decide (a = b))) H) dNotB := by
  intro H Hv x y a b d Q e hx hy h k
  unfold dNotB at h
  split at h
  · cases hx; cases hy; cases h
    exact ⟨_, _, rfl, rfl, k _ H Hv (.refl e) (.bl _)⟩
  · cases h
theorem q_isB {a b : Bool} : dIsB (.bl a) (.bl b) = some (.bl (decide (a = b))) := (rfl)
theorem q_notB {a b : Bool} : dNotB (.bl a) (.bl b) = some (.bl (!decide (a = b))) := (rfl)
section
variable {X : Cx} {a b : Expr} {f1 f2 : En → Option D} {pos : Pos}
theorem pd_isB (ha : PE X a (rdE X.K f1)) (hb : PE X b (rdE X.K f2)) : PE X (.Compare a [.Is] [b] pos) (rdE X.K (e2 dIsB f1 f2)) := pd_cmp op_is_bl ok_isB ha hb (nomark _)
theorem pd_notB (ha : PE X a (rdE X.K f1)) (hb : PE X b (rdE X.K f2)) : PE X (.Compare a [.IsNot] [b] pos) (rdE X.K (e2 dNotB f1 f2)) := pd_cmp op_isnot_bl ok_notB ha hb (nomark _)
theorem pt_isB (ha : PE X a (rdE X.K f1)) (hb : PE X b (rdE X.K f2)) : PT X (.Compare a [.Is] [b] pos) (rdT X.K (tB2 (e2 dIsB f1 f2))) := pt_cmpd op_is_bl ok_isB ha hb (nomark _)
theorem pt_notB (ha : PE X a (rdE X.K f1)) (hb : PE X b (rdE X.K f2)) : PT X (.Compare a [.IsNot] [b] pos) (rdT X.K (tB2 (e2 dNotB f1 f2))) := pt_cmpd op_isnot_bl ok_notB ha hb (nomark _)
end
end PD
/-! PO: owned trees. A reading of the hand layer for defs that change what they are given. -/
namespace PO
open PySem L2 PD

/-! ### trees -/
inductive Kd where
  | lst | tup
  | dic (ks : List Key)
  | ins (C : Addr) (ns : List Str)
inductive T where
  | dead
  | fr (d : D)
  | nd (k : Kd) (ts : List T)
/-- may the node be changed -/
def Kd.mb : Kd → Bool
  | .tup => false
  | _ => true
/-- what stands at a -/
inductive Ob (K : PySem.W.Frag) (H : Hp) (a : Addr) : Kd → List V → Prop
  | lst {vs : List V} : H a = some (.lst vs) → Ob K H a .lst vs
  | tup {vs : List V} : H a = some (.tup vs) → Ob K H a .tup vs
  | dic {kvs : List (Key × V)} : H a = some (.dK kvs) → Ob K H a (.dic (kvs.map (·.1))) (kvs.map (·.2))
  | ins {C dx : Addr} {fs : List (Str × V)} : H a = some (.ins C dx fs) → Ob K H a (.ins C (fs.map (·.1))) (fs.map (·.2))
def own1 (k : Kd) (a : Addr) (fp : List Addr) : List Addr := if k.mb then a :: fp else fp
mutual
/-- v tells the tree t; what it owns -/
inductive Tn (K : PySem.W.Frag) (Hv H : Hp) : V → T → List Addr → Prop
  | dead (v : V) : Tn K Hv H v .dead []
  | fr {v : V} {d : D} : Dn K Hv v d → Tn K Hv H v (.fr d) []
  | nd {a : Addr} {k : Kd} {vs : List V} {ts : List T} {fp : List Addr} : Ob K H a k vs → Tns K Hv H vs ts fp → Tn K Hv H (.ref a) (.nd k ts) (own1 k a fp)
inductive Tns (K : PySem.W.Frag) (Hv H : Hp) : List V → List T → List Addr → Prop
  | nil : Tns K Hv H [] [] []
  | cons {v : V} {t : T} {vs : List V} {ts : List T} {fp fps : List Addr} : Tn K Hv H v t fp → Tns K Hv H vs ts fps → Tns K Hv H (v :: vs) (t :: ts) (fp ++ fps)
end
theorem Ob.own {K : PySem.W.Frag} {H : Hp} {a : Addr} {k : Kd} {vs : List V} (o : Ob K H a k vs) (h : k.mb = true) : ∃ u, H a = some u ∧ Mb u = true := by
  cases o with
  | lst e => exact ⟨_, e, rfl⟩
  | tup e => cases h
  | dic e => exact ⟨_, e, rfl⟩
  | ins e => exact ⟨_, e, rfl⟩
/-- the node stands where nothing at a (if it may be changed), no tuple changed -/
def Tpl (_ : PySem.W.Frag) (H H' : Hp) : Prop := ∀ a vs, H a = some (.tup vs) → H' a = some (.tup vs)
theorem Ob.keep {K : PySem.W.Frag} {H H' : Hp} {a : Addr} {k : Kd} {vs : List V} (o : Ob K H a k vs) (t : Tpl K H H') (e : k.mb = true → H' a = H a) : Ob K H' a k vs := by
  cases o with
  | lst h => exact .lst ((e rfl).trans h)
  | tup h => exact .tup (t _ _ h)
  | dic h => exact .dic ((e rfl).trans h)
  | ins h => exact .ins ((e rfl).trans h)
section
variable {K : PySem.W.Frag} {Hv Hv' H H' : Hp}
mutual
/-- a tree stands while what it owns stands -/
theorem Tn.keep (sv : Same Hv Hv') (tp : Tpl K H H') : ∀ {v : V} {t : T} {fp : List Addr}, Tn K Hv H v t fp → (∀ a ∈ fp, H' a = H a) → Tn K Hv' H' v t fp
  | _, _, _, .dead v, _ => .dead v
  | _, _, _, .fr h, _ => .fr (h.mono sv)
  | _, _, _, .nd (a := a) (k := k) o r, e => by
    refine .nd (o.keep tp fun m => e a (by unfold own1; rw [if_pos m]; exact List.mem_cons_self ..)) (Tns.keep sv tp r fun b hb => e b ?_)
    unfold own1
    split
    · exact List.mem_cons_of_mem _ hb
    · exact hb
theorem Tns.keep (sv : Same Hv Hv') (tp : Tpl K H H') : ∀ {v : List V} {t : List T} {fp : List Addr}, Tns K Hv H v t fp → (∀ a ∈ fp, H' a = H a) → Tns K Hv' H' v t fp
  | _, _, _, .nil, _ => .nil
  | _, _, _, .cons h r, e => .cons (Tn.keep sv tp h fun a ha => e a (List.mem_append_left _ ha)) (Tns.keep sv tp r fun a ha => e a (List.mem_append_right _ ha))
end
mutual
/-- what is owned may change -/
theorem Tn.mc : ∀ {v : V} {t : T} {fp : List Addr}, Tn K Hv H v t fp → ∀ a ∈ fp, ∃ u, H a = some u ∧ Mb u = true
  | _, _, _, .dead v, _, h => nomatch h
  | _, _, _, .fr h, _, h' => nomatch h'
  | _, _, _, .nd (a := a) (k := k) o r, b, hb => by
    unfold own1 at hb
    split at hb
    · rename_i m
      rcases List.mem_cons.mp hb with rfl | hb
      · exact o.own m
      · exact Tns.mc r b hb
    · exact Tns.mc r b hb
theorem Tns.mc : ∀ {v : List V} {t : List T} {fp : List Addr}, Tns K Hv H v t fp → ∀ a ∈ fp, ∃ u, H a = some u ∧ Mb u = true
  | _, _, _, .nil, _, h => nomatch h
  | _, _, _, .cons h r, b, hb => by
    rcases List.mem_append.mp hb with hb | hb
    · exact Tn.mc h b hb
    · exact Tns.mc r b hb
end
theorem Tns.length : ∀ {vs : List V} {ts : List T} {fp : List Addr}, Tns K Hv H vs ts fp → vs.length = ts.length
  | _, _, _, .nil => rfl
  | _, _, _, .cons _ r => by rw [List.length_cons, List.length_cons, Tns.length r]
/-- one child, and the others -/
theorem Tns.at : ∀ {vs : List V} {ts : List T} {fp : List Addr} {j : Nat} {t : T}, Tns K Hv H vs ts fp → ts[j]? = some t →
    ∃ v fl fc fr', vs[j]? = some v ∧ fp = fl ++ (fc ++ fr') ∧ Tn K Hv H v t fc ∧
      ∀ (Hv' H' : Hp) (v' : V) (t' : T) (fc' : List Addr), Same Hv Hv' → Tpl K H H' → (∀ a ∈ fl, H' a = H a) → (∀ a ∈ fr', H' a = H a) → Tn K Hv' H' v' t' fc' → Tns K Hv' H' (vs.set j v') (ts.set j t') (fl ++ (fc' ++ fr'))
  | _, _, _, _, _, .nil, e => by simp at e
  | _, _, _, 0, _, .cons (v := v) (fp := fp) (fps := fps) h r, e => by
    simp at e
    subst e
    refine ⟨v, [], fp, fps, rfl, rfl, h, fun Hv' H' v' t' fc' sv tp _ er q => ?_⟩
    exact Tns.cons (v := v') (t := t') (fp := fc') (fps := fps) q (r.keep sv tp er)
  | _, _, _, j + 1, _, .cons (v := v) (fp := fp) (fps := fps) h r, e => by
    obtain ⟨v1, fl, fc, fr', e1, e2, e3, k⟩ := Tns.at (j := j) r (by simpa using e)
    subst e2
    refine ⟨v1, fp ++ fl, fc, fr', by simpa using e1, by rw [List.append_assoc], e3, fun Hv' H' v' t' fc' sv tp el er q => ?_⟩
    rw [List.append_assoc]
    exact .cons (h.keep sv tp fun a ha => el a (List.mem_append_left _ ha)) (k Hv' H' v' t' fc' sv tp (fun a ha => el a (List.mem_append_right _ ha)) er q)
theorem Tns.append : ∀ {vs ws : List V} {ts us : List T} {fp fq : List Addr}, Tns K Hv H vs ts fp → Tns K Hv H ws us fq → Tns K Hv H (vs ++ ws) (ts ++ us) (fp ++ fq)
  | _, _, _, _, _, _, .nil, q => q
  | _, _, _, _, _, _, .cons h r, q => by rw [List.append_assoc]; exact .cons h (Tns.append r q)
end

/-! ### a tree as plain data -/
mutual
def T.d : T → Option D
  | .dead => none
  | .fr d => some d
  | .nd k ts => (dsOf ts).map fun ds => match k with
    | .lst => .lst ds
    | .tup => .tup ds
    | .dic ks => .dic (ks.zip ds)
    | .ins C ns => .ins C (ns.zip ds)
def dsOf : List T → Option (List D)
  | [] => some []
  | t :: ts => match t.d, dsOf ts with
    | some d, some ds => some (d :: ds)
    | _, _ => none
end
section
variable {K : PySem.W.Frag} {Hv H : Hp}
theorem dks_zip : ∀ {kvs : List (Key × V)} {ds : List D}, Dns K H (kvs.map (·.2)) ds → Dks K H kvs ((kvs.map (·.1)).zip ds)
  | [], _, .nil => .nil
  | (k, v) :: r, _, .cons h q => .cons h (dks_zip q)
theorem dfs_zip : ∀ {kvs : List (Str × V)} {ds : List D}, Dns K H (kvs.map (·.2)) ds → Dfs K H kvs ((kvs.map (·.1)).zip ds)
  | [], _, .nil => .nil
  | (k, v) :: r, _, .cons h q => .cons h (dfs_zip q)
mutual
theorem Tn.dn (s : Same Hv H) : ∀ {v : V} {t : T} {fp : List Addr} {d : D}, Tn K Hv H v t fp → t.d = some d → Dn K H v d
  | _, _, _, _, .dead v, e => by simp [T.d] at e
  | _, _, _, _, .fr h, e => by simp only [T.d, Option.some.injEq] at e; subst e; exact h.mono s
  | _, _, _, _, .nd (ts := ts) o r, e => by
    simp only [T.d] at e
    cases h : dsOf ts with
    | none => rw [h] at e; cases e
    | some ds =>
      rw [h] at e
      have q := Tns.dns s r h
      cases o with
      | lst x => cases e; exact .lst (.of x) q
      | tup x => cases e; exact .tup (.of x) q
      | dic x => cases e; exact .dic x (dks_zip q)
      | ins x => cases e; exact .ins x (dfs_zip q)
theorem Tns.dns (s : Same Hv H) : ∀ {v : List V} {t : List T} {fp : List Addr} {d : List D}, Tns K Hv H v t fp → dsOf t = some d → Dns K H v d
  | _, _, _, _, .nil, e => by simp only [dsOf, Option.some.injEq] at e; subst e; exact .nil
  | _, _, _, _, .cons (t := t) (ts := ts) h r, e => by
    simp only [dsOf] at e
    cases h1 : t.d with
    | none => rw [h1] at e; cases e
    | some d1 =>
      cases h2 : dsOf ts with
      | none => rw [h1, h2] at e; cases e
      | some d2 =>
        rw [h1, h2] at e
        cases e
        exact .cons (Tn.dn s h h1) (Tns.dns s r h2)
end
end
end PO
namespace PO
open PySem L2 PD
abbrev EnT := List T
/-- the slots' trees, side by side -/
inductive Es (K : PySem.W.Frag) (Hv H : Hp) : St → EnT → List Addr → Prop
  | nil : Es K Hv H [] [] []
  | dead {x : Option V} {σ : St} {ρ : EnT} {fp : List Addr} : Es K Hv H σ ρ fp → Es K Hv H (x :: σ) (.dead :: ρ) fp
  | cons {v : V} {t : T} {σ : St} {ρ : EnT} {f fp : List Addr} : Tn K Hv H v t f → Es K Hv H σ ρ fp → Es K Hv H (some v :: σ) (t :: ρ) (f ++ fp)
def T.fz : T → Option D
  | .fr d => some d
  | _ => none
def frz (ρ : EnT) : En := ρ.map T.fz
def ful (ρ : EnT) : En := ρ.map T.d
section
variable {K : PySem.W.Frag} {Hv Hv' H H' : Hp}
theorem Es.keep (sv : Same Hv Hv') (tp : Tpl K H H') : ∀ {σ : St} {ρ : EnT} {fp : List Addr}, Es K Hv H σ ρ fp → (∀ a ∈ fp, H' a = H a) → Es K Hv' H' σ ρ fp
  | _, _, _, .nil, _ => .nil
  | _, _, _, .dead r, e => .dead (Es.keep sv tp r e)
  | _, _, _, .cons h r, e => .cons (h.keep sv tp fun a ha => e a (List.mem_append_left _ ha)) (Es.keep sv tp r fun a ha => e a (List.mem_append_right _ ha))
theorem Es.length : ∀ {σ : St} {ρ : EnT} {fp : List Addr}, Es K Hv H σ ρ fp → σ.length = ρ.length
  | _, _, _, .nil => rfl
  | _, _, _, .dead r => by rw [List.length_cons, List.length_cons, Es.length r]
  | _, _, _, .cons _ r => by rw [List.length_cons, List.length_cons, Es.length r]
/-- one slot, and the others -/
theorem Es.at : ∀ {σ : St} {ρ : EnT} {fp : List Addr} {i : Nat} {t : T}, Es K Hv H σ ρ fp → ρ[i]? = some t →
    ∃ fl fc fr', fp = fl ++ (fc ++ fr') ∧ (t = .dead ∧ fc = [] ∨ ∃ v, σ[i]? = some (some v) ∧ Tn K Hv H v t fc) ∧
      (∀ (Hv' H' : Hp) (v' : V) (t' : T) (fc' : List Addr), Same Hv Hv' → Tpl K H H' → (∀ a ∈ fl, H' a = H a) → (∀ a ∈ fr', H' a = H a) → Tn K Hv' H' v' t' fc' → Es K Hv' H' (σ.set i (some v')) (ρ.set i t') (fl ++ (fc' ++ fr'))) ∧
      (∀ (Hv' H' : Hp), Same Hv Hv' → Tpl K H H' → (∀ a ∈ fl, H' a = H a) → (∀ a ∈ fr', H' a = H a) → Es K Hv' H' σ (ρ.set i .dead) (fl ++ fr'))
  | _, _, _, _, _, .nil, e => by simp at e
  | _, _, _, 0, _, .dead (fp := fp) r, e => by
    simp at e
    subst e
    exact ⟨[], [], fp, rfl, .inl ⟨rfl, rfl⟩, fun Hv' H' v' t' fc' sv tp _ er q => Es.cons (v := v') (t := t') (f := fc') q (r.keep sv tp er), fun Hv' H' sv tp _ er => Es.dead (r.keep sv tp er)⟩
  | _, _, _, 0, _, .cons (v := v) (f := f) (fp := fp) h r, e => by
    simp at e
    subst e
    exact ⟨[], f, fp, rfl, .inr ⟨v, rfl, h⟩, fun Hv' H' v' t' fc' sv tp _ er q => Es.cons (v := v') (t := t') (f := fc') q (r.keep sv tp er), fun Hv' H' sv tp _ er => Es.dead (r.keep sv tp er)⟩
  | _, _, _, i + 1, _, .dead r, e => by
    obtain ⟨fl, fc, fr', e1, e2, k1, k2⟩ := Es.at (i := i) r (by simpa using e)
    exact ⟨fl, fc, fr', e1, by simpa using e2, fun Hv' H' v' t' fc' sv tp el er q => Es.dead (k1 Hv' H' v' t' fc' sv tp el er q), fun Hv' H' sv tp el er => Es.dead (k2 Hv' H' sv tp el er)⟩
  | _, _, _, i + 1, _, .cons (f := f) h r, e => by
    obtain ⟨fl, fc, fr', e1, e2, k1, k2⟩ := Es.at (i := i) r (by simpa using e)
    subst e1
    refine ⟨f ++ fl, fc, fr', by rw [List.append_assoc], by simpa using e2, fun Hv' H' v' t' fc' sv tp el er q => ?_, fun Hv' H' sv tp el er => ?_⟩
    · rw [List.append_assoc]
      exact Es.cons (h.keep sv tp fun a ha => el a (List.mem_append_left _ ha)) (k1 Hv' H' v' t' fc' sv tp (fun a ha => el a (List.mem_append_right _ ha)) er q)
    · rw [List.append_assoc]
      exact Es.cons (h.keep sv tp fun a ha => el a (List.mem_append_left _ ha)) (k2 Hv' H' sv tp (fun a ha => el a (List.mem_append_right _ ha)) er)
theorem Es.full (s : Same Hv H) {σ : St} {ρ : EnT} {fp : List Addr} (h : Es K Hv H σ ρ fp) : EOk K H σ (ful ρ) := by
  refine ⟨by unfold ful; rw [List.length_map]; exact h.length, fun i d e => ?_⟩
  unfold ful at e
  rw [List.getElem?_map] at e
  cases e1 : ρ[i]? with
  | none => rw [e1] at e; cases e
  | some t =>
    rw [e1] at e
    simp only [Option.map_some, Option.some.injEq] at e
    obtain ⟨_, _, _, _, c, _⟩ := h.at e1
    rcases c with ⟨rfl, _⟩ | ⟨v, h1, h2⟩
    · simp [T.d] at e
    · exact ⟨v, h1, h2.dn s e⟩
theorem Es.frz {σ : St} {ρ : EnT} {fp : List Addr} (h : Es K Hv H σ ρ fp) : EOk K Hv σ (frz ρ) := by
  refine ⟨by unfold PO.frz; rw [List.length_map]; exact h.length, fun i d e => ?_⟩
  unfold PO.frz at e
  rw [List.getElem?_map] at e
  cases e1 : ρ[i]? with
  | none => rw [e1] at e; cases e
  | some t =>
    rw [e1] at e
    simp only [Option.map_some, Option.some.injEq] at e
    obtain ⟨_, _, _, _, c, _⟩ := h.at e1
    rcases c with ⟨rfl, _⟩ | ⟨v, h1, h2⟩
    · simp [T.fz] at e
    · cases h2 with
      | dead => simp [T.fz] at e
      | fr q => simp only [T.fz, Option.some.injEq] at e; subst e; exact ⟨v, h1, q⟩
      | nd => simp [T.fz] at e
end

/-! ### what is owned, what stands -/
structure Wf (H Hv : Hp) (fp : List Addr) : Prop where
  c : Same Hv H
  mc : ∀ a ∈ fp, ∃ u, H a = some u ∧ Mb u = true
  hid : ∀ a ∈ fp, Hv a = none
  nd : fp.Nodup
structure Frm (H Hv : Hp) (fp : List Addr) (H' Hv' : Hp) (fp' : List Addr) : Prop where
  out : ∀ p o, H p = some o → p ∉ fp → H' p = some o
  b : Same Hv Hv'
  h : ∀ p o, H p = some o → Mb o = true → Hv p = none → p ∉ fp → Hv' p = none ∧ p ∉ fp'
  w : Wf H' Hv' fp'
section
variable {K : PySem.W.Frag} {H Hv H' Hv' H1 Hv1 : Hp} {fp fp' fp1 fr : List Addr}
theorem Frm.tpl (f : Frm H Hv fp H' Hv' fp') (w : Wf H Hv fp) : Tpl K H H' := fun a vs s => f.out _ _ s fun hm => by
  obtain ⟨u, e', m'⟩ := w.mc a hm
  rw [s] at e'; cases e'; cases m'
theorem Frm.refl (w : Wf H Hv fp) : Frm H Hv fp H Hv fp := ⟨fun _ _ e _ => e, .refl _, fun _ _ _ _ n m => ⟨n, m⟩, w⟩
theorem Frm.trans (x : Frm H Hv fp H1 Hv1 fp1) (y : Frm H1 Hv1 fp1 H' Hv' fp') : Frm H Hv fp H' Hv' fp' := by
  refine ⟨fun p o e n => ?_, x.b.trans y.b, fun p o e m n q => ?_, y.w⟩
  · have e1 := x.out p o e n
    refine y.out p o e1 fun h1 => ?_
    obtain ⟨u, e', m'⟩ := x.w.mc p h1
    rw [e1] at e'; cases e'
    cases hv : Hv p with
    | none => exact (x.h p o e m' hv n).2 h1
    | some u =>
      have := x.b p u hv
      rw [x.w.hid p h1] at this; cases this
  · obtain ⟨n1, m1⟩ := x.h p o e m n q
    exact y.h p o (x.out p o e q) m n1 m1
/-- plain reading, the owned ones unseen -/
theorem Frm.stp (w : Wf H Hv fp) (s : Stp H Hv H' Hv') : Frm H Hv fp H' Hv' fp := by
  refine ⟨fun p o e _ => s.a p o e, s.b, fun p o e m n q => ⟨s.h p o m e n, q⟩, s.c, fun a ha => ?_, fun a ha => ?_, w.nd⟩
  · obtain ⟨u, e, m⟩ := w.mc a ha
    exact ⟨u, s.a _ _ e, m⟩
  · obtain ⟨u, e, m⟩ := w.mc a ha
    exact s.h a u m e (w.hid a ha)
/-- plain reading of all: what is seen behind it are the tuples -/
theorem Frm.grow (w : Wf H Hv fp) (s : Same H H') : Frm H Hv fp H' (tupV Hv H') fp := by
  have c : Same Hv H' := w.c.trans s
  exact .stp w ⟨s, tupV_a _ _, tupV_c c, fun p o m e n => tupV_h m (s _ _ e) n⟩
theorem Frm.drop (w : Wf H Hv fp) (s : ∀ a ∈ fp', a ∈ fp) (n : fp'.Nodup) : Frm H Hv fp H Hv fp' :=
  ⟨fun _ _ e _ => e, .refl _, fun p o _ _ n m => ⟨n, fun q => m (s p q)⟩, w.c, fun a ha => w.mc a (s a ha), fun a ha => w.hid a (s a ha), n⟩
theorem Wf.sub (w : Wf H Hv fp) (s : ∀ a ∈ fp', a ∈ fp) (n : fp'.Nodup) : Wf H Hv fp' := ⟨w.c, fun a ha => w.mc a (s a ha), fun a ha => w.hid a (s a ha), n⟩
/-- what is held beside stays -/
theorem Frm.keep (f : Frm H Hv fp H' Hv' fp') (w : Wf H Hv (fr ++ fp)) : ∀ a ∈ fr, H' a = H a := fun a ha => by
  obtain ⟨u, e, _⟩ := w.mc a (List.mem_append_left _ ha)
  rw [e]
  exact f.out a u e fun h => (List.nodup_append.mp w.nd).2.2 a ha a h rfl
theorem Frm.add (f : Frm H Hv fp H' Hv' fp') (w : Wf H Hv (fr ++ fp)) : Frm H Hv (fr ++ fp) H' Hv' (fr ++ fp') := by
  have k := f.keep w
  have dj := (List.nodup_append.mp w.nd).2.2
  have un : ∀ a ∈ fr, Hv' a = none ∧ a ∉ fp' := fun a ha => by
    obtain ⟨u, e, m⟩ := w.mc a (List.mem_append_left _ ha)
    exact f.h a u e m (w.hid a (List.mem_append_left _ ha)) fun h => dj a ha a h rfl
  refine ⟨fun p o e n => f.out p o e fun h => n (List.mem_append_right _ h), f.b, fun p o e m n q => ?_, f.w.c, fun a ha => ?_, fun a ha => ?_, ?_⟩
  · obtain ⟨x, y⟩ := f.h p o e m n fun h => q (List.mem_append_right _ h)
    refine ⟨x, fun h => ?_⟩
    rcases List.mem_append.mp h with h | h
    · exact q (List.mem_append_left _ h)
    · exact y h
  · rcases List.mem_append.mp ha with h | h
    · rw [k a h]; exact w.mc a (List.mem_append_left _ h)
    · exact f.w.mc a h
  · rcases List.mem_append.mp ha with h | h
    · exact (un a h).1
    · exact f.w.hid a h
  · exact List.nodup_append.mpr ⟨(List.nodup_append.mp w.nd).1, f.w.nd, fun a ha b hb e => (un a ha).2 (e ▸ hb)⟩
end
/-- a def's state: the slots' trees; the parameters that are pinned -/
structure OkT (K : PySem.W.Frag) (O : List Nat) (s0 : St) (σ : St) (ρ : EnT) (H Hv : Hp) (fp : List Addr) : Prop where
  es : Es K Hv H σ ρ fp
  w : Wf H Hv fp
  pin : ∀ i ∈ O, σ[i]? = s0[i]?
section
variable {K : PySem.W.Frag} {O : List Nat} {s0 σ : St} {ρ : EnT} {H Hv H' Hv' : Hp} {fp fp' fr : List Addr}
theorem OkT.full (k : OkT K O s0 σ ρ H Hv fp) : EOk K H σ (ful ρ) := k.es.full k.w.c
theorem OkT.frz (k : OkT K O s0 σ ρ H Hv fp) : EOk K Hv σ (frz ρ) := k.es.frz
/-- the state stands where nothing of its own is touched -/
theorem OkT.go (k : OkT K O s0 σ ρ H Hv fp) (f : Frm H Hv fp H' Hv' fp) (e : ∀ a ∈ fp, H' a = H a) : OkT K O s0 σ ρ H' Hv' fp := ⟨k.es.keep f.b (f.tpl k.w) e, f.w, k.pin⟩
theorem OkT.stp (k : OkT K O s0 σ ρ H Hv fp) (s : Stp H Hv H' Hv') : OkT K O s0 σ ρ H' Hv' fp := k.go (.stp k.w s) fun a ha => by
  obtain ⟨u, e, _⟩ := k.w.mc a ha
  rw [e]; exact s.a _ _ e
theorem OkT.grow (k : OkT K O s0 σ ρ H Hv fp) (s : Same H H') : OkT K O s0 σ ρ H' (tupV Hv H') fp := k.go (.grow k.w s) fun a ha => by
  obtain ⟨u, e, _⟩ := k.w.mc a ha
  rw [e]; exact s _ _ e
end
end PO
namespace PO
open PySem L2 PD
/-- an exception: its class, its fields -/
structure Xn where
  c : Addr
  fs : List (Str × D)
inductive XR (Hv H : Hp) (K : PySem.W.Frag) : Option Addr → Xn → Prop
  | none (c : Addr) : XR Hv H K none ⟨c, []⟩
  | some {c a : Addr} {fvs : List (Str × V)} {fs : List (Str × D)} : fs ≠ [] → H a = some (.xd fvs) → Dfs K Hv fvs fs → XR Hv H K (some a) ⟨c, fs⟩
/-- an expression's outcome -/
inductive Rx where
  | ok (t : T) (ρ : EnT)
  | xc (e : Xn) (ρ : EnT)
inductive Rxs where
  | ok (ts : List T) (ρ : EnT)
  | xc (e : Xn) (ρ : EnT)
section
variable (K : PySem.W.Frag) (O : List Nat) (s0 : St) (W : WX)
def PoX (σ : St) (H Hv : Hp) (fp : List Addr) (e : Xn) (ρ : EnT) : Prop := ∀ d H' Hv' fp', Frm H Hv fp H' Hv' fp' → OkT K O s0 σ ρ H' Hv' fp' → XR Hv' H' K d e → W (.ref e.c) d σ H'
def PoE (σ : St) (H Hv : Hp) (fp : List Addr) (Q : VK) : Rx → Prop
  | .ok t ρ => ∀ v H' Hv' fp' ft, Frm H Hv fp H' Hv' (ft ++ fp') → OkT K O s0 σ ρ H' Hv' fp' → Tn K Hv' H' v t ft → Q v H'
  | .xc e ρ => PoX K O s0 W σ H Hv fp e ρ
def PoEs (σ : St) (H Hv : Hp) (fp : List Addr) (Q : List V → Hp → Prop) : Rxs → Prop
  | .ok ts ρ => ∀ vs H' Hv' fp' ft, Frm H Hv fp H' Hv' (ft ++ fp') → OkT K O s0 σ ρ H' Hv' fp' → Tns K Hv' H' vs ts ft → Q vs H'
  | .xc e ρ => PoX K O s0 W σ H Hv fp e ρ
def rdX (f : EnT → Option Rx) : TE := fun σ H Q => ∃ Hv fp ρ r, OkT K O s0 σ ρ H Hv fp ∧ f ρ = some r ∧ PoE K O s0 W σ H Hv fp Q r
def rdXs (f : EnT → Option Rxs) : TA := fun σ H Q => ∃ Hv fp ρ r, OkT K O s0 σ ρ H Hv fp ∧ f ρ = some r ∧ PoEs K O s0 W σ H Hv fp Q r
end
/-! the functions -/
def xFr (f : En → Option D) (ρ : EnT) : Option Rx := (f (frz ρ)).map fun d => .ok (.fr d) ρ
def xIm (f : En → Option D) (ρ : EnT) : Option Rx := (f (ful ρ)).bind fun d => if imm d then some (.ok (.fr d) ρ) else none
def xLs (f : En → Option (List D)) (ρ : EnT) : Option Rx := (f (frz ρ)).map fun ds => .ok (.nd .lst (ds.map .fr)) ρ
def xLsI (f : En → Option (List D)) (ρ : EnT) : Option Rx := (f (ful ρ)).bind fun ds => if imms ds then some (.ok (.nd .lst (ds.map .fr)) ρ) else none
def xMv (i : Nat) (ρ : EnT) : Option Rx := match ρ[i]? with
  | some .dead => none
  | some t => some (.ok t (ρ.set i .dead))
  | none => none
def xsNil (ρ : EnT) : Option Rxs := some (.ok [] ρ)
def xsCons (f : EnT → Option Rx) (g : EnT → Option Rxs) (ρ : EnT) : Option Rxs := (f ρ).bind fun r => match r with
  | .xc e ρ1 => some (.xc e ρ1)
  | .ok t ρ1 => (g ρ1).map fun q => match q with
    | .ok ts ρ2 => .ok (t :: ts) ρ2
    | .xc e ρ2 => .xc e ρ2
def frOf : List T → Option (List D)
  | [] => some []
  | .fr d :: ts => (frOf ts).map (d :: ·)
  | _ => none
def mkTup (ts : List T) : T := match frOf ts with
  | some ds => .fr (.tup ds)
  | none => .nd .tup ts
def xTup (g : EnT → Option Rxs) (ρ : EnT) : Option Rx := (g ρ).bind fun q => match q with
  | .ok ts ρ1 => if okLen ts.length then some (.ok (mkTup ts) ρ1) else none
  | .xc e ρ1 => some (.xc e ρ1)
def xLst (g : EnT → Option Rxs) (ρ : EnT) : Option Rx := (g ρ).bind fun q => match q with
  | .ok ts ρ1 => if okLen ts.length then some (.ok (.nd .lst ts) ρ1) else none
  | .xc e ρ1 => some (.xc e ρ1)
section
variable {K : PySem.W.Frag} {O : List Nat} {s0 : St} {W : WX} {σ : St} {H Hv H' Hv' H1 Hv1 : Hp} {fp fp' fp1 fr ft : List Addr} {ρ : EnT} {Q : VK}
theorem tns_fr : ∀ {vs : List V} {ds : List D}, Dns K Hv vs ds → Tns K Hv H vs (ds.map .fr) []
  | _, _, .nil => .nil
  | _, _, .cons h r => Tns.cons (fp := []) (fps := []) (.fr h) (tns_fr r)
theorem tns_frOf : ∀ {vs : List V} {ts : List T} {fp : List Addr} {ds : List D}, Tns K Hv H vs ts fp → frOf ts = some ds → Dns K Hv vs ds ∧ fp = []
  | _, _, _, _, .nil, e => by simp only [frOf, Option.some.injEq] at e; subst e; exact ⟨.nil, rfl⟩
  | _, _, _, _, .cons (t := .dead) h r, e => by simp [frOf] at e
  | _, _, _, _, .cons (t := .nd _ _) h r, e => by simp [frOf] at e
  | _, _, _, _, .cons (t := .fr d) (ts := ts) h r, e => by
    simp only [frOf] at e
    cases h1 : frOf ts with
    | none => rw [h1] at e; cases e
    | some ds =>
      rw [h1] at e
      cases e
      obtain ⟨a, b⟩ := tns_frOf r h1
      cases h with
      | fr q => exact ⟨.cons q a, by rw [b]; rfl⟩
/-- a new object that is owned -/
theorem Frm.new {p : Addr} {o : HO} (f : Frm H Hv fp H' Hv' fp') (n : ∀ u, H p = some u → p ∈ fp) (n' : p ∉ fp') (v : Hv' p = none) (e : H' p = some o) (m : Mb o = true) : Frm H Hv fp H' Hv' (p :: fp') := by
  refine ⟨f.out, f.b, fun q u h1 h2 h3 h4 => ?_, f.w.c, fun a ha => ?_, fun a ha => ?_, List.nodup_cons.mpr ⟨n', f.w.nd⟩⟩
  · obtain ⟨a, b⟩ := f.h q u h1 h2 h3 h4
    refine ⟨a, fun h => ?_⟩
    rcases List.mem_cons.mp h with rfl | h
    · exact h4 (n u h1)
    · exact b h
  · rcases List.mem_cons.mp ha with rfl | ha
    · exact ⟨o, e, m⟩
    · exact f.w.mc a ha
  · rcases List.mem_cons.mp ha with rfl | ha
    · exact v
    · exact f.w.hid a ha
theorem Wf.not_mem (w : Wf H Hv fp) {p : Addr} (n : H p = none) : p ∉ fp := fun h => by
  obtain ⟨u, e, _⟩ := w.mc p h
  rw [n] at e; cases e
theorem noH {p : Addr} (n : H p = none) : ∀ u, H p = some u → p ∈ fp := fun u e => by rw [n] at e; cases e
theorem Frm.gone (f : Frm H Hv fp H' Hv' fp') {p : Addr} (n : H' p = none) : ∀ u, H p = some u → p ∈ fp := fun u e => Classical.byContradiction fun hm => by
  have := f.out p u e hm
  rw [n] at this; cases this
theorem rx_fr {f : En → Option D} (h : rdX K O s0 W (xFr f) σ H Q) : rdE K f σ H Q := by
  obtain ⟨Hv, fp, ρ, r, k, e, p⟩ := h
  unfold xFr at e
  cases h1 : f (frz ρ) with
  | none => rw [h1] at e; cases e
  | some d =>
    rw [h1] at e
    cases e
    exact ⟨Hv, frz ρ, d, k.w.c, k.frz, h1, fun v H' Hv' s q => p v H' Hv' fp [] (.stp k.w s) (k.stp s) (.fr q)⟩
theorem rx_im {f : En → Option D} (h : rdX K O s0 W (xIm f) σ H Q) : rdE K f σ H Q := by
  obtain ⟨Hv, fp, ρ, r, k, e, p⟩ := h
  obtain ⟨d, h1, e⟩ := bind_some2 e
  split at e
  · rename_i m
    cases e
    exact ⟨H, ful ρ, d, .refl _, k.full, h1, fun v H' Hv' s q => p v H' (tupV Hv H') fp [] (.grow k.w s.a) (k.grow s.a) (.fr ((q.mono s.c).imm (k.w.c.trans s.a) m))⟩
  · cases e
theorem rx_ls {f : En → Option (List D)} (h : rdX K O s0 W (xLs f) σ H Q) : rdF K f σ H Q := by
  obtain ⟨Hv, fp, ρ, r, k, e, p⟩ := h
  unfold xLs at e
  cases h1 : f (frz ρ) with
  | none => rw [h1] at e; cases e
  | some d =>
    rw [h1] at e
    cases e
    exact ⟨Hv, frz ρ, d, k.w.c, k.frz, h1, fun a vs H' Hv' s n n' hp q => p _ H' Hv' fp [a] (Frm.new (.stp k.w s) (noH n) (k.w.not_mem n) n' hp rfl) (k.stp s) (.nd (.lst hp) (tns_fr q))⟩
theorem rx_lsI {f : En → Option (List D)} (h : rdX K O s0 W (xLsI f) σ H Q) : rdF K f σ H Q := by
  obtain ⟨Hv, fp, ρ, r, k, e, p⟩ := h
  obtain ⟨d, h1, e⟩ := bind_some2 e
  split at e
  · rename_i m
    cases e
    refine ⟨H, ful ρ, d, .refl _, k.full, h1, fun a vs H' Hv' s n n' hp q => p _ H' (tupV Hv H') fp [a] (Frm.new (.grow k.w s.a) (noH n) (k.w.not_mem n) (tupV_h rfl hp (k.w.c.free n)) hp rfl) (k.grow s.a) (.nd (.lst hp) (tns_fr ((q.mono s.c).imm (k.w.c.trans s.a) m)))⟩
  · cases e
theorem mem_mid {a : Addr} {x y z : List Addr} (h : a ∈ y ++ (x ++ z)) : a ∈ x ++ (y ++ z) := by
  simp only [List.mem_append] at h ⊢; rcases h with h | h | h <;> simp [h]
theorem nd_mid {x y z : List Addr} (h : (x ++ (y ++ z)).Nodup) : (y ++ (x ++ z)).Nodup := by
  have p : (x ++ (y ++ z)).Perm (y ++ (x ++ z)) := by
    rw [← List.append_assoc, ← List.append_assoc]
    exact List.perm_append_comm.append_right _
  exact p.nodup_iff.mp h
theorem rx_mv {i : Nat} (h : rdX K O s0 W (xMv i) σ H Q) : tVar i σ H Q := by
  obtain ⟨Hv, fp, ρ, r, k, e, p⟩ := h
  unfold xMv at e
  cases h1 : ρ[i]? with
  | none => rw [h1] at e; cases e
  | some t =>
    rw [h1] at e
    obtain ⟨fl, fc, fr', e1, c, _, k2⟩ := k.es.at h1
    subst e1
    have nt : ∃ v, σ[i]? = some (some v) ∧ Tn K Hv H v t fc ∧ some (Rx.ok t (ρ.set i .dead)) = some r := by
      rcases c with ⟨rfl, _⟩ | ⟨v, a, b⟩
      · cases e
      · refine ⟨v, a, b, ?_⟩
        cases t with
        | dead => cases e
        | fr d => exact e
        | nd kd ts => exact e
    obtain ⟨v, a, b, e⟩ := nt
    cases e
    have n1 : (fc ++ (fl ++ fr')).Nodup := nd_mid k.w.nd
    have n2 : (fl ++ fr').Nodup := (List.nodup_append.mp n1).2.1
    refine ⟨v, a, p v H Hv (fl ++ fr') fc (.drop k.w (fun a h => mem_mid h) n1) ⟨k2 Hv H (.refl _) (fun _ _ h => h) (fun _ _ => rfl) (fun _ _ => rfl), k.w.sub (fun a h => ?_) n2, k.pin⟩ b⟩
    simp only [List.mem_append] at h ⊢
    rcases h with h | h <;> simp [h]
theorem rx_nil {Q : List V → Hp → Prop} (h : rdXs K O s0 W xsNil σ H Q) : tNil σ H Q := by
  obtain ⟨Hv, fp, ρ, r, k, e, p⟩ := h
  cases e
  exact p [] H Hv fp [] (.refl k.w) k .nil
/-- what was told from here tells from there -/
theorem PoX.trans {e : Xn} (f : Frm H Hv fp H1 Hv1 fp1) (p : PoX K O s0 W σ H Hv fp e ρ) : PoX K O s0 W σ H1 Hv1 fp1 e ρ := fun d H' Hv' fp' f' k x => p d H' Hv' fp' (f.trans f') k x
theorem rx_cons {f : EnT → Option Rx} {g : EnT → Option Rxs} {Q : List V → Hp → Prop} (h : rdXs K O s0 W (xsCons f g) σ H Q) : tCons (rdX K O s0 W f) (rdXs K O s0 W g) σ H Q := by
  obtain ⟨Hv, fp, ρ, r, k, e, p⟩ := h
  obtain ⟨r1, h1, e⟩ := bind_some2 e
  refine ⟨Hv, fp, ρ, r1, k, h1, ?_⟩
  cases r1 with
  | xc x ρ1 => cases e; exact p
  | ok t ρ1 =>
    intro v H1 Hv1 fp1 ft1 f1 k1 t1
    simp only at e
    cases h2 : g ρ1 with
    | none => rw [h2] at e; cases e
    | some q =>
      rw [h2] at e
      refine ⟨Hv1, fp1, ρ1, q, k1, h2, ?_⟩
      cases q with
      | xc x ρ2 =>
        cases e
        intro d H' Hv' fp' f2 k2 x
        have f3 := f2.add f1.w
        have w3 : Frm H' Hv' (ft1 ++ fp') H' Hv' fp' := .drop f3.w (fun a h => List.mem_append_right _ h) k2.w.nd
        exact p d H' Hv' fp' ((f1.trans f3).trans w3) k2 x
      | ok ts ρ2 =>
        cases e
        intro vs H' Hv' fp' ft2 f2 k2 t2
        have f3 := f2.add f1.w
        have kp := f2.keep f1.w
        rw [← List.append_assoc] at f3
        exact p (v :: vs) H' Hv' fp' (ft1 ++ ft2) (f1.trans f3) k2 (.cons (t1.keep f2.b (f2.tpl k1.w) kp) t2)
/-- a new tuple of what is frozen: told in the view -/
theorem Stp.put {p : Addr} {o : HO} (e : Same Hv H) (n : H p = none) : Stp H Hv (upd H p o) (upd Hv p o) := Stp.new e n
theorem rx_tup {g : EnT → Option Rxs} (h : rdX K O s0 W (xTup g) σ H Q) : tTup (rdXs K O s0 W g) σ H Q := by
  obtain ⟨Hv, fp, ρ, r, k, e, p⟩ := h
  obtain ⟨q, h1, e⟩ := bind_some2 e
  refine ⟨Hv, fp, ρ, q, k, h1, ?_⟩
  cases q with
  | xc x ρ1 => cases e; exact p
  | ok ts ρ1 =>
    simp only at e
    split at e
    · rename_i c
      cases e
      intro vs H' Hv' fp' ft f1 k1 t1
      refine ⟨by rw [t1.length]; exact okLen_le c, fun a n => ?_⟩
      have s := Stp.put (o := .tup vs) f1.w.c n
      unfold mkTup at p
      cases h2 : frOf ts with
      | some ds =>
        rw [h2] at p
        obtain ⟨r, rfl⟩ := tns_frOf t1 h2
        exact p _ _ _ fp' [] (f1.trans (.stp f1.w s)) (k1.stp s) (.fr (.tup (.of upd_same) (r.mono s.b)))
      | none =>
        rw [h2] at p
        have f2 := Frm.stp f1.w s
        refine p _ _ _ fp' ft (f1.trans f2) (k1.stp s) (.nd (.tup upd_same) (t1.keep s.b (f2.tpl f1.w) fun b hb => ?_))
        exact upd_ne fun e => f1.w.not_mem n (List.mem_append_left _ (e ▸ hb))
    · cases e
theorem rx_lst {g : EnT → Option Rxs} (h : rdX K O s0 W (xLst g) σ H Q) : tLst (rdXs K O s0 W g) σ H Q := by
  obtain ⟨Hv, fp, ρ, r, k, e, p⟩ := h
  obtain ⟨q, h1, e⟩ := bind_some2 e
  refine ⟨Hv, fp, ρ, q, k, h1, ?_⟩
  cases q with
  | xc x ρ1 => cases e; exact p
  | ok ts ρ1 =>
    simp only at e
    split at e
    · rename_i c
      cases e
      intro vs H' Hv' fp' ft f1 k1 t1
      refine ⟨by rw [t1.length]; exact okLen_le c, fun a n => ?_⟩
      have s := Stp.newH (o := .lst vs) f1.w.c n
      have f2 := Frm.stp f1.w s
      have nm := f1.w.not_mem n
      have f3 := Frm.new (f1.trans f2) (f1.gone n) nm (f1.w.c.free n) upd_same rfl
      refine p _ _ _ fp' (a :: ft) f3 (k1.stp s) (.nd (.lst upd_same) (t1.keep s.b (f2.tpl f1.w) fun b hb => ?_))
      exact upd_ne fun e => nm (List.mem_append_left _ (e ▸ hb))
    · cases e
end
end PO
namespace PO
open PySem L2 PD
inductive OutT where
  | nx (ρ : EnT) | bk (ρ : EnT) | ct (ρ : EnT) | rt (t : T) (ρ : EnT) | xc (e : Xn) (ρ : EnT)
section
variable (K : PySem.W.Frag) (O : List Nat) (s0 : St) (W : WX)
def PoN (H Hv : Hp) (fp : List Addr) (ρ : EnT) (R : St → Hp → Prop) : Prop := ∀ σ' H' Hv' fp', Frm H Hv fp H' Hv' fp' → OkT K O s0 σ' ρ H' Hv' fp' → R σ' H'
def PoU (H Hv : Hp) (fp : List Addr) (D' : Ends) : OutT → Prop
  | .nx ρ => PoN K O s0 H Hv fp ρ D'.nx
  | .bk ρ => PoN K O s0 H Hv fp ρ D'.bk
  | .ct ρ => PoN K O s0 H Hv fp ρ D'.ct
  | .rt t ρ => ∀ v σ' H' Hv' fp' ft, Frm H Hv fp H' Hv' (ft ++ fp') → OkT K O s0 σ' ρ H' Hv' fp' → Tn K Hv' H' v t ft → D'.rt v H'
  | .xc e ρ => ∀ d σ' H' Hv' fp', Frm H Hv fp H' Hv' fp' → OkT K O s0 σ' ρ H' Hv' fp' → XR Hv' H' K d e → W (.ref e.c) d σ' H'
def rdU (F : EnT → Option OutT) : TS := fun D' σ H => ∃ Hv fp ρ o, OkT K O s0 σ ρ H Hv fp ∧ F ρ = some o ∧ PoU K O s0 W H Hv fp D' o
end
/-! the functions -/
def uNil (ρ : EnT) : Option OutT := some (.nx ρ)
def uBrk (ρ : EnT) : Option OutT := some (.bk ρ)
def uCont (ρ : EnT) : Option OutT := some (.ct ρ)
def uNo (_ : EnT) : Option OutT := none
def uSeq (F G : EnT → Option OutT) (ρ : EnT) : Option OutT := (F ρ).bind fun o => match o with
  | .nx ρ' => G ρ'
  | o => some o
def uIf (c : En → Option Bool) (F G : EnT → Option OutT) (ρ : EnT) : Option OutT := (c (ful ρ)).bind fun b => if b then F ρ else G ρ
def setAllT : List Nat → List T → EnT → EnT
  | i :: is, t :: ts, ρ => setAllT is ts (ρ.set i t)
  | _, _, ρ => ρ
def stT : Tgt → T → EnT → Option EnT
  | .nm i, t, ρ => if i < ρ.length then some (ρ.set i t) else none
  | .tp is, .fr (.tup ds), ρ => if is.length = ds.length ∧ ∀ i ∈ is, i < ρ.length then some (setAllT is (ds.map .fr) ρ) else none
  | .tp is, .nd .tup ts, ρ => if is.length = ts.length ∧ ∀ i ∈ is, i < ρ.length then some (setAllT is ts ρ) else none
  | _, _, _ => none
def uAsg (t : Tgt) (f : EnT → Option Rx) (ρ : EnT) : Option OutT := (f ρ).bind fun r => match r with
  | .ok x ρ1 => (stT t x ρ1).map .nx
  | .xc e ρ1 => some (.xc e ρ1)
def uEx (f : EnT → Option Rx) (ρ : EnT) : Option OutT := (f ρ).map fun r => match r with
  | .ok _ ρ1 => .nx ρ1
  | .xc e ρ1 => .xc e ρ1
def uRet (f : EnT → Option Rx) (ρ : EnT) : Option OutT := (f ρ).map fun r => match r with
  | .ok t ρ1 => .rt t ρ1
  | .xc e ρ1 => .xc e ρ1
def uRetN (ρ : EnT) : Option OutT := some (.rt (.fr .non) ρ)
def loopU (t : Tgt) (F : EnT → Option OutT) : List D → EnT → Option OutT
  | [], ρ => some (.nx ρ)
  | d :: ds, ρ => (stT t (.fr d) ρ).bind fun ρ1 => (F ρ1).bind fun o => match o with
    | .nx ρ' => loopU t F ds ρ'
    | .ct ρ' => loopU t F ds ρ'
    | .bk ρ' => some (.nx ρ')
    | o => some o
def uFor (src : En → Option (List D)) (t : Tgt) (F : EnT → Option OutT) (ρ : EnT) : Option OutT := (src (frz ρ)).bind fun ds => loopU t F ds ρ
def whileU (c : En → Option Bool) (F : EnT → Option OutT) : Nat → EnT → Option OutT
  | 0, _ => none
  | n + 1, ρ => (c (ful ρ)).bind fun b => if b then (F ρ).bind fun o => match o with
    | .nx ρ' => whileU c F n ρ'
    | .ct ρ' => whileU c F n ρ'
    | .bk ρ' => some (.nx ρ')
    | o => some o
    else some (.nx ρ)
def uWhile (fuel : EnT → Nat) (c : En → Option Bool) (F : EnT → Option OutT) (ρ : EnT) : Option OutT := whileU c F (fuel ρ) ρ
section
variable {K : PySem.W.Frag} {O : List Nat} {s0 : St} {W : WX} {σ : St} {H Hv H' Hv' H1 Hv1 : Hp} {fp fp' fp1 fr ft rest : List Addr} {ρ ρ1 : EnT} {D' : Ends} {F G : EnT → Option OutT} {i : Nat} {v : V} {t : T}
theorem PoN.trans {R : St → Hp → Prop} (f : Frm H Hv fp H1 Hv1 fp1) (p : PoN K O s0 H Hv fp ρ R) : PoN K O s0 H1 Hv1 fp1 ρ R := fun σ' H' Hv' fp' f' k => p σ' H' Hv' fp' (f.trans f') k
theorem PoU.trans (f : Frm H Hv fp H1 Hv1 fp1) : ∀ {o : OutT}, PoU K O s0 W H Hv fp D' o → PoU K O s0 W H1 Hv1 fp1 D' o
  | .nx _, p => PoN.trans f p
  | .bk _, p => PoN.trans f p
  | .ct _, p => PoN.trans f p
  | .rt _ _, p => fun v σ' H' Hv' fp' ft f' k q => p v σ' H' Hv' fp' ft (f.trans f') k q
  | .xc _ _, p => fun d σ' H' Hv' fp' f' k x => p d σ' H' Hv' fp' (f.trans f') k x
theorem ru_nil (h : rdU K O s0 W uNil D' σ H) : tNext D' σ H := by
  obtain ⟨Hv, fp, ρ, o, k, e, p⟩ := h
  cases e
  exact p σ H Hv fp (.refl k.w) k
theorem ru_brk (h : rdU K O s0 W uBrk D' σ H) : tBreak D' σ H := by
  obtain ⟨Hv, fp, ρ, o, k, e, p⟩ := h
  cases e
  exact p σ H Hv fp (.refl k.w) k
theorem ru_cont (h : rdU K O s0 W uCont D' σ H) : tCont D' σ H := by
  obtain ⟨Hv, fp, ρ, o, k, e, p⟩ := h
  cases e
  exact p σ H Hv fp (.refl k.w) k
theorem ru_seq (h : rdU K O s0 W (uSeq F G) D' σ H) : tSeq (rdU K O s0 W F) (rdU K O s0 W G) D' σ H := by
  obtain ⟨Hv, fp, ρ, o, k, e, p⟩ := h
  obtain ⟨o1, h1, e⟩ := bind_some2 e
  refine ⟨Hv, fp, ρ, o1, k, h1, ?_⟩
  cases o1 with
  | nx ρ' => exact fun σ' H' Hv' fp' f' k' => ⟨Hv', fp', ρ', o, k', e, PoU.trans f' p⟩
  | bk d => cases e; exact p
  | ct d => cases e; exact p
  | rt d => cases e; exact p
  | xc d => cases e; exact p
theorem ru_if {c : En → Option Bool} (h : rdU K O s0 W (uIf c F G) D' σ H) : tIfS (rdT K c) (rdU K O s0 W F) (rdU K O s0 W G) D' σ H := by
  obtain ⟨Hv, fp, ρ, o, k, e, p⟩ := h
  obtain ⟨b, h1, e⟩ := bind_some2 e
  refine ⟨H, ful ρ, b, .refl _, k.full, h1, fun H' Hv' s => ?_⟩
  have k' := k.grow s.a
  have p' := PoU.trans (.grow k.w s.a) p
  cases b with
  | true => exact ⟨_, _, ρ, o, k', e, p'⟩
  | false => exact ⟨_, _, ρ, o, k', e, p'⟩
theorem perm_mid {x y z : List Addr} : (x ++ (y ++ z)).Perm (y ++ (x ++ z)) := by
  rw [← List.append_assoc, ← List.append_assoc]
  exact List.perm_append_comm.append_right _
/-- a slot takes a tree -/
theorem OkT.set (k : OkT K O s0 σ ρ H Hv fp) (hi : i ∉ O) (hl : i < ρ.length) (q : Tn K Hv H v t ft) (w : Wf H Hv (ft ++ (rest ++ fp))) : ∃ fp1, OkT K O s0 (σ.set i (some v)) (ρ.set i t) H Hv fp1 ∧ Wf H Hv (rest ++ fp1) ∧ ∀ a ∈ rest ++ fp1, a ∈ ft ++ (rest ++ fp) := by
  obtain ⟨fl, fc, fr', e1, _, k1, _⟩ := k.es.at (List.getElem?_eq_getElem hl)
  subst e1
  have sub : ∀ a ∈ rest ++ (fl ++ (ft ++ fr')), a ∈ ft ++ (rest ++ (fl ++ (fc ++ fr'))) := fun a h => by
    simp only [List.mem_append] at h ⊢
    rcases h with h | h | h | h <;> simp [h]
  have nd : (rest ++ (fl ++ (ft ++ fr'))).Nodup := by
    have s : (ft ++ (rest ++ (fl ++ fr'))).Sublist (ft ++ (rest ++ (fl ++ (fc ++ fr')))) := ((List.sublist_append_right fc fr').append_left fl |>.append_left rest).append_left ft
    have n := s.nodup w.nd
    have p : (ft ++ (rest ++ (fl ++ fr'))).Perm (rest ++ (fl ++ (ft ++ fr'))) := by
      have e1 : (ft ++ (rest ++ (fl ++ fr'))).Perm (rest ++ (ft ++ (fl ++ fr'))) := perm_mid
      have e2 : (ft ++ (fl ++ fr')).Perm (fl ++ (ft ++ fr')) := perm_mid
      exact e1.trans (e2.append_left rest)
    exact p.nodup_iff.mp n
  have w1 : Wf H Hv (rest ++ (fl ++ (ft ++ fr'))) := w.sub sub nd
  refine ⟨fl ++ (ft ++ fr'), ⟨k1 Hv H v t ft (.refl _) (fun _ _ h => h) (fun _ _ => rfl) (fun _ _ => rfl) q, w1.sub (fun a h => List.mem_append_right _ h) (List.nodup_append.mp nd).2.1, fun j hj => ?_⟩, w1, sub⟩
  rw [List.getElem?_set_ne (fun e => by subst e; exact hi hj)]
  exact k.pin j hj
theorem gNames_T : ∀ {is : List Nat} {vs : List V} {ts : List T} {ft : List Addr} {σ : St} {ρ : EnT} {fp : List Addr} {Q : St → Hp → Prop}, OkT K O s0 σ ρ H Hv fp → (∀ i ∈ is, i ∉ O) → (∀ i ∈ is, i < ρ.length) → Tns K Hv H vs ts ft → is.length = ts.length → Wf H Hv (ft ++ fp) →
    (∀ σ1 fp1, OkT K O s0 σ1 (setAllT is ts ρ) H Hv fp1 → (∀ a ∈ fp1, a ∈ ft ++ fp) → (∀ j, j ∉ is → σ1[j]? = σ[j]?) → σ1.length = σ.length → Q σ1 H) → gNames is vs σ H Q
  | [], _, _, _, σ, ρ, fp, Q, k, _, _, .nil, _, w, q => ⟨rfl, q σ fp k (fun a h => List.mem_append_right _ h) (fun _ _ => rfl) rfl⟩
  | i :: is, _, _, _, σ, ρ, fp, Q, k, ho, hl, .cons (v := v) (vs := vs) (t := t) (ts := ts) (fp := f1) (fps := f2) h r, l, w, q => by
    have w' : Wf H Hv (f1 ++ (f2 ++ fp)) := by rw [← List.append_assoc]; exact w
    obtain ⟨fp1, k1, w1, s1⟩ := k.set (ho i (by simp)) (hl i (by simp)) h w'
    refine ⟨v, vs, rfl, ?_⟩
    refine gNames_T k1 (fun j hj => ho j (List.mem_cons_of_mem _ hj)) (fun j hj => by rw [List.length_set]; exact hl j (List.mem_cons_of_mem _ hj)) r (by simpa using l) w1 fun σ1 fp2 k2 s2 o2 l2 => q σ1 fp2 k2 (fun a ha => ?_) (fun j hj => ?_) (by rw [l2, List.length_set])
    · have := s1 a (s2 a ha)
      rw [List.append_assoc]; exact this
    · simp only [List.mem_cons, not_or] at hj
      rw [o2 j hj.2, List.getElem?_set_ne (fun e => hj.1 e.symm)]
  | [], _, _, _, _, _, _, _, _, _, _, .cons _ _, l, _, _ => by simp at l
  | _ :: _, _, _, _, _, _, _, _, _, _, _, .nil, l, _, _ => by simp at l
theorem gTg_T {tg : Tgt} {Q : St → Hp → Prop} (k : OkT K O s0 σ ρ H Hv fp) (ho : ∀ i ∈ tg.slots, i ∉ O) (q : Tn K Hv H v t ft) (h : stT tg t ρ = some ρ1) (w : Wf H Hv (ft ++ fp))
    (p : ∀ σ1 fp1, OkT K O s0 σ1 ρ1 H Hv fp1 → Frm H Hv (ft ++ fp) H Hv fp1 → (∀ j, j ∉ tg.slots → σ1[j]? = σ[j]?) → σ1.length = σ.length → Q σ1 H) : gTg K tg v σ H Q := by
  cases tg with
  | nm i =>
    simp only [stT] at h
    split at h
    · rename_i hl
      cases h
      obtain ⟨fp1, k1, w1, s1⟩ := k.set (rest := []) (ho i (by simp [Tgt.slots])) hl q w
      exact p _ fp1 k1 (.drop w s1 w1.nd) (fun j hj => List.getElem?_set_ne (fun e => hj (by simp [Tgt.slots, e]))) (List.length_set ..)
    · cases h
  | tp is =>
    have fin : ∀ {a vs ts}, v = .ref a → SqT K H a vs → Tns K Hv H vs ts ft → is.length = ts.length → (∀ i ∈ is, i < ρ.length) → ρ1 = setAllT is ts ρ → gTg K (.tp is) v σ H Q := by
      intro a vs ts ev hs r l hl e
      subst e
      refine ⟨a, vs, ev, hs, by rw [r.length]; exact l.symm, ?_⟩
      exact gNames_T k ho hl r l w fun σ1 fp1 k1 s1 o1 l1 => p σ1 fp1 k1 (.drop w s1 k1.w.nd) o1 l1
    cases q with
    | dead => simp [stT] at h
    | fr q =>
      cases q with
      | tup hs r =>
        simp only [stT] at h
        split at h
        · rename_i c
          cases h
          exact fin rfl (sameT k.w.c hs) (tns_fr r) (by rw [List.length_map]; exact c.1) c.2 rfl
        · cases h
      | _ => simp [stT] at h
    | nd o r =>
      cases o with
      | tup hs =>
        simp only [stT] at h
        split at h
        · rename_i c
          cases h
          exact fin rfl (SqT.of hs) r c.1 c.2 rfl
        · cases h
      | _ => simp [stT] at h
theorem ru_asg {tg : Tgt} {f : EnT → Option Rx} (ho : ∀ i ∈ tg.slots, i ∉ O) (h : rdU K O s0 W (uAsg tg f) D' σ H) : tAsg (rdX K O s0 W f) (gTg K tg) D' σ H := by
  obtain ⟨Hv, fp, ρ, o, k, e, p⟩ := h
  obtain ⟨r, h1, e⟩ := bind_some2 e
  refine ⟨Hv, fp, ρ, r, k, h1, ?_⟩
  cases r with
  | xc x ρ1 => cases e; exact fun d H' Hv' fp' f' k' x => p d σ H' Hv' fp' f' k' x
  | ok t ρ1 =>
    intro v H' Hv' fp' ft f1 k1 t1
    simp only at e
    cases h2 : stT tg t ρ1 with
    | none => rw [h2] at e; cases e
    | some ρ2 =>
      rw [h2] at e
      cases e
      exact gTg_T k1 ho t1 h2 f1.w fun σ1 fp1 k2 f2 _ _ => p σ1 H' Hv' fp1 (f1.trans f2) k2
theorem ru_ex {f : EnT → Option Rx} (h : rdU K O s0 W (uEx f) D' σ H) : tDrop (rdX K O s0 W f) D' σ H := by
  obtain ⟨Hv, fp, ρ, o, k, e, p⟩ := h
  unfold uEx at e
  cases h1 : f ρ with
  | none => rw [h1] at e; cases e
  | some r =>
    rw [h1] at e
    refine ⟨Hv, fp, ρ, r, k, h1, ?_⟩
    cases r with
    | xc x ρ1 => cases e; exact fun d H' Hv' fp' f' k' x => p d σ H' Hv' fp' f' k' x
    | ok t ρ1 =>
      cases e
      intro v H' Hv' fp' ft f1 k1 t1
      exact p σ H' Hv' fp' (f1.trans (.drop f1.w (fun a h => List.mem_append_right _ h) k1.w.nd)) k1
theorem ru_ret {f : EnT → Option Rx} (h : rdU K O s0 W (uRet f) D' σ H) : tRet (rdX K O s0 W f) D' σ H := by
  obtain ⟨Hv, fp, ρ, o, k, e, p⟩ := h
  unfold uRet at e
  cases h1 : f ρ with
  | none => rw [h1] at e; cases e
  | some r =>
    rw [h1] at e
    refine ⟨Hv, fp, ρ, r, k, h1, ?_⟩
    cases r with
    | xc x ρ1 => cases e; exact fun d H' Hv' fp' f' k' x => p d σ H' Hv' fp' f' k' x
    | ok t ρ1 =>
      cases e
      intro v H' Hv' fp' ft f1 k1 t1
      exact p v σ H' Hv' fp' ft f1 k1 t1
theorem ru_retN (h : rdU K O s0 W uRetN D' σ H) : tRetN D' σ H := by
  obtain ⟨Hv, fp, ρ, o, k, e, p⟩ := h
  cases e
  exact p .non σ H Hv fp [] (.refl k.w) k (.fr .non)
theorem ru_for {src : En → Option (List D)} {tg : Tgt} (ho : ∀ i ∈ tg.slots, i ∉ O) (h : rdU K O s0 W (uFor src tg F) D' σ H) : tFor (rdI K src) (gTg K tg) (rdU K O s0 W F) D' σ H := by
  obtain ⟨Hv, fp, ρ, o, k, e, p⟩ := h
  obtain ⟨ds, h1, e⟩ := bind_some2 e
  refine ⟨Hv, frz ρ, ds, k.w.c, k.frz, h1, fun J H1 Hv1 s1 W1 => ?_⟩
  have f1 := Frm.stp k.w s1
  refine ⟨fun i m σ' H' => m = ds.length - i ∧ i ≤ ds.length ∧ ∃ Hv' fp' ρ', Frm H Hv fp H' Hv' fp' ∧ OkT K O s0 σ' ρ' H' Hv' fp' ∧ Same Hv1 Hv' ∧ loopU tg F (ds.drop i) ρ' = some o, ⟨_, rfl, Nat.zero_le _, Hv1, fp, ρ, f1, k.stp s1, .refl _, e⟩, ?_⟩
  rintro i m σ2 H2 ⟨rfl, hi, Hv2, fp2, ρ2, f2, k2, s2, e2⟩
  obtain ⟨w1, w2⟩ := W1 i H2 Hv2 s2 k2.w.c
  by_cases hlt : i < ds.length
  · right
    have eg : ds[i]? = some ds[i] := List.getElem?_eq_getElem hlt
    obtain ⟨g1, g2⟩ := w1 _ eg
    refine ⟨g1, fun σ' H' => ∃ Hv' fp' ρ', Frm H Hv fp H' Hv' fp' ∧ OkT K O s0 σ' ρ' H' Hv' fp' ∧ Same Hv1 Hv' ∧ loopU tg F (ds.drop (i + 1)) ρ' = some o, fun σ' H' ⟨Hv', fp', ρ', a, b, c, d⟩ => ⟨_, by omega, rfl, hlt, Hv', fp', ρ', a, b, c, d⟩, fun x H3 y => ?_⟩
    obtain ⟨Hv3, s3, q3⟩ := g2 x H3 y
    rw [List.drop_eq_getElem_cons hlt] at e2
    unfold loopU at e2
    obtain ⟨ρ3, st3, e2⟩ := bind_some2 e2
    obtain ⟨o3, b3, e2⟩ := bind_some2 e2
    have f3 := f2.trans (.stp k2.w s3)
    refine gTg_T (ft := []) (k2.stp s3) ho (.fr q3) st3 f3.w fun σ4 fp4 k4 f4 _ _ => ?_
    have f5 := f3.trans f4
    refine ⟨Hv3, fp4, ρ3, o3, k4, b3, ?_⟩
    have sv : Same Hv1 Hv3 := s2.trans s3.b
    cases o3 with
    | nx ρ' => exact fun σ5 H5 Hv5 fp5 f6 k5 => ⟨Hv5, fp5, ρ', f5.trans f6, k5, sv.trans f6.b, e2⟩
    | ct ρ' => exact fun σ5 H5 Hv5 fp5 f6 k5 => ⟨Hv5, fp5, ρ', f5.trans f6, k5, sv.trans f6.b, e2⟩
    | bk ρ' =>
      cases e2
      exact fun σ5 H5 Hv5 fp5 f6 k5 => p σ5 H5 Hv5 fp5 (f5.trans f6) k5
    | rt d ρ' =>
      cases e2
      exact PoU.trans f5 p
    | xc d ρ' =>
      cases e2
      exact PoU.trans f5 p
  · left
    have ei : i = ds.length := by omega
    subst ei
    refine ⟨w2 (by simp), ?_⟩
    simp only [List.drop_length, loopU, Option.some.injEq] at e2
    subst e2
    exact p σ2 H2 Hv2 fp2 f2 k2
theorem ru_while {fuel : EnT → Nat} {c : En → Option Bool} (h : rdU K O s0 W (uWhile fuel c F) D' σ H) : tWhile (rdT K c) (rdU K O s0 W F) D' σ H := by
  obtain ⟨Hv, fp, ρ, o, k, e, p⟩ := h
  refine ⟨fun m σ' H' => ∃ Hv' fp' ρ', Frm H Hv fp H' Hv' fp' ∧ OkT K O s0 σ' ρ' H' Hv' fp' ∧ whileU c F m ρ' = some o, ⟨_, Hv, fp, ρ, .refl k.w, k, e⟩, ?_⟩
  rintro m σ2 H2 ⟨Hv2, fp2, ρ2, f2, k2, e2⟩
  cases m with
  | zero => cases e2
  | succ m =>
    unfold whileU at e2
    obtain ⟨b, h1, e2⟩ := bind_some2 e2
    refine ⟨H2, ful ρ2, b, .refl _, k2.full, h1, fun H' Hv' s => ?_⟩
    have k3 := k2.grow s.a
    have f3 := f2.trans (.grow k2.w s.a)
    cases b with
    | false =>
      simp only [Bool.false_eq_true, if_false, Option.some.injEq] at e2
      subst e2
      exact p σ2 H' _ _ f3 k3
    | true =>
      simp only [if_true] at e2
      obtain ⟨o3, b3, e2⟩ := bind_some2 e2
      refine ⟨fun σ' H' => ∃ Hv' fp' ρ', Frm H Hv fp H' Hv' fp' ∧ OkT K O s0 σ' ρ' H' Hv' fp' ∧ whileU c F m ρ' = some o, fun σ' H' q => ⟨m, Nat.lt_succ_self m, q⟩, ?_⟩
      refine ⟨_, _, ρ2, o3, k3, b3, ?_⟩
      cases o3 with
      | nx ρ' => exact fun σ5 H5 Hv5 fp5 f6 k5 => ⟨Hv5, fp5, ρ', f3.trans f6, k5, e2⟩
      | ct ρ' => exact fun σ5 H5 Hv5 fp5 f6 k5 => ⟨Hv5, fp5, ρ', f3.trans f6, k5, e2⟩
      | bk ρ' => cases e2; exact fun σ5 H5 Hv5 fp5 f6 k5 => p σ5 H5 Hv5 fp5 (f3.trans f6) k5
      | rt d ρ' => cases e2; exact PoU.trans f3 p
      | xc d ρ' => cases e2; exact PoU.trans f3 p
end
end PO
namespace PO
open PySem L2 PD
/-! ### places in trees -/
def subT : T → List Nat → Option T
  | t, [] => some t
  | .nd _ ts, j :: ps => (ts[j]?).bind fun c => subT c ps
  | _, _ :: _ => none
def putT : T → List Nat → T → T
  | _, [], u => u
  | .nd k ts, j :: ps, u => match ts[j]? with
    | some c => .nd k (ts.set j (putT c ps u))
    | none => .nd k ts
  | t, _ :: _, _ => t
/-- the value at a place -/
inductive At (K : PySem.W.Frag) (H : Hp) : V → List Nat → V → Prop
  | nil (v : V) : At K H v [] v
  | cons {a : Addr} {k : Kd} {vs : List V} {j : Nat} {w v' : V} {ps : List Nat} : Ob K H a k vs → vs[j]? = some w → At K H w ps v' → At K H (.ref a) (j :: ps) v'
theorem Ob.uniq {K : PySem.W.Frag} {H : Hp} {a : Addr} {k k' : Kd} {vs vs' : List V} (x : Ob K H a k vs) (y : Ob K H a k' vs') : k = k' ∧ vs = vs' := by
  cases x with
  | lst e => cases y with
    | lst e' => rw [e] at e'; cases e'; exact ⟨rfl, rfl⟩
    | tup e' => rw [e] at e'; cases e'
    | dic e' => rw [e] at e'; cases e'
    | ins e' => rw [e] at e'; cases e'
  | tup e => cases y with
    | lst e' => rw [e] at e'; cases e'
    | tup e' => rw [e] at e'; cases e'; exact ⟨rfl, rfl⟩
    | dic e' => rw [e] at e'; cases e'
    | ins e' => rw [e] at e'; cases e'
  | dic e => cases y with
    | lst e' => rw [e] at e'; cases e'
    | tup e' => rw [e] at e'; cases e'
    | dic e' => rw [e] at e'; cases e'; exact ⟨rfl, rfl⟩
    | ins e' => rw [e] at e'; cases e'
  | ins e => cases y with
    | lst e' => rw [e] at e'; cases e'
    | tup e' => rw [e] at e'; cases e'
    | dic e' => rw [e] at e'; cases e'
    | ins e' => rw [e] at e'; cases e'; exact ⟨rfl, rfl⟩
theorem own1_app (k : Kd) (a : Addr) (x y : List Addr) : own1 k a (x ++ y) = own1 k a x ++ y := by unfold own1; split <;> rfl
section
variable {K : PySem.W.Frag} {Hv H : Hp}
/-- a part of a tree, and the rest of it -/
theorem Tn.focus : ∀ {ps : List Nat} {v : V} {t t' : T} {fp : List Addr}, Tn K Hv H v t fp → subT t ps = some t' →
    ∃ v' fl fc fr, At K H v ps v' ∧ fp = fl ++ (fc ++ fr) ∧ Tn K Hv H v' t' fc ∧
      ∀ (Hv2 H2 : Hp) (t2 : T) (fc2 : List Addr), Same Hv Hv2 → Tpl K H H2 → (∀ a ∈ fl, H2 a = H a) → (∀ a ∈ fr, H2 a = H a) → Tn K Hv2 H2 v' t2 fc2 → Tn K Hv2 H2 v (putT t ps t2) (fl ++ (fc2 ++ fr))
  | [], v, t, t', fp, h, e => by
    simp only [subT, Option.some.injEq] at e
    subst e
    refine ⟨v, [], fp, [], .nil v, by simp, h, fun Hv2 H2 t2 fc2 _ _ _ _ q => ?_⟩
    simp only [putT, List.nil_append, List.append_nil]
    exact q
  | j :: ps, _, _, t', _, .dead _, e => by simp [subT] at e
  | j :: ps, _, _, t', _, .fr _, e => by simp [subT] at e
  | j :: ps, _, _, t', _, .nd (a := a) (k := k) (vs := vs) (ts := ts) (fp := fp) o r, e => by
    simp only [subT] at e
    obtain ⟨c, e1, e2⟩ := bind_some2 e
    obtain ⟨w, fl, fc, fr, g1, g2, g3, g4⟩ := Tns.at r e1
    obtain ⟨v', fl', fc', fr', h1, h2, h3, h4⟩ := Tn.focus g3 e2
    subst g2 h2
    refine ⟨v', own1 k a (fl ++ fl'), fc', fr' ++ fr, .cons o g1 h1, ?_, h3, fun Hv2 H2 t2 fc2 sv tp el er q => ?_⟩
    · rw [← own1_app]
      simp only [List.append_assoc]
    · have el' : ∀ b, b ∈ fl ++ fl' → H2 b = H b := fun b hb => el b (by unfold own1; split; exact List.mem_cons_of_mem _ hb; exact hb)
      have q1 := h4 Hv2 H2 t2 fc2 sv tp (fun b hb => el' b (by simp [hb])) (fun b hb => er b (by simp [hb])) q
      have q2 := g4 Hv2 H2 w (putT c ps t2) _ sv tp (fun b hb => el' b (by simp [hb])) (fun b hb => er b (by simp [hb])) q1
      have ow : Ob K H2 a k vs := o.keep tp fun m => el a (by unfold own1; rw [if_pos m]; exact List.mem_cons_self ..)
      have q3 := Tn.nd (k := k) ow (by
        have : vs.set j w = vs := by
          apply List.ext_getElem?
          intro n
          by_cases hn : j = n
          · subst hn
            rw [List.getElem?_set_self (by rcases List.getElem?_eq_some_iff.mp g1 with ⟨h, _⟩; exact h), g1]
          · rw [List.getElem?_set_ne hn]
        rw [this] at q2
        exact q2)
      have ep : putT (.nd k ts) (j :: ps) t2 = .nd k (ts.set j (putT c ps t2)) := by simp only [putT, e1]
      rw [ep]
      have ee : own1 k a (fl ++ fl') ++ (fc2 ++ (fr' ++ fr)) = own1 k a (fl ++ ((fl' ++ (fc2 ++ fr')) ++ fr)) := by rw [← own1_app]; simp only [List.append_assoc]
      rw [ee]
      exact q3
theorem At.uniq {v : V} {ps : List Nat} {v' : V} (x : At K H v ps v') : ∀ {v'' : V}, At K H v ps v'' → v' = v'' := by
  induction x with
  | nil => intro _ y; cases y; rfl
  | cons o e _ ih =>
    intro _ y
    cases y with
    | cons o' e' y' =>
      obtain ⟨rfl, rfl⟩ := o.uniq o'
      rw [e] at e'; cases e'
      exact ih y'
end
end PO
namespace PO
open PySem L2 PD
/-! ### pure expressions: what is owned stands still -/
section
variable (K : PySem.W.Frag) (O : List Nat) (s0 : St)
def rdP (g : EnT → Option T) : TE := fun σ H Q => ∃ Hv fp ρ t, OkT K O s0 σ ρ H Hv fp ∧ g ρ = some t ∧ ∀ v H' Hv' ft, Frm H Hv fp H' Hv' (ft ++ fp) → (∀ a ∈ fp, H' a = H a) → Tn K Hv' H' v t ft → Q v H'
def rdPs (g : EnT → Option (List T)) : TA := fun σ H Q => ∃ Hv fp ρ ts, OkT K O s0 σ ρ H Hv fp ∧ g ρ = some ts ∧ ∀ vs H' Hv' ft, Frm H Hv fp H' Hv' (ft ++ fp) → (∀ a ∈ fp, H' a = H a) → Tns K Hv' H' vs ts ft → Q vs H'
/-- a place among the owned ones -/
def rdN (g : EnT → Option (Nat × List Nat)) : TE := fun σ H Q => ∃ Hv fp ρ i ps, OkT K O s0 σ ρ H Hv fp ∧ g ρ = some (i, ps) ∧ ∀ v0 v' H' Hv', Frm H Hv fp H' Hv' fp → (∀ a ∈ fp, H' a = H a) → σ[i]? = some (some v0) → At K H' v0 ps v' → Q v' H'
end
def nodeAt (ρ : EnT) (p : Nat × List Nat) : Option T := (ρ[p.1]?).bind fun t => subT t p.2
def xP (g : EnT → Option T) (ρ : EnT) : Option Rx := (g ρ).map fun t => .ok t ρ
def pFr (f : En → Option D) (ρ : EnT) : Option T := (f (frz ρ)).map .fr
def pIm (f : En → Option D) (ρ : EnT) : Option T := (f (ful ρ)).bind fun d => if imm d then some (.fr d) else none
def pLs (f : En → Option (List D)) (ρ : EnT) : Option T := (f (frz ρ)).map fun ds => .nd .lst (ds.map .fr)
def pLsI (f : En → Option (List D)) (ρ : EnT) : Option T := (f (ful ρ)).bind fun ds => if imms ds then some (.nd .lst (ds.map .fr)) else none
def psNil (_ : EnT) : Option (List T) := some []
def psCons (f : EnT → Option T) (g : EnT → Option (List T)) (ρ : EnT) : Option (List T) := (f ρ).bind fun t => (g ρ).map (t :: ·)
def pTup (g : EnT → Option (List T)) (ρ : EnT) : Option T := (g ρ).bind fun ts => if okLen ts.length then some (mkTup ts) else none
def pLst (g : EnT → Option (List T)) (ρ : EnT) : Option T := (g ρ).bind fun ts => if okLen ts.length then some (.nd .lst ts) else none
/-- the slot i, a field, .. -/
def nV (i : Nat) (ρ : EnT) : Option (Nat × List Nat) := match ρ[i]? with
  | some (.nd _ _) => some (i, [])
  | some (.fr _) => some (i, [])
  | _ => none
def nFld (C : Addr) (f : Str) (n : EnT → Option (Nat × List Nat)) (ρ : EnT) : Option (Nat × List Nat) := (n ρ).bind fun p => match nodeAt ρ p with
  | some (.nd (.ins C' ns) _) => if C' = C then (ns.idxOf? f).map fun j => (p.1, p.2 ++ [j]) else none
  | _ => none
/-- what is frozen at a place -/
def pAt (n : EnT → Option (Nat × List Nat)) (ρ : EnT) : Option T := (n ρ).bind fun p => match nodeAt ρ p with
  | some (.fr d) => some (.fr d)
  | _ => none
section
variable {K : PySem.W.Frag} {O : List Nat} {s0 : St} {W : WX} {σ : St} {H Hv H' Hv' H1 Hv1 : Hp} {fp fp' fp1 fr ft : List Addr} {ρ : EnT} {Q : VK}
theorem rx_p {g : EnT → Option T} (h : rdX K O s0 W (xP g) σ H Q) : rdP K O s0 g σ H Q := by
  obtain ⟨Hv, fp, ρ, r, k, e, p⟩ := h
  unfold xP at e
  cases h1 : g ρ with
  | none => rw [h1] at e; cases e
  | some t =>
    rw [h1] at e
    cases e
    refine ⟨Hv, fp, ρ, t, k, h1, fun v H' Hv' ft f st q => p v H' Hv' fp ft f ?_ q⟩
    exact k.go (f.trans (.drop f.w (fun a h => List.mem_append_right _ h) k.w.nd)) st
theorem stands (w : Wf H Hv fp) (s : Same H H') : ∀ a ∈ fp, H' a = H a := fun a ha => by
  obtain ⟨u, e, _⟩ := w.mc a ha
  rw [e]; exact s _ _ e
theorem rp_fr {f : En → Option D} (h : rdP K O s0 (pFr f) σ H Q) : rdE K f σ H Q := by
  obtain ⟨Hv, fp, ρ, t, k, e, p⟩ := h
  unfold pFr at e
  cases h1 : f (frz ρ) with
  | none => rw [h1] at e; cases e
  | some d =>
    rw [h1] at e
    cases e
    exact ⟨Hv, frz ρ, d, k.w.c, k.frz, h1, fun v H' Hv' s q => p v H' Hv' [] (.stp k.w s) (stands k.w s.a) (.fr q)⟩
theorem rp_im {f : En → Option D} (h : rdP K O s0 (pIm f) σ H Q) : rdE K f σ H Q := by
  obtain ⟨Hv, fp, ρ, r, k, e, p⟩ := h
  obtain ⟨d, h1, e⟩ := bind_some2 e
  split at e
  · rename_i m
    cases e
    exact ⟨H, ful ρ, d, .refl _, k.full, h1, fun v H' Hv' s q => p v H' (tupV Hv H') [] (.grow k.w s.a) (stands k.w s.a) (.fr ((q.mono s.c).imm (k.w.c.trans s.a) m))⟩
  · cases e
theorem rp_ls {f : En → Option (List D)} (h : rdP K O s0 (pLs f) σ H Q) : rdF K f σ H Q := by
  obtain ⟨Hv, fp, ρ, r, k, e, p⟩ := h
  unfold pLs at e
  cases h1 : f (frz ρ) with
  | none => rw [h1] at e; cases e
  | some d =>
    rw [h1] at e
    cases e
    exact ⟨Hv, frz ρ, d, k.w.c, k.frz, h1, fun a vs H' Hv' s n n' hp q => p _ H' Hv' [a] (Frm.new (.stp k.w s) (noH n) (k.w.not_mem n) n' hp rfl) (stands k.w s.a) (.nd (.lst hp) (tns_fr q))⟩
theorem rp_lsI {f : En → Option (List D)} (h : rdP K O s0 (pLsI f) σ H Q) : rdF K f σ H Q := by
  obtain ⟨Hv, fp, ρ, r, k, e, p⟩ := h
  obtain ⟨d, h1, e⟩ := bind_some2 e
  split at e
  · rename_i m
    cases e
    refine ⟨H, ful ρ, d, .refl _, k.full, h1, fun a vs H' Hv' s n n' hp q => p _ H' (tupV Hv H') [a] (Frm.new (.grow k.w s.a) (noH n) (k.w.not_mem n) (tupV_h rfl hp (k.w.c.free n)) hp rfl) (stands k.w s.a) (.nd (.lst hp) (tns_fr ((q.mono s.c).imm (k.w.c.trans s.a) m)))⟩
  · cases e
theorem rp_nil {Q : List V → Hp → Prop} (h : rdPs K O s0 psNil σ H Q) : tNil σ H Q := by
  obtain ⟨Hv, fp, ρ, r, k, e, p⟩ := h
  cases e
  exact p [] H Hv [] (.refl k.w) (fun _ _ => rfl) .nil
theorem rp_cons {f : EnT → Option T} {g : EnT → Option (List T)} {Q : List V → Hp → Prop} (h : rdPs K O s0 (psCons f g) σ H Q) : tCons (rdP K O s0 f) (rdPs K O s0 g) σ H Q := by
  obtain ⟨Hv, fp, ρ, r, k, e, p⟩ := h
  obtain ⟨t, h1, e⟩ := bind_some2 e
  cases h2 : g ρ with
  | none => rw [h2] at e; cases e
  | some ts =>
    rw [h2] at e
    cases e
    refine ⟨Hv, fp, ρ, t, k, h1, fun v H1 Hv1 ft1 f1 st1 t1 => ?_⟩
    have fd : Frm H Hv fp H1 Hv1 fp := f1.trans (.drop f1.w (fun a h => List.mem_append_right _ h) k.w.nd)
    have k1 := k.go fd st1
    refine ⟨Hv1, fp, ρ, ts, k1, h2, fun vs H' Hv' ft2 f2 st2 t2 => ?_⟩
    have f3 := f2.add f1.w
    have kp := f2.keep f1.w
    rw [← List.append_assoc] at f3
    exact p (v :: vs) H' Hv' (ft1 ++ ft2) (f1.trans f3) (fun a ha => by rw [st2 a ha, st1 a ha]) (.cons (t1.keep f2.b (f2.tpl k1.w) kp) t2)
theorem rp_tup {g : EnT → Option (List T)} (h : rdP K O s0 (pTup g) σ H Q) : tTup (rdPs K O s0 g) σ H Q := by
  obtain ⟨Hv, fp, ρ, r, k, e, p⟩ := h
  obtain ⟨ts, h1, e⟩ := bind_some2 e
  split at e
  · rename_i c
    cases e
    refine ⟨Hv, fp, ρ, ts, k, h1, fun vs H' Hv' ft f1 st t1 => ?_⟩
    refine ⟨by rw [t1.length]; exact okLen_le c, fun a n => ?_⟩
    have s := Stp.put (o := .tup vs) f1.w.c n
    have nm := f1.w.not_mem n
    have st' : ∀ b ∈ fp, upd H' a (.tup vs) b = H b := fun b hb => by
      have hne : b ≠ a := fun e => nm (List.mem_append_right _ (e ▸ hb))
      rw [upd_ne hne]; exact st b hb
    unfold mkTup at p
    cases h2 : frOf ts with
    | some ds =>
      rw [h2] at p
      obtain ⟨r, rfl⟩ := tns_frOf t1 h2
      exact p _ _ _ [] (f1.trans (.stp f1.w s)) st' (.fr (.tup (.of upd_same) (r.mono s.b)))
    | none =>
      rw [h2] at p
      have f2 := Frm.stp f1.w s
      refine p _ _ _ ft (f1.trans f2) st' (.nd (.tup upd_same) (t1.keep s.b (f2.tpl f1.w) fun b hb => ?_))
      exact upd_ne fun e => nm (List.mem_append_left _ (e ▸ hb))
  · cases e
theorem rp_lst {g : EnT → Option (List T)} (h : rdP K O s0 (pLst g) σ H Q) : tLst (rdPs K O s0 g) σ H Q := by
  obtain ⟨Hv, fp, ρ, r, k, e, p⟩ := h
  obtain ⟨ts, h1, e⟩ := bind_some2 e
  split at e
  · rename_i c
    cases e
    refine ⟨Hv, fp, ρ, ts, k, h1, fun vs H' Hv' ft f1 st t1 => ?_⟩
    refine ⟨by rw [t1.length]; exact okLen_le c, fun a n => ?_⟩
    have s := Stp.newH (o := .lst vs) f1.w.c n
    have f2 := Frm.stp f1.w s
    have nm := f1.w.not_mem n
    have f3 := Frm.new (f1.trans f2) (f1.gone n) nm (f1.w.c.free n) upd_same rfl
    refine p _ _ _ (a :: ft) f3 (fun b hb => by
      have hne : b ≠ a := fun e => nm (List.mem_append_right _ (e ▸ hb))
      rw [upd_ne hne]; exact st b hb) (.nd (.lst upd_same) (t1.keep s.b (f2.tpl f1.w) fun b hb => ?_))
    exact upd_ne fun e => nm (List.mem_append_left _ (e ▸ hb))
  · cases e
/-! ### places -/
theorem rn_var {i : Nat} (h : rdN K O s0 (nV i) σ H Q) : tVar i σ H Q := by
  obtain ⟨Hv, fp, ρ, j, ps, k, e, p⟩ := h
  unfold nV at e
  have go : ∀ t, ρ[i]? = some t → t ≠ .dead → (j, ps) = (i, []) → tVar i σ H Q := fun t h1 nd e => by
    cases e
    obtain ⟨fl, fc, fr', e1, c, _, _⟩ := k.es.at h1
    rcases c with ⟨rfl, _⟩ | ⟨v, a, b⟩
    · exact absurd rfl nd
    · exact ⟨v, a, p v v H Hv (.refl k.w) (fun _ _ => rfl) a (.nil v)⟩
  cases h1 : ρ[i]? with
  | none => rw [h1] at e; cases e
  | some t =>
    rw [h1] at e
    cases t with
    | dead => cases e
    | fr d => cases e; exact go _ h1 (fun e => by cases e) rfl
    | nd kd ts => cases e; exact go _ h1 (fun e => by cases e) rfl
/-- a tree's part, where its owner stands -/
theorem OkT.node {p : Nat × List Nat} {t : T} {v0 v' : V} (k : OkT K O s0 σ ρ H Hv fp) (e : nodeAt ρ p = some t) (h0 : σ[p.1]? = some (some v0)) (ha : At K H v0 p.2 v') (nd : t ≠ .dead) :
    ∃ fl fc fr', fp = fl ++ (fc ++ fr') ∧ Tn K Hv H v' t fc ∧ ∀ (Hv2 H2 : Hp) (t2 : T) (fc2 : List Addr), Same Hv Hv2 → Tpl K H H2 → (∀ a ∈ fl, H2 a = H a) → (∀ a ∈ fr', H2 a = H a) → Tn K Hv2 H2 v' t2 fc2 →
      ∃ t0, ρ[p.1]? = some t0 ∧ Es K Hv2 H2 σ (ρ.set p.1 (putT t0 p.2 t2)) (fl ++ (fc2 ++ fr')) := by
  unfold nodeAt at e
  obtain ⟨t0, h1, e⟩ := bind_some2 e
  obtain ⟨fl, fc, fr', e1, c, k1, _⟩ := k.es.at h1
  rcases c with ⟨rfl, _⟩ | ⟨v, a, b⟩
  · cases hp : p.2 with
    | nil => rw [hp] at e; simp only [subT, Option.some.injEq] at e; exact absurd e.symm nd
    | cons j ps => rw [hp] at e; simp [subT] at e
  · rw [h0] at a
    cases a
    obtain ⟨v1, gl, gc, gr, g1, g2, g3, g4⟩ := b.focus e
    obtain rfl := g1.uniq ha
    subst g2
    subst e1
    refine ⟨fl ++ gl, gc, gr ++ fr', by simp only [List.append_assoc], g3, fun Hv2 H2 t2 fc2 sv tp el er q => ⟨t0, h1, ?_⟩⟩
    have q1 := g4 Hv2 H2 t2 fc2 sv tp (fun a h => el a (List.mem_append_right _ h)) (fun a h => er a (List.mem_append_left _ h)) q
    have q2 := k1 Hv2 H2 v0 _ _ sv tp (fun a h => el a (List.mem_append_left _ h)) (fun a h => er a (List.mem_append_right _ h)) q1
    have se : σ.set p.1 (some v0) = σ := by
      apply List.ext_getElem?
      intro n
      by_cases hn : p.1 = n
      · subst hn
        rw [List.getElem?_set_self (by rcases List.getElem?_eq_some_iff.mp h0 with ⟨h, _⟩; exact h), h0]
      · rw [List.getElem?_set_ne hn]
    rw [se] at q2
    simpa only [List.append_assoc] using q2
end
end PO
namespace PO
open PySem L2 PD
/-! ### a node put anew -/
def SubP (x y : List Addr) : Prop := ∃ l, List.Perm x l ∧ List.Sublist l y
theorem SubP.mem {x y : List Addr} (h : SubP x y) : ∀ a ∈ x, a ∈ y := fun a ha => let ⟨_, p, s⟩ := h; s.mem (p.mem_iff.mp ha)
theorem SubP.nd {x y : List Addr} (h : SubP x y) (n : y.Nodup) : x.Nodup := let ⟨_, p, s⟩ := h; p.nodup_iff.mpr (s.nodup n)
theorem SubP.refl (x : List Addr) : SubP x x := ⟨x, .refl _, .refl _⟩
theorem SubP.ofPerm {x y : List Addr} (h : x.Perm y) : SubP x y := ⟨y, h, .refl _⟩
section
variable {K : PySem.W.Frag} {O : List Nat} {s0 : St} {W : WX} {σ : St} {H Hv H' Hv' H1 Hv1 : Hp} {fp fp' fp1 fr ft : List Addr} {ρ : EnT} {Q : VK}
theorem OkT.put {p : Nat × List Nat} {kd : Kd} {ts : List T} {v0 v' : V} (k : OkT K O s0 σ ρ H Hv fp) (w : Wf H Hv (ft ++ fp)) (e : nodeAt ρ p = some (.nd kd ts)) (m : kd.mb = true) (h0 : σ[p.1]? = some (some v0)) (ha : At K H v0 p.2 v') :
    ∃ a vs, v' = .ref a ∧ Ob K H a kd vs ∧ vs.length = ts.length ∧
      ∀ (o : HO) (kd2 : Kd) (ts2 : List T) (vs2 : List V), Mb o = true → kd2.mb = true → Ob K (upd H a o) a kd2 vs2 →
        (∀ fc, Tns K Hv H vs ts fc → a ∉ fc → a ∉ ft → ∃ fc2, Tns K Hv (upd H a o) vs2 ts2 fc2 ∧ SubP fc2 (ft ++ fc)) →
        ∃ fp2 t0, ρ[p.1]? = some t0 ∧ OkT K O s0 σ (ρ.set p.1 (putT t0 p.2 (.nd kd2 ts2))) (upd H a o) Hv fp2 ∧ Frm H Hv (ft ++ fp) (upd H a o) Hv fp2 := by
  obtain ⟨fl, fc, fr', e1, q, put⟩ := k.node e h0 ha (fun e => by cases e)
  cases q with
  | nd ob r =>
    rename_i a vs fc
    have eo : own1 kd a fc = a :: fc := by unfold own1; rw [if_pos m]
    rw [eo] at e1
    subst e1
    refine ⟨a, vs, rfl, ob, r.length, fun o kd2 ts2 vs2 mo m2 ob2 hc => ?_⟩
    have nd := w.nd
    have nda := List.nodup_append.mp nd
    have ndb := List.nodup_append.mp nda.2.1
    have ndc := List.nodup_append.mp ndb.2.1
    have a1 : a ∉ fc := (List.nodup_cons.mp ndc.1).1
    have a2 : a ∉ ft := fun h => nda.2.2 a h a (by simp) rfl
    have a3 : a ∉ fl := fun h => ndb.2.2 a h a (by simp) rfl
    have a4 : a ∉ fr' := fun h => ndc.2.2 a (by simp) a h rfl
    obtain ⟨fc2, r2, sp⟩ := hc fc r a1 a2
    have tp : Tpl K H (upd H a o) := fun b us s => by
      rw [upd_ne (fun e' => by
        subst e'
        obtain ⟨x, e2, m2⟩ := w.mc b (by simp)
        rw [s] at e2; cases e2; cases m2)]
      exact s
    have hva : Hv a = none := w.hid a (by simp)
    obtain ⟨t0, g0, es2⟩ := put Hv (upd H a o) (.nd kd2 ts2) (own1 kd2 a fc2) (.refl _) tp (fun b hb => upd_ne fun e => a3 (e ▸ hb)) (fun b hb => upd_ne fun e => a4 (e ▸ hb)) (.nd ob2 r2)
    have eo2 : own1 kd2 a fc2 = a :: fc2 := by unfold own1; rw [if_pos m2]
    rw [eo2] at es2
    -- the new footprint is a part of the old
    obtain ⟨l, pl, sl⟩ := sp
    have p1 : (ft ++ (fl ++ (a :: fc ++ fr'))).Perm ((ft ++ fc) ++ (fl ++ (a :: fr'))) := by
      rw [List.perm_iff_count]
      intro b
      simp only [List.count_append, List.count_cons, List.cons_append]
      omega
    have p2 : (fl ++ (a :: fc2 ++ fr')).Perm (l ++ (fl ++ (a :: fr'))) := by
      refine List.Perm.trans (l₂ := fc2 ++ (fl ++ (a :: fr'))) ?_ (pl.append_right _)
      rw [List.perm_iff_count]
      intro b
      simp only [List.count_append, List.count_cons, List.cons_append]
      omega
    have s1 : (l ++ (fl ++ (a :: fr'))).Sublist ((ft ++ fc) ++ (fl ++ (a :: fr'))) := sl.append_right _
    have mem : ∀ b ∈ fl ++ (a :: fc2 ++ fr'), b ∈ ft ++ (fl ++ (a :: fc ++ fr')) := fun b hb => p1.mem_iff.mpr (s1.mem (p2.mem_iff.mp hb))
    have nd2 : (fl ++ (a :: fc2 ++ fr')).Nodup := p2.nodup_iff.mpr (s1.nodup (p1.nodup_iff.mp nd))
    have mc2 : ∀ b, (∃ u, H b = some u ∧ Mb u = true) → ∃ u, upd H a o b = some u ∧ Mb u = true := fun b ⟨u, x, y⟩ => by
      by_cases hb : b = a
      · subst hb; exact ⟨o, upd_same, mo⟩
      · exact ⟨u, by rw [upd_ne hb]; exact x, y⟩
    have w2 : Wf (upd H a o) Hv (fl ++ (a :: fc2 ++ fr')) := by
      refine ⟨fun b u hb => ?_, fun b hb => mc2 b (w.mc b (mem b hb)), fun b hb => w.hid b (mem b hb), nd2⟩
      rw [upd_ne (fun e => by subst e; rw [hva] at hb; cases hb)]
      exact w.c _ _ hb
    refine ⟨_, t0, g0, ⟨es2, w2, k.pin⟩, fun b u hb hn => ?_, .refl _, fun b u h1 h2 h3 h4 => ⟨h3, fun h => h4 (mem b h)⟩, w2⟩
    rw [upd_ne (fun e => hn (by subst e; simp))]
    exact hb
end
end PO
namespace PO
open PySem L2 PD
/-! ### fields: read, stored -/
section
variable {K : PySem.W.Frag} {O : List Nat} {s0 : St} {W : WX} {σ : St} {H Hv H' Hv' H1 Hv1 : Hp} {fp fp' fp1 fr ft : List Addr} {ρ : EnT} {Q : VK} {D' : Ends}
theorem lookup_idx {f : Str} : ∀ {fs : List (Str × V)} {j : Nat}, (fs.map (·.1)).idxOf? f = some j → ∃ v, fs.lookup f = some v ∧ (fs.map (·.2))[j]? = some v
  | [], j, e => by simp at e
  | (g, x) :: r, j, e => by
    by_cases h : g = f
    · subst h
      have : j = 0 := by simpa [List.idxOf?_cons] using e.symm
      subst this
      exact ⟨x, by simp [List.lookup], rfl⟩
    · rw [List.map_cons, List.idxOf?_cons] at e
      simp only [beq_iff_eq, h, if_false] at e
      cases e1 : (r.map (·.1)).idxOf? f with
      | none => simp [e1] at e
      | some i =>
        simp only [e1, Option.map_some, Option.some.injEq] at e
        subst e
        obtain ⟨v, h1, h2⟩ := lookup_idx e1
        refine ⟨v, ?_, by simpa using h2⟩
        rw [List.lookup_cons]
        have : (f == g) = false := by simpa using fun e : f = g => h e.symm
        rw [this]
        exact h1
theorem At.snoc {v v' : V} {ps : List Nat} {a : Addr} {k : Kd} {vs : List V} {j : Nat} {w : V} (x : At K H v ps v') (e : v' = .ref a) (o : Ob K H a k vs) (g : vs[j]? = some w) : At K H v (ps ++ [j]) w := by
  induction x with
  | nil => subst e; exact .cons o g (.nil _)
  | cons o' g' _ ih => exact .cons o' g' (ih e)
theorem rn_fld {C : Addr} {f : Str} {n : EnT → Option (Nat × List Nat)} (c : Cls K C) (na : NoAttr K C f) (h : rdN K O s0 (nFld C f n) σ H Q) : tFld K (rdN K O s0 n) f σ H Q := by
  obtain ⟨Hv, fp, ρ, i, ps, k, e0, p⟩ := h
  unfold nFld at e0
  obtain ⟨q, h1, e⟩ := bind_some2 e0
  clear e0
  split at e
  · rename_i C' ns ts hn
    split at e
    · rename_i hc
      subst hc
      cases hj : ns.idxOf? f with
      | none => rw [hj] at e; cases e
      | some j =>
        rw [hj] at e
        cases e
        refine ⟨Hv, fp, ρ, q.1, q.2, k, h1, fun v0 v' H' Hv' f1 st h0 ha => ?_⟩
        obtain ⟨fl, fc, fr', _, tn, _⟩ := (k.go f1 st).node hn h0 ha (fun e => by cases e)
        cases tn with
        | nd ob r =>
          cases ob with
          | ins hi =>
            obtain ⟨v, l1, l2⟩ := lookup_idx hj
            exact ⟨_, _, _, _, v, rfl, hi, c, na, l1, p v0 v H' Hv' f1 st h0 (ha.snoc rfl (.ins hi) l2)⟩
    · cases e
  · cases e
/-- what is frozen at a place -/
theorem rp_at {n : EnT → Option (Nat × List Nat)} (h : rdP K O s0 (pAt n) σ H Q) : rdN K O s0 n σ H Q := by
  obtain ⟨Hv, fp, ρ, t, k, e, p⟩ := h
  unfold pAt at e
  obtain ⟨q, h1, e⟩ := bind_some2 e
  split at e
  · rename_i d hn
    cases e
    refine ⟨Hv, fp, ρ, q.1, q.2, k, h1, fun v0 v' H' Hv' f1 st h0 ha => ?_⟩
    obtain ⟨fl, fc, fr', _, tn, _⟩ := (k.go f1 st).node hn h0 ha (fun e => by cases e)
    cases tn with
    | fr x => exact p v' H' Hv' [] f1 st (.fr x)
  · cases e
/-- a value is held while a place is read -/
theorem hold {n : EnT → Option (Nat × List Nat)} {p : Nat × List Nat} (k : OkT K O s0 σ ρ H Hv fp) (w : Wf H Hv (ft ++ fp)) {v : V} {t : T} (q : Tn K Hv H v t ft) (e : n ρ = some p)
    (go : ∀ v0 v' H' Hv', OkT K O s0 σ ρ H' Hv' fp → Wf H' Hv' (ft ++ fp) → Frm H Hv (ft ++ fp) H' Hv' (ft ++ fp) → Tn K Hv' H' v t ft → σ[p.1]? = some (some v0) → At K H' v0 p.2 v' → Q v' H') : rdN K O s0 n σ H Q := by
  refine ⟨Hv, fp, ρ, p.1, p.2, k, e, fun v0 v' H' Hv' f1 st h0 ha => ?_⟩
  have f2 := f1.add w
  exact go v0 v' H' Hv' (k.go f1 st) f2.w f2 (q.keep f1.b (f1.tpl k.w) (f1.keep w)) h0 ha
/-- the node with the field f put -/
def putN (C : Addr) (f : Str) (t : T) (ns : List Str) (ts : List T) : T := match ns.idxOf? f with
  | some j => .nd (.ins C ns) (ts.set j t)
  | none => .nd (.ins C (ns ++ [f])) (ts ++ [t])
def setAt (ρ : EnT) (p : Nat × List Nat) (t : T) : EnT := ρ.set p.1 (putT (ρ.getD p.1 .dead) p.2 t)
def uFld (C : Addr) (f : Str) (n : EnT → Option (Nat × List Nat)) (e : EnT → Option Rx) (ρ : EnT) : Option OutT := (e ρ).bind fun r => match r with
  | .xc x ρ1 => some (.xc x ρ1)
  | .ok t ρ1 => (n ρ1).bind fun p => match nodeAt ρ1 p with
    | some (.nd (.ins C' ns) ts) => if C' = C ∧ ns.length < 1000 then some (.nx (setAt ρ1 p (putN C f t ns ts))) else none
    | _ => none
theorem putF_some {f : Str} {v : V} : ∀ {fs : List (Str × V)} {j : Nat}, (fs.map (·.1)).idxOf? f = some j → (putF f v fs).map (·.1) = fs.map (·.1) ∧ (putF f v fs).map (·.2) = (fs.map (·.2)).set j v
  | [], j, e => by simp at e
  | (g, x) :: r, j, e => by
    by_cases h : g = f
    · subst h
      have : j = 0 := by simpa [List.idxOf?_cons] using e.symm
      subst this
      simp [putF]
    · rw [List.map_cons, List.idxOf?_cons] at e
      simp only [beq_iff_eq, h, if_false] at e
      cases e1 : (r.map (·.1)).idxOf? f with
      | none => simp [e1] at e
      | some i =>
        simp only [e1, Option.map_some, Option.some.injEq] at e
        subst e
        obtain ⟨h1, h2⟩ := putF_some (v := v) e1
        simp only [putF, if_neg h, List.map_cons, h1, h2, List.set_cons_succ, and_self]
theorem putF_none {f : Str} {v : V} : ∀ {fs : List (Str × V)}, (fs.map (·.1)).idxOf? f = none → (putF f v fs).map (·.1) = fs.map (·.1) ++ [f] ∧ (putF f v fs).map (·.2) = fs.map (·.2) ++ [v]
  | [], e => by simp [putF]
  | (g, x) :: r, e => by
    rw [List.map_cons, List.idxOf?_cons] at e
    by_cases h : g = f
    · subst h; simp at e
    · simp only [beq_iff_eq, h, if_false] at e
      have e1 : (r.map (·.1)).idxOf? f = none := by
        cases e2 : (r.map (·.1)).idxOf? f with
        | none => rfl
        | some i => rw [e2] at e; cases e
      obtain ⟨h1, h2⟩ := putF_none (v := v) e1
      simp only [putF, if_neg h, List.map_cons, h1, h2, List.cons_append, and_self]
theorem Tns.upd {vs : List V} {ts : List T} {a : Addr} {o : HO} (r : Tns K Hv H vs ts fp) (tp : Tpl K H (upd H a o)) (n : a ∉ fp) : Tns K Hv (upd H a o) vs ts fp := r.keep (.refl _) tp fun b hb => upd_ne fun e => n (e ▸ hb)
theorem Tn.upd {v : V} {t : T} {a : Addr} {o : HO} (r : Tn K Hv H v t fp) (tp : Tpl K H (upd H a o)) (n : a ∉ fp) : Tn K Hv (upd H a o) v t fp := r.keep (.refl _) tp fun b hb => upd_ne fun e => n (e ▸ hb)
theorem tpl_upd {a : Addr} {o u : HO} (h : H a = some u) (m : Mb u = true) : Tpl K H (upd H a o) := fun b us s => by
  rw [upd_ne (fun e' => by subst e'; rw [s] at h; cases h; cases m)]
  exact s
/-- children with one set, with one more -/
theorem Tns.setq {vs : List V} {ts : List T} {j : Nat} {v : V} {t : T} (r : Tns K Hv H vs ts fp) (hj : j < ts.length) (q : Tn K Hv H v t ft) : ∃ fc2, Tns K Hv H (vs.set j v) (ts.set j t) fc2 ∧ SubP fc2 (ft ++ fp) := by
  obtain ⟨_, fl, fc, fr', _, e, _, g⟩ := r.at (List.getElem?_eq_getElem hj)
  subst e
  refine ⟨_, g Hv H v t ft (.refl _) (fun _ _ h => h) (fun _ _ => rfl) (fun _ _ => rfl) q, ft ++ (fl ++ fr'), ?_, ((List.sublist_append_right fc fr').append_left fl).append_left ft⟩
  exact perm_mid
theorem Tns.snocq {vs : List V} {ts : List T} {v : V} {t : T} (r : Tns K Hv H vs ts fp) (q : Tn K Hv H v t ft) : ∃ fc2, Tns K Hv H (vs ++ [v]) (ts ++ [t]) fc2 ∧ SubP fc2 (ft ++ fp) := by
  refine ⟨fp ++ (ft ++ []), r.append (.cons q .nil), SubP.ofPerm ?_⟩
  rw [List.append_nil]
  exact List.perm_append_comm
theorem ru_fld {C : Addr} {f : Str} {n : EnT → Option (Nat × List Nat)} {e : EnT → Option Rx} (c : Cls K C) (na : NoAttr K C f) (h : rdU K O s0 W (uFld C f n e) D' σ H) : sFld K (rdN K O s0 n) (rdX K O s0 W e) f D' σ H := by
  obtain ⟨Hv, fp, ρ, o, k, e1, p⟩ := h
  obtain ⟨r, h1, e1⟩ := bind_some2 e1
  refine ⟨Hv, fp, ρ, r, k, h1, ?_⟩
  cases r with
  | xc x ρ1 => cases e1; exact fun d H' Hv' fp' f' k' x => p d σ H' Hv' fp' f' k' x
  | ok t ρ1 =>
    intro v H1 Hv1 fp1 ft f1 k1 t1
    simp only at e1
    obtain ⟨q, h2, e1⟩ := bind_some2 e1
    split at e1
    · rename_i C' ns ts hn
      split at e1
      · rename_i hc
        obtain ⟨rfl, hl⟩ := hc
        cases e1
        refine hold k1 f1.w t1 h2 fun v0 v' H2 Hv2 k2 w2 f2 t2 h0 ha => ?_
        obtain ⟨a, vs, rfl, ob, le, put⟩ := k2.put w2 hn rfl h0 ha
        cases ob with
        | @ins _ dx fs hi =>
          have tp : Tpl K H2 (upd H2 a (.ins C' dx (putF f v fs))) := tpl_upd hi rfl
          refine ⟨a, C', dx, fs, rfl, hi, c, na, by simpa using hl, ?_⟩
          have key : ∃ fp2 t0, ρ1[q.1]? = some t0 ∧ OkT K O s0 σ (ρ1.set q.1 (putT t0 q.2 (putN C' f t (fs.map (·.1)) ts))) (upd H2 a (.ins C' dx (putF f v fs))) Hv2 fp2 ∧ Frm H2 Hv2 (ft ++ fp1) (upd H2 a (.ins C' dx (putF f v fs))) Hv2 fp2 := by
            unfold putN
            cases hj : (fs.map (·.1)).idxOf? f with
            | some j =>
              obtain ⟨g1, g2⟩ := putF_some (v := v) hj
              refine put (.ins C' dx (putF f v fs)) (.ins C' (fs.map (·.1))) (ts.set j t) ((fs.map (·.2)).set j v) rfl rfl (by rw [← g1, ← g2]; exact .ins upd_same) fun fc r n1 n2 => ?_
              have hjl : j < ts.length := by
                rw [← le]
                obtain ⟨_, _, l2⟩ := lookup_idx hj
                exact (List.getElem?_eq_some_iff.mp l2).1
              exact (r.upd tp n1).setq hjl (t2.upd tp n2)
            | none =>
              obtain ⟨g1, g2⟩ := putF_none (v := v) hj
              refine put (.ins C' dx (putF f v fs)) (.ins C' (fs.map (·.1) ++ [f])) (ts ++ [t]) (fs.map (·.2) ++ [v]) rfl rfl (by rw [← g1, ← g2]; exact .ins upd_same) fun fc r n1 n2 => ?_
              exact (r.upd tp n1).snocq (t2.upd tp n2)
          obtain ⟨fp2, t0, e0, k3, f3⟩ := key
          have es : setAt ρ1 q (putN C' f t (fs.map (·.1)) ts) = ρ1.set q.1 (putT t0 q.2 (putN C' f t (fs.map (·.1)) ts)) := by
            unfold setAt
            rw [List.getD_eq_getElem?_getD, e0]; rfl
          rw [es] at p
          exact p σ _ _ fp2 ((f1.trans f2).trans f3) k3
      · cases e1
    · cases e1
end
end PO
namespace PO
open PySem L2 PD
/-! ### arguments: pure expressions, slots lent -/
inductive Arg where
  | e (g : EnT → Option T)
  | b (i : Nat)
inductive Av where
  | t (t : T)
  | b (i : Nat)
def argsA : List Arg → EnT → Option (List Av)
  | [], _ => some []
  | .e g :: r, ρ => (g ρ).bind fun t => (argsA r ρ).map (.t t :: ·)
  | .b i :: r, ρ => (nV i ρ).bind fun _ => (argsA r ρ).map (.b i :: ·)
inductive ATs (K : PySem.W.Frag) (Hv H : Hp) (σ : St) : List V → List Av → List Addr → Prop
  | nil : ATs K Hv H σ [] [] []
  | t {v : V} {t : T} {vs : List V} {xs : List Av} {f fs : List Addr} : Tn K Hv H v t f → ATs K Hv H σ vs xs fs → ATs K Hv H σ (v :: vs) (.t t :: xs) (f ++ fs)
  | b {v : V} {i : Nat} {vs : List V} {xs : List Av} {fs : List Addr} : σ[i]? = some (some v) → ATs K Hv H σ vs xs fs → ATs K Hv H σ (v :: vs) (.b i :: xs) fs
/-- the trees that are handed over; the slots behind it -/
def lend : List Av → EnT → Option (List T × EnT)
  | [], ρ => some ([], ρ)
  | .t t :: r, ρ => (lend r ρ).map fun q => (t :: q.1, q.2)
  | .b i :: r, ρ => match ρ[i]? with
    | some .dead => none
    | some t => (lend r (ρ.set i .dead)).map fun q => (t :: q.1, q.2)
    | none => none
/-- the slots take back what is left -/
def back : List Av → List T → EnT → EnT
  | .b i :: r, t :: ts, ρ => back r ts (ρ.set i t)
  | .t _ :: r, _ :: ts, ρ => back r ts ρ
  | _, _, ρ => ρ
section
variable (K : PySem.W.Frag) (O : List Nat) (s0 : St)
def rdA (as : List Arg) : TA := fun σ H Q => ∃ Hv fp ρ xs, OkT K O s0 σ ρ H Hv fp ∧ argsA as ρ = some xs ∧ ∀ vs H' Hv' ft, Frm H Hv fp H' Hv' (ft ++ fp) → (∀ a ∈ fp, H' a = H a) → ATs K Hv' H' σ vs xs ft → Q vs H'
end
section
variable {K : PySem.W.Frag} {O : List Nat} {s0 : St} {W : WX} {σ : St} {H Hv H' Hv' H1 Hv1 : Hp} {fp fp' fp1 fr ft : List Addr} {ρ : EnT} {Q : VK} {QA : List V → Hp → Prop}
theorem ATs.keep (sv : Same Hv Hv') (tp : Tpl K H H') : ∀ {vs : List V} {xs : List Av} {fp : List Addr}, ATs K Hv H σ vs xs fp → (∀ a ∈ fp, H' a = H a) → ATs K Hv' H' σ vs xs fp
  | _, _, _, .nil, _ => .nil
  | _, _, _, .t h r, e => .t (h.keep sv tp fun a ha => e a (List.mem_append_left _ ha)) (ATs.keep sv tp r fun a ha => e a (List.mem_append_right _ ha))
  | _, _, _, .b h r, e => .b h (ATs.keep sv tp r e)
theorem ra_nil (h : rdA K O s0 [] σ H QA) : tNil σ H QA := by
  obtain ⟨Hv, fp, ρ, r, k, e, p⟩ := h
  cases e
  exact p [] H Hv [] (.refl k.w) (fun _ _ => rfl) .nil
theorem ra_e {g : EnT → Option T} {as : List Arg} (h : rdA K O s0 (.e g :: as) σ H QA) : tCons (rdP K O s0 g) (rdA K O s0 as) σ H QA := by
  obtain ⟨Hv, fp, ρ, r, k, e, p⟩ := h
  simp only [argsA] at e
  obtain ⟨t, h1, e⟩ := bind_some2 e
  cases h2 : argsA as ρ with
  | none => rw [h2] at e; cases e
  | some ts =>
    rw [h2] at e
    cases e
    refine ⟨Hv, fp, ρ, t, k, h1, fun v H1 Hv1 ft1 f1 st1 t1 => ?_⟩
    have fd : Frm H Hv fp H1 Hv1 fp := f1.trans (.drop f1.w (fun a h => List.mem_append_right _ h) k.w.nd)
    have k1 := k.go fd st1
    refine ⟨Hv1, fp, ρ, ts, k1, h2, fun vs H' Hv' ft2 f2 st2 t2 => ?_⟩
    have f3 := f2.add f1.w
    have kp := f2.keep f1.w
    rw [← List.append_assoc] at f3
    exact p (v :: vs) H' Hv' (ft1 ++ ft2) (f1.trans f3) (fun a ha => by rw [st2 a ha, st1 a ha]) (.t (t1.keep f2.b (f2.tpl k1.w) kp) t2)
theorem ra_b {i : Nat} {as : List Arg} (h : rdA K O s0 (.b i :: as) σ H QA) : tCons (tVar i) (rdA K O s0 as) σ H QA := by
  obtain ⟨Hv, fp, ρ, r, k, e, p⟩ := h
  simp only [argsA] at e
  obtain ⟨q, h1, e⟩ := bind_some2 e
  cases h2 : argsA as ρ with
  | none => rw [h2] at e; cases e
  | some ts =>
    rw [h2] at e
    cases e
    have hv : ∃ v, σ[i]? = some (some v) := by
      unfold nV at h1
      cases h3 : ρ[i]? with
      | none => rw [h3] at h1; cases h1
      | some t =>
        obtain ⟨_, _, _, _, c, _⟩ := k.es.at h3
        rcases c with ⟨rfl, _⟩ | ⟨v, a, _⟩
        · rw [h3] at h1; cases h1
        · exact ⟨v, a⟩
    obtain ⟨v, hv⟩ := hv
    exact ⟨v, hv, Hv, fp, ρ, ts, k, h2, fun vs H' Hv' ft f st t2 => p (v :: vs) H' Hv' ft f st (.b hv t2)⟩
/-- lending: nothing is lost -/
theorem lend_ok : ∀ {vs : List V} {xs : List Av} {ft fp : List Addr} {ρ : EnT} {ts : List T} {ρ1 : EnT}, ATs K Hv H σ vs xs ft → Es K Hv H σ ρ fp → lend xs ρ = some (ts, ρ1) →
    ∃ fa fr, Tns K Hv H vs ts fa ∧ Es K Hv H σ ρ1 fr ∧ List.Perm (fa ++ fr) (ft ++ fp)
  | _, _, _, fp, ρ, _, _, .nil, s, e => by
    cases e
    exact ⟨[], fp, .nil, s, .refl _⟩
  | _, _, _, fp, ρ, ts, ρ1, .t (f := f) (fs := fs) (xs := xs) h r, s, e => by
    simp only [lend] at e
    cases e1 : lend xs ρ with
    | none => rw [e1] at e; cases e
    | some q =>
      rw [e1] at e
      cases e
      obtain ⟨fa, fr, g1, g2, g3⟩ := lend_ok r s e1
      refine ⟨f ++ fa, fr, .cons h g1, g2, ?_⟩
      rw [List.append_assoc, List.append_assoc]
      exact g3.append_left f
  | _, _, _, fp, ρ, ts, ρ1, .b (i := i) (v := v) (xs := xs) (fs := fs) hv r, s, e => by
    simp only [lend] at e
    cases h3 : ρ[i]? with
    | none => rw [h3] at e; cases e
    | some t =>
      rw [h3] at e
      obtain ⟨fl, fc, fr', e1, c, _, k2⟩ := s.at h3
      rcases c with ⟨rfl, _⟩ | ⟨v', a, b⟩
      · cases e
      · rw [hv] at a
        cases a
        have s2 := k2 Hv H (.refl _) (fun _ _ h => h) (fun _ _ => rfl) (fun _ _ => rfl)
        have nt : ∃ q, lend xs (ρ.set i .dead) = some q ∧ (ts, ρ1) = (t :: q.1, q.2) := by
          have gen : ∀ {o : Option (List T × EnT)}, (o.map fun q => (t :: q.1, q.2)) = some (ts, ρ1) → ∃ q, o = some q ∧ (ts, ρ1) = (t :: q.1, q.2) := fun {o} h => by
            cases o with
            | none => cases h
            | some q => cases h; exact ⟨q, rfl, rfl⟩
          cases t with
          | dead => cases e
          | fr d => exact gen e
          | nd kd ts' => exact gen e
        obtain ⟨q, e2, e3⟩ := nt
        cases e3
        obtain ⟨fa, fr, g1, g2, g3⟩ := lend_ok r s2 e2
        refine ⟨fc ++ fa, fr, .cons b g1, g2, ?_⟩
        subst e1
        have : (fc ++ fa ++ fr).Perm (fc ++ (fs ++ (fl ++ fr'))) := by rw [List.append_assoc]; exact g3.append_left fc
        refine this.trans ?_
        rw [List.perm_iff_count]
        intro x
        simp only [List.count_append]
        omega
/-- taking back -/
theorem back_ok : ∀ {vs : List V} {xs : List Av} {ft fa fr : List Addr} {ρ : EnT} {ts : List T}, ATs K Hv1 H1 σ vs xs ft → Tns K Hv H vs ts fa → OkT K O s0 σ ρ H Hv fr → Wf H Hv (fa ++ fr) → (∀ i, .b i ∈ xs → i < ρ.length) →
    ∃ fp2, OkT K O s0 σ (back xs ts ρ) H Hv fp2 ∧ ∀ a ∈ fp2, a ∈ fa ++ fr
  | _, _, _, _, fr, ρ, _, .nil, .nil, k, w, _ => ⟨fr, k, fun a h => h⟩
  | _, _, _, _, fr, ρ, _, .t _ r, .cons (fp := f) (fps := fs) _ q, k, w, hl => by
    have w2 : Wf H Hv (fs ++ fr) := w.sub (fun a h => by simp only [List.mem_append] at h ⊢; rcases h with h | h <;> simp [h]) (by rw [List.append_assoc] at w; exact (List.nodup_append.mp w.nd).2.1)
    obtain ⟨fp2, k2, s2⟩ := back_ok r q k w2 fun i hi => hl i (List.mem_cons_of_mem _ hi)
    exact ⟨fp2, k2, fun a h => by rw [List.append_assoc]; exact List.mem_append_right _ (s2 a h)⟩
  | _, _, _, _, fr, ρ, _, .b (i := i) (v := v) hv r, .cons (fp := f) (fps := fs) (t := t) b q, k, w, hl => by
    have hil := hl i (List.mem_cons_self ..)
    rw [List.append_assoc] at w
    obtain ⟨fl, fc, fr', e1, _, k1, _⟩ := k.es.at (List.getElem?_eq_getElem hil)
    have es := k1 Hv H v t f (.refl _) (fun _ _ h => h) (fun _ _ => rfl) (fun _ _ => rfl) b
    have se : σ.set i (some v) = σ := by
      apply List.ext_getElem?
      intro n
      by_cases hn : i = n
      · subst hn
        rw [List.getElem?_set_self (by rcases List.getElem?_eq_some_iff.mp hv with ⟨h, _⟩; exact h), hv]
      · rw [List.getElem?_set_ne hn]
    rw [se] at es
    subst e1
    have sub : ∀ a ∈ fs ++ (fl ++ (f ++ fr')), a ∈ f ++ (fs ++ (fl ++ (fc ++ fr'))) := fun a h => by
      simp only [List.mem_append] at h ⊢
      rcases h with h | h | h | h <;> simp [h]
    have nd : (fs ++ (fl ++ (f ++ fr'))).Nodup := by
      have s : (f ++ (fs ++ (fl ++ fr'))).Sublist (f ++ (fs ++ (fl ++ (fc ++ fr')))) := ((List.sublist_append_right fc fr').append_left fl |>.append_left fs).append_left f
      have p : (f ++ (fs ++ (fl ++ fr'))).Perm (fs ++ (fl ++ (f ++ fr'))) := by
        rw [List.perm_iff_count]
        intro x
        simp only [List.count_append]
        omega
      exact p.nodup_iff.mp (s.nodup w.nd)
    have w2 : Wf H Hv (fs ++ (fl ++ (f ++ fr'))) := w.sub sub nd
    have kk : OkT K O s0 σ (ρ.set i t) H Hv (fl ++ (f ++ fr')) := ⟨es, w2.sub (fun a h => List.mem_append_right _ h) (List.nodup_append.mp nd).2.1, k.pin⟩
    obtain ⟨fp2, k2, s2⟩ := back_ok r q kk w2 fun j hj => by rw [List.length_set]; exact hl j (List.mem_cons_of_mem _ hj)
    exact ⟨fp2, k2, fun a h => by rw [List.append_assoc]; exact sub a (s2 a h)⟩
end
end PO
namespace PO
open PySem L2 PD
/-! ### a def's promise over trees, its call -/
inductive RT where
  | ok (ts : List T) (t : T)
  | xc (ts : List T) (e : Xn)
def PoT (K : PySem.W.Frag) (vs : List V) (H Hv : Hp) (fp : List Addr) (Q : VK) (E : XK) : RT → Prop
  | .ok ts t => ∀ v H' Hv' fp' ft, Frm H Hv fp H' Hv' (ft ++ fp') → Tns K Hv' H' vs ts fp' → Tn K Hv' H' v t ft → Q v H'
  | .xc ts e => ∀ d H' Hv' fp', Frm H Hv fp H' Hv' fp' → Tns K Hv' H' vs ts fp' → XR Hv' H' K d e → E (.ref e.c) d H'
def spT (K : PySem.W.Frag) (f : List T → Option RT) : Sp := fun vs H Q E => ∃ Hv fp ts r, Wf H Hv fp ∧ Tns K Hv H vs ts fp ∧ f ts = some r ∧ PoT K vs H Hv fp Q E r
def callR (xs : List Av) (ρ : EnT) : RT → Rx
  | .ok ts t => .ok t (back xs ts ρ)
  | .xc ts e => .xc e (back xs ts ρ)
def xCall (f : List T → Option RT) (as : List Arg) (ρ : EnT) : Option Rx := (argsA as ρ).bind fun xs => (lend xs ρ).bind fun q => (f q.1).map fun r => callR xs q.2 r
section
variable {K : PySem.W.Frag} {O : List Nat} {s0 : St} {W : WX} {σ : St} {H Hv H' Hv' H1 Hv1 : Hp} {fp fp' fp1 fr ft : List Addr} {ρ : EnT} {Q : VK} {QA : List V → Hp → Prop}
theorem ats_at : ∀ {vs : List V} {xs : List Av} {fp : List Addr}, ATs K Hv H σ vs xs fp → ∀ i, .b i ∈ xs → ∃ v, σ[i]? = some (some v)
  | _, _, _, .nil, i, h => by cases h
  | _, _, _, .t _ r, i, h => by
    cases h with
    | tail _ h => exact ats_at r i h
  | _, _, _, .b hv r, i, h => by
    cases h with
    | head => exact ⟨_, hv⟩
    | tail _ h => exact ats_at r i h
/-- a call, its arguments being there -/
theorem call_go {f : List T → Option RT} {xs : List Av} {vs : List V} {q : List T × EnT} {r : RT} (k1 : OkT K O s0 σ ρ H1 Hv1 fp) (w1 : Wf H1 Hv1 (ft ++ fp)) (ats : ATs K Hv1 H1 σ vs xs ft) (h2 : lend xs ρ = some q) (h3 : f q.1 = some r)
    (p : PoE K O s0 W σ H1 Hv1 (ft ++ fp) Q (callR xs q.2 r)) : spT K f vs H1 Q (WE W σ) := by
  obtain ⟨fa, fr, tns, es, pm⟩ := lend_ok ats k1.es h2
  have wfr : Wf H1 Hv1 (fr ++ fa) := w1.sub (fun a h => pm.mem_iff.mp (by simp only [List.mem_append] at h ⊢; exact h.symm)) (List.perm_append_comm.nodup_iff.mp (pm.nodup_iff.mpr w1.nd))
  have fA : Frm H1 Hv1 (ft ++ fp) H1 Hv1 (fr ++ fa) := .drop w1 (fun a h => pm.mem_iff.mp (by simp only [List.mem_append] at h ⊢; exact h.symm)) wfr.nd
  have wa : Wf H1 Hv1 fa := wfr.sub (fun a h => List.mem_append_right _ h) (List.nodup_append.mp wfr.nd).2.1
  have hl : ∀ i, Av.b i ∈ xs → i < q.2.length := fun i hi => by
    obtain ⟨v, hv⟩ := ats_at ats i hi
    rw [← es.length]
    exact (List.getElem?_eq_some_iff.mp hv).1
  refine ⟨Hv1, fa, q.1, r, wa, tns, h3, ?_⟩
  cases r with
  | ok ts t =>
    intro v H' Hv' fp' ft' f2 tns2 tv
    have f3 := f2.add wfr
    have kp := f2.keep wfr
    have es2 := es.keep f2.b (f2.tpl wa) kp
    have w3 := f3.w
    have wr : Wf H' Hv' (fp' ++ fr) := w3.sub (fun a h => by simp only [List.mem_append] at h ⊢; rcases h with h | h <;> simp [h]) (by
      have := w3.nd
      rw [List.nodup_append] at this
      have n2 := (List.nodup_append.mp this.2.1).2.1
      exact List.nodup_append.mpr ⟨n2, this.1, fun a ha b hb e => this.2.2 b hb a (List.mem_append_right _ ha) e.symm⟩)
    have kk : OkT K O s0 σ q.2 H' Hv' fr := ⟨es2, wr.sub (fun a h => List.mem_append_right _ h) (List.nodup_append.mp wr.nd).2.1, k1.pin⟩
    obtain ⟨fp2, k2, s2⟩ := back_ok ats tns2 kk wr hl
    have nd2 : (ft' ++ fp2).Nodup := by
      have n := w3.nd
      rw [List.nodup_append] at n
      have n2 := List.nodup_append.mp n.2.1
      refine List.nodup_append.mpr ⟨n2.1, k2.w.nd, fun a ha b hb e => ?_⟩
      subst e
      rcases List.mem_append.mp (s2 a hb) with h | h
      · exact n2.2.2 a ha a h rfl
      · exact n.2.2 a h a (List.mem_append_left _ ha) rfl
    refine p v H' Hv' fp2 ft' ((fA.trans f3).trans (.drop w3 (fun a h => ?_) nd2)) k2 tv
    simp only [List.mem_append] at h ⊢
    rcases h with h | h
    · exact .inr (.inl h)
    · rcases List.mem_append.mp (s2 a h) with h | h
      · exact .inr (.inr h)
      · exact .inl h
  | xc ts x =>
    intro d H' Hv' fp' f2 tns2 xr
    have f3 := f2.add wfr
    have kp := f2.keep wfr
    have es2 := es.keep f2.b (f2.tpl wa) kp
    have w3 := f3.w
    have wr : Wf H' Hv' (fp' ++ fr) := w3.sub (fun a h => by simp only [List.mem_append] at h ⊢; exact h.symm) (List.perm_append_comm.nodup_iff.mp w3.nd)
    have kk : OkT K O s0 σ q.2 H' Hv' fr := ⟨es2, wr.sub (fun a h => List.mem_append_right _ h) (List.nodup_append.mp wr.nd).2.1, k1.pin⟩
    obtain ⟨fp2, k2, s2⟩ := back_ok ats tns2 kk wr hl
    refine p d H' Hv' fp2 ((fA.trans f3).trans (.drop w3 (fun a h => ?_) k2.w.nd)) k2 xr
    have := s2 a h
    simp only [List.mem_append] at this ⊢
    exact this.symm
theorem PoE.trans (f : Frm H Hv fp H1 Hv1 fp1) : ∀ {r : Rx}, PoE K O s0 W σ H Hv fp Q r → PoE K O s0 W σ H1 Hv1 fp1 Q r
  | .ok _ _, p => fun v H' Hv' fp' ft f' k t => p v H' Hv' fp' ft (f.trans f') k t
  | .xc _ _, p => PoX.trans f p
theorem rx_call {f : List T → Option RT} {as : List Arg} (h : rdX K O s0 W (xCall f as) σ H Q) : tCallS (spT K f) (WE W) (rdA K O s0 as) σ H Q := by
  obtain ⟨Hv, fp, ρ, r0, k, e, p⟩ := h
  obtain ⟨xs, h1, e⟩ := bind_some2 e
  obtain ⟨q, h2, e⟩ := bind_some2 e
  cases h3 : f q.1 with
  | none => rw [h3] at e; cases e
  | some r =>
    rw [h3] at e
    cases e
    refine ⟨Hv, fp, ρ, xs, k, h1, fun vs H1 Hv1 ft f1 st ats => ?_⟩
    have fd : Frm H Hv fp H1 Hv1 fp := f1.trans (.drop f1.w (fun a h => List.mem_append_right _ h) k.w.nd)
    exact call_go (k.go fd st) f1.w ats h2 h3 (PoE.trans f1 p)
end
end PO
namespace PO
open PySem L2 PD
/-! ### a def by its body -/
def T.kp : T → T
  | .fr d => .fr d
  | _ => .dead
/-- what is left of the arguments: the slots O as they stand, frozen data -/
def outs (O : List Nat) : Nat → List T → EnT → List T
  | i, t :: ts, r :: ρ => (if i ∈ O then r else t.kp) :: outs O (i + 1) ts ρ
  | i, t :: ts, [] => t.kp :: outs O (i + 1) ts []
  | _, [], _ => []
def outR (O : List Nat) (ts : List T) : OutT → Option RT
  | .nx ρ => some (.ok (outs O 0 ts ρ) (.fr .non))
  | .rt t ρ => some (.ok (outs O 0 ts ρ) t)
  | .xc e ρ => some (.xc (outs O 0 ts ρ) e)
  | _ => none
def startT (n : Nat) (ts : List T) : EnT := ts ++ List.replicate (n - ts.length) .dead
def fnR (O : List Nat) (m n : Nat) (F : EnT → Option OutT) (ts : List T) : Option RT := if ts.length = m then (F (startT n ts)).bind (outR O ts) else none
section
variable {K : PySem.W.Frag} {O : List Nat} {Hv H Hv' H' : Hp}
theorem outs_ok : ∀ {vs : List V} {ts : List T} {fp : List Addr} {σ : St} {ρ : EnT} {fp' : List Addr} {i : Nat}, Tns K Hv H vs ts fp → Es K Hv' H' σ ρ fp' → Same Hv Hv' →
    (∀ j v, i + j ∈ O → vs[j]? = some v → σ[j]? = some (some v)) → ∃ fo, Tns K Hv' H' vs (outs O i ts ρ) fo ∧ fo.Sublist fp'
  | _, _, _, σ, ρ, fp', i, .nil, es, sv, hp => ⟨[], by cases ρ <;> exact .nil, List.nil_sublist _⟩
  | _, _, _, _, _, _, i, .cons (v := v) (t := t) (ts := ts) h r, .nil, sv, hp => by
    obtain ⟨fo, q, s⟩ := outs_ok (i := i + 1) r (Es.nil (K := K) (Hv := Hv') (H := H')) sv (fun j u hj hu => by have := hp (j + 1) u (by rw [show i + (j + 1) = i + 1 + j by omega]; exact hj) (by simpa using hu); simpa using this)
    have hd : Tn K Hv' H' v t.kp [] := by
      cases h with
      | dead => exact .dead _
      | fr x => exact .fr (x.mono sv)
      | nd => exact .dead _
    exact ⟨[] ++ fo, .cons hd q, s⟩
  | _, _, _, _, _, _, i, .cons (v := v) (t := t) (ts := ts) h r, .dead (ρ := ρ) es, sv, hp => by
    obtain ⟨fo, q, s⟩ := outs_ok (i := i + 1) r es sv (fun j u hj hu => by have := hp (j + 1) u (by rw [show i + (j + 1) = i + 1 + j by omega]; exact hj) (by simpa using hu); simpa using this)
    have hd : Tn K Hv' H' v (if i ∈ O then .dead else t.kp) [] := by
      split
      · exact .dead _
      · cases h with
        | dead => exact .dead _
        | fr x => exact .fr (x.mono sv)
        | nd => exact .dead _
    exact ⟨[] ++ fo, .cons hd q, s⟩
  | _, _, _, _, _, _, i, .cons (v := v) (t := t) (ts := ts) h r, .cons (v := v0) (t := t0) (f := f) (ρ := ρ) g es, sv, hp => by
    obtain ⟨fo, q, s⟩ := outs_ok (i := i + 1) r es sv (fun j u hj hu => by have := hp (j + 1) u (by rw [show i + (j + 1) = i + 1 + j by omega]; exact hj) (by simpa using hu); simpa using this)
    by_cases hi : i ∈ O
    · have e := hp 0 v (by simpa using hi) rfl
      simp only [List.getElem?_cons_zero, Option.some.injEq] at e
      subst e
      refine ⟨f ++ fo, ?_, s.append_left f⟩
      simp only [outs, if_pos hi]
      exact .cons g q
    · have hd : Tn K Hv' H' v t.kp [] := by
        cases h with
        | dead => exact .dead _
        | fr x => exact .fr (x.mono sv)
        | nd => exact .dead _
      refine ⟨[] ++ fo, ?_, s.trans (List.sublist_append_right _ _)⟩
      simp only [outs, if_neg hi]
      exact .cons hd q
theorem es_dead : ∀ k : Nat, Es K Hv H (List.replicate k none) (List.replicate k .dead) []
  | 0 => .nil
  | k + 1 => .dead (es_dead k)
theorem es_start {k : Nat} : ∀ {vs : List V} {ts : List T} {fp : List Addr}, Tns K Hv H vs ts fp → Es K Hv H (vs.map some ++ List.replicate k none) (ts ++ List.replicate k .dead) fp
  | _, _, _, .nil => es_dead k
  | _, _, _, .cons h r => .cons h (es_start r)
end
section
variable {P : Program} {w : World} {K : PySem.W.Frag} {mg : Str → Option Value} {base : Heap}
theorem fnT {x qual : Str} {st : Stmt} {f : Addr} {fd : FuncData} {N ps : List Str} {k : Nat} {O : List Nat} {F : EnT → Option OutT} {m n : Nat} (G : Fun K x qual st f fd) (S : FnScope N ps (defScope st)) (hm : ps.length = m) (hn : N.length = n) (hps : m ≤ n) (ho : ∀ i ∈ O, i < m)
    (hb : ∀ (cdv : Value) (A : Around) (outer : List Env) (s : Shared) (H : Hp) (vs : List V) (E : XK), Room k (A.deeper (PyProof.Rows.envOfC qual (defScope st) s.heap.objs.size f cdv)) → PSs (cxOf (L2.CX P w) P w K mg base N qual (defScope st) f cdv A outer s H E) (defBody st) (rdU K O (L2.start N vs) (fun c d _ H' => E c d H') F)) :
    FnOk P w K mg base (L2.CX P w) (k + 1) f fd ps (spT K (fnR O m n F)) := by
  subst hm hn
  refine G.okX S (fun vs H Q E h => ?_) (fun cdv A outer s H vs Q E hr h => ?_)
  · obtain ⟨Hv, fp, ts, r, wf, tn, e, _⟩ := h
    unfold fnR at e
    split at e
    · rename_i l; rw [tn.length, l]
    · cases e
  · obtain ⟨Hv, fp, ts, r, wf, tn, e, q⟩ := h
    unfold fnR at e
    split at e
    case isFalse => cases e
    rename_i l
    obtain ⟨o, e1, e2⟩ := bind_some2 e
    refine ⟨_, hb cdv A outer s H vs E hr, ?_⟩
    have vl : vs.length = ts.length := tn.length
    have es : Es K Hv H (L2.start N vs) (startT N.length ts) fp := by
      unfold L2.start startT
      rw [vl]
      exact es_start tn
    have k0 : OkT K O (L2.start N vs) (L2.start N vs) (startT N.length ts) H Hv fp := ⟨es, wf, fun _ _ => rfl⟩
    -- what is left of the arguments
    have lft : ∀ {σ' : L2.St} {ρ : EnT} {H' Hv' : Hp} {fp' : List Addr}, Same Hv Hv' → OkT K O (L2.start N vs) σ' ρ H' Hv' fp' → ∃ fo, Tns K Hv' H' vs (outs O 0 ts ρ) fo ∧ fo.Sublist fp' := by
      intro σ' ρ H' Hv' fp' sv k'
      refine outs_ok tn k'.es sv fun j v hj hv => ?_
      rw [Nat.zero_add] at hj
      rw [k'.pin j hj]
      unfold L2.start
      have hlt : j < vs.length := (List.getElem?_eq_some_iff.mp hv).1
      rw [List.getElem?_append_left (by simpa using hlt), List.getElem?_map, hv]
      rfl
    refine ⟨Hv, fp, _, o, k0, e1, ?_⟩
    cases o with
    | nx ρ =>
      cases e2
      intro σ' H' Hv' fp' f' k'
      obtain ⟨fo, t1, s1⟩ := lft f'.b k'
      exact q .non H' Hv' fo [] (f'.trans (.drop k'.w (fun a h => s1.mem h) (s1.nodup k'.w.nd))) t1 (.fr .non)
    | rt t ρ =>
      cases e2
      intro v σ' H' Hv' fp' ft f' k' tv
      obtain ⟨fo, t1, s1⟩ := lft f'.b k'
      exact q v H' Hv' fo ft (f'.trans (.drop f'.w (fun a h => (s1.append_left ft).mem h) ((s1.append_left ft).nodup f'.w.nd))) t1 tv
    | xc x ρ =>
      cases e2
      intro d σ' H' Hv' fp' f' k' xr
      obtain ⟨fo, t1, s1⟩ := lft f'.b k'
      exact q d H' Hv' fo (f'.trans (.drop k'.w (fun a h => s1.mem h) (s1.nodup k'.w.nd))) t1 xr
    | bk ρ => cases e2
    | ct ρ => cases e2
end
end PO
namespace PO
open PySem L2 PD
/-! ### lists at a place -/
section
variable {K : PySem.W.Frag} {O : List Nat} {s0 : St} {W : WX} {σ : St} {H Hv H' Hv' H1 Hv1 H2 Hv2 : Hp} {fp fp' fp1 fr ft : List Addr} {ρ : EnT} {Q : VK} {D' : Ends}
theorem Tn.at_keep (tp : Tpl K H H2) : ∀ {ps : List Nat} {v v' : V} {t t' : T} {fp : List Addr}, Tn K Hv H v t fp → subT t ps = some t' → At K H v ps v' → (∀ a ∈ fp, H2 a = H a) → At K H2 v ps v'
  | [], v, v', t, t', fp, h, e, x, st => by cases x; exact .nil _
  | j :: ps, _, v', _, t', _, .dead _, e, x, st => by simp [subT] at e
  | j :: ps, _, v', _, t', _, .fr _, e, x, st => by simp [subT] at e
  | j :: ps, _, v', _, t', _, .nd (a := a) (k := k) (vs := vs) (ts := ts) (fp := fp) o r, e, x, st => by
    simp only [subT] at e
    obtain ⟨c, e1, e2⟩ := bind_some2 e
    cases x with
    | cons o' g' y =>
      obtain ⟨rfl, rfl⟩ := o.uniq o'
      obtain ⟨w, fl, fc, fr, g1, g2, g3, _⟩ := Tns.at r e1
      rw [g1] at g'
      cases g'
      subst g2
      have st' : ∀ b, b ∈ fl ++ (fc ++ fr) → H2 b = H b := fun b hb => st b (by unfold own1; split; exact List.mem_cons_of_mem _ hb; exact hb)
      have o2 : Ob K H2 a k vs := o.keep tp fun m => st a (by unfold own1; rw [if_pos m]; exact List.mem_cons_self ..)
      exact .cons o2 g1 (Tn.at_keep tp g3 e2 y fun b hb => st' b (by simp [hb]))
theorem OkT.at_keep {p : Nat × List Nat} {t : T} {v0 v' : V} (k : OkT K O s0 σ ρ H Hv fp) (e : nodeAt ρ p = some t) (h0 : σ[p.1]? = some (some v0)) (ha : At K H v0 p.2 v') (nd : t ≠ .dead) (tp : Tpl K H H2) (st : ∀ a ∈ fp, H2 a = H a) : At K H2 v0 p.2 v' := by
  unfold nodeAt at e
  obtain ⟨t0, h1, e⟩ := bind_some2 e
  obtain ⟨fl, fc, fr', e1, c, _, _⟩ := k.es.at h1
  subst e1
  rcases c with ⟨rfl, _⟩ | ⟨v, a, b⟩
  · cases hp : p.2 with
    | nil => rw [hp] at e; simp only [subT, Option.some.injEq] at e; exact absurd e.symm nd
    | cons j ps => rw [hp] at e; simp [subT] at e
  · rw [h0] at a
    cases a
    exact b.at_keep tp e ha fun b hb => st b (by simp [hb])
def uApp (n : EnT → Option (Nat × List Nat)) (g : EnT → Option T) (ρ : EnT) : Option OutT := (n ρ).bind fun p => match nodeAt ρ p with
  | some (.nd .lst ts) => if okLen ts.length then (g ρ).map fun t => .nx (setAt ρ p (.nd .lst (ts ++ [t]))) else none
  | _ => none
/-- the reading of a method that changes a list, one pure argument -/
theorem ru_app {n : EnT → Option (Nat × List Nat)} {g : EnT → Option T} (h : rdU K O s0 W (uApp n g) D' σ H) :
    tDrop (tBM K "list" rAppend (rdN K O s0 n) (tCons (rdP K O s0 g) tNil)) D' σ H := by
  obtain ⟨Hv, fp, ρ, o, k, e, p⟩ := h
  obtain ⟨q, h1, e⟩ := bind_some2 e
  split at e
  · rename_i ts hn
    split at e
    · rename_i hl
      cases h2 : g ρ with
      | none => rw [h2] at e; cases e
      | some t =>
        rw [h2] at e
        cases e
        refine ⟨Hv, fp, ρ, q.1, q.2, k, h1, fun v0 v' H1 Hv1 f1 st1 h0 ha => ?_⟩
        have k1 := k.go f1 st1
        have nd : (T.nd .lst ts) ≠ .dead := fun e => by cases e
        obtain ⟨a, vs, ev, ob, le, _⟩ := k1.put (ft := []) k1.w hn rfl h0 ha
        subst ev
        cases ob with
        | lst hi =>
          refine ⟨.inl ⟨rfl, _, SqL.of hi⟩, Hv1, fp, ρ, t, k1, h2, fun v H2 Hv2 ft f2 st2 t2 => ?_⟩
          have k2 : OkT K O s0 σ ρ H2 Hv2 fp := k1.go (f2.trans (.drop f2.w (fun a h => List.mem_append_right _ h) k1.w.nd)) st2
          have ha2 := k1.at_keep hn h0 ha nd (f2.tpl k1.w) st2
          obtain ⟨a2, vs2, ev, ob2, le2, put⟩ := k2.put f2.w hn rfl h0 ha2
          cases ev
          cases ob2 with
          | lst hi2 =>
            refine ⟨a, vs2, v, rfl, rfl, hi2, by rw [le2]; exact okLen_lt hl, ?_⟩
            have tp : Tpl K H2 (upd H2 a (.lst (vs2 ++ [v]))) := tpl_upd hi2 rfl
            obtain ⟨fp2, t0, e0, k3, f3⟩ := put (.lst (vs2 ++ [v])) .lst (ts ++ [t]) (vs2 ++ [v]) rfl rfl (.lst upd_same) fun fc r n1 n2 => (r.upd tp n1).snocq (t2.upd tp n2)
            have es : setAt ρ q (.nd .lst (ts ++ [t])) = ρ.set q.1 (putT t0 q.2 (.nd .lst (ts ++ [t]))) := by
              unfold setAt
              rw [List.getD_eq_getElem?_getD, e0]; rfl
            replace p : PoU K O s0 W H Hv fp D' (.nx (setAt ρ q (.nd .lst (ts ++ [t])))) := p
            rw [es] at p
            exact p σ _ _ fp2 ((f1.trans f2).trans f3) k3
    · cases e
  · cases e
end
end PO
namespace PO
open PySem L2 PD
/-! ### dicts at a place: d[k] = v -/
def keyD : D → Option Key
  | .int i => some (.inl i)
  | .str x => some (.inr x)
  | _ => none
def idxK (key : Key) : List Key → Option Nat
  | [] => none
  | k :: ks => if k = key then some 0 else (idxK key ks).map (· + 1)
def putKey (key : Key) (t : T) (ks : List Key) (ts : List T) : T := match idxK key ks with
  | some j => .nd (.dic ks) (ts.set j t)
  | none => .nd (.dic (ks ++ [key])) (ts ++ [t])
def uPut (n : EnT → Option (Nat × List Nat)) (kf : En → Option D) (e : EnT → Option Rx) (ρ : EnT) : Option OutT := (e ρ).bind fun r => match r with
  | .xc x ρ1 => some (.xc x ρ1)
  | .ok t ρ1 => (n ρ1).bind fun p => match nodeAt ρ1 p with
    | some (.nd (.dic ks) ts) => ((kf (ful ρ1)).bind keyD).bind fun key => if okLen ks.length && decide ks.Nodup then some (.nx (setAt ρ1 p (putKey key t ks ts))) else none
    | _ => none
section
variable {K : PySem.W.Frag} {O : List Nat} {s0 : St} {W : WX} {σ : St} {H Hv H' Hv' H1 Hv1 H2 Hv2 : Hp} {fp fp' fp1 fr ft : List Addr} {ρ : EnT} {Q : VK} {D' : Ends}
theorem key_dn {v : V} {d : D} {key : Key} (q : Dn K Hv v d) (e : keyD d = some key) : v = kV key := by
  cases q <;> simp only [keyD, Option.some.injEq] at e <;> try cases e
  · rfl
  · rfl
theorem any_idx {key : Key} : ∀ {kvs : List (Key × V)} {j : Nat}, idxK key (kvs.map (·.1)) = some j → (kvs.any fun kv => decide (kv.1 = key)) = true ∧ j < kvs.length
  | [], j, e => by simp [idxK] at e
  | (g, x) :: r, j, e => by
    by_cases h : g = key
    · subst h
      simp only [List.map_cons, idxK, if_true, Option.some.injEq] at e
      subst e
      simp
    · simp only [List.map_cons, idxK, if_neg h] at e
      cases e1 : idxK key (r.map (·.1)) with
      | none => simp [e1] at e
      | some i =>
        simp only [e1, Option.map_some, Option.some.injEq] at e
        subst e
        obtain ⟨h1, h2⟩ := any_idx e1
        simp only [List.any_cons, h1, Bool.or_true, List.length_cons]
        exact ⟨trivial, by omega⟩
theorem putK_some {key : Key} {v : V} : ∀ {kvs : List (Key × V)} {j : Nat}, (kvs.map (·.1)).Nodup → idxK key (kvs.map (·.1)) = some j →
    (kvs.map (fun kv => if kv.1 = key then (kv.1, v) else kv)).map (·.1) = kvs.map (·.1) ∧ (kvs.map (fun kv => if kv.1 = key then (kv.1, v) else kv)).map (·.2) = (kvs.map (·.2)).set j v
  | [], j, _, e => by simp [idxK] at e
  | (g, x) :: r, j, n, e => by
    rw [List.map_cons, List.nodup_cons] at n
    by_cases h : g = key
    · subst h
      simp only [List.map_cons, idxK, if_true, Option.some.injEq] at e
      subst e
      have id' : r.map (fun kv => if kv.1 = g then (kv.1, v) else kv) = r := by
        have : ∀ kv ∈ r, (if kv.1 = g then (kv.1, v) else kv) = kv := fun kv hk => if_neg fun e => n.1 (List.mem_map.mpr ⟨kv, hk, e⟩)
        rw [List.map_congr_left this, List.map_id']
      simp only [List.map_cons, id', if_true, List.set_cons_zero, and_self]
    · simp only [List.map_cons, idxK, if_neg h] at e
      cases e1 : idxK key (r.map (·.1)) with
      | none => simp [e1] at e
      | some i =>
        simp only [e1, Option.map_some, Option.some.injEq] at e
        subst e
        obtain ⟨h1, h2⟩ := putK_some (v := v) n.2 e1
        simp only [List.map_cons, if_neg h, h1, h2, List.set_cons_succ, and_self]
theorem any_none {key : Key} : ∀ {kvs : List (Key × V)}, idxK key (kvs.map (·.1)) = none → (kvs.any fun kv => decide (kv.1 = key)) = false
  | [], _ => rfl
  | (g, x) :: r, e => by
    by_cases h : g = key
    · subst h; simp [idxK] at e
    · simp only [List.map_cons, idxK, if_neg h] at e
      have e1 : idxK key (r.map (·.1)) = none := by
        cases e2 : idxK key (r.map (·.1)) with
        | none => rfl
        | some i => rw [e2] at e; cases e
      simp only [List.any_cons, any_none e1, h, decide_false, Bool.or_self]
theorem ru_put {n : EnT → Option (Nat × List Nat)} {kf : En → Option D} {e : EnT → Option Rx} (h : rdU K O s0 W (uPut n kf e) D' σ H) : sDPut (rdN K O s0 n) (rdE K kf) (rdX K O s0 W e) D' σ H := by
  obtain ⟨Hv, fp, ρ, o, k, e1, p⟩ := h
  obtain ⟨r, h1, e1⟩ := bind_some2 e1
  refine ⟨Hv, fp, ρ, r, k, h1, ?_⟩
  cases r with
  | xc x ρ1 => cases e1; exact fun d H' Hv' fp' f' k' x => p d σ H' Hv' fp' f' k' x
  | ok t ρ1 =>
    intro v H1 Hv1 fp1 ft f1 k1 t1
    simp only at e1
    obtain ⟨q, h2, e1⟩ := bind_some2 e1
    split at e1
    · rename_i ks ts hn
      obtain ⟨key, h3, e1⟩ := bind_some2 e1
      obtain ⟨d, h4, h5⟩ := bind_some2 h3
      split at e1
      · rename_i hc
        rw [Bool.and_eq_true] at hc
        have nk := of_decide_eq_true hc.2
        cases e1
        refine hold k1 f1.w t1 h2 fun v0 v' H2 Hv2 k2 w2 f2 t2 h0 ha => ?_
        refine ⟨H2, ful ρ1, d, .refl _, k2.full, h4, fun y H3 Hv3' s3 q3 => ?_⟩
        have hy := key_dn q3 h5
        subst hy
        have k3 := k2.grow s3.a
        have f3 := Frm.grow w2 s3.a
        have st3 := stands w2 s3.a
        have t3 := t2.keep f3.b (f3.tpl w2) fun b hb => st3 b (List.mem_append_left _ hb)
        have ha3 := k2.at_keep hn h0 ha (fun e => by cases e) (f3.tpl w2) fun b hb => st3 b (List.mem_append_right _ hb)
        obtain ⟨a, vs, rfl, ob, le, put⟩ := k3.put f3.w hn rfl h0 ha3
        cases ob with
        | @dic kvs hi =>
          have hl : kvs.length < sizeLine := by
            have := okLen_lt hc.1
            simpa using this
          refine ⟨a, _, rfl, DPut.k hi hl, ?_⟩
          have tp : Tpl K H3 (upd H3 a (.dK (putK kvs key v))) := tpl_upd hi rfl
          have kk : ∃ fp2 t0, ρ1[q.1]? = some t0 ∧ OkT K O s0 σ (ρ1.set q.1 (putT t0 q.2 (putKey key t (kvs.map (·.1)) ts))) (upd H3 a (.dK (putK kvs key v))) (tupV Hv2 H3) fp2 ∧ Frm H3 (tupV Hv2 H3) (ft ++ fp1) (upd H3 a (.dK (putK kvs key v))) (tupV Hv2 H3) fp2 := by
            unfold putKey
            cases hj : idxK key (kvs.map (·.1)) with
            | some j =>
              obtain ⟨g1, g2⟩ := putK_some (v := v) nk hj
              obtain ⟨g3, g4⟩ := any_idx hj
              have pe : putK kvs key v = kvs.map (fun kv => if kv.1 = key then (kv.1, v) else kv) := by unfold putK; rw [if_pos g3]
              refine put (.dK (putK kvs key v)) (.dic (kvs.map (·.1))) (ts.set j t) ((kvs.map (·.2)).set j v) rfl rfl (by rw [← g1, ← g2, ← pe]; exact .dic upd_same) fun fc r n1 n2 => ?_
              have hjl : j < ts.length := by rw [← le]; simpa using g4
              exact (r.upd tp n1).setq hjl (t3.upd tp n2)
            | none =>
              have pe : putK kvs key v = kvs ++ [(key, v)] := by unfold putK; rw [if_neg (by rw [any_none hj]; decide)]
              refine put (.dK (putK kvs key v)) (.dic (kvs.map (·.1) ++ [key])) (ts ++ [t]) (kvs.map (·.2) ++ [v]) rfl rfl ?_ fun fc r n1 n2 => ?_
              · have := Ob.dic (K := K) (H := upd H3 a (.dK (putK kvs key v))) (a := a) (kvs := kvs ++ [(key, v)]) (by rw [← pe]; exact upd_same)
                simpa using this
              · exact (r.upd tp n1).snocq (t3.upd tp n2)
          obtain ⟨fp2, t0, e0, k4, f4⟩ := kk
          replace p : PoU K O s0 W H Hv fp D' (.nx (setAt ρ1 q (putKey key t (kvs.map (·.1)) ts))) := p
          have es : setAt ρ1 q (putKey key t (kvs.map (·.1)) ts) = ρ1.set q.1 (putT t0 q.2 (putKey key t (kvs.map (·.1)) ts)) := by
            unfold setAt
            rw [List.getD_eq_getElem?_getD, e0]; rfl
          rw [es] at p
          exact p σ _ _ fp2 (((f1.trans f2).trans f3).trans f4) k4
      · cases e1
    · cases e1
end
end PO
namespace PO
open PySem L2 PD
/-! ### the rules -/
def uRaise (C : Addr) (ρ : EnT) : Option OutT := some (.xc ⟨C, []⟩ ρ)
theorem ru_raise {K : PySem.W.Frag} {O : List Nat} {s0 : St} {W : WX} {σ : St} {H : Hp} {D' : Ends} {C : Addr} (h : rdU K O s0 W (uRaise C) D' σ H) : W (.ref C) none σ H := by
  obtain ⟨Hv, fp, ρ, o, k, e, p⟩ := h
  cases e
  exact p none σ H Hv fp (.refl k.w) k (.none C)
section
variable {X : Cx} {O : List Nat} {s0 : St} {W : WX} {e o a tg iter : Expr} {es : List Expr} {st : Stmt} {rest body b c : List Stmt} {pos apos p2 : Pos} {F G : EnT → Option OutT}
/-! pure expressions -/
theorem yp_fr {f : En → Option D} (h : PE X e (rdE X.K f)) : PE X e (rdP X.K O s0 (pFr f)) := pe_imp h fun _ _ _ => rp_fr
theorem yp_im {f : En → Option D} (h : PE X e (rdE X.K f)) : PE X e (rdP X.K O s0 (pIm f)) := pe_imp h fun _ _ _ => rp_im
theorem yp_ls {f : En → Option (List D)} (h : PE X e (rdF X.K f)) : PE X e (rdP X.K O s0 (pLs f)) := pe_imp h fun _ _ _ => rp_ls
theorem yp_lsI {f : En → Option (List D)} (h : PE X e (rdF X.K f)) : PE X e (rdP X.K O s0 (pLsI f)) := pe_imp h fun _ _ _ => rp_lsI
theorem yp_nil : PA X [] (rdPs X.K O s0 psNil) := pa_imp pa_nil fun _ _ _ => rp_nil
theorem yp_cons {f : EnT → Option T} {g : EnT → Option (List T)} (h1 : PE X e (rdP X.K O s0 f)) (h2 : PA X es (rdPs X.K O s0 g)) (hs : starEach (e :: es) X.env = (false, eval e X.env) :: starEach es X.env := by rfl) : PA X (e :: es) (rdPs X.K O s0 (psCons f g)) := pa_imp (pa_cons h1 h2 hs) fun _ _ _ => rp_cons
theorem yp_tup {k : Nat} {g : EnT → Option (List T)} (h : PA X es (rdPs X.K O s0 g)) : PE X (.Tuple es k pos) (rdP X.K O s0 (pTup g)) := pe_imp (pe_tup h) fun _ _ _ => rp_tup
theorem yp_lst {g : EnT → Option (List T)} (h : PA X es (rdPs X.K O s0 g)) : PE X (.List es pos) (rdP X.K O s0 (pLst g)) := pe_imp (pe_lst h) fun _ _ _ => rp_lst
theorem yp_at {n : EnT → Option (Nat × List Nat)} (h : PE X e (rdN X.K O s0 n)) : PE X e (rdP X.K O s0 (pAt n)) := pe_imp h fun _ _ _ => rp_at
/-! places -/
theorem yn_var {i : Nat} (h : PE X e (tVar i)) : PE X e (rdN X.K O s0 (nV i)) := pe_imp h fun _ _ _ => rn_var
theorem yn_fld {C : Addr} {f : Str} {n : EnT → Option (Nat × List Nat)} (cl : Cls X.K C) (na : NoAttr X.K C f) (h : PE X e (rdN X.K O s0 n)) (hb : attributeBase e f X.env (eval e X.env) = eval e X.env := by rfl) : PE X (.Attribute e f pos) (rdN X.K O s0 (nFld C f n)) := pe_imp (pe_fld h hb) fun _ _ _ => rn_fld cl na
/-! expressions -/
theorem yx_p {g : EnT → Option T} (h : PE X e (rdP X.K O s0 g)) : PE X e (rdX X.K O s0 W (xP g)) := pe_imp h fun _ _ _ => rx_p
theorem yx_mv {i : Nat} (h : PE X e (tVar i)) : PE X e (rdX X.K O s0 W (xMv i)) := pe_imp h fun _ _ _ => rx_mv
theorem yx_nil : PA X [] (rdXs X.K O s0 W xsNil) := pa_imp pa_nil fun _ _ _ => rx_nil
theorem yx_cons {f : EnT → Option Rx} {g : EnT → Option Rxs} (h1 : PE X e (rdX X.K O s0 W f)) (h2 : PA X es (rdXs X.K O s0 W g)) (hs : starEach (e :: es) X.env = (false, eval e X.env) :: starEach es X.env := by rfl) : PA X (e :: es) (rdXs X.K O s0 W (xsCons f g)) := pa_imp (pa_cons h1 h2 hs) fun _ _ _ => rx_cons
theorem yx_tup {k : Nat} {g : EnT → Option Rxs} (h : PA X es (rdXs X.K O s0 W g)) : PE X (.Tuple es k pos) (rdX X.K O s0 W (xTup g)) := pe_imp (pe_tup h) fun _ _ _ => rx_tup
theorem yx_lst {g : EnT → Option Rxs} (h : PA X es (rdXs X.K O s0 W g)) : PE X (.List es pos) (rdX X.K O s0 W (xLst g)) := pe_imp (pe_lst h) fun _ _ _ => rx_lst
/-! arguments, calls -/
theorem ya_nil : PA X [] (rdA X.K O s0 []) := pa_imp pa_nil fun _ _ _ => ra_nil
theorem ya_e {g : EnT → Option T} {as : List Arg} (h1 : PE X e (rdP X.K O s0 g)) (h2 : PA X es (rdA X.K O s0 as)) (hs : starEach (e :: es) X.env = (false, eval e X.env) :: starEach es X.env := by rfl) : PA X (e :: es) (rdA X.K O s0 (.e g :: as)) := pa_imp (pa_cons h1 h2 hs) fun _ _ _ => ra_e
theorem ya_b {i : Nat} {as : List Arg} (h1 : PE X e (tVar i)) (h2 : PA X es (rdA X.K O s0 as)) (hs : starEach (e :: es) X.env = (false, eval e X.env) :: starEach es X.env := by rfl) : PA X (e :: es) (rdA X.K O s0 (.b i :: as)) := pa_imp (pa_cons h1 h2 hs) fun _ _ _ => ra_b
theorem yx_call {x : Str} {fa : Addr} {fd : FuncData} {k : Nat} {ps : List Str} {g : List T → Option RT} {as : List Arg} {p : Pos} (Fo : FnOk X.prog X.w X.K X.mg X.base (L2.CX X.prog X.w) k fa fd ps (spT X.K g)) (hr : Room k X.A) (hg : Gl X x) (hm : X.mg x = some (.ref fa)) (hk : PySem.W.keepIn X.K (.ref fa) = true) (hb : Binds X.K fd ps []) (tk : Takes X W)
    (ha : PA X (e :: es) (rdA X.K O s0 as)) (hdb : (x == ("__debug__" : Str)) = false := by decide) (he : starEach (e :: es) X.env = (false, eval e X.env) :: starEach es X.env := by rfl) (hpl : (backTo pos (starEach es X.env)).any (·.1) = false := by rfl) :
    PE X (.Call (.Name x p) (e :: es) [] pos) (rdX X.K O s0 W (xCall g as)) := pe_imp (pe_callS Fo hr hg hm hk hb (fun σ => passAt tk σ) ha hdb he hpl) fun _ _ _ => rx_call
/-! statements -/
theorem yu_nil : PSs X [] (rdU X.K O s0 W uNil) := pss_imp pss_nil fun _ _ _ => ru_nil
theorem yu_cons (h1 : PS X st (rdU X.K O s0 W F)) (h2 : PSs X rest (rdU X.K O s0 W G)) : PSs X (st :: rest) (rdU X.K O s0 W (uSeq F G)) := pss_imp (pss_cons h1 h2) fun _ _ _ => ru_seq
theorem yu_one (h1 : PS X st (rdU X.K O s0 W F)) : PSs X [st] (rdU X.K O s0 W F) := pss_one h1
theorem yu_if {cnd : Expr} {t : En → Option Bool} (hc : PT X cnd (rdT X.K t)) (ha : PSs X b (rdU X.K O s0 W F)) (hb : PSs X c (rdU X.K O s0 W G)) : PS X (.If cnd b c pos) (rdU X.K O s0 W (uIf t F G)) := ps_imp (ps_if hc ha hb) fun _ _ _ => ru_if
theorem yu_brk : PS X (.Break pos) (rdU X.K O s0 W uBrk) := ps_imp ps_break fun _ _ _ => ru_brk
theorem yu_cont : PS X (.Continue pos) (rdU X.K O s0 W uCont) := ps_imp ps_continue fun _ _ _ => ru_cont
theorem yu_doc {x j} : PS X (.Expr (.Constant (.str x) j pos) p2) (rdU X.K O s0 W uNil) := ps_imp ps_doc fun _ _ _ => ru_nil
theorem yu_ret {f : EnT → Option Rx} (h : PE X e (rdX X.K O s0 W f)) : PS X (.Return (some e) pos) (rdU X.K O s0 W (uRet f)) := ps_imp (ps_ret h) fun _ _ _ => ru_ret
theorem yu_retN : PS X (.Return none pos) (rdU X.K O s0 W uRetN) := ps_imp ps_retN fun _ _ _ => ru_retN
theorem yu_ex {f : EnT → Option Rx} (h : PE X e (rdX X.K O s0 W f)) (hs : swapsWith e none pos.line X.env = pure false := by rfl) : PS X (.Expr e pos) (rdU X.K O s0 W (uEx f)) := ps_imp (ps_expr h hs) fun _ _ _ => ru_ex
theorem yu_asg {tgt : Tgt} {f : EnT → Option Rx} (ho : ∀ i ∈ tgt.slots, i ∉ O) (h : PS X st (tAsg (rdX X.K O s0 W f) (gTg X.K tgt))) : PS X st (rdU X.K O s0 W (uAsg tgt f)) := ps_imp h fun _ _ _ => ru_asg ho
theorem yu_for {src : En → Option (List D)} {t : Tgt} (hp : PassesOwn (model X.prog X.w) X.A X.env X.xe) (hc : X.calm = true) (ho : ∀ i ∈ t.slots, i ∉ O) (hi : PI X tg iter (rdI X.K src)) (hg : PG X tg (gTg X.K t)) (hb : PSs X body (rdU X.K O s0 W F))
    (hs : ∀ x, foldedSetIterable iter X.env x = pure x := by intro _; rfl) : PS X (.For tg iter body [] pos) (rdU X.K O s0 W (uFor src t F)) := ps_imp (ps_for hp hc hi hg hb hs) fun _ _ _ => ru_for ho
theorem yu_while (fuel : EnT → Nat) {cnd : Expr} {t : En → Option Bool} (hp : PassesOwn (model X.prog X.w) X.A X.env X.xe) (hc : PT X cnd (rdT X.K t)) (hb : PSs X body (rdU X.K O s0 W F)) : PS X (.While cnd body [] pos) (rdU X.K O s0 W (uWhile fuel t F)) := ps_imp (ps_while hp hc hb) fun _ _ _ => ru_while
theorem yu_fld {C : Addr} {f : Str} {n : EnT → Option (Nat × List Nat)} {v : Expr} {g : EnT → Option Rx} {pos' : Pos} (cl : Cls X.K C) (na : NoAttr X.K C f) (ho : PE X o (rdN X.K O s0 n)) (hv : PE X v (rdX X.K O s0 W g)) (hs : swapsWith v (some (.Attribute o f pos')) pos.line X.env = pure false := by rfl) :
    PS X (.Assign [.Attribute o f pos'] v pos) (rdU X.K O s0 W (uFld C f n g)) := ps_imp (ps_fld ho hv hs) fun _ _ _ => ru_fld cl na
theorem yu_put {n : EnT → Option (Nat × List Nat)} {kf : En → Option D} {i v : Expr} {g : EnT → Option Rx} {pos' : Pos} (hu : X.A.units + 1 < cLine) (ho : PE X o (rdN X.K O s0 n)) (hi : PE X i (rdE X.K kf)) (hv : PE X v (rdX X.K O s0 W g)) (hs : swapsWith v (some (.Subscript o i pos')) pos.line X.env = pure false := by rfl) :
    PS X (.Assign [.Subscript o i pos'] v pos) (rdU X.K O s0 W (uPut n kf g)) := ps_imp (ps_dput hu ho hi hv hs) fun _ _ _ => ru_put
theorem yu_app {n : EnT → Option (Nat × List Nat)} {g : EnT → Option T} (h : PS X st (tDrop (tBM X.K "list" rAppend (rdN X.K O s0 n) (tCons (rdP X.K O s0 g) tNil)))) : PS X st (rdU X.K O s0 W (uApp n g)) := ps_imp h fun _ _ _ => ru_app
theorem yu_no : PS X st (rdU X.K O s0 W uNo) := ⟨fun pins s D σ H I w => by
  obtain ⟨_, _, _, _, _, e, _⟩ := w
  cases e⟩
theorem yu_raise {C : Addr} (hc : X.calm = true) (tk : Takes X W) (hp : PMk X e (fun _ H Q => Q (.ref C) none H)) : PS X (.Raise (some e) none pos) (rdU X.K O s0 W (uRaise C)) := ps_imp (ps_raise hc tk hp) fun _ _ _ => ru_raise
end
end PO
namespace PO
open PySem L2 PD
/-! ### methods -/
def tMethS (C : Addr) (m : Str) (sp : Sp) (E : St → XK) (ta : TE) (t : TA) : TE := fun σ H Q => ta σ H fun x H1 => ∃ a dx fs, x = .ref a ∧ H1 a = some (.ins C dx fs) ∧ fs.lookup m = none ∧ t σ H1 fun vs H2 => sp (x :: vs) H2 Q (E σ)
section
variable {X : Cx} {CX : CXT} {k : Nat} {f C : Addr} {fd : FuncData} {ps : List Str} {sp : Sp} {E : St → XK} {x m : Str} {p pos apos : Pos} {e o : Expr} {es : List Expr} {ta : TE} {t : TA}
theorem pe_methS {pl : Sem Bool} (he : PE X o ta) (c : Cls X.K C) (hm : Meth X.K C m f) (F : FnOk X.prog X.w X.K X.mg X.base CX k f fd ps sp) (hr : Room k X.A) (hb : Binds X.K fd ps []) (hx : ∀ σ, PassesAt CX X σ (E σ)) (ha : PA X (e :: es) t)
    (hst : starEach (e :: es) X.env = (false, eval e X.env) :: starEach es X.env := by rfl) (hpl : (backTo pos (starEach es X.env)).any (·.1) = false := by rfl)
    (ht : eval (.Call (.Attribute o m apos) (e :: es) [] pos) X.env = (do
      let ov ← eval o X.env
      standAt apos.atName
      let (f, first) ← holding [ov] (getMethod ov m pl)
      callWith pos f first (backTo pos (starEach (e :: es) X.env)) (backToKw pos (keywordEach [] X.env))) := by rfl) :
    PE X (.Call (.Attribute o m apos) (e :: es) [] pos) (tMethS C m sp E ta t) := by
  refine ⟨fun pins s σ H Q I h => ?_⟩
  refine PySem.W.methodCall_KW (pl := pl) (thn (he.run pins s σ H _ I h) fun u s1 ⟨x, H1, I1, rx, a, dx, fs, ex, ea, l, q⟩ => ?_) ht
  subst ex
  obtain rfl : u = Value.ref a := rx
  refine getmeth_ok I1 ea c hm l ?_
  refine PySem.W.callWith_K (first := [.ref a]) (h₀ := X.base) I.ok.mod.kin hm.kp (thn (ha.run pos pins s1 σ H1 _ I1 q) fun us s2 ⟨vs, H2, I2, r, q2⟩ => ⟨I2.kIn, ?_⟩) hst hpl
  exact run_fnS (us := .ref a :: us) (vs := .ref a :: vs) F hr hb (hx σ) I2 (.cons rfl r) q2
theorem pe_methS0 {pl : Sem Bool} (he : PE X o ta) (c : Cls X.K C) (hm : Meth X.K C m f) (F : FnOk X.prog X.w X.K X.mg X.base CX k f fd ps sp) (hr : Room k X.A) (hb : Binds X.K fd ps []) (hx : ∀ σ, PassesAt CX X σ (E σ))
    (ht : eval (.Call (.Attribute o m apos) [] [] pos) X.env = (do
      let ov ← eval o X.env
      standAt apos.atName
      let (f, first) ← holding [ov] (getMethod ov m pl)
      callWith pos f first (backTo pos (starEach [] X.env)) (backToKw pos (keywordEach [] X.env))) := by rfl) :
    PE X (.Call (.Attribute o m apos) [] [] pos) (tMethS C m sp E ta tNil) := by
  refine ⟨fun pins s σ H Q I h => ?_⟩
  refine PySem.W.methodCall_KW (pl := pl) (thn (he.run pins s σ H _ I h) fun u s1 ⟨x, H1, I1, rx, a, dx, fs, ex, ea, l, q⟩ => ?_) ht
  subst ex
  obtain rfl : u = Value.ref a := rx
  refine getmeth_ok I1 ea c hm l ?_
  exact PySem.W.callWith_K0 (first := [.ref a]) I1.kIn hm.kp (run_fnS (us := [.ref a]) (vs := [.ref a]) F hr hb (hx σ) I1 (.cons rfl .nil) q)
end
/-- a method of the instance in slot i, which is lent -/
def xMeth (C : Addr) (m : Str) (f : List T → Option RT) (i : Nat) (as : List Arg) (ρ : EnT) : Option Rx := match ρ[i]? with
  | some (.nd (.ins C' ns) _) => if C' = C ∧ m ∉ ns then xCall f (.b i :: as) ρ else none
  | _ => none
section
variable {K : PySem.W.Frag} {O : List Nat} {s0 : St} {W : WX} {σ : St} {H Hv : Hp} {Q : VK}
theorem lookup_no {f : Str} : ∀ {fs : List (Str × V)}, f ∉ fs.map (·.1) → fs.lookup f = none
  | [], _ => rfl
  | (g, x) :: r, h => by
    simp only [List.map_cons, List.mem_cons, not_or] at h
    rw [List.lookup_cons]
    have : (f == g) = false := by simpa using h.1
    rw [this]
    exact lookup_no h.2
theorem rx_meth {C : Addr} {m : Str} {f : List T → Option RT} {i : Nat} {as : List Arg} (h : rdX K O s0 W (xMeth C m f i as) σ H Q) : tMethS C m (spT K f) (WE W) (tVar i) (rdA K O s0 as) σ H Q := by
  obtain ⟨Hv, fp, ρ, r, k, e, p⟩ := h
  unfold xMeth at e
  split at e
  · rename_i C' ns ts h1
    split at e
    · rename_i hc
      obtain ⟨rfl, hm⟩ := hc
      have h2 : tCallS (spT K f) (WE W) (rdA K O s0 (.b i :: as)) σ H Q := rx_call ⟨Hv, fp, ρ, r, k, e, p⟩
      obtain ⟨v, hv, h3⟩ := ra_b h2
      obtain ⟨fl, fc, fr', _, c, _, _⟩ := k.es.at h1
      rcases c with ⟨e', _⟩ | ⟨v', a, b⟩
      · cases e'
      · rw [hv] at a
        cases a
        cases b with
        | nd ob _ =>
          cases ob with
          | ins hi => exact ⟨_, hv, _, _, _, rfl, hi, lookup_no hm, h3⟩
    · cases e
  · cases e
end
section
variable {X : Cx} {O : List Nat} {s0 : St} {W : WX} {k : Nat} {fa C : Addr} {fd : FuncData} {ps : List Str} {m : Str} {pos apos : Pos} {e o : Expr} {es : List Expr} {i : Nat} {g : List T → Option RT} {as : List Arg}
theorem yx_meth {pl : Sem Bool} (he : PE X o (tVar i)) (c : Cls X.K C) (hm : Meth X.K C m fa) (F : FnOk X.prog X.w X.K X.mg X.base (L2.CX X.prog X.w) k fa fd ps (spT X.K g)) (hr : Room k X.A) (hb : Binds X.K fd ps []) (tk : Takes X W) (ha : PA X (e :: es) (rdA X.K O s0 as))
    (hst : starEach (e :: es) X.env = (false, eval e X.env) :: starEach es X.env := by rfl) (hpl : (backTo pos (starEach es X.env)).any (·.1) = false := by rfl)
    (ht : eval (.Call (.Attribute o m apos) (e :: es) [] pos) X.env = (do
      let ov ← eval o X.env
      standAt apos.atName
      let (f, first) ← holding [ov] (getMethod ov m pl)
      callWith pos f first (backTo pos (starEach (e :: es) X.env)) (backToKw pos (keywordEach [] X.env))) := by rfl) :
    PE X (.Call (.Attribute o m apos) (e :: es) [] pos) (rdX X.K O s0 W (xMeth C m g i as)) := pe_imp (pe_methS he c hm F hr hb (fun σ => passAt tk σ) ha hst hpl ht) fun _ _ _ => rx_meth
theorem yx_meth0 {pl : Sem Bool} (he : PE X o (tVar i)) (c : Cls X.K C) (hm : Meth X.K C m fa) (F : FnOk X.prog X.w X.K X.mg X.base (L2.CX X.prog X.w) k fa fd ps (spT X.K g)) (hr : Room k X.A) (hb : Binds X.K fd ps []) (tk : Takes X W)
    (ht : eval (.Call (.Attribute o m apos) [] [] pos) X.env = (do
      let ov ← eval o X.env
      standAt apos.atName
      let (f, first) ← holding [ov] (getMethod ov m pl)
      callWith pos f first (backTo pos (starEach [] X.env)) (backToKw pos (keywordEach [] X.env))) := by rfl) :
    PE X (.Call (.Attribute o m apos) [] [] pos) (rdX X.K O s0 W (xMeth C m g i [])) := pe_imp (pe_methS0 he c hm F hr hb (fun σ => passAt tk σ) ht) fun σ H Q h => by
  obtain ⟨v, hv, a, dx, fs, ev, hi, hl, h3⟩ := rx_meth h
  exact ⟨v, hv, a, dx, fs, ev, hi, hl, ra_nil h3⟩
end
end PO
namespace PO
open PySem L2 PD
/-! ### a tuple's part: f(..)[1] -/
def xIx (j : Nat) (e : EnT → Option Rx) (ρ : EnT) : Option Rx := (e ρ).bind fun r => match r with
  | .xc x ρ1 => some (.xc x ρ1)
  | .ok (.nd .tup ts) ρ1 => (ts[j]?).map fun t => .ok t ρ1
  | .ok (.fr (.tup ds)) ρ1 => (ds[j]?).map fun d => .ok (.fr d) ρ1
  | _ => none
section
variable {K : PySem.W.Frag} {O : List Nat} {s0 : St} {W : WX} {σ : St} {H Hv : Hp} {Q : VK}
theorem rx_ix {j : Nat} {e : EnT → Option Rx} (h : rdX K O s0 W (xIx j e) σ H Q) : tOp (rIx K) (rdX K O s0 W e) (tC (.int (j : Int))) σ H Q := by
  obtain ⟨Hv, fp, ρ, r, k, e1, p⟩ := h
  obtain ⟨r1, h1, e1⟩ := bind_some2 e1
  refine ⟨Hv, fp, ρ, r1, k, h1, ?_⟩
  have ati : ∀ {α : Type} {l : List α} {x : α}, l[j]? = some x → atI l (j : Int) = some x := fun {α l x} h => by
    obtain ⟨hl, hx⟩ := List.getElem?_eq_some_iff.mp h
    unfold atI ixN
    have h0 : ¬ ((j : Int) < 0) := by omega
    simp [h0, hl, hx]
  cases r1 with
  | xc x ρ1 => cases e1; exact p
  | ok t ρ1 =>
    cases t with
    | dead => cases e1
    | fr d =>
      cases d with
      | tup ds =>
        simp only at e1
        cases h2 : ds[j]? with
        | none => rw [h2] at e1; cases e1
        | some d =>
          rw [h2] at e1
          cases e1
          intro v H1 Hv1 fp1 ft f1 k1 t1
          cases t1 with
          | fr q =>
            cases q with
            | tup hs r =>
              obtain ⟨w, w1, w2⟩ := r.get h2
              exact .inr (.inl ⟨_, _, _, w, rfl, rfl, sameT k1.w.c hs, ati w1, p w H1 Hv1 fp1 [] f1 k1 (.fr w2)⟩)
      | _ => cases e1
    | nd kd ts =>
      cases kd with
      | tup =>
        simp only at e1
        cases h2 : ts[j]? with
        | none => rw [h2] at e1; cases e1
        | some t =>
          rw [h2] at e1
          cases e1
          intro v H1 Hv1 fp1 ft f1 k1 t1
          cases t1 with
          | nd ob r =>
            cases ob with
            | tup hs =>
              obtain ⟨w, fl, fc, fr', g1, g2, g3, _⟩ := r.at h2
              subst g2
              have n : (fc ++ fp1).Nodup := by
                have n1 := f1.w.nd
                have s : (fc ++ fp1).Sublist ((fl ++ (fc ++ fr')) ++ fp1) := ((List.sublist_append_left fc fr').trans (List.sublist_append_right fl _)).append_right fp1
                exact s.nodup n1
              refine .inr (.inl ⟨_, _, _, w, rfl, rfl, SqT.of hs, ati g1, p w H1 Hv1 fp1 fc (f1.trans (.drop f1.w (fun a h => ?_) n)) k1 g3⟩)
              show a ∈ (fl ++ (fc ++ fr')) ++ fp1
              simp only [List.mem_append] at h ⊢
              rcases h with h | h <;> simp [h]
      | _ => cases e1
end
section
variable {X : Cx} {O : List Nat} {s0 : St} {W : WX} {a : Expr} {pos p2 : Pos} {k0 : Nat}
theorem yx_ix {j : Nat} {e : EnT → Option Rx} (ha : PE X a (rdX X.K O s0 W e)) : PE X (.Subscript a (.Constant (.int (j : Int)) k0 p2) pos) (rdX X.K O s0 W (xIx j e)) := pe_imp (pe_ix ix_seq ha pe_int (fun _ _ => rfl)) fun _ _ _ => rx_ix
end
end PO
namespace PO
open PySem L2 PD
/-! ### a tree is kept: from now on it is only read -/
def xFz (e : EnT → Option Rx) (ρ : EnT) : Option Rx := (e ρ).bind fun r => match r with
  | .xc x ρ1 => some (.xc x ρ1)
  | .ok t ρ1 => t.d.map fun d => .ok (.fr d) ρ1
section
variable {K : PySem.W.Frag} {O : List Nat} {s0 : St} {W : WX} {σ : St} {H Hv Hv2 : Hp} {Q : VK}
mutual
theorem Tn.fz (sv : Same Hv Hv2) (tp : ∀ a vs, SqT K H a vs → SqT K Hv2 a vs) : ∀ {v : V} {t : T} {fp : List Addr} {d : D}, Tn K Hv H v t fp → (∀ a ∈ fp, Hv2 a = H a) → t.d = some d → Dn K Hv2 v d
  | _, _, _, _, .dead v, _, e => by simp [T.d] at e
  | _, _, _, _, .fr h, _, e => by simp only [T.d, Option.some.injEq] at e; subst e; exact h.mono sv
  | _, _, _, _, .nd (a := a) (k := k) (ts := ts) o r, st, e => by
    simp only [T.d] at e
    cases h : dsOf ts with
    | none => rw [h] at e; cases e
    | some ds =>
      rw [h] at e
      have q := Tns.fz sv tp r (fun b hb => st b (by unfold own1; split; exact List.mem_cons_of_mem _ hb; exact hb)) h
      have sa : k.mb = true → Hv2 a = H a := fun m => st a (by unfold own1; rw [if_pos m]; exact List.mem_cons_self ..)
      cases o with
      | lst x => cases e; exact .lst (.of ((sa rfl).trans x)) q
      | tup x => cases e; exact .tup (tp _ _ (SqT.of x)) q
      | dic x => cases e; exact .dic ((sa rfl).trans x) (dks_zip q)
      | ins x => cases e; exact .ins ((sa rfl).trans x) (dfs_zip q)
theorem Tns.fz (sv : Same Hv Hv2) (tp : ∀ a vs, SqT K H a vs → SqT K Hv2 a vs) : ∀ {v : List V} {t : List T} {fp : List Addr} {d : List D}, Tns K Hv H v t fp → (∀ a ∈ fp, Hv2 a = H a) → dsOf t = some d → Dns K Hv2 v d
  | _, _, _, _, .nil, _, e => by simp only [dsOf, Option.some.injEq] at e; subst e; exact .nil
  | _, _, _, _, .cons (t := t) (ts := ts) h r, st, e => by
    simp only [dsOf] at e
    cases h1 : t.d with
    | none => rw [h1] at e; cases e
    | some d1 =>
      cases h2 : dsOf ts with
      | none => rw [h1, h2] at e; cases e
      | some d2 =>
        rw [h1, h2] at e
        cases e
        exact .cons (Tn.fz sv tp h (fun a ha => st a (List.mem_append_left _ ha)) h1) (Tns.fz sv tp r (fun a ha => st a (List.mem_append_right _ ha)) h2)
end
open Classical in
theorem rx_fz {e : EnT → Option Rx} (h : rdX K O s0 W (xFz e) σ H Q) : rdX K O s0 W e σ H Q := by
  obtain ⟨Hv, fp, ρ, r, k, e1, p⟩ := h
  obtain ⟨r1, h1, e1⟩ := bind_some2 e1
  refine ⟨Hv, fp, ρ, r1, k, h1, ?_⟩
  cases r1 with
  | xc x ρ1 => cases e1; exact p
  | ok t ρ1 =>
    simp only at e1
    cases h2 : t.d with
    | none => rw [h2] at e1; cases e1
    | some d =>
      rw [h2] at e1
      cases e1
      intro v H1 Hv1 fp1 ft f1 k1 t1
      have w := f1.w
      let Hv2 : Hp := fun a => if a ∈ ft then H1 a else tupV Hv1 H1 a
      have i1 : ∀ a, a ∈ ft → Hv2 a = H1 a := fun a h => if_pos h
      have i2 : ∀ a, a ∉ ft → Hv2 a = tupV Hv1 H1 a := fun a h => if_neg h
      have sv : Same Hv1 Hv2 := fun a o e => by
        rw [i2 a (fun h => by rw [w.hid a (List.mem_append_left _ h)] at e; cases e)]
        exact tupV_a _ _ _ _ e
      have nm : ∀ a o, H1 a = some o → Mb o = false → a ∉ ft := fun a o e m h => by
        obtain ⟨u, e', m'⟩ := w.mc a (List.mem_append_left _ h)
        rw [e] at e'; cases e'; rw [m] at m'; cases m'
      have tp : ∀ a vs, SqT K H1 a vs → SqT K Hv2 a vs := fun a vs s => by
        have s2 := tupV_t w.c s
        rcases s with (s | ⟨o, s⟩) | s
        · rcases s2 with (s2 | ⟨o2, s2⟩) | s2
          · exact .inl (.inl (by rw [i2 a (nm a _ s rfl)]; exact s2))
          · exact .inl (.inr ⟨o2, by rw [i2 a (nm a _ s rfl)]; exact s2⟩)
          · exact .inr s2
        · rcases s2 with (s2 | ⟨o2, s2⟩) | s2
          · exact .inl (.inl (by rw [i2 a (nm a _ s rfl)]; exact s2))
          · exact .inl (.inr ⟨o2, by rw [i2 a (nm a _ s rfl)]; exact s2⟩)
          · exact .inr s2
        · exact .inr s
      have nd := List.nodup_append.mp w.nd
      have c2 : Same Hv2 H1 := fun a o e => by
        by_cases h : a ∈ ft
        · rw [i1 a h] at e; exact e
        · rw [i2 a h] at e; exact tupV_c w.c _ _ e
      have w2 : Wf H1 Hv2 fp1 := ⟨c2, fun a h => w.mc a (List.mem_append_right _ h), fun a h => by
        rw [i2 a (fun h' => nd.2.2 a h' a h rfl)]
        obtain ⟨u, e, m⟩ := w.mc a (List.mem_append_right _ h)
        exact tupV_h m e (w.hid a (List.mem_append_right _ h)), nd.2.1⟩
      have f2 : Frm H1 Hv1 (ft ++ fp1) H1 Hv2 fp1 := ⟨fun _ _ e _ => e, sv, fun a o e m n q => ⟨by rw [i2 a (fun h => q (List.mem_append_left _ h))]; exact tupV_h m e n, fun h => q (List.mem_append_right _ h)⟩, w2⟩
      exact p v H1 Hv2 fp1 [] (f1.trans f2) ⟨k1.es.keep sv (fun _ _ h => h) (fun _ _ => rfl), w2, k1.pin⟩ (.fr (t1.fz sv tp (fun a h => i1 a h) h2))
end
section
variable {X : Cx} {O : List Nat} {s0 : St} {W : WX} {a : Expr}
theorem yx_fz {e : EnT → Option Rx} (ha : PE X a (rdX X.K O s0 W e)) : PE X a (rdX X.K O s0 W (xFz e)) := pe_imp ha fun _ _ _ => rx_fz
end
end PO
namespace PO
open PySem L2 PD
/-! ### a def over trees, called with plain data -/
section
variable {K : PySem.W.Frag} {Hv1 H1 : Hp} {ft fp1 : List Addr}
open Classical in
theorem freeze {v : V} {t : T} {d : D} (w : Wf H1 Hv1 (ft ++ fp1)) (t1 : Tn K Hv1 H1 v t ft) (h2 : t.d = some d) : ∃ Hv2, Frm H1 Hv1 (ft ++ fp1) H1 Hv2 fp1 ∧ Dn K Hv2 v d := by
  let Hv2 : Hp := fun a => if a ∈ ft then H1 a else tupV Hv1 H1 a
  have i1 : ∀ a, a ∈ ft → Hv2 a = H1 a := fun a h => if_pos h
  have i2 : ∀ a, a ∉ ft → Hv2 a = tupV Hv1 H1 a := fun a h => if_neg h
  have sv : Same Hv1 Hv2 := fun a o e => by
    rw [i2 a (fun h => by rw [w.hid a (List.mem_append_left _ h)] at e; cases e)]
    exact tupV_a _ _ _ _ e
  have nm : ∀ a o, H1 a = some o → Mb o = false → a ∉ ft := fun a o e m h => by
    obtain ⟨u, e', m'⟩ := w.mc a (List.mem_append_left _ h)
    rw [e] at e'; cases e'; rw [m] at m'; cases m'
  have tp : ∀ a vs, SqT K H1 a vs → SqT K Hv2 a vs := fun a vs s => by
    have s2 := tupV_t w.c s
    rcases s with (s | ⟨o, s⟩) | s
    · rcases s2 with (s2 | ⟨o2, s2⟩) | s2
      · exact .inl (.inl (by rw [i2 a (nm a _ s rfl)]; exact s2))
      · exact .inl (.inr ⟨o2, by rw [i2 a (nm a _ s rfl)]; exact s2⟩)
      · exact .inr s2
    · rcases s2 with (s2 | ⟨o2, s2⟩) | s2
      · exact .inl (.inl (by rw [i2 a (nm a _ s rfl)]; exact s2))
      · exact .inl (.inr ⟨o2, by rw [i2 a (nm a _ s rfl)]; exact s2⟩)
      · exact .inr s2
    · exact .inr s
  have nd := List.nodup_append.mp w.nd
  have c2 : Same Hv2 H1 := fun a o e => by
    by_cases h : a ∈ ft
    · rw [i1 a h] at e; exact e
    · rw [i2 a h] at e; exact tupV_c w.c _ _ e
  have w2 : Wf H1 Hv2 fp1 := ⟨c2, fun a h => w.mc a (List.mem_append_right _ h), fun a h => by
    rw [i2 a (fun h' => nd.2.2 a h' a h rfl)]
    obtain ⟨u, e, m⟩ := w.mc a (List.mem_append_right _ h)
    exact tupV_h m e (w.hid a (List.mem_append_right _ h)), nd.2.1⟩
  have f2 : Frm H1 Hv1 (ft ++ fp1) H1 Hv2 fp1 := ⟨fun _ _ e _ => e, sv, fun a o e m n q => ⟨by rw [i2 a (fun h => q (List.mem_append_left _ h))]; exact tupV_h m e n, fun h => q (List.mem_append_right _ h)⟩, w2⟩
  exact ⟨Hv2, f2, t1.fz sv tp (fun a h => i1 a h) h2⟩
end
def gOf (f : List T → Option RT) (ds : List D) : Option D := match f (ds.map .fr) with
  | some (.ok _ t) => t.d
  | _ => none
theorem rd_callT {K : PySem.W.Frag} {σ : St} {H : Hp} {Q : VK} {f : List T → Option RT} {fa : En → Option (List D)} (h : rdE K (eCB (gOf f) fa) σ H Q) : tCallS (spT K f) (fun _ => E0) (PD.rdA K fa) σ H Q := by
  obtain ⟨Hv, ρ, d, e, en, f', k⟩ := h
  obtain ⟨ds, h1, f'⟩ := bind_some2 f'
  refine ⟨Hv, ρ, ds, e, en, h1, fun vs H1 Hv1 s1 d1 => ?_⟩
  unfold gOf at f'
  split at f'
  · rename_i ts t hf
    refine ⟨Hv1, [], ds.map .fr, _, ⟨s1.c, fun _ h => (nomatch h), fun _ h => (nomatch h), List.nodup_nil⟩, tns_fr d1, hf, ?_⟩
    intro v H2 Hv2 fp' ft fr _ tv
    obtain ⟨Hv3, f3, q⟩ := freeze fr.w tv f'
    have f4 := fr.trans f3
    exact k v H2 Hv3 (s1.trans ⟨fun p o e => f4.out p o e (by simp), f4.b, f4.w.c, fun p o m e n => (f4.h p o e m n (by simp)).1⟩) q
  · cases f'
section
variable {X : Cx} {e : Expr} {es : List Expr} {pos p : Pos} {k : Nat} {fa : Addr} {fd : FuncData} {ps : List Str} {x : Str} {f : List T → Option RT} {ff : En → Option (List D)}
theorem passE0 (σ : St) : PassesAt (L2.CX X.prog X.w) X σ ((fun _ => E0) σ) := fun _ _ _ _ _ _ c => by
  obtain ⟨_, _, _, _, _, _, _, _, _, _, _, _, e⟩ := c
  exact e.elim
theorem pd_callT (F : FnOk X.prog X.w X.K X.mg X.base (L2.CX X.prog X.w) k fa fd ps (spT X.K f)) (hr : Room k X.A) (hg : Gl X x) (hm : X.mg x = some (.ref fa)) (hk : PySem.W.keepIn X.K (.ref fa) = true) (hb : Binds X.K fd ps [])
    (ha : PA X (e :: es) (PD.rdA X.K ff)) (hdb : (x == ("__debug__" : Str)) = false := by decide) (he : starEach (e :: es) X.env = (false, eval e X.env) :: starEach es X.env := by rfl) (hpl : (backTo pos (starEach es X.env)).any (·.1) = false := by rfl) :
    PE X (.Call (.Name x p) (e :: es) [] pos) (rdE X.K (eCB (gOf f) ff)) := pe_imp (pe_callS F hr hg hm hk hb (fun σ => passE0 σ) ha hdb he hpl) fun _ _ _ => rd_callT
end
end PO
namespace PO
open PySem L2 PD
/-! ### C(..): a new instance -/
def tMakeS (C : Addr) (sp : Sp) (E : St → XK) (t : TA) : TE := fun σ H Q => t σ H fun vs H1 => ∀ x dx, H1 x = none → H1 dx = none → dx ≠ x →
  sp (.ref x :: vs) (upd (upd H1 dx (.own x)) x (.ins C dx [])) (fun v H2 => v = .non ∧ Q (.ref x) H2) (E σ)
section
variable {X : Cx} {CX : CXT} {k : Nat} {f C : Addr} {fd : FuncData} {ps : List Str} {sp : Sp} {E : St → XK} {x : Str} {p pos : Pos} {e : Expr} {es : List Expr} {t : TA}
theorem run_makeS {pins : List (Addr × Obj)} {σ : St} {H : Hp} {s : Shared} {Q : VK} {us : List Value} {vs : List V} (M : Mk X.K C f) (F : FnOk X.prog X.w X.K X.mg X.base CX k f fd ps sp)
    (hr : Room (k + 1) X.A) (hb : Binds X.K fd ps []) (hx : PassesAt CX X σ (E σ)) (I : Inv X pins σ H s) (r : Vals vs us)
    (q : ∀ x dx, H x = none → H dx = none → dx ≠ x → sp (.ref x :: vs) (upd (upd H dx (.own x)) x (.ins C dx [])) (fun v H2 => v = .non ∧ Q (.ref x) H2) (E σ)) :
    wpAny (model X.prog X.w) X.A (call (.ref C) us) (EP X pins σ Q) X.xe s := by
  have n1 : H (s.heap.objs.size + 1) = none := I.hok.fresh (Nat.le_succ _)
  have n0 : H s.heap.objs.size = none := I.hok.fresh (Nat.le_refl _)
  have q1 := q (s.heap.objs.size + 1) s.heap.objs.size n1 n0 (Nat.ne_of_lt (Nat.lt_succ_self _))
  have J := Inv.made (C := C) I
  have rr : Vals (V.ref (s.heap.objs.size + 1) :: vs) (Value.ref (s.heap.objs.size + 1) :: us) := .cons rfl r
  have ln : (Value.ref (s.heap.objs.size + 1) :: us).length = ps.length := by
    rw [← rr.length]; exact F.len _ _ _ _ q1
  have bd := hb _ (Value.ref (s.heap.objs.size + 1) :: us) J.kIn (by rw [List.append_nil]; exact ln)
  rw [List.append_nil] at bd
  have run := F.run _ X.stack _ _ ⟨Value.ref (s.heap.objs.size + 1) :: us, []⟩ (Value.ref (s.heap.objs.size + 1) :: us) _ _ (E σ) (hr.make C us []) (J.env0.make C us []) bd rr q1
  refine wpAny_call (make_map (f := f) I.kIn M.makes M.init (beq_iff_eq.mp M.fn) (codeAny_mono run fun o s' g => ?_))
  cases o with
  | error e => exact hx pins _ _ e s' J g
  | ok fl =>
    cases fl with
    | ret u => obtain ⟨v, H', J', rv, ev, g'⟩ := J.after g; subst ev; exact ⟨rv, ⟨V.ref (s.heap.objs.size + 1), H', J', rfl, g'⟩⟩
    | next => exact g.elim
    | brk => exact g.elim
    | cont => exact g.elim
theorem pe_makeS (M : Mk X.K C f) (F : FnOk X.prog X.w X.K X.mg X.base CX k f fd ps sp) (hr : Room (k + 1) X.A) (hg : Gl X x) (hm : X.mg x = some (.ref C)) (hb : Binds X.K fd ps []) (hx : ∀ σ, PassesAt CX X σ (E σ))
    (ha : PA X (e :: es) t) (hdb : (x == ("__debug__" : Str)) = false := by decide) (he : starEach (e :: es) X.env = (false, eval e X.env) :: starEach es X.env := by rfl)
    (hpl : (backTo pos (starEach es X.env)).any (·.1) = false := by rfl) : PE X (.Call (.Name x p) (e :: es) [] pos) (tMakeS C sp E t) := by
  refine ⟨fun pins s σ H Q I h => wpAny_Call_Name_kw (ld_glob I hg hm ?_ hdb)⟩
  refine PySem.W.callWith_K (h₀ := X.base) I.ok.mod.kin M.kp (thn (ha.run pos pins s σ H _ I h) fun us s1 ⟨vs, H1, I1, r, q⟩ => ⟨I1.kIn, ?_⟩) he hpl
  exact run_makeS M F hr hb (hx σ) I1 r q
theorem pe_makeS0 (M : Mk X.K C f) (F : FnOk X.prog X.w X.K X.mg X.base CX k f fd ps sp) (hr : Room (k + 1) X.A) (hg : Gl X x) (hm : X.mg x = some (.ref C)) (hb : Binds X.K fd ps []) (hx : ∀ σ, PassesAt CX X σ (E σ))
    (hdb : (x == ("__debug__" : Str)) = false := by decide) : PE X (.Call (.Name x p) [] [] pos) (tMakeS C sp E tNil) := by
  refine ⟨fun pins s σ H Q I h => wpAny_Call_Name_kw (ld_glob I hg hm ?_ hdb)⟩
  exact PySem.W.callWith_K0 I.kIn M.kp (run_makeS (us := []) (vs := []) M F hr hb (hx σ) I .nil h)
end
end PO
namespace PO
open PySem L2 PD
/-! ### methods of a list at a place -/
/-- what a list's method does: the children behind it, the value -/
structure LOp (K : PySem.W.Frag) (r : V → List V → Hp → VK → Prop) (eff : List T → List T → Option (List T × D)) : Prop where
  go : ∀ {Hv H : Hp} {a : Addr} {vs us : List V} {ts as ts2 : List T} {fc ft : List Addr} {d : D}, Same Hv H → H a = some (.lst vs) → Tns K Hv H vs ts fc → Tns K Hv H us as ft → eff ts as = some (ts2, d) →
    ∃ vs2 v, (∀ Q : VK, Q v (upd H a (.lst vs2)) → r (.ref a) us H Q) ∧ Dn K Hv v d ∧ ∀ H' fc', (∀ b ∈ ft, H' b = H b) → Tns K Hv H' vs ts fc' → Tns K Hv H' us as ft → ∃ fc2, Tns K Hv H' vs2 ts2 fc2 ∧ SubP fc2 (ft ++ fc')
def xBm (eff : List T → List T → Option (List T × D)) (n : EnT → Option (Nat × List Nat)) (as : EnT → Option (List T)) (ρ : EnT) : Option Rx := (n ρ).bind fun p => match nodeAt ρ p with
  | some (.nd .lst ts) => (as ρ).bind fun us => (eff ts us).map fun q => .ok (.fr q.2) (setAt ρ p (.nd .lst q.1))
  | _ => none
section
variable {K : PySem.W.Frag} {O : List Nat} {s0 : St} {W : WX} {σ : St} {H Hv H' Hv' H1 Hv1 : Hp} {fp fp' fp1 fr ft : List Addr} {ρ : EnT} {Q : VK} {D' : Ends} {r : V → List V → Hp → VK → Prop} {eff : List T → List T → Option (List T × D)}
theorem setAt_eq {p : Nat × List Nat} {t0 t : T} (e : ρ[p.1]? = some t0) : setAt ρ p t = ρ.set p.1 (putT t0 p.2 t) := by
  unfold setAt
  rw [List.getD_eq_getElem?_getD, e]; rfl
theorem rx_bm {n : EnT → Option (Nat × List Nat)} {as : EnT → Option (List T)} (op : LOp K r eff) (h : rdX K O s0 W (xBm eff n as) σ H Q) : tBM K "list" r (rdN K O s0 n) (rdPs K O s0 as) σ H Q := by
  obtain ⟨Hv, fp, ρ, o, k, e, p⟩ := h
  obtain ⟨q, h1, e⟩ := bind_some2 e
  split at e
  · rename_i ts hn
    obtain ⟨us, h2, e⟩ := bind_some2 e
    cases h3 : eff ts us with
    | none => rw [h3] at e; cases e
    | some x =>
      obtain ⟨ts2, d⟩ := x
      rw [h3] at e
      cases e
      refine ⟨Hv, fp, ρ, q.1, q.2, k, h1, fun v0 v' H1 Hv1 f1 st1 h0 ha => ?_⟩
      have k1 := k.go f1 st1
      have nd : (T.nd .lst ts) ≠ .dead := fun e => by cases e
      obtain ⟨a, vs, ev, ob, le, _⟩ := k1.put (ft := []) k1.w hn rfl h0 ha
      subst ev
      cases ob with
      | lst hi =>
        refine ⟨.inl ⟨rfl, _, SqL.of hi⟩, Hv1, fp, ρ, us, k1, h2, fun ws H2 Hv2 ft f2 st2 t2 => ?_⟩
        have k2 : OkT K O s0 σ ρ H2 Hv2 fp := k1.go (f2.trans (.drop f2.w (fun a h => List.mem_append_right _ h) k1.w.nd)) st2
        have ha2 := k1.at_keep hn h0 ha nd (f2.tpl k1.w) st2
        obtain ⟨fl, fc0, fr', e1, tn, _⟩ := k2.node hn h0 ha2 nd
        obtain ⟨a2, vs2, ev, ob2, le2, put⟩ := k2.put f2.w hn rfl h0 ha2
        cases ev
        cases ob2 with
        | lst hi2 =>
          cases tn with
          | nd ob3 r3 =>
            rename_i vs3 fc3
            cases ob3 with
            | lst hi3 =>
              rw [hi2] at hi3
              cases hi3
              obtain ⟨vs4, v, g1, g2, g3⟩ := op.go k2.w.c hi2 r3 t2 h3
              refine g1 Q ?_
              have tp : Tpl K H2 (upd H2 a (.lst vs4)) := tpl_upd hi2 rfl
              obtain ⟨fp2, t0, e0, k3, f3⟩ := put (.lst vs4) .lst ts2 vs4 rfl rfl (.lst upd_same) fun fc r n1 n2 => g3 (upd H2 a (.lst vs4)) fc (fun b hb => upd_ne (show b ≠ a from fun e => by rw [e] at hb; exact n2 hb)) (r.upd tp n1) (t2.upd tp n2)
              replace p : PoE K O s0 W σ H Hv fp Q (.ok (.fr d) (setAt ρ q (.nd .lst ts2))) := p
              rw [setAt_eq e0] at p
              exact p v _ _ fp2 [] ((f1.trans f2).trans f3) k3 (.fr g2)
  · cases e
theorem rx_bm0 {n : EnT → Option (Nat × List Nat)} (op : LOp K r eff) (h : rdX K O s0 W (xBm eff n psNil) σ H Q) : tBM0 K "list" r (rdN K O s0 n) σ H Q := by
  obtain ⟨Hv, fp, ρ, i, ps, k, e, g⟩ := rx_bm op h
  exact ⟨Hv, fp, ρ, i, ps, k, e, fun v0 v' H' Hv' f st h0 ha => let ⟨a, b⟩ := g v0 v' H' Hv' f st h0 ha; ⟨a, rp_nil b⟩⟩
/-! the methods -/
def efApp : List T → List T → Option (List T × D)
  | ts, [t] => if okLen ts.length then some (ts ++ [t], .non) else none
  | _, _ => none
def efPop : List T → List T → Option (List T × D)
  | ts, [] => match ts[ts.length - 1]? with
    | some (.fr d) => some (ts.dropLast, d)
    | _ => none
  | _, _ => none
def efPopAt : List T → List T → Option (List T × D)
  | ts, [.fr (.int i)] => if 0 ≤ i ∧ i < 1000000 then match ts[i.toNat]? with
    | some (.fr d) => some (ts.eraseIdx i.toNat, d)
    | _ => none
    else none
  | _, _ => none
def efIns : List T → List T → Option (List T × D)
  | ts, [.fr (.int i), t] => if okLen ts.length = true ∧ 0 ≤ i ∧ i < 1000000 then some (ts.take i.toNat ++ [t] ++ ts.drop i.toNat, .non) else none
  | _, _ => none
def efClr : List T → List T → Option (List T × D)
  | _, [] => some ([], .non)
  | _, _ => none
def efExt : List T → List T → Option (List T × D)
  | ts, [.nd .lst us] => if okLen (ts.length + us.length) then some (ts ++ us, .non) else none
  | _, _ => none
theorem Tns.one {v : V} {t : T} {f : List Addr} (h : Tn K Hv H v t f) : Tns K Hv H [v] [t] f := by
  have := Tns.cons h (Tns.nil (K := K) (Hv := Hv) (H := H))
  rwa [List.append_nil] at this
theorem Tns.inv1 {us : List V} {t : T} {f : List Addr} (h : Tns K Hv H us [t] f) : ∃ v, us = [v] ∧ Tn K Hv H v t f := by
  cases h with
  | cons h r =>
    cases r
    exact ⟨_, rfl, by rw [List.append_nil]; exact h⟩
theorem Tns.inv2 {us : List V} {t u : T} {f : List Addr} (h : Tns K Hv H us [t, u] f) : ∃ v w f1 f2, us = [v, w] ∧ f = f1 ++ f2 ∧ Tn K Hv H v t f1 ∧ Tn K Hv H w u f2 := by
  cases h with
  | cons h r =>
    obtain ⟨w, rfl, q⟩ := r.inv1
    exact ⟨_, _, _, _, rfl, rfl, h, q⟩
theorem Tns.nil0 {us : List V} {f : List Addr} (h : Tns K Hv H us [] f) : us = [] ∧ f = [] := by cases h; exact ⟨rfl, rfl⟩
theorem Tns.erase : ∀ {vs : List V} {ts : List T} {fp : List Addr} (i : Nat), Tns K Hv H vs ts fp → ∃ fc, Tns K Hv H (vs.eraseIdx i) (ts.eraseIdx i) fc ∧ fc.Sublist fp
  | _, _, _, _, .nil => ⟨[], .nil, .refl _⟩
  | _, _, _, 0, .cons (fp := f) (fps := fs) h r => ⟨fs, r, List.sublist_append_right _ _⟩
  | _, _, _, i + 1, .cons (fp := f) (fps := fs) h r => let ⟨fc, q, s⟩ := Tns.erase i r; ⟨f ++ fc, .cons h q, s.append_left f⟩
theorem Tns.dropLast : ∀ {vs : List V} {ts : List T} {fp : List Addr}, Tns K Hv H vs ts fp → ∃ fc, Tns K Hv H vs.dropLast ts.dropLast fc ∧ fc.Sublist fp
  | _, _, _, .nil => ⟨[], .nil, .refl _⟩
  | _, _, _, .cons h .nil => ⟨[], .nil, List.nil_sublist _⟩
  | _, _, _, .cons (fp := f) h (.cons h2 r) => let ⟨fc, q, s⟩ := Tns.dropLast (.cons h2 r); ⟨f ++ fc, .cons h q, s.append_left f⟩
theorem Tns.takedrop : ∀ {vs : List V} {ts : List T} {fp : List Addr} (i : Nat), Tns K Hv H vs ts fp → ∃ f1 f2, fp = f1 ++ f2 ∧ Tns K Hv H (vs.take i) (ts.take i) f1 ∧ Tns K Hv H (vs.drop i) (ts.drop i) f2
  | vs, ts, fp, 0, h => ⟨[], fp, rfl, by simp only [List.take_zero]; exact .nil, h⟩
  | _, _, _, i + 1, .nil => ⟨[], [], rfl, .nil, .nil⟩
  | _, _, _, i + 1, .cons (fp := f) h r => let ⟨f1, f2, e, a, b⟩ := Tns.takedrop i r; ⟨f ++ f1, f2, by rw [e, List.append_assoc], .cons h a, b⟩
theorem SubP.ofSub {x y z : List Addr} (h : x.Sublist y) : SubP x (z ++ y) := ⟨x, .refl _, h.trans (List.sublist_append_right _ _)⟩
theorem Tn.fr_inv {v : V} {d : D} {f : List Addr} (h : Tn K Hv H v (.fr d) f) : Dn K Hv v d ∧ f = [] := by cases h with | fr q => exact ⟨q, rfl⟩
theorem _root_.PD.Dn.int_inv {H : Hp} {v : V} {i : Int} (h : Dn K H v (.int i)) : v = .int i := by cases h; rfl
theorem Tns.get_fr {vs : List V} {ts : List T} {fp : List Addr} {j : Nat} {d : D} (r : Tns K Hv H vs ts fp) (e : ts[j]? = some (.fr d)) : ∃ v, vs[j]? = some v ∧ Dn K Hv v d := by
  obtain ⟨v, _, _, _, e1, _, q, _⟩ := r.at e
  exact ⟨v, e1, q.fr_inv.1⟩
theorem lop_app : LOp K rAppend efApp := ⟨fun {Hv H a vs us ts as ts2 fc ft d} _ hi r t2 e => by
  unfold efApp at e
  split at e
  · split at e
    · rename_i hl
      cases e
      obtain ⟨v, rfl, q⟩ := t2.inv1
      refine ⟨vs ++ [v], .non, fun Q h => ⟨a, vs, v, rfl, rfl, hi, by rw [r.length]; exact okLen_lt hl, h⟩, .non, fun H' fc' hk r' t' => ?_⟩
      obtain ⟨_, e', q'⟩ := t'.inv1
      cases e'
      exact r'.snocq q'
    · cases e
  · cases e⟩
theorem lop_pop : LOp K rPop efPop := ⟨fun {Hv H a vs us ts as ts2 fc ft d} _ hi r t2 e => by
  unfold efPop at e
  split at e
  · split at e
    · rename_i hg
      cases e
      obtain ⟨rfl, rfl⟩ := t2.nil0
      obtain ⟨v, g1, g2⟩ := r.get_fr hg
      refine ⟨vs.dropLast, v, fun Q h => ⟨a, vs, v, rfl, rfl, hi, by rw [r.length]; exact g1, h⟩, g2, fun H' fc' _ r' _ => ?_⟩
      obtain ⟨fc2, q, s⟩ := r'.dropLast
      exact ⟨fc2, q, .ofSub s⟩
    · cases e
  · cases e⟩
theorem lop_popAt : LOp K rPopAt efPopAt := ⟨fun {Hv H a vs us ts as ts2 fc ft d} _ hi r t2 e => by
  unfold efPopAt at e
  split at e
  · rename_i i
    split at e
    · rename_i hz
      split at e
      · rename_i hg
        cases e
        obtain ⟨v, rfl, q⟩ := t2.inv1
        obtain ⟨q9, rfl⟩ := q.fr_inv
        obtain rfl := q9.int_inv
        obtain ⟨v, g1, g2⟩ := r.get_fr hg
        have hlt := (List.getElem?_eq_some_iff.mp g1).1
        refine ⟨vs.eraseIdx i.toNat, v, fun Q h => ⟨a, vs, i, i.toNat, v, rfl, rfl, hi, by omega, by omega, seqIndex_nat hz.1 hlt, g1, h⟩, g2, fun H' fc' _ r' _ => ?_⟩
        obtain ⟨fc2, q, s⟩ := r'.erase i.toNat
        exact ⟨fc2, q, .ofSub s⟩
      · cases e
    · cases e
  · cases e⟩
theorem lop_ins : LOp K (fun x vs H Q => ∃ (l : Addr) (xs : List V) (i : Int) (y : V), x = .ref l ∧ vs = [.int i, y] ∧ H l = some (.lst xs) ∧ xs.length < sizeLine ∧ 0 ≤ i ∧ i < 2 ^ 63 ∧ Q .non (upd H l (.lst (xs.take i.toNat ++ [y] ++ xs.drop i.toNat)))) efIns := ⟨fun {Hv H a vs us ts as ts2 fc ft d} _ hi r t2 e => by
  unfold efIns at e
  split at e
  · rename_i i t
    split at e
    · rename_i hz
      cases e
      obtain ⟨v, w, f1, f2, rfl, rfl, q1, q2⟩ := t2.inv2
      obtain ⟨q9, rfl⟩ := q1.fr_inv
      obtain rfl := q9.int_inv
      refine ⟨_, .non, fun Q h => ⟨a, vs, i, w, rfl, rfl, hi, by rw [r.length]; exact okLen_lt hz.1, hz.2.1, by omega, h⟩, .non, fun H' fc' hk r' t' => ?_⟩
      obtain ⟨_, _, g1, g2, e1, e2, q3, q4⟩ := t'.inv2
      cases e1
      obtain ⟨_, rfl⟩ := q3.fr_inv
      simp only [List.nil_append] at e2
      subst e2
      obtain ⟨h1, h2, rfl, a1, a2⟩ := r'.takedrop i.toNat
      refine ⟨_, (a1.append (Tns.one q4)).append a2, SubP.ofPerm ?_⟩
      rw [List.perm_iff_count]
      intro b
      simp only [List.count_append, List.nil_append]
      omega
    · cases e
  · cases e⟩
theorem lop_clr : LOp K rClear efClr := ⟨fun {Hv H a vs us ts as ts2 fc ft d} _ hi r t2 e => by
  unfold efClr at e
  split at e
  · cases e
    obtain ⟨rfl, rfl⟩ := t2.nil0
    exact ⟨[], .non, fun Q h => ⟨a, vs, rfl, rfl, hi, h⟩, .non, fun H' fc' _ r' _ => ⟨[], .nil, [], .refl _, List.nil_sublist _⟩⟩
  · cases e⟩
theorem lop_ext : LOp K rExtend efExt := ⟨fun {Hv H a vs us ts as ts2 fc ft d} _ hi r t2 e => by
  unfold efExt at e
  split at e
  · rename_i ts' us'
    split at e
    · rename_i hl
      cases e
      obtain ⟨v, rfl, q⟩ := t2.inv1
      cases q with
      | nd ob rr =>
        rename_i b ws g
        cases ob with
        | lst hb =>
          refine ⟨vs ++ ws, .non, fun Q h => ⟨a, b, vs, ws, rfl, rfl, hi, hb, by rw [r.length, rr.length]; exact okLen_le hl, h⟩, .non, fun H' fc' hk r' t' => ?_⟩
          obtain ⟨_, e', q'⟩ := t'.inv1
          cases e'
          cases q' with
          | @nd _ _ ws' _ g' ob' rr' =>
            cases ob' with
            | lst hb' =>
              rw [hk b (by simp [own1, Kd.mb]), hb] at hb'
              cases hb'
              refine ⟨_, r'.append rr', ?_⟩
              refine ⟨g ++ fc', List.perm_append_comm, ?_⟩
              simp [own1, Kd.mb]
    · cases e
  · cases e⟩
end
section
variable {X : Cx} {O : List Nat} {s0 : St} {W : WX} {e : Expr}
theorem yx_bm {r : V → List V → Hp → VK → Prop} {eff : List T → List T → Option (List T × D)} {n : EnT → Option (Nat × List Nat)} {as : EnT → Option (List T)} (op : LOp X.K r eff) (h : PE X e (tBM X.K "list" r (rdN X.K O s0 n) (rdPs X.K O s0 as))) : PE X e (rdX X.K O s0 W (xBm eff n as)) := pe_imp h fun _ _ _ => rx_bm op
theorem yx_bm0 {r : V → List V → Hp → VK → Prop} {eff : List T → List T → Option (List T × D)} {n : EnT → Option (Nat × List Nat)} (op : LOp X.K r eff) (h : PE X e (tBM0 X.K "list" r (rdN X.K O s0 n))) : PE X e (rdX X.K O s0 W (xBm eff n psNil)) := pe_imp h fun _ _ _ => rx_bm0 op
end
end PO
namespace PO
open PySem L2 PD
/-! ### places within lists, tuples, dicts; stores there -/
def nIx (n : EnT → Option (Nat × List Nat)) (kf : En → Option D) (ρ : EnT) : Option (Nat × List Nat) := (n ρ).bind fun p => match nodeAt ρ p with
  | some (.nd .lst ts) => (asInt (kf (ful ρ))).bind fun z => (ixN ts.length z).map fun j => (p.1, p.2 ++ [j])
  | some (.nd .tup ts) => (asInt (kf (ful ρ))).bind fun z => (ixN ts.length z).map fun j => (p.1, p.2 ++ [j])
  | _ => none
def nKey (n : EnT → Option (Nat × List Nat)) (kf : En → Option D) (ρ : EnT) : Option (Nat × List Nat) := (n ρ).bind fun p => match nodeAt ρ p with
  | some (.nd (.dic ks) _) => ((kf (ful ρ)).bind keyD).bind fun key => (idxK key ks).map fun j => (p.1, p.2 ++ [j])
  | _ => none
def uSet (n : EnT → Option (Nat × List Nat)) (kf : En → Option D) (e : EnT → Option Rx) (ρ : EnT) : Option OutT := (e ρ).bind fun r => match r with
  | .xc x ρ1 => some (.xc x ρ1)
  | .ok t ρ1 => (n ρ1).bind fun p => match nodeAt ρ1 p with
    | some (.nd .lst ts) => (asInt (kf (ful ρ1))).bind fun z => (ixN ts.length z).map fun j => .nx (setAt ρ1 p (.nd .lst (ts.set j t)))
    | _ => none
def uAugL (g : Int → Int → Int) (n : EnT → Option (Nat × List Nat)) (kf ff : En → Option D) (ρ : EnT) : Option OutT := (n ρ).bind fun p => match nodeAt ρ p with
  | some (.nd .lst ts) => (asInt (kf (ful ρ))).bind fun z => if 0 ≤ z ∧ z < 1000000 then match ts[z.toNat]? with
    | some (.fr (.int a)) => (asInt (ff (ful ρ))).map fun b => .nx (setAt ρ p (.nd .lst (ts.set z.toNat (.fr (.int (g a b))))))
    | _ => none
    else none
  | _ => none
def uAugK (g : Int → Int → Int) (n : EnT → Option (Nat × List Nat)) (kf ff : En → Option D) (ρ : EnT) : Option OutT := (n ρ).bind fun p => match nodeAt ρ p with
  | some (.nd (.dic ks) ts) => ((kf (ful ρ)).bind keyD).bind fun key => (idxK key ks).bind fun j => if okLen ks.length && decide ks.Nodup then match ts[j]? with
    | some (.fr (.int a)) => (asInt (ff (ful ρ))).map fun b => .nx (setAt ρ p (.nd (.dic ks) (ts.set j (.fr (.int (g a b))))))
    | _ => none
    else none
  | _ => none
def uAugF (g : Int → Int → Int) (C : Addr) (f : Str) (n : EnT → Option (Nat × List Nat)) (ff : En → Option D) (ρ : EnT) : Option OutT := (n ρ).bind fun p => match nodeAt ρ p with
  | some (.nd (.ins C' ns) ts) => if C' = C ∧ ns.length < 1000 then (ns.idxOf? f).bind fun j => match ts[j]? with
    | some (.fr (.int a)) => (asInt (ff (ful ρ))).map fun b => .nx (setAt ρ p (.nd (.ins C' ns) (ts.set j (.fr (.int (g a b))))))
    | _ => none
    else none
  | _ => none
def uAug (g : Int → Int → Int) (i : Nat) (ff : En → Option D) (ρ : EnT) : Option OutT := match ρ[i]? with
  | some (.fr (.int a)) => (asInt (ff (ful ρ))).map fun b => .nx (ρ.set i (.fr (.int (g a b))))
  | _ => none
section
variable {K : PySem.W.Frag} {O : List Nat} {s0 : St} {W : WX} {σ : St} {H Hv H' Hv' H1 Hv1 : Hp} {fp fp' fp1 fr ft : List Addr} {ρ : EnT} {Q : VK} {D' : Ends}
theorem ixN_atI {α : Type} {l : List α} {z : Int} {j : Nat} {x : α} (h : ixN l.length z = some j) (e : l[j]? = some x) : atI l z = some x := by
  unfold atI
  rw [h]
  exact e
theorem ixN_lt {n : Nat} {z : Int} {j : Nat} (h : ixN n z = some j) : j < n := (ixN_seq h).2.1
theorem rn_ix {n : EnT → Option (Nat × List Nat)} {kf : En → Option D} (h : rdN K O s0 (nIx n kf) σ H Q) : tOp (rIx K) (rdN K O s0 n) (rdE K kf) σ H Q := by
  obtain ⟨Hv, fp, ρ, i, ps, k, e0, p⟩ := h
  unfold nIx at e0
  obtain ⟨q, h1, e⟩ := bind_some2 e0
  clear e0
  refine ⟨Hv, fp, ρ, q.1, q.2, k, h1, fun v0 v' H1 Hv1 f1 st1 h0 ha => ?_⟩
  have k1 := k.go f1 st1
  have go : ∀ (kd : Kd) (ts : List T), (kd = .lst ∨ kd = .tup) → nodeAt ρ q = some (.nd kd ts) → ((asInt (kf (ful ρ))).bind fun z => (ixN ts.length z).map fun j => (q.1, q.2 ++ [j])) = some (i, ps) →
      rdE K kf σ H1 fun y H' => rIx K v' y H' Q := fun kd ts hk hn e => by
    obtain ⟨z, hz, e⟩ := bind_some2 e
    cases hj : ixN ts.length z with
    | none => rw [hj] at e; cases e
    | some j =>
      rw [hj] at e
      cases e
      refine ⟨H1, ful ρ, _, .refl _, k1.full, asInt_some hz, fun y H2 Hv2 s q2 => ?_⟩
      obtain rfl := q2.int_inv
      have k2 := k1.grow s.a
      have f2 := Frm.grow k1.w s.a
      have st2 := stands k1.w s.a
      have ha2 := k1.at_keep hn h0 ha (fun e => by cases e) (f2.tpl k1.w) st2
      obtain ⟨fl, fc, fr', _, tn, _⟩ := k2.node hn h0 ha2 (fun e => by cases e)
      cases tn with
      | nd ob r =>
        have hl := ixN_lt hj
        obtain ⟨w, _, _, _, g1, _, _, _⟩ := r.at (List.getElem?_eq_getElem hl)
        have g0 := hj
        rw [← r.length] at g0
        have fin := p v0 w H2 _ (f1.trans f2) (fun a h => by rw [st2 a h, st1 a h]) h0 (ha2.snoc rfl ob g1)
        rcases hk with rfl | rfl
        · cases ob with
          | lst hi => exact .inl ⟨_, _, z, w, rfl, rfl, SqL.of hi, ixN_atI g0 g1, fin⟩
        · cases ob with
          | tup hi => exact .inr (.inl ⟨_, _, z, w, rfl, rfl, SqT.of hi, ixN_atI g0 g1, fin⟩)
  split at e
  · rename_i ts hn; exact go .lst ts (.inl rfl) hn e
  · rename_i ts hn; exact go .tup ts (.inr rfl) hn e
  · cases e
theorem idx_val {key : Key} : ∀ {kvs : List (Key × V)} {j : Nat}, idxK key (kvs.map (·.1)) = some j → ∃ v, valV kvs key = some v ∧ (kvs.map (·.2))[j]? = some v
  | [], j, e => by simp [idxK] at e
  | (g, x) :: r, j, e => by
    by_cases h : g = key
    · subst h
      simp only [List.map_cons, idxK, if_true, Option.some.injEq] at e
      subst e
      exact ⟨x, valV_pos rfl, rfl⟩
    · simp only [List.map_cons, idxK, if_neg h] at e
      cases e1 : idxK key (r.map (·.1)) with
      | none => simp [e1] at e
      | some i =>
        simp only [e1, Option.map_some, Option.some.injEq] at e
        subst e
        obtain ⟨v, h1, h2⟩ := idx_val e1
        exact ⟨v, by rw [valV_neg h]; exact h1, by simpa using h2⟩
theorem rn_key {n : EnT → Option (Nat × List Nat)} {kf : En → Option D} (h : rdN K O s0 (nKey n kf) σ H Q) : tDGet (rdN K O s0 n) (rdE K kf) σ H Q := by
  obtain ⟨Hv, fp, ρ, i, ps, k, e0, p⟩ := h
  unfold nKey at e0
  obtain ⟨q, h1, e⟩ := bind_some2 e0
  clear e0
  split at e
  · rename_i ks ts hn
    obtain ⟨key, h3, e⟩ := bind_some2 e
    obtain ⟨d, h4, h5⟩ := bind_some2 h3
    cases hj : idxK key ks with
    | none => rw [hj] at e; cases e
    | some j =>
      rw [hj] at e
      cases e
      refine ⟨Hv, fp, ρ, q.1, q.2, k, h1, fun v0 v' H1 Hv1 f1 st1 h0 ha => ?_⟩
      have k1 := k.go f1 st1
      refine ⟨H1, ful ρ, _, .refl _, k1.full, h4, fun y H2 Hv2 s q2 => ?_⟩
      have hy := key_dn q2 h5
      subst hy
      have k2 := k1.grow s.a
      have f2 := Frm.grow k1.w s.a
      have st2 := stands k1.w s.a
      have ha2 := k1.at_keep hn h0 ha (fun e => by cases e) (f2.tpl k1.w) st2
      obtain ⟨fl, fc, fr', _, tn, _⟩ := k2.node hn h0 ha2 (fun e => by cases e)
      cases tn with
      | nd ob r =>
        cases ob with
        | dic hi =>
          obtain ⟨w, g1, g2⟩ := idx_val hj
          refine ⟨_, w, rfl, ?_, p v0 w H2 _ (f1.trans f2) (fun a h => by rw [st2 a h, st1 a h]) h0 (ha2.snoc rfl (.dic hi) g2)⟩
          have := DGet.k (k := key) hi
          rwa [g1] at this
  · cases e
/-! stores -/
theorem ru_set {n : EnT → Option (Nat × List Nat)} {kf : En → Option D} {e : EnT → Option Rx} (h : rdU K O s0 W (uSet n kf e) D' σ H) : tAsg (rdX K O s0 W e) (gSub (rdN K O s0 n) (rdE K kf) rSetL) D' σ H := by
  obtain ⟨Hv, fp, ρ, o, k, e1, p⟩ := h
  obtain ⟨r, h1, e1⟩ := bind_some2 e1
  refine ⟨Hv, fp, ρ, r, k, h1, ?_⟩
  cases r with
  | xc x ρ1 => cases e1; exact fun d H' Hv' fp' f' k' x => p d σ H' Hv' fp' f' k' x
  | ok t ρ1 =>
    intro v H1 Hv1 fp1 ft f1 k1 t1
    simp only at e1
    obtain ⟨q, h2, e1⟩ := bind_some2 e1
    split at e1
    · rename_i ts hn
      obtain ⟨z, h3, e1⟩ := bind_some2 e1
      cases hj : ixN ts.length z with
      | none => rw [hj] at e1; cases e1
      | some j =>
        rw [hj] at e1
        cases e1
        refine hold k1 f1.w t1 h2 fun v0 v' H2 Hv2 k2 w2 f2 t2 h0 ha => ?_
        refine ⟨H2, ful ρ1, _, .refl _, k2.full, asInt_some h3, fun y H3 Hv3' s3 q3 => ?_⟩
        obtain rfl := q3.int_inv
        have k3 := k2.grow s3.a
        have f3 := Frm.grow w2 s3.a
        have st3 := stands w2 s3.a
        have t3 := t2.keep f3.b (f3.tpl w2) fun b hb => st3 b (List.mem_append_left _ hb)
        have ha3 := k2.at_keep hn h0 ha (fun e => by cases e) (f3.tpl w2) fun b hb => st3 b (List.mem_append_right _ hb)
        obtain ⟨a, vs, rfl, ob, le, put⟩ := k3.put f3.w hn rfl h0 ha3
        cases ob with
        | lst hi =>
          have g0 := hj
          rw [← le] at g0
          refine ⟨a, vs, z, j, rfl, rfl, hi, g0, ?_⟩
          have tp : Tpl K H3 (upd H3 a (.lst (vs.set j v))) := tpl_upd hi rfl
          obtain ⟨fp2, t0, e0, k4, f4⟩ := put (.lst (vs.set j v)) .lst (ts.set j t) (vs.set j v) rfl rfl (.lst upd_same) fun fc r n1 n2 => (r.upd tp n1).setq (ixN_lt hj) (t3.upd tp n2)
          replace p : PoU K O s0 W H Hv fp D' (.nx (setAt ρ1 q (.nd .lst (ts.set j t)))) := p
          rw [setAt_eq e0] at p
          exact p σ _ _ fp2 (((f1.trans f2).trans f3).trans f4) k4
    · cases e1
theorem ru_augL {g : Int → Int → Int} {n : EnT → Option (Nat × List Nat)} {kf ff : En → Option D} (h : rdU K O s0 W (uAugL g n kf ff) D' σ H) : tAugS (rdN K O s0 n) (rdE K kf) (rdE K ff) rGetL (ipI g) rSetL D' σ H := by
  obtain ⟨Hv, fp, ρ, o, k, e, p⟩ := h
  obtain ⟨q, h1, e⟩ := bind_some2 e
  split at e
  · rename_i ts hn
    obtain ⟨z, h3, e⟩ := bind_some2 e
    split at e
    case isFalse => cases e
    rename_i hz
    split at e
    · rename_i a ea
      cases h4 : asInt (ff (ful ρ)) with
      | none => rw [h4] at e; cases e
      | some b =>
        rw [h4] at e
        cases e
        refine ⟨Hv, fp, ρ, q.1, q.2, k, h1, fun v0 v' H1 Hv1 f1 st1 h0 ha => ?_⟩
        have k1 := k.go f1 st1
        refine ⟨H1, ful ρ, _, .refl _, k1.full, asInt_some h3, fun y H2 Hv2 s2 q2 => ?_⟩
        obtain rfl := q2.int_inv
        have nd : (T.nd .lst ts) ≠ .dead := fun e => by cases e
        have k2 := k1.grow s2.a
        have f2 := Frm.grow k1.w s2.a
        have ha2 := k1.at_keep hn h0 ha nd (f2.tpl k1.w) (stands k1.w s2.a)
        obtain ⟨fl, fc, fr', _, tn, _⟩ := k2.node hn h0 ha2 nd
        cases tn with
        | @nd a9 _ _ _ _ ob r =>
          cases ob with
          | lst hi =>
            obtain ⟨w, g1, g2⟩ := r.get_fr ea
            obtain rfl := g2.int_inv
            refine ⟨_, _, z, _, rfl, rfl, hi, hz.1, hz.2, g1, ?_⟩
            refine ⟨H2, ful ρ, _, .refl _, k2.full, asInt_some h4, fun y2 H3 Hv3 s3 q3 => ?_⟩
            obtain rfl := q3.int_inv
            refine ⟨a, b, rfl, rfl, ?_⟩
            have k3 := k2.grow s3.a
            have f3 := Frm.grow k2.w s3.a
            have ha3 := k2.at_keep hn h0 ha2 nd (f3.tpl k2.w) (stands k2.w s3.a)
            obtain ⟨a', vs, ev, ob, le, put⟩ := k3.put (ft := []) k3.w hn rfl h0 ha3
            cases ev
            cases ob with
            | lst hi3 =>
              have hl : z.toNat < ts.length := (List.getElem?_eq_some_iff.mp ea).1
              refine ⟨_, vs, z, z.toNat, rfl, rfl, hi3, by unfold ixN; rw [if_pos hz.1, if_pos (by rw [le]; omega)], ?_⟩
              have tp : Tpl K H3 (upd H3 a9 (.lst (vs.set z.toNat (.int (g a b))))) := tpl_upd hi3 rfl
              obtain ⟨fp2, t0, e0, k4, f4⟩ := put (.lst (vs.set z.toNat (.int (g a b)))) .lst (ts.set z.toNat (.fr (.int (g a b)))) _ rfl rfl (.lst upd_same) fun fc r n1 n2 => (r.upd tp n1).setq (ft := []) hl (.fr (.int _))
              replace p : PoU K O s0 W H Hv fp D' (.nx (setAt ρ q (.nd .lst (ts.set z.toNat (.fr (.int (g a b))))))) := p
              rw [setAt_eq e0] at p
              exact p σ _ _ fp2 (((f1.trans f2).trans f3).trans f4) k4
    · cases e
  · cases e
theorem ru_augK {g : Int → Int → Int} {n : EnT → Option (Nat × List Nat)} {kf ff : En → Option D} {rd : V → V → Hp → VK → Prop} (hr : ∀ i j H (Q : VK), Q (.int (g i j)) H → rd (.int i) (.int j) H Q) (h : rdU K O s0 W (uAugK g n kf ff) D' σ H) : sDAug (rdN K O s0 n) (rdE K kf) (rdE K ff) rd D' σ H := by
  obtain ⟨Hv, fp, ρ, o, k, e, p⟩ := h
  obtain ⟨q, h1, e⟩ := bind_some2 e
  split at e
  · rename_i ks ts hn
    obtain ⟨key, h3, e⟩ := bind_some2 e
    obtain ⟨d, h5, h6⟩ := bind_some2 h3
    obtain ⟨j, hj, e⟩ := bind_some2 e
    split at e
    case isFalse => cases e
    rename_i hc
    rw [Bool.and_eq_true] at hc
    have nk := of_decide_eq_true hc.2
    split at e
    · rename_i a ea
      cases h4 : asInt (ff (ful ρ)) with
      | none => rw [h4] at e; cases e
      | some b =>
        rw [h4] at e
        cases e
        refine ⟨Hv, fp, ρ, q.1, q.2, k, h1, fun v0 v' H1 Hv1 f1 st1 h0 ha => ?_⟩
        have k1 := k.go f1 st1
        refine ⟨H1, ful ρ, _, .refl _, k1.full, h5, fun y H2 Hv2 s2 q2 => ?_⟩
        have hy := key_dn q2 h6
        subst hy
        have nd : (T.nd (.dic ks) ts) ≠ .dead := fun e => by cases e
        have k2 := k1.grow s2.a
        have f2 := Frm.grow k1.w s2.a
        have ha2 := k1.at_keep hn h0 ha nd (f2.tpl k1.w) (stands k1.w s2.a)
        obtain ⟨fl, fc, fr', _, tn, _⟩ := k2.node hn h0 ha2 nd
        cases tn with
        | @nd a9 _ _ _ _ ob r =>
          cases ob with
          | @dic kvs hi =>
            obtain ⟨w, g1, g2⟩ := r.get_fr ea
            obtain rfl := g2.int_inv
            obtain ⟨w, g3, g4⟩ := idx_val hj
            rw [g4] at g1
            cases g1
            refine ⟨_, _, rfl, (by have := DGet.k (k := key) hi; rwa [g3] at this), ?_⟩
            refine ⟨H2, ful ρ, _, .refl _, k2.full, asInt_some h4, fun y2 H3 Hv3 s3 q3 => ?_⟩
            obtain rfl := q3.int_inv
            refine hr a b H3 _ ?_
            have k3 := k2.grow s3.a
            have f3 := Frm.grow k2.w s3.a
            have ha3 := k2.at_keep hn h0 ha2 nd (f3.tpl k2.w) (stands k2.w s3.a)
            obtain ⟨a', vs, ev, ob, le, put⟩ := k3.put (ft := []) k3.w hn rfl h0 ha3
            cases ev
            generalize hke : kvs.map (·.1) = ks0 at *
            cases ob with
            | @dic kvs3 hi3 =>
              have hl : kvs3.length < sizeLine := by
                have := okLen_lt hc.1
                simpa using this
              refine ⟨_, DPut.k hi3 hl, ?_⟩
              obtain ⟨g5, g6⟩ := putK_some (v := .int (g a b)) nk hj
              obtain ⟨g7, g8⟩ := any_idx hj
              have pe : putK kvs3 key (.int (g a b)) = kvs3.map (fun kv => if kv.1 = key then (kv.1, .int (g a b)) else kv) := by unfold putK; rw [if_pos g7]
              have tp : Tpl K H3 (upd H3 a9 (.dK (putK kvs3 key (.int (g a b))))) := tpl_upd hi3 rfl
              have hjl : j < ts.length := by rw [← le]; simpa using g8
              obtain ⟨fp2, t0, e0, k4, f4⟩ := put (.dK (putK kvs3 key (.int (g a b)))) (.dic (kvs3.map (·.1))) (ts.set j (.fr (.int (g a b)))) ((kvs3.map (·.2)).set j (.int (g a b))) rfl rfl (by rw [← g5, ← g6, ← pe]; exact .dic upd_same) fun fc r n1 n2 => (r.upd tp n1).setq (ft := []) hjl (.fr (.int _))
              replace p : PoU K O s0 W H Hv fp D' (.nx (setAt ρ q (.nd (.dic (kvs3.map (·.1))) (ts.set j (.fr (.int (g a b))))))) := p
              rw [setAt_eq e0] at p
              exact p σ _ _ fp2 (((f1.trans f2).trans f3).trans f4) k4
    · cases e
  · cases e
theorem ru_augF {g : Int → Int → Int} {C : Addr} {f : Str} {n : EnT → Option (Nat × List Nat)} {ff : En → Option D} {rd : V → V → Hp → VK → Prop} (hr : ∀ i j H (Q : VK), Q (.int (g i j)) H → rd (.int i) (.int j) H Q) (c : Cls K C) (na : NoAttr K C f) (h : rdU K O s0 W (uAugF g C f n ff) D' σ H) : sFldAug K (rdN K O s0 n) (rdE K ff) rd f D' σ H := by
  obtain ⟨Hv, fp, ρ, o, k, e, p⟩ := h
  obtain ⟨q, h1, e9⟩ := bind_some2 e
  clear e
  rename _ => e
  split at e
  · rename_i C' ns ts hn
    by_cases hc : C' = C ∧ ns.length < 1000
    case neg => rw [if_neg hc] at e; cases e
    rw [if_pos hc] at e
    obtain ⟨rfl, hl⟩ := hc
    obtain ⟨j, hj, e⟩ := bind_some2 e
    split at e
    · rename_i a ea
      cases h4 : asInt (ff (ful ρ)) with
      | none => rw [h4] at e; cases e
      | some b =>
        rw [h4] at e
        cases e
        refine ⟨Hv, fp, ρ, q.1, q.2, k, h1, fun v0 v' H1 Hv1 f1 st1 h0 ha => ?_⟩
        have k1 := k.go f1 st1
        have nd : (T.nd (.ins C' ns) ts) ≠ .dead := fun e => by cases e
        obtain ⟨fl, fc, fr', _, tn, _⟩ := k1.node hn h0 ha nd
        cases tn with
        | @nd a9 _ _ _ _ ob r =>
          cases ob with
          | @ins _ _ fs0 hi =>
            obtain ⟨w, g1, g2⟩ := r.get_fr ea
            obtain rfl := g2.int_inv
            obtain ⟨w, g3, g4⟩ := lookup_idx hj
            rw [g4] at g1
            cases g1
            refine ⟨_, _, _, _, _, rfl, hi, c, na, g3, ?_⟩
            refine ⟨H1, ful ρ, _, .refl _, k1.full, asInt_some h4, fun y2 H3 Hv3 s3 q3 => ?_⟩
            obtain rfl := q3.int_inv
            refine hr a b H3 _ ?_
            have k3 := k1.grow s3.a
            have f3 := Frm.grow k1.w s3.a
            have ha3 := k1.at_keep hn h0 ha nd (f3.tpl k1.w) (stands k1.w s3.a)
            obtain ⟨a', vs, ev, ob, le, put⟩ := k3.put (ft := []) k3.w hn rfl h0 ha3
            cases ev
            generalize hke : fs0.map (·.1) = ns0 at *
            cases ob with
            | @ins _ dx fs hi3 =>
              refine ⟨_, fs, hi3, by simpa using hl, ?_⟩
              obtain ⟨g5, g6⟩ := putF_some (v := .int (g a b)) hj
              have tp : Tpl K H3 (upd H3 a9 (.ins C' dx (putF f (.int (g a b)) fs))) := tpl_upd hi3 rfl
              have hjl : j < ts.length := by
                rw [← le]
                obtain ⟨_, _, l2⟩ := lookup_idx hj
                exact (List.getElem?_eq_some_iff.mp l2).1
              obtain ⟨fp2, t0, e0, k4, f4⟩ := put (.ins C' dx (putF f (.int (g a b)) fs)) (.ins C' (fs.map (·.1))) (ts.set j (.fr (.int (g a b)))) ((fs.map (·.2)).set j (.int (g a b))) rfl rfl (by rw [← g5, ← g6]; exact .ins upd_same) fun fc r n1 n2 => (r.upd tp n1).setq (ft := []) hjl (.fr (.int _))
              replace p : PoU K O s0 W H Hv fp D' (.nx (setAt ρ q (.nd (.ins C' (fs.map (·.1))) (ts.set j (.fr (.int (g a b))))))) := p
              rw [setAt_eq e0] at p
              exact p σ _ _ fp2 ((f1.trans f3).trans f4) k4
    · cases e
  · cases e
theorem ru_aug {g : Int → Int → Int} {i : Nat} {ff : En → Option D} (hi : i ∉ O) (h : rdU K O s0 W (uAug g i ff) D' σ H) : tAug i (rdE K ff) (ipI g) D' σ H := by
  obtain ⟨Hv, fp, ρ, o, k, e, p⟩ := h
  unfold uAug at e
  split at e
  · rename_i a ea
    cases h4 : asInt (ff (ful ρ)) with
    | none => rw [h4] at e; cases e
    | some b =>
      rw [h4] at e
      cases e
      obtain ⟨_, _, _, _, c, _⟩ := k.es.at ea
      rcases c with ⟨e', _⟩ | ⟨v, h1, h2⟩
      · cases e'
      · obtain ⟨h2, _⟩ := h2.fr_inv
        obtain rfl := h2.int_inv
        refine ⟨_, h1, H, ful ρ, _, .refl _, k.full, asInt_some h4, fun y H1 Hv1 s1 q1 => ?_⟩
        obtain rfl := q1.int_inv
        refine ⟨a, b, rfl, rfl, ?_⟩
        have k1 := k.grow s1.a
        have f1 := Frm.grow k.w s1.a
        obtain ⟨fp1, k2, w2, s2⟩ := k1.set (ft := []) (rest := []) (t := .fr (.int (g a b))) hi (List.getElem?_eq_some_iff.mp ea).1 (.fr (.int _)) k1.w
        exact p _ _ _ fp1 (f1.trans (.drop k1.w s2 w2.nd)) k2
  · cases e
end
section
variable {X : Cx} {O : List Nat} {s0 : St} {W : WX} {e o i : Expr} {st : Stmt} {pos : Pos}
theorem yn_ix {n : EnT → Option (Nat × List Nat)} {kf : En → Option D} (ho : PE X o (rdN X.K O s0 n)) (hi : PE X i (rdE X.K kf)) (hs : PlainIx i := by exact fun _ _ => rfl) : PE X (.Subscript o i pos) (rdN X.K O s0 (nIx n kf)) := pe_imp (pe_ix ix_seq ho hi hs) fun _ _ _ => rn_ix
theorem yn_key {n : EnT → Option (Nat × List Nat)} {kf : En → Option D} (hu : X.A.units + 1 < cLine) (ho : PE X o (rdN X.K O s0 n)) (hi : PE X i (rdE X.K kf)) (hs : NoSl i := by exact fun _ _ => rfl) : PE X (.Subscript o i pos) (rdN X.K O s0 (nKey n kf)) := pe_imp (pe_dget hu ho hi hs) fun _ _ _ => rn_key
theorem yu_set {n : EnT → Option (Nat × List Nat)} {kf : En → Option D} {f : EnT → Option Rx} (h : PS X st (tAsg (rdX X.K O s0 W f) (gSub (rdN X.K O s0 n) (rdE X.K kf) rSetL))) : PS X st (rdU X.K O s0 W (uSet n kf f)) := ps_imp h fun _ _ _ => ru_set
theorem yu_augL {g : Int → Int → Int} {n : EnT → Option (Nat × List Nat)} {kf ff : En → Option D} (h : PS X st (tAugS (rdN X.K O s0 n) (rdE X.K kf) (rdE X.K ff) rGetL (ipI g) rSetL)) : PS X st (rdU X.K O s0 W (uAugL g n kf ff)) := ps_imp h fun _ _ _ => ru_augL
theorem rAdd_int : ∀ (i j : Int) (H : Hp) (Q : VK), Q (.int (i + j)) H → rAdd (.int i) (.int j) H Q := fun i j H Q q => ⟨i, j, rfl, rfl, q⟩
theorem yu_augK {n : EnT → Option (Nat × List Nat)} {kf ff : En → Option D} (h : PS X st (sDAug (rdN X.K O s0 n) (rdE X.K kf) (rdE X.K ff) rAdd)) : PS X st (rdU X.K O s0 W (uAugK (· + ·) n kf ff)) := ps_imp h fun _ _ _ => ru_augK rAdd_int
theorem yu_augF {C : Addr} {f : Str} {n : EnT → Option (Nat × List Nat)} {ff : En → Option D} (c : Cls X.K C) (na : NoAttr X.K C f) (h : PS X st (sFldAug X.K (rdN X.K O s0 n) (rdE X.K ff) rAdd f)) : PS X st (rdU X.K O s0 W (uAugF (· + ·) C f n ff)) := ps_imp h fun _ _ _ => ru_augF rAdd_int c na
theorem yu_aug {g : Int → Int → Int} {j : Nat} {ff : En → Option D} (ho : j ∉ O) (h : PS X st (tAug j (rdE X.K ff) (ipI g))) : PS X st (rdU X.K O s0 W (uAug g j ff)) := ps_imp h fun _ _ _ => ru_aug ho
end
end PO
namespace PO
open PySem L2 PD
/-! ### methods of frozen receivers, new instances, ghosts, dicts -/
def xMethP (C : Addr) (m : Str) (f : List T → Option RT) (g : EnT → Option T) (as : List Arg) (ρ : EnT) : Option Rx := match g ρ with
  | some (.fr (.ins C' fs)) => if C' = C ∧ m ∉ fs.map (·.1) then xCall f (.e g :: as) ρ else none
  | _ => none
def makeR (xs : List Av) (ρ : EnT) : RT → Option Rx
  | .ok (t :: ts) (.fr .non) => some (.ok t (back xs ts ρ))
  | .xc (_ :: ts) e => some (.xc e (back xs ts ρ))
  | _ => none
def xMake (C : Addr) (f : List T → Option RT) (as : List Arg) (ρ : EnT) : Option Rx := (argsA as ρ).bind fun xs => (lend xs ρ).bind fun q => (f (.nd (.ins C []) [] :: q.1)).bind fun r => makeR xs q.2 r
/-- the part at a place is kept: from now on it is only read -/
def fzAt (n : EnT → Option (Nat × List Nat)) (ρ : EnT) : Option EnT := (n ρ).bind fun p => (nodeAt ρ p).bind fun t => t.d.map fun d => setAt ρ p (.fr d)
def uGh (n : EnT → Option (Nat × List Nat)) (F : EnT → Option OutT) (ρ : EnT) : Option OutT := (fzAt n ρ).bind F
def xGh (n : EnT → Option (Nat × List Nat)) (F : EnT → Option Rx) (ρ : EnT) : Option Rx := (fzAt n ρ).bind F
section
variable {K : PySem.W.Frag} {O : List Nat} {s0 : St} {W : WX} {σ : St} {H Hv H' Hv' H1 Hv1 : Hp} {fp fp' fp1 fr ft : List Addr} {ρ : EnT} {Q : VK} {D' : Ends}
theorem dfs_names {fvs : List (Str × V)} {fs : List (Str × D)} (h : Dfs K H fvs fs) : fvs.map (·.1) = fs.map (·.1) := by
  induction fvs generalizing fs with
  | nil => cases h; rfl
  | cons p r ih => cases h with | cons q r' => rw [List.map_cons, List.map_cons, ih r']
theorem rx_methP {C : Addr} {m : Str} {f : List T → Option RT} {g : EnT → Option T} {as : List Arg} (h : rdX K O s0 W (xMethP C m f g as) σ H Q) : tMethS C m (spT K f) (WE W) (rdP K O s0 g) (rdA K O s0 as) σ H Q := by
  obtain ⟨Hv, fp, ρ, r, k, e, p⟩ := h
  unfold xMethP at e
  split at e
  · rename_i C' fs h1
    split at e
    · rename_i hc
      obtain ⟨rfl, hm⟩ := hc
      obtain ⟨xs, h2, e⟩ := bind_some2 e
      obtain ⟨q, h3, e⟩ := bind_some2 e
      simp only [argsA, h1, Option.bind_some] at h2
      cases h4 : argsA as ρ with
      | none => rw [h4] at h2; cases h2
      | some ys =>
        rw [h4] at h2
        cases h2
        cases h5 : f q.1 with
        | none => rw [h5] at e; cases e
        | some o =>
          rw [h5] at e
          cases e
          refine ⟨Hv, fp, ρ, _, k, h1, fun v H1 Hv1 ft1 f1 st1 t1 => ?_⟩
          have fd : Frm H Hv fp H1 Hv1 fp := f1.trans (.drop f1.w (fun a h => List.mem_append_right _ h) k.w.nd)
          have k1 := k.go fd st1
          have t1' := t1
          obtain ⟨dn, rfl⟩ := t1'.fr_inv
          cases dn with
          | ins hi hfs =>
            refine ⟨_, _, _, rfl, k1.w.c _ _ hi, lookup_no (by rw [dfs_names hfs]; exact hm), ?_⟩
            refine ⟨Hv1, fp, ρ, ys, k1, h4, fun vs H2 Hv2 ft2 f2 st2 ats => ?_⟩
            have fd2 : Frm H1 Hv1 fp H2 Hv2 fp := f2.trans (.drop f2.w (fun a h => List.mem_append_right _ h) k1.w.nd)
            have k2 := k1.go fd2 st2
            exact call_go (ft := [] ++ ft2) k2 f2.w (.t (t1.keep f2.b (f2.tpl k1.w) (fun a h => nomatch h)) ats) h3 h5 (PoE.trans (f1.trans f2) p)
    · cases e
  · cases e
theorem rx_make {C : Addr} {f : List T → Option RT} {as : List Arg} (h : rdX K O s0 W (xMake C f as) σ H Q) : tMakeS C (spT K f) (WE W) (rdA K O s0 as) σ H Q := by
  obtain ⟨Hv, fp, ρ, r, k, e, p⟩ := h
  obtain ⟨xs, h1, e⟩ := bind_some2 e
  obtain ⟨q, h2, e⟩ := bind_some2 e
  obtain ⟨o, h3, e⟩ := bind_some2 e
  refine ⟨Hv, fp, ρ, xs, k, h1, fun vs H1 Hv1 ft f1 st ats x dx nx ndx ne => ?_⟩
  have w1 := f1.w
  -- the new instance
  have wd := Frm.stp w1 (Stp.newH (o := .own x) w1.c ndx)
  have nx' : upd H1 dx (.own x) x = none := by rw [upd_ne (fun e => ne e.symm)]; exact nx
  have w2 := wd.w
  have wi := Frm.stp w2 (Stp.newH (o := .ins C dx []) w2.c nx')
  have nm : x ∉ ft ++ fp := w1.not_mem nx
  have f3 := Frm.new (wd.trans wi) (fun u e => by rw [nx] at e; cases e) nm (w1.c.free nx) upd_same rfl
  have keepH : ∀ a ∈ ft ++ fp, upd (upd H1 dx (.own x)) x (.ins C dx []) a = H1 a := fun a ha => by
    rw [upd_ne (show a ≠ x from fun e => by rw [e] at ha; exact nm ha), upd_ne (show a ≠ dx from fun e => by rw [e] at ha; exact w1.not_mem ndx ha)]
  have fd : Frm H Hv fp H1 Hv1 fp := f1.trans (.drop f1.w (fun a h => List.mem_append_right _ h) k.w.nd)
  have k1 := k.go fd st
  have tp : Tpl K H1 (upd (upd H1 dx (.own x)) x (.ins C dx [])) := (wd.trans wi).tpl w1
  have es2 := k1.es.keep (.refl _) tp fun a h => keepH a (List.mem_append_right _ h)
  have ats2 := ats.keep (.refl _) tp fun a h => keepH a (List.mem_append_left _ h)
  have w3 := f3.w
  have k2 : OkT K O s0 σ ρ (upd (upd H1 dx (.own x)) x (.ins C dx [])) Hv1 fp := ⟨es2, w3.sub (fun a h => List.mem_cons_of_mem _ (List.mem_append_right _ h)) k1.w.nd, k1.pin⟩
  have tn : Tn K Hv1 (upd (upd H1 dx (.own x)) x (.ins C dx [])) (.ref x) (.nd (.ins C []) []) [x] := by
    have := Tn.nd (K := K) (Hv := Hv1) (Ob.ins (K := K) (H := upd (upd H1 dx (.own x)) x (.ins C dx [])) (a := x) (C := C) (dx := dx) (fs := []) upd_same) .nil
    simpa [own1, Kd.mb] using this
  have hl : lend (.t (.nd (.ins C []) []) :: xs) ρ = some (.nd (.ins C []) [] :: q.1, q.2) := by simp only [lend, h2, Option.map_some]
  have atsx : ATs K Hv1 (upd (upd H1 dx (.own x)) x (.ins C dx [])) σ (.ref x :: vs) (.t (.nd (.ins C []) []) :: xs) ([x] ++ ft) := .t tn ats2
  -- as a call that gives its receiver
  obtain ⟨fa, fr, tns, es, pm⟩ := lend_ok atsx k2.es hl
  have w4 : Wf (upd (upd H1 dx (.own x)) x (.ins C dx [])) Hv1 ([x] ++ ft ++ fp) := by
    rw [List.append_assoc]; exact w3
  have wfr : Wf (upd (upd H1 dx (.own x)) x (.ins C dx [])) Hv1 (fr ++ fa) := w4.sub (fun a h => pm.mem_iff.mp (by simp only [List.mem_append] at h ⊢; exact h.symm)) (List.perm_append_comm.nodup_iff.mp (pm.nodup_iff.mpr w4.nd))
  have f3' : Frm H1 Hv1 (ft ++ fp) (upd (upd H1 dx (.own x)) x (.ins C dx [])) Hv1 ([x] ++ ft ++ fp) := by rw [List.append_assoc]; exact f3
  have fA : Frm H1 Hv1 (ft ++ fp) (upd (upd H1 dx (.own x)) x (.ins C dx [])) Hv1 (fr ++ fa) := f3'.trans (.drop w4 (fun a h => pm.mem_iff.mp (by simp only [List.mem_append] at h ⊢; exact h.symm)) wfr.nd)
  have wa := wfr.sub (fp' := fa) (fun a h => List.mem_append_right _ h) (List.nodup_append.mp wfr.nd).2.1
  have hlen : ∀ i, Av.b i ∈ xs → i < q.2.length := fun i hi => by
    obtain ⟨v, hv⟩ := ats_at ats i hi
    rw [← es.length]
    exact (List.getElem?_eq_some_iff.mp hv).1
  refine ⟨Hv1, fa, _, o, wa, tns, h3, ?_⟩
  unfold makeR at e
  split at e
  · rename_i t ts
    cases e
    intro v H' Hv' fp' ft' f2 tns2 tv
    obtain ⟨dv, rfl⟩ := tv.fr_inv
    cases dv
    refine ⟨rfl, ?_⟩
    have f4 := f2.add wfr
    simp only [List.nil_append] at f4
    have kp := f2.keep wfr
    have es3 := es.keep f2.b (f2.tpl wa) kp
    cases tns2 with
    | @cons _ _ _ _ fx fxs tx rx =>
      have w5 := f4.w
      have pm2 : (fr ++ (fx ++ fxs)).Perm (fx ++ (fxs ++ fr)) := by
        rw [List.perm_iff_count]; intro b; simp only [List.count_append]; omega
      have w6 : Wf H' Hv' (fx ++ (fxs ++ fr)) := w5.sub (fun a h => pm2.mem_iff.mpr h) (pm2.nodup_iff.mp w5.nd)
      have w7 : Wf H' Hv' (fxs ++ fr) := w6.sub (fun a h => List.mem_append_right _ h) (List.nodup_append.mp w6.nd).2.1
      have kk : OkT K O s0 σ q.2 H' Hv' fr := ⟨es3, w7.sub (fun a h => List.mem_append_right _ h) (List.nodup_append.mp w7.nd).2.1, k1.pin⟩
      obtain ⟨fp2, k3, s2⟩ := back_ok ats rx kk w7 hlen
      have nd2 : (fx ++ fp2).Nodup := List.nodup_append.mpr ⟨(List.nodup_append.mp w6.nd).1, k3.w.nd, fun a ha b hb e => (List.nodup_append.mp w6.nd).2.2 a ha b (s2 b hb) e⟩
      refine p (.ref x) H' Hv' fp2 fx (((f1.trans fA).trans f4).trans (.drop w5 (fun a h => ?_) nd2)) k3 tx
      rcases List.mem_append.mp h with h | h
      · exact pm2.mem_iff.mpr (List.mem_append_left _ h)
      · exact pm2.mem_iff.mpr (List.mem_append_right _ (s2 a h))
  · rename_i t ts x'
    cases e
    intro d H' Hv' fp' f2 tns2 xr
    have f4 := f2.add wfr
    have kp := f2.keep wfr
    have es3 := es.keep f2.b (f2.tpl wa) kp
    cases tns2 with
    | @cons _ _ _ _ fx fxs tx rx =>
      have w5 := f4.w
      have pm2 : (fr ++ (fx ++ fxs)).Perm (fx ++ (fxs ++ fr)) := by
        rw [List.perm_iff_count]; intro b; simp only [List.count_append]; omega
      have w6 : Wf H' Hv' (fx ++ (fxs ++ fr)) := w5.sub (fun a h => pm2.mem_iff.mpr h) (pm2.nodup_iff.mp w5.nd)
      have w7 : Wf H' Hv' (fxs ++ fr) := w6.sub (fun a h => List.mem_append_right _ h) (List.nodup_append.mp w6.nd).2.1
      have kk : OkT K O s0 σ q.2 H' Hv' fr := ⟨es3, w7.sub (fun a h => List.mem_append_right _ h) (List.nodup_append.mp w7.nd).2.1, k1.pin⟩
      obtain ⟨fp2, k3, s2⟩ := back_ok ats rx kk w7 hlen
      exact p d H' Hv' fp2 (((f1.trans fA).trans f4).trans (.drop w5 (fun a h => pm2.mem_iff.mpr (List.mem_append_right _ (s2 a h))) k3.w.nd)) k3 xr
  · cases e
theorem ok_fz {n : EnT → Option (Nat × List Nat)} {ρ' : EnT} (k : OkT K O s0 σ ρ H Hv fp) (e : fzAt n ρ = some ρ') : ∃ Hv2 fp2, OkT K O s0 σ ρ' H Hv2 fp2 ∧ Frm H Hv fp H Hv2 fp2 := by
  obtain ⟨p, h1, e⟩ := bind_some2 e
  obtain ⟨t, h2, e⟩ := bind_some2 e
  cases h3 : t.d with
  | none => rw [h3] at e; cases e
  | some d =>
    rw [h3] at e
    cases e
    have nd : t ≠ .dead := fun e => by subst e; simp [T.d] at h3
    obtain ⟨t0, h4, h5⟩ := bind_some2 h2
    obtain ⟨fl0, fc0, fr0, e1, c, k1, _⟩ := k.es.at h4
    rcases c with ⟨rfl, _⟩ | ⟨v0, a0, b0⟩
    · cases hp : p.2 with
      | nil => rw [hp] at h5; simp only [subT, Option.some.injEq] at h5; exact absurd h5.symm nd
      | cons j ps => rw [hp] at h5; simp [subT] at h5
    · obtain ⟨v', _, _, _, ha, _, _, _⟩ := b0.focus h5
      obtain ⟨fl, fc, fr', e2, tn, put⟩ := k.node h2 a0 ha nd
      subst e2
      have pm : (fl ++ (fc ++ fr')).Perm (fc ++ (fl ++ fr')) := perm_mid
      have w2 : Wf H Hv (fc ++ (fl ++ fr')) := k.w.sub (fun a h => pm.mem_iff.mpr h) (pm.nodup_iff.mp k.w.nd)
      obtain ⟨Hv2, f2, dn⟩ := freeze w2 tn h3
      obtain ⟨t0', e3, es⟩ := put Hv2 H (.fr d) [] f2.b (fun _ _ h => h) (fun _ _ => rfl) (fun _ _ => rfl) (.fr dn)
      refine ⟨Hv2, fl ++ fr', ⟨(by show Es K Hv2 H σ (setAt ρ p (.fr d)) (fl ++ fr'); rw [setAt_eq e3]; exact es), f2.w, k.pin⟩, (Frm.drop k.w (fun a h => pm.mem_iff.mpr h) w2.nd).trans f2⟩
theorem ru_gh {n : EnT → Option (Nat × List Nat)} {F : EnT → Option OutT} (h : rdU K O s0 W (uGh n F) D' σ H) : rdU K O s0 W F D' σ H := by
  obtain ⟨Hv, fp, ρ, o, k, e, p⟩ := h
  obtain ⟨ρ', h1, e⟩ := bind_some2 e
  obtain ⟨Hv2, fp2, k2, f2⟩ := ok_fz k h1
  exact ⟨Hv2, fp2, ρ', o, k2, e, PoU.trans f2 p⟩
theorem rx_gh {n : EnT → Option (Nat × List Nat)} {F : EnT → Option Rx} (h : rdX K O s0 W (xGh n F) σ H Q) : rdX K O s0 W F σ H Q := by
  obtain ⟨Hv, fp, ρ, o, k, e, p⟩ := h
  obtain ⟨ρ', h1, e⟩ := bind_some2 e
  obtain ⟨Hv2, fp2, k2, f2⟩ := ok_fz k h1
  exact ⟨Hv2, fp2, ρ', o, k2, e, PoE.trans f2 p⟩
/-! dicts: {}, dict(d), list(place) -/
def pDic0 (_ : EnT) : Option T := some (.nd (.dic []) [])
def pDicF (f : En → Option D) (ρ : EnT) : Option T := match f (frz ρ) with
  | some (.dic kds) => some (.nd (.dic (kds.map (·.1))) (kds.map fun p => .fr p.2))
  | _ => none
/-- dict(d), the values immutable -/
def pDicI (f : En → Option D) (ρ : EnT) : Option T := match f (ful ρ) with
  | some (.dic kds) => if imms (kds.map (·.2)) then some (.nd (.dic (kds.map (·.1))) (kds.map fun p => .fr p.2)) else none
  | _ => none
/-- list(xs) of a list at a place whose parts are frozen -/
def pCpL (n : EnT → Option (Nat × List Nat)) (ρ : EnT) : Option T := (n ρ).bind fun p => match nodeAt ρ p with
  | some (.nd .lst ts) => (frOf ts).map fun ds => .nd .lst (ds.map .fr)
  | _ => none
theorem rp_dic0 (h : rdP K O s0 pDic0 σ H Q) : tDNewK σ H Q := by
  obtain ⟨Hv, fp, ρ, t, k, e, p⟩ := h
  cases e
  intro a n
  have s := Stp.newH (o := .dK []) k.w.c n
  exact p _ _ Hv [a] (Frm.new (.stp k.w s) (noH n) (k.w.not_mem n) (k.w.c.free n) upd_same rfl) (stands k.w s.a) (Tn.nd (fp := []) (Ob.dic (kvs := []) upd_same) .nil)
theorem dks_split : ∀ {kvs : List (Key × V)} {kds : List (Key × D)}, Dks K Hv kvs kds → kvs.map (·.1) = kds.map (·.1) ∧ Dns K Hv (kvs.map (·.2)) (kds.map (·.2))
  | _, _, .nil => ⟨rfl, .nil⟩
  | _, _, .cons h r => let ⟨a, b⟩ := dks_split r; ⟨by rw [List.map_cons, List.map_cons, a], .cons h b⟩
theorem dns_immv (s : Same Hv H) : ∀ {vs : List V} {ds : List D}, Dns K H vs ds → imms ds = true → Dns K (tupV Hv H) vs ds
  | _, _, r, m => r.imm s m
theorem rp_dicF {f : En → Option D} {r : List V → Hp → VK → Prop} (hr : ∀ a kvs H (Q : VK), H a = some (.dK kvs) → (∀ p, H p = none → Q (.ref p) (upd H p (.dK kvs))) → r [.ref a] H Q) (h : rdP K O s0 (pDicF f) σ H Q) : tCB r (tCons (rdE K f) tNil) σ H Q := by
  obtain ⟨Hv, fp, ρ, t, k, e, p⟩ := h
  unfold pDicF at e
  split at e
  · rename_i kds e1
    cases e
    refine ⟨Hv, frz ρ, _, k.w.c, k.frz, e1, fun v H1 Hv1 s q => ?_⟩
    have k1 := k.stp s
    have f1 := Frm.stp k.w s
    cases q with
    | @dic _ kvs _ hi hk =>
      refine hr _ kvs H1 _ (k1.w.c _ _ hi) fun a n => ?_
      have s2 := Stp.newH (o := .dK kvs) k1.w.c n
      obtain ⟨e2, r2⟩ := dks_split hk
      have o := Ob.dic (K := K) (H := upd H1 a (.dK kvs)) (a := a) (kvs := kvs) upd_same
      rw [e2] at o
      have tn := tns_fr (H := upd H1 a (.dK kvs)) r2
      rw [List.map_map] at tn
      exact p _ _ Hv1 [a] (Frm.new (f1.trans (.stp k1.w s2)) (f1.gone n) (k1.w.not_mem n) (k1.w.c.free n) upd_same rfl) (fun b hb => by rw [stands k1.w s2.a b hb, stands k.w s.a b hb]) (Tn.nd (fp := []) o tn)
  · cases e
theorem rp_dicI {f : En → Option D} {r : List V → Hp → VK → Prop} (hr : ∀ a kvs H (Q : VK), H a = some (.dK kvs) → (∀ p, H p = none → Q (.ref p) (upd H p (.dK kvs))) → r [.ref a] H Q) (h : rdP K O s0 (pDicI f) σ H Q) : tCB r (tCons (rdE K f) tNil) σ H Q := by
  obtain ⟨Hv, fp, ρ, t, k, e, p⟩ := h
  unfold pDicI at e
  split at e
  · rename_i kds e1
    split at e
    · rename_i im
      cases e
      refine ⟨H, ful ρ, _, .refl _, k.full, e1, fun v H1 Hv1 s q => ?_⟩
      have k1 := k.grow s.a
      have f1 := Frm.grow k.w s.a
      cases q with
      | @dic _ kvs _ hi hk =>
        refine hr _ kvs H1 _ (s.c _ _ hi) fun a n => ?_
        have s2 := Stp.newH (o := .dK kvs) k1.w.c n
        obtain ⟨e2, r2⟩ := dks_split hk
        have o := Ob.dic (K := K) (H := upd H1 a (.dK kvs)) (a := a) (kvs := kvs) upd_same
        rw [e2] at o
        have r3 := (r2.mono s.c).imm (k.w.c.trans s.a) im
        have tn := tns_fr (H := upd H1 a (.dK kvs)) r3
        rw [List.map_map] at tn
        exact p _ _ _ [a] (Frm.new (f1.trans (.stp k1.w s2)) (f1.gone n) (k1.w.not_mem n) (k1.w.c.free n) upd_same rfl) (fun b hb => by rw [stands k1.w s2.a b hb, stands k.w s.a b hb]) (Tn.nd (fp := []) o tn)
    · cases e
  · cases e
theorem rp_cpL {n : EnT → Option (Nat × List Nat)} {r : List V → Hp → VK → Prop} (hr : ∀ a vs H (Q : VK), H a = some (.lst vs) → (∀ p, H p = none → Q (.ref p) (upd H p (.lst vs))) → r [.ref a] H Q) (h : rdP K O s0 (pCpL n) σ H Q) : tCB r (tCons (rdN K O s0 n) tNil) σ H Q := by
  obtain ⟨Hv, fp, ρ, t, k, e, p⟩ := h
  obtain ⟨q, h1, e⟩ := bind_some2 e
  split at e
  · rename_i ts hn
    cases h2 : frOf ts with
    | none => rw [h2] at e; cases e
    | some ds =>
      rw [h2] at e
      cases e
      refine ⟨Hv, fp, ρ, q.1, q.2, k, h1, fun v0 v' H1 Hv1 f1 st h0 ha => ?_⟩
      have k1 := k.go f1 st
      obtain ⟨fl, fc, fr', _, tn, _⟩ := k1.node hn h0 ha (fun e => by cases e)
      cases tn with
      | @nd _ _ vs _ _ ob rr =>
        cases ob with
        | lst hi =>
          obtain ⟨r2, _⟩ := tns_frOf rr h2
          refine hr _ vs H1 _ hi fun a n => ?_
          have s2 := Stp.newH (o := .lst vs) k1.w.c n
          exact p _ _ Hv1 [a] (Frm.new (f1.trans (.stp k1.w s2)) (f1.gone n) (k1.w.not_mem n) (k1.w.c.free n) upd_same rfl) (fun b hb => by rw [stands k1.w s2.a b hb, st b hb]) (Tn.nd (fp := []) (.lst upd_same) (tns_fr r2))
  · cases e
end
section
variable {X : Cx} {O : List Nat} {s0 : St} {W : WX} {k : Nat} {fa C : Addr} {fd : FuncData} {ps : List Str} {m x : Str} {pos apos p : Pos} {e o : Expr} {es : List Expr} {st : Stmt} {g : List T → Option RT} {as : List Arg} {gr : EnT → Option T}
theorem yx_methP {pl : Sem Bool} (he : PE X o (rdP X.K O s0 gr)) (c : Cls X.K C) (hm : Meth X.K C m fa) (F : FnOk X.prog X.w X.K X.mg X.base (L2.CX X.prog X.w) k fa fd ps (spT X.K g)) (hr : Room k X.A) (hb : Binds X.K fd ps []) (tk : Takes X W) (ha : PA X (e :: es) (rdA X.K O s0 as))
    (hst : starEach (e :: es) X.env = (false, eval e X.env) :: starEach es X.env := by rfl) (hpl : (backTo pos (starEach es X.env)).any (·.1) = false := by rfl)
    (ht : eval (.Call (.Attribute o m apos) (e :: es) [] pos) X.env = (do
      let ov ← eval o X.env
      standAt apos.atName
      let (f, first) ← holding [ov] (getMethod ov m pl)
      callWith pos f first (backTo pos (starEach (e :: es) X.env)) (backToKw pos (keywordEach [] X.env))) := by rfl) :
    PE X (.Call (.Attribute o m apos) (e :: es) [] pos) (rdX X.K O s0 W (xMethP C m g gr as)) := pe_imp (pe_methS he c hm F hr hb (fun σ => passAt tk σ) ha hst hpl ht) fun _ _ _ => rx_methP
theorem yx_methP0 {pl : Sem Bool} (he : PE X o (rdP X.K O s0 gr)) (c : Cls X.K C) (hm : Meth X.K C m fa) (F : FnOk X.prog X.w X.K X.mg X.base (L2.CX X.prog X.w) k fa fd ps (spT X.K g)) (hr : Room k X.A) (hb : Binds X.K fd ps []) (tk : Takes X W)
    (ht : eval (.Call (.Attribute o m apos) [] [] pos) X.env = (do
      let ov ← eval o X.env
      standAt apos.atName
      let (f, first) ← holding [ov] (getMethod ov m pl)
      callWith pos f first (backTo pos (starEach [] X.env)) (backToKw pos (keywordEach [] X.env))) := by rfl) :
    PE X (.Call (.Attribute o m apos) [] [] pos) (rdX X.K O s0 W (xMethP C m g gr [])) := pe_imp (pe_methS0 he c hm F hr hb (fun σ => passAt tk σ) ht) fun σ H Q h => by
  obtain ⟨Hv, fp, ρ, t, k, e, g⟩ := rx_methP h
  exact ⟨Hv, fp, ρ, t, k, e, fun v H' Hv' ft f st q => let ⟨a, dx, fs, e1, e2, e3, e4⟩ := g v H' Hv' ft f st q; ⟨a, dx, fs, e1, e2, e3, ra_nil e4⟩⟩
theorem yx_make (M : Mk X.K C fa) (F : FnOk X.prog X.w X.K X.mg X.base (L2.CX X.prog X.w) k fa fd ps (spT X.K g)) (hr : Room (k + 1) X.A) (hg : Gl X x) (hm : X.mg x = some (.ref C)) (hb : Binds X.K fd ps []) (tk : Takes X W)
    (ha : PA X (e :: es) (rdA X.K O s0 as)) (hdb : (x == ("__debug__" : Str)) = false := by decide) (he : starEach (e :: es) X.env = (false, eval e X.env) :: starEach es X.env := by rfl) (hpl : (backTo pos (starEach es X.env)).any (·.1) = false := by rfl) :
    PE X (.Call (.Name x p) (e :: es) [] pos) (rdX X.K O s0 W (xMake C g as)) := pe_imp (pe_makeS M F hr hg hm hb (fun σ => passAt tk σ) ha hdb he hpl) fun _ _ _ => rx_make
theorem yx_make0 (M : Mk X.K C fa) (F : FnOk X.prog X.w X.K X.mg X.base (L2.CX X.prog X.w) k fa fd ps (spT X.K g)) (hr : Room (k + 1) X.A) (hg : Gl X x) (hm : X.mg x = some (.ref C)) (hb : Binds X.K fd ps []) (tk : Takes X W)
    (hdb : (x == ("__debug__" : Str)) = false := by decide) : PE X (.Call (.Name x p) [] [] pos) (rdX X.K O s0 W (xMake C g [])) := pe_imp (pe_makeS0 M F hr hg hm hb (fun σ => passAt tk σ) hdb) fun _ _ _ h => ra_nil (rx_make h)
theorem yu_gh (n : EnT → Option (Nat × List Nat)) {F : EnT → Option OutT} (h : PS X st (rdU X.K O s0 W F)) : PS X st (rdU X.K O s0 W (uGh n F)) := ps_imp h fun _ _ _ => ru_gh
theorem yx_gh (n : EnT → Option (Nat × List Nat)) {F : EnT → Option Rx} (h : PE X e (rdX X.K O s0 W F)) : PE X e (rdX X.K O s0 W (xGh n F)) := pe_imp h fun _ _ _ => rx_gh
theorem yp_dic0 : PE X (.Dict [] [] pos) (rdP X.K O s0 pDic0) := pe_imp pe_dnewK fun _ _ _ => rp_dic0
theorem yp_dicF {f : En → Option D} (h : PE X e (tCB (fun xs H Q => ∃ (a : Addr) (kvs : List (Key × V)), xs = [.ref a] ∧ Rd H a (.dK kvs) ∧ ∀ p, H p = none → Q (.ref p) (upd H p (.dK kvs))) (tCons (rdE X.K f) tNil))) : PE X e (rdP X.K O s0 (pDicF f)) := pe_imp h fun _ _ _ => rp_dicF fun a kvs H Q h1 h2 => ⟨a, kvs, rfl, .inl h1, h2⟩
theorem yp_dicI {f : En → Option D} (h : PE X e (tCB (fun xs H Q => ∃ (a : Addr) (kvs : List (Key × V)), xs = [.ref a] ∧ Rd H a (.dK kvs) ∧ ∀ p, H p = none → Q (.ref p) (upd H p (.dK kvs))) (tCons (rdE X.K f) tNil))) : PE X e (rdP X.K O s0 (pDicI f)) := pe_imp h fun _ _ _ => rp_dicI fun a kvs H Q h1 h2 => ⟨a, kvs, rfl, .inl h1, h2⟩
theorem yp_cpL {n : EnT → Option (Nat × List Nat)} (h : PE X e (tCB (fun xs H Q => ∃ p ys, xs = [.ref p] ∧ (SqL X.K H p ys ∨ SqT X.K H p ys) ∧ ∀ l, H l = none → Q (.ref l) (upd H l (.lst ys))) (tCons (rdN X.K O s0 n) tNil))) : PE X e (rdP X.K O s0 (pCpL n)) := pe_imp h fun _ _ _ => rp_cpL fun a vs H Q h1 h2 => ⟨a, vs, rfl, .inl (SqL.of h1), h2⟩
end
end PO
namespace PO
open PySem L2 PD
/-! ### comprehensions that make owned parts; loops over ranges and kept lists; lists joined -/
def maskT : List Nat → EnT → EnT
  | [], ρ => ρ
  | i :: O, ρ => (maskT O ρ).set i .dead
def compT (own : List Nat) (t : Tgt) (test : En → Option Bool) (fe : EnT → Option Rx) : List D → EnT → Option (List T × EnT)
  | [], ρ => some ([], ρ)
  | d :: ds, ρ => (stT t (.fr d) ρ).bind fun ρ1 => (test (ful ρ1)).bind fun b => if b then (fe ρ1).bind fun r => match r with
    | .ok x ρ2 => (compT own t test fe ds (maskT own ρ2)).map fun q => (x :: q.1, q.2)
    | .xc _ _ => none
    else compT own t test fe ds (maskT own ρ1)
def xComp (own : List Nat) (src : En → Option (List D)) (t : Tgt) (test : En → Option Bool) (fe : EnT → Option Rx) (ρ : EnT) : Option Rx := (src (frz ρ)).bind fun ds => if okLen ds.length then (compT own t test fe ds (maskT own ρ)).map fun q => .ok (.nd .lst q.1) q.2 else none
def uForR (src : En → Option (List D)) (t : Tgt) (F : EnT → Option OutT) (ρ : EnT) : Option OutT := (src (ful ρ)).bind fun ds => loopU t F ds ρ
def uForN (n : EnT → Option (Nat × List Nat)) (t : Tgt) (F : EnT → Option OutT) (ρ : EnT) : Option OutT := (n ρ).bind fun p => match nodeAt ρ p with
  | some (.fr (.lst ds)) => loopU t F ds ρ
  | _ => none
def rdIr (K : PySem.W.Frag) (f : En → Option (List D)) : TI := fun σ H R => ∃ (Hv : Hp) (ρ : En) (ds : List D), Same Hv H ∧ EOk K Hv σ ρ ∧ f ρ = some ds ∧ ∀ J H1 Hv1, Stp H Hv H1 Hv1 → Walk K (fun _ => none) J ds → R J H1
def W0 : WX := fun _ _ _ _ => False
theorem takes0 {X : Cx} : Takes X W0 := fun _ _ ⟨_, _, _, _, _, _, _, _, _, _, _, _, _, _, _, _, w⟩ => w.elim
/-- a list at a place and a new one, joined: a new list -/
def pCatN (n : EnT → Option (Nat × List Nat)) (f : En → Option (List D)) (ρ : EnT) : Option T := (n ρ).bind fun p => match nodeAt ρ p with
  | some (.nd .lst ts) => (frOf ts).bind fun ds => (f (ful ρ)).bind fun es => if imms es && okLen (ds.length + es.length) then some (.nd .lst ((ds ++ es).map .fr)) else none
  | _ => none
section
variable {K : PySem.W.Frag} {O : List Nat} {s0 : St} {W : WX} {σ σ' : St} {H Hv H' Hv' H1 Hv1 : Hp} {fp fp' fp1 fr ft : List Addr} {ρ : EnT} {Q : VK} {D' : Ends} {F : EnT → Option OutT}
/-- another slots' row that agrees where something is told -/
theorem es_swap : ∀ {σ σ' : St} {ρ : EnT} {fp : List Addr}, Es K Hv H σ ρ fp → σ'.length = σ.length → (∀ (i : Nat) (t : T), ρ[i]? = some t → t ≠ .dead → σ'[i]? = σ[i]?) → Es K Hv H σ' ρ fp
  | _, [], _, _, .nil, _, _ => .nil
  | _, x :: r, _, _, .dead h, l, e => .dead (es_swap h (by simpa using l) fun i t a b => by have := e (i + 1) t (by simpa using a) b; simpa using this)
  | _, x :: r, _, _, .cons (v := v) (t := t) h1 h, l, e => by
    have rest := es_swap h (σ' := r) (by simpa using l) fun i t a b => by have := e (i + 1) t (by simpa using a) b; simpa using this
    by_cases hd : t = .dead
    · subst hd
      cases h1
      exact .dead rest
    · have := e 0 t rfl hd
      simp only [List.getElem?_cons_zero, Option.some.injEq] at this
      subst this
      exact .cons h1 rest
  | _, [], _, _, .dead h, l, _ => by simp at l
  | _, [], _, _, .cons _ h, l, _ => by simp at l
  | _, _ :: _, _, _, .nil, l, _ => by simp at l
theorem maskT_len : ∀ (own : List Nat) (ρ : EnT), (maskT own ρ).length = ρ.length
  | [], ρ => rfl
  | i :: O, ρ => by unfold maskT; rw [List.length_set, maskT_len O ρ]
theorem maskT_at : ∀ {own : List Nat} {ρ : EnT} {i : Nat} {t : T}, (maskT own ρ)[i]? = some t → t ≠ .dead → i ∉ own ∧ ρ[i]? = some t
  | [], ρ, i, t, h, _ => ⟨by simp, h⟩
  | j :: O, ρ, i, t, h, n => by
    unfold maskT at h
    by_cases e : j = i
    · subst e
      have hl := (List.getElem?_eq_some_iff.mp h).1
      rw [List.length_set] at hl
      rw [List.getElem?_set_self hl] at h
      cases h
      exact absurd rfl n
    · rw [List.getElem?_set_ne e] at h
      obtain ⟨a, b⟩ := maskT_at h n
      exact ⟨by simp only [List.mem_cons, not_or]; exact ⟨fun h => e h.symm, a⟩, b⟩
theorem es_mask : ∀ {own : List Nat} {ρ : EnT} {fp : List Addr}, Es K Hv H σ ρ fp → ∃ fp', Es K Hv H σ (maskT own ρ) fp' ∧ fp'.Sublist fp
  | [], ρ, fp, h => ⟨fp, h, .refl _⟩
  | i :: O, ρ, fp, h => by
    obtain ⟨fp1, h1, s1⟩ := es_mask (own := O) h
    unfold maskT
    cases e : (maskT O ρ)[i]? with
    | none =>
      have : (maskT O ρ).set i .dead = maskT O ρ := by
        apply List.ext_getElem?
        intro n
        by_cases hn : i = n
        · subst hn
          rw [e, List.getElem?_eq_none]
          rw [List.length_set]
          exact List.getElem?_eq_none_iff.mp e
        · rw [List.getElem?_set_ne hn]
      rw [this]
      exact ⟨fp1, h1, s1⟩
    | some t =>
      obtain ⟨fl, fc, fr', e1, _, _, k2⟩ := h1.at e
      subst e1
      exact ⟨fl ++ fr', k2 Hv H (.refl _) (fun _ _ h => h) (fun _ _ => rfl) (fun _ _ => rfl), ((List.sublist_append_right fc fr').append_left fl).trans s1⟩
/-- the comprehension's own names laid aside -/
theorem OkT.lay {own : List Nat} (ho : ∀ i ∈ own, i ∉ O) (k : OkT K O s0 σ ρ H Hv fp) (l : σ'.length = σ.length) (e : ∀ i, i ∉ own → σ'[i]? = σ[i]?) : ∃ fp', OkT K O s0 σ' (maskT own ρ) H Hv fp' ∧ fp'.Sublist fp := by
  obtain ⟨fp', h, s⟩ := es_mask (own := own) k.es
  refine ⟨fp', ⟨es_swap h l fun i t a b => e i (maskT_at a b).1, k.w.sub (fun a h => s.mem h) (s.nodup k.w.nd), fun i hi => ?_⟩, s⟩
  rw [e i (fun h => ho i h hi)]
  exact k.pin i hi
/-- a store to what is owned -/
theorem Frm.store {a : Addr} {o : HO} {r : List Addr} (w : Wf H Hv (a :: r)) (m : Mb o = true) : Frm H Hv (a :: r) (upd H a o) Hv (a :: r) := by
  have na : Hv a = none := w.hid a (by simp)
  refine ⟨fun p u e n => by rw [upd_ne (fun e' => n (by rw [e']; simp))]; exact e, .refl _, fun p u _ _ n q => ⟨n, q⟩, fun p u e => ?_, fun p hp => ?_, w.hid, w.nd⟩
  · rw [upd_ne (fun e' => by rw [e', na] at e; cases e)]; exact w.c _ _ e
  · by_cases e : p = a
    · subst e; exact ⟨o, upd_same, m⟩
    · rw [upd_ne e]; exact w.mc p hp
theorem rx_comp {own : List Nat} {src : En → Option (List D)} {tg : Tgt} {test : En → Option Bool} {fe : EnT → Option Rx} (ht : ∀ i ∈ tg.slots, i ∈ own) (ho : ∀ i ∈ own, i ∉ O) (h : rdX K O s0 W (xComp own src tg test fe) σ H Q) : tLc (rdI K src) (gTg K tg) (rdT K test) (rdX K O s0 W0 fe) own σ H Q := by
  obtain ⟨Hv, fp, ρ, r, k, e, p⟩ := h
  obtain ⟨ds, h1, e⟩ := bind_some2 e
  split at e
  case isFalse => cases e
  rename_i cl
  cases h2 : compT own tg test fe ds (maskT own ρ) with
  | none => rw [h2] at e; cases e
  | some res =>
    rw [h2] at e
    cases e
    refine ⟨Hv, frz ρ, ds, k.w.c, k.frz, h1, fun J H1 Hv1 s1 W1 => ?_⟩
    intro a ha
    have k1 := k.stp s1
    have f1 := Frm.stp k.w s1
    have sn := Stp.newH (o := .lst []) k1.w.c ha
    have kn := k1.stp sn
    have fn : Frm H Hv fp (upd H1 a (.lst [])) Hv1 (a :: fp) := Frm.new (f1.trans (.stp k1.w sn)) (f1.gone ha) (k1.w.not_mem ha) (k1.w.c.free ha) upd_same rfl
    obtain ⟨fp0, k0, s0'⟩ := kn.lay (σ' := wipe σ own) (own := own) ho (wipe_length ..) fun i hi => wipe_out hi
    have f0 : Frm H Hv fp (upd H1 a (.lst [])) Hv1 (a :: ([] ++ fp0)) := fn.trans (.drop fn.w (fun b hb => by
      rcases List.mem_cons.mp hb with rfl | hb
      · simp
      · exact List.mem_cons_of_mem _ (s0'.mem hb)) ((s0'.cons₂ a).nodup fn.w.nd))
    refine ⟨fun i m H2 => m = ds.length - i ∧ i ≤ ds.length ∧ ∃ Hv2 fp2 ρ2 vs ts fa rest, Frm H Hv fp H2 Hv2 (a :: (fa ++ fp2)) ∧ OkT K O s0 (wipe σ own) ρ2 H2 Hv2 fp2 ∧ H2 a = some (.lst vs) ∧ Tns K Hv2 H2 vs ts fa ∧ Same Hv1 Hv2 ∧
      compT own tg test fe (ds.drop i) ρ2 = some (rest, res.2) ∧ ts ++ rest = res.1 ∧ ts.length ≤ i ∧ (∀ j ∈ own, ∀ t, ρ2[j]? = some t → t = .dead),
      ⟨_, rfl, Nat.zero_le _, Hv1, fp0, _, [], [], [], res.1, f0, k0, upd_same, .nil, .refl _, h2, rfl, Nat.le_refl _, fun j hj t e => Classical.byContradiction fun n => (maskT_at e n).1 hj⟩, ?_⟩
    rintro i m H2 ⟨rfl, hi, Hv2, fp2, ρ2, vs, ts, fa, rest, f2, k2, l2, t2, sv2, c2, e2, len2, dd2⟩
    obtain ⟨w1, w2⟩ := W1 i H2 Hv2 sv2 k2.w.c
    by_cases hlt : i < ds.length
    · right
      have eg : ds[i]? = some ds[i] := List.getElem?_eq_getElem hlt
      obtain ⟨g1, g2⟩ := w1 _ eg
      refine ⟨g1, fun H3 => ∃ Hv2 fp2 ρ2 vs ts fa rest, Frm H Hv fp H3 Hv2 (a :: (fa ++ fp2)) ∧ OkT K O s0 (wipe σ own) ρ2 H3 Hv2 fp2 ∧ H3 a = some (.lst vs) ∧ Tns K Hv2 H3 vs ts fa ∧ Same Hv1 Hv2 ∧
        compT own tg test fe (ds.drop (i + 1)) ρ2 = some (rest, res.2) ∧ ts ++ rest = res.1 ∧ ts.length ≤ i + 1 ∧ (∀ j ∈ own, ∀ t, ρ2[j]? = some t → t = .dead),
        fun H' q => ⟨_, by omega, rfl, hlt, q⟩, fun x H3 y => ?_⟩
      obtain ⟨Hv3, s3, q3⟩ := g2 x H3 y
      rw [List.drop_eq_getElem_cons hlt] at c2
      unfold compT at c2
      obtain ⟨ρ3, st3, c2⟩ := bind_some2 c2
      obtain ⟨b, t3, c2⟩ := bind_some2 c2
      have f3 := f2.trans (.stp f2.w s3)
      have k3 := k2.stp s3
      have ot : ∀ i ∈ tg.slots, i ∉ O := fun i hi => ho i (ht i hi)
      refine gTg_T (ft := []) k3 ot (.fr q3) st3 k3.w fun σ4 fp4 k4 f4 o4 l4 => ⟨wipe_same l4 fun j hj => o4 j fun z => hj (ht j z), ?_⟩
      -- what is held beside
      have sub4 : ∀ b ∈ fp4, b ∈ fp2 := fun b hb => by
        obtain ⟨u, eu, mu⟩ := k4.w.mc b hb
        exact Classical.byContradiction fun hn => (f4.h b u eu mu (k4.w.hid b hb) hn).2 hb
      have wA : Wf H3 Hv3 (a :: (fa ++ fp4)) := f3.w.sub (fun b hb => by
        simp only [List.mem_cons, List.mem_append] at hb ⊢
        rcases hb with h | h | h
        · exact .inl h
        · exact .inr (.inl h)
        · exact .inr (.inr (sub4 b h))) (by
        have n := f3.w.nd
        rw [List.nodup_cons, List.nodup_append] at n
        rw [List.nodup_cons, List.nodup_append]
        refine ⟨fun h => n.1 ?_, n.2.1, k4.w.nd, fun b hb c hc e => n.2.2.2 b hb c (sub4 c hc) e⟩
        rcases List.mem_append.mp h with h | h
        · exact List.mem_append_left _ h
        · exact List.mem_append_right _ (sub4 a h))
      have fA : Frm H Hv fp H3 Hv3 (a :: (fa ++ fp4)) := f3.trans (.drop f3.w (fun b hb => by
        simp only [List.mem_cons, List.mem_append] at hb ⊢
        rcases hb with h | h | h
        · exact .inl h
        · exact .inr (.inl h)
        · exact .inr (.inr (sub4 b h))) wA.nd)
      have la3 := s3.a _ _ l2
      have tA := t2.keep s3.b (Frm.tpl (.stp f2.w s3) f2.w) fun b hb => stands f2.w s3.a b (by simp [hb])
      refine ⟨H3, ful ρ3, b, .refl _, k4.full, t3, fun H5 Hv5' s5 => ?_⟩
      have k5 := k4.grow s5.a
      have fG := Frm.grow wA s5.a
      have f5 := fA.trans fG
      have la5 := s5.a _ _ la3
      have t5 := tA.keep fG.b (fG.tpl wA) fun b hb => stands wA s5.a b (by simp [hb])
      have sv5 : Same Hv1 (tupV Hv3 H5) := (sv2.trans s3.b).trans fG.b
      have l4' : σ4.length = (wipe σ own).length := l4
      have o4' : ∀ j, j ∉ own → σ4[j]? = (wipe σ own)[j]? := fun j hj => o4 j fun z => hj (ht j z)
      cases b with
      | false =>
        simp only [Bool.false_eq_true, if_false] at c2
        obtain ⟨fp6, k6, s6⟩ := k5.lay (σ' := wipe σ own) (own := own) ho l4'.symm fun j hj => (o4' j hj).symm
        refine ⟨_, fp6, _, vs, ts, fa, rest, f5.trans (.drop f5.w (fun b hb => ?_) ?_), k6, la5, t5, sv5, c2, e2, Nat.le_succ_of_le len2, fun j hj t e => Classical.byContradiction fun n => (maskT_at e n).1 hj⟩
        · simp only [List.mem_cons, List.mem_append] at hb ⊢
          rcases hb with h | h | h
          · exact .inl h
          · exact .inr (.inl h)
          · exact .inr (.inr (s6.mem h))
        · exact (((s6.append_left fa).cons₂ a)).nodup f5.w.nd
      | true =>
        simp only [if_true] at c2
        obtain ⟨rx, x4, c2⟩ := bind_some2 c2
        refine ⟨_, fp4, ρ3, rx, k5, x4, ?_⟩
        cases rx with
        | xc _ _ => cases c2
        | ok xt ρ4 =>
          intro v H6 Hv6 fp6 ft f6 k6 t6
          simp only at c2
          cases c3 : compT own tg test fe (ds.drop (i + 1)) (maskT own ρ4) with
          | none => rw [c3] at c2; cases c2
          | some q' =>
            obtain ⟨rest', ρe⟩ := q'
            rw [c3] at c2
            cases c2
            have w5 : Wf H5 (tupV Hv3 H5) ((a :: fa) ++ fp4) := f5.w
            have f7 := f6.add w5
            have kp := f6.keep w5
            have la6 : H6 a = some (.lst vs) := by rw [kp a (by simp)]; exact la5
            have t7 := t5.keep f6.b (f6.tpl k5.w) fun b hb => kp b (by simp [hb])
            refine ⟨vs, la6, by rw [t7.length]; exact Nat.lt_of_le_of_lt (Nat.le_trans len2 hi) (okLen_lt cl), ?_⟩
            have w6 : Wf H6 Hv6 (a :: (fa ++ (ft ++ fp6))) := f7.w
            have fs := Frm.store (o := .lst (vs ++ [v])) w6 rfl
            have nda := (List.nodup_cons.mp w6.nd).1
            have tp : Tpl K H6 (upd H6 a (.lst (vs ++ [v]))) := tpl_upd la6 rfl
            have nm : ∀ b, b ∈ fa ++ (ft ++ fp6) → upd H6 a (.lst (vs ++ [v])) b = H6 b := fun b hb => upd_ne (fun e => nda (e ▸ hb))
            have k8 : OkT K O s0 σ4 ρ4 (upd H6 a (.lst (vs ++ [v]))) Hv6 fp6 := ⟨k6.es.keep (.refl _) tp fun b hb => nm b (by simp [hb]), fs.w.sub (fun b hb => by simp [hb]) k6.w.nd, k6.pin⟩
            obtain ⟨fp8, k9, s8⟩ := k8.lay (σ' := wipe σ own) (own := own) ho l4'.symm fun j hj => (o4' j hj).symm
            have t8 := t7.keep (.refl _) tp fun b hb => nm b (by simp [hb])
            have t9 := t6.keep (.refl _) tp fun b hb => nm b (by simp [hb])
            have f9 := ((f5.trans f7).trans fs)
            refine ⟨Hv6, fp8, _, vs ++ [v], ts ++ [xt], fa ++ ft, rest', f9.trans (.drop f9.w (fun b hb => ?_) ?_), k9, upd_same, t8.append (Tns.one t9), sv5.trans f6.b, c3, by rw [List.append_assoc]; exact e2, by rw [List.length_append]; simp; omega, fun j hj t e => Classical.byContradiction fun n => (maskT_at e n).1 hj⟩
            · simp only [List.mem_cons, List.mem_append] at hb ⊢
              rcases hb with h | (h | h) | h
              · exact .inl h
              · exact .inr (.inl h)
              · exact .inr (.inr (.inl h))
              · exact .inr (.inr (.inr (s8.mem h)))
            · rw [List.append_assoc]
              exact ((((s8.append_left ft).append_left fa).cons₂ a)).nodup f9.w.nd
    · left
      have ei : i = ds.length := by omega
      subst ei
      refine ⟨w2 (by simp), ?_⟩
      simp only [List.drop_length, compT, Option.some.injEq, Prod.mk.injEq] at c2
      obtain ⟨rfl, c2⟩ := c2
      rw [List.append_nil] at e2
      subst c2 e2
      refine p (.ref a) H2 Hv2 fp2 (own1 .lst a fa) (by simpa [own1, Kd.mb] using f2) ⟨es_swap k2.es (wipe_length ..).symm fun j t e1 n => ?_, k2.w, fun j hj => ?_⟩ (.nd (.lst l2) t2)
      · rw [wipe_out fun hj => n (dd2 j hj t e1)]
      · have := k2.pin j hj
        rw [wipe_out (fun h => ho j h hj)] at this
        exact this
theorem ri_r1r {f : En → Option (List D)} {R : It → Hp → Prop} (h : rdIr K (iR1 f) σ H R) : iRng1 (PD.rdA K f) σ H R := by
  obtain ⟨Hv, ρ, ds, e, en, f', k⟩ := h
  unfold iR1 at f'
  split at f'
  · rename_i j e1
    split at f'
    · rename_i c
      cases f'
      obtain ⟨c1, c2⟩ := small_of c
      refine ⟨Hv, ρ, _, e, en, e1, fun vs H' Hv' s q => ?_⟩
      cases q with
      | cons q r =>
        cases r
        cases q
        exact ⟨j, rfl, c1, c2, k _ H' Hv' s (walk_rng 0 _)⟩
    · cases f'
  · cases f'
theorem ri_r2r {f : En → Option (List D)} {R : It → Hp → Prop} (h : rdIr K (iR2 f) σ H R) : iRng2 (PD.rdA K f) σ H R := by
  obtain ⟨Hv, ρ, ds, e, en, f', k⟩ := h
  unfold iR2 at f'
  split at f'
  · rename_i i j e1
    split at f'
    · rename_i c
      cases f'
      rw [Bool.and_eq_true] at c
      obtain ⟨c1, c2⟩ := small_of c.1
      obtain ⟨c3, c4⟩ := small_of c.2
      refine ⟨Hv, ρ, _, e, en, e1, fun vs H' Hv' s q => ?_⟩
      cases q with
      | cons q r =>
        cases r with
        | cons q2 r =>
          cases r
          cases q
          cases q2
          exact ⟨i, j, rfl, ⟨c1, c2, c3, c4⟩, k _ H' Hv' s (walk_rng i _)⟩
    · cases f'
  · cases f'
theorem loop_go {J : It} {ds : List D} {o : OutT} {tg : Tgt} (ho : ∀ i ∈ tg.slots, i ∉ O) (k : OkT K O s0 σ ρ H1 Hv1 fp) (W1 : ∀ i H Hv, Same Hv1 Hv → Same Hv H → (∀ d, ds[i]? = some d → J.go i H ∧ ∀ x H', J.yld i H x H' → ∃ Hv', Stp H Hv H' Hv' ∧ Dn K Hv' x d) ∧ (ds[i]? = none → J.stop i H))
    (e : loopU tg F ds ρ = some o) (p : PoU K O s0 W H1 Hv1 fp D' o) : ∃ Wi : Nat → Nat → St → Hp → Prop, (∃ m, Wi 0 m σ H1) ∧ ∀ i m σ H, Wi i m σ H →
      (J.stop i H ∧ D'.nx σ H) ∨ (J.go i H ∧ ∃ Nx : St → Hp → Prop, (∀ σ' H', Nx σ' H' → ∃ m', m' < m ∧ Wi (i + 1) m' σ' H') ∧ ∀ x H', J.yld i H x H' → gTg K tg x σ H' fun σ2 H2 => rdU K O s0 W F { D' with nx := Nx, ct := Nx, bk := D'.nx } σ2 H2) := by
  refine ⟨fun i m σ' H' => m = ds.length - i ∧ i ≤ ds.length ∧ ∃ Hv' fp' ρ', Frm H1 Hv1 fp H' Hv' fp' ∧ OkT K O s0 σ' ρ' H' Hv' fp' ∧ Same Hv1 Hv' ∧ loopU tg F (ds.drop i) ρ' = some o, ⟨_, rfl, Nat.zero_le _, Hv1, fp, ρ, .refl k.w, k, .refl _, e⟩, ?_⟩
  rintro i m σ2 H2 ⟨rfl, hi, Hv2, fp2, ρ2, f2, k2, s2, e2⟩
  obtain ⟨w1, w2⟩ := W1 i H2 Hv2 s2 k2.w.c
  by_cases hlt : i < ds.length
  · right
    have eg : ds[i]? = some ds[i] := List.getElem?_eq_getElem hlt
    obtain ⟨g1, g2⟩ := w1 _ eg
    refine ⟨g1, fun σ' H' => ∃ Hv' fp' ρ', Frm H1 Hv1 fp H' Hv' fp' ∧ OkT K O s0 σ' ρ' H' Hv' fp' ∧ Same Hv1 Hv' ∧ loopU tg F (ds.drop (i + 1)) ρ' = some o, fun σ' H' ⟨Hv', fp', ρ', a, b, c, d⟩ => ⟨_, by omega, rfl, hlt, Hv', fp', ρ', a, b, c, d⟩, fun x H3 y => ?_⟩
    obtain ⟨Hv3, s3, q3⟩ := g2 x H3 y
    rw [List.drop_eq_getElem_cons hlt] at e2
    unfold loopU at e2
    obtain ⟨ρ3, st3, e2⟩ := bind_some2 e2
    obtain ⟨o3, b3, e2⟩ := bind_some2 e2
    have f3 := f2.trans (.stp k2.w s3)
    refine gTg_T (ft := []) (k2.stp s3) ho (.fr q3) st3 f3.w fun σ4 fp4 k4 f4 _ _ => ?_
    have f5 := f3.trans f4
    refine ⟨Hv3, fp4, ρ3, o3, k4, b3, ?_⟩
    have sv : Same Hv1 Hv3 := s2.trans s3.b
    cases o3 with
    | nx ρ' => exact fun σ5 H5 Hv5 fp5 f6 k5 => ⟨Hv5, fp5, ρ', f5.trans f6, k5, sv.trans f6.b, e2⟩
    | ct ρ' => exact fun σ5 H5 Hv5 fp5 f6 k5 => ⟨Hv5, fp5, ρ', f5.trans f6, k5, sv.trans f6.b, e2⟩
    | bk ρ' =>
      cases e2
      exact fun σ5 H5 Hv5 fp5 f6 k5 => p σ5 H5 Hv5 fp5 (f5.trans f6) k5
    | rt d ρ' =>
      cases e2
      exact PoU.trans f5 p
    | xc d ρ' =>
      cases e2
      exact PoU.trans f5 p
  · left
    have ei : i = ds.length := by omega
    subst ei
    refine ⟨w2 (by simp), ?_⟩
    simp only [List.drop_length, loopU, Option.some.injEq] at e2
    subst e2
    exact p σ2 H2 Hv2 fp2 f2 k2
theorem ru_forR {src : En → Option (List D)} {tg : Tgt} (ho : ∀ i ∈ tg.slots, i ∉ O) (h : rdU K O s0 W (uForR src tg F) D' σ H) : tFor (rdIr K src) (gTg K tg) (rdU K O s0 W F) D' σ H := by
  obtain ⟨Hv, fp, ρ, o, k, e, p⟩ := h
  obtain ⟨ds, h1, e⟩ := bind_some2 e
  refine ⟨H, ful ρ, ds, .refl _, k.full, h1, fun J H1 Hv1' s1 W1 => ?_⟩
  have k1 := k.grow s1.a
  exact loop_go ho k1 (fun i H Hv _ s => W1 i H Hv (fun _ _ e => by cases e) s) e (PoU.trans (.grow k.w s1.a) p)
theorem ru_forN {n : EnT → Option (Nat × List Nat)} {tg : Tgt} (ho : ∀ i ∈ tg.slots, i ∉ O) (h : rdU K O s0 W (uForN n tg F) D' σ H) : tFor (iList K (rdN K O s0 n)) (gTg K tg) (rdU K O s0 W F) D' σ H := by
  obtain ⟨Hv, fp, ρ, o, k, e, p⟩ := h
  obtain ⟨q, h1, e⟩ := bind_some2 e
  split at e
  · rename_i ds hn
    refine ⟨Hv, fp, ρ, q.1, q.2, k, h1, fun v0 v' H1 Hv1 f1 st h0 ha => ?_⟩
    have k1 := k.go f1 st
    obtain ⟨fl, fc, fr', _, tn, _⟩ := k1.node hn h0 ha (fun e => by cases e)
    obtain ⟨dn, _⟩ := tn.fr_inv
    cases dn with
    | lst hs r =>
      refine ⟨_, rfl, ⟨_, sameL k1.w.c hs⟩, ?_⟩
      exact loop_go ho k1 (fun i H Hv s1 s2 => walk_list' hs r i H Hv s1 s2) e (PoU.trans f1 p)
  · cases e
theorem rp_catN {n : EnT → Option (Nat × List Nat)} {f : En → Option (List D)} (h : rdP K O s0 (pCatN n f) σ H Q) : tOp rCat (rdN K O s0 n) (rdF K f) σ H Q := by
  obtain ⟨Hv, fp, ρ, t, k, e, p⟩ := h
  obtain ⟨q, h1, e⟩ := bind_some2 e
  split at e
  · rename_i ts hn
    obtain ⟨ds, h2, e⟩ := bind_some2 e
    obtain ⟨es, h3, e⟩ := bind_some2 e
    split at e
    · rename_i hc
      rw [Bool.and_eq_true] at hc
      cases e
      refine ⟨Hv, fp, ρ, q.1, q.2, k, h1, fun v0 v' H1 Hv1 f1 st h0 ha => ?_⟩
      have k1 := k.go f1 st
      refine ⟨H1, ful ρ, es, .refl _, k1.full, h3, fun b ws H2 Hv2' s2 nb _ lb rb => ?_⟩
      have k2 := k1.grow s2.a
      have f2 := Frm.grow k1.w s2.a
      have st2 := stands k1.w s2.a
      have ha2 := k1.at_keep hn h0 ha (fun e => by cases e) (f2.tpl k1.w) st2
      obtain ⟨fl, fc, fr', _, tn, _⟩ := k2.node hn h0 ha2 (fun e => by cases e)
      cases tn with
      | @nd a9 _ vs9 _ _ ob rr =>
        cases ob with
        | lst hi =>
          obtain ⟨r2, _⟩ := tns_frOf rr h2
          have r3 := (rb.mono s2.c).imm (k1.w.c.trans s2.a) hc.1
          refine ⟨_, b, vs9, ws, rfl, rfl, hi, lb, by rw [r2.length, rb.length]; exact okLen_le hc.2, fun l hl => ?_⟩
          have s3 := Stp.newH (o := .lst (vs9 ++ ws)) k2.w.c hl
          refine p _ _ _ [l] (Frm.new ((f1.trans f2).trans (.stp k2.w s3)) ((f1.trans f2).gone hl) (k2.w.not_mem hl) (k2.w.c.free hl) upd_same rfl) (fun b hb => by rw [stands k2.w s3.a b hb, st2 b hb, st b hb]) (Tn.nd (fp := []) (.lst upd_same) ?_)
          exact tns_fr (r2.append r3)
    · cases e
  · cases e
end
section
variable {X : Cx} {O : List Nat} {s0 : St} {W : WX} {e a b tg iter : Expr} {st : Stmt} {pos : Pos} {body : List Stmt} {F : EnT → Option OutT} {p : Pos}
theorem yx_comp {elt tg iter : Expr} {ifs : List Expr} {scope : Scope} {own : List (Str × Nat)} {src : En → Option (List D)} {t : Tgt} {test : En → Option Bool} {fe : EnT → Option Rx} (hc : X.calm = true) (hN : X.N.Nodup) (ht : ∀ i ∈ t.slots, i ∈ own.map (·.2)) (ho : ∀ i ∈ own.map (·.2), i ∉ O) (hi : PI X tg iter (rdI X.K src)) (ok : BlkOk X.N X.env.scope scope own)
    (hg : ∀ (s : Shared) (H : Hp) (C : Addr) (cl : List (Str × Addr)) (fp : List Addr), PG (X.blk s H scope (compEnvC scope cl C X.env) fp) tg (gTg X.K t)) (hts : ∀ (s : Shared) (H : Hp) (C : Addr) (cl : List (Str × Addr)) (fp : List Addr), PTs (X.blk s H scope (compEnvC scope cl C X.env) fp) ifs (rdT X.K test))
    (he : ∀ (s : Shared) (H : Hp) (C : Addr) (cl : List (Str × Addr)) (fp : List Addr), PE (X.blk s H scope (compEnvC scope cl C X.env) fp) elt (rdX X.K O s0 W0 fe)) (hs : ∀ x, foldedSetIterable iter X.env x = pure x := by intro _; rfl) :
    PE X (.ListComp elt [⟨tg, iter, ifs, 0⟩] scope pos) (rdX X.K O s0 W (xComp (own.map (·.2)) src t test fe)) := pe_imp (pe_lc hc hN hi ok hg hts he hs) fun _ _ _ => rx_comp ht ho
theorem yi_r1 {f : En → Option (List D)} (hg : Gl X "range") (hm : X.mg "range" = none) (ha : PA X [a] (PD.rdA X.K f)) (hs : starEach [a] X.env = [(false, eval a X.env)] := by rfl) : PI X tg (.Call (.Name "range" p) [a] [] pos) (rdIr X.K (iR1 f)) := pi_imp (pi_range1 hg hm ha hs) fun _ _ _ => ri_r1r
theorem yi_r2 {f : En → Option (List D)} (hg : Gl X "range") (hm : X.mg "range" = none) (ha : PA X [a, b] (PD.rdA X.K f)) (hs : starEach [a, b] X.env = [(false, eval a X.env), (false, eval b X.env)] := by rfl) (hs2 : starEach [b] X.env = [(false, eval b X.env)] := by rfl) : PI X tg (.Call (.Name "range" p) [a, b] [] pos) (rdIr X.K (iR2 f)) := pi_imp (pi_range2 hg hm ha hs hs2) fun _ _ _ => ri_r2r
theorem yu_forR {src : En → Option (List D)} {t : Tgt} (hp : PassesOwn (model X.prog X.w) X.A X.env X.xe) (hc : X.calm = true) (ho : ∀ i ∈ t.slots, i ∉ O) (hi : PI X tg iter (rdIr X.K src)) (hg : PG X tg (gTg X.K t)) (hb : PSs X body (rdU X.K O s0 W F))
    (hs : ∀ x, foldedSetIterable iter X.env x = pure x := by intro _; rfl) : PS X (.For tg iter body [] pos) (rdU X.K O s0 W (uForR src t F)) := ps_imp (ps_for hp hc hi hg hb hs) fun _ _ _ => ru_forR ho
theorem yu_forN {n : EnT → Option (Nat × List Nat)} {t : Tgt} (hp : PassesOwn (model X.prog X.w) X.A X.env X.xe) (hc : X.calm = true) (ho : ∀ i ∈ t.slots, i ∉ O) (hi : PE X iter (rdN X.K O s0 n)) (hg : PG X tg (gTg X.K t)) (hb : PSs X body (rdU X.K O s0 W F))
    (hs : ∀ x, foldedSetIterable iter X.env x = pure x := by intro _; rfl) : PS X (.For tg iter body [] pos) (rdU X.K O s0 W (uForN n t F)) := ps_imp (ps_for hp hc (pi_list hi) hg hb hs) fun _ _ _ => ru_forN ho
theorem yp_catN {n : EnT → Option (Nat × List Nat)} {f : En → Option (List D)} (ha : PE X a (rdN X.K O s0 n)) (hb : PE X b (rdF X.K f)) : PE X (.BinOp a .Add b pos) (rdP X.K O s0 (pCatN n f)) := pe_imp (pe_op op_cat ha hb) fun _ _ _ => rp_catN
end
end PO
namespace PO
open PySem L2 PD
/-! ### equations, for reckoning -/
def seqT : Option OutT → (EnT → Option OutT) → Option OutT
  | some (.nx ρ'), G => G ρ'
  | o, _ => o
def ifT : Option Bool → (EnT → Option OutT) → (EnT → Option OutT) → EnT → Option OutT
  | some true, F, _, ρ => F ρ
  | some false, _, G, ρ => G ρ
  | none, _, _, _ => none
def nxO : Option EnT → Option OutT
  | some ρ => some (.nx ρ)
  | none => none
def asgT (t : Tgt) : Option Rx → Option OutT
  | some (.ok x ρ1) => nxO (stT t x ρ1)
  | some (.xc e ρ1) => some (.xc e ρ1)
  | none => none
def exT : Option Rx → Option OutT
  | some (.ok _ ρ1) => some (.nx ρ1)
  | some (.xc e ρ1) => some (.xc e ρ1)
  | none => none
def retT : Option Rx → Option OutT
  | some (.ok t ρ1) => some (.rt t ρ1)
  | some (.xc e ρ1) => some (.xc e ρ1)
  | none => none
def forT (t : Tgt) (F : EnT → Option OutT) : Option (List D) → EnT → Option OutT
  | some ds, ρ => loopU t F ds ρ
  | none, _ => none
def turnT (F : EnT → Option OutT) : Option EnT → Option OutT
  | some ρ => F ρ
  | none => none
def nextT (t : Tgt) (F : EnT → Option OutT) (ds : List D) : Option OutT → Option OutT
  | some (.nx ρ') => loopU t F ds ρ'
  | some (.ct ρ') => loopU t F ds ρ'
  | some (.bk ρ') => some (.nx ρ')
  | o => o
def wNextT (c : En → Option Bool) (F : EnT → Option OutT) (n : Nat) : Option OutT → Option OutT
  | some (.nx ρ') => whileU c F n ρ'
  | some (.ct ρ') => whileU c F n ρ'
  | some (.bk ρ') => some (.nx ρ')
  | o => o
def wIfT (c : En → Option Bool) (F : EnT → Option OutT) (n : Nat) : Option Bool → EnT → Option OutT
  | some true, ρ => wNextT c F n (F ρ)
  | some false, ρ => some (.nx ρ)
  | none, _ => none
def xpO : Option T → EnT → Option Rx
  | some t, ρ => some (.ok t ρ)
  | none, _ => none
def frT : Option D → Option T
  | some d => some (.fr d)
  | none => none
def imT : Option D → Option T
  | some d => if imm d then some (.fr d) else none
  | none => none
def lsT : Option (List D) → Option T
  | some ds => some (.nd .lst (ds.map .fr))
  | none => none
def lsIT : Option (List D) → Option T
  | some ds => if imms ds then some (.nd .lst (ds.map .fr)) else none
  | none => none
def psc : Option T → Option (List T) → Option (List T)
  | some t, some ts => some (t :: ts)
  | _, _ => none
def tupT : Option (List T) → Option T
  | some ts => if okLen ts.length then some (mkTup ts) else none
  | none => none
def lstT : Option (List T) → Option T
  | some ts => if okLen ts.length then some (.nd .lst ts) else none
  | none => none
def atT : Option T → Option T
  | some (.fr d) => some (.fr d)
  | _ => none
def nodeO : Option T → List Nat → Option T
  | some t, ps => subT t ps
  | none, _ => none
def nAt (ρ : EnT) : Option (Nat × List Nat) → Option T
  | some p => nodeAt ρ p
  | none => none
def xcons2 (t : T) : Option Rxs → Option Rxs
  | some (.ok ts ρ2) => some (.ok (t :: ts) ρ2)
  | some (.xc e ρ2) => some (.xc e ρ2)
  | none => none
def xcons : Option Rx → (EnT → Option Rxs) → Option Rxs
  | some (.ok t ρ1), g => xcons2 t (g ρ1)
  | some (.xc e ρ1), _ => some (.xc e ρ1)
  | none, _ => none
def xtup : Option Rxs → Option Rx
  | some (.ok ts ρ1) => if okLen ts.length then some (.ok (mkTup ts) ρ1) else none
  | some (.xc e ρ1) => some (.xc e ρ1)
  | none => none
def xlst : Option Rxs → Option Rx
  | some (.ok ts ρ1) => if okLen ts.length then some (.ok (.nd .lst ts) ρ1) else none
  | some (.xc e ρ1) => some (.xc e ρ1)
  | none => none
def xix (j : Nat) : Option Rx → Option Rx
  | some (.ok (.nd .tup ts) ρ1) => (ts[j]?).map fun t => .ok t ρ1
  | some (.ok (.fr (.tup ds)) ρ1) => (ds[j]?).map fun d => .ok (.fr d) ρ1
  | some (.xc e ρ1) => some (.xc e ρ1)
  | _ => none
def fzO (ρ : EnT) : Option D → Option Rx
  | some d => some (.ok (.fr d) ρ)
  | none => none
def xfz : Option Rx → Option Rx
  | some (.ok t ρ1) => fzO ρ1 t.d
  | some (.xc e ρ1) => some (.xc e ρ1)
  | none => none
def acE : Option T → Option (List Av) → Option (List Av)
  | some t, some xs => some (.t t :: xs)
  | _, _ => none
def acB (i : Nat) : Option (Nat × List Nat) → Option (List Av) → Option (List Av)
  | some _, some xs => some (.b i :: xs)
  | _, _ => none
def ldT (t : T) : Option (List T × EnT) → Option (List T × EnT)
  | some q => some (t :: q.1, q.2)
  | none => none
def callZ (xs : List Av) (ρ : EnT) : Option RT → Option Rx
  | some r => some (callR xs ρ r)
  | none => none
def callY (f : List T → Option RT) (xs : List Av) : Option (List T × EnT) → Option Rx
  | some q => callZ xs q.2 (f q.1)
  | none => none
def callX (f : List T → Option RT) : Option (List Av) → EnT → Option Rx
  | some xs, ρ => callY f xs (lend xs ρ)
  | none, _ => none
def makeZ (xs : List Av) (ρ : EnT) : Option RT → Option Rx
  | some r => makeR xs ρ r
  | none => none
def makeY (C : Addr) (f : List T → Option RT) (xs : List Av) : Option (List T × EnT) → Option Rx
  | some q => makeZ xs q.2 (f (.nd (.ins C []) [] :: q.1))
  | none => none
def makeX (C : Addr) (f : List T → Option RT) : Option (List Av) → EnT → Option Rx
  | some xs, ρ => makeY C f xs (lend xs ρ)
  | none, _ => none
def bmZ (ρ : EnT) (p : Nat × List Nat) : Option (List T × D) → Option Rx
  | some q => some (.ok (.fr q.2) (setAt ρ p (.nd .lst q.1)))
  | none => none
def bmY (eff : List T → List T → Option (List T × D)) (ρ : EnT) (p : Nat × List Nat) : Option T → Option (List T) → Option Rx
  | some (.nd .lst ts), some us => bmZ ρ p (eff ts us)
  | _, _ => none
def bmX (eff : List T → List T → Option (List T × D)) (ρ : EnT) : Option (Nat × List Nat) → Option (List T) → Option Rx
  | some p, us => bmY eff ρ p (nodeAt ρ p) us
  | none, _ => none
def setZ (ρ : EnT) (p : Nat × List Nat) (t : T) (ts : List T) : Option Nat → Option OutT
  | some j => some (.nx (setAt ρ p (.nd .lst (ts.set j t))))
  | none => none
def setY (ρ : EnT) (p : Nat × List Nat) (t : T) : Option T → Option D → Option OutT
  | some (.nd .lst ts), some (.int z) => setZ ρ p t ts (ixN ts.length z)
  | _, _ => none
def setX (ρ : EnT) (t : T) : Option (Nat × List Nat) → Option D → Option OutT
  | some p, k => setY ρ p t (nodeAt ρ p) k
  | none, _ => none
def setO (n : EnT → Option (Nat × List Nat)) (kf : En → Option D) : Option Rx → Option OutT
  | some (.ok t ρ1) => setX ρ1 t (n ρ1) (kf (ful ρ1))
  | some (.xc e ρ1) => some (.xc e ρ1)
  | none => none
def putZ (ρ : EnT) (p : Nat × List Nat) (t : T) (ks : List Key) (ts : List T) : Option Key → Option OutT
  | some key => if okLen ks.length && decide ks.Nodup then some (.nx (setAt ρ p (putKey key t ks ts))) else none
  | none => none
def keyO : Option D → Option Key
  | some d => PO.keyD d
  | none => none
def putY (ρ : EnT) (p : Nat × List Nat) (t : T) : Option T → Option D → Option OutT
  | some (.nd (.dic ks) ts), k => putZ ρ p t ks ts (keyO k)
  | _, _ => none
def putX (ρ : EnT) (t : T) : Option (Nat × List Nat) → Option D → Option OutT
  | some p, k => putY ρ p t (nodeAt ρ p) k
  | none, _ => none
def putO (n : EnT → Option (Nat × List Nat)) (kf : En → Option D) : Option Rx → Option OutT
  | some (.ok t ρ1) => putX ρ1 t (n ρ1) (kf (ful ρ1))
  | some (.xc e ρ1) => some (.xc e ρ1)
  | none => none
def fldY (C : Addr) (f : Str) (ρ : EnT) (p : Nat × List Nat) (t : T) : Option T → Option OutT
  | some (.nd (.ins C' ns) ts) => if C' = C ∧ ns.length < 1000 then some (.nx (setAt ρ p (putN C f t ns ts))) else none
  | _ => none
def fldX (C : Addr) (f : Str) (ρ : EnT) (t : T) : Option (Nat × List Nat) → Option OutT
  | some p => fldY C f ρ p t (nodeAt ρ p)
  | none => none
def fldO (C : Addr) (f : Str) (n : EnT → Option (Nat × List Nat)) : Option Rx → Option OutT
  | some (.ok t ρ1) => fldX C f ρ1 t (n ρ1)
  | some (.xc e ρ1) => some (.xc e ρ1)
  | none => none
def ghZ (ρ : EnT) (p : Nat × List Nat) : Option D → Option EnT
  | some d => some (setAt ρ p (.fr d))
  | none => none
def ghY (ρ : EnT) (p : Nat × List Nat) : Option T → Option EnT
  | some t => ghZ ρ p t.d
  | none => none
def ghX (ρ : EnT) : Option (Nat × List Nat) → Option EnT
  | some p => ghY ρ p (nodeAt ρ p)
  | none => none
def xghO (F : EnT → Option Rx) : Option EnT → Option Rx
  | some ρ => F ρ
  | none => none
def ixZ (p : Nat × List Nat) : Option Nat → Option (Nat × List Nat)
  | some j => some (p.1, p.2 ++ [j])
  | none => none
def ixY (p : Nat × List Nat) : Option T → Option D → Option (Nat × List Nat)
  | some (.nd .lst ts), some (.int z) => ixZ p (ixN ts.length z)
  | some (.nd .tup ts), some (.int z) => ixZ p (ixN ts.length z)
  | _, _ => none
def ixX (ρ : EnT) : Option (Nat × List Nat) → Option D → Option (Nat × List Nat)
  | some p, k => ixY p (nodeAt ρ p) k
  | none, _ => none
def kyZ (ks : List Key) (p : Nat × List Nat) : Option Key → Option (Nat × List Nat)
  | some key => ixZ p (idxK key ks)
  | none => none
def kyY (p : Nat × List Nat) : Option T → Option D → Option (Nat × List Nat)
  | some (.nd (.dic ks) _), k => kyZ ks p (keyO k)
  | _, _ => none
def kyX (ρ : EnT) : Option (Nat × List Nat) → Option D → Option (Nat × List Nat)
  | some p, k => kyY p (nodeAt ρ p) k
  | none, _ => none
def flY (C : Addr) (f : Str) (p : Nat × List Nat) : Option T → Option (Nat × List Nat)
  | some (.nd (.ins C' ns) _) => if C' = C then ixZ p (ns.idxOf? f) else none
  | _ => none
def flX (C : Addr) (f : Str) (ρ : EnT) : Option (Nat × List Nat) → Option (Nat × List Nat)
  | some p => flY C f p (nodeAt ρ p)
  | none => none
def cmpX (own : List Nat) (t : Tgt) (test : En → Option Bool) (fe : EnT → Option Rx) (ρ : EnT) : Option (List D) → Option Rx
  | some ds => if okLen ds.length then cmpZ (compT own t test fe ds (maskT own ρ)) else none
  | none => none
where cmpZ : Option (List T × EnT) → Option Rx
  | some q => some (.ok (.nd .lst q.1) q.2)
  | none => none
section
variable {F G : EnT → Option OutT} {ρ ρ' : EnT} {c : En → Option Bool} {f : En → Option D} {fs : En → Option (List D)} {g : EnT → Option T} {gs : EnT → Option (List T)} {x : EnT → Option Rx} {xs : EnT → Option Rxs} {t : T} {tg : Tgt} {n : EnT → Option (Nat × List Nat)} {p : Nat × List Nat} {i j : Nat} {C : Addr} {nm m : Str} {kf : En → Option D} {h : List T → Option RT} {as : List Arg} {d : D} {ds : List D} {ts us : List T} {e : Xn}
theorem z_seq : uSeq F G ρ = seqT (F ρ) G := by unfold uSeq; cases F ρ with | none => rfl | some o => cases o <;> rfl
theorem z_if : uIf c F G ρ = ifT (c (ful ρ)) F G ρ := by unfold uIf; cases c (ful ρ) with | none => rfl | some o => cases o <;> rfl
theorem z_asg : uAsg tg x ρ = asgT tg (x ρ) := by
  unfold uAsg
  cases x ρ with
  | none => rfl
  | some o => cases o with
    | xc => rfl
    | ok t ρ1 => show (stT tg t ρ1).map _ = nxO _; cases stT tg t ρ1 <;> rfl
theorem z_ex : uEx x ρ = exT (x ρ) := by unfold uEx; cases x ρ with | none => rfl | some o => cases o <;> rfl
theorem z_ret : uRet x ρ = retT (x ρ) := by unfold uRet; cases x ρ with | none => rfl | some o => cases o <;> rfl
theorem z_for : uFor fs tg F ρ = forT tg F (fs (frz ρ)) ρ := by unfold uFor; cases fs (frz ρ) <;> rfl
theorem z_forR : uForR fs tg F ρ = forT tg F (fs (ful ρ)) ρ := by unfold uForR; cases fs (ful ρ) <;> rfl
theorem z_loop0 : loopU tg F [] ρ = some (.nx ρ) := (rfl)
theorem z_loop : loopU tg F (d :: ds) ρ = nextT tg F ds (turnT F (stT tg (.fr d) ρ)) := by
  unfold loopU
  cases stT tg (.fr d) ρ with
  | none => rfl
  | some ρ1 =>
    show (F ρ1).bind _ = nextT tg F ds (F ρ1)
    cases F ρ1 with
    | none => rfl
    | some o => cases o <;> rfl
theorem z_while {k : Nat} : whileU c F (k + 1) ρ = wIfT c F k (c (ful ρ)) ρ := by
  unfold whileU
  cases c (ful ρ) with
  | none => rfl
  | some b =>
    cases b with
    | false => rfl
    | true =>
      show (F ρ).bind _ = wNextT c F k (F ρ)
      cases F ρ with
      | none => rfl
      | some o => cases o <;> rfl
theorem z_p : xP g ρ = xpO (g ρ) ρ := by unfold xP; cases g ρ <;> rfl
theorem z_fr : pFr f ρ = frT (f (frz ρ)) := by unfold pFr; cases f (frz ρ) <;> rfl
theorem z_im : pIm f ρ = imT (f (ful ρ)) := by unfold pIm; cases f (ful ρ) <;> rfl
theorem z_ls : pLs fs ρ = lsT (fs (frz ρ)) := by unfold pLs; cases fs (frz ρ) <;> rfl
theorem z_lsI : pLsI fs ρ = lsIT (fs (ful ρ)) := by unfold pLsI; cases fs (ful ρ) <;> rfl
theorem z_psc : psCons g gs ρ = psc (g ρ) (gs ρ) := by unfold psCons; cases g ρ <;> cases gs ρ <;> rfl
theorem z_tup : pTup gs ρ = tupT (gs ρ) := by unfold pTup; cases gs ρ <;> rfl
theorem z_lst : pLst gs ρ = lstT (gs ρ) := by unfold pLst; cases gs ρ <;> rfl
theorem z_at : pAt n ρ = atT (nAt ρ (n ρ)) := by
  unfold pAt
  cases n ρ with
  | none => rfl
  | some p =>
    show (match nodeAt ρ p with | some (.fr d) => some (T.fr d) | _ => none) = atT (nodeAt ρ p)
    cases nodeAt ρ p with
    | none => rfl
    | some t => cases t <;> rfl
theorem z_node {ps : List Nat} : nodeAt ρ (i, ps) = nodeO ρ[i]? ps := by unfold nodeAt; cases ρ[i]? <;> rfl
theorem z_xcons : xsCons x xs ρ = xcons (x ρ) xs := by
  unfold xsCons
  cases x ρ with
  | none => rfl
  | some o => cases o with
    | xc => rfl
    | ok t ρ1 =>
      show (xs ρ1).map _ = xcons2 t (xs ρ1)
      cases xs ρ1 with
      | none => rfl
      | some o => cases o <;> rfl
theorem z_xtup : xTup xs ρ = xtup (xs ρ) := by unfold xTup; cases xs ρ with | none => rfl | some o => cases o <;> rfl
theorem z_xlst : xLst xs ρ = xlst (xs ρ) := by unfold xLst; cases xs ρ with | none => rfl | some o => cases o <;> rfl
theorem z_xix : xIx j x ρ = xix j (x ρ) := by
  unfold xIx
  cases x ρ with
  | none => rfl
  | some o => cases o with
    | xc => rfl
    | ok t ρ1 => cases t with
      | dead => rfl
      | fr d => cases d <;> rfl
      | nd k ts => cases k <;> rfl
theorem z_fz : xFz x ρ = xfz (x ρ) := by
  unfold xFz
  cases x ρ with
  | none => rfl
  | some o => cases o with
    | xc => rfl
    | ok t ρ1 => show t.d.map _ = fzO ρ1 t.d; cases t.d <;> rfl
theorem z_aE {r : List Arg} : argsA (.e g :: r) ρ = acE (g ρ) (argsA r ρ) := by show (g ρ).bind (fun t => (argsA r ρ).map (.t t :: ·)) = _; cases g ρ <;> cases argsA r ρ <;> rfl
theorem z_aB {r : List Arg} : argsA (.b i :: r) ρ = acB i (nV i ρ) (argsA r ρ) := by show (nV i ρ).bind (fun _ => (argsA r ρ).map (.b i :: ·)) = _; cases nV i ρ <;> cases argsA r ρ <;> rfl
theorem z_a0 : argsA [] ρ = some [] := (rfl)
theorem z_l0 : lend [] ρ = some ([], ρ) := (rfl)
theorem z_lT {r : List Av} : lend (.t t :: r) ρ = ldT t (lend r ρ) := by show (lend r ρ).map _ = _; cases lend r ρ <;> rfl
theorem z_lB {r : List Av} {t : T} (hn : t ≠ .dead) (e : ρ[i]? = some t) : lend (.b i :: r) ρ = ldT t (lend r (ρ.set i .dead)) := by
  rw [lend, e]
  cases t with
  | dead => exact absurd rfl hn
  | fr d => show (lend r (ρ.set i .dead)).map _ = _; cases lend r (ρ.set i .dead) <;> rfl
  | nd k ts => show (lend r (ρ.set i .dead)).map _ = _; cases lend r (ρ.set i .dead) <;> rfl
def ldB (i : Nat) (r : List Av) (ρ : EnT) : Option T → Option (List T × EnT)
  | some (.fr d) => ldT (.fr d) (lend r (ρ.set i .dead))
  | some (.nd k ts) => ldT (.nd k ts) (lend r (ρ.set i .dead))
  | _ => none
theorem z_lBo {r : List Av} : lend (.b i :: r) ρ = ldB i r ρ ρ[i]? := by
  cases e : ρ[i]? with
  | none => rw [lend, e]; rfl
  | some t => cases t with
    | dead => rw [lend, e]; rfl
    | fr d => rw [z_lB (fun h => by cases h) e]; rfl
    | nd k ts => rw [z_lB (fun h => by cases h) e]; rfl
theorem z_call : xCall h as ρ = callX h (argsA as ρ) ρ := by
  unfold xCall
  cases argsA as ρ with
  | none => rfl
  | some xs =>
    show (lend xs ρ).bind _ = callY h xs (lend xs ρ)
    cases lend xs ρ with
    | none => rfl
    | some q => show (h q.1).map _ = callZ xs q.2 (h q.1); cases h q.1 <;> rfl
theorem z_make : xMake C h as ρ = makeX C h (argsA as ρ) ρ := by
  unfold xMake
  cases argsA as ρ with
  | none => rfl
  | some xs =>
    show (lend xs ρ).bind _ = makeY C h xs (lend xs ρ)
    cases lend xs ρ with
    | none => rfl
    | some q => show (h (.nd (.ins C []) [] :: q.1)).bind _ = makeZ xs q.2 (h (.nd (.ins C []) [] :: q.1)); cases h (.nd (.ins C []) [] :: q.1) <;> rfl
def methO (C : Addr) (m : Str) (h : List T → Option RT) (i : Nat) (as : List Arg) (ρ : EnT) : Option T → Option Rx
  | some (.nd (.ins C' ns) _) => if C' = C ∧ m ∉ ns then xCall h (.b i :: as) ρ else none
  | _ => none
theorem z_meth : xMeth C m h i as ρ = methO C m h i as ρ ρ[i]? := by
  unfold xMeth methO
  cases ρ[i]? with
  | none => rfl
  | some t => cases t with
    | dead => rfl
    | fr d => rfl
    | nd k ts => cases k <;> rfl
def methPO (C : Addr) (m : Str) (h : List T → Option RT) (g : EnT → Option T) (as : List Arg) (ρ : EnT) : Option T → Option Rx
  | some (.fr (.ins C' fs)) => if C' = C ∧ m ∉ fs.map (·.1) then xCall h (.e g :: as) ρ else none
  | _ => none
theorem z_methP : xMethP C m h g as ρ = methPO C m h g as ρ (g ρ) := by
  unfold xMethP methPO
  cases g ρ with
  | none => rfl
  | some t => cases t with
    | dead => rfl
    | fr d => cases d <;> rfl
    | nd k ts => rfl
theorem z_bm {eff : List T → List T → Option (List T × D)} : xBm eff n gs ρ = bmX eff ρ (n ρ) (gs ρ) := by
  unfold xBm
  cases n ρ with
  | none => rfl
  | some p =>
    show (match nodeAt ρ p with | some (.nd .lst ts) => (gs ρ).bind fun us => (eff ts us).map fun q => Rx.ok (.fr q.2) (setAt ρ p (.nd .lst q.1)) | _ => none) = bmY eff ρ p (nodeAt ρ p) (gs ρ)
    cases nodeAt ρ p with
    | none => rfl
    | some t => cases t with
      | dead => rfl
      | fr d => rfl
      | nd k ts => cases k with
        | lst =>
          cases gs ρ with
          | none => rfl
          | some us => show (eff ts us).map _ = bmZ ρ p (eff ts us); cases eff ts us <;> rfl
        | tup => rfl
        | dic ks => rfl
        | ins C ns => rfl
theorem z_set : uSet n kf x ρ = setO n kf (x ρ) := by
  unfold uSet
  cases x ρ with
  | none => rfl
  | some o => cases o with
    | xc => rfl
    | ok t ρ1 =>
      show (n ρ1).bind _ = setX ρ1 t (n ρ1) (kf (ful ρ1))
      cases n ρ1 with
      | none => rfl
      | some p =>
        show (match nodeAt ρ1 p with | some (.nd .lst ts) => (asInt (kf (ful ρ1))).bind fun z => (ixN ts.length z).map fun j => OutT.nx (setAt ρ1 p (.nd .lst (ts.set j t))) | _ => none) = setY ρ1 p t (nodeAt ρ1 p) (kf (ful ρ1))
        cases nodeAt ρ1 p with
        | none => rfl
        | some u => cases u with
          | dead => rfl
          | fr d => rfl
          | nd k ts => cases k with
            | lst =>
              cases kf (ful ρ1) with
              | none => rfl
              | some d => cases d with
                | int z => show (ixN ts.length z).map _ = setZ ρ1 p t ts (ixN ts.length z); cases ixN ts.length z <;> rfl
                | _ => rfl
            | tup => rfl
            | dic ks => rfl
            | ins C ns => rfl
theorem z_put : uPut n kf x ρ = putO n kf (x ρ) := by
  unfold uPut
  cases x ρ with
  | none => rfl
  | some o => cases o with
    | xc => rfl
    | ok t ρ1 =>
      show (n ρ1).bind _ = putX ρ1 t (n ρ1) (kf (ful ρ1))
      cases n ρ1 with
      | none => rfl
      | some p =>
        show (match nodeAt ρ1 p with | some (.nd (.dic ks) ts) => ((kf (ful ρ1)).bind PO.keyD).bind fun key => if okLen ks.length && decide ks.Nodup then some (OutT.nx (setAt ρ1 p (putKey key t ks ts))) else none | _ => none) = putY ρ1 p t (nodeAt ρ1 p) (kf (ful ρ1))
        cases nodeAt ρ1 p with
        | none => rfl
        | some u => cases u with
          | dead => rfl
          | fr d => rfl
          | nd k ts => cases k with
            | lst => rfl
            | tup => rfl
            | dic ks =>
              cases kf (ful ρ1) with
              | none => rfl
              | some d => show (PO.keyD d).bind _ = putZ ρ1 p t ks ts (PO.keyD d); cases PO.keyD d <;> rfl
            | ins C ns => rfl
theorem z_fld : uFld C nm n x ρ = fldO C nm n (x ρ) := by
  unfold uFld
  cases x ρ with
  | none => rfl
  | some o => cases o with
    | xc => rfl
    | ok t ρ1 =>
      show (n ρ1).bind _ = fldX C nm ρ1 t (n ρ1)
      cases n ρ1 with
      | none => rfl
      | some p =>
        show (match nodeAt ρ1 p with | some (.nd (.ins C' ns) ts) => if C' = C ∧ ns.length < 1000 then some (OutT.nx (setAt ρ1 p (putN C nm t ns ts))) else none | _ => none) = fldY C nm ρ1 p t (nodeAt ρ1 p)
        cases nodeAt ρ1 p with
        | none => rfl
        | some u => cases u with
          | dead => rfl
          | fr d => rfl
          | nd k ts => cases k <;> rfl
theorem z_fzAt : fzAt n ρ = ghX ρ (n ρ) := by
  unfold fzAt
  cases n ρ with
  | none => rfl
  | some p =>
    show (nodeAt ρ p).bind _ = ghY ρ p (nodeAt ρ p)
    cases nodeAt ρ p with
    | none => rfl
    | some t => show t.d.map _ = ghZ ρ p t.d; cases t.d <;> rfl
theorem z_gh : uGh n F ρ = turnT F (ghX ρ (n ρ)) := by unfold uGh; rw [z_fzAt]; cases ghX ρ (n ρ) <;> rfl
theorem z_xgh : xGh n x ρ = xghO x (ghX ρ (n ρ)) := by unfold xGh; rw [z_fzAt]; cases ghX ρ (n ρ) <;> rfl
theorem z_nIx : nIx n kf ρ = ixX ρ (n ρ) (kf (ful ρ)) := by
  unfold nIx
  cases n ρ with
  | none => rfl
  | some p =>
    show (match nodeAt ρ p with | some (.nd .lst ts) => (asInt (kf (ful ρ))).bind fun z => (ixN ts.length z).map fun j => (p.1, p.2 ++ [j]) | some (.nd .tup ts) => (asInt (kf (ful ρ))).bind fun z => (ixN ts.length z).map fun j => (p.1, p.2 ++ [j]) | _ => none) = ixY p (nodeAt ρ p) (kf (ful ρ))
    cases nodeAt ρ p with
    | none => rfl
    | some u => cases u with
      | dead => rfl
      | fr d => rfl
      | nd k ts => cases k with
        | lst =>
          cases kf (ful ρ) with
          | none => rfl
          | some d => cases d with
            | int z => show (ixN ts.length z).map _ = ixZ p (ixN ts.length z); cases ixN ts.length z <;> rfl
            | _ => rfl
        | tup =>
          cases kf (ful ρ) with
          | none => rfl
          | some d => cases d with
            | int z => show (ixN ts.length z).map _ = ixZ p (ixN ts.length z); cases ixN ts.length z <;> rfl
            | _ => rfl
        | dic ks => rfl
        | ins C ns => rfl
theorem z_nKey : nKey n kf ρ = kyX ρ (n ρ) (kf (ful ρ)) := by
  unfold nKey
  cases n ρ with
  | none => rfl
  | some p =>
    show (match nodeAt ρ p with | some (.nd (.dic ks) _) => ((kf (ful ρ)).bind PO.keyD).bind fun key => (idxK key ks).map fun j => (p.1, p.2 ++ [j]) | _ => none) = kyY p (nodeAt ρ p) (kf (ful ρ))
    cases nodeAt ρ p with
    | none => rfl
    | some u => cases u with
      | dead => rfl
      | fr d => rfl
      | nd k ts => cases k with
        | lst => rfl
        | tup => rfl
        | dic ks =>
          cases kf (ful ρ) with
          | none => rfl
          | some d =>
            show (PO.keyD d).bind _ = kyZ ks p (PO.keyD d)
            cases PO.keyD d with
            | none => rfl
            | some key => show (idxK key ks).map _ = ixZ p (idxK key ks); cases idxK key ks <;> rfl
        | ins C ns => rfl
theorem z_nFld : nFld C nm n ρ = flX C nm ρ (n ρ) := by
  unfold nFld
  cases n ρ with
  | none => rfl
  | some p =>
    show (match nodeAt ρ p with | some (.nd (.ins C' ns) _) => if C' = C then (ns.idxOf? nm).map fun j => (p.1, p.2 ++ [j]) else none | _ => none) = flY C nm p (nodeAt ρ p)
    cases nodeAt ρ p with
    | none => rfl
    | some u => cases u with
      | dead => rfl
      | fr d => rfl
      | nd k ts => cases k with
        | ins C' ns =>
          show (if C' = C then _ else _) = (if C' = C then _ else _)
          split
          · show (ns.idxOf? nm).map _ = ixZ p (ns.idxOf? nm); cases ns.idxOf? nm <;> rfl
          · rfl
        | _ => rfl
theorem z_comp {own : List Nat} : xComp own fs tg c x ρ = cmpX own tg c x ρ (fs (frz ρ)) := by
  unfold xComp
  cases fs (frz ρ) with
  | none => rfl
  | some ds =>
    show (if okLen ds.length = true then _ else _) = (if okLen ds.length = true then _ else _)
    split
    · cases compT own tg c x ds (maskT own ρ) <;> rfl
    · rfl
end
end PO
namespace PO
open PySem L2 PD
def subO : Option T → List Nat → Option T
  | some c, ps => subT c ps
  | none, _ => none
def putO' (k : Kd) (ts : List T) (j : Nat) (ps : List Nat) (u : T) : Option T → T
  | some c => .nd k (ts.set j (putT c ps u))
  | none => .nd k ts
def nvO (i : Nat) : Option T → Option (Nat × List Nat)
  | some (.nd _ _) => some (i, [])
  | some (.fr _) => some (i, [])
  | _ => none
def ndO (k : Kd) : Option (List D) → Option D
  | some ds => some (match k with | .lst => .lst ds | .tup => .tup ds | .dic ks => .dic (ks.zip ds) | .ins C ns => .ins C (ns.zip ds))
  | none => none
def dsC : Option D → Option (List D) → Option (List D)
  | some d, some ds => some (d :: ds)
  | _, _ => none
def outX (O : List Nat) (ts : List T) : Option OutT → Option RT
  | some o => outR O ts o
  | none => none
def cpX (f : Option (List D)) : Option T := match f with
  | some ds => some (.nd .lst (ds.map .fr))
  | none => none
def cpY : Option T → Option T
  | some (.nd .lst ts) => cpX (frOf ts)
  | _ => none
def ctX : Option (List D) → Option (List D) → Option T
  | some ds, some es => if imms es && okLen (ds.length + es.length) then some (.nd .lst ((ds ++ es).map .fr)) else none
  | _, _ => none
def ctY : Option T → Option (List D) → Option T
  | some (.nd .lst ts), f => ctX (frOf ts) f
  | _, _ => none
def dfX : Option D → Option T
  | some (.dic kds) => some (.nd (.dic (kds.map (·.1))) (kds.map fun p => .fr p.2))
  | _ => none
def diX : Option D → Option T
  | some (.dic kds) => if imms (kds.map (·.2)) then some (.nd (.dic (kds.map (·.1))) (kds.map fun p => .fr p.2)) else none
  | _ => none
def fnX (tg : Tgt) (F : EnT → Option OutT) (ρ : EnT) : Option T → Option OutT
  | some (.fr (.lst ds)) => loopU tg F ds ρ
  | _ => none
def agZ (ρ : EnT) (j : Nat) (g : Int → Int → Int) (k : Kd) (ts : List T) (p : Nat × List Nat) : Option T → Option D → Option OutT
  | some (.fr (.int a)), some (.int b) => some (.nx (setAt ρ p (.nd k (ts.set j (.fr (.int (g a b)))))))
  | _, _ => none
def agL (g : Int → Int → Int) (ρ : EnT) (p : Nat × List Nat) : Option T → Option D → Option D → Option OutT
  | some (.nd .lst ts), some (.int z), b => if 0 ≤ z ∧ z < 1000000 then agZ ρ z.toNat g .lst ts p ts[z.toNat]? b else none
  | _, _, _ => none
def agLX (g : Int → Int → Int) (ρ : EnT) : Option (Nat × List Nat) → Option D → Option D → Option OutT
  | some p, k, b => agL g ρ p (nodeAt ρ p) k b
  | none, _, _ => none
def agKj (g : Int → Int → Int) (ρ : EnT) (p : Nat × List Nat) (ks : List Key) (ts : List T) (b : Option D) : Option Nat → Option OutT
  | some j => if okLen ks.length && decide ks.Nodup then agZ ρ j g (.dic ks) ts p ts[j]? b else none
  | none => none
def agKk (g : Int → Int → Int) (ρ : EnT) (p : Nat × List Nat) (ks : List Key) (ts : List T) (b : Option D) : Option Key → Option OutT
  | some key => agKj g ρ p ks ts b (idxK key ks)
  | none => none
def agK (g : Int → Int → Int) (ρ : EnT) (p : Nat × List Nat) : Option T → Option D → Option D → Option OutT
  | some (.nd (.dic ks) ts), k, b => agKk g ρ p ks ts b (keyO k)
  | _, _, _ => none
def agKX (g : Int → Int → Int) (ρ : EnT) : Option (Nat × List Nat) → Option D → Option D → Option OutT
  | some p, k, b => agK g ρ p (nodeAt ρ p) k b
  | none, _, _ => none
def agFj (g : Int → Int → Int) (ρ : EnT) (p : Nat × List Nat) (C : Addr) (ns : List Str) (ts : List T) (b : Option D) : Option Nat → Option OutT
  | some j => agZ ρ j g (.ins C ns) ts p ts[j]? b
  | none => none
def agF (g : Int → Int → Int) (C : Addr) (f : Str) (ρ : EnT) (p : Nat × List Nat) : Option T → Option D → Option OutT
  | some (.nd (.ins C' ns) ts), b => if C' = C ∧ ns.length < 1000 then agFj g ρ p C' ns ts b (ns.idxOf? f) else none
  | _, _ => none
def agFX (g : Int → Int → Int) (C : Addr) (f : Str) (ρ : EnT) : Option (Nat × List Nat) → Option D → Option OutT
  | some p, b => agF g C f ρ p (nodeAt ρ p) b
  | none, _ => none
def agV (g : Int → Int → Int) (i : Nat) (ρ : EnT) : Option T → Option D → Option OutT
  | some (.fr (.int a)), some (.int b) => some (.nx (ρ.set i (.fr (.int (g a b)))))
  | _, _ => none
section
variable {F G : EnT → Option OutT} {ρ ρ' : EnT} {c : En → Option Bool} {f ff : En → Option D} {fs : En → Option (List D)} {g : EnT → Option T} {gs : EnT → Option (List T)} {x : EnT → Option Rx} {xs : EnT → Option Rxs} {t u : T} {tg : Tgt} {n : EnT → Option (Nat × List Nat)} {p : Nat × List Nat} {i j k : Nat} {C C' : Addr} {nm m : Str} {kf : En → Option D} {h : List T → Option RT} {as : List Arg} {d a b : D} {ds es : List D} {ts us : List T} {e : Xn} {kd : Kd} {ks : List Key} {ns : List Str} {ps : List Nat} {avs : List Av} {gi : Int → Int → Int} {z y : Int} {O : List Nat} {key : Key}
theorem z_cpL : pCpL n ρ = cpY (nAt ρ (n ρ)) := by
  unfold pCpL
  cases n ρ with
  | none => rfl
  | some p =>
    show (match nodeAt ρ p with | some (.nd .lst ts) => (frOf ts).map fun ds => T.nd .lst (ds.map .fr) | _ => none) = cpY (nodeAt ρ p)
    cases nodeAt ρ p with
    | none => rfl
    | some t => cases t with
      | dead => rfl
      | fr d => rfl
      | nd k ts => cases k with
        | lst => show (frOf ts).map _ = cpX (frOf ts); cases frOf ts <;> rfl
        | _ => rfl
theorem z_catN : pCatN n fs ρ = ctY (nAt ρ (n ρ)) (fs (ful ρ)) := by
  unfold pCatN
  cases n ρ with
  | none => rfl
  | some p =>
    show (match nodeAt ρ p with | some (.nd .lst ts) => (frOf ts).bind fun ds => (fs (ful ρ)).bind fun es => if imms es && okLen (ds.length + es.length) then some (T.nd .lst ((ds ++ es).map .fr)) else none | _ => none) = ctY (nodeAt ρ p) (fs (ful ρ))
    cases nodeAt ρ p with
    | none => rfl
    | some t => cases t with
      | dead => rfl
      | fr d => rfl
      | nd k ts => cases k with
        | lst =>
          show (frOf ts).bind _ = ctX (frOf ts) (fs (ful ρ))
          cases frOf ts with
          | none => rfl
          | some ds => cases fs (ful ρ) <;> rfl
        | _ => rfl
theorem z_dicF : pDicF f ρ = dfX (f (frz ρ)) := by unfold pDicF; cases f (frz ρ) with | none => rfl | some d => cases d <;> rfl
theorem z_dicI : pDicI f ρ = diX (f (ful ρ)) := by unfold pDicI; cases f (ful ρ) with | none => rfl | some d => cases d <;> rfl
theorem z_forN : uForN n tg F ρ = fnX tg F ρ (nAt ρ (n ρ)) := by
  unfold uForN
  cases n ρ with
  | none => rfl
  | some p =>
    show (match nodeAt ρ p with | some (.fr (.lst ds)) => loopU tg F ds ρ | _ => none) = fnX tg F ρ (nodeAt ρ p)
    cases nodeAt ρ p with
    | none => rfl
    | some t => cases t with
      | dead => rfl
      | fr d => cases d <;> rfl
      | nd k ts => rfl
theorem asInt_b {o : Option D} {α : Type} {w : Int → α} : (asInt o).map w = match o with | some (.int b) => some (w b) | _ => none := by cases o with | none => rfl | some d => cases d <;> rfl
theorem z_agZ {q : Nat × List Nat} {o : Option T} : (match o with | some (.fr (.int a)) => (asInt (ff (ful ρ))).map fun b => OutT.nx (setAt ρ q (.nd kd (ts.set j (.fr (.int (gi a b)))))) | _ => none) = agZ ρ j gi kd ts q o (ff (ful ρ)) := by
  cases o with
  | none => rfl
  | some t => cases t with
    | dead => rfl
    | nd k ts => rfl
    | fr d => cases d with
      | int a =>
        show (asInt (ff (ful ρ))).map _ = _
        cases ff (ful ρ) with
        | none => rfl
        | some d => cases d <;> rfl
      | _ => rfl
theorem z_augL : uAugL gi n kf ff ρ = agLX gi ρ (n ρ) (kf (ful ρ)) (ff (ful ρ)) := by
  unfold uAugL
  cases n ρ with
  | none => rfl
  | some p =>
    show _ = agL gi ρ p (nodeAt ρ p) _ _
    simp only [Option.bind_some]
    cases nodeAt ρ p with
    | none => rfl
    | some t => cases t with
      | dead => rfl
      | fr d => rfl
      | nd k ts => cases k with
        | lst =>
          cases kf (ful ρ) with
          | none => rfl
          | some d => cases d with
            | int z =>
              show (if 0 ≤ z ∧ z < 1000000 then _ else none) = (if 0 ≤ z ∧ z < 1000000 then _ else none)
              split
              · exact z_agZ
              · rfl
            | _ => rfl
        | _ => rfl
theorem z_augK : uAugK gi n kf ff ρ = agKX gi ρ (n ρ) (kf (ful ρ)) (ff (ful ρ)) := by
  unfold uAugK
  cases n ρ with
  | none => rfl
  | some p =>
    show _ = agK gi ρ p (nodeAt ρ p) _ _
    simp only [Option.bind_some]
    cases nodeAt ρ p with
    | none => rfl
    | some t => cases t with
      | dead => rfl
      | fr d => rfl
      | nd k ts => cases k with
        | dic ks =>
          cases kf (ful ρ) with
          | none => rfl
          | some d =>
            show (PO.keyD d).bind _ = agKk gi ρ p ks ts _ (PO.keyD d)
            cases PO.keyD d with
            | none => rfl
            | some key =>
              show (idxK key ks).bind _ = agKj gi ρ p ks ts _ (idxK key ks)
              cases idxK key ks with
              | none => rfl
              | some j =>
                show (if (okLen ks.length && decide ks.Nodup) = true then _ else none) = (if (okLen ks.length && decide ks.Nodup) = true then _ else none)
                split
                · exact z_agZ
                · rfl
        | _ => rfl
theorem z_augF : uAugF gi C nm n ff ρ = agFX gi C nm ρ (n ρ) (ff (ful ρ)) := by
  unfold uAugF
  cases n ρ with
  | none => rfl
  | some p =>
    show _ = agF gi C nm ρ p (nodeAt ρ p) _
    simp only [Option.bind_some]
    cases nodeAt ρ p with
    | none => rfl
    | some t => cases t with
      | dead => rfl
      | fr d => rfl
      | nd k ts => cases k with
        | ins C' ns =>
          show (if C' = C ∧ ns.length < 1000 then _ else none) = (if C' = C ∧ ns.length < 1000 then _ else none)
          split
          · cases ns.idxOf? nm with
            | none => rfl
            | some j => exact z_agZ
          · rfl
        | _ => rfl
theorem z_aug : uAug gi i ff ρ = agV gi i ρ ρ[i]? (ff (ful ρ)) := by
  unfold uAug agV
  cases ρ[i]? with
  | none => rfl
  | some t => cases t with
    | dead => rfl
    | nd k ts => rfl
    | fr d => cases d with
      | int a =>
        show (asInt (ff (ful ρ))).map _ = _
        cases ff (ful ρ) with
        | none => rfl
        | some d => cases d <;> rfl
      | _ => rfl
/-! on values -/
theorem o_seq1 : seqT (some (.nx ρ)) G = G ρ := (rfl)
theorem o_seq2 : seqT (some (.rt t ρ)) G = some (.rt t ρ) := (rfl)
theorem o_seq3 : seqT (some (.xc e ρ)) G = some (.xc e ρ) := (rfl)
theorem o_seq4 : seqT (some (.bk ρ)) G = some (.bk ρ) := (rfl)
theorem o_seq5 : seqT (some (.ct ρ)) G = some (.ct ρ) := (rfl)
theorem o_if1 : ifT (some true) F G ρ = F ρ := (rfl)
theorem o_if2 : ifT (some false) F G ρ = G ρ := (rfl)
theorem o_nx : nxO (some ρ) = some (.nx ρ) := (rfl)
theorem o_asg1 : asgT tg (some (.ok t ρ)) = nxO (stT tg t ρ) := (rfl)
theorem o_asg2 : asgT tg (some (.xc e ρ)) = some (.xc e ρ) := (rfl)
theorem o_stn : stT (.nm i) t ρ = if i < ρ.length then some (ρ.set i t) else none := (rfl)
theorem o_st1 {i0 : Nat} : stT (.tp [i0]) (.fr (.tup [a])) ρ = if i0 < ρ.length then some (ρ.set i0 (.fr a)) else none := by simp [stT, setAllT]
theorem o_st2 {i0 i1 : Nat} : stT (.tp [i0, i1]) (.fr (.tup [a, b])) ρ = if i0 < ρ.length ∧ i1 < ρ.length then some ((ρ.set i0 (.fr a)).set i1 (.fr b)) else none := by simp [stT, setAllT]
theorem o_st3 {i0 i1 i2 : Nat} {d0 d1 d2 : D} : stT (.tp [i0, i1, i2]) (.fr (.tup [d0, d1, d2])) ρ = if i0 < ρ.length ∧ i1 < ρ.length ∧ i2 < ρ.length then some (((ρ.set i0 (.fr d0)).set i1 (.fr d1)).set i2 (.fr d2)) else none := by simp [stT, setAllT]
theorem o_st4 {i0 i1 i2 i3 : Nat} {d0 d1 d2 d3 : D} : stT (.tp [i0, i1, i2, i3]) (.fr (.tup [d0, d1, d2, d3])) ρ = if i0 < ρ.length ∧ i1 < ρ.length ∧ i2 < ρ.length ∧ i3 < ρ.length then some ((((ρ.set i0 (.fr d0)).set i1 (.fr d1)).set i2 (.fr d2)).set i3 (.fr d3)) else none := by simp [stT, setAllT]
theorem o_stt2 {i0 i1 : Nat} {t0 t1 : T} : stT (.tp [i0, i1]) (.nd .tup [t0, t1]) ρ = if i0 < ρ.length ∧ i1 < ρ.length then some ((ρ.set i0 t0).set i1 t1) else none := by simp [stT, setAllT]
theorem o_ex1 : exT (some (.ok t ρ)) = some (.nx ρ) := (rfl)
theorem o_ex2 : exT (some (.xc e ρ)) = some (.xc e ρ) := (rfl)
theorem o_ret1 : retT (some (.ok t ρ)) = some (.rt t ρ) := (rfl)
theorem o_ret2 : retT (some (.xc e ρ)) = some (.xc e ρ) := (rfl)
theorem o_nil : uNil ρ = some (.nx ρ) := (rfl)
theorem o_brk : uBrk ρ = some (.bk ρ) := (rfl)
theorem o_cont : uCont ρ = some (.ct ρ) := (rfl)
theorem o_retN : uRetN ρ = some (.rt (.fr .non) ρ) := (rfl)
theorem o_raise : uRaise C ρ = some (.xc ⟨C, []⟩ ρ) := (rfl)
theorem o_for : forT tg F (some ds) ρ = loopU tg F ds ρ := (rfl)
theorem o_turn : turnT F (some ρ) = F ρ := (rfl)
theorem o_next1 : nextT tg F ds (some (.nx ρ)) = loopU tg F ds ρ := (rfl)
theorem o_next2 : nextT tg F ds (some (.ct ρ)) = loopU tg F ds ρ := (rfl)
theorem o_next3 : nextT tg F ds (some (.bk ρ)) = some (.nx ρ) := (rfl)
theorem o_next4 : nextT tg F ds (some (.rt t ρ)) = some (.rt t ρ) := (rfl)
theorem o_next5 : nextT tg F ds (some (.xc e ρ)) = some (.xc e ρ) := (rfl)
theorem o_wIf1 : wIfT c F k (some true) ρ = wNextT c F k (F ρ) := (rfl)
theorem o_wIf2 : wIfT c F k (some false) ρ = some (.nx ρ) := (rfl)
theorem o_wN1 : wNextT c F k (some (.nx ρ)) = whileU c F k ρ := (rfl)
theorem o_wN2 : wNextT c F k (some (.ct ρ)) = whileU c F k ρ := (rfl)
theorem o_wN3 : wNextT c F k (some (.bk ρ)) = some (.nx ρ) := (rfl)
theorem o_wN4 : wNextT c F k (some (.rt t ρ)) = some (.rt t ρ) := (rfl)
theorem o_wN5 : wNextT c F k (some (.xc e ρ)) = some (.xc e ρ) := (rfl)
theorem o_p : xpO (some t) ρ = some (.ok t ρ) := (rfl)
theorem o_fr : frT (some d) = some (.fr d) := (rfl)
theorem o_im : imT (some d) = if imm d then some (.fr d) else none := (rfl)
theorem o_ls : lsT (some ds) = some (.nd .lst (ds.map .fr)) := (rfl)
theorem o_lsI : lsIT (some ds) = if imms ds then some (.nd .lst (ds.map .fr)) else none := (rfl)
theorem o_psn : psNil ρ = some [] := (rfl)
theorem o_psc : psc (some t) (some ts) = some (t :: ts) := (rfl)
theorem o_tup : tupT (some ts) = if okLen ts.length then some (mkTup ts) else none := (rfl)
theorem o_lst : lstT (some ts) = if okLen ts.length then some (.nd .lst ts) else none := (rfl)
theorem o_at : atT (some (.fr d)) = some (.fr d) := (rfl)
theorem o_mk1 : mkTup [.fr a] = .fr (.tup [a]) := (rfl)
theorem o_mk2 : mkTup [.fr a, .fr b] = .fr (.tup [a, b]) := (rfl)
theorem o_mk3 {d2 : D} : mkTup [.fr a, .fr b, .fr d2] = .fr (.tup [a, b, d2]) := (rfl)
theorem o_mk4 {d2 d3 : D} : mkTup [.fr a, .fr b, .fr d2, .fr d3] = .fr (.tup [a, b, d2, d3]) := (rfl)
theorem o_mk5 {d2 d3 d4 : D} : mkTup [.fr a, .fr b, .fr d2, .fr d3, .fr d4] = .fr (.tup [a, b, d2, d3, d4]) := (rfl)
theorem o_mk0 : mkTup [] = .fr (.tup []) := (rfl)
theorem o_mkn1 : mkTup [.fr a, .nd kd ts] = .nd .tup [.fr a, .nd kd ts] := (rfl)
theorem o_mkn2 : mkTup [.nd kd ts, t] = .nd .tup [.nd kd ts, t] := (rfl)
theorem o_mkn3 : mkTup [.nd kd ts] = .nd .tup [.nd kd ts] := (rfl)
theorem o_nAt : nAt ρ (some p) = nodeAt ρ p := (rfl)
theorem o_node : nodeO (some t) ps = subT t ps := (rfl)
theorem o_sub0 : subT t [] = some t := by cases t <;> rfl
theorem o_sub1 : subT (.nd kd ts) (j :: ps) = subO ts[j]? ps := by show (ts[j]?).bind _ = _; cases ts[j]? <;> rfl
theorem o_subo : subO (some t) ps = subT t ps := (rfl)
theorem o_put0 : putT t [] u = u := by cases t <;> rfl
theorem o_put1 : putT (.nd kd ts) (j :: ps) u = putO' kd ts j ps u ts[j]? := by show (match ts[j]? with | some c => _ | none => _) = _; cases ts[j]? <;> rfl
theorem o_puto : putO' kd ts j ps u (some t) = .nd kd (ts.set j (putT t ps u)) := (rfl)
theorem o_setAt : setAt ρ (i, ps) t = ρ.set i (putT (ρ.getD i .dead) ps t) := (rfl)
theorem o_nV : nV i ρ = nvO i ρ[i]? := by unfold nV nvO; cases ρ[i]? with | none => rfl | some t => cases t <;> rfl
theorem o_nv1 : nvO i (some (.nd kd ts)) = some (i, []) := (rfl)
theorem o_nv2 : nvO i (some (.fr d)) = some (i, []) := (rfl)
theorem o_dF : T.d (.fr d) = some d := by simp [T.d]
theorem o_dD : T.d .dead = none := by simp [T.d]
theorem o_dN : T.d (.nd kd ts) = ndO kd (dsOf ts) := by rw [T.d]; cases dsOf ts <;> cases kd <;> rfl
theorem o_nd1 : ndO .lst (some ds) = some (.lst ds) := (rfl)
theorem o_nd2 : ndO .tup (some ds) = some (.tup ds) := (rfl)
theorem o_nd3 : ndO (.dic ks) (some ds) = some (.dic (ks.zip ds)) := (rfl)
theorem o_nd4 : ndO (.ins C ns) (some ds) = some (.ins C (ns.zip ds)) := (rfl)
theorem o_nd5 : ndO kd none = none := (rfl)
theorem o_ds0 : dsOf [] = some [] := by simp [dsOf]
theorem o_dsc : dsOf (t :: ts) = dsC t.d (dsOf ts) := by rw [dsOf]; cases t.d <;> cases dsOf ts <;> rfl
theorem o_dsC1 : dsC (some d) (some ds) = some (d :: ds) := (rfl)
theorem o_dsC2 {o : Option (List D)} : dsC none o = none := by cases o <;> rfl
theorem o_dsC3 {o : Option D} : dsC o none = none := by cases o <;> rfl
theorem o_dsm : dsOf (ds.map .fr) = some ds := by
  induction ds with
  | nil => exact o_ds0
  | cons d r ih => rw [List.map_cons, o_dsc, o_dF, ih]; rfl
theorem o_dsm2 {α : Type} {w : α → D} {l : List α} : dsOf (l.map fun q => T.fr (w q)) = some (l.map w) := by
  have : (l.map fun q => T.fr (w q)) = (l.map w).map .fr := by rw [List.map_map]; rfl
  rw [this, o_dsm]
theorem o_fom : frOf (ds.map .fr) = some ds := by
  induction ds with
  | nil => rfl
  | cons d r ih => rw [List.map_cons, frOf, ih]; rfl
theorem o_fo0 : frOf [] = some [] := (rfl)
theorem o_app : ds.map T.fr ++ [T.fr d] = (ds ++ [d]).map T.fr := by simp
theorem o_app2 : ds.map T.fr ++ es.map T.fr = (ds ++ es).map T.fr := by simp
theorem o_setm : (ds.map T.fr).set j (.fr d) = (ds.set j d).map T.fr := by rw [List.map_set]
theorem o_fzF : T.fz (.fr d) = some d := (rfl)
theorem o_fzD : T.fz .dead = none := (rfl)
theorem o_fzN : T.fz (.nd kd ts) = none := (rfl)
theorem o_ful0 : ful [] = [] := (rfl)
theorem o_ful1 : ful (t :: ρ) = t.d :: ful ρ := (rfl)
theorem o_frz0 : frz [] = [] := (rfl)
theorem o_frz1 : frz (t :: ρ) = t.fz :: frz ρ := (rfl)
def xmvO (i : Nat) (ρ : EnT) : Option T → Option Rx
  | some (.fr d) => some (.ok (.fr d) (ρ.set i .dead))
  | some (.nd k ts) => some (.ok (.nd k ts) (ρ.set i .dead))
  | _ => none
theorem o_mv1 : xMv i ρ = xmvO i ρ ρ[i]? := by unfold xMv; cases ρ[i]? with | none => rfl | some t => cases t <;> rfl
theorem o_mv2 : xmvO i ρ (some (.nd kd ts)) = some (.ok (.nd kd ts) (ρ.set i .dead)) := (rfl)
theorem o_mv3 : xmvO i ρ (some (.fr d)) = some (.ok (.fr d) (ρ.set i .dead)) := (rfl)
theorem o_xn : xsNil ρ = some (.ok [] ρ) := (rfl)
theorem o_xc1 : xcons (some (.ok t ρ)) xs = xcons2 t (xs ρ) := (rfl)
theorem o_xc2 : xcons2 t (some (.ok ts ρ)) = some (.ok (t :: ts) ρ) := (rfl)
theorem o_xt : xtup (some (.ok ts ρ)) = if okLen ts.length then some (.ok (mkTup ts) ρ) else none := (rfl)
theorem o_xl : xlst (some (.ok ts ρ)) = if okLen ts.length then some (.ok (.nd .lst ts) ρ) else none := (rfl)
def ixO (ρ : EnT) : Option T → Option Rx
  | some t => some (.ok t ρ)
  | none => none
theorem o_ix1 : xix j (some (.ok (.nd .tup ts) ρ)) = ixO ρ ts[j]? := by show (ts[j]?).map _ = _; cases ts[j]? <;> rfl
theorem o_ix2 : xix j (some (.ok (.fr (.tup ds)) ρ)) = ixO ρ (ds[j]?.map .fr) := by show (ds[j]?).map _ = _; cases ds[j]? <;> rfl
theorem o_ix3 : xix j (some (.xc e ρ)) = some (.xc e ρ) := (rfl)
theorem o_ixO : ixO ρ (some t) = some (.ok t ρ) := (rfl)
theorem o_xfz1 : xfz (some (.ok t ρ)) = fzO ρ t.d := (rfl)
theorem o_xfz2 : xfz (some (.xc e ρ)) = some (.xc e ρ) := (rfl)
theorem o_fzO : fzO ρ (some d) = some (.ok (.fr d) ρ) := (rfl)
theorem o_acE : acE (some t) (some avs) = some (.t t :: avs) := (rfl)
theorem o_acB : acB i (some p) (some avs) = some (.b i :: avs) := (rfl)
theorem o_ldT : ldT t (some (ts, ρ)) = some (t :: ts, ρ) := (rfl)
theorem o_ldB1 : ldB i avs ρ (some (.fr d)) = ldT (.fr d) (lend avs (ρ.set i .dead)) := (rfl)
theorem o_ldB2 : ldB i avs ρ (some (.nd kd ts)) = ldT (.nd kd ts) (lend avs (ρ.set i .dead)) := (rfl)
theorem o_cX : callX h (some avs) ρ = callY h avs (lend avs ρ) := (rfl)
theorem o_cY : callY h avs (some (ts, ρ)) = callZ avs ρ (h ts) := (rfl)
theorem o_cZ1 : callZ avs ρ (some (.ok ts t)) = some (.ok t (back avs ts ρ)) := (rfl)
theorem o_cZ2 : callZ avs ρ (some (.xc ts e)) = some (.xc e (back avs ts ρ)) := (rfl)
theorem o_mX : makeX C h (some avs) ρ = makeY C h avs (lend avs ρ) := (rfl)
theorem o_mY : makeY C h avs (some (ts, ρ)) = makeZ avs ρ (h (.nd (.ins C []) [] :: ts)) := (rfl)
theorem o_mZ1 : makeZ avs ρ (some (.ok (t :: ts) (.fr .non))) = some (.ok t (back avs ts ρ)) := (rfl)
theorem o_mZ2 : makeZ avs ρ (some (.xc (t :: ts) e)) = some (.xc e (back avs ts ρ)) := (rfl)
theorem o_bk0 : back [] ts ρ = ρ := by cases ts <;> rfl
theorem o_bkB : back (.b i :: avs) (t :: ts) ρ = back avs ts (ρ.set i t) := (rfl)
theorem o_bkT : back (.t u :: avs) (t :: ts) ρ = back avs ts ρ := (rfl)
theorem o_meth : methO C m h i as ρ (some (.nd (.ins C' ns) ts)) = if C' = C ∧ m ∉ ns then xCall h (.b i :: as) ρ else none := (rfl)
theorem o_methP {fsl : List (Str × D)} : methPO C m h g as ρ (some (.fr (.ins C' fsl))) = if C' = C ∧ m ∉ fsl.map (·.1) then xCall h (.e g :: as) ρ else none := (rfl)
theorem o_bX {eff : List T → List T → Option (List T × D)} {o : Option (List T)} : bmX eff ρ (some p) o = bmY eff ρ p (nodeAt ρ p) o := (rfl)
theorem o_bY {eff : List T → List T → Option (List T × D)} : bmY eff ρ p (some (.nd .lst ts)) (some us) = bmZ ρ p (eff ts us) := (rfl)
theorem o_bZ : bmZ ρ p (some (ts, d)) = some (.ok (.fr d) (setAt ρ p (.nd .lst ts))) := (rfl)
theorem o_efApp : efApp ts [t] = if okLen ts.length then some (ts ++ [t], .non) else none := (rfl)
theorem o_efClr : efClr ts [] = some ([], .non) := (rfl)
theorem o_efExt : efExt ts [.nd .lst us] = if okLen (ts.length + us.length) then some (ts ++ us, .non) else none := (rfl)
theorem o_efIns : efIns ts [.fr (.int z), t] = if okLen ts.length = true ∧ 0 ≤ z ∧ z < 1000000 then some (ts.take z.toNat ++ [t] ++ ts.drop z.toNat, .non) else none := (rfl)
theorem o_efPop : efPop ((ds ++ [d]).map .fr) [] = some (ds.map .fr, d) := by
  have e : ((ds ++ [d]).map T.fr)[((ds ++ [d]).map T.fr).length - 1]? = some (.fr d) := by simp
  show (match ((ds ++ [d]).map T.fr)[((ds ++ [d]).map T.fr).length - 1]? with | some (.fr d') => some (((ds ++ [d]).map T.fr).dropLast, d') | _ => none) = _
  rw [e]
  simp
def popO (ts : List T) (i : Nat) : Option T → Option (List T × D)
  | some (.fr d) => some (ts.eraseIdx i, d)
  | _ => none
theorem o_efPopAt : efPopAt ts [.fr (.int z)] = if 0 ≤ z ∧ z < 1000000 then popO ts z.toNat ts[z.toNat]? else none := by
  show (if 0 ≤ z ∧ z < 1000000 then (match ts[z.toNat]? with | some (.fr d) => some (ts.eraseIdx z.toNat, d) | _ => none) else none) = _
  split
  · cases ts[z.toNat]? with
    | none => rfl
    | some t => cases t <;> rfl
  · rfl
theorem o_popO : popO ts i (some (.fr d)) = some (ts.eraseIdx i, d) := (rfl)
theorem o_sO1 : setO n kf (some (.ok t ρ)) = setX ρ t (n ρ) (kf (ful ρ)) := (rfl)
theorem o_sX {o : Option D} : setX ρ t (some p) o = setY ρ p t (nodeAt ρ p) o := (rfl)
theorem o_sY : setY ρ p t (some (.nd .lst ts)) (some (.int z)) = setZ ρ p t ts (ixN ts.length z) := (rfl)
theorem o_sZ : setZ ρ p t ts (some j) = some (.nx (setAt ρ p (.nd .lst (ts.set j t)))) := (rfl)
theorem o_pO1 : putO n kf (some (.ok t ρ)) = putX ρ t (n ρ) (kf (ful ρ)) := (rfl)
theorem o_pO2 : putO n kf (some (.xc e ρ)) = some (.xc e ρ) := (rfl)
theorem o_pX {o : Option D} : putX ρ t (some p) o = putY ρ p t (nodeAt ρ p) o := (rfl)
theorem o_pY {o : Option D} : putY ρ p t (some (.nd (.dic ks) ts)) o = putZ ρ p t ks ts (keyO o) := (rfl)
theorem o_pZ : putZ ρ p t ks ts (some key) = if okLen ks.length && decide ks.Nodup then some (.nx (setAt ρ p (putKey key t ks ts))) else none := (rfl)
theorem o_ky1 : keyO (some (.int z)) = some (.inl z) := (rfl)
theorem o_ky2 : keyO (some (.str nm)) = some (.inr nm) := (rfl)
theorem o_fO1 : fldO C nm n (some (.ok t ρ)) = fldX C nm ρ t (n ρ) := (rfl)
theorem o_fO2 : fldO C nm n (some (.xc e ρ)) = some (.xc e ρ) := (rfl)
theorem o_fX : fldX C nm ρ t (some p) = fldY C nm ρ p t (nodeAt ρ p) := (rfl)
theorem o_fY : fldY C nm ρ p t (some (.nd (.ins C' ns) ts)) = if C' = C ∧ ns.length < 1000 then some (.nx (setAt ρ p (putN C nm t ns ts))) else none := (rfl)
theorem o_gX : ghX ρ (some p) = ghY ρ p (nodeAt ρ p) := (rfl)
theorem o_gY : ghY ρ p (some t) = ghZ ρ p t.d := (rfl)
theorem o_gZ : ghZ ρ p (some d) = some (setAt ρ p (.fr d)) := (rfl)
theorem o_xgh : xghO x (some ρ) = x ρ := (rfl)
theorem o_iX {o : Option D} : ixX ρ (some p) o = ixY p (nodeAt ρ p) o := (rfl)
theorem o_iY1 : ixY p (some (.nd .lst ts)) (some (.int z)) = ixZ p (ixN ts.length z) := (rfl)
theorem o_iY2 : ixY p (some (.nd .tup ts)) (some (.int z)) = ixZ p (ixN ts.length z) := (rfl)
theorem o_iZ : ixZ (i, ps) (some j) = some (i, ps ++ [j]) := (rfl)
theorem o_kX {o : Option D} : kyX ρ (some p) o = kyY p (nodeAt ρ p) o := (rfl)
theorem o_kY {o : Option D} : kyY p (some (.nd (.dic ks) ts)) o = kyZ ks p (keyO o) := (rfl)
theorem o_kZ : kyZ ks p (some key) = ixZ p (idxK key ks) := (rfl)
theorem o_lX : flX C nm ρ (some p) = flY C nm p (nodeAt ρ p) := (rfl)
theorem o_lY : flY C nm p (some (.nd (.ins C' ns) ts)) = if C' = C then ixZ p (ns.idxOf? nm) else none := (rfl)
theorem o_cmp : cmpX ps tg c x ρ (some ds) = if okLen ds.length then cmpX.cmpZ (compT ps tg c x ds (maskT ps ρ)) else none := (rfl)
theorem o_cmpZ : cmpX.cmpZ (some (ts, ρ)) = some (.ok (.nd .lst ts) ρ) := (rfl)
theorem o_cpY : cpY (some (.nd .lst ts)) = cpX (frOf ts) := (rfl)
theorem o_cpX : cpX (some ds) = some (.nd .lst (ds.map .fr)) := (rfl)
theorem o_ctY {o : Option (List D)} : ctY (some (.nd .lst ts)) o = ctX (frOf ts) o := (rfl)
theorem o_ctX : ctX (some ds) (some es) = if imms es && okLen (ds.length + es.length) then some (.nd .lst ((ds ++ es).map .fr)) else none := (rfl)
theorem o_dic0 : pDic0 ρ = some (.nd (.dic []) []) := (rfl)
theorem o_df {kds : List (Key × D)} : dfX (some (.dic kds)) = some (.nd (.dic (kds.map (·.1))) (kds.map fun p => .fr p.2)) := (rfl)
theorem o_di {kds : List (Key × D)} : diX (some (.dic kds)) = if imms (kds.map (·.2)) then some (.nd (.dic (kds.map (·.1))) (kds.map fun p => .fr p.2)) else none := (rfl)
theorem o_fnX : fnX tg F ρ (some (.fr (.lst ds))) = loopU tg F ds ρ := (rfl)
theorem o_agZ : agZ ρ j gi kd ts p (some (.fr (.int z))) (some (.int y)) = some (.nx (setAt ρ p (.nd kd (ts.set j (.fr (.int (gi z y))))))) := (rfl)
theorem o_agLX {o o' : Option D} : agLX gi ρ (some p) o o' = agL gi ρ p (nodeAt ρ p) o o' := (rfl)
theorem o_agL {o : Option D} : agL gi ρ p (some (.nd .lst ts)) (some (.int z)) o = if 0 ≤ z ∧ z < 1000000 then agZ ρ z.toNat gi .lst ts p ts[z.toNat]? o else none := (rfl)
theorem o_agKX {o o' : Option D} : agKX gi ρ (some p) o o' = agK gi ρ p (nodeAt ρ p) o o' := (rfl)
theorem o_agK {o o' : Option D} : agK gi ρ p (some (.nd (.dic ks) ts)) o o' = agKk gi ρ p ks ts o' (keyO o) := (rfl)
theorem o_agKk {o : Option D} : agKk gi ρ p ks ts o (some key) = agKj gi ρ p ks ts o (idxK key ks) := (rfl)
theorem o_agKj {o : Option D} : agKj gi ρ p ks ts o (some j) = if okLen ks.length && decide ks.Nodup then agZ ρ j gi (.dic ks) ts p ts[j]? o else none := (rfl)
theorem o_agFX {o : Option D} : agFX gi C nm ρ (some p) o = agF gi C nm ρ p (nodeAt ρ p) o := (rfl)
theorem o_agF {o : Option D} : agF gi C nm ρ p (some (.nd (.ins C' ns) ts)) o = if C' = C ∧ ns.length < 1000 then agFj gi ρ p C' ns ts o (ns.idxOf? nm) else none := (rfl)
theorem o_agFj {o : Option D} : agFj gi ρ p C ns ts o (some j) = agZ ρ j gi (.ins C ns) ts p ts[j]? o := (rfl)
theorem o_agV : agV gi i ρ (some (.fr (.int z))) (some (.int y)) = some (.nx (ρ.set i (.fr (.int (gi z y))))) := (rfl)
theorem o_fn {nn : Nat} (hl : ts.length = k) : fnR O k nn F ts = outX O ts (F (startT nn ts)) := by unfold fnR; rw [if_pos hl]; cases F (startT nn ts) <;> rfl
theorem o_fn1 {nn : Nat} {t0 : T} : fnR O 1 nn F [t0] = outX O [t0] (F (startT nn [t0])) := o_fn rfl
theorem o_fn2 {nn : Nat} {t0 t1 : T} : fnR O 2 nn F [t0, t1] = outX O [t0, t1] (F (startT nn [t0, t1])) := o_fn rfl
theorem o_fn3 {nn : Nat} {t0 t1 t2 : T} : fnR O 3 nn F [t0, t1, t2] = outX O [t0, t1, t2] (F (startT nn [t0, t1, t2])) := o_fn rfl
theorem o_fn4 {nn : Nat} {t0 t1 t2 t3 : T} : fnR O 4 nn F [t0, t1, t2, t3] = outX O [t0, t1, t2, t3] (F (startT nn [t0, t1, t2, t3])) := o_fn rfl
theorem o_fn5 {nn : Nat} {t0 t1 t2 t3 t4 : T} : fnR O 5 nn F [t0, t1, t2, t3, t4] = outX O [t0, t1, t2, t3, t4] (F (startT nn [t0, t1, t2, t3, t4])) := o_fn rfl
theorem o_outX {o : OutT} : outX O ts (some o) = outR O ts o := (rfl)
theorem o_out1 : outR O ts (.nx ρ) = some (.ok (outs O 0 ts ρ) (.fr .non)) := (rfl)
theorem o_out2 : outR O ts (.rt t ρ) = some (.ok (outs O 0 ts ρ) t) := (rfl)
theorem o_out3 : outR O ts (.xc e ρ) = some (.xc (outs O 0 ts ρ) e) := (rfl)
theorem o_outs0 : outs O i [] ρ = [] := by cases ρ <;> rfl
theorem o_outs1 : outs O i (t :: ts) (u :: ρ) = (if i ∈ O then u else t.kp) :: outs O (i + 1) ts ρ := (rfl)
theorem o_kp1 : T.kp (.fr d) = .fr d := (rfl)
theorem o_kp2 : T.kp (.nd kd ts) = .dead := (rfl)
theorem o_kp3 : T.kp .dead = .dead := (rfl)
def gOo : Option RT → Option D
  | some (.ok _ t) => t.d
  | _ => none
theorem o_gOf : gOf h ds = gOo (h (ds.map .fr)) := by unfold gOf gOo; cases h (ds.map .fr) with | none => rfl | some r => cases r <;> rfl
theorem o_gOo : gOo (some (.ok ts t)) = t.d := (rfl)
theorem o_mask0 : maskT [] ρ = ρ := (rfl)
theorem o_mask1 {O : List Nat} : maskT (i :: O) ρ = (maskT O ρ).set i .dead := (rfl)
end
end PO
namespace PO
open PySem L2 PD
def fuelTL (i : Nat) (ρ : EnT) : Nat := match ρ[i]? with
  | some (.nd .lst ts) => ts.length + 1
  | _ => 0
/-- x = [..], the list owned, or kept -/
theorem rf_lsX {K : PySem.W.Frag} {O : List Nat} {s0 : St} {W : WX} {wi : TI} {g : TG} {tt : TT} {te : TE} {own : List Nat} {F : En → Option (List D)} (hc : ∀ {σ : St} {H : Hp} {Q : VK}, rdF K F σ H Q → tLc wi g tt te own σ H Q) {σ : St} {H : Hp} {Q : VK} : (rdX K O s0 W (xP (pLs F)) σ H Q → tLc wi g tt te own σ H Q) ∧ (rdX K O s0 W (xP (pLsI F)) σ H Q → tLc wi g tt te own σ H Q) ∧ (rdX K O s0 W (xFz (xP (pLs F))) σ H Q → tLc wi g tt te own σ H Q) ∧ (rdX K O s0 W (xFz (xP (pLsI F))) σ H Q → tLc wi g tt te own σ H Q) :=
  ⟨fun h => hc (rp_ls (rx_p h)), fun h => hc (rp_lsI (rx_p h)), fun h => hc (rp_ls (rx_p (rx_fz h))), fun h => hc (rp_lsI (rx_p (rx_fz h)))⟩
section
variable {X : Cx} {O : List Nat} {s0 : St} {W : WX} {st : Stmt} {i : Nat} {own : List Nat} {src : En → Option (List D)} {t : Tgt} {test : En → Option Bool} {fe : En → Option D}
theorem asgC_go {x : EnT → Option Rx} (ho : i ∉ O) (h : PS X st (tAsg (tLc (rdI X.K src) (gTg X.K t) (rdT X.K test) (rdE X.K fe) own) (gName i))) (hx : ∀ {σ : St} {H : Hp} {Q : VK}, rdX X.K O s0 W x σ H Q → tLc (rdI X.K src) (gTg X.K t) (rdT X.K test) (rdE X.K fe) own σ H Q) : PS X st (rdU X.K O s0 W (uAsg (.nm i) x)) :=
  ps_imp h fun D σ H w => hx (ru_asg (tg := .nm i) (by simpa [Tgt.slots] using ho) w)
theorem yu_asgC (ho : i ∉ O) (hw : ∀ k ∈ t.slots, k ∈ own) (h : PS X st (tAsg (tLc (rdI X.K src) (gTg X.K t) (rdT X.K test) (rdE X.K fe) own) (gName i))) : PS X st (rdU X.K O s0 W (uAsg (.nm i) (xP (pLs (eComp own src t test fe))))) := asgC_go ho h (rf_lsX (rd_comp hw)).1
theorem yu_asgCI (ho : i ∉ O) (hw : ∀ k ∈ t.slots, k ∈ own) (h : PS X st (tAsg (tLc (rdI X.K src) (gTg X.K t) (rdT X.K test) (rdE X.K fe) own) (gName i))) : PS X st (rdU X.K O s0 W (uAsg (.nm i) (xP (pLsI (eComp own src t test fe))))) := asgC_go ho h (rf_lsX (rd_comp hw)).2.1
theorem yu_asgCFz (ho : i ∉ O) (hw : ∀ k ∈ t.slots, k ∈ own) (h : PS X st (tAsg (tLc (rdI X.K src) (gTg X.K t) (rdT X.K test) (rdE X.K fe) own) (gName i))) : PS X st (rdU X.K O s0 W (uAsg (.nm i) (xFz (xP (pLs (eComp own src t test fe)))))) := asgC_go ho h (rf_lsX (rd_comp hw)).2.2.1
theorem yu_asgCFzI (ho : i ∉ O) (hw : ∀ k ∈ t.slots, k ∈ own) (h : PS X st (tAsg (tLc (rdI X.K src) (gTg X.K t) (rdT X.K test) (rdE X.K fe) own) (gName i))) : PS X st (rdU X.K O s0 W (uAsg (.nm i) (xFz (xP (pLsI (eComp own src t test fe)))))) := asgC_go ho h (rf_lsX (rd_comp hw)).2.2.2
end
end PO
namespace PO
open PySem L2 PD
/-! ### xs.append(e), e with effects, xs a slot -/
def uAppV (i : Nat) (x : EnT → Option Rx) (ρ : EnT) : Option OutT := match ρ[i]? with
  | some (.nd .lst _) => (x ρ).bind fun r => match r with
    | .xc e ρ1 => some (.xc e ρ1)
    | .ok t ρ1 => match ρ1[i]? with
      | some (.nd .lst ts) => if okLen ts.length then some (.nx (ρ1.set i (.nd .lst (ts ++ [t])))) else none
      | _ => none
  | _ => none
def avZ (i : Nat) (t : T) (ρ1 : EnT) : Option T → Option OutT
  | some (.nd .lst ts) => if okLen ts.length then some (.nx (ρ1.set i (.nd .lst (ts ++ [t])))) else none
  | _ => none
def avY (i : Nat) : Option Rx → Option OutT
  | some (.xc e ρ1) => some (.xc e ρ1)
  | some (.ok t ρ1) => avZ i t ρ1 ρ1[i]?
  | none => none
def avX (i : Nat) (x : EnT → Option Rx) (ρ : EnT) : Option T → Option OutT
  | some (.nd .lst _) => avY i (x ρ)
  | _ => none
section
variable {K : PySem.W.Frag} {O : List Nat} {s0 : St} {W : WX} {σ : St} {H Hv : Hp} {ρ : EnT} {D' : Ends} {i : Nat} {x : EnT → Option Rx} {t u : T} {ts : List T} {e : Xn}
theorem z_appV : uAppV i x ρ = avX i x ρ ρ[i]? := by
  unfold uAppV avX
  cases ρ[i]? with
  | none => rfl
  | some u => cases u with
    | dead => rfl
    | fr d => rfl
    | nd k ts => cases k with
      | lst =>
        show (x ρ).bind _ = avY i (x ρ)
        cases x ρ with
        | none => rfl
        | some r => cases r with
          | xc => rfl
          | ok t ρ1 =>
            show (match ρ1[i]? with | some (.nd .lst ts) => if okLen ts.length then some (OutT.nx (ρ1.set i (.nd .lst (ts ++ [t])))) else none | _ => none) = avZ i t ρ1 ρ1[i]?
            cases ρ1[i]? with
            | none => rfl
            | some u => cases u with
              | dead => rfl
              | fr d => rfl
              | nd k ts => cases k <;> rfl
      | _ => rfl
theorem o_avX : avX i x ρ (some (.nd .lst ts)) = avY i (x ρ) := (rfl)
theorem o_avY1 : avY i (some (.ok t ρ)) = avZ i t ρ ρ[i]? := (rfl)
theorem o_avY2 : avY i (some (.xc e ρ)) = some (.xc e ρ) := (rfl)
theorem o_avZ : avZ i t ρ (some (.nd .lst ts)) = if okLen ts.length then some (.nx (ρ.set i (.nd .lst (ts ++ [t])))) else none := (rfl)
theorem ru_appV (h : rdU K O s0 W (uAppV i x) D' σ H) : tDrop (tBM K "list" rAppend (tVar i) (tCons (rdX K O s0 W x) tNil)) D' σ H := by
  obtain ⟨Hv, fp, ρ, o, k, e, p⟩ := h
  unfold uAppV at e
  split at e
  · rename_i ts0 h0
    obtain ⟨r, h1, e⟩ := bind_some2 e
    obtain ⟨_, _, _, _, c, _⟩ := k.es.at h0
    rcases c with ⟨e', _⟩ | ⟨v, hv, tn⟩
    · cases e'
    · cases tn with
      | @nd a _ vs _ _ ob rr =>
        cases ob with
        | lst hi =>
          refine ⟨_, hv, .inl ⟨rfl, _, SqL.of hi⟩, Hv, fp, ρ, r, k, h1, ?_⟩
          cases r with
          | xc y ρ1 => cases e; exact fun d H' Hv' fp' f' k' q => p d σ H' Hv' fp' f' k' q
          | ok t ρ1 =>
            intro w H1 Hv1 fp1 ft f1 k1 t1
            simp only at e
            split at e
            · rename_i ts h2
              split at e
              · rename_i hl
                cases e
                have hn : nodeAt ρ1 (i, []) = some (.nd .lst ts) := by unfold nodeAt; rw [h2]; rfl
                obtain ⟨a2, vs2, ev, ob2, le2, put⟩ := k1.put f1.w hn rfl hv (.nil _)
                cases ev
                cases ob2 with
                | lst hi2 =>
                  refine ⟨a, vs2, w, rfl, rfl, hi2, by rw [le2]; exact okLen_lt hl, ?_⟩
                  have tp : Tpl K H1 (upd H1 a (.lst (vs2 ++ [w]))) := tpl_upd hi2 rfl
                  obtain ⟨fp2, t0, e0, k3, f3⟩ := put (.lst (vs2 ++ [w])) .lst (ts ++ [t]) (vs2 ++ [w]) rfl rfl (.lst upd_same) fun fc r n1 n2 => (r.upd tp n1).snocq (t1.upd tp n2)
                  have es : putT t0 [] (.nd .lst (ts ++ [t])) = .nd .lst (ts ++ [t]) := by cases t0 <;> rfl
                  rw [es] at k3
                  exact p σ _ _ fp2 (f1.trans f3) k3
              · cases e
            · cases e
  · cases e
end
section
variable {X : Cx} {O : List Nat} {s0 : St} {W : WX} {st : Stmt} {i : Nat} {x : EnT → Option Rx}
theorem yu_appV (h : PS X st (tDrop (tBM X.K "list" rAppend (tVar i) (tCons (rdX X.K O s0 W x) tNil)))) : PS X st (rdU X.K O s0 W (uAppV i x)) := ps_imp h fun _ _ _ => ru_appV
end
end PO
namespace PO
open PySem L2 PD
/-! ### try .. except C as e: / except C: -/
def endX (i : Nat) : OutT → Option OutT
  | .nx ρ => some (.nx (ρ.set i .dead))
  | .bk ρ => some (.bk (ρ.set i .dead))
  | .ct ρ => some (.ct (ρ.set i .dead))
  | .rt t ρ => some (.rt t (ρ.set i .dead))
  | .xc _ _ => none
def noX : OutT → Option OutT
  | .xc _ _ => none
  | o => some o
open Classical in
/-- the suite, e an exception at any address -/
noncomputable def sameO (i : Nat) (g : Addr → EnT → Option OutT) (ρ : EnT) : Option OutT := if h : i < ρ.length ∧ ∃ o, ∀ a, (g a (ρ.set i (.fr (.ob a)))).bind (endX i) = some o then some h.2.choose else none
theorem sameO_of {i : Nat} {g : Addr → EnT → Option OutT} {ρ : EnT} {o : OutT} (h1 : i < ρ.length) (h2 : ∀ a, (g a (ρ.set i (.fr (.ob a)))).bind (endX i) = some o) : sameO i g ρ = some o := by
  have h : i < ρ.length ∧ ∃ o, ∀ a, (g a (ρ.set i (.fr (.ob a)))).bind (endX i) = some o := ⟨h1, o, h2⟩
  unfold sameO
  rw [dif_pos h]
  have := h.2.choose_spec 0
  rw [h2 0] at this
  exact this.symm
theorem sameO_ok {i : Nat} {g : Addr → EnT → Option OutT} {ρ : EnT} {o : OutT} (h : sameO i g ρ = some o) : i < ρ.length ∧ ∀ a, (g a (ρ.set i (.fr (.ob a)))).bind (endX i) = some o := by
  unfold sameO at h
  split at h
  · rename_i c
    cases h
    exact ⟨c.1, c.2.choose_spec⟩
  · cases h
noncomputable def uTryAs (c : Addr → Option Bool) (i : Nat) (F : EnT → Option OutT) (G : Addr → Addr → EnT → Option OutT) (ρ : EnT) : Option OutT := (F ρ).bind fun o => match o with
  | .xc e ρ1 => (c e.c).bind fun b => if b then (if e.fs = [] then sameO i (G e.c) ρ1 else none) else some (.xc e ρ1)
  | o => some o
def uTry (c : Addr → Option Bool) (F : EnT → Option OutT) (G : Addr → EnT → Option OutT) (ρ : EnT) : Option OutT := (F ρ).bind fun o => match o with
  | .xc e ρ1 => (c e.c).bind fun b => if b then (G e.c ρ1).bind noX else some (.xc e ρ1)
  | o => some o
theorem try_nx {c : Addr → Option Bool} {i : Nat} {F : EnT → Option OutT} {G : Addr → Addr → EnT → Option OutT} {ρ ρ1 : EnT} (h : F ρ = some (.nx ρ1)) : uTryAs c i F G ρ = some (.nx ρ1) := by unfold uTryAs; rw [h]; rfl
theorem try_rt {c : Addr → Option Bool} {i : Nat} {F : EnT → Option OutT} {G : Addr → Addr → EnT → Option OutT} {ρ ρ1 : EnT} {t : T} (h : F ρ = some (.rt t ρ1)) : uTryAs c i F G ρ = some (.rt t ρ1) := by unfold uTryAs; rw [h]; rfl
theorem try_xc {c : Addr → Option Bool} {i : Nat} {F : EnT → Option OutT} {G : Addr → Addr → EnT → Option OutT} {ρ ρ1 : EnT} {C : Addr} {o : OutT} (h : F ρ = some (.xc ⟨C, []⟩ ρ1)) (hc : c C = some true) (hl : i < ρ1.length) (hs : ∀ a, (G C a (ρ1.set i (.fr (.ob a)))).bind (endX i) = some o) : uTryAs c i F G ρ = some o := by
  unfold uTryAs; rw [h]
  show (c C).bind _ = _
  rw [hc]
  show (if ([] : List (Str × D)) = [] then sameO i (G C) ρ1 else none) = _
  rw [if_pos rfl]
  exact sameO_of hl hs
theorem try1_nx {c : Addr → Option Bool} {F : EnT → Option OutT} {G : Addr → EnT → Option OutT} {ρ ρ1 : EnT} (h : F ρ = some (.nx ρ1)) : uTry c F G ρ = some (.nx ρ1) := by unfold uTry; rw [h]; rfl
theorem try1_rt {c : Addr → Option Bool} {F : EnT → Option OutT} {G : Addr → EnT → Option OutT} {ρ ρ1 : EnT} {t : T} (h : F ρ = some (.rt t ρ1)) : uTry c F G ρ = some (.rt t ρ1) := by unfold uTry; rw [h]; rfl
theorem try1_xc {c : Addr → Option Bool} {F : EnT → Option OutT} {G : Addr → EnT → Option OutT} {ρ ρ1 : EnT} {e : Xn} (h : F ρ = some (.xc e ρ1)) (hc : c e.c = some true) : uTry c F G ρ = (G e.c ρ1).bind noX := by
  unfold uTry; rw [h]
  show (c e.c).bind _ = _
  rw [hc]; rfl
section
variable {K : PySem.W.Frag} {O : List Nat} {s0 : St} {W : WX} {σ : St} {H Hv : Hp} {fp : List Addr} {ρ : EnT} {i : Nat}
theorem Es.gone : ∀ {σ : St} {ρ : EnT} {fp : List Addr} {i : Nat}, Es K Hv H σ ρ fp → ∃ fp1, Es K Hv H (σ.set i none) (ρ.set i .dead) fp1 ∧ fp1.Sublist fp
  | _, _, _, _, .nil => ⟨[], .nil, List.Sublist.refl _⟩
  | _, _, _, 0, .dead r => ⟨_, .dead r, List.Sublist.refl _⟩
  | _, _, _, 0, .cons _ r => ⟨_, .dead r, List.sublist_append_right _ _⟩
  | _, _, _, i + 1, .dead r => by
    obtain ⟨fp1, q, s⟩ := Es.gone (i := i) r
    exact ⟨fp1, .dead q, s⟩
  | _, _, _, i + 1, .cons (f := f) h r => by
    obtain ⟨fp1, q, s⟩ := Es.gone (i := i) r
    exact ⟨f ++ fp1, .cons h q, s.append_left f⟩
theorem OkT.gone (k : OkT K O s0 σ ρ H Hv fp) (hi : i ∉ O) : ∃ fp1, OkT K O s0 (σ.set i none) (ρ.set i .dead) H Hv fp1 ∧ fp1.Sublist fp := by
  obtain ⟨fp1, q, s⟩ := k.es.gone (i := i)
  refine ⟨fp1, ⟨q, k.w.sub (fun a h => s.mem h) (s.nodup k.w.nd), fun j hj => ?_⟩, s⟩
  rw [List.getElem?_set_ne (fun e => hi (by rw [e]; exact hj))]
  exact k.pin j hj
/-- what the suite wishes -/
def tsAs (K : PySem.W.Frag) (O : List Nat) (s0 : St) (G : Addr → Addr → EnT → Option OutT) (a : Addr) (cls : Value) (d : Option Addr) : TS := fun D σ H => d = none ∧ ∃ A, cls = .ref A ∧ rdU K O s0 (fun _ _ _ _ => False) (G A a) D σ H
def tsOn (K : PySem.W.Frag) (O : List Nat) (s0 : St) (G : Addr → EnT → Option OutT) (_ : Addr) (cls : Value) (_ : Option Addr) : TS := fun D σ H => ∃ A, cls = .ref A ∧ rdU K O s0 (fun _ _ _ _ => False) (G A) D σ H
theorem ru_try_as {cv : Value} {c : Addr → Option Bool} {F : EnT → Option OutT} {G : Addr → Addr → EnT → Option OutT} {D' : Ends} (hi : i ∉ O) (hc : ∀ A b, c A = some b → PySem.W.exmOne K (.ref A) cv = some b) (h : rdU K O s0 W (uTryAs c i F G) D' σ H) :
    rdU K O s0 (wAs K cv i (tsAs K O s0 G) W D') F D' σ H := by
  obtain ⟨Hv, fp, ρ, o, k, e, p⟩ := h
  obtain ⟨o1, h1, e⟩ := bind_some2 e
  refine ⟨Hv, fp, ρ, o1, k, h1, ?_⟩
  cases o1 with
  | nx ρ' => cases e; exact p
  | bk ρ' => cases e; exact p
  | ct ρ' => cases e; exact p
  | rt t ρ' => cases e; exact p
  | xc x ρ1 =>
    obtain ⟨b, h2, e⟩ := bind_some2 e
    intro d σ' H' Hv' fp' f' k' xr
    refine ⟨b, hc _ _ h2, fun hb a ha => ?_, fun hb => ?_⟩
    · subst hb
      rw [if_pos rfl] at e
      split at e
      case isFalse => cases e
      rename_i hfs
      have hd : d = none := by
        cases xr with
        | none c => rfl
        | some hn _ _ => exact absurd hfs hn
      obtain ⟨hl, hs⟩ := sameO_ok e
      obtain ⟨o2, g1, g2⟩ := bind_some2 (hs a)
      have p' := PoU.trans f' p
      obtain ⟨fp1, k1, w1, s1⟩ := k'.set (rest := []) (ft := []) (v := .ref a) (t := .fr (.ob a)) hi hl (.fr (.ob a)) (by simpa using k'.w)
      refine ⟨hd, x.c, rfl, Hv', fp1, _, o2, k1, g1, ?_⟩
      have f1 : Frm H' Hv' fp' H' Hv' fp1 := .drop k'.w (fun a h => by simpa using s1 a (by simpa using h)) k1.w.nd
      have p2 := PoU.trans f1 p'
      have goN : ∀ {ρ2 : EnT} {R : St → Hp → Prop}, PoN K O s0 H' Hv' fp1 (ρ2.set i .dead) R → PoN K O s0 H' Hv' fp1 ρ2 (fun σ2 H2 => R (σ2.set i none) H2) := fun {ρ2 R} q σ2 H2 Hv2 fp2 f2 k2 => by
        obtain ⟨fp3, k3, s3⟩ := k2.gone hi
        exact q _ H2 Hv2 fp3 (f2.trans (.drop k2.w (fun a h => s3.mem h) k3.w.nd)) k3
      cases o2 with
      | nx ρ2 => cases g2; exact goN p2
      | bk ρ2 => cases g2; exact goN p2
      | ct ρ2 => cases g2; exact goN p2
      | rt t ρ2 =>
        cases g2
        intro v σ2 H2 Hv2 fp2 ft f2 k2 tv
        obtain ⟨fp3, k3, s3⟩ := k2.gone hi
        exact p2 v _ H2 Hv2 fp3 ft (f2.trans (.drop f2.w (fun a h => (s3.append_left ft).mem h) ((s3.append_left ft).nodup f2.w.nd))) k3 tv
      | xc y ρ2 => cases g2
    · subst hb
      rw [if_neg (by decide)] at e
      cases e
      exact p d σ' H' Hv' fp' f' k' xr
theorem ru_try {cv : Value} {c : Addr → Option Bool} {F : EnT → Option OutT} {G : Addr → EnT → Option OutT} {D' : Ends} (hc : ∀ A b, c A = some b → PySem.W.exmOne K (.ref A) cv = some b) (h : rdU K O s0 W (uTry c F G) D' σ H) :
    rdU K O s0 (wOnly K cv (tsOn K O s0 G) W D') F D' σ H := by
  obtain ⟨Hv, fp, ρ, o, k, e, p⟩ := h
  obtain ⟨o1, h1, e⟩ := bind_some2 e
  refine ⟨Hv, fp, ρ, o1, k, h1, ?_⟩
  cases o1 with
  | nx ρ' => cases e; exact p
  | bk ρ' => cases e; exact p
  | ct ρ' => cases e; exact p
  | rt t ρ' => cases e; exact p
  | xc x ρ1 =>
    obtain ⟨b, h2, e⟩ := bind_some2 e
    intro d σ' H' Hv' fp' f' k' xr
    refine ⟨b, hc _ _ h2, fun hb a ha => ?_, fun hb => ?_⟩
    · subst hb
      rw [if_pos rfl] at e
      obtain ⟨o2, g1, g2⟩ := bind_some2 e
      have p' := PoU.trans f' p
      refine ⟨x.c, rfl, Hv', fp', ρ1, o2, k', g1, ?_⟩
      cases o2 with
      | nx ρ2 => cases g2; exact p'
      | bk ρ2 => cases g2; exact p'
      | ct ρ2 => cases g2; exact p'
      | rt t ρ2 => cases g2; exact p'
      | xc y ρ2 => cases g2
    · subst hb
      rw [if_neg (by decide)] at e
      cases e
      exact p d σ' H' Hv' fp' f' k' xr
end
section
variable {X : Cx} {O : List Nat} {s0 : St} {W : WX} {i : Nat} {x n : Str} {cv : Value} {c : Addr → Option Bool} {F : EnT → Option OutT} {body suite : List Stmt} {b₀ : Stmt} {np pos pos' : Pos}
theorem yu_try_as {G : Addr → Addr → EnT → Option OutT} (hi : i ∉ O) (hex : ∀ A b, c A = some b → PySem.W.exmOne X.K (.ref A) cv = some b) (hs : X.stack = X.env :: X.outer) (hf : X.env.frame = some X.env.locals) (hN : X.N.Nodup) (hn : X.N[i]? = some n) (hln : X.env.kindOf n = some .local) (hc : Names X x cv) (tk : Takes X W)
    (hb : ∀ (W' : WX) (pn : List (Addr × Obj)) (xe : Value → Shared → Prop), Takes (X.tr pn xe) W' → PassesOwn (model X.prog X.w) X.A X.env xe → PSs (X.tr pn xe) body (rdU X.K O s0 W' F))
    (hsu : ∀ (a : Addr) (oe : Obj) (A : Addr) (pn : List (Addr × Obj)), Zc (.ref A) none oe → (∃ vs, oe.data = .fields vs) → PSs (X.suite a ((a, oe) :: pn)) (b₀ :: suite) (rdU X.K O s0 (fun _ _ _ _ => False) (G A a))) :
    PS X (.Try body [.ExceptHandler (some (.Name x np)) (some n) (b₀ :: suite) pos'] [] [] pos) (rdU X.K O s0 W (uTryAs c i F G)) := by
  refine ps_imp (ps_try_as (ts := tsAs X.K O s0 G) (tb := fun W' => rdU X.K O s0 W' F) hs hf hN hn hln hc tk hb fun a oe cls d pn hz hv => ⟨fun pins s σ H D I w => ?_⟩) fun D σ H w => ru_try_as hi hex w
  obtain ⟨rfl, A, rfl, w⟩ := w
  exact (hsu a oe A pn hz hv).run pins s σ H D I w
theorem yu_try {G : Addr → EnT → Option OutT} (hex : ∀ A b, c A = some b → PySem.W.exmOne X.K (.ref A) cv = some b) (hs : X.stack = X.env :: X.outer) (hf : X.env.frame = some X.env.locals) (hc : Names X x cv) (tk : Takes X W)
    (hb : ∀ (W' : WX) (pn : List (Addr × Obj)) (xe : Value → Shared → Prop), Takes (X.tr pn xe) W' → PassesOwn (model X.prog X.w) X.A X.env xe → PSs (X.tr pn xe) body (rdU X.K O s0 W' F))
    (hsu : ∀ (a : Addr) (oe : Obj) (A : Addr) (pn : List (Addr × Obj)), (∃ vs, oe.data = .fields vs) → PSs (X.suite a ((a, oe) :: pn)) (b₀ :: suite) (rdU X.K O s0 (fun _ _ _ _ => False) (G A))) :
    PS X (.Try body [.ExceptHandler (some (.Name x np)) none (b₀ :: suite) pos'] [] [] pos) (rdU X.K O s0 W (uTry c F G)) := by
  refine ps_imp (ps_try_only (ts := tsOn X.K O s0 G) (tb := fun W' => rdU X.K O s0 W' F) hs hf hc tk hb fun a oe cls d pn hz hv => ⟨fun pins s σ H D I w => ?_⟩) fun D σ H w => ru_try hex w
  obtain ⟨A, rfl, w⟩ := w
  exact (hsu a oe A pn hv).run pins s σ H D I w
end
/-! ### isinstance(e, C), e the exception of the suite -/
def dIsE (a : Addr) (r : Option Bool) : Option D → Option D
  | some (.ob x) => if x = a then r.map .bl else none
  | _ => none
def eIsE (a : Addr) (r : Option Bool) (f : En → Option D) (ρ : En) : Option D := dIsE a r (f ρ)
theorem q_isE {a : Addr} {r : Option Bool} {f : En → Option D} {ρ : En} : eIsE a r f ρ = dIsE a r (f ρ) := (rfl)
theorem q_isE2 {a : Addr} {b : Bool} : dIsE a (some b) (some (.ob a)) = some (.bl b) := by
  show (if a = a then (some b).map D.bl else none) = _
  rw [if_pos rfl]
  rfl
section
variable {X : Cx} {a A : Addr} {oe : Obj} {pn : List (Addr × Obj)} {e ce : Expr} {p pos : Pos} {f : En → Option D} {cv : V} {cu : Value} {r : Option Bool}
theorem pd_isE (hk : ∀ b, r = some b → ExcC X.K A ∧ PySem.W.kitOne X.K (.ref A) cu = some b) (hcv : ∀ u, RelV cv u → u = cu) (hz : Zc (.ref A) none oe) (hf : ∃ vs, oe.data = .fields vs) (hg : Gl (X.suite a ((a, oe) :: pn)) "isinstance") (hm : X.mg "isinstance" = none)
    (he : PE (X.suite a ((a, oe) :: pn)) e (rdE X.K f)) (hc : PE (X.suite a ((a, oe) :: pn)) ce (tC cv))
    (h1 : starEach [e, ce] X.env = (false, eval e X.env) :: starEach [ce] X.env := by rfl) (h2 : starEach [ce] X.env = (false, eval ce X.env) :: starEach [] X.env := by rfl) (hpl : (backTo pos (starEach [ce] X.env)).any (·.1) = false := by rfl) :
    PE (X.suite a ((a, oe) :: pn)) (.Call (.Name "isinstance" p) [e, ce] [] pos) (rdE X.K (eIsE a r f)) := by
  refine ⟨fun pins s σ H Q I w => ?_⟩
  obtain ⟨Hv, ρ, d, s1, en, f', k⟩ := w
  unfold eIsE dIsE at f'
  split at f'
  case h_2 => cases f'
  rename_i y hy
  split at f'
  case isFalse => cases f'
  rename_i ey
  subst ey
  cases r with
  | none => cases f'
  | some b =>
    cases f'
    obtain ⟨C, kit⟩ := hk b rfl
    have hh := pe_callB (X := X.suite y ((y, oe) :: pn)) (x := "isinstance") (p := p) (pos := pos) (call_isE (X := X) C hz hf) hg hm PyProof.Rows.boot_isinstance (pa_cons he (pa_cons hc pa_nil h2) h1) (by decide) (by decide) h1 hpl
    refine hh.run pins s σ H Q I ?_
    refine ⟨Hv, ρ, _, s1, en, hy, fun v H1 Hv1 st dn => ?_⟩
    cases dn
    refine ⟨cv, cu, b, rfl, hcv, kit, ?_⟩
    exact k (.bl b) H1 Hv1 st (.bl b)
end
end PO
namespace PO
open PySem L2 PD
/-! ### the classes of exceptions, as a def sees them -/
structure XEnv where
  c : Nat → Addr
  ex : Addr → Nat → Option Bool
  is : Addr → Nat → Option Bool
theorem exm_ref {K : PySem.W.Frag} {C : Addr} {cls : Value} {b : Bool} (h1 : PySem.W.subIn K (.ref C) (.type "BaseException") = some true) (hdct : PySem.W.hasDictIn K C = true) (ht : PySem.W.typeIn K (.ref C) = some (.type "type")) (h4 : PySem.W.subIn K cls (.ref C) = some b) : PySem.W.exmOne K cls (.ref C) = some b := PySem.W.exm_ref h1 hdct ht h4
theorem kit_own {K : PySem.W.Frag} {S C : Addr} {b : Bool} (iC : PySem.W.isClsIn K C = true) (tC : PySem.W.typeIn K (.ref C) = some (.type "type")) (sC : PySem.W.subIn K (.ref C) (.ref C) = some true) (h4 : PySem.W.subIn K (.ref S) (.ref C) = some b) : PySem.W.kitOne K (.ref S) (.ref C) = some b := by
  unfold PySem.W.kitOne
  by_cases e : S = C
  · subst e
    rw [sC] at h4
    cases h4
    rw [if_pos (by simp)]
  · rw [if_neg (by simpa using e)]
    have e2 : ((PySem.W.clsIn K C).isSome && PySem.W.typeIn K (.ref C) == some (.type "type")) = true := by
      have : (PySem.W.clsIn K C).isSome = true := iC
      rw [this, tC] <;> rfl
    show (if ((PySem.W.clsIn K C).isSome && PySem.W.typeIn K (.ref C) == some (.type "type")) = true then PySem.W.subIn K (.ref S) (.ref C) else none) = some b
    rw [if_pos e2]
    exact h4
theorem kit_blt {K : PySem.W.Frag} {S : Addr} {T : String} {b : Bool} (h4 : PySem.W.subIn K (.ref S) (.type T) = some b) (hm : PySem.W.kitMeta T = true := by decide +kernel) : PySem.W.kitOne K (.ref S) (.type T) = some b := by
  unfold PySem.W.kitOne
  rw [if_neg (by simp)]
  show (if PySem.W.kitMeta T = true then PySem.W.subIn K (.ref S) (.type T) else none) = some b
  rw [if_pos hm]
  exact h4
/-! ### a text some times over -/
def repS (x : Str) (n : Nat) : Str := ⟨(List.replicate n x.cps).foldl (· ++ ·) #[]⟩
def dRep : D → D → Option D
  | .str x, .int n => if 2 ≤ n ∧ n ≤ 100000 ∧ x.length = 1 then some (.str (repS x n.toNat)) else none
  | _, _ => none
theorem q_rep {x : Str} {n : Int} : dRep (.str x) (.int n) = if 2 ≤ n ∧ n ≤ 100000 ∧ x.length = 1 then some (.str (repS x n.toNat)) else none := (rfl)
section
variable {X : Cx} {a b : Expr} {pos : Pos} {f g : En → Option D}
theorem rep_size (x : Array Nat) : ∀ (n : Nat) (a : Array Nat), ((List.replicate n x).foldl (· ++ ·) a).size = a.size + n * x.size
  | 0, a => by simp
  | n + 1, a => by
    rw [List.replicate_succ, List.foldl_cons, rep_size x n, Array.size_append, Nat.add_mul, Nat.one_mul]
    omega
theorem short_ok {n : Nat} (h : n ≤ 16777216) : ¬ (Builtin.Str.tooLong n = true) := by
  unfold Builtin.Str.tooLong
  rw [sizeLine_eq]
  intro e
  have := of_decide_eq_true e
  omega
theorem op_repS : OpR X (binaryOp .Mult) (fun x y H Q => ∃ i n, x = .str i ∧ y = .int n ∧ 2 ≤ n ∧ n ≤ 100000 ∧ i.length = 1 ∧ Q (.str (repS i n.toNat)) H) := by
  intro pins s σ H x y v u Q I rx ry h
  obtain ⟨i, n, rfl, rfl, h1, h2, h3, q⟩ := h
  obtain ⟨t, rfl⟩ := rx
  obtain ⟨t', rfl⟩ := ry
  refine PySem.P.mul_str ?_ (fun _ _ => ?_) (fun _ _ => ?_) ?_
  · rw [decide_eq_false (by omega), decide_eq_false (by omega)]; rfl
  · have : (2 ^ 63 - 1 : Int) / n ≥ 1 := by
      have := (Int.le_ediv_iff_mul_le (show (0 : Int) < n by omega) (a := 1) (b := 2 ^ 63 - 1)).mpr (by omega)
      exact this
    omega
  · rw [h3, Nat.one_mul]
    exact Bool.eq_false_iff.mpr (short_ok (by omega))
  · rw [if_neg (by omega), if_neg (by simp [h3]; omega)]
    exact ⟨by
      show ((List.replicate n.toNat i.cps).foldl (· ++ ·) #[]).size ≤ sizeLine
      rw [rep_size, show i.cps.size = 1 from h3, sizeLine_eq]
      simp
      omega, ⟨.str (repS i n.toNat), H, I.tok _, ⟨_, rfl⟩, q⟩⟩
theorem ok_rep {K : PySem.W.Frag} : Ok2 K (fun x y H Q => ∃ i n, x = .str i ∧ y = .int n ∧ 2 ≤ n ∧ n ≤ 100000 ∧ i.length = 1 ∧ Q (.str (repS i n.toNat)) H) dRep := by
  intro H Hv x y a b d Q e hx hy h k
  unfold dRep at h
  split at h
  · cases hx; cases hy
    split at h
    · rename_i c
      cases h
      exact ⟨_, _, rfl, rfl, c.1, c.2.1, c.2.2, k _ H Hv (.refl e) (.str _)⟩
    · cases h
  · cases h
theorem pd_rep (ha : PE X a (rdE X.K f)) (hb : PE X b (rdE X.K g)) : PE X (.BinOp a .Mult b pos) (rdE X.K (e2 dRep f g)) := pd_op op_repS ok_rep ha hb
end
end PO
namespace PD
open PySem L2
/-! ### isinstance(x, (T1, T2)) -/
def dIsi2 (t1 t2 : Tk) (d : D) : Option D := match cIsi [d, .ty t1], cIsi [d, .ty t2] with
  | some (.bl a), some (.bl b) => some (.bl (a || b))
  | _, _ => none
theorem q_isi2 {t1 t2 : Tk} {d : D} {a b : Bool} (h1 : cIsi [d, .ty t1] = some (.bl a)) (h2 : cIsi [d, .ty t2] = some (.bl b)) : dIsi2 t1 t2 d = some (.bl (a || b)) := by
  unfold dIsi2
  rw [h1, h2]
section
variable {X : Cx} {e c1 c2 : Expr} {p pos tpos : Pos} {f : En → Option D} {t1 t2 : Tk}
theorem kit_two {K : PySem.W.Frag} {n a1 a2 : String} {b1 b2 : Bool} (h1 : kitB n a1 = some b1) (h2 : kitB n a2 = some b2) : PySem.W.kitAny K (.type n) [.type a1, .type a2] = some (b1 || b2) := by
  cases b1 with
  | true => exact kitAny_cons (kit_ty h1) (fun h => by cases h) (fun _ => rfl)
  | false =>
    refine kitAny_cons (kit_ty h1) (fun _ => ?_) (fun h => by cases h)
    cases b2 with
    | true => exact kitAny_cons (kit_ty h2) (fun h => by cases h) (fun _ => rfl)
    | false => exact kitAny_cons (kit_ty h2) (fun _ => kitAny_nil) (fun h => by cases h)
theorem isi2_ty {K : PySem.W.Frag} {Hv H : Hp} {v : V} {d : D} {b : Bool} (s : Same Hv H) (dn : Dn K Hv v d) (h : dIsi2 t1 t2 d = some (.bl b)) : ∃ t, TyX K H v t ∧ PySem.W.kitAny K t [.type t1.nm, .type t2.nm] = some b := by
  unfold dIsi2 cIsi at h
  cases dn <;> simp only at h <;> cases h
  · exact ⟨_, .base .non, kit_two (kit_non t1) (kit_non t2)⟩
  · exact ⟨_, .base (.bl _), kit_two (kit_tab .bool t1) (kit_tab .bool t2)⟩
  · exact ⟨_, .base (.int _), kit_two (kit_tab .int t1) (kit_tab .int t2)⟩
  · exact ⟨_, .base (.str _), kit_two (kit_tab .str t1) (kit_tab .str t2)⟩
  · rename_i hs r
    exact ⟨_, tyx_tup (sameT s hs), kit_two (kit_tab .tuple t1) (kit_tab .tuple t2)⟩
  · rename_i hs r
    exact ⟨_, tyx_list (sameL s hs), kit_two (kit_tab .list t1) (kit_tab .list t2)⟩
  · rename_i hs r
    exact ⟨_, .base (.dK (s _ _ hs)), kit_two (kit_tab .dict t1) (kit_tab .dict t2)⟩
theorem pd_isi2 {k : Nat} (hg : Gl X "isinstance") (hm : X.mg "isinstance" = none) (he : PE X e (rdE X.K f)) (h1 : PE X c1 (tC (.ty t1.nm))) (h2 : PE X c2 (tC (.ty t2.nm)))
    (s1 : starEach [e, .Tuple [c1, c2] k tpos] X.env = (false, eval e X.env) :: starEach [.Tuple [c1, c2] k tpos] X.env := by rfl) (s2 : starEach [.Tuple [c1, c2] k tpos] X.env = (false, eval (.Tuple [c1, c2] k tpos) X.env) :: starEach [] X.env := by rfl)
    (s3 : starEach [c1, c2] X.env = (false, eval c1 X.env) :: starEach [c2] X.env := by rfl) (s4 : starEach [c2] X.env = (false, eval c2 X.env) :: starEach [] X.env := by rfl) (hpl : (backTo pos (starEach [.Tuple [c1, c2] k tpos] X.env)).any (·.1) = false := by rfl) :
    PE X (.Call (.Name "isinstance" p) [e, .Tuple [c1, c2] k tpos] [] pos) (rdE X.K (e1 (dIsi2 t1 t2) f)) := by
  refine pe_imp (pe_callB (call_isiT (X := X)) hg hm PyProof.Rows.boot_isinstance (pa_cons he (pa_cons (pe_tup (pa_cons h1 (pa_cons h2 pa_nil s4) s3)) pa_nil s2) s1) (by decide) (by decide) s1 hpl) fun σ H Q w => ?_
  obtain ⟨Hv, ρ, d, s, en, f', q⟩ := w
  obtain ⟨d0, f0, f'⟩ := bind_some2 f'
  refine ⟨Hv, ρ, d0, s, en, f0, fun v H1 Hv1 st dn => ?_⟩
  refine ⟨by show 2 ≤ sizeLine; decide, fun r hr => ?_⟩
  obtain ⟨b, rfl⟩ : ∃ b, d = .bl b := by
    unfold dIsi2 at f'
    split at f'
    · cases f'; exact ⟨_, rfl⟩
    · cases f'
  have sx : Same Hv1 (upd H1 r (.tup [.ty t1.nm, .ty t2.nm])) := sameMut st.c (st.c.free hr)
  obtain ⟨t, ty, ka⟩ := isi2_ty sx dn f'
  exact ⟨v, r, _, t, [.type t1.nm, .type t2.nm], b, rfl, upd_same, .cons (.ty _) (.cons (.ty _) .nil), ty, ka, q (.bl b) _ Hv1 (st.trans (Stp.newH st.c hr)) (.bl b)⟩
end
/-! ### a def that calls itself -/
theorem spD_none {P : Program} {w : World} {K : PySem.W.Frag} {mg : Str → Option Value} {base : Heap} {CX : CXT} {k : Nat} {f : Addr} {fd : FuncData} {ps : List Str} : FnOk P w K mg base CX k f fd ps (spD K fun _ => none) :=
  ⟨fun vs H Q E h => (by obtain ⟨_, _, _, _, _, e, _⟩ := h; cases e), fun A outer s H args us vs Q E _ _ _ _ h => (by obtain ⟨_, _, _, _, _, e, _⟩ := h; cases e)⟩
end PD
namespace PD
open PySem L2
/-! ### zip of two lists or of two tuples -/
def iZAX : Option (List D) → Option (List D)
  | some [.lst as, .lst bs] => some (zipD as bs)
  | some [.tup as, .tup bs] => some (zipD as bs)
  | _ => none
def iZA (f : En → Option (List D)) (ρ : En) : Option (List D) := iZAX (f ρ)
theorem x_iZA {f : En → Option (List D)} {ρ : En} : iZA f ρ = iZAX (f ρ) := (rfl)
theorem q_iZA1 {a b : List D} : iZAX (some [.lst a, .lst b]) = some (zipD a b) := (rfl)
theorem q_iZA2 {a b : List D} : iZAX (some [.tup a, .tup b]) = some (zipD a b) := (rfl)
section
variable {K : PySem.W.Frag} {σ : St} {H : Hp} {R : It → Hp → Prop}
theorem walk_zipT {Hv1 : Hp} {a b : Addr} {vs ws : List V} {ds es : List D} (h : SqT K Hv1 a vs) (r : Dns K Hv1 vs ds) (h' : SqT K Hv1 b ws) (r' : Dns K Hv1 ws es) : Walk K Hv1 (RZ.ItzT K a b) (zipD ds es) := by
  intro i H Hv s1 s2
  have hH := sameT (s1.trans s2) h
  have hH' := sameT (s1.trans s2) h'
  rw [zipD_get]
  refine ⟨fun d e => ?_, fun e => ⟨vs, ws, hH, hH', ?_⟩⟩
  · cases e1 : ds[i]? with
    | none => rw [e1] at e; cases e
    | some d1 =>
      cases e2 : es[i]? with
      | none => rw [e1, e2] at e; cases e
      | some d2 =>
        rw [e1, e2] at e
        cases e
        obtain ⟨v, h1, h2⟩ := r.get e1
        obtain ⟨v', h1', h2'⟩ := r'.get e2
        refine ⟨⟨vs, ws, v, v', hH, hH', h1, h1'⟩, fun x H' y => ?_⟩
        obtain ⟨T, x1, x2, rfl, nT, rfl, q1, q2⟩ := y
        have z1 := q1 vs hH
        have z2 := q2 ws hH'
        rw [h1] at z1
        rw [h1'] at z2
        cases z1; cases z2
        have st := Stp.new (o := .tup [v, v']) s2 nT
        exact ⟨_, st, .tup (.of upd_same) (.cons (h2.mono (s1.trans st.b)) (.cons (h2'.mono (s1.trans st.b)) .nil))⟩
  · cases e1 : ds[i]? with
    | none => left; rw [r.length]; exact List.getElem?_eq_none_iff.mp e1
    | some d1 =>
      cases e2 : es[i]? with
      | none => right; rw [r'.length]; exact List.getElem?_eq_none_iff.mp e2
      | some d2 => rw [e1, e2] at e; cases e
theorem ri_zipA {f : En → Option (List D)} (h : rdI K (iZA f) σ H R) : RZ.iZipA K (rdA K f) σ H R := by
  obtain ⟨Hv, ρ, ds, e, en, f', k⟩ := h
  unfold iZA iZAX at f'
  split at f'
  · rename_i as bs e1
    cases f'
    refine ⟨Hv, ρ, _, e, en, e1, fun v H' Hv' s q => ?_⟩
    cases q with
    | cons q r =>
      cases r with
      | cons q2 r =>
        cases r
        cases q with
        | lst h1 r1 =>
          cases q2 with
          | lst h2 r2 => exact ⟨_, _, _, _, rfl, .inl ⟨sameL s.c h1, sameL s.c h2, k _ H' Hv' s (walk_zip h1 r1 h2 r2)⟩⟩
  · rename_i as bs e1
    cases f'
    refine ⟨Hv, ρ, _, e, en, e1, fun v H' Hv' s q => ?_⟩
    cases q with
    | cons q r =>
      cases r with
      | cons q2 r =>
        cases r
        cases q with
        | tup h1 r1 =>
          cases q2 with
          | tup h2 r2 => exact ⟨_, _, _, _, rfl, .inr ⟨sameT s.c h1, sameT s.c h2, k _ H' Hv' s (walk_zipT h1 r1 h2 r2)⟩⟩
  · cases f'
end
theorem id_zipA {X : Cx} {e e2 : Expr} {f : En → Option (List D)} {p pos tpos : Pos} {elts : List Expr} {kk : Nat} (hg : Gl X "zip") (hm : X.mg "zip" = none) (ha : PA X [e, e2] (rdA X.K f))
    (hs : starEach [e, e2] X.env = (false, eval e X.env) :: starEach [e2] X.env := by rfl) (hpl : (backTo pos (starEach [e2] X.env)).any (·.1) = false := by rfl) :
    PI X (.Tuple elts kk tpos) (.Call (.Name "zip" p) [e, e2] [] pos) (rdI X.K (iZA f)) := pi_imp (RZ.pi_zipA hg hm ha hs hpl) fun _ _ _ => ri_zipA
end PD
namespace PD
open PySem L2 PySem.Spec PyProof.Rows
/-! ### any(..) of truths and of lists -/
def truL : List D → Option (List Bool)
  | [] => some []
  | .bl b :: r => (truL r).map (b :: ·)
  | .lst l :: r => (truL r).map ((!l.isEmpty) :: ·)
  | _ => none
def cAnyL : List D → Option D
  | [.lst ds] => (truL ds).map fun bs => .bl (bs.any id)
  | _ => none
theorem q_anyL {ds : List D} : cAnyL [.lst ds] = (truL ds).map fun bs => .bl (bs.any id) := (rfl)
inductive TrV (K : PySem.W.Frag) (H : Hp) : List V → List Bool → Prop
  | nil : TrV K H [] []
  | bl (b : Bool) {xs : List V} {bs : List Bool} : TrV K H xs bs → TrV K H (.bl b :: xs) (b :: bs)
  | lst {p : Addr} {ys xs : List V} {bs : List Bool} : SqL K H p ys → TrV K H xs bs → TrV K H (.ref p :: xs) ((!ys.isEmpty) :: bs)
theorem TrV.get {K : PySem.W.Frag} {H : Hp} : ∀ {xs : List V} {bs : List Bool} {i : Nat} {x : V}, TrV K H xs bs → xs[i]? = some x → (∃ b, x = .bl b ∧ bs.getD i false = b) ∨ ∃ p ys, x = .ref p ∧ SqL K H p ys ∧ bs.getD i false = !ys.isEmpty
  | _, _, _, _, .nil, e => by simp at e
  | _, _, 0, _, .bl b _, e => by simp at e; exact .inl ⟨b, e.symm, rfl⟩
  | _, _, 0, _, .lst h _, e => by simp at e; exact .inr ⟨_, _, e.symm, h, rfl⟩
  | _, _, i + 1, _, .bl b r, e => by
    have := TrV.get (i := i) r (by simpa using e)
    simpa using this
  | _, _, i + 1, _, .lst h r, e => by
    have := TrV.get (i := i) r (by simpa using e)
    simpa using this
theorem TrV.length {K : PySem.W.Frag} {H : Hp} : ∀ {xs : List V} {bs : List Bool}, TrV K H xs bs → xs.length = bs.length
  | _, _, .nil => rfl
  | _, _, .bl _ r => by rw [List.length_cons, List.length_cons, TrV.length r]
  | _, _, .lst _ r => by rw [List.length_cons, List.length_cons, TrV.length r]
def rAnyL (K : PySem.W.Frag) : List V → Hp → VK → Prop := fun vs H Q => ∃ (a : Addr) (xs : List V) (bs : List Bool), vs = [V.ref a] ∧ SqL K H a xs ∧ TrV K H xs bs ∧ Q (.bl (bs.any id)) H
theorem truL_ok {K : PySem.W.Frag} {H Hv : Hp} (s : Same Hv H) : ∀ {vs : List V} {ds : List D} {bs : List Bool}, Dns K Hv vs ds → truL ds = some bs → TrV K H vs bs
  | _, _, _, .nil, e => by cases e; exact .nil
  | _, _, bs, .cons (d := d) q r, e => by
    cases d <;> simp only [truL] at e <;> try cases e
    · rename_i b
      cases q
      obtain ⟨bs', e1, rfl⟩ := Option.map_eq_some_iff.mp e
      exact .bl b (truL_ok s r e1)
    · rename_i l
      cases q with
      | lst h r' =>
        obtain ⟨bs', e1, rfl⟩ := Option.map_eq_some_iff.mp e
        have q := TrV.lst (sameL s h) (truL_ok s r e1)
        rw [show (_ : List V).isEmpty = l.isEmpty from r'.empty] at q
        exact q
theorem okc_anyL {K : PySem.W.Frag} : OkC K (rAnyL K) cAnyL := by
  intro H Hv vs ds d Q e r h k
  unfold cAnyL at h
  split at h
  · cases r with
    | cons q r =>
      cases r
      obtain ⟨bs, e1, rfl⟩ := Option.map_eq_some_iff.mp h
      cases q with
      | lst hs r' => exact ⟨_, _, bs, rfl, sameL e hs, truL_ok e r' e1, k _ H Hv (.refl e) (.bl _)⟩
  · cases h
section
variable {prog : Program} {w : World} {A : Around} {R : Result → Shared → Prop} {I : Addr} {fp wr : List Addr} {n : Nat} {P : Nat → Value → Prop} {St : Nat → Heap → Prop}
/-- the loop of any(..), the items' truth as the heap G tells it -/
theorem any_loopG (W : Walks prog w A.in1 I fp wr n P St) (G : Heap → Prop) (hG : ∀ h h', G h → (∀ b o, b ∉ wr → h.get? b = some o → h'.get? b = some o) → G h') (tr : Nat → Bool)
    (htr : ∀ i v (s : Shared) (Q : Bool → Shared → Prop) (E : Value → Shared → Prop), P i v → G s.heap → (∀ tk, Q (tr i) { s with toks := tk }) → wpAny (model prog w) A.in1 (truthy v) Q E s) : ∀ (k i : Nat) (s : Shared), n - i = k → i ≤ n → St i s.heap → G s.heap →
    (∀ h' tk, (∀ b o, b ∉ wr → s.heap.get? b = some o → h'.get? b = some o) → R (.ok (.ret (.bool (((List.range n).drop i).any tr)))) { s with heap := h', toks := tk }) →
    codeAny (model prog w) A (.builtin "any.loop" ⟨[.ref I], []⟩) R s := by
  intro k
  induction k with
  | zero =>
    intro i s hk hi hst hg hR
    have hin : i = n := by omega
    subst hin
    refine codeAny_builtin F.entry_any_loop ?_
    rw [Around.under_plainId F.plain_any_loop _]
    show wpAny _ A.in1 (pyNext (.ref I) >>= _) _ _ s
    refine wpAny_bind (W.done s _ _ hst fun h' tk hk' => ?_)
    refine wpAny_bind (wpAny_rule (wpAny_pure ?_))
    have := hR h' tk hk'
    rw [List.drop_of_length_le (by simp)] at this
    exact this
  | succ k ih =>
    intro i s hk hi hst hg hR
    have hlt : i < n := by omega
    have hd : (List.range n).drop i = i :: (List.range n).drop (i + 1) := by
      rw [List.drop_eq_getElem_cons (by simpa using hlt)]; simp
    refine codeAny_builtin F.entry_any_loop ?_
    rw [Around.under_plainId F.plain_any_loop _]
    show wpAny _ A.in1 (pyNext (.ref I) >>= _) _ _ s
    refine wpAny_bind (W.item i s _ _ hlt hst fun v h' tk hP hst' hk' => ?_)
    have hg' := hG _ _ hg hk'
    refine wpAny_bind (wpAny_holding (htr i v _ _ _ hP hg' fun tk2 => ?_))
    refine wpAny_bind (wpAny_letGo ?_)
    cases hb : tr i with
    | false =>
      simp only [Bool.false_eq_true, if_false]
      refine wpAny_pure ⟨plainId_quiet F.plain_any_loop _, ih (i + 1) _ (by omega) hlt hst' hg' fun h'' tk'' hk'' => ?_⟩
      have := hR h'' tk'' fun b o hbw e => hk'' b o hbw (hk' b o hbw e)
      rw [hd, List.any_cons, hb, Bool.false_or] at this
      exact this
    | true =>
      simp only [if_true]
      refine wpAny_bind (wpAny_rule (wpAny_pure ?_))
      have := hR h' tk2 hk'
      rw [hd, List.any_cons, hb, Bool.true_or] at this
      exact this
end
section
variable {X : Cx}
theorem paired_r {α β : Type} {F : α → β → Prop} : ∀ {xs : List α} {ys : List β}, PySem.Paired F xs ys → ∀ {i : Nat} {y : β}, ys[i]? = some y → ∃ x, xs[i]? = some x ∧ F x y
  | _, _, .cons h _, 0, _, e => by
    cases e
    exact ⟨_, rfl, h⟩
  | _, _, .cons _ r, i + 1, _, e => by
    have := paired_r r (i := i) (by simpa using e)
    simpa using this
theorem any_get : ∀ bs : List Bool, (List.range bs.length).any (fun i => bs.getD i false) = bs.any id := any_range
theorem cr_anyL (hc : X.calm = true) : CallR X (.builtin "any") (rAnyL X.K) := by
  intro pins s σ H vs us Q I r h
  obtain ⟨a, xs, bs, rfl, hs, tv, q⟩ := h
  obtain ⟨its, rv, hl, _⟩ := I.list hs
  rw [Vals.ref1 r]
  refine call_function_tree F.kind_any F.plain_any F.entry_any (F.args_any1 _) ?_
  unfold Builtin.«any»
  refine wpAny_bind (m := oneArg "any" _) (wpAny_pure ?_)
  refine wpAny_bind (wpAny_mono (iter_any hl.isList fun s₂ e2 st hne => ?_) (fun it s₂ h₂ => h₂) fun _ _ e => e)
  subst e2
  refine wpAny_pure ⟨plainId_quiet F.plain_any_loop _, ?_⟩
  refine any_loopG (Walks.list (A := X.A.in1) (I.ok.hd hc) _ a hne its.toArray) (fun h => ∀ b o, s.heap.get? b = some o → h.get? b = some o) (fun h h' g k b o e => k b o (fun hm => ?_) (g b o e)) (fun i => bs.getD i false) (fun i v s' Q' E' hP g hq => ?_) its.toArray.size 0 _ rfl (Nat.zero_le _) st (fun b o e => Heap.get?_push_of_some _ e) (fun h' tk hk => ?_)
  · rcases List.mem_cons.mp hm with e1 | hm
    · exact absurd (e1 ▸ Heap.lt_size e) (Nat.lt_irrefl _)
    · cases hm
  · have hv' : its[i]? = some v := by simpa using hP
    obtain ⟨x, hx, rx⟩ := paired_r rv hv'
    rcases tv.get hx with ⟨b, rfl, hb⟩ | ⟨p, ys, rfl, hy, hb⟩
    · obtain rfl : v = Value.bool b := rx
      rw [hb] at hq
      exact wpAny_truthy_bool (hq s'.toks)
    · obtain rfl : v = Value.ref p := rx
      obtain ⟨its2, rv2, hl2, hz2⟩ := I.list hy
      rw [hb] at hq
      refine wpAny_truthy_list (items := its2.toArray) ?_ ?_ ?_
      · obtain ⟨o, h1, h2⟩ := hl2.isList
        exact ⟨o, g _ _ h1, h2⟩
      · rw [List.size_toArray, ← rv2.length]
        have := line63
        omega
      · rw [isEmpty_of rv2]
        exact hq _
  · refine ⟨.bl _, H, I.kept fun b o eo => hk b o (fun hmem => ?_) (Heap.get?_push_of_some _ eo), ?_, q⟩
    · rcases List.mem_cons.mp hmem with e1 | hmem
      · exact absurd (e1 ▸ Heap.lt_size eo) (Nat.lt_irrefl _)
      · cases hmem
    · show Value.bool _ = Value.bool _
      rw [← any_get, List.drop_zero, List.size_toArray, ← rv.length, tv.length]
end
/-! x and y, x of any truth -/
def eAndG (f g : En → Option D) (ρ : En) : Option D := (f ρ).bind fun d => (truD d).bind fun b => if b then g ρ else some d
theorem truV_ok {K : PySem.W.Frag} {Hv H : Hp} {v : V} {d : D} {b : Bool} (s : Same Hv H) (q : Dn K Hv v d) (f' : truD d = some b) : TruV K v H b := by
  cases q <;> simp only [truD] at f' <;> try cases f'
  · rfl
  · rfl
  · rfl
  · split at f'
    · rename_i c; cases f'; exact ⟨okLen_le c, rfl⟩
    · cases f'
  · rename_i hs r; exact .inr (.inl ⟨_, sameT s hs, by rw [r.empty]⟩)
  · rename_i hs r; exact .inl ⟨_, sameL s hs, by rw [r.empty]⟩
  · rename_i hs r; exact .inr (.inr ⟨_, s _ _ hs, by rw [r.empty]⟩)
theorem rd_andG {K : PySem.W.Frag} {f g : En → Option D} {σ : L2.St} {H : Hp} {Q : VK} (h : rdE K (eAndG f g) σ H Q) : tAndT K (rdE K f) (rdE K g) σ H Q := by
  obtain ⟨Hv, ρ, d, e, en, f', k⟩ := h
  obtain ⟨c, h1, f'⟩ := bind_some2 f'
  obtain ⟨b, h2, f'⟩ := bind_some2 f'
  refine ⟨Hv, ρ, c, e, en, h1, fun v1 H1 Hv1 s1 d1 => ⟨b, truV_ok s1.c d1 h2, ?_⟩⟩
  cases b with
  | true => exact ⟨Hv1, ρ, d, s1.c, en.mono s1.b, f', fun v2 H2 Hv2 s2 => k v2 H2 Hv2 (s1.trans s2)⟩
  | false =>
    cases f'
    exact k v1 H1 Hv1 s1 d1
theorem pd_andG {X : Cx} {a b : Expr} {rest : List Expr} {pos : Pos} {f g : En → Option D} (ha : PE X a (rdE X.K f)) (hb : PE X (.BoolOp .And (b :: rest) pos) (rdE X.K g)) : PE X (.BoolOp .And (a :: b :: rest) pos) (rdE X.K (eAndG f g)) := pe_imp (pe_andT ha hb) fun _ _ _ => rd_andG
def andGX (g : En → Option D) (ρ : En) : Option D → Option D
  | some d => (truD d).bind fun b => if b then g ρ else some d
  | none => none
theorem x_andG {f g : En → Option D} {ρ : En} : eAndG f g ρ = andGX g ρ (f ρ) := by unfold eAndG; cases f ρ <;> rfl
theorem q_andG1 {g : En → Option D} {ρ : En} {d : D} {l : List D} : andGX g ρ (some (.lst (d :: l))) = g ρ := (rfl)
theorem q_andG2 {g : En → Option D} {ρ : En} : andGX g ρ (some (.lst [])) = some (.lst []) := (rfl)
end PD
set_option exponentiation.threshold 100000
open PD in
local macro_rules | `(tactic| walk_at "ev") => `(tactic| simp (config := { decide := false, failIfUnchanged := false }) only [x_split, x_iS, q_split, q_iS, q_cat, q_in, q_nin, q_str, q_intS, q_ix3, x_aug, x_tg, x_tgI, x_tru, x_extI, x_popApp, x_setAug, q_aug, q_tgN, q_tgp2, q_tgp3, q_stp1, q_stp2, q_stp3, q_stp4, q_tgI, q_tru, q_truL, q_truI, q_truB, q_truN, q_extI, q_pop1, q_pop2, q_sa3, q_sa4, q_sa5, q_isN1, q_notN1, q_isN2, q_notN2, q_isN3, q_notN3, q_isN4, q_notN4, q_wIf1, q_wIf2, q_wNext1, q_wNext2, q_wNext3, q_wNext4, q_wNext5, x_seq, x_if, x_2, x_1, x_cons, x_tup, x_lst, x_fr, x_cb, x_cf, x_tb, x_and, x_or, x_not, x_andE, x_orE, x_ifE, x_asg, x_asgI, x_asgO, x_asgOI, x_ret, x_retF, x_retO, x_par, x_app, x_appI, x_setI, x_for, x_comp, x_oS, x_sl, x_slS, x_iL, x_iT, x_iR1, x_iR2, x_iZ, x_iE, x_chain, x_getD0,
  q_seq1, q_seq2, q_seq3, q_seq4, q_seq5, q_if1, q_if2, q_bin, q_un, q_cons, q_tup, q_lst, q_fr, q_cb, q_cf, q_bl, q_and1, q_and2, q_or1, q_or2, q_not, q_andE1, q_andE2, q_orE1, q_orE2, q_ifE1, q_ifE2, q_asg, q_asgI, q_asgO, q_asgOI, q_ret, q_retF, q_retO, q_par, q_app, q_appI, q_set1, q_set2, q_for, q_next0, q_next1, q_next2, q_next3, q_next4, q_turn, q_comp, q_o, q_sl, q_slS, q_iL, q_iT, q_iR1, q_iR2, q_iZ, q_iE, q_ch1, q_ch2, q_dAdd, q_dSub, q_dMul, q_dDiv, q_dMod, q_dPow, q_dLt, q_dLe, q_dGt, q_dGe, q_neg, q_eNot, q_abs, q_len1, q_len2, q_len3, q_int1, q_int2, q_list1, q_list2, q_min, q_max, q_isi_non_int, q_isi_non_bool, q_isi_non_str, q_isi_non_tuple, q_isi_non_list, q_isi_non_dict, q_isi_bl_int, q_isi_bl_bool, q_isi_bl_str, q_isi_bl_tuple, q_isi_bl_list, q_isi_bl_dict, q_isi_int_int, q_isi_int_bool, q_isi_int_str, q_isi_int_tuple, q_isi_int_list, q_isi_int_dict, q_isi_str_int, q_isi_str_bool, q_isi_str_str, q_isi_str_tuple, q_isi_str_list, q_isi_str_dict, q_isi_tup_int, q_isi_tup_bool, q_isi_tup_str, q_isi_tup_tuple, q_isi_tup_list, q_isi_tup_dict, q_isi_lst_int, q_isi_lst_bool, q_isi_lst_str, q_isi_lst_tuple, q_isi_lst_list, q_isi_lst_dict, q_isi_dic_int, q_isi_dic_bool, q_isi_dic_str, q_isi_dic_tuple, q_isi_dic_list, q_isi_dic_dict, q_outD1, q_outD2, q_outD3, q_outF, q_st, q_sa1, q_sa2, q_mask1, q_mask2, q_nil, q_brk, q_cont, q_retN, q_eC, q_eV, q_aNil, q_tT, q_oN, q_ix1, q_ix2, q_at0, q_at1, q_at2, q_at3, q_at4, q_at5, q_imm1, q_imm2, q_imm3, q_imm4, q_imm5, q_imms1, q_imms2, q_set0, q_setS, q_set_1, q_get_1, q_set_2, q_get_2, q_set_3, q_get_3, q_set_4, q_get_4, q_set_5, q_get_5, q_set_6, q_get_6, q_set_7, q_get_7, q_set_8, q_get_8, q_set_9, q_get_9, q_set_10, q_get_10, q_set_11, q_get_11, q_set_12, q_get_12, q_set_13, q_get_13, q_set_14, q_get_14, q_set_15, q_get_15,
  okLen, Int.reduceEq, Int.reduceAdd, Int.reduceSub, Int.reduceMul, Int.reduceNeg, Int.cast_ofNat_Int, List.length_cons, List.length_nil, List.length_map, List.map_cons, List.map_nil, Nat.reduceAdd, Nat.reduceLeDiff, Nat.reduceSub, Nat.reduceEqDiff, Int.reduceLT, Int.reduceLE, Int.reduceToNat, decide_true, decide_false, ite_true, ite_false, if_true, if_false, Bool.and_true, Bool.true_and, Bool.and_self, Bool.not_true, Bool.not_false, reduceCtorEq, Bool.false_eq_true, ↓reduceIte])
open PD in
local macro_rules | `(tactic| walk_at "evs") => `(tactic| simp (config := { decide := false, failIfUnchanged := false }) only [x_split, x_iS, q_split, q_iS, q_cat, q_in, q_nin, q_str, q_intS, q_ix3, x_aug, x_tg, x_tgI, x_tru, x_extI, x_popApp, x_setAug, q_aug, q_tgN, q_tgp2, q_tgp3, q_stp1, q_stp2, q_stp3, q_stp4, q_tgI, q_tru, q_truL, q_truI, q_truB, q_truN, q_extI, q_pop1, q_pop2, q_sa3, q_sa4, q_sa5, q_isN1, q_notN1, q_isN2, q_notN2, q_isN3, q_notN3, q_isN4, q_notN4, q_wIf1, q_wIf2, q_wNext1, q_wNext2, q_wNext3, q_wNext4, q_wNext5, x_seq, x_if, x_2, x_1, x_cons, x_tup, x_lst, x_fr, x_cb, x_cf, x_tb, x_and, x_or, x_not, x_andE, x_orE, x_ifE, x_asg, x_asgI, x_asgO, x_asgOI, x_ret, x_retF, x_retO, x_par, x_app, x_appI, x_setI, x_for, x_comp, x_oS, x_sl, x_slS, x_iL, x_iT, x_iR1, x_iR2, x_iZ, x_iE, x_chain, x_getD0,
  q_seq1, q_seq2, q_seq3, q_seq4, q_seq5, q_if1, q_if2, q_bin, q_un, q_cons, q_tup, q_lst, q_fr, q_cb, q_cf, q_bl, q_and1, q_and2, q_or1, q_or2, q_not, q_andE1, q_andE2, q_orE1, q_orE2, q_ifE1, q_ifE2, q_asg, q_asgI, q_asgO, q_asgOI, q_ret, q_retF, q_retO, q_par, q_app, q_appI, q_set1, q_set2, q_for, q_next0, q_next1, q_next2, q_next3, q_next4, q_turn, q_comp, q_o, q_sl, q_slS, q_iL, q_iT, q_iR1, q_iR2, q_iZ, q_iE, q_ch1, q_ch2, q_dAdd, q_dSub, q_dMul, q_dDiv, q_dMod, q_dPow, q_dLt, q_dLe, q_dGt, q_dGe, q_neg, q_eNot, q_abs, q_len1, q_len2, q_len3, q_int1, q_int2, q_list1, q_list2, q_min, q_max, q_isi_non_int, q_isi_non_bool, q_isi_non_str, q_isi_non_tuple, q_isi_non_list, q_isi_non_dict, q_isi_bl_int, q_isi_bl_bool, q_isi_bl_str, q_isi_bl_tuple, q_isi_bl_list, q_isi_bl_dict, q_isi_int_int, q_isi_int_bool, q_isi_int_str, q_isi_int_tuple, q_isi_int_list, q_isi_int_dict, q_isi_str_int, q_isi_str_bool, q_isi_str_str, q_isi_str_tuple, q_isi_str_list, q_isi_str_dict, q_isi_tup_int, q_isi_tup_bool, q_isi_tup_str, q_isi_tup_tuple, q_isi_tup_list, q_isi_tup_dict, q_isi_lst_int, q_isi_lst_bool, q_isi_lst_str, q_isi_lst_tuple, q_isi_lst_list, q_isi_lst_dict, q_isi_dic_int, q_isi_dic_bool, q_isi_dic_str, q_isi_dic_tuple, q_isi_dic_list, q_isi_dic_dict, q_outD1, q_outD2, q_outD3, q_outF, q_st, q_sa1, q_sa2, q_mask1, q_mask2, q_nil, q_brk, q_cont, q_retN, q_eC, q_eV, q_aNil, q_tT, q_oN, q_ix1, q_ix2, q_at0, q_at1, q_at2, q_at3, q_at4, q_at5, q_imm1, q_imm2, q_imm3, q_imm4, q_imm5, q_imms1, q_imms2, q_set0, q_setS, q_set_1, q_get_1, q_set_2, q_get_2, q_set_3, q_get_3, q_set_4, q_get_4, q_set_5, q_get_5, q_set_6, q_get_6, q_set_7, q_get_7, q_set_8, q_get_8, q_set_9, q_get_9, q_set_10, q_get_10, q_set_11, q_get_11, q_set_12, q_get_12, q_set_13, q_get_13, q_set_14, q_get_14, q_set_15, q_get_15,
  okLen, Int.reduceEq, Int.reduceAdd, Int.reduceSub, Int.reduceMul, Int.reduceNeg, Int.cast_ofNat_Int, List.length_cons, List.length_nil, List.length_map, List.map_cons, List.map_nil, Nat.reduceAdd, Nat.reduceLeDiff, Nat.reduceSub, Nat.reduceEqDiff, Int.reduceLT, Int.reduceLE, Int.reduceToNat, decide_true, decide_false, ite_true, ite_false, if_true, if_false, Bool.and_true, Bool.true_and, Bool.and_self, Bool.not_true, Bool.not_false, reduceCtorEq, Bool.false_eq_true, ↓reduceIte, *])
open PD in
local macro_rules | `(tactic| walk_at "op") => `(tactic| simp only [fn_1, fn_2, fn_3, fn_4, fn_5, fn_6, fnF_1, fnF_2, fnF_3, fnF_4, fnF_5, fnF_6, startD, List.map_cons, List.map_nil, List.length_cons, List.length_nil, Nat.reduceAdd, Nat.reduceSub, List.reduceReplicate, List.cons_append, List.nil_append, List.append_nil, Nat.sub_self])
namespace PM
open PySem L2 PD

/-! measure(one, other): slots 0:one 1:other -/
def measureB : En → Option Out := (sSeq (sAsg [] 0 (eCB cAbs (aCons (eV 0) aNil)))
  (sSeq (sWhile (fuelI 1) (tB2 (e2 dGt (eV 1) (eC (.int 0)))) (sPar [] 0 1 (eV 1) (e2 dMod (eV 0) (eV 1))))
  (sRet (eV 0))))
def measureF : List D → Option D := fnOut 2 2 measureB
/-! lowest(top, bottom): slots 0:top 1:bottom 2:by -/
def lowestB : En → Option Out := (sSeq (sAsg [] 2 (eCB measureF (aCons (eV 0) (aCons (eV 1) aNil))))
  (sRet (eTup (aCons (e2 dDiv (eV 0) (eV 2)) (aCons (e2 dDiv (eV 1) (eV 2)) aNil)))))
def lowestF : List D → Option D := fnOut 2 3 lowestB
/-! plus(a, b): slots 0:a 1:b -/
def plusB : En → Option Out := (sRet (eCB lowestF (aCons (e2 dAdd (e2 dMul (e2 dIx (eV 0) (eC (.int 0))) (e2 dIx (eV 1) (eC (.int 1)))) (e2 dMul (e2 dIx (eV 1) (eC (.int 0))) (e2 dIx (eV 0) (eC (.int 1))))) (aCons (e2 dMul (e2 dIx (eV 0) (eC (.int 1))) (e2 dIx (eV 1) (eC (.int 1)))) aNil))))
def plusF : List D → Option D := fnOut 2 2 plusB
/-! minus(a, b): slots 0:a 1:b -/
def minusB : En → Option Out := (sRet (eCB lowestF (aCons (e2 dSub (e2 dMul (e2 dIx (eV 0) (eC (.int 0))) (e2 dIx (eV 1) (eC (.int 1)))) (e2 dMul (e2 dIx (eV 1) (eC (.int 0))) (e2 dIx (eV 0) (eC (.int 1))))) (aCons (e2 dMul (e2 dIx (eV 0) (eC (.int 1))) (e2 dIx (eV 1) (eC (.int 1)))) aNil))))
def minusF : List D → Option D := fnOut 2 2 minusB
/-! times(a, b): slots 0:a 1:b -/
def timesB : En → Option Out := (sRet (eCB lowestF (aCons (e2 dMul (e2 dIx (eV 0) (eC (.int 0))) (e2 dIx (eV 1) (eC (.int 0)))) (aCons (e2 dMul (e2 dIx (eV 0) (eC (.int 1))) (e2 dIx (eV 1) (eC (.int 1)))) aNil))))
def timesF : List D → Option D := fnOut 2 2 timesB
/-! over(a, b): slots 0:a 1:b -/
def overB : En → Option Out := (sRet (eCB lowestF (aCons (e2 dMul (e2 dIx (eV 0) (eC (.int 0))) (e2 dIx (eV 1) (eC (.int 1)))) (aCons (e2 dMul (e2 dIx (eV 0) (eC (.int 1))) (e2 dIx (eV 1) (eC (.int 0)))) aNil))))
def overF : List D → Option D := fnOut 2 2 overB
/-! total(row): slots 0:row 1:found 2:a -/
def totalB : En → Option Out := (sSeq (sAsg [] 1 (eTup (aCons (eC (.int 0)) (aCons (eC (.int 1)) aNil))))
  (sSeq (sFor [] (iL (eV 0)) (.nm 2) (sAsg [] 1 (eCB plusF (aCons (eV 1) (aCons (eV 2) aNil)))))
  (sRet (eV 1))))
def totalF : List D → Option D := fnOut 1 3 totalB
/-! law_flow(law_script, law_many): slots 0:law_script 1:law_many 2:law_great 3:law_row 4:law_k 5:law_cell 6:law_mixed -/
def law_flowB : En → Option Out := (sSeq (sAsg [3] 2 (eC (.int 0)))
  (sSeq (sIf (fAnd (tB2 (e2 dGt (eCB cLen (aCons (eV 0) aNil)) (eC (.int 0)))) (tB2 (e2 dGe (eCB cAbs (aCons (e2 dIx (eV 0) (eC (.int 0))) aNil)) (e2 dPow (eC (.int 10)) (eC (.int 18)))))) (sAsg [3] 2 (e2 dSub (eCB cAbs (aCons (e2 dIx (eV 0) (eC (.int 0))) aNil)) (e2 dPow (eC (.int 10)) (eC (.int 18))))) sNil)
  (sSeq (sAsgO [3] 3 (eLst aNil))
  (sSeq (sFor [3] (iR1 (aCons (eV 1) aNil)) (.nm 4) (sIf (tB2 (e2 dGt (eV 2) (eC (.int 0)))) (sSeq (sApp [3] 3 (e2 dMod (eV 2) (eC (.int 1000000))))
  (sAsg [3] 2 (e2 dDiv (eV 2) (eC (.int 1000000))))) (sSeq (sAsg [3] 5 (e2 dAdd (eV 4) (eC (.int 1))))
  (sSeq (sIf (tB2 (e2 dGt (eCB cLen (aCons (eV 0) aNil)) (eC (.int 0)))) (sAsg [3] 5 (e2 dIx (eV 0) (e2 dMod (eV 4) (eCB cLen (aCons (eV 0) aNil))))) sNil)
  (sSeq (sAsg [3] 6 (e2 dMod (e2 dAdd (e2 dAdd (e2 dMul (eV 5) (eC (.int 48271))) (e2 dMul (eV 4) (eC (.int 40692)))) (eC (.int 11))) (eC (.int 2147483647))))
  (sSeq (sAsg [3] 6 (e2 dMod (e2 dAdd (e2 dAdd (e2 dMul (eV 6) (eC (.int 69621))) (e2 dMul (eV 4) (eC (.int 7919)))) (eCB cLen (aCons (eV 0) aNil))) (eC (.int 2147483629))))
  (sApp [3] 3 (e2 dMod (e2 dDiv (eV 6) (eC (.int 19))) (eC (.int 1000000))))))))))
  (sRetO 3)))))
def law_flowF : List D → Option (List D) := fnOutF 2 7 law_flowB
/-! law_whole(law_found): slots 0:law_found -/
def law_wholeB : En → Option Out := (sRet (eAnd (eCB cIsi (aCons (eV 0) (aCons (eC (.ty .int)) aNil))) (e1 eNot (eCB cIsi (aCons (eV 0) (aCons (eC (.ty .bool)) aNil))))))
def law_wholeF : List D → Option D := fnOut 1 1 law_wholeB
/-! law_low(law_top, law_bottom): slots 0:law_top 1:law_bottom 2:law_one 3:law_other -/
def law_lowB : En → Option Out := (sSeq (sAsg [] 2 (eCB cAbs (aCons (eV 0) aNil)))
  (sSeq (sAsg [] 3 (eV 1))
  (sSeq (sWhile (fuelI 3) (tB2 (e2 dGt (eV 3) (eC (.int 0)))) (sPar [] 2 3 (eV 3) (e2 dMod (eV 2) (eV 3))))
  (sRet (eTup (aCons (e2 dDiv (eV 0) (eV 2)) (aCons (e2 dDiv (eV 1) (eV 2)) aNil)))))))
def law_lowF : List D → Option D := fnOut 2 4 law_lowB
/-! law_add(law_a, law_b): slots 0:law_a 1:law_b -/
def law_addB : En → Option Out := (sRet (eCB law_lowF (aCons (e2 dAdd (e2 dMul (e2 dIx (eV 0) (eC (.int 0))) (e2 dIx (eV 1) (eC (.int 1)))) (e2 dMul (e2 dIx (eV 1) (eC (.int 0))) (e2 dIx (eV 0) (eC (.int 1))))) (aCons (e2 dMul (e2 dIx (eV 0) (eC (.int 1))) (e2 dIx (eV 1) (eC (.int 1)))) aNil))))
def law_addF : List D → Option D := fnOut 2 2 law_addB
/-! law_sub(law_a, law_b): slots 0:law_a 1:law_b -/
def law_subB : En → Option Out := (sRet (eCB law_lowF (aCons (e2 dSub (e2 dMul (e2 dIx (eV 0) (eC (.int 0))) (e2 dIx (eV 1) (eC (.int 1)))) (e2 dMul (e2 dIx (eV 1) (eC (.int 0))) (e2 dIx (eV 0) (eC (.int 1))))) (aCons (e2 dMul (e2 dIx (eV 0) (eC (.int 1))) (e2 dIx (eV 1) (eC (.int 1)))) aNil))))
def law_subF : List D → Option D := fnOut 2 2 law_subB
/-! law_mul(law_a, law_b): slots 0:law_a 1:law_b -/
def law_mulB : En → Option Out := (sRet (eCB law_lowF (aCons (e2 dMul (e2 dIx (eV 0) (eC (.int 0))) (e2 dIx (eV 1) (eC (.int 0)))) (aCons (e2 dMul (e2 dIx (eV 0) (eC (.int 1))) (e2 dIx (eV 1) (eC (.int 1)))) aNil))))
def law_mulF : List D → Option D := fnOut 2 2 law_mulB
/-! law_sum(law_row): slots 0:law_row 1:law_found 2:law_a -/
def law_sumB : En → Option Out := (sSeq (sAsg [] 1 (eTup (aCons (eC (.int 0)) (aCons (eC (.int 1)) aNil))))
  (sSeq (sFor [] (iL (eV 0)) (.nm 2) (sAsg [] 1 (eCB law_addF (aCons (eV 1) (aCons (eV 2) aNil)))))
  (sRet (eV 1))))
def law_sumF : List D → Option D := fnOut 1 3 law_sumB
/-! law_part(law_found): slots 0:law_found -/
def law_partB : En → Option Out := (sSeq (sIf (fOr (fNot (tB2 (eCB cIsi (aCons (eV 0) (aCons (eC (.ty .tuple)) aNil))))) (tB2 (e2 dNe (eCB cLen (aCons (eV 0) aNil)) (eC (.int 2))))) (sRet (eC (.bl false))) sNil)
  (sRet (eAnd (eCB law_wholeF (aCons (e2 dIx (eV 0) (eC (.int 0))) aNil)) (eCB law_wholeF (aCons (e2 dIx (eV 0) (eC (.int 1))) aNil)))))
def law_partF : List D → Option D := fnOut 1 1 law_partB
/-! law_is(law_found, law_due): slots 0:law_found 1:law_due -/
def law_isB : En → Option Out := (sRet (eAnd (eCB law_partF (aCons (eV 0) aNil)) (e2 dEq (eV 0) (eV 1))))
def law_isF : List D → Option D := fnOut 2 2 law_isB
/-! law_any(law_one, law_two): slots 0:law_one 1:law_two 2:law_top 3:law_bottom -/
def law_anyB : En → Option Out := (sSeq (sIf (tB2 (e2 dEq (e2 dMod (eV 0) (eC (.int 9))) (eC (.int 0)))) (sRet (eTup (aCons (eC (.int 0)) (aCons (eC (.int 1)) aNil)))) sNil)
  (sSeq (sAsg [] 2 (e2 dSub (e2 dMod (eV 0) (eC (.int 41))) (eC (.int 20))))
  (sSeq (sAsg [] 3 (e2 dAdd (eC (.int 1)) (e2 dMod (eV 1) (eC (.int 24)))))
  (sSeq (sIf (tB2 (e2 dEq (e2 dMod (e2 dDiv (eV 0) (eC (.int 41))) (eC (.int 6))) (eC (.int 1)))) (sSeq (sAsg [] 2 (e2 dSub (eV 0) (eC (.int 500000))))
  (sAsg [] 3 (e2 dAdd (eC (.int 1)) (eV 1)))) sNil)
  (sSeq (sIf (tB2 (e2 dEq (e2 dMod (e2 dDiv (eV 0) (eC (.int 41))) (eC (.int 6))) (eC (.int 2)))) (sSeq (sAsg [] 2 (e2 dAdd (e2 dMul (eV 0) (e2 dPow (eC (.int 10)) (eC (.int 40)))) (eV 1)))
  (sSeq (sAsg [] 3 (e2 dAdd (e2 dMul (eV 1) (e2 dPow (eC (.int 10)) (eC (.int 30)))) (eC (.int 1))))
  (sIf (tB2 (e2 dEq (e2 dMod (eV 0) (eC (.int 2))) (eC (.int 0)))) (sAsg [] 2 (e1 dNeg (eV 2))) sNil))) sNil)
  (sRet (eCB law_lowF (aCons (eV 2) (aCons (eV 3) aNil)))))))))
def law_anyF : List D → Option D := fnOut 2 4 law_anyB
/-! below(a, b): slots 0:a 1:b -/
def belowB : En → Option Out := (sRet (e2 dLt (e2 dMul (e2 dIx (eV 0) (eC (.int 0))) (e2 dIx (eV 1) (eC (.int 1)))) (e2 dMul (e2 dIx (eV 1) (eC (.int 0))) (e2 dIx (eV 0) (eC (.int 1))))))
def belowF : List D → Option D := fnOut 2 2 belowB
/-! floor_of(a): slots 0:a -/
def floor_ofB : En → Option Out := (sRet (e2 dDiv (e2 dIx (eV 0) (eC (.int 0))) (e2 dIx (eV 0) (eC (.int 1)))))
def floor_ofF : List D → Option D := fnOut 1 1 floor_ofB
/-! ceil_of(a): slots 0:a -/
def ceil_ofB : En → Option Out := (sRet (e1 dNeg (e2 dDiv (e1 dNeg (e2 dIx (eV 0) (eC (.int 0)))) (e2 dIx (eV 0) (eC (.int 1))))))
def ceil_ofF : List D → Option D := fnOut 1 1 ceil_ofB
/-! law_less(law_a, law_b): slots 0:law_a 1:law_b -/
def law_lessB : En → Option Out := (sRet (e2 dLt (e2 dMul (e2 dIx (eV 0) (eC (.int 0))) (e2 dIx (eV 1) (eC (.int 1)))) (e2 dMul (e2 dIx (eV 1) (eC (.int 0))) (e2 dIx (eV 0) (eC (.int 1))))))
def law_lessF : List D → Option D := fnOut 2 2 law_lessB
end PM
namespace PM
open PySem L2 PD
/-! ### parts as pairs of ints -/
def P (a : Int × Int) : D := .tup [.int a.1, .int a.2]
def low (t b : Int) : Int × Int := (t / (Int.gcd t b : Int), b / (Int.gcd t b : Int))
def plus (a b : Int × Int) : Int × Int := low (a.1 * b.2 + b.1 * a.2) (a.2 * b.2)
def minus (a b : Int × Int) : Int × Int := low (a.1 * b.2 - b.1 * a.2) (a.2 * b.2)
def times (a b : Int × Int) : Int × Int := low (a.1 * b.1) (a.2 * b.2)
def over (a b : Int × Int) : Int × Int := low (a.1 * b.2) (a.2 * b.1)
def less (a b : Int × Int) : Bool := decide (a.1 * b.2 < b.1 * a.2)
/-- a part of size n: bottom above nought, both below 2 ^ n -/
structure Pt (n : Nat) (a : Int × Int) : Prop where
  pos : 0 < a.2
  top : a.1.natAbs < 2 ^ n
  bot : a.2.natAbs < 2 ^ n
  one : Int.gcd a.1 a.2 = 1
theorem Pt.mono {n m : Nat} {a : Int × Int} (h : Pt n a) (l : n ≤ m) : Pt m a :=
  ⟨h.pos, Nat.lt_of_lt_of_le h.top (Nat.pow_le_pow_right (by decide) l), Nat.lt_of_lt_of_le h.bot (Nat.pow_le_pow_right (by decide) l), h.one⟩
set_option exponentiation.threshold 100000
theorem okDiv_of {x : Int} {n : Nat} (h : 0 < x) (hx : x.natAbs < 2 ^ n) (hn : n ≤ 9000) : okDiv x = true := by
  have h2 : x.natAbs < 2 ^ 9000 := Nat.lt_of_lt_of_le hx (Nat.pow_le_pow_right (by decide) hn)
  have q : CDivW 0 x := wide_div h h2 (by decide) (Nat.le_refl _)
  unfold okDiv
  rw [Bool.and_eq_true]
  exact ⟨decide_eq_true q.1, decide_eq_true q.2⟩
theorem okMul_of {x y : Int} {a b : Nat} (hx : x.natAbs < 2 ^ a) (hy : y.natAbs < 2 ^ b) (h : a + b ≤ 900000) : okMul x y = true := by
  have h1 : x.natAbs < 2 ^ (a + 1) := Nat.lt_of_lt_of_le hx (Nat.pow_le_pow_right (by decide) (Nat.le_succ _))
  have h2 : y.natAbs < 2 ^ (b + 1) := Nat.lt_of_lt_of_le hy (Nat.pow_le_pow_right (by decide) (Nat.le_succ _))
  unfold okMul
  rw [Bool.or_eq_true]
  exact .inl (decide_eq_true (wide_mul h1 h2 (Nat.succ_pos _) (Nat.succ_pos _) (by omega)))
theorem okMul_r {x y : Int} (hy : y.natAbs < 2 ^ 63) : okMul x y = true := by
  unfold okMul
  rw [Bool.or_eq_true, Bool.or_eq_true]
  exact .inr (.inr (decide_eq_true hy))
theorem okMul_l {x y : Int} (hy : x.natAbs < 2 ^ 63) : okMul x y = true := by
  unfold okMul
  rw [Bool.or_eq_true, Bool.or_eq_true]
  exact .inr (.inl (decide_eq_true hy))
theorem gcd_pos {t b : Int} (h : 0 < b) : (0 : Int) < (Int.gcd t b : Int) := by
  have : 0 < Int.gcd t b := Nat.pos_of_ne_zero fun e => by
    have := (Int.gcd_eq_zero_iff.mp e).2
    omega
  omega
theorem gcd_le {t b : Int} (h : 0 < b) : (Int.gcd t b : Int) ≤ b := Int.le_of_dvd h (Int.gcd_dvd_right ..)
theorem natAbs_ediv_le (x : Int) {y : Int} (h : 0 < y) (d : y ∣ x) : (x / y).natAbs ≤ x.natAbs := by
  obtain ⟨k, rfl⟩ := d
  rw [Int.mul_ediv_cancel_left _ (by omega), Int.natAbs_mul]
  have : 1 ≤ y.natAbs := by omega
  exact Nat.le_mul_of_pos_left _ this
theorem low_pt {t b : Int} {n : Nat} (h : 0 < b) (ht : t.natAbs < 2 ^ n) (hb : b.natAbs < 2 ^ n) : Pt n (low t b) := by
  have g := gcd_pos (t := t) h
  have d1 : (Int.gcd t b : Int) ∣ t := Int.gcd_dvd_left ..
  have d2 : (Int.gcd t b : Int) ∣ b := Int.gcd_dvd_right ..
  refine ⟨?_, ?_, ?_, ?_⟩
  · show 0 < b / _
    exact Int.ediv_pos_of_pos_of_dvd h (by omega) d2
  · exact Nat.lt_of_le_of_lt (natAbs_ediv_le t g d1) ht
  · exact Nat.lt_of_le_of_lt (natAbs_ediv_le b g d2) hb
  · show Int.gcd (t / _) (b / _) = 1
    exact Int.gcd_ediv_gcd_ediv_gcd (by omega)
/-- crosswise worth the same -/
theorem low_cross {t b : Int} (h : 0 < b) : (low t b).1 * b = t * (low t b).2 := by
  have g := gcd_pos (t := t) h
  obtain ⟨k, hk⟩ : (Int.gcd t b : Int) ∣ t := Int.gcd_dvd_left ..
  obtain ⟨m, hm⟩ : (Int.gcd t b : Int) ∣ b := Int.gcd_dvd_right ..
  have e1 : t / (Int.gcd t b : Int) = k := by
    conv => lhs; lhs; rw [hk]
    exact Int.mul_ediv_cancel_left _ (by omega)
  have e2 : b / (Int.gcd t b : Int) = m := by
    conv => lhs; lhs; rw [hm]
    exact Int.mul_ediv_cancel_left _ (by omega)
  show t / _ * b = t * (b / _)
  rw [e1, e2]
  conv => lhs; rhs; rw [hm]
  conv => rhs; lhs; rw [hk]
  rw [← Int.mul_assoc, Int.mul_comm k]
theorem low_self {a : Int × Int} (h : Int.gcd a.1 a.2 = 1) : low a.1 a.2 = a := by
  unfold low
  rw [h]
  simp

/-! ### equality -/
theorem dEq_int {i j : Int} : dEq (.int i) (.int j) = some (.bl (decide (i = j))) := by
  have : dEq (.int i) (.int j) = some (.bl (i == j)) := rfl
  rw [this, Bool.beq_eq_decide_eq]
theorem dNe_int {i j : Int} : dNe (.int i) (.int j) = some (.bl (!decide (i = j))) := by
  have : dNe (.int i) (.int j) = some (.bl (!(i == j))) := rfl
  rw [this, Bool.beq_eq_decide_eq]
theorem eqv_P (a b : Int × Int) : PyData.eqv (toP (P a)) (toP (P b)) = decide (a = b) := by
  have : PyData.eqv (toP (P a)) (toP (P b)) = ((a.1 == b.1) && ((a.2 == b.2) && true)) := rfl
  rw [this, Bool.and_true, Bool.beq_eq_decide_eq, Bool.beq_eq_decide_eq, ← Bool.decide_and]
  congr 1
  exact propext ⟨fun ⟨h1, h2⟩ => Prod.ext h1 h2, fun h => by rw [h]; exact ⟨rfl, rfl⟩⟩
theorem shp_P (a : Int × Int) : shp (P a) = true := rfl
theorem dEq_P {a b : Int × Int} : dEq (P a) (P b) = some (.bl (decide (a = b))) := by
  unfold dEq
  rw [shp_P, shp_P, eqv_P]; rfl
theorem dNe_P {a b : Int × Int} : dNe (P a) (P b) = some (.bl (!decide (a = b))) := by
  unfold dNe
  rw [shp_P, shp_P, eqv_P]; rfl

/-! ### the loop of measure -/
theorem abs_nat (t : Int) : (if t < 0 then -t else t) = (t.natAbs : Int) := by split <;> omega
theorem meas_loop : ∀ (n a b : Nat), b < n → whileD (tB2 (e2 dGt (eV 1) (eC (.int 0)))) (sPar [] 0 1 (eV 1) (e2 dMod (eV 0) (eV 1))) n [some (.int (a : Int)), some (.int (b : Int))] = some (.nx [some (.int (Nat.gcd b a : Nat)), some (.int 0)])
  | 0, _, _, h => by omega
  | n + 1, a, b, h => by
    rw [x_while]
    by_cases hb : b = 0
    · subst hb
      walk_at "ev"
      simp [q_wIf2]
    · have c : (0 : Int) < (b : Int) := by omega
      have ih := meas_loop n b (a % b) (by have := Nat.mod_lt a (Nat.pos_of_ne_zero hb); omega)
      walk_at "evs"
      rw [← Int.natCast_emod, ih, Nat.gcd_rec b a]
theorem low_loop (t u : Option D) : ∀ (n a b : Nat), b < n → whileD (tB2 (e2 dGt (eV 3) (eC (.int 0)))) (sPar [] 2 3 (eV 3) (e2 dMod (eV 2) (eV 3))) n [t, u, some (.int (a : Int)), some (.int (b : Int))] = some (.nx [t, u, some (.int (Nat.gcd b a : Nat)), some (.int 0)])
  | 0, _, _, h => by omega
  | n + 1, a, b, h => by
    rw [x_while]
    by_cases hb : b = 0
    · subst hb
      walk_at "ev"
      simp [q_wIf2]
    · have c : (0 : Int) < (b : Int) := by omega
      have ih := low_loop t u n b (a % b) (by have := Nat.mod_lt a (Nat.pos_of_ne_zero hb); omega)
      walk_at "evs"
      rw [← Int.natCast_emod, ih, Nat.gcd_rec b a]
theorem fuel1 {ρ : En} {i : Nat} {b : Int} (h : eV i ρ = some (.int b)) : fuelI i ρ = b.toNat + 1 := by unfold fuelI; rw [h]
theorem measure_eq {t b : Int} (h : 0 ≤ b) : measureF [.int t, .int b] = some (.int (Int.gcd t b : Int)) := by
  obtain ⟨m, rfl⟩ := Int.eq_ofNat_of_zero_le h
  have l := meas_loop (m + 1) t.natAbs m (Nat.lt_succ_self _)
  have e : Nat.gcd m t.natAbs = Int.gcd t (m : Int) := by rw [Nat.gcd_comm]; rfl
  unfold measureF fnOut measureB startD
  simp only [List.length_cons, List.length_nil, if_true, List.map, Nat.sub_self, List.replicate, List.append_nil]
  walk_at "ev"
  unfold sWhile
  rw [fuel1 rfl, abs_nat, Int.toNat_natCast, l]
  walk_at "ev"
  rw [e]
theorem lowest_eq {t b : Int} (h : 0 < b) (hb : b.natAbs < 2 ^ 9000) : lowestF [.int t, .int b] = some (P (low t b)) := by
  have g := gcd_pos (t := t) h
  have k : okDiv (Int.gcd t b : Int) = true := okDiv_of g (Nat.lt_of_le_of_lt (by have := gcd_le (t := t) h; omega) hb) (Nat.le_refl _)
  unfold lowestF fnOut lowestB startD
  simp only [List.length_cons, List.length_nil, if_true, List.map, List.replicate, List.cons_append, List.nil_append]
  walk_at "ev"
  rw [measure_eq (by omega)]
  walk_at "ev"
  simp only [k, if_true]
  walk_at "ev"
  rfl
theorem law_low_eq {t b : Int} (h : 0 < b) (hb : b.natAbs < 2 ^ 9000) : law_lowF [.int t, .int b] = some (P (low t b)) := by
  have g := gcd_pos (t := t) h
  have k : okDiv (Int.gcd t b : Int) = true := okDiv_of g (Nat.lt_of_le_of_lt (by have := gcd_le (t := t) h; omega) hb) (Nat.le_refl _)
  obtain ⟨m, rfl⟩ := Int.eq_ofNat_of_zero_le (show 0 ≤ b by omega)
  have l := low_loop (some (.int t)) (some (.int (m : Int))) (m + 1) t.natAbs m (Nat.lt_succ_self _)
  have e : Nat.gcd m t.natAbs = Int.gcd t (m : Int) := by rw [Nat.gcd_comm]; rfl
  unfold law_lowF fnOut law_lowB startD
  simp only [List.length_cons, List.length_nil, if_true, List.map, List.replicate, List.cons_append, List.nil_append]
  walk_at "ev"
  unfold sWhile
  rw [fuel1 rfl, abs_nat, Int.toNat_natCast, l]
  walk_at "ev"
  rw [e]
  simp only [k, if_true]
  walk_at "ev"
  rfl
end PM
namespace PM
open PySem L2 PD
theorem pow_mul {x y : Int} {n m : Nat} (hx : x.natAbs < 2 ^ n) (hy : y.natAbs < 2 ^ m) : (x * y).natAbs < 2 ^ (n + m) := wide_lt hx hy
theorem pow_add {x y : Int} {n : Nat} (hx : x.natAbs < 2 ^ n) (hy : y.natAbs < 2 ^ n) : (x + y).natAbs < 2 ^ (n + 1) := by
  rw [Nat.pow_succ]
  omega
theorem pow_sub {x y : Int} {n : Nat} (hx : x.natAbs < 2 ^ n) (hy : y.natAbs < 2 ^ n) : (x - y).natAbs < 2 ^ (n + 1) := by
  rw [Nat.pow_succ]
  omega
theorem pow_mono {x : Int} {n m : Nat} (hx : x.natAbs < 2 ^ n) (h : n ≤ m) : x.natAbs < 2 ^ m := Nat.lt_of_lt_of_le hx (Nat.pow_le_pow_right (by decide) h)
section
variable {n m : Nat} {a b : Int × Int}
theorem plus_pt (ha : Pt n a) (hb : Pt m b) : Pt (n + m + 1) (plus a b) :=
  low_pt (Int.mul_pos ha.pos hb.pos) (pow_add (pow_mul ha.top hb.bot) (by rw [Nat.add_comm n m]; exact pow_mul hb.top ha.bot)) (pow_mono (pow_mul ha.bot hb.bot) (Nat.le_succ _))
theorem minus_pt (ha : Pt n a) (hb : Pt m b) : Pt (n + m + 1) (minus a b) :=
  low_pt (Int.mul_pos ha.pos hb.pos) (pow_sub (pow_mul ha.top hb.bot) (by rw [Nat.add_comm n m]; exact pow_mul hb.top ha.bot)) (pow_mono (pow_mul ha.bot hb.bot) (Nat.le_succ _))
theorem times_pt (ha : Pt n a) (hb : Pt m b) : Pt (n + m) (times a b) := low_pt (Int.mul_pos ha.pos hb.pos) (pow_mul ha.top hb.top) (pow_mul ha.bot hb.bot)
theorem over_pt (ha : Pt n a) (hb : Pt m b) (h : 0 < b.1) : Pt (n + m) (over a b) := low_pt (Int.mul_pos ha.pos h) (pow_mul ha.top hb.bot) (pow_mul ha.bot hb.top)
theorem okMul_pt {x y : Int} (hx : x.natAbs < 2 ^ n) (hy : y.natAbs < 2 ^ m) (h : n + m ≤ 8999) : okMul x y = true := okMul_of hx hy (by omega)
theorem P_ix0 : dIx (P a) (.int 0) = some (.int a.1) := by unfold P; rw [q_ix2, q_at0]
theorem P_ix1 : dIx (P a) (.int 1) = some (.int a.2) := by unfold P; rw [q_ix2, q_at1]
theorem plus_eq (ha : Pt n a) (hb : Pt m b) (h : n + m ≤ 8999) : plusF [P a, P b] = some (P (plus a b)) := by
  have h1 := okMul_pt ha.top hb.bot h
  have h2 := okMul_pt hb.top ha.bot (by omega)
  have h3 := okMul_pt ha.bot hb.bot h
  have hp := Int.mul_pos ha.pos hb.pos
  have l := lowest_eq (t := a.1 * b.2 + b.1 * a.2) hp (pow_mono (pow_mul ha.bot hb.bot) (by omega))
  unfold plusF fnOut plusB startD
  simp only [List.length_cons, List.length_nil, if_true, List.map, Nat.sub_self, List.replicate, List.append_nil, Nat.reduceAdd, Nat.reduceSub]
  walk_at "ev"
  simp only [P_ix0, P_ix1]
  walk_at "evs"
  rfl
theorem minus_eq (ha : Pt n a) (hb : Pt m b) (h : n + m ≤ 8999) : minusF [P a, P b] = some (P (minus a b)) := by
  have h1 := okMul_pt ha.top hb.bot h
  have h2 := okMul_pt hb.top ha.bot (by omega)
  have h3 := okMul_pt ha.bot hb.bot h
  have hp := Int.mul_pos ha.pos hb.pos
  have l := lowest_eq (t := a.1 * b.2 - b.1 * a.2) hp (pow_mono (pow_mul ha.bot hb.bot) (by omega))
  unfold minusF fnOut minusB startD
  simp only [List.length_cons, List.length_nil, if_true, List.map, Nat.sub_self, List.replicate, List.append_nil, Nat.reduceAdd, Nat.reduceSub]
  walk_at "ev"
  simp only [P_ix0, P_ix1]
  walk_at "evs"
  rfl
theorem times_eq (ha : Pt n a) (hb : Pt m b) (h : n + m ≤ 8999) : timesF [P a, P b] = some (P (times a b)) := by
  have h1 := okMul_pt ha.top hb.top h
  have h3 := okMul_pt ha.bot hb.bot h
  have hp := Int.mul_pos ha.pos hb.pos
  have l := lowest_eq (t := a.1 * b.1) hp (pow_mono (pow_mul ha.bot hb.bot) (by omega))
  unfold timesF fnOut timesB startD
  simp only [List.length_cons, List.length_nil, if_true, List.map, Nat.sub_self, List.replicate, List.append_nil, Nat.reduceAdd, Nat.reduceSub]
  walk_at "ev"
  simp only [P_ix0, P_ix1]
  walk_at "evs"
  rfl
theorem over_eq (ha : Pt n a) (hb : Pt m b) (h0 : 0 < b.1) (h : n + m ≤ 8999) : overF [P a, P b] = some (P (over a b)) := by
  have h1 := okMul_pt ha.top hb.bot h
  have h3 := okMul_pt ha.bot hb.top h
  have hp := Int.mul_pos ha.pos h0
  have l := lowest_eq (t := a.1 * b.2) hp (pow_mono (pow_mul ha.bot hb.top) (by omega))
  unfold overF fnOut overB startD
  simp only [List.length_cons, List.length_nil, if_true, List.map, Nat.sub_self, List.replicate, List.append_nil, Nat.reduceAdd, Nat.reduceSub]
  walk_at "ev"
  simp only [P_ix0, P_ix1]
  walk_at "evs"
  rfl
theorem law_add_eq (ha : Pt n a) (hb : Pt m b) (h : n + m ≤ 8999) : law_addF [P a, P b] = some (P (plus a b)) := by
  have h1 := okMul_pt ha.top hb.bot h
  have h2 := okMul_pt hb.top ha.bot (by omega)
  have h3 := okMul_pt ha.bot hb.bot h
  have hp := Int.mul_pos ha.pos hb.pos
  have l := law_low_eq (t := a.1 * b.2 + b.1 * a.2) hp (pow_mono (pow_mul ha.bot hb.bot) (by omega))
  unfold law_addF fnOut law_addB startD
  simp only [List.length_cons, List.length_nil, if_true, List.map, Nat.sub_self, List.replicate, List.append_nil, Nat.reduceAdd, Nat.reduceSub]
  walk_at "ev"
  simp only [P_ix0, P_ix1]
  walk_at "evs"
  rfl
theorem law_sub_eq (ha : Pt n a) (hb : Pt m b) (h : n + m ≤ 8999) : law_subF [P a, P b] = some (P (minus a b)) := by
  have h1 := okMul_pt ha.top hb.bot h
  have h2 := okMul_pt hb.top ha.bot (by omega)
  have h3 := okMul_pt ha.bot hb.bot h
  have hp := Int.mul_pos ha.pos hb.pos
  have l := law_low_eq (t := a.1 * b.2 - b.1 * a.2) hp (pow_mono (pow_mul ha.bot hb.bot) (by omega))
  unfold law_subF fnOut law_subB startD
  simp only [List.length_cons, List.length_nil, if_true, List.map, Nat.sub_self, List.replicate, List.append_nil, Nat.reduceAdd, Nat.reduceSub]
  walk_at "ev"
  simp only [P_ix0, P_ix1]
  walk_at "evs"
  rfl
theorem law_mul_eq (ha : Pt n a) (hb : Pt m b) (h : n + m ≤ 8999) : law_mulF [P a, P b] = some (P (times a b)) := by
  have h1 := okMul_pt ha.top hb.top h
  have h3 := okMul_pt ha.bot hb.bot h
  have hp := Int.mul_pos ha.pos hb.pos
  have l := law_low_eq (t := a.1 * b.1) hp (pow_mono (pow_mul ha.bot hb.bot) (by omega))
  unfold law_mulF fnOut law_mulB startD
  simp only [List.length_cons, List.length_nil, if_true, List.map, Nat.sub_self, List.replicate, List.append_nil, Nat.reduceAdd, Nat.reduceSub]
  walk_at "ev"
  simp only [P_ix0, P_ix1]
  walk_at "evs"
  rfl
theorem below_eq (ha : Pt n a) (hb : Pt m b) (h : n + m ≤ 8999) : belowF [P a, P b] = some (.bl (less a b)) := by
  have h1 := okMul_pt ha.top hb.bot h
  have h2 := okMul_pt hb.top ha.bot (by omega)
  unfold belowF fnOut belowB startD
  simp only [List.length_cons, List.length_nil, if_true, List.map, Nat.sub_self, List.replicate, List.append_nil, Nat.reduceAdd, Nat.reduceSub]
  walk_at "ev"
  simp only [P_ix0, P_ix1]
  walk_at "evs"
  rfl
theorem law_less_eq (ha : Pt n a) (hb : Pt m b) (h : n + m ≤ 8999) : law_lessF [P a, P b] = some (.bl (less a b)) := by
  have h1 := okMul_pt ha.top hb.bot h
  have h2 := okMul_pt hb.top ha.bot (by omega)
  unfold law_lessF fnOut law_lessB startD
  simp only [List.length_cons, List.length_nil, if_true, List.map, Nat.sub_self, List.replicate, List.append_nil, Nat.reduceAdd, Nat.reduceSub]
  walk_at "ev"
  simp only [P_ix0, P_ix1]
  walk_at "evs"
  rfl
theorem floor_of_eq (ha : Pt n a) (h : n ≤ 9000) : floor_ofF [P a] = some (.int (a.1 / a.2)) := by
  have h1 := okDiv_of ha.pos ha.bot h
  unfold floor_ofF fnOut floor_ofB startD
  simp only [List.length_cons, List.length_nil, if_true, List.map, Nat.sub_self, List.replicate, List.append_nil, Nat.reduceAdd, Nat.reduceSub]
  walk_at "ev"
  simp only [P_ix0, P_ix1]
  walk_at "evs"
theorem ceil_of_eq (ha : Pt n a) (h : n ≤ 9000) : ceil_ofF [P a] = some (.int (-(-a.1 / a.2))) := by
  have h1 := okDiv_of ha.pos ha.bot h
  unfold ceil_ofF fnOut ceil_ofB startD
  simp only [List.length_cons, List.length_nil, if_true, List.map, Nat.sub_self, List.replicate, List.append_nil, Nat.reduceAdd, Nat.reduceSub]
  walk_at "ev"
  simp only [P_ix0, P_ix1]
  walk_at "evs"
theorem law_whole_eq (i : Int) : law_wholeF [.int i] = some (.bl true) := by
  unfold law_wholeF fnOut law_wholeB startD
  simp only [List.length_cons, List.length_nil, if_true, List.map, Nat.sub_self, List.replicate, List.append_nil, Nat.reduceAdd, Nat.reduceSub]
  walk_at "ev"
theorem law_part_eq (a : Int × Int) : law_partF [P a] = some (.bl true) := by
  have hw := law_whole_eq
  unfold law_partF fnOut law_partB startD
  simp only [List.length_cons, List.length_nil, if_true, List.map, Nat.sub_self, List.replicate, List.append_nil, Nat.reduceAdd, Nat.reduceSub]
  simp only [P]
  have h1 := @dNe_int
  walk_at "evs"
theorem law_is_eq (a b : Int × Int) : law_isF [P a, P b] = some (.bl (decide (a = b))) := by
  unfold law_isF fnOut law_isB startD
  simp only [List.length_cons, List.length_nil, if_true, List.map, Nat.sub_self, List.replicate, List.append_nil, Nat.reduceAdd, Nat.reduceSub]
  walk_at "ev"
  simp only [law_part_eq]
  walk_at "ev"
  simp only [dEq_P]
  walk_at "ev"
end

/-! ### loops over made lists: an invariant -/
theorem loop_inv {t : Tgt} {F : En → Option Out} (I : Nat → En → Prop) : ∀ (ds : List D) (n : Nat) (ρ : En), I n ρ →
    (∀ i d ρ, ds[i]? = some d → I (n + i) ρ → ∃ ρ1 ρ', stD t d ρ = some ρ1 ∧ (F ρ1 = some (.nx ρ') ∨ F ρ1 = some (.ct ρ')) ∧ I (n + i + 1) ρ') → ∃ ρ', loopD t F ds ρ = some (.nx ρ') ∧ I (n + ds.length) ρ'
  | [], n, ρ, h, _ => ⟨ρ, rfl, h⟩
  | d :: ds, n, ρ, h, st => by
    obtain ⟨ρ1, ρ', s1, s2, h'⟩ := st 0 d ρ rfl h
    obtain ⟨ρ2, l, h2⟩ := loop_inv I ds (n + 1) ρ' h' fun i d ρ e hi => by
      have := st (i + 1) d ρ (by simpa using e) (by rw [show n + (i + 1) = n + 1 + i by omega]; exact hi)
      rw [show n + (i + 1) = n + 1 + i by omega] at this
      exact this
    refine ⟨ρ2, ?_, by rw [List.length_cons, show n + (ds.length + 1) = n + 1 + ds.length by omega]; exact h2⟩
    rw [x_loop, s1, q_turn]
    rcases s2 with e | e
    · rw [e, q_next0, l]
    · rw [e, q_next1, l]
/-- the sum of a list of parts, from the left -/
def sumP (l : List (Int × Int)) : Int × Int := l.foldl plus (0, 1)
theorem zero_pt : Pt 1 (0, 1) := ⟨by decide, by decide, by decide, by decide⟩
theorem one_pt : Pt 1 (1, 1) := ⟨by decide, by decide, by decide, by decide⟩
/-- sizes of a sum: n a part -/
theorem fold_pt {n : Nat} : ∀ (l : List (Int × Int)) (a : Int × Int) (m : Nat), Pt m a → (∀ x ∈ l, Pt n x) → Pt (m + l.length * (n + 1)) (l.foldl plus a)
  | [], a, m, h, _ => by simpa using h
  | x :: l, a, m, h, hl => by
    have := fold_pt l (plus a x) (m + n + 1) (plus_pt h (hl x (by simp))) fun y hy => hl y (by simp [hy])
    rw [List.foldl_cons, List.length_cons, Nat.succ_mul, show m + (l.length * (n + 1) + (n + 1)) = m + n + 1 + l.length * (n + 1) by omega]
    exact this
theorem sum_pt {n : Nat} {l : List (Int × Int)} (h : ∀ x ∈ l, Pt n x) : Pt (1 + l.length * (n + 1)) (sumP l) := fold_pt l _ 1 zero_pt h
theorem fold_loop {F : En → Option Out} (n : Nat) (u : Option D) : ∀ (l : List (Int × Int)) (m : Nat) (a : Int × Int) (v : Option D), Pt m a → (∀ x ∈ l, Pt n x) → m + l.length * (n + 1) ≤ 8999 →
    (∀ m a x, Pt m a → Pt n x → m + n ≤ 8999 → F [u, some (P a), some (P x)] = some (.nx [u, some (P (plus a x)), some (P x)])) →
    ∃ v', loopD (.nm 2) F (l.map P) [u, some (P a), v] = some (.nx [u, some (P (l.foldl plus a)), v'])
  | [], m, a, v, _, _, _, _ => ⟨v, rfl⟩
  | x :: l, m, a, v, h, hl, hs, hF => by
    rw [List.length_cons, Nat.succ_mul] at hs
    obtain ⟨v', e⟩ := fold_loop n u l (m + n + 1) (plus a x) (some (P x)) (plus_pt h (hl x (by simp))) (fun y hy => hl y (by simp [hy])) (by omega) hF
    refine ⟨v', ?_⟩
    rw [List.map_cons, x_loop, q_st, q_set_2, q_turn, hF m a x h (hl x (by simp)) (by omega), q_next0, e]
    rfl
theorem total_eq {n : Nat} {l : List (Int × Int)} (h : ∀ x ∈ l, Pt n x) (hs : 1 + l.length * (n + 1) ≤ 8999) : totalF [.lst (l.map P)] = some (P (sumP l)) := by
  unfold totalF fnOut totalB startD
  simp only [List.length_cons, List.length_nil, if_true, List.map_cons, List.map_nil, List.replicate, List.cons_append, List.nil_append, Nat.reduceAdd, Nat.reduceSub]
  walk_at "ev"
  obtain ⟨v, e⟩ := fold_loop (F := sAsg [] 1 (eCB plusF (aCons (eV 1) (aCons (eV 2) aNil)))) n (some (.lst (l.map P))) l 1 (0, 1) none zero_pt h hs fun m a x ha hx hm => by
    walk_at "ev"
    rw [plus_eq ha hx hm]
    walk_at "ev"
  rw [show D.tup [D.int 0, D.int 1] = P (0, 1) from rfl, e]
  walk_at "ev"
  rfl
theorem law_sum_eq {n : Nat} {l : List (Int × Int)} (h : ∀ x ∈ l, Pt n x) (hs : 1 + l.length * (n + 1) ≤ 8999) : law_sumF [.lst (l.map P)] = some (P (sumP l)) := by
  unfold law_sumF fnOut law_sumB startD
  simp only [List.length_cons, List.length_nil, if_true, List.map_cons, List.map_nil, List.replicate, List.cons_append, List.nil_append, Nat.reduceAdd, Nat.reduceSub]
  walk_at "ev"
  obtain ⟨v, e⟩ := fold_loop (F := sAsg [] 1 (eCB law_addF (aCons (eV 1) (aCons (eV 2) aNil)))) n (some (.lst (l.map P))) l 1 (0, 1) none zero_pt h hs fun m a x ha hx hm => by
    walk_at "ev"
    rw [law_add_eq ha hx hm]
    walk_at "ev"
  rw [show D.tup [D.int 0, D.int 1] = P (0, 1) from rfl, e]
  walk_at "ev"
  rfl
end PM
open PD PM in
local macro_rules | `(tactic| walk_at "pv") => `(tactic| simp (config := { decide := false, failIfUnchanged := false }) only [x_split, x_iS, q_split, q_iS, q_cat, q_in, q_nin, q_str, q_intS, q_ix3, x_aug, x_tg, x_tgI, x_tru, x_extI, x_popApp, x_setAug, q_aug, q_tgN, q_tgp2, q_tgp3, q_stp1, q_stp2, q_stp3, q_stp4, q_tgI, q_tru, q_truL, q_truI, q_truB, q_truN, q_extI, q_pop1, q_pop2, q_sa3, q_sa4, q_sa5, q_isN1, q_notN1, q_isN2, q_notN2, q_isN3, q_notN3, q_isN4, q_notN4, q_wIf1, q_wIf2, q_wNext1, q_wNext2, q_wNext3, q_wNext4, q_wNext5, x_seq, x_if, x_2, x_1, x_cons, x_tup, x_lst, x_fr, x_cb, x_cf, x_tb, x_and, x_or, x_not, x_andE, x_orE, x_ifE, x_asg, x_asgI, x_asgO, x_asgOI, x_ret, x_retF, x_retO, x_par, x_app, x_appI, x_setI, x_for, x_comp, x_oS, x_sl, x_slS, x_iL, x_iT, x_iR1, x_iR2, x_iZ, x_iE, x_chain, x_getD0,
  q_seq1, q_seq2, q_seq3, q_seq4, q_seq5, q_if1, q_if2, q_bin, q_un, q_cons, q_tup, q_lst, q_fr, q_cb, q_cf, q_bl, q_and1, q_and2, q_or1, q_or2, q_not, q_andE1, q_andE2, q_orE1, q_orE2, q_ifE1, q_ifE2, q_asg, q_asgI, q_asgO, q_asgOI, q_ret, q_retF, q_retO, q_par, q_app, q_appI, q_set1, q_set2, q_for, q_next0, q_next1, q_next2, q_next3, q_next4, q_turn, q_comp, q_o, q_sl, q_slS, q_iL, q_iT, q_iR1, q_iR2, q_iZ, q_iE, q_ch1, q_ch2, q_dAdd, q_dSub, q_dMul, q_dDiv, q_dMod, q_dPow, q_dLt, q_dLe, q_dGt, q_dGe, q_neg, q_eNot, q_abs, q_len1, q_len2, q_len3, q_int1, q_int2, q_list1, q_list2, q_min, q_max, q_isi_non_int, q_isi_non_bool, q_isi_non_str, q_isi_non_tuple, q_isi_non_list, q_isi_non_dict, q_isi_bl_int, q_isi_bl_bool, q_isi_bl_str, q_isi_bl_tuple, q_isi_bl_list, q_isi_bl_dict, q_isi_int_int, q_isi_int_bool, q_isi_int_str, q_isi_int_tuple, q_isi_int_list, q_isi_int_dict, q_isi_str_int, q_isi_str_bool, q_isi_str_str, q_isi_str_tuple, q_isi_str_list, q_isi_str_dict, q_isi_tup_int, q_isi_tup_bool, q_isi_tup_str, q_isi_tup_tuple, q_isi_tup_list, q_isi_tup_dict, q_isi_lst_int, q_isi_lst_bool, q_isi_lst_str, q_isi_lst_tuple, q_isi_lst_list, q_isi_lst_dict, q_isi_dic_int, q_isi_dic_bool, q_isi_dic_str, q_isi_dic_tuple, q_isi_dic_list, q_isi_dic_dict, q_outD1, q_outD2, q_outD3, q_outF, q_st, q_sa1, q_sa2, q_mask1, q_mask2, q_nil, q_brk, q_cont, q_retN, q_eC, q_eV, q_aNil, q_tT, q_oN, q_ix1, q_ix2, q_at0, q_at1, q_at2, q_at3, q_at4, q_at5, q_imm1, q_imm2, q_imm3, q_imm4, q_imm5, q_imms1, q_imms2, q_set0, q_setS, q_set_1, q_get_1, q_set_2, q_get_2, q_set_3, q_get_3, q_set_4, q_get_4, q_set_5, q_get_5, q_set_6, q_get_6, q_set_7, q_get_7, q_set_8, q_get_8, q_set_9, q_get_9, q_set_10, q_get_10, q_set_11, q_get_11, q_set_12, q_get_12, q_set_13, q_get_13, q_set_14, q_get_14, q_set_15, q_get_15,
  okLen, Int.reduceEq, Int.reduceAdd, Int.reduceSub, Int.reduceMul, Int.reduceNeg, Int.cast_ofNat_Int, List.length_cons, List.length_nil, List.length_map, List.map_cons, List.map_nil, Nat.reduceAdd, Nat.reduceLeDiff, Nat.reduceSub, Nat.reduceEqDiff, Int.reduceLT, Int.reduceLE, Int.reduceToNat, decide_true, decide_false, ite_true, ite_false, if_true, if_false, Bool.and_true, Bool.true_and, Bool.and_self, Bool.not_true, Bool.not_false, reduceCtorEq, Bool.false_eq_true, ↓reduceIte, dEq_int, dNe_int, dEq_P, dNe_P, P_ix0, P_ix1, law_whole_eq, law_part_eq, law_is_eq, *])
namespace PM
open PySem L2 PD
/-! ### the flow of drawn numbers, each from 0 to 999999 -/
def Row (l : List Int) : Prop := ∀ x ∈ l, 0 ≤ x ∧ x < 1000000
theorem atI_ok {α : Type} {l : List α} {i : Int} (h0 : 0 ≤ i) (h1 : i < l.length) : ∃ v ∈ l, atI l i = some v := by
  obtain ⟨n, rfl⟩ := Int.eq_ofNat_of_zero_le h0
  have h : n < l.length := by omega
  exact ⟨l[n], List.getElem_mem h, atI_nat (List.getElem?_eq_getElem h)⟩
theorem atI_map {α β : Type} (f : α → β) (l : List α) (i : Int) : atI (l.map f) i = (atI l i).map f := by
  unfold atI
  rw [List.length_map]
  cases ixN l.length i with
  | none => rfl
  | some j => simp
structure FlowI (ns : List Int) (m : Int) (i : Nat) (ρ : En) : Prop where
  ex : ∃ (g : Int) (row : List Int) (k cell mixed : Option D), 0 ≤ g ∧ row.length = i ∧ Row row ∧ ρ = [some (.lst (ns.map .int)), some (.int m), some (.int g), some (.lst (row.map .int)), k, cell, mixed]
theorem Row.snoc {l : List Int} {x : Int} (h : Row l) (h0 : 0 ≤ x) (h1 : x < 1000000) : Row (l ++ [x]) := fun y hy => by
  rcases List.mem_append.mp hy with z | z
  · exact h y z
  · have : y = x := by simpa using z
    rw [this]; exact ⟨h0, h1⟩
def flowBody : En → Option Out := (sIf (tB2 (e2 dGt (eV 2) (eC (.int 0)))) (sSeq (sApp [3] 3 (e2 dMod (eV 2) (eC (.int 1000000))))
  (sAsg [3] 2 (e2 dDiv (eV 2) (eC (.int 1000000))))) (sSeq (sAsg [3] 5 (e2 dAdd (eV 4) (eC (.int 1))))
  (sSeq (sIf (tB2 (e2 dGt (eCB cLen (aCons (eV 0) aNil)) (eC (.int 0)))) (sAsg [3] 5 (e2 dIx (eV 0) (e2 dMod (eV 4) (eCB cLen (aCons (eV 0) aNil))))) sNil)
  (sSeq (sAsg [3] 6 (e2 dMod (e2 dAdd (e2 dAdd (e2 dMul (eV 5) (eC (.int 48271))) (e2 dMul (eV 4) (eC (.int 40692)))) (eC (.int 11))) (eC (.int 2147483647))))
  (sSeq (sAsg [3] 6 (e2 dMod (e2 dAdd (e2 dAdd (e2 dMul (eV 6) (eC (.int 69621))) (e2 dMul (eV 4) (eC (.int 7919)))) (eCB cLen (aCons (eV 0) aNil))) (eC (.int 2147483629))))
  (sApp [3] 3 (e2 dMod (e2 dDiv (eV 6) (eC (.int 19))) (eC (.int 1000000)))))))))
theorem flow_turn {ns : List Int} {m : Int} {i : Nat} {ρ : En} (hi : i < 100000) (h : FlowI ns m i ρ) : ∃ ρ1 ρ', stD (.nm 4) (.int (0 + (i : Int))) ρ = some ρ1 ∧ flowBody ρ1 = some (.nx ρ') ∧ FlowI ns m (i + 1) ρ' := by
  obtain ⟨g, row, k, cell, mixed, hg, hl, hr, rfl⟩ := h
  have him : i ≤ 1000000 := by omega
  have okd : okDiv 1000000 = true := by decide +kernel
  have okd19 : okDiv 19 = true := by decide +kernel
  have p1 : (0 : Int) < 2147483647 := by decide
  have p2 : (0 : Int) < 2147483629 := by decide
  have p3 : (0 : Int) < 1000000 := by decide
  have hk := Int.zero_add (i : Int)
  rw [hk]
  by_cases hp : 0 < g
  · refine ⟨_, [some (.lst (ns.map .int)), some (.int m), some (.int (g / 1000000)), some (.lst ((row ++ [g % 1000000]).map .int)), some (.int (i : Int)), cell, mixed], rfl, ?_, ⟨_, _, _, _, _, Int.ediv_nonneg hg (by decide), by simp [hl], hr.snoc (Int.emod_nonneg _ (by decide)) (Int.emod_lt_of_pos _ (by decide)), rfl⟩⟩
    unfold flowBody
    walk_at "evs"
    simp
  · have fin : ∀ c : Int, ∃ mx : Int, okMul c 48271 = true ∧ okMul (i : Int) 40692 = true ∧ ((c * 48271 + (i : Int) * 40692 + 11) % 2147483647 = mx) ∧ okMul mx 69621 = true ∧ okMul (i : Int) 7919 = true := fun c =>
      ⟨_, okMul_r (by decide), okMul_r (by decide), rfl, okMul_r (by decide), okMul_r (by decide)⟩
    cases ns with
    | nil =>
      obtain ⟨mx, o1, o2, e, o3, o4⟩ := fin ((i : Int) + 1)
      refine ⟨_, [some (.lst []), some (.int m), some (.int g), some (.lst ((row ++ [(mx * 69621 + (i : Int) * 7919 + 0) % 2147483629 / 19 % 1000000]).map .int)), some (.int (i : Int)), some (.int ((i : Int) + 1)), some (.int ((mx * 69621 + (i : Int) * 7919 + 0) % 2147483629))], rfl, ?_, ⟨_, _, _, _, _, hg, by simp [hl], hr.snoc (Int.emod_nonneg _ (by decide)) (Int.emod_lt_of_pos _ (by decide)), rfl⟩⟩
      unfold flowBody
      walk_at "evs"
      simp
    | cons x r =>
      have hn : (0 : Int) < ((r.length + 1 : Nat) : Int) := by omega
      obtain ⟨v, _, hv⟩ := atI_ok (l := x :: r) (i := (i : Int) % ((r.length + 1 : Nat) : Int)) (Int.emod_nonneg _ (by omega)) (Int.emod_lt_of_pos _ hn)
      have hv' : atI ((x :: r).map D.int) ((i : Int) % ((r.length + 1 : Nat) : Int)) = some (.int v) := by rw [atI_map, hv]; rfl
      rw [List.map_cons] at hv'
      obtain ⟨mx, o1, o2, e, o3, o4⟩ := fin v
      refine ⟨_, [some (.lst ((x :: r).map .int)), some (.int m), some (.int g), some (.lst ((row ++ [(mx * 69621 + (i : Int) * 7919 + ((r.length + 1 : Nat) : Int)) % 2147483629 / 19 % 1000000]).map .int)), some (.int (i : Int)), some (.int v), some (.int ((mx * 69621 + (i : Int) * 7919 + ((r.length + 1 : Nat) : Int)) % 2147483629))], rfl, ?_, ⟨_, _, _, _, _, hg, by simp [hl], hr.snoc (Int.emod_nonneg _ (by decide)) (Int.emod_lt_of_pos _ (by decide)), rfl⟩⟩
      unfold flowBody
      walk_at "evs"
      simp

theorem law_flow_eq (ns : List Int) (m : Nat) (hm : m ≤ 100000) : ∃ row : List Int, row.length = m ∧ Row row ∧ law_flowF [.lst (ns.map .int), .int (m : Int)] = some (row.map .int) := by
  have hsm : small62 (m : Int) = true := by
    unfold small62
    rw [Bool.and_eq_true]
    exact ⟨decide_eq_true (by omega), decide_eq_true (by omega)⟩
  have e10 : dPow (.int 10) (.int 18) = some (.int 1000000000000000000) := by rw [q_dPow, if_pos (by decide)]; rfl
  have head : ∃ g : Int, 0 ≤ g ∧ sIf (fAnd (tB2 (e2 dGt (eCB cLen (aCons (eV 0) aNil)) (eC (.int 0)))) (tB2 (e2 dGe (eCB cAbs (aCons (e2 dIx (eV 0) (eC (.int 0))) aNil)) (e2 dPow (eC (.int 10)) (eC (.int 18)))))) (sAsg [3] 2 (e2 dSub (eCB cAbs (aCons (e2 dIx (eV 0) (eC (.int 0))) aNil)) (e2 dPow (eC (.int 10)) (eC (.int 18))))) sNil
      [some (.lst (ns.map .int)), some (.int (m : Int)), some (.int 0), none, none, none, none] = some (.nx [some (.lst (ns.map .int)), some (.int (m : Int)), some (.int g), none, none, none, none]) := by
    cases ns with
    | nil => exact ⟨0, Int.le_refl _, by walk_at "ev"⟩
    | cons x r =>
      have hn : (0 : Int) < ((r.length + 1 : Nat) : Int) := by omega
      have e10x := e10
      by_cases hx : (1000000000000000000 : Int) ≤ (if x < 0 then -x else x)
      · refine ⟨(if x < 0 then -x else x) - 1000000000000000000, by omega, ?_⟩
        generalize hy : (if x < 0 then -x else x) = y at hx
        have ha : cAbs [.int x] = some (.int y) := by rw [q_abs, hy]
        clear hy
        simp only [x_if, x_and, x_tb, x_2, x_cb, x_cons, q_eV, x_getD0, q_aNil, q_cons, q_cb, q_len1, q_eC, q_bin, List.length_map, List.map_cons, List.length_cons, q_dGt, decide_eq_true hn, q_bl, q_and1, q_ix1, q_at0, ha, e10, q_dGe, decide_eq_true hx, q_if1, x_asg, q_mask1, q_mask2, q_set_3, q_dSub, q_asg, q_set_2]
      · refine ⟨0, Int.le_refl _, ?_⟩
        generalize hy : (if x < 0 then -x else x) = y at hx
        have ha : cAbs [.int x] = some (.int y) := by rw [q_abs, hy]
        clear hy
        simp only [x_if, x_and, x_tb, x_2, x_cb, x_cons, q_eV, x_getD0, q_aNil, q_cons, q_cb, q_len1, q_eC, q_bin, List.length_map, List.map_cons, List.length_cons, q_dGt, decide_eq_true hn, q_bl, q_and1, q_ix1, q_at0, ha, e10, q_dGe, decide_eq_false hx, q_if2, q_nil]
  obtain ⟨g, hg, hd⟩ := head
  obtain ⟨ρ', hl, row, hI⟩ : ∃ ρ', loopD (.nm 4) flowBody (rngD 0 m) [some (.lst (ns.map .int)), some (.int (m : Int)), some (.int g), some (.lst []), none, none, none] = some (.nx ρ') ∧ ∃ row : List Int, row.length = m ∧ Row row ∧ ρ'.getD 3 none = some (.lst (row.map .int)) := by
    obtain ⟨ρ', h1, h2⟩ := loop_inv (t := .nm 4) (F := flowBody) (FlowI ns (m : Int)) (rngD 0 m) 0 [some (.lst (ns.map .int)), some (.int (m : Int)), some (.int g), some (.lst []), none, none, none] ⟨g, [], none, none, none, hg, rfl, fun _ h => (by cases h), rfl⟩ (fun i d ρ e hI => by
      rw [rngD_get] at e
      split at e
      case isFalse => cases e
      rename_i him
      cases e
      rw [Nat.zero_add] at hI ⊢
      obtain ⟨ρ1, ρ', a, b, c⟩ := flow_turn (by omega) hI
      exact ⟨ρ1, ρ', a, .inl b, c⟩)
    obtain ⟨g', row, k, c, mx, _, l, r, rfl⟩ := h2
    have lr : (rngD 0 m).length = m := by simp [rngD]
    exact ⟨_, h1, row, by rw [l, lr, Nat.zero_add], r, rfl⟩
  refine ⟨row, hI.1, hI.2.1, ?_⟩
  have h3 := hI.2.2
  unfold law_flowF law_flowB
  rw [fnF_2, show startD 7 [D.lst (ns.map D.int), .int (m : Int)] = [some (.lst (ns.map D.int)), some (.int (m : Int)), none, none, none, none, none] from rfl]
  rw [x_seq, x_asg, q_eC, q_asg, q_seq1, q_set_2, x_seq, hd, q_seq1, x_seq, x_asgO, x_lst, q_aNil, q_lst, if_pos (by decide), q_asgO, q_seq1, q_set_3, x_seq]
  have e5 : sFor [3] (iR1 (aCons (eV 1) aNil)) (.nm 4) flowBody [some (.lst (ns.map .int)), some (.int (m : Int)), some (.int g), some (.lst []), none, none, none] = some (.nx ρ') := by
    rw [x_for]
    walk_at "ev"
    rw [hsm, Int.toNat_natCast]
    walk_at "ev"
    exact hl
  rw [show (sIf (tB2 (e2 dGt (eV 2) (eC (D.int 0)))) _ _) = flowBody from rfl, e5, q_seq1, x_retO, q_eV, h3]
  rfl
/-! ### any drawn part -/
theorem Pt.zero {n : Nat} (h : 1 ≤ n) : Pt n (0, 1) := zero_pt.mono h
set_option maxRecDepth 4000 in
theorem law_any_eq {x y : Int} (hx : 0 ≤ x ∧ x < 1000000) (hy : 0 ≤ y ∧ y < 1000000) : ∃ a : Int × Int, Pt 200 a ∧ law_anyF [.int x, .int y] = some (P a) := by
  have e40 : dPow (.int 10) (.int 40) = some (.int (10 ^ 40)) := by rw [q_dPow, if_pos (by decide)]; rfl
  have e30 : dPow (.int 10) (.int 30) = some (.int (10 ^ 30)) := by rw [q_dPow, if_pos (by decide)]; rfl
  have d41 : okDiv 41 = true := by decide +kernel
  have m1 : okMul x (10 ^ 40) = true := okMul_l (by omega)
  have m2 : okMul y (10 ^ 30) = true := okMul_l (by omega)
  have p9 : (0 : Int) < 9 := by decide
  have p41 : (0 : Int) < 41 := by decide
  have p24 : (0 : Int) < 24 := by decide
  have p6 : (0 : Int) < 6 := by decide
  have p2 : (0 : Int) < 2 := by decide
  have big : ∀ t b : Int, 0 < b → t.natAbs < 2 ^ 200 → b.natAbs < 2 ^ 200 → ∃ a, Pt 200 a ∧ law_lowF [.int t, .int b] = some (P a) := fun t b h ht hb =>
    ⟨_, low_pt h ht hb, law_low_eq h (pow_mono hb (by decide))⟩
  have h1 := @dEq_int
  unfold law_anyF law_anyB
  rw [fn_2, show startD 4 [D.int x, D.int y] = [some (.int x), some (.int y), none, none] from rfl]
  by_cases c9 : x % 9 = 0
  · refine ⟨(0, 1), zero_pt.mono (by decide), ?_⟩
    walk_at "evs"
    rfl
  · by_cases c1 : x / 41 % 6 = 1
    · obtain ⟨a, ha, e⟩ := big (x - 500000) (1 + y) (by omega) (by omega) (by omega)
      refine ⟨a, ha, ?_⟩
      have c2 : ¬ (1 : Int) = 2 := by decide
      walk_at "evs"
    · by_cases c2 : x / 41 % 6 = 2
      · by_cases c3 : x % 2 = 0
        · obtain ⟨a, ha, e⟩ := big (-(x * 10 ^ 40 + y)) (y * 10 ^ 30 + 1) (by omega) (by omega) (by omega)
          refine ⟨a, ha, ?_⟩
          have c4 : ¬ (2 : Int) = 1 := by decide
          walk_at "evs"
        · obtain ⟨a, ha, e⟩ := big (x * 10 ^ 40 + y) (y * 10 ^ 30 + 1) (by omega) (by omega) (by omega)
          refine ⟨a, ha, ?_⟩
          have c4 : ¬ (2 : Int) = 1 := by decide
          walk_at "evs"
      · obtain ⟨a, ha, e⟩ := big (x % 41 - 20) (1 + y % 24) (by omega) (by omega) (by omega)
        refine ⟨a, ha, ?_⟩
        walk_at "evs"
end PM
namespace PM
open PySem L2 PD
/-! ### == of lists of parts, of lists of ints, of lists of such lists -/
theorem shp_lst {ds : List D} (h : ∀ d ∈ ds, shp d = true ∧ (toP d).depth ≤ 60) : shp (.lst ds) = true ∧ (toP (.lst ds)).depth ≤ 61 := by
  have key : ∀ ds : List D, (∀ d ∈ ds, shp d = true ∧ (toP d).depth ≤ 60) → noObjs ds = true ∧ PyData.canLayAll0 (toPs ds) = true ∧ PyData.depthAll (toPs ds) ≤ 60 := by
    intro ds
    induction ds with
    | nil => intro _; exact ⟨by simp [noObjs], by simp [toPs, PyData.canLayAll0], by simp [toPs, PyData.depthAll]⟩
    | cons d r ih =>
      intro h
      obtain ⟨a, b, c⟩ := ih fun x hx => h x (by simp [hx])
      obtain ⟨h1, h2⟩ := h d (by simp)
      unfold shp at h1
      rw [Bool.and_eq_true] at h1
      have h3 := SeqAt.canLay_of_shaped h1.2
      refine ⟨by simp [noObjs, h1.1, a], by simp [toPs, PyData.canLayAll0, h3, b], ?_⟩
      simp only [toPs, PyData.depthAll]
      omega
  obtain ⟨a, b, c⟩ := key ds h
  have d : (toP (.lst ds)).depth ≤ 61 := by
    simp only [toP, PyData.depth]
    omega
  refine ⟨?_, d⟩
  unfold shp
  rw [Bool.and_eq_true]
  refine ⟨by simpa [noObj] using a, ?_⟩
  unfold SeqAt.shaped
  rw [Bool.and_eq_true]
  exact ⟨by simpa [toP, PyData.canLay0] using b, decide_eq_true (by omega)⟩
theorem shp_lP (l : List (Int × Int)) : shp (.lst (l.map P)) = true ∧ (toP (.lst (l.map P))).depth ≤ 61 := shp_lst fun d hd => by
  obtain ⟨a, _, rfl⟩ := List.mem_map.mp hd
  exact ⟨shp_P a, by show (max 0 (max 0 0) + 1 : Nat) ≤ 60; decide⟩
theorem eqv_lP : ∀ l m : List (Int × Int), PyData.eqvAll (toPs (l.map P)) (toPs (m.map P)) = decide (l = m)
  | [], [] => rfl
  | [], _ :: _ => rfl
  | _ :: _, [] => rfl
  | a :: l, b :: m => by
    have h1 := eqv_P a b
    have h2 := eqv_lP l m
    simp only [List.map_cons, toPs, PyData.eqvAll, h1, h2, List.cons.injEq, Bool.decide_and]
theorem dEq_lP {l m : List (Int × Int)} : dEq (.lst (l.map P)) (.lst (m.map P)) = some (.bl (decide (l = m))) := by
  unfold dEq
  rw [(shp_lP l).1, (shp_lP m).1]
  simp only [toP, PyData.eqv, eqv_lP, Bool.and_self, if_true]
theorem dNe_lP {l m : List (Int × Int)} : dNe (.lst (l.map P)) (.lst (m.map P)) = some (.bl (!decide (l = m))) := by
  unfold dNe
  rw [(shp_lP l).1, (shp_lP m).1]
  simp only [toP, PyData.eqv, eqv_lP, Bool.and_self, if_true]
/-! ### comprehensions -/
theorem comp_all {α : Type} {t : Tgt} {test : En → Option Bool} {elt : En → Option D} {ρ : En} (f : α → D) (Pr : α → Prop) : ∀ ds : List D, (∀ d ∈ ds, ∃ ρ1 a, stD t d ρ = some ρ1 ∧ test ρ1 = some true ∧ elt ρ1 = some (f a) ∧ Pr a) →
    ∃ l : List α, compD t test elt ρ ds = some (l.map f) ∧ (∀ a ∈ l, Pr a) ∧ l.length = ds.length
  | [], _ => ⟨[], rfl, by simp, rfl⟩
  | d :: ds, h => by
    obtain ⟨ρ1, a, h1, h2, h3, h4⟩ := h d (by simp)
    obtain ⟨l, e, hl, n⟩ := comp_all f Pr ds fun x hx => h x (by simp [hx])
    refine ⟨a :: l, ?_, ?_, by simp [n]⟩
    · unfold compD
      simp only [h1, h2, h3, e, Option.bind_some, if_true, Option.map_some, List.map_cons]
    · intro x hx
      rcases List.mem_cons.mp hx with rfl | hx
      · exact h4
      · exact hl x hx
/-- each element told -/
theorem comp_map {α β : Type} {t : Tgt} {test : En → Option Bool} {elt : En → Option D} {ρ : En} (e : α → D) (f : β → D) (g : α → β) : ∀ as : List α, (∀ a ∈ as, ∃ ρ1, stD t (e a) ρ = some ρ1 ∧ test ρ1 = some true ∧ elt ρ1 = some (f (g a))) →
    compD t test elt ρ (as.map e) = some ((as.map g).map f)
  | [], _ => rfl
  | a :: as, h => by
    obtain ⟨ρ1, h1, h2, h3⟩ := h a (by simp)
    have ih := comp_map e f g as fun x hx => h x (by simp [hx])
    rw [List.map_cons]
    unfold compD
    simp only [h1, h2, h3, ih, Option.bind_some, if_true, Option.map_some, List.map_cons]
theorem small_nat {n : Nat} (h : n ≤ 1000000) : small62 (n : Int) = true := by
  unfold small62
  rw [Bool.and_eq_true]
  exact ⟨decide_eq_true (by omega), decide_eq_true (by omega)⟩
theorem small_int {n : Int} (h0 : -1000000 ≤ n) (h : n ≤ 1000000) : small62 n = true := by
  unfold small62
  rw [Bool.and_eq_true]
  exact ⟨decide_eq_true (by omega), decide_eq_true (by omega)⟩
theorem rng_mem {lo : Int} {n : Nat} {d : D} (h : d ∈ rngD lo n) : ∃ i : Nat, i < n ∧ d = .int (lo + (i : Int)) := by
  unfold rngD at h
  obtain ⟨i, hi, rfl⟩ := List.mem_map.mp h
  exact ⟨i, List.mem_range.mp hi, rfl⟩
theorem rng_len {lo : Int} {n : Nat} : (rngD lo n).length = n := by simp [rngD]
theorem row_at {row : List Int} {k : Nat} (hr : Row row) (h : k < row.length) : ∃ v : Int, (0 ≤ v ∧ v < 1000000) ∧ atI (row.map D.int) (k : Int) = some (.int v) := by
  refine ⟨row[k], hr _ (List.getElem_mem h), ?_⟩
  rw [atI_map, atI_nat (List.getElem?_eq_getElem h)]; rfl
theorem row_ati {row : List Int} {i : Int} (hr : Row row) (h0 : 0 ≤ i) (h : i < row.length) : ∃ v : Int, (0 ≤ v ∧ v < 1000000) ∧ atI (row.map D.int) i = some (.int v) := by
  obtain ⟨k, rfl⟩ := Int.eq_ofNat_of_zero_le h0
  exact row_at hr (by omega)
theorem low_idem {t b : Int} (h : 0 < b) : low (low t b).1 (low t b).2 = low t b := low_self (Int.gcd_ediv_gcd_ediv_gcd (by have := gcd_pos (t := t) h; omega))
end PM
namespace PM
open PySem L2 PD
/-! ### parts as rationals -/
def val (a : Int × Int) : Rat := Rat.divInt a.1 a.2
theorem val_low {t b : Int} (h : 0 < b) : val (low t b) = Rat.divInt t b := by
  have p := (low_pt (n := t.natAbs + b.natAbs) (t := t) h (Nat.lt_of_le_of_lt (Nat.le_add_right _ _) Nat.lt_two_pow_self) (Nat.lt_of_le_of_lt (Nat.le_add_left _ _) Nat.lt_two_pow_self)).pos
  unfold val
  rw [Rat.divInt_eq_divInt_iff (by omega) (by omega)]
  exact low_cross h
theorem val_plus {a b : Int × Int} (ha : 0 < a.2) (hb : 0 < b.2) : val (plus a b) = val a + val b := by
  unfold plus
  rw [val_low (Int.mul_pos ha hb)]
  unfold val
  rw [Rat.divInt_add_divInt _ _ (by omega) (by omega)]
theorem val_minus {a b : Int × Int} (ha : 0 < a.2) (hb : 0 < b.2) : val (minus a b) = val a - val b := by
  unfold minus
  rw [val_low (Int.mul_pos ha hb)]
  unfold val
  rw [Rat.divInt_sub_divInt _ _ (by omega) (by omega)]
theorem val_times {a b : Int × Int} (ha : 0 < a.2) (hb : 0 < b.2) : val (times a b) = val a * val b := by
  unfold times
  rw [val_low (Int.mul_pos ha hb)]
  unfold val
  rw [Rat.divInt_mul_divInt]
theorem val_over {a b : Int × Int} (ha : 0 < a.2) (hb : 0 < b.2) (h : 0 < b.1) : val (over a b) = val a / val b := by
  unfold over
  rw [val_low (Int.mul_pos ha h)]
  unfold val
  rw [Rat.div_def, Rat.inv_divInt, Rat.divInt_mul_divInt]
theorem val_num {a : Int × Int} (h : 0 < a.2) (g : Int.gcd a.1 a.2 = 1) : (val a).num = a.1 := by
  unfold val
  rw [Rat.num_divInt, Int.gcd_comm, g, Int.sign_eq_one_of_pos h]
  simp
theorem val_den {a : Int × Int} (h : 0 < a.2) (g : Int.gcd a.1 a.2 = 1) : ((val a).den : Int) = a.2 := by
  unfold val
  rw [Rat.den_divInt, if_neg (by omega), Int.gcd_comm, g]
  simp
  omega
theorem val_inj {n m : Nat} {a b : Int × Int} (ha : Pt n a) (hb : Pt m b) (h : val a = val b) : a = b := by
  have h1 := val_num ha.pos ha.one
  have h2 := val_num hb.pos hb.one
  have h3 := val_den ha.pos ha.one
  have h4 := val_den hb.pos hb.one
  rw [h] at h1 h3
  exact Prod.ext (h1.symm.trans h2) (h3.symm.trans h4)
theorem val_lt {a b : Int × Int} (ha : 0 < a.2) (hb : 0 < b.2) : a.1 * b.2 < b.1 * a.2 ↔ val a < val b := by
  unfold val
  rw [Rat.divInt_eq_div, Rat.divInt_eq_div]
  have pa : (0 : Rat) < (a.2 : Rat) := Rat.intCast_pos.mpr ha
  have pb : (0 : Rat) < (b.2 : Rat) := Rat.intCast_pos.mpr hb
  rw [Rat.div_lt_iff pa, Rat.div_def, Rat.mul_assoc, Rat.mul_comm (b.2 : Rat)⁻¹, ← Rat.mul_assoc, ← Rat.div_def, Rat.lt_div_iff pb]
  rw [← Rat.intCast_mul, ← Rat.intCast_mul, Rat.intCast_lt_intCast]
theorem less_val {a b : Int × Int} (ha : 0 < a.2) (hb : 0 < b.2) : less a b = decide (val a < val b) := by
  unfold less
  exact decide_eq_decide.mpr (val_lt ha hb)
theorem val_int (z : Int) : val (z, 1) = (z : Rat) := by
  have h1 := val_num (a := (z, 1)) (show (0 : Int) < 1 by decide) (by simp)
  have h2 := val_den (a := (z, 1)) (show (0 : Int) < 1 by decide) (by simp)
  refine Rat.ext (by rw [h1]; rfl) ?_
  have : ((val (z, 1)).den : Int) = ((1 : Nat) : Int) := h2
  rw [Rat.den_intCast]
  exact Int.ofNat.inj this
theorem val_zero : val (0, 1) = 0 := val_int 0
theorem val_one : val (1, 1) = 1 := val_int 1
end PM
namespace PM
open PySem L2 PD

/-! most(many, k): slots 0:many 1:k 2:found 3:j -/
def mostB : En → Option Out := (sSeq (sAsg [] 2 (eTup (aCons (eC (.int 0)) (aCons (eC (.int 1)) aNil))))
  (sSeq (sFor [] (iR2 (aCons (e2 dAdd (eV 1) (eC (.int 1))) (aCons (e2 dAdd (eV 0) (eC (.int 1))) aNil))) (.nm 3) (sAsg [] 2 (eCB plusF (aCons (eV 2) (aCons (eTup (aCons (eC (.int 1)) (aCons (eV 3) aNil))) aNil)))))
  (sRet (eCB lowestF (aCons (e2 dMul (e2 dIx (eV 2) (eC (.int 0))) (eV 1)) (aCons (e2 dIx (eV 2) (eC (.int 1))) aNil))))))
def mostF : List D → Option D := fnOut 2 4 mostB
/-! behind(many): slots 0:many -/
def behindB : En → Option Out := (sRet (eCB mostF (aCons (eV 0) (aCons (eC (.int 1)) aNil))))
def behindF : List D → Option D := fnOut 1 1 behindB
/-! before(many): slots 0:many -/
def beforeB : En → Option Out := (sRet (eCB minusF (aCons (eC (.tup [(.int 1), (.int 1)])) (aCons (eTup (aCons (eC (.int 1)) (aCons (eV 0) aNil))) aNil))))
def beforeF : List D → Option D := fnOut 1 1 beforeB
/-! wait(many, share): slots 0:many 1:share -/
def waitB : En → Option Out := (sRet (eCB floor_ofF (aCons (eCB overF (aCons (eCB plusF (aCons (eCB behindF (aCons (eV 0) aNil)) (aCons (eCB beforeF (aCons (eV 0) aNil)) aNil))) (aCons (eV 1) aNil))) aNil)))
def waitF : List D → Option D := fnOut 2 2 waitB
/-! foe_hours(many): slots 0:many -/
def foe_hoursB : En → Option Out := (sRet (eCB ceil_ofF (aCons (eCB timesF (aCons (eTup (aCons (eV 0) (aCons (eC (.int 1)) aNil))) (aCons (eCB behindF (aCons (eV 0) aNil)) aNil))) aNil)))
def foe_hoursF : List D → Option D := fnOut 1 1 foe_hoursB
/-! law_most(law_n, law_k): slots 0:law_n 1:law_k 2:law_found 3:law_j -/
def law_mostB : En → Option Out := (sSeq (sAsg [] 2 (eTup (aCons (eC (.int 0)) (aCons (eC (.int 1)) aNil))))
  (sSeq (sFor [] (iR2 (aCons (e2 dAdd (eV 1) (eC (.int 1))) (aCons (e2 dAdd (eV 0) (eC (.int 1))) aNil))) (.nm 3) (sAsg [] 2 (eCB law_addF (aCons (eV 2) (aCons (eTup (aCons (eV 1) (aCons (eV 3) aNil))) aNil)))))
  (sRet (eV 2))))
def law_mostF : List D → Option D := fnOut 2 4 law_mostB
end PM
namespace PM
open PySem L2 PD
/-! ### a loop that folds one value of the slots; v: the loop's own name -/
theorem fold_gen {α β : Type} (mk : α → Option D → En) {t : Tgt} {F : En → Option Out} (enc : β → D) (f : α → β → α) (Inv : Nat → α → Prop) (Q : β → Prop) (step B : Nat)
    (turn : ∀ m a b v, Inv m a → Q b → m + step ≤ B → ∃ ρ1 v', stD t (enc b) (mk a v) = some ρ1 ∧ F ρ1 = some (.nx (mk (f a b) v')) ∧ Inv (m + step) (f a b)) :
    ∀ (bs : List β) (m : Nat) (a : α) (v : Option D), Inv m a → (∀ b ∈ bs, Q b) → m + bs.length * step ≤ B → ∃ v', loopD t F (bs.map enc) (mk a v) = some (.nx (mk (bs.foldl f a) v')) ∧ Inv (m + bs.length * step) (bs.foldl f a)
  | [], m, a, v, h, _, _ => ⟨v, rfl, by simpa using h⟩
  | b :: bs, m, a, v, h, hq, hB => by
    rw [List.length_cons, Nat.succ_mul] at hB
    obtain ⟨ρ1, v1, s1, s2, h1⟩ := turn m a b v h (hq b (by simp)) (by omega)
    obtain ⟨v2, e, h2⟩ := fold_gen mk enc f Inv Q step B turn bs (m + step) (f a b) v1 h1 (fun x hx => hq x (by simp [hx])) (by omega)
    refine ⟨v2, ?_, ?_⟩
    · rw [List.map_cons, x_loop, s1, q_turn, s2, q_next0, e]; rfl
    · rw [List.length_cons, Nat.succ_mul, List.foldl_cons]
      have : m + (bs.length * step + step) = m + step + bs.length * step := by omega
      rw [this]
      exact h2
/-- a fraction of size n, not always in lowest terms -/
structure Sz (n : Nat) (a : Int × Int) : Prop where
  pos : 0 < a.2
  top : a.1.natAbs < 2 ^ n
  bot : a.2.natAbs < 2 ^ n
theorem Pt.sz {n : Nat} {a : Int × Int} (h : Pt n a) : Sz n a := ⟨h.pos, h.top, h.bot⟩
theorem plus_ptz {n m : Nat} {a b : Int × Int} (ha : Sz n a) (hb : Sz m b) : Pt (n + m + 1) (plus a b) :=
  low_pt (Int.mul_pos ha.pos hb.pos) (pow_add (pow_mul ha.top hb.bot) (by rw [Nat.add_comm n m]; exact pow_mul hb.top ha.bot)) (pow_mono (pow_mul ha.bot hb.bot) (Nat.le_succ _))
theorem plus_pos {a b : Int × Int} (ha : 0 < a.2) (hb : 0 < b.2) : 0 < (plus a b).2 := by
  have h := Int.mul_pos ha hb
  show 0 < a.2 * b.2 / _
  exact Int.ediv_pos_of_pos_of_dvd h (by have := gcd_pos (t := a.1 * b.2 + b.1 * a.2) h; omega) (Int.gcd_dvd_right ..)
theorem law_add_eqz {n m : Nat} {a b : Int × Int} (ha : Sz n a) (hb : Sz m b) (h : n + m ≤ 8999) : law_addF [P a, P b] = some (P (plus a b)) := by
  have h1 := okMul_pt ha.top hb.bot h
  have h2 := okMul_pt hb.top ha.bot (by omega)
  have h3 := okMul_pt ha.bot hb.bot h
  have hp := Int.mul_pos ha.pos hb.pos
  have l := law_low_eq (t := a.1 * b.2 + b.1 * a.2) hp (pow_mono (pow_mul ha.bot hb.bot) (by omega))
  unfold law_addF law_addB
  walk_at "op"
  walk_at "ev"
  simp only [P_ix0, P_ix1]
  walk_at "evs"
  rfl
theorem unit_pt {j : Int} (h : 0 < j) (h2 : j < 64) : Pt 6 (1, j) := ⟨h, by show 1 < 64; decide, by show j.natAbs < 64; omega, by simp⟩
theorem unit_sz {k j : Int} (h0 : 0 ≤ k) (hk : k < 64) (h : 0 < j) (h2 : j < 64) : Sz 6 (k, j) := ⟨h, by show k.natAbs < 64; omega, by show j.natAbs < 64; omega⟩
theorem num_pt {j : Int} {n : Nat} (h : j.natAbs < 2 ^ n) (hn : 1 ≤ n) : Pt n (j, 1) := ⟨(by decide : (0 : Int) < 1), h, (by show 1 < 2 ^ n; exact Nat.one_lt_two_pow (by omega)), by simp⟩
/-! ### most, behind, before, wait, foe_hours -/
/-- lo, lo + 1, .. (c of them) -/
def ups (lo : Int) (c : Nat) : List Int := (List.range c).map fun (i : Nat) => lo + (i : Int)
theorem rng_ups (lo : Int) (c : Nat) : rngD lo c = (ups lo c).map D.int := by
  unfold rngD ups
  rw [List.map_map]
  rfl
theorem ups_len (lo : Int) (c : Nat) : (ups lo c).length = c := by simp [ups]
theorem ups_mem {lo j : Int} {c : Nat} (h : j ∈ ups lo c) : lo ≤ j ∧ j < lo + c := by
  unfold ups at h
  obtain ⟨i, hi, rfl⟩ := List.mem_map.mp h
  have := List.mem_range.mp hi
  omega
theorem ups_succ (lo : Int) (c : Nat) : ups lo (c + 1) = ups lo c ++ [lo + (c : Int)] := by
  unfold ups
  rw [List.range_succ, List.map_append]
  rfl
/-- 1/(k+1) + .. + 1/(k+c) -/
def harm (k : Int) (c : Nat) : Int × Int := (ups (k + 1) c).foldl (fun a j => plus a (1, j)) (0, 1)
def most (n k : Nat) : Int × Int := low ((harm k (n - k)).1 * k) (harm k (n - k)).2
def before (n : Nat) : Int × Int := minus (1, 1) (1, n)
/-- the same as a rational -/
def hsum (k : Nat) : Nat → Rat
  | 0 => 0
  | c + 1 => hsum k c + 1 / ((k + 1 + c : Nat) : Rat)
theorem foldl_pt {e : Int → Int × Int} {q : Int → Prop} (he : ∀ j, q j → Sz 6 (e j)) : ∀ (l : List Int) (m : Nat) (a : Int × Int), Pt m a → (∀ j ∈ l, q j) → Pt (m + l.length * 7) (l.foldl (fun a j => plus a (e j)) a)
  | [], m, a, h, _ => by simpa using h
  | j :: l, m, a, h, hq => by
    have := foldl_pt he l (m + 7) (plus a (e j)) (plus_ptz h.sz (he j (hq j (by simp)))) fun x hx => hq x (by simp [hx])
    rw [List.length_cons, Nat.succ_mul, show m + (l.length * 7 + 7) = m + 7 + l.length * 7 by omega]
    exact this
theorem harm_pt {k : Int} {c : Nat} (h0 : 0 ≤ k) (h : k + c < 64) : Pt (1 + c * 7) (harm k c) := by
  have := foldl_pt (e := fun j => (1, j)) (q := fun j => 0 < j ∧ j < 64) (fun j h => (unit_pt h.1 h.2).sz) (ups (k + 1) c) 1 (0, 1) zero_pt fun j hj => by
    have := ups_mem hj
    omega
  rw [ups_len] at this
  exact this
theorem val_unit {j : Nat} (h : 0 < j) : val (1, (j : Int)) = 1 / (j : Rat) := by
  unfold val
  rw [Rat.divInt_eq_div]
  rfl
theorem harm_val (k : Nat) : ∀ c : Nat, k + c < 64 → val (harm k c) = hsum k c
  | 0, _ => val_zero
  | c + 1, h => by
    have ih := harm_val k c (by omega)
    have p := harm_pt (k := k) (c := c) (by omega) (by omega)
    have e : harm k (c + 1) = plus (harm k c) (1, (k : Int) + 1 + c) := by
      unfold harm
      rw [ups_succ, List.foldl_append]
      rfl
    rw [e, val_plus p.pos (show (0 : Int) < (k : Int) + 1 + c by omega), ih, hsum]
    have := val_unit (j := k + 1 + c) (by omega)
    rw [← this]
    rfl
theorem most_pt {n k : Nat} (h : n < 64) : Pt 500 (most n k) := by
  unfold most
  by_cases hk : k ≤ n
  · have p := harm_pt (k := k) (c := n - k) (by omega) (by omega)
    have hk6 : ((k : Int)).natAbs < 2 ^ 6 := by show (k : Int).natAbs < 64; omega
    refine low_pt p.pos (pow_mono (pow_mul p.top hk6) (by omega)) (pow_mono p.bot (by omega))
  · rw [Nat.sub_eq_zero_of_le (by omega)]
    have : Pt 500 ((0, 1) : Int × Int) := zero_pt.mono (by decide)
    show Pt 500 (low (0 * (k : Int)) 1)
    rw [Int.zero_mul]
    exact this
theorem most_val {n k : Nat} (hk : k ≤ n) (h : n < 64) : val (most n k) = (k : Rat) * hsum k (n - k) := by
  have p := harm_pt (k := k) (c := n - k) (by omega) (by omega)
  unfold most
  rw [val_low p.pos, ← harm_val k (n - k) (by omega)]
  unfold val
  rw [Rat.divInt_eq_div, Rat.divInt_eq_div, Rat.intCast_mul, Rat.div_def, Rat.div_def, Rat.intCast_natCast]
  grind
theorem most_loop {n k : Nat} (h : n < 64) (x0 x1 : Option D) : ∃ v', loopD (.nm 3) (sAsg [] 2 (eCB plusF (aCons (eV 2) (aCons (eTup (aCons (eC (.int 1)) (aCons (eV 3) aNil))) aNil)))) (rngD ((k : Int) + 1) (n - k)) [x0, x1, some (P (0, 1)), none] = some (.nx [x0, x1, some (P (harm k (n - k))), v']) := by
  rw [rng_ups]
  obtain ⟨v, e, _⟩ := fold_gen (fun a v => [x0, x1, some (P a), v]) (t := .nm 3) (F := sAsg [] 2 (eCB plusF (aCons (eV 2) (aCons (eTup (aCons (eC (.int 1)) (aCons (eV 3) aNil))) aNil)))) D.int (fun a j => plus a (1, j)) (fun m a => Pt m a) (fun j => 0 < j ∧ j < 64) 7 8000
    (fun m a j v ha hj hm => by
      have e := plus_eq ha (unit_pt hj.1 hj.2) (by omega)
      refine ⟨_, some (.int j), rfl, ?_, plus_ptz ha.sz (unit_pt hj.1 hj.2).sz⟩
      unfold P at e ⊢
      walk_at "evs") (ups ((k : Int) + 1) (n - k)) 1 (0, 1) none zero_pt (fun j hj => by have := ups_mem hj; omega) (by rw [ups_len]; omega)
  exact ⟨v, e⟩
theorem most_eq {n k : Nat} (h : n < 64) (hk : k ≤ n) : mostF [.int n, .int k] = some (P (most n k)) := by
  obtain ⟨v, e⟩ := most_loop (n := n) (k := k) h (some (.int n)) (some (.int k))
  have p := harm_pt (k := k) (c := n - k) (by omega) (by omega)
  have hk6 : ((k : Int)).natAbs < 2 ^ 6 := by show (k : Int).natAbs < 64; omega
  have m1 := okMul_pt p.top hk6 (by omega)
  have l := lowest_eq (t := (harm k (n - k)).1 * (k : Int)) p.pos (pow_mono p.bot (by omega))
  have s1 := small_int (n := (k : Int) + 1) (by omega) (by omega)
  have s2 := small_int (n := (n : Int) + 1) (by omega) (by omega)
  have c : ((n : Int) + 1 - ((k : Int) + 1)).toNat = n - k := by omega
  unfold mostF mostB
  unfold P at e
  walk_at "op"
  walk_at "evs"
  rfl
theorem behind_eq {n : Nat} (h : n < 64) (h1 : 1 ≤ n) : behindF [.int n] = some (P (most n 1)) := by
  have e := most_eq h h1
  rw [show ((1 : Nat) : Int) = 1 from rfl] at e
  unfold behindF behindB
  walk_at "op"
  walk_at "evs"
theorem before_pt {n : Nat} (h : n < 64) (h1 : 1 ≤ n) : Pt 8 (before n) := minus_pt one_pt (unit_pt (by omega) (by omega))
theorem before_eq {n : Nat} (h : n < 64) (h1 : 1 ≤ n) : beforeF [.int n] = some (P (before n)) := by
  have e := minus_eq one_pt (unit_pt (j := (n : Int)) (by omega) (by omega)) (by omega)
  unfold P at e
  unfold beforeF beforeB before P
  walk_at "op"
  walk_at "evs"
theorem before_val {n : Nat} (h1 : 1 ≤ n) : val (before n) = 1 - 1 / (n : Rat) := by
  unfold before
  rw [val_minus (by decide) (show (0 : Int) < n by omega), val_one, val_unit h1]
/-- the law's own -/
theorem law_most_eq {n k : Nat} (h : n < 64) (hk : k ≤ n) : ∃ a, Pt 500 a ∧ val a = (k : Rat) * hsum k (n - k) ∧ law_mostF [.int n, .int k] = some (P a) := by
  have s1 := small_int (n := (k : Int) + 1) (by omega) (by omega)
  have s2 := small_int (n := (n : Int) + 1) (by omega) (by omega)
  have c : ((n : Int) + 1 - ((k : Int) + 1)).toNat = n - k := by omega
  have hq : ∀ j ∈ ups ((k : Int) + 1) (n - k), 0 < j ∧ j < 64 := fun j hj => by have := ups_mem hj; omega
  obtain ⟨v, e, p⟩ := fold_gen (fun a v => [some (.int n), some (.int k), some (P a), v]) (t := .nm 3) (F := sAsg [] 2 (eCB law_addF (aCons (eV 2) (aCons (eTup (aCons (eV 1) (aCons (eV 3) aNil))) aNil)))) D.int (fun a j => plus a ((k : Int), j)) (fun m a => Pt m a) (fun j => 0 < j ∧ j < 64) 7 8000
    (fun m a j v ha hj hm => by
      have e := law_add_eqz ha.sz (unit_sz (k := (k : Int)) (by omega) (by omega) hj.1 hj.2) (by omega)
      refine ⟨_, some (.int j), rfl, ?_, plus_ptz ha.sz (unit_sz (by omega) (by omega) hj.1 hj.2)⟩
      unfold P at e ⊢
      walk_at "evs") (ups ((k : Int) + 1) (n - k)) 1 (0, 1) none zero_pt hq (by rw [ups_len]; omega)
  rw [ups_len] at p
  refine ⟨(ups ((k : Int) + 1) (n - k)).foldl (fun a j => plus a ((k : Int), j)) (0, 1), p.mono (by omega), ?_, ?_⟩
  · have gen : ∀ c : Nat, k + c < 64 → val ((ups ((k : Int) + 1) c).foldl (fun a j => plus a ((k : Int), j)) (0, 1)) = (k : Rat) * hsum k c ∧ 0 < ((ups ((k : Int) + 1) c).foldl (fun a j => plus a ((k : Int), j)) (0, 1)).2 := by
      intro c
      induction c with
      | zero => intro _; exact ⟨by show val (0, 1) = _; rw [val_zero, hsum, Rat.mul_zero], (show (0 : Int) < 1 by decide)⟩
      | succ c ih =>
        intro hc
        obtain ⟨i1, i2⟩ := ih (by omega)
        have pj : (0 : Int) < (k : Int) + 1 + c := by omega
        rw [ups_succ, List.foldl_append, List.foldl_cons, List.foldl_nil]
        refine ⟨?_, ?_⟩
        · rw [val_plus i2 pj, i1, hsum, Rat.mul_add]
          have e : val ((k : Int), (k : Int) + 1 + c) = (k : Rat) * (1 / ((k + 1 + c : Nat) : Rat)) := by
            unfold val
            rw [Rat.divInt_eq_div, Rat.div_def, Rat.div_def, Rat.one_mul]
            rfl
          rw [e]
        · exact plus_pos i2 pj
    exact (gen (n - k) (by omega)).1
  · unfold law_mostF law_mostB
    rw [← rng_ups] at e
    unfold P at e ⊢
    walk_at "op"
    walk_at "evs"
end PM
namespace PM
open PySem L2 PD
theorem loop_all {t : Tgt} {F : En → Option Out} (I : En → Prop) (ds : List D) (ρ : En) (h : I ρ) (st : ∀ d ∈ ds, ∀ ρ, I ρ → ∃ ρ1 ρ', stD t d ρ = some ρ1 ∧ (F ρ1 = some (.nx ρ') ∨ F ρ1 = some (.ct ρ')) ∧ I ρ') : ∃ ρ', loopD t F ds ρ = some (.nx ρ') ∧ I ρ' := by
  obtain ⟨ρ', a, b⟩ := loop_inv (t := t) (F := F) (fun _ ρ => I ρ) ds 0 ρ h fun i d ρ e hi => st d (List.mem_of_getElem? e) ρ hi
  exact ⟨ρ', a, b⟩
theorem hsum_first (k : Nat) : ∀ c : Nat, hsum k (c + 1) = 1 / ((k + 1 : Nat) : Rat) + hsum (k + 1) c
  | 0 => by simp only [hsum]; grind
  | c + 1 => by
    rw [hsum, hsum_first k c, hsum]
    have : k + 1 + (c + 1) = k + 1 + 1 + c := by omega
    rw [this, Rat.add_assoc]
theorem hsum_nonneg (k : Nat) : ∀ c : Nat, 0 ≤ hsum k c
  | 0 => Rat.le_refl
  | c + 1 => by
    have h := hsum_nonneg k c
    have h2 : (0 : Rat) < ((k + 1 + c : Nat) : Rat) := Rat.natCast_pos.mpr (by omega)
    have h3 := Rat.inv_pos.mpr h2
    rw [hsum, Rat.div_def, Rat.one_mul]
    grind
theorem val_pos_of {a : Int × Int} (ha : 0 < a.2) (h : 0 < a.1) : 0 < val a := by
  have := (val_lt (a := (0, 1)) (b := a) (by show (0 : Int) < 1; decide) ha).mp (by show 0 * a.2 < a.1 * 1; omega)
  rwa [val_zero] at this
theorem val_floor {n : Nat} {a : Int × Int} (h : Pt n a) : ((a.1 / a.2 : Int) : Rat) ≤ val a ∧ val a < ((a.1 / a.2 + 1 : Int) : Rat) := by
  have e : (val a).floor = a.1 / a.2 := by rw [Rat.floor_def, val_num h.pos h.one, val_den h.pos h.one]
  rw [← e]
  exact ⟨Rat.floor_le _, Rat.lt_floor_add_one _⟩
/-- n's own sum behind + before -/
def both (n : Nat) : Int × Int := plus (most n 1) (before n)
theorem both_pt {n : Nat} (h : n < 64) (h1 : 1 ≤ n) : Pt 509 (both n) := plus_pt (most_pt h) (before_pt h h1)
theorem both_val {n : Nat} (h : n < 64) (h1 : 1 ≤ n) : val (both n) = hsum 1 (n - 1) + (1 - 1 / (n : Rat)) := by
  unfold both
  rw [val_plus (most_pt h).pos (before_pt h h1).pos, most_val h1 h, before_val h1]
  have : ((1 : Nat) : Rat) = 1 := rfl
  rw [this, Rat.one_mul]
theorem wait_eq {n : Nat} {s : Int × Int} {m : Nat} (h : n < 64) (h1 : 1 ≤ n) (hs : Pt m s) (h0 : 0 < s.1) (hm : m ≤ 7000) : waitF [.int n, P s] = some (.int ((over (both n) s).1 / (over (both n) s).2)) := by
  have e1 := behind_eq h h1
  have e2' := before_eq h h1
  have e3 := plus_eq (most_pt (k := 1) h) (before_pt h h1) (by decide)
  have e4 := over_eq (both_pt h h1) hs h0 (by omega)
  have e5 := floor_of_eq (over_pt (both_pt h h1) hs h0) (by omega)
  unfold both at e4 e5 ⊢
  unfold waitF waitB
  walk_at "op"
  walk_at "evs"
theorem foe_hours_eq {n : Nat} (h : n < 64) (h1 : 1 ≤ n) : foe_hoursF [.int n] = some (.int (-(-(times ((n : Int), 1) (most n 1)).1 / (times ((n : Int), 1) (most n 1)).2))) := by
  have pn : Pt 6 ((n : Int), 1) := num_pt (by show (n : Int).natAbs < 64; omega) (by decide)
  have e1 := behind_eq h h1
  have e2' := times_eq pn (most_pt (k := 1) h) (by decide)
  have e3 := ceil_of_eq (times_pt pn (most_pt (k := 1) h)) (by decide)
  unfold P at e2'
  unfold P at e1 e3
  unfold foe_hoursF foe_hoursB
  walk_at "op"
  walk_at "evs"
end PM
namespace PM
open PySem L2 PD

/-! raised(lags, shares): slots 0:lags 1:shares 2:lag 3:share -/
def raisedB : En → Option Out := (sRetF (eComp [2, 3] (iZ (aCons (eV 0) (aCons (eV 1) aNil))) (.tp [2, 3]) tTrue (eCB plusF (aCons (eV 2) (aCons (eV 3) aNil)))))
def raisedF : List D → Option (List D) := fnOutF 2 4 raisedB
/-! turn_of(row): slots 0:row 1:found 2:place -/
def turn_ofB : En → Option Out := (sSeq (sAsg [] 1 (eC (.int 0)))
  (sSeq (sFor [] (iR1 (aCons (eCB cLen (aCons (eV 0) aNil)) aNil)) (.nm 2) (sIf (tB2 (eCB belowF (aCons (e2 dIx (eV 0) (eV 1)) (aCons (e2 dIx (eV 0) (eV 2)) aNil)))) (sAsg [] 1 (eV 2)) sNil))
  (sRet (eV 1))))
def turn_ofF : List D → Option D := fnOut 1 3 turn_ofB
/-! law_parts(law_found): slots 0:law_found 1:law_a -/
def law_partsB : En → Option Out := (sRet (eAnd (eCB cIsi (aCons (eV 0) (aCons (eC (.ty .list)) aNil))) (eCB cAll (aCons (eFr (eComp [1] (iL (eV 0)) (.nm 1) tTrue (eCB law_partF (aCons (eV 1) aNil)))) aNil))))
def law_partsF : List D → Option D := fnOut 1 2 law_partsB
/-! law_shares(law_row, law_n): slots 0:law_row 1:law_n 2:law_weights 3:law_whole_here 4:law_one 5:law_weight -/
def law_shares_s1 : En → Option Out := (sAsgO [2] 2 (eComp [4] (iL (eFr (eSl (eV 0) oNone (oSome (eV 1))))) (.nm 4) tTrue (e2 dMod (eV 4) (eC (.int 12)))))
def law_shares_s2 : En → Option Out := (sIf (tB2 (e2 dEq (e2 dMod (e2 dIx (eV 0) (eV 1)) (eC (.int 5))) (eC (.int 1)))) (sAsgO [2] 2 (eComp [4] (iL (eFr (eSl (eV 0) oNone (oSome (eV 1))))) (.nm 4) tTrue (e2 dMod (eV 4) (eC (.int 2))))) sNil)
def law_shares_s3 : En → Option Out := (sIf (tB2 (e2 dEq (e2 dMod (e2 dIx (eV 0) (eV 1)) (eC (.int 5))) (eC (.int 2)))) (sAsgO [2] 2 (eComp [4] (iL (eFr (eSl (eV 0) oNone (oSome (eV 1))))) (.nm 4) tTrue (e2 dMul (eV 4) (eCB cInt (aCons (e2 dEq (e2 dMod (eV 4) (eC (.int 3))) (eC (.int 0))) aNil))))) sNil)
def law_shares_s4 : En → Option Out := (sIf (tB2 (e2 dEq (e2 dMod (e2 dIx (eV 0) (eV 1)) (eC (.int 5))) (eC (.int 3)))) (sAsgO [2] 2 (eComp [4] (iL (eFr (eSl (eV 0) oNone (oSome (eV 1))))) (.nm 4) tTrue (eC (.int 0)))) sNil)
def law_shares_s5 : En → Option Out := (sSetAug (· + ·) 2 (e2 dMod (e2 dDiv (e2 dIx (eV 0) (eV 1)) (eC (.int 5))) (eV 1)) (e2 dAdd (eC (.int 1)) (e2 dMod (e2 dDiv (e2 dIx (eV 0) (eV 1)) (eC (.int 131))) (eC (.int 4)))))
def law_shares_s7 : En → Option Out := (sRetF (eComp [5] (iL (eV 2)) (.nm 5) tTrue (eCB law_lowF (aCons (eV 5) (aCons (eV 3) aNil)))))
def law_sharesB : En → Option Out := (sSeq law_shares_s1
  (sSeq law_shares_s2
  (sSeq law_shares_s3
  (sSeq law_shares_s4
  (sSeq law_shares_s5
  (sSeq (sAsgI 3 (eCB cSum (aCons (eV 2) aNil)))
  law_shares_s7))))))
def law_sharesF : List D → Option (List D) := fnOutF 2 6 law_sharesB
/-! law_first(law_row): slots 0:law_row 1:law_at 2:law_k -/
def law_firstB : En → Option Out := (sSeq (sAsg [] 1 (eC (.int 0)))
  (sSeq (sFor [] (iR1 (aCons (eCB cLen (aCons (eV 0) aNil)) aNil)) (.nm 2) (sIf (tB2 (eCB law_lessF (aCons (e2 dIx (eV 0) (eV 1)) (aCons (e2 dIx (eV 0) (eV 2)) aNil)))) (sAsg [] 1 (eV 2)) sNil))
  (sRet (eV 1))))
def law_firstF : List D → Option D := fnOut 1 3 law_firstB
/-! law_many_fields(law_one, law_top): slots 0:law_one 1:law_top -/
def law_many_fieldsB : En → Option Out := (sSeq (sIf (tB2 (e2 dEq (e2 dMod (eV 0) (eC (.int 4))) (eC (.int 0)))) (sRet (e2 dAdd (eC (.int 1)) (e2 dMod (e2 dDiv (eV 0) (eC (.int 4))) (eV 1)))) sNil)
  (sRet (e2 dAdd (eC (.int 1)) (e2 dMod (e2 dDiv (eV 0) (eC (.int 4))) (eCB cMin2 (aCons (eV 1) (aCons (eC (.int 5)) aNil)))))))
def law_many_fieldsF : List D → Option D := fnOut 2 2 law_many_fieldsB
end PM
namespace PM
open PySem L2 PD
/-! ### reading on -/
theorem seq_nx {F G : En → Option Out} {ρ ρ' : En} {o : Option Out} (h : F ρ = some (.nx ρ')) (k : G ρ' = o) : sSeq F G ρ = o := by
  rw [x_seq, h, q_seq1, k]
theorem cut_take {l : List D} {n : Nat} (h : n ≤ l.length) : cutD l none (some (n : Int)) = l.take n := by
  unfold cutD
  rw [HT.sIx_nat, HT.sIx_none, List.drop_zero, Nat.sub_zero, Nat.min_eq_left h]
theorem cut_drop {l : List D} {n : Nat} (h : n ≤ l.length) : cutD l (some (n : Int)) none = l.drop n := by
  unfold cutD
  rw [HT.sIx_nat, HT.sIx_none, Nat.min_eq_left h]
  exact List.take_of_length_le (by rw [List.length_drop]; exact Nat.le_refl _)
theorem Row.take {l : List Int} (h : Row l) (n : Nat) : Row (l.take n) := fun x hx => h x (List.mem_of_mem_take hx)
theorem Row.drop {l : List Int} (h : Row l) (n : Nat) : Row (l.drop n) := fun x hx => h x (List.mem_of_mem_drop hx)
theorem zip_P : ∀ l s : List (Int × Int), zipD (l.map P) (s.map P) = (l.zip s).map fun p => .tup [P p.1, P p.2]
  | [], _ => by simp [zipD]
  | _ :: _, [] => by simp [zipD]
  | a :: l, b :: s => by simp [zipD, zip_P l s]
/-- lags and shares together -/
def raise (l s : List (Int × Int)) : List (Int × Int) := (l.zip s).map fun p => plus p.1 p.2
theorem raise_len {l s : List (Int × Int)} (h : s.length = l.length) : (raise l s).length = l.length := by unfold raise; simp [h]
theorem raise_pt {n m : Nat} {l s : List (Int × Int)} (hl : ∀ x ∈ l, Pt n x) (hs : ∀ x ∈ s, Pt m x) : ∀ x ∈ raise l s, Pt (n + m + 1) x := by
  intro x hx
  obtain ⟨p, hp, rfl⟩ := List.mem_map.mp hx
  obtain ⟨a, b⟩ := p
  exact plus_pt (hl _ (List.of_mem_zip hp).1) (hs _ (List.of_mem_zip hp).2)
theorem raised_eq {n m : Nat} {l s : List (Int × Int)} (hl : ∀ x ∈ l, Pt n x) (hs : ∀ x ∈ s, Pt m x) (h : n + m ≤ 8999) (hz : l.length ≤ 1000) : raisedF [.lst (l.map P), .lst (s.map P)] = some ((raise l s).map P) := by
  have c := comp_map (t := .tp [2, 3]) (test := tTrue) (elt := eCB plusF (aCons (eV 2) (aCons (eV 3) aNil))) (ρ := mask [2, 3] [some (.lst (l.map P)), some (.lst (s.map P)), none, none]) (fun p : (Int × Int) × (Int × Int) => D.tup [P p.1, P p.2]) P (fun p => plus p.1 p.2) (l.zip s) (fun p hp => by
    obtain ⟨a, b⟩ := p
    have e := plus_eq (hl _ (List.of_mem_zip hp).1) (hs _ (List.of_mem_zip hp).2) h
    refine ⟨[some (.lst (l.map P)), some (.lst (s.map P)), some (P a), some (P b)], rfl, rfl, ?_⟩
    walk_at "pv")
  rw [← zip_P] at c
  have ok : (zipD (l.map P) (s.map P)).length ≤ 1000000 := by rw [zip_P]; simp; omega
  unfold raisedF raisedB
  walk_at "op"
  rw [x_retF, x_comp, x_iZ, x_cons, x_cons]
  walk_at "ev"
  simp only [ok, decide_true, if_true]
  have e0 : mask [2, 3] [some (.lst (l.map P)), some (.lst (s.map P)), none, none] = [some (.lst (l.map P)), some (.lst (s.map P)), none, none] := rfl
  rw [e0] at c
  rw [c]
  rfl
theorem due_comp {n m : Nat} {l s : List (Int × Int)} (hl : ∀ x ∈ l, Pt n x) (hs : ∀ x ∈ s, Pt m x) (h : n + m ≤ 8999) {i j : Nat} {ρ : En} (st : ∀ a b, ∃ ρ1, stD (.tp [i, j]) (.tup [P a, P b]) ρ = some ρ1 ∧ eV i ρ1 = some (P a) ∧ eV j ρ1 = some (P b)) : compD (.tp [i, j]) tTrue (eCB law_addF (aCons (eV i) (aCons (eV j) aNil))) ρ (zipD (l.map P) (s.map P)) = some ((raise l s).map P) := by
  rw [zip_P]
  refine comp_map (fun p : (Int × Int) × (Int × Int) => D.tup [P p.1, P p.2]) P (fun p => plus p.1 p.2) (l.zip s) (fun p hp => ?_)
  obtain ⟨a, b⟩ := p
  have e := law_add_eq (hl _ (List.of_mem_zip hp).1) (hs _ (List.of_mem_zip hp).2) h
  obtain ⟨ρ1, s1, s2, s3⟩ := st a b
  refine ⟨ρ1, s1, rfl, ?_⟩
  rw [x_cb, x_cons, x_cons, s2, s3]
  walk_at "evs"
/-! ### the first of the greatest -/
def nth (l : List (Int × Int)) (k : Nat) : Int × Int := l.getD k (0, 1)
def firstOf (l : List (Int × Int)) : Nat := (List.range l.length).foldl (fun at' k => if less (nth l at') (nth l k) then k else at') 0
theorem nth_mem {l : List (Int × Int)} {k : Nat} (h : k < l.length) : nth l k ∈ l := by
  unfold nth
  rw [List.getD_eq_getElem?_getD, List.getElem?_eq_getElem h]
  exact List.getElem_mem h
theorem atI_nth {l : List (Int × Int)} {k : Nat} (h : k < l.length) : atI (l.map P) (k : Int) = some (P (nth l k)) := by
  rw [atI_map]
  unfold atI ixN
  have h1 : ¬ ((k : Int) < 0) := by omega
  unfold nth
  rw [List.getD_eq_getElem?_getD, List.getElem?_eq_getElem h]
  simp [h1, h, List.getElem?_eq_getElem h]
theorem rng0 (n : Nat) : rngD 0 n = (List.range n).map fun (k : Nat) => D.int (k : Int) := by
  unfold rngD
  simp
theorem first_loop {f : List D → Option D} {l : List (Int × Int)} {v : Option D} (hf : ∀ a ∈ l, ∀ b ∈ l, f [P a, P b] = some (.bl (less a b))) (h1 : 1 ≤ l.length) :
    ∃ v', loopD (.nm 2) (sIf (tB2 (eCB f (aCons (e2 dIx (eV 0) (eV 1)) (aCons (e2 dIx (eV 0) (eV 2)) aNil)))) (sAsg [] 1 (eV 2)) sNil) (rngD 0 l.length) [some (.lst (l.map P)), some (.int 0), v] = some (.nx [some (.lst (l.map P)), some (.int (firstOf l)), v']) ∧ firstOf l < l.length := by
  rw [rng0]
  obtain ⟨v', e, p⟩ := fold_gen (fun (a : Nat) v => [some (.lst (l.map P)), some (.int a), v]) (t := .nm 2) (F := sIf (tB2 (eCB f (aCons (e2 dIx (eV 0) (eV 1)) (aCons (e2 dIx (eV 0) (eV 2)) aNil)))) (sAsg [] 1 (eV 2)) sNil) (fun (k : Nat) => D.int (k : Int)) (fun at' k => if less (nth l at') (nth l k) then k else at') (fun _ a => a < l.length) (fun k => k < l.length) 0 0
    (fun m a b v ha hb _ => by
      have i1 := atI_nth ha
      have i2 := atI_nth hb
      have e := hf _ (nth_mem ha) _ (nth_mem hb)
      refine ⟨_, some (.int b), rfl, ?_, by show (if less (nth l a) (nth l b) then b else a) < l.length; split <;> omega⟩
      by_cases c : less (nth l a) (nth l b) = true
      · rw [c] at e
        show _ = some (Out.nx [_, some (.int ((if less (nth l a) (nth l b) = true then b else a : Nat) : Int)), _])
        rw [if_pos c]
        walk_at "evs"
      · rw [Bool.not_eq_true] at c
        rw [c] at e
        show _ = some (Out.nx [_, some (.int ((if less (nth l a) (nth l b) = true then b else a : Nat) : Int)), _])
        rw [if_neg (by rw [c]; decide)]
        walk_at "evs") (List.range l.length) 0 0 v h1 (fun k hk => List.mem_range.mp hk) (by simp)
  exact ⟨v', e, p⟩
theorem turn_of_eq {n : Nat} {l : List (Int × Int)} (hl : ∀ x ∈ l, Pt n x) (h : n + n ≤ 8999) (h1 : 1 ≤ l.length) (hz : l.length ≤ 1000) : turn_ofF [.lst (l.map P)] = some (.int (firstOf l)) := by
  obtain ⟨v', e, _⟩ := first_loop (f := belowF) (v := none) (fun a ha b hb => below_eq (hl a ha) (hl b hb) h) h1
  have s := small_nat (n := l.length) (by omega)
  unfold turn_ofF turn_ofB
  walk_at "op"
  walk_at "evs"
  rw [Int.toNat_natCast, e]
  walk_at "ev"
theorem law_first_eq {n : Nat} {l : List (Int × Int)} (hl : ∀ x ∈ l, Pt n x) (h : n + n ≤ 8999) (h1 : 1 ≤ l.length) (hz : l.length ≤ 1000) : law_firstF [.lst (l.map P)] = some (.int (firstOf l)) := by
  obtain ⟨v', e, _⟩ := first_loop (f := law_lessF) (v := none) (fun a ha b hb => law_less_eq (hl a ha) (hl b hb) h) h1
  have s := small_nat (n := l.length) (by omega)
  unfold law_firstF law_firstB
  walk_at "op"
  walk_at "evs"
  rw [Int.toNat_natCast, e]
  walk_at "ev"
theorem first_lt {l : List (Int × Int)} (h1 : 1 ≤ l.length) : firstOf l < l.length := by
  unfold firstOf
  have : ∀ (ks : List Nat) (a : Nat), a < l.length → (∀ k ∈ ks, k < l.length) → ks.foldl (fun at' k => if less (nth l at') (nth l k) then k else at') a < l.length := by
    intro ks
    induction ks with
    | nil => intro a ha _; exact ha
    | cons k ks ih => intro a ha hk; exact ih _ (by show (if less (nth l a) (nth l k) = true then k else a) < l.length; split; exact hk k (by simp); exact ha) fun x hx => hk x (by simp [hx])
  exact this _ 0 (by omega) fun k hk => List.mem_range.mp hk
/-! ### lists of parts, numbers of fields -/
theorem allBl_true : ∀ l : List Bool, allBl (l.map D.bl) = some l
  | [] => rfl
  | b :: l => by rw [List.map_cons, allBl, allBl_true l]; rfl
theorem law_parts_eq (l : List (Int × Int)) (hz : l.length ≤ 1000) : law_partsF [.lst (l.map P)] = some (.bl true) := by
  have c := comp_map (t := .nm 1) (test := tTrue) (elt := eCB law_partF (aCons (eV 1) aNil)) (ρ := [some (.lst (l.map P)), none]) P D.bl (fun _ => true) l (fun a _ => by
    refine ⟨_, rfl, rfl, ?_⟩
    have e := law_part_eq a
    show eCB law_partF (aCons (eV 1) aNil) [some (.lst (l.map P)), some (P a)] = _
    walk_at "evs")
  have ok : l.length ≤ 1000000 := by omega
  have ca : cAll [.lst ((l.map fun _ => true).map D.bl)] = some (.bl true) := by
    unfold cAll
    simp only [allBl_true, Option.map_some]
    simp
  unfold law_partsF law_partsB
  walk_at "op"
  walk_at "evs"
theorem law_many_fields_eq {x : Int} (hx : 0 ≤ x ∧ x < 1000000) {top : Nat} (h1 : 1 ≤ top) (h2 : top ≤ 63) : ∃ n : Nat, 1 ≤ n ∧ n ≤ top ∧ law_many_fieldsF [.int x, .int (top : Int)] = some (.int (n : Int)) := by
  have p4 : (0 : Int) < 4 := by decide
  have tp : (0 : Int) < (top : Int) := by omega
  have o1 : okDiv 4 = true := by decide
  have a1 := Int.emod_nonneg (x / 4) (show (top : Int) ≠ 0 by omega)
  have a2 := Int.emod_lt_of_pos (x / 4) tp
  by_cases c : x % 4 = 0
  · refine ⟨(1 + x / 4 % (top : Int)).toNat, by omega, by omega, ?_⟩
    rw [show (((1 + x / 4 % (top : Int)).toNat : Nat) : Int) = 1 + x / 4 % (top : Int) by omega]
    unfold law_many_fieldsF law_many_fieldsB
    walk_at "op"
    walk_at "pv"
  · by_cases c5 : (5 : Int) < top
    · have b1 := Int.emod_nonneg (x / 4) (show (5 : Int) ≠ 0 by omega)
      have b2 := Int.emod_lt_of_pos (x / 4) (show (0 : Int) < 5 by omega)
      have p5 : (0 : Int) < 5 := by decide
      refine ⟨(1 + x / 4 % 5).toNat, by omega, by omega, ?_⟩
      rw [show (((1 + x / 4 % 5).toNat : Nat) : Int) = 1 + x / 4 % 5 by omega]
      unfold law_many_fieldsF law_many_fieldsB
      walk_at "op"
      walk_at "pv"
    · refine ⟨(1 + x / 4 % (top : Int)).toNat, by omega, by omega, ?_⟩
      rw [show (((1 + x / 4 % (top : Int)).toNat : Nat) : Int) = 1 + x / 4 % (top : Int) by omega]
      unfold law_many_fieldsF law_many_fieldsB
      walk_at "op"
      walk_at "pv"
end PM
namespace PM
open PySem L2 PD
/-! ### shares -/
structure Shs (n : Nat) (s : List (Int × Int)) : Prop where
  len : s.length = n
  pt26 : ∀ x ∈ s, Pt 26 x
  nn : ∀ x ∈ s, 0 ≤ x.1
  one : (s.map val).sum = 1
theorem Shs.pt {n : Nat} {s : List (Int × Int)} (h : Shs n s) : ∀ x ∈ s, Pt 32 x := fun x hx => (h.pt26 x hx).mono (by decide)
def Wt (n : Nat) (w : List Int) : Prop := w.length = n ∧ Row w
theorem allInt_map : ∀ w : List Int, allInt (w.map D.int) = some w
  | [] => rfl
  | b :: l => by rw [List.map_cons, allInt, allInt_map l]; rfl
theorem sum_map (w : List Int) : cSum [.lst (w.map D.int)] = some (.int w.sum) := by
  unfold cSum
  simp only [allInt_map, Option.map_some]
theorem wt_comp {row : List Int} (hr : Row row) {n : Nat} (hl : n < row.length) (hn : n ≤ 63) {elt : En → Option D} (r2 r3 r4 r5 : Option D) (f : Int → Int)
    (he : ∀ x, 0 ≤ x → x < 1000000 → elt [some (.lst (row.map .int)), some (.int n), r2, r3, some (.int x), r5] = some (.int (f x)) ∧ 0 ≤ f x ∧ f x < 1000000) :
    ∃ w, Wt n w ∧ eComp [4] (iL (eFr (eSl (eV 0) oNone (oSome (eV 1))))) (.nm 4) tTrue elt [some (.lst (row.map .int)), some (.int n), r2, r3, r4, r5] = some (w.map D.int) := by
  have e : cutD (row.map D.int) none (some (n : Int)) = (row.take n).map D.int := by
    rw [cut_take (by simp; omega), List.map_take]
  have c := comp_map (t := .nm 4) (test := tTrue) (elt := elt) (ρ := [some (.lst (row.map .int)), some (.int n), r2, r3, none, r5]) D.int D.int f (row.take n) (fun x hx => ⟨_, rfl, rfl, (he x (hr.take n x hx).1 (hr.take n x hx).2).1⟩)
  refine ⟨(row.take n).map f, ⟨by simp; omega, fun y hy => ?_⟩, ?_⟩
  · obtain ⟨x, hx, rfl⟩ := List.mem_map.mp hy
    exact (he x (hr.take n x hx).1 (hr.take n x hx).2).2
  · have ok : (row.take n).length ≤ 1000000 := by simp; omega
    rw [x_comp, x_iL, x_fr, x_sl, x_oS]
    walk_at "ev"
    simp only [e, List.length_map, ok, decide_true, if_true]
    exact c
theorem sum_set : ∀ (w : List Int) (k : Nat) (x : Int), k < w.length → (w.set k x).sum = w.sum - w.getD k 0 + x
  | a :: w, 0, x, _ => by simp; omega
  | a :: w, k + 1, x, h => by
    have := sum_set w k x (by simpa using h)
    simp only [List.set_cons_succ, List.sum_cons, this, List.getD_cons_succ]
    omega
theorem sum_bd : ∀ (w : List Int) (b : Int), (∀ x ∈ w, 0 ≤ x ∧ x ≤ b) → 0 ≤ w.sum ∧ w.sum ≤ w.length * b
  | [], b, _ => by simp
  | a :: w, b, h => by
    have := sum_bd w b fun x hx => h x (by simp [hx])
    have h2 := h a (by simp)
    simp only [List.sum_cons, List.length_cons]
    have : ((w.length + 1 : Nat) : Int) * b = w.length * b + b := by rw [Int.natCast_succ, Int.add_mul, Int.one_mul]
    omega
theorem mem_le_sum : ∀ (w : List Int), (∀ x ∈ w, 0 ≤ x) → ∀ x ∈ w, x ≤ w.sum
  | a :: w, h, x, hx => by
    have s : 0 ≤ w.sum := by
      have : ∀ l : List Int, (∀ x ∈ l, 0 ≤ x) → 0 ≤ l.sum := by
        intro l; induction l with
        | nil => simp
        | cons b l ih => intro h; have := ih fun x hx => h x (by simp [hx]); have := h b (by simp); simp; omega
      exact this w fun x hx => h x (by simp [hx])
    simp only [List.sum_cons]
    rcases List.mem_cons.mp hx with rfl | hx
    · omega
    · have := mem_le_sum w (fun x hx => h x (by simp [hx])) x hx
      have := h a (by simp)
      omega
theorem val_sum_low (S : Int) (h : 0 < S) : ∀ w : List Int, (w.map fun x => val (low x S)).sum = (w.sum : Rat) / (S : Rat)
  | [] => by simp; grind
  | a :: w => by
    rw [List.map_cons, List.sum_cons, val_sum_low S h w, val_low h, Rat.divInt_eq_div, List.sum_cons, Rat.intCast_add]
    grind
/-- the end of it: from weights that sum up to 1 or more -/
theorem sh_of {n : Nat} (hn : n ≤ 63) {w : List Int} (hw : w.length = n) (hb : ∀ x ∈ w, 0 ≤ x ∧ x ≤ 1000010) (hs : 1 ≤ w.sum) : Shs n (w.map fun x => low x w.sum) := by
  have s2 := (sum_bd w 1000010 hb).2
  have sb : w.sum.natAbs < 2 ^ 26 := by
    have : (w.length : Int) * 1000010 ≤ 63 * 1000010 := Int.mul_le_mul_of_nonneg_right (by omega) (by decide)
    omega
  have pt : ∀ x ∈ w, Pt 26 (low x w.sum) := fun x hx => low_pt (by omega) (by have := hb x hx; omega) sb
  refine ⟨by simp [hw], fun y hy => ?_, fun y hy => ?_, ?_⟩
  · obtain ⟨x, hx, rfl⟩ := List.mem_map.mp hy
    exact pt x hx
  · obtain ⟨x, hx, rfl⟩ := List.mem_map.mp hy
    exact Int.ediv_nonneg (hb x hx).1 (by omega)
  · rw [List.map_map]
    show (w.map fun x => val (low x w.sum)).sum = 1
    rw [val_sum_low _ (by omega), Rat.div_def]
    exact Rat.mul_inv_cancel _ (by have : w.sum ≠ 0 := by omega
                                   exact fun e => this (by exact_mod_cast e))
theorem asgO_of {O : List Nat} {i : Nat} {F : En → Option (List D)} {ρ : En} {ds : List D} (e : F (mask O ρ) = some ds) : sAsgO O i F ρ = some (.nx (ρ.set i (some (.lst ds)))) := by
  rw [x_asgO, e, q_asgO]
theorem law_shares_eq {row : List Int} (hr : Row row) {n : Nat} (h1 : 1 ≤ n) (hn : n ≤ 63) (hl : n < row.length) : ∃ s, Shs n s ∧ law_sharesF [.lst (row.map .int), .int n] = some (s.map P) := by
  obtain ⟨v, hv, at0⟩ := row_at (k := n) hr hl
  have p5 : (0 : Int) < 5 := by decide
  have p12 : (0 : Int) < 12 := by decide
  have p3 : (0 : Int) < 3 := by decide
  have p2 : (0 : Int) < 2 := by decide
  have p4 : (0 : Int) < 4 := by decide
  have pn : (0 : Int) < n := by omega
  have o5 : okDiv 5 = true := by decide
  have o131 : okDiv 131 = true := by decide
  obtain ⟨w1, hw1, t1⟩ := wt_comp hr hl hn (elt := e2 dMod (eV 4) (eC (.int 12))) none none none none (fun x => x % 12) (fun x a b => by
      refine ⟨by walk_at "evs", ?_, ?_⟩ <;> omega)
  have s1 : law_shares_s1 [some (.lst (row.map .int)), some (.int n), none, none, none, none] = some (.nx [some (.lst (row.map .int)), some (.int n), some (.lst (w1.map .int)), none, none, none]) := asgO_of t1
  have s2 : ∀ w, Wt n w → ∃ w', Wt n w' ∧ law_shares_s2 [some (.lst (row.map .int)), some (.int n), some (.lst (w.map .int)), none, none, none] = some (.nx [some (.lst (row.map .int)), some (.int n), some (.lst (w'.map .int)), none, none, none]) := by
    intro w hw
    obtain ⟨w', hw', t⟩ := wt_comp hr hl hn (elt := e2 dMod (eV 4) (eC (.int 2))) none none none none (fun x => x % 2) (fun x a b => by
      refine ⟨by walk_at "evs", ?_, ?_⟩ <;> omega)
    have u := asgO_of (O := [2]) (i := 2) (ρ := [some (.lst (row.map .int)), some (.int n), some (.lst (w.map .int)), none, none, none]) t
    unfold law_shares_s2
    rw [x_if]
    by_cases c : v % 5 = 1
    · refine ⟨w', hw', ?_⟩
      have ct : tB2 (e2 dEq (e2 dMod (e2 dIx (eV 0) (eV 1)) (eC (.int 5))) (eC (.int 1))) [some (.lst (row.map .int)), some (.int n), some (.lst (w.map .int)), none, none, none] = some true := by walk_at "pv"
      rw [ct, q_if1]
      exact u
    · refine ⟨w, hw, ?_⟩
      walk_at "pv"
  have s3 : ∀ w, Wt n w → ∃ w', Wt n w' ∧ law_shares_s3 [some (.lst (row.map .int)), some (.int n), some (.lst (w.map .int)), none, none, none] = some (.nx [some (.lst (row.map .int)), some (.int n), some (.lst (w'.map .int)), none, none, none]) := by
    intro w hw
    obtain ⟨w', hw', t⟩ := wt_comp hr hl hn (elt := e2 dMul (eV 4) (eCB cInt (aCons (e2 dEq (e2 dMod (eV 4) (eC (.int 3))) (eC (.int 0))) aNil))) none none none none (fun x => x * (if decide (x % 3 = 0) then 1 else 0)) (fun x a b => by
      have m : okMul x (if decide (x % 3 = 0) then 1 else 0) = true := okMul_r (by split <;> decide)
      refine ⟨by walk_at "pv", ?_, ?_⟩ <;> split <;> omega)
    have u := asgO_of (O := [2]) (i := 2) (ρ := [some (.lst (row.map .int)), some (.int n), some (.lst (w.map .int)), none, none, none]) t
    unfold law_shares_s3
    rw [x_if]
    by_cases c : v % 5 = 2
    · refine ⟨w', hw', ?_⟩
      have ct : tB2 (e2 dEq (e2 dMod (e2 dIx (eV 0) (eV 1)) (eC (.int 5))) (eC (.int 2))) [some (.lst (row.map .int)), some (.int n), some (.lst (w.map .int)), none, none, none] = some true := by walk_at "pv"
      rw [ct, q_if1]
      exact u
    · refine ⟨w, hw, ?_⟩
      walk_at "pv"
  have s4 : ∀ w, Wt n w → ∃ w', Wt n w' ∧ law_shares_s4 [some (.lst (row.map .int)), some (.int n), some (.lst (w.map .int)), none, none, none] = some (.nx [some (.lst (row.map .int)), some (.int n), some (.lst (w'.map .int)), none, none, none]) := by
    intro w hw
    obtain ⟨w', hw', t⟩ := wt_comp hr hl hn (elt := eC (.int 0)) none none none none (fun x => 0) (fun x a b => by
      refine ⟨by walk_at "pv", ?_, ?_⟩ <;> omega)
    have u := asgO_of (O := [2]) (i := 2) (ρ := [some (.lst (row.map .int)), some (.int n), some (.lst (w.map .int)), none, none, none]) t
    unfold law_shares_s4
    rw [x_if]
    by_cases c : v % 5 = 3
    · refine ⟨w', hw', ?_⟩
      have ct : tB2 (e2 dEq (e2 dMod (e2 dIx (eV 0) (eV 1)) (eC (.int 5))) (eC (.int 3))) [some (.lst (row.map .int)), some (.int n), some (.lst (w.map .int)), none, none, none] = some true := by walk_at "pv"
      rw [ct, q_if1]
      exact u
    · refine ⟨w, hw, ?_⟩
      walk_at "pv"
  obtain ⟨w2, hw2, t2⟩ := s2 w1 hw1
  obtain ⟨w3, hw3, t3⟩ := s3 w2 hw2
  obtain ⟨w4, hw4, t4⟩ := s4 w3 hw3
  -- one weight more
  have k0 := Int.emod_nonneg (v / 5) (show (n : Int) ≠ 0 by omega)
  have k1 := Int.emod_lt_of_pos (v / 5) pn
  obtain ⟨k, hk, hkn⟩ : ∃ k : Nat, v / 5 % (n : Int) = (k : Int) ∧ k < n := ⟨(v / 5 % (n : Int)).toNat, by omega, by omega⟩
  have q0 : 0 ≤ v / 131 % 4 ∧ v / 131 % 4 < 4 := by omega
  generalize hq : v / 131 % 4 = q at *
  have hlen : k < w4.length := by rw [hw4.1]; exact hkn
  have g4 : (w4.map D.int)[k]? = some (.int (w4.getD k 0)) := by
    rw [List.getElem?_map, List.getElem?_eq_getElem hlen, List.getD_eq_getElem?_getD, List.getElem?_eq_getElem hlen]; rfl
  have b4 := hw4.2 (w4.getD k 0) (by rw [List.getD_eq_getElem?_getD, List.getElem?_eq_getElem hlen]; exact List.getElem_mem hlen)
  have ix : ixN w4.length (k : Int) = some k := by
    unfold ixN
    have h1 : ¬ ((k : Int) < 0) := by omega
    simp [h1, hlen]
  have kb : (0 : Int) ≤ (k : Int) ∧ (k : Int) < 1000000 := by omega
  have s5 : law_shares_s5 [some (.lst (row.map .int)), some (.int n), some (.lst (w4.map .int)), none, none, none] = some (.nx [some (.lst (row.map .int)), some (.int n), some (.lst ((w4.set k (w4.getD k 0 + (1 + q))).map .int)), none, none, none]) := by
    rw [List.map_set]
    unfold law_shares_s5
    walk_at "pv"
    rw [if_pos ⟨trivial, trivial⟩]
  have ss := sum_set w4 k (w4.getD k 0 + (1 + q)) hlen
  have wl : (w4.set k (w4.getD k 0 + (1 + q))).length = n := by rw [List.length_set]; exact hw4.1
  have wb : ∀ x ∈ w4.set k (w4.getD k 0 + (1 + q)), 0 ≤ x ∧ x ≤ 1000010 := by
    intro x hx
    rcases List.mem_or_eq_of_mem_set hx with h | rfl
    · have := hw4.2 x h; omega
    · omega
  have n4 := mem_le_sum w4 (fun x hx => (hw4.2 x hx).1) _ (show w4.getD k 0 ∈ w4 by rw [List.getD_eq_getElem?_getD, List.getElem?_eq_getElem hlen]; exact List.getElem_mem hlen)
  have wsum : 1 ≤ (w4.set k (w4.getD k 0 + (1 + q))).sum := by omega
  clear ss
  generalize w4.set k (w4.getD k 0 + (1 + q)) = w at *
  refine ⟨_, sh_of hn wl wb wsum, ?_⟩
  have s2' := (sum_bd w 1000010 wb).2
  have sb : w.sum.natAbs < 2 ^ 9000 := by
    have : (w.length : Int) * 1000010 ≤ 63 * 1000010 := Int.mul_le_mul_of_nonneg_right (by omega) (by decide)
    exact pow_mono (n := 32) (by omega) (by decide)
  have c := comp_map (t := .nm 5) (test := tTrue) (elt := eCB law_lowF (aCons (eV 5) (aCons (eV 3) aNil))) (ρ := [some (.lst (row.map .int)), some (.int n), some (.lst (w.map .int)), some (.int w.sum), none, none]) D.int P (fun x => low x w.sum) w (fun x hx => ⟨_, rfl, rfl, by
    have e := law_low_eq (t := x) (b := w.sum) (by omega) sb
    show eCB law_lowF (aCons (eV 5) (aCons (eV 3) aNil)) [some (.lst (row.map .int)), some (.int n), some (.lst (w.map .int)), some (.int w.sum), none, some (.int x)] = _
    walk_at "evs"⟩)
  have sm := sum_map w
  have ok : n ≤ 1000000 := by omega
  have tail : (sSeq (sAsgI 3 (eCB cSum (aCons (eV 2) aNil))) law_shares_s7) [some (.lst (row.map .int)), some (.int n), some (.lst (w.map .int)), none, none, none] = some (.rf ((w.map fun x => low x w.sum).map P)) := by
    unfold law_shares_s7
    walk_at "pv"
  unfold law_sharesF law_sharesB
  walk_at "op"
  rw [seq_nx s1 (seq_nx t2 (seq_nx t3 (seq_nx t4 (seq_nx s5 tail))))]
  rfl
end PM
namespace PM
open PySem L2 PD
/-! ### plain data: == with itself -/
structure Pl (k : Nat) (d : D) : Prop where
  no : noObj d = true
  lay : PyData.canLay0 (toP d) = true
  dep : (toP d).depth ≤ k
  eqv : PyData.eqv (toP d) (toP d) = true
theorem Pl.mono {k m : Nat} {d : D} (h : Pl k d) (l : k ≤ m) : Pl m d := ⟨h.no, h.lay, Nat.le_trans h.dep l, h.eqv⟩
theorem pl_int (i : Int) : Pl 0 (.int i) := ⟨rfl, rfl, Nat.le_refl _, by simp [toP, PyData.eqv]⟩
theorem pl_bl (i : Bool) : Pl 0 (.bl i) := ⟨rfl, rfl, Nat.le_refl _, by simp [toP, PyData.eqv]⟩
theorem pl_str {i : Str} (h : PyData.strOk i = true) : Pl 0 (.str i) := ⟨rfl, (by simpa [toP, PyData.canLay0] using h), Nat.le_refl _, by simp [toP, PyData.eqv]⟩
theorem pl_non : Pl 0 .non := ⟨rfl, rfl, Nat.le_refl _, by simp [toP, PyData.eqv]⟩
theorem pl_all {k : Nat} : ∀ {ds : List D}, (∀ d ∈ ds, Pl k d) → noObjs ds = true ∧ PyData.canLayAll0 (toPs ds) = true ∧ PyData.depthAll (toPs ds) ≤ k ∧ PyData.eqvAll (toPs ds) (toPs ds) = true
  | [], _ => ⟨by simp [noObjs], by simp [toPs, PyData.canLayAll0], by simp [toPs, PyData.depthAll], by simp [toPs, PyData.eqvAll]⟩
  | d :: ds, h => by
    obtain ⟨a, b, c, e⟩ := pl_all fun x hx => h x (List.mem_cons_of_mem _ hx)
    obtain ⟨a1, b1, c1, e1⟩ := h d (by simp)
    refine ⟨by simp [noObjs, a, a1], by simp [toPs, PyData.canLayAll0, b, b1], ?_, by simp [toPs, PyData.eqvAll, e, e1]⟩
    simp only [toPs, PyData.depthAll]
    omega
theorem pl_lst {k : Nat} {ds : List D} (h : ∀ d ∈ ds, Pl k d) : Pl (k + 1) (.lst ds) := by
  obtain ⟨a, b, c, e⟩ := pl_all h
  exact ⟨by simpa [noObj] using a, by simpa [toP, PyData.canLay0] using b, by simp only [toP, PyData.depth]; omega, by simpa [toP, PyData.eqv] using e⟩
theorem pl_tup {k : Nat} {ds : List D} (h : ∀ d ∈ ds, Pl k d) : Pl (k + 1) (.tup ds) := by
  obtain ⟨a, b, c, e⟩ := pl_all h
  exact ⟨by simpa [noObj] using a, by simpa [toP, PyData.canLay0] using b, by simp only [toP, PyData.depth]; omega, by simpa [toP, PyData.eqv] using e⟩
theorem pl_all2 {k : Nat} {d : D} {ds : List D} (h : Pl k d) (hs : ∀ x ∈ ds, Pl k x) : ∀ x ∈ d :: ds, Pl k x := fun x hx => by
  rcases List.mem_cons.mp hx with rfl | hx
  · exact h
  · exact hs x hx
theorem pl_all0 {k : Nat} : ∀ x ∈ ([] : List D), Pl k x := fun _ h => nomatch h
theorem pl_map {α : Type} {k : Nat} {f : α → D} {l : List α} (h : ∀ a, Pl k (f a)) : ∀ x ∈ l.map f, Pl k x := fun x hx => by
  obtain ⟨a, _, rfl⟩ := List.mem_map.mp hx
  exact h a
theorem pl_P (a : Int × Int) : Pl 1 (P a) := pl_tup (pl_all2 (pl_int _) (pl_all2 (pl_int _) pl_all0))
theorem pl_lP (l : List (Int × Int)) : Pl 2 (.lst (l.map P)) := pl_lst (pl_map pl_P)
theorem Pl.shp {k : Nat} {d : D} (h : Pl k d) (hk : k ≤ 61) : shp d = true := by
  unfold PD.shp SeqAt.shaped
  rw [h.no, h.lay, decide_eq_true (by have := h.dep; omega)]
  rfl
theorem Pl.eq {k : Nat} {d : D} (h : Pl k d) (hk : k ≤ 61) : dEq d d = some (.bl true) := by
  unfold dEq
  rw [h.shp hk, h.eqv]
  rfl
theorem Pl.ne {k : Nat} {d : D} (h : Pl k d) (hk : k ≤ 61) : dNe d d = some (.bl false) := by
  unfold dNe
  rw [h.shp hk, h.eqv]
  rfl
end PM
namespace PM
open PySem L2 PD

/-! part_text(a): slots 0:a -/
def part_textB : En → Option Out := (sRet (e2 dCat (e2 dCat (eCB cStr (aCons (e2 dIx (eV 0) (eC (.int 0))) aNil)) (eC (.str "/"))) (eCB cStr (aCons (e2 dIx (eV 0) (eC (.int 1))) aNil))))
def part_textF : List D → Option D := fnOut 1 1 part_textB
/-! number_read(word): slots 0:word 1:sign -/
def number_readB : En → Option Out := (sSeq (sIf (fOr (tB2 (e2 dEq (eV 0) (eC (.str "")))) (fAnd (tB2 (e2 dGt (eCB cLen (aCons (eV 0) aNil)) (eC (.int 1)))) (tB2 (e2 dEq (e2 dIx (eV 0) (eC (.int 0))) (eC (.str "0")))))) (sRet (eC .non)) sNil)
  (sSeq (sFor [] (iS (eV 0)) (.nm 1) (sIf (tB2 (e2 dNin (eV 1) (eC (.str "0123456789")))) (sRet (eC .non)) sNil))
  (sRet (eCB cIntS (aCons (eV 0) aNil)))))
def number_readF : List D → Option D := fnOut 1 2 number_readB
/-! part_within(text, most): slots 0:text 1:most 2:words 3:figures 4:top 5:bottom -/
def part_within_s2 : En → Option Out := (sIf (tB2 (e2 dNe (eCB cLen (aCons (eV 2) aNil)) (eC (.int 2)))) sNo sNil)
def part_within_s4 : En → Option Out := (sIf (tB2 (e2 dEq (eSlS (eV 3) oNone (oSome (eC (.int 1)))) (eC (.str "-")))) (sAsg [] 3 (eSlS (eV 3) (oSome (eC (.int 1))) oNone)) sNil)
def part_within_s5 : En → Option Out := (sIf (fOr (tB2 (e2 dGt (eCB cLen (aCons (eV 3) aNil)) (eV 1))) (tB2 (e2 dGt (eCB cLen (aCons (e2 dIx (eV 2) (eC (.int 1))) aNil)) (eV 1)))) sNo sNil)
def part_within_s7 : En → Option Out := (sAsg [] 5 (eCB number_readF (aCons (e2 dIx (eV 2) (eC (.int 1))) aNil)))
def part_within_s8 : En → Option Out := (sIf (fOr (tB2 (e1 isNonD (eV 4))) (fOr (tB2 (e1 isNonD (eV 5))) (tB2 (e2 dEq (eV 5) (eC (.int 0)))))) sNo sNil)
def part_within_s9 : En → Option Out := (sIf (tB2 (e2 dNe (e2 dIx (eV 2) (eC (.int 0))) (eV 3))) (sSeq (sIf (tB2 (e2 dEq (eV 4) (eC (.int 0)))) sNo sNil)
  (sAsg [] 4 (e1 dNeg (eV 4)))) sNil)
def part_within_s10 : En → Option Out := (sIf (tB2 (e2 dNe (eCB lowestF (aCons (eV 4) (aCons (eV 5) aNil))) (eTup (aCons (eV 4) (aCons (eV 5) aNil))))) sNo sNil)
def part_withinB : En → Option Out := (sSeq (sAsg [] 2 (eFr (eSplit (eV 0) (eC (.str "/")))))
  (sSeq part_within_s2
  (sSeq (sAsg [] 3 (e2 dIx (eV 2) (eC (.int 0))))
  (sSeq part_within_s4
  (sSeq part_within_s5
  (sSeq (sAsg [] 4 (eCB number_readF (aCons (eV 3) aNil)))
  (sSeq part_within_s7
  (sSeq part_within_s8
  (sSeq part_within_s9
  (sSeq part_within_s10
  (sRet (eTup (aCons (eV 4) (aCons (eV 5) aNil))))))))))))))
def part_withinF : List D → Option D := fnOut 2 6 part_withinB
/-! part_read(text): slots 0:text -/
def part_readB : En → Option Out := (sRet (eCB part_withinF (aCons (eV 0) (aCons (eC (.int 400)) aNil))))
def part_readF : List D → Option D := fnOut 1 1 part_readB
end PM
namespace PM
open PySem L2 PD
/-! ### texts by their signs -/
abbrev SS (l : List Nat) : Str := SX.S l
def Tx (l : List Nat) : Prop := ∀ c ∈ l, c < 0x110000
theorem Tx.ok {l : List Nat} (h : Tx l) : PyData.strOk (SS l) = true := by
  unfold PyData.strOk
  rw [show (SS l).cps = l.toArray from rfl]
  simp only [List.all_toArray]
  exact List.all_eq_true.mpr fun c hc => decide_eq_true (h c hc)
theorem shp_S {l : List Nat} (h : Tx l) : shp (.str (SS l)) = true := (pl_str h.ok).shp (by decide)
theorem dEq_S {a b : List Nat} (ha : Tx a) (hb : Tx b) : dEq (.str (SS a)) (.str (SS b)) = some (.bl (decide (a = b))) := by
  unfold dEq
  rw [shp_S ha, shp_S hb]
  simp only [toP, PyData.eqv, Bool.and_self, if_true, SX.S_beq_eq]
theorem dNe_S {a b : List Nat} (ha : Tx a) (hb : Tx b) : dNe (.str (SS a)) (.str (SS b)) = some (.bl (!decide (a = b))) := by
  unfold dNe
  rw [shp_S ha, shp_S hb]
  simp only [toP, PyData.eqv, Bool.and_self, if_true, SX.S_beq_eq]
theorem dIn_S {a : List Nat} {c : Nat} : dIn (.str ⟨#[c]⟩) (.str (SS a)) = some (.bl (decide (c ∈ a))) := by
  rw [q_in]
  exact congrArg (fun b => some (D.bl b)) (SX.in_one a c)
theorem dNin_S {a : List Nat} {c : Nat} : dNin (.str ⟨#[c]⟩) (.str (SS a)) = some (.bl (!decide (c ∈ a))) := by
  rw [q_nin]
  exact congrArg (fun b => some (D.bl (!b))) (SX.in_one a c)
theorem dCat_S {a b : List Nat} (h : a.length + b.length ≤ 1000000) : dCat (.str (SS a)) (.str (SS b)) = some (.str (SS (a ++ b))) := by
  rw [q_cat, SX.S_len, SX.S_len, if_pos (by unfold okLen; exact decide_eq_true h), SX.S_cat]
/-! ### numbers as texts -/
def zL (z : Int) : List Nat := if z < 0 then 45 :: TL.numL z.natAbs else TL.numL z.natAbs
theorem dig_tx (n : Nat) : Tx (TL.numL n) := fun c hc => by have := TL.numL_digits n c hc; omega
theorem zL_tx (z : Int) : Tx (zL z) := fun c hc => by
  unfold zL at hc
  split at hc
  · rcases List.mem_cons.mp hc with rfl | hc
    · decide
    · exact dig_tx _ c hc
  · exact dig_tx _ c hc
theorem str_z (z : Int) : Str.ofString (toString z) = SS (zL z) := by
  unfold zL
  by_cases h : z < 0
  · rw [if_pos h]
    obtain ⟨n, rfl⟩ : ∃ n : Nat, z = Int.negSucc n := ⟨(-z - 1).toNat, by omega⟩
    have e : toString (Int.negSucc n) = "-" ++ toString (n + 1) := rfl
    rw [e, Str.ofString_eq_toList]
    have e2 := SX.num_S (n + 1)
    rw [show toString ((n + 1 : Nat) : Int) = toString (n + 1) from rfl, Str.ofString_eq_toList] at e2
    have e3 : ((toString (n + 1)).toList.map Char.toNat) = TL.numL (n + 1) := by
      have := congrArg (fun x : Str => x.cps.toList) e2
      simpa using this
    show Str.mk _ = Str.mk _
    congr 1
    rw [String.toList_append, List.map_append, e3]
    rfl
  · rw [if_neg h]
    obtain ⟨n, rfl⟩ : ∃ n : Nat, z = (n : Int) := ⟨z.toNat, by omega⟩
    exact SX.num_S n
theorem zL_len {z : Int} {k : Nat} (hk : 0 < k) (h : z.natAbs < 10 ^ k) : (zL z).length ≤ k + 1 := by
  have := TL.numL_len hk h
  unfold zL
  split
  · simp only [List.length_cons]; omega
  · omega
theorem zL_free (z : Int) : 47 ∉ zL z := by
  unfold zL
  split
  · simp only [List.mem_cons, not_or]
    exact ⟨by decide, TL.numL_free (by omega)⟩
  · exact TL.numL_free (by omega)
theorem numL_head : ∀ n : Nat, 1 ≤ n → ∀ c, (TL.numL n).head? = some c → c ≠ 48 := by
  intro n
  induction n using Nat.strongRecOn with
  | _ n ih =>
    intro h c hc
    by_cases h10 : n < 10
    · rw [TL.numL_lt h10] at hc
      cases hc
      omega
    · rw [TL.numL_step (by omega)] at hc
      refine ih (n / 10) (by omega) (by omega) c ?_
      cases e : TL.numL (n / 10) with
      | nil => exact absurd e (TL.numL_ne _)
      | cons x r => rw [e] at hc; simpa using hc
/-! ### a part's text -/
def partL (a : Int × Int) : List Nat := zL a.1 ++ 47 :: zL a.2
theorem part_text_eq {n : Nat} {a : Int × Int} (h : Pt n a) (hn : n ≤ 1900) : part_textF [P a] = some (.str (SS (partL a))) := by
  have lg : ∀ z : Int, z.natAbs < 2 ^ n → z.natAbs.log2 < 1920 := by
    intro z hz
    by_cases h0 : z.natAbs = 0
    · rw [h0]; decide
    · have := (Nat.log2_lt h0).mpr hz; omega
  have big : ∀ z : Int, z.natAbs < 2 ^ n → (zL z).length ≤ 2000 := by
    intro z hz
    refine Nat.le_trans (zL_len (k := 1900) (by decide) ?_) (by decide)
    exact Nat.lt_of_lt_of_le hz (Nat.le_trans (Nat.pow_le_pow_right (by decide) hn) (Nat.pow_le_pow_left (by decide) _))
  have l1 := lg _ h.top
  have l2 := lg _ h.bot
  have b1 := big _ h.top
  have b2 := big _ h.bot
  have s1 : cStr [.int a.1] = some (.str (SS (zL a.1))) := by rw [q_str, if_pos l1, str_z]
  have s2 : cStr [.int a.2] = some (.str (SS (zL a.2))) := by rw [q_str, if_pos l2, str_z]
  have sl : (("/" : Str)) = SS [47] := by decide +kernel
  have c1 := dCat_S (a := zL a.1) (b := [47]) (by simp; omega)
  have c2 := dCat_S (a := zL a.1 ++ [47]) (b := zL a.2) (by simp; omega)
  unfold part_textF part_textB
  walk_at "op"
  rw [sl]
  unfold P
  rw [x_ret, x_2, x_2, x_cb, x_cons, x_2, x_cb, x_cons, x_2]
  walk_at "evs"
  unfold partL
  rw [List.append_assoc]
  rfl
/-- number_read of the figures of n -/
theorem number_read_eq {n : Nat} (h : (TL.numL n).length ≤ 640) : number_readF [.str (SS (TL.numL n))] = some (.int n) := by
  have e0 : (("" : Str)) = SS [] := by decide +kernel
  have e1' : (("0" : Str)) = SS [48] := by decide +kernel
  have e2' : (("0123456789" : Str)) = SS [48, 49, 50, 51, 52, 53, 54, 55, 56, 57] := by decide +kernel
  have d0 := dEq_S (a := TL.numL n) (b := []) (dig_tx n) (fun _ h => nomatch h)
  rw [decide_eq_false (TL.numL_ne n)] at d0
  have l0 : (SS (TL.numL n)).length = (TL.numL n).length := SX.S_len _
  have ok : (TL.numL n).length ≤ 1000000 := by omega
  have cl : (SS (TL.numL n)).cps.toList = TL.numL n := rfl
  -- no nought ahead
  have hz : fAnd (tB2 (e2 dGt (eCB cLen (aCons (eV 0) aNil)) (eC (.int 1)))) (tB2 (e2 dEq (e2 dIx (eV 0) (eC (.int 0))) (eC (.str (SS [48]))))) [some (.str (SS (TL.numL n))), none] = some false := by
    by_cases c1 : (1 : Int) < ((TL.numL n).length : Int)
    · obtain ⟨c, r, e⟩ : ∃ c r, TL.numL n = c :: r := by
        cases e : TL.numL n with
        | nil => exact absurd e (TL.numL_ne n)
        | cons c r => exact ⟨c, r, rfl⟩
      have n1 : 1 ≤ n := by
        rcases Nat.eq_zero_or_pos n with rfl | h
        · rw [TL.numL_lt (by decide)] at c1; exact absurd c1 (by decide)
        · exact h
      have c48 := numL_head n n1 c (by rw [e]; rfl)
      have hc : c < 0x110000 := dig_tx n c (by rw [e]; simp)
      have d1 := dEq_S (a := [c]) (b := [48]) (fun x hx => by cases hx with | head => exact hc | tail _ h => cases h) (fun x hx => by cases hx with | head => decide | tail _ h => cases h)
      rw [decide_eq_false (fun e => c48 (List.cons.inj e).1)] at d1
      replace d1 : dEq (.str ⟨#[c]⟩) (.str (SS [48])) = some (.bl false) := d1
      have i0 : dIx (.str (SS (TL.numL n))) (.int 0) = some (.str ⟨#[c]⟩) := by
        rw [q_ix3, l0, if_pos (by unfold okLen; exact decide_eq_true ok), cl, e, q_at0]
        rfl
      clear e
      walk_at "evs"
    · walk_at "evs"
  obtain ⟨ρ', e, v, rfl⟩ := loop_all (t := .nm 1) (F := sIf (tB2 (e2 dNin (eV 1) (eC (.str (SS [48, 49, 50, 51, 52, 53, 54, 55, 56, 57]))))) (sRet (eC .non)) sNil) (fun ρ => ∃ v, ρ = [some (.str (SS (TL.numL n))), v]) ((TL.numL n).map fun c => D.str ⟨#[c]⟩) [some (.str (SS (TL.numL n))), none] ⟨none, rfl⟩ fun d hd ρ hρ => by
    obtain ⟨v, rfl⟩ := hρ
    obtain ⟨c, hc, rfl⟩ := List.mem_map.mp hd
    have dg := TL.numL_digits n c hc
    have d1 := @dNin_S [48, 49, 50, 51, 52, 53, 54, 55, 56, 57] c
    rw [decide_eq_true (by simp only [List.mem_cons]; omega)] at d1
    refine ⟨_, _, rfl, Or.inl (?_ : _ = some (Out.nx [some (.str (SS (TL.numL n))), some (.str ⟨#[c]⟩)])), _, rfl⟩
    walk_at "evs"
  have i1 : cIntS [.str (SS (TL.numL n))] = some (.int n) := by
    rw [q_intS, l0, if_pos h, SX.int_S (List.all_eq_true.mpr fun c hc => by have := TL.numL_digits n c hc; simp; omega) (TL.numL_ne n) (by omega), TL.numL_val]
    rfl
  have d0' : tB2 (e2 dEq (eV 0) (eC (.str (SS [])))) [some (.str (SS (TL.numL n))), none] = some false := by walk_at "evs"
  unfold number_readF number_readB
  walk_at "op"
  rw [e0, e1', e2', x_seq, x_if, x_or, d0']
  simp only [q_or1, q_or2, hz]
  walk_at "ev"
  rw [e]
  walk_at "evs"
theorem cut_S1 {a : List Nat} : cutS (SS a) none (some 1) = SS (a.take 1) := by rw [C8.cutS_slice]; exact SX.slice_to (by decide)
theorem cut_S2 {a : List Nat} : cutS (SS a) (some 1) none = SS (a.drop 1) := by rw [C8.cutS_slice]; exact SX.slice_from (by decide)
theorem zL_pos {z : Int} (h : 0 ≤ z) : zL z = TL.numL z.natAbs := by unfold zL; rw [if_neg (by omega)]
theorem zL_neg {z : Int} (h : z < 0) : zL z = 45 :: TL.numL z.natAbs := by unfold zL; rw [if_pos h]
theorem part_split {a : Int × Int} : Txt.split (SS (partL a)) (SS [47]) = [SS (zL a.1), SS (zL a.2)] := by
  have e : partL a = TL.joinL [47] [zL a.1, zL a.2] := rfl
  rw [SX.split_S (by decide) (by decide), e, SX.spl_join (by simp) (fun p hp => by
    rcases List.mem_cons.mp hp with rfl | hp
    · exact zL_free _
    · rcases List.mem_cons.mp hp with rfl | hp
      · exact zL_free _
      · cases hp)]
  rfl
theorem seq_assoc (A B C : En → Option Out) : sSeq (sSeq A B) C = sSeq A (sSeq B C) := by
  funext ρ
  rw [x_seq, x_seq, x_seq]
  cases A ρ with
  | none => rfl
  | some o => cases o <;> first | rfl | (rw [q_seq1, q_seq1, x_seq])
/-- the end of it: top and bottom known -/
theorem part_within_eq {n : Nat} {a : Int × Int} (h : Pt n a) (hn : n ≤ 8000) {most : Int} (h1 : ((TL.numL a.1.natAbs).length : Int) ≤ most) (h2 : ((TL.numL a.2.natAbs).length : Int) ≤ most) (hm : most ≤ 600) : part_withinF [.str (SS (partL a)), .int most] = some (P a) := by
  have es : (("/" : Str)) = SS [47] := by decide +kernel
  have em : (("-" : Str)) = SS [45] := by decide +kernel
  have lz : ∀ z : Int, (zL z).length ≤ (TL.numL z.natAbs).length + 1 := by
    intro z; unfold zL; split <;> simp
  have g1 := lz a.1
  have g2 := lz a.2
  have lp : (SS (partL a)).length = (partL a).length := SX.S_len _
  have lq : (partL a).length = (zL a.1).length + (zL a.2).length + 1 := by unfold partL; simp; omega
  have ok : (partL a).length ≤ 999998 := by omega
  have sp : eSplit (eV 0) (eC (.str (SS [47]))) [some (.str (SS (partL a))), some (.int most), none, none, none, none] = some [.str (SS (zL a.1)), .str (SS (zL a.2))] := by
    rw [x_split]
    walk_at "ev"
    rw [part_split]
    have l47 : ((SS [47]).length == 0) = false := rfl
    rw [l47, lp, decide_eq_true ok]
    rfl
  have ln : ∀ m : Nat, (SS (TL.numL m)).length = (TL.numL m).length := fun m => SX.S_len _
  have zb : zL a.2 = TL.numL a.2.natAbs := zL_pos (Int.le_of_lt h.pos)
  have nb := number_read_eq (n := a.2.natAbs) (by omega)
  have nt := number_read_eq (n := a.1.natAbs) (by omega)
  have bn : (a.2.natAbs : Int) = a.2 := by have := h.pos; omega
  rw [bn] at nb
  have lo := lowest_eq (t := a.1) h.pos (pow_mono h.bot (by omega))
  rw [low_self h.one] at lo
  have pe := @dNe_P a a
  rw [decide_eq_true rfl] at pe
  have b0 : ¬ a.2 = 0 := by have := h.pos; omega
  have m1 : ¬ (most < ((TL.numL a.1.natAbs).length : Int)) := by omega
  have m2 : ¬ (most < ((TL.numL a.2.natAbs).length : Int)) := by omega
  have okA : (TL.numL a.1.natAbs).length ≤ 1000000 := by omega
  have okA1 : (TL.numL a.1.natAbs).length + 1 ≤ 1000000 := by omega
  have okB : (TL.numL a.2.natAbs).length ≤ 1000000 := by omega
  have okz : (SS (zL a.1)).length ≤ 1000000 := by rw [SX.S_len]; omega
  have t1 : sAsg [] 2 (eFr (eSplit (eV 0) (eC (.str (SS [47]))))) [some (.str (SS (partL a))), some (.int most), none, none, none, none] = some (.nx [some (.str (SS (partL a))), some (.int most), some (.lst [.str (SS (zL a.1)), .str (SS (zL a.2))]), none, none, none]) := by
    rw [x_asg, q_mask1, x_fr, sp]
    rfl
  have fin : ∀ r0 r1 : Option D, (sSeq part_within_s10 (sRet (eTup (aCons (eV 4) (aCons (eV 5) aNil))))) [r0, some (.int most), r1, some (.str (SS (TL.numL a.1.natAbs))), some (.int a.1), some (.int a.2)] = some (.rt (P a)) := by
    intro r0 r1
    unfold part_within_s10
    unfold P at *
    walk_at "evs"
  have mid : ∀ r0 : Option D, ∀ p : List Nat, ∀ neg : Bool, p = (if neg then 45 :: TL.numL a.1.natAbs else TL.numL a.1.natAbs) → a.1 = (if neg then -(a.1.natAbs : Int) else a.1.natAbs) → (neg = true → a.1 ≠ 0) →
      (sSeq part_within_s5 (sSeq (sAsg [] 4 (eCB number_readF (aCons (eV 3) aNil))) (sSeq part_within_s7 (sSeq part_within_s8 part_within_s9)))) [r0, some (.int most), some (.lst [.str (SS p), .str (SS (TL.numL a.2.natAbs))]), some (.str (SS (TL.numL a.1.natAbs))), none, none] = some (.nx [r0, some (.int most), some (.lst [.str (SS p), .str (SS (TL.numL a.2.natAbs))]), some (.str (SS (TL.numL a.1.natAbs))), some (.int a.1), some (.int a.2)]) := by
    intro r0 p
    have l1 := ln a.1.natAbs
    have l2 := ln a.2.natAbs
    have s5 : part_within_s5 [r0, some (.int most), some (.lst [.str (SS p), .str (SS (TL.numL a.2.natAbs))]), some (.str (SS (TL.numL a.1.natAbs))), none, none] = some (.nx [r0, some (.int most), some (.lst [.str (SS p), .str (SS (TL.numL a.2.natAbs))]), some (.str (SS (TL.numL a.1.natAbs))), none, none]) := by
      unfold part_within_s5
      walk_at "pv"
    have s6 : (sAsg [] 4 (eCB number_readF (aCons (eV 3) aNil))) [r0, some (.int most), some (.lst [.str (SS p), .str (SS (TL.numL a.2.natAbs))]), some (.str (SS (TL.numL a.1.natAbs))), none, none] = some (.nx [r0, some (.int most), some (.lst [.str (SS p), .str (SS (TL.numL a.2.natAbs))]), some (.str (SS (TL.numL a.1.natAbs))), some (.int a.1.natAbs), none]) := by
      walk_at "pv"
    have s7 : part_within_s7 [r0, some (.int most), some (.lst [.str (SS p), .str (SS (TL.numL a.2.natAbs))]), some (.str (SS (TL.numL a.1.natAbs))), some (.int a.1.natAbs), none] = some (.nx [r0, some (.int most), some (.lst [.str (SS p), .str (SS (TL.numL a.2.natAbs))]), some (.str (SS (TL.numL a.1.natAbs))), some (.int a.1.natAbs), some (.int a.2)]) := by
      unfold part_within_s7
      walk_at "pv"
    have s8 : part_within_s8 [r0, some (.int most), some (.lst [.str (SS p), .str (SS (TL.numL a.2.natAbs))]), some (.str (SS (TL.numL a.1.natAbs))), some (.int a.1.natAbs), some (.int a.2)] = some (.nx [r0, some (.int most), some (.lst [.str (SS p), .str (SS (TL.numL a.2.natAbs))]), some (.str (SS (TL.numL a.1.natAbs))), some (.int a.1.natAbs), some (.int a.2)]) := by
      unfold part_within_s8
      walk_at "pv"
    intro neg hp ha h0
    rw [seq_nx s5 (seq_nx s6 (seq_nx s7 (seq_nx s8 rfl)))]
    unfold part_within_s9
    cases neg with
    | false =>
      rw [if_neg (by decide)] at hp ha
      subst hp
      have d := dNe_S (dig_tx a.1.natAbs) (dig_tx a.1.natAbs)
      rw [decide_eq_true rfl] at d
      have ha' := ha.symm
      clear ha sp t1 fin s5 s6 s7 s8
      walk_at "pv"
    | true =>
      rw [if_pos rfl] at hp ha
      subst hp
      have d := dNe_S (a := 45 :: TL.numL a.1.natAbs) (b := TL.numL a.1.natAbs) (fun c hc => by
        rcases List.mem_cons.mp hc with rfl | hc
        · decide
        · exact dig_tx _ c hc) (dig_tx a.1.natAbs)
      rw [decide_eq_false (fun e => by have := congrArg List.length e; simp at this)] at d
      have z : ¬ ((a.1.natAbs : Int) = 0) := by have := h0 rfl; omega
      have ha' : -(a.1.natAbs : Int) = a.1 := ha.symm
      clear ha sp t1 fin s5 s6 s7 s8 h0
      walk_at "pv"
  have s4 : part_within_s4 [some (.str (SS (partL a))), some (.int most), some (.lst [.str (SS (zL a.1)), .str (SS (zL a.2))]), some (.str (SS (zL a.1))), none, none] = some (.nx [some (.str (SS (partL a))), some (.int most), some (.lst [.str (SS (zL a.1)), .str (SS (zL a.2))]), some (.str (SS (TL.numL a.1.natAbs))), none, none]) := by
    have c1 := @cut_S1 (zL a.1)
    have c2 := @cut_S2 (zL a.1)
    unfold part_within_s4
    by_cases hneg : a.1 < 0
    · have e := zL_neg hneg
      rw [e] at c1 c2
      have d := dEq_S (a := [45]) (b := [45]) (fun c hc => by cases hc with | head => decide | tail _ h => cases h) (fun c hc => by cases hc with | head => decide | tail _ h => cases h)
      rw [decide_eq_true rfl] at d
      replace c1 : cutS (SS (45 :: TL.numL a.1.natAbs)) none (some 1) = SS [45] := c1
      replace c2 : cutS (SS (45 :: TL.numL a.1.natAbs)) (some 1) none = SS (TL.numL a.1.natAbs) := c2
      rw [e] at okz ⊢
      rw [em]
      clear sp t1 mid fin
      walk_at "pv"
    · have e := zL_pos (z := a.1) (by omega)
      rw [e] at c1
      obtain ⟨c, r, ec⟩ : ∃ c r, TL.numL a.1.natAbs = c :: r := by
        cases e : TL.numL a.1.natAbs with
        | nil => exact absurd e (TL.numL_ne _)
        | cons c r => exact ⟨c, r, rfl⟩
      have hc := TL.numL_digits a.1.natAbs c (by rw [ec]; simp)
      have d := dEq_S (a := [c]) (b := [45]) (fun c hc => by cases hc with | head => omega | tail _ h => cases h) (fun c hc => by cases hc with | head => decide | tail _ h => cases h)
      rw [decide_eq_false (fun e => by have := (List.cons.inj e).1; omega)] at d
      have c1' : cutS (SS (TL.numL a.1.natAbs)) none (some 1) = SS [c] := by rw [c1, ec]; rfl
      rw [e] at okz ⊢
      rw [em]
      clear sp t1 mid fin ec c1 c2
      walk_at "pv"
  have t2 : part_within_s2 [some (.str (SS (partL a))), some (.int most), some (.lst [.str (SS (zL a.1)), .str (SS (zL a.2))]), none, none, none] = some (.nx [some (.str (SS (partL a))), some (.int most), some (.lst [.str (SS (zL a.1)), .str (SS (zL a.2))]), none, none, none]) := by
    unfold part_within_s2
    walk_at "pv"
  have t3 : sAsg [] 3 (e2 dIx (eV 2) (eC (.int 0))) [some (.str (SS (partL a))), some (.int most), some (.lst [.str (SS (zL a.1)), .str (SS (zL a.2))]), none, none, none] = some (.nx [some (.str (SS (partL a))), some (.int most), some (.lst [.str (SS (zL a.1)), .str (SS (zL a.2))]), some (.str (SS (zL a.1))), none, none]) := by
    walk_at "pv"
  have m := mid (some (.str (SS (partL a)))) (zL a.1) (decide (a.1 < 0)) (by unfold zL; by_cases c : a.1 < 0 <;> simp [c]) (by by_cases c : a.1 < 0 <;> simp [c] <;> omega) (fun e => by have := of_decide_eq_true e; omega)
  rw [← zb] at m
  unfold part_withinF part_withinB
  walk_at "op"
  rw [es, seq_nx t1 (seq_nx t2 (seq_nx t3 (seq_nx s4 rfl)))]
  simp only [← seq_assoc] at m fin ⊢
  rw [zb] at m ⊢
  rw [x_seq]
  have f := fin (some (.str (SS (partL a)))) (some (.lst [.str (SS (zL a.1)), .str (SS (TL.numL a.2.natAbs))]))
  have key : ∀ (A B C : En → Option Out) (ρ ρ' : En) (o : Option Out), A ρ = some (.nx ρ') → sSeq B C ρ' = o → sSeq (sSeq A B) C ρ = o := fun A B C ρ ρ' o h k => by rw [seq_assoc]; exact seq_nx h k
  rw [← x_seq, key _ _ _ _ _ _ m f]
  rfl
theorem part_read_eq {n : Nat} {a : Int × Int} (h : Pt n a) (hn : n ≤ 1300) : part_readF [.str (SS (partL a))] = some (P a) := by
  have d : ∀ z : Int, z.natAbs < 2 ^ n → ((TL.numL z.natAbs).length : Int) ≤ 400 := by
    intro z hz
    have := TL.numL_len (n := z.natAbs) (k := 400) (by decide) (Nat.lt_of_lt_of_le hz (Nat.le_trans (Nat.pow_le_pow_right (by decide) hn) (by decide +kernel)))
    omega
  have e := part_within_eq h (by omega) (d _ h.top) (d _ h.bot) (by decide)
  unfold part_readF part_readB
  walk_at "op"
  walk_at "evs"
end PM
open PD PO in
local macro_rules | `(tactic| walk_at "te") => `(tactic| simp (config := { decide := false, failIfUnchanged := false }) only [x_split, x_iS, q_split, q_iS, q_cat, q_in, q_nin, q_str, q_intS, q_ix3, x_aug, x_tg, x_tgI, x_tru, x_extI, x_popApp, x_setAug, q_aug, q_tgN, q_tgp2, q_tgp3, q_stp1, q_stp2, q_stp3, q_stp4, q_tgI, q_tru, q_truL, q_truI, q_truB, q_truN, q_extI, q_pop1, q_pop2, q_sa3, q_sa4, q_sa5, q_isN1, q_notN1, q_isN2, q_notN2, q_isN3, q_notN3, q_isN4, q_notN4, q_wIf1, q_wIf2, q_wNext1, q_wNext2, q_wNext3, q_wNext4, q_wNext5, x_seq, x_if, x_2, x_1, x_cons, x_tup, x_lst, x_fr, x_cb, x_cf, x_tb, x_and, x_or, x_not, x_andE, x_orE, x_ifE, x_asg, x_asgI, x_asgO, x_asgOI, x_ret, x_retF, x_retO, x_par, x_app, x_appI, x_setI, x_for, x_comp, x_oS, x_sl, x_slS, x_iL, x_iT, x_iR1, x_iR2, x_iZ, x_iE, x_chain, x_getD0,
  q_seq1, q_seq2, q_seq3, q_seq4, q_seq5, q_if1, q_if2, q_bin, q_un, q_cons, q_tup, q_lst, q_fr, q_cb, q_cf, q_bl, q_and1, q_and2, q_or1, q_or2, q_not, q_andE1, q_andE2, q_orE1, q_orE2, q_ifE1, q_ifE2, q_asg, q_asgI, q_asgO, q_asgOI, q_ret, q_retF, q_retO, q_par, q_app, q_appI, q_set1, q_set2, q_for, q_next0, q_next1, q_next2, q_next3, q_next4, q_turn, q_comp, q_o, q_sl, q_slS, q_iL, q_iT, q_iR1, q_iR2, q_iZ, q_iE, q_ch1, q_ch2, q_dAdd, q_dSub, q_dMul, q_dDiv, q_dMod, q_dPow, q_dLt, q_dLe, q_dGt, q_dGe, q_neg, q_eNot, q_abs, q_len1, q_len2, q_len3, q_int1, q_int2, q_list1, q_list2, q_min, q_max, q_isi_non_int, q_isi_non_bool, q_isi_non_str, q_isi_non_tuple, q_isi_non_list, q_isi_non_dict, q_isi_bl_int, q_isi_bl_bool, q_isi_bl_str, q_isi_bl_tuple, q_isi_bl_list, q_isi_bl_dict, q_isi_int_int, q_isi_int_bool, q_isi_int_str, q_isi_int_tuple, q_isi_int_list, q_isi_int_dict, q_isi_str_int, q_isi_str_bool, q_isi_str_str, q_isi_str_tuple, q_isi_str_list, q_isi_str_dict, q_isi_tup_int, q_isi_tup_bool, q_isi_tup_str, q_isi_tup_tuple, q_isi_tup_list, q_isi_tup_dict, q_isi_lst_int, q_isi_lst_bool, q_isi_lst_str, q_isi_lst_tuple, q_isi_lst_list, q_isi_lst_dict, q_isi_dic_int, q_isi_dic_bool, q_isi_dic_str, q_isi_dic_tuple, q_isi_dic_list, q_isi_dic_dict, q_outD1, q_outD2, q_outD3, q_outF, q_st, q_sa1, q_sa2, q_mask1, q_mask2, q_nil, q_brk, q_cont, q_retN, q_eC, q_eV, q_aNil, q_tT, q_oN, q_ix1, q_ix2, q_at0, q_at1, q_at2, q_at3, q_at4, q_at5, q_imm1, q_imm2, q_imm3, q_imm4, q_imm5, q_imms1, q_imms2, q_set0, q_setS, q_set_1, q_get_1, q_set_2, q_get_2, q_set_3, q_get_3, q_set_4, q_get_4, q_set_5, q_get_5, q_set_6, q_get_6, q_set_7, q_get_7, q_set_8, q_get_8, q_set_9, q_get_9, q_set_10, q_get_10, q_set_11, q_get_11, q_set_12, q_get_12, q_set_13, q_get_13, q_set_14, q_get_14, q_set_15, q_get_15,
  okLen, Int.reduceEq, Int.reduceAdd, Int.reduceSub, Int.reduceMul, Int.reduceNeg, Int.cast_ofNat_Int, List.length_cons, List.length_nil, List.length_map, List.map_cons, List.map_nil, Nat.reduceAdd, Nat.reduceLeDiff, Nat.reduceSub, Nat.reduceEqDiff, Int.reduceLT, Int.reduceLE, Int.reduceToNat, decide_true, decide_false, ite_true, ite_false, if_true, if_false, Bool.and_true, Bool.true_and, Bool.and_self, Bool.not_true, Bool.not_false, reduceCtorEq, Bool.false_eq_true, ↓reduceIte,
  z_seq, z_if, z_asg, z_ex, z_ret, z_for, z_forR, z_loop0, z_loop, z_while, z_p, z_fr, z_im, z_ls, z_lsI, z_psc, z_tup, z_lst, z_at, z_node, z_xcons, z_xtup, z_xlst, z_xix, z_fz, z_aE, z_aB, z_a0, z_l0, z_lT, z_lBo, z_call, z_make, z_meth, z_methP, z_bm, z_set, z_put, z_fld, z_fzAt, z_gh, z_xgh, z_nIx, z_nKey, z_nFld, z_comp, z_cpL, z_catN, z_dicF, z_dicI, z_forN, z_augL, z_augK, z_augF, z_aug, o_seq1, o_seq2, o_seq3, o_seq4, o_seq5, o_if1, o_if2, o_nx, o_asg1, o_asg2, o_stn, o_st1, o_st2, o_st3, o_st4, o_stt2, o_ex1, o_ex2, o_ret1, o_ret2, o_nil, o_brk, o_cont, o_retN, o_raise, o_for, o_turn, o_next1, o_next2, o_next3, o_next4, o_next5, o_wIf1, o_wIf2, o_wN1, o_wN2, o_wN3, o_wN4, o_wN5, o_p, o_fr, o_im, o_ls, o_lsI, o_psn, o_psc, o_tup, o_lst, o_at, o_mk1, o_mk2, o_mk3, o_mk4, o_mk5, o_mk0, o_mkn1, o_mkn2, o_mkn3, o_nAt, o_node, o_sub0, o_sub1, o_subo, o_put0, o_put1, o_puto, o_setAt, o_nV, o_nv1, o_nv2, o_dF, o_dD, o_dN, o_nd1, o_nd2, o_nd3, o_nd4, o_nd5, o_ds0, o_dsc, o_dsC1, o_dsC2, o_dsC3, o_dsm, o_dsm2, o_fom, o_fo0, o_app, o_app2, o_setm, o_fzF, o_fzD, o_fzN, o_ful0, o_ful1, o_frz0, o_frz1, o_mv1, o_mv2, o_mv3, o_xn, o_xc1, o_xc2, o_xt, o_xl, o_ix1, o_ix2, o_ix3, o_ixO, o_xfz1, o_xfz2, o_fzO, o_acE, o_acB, o_ldT, o_ldB1, o_ldB2, o_cX, o_cY, o_cZ1, o_cZ2, o_mX, o_mY, o_mZ1, o_mZ2, o_bk0, o_bkB, o_bkT, o_meth, o_methP, o_bX, o_bY, o_bZ, o_efApp, o_efClr, o_efExt, o_efIns, o_efPop, o_efPopAt, o_popO, o_sO1, o_sX, o_sY, o_sZ, o_pO1, o_pO2, o_pX, o_pY, o_pZ, o_ky1, o_ky2, o_fO1, o_fO2, o_fX, o_fY, o_gX, o_gY, o_gZ, o_xgh, o_iX, o_iY1, o_iY2, o_iZ, o_kX, o_kY, o_kZ, o_lX, o_lY, o_cmp, o_cmpZ, o_cpY, o_cpX, o_ctY, o_ctX, o_dic0, o_df, o_di, o_fnX, o_agZ, o_agLX, o_agL, o_agKX, o_agK, o_agKk, o_agKj, o_agFX, o_agF, o_agFj, o_agV, o_fn1, o_fn2, o_fn3, o_fn4, o_fn5, o_outX, o_out1, o_out2, o_out3, o_outs0, o_outs1, o_kp1, o_kp2, o_kp3, o_gOf, o_gOo, o_mask0, x_catF, q_catF, x_mt, x_mtF, q_mt, x_slT, q_slT, q_dGet, q_key1, q_key2, q_gtO, q_inK, q_ninK, q_inKO, q_ninKO, q_dFld, q_lenA1, q_lenA2, q_lenA3, q_cTup1, q_cTup2, q_repS, q_isB, q_notB, z_appV, o_avX, o_avY1, o_avY2, o_avZ, o_mask1,
  o_app, o_app2, List.getElem?_cons_zero, List.getElem?_cons_succ, List.getElem?_nil, List.getD_cons_zero, List.getD_cons_succ, List.set_cons_zero, List.set_cons_succ, List.set_nil, List.length_set, Nat.reduceLT, List.zip_cons_cons, List.zip_nil_left, List.zip_nil_right, List.mem_cons, List.not_mem_nil, Nat.reduceEqDiff, or_true, true_or, or_false, false_or, and_true, true_and, and_self, List.nil_append, List.cons_append, Option.map_some, not_false_eq_true, reduceCtorEq, eq_self, List.map_nil, List.map_cons])
open PD PO in
local macro_rules | `(tactic| walk_at "tes") => `(tactic| simp (config := { decide := false, failIfUnchanged := false }) only [x_split, x_iS, q_split, q_iS, q_cat, q_in, q_nin, q_str, q_intS, q_ix3, x_aug, x_tg, x_tgI, x_tru, x_extI, x_popApp, x_setAug, q_aug, q_tgN, q_tgp2, q_tgp3, q_stp1, q_stp2, q_stp3, q_stp4, q_tgI, q_tru, q_truL, q_truI, q_truB, q_truN, q_extI, q_pop1, q_pop2, q_sa3, q_sa4, q_sa5, q_isN1, q_notN1, q_isN2, q_notN2, q_isN3, q_notN3, q_isN4, q_notN4, q_wIf1, q_wIf2, q_wNext1, q_wNext2, q_wNext3, q_wNext4, q_wNext5, x_seq, x_if, x_2, x_1, x_cons, x_tup, x_lst, x_fr, x_cb, x_cf, x_tb, x_and, x_or, x_not, x_andE, x_orE, x_ifE, x_asg, x_asgI, x_asgO, x_asgOI, x_ret, x_retF, x_retO, x_par, x_app, x_appI, x_setI, x_for, x_comp, x_oS, x_sl, x_slS, x_iL, x_iT, x_iR1, x_iR2, x_iZ, x_iE, x_chain, x_getD0,
  q_seq1, q_seq2, q_seq3, q_seq4, q_seq5, q_if1, q_if2, q_bin, q_un, q_cons, q_tup, q_lst, q_fr, q_cb, q_cf, q_bl, q_and1, q_and2, q_or1, q_or2, q_not, q_andE1, q_andE2, q_orE1, q_orE2, q_ifE1, q_ifE2, q_asg, q_asgI, q_asgO, q_asgOI, q_ret, q_retF, q_retO, q_par, q_app, q_appI, q_set1, q_set2, q_for, q_next0, q_next1, q_next2, q_next3, q_next4, q_turn, q_comp, q_o, q_sl, q_slS, q_iL, q_iT, q_iR1, q_iR2, q_iZ, q_iE, q_ch1, q_ch2, q_dAdd, q_dSub, q_dMul, q_dDiv, q_dMod, q_dPow, q_dLt, q_dLe, q_dGt, q_dGe, q_neg, q_eNot, q_abs, q_len1, q_len2, q_len3, q_int1, q_int2, q_list1, q_list2, q_min, q_max, q_isi_non_int, q_isi_non_bool, q_isi_non_str, q_isi_non_tuple, q_isi_non_list, q_isi_non_dict, q_isi_bl_int, q_isi_bl_bool, q_isi_bl_str, q_isi_bl_tuple, q_isi_bl_list, q_isi_bl_dict, q_isi_int_int, q_isi_int_bool, q_isi_int_str, q_isi_int_tuple, q_isi_int_list, q_isi_int_dict, q_isi_str_int, q_isi_str_bool, q_isi_str_str, q_isi_str_tuple, q_isi_str_list, q_isi_str_dict, q_isi_tup_int, q_isi_tup_bool, q_isi_tup_str, q_isi_tup_tuple, q_isi_tup_list, q_isi_tup_dict, q_isi_lst_int, q_isi_lst_bool, q_isi_lst_str, q_isi_lst_tuple, q_isi_lst_list, q_isi_lst_dict, q_isi_dic_int, q_isi_dic_bool, q_isi_dic_str, q_isi_dic_tuple, q_isi_dic_list, q_isi_dic_dict, q_outD1, q_outD2, q_outD3, q_outF, q_st, q_sa1, q_sa2, q_mask1, q_mask2, q_nil, q_brk, q_cont, q_retN, q_eC, q_eV, q_aNil, q_tT, q_oN, q_ix1, q_ix2, q_at0, q_at1, q_at2, q_at3, q_at4, q_at5, q_imm1, q_imm2, q_imm3, q_imm4, q_imm5, q_imms1, q_imms2, q_set0, q_setS, q_set_1, q_get_1, q_set_2, q_get_2, q_set_3, q_get_3, q_set_4, q_get_4, q_set_5, q_get_5, q_set_6, q_get_6, q_set_7, q_get_7, q_set_8, q_get_8, q_set_9, q_get_9, q_set_10, q_get_10, q_set_11, q_get_11, q_set_12, q_get_12, q_set_13, q_get_13, q_set_14, q_get_14, q_set_15, q_get_15,
  okLen, Int.reduceEq, Int.reduceAdd, Int.reduceSub, Int.reduceMul, Int.reduceNeg, Int.cast_ofNat_Int, List.length_cons, List.length_nil, List.length_map, List.map_cons, List.map_nil, Nat.reduceAdd, Nat.reduceLeDiff, Nat.reduceSub, Nat.reduceEqDiff, Int.reduceLT, Int.reduceLE, Int.reduceToNat, decide_true, decide_false, ite_true, ite_false, if_true, if_false, Bool.and_true, Bool.true_and, Bool.and_self, Bool.not_true, Bool.not_false, reduceCtorEq, Bool.false_eq_true, ↓reduceIte,
  z_seq, z_if, z_asg, z_ex, z_ret, z_for, z_forR, z_loop0, z_loop, z_while, z_p, z_fr, z_im, z_ls, z_lsI, z_psc, z_tup, z_lst, z_at, z_node, z_xcons, z_xtup, z_xlst, z_xix, z_fz, z_aE, z_aB, z_a0, z_l0, z_lT, z_lBo, z_call, z_make, z_meth, z_methP, z_bm, z_set, z_put, z_fld, z_fzAt, z_gh, z_xgh, z_nIx, z_nKey, z_nFld, z_comp, z_cpL, z_catN, z_dicF, z_dicI, z_forN, z_augL, z_augK, z_augF, z_aug, o_seq1, o_seq2, o_seq3, o_seq4, o_seq5, o_if1, o_if2, o_nx, o_asg1, o_asg2, o_stn, o_st1, o_st2, o_st3, o_st4, o_stt2, o_ex1, o_ex2, o_ret1, o_ret2, o_nil, o_brk, o_cont, o_retN, o_raise, o_for, o_turn, o_next1, o_next2, o_next3, o_next4, o_next5, o_wIf1, o_wIf2, o_wN1, o_wN2, o_wN3, o_wN4, o_wN5, o_p, o_fr, o_im, o_ls, o_lsI, o_psn, o_psc, o_tup, o_lst, o_at, o_mk1, o_mk2, o_mk3, o_mk4, o_mk5, o_mk0, o_mkn1, o_mkn2, o_mkn3, o_nAt, o_node, o_sub0, o_sub1, o_subo, o_put0, o_put1, o_puto, o_setAt, o_nV, o_nv1, o_nv2, o_dF, o_dD, o_dN, o_nd1, o_nd2, o_nd3, o_nd4, o_nd5, o_ds0, o_dsc, o_dsC1, o_dsC2, o_dsC3, o_dsm, o_dsm2, o_fom, o_fo0, o_app, o_app2, o_setm, o_fzF, o_fzD, o_fzN, o_ful0, o_ful1, o_frz0, o_frz1, o_mv1, o_mv2, o_mv3, o_xn, o_xc1, o_xc2, o_xt, o_xl, o_ix1, o_ix2, o_ix3, o_ixO, o_xfz1, o_xfz2, o_fzO, o_acE, o_acB, o_ldT, o_ldB1, o_ldB2, o_cX, o_cY, o_cZ1, o_cZ2, o_mX, o_mY, o_mZ1, o_mZ2, o_bk0, o_bkB, o_bkT, o_meth, o_methP, o_bX, o_bY, o_bZ, o_efApp, o_efClr, o_efExt, o_efIns, o_efPop, o_efPopAt, o_popO, o_sO1, o_sX, o_sY, o_sZ, o_pO1, o_pO2, o_pX, o_pY, o_pZ, o_ky1, o_ky2, o_fO1, o_fO2, o_fX, o_fY, o_gX, o_gY, o_gZ, o_xgh, o_iX, o_iY1, o_iY2, o_iZ, o_kX, o_kY, o_kZ, o_lX, o_lY, o_cmp, o_cmpZ, o_cpY, o_cpX, o_ctY, o_ctX, o_dic0, o_df, o_di, o_fnX, o_agZ, o_agLX, o_agL, o_agKX, o_agK, o_agKk, o_agKj, o_agFX, o_agF, o_agFj, o_agV, o_fn1, o_fn2, o_fn3, o_fn4, o_fn5, o_outX, o_out1, o_out2, o_out3, o_outs0, o_outs1, o_kp1, o_kp2, o_kp3, o_gOf, o_gOo, o_mask0, x_catF, q_catF, x_mt, x_mtF, q_mt, x_slT, q_slT, q_dGet, q_key1, q_key2, q_gtO, q_inK, q_ninK, q_inKO, q_ninKO, q_dFld, q_lenA1, q_lenA2, q_lenA3, q_cTup1, q_cTup2, q_repS, q_isB, q_notB, z_appV, o_avX, o_avY1, o_avY2, o_avZ, o_mask1,
  o_app, o_app2, List.getElem?_cons_zero, List.getElem?_cons_succ, List.getElem?_nil, List.getD_cons_zero, List.getD_cons_succ, List.set_cons_zero, List.set_cons_succ, List.set_nil, List.length_set, Nat.reduceLT, List.zip_cons_cons, List.zip_nil_left, List.zip_nil_right, List.mem_cons, List.not_mem_nil, Nat.reduceEqDiff, or_true, true_or, or_false, false_or, and_true, true_and, and_self, List.nil_append, List.cons_append, Option.map_some, not_false_eq_true, reduceCtorEq, eq_self, List.map_nil, List.map_cons, *])
open PD PO in
local macro_rules | `(tactic| walk_at "top") => `(tactic| simp only [o_fn1, o_fn2, o_fn3, o_fn4, o_fn5, startT, fn_1, fn_2, fn_3, fn_4, fn_5, fn_6, fnF_1, fnF_2, fnF_3, fnF_4, fnF_5, fnF_6, startD, List.map_cons, List.map_nil, List.length_cons, List.length_nil, Nat.reduceAdd, Nat.reduceSub, List.reduceReplicate, List.cons_append, List.nil_append, List.append_nil, Nat.sub_self])
open PD PO PM in
local macro_rules | `(tactic| walk_at "tpv") => `(tactic| simp (config := { decide := false, failIfUnchanged := false }) only [x_split, x_iS, q_split, q_iS, q_cat, q_in, q_nin, q_str, q_intS, q_ix3, x_aug, x_tg, x_tgI, x_tru, x_extI, x_popApp, x_setAug, q_aug, q_tgN, q_tgp2, q_tgp3, q_stp1, q_stp2, q_stp3, q_stp4, q_tgI, q_tru, q_truL, q_truI, q_truB, q_truN, q_extI, q_pop1, q_pop2, q_sa3, q_sa4, q_sa5, q_isN1, q_notN1, q_isN2, q_notN2, q_isN3, q_notN3, q_isN4, q_notN4, q_wIf1, q_wIf2, q_wNext1, q_wNext2, q_wNext3, q_wNext4, q_wNext5, x_seq, x_if, x_2, x_1, x_cons, x_tup, x_lst, x_fr, x_cb, x_cf, x_tb, x_and, x_or, x_not, x_andE, x_orE, x_ifE, x_asg, x_asgI, x_asgO, x_asgOI, x_ret, x_retF, x_retO, x_par, x_app, x_appI, x_setI, x_for, x_comp, x_oS, x_sl, x_slS, x_iL, x_iT, x_iR1, x_iR2, x_iZ, x_iE, x_chain, x_getD0,
  q_seq1, q_seq2, q_seq3, q_seq4, q_seq5, q_if1, q_if2, q_bin, q_un, q_cons, q_tup, q_lst, q_fr, q_cb, q_cf, q_bl, q_and1, q_and2, q_or1, q_or2, q_not, q_andE1, q_andE2, q_orE1, q_orE2, q_ifE1, q_ifE2, q_asg, q_asgI, q_asgO, q_asgOI, q_ret, q_retF, q_retO, q_par, q_app, q_appI, q_set1, q_set2, q_for, q_next0, q_next1, q_next2, q_next3, q_next4, q_turn, q_comp, q_o, q_sl, q_slS, q_iL, q_iT, q_iR1, q_iR2, q_iZ, q_iE, q_ch1, q_ch2, q_dAdd, q_dSub, q_dMul, q_dDiv, q_dMod, q_dPow, q_dLt, q_dLe, q_dGt, q_dGe, q_neg, q_eNot, q_abs, q_len1, q_len2, q_len3, q_int1, q_int2, q_list1, q_list2, q_min, q_max, q_isi_non_int, q_isi_non_bool, q_isi_non_str, q_isi_non_tuple, q_isi_non_list, q_isi_non_dict, q_isi_bl_int, q_isi_bl_bool, q_isi_bl_str, q_isi_bl_tuple, q_isi_bl_list, q_isi_bl_dict, q_isi_int_int, q_isi_int_bool, q_isi_int_str, q_isi_int_tuple, q_isi_int_list, q_isi_int_dict, q_isi_str_int, q_isi_str_bool, q_isi_str_str, q_isi_str_tuple, q_isi_str_list, q_isi_str_dict, q_isi_tup_int, q_isi_tup_bool, q_isi_tup_str, q_isi_tup_tuple, q_isi_tup_list, q_isi_tup_dict, q_isi_lst_int, q_isi_lst_bool, q_isi_lst_str, q_isi_lst_tuple, q_isi_lst_list, q_isi_lst_dict, q_isi_dic_int, q_isi_dic_bool, q_isi_dic_str, q_isi_dic_tuple, q_isi_dic_list, q_isi_dic_dict, q_outD1, q_outD2, q_outD3, q_outF, q_st, q_sa1, q_sa2, q_mask1, q_mask2, q_nil, q_brk, q_cont, q_retN, q_eC, q_eV, q_aNil, q_tT, q_oN, q_ix1, q_ix2, q_at0, q_at1, q_at2, q_at3, q_at4, q_at5, q_imm1, q_imm2, q_imm3, q_imm4, q_imm5, q_imms1, q_imms2, q_set0, q_setS, q_set_1, q_get_1, q_set_2, q_get_2, q_set_3, q_get_3, q_set_4, q_get_4, q_set_5, q_get_5, q_set_6, q_get_6, q_set_7, q_get_7, q_set_8, q_get_8, q_set_9, q_get_9, q_set_10, q_get_10, q_set_11, q_get_11, q_set_12, q_get_12, q_set_13, q_get_13, q_set_14, q_get_14, q_set_15, q_get_15,
  okLen, Int.reduceEq, Int.reduceAdd, Int.reduceSub, Int.reduceMul, Int.reduceNeg, Int.cast_ofNat_Int, List.length_cons, List.length_nil, List.length_map, List.map_cons, List.map_nil, Nat.reduceAdd, Nat.reduceLeDiff, Nat.reduceSub, Nat.reduceEqDiff, Int.reduceLT, Int.reduceLE, Int.reduceToNat, decide_true, decide_false, ite_true, ite_false, if_true, if_false, Bool.and_true, Bool.true_and, Bool.and_self, Bool.not_true, Bool.not_false, reduceCtorEq, Bool.false_eq_true, ↓reduceIte,
  z_seq, z_if, z_asg, z_ex, z_ret, z_for, z_forR, z_loop0, z_loop, z_while, z_p, z_fr, z_im, z_ls, z_lsI, z_psc, z_tup, z_lst, z_at, z_node, z_xcons, z_xtup, z_xlst, z_xix, z_fz, z_aE, z_aB, z_a0, z_l0, z_lT, z_lBo, z_call, z_make, z_meth, z_methP, z_bm, z_set, z_put, z_fld, z_fzAt, z_gh, z_xgh, z_nIx, z_nKey, z_nFld, z_comp, z_cpL, z_catN, z_dicF, z_dicI, z_forN, z_augL, z_augK, z_augF, z_aug, o_seq1, o_seq2, o_seq3, o_seq4, o_seq5, o_if1, o_if2, o_nx, o_asg1, o_asg2, o_stn, o_st1, o_st2, o_st3, o_st4, o_stt2, o_ex1, o_ex2, o_ret1, o_ret2, o_nil, o_brk, o_cont, o_retN, o_raise, o_for, o_turn, o_next1, o_next2, o_next3, o_next4, o_next5, o_wIf1, o_wIf2, o_wN1, o_wN2, o_wN3, o_wN4, o_wN5, o_p, o_fr, o_im, o_ls, o_lsI, o_psn, o_psc, o_tup, o_lst, o_at, o_mk1, o_mk2, o_mk3, o_mk4, o_mk5, o_mk0, o_mkn1, o_mkn2, o_mkn3, o_nAt, o_node, o_sub0, o_sub1, o_subo, o_put0, o_put1, o_puto, o_setAt, o_nV, o_nv1, o_nv2, o_dF, o_dD, o_dN, o_nd1, o_nd2, o_nd3, o_nd4, o_nd5, o_ds0, o_dsc, o_dsC1, o_dsC2, o_dsC3, o_dsm, o_dsm2, o_fom, o_fo0, o_app, o_app2, o_setm, o_fzF, o_fzD, o_fzN, o_ful0, o_ful1, o_frz0, o_frz1, o_mv1, o_mv2, o_mv3, o_xn, o_xc1, o_xc2, o_xt, o_xl, o_ix1, o_ix2, o_ix3, o_ixO, o_xfz1, o_xfz2, o_fzO, o_acE, o_acB, o_ldT, o_ldB1, o_ldB2, o_cX, o_cY, o_cZ1, o_cZ2, o_mX, o_mY, o_mZ1, o_mZ2, o_bk0, o_bkB, o_bkT, o_meth, o_methP, o_bX, o_bY, o_bZ, o_efApp, o_efClr, o_efExt, o_efIns, o_efPop, o_efPopAt, o_popO, o_sO1, o_sX, o_sY, o_sZ, o_pO1, o_pO2, o_pX, o_pY, o_pZ, o_ky1, o_ky2, o_fO1, o_fO2, o_fX, o_fY, o_gX, o_gY, o_gZ, o_xgh, o_iX, o_iY1, o_iY2, o_iZ, o_kX, o_kY, o_kZ, o_lX, o_lY, o_cmp, o_cmpZ, o_cpY, o_cpX, o_ctY, o_ctX, o_dic0, o_df, o_di, o_fnX, o_agZ, o_agLX, o_agL, o_agKX, o_agK, o_agKk, o_agKj, o_agFX, o_agF, o_agFj, o_agV, o_fn1, o_fn2, o_fn3, o_fn4, o_fn5, o_outX, o_out1, o_out2, o_out3, o_outs0, o_outs1, o_kp1, o_kp2, o_kp3, o_gOf, o_gOo, o_mask0, x_catF, q_catF, x_mt, x_mtF, q_mt, x_slT, q_slT, q_dGet, q_key1, q_key2, q_gtO, q_inK, q_ninK, q_inKO, q_ninKO, q_dFld, q_lenA1, q_lenA2, q_lenA3, q_cTup1, q_cTup2, q_repS, q_isB, q_notB, z_appV, o_avX, o_avY1, o_avY2, o_avZ, o_mask1,
  o_app, o_app2, List.getElem?_cons_zero, List.getElem?_cons_succ, List.getElem?_nil, List.getD_cons_zero, List.getD_cons_succ, List.set_cons_zero, List.set_cons_succ, List.set_nil, List.length_set, Nat.reduceLT, List.zip_cons_cons, List.zip_nil_left, List.zip_nil_right, List.mem_cons, List.not_mem_nil, Nat.reduceEqDiff, or_true, true_or, or_false, false_or, and_true, true_and, and_self, List.nil_append, List.cons_append, Option.map_some, not_false_eq_true, reduceCtorEq, eq_self, List.map_nil, List.map_cons, dEq_int, dNe_int, dEq_P, dNe_P, P_ix0, P_ix1, law_whole_eq, law_part_eq, law_is_eq, *])
namespace PM
open PySem L2 PD PO
/-! falling(lags): slots 0:lags 1:rest 2:found -/
def fallingB : En → Option Out := (sSeq (sAsgO [1, 2] 1 (eCF cList (aCons (eV 0) aNil)))
  (sSeq (sAsgO [1, 2] 2 (eLst aNil))
  (sSeq (sWhile (fuelL 1) (tTru (eV 1)) (sPopApp 2 1 (eCB turn_ofF (aCons (eV 1) aNil))))
  (sRetO 2))))
def fallingF : List D → Option (List D) := fnOutF 1 3 fallingB
/-! greatest(lags, k): slots 0:lags 1:k -/
def greatestB : En → Option Out := (sRet (eCB totalF (aCons (eFr (eSl (eFr (eCF fallingF (aCons (eV 0) aNil))) oNone (oSome (eV 1)))) aNil)))
def greatestF : List D → Option D := fnOut 2 2 greatestB
/-! law_falling(law_row): slots 0:law_row 1:law_rest 2:law_found 3:law_at 4:law_k -/
def law_falling_b1 : EnT → Option OutT := (uIf (tB2 (eCB law_lessF (aCons (e2 dIx (eV 1) (eV 3)) (aCons (e2 dIx (eV 1) (eV 4)) aNil)))) (uAsg (.nm 3) (xP (pFr (eV 4)))) uNil)
def law_falling_b2 : EnT → Option OutT := (uSeq (uAsg (.nm 3) (xP (pFr (eC (.int 0)))))
  (uSeq (uForR (iR1 (aCons (eCB cLen (aCons (eV 1) aNil)) aNil)) (.nm 4) law_falling_b1)
  (uAppV 2 (xBm efPopAt (nV 1) (psCons (pFr (eV 3)) psNil)))))
def law_falling_s3 : EnT → Option OutT := (uWhile (fuelTL 1) (tTru (eV 1)) law_falling_b2)
def law_fallingB : EnT → Option OutT := (uSeq (uAsg (.nm 1) (xP (pLs (eCF cList (aCons (eV 0) aNil)))))
  (uSeq (uAsg (.nm 2) (xP (pLs (eLst aNil))))
  (uSeq law_falling_s3
  (uRet (xMv 2)))))
def law_fallingF : List T → Option RT := fnR [0] 1 5 law_fallingB
/-! law_hour(law_lags_here, law_shares_here): slots 0:law_lags_here 1:law_shares_here 2:law_row 3:law_at 4:law_lag 5:law_share -/
def law_hour_s1 : EnT → Option OutT := (uAsg (.nm 2) (xP (pLsI (eComp [4, 5] (iZ (aCons (eV 0) (aCons (eV 1) aNil))) (.tp [4, 5]) tTrue (eCB law_addF (aCons (eV 4) (aCons (eV 5) aNil)))))))
def law_hour_s2 : EnT → Option OutT := (uAsg (.nm 3) (xP (pIm (eCB law_firstF (aCons (eV 2) aNil)))))
def law_hour_s3 : EnT → Option OutT := (uSet (nV 2) (eV 3) (xP (pIm (eCB law_subF (aCons (e2 dIx (eV 2) (eV 3)) (aCons (eTup (aCons (eC (.int 1)) (aCons (eC (.int 1)) aNil))) aNil))))))
def law_hour_s4 : EnT → Option OutT := (uRet (xTup (xsCons (xP (pFr (eV 3))) (xsCons (xMv 2) xsNil))))
def law_hourB : EnT → Option OutT := (uSeq law_hour_s1
  (uSeq law_hour_s2
  (uSeq law_hour_s3
  law_hour_s4)))
def law_hourF : List T → Option RT := fnR [0, 1] 2 6 law_hourB
/-! law_lived(law_n, law_row, law_hours): slots 0:law_n 1:law_row 2:law_hours 3:law_lags_here 4:law_k -/
def law_livedB : EnT → Option OutT := (uSeq (uAsg (.nm 3) (xP (pLs (eComp [4] (iR1 (aCons (eV 0) aNil)) (.nm 4) tTrue (eTup (aCons (eC (.int 0)) (aCons (eC (.int 1)) aNil)))))))
  (uSeq (uFor (iR1 (aCons (eV 2) aNil)) (.nm 4) (uAsg (.nm 3) (xIx 1 (xCall law_hourF [.b 3, .e (pFr (eFr (eCF law_sharesF (aCons (eFr (eSl (eV 1) (oSome (e2 dMul (eV 4) (e2 dAdd (eV 0) (eC (.int 1))))) oNone)) (aCons (eV 0) aNil)))))]))))
  (uRet (xMv 3))))
def law_livedF : List T → Option RT := fnR [0, 1, 2] 3 5 law_livedB
/-! law_lags(law_n, law_row): slots 0:law_n 1:law_row 2:law_lags_here 3:law_j 4:law_at 5:law_to 6:law_by 7:law_high 8:law_rest 9:law_k -/
def law_lags_s1 : EnT → Option OutT := (uAsg (.nm 2) (xCall law_livedF [.e (pFr (eV 0)), .e (pFr (eFr (eSl (eV 1) (oSome (eC (.int 1))) oNone))), .e (pFr (e2 dMod (e2 dIx (eV 1) (eC (.int 0))) (eC (.int 9))))]))
def law_lags_s2 : EnT → Option OutT := (uIf (fOr (tB2 (e2 dEq (e2 dMod (e2 dDiv (e2 dIx (eV 1) (eC (.int 0))) (eC (.int 9))) (eC (.int 3))) (eC (.int 0)))) (tB2 (e2 dEq (eV 0) (eC (.int 1))))) (uRet (xMv 2)) uNil)
def law_lags_s3 : EnT → Option OutT := (uAsg (.nm 3) (xP (pFr (e2 dAdd (eC (.int 1)) (e2 dMod (e2 dDiv (e2 dIx (eV 1) (eC (.int 0))) (eC (.int 27))) (eV 0))))))
def law_lags_s4 : EnT → Option OutT := (uIf (tB2 (e2 dEq (e2 dMod (e2 dDiv (e2 dIx (eV 1) (eC (.int 0))) (eC (.int 9))) (eC (.int 3))) (eC (.int 1)))) (uSeq (uAsg (.nm 7) (xP (pFr (eCB law_lowF (aCons (e2 dIx (eCB law_mostF (aCons (eV 0) (aCons (eV 3) aNil))) (eC (.int 0))) (aCons (e2 dMul (e2 dIx (eCB law_mostF (aCons (eV 0) (aCons (eV 3) aNil))) (eC (.int 1))) (eV 3)) aNil))))))
  (uSeq (uAsg (.nm 8) (xP (pFr (eCB law_lowF (aCons (e2 dMul (e1 dNeg (e2 dIx (eV 7) (eC (.int 0)))) (eV 3)) (aCons (e2 dMul (e2 dIx (eV 7) (eC (.int 1))) (eCB cMax2 (aCons (eC (.int 1)) (aCons (e2 dSub (eV 0) (eV 3)) aNil)))) aNil))))))
  (uAsg (.nm 2) (xP (pLs (eCatF (eComp [9] (iR1 (aCons (eV 3) aNil)) (.nm 9) tTrue (eV 7)) (eComp [9] (iR1 (aCons (e2 dSub (eV 0) (eV 3)) aNil)) (.nm 9) tTrue (eV 8)))))))) uNil)
def law_lags_s5 : EnT → Option OutT := (uAsg (.nm 4) (xP (pFr (e2 dMod (e2 dDiv (e2 dIx (eV 1) (eC (.int 0))) (eC (.int 700))) (eV 0)))))
def law_lags_s6 : EnT → Option OutT := (uAsg (.nm 5) (xP (pFr (e2 dMod (e2 dDiv (e2 dIx (eV 1) (eC (.int 0))) (eC (.int 17000))) (eV 0)))))
def law_lags_s7 : EnT → Option OutT := (uAsg (.nm 6) (xP (pFr (eTup (aCons (e2 dSub (e2 dMod (e2 dDiv (e2 dIx (eV 1) (eC (.int 0))) (eC (.int 3000))) (eC (.int 3))) (eC (.int 1))) (aCons (e2 dAdd (eC (.int 1)) (e2 dMod (e2 dDiv (e2 dIx (eV 1) (eC (.int 0))) (eC (.int 9000))) (eC (.int 60)))) aNil))))))
def law_lags_s8 : EnT → Option OutT := (uIf (tB2 (e2 dEq (e2 dMod (e2 dDiv (e2 dIx (eV 1) (eC (.int 0))) (eC (.int 5))) (eC (.int 2))) (eC (.int 0)))) (uAsg (.nm 6) (xP (pFr (eTup (aCons (e2 dIx (eV 6) (eC (.int 0))) (aCons (e2 dAdd (e2 dPow (eC (.int 10)) (eC (.int 12))) (eV 0)) aNil)))))) uNil)
def law_lags_s9 : EnT → Option OutT := (uSet (nV 2) (eV 4) (xP (pIm (eCB law_addF (aCons (e2 dIx (eV 2) (eV 4)) (aCons (eCB law_lowF (aCons (e2 dIx (eV 6) (eC (.int 0))) (aCons (e2 dIx (eV 6) (eC (.int 1))) aNil))) aNil))))))
def law_lags_s10 : EnT → Option OutT := (uSet (nV 2) (eV 5) (xP (pIm (eCB law_subF (aCons (e2 dIx (eV 2) (eV 5)) (aCons (eCB law_lowF (aCons (e2 dIx (eV 6) (eC (.int 0))) (aCons (e2 dIx (eV 6) (eC (.int 1))) aNil))) aNil))))))
def law_lags_s11 : EnT → Option OutT := (uRet (xP (pLsI (eCatF (eSl (eV 2) (oSome (eV 4)) oNone) (eSl (eV 2) oNone (oSome (eV 4)))))))
def law_lagsB : EnT → Option OutT := (uSeq law_lags_s1
  (uSeq law_lags_s2
  (uSeq law_lags_s3
  (uSeq law_lags_s4
  (uSeq law_lags_s5
  (uSeq law_lags_s6
  (uSeq law_lags_s7
  (uSeq law_lags_s8
  (uSeq law_lags_s9
  (uSeq law_lags_s10
  law_lags_s11))))))))))
def law_lagsF : List T → Option RT := fnR [0, 1] 2 10 law_lagsB
/-! dealt(lags, shares): slots 0:lags 1:shares 2:row 3:place -/
def dealtB : EnT → Option OutT := (uSeq (uAsg (.nm 2) (xP (pLs (eCF raisedF (aCons (eV 0) (aCons (eV 1) aNil))))))
  (uSeq (uAsg (.nm 3) (xP (pIm (eCB turn_ofF (aCons (eV 2) aNil)))))
  (uSeq (uSet (nV 2) (eV 3) (xP (pIm (eCB minusF (aCons (e2 dIx (eV 2) (eV 3)) (aCons (eC (.tup [(.int 1), (.int 1)])) aNil))))))
  (uRet (xTup (xsCons (xP (pFr (eV 3))) (xsCons (xMv 2) xsNil)))))))
def dealtF : List T → Option RT := fnR [0, 1] 2 4 dealtB
end PM
namespace PM
open PySem L2 PD PO
/-! ### an hour, over trees -/
theorem imms_lP : ∀ l : List (Int × Int), imms (l.map P) = true
  | [] => rfl
  | a :: r => by rw [List.map_cons, imms, imms_lP r]; rfl
theorem imm_P (a : Int × Int) : imm (P a) = true := rfl
def hourP (l s : List (Int × Int)) : List (Int × Int) := (raise l s).set (firstOf (raise l s)) (minus (nth (raise l s) (firstOf (raise l s))) (1, 1))
theorem hourP_len {l s : List (Int × Int)} (h : s.length = l.length) : (hourP l s).length = l.length := by unfold hourP; rw [List.length_set, raise_len h]
theorem hourP_pt {n m : Nat} {l s : List (Int × Int)} (hl : ∀ x ∈ l, Pt n x) (hs : ∀ x ∈ s, Pt m x) (h : s.length = l.length) (h1 : 1 ≤ l.length) : ∀ x ∈ hourP l s, Pt (n + m + 3) x := by
  intro x hx
  unfold hourP at hx
  rcases List.mem_or_eq_of_mem_set hx with hx | rfl
  · exact (raise_pt hl hs x hx).mono (by omega)
  · have rl := raise_len h
    have fl := first_lt (l := raise l s) (by omega)
    exact (minus_pt (raise_pt hl hs _ (nth_mem fl)) one_pt).mono (by omega)
theorem ixN_nat {n k : Nat} (h : k < n) : ixN n (k : Int) = some k := by
  unfold ixN
  rw [if_pos (by omega), if_pos (by omega)]
  simp
theorem dealt_eq {n m : Nat} {l s : List (Int × Int)} (hl : ∀ x ∈ l, Pt n x) (hs : ∀ x ∈ s, Pt m x) (h : n + m + 1 + (n + m + 1) ≤ 8998) (hz : l.length ≤ 1000) (h1 : 1 ≤ l.length) (hn : s.length = l.length) :
    dealtF [.fr (.lst (l.map P)), .fr (.lst (s.map P))] = some (.ok [.fr (.lst (l.map P)), .fr (.lst (s.map P))] (.nd .tup [.fr (.int (firstOf (raise l s))), .nd .lst (((hourP l s).map P).map .fr)])) := by
  have e1 := raised_eq hl hs (by omega) hz
  have pr := raise_pt hl hs
  have rl := raise_len hn
  have fl := first_lt (l := raise l s) (by omega)
  have e2 := turn_of_eq pr (by omega) (by omega) (by omega)
  have i1 := atI_nth fl
  have e3 := minus_eq (pr _ (nth_mem fl)) one_pt (by omega)
  have e3' : minusF [P (nth (raise l s) (firstOf (raise l s))), .tup [.int 1, .int 1]] = some (P (minus (nth (raise l s) (firstOf (raise l s))) (1, 1))) := e3
  have i2 := ixN_nat fl
  rw [rl] at i2
  have hz' : l.length ≤ 1000000 := by omega
  have i3 : imm (P (minus (nth (raise l s) (firstOf (raise l s))) (1, 1))) = true := rfl
  unfold dealtF dealtB
  walk_at "top"
  simp only [hourP, List.map_set]
  walk_at "tes"
theorem law_hour_comp {n m : Nat} {l s : List (Int × Int)} (hl : ∀ x ∈ l, Pt n x) (hs : ∀ x ∈ s, Pt m x) (h : n + m ≤ 8999) {ρ : En} (e0 : ∀ a b, ∃ ρ1, stD (.tp [4, 5]) (.tup [P a, P b]) ρ = some ρ1 ∧ eV 4 ρ1 = some (P a) ∧ eV 5 ρ1 = some (P b)) : compD (.tp [4, 5]) tTrue (eCB law_addF (aCons (eV 4) (aCons (eV 5) aNil))) ρ (zipD (l.map P) (s.map P)) = some ((raise l s).map P) := due_comp hl hs h e0
theorem zip_len (l s : List (Int × Int)) (h : s.length = l.length) : (zipD (l.map P) (s.map P)).length = l.length := by rw [zip_P]; simp [h]
theorem law_hour_eq {t : T} {n m : Nat} {l s : List (Int × Int)} (ht : t.d = some (.lst (l.map P))) (hl : ∀ x ∈ l, Pt n x) (hs : ∀ x ∈ s, Pt m x) (h : n + m + 1 + (n + m + 1) ≤ 8998) (hz : l.length ≤ 1000) (h1 : 1 ≤ l.length) (hn : s.length = l.length) :
    law_hourF [t, .fr (.lst (s.map P))] = some (.ok [t, .fr (.lst (s.map P))] (.nd .tup [.fr (.int (firstOf (raise l s))), .nd .lst (((hourP l s).map P).map .fr)])) := by
  have pr := raise_pt hl hs
  have rl := raise_len hn
  have fl := first_lt (l := raise l s) (by omega)
  have e2 := law_first_eq pr (by omega) (by omega) (by omega)
  have i1 := atI_nth fl
  have e3 := law_sub_eq (pr _ (nth_mem fl)) one_pt (by omega)
  have e3' : law_subF [P (nth (raise l s) (firstOf (raise l s))), .tup [.int 1, .int 1]] = some (P (minus (nth (raise l s) (firstOf (raise l s))) (1, 1))) := e3
  have i2 := ixN_nat fl
  rw [rl] at i2
  have hz' : l.length ≤ 1000000 := by omega
  have i3 : imm (P (minus (nth (raise l s) (firstOf (raise l s))) (1, 1))) = true := rfl
  have i4 := imms_lP (raise l s)
  have zl := zip_len l s hn
  have ec := law_hour_comp hl hs (by omega) (ρ := [some (.lst (l.map P)), some (.lst (s.map P)), none, none, none, none]) (fun a b => ⟨_, rfl, rfl, rfl⟩)
  have zo : (zipD (l.map P) (s.map P)).length ≤ 1000000 := by omega
  unfold law_hourF law_hourB law_hour_s1 law_hour_s2 law_hour_s3 law_hour_s4
  walk_at "top"
  simp only [hourP, List.map_set]
  walk_at "tes"
/-! ### folds over trees -/
theorem fold_genT {α β : Type} (mk : α → T → EnT) {t : Tgt} {F : EnT → Option OutT} (enc : β → D) (f : α → β → α) (Inv : Nat → α → Prop) (Q : β → Prop) (step B : Nat)
    (turn : ∀ m a b v, Inv m a → Q b → m + step ≤ B → ∃ ρ1 v', stT t (.fr (enc b)) (mk a v) = some ρ1 ∧ (F ρ1 = some (.nx (mk (f a b) v')) ∨ F ρ1 = some (.ct (mk (f a b) v'))) ∧ Inv (m + step) (f a b)) :
    ∀ (bs : List β) (m : Nat) (a : α) (v : T), Inv m a → (∀ b ∈ bs, Q b) → m + bs.length * step ≤ B → ∃ v', loopU t F (bs.map enc) (mk a v) = some (.nx (mk (bs.foldl f a) v')) ∧ Inv (m + bs.length * step) (bs.foldl f a)
  | [], m, a, v, h, _, _ => ⟨v, rfl, by simpa using h⟩
  | b :: bs, m, a, v, h, hq, hB => by
    rw [List.length_cons, Nat.succ_mul] at hB
    obtain ⟨ρ1, v1, s1, s2, h1⟩ := turn m a b v h (hq b (by simp)) (by omega)
    obtain ⟨v2, e, h2⟩ := fold_genT mk enc f Inv Q step B turn bs (m + step) (f a b) v1 h1 (fun x hx => hq x (by simp [hx])) (by omega)
    refine ⟨v2, ?_, ?_⟩
    · rw [List.map_cons, z_loop, s1, o_turn]
      rcases s2 with s2 | s2
      · rw [s2, o_next1, e]; rfl
      · rw [s2, o_next2, e]; rfl
    · rw [List.length_cons, Nat.succ_mul, List.foldl_cons]
      have : m + (bs.length * step + step) = m + step + bs.length * step := by omega
      rw [this]
      exact h2
/-! ### from the greatest to the least -/
def fallN : Nat → List (Int × Int) → List (Int × Int)
  | 0, _ => []
  | n + 1, l => nth l (firstOf l) :: fallN n (l.eraseIdx (firstOf l))
def fallP (l : List (Int × Int)) : List (Int × Int) := fallN l.length l
theorem fall_succ {l : List (Int × Int)} (h : 1 ≤ l.length) : fallP l = nth l (firstOf l) :: fallP (l.eraseIdx (firstOf l)) := by
  unfold fallP
  have fl := first_lt h
  rw [List.length_eraseIdx_of_lt fl]
  obtain ⟨k, hk⟩ : ∃ k, l.length = k + 1 := ⟨l.length - 1, by omega⟩
  rw [hk]; rfl
theorem fall_len : ∀ {n : Nat} {l : List (Int × Int)}, l.length = n → (fallP l).length = n
  | 0, l, h => by unfold fallP; rw [h]; rfl
  | n + 1, l, h => by
    rw [fall_succ (by omega), List.length_cons, fall_len (n := n) (by rw [List.length_eraseIdx_of_lt (first_lt (by omega))]; omega)]
theorem fall_mem : ∀ {n : Nat} {l : List (Int × Int)}, l.length = n → ∀ x ∈ fallP l, x ∈ l
  | 0, l, h, x, hx => by unfold fallP at hx; rw [h] at hx; cases hx
  | n + 1, l, h, x, hx => by
    have fl := first_lt (l := l) (by omega)
    rw [fall_succ (by omega)] at hx
    rcases List.mem_cons.mp hx with rfl | hx
    · exact nth_mem fl
    · exact List.mem_of_mem_eraseIdx (fall_mem (n := n) (by rw [List.length_eraseIdx_of_lt fl]; omega) x hx)
theorem getD_nth {l : List (Int × Int)} {k : Nat} (h : k < l.length) : (l.map P)[k]? = some (P (nth l k)) := by
  rw [List.getElem?_map, List.getElem?_eq_getElem h]
  unfold nth
  rw [List.getD_eq_getElem?_getD, List.getElem?_eq_getElem h]
  rfl
theorem erase_map {α β : Type} (f : α → β) : ∀ (l : List α) (k : Nat), (l.map f).eraseIdx k = (l.eraseIdx k).map f
  | [], _ => rfl
  | a :: r, 0 => rfl
  | a :: r, k + 1 => by rw [List.map_cons, List.eraseIdx_cons_succ, List.eraseIdx_cons_succ, List.map_cons, erase_map f r k]
theorem falling_loop {n : Nat} {x0 : Option D} : ∀ (m : Nat) (l acc : List (Int × Int)), l.length < m → (∀ x ∈ l, Pt n x) → n + n ≤ 8999 → l.length + acc.length ≤ 1000 →
    whileD (tTru (eV 1)) (sPopApp 2 1 (eCB turn_ofF (aCons (eV 1) aNil))) m [x0, some (.lst (l.map P)), some (.lst (acc.map P))] = some (.nx [x0, some (.lst []), some (.lst ((acc ++ fallP l).map P))])
  | 0, l, acc, h, _, _, _ => by omega
  | m + 1, [], acc, h, _, _, _ => by
    rw [x_while]
    simp only [fallP, List.length_nil, fallN, List.append_nil]
    walk_at "ev"
    simp only [List.isEmpty_nil, Bool.not_true]
    walk_at "ev"
  | m + 1, a :: r, acc, h, hp, hn, hz => by
    have fl := first_lt (l := a :: r) (by simp)
    have e := turn_of_eq hp hn (by simp) (by omega)
    have g := getD_nth fl
    rw [fall_succ (by simp), x_while]
    have e1 : ((a :: r).map P).isEmpty = false := rfl
    have ih := falling_loop m ((a :: r).eraseIdx (firstOf (a :: r))) (acc ++ [nth (a :: r) (firstOf (a :: r))]) (by rw [List.length_eraseIdx_of_lt fl]; omega) (fun x hx => hp x (List.mem_of_mem_eraseIdx hx)) hn (by rw [List.length_eraseIdx_of_lt fl, List.length_append]; simp only [List.length_cons, List.length_nil] at hz ⊢; omega) (x0 := x0)
    generalize a :: r = l at *
    have z1 : (0 : Int) ≤ (firstOf l : Int) ∧ (firstOf l : Int) < 1000000 := by omega
    have z2 : (acc.map P).length ≤ 1000000 := by rw [List.length_map]; omega
    have ea : (l.map P).eraseIdx (firstOf l) = (l.eraseIdx (firstOf l)).map P := erase_map ..
    have eb : acc.map P ++ [P (nth l (firstOf l))] = (acc ++ [nth l (firstOf l)]).map P := by simp
    have ec : acc ++ nth l (firstOf l) :: fallP (l.eraseIdx (firstOf l)) = acc ++ [nth l (firstOf l)] ++ fallP (l.eraseIdx (firstOf l)) := by simp
    rw [ec, ← ih]
    walk_at "ev"
    simp only [e1, Bool.not_false, q_wIf1]
    walk_at "ev"
    simp only [e, q_pop1, if_pos z1, Int.toNat_natCast, g, q_pop2, okLen, decide_eq_true z2, if_true, ea, eb]
    walk_at "ev"
theorem falling_eq {n : Nat} {l : List (Int × Int)} (hl : ∀ x ∈ l, Pt n x) (hn : n + n ≤ 8999) (hz : l.length ≤ 1000) : fallingF [.lst (l.map P)] = some ((fallP l).map P) := by
  have e := falling_loop (x0 := some (.lst (l.map P))) (l.length + 1) l [] (by omega) hl hn (by simpa using hz)
  rw [List.nil_append] at e
  unfold fallingF fallingB
  walk_at "op"
  walk_at "ev"
  simp only [sWhile, fuelL, q_eV, x_getD0, x_getDs, List.length_map, List.map_nil] at e ⊢
  rw [e]
  walk_at "ev"
/-! the law's own -/
theorem first_loopT {l : List (Int × Int)} {x0 x2 v : T} (hf : ∀ a ∈ l, ∀ b ∈ l, law_lessF [P a, P b] = some (.bl (less a b))) (h1 : 1 ≤ l.length) :
    ∃ v', loopU (.nm 4) law_falling_b1 (rngD 0 l.length) [x0, .nd .lst ((l.map P).map .fr), x2, .fr (.int 0), v] = some (.nx [x0, .nd .lst ((l.map P).map .fr), x2, .fr (.int (firstOf l)), v']) := by
  rw [rng0]
  obtain ⟨v', e, _⟩ := fold_genT (fun (a : Nat) v => [x0, .nd .lst ((l.map P).map .fr), x2, .fr (.int a), v]) (t := .nm 4) (F := law_falling_b1) (fun (k : Nat) => D.int (k : Int)) (fun at' k => if less (nth l at') (nth l k) then k else at') (fun _ a => a < l.length) (fun k => k < l.length) 0 0
    (fun m a b v ha hb _ => by
      have i1 := atI_nth ha
      have i2 := atI_nth hb
      have e := hf _ (nth_mem ha) _ (nth_mem hb)
      refine ⟨_, .fr (.int b), rfl, .inl ?_, by show (if less (nth l a) (nth l b) then b else a) < l.length; split <;> omega⟩
      unfold law_falling_b1
      by_cases c : less (nth l a) (nth l b) = true
      · rw [c] at e
        show _ = some (OutT.nx [_, _, _, .fr (.int ((if less (nth l a) (nth l b) = true then b else a : Nat) : Int)), _])
        rw [if_pos c]
        walk_at "tes"
      · rw [Bool.not_eq_true] at c
        rw [c] at e
        show _ = some (OutT.nx [_, _, _, .fr (.int ((if less (nth l a) (nth l b) = true then b else a : Nat) : Int)), _])
        rw [if_neg (by rw [c]; decide)]
        walk_at "tes") (List.range l.length) 0 0 v h1 (fun k hk => List.mem_range.mp hk) (by simp)
  exact ⟨v', e⟩
theorem getT_nth {l : List (Int × Int)} {k : Nat} (h : k < l.length) : ((l.map P).map T.fr)[k]? = some (.fr (P (nth l k))) := by
  rw [List.getElem?_map, getD_nth h]; rfl
theorem law_falling_loop {n : Nat} {x0 : T}  (hn : n + n ≤ 8999) : ∀ (m : Nat) (l acc : List (Int × Int)) (x3 x4 : T), l.length < m → (∀ x ∈ l, Pt n x) → l.length + acc.length ≤ 1000 → ∃ y3 y4,
    whileU (tTru (eV 1)) law_falling_b2 m [x0, .nd .lst ((l.map P).map .fr), .nd .lst ((acc.map P).map .fr), x3, x4] = some (.nx [x0, .nd .lst [], .nd .lst (((acc ++ fallP l).map P).map .fr), y3, y4]) := by
  intro m
  induction m with
  | zero => intro l acc _ _ h; omega
  | succ m ih0 =>
  intro l acc x3 x4 h hp hz
  cases l with
  | nil =>
    refine ⟨x3, x4, ?_⟩
    simp only [fallP, List.length_nil, fallN, List.append_nil, List.map_nil, z_while]
    walk_at "te"
    simp only [List.isEmpty_nil, Bool.not_true]
    walk_at "te"
  | cons a r =>
    have fl := first_lt (l := a :: r) (by simp)
    obtain ⟨v', e⟩ := first_loopT (l := a :: r) (x0 := x0) (x2 := .nd .lst ((acc.map P).map .fr)) (v := x4) (fun a ha b hb => law_less_eq (hp a ha) (hp b hb) hn) (by simp)
    have g := getT_nth fl
    have e1 : ((a :: r).map P).isEmpty = false := rfl
    have sn := small_nat (n := (a :: r).length) (by omega)
    obtain ⟨y3, y4, ih⟩ := ih0 ((a :: r).eraseIdx (firstOf (a :: r))) (acc ++ [nth (a :: r) (firstOf (a :: r))]) (.fr (.int (firstOf (a :: r)))) v' (by rw [List.length_eraseIdx_of_lt fl]; omega) (fun x hx => hp x (List.mem_of_mem_eraseIdx hx)) (by rw [List.length_eraseIdx_of_lt fl, List.length_append]; simp only [List.length_cons, List.length_nil] at hz ⊢; omega)
    clear ih0
    refine ⟨y3, y4, ?_⟩
    have ec : acc ++ nth (a :: r) (firstOf (a :: r)) :: fallP ((a :: r).eraseIdx (firstOf (a :: r))) = acc ++ [nth (a :: r) (firstOf (a :: r))] ++ fallP ((a :: r).eraseIdx (firstOf (a :: r))) := by simp
    rw [fall_succ (by simp), ec, ← ih, z_while]
    generalize a :: r = l at *
    have z1 : (0 : Int) ≤ (firstOf l : Int) ∧ (firstOf l : Int) < 1000000 := by omega
    have z2 : (acc.map P).length ≤ 1000000 := by rw [List.length_map]; omega
    have z3 : acc.length ≤ 1000000 := by omega
    have ea : ((l.map P).map T.fr).eraseIdx (firstOf l) = ((l.eraseIdx (firstOf l)).map P).map T.fr := by rw [erase_map, erase_map]
    have eb : acc.map P ++ [P (nth l (firstOf l))] = (acc ++ [nth l (firstOf l)]).map P := by simp
    walk_at "te"
    simp only [e1, Bool.not_false, o_wIf1, law_falling_b2]
    walk_at "te"
    simp only [sn, if_true]
    walk_at "te"
    simp only [Int.toNat_natCast, e]
    walk_at "te"
    simp only [if_pos z1, Int.toNat_natCast, g]
    walk_at "te"
    simp only [decide_eq_true z3, if_true, eb, ea]
    walk_at "te"
theorem law_falling_eq {n : Nat} {l : List (Int × Int)} (hl : ∀ x ∈ l, Pt n x) (hn : n + n ≤ 8999) (hz : l.length ≤ 1000) : law_fallingF [.fr (.lst (l.map P))] = some (.ok [.fr (.lst (l.map P))] (.nd .lst (((fallP l).map P).map .fr))) := by
  obtain ⟨y3, y4, e⟩ := law_falling_loop (x0 := .fr (.lst (l.map P))) hn (l.length + 1) l [] .dead .dead (by omega) hl (by simpa using hz)
  rw [List.nil_append] at e
  have e' : law_falling_s3 [.fr (.lst (l.map P)), .nd .lst ((l.map P).map .fr), .nd .lst [], .dead, .dead] = some (.nx [.fr (.lst (l.map P)), .nd .lst [], .nd .lst (((fallP l).map P).map .fr), y3, y4]) := by
    rw [← e]
    unfold law_falling_s3 uWhile fuelTL
    simp only [List.getElem?_cons_zero, List.getElem?_cons_succ, List.length_map]
    rfl
  unfold law_fallingF law_fallingB
  walk_at "top"
  walk_at "te"
  rw [e']
  walk_at "te"
theorem law_falling_gOf {n : Nat} {l : List (Int × Int)} (hl : ∀ x ∈ l, Pt n x) (hn : n + n ≤ 8999) (hz : l.length ≤ 1000) : gOf law_fallingF [.lst (l.map P)] = some (.lst ((fallP l).map P)) := by
  rw [o_gOf, List.map_cons, List.map_nil, law_falling_eq hl hn hz]
  walk_at "te"
end PM
namespace PM
open PySem L2 PD PO
theorem loop_invT {t : Tgt} {F : EnT → Option OutT} (I : Nat → EnT → Prop) : ∀ (ds : List D) (n : Nat) (ρ : EnT), I n ρ →
    (∀ i d ρ, ds[i]? = some d → I (n + i) ρ → ∃ ρ1 ρ', stT t (.fr d) ρ = some ρ1 ∧ (F ρ1 = some (.nx ρ') ∨ F ρ1 = some (.ct ρ')) ∧ I (n + i + 1) ρ') → ∃ ρ', loopU t F ds ρ = some (.nx ρ') ∧ I (n + ds.length) ρ'
  | [], n, ρ, h, _ => ⟨ρ, rfl, h⟩
  | d :: ds, n, ρ, h, st => by
    obtain ⟨ρ1, ρ', s1, s2, h'⟩ := st 0 d ρ rfl h
    obtain ⟨ρ2, l, h2⟩ := loop_invT I ds (n + 1) ρ' h' fun i d ρ e hi => by
      have := st (i + 1) d ρ (by simpa using e) (by rw [show n + (i + 1) = n + 1 + i by omega]; exact hi)
      rw [show n + (i + 1) = n + 1 + i by omega] at this
      exact this
    refine ⟨ρ2, ?_, by rw [List.length_cons, show n + (ds.length + 1) = n + 1 + ds.length by omega]; exact h2⟩
    rw [z_loop, s1, o_turn]
    rcases s2 with e | e
    · rw [e, o_next1, l]
    · rw [e, o_next2, l]
theorem most_pt2 {n k : Nat} (h : n ≤ 24) : Pt 180 (most n k) := by
  unfold most
  by_cases hk : k ≤ n
  · have p := harm_pt (k := k) (c := n - k) (by omega) (by omega)
    have hk6 : ((k : Int)).natAbs < 2 ^ 6 := by show (k : Int).natAbs < 64; omega
    refine low_pt p.pos (pow_mono (pow_mul p.top hk6) (by omega)) (pow_mono p.bot (by omega))
  · rw [Nat.sub_eq_zero_of_le (by omega)]
    have : Pt 180 ((0, 1) : Int × Int) := zero_pt.mono (by decide)
    show Pt 180 (low (0 * (k : Int)) 1)
    rw [Int.zero_mul]
    exact this
theorem law_most_eq2 {n k : Nat} (h : n ≤ 24) (hk : k ≤ n) : law_mostF [.int n, .int k] = some (P (most n k)) := by
  obtain ⟨a, p, v, e⟩ := law_most_eq (n := n) (k := k) (by omega) hk
  rw [e, val_inj p (most_pt (n := n) (k := k) (by omega)) (by rw [v, most_val hk (by omega)])]
/-! lags that were lived -/
theorem rng_get {lo : Int} {n i : Nat} {d : D} (h : (rngD lo n)[i]? = some d) : i < n ∧ d = .int (lo + i) := by
  rw [rngD_get] at h
  split at h
  · exact ⟨by assumption, by cases h; rfl⟩
  · cases h
theorem sum_replicate0 (n : Nat) : ((List.replicate n ((0 : Int), (1 : Int))).map val).sum = 0 := by
  induction n with
  | zero => rfl
  | succ n ih => rw [List.replicate_succ, List.map_cons, List.sum_cons, ih, val_zero, Rat.add_zero]
theorem zeros_comp {n : Nat} {ρ : En} {own : Nat} (hs : ∀ d, ∃ ρ1, stD (.nm own) d ρ = some ρ1) : compD (.nm own) tTrue (eTup (aCons (eC (.int 0)) (aCons (eC (.int 1)) aNil))) ρ (rngD 0 n) = some ((List.replicate n ((0 : Int), (1 : Int))).map P) := by
  have : (List.replicate n ((0 : Int), (1 : Int))).map P = ((List.range n).map fun _ => ((0 : Int), (1 : Int))).map P := by rw [List.map_const', List.length_range]
  rw [this, rng0]
  rw [comp_map (fun (k : Nat) => D.int (k : Int)) P (fun _ => ((0 : Int), (1 : Int))) (List.range n) (fun a _ => ?_)]
  obtain ⟨ρ1, e⟩ := hs (.int a)
  refine ⟨ρ1, e, rfl, ?_⟩
  walk_at "ev"
  rfl
theorem sum_setv : ∀ (l : List (Int × Int)) (k : Nat) (x : Int × Int), k < l.length → ((l.set k x).map val).sum = (l.map val).sum - val (nth l k) + val x
  | [], k, x, h => by simp at h
  | a :: r, 0, x, h => by
    simp only [List.set_cons_zero, List.map_cons, List.sum_cons, nth, List.getD_cons_zero]
    grind
  | a :: r, k + 1, x, h => by
    have ih := sum_setv r k x (by simpa using h)
    simp only [List.set_cons_succ, List.map_cons, List.sum_cons, ih, nth, List.getD_cons_succ]
    grind
theorem sum_raise : ∀ (l s : List (Int × Int)), s.length = l.length → (∀ x ∈ l, 0 < x.2) → (∀ x ∈ s, 0 < x.2) → ((raise l s).map val).sum = (l.map val).sum + (s.map val).sum
  | [], [], _, _, _ => by simp [raise, Rat.add_zero]
  | [], _ :: _, h, _, _ => by simp at h
  | _ :: _, [], h, _, _ => by simp at h
  | a :: l, b :: s, h, hl, hs => by
    have ih := sum_raise l s (by simpa using h) (fun x hx => hl x (by simp [hx])) (fun x hx => hs x (by simp [hx]))
    unfold raise at ih ⊢
    simp only [List.zip_cons_cons, List.map_cons, List.sum_cons] at ih ⊢
    rw [ih, val_plus (hl a (by simp)) (hs b (by simp))]
    grind
theorem hour_sum {n m : Nat} {l s : List (Int × Int)} (hl : ∀ x ∈ l, Pt n x) (hs : ∀ x ∈ s, Pt m x) (hn : s.length = l.length) (h1 : 1 ≤ l.length) : ((hourP l s).map val).sum = (l.map val).sum + (s.map val).sum - 1 := by
  have rl := raise_len hn
  have fl := first_lt (l := raise l s) (by omega)
  unfold hourP
  rw [sum_setv _ _ _ fl, sum_raise l s hn (fun x hx => (hl x hx).pos) (fun x hx => (hs x hx).pos), val_minus (raise_pt hl hs _ (nth_mem fl)).pos (by decide), val_one]
  grind
structure Lgs (n N : Nat) (l : List (Int × Int)) : Prop where
  len : l.length = n
  pt : ∀ x ∈ l, Pt N x
  nul : (l.map val).sum = 0
theorem Lgs.mono {n N M : Nat} {l : List (Int × Int)} (h : Lgs n N l) (q : N ≤ M) : Lgs n M l := ⟨h.len, fun x hx => (h.pt x hx).mono q, h.nul⟩
theorem law_lived_eq {row : List Int} (hr : Row row) {n h : Nat} (h1 : 1 ≤ n) (hn : n ≤ 24) (hh : h ≤ 8) (hl : h * (n + 1) ≤ row.length) : ∃ l, Lgs n 233 l ∧
    law_livedF [.fr (.int n), .fr (.lst (row.map .int)), .fr (.int h)] = some (.ok [.fr (.int n), .fr (.lst (row.map .int)), .fr (.int h)] (.nd .lst ((l.map P).map .fr))) := by
  have s1 := small_nat (n := n) (by omega)
  have s2 := small_nat (n := h) (by omega)
  have ez := zeros_comp (n := n) (own := 4) (ρ := [some (.int n), some (.lst (row.map .int)), some (.int h), none, none]) (fun d => ⟨_, rfl⟩)
  have okn : (rngD 0 n).length ≤ 1000000 := by rw [rng_len]; omega
  have loop := loop_invT (t := .nm 4) (F := (uAsg (.nm 3) (xIx 1 (xCall law_hourF [.b 3, .e (pFr (eFr (eCF law_sharesF (aCons (eFr (eSl (eV 1) (oSome (e2 dMul (eV 4) (e2 dAdd (eV 0) (eC (.int 1))))) oNone)) (aCons (eV 0) aNil)))))]))))
    (fun k ρ => ∃ l v, Lgs n (1 + 29 * k) l ∧ ρ = [.fr (.int n), .fr (.lst (row.map .int)), .fr (.int h), .nd .lst ((l.map P).map .fr), v]) (rngD 0 h) 0
    [.fr (.int n), .fr (.lst (row.map .int)), .fr (.int h), .nd .lst (((List.replicate n ((0 : Int), (1 : Int))).map P).map .fr), .dead]
    ⟨_, _, ⟨List.length_replicate, fun x hx => by rw [List.eq_of_mem_replicate hx]; exact zero_pt, sum_replicate0 n⟩, rfl⟩ (by
      rintro i d ρ hd ⟨l, v, L, rfl⟩
      obtain ⟨hi, rfl⟩ := rng_get hd
      have hb : i * (n + 1) + (n + 1) ≤ row.length := by
        have : (i + 1) * (n + 1) ≤ h * (n + 1) := Nat.mul_le_mul_right _ hi
        rw [Nat.add_mul] at this
        omega
      obtain ⟨s, S, es⟩ := law_shares_eq (row := row.drop (i * (n + 1))) (hr.drop _) h1 (by omega) (by rw [List.length_drop]; omega)
      have lh := law_hour_eq (t := .nd .lst ((l.map P).map .fr)) (by rw [o_dN, o_dsm]; rfl) L.pt S.pt26 (by omega) (by rw [L.len]; omega) (by rw [L.len]; omega) (by rw [S.len, L.len])
      have cd : cutD (row.map D.int) (some ((0 + (i : Int)) * ((n : Int) + 1))) none = (row.drop (i * (n + 1))).map D.int := by
        rw [List.map_drop, ← cut_drop (n := i * (n + 1)) (by rw [List.length_map]; omega)]
        have : (0 + (i : Int)) * ((n : Int) + 1) = ((i * (n + 1) : Nat) : Int) := by push_cast; rw [Int.zero_add]
        rw [this]
      have m1 : okMul (0 + (i : Int)) ((n : Int) + 1) = true := okMul_l (by have : i ≤ 8 := by omega
                                                                            have : (0 + (i : Int)).natAbs = i := by omega
                                                                            rw [this]; exact Nat.lt_of_le_of_lt (by assumption) (by decide))
      refine ⟨_, [.fr (.int n), .fr (.lst (row.map .int)), .fr (.int h), .nd .lst (((hourP l s).map P).map .fr), .fr (.int (0 + (i : Int)))], rfl, .inl ?_, hourP l s, _, ⟨by rw [hourP_len (by rw [S.len, L.len]), L.len], fun x hx => (hourP_pt L.pt S.pt26 (by rw [S.len, L.len]) (by rw [L.len]; omega) x hx).mono (by omega), by rw [hour_sum L.pt S.pt26 (by rw [S.len, L.len]) (by rw [L.len]; omega), L.nul, S.one]; grind⟩, rfl⟩
      walk_at "tes")
  obtain ⟨ρ', e, l, v, L, rfl⟩ := loop
  rw [Nat.zero_add, rng_len] at L
  refine ⟨l, ⟨L.len, fun x hx => (L.pt x hx).mono (by omega), L.nul⟩, ?_⟩
  unfold law_livedF law_livedB
  walk_at "top"
  walk_at "tes"
  simp only [Int.toNat_natCast, ez, decide_eq_true okn, if_true]
  walk_at "te"
  simp only [s2, if_true, Int.toNat_natCast]
  walk_at "te"
  rw [e]
  walk_at "te"
end PM
namespace PM
open PySem L2 PD PO
theorem seq_nxT {F G : EnT → Option OutT} {ρ ρ' : EnT} {o : Option OutT} (h : F ρ = some (.nx ρ')) (k : G ρ' = o) : uSeq F G ρ = o := by rw [z_seq, h, o_seq1, k]
theorem seq_rtT {F G : EnT → Option OutT} {ρ ρ' : EnT} {t : T} (h : F ρ = some (.rt t ρ')) : uSeq F G ρ = some (.rt t ρ') := by rw [z_seq, h, o_seq2]
theorem const_comp {n own i : Nat} {ρ : En} {a : Int × Int} (hs : ∀ d, ∃ ρ1, stD (.nm own) d ρ = some ρ1 ∧ eV i ρ1 = some (P a)) : compD (.nm own) tTrue (eV i) ρ (rngD 0 n) = some ((List.replicate n a).map P) := by
  have : (List.replicate n a).map P = ((List.range n).map fun _ => a).map P := by rw [List.map_const', List.length_range]
  rw [this, rng0]
  rw [comp_map (fun (k : Nat) => D.int (k : Int)) P (fun _ => a) (List.range n) (fun x _ => ?_)]
  obtain ⟨ρ1, e, e2⟩ := hs (.int x)
  exact ⟨ρ1, e, rfl, e2⟩
theorem sum_rep (n : Nat) (a : Int × Int) : ((List.replicate n a).map val).sum = (n : Rat) * val a := by
  induction n with
  | zero => simp
  | succ n ih => rw [List.replicate_succ, List.map_cons, List.sum_cons, ih]; push_cast; grind
theorem val_scale {a : Int × Int} {j : Int} (h : 0 < a.2) (hj : 0 < j) : val (low a.1 (a.2 * j)) * (j : Rat) = val a := by
  rw [val_low (Int.mul_pos h hj)]
  unfold val
  rw [Rat.divInt_eq_div, Rat.divInt_eq_div, Rat.intCast_mul]
  have h1 : (a.2 : Rat) ≠ 0 := by exact_mod_cast (show a.2 ≠ 0 by omega)
  have h2 : (j : Rat) ≠ 0 := by exact_mod_cast (show j ≠ 0 by omega)
  grind
theorem val_scale2 {a : Int × Int} {j m : Int} (h : 0 < a.2) (hm : 0 < m) : val (low (-a.1 * j) (a.2 * m)) * (m : Rat) = -(val a * (j : Rat)) := by
  rw [val_low (Int.mul_pos h hm)]
  unfold val
  rw [Rat.divInt_eq_div, Rat.divInt_eq_div, Rat.intCast_mul, Rat.intCast_mul, Rat.intCast_neg]
  have h1 : (a.2 : Rat) ≠ 0 := by exact_mod_cast (show a.2 ≠ 0 by omega)
  have h2 : (m : Rat) ≠ 0 := by exact_mod_cast (show m ≠ 0 by omega)
  grind
theorem nth_set_pt {n m N : Nat} {l : List (Int × Int)} {k : Nat} {x : Int × Int} (L : Lgs n N l) (hx : Pt m x) (h : N ≤ m) : ∀ y ∈ l.set k x, Pt m y := fun y hy => by
  rcases List.mem_or_eq_of_mem_set hy with hy | rfl
  · exact (L.pt y hy).mono h
  · exact hx
theorem rot_sum (l : List (Int × Int)) (k : Nat) : ((l.drop k ++ l.take k).map val).sum = (l.map val).sum := by
  have e : (l.map val).sum = ((l.take k ++ l.drop k).map val).sum := by rw [List.take_append_drop]
  rw [e, List.map_append, List.map_append, List.sum_append, List.sum_append]
  exact Rat.add_comm ..
theorem nat_of {z : Int} {n : Nat} (h0 : 0 ≤ z) (h : z < n) : ∃ k : Nat, k < n ∧ z = (k : Int) := ⟨z.toNat, by omega, by omega⟩
theorem law_lags_eq {row : List Int} (hr : Row row) {n : Nat} (h1 : 1 ≤ n) (hn : n ≤ 24) (hl : 8 * (n + 1) + 1 ≤ row.length) : ∃ l, Lgs n 317 l ∧
    ∃ ts, law_lagsF [.fr (.int n), .fr (.lst (row.map .int))] = some (.ok ts (.nd .lst ((l.map P).map .fr))) := by
  obtain ⟨v, b, hv⟩ := row_at (k := 0) hr (by omega)
  replace hv : atI (row.map D.int) 0 = some (.int v) := hv
  obtain ⟨h, hh, eh⟩ := nat_of (z := v % 9) (n := 9) (by omega) (by omega)
  obtain ⟨l1, L1, e1⟩ := law_lived_eq (row := row.drop 1) (h := h) (hr.drop 1) h1 hn (by omega) (by
    rw [List.length_drop]
    have : h * (n + 1) ≤ 8 * (n + 1) := Nat.mul_le_mul_right _ (by omega)
    omega)
  have cd : cutD (row.map D.int) (some 1) none = (row.drop 1).map D.int := by
    rw [List.map_drop]; exact cut_drop (n := 1) (by rw [List.length_map]; omega)
  have p9 : (0 : Int) < 9 := by decide
  have p3 : (0 : Int) < 3 := by decide
  have pn : (0 : Int) < (n : Int) := by omega
  have p60 : (0 : Int) < 60 := by decide
  have p2 : (0 : Int) < 2 := by decide
  have d9 : okDiv 9 = true := by decide
  have d27 : okDiv 27 = true := by decide
  have d700 : okDiv 700 = true := by decide
  have d17000 : okDiv 17000 = true := by decide
  have d3000 : okDiv 3000 = true := by decide
  have d9000 : okDiv 9000 = true := by decide
  have d5 : okDiv 5 = true := by decide
  have t1 : law_lags_s1 [.fr (.int n), .fr (.lst (row.map .int)), .dead, .dead, .dead, .dead, .dead, .dead, .dead, .dead] = some (.nx [.fr (.int n), .fr (.lst (row.map .int)), .nd .lst ((l1.map P).map .fr), .dead, .dead, .dead, .dead, .dead, .dead, .dead]) := by
    unfold law_lags_s1
    walk_at "tpv"
  by_cases c : v / 9 % 3 = 0 ∨ (n : Int) = 1
  · refine ⟨l1, ⟨L1.len, fun x hx => (L1.pt x hx).mono (by decide), L1.nul⟩, [.fr (.int n), .fr (.lst (row.map .int))], ?_⟩
    have t2 : law_lags_s2 [.fr (.int n), .fr (.lst (row.map .int)), .nd .lst ((l1.map P).map .fr), .dead, .dead, .dead, .dead, .dead, .dead, .dead] = some (.rt (.nd .lst ((l1.map P).map .fr)) [.fr (.int n), .fr (.lst (row.map .int)), .dead, .dead, .dead, .dead, .dead, .dead, .dead, .dead]) := by
      unfold law_lags_s2
      by_cases c1 : v / 9 % 3 = 0
      · walk_at "tpv"
      · have c2 : (n : Int) = 1 := c.resolve_left c1
        walk_at "tpv"
    unfold law_lagsF law_lagsB
    walk_at "top"
    rw [seq_nxT t1 (seq_rtT t2)]
    rfl
  have c1 : ¬ v / 9 % 3 = 0 := fun e => c (.inl e)
  have c2 : ¬ (n : Int) = 1 := fun e => c (.inr e)
  have t2 : law_lags_s2 [.fr (.int n), .fr (.lst (row.map .int)), .nd .lst ((l1.map P).map .fr), .dead, .dead, .dead, .dead, .dead, .dead, .dead] = some (.nx [.fr (.int n), .fr (.lst (row.map .int)), .nd .lst ((l1.map P).map .fr), .dead, .dead, .dead, .dead, .dead, .dead, .dead]) := by
    unfold law_lags_s2
    walk_at "tpv"
  obtain ⟨j0, hj0, ej⟩ := nat_of (z := v / 27 % (n : Int)) (n := n) (by have := Int.emod_nonneg (v / 27) (show (n : Int) ≠ 0 by omega); omega) (Int.emod_lt_of_pos _ pn)
  have t3 : law_lags_s3 [.fr (.int n), .fr (.lst (row.map .int)), .nd .lst ((l1.map P).map .fr), .dead, .dead, .dead, .dead, .dead, .dead, .dead] = some (.nx [.fr (.int n), .fr (.lst (row.map .int)), .nd .lst ((l1.map P).map .fr), .fr (.int ((1 + j0 : Nat) : Int)), .dead, .dead, .dead, .dead, .dead, .dead]) := by
    have e' : ((1 + j0 : Nat) : Int) = 1 + (j0 : Int) := by push_cast; rfl
    rw [e']
    unfold law_lags_s3
    walk_at "tpv"
  obtain ⟨l4, x7, x8, L4, t4⟩ : ∃ l4 x7 x8, Lgs n 233 l4 ∧ law_lags_s4 [.fr (.int n), .fr (.lst (row.map .int)), .nd .lst ((l1.map P).map .fr), .fr (.int ((1 + j0 : Nat) : Int)), .dead, .dead, .dead, .dead, .dead, .dead] = some (.nx [.fr (.int n), .fr (.lst (row.map .int)), .nd .lst ((l4.map P).map .fr), .fr (.int ((1 + j0 : Nat) : Int)), .dead, .dead, .dead, x7, x8, .dead]) := by
    by_cases c3 : v / 9 % 3 = 1
    · generalize hj : 1 + j0 = j at *
      have pm := most_pt2 (n := n) (k := j) hn
      have em := law_most_eq2 (n := n) (k := j) hn (by omega)
      have j6 : ((j : Int)).natAbs < 2 ^ 6 := by show (j : Int).natAbs < 64; omega
      have jp : (0 : Int) < (j : Int) := by omega
      have ph : Pt 186 (low (most n j).1 ((most n j).2 * (j : Int))) := low_pt (Int.mul_pos pm.pos jp) (pow_mono pm.top (by decide)) (pow_mul pm.bot j6)
      have eh' := law_low_eq (t := (most n j).1) (b := (most n j).2 * (j : Int)) (Int.mul_pos pm.pos jp) (pow_mono (pow_mul pm.bot j6) (by decide))
      generalize hhi : low (most n j).1 ((most n j).2 * (j : Int)) = hi at *
      obtain ⟨m, hm, hmx⟩ : ∃ m : Nat, 1 ≤ m ∧ m ≤ 24 ∧ (if (n : Int) - (j : Int) > 1 then (n : Int) - (j : Int) else 1) = (m : Int) ∧ (m = n - j ∨ (n - j = 0 ∧ m = 1)) := by
        by_cases q : (n : Int) - (j : Int) > 1
        · exact ⟨n - j, by omega, by omega, by rw [if_pos q]; omega, .inl rfl⟩
        · rw [if_neg q]
          by_cases q2 : n - j = 0
          · exact ⟨1, by omega, by omega, rfl, .inr ⟨q2, rfl⟩⟩
          · exact ⟨1, by omega, by omega, rfl, .inl (by omega)⟩
      obtain ⟨hm24, hmx, hmm⟩ := hmx
      have m6 : ((m : Int)).natAbs < 2 ^ 6 := by show (m : Int).natAbs < 64; omega
      have mp : (0 : Int) < (m : Int) := by omega
      have hneg : (-hi.1).natAbs < 2 ^ 186 := by rw [Int.natAbs_neg]; exact ph.top
      have pr : Pt 192 (low (-hi.1 * (j : Int)) (hi.2 * (m : Int))) := low_pt (Int.mul_pos ph.pos mp) (pow_mul hneg j6) (pow_mul ph.bot m6)
      have er := law_low_eq (t := -hi.1 * (j : Int)) (b := hi.2 * (m : Int)) (Int.mul_pos ph.pos mp) (pow_mono (pow_mul ph.bot m6) (by decide))
      have m1 : okMul (most n j).2 (j : Int) = true := okMul_r (by omega)
      have m2 : okMul (-hi.1) (j : Int) = true := okMul_r (by omega)
      have m3 : okMul hi.2 (m : Int) = true := okMul_r (by omega)
      have s1 := small_nat (n := j) (by omega)
      have s2 := small_int (n := (n : Int) - (j : Int)) (by omega) (by omega)
      have ec1 := const_comp (n := j) (own := 9) (i := 7) (a := hi) (ρ := [some (.int n), some (.lst (row.map .int)), none, some (.int j), none, none, none, some (P hi), some (P (low (-hi.1 * (j : Int)) (hi.2 * (m : Int)))), none]) (fun d => ⟨_, rfl, rfl⟩)
      have ec2 := const_comp (n := n - j) (own := 9) (i := 8) (a := low (-hi.1 * (j : Int)) (hi.2 * (m : Int))) (ρ := [some (.int n), some (.lst (row.map .int)), none, some (.int j), none, none, none, some (P hi), some (P (low (-hi.1 * (j : Int)) (hi.2 * (m : Int)))), none]) (fun d => ⟨_, rfl, rfl⟩)
      have tn1 : ((n : Int) - (j : Int)).toNat = n - j := by omega
      have ok1 : (rngD 0 j).length ≤ 1000000 := by rw [rng_len]; omega
      have ok2 : (rngD 0 (n - j)).length ≤ 1000000 := by rw [rng_len]; omega
      have ok3 : (List.replicate j hi).length + (List.replicate (n - j) (low (-hi.1 * (j : Int)) (hi.2 * (m : Int)))).length ≤ 1000000 := by simp; omega
      have hvj : val hi * (j : Rat) = val (most n j) := by rw [← hhi]; exact_mod_cast val_scale pm.pos jp
      have hvr : val (low (-hi.1 * (j : Int)) (hi.2 * (m : Int))) * (m : Rat) = -(val hi * (j : Rat)) := by exact_mod_cast val_scale2 (j := (j : Int)) ph.pos mp
      refine ⟨List.replicate j hi ++ List.replicate (n - j) (low (-hi.1 * (j : Int)) (hi.2 * (m : Int))), .fr (P hi), .fr (P (low (-hi.1 * (j : Int)) (hi.2 * (m : Int)))), ⟨by simp; omega, fun x hx => ?_, ?_⟩, ?_⟩
      · rcases List.mem_append.mp hx with hx | hx
        · rw [List.eq_of_mem_replicate hx]; exact ph.mono (by decide)
        · rw [List.eq_of_mem_replicate hx]; exact pr.mono (by decide)
      · rw [List.map_append, List.sum_append, sum_rep, sum_rep]
        rcases hmm with rfl | ⟨q, rfl⟩
        · grind
        · have jn : j = n := by omega
          subst jn
          have : val (most j j) = 0 := by rw [most_val (Nat.le_refl _) (by omega), Nat.sub_self, hsum, Rat.mul_zero]
          rw [Nat.sub_self]
          grind
      · unfold law_lags_s4
        walk_at "tpv"
        simp only [Int.toNat_natCast, tn1, ec1, ec2]
        walk_at "tpv"
        rw [← List.map_append]
    · refine ⟨l1, .dead, .dead, L1, ?_⟩
      unfold law_lags_s4
      walk_at "tpv"
  obtain ⟨a, ha, ea⟩ := nat_of (z := v / 700 % (n : Int)) (n := n) (by have := Int.emod_nonneg (v / 700) (show (n : Int) ≠ 0 by omega); omega) (Int.emod_lt_of_pos _ pn)
  obtain ⟨b', hb', eb⟩ := nat_of (z := v / 17000 % (n : Int)) (n := n) (by have := Int.emod_nonneg (v / 17000) (show (n : Int) ≠ 0 by omega); omega) (Int.emod_lt_of_pos _ pn)
  have t5 : law_lags_s5 [.fr (.int n), .fr (.lst (row.map .int)), .nd .lst ((l4.map P).map .fr), .fr (.int ((1 + j0 : Nat) : Int)), .dead, .dead, .dead, x7, x8, .dead] = some (.nx [.fr (.int n), .fr (.lst (row.map .int)), .nd .lst ((l4.map P).map .fr), .fr (.int ((1 + j0 : Nat) : Int)), .fr (.int a), .dead, .dead, x7, x8, .dead]) := by
    unfold law_lags_s5
    walk_at "tpv"
  have t6 : law_lags_s6 [.fr (.int n), .fr (.lst (row.map .int)), .nd .lst ((l4.map P).map .fr), .fr (.int ((1 + j0 : Nat) : Int)), .fr (.int a), .dead, .dead, x7, x8, .dead] = some (.nx [.fr (.int n), .fr (.lst (row.map .int)), .nd .lst ((l4.map P).map .fr), .fr (.int ((1 + j0 : Nat) : Int)), .fr (.int a), .fr (.int b'), .dead, x7, x8, .dead]) := by
    unfold law_lags_s6
    walk_at "tpv"
  have t7 : law_lags_s7 [.fr (.int n), .fr (.lst (row.map .int)), .nd .lst ((l4.map P).map .fr), .fr (.int ((1 + j0 : Nat) : Int)), .fr (.int a), .fr (.int b'), .dead, x7, x8, .dead] = some (.nx [.fr (.int n), .fr (.lst (row.map .int)), .nd .lst ((l4.map P).map .fr), .fr (.int ((1 + j0 : Nat) : Int)), .fr (.int a), .fr (.int b'), .fr (.tup [.int (v / 3000 % 3 - 1), .int (1 + v / 9000 % 60)]), x7, x8, .dead]) := by
    unfold law_lags_s7
    walk_at "tpv"
  obtain ⟨y1, hy0, hy1, t8⟩ : ∃ y1 : Int, 0 < y1 ∧ y1 < 2 ^ 41 ∧ law_lags_s8 [.fr (.int n), .fr (.lst (row.map .int)), .nd .lst ((l4.map P).map .fr), .fr (.int ((1 + j0 : Nat) : Int)), .fr (.int a), .fr (.int b'), .fr (.tup [.int (v / 3000 % 3 - 1), .int (1 + v / 9000 % 60)]), x7, x8, .dead] = some (.nx [.fr (.int n), .fr (.lst (row.map .int)), .nd .lst ((l4.map P).map .fr), .fr (.int ((1 + j0 : Nat) : Int)), .fr (.int a), .fr (.int b'), .fr (.tup [.int (v / 3000 % 3 - 1), .int y1]), x7, x8, .dead]) := by
    by_cases c5 : v / 5 % 2 = 0
    · refine ⟨10 ^ 12 + (n : Int), by omega, by omega, ?_⟩
      have hp : (0 : Int) ≤ 12 ∧ (12 : Int) ≤ 1000000 ∧ (10 : Int).natAbs < 2 ^ 64 := by decide
      unfold law_lags_s8
      walk_at "tpv"
    · refine ⟨1 + v / 9000 % 60, by omega, by omega, ?_⟩
      unfold law_lags_s8
      walk_at "tpv"
  generalize hy : v / 3000 % 3 - 1 = y0 at *
  have py : Pt 41 (low y0 y1) := low_pt hy0 (by omega) (by omega)
  have ely := law_low_eq (t := y0) (b := y1) hy0 (by omega : y1.natAbs < 2 ^ 9000)
  have la : a < l4.length := by rw [L4.len]; exact ha
  have ia := atI_nth la
  have xa := ixN_nat la
  rw [L4.len] at xa
  have e9 := law_add_eq (L4.pt _ (nth_mem la)) py (by decide)
  have p5 : ∀ x ∈ l4.set a (plus (nth l4 a) (low y0 y1)), Pt 275 x := nth_set_pt L4 (plus_pt (L4.pt _ (nth_mem la)) py) (by decide)
  have len5 : (l4.set a (plus (nth l4 a) (low y0 y1))).length = n := by rw [List.length_set, L4.len]
  have im5 := imm_P (plus (nth l4 a) (low y0 y1))
  have t9 : law_lags_s9 [.fr (.int n), .fr (.lst (row.map .int)), .nd .lst ((l4.map P).map .fr), .fr (.int ((1 + j0 : Nat) : Int)), .fr (.int a), .fr (.int b'), .fr (.tup [.int y0, .int y1]), x7, x8, .dead] = some (.nx [.fr (.int n), .fr (.lst (row.map .int)), .nd .lst (((l4.set a (plus (nth l4 a) (low y0 y1))).map P).map .fr), .fr (.int ((1 + j0 : Nat) : Int)), .fr (.int a), .fr (.int b'), .fr (.tup [.int y0, .int y1]), x7, x8, .dead]) := by
    have ll := L4.len
    rw [List.map_set]
    unfold law_lags_s9
    walk_at "tpv"
  have n5 : val (nth l4 a) + val (low y0 y1) = val (plus (nth l4 a) (low y0 y1)) := (val_plus (L4.pt _ (nth_mem la)).pos py.pos).symm
  have sum5 := sum_setv l4 a (plus (nth l4 a) (low y0 y1)) la
  rw [L4.nul] at sum5
  generalize l4.set a (plus (nth l4 a) (low y0 y1)) = l5 at *
  have lb : b' < l5.length := by rw [len5]; exact hb'
  have ib := atI_nth lb
  have xb := ixN_nat lb
  rw [len5] at xb
  have e10 := law_sub_eq (p5 _ (nth_mem lb)) py (by decide)
  have p6 : ∀ x ∈ l5.set b' (minus (nth l5 b') (low y0 y1)), Pt 317 x := fun y hy => by
    rcases List.mem_or_eq_of_mem_set hy with hy | rfl
    · exact (p5 y hy).mono (by decide)
    · exact minus_pt (p5 _ (nth_mem lb)) py
  have len6 : (l5.set b' (minus (nth l5 b') (low y0 y1))).length = n := by rw [List.length_set, len5]
  have im6 := imm_P (minus (nth l5 b') (low y0 y1))
  have t10 : law_lags_s10 [.fr (.int n), .fr (.lst (row.map .int)), .nd .lst ((l5.map P).map .fr), .fr (.int ((1 + j0 : Nat) : Int)), .fr (.int a), .fr (.int b'), .fr (.tup [.int y0, .int y1]), x7, x8, .dead] = some (.nx [.fr (.int n), .fr (.lst (row.map .int)), .nd .lst (((l5.set b' (minus (nth l5 b') (low y0 y1))).map P).map .fr), .fr (.int ((1 + j0 : Nat) : Int)), .fr (.int a), .fr (.int b'), .fr (.tup [.int y0, .int y1]), x7, x8, .dead]) := by
    rw [List.map_set]
    unfold law_lags_s10
    walk_at "tpv"
  have n6 : val (minus (nth l5 b') (low y0 y1)) = val (nth l5 b') - val (low y0 y1) := val_minus (p5 _ (nth_mem lb)).pos py.pos
  have sum6 := sum_setv l5 b' (minus (nth l5 b') (low y0 y1)) lb
  generalize l5.set b' (minus (nth l5 b') (low y0 y1)) = l6 at *
  have cd1 : cutD (l6.map P) (some (a : Int)) none = (l6.drop a).map P := by
    rw [List.map_drop]; exact cut_drop (by rw [List.length_map, len6]; omega)
  have cd2 : cutD (l6.map P) none (some (a : Int)) = (l6.take a).map P := by
    rw [List.map_take]; exact cut_take (by rw [List.length_map, len6]; omega)
  have im7 : imms ((l6.drop a).map P ++ (l6.take a).map P) = true := by rw [← List.map_append]; exact imms_lP _
  have ok7 : (l6.drop a).length + (l6.take a).length ≤ 1000000 := by rw [List.length_drop, List.length_take]; omega
  have t11 : law_lags_s11 [.fr (.int n), .fr (.lst (row.map .int)), .nd .lst ((l6.map P).map .fr), .fr (.int ((1 + j0 : Nat) : Int)), .fr (.int a), .fr (.int b'), .fr (.tup [.int y0, .int y1]), x7, x8, .dead] = some (.rt (.nd .lst (((l6.drop a ++ l6.take a).map P).map .fr)) [.fr (.int n), .fr (.lst (row.map .int)), .nd .lst ((l6.map P).map .fr), .fr (.int ((1 + j0 : Nat) : Int)), .fr (.int a), .fr (.int b'), .fr (.tup [.int y0, .int y1]), x7, x8, .dead]) := by
    rw [List.map_append]
    unfold law_lags_s11
    walk_at "tpv"
  refine ⟨l6.drop a ++ l6.take a, ⟨by rw [List.length_append, List.length_drop, List.length_take, len6]; omega, fun x hx => ?_, ?_⟩, [.fr (.int n), .fr (.lst (row.map .int))], ?_⟩
  · rcases List.mem_append.mp hx with hx | hx
    · exact p6 x (List.mem_of_mem_drop hx)
    · exact p6 x (List.mem_of_mem_take hx)
  · rw [rot_sum, sum6, sum5]
    grind
  · unfold law_lagsF law_lagsB
    walk_at "top"
    rw [seq_nxT t1 (seq_nxT t2 (seq_nxT t3 (seq_nxT t4 (seq_nxT t5 (seq_nxT t6 (seq_nxT t7 (seq_nxT t8 (seq_nxT t9 (seq_nxT t10 t11)))))))))]
    rfl
/-! the sum of the greatest -/
theorem greatest_eq {n : Nat} {l : List (Int × Int)} {k : Nat} (hl : ∀ x ∈ l, Pt n x) (hz : l.length ≤ 24) (hn : 1 + 24 * (n + 1) ≤ 8999) (hk : k ≤ l.length) : greatestF [.lst (l.map P), .int k] = some (P (sumP ((fallP l).take k))) := by
  have e1 := falling_eq hl (by omega) (by omega)
  have fl := fall_len (n := l.length) (l := l) rfl
  have cd : cutD ((fallP l).map P) none (some (k : Int)) = ((fallP l).take k).map P := by
    rw [List.map_take]; exact cut_take (by rw [List.length_map, fl]; exact hk)
  have e2 := total_eq (n := n) (l := (fallP l).take k) (fun x hx => hl x (fall_mem rfl x (List.mem_of_mem_take hx))) (by
    have : ((fallP l).take k).length ≤ 24 := by rw [List.length_take]; omega
    have : ((fallP l).take k).length * (n + 1) ≤ 24 * (n + 1) := Nat.mul_le_mul_right _ this
    omega)
  unfold greatestF greatestB
  walk_at "op"
  walk_at "pv"
end PM
namespace PM
open PySem L2 PD PO
/-! keeps(lags): slots 0:lags 1:many 2:low 3:so_far 4:at 5:lag -/
def keeps_b1 : En → Option Out := (sSeq (sAsg [] 3 (eCB plusF (aCons (eV 3) (aCons (eV 5) aNil))))
  (sIf (fOr (tB2 (eCB belowF (aCons (eV 5) (aCons (eV 2) aNil)))) (tB2 (eCB belowF (aCons (eCB mostF (aCons (eV 1) (aCons (e2 dAdd (eV 4) (eC (.int 1))) aNil))) (aCons (eV 3) aNil))))) (sRet (eC (.bl false))) sNil))
def keeps_s2 : En → Option Out := (sAsg [] 2 (eCB minusF (aCons (eC (.tup [(.int 0), (.int 1)])) (aCons (eCB beforeF (aCons (eV 1) aNil)) aNil))))
def keeps_s4 : En → Option Out := (sFor [] (iE (aCons (eFr (eCF fallingF (aCons (eV 0) aNil))) aNil)) (.tp [4, 5]) keeps_b1)
def keepsB : En → Option Out := (sSeq (sAsg [] 1 (eCB cLen (aCons (eV 0) aNil)))
  (sSeq keeps_s2
  (sSeq (sAsg [] 3 (eC (.tup [(.int 0), (.int 1)])))
  (sSeq keeps_s4
  (sRet (eC (.bl true)))))))
def keepsF : List D → Option D := fnOut 1 6 keepsB
/-! law_keeps(law_lags_here): slots 0:law_lags_here 1:law_n 2:law_bounds 3:law_j 4:law_so_far 5:law_k 6:law_lag -/
def law_keeps_b1 : En → Option Out := (sAppI 2 (eCB law_addF (aCons (e2 dIx (eV 2) (e1 dNeg (eC (.int 1)))) (aCons (eTup (aCons (eC (.int 1)) (aCons (eV 3) aNil))) aNil))))
def law_keeps_b2 : En → Option Out := (sSeq (sAsg [2] 5 (e2 dAdd (eV 5) (eC (.int 1))))
  (sSeq (sAsg [2] 4 (eCB law_addF (aCons (eV 4) (aCons (eV 6) aNil))))
  (sIf (fOr (tB2 (eCB law_lessF (aCons (eCB law_mulF (aCons (e2 dIx (eV 2) (e2 dSub (eV 1) (eV 5))) (aCons (eTup (aCons (eV 5) (aCons (eC (.int 1)) aNil))) aNil))) (aCons (eV 4) aNil)))) (tB2 (eCB law_lessF (aCons (eV 6) (aCons (eTup (aCons (e2 dSub (eC (.int 1)) (eV 1)) (aCons (eV 1) aNil))) aNil))))) (sRet (eC (.bl false))) sNil)))
def law_keeps_s2 : En → Option Out := (sAsgO [2] 2 (eLst (aCons (eTup (aCons (eC (.int 0)) (aCons (eC (.int 1)) aNil))) aNil)))
def law_keeps_s3 : En → Option Out := (sFor [2] (iR3 (aCons (eV 1) (aCons (eC (.int 0)) (aCons (e1 dNeg (eC (.int 1))) aNil)))) (.nm 3) law_keeps_b1)
def law_keeps_s4 : En → Option Out := (sAsg [2] 4 (eTup (aCons (eC (.int 0)) (aCons (eC (.int 1)) aNil))))
def law_keeps_s6 : En → Option Out := (sFor [2] (iL (eCB (gOf law_fallingF) (aCons (eV 0) aNil))) (.nm 6) law_keeps_b2)
def law_keepsB : En → Option Out := (sSeq (sAsg [2] 1 (eCB cLen (aCons (eV 0) aNil)))
  (sSeq law_keeps_s2
  (sSeq law_keeps_s3
  (sSeq law_keeps_s4
  (sSeq (sAsg [2] 5 (eC (.int 0)))
  (sSeq law_keeps_s6
  (sRet (eC (.bl true)))))))))
def law_keepsF : List D → Option D := fnOut 1 7 law_keepsB
end PM
namespace PM
open PySem L2 PD PO
/-! ### lags that keep the bounds -/
def keepV (n : Nat) : Nat → Rat → List (Int × Int) → Bool
  | _, _, [] => true
  | k, so, x :: r => if (val x < 1 / (n : Rat) - 1) ∨ (((k + 1 : Nat) : Rat) * hsum (k + 1) (n - (k + 1)) < so + val x) then false else keepV n (k + 1) (so + val x) r
def keepP (l : List (Int × Int)) : Bool := keepV l.length 0 0 (fallP l)
def lowP (n : Nat) : Int × Int := minus (0, 1) (before n)
theorem lowP_pt {n : Nat} (h : n ≤ 24) (h1 : 1 ≤ n) : Pt 10 (lowP n) := minus_pt zero_pt (before_pt (by omega) h1)
theorem lowP_val {n : Nat} (h : n ≤ 24) (h1 : 1 ≤ n) : val (lowP n) = 1 / (n : Rat) - 1 := by
  unfold lowP
  rw [val_minus (by decide) (before_pt (by omega) h1).pos, before_val h1, val_zero]
  grind
theorem keeps_loop {n : Nat} (h : n ≤ 24) (h1 : 1 ≤ n) {x0 : Option D} : ∀ (f : List (Int × Int)) (k : Nat) (so : Int × Int) (v4 v5 : Option D), Pt (1 + k * 366) so → k + f.length ≤ n → (∀ x ∈ f, Pt 365 x) →
    (keepV n k (val so) f = true → ∃ so' w4 w5, loopD (.tp [4, 5]) keeps_b1 (enuD k (f.map P)) [x0, some (.int n), some (P (lowP n)), some (P so), v4, v5] = some (.nx [x0, some (.int n), some (P (lowP n)), some (P so'), w4, w5])) ∧
    (keepV n k (val so) f = false → loopD (.tp [4, 5]) keeps_b1 (enuD k (f.map P)) [x0, some (.int n), some (P (lowP n)), some (P so), v4, v5] = some (.rt (.bl false)))
  | [], k, so, v4, v5, hs, hk, hp => ⟨fun _ => ⟨so, v4, v5, rfl⟩, fun e => by simp [keepV] at e⟩
  | x :: r, k, so, v4, v5, hs, hk, hp => by
    have px := hp x (by simp)
    have e1 := plus_eq hs px (by simp only [List.length_cons] at hk; omega)
    have pp := plus_pt hs px
    have e2 := below_eq px (lowP_pt h h1) (by decide)
    have pm := most_pt2 (n := n) (k := k + 1) h
    have e3 := most_eq (n := n) (k := k + 1) (by omega) (by simp only [List.length_cons] at hk; omega)
    have e4 := below_eq pm pp (by simp only [List.length_cons] at hk; omega)
    rw [less_val px.pos (lowP_pt h h1).pos, lowP_val h h1] at e2
    rw [less_val pm.pos pp.pos, most_val (by simp only [List.length_cons] at hk; omega) (by omega), val_plus hs.pos px.pos] at e4
    have ih := keeps_loop h h1 r (k + 1) (plus so x) (some (.int k)) (some (P x)) (pp.mono (by rw [Nat.add_mul]; omega)) (by simp only [List.length_cons] at hk; omega) (fun y hy => hp y (by simp [hy])) (x0 := x0)
    rw [val_plus hs.pos px.pos] at ih
    have ek : ((k + 1 : Nat) : Int) = (k : Int) + 1 := by push_cast; rfl
    rw [ek] at e3
    have step : loopD (.tp [4, 5]) keeps_b1 (enuD k ((x :: r).map P)) [x0, some (.int n), some (P (lowP n)), some (P so), v4, v5] = if (val x < 1 / (n : Rat) - 1) ∨ (((k + 1 : Nat) : Rat) * hsum (k + 1) (n - (k + 1)) < val so + val x) then some (.rt (.bl false)) else loopD (.tp [4, 5]) keeps_b1 (enuD (k + 1) (r.map P)) [x0, some (.int n), some (P (lowP n)), some (P (plus so x)), some (.int k), some (P x)] := by
      rw [List.map_cons, enuD, x_loop, q_stp2]
      unfold keeps_b1
      by_cases c1 : val x < 1 / (n : Rat) - 1
      · rw [decide_eq_true c1] at e2
        rw [if_pos (.inl c1)]
        walk_at "pv"
      · rw [decide_eq_false c1] at e2
        by_cases c2 : ((k + 1 : Nat) : Rat) * hsum (k + 1) (n - (k + 1)) < val so + val x
        · rw [decide_eq_true c2] at e4
          rw [if_pos (.inr c2)]
          walk_at "pv"
        · rw [decide_eq_false c2] at e4
          rw [if_neg (by rintro (c | c); exact c1 c; exact c2 c)]
          walk_at "pv"
    rw [step]
    unfold keepV
    by_cases c : (val x < 1 / (n : Rat) - 1) ∨ (((k + 1 : Nat) : Rat) * hsum (k + 1) (n - (k + 1)) < val so + val x)
    · rw [if_pos c, if_pos c]
      exact ⟨fun e => (by cases e), fun _ => rfl⟩
    · rw [if_neg c, if_neg c]
      exact ih
theorem fall_pt {N : Nat} {l : List (Int × Int)} (hp : ∀ x ∈ l, Pt N x) : ∀ x ∈ fallP l, Pt N x := fun x hx => hp x (fall_mem rfl x hx)
theorem keeps_eq {l : List (Int × Int)} (hp : ∀ x ∈ l, Pt 365 x) (h1 : 1 ≤ l.length) (h : l.length ≤ 24) : keepsF [.lst (l.map P)] = some (.bl (keepP l)) := by
  have e0 := before_eq (n := l.length) (by omega) h1
  have e1 := minus_eq zero_pt (before_pt (n := l.length) (by omega) h1) (by decide)
  have e1' : minusF [.tup [.int 0, .int 1], P (before l.length)] = some (P (lowP l.length)) := e1
  have e2 := falling_eq hp (by decide) (by omega)
  have L := keeps_loop h h1 (fallP l) 0 (0, 1) none none zero_pt (by rw [Nat.zero_add, fall_len rfl]; exact Nat.le_refl _) (fall_pt hp) (x0 := some (.lst (l.map P)))
  rw [val_zero] at L
  unfold keepsF keepsB keeps_s2 keeps_s4
  unfold keepP
  cases c : keepV l.length 0 0 (fallP l) with
  | true =>
    obtain ⟨so', w4, w5, e⟩ := L.1 c
    replace e : loopD (.tp [4, 5]) keeps_b1 (enuD 0 ((fallP l).map P)) [some (.lst (l.map P)), some (.int l.length), some (P (lowP l.length)), some (.tup [.int 0, .int 1]), none, none] = _ := e
    walk_at "op"
    walk_at "pv"
  | false =>
    have e := L.2 c
    replace e : loopD (.tp [4, 5]) keeps_b1 (enuD 0 ((fallP l).map P)) [some (.lst (l.map P)), some (.int l.length), some (P (lowP l.length)), some (.tup [.int 0, .int 1]), none, none] = _ := e
    walk_at "op"
    walk_at "pv"
/-! the law's own -/
def bnd (n : Nat) : Nat → Int × Int
  | 0 => (0, 1)
  | i + 1 => plus (bnd n i) (1, (n : Int) - i)
theorem bnd_pt {n : Nat} (h : n ≤ 24) : ∀ i : Nat, i ≤ n → Pt (1 + 7 * i) (bnd n i)
  | 0, _ => zero_pt
  | i + 1, hi => (plus_pt (bnd_pt h i (by omega)) (unit_pt (j := (n : Int) - i) (by omega) (by omega))).mono (by omega)
theorem bnd_val {n : Nat} (h : n ≤ 24) : ∀ i : Nat, i ≤ n → val (bnd n i) = hsum (n - i) i
  | 0, _ => by show val (0, 1) = _; rw [val_zero]; rfl
  | i + 1, hi => by
    have ih := bnd_val h i (by omega)
    have u := val_unit (j := n - i) (by omega)
    have ec : ((n - i : Nat) : Int) = (n : Int) - i := by omega
    rw [ec] at u
    show val (plus (bnd n i) (1, (n : Int) - i)) = _
    rw [val_plus (bnd_pt h i (by omega)).pos (show (0 : Int) < (n : Int) - i by omega), ih, u, hsum_first]
    have e : n - (i + 1) + 1 = n - i := by omega
    rw [e]
    exact Rat.add_comm ..
theorem atI_last {α : Type} (l : List α) (x : α) : atI (l ++ [x]) (-1) = some x := by
  unfold atI ixN
  have e : (-1 + ((l ++ [x]).length : Int)).toNat = l.length := by rw [List.length_append]; simp only [List.length_cons, List.length_nil]; omega
  rw [if_neg (by decide), if_pos (by rw [List.length_append]; simp only [List.length_cons, List.length_nil]; omega), e]
  simp
theorem bnds_succ (n k : Nat) : (List.range (k + 1)).map (bnd n) = (List.range k).map (bnd n) ++ [bnd n k] := by rw [List.range_succ, List.map_append]; rfl
theorem bnds_loop {n : Nat} (h : n ≤ 24) {x0 : Option D} : ∃ v3, loopD (.nm 3) law_keeps_b1 ((List.range n).map fun (m : Nat) => D.int ((n : Int) - m)) [x0, some (.int n), some (.lst [P (0, 1)]), none, none, none, none] = some (.nx [x0, some (.int n), some (.lst (((List.range (n + 1)).map (bnd n)).map P)), v3, none, none, none]) := by
  obtain ⟨ρ', e, v3, rfl⟩ := loop_inv (t := .nm 3) (F := law_keeps_b1) (fun k ρ => ∃ v3, ρ = [x0, some (.int n), some (.lst (((List.range (k + 1)).map (bnd n)).map P)), v3, none, none, none]) ((List.range n).map fun (m : Nat) => D.int ((n : Int) - m)) 0 _ ⟨none, rfl⟩ (by
    rintro i d ρ hd ⟨v3, rfl⟩
    rw [Nat.zero_add]
    rw [List.getElem?_map] at hd
    have hi : i < n := by
      cases q : (List.range n)[i]? with
      | none => rw [q] at hd; cases hd
      | some z => have := (List.getElem?_eq_some_iff.mp q).1; simpa using this
    rw [List.getElem?_range hi] at hd
    cases hd
    have e := law_add_eq (bnd_pt h i (by omega)) (unit_pt (j := (n : Int) - i) (by omega) (by omega)) (by omega)
    have e' : law_addF [P (bnd n i), .tup [.int 1, .int ((n : Int) - i)]] = some (P (bnd n (i + 1))) := e
    have la := atI_last (((List.range i).map (bnd n)).map P) (P (bnd n i))
    have im := imm_P (bnd n (i + 1))
    have b1 : ((List.range (i + 1)).map (bnd n)).map P = ((List.range i).map (bnd n)).map P ++ [P (bnd n i)] := by rw [bnds_succ, List.map_append]; rfl
    have b2 : ((List.range (i + 1 + 1)).map (bnd n)).map P = ((List.range i).map (bnd n)).map P ++ [P (bnd n i)] ++ [P (bnd n (i + 1))] := by rw [bnds_succ, List.map_append, b1]; rfl
    have ok : (((List.range i).map (bnd n)).map P ++ [P (bnd n i)]).length ≤ 1000000 := by simp; omega
    refine ⟨_, [x0, some (.int n), some (.lst (((List.range (i + 1 + 1)).map (bnd n)).map P)), some (.int ((n : Int) - i)), none, none, none], rfl, .inl ?_, ⟨_, rfl⟩⟩
    rw [b2, b1]
    generalize ((List.range i).map (bnd n)).map P = bs at *
    unfold law_keeps_b1
    walk_at "pv")
  rw [List.length_map, List.length_range, show 0 + n + 1 = n + 1 by omega] at e
  exact ⟨v3, e⟩
theorem bnds_at {n i : Nat} (hi : i ≤ n) : atI (((List.range (n + 1)).map (bnd n)).map P) (i : Int) = some (P (bnd n i)) := by
  unfold atI
  rw [ixN_nat (by simp; omega)]
  simp [List.getElem?_range (show i < n + 1 by omega)]
theorem law_keeps_loop {n : Nat} (h : n ≤ 24) (h1 : 1 ≤ n) {x0 v3 : Option D} : ∀ (f : List (Int × Int)) (k : Nat) (so : Int × Int) (v6 : Option D), Pt (1 + k * 366) so → k + f.length ≤ n → (∀ x ∈ f, Pt 365 x) →
    (keepV n k (val so) f = true → ∃ so' w5 w6, loopD (.nm 6) law_keeps_b2 (f.map P) [x0, some (.int n), some (.lst (((List.range (n + 1)).map (bnd n)).map P)), v3, some (P so), some (.int k), v6] = some (.nx [x0, some (.int n), some (.lst (((List.range (n + 1)).map (bnd n)).map P)), v3, some (P so'), w5, w6])) ∧
    (keepV n k (val so) f = false → loopD (.nm 6) law_keeps_b2 (f.map P) [x0, some (.int n), some (.lst (((List.range (n + 1)).map (bnd n)).map P)), v3, some (P so), some (.int k), v6] = some (.rt (.bl false)))
  | [], k, so, v6, hs, hk, hp => ⟨fun _ => ⟨so, _, v6, rfl⟩, fun e => by simp [keepV] at e⟩
  | x :: r, k, so, v6, hs, hk, hp => by
    simp only [List.length_cons] at hk
    have px := hp x (by simp)
    have e1 := law_add_eq hs px (by omega)
    have pp := plus_pt hs px
    have pl : Sz 6 (1 - (n : Int), (n : Int)) := ⟨by show (0 : Int) < n; omega, by show (1 - (n : Int)).natAbs < 64; omega, by show (n : Int).natAbs < 64; omega⟩
    have pb := bnd_pt h (n - (k + 1)) (by omega)
    have pk : Pt 6 (((k + 1 : Nat) : Int), 1) := num_pt (by show ((k + 1 : Nat) : Int).natAbs < 64; omega) (by decide)
    have e3 := law_mul_eq pb pk (by omega)
    have pt := times_pt pb pk
    have e4 := law_less_eq pt pp (by omega)
    have ek0 : ((k + 1 : Nat) : Int) = (k : Int) + 1 := by push_cast; rfl
    have gl : Int.gcd (1 - (n : Int)) (n : Int) = 1 := by
      have : Int.gcd (1 - (n : Int)) (n : Int) = Int.gcd 1 (n : Int) := by
        have := Int.gcd_sub_mul_left_left (1 : Int) (n : Int) 1
        first | (simpa using this) | (rw [← this]; congr 1; omega)
      rw [this]; simp
    have ptl : Pt 6 (1 - (n : Int), (n : Int)) := ⟨pl.pos, pl.top, pl.bot, gl⟩
    have e2 := law_less_eq px ptl (by decide)
    have vl : val (1 - (n : Int), (n : Int)) = 1 / (n : Rat) - 1 := by
      have hn0 : (n : Rat) ≠ 0 := by exact_mod_cast (show n ≠ 0 by omega)
      unfold val
      rw [Rat.divInt_eq_div]
      push_cast
      grind
    rw [less_val px.pos ptl.pos, vl] at e2
    have vt : val (times (bnd n (n - (k + 1))) (((k + 1 : Nat) : Int), 1)) = ((k + 1 : Nat) : Rat) * hsum (k + 1) (n - (k + 1)) := by
      rw [val_times pb.pos (show (0 : Int) < 1 by decide), bnd_val h _ (by omega), show n - (n - (k + 1)) = k + 1 by omega, val_int]
      rw [Rat.mul_comm]
      push_cast
      rfl
    rw [less_val pt.pos pp.pos, vt, val_plus hs.pos px.pos, ek0] at e4
    have ih := law_keeps_loop h h1 r (k + 1) (plus so x) (some (P x)) (pp.mono (by rw [Nat.add_mul]; omega)) (by omega) (fun y hy => hp y (by simp [hy])) (x0 := x0) (v3 := v3)
    rw [val_plus hs.pos px.pos] at ih
    have ek : ((k + 1 : Nat) : Int) = (k : Int) + 1 := by push_cast; rfl
    have ba := bnds_at (n := n) (i := n - (k + 1)) (by omega)
    have ej : ((n - (k + 1) : Nat) : Int) = (n : Int) - ((k : Int) + 1) := by omega
    rw [ej] at ba
    have e3' : law_mulF [P (bnd n (n - (k + 1))), .tup [.int ((k : Int) + 1), .int 1]] = some (P (times (bnd n (n - (k + 1))) ((k : Int) + 1, 1))) := by rw [← ek]; exact e3
    have e2' : law_lessF [P x, .tup [.int (1 - (n : Int)), .int n]] = _ := e2
    have step : loopD (.nm 6) law_keeps_b2 ((x :: r).map P) [x0, some (.int n), some (.lst (((List.range (n + 1)).map (bnd n)).map P)), v3, some (P so), some (.int k), v6] = if (val x < 1 / (n : Rat) - 1) ∨ (((k + 1 : Nat) : Rat) * hsum (k + 1) (n - (k + 1)) < val so + val x) then some (.rt (.bl false)) else loopD (.nm 6) law_keeps_b2 (r.map P) [x0, some (.int n), some (.lst (((List.range (n + 1)).map (bnd n)).map P)), v3, some (P (plus so x)), some (.int ((k + 1 : Nat) : Int)), some (P x)] := by
      rw [List.map_cons, x_loop, ek]
      generalize (List.range (n + 1)).map (bnd n) = bs at *
      unfold law_keeps_b2
      by_cases c2 : ((k + 1 : Nat) : Rat) * hsum (k + 1) (n - (k + 1)) < val so + val x
      · rw [decide_eq_true c2] at e4
        rw [if_pos (.inr c2)]
        walk_at "pv"
      · rw [decide_eq_false c2] at e4
        by_cases c1 : val x < 1 / (n : Rat) - 1
        · rw [decide_eq_true c1] at e2'
          rw [if_pos (.inl c1)]
          walk_at "pv"
        · rw [decide_eq_false c1] at e2'
          rw [if_neg (by rintro (c | c); exact c1 c; exact c2 c)]
          walk_at "pv"
    rw [step]
    unfold keepV
    by_cases c : (val x < 1 / (n : Rat) - 1) ∨ (((k + 1 : Nat) : Rat) * hsum (k + 1) (n - (k + 1)) < val so + val x)
    · rw [if_pos c, if_pos c]
      exact ⟨fun e => (by cases e), fun _ => rfl⟩
    · rw [if_neg c, if_neg c]
      exact ih
theorem law_keeps_eq {l : List (Int × Int)} (hp : ∀ x ∈ l, Pt 365 x) (h1 : 1 ≤ l.length) (h : l.length ≤ 24) : law_keepsF [.lst (l.map P)] = some (.bl (keepP l)) := by
  obtain ⟨v3, eb⟩ := bnds_loop (n := l.length) h (x0 := some (.lst (l.map P)))
  have e2 := law_falling_gOf hp (by decide) (by omega)
  have L := law_keeps_loop h h1 (fallP l) 0 (0, 1) none zero_pt (by rw [Nat.zero_add, fall_len rfl]; exact Nat.le_refl _) (fall_pt hp) (x0 := some (.lst (l.map P))) (v3 := v3)
  rw [val_zero] at L
  have t3 : law_keeps_s3 [some (.lst (l.map P)), some (.int l.length), some (.lst [P (0, 1)]), none, none, none, none] = some (.nx [some (.lst (l.map P)), some (.int l.length), some (.lst (((List.range (l.length + 1)).map (bnd l.length)).map P)), v3, none, none, none]) := by
    rw [← eb]
    have s1 := small_nat (n := l.length) (by omega)
    unfold law_keeps_s3
    rw [x_for]
    have : iR3 (aCons (eV 1) (aCons (eC (.int 0)) (aCons (e1 dNeg (eC (.int 1))) aNil))) (mask [2] [some (.lst (l.map P)), some (.int l.length), some (.lst [P (0, 1)]), none, none, none, none]) = some ((List.range l.length).map fun (m : Nat) => D.int ((l.length : Int) - m)) := by
      unfold iR3
      walk_at "ev"
      simp only [s1]
      simp [small62]
    rw [this, q_for]
  unfold law_keepsF law_keepsB law_keeps_s2 law_keeps_s4 law_keeps_s6
  unfold keepP
  cases c : keepV l.length 0 0 (fallP l) with
  | true =>
    obtain ⟨so', w5, w6, e⟩ := L.1 c
    replace e : loopD (.nm 6) law_keeps_b2 ((fallP l).map P) [some (.lst (l.map P)), some (.int l.length), some (.lst (((List.range (l.length + 1)).map (bnd l.length)).map P)), v3, some (.tup [.int 0, .int 1]), some (.int 0), none] = _ := e
    replace t3 : law_keeps_s3 [some (.lst (l.map P)), some (.int l.length), some (.lst [.tup [.int 0, .int 1]]), none, none, none, none] = _ := t3
    walk_at "op"
    walk_at "pv"
  | false =>
    have e := L.2 c
    replace e : loopD (.nm 6) law_keeps_b2 ((fallP l).map P) [some (.lst (l.map P)), some (.int l.length), some (.lst (((List.range (l.length + 1)).map (bnd l.length)).map P)), v3, some (.tup [.int 0, .int 1]), some (.int 0), none] = _ := e
    replace t3 : law_keeps_s3 [some (.lst (l.map P)), some (.int l.length), some (.lst [.tup [.int 0, .int 1]]), none, none, none, none] = _ := t3
    walk_at "op"
    walk_at "pv"
end PM
namespace PM
open PySem L2 PD PO
/-! ### what keeping the bounds means -/
theorem first_max_aux (l : List (Int × Int)) (hp : ∀ x ∈ l, 0 < x.2) : ∀ (ks : List Nat) (a : Nat), a < l.length → (∀ k ∈ ks, k < l.length) →
    val (nth l a) ≤ val (nth l (ks.foldl (fun at' k => if less (nth l at') (nth l k) then k else at') a)) ∧ ∀ k ∈ ks, val (nth l k) ≤ val (nth l (ks.foldl (fun at' k => if less (nth l at') (nth l k) then k else at') a))
  | [], a, _, _ => ⟨Rat.le_refl, fun k h => by cases h⟩
  | k :: ks, a, ha, hk => by
    have hk0 := hk k (by simp)
    rw [List.foldl_cons]
    by_cases c : less (nth l a) (nth l k) = true
    · rw [if_pos c]
      obtain ⟨i1, i2⟩ := first_max_aux l hp ks k hk0 fun j hj => hk j (by simp [hj])
      rw [less_val (hp _ (nth_mem ha)) (hp _ (nth_mem hk0))] at c
      have c' := of_decide_eq_true c
      refine ⟨Rat.le_trans (Rat.le_of_lt c') i1, fun j hj => ?_⟩
      rcases List.mem_cons.mp hj with rfl | hj
      · exact i1
      · exact i2 j hj
    · rw [if_neg c]
      obtain ⟨i1, i2⟩ := first_max_aux l hp ks a ha fun j hj => hk j (by simp [hj])
      rw [less_val (hp _ (nth_mem ha)) (hp _ (nth_mem hk0))] at c
      have c' : ¬ val (nth l a) < val (nth l k) := fun h => c (decide_eq_true h)
      refine ⟨i1, fun j hj => ?_⟩
      rcases List.mem_cons.mp hj with rfl | hj
      · exact Rat.le_trans (Rat.not_lt.mp c') i1
      · exact i2 j hj
theorem first_max {l : List (Int × Int)} (hp : ∀ x ∈ l, 0 < x.2) {k : Nat} (hk : k < l.length) : val (nth l k) ≤ val (nth l (firstOf l)) :=
  (first_max_aux l hp (List.range l.length) 0 (by omega) fun j hj => List.mem_range.mp hj).2 k (List.mem_range.mpr hk)
theorem mem_nth {l : List (Int × Int)} {x : Int × Int} (h : x ∈ l) : ∃ k, k < l.length ∧ nth l k = x := by
  obtain ⟨k, hk, e⟩ := List.mem_iff_getElem.mp h
  exact ⟨k, hk, by unfold nth; rw [List.getD_eq_getElem?_getD, List.getElem?_eq_getElem hk]; exact e⟩
theorem perm_erase {α : Type} : ∀ (l : List α) (k : Nat) (h : k < l.length), (l[k] :: l.eraseIdx k).Perm l
  | x :: l, 0, _ => List.Perm.refl _
  | x :: l, k + 1, h => by
    have ih := perm_erase l k (by simpa using h)
    exact (List.Perm.swap _ _ _).trans (ih.cons x)
theorem erase_perm {l : List (Int × Int)} {k : Nat} (h : k < l.length) : (nth l k :: l.eraseIdx k).Perm l := by
  have e : nth l k = l[k] := by unfold nth; rw [List.getD_eq_getElem?_getD, List.getElem?_eq_getElem h]; rfl
  rw [e]
  exact perm_erase l k h
theorem fall_perm : ∀ {n : Nat} {l : List (Int × Int)}, l.length = n → (fallP l).Perm l
  | 0, l, h => by rw [List.eq_nil_of_length_eq_zero h]; exact .nil
  | n + 1, l, h => by
    have fl := first_lt (l := l) (by omega)
    rw [fall_succ (by omega)]
    exact ((fall_perm (n := n) (by rw [List.length_eraseIdx_of_lt fl]; omega)).cons _).trans (erase_perm fl)
def Desc : List (Int × Int) → Prop
  | [] => True
  | x :: r => (∀ y ∈ r, val y ≤ val x) ∧ Desc r
theorem fall_desc : ∀ {n : Nat} {l : List (Int × Int)}, l.length = n → (∀ x ∈ l, 0 < x.2) → Desc (fallP l)
  | 0, l, h, _ => by rw [List.eq_nil_of_length_eq_zero h]; trivial
  | n + 1, l, h, hp => by
    have fl := first_lt (l := l) (by omega)
    rw [fall_succ (by omega)]
    refine ⟨fun y hy => ?_, fall_desc (n := n) (by rw [List.length_eraseIdx_of_lt fl]; omega) fun x hx => hp x (List.mem_of_mem_eraseIdx hx)⟩
    obtain ⟨k, hk, rfl⟩ := mem_nth (List.mem_of_mem_eraseIdx (fall_mem rfl y hy))
    exact first_max hp hk
/-- the sum of the values -/
def vs (l : List (Int × Int)) : Rat := (l.map val).sum
theorem vs_nil : vs [] = 0 := rfl
theorem vs_cons (x : Int × Int) (l : List (Int × Int)) : vs (x :: l) = val x + vs l := by unfold vs; rw [List.map_cons, List.sum_cons]
theorem vs_app (l m : List (Int × Int)) : vs (l ++ m) = vs l + vs m := by unfold vs; rw [List.map_append, List.sum_append]
theorem vs_perm {l m : List (Int × Int)} (h : l.Perm m) : vs l = vs m := by
  induction h with
  | nil => rfl
  | cons x _ ih => rw [vs_cons, vs_cons, ih]
  | swap x y l => rw [vs_cons, vs_cons, vs_cons, vs_cons]; grind
  | trans _ _ i1 i2 => rw [i1, i2]
theorem top_sum : ∀ {s : List (Int × Int)} (t u : List (Int × Int)), Desc s → (t ++ u).Perm s → vs t ≤ vs (s.take t.length)
  | [], t, u, _, p => by
    have : t ++ u = [] := List.Perm.eq_nil p
    rw [(List.append_eq_nil_iff.mp this).1]
    exact Rat.le_refl
  | x :: s, [], u, _, p => Rat.le_refl
  | x :: s, y :: t, u, d, p => by
    rw [List.length_cons, List.take_succ_cons, vs_cons, vs_cons]
    have hx : x ∈ (y :: t) ++ u := p.mem_iff.mpr (by simp)
    rcases List.mem_append.mp hx with h | h
    · have p1 : ((y :: t).erase x ++ u).Perm s := by
        have q := (List.perm_cons_erase h).symm
        have : (x :: ((y :: t).erase x ++ u)).Perm (x :: s) := by
          refine List.Perm.trans ?_ p
          rw [← List.cons_append]
          exact q.append_right u
        exact this.cons_inv
      have ih := top_sum ((y :: t).erase x) u d.2 p1
      have e1 : vs (y :: t) = val x + vs ((y :: t).erase x) := by rw [vs_perm (List.perm_cons_erase h), vs_cons]
      have l1 : ((y :: t).erase x).length = t.length := by rw [List.length_erase_of_mem h]; rfl
      rw [vs_cons] at e1
      rw [l1] at ih
      rw [e1]
      exact Rat.add_le_add_left.mpr ih
    · have p1 : (t ++ y :: u.erase x).Perm s := by
        have : (x :: (t ++ y :: u.erase x)).Perm (x :: s) := by
          refine List.Perm.trans ?_ p
          have q := List.perm_cons_erase h
          refine List.Perm.trans ?_ ((q.append_left (y :: t)).symm)
          rw [List.perm_iff_count]
          intro b
          simp only [List.count_cons, List.count_append, List.cons_append]
          omega
        exact this.cons_inv
      have ih := top_sum t (y :: u.erase x) d.2 p1
      have hy : val y ≤ val x := by
        have : y ∈ x :: s := p.mem_iff.mp (by simp)
        rcases List.mem_cons.mp this with rfl | h'
        · exact Rat.le_refl
        · exact d.1 y h'
      exact Rat.le_trans (Rat.add_le_add_right.mpr hy) (Rat.add_le_add_left.mpr ih)
def Mb' (n k : Nat) : Rat := (k : Rat) * hsum k (n - k)
theorem keepV_iff {n : Nat} : ∀ (f : List (Int × Int)) (k : Nat) (so : Rat), keepV n k so f = true ↔ (∀ x ∈ f, 1 / (n : Rat) - 1 ≤ val x) ∧ ∀ j, 1 ≤ j → j ≤ f.length → so + vs (f.take j) ≤ Mb' n (k + j)
  | [], k, so => by
    refine ⟨fun _ => ⟨fun x h => (nomatch h), fun j h1 h2 => (by simp at h2; omega)⟩, fun _ => rfl⟩
  | x :: r, k, so => by
    have ih := keepV_iff r (k + 1) (so + val x) (n := n)
    unfold keepV
    by_cases c : (val x < 1 / (n : Rat) - 1) ∨ (((k + 1 : Nat) : Rat) * hsum (k + 1) (n - (k + 1)) < so + val x)
    · rw [if_pos c]
      refine ⟨fun e => by (cases e), fun ⟨h1, h2⟩ => ?_⟩
      rcases c with c | c
      · exact absurd c (Rat.not_lt.mpr (h1 x (by simp)))
      · have := h2 1 (Nat.le_refl _) (by simp)
        rw [List.take_succ_cons, List.take_zero, vs_cons, vs_nil, Rat.add_zero] at this
        exact absurd c (Rat.not_lt.mpr this)
    · rw [if_neg c, ih]
      have c1 : 1 / (n : Rat) - 1 ≤ val x := Rat.not_lt.mp fun h => c (.inl h)
      have c2 : so + val x ≤ Mb' n (k + 1) := Rat.not_lt.mp fun h => c (.inr h)
      refine ⟨fun ⟨h1, h2⟩ => ⟨fun y hy => ?_, fun j j1 j2 => ?_⟩, fun ⟨h1, h2⟩ => ⟨fun y hy => h1 y (by simp [hy]), fun j j1 j2 => ?_⟩⟩
      · rcases List.mem_cons.mp hy with rfl | hy
        · exact c1
        · exact h1 y hy
      · obtain ⟨i, rfl⟩ : ∃ i, j = i + 1 := ⟨j - 1, by omega⟩
        rw [List.take_succ_cons, vs_cons]
        by_cases hi : i = 0
        · subst hi
          rw [List.take_zero, vs_nil, Rat.add_zero]
          exact c2
        · have := h2 i (by omega) (by simpa using j2)
          rw [show k + (i + 1) = k + 1 + i by omega, ← Rat.add_assoc]
          exact this
      · have := h2 (j + 1) (by omega) (by simpa using j2)
        rw [List.take_succ_cons, vs_cons, ← Rat.add_assoc, show k + (j + 1) = k + 1 + j by omega] at this
        exact this
/-- the bounds kept, by all choices of fields -/
theorem keepP_iff {l : List (Int × Int)} (hp : ∀ x ∈ l, 0 < x.2) : keepP l = true ↔ (∀ x ∈ l, 1 / (l.length : Rat) - 1 ≤ val x) ∧ ∀ t u : List (Int × Int), (t ++ u).Perm l → 1 ≤ t.length → vs t ≤ Mb' l.length t.length := by
  unfold keepP
  rw [keepV_iff]
  have pm := fall_perm (l := l) rfl
  have ds := fall_desc rfl hp
  have fl := fall_len (l := l) rfl
  refine ⟨fun ⟨h1, h2⟩ => ⟨fun x hx => h1 x (pm.mem_iff.mpr hx), fun t u p ht => ?_⟩, fun ⟨h1, h2⟩ => ⟨fun x hx => h1 x (pm.mem_iff.mp hx), fun j j1 j2 => ?_⟩⟩
  · have q := p.trans pm.symm
    have tl : t.length ≤ (fallP l).length := by rw [← q.length_eq, List.length_append]; omega
    have := h2 t.length ht tl
    rw [Rat.zero_add, Nat.zero_add] at this
    exact Rat.le_trans (top_sum t u ds q) this
  · have := h2 ((fallP l).take j) ((fallP l).drop j) (by rw [List.take_append_drop]; exact pm) (by rw [List.length_take]; omega)
    rw [List.length_take, Nat.min_eq_left j2] at this
    rw [Rat.zero_add, Nat.zero_add]
    exact this
theorem div_le_iff {a b c : Rat} (hb : 0 < b) : a / b ≤ c ↔ a ≤ c * b := by
  rw [← Rat.not_lt, ← Rat.not_lt, Rat.lt_div_iff hb]
theorem le_div_iff {a b c : Rat} (hc : 0 < c) : a ≤ b / c ↔ a * c ≤ b := by
  rw [← Rat.not_lt, ← Rat.not_lt, Rat.div_lt_iff hc]
end PM
namespace PM
open PySem L2 PD PO
/-! ### membership; chosen elements -/
theorem shp_int (i : Int) : shp (.int i) = true := (pl_int i).shp (by decide)
theorem any_P (x : Int × Int) : ∀ l : List (Int × Int), ((toPs (l.map P)).any fun z => PyData.eqv z (toP (P x))) = decide (x ∈ l)
  | [] => rfl
  | y :: l => by
    rw [List.map_cons, toPs, List.any_cons, eqv_P, any_P x l, ← Bool.decide_or]
    exact decide_eq_decide.mpr (by rw [List.mem_cons]; exact ⟨fun h => h.imp Eq.symm id, fun h => h.imp Eq.symm id⟩)
theorem inL_def {x : D} {ds : List D} : dInL x (.lst ds) = if shp x && shp (.lst ds) then some (.bl ((toPs ds).any fun z => PyData.eqv z (toP x))) else none := by unfold dInL; rfl
theorem ninL_def {x : D} {ds : List D} : dNinL x (.lst ds) = if shp x && shp (.lst ds) then some (.bl (!(toPs ds).any fun z => PyData.eqv z (toP x))) else none := by unfold dNinL; rfl
theorem inL_P {x : Int × Int} {l : List (Int × Int)} : dInL (P x) (.lst (l.map P)) = some (.bl (decide (x ∈ l))) := by
  rw [inL_def, shp_P, (shp_lP l).1, Bool.and_self, if_pos rfl, any_P]
theorem any_int (x : Nat) : ∀ l : List Nat, ((toPs (l.map fun (k : Nat) => D.int (k : Int))).any fun z => PyData.eqv z (toP (.int (x : Int)))) = decide (x ∈ l)
  | [] => rfl
  | y :: l => by
    have e : PyData.eqv (toP (.int (y : Int))) (toP (.int (x : Int))) = decide (y = x) := by
      have : PyData.eqv (toP (.int (y : Int))) (toP (.int (x : Int))) = ((y : Int) == (x : Int)) := rfl
      rw [this, Bool.beq_eq_decide_eq]
      exact decide_eq_decide.mpr (by omega)
    rw [List.map_cons, toPs, List.any_cons, e, any_int x l, ← Bool.decide_or]
    exact decide_eq_decide.mpr (by rw [List.mem_cons]; exact ⟨fun h => h.imp Eq.symm id, fun h => h.imp Eq.symm id⟩)
theorem pl_nats (l : List Nat) : Pl 1 (.lst (l.map fun (k : Nat) => D.int (k : Int))) := pl_lst (pl_map fun k => pl_int _)
theorem inL_nat {x : Nat} {l : List Nat} : dInL (.int (x : Int)) (.lst (l.map fun (k : Nat) => D.int (k : Int))) = some (.bl (decide (x ∈ l))) := by
  rw [inL_def, shp_int, (pl_nats l).shp (by decide), Bool.and_self, if_pos rfl, any_int]
theorem ninL_nat {x : Nat} {l : List Nat} : dNinL (.int (x : Int)) (.lst (l.map fun (k : Nat) => D.int (k : Int))) = some (.bl (!decide (x ∈ l))) := by
  rw [ninL_def, shp_int, (pl_nats l).shp (by decide), Bool.and_self, if_pos rfl, any_int]
/-- those that pass the test -/
theorem comp_flt {α β : Type} {t : Tgt} {test : En → Option Bool} {elt : En → Option D} {ρ : En} (e : α → D) (f : β → D) (g : α → β) (p : α → Bool) : ∀ as : List α, (∀ a ∈ as, ∃ ρ1, stD t (e a) ρ = some ρ1 ∧ test ρ1 = some (p a) ∧ elt ρ1 = some (f (g a))) →
    compD t test elt ρ (as.map e) = some (((as.filter p).map g).map f)
  | [], _ => rfl
  | a :: as, h => by
    obtain ⟨ρ1, h1, h2, h3⟩ := h a (by simp)
    have ih := comp_flt e f g p as fun x hx => h x (by simp [hx])
    rw [List.map_cons]
    unfold compD
    cases c : p a with
    | true => simp only [h1, h2, h3, ih, c, Option.bind_some, if_true, Option.map_some, List.map_cons, List.filter_cons]
    | false => simp only [h1, h2, ih, c, Option.bind_some, Bool.false_eq_true, if_false, List.filter_cons]
/-! ### sums -/
theorem fold_pos : ∀ (l : List (Int × Int)) (a : Int × Int), 0 < a.2 → (∀ x ∈ l, 0 < x.2) → val (l.foldl plus a) = val a + (l.map val).sum
  | [], a, _, _ => by simp [Rat.add_zero]
  | x :: l, a, h, hl => by
    rw [List.foldl_cons, fold_pos l _ (plus_pos h (hl x (by simp))) (fun y hy => hl y (by simp [hy])), val_plus h (hl x (by simp)), List.map_cons, List.sum_cons]
    grind
theorem sumP_val {l : List (Int × Int)} (h : ∀ x ∈ l, 0 < x.2) : val (sumP l) = (l.map val).sum := by
  unfold sumP
  rw [fold_pos l _ (by decide) h, val_zero, Rat.zero_add]
/-! ### one hour keeps the bounds -/
theorem map_perm {α β : Type} (f : α → β) {m m' : List β} (h : m.Perm m') : ∀ {Z : List α}, m' = Z.map f → ∃ Z' : List α, Z'.Perm Z ∧ Z'.map f = m := by
  induction h with
  | nil => intro Z e; exact ⟨[], by rw [List.map_eq_nil_iff.mp e.symm], rfl⟩
  | cons x _ ih =>
    intro Z e
    cases Z with
    | nil => cases e
    | cons z Z =>
      rw [List.map_cons] at e
      injection e with e1 e2
      obtain ⟨Z', p, q⟩ := ih e2
      exact ⟨z :: Z', p.cons z, by rw [List.map_cons, q, ← e1]⟩
  | swap x y l =>
    intro Z e
    match Z, e with
    | a :: b :: Z, e =>
      rw [List.map_cons, List.map_cons] at e
      injection e with e1 e2
      injection e2 with e2 e3
      exact ⟨b :: a :: Z, List.Perm.swap _ _ _, by rw [List.map_cons, List.map_cons, ← e1, ← e2, ← e3]⟩
  | trans _ _ i1 i2 =>
    intro Z e
    obtain ⟨Z1, p1, q1⟩ := i2 e
    obtain ⟨Z2, p2, q2⟩ := i1 q1.symm
    exact ⟨Z2, p2.trans p1, q2⟩
theorem split_map {α β : Type} (f : α → β) {t u : List β} {Z : List α} (h : (t ++ u).Perm (Z.map f)) : ∃ A B : List α, (A ++ B).Perm Z ∧ A.map f = t ∧ B.map f = u := by
  obtain ⟨Z', p, q⟩ := map_perm f h rfl
  obtain ⟨A, B, e, e1, e2⟩ := List.map_eq_append_iff.mp q
  exact ⟨A, B, e ▸ p, e1, e2⟩
theorem hsum_front : ∀ (c k : Nat), hsum k (c + 1) = 1 / ((k + 1 : Nat) : Rat) + hsum (k + 1) c
  | 0, k => by simp only [hsum, Nat.add_zero]; grind
  | c + 1, k => by
    rw [hsum, hsum_front c k, hsum, Rat.add_assoc, show k + 1 + (c + 1) = k + 1 + 1 + c by omega]
theorem Mb_step {n k : Nat} (h : k + 1 ≤ n) : ((k + 1 : Nat) : Rat) * Mb' n k = (k : Rat) * (Mb' n (k + 1) + 1) := by
  unfold Mb'
  obtain ⟨c, rfl⟩ : ∃ c, n = k + 1 + c := ⟨n - (k + 1), by omega⟩
  rw [show k + 1 + c - k = c + 1 by omega, show k + 1 + c - (k + 1) = c by omega, hsum_front]
  have h0 : ((k + 1 : Nat) : Rat) ≠ 0 := by exact_mod_cast (show k + 1 ≠ 0 by omega)
  generalize ((k + 1 : Nat) : Rat) = a at *
  generalize hsum (k + 1) c = b at *
  grind
theorem vs_le {r : Rat} : ∀ {t : List (Int × Int)}, (∀ x ∈ t, val x ≤ r) → vs t ≤ (t.length : Rat) * r
  | [], _ => by rw [vs_nil, List.length_nil]; grind
  | x :: t, h => by
    have ih := vs_le (t := t) fun y hy => h y (by simp [hy])
    have := h x (by simp)
    rw [vs_cons, List.length_cons]
    push_cast
    have e : ((t.length : Rat) + 1) * r = r + (t.length : Rat) * r := by grind
    rw [e]
    exact Rat.le_trans (Rat.add_le_add_right.mpr this) (Rat.add_le_add_left.mpr ih)
theorem vs_nn : ∀ {t : List (Int × Int)}, (∀ x ∈ t, 0 ≤ val x) → 0 ≤ vs t
  | [], _ => Rat.le_refl
  | x :: t, h => by
    rw [vs_cons]
    exact Rat.add_nonneg (h x (by simp)) (vs_nn fun y hy => h y (by simp [hy]))
/-- one field with its lag and share, raised -/
def up (z : (Int × Int) × (Int × Int)) : Int × Int := plus z.1 z.2
theorem vs_up : ∀ {W : List ((Int × Int) × (Int × Int))}, (∀ z ∈ W, 0 < z.1.2 ∧ 0 < z.2.2) → vs (W.map up) = vs (W.map Prod.fst) + vs (W.map Prod.snd)
  | [], _ => by rw [List.map_nil, List.map_nil, List.map_nil, vs_nil, Rat.add_zero]
  | z :: W, h => by
    rw [List.map_cons, List.map_cons, List.map_cons, vs_cons, vs_cons, vs_cons, vs_up fun y hy => h y (by simp [hy])]
    have : val (up z) = val z.1 + val z.2 := val_plus (h z (by simp)).1 (h z (by simp)).2
    rw [this]
    grind
theorem keeps_core {z : (Int × Int) × (Int × Int)} {W : List ((Int × Int) × (Int × Int))} {m l s : List (Int × Int)}
    (hm : m.Perm (minus (up z) (1, 1) :: W.map up)) (hl : l.Perm (z.1 :: W.map Prod.fst)) (hs : s.Perm (z.2 :: W.map Prod.snd))
    (lp : ∀ x ∈ l, 0 < x.2) (sp : ∀ x ∈ s, 0 < x.2) (sn : ∀ x ∈ s, 0 ≤ val x) (s1 : vs s = 1) (l0 : vs l = 0) (top : ∀ y ∈ W, val (up y) ≤ val (up z)) (mp : ∀ x ∈ m, 0 < x.2) (kl : keepP l = true) : keepP m = true := by
  have zp1 : 0 < z.1.2 := lp _ (hl.mem_iff.mpr (by simp))
  have zp2 : 0 < z.2.2 := sp _ (hs.mem_iff.mpr (by simp))
  have zup : val (up z) = val z.1 + val z.2 := val_plus zp1 zp2
  have zpos : 0 < (up z).2 := plus_pos zp1 zp2
  have hz : val (minus (up z) (1, 1)) = val (up z) - 1 := by rw [val_minus zpos (by decide), val_one]
  have wp : ∀ y ∈ W, 0 < y.1.2 ∧ 0 < y.2.2 := fun y hy => ⟨lp _ (hl.mem_iff.mpr (List.mem_cons_of_mem _ (List.mem_map_of_mem hy))), sp _ (hs.mem_iff.mpr (List.mem_cons_of_mem _ (List.mem_map_of_mem hy)))⟩
  have wn : ∀ y ∈ W, 0 ≤ val y.2 := fun y hy => sn _ (hs.mem_iff.mpr (List.mem_cons_of_mem _ (List.mem_map_of_mem hy)))
  have ml : m.length = l.length := by rw [hm.length_eq, hl.length_eq]; simp
  have nl : l.length = W.length + 1 := by rw [hl.length_eq]; simp
  have sW : val z.2 + vs (W.map Prod.snd) = 1 := by rw [← vs_cons, ← vs_perm hs, s1]
  have lW : val z.1 + vs (W.map Prod.fst) = 0 := by rw [← vs_cons, ← vs_perm hl, l0]
  obtain ⟨k1, k2⟩ := (keepP_iff lp).mp kl
  refine (keepP_iff mp).mpr ⟨fun x hx => ?_, fun t u p ht => ?_⟩
  · rw [ml]
    rcases List.mem_cons.mp (hm.mem_iff.mp hx) with rfl | h
    · rw [hz]
      have a := vs_le (r := val (up z)) (t := W.map up) fun y hy => by
        obtain ⟨w, hw, rfl⟩ := List.mem_map.mp hy
        exact top w hw
      rw [vs_up wp, List.length_map] at a
      have b : 1 ≤ (l.length : Rat) * val (up z) := by
        rw [nl]; push_cast
        have e : ((W.length : Rat) + 1) * val (up z) = val (up z) + (W.length : Rat) * val (up z) := by grind
        rw [e]
        have c : (1 : Rat) = val (up z) + (vs (W.map Prod.fst) + vs (W.map Prod.snd)) := by rw [zup]; grind
        rw [c]
        exact Rat.add_le_add_left.mpr a
      have np : (0 : Rat) < (l.length : Rat) := by exact_mod_cast (show 0 < l.length by omega)
      have d : 1 / (l.length : Rat) ≤ val (up z) := (PM.div_le_iff np).mpr (by rw [Rat.mul_comm]; exact b)
      rw [Rat.sub_eq_add_neg, Rat.sub_eq_add_neg]
      exact Rat.add_le_add_right.mpr d
    · obtain ⟨w, hw, rfl⟩ := List.mem_map.mp h
      have a := k1 w.1 (hl.mem_iff.mpr (List.mem_cons_of_mem _ (List.mem_map_of_mem hw)))
      have e : val (up w) = val w.1 + val w.2 := val_plus (wp w hw).1 (wp w hw).2
      have b := wn w hw
      rw [e]
      grind
  · rw [ml]
    have q := p.trans hm
    have hx : minus (up z) (1, 1) ∈ t ++ u := q.mem_iff.mpr (by simp)
    have sums : ∀ {A B : List ((Int × Int) × (Int × Int))}, (A ++ B).Perm W → val z.2 + vs (A.map Prod.snd) ≤ 1 ∧ val z.1 + vs (A.map Prod.fst) ≤ Mb' l.length (A.length + 1) := fun {A B} pw => by
      have e1 : vs (A.map Prod.snd) + vs (B.map Prod.snd) = vs (W.map Prod.snd) := by rw [← vs_app, ← List.map_append]; exact vs_perm (pw.map _)
      have nb : 0 ≤ vs (B.map Prod.snd) := vs_nn fun y hy => by
        obtain ⟨w, hw, rfl⟩ := List.mem_map.mp hy
        exact wn w (pw.mem_iff.mp (by simp [hw]))
      have pl : ((z.1 :: A.map Prod.fst) ++ B.map Prod.fst).Perm l := by
        refine List.Perm.trans ?_ hl.symm
        rw [List.cons_append, ← List.map_append]
        exact (pw.map _).cons _
      have b := k2 _ _ pl (by simp)
      rw [vs_cons, List.length_cons, List.length_map] at b
      exact ⟨by grind, b⟩
    rcases List.mem_append.mp hx with h | h
    · have e := vs_perm (List.perm_cons_erase h)
      have lt : t.length = (t.erase (minus (up z) (1, 1))).length + 1 := by rw [List.length_erase_of_mem h]; omega
      have p1 : (t.erase (minus (up z) (1, 1)) ++ u).Perm (W.map up) := by
        have : (minus (up z) (1, 1) :: (t.erase (minus (up z) (1, 1)) ++ u)).Perm (minus (up z) (1, 1) :: W.map up) := by
          refine List.Perm.trans ?_ q
          rw [← List.cons_append]
          exact (List.perm_cons_erase h).symm.append_right u
        exact this.cons_inv
      obtain ⟨A, B, pw, ea, eb⟩ := split_map up p1
      obtain ⟨b1, b2⟩ := sums pw
      have va : vs (A.map up) = vs (A.map Prod.fst) + vs (A.map Prod.snd) := vs_up fun y hy => wp y (pw.mem_iff.mp (by simp [hy]))
      rw [e, vs_cons, hz, ← ea, va, lt, ← ea, List.length_map, zup]
      grind
    · have p1 : (t ++ u.erase (minus (up z) (1, 1))).Perm (W.map up) := by
        have : (minus (up z) (1, 1) :: (t ++ u.erase (minus (up z) (1, 1)))).Perm (minus (up z) (1, 1) :: W.map up) := by
          refine List.Perm.trans ?_ q
          refine List.Perm.trans ?_ (((List.perm_cons_erase h).append_left t).symm)
          exact List.perm_middle.symm
        exact this.cons_inv
      obtain ⟨A, B, pw, ea, eb⟩ := split_map up p1
      obtain ⟨b1, b2⟩ := sums pw
      have va : vs (A.map up) = vs (A.map Prod.fst) + vs (A.map Prod.snd) := vs_up fun y hy => wp y (pw.mem_iff.mp (by simp [hy]))
      have tl : t.length = A.length := by rw [← ea, List.length_map]
      have c := vs_le (r := val (up z)) (t := A.map up) fun y hy => by
        obtain ⟨w, hw, rfl⟩ := List.mem_map.mp hy
        exact top w (pw.mem_iff.mp (by simp [hw]))
      rw [List.length_map] at c
      have aw : A.length ≤ W.length := by have := pw.length_eq; rw [List.length_append] at this; omega
      have ms := Mb_step (n := l.length) (k := A.length) (by omega)
      rw [tl, ← ea]
      have kp : (0 : Rat) < ((A.length + 1 : Nat) : Rat) := by exact_mod_cast Nat.succ_pos _
      have kn : (0 : Rat) ≤ (A.length : Rat) := by exact_mod_cast Nat.zero_le _
      have d1 : val (up z) + vs (A.map up) ≤ Mb' l.length (A.length + 1) + 1 := by rw [zup, va]; grind
      have d2 : (A.length : Rat) * (val (up z) + vs (A.map up)) ≤ (A.length : Rat) * (Mb' l.length (A.length + 1) + 1) := Rat.mul_le_mul_of_nonneg_left d1 kn
      have d3 : ((A.length + 1 : Nat) : Rat) * vs (A.map up) ≤ ((A.length + 1 : Nat) : Rat) * Mb' l.length A.length := by
        rw [ms]
        refine Rat.le_trans ?_ d2
        push_cast
        grind
      exact Rat.le_of_mul_le_mul_left d3 kp
theorem eraseIdx_map2 {α β : Type} (f : α → β) : ∀ (l : List α) (k : Nat), (l.map f).eraseIdx k = (l.eraseIdx k).map f
  | [], _ => rfl
  | _ :: _, 0 => rfl
  | x :: l, k + 1 => by rw [List.map_cons, List.eraseIdx_cons_succ, List.eraseIdx_cons_succ, List.map_cons, eraseIdx_map2 f l k]
theorem keeps_hour {n m : Nat} {l s : List (Int × Int)} (hl : ∀ x ∈ l, Pt n x) (hs : ∀ x ∈ s, Pt m x) (h1 : 1 ≤ l.length) (hn : s.length = l.length) (sn : ∀ x ∈ s, 0 ≤ x.1) (s1 : (s.map val).sum = 1) (l0 : (l.map val).sum = 0) (kl : keepP l = true) : keepP (hourP l s) = true := by
  have rl := raise_len hn
  have fl := first_lt (l := raise l s) (by omega)
  have zl : (l.zip s).length = l.length := by rw [List.length_zip, hn, Nat.min_self]
  have mx : ∀ k, k < (raise l s).length → val (nth (raise l s) k) ≤ val (nth (raise l s) (firstOf (raise l s))) := fun k hk => first_max (fun x hx => (raise_pt hl hs x hx).pos) hk
  have hp := hourP_pt hl hs hn h1
  unfold hourP at hp ⊢
  generalize firstOf (raise l s) = j at *
  have zj : j < (l.zip s).length := by omega
  have pz := perm_erase (l.zip s) j zj
  have en : nth (raise l s) j = up ((l.zip s)[j]) := by
    unfold nth raise up
    rw [List.getD_eq_getElem?_getD, List.getElem?_map, List.getElem?_eq_getElem zj]; rfl
  rw [en] at hp mx ⊢
  have hset : ((raise l s).set j (minus (up (l.zip s)[j]) (1, 1))).Perm (minus (up (l.zip s)[j]) (1, 1) :: ((l.zip s).eraseIdx j).map up) := by
    have q := perm_erase ((raise l s).set j (minus (up (l.zip s)[j]) (1, 1))) j (by rw [List.length_set]; omega)
    rw [List.getElem_set_self] at q
    refine q.symm.trans ?_
    have : ((raise l s).set j (minus (up (l.zip s)[j]) (1, 1))).eraseIdx j = ((l.zip s).eraseIdx j).map up := by
      rw [List.eraseIdx_set_eq]
      unfold raise up
      rw [eraseIdx_map2]
    rw [this]
  have f1 : (l.zip s).map Prod.fst = l := List.map_fst_zip (by omega)
  have f2 : (l.zip s).map Prod.snd = s := List.map_snd_zip (by omega)
  have hl' : l.Perm ((l.zip s)[j].1 :: ((l.zip s).eraseIdx j).map Prod.fst) := by
    have := (pz.map Prod.fst).symm
    rw [f1, List.map_cons] at this
    exact this
  have hs' : s.Perm ((l.zip s)[j].2 :: ((l.zip s).eraseIdx j).map Prod.snd) := by
    have := (pz.map Prod.snd).symm
    rw [f2, List.map_cons] at this
    exact this
  refine keeps_core hset hl' hs' (fun x hx => (hl x hx).pos) (fun x hx => (hs x hx).pos) (fun x hx => ?_) s1 l0 (fun y hy => ?_) (fun x hx => (hp x hx).pos) kl
  · unfold val
    exact Rat.divInt_nonneg (sn x hx) (by have := (hs x hx).pos; omega)
  · have hm : up y ∈ raise l s := by
      unfold raise
      exact List.mem_map_of_mem (List.mem_of_mem_eraseIdx hy)
    obtain ⟨k, hk, e⟩ := mem_nth hm
    rw [← e]
    exact mx k hk
theorem hu1 {k : Nat} {A : Around} (r : Room k A) : A.units + 1 < cLine := by have := hu65 r; omega
end PM
namespace PM
open PySem L2 PD PO
/-! foe_shares(many, turns): slots 0:many 1:turns 2:had 3:place 4:left -/
def foe_shares_s2 : EnT → Option OutT := (uFor (iL (eV 1)) (.nm 3) (uPut (nV 2) (eV 3) (xP (pFr (eC (.bl true))))))
def foe_shares_s3 : EnT → Option OutT := (uAsg (.nm 4) (xP (pIm (e2 dSub (eV 0) (eCB cLenA (aCons (eV 2) aNil))))))
def foe_shares_s4 : EnT → Option OutT := (uIf (tB2 (e2 dEq (eV 4) (eC (.int 0)))) (uRet (xP (pLs (eComp [3] (iR1 (aCons (eV 0) aNil)) (.nm 3) tTrue (eTup (aCons (eC (.int 1)) (aCons (eV 0) aNil))))))) uNil)
def foe_shares_s5 : EnT → Option OutT := (uRet (xP (pLsI (eComp [3] (iR1 (aCons (eV 0) aNil)) (.nm 3) tTrue (eIf (tB2 (e2 dInK (eV 3) (eV 2))) (eC (.tup [(.int 0), (.int 1)])) (eTup (aCons (eC (.int 1)) (aCons (eV 4) aNil))))))))
def foe_sharesB : EnT → Option OutT := (uSeq (uAsg (.nm 2) (xP pDic0))
  (uSeq foe_shares_s2
  (uSeq foe_shares_s3
  (uSeq foe_shares_s4
  foe_shares_s5))))
def foe_sharesF : List T → Option RT := fnR [0, 1] 2 5 foe_sharesB
end PM
namespace PM
open PySem L2 PD PO
/-! ### rows of small numbers -/
def W (l : List Nat) : List D := l.map fun (k : Nat) => D.int (k : Int)
theorem W_len (l : List Nat) : (W l).length = l.length := by unfold W; rw [List.length_map]
theorem imms_W : ∀ l : List Nat, imms (W l) = true
  | [] => rfl
  | k :: l => by unfold W; rw [List.map_cons]; unfold imms; rw [show imm (D.int (k : Int)) = true from rfl, Bool.true_and]; exact imms_W l
theorem inL_W {x : Nat} {l : List Nat} : dInL (.int (x : Int)) (.lst (W l)) = some (.bl (decide (x ∈ l))) := inL_nat
theorem dNe_W (l : List Nat) : dNe (.lst (W l)) (.lst (W l)) = some (.bl false) := Pl.ne (pl_nats l) (by decide)
theorem cut_sub {α : Type} (f : α → D) (l : List α) (lo hi : Option Int) : ∃ l' : List α, cutD (l.map f) lo hi = l'.map f ∧ l'.Sublist l := by
  unfold cutD
  rw [← List.map_drop, ← List.map_take]
  exact ⟨_, rfl, (List.take_sublist _ _).trans (List.drop_sublist _ _)⟩
/-! ### the names that had a turn -/
def hadN (ds : List Nat) : List Nat → List Nat
  | [] => ds
  | k :: ts => hadN (if k ∈ ds then ds else ds ++ [k]) ts
def Hd (ds : List Nat) : T := .nd (.dic (ds.map fun (k : Nat) => (Sum.inl (k : Int) : Key))) (ds.map fun _ => T.fr (.bl true))
def hdD (ds : List Nat) : List (Key × D) := ds.map fun (k : Nat) => ((Sum.inl (k : Int) : Key), D.bl true)
theorem Hd_d (ds : List Nat) : (Hd ds).d = some (.dic (hdD ds)) := by
  unfold Hd hdD
  rw [o_dN, o_dsm2, o_nd3, List.zip_map']
theorem hdD_len (ds : List Nat) : (hdD ds).length = ds.length := by unfold hdD; rw [List.length_map]
theorem hdD_get {k : Nat} : ∀ ds : List Nat, (getD? (Sum.inl (k : Int)) (hdD ds)).isSome = decide (k ∈ ds)
  | [] => rfl
  | d :: ds => by
    have ih := hdD_get (k := k) ds
    unfold hdD at ih ⊢
    rw [List.map_cons, getD?]
    by_cases c : d = k
    · subst c; simp
    · have c2 : ¬ ((Sum.inl (d : Int) : Key) = Sum.inl (k : Int)) := fun e => c (by injection e with e; omega)
      rw [if_neg c2, ih]
      refine decide_eq_decide.mpr ?_
      rw [List.mem_cons]
      exact ⟨.inr, fun h => h.resolve_left fun e => c e.symm⟩
theorem idxK_mem {k : Nat} : ∀ ds : List Nat, k ∈ ds → ∃ j, idxK (Sum.inl (k : Int)) (ds.map fun (k : Nat) => (Sum.inl (k : Int) : Key)) = some j
  | d :: ds, h => by
    rw [List.map_cons, idxK]
    by_cases c : (Sum.inl (d : Int) : Key) = Sum.inl (k : Int)
    · rw [if_pos c]; exact ⟨0, rfl⟩
    · rw [if_neg c]
      obtain ⟨j, e⟩ := idxK_mem ds ((List.mem_cons.mp h).resolve_left fun e => c (by rw [e]))
      rw [e]; exact ⟨j + 1, rfl⟩
theorem idxK_not {k : Nat} : ∀ ds : List Nat, k ∉ ds → idxK (Sum.inl (k : Int)) (ds.map fun (k : Nat) => (Sum.inl (k : Int) : Key)) = none
  | [], _ => rfl
  | d :: ds, h => by
    rw [List.map_cons, idxK]
    have c : ¬ ((Sum.inl (d : Int) : Key) = Sum.inl (k : Int)) := fun e => h (by injection e with e; have : d = k := by omega
                                                                                 simp [this])
    rw [if_neg c, idxK_not ds fun hm => h (by simp [hm])]; rfl
theorem putH {k : Nat} {ds : List Nat} : putKey (Sum.inl (k : Int)) (.fr (.bl true)) (ds.map fun (k : Nat) => (Sum.inl (k : Int) : Key)) (ds.map fun _ => T.fr (.bl true)) = Hd (if k ∈ ds then ds else ds ++ [k]) := by
  unfold putKey
  by_cases c : k ∈ ds
  · obtain ⟨j, e⟩ := idxK_mem ds c
    rw [e, if_pos c]
    unfold Hd
    show T.nd _ _ = _
    rw [List.map_const', List.set_replicate_self]
  · rw [idxK_not ds c, if_neg c]
    unfold Hd
    show T.nd _ _ = _
    rw [List.map_append, List.map_append]; rfl
theorem keys_nodup {ds : List Nat} (h : ds.Nodup) : (ds.map fun (k : Nat) => (Sum.inl (k : Int) : Key)).Nodup := by
  rw [List.nodup_iff_pairwise_ne, List.pairwise_map]
  exact (List.nodup_iff_pairwise_ne.mp h).imp fun n e => n (by injection e with e; omega)
theorem add_nodup {k : Nat} {ds : List Nat} (h : ds.Nodup) : (if k ∈ ds then ds else ds ++ [k]).Nodup := by
  split
  · exact h
  · rename_i c
    rw [List.nodup_append]
    refine ⟨h, by simp, fun a ha b hb => ?_⟩
    rw [List.mem_singleton.mp hb]
    exact fun e => c (e ▸ ha)
theorem add_mem {k x : Nat} {ds : List Nat} : x ∈ (if k ∈ ds then ds else ds ++ [k]) ↔ x ∈ ds ∨ x = k := by
  split
  · rename_i c
    exact ⟨.inl, fun h => h.elim id fun e => e ▸ c⟩
  · simp
theorem had_nodup : ∀ (ts ds : List Nat), ds.Nodup → (hadN ds ts).Nodup
  | [], _, h => h
  | k :: ts, ds, h => had_nodup ts _ (add_nodup h)
theorem had_mem {x : Nat} : ∀ (ts ds : List Nat), x ∈ hadN ds ts ↔ x ∈ ds ∨ x ∈ ts
  | [], ds => by simp [hadN]
  | k :: ts, ds => by
    rw [hadN, had_mem ts, add_mem, List.mem_cons, or_assoc]
theorem had_len {n : Nat} {ts : List Nat} (h : ∀ t ∈ ts, t < n) : (hadN [] ts).length = ((List.range n).filter fun k => decide (k ∈ ts)).length := by
  refine List.Perm.length_eq ((List.perm_ext_iff_of_nodup (had_nodup ts [] List.nodup_nil) (List.nodup_range.sublist List.filter_sublist)).mpr fun x => ?_)
  rw [had_mem, List.mem_filter, List.mem_range]
  simp only [List.not_mem_nil, false_or, decide_eq_true_eq]
  exact ⟨fun hx => ⟨h x hx, hx⟩, fun hx => hx.2⟩
theorem had_le {n : Nat} {ts : List Nat} (h : ∀ t ∈ ts, t < n) : (hadN [] ts).length ≤ n := by
  rw [had_len h]
  exact Nat.le_trans (List.length_filter_le _ _) (by rw [List.length_range]; exact Nat.le_refl _)
theorem had_grow : ∀ (ts ds : List Nat), (hadN ds ts).length ≤ ds.length + ts.length
  | [], ds => by simp [hadN]
  | k :: ts, ds => by
    have := had_grow ts (if k ∈ ds then ds else ds ++ [k])
    rw [hadN, List.length_cons]
    have : (if k ∈ ds then ds else ds ++ [k]).length ≤ ds.length + 1 := by split <;> simp
    omega
def foe_b1 : EnT → Option OutT := (uPut (nV 2) (eV 3) (xP (pFr (eC (.bl true)))))
theorem foe_turn {x0 x1 x4 : T} {ds : List Nat} {k : Nat} (hn : ds.Nodup) (hl : ds.length ≤ 1000000) :
    foe_b1 [x0, x1, Hd ds, .fr (.int (k : Int)), x4] = some (.nx [x0, x1, Hd (if k ∈ ds then ds else ds ++ [k]), .fr (.int (k : Int)), x4]) := by
  unfold foe_b1
  have e : (ful [x0, x1, Hd ds, .fr (.int (k : Int)), x4]) = [x0.d, x1.d, (Hd ds).d, some (.int (k : Int)), x4.d] := rfl
  have ok : okLen (ds.map fun (k : Nat) => (Sum.inl (k : Int) : Key)).length = true := by rw [List.length_map, okLen]; exact decide_eq_true hl
  rw [z_put, show (xP (pFr (eC (.bl true)))) [x0, x1, Hd ds, .fr (.int (k : Int)), x4] = some (.ok (.fr (.bl true)) [x0, x1, Hd ds, .fr (.int (k : Int)), x4]) from rfl, o_pO1, e]
  show putX _ _ (some (2, [])) (some (.int (k : Int))) = _
  rw [o_pX]
  show putY _ _ _ (some (Hd ds)) _ = _
  conv => lhs; unfold Hd
  rw [o_pY, o_ky1, o_pZ, ok, decide_eq_true (keys_nodup hn), Bool.and_self, if_pos rfl, putH]
  rfl
theorem foe_loop {x0 x1 x4 : T} : ∀ (ts ds : List Nat) (v : T), ds.Nodup → ds.length + ts.length ≤ 1000000 → ∃ v', loopU (.nm 3) foe_b1 (W ts) [x0, x1, Hd ds, v, x4] = some (.nx [x0, x1, Hd (hadN ds ts), v', x4])
  | [], ds, v, _, _ => ⟨v, rfl⟩
  | k :: ts, ds, v, hn, hl => by
    rw [List.length_cons] at hl
    have gl : (if k ∈ ds then ds else ds ++ [k]).length ≤ ds.length + 1 := by split <;> simp
    obtain ⟨v', e⟩ := foe_loop ts (if k ∈ ds then ds else ds ++ [k]) (.fr (.int (k : Int))) (add_nodup hn) (by omega)
    refine ⟨v', ?_⟩
    have : W (k :: ts) = D.int (k : Int) :: W ts := rfl
    rw [this, z_loop]
    show nextT _ _ _ (turnT _ (some [x0, x1, Hd ds, .fr (.int (k : Int)), x4])) = _
    rw [o_turn, foe_turn hn (by omega), o_next1, e]
    rfl
def foeG (n : Nat) (ts : List Nat) (k : Nat) : Int × Int := if (hadN [] ts).length = n then (1, (n : Int)) else if k ∈ ts then (0, 1) else (1, ((n - (hadN [] ts).length : Nat) : Int))
def foeP (n : Nat) (ts : List Nat) : List (Int × Int) := (List.range n).map (foeG n ts)
theorem foeP_len (n : Nat) (ts : List Nat) : (foeP n ts).length = n := by unfold foeP; simp
theorem foeG_pt {n : Nat} {ts : List Nat} {k : Nat} (h1 : 1 ≤ n) (hn : n ≤ 24) (ht : ∀ t ∈ ts, t < n) : Pt 6 (foeG n ts k) := by
  have := had_le ht
  unfold foeG
  split
  · exact unit_pt (by omega) (by omega)
  · split
    · exact zero_pt.mono (by decide)
    · exact unit_pt (by omega) (by omega)
theorem foeP_pt {n : Nat} {ts : List Nat} (h1 : 1 ≤ n) (hn : n ≤ 24) (ht : ∀ t ∈ ts, t < n) : ∀ x ∈ foeP n ts, Pt 6 x := fun x hx => by
  obtain ⟨k, _, rfl⟩ := List.mem_map.mp hx
  exact foeG_pt h1 hn ht
theorem Hd_z (ds : List Nat) : (Hd ds).fz = none := rfl
theorem foe_shares_eq {n : Nat} {ts : List Nat} (h1 : 1 ≤ n) (hn : n ≤ 24) (hts : ∀ t ∈ ts, t < n) (hl : ts.length ≤ 1000) :
    foe_sharesF [.fr (.int n), .fr (.lst (W ts))] = some (.ok [.fr (.int n), .fr (.lst (W ts))] (.nd .lst (((foeP n ts).map P).map .fr))) := by
  have hh := had_le hts
  have hl2 := had_grow ts []
  obtain ⟨v, el⟩ := foe_loop (x0 := .fr (.int n)) (x1 := .fr (.lst (W ts))) (x4 := .dead) ts [] .dead List.nodup_nil (by simp only [List.length_nil]; omega)
  have s1 : uAsg (.nm 2) (xP pDic0) [.fr (.int n), .fr (.lst (W ts)), .dead, .dead, .dead] = some (.nx [.fr (.int n), .fr (.lst (W ts)), Hd [], .dead, .dead]) := rfl
  have s2 : foe_shares_s2 [.fr (.int n), .fr (.lst (W ts)), Hd [], .dead, .dead] = some (.nx [.fr (.int n), .fr (.lst (W ts)), Hd (hadN [] ts), v, .dead]) := by
    have e : iL (eV 1) (frz [.fr (.int n), .fr (.lst (W ts)), Hd [], .dead, .dead]) = some (W ts) := rfl
    unfold foe_shares_s2
    rw [z_for, e, o_for]
    exact el
  have hm : ∀ k, k ∈ hadN [] ts ↔ k ∈ ts := fun k => by rw [had_mem]; simp
  have sn := small_nat (n := n) (by omega)
  have okr : (rngD 0 n).length ≤ 1000000 := by rw [rng_len]; omega
  have hd := Hd_d (hadN [] ts)
  have hz := Hd_z (hadN [] ts)
  have hdl := hdD_len (hadN [] ts)
  have s3 : foe_shares_s3 [.fr (.int n), .fr (.lst (W ts)), Hd (hadN [] ts), v, .dead] = some (.nx [.fr (.int n), .fr (.lst (W ts)), Hd (hadN [] ts), v, .fr (.int ((n : Int) - ((hadN [] ts).length : Int)))]) := by
    clear el
    unfold foe_shares_s3
    walk_at "tpv"
  have im := imms_lP (foeP n ts)
  by_cases c : (hadN [] ts).length = n
  · have ec := comp_map (t := .nm 3) (test := tTrue) (elt := eTup (aCons (eC (.int 1)) (aCons (eV 0) aNil))) (ρ := [some (.int n), some (.lst (W ts)), none, none, some (.int ((n : Int) - ((hadN [] ts).length : Int)))]) (fun (k : Nat) => D.int (k : Int)) P (foeG n ts) (List.range n) (fun k _ => by
      refine ⟨_, rfl, rfl, ?_⟩
      unfold foeG
      rw [if_pos c]
      rfl)
    rw [← rng0] at ec
    have c0 : (n : Int) - ((hadN [] ts).length : Int) = 0 := by omega
    have s4 : foe_shares_s4 [.fr (.int n), .fr (.lst (W ts)), Hd (hadN [] ts), v, .fr (.int ((n : Int) - ((hadN [] ts).length : Int)))] = some (.rt (.nd .lst (((foeP n ts).map P).map .fr)) [.fr (.int n), .fr (.lst (W ts)), Hd (hadN [] ts), v, .fr (.int ((n : Int) - ((hadN [] ts).length : Int)))]) := by
      rw [c0] at ec ⊢
      clear el s3
      unfold foe_shares_s4
      walk_at "tpv"
      simp only [Int.toNat_natCast, decide_eq_true okr, if_true, ec]
      walk_at "tpv"
      rfl
    unfold foe_sharesF foe_sharesB
    walk_at "top"
    rw [seq_nxT s1 (seq_nxT s2 (seq_nxT s3 (seq_rtT s4)))]
    rfl
  · have ec := comp_map (t := .nm 3) (test := tTrue) (elt := eIf (tB2 (e2 dInK (eV 3) (eV 2))) (eC (.tup [(.int 0), (.int 1)])) (eTup (aCons (eC (.int 1)) (aCons (eV 4) aNil)))) (ρ := [some (.int n), some (.lst (W ts)), some (.dic (hdD (hadN [] ts))), none, some (.int ((n : Int) - ((hadN [] ts).length : Int)))]) (fun (k : Nat) => D.int (k : Int)) P (foeG n ts) (List.range n) (fun k _ => by
      have g := hdD_get (k := k) (hadN [] ts)
      refine ⟨_, rfl, rfl, ?_⟩
      unfold foeG
      rw [if_neg c]
      by_cases c2 : k ∈ ts
      · rw [decide_eq_true ((hm k).mpr c2)] at g
        rw [if_pos c2]
        walk_at "tpv"
        rfl
      · rw [decide_eq_false fun h => c2 ((hm k).mp h)] at g
        rw [if_neg c2]
        have e : ((n - (hadN [] ts).length : Nat) : Int) = (n : Int) - ((hadN [] ts).length : Int) := by omega
        unfold P
        rw [e]
        walk_at "tpv")
    rw [← rng0] at ec
    have c0 : ¬ (n : Int) - ((hadN [] ts).length : Int) = 0 := by omega
    have s4 : foe_shares_s4 [.fr (.int n), .fr (.lst (W ts)), Hd (hadN [] ts), v, .fr (.int ((n : Int) - ((hadN [] ts).length : Int)))] = some (.nx [.fr (.int n), .fr (.lst (W ts)), Hd (hadN [] ts), v, .fr (.int ((n : Int) - ((hadN [] ts).length : Int)))]) := by
      clear el s3 ec
      unfold foe_shares_s4
      walk_at "tpv"
    have s5 : foe_shares_s5 [.fr (.int n), .fr (.lst (W ts)), Hd (hadN [] ts), v, .fr (.int ((n : Int) - ((hadN [] ts).length : Int)))] = some (.rt (.nd .lst (((foeP n ts).map P).map .fr)) [.fr (.int n), .fr (.lst (W ts)), Hd (hadN [] ts), v, .fr (.int ((n : Int) - ((hadN [] ts).length : Int)))]) := by
      clear el s3 s4
      unfold foe_shares_s5
      walk_at "tpv"
      simp only [Int.toNat_natCast, decide_eq_true okr, if_true, ec]
      have im' : imms (((List.range n).map (foeG n ts)).map P) = true := im
      walk_at "tpv"
      rfl
    unfold foe_sharesF foe_sharesB
    walk_at "top"
    rw [seq_nxT s1 (seq_nxT s2 (seq_nxT s3 (seq_nxT s4 s5)))]
    rfl
/-! a list and a told list joined -/
def eCat2 (f g : En → Option D) (ρ : En) : Option (List D) := match f ρ, g ρ with
  | some (.lst a), some (.lst b) => if okLen (a.length + b.length) then some (a ++ b) else none
  | _, _ => none
def rCatQ (K : PySem.W.Frag) : R2 := fun x y H Q => ∃ l b xs zs, x = .ref l ∧ y = .ref b ∧ SqL K H l xs ∧ SqL K H b zs ∧ xs.length + zs.length ≤ sizeLine ∧ ∀ p, H p = none → Q (.ref p) (upd H p (.lst (xs ++ zs)))
section
open PyProof.Rows PySem.SeqAt PySem.P PySem.MeetsSeq PyProof
theorem op_catQ {X : Cx} : OpR X (binaryOp .Add) (rCatQ X.K) := by
  intro pins s σ H x y v u Q I rx ry h
  obtain ⟨l, b, xs, zs, rfl, rfl, hH, hB, hz, q⟩ := h
  cases rx
  cases ry
  obtain ⟨its, r, ⟨⟨cls, dd, data, sl⟩, n, ho, hc, hdd, hd⟩, _⟩ := I.list hH
  obtain ⟨its2, r2, ⟨⟨cls2, dd2, data2, sl2⟩, n2, ho2, hc2, hdd2, hd2⟩, _⟩ := I.list hB
  simp only at hc hd hdd hc2 hd2 hdd2
  subst hc hd hdd hc2 hd2 hdd2
  have hl := r.length
  have hl2 := r2.length
  refine concat_meets ⟨_, ho, rfl⟩ ⟨_, ho2, rfl⟩ noFill_list_add seq_list_add PySem.F.slot_list_add PySem.F.entry_list_add (PySem.F.args_list_add_2 _ _) (list_addW l b its.toArray its2.toArray n n2 none none sl sl2 (by rw [List.size_toArray, List.size_toArray]; omega)) ⟨ho, ho2, ?_⟩
  have ea : its.toArray ++ its2.toArray = (its ++ its2).toArray := by simp
  rw [ea]
  exact ⟨.ref _, _, I.lnew (t' := s.toks) (r.append r2) (by rw [List.length_append]; omega), rfl, q _ I.fresh⟩
end
theorem rd_cat2 {K : PySem.W.Frag} {f g : En → Option D} {σ : St} {H : Hp} {Q : VK} (h : rdF K (eCat2 f g) σ H Q) : tOp (rCatQ K) (rdE K f) (rdE K g) σ H Q := by
  obtain ⟨Hv, ρ, ds, e, en, f', k⟩ := h
  unfold eCat2 at f'
  split at f'
  · rename_i a b h1 h2
    split at f'
    · rename_i hl
      cases f'
      refine ⟨Hv, ρ, _, e, en, h1, fun v1 H1 Hv1 s1 d1 => ?_⟩
      refine ⟨Hv1, ρ, _, s1.c, en.mono s1.b, h2, fun v2 H2 Hv2 s2 d2 => ?_⟩
      have s12 := s1.trans s2
      cases d1 with
      | lst i1 r1 =>
        cases d2 with
        | lst i2 r2 =>
          have j1 := sameL s2.c (sameL s2.b i1)
          have j2 := sameL s2.c i2
          refine ⟨_, _, _, _, rfl, rfl, j1, j2, by rw [r1.length, r2.length]; exact okLen_le hl, fun q hq => ?_⟩
          exact k q _ _ Hv2 (s12.trans (Stp.newH s2.c hq)) (s12.a.free hq) (s2.c.free hq) upd_same ((r1.mono s2.b).append r2)
    · cases f'
  · cases f'
theorem pf_cat2 {X : Cx} {a b : Expr} {pos : Pos} {f1 f2 : En → Option D} (ha : PE X a (rdE X.K f1)) (hb : PE X b (rdE X.K f2)) : PE X (.BinOp a .Add b pos) (rdF X.K (eCat2 f1 f2)) := pe_imp (pe_op op_catQ ha hb) fun _ _ _ => rd_cat2
end PM
namespace PM
open PySem L2 PD PO
/-! foe_lags(many, turns): slots 0:many 1:turns 2:lags 3:at 4:place -/
def foe_lags_b1 : EnT → Option OutT := (uSeq (uAsg (.nm 2) (xP (pLsI (eCF raisedF (aCons (eV 2) (aCons (eCB (gOf foe_sharesF) (aCons (eV 0) (aCons (eFr (eSl (eV 1) oNone (oSome (eV 3)))) aNil))) aNil))))))
  (uSet (nV 2) (eV 4) (xP (pIm (eCB minusF (aCons (e2 dIx (eV 2) (eV 4)) (aCons (eC (.tup [(.int 1), (.int 1)])) aNil)))))))
def foe_lags_s1 : EnT → Option OutT := (uAsg (.nm 2) (xP (pLs (eComp [4] (iR1 (aCons (eV 0) aNil)) (.nm 4) tTrue (eC (.tup [(.int 0), (.int 1)]))))))
def foe_lags_s2 : EnT → Option OutT := (uFor (iE (aCons (eV 1) aNil)) (.tp [3, 4]) foe_lags_b1)
def foe_lagsB : EnT → Option OutT := (uSeq foe_lags_s1
  (uSeq foe_lags_s2
  (uRet (xMv 2))))
def foe_lagsF : List T → Option RT := fnR [0, 1] 2 5 foe_lagsB
end PM
namespace PM
open PySem L2 PD PO
/-! ### the lags behind the foe's hours -/
def foeStep (n : Nat) (l : List (Int × Int)) (pre : List Nat) (p : Nat) : List (Int × Int) := (raise l (foeP n pre)).set p (minus (nth (raise l (foeP n pre)) p) (1, 1))
def foeGo (n : Nat) (l : List (Int × Int)) (pre : List Nat) : List Nat → List (Int × Int)
  | [] => l
  | p :: ts => foeGo n (foeStep n l pre p) (pre ++ [p]) ts
theorem foeStep_len {n : Nat} {l : List (Int × Int)} {pre : List Nat} {p : Nat} (h : l.length = n) : (foeStep n l pre p).length = n := by
  unfold foeStep
  rw [List.length_set, raise_len (by rw [foeP_len, h]), h]
theorem foeStep_pt {N n : Nat} {l : List (Int × Int)} {pre : List Nat} {p : Nat} (h1 : 1 ≤ n) (hn : n ≤ 24) (h : l.length = n) (hl : ∀ x ∈ l, Pt N x) (hp : p < n) (ht : ∀ t ∈ pre, t < n) : ∀ x ∈ foeStep n l pre p, Pt (N + 9) x := by
  intro x hx
  have rp := raise_pt hl (foeP_pt h1 hn ht)
  unfold foeStep at hx
  rcases List.mem_or_eq_of_mem_set hx with hx | rfl
  · exact (rp x hx).mono (by omega)
  · exact (minus_pt (rp _ (nth_mem (by rw [raise_len (by rw [foeP_len, h]), h]; exact hp))) one_pt).mono (by omega)
theorem W_at {ts : List Nat} {i k : Nat} (h : ts[i]? = some k) : (W ts)[i]? = some (.int (k : Int)) := by
  unfold W
  rw [List.getElem?_map, h]; rfl
theorem foe_lags_turn {n N i p : Nat} {ts : List Nat} {l : List (Int × Int)} (h1 : 1 ≤ n) (hn : n ≤ 24) (hts : ∀ t ∈ ts, t < n) (hl : ts.length ≤ 1000) (hp : p < n) (ll : l.length = n) (lp : ∀ x ∈ l, Pt N x) (hN : N ≤ 4000) (hi : i ≤ ts.length) :
    foe_lags_b1 [.fr (.int n), .fr (.lst (W ts)), .nd .lst ((l.map P).map .fr), .fr (.int (i : Int)), .fr (.int (p : Int))] = some (.nx [.fr (.int n), .fr (.lst (W ts)), .nd .lst (((foeStep n l (ts.take i) p).map P).map .fr), .fr (.int (i : Int)), .fr (.int (p : Int))]) := by
  have ht : ∀ t ∈ ts.take i, t < n := fun t h => hts t (List.mem_of_mem_take h)
  have cd : cutD (W ts) none (some (i : Int)) = W (ts.take i) := by
    unfold W; rw [List.map_take]; exact cut_take (by rw [List.length_map]; exact hi)
  have e0 := foe_shares_eq h1 hn ht (by rw [List.length_take]; omega)
  have fp := foeP_pt h1 hn ht
  have fln : (foeP n (ts.take i)).length = l.length := by rw [foeP_len, ll]
  have e1 := raised_eq lp fp (by omega) (by omega)
  have rp := raise_pt lp fp
  have rl := raise_len fln
  have i1 := atI_nth (l := raise l (foeP n (ts.take i))) (k := p) (by omega)
  have e3 := minus_eq (rp _ (nth_mem (by rw [rl, ll]; exact hp))) one_pt (by omega)
  have e3' : minusF [P (nth (raise l (foeP n (ts.take i))) p), .tup [.int 1, .int 1]] = some (P (minus (nth (raise l (foeP n (ts.take i))) p) (1, 1))) := e3
  have i2 := ixN_nat hp
  have i3 : imm (P (minus (nth (raise l (foeP n (ts.take i))) p) (1, 1))) = true := rfl
  have i4 := imms_lP (raise l (foeP n (ts.take i)))
  have rn : (raise l (foeP n (ts.take i))).length = n := by omega
  unfold foeStep
  rw [List.map_set, List.map_set]
  clear fln rl e3 hts ht rp fp lp ll
  generalize foeP n (ts.take i) = s at *
  generalize minus (nth (raise l s) p) (1, 1) = m at *
  generalize raise l s = r at *
  unfold foe_lags_b1
  walk_at "tpv"
theorem foe_lags_loop {n : Nat} {ts : List Nat} (h1 : 1 ≤ n) (hn : n ≤ 24) (hts : ∀ t ∈ ts, t < n) (hl : ts.length ≤ 400) : ∀ (r : List Nat) (i N : Nat) (l : List (Int × Int)) (v3 v4 : T), ts.drop i = r → l.length = n → (∀ x ∈ l, Pt N x) → N + 9 * r.length ≤ 4000 → i ≤ ts.length →
    ∃ w3 w4, loopU (.tp [3, 4]) foe_lags_b1 (enuD i (W r)) [.fr (.int n), .fr (.lst (W ts)), .nd .lst ((l.map P).map .fr), v3, v4] = some (.nx [.fr (.int n), .fr (.lst (W ts)), .nd .lst (((foeGo n l (ts.take i) r).map P).map .fr), w3, w4]) ∧ (foeGo n l (ts.take i) r).length = n ∧ ∀ x ∈ foeGo n l (ts.take i) r, Pt (N + 9 * r.length) x
  | [], i, N, l, v3, v4, _, ll, lp, _, _ => ⟨v3, v4, rfl, ll, by simpa [foeGo] using lp⟩
  | p :: r, i, N, l, v3, v4, e, ll, lp, hN, hi => by
    rw [List.length_cons] at hN
    have il : i < ts.length := by
      have := congrArg List.length e
      rw [List.length_drop, List.length_cons] at this
      omega
    have e2 : ts.drop (i + 1) = r := by rw [← List.drop_drop, e]; rfl
    have ep : ts[i] = p := by
      have := List.drop_eq_getElem_cons il
      rw [this] at e
      injection e
    have pm : p ∈ ts := ep ▸ List.getElem_mem il
    have tk : ts.take (i + 1) = ts.take i ++ [p] := by rw [List.take_succ_eq_append_getElem il, ep]
    have st := foe_lags_turn h1 hn hts (by omega) (hts p pm) ll lp (by omega) (Nat.le_of_lt il)
    obtain ⟨w3, w4, el, g1, g2⟩ := foe_lags_loop h1 hn hts hl r (i + 1) (N + 9) (foeStep n l (ts.take i) p) (.fr (.int (i : Int))) (.fr (.int (p : Int))) e2 (foeStep_len ll) (foeStep_pt h1 hn ll lp (hts p pm) fun t h => hts t (List.mem_of_mem_take h)) (by omega) il
    rw [tk] at el g1 g2
    refine ⟨w3, w4, ?_, g1, fun x hx => (g2 x hx).mono (by rw [List.length_cons]; omega)⟩
    have : W (p :: r) = D.int (p : Int) :: W r := rfl
    rw [this, enuD, z_loop]
    show nextT _ _ _ (turnT _ (some [_, _, _, .fr (.int (i : Int)), .fr (.int (p : Int))])) = _
    rw [o_turn, st, o_next1]
    exact el
def foeL (n : Nat) (ts : List Nat) : List (Int × Int) := foeGo n (List.replicate n ((0 : Int), (1 : Int))) [] ts
theorem foe_lags_eq {n : Nat} {ts : List Nat} (h1 : 1 ≤ n) (hn : n ≤ 24) (hts : ∀ t ∈ ts, t < n) (hl : ts.length ≤ 400) :
    foe_lagsF [.fr (.int n), .fr (.lst (W ts))] = some (.ok [.fr (.int n), .fr (.lst (W ts))] (.nd .lst (((foeL n ts).map P).map .fr))) ∧ (foeL n ts).length = n ∧ ∀ x ∈ foeL n ts, Pt 3999 x := by
  obtain ⟨w3, w4, el, g1, g2⟩ := foe_lags_loop h1 hn hts hl ts 0 1 (List.replicate n ((0 : Int), (1 : Int))) .dead .dead rfl List.length_replicate (fun x hx => by rw [List.eq_of_mem_replicate hx]; exact zero_pt) (by omega) (Nat.zero_le _)
  rw [List.take_zero] at el g1 g2
  refine ⟨?_, g1, fun x hx => (g2 x hx).mono (by omega)⟩
  have sn := small_nat (n := n) (by omega)
  have okr : (rngD 0 n).length ≤ 1000000 := by rw [rng_len]; omega
  have ec : compD (.nm 4) tTrue (eC (.tup [(.int 0), (.int 1)])) [some (.int n), some (.lst (W ts)), none, none, none] (rngD 0 n) = some ((List.replicate n ((0 : Int), (1 : Int))).map P) := by
    have h := comp_map (t := .nm 4) (test := tTrue) (elt := eC (.tup [(.int 0), (.int 1)])) (ρ := [some (.int n), some (.lst (W ts)), none, none, none]) (fun (k : Nat) => D.int (k : Int)) P (fun _ => ((0 : Int), (1 : Int))) (List.range n) (fun k _ => ⟨_, rfl, rfl, rfl⟩)
    rw [List.map_const', List.length_range, ← rng0] at h
    exact h
  have s1 : foe_lags_s1 [.fr (.int n), .fr (.lst (W ts)), .dead, .dead, .dead] = some (.nx [.fr (.int n), .fr (.lst (W ts)), .nd .lst (((List.replicate n ((0 : Int), (1 : Int))).map P).map .fr), .dead, .dead]) := by
    clear el
    unfold foe_lags_s1
    walk_at "tpv"
    simp only [Int.toNat_natCast, decide_eq_true okr, if_true, ec]
    walk_at "tpv"
  have s2 : foe_lags_s2 [.fr (.int n), .fr (.lst (W ts)), .nd .lst (((List.replicate n ((0 : Int), (1 : Int))).map P).map .fr), .dead, .dead] = some (.nx [.fr (.int n), .fr (.lst (W ts)), .nd .lst (((foeL n ts).map P).map .fr), w3, w4]) := by
    unfold foeL
    rw [← el]
    rfl
  unfold foe_lagsF foe_lagsB
  walk_at "top"
  rw [seq_nxT s1 (seq_nxT s2 rfl)]
  rfl
end PM
namespace PO
open PySem L2 PD
/-! a pure value frozen -/
def pFz (g : EnT → Option T) (ρ : EnT) : Option T := (g ρ).bind fun t => t.d.map .fr
section
variable {K : PySem.W.Frag} {O : List Nat} {s0 : St} {W : WX} {σ : St} {H Hv Hv2 : Hp} {Q : VK}
theorem rp_fz {g : EnT → Option T} (h : rdP K O s0 (pFz g) σ H Q) : rdP K O s0 g σ H Q := by
  obtain ⟨Hv, fp1, ρ, r, k, e1, p⟩ := h
  obtain ⟨t, h1, e1⟩ := bind_some2 e1
  refine ⟨Hv, fp1, ρ, t, k, h1, ?_⟩
  cases h2 : t.d with
  | none => rw [h2] at e1; cases e1
  | some d =>
      rw [h2] at e1
      cases e1
      intro v H1 Hv1 ft f1 kp t1
      have w := f1.w
      let Hv2 : Hp := fun a => if a ∈ ft then H1 a else tupV Hv1 H1 a
      have i1 : ∀ a, a ∈ ft → Hv2 a = H1 a := fun a h => if_pos h
      have i2 : ∀ a, a ∉ ft → Hv2 a = tupV Hv1 H1 a := fun a h => if_neg h
      have sv : Same Hv1 Hv2 := fun a o e => by
        rw [i2 a (fun h => by rw [w.hid a (List.mem_append_left _ h)] at e; cases e)]
        exact tupV_a _ _ _ _ e
      have nm : ∀ a o, H1 a = some o → Mb o = false → a ∉ ft := fun a o e m h => by
        obtain ⟨u, e', m'⟩ := w.mc a (List.mem_append_left _ h)
        rw [e] at e'; cases e'; rw [m] at m'; cases m'
      have tp : ∀ a vs, SqT K H1 a vs → SqT K Hv2 a vs := fun a vs s => by
        have s2 := tupV_t w.c s
        rcases s with (s | ⟨o, s⟩) | s
        · rcases s2 with (s2 | ⟨o2, s2⟩) | s2
          · exact .inl (.inl (by rw [i2 a (nm a _ s rfl)]; exact s2))
          · exact .inl (.inr ⟨o2, by rw [i2 a (nm a _ s rfl)]; exact s2⟩)
          · exact .inr s2
        · rcases s2 with (s2 | ⟨o2, s2⟩) | s2
          · exact .inl (.inl (by rw [i2 a (nm a _ s rfl)]; exact s2))
          · exact .inl (.inr ⟨o2, by rw [i2 a (nm a _ s rfl)]; exact s2⟩)
          · exact .inr s2
        · exact .inr s
      have nd := List.nodup_append.mp w.nd
      have c2 : Same Hv2 H1 := fun a o e => by
        by_cases h : a ∈ ft
        · rw [i1 a h] at e; exact e
        · rw [i2 a h] at e; exact tupV_c w.c _ _ e
      have w2 : Wf H1 Hv2 fp1 := ⟨c2, fun a h => w.mc a (List.mem_append_right _ h), fun a h => by
        rw [i2 a (fun h' => nd.2.2 a h' a h rfl)]
        obtain ⟨u, e, m⟩ := w.mc a (List.mem_append_right _ h)
        exact tupV_h m e (w.hid a (List.mem_append_right _ h)), nd.2.1⟩
      have f2 : Frm H1 Hv1 (ft ++ fp1) H1 Hv2 fp1 := ⟨fun _ _ e _ => e, sv, fun a o e m n q => ⟨by rw [i2 a (fun h => q (List.mem_append_left _ h))]; exact tupV_h m e n, fun h => q (List.mem_append_right _ h)⟩, w2⟩
      exact p v H1 Hv2 [] (f1.trans f2) kp (.fr (t1.fz sv tp (fun a h => i1 a h) h2))
end
theorem yp_fz {X : Cx} {O : List Nat} {s0 : St} {a : Expr} {g : EnT → Option T} (ha : PE X a (rdP X.K O s0 g)) : PE X a (rdP X.K O s0 (pFz g)) := pe_imp ha fun _ _ _ => rp_fz
def pfzO : Option T → Option T
  | some t => t.d.map .fr
  | none => none
theorem z_pfz {g : EnT → Option T} {ρ : EnT} : pFz g ρ = pfzO (g ρ) := by unfold pFz; cases g ρ <;> rfl
theorem o_pfzN {ds : List D} : pfzO (some (.nd .lst (ds.map .fr))) = some (.fr (.lst ds)) := by
  show (T.d _).map _ = _
  rw [o_dN, o_dsm, o_nd1]; rfl
theorem o_pfzF {d : D} : pfzO (some (.fr d)) = some (.fr d) := (rfl)
end PO
namespace PM
open PySem L2 PD PO
/-! ### any text of figures -/
def digs (w : List Nat) : Bool := w.all fun c => decide (48 ≤ c) && decide (c ≤ 57)
def rdL (w : List Nat) : Option Nat := if w = [] ∨ (1 < w.length ∧ w.head? = some 48) ∨ digs w = false then none else some (NumText.digitsVal w)
def optI : Option Nat → D
  | none => .non
  | some n => .int (n : Int)
theorem digs_fold : ∀ (w : List Nat) (acc k : Nat), digs w = true → acc < 10 ^ k → w.foldl (fun acc c => acc * 10 + (c - 48)) acc < 10 ^ (k + w.length)
  | [], acc, k, _, h => by simpa using h
  | c :: w, acc, k, d, h => by
    unfold digs at d
    rw [List.all_cons, Bool.and_eq_true, Bool.and_eq_true, decide_eq_true_eq, decide_eq_true_eq] at d
    have := digs_fold w (acc * 10 + (c - 48)) (k + 1) d.2 (by rw [Nat.pow_succ]; omega)
    rw [List.foldl_cons, List.length_cons, show k + (w.length + 1) = k + 1 + w.length by omega]
    exact this
theorem digs_lt {w : List Nat} (d : digs w = true) : NumText.digitsVal w < 10 ^ w.length := by
  have := digs_fold w 0 0 d (by decide)
  rw [Nat.zero_add] at this
  exact this
theorem rdL_lt {w : List Nat} {n : Nat} (h : rdL w = some n) : n < 10 ^ w.length := by
  unfold rdL at h
  split at h
  · cases h
  · rename_i c
    cases h
    refine digs_lt ?_
    cases e : digs w with
    | true => rfl
    | false => exact absurd (.inr (.inr e)) c
def figL : List Nat := [48, 49, 50, 51, 52, 53, 54, 55, 56, 57]
theorem nought_test {w : List Nat} (tx : Tx w) (h : w.length ≤ 1000000) (v : Option D) : fAnd (tB2 (e2 dGt (eCB cLen (aCons (eV 0) aNil)) (eC (.int 1)))) (tB2 (e2 dEq (e2 dIx (eV 0) (eC (.int 0))) (eC (.str (SS [48]))))) [some (.str (SS w)), v] = some (decide (1 < w.length ∧ w.head? = some 48)) := by
  have l0 : (SS w).length = w.length := SX.S_len _
  cases w with
  | nil =>
    have : ¬ ((1 : Int) < (0 : Int)) := by decide
    have e : decide (1 < ([] : List Nat).length ∧ ([] : List Nat).head? = some 48) = false := rfl
    rw [e]
    replace l0 : (SS []).length = 0 := rfl
    walk_at "evs"
  | cons c r =>
    have hc : c < 0x110000 := tx c (by simp)
    have d1 := dEq_S (a := [c]) (b := [48]) (fun x hx => by cases hx with | head => exact hc | tail _ h => cases h) (fun x hx => by cases hx with | head => decide | tail _ h => cases h)
    replace d1 : dEq (.str ⟨#[c]⟩) (.str (SS [48])) = some (.bl (decide ([c] = [48]))) := d1
    have i0 : dIx (.str (SS (c :: r))) (.int 0) = some (.str ⟨#[c]⟩) := by
      rw [q_ix3, l0, if_pos (by unfold okLen; exact decide_eq_true h), show (SS (c :: r)).cps.toList = c :: r from rfl, q_at0]
      rfl
    by_cases c1 : (1 : Int) < ((c :: r).length : Int)
    · have e : decide (1 < (c :: r).length ∧ (c :: r).head? = some 48) = decide ([c] = [48]) := by
        refine decide_eq_decide.mpr ?_
        rw [List.head?_cons]
        constructor
        · intro x; have := x.2; injection this with y; rw [y]
        · intro x; injection x with y; rw [y]; exact ⟨by rw [List.length_cons] at c1 ⊢; omega, rfl⟩
      rw [e]
      generalize decide ([c] = [48]) = b at *
      generalize (c :: r) = w at *
      walk_at "evs"
    · have e : decide (1 < (c :: r).length ∧ (c :: r).head? = some 48) = false := decide_eq_false fun x => c1 (by have := x.1; omega)
      rw [e]
      generalize (c :: r) = w at *
      walk_at "evs"
theorem figs_loop (x0 : Option D) : ∀ (l : List Nat) (v : Option D),
    (digs l = true → ∃ v', loopD (.nm 1) (sIf (tB2 (e2 dNin (eV 1) (eC (.str (SS figL))))) (sRet (eC .non)) sNil) (l.map fun c => D.str ⟨#[c]⟩) [x0, v] = some (.nx [x0, v'])) ∧
    (digs l = false → loopD (.nm 1) (sIf (tB2 (e2 dNin (eV 1) (eC (.str (SS figL))))) (sRet (eC .non)) sNil) (l.map fun c => D.str ⟨#[c]⟩) [x0, v] = some (.rt .non))
  | [], v => ⟨fun _ => ⟨v, rfl⟩, fun h => by cases h⟩
  | c :: l, v => by
    obtain ⟨ih1, ih2⟩ := figs_loop x0 l (some (.str ⟨#[c]⟩))
    have d1 := @dNin_S figL c
    have m : c ∈ figL ↔ (48 ≤ c ∧ c ≤ 57) := by unfold figL; simp only [List.mem_cons, List.not_mem_nil, or_false]; omega
    have dc : digs (c :: l) = ((decide (48 ≤ c) && decide (c ≤ 57)) && digs l) := by unfold digs; rw [List.all_cons]
    rw [dc, List.map_cons]
    by_cases h : 48 ≤ c ∧ c ≤ 57
    · rw [decide_eq_true (m.mpr h)] at d1
      rw [decide_eq_true h.1, decide_eq_true h.2, Bool.and_self, Bool.true_and]
      have st : (sIf (tB2 (e2 dNin (eV 1) (eC (.str (SS figL))))) (sRet (eC .non)) sNil) [x0, some (.str ⟨#[c]⟩)] = some (.nx [x0, some (.str ⟨#[c]⟩)]) := by
        clear ih1 ih2 dc
        walk_at "evs"
      have e : loopD (.nm 1) (sIf (tB2 (e2 dNin (eV 1) (eC (.str (SS figL))))) (sRet (eC .non)) sNil) (D.str ⟨#[c]⟩ :: l.map fun c => D.str ⟨#[c]⟩) [x0, v] = loopD (.nm 1) (sIf (tB2 (e2 dNin (eV 1) (eC (.str (SS figL))))) (sRet (eC .non)) sNil) (l.map fun c => D.str ⟨#[c]⟩) [x0, some (.str ⟨#[c]⟩)] := by
        rw [x_loop]
        show nextX _ _ _ (turnX _ (some [x0, some (.str ⟨#[c]⟩)])) = _
        rw [q_turn, st, q_next0]
      rw [e]
      exact ⟨ih1, ih2⟩
    · rw [decide_eq_false fun x => h (m.mp x)] at d1
      have hb : ((decide (48 ≤ c) && decide (c ≤ 57)) && digs l) = false := by
        by_cases h1 : 48 ≤ c
        · rw [decide_eq_false (show ¬ c ≤ 57 from fun x => h ⟨h1, x⟩), Bool.and_false, Bool.false_and]
        · rw [decide_eq_false h1, Bool.false_and, Bool.false_and]
      rw [hb]
      have st : (sIf (tB2 (e2 dNin (eV 1) (eC (.str (SS figL))))) (sRet (eC .non)) sNil) [x0, some (.str ⟨#[c]⟩)] = some (.rt .non) := by
        clear ih1 ih2 dc hb
        walk_at "evs"
      refine ⟨fun e => (by cases e), fun _ => ?_⟩
      rw [x_loop]
      show nextX _ _ _ (turnX _ (some [x0, some (.str ⟨#[c]⟩)])) = _
      rw [q_turn, st]
      rfl
theorem number_read_gen {w : List Nat} (tx : Tx w) (h : w.length ≤ 600) : number_readF [.str (SS w)] = some (optI (rdL w)) := by
  have e0 : (("" : Str)) = SS [] := by decide +kernel
  have e1' : (("0" : Str)) = SS [48] := by decide +kernel
  have e2' : (("0123456789" : Str)) = SS figL := by decide +kernel
  have l0 : (SS w).length = w.length := SX.S_len _
  have cl : (SS w).cps.toList = w := rfl
  have d0 := dEq_S (a := w) (b := []) tx (fun _ h => nomatch h)
  have t0 : tB2 (e2 dEq (eV 0) (eC (.str (SS [])))) [some (.str (SS w)), none] = some (decide (w = [])) := by walk_at "evs"
  have t1 := nought_test tx (by omega) none
  obtain ⟨lt, lf⟩ := figs_loop (some (.str (SS w))) w none
  unfold number_readF number_readB
  walk_at "op"
  rw [e0, e1', e2', x_seq, x_if, x_or, t0]
  unfold rdL
  by_cases c0 : w = []
  · rw [decide_eq_true c0, if_pos (.inl c0), q_or2]
    walk_at "ev"
    rfl
  · rw [decide_eq_false c0, q_or1, t1]
    by_cases c1 : 1 < w.length ∧ w.head? = some 48
    · rw [decide_eq_true c1, if_pos (.inr (.inl c1))]
      walk_at "ev"
      rfl
    · rw [decide_eq_false c1]
      cases dg : digs w with
      | false =>
        rw [if_pos (.inr (.inr rfl))]
        walk_at "ev"
        rw [lf dg]
        walk_at "ev"
        rfl
      | true =>
        obtain ⟨v', lv⟩ := lt dg
        have i1 : cIntS [.str (SS w)] = some (.int (NumText.digitsVal w : Nat)) := by
          rw [q_intS, l0, if_pos (by omega), SX.int_S dg c0 (by omega)]
          rfl
        rw [if_neg (by rintro (x | x | x); exact c0 x; exact c1 x; cases x)]
        walk_at "ev"
        rw [lv]
        clear lt lf lv t0 t1
        walk_at "evs"
        rfl
theorem spl_mem (S : List Nat) : ∀ (r : List Nat) (k : Nat) (acc : List Nat), ∀ p ∈ TL.spl S k acc r, (∀ c ∈ p, c ∈ acc ∨ c ∈ r) ∧ p.length ≤ acc.length + r.length
  | [], k, acc, p, hp => by
    have : TL.spl S k acc [] = [acc] := by unfold TL.spl; rfl
    rw [this] at hp
    rw [List.mem_singleton.mp hp]
    exact ⟨fun c hc => .inl hc, by simp⟩
  | c :: r, 0, acc, p, hp => by
    rw [TL.spl] at hp
    split at hp
    · rcases List.mem_cons.mp hp with rfl | hp
      · exact ⟨fun x hx => .inl hx, by simp⟩
      · obtain ⟨h1, h2⟩ := spl_mem S r _ [] p hp
        exact ⟨fun x hx => .inr (by rcases h1 x hx with h | h; cases h; exact List.mem_cons_of_mem _ h), by simp at h2 ⊢; omega⟩
    · obtain ⟨h1, h2⟩ := spl_mem S r _ _ p hp
      exact ⟨fun x hx => by rcases h1 x hx with h | h; rcases List.mem_append.mp h with h | h; exact .inl h; exact .inr (by simp [List.mem_singleton.mp h]); exact .inr (List.mem_cons_of_mem _ h), by simp at h2 ⊢; omega⟩
  | c :: r, k + 1, acc, p, hp => by
    rw [TL.spl] at hp
    obtain ⟨h1, h2⟩ := spl_mem S r _ _ p hp
    exact ⟨fun x hx => (h1 x hx).imp id (List.mem_cons_of_mem _), by simp at h2 ⊢; omega⟩
/-- the part that a top's figures (less: a minus ahead) and a bottom's write -/
def fin2 (less : Bool) (f b : List Nat) : Option (Int × Int) := if 400 < f.length ∨ 400 < b.length then none else match rdL f, rdL b with
  | some x, some y => if y = 0 ∨ (less = true ∧ x = 0) ∨ Nat.gcd x y ≠ 1 then none else some (if less = true then -(x : Int) else (x : Int), (y : Int))
  | _, _ => none
def meanL (t : List Nat) : Option (Int × Int) := match TL.spl [47] 0 [] t with
  | [a, b] => fin2 (decide (a.take 1 = [45])) (if a.take 1 = [45] then a.drop 1 else a) b
  | _ => none
theorem low_iff {x : Int} {y : Int} (h : 0 < y) : low x y = (x, y) ↔ Int.gcd x y = 1 := by
  constructor
  · intro e
    have e2 : y / (Int.gcd x y : Int) = y := congrArg Prod.snd e
    have g0 : 0 < Int.gcd x y := Int.gcd_pos_of_ne_zero_right _ (by omega)
    have d : (Int.gcd x y : Int) ∣ y := Int.gcd_dvd_right ..
    have m := Int.ediv_mul_cancel d
    rw [e2] at m
    have : (Int.gcd x y : Int) = 1 := by
      have h2 : y * (Int.gcd x y : Int) = y * 1 := by rw [m, Int.mul_one]
      exact Int.eq_of_mul_eq_mul_left (by omega) h2
    omega
  · intro e
    exact low_self (a := (x, y)) e
theorem low_neg_iff {x y : Nat} (h : 0 < y) (b : Bool) : low (if b = true then -(x : Int) else (x : Int)) (y : Int) = ((if b = true then -(x : Int) else (x : Int)), (y : Int)) ↔ Nat.gcd x y = 1 := by
  rw [low_iff (by omega)]
  cases b
  · rw [if_neg (by decide), Int.gcd_natCast_natCast]
  · rw [if_pos rfl, Int.neg_gcd, Int.gcd_natCast_natCast]
end PM
namespace L_k17
open PySem L2 PD PO PM

/-! law(law_script): slots 0:law_script 1:law_row 2:law_n 3:law_bound 4:law_hours 5:law_lags 6:law_turns 7:law_hour 8:law_shares 9:law_place 10:law_left 11:law_lag 12:law_share 13:law_k -/
def law_b1 : EnT → Option OutT := (uSeq (uAsg (.nm 8) (xFz (xCall foe_sharesF [.e (pFr (eV 2)), .e (pFz (pLsI (eCF cList (aCons (eV 6) aNil))))])))
  (uSeq (uIf (fOr (fNot (tB2 (eCB law_partsF (aCons (eV 8) aNil)))) (fOr (tB2 (e2 dNe (eCB cLen (aCons (eV 8) aNil)) (eV 2))) (tB2 (e2 dNe (eCB law_sumF (aCons (eV 8) aNil)) (eTup (aCons (eC (.int 1)) (aCons (eC (.int 1)) aNil))))))) (uRet (xP (pFr (eC (.bl false))))) uNil)
  (uSeq (uIf (tB2 (eCB cAny (aCons (eFr (eComp [12] (iL (eV 8)) (.nm 12) tTrue (e2 dLt (e2 dIx (eV 12) (eC (.int 0))) (eC (.int 0))))) aNil))) (uRet (xP (pFr (eC (.bl false))))) uNil)
  (uSeq (uAsg (.nm 5) (xP (pLsI (eComp [11, 12] (iZ (aCons (eV 5) (aCons (eV 8) aNil))) (.tp [11, 12]) tTrue (eCB law_addF (aCons (eV 11) (aCons (eV 12) aNil)))))))
  (uSeq (uAsg (.nm 9) (xP (pFr (e2 dMod (e2 dIx (eV 1) (e2 dAdd (eC (.int 4)) (eV 7))) (eV 2)))))
  (uSeq (uAsg (.nm 10) (xFz (xP (pLsI (eComp [13] (iR1 (aCons (eV 2) aNil)) (.nm 13) (tB2 (e2 dNinL (eV 13) (eV 6))) (eV 13))))))
  (uSeq (uIf (tB2 (e2 dEq (e2 dMod (e2 dIx (eV 1) (eC (.int 2))) (eC (.int 4))) (eC (.int 1)))) (uAsg (.nm 9) (xP (pFr (e2 dMod (e2 dIx (eV 1) (e2 dAdd (eC (.int 4)) (eV 7))) (eCB cMin2 (aCons (eV 2) (aCons (eC (.int 2)) aNil))))))) uNil)
  (uSeq (uIf (fAnd (tB2 (e2 dEq (e2 dMod (e2 dIx (eV 1) (eC (.int 2))) (eC (.int 4))) (eC (.int 2)))) (tTru (eV 10))) (uAsg (.nm 9) (xP (pFr (e2 dIx (eV 10) (e2 dMod (e2 dIx (eV 1) (e2 dAdd (eC (.int 4)) (eV 7))) (eCB cLen (aCons (eV 10) aNil))))))) uNil)
  (uSeq (uIf (fAnd (tB2 (e2 dEq (e2 dMod (e2 dIx (eV 1) (eC (.int 2))) (eC (.int 4))) (eC (.int 3)))) (tB2 (e2 dGt (e2 dMod (e2 dIx (eV 1) (e2 dAdd (eC (.int 4)) (eV 7))) (eC (.int 3))) (eC (.int 0))))) (uAsg (.nm 9) (xP (pIm (eCB law_firstF (aCons (eV 5) aNil))))) uNil)
  (uSeq (uSet (nV 5) (eV 9) (xP (pIm (eCB law_subF (aCons (e2 dIx (eV 5) (eV 9)) (aCons (eTup (aCons (eC (.int 1)) (aCons (eC (.int 1)) aNil))) aNil))))))
  (uSeq (uEx (xBm efApp (nV 6) (psCons (pFr (eV 9)) psNil)))
  (uIf (tB2 (eCB cAny (aCons (eFr (eComp [11] (iL (eV 5)) (.nm 11) tTrue (e1 eNot (eCB law_lessF (aCons (eV 11) (aCons (eV 3) aNil)))))) aNil))) (uRet (xP (pFr (eC (.bl true))))) uNil))))))))))))
def law_s1 : EnT → Option OutT := (uAsg (.nm 1) (xFz (xP (pLs (eCF law_flowF (aCons (eV 0) (aCons (eC (.int 80)) aNil)))))))
def law_s2 : EnT → Option OutT := (uAsg (.nm 2) (xP (pFr (e2 dAdd (eC (.int 2)) (e2 dMod (e2 dIx (eV 1) (eC (.int 0))) (eC (.int 11)))))))
def law_s3 : EnT → Option OutT := (uIf (tB2 (e2 dEq (e2 dMod (e2 dIx (eV 1) (eC (.int 1))) (eC (.int 6))) (eC (.int 0)))) (uAsg (.nm 2) (xP (pFr (e2 dAdd (eC (.int 2)) (e2 dMod (e2 dIx (eV 1) (eC (.int 0))) (eC (.int 23))))))) uNil)
def law_s4 : EnT → Option OutT := (uAsg (.nm 3) (xP (pFr (eCB law_mostF (aCons (eV 2) (aCons (eC (.int 1)) aNil))))))
def law_s5 : EnT → Option OutT := (uAsg (.nm 4) (xP (pFr (eCB foe_hoursF (aCons (eV 2) aNil)))))
def law_s6 : EnT → Option OutT := (uIf (fOr (fNot (tB2 (eCB law_wholeF (aCons (eV 4) aNil)))) (fNot (tB2 (eChain dLt dLe (eC (.int 0)) (eV 4) (eC (.int 70)))))) (uRet (xP (pFr (eC (.bl false))))) uNil)
def law_s7 : EnT → Option OutT := (uAsg (.nm 5) (xP (pLs (eComp [9] (iR1 (aCons (eV 2) aNil)) (.nm 9) tTrue (eTup (aCons (eC (.int 0)) (aCons (eC (.int 1)) aNil)))))))
def law_s9 : EnT → Option OutT := (uFor (iR1 (aCons (eV 4) aNil)) (.nm 7) law_b1)
def lawB : EnT → Option OutT := (uSeq law_s1
  (uSeq law_s2
  (uSeq law_s3
  (uSeq law_s4
  (uSeq law_s5
  (uSeq law_s6
  (uSeq law_s7
  (uSeq (uAsg (.nm 6) (xP (pLs (eLst aNil))))
  (uSeq law_s9
  (uRet (xP (pFr (eC (.bl false))))))))))))))
def lawF : List T → Option RT := fnR [0] 1 14 lawB
end L_k17
namespace L_k17
open PySem L2 PD PO PM
theorem sum_not {n : Nat} {ts : List Nat} (c : ¬ (hadN [] ts).length = n) (hp : 0 < n - (hadN [] ts).length) : ∀ r : List Nat, ((r.map (foeG n ts)).map val).sum = ((r.filter fun k => !decide (k ∈ ts)).length : Rat) * (1 / ((n - (hadN [] ts).length : Nat) : Rat))
  | [] => by simp
  | k :: r => by
    have ih := sum_not c hp r
    rw [List.map_cons, List.map_cons, List.sum_cons, ih, List.filter_cons]
    by_cases h : k ∈ ts
    · have g : foeG n ts k = (0, 1) := by unfold foeG; rw [if_neg c, if_pos h]
      rw [g, val_zero, Rat.zero_add, if_neg (by simp [h])]
    · have g : foeG n ts k = (1, ((n - (hadN [] ts).length : Nat) : Int)) := by unfold foeG; rw [if_neg c, if_neg h]
      rw [g, val_unit hp, if_pos (by simp [h]), List.length_cons]
      push_cast
      grind
theorem flt_len (p : Nat → Bool) : ∀ l : List Nat, l.length = (l.filter p).length + (l.filter fun k => !p k).length
  | [] => rfl
  | k :: l => by
    have ih := flt_len p l
    rw [List.filter_cons, List.filter_cons, List.length_cons]
    cases p k <;> simp <;> omega
theorem foe_sum {n : Nat} {ts : List Nat} (h1 : 1 ≤ n) (ht : ∀ t ∈ ts, t < n) : ((foeP n ts).map val).sum = 1 := by
  have hl := had_len ht
  have hle := had_le ht
  unfold foeP
  by_cases c : (hadN [] ts).length = n
  · have g : (List.range n).map (foeG n ts) = List.replicate n (1, (n : Int)) := by
      have : (List.range n).map (foeG n ts) = (List.range n).map fun _ => ((1 : Int), (n : Int)) := List.map_congr_left fun k _ => by unfold foeG; rw [if_pos c]
      rw [this, List.map_const', List.length_range]
    rw [g, sum_rep, val_unit (by omega)]
    have : (n : Rat) ≠ 0 := by exact_mod_cast (show n ≠ 0 by omega)
    grind
  · rw [sum_not c (by omega)]
    have f := flt_len (fun k => decide (k ∈ ts)) (List.range n)
    rw [List.length_range, ← hl] at f
    have e : ((List.range n).filter fun k => !decide (k ∈ ts)).length = n - (hadN [] ts).length := by omega
    rw [e]
    have : ((n - (hadN [] ts).length : Nat) : Rat) ≠ 0 := by exact_mod_cast (show n - (hadN [] ts).length ≠ 0 by omega)
    grind

theorem exists_free {n : Nat} {ts : List Nat} (ht : ∀ t ∈ ts, t < n) (h : (hadN [] ts).length < n) : ∃ q, q < n ∧ q ∉ ts := by
  have f := flt_len (fun k => decide (k ∈ ts)) (List.range n)
  rw [List.length_range, ← had_len ht] at f
  have g : 0 < ((List.range n).filter fun k => !decide (k ∈ ts)).length := by omega
  obtain ⟨q, hq⟩ := List.exists_mem_of_length_pos g
  rw [List.mem_filter, List.mem_range] at hq
  exact ⟨q, hq.1, by simpa using hq.2⟩
theorem had_app (p : Nat) : ∀ (ts ds : List Nat), hadN ds (ts ++ [p]) = if p ∈ hadN ds ts then hadN ds ts else hadN ds ts ++ [p]
  | [], ds => rfl
  | a :: ts, ds => had_app p ts _
theorem nth_raise {l s : List (Int × Int)} {k : Nat} (h : s.length = l.length) (hk : k < l.length) : nth (raise l s) k = plus (nth l k) (nth s k) := by
  have z : k < (l.zip s).length := by rw [List.length_zip, h, Nat.min_self]; exact hk
  unfold nth raise
  rw [List.getD_eq_getElem?_getD, List.getElem?_map, List.getElem?_eq_getElem z, List.getD_eq_getElem?_getD, List.getElem?_eq_getElem hk, List.getD_eq_getElem?_getD, List.getElem?_eq_getElem (by omega)]
  rw [List.getElem_zip]; rfl
theorem nth_foe {n : Nat} {ts : List Nat} {k : Nat} (h : k < n) : nth (foeP n ts) k = foeG n ts k := by
  unfold nth foeP
  rw [List.getD_eq_getElem?_getD, List.getElem?_map, List.getElem?_range h]; rfl
theorem nth_set_ne {l : List (Int × Int)} {k p : Nat} {x : Int × Int} (h : p ≠ k) : nth (l.set p x) k = nth l k := by
  unfold nth
  rw [List.getD_eq_getElem?_getD, List.getElem?_set_ne h, List.getD_eq_getElem?_getD]
theorem nth_rep {n q : Nat} (h : q < n) : nth (List.replicate n ((0 : Int), (1 : Int))) q = (0, 1) := by
  unfold nth
  rw [List.getD_eq_getElem?_getD, List.getElem?_replicate, if_pos h]; rfl
theorem natR {n : Nat} (h : 0 < n) : (0 : Rat) < (n : Rat) := by exact_mod_cast h
theorem one_div_le {a b : Nat} (h : a ≤ b) (ha : 0 < a) : 1 / (b : Rat) ≤ 1 / (a : Rat) := by
  have hb : 0 < b := by omega
  rw [le_div_iff (natR ha), Rat.div_def, Rat.one_mul, Rat.mul_comm, ← Rat.div_def, div_le_iff (natR hb), Rat.one_mul]
  exact_mod_cast h
theorem unit_nn (a : Nat) : (0 : Rat) ≤ 1 / (a : Rat) := by
  by_cases h : a = 0
  · subst h
    have : (((0 : Nat) : Rat)) = 0 := rfl
    rw [this, Rat.div_def, Rat.inv_zero, Rat.mul_zero]; exact Rat.le_refl
  · have h3 := Rat.inv_pos.mpr (natR (show 0 < a by omega))
    rw [Rat.div_def, Rat.one_mul]
    grind
structure Iv (n : Nat) (l : List (Int × Int)) (ts : List Nat) : Prop where
  ht : ∀ t ∈ ts, t < n
  ll : l.length = n
  lp : ∀ x ∈ l, Pt (1 + 9 * ts.length) x
  m2 : (hadN [] ts).length + 2 ≤ n
  a : ∀ q, q < n → q ∉ ts → hsum (n - (hadN [] ts).length) (hadN [] ts).length ≤ val (nth l q)
  b : ∀ q, q < n → q ∉ ts → (ts.length : Rat) / (n : Rat) ≤ val (nth l q)
  c : ∀ q, q < n → val (nth l q) < hsum 1 (n - 1)
theorem Iv.step {n p : Nat} {l : List (Int × Int)} {ts : List Nat} (I : Iv n l ts) (hn : n ≤ 24) (hp : p < n) (c' : ∀ q, q < n → val (nth (foeStep n l ts p) q) < hsum 1 (n - 1)) : Iv n (foeStep n l ts p) (ts ++ [p]) := by
  have h1 : 1 ≤ n := by omega
  have ht' : ∀ t ∈ ts ++ [p], t < n := fun t h => by
    rcases List.mem_append.mp h with h | h
    · exact I.ht t h
    · rw [List.mem_singleton.mp h]; exact hp
  have m2 := I.m2
  have sv : ∀ q, q < n → q ∉ ts ++ [p] → val (nth (foeStep n l ts p) q) = val (nth l q) + 1 / ((n - (hadN [] ts).length : Nat) : Rat) := fun q hq hnq => by
    have nq : q ∉ ts := fun h => hnq (by simp [h])
    have pq : p ≠ q := fun h => hnq (by simp [h])
    have gv : val (foeG n ts q) = 1 / ((n - (hadN [] ts).length : Nat) : Rat) := by
      unfold foeG
      rw [if_neg (by omega), if_neg nq]
      exact val_unit (by omega)
    unfold foeStep
    rw [nth_set_ne pq, nth_raise (by rw [foeP_len, I.ll]) (by rw [I.ll]; exact hq), nth_foe hq, val_plus (I.lp _ (nth_mem (by rw [I.ll]; exact hq))).pos (foeG_pt h1 hn I.ht).pos, gv]
  have ml := had_app p ts []
  have a' : ∀ q, q < n → q ∉ ts ++ [p] → hsum (n - (hadN [] (ts ++ [p])).length) (hadN [] (ts ++ [p])).length ≤ val (nth (foeStep n l ts p) q) := fun q hq hnq => by
    have nq : q ∉ ts := fun h => hnq (by simp [h])
    have ia := I.a q hq nq
    rw [sv q hq hnq, ml]
    split
    · have := unit_nn (n - (hadN [] ts).length)
      grind
    · rw [List.length_append, List.length_singleton, hsum_first, show n - ((hadN [] ts).length + 1) + 1 = n - (hadN [] ts).length by omega]
      grind
  refine ⟨ht', foeStep_len I.ll, ?_, ?_, a', ?_, c'⟩
  · rw [List.length_append, List.length_singleton, show 1 + 9 * (ts.length + 1) = 1 + 9 * ts.length + 9 by omega]
    exact foeStep_pt h1 hn I.ll I.lp hp I.ht
  · have le : (hadN [] (ts ++ [p])).length ≤ (hadN [] ts).length + 1 := by rw [ml]; split <;> simp
    by_cases e : (hadN [] (ts ++ [p])).length + 1 = n
    · exfalso
      obtain ⟨q, hq, hnq⟩ := exists_free ht' (by omega)
      have x1 := a' q hq hnq
      have x2 := c' q hq
      rw [show n - (hadN [] (ts ++ [p])).length = 1 by omega, show (hadN [] (ts ++ [p])).length = n - 1 by omega] at x1
      grind
    · omega
  · intro q hq hnq
    have nq : q ∉ ts := fun h => hnq (by simp [h])
    have ib := I.b q hq nq
    rw [sv q hq hnq, List.length_append, List.length_singleton]
    have u : 1 / (n : Rat) ≤ 1 / ((n - (hadN [] ts).length : Nat) : Rat) := one_div_le (by omega) (by omega)
    have e : ((ts.length + 1 : Nat) : Rat) / (n : Rat) = (ts.length : Rat) / (n : Rat) + 1 / (n : Rat) := by
      push_cast
      grind
    rw [e]
    grind
theorem Iv.stop {n : Nat} {l : List (Int × Int)} {ts : List Nat} (I : Iv n l ts) (h : (n : Rat) * hsum 1 (n - 1) ≤ (ts.length : Rat)) : False := by
  have m2 := I.m2
  obtain ⟨q, hq, hnq⟩ := exists_free I.ht (by omega)
  have b := I.b q hq hnq
  have c := I.c q hq
  have pn : (0 : Rat) < (n : Rat) := natR (by omega)
  have d : hsum 1 (n - 1) ≤ (ts.length : Rat) / (n : Rat) := by
    rw [le_div_iff pn, Rat.mul_comm]; exact h
  grind
theorem hsum_pos {n : Nat} (h : 2 ≤ n) : 0 < hsum 1 (n - 1) := by
  rw [show n - 1 = (n - 2) + 1 by omega, hsum_first]
  have a := hsum_nonneg (1 + 1) (n - 2)
  have b : (0 : Rat) < 1 / ((1 + 1 : Nat) : Rat) := by decide +kernel
  grind
theorem Iv.first {n : Nat} (h : 2 ≤ n) : Iv n (List.replicate n ((0 : Int), (1 : Int))) [] := by
  refine ⟨(fun t h => by cases h), List.length_replicate, fun x hx => by rw [List.eq_of_mem_replicate hx]; exact zero_pt, by simpa [hadN] using h, fun q hq _ => ?_, fun q hq _ => ?_, fun q hq => ?_⟩
  · rw [nth_rep hq, val_zero]
    show hsum _ 0 ≤ 0
    rw [hsum]; exact Rat.le_refl
  · rw [nth_rep hq, val_zero]
    show (((0 : Nat) : Rat)) / _ ≤ 0
    rw [Rat.div_def]
    have : (((0 : Nat) : Rat)) = 0 := rfl
    rw [this, Rat.zero_mul]; exact Rat.le_refl
  · rw [nth_rep hq, val_zero]; exact hsum_pos h
/-! the hours -/
def hrs (n : Nat) : Int := -(-(times ((n : Int), 1) (most n 1)).1 / (times ((n : Int), 1) (most n 1)).2)
theorem hrs_ok : ∀ n < 25, 2 ≤ n → 0 < hrs n ∧ hrs n ≤ 70 := by decide +kernel
theorem hrs_ge {n : Nat} (h2 : 2 ≤ n) (hn : n ≤ 24) : (n : Rat) * hsum 1 (n - 1) ≤ ((hrs n).toNat : Rat) := by
  have pn : Pt 6 ((n : Int), 1) := num_pt (by show (n : Int).natAbs < 64; omega) (by decide)
  have pt := times_pt pn (most_pt2 (n := n) (k := 1) hn)
  have v : val (times ((n : Int), 1) (most n 1)) = (n : Rat) * hsum 1 (n - 1) := by
    rw [val_times pn.pos (most_pt2 hn).pos, val_int, most_val (by omega) (by omega)]
    have e1 : ((n : Int) : Rat) = (n : Rat) := by push_cast; rfl
    have e2' : ((1 : Nat) : Rat) = 1 := rfl
    rw [e1, e2', Rat.one_mul]
  have ok := hrs_ok n (by omega) h2
  rw [← v]
  generalize hh : hrs n = z at *
  unfold hrs at hh
  generalize times ((n : Int), 1) (most n 1) = t at *
  have u0 := Int.mul_ediv_add_emod (-t.1) t.2
  have u1 := Int.emod_nonneg (-t.1) (show t.2 ≠ 0 by have := pt.pos; omega)
  have c1 : t.1 ≤ z * t.2 := by
    rw [← hh, Int.neg_mul, Int.mul_comm]; omega
  have tp : (0 : Rat) < (t.2 : Rat) := by exact_mod_cast pt.pos
  have ez : ((z.toNat : Nat) : Rat) = (z : Rat) := by
    have : ((z.toNat : Nat) : Int) = z := Int.toNat_of_nonneg (by omega)
    exact_mod_cast congrArg (fun i : Int => (i : Rat)) this
  rw [ez]
  show Rat.divInt t.1 t.2 ≤ (z : Rat)
  rw [Rat.divInt_eq_div, div_le_iff tp]
  exact_mod_cast c1

theorem any_false : ∀ {α : Type} (l : List α), cAny [.lst ((l.map fun _ => false).map D.bl)] = some (.bl false) := by
  intro α l
  unfold cAny
  simp only [allBl_true, Option.map_some]
  simp
theorem any_bools (l : List Bool) : cAny [.lst (l.map D.bl)] = some (.bl (l.any id)) := by
  unfold cAny
  simp only [allBl_true, Option.map_some]
theorem c1 {n H i : Nat} {ns row : List Int} {l : List (Int × Int)} {ts : List Nat} {x8 x9 x10 : T} (h1 : 1 ≤ n) (hn : n ≤ 24) (ht : ∀ t ∈ ts, t < n) (hl : ts.length ≤ 1000) : (uAsg (.nm 8) (xFz (xCall foe_sharesF [.e (pFr (eV 2)), .e (pFz (pLsI (eCF cList (aCons (eV 6) aNil))))]))) [.fr (.lst (ns.map .int)), .fr (.lst (row.map .int)), .fr (.int n), .fr (P (most n 1)), .fr (.int (H : Int)), .nd .lst ((l.map P).map .fr), .nd .lst ((W ts).map .fr), (.fr (.int (i : Int))), x8, x9, x10, .dead, .dead, .dead] = some (.nx [.fr (.lst (ns.map .int)), .fr (.lst (row.map .int)), .fr (.int n), .fr (P (most n 1)), .fr (.int (H : Int)), .nd .lst ((l.map P).map .fr), .nd .lst ((W ts).map .fr), (.fr (.int (i : Int))), (.fr (.lst ((foeP n ts).map P))), x9, x10, .dead, .dead, .dead]) := by
  have e0 := foe_shares_eq h1 hn ht hl
  have z1 := @z_pfz
  have z2 := @o_pfzN
  have z3 := @o_pfzF
  have z4 := imms_W ts
  have z5 := imms_lP (foeP n ts)
  have z6 : (W ts).length ≤ 1000000 := by rw [W_len]; omega
  clear ht
  generalize foeP n ts = s at *
  walk_at "tpv"
theorem c2 {n H i : Nat} {ns row : List Int} {l : List (Int × Int)} {ts : List Nat} {x9 x10 : T} (h1 : 1 ≤ n) (hn : n ≤ 24) (ht : ∀ t ∈ ts, t < n) : (uIf (fOr (fNot (tB2 (eCB law_partsF (aCons (eV 8) aNil)))) (fOr (tB2 (e2 dNe (eCB cLen (aCons (eV 8) aNil)) (eV 2))) (tB2 (e2 dNe (eCB law_sumF (aCons (eV 8) aNil)) (eTup (aCons (eC (.int 1)) (aCons (eC (.int 1)) aNil))))))) (uRet (xP (pFr (eC (.bl false))))) uNil) [.fr (.lst (ns.map .int)), .fr (.lst (row.map .int)), .fr (.int n), .fr (P (most n 1)), .fr (.int (H : Int)), .nd .lst ((l.map P).map .fr), .nd .lst ((W ts).map .fr), (.fr (.int (i : Int))), (.fr (.lst ((foeP n ts).map P))), x9, x10, .dead, .dead, .dead] = some (.nx [.fr (.lst (ns.map .int)), .fr (.lst (row.map .int)), .fr (.int n), .fr (P (most n 1)), .fr (.int (H : Int)), .nd .lst ((l.map P).map .fr), .nd .lst ((W ts).map .fr), (.fr (.int (i : Int))), (.fr (.lst ((foeP n ts).map P))), x9, x10, .dead, .dead, .dead]) := by
  have fl := foeP_len n ts
  have fp := foeP_pt h1 hn ht
  have e1 := law_parts_eq (foeP n ts) (by omega)
  have e2' := law_sum_eq fp (by rw [fl]; omega)
  have sp : Pt 200 (sumP (foeP n ts)) := (sum_pt fp).mono (by rw [fl]; omega)
  have sv : sumP (foeP n ts) = (1, 1) := val_inj sp one_pt (by rw [sumP_val fun x hx => (fp x hx).pos, foe_sum h1 ht]; rw [val_one])
  rw [sv] at e2'
  have e3 : law_sumF [.lst ((foeP n ts).map P)] = some (.tup [.int 1, .int 1]) := e2'
  have e4 : dNe (.tup [.int 1, .int 1]) (.tup [.int 1, .int 1]) = some (.bl false) := by
    have := @dNe_P (1, 1) (1, 1)
    rw [decide_eq_true rfl] at this
    exact this
  clear ht fp e2' sv sp
  generalize foeP n ts = s at *
  walk_at "tpv"
theorem c3 {n H i : Nat} {ns row : List Int} {l : List (Int × Int)} {ts : List Nat} {x9 x10 : T} (h1 : 1 ≤ n) (hn : n ≤ 24) (ht : ∀ t ∈ ts, t < n) : (uIf (tB2 (eCB cAny (aCons (eFr (eComp [12] (iL (eV 8)) (.nm 12) tTrue (e2 dLt (e2 dIx (eV 12) (eC (.int 0))) (eC (.int 0))))) aNil))) (uRet (xP (pFr (eC (.bl false))))) uNil) [.fr (.lst (ns.map .int)), .fr (.lst (row.map .int)), .fr (.int n), .fr (P (most n 1)), .fr (.int (H : Int)), .nd .lst ((l.map P).map .fr), .nd .lst ((W ts).map .fr), (.fr (.int (i : Int))), (.fr (.lst ((foeP n ts).map P))), x9, x10, .dead, .dead, .dead] = some (.nx [.fr (.lst (ns.map .int)), .fr (.lst (row.map .int)), .fr (.int n), .fr (P (most n 1)), .fr (.int (H : Int)), .nd .lst ((l.map P).map .fr), .nd .lst ((W ts).map .fr), (.fr (.int (i : Int))), (.fr (.lst ((foeP n ts).map P))), x9, x10, .dead, .dead, .dead]) := by
  have fl := foeP_len n ts
  have c := comp_map (t := .nm 12) (test := tTrue) (elt := e2 dLt (e2 dIx (eV 12) (eC (.int 0))) (eC (.int 0))) (ρ := [some (.lst (ns.map .int)), some (.lst (row.map .int)), some (.int n), some (P (most n 1)), some (.int (H : Int)), some (.lst (l.map P)), some (.lst (W ts)), some (.int (i : Int)), some (.lst ((foeP n ts).map P)), x9.d, x10.d, none, none, none]) P D.bl (fun _ => false) (foeP n ts) (fun x hx => by
    have nn : ¬ x.1 < 0 := by
      obtain ⟨k, _, rfl⟩ := List.mem_map.mp hx
      unfold foeG
      split
      · show ¬ (1 : Int) < 0; omega
      · split
        · show ¬ (0 : Int) < 0; omega
        · show ¬ (1 : Int) < 0; omega
    refine ⟨_, rfl, rfl, ?_⟩
    clear ht hx
    generalize foeP n ts = s at *
    walk_at "tpv")
  have ca := any_false (foeP n ts)
  clear ht
  have ok : n ≤ 1000000 := by omega
  generalize foeP n ts = s at *
  walk_at "tpv"
theorem c4 {n H i : Nat} {ns row : List Int} {l : List (Int × Int)} {ts : List Nat} {N : Nat} {x9 x10 : T} (h1 : 1 ≤ n) (hn : n ≤ 24) (ht : ∀ t ∈ ts, t < n) (ll : l.length = n) (lp : ∀ x ∈ l, Pt N x) (hN : N ≤ 4000) : (uAsg (.nm 5) (xP (pLsI (eComp [11, 12] (iZ (aCons (eV 5) (aCons (eV 8) aNil))) (.tp [11, 12]) tTrue (eCB law_addF (aCons (eV 11) (aCons (eV 12) aNil))))))) [.fr (.lst (ns.map .int)), .fr (.lst (row.map .int)), .fr (.int n), .fr (P (most n 1)), .fr (.int (H : Int)), .nd .lst ((l.map P).map .fr), .nd .lst ((W ts).map .fr), (.fr (.int (i : Int))), (.fr (.lst ((foeP n ts).map P))), x9, x10, .dead, .dead, .dead] = some (.nx [.fr (.lst (ns.map .int)), .fr (.lst (row.map .int)), .fr (.int n), .fr (P (most n 1)), .fr (.int (H : Int)), .nd .lst (((raise l (foeP n ts)).map P).map .fr), .nd .lst ((W ts).map .fr), (.fr (.int (i : Int))), (.fr (.lst ((foeP n ts).map P))), x9, x10, .dead, .dead, .dead]) := by
  have fl := foeP_len n ts
  have fp := foeP_pt h1 hn ht
  have ec := due_comp lp fp (by omega) (i := 11) (j := 12) (ρ := [some (.lst (ns.map .int)), some (.lst (row.map .int)), some (.int n), some (P (most n 1)), some (.int (H : Int)), some (.lst (l.map P)), some (.lst (W ts)), some (.int (i : Int)), some (.lst ((foeP n ts).map P)), x9.d, x10.d, none, none, none]) (fun a b => ⟨_, rfl, rfl, rfl⟩)
  have rl := raise_len (l := l) (s := foeP n ts) (by omega)
  have zl := zip_len l (foeP n ts) (by omega)
  have zo : (zipD (l.map P) ((foeP n ts).map P)).length ≤ 1000000 := by omega
  have im := imms_lP (raise l (foeP n ts))
  clear ht fp lp zl
  generalize foeP n ts = s at *
  generalize raise l s = r at *
  walk_at "tpv"
theorem c5 {n H i : Nat} {ns row : List Int} {r : List (Int × Int)} {ts : List Nat} {x9 x10 : T} (h1 : 1 ≤ n) (hn : n ≤ 24) (hr : Row row) (hl : row.length = 80) (hi : i < 76) : ∃ a : Nat, a < n ∧ (uAsg (.nm 9) (xP (pFr (e2 dMod (e2 dIx (eV 1) (e2 dAdd (eC (.int 4)) (eV 7))) (eV 2))))) [.fr (.lst (ns.map .int)), .fr (.lst (row.map .int)), .fr (.int n), .fr (P (most n 1)), .fr (.int (H : Int)), .nd .lst ((r.map P).map .fr), .nd .lst ((W ts).map .fr), (.fr (.int (i : Int))), (.fr (.lst ((foeP n ts).map P))), x9, x10, .dead, .dead, .dead] = some (.nx [.fr (.lst (ns.map .int)), .fr (.lst (row.map .int)), .fr (.int n), .fr (P (most n 1)), .fr (.int (H : Int)), .nd .lst ((r.map P).map .fr), .nd .lst ((W ts).map .fr), (.fr (.int (i : Int))), (.fr (.lst ((foeP n ts).map P))), (.fr (.int (a : Int))), x10, .dead, .dead, .dead]) := by
  obtain ⟨v, b, at4⟩ := row_ati (i := 4 + (i : Int)) hr (by omega) (by omega)
  have pn : (0 : Int) < (n : Int) := by omega
  have dn : okDiv (n : Int) = true := okDiv_of (n := 6) (by omega) (by show (n : Int).natAbs < 64; omega) (by decide)
  obtain ⟨a, ha, ea⟩ := nat_of (z := v % (n : Int)) (n := n) (by have := Int.emod_nonneg v (show (n : Int) ≠ 0 by omega); omega) (by have := Int.emod_lt_of_pos v pn; omega)
  refine ⟨a, ha, ?_⟩
  generalize foeP n ts = s at *
  clear hr hl
  walk_at "tpv"
theorem c6 {n H i a : Nat} {ns row : List Int} {r : List (Int × Int)} {ts : List Nat} {x10 : T} (hn : n ≤ 24) : (uAsg (.nm 10) (xFz (xP (pLsI (eComp [13] (iR1 (aCons (eV 2) aNil)) (.nm 13) (tB2 (e2 dNinL (eV 13) (eV 6))) (eV 13)))))) [.fr (.lst (ns.map .int)), .fr (.lst (row.map .int)), .fr (.int n), .fr (P (most n 1)), .fr (.int (H : Int)), .nd .lst ((r.map P).map .fr), .nd .lst ((W ts).map .fr), (.fr (.int (i : Int))), (.fr (.lst ((foeP n ts).map P))), (.fr (.int (a : Int))), x10, .dead, .dead, .dead] = some (.nx [.fr (.lst (ns.map .int)), .fr (.lst (row.map .int)), .fr (.int n), .fr (P (most n 1)), .fr (.int (H : Int)), .nd .lst ((r.map P).map .fr), .nd .lst ((W ts).map .fr), (.fr (.int (i : Int))), (.fr (.lst ((foeP n ts).map P))), (.fr (.int (a : Int))), (.fr (.lst (W ((List.range n).filter fun k => !decide (k ∈ ts))))), .dead, .dead, .dead]) := by
  have sn := small_nat (n := n) (by omega)
  have okr : (rngD 0 n).length ≤ 1000000 := by rw [rng_len]; omega
  have ec := comp_flt (t := .nm 13) (test := tB2 (e2 dNinL (eV 13) (eV 6))) (elt := eV 13) (ρ := [some (.lst (ns.map .int)), some (.lst (row.map .int)), some (.int n), some (P (most n 1)), some (.int (H : Int)), some (.lst (r.map P)), some (.lst (W ts)), some (.int (i : Int)), some (.lst ((foeP n ts).map P)), some (.int (a : Int)), x10.d, none, none, none]) (fun (k : Nat) => D.int (k : Int)) (fun (k : Nat) => D.int (k : Int)) id (fun k => !decide (k ∈ ts)) (List.range n) (fun k hk => by
    have nl := @ninL_nat k ts
    replace nl : dNinL (.int (k : Int)) (.lst (W ts)) = _ := nl
    refine ⟨_, rfl, ?_, rfl⟩
    clear sn okr hk
    generalize foeP n ts = s at *
    walk_at "tpv")
  rw [← rng0, List.map_id] at ec
  replace ec : compD _ _ _ _ _ = some (W ((List.range n).filter fun k => !decide (k ∈ ts))) := ec
  have im := imms_W ((List.range n).filter fun k => !decide (k ∈ ts))
  generalize foeP n ts = s at *
  generalize ((List.range n).filter fun k => !decide (k ∈ ts)) = f at *
  walk_at "tpv"
  simp only [Int.toNat_natCast, decide_eq_true okr, if_true, ec]
  walk_at "tpv"
theorem c7 {n H i a : Nat} {ns row : List Int} {r : List (Int × Int)} {ts : List Nat} {x10 : T} (h2 : 2 ≤ n) (ha : a < n) (hr : Row row) (hl : row.length = 80) (hi : i < 76) : ∃ b : Nat, b < n ∧ (uIf (tB2 (e2 dEq (e2 dMod (e2 dIx (eV 1) (eC (.int 2))) (eC (.int 4))) (eC (.int 1)))) (uAsg (.nm 9) (xP (pFr (e2 dMod (e2 dIx (eV 1) (e2 dAdd (eC (.int 4)) (eV 7))) (eCB cMin2 (aCons (eV 2) (aCons (eC (.int 2)) aNil))))))) uNil) [.fr (.lst (ns.map .int)), .fr (.lst (row.map .int)), .fr (.int n), .fr (P (most n 1)), .fr (.int (H : Int)), .nd .lst ((r.map P).map .fr), .nd .lst ((W ts).map .fr), (.fr (.int (i : Int))), (.fr (.lst ((foeP n ts).map P))), (.fr (.int (a : Int))), x10, .dead, .dead, .dead] = some (.nx [.fr (.lst (ns.map .int)), .fr (.lst (row.map .int)), .fr (.int n), .fr (P (most n 1)), .fr (.int (H : Int)), .nd .lst ((r.map P).map .fr), .nd .lst ((W ts).map .fr), (.fr (.int (i : Int))), (.fr (.lst ((foeP n ts).map P))), (.fr (.int (b : Int))), x10, .dead, .dead, .dead]) := by
  obtain ⟨v, vb, at4⟩ := row_ati (i := 4 + (i : Int)) hr (by omega) (by omega)
  obtain ⟨w, wb, at2⟩ := row_at (k := 2) hr (by omega)
  replace at2 : atI (row.map D.int) 2 = some (.int w) := at2
  have d4 : okDiv 4 = true := by decide
  have d2 : okDiv 2 = true := by decide
  have p4 : (0 : Int) < 4 := by decide
  have p2 : (0 : Int) < 2 := by decide
  have mn : (if (2 : Int) < (n : Int) then (2 : Int) else (n : Int)) = 2 := by split <;> omega
  generalize foeP n ts = s at *
  clear hr hl
  by_cases c : w % 4 = 1
  · obtain ⟨b, hb, eb⟩ := nat_of (z := v % 2) (n := 2) (by omega) (by omega)
    refine ⟨b, by omega, ?_⟩
    walk_at "tpv"
  · refine ⟨a, ha, ?_⟩
    walk_at "tpv"
theorem c8 {n H i b : Nat} {ns row : List Int} {r : List (Int × Int)} {ts : List Nat} (hn : n ≤ 24) (hb : b < n) (hr : Row row) (hl : row.length = 80) (hi : i < 76) : ∃ c : Nat, c < n ∧ (uIf (fAnd (tB2 (e2 dEq (e2 dMod (e2 dIx (eV 1) (eC (.int 2))) (eC (.int 4))) (eC (.int 2)))) (tTru (eV 10))) (uAsg (.nm 9) (xP (pFr (e2 dIx (eV 10) (e2 dMod (e2 dIx (eV 1) (e2 dAdd (eC (.int 4)) (eV 7))) (eCB cLen (aCons (eV 10) aNil))))))) uNil) [.fr (.lst (ns.map .int)), .fr (.lst (row.map .int)), .fr (.int n), .fr (P (most n 1)), .fr (.int (H : Int)), .nd .lst ((r.map P).map .fr), .nd .lst ((W ts).map .fr), (.fr (.int (i : Int))), (.fr (.lst ((foeP n ts).map P))), (.fr (.int (b : Int))), (.fr (.lst (W ((List.range n).filter fun k => !decide (k ∈ ts))))), .dead, .dead, .dead] = some (.nx [.fr (.lst (ns.map .int)), .fr (.lst (row.map .int)), .fr (.int n), .fr (P (most n 1)), .fr (.int (H : Int)), .nd .lst ((r.map P).map .fr), .nd .lst ((W ts).map .fr), (.fr (.int (i : Int))), (.fr (.lst ((foeP n ts).map P))), (.fr (.int (c : Int))), (.fr (.lst (W ((List.range n).filter fun k => !decide (k ∈ ts))))), .dead, .dead, .dead]) := by
  obtain ⟨v, vb, at4⟩ := row_ati (i := 4 + (i : Int)) hr (by omega) (by omega)
  obtain ⟨w, wb, at2⟩ := row_at (k := 2) hr (by omega)
  replace at2 : atI (row.map D.int) 2 = some (.int w) := at2
  have d4 : okDiv 4 = true := by decide
  have p4 : (0 : Int) < 4 := by decide
  have fle : ((List.range n).filter fun k => !decide (k ∈ ts)).length ≤ n := Nat.le_trans (List.length_filter_le _ _) (by rw [List.length_range]; exact Nat.le_refl _)
  have fm : ∀ q ∈ ((List.range n).filter fun k => !decide (k ∈ ts)), q < n := fun q hq => List.mem_range.mp (List.mem_filter.mp hq).1
  generalize ((List.range n).filter fun k => !decide (k ∈ ts)) = f at *
  generalize foeP n ts = s at *
  clear hr hl
  have wl := W_len f
  by_cases c : w % 4 = 2
  · by_cases e : f = []
    · subst e
      refine ⟨b, hb, ?_⟩
      have ee : (!(W []).isEmpty) = false := rfl
      walk_at "tpv"
    · have fl : 0 < f.length := List.length_pos_iff.mpr e
      have ee : (!(W f).isEmpty) = true := by
        cases f with
        | nil => exact absurd rfl e
        | cons => rfl
      have pf : (0 : Int) < (f.length : Int) := by omega
      have df : okDiv (f.length : Int) = true := okDiv_of (n := 6) (by omega) (by show (f.length : Int).natAbs < 64; omega) (by decide)
      obtain ⟨j, hj, ej⟩ := nat_of (z := v % (f.length : Int)) (n := f.length) (by have := Int.emod_nonneg v (show (f.length : Int) ≠ 0 by omega); omega) (by have := Int.emod_lt_of_pos v pf; omega)
      have aj : atI (W f) (j : Int) = some (.int ((f[j] : Nat) : Int)) := ixN_atI (ixN_nat (by rw [W_len]; exact hj)) (W_at (List.getElem?_eq_getElem hj))
      refine ⟨f[j], fm _ (List.getElem_mem hj), ?_⟩
      clear fm fle e
      generalize f[j] = q at *
      walk_at "tpv"
  · refine ⟨b, hb, ?_⟩
    walk_at "tpv"
theorem c9 {n H i : Nat} {ns row : List Int} {l : List (Int × Int)} {ts : List Nat} {c N : Nat} {x10 : T} (h1 : 1 ≤ n) (hn : n ≤ 24) (hc : c < n) (ht : ∀ t ∈ ts, t < n) (ll : l.length = n) (lp : ∀ x ∈ l, Pt N x) (hN : N ≤ 4000) (hr : Row row) (hl : row.length = 80) (hi : i < 76) : ∃ p : Nat, p < n ∧ (uIf (fAnd (tB2 (e2 dEq (e2 dMod (e2 dIx (eV 1) (eC (.int 2))) (eC (.int 4))) (eC (.int 3)))) (tB2 (e2 dGt (e2 dMod (e2 dIx (eV 1) (e2 dAdd (eC (.int 4)) (eV 7))) (eC (.int 3))) (eC (.int 0))))) (uAsg (.nm 9) (xP (pIm (eCB law_firstF (aCons (eV 5) aNil))))) uNil) [.fr (.lst (ns.map .int)), .fr (.lst (row.map .int)), .fr (.int n), .fr (P (most n 1)), .fr (.int (H : Int)), .nd .lst (((raise l (foeP n ts)).map P).map .fr), .nd .lst ((W ts).map .fr), (.fr (.int (i : Int))), (.fr (.lst ((foeP n ts).map P))), (.fr (.int (c : Int))), x10, .dead, .dead, .dead] = some (.nx [.fr (.lst (ns.map .int)), .fr (.lst (row.map .int)), .fr (.int n), .fr (P (most n 1)), .fr (.int (H : Int)), .nd .lst (((raise l (foeP n ts)).map P).map .fr), .nd .lst ((W ts).map .fr), (.fr (.int (i : Int))), (.fr (.lst ((foeP n ts).map P))), (.fr (.int (p : Int))), x10, .dead, .dead, .dead]) := by
  obtain ⟨v, vb, at4⟩ := row_ati (i := 4 + (i : Int)) hr (by omega) (by omega)
  obtain ⟨w, wb, at2⟩ := row_at (k := 2) hr (by omega)
  replace at2 : atI (row.map D.int) 2 = some (.int w) := at2
  have d4 : okDiv 4 = true := by decide
  have d3 : okDiv 3 = true := by decide
  have p4 : (0 : Int) < 4 := by decide
  have p3 : (0 : Int) < 3 := by decide
  have rl := raise_len (l := l) (s := foeP n ts) (by rw [foeP_len, ll])
  have rp := raise_pt lp (foeP_pt h1 hn ht)
  have e1 := law_first_eq rp (by omega) (by omega) (by omega)
  have fl := first_lt (l := raise l (foeP n ts)) (by omega)
  generalize raise l (foeP n ts) = r at *
  generalize foeP n ts = s at *
  clear hr hl rp lp ht
  by_cases a : w % 4 = 3
  · by_cases b : 0 < v % 3
    · refine ⟨firstOf r, by omega, ?_⟩
      walk_at "tpv"
    · refine ⟨c, hc, ?_⟩
      walk_at "tpv"
  · refine ⟨c, hc, ?_⟩
    walk_at "tpv"
theorem ca {n H i : Nat} {ns row : List Int} {l : List (Int × Int)} {ts : List Nat} {p N : Nat} {x10 : T} (h1 : 1 ≤ n) (hn : n ≤ 24) (hp : p < n) (ht : ∀ t ∈ ts, t < n) (ll : l.length = n) (lp : ∀ x ∈ l, Pt N x) (hN : N ≤ 4000) : (uSet (nV 5) (eV 9) (xP (pIm (eCB law_subF (aCons (e2 dIx (eV 5) (eV 9)) (aCons (eTup (aCons (eC (.int 1)) (aCons (eC (.int 1)) aNil))) aNil)))))) [.fr (.lst (ns.map .int)), .fr (.lst (row.map .int)), .fr (.int n), .fr (P (most n 1)), .fr (.int (H : Int)), .nd .lst (((raise l (foeP n ts)).map P).map .fr), .nd .lst ((W ts).map .fr), (.fr (.int (i : Int))), (.fr (.lst ((foeP n ts).map P))), (.fr (.int (p : Int))), x10, .dead, .dead, .dead] = some (.nx [.fr (.lst (ns.map .int)), .fr (.lst (row.map .int)), .fr (.int n), .fr (P (most n 1)), .fr (.int (H : Int)), .nd .lst (((foeStep n l ts p).map P).map .fr), .nd .lst ((W ts).map .fr), (.fr (.int (i : Int))), (.fr (.lst ((foeP n ts).map P))), (.fr (.int (p : Int))), x10, .dead, .dead, .dead]) := by
  have rp := raise_pt lp (foeP_pt h1 hn ht)
  have rl := raise_len (l := l) (s := foeP n ts) (by rw [foeP_len, ll])
  have i1 := atI_nth (l := raise l (foeP n ts)) (k := p) (by omega)
  have e3 := law_sub_eq (rp _ (nth_mem (by rw [rl, ll]; exact hp))) one_pt (by omega)
  have e3' : law_subF [P (nth (raise l (foeP n ts)) p), .tup [.int 1, .int 1]] = some (P (minus (nth (raise l (foeP n ts)) p) (1, 1))) := e3
  have i2 := ixN_nat hp
  have i3 : imm (P (minus (nth (raise l (foeP n ts)) p) (1, 1))) = true := rfl
  have rn : (raise l (foeP n ts)).length = n := by omega
  unfold foeStep
  rw [List.map_set, List.map_set]
  clear ht rp lp ll rl e3
  generalize foeP n ts = s at *
  generalize minus (nth (raise l s) p) (1, 1) = m at *
  generalize raise l s = r at *
  walk_at "tpv"
theorem cb {n H i p : Nat} {ns row : List Int} {r : List (Int × Int)} {ts : List Nat} {x8 x10 : T} (hl : ts.length ≤ 1000) : (uEx (xBm efApp (nV 6) (psCons (pFr (eV 9)) psNil))) [.fr (.lst (ns.map .int)), .fr (.lst (row.map .int)), .fr (.int n), .fr (P (most n 1)), .fr (.int (H : Int)), .nd .lst ((r.map P).map .fr), .nd .lst ((W ts).map .fr), (.fr (.int (i : Int))), x8, (.fr (.int (p : Int))), x10, .dead, .dead, .dead] = some (.nx [.fr (.lst (ns.map .int)), .fr (.lst (row.map .int)), .fr (.int n), .fr (P (most n 1)), .fr (.int (H : Int)), .nd .lst ((r.map P).map .fr), .nd .lst ((W (ts ++ [p])).map .fr), (.fr (.int (i : Int))), x8, (.fr (.int (p : Int))), x10, .dead, .dead, .dead]) := by
  have e : (W (ts ++ [p])).map T.fr = (W ts).map T.fr ++ [.fr (.int (p : Int))] := by unfold W; simp
  rw [e]
  have z6 : (W ts).length ≤ 1000000 := by rw [W_len]; omega
  walk_at "tpv"
theorem cc {n H i N : Nat} {ns row : List Int} {r : List (Int × Int)} {ts : List Nat} {x8 x9 x10 : T} (hn : n ≤ 24) (rl : r.length = n) (rp : ∀ x ∈ r, Pt N x) (hN : N ≤ 4000) :
    (uIf (tB2 (eCB cAny (aCons (eFr (eComp [11] (iL (eV 5)) (.nm 11) tTrue (e1 eNot (eCB law_lessF (aCons (eV 11) (aCons (eV 3) aNil)))))) aNil))) (uRet (xP (pFr (eC (.bl true))))) uNil) [.fr (.lst (ns.map .int)), .fr (.lst (row.map .int)), .fr (.int n), .fr (P (most n 1)), .fr (.int (H : Int)), .nd .lst ((r.map P).map .fr), .nd .lst ((W ts).map .fr), (.fr (.int (i : Int))), x8, x9, x10, .dead, .dead, .dead] = if (r.map fun x => !less x (most n 1)).any id then some (.rt (.fr (.bl true)) [.fr (.lst (ns.map .int)), .fr (.lst (row.map .int)), .fr (.int n), .fr (P (most n 1)), .fr (.int (H : Int)), .nd .lst ((r.map P).map .fr), .nd .lst ((W ts).map .fr), (.fr (.int (i : Int))), x8, x9, x10, .dead, .dead, .dead]) else some (.nx [.fr (.lst (ns.map .int)), .fr (.lst (row.map .int)), .fr (.int n), .fr (P (most n 1)), .fr (.int (H : Int)), .nd .lst ((r.map P).map .fr), .nd .lst ((W ts).map .fr), (.fr (.int (i : Int))), x8, x9, x10, .dead, .dead, .dead]) := by
  have mp := most_pt2 (n := n) (k := 1) hn
  have ec := comp_map (t := .nm 11) (test := tTrue) (elt := e1 eNot (eCB law_lessF (aCons (eV 11) (aCons (eV 3) aNil)))) (ρ := [some (.lst (ns.map .int)), some (.lst (row.map .int)), some (.int n), some (P (most n 1)), some (.int (H : Int)), some (.lst (r.map P)), some (.lst (W ts)), some (.int (i : Int)), x8.d, x9.d, x10.d, none, none, none]) P D.bl (fun x => !less x (most n 1)) r (fun x hx => by
    have e1' := law_less_eq (rp x hx) mp (by omega)
    refine ⟨_, rfl, rfl, ?_⟩
    clear rp hx mp
    generalize most n 1 = b at *
    walk_at "tpv")
  have ca := any_bools (r.map fun x => !less x (most n 1))
  have ok : n ≤ 1000000 := by omega
  clear rp mp
  generalize most n 1 = b at *
  cases h : (r.map fun x => !less x b).any id with
  | true => walk_at "tpv"
  | false => walk_at "tpv"
theorem turn {n H i : Nat} {ns row : List Int} {l : List (Int × Int)} {ts : List Nat} {N : Nat} {x8 x9 x10 : T} (h2 : 2 ≤ n) (hn : n ≤ 24) (ht : ∀ t ∈ ts, t < n) (hts : ts.length ≤ 1000) (ll : l.length = n) (lp : ∀ x ∈ l, Pt N x) (hN : N ≤ 3000) (hr : Row row) (hl : row.length = 80) (hi : i < 76) : ∃ p : Nat, p < n ∧ ∃ y8 y9 y10 : T,
    law_b1 [.fr (.lst (ns.map .int)), .fr (.lst (row.map .int)), .fr (.int n), .fr (P (most n 1)), .fr (.int (H : Int)), .nd .lst ((l.map P).map .fr), .nd .lst ((W ts).map .fr), (.fr (.int (i : Int))), x8, x9, x10, .dead, .dead, .dead] = if ((foeStep n l ts p).map fun x => !less x (most n 1)).any id then some (.rt (.fr (.bl true)) [.fr (.lst (ns.map .int)), .fr (.lst (row.map .int)), .fr (.int n), .fr (P (most n 1)), .fr (.int (H : Int)), .nd .lst (((foeStep n l ts p).map P).map .fr), .nd .lst ((W (ts ++ [p])).map .fr), (.fr (.int (i : Int))), y8, y9, y10, .dead, .dead, .dead]) else some (.nx [.fr (.lst (ns.map .int)), .fr (.lst (row.map .int)), .fr (.int n), .fr (P (most n 1)), .fr (.int (H : Int)), .nd .lst (((foeStep n l ts p).map P).map .fr), .nd .lst ((W (ts ++ [p])).map .fr), (.fr (.int (i : Int))), y8, y9, y10, .dead, .dead, .dead]) := by
  have h1 : 1 ≤ n := by omega
  obtain ⟨a, ha, ea⟩ := c5 (ns := ns) (H := H) (r := raise l (foeP n ts)) (ts := ts) (x9 := x9) (x10 := x10) h1 hn hr hl hi
  obtain ⟨b, hb, eb⟩ := c7 (ns := ns) (H := H) (r := raise l (foeP n ts)) (ts := ts) (x10 := (.fr (.lst (W ((List.range n).filter fun k => !decide (k ∈ ts)))))) h2 ha hr hl hi
  obtain ⟨c, hc, ec⟩ := c8 (ns := ns) (H := H) (r := raise l (foeP n ts)) (ts := ts) hn hb hr hl hi
  obtain ⟨p, hp, ep⟩ := c9 (ns := ns) (H := H) (x10 := (.fr (.lst (W ((List.range n).filter fun k => !decide (k ∈ ts)))))) h1 hn hc ht ll lp (by omega) hr hl hi
  refine ⟨p, hp, .fr (.lst ((foeP n ts).map P)), .fr (.int (p : Int)), .fr (.lst (W ((List.range n).filter fun k => !decide (k ∈ ts)))), ?_⟩
  unfold law_b1
  exact seq_nxT (c1 h1 hn ht hts) (seq_nxT (c2 h1 hn ht) (seq_nxT (c3 h1 hn ht) (seq_nxT (c4 h1 hn ht ll lp (by omega)) (seq_nxT ea (seq_nxT (c6 hn) (seq_nxT eb (seq_nxT ec (seq_nxT ep (seq_nxT (ca h1 hn hp ht ll lp (by omega)) (seq_nxT (cb hts) (cc (N := N + 9) hn (foeStep_len ll) (foeStep_pt h1 hn ll lp hp ht) (by omega))))))))))))
theorem rng_up (lo : Int) (n : Nat) : rngD lo (n + 1) = .int lo :: rngD (lo + 1) n := by
  unfold rngD
  rw [List.range_succ_eq_map, List.map_cons, List.map_map]
  congr 1
  · simp
  · refine List.map_congr_left fun i _ => ?_
    show D.int (lo + ((i + 1 : Nat) : Int)) = D.int (lo + 1 + (i : Int))
    congr 1
    omega
theorem not_any {n : Nat} {r : List (Int × Int)} (hn : n ≤ 24) (h2 : 2 ≤ n) {N : Nat} (rp : ∀ x ∈ r, Pt N x) (rl : r.length = n) (h : (r.map fun x => !less x (most n 1)).any id = false) : ∀ q, q < n → val (nth r q) < hsum 1 (n - 1) := fun q hq => by
  have m := nth_mem (l := r) (k := q) (by omega)
  rw [List.any_eq_false] at h
  have := h _ (List.mem_map_of_mem (f := fun x => !less x (most n 1)) m)
  simp only [id, Bool.not_eq_true, Bool.not_eq_false'] at this
  have g := of_decide_eq_true ((less_val (rp _ m).pos (most_pt2 (n := n) (k := 1) hn).pos).symm.trans this)
  rw [most_val (by omega) (by omega)] at g
  have e2' : ((1 : Nat) : Rat) = 1 := rfl
  rw [e2', Rat.one_mul] at g
  exact g
theorem loop {n H : Nat} {ns row : List Int} (h2 : 2 ≤ n) (hn : n ≤ 24) (hr : Row row) (hl : row.length = 80) (hH : H ≤ 70) (hh : (n : Rat) * hsum 1 (n - 1) ≤ (H : Rat)) : ∀ (j i : Nat) (l : List (Int × Int)) (ts : List Nat) (x7 x8 x9 x10 : T), i + j = H → ts.length = i → Iv n l ts →
    ∃ ρ', loopU (.nm 7) law_b1 (rngD (i : Int) j) [.fr (.lst (ns.map .int)), .fr (.lst (row.map .int)), .fr (.int n), .fr (P (most n 1)), .fr (.int (H : Int)), .nd .lst ((l.map P).map .fr), .nd .lst ((W ts).map .fr), x7, x8, x9, x10, .dead, .dead, .dead] = some (.rt (.fr (.bl true)) ρ')
  | 0, i, l, ts, x7, x8, x9, x10, e, el, I => by
    exact (I.stop (by rw [el, show i = H by omega]; exact hh)).elim
  | j + 1, i, l, ts, x7, x8, x9, x10, e, el, I => by
    obtain ⟨p, hp, y8, y9, y10, et⟩ := turn (ns := ns) (row := row) (H := H) (i := i) (x8 := x8) (x9 := x9) (x10 := x10) h2 hn I.ht (by omega) I.ll I.lp (by omega) hr hl (by omega)
    rw [rng_up, z_loop]
    show ∃ ρ', nextT _ _ _ (turnT _ (some [.fr (.lst (ns.map .int)), .fr (.lst (row.map .int)), .fr (.int n), .fr (P (most n 1)), .fr (.int (H : Int)), .nd .lst ((l.map P).map .fr), .nd .lst ((W ts).map .fr), (.fr (.int (i : Int))), x8, x9, x10, .dead, .dead, .dead])) = _
    rw [o_turn, et]
    cases h : ((foeStep n l ts p).map fun x => !less x (most n 1)).any id with
    | true => exact ⟨_, rfl⟩
    | false =>
      have na := not_any hn h2 (foeStep_pt (by omega) hn I.ll I.lp hp I.ht) (foeStep_len I.ll) h
      obtain ⟨ρ', g⟩ := loop h2 hn hr hl hH hh j (i + 1) (foeStep n l ts p) (ts ++ [p]) (.fr (.int (i : Int))) y8 y9 y10 (by omega) (by rw [List.length_append, List.length_singleton, el]) (I.step hn hp na)
      refine ⟨ρ', ?_⟩
      rw [if_neg (by decide), o_next1]
      rw [show ((i + 1 : Nat) : Int) = (i : Int) + 1 from by omega] at g
      exact g

theorem law_true : ∀ ns : List Int, ns.length ≤ 63 → ∃ ts, lawF [.fr (.lst (ns.map D.int))] = some (.ok ts (.fr (.bl true))) := by
  intro ns _
  obtain ⟨row, hl, hr, hf⟩ := law_flow_eq ns 80 (by decide)
  replace hf : law_flowF [.lst (ns.map .int), .int 80] = some (row.map .int) := hf
  obtain ⟨v0, b0, hh0⟩ := row_at (k := 0) hr (by omega)
  obtain ⟨v1, b1, hh1⟩ := row_at (k := 1) hr (by omega)
  replace hh0 : atI (row.map D.int) 0 = some (.int v0) := hh0
  replace hh1 : atI (row.map D.int) 1 = some (.int v1) := hh1
  have d23 : okDiv 23 = true := by decide
  have p23 : (0 : Int) < 23 := by decide
  have d11 : okDiv 11 = true := by decide
  have p11 : (0 : Int) < 11 := by decide
  have d6 : okDiv 6 = true := by decide
  have p6 : (0 : Int) < 6 := by decide
  have t1 : law_s1 [.fr (.lst (ns.map .int)), .dead, .dead, .dead, .dead, .dead, .dead, .dead, .dead, .dead, .dead, .dead, .dead, .dead] = some (.nx [.fr (.lst (ns.map .int)), .fr (.lst (row.map .int)), .dead, .dead, .dead, .dead, .dead, .dead, .dead, .dead, .dead, .dead, .dead, .dead]) := by
    unfold law_s1
    walk_at "tpv"
  obtain ⟨n, h2, hn, t23⟩ : ∃ n : Nat, 2 ≤ n ∧ n ≤ 24 ∧ ∃ m : Int, law_s2 [.fr (.lst (ns.map .int)), .fr (.lst (row.map .int)), .dead, .dead, .dead, .dead, .dead, .dead, .dead, .dead, .dead, .dead, .dead, .dead] = some (.nx [.fr (.lst (ns.map .int)), .fr (.lst (row.map .int)), .fr (.int m), .dead, .dead, .dead, .dead, .dead, .dead, .dead, .dead, .dead, .dead, .dead]) ∧ law_s3 [.fr (.lst (ns.map .int)), .fr (.lst (row.map .int)), .fr (.int m), .dead, .dead, .dead, .dead, .dead, .dead, .dead, .dead, .dead, .dead, .dead] = some (.nx [.fr (.lst (ns.map .int)), .fr (.lst (row.map .int)), .fr (.int n), .dead, .dead, .dead, .dead, .dead, .dead, .dead, .dead, .dead, .dead, .dead]) := by
    clear t1 hf
    obtain ⟨a, ab, ea⟩ := nat_of (z := 2 + v0 % 11) (n := 25) (by omega) (by omega)
    obtain ⟨b, bb, eb⟩ := nat_of (z := 2 + v0 % 23) (n := 25) (by omega) (by omega)
    by_cases c : v1 % 6 = 0
    · refine ⟨b, by omega, by omega, (a : Int), ?_, ?_⟩
      · clear eb
        unfold law_s2
        walk_at "tpv"
      · clear ea
        unfold law_s3
        walk_at "tpv"
    · refine ⟨a, by omega, by omega, (a : Int), ?_, ?_⟩
      · clear eb
        unfold law_s2
        walk_at "tpv"
      · clear ea eb
        unfold law_s3
        walk_at "tpv"
  obtain ⟨m, t2, t3⟩ := t23
  have el := law_most_eq2 (n := n) (k := 1) hn (by omega)
  replace el : law_mostF [.int n, .int 1] = some (P (most n 1)) := el
  have ok := hrs_ok n (by omega) h2
  obtain ⟨H, eH⟩ : ∃ H : Nat, hrs n = (H : Int) := ⟨(hrs n).toNat, by omega⟩
  have ge := hrs_ge h2 hn
  rw [eH, Int.toNat_natCast] at ge
  have ef := foe_hours_eq (n := n) (by omega) (by omega)
  replace ef : foe_hoursF [.int n] = some (.int (hrs n)) := ef
  rw [eH] at ef ok
  have t4 : law_s4 [.fr (.lst (ns.map .int)), .fr (.lst (row.map .int)), .fr (.int n), .dead, .dead, .dead, .dead, .dead, .dead, .dead, .dead, .dead, .dead, .dead] = some (.nx [.fr (.lst (ns.map .int)), .fr (.lst (row.map .int)), .fr (.int n), .fr (P (most n 1)), .dead, .dead, .dead, .dead, .dead, .dead, .dead, .dead, .dead, .dead]) := by
    clear t1 t2 t3 hf
    generalize most n 1 = bo at *
    unfold law_s4
    walk_at "tpv"
  have t5 : law_s5 [.fr (.lst (ns.map .int)), .fr (.lst (row.map .int)), .fr (.int n), .fr (P (most n 1)), .dead, .dead, .dead, .dead, .dead, .dead, .dead, .dead, .dead, .dead] = some (.nx [.fr (.lst (ns.map .int)), .fr (.lst (row.map .int)), .fr (.int n), .fr (P (most n 1)), .fr (.int (H : Int)), .dead, .dead, .dead, .dead, .dead, .dead, .dead, .dead, .dead]) := by
    clear t1 t2 t3 t4 hf
    generalize most n 1 = bo at *
    unfold law_s5
    walk_at "tpv"
  have t6 : law_s6 [.fr (.lst (ns.map .int)), .fr (.lst (row.map .int)), .fr (.int n), .fr (P (most n 1)), .fr (.int (H : Int)), .dead, .dead, .dead, .dead, .dead, .dead, .dead, .dead, .dead] = some (.nx [.fr (.lst (ns.map .int)), .fr (.lst (row.map .int)), .fr (.int n), .fr (P (most n 1)), .fr (.int (H : Int)), .dead, .dead, .dead, .dead, .dead, .dead, .dead, .dead, .dead]) := by
    clear t1 t2 t3 t4 t5 hf ge
    generalize most n 1 = bo at *
    have k1 : (0 : Int) < (H : Int) := by omega
    have k2 : (H : Int) ≤ 70 := by omega
    clear ok eH
    unfold law_s6
    walk_at "tpv"
  have sn := small_nat (n := n) (by omega)
  have okr : (rngD 0 n).length ≤ 1000000 := by rw [rng_len]; omega
  have ec := zeros_comp (n := n) (own := 9) (ρ := [some (.lst (ns.map .int)), some (.lst (row.map .int)), some (.int n), some (P (most n 1)), some (.int (H : Int)), none, none, none, none, none, none, none, none, none]) (fun d => ⟨_, rfl⟩)
  have im := imms_lP (List.replicate n ((0 : Int), (1 : Int)))
  have t7 : law_s7 [.fr (.lst (ns.map .int)), .fr (.lst (row.map .int)), .fr (.int n), .fr (P (most n 1)), .fr (.int (H : Int)), .dead, .dead, .dead, .dead, .dead, .dead, .dead, .dead, .dead] = some (.nx [.fr (.lst (ns.map .int)), .fr (.lst (row.map .int)), .fr (.int n), .fr (P (most n 1)), .fr (.int (H : Int)), .nd .lst (((List.replicate n ((0 : Int), (1 : Int))).map P).map .fr), .dead, .dead, .dead, .dead, .dead, .dead, .dead, .dead]) := by
    clear t1 t2 t3 t4 t5 t6 hf ge
    generalize most n 1 = bo at *
    unfold law_s7
    walk_at "tpv"
    simp only [Int.toNat_natCast, decide_eq_true okr, if_true, ec]
    walk_at "tpv"
  have t8 : (uAsg (.nm 6) (xP (pLs (eLst aNil)))) [.fr (.lst (ns.map .int)), .fr (.lst (row.map .int)), .fr (.int n), .fr (P (most n 1)), .fr (.int (H : Int)), .nd .lst (((List.replicate n ((0 : Int), (1 : Int))).map P).map .fr), .dead, .dead, .dead, .dead, .dead, .dead, .dead, .dead] = some (.nx [.fr (.lst (ns.map .int)), .fr (.lst (row.map .int)), .fr (.int n), .fr (P (most n 1)), .fr (.int (H : Int)), .nd .lst (((List.replicate n ((0 : Int), (1 : Int))).map P).map .fr), .nd .lst [], .dead, .dead, .dead, .dead, .dead, .dead, .dead]) := rfl
  obtain ⟨ρ', lo⟩ := loop (ns := ns) (row := row) h2 hn hr hl (by omega) ge H 0 (List.replicate n ((0 : Int), (1 : Int))) [] .dead .dead .dead .dead (by omega) rfl (Iv.first h2)
  replace lo : loopU (.nm 7) law_b1 (rngD 0 H) [.fr (.lst (ns.map .int)), .fr (.lst (row.map .int)), .fr (.int n), .fr (P (most n 1)), .fr (.int (H : Int)), .nd .lst (((List.replicate n ((0 : Int), (1 : Int))).map P).map .fr), .nd .lst [], .dead, .dead, .dead, .dead, .dead, .dead, .dead] = some (.rt (.fr (.bl true)) ρ') := lo
  have t9 : law_s9 [.fr (.lst (ns.map .int)), .fr (.lst (row.map .int)), .fr (.int n), .fr (P (most n 1)), .fr (.int (H : Int)), .nd .lst (((List.replicate n ((0 : Int), (1 : Int))).map P).map .fr), .nd .lst [], .dead, .dead, .dead, .dead, .dead, .dead, .dead] = some (.rt (.fr (.bl true)) ρ') := by
    unfold law_s9
    rw [z_for]
    have er : iR1 (aCons (eV 4) aNil) (frz [.fr (.lst (ns.map .int)), .fr (.lst (row.map .int)), .fr (.int n), .fr (P (most n 1)), .fr (.int (H : Int)), .nd .lst (((List.replicate n ((0 : Int), (1 : Int))).map P).map .fr), .nd .lst [], .dead, .dead, .dead, .dead, .dead, .dead, .dead]) = some (rngD 0 H) := by
      have sH := small_nat (n := H) (by omega)
      clear t1 t2 t3 t4 t5 t6 t7 t8 hf ge lo ec im
      generalize most n 1 = bo at *
      walk_at "tpv"
      simp only [Int.toNat_natCast]
    rw [er, o_for]
    exact lo
  have e : lawB [.fr (.lst (ns.map .int)), .dead, .dead, .dead, .dead, .dead, .dead, .dead, .dead, .dead, .dead, .dead, .dead, .dead] = some (.rt (.fr (.bl true)) ρ') := by
    unfold lawB
    exact seq_nxT t1 (seq_nxT t2 (seq_nxT t3 (seq_nxT t4 (seq_nxT t5 (seq_nxT t6 (seq_nxT t7 (seq_nxT t8 (seq_rtT t9))))))))
  unfold lawF
  walk_at "top"
  rw [e]
  exact ⟨_, rfl⟩
end L_k17
namespace L_k17
open PySem L2 PD PO PM

def topS (i : Nat) : Stmt := PySem.Challenge.pw_ditchturn_k17_whole_foe_wins.main.body.getD i (.Pass ⟨0, 0, 0, 0⟩)
abbrev s_measure : Stmt := topS 1
abbrev n_measure : List Str := ["one", "other"]
theorem sc_measure : FnScope n_measure ["one", "other"] (defScope s_measure) := ⟨rfl, rfl, rfl, by decide +kernel, rfl, by decide +kernel, by decide +kernel⟩
abbrev s_lowest : Stmt := topS 2
abbrev n_lowest : List Str := ["top", "bottom", "by"]
theorem sc_lowest : FnScope n_lowest ["top", "bottom"] (defScope s_lowest) := ⟨rfl, rfl, rfl, by decide +kernel, rfl, by decide +kernel, by decide +kernel⟩
abbrev s_plus : Stmt := topS 3
abbrev n_plus : List Str := ["a", "b"]
theorem sc_plus : FnScope n_plus ["a", "b"] (defScope s_plus) := ⟨rfl, rfl, rfl, by decide +kernel, rfl, by decide +kernel, by decide +kernel⟩
abbrev s_times : Stmt := topS 4
abbrev n_times : List Str := ["a", "b"]
theorem sc_times : FnScope n_times ["a", "b"] (defScope s_times) := ⟨rfl, rfl, rfl, by decide +kernel, rfl, by decide +kernel, by decide +kernel⟩
abbrev s_ceil_of : Stmt := topS 5
abbrev n_ceil_of : List Str := ["a"]
theorem sc_ceil_of : FnScope n_ceil_of ["a"] (defScope s_ceil_of) := ⟨rfl, rfl, rfl, by decide +kernel, rfl, by decide +kernel, by decide +kernel⟩
abbrev s_behind : Stmt := topS 7
abbrev n_behind : List Str := ["many"]
theorem sc_behind : FnScope n_behind ["many"] (defScope s_behind) := ⟨rfl, rfl, rfl, by decide +kernel, rfl, by decide +kernel, by decide +kernel⟩
abbrev s_most : Stmt := topS 8
abbrev n_most : List Str := ["many", "k", "found", "j"]
theorem sc_most : FnScope n_most ["many", "k"] (defScope s_most) := ⟨rfl, rfl, rfl, by decide +kernel, rfl, by decide +kernel, by decide +kernel⟩
abbrev s_foe_hours : Stmt := topS 9
abbrev n_foe_hours : List Str := ["many"]
theorem sc_foe_hours : FnScope n_foe_hours ["many"] (defScope s_foe_hours) := ⟨rfl, rfl, rfl, by decide +kernel, rfl, by decide +kernel, by decide +kernel⟩
abbrev s_foe_shares : Stmt := topS 12
abbrev n_foe_shares : List Str := ["many", "turns", "had", "place", "left"]
theorem sc_foe_shares : FnScope n_foe_shares ["many", "turns"] (defScope s_foe_shares) := ⟨rfl, rfl, rfl, by decide +kernel, rfl, by decide +kernel, by decide +kernel⟩
abbrev s_law_flow : Stmt := topS 14
abbrev n_law_flow : List Str := ["_law_script", "_law_many", "_law_great", "_law_row", "_law_k", "_law_cell", "_law_mixed"]
theorem sc_law_flow : FnScope n_law_flow ["_law_script", "_law_many"] (defScope s_law_flow) := ⟨rfl, rfl, rfl, by decide +kernel, rfl, by decide +kernel, by decide +kernel⟩
abbrev s_law_whole : Stmt := topS 15
abbrev n_law_whole : List Str := ["_law_found"]
theorem sc_law_whole : FnScope n_law_whole ["_law_found"] (defScope s_law_whole) := ⟨rfl, rfl, rfl, by decide +kernel, rfl, by decide +kernel, by decide +kernel⟩
abbrev s_law_low : Stmt := topS 16
abbrev n_law_low : List Str := ["_law_top", "_law_bottom", "_law_one", "_law_other"]
theorem sc_law_low : FnScope n_law_low ["_law_top", "_law_bottom"] (defScope s_law_low) := ⟨rfl, rfl, rfl, by decide +kernel, rfl, by decide +kernel, by decide +kernel⟩
abbrev s_law_add : Stmt := topS 17
abbrev n_law_add : List Str := ["_law_a", "_law_b"]
theorem sc_law_add : FnScope n_law_add ["_law_a", "_law_b"] (defScope s_law_add) := ⟨rfl, rfl, rfl, by decide +kernel, rfl, by decide +kernel, by decide +kernel⟩
abbrev s_law_sub : Stmt := topS 18
abbrev n_law_sub : List Str := ["_law_a", "_law_b"]
theorem sc_law_sub : FnScope n_law_sub ["_law_a", "_law_b"] (defScope s_law_sub) := ⟨rfl, rfl, rfl, by decide +kernel, rfl, by decide +kernel, by decide +kernel⟩
abbrev s_law_less : Stmt := topS 19
abbrev n_law_less : List Str := ["_law_a", "_law_b"]
theorem sc_law_less : FnScope n_law_less ["_law_a", "_law_b"] (defScope s_law_less) := ⟨rfl, rfl, rfl, by decide +kernel, rfl, by decide +kernel, by decide +kernel⟩
abbrev s_law_sum : Stmt := topS 20
abbrev n_law_sum : List Str := ["_law_row", "_law_found", "_law_a"]
theorem sc_law_sum : FnScope n_law_sum ["_law_row"] (defScope s_law_sum) := ⟨rfl, rfl, rfl, by decide +kernel, rfl, by decide +kernel, by decide +kernel⟩
abbrev s_law_part : Stmt := topS 21
abbrev n_law_part : List Str := ["_law_found"]
theorem sc_law_part : FnScope n_law_part ["_law_found"] (defScope s_law_part) := ⟨rfl, rfl, rfl, by decide +kernel, rfl, by decide +kernel, by decide +kernel⟩
abbrev s_law_parts : Stmt := topS 22
abbrev n_law_parts : List Str := ["_law_found", "_law_a"]
theorem sc_law_parts : FnScope n_law_parts ["_law_found"] (defScope s_law_parts) := ⟨rfl, rfl, rfl, by decide +kernel, rfl, by decide +kernel, by decide +kernel⟩
abbrev s_law_most : Stmt := topS 23
abbrev n_law_most : List Str := ["_law_n", "_law_k", "_law_found", "_law_j"]
theorem sc_law_most : FnScope n_law_most ["_law_n", "_law_k"] (defScope s_law_most) := ⟨rfl, rfl, rfl, by decide +kernel, rfl, by decide +kernel, by decide +kernel⟩
abbrev s_law_first : Stmt := topS 24
abbrev n_law_first : List Str := ["_law_row", "_law_at", "_law_k"]
theorem sc_law_first : FnScope n_law_first ["_law_row"] (defScope s_law_first) := ⟨rfl, rfl, rfl, by decide +kernel, rfl, by decide +kernel, by decide +kernel⟩
abbrev s_law : Stmt := topS 25
abbrev n_law : List Str := ["_law_script", "_law_row", "_law_n", "_law_bound", "_law_hours", "_law_lags", "_law_turns", "_law_hour", "_law_shares", "_law_place", "_law_left", "_law_lag", "_law_share", "_law_k"]
theorem sc_law : FnScope n_law ["_law_script"] (defScope s_law) := ⟨rfl, rfl, rfl, by decide +kernel, rfl, by decide +kernel, by decide +kernel⟩
/-- what the top has written -/
structure Txt (K : PySem.W.Frag) (mg : Str → Option Value) (a : Nat → Addr) : Prop where
  g_measure : mg "measure" = some (.ref (a 0))
  k_measure : PySem.W.keepIn K (.ref (a 0)) = true
  g_lowest : mg "lowest" = some (.ref (a 1))
  k_lowest : PySem.W.keepIn K (.ref (a 1)) = true
  g_plus : mg "plus" = some (.ref (a 2))
  k_plus : PySem.W.keepIn K (.ref (a 2)) = true
  g_times : mg "times" = some (.ref (a 3))
  k_times : PySem.W.keepIn K (.ref (a 3)) = true
  g_ceil_of : mg "ceil_of" = some (.ref (a 4))
  k_ceil_of : PySem.W.keepIn K (.ref (a 4)) = true
  g_behind : mg "behind" = some (.ref (a 5))
  k_behind : PySem.W.keepIn K (.ref (a 5)) = true
  g_most : mg "most" = some (.ref (a 6))
  k_most : PySem.W.keepIn K (.ref (a 6)) = true
  g_foe_hours : mg "foe_hours" = some (.ref (a 7))
  k_foe_hours : PySem.W.keepIn K (.ref (a 7)) = true
  g_foe_shares : mg "foe_shares" = some (.ref (a 8))
  k_foe_shares : PySem.W.keepIn K (.ref (a 8)) = true
  g_law_flow : mg "_law_flow" = some (.ref (a 9))
  k_law_flow : PySem.W.keepIn K (.ref (a 9)) = true
  g_law_whole : mg "_law_whole" = some (.ref (a 10))
  k_law_whole : PySem.W.keepIn K (.ref (a 10)) = true
  g_law_low : mg "_law_low" = some (.ref (a 11))
  k_law_low : PySem.W.keepIn K (.ref (a 11)) = true
  g_law_add : mg "_law_add" = some (.ref (a 12))
  k_law_add : PySem.W.keepIn K (.ref (a 12)) = true
  g_law_sub : mg "_law_sub" = some (.ref (a 13))
  k_law_sub : PySem.W.keepIn K (.ref (a 13)) = true
  g_law_less : mg "_law_less" = some (.ref (a 14))
  k_law_less : PySem.W.keepIn K (.ref (a 14)) = true
  g_law_sum : mg "_law_sum" = some (.ref (a 15))
  k_law_sum : PySem.W.keepIn K (.ref (a 15)) = true
  g_law_part : mg "_law_part" = some (.ref (a 16))
  k_law_part : PySem.W.keepIn K (.ref (a 16)) = true
  g_law_parts : mg "_law_parts" = some (.ref (a 17))
  k_law_parts : PySem.W.keepIn K (.ref (a 17)) = true
  g_law_most : mg "_law_most" = some (.ref (a 18))
  k_law_most : PySem.W.keepIn K (.ref (a 18)) = true
  g_law_first : mg "_law_first" = some (.ref (a 19))
  k_law_first : PySem.W.keepIn K (.ref (a 19)) = true
  g_law : mg "law" = some (.ref (a 20))
  k_law : PySem.W.keepIn K (.ref (a 20)) = true
  b_abs : mg "abs" = none
  b_all : mg "all" = none
  b_any : mg "any" = none
  b_bool : mg "bool" = none
  b_int : mg "int" = none
  b_isinstance : mg "isinstance" = none
  b_len : mg "len" = none
  b_list : mg "list" = none
  b_min : mg "min" = none
  b_range : mg "range" = none
  b_tuple : mg "tuple" = none
  b_zip : mg "zip" = none
  g_NOTHING : ∃ u, mg "NOTHING" = some u ∧ RelV (.ref (a 21)) u
  d_NOTHING : ∀ H, Dn K H (.ref (a 21)) (.tup [(.int 0), (.int 1)])
structure Df (P : Program) (w : World) (K : PySem.W.Frag) (mg : Str → Option Value) (base : Heap) (k : Nat) (f : Addr) (ps : List Str) (sp : Sp) (fd : FuncData) : Prop where
  ok : FnOk P w K mg base CX0 k f fd ps sp
  bd : Binds K fd ps []
structure DfT (P : Program) (w : World) (K : PySem.W.Frag) (mg : Str → Option Value) (base : Heap) (k : Nat) (f : Addr) (ps : List Str) (sp : Sp) (fd : FuncData) : Prop where
  ok : FnOk P w K mg base (L2.CX P w) k f fd ps sp
  bd : Binds K fd ps []
section
variable {P : Program} {w : World} {K : PySem.W.Frag} {mg : Str → Option Value} {base : Heap} {a : Nat → Addr}
theorem ok_measure {fd : FuncData} (G : Fun K "measure" "measure" s_measure (a 0) fd) (T : Txt K mg a) : FnOk P w K mg base CX0 1 (a 0) fd ["one", "other"] (spD K measureF) := by
  refine fnD (O := []) (F := measureB) G sc_measure rfl rfl (by decide) (by decide) (fun cdv A outer s H E hr => ?_)
  exact (ss_cons (sd_asg (i := 0) sc_measure.nd rfl (by first | exact Or.inl rfl | exact Or.inr rfl) (by decide) (pd_cb call_abs okc_abs rfl T.b_abs (by decide +kernel) (ad_cons (pd_var 0) ad_nil)))
  (ss_cons (sd_while (fuelI 1) PassesOwn.never (pt_gt (pd_var 1) pd_int) (ss_one (sd_par (i := 0) (j := 1) rfl sc_measure.nd rfl rfl (by decide) rfl rfl (ad_cons (pd_var 1) (ad_cons (pd_mod (pd_var 0) (pd_var 1)) ad_nil)) (by decide) (by decide) (by rfl))))
  (ss_one (sd_ret (pd_var 0)))))
theorem ok_lowest {fd : FuncData} (G : Fun K "lowest" "lowest" s_lowest (a 1) fd) (T : Txt K mg a) {fd_measure : FuncData} (C_measure : Df P w K mg base 1 (a 0) ["one", "other"] (spD K measureF) fd_measure) : FnOk P w K mg base CX0 2 (a 1) fd ["top", "bottom"] (spD K lowestF) := by
  refine fnD (O := []) (F := lowestB) G sc_lowest rfl rfl (by decide) (by decide) (fun cdv A outer s H E hr => ?_)
  exact (ss_cons (sd_asg (i := 2) sc_lowest.nd rfl (by first | exact Or.inl rfl | exact Or.inr rfl) (by decide) (pd_call C_measure.ok (hr.mono (by decide)) rfl T.g_measure T.k_measure C_measure.bd (ad_cons (pd_var 0) (ad_cons (pd_var 1) ad_nil))))
  (ss_one (sd_ret (pd_tup (ad_cons (pd_div (pd_var 0) (pd_var 2)) (ad_cons (pd_div (pd_var 1) (pd_var 2)) ad_nil))))))
theorem ok_plus {fd : FuncData} (G : Fun K "plus" "plus" s_plus (a 2) fd) (T : Txt K mg a) {fd_lowest : FuncData} (C_lowest : Df P w K mg base 2 (a 1) ["top", "bottom"] (spD K lowestF) fd_lowest) : FnOk P w K mg base CX0 3 (a 2) fd ["a", "b"] (spD K plusF) := by
  refine fnD (O := []) (F := plusB) G sc_plus rfl rfl (by decide) (by decide) (fun cdv A outer s H E hr => ?_)
  exact (ss_one (sd_ret (pd_call C_lowest.ok (hr.mono (by decide)) rfl T.g_lowest T.k_lowest C_lowest.bd (ad_cons (pd_add (pd_mul (pd_ix (pd_var 0) pd_int) (pd_ix (pd_var 1) pd_int)) (pd_mul (pd_ix (pd_var 1) pd_int) (pd_ix (pd_var 0) pd_int))) (ad_cons (pd_mul (pd_ix (pd_var 0) pd_int) (pd_ix (pd_var 1) pd_int)) ad_nil)))))
theorem ok_times {fd : FuncData} (G : Fun K "times" "times" s_times (a 3) fd) (T : Txt K mg a) {fd_lowest : FuncData} (C_lowest : Df P w K mg base 2 (a 1) ["top", "bottom"] (spD K lowestF) fd_lowest) : FnOk P w K mg base CX0 3 (a 3) fd ["a", "b"] (spD K timesF) := by
  refine fnD (O := []) (F := timesB) G sc_times rfl rfl (by decide) (by decide) (fun cdv A outer s H E hr => ?_)
  exact (ss_one (sd_ret (pd_call C_lowest.ok (hr.mono (by decide)) rfl T.g_lowest T.k_lowest C_lowest.bd (ad_cons (pd_mul (pd_ix (pd_var 0) pd_int) (pd_ix (pd_var 1) pd_int)) (ad_cons (pd_mul (pd_ix (pd_var 0) pd_int) (pd_ix (pd_var 1) pd_int)) ad_nil)))))
theorem ok_ceil_of {fd : FuncData} (G : Fun K "ceil_of" "ceil_of" s_ceil_of (a 4) fd) (T : Txt K mg a) : FnOk P w K mg base CX0 1 (a 4) fd ["a"] (spD K ceil_ofF) := by
  refine fnD (O := []) (F := ceil_ofB) G sc_ceil_of rfl rfl (by decide) (by decide) (fun cdv A outer s H E hr => ?_)
  exact (ss_one (sd_ret (pd_neg (pd_div (pd_neg (pd_ix (pd_var 0) pd_int)) (pd_ix (pd_var 0) pd_int)))))
theorem ok_behind {fd : FuncData} (G : Fun K "behind" "behind" s_behind (a 5) fd) (T : Txt K mg a) {fd_most : FuncData} (C_most : Df P w K mg base 4 (a 6) ["many", "k"] (spD K mostF) fd_most) : FnOk P w K mg base CX0 5 (a 5) fd ["many"] (spD K behindF) := by
  refine fnD (O := []) (F := behindB) G sc_behind rfl rfl (by decide) (by decide) (fun cdv A outer s H E hr => ?_)
  exact (ss_one (sd_ret (pd_call C_most.ok (hr.mono (by decide)) rfl T.g_most T.k_most C_most.bd (ad_cons (pd_var 0) (ad_cons pd_int ad_nil)))))
theorem ok_most {fd : FuncData} (G : Fun K "most" "most" s_most (a 6) fd) (T : Txt K mg a) {fd_plus : FuncData} (C_plus : Df P w K mg base 3 (a 2) ["a", "b"] (spD K plusF) fd_plus) {fd_lowest : FuncData} (C_lowest : Df P w K mg base 2 (a 1) ["top", "bottom"] (spD K lowestF) fd_lowest) : FnOk P w K mg base CX0 4 (a 6) fd ["many", "k"] (spD K mostF) := by
  refine fnD (O := []) (F := mostB) G sc_most rfl rfl (by decide) (by decide) (fun cdv A outer s H E hr => ?_)
  exact (ss_cons (sd_asg (i := 2) sc_most.nd rfl (by first | exact Or.inl rfl | exact Or.inr rfl) (by decide) (pd_tup (ad_cons pd_int (ad_cons pd_int ad_nil))))
  (ss_cons (sd_for PassesOwn.never rfl (by decide) (id_r2 rfl T.b_range (ad_cons (pd_add (pd_var 1) pd_int) (ad_cons (pd_add (pd_var 0) pd_int) ad_nil))) (pg_name (i := 3) sc_most.nd rfl (by first | exact Or.inl rfl | exact Or.inr rfl)) (ss_one (sd_asg (i := 2) sc_most.nd rfl (by first | exact Or.inl rfl | exact Or.inr rfl) (by decide) (pd_call C_plus.ok (hr.mono (by decide)) rfl T.g_plus T.k_plus C_plus.bd (ad_cons (pd_var 2) (ad_cons (pd_tup (ad_cons pd_int (ad_cons (pd_var 3) ad_nil))) ad_nil))))))
  (ss_one (sd_ret (pd_call C_lowest.ok (hr.mono (by decide)) rfl T.g_lowest T.k_lowest C_lowest.bd (ad_cons (pd_mul (pd_ix (pd_var 2) pd_int) (pd_var 1)) (ad_cons (pd_ix (pd_var 2) pd_int) ad_nil)))))))
theorem ok_foe_hours {fd : FuncData} (G : Fun K "foe_hours" "foe_hours" s_foe_hours (a 7) fd) (T : Txt K mg a) {fd_behind : FuncData} (C_behind : Df P w K mg base 5 (a 5) ["many"] (spD K behindF) fd_behind) {fd_times : FuncData} (C_times : Df P w K mg base 3 (a 3) ["a", "b"] (spD K timesF) fd_times) {fd_ceil_of : FuncData} (C_ceil_of : Df P w K mg base 1 (a 4) ["a"] (spD K ceil_ofF) fd_ceil_of) : FnOk P w K mg base CX0 6 (a 7) fd ["many"] (spD K foe_hoursF) := by
  refine fnD (O := []) (F := foe_hoursB) G sc_foe_hours rfl rfl (by decide) (by decide) (fun cdv A outer s H E hr => ?_)
  exact (ss_one (sd_ret (pd_call C_ceil_of.ok (hr.mono (by decide)) rfl T.g_ceil_of T.k_ceil_of C_ceil_of.bd (ad_cons (pd_call C_times.ok (hr.mono (by decide)) rfl T.g_times T.k_times C_times.bd (ad_cons (pd_tup (ad_cons (pd_var 0) (ad_cons pd_int ad_nil))) (ad_cons (pd_call C_behind.ok (hr.mono (by decide)) rfl T.g_behind T.k_behind C_behind.bd (ad_cons (pd_var 0) ad_nil)) ad_nil))) ad_nil))))
theorem ok_foe_shares {fd : FuncData} (G : Fun K "foe_shares" "foe_shares" s_foe_shares (a 8) fd) (T : Txt K mg a) : FnOk P w K mg base (L2.CX P w) 1 (a 8) fd ["many", "turns"] (spT K foe_sharesF) := by
  refine fnT (O := [0, 1]) (F := foe_sharesB) G sc_foe_shares rfl rfl (by decide) (by decide) (fun cdv A outer s H vs E hr => ?_)
  exact (yu_cons (yu_asg (by decide) (ps_set (i := 2) sc_foe_shares.nd rfl (by first | exact Or.inl rfl | exact Or.inr rfl) (yx_p yp_dic0)))
  (yu_cons (yu_for PassesOwn.leaving rfl (by decide) (id_list (pd_var 1)) (pg_name (i := 3) sc_foe_shares.nd rfl (by first | exact Or.inl rfl | exact Or.inr rfl)) (yu_one (yu_put (hu1 hr) (yn_var (pv 2)) (pd_var 3) (yx_p (yp_fr pd_bl)))))
  (yu_cons (yu_asg (by decide) (ps_set (i := 4) sc_foe_shares.nd rfl (by first | exact Or.inl rfl | exact Or.inr rfl) (yx_p (yp_im (pd_sub (pd_var 0) (pd_cb (CallR.or (CallR.or call_len_seq call_len_str) call_lenD) okc_lenA rfl T.b_len (by decide +kernel) (ad_cons (pd_var 2) ad_nil)))))))
  (yu_cons (yu_if (td_eq hr.units (pd_var 4) pd_int) (yu_one (yu_ret (yx_p (yp_ls (pf_comp (own := [("place", 3)]) rfl sc_foe_shares.nd (by decide) (id_r1 rfl T.b_range (ad_cons (pd_var 0) ad_nil)) (blkOk_by (own := [("place", 3)]) (N := n_foe_shares) (sc := defScope s_foe_shares) (by decide +kernel)) (fun _ _ _ _ _ => (pg_name (i := 3) sc_foe_shares.nd rfl (by first | exact Or.inl rfl | exact Or.inr rfl))) (fun _ _ _ _ _ => ts_nil) (fun _ _ _ _ _ => (pd_tup (ad_cons pd_int (ad_cons (pd_var 0) ad_nil))))))))) yu_nil)
  (yu_one (yu_ret (yx_p (yp_lsI (pf_comp (own := [("place", 3)]) rfl sc_foe_shares.nd (by decide) (id_r1 rfl T.b_range (ad_cons (pd_var 0) ad_nil)) (blkOk_by (own := [("place", 3)]) (N := n_foe_shares) (sc := defScope s_foe_shares) (by decide +kernel)) (fun _ _ _ _ _ => (pg_name (i := 3) sc_foe_shares.nd rfl (by first | exact Or.inl rfl | exact Or.inr rfl))) (fun _ _ _ _ _ => ts_nil) (fun _ _ _ _ _ => (pd_ife (pt_inK (hu1 hr) (pd_var 3) (pd_var 2)) (pd_globE T.g_NOTHING T.d_NOTHING) (pd_tup (ad_cons pd_int (ad_cons (pd_var 4) ad_nil))))))))))))))
theorem ok_law_flow {fd : FuncData} (G : Fun K "_law_flow" "_law_flow" s_law_flow (a 9) fd) (T : Txt K mg a) : FnOk P w K mg base CX0 1 (a 9) fd ["_law_script", "_law_many"] (spF K law_flowF) := by
  refine fnF (O := [3]) (F := law_flowB) G sc_law_flow rfl rfl (by decide) (by decide) (fun cdv A outer s H E hr => ?_)
  exact (ss_cons (sd_asg (i := 2) sc_law_flow.nd rfl (by first | exact Or.inl rfl | exact Or.inr rfl) (by decide) pd_int)
  (ss_cons (sd_if (PW.pt (wd_and (pt_gt (pd_cb (CallR.or call_len_seq call_len_str) okc_len rfl T.b_len (by decide +kernel) (ad_cons (pd_var 0) ad_nil)) pd_int) (wd_and1 (pt_ge (pd_cb call_abs okc_abs rfl T.b_abs (by decide +kernel) (ad_cons (pd_ix (pd_var 0) pd_int) ad_nil)) (pd_pow pd_int pd_int))))) (ss_one (sd_asg (i := 2) sc_law_flow.nd rfl (by first | exact Or.inl rfl | exact Or.inr rfl) (by decide) (pd_sub (pd_cb call_abs okc_abs rfl T.b_abs (by decide +kernel) (ad_cons (pd_ix (pd_var 0) pd_int) ad_nil)) (pd_pow pd_int pd_int)))) ss_nil)
  (ss_cons (sd_asgO (i := 3) sc_law_flow.nd rfl (by first | exact Or.inl rfl | exact Or.inr rfl) (by decide) (pf_lst ad_nil))
  (ss_cons (sd_for PassesOwn.never rfl (by decide) (id_r1 rfl T.b_range (ad_cons (pd_var 1) ad_nil)) (pg_name (i := 4) sc_law_flow.nd rfl (by first | exact Or.inl rfl | exact Or.inr rfl)) (ss_one (sd_if (pt_gt (pd_var 2) pd_int) (ss_cons (sd_app (by decide) (ps_expr (pe_bm PySem.F.plainAttrs_list PySem.F.slot_list_append PySem.F.type_list_append mt_append (pv 3) (pa_cons (pd_mod (pd_var 2) pd_int) pa_nil))))
  (ss_one (sd_asg (i := 2) sc_law_flow.nd rfl (by first | exact Or.inl rfl | exact Or.inr rfl) (by decide) (pd_div (pd_var 2) pd_int)))) (ss_cons (sd_asg (i := 5) sc_law_flow.nd rfl (by first | exact Or.inl rfl | exact Or.inr rfl) (by decide) (pd_add (pd_var 4) pd_int))
  (ss_cons (sd_if (pt_gt (pd_cb (CallR.or call_len_seq call_len_str) okc_len rfl T.b_len (by decide +kernel) (ad_cons (pd_var 0) ad_nil)) pd_int) (ss_one (sd_asg (i := 5) sc_law_flow.nd rfl (by first | exact Or.inl rfl | exact Or.inr rfl) (by decide) (pd_ix (pd_var 0) (pd_mod (pd_var 4) (pd_cb (CallR.or call_len_seq call_len_str) okc_len rfl T.b_len (by decide +kernel) (ad_cons (pd_var 0) ad_nil)))))) ss_nil)
  (ss_cons (sd_asg (i := 6) sc_law_flow.nd rfl (by first | exact Or.inl rfl | exact Or.inr rfl) (by decide) (pd_mod (pd_add (pd_add (pd_mul (pd_var 5) pd_int) (pd_mul (pd_var 4) pd_int)) pd_int) pd_int))
  (ss_cons (sd_asg (i := 6) sc_law_flow.nd rfl (by first | exact Or.inl rfl | exact Or.inr rfl) (by decide) (pd_mod (pd_add (pd_add (pd_mul (pd_var 6) pd_int) (pd_mul (pd_var 4) pd_int)) (pd_cb (CallR.or call_len_seq call_len_str) okc_len rfl T.b_len (by decide +kernel) (ad_cons (pd_var 0) ad_nil))) pd_int))
  (ss_one (sd_app (by decide) (ps_expr (pe_bm PySem.F.plainAttrs_list PySem.F.slot_list_append PySem.F.type_list_append mt_append (pv 3) (pa_cons (pd_mod (pd_div (pd_var 6) pd_int) pd_int) pa_nil))))))))))))
  (ss_one (sd_retO (pv 3) (by decide)))))))
theorem ok_law_whole {fd : FuncData} (G : Fun K "_law_whole" "_law_whole" s_law_whole (a 10) fd) (T : Txt K mg a) : FnOk P w K mg base CX0 1 (a 10) fd ["_law_found"] (spD K law_wholeF) := by
  refine fnD (O := []) (F := law_wholeB) G sc_law_whole rfl rfl (by decide) (by decide) (fun cdv A outer s H E hr => ?_)
  exact (ss_one (sd_ret (pd_and (pd_cb call_isi okc_isi rfl T.b_isinstance (by decide +kernel) (ad_cons (pd_var 0) (ad_cons (pd_ty (t := .int) rfl T.b_int (by decide +kernel)) ad_nil))) (pd_one (pd_not (pd_cb call_isi okc_isi rfl T.b_isinstance (by decide +kernel) (ad_cons (pd_var 0) (ad_cons (pd_ty (t := .bool) rfl T.b_bool (by decide +kernel)) ad_nil))))))))
theorem ok_law_low {fd : FuncData} (G : Fun K "_law_low" "_law_low" s_law_low (a 11) fd) (T : Txt K mg a) : FnOk P w K mg base CX0 1 (a 11) fd ["_law_top", "_law_bottom"] (spD K law_lowF) := by
  refine fnD (O := []) (F := law_lowB) G sc_law_low rfl rfl (by decide) (by decide) (fun cdv A outer s H E hr => ?_)
  exact (ss_cons (sd_asg (i := 2) sc_law_low.nd rfl (by first | exact Or.inl rfl | exact Or.inr rfl) (by decide) (pd_cb call_abs okc_abs rfl T.b_abs (by decide +kernel) (ad_cons (pd_var 0) ad_nil)))
  (ss_cons (sd_asg (i := 3) sc_law_low.nd rfl (by first | exact Or.inl rfl | exact Or.inr rfl) (by decide) (pd_var 1))
  (ss_cons (sd_while (fuelI 3) PassesOwn.never (pt_gt (pd_var 3) pd_int) (ss_one (sd_par (i := 2) (j := 3) rfl sc_law_low.nd rfl rfl (by decide) rfl rfl (ad_cons (pd_var 3) (ad_cons (pd_mod (pd_var 2) (pd_var 3)) ad_nil)) (by decide) (by decide) (by rfl))))
  (ss_one (sd_ret (pd_tup (ad_cons (pd_div (pd_var 0) (pd_var 2)) (ad_cons (pd_div (pd_var 1) (pd_var 2)) ad_nil))))))))
theorem ok_law_add {fd : FuncData} (G : Fun K "_law_add" "_law_add" s_law_add (a 12) fd) (T : Txt K mg a) {fd_law_low : FuncData} (C_law_low : Df P w K mg base 1 (a 11) ["_law_top", "_law_bottom"] (spD K law_lowF) fd_law_low) : FnOk P w K mg base CX0 2 (a 12) fd ["_law_a", "_law_b"] (spD K law_addF) := by
  refine fnD (O := []) (F := law_addB) G sc_law_add rfl rfl (by decide) (by decide) (fun cdv A outer s H E hr => ?_)
  exact (ss_one (sd_ret (pd_call C_law_low.ok (hr.mono (by decide)) rfl T.g_law_low T.k_law_low C_law_low.bd (ad_cons (pd_add (pd_mul (pd_ix (pd_var 0) pd_int) (pd_ix (pd_var 1) pd_int)) (pd_mul (pd_ix (pd_var 1) pd_int) (pd_ix (pd_var 0) pd_int))) (ad_cons (pd_mul (pd_ix (pd_var 0) pd_int) (pd_ix (pd_var 1) pd_int)) ad_nil)))))
theorem ok_law_sub {fd : FuncData} (G : Fun K "_law_sub" "_law_sub" s_law_sub (a 13) fd) (T : Txt K mg a) {fd_law_low : FuncData} (C_law_low : Df P w K mg base 1 (a 11) ["_law_top", "_law_bottom"] (spD K law_lowF) fd_law_low) : FnOk P w K mg base CX0 2 (a 13) fd ["_law_a", "_law_b"] (spD K law_subF) := by
  refine fnD (O := []) (F := law_subB) G sc_law_sub rfl rfl (by decide) (by decide) (fun cdv A outer s H E hr => ?_)
  exact (ss_one (sd_ret (pd_call C_law_low.ok (hr.mono (by decide)) rfl T.g_law_low T.k_law_low C_law_low.bd (ad_cons (pd_sub (pd_mul (pd_ix (pd_var 0) pd_int) (pd_ix (pd_var 1) pd_int)) (pd_mul (pd_ix (pd_var 1) pd_int) (pd_ix (pd_var 0) pd_int))) (ad_cons (pd_mul (pd_ix (pd_var 0) pd_int) (pd_ix (pd_var 1) pd_int)) ad_nil)))))
theorem ok_law_less {fd : FuncData} (G : Fun K "_law_less" "_law_less" s_law_less (a 14) fd) (T : Txt K mg a) : FnOk P w K mg base CX0 1 (a 14) fd ["_law_a", "_law_b"] (spD K law_lessF) := by
  refine fnD (O := []) (F := law_lessB) G sc_law_less rfl rfl (by decide) (by decide) (fun cdv A outer s H E hr => ?_)
  exact (ss_one (sd_ret (pd_lt (pd_mul (pd_ix (pd_var 0) pd_int) (pd_ix (pd_var 1) pd_int)) (pd_mul (pd_ix (pd_var 1) pd_int) (pd_ix (pd_var 0) pd_int)))))
theorem ok_law_sum {fd : FuncData} (G : Fun K "_law_sum" "_law_sum" s_law_sum (a 15) fd) (T : Txt K mg a) {fd_law_add : FuncData} (C_law_add : Df P w K mg base 2 (a 12) ["_law_a", "_law_b"] (spD K law_addF) fd_law_add) : FnOk P w K mg base CX0 3 (a 15) fd ["_law_row"] (spD K law_sumF) := by
  refine fnD (O := []) (F := law_sumB) G sc_law_sum rfl rfl (by decide) (by decide) (fun cdv A outer s H E hr => ?_)
  exact (ss_cons (sd_asg (i := 1) sc_law_sum.nd rfl (by first | exact Or.inl rfl | exact Or.inr rfl) (by decide) (pd_tup (ad_cons pd_int (ad_cons pd_int ad_nil))))
  (ss_cons (sd_for PassesOwn.never rfl (by decide) (id_list (pd_var 0)) (pg_name (i := 2) sc_law_sum.nd rfl (by first | exact Or.inl rfl | exact Or.inr rfl)) (ss_one (sd_asg (i := 1) sc_law_sum.nd rfl (by first | exact Or.inl rfl | exact Or.inr rfl) (by decide) (pd_call C_law_add.ok (hr.mono (by decide)) rfl T.g_law_add T.k_law_add C_law_add.bd (ad_cons (pd_var 1) (ad_cons (pd_var 2) ad_nil))))))
  (ss_one (sd_ret (pd_var 1)))))
theorem ok_law_part {fd : FuncData} (G : Fun K "_law_part" "_law_part" s_law_part (a 16) fd) (T : Txt K mg a) {fd_law_whole : FuncData} (C_law_whole : Df P w K mg base 1 (a 10) ["_law_found"] (spD K law_wholeF) fd_law_whole) : FnOk P w K mg base CX0 2 (a 16) fd ["_law_found"] (spD K law_partF) := by
  refine fnD (O := []) (F := law_partB) G sc_law_part rfl rfl (by decide) (by decide) (fun cdv A outer s H E hr => ?_)
  exact (ss_cons (sd_if (PW.pt (wd_or (td_not (pt_vald (pd_cb call_isi okc_isi rfl T.b_isinstance (by decide +kernel) (ad_cons (pd_var 0) (ad_cons (pd_ty (t := .tuple) rfl T.b_tuple (by decide +kernel)) ad_nil))))) (wd_or1 (td_ne hr.units (pd_cb (CallR.or call_len_seq call_len_str) okc_len rfl T.b_len (by decide +kernel) (ad_cons (pd_var 0) ad_nil)) pd_int)))) (ss_one (sd_ret pd_bl)) ss_nil)
  (ss_one (sd_ret (pd_and (pd_call C_law_whole.ok (hr.mono (by decide)) rfl T.g_law_whole T.k_law_whole C_law_whole.bd (ad_cons (pd_ix (pd_var 0) pd_int) ad_nil)) (pd_one (pd_call C_law_whole.ok (hr.mono (by decide)) rfl T.g_law_whole T.k_law_whole C_law_whole.bd (ad_cons (pd_ix (pd_var 0) pd_int) ad_nil)))))))
theorem ok_law_parts {fd : FuncData} (G : Fun K "_law_parts" "_law_parts" s_law_parts (a 17) fd) (T : Txt K mg a) {fd_law_part : FuncData} (C_law_part : Df P w K mg base 2 (a 16) ["_law_found"] (spD K law_partF) fd_law_part) : FnOk P w K mg base CX0 3 (a 17) fd ["_law_found"] (spD K law_partsF) := by
  refine fnD (O := []) (F := law_partsB) G sc_law_parts rfl rfl (by decide) (by decide) (fun cdv A outer s H E hr => ?_)
  exact (ss_one (sd_ret (pd_and (pd_cb call_isi okc_isi rfl T.b_isinstance (by decide +kernel) (ad_cons (pd_var 0) (ad_cons (pd_ty (t := .list) rfl T.b_list (by decide +kernel)) ad_nil))) (pd_one (pd_cb (cr_all rfl) okc_all rfl T.b_all (by decide +kernel) (ad_cons (pd_fr (pf_comp (own := [("_law_a", 1)]) rfl sc_law_parts.nd (by decide) (id_list (pd_var 0)) (blkOk_by (own := [("_law_a", 1)]) (N := n_law_parts) (sc := defScope s_law_parts) (by decide +kernel)) (fun _ _ _ _ _ => (pg_name (i := 1) sc_law_parts.nd rfl (by first | exact Or.inl rfl | exact Or.inr rfl))) (fun _ _ _ _ _ => ts_nil) (fun _ _ _ _ _ => (pd_call C_law_part.ok (hr.mono (by decide)) rfl T.g_law_part T.k_law_part C_law_part.bd (ad_cons (pd_var 1) ad_nil))))) ad_nil))))))
theorem ok_law_most {fd : FuncData} (G : Fun K "_law_most" "_law_most" s_law_most (a 18) fd) (T : Txt K mg a) {fd_law_add : FuncData} (C_law_add : Df P w K mg base 2 (a 12) ["_law_a", "_law_b"] (spD K law_addF) fd_law_add) : FnOk P w K mg base CX0 3 (a 18) fd ["_law_n", "_law_k"] (spD K law_mostF) := by
  refine fnD (O := []) (F := law_mostB) G sc_law_most rfl rfl (by decide) (by decide) (fun cdv A outer s H E hr => ?_)
  exact (ss_cons (sd_asg (i := 2) sc_law_most.nd rfl (by first | exact Or.inl rfl | exact Or.inr rfl) (by decide) (pd_tup (ad_cons pd_int (ad_cons pd_int ad_nil))))
  (ss_cons (sd_for PassesOwn.never rfl (by decide) (id_r2 rfl T.b_range (ad_cons (pd_add (pd_var 1) pd_int) (ad_cons (pd_add (pd_var 0) pd_int) ad_nil))) (pg_name (i := 3) sc_law_most.nd rfl (by first | exact Or.inl rfl | exact Or.inr rfl)) (ss_one (sd_asg (i := 2) sc_law_most.nd rfl (by first | exact Or.inl rfl | exact Or.inr rfl) (by decide) (pd_call C_law_add.ok (hr.mono (by decide)) rfl T.g_law_add T.k_law_add C_law_add.bd (ad_cons (pd_var 2) (ad_cons (pd_tup (ad_cons (pd_var 1) (ad_cons (pd_var 3) ad_nil))) ad_nil))))))
  (ss_one (sd_ret (pd_var 2)))))
theorem ok_law_first {fd : FuncData} (G : Fun K "_law_first" "_law_first" s_law_first (a 19) fd) (T : Txt K mg a) {fd_law_less : FuncData} (C_law_less : Df P w K mg base 1 (a 14) ["_law_a", "_law_b"] (spD K law_lessF) fd_law_less) : FnOk P w K mg base CX0 2 (a 19) fd ["_law_row"] (spD K law_firstF) := by
  refine fnD (O := []) (F := law_firstB) G sc_law_first rfl rfl (by decide) (by decide) (fun cdv A outer s H E hr => ?_)
  exact (ss_cons (sd_asg (i := 1) sc_law_first.nd rfl (by first | exact Or.inl rfl | exact Or.inr rfl) (by decide) pd_int)
  (ss_cons (sd_for PassesOwn.never rfl (by decide) (id_r1 rfl T.b_range (ad_cons (pd_cb (CallR.or call_len_seq call_len_str) okc_len rfl T.b_len (by decide +kernel) (ad_cons (pd_var 0) ad_nil)) ad_nil)) (pg_name (i := 2) sc_law_first.nd rfl (by first | exact Or.inl rfl | exact Or.inr rfl)) (ss_one (sd_if (pt_vald (pd_call C_law_less.ok (hr.mono (by decide)) rfl T.g_law_less T.k_law_less C_law_less.bd (ad_cons (pd_ix (pd_var 0) (pd_var 1)) (ad_cons (pd_ix (pd_var 0) (pd_var 2)) ad_nil)))) (ss_one (sd_asg (i := 1) sc_law_first.nd rfl (by first | exact Or.inl rfl | exact Or.inr rfl) (by decide) (pd_var 2))) ss_nil)))
  (ss_one (sd_ret (pd_var 1)))))
theorem ok_law {fd : FuncData} (G : Fun K "law" "law" s_law (a 20) fd) (T : Txt K mg a) {fd_law_flow : FuncData} (C_law_flow : Df P w K mg base 1 (a 9) ["_law_script", "_law_many"] (spF K law_flowF) fd_law_flow) {fd_law_most : FuncData} (C_law_most : Df P w K mg base 3 (a 18) ["_law_n", "_law_k"] (spD K law_mostF) fd_law_most) {fd_foe_hours : FuncData} (C_foe_hours : Df P w K mg base 6 (a 7) ["many"] (spD K foe_hoursF) fd_foe_hours) {fd_law_whole : FuncData} (C_law_whole : Df P w K mg base 1 (a 10) ["_law_found"] (spD K law_wholeF) fd_law_whole) {fd_foe_shares : FuncData} (C_foe_shares : DfT P w K mg base 1 (a 8) ["many", "turns"] (spT K foe_sharesF) fd_foe_shares) {fd_law_sum : FuncData} (C_law_sum : Df P w K mg base 3 (a 15) ["_law_row"] (spD K law_sumF) fd_law_sum) {fd_law_parts : FuncData} (C_law_parts : Df P w K mg base 3 (a 17) ["_law_found"] (spD K law_partsF) fd_law_parts) {fd_law_add : FuncData} (C_law_add : Df P w K mg base 2 (a 12) ["_law_a", "_law_b"] (spD K law_addF) fd_law_add) {fd_law_first : FuncData} (C_law_first : Df P w K mg base 2 (a 19) ["_law_row"] (spD K law_firstF) fd_law_first) {fd_law_sub : FuncData} (C_law_sub : Df P w K mg base 2 (a 13) ["_law_a", "_law_b"] (spD K law_subF) fd_law_sub) {fd_law_less : FuncData} (C_law_less : Df P w K mg base 1 (a 14) ["_law_a", "_law_b"] (spD K law_lessF) fd_law_less) : FnOk P w K mg base (L2.CX P w) 7 (a 20) fd ["_law_script"] (spT K lawF) := by
  refine fnT (O := [0]) (F := lawB) G sc_law rfl rfl (by decide) (by decide) (fun cdv A outer s H vs E hr => ?_)
  exact (yu_cons (yu_asg (by decide) (ps_set (i := 1) sc_law.nd rfl (by first | exact Or.inl rfl | exact Or.inr rfl) (yx_fz (yx_p (yp_ls (pf_call C_law_flow.ok (hr.mono (by decide)) rfl T.g_law_flow T.k_law_flow C_law_flow.bd (ad_cons (pd_var 0) (ad_cons pd_int ad_nil))))))))
  (yu_cons (yu_asg (by decide) (ps_set (i := 2) sc_law.nd rfl (by first | exact Or.inl rfl | exact Or.inr rfl) (yx_p (yp_fr (pd_add pd_int (pd_mod (pd_ix (pd_var 1) pd_int) pd_int))))))
  (yu_cons (yu_if (td_eq hr.units (pd_mod (pd_ix (pd_var 1) pd_int) pd_int) pd_int) (yu_one (yu_asg (by decide) (ps_set (i := 2) sc_law.nd rfl (by first | exact Or.inl rfl | exact Or.inr rfl) (yx_p (yp_fr (pd_add pd_int (pd_mod (pd_ix (pd_var 1) pd_int) pd_int))))))) yu_nil)
  (yu_cons (yu_asg (by decide) (ps_set (i := 3) sc_law.nd rfl (by first | exact Or.inl rfl | exact Or.inr rfl) (yx_p (yp_fr (pd_call C_law_most.ok (hr.mono (by decide)) rfl T.g_law_most T.k_law_most C_law_most.bd (ad_cons (pd_var 2) (ad_cons pd_int ad_nil)))))))
  (yu_cons (yu_asg (by decide) (ps_set (i := 4) sc_law.nd rfl (by first | exact Or.inl rfl | exact Or.inr rfl) (yx_p (yp_fr (pd_call C_foe_hours.ok (hr.mono (by decide)) rfl T.g_foe_hours T.k_foe_hours C_foe_hours.bd (ad_cons (pd_var 2) ad_nil))))))
  (yu_cons (yu_if (PW.pt (wd_or (td_not (pt_vald (pd_call C_law_whole.ok (hr.mono (by decide)) rfl T.g_law_whole T.k_law_whole C_law_whole.bd (ad_cons (pd_var 4) ad_nil)))) (wd_or1 (td_not (td_chain ok_lt ok_le (pt_chain op_lt op_le pd_int (pd_var 4) pd_int)))))) (yu_one (yu_ret (yx_p (yp_fr pd_bl)))) yu_nil)
  (yu_cons (by first | exact yu_asgC (by decide) (by decide) (ps_setLc (i := 5) (own := [("_law_place", 9)]) rfl sc_law.nd rfl rfl (sw_true rfl rfl rfl (by decide +kernel)) (id_r1 rfl T.b_range (ad_cons (pd_var 2) ad_nil)) (blkOk_by (own := [("_law_place", 9)]) (N := n_law) (sc := defScope s_law) (by decide +kernel)) (fun _ _ _ _ _ => (pg_name (i := 9) sc_law.nd rfl (by first | exact Or.inl rfl | exact Or.inr rfl))) (fun _ _ _ _ _ => ts_nil) (fun _ _ _ _ _ => (pd_tup (ad_cons pd_int (ad_cons pd_int ad_nil))))) | exact (yu_asg (by decide) (ps_set (i := 5) sc_law.nd rfl (by first | exact Or.inl rfl | exact Or.inr rfl) (yx_p (yp_ls (pf_comp (own := [("_law_place", 9)]) rfl sc_law.nd (by decide) (id_r1 rfl T.b_range (ad_cons (pd_var 2) ad_nil)) (blkOk_by (own := [("_law_place", 9)]) (N := n_law) (sc := defScope s_law) (by decide +kernel)) (fun _ _ _ _ _ => (pg_name (i := 9) sc_law.nd rfl (by first | exact Or.inl rfl | exact Or.inr rfl))) (fun _ _ _ _ _ => ts_nil) (fun _ _ _ _ _ => (pd_tup (ad_cons pd_int (ad_cons pd_int ad_nil))))))))))
  (yu_cons (yu_asg (by decide) (ps_set (i := 6) sc_law.nd rfl (by first | exact Or.inl rfl | exact Or.inr rfl) (yx_p (yp_ls (pf_lst ad_nil)))))
  (yu_cons (yu_for PassesOwn.leaving rfl (by decide) (id_r1 rfl T.b_range (ad_cons (pd_var 4) ad_nil)) (pg_name (i := 7) sc_law.nd rfl (by first | exact Or.inl rfl | exact Or.inr rfl)) (yu_cons (yu_asg (by decide) (ps_set (i := 8) sc_law.nd rfl (by first | exact Or.inl rfl | exact Or.inr rfl) (yx_fz (yx_call C_foe_shares.ok (hr.mono (by decide)) rfl T.g_foe_shares T.k_foe_shares C_foe_shares.bd (takes_of rfl rfl rfl rfl) (ya_e (yp_fr (pd_var 2)) (ya_e (yp_fz (yp_lsI (pf_ct call_list_of okf_list rfl T.b_list (by decide +kernel) (ad_cons (pd_var 6) ad_nil)))) ya_nil))))))
  (yu_cons (yu_if (PW.pt (wd_or (td_not (pt_vald (pd_call C_law_parts.ok (hr.mono (by decide)) rfl T.g_law_parts T.k_law_parts C_law_parts.bd (ad_cons (pd_var 8) ad_nil)))) (wd_or (td_ne hr.units (pd_cb (CallR.or call_len_seq call_len_str) okc_len rfl T.b_len (by decide +kernel) (ad_cons (pd_var 8) ad_nil)) (pd_var 2)) (wd_or1 (td_ne hr.units (pd_call C_law_sum.ok (hr.mono (by decide)) rfl T.g_law_sum T.k_law_sum C_law_sum.bd (ad_cons (pd_var 8) ad_nil)) (pd_tup (ad_cons pd_int (ad_cons pd_int ad_nil)))))))) (yu_one (yu_ret (yx_p (yp_fr pd_bl)))) yu_nil)
  (yu_cons (yu_if (pt_vald (pd_cb (cr_any rfl) okc_any rfl T.b_any (by decide +kernel) (ad_cons (pd_fr (pf_comp (own := [("_law_share", 12)]) rfl sc_law.nd (by decide) (id_list (pd_var 8)) (blkOk_by (own := [("_law_share", 12)]) (N := n_law) (sc := defScope s_law) (by decide +kernel)) (fun _ _ _ _ _ => (pg_name (i := 12) sc_law.nd rfl (by first | exact Or.inl rfl | exact Or.inr rfl))) (fun _ _ _ _ _ => ts_nil) (fun _ _ _ _ _ => (pd_lt (pd_ix (pd_var 12) pd_int) pd_int)))) ad_nil))) (yu_one (yu_ret (yx_p (yp_fr pd_bl)))) yu_nil)
  (yu_cons (by first | exact yu_asgCI (by decide) (by decide) (ps_setLc (i := 5) (own := [("_law_lag", 11), ("_law_share", 12)]) rfl sc_law.nd rfl rfl (sw_true rfl rfl rfl (by decide +kernel)) (id_zip (by rfl) T.b_zip (ad_cons (pd_var 5) (ad_cons (pd_var 8) ad_nil))) (blkOk_by (own := [("_law_lag", 11), ("_law_share", 12)]) (N := n_law) (sc := defScope s_law) (by decide +kernel)) (fun _ _ _ _ _ => (pg_tup rfl (pgs_cons (pg_name (i := 11) sc_law.nd rfl (by first | exact Or.inl rfl | exact Or.inr rfl)) (pgs_cons (pg_name (i := 12) sc_law.nd rfl (by first | exact Or.inl rfl | exact Or.inr rfl)) pgs_nil)))) (fun _ _ _ _ _ => ts_nil) (fun _ _ _ _ _ => (pd_call C_law_add.ok (hr.mono (by decide)) rfl T.g_law_add T.k_law_add C_law_add.bd (ad_cons (pd_var 11) (ad_cons (pd_var 12) ad_nil))))) | exact (yu_asg (by decide) (ps_set (i := 5) sc_law.nd rfl (by first | exact Or.inl rfl | exact Or.inr rfl) (yx_p (yp_lsI (pf_comp (own := [("_law_lag", 11), ("_law_share", 12)]) rfl sc_law.nd (by decide) (id_zip (by rfl) T.b_zip (ad_cons (pd_var 5) (ad_cons (pd_var 8) ad_nil))) (blkOk_by (own := [("_law_lag", 11), ("_law_share", 12)]) (N := n_law) (sc := defScope s_law) (by decide +kernel)) (fun _ _ _ _ _ => (pg_tup rfl (pgs_cons (pg_name (i := 11) sc_law.nd rfl (by first | exact Or.inl rfl | exact Or.inr rfl)) (pgs_cons (pg_name (i := 12) sc_law.nd rfl (by first | exact Or.inl rfl | exact Or.inr rfl)) pgs_nil)))) (fun _ _ _ _ _ => ts_nil) (fun _ _ _ _ _ => (pd_call C_law_add.ok (hr.mono (by decide)) rfl T.g_law_add T.k_law_add C_law_add.bd (ad_cons (pd_var 11) (ad_cons (pd_var 12) ad_nil))))))))))
  (yu_cons (yu_asg (by decide) (ps_set (i := 9) sc_law.nd rfl (by first | exact Or.inl rfl | exact Or.inr rfl) (yx_p (yp_fr (pd_mod (pd_ix (pd_var 1) (pd_add pd_int (pd_var 7))) (pd_var 2))))))
  (yu_cons (by first | exact yu_asgCFzI (by decide) (by decide) (ps_setLc (i := 10) (own := [("_law_k", 13)]) rfl sc_law.nd rfl rfl (sw_true rfl rfl rfl (by decide +kernel)) (id_r1 rfl T.b_range (ad_cons (pd_var 2) ad_nil)) (blkOk_by (own := [("_law_k", 13)]) (N := n_law) (sc := defScope s_law) (by decide +kernel)) (fun _ _ _ _ _ => (pg_name (i := 13) sc_law.nd rfl (by first | exact Or.inl rfl | exact Or.inr rfl))) (fun _ _ _ _ _ => (ts_one (pt_ninL (hu65 hr) (pd_var 13) (pd_var 6)))) (fun _ _ _ _ _ => (pd_var 13))) | exact (yu_asg (by decide) (ps_set (i := 10) sc_law.nd rfl (by first | exact Or.inl rfl | exact Or.inr rfl) (yx_fz (yx_p (yp_lsI (pf_comp (own := [("_law_k", 13)]) rfl sc_law.nd (by decide) (id_r1 rfl T.b_range (ad_cons (pd_var 2) ad_nil)) (blkOk_by (own := [("_law_k", 13)]) (N := n_law) (sc := defScope s_law) (by decide +kernel)) (fun _ _ _ _ _ => (pg_name (i := 13) sc_law.nd rfl (by first | exact Or.inl rfl | exact Or.inr rfl))) (fun _ _ _ _ _ => (ts_one (pt_ninL (hu65 hr) (pd_var 13) (pd_var 6)))) (fun _ _ _ _ _ => (pd_var 13)))))))))
  (yu_cons (yu_if (td_eq hr.units (pd_mod (pd_ix (pd_var 1) pd_int) pd_int) pd_int) (yu_one (yu_asg (by decide) (ps_set (i := 9) sc_law.nd rfl (by first | exact Or.inl rfl | exact Or.inr rfl) (yx_p (yp_fr (pd_mod (pd_ix (pd_var 1) (pd_add pd_int (pd_var 7))) (pd_cb (call_min2 rfl) okc_min2 rfl T.b_min (by decide +kernel) (ad_cons (pd_var 2) (ad_cons pd_int ad_nil))))))))) yu_nil)
  (yu_cons (yu_if (PW.pt (wd_and (td_eq hr.units (pd_mod (pd_ix (pd_var 1) pd_int) pd_int) pd_int) (wd_and1 (td_tru (pd_var 10))))) (yu_one (yu_asg (by decide) (ps_set (i := 9) sc_law.nd rfl (by first | exact Or.inl rfl | exact Or.inr rfl) (yx_p (yp_fr (pd_ix (pd_var 10) (pd_mod (pd_ix (pd_var 1) (pd_add pd_int (pd_var 7))) (pd_cb (CallR.or call_len_seq call_len_str) okc_len rfl T.b_len (by decide +kernel) (ad_cons (pd_var 10) ad_nil))))))))) yu_nil)
  (yu_cons (yu_if (PW.pt (wd_and (td_eq hr.units (pd_mod (pd_ix (pd_var 1) pd_int) pd_int) pd_int) (wd_and1 (pt_gt (pd_mod (pd_ix (pd_var 1) (pd_add pd_int (pd_var 7))) pd_int) pd_int)))) (yu_one (yu_asg (by decide) (ps_set (i := 9) sc_law.nd rfl (by first | exact Or.inl rfl | exact Or.inr rfl) (yx_p (yp_im (pd_call C_law_first.ok (hr.mono (by decide)) rfl T.g_law_first T.k_law_first C_law_first.bd (ad_cons (pd_var 5) ad_nil))))))) yu_nil)
  (yu_cons (yu_set (ps_asg (yx_p (yp_im (pd_call C_law_sub.ok (hr.mono (by decide)) rfl T.g_law_sub T.k_law_sub C_law_sub.bd (ad_cons (pd_ix (pd_var 5) (pd_var 9)) (ad_cons (pd_tup (ad_cons pd_int (ad_cons pd_int ad_nil))) ad_nil))))) (pg_sub (yn_var (pv 5)) (pd_var 9) set_list)))
  (yu_cons (yu_ex (yx_bm lop_app (pe_bm PySem.F.plainAttrs_list PySem.F.slot_list_append PySem.F.type_list_append mt_append (yn_var (pv 6)) (yp_cons (yp_fr (pd_var 9)) yp_nil))))
  (yu_one (yu_if (pt_vald (pd_cb (cr_any rfl) okc_any rfl T.b_any (by decide +kernel) (ad_cons (pd_fr (pf_comp (own := [("_law_lag", 11)]) rfl sc_law.nd (by decide) (id_list (pd_var 5)) (blkOk_by (own := [("_law_lag", 11)]) (N := n_law) (sc := defScope s_law) (by decide +kernel)) (fun _ _ _ _ _ => (pg_name (i := 11) sc_law.nd rfl (by first | exact Or.inl rfl | exact Or.inr rfl))) (fun _ _ _ _ _ => ts_nil) (fun _ _ _ _ _ => (pd_not (pd_call C_law_less.ok (hr.mono (by decide)) rfl T.g_law_less T.k_law_less C_law_less.bd (ad_cons (pd_var 11) (ad_cons (pd_var 3) ad_nil))))))) ad_nil))) (yu_one (yu_ret (yx_p (yp_fr pd_bl)))) yu_nil))))))))))))))
  (yu_one (yu_ret (yx_p (yp_fr pd_bl)))))))))))))
end
theorem all_mk {l : PySem.W.OpenLaw} {w : World} {K : PySem.W.Frag} {h : Heap} {mg : Str → Option Value} {fa f0 f1 f2 f3 f4 f5 f6 f7 f8 f9 f10 f11 f12 f13 f14 f15 f16 f17 f18 f19 f20 : Addr} (X : K.In h) (G : h.Ns mainGlobals mg) (hfa : mg "law" = some (.ref fa))
    {qt0a qt0b : Tok} {qo0 : Option Addr} {qn0 : Nat} {qs0 : Array (Option Value)} {q0 : Addr}
    {od0 an0 od1 an1 od2 an2 od3 an3 od4 an4 od5 an5 od6 an6 od7 an7 od8 an8 od9 an9 od10 an10 od11 an11 od12 an12 od13 an13 od14 an14 od15 an15 od16 an16 od17 an17 od18 an18 od19 an19 od20 an20 : Option Addr} {sl0 sl1 sl2 sl3 sl4 sl5 sl6 sl7 sl8 sl9 sl10 sl11 sl12 sl13 sl14 sl15 sl16 sl17 sl18 sl19 sl20 : Array (Option Value)} {oc0 kV0 dc0 pm0 cd0 ct0 oc1 kV1 dc1 pm1 cd1 ct1 oc2 kV2 dc2 pm2 cd2 ct2 oc3 kV3 dc3 pm3 cd3 ct3 oc4 kV4 dc4 pm4 cd4 ct4 oc5 kV5 dc5 pm5 cd5 ct5 oc6 kV6 dc6 pm6 cd6 ct6 oc7 kV7 dc7 pm7 cd7 ct7 oc8 kV8 dc8 pm8 cd8 ct8 oc9 kV9 dc9 pm9 cd9 ct9 oc10 kV10 dc10 pm10 cd10 ct10 oc11 kV11 dc11 pm11 cd11 ct11 oc12 kV12 dc12 pm12 cd12 ct12 oc13 kV13 dc13 pm13 cd13 ct13 oc14 kV14 dc14 pm14 cd14 ct14 oc15 kV15 dc15 pm15 cd15 ct15 oc16 kV16 dc16 pm16 cd16 ct16 oc17 kV17 dc17 pm17 cd17 ct17 oc18 kV18 dc18 pm18 cd18 ct18 oc19 kV19 dc19 pm19 cd19 ct19 oc20 kV20 dc20 pm20 cd20 ct20 : Value}
    (a0 : PySem.W.nsIn K mainGlobals "measure" = some (some (.ref f0)))
    (l0 : K.lookup f0 = some ⟨oc0, od0, .func (PySem.W.fnOf "measure" "measure" (defArgs s_measure) (defBody s_measure) (defScope s_measure) .none kV0 dc0 pm0 an0 cd0 ct0), sl0⟩)
    (c0 : PySem.W.codeIn K cd0 "measure" = true)
    (k0 : PySem.W.keepIn K (.ref f0) = true)
    (a1 : PySem.W.nsIn K mainGlobals "lowest" = some (some (.ref f1)))
    (l1 : K.lookup f1 = some ⟨oc1, od1, .func (PySem.W.fnOf "lowest" "lowest" (defArgs s_lowest) (defBody s_lowest) (defScope s_lowest) .none kV1 dc1 pm1 an1 cd1 ct1), sl1⟩)
    (c1 : PySem.W.codeIn K cd1 "lowest" = true)
    (k1 : PySem.W.keepIn K (.ref f1) = true)
    (a2 : PySem.W.nsIn K mainGlobals "plus" = some (some (.ref f2)))
    (l2 : K.lookup f2 = some ⟨oc2, od2, .func (PySem.W.fnOf "plus" "plus" (defArgs s_plus) (defBody s_plus) (defScope s_plus) .none kV2 dc2 pm2 an2 cd2 ct2), sl2⟩)
    (c2 : PySem.W.codeIn K cd2 "plus" = true)
    (k2 : PySem.W.keepIn K (.ref f2) = true)
    (a3 : PySem.W.nsIn K mainGlobals "times" = some (some (.ref f3)))
    (l3 : K.lookup f3 = some ⟨oc3, od3, .func (PySem.W.fnOf "times" "times" (defArgs s_times) (defBody s_times) (defScope s_times) .none kV3 dc3 pm3 an3 cd3 ct3), sl3⟩)
    (c3 : PySem.W.codeIn K cd3 "times" = true)
    (k3 : PySem.W.keepIn K (.ref f3) = true)
    (a4 : PySem.W.nsIn K mainGlobals "ceil_of" = some (some (.ref f4)))
    (l4 : K.lookup f4 = some ⟨oc4, od4, .func (PySem.W.fnOf "ceil_of" "ceil_of" (defArgs s_ceil_of) (defBody s_ceil_of) (defScope s_ceil_of) .none kV4 dc4 pm4 an4 cd4 ct4), sl4⟩)
    (c4 : PySem.W.codeIn K cd4 "ceil_of" = true)
    (k4 : PySem.W.keepIn K (.ref f4) = true)
    (a5 : PySem.W.nsIn K mainGlobals "behind" = some (some (.ref f5)))
    (l5 : K.lookup f5 = some ⟨oc5, od5, .func (PySem.W.fnOf "behind" "behind" (defArgs s_behind) (defBody s_behind) (defScope s_behind) .none kV5 dc5 pm5 an5 cd5 ct5), sl5⟩)
    (c5 : PySem.W.codeIn K cd5 "behind" = true)
    (k5 : PySem.W.keepIn K (.ref f5) = true)
    (a6 : PySem.W.nsIn K mainGlobals "most" = some (some (.ref f6)))
    (l6 : K.lookup f6 = some ⟨oc6, od6, .func (PySem.W.fnOf "most" "most" (defArgs s_most) (defBody s_most) (defScope s_most) .none kV6 dc6 pm6 an6 cd6 ct6), sl6⟩)
    (c6 : PySem.W.codeIn K cd6 "most" = true)
    (k6 : PySem.W.keepIn K (.ref f6) = true)
    (a7 : PySem.W.nsIn K mainGlobals "foe_hours" = some (some (.ref f7)))
    (l7 : K.lookup f7 = some ⟨oc7, od7, .func (PySem.W.fnOf "foe_hours" "foe_hours" (defArgs s_foe_hours) (defBody s_foe_hours) (defScope s_foe_hours) .none kV7 dc7 pm7 an7 cd7 ct7), sl7⟩)
    (c7 : PySem.W.codeIn K cd7 "foe_hours" = true)
    (k7 : PySem.W.keepIn K (.ref f7) = true)
    (a8 : PySem.W.nsIn K mainGlobals "foe_shares" = some (some (.ref f8)))
    (l8 : K.lookup f8 = some ⟨oc8, od8, .func (PySem.W.fnOf "foe_shares" "foe_shares" (defArgs s_foe_shares) (defBody s_foe_shares) (defScope s_foe_shares) .none kV8 dc8 pm8 an8 cd8 ct8), sl8⟩)
    (c8 : PySem.W.codeIn K cd8 "foe_shares" = true)
    (k8 : PySem.W.keepIn K (.ref f8) = true)
    (a9 : PySem.W.nsIn K mainGlobals "_law_flow" = some (some (.ref f9)))
    (l9 : K.lookup f9 = some ⟨oc9, od9, .func (PySem.W.fnOf "_law_flow" "_law_flow" (defArgs s_law_flow) (defBody s_law_flow) (defScope s_law_flow) .none kV9 dc9 pm9 an9 cd9 ct9), sl9⟩)
    (c9 : PySem.W.codeIn K cd9 "_law_flow" = true)
    (k9 : PySem.W.keepIn K (.ref f9) = true)
    (a10 : PySem.W.nsIn K mainGlobals "_law_whole" = some (some (.ref f10)))
    (l10 : K.lookup f10 = some ⟨oc10, od10, .func (PySem.W.fnOf "_law_whole" "_law_whole" (defArgs s_law_whole) (defBody s_law_whole) (defScope s_law_whole) .none kV10 dc10 pm10 an10 cd10 ct10), sl10⟩)
    (c10 : PySem.W.codeIn K cd10 "_law_whole" = true)
    (k10 : PySem.W.keepIn K (.ref f10) = true)
    (a11 : PySem.W.nsIn K mainGlobals "_law_low" = some (some (.ref f11)))
    (l11 : K.lookup f11 = some ⟨oc11, od11, .func (PySem.W.fnOf "_law_low" "_law_low" (defArgs s_law_low) (defBody s_law_low) (defScope s_law_low) .none kV11 dc11 pm11 an11 cd11 ct11), sl11⟩)
    (c11 : PySem.W.codeIn K cd11 "_law_low" = true)
    (k11 : PySem.W.keepIn K (.ref f11) = true)
    (a12 : PySem.W.nsIn K mainGlobals "_law_add" = some (some (.ref f12)))
    (l12 : K.lookup f12 = some ⟨oc12, od12, .func (PySem.W.fnOf "_law_add" "_law_add" (defArgs s_law_add) (defBody s_law_add) (defScope s_law_add) .none kV12 dc12 pm12 an12 cd12 ct12), sl12⟩)
    (c12 : PySem.W.codeIn K cd12 "_law_add" = true)
    (k12 : PySem.W.keepIn K (.ref f12) = true)
    (a13 : PySem.W.nsIn K mainGlobals "_law_sub" = some (some (.ref f13)))
    (l13 : K.lookup f13 = some ⟨oc13, od13, .func (PySem.W.fnOf "_law_sub" "_law_sub" (defArgs s_law_sub) (defBody s_law_sub) (defScope s_law_sub) .none kV13 dc13 pm13 an13 cd13 ct13), sl13⟩)
    (c13 : PySem.W.codeIn K cd13 "_law_sub" = true)
    (k13 : PySem.W.keepIn K (.ref f13) = true)
    (a14 : PySem.W.nsIn K mainGlobals "_law_less" = some (some (.ref f14)))
    (l14 : K.lookup f14 = some ⟨oc14, od14, .func (PySem.W.fnOf "_law_less" "_law_less" (defArgs s_law_less) (defBody s_law_less) (defScope s_law_less) .none kV14 dc14 pm14 an14 cd14 ct14), sl14⟩)
    (c14 : PySem.W.codeIn K cd14 "_law_less" = true)
    (k14 : PySem.W.keepIn K (.ref f14) = true)
    (a15 : PySem.W.nsIn K mainGlobals "_law_sum" = some (some (.ref f15)))
    (l15 : K.lookup f15 = some ⟨oc15, od15, .func (PySem.W.fnOf "_law_sum" "_law_sum" (defArgs s_law_sum) (defBody s_law_sum) (defScope s_law_sum) .none kV15 dc15 pm15 an15 cd15 ct15), sl15⟩)
    (c15 : PySem.W.codeIn K cd15 "_law_sum" = true)
    (k15 : PySem.W.keepIn K (.ref f15) = true)
    (a16 : PySem.W.nsIn K mainGlobals "_law_part" = some (some (.ref f16)))
    (l16 : K.lookup f16 = some ⟨oc16, od16, .func (PySem.W.fnOf "_law_part" "_law_part" (defArgs s_law_part) (defBody s_law_part) (defScope s_law_part) .none kV16 dc16 pm16 an16 cd16 ct16), sl16⟩)
    (c16 : PySem.W.codeIn K cd16 "_law_part" = true)
    (k16 : PySem.W.keepIn K (.ref f16) = true)
    (a17 : PySem.W.nsIn K mainGlobals "_law_parts" = some (some (.ref f17)))
    (l17 : K.lookup f17 = some ⟨oc17, od17, .func (PySem.W.fnOf "_law_parts" "_law_parts" (defArgs s_law_parts) (defBody s_law_parts) (defScope s_law_parts) .none kV17 dc17 pm17 an17 cd17 ct17), sl17⟩)
    (c17 : PySem.W.codeIn K cd17 "_law_parts" = true)
    (k17 : PySem.W.keepIn K (.ref f17) = true)
    (a18 : PySem.W.nsIn K mainGlobals "_law_most" = some (some (.ref f18)))
    (l18 : K.lookup f18 = some ⟨oc18, od18, .func (PySem.W.fnOf "_law_most" "_law_most" (defArgs s_law_most) (defBody s_law_most) (defScope s_law_most) .none kV18 dc18 pm18 an18 cd18 ct18), sl18⟩)
    (c18 : PySem.W.codeIn K cd18 "_law_most" = true)
    (k18 : PySem.W.keepIn K (.ref f18) = true)
    (a19 : PySem.W.nsIn K mainGlobals "_law_first" = some (some (.ref f19)))
    (l19 : K.lookup f19 = some ⟨oc19, od19, .func (PySem.W.fnOf "_law_first" "_law_first" (defArgs s_law_first) (defBody s_law_first) (defScope s_law_first) .none kV19 dc19 pm19 an19 cd19 ct19), sl19⟩)
    (c19 : PySem.W.codeIn K cd19 "_law_first" = true)
    (k19 : PySem.W.keepIn K (.ref f19) = true)
    (a20 : PySem.W.nsIn K mainGlobals "law" = some (some (.ref f20)))
    (l20 : K.lookup f20 = some ⟨oc20, od20, .func (PySem.W.fnOf "law" "law" (defArgs s_law) (defBody s_law) (defScope s_law) .none kV20 dc20 pm20 an20 cd20 ct20), sl20⟩)
    (c20 : PySem.W.codeIn K cd20 "law" = true)
    (k20 : PySem.W.keepIn K (.ref f20) = true)
    (z_abs : PySem.W.nsIn K mainGlobals "abs" = some none)
    (z_all : PySem.W.nsIn K mainGlobals "all" = some none)
    (z_any : PySem.W.nsIn K mainGlobals "any" = some none)
    (z_bool : PySem.W.nsIn K mainGlobals "bool" = some none)
    (z_int : PySem.W.nsIn K mainGlobals "int" = some none)
    (z_isinstance : PySem.W.nsIn K mainGlobals "isinstance" = some none)
    (z_len : PySem.W.nsIn K mainGlobals "len" = some none)
    (z_list : PySem.W.nsIn K mainGlobals "list" = some none)
    (z_min : PySem.W.nsIn K mainGlobals "min" = some none)
    (z_range : PySem.W.nsIn K mainGlobals "range" = some none)
    (z_tuple : PySem.W.nsIn K mainGlobals "tuple" = some none)
    (z_zip : PySem.W.nsIn K mainGlobals "zip" = some none)
    (v_NOTHING : PySem.W.nsIn K mainGlobals "NOTHING" = some (some (.ref q0)))
    (w_NOTHING : K.lookup q0 = some ⟨.type "tuple", qo0, .seq #[.int 0 qt0a, .int 1 qt0b] qn0, qs0⟩)
    : ∃ fd : FuncData, (∀ (s : Shared) (v : Value), BindsTo s fd ⟨[v], []⟩ [("_law_script", v)]) ∧ ∀ base : Heap, K.In base → base.Ns mainGlobals mg → FnOk l.prog w K mg base (L2.CX l.prog w) 7 fa fd ["_law_script"] (spT K lawF) := by
  have e := hfa.symm.trans (PySem.W.mg_of X G a20)
  cases e
  have T : Txt K mg (fun i => [f0, f1, f2, f3, f4, f5, f6, f7, f8, f9, f10, f11, f12, f13, f14, f15, f16, f17, f18, f19, fa, q0].getD i 0) := ⟨PySem.W.mg_of X G a0, k0, PySem.W.mg_of X G a1, k1, PySem.W.mg_of X G a2, k2, PySem.W.mg_of X G a3, k3, PySem.W.mg_of X G a4, k4, PySem.W.mg_of X G a5, k5, PySem.W.mg_of X G a6, k6, PySem.W.mg_of X G a7, k7, PySem.W.mg_of X G a8, k8, PySem.W.mg_of X G a9, k9, PySem.W.mg_of X G a10, k10, PySem.W.mg_of X G a11, k11, PySem.W.mg_of X G a12, k12, PySem.W.mg_of X G a13, k13, PySem.W.mg_of X G a14, k14, PySem.W.mg_of X G a15, k15, PySem.W.mg_of X G a16, k16, PySem.W.mg_of X G a17, k17, PySem.W.mg_of X G a18, k18, PySem.W.mg_of X G a19, k19, PySem.W.mg_of X G a20, k20, PySem.W.mg_none_of X G z_abs, PySem.W.mg_none_of X G z_all, PySem.W.mg_none_of X G z_any, PySem.W.mg_none_of X G z_bool, PySem.W.mg_none_of X G z_int, PySem.W.mg_none_of X G z_isinstance, PySem.W.mg_none_of X G z_len, PySem.W.mg_none_of X G z_list, PySem.W.mg_none_of X G z_min, PySem.W.mg_none_of X G z_range, PySem.W.mg_none_of X G z_tuple, PySem.W.mg_none_of X G z_zip, ⟨_, PySem.W.mg_of X G v_NOTHING, rfl⟩, tup2_dn w_NOTHING⟩
  have G0 := fun_mk (st := s_measure) l0 c0 k0
  have B0 := G0.binds (ps := ["one", "other"]) fun _ _ _ _ _ _ us hl => match us, hl with | [_, _], _ => rfl
  have G1 := fun_mk (st := s_lowest) l1 c1 k1
  have B1 := G1.binds (ps := ["top", "bottom"]) fun _ _ _ _ _ _ us hl => match us, hl with | [_, _], _ => rfl
  have G2 := fun_mk (st := s_plus) l2 c2 k2
  have B2 := G2.binds (ps := ["a", "b"]) fun _ _ _ _ _ _ us hl => match us, hl with | [_, _], _ => rfl
  have G3 := fun_mk (st := s_times) l3 c3 k3
  have B3 := G3.binds (ps := ["a", "b"]) fun _ _ _ _ _ _ us hl => match us, hl with | [_, _], _ => rfl
  have G4 := fun_mk (st := s_ceil_of) l4 c4 k4
  have B4 := G4.binds (ps := ["a"]) fun _ _ _ _ _ _ us hl => match us, hl with | [_], _ => rfl
  have G5 := fun_mk (st := s_behind) l5 c5 k5
  have B5 := G5.binds (ps := ["many"]) fun _ _ _ _ _ _ us hl => match us, hl with | [_], _ => rfl
  have G6 := fun_mk (st := s_most) l6 c6 k6
  have B6 := G6.binds (ps := ["many", "k"]) fun _ _ _ _ _ _ us hl => match us, hl with | [_, _], _ => rfl
  have G7 := fun_mk (st := s_foe_hours) l7 c7 k7
  have B7 := G7.binds (ps := ["many"]) fun _ _ _ _ _ _ us hl => match us, hl with | [_], _ => rfl
  have G8 := fun_mk (st := s_foe_shares) l8 c8 k8
  have B8 := G8.binds (ps := ["many", "turns"]) fun _ _ _ _ _ _ us hl => match us, hl with | [_, _], _ => rfl
  have G9 := fun_mk (st := s_law_flow) l9 c9 k9
  have B9 := G9.binds (ps := ["_law_script", "_law_many"]) fun _ _ _ _ _ _ us hl => match us, hl with | [_, _], _ => rfl
  have G10 := fun_mk (st := s_law_whole) l10 c10 k10
  have B10 := G10.binds (ps := ["_law_found"]) fun _ _ _ _ _ _ us hl => match us, hl with | [_], _ => rfl
  have G11 := fun_mk (st := s_law_low) l11 c11 k11
  have B11 := G11.binds (ps := ["_law_top", "_law_bottom"]) fun _ _ _ _ _ _ us hl => match us, hl with | [_, _], _ => rfl
  have G12 := fun_mk (st := s_law_add) l12 c12 k12
  have B12 := G12.binds (ps := ["_law_a", "_law_b"]) fun _ _ _ _ _ _ us hl => match us, hl with | [_, _], _ => rfl
  have G13 := fun_mk (st := s_law_sub) l13 c13 k13
  have B13 := G13.binds (ps := ["_law_a", "_law_b"]) fun _ _ _ _ _ _ us hl => match us, hl with | [_, _], _ => rfl
  have G14 := fun_mk (st := s_law_less) l14 c14 k14
  have B14 := G14.binds (ps := ["_law_a", "_law_b"]) fun _ _ _ _ _ _ us hl => match us, hl with | [_, _], _ => rfl
  have G15 := fun_mk (st := s_law_sum) l15 c15 k15
  have B15 := G15.binds (ps := ["_law_row"]) fun _ _ _ _ _ _ us hl => match us, hl with | [_], _ => rfl
  have G16 := fun_mk (st := s_law_part) l16 c16 k16
  have B16 := G16.binds (ps := ["_law_found"]) fun _ _ _ _ _ _ us hl => match us, hl with | [_], _ => rfl
  have G17 := fun_mk (st := s_law_parts) l17 c17 k17
  have B17 := G17.binds (ps := ["_law_found"]) fun _ _ _ _ _ _ us hl => match us, hl with | [_], _ => rfl
  have G18 := fun_mk (st := s_law_most) l18 c18 k18
  have B18 := G18.binds (ps := ["_law_n", "_law_k"]) fun _ _ _ _ _ _ us hl => match us, hl with | [_, _], _ => rfl
  have G19 := fun_mk (st := s_law_first) l19 c19 k19
  have B19 := G19.binds (ps := ["_law_row"]) fun _ _ _ _ _ _ us hl => match us, hl with | [_], _ => rfl
  have G20 := fun_mk (st := s_law) l20 c20 k20
  refine ⟨PySem.W.fnOf "law" "law" (defArgs s_law) (defBody s_law) (defScope s_law) .none kV20 dc20 pm20 an20 cd20 ct20, fun s v => .of_eq rfl, fun base _ _ => ?_⟩
  have D0 : Df l.prog w K mg base 1 _ ["one", "other"] (spD K measureF) _ := ⟨ok_measure (a := fun i => [f0, f1, f2, f3, f4, f5, f6, f7, f8, f9, f10, f11, f12, f13, f14, f15, f16, f17, f18, f19, fa, q0].getD i 0) G0 T, B0⟩
  have D4 : Df l.prog w K mg base 1 _ ["a"] (spD K ceil_ofF) _ := ⟨ok_ceil_of (a := fun i => [f0, f1, f2, f3, f4, f5, f6, f7, f8, f9, f10, f11, f12, f13, f14, f15, f16, f17, f18, f19, fa, q0].getD i 0) G4 T, B4⟩
  have D8 : DfT l.prog w K mg base 1 _ ["many", "turns"] (spT K foe_sharesF) _ := ⟨ok_foe_shares (a := fun i => [f0, f1, f2, f3, f4, f5, f6, f7, f8, f9, f10, f11, f12, f13, f14, f15, f16, f17, f18, f19, fa, q0].getD i 0) G8 T, B8⟩
  have D9 : Df l.prog w K mg base 1 _ ["_law_script", "_law_many"] (spF K law_flowF) _ := ⟨ok_law_flow (a := fun i => [f0, f1, f2, f3, f4, f5, f6, f7, f8, f9, f10, f11, f12, f13, f14, f15, f16, f17, f18, f19, fa, q0].getD i 0) G9 T, B9⟩
  have D10 : Df l.prog w K mg base 1 _ ["_law_found"] (spD K law_wholeF) _ := ⟨ok_law_whole (a := fun i => [f0, f1, f2, f3, f4, f5, f6, f7, f8, f9, f10, f11, f12, f13, f14, f15, f16, f17, f18, f19, fa, q0].getD i 0) G10 T, B10⟩
  have D11 : Df l.prog w K mg base 1 _ ["_law_top", "_law_bottom"] (spD K law_lowF) _ := ⟨ok_law_low (a := fun i => [f0, f1, f2, f3, f4, f5, f6, f7, f8, f9, f10, f11, f12, f13, f14, f15, f16, f17, f18, f19, fa, q0].getD i 0) G11 T, B11⟩
  have D14 : Df l.prog w K mg base 1 _ ["_law_a", "_law_b"] (spD K law_lessF) _ := ⟨ok_law_less (a := fun i => [f0, f1, f2, f3, f4, f5, f6, f7, f8, f9, f10, f11, f12, f13, f14, f15, f16, f17, f18, f19, fa, q0].getD i 0) G14 T, B14⟩
  have D1 : Df l.prog w K mg base 2 _ ["top", "bottom"] (spD K lowestF) _ := ⟨ok_lowest (a := fun i => [f0, f1, f2, f3, f4, f5, f6, f7, f8, f9, f10, f11, f12, f13, f14, f15, f16, f17, f18, f19, fa, q0].getD i 0) G1 T (C_measure := D0), B1⟩
  have D12 : Df l.prog w K mg base 2 _ ["_law_a", "_law_b"] (spD K law_addF) _ := ⟨ok_law_add (a := fun i => [f0, f1, f2, f3, f4, f5, f6, f7, f8, f9, f10, f11, f12, f13, f14, f15, f16, f17, f18, f19, fa, q0].getD i 0) G12 T (C_law_low := D11), B12⟩
  have D13 : Df l.prog w K mg base 2 _ ["_law_a", "_law_b"] (spD K law_subF) _ := ⟨ok_law_sub (a := fun i => [f0, f1, f2, f3, f4, f5, f6, f7, f8, f9, f10, f11, f12, f13, f14, f15, f16, f17, f18, f19, fa, q0].getD i 0) G13 T (C_law_low := D11), B13⟩
  have D16 : Df l.prog w K mg base 2 _ ["_law_found"] (spD K law_partF) _ := ⟨ok_law_part (a := fun i => [f0, f1, f2, f3, f4, f5, f6, f7, f8, f9, f10, f11, f12, f13, f14, f15, f16, f17, f18, f19, fa, q0].getD i 0) G16 T (C_law_whole := D10), B16⟩
  have D19 : Df l.prog w K mg base 2 _ ["_law_row"] (spD K law_firstF) _ := ⟨ok_law_first (a := fun i => [f0, f1, f2, f3, f4, f5, f6, f7, f8, f9, f10, f11, f12, f13, f14, f15, f16, f17, f18, f19, fa, q0].getD i 0) G19 T (C_law_less := D14), B19⟩
  have D2 : Df l.prog w K mg base 3 _ ["a", "b"] (spD K plusF) _ := ⟨ok_plus (a := fun i => [f0, f1, f2, f3, f4, f5, f6, f7, f8, f9, f10, f11, f12, f13, f14, f15, f16, f17, f18, f19, fa, q0].getD i 0) G2 T (C_lowest := D1), B2⟩
  have D3 : Df l.prog w K mg base 3 _ ["a", "b"] (spD K timesF) _ := ⟨ok_times (a := fun i => [f0, f1, f2, f3, f4, f5, f6, f7, f8, f9, f10, f11, f12, f13, f14, f15, f16, f17, f18, f19, fa, q0].getD i 0) G3 T (C_lowest := D1), B3⟩
  have D15 : Df l.prog w K mg base 3 _ ["_law_row"] (spD K law_sumF) _ := ⟨ok_law_sum (a := fun i => [f0, f1, f2, f3, f4, f5, f6, f7, f8, f9, f10, f11, f12, f13, f14, f15, f16, f17, f18, f19, fa, q0].getD i 0) G15 T (C_law_add := D12), B15⟩
  have D17 : Df l.prog w K mg base 3 _ ["_law_found"] (spD K law_partsF) _ := ⟨ok_law_parts (a := fun i => [f0, f1, f2, f3, f4, f5, f6, f7, f8, f9, f10, f11, f12, f13, f14, f15, f16, f17, f18, f19, fa, q0].getD i 0) G17 T (C_law_part := D16), B17⟩
  have D18 : Df l.prog w K mg base 3 _ ["_law_n", "_law_k"] (spD K law_mostF) _ := ⟨ok_law_most (a := fun i => [f0, f1, f2, f3, f4, f5, f6, f7, f8, f9, f10, f11, f12, f13, f14, f15, f16, f17, f18, f19, fa, q0].getD i 0) G18 T (C_law_add := D12), B18⟩
  have D6 : Df l.prog w K mg base 4 _ ["many", "k"] (spD K mostF) _ := ⟨ok_most (a := fun i => [f0, f1, f2, f3, f4, f5, f6, f7, f8, f9, f10, f11, f12, f13, f14, f15, f16, f17, f18, f19, fa, q0].getD i 0) G6 T (C_plus := D2) (C_lowest := D1), B6⟩
  have D5 : Df l.prog w K mg base 5 _ ["many"] (spD K behindF) _ := ⟨ok_behind (a := fun i => [f0, f1, f2, f3, f4, f5, f6, f7, f8, f9, f10, f11, f12, f13, f14, f15, f16, f17, f18, f19, fa, q0].getD i 0) G5 T (C_most := D6), B5⟩
  have D7 : Df l.prog w K mg base 6 _ ["many"] (spD K foe_hoursF) _ := ⟨ok_foe_hours (a := fun i => [f0, f1, f2, f3, f4, f5, f6, f7, f8, f9, f10, f11, f12, f13, f14, f15, f16, f17, f18, f19, fa, q0].getD i 0) G7 T (C_behind := D5) (C_times := D3) (C_ceil_of := D4), B7⟩
  exact ok_law (a := fun i => [f0, f1, f2, f3, f4, f5, f6, f7, f8, f9, f10, f11, f12, f13, f14, f15, f16, f17, f18, f19, fa, q0].getD i 0) G20 T (C_law_flow := D9) (C_law_most := D18) (C_foe_hours := D7) (C_law_whole := D10) (C_foe_shares := D8) (C_law_sum := D15) (C_law_parts := D17) (C_law_add := D12) (C_law_first := D19) (C_law_sub := D13) (C_law_less := D14)
theorem ints_dns {K : PySem.W.Frag} {H : Hp} : ∀ ns : List Int, Dns K H (ns.map V.int) (ns.map D.int)
  | [] => .nil
  | n :: r => .cons (.int n) (ints_dns r)
theorem walk {l : PySem.W.OpenLaw} {q : Program} {loose : List Str} {XP : (Str → Option Value) → Heap → Prop} {YP : World → Heap → Prop} {d : DefRec} {K : Params → PySem.W.Frag} (hn : l.most = some 63) (hdf : d.params.defaults = [])
    (hY : ∀ (w : World) (h : Heap), YP w h → (K w.params).In h)
    (F : ∀ (w : World) (mg : Str → Option Value) (fa : Addr) (h : Heap), (K w.params).In h → h.Ns mainGlobals mg → mg d.name = some (.ref fa) →
      ∃ fd : FuncData, (∀ (s : Shared) (u : Value), BindsTo s fd ⟨[u], []⟩ [("_law_script", u)]) ∧ ∀ base : Heap, (K w.params).In base → base.Ns mainGlobals mg → FnOk l.prog w (K w.params) mg base (L2.CX l.prog w) 7 fa fd ["_law_script"] (spT (K w.params) lawF)) :
    PySem.W.WalkO q loose XP YP l.row.toRowW d [] (fun f vs => PySem.call f vs) :=
  L2.walk_of (n := 63) (k := 7) (x := "_law_script") (CX := fun w => L2.CX l.prog w) (sp := fun w => spT (K w.params) lawF) hn (by decide) hdf ⟨rfl, by decide, by decide⟩ hY F
    (fun w H a ns hl _ hS => ⟨H, [], [.fr (.lst (ns.map D.int))], _, ⟨.refl _, fun _ h => (nomatch h), fun _ h => (nomatch h), List.nodup_nil⟩, Tns.one (.fr (.lst hS (ints_dns ns))), (law_true ns hl).choose_spec, fun v H' Hv' fp' ft _ _ q => by cases q with | fr q => cases q; rfl⟩) fun w _ _ _ _ c => by
      obtain ⟨_, _, _, _, _, _, _, _, _, _, _, _, e⟩ := c
      exact e.elim
end L_k17
open PySem PySem.W PyProof.Rows
set_option maxRecDepth 100000 in
set_option maxHeartbeats 0 in
theorem PySem.Challenge.cw_ditchturn_k17_whole_foe_wins_holds : PySem.Challenge.rw_ditchturn_k17_whole_foe_wins.Holds := by
  w_on; o_law; k_head; (case hw => w_witness2)
  k_fill
  refine L_k17.walk (l := PySem.Challenge.rw_ditchturn_k17_whole_foe_wins) rfl rfl (fun w h Y => PySem.W.kIn_of Y) ?F
  case F =>
    intro w mg fa h KX G hmg
    refine' L_k17.all_mk KX G hmg ?a0 ?l0 ?c0 ?k0 ?a1 ?l1 ?c1 ?k1 ?a2 ?l2 ?c2 ?k2 ?a3 ?l3 ?c3 ?k3 ?a4 ?l4 ?c4 ?k4 ?a5 ?l5 ?c5 ?k5 ?a6 ?l6 ?c6 ?k6 ?a7 ?l7 ?c7 ?k7 ?a8 ?l8 ?c8 ?k8 ?a9 ?l9 ?c9 ?k9 ?a10 ?l10 ?c10 ?k10 ?a11 ?l11 ?c11 ?k11 ?a12 ?l12 ?c12 ?k12 ?a13 ?l13 ?c13 ?k13 ?a14 ?l14 ?c14 ?k14 ?a15 ?l15 ?c15 ?k15 ?a16 ?l16 ?c16 ?k16 ?a17 ?l17 ?c17 ?k17 ?a18 ?l18 ?c18 ?k18 ?a19 ?l19 ?c19 ?k19 ?a20 ?l20 ?c20 ?k20 ?z_abs ?z_all ?z_any ?z_bool ?z_int ?z_isinstance ?z_len ?z_list ?z_min ?z_range ?z_tuple ?z_zip ?v_NOTHING ?w_NOTHING
    (case a0 => k_is)
    (case l0 => k_is)
    (case c0 => k_is)
    (case k0 => k_is)
    (case a1 => k_is)
    (case l1 => k_is)
    (case c1 => k_is)
    (case k1 => k_is)
    (case a2 => k_is)
    (case l2 => k_is)
    (case c2 => k_is)
    (case k2 => k_is)
    (case a3 => k_is)
    (case l3 => k_is)
    (case c3 => k_is)
    (case k3 => k_is)
    (case a4 => k_is)
    (case l4 => k_is)
    (case c4 => k_is)
    (case k4 => k_is)
    (case a5 => k_is)
    (case l5 => k_is)
    (case c5 => k_is)
    (case k5 => k_is)
    (case a6 => k_is)
    (case l6 => k_is)
    (case c6 => k_is)
    (case k6 => k_is)
    (case a7 => k_is)
    (case l7 => k_is)
    (case c7 => k_is)
    (case k7 => k_is)
    (case a8 => k_is)
    (case l8 => k_is)
    (case c8 => k_is)
    (case k8 => k_is)
    (case a9 => k_is)
    (case l9 => k_is)
    (case c9 => k_is)
    (case k9 => k_is)
    (case a10 => k_is)
    (case l10 => k_is)
    (case c10 => k_is)
    (case k10 => k_is)
    (case a11 => k_is)
    (case l11 => k_is)
    (case c11 => k_is)
    (case k11 => k_is)
    (case a12 => k_is)
    (case l12 => k_is)
    (case c12 => k_is)
    (case k12 => k_is)
    (case a13 => k_is)
    (case l13 => k_is)
    (case c13 => k_is)
    (case k13 => k_is)
    (case a14 => k_is)
    (case l14 => k_is)
    (case c14 => k_is)
    (case k14 => k_is)
    (case a15 => k_is)
    (case l15 => k_is)
    (case c15 => k_is)
    (case k15 => k_is)
    (case a16 => k_is)
    (case l16 => k_is)
    (case c16 => k_is)
    (case k16 => k_is)
    (case a17 => k_is)
    (case l17 => k_is)
    (case c17 => k_is)
    (case k17 => k_is)
    (case a18 => k_is)
    (case l18 => k_is)
    (case c18 => k_is)
    (case k18 => k_is)
    (case a19 => k_is)
    (case l19 => k_is)
    (case c19 => k_is)
    (case k19 => k_is)
    (case a20 => k_is)
    (case l20 => k_is)
    (case c20 => k_is)
    (case k20 => k_is)
    (case z_abs => k_is)
    (case z_all => k_is)
    (case z_any => k_is)
    (case z_bool => k_is)
    (case z_int => k_is)
    (case z_isinstance => k_is)
    (case z_len => k_is)
    (case z_list => k_is)
    (case z_min => k_is)
    (case z_range => k_is)
    (case z_tuple => k_is)
    (case z_zip => k_is)
    (case v_NOTHING => k_is)
    (case w_NOTHING => k_is)
#print axioms PySem.Challenge.cw_ditchturn_k17_whole_foe_wins_holds
