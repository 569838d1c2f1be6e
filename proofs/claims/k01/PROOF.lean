import PyProof.Rows.All
import Wide.All
import OpenK.AllK
import Wide.FinOn
import HandS.ForMost
import HandS.ForExc
import HandS.TryMany
import HandS.CallSlots
import HandS.IsInst
import HandS.ExcIs
import HandS.ExcField
import HandS.TupAny
import HandS.Conv
import HandS.Wide
import HandS.TupMul
import HandS.Flow
import HandS.Style
import HandS.Zip
import KE.GoesMore
import PyProof.Draws
import PySem.Challenge.RW_stretchchains_k01_books
set_option Elab.async false
set_option linter.all false
set_option maxRecDepth 100000
set_option maxHeartbeats 4000000
set_option autoImplicit false

namespace DL
open PySem PySem.Spec L2 PyProof.Rows

/-! ## data in the heap: Rp O H v d, where O holds the addresses that someone may still write -/
abbrev Ow := Addr → Prop
abbrev Sg := L2.St
def keyD : Key → PyData
  | .inl i => .int i
  | .inr x => .str x
/-- the script as data -/
def scrD (ns : List Int) : PyData := .dict [(.none, .list (ns.map .int))]

mutual
inductive Rp (O : Ow) (H : Hp) : V → PyData → Prop
  | non : Rp O H .non .none
  | bl (b : Bool) : Rp O H (.bl b) (.bool b)
  | int (i : Int) : Rp O H (.int i) (.int i)
  | str (x : Str) : Rp O H (.str x) (.str x)
  | lst {a : Addr} {xs : List V} {ds : List PyData} : H a = some (.lst xs) → ¬ O a → RpL O H xs ds → Rp O H (.ref a) (.list ds)
  | tup {a : Addr} {xs : List V} {ds : List PyData} : H a = some (.tup xs) → ¬ O a → RpL O H xs ds → Rp O H (.ref a) (.tuple ds)
  | dct {a : Addr} {kvs : List (Key × V)} {es : List (PyData × PyData)} : H a = some (.dK kvs) → ¬ O a → RpD O H kvs es → Rp O H (.ref a) (.dict es)
  | scr {a : Addr} {o : Obj} {ns : List Int} : H a = some (.frz o (.lst (ns.map V.int))) → ¬ O a → Rp O H (.ref a) (scrD ns)
inductive RpL (O : Ow) (H : Hp) : List V → List PyData → Prop
  | nil : RpL O H [] []
  | cons {v : V} {vs : List V} {d : PyData} {ds : List PyData} : Rp O H v d → RpL O H vs ds → RpL O H (v :: vs) (d :: ds)
inductive RpD (O : Ow) (H : Hp) : List (Key × V) → List (PyData × PyData) → Prop
  | nil : RpD O H [] []
  | cons {k : Key} {v : V} {kvs : List (Key × V)} {d : PyData} {es : List (PyData × PyData)} : Rp O H v d → RpD O H kvs es → RpD O H ((k, v) :: kvs) ((keyD k, d) :: es)
end

/-- what stays: every tracked thing that nobody may write is as it was, and nobody may write it -/
def Kp (O : Ow) (H : Hp) (O' : Ow) (H' : Hp) : Prop := ∀ a o, H a = some o → ¬ O a → H' a = some o ∧ ¬ O' a
theorem Rp.kp {O O' : Ow} {H H' : Hp} (k : Kp O H O' H') {v : V} {d : PyData} (h : Rp O H v d) : Rp O' H' v d :=
  Rp.rec (motive_1 := fun v d _ => Rp O' H' v d) (motive_2 := fun vs ds _ => RpL O' H' vs ds) (motive_3 := fun kvs es _ => RpD O' H' kvs es)
    .non .bl .int .str (fun e n _ ih => .lst (k _ _ e n).1 (k _ _ e n).2 ih) (fun e n _ ih => .tup (k _ _ e n).1 (k _ _ e n).2 ih)
    (fun e n _ ih => .dct (k _ _ e n).1 (k _ _ e n).2 ih) (fun e n => .scr (k _ _ e n).1 (k _ _ e n).2) .nil (fun _ _ a b => .cons a b) .nil (fun _ _ a b => .cons a b) h
theorem RpL.kp {O O' : Ow} {H H' : Hp} (k : Kp O H O' H') : ∀ {vs : List V} {ds : List PyData}, RpL O H vs ds → RpL O' H' vs ds
  | _, _, .nil => .nil
  | _, _, .cons a b => .cons (a.kp k) (RpL.kp k b)
theorem RpD.kp {O O' : Ow} {H H' : Hp} (k : Kp O H O' H') : ∀ {vs : List (Key × V)} {ds : List (PyData × PyData)}, RpD O H vs ds → RpD O' H' vs ds
  | _, _, .nil => .nil
  | _, _, .cons a b => .cons (a.kp k) (RpD.kp k b)
theorem Kp.same {O : Ow} {H H' : Hp} (s : Same H H') : Kp O H O H' := fun a o e n => ⟨s a o e, n⟩
theorem RpL.len {O : Ow} {H : Hp} : ∀ {vs : List V} {ds : List PyData}, RpL O H vs ds → vs.length = ds.length
  | _, _, .nil => rfl
  | _, _, .cons _ b => congrArg (· + 1) (RpL.len b)
theorem RpL.app {O : Ow} {H : Hp} : ∀ {vs ws : List V} {ds es : List PyData}, RpL O H vs ds → RpL O H ws es → RpL O H (vs ++ ws) (ds ++ es)
  | _, _, _, _, .nil, h => h
  | _, _, _, _, .cons a b, h => .cons a (RpL.app b h)
theorem RpL.get {O : Ow} {H : Hp} : ∀ {vs : List V} {ds : List PyData} {i : Nat} {d : PyData}, RpL O H vs ds → ds[i]? = some d → ∃ v, vs[i]? = some v ∧ Rp O H v d
  | _, _, _, _, .nil, e => by simp at e
  | _, _, 0, _, .cons a _, e => by simp at e; subst e; exact ⟨_, rfl, a⟩
  | _, _, i + 1, d, .cons _ b, e => by
    obtain ⟨v, h1, h2⟩ := RpL.get (i := i) (d := d) b (by simpa using e)
    exact ⟨v, by simpa using h1, h2⟩
theorem RpL.getV {O : Ow} {H : Hp} : ∀ {vs : List V} {ds : List PyData} {i : Nat} {v : V}, RpL O H vs ds → vs[i]? = some v → ∃ d, ds[i]? = some d ∧ Rp O H v d
  | _, _, _, _, .nil, e => by simp at e
  | _, _, 0, _, .cons a _, e => by simp at e; subst e; exact ⟨_, rfl, a⟩
  | _, _, i + 1, v, .cons _ b, e => by
    obtain ⟨d, h1, h2⟩ := RpL.getV (i := i) (v := v) b (by simpa using e)
    exact ⟨d, by simpa using h1, h2⟩
theorem RpL.take {O : Ow} {H : Hp} : ∀ {vs : List V} {ds : List PyData} (n : Nat), RpL O H vs ds → RpL O H (vs.take n) (ds.take n)
  | _, _, 0, _ => .nil
  | _, _, _ + 1, .nil => .nil
  | _, _, n + 1, .cons a b => .cons a (RpL.take n b)
theorem RpL.drop {O : Ow} {H : Hp} : ∀ {vs : List V} {ds : List PyData} (n : Nat), RpL O H vs ds → RpL O H (vs.drop n) (ds.drop n)
  | _, _, 0, h => h
  | _, _, _ + 1, .nil => .nil
  | _, _, n + 1, .cons _ b => RpL.drop n b
theorem RpL.set {O : Ow} {H : Hp} {x : V} {y : PyData} (h : Rp O H x y) : ∀ {vs : List V} {ds : List PyData} (n : Nat), RpL O H vs ds → RpL O H (vs.set n x) (ds.set n y)
  | _, _, _, .nil => .nil
  | _, _, 0, .cons _ b => .cons h b
  | _, _, n + 1, .cons a b => .cons a (RpL.set h n b)
theorem RpL.rev {O : Ow} {H : Hp} : ∀ {vs : List V} {ds : List PyData}, RpL O H vs ds → RpL O H vs.reverse ds.reverse
  | _, _, .nil => .nil
  | _, _, .cons a b => by
    rw [List.reverse_cons, List.reverse_cons]
    exact (RpL.rev b).app (.cons a .nil)
theorem RpL.ints {O : Ow} {H : Hp} : ∀ {vs : List V} {ns : List Int}, RpL O H vs (ns.map .int) → vs = ns.map .int
  | _, [], h => by cases h; rfl
  | _, n :: ns, h => by
    cases h with
    | cons a b =>
      cases a
      exact congrArg (_ :: ·) (RpL.ints b)
theorem RpL.ofInts {O : Ow} {H : Hp} : ∀ (ns : List Int), RpL O H (ns.map .int) (ns.map .int)
  | [] => .nil
  | _ :: ns => .cons (.int _) (RpL.ofInts ns)

/-! ## slots -/
inductive Sl where
  | no
  | va (d : PyData)
  | ow (d : PyData)
  | ex (c : Value) (p : Option PyData)
abbrev En := List Sl
/-- a thing that is written here alone -/
def OwR (O : Ow) (H : Hp) (p : Addr) : PyData → Prop
  | .list ds => ∃ xs, H p = some (.lst xs) ∧ RpL O H xs ds
  | .dict es => ∃ kvs, H p = some (.dK kvs) ∧ RpD O H kvs es
  | _ => False
def SlR (O : Ow) (H : Hp) (v : Option (Option V)) : Sl → Prop
  | .no => True
  | .va d => ∃ x, v = some (some x) ∧ Rp O H x d
  | .ow d => ∃ p, v = some (some (.ref p)) ∧ O p ∧ OwR O H p d
  | .ex _ _ => True
/-- the slots as an expression sees them -/
structure RE (O : Ow) (ρ : En) (σ : Sg) (H : Hp) : Prop where
  len : σ.length = ρ.length
  dom : ∀ a, O a → H a ≠ none
  at_ : ∀ (i : Nat) (s : Sl), ρ[i]? = some s → DL.SlR O H σ[i]? s
theorem OwR.same {O : Ow} {H H' : Hp} (s : Same H H') {p : Addr} : ∀ {d : PyData}, OwR O H p d → OwR O H' p d
  | .list _, ⟨xs, e, h⟩ => ⟨xs, s _ _ e, h.kp (.same s)⟩
  | .dict _, ⟨xs, e, h⟩ => ⟨xs, s _ _ e, h.kp (.same s)⟩
  | .none, h => h.elim
  | .bool _, h => h.elim
  | .int _, h => h.elim
  | .str _, h => h.elim
  | .tuple _, h => h.elim
theorem SlR.same {O : Ow} {H H' : Hp} (s : Same H H') {v : Option (Option V)} : ∀ {x : Sl}, SlR O H v x → SlR O H' v x
  | .no, _ => trivial
  | .va _, ⟨x, e, h⟩ => ⟨x, e, h.kp (.same s)⟩
  | .ow _, ⟨p, e, o, h⟩ => ⟨p, e, o, h.same s⟩
  | .ex _ _, _ => trivial
theorem RE.same {O : Ow} {ρ : En} {σ : Sg} {H H' : Hp} (r : RE O ρ σ H) (s : Same H H') : RE O ρ σ H' :=
  ⟨r.len, fun a o e => r.dom a o (s.free e), fun i x e => (r.at_ i x e).same s⟩
theorem RE.new {O : Ow} {ρ : En} {σ : Sg} {H : Hp} (r : RE O ρ σ H) {p : Addr} (h : H p = none) : ¬ O p := fun o => r.dom p o h
theorem same_upd {H : Hp} {p : Addr} {o : HO} (h : H p = none) : Same H (upd H p o) := fun b x e => by
  rw [upd_ne (ne_of_none e h)]
  exact e

/-! ## what an expression comes to -/
inductive Re (α : Type) where
  | ok (a : α)
  | ex (c : Value) (p : Option PyData)
  | st
def Re.bind {α β : Type} (r : Re α) (g : α → Re β) : Re β := match r with
  | .ok a => g a
  | .ex c p => .ex c p
  | .st => .st
def Re.map {α β : Type} (r : Re α) (g : α → β) : Re β := r.bind fun a => .ok (g a)
@[simp] theorem Re.bind_ok {α β : Type} (a : α) (g : α → Re β) : (Re.ok a).bind g = g a := id rfl
@[simp] theorem Re.bind_ex {α β : Type} (c : Value) (p : Option PyData) (g : α → Re β) : (Re.ex c p).bind g = .ex c p := id rfl
@[simp] theorem Re.bind_st {α β : Type} (g : α → Re β) : (Re.st : Re α).bind g = .st := id rfl

/-- the wish about an exception of class c with the payload p -/
def XW (W : WX) (σ : Sg) (O : Ow) (H : Hp) (c : Value) : Option PyData → Prop
  | none => W c none σ H
  | some d => ∀ a v, H a = some (.xd [("line", v)]) → Rp O H v d → W c (some a) σ H
/-- an expression's reading, by what it comes to -/
def tR (W : WX) (O : Ow) (r : Re PyData) (σ : Sg) (H : Hp) (Q : VK) : Prop := match r with
  | .ok d => ∀ v H', Same H H' → Rp O H' v d → Q v H'
  | .ex c p => ∀ H', Same H H' → XW W σ O H' c p
  | .st => False
def tD (W : WX) (f : En → Re PyData) : TE := fun σ H Q => ∃ ρ O, RE O ρ σ H ∧ tR W O (f ρ) σ H Q
def tRB (W : WX) (O : Ow) (r : Re Bool) (σ : Sg) (H : Hp) (Q : Bool → Hp → Prop) : Prop := match r with
  | .ok b => ∀ H', Same H H' → Q b H'
  | .ex c p => ∀ H', Same H H' → XW W σ O H' c p
  | .st => False
def tB (W : WX) (f : En → Re Bool) : TT := fun σ H Q => ∃ ρ O, RE O ρ σ H ∧ tRB W O (f ρ) σ H Q
def tRA (W : WX) (O : Ow) (r : Re (List PyData)) (σ : Sg) (H : Hp) (Q : List V → Hp → Prop) : Prop := match r with
  | .ok ds => ∀ vs H', Same H H' → RpL O H' vs ds → Q vs H'
  | .ex c p => ∀ H', Same H H' → XW W σ O H' c p
  | .st => False
def tA (W : WX) (f : En → Re (List PyData)) : TA := fun σ H Q => ∃ ρ O, RE O ρ σ H ∧ tRA W O (f ρ) σ H Q
/-- a look: the thing may be one that is still written -/
def Lk (O : Ow) (H : Hp) (v : V) (d : PyData) : Prop := Rp O H v d ∨ ∃ p, v = .ref p ∧ OwR O H p d
def tRL (W : WX) (O : Ow) (r : Re PyData) (σ : Sg) (H : Hp) (Q : VK) : Prop := match r with
  | .ok d => ∀ v H', Same H H' → Lk O H' v d → Q v H'
  | .ex c p => ∀ H', Same H H' → XW W σ O H' c p
  | .st => False
def tL (W : WX) (f : En → Re PyData) : TE := fun σ H Q => ∃ ρ O, RE O ρ σ H ∧ tRL W O (f ρ) σ H Q

theorem tR.same {W : WX} {O : Ow} {r : Re PyData} {σ : Sg} {H H1 : Hp} {Q : VK} (h : tR W O r σ H Q) (s : Same H H1) : tR W O r σ H1 Q := by
  cases r with
  | ok d => exact fun v H' s' q => h v H' (s.trans s') q
  | ex c p => exact fun H' s' => h H' (s.trans s')
  | st => exact h
theorem tRB.same {W : WX} {O : Ow} {r : Re Bool} {σ : Sg} {H H1 : Hp} {Q : Bool → Hp → Prop} (h : tRB W O r σ H Q) (s : Same H H1) : tRB W O r σ H1 Q := by
  cases r with
  | ok d => exact fun H' s' => h H' (s.trans s')
  | ex c p => exact fun H' s' => h H' (s.trans s')
  | st => exact h
theorem tRA.same {W : WX} {O : Ow} {r : Re (List PyData)} {σ : Sg} {H H1 : Hp} {Q : List V → Hp → Prop} (h : tRA W O r σ H Q) (s : Same H H1) : tRA W O r σ H1 Q := by
  cases r with
  | ok d => exact fun v H' s' q => h v H' (s.trans s') q
  | ex c p => exact fun H' s' => h H' (s.trans s')
  | st => exact h

section
variable {X : Cx} {W : WX}
theorem pe_imp {e : Expr} {t t' : TE} (h : PE X e t) (i : ∀ σ H Q, t' σ H Q → t σ H Q) : PE X e t' := ⟨fun pins s σ H Q I q => h.run pins s σ H Q I (i σ H Q q)⟩
theorem pt_imp {e : Expr} {t t' : TT} (h : PT X e t) (i : ∀ σ H Q, t' σ H Q → t σ H Q) : PT X e t' := ⟨fun pins s σ H Q I q => h.run pins s σ H Q I (i σ H Q q)⟩
theorem pw_imp {e : Expr} {t t' : TT} (h : PW X e t) (i : ∀ σ H Q, t' σ H Q → t σ H Q) : PW X e t' := ⟨fun whole pins s σ H Q I q => h.run whole pins s σ H Q I (i σ H Q q)⟩
theorem pa_imp {e : List Expr} {t t' : TA} (h : PA X e t) (i : ∀ σ H Q, t' σ H Q → t σ H Q) : PA X e t' := ⟨fun pos pins s σ H Q I q => h.run pos pins s σ H Q I (i σ H Q q)⟩
theorem ps_imp {e : Stmt} {t t' : TS} (h : PS X e t) (i : ∀ D σ H, t' D σ H → t D σ H) : PS X e t' := ⟨fun pins s σ H D I q => h.run pins s σ H D I (i D σ H q)⟩
theorem pss_imp {e : List Stmt} {t t' : TS} (h : PSs X e t) (i : ∀ D σ H, t' D σ H → t D σ H) : PSs X e t' := ⟨fun pins s σ H D I q => h.run pins s σ H D I (i D σ H q)⟩

variable {σ : Sg} {O : Ow} {ρ : En} {H : Hp} {f : En → Re PyData}
/-- one value, then on -/
theorem goD {g : PyData → Re PyData} {Q R : VK} (re : RE O ρ σ H) (h : tR W O ((f ρ).bind g) σ H Q) (k : ∀ d x H1, RE O ρ σ H1 → Same H H1 → Rp O H1 x d → tR W O (g d) σ H1 Q → R x H1) : tD W f σ H R := by
  refine ⟨ρ, O, re, ?_⟩
  cases e : f ρ with
  | ok d =>
    rw [e] at h
    exact fun v H1 s q => k d v H1 (re.same s) s q (tR.same h s)
  | ex c p => rw [e] at h; exact h
  | st => rw [e] at h; exact h
theorem goDB {g : PyData → Re Bool} {Q : Bool → Hp → Prop} {R : VK} (re : RE O ρ σ H) (h : tRB W O ((f ρ).bind g) σ H Q) (k : ∀ d x H1, RE O ρ σ H1 → Same H H1 → Rp O H1 x d → tRB W O (g d) σ H1 Q → R x H1) : tD W f σ H R := by
  refine ⟨ρ, O, re, ?_⟩
  cases e : f ρ with
  | ok d =>
    rw [e] at h
    exact fun v H1 s q => k d v H1 (re.same s) s q (tRB.same h s)
  | ex c p => rw [e] at h; exact h
  | st => rw [e] at h; exact h
theorem goDA {g : PyData → Re (List PyData)} {Q : List V → Hp → Prop} {R : VK} (re : RE O ρ σ H) (h : tRA W O ((f ρ).bind g) σ H Q) (k : ∀ d x H1, RE O ρ σ H1 → Same H H1 → Rp O H1 x d → tRA W O (g d) σ H1 Q → R x H1) : tD W f σ H R := by
  refine ⟨ρ, O, re, ?_⟩
  cases e : f ρ with
  | ok d =>
    rw [e] at h
    exact fun v H1 s q => k d v H1 (re.same s) s q (tRA.same h s)
  | ex c p => rw [e] at h; exact h
  | st => rw [e] at h; exact h
theorem goL {g : PyData → Re PyData} {Q R : VK} (re : RE O ρ σ H) (h : tR W O ((f ρ).bind g) σ H Q) (k : ∀ d x H1, RE O ρ σ H1 → Same H H1 → Lk O H1 x d → tR W O (g d) σ H1 Q → R x H1) : tL W f σ H R := by
  refine ⟨ρ, O, re, ?_⟩
  cases e : f ρ with
  | ok d =>
    rw [e] at h
    exact fun v H1 s q => k d v H1 (re.same s) s q (tR.same h s)
  | ex c p => rw [e] at h; exact h
  | st => rw [e] at h; exact h
theorem goLB {g : PyData → Re Bool} {Q : Bool → Hp → Prop} {R : VK} (re : RE O ρ σ H) (h : tRB W O ((f ρ).bind g) σ H Q) (k : ∀ d x H1, RE O ρ σ H1 → Same H H1 → Lk O H1 x d → tRB W O (g d) σ H1 Q → R x H1) : tL W f σ H R := by
  refine ⟨ρ, O, re, ?_⟩
  cases e : f ρ with
  | ok d =>
    rw [e] at h
    exact fun v H1 s q => k d v H1 (re.same s) s q (tRB.same h s)
  | ex c p => rw [e] at h; exact h
  | st => rw [e] at h; exact h
theorem goA {fa : En → Re (List PyData)} {g : List PyData → Re PyData} {Q : VK} {R : List V → Hp → Prop} (re : RE O ρ σ H) (h : tR W O ((fa ρ).bind g) σ H Q) (k : ∀ ds xs H1, RE O ρ σ H1 → Same H H1 → RpL O H1 xs ds → tR W O (g ds) σ H1 Q → R xs H1) : tA W fa σ H R := by
  refine ⟨ρ, O, re, ?_⟩
  cases e : fa ρ with
  | ok d =>
    rw [e] at h
    exact fun v H1 s q => k d v H1 (re.same s) s q (tR.same h s)
  | ex c p => rw [e] at h; exact h
  | st => rw [e] at h; exact h
theorem goB {fb : En → Re Bool} {g : Bool → Re PyData} {Q : VK} {R : Bool → Hp → Prop} (re : RE O ρ σ H) (h : tR W O ((fb ρ).bind g) σ H Q) (k : ∀ b H1, RE O ρ σ H1 → Same H H1 → tR W O (g b) σ H1 Q → R b H1) : tB W fb σ H R := by
  refine ⟨ρ, O, re, ?_⟩
  cases e : fb ρ with
  | ok d =>
    rw [e] at h
    exact fun H1 s => k d H1 (re.same s) s (tR.same h s)
  | ex c p => rw [e] at h; exact h
  | st => rw [e] at h; exact h
theorem goBB {fb : En → Re Bool} {g : Bool → Re Bool} {Q : Bool → Hp → Prop} {R : Bool → Hp → Prop} (re : RE O ρ σ H) (h : tRB W O ((fb ρ).bind g) σ H Q) (k : ∀ b H1, RE O ρ σ H1 → Same H H1 → tRB W O (g b) σ H1 Q → R b H1) : tB W fb σ H R := by
  refine ⟨ρ, O, re, ?_⟩
  cases e : fb ρ with
  | ok d =>
    rw [e] at h
    exact fun H1 s => k d H1 (re.same s) s (tRB.same h s)
  | ex c p => rw [e] at h; exact h
  | st => rw [e] at h; exact h
/-- at an end -/
theorem tR.here {d : PyData} {Q : VK} {v : V} (h : tR W O (.ok d) σ H Q) (r : Rp O H v d) : Q v H := h v H (Same.refl H) r
theorem tRB.here {b : Bool} {Q : Bool → Hp → Prop} (h : tRB W O (.ok b) σ H Q) : Q b H := h H (Same.refl H)

/-! ### names, constants -/
def eVar (i : Nat) : En → Re PyData := fun ρ => match ρ[i]? with
  | some (.va d) => .ok d
  | _ => .st
/-- a name that is looked at, be it one that is still written -/
def eLook (i : Nat) : En → Re PyData := fun ρ => match ρ[i]? with
  | some (.va d) => .ok d
  | some (.ow d) => .ok d
  | _ => .st
def eC (d : PyData) : En → Re PyData := fun _ => .ok d
theorem de_var (i : Nat) {x : Str} {pos : Pos} (hN : X.N[i]? = some x := by rfl) (hv : Vis X.env.scope x := by first | exact Or.inl rfl | exact Or.inr (Or.inl rfl) | exact Or.inr (Or.inr rfl)) (hd : (x == ("__debug__" : Str)) = false := by decide)
    (hcd : (x == ("__classdict__" : Str)) = false := by decide) : PE X (.Name x pos) (tD W (eVar i)) := pe_imp (pe_var hN hv hd hcd) fun σ H Q ⟨ρ, O, re, h⟩ => by
  unfold eVar at h
  cases e : ρ[i]? with
  | none => rw [e] at h; exact h.elim
  | some s =>
    rw [e] at h
    cases s with
    | va d =>
      obtain ⟨v, e1, r⟩ := re.at_ i _ e
      exact ⟨v, e1, h.here r⟩
    | no => exact h.elim
    | ow d => exact h.elim
    | ex c p => exact h.elim
theorem dl_var (i : Nat) {x : Str} {pos : Pos} (hN : X.N[i]? = some x := by rfl) (hv : Vis X.env.scope x := by first | exact Or.inl rfl | exact Or.inr (Or.inl rfl) | exact Or.inr (Or.inr rfl)) (hd : (x == ("__debug__" : Str)) = false := by decide)
    (hcd : (x == ("__classdict__" : Str)) = false := by decide) : PE X (.Name x pos) (tL W (eLook i)) := pe_imp (pe_var hN hv hd hcd) fun σ H Q ⟨ρ, O, re, h⟩ => by
  unfold eLook at h
  cases e : ρ[i]? with
  | none => rw [e] at h; exact h.elim
  | some s =>
    rw [e] at h
    cases s with
    | va d =>
      obtain ⟨v, e1, r⟩ := re.at_ i _ e
      exact ⟨v, e1, h v H (Same.refl H) (.inl r)⟩
    | no => exact h.elim
    | ow d =>
      obtain ⟨p, e1, _, r⟩ := re.at_ i _ e
      exact ⟨.ref p, e1, h _ H (Same.refl H) (.inr ⟨p, rfl, r⟩)⟩
    | ex c p => exact h.elim
theorem dl_of {e : Expr} (h : PE X e (tD W f)) : PE X e (tL W f) := pe_imp h fun σ H Q ⟨ρ, O, re, q⟩ => ⟨ρ, O, re, by
  cases e : f ρ with
  | ok d => rw [e] at q; exact fun v H1 s r => q v H1 s (.inl r)
  | ex c p => rw [e] at q; exact q
  | st => rw [e] at q; exact q⟩
theorem de_int {i j pos} : PE X (.Constant (.int i) j pos) (tD W (eC (.int i))) := pe_imp pe_int fun _ _ _ ⟨_, _, _, h⟩ => h.here (.int i)
theorem de_bl {b j pos} : PE X (.Constant (.bool b) j pos) (tD W (eC (.bool b))) := pe_imp pe_bl fun _ _ _ ⟨_, _, _, h⟩ => h.here (.bl b)
theorem de_non {j pos} : PE X (.Constant .none j pos) (tD W (eC .none)) := pe_imp pe_non fun _ _ _ ⟨_, _, _, h⟩ => h.here .non
theorem de_str {x j pos} : PE X (.Constant (.str x) j pos) (tD W (eC (.str x))) := pe_imp pe_str fun _ _ _ ⟨_, _, _, h⟩ => h.here (.str x)
/-- an int of the module -/
theorem de_glob {x : Str} {i : Int} {t : Tok} {pos : Pos} (hg : Gl X x) (hm : X.mg x = some (.int i t)) (hd : (x == ("__debug__" : Str)) = false := by decide) : PE X (.Name x pos) (tD W (eC (.int i))) :=
  pe_imp (pe_glob hg hm (v := .int i) ⟨t, rfl⟩ hd) fun _ _ _ ⟨_, _, _, h⟩ => h.here (.int i)
theorem de_globS {x y : Str} {t : Tok} {pos : Pos} (hg : Gl X x) (hm : X.mg x = some (.str y t)) (hd : (x == ("__debug__" : Str)) = false := by decide) : PE X (.Name x pos) (tD W (eC (.str y))) :=
  pe_imp (pe_glob hg hm (v := .str y) ⟨t, rfl⟩ hd) fun _ _ _ ⟨_, _, _, h⟩ => h.here (.str y)

/-! ### operators -/
def e2 (g : PyData → PyData → Re PyData) (fa fb : En → Re PyData) : En → Re PyData := fun ρ => (fa ρ).bind fun a => (fb ρ).bind fun b => g a b
def e1 (g : PyData → Re PyData) (fa : En → Re PyData) : En → Re PyData := fun ρ => (fa ρ).bind g
def Op2 (W : WX) (g : PyData → PyData → Re PyData) (r : R2) : Prop := ∀ (σ : Sg) (O : Ow) (ρ : En) (H : Hp) (x y : V) (d e : PyData) (Q : VK), RE O ρ σ H → Rp O H x d → Rp O H y e → tR W O (g d e) σ H Q → r x y H Q
theorem de_op {op : Operator} {r : R2} {g : PyData → PyData → Re PyData} {a b : Expr} {fa fb : En → Re PyData} {pos : Pos} (ho : OpR X (binaryOp op) r) (hg : Op2 W g r) (ha : PE X a (tD W fa)) (hb : PE X b (tD W fb)) : PE X (.BinOp a op b pos) (tD W (e2 g fa fb)) :=
  pe_imp (pe_op ho ha hb) fun σ H Q ⟨ρ, O, re, h⟩ => goD re h fun d x H1 re1 _ rx h1 => goD re1 h1 fun e y H2 re2 s2 ry h2 => hg σ O ρ H2 x y d e Q re2 (rx.kp (.same s2)) ry h2
theorem de_cmp {op : CmpOp} {r : R2} {g : PyData → PyData → Re PyData} {a b : Expr} {fa fb : En → Re PyData} {pos : Pos} (ho : OpR X (compareOp op) r) (hg : Op2 W g r) (ha : PE X a (tD W fa)) (hb : PE X b (tD W fb)) (hm : behindInMarks op b = false) : PE X (.Compare a [op] [b] pos) (tD W (e2 g fa fb)) :=
  pe_imp (pe_cmpR ho ha hb hm) fun σ H Q ⟨ρ, O, re, h⟩ => goD re h fun d x H1 re1 _ rx h1 => goD re1 h1 fun e y H2 re2 s2 ry h2 => hg σ O ρ H2 x y d e Q re2 (rx.kp (.same s2)) ry h2

end
end DL

namespace DL
open PySem PySem.Spec L2 PyProof.Rows

/-! ## inversion -/
section
variable {O : Ow} {H : Hp} {x : V}
theorem Rp.i_int {i : Int} (h : Rp O H x (.int i)) : x = .int i := by cases h; rfl
theorem Rp.i_bl {b : Bool} (h : Rp O H x (.bool b)) : x = .bl b := by cases h; rfl
theorem Rp.i_str {s : Str} (h : Rp O H x (.str s)) : x = .str s := by cases h; rfl
theorem Rp.i_non (h : Rp O H x .none) : x = .non := by cases h; rfl
theorem Rp.i_lst {ds : List PyData} (h : Rp O H x (.list ds)) : ∃ a xs, x = .ref a ∧ H a = some (.lst xs) ∧ ¬ O a ∧ RpL O H xs ds := by
  cases h with
  | lst e n r => exact ⟨_, _, rfl, e, n, r⟩
theorem Rp.i_tup {ds : List PyData} (h : Rp O H x (.tuple ds)) : ∃ a xs, x = .ref a ∧ H a = some (.tup xs) ∧ ¬ O a ∧ RpL O H xs ds := by
  cases h with
  | tup e n r => exact ⟨_, _, rfl, e, n, r⟩
/-- a list or tuple or dict that may still be written, read -/
theorem Lk.i_lst {ds : List PyData} (h : Lk O H x (.list ds)) : ∃ a xs, x = .ref a ∧ H a = some (.lst xs) ∧ RpL O H xs ds := by
  rcases h with h | ⟨p, rfl, xs, e, r⟩
  · obtain ⟨a, xs, e1, e2, _, r⟩ := h.i_lst
    exact ⟨a, xs, e1, e2, r⟩
  · exact ⟨p, xs, rfl, e, r⟩
theorem Lk.i_tup {ds : List PyData} (h : Lk O H x (.tuple ds)) : ∃ a xs, x = .ref a ∧ H a = some (.tup xs) ∧ RpL O H xs ds := by
  rcases h with h | ⟨p, rfl, r⟩
  · obtain ⟨a, xs, e1, e2, _, r⟩ := h.i_tup
    exact ⟨a, xs, e1, e2, r⟩
  · exact r.elim
theorem Lk.i_str {s : Str} (h : Lk O H x (.str s)) : x = .str s := by
  rcases h with h | ⟨p, rfl, r⟩
  · exact h.i_str
  · exact r.elim
/-- a dict is a dict, or it is the script -/
theorem Lk.i_dct {es : List (PyData × PyData)} (h : Lk O H x (.dict es)) : (∃ a kvs, x = .ref a ∧ H a = some (.dK kvs) ∧ RpD O H kvs es) ∨ ∃ a o ns, x = .ref a ∧ H a = some (.frz o (.lst (ns.map V.int))) ∧ .dict es = scrD ns := by
  rcases h with h | ⟨p, rfl, r⟩
  · cases h with
    | dct e n r => exact .inl ⟨_, _, rfl, e, r⟩
    | scr e n => exact .inr ⟨_, _, _, rfl, e, rfl⟩
  · obtain ⟨kvs, e, r⟩ := r
    exact .inl ⟨p, kvs, rfl, e, r⟩
end
/-- a new thing -/
theorem Rp.newL {O : Ow} {ρ : En} {σ : Sg} {H : Hp} {p : Addr} {xs : List V} {ds : List PyData} (re : RE O ρ σ H) (h : H p = none) (r : RpL O H xs ds) : Rp O (upd H p (.lst xs)) (.ref p) (.list ds) :=
  .lst upd_same (re.new h) (r.kp (.same (same_upd h)))
theorem Rp.newT {O : Ow} {ρ : En} {σ : Sg} {H : Hp} {p : Addr} {xs : List V} {ds : List PyData} (re : RE O ρ σ H) (h : H p = none) (r : RpL O H xs ds) : Rp O (upd H p (.tup xs)) (.ref p) (.tuple ds) :=
  .tup upd_same (re.new h) (r.kp (.same (same_upd h)))
theorem tR.newL {W : WX} {O : Ow} {ρ : En} {σ : Sg} {H : Hp} {Q : VK} {p : Addr} {xs : List V} {ds : List PyData} (h : tR W O (.ok (.list ds)) σ H Q) (re : RE O ρ σ H) (n : H p = none) (r : RpL O H xs ds) : Q (.ref p) (upd H p (.lst xs)) :=
  h _ _ (same_upd n) (Rp.newL re n r)
theorem tR.newT {W : WX} {O : Ow} {ρ : En} {σ : Sg} {H : Hp} {Q : VK} {p : Addr} {xs : List V} {ds : List PyData} (h : tR W O (.ok (.tuple ds)) σ H Q) (re : RE O ρ σ H) (n : H p = none) (r : RpL O H xs ds) : Q (.ref p) (upd H p (.tup xs)) :=
  h _ _ (same_upd n) (Rp.newT re n r)

/-! ## arithmetic -/
def fits (n : Nat) : Bool := decide (n ≤ 16777216)
theorem fits_line {n : Nat} (h : fits n = true) : n ≤ sizeLine := by
  rw [sizeLine_eq]
  exact of_decide_eq_true h
def dAdd : PyData → PyData → Re PyData
  | .int i, .int j => .ok (.int (i + j))
  | .list xs, .list ys => if fits (xs.length + ys.length) then .ok (.list (xs ++ ys)) else .st
  | .tuple xs, .tuple ys => if fits (xs.length + ys.length) then .ok (.tuple (xs ++ ys)) else .st
  | .str x, .str y => if fits (x.length + y.length) then .ok (.str (x ++ y)) else .st
  | _, _ => .st
def rAddD (K : PySem.W.Frag) : R2 := fun x y H Q => (rI0 (fun i j => V.int (i + j)) x y H Q ∨ rCat x y H Q) ∨ (rCatA K x y H Q ∨ (∃ i j, x = .str i ∧ y = .str j ∧ i.length + j.length ≤ sizeLine ∧ Q (.str (i ++ j)) H))
theorem or_add {X : Cx} : OpR X (binaryOp .Add) (rAddD X.K) := (op_add.or op_cat).or (op_catA.or op_add_str)
theorem o_add {W : WX} {K : PySem.W.Frag} : Op2 W dAdd (rAddD K) := by
  intro σ O ρ H x y d e Q re rx ry h
  unfold dAdd at h
  split at h
  · cases rx.i_int; cases ry.i_int
    exact .inl (.inl ⟨_, _, rfl, rfl, h.here (.int _)⟩)
  · split at h
    · rename_i hf
      obtain ⟨a, xs, rfl, ea, na, ra⟩ := rx.i_lst
      obtain ⟨b, ys, rfl, eb, nb, rb⟩ := ry.i_lst
      refine .inl (.inr ⟨a, b, xs, ys, rfl, rfl, ea, eb, ?_, fun p hp => h.newL re hp (ra.app rb)⟩)
      rw [ra.len, rb.len]; exact fits_line hf
    · exact h.elim
  · split at h
    · rename_i hf
      obtain ⟨a, xs, rfl, ea, na, ra⟩ := rx.i_tup
      obtain ⟨b, ys, rfl, eb, nb, rb⟩ := ry.i_tup
      refine .inr (.inl ⟨a, b, xs, ys, rfl, rfl, SqT.of ea, SqT.of eb, ?_, fun e0 => ?_, fun _ e1 => ?_, fun _ _ p hp => h.newT re hp (ra.app rb)⟩)
      · rw [ra.len, rb.len]; exact fits_line hf
      · subst e0
        cases ra
        exact h.here ry
      · subst e1
        cases rb
        rw [List.append_nil] at h
        exact h.here rx
    · exact h.elim
  · split at h
    · rename_i hf
      cases rx.i_str; cases ry.i_str
      exact .inr (.inr ⟨_, _, rfl, rfl, fits_line hf, h.here (.str _)⟩)
    · exact h.elim
  · exact h.elim
section
variable {X : Cx} {W : WX} {a b : Expr} {fa fb : En → Re PyData} {pos : Pos}
theorem de_add (ha : PE X a (tD W fa)) (hb : PE X b (tD W fb)) : PE X (.BinOp a .Add b pos) (tD W (e2 dAdd fa fb)) := de_op or_add o_add ha hb
def dI2 (g : Int → Int → Re PyData) : PyData → PyData → Re PyData
  | .int i, .int j => g i j
  | _, _ => .st
theorem o_I0 {g : Int → Int → PyData} {gv : Int → Int → V} (hg : ∀ O H i j, Rp O H (gv i j) (g i j)) : Op2 W (dI2 fun i j => .ok (g i j)) (rI0 gv) := by
  intro σ O ρ H x y d e Q re rx ry h
  unfold dI2 at h
  split at h
  · cases rx.i_int; cases ry.i_int
    exact ⟨_, _, rfl, rfl, h.here (hg _ _ _ _)⟩
  · exact h.elim
theorem o_IC {C : Int → Int → Prop} {c : Int → Int → Bool} {g : Int → Int → PyData} {gv : Int → Int → V} (hg : ∀ O H i j, Rp O H (gv i j) (g i j)) (hc : ∀ i j, c i j = true → C i j) : Op2 W (dI2 fun i j => if c i j then .ok (g i j) else .st) (rI C gv) := by
  intro σ O ρ H x y d e Q re rx ry h
  unfold dI2 at h
  split at h
  · dsimp only at h
    split at h
    · rename_i hh
      cases rx.i_int; cases ry.i_int
      exact ⟨_, _, rfl, rfl, hc _ _ hh, h.here (hg _ _ _ _)⟩
    · exact h.elim
  · exact h.elim
def dSub : PyData → PyData → Re PyData := dI2 fun i j => .ok (.int (i - j))
theorem de_sub (ha : PE X a (tD W fa)) (hb : PE X b (tD W fb)) : PE X (.BinOp a .Sub b pos) (tD W (e2 dSub fa fb)) := de_op op_sub (o_I0 fun _ _ _ _ => .int _) ha hb
def dMod : PyData → PyData → Re PyData := dI2 fun i j => if (j != 0) then .ok (.int (i.fmod j)) else .st
theorem de_mod (ha : PE X a (tD W fa)) (hb : PE X b (tD W fb)) : PE X (.BinOp a .Mod b pos) (tD W (e2 dMod fa fb)) := de_op op_modN (o_IC (c := fun _ j => j != 0) (fun _ _ _ _ => .int _) fun i j h => by simpa using h) ha hb
def dDiv : PyData → PyData → Re PyData := dI2 fun i j => if (j != 0 && decide (j.natAbs < 1073741824)) then .ok (.int (i.fdiv j)) else .st
theorem de_div (ha : PE X a (tD W fa)) (hb : PE X b (tD W fb)) : PE X (.BinOp a .FloorDiv b pos) (tD W (e2 dDiv fa fb)) :=
  de_op op_fdivN (o_IC (c := fun _ j => j != 0 && decide (j.natAbs < 1073741824)) (fun _ _ _ _ => .int _) fun i j h => by
    simp only [Bool.and_eq_true, bne_iff_ne, ne_eq, decide_eq_true_eq] at h
    exact h) ha hb
def dPow : PyData → PyData → Re PyData := dI2 fun i j => if (decide (0 ≤ j) && decide (j ≤ 1000000) && decide (i.natAbs < 2 ^ 64)) then .ok (.int (i ^ j.toNat)) else .st
theorem de_pow (ha : PE X a (tD W fa)) (hb : PE X b (tD W fb)) : PE X (.BinOp a .Pow b pos) (tD W (e2 dPow fa fb)) :=
  de_op op_pow (o_IC (c := fun i j => decide (0 ≤ j) && decide (j ≤ 1000000) && decide (i.natAbs < 2 ^ 64)) (fun _ _ _ _ => .int _) fun i j h => by
    simp only [Bool.and_eq_true, decide_eq_true_eq] at h
    exact ⟨h.1.1, h.1.2, h.2⟩) ha hb
def mulC (i j : Int) : Bool := (decide (-18446744073709551616 < i) && decide (i < 18446744073709551616)) || (decide (-18446744073709551616 < j) && decide (j < 18446744073709551616))
theorem mulC_ok {i j : Int} (h : mulC i j = true) : CMul i j := by
  unfold mulC at h
  simp only [Bool.or_eq_true, Bool.and_eq_true, decide_eq_true_eq] at h
  unfold CMul
  rcases h with h | h
  · exact .inl ⟨by omega, by omega⟩
  · exact .inr ⟨by omega, by omega⟩
def dMul : PyData → PyData → Re PyData
  | .int i, .int j => if mulC i j then .ok (.int (i * j)) else .st
  | .list xs, .int k => if decide (0 ≤ k) && decide (k ≤ 100000) && decide (xs.length ≤ 100) then .ok (.list (List.replicate k.toNat xs).flatten) else .st
  | .tuple xs, .int k => if !xs.isEmpty && decide (2 ≤ k) && decide (k ≤ 1000) && decide (xs.length ≤ 1000) then .ok (.tuple (List.replicate k.toNat xs).flatten) else .st
  | _, _ => .st
theorem RpL.rep {O : Ow} {H : Hp} {xs : List V} {ds : List PyData} (h : RpL O H xs ds) : ∀ k : Nat, RpL O H (List.replicate k xs).flatten (List.replicate k ds).flatten
  | 0 => .nil
  | k + 1 => by
    rw [List.replicate_succ, List.replicate_succ, List.flatten_cons, List.flatten_cons]
    exact h.app (RpL.rep h k)
theorem o_mul {K : PySem.W.Frag} : Op2 W dMul (fun x y H Q => (rI CMul (fun i j => V.int (i * j)) x y H Q ∨ rRep x y H Q) ∨ rRepT K x y H Q) := by
  intro σ O ρ H x y d e Q re rx ry h
  unfold dMul at h
  split at h
  · split at h
    · rename_i hh
      cases rx.i_int; cases ry.i_int
      exact .inl (.inl ⟨_, _, rfl, rfl, mulC_ok hh, h.here (.int _)⟩)
    · exact h.elim
  · split at h
    · rename_i hh
      simp only [Bool.and_eq_true, decide_eq_true_eq] at hh
      obtain ⟨a, xs, rfl, ea, na, ra⟩ := rx.i_lst
      cases ry.i_int
      have hl := ra.len
      refine .inl (.inr ⟨a, _, xs, rfl, rfl, ea, by omega, by omega, ?_, fun p hp => h.newL re hp (ra.rep _)⟩)
      rw [sizeLine_eq]
      have h1 : xs.length ≤ 100 := by omega
      exact Nat.le_trans (Nat.mul_le_mul h1 (show _ ≤ 100000 by omega)) (by decide)
    · exact h.elim
  · split at h
    · rename_i hh
      simp only [Bool.and_eq_true, decide_eq_true_eq] at hh
      obtain ⟨a, xs, rfl, ea, na, ra⟩ := rx.i_tup
      cases ry.i_int
      have hl := ra.len
      refine .inr ⟨a, _, xs, rfl, rfl, SqT.of ea, fun z => ?_, by omega, by omega, by omega, fun p hp => h.newT re hp (ra.rep _)⟩
      subst z
      cases ra
      exact absurd hh.1.1.1 (by decide)
    · exact h.elim
  · exact h.elim
theorem de_mul (ha : PE X a (tD W fa)) (hb : PE X b (tD W fb)) : PE X (.BinOp a .Mult b pos) (tD W (e2 dMul fa fb)) := de_op ((op_mul.or op_rep).or op_repT) o_mul ha hb
def dNeg : PyData → Re PyData
  | .int i => .ok (.int (-i))
  | _ => .st
theorem de_neg (ha : PE X a (tD W fa)) : PE X (.UnaryOp .USub a pos) (tD W (e1 dNeg fa)) := pe_imp (pe_un un_neg ha) fun σ H Q ⟨ρ, O, re, h⟩ => goD re h fun d x H1 re1 _ rx h1 => by
  unfold dNeg at h1
  split at h1
  · cases rx.i_int
    exact ⟨_, rfl, h1.here (.int _)⟩
  · exact h1.elim
/-! ## comparisons -/
def dLt : PyData → PyData → Re PyData := dI2 fun i j => .ok (.bool (decide (i < j)))
def dLe : PyData → PyData → Re PyData := dI2 fun i j => .ok (.bool (decide (i ≤ j)))
def dGt : PyData → PyData → Re PyData := dI2 fun i j => .ok (.bool (decide (j < i)))
def dGe : PyData → PyData → Re PyData := dI2 fun i j => .ok (.bool (decide (j ≤ i)))
theorem de_lt (ha : PE X a (tD W fa)) (hb : PE X b (tD W fb)) : PE X (.Compare a [.Lt] [b] pos) (tD W (e2 dLt fa fb)) := de_cmp op_lt (o_I0 fun _ _ _ _ => .bl _) ha hb (nomark _)
theorem de_le (ha : PE X a (tD W fa)) (hb : PE X b (tD W fb)) : PE X (.Compare a [.LtE] [b] pos) (tD W (e2 dLe fa fb)) := de_cmp op_le (o_I0 fun _ _ _ _ => .bl _) ha hb (nomark _)
theorem de_gt (ha : PE X a (tD W fa)) (hb : PE X b (tD W fb)) : PE X (.Compare a [.Gt] [b] pos) (tD W (e2 dGt fa fb)) := de_cmp op_gt (o_I0 fun _ _ _ _ => .bl _) ha hb (nomark _)
theorem de_ge (ha : PE X a (tD W fa)) (hb : PE X b (tD W fb)) : PE X (.Compare a [.GtE] [b] pos) (tD W (e2 dGe fa fb)) := de_cmp op_ge (o_I0 fun _ _ _ _ => .bl _) ha hb (nomark _)
/-- data that may be compared: of depth n at most, without dicts -/
def shp : Nat → PyData → Bool
  | _, .none => true
  | _, .bool _ => true
  | _, .int _ => true
  | _, .str x => PyData.strOk x
  | n + 1, .list xs => xs.all (shp n)
  | n + 1, .tuple xs => xs.all (shp n)
  | _, _ => false
theorem shp_all : ∀ (n : Nat), (∀ d : PyData, shp n d = true → d.canLay0 = true ∧ d.depth ≤ n + 1) → ∀ xs : List PyData, xs.all (shp n) = true → PyData.canLayAll0 xs = true ∧ PyData.depthAll xs ≤ n + 1
  | n, _, [], _ => ⟨by simp [PyData.canLayAll0], by simp [PyData.depthAll]⟩
  | n, ih, x :: xs, h => by
    rw [List.all_cons, Bool.and_eq_true] at h
    have h1 := ih x h.1
    have h2 := shp_all n ih xs h.2
    refine ⟨by simp [PyData.canLayAll0, h1.1, h2.1], ?_⟩
    simp only [PyData.depthAll]
    omega
theorem shp_ok : ∀ (n : Nat) (d : PyData), shp n d = true → d.canLay0 = true ∧ d.depth ≤ n + 1
  | n, .none, _ => ⟨by simp [PyData.canLay0], by simp [PyData.depth]⟩
  | n, .bool _, _ => ⟨by simp [PyData.canLay0], by simp [PyData.depth]⟩
  | n, .int _, _ => ⟨by simp [PyData.canLay0], by simp [PyData.depth]⟩
  | n, .str x, h => ⟨by simpa [PyData.canLay0, shp] using h, by simp [PyData.depth]⟩
  | 0, .list xs, h => by simp [shp] at h
  | 0, .tuple xs, h => by simp [shp] at h
  | n + 1, .list xs, h => by
    have q := shp_all n (shp_ok n) xs (by simpa [shp] using h)
    refine ⟨by simp [PyData.canLay0, q.1], ?_⟩
    simp only [PyData.depth]; omega
  | n + 1, .tuple xs, h => by
    have q := shp_all n (shp_ok n) xs (by simpa [shp] using h)
    refine ⟨by simp [PyData.canLay0, q.1], ?_⟩
    simp only [PyData.depth]; omega
  | 0, .dict _, h => by simp [shp] at h
  | n + 1, .dict _, h => by simp [shp] at h
theorem shaped_of {d : PyData} (h : shp 8 d = true) : SeqAt.shaped d = true := by
  have q := shp_ok 8 d h
  unfold SeqAt.shaped
  rw [q.1]
  exact decide_eq_true (by omega)
theorem shp_depth {d : PyData} : True := trivial
mutual
theorem dp_of {K : PySem.W.Frag} {O : Ow} {H : Hp} : ∀ (n : Nat) (d : PyData) {v : V}, shp n d = true → Rp O H v d → Dp K H v d
  | n, .none, _, _, r => by cases r; exact .non
  | n, .bool _, _, _, r => by cases r; exact .bl _
  | n, .int _, _, _, r => by cases r; exact .int _
  | n, .str x, _, _, r => by cases r; exact .str _
  | 0, .list xs, _, h, _ => by simp [shp] at h
  | 0, .tuple xs, _, h, _ => by simp [shp] at h
  | n + 1, .list xs, _, h, r => by
    obtain ⟨a, ys, rfl, e, _, q⟩ := r.i_lst
    exact .lst (SqL.of e) (dps_of n xs (by simpa only [shp] using h) q)
  | n + 1, .tuple xs, _, h, r => by
    obtain ⟨a, ys, rfl, e, _, q⟩ := r.i_tup
    exact .tup (SqT.of e) (dps_of n xs (by simpa only [shp] using h) q)
  | 0, .dict _, _, h, _ => by simp [shp] at h
  | n + 1, .dict _, _, h, _ => by simp [shp] at h
theorem dps_of {K : PySem.W.Frag} {O : Ow} {H : Hp} : ∀ (n : Nat) (ds : List PyData) {vs : List V}, ds.all (shp n) = true → RpL O H vs ds → DpAll K H vs ds
  | n, [], _, _, r => by cases r; exact .nil
  | n, d :: ds, _, h, r => by
    rw [List.all_cons, Bool.and_eq_true] at h
    cases r with
    | cons r1 r2 => exact .cons (dp_of n d h.1 r1) (dps_of n ds h.2 r2)
end
def dEq (d e : PyData) : Re PyData := if shp 8 d && shp 8 e then .ok (.bool (PyData.eqv d e)) else .st
def dNe (d e : PyData) : Re PyData := if shp 8 d && shp 8 e then .ok (.bool (!PyData.eqv d e)) else .st
theorem o_eq {K : PySem.W.Frag} : Op2 W dEq (rEqD K) := by
  intro σ O ρ H x y d e Q re rx ry h
  unfold dEq at h
  split at h
  · rename_i hh
    rw [Bool.and_eq_true] at hh
    exact ⟨d, e, dp_of 8 d hh.1 rx, dp_of 8 e hh.2 ry, shaped_of hh.1, shaped_of hh.2, h.here (.bl _)⟩
  · exact h.elim
theorem o_ne {K : PySem.W.Frag} : Op2 W dNe (rNeD K) := by
  intro σ O ρ H x y d e Q re rx ry h
  unfold dNe at h
  split at h
  · rename_i hh
    rw [Bool.and_eq_true] at hh
    exact ⟨d, e, dp_of 8 d hh.1 rx, dp_of 8 e hh.2 ry, shaped_of hh.1, shaped_of hh.2, h.here (.bl _)⟩
  · exact h.elim
theorem de_eq (hu : X.A.units + 64 < cLine) (ha : PE X a (tD W fa)) (hb : PE X b (tD W fb)) : PE X (.Compare a [.Eq] [b] pos) (tD W (e2 dEq fa fb)) := de_cmp (op_eqD hu) o_eq ha hb (nomark _)
theorem de_ne (hu : X.A.units + 64 < cLine) (ha : PE X a (tD W fa)) (hb : PE X b (tD W fb)) : PE X (.Compare a [.NotEq] [b] pos) (tD W (e2 dNe fa fb)) := de_cmp (op_neD hu) o_ne ha hb (nomark _)
/-! is None -/
def isNone : PyData → Bool
  | .none => true
  | _ => false
theorem Rp.nonD {O : Ow} {H : Hp} {x : V} {d : PyData} (r : Rp O H x d) : decide (x = .non) = isNone d := by
  cases r <;> first | rfl | exact decide_eq_false (fun z => nomatch z)
def dIsN (d : PyData) : Re PyData := .ok (.bool (isNone d))
def dNotN (d : PyData) : Re PyData := .ok (.bool (!isNone d))
theorem de_isN {j : Nat} {p : Pos} (ha : PE X a (tD W fa)) : PE X (.Compare a [.Is] [.Constant .none j p] pos) (tD W (e1 dIsN fa)) := pe_imp (pe_cmpR op_isN ha pe_non (nomark _)) fun σ H Q ⟨ρ, O, re, h⟩ => goD re h fun d x H1 re1 _ rx h1 =>
  ⟨rfl, by rw [rx.nonD]; exact h1.here (.bl _)⟩
theorem de_notN {j : Nat} {p : Pos} (ha : PE X a (tD W fa)) : PE X (.Compare a [.IsNot] [.Constant .none j p] pos) (tD W (e1 dNotN fa)) := pe_imp (pe_cmpR op_notN ha pe_non (nomark _)) fun σ H Q ⟨ρ, O, re, h⟩ => goD re h fun d x H1 re1 _ rx h1 =>
  ⟨rfl, by rw [rx.nonD]; exact h1.here (.bl _)⟩
/-! low <= x <= high -/
def eChain (fa fb fc : En → Re PyData) : En → Re PyData := fun ρ => (fa ρ).bind fun a => (fb ρ).bind fun b => match a, b with
  | .int i, .int j => if decide (i ≤ j) then (fc ρ).bind (dLe (.int j)) else .ok (.bool false)
  | _, _ => .st
theorem de_chain {c : Expr} {fc : En → Re PyData} (ha : PE X a (tD W fa)) (hb : PE X b (tD W fb)) (hc : PE X c (tD W fc)) : PE X (.Compare a [.LtE, .LtE] [b, c] pos) (tD W (eChain fa fb fc)) :=
  pe_imp (pe_chain op_le op_le ha hb hc (nomark c (op := .LtE))) fun σ H Q ⟨ρ, O, re, h⟩ => goD re h fun d x H1 re1 _ rx h1 => goD re1 h1 fun e y H2 re2 s2 ry h2 => by
    have rx := rx.kp (.same s2)
    split at h2
    · cases rx.i_int; cases ry.i_int
      refine ⟨_, _, rfl, rfl, _, rfl, ?_⟩
      split at h2
      · rename_i hh
        rw [hh]
        refine iteT ?_
        exact goD re2 h2 fun g z H3 re3 s3 rz h3 => by
          cases g with
          | int k =>
            cases rz.i_int
            exact ⟨_, _, rfl, rfl, tR.here (d := .bool (decide (_ ≤ k))) h3 (.bl _)⟩
          | _ => exact h3.elim
      · rename_i hh
        rw [Bool.not_eq_true] at hh
        rw [hh]
        exact iteF (h2.here (.bl _))
    · exact h2.elim
end
end DL

namespace DL
open PySem PySem.Spec L2 PyProof.Rows
section
variable {X : Cx} {W : WX} {a b c : Expr} {fa fb fc : En → Re PyData} {ga gb : En → Re Bool} {pos : Pos}

/-! ## tests -/
def asB : PyData → Re Bool
  | .bool b => .ok b
  | _ => .st
def toB (f : En → Re PyData) : En → Re Bool := fun ρ => (f ρ).bind asB
theorem toTest {O : Ow} {σ : Sg} {H : Hp} {r : Re PyData} {Q : Bool → Hp → Prop} (h : tRB W O (r.bind asB) σ H Q) : tR W O r σ H fun x H' => ∃ k, x = .bl k ∧ Q k H' := by
  cases r with
  | ok d =>
    intro v H' s rv
    cases d with
    | bool b => cases rv.i_bl; exact ⟨b, rfl, h H' s⟩
    | _ => exact h.elim
  | ex c p => exact h
  | st => exact h
theorem imp2 {r : R2} {g : PyData → PyData → Re PyData} (hg : Op2 W g r) (σ : Sg) (H : Hp) (Q : VK) (h : DL.tD W (e2 g fa fb) σ H Q) : tOp r (tD W fa) (tD W fb) σ H Q := by
  obtain ⟨ρ, O, re, h⟩ := h
  exact goD re h fun d x H1 re1 _ rx h1 => goD re1 h1 fun e y H2 re2 s2 ry h2 => hg σ O ρ H2 x y d e Q re2 (rx.kp (.same s2)) ry h2
theorem dt_cmpI {op : CmpOp} {r : R2} {ta tb : TE} {f : En → Re PyData} (ho : OpR X (compareOp op) r) (ha : PE X a ta) (hb : PE X b tb) (hm : behindInMarks op b = false) (i : ∀ σ H Q, DL.tD W f σ H Q → tOp r ta tb σ H Q) : PT X (.Compare a [op] [b] pos) (DL.tB W (toB f)) :=
  pt_imp (pt_cmpR ho ha hb hm) fun σ H Q ⟨ρ, O, re, h⟩ => i σ H _ ⟨ρ, O, re, toTest h⟩
theorem dt_lt (ha : PE X a (tD W fa)) (hb : PE X b (tD W fb)) : PT X (.Compare a [.Lt] [b] pos) (DL.tB W (toB (e2 dLt fa fb))) := dt_cmpI op_lt ha hb (nomark _) (imp2 (o_I0 fun _ _ _ _ => .bl _))
theorem dt_le (ha : PE X a (tD W fa)) (hb : PE X b (tD W fb)) : PT X (.Compare a [.LtE] [b] pos) (DL.tB W (toB (e2 dLe fa fb))) := dt_cmpI op_le ha hb (nomark _) (imp2 (o_I0 fun _ _ _ _ => .bl _))
theorem dt_gt (ha : PE X a (tD W fa)) (hb : PE X b (tD W fb)) : PT X (.Compare a [.Gt] [b] pos) (DL.tB W (toB (e2 dGt fa fb))) := dt_cmpI op_gt ha hb (nomark _) (imp2 (o_I0 fun _ _ _ _ => .bl _))
theorem dt_ge (ha : PE X a (tD W fa)) (hb : PE X b (tD W fb)) : PT X (.Compare a [.GtE] [b] pos) (DL.tB W (toB (e2 dGe fa fb))) := dt_cmpI op_ge ha hb (nomark _) (imp2 (o_I0 fun _ _ _ _ => .bl _))
theorem dt_eq (hu : X.A.units + 64 < cLine) (ha : PE X a (tD W fa)) (hb : PE X b (tD W fb)) : PT X (.Compare a [.Eq] [b] pos) (DL.tB W (toB (e2 dEq fa fb))) := dt_cmpI (op_eqD hu) ha hb (nomark _) (imp2 o_eq)
theorem dt_ne (hu : X.A.units + 64 < cLine) (ha : PE X a (tD W fa)) (hb : PE X b (tD W fb)) : PT X (.Compare a [.NotEq] [b] pos) (DL.tB W (toB (e2 dNe fa fb))) := dt_cmpI (op_neD hu) ha hb (nomark _) (imp2 o_ne)
theorem dt_isN {j : Nat} {p : Pos} (ha : PE X a (tD W fa)) : PT X (.Compare a [.Is] [.Constant .none j p] pos) (DL.tB W (toB (e1 dIsN fa))) := dt_cmpI op_isN ha pe_non (nomark _) fun σ H Q ⟨ρ, O, re, h⟩ => goD re h fun d x H1 re1 _ rx h1 =>
  ⟨rfl, by rw [rx.nonD]; exact h1.here (.bl _)⟩
theorem dt_notN {j : Nat} {p : Pos} (ha : PE X a (tD W fa)) : PT X (.Compare a [.IsNot] [.Constant .none j p] pos) (DL.tB W (toB (e1 dNotN fa))) := dt_cmpI op_notN ha pe_non (nomark _) fun σ H Q ⟨ρ, O, re, h⟩ => goD re h fun d x H1 re1 _ rx h1 =>
  ⟨rfl, by rw [rx.nonD]; exact h1.here (.bl _)⟩
theorem impChain (σ : Sg) (H : Hp) (Q : VK) (h : DL.tD W (eChain fa fb fc) σ H Q) : tChain (rI0 fun i j => .bl (decide (i ≤ j))) (rI0 fun i j => .bl (decide (i ≤ j))) (tD W fa) (tD W fb) (tD W fc) σ H Q := by
  obtain ⟨ρ, O, re, h⟩ := h
  exact goD re h fun d x H1 re1 _ rx h1 => goD re1 h1 fun e y H2 re2 s2 ry h2 => by
    have rx := rx.kp (.same s2)
    split at h2
    · cases rx.i_int; cases ry.i_int
      refine ⟨_, _, rfl, rfl, _, rfl, ?_⟩
      split at h2
      · rename_i hh
        rw [hh]
        refine iteT ?_
        exact goD re2 h2 fun g z H3 re3 s3 rz h3 => by
          cases g with
          | int k =>
            cases rz.i_int
            exact ⟨_, _, rfl, rfl, tR.here (d := .bool (decide (_ ≤ k))) h3 (.bl _)⟩
          | _ => exact h3.elim
      · rename_i hh
        rw [Bool.not_eq_true] at hh
        rw [hh]
        exact iteF (h2.here (.bl _))
    · exact h2.elim
theorem dt_chain (ha : PE X a (tD W fa)) (hb : PE X b (tD W fb)) (hc : PE X c (tD W fc)) : PT X (.Compare a [.LtE, .LtE] [b, c] pos) (DL.tB W (toB (eChain fa fb fc))) :=
  pt_imp (pt_chain op_le op_le ha hb hc (nomark c (op := .LtE))) fun σ H Q ⟨ρ, O, re, h⟩ => impChain σ H _ ⟨ρ, O, re, toTest h⟩
/-- truth of any value -/
def truth : PyData → Re Bool
  | .none => .ok false
  | .bool b => .ok b
  | .int i => .ok (i != 0)
  | .str x => if fits x.length then .ok (x.length != 0) else .st
  | .list ds => .ok (!ds.isEmpty)
  | .tuple ds => .ok (!ds.isEmpty)
  | .dict [] => .ok false
  | .dict ((.int _, _) :: _) => .ok true
  | .dict _ => .st
theorem RpL.empty {O : Ow} {H : Hp} {xs : List V} {ds : List PyData} (h : RpL O H xs ds) : xs.isEmpty = ds.isEmpty := by cases h <;> rfl
theorem truth_ok {K : PySem.W.Frag} {O : Ow} {H : Hp} {x : V} {d : PyData} {b : Bool} (h : truth d = .ok b) (r : Lk O H x d) : TruV K x H b := by
  cases d with
  | none =>
    rcases r with r | ⟨p, rfl, r⟩
    · cases r.i_non
      cases h; rfl
    · exact r.elim
  | bool k =>
    rcases r with r | ⟨p, rfl, r⟩
    · cases r.i_bl
      cases h; rfl
    · exact r.elim
  | int i =>
    rcases r with r | ⟨p, rfl, r⟩
    · cases r.i_int
      cases h; rfl
    · exact r.elim
  | str s =>
    cases r.i_str
    have h : (if fits s.length = true then Re.ok (s.length != 0) else Re.st) = Re.ok b := h
    split at h
    · rename_i hf
      cases h
      refine ⟨fits_line hf, ?_⟩
      cases s.length <;> rfl
    · cases h
  | list ds =>
    obtain ⟨a, xs, rfl, e, q⟩ := r.i_lst
    cases h
    exact .inl ⟨xs, SqL.of e, by rw [q.empty]⟩
  | tuple ds =>
    obtain ⟨a, xs, rfl, e, q⟩ := r.i_tup
    cases h
    exact .inr (.inl ⟨xs, SqT.of e, by rw [q.empty]⟩)
  | dict es =>
    rcases r.i_dct with ⟨a, kvs, rfl, e, q⟩ | ⟨a, o, ns, rfl, e, q⟩
    · refine .inr (.inr ⟨kvs, e, ?_⟩)
      cases q with
      | nil => cases h; rfl
      | @cons k v kvs d es r1 r2 =>
        cases k with
        | inl i => cases h; rfl
        | inr s => cases h
    · cases q
      cases h
theorem dt_plain (ha : PE X a (tL W fa)) (he : ∀ whole, isTrue a X.env whole = (do let v ← whole; standAt a.pos; holding [v] (truthy v)) := by intro _; rfl) : PT X a (DL.tB W fun ρ => (fa ρ).bind truth) :=
  pt_imp (pt_truth ha he) fun σ H Q ⟨ρ, O, re, h⟩ => goLB re h fun d x H1 re1 _ rx h1 => by
    cases e : truth d with
    | ok b => rw [e] at h1; exact ⟨b, truth_ok e rx, h1.here⟩
    | ex c p =>
      exfalso
      unfold truth at e
      split at e <;> first | cases e | (split at e <;> cases e)
    | st => rw [e] at h1; exact h1.elim
theorem dt_not (ha : PT X a (DL.tB W ga)) : PT X (.UnaryOp .Not a pos) (DL.tB W fun ρ => (ga ρ).bind fun b => .ok (!b)) := pt_imp (pt_not ha) fun σ H Q ⟨ρ, O, re, h⟩ => goBB re h fun b H1 re1 _ h1 => h1.here
def bAnd (ga gb : En → Re Bool) : En → Re Bool := fun ρ => (ga ρ).bind fun b => if b then gb ρ else .ok false
def bOr (ga gb : En → Re Bool) : En → Re Bool := fun ρ => (ga ρ).bind fun b => if b then .ok true else gb ρ
theorem dw_and1 (ha : PT X a (DL.tB W ga)) : PW X (.BoolOp .And [a] pos) (DL.tB W ga) := pw_and1 ha
theorem dw_or1 (ha : PT X a (DL.tB W ga)) : PW X (.BoolOp .Or [a] pos) (DL.tB W ga) := pw_or1 ha
theorem dw_and {rest : List Expr} (ha : PT X a (DL.tB W ga)) (hb : PW X (.BoolOp .And (b :: rest) pos) (DL.tB W gb)) : PW X (.BoolOp .And (a :: b :: rest) pos) (DL.tB W (bAnd ga gb)) :=
  pw_imp (pw_and ha hb) fun σ H Q ⟨ρ, O, re, h⟩ => goBB re h fun k H1 re1 _ h1 => by
    cases k with
    | true => exact iteT ⟨ρ, O, re1, h1⟩
    | false => exact iteF (h1.here)
theorem dw_or {rest : List Expr} (ha : PT X a (DL.tB W ga)) (hb : PW X (.BoolOp .Or (b :: rest) pos) (DL.tB W gb)) : PW X (.BoolOp .Or (a :: b :: rest) pos) (DL.tB W (bOr ga gb)) :=
  pw_imp (pw_or ha hb) fun σ H Q ⟨ρ, O, re, h⟩ => goBB re h fun k H1 re1 _ h1 => by
    cases k with
    | true => exact iteT (h1.here)
    | false => exact iteF ⟨ρ, O, re1, h1⟩
/-! .. as values -/
def eAnd (fa fb : En → Re PyData) : En → Re PyData := fun ρ => (fa ρ).bind fun d => match d with
  | .bool true => fb ρ
  | .bool false => .ok (.bool false)
  | _ => .st
def eOr (fa fb : En → Re PyData) : En → Re PyData := fun ρ => (fa ρ).bind fun d => match d with
  | .bool true => .ok (.bool true)
  | .bool false => fb ρ
  | _ => .st
theorem de_one {op : BoolOp} (h : PE X a (tD W fa)) : PE X (.BoolOp op [a] pos) (tD W fa) := pe_one h
theorem de_and {rest : List Expr} (ha : PE X a (tD W fa)) (hb : PE X (.BoolOp .And (b :: rest) pos) (tD W fb)) : PE X (.BoolOp .And (a :: b :: rest) pos) (tD W (eAnd fa fb)) :=
  pe_imp (pe_and ha hb) fun σ H Q ⟨ρ, O, re, h⟩ => goD re h fun d x H1 re1 _ rx h1 => by
    split at h1
    · cases rx.i_bl; exact ⟨true, rfl, iteT ⟨ρ, O, re1, h1⟩⟩
    · cases rx.i_bl; exact ⟨false, rfl, iteF (h1.here (.bl _))⟩
    · exact h1.elim
theorem de_or {rest : List Expr} (ha : PE X a (tD W fa)) (hb : PE X (.BoolOp .Or (b :: rest) pos) (tD W fb)) : PE X (.BoolOp .Or (a :: b :: rest) pos) (tD W (eOr fa fb)) :=
  pe_imp (L2.pe_or ha hb) fun σ H Q ⟨ρ, O, re, h⟩ => goD re h fun d x H1 re1 _ rx h1 => by
    split at h1
    · cases rx.i_bl; exact ⟨true, rfl, iteT (h1.here (.bl _))⟩
    · cases rx.i_bl; exact ⟨false, rfl, iteF ⟨ρ, O, re1, h1⟩⟩
    · exact h1.elim
def dNot (d : PyData) : Re PyData := (truth d).bind fun b => .ok (.bool (!b))
theorem goLv {g : PyData → Re PyData} {σ : Sg} {O : Ow} {ρ : En} {H : Hp} {Q R : VK} (re : RE O ρ σ H) (h : tR W O ((fa ρ).bind g) σ H Q) (k : ∀ d x H1, RE O ρ σ H1 → Same H H1 → Lk O H1 x d → tR W O (g d) σ H1 Q → R x H1) : tL W fa σ H R := goL re h k
theorem de_not (ha : PE X a (tL W fa)) : PE X (.UnaryOp .Not a pos) (tD W (e1 dNot fa)) := pe_imp (pe_notT ha) fun σ H Q ⟨ρ, O, re, h⟩ => goL re h fun d x H1 re1 _ rx h1 => by
  unfold dNot at h1
  cases e : truth d with
  | ok b => rw [e] at h1; exact ⟨b, truth_ok e rx, tR.here (d := .bool (!b)) h1 (.bl _)⟩
  | ex c p =>
    exfalso
    unfold truth at e
    split at e <;> first | cases e | (split at e <;> cases e)
  | st => rw [e] at h1; exact h1.elim
def eIf (gc : En → Re Bool) (fa fb : En → Re PyData) : En → Re PyData := fun ρ => (gc ρ).bind fun b => if b then fa ρ else fb ρ
theorem de_if {gc : En → Re Bool} (hc : PT X c (DL.tB W gc)) (ha : PE X a (tD W fa)) (hb : PE X b (tD W fb)) : PE X (.IfExp c a b pos) (tD W (eIf gc fa fb)) :=
  pe_imp (pe_ifExp hc ha hb) fun σ H Q ⟨ρ, O, re, h⟩ => goB re h fun k H1 re1 _ h1 => by
    cases k with
    | true => exact iteT ⟨ρ, O, re1, h1⟩
    | false => exact iteF ⟨ρ, O, re1, h1⟩

/-! ## argument lists, displays -/
def aNil : En → Re (List PyData) := fun _ => .ok []
def aCons (fa : En → Re PyData) (fs : En → Re (List PyData)) : En → Re (List PyData) := fun ρ => (fa ρ).bind fun d => (fs ρ).bind fun ds => .ok (d :: ds)
theorem da_nil : PA X [] (tA W aNil) := pa_imp pa_nil fun σ H Q ⟨ρ, O, re, h⟩ => h [] H (Same.refl H) .nil
theorem da_cons {es : List Expr} {fs : En → Re (List PyData)} (ha : PE X a (tD W fa)) (hr : PA X es (tA W fs)) (hs : starEach (a :: es) X.env = (false, eval a X.env) :: starEach es X.env := by rfl) : PA X (a :: es) (tA W (aCons fa fs)) :=
  pa_imp (pa_cons ha hr hs) fun σ H Q ⟨ρ, O, re, h⟩ => goDA re h fun d x H1 re1 _ rx h1 => by
    refine ⟨ρ, O, re1, ?_⟩
    cases e : fs ρ with
    | ok ds =>
      rw [e] at h1
      exact fun vs H2 s2 rs => h1 _ H2 s2 (.cons (rx.kp (.same s2)) rs)
    | ex c p => rw [e] at h1; exact h1
    | st => rw [e] at h1; exact h1
def eTup (fs : En → Re (List PyData)) : En → Re PyData := fun ρ => (fs ρ).bind fun ds => if fits ds.length then .ok (.tuple ds) else .st
def eLst (fs : En → Re (List PyData)) : En → Re PyData := fun ρ => (fs ρ).bind fun ds => if fits ds.length then .ok (.list ds) else .st
theorem de_tup {es : List Expr} {fs : En → Re (List PyData)} {k : Nat} (h : PA X es (tA W fs)) : PE X (.Tuple es k pos) (tD W (eTup fs)) :=
  pe_imp (pe_tup h) fun σ H Q ⟨ρ, O, re, h⟩ => goA re h fun ds xs H1 re1 _ rx h1 => by
    split at h1
    · rename_i hf
      exact ⟨by rw [rx.len]; exact fits_line hf, fun p hp => h1.newT re1 hp rx⟩
    · exact h1.elim
theorem de_lst {es : List Expr} {fs : En → Re (List PyData)} (h : PA X es (tA W fs)) : PE X (.List es pos) (tD W (eLst fs)) :=
  pe_imp (pe_lst h) fun σ H Q ⟨ρ, O, re, h⟩ => goA re h fun ds xs H1 re1 _ rx h1 => by
    split at h1
    · rename_i hf
      exact ⟨by rw [rx.len]; exact fits_line hf, fun p hp => h1.newL re1 hp rx⟩
    · exact h1.elim

/-! ## subscripts -/
def keyB : PyData → PyData → Bool
  | .int i, .int j => i == j
  | .str x, .str y => x == y
  | _, _ => false
def lookD (es : List (PyData × PyData)) (k : PyData) : Option PyData := (es.find? fun e => keyB e.1 k).map (·.2)
def isKey : PyData → Bool
  | .int _ => true
  | .str _ => true
  | _ => false
/-- the script's items -/
def scrOf : List (PyData × PyData) → Option (List PyData)
  | [(.none, .list ds)] => some ds
  | _ => none
theorem RpD.noScr {O : Ow} {H : Hp} {kvs : List (Key × V)} {es : List (PyData × PyData)} (r : RpD O H kvs es) : scrOf es = none := by
  cases r with
  | nil => rfl
  | cons r1 r2 =>
    rename_i k _ _ _ _
    cases k <;> rfl
def dAt (ds : List PyData) : PyData → Re PyData
  | .int i => match atI ds i with
    | some d => .ok d
    | none => .st
  | _ => .st
def dSubs : PyData → PyData → Re PyData
  | .list ds, k => dAt ds k
  | .tuple ds, k => dAt ds k
  | .dict es, k => match scrOf es with
    | some ds => dAt ds k
    | none => match lookD es k with
      | some d => .ok d
      | none => .st
  | _, _ => .st
theorem RpL.atI {O : Ow} {H : Hp} {xs : List V} {ds : List PyData} {i : Int} {d : PyData} (h : RpL O H xs ds) (e : L2.atI ds i = some d) : ∃ v, L2.atI xs i = some v ∧ Rp O H v d := by
  unfold L2.atI at e ⊢
  rw [h.len]
  cases q : ixN ds.length i with
  | none => rw [q] at e; cases e
  | some j =>
    rw [q] at e
    exact h.get e
theorem keyB_key {k : Key} {d : PyData} (h : keyB (keyD k) d = true) : d = keyD k := by
  cases k with
  | inl i =>
    cases d with
    | int j => have := of_decide_eq_true h; subst this; rfl
    | _ => cases h
  | inr x =>
    cases d with
    | str y =>
      have e : x = y := by simpa [keyB, keyD] using h
      subst e; rfl
    | _ => cases h
theorem keyB_iff (k j : Key) : keyB (keyD k) (keyD j) = decide (k = j) := by
  cases k with
  | inl i =>
    cases j with
    | inl i2 => by_cases e : i = i2 <;> simp [keyB, keyD, e]
    | inr x => rfl
  | inr x =>
    cases j with
    | inl i2 => rfl
    | inr y => by_cases e : x = y <;> simp [keyB, keyD, e]
theorem RpD.look {O : Ow} {H : Hp} : ∀ {kvs : List (Key × V)} {es : List (PyData × PyData)} (k : Key), RpD O H kvs es → (∃ v d, valV kvs k = some v ∧ lookD es (keyD k) = some d ∧ Rp O H v d) ∨ (valV kvs k = none ∧ lookD es (keyD k) = none)
  | _, _, _, .nil => .inr ⟨rfl, rfl⟩
  | _, _, j, .cons (k := k) (v := v) (kvs := kvs) (d := d) (es := es) r1 r2 => by
    by_cases e : k = j
    · subst e
      refine .inl ⟨v, d, valV_pos rfl, ?_, r1⟩
      unfold lookD
      rw [List.find?_cons, keyB_iff]
      simp
    · have h1 : valV ((k, v) :: kvs) j = valV kvs j := valV_neg e
      have h2 : lookD ((keyD k, d) :: es) (keyD j) = lookD es (keyD j) := by
        unfold lookD
        rw [List.find?_cons, keyB_iff, decide_eq_false e]
      rw [h1, h2]
      exact RpD.look j r2
theorem lookD_key {O : Ow} {H : Hp} {kvs : List (Key × V)} {es : List (PyData × PyData)} {k d : PyData} (r : RpD O H kvs es) (h : lookD es k = some d) : ∃ j, k = keyD j := by
  unfold lookD at h
  cases q : es.find? fun e => keyB e.1 k with
  | none => rw [q] at h; cases h
  | some e =>
    have hb := List.find?_some q
    cases k with
    | int i => exact ⟨.inl i, rfl⟩
    | str x => exact ⟨.inr x, rfl⟩
    | _ =>
      exfalso
      revert hb
      cases e.1 <;> simp [keyB]
theorem rp_key {O : Ow} {H : Hp} {y : V} {k : Key} (h : Rp O H y (keyD k)) : y = kV k := by
  cases k with
  | inl i => exact h.i_int
  | inr x => exact h.i_str
theorem pe_either {e : Expr} {t u : TE} (h1 : PE X e t) (h2 : PE X e u) : PE X e (fun σ H Q => t σ H Q ∨ u σ H Q) := ⟨fun pins s σ H Q I h => h.elim (h1.run pins s σ H Q I) (h2.run pins s σ H Q I)⟩
theorem goLE {f : En → Re PyData} {g : PyData → Re PyData} {σ : Sg} {O : Ow} {ρ : En} {H : Hp} {Q R : VK} (re : RE O ρ σ H) (h : tR W O ((f ρ).bind g) σ H Q) (k : ∀ d x H1, f ρ = .ok d → RE O ρ σ H1 → Same H H1 → Lk O H1 x d → tR W O (g d) σ H1 Q → R x H1) : tL W f σ H R := by
  refine ⟨ρ, O, re, ?_⟩
  cases e : f ρ with
  | ok d =>
    rw [e] at h
    exact fun v H1 s q => k d v H1 e (re.same s) s q (tR.same h s)
  | ex c p => rw [e] at h; exact h
  | st => rw [e] at h; exact h
/-- is it a dict, not the script -/
def isDct : Re PyData → Bool
  | .ok (.dict es) => (scrOf es).isNone
  | _ => false
theorem Lk.same {O : Ow} {H H' : Hp} {x : V} {d : PyData} (r : Lk O H x d) (s : Same H H') : Lk O H' x d := by
  rcases r with r | ⟨p, e, r⟩
  · exact .inl (r.kp (.same s))
  · exact .inr ⟨p, e, r.same s⟩
theorem dAt_ok {O : Ow} {ρ : En} {σ : Sg} {H : Hp} {Q : VK} {xs : List V} {ds : List PyData} {k : PyData} {y : V} (q : RpL O H xs ds) (ry : Rp O H y k) (h : tR W O (dAt ds k) σ H Q) : ∃ i v, y = .int i ∧ L2.atI xs i = some v ∧ Q v H := by
  cases k with
  | int i =>
    cases ry.i_int
    have h : tR W O (match L2.atI ds i with
      | some d => Re.ok d
      | none => Re.st) σ H Q := h
    split at h
    · rename_i d' hd'
      obtain ⟨v, e1, r⟩ := q.atI hd'
      exact ⟨i, v, rfl, e1, h.here r⟩
    · exact h.elim
  | _ => exact h.elim
theorem de_subs (hu : X.A.units + 1 < cLine) (ha : PE X a (tL W fa)) (hb : PE X b (tD W fb)) (hs : PlainIx b := by intro _ _; rfl) (hn : NoSl b := by intro _ _; rfl) : PE X (.Subscript a b pos) (tD W (e2 dSubs fa fb)) := by
  refine pe_imp (pe_either (pe_ix ix_seq ha hb hs) (pe_dget hu ha hb hn)) fun σ H Q ⟨ρ, O, re, h⟩ => ?_
  cases hd : isDct (fa ρ) with
  | true =>
    refine .inr (goLE re h fun d x H1 e re1 _ rx h1 => goD re1 h1 fun k y H2 re2 s2 ry h2 => ?_)
    rw [e] at hd
    cases d with
    | dict es =>
      have hn : scrOf es = none := Option.isNone_iff_eq_none.mp hd
      unfold dSubs at h2
      simp only [hn] at h2
      rcases (rx.same s2).i_dct with ⟨a, kvs, rfl, ea, q⟩ | ⟨a, o, ns, rfl, ea, q⟩
      · split at h2
        · rename_i dv hl
          obtain ⟨j, rfl⟩ := lookD_key q hl
          cases rp_key ry
          rcases q.look j with ⟨v, d', e1, e2, r⟩ | ⟨_, e2⟩
          · rw [hl] at e2
            cases e2
            exact ⟨a, v, rfl, .inl ⟨kvs, j, .inl ea, rfl, e1.symm⟩, h2.here r⟩
          · rw [hl] at e2; cases e2
        · exact h2.elim
      · cases q; cases hn
    | _ => cases hd
  | false =>
    refine .inl (goLE re h fun d x H1 e re1 _ rx h1 => goD re1 h1 fun k y H2 re2 s2 ry h2 => ?_)
    rw [e] at hd
    have rx2 := rx.same s2
    cases d with
    | list ds =>
      obtain ⟨a, xs, rfl, ea, q⟩ := rx2.i_lst
      obtain ⟨i, v, rfl, e1, r⟩ := dAt_ok (ρ := ρ) q ry h2
      exact .inl ⟨a, xs, _, v, rfl, rfl, SqL.of ea, e1, r⟩
    | tuple ds =>
      obtain ⟨a, xs, rfl, ea, q⟩ := rx2.i_tup
      obtain ⟨i, v, rfl, e1, r⟩ := dAt_ok (ρ := ρ) q ry h2
      exact .inr (.inl ⟨a, xs, _, v, rfl, rfl, SqT.of ea, e1, r⟩)
    | dict es =>
      rcases rx2.i_dct with ⟨a, kvs, rfl, ea, q⟩ | ⟨a, o, ns, rfl, ea, q⟩
      · have hn := q.noScr
        have hd : (scrOf es).isNone = false := hd
        rw [hn] at hd
        cases hd
      · cases q
        obtain ⟨i, v, rfl, e1, r⟩ := dAt_ok (ρ := ρ) (RpL.ofInts (O := O) (H := H2) ns) ry h2
        exact .inl ⟨a, _, _, v, rfl, rfl, .inl (.inr ⟨o, ea⟩), e1, r⟩
    | _ => exact h2.elim
end
end DL

namespace DL
open PySem PySem.Spec L2 PyProof.Rows
section
variable {X : Cx} {W : WX} {a b c : Expr} {fa fb fc : En → Re PyData} {ga gb : En → Re Bool} {pos : Pos}

/-! ## slices -/
def cutD (ds : List PyData) (lo hi : Option Int) : List PyData := (ds.drop (HT.sIx ds.length 0 lo)).take (HT.sIx ds.length ds.length hi - HT.sIx ds.length 0 lo)
theorem RpL.cut {O : Ow} {H : Hp} {xs : List V} {ds : List PyData} (h : RpL O H xs ds) (lo hi : Option Int) : RpL O H (cutV xs lo hi) (cutD ds lo hi) := by
  unfold cutV cutD
  rw [h.len]
  exact (h.drop _).take _
/-- an optional part of a slice -/
def oNone : En → Re (Option Int) := fun _ => .ok none
def oSome (f : En → Re PyData) : En → Re (Option Int) := fun ρ => (f ρ).bind fun d => match d with
  | .int i => .ok (some i)
  | _ => .st
def dSlice (d : PyData) (lo hi : Option Int) : Re PyData := match d with
  | .list ds => .ok (.list (cutD ds lo hi))
  | .tuple ds => .ok (.tuple (cutD ds lo hi))
  | .str x => if fits x.length then .ok (.str (cutS x lo hi)) else .st
  | _ => .st
def eSlice (fa : En → Re PyData) (fl fh : En → Re (Option Int)) : En → Re PyData := fun ρ => (fa ρ).bind fun d => (fl ρ).bind fun lo => (fh ρ).bind fun hi => dSlice d lo hi
/-- a slice's part, read -/
def tRO (W : WX) (O : Ow) (r : Re (Option Int)) (σ : Sg) (H : Hp) (Q : Option Int → Hp → Prop) : Prop := match r with
  | .ok b => ∀ H', Same H H' → Q b H'
  | .ex c p => ∀ H', Same H H' → XW W σ O H' c p
  | .st => False
def tO (W : WX) (f : En → Re (Option Int)) : TO := fun σ H Q => ∃ ρ O, RE O ρ σ H ∧ tRO W O (f ρ) σ H Q
theorem po_imp {e : Option Expr} {t t' : TO} (h : PO X e t) (i : ∀ σ H Q, t' σ H Q → t σ H Q) : PO X e t' := by
  refine ⟨fun pins s σ H Q I q => ?_⟩
  exact h.run pins s σ H Q I (i σ H Q q)
theorem do_none : PO X none (tO W oNone) := po_imp po_none fun σ H Q ⟨ρ, O, re, h⟩ => h H (Same.refl H)
theorem do_some {e : Expr} {f : En → Re PyData} (h : PE X e (tD W f)) : PO X (some e) (tO W (oSome f)) := po_imp (po_some h) fun σ H Q ⟨ρ, O, re, q⟩ => by
  refine ⟨ρ, O, re, ?_⟩
  unfold oSome at q
  cases e : f ρ with
  | ok d =>
    rw [e] at q
    intro v H1 s r
    cases d with
    | int i => cases r.i_int; exact ⟨i, rfl, q H1 s⟩
    | _ => exact q.elim
  | ex c p => rw [e] at q; exact q
  | st => rw [e] at q; exact q
theorem goO {f : En → Re (Option Int)} {g : Option Int → Re PyData} {σ : Sg} {O : Ow} {ρ : En} {H : Hp} {Q : VK} {R : Option Int → Hp → Prop} (re : RE O ρ σ H) (h : tR W O ((f ρ).bind g) σ H Q) (k : ∀ d H1, RE O ρ σ H1 → Same H H1 → tR W O (g d) σ H1 Q → R d H1) : tO W f σ H R := by
  refine ⟨ρ, O, re, ?_⟩
  cases e : f ρ with
  | ok d =>
    rw [e] at h
    exact fun H1 s => k d H1 (re.same s) s (tR.same h s)
  | ex c p => rw [e] at h; exact h
  | st => rw [e] at h; exact h
theorem de_slice {lo hi : Option Expr} {fl fh : En → Re (Option Int)} {p2 : Pos} (ha : PE X a (tL W fa)) (hl : PO X lo (tO W fl)) (hh : PO X hi (tO W fh)) : PE X (.Subscript a (.Slice lo hi none p2) pos) (tD W (eSlice fa fl fh)) :=
  pe_imp (pe_slice (sl_list.or (sl_tupA.or sl_str)) ha hl hh) fun σ H Q ⟨ρ, O, re, h⟩ => goL re h fun d x H1 re1 _ rx h1 => goO re1 h1 fun l H2 re2 s2 h2 => goO re2 h2 fun u H3 re3 s3 h3 => by
    have rx := rx.same (s2.trans s3)
    cases d with
    | list ds =>
      obtain ⟨a, xs, rfl, ea, q⟩ := rx.i_lst
      exact .inl ⟨a, xs, rfl, SqL.of ea, fun p hp => h3.newL re3 hp (q.cut l u)⟩
    | tuple ds =>
      rcases rx with r | ⟨p, e, r⟩
      · obtain ⟨a, xs, rfl, ea, na, q⟩ := r.i_tup
        refine .inr (.inl ⟨a, xs, rfl, SqT.of ea, fun ⟨z1, z2⟩ => ?_, fun _ p hp => h3.newT re3 hp (q.cut l u)⟩)
        have e : cutD ds l u = ds := by
          unfold cutD
          rw [← q.len, z1, z2, List.drop_zero, Nat.sub_zero, q.len, List.take_length]
        have h3 : tR W O (.ok (.tuple (cutD ds l u))) σ H3 Q := h3
        rw [e] at h3
        exact h3.here r
      · exact r.elim
    | str z =>
      cases rx.i_str
      have h3 : tR W O (if fits z.length then .ok (.str (cutS z l u)) else .st) σ H3 Q := h3
      split at h3
      · rename_i hf
        exact .inr (.inr ⟨z, rfl, fits_line hf, h3.here (.str _)⟩)
      · exact h3.elim
    | _ => exact h3.elim
/-- x[::-1] of a list -/
def dRev : PyData → Re PyData
  | .list ds => .ok (.list ds.reverse)
  | _ => .st
theorem de_revL {k : Nat} {p1 p2 p3 : Pos} (ha : PE X a (tL W fa)) : PE X (.Subscript a (.Slice none none (some (.UnaryOp .USub (.Constant (.int 1) k p1) p2)) p3) pos) (tD W (e1 dRev fa)) :=
  pe_imp (pe_revL ha) fun σ H Q ⟨ρ, O, re, h⟩ => goL re h fun d x H1 re1 _ rx h1 => by
    cases d with
    | list ds =>
      obtain ⟨a, xs, rfl, ea, q⟩ := rx.i_lst
      exact ⟨a, xs, rfl, SqL.of ea, fun p hp => h1.newL re1 hp q.rev⟩
    | _ => exact h1.elim

/-! ## in -/
def flatD : PyData → Bool
  | .none => true
  | .bool _ => true
  | .int _ => true
  | .str _ => true
  | _ => false
theorem flat_of {O : Ow} {H : Hp} {x : V} {d : PyData} (r : Rp O H x d) (h : flatD d = true) : flatV x = true := by
  cases r <;> first | rfl | cases h
theorem flats_of {O : Ow} {H : Hp} : ∀ {xs : List V} {ds : List PyData}, RpL O H xs ds → ds.all flatD = true → xs.all flatV = true
  | _, _, .nil, _ => rfl
  | _, _, .cons a b, h => by
    rw [List.all_cons, Bool.and_eq_true] at h ⊢
    exact ⟨flat_of a h.1, flats_of b h.2⟩
theorem eqV_of {O : Ow} {H : Hp} {x y : V} {d e : PyData} (r : Rp O H x d) (q : Rp O H y e) (h : flatD d = true) (h2 : flatD e = true) : eqV x y = PyData.eqv d e := by
  cases r <;> cases q <;> first | rfl | (simp [eqV, PyData.eqv]; done) | cases h | cases h2
theorem inV_of {O : Ow} {H : Hp} {y : V} {e : PyData} (q : Rp O H y e) (h2 : flatD e = true) : ∀ {xs : List V} {ds : List PyData}, RpL O H xs ds → ds.all flatD = true → inV y xs = ds.any fun z => PyData.eqv z e
  | _, _, .nil, _ => rfl
  | _, _, .cons a b, h => by
    rw [List.all_cons, Bool.and_eq_true] at h
    have ih := inV_of q h2 b h.2
    unfold inV at ih ⊢
    rw [List.any_cons, List.any_cons, ih, eqV_of a q h.1 h2]
def dInB (x c : PyData) : Re Bool := match c with
  | .list ds => if flatD x && ds.all flatD then .ok (ds.any fun z => PyData.eqv z x) else .st
  | .tuple ds => if flatD x && ds.all flatD then .ok (ds.any fun z => PyData.eqv z x) else .st
  | .dict es => match scrOf es with
    | some _ => .st
    | none => if isKey x then .ok (lookD es x).isSome else .st
  | _ => .st
def dIn (x c : PyData) : Re PyData := (dInB x c).bind fun b => .ok (.bool b)
def dNotIn (x c : PyData) : Re PyData := (dInB x c).bind fun b => .ok (.bool (!b))
theorem key_of {x : PyData} (h : isKey x = true) : ∃ k, x = keyD k := by
  cases x with
  | int i => exact ⟨.inl i, rfl⟩
  | str s => exact ⟨.inr s, rfl⟩
  | _ => cases h
theorem RpD.isSome {O : Ow} {H : Hp} {kvs : List (Key × V)} {es : List (PyData × PyData)} (q : RpD O H kvs es) (k : Key) : (valV kvs k).isSome = (lookD es (keyD k)).isSome := by
  rcases q.look k with ⟨v, d, e1, e2, _⟩ | ⟨e1, e2⟩
  · rw [e1, e2]; rfl
  · rw [e1, e2]; rfl
/-- what the membership rules ask: the value first, then the container -/
def rInA (K : PySem.W.Frag) (neg : Bool) : R2 := fun x y H Q => rIn K neg x y H Q ∨ (∃ a o, y = .ref a ∧ DGet H a x o ∧ Q (.bl (if neg then !o.isSome else o.isSome)) H)
theorem dIn_ok {K : PySem.W.Frag} {neg : Bool} {O : Ow} {ρ : En} {σ : Sg} {H : Hp} {Q : VK} {x y : V} {d e : PyData} (rx : Rp O H x d) (ry : Lk O H y e) (h : tR W O ((dInB d e).bind fun b => .ok (.bool (if neg then !b else b))) σ H Q) : rInA K neg x y H Q := by
  cases e with
  | list ds =>
    obtain ⟨a, xs, rfl, ea, q⟩ := ry.i_lst
    unfold dInB at h
    dsimp only at h
    split at h
    · rename_i hf
      rw [Bool.and_eq_true] at hf
      refine .inl ⟨a, xs, rfl, .inl (SqL.of ea), flat_of rx hf.1, flats_of q hf.2, ?_⟩
      rw [inV_of rx hf.1 q hf.2]
      exact h.here (.bl _)
    · exact h.elim
  | tuple ds =>
    obtain ⟨a, xs, rfl, ea, q⟩ := ry.i_tup
    unfold dInB at h
    dsimp only at h
    split at h
    · rename_i hf
      rw [Bool.and_eq_true] at hf
      refine .inl ⟨a, xs, rfl, .inr (SqT.of ea), flat_of rx hf.1, flats_of q hf.2, ?_⟩
      rw [inV_of rx hf.1 q hf.2]
      exact h.here (.bl _)
    · exact h.elim
  | dict es =>
    rcases ry.i_dct with ⟨a, kvs, rfl, ea, q⟩ | ⟨a, o, ns, rfl, ea, q⟩
    · unfold dInB at h
      simp only [q.noScr] at h
      split at h
      · rename_i hk
        obtain ⟨k, rfl⟩ := key_of hk
        cases rp_key rx
        refine .inr ⟨a, _, rfl, DGet.k ea, ?_⟩
        rw [q.isSome]
        exact h.here (.bl _)
      · exact h.elim
    · cases q
      exact h.elim
  | _ => exact h.elim
theorem pc_or {op : CmpOp} {t u : TE} (h1 : PC X op a b t) (h2 : PC X op a b u) : PC X op a b (fun σ H Q => t σ H Q ∨ u σ H Q) := ⟨fun pins s σ H Q I h => h.elim (h1.run pins s σ H Q I) (h2.run pins s σ H Q I)⟩
theorem pc_ofR {op : CmpOp} {r : R2} {ta tb : TE} (ho : OpR X (compareOp op) r) (ha : PE X a ta) (hb : PE X b tb) : PC X op a b (tOp r ta tb) := ⟨fun pins s σ H Q I h => bin ha hb I h fun v u s2 x y H2 I2 rx ry q => ho pins s2 σ H2 x y v u Q I2 rx ry q⟩
theorem or_din (hu : X.A.units + 1 < cLine) : OpR X (compareOp .In) (fun x y H Q => ∃ a o, y = .ref a ∧ DGet H a x o ∧ Q (.bl o.isSome) H) := by
  intro pins s σ H x y v u Q I rx ry h
  obtain ⟨a, o, rfl, g, q⟩ := h
  obtain rfl : u = Value.ref a := ry
  exact d_in hu I g rx fun s' I' => ⟨.bl o.isSome, H, I', rfl, q⟩
theorem or_dnin (hu : X.A.units + 1 < cLine) : OpR X (compareOp .NotIn) (fun x y H Q => ∃ a o, y = .ref a ∧ DGet H a x o ∧ Q (.bl (!o.isSome)) H) := by
  intro pins s σ H x y v u Q I rx ry h
  obtain ⟨a, o, rfl, g, q⟩ := h
  obtain rfl : u = Value.ref a := ry
  exact d_notIn hu I g rx fun s' I' => ⟨.bl (!o.isSome), H, I', rfl, q⟩
theorem or_in (hu : X.A.units + 1 < cLine) : OpR X (compareOp .In) (rInA X.K false) := op_in_seq.or (or_din hu)
theorem or_nin (hu : X.A.units + 1 < cLine) : OpR X (compareOp .NotIn) (rInA X.K true) := op_notIn_seq.or (or_dnin hu)
theorem impIn {neg : Bool} {K : PySem.W.Frag} {g : PyData → PyData → Re PyData} (hg : ∀ d e, g d e = (dInB d e).bind fun b => .ok (.bool (if neg then !b else b))) (σ : Sg) (H : Hp) (Q : VK) (h : DL.tD W (e2 g fa fb) σ H Q) : tOp (rInA K neg) (tD W fa) (tL W fb) σ H Q := by
  obtain ⟨ρ, O, re, h⟩ := h
  refine goD re h fun d x H1 re1 _ rx h1 => goL re1 h1 fun e y H2 re2 s2 ry h2 => ?_
  rw [hg] at h2
  exact dIn_ok (ρ := ρ) (rx.kp (.same s2)) ry h2
theorem noIn (b : Expr) (op : CmpOp) (h : ∀ es k p, b ≠ .Set es k p) : behindInMarks op b = false := by
  cases b <;> first | rfl | exact absurd rfl (h _ _ _)
theorem de_in (hu : X.A.units + 1 < cLine) (ha : PE X a (tD W fa)) (hb : PE X b (tL W fb)) (hm : behindInMarks .In b = false := by rfl) : PE X (.Compare a [.In] [b] pos) (tD W (e2 dIn fa fb)) := pe_imp (pe_cmpR (or_in hu) ha hb hm) (impIn fun _ _ => rfl)
theorem de_nin (hu : X.A.units + 1 < cLine) (ha : PE X a (tD W fa)) (hb : PE X b (tL W fb)) (hm : behindInMarks .NotIn b = false := by rfl) : PE X (.Compare a [.NotIn] [b] pos) (tD W (e2 dNotIn fa fb)) := pe_imp (pe_cmpR (or_nin hu) ha hb hm) (impIn fun _ _ => rfl)
theorem dt_in (hu : X.A.units + 1 < cLine) (ha : PE X a (tD W fa)) (hb : PE X b (tL W fb)) (hm : behindInMarks .In b = false := by rfl) : PT X (.Compare a [.In] [b] pos) (DL.tB W (toB (e2 dIn fa fb))) := dt_cmpI (or_in hu) ha hb hm (impIn fun _ _ => rfl)
theorem dt_nin (hu : X.A.units + 1 < cLine) (ha : PE X a (tD W fa)) (hb : PE X b (tL W fb)) (hm : behindInMarks .NotIn b = false := by rfl) : PT X (.Compare a [.NotIn] [b] pos) (DL.tB W (toB (e2 dNotIn fa fb))) := dt_cmpI (or_nin hu) ha hb hm (impIn fun _ _ => rfl)

/-! ## built-in calls -/
def dLen : PyData → Re PyData
  | .list ds => .ok (.int ds.length)
  | .tuple ds => .ok (.int ds.length)
  | .str x => if fits x.length then .ok (.int x.length) else .st
  | .dict es => match scrOf es with
    | some ds => .ok (.int ds.length)
    | none => .st
  | _ => .st
theorem de_len {p : Pos} (hm : X.mg "len" = none) (ha : PE X a (tL W fa)) (hg : Gl X "len" := by rfl) (hs : starEach [a] X.env = (false, eval a X.env) :: starEach [] X.env := by rfl) : PE X (.Call (.Name "len" p) [a] [] pos) (tD W (e1 dLen fa)) :=
  pe_imp (pe_callB call_len hg hm PySem.boot_len (pa_cons ha pa_nil hs) (he := hs)) fun σ H Q ⟨ρ, O, re, h⟩ => goL re h fun d x H1 re1 _ rx h1 => by
    cases d with
    | list ds =>
      obtain ⟨a, xs, rfl, ea, q⟩ := rx.i_lst
      exact ⟨_, ds.length, rfl, .inl ⟨xs, SqL.of ea, q.len.symm⟩, tR.here (d := .int ds.length) h1 (.int _)⟩
    | tuple ds =>
      obtain ⟨a, xs, rfl, ea, q⟩ := rx.i_tup
      exact ⟨_, ds.length, rfl, .inr ⟨xs, SqT.of ea, q.len.symm⟩, tR.here (d := .int ds.length) h1 (.int _)⟩
    | str z =>
      cases rx.i_str
      have h1 : tR W O (if fits z.length then .ok (.int z.length) else .st) σ H1 Q := h1
      split at h1
      · rename_i hf
        exact ⟨_, _, rfl, ⟨fits_line hf, rfl⟩, h1.here (.int _)⟩
      · exact h1.elim
    | dict es =>
      rcases rx.i_dct with ⟨a, kvs, rfl, ea, q⟩ | ⟨a, o, ns, rfl, ea, q⟩
      · exfalso
        unfold dLen at h1
        simp only [q.noScr] at h1
        exact h1
      · cases q
        have h1 : tR W O (.ok (.int ((ns.map PyData.int).length : Nat))) σ H1 Q := h1
        exact ⟨_, _, rfl, .inl ⟨_, .inl (.inr ⟨o, ea⟩), by rw [List.length_map, List.length_map]⟩, h1.here (.int _)⟩
    | _ => exact h1.elim
/-! isinstance of a built-in class -/
inductive Ty where
  | int | bool | tup | lst | str
def Ty.nm : Ty → String
  | .int => "int"
  | .bool => "bool"
  | .tup => "tuple"
  | .lst => "list"
  | .str => "str"
def isTy : Ty → PyData → Bool
  | .int, .int _ => true
  | .int, .bool _ => true
  | .bool, .bool _ => true
  | .tup, .tuple _ => true
  | .lst, .list _ => true
  | .str, .str _ => true
  | _, _ => false
def dIsi (t : Ty) : PyData → Re PyData
  | .dict _ => .st
  | d => .ok (.bool (isTy t d))
theorem isi_all : ∀ (t : Ty), kitB "NoneType" t.nm = some false ∧ kitB "bool" t.nm = some (isTy t (.bool true)) ∧ kitB "int" t.nm = some (isTy t (.int 0)) ∧ kitB "str" t.nm = some (isTy t (.str ⟨#[]⟩)) ∧ kitB "list" t.nm = some (isTy t (.list [])) ∧ kitB "tuple" t.nm = some (isTy t (.tuple []))
  | .int => by decide +kernel
  | .bool => by decide +kernel
  | .tup => by decide +kernel
  | .lst => by decide +kernel
  | .str => by decide +kernel
theorem de_isi (t : Ty) {x : Str} {p p2 : Pos} (hm : X.mg "isinstance" = none) (hmt : X.mg x = none) (ha : PE X a (tD W fa)) (hv : bootBuiltins x = some (.type t.nm)) (hn : x ≠ "__name__") (hd : (x == ("__debug__" : Str)) = false) (hg : Gl X "isinstance" := by rfl) (hgt : Gl X x := by rfl)
    (hs : starEach [a, .Name x p2] X.env = (false, eval a X.env) :: starEach [.Name x p2] X.env := by rfl) (hs2 : starEach [.Name x p2] X.env = (false, eval (.Name x p2) X.env) :: starEach [] X.env := by rfl) (hb : bootBuiltins "isinstance" = some (.builtin "isinstance") := by decide +kernel) (hpl : (backTo pos (starEach [.Name x p2] X.env)).any (·.1) = false := by rfl) :
    PE X (.Call (.Name "isinstance" p) [a, .Name x p2] [] pos) (tD W (e1 (dIsi t) fa)) :=
  pe_imp (pe_callB call_isi hg hm hb (pa_cons ha (pa_cons (pe_bltn (v := .ty t.nm) hgt hmt hv rfl hn hd) pa_nil hs2) hs) (he := hs) (hpl := hpl)) fun σ H Q ⟨ρ, O, re, h⟩ => goD re h fun d x H1 re1 _ rx h1 => by
    obtain ⟨k1, k2, k3, k4, k5, k6⟩ := isi_all t
    cases d with
    | none => cases rx.i_non; exact ⟨_, _, _, _, _, rfl, .ty _, .base .non, kit_ty k1, by cases t <;> exact h1.here (.bl _)⟩
    | bool b => cases rx.i_bl; exact ⟨_, _, _, _, _, rfl, .ty _, .base (.bl _), kit_ty k2, by cases t <;> exact h1.here (.bl _)⟩
    | int b => cases rx.i_int; exact ⟨_, _, _, _, _, rfl, .ty _, .base (.int _), kit_ty k3, by cases t <;> exact h1.here (.bl _)⟩
    | str b => cases rx.i_str; exact ⟨_, _, _, _, _, rfl, .ty _, .base (.str _), kit_ty k4, by cases t <;> exact h1.here (.bl _)⟩
    | list ds =>
      obtain ⟨a, xs, rfl, ea, _, q⟩ := rx.i_lst
      exact ⟨_, _, _, _, _, rfl, .ty _, .base (.lst ea), kit_ty k5, by cases t <;> exact h1.here (.bl _)⟩
    | tuple ds =>
      obtain ⟨a, xs, rfl, ea, _, q⟩ := rx.i_tup
      exact ⟨_, _, _, _, _, rfl, .ty _, .base (.tup ea), kit_ty k6, by cases t <;> exact h1.here (.bl _)⟩
    | dict es => exact h1.elim
end
end DL

namespace DL
open PySem PySem.Spec L2 PyProof.Rows

/-! ## own calls -/
/-- a def's wish about an exception -/
def XQ (E : XK) (O : Ow) (H : Hp) (c : Value) : Option PyData → Prop
  | none => E c none H
  | some d => ∀ a v, H a = some (.xd [("line", v)]) → Rp O H v d → E c (some a) H
/-- a def's promise by a function on data -/
def DSp (n : Nat) (g : List PyData → Re PyData) : Sp := fun vs H Q E => ∃ ds O, vs.length = n ∧ (∀ a, O a → H a ≠ none) ∧ RpL O H vs ds ∧ match g ds with
  | .ok d => ∀ v H', Same H H' → Rp O H' v d → Q v H'
  | .ex c p => ∀ H', Same H H' → XQ E O H' c p
  | .st => False
section
variable {X : Cx} {W : WX} {a b c : Expr} {fa fb fc : En → Re PyData} {ga gb : En → Re Bool} {pos : Pos}
def eCall (g : List PyData → Re PyData) (fs : En → Re (List PyData)) : En → Re PyData := fun ρ => (fs ρ).bind g
theorem de_call {k n : Nat} {f : Addr} {fd : FuncData} {ps : List Str} {g : List PyData → Re PyData} {x : Str} {p : Pos} {e : Expr} {es : List Expr} {fs : En → Re (List PyData)} (F : FnOk X.prog X.w X.K X.mg X.base (L2.CX X.prog X.w) k f fd ps (DSp n g)) (hl : ∀ ds, g ds ≠ .st → ds.length = n)
    (hr : Room k X.A) (hm : X.mg x = some (.ref f)) (hk : PySem.W.keepIn X.K (.ref f) = true) (hb : Binds X.K fd ps []) (tk : Takes X W) (ha : PA X (e :: es) (tA W fs)) (hg : Gl X x := by rfl) (hdb : (x == ("__debug__" : Str)) = false := by decide)
    (he : starEach (e :: es) X.env = (false, eval e X.env) :: starEach es X.env := by rfl) (hpl : (backTo pos (starEach es X.env)).any (·.1) = false := by rfl) :
    PE X (.Call (.Name x p) (e :: es) [] pos) (tD W (eCall g fs)) :=
  pe_imp (pe_callS F hr hg hm hk hb (passAt tk) ha hdb he hpl) fun σ H Q ⟨ρ, O, re, h⟩ => goA re h fun ds xs H1 re1 _ rx h1 => by
    refine ⟨ds, O, ?_, re1.dom, rx, ?_⟩
    · rw [rx.len]
      refine hl ds fun z => ?_
      rw [z] at h1
      exact h1
    · cases e : g ds with
      | ok d => rw [e] at h1; exact h1
      | ex c p =>
        rw [e] at h1
        intro H' s
        have := h1 H' s
        cases p <;> exact this
      | st => rw [e] at h1; exact h1.elim
end

/-! ## the slots as a statement sees them -/
def Os (ρ : En) (σ : Sg) : Ow := fun p => ∃ (i : Nat) (d : PyData), ρ[i]? = some (.ow d) ∧ σ[i]? = some (some (.ref p))
def Oa (O0 : Ow) (ρ : En) (σ : Sg) : Ow := fun p => O0 p ∨ Os ρ σ p
structure RS (H0 : Hp) (O0 : Ow) (ρ : En) (σ : Sg) (H : Hp) : Prop where
  len : σ.length = ρ.length
  same : Same H0 H
  re : RE (Oa O0 ρ σ) ρ σ H
  fresh : ∀ (i : Nat) (d : PyData) (p : Addr), ρ[i]? = some (.ow d) → σ[i]? = some (some (.ref p)) → H0 p = none
  inj : ∀ (i j : Nat) (d e : PyData) (p : Addr), ρ[i]? = some (.ow d) → ρ[j]? = some (.ow e) → σ[i]? = some (some (.ref p)) → σ[j]? = some (some (.ref p)) → i = j
  dom0 : ∀ a, O0 a → H0 a ≠ none
section
variable {H0 : Hp} {O0 : Ow} {ρ : En} {σ : Sg} {H H' : Hp}
theorem RS.heap (r : RS H0 O0 ρ σ H) (s : Same H H') : RS H0 O0 ρ σ H' := ⟨r.len, r.same.trans s, r.re.same s, r.fresh, r.inj, r.dom0⟩
/-- the slots hold less -/
theorem RS.weak {ρ' : En} (r : RS H0 O0 ρ σ H) (hl : ρ'.length = ρ.length) (h : ∀ (i : Nat) (s : Sl), ρ'[i]? = some s → ρ[i]? = some s ∨ s = .no ∨ ∃ d, s = .va d ∧ ρ[i]? = some (.ow d)) : RS H0 O0 ρ' σ H := by
  have own : ∀ (i : Nat) (d : PyData), ρ'[i]? = some (.ow d) → ρ[i]? = some (.ow d) := fun i d e => by
    rcases h i _ e with q | q | ⟨d', q, _⟩
    · exact q
    · cases q
    · cases q
  have sub : ∀ p, Oa O0 ρ' σ p → Oa O0 ρ σ p := fun p o => by
    rcases o with o | ⟨i, d, e1, e2⟩
    · exact .inl o
    · exact .inr ⟨i, d, own i d e1, e2⟩
  have k : Kp (Oa O0 ρ σ) H (Oa O0 ρ' σ) H := fun a o e n => ⟨e, fun z => n (sub a z)⟩
  refine ⟨r.len.trans hl.symm, r.same, ⟨r.len.trans hl.symm, fun a o => r.re.dom a (sub a o), fun i s e => ?_⟩, fun i d p e1 e2 => r.fresh i d p (own i d e1) e2, fun i j d e p e1 e2 e3 e4 => r.inj i j d e p (own i d e1) (own j e e2) e3 e4, r.dom0⟩
  rcases h i s e with q | q | ⟨d, q, q2⟩
  · have z := r.re.at_ i s q
    cases s with
    | no => trivial
    | va d => obtain ⟨x, e1, e2⟩ := z; exact ⟨x, e1, e2.kp k⟩
    | ow d =>
      obtain ⟨p, e1, o, e2⟩ := z
      refine ⟨p, e1, .inr ⟨i, d, e, e1⟩, ?_⟩
      cases d with
      | list ds => obtain ⟨xs, f1, f2⟩ := e2; exact ⟨xs, f1, f2.kp k⟩
      | dict es => obtain ⟨xs, f1, f2⟩ := e2; exact ⟨xs, f1, f2.kp k⟩
      | _ => exact e2
    | ex c p => trivial
  · subst q; trivial
  · subst q
    obtain ⟨p, e1, o, e2⟩ := r.re.at_ i _ q2
    refine ⟨.ref p, e1, ?_⟩
    have no : ¬ Oa O0 ρ' σ p := fun z => by
      rcases z with z | ⟨j, d', f1, f2⟩
      · exact r.dom0 p z (r.fresh i d p q2 e1)
      · have := r.inj i j d d' p q2 (own j d' f1) e1 f2
        subst this
        rw [e] at f1; cases f1
    cases d with
    | list ds => obtain ⟨xs, f1, f2⟩ := e2; exact .lst f1 no (f2.kp k)
    | dict es => obtain ⟨xs, f1, f2⟩ := e2; exact .dct f1 no (f2.kp k)
    | _ => exact e2.elim
/-- ghosts: what was written is now only read; a slot is forgotten -/
def frz (i : Nat) (ρ : En) : En := match ρ[i]? with
  | some (.ow d) => ρ.set i (.va d)
  | _ => ρ
def fgt (l : List Nat) (ρ : En) : En := l.foldl (fun r i => r.set i .no) ρ
theorem RS.frz (r : RS H0 O0 ρ σ H) (i : Nat) : RS H0 O0 (DL.frz i ρ) σ H := by
  unfold DL.frz
  split
  · rename_i d e
    refine r.weak (by simp) fun j s q => ?_
    by_cases hj : i = j
    · subst hj
      rw [List.getElem?_set_self (List.getElem?_eq_some_iff.mp e).1] at q
      cases q
      exact .inr (.inr ⟨d, rfl, e⟩)
    · rw [List.getElem?_set_ne hj] at q
      exact .inl q
  · exact r
theorem RS.no (r : RS H0 O0 ρ σ H) (i : Nat) : RS H0 O0 (ρ.set i .no) σ H := r.weak (by simp) fun j s q => by
  by_cases hj : i = j
  · subst hj
    by_cases hi : i < ρ.length
    · rw [List.getElem?_set_self hi] at q; cases q; exact .inr (.inl rfl)
    · rw [List.getElem?_eq_none (by simpa using hi)] at q; cases q
  · rw [List.getElem?_set_ne hj] at q; exact .inl q
theorem RS.fgt : ∀ (l : List Nat) {ρ : En}, RS H0 O0 ρ σ H → RS H0 O0 (DL.fgt l ρ) σ H
  | [], _, r => r
  | i :: l, _, r => RS.fgt l (r.no i)
/-- a slot is set to a value -/
theorem RS.setV {i : Nat} {v : V} {d : PyData} (r : RS H0 O0 ρ σ H) (hv : Rp (Oa O0 ρ σ) H v d) : RS H0 O0 (ρ.set i (.va d)) (σ.set i (some v)) H := by
  have own : ∀ (j : Nat) (e : PyData), (ρ.set i (.va d))[j]? = some (.ow e) → j ≠ i ∧ ρ[j]? = some (.ow e) := fun j e q => by
    by_cases hj : i = j
    · subst hj
      by_cases hi : i < ρ.length
      · rw [List.getElem?_set_self hi] at q; cases q
      · rw [List.getElem?_eq_none (by simpa using hi)] at q; cases q
    · rw [List.getElem?_set_ne hj] at q; exact ⟨fun z => hj z.symm, q⟩
  have sub : ∀ p, Oa O0 (ρ.set i (.va d)) (σ.set i (some v)) p → Oa O0 ρ σ p := fun p o => by
    rcases o with o | ⟨j, e, e1, e2⟩
    · exact .inl o
    · obtain ⟨n, e1⟩ := own j e e1
      rw [List.getElem?_set_ne (Ne.symm n)] at e2
      exact .inr ⟨j, e, e1, e2⟩
  have k : Kp (Oa O0 ρ σ) H (Oa O0 (ρ.set i (.va d)) (σ.set i (some v))) H := fun a o e n => ⟨e, fun z => n (sub a z)⟩
  refine ⟨by simpa using r.len, r.same, ⟨by simpa using r.len, fun a o => r.re.dom a (sub a o), fun j s e => ?_⟩, fun j e p e1 e2 => ?_, fun j l e g p e1 e2 e3 e4 => ?_, r.dom0⟩
  · by_cases hj : i = j
    · subst hj
      by_cases hi : i < ρ.length
      · rw [List.getElem?_set_self hi] at e; cases e
        exact ⟨v, by rw [List.getElem?_set_self (by rw [r.len]; exact hi)], hv.kp k⟩
      · rw [List.getElem?_eq_none (by simpa using hi)] at e; cases e
    · rw [List.getElem?_set_ne hj] at e
      rw [List.getElem?_set_ne hj]
      have z := r.re.at_ j s e
      cases s with
      | no => trivial
      | va d' => obtain ⟨x, e1, e2⟩ := z; exact ⟨x, e1, e2.kp k⟩
      | ow d' =>
        obtain ⟨p, e1, o, e2⟩ := z
        refine ⟨p, e1, .inr ⟨j, d', by rw [List.getElem?_set_ne hj]; exact e, by rw [List.getElem?_set_ne hj]; exact e1⟩, ?_⟩
        cases d' with
        | list ds => obtain ⟨xs, f1, f2⟩ := e2; exact ⟨xs, f1, f2.kp k⟩
        | dict es => obtain ⟨xs, f1, f2⟩ := e2; exact ⟨xs, f1, f2.kp k⟩
        | _ => exact e2
      | ex c p => trivial
  · obtain ⟨n, e1⟩ := own j e e1
    rw [List.getElem?_set_ne (Ne.symm n)] at e2
    exact r.fresh j e p e1 e2
  · obtain ⟨n, e1⟩ := own j e e1
    obtain ⟨m, e2⟩ := own l g e2
    rw [List.getElem?_set_ne (Ne.symm n)] at e3
    rw [List.getElem?_set_ne (Ne.symm m)] at e4
    exact r.inj j l e g p e1 e2 e3 e4
/-- a slot is set to a new thing that is written from now on; or a thing that is written is written: new says what stands at p now -/
theorem RS.setO {i : Nat} {p : Addr} {d : PyData} {O1 : Ow} (r : RS H0 O0 ρ σ H) (hp : H0 p = none) (hH : ∀ b o, b ≠ p → H b = some o → H' b = some o) (hH' : H' p ≠ none)
    (hO : ∀ a, O1 a ↔ (Oa O0 (ρ.set i .no) σ a ∨ a = p)) (old : ∀ (j : Nat) (e : PyData), j ≠ i → ρ[j]? = some (.ow e) → σ[j]? ≠ some (some (.ref p)))
    (apart : ∀ a o, H a = some o → ¬ Oa O0 ρ σ a → a ≠ p) (new : OwR O1 H' p d) (hi : i < ρ.length) : RS H0 O0 (ρ.set i (.ow d)) (σ.set i (some (.ref p))) H' := by
  have hiσ : i < σ.length := by rw [r.len]; exact hi
  have own : ∀ (j : Nat) (e : PyData), (ρ.set i (.ow d))[j]? = some (.ow e) → (j = i ∧ e = d) ∨ (j ≠ i ∧ ρ[j]? = some (.ow e)) := fun j e q => by
    by_cases hj : i = j
    · subst hj
      rw [List.getElem?_set_self hi] at q; cases q
      exact .inl ⟨rfl, rfl⟩
    · rw [List.getElem?_set_ne hj] at q; exact .inr ⟨fun z => hj z.symm, q⟩
  have eqO : ∀ a, Oa O0 (ρ.set i (.ow d)) (σ.set i (some (.ref p))) a ↔ O1 a := fun a => by
    rw [hO]
    constructor
    · rintro (o | ⟨j, e, e1, e2⟩)
      · exact .inl (.inl o)
      · rcases own j e e1 with ⟨rfl, rfl⟩ | ⟨n, e1⟩
        · rw [List.getElem?_set_self hiσ] at e2; cases e2; exact .inr rfl
        · rw [List.getElem?_set_ne (Ne.symm n)] at e2
          exact .inl (.inr ⟨j, e, by rw [List.getElem?_set_ne (Ne.symm n)]; exact e1, e2⟩)
    · rintro ((o | ⟨j, e, e1, e2⟩) | rfl)
      · exact .inl o
      · have n : i ≠ j := fun z => by subst z; rw [List.getElem?_set_self hi] at e1; cases e1
        rw [List.getElem?_set_ne n] at e1
        exact .inr ⟨j, e, by rw [List.getElem?_set_ne n]; exact e1, by rw [List.getElem?_set_ne n]; exact e2⟩
      · exact .inr ⟨i, d, List.getElem?_set_self hi, List.getElem?_set_self hiσ⟩
  have sub : ∀ a, Oa O0 (ρ.set i .no) σ a → Oa O0 ρ σ a := fun a o => by
    rcases o with o | ⟨j, e, e1, e2⟩
    · exact .inl o
    · have n : i ≠ j := fun z => by subst z; rw [List.getElem?_set_self hi] at e1; cases e1
      rw [List.getElem?_set_ne n] at e1
      exact .inr ⟨j, e, e1, e2⟩
  have k : Kp (Oa O0 ρ σ) H (Oa O0 (ρ.set i (.ow d)) (σ.set i (some (.ref p)))) H' := fun a o e n => by
    refine ⟨hH a o (apart a o e n) e, fun z => ?_⟩
    rcases (hO a).mp ((eqO a).mp z) with z | rfl
    · exact n (sub a z)
    · exact apart _ o e n rfl
  have Oeq : Oa O0 (ρ.set i (.ow d)) (σ.set i (some (.ref p))) = O1 := funext fun a => propext (eqO a)
  refine ⟨by simpa using r.len, fun b o e => ?_, ⟨by simpa using r.len, fun a o => ?_, fun j s e => ?_⟩, fun j e q e1 e2 => ?_, fun j l e g q e1 e2 e3 e4 => ?_, r.dom0⟩
  · have n : b ≠ p := fun z => by rw [z, hp] at e; cases e
    exact hH b o n (r.same b o e)
  · rcases (hO a).mp ((eqO a).mp o) with z | rfl
    · have := r.re.dom a (sub a z)
      cases q : H a with
      | none => exact absurd q this
      | some o' =>
        by_cases e : a = p
        · subst e; exact hH'
        · rw [hH a o' e q]; exact fun z => nomatch z
    · exact hH'
  · by_cases hj : i = j
    · subst hj
      rw [List.getElem?_set_self hi] at e; cases e
      refine ⟨p, List.getElem?_set_self hiσ, ?_, by rw [Oeq]; exact new⟩
      rw [Oeq]; exact (hO p).mpr (.inr rfl)
    · rw [List.getElem?_set_ne hj] at e
      rw [List.getElem?_set_ne hj]
      have z := r.re.at_ j s e
      cases s with
      | no => trivial
      | va d' => obtain ⟨x, e1, e2⟩ := z; exact ⟨x, e1, e2.kp k⟩
      | ow d' =>
        obtain ⟨q, e1, o, e2⟩ := z
        have nq : q ≠ p := fun z => old j d' (Ne.symm hj) e (by rw [e1, z])
        refine ⟨q, e1, .inr ⟨j, d', by rw [List.getElem?_set_ne hj]; exact e, by rw [List.getElem?_set_ne hj]; exact e1⟩, ?_⟩
        cases d' with
        | list ds => obtain ⟨xs, f1, f2⟩ := e2; exact ⟨xs, hH _ _ nq f1, f2.kp k⟩
        | dict es => obtain ⟨xs, f1, f2⟩ := e2; exact ⟨xs, hH _ _ nq f1, f2.kp k⟩
        | _ => exact e2
      | ex c p => trivial
  · rcases own j e e1 with ⟨rfl, rfl⟩ | ⟨n, e1⟩
    · rw [List.getElem?_set_self hiσ] at e2; cases e2; exact hp
    · rw [List.getElem?_set_ne (Ne.symm n)] at e2
      exact r.fresh j e q e1 e2
  · rcases own j e e1 with ⟨rfl, rfl⟩ | ⟨n, e1⟩
    · rw [List.getElem?_set_self hiσ] at e3; cases e3
      rcases own l g e2 with ⟨rfl, rfl⟩ | ⟨m, e2⟩
      · rfl
      · rw [List.getElem?_set_ne (Ne.symm m)] at e4
        exact absurd e4 (old l g m e2)
    · rw [List.getElem?_set_ne (Ne.symm n)] at e3
      have e1' := e1
      rcases own l g e2 with ⟨hl, hg⟩ | ⟨m, e2⟩
      · rw [hl, List.getElem?_set_self hiσ] at e4; cases e4
        exact absurd e3 (old j e n e1')
      · rw [List.getElem?_set_ne (Ne.symm m)] at e4
        exact r.inj j l e g q e1 e2 e3 e4
end

/-! ## what a statement comes to -/
inductive SR where
  | nx (ρ : En)
  | rt (d : PyData)
  | ex (c : Value) (p : Option PyData) (ρ : En)
  | st
def tS (W : WX) (H0 : Hp) (O0 : Ow) (r : SR) (D : Ends) : Prop := match r with
  | .nx ρ => ∀ σ H, RS H0 O0 ρ σ H → D.nx σ H
  | .rt d => ∀ v H, Same H0 H → Rp O0 H v d → D.rt v H
  | .ex c p ρ => ∀ σ H, RS H0 O0 ρ σ H → XW W σ (Oa O0 ρ σ) H c p
  | .st => False
def sD (W : WX) (f : En → SR) : TS := fun D σ H => ∃ ρ H0 O0, RS H0 O0 ρ σ H ∧ tS W H0 O0 (f ρ) D
/-- an expression's value, then a statement's end -/
def SR.of {α : Type} (r : Re α) (ρ : En) (k : α → SR) : SR := match r with
  | .ok a => k a
  | .ex c p => .ex c p ρ
  | .st => .st
@[simp] theorem SR.of_ok {α : Type} (a : α) (ρ : En) (k : α → SR) : SR.of (.ok a) ρ k = k a := id rfl
@[simp] theorem SR.of_ex {α : Type} (c : Value) (p : Option PyData) (ρ : En) (k : α → SR) : SR.of (.ex c p) ρ k = .ex c p ρ := id rfl
@[simp] theorem SR.of_st {α : Type} (ρ : En) (k : α → SR) : SR.of .st ρ k = .st := id rfl
section
variable {X : Cx} {W : WX} {a b c e : Expr} {fa fb fc fe : En → Re PyData} {ga gb : En → Re Bool} {pos pos' : Pos} {H0 : Hp} {O0 : Ow} {ρ : En} {σ : Sg} {H : Hp} {D : Ends}
theorem goS {k : PyData → SR} {R : VK} (rs : RS H0 O0 ρ σ H) (h : tS W H0 O0 (SR.of (fe ρ) ρ k) D) (q : ∀ d v H1, RS H0 O0 ρ σ H1 → Rp (Oa O0 ρ σ) H1 v d → tS W H0 O0 (k d) D → R v H1) : tD W fe σ H R := by
  refine ⟨ρ, _, rs.re, ?_⟩
  cases e : fe ρ with
  | ok d => rw [e] at h; exact fun v H1 s r => q d v H1 (rs.heap s) r h
  | ex c p => rw [e] at h; exact fun H1 s => h σ H1 (rs.heap s)
  | st => rw [e] at h; exact h
theorem goSB {k : Bool → SR} {R : Bool → Hp → Prop} (rs : RS H0 O0 ρ σ H) (h : tS W H0 O0 (SR.of (ga ρ) ρ k) D) (q : ∀ b H1, RS H0 O0 ρ σ H1 → tS W H0 O0 (k b) D → R b H1) : DL.tB W ga σ H R := by
  refine ⟨ρ, _, rs.re, ?_⟩
  cases e : ga ρ with
  | ok d => rw [e] at h; exact fun H1 s => q d H1 (rs.heap s) h
  | ex c p => rw [e] at h; exact fun H1 s => h σ H1 (rs.heap s)
  | st => rw [e] at h; exact h
/-! ### blocks -/
def sSeq (f g : En → SR) : En → SR := fun ρ => match f ρ with
  | .nx ρ' => g ρ'
  | r => r
theorem tSeq_imp {f g : En → SR} (D : Ends) (σ : Sg) (H : Hp) (h : sD W (sSeq f g) D σ H) : tSeq (sD W f) (sD W g) D σ H := by
  obtain ⟨ρ, H0, O0, rs, h⟩ := h
  refine ⟨ρ, H0, O0, rs, ?_⟩
  unfold sSeq at h
  cases e : f ρ with
  | nx ρ' => rw [e] at h; exact fun σ' H' rs' => ⟨ρ', H0, O0, rs', h⟩
  | rt d => rw [e] at h; exact h
  | ex c p ρ' => rw [e] at h; exact h
  | st => rw [e] at h; exact h
theorem dss_cons {s : Stmt} {ss : List Stmt} {f g : En → SR} (h1 : PS X s (sD W f)) (h2 : PSs X ss (sD W g)) : PSs X (s :: ss) (sD W (sSeq f g)) := pss_imp (pss_cons h1 h2) tSeq_imp
theorem dss_one {s : Stmt} {f : En → SR} (h1 : PS X s (sD W f)) : PSs X [s] (sD W f) := pss_one h1
def sSkip : En → SR := fun ρ => .nx ρ
theorem dss_nil : PSs X [] (sD W sSkip) := pss_imp pss_nil fun D σ H ⟨ρ, H0, O0, rs, h⟩ => h σ H rs
/-- a block that is never reached -/
def sStuck : En → SR := fun _ => .st
theorem dss_never {ss : List Stmt} : PSs X ss (sD W sStuck) := pss_imp pss_never fun D σ H ⟨ρ, H0, O0, rs, h⟩ => h
theorem ds_never {s : Stmt} : PS X s (sD W sStuck) := ps_imp ps_never fun D σ H ⟨ρ, H0, O0, rs, h⟩ => h
theorem ds_pass : PS X (.Pass pos) (sD W sSkip) := ps_imp ps_pass fun D σ H ⟨ρ, H0, O0, rs, h⟩ => h σ H rs
/-- ghosts ahead -/
theorem dss_frz (i : Nat) {ss : List Stmt} {f : En → SR} (h : PSs X ss (sD W f)) : PSs X ss (sD W fun ρ => f (frz i ρ)) := pss_imp h fun D σ H ⟨ρ, H0, O0, rs, h⟩ => ⟨_, H0, O0, rs.frz i, h⟩
theorem dss_fgt (l : List Nat) {ss : List Stmt} {f : En → SR} (h : PSs X ss (sD W f)) : PSs X ss (sD W fun ρ => f (fgt l ρ)) := pss_imp h fun D σ H ⟨ρ, H0, O0, rs, h⟩ => ⟨_, H0, O0, RS.fgt l rs, h⟩
theorem ds_frz (i : Nat) {s : Stmt} {f : En → SR} (h : PS X s (sD W f)) : PS X s (sD W fun ρ => f (frz i ρ)) := ps_imp h fun D σ H ⟨ρ, H0, O0, rs, h⟩ => ⟨_, H0, O0, rs.frz i, h⟩
/-- ghosts behind -/
def sFgt (l : List Nat) (f : En → SR) : En → SR := fun ρ => match f ρ with
  | .nx ρ' => .nx (fgt l ρ')
  | r => r
theorem dss_fgtB (l : List Nat) {ss : List Stmt} {f : En → SR} (h : PSs X ss (sD W f)) : PSs X ss (sD W (sFgt l f)) := pss_imp h fun D σ H ⟨ρ, H0, O0, rs, h⟩ => ⟨ρ, H0, O0, rs, by
  unfold sFgt at h
  cases e : f ρ with
  | nx ρ' => rw [e] at h; exact fun σ' H' rs' => h σ' H' (RS.fgt l rs')
  | rt d => rw [e] at h; exact h
  | ex c p ρ' => rw [e] at h; exact h
  | st => rw [e] at h; exact h⟩
theorem ds_fgtB (l : List Nat) {s : Stmt} {f : En → SR} (h : PS X s (sD W f)) : PS X s (sD W (sFgt l f)) := ps_imp h fun D σ H ⟨ρ, H0, O0, rs, h⟩ => ⟨ρ, H0, O0, rs, by
  unfold sFgt at h
  cases e : f ρ with
  | nx ρ' => rw [e] at h; exact fun σ' H' rs' => h σ' H' (RS.fgt l rs')
  | rt d => rw [e] at h; exact h
  | ex c p ρ' => rw [e] at h; exact h
  | st => rw [e] at h; exact h⟩
/-! ### small statements -/
def sExpr (fe : En → Re PyData) : En → SR := fun ρ => SR.of (fe ρ) ρ fun _ => .nx ρ
theorem ds_expr (he : PE X e (tD W fe)) (hs : swapsWith e none pos.line X.env = pure false := by rfl) : PS X (.Expr e pos) (sD W (sExpr fe)) := ps_imp (ps_expr he hs) fun D σ H ⟨ρ, H0, O0, rs, h⟩ => goS rs h fun d v H1 rs1 _ h1 => h1 σ H1 rs1
def sRet (fe : En → Re PyData) : En → SR := fun ρ => SR.of (fe ρ) ρ .rt
theorem Rp.out {d : PyData} {v : V} (h : Rp (Oa O0 ρ σ) H v d) : Rp O0 H v d := h.kp fun a o e n => ⟨e, fun z => n (.inl z)⟩
theorem ds_ret (he : PE X e (tD W fe)) : PS X (.Return (some e) pos) (sD W (sRet fe)) := ps_imp (ps_ret he) fun D σ H ⟨ρ, H0, O0, rs, h⟩ => goS rs h fun d v H1 rs1 r h1 => h1 v H1 rs1.same r.out
def sIf (gc : En → Re Bool) (f g : En → SR) : En → SR := fun ρ => SR.of (gc ρ) ρ fun b => if b then f ρ else g ρ
theorem ds_if {gc : En → Re Bool} {f g : En → SR} {sa sb : List Stmt} (hc : PT X c (DL.tB W gc)) (ha : PSs X sa (sD W f)) (hb : PSs X sb (sD W g)) : PS X (.If c sa sb pos) (sD W (sIf gc f g)) :=
  ps_imp (ps_if hc ha hb) fun D σ H ⟨ρ, H0, O0, rs, h⟩ => goSB rs h fun k H1 rs1 h1 => by
    cases k with
    | true => exact iteT ⟨ρ, H0, O0, rs1, h1⟩
    | false => exact iteF ⟨ρ, H0, O0, rs1, h1⟩
def sSet (i : Nat) (fe : En → Re PyData) : En → SR := fun ρ => SR.of (fe ρ) ρ fun d => .nx (ρ.set i (.va d))
theorem ds_set (i : Nat) {x : Str} (he : PE X e (tD W fe)) (hN : X.N.Nodup) (hi : X.N[i]? = some x := by rfl) (hx : Loc X.env.scope x := by first | exact Or.inl rfl | exact Or.inr rfl) (hs : swapsWith e (some (.Name x pos')) pos.line X.env = pure false := by rfl)
    (hf : X.fn x = true ∨ X.env.scope.names.lookup x = some .local := by first | exact .inl rfl | exact .inr rfl | assumption) : PS X (.Assign [.Name x pos'] e pos) (sD W (sSet i fe)) :=
  ps_imp (ps_set hN hi hx he hs hf) fun D σ H ⟨ρ, H0, O0, rs, h⟩ => goS rs h fun d v H1 rs1 r h1 => h1 _ H1 (rs1.setV r)
end
end DL

namespace DL
open PySem PySem.Spec L2 PyProof.Rows

/-! ## targets: the slots that a value is laid into -/
abbrev Tg := PyData → Option (List (Nat × PyData))
def tgName (i : Nat) : Tg := fun d => some [(i, d)]
def tgAll : List Tg → List PyData → Option (List (Nat × PyData))
  | [], [] => some []
  | t :: ts, d :: ds => (t d).bind fun l => (tgAll ts ds).bind fun m => some (l ++ m)
  | _, _ => none
def tgTup (ts : List Tg) : Tg
  | .tuple ds => tgAll ts ds
  | _ => none
def putV (σ : Sg) : List (Nat × V) → Sg
  | [] => σ
  | (i, v) :: l => putV (σ.set i (some v)) l
def putD (ρ : En) : List (Nat × PyData) → En
  | [] => ρ
  | (i, d) :: l => putD (ρ.set i (.va d)) l
/-- the same slots, the values as told -/
inductive Lay (O : Ow) (H : Hp) : List (Nat × V) → List (Nat × PyData) → Prop
  | nil : Lay O H [] []
  | cons {i : Nat} {v : V} {d : PyData} {l : List (Nat × V)} {m : List (Nat × PyData)} : Rp O H v d → Lay O H l m → Lay O H ((i, v) :: l) ((i, d) :: m)
theorem Lay.app {O : Ow} {H : Hp} : ∀ {l l' : List (Nat × V)} {m m' : List (Nat × PyData)}, Lay O H l m → Lay O H l' m' → Lay O H (l ++ l') (m ++ m')
  | _, _, _, _, .nil, h => h
  | _, _, _, _, .cons a b, h => .cons a (b.app h)
theorem putV_app : ∀ (l l' : List (Nat × V)) (σ : Sg), putV σ (l ++ l') = putV (putV σ l) l'
  | [], _, _ => rfl
  | (i, v) :: l, l', σ => putV_app l l' _
theorem putV_len : ∀ (l : List (Nat × V)) (σ : Sg), (putV σ l).length = σ.length
  | [], _ => rfl
  | (i, v) :: l, σ => by show (putV (σ.set i (some v)) l).length = _; rw [putV_len l]; simp
theorem Lay.kp {O O' : Ow} {H H' : Hp} (k : Kp O H O' H') : ∀ {l : List (Nat × V)} {m : List (Nat × PyData)}, Lay O H l m → Lay O' H' l m
  | _, _, .nil => .nil
  | _, _, .cons a b => .cons (a.kp k) (b.kp k)
theorem RS.put {H0 : Hp} {O0 : Ow} {H : Hp} : ∀ (l : List (Nat × V)) (m : List (Nat × PyData)) (ρ : En) (σ : Sg), RS H0 O0 ρ σ H → Lay (Oa O0 ρ σ) H l m → RS H0 O0 (putD ρ m) (putV σ l) H
  | [], _, ρ, σ, r, y => by cases y; exact r
  | (i, v) :: l, _, ρ, σ, r, y => by
    cases y with
    | @cons _ _ d _ m a b =>
      have r1 := r.setV (i := i) a
      have k : Kp (Oa O0 ρ σ) H (Oa O0 (ρ.set i (.va d)) (σ.set i (some v))) H := fun x o e n => ⟨e, fun z => n (by
        rcases z with z | ⟨j, e', e1, e2⟩
        · exact .inl z
        · by_cases hj : i = j
          · subst hj
            by_cases hi : i < ρ.length
            · rw [List.getElem?_set_self hi] at e1; cases e1
            · rw [List.getElem?_eq_none (by simpa using hi)] at e1; cases e1
          · rw [List.getElem?_set_ne hj] at e1 e2
            exact .inr ⟨j, e', e1, e2⟩)⟩
      exact RS.put l m _ _ r1 (b.kp k)
theorem RE.setV {O : Ow} {ρ : En} {σ : Sg} {H : Hp} {i : Nat} {v : V} {d : PyData} (r : RE O ρ σ H) (hl : σ.length = ρ.length) (h : Rp O H v d) : RE O (ρ.set i (.va d)) (σ.set i (some v)) H := by
  refine ⟨by simpa using hl, r.dom, fun j s e => ?_⟩
  by_cases hj : i = j
  · subst hj
    by_cases hi : i < ρ.length
    · rw [List.getElem?_set_self hi] at e; cases e
      exact ⟨v, List.getElem?_set_self (by rw [hl]; exact hi), h⟩
    · rw [List.getElem?_eq_none (by simpa using hi)] at e; cases e
  · rw [List.getElem?_set_ne hj] at e
    rw [List.getElem?_set_ne hj]
    exact r.at_ j s e
theorem RE.put {O : Ow} {H : Hp} : ∀ (l : List (Nat × V)) (m : List (Nat × PyData)) (ρ : En) (σ : Sg), RE O ρ σ H → σ.length = ρ.length → Lay O H l m → RE O (putD ρ m) (putV σ l) H
  | [], _, ρ, σ, r, _, y => by cases y; exact r
  | (i, v) :: l, _, ρ, σ, r, hl, y => by
    cases y with
    | @cons _ _ d _ m a b => exact RE.put l m (ρ.set i (.va d)) (σ.set i (some v)) (r.setV (i := i) hl a) (by simpa using hl) b
def gA (t : Tg) : TG := fun v σ H Q => ∃ O d m, Rp O H v d ∧ t d = some m ∧ ∀ l, Lay O H l m → Q (putV σ l) H
def gAs (ts : List Tg) : TGs := fun vs σ H Q => ∃ O ds m, RpL O H vs ds ∧ tgAll ts ds = some m ∧ ∀ l, Lay O H l m → Q (putV σ l) H
section
variable {X : Cx} {W : WX} {pos : Pos}
theorem pg_imp {e : Expr} {t t' : TG} (h : PG X e t) (i : ∀ v σ H Q, t' v σ H Q → t v σ H Q) : PG X e t' := ⟨fun pins s σ H v u Q I r q => h.run pins s σ H v u Q I r (i v σ H Q q)⟩
theorem pgs_imp {e : List Expr} {t t' : TGs} (h : PGs X e t) (i : ∀ v σ H Q, t' v σ H Q → t v σ H Q) : PGs X e t' := ⟨fun pins s σ H v u Q I r q => h.run pins s σ H v u Q I r (i v σ H Q q)⟩
theorem dg_name (i : Nat) {x : Str} (hN : X.N.Nodup) (hi : X.N[i]? = some x := by rfl) (hx : Loc X.env.scope x := by first | exact Or.inl rfl | exact Or.inr rfl) (hf : X.fn x = true ∨ X.env.scope.names.lookup x = some .local := by first | exact .inl rfl | exact .inr rfl | assumption) : PG X (.Name x pos) (gA (tgName i)) :=
  pg_imp (pg_name hN hi hx hf) fun v σ H Q ⟨O, d, m, r, e, q⟩ => by
    cases e
    exact q [(i, v)] (.cons r .nil)
theorem dgs_nil : PGs X [] (gAs []) := pgs_imp pgs_nil fun v σ H Q ⟨O, ds, m, r, e, q⟩ => by
  cases r with
  | nil => cases e; exact ⟨rfl, q [] .nil⟩
  | cons _ _ => cases e
theorem dgs_cons {e : Expr} {es : List Expr} {t : Tg} {ts : List Tg} (h1 : PG X e (gA t)) (h2 : PGs X es (gAs ts)) (hs : (assignEach (e :: es) X.env).map (·.2) = assign e X.env :: (assignEach es X.env).map (·.2) := by rfl) : PGs X (e :: es) (gAs (t :: ts)) :=
  pgs_imp (pgs_cons h1 h2 hs) fun v σ H Q ⟨O, ds, m, r, e, q⟩ => by
    cases r with
    | nil => cases e
    | @cons v vs d ds a b =>
      have e : ((t d).bind fun l => (tgAll ts ds).bind fun m => some (l ++ m)) = some m := e
      cases e1 : t d with
      | none => rw [e1] at e; cases e
      | some l1 =>
        rw [e1] at e
        cases e2 : tgAll ts ds with
        | none => simp [e2] at e
        | some l2 =>
          simp only [e2, Option.bind_some, Option.some.injEq] at e
          subst e
          exact ⟨v, vs, rfl, O, d, l1, a, e1, fun k1 y1 => ⟨O, ds, l2, b, e2, fun k2 y2 => by rw [← putV_app]; exact q _ (y1.app y2)⟩⟩
theorem tgAll_len : ∀ {ts : List Tg} {ds : List PyData} {m : List (Nat × PyData)}, tgAll ts ds = some m → ds.length = ts.length
  | [], [], _, _ => rfl
  | [], _ :: _, _, e => by cases e
  | _ :: _, [], _, e => by cases e
  | t :: ts, d :: ds, m, e => by
    have e : ((t d).bind fun l => (tgAll ts ds).bind fun m => some (l ++ m)) = some m := e
    cases e1 : t d with
    | none => rw [e1] at e; cases e
    | some l1 =>
      rw [e1] at e
      cases e2 : tgAll ts ds with
      | none => simp [e2] at e
      | some l2 => simp [tgAll_len e2]
theorem dg_tup {es : List Expr} {k : Nat} {ts : List Tg} (hc : X.calm = true) (h : PGs X es (gAs ts)) (hn : (assignEach es X.env).length = ts.length := by rfl) (hst : (assignEach es X.env).findIdx? (·.1) = none := by rfl) : PG X (.Tuple es k pos) (gA (tgTup ts)) :=
  pg_imp (pg_tup hc h hn hst) fun v σ H Q ⟨O, d, m, r, e, q⟩ => by
    cases d with
    | tuple ds =>
      obtain ⟨a, xs, rfl, ea, _, rl⟩ := r.i_tup
      exact ⟨a, xs, rfl, SqT.of ea, by rw [rl.len]; exact tgAll_len e, O, ds, m, rl, e, q⟩
    | _ => cases e

/-! ### target = value -/
def sAsg (t : Tg) (fe : En → Re PyData) : En → SR := fun ρ => SR.of (fe ρ) ρ fun d => match t d with
  | some m => .nx (putD ρ m)
  | none => .st
theorem ds_asg {tg e : Expr} {t : Tg} {fe : En → Re PyData} (he : PE X e (tD W fe)) (hg : PG X tg (gA t)) (hs : swapsWithSole [tg] e pos.line X.env = pure false := by rfl) (hw : swappedStores [tg] e X.env = pure none := by rfl)
    (h1 : (assignEach [tg] X.env).map (·.2) = [assign tg X.env] := by rfl) : PS X (.Assign [tg] e pos) (sD W (sAsg t fe)) :=
  ps_imp (ps_asg he hg hs hw h1) fun D σ H ⟨ρ, H0, O0, rs, h⟩ => goS rs h fun d v H1 rs1 r h1 => by
    cases e : t d with
    | none => rw [e] at h1; exact h1.elim
    | some m =>
      rw [e] at h1
      exact ⟨_, d, m, r, e, fun l y => h1 _ _ (RS.put _ _ _ _ rs1 y)⟩
/-- a, b = x, y (both sides written) -/
def sPar (i j : Nat) (fs : En → Re (List PyData)) : En → SR := fun ρ => SR.of (fs ρ) ρ fun ds => match ds with
  | [d, e] => .nx ((ρ.set i (.va d)).set j (.va e))
  | _ => .st
theorem goSA {fs : En → Re (List PyData)} {k : List PyData → SR} {R : List V → Hp → Prop} {H0 : Hp} {O0 : Ow} {ρ : En} {σ : Sg} {H : Hp} {D : Ends} (rs : RS H0 O0 ρ σ H) (h : tS W H0 O0 (SR.of (fs ρ) ρ k) D) (q : ∀ ds vs H1, RS H0 O0 ρ σ H1 → RpL (Oa O0 ρ σ) H1 vs ds → tS W H0 O0 (k ds) D → R vs H1) : tA W fs σ H R := by
  refine ⟨ρ, _, rs.re, ?_⟩
  cases e : fs ρ with
  | ok d => rw [e] at h; exact fun v H1 s r => q d v H1 (rs.heap s) r h
  | ex c p => rw [e] at h; exact fun H1 s => h σ H1 (rs.heap s)
  | st => rw [e] at h; exact h
theorem ds_par (i j : Nat) {x y : Str} {a b : Expr} {fs : En → Re (List PyData)} {px py pt : Pos} {kt k2 pt2} (hc : X.calm = true) (hN : X.N.Nodup) (ha : PA X [a, b] (tA W fs)) (hij : i ≠ j := by decide) (hi : X.N[i]? = some x := by rfl) (hj : X.N[j]? = some y := by rfl)
    (hx : X.env.scope.names.lookup x = some .local := by rfl) (hy : X.env.scope.names.lookup y = some .local := by rfl)
    (hw : swappedStores [.Tuple [.Name x px, .Name y py] kt pt] (.Tuple [a, b] k2 pt2) X.env = pure (some [x, y]) := by rfl)
    (hs : swapsWithSole [.Tuple [.Name x px, .Name y py] kt pt] (.Tuple [a, b] k2 pt2) pos.line X.env = pure false := by rfl) :
    PS X (.Assign [.Tuple [.Name x px, .Name y py] kt pt] (.Tuple [a, b] k2 pt2) pos) (sD W (sPar i j fs)) :=
  ps_imp (ps_par hc hN hi hj hij hx hy ha hw hs) fun D σ H ⟨ρ, H0, O0, rs, h⟩ => goSA rs h fun ds vs H1 rs1 r h1 => by
    split at h1
    · cases r with
      | cons r1 r =>
        cases r with
        | cons r2 r =>
          cases r
          exact ⟨_, _, rfl, h1 _ _ (RS.put [(i, _), (j, _)] [(i, _), (j, _)] _ _ rs1 (.cons r1 (.cons r2 .nil)))⟩
    · exact h1.elim
/-- x += e (ints) -/
def sAug (i : Nat) (fe : En → Re PyData) : En → SR := fun ρ => match ρ[i]? with
  | some (.va (.int k)) => SR.of (fe ρ) ρ fun d => match d with
    | .int j => .nx (ρ.set i (.va (.int (k + j))))
    | _ => .st
  | _ => .st
theorem ds_aug (i : Nat) {x : Str} {e : Expr} {fe : En → Re PyData} {pos' : Pos} (hN : X.N.Nodup) (he : PE X e (tD W fe)) (hi : X.N[i]? = some x := by rfl) (hx : Loc X.env.scope x := by first | exact Or.inl rfl | exact Or.inr rfl) (hf : X.fn x = true ∨ X.env.scope.names.lookup x = some .local := by first | exact .inl rfl | exact .inr rfl | assumption) :
    PS X (.AugAssign (.Name x pos') .Add e pos) (sD W (sAug i fe)) := ps_imp (ps_aug hN hi hx he ip_add hf) fun D σ H ⟨ρ, H0, O0, rs, h⟩ => by
  unfold sAug at h
  split at h
  · rename_i k ek
    obtain ⟨v, ev, rv⟩ := rs.re.at_ i _ ek
    cases rv.i_int
    refine ⟨_, ev, goS rs h fun d y H1 rs1 r h1 => ?_⟩
    split at h1
    · cases r.i_int
      exact ⟨_, _, rfl, rfl, h1 _ _ (rs1.setV (.int _))⟩
    · exact h1.elim
  · exact h.elim

/-! ## what is walked -/
/-- J walks the items ds while what is only read stands -/
def ItD (O : Ow) (J : It) (ds : List PyData) (H1 : Hp) : Prop := ∀ H2 O2, Kp O H1 O2 H2 → (∀ a, O2 a → H2 a ≠ none) →
  J.stop ds.length H2 ∧ ∀ (i : Nat) (d : PyData), ds[i]? = some d → J.go i H2 ∧ ∀ x H', J.yld i H2 x H' → Same H2 H' ∧ Rp O2 H' x d
def iRD (W : WX) (O : Ow) (r : Re (List PyData)) (σ : Sg) (H : Hp) (R : It → Hp → Prop) : Prop := match r with
  | .ok ds => ∀ J H1, Same H H1 → ItD O J ds H1 → R J H1
  | .ex c p => ∀ H', Same H H' → XW W σ O H' c p
  | .st => False
def iD (W : WX) (f : En → Re (List PyData)) : TI := fun σ H R => ∃ ρ O, RE O ρ σ H ∧ iRD W O (f ρ) σ H R
theorem pi_imp {tg e : Expr} {t t' : TI} (h : PI X tg e t) (i : ∀ σ H Q, t' σ H Q → t σ H Q) : PI X tg e t' := ⟨fun pins s σ H Q I q => h.run pins s σ H Q I (i σ H Q q)⟩
theorem iRD.same {O : Ow} {r : Re (List PyData)} {σ : Sg} {H H1 : Hp} {R : It → Hp → Prop} (h : iRD W O r σ H R) (s : Same H H1) : iRD W O r σ H1 R := by
  cases r with
  | ok ds => exact fun J H2 s2 q => h J H2 (s.trans s2) q
  | ex c p => exact fun H' s' => h H' (s.trans s')
  | st => exact h
theorem goI {f : En → Re PyData} {g : PyData → Re (List PyData)} {σ : Sg} {O : Ow} {ρ : En} {H : Hp} {R : It → Hp → Prop} {T : VK} (re : RE O ρ σ H) (h : iRD W O ((f ρ).bind g) σ H R) (k : ∀ d x H1, RE O ρ σ H1 → Same H H1 → Rp O H1 x d → iRD W O (g d) σ H1 R → T x H1) : tD W f σ H T := by
  refine ⟨ρ, O, re, ?_⟩
  cases e : f ρ with
  | ok d =>
    rw [e] at h
    exact fun v H1 s q => k d v H1 (re.same s) s q (iRD.same h s)
  | ex c p => rw [e] at h; exact h
  | st => rw [e] at h; exact h
theorem goIA {f : En → Re (List PyData)} {g : List PyData → Re (List PyData)} {σ : Sg} {O : Ow} {ρ : En} {H : Hp} {R : It → Hp → Prop} {T : List V → Hp → Prop} (re : RE O ρ σ H) (h : iRD W O ((f ρ).bind g) σ H R) (k : ∀ d x H1, RE O ρ σ H1 → Same H H1 → RpL O H1 x d → iRD W O (g d) σ H1 R → T x H1) : tA W f σ H T := by
  refine ⟨ρ, O, re, ?_⟩
  cases e : f ρ with
  | ok d =>
    rw [e] at h
    exact fun v H1 s q => k d v H1 (re.same s) s q (iRD.same h s)
  | ex c p => rw [e] at h; exact h
  | st => rw [e] at h; exact h
def dItems : PyData → Re (List PyData)
  | .list ds => .ok ds
  | .tuple ds => .ok ds
  | _ => .st
def iList (fa : En → Re PyData) : En → Re (List PyData) := fun ρ => (fa ρ).bind fun d => match d with
  | .list ds => .ok ds
  | _ => .st
def iTup (fa : En → Re PyData) : En → Re (List PyData) := fun ρ => (fa ρ).bind fun d => match d with
  | .tuple ds => .ok ds
  | _ => .st
theorem Kp.rp {O O' : Ow} {H H' : Hp} (k : Kp O H O' H') {v : V} {d : PyData} (h : Rp O H v d) : Rp O' H' v d := h.kp k
theorem Kp.trans {O O1 O2 : Ow} {H H1 H2 : Hp} (a : Kp O H O1 H1) (b : Kp O1 H1 O2 H2) : Kp O H O2 H2 := fun x o e n => b x o (a x o e n).1 (a x o e n).2
theorem it_list {K : PySem.W.Frag} {O : Ow} {H : Hp} {a : Addr} {xs : List V} {ds : List PyData} (e : H a = some (.lst xs)) (n : ¬ O a) (r : RpL O H xs ds) : ItD O (Itl K a) ds H := fun H2 O2 k _ => by
  have e2 := (k a _ e n).1
  have r2 := r.kp k
  refine ⟨⟨xs, SqL.of e2, by rw [r.len]; exact Nat.le_refl _⟩, fun i d hd => ?_⟩
  obtain ⟨v, hv, rv⟩ := r2.get hd
  refine ⟨⟨xs, v, SqL.of e2, hv⟩, fun x H' y => ?_⟩
  obtain ⟨rfl, y⟩ := y
  have := y xs (SqL.of e2)
  rw [hv] at this
  cases this
  exact ⟨Same.refl _, rv⟩
theorem it_tup {K : PySem.W.Frag} {O : Ow} {H : Hp} {a : Addr} {xs : List V} {ds : List PyData} (e : H a = some (.tup xs)) (n : ¬ O a) (r : RpL O H xs ds) : ItD O (Itt K a) ds H := fun H2 O2 k _ => by
  have e2 := (k a _ e n).1
  have r2 := r.kp k
  refine ⟨⟨xs, SqT.of e2, by rw [r.len]; exact Nat.le_refl _⟩, fun i d hd => ?_⟩
  obtain ⟨v, hv, rv⟩ := r2.get hd
  refine ⟨⟨xs, v, SqT.of e2, hv⟩, fun x H' y => ?_⟩
  obtain ⟨rfl, y⟩ := y
  have := y xs (SqT.of e2)
  rw [hv] at this
  cases this
  exact ⟨Same.refl _, rv⟩
def rngD (lo : Int) (n : Nat) : List PyData := (List.range n).map fun i => .int (lo + (i : Nat))
theorem it_rng {O : Ow} {H : Hp} (lo : Int) (n : Nat) : ItD O (Itr lo n) (rngD lo n) H := fun H2 O2 k _ => by
  refine ⟨by show n ≤ (rngD lo n).length; unfold rngD; simp, fun i d hd => ?_⟩
  unfold rngD at hd
  rw [List.getElem?_map] at hd
  have hi : i < n := by
    by_cases h : i < n
    · exact h
    · rw [List.getElem?_eq_none (by simpa using h)] at hd; cases hd
  rw [List.getElem?_range hi] at hd
  cases hd
  refine ⟨hi, fun x H' y => ?_⟩
  obtain ⟨rfl, rfl⟩ := y
  exact ⟨Same.refl _, .int _⟩
theorem di_list {tg l : Expr} {fa : En → Re PyData} (hl : PE X l (tD W fa)) : PI X tg l (iD W (DL.iList fa)) := pi_imp (pi_list hl) fun σ H R ⟨ρ, O, re, h⟩ => goI re h fun d x H1 re1 _ rx h1 => by
  split at h1
  · obtain ⟨a, xs, rfl, ea, na, q⟩ := rx.i_lst
    exact ⟨a, rfl, ⟨xs, SqL.of ea⟩, h1 _ H1 (Same.refl _) (it_list ea na q)⟩
  · exact h1.elim
theorem di_tup {tg l : Expr} {fa : En → Re PyData} (hl : PE X l (tD W fa)) : PI X tg l (iD W (DL.iTup fa)) := pi_imp (pi_tup hl) fun σ H R ⟨ρ, O, re, h⟩ => goI re h fun d x H1 re1 _ rx h1 => by
  split at h1
  · obtain ⟨a, xs, rfl, ea, na, q⟩ := rx.i_tup
    exact ⟨a, rfl, ⟨xs, SqT.of ea⟩, h1 _ H1 (Same.refl _) (it_tup ea na q)⟩
  · exact h1.elim
def bigB (j : Int) : Bool := decide (-1000000000 ≤ j) && decide (j ≤ 1000000000)
def iRng1 (fs : En → Re (List PyData)) : En → Re (List PyData) := fun ρ => (fs ρ).bind fun ds => match ds with
  | [.int j] => if bigB j then .ok (rngD 0 j.toNat) else .st
  | _ => .st
def iRng2 (fs : En → Re (List PyData)) : En → Re (List PyData) := fun ρ => (fs ρ).bind fun ds => match ds with
  | [.int i, .int j] => if bigB i && bigB j then .ok (rngD i (j - i).toNat) else .st
  | _ => .st
theorem bigB_ok {j : Int} (h : bigB j = true) : -(2 ^ 62) ≤ j ∧ j < 2 ^ 62 := by
  unfold bigB at h
  simp only [Bool.and_eq_true, decide_eq_true_eq] at h
  omega
theorem di_rng1 {tg a : Expr} {fs : En → Re (List PyData)} {p : Pos} (hm : X.mg "range" = none) (ha : PA X [a] (tA W fs)) (hg : Gl X "range" := by rfl) (hs : starEach [a] X.env = [(false, eval a X.env)] := by rfl) : PI X tg (.Call (.Name "range" p) [a] [] pos) (iD W (DL.iRng1 fs)) :=
  pi_imp (pi_range1 hg hm ha hs) fun σ H R ⟨ρ, O, re, h⟩ => goIA re h fun ds xs H1 re1 _ rx h1 => by
    split at h1
    · split at h1
      · rename_i hb
        cases rx with
        | cons r1 r =>
          cases r
          cases r1.i_int
          exact ⟨_, rfl, (bigB_ok hb).1, (bigB_ok hb).2, h1 _ H1 (Same.refl _) (it_rng _ _)⟩
      · exact h1.elim
    · exact h1.elim
theorem di_rng2 {tg a b : Expr} {fs : En → Re (List PyData)} {p : Pos} (hm : X.mg "range" = none) (ha : PA X [a, b] (tA W fs)) (hg : Gl X "range" := by rfl) (hs : starEach [a, b] X.env = [(false, eval a X.env), (false, eval b X.env)] := by rfl) (hs2 : starEach [b] X.env = [(false, eval b X.env)] := by rfl) : PI X tg (.Call (.Name "range" p) [a, b] [] pos) (iD W (DL.iRng2 fs)) :=
  pi_imp (pi_range2 hg hm ha hs hs2) fun σ H R ⟨ρ, O, re, h⟩ => goIA re h fun ds xs H1 re1 _ rx h1 => by
    split at h1
    · split at h1
      · rename_i hb
        rw [Bool.and_eq_true] at hb
        cases rx with
        | cons r1 r =>
          cases r with
          | cons r2 r =>
            cases r
            cases r1.i_int; cases r2.i_int
            exact ⟨_, _, rfl, ⟨(bigB_ok hb.1).1, (bigB_ok hb.1).2, (bigB_ok hb.2).1, (bigB_ok hb.2).2⟩, h1 _ H1 (Same.refl _) (it_rng _ _)⟩
      · exact h1.elim
    · exact h1.elim
/-! zip of two lists, of two tuples -/
def zipD : List PyData → List PyData → List PyData
  | x :: xs, y :: ys => .tuple [x, y] :: zipD xs ys
  | _, _ => []
theorem zipD_at : ∀ (xs ys : List PyData) (i : Nat), (zipD xs ys)[i]? = match xs[i]?, ys[i]? with
    | some x, some y => some (.tuple [x, y])
    | _, _ => none
  | [], ys, i => by simp [zipD]
  | x :: xs, [], i => by
    show none = _
    simp
  | x :: xs, y :: ys, 0 => by simp [zipD]
  | x :: xs, y :: ys, i + 1 => by
    have := zipD_at xs ys i
    simpa [zipD] using this
theorem zipD_len : ∀ (xs ys : List PyData), (zipD xs ys).length = min xs.length ys.length
  | [], ys => by simp [zipD]
  | x :: xs, [] => by simp [zipD]
  | x :: xs, y :: ys => by simp [zipD, zipD_len xs ys]
def iZip (fs : En → Re (List PyData)) : En → Re (List PyData) := fun ρ => (fs ρ).bind fun ds => match ds with
  | [.list xs, .list ys] => .ok (zipD xs ys)
  | [.tuple xs, .tuple ys] => .ok (zipD xs ys)
  | _ => .st
theorem zip_get {xs ys : List PyData} {i : Nat} {d : PyData} (h : (zipD xs ys)[i]? = some d) : ∃ x y, xs[i]? = some x ∧ ys[i]? = some y ∧ d = .tuple [x, y] := by
  rw [zipD_at] at h
  split at h
  · rename_i x y e1 e2
    cases h
    exact ⟨x, y, e1, e2, rfl⟩
  · cases h
theorem di_zip {e e2 : Expr} {fs : En → Re (List PyData)} {p tpos : Pos} {elts : List Expr} {kk : Nat} (hm : X.mg "zip" = none) (ha : PA X [e, e2] (tA W fs)) (hg : Gl X "zip" := by rfl) (hs : starEach [e, e2] X.env = (false, eval e X.env) :: starEach [e2] X.env := by rfl) (hpl : (backTo pos (starEach [e2] X.env)).any (·.1) = false := by rfl) :
    PI X (.Tuple elts kk tpos) (.Call (.Name "zip" p) [e, e2] [] pos) (iD W (DL.iZip fs)) :=
  pi_imp (RZ.pi_zipA hg hm ha hs hpl) fun σ H R ⟨ρ, O, re, h⟩ => goIA re h fun ds vs H1 re1 _ rx h1 => by
    split at h1
    · cases rx with
      | cons r1 r =>
        cases r with
        | cons r2 r =>
          cases r
          obtain ⟨a, xs, rfl, ea, na, q⟩ := r1.i_lst
          obtain ⟨b, ys, rfl, eb, nb, q'⟩ := r2.i_lst
          refine ⟨a, b, xs, ys, rfl, .inl ⟨SqL.of ea, SqL.of eb, h1 _ H1 (Same.refl _) fun H2 O2 k dm => ?_⟩⟩
          have ea2 := (k a _ ea na).1
          have eb2 := (k b _ eb nb).1
          refine ⟨⟨xs, ys, SqL.of ea2, SqL.of eb2, by rw [zipD_len, q.len, q'.len]; omega⟩, fun i d hd => ?_⟩
          obtain ⟨x, y, e1, e2, rfl⟩ := zip_get hd
          obtain ⟨v, hv, rv⟩ := (q.kp k).get e1
          obtain ⟨u, hu, ru⟩ := (q'.kp k).get e2
          refine ⟨⟨xs, ys, v, u, SqL.of ea2, SqL.of eb2, hv, hu⟩, fun z H' yl => ?_⟩
          obtain ⟨T, x1, x2, rfl, nT, rfl, f1, f2⟩ := yl
          have z1 := f1 xs (SqL.of ea2)
          have z2 := f2 ys (SqL.of eb2)
          rw [hv] at z1; rw [hu] at z2
          cases z1; cases z2
          refine ⟨same_upd nT, .tup upd_same (fun o => dm T o nT) ?_⟩
          exact (RpL.cons rv (.cons ru .nil)).kp (.same (same_upd nT))
    · cases rx with
      | cons r1 r =>
        cases r with
        | cons r2 r =>
          cases r
          obtain ⟨a, xs, rfl, ea, na, q⟩ := r1.i_tup
          obtain ⟨b, ys, rfl, eb, nb, q'⟩ := r2.i_tup
          refine ⟨a, b, xs, ys, rfl, .inr ⟨SqT.of ea, SqT.of eb, h1 _ H1 (Same.refl _) fun H2 O2 k dm => ?_⟩⟩
          have ea2 := (k a _ ea na).1
          have eb2 := (k b _ eb nb).1
          refine ⟨⟨xs, ys, SqT.of ea2, SqT.of eb2, by rw [zipD_len, q.len, q'.len]; omega⟩, fun i d hd => ?_⟩
          obtain ⟨x, y, e1, e2, rfl⟩ := zip_get hd
          obtain ⟨v, hv, rv⟩ := (q.kp k).get e1
          obtain ⟨u, hu, ru⟩ := (q'.kp k).get e2
          refine ⟨⟨xs, ys, v, u, SqT.of ea2, SqT.of eb2, hv, hu⟩, fun z H' yl => ?_⟩
          obtain ⟨T, x1, x2, rfl, nT, rfl, f1, f2⟩ := yl
          have z1 := f1 xs (SqT.of ea2)
          have z2 := f2 ys (SqT.of eb2)
          rw [hv] at z1; rw [hu] at z2
          cases z1; cases z2
          refine ⟨same_upd nT, .tup upd_same (fun o => dm T o nT) ?_⟩
          exact (RpL.cons rv (.cons ru .nil)).kp (.same (same_upd nT))
    · exact h1.elim
end
end DL

namespace DL
open PySem PySem.Spec L2 PyProof.Rows

/-! ## another base: what stands now and is not written here -/
open Classical in
noncomputable def mnH (H : Hp) (ρ : En) (σ : Sg) : Hp := fun a => if Os ρ σ a then none else H a
section
variable {H0 H1 : Hp} {O0 : Ow} {ρ ρ' : En} {σ σ' : Sg} {H H' : Hp}
theorem mnH_ne {a : Addr} (h : ¬ Os ρ σ a) : mnH H ρ σ a = H a := by unfold mnH; rw [if_neg h]
theorem mnH_eq {a : Addr} (h : Os ρ σ a) : mnH H ρ σ a = none := by unfold mnH; rw [if_pos h]
theorem mnH_some {a : Addr} {o : HO} (h : mnH H ρ σ a = some o) : H a = some o ∧ ¬ Os ρ σ a := by
  by_cases q : Os ρ σ a
  · rw [mnH_eq q] at h; cases h
  · rw [mnH_ne q] at h; exact ⟨h, q⟩
theorem RS.noOs (r : RS H0 O0 ρ σ H) {a : Addr} {o : HO} (h : H0 a = some o) : ¬ Os ρ σ a := fun ⟨i, d, e1, e2⟩ => by
  rw [r.fresh i d a e1 e2] at h; cases h
theorem RS.based (r : RS H0 O0 ρ σ H) : Same H0 (mnH H ρ σ) := fun b o e => by
  rw [mnH_ne (r.noOs e)]; exact r.same b o e
theorem RS.base (r : RS H0 O0 ρ σ H) : RS (mnH H ρ σ) O0 ρ σ H :=
  ⟨r.len, fun b o e => (mnH_some e).1, r.re, fun i d p e1 e2 => mnH_eq ⟨i, d, e1, e2⟩, r.inj, fun a o z => by
    cases q : H0 a with
    | none => exact r.dom0 a o q
    | some u => rw [r.based a u q] at z; cases z⟩
theorem RS.unbase (s : Same H0 H1) (hd : ∀ a, O0 a → H0 a ≠ none) (r : RS H1 O0 ρ σ H) : RS H0 O0 ρ σ H :=
  ⟨r.len, s.trans r.same, r.re, (fun i d p e1 e2 => by
    cases q : H0 p with
    | none => rfl
    | some u =>
      have := s p u q
      rw [r.fresh i d p e1 e2] at this
      cases this), r.inj, hd⟩
theorem RS.frame (r : RS (mnH H ρ σ) O0 ρ' σ' H') : Kp (Oa O0 ρ σ) H (Oa O0 ρ' σ') H' := fun a o e n => by
  have z : mnH H ρ σ a = some o := by rw [mnH_ne fun q => n (.inr q)]; exact e
  refine ⟨r.same a o z, fun q => ?_⟩
  rcases q with q | q
  · exact n (.inl q)
  · exact r.noOs z q
end
section
variable {X : Cx} {W : WX} {pos : Pos}
theorem tS.base {H0 H1 : Hp} {O0 : Ow} {r : SR} {D : Ends} (s : Same H0 H1) (hd : ∀ a, O0 a → H0 a ≠ none) (h : tS W H0 O0 r D) : tS W H1 O0 r D := by
  cases r with
  | nx ρ => exact fun σ H q => h σ H (q.unbase s hd)
  | rt d => exact fun v H q r => h v H (s.trans q) r
  | ex c p ρ => exact fun σ H q => h σ H (q.unbase s hd)
  | st => exact h

/-! ## for -/
def forL (t : Tg) (fb : En → SR) : List PyData → En → SR
  | [], ρ => .nx ρ
  | d :: ds, ρ => match t d with
    | none => .st
    | some m => match fb (putD ρ m) with
      | .nx ρ' => forL t fb ds ρ'
      | r => r
def sFor (fi : En → Re (List PyData)) (t : Tg) (fb : En → SR) : En → SR := fun ρ => SR.of (fi ρ) ρ fun ds => forL t fb ds ρ
theorem ds_for {tg iter : Expr} {body : List Stmt} {fi : En → Re (List PyData)} {t : Tg} {fb : En → SR} (hp : PassesOwn (model X.prog X.w) X.A X.env X.xe) (hc : X.calm = true) (hi : PI X tg iter (iD W fi)) (hg : PG X tg (gA t)) (hb : PSs X body (sD W fb))
    (hs : ∀ x, foldedSetIterable iter X.env x = pure x := by intro _; rfl) : PS X (.For tg iter body [] pos) (sD W (sFor fi t fb)) :=
  ps_imp (ps_for hp hc hi hg hb hs) fun D σ H ⟨ρ, H0, O0, rs, h⟩ => by
    refine ⟨ρ, _, rs.re, ?_⟩
    unfold sFor at h
    cases e : fi ρ with
    | ex c p => rw [e] at h; exact fun H1 s => h σ H1 (rs.heap s)
    | st => rw [e] at h; exact h
    | ok ds =>
      rw [e] at h
      intro J H1 s itd
      have rs1 := rs.heap s
      have sb := rs1.based
      refine ⟨fun i m σ' H' => ∃ ρ', RS (mnH H1 ρ σ) O0 ρ' σ' H' ∧ i ≤ ds.length ∧ m = ds.length - i ∧ tS W H0 O0 (forL t fb (ds.drop i) ρ') D, ⟨ds.length, ρ, rs1.base, Nat.zero_le _, rfl, h⟩, ?_⟩
      rintro i m σ' H' ⟨ρ', r', hi', rfl, h'⟩
      obtain ⟨hstop, hgo⟩ := itd H' (Oa O0 ρ' σ') r'.frame r'.re.dom
      by_cases hlt : i < ds.length
      · have hd : ds[i]? = some ds[i] := List.getElem?_eq_getElem hlt
        obtain ⟨g1, g2⟩ := hgo i _ hd
        rw [List.drop_eq_getElem_cons hlt] at h'
        refine .inr ⟨g1, fun σ2 H2 => ∃ ρ2, RS (mnH H1 ρ σ) O0 ρ2 σ2 H2 ∧ tS W H0 O0 (forL t fb (ds.drop (i + 1)) ρ2) D, ?_, fun x H2 y => ?_⟩
        · rintro σ2 H2 ⟨ρ2, r2, h2⟩
          exact ⟨ds.length - (i + 1), by omega, ρ2, r2, hlt, rfl, h2⟩
        · obtain ⟨s2, rx⟩ := g2 x H2 y
          have r2 := r'.heap s2
          unfold forL at h'
          cases et : t ds[i] with
          | none => rw [et] at h'; exact h'.elim
          | some mm =>
            rw [et] at h'
            refine ⟨_, _, mm, rx, et, fun l yl => ⟨_, _, O0, RS.put _ _ _ _ r2 yl, ?_⟩⟩
            cases eb : fb (putD ρ' mm) with
            | nx ρ3 => simp only [eb] at h'; exact fun σ3 H3 r3 => ⟨ρ3, r3, h'⟩
            | rt d => simp only [eb] at h'; exact fun v H3 s3 r3 => h' v H3 (sb.trans s3) r3
            | ex c p ρ3 => simp only [eb] at h'; exact fun σ3 H3 r3 => h' σ3 H3 (r3.unbase sb rs.dom0)
            | st => simp only [eb] at h'; exact h'
      · have e : i = ds.length := by omega
        subst e
        rw [List.drop_length] at h'
        exact .inl ⟨hstop, h' σ' H' (r'.unbase sb rs.dom0)⟩

/-! ## while -/
def whL (gc : En → Re Bool) (fb : En → SR) : Nat → En → SR
  | 0, _ => .st
  | n + 1, ρ => SR.of (gc ρ) ρ fun b => if b then (match fb ρ with
    | .nx ρ' => whL gc fb n ρ'
    | r => r) else .nx ρ
theorem ds_while (n : Nat) {c : Expr} {body : List Stmt} {gc : En → Re Bool} {fb : En → SR} (hp : PassesOwn (model X.prog X.w) X.A X.env X.xe) (hc : PT X c (DL.tB W gc)) (hb : PSs X body (sD W fb)) : PS X (.While c body [] pos) (sD W (whL gc fb n)) :=
  ps_imp (ps_while hp hc hb) fun D σ H ⟨ρ, H0, O0, rs, h⟩ => by
    refine ⟨fun m σ H => ∃ ρ, RS H0 O0 ρ σ H ∧ tS W H0 O0 (whL gc fb m ρ) D, ⟨n, ρ, rs, h⟩, ?_⟩
    rintro m σ H ⟨ρ, rs, h⟩
    cases m with
    | zero => exact h.elim
    | succ m =>
      refine goSB rs h fun b H1 rs1 h1 => ?_
      cases b with
      | true =>
        refine iteT ⟨fun σ' H' => ∃ ρ, RS H0 O0 ρ σ' H' ∧ tS W H0 O0 (whL gc fb m ρ) D, fun σ' H' q => ⟨m, Nat.lt_succ_self m, q⟩, ρ, H0, O0, rs1, ?_⟩
        have h1 : tS W H0 O0 (match fb ρ with
          | .nx ρ' => whL gc fb m ρ'
          | r => r) D := h1
        cases eb : fb ρ with
        | nx ρ3 => rw [eb] at h1; exact fun σ3 H3 r3 => ⟨ρ3, r3, h1⟩
        | rt d => rw [eb] at h1; exact h1
        | ex c p ρ3 => rw [eb] at h1; exact h1
        | st => rw [eb] at h1; exact h1
      | false => exact iteF (h1 σ H1 rs1)

/-! ## new things that are written here -/
def Op (O : Ow) (p : Addr) : Ow := fun a => O a ∨ a = p
def tRF (W : WX) (O : Ow) (r : Re PyData) (σ : Sg) (H : Hp) (Q : VK) : Prop := match r with
  | .ok (.list ds) => ∀ p xs H', Same H H' → H p = none → H' p = some (.lst xs) → RpL (Op O p) H' xs ds → Q (.ref p) H'
  | .ok (.dict es) => ∀ p kvs H', Same H H' → H p = none → H' p = some (.dK kvs) → RpD (Op O p) H' kvs es → Q (.ref p) H'
  | .ok _ => False
  | .ex c p => ∀ H', Same H H' → XW W σ O H' c p
  | .st => False
def tF (W : WX) (f : En → Re PyData) : TE := fun σ H Q => ∃ ρ O, RE O ρ σ H ∧ tRF W O (f ρ) σ H Q
/-- such an expression as a value: its values are lists and dicts -/
def onlyLD (f : En → Re PyData) : Prop := ∀ ρ d, f ρ = .ok d → (∃ ds, d = .list ds) ∨ ∃ es, d = .dict es
theorem tF_of {f : En → Re PyData} (ho : onlyLD f) {σ : Sg} {H : Hp} {Q : VK} (h : tD W f σ H Q) : tF W f σ H Q := by
  obtain ⟨ρ, O, re, h⟩ := h
  refine ⟨ρ, O, re, ?_⟩
  cases e : f ρ with
  | ex c p => rw [e] at h; exact h
  | st => rw [e] at h; exact h
  | ok d =>
    rw [e] at h
    have kk : ∀ {p : Addr} {H' : Hp}, Kp (Op O p) H' O H' := fun a o e n => ⟨e, fun z => n (.inl z)⟩
    rcases ho ρ d e with ⟨ds, rfl⟩ | ⟨es, rfl⟩
    · exact fun p xs H' s n e r => h _ H' s (.lst e (re.new n) (r.kp kk))
    · exact fun p xs H' s n e r => h _ H' s (.dct e (re.new n) (r.kp kk))
theorem de_F {e : Expr} {f : En → Re PyData} (ho : onlyLD f) (h : PE X e (tF W f)) : PE X e (tD W f) := pe_imp h fun _ _ _ q => tF_of ho q
theorem Kp.op {O : Ow} {H : Hp} {p : Addr} {o : HO} (n : H p = none) : Kp O H (Op O p) (upd H p o) := fun a u e na => by
  have ne : a ≠ p := ne_of_none e n
  refine ⟨by rw [upd_ne ne]; exact e, fun z => ?_⟩
  rcases z with z | z
  · exact na z
  · exact ne z
theorem df_lst {es : List Expr} {fs : En → Re (List PyData)} (h : PA X es (tA W fs)) : PE X (.List es pos) (tF W (eLst fs)) :=
  pe_imp (pe_lst h) fun σ H Q ⟨ρ, O, re, h⟩ => by
    refine ⟨ρ, O, re, ?_⟩
    unfold eLst at h
    cases e : fs ρ with
    | ex c p => rw [e] at h; exact h
    | st => rw [e] at h; exact h
    | ok ds =>
      rw [e] at h
      intro vs H1 s r
      have h : tRF W O (if fits ds.length then .ok (.list ds) else .st) σ H Q := h
      split at h
      · rename_i hf
        refine ⟨by rw [r.len]; exact fits_line hf, fun p hp => h p vs _ (s.trans (same_upd hp)) (s.free hp) upd_same (r.kp (.op hp))⟩
      · exact h.elim
theorem onlyLD_lst {fs : En → Re (List PyData)} : onlyLD (eLst fs) := fun ρ d h => by
  unfold eLst at h
  cases e : fs ρ with
  | ex c p => rw [e] at h; cases h
  | st => rw [e] at h; cases h
  | ok ds =>
    rw [e] at h
    have h : (if fits ds.length then Re.ok (PyData.list ds) else .st) = .ok d := h
    split at h
    · cases h; exact .inl ⟨_, rfl⟩
    · cases h
/-- x = a new thing, written from now on -/
def sOwn (i : Nat) (fe : En → Re PyData) : En → SR := fun ρ => if i < ρ.length then SR.of (fe ρ) ρ fun d => match d with
  | .list ds => .nx (ρ.set i (.ow (.list ds)))
  | .dict es => .nx (ρ.set i (.ow (.dict es)))
  | _ => .st else .st
theorem RS.newO {H0 : Hp} {O0 : Ow} {ρ : En} {σ : Sg} {H H' : Hp} {i : Nat} {p : Addr} {d : PyData} (rs : RS H0 O0 ρ σ H) (s : Same H H') (n : H p = none) (hp : H' p ≠ none) (hi : i < ρ.length) (new : OwR (Op (Oa O0 ρ σ) p) H' p d) : RS H0 O0 (ρ.set i (.ow d)) (σ.set i (some (.ref p))) H' := by
  have sub : ∀ a, Oa O0 (ρ.set i .no) σ a → Oa O0 ρ σ a := fun a o => by
    rcases o with o | ⟨j, e, e1, e2⟩
    · exact .inl o
    · have n : i ≠ j := fun z => by subst z; rw [List.getElem?_set_self hi] at e1; cases e1
      rw [List.getElem?_set_ne n] at e1
      exact .inr ⟨j, e, e1, e2⟩
  refine rs.setO (O1 := Op (Oa O0 (ρ.set i .no) σ) p) (rs.same.free n) (fun b o _ e => s b o e) hp (fun a => Iff.rfl) (fun j e hj e1 e2 => ?_) (fun a o e _ => ne_of_none e n) ?_ hi
  · obtain ⟨q, f1, o, _⟩ := rs.re.at_ j _ e1
    rw [e2] at f1; cases f1
    exact rs.re.dom _ o n
  · have k : Kp (Op (Oa O0 ρ σ) p) H' (Op (Oa O0 (ρ.set i .no) σ) p) H' := fun a o e n => ⟨e, fun z => n (by
      rcases z with z | z
      · exact .inl (sub a z)
      · exact .inr z)⟩
    cases d with
    | list ds => obtain ⟨xs, f1, f2⟩ := new; exact ⟨xs, f1, f2.kp k⟩
    | dict es => obtain ⟨xs, f1, f2⟩ := new; exact ⟨xs, f1, f2.kp k⟩
    | _ => exact new
theorem ds_ownA {st : Stmt} {i : Nat} {fe : En → Re PyData} {te : TE} (h : PS X st (tAsg te (gName i))) (hi : ∀ σ H Q, tF W fe σ H Q → te σ H Q) : PS X st (sD W (sOwn i fe)) := ps_imp h fun D σ H ⟨ρ, H0, O0, rs, h⟩ => by
  unfold sOwn at h
  split at h
  · rename_i hl
    refine hi σ H _ ⟨ρ, _, rs.re, ?_⟩
    cases e : fe ρ with
    | ex c p => rw [e] at h; exact fun H1 s => h σ H1 (rs.heap s)
    | st => rw [e] at h; exact h
    | ok d =>
      rw [e] at h
      cases d with
      | list ds => exact fun p xs H' s n e r => h _ H' (rs.newO s n (by rw [e]; exact fun z => nomatch z) hl ⟨xs, e, r⟩)
      | dict es => exact fun p xs H' s n e r => h _ H' (rs.newO s n (by rw [e]; exact fun z => nomatch z) hl ⟨xs, e, r⟩)
      | _ => exact h.elim
  · exact h.elim
theorem ds_setA {st : Stmt} {i : Nat} {fe : En → Re PyData} {te : TE} (ho : onlyLD fe) (h : PS X st (tAsg te (gName i))) (hi : ∀ σ H Q, tF W fe σ H Q → te σ H Q) : PS X st (sD W (sSet i fe)) := ps_imp h fun D σ H ⟨ρ, H0, O0, rs, h⟩ =>
  hi σ H _ (tF_of ho (goS rs h fun d v H1 rs1 r h1 => h1 _ H1 (rs1.setV r)))
theorem ds_own (i : Nat) {x : Str} {e : Expr} {fe : En → Re PyData} {pos' : Pos} (he : PE X e (tF W fe)) (hN : X.N.Nodup) (hi : X.N[i]? = some x := by rfl) (hx : Loc X.env.scope x := by first | exact Or.inl rfl | exact Or.inr rfl) (hs : swapsWith e (some (.Name x pos')) pos.line X.env = pure false := by rfl)
    (hf : X.fn x = true ∨ X.env.scope.names.lookup x = some .local := by first | exact .inl rfl | exact .inr rfl | assumption) : PS X (.Assign [.Name x pos'] e pos) (sD W (sOwn i fe)) := ds_ownA (ps_set hN hi hx he hs hf) fun _ _ _ q => q
/-- what is written stays apart: a store -/
theorem RS.store {H0 : Hp} {O0 : Ow} {ρ : En} {σ : Sg} {H : Hp} {i : Nat} {p : Addr} {d d' : PyData} {o : HO} (rs : RS H0 O0 ρ σ H) (e : ρ[i]? = some (.ow d)) (ep : σ[i]? = some (some (.ref p))) (new : OwR (Oa O0 ρ σ) (upd H p o) p d') : RS H0 O0 (ρ.set i (.ow d')) σ (upd H p o) := by
  have hi : i < ρ.length := (List.getElem?_eq_some_iff.mp e).1
  have hs : σ = σ.set i (some (.ref p)) := by
    apply List.ext_getElem?
    intro j
    by_cases hj : i = j
    · subst hj
      rw [ep, List.getElem?_set_self (List.getElem?_eq_some_iff.mp ep).1]
    · rw [List.getElem?_set_ne hj]
  have hO : ∀ a, Oa O0 ρ σ a ↔ (Oa O0 (ρ.set i .no) σ a ∨ a = p) := fun a => by
    constructor
    · rintro (z | ⟨j, e', e1, e2⟩)
      · exact .inl (.inl z)
      · by_cases hj : i = j
        · subst hj; rw [ep] at e2; cases e2; exact .inr rfl
        · exact .inl (.inr ⟨j, e', by rw [List.getElem?_set_ne hj]; exact e1, e2⟩)
    · rintro ((z | ⟨j, e', e1, e2⟩) | rfl)
      · exact .inl z
      · have n : i ≠ j := fun z => by subst z; rw [List.getElem?_set_self hi] at e1; cases e1
        rw [List.getElem?_set_ne n] at e1
        exact .inr ⟨j, e', e1, e2⟩
      · exact .inr ⟨i, d, e, ep⟩
  have r := rs.setO (i := i) (p := p) (d := d') (H' := upd H p o) (O1 := Oa O0 ρ σ) (rs.fresh i d p e ep) (fun b u nb eb => by rw [upd_ne nb]; exact eb) (by rw [upd_same]; exact fun z => nomatch z) hO
    (fun j e' hj e1 e2 => hj (rs.inj j i e' d p e1 e e2 ep)) (fun a u _ na z => na (.inr ⟨i, d, e, by rw [z]; exact ep⟩)) new hi
  rw [← hs] at r
  exact r
theorem Kp.own {O : Ow} {H : Hp} {p : Addr} {o : HO} (h : O p) : Kp O H O (upd H p o) := fun a u e n => ⟨by
  have ne : a ≠ p := fun z => n (by rw [z]; exact h)
  rw [upd_ne ne]; exact e, n⟩
/-- x.append(e) -/
def sApp (i : Nat) (fe : En → Re PyData) : En → SR := fun ρ => match ρ[i]? with
  | some (.ow (.list ds)) => SR.of (fe ρ) ρ fun d => if fits (ds.length + 1) then .nx (ρ.set i (.ow (.list (ds ++ [d])))) else .st
  | _ => .st
theorem ds_append (i : Nat) {x : Str} {e : Expr} {fe : En → Re PyData} {p1 p2 p3 : Pos} (he : PE X e (tD W fe)) (hN : X.N[i]? = some x := by rfl) (hv : Vis X.env.scope x := by first | exact Or.inl rfl | exact Or.inr (Or.inl rfl) | exact Or.inr (Or.inr rfl)) (hd : (x == ("__debug__" : Str)) = false := by decide) (hcd : (x == ("__classdict__" : Str)) = false := by decide)
    (hbase : attributeBase (.Name x p1) "append" X.env (eval (.Name x p1) X.env) = eval (.Name x p1) X.env := by rfl)
    (hfew : ((backTo p3 (starEach [e] X.env)).all (fun x => !x.1) && (backToKw p3 (keywordEach [] X.env)).all (fun x => x.1.isSome) && decide (([e] : List Expr).length + ([] : List Keyword).length + (if ([] : List Keyword).isEmpty then 0 else 1) < 30)) = true := by rfl)
    (hline : (p2.endLine == p3.line) = true := by rfl) (hs : starEach [e] X.env = (false, eval e X.env) :: starEach [] X.env := by rfl) (hplain : (backTo p3 (starEach [] X.env)).any (·.1) = false := by rfl) (hsw : swapsWith (.Call (.Attribute (.Name x p1) "append" p2) [e] [] p3) none pos.line X.env = pure false := by rfl) :
    PS X (.Expr (.Call (.Attribute (.Name x p1) "append" p2) [e] [] p3) pos) (sD W (sApp i fe)) :=
  ps_imp (ps_expr (pe_bm PySem.F.plainAttrs_list PySem.F.slot_list_append PySem.F.type_list_append mt_append (pe_var hN hv hd hcd) (pa_cons he pa_nil hs) hbase hfew hline hs hplain) hsw) fun D σ H ⟨ρ, H0, O0, rs, h⟩ => by
    unfold sApp at h
    split at h
    · rename_i ds ei
      obtain ⟨p, ep, op, xs, e1, r1⟩ := rs.re.at_ i _ ei
      refine ⟨.ref p, ep, .inl ⟨rfl, xs, SqL.of e1⟩, goS rs h fun d v H1 rs1 rv h1 => ?_⟩
      split at h1
      · rename_i hf
        obtain ⟨p', ep', op', xs', e1', r1'⟩ := rs1.re.at_ i _ ei
        rw [ep] at ep'; cases ep'
        refine ⟨p, xs', v, rfl, rfl, e1', ?_, h1 _ _ (rs1.store ei ep ⟨xs' ++ [v], upd_same, ?_⟩)⟩
        · have := fits_line hf
          have := r1'.len
          omega
        · exact (r1'.app (.cons rv .nil)).kp (.own op)
      · exact h1.elim
    · exact h.elim
end
end DL

namespace DL
open PySem PySem.Spec L2 PyProof.Rows
section
variable {X : Cx} {W : WX} {pos : Pos}

/-! ## list comprehensions -/
abbrev W0 : WX := fun _ _ _ _ => False
/-- in a comprehension nothing is raised -/
def calmR {α : Type} : Re α → Re α
  | .ok a => .ok a
  | _ => .st
def lcL (t : Tg) (gc : En → Re Bool) (fe : En → Re PyData) (ρ : En) : List PyData → Re (List PyData)
  | [] => .ok []
  | d :: ds => match t d with
    | none => .st
    | some m => (calmR (gc (putD ρ m))).bind fun b => if b then (calmR (fe (putD ρ m))).bind fun y => (lcL t gc fe ρ ds).bind fun ys => .ok (y :: ys) else lcL t gc fe ρ ds
def eLc (own : List Nat) (fi : En → Re (List PyData)) (t : Tg) (gc : En → Re Bool) (fe : En → Re PyData) : En → Re PyData := fun ρ => (fi ρ).bind fun ds => if fits ds.length then (lcL t gc fe (fgt own ρ) ds).bind fun ys => .ok (.list ys) else .st
def gYes : En → Re Bool := fun _ => .ok true
theorem pts_imp {e : List Expr} {t t' : TT} (h : PTs X e t) (i : ∀ σ H Q, t' σ H Q → t σ H Q) : PTs X e t' := ⟨fun pins s σ H Q I q => h.run pins s σ H Q I (i σ H Q q)⟩
theorem dts_nil : PTs X [] (DL.tB W gYes) := pts_imp pts_nil fun σ H Q ⟨ρ, O, re, h⟩ => h.here
theorem dts_one {c : Expr} {g : En → Re Bool} (h : PT X c (DL.tB W g)) : PTs X [c] (DL.tB W g) := pts_one h
/-- the slots of a target -/
def tgIn (t : Tg) (vs : List Nat) : Prop := ∀ d m, t d = some m → ∀ p ∈ m, p.1 ∈ vs
theorem tgIn_name {i : Nat} {vs : List Nat} (h : i ∈ vs) : tgIn (tgName i) vs := fun d m e p hp => by
  cases e
  rw [List.mem_singleton] at hp
  subst hp
  exact h
theorem tgIn_all {vs : List Nat} : ∀ {ts : List Tg}, (∀ t ∈ ts, tgIn t vs) → ∀ ds m, tgAll ts ds = some m → ∀ p ∈ m, p.1 ∈ vs
  | [], _, [], m, e, p, hp => by cases e; cases hp
  | [], _, _ :: _, m, e, p, hp => by cases e
  | _ :: _, _, [], m, e, p, hp => by cases e
  | t :: ts, h, d :: ds, m, e, p, hp => by
    have e : ((t d).bind fun l => (tgAll ts ds).bind fun m => some (l ++ m)) = some m := e
    cases e1 : t d with
    | none => rw [e1] at e; cases e
    | some l1 =>
      rw [e1] at e
      cases e2 : tgAll ts ds with
      | none => simp [e2] at e
      | some l2 =>
        simp only [e2, Option.bind_some, Option.some.injEq] at e
        subst e
        rcases List.mem_append.mp hp with q | q
        · exact h t List.mem_cons_self d l1 e1 p q
        · exact tgIn_all (fun t' ht => h t' (List.mem_cons_of_mem _ ht)) ds l2 e2 p q
theorem tgIn_tup {vs : List Nat} {ts : List Tg} (h : ∀ t ∈ ts, tgIn t vs) : tgIn (tgTup ts) vs := fun d m e => by
  cases d with
  | tuple ds => exact tgIn_all h ds m e
  | _ => cases e
theorem wipe_at {σ : Sg} {i : Nat} {vs : List Nat} (h : i ∉ vs) : (wipe σ vs)[i]? = σ[i]? := wipe_out h
theorem putV_at {i : Nat} : ∀ {l : List (Nat × V)} {σ : Sg}, (∀ p ∈ l, p.1 ≠ i) → (putV σ l)[i]? = σ[i]?
  | [], _, _ => rfl
  | (j, v) :: l, σ, h => by
    show (putV (σ.set j (some v)) l)[i]? = _
    rw [putV_at fun p hp => h p (List.mem_cons_of_mem _ hp), List.getElem?_set_ne (h (j, v) List.mem_cons_self)]
theorem wipe_in {σ : Sg} {i : Nat} : ∀ {vs : List Nat}, i ∈ vs → i < σ.length → (wipe σ vs)[i]? = some none
  | v :: vs, h, hl => by
    unfold wipe
    by_cases e : v = i
    · subst e; rw [List.getElem?_set_self (by rw [wipe_length]; exact hl)]
    · rw [List.getElem?_set_ne e]
      rcases List.mem_cons.mp h with z | z
      · exact absurd z.symm e
      · exact wipe_in z hl
theorem wipe_ext {σ τ : Sg} {vs : List Nat} (hl : τ.length = σ.length) (h : ∀ i, i ∉ vs → τ[i]? = σ[i]?) : wipe τ vs = wipe σ vs := by
  apply List.ext_getElem?
  intro i
  by_cases hi : i ∈ vs
  · by_cases hlt : i < σ.length
    · rw [wipe_in hi hlt, wipe_in hi (by rw [hl]; exact hlt)]
    · rw [List.getElem?_eq_none (by rw [wipe_length, hl]; omega), List.getElem?_eq_none (by rw [wipe_length]; omega)]
  · rw [wipe_at hi, wipe_at hi, h i hi]
theorem fgt_len : ∀ (l : List Nat) (ρ : En), (fgt l ρ).length = ρ.length
  | [], _ => rfl
  | i :: l, ρ => by show (fgt l (ρ.set i .no)).length = _; rw [fgt_len l]; simp
theorem fgt_at : ∀ (l : List Nat) (ρ : En) (i : Nat) (s : Sl), (fgt l ρ)[i]? = some s → s = .no ∨ (i ∉ l ∧ ρ[i]? = some s)
  | [], _, i, s, h => .inr ⟨by simp, h⟩
  | j :: l, ρ, i, s, h => by
    rcases fgt_at l (ρ.set j .no) i s h with q | ⟨q1, q2⟩
    · exact .inl q
    · by_cases e : j = i
      · subst e
        by_cases hl : j < ρ.length
        · rw [List.getElem?_set_self hl] at q2; cases q2; exact .inl rfl
        · rw [List.getElem?_eq_none (by simpa using hl)] at q2; cases q2
      · rw [List.getElem?_set_ne e] at q2
        exact .inr ⟨fun z => by rcases List.mem_cons.mp z with z | z
                                · exact e z.symm
                                · exact q1 z, q2⟩
theorem RE.blk {O O' : Ow} {ρ : En} {σ : Sg} {H H' : Hp} {vs : List Nat} (r : RE O ρ σ H) (s : Same H H') (hO : ∀ a o, H a = some o → (O' a ↔ O a)) (hd : ∀ a, O' a → H' a ≠ none) : RE O' (fgt vs ρ) (wipe σ vs) H' := by
  have k : Kp O H O' H' := fun a o e n => ⟨s a o e, fun z => n ((hO a o e).mp z)⟩
  refine ⟨by rw [wipe_length, fgt_len]; exact r.len, hd, fun i x e => ?_⟩
  rcases fgt_at vs ρ i x e with q | ⟨q1, q2⟩
  · subst q; trivial
  · have z := r.at_ i x q2
    rw [wipe_at q1]
    cases x with
    | no => trivial
    | va d => obtain ⟨y, e1, e2⟩ := z; exact ⟨y, e1, e2.kp k⟩
    | ow d =>
      obtain ⟨p, e1, o, e2⟩ := z
      cases d with
      | list ds => obtain ⟨xs, f1, f2⟩ := e2; exact ⟨p, e1, (hO p _ f1).mpr o, xs, s _ _ f1, f2.kp k⟩
      | dict es => obtain ⟨xs, f1, f2⟩ := e2; exact ⟨p, e1, (hO p _ f1).mpr o, xs, s _ _ f1, f2.kp k⟩
      | _ => exact e2.elim
    | ex c p => trivial
theorem calm_ok {α : Type} {r : Re α} {a : α} (h : calmR r = .ok a) : r = .ok a := by
  cases r with
  | ok b => exact h
  | ex c p => cases h
  | st => cases h
theorem lcL_noex {t : Tg} {gc : En → Re Bool} {fe : En → Re PyData} {ρ : En} {c : Value} {p : Option PyData} : ∀ ds : List PyData, lcL t gc fe ρ ds ≠ .ex c p
  | [], h => by cases h
  | d :: ds, h => by
    unfold lcL at h
    split at h
    · cases h
    · rename_i m _
      cases e1 : calmR (gc (putD ρ m)) with
      | ok b =>
        rw [e1] at h
        cases b with
        | true =>
          have h : ((calmR (fe (putD ρ m))).bind fun y => (lcL t gc fe ρ ds).bind fun ys => .ok (y :: ys)) = .ex c p := h
          cases e2 : calmR (fe (putD ρ m)) with
          | ok y =>
            rw [e2] at h
            cases e3 : lcL t gc fe ρ ds with
            | ok ys => simp [e3] at h
            | ex c' p' => exact lcL_noex ds e3
            | st => simp [e3] at h
          | ex c' p' => revert e2; cases fe (putD ρ m) <;> intro e2 <;> cases e2
          | st => rw [e2] at h; cases h
        | false => exact lcL_noex ds h
      | ex c' p' => revert e1; cases gc (putD ρ m) <;> intro e1 <;> cases e1
      | st => rw [e1] at h; cases h
theorem impLc {own : List Nat} {fi : En → Re (List PyData)} {t : Tg} {gc : En → Re Bool} {fe : En → Re PyData} (ht : tgIn t own) (σ : Sg) (H : Hp) (Q : VK) (h : tF W (eLc own fi t gc fe) σ H Q) : tLc (iD W fi) (gA t) (DL.tB W0 gc) (tD W0 fe) own σ H Q := by
  obtain ⟨ρ, O, re, h⟩ := h
  refine ⟨ρ, O, re, ?_⟩
  unfold eLc at h
  cases e : fi ρ with
  | ex c p => rw [e] at h; exact h
  | st => rw [e] at h; exact h
  | ok ds =>
    rw [e] at h
    intro J H1 s itd D nD
    have h : tRF W O (if fits ds.length then (lcL t gc fe (fgt own ρ) ds).bind fun ys => .ok (.list ys) else .st) σ H Q := h
    split at h
    · rename_i hf
      cases eL : lcL t gc fe (fgt own ρ) ds with
      | ex c p => exact absurd eL (lcL_noex ds)
      | st => rw [eL] at h; exact h.elim
      | ok res =>
        rw [eL] at h
        have h : ∀ p xs H', Same H H' → H p = none → H' p = some (.lst xs) → RpL (Op O p) H' xs res → Q (.ref p) H' := h
        have re1 := re.same s
        have hOp : ∀ a o, H1 a = some o → (Op O D a ↔ O a) := fun a o e => ⟨fun z => z.elim id fun z => absurd z (ne_of_none e nD), .inl⟩
        refine ⟨fun i m H2 => ∃ acc vs rest, i ≤ ds.length ∧ m = ds.length - i ∧ Same H1 H2 ∧ H2 D = some (.lst vs) ∧ RpL (Op O D) H2 vs acc ∧ vs.length ≤ i ∧ lcL t gc fe (fgt own ρ) (ds.drop i) = .ok rest ∧ acc ++ rest = res,
          ⟨ds.length, [], [], res, Nat.zero_le _, rfl, same_upd nD, upd_same, .nil, Nat.zero_le _, eL, rfl⟩, ?_⟩
        rintro i m H2 ⟨acc, vs, rest, hi, rfl, s2, eD, rl, hvl, hL, hres⟩
        have dm : ∀ a, Op O D a → H2 a ≠ none := fun a z => by
          rcases z with z | z
          · intro q
            exact re1.dom a z (s2.free q)
          · rw [z, eD]; exact fun q => nomatch q
        have k2 : Kp O H1 (Op O D) H2 := fun a o e n => ⟨s2 a o e, fun z => n ((hOp a o e).mp z)⟩
        obtain ⟨hstop, hgo⟩ := itd H2 (Op O D) k2 dm
        by_cases hlt : i < ds.length
        · have hd : ds[i]? = some ds[i] := List.getElem?_eq_getElem hlt
          obtain ⟨g1, g2⟩ := hgo i _ hd
          rw [List.drop_eq_getElem_cons hlt] at hL
          refine .inr ⟨g1, fun H5 => ∃ acc vs rest, Same H1 H5 ∧ H5 D = some (.lst vs) ∧ RpL (Op O D) H5 vs acc ∧ vs.length ≤ i + 1 ∧ lcL t gc fe (fgt own ρ) (ds.drop (i + 1)) = .ok rest ∧ acc ++ rest = res, ?_, fun x H3 y => ?_⟩
          · rintro H5 ⟨acc, vs, rest, f1, f2, f3, f4, f5, f6⟩
            exact ⟨ds.length - (i + 1), by omega, acc, vs, rest, hlt, rfl, f1, f2, f3, f4, f5, f6⟩
          · obtain ⟨s3, rx⟩ := g2 x H3 y
            unfold lcL at hL
            cases et : t ds[i] with
            | none => rw [et] at hL; cases hL
            | some mm =>
              rw [et] at hL
              refine ⟨_, _, mm, rx, et, fun l yl => ⟨?_, ?_⟩⟩
              · have hin : ∀ p ∈ l, p.1 ∈ own := by
                  have hmm := ht _ _ et
                  clear hL et rx y
                  induction yl with
                  | nil => intro p hp; cases hp
                  | @cons i v d l m a b ih =>
                    intro p hp
                    rcases List.mem_cons.mp hp with z | z
                    · rw [z]; exact hmm (i, d) List.mem_cons_self
                    · exact ih (fun p hp => hmm p (List.mem_cons_of_mem _ hp)) p z
                refine (wipe_ext (by rw [putV_len, wipe_length]) fun j hj => ?_)
                rw [putV_at (i := j) (fun p hp (z : p.1 = j) => hj (by rw [← z]; exact hin p hp)), wipe_at hj]
              · have s13 := s2.trans s3
                have eD3 := s3 _ _ eD
                have dm3 : ∀ a, Op O D a → H3 a ≠ none := fun a z q => dm a z (s3.free q)
                have reb : RE (Op O D) (fgt own ρ) (wipe σ own) H3 := re1.blk s13 hOp dm3
                have reP : RE (Op O D) (putD (fgt own ρ) mm) (putV (wipe σ own) l) H3 := RE.put _ _ _ _ reb reb.len yl
                refine ⟨_, _, reP, ?_⟩
                cases eg : gc (putD (fgt own ρ) mm) with
                | ex c p => simp [eg, calmR] at hL
                | st => simp [eg, calmR] at hL
                | ok b =>
                  intro H4 s4
                  have reP4 := reP.same s4
                  cases b with
                  | false =>
                    refine iteF ⟨acc, vs, rest, s13.trans s4, s4 _ _ eD3, rl.kp (.same (s3.trans s4)), by omega, ?_, hres⟩
                    simpa [eg, calmR] using hL
                  | true =>
                    refine iteT ⟨_, _, reP4, ?_⟩
                    cases ef : fe (putD (fgt own ρ) mm) with
                    | ex c p => simp [eg, ef, calmR] at hL
                    | st => simp [eg, ef, calmR] at hL
                    | ok yd =>
                      intro yv H5 s5 ry
                      simp only [eg, ef, calmR, Re.bind_ok, if_true] at hL
                      cases eR : lcL t gc fe (fgt own ρ) (ds.drop (i + 1)) with
                      | ex c p => exact absurd eR (lcL_noex _)
                      | st => rw [eR] at hL; cases hL
                      | ok rest' =>
                        rw [eR] at hL
                        cases hL
                        have eD5 := s5 _ _ (s4 _ _ eD3)
                        have kD : Kp (Op O D) H5 (Op O D) (upd H5 D (.lst (vs ++ [yv]))) := .own (.inr rfl)
                        refine ⟨vs, eD5, ?_, acc ++ [yd], vs ++ [yv], rest', fun b o eb => ?_, upd_same, ?_, ?_, rfl, ?_⟩
                        · have := fits_line hf
                          omega
                        · have nb : b ≠ D := ne_of_none eb nD
                          rw [upd_ne nb]
                          exact s5 _ _ (s4 _ _ (s13 _ _ eb))
                        · exact ((rl.kp (.same ((s3.trans s4).trans s5))).app (.cons ry .nil)).kp kD
                        · rw [List.length_append]; simp; omega
                        · rw [List.append_assoc]; exact hres
        · have e : i = ds.length := by omega
          subst e
          rw [List.drop_length] at hL
          cases hL
          rw [List.append_nil] at hres
          subst hres
          exact .inl ⟨hstop, h D vs H2 (s.trans s2) (s.free nD) eD rl⟩
    · exact h.elim
theorem onlyLD_lc {own : List Nat} {fi : En → Re (List PyData)} {t : Tg} {gc : En → Re Bool} {fe : En → Re PyData} : onlyLD (eLc own fi t gc fe) := fun ρ d h => by
  unfold eLc at h
  cases e : fi ρ with
  | ex c p => rw [e] at h; cases h
  | st => rw [e] at h; cases h
  | ok ds =>
    rw [e] at h
    have h : (if fits ds.length then (lcL t gc fe (fgt own ρ) ds).bind fun ys => Re.ok (PyData.list ys) else .st) = .ok d := h
    split at h
    · cases e2 : lcL t gc fe (fgt own ρ) ds with
      | ok ys => rw [e2] at h; cases h; exact .inl ⟨_, rfl⟩
      | ex c p => rw [e2] at h; cases h
      | st => rw [e2] at h; cases h
    · cases h
theorem df_lc {elt tg iter : Expr} {ifs : List Expr} {scope : Scope} (own : List (Str × Nat)) {fi : En → Re (List PyData)} {t : Tg} {gc : En → Re Bool} {fe : En → Re PyData} (ht : tgIn t (own.map (·.2))) (hc : X.calm = true) (hN : X.N.Nodup) (hi : PI X tg iter (iD W fi)) (ok : BlkOk X.N X.env.scope scope own)
    (hg : ∀ (s : Shared) (H : Hp) (C : Addr) (cl : List (Str × Addr)) (fp : List Addr), PG (X.blk s H scope (compEnvC scope cl C X.env) fp) tg (gA t)) (hts : ∀ (s : Shared) (H : Hp) (C : Addr) (cl : List (Str × Addr)) (fp : List Addr), PTs (X.blk s H scope (compEnvC scope cl C X.env) fp) ifs (DL.tB W0 gc))
    (he : ∀ (s : Shared) (H : Hp) (C : Addr) (cl : List (Str × Addr)) (fp : List Addr), PE (X.blk s H scope (compEnvC scope cl C X.env) fp) elt (tD W0 fe)) (hs : ∀ x, foldedSetIterable iter X.env x = pure x := by intro _; rfl) :
    PE X (.ListComp elt [⟨tg, iter, ifs, 0⟩] scope pos) (tF W (eLc (own.map (·.2)) fi t gc fe)) := pe_imp (pe_lc hc hN hi ok hg hts he hs) (impLc ht)
/-- y = [..] on one line -/
theorem ps_lcS {i : Nat} {y : Str} {py spos : Pos} {elt tg iter : Expr} {ifs : List Expr} {scope : Scope} (own : List (Str × Nat)) {fi : En → Re (List PyData)} {t : Tg} {gc : En → Re Bool} {fe : En → Re PyData} (ht : tgIn t (own.map (·.2))) (hc : X.calm = true) (hN : X.N.Nodup) (hi : PI X tg iter (iD W fi)) (ok : BlkOk X.N X.env.scope scope own)
    (hg : ∀ (s : Shared) (H : Hp) (C : Addr) (cl : List (Str × Addr)) (fp : List Addr), PG (X.blk s H scope (compEnvC scope cl C X.env) fp) tg (gA t)) (hts : ∀ (s : Shared) (H : Hp) (C : Addr) (cl : List (Str × Addr)) (fp : List Addr), PTs (X.blk s H scope (compEnvC scope cl C X.env) fp) ifs (DL.tB W0 gc))
    (he : ∀ (s : Shared) (H : Hp) (C : Addr) (cl : List (Str × Addr)) (fp : List Addr), PE (X.blk s H scope (compEnvC scope cl C X.env) fp) elt (tD W0 fe)) (hy : X.N[i]? = some y) (hyl : X.env.scope.names.lookup y = some .local)
    (hsw : swapsWith (.ListComp elt [⟨tg, iter, ifs, 0⟩] scope pos) (some (.Name y py)) spos.line X.env = pure true) (hs : ∀ x, foldedSetIterable iter X.env x = pure x := by intro _; rfl) :
    PS X (.Assign [.Name y py] (.ListComp elt [⟨tg, iter, ifs, 0⟩] scope pos) spos) (tAsg (tF W (eLc (own.map (·.2)) fi t gc fe)) (gName i)) :=
  ps_imp (ps_setLc hc hN hy hyl hsw hi ok hg hts he hs) fun D σ H h => impLc ht σ H _ h

/-! ## a def by its body -/
def fnD (n L : Nat) (fb : En → SR) (ds : List PyData) : Re PyData := if ds.length = n then (match fb (ds.map .va ++ List.replicate (L - n) .no) with
  | .rt d => .ok d
  | .nx _ => .ok .none
  | .ex c p _ => .ex c p
  | .st => .st) else .st
theorem fnD_len {n L : Nat} {fb : En → SR} (ds : List PyData) (h : fnD n L fb ds ≠ .st) : ds.length = n := by
  unfold fnD at h
  split at h
  · assumption
  · exact absurd rfl h
abbrev WEx (E : XK) : WX := fun c d _ H => E c d H
theorem okD {P : Program} {w : World} {K : PySem.W.Frag} {mg : Str → Option Value} {base : Heap} {x qual : Str} {st : Stmt} {f : Addr} {fd : FuncData} {N ps : List Str} {k n : Nat} {fb : En → SR} (F : Fun K x qual st f fd) (S : FnScope N ps (defScope st)) (hn : ps.length = n)
    (hbody : ∀ (cdv : Value) (A : Around) (outer : List Env) (s : Shared) (H : Hp) (E : XK), Room k (A.deeper (envOfC qual (defScope st) s.heap.objs.size f cdv)) →
      PSs (cxOf (L2.CX P w) P w K mg base N qual (defScope st) f cdv A outer s H E) (defBody st) (sD (WEx E) fb)) : FnOk P w K mg base (L2.CX P w) (k + 1) f fd ps (DSp n (fnD n N.length fb)) := by
  refine F.okX S (fun vs H Q E h => ?_) (fun cdv A outer s H vs Q E hr h => ⟨_, hbody cdv A outer s H E hr, ?_⟩)
  · obtain ⟨ds, O, hl, _⟩ := h
    rw [hl, hn]
  · obtain ⟨ds, O, hl, hd, rl, h⟩ := h
    have hdl : ds.length = n := by rw [← rl.len, hl]
    have hNl : n ≤ N.length := by
      have := congrArg List.length S.pre
      rw [List.length_take] at this
      omega
    have noOw : ∀ (i : Nat) (d : PyData), ¬ (ds.map Sl.va ++ List.replicate (N.length - n) Sl.no)[i]? = some (.ow d) := fun i d e => by
      rcases List.mem_append.mp (List.mem_of_getElem? e) with z | z
      · obtain ⟨y, _, z⟩ := List.mem_map.mp z; cases z
      · cases (List.mem_replicate.mp z).2
    have Oeq : Oa O (ds.map Sl.va ++ List.replicate (N.length - n) Sl.no) (L2.start N vs) = O := funext fun a => propext ⟨fun z => z.elim id fun ⟨i, d, e, _⟩ => absurd e (noOw i d), .inl⟩
    have hlen : (L2.start N vs).length = (ds.map Sl.va ++ List.replicate (N.length - n) Sl.no).length := by
      unfold L2.start
      simp only [List.length_append, List.length_map, List.length_replicate]
      omega
    refine ⟨ds.map .va ++ List.replicate (N.length - n) .no, H, O, ⟨hlen, Same.refl H, ⟨hlen, ?_, fun i s e => ?_⟩, fun i d p e _ => absurd e (noOw i d), fun i j d e p e1 _ _ _ => absurd e1 (noOw i d), hd⟩, ?_⟩
    · rw [Oeq]; exact hd
    · rw [Oeq]
      by_cases hi : i < ds.length
      · rw [List.getElem?_append_left (by simpa using hi), List.getElem?_map, List.getElem?_eq_getElem hi] at e
        cases e
        obtain ⟨v, hv, rv⟩ := rl.get (List.getElem?_eq_getElem hi)
        refine ⟨v, ?_, rv⟩
        unfold L2.start
        have hiv : i < vs.length := by rw [rl.len]; exact hi
        rw [List.getElem?_append_left (by simpa using hiv), List.getElem?_map, hv]
        rfl
      · rw [List.getElem?_append_right (by simpa using hi)] at e
        have := (List.mem_replicate.mp (List.mem_of_getElem? e)).2
        subst this
        trivial
    · unfold fnD at h
      rw [if_pos hdl] at h
      cases eb : fb (ds.map .va ++ List.replicate (N.length - n) .no) with
      | rt d => rw [eb] at h; exact fun v H' s r => h v H' s r
      | nx ρ' => rw [eb] at h; exact fun σ' H' r => h .non H' r.same .non
      | ex c p ρ' =>
        rw [eb] at h
        intro σ' H' r
        have := h H' r.same
        cases p with
        | none => exact this
        | some d => exact fun a v e rv => this a v e rv.out
      | st => rw [eb] at h; exact h
/-- raise C('..') -/
def sRaise (c : Value) : En → SR := fun ρ => .ex c none ρ
theorem ds_raise {C : Addr} {e : Expr} (hc : X.calm = true) (tk : Takes X W) (he : PMk X e (fun _ H Q => Q (.ref C) none H)) : PS X (.Raise (some e) none pos) (sD W (sRaise (.ref C))) := ps_imp (ps_raise hc tk he) fun D σ H ⟨ρ, H0, O0, rs, h⟩ => h σ H rs
end
end DL

namespace DL
open PySem PySem.Spec L2 PyProof.Rows
section
variable {X : Cx} {W : WX} {pos : Pos} {a b : Expr} {fa fb : En → Re PyData}

/-! ## built-in functions of ints -/
def OpN (W : WX) (g : List PyData → Re PyData) (r : List V → Hp → VK → Prop) : Prop := ∀ (σ : Sg) (O : Ow) (ρ : En) (H : Hp) (xs : List V) (ds : List PyData) (Q : VK), RE O ρ σ H → RpL O H xs ds → tR W O (g ds) σ H Q → r xs H Q
theorem de_blt {id : String} {x : Str} {p : Pos} {e : Expr} {es : List Expr} {fs : En → Re (List PyData)} {r : List V → Hp → VK → Prop} {g : List PyData → Re PyData} (hc : CallR X (.builtin id) r) (hr : OpN W g r) (hm : X.mg x = none) (hv : bootBuiltins x = some (.builtin id)) (ha : PA X (e :: es) (tA W fs)) (hg : Gl X x := by rfl) (hn : x ≠ "__name__" := by decide) (hdb : (x == ("__debug__" : Str)) = false := by decide)
    (he : starEach (e :: es) X.env = (false, eval e X.env) :: starEach es X.env := by rfl) (hpl : (backTo pos (starEach es X.env)).any (·.1) = false := by rfl) : PE X (.Call (.Name x p) (e :: es) [] pos) (tD W (eCall g fs)) :=
  pe_imp (pe_callB hc hg hm hv ha hn hdb he hpl) fun σ H Q ⟨ρ, O, re, h⟩ => goA re h fun ds xs H1 re1 _ rx h1 => hr σ O ρ H1 xs ds Q re1 rx h1
theorem de_bty {T : String} {x : Str} {p : Pos} {e : Expr} {es : List Expr} {fs : En → Re (List PyData)} {r : List V → Hp → VK → Prop} {g : List PyData → Re PyData} (hc : CallR X (.type T) r) (hr : OpN W g r) (hm : X.mg x = none) (hv : bootBuiltins x = some (.type T)) (ha : PA X (e :: es) (tA W fs)) (hg : Gl X x := by rfl) (hn : x ≠ "__name__" := by decide) (hdb : (x == ("__debug__" : Str)) = false := by decide)
    (he : starEach (e :: es) X.env = (false, eval e X.env) :: starEach es X.env := by rfl) (hpl : (backTo pos (starEach es X.env)).any (·.1) = false := by rfl) : PE X (.Call (.Name x p) (e :: es) [] pos) (tD W (eCall g fs)) :=
  pe_imp (pe_callTy hc hg hm hv ha hn hdb he hpl) fun σ H Q ⟨ρ, O, re, h⟩ => goA re h fun ds xs H1 re1 _ rx h1 => hr σ O ρ H1 xs ds Q re1 rx h1
def gMax : List PyData → Re PyData
  | [.int i, .int j] => .ok (.int (if j > i then j else i))
  | _ => .st
def gMin : List PyData → Re PyData
  | [.int i, .int j] => .ok (.int (if j < i then j else i))
  | _ => .st
def gAbs : List PyData → Re PyData
  | [.int i] => .ok (.int (if i < 0 then -i else i))
  | _ => .st
def gInt : List PyData → Re PyData
  | [.int i] => .ok (.int i)
  | [.bool k] => .ok (.int (if k then 1 else 0))
  | _ => .st
theorem n_max : OpN W gMax (fun xs H Q => ∃ i j, xs = [.int i, .int j] ∧ Q (.int (if j > i then j else i)) H) := by
  intro σ O ρ H xs ds Q re rx h
  unfold gMax at h
  split at h
  · cases rx with
    | cons r1 r => cases r with
      | cons r2 r => cases r; cases r1.i_int; cases r2.i_int; exact ⟨_, _, rfl, h.here (.int _)⟩
  · exact h.elim
theorem n_min : OpN W gMin (fun xs H Q => ∃ i j, xs = [.int i, .int j] ∧ Q (.int (if j < i then j else i)) H) := by
  intro σ O ρ H xs ds Q re rx h
  unfold gMin at h
  split at h
  · cases rx with
    | cons r1 r => cases r with
      | cons r2 r => cases r; cases r1.i_int; cases r2.i_int; exact ⟨_, _, rfl, h.here (.int _)⟩
  · exact h.elim
theorem n_abs : OpN W gAbs (fun xs H Q => ∃ i, xs = [.int i] ∧ Q (.int (if i < 0 then -i else i)) H) := by
  intro σ O ρ H xs ds Q re rx h
  unfold gAbs at h
  split at h
  · cases rx with
    | cons r1 r => cases r; cases r1.i_int; exact ⟨_, rfl, h.here (.int _)⟩
  · exact h.elim
theorem n_int : OpN W gInt (fun xs H Q => (∃ i, xs = [.int i] ∧ Q (.int i) H) ∨ ∃ k, xs = [.bl k] ∧ Q (.int (if k then 1 else 0)) H) := by
  intro σ O ρ H xs ds Q re rx h
  unfold gInt at h
  split at h
  · cases rx with
    | cons r1 r => cases r; cases r1.i_int; exact .inl ⟨_, rfl, h.here (.int _)⟩
  · cases rx with
    | cons r1 r => cases r; cases r1.i_bl; exact .inr ⟨_, rfl, h.here (.int _)⟩
  · exact h.elim
theorem de_max {p : Pos} {fs : En → Re (List PyData)} (hc : X.calm = true) (hm : X.mg "max" = none) (ha : PA X [a, b] (tA W fs)) (hg : Gl X "max" := by rfl) (he : starEach [a, b] X.env = (false, eval a X.env) :: starEach [b] X.env := by rfl) (hpl : (backTo pos (starEach [b] X.env)).any (·.1) = false := by rfl) :
    PE X (.Call (.Name "max" p) [a, b] [] pos) (tD W (eCall gMax fs)) := de_blt (call_max2 hc) n_max hm (by decide +kernel) ha hg (he := he) (hpl := hpl)
theorem de_min {p : Pos} {fs : En → Re (List PyData)} (hc : X.calm = true) (hm : X.mg "min" = none) (ha : PA X [a, b] (tA W fs)) (hg : Gl X "min" := by rfl) (he : starEach [a, b] X.env = (false, eval a X.env) :: starEach [b] X.env := by rfl) (hpl : (backTo pos (starEach [b] X.env)).any (·.1) = false := by rfl) :
    PE X (.Call (.Name "min" p) [a, b] [] pos) (tD W (eCall gMin fs)) := de_blt (call_min2 hc) n_min hm (by decide +kernel) ha hg (he := he) (hpl := hpl)
theorem de_abs {p : Pos} {fs : En → Re (List PyData)} (hm : X.mg "abs" = none) (ha : PA X [a] (tA W fs)) (hg : Gl X "abs" := by rfl) (he : starEach [a] X.env = (false, eval a X.env) :: starEach [] X.env := by rfl) :
    PE X (.Call (.Name "abs" p) [a] [] pos) (tD W (eCall gAbs fs)) := de_blt call_abs n_abs hm (by decide +kernel) ha hg (he := he)
theorem de_int1 {p : Pos} {fs : En → Re (List PyData)} (hm : X.mg "int" = none) (ha : PA X [a] (tA W fs)) (hg : Gl X "int" := by rfl) (he : starEach [a] X.env = (false, eval a X.env) :: starEach [] X.env := by rfl) :
    PE X (.Call (.Name "int" p) [a] [] pos) (tD W (eCall gInt fs)) := de_bty call_int1 n_int hm (by decide +kernel) ha hg (he := he)
/-! ### ints of a list or tuple -/
def intsOf : List PyData → Option (List Int)
  | [] => some []
  | .int i :: r => (intsOf r).map (i :: ·)
  | _ => none
theorem intsOf_ok : ∀ {ds : List PyData} {ns : List Int}, intsOf ds = some ns → ds = ns.map .int
  | [], ns, h => by cases h; rfl
  | .int i :: r, ns, h => by
    have h : (intsOf r).map (i :: ·) = some ns := h
    cases e : intsOf r with
    | none => rw [e] at h; cases h
    | some m =>
      rw [e] at h
      cases h
      rw [intsOf_ok e]; rfl
  | .none :: _, _, h => by cases h
  | .bool _ :: _, _, h => by cases h
  | .str _ :: _, _, h => by cases h
  | .list _ :: _, _, h => by cases h
  | .tuple _ :: _, _, h => by cases h
  | .dict _ :: _, _, h => by cases h
@[simp] theorem intsOf_map : ∀ (ns : List Int), intsOf (ns.map .int) = some ns
  | [] => rfl
  | i :: r => by
    show (intsOf (r.map .int)).map (i :: ·) = _
    rw [intsOf_map r]; rfl
def gSum : List PyData → Re PyData
  | [.list ds] => match intsOf ds with
    | some ns => .ok (.int ns.sum)
    | none => .st
  | [.tuple ds] => match intsOf ds with
    | some ns => .ok (.int ns.sum)
    | none => .st
  | _ => .st
theorem sum_tup {prog : Program} {w : World} {A : Around} {E : Value → Shared → Prop} {s : Shared} {l : Addr} {its : List Value} {ns : List Int} {Q : Value → Shared → Prop} (hh : A.handled = none) (hl : IsTup s.heap l its.toArray) (hi : IntsAre its ns)
    (h : ∀ h' tk t', (∀ b o, s.heap.get? b = some o → h'.get? b = some o) → Q (.int ns.sum t') { s with heap := h', toks := tk }) : wpAny (model prog w) A (call (.builtin "sum") [.ref l]) Q E s := by
  obtain ⟨xs, e⟩ := hi.allInts.items
  have hn : numsOf (intItems xs).toList = ns := by rw [← e]; exact hi.numsOf
  rw [nums_intItems] at hn
  rw [e] at hl
  have hlt : l < s.heap.objs.size := hl.lt
  refine PySem.call_sum_walkG (wpAny_pyIter_tuple (show s.heap.IsTuple l (intItems xs) from hl) ?_)
  refine ⟨_, [s.heap.objs.size, l], [s.heap.objs.size], _, _, _, numAt xs, rfl, Walks.tuple (A := A.in1) hh s.heap.objs.size l (Nat.ne_of_lt hlt) (intItems xs), ⟨⟨_, Heap.get?_push_size _ rfl, rfl, rfl⟩, hl.push _⟩, ?_, (fun _ _ => intItems_at), fun h' tk t' hk => ?_⟩
  · intro b hb
    rw [Heap.size_push]
    rcases List.mem_cons.mp hb with z | z
    · rw [z]; exact Nat.lt_succ_self _
    · rw [List.mem_singleton.mp z]; exact Nat.lt_succ_of_lt hlt
  · have := h h' tk t' (fun b o e => hk b o (by
      intro z
      rw [List.mem_singleton.mp z] at e
      exact absurd (Heap.lt_size e) (Nat.lt_irrefl _)) (Heap.get?_push_of_some _ e))
    rw [preSum_eq, List.take_of_length_le (by simp [intItems])]
    rw [hn]; exact this
end
end DL

namespace DL
open PySem PySem.Spec L2 PyProof.Rows
section
variable {X : Cx} {W : WX} {pos : Pos} {a b : Expr} {fa fb : En → Re PyData}
theorem cr_sumT (hc : X.calm = true) : CallR X (.builtin "sum") (fun vs H Q => ∃ (a : Addr) (ns : List Int), vs = [V.ref a] ∧ SqT X.K H a (ns.map V.int) ∧ Q (.int ns.sum) H) := by
  intro pins s σ H xs us Q I r h
  obtain ⟨a, ns, rfl, hq, q⟩ := h
  obtain ⟨u, rfl, ru⟩ := vals1 r
  cases ru
  obtain ⟨its, rv, pl, hz⟩ := I.tuple hq
  exact sum_tup (I.ok.hd hc) pl (intsAre_of rv) fun h' tk t' hk => ⟨.int ns.sum, H, I.kept hk, ⟨t', rfl⟩, q⟩
theorem n_sum : OpN W gSum (fun vs H Q => rSum X.K vs H Q ∨ ∃ (a : Addr) (ns : List Int), vs = [V.ref a] ∧ SqT X.K H a (ns.map V.int) ∧ Q (.int ns.sum) H) := by
  intro σ O ρ H xs ds Q re rx h
  unfold gSum at h
  split at h
  · cases rx with
    | cons r1 r =>
      cases r
      obtain ⟨a, xs, rfl, ea, _, q⟩ := r1.i_lst
      split at h
      · rename_i ns hn
        have := intsOf_ok hn
        subst this
        have := q.ints
        subst this
        exact .inl ⟨a, ns, rfl, SqL.of ea, h.here (.int _)⟩
      · exact h.elim
  · cases rx with
    | cons r1 r =>
      cases r
      obtain ⟨a, xs, rfl, ea, _, q⟩ := r1.i_tup
      split at h
      · rename_i ns hn
        have := intsOf_ok hn
        subst this
        have := q.ints
        subst this
        exact .inr ⟨a, ns, rfl, SqT.of ea, h.here (.int _)⟩
      · exact h.elim
  · exact h.elim
theorem de_sum {p : Pos} {fs : En → Re (List PyData)} (hc : X.calm = true) (hm : X.mg "sum" = none) (ha : PA X [a] (tA W fs)) (hg : Gl X "sum" := by rfl) (he : starEach [a] X.env = (false, eval a X.env) :: starEach [] X.env := by rfl) :
    PE X (.Call (.Name "sum" p) [a] [] pos) (tD W (eCall gSum fs)) := de_blt ((cr_sum hc).or (cr_sumT hc)) n_sum hm (by decide +kernel) ha hg (he := he)
/-! ## list(..), tuple(..) -/
def dTuple : PyData → Re PyData
  | .list ds => .ok (.tuple ds)
  | .tuple ds => .ok (.tuple ds)
  | _ => .st
theorem de_tuple {p : Pos} (hm : X.mg "tuple" = none) (ha : PE X a (tL W fa)) (hg : Gl X "tuple" := by rfl) (he : starEach [a] X.env = (false, eval a X.env) :: starEach [] X.env := by rfl) :
    PE X (.Call (.Name "tuple" p) [a] [] pos) (tD W (e1 dTuple fa)) :=
  pe_imp (pe_callTy call_tuple_of hg hm (by decide +kernel) (pa_cons ha pa_nil he) (he := he)) fun σ H Q ⟨ρ, O, re, h⟩ => goL re h fun d x H1 re1 _ rx h1 => by
    cases d with
    | list ds =>
      obtain ⟨a, xs, rfl, ea, q⟩ := rx.i_lst
      exact ⟨a, xs, rfl, .inl ⟨SqL.of ea, fun p hp => h1.newT re1 hp q⟩⟩
    | tuple ds =>
      rcases rx with rx | ⟨p, _, r⟩
      · obtain ⟨a, xs, rfl, ea, _, q⟩ := rx.i_tup
        exact ⟨a, xs, rfl, .inr ⟨SqT.of ea, h1.here rx⟩⟩
      · exact r.elim
    | _ => exact h1.elim
def dList : PyData → Re PyData
  | .list ds => .ok (.list ds)
  | .tuple ds => .ok (.list ds)
  | _ => .st
theorem onlyLD_list : onlyLD (e1 dList fa) := fun ρ d h => by
  unfold e1 at h
  cases e : fa ρ with
  | ok x =>
    rw [e] at h
    cases x <;> first | (cases h; exact .inl ⟨_, rfl⟩) | cases h
  | ex c p => rw [e] at h; cases h
  | st => rw [e] at h; cases h
theorem goLF {g : PyData → Re PyData} {σ : Sg} {O : Ow} {ρ : En} {H : Hp} {Q R : VK} (re : RE O ρ σ H) (h : tRF W O ((fa ρ).bind g) σ H Q) (k : ∀ d x H1, RE O ρ σ H1 → Same H H1 → Lk O H1 x d → tRF W O (g d) σ H Q → R x H1) : tL W fa σ H R := by
  refine ⟨ρ, O, re, ?_⟩
  cases e : fa ρ with
  | ok d => rw [e] at h; exact fun v H1 s q => k d v H1 (re.same s) s q h
  | ex c p => rw [e] at h; exact h
  | st => rw [e] at h; exact h
theorem goDF {g : PyData → Re PyData} {σ : Sg} {O : Ow} {ρ : En} {H : Hp} {Q R : VK} (re : RE O ρ σ H) (h : tRF W O ((fa ρ).bind g) σ H Q) (k : ∀ d x H1, RE O ρ σ H1 → Same H H1 → Rp O H1 x d → tRF W O (g d) σ H Q → R x H1) : tD W fa σ H R := by
  refine ⟨ρ, O, re, ?_⟩
  cases e : fa ρ with
  | ok d => rw [e] at h; exact fun v H1 s q => k d v H1 (re.same s) s q h
  | ex c p => rw [e] at h; exact h
  | st => rw [e] at h; exact h
theorem goAF {fs : En → Re (List PyData)} {g : List PyData → Re PyData} {σ : Sg} {O : Ow} {ρ : En} {H : Hp} {Q : VK} {R : List V → Hp → Prop} (re : RE O ρ σ H) (h : tRF W O ((fs ρ).bind g) σ H Q) (k : ∀ d x H1, RE O ρ σ H1 → Same H H1 → RpL O H1 x d → tRF W O (g d) σ H Q → R x H1) : tA W fs σ H R := by
  refine ⟨ρ, O, re, ?_⟩
  cases e : fs ρ with
  | ok d => rw [e] at h; exact fun v H1 s q => k d v H1 (re.same s) s q h
  | ex c p => rw [e] at h; exact h
  | st => rw [e] at h; exact h
theorem tRF.newL {O : Ow} {σ : Sg} {H H1 : Hp} {Q : VK} {ds : List PyData} {xs : List V} {p : Addr} (h : tRF W O (.ok (.list ds)) σ H Q) (s : Same H H1) (n : H1 p = none) (r : RpL O H1 xs ds) : Q (.ref p) (upd H1 p (.lst xs)) :=
  h p xs _ (s.trans (same_upd n)) (s.free n) upd_same (r.kp (.op n))
theorem df_list {p : Pos} (hm : X.mg "list" = none) (ha : PE X a (tL W fa)) (hg : Gl X "list" := by rfl) (he : starEach [a] X.env = (false, eval a X.env) :: starEach [] X.env := by rfl) :
    PE X (.Call (.Name "list" p) [a] [] pos) (tF W (e1 dList fa)) :=
  pe_imp (pe_callTy call_list_of hg hm (by decide +kernel) (pa_cons ha pa_nil he) (he := he)) fun σ H Q ⟨ρ, O, re, h⟩ => goLF re h fun d x H1 re1 s rx h1 => by
    cases d with
    | list ds =>
      obtain ⟨a, xs, rfl, ea, q⟩ := rx.i_lst
      exact ⟨a, xs, rfl, .inl (SqL.of ea), fun p hp => h1.newL s hp q⟩
    | tuple ds =>
      obtain ⟨a, xs, rfl, ea, q⟩ := rx.i_tup
      exact ⟨a, xs, rfl, .inr (SqT.of ea), fun p hp => h1.newL s hp q⟩
    | _ => exact h1.elim
/-- list(range(n)) -/
def dLR1 : PyData → Re PyData
  | .int n => if decide (0 ≤ n) && decide (n ≤ 1000000) then .ok (.list (rngD 0 n.toNat)) else .st
  | _ => .st
theorem onlyLD_LR : onlyLD (e1 dLR1 fa) := fun ρ d h => by
  unfold e1 at h
  cases e : fa ρ with
  | ok x =>
    rw [e] at h
    cases x with
    | int n =>
      have h : (if decide (0 ≤ n) && decide (n ≤ 1000000) then Re.ok (PyData.list (rngD 0 n.toNat)) else .st) = .ok d := h
      split at h
      · cases h; exact .inl ⟨_, rfl⟩
      · cases h
    | _ => cases h
  | ex c p => rw [e] at h; cases h
  | st => rw [e] at h; cases h
theorem rgV_rp {O : Ow} {H : Hp} (n : Int) : RpL O H (rgV 0 n) (rngD 0 n.toNat) := by
  unfold rgV rngD
  rw [Int.sub_zero]
  generalize List.range n.toNat = l
  induction l with
  | nil => exact .nil
  | cons i l ih => exact .cons (.int _) ih
theorem df_lr1 {p p2 q : Pos} (hc : X.calm = true) (hm : X.mg "list" = none) (hm2 : X.mg "range" = none) (ha : PE X a (tD W fa)) (hg : Gl X "list" := by rfl) (hg2 : Gl X "range" := by rfl) (na : starEach [a] X.env = (false, eval a X.env) :: starEach [] X.env := by rfl)
    (nb : starEach [.Call (.Name "range" p2) [a] [] q] X.env = (false, eval (.Call (.Name "range" p2) [a] [] q) X.env) :: starEach [] X.env := by rfl) : PE X (.Call (.Name "list" p) [.Call (.Name "range" p2) [a] [] q] [] pos) (tF W (e1 dLR1 fa)) :=
  pe_imp (pe_listRg hc hg hm (prg_1 hg2 hm2 ha na) nb) fun σ H Q ⟨ρ, O, re, h⟩ => goDF re h fun d x H1 re1 s rx h1 => by
    cases d with
    | int n =>
      cases rx.i_int
      have h1 : tRF W O (if decide (0 ≤ n) && decide (n ≤ 1000000) then Re.ok (PyData.list (rngD 0 n.toNat)) else .st) σ H Q := h1
      split at h1
      · rename_i hh
        simp only [Bool.and_eq_true, decide_eq_true_eq] at hh
        exact ⟨n, rfl, RgOk.of_le (by omega) (by omega) (by omega) hh.1, fun q hq => h1.newL s hq (rgV_rp n)⟩
      · exact h1.elim
    | _ => exact h1.elim
/-- xs * n -/
def dRep (d e : PyData) : Re PyData := match d, e with
  | .list xs, .int k => if decide (0 ≤ k) && decide (k ≤ 100000) && decide (xs.length ≤ 100) then .ok (.list (List.replicate k.toNat xs).flatten) else .st
  | _, _ => .st
theorem df_rep (ha : PE X a (tD W fa)) (hb : PE X b (tD W fb)) : PE X (.BinOp a .Mult b pos) (tF W (e2 dRep fa fb)) :=
  pe_imp (pe_op op_rep ha hb) fun σ H Q ⟨ρ, O, re, h⟩ => goDF re h fun d x H1 re1 s1 rx h1 => by
    refine ⟨ρ, O, re1, ?_⟩
    cases e : fb ρ with
    | ex c p => rw [e] at h1; exact fun H2 s2 => h1 H2 (s1.trans s2)
    | st => rw [e] at h1; exact h1
    | ok k =>
      rw [e] at h1
      intro y H2 s2 ry
      have h1 : tRF W O (dRep d k) σ H Q := h1
      unfold dRep at h1
      split at h1
      · split at h1
        · rename_i hh
          simp only [Bool.and_eq_true, decide_eq_true_eq] at hh
          obtain ⟨a, xs, rfl, ea, na, ra⟩ := (rx.kp (.same s2)).i_lst
          cases ry.i_int
          have hl := ra.len
          refine ⟨a, _, xs, rfl, rfl, ea, by omega, by omega, ?_, fun p hp => h1.newL (s1.trans s2) hp (ra.rep _)⟩
          rw [sizeLine_eq]
          have h1 : xs.length ≤ 100 := by omega
          exact Nat.le_trans (Nat.mul_le_mul h1 (show _ ≤ 100000 by omega)) (by decide)
        · exact h1.elim
      · exact h1.elim
/-! ## stores -/
theorem goSS {fe : En → Re PyData} {H0 : Hp} {O0 : Ow} {ρ : En} {σ : Sg} {H : Hp} {D : Ends} {k : PyData → SR} {R : VK} (rs : RS H0 O0 ρ σ H) (h : tS W H0 O0 (SR.of (fe ρ) ρ k) D) (q : ∀ d v H1, Same H H1 → RS H0 O0 ρ σ H1 → Rp (Oa O0 ρ σ) H1 v d → tS W H0 O0 (k d) D → R v H1) : tD W fe σ H R := by
  refine ⟨ρ, _, rs.re, ?_⟩
  cases e : fe ρ with
  | ok d => rw [e] at h; exact fun v H1 s r => q d v H1 s (rs.heap s) r h
  | ex c p => rw [e] at h; exact fun H1 s => h σ H1 (rs.heap s)
  | st => rw [e] at h; exact h
def sStL (i : Nat) (fx fe : En → Re PyData) : En → SR := fun ρ => SR.of (fe ρ) ρ fun d => match ρ[i]? with
  | some (.ow (.list ds)) => SR.of (fx ρ) ρ fun k => match k with
    | .int z => match ixN ds.length z with
      | some j => .nx (ρ.set i (.ow (.list (ds.set j d))))
      | none => .st
    | _ => .st
  | _ => .st
theorem ds_stL (i : Nat) {x : Str} {e ix : Expr} {fx fe : En → Re PyData} {p1 p2 : Pos} (he : PE X e (tD W fe)) (hx : PE X ix (tD W fx)) (hN : X.N[i]? = some x := by rfl) (hv : Vis X.env.scope x := by first | exact Or.inl rfl | exact Or.inr (Or.inl rfl) | exact Or.inr (Or.inr rfl)) (hd : (x == ("__debug__" : Str)) = false := by decide) (hcd : (x == ("__classdict__" : Str)) = false := by decide)
    (ha : ∀ v, assign (.Subscript (.Name x p1) ix p2) X.env v = (do
      let ov ← holding [v] (eval (.Name x p1) X.env)
      let iv ← holding [v, ov] (eval ix X.env)
      standAt p2
      holding [v, ov, iv] (setItem ov iv v)
      release [v, ov, iv] []) := by intro _; rfl)
    (hs : swapsWithSole [.Subscript (.Name x p1) ix p2] e pos.line X.env = pure false := by rfl) (hw : swappedStores [.Subscript (.Name x p1) ix p2] e X.env = pure none := by rfl)
    (h1 : (assignEach [.Subscript (.Name x p1) ix p2] X.env).map (·.2) = [assign (.Subscript (.Name x p1) ix p2) X.env] := by rfl) : PS X (.Assign [.Subscript (.Name x p1) ix p2] e pos) (sD W (sStL i fx fe)) :=
  ps_imp (ps_asg he (pg_sub (pe_var hN hv hd hcd) hx set_list ha) hs hw h1) fun D σ H ⟨ρ, H0, O0, rs, h⟩ => goS rs h fun d v H1 rs1 rv h1 => by
    split at h1
    · rename_i ds ei
      obtain ⟨p, ep, op, xs, e1, r1⟩ := rs1.re.at_ i _ ei
      refine ⟨.ref p, ep, goSS rs1 h1 fun k y H2 s2 rs2 ry h2 => ?_⟩
      split at h2
      · split at h2
        · rename_i j hj
          cases ry.i_int
          obtain ⟨p', ep', op', xs', e1', r1'⟩ := rs2.re.at_ i _ ei
          rw [ep] at ep'; cases ep'
          have sm : Rp (Oa O0 ρ σ) H2 v d := rv.kp (.same s2)
          refine ⟨p, xs', _, j, rfl, rfl, e1', by rw [r1'.len]; exact hj, h2 _ _ (rs2.store ei ep ⟨xs'.set j v, upd_same, ?_⟩)⟩
          exact (r1'.set sm j).kp (.own op)
        · exact h2.elim
      · exact h2.elim
    · exact h1.elim
/-! d[k] = e -/
def putE (es : List (PyData × PyData)) (k d : PyData) : List (PyData × PyData) := if (es.any fun e => keyB e.1 k) then es.map (fun e => if keyB e.1 k then (e.1, d) else e) else es ++ [(k, d)]
theorem RpD.len {O : Ow} {H : Hp} : ∀ {kvs : List (Key × V)} {es : List (PyData × PyData)}, RpD O H kvs es → kvs.length = es.length
  | _, _, .nil => rfl
  | _, _, .cons _ b => congrArg (· + 1) (RpD.len b)
theorem RpD.any {O : Ow} {H : Hp} (k : Key) : ∀ {kvs : List (Key × V)} {es : List (PyData × PyData)}, RpD O H kvs es → (kvs.any fun kv => decide (kv.1 = k)) = es.any fun e => keyB e.1 (keyD k)
  | _, _, .nil => rfl
  | _, _, .cons _ b => by
    rw [List.any_cons, List.any_cons, RpD.any k b, keyB_iff]
theorem RpD.snoc {O : Ow} {H : Hp} {k : Key} {v : V} {d : PyData} (r : Rp O H v d) : ∀ {kvs : List (Key × V)} {es : List (PyData × PyData)}, RpD O H kvs es → RpD O H (kvs ++ [(k, v)]) (es ++ [(keyD k, d)])
  | _, _, .nil => .cons r .nil
  | _, _, .cons a b => .cons a (RpD.snoc r b)
theorem RpD.upd {O : Ow} {H : Hp} {k : Key} {v : V} {d : PyData} (r : Rp O H v d) : ∀ {kvs : List (Key × V)} {es : List (PyData × PyData)}, RpD O H kvs es → RpD O H (kvs.map fun kv => if kv.1 = k then (kv.1, v) else kv) (es.map fun e => if keyB e.1 (keyD k) then (e.1, d) else e)
  | _, _, .nil => .nil
  | _, _, .cons (k := j) a b => by
    rw [List.map_cons, List.map_cons]
    by_cases e : j = k
    · have h1 : keyB (keyD j) (keyD k) = true := by rw [keyB_iff]; exact decide_eq_true e
      simp only [e, if_true] at *
      rw [if_pos h1]
      exact .cons r (RpD.upd r b)
    · have h1 : keyB (keyD j) (keyD k) = false := by rw [keyB_iff]; exact decide_eq_false e
      simp only [e, if_false, h1] at *
      exact .cons a (RpD.upd r b)
theorem RpD.put {O : Ow} {H : Hp} {k : Key} {v : V} {d : PyData} (r : Rp O H v d) {kvs : List (Key × V)} {es : List (PyData × PyData)} (q : RpD O H kvs es) : RpD O H (putK kvs k v) (putE es (keyD k) d) := by
  unfold putK putE
  rw [q.any k]
  split
  · exact q.upd r
  · exact q.snoc r
def sStD (i : Nat) (fx fe : En → Re PyData) : En → SR := fun ρ => SR.of (fe ρ) ρ fun d => match ρ[i]? with
  | some (.ow (.dict es)) => SR.of (fx ρ) ρ fun k => if isKey k && fits (es.length + 1) then .nx (ρ.set i (.ow (.dict (putE es k d)))) else .st
  | _ => .st
theorem ds_stD (i : Nat) {x : Str} {e ix : Expr} {fx fe : En → Re PyData} {p1 p2 : Pos} (hu : X.A.units + 1 < cLine) (he : PE X e (tD W fe)) (hx : PE X ix (tD W fx)) (hN : X.N[i]? = some x := by rfl) (hv : Vis X.env.scope x := by first | exact Or.inl rfl | exact Or.inr (Or.inl rfl) | exact Or.inr (Or.inr rfl)) (hd : (x == ("__debug__" : Str)) = false := by decide) (hcd : (x == ("__classdict__" : Str)) = false := by decide)
    (hs : swapsWith e (some (.Subscript (.Name x p1) ix p2)) pos.line X.env = pure false := by rfl) : PS X (.Assign [.Subscript (.Name x p1) ix p2] e pos) (sD W (sStD i fx fe)) :=
  ps_imp (ps_dput hu (pe_var hN hv hd hcd) hx he hs) fun D σ H ⟨ρ, H0, O0, rs, h⟩ => goS rs h fun d v H1 rs1 rv h1 => by
    split at h1
    · rename_i es ei
      obtain ⟨p, ep, op, kvs, e1, r1⟩ := rs1.re.at_ i _ ei
      refine ⟨.ref p, ep, goSS rs1 h1 fun k y H2 s2 rs2 ry h2 => ?_⟩
      split at h2
      · rename_i hk
        rw [Bool.and_eq_true] at hk
        obtain ⟨kk, rfl⟩ := key_of hk.1
        cases rp_key ry
        obtain ⟨p', ep', op', kvs', e1', r1'⟩ := rs2.re.at_ i _ ei
        rw [ep] at ep'; cases ep'
        have sm : Rp (Oa O0 ρ σ) H2 v d := rv.kp (.same s2)
        refine ⟨p, _, rfl, DPut.k e1' ?_, h2 _ _ (rs2.store ei ep ⟨_, upd_same, (r1'.put sm).kp (.own op)⟩)⟩
        have := fits_line hk.2
        have := r1'.len
        omega
      · exact h2.elim
    · exact h1.elim
/-! {k: v}, {} -/
def eDct1 (fk fv : En → Re PyData) : En → Re PyData := fun ρ => (fk ρ).bind fun k => (fv ρ).bind fun v => if isKey k then .ok (.dict [(k, v)]) else .st
def eDct0 : En → Re PyData := fun _ => .ok (.dict [])
theorem onlyLD_d0 : onlyLD eDct0 := fun ρ d h => by cases h; exact .inr ⟨_, rfl⟩
theorem onlyLD_d1 {fk fv : En → Re PyData} : onlyLD (eDct1 fk fv) := fun ρ d h => by
  unfold eDct1 at h
  cases e : fk ρ with
  | ok k =>
    rw [e] at h
    cases e2 : fv ρ with
    | ok v =>
      simp only [e2, Re.bind_ok] at h
      split at h
      · cases h; exact .inr ⟨_, rfl⟩
      · cases h
    | ex c p => simp only [e2, Re.bind_ok, Re.bind_ex] at h; cases h
    | st => simp only [e2, Re.bind_ok, Re.bind_st] at h; cases h
  | ex c p => rw [e] at h; cases h
  | st => rw [e] at h; cases h
theorem df_d0 : PE X (.Dict [] [] pos) (tF W eDct0) := pe_imp pe_dnewK fun σ H Q ⟨ρ, O, re, h⟩ => fun p hp => h p [] _ (same_upd hp) hp upd_same .nil
theorem df_d1 {k v : Expr} {fk fv : En → Re PyData} (hk : PE X k (tD W fk)) (hv : PE X v (tD W fv)) : PE X (.Dict [some k] [v] pos) (tF W (eDct1 fk fv)) :=
  pe_imp (pe_disp (pps_cons hk hv pps_nil) (by rfl) (by rfl) (fun z => by cases z) (show 1 ≤ 15 by decide)) fun σ H Q ⟨ρ, O, re, h⟩ => fun p hp => by
    have s0 : Same H (upd H p (.dK [])) := same_upd hp
    have reO : RE (Op O p) ρ σ (upd H p (.dK [])) := by
      refine ⟨re.len, fun a z => ?_, fun i s e => ?_⟩
      · rcases z with z | z
        · intro q
          exact re.dom a z (s0.free q)
        · rw [z, upd_same]; exact fun q => nomatch q
      · have z := re.at_ i s e
        have k : Kp O H (Op O p) (upd H p (.dK [])) := .op hp
        cases s with
        | no => trivial
        | va d => obtain ⟨x, e1, e2⟩ := z; exact ⟨x, e1, e2.kp k⟩
        | ow d =>
          obtain ⟨q, e1, o, e2⟩ := z
          refine ⟨q, e1, .inl o, ?_⟩
          cases d with
          | list ds => obtain ⟨xs, f1, f2⟩ := e2; exact ⟨xs, s0 _ _ f1, f2.kp k⟩
          | dict es => obtain ⟨xs, f1, f2⟩ := e2; exact ⟨xs, s0 _ _ f1, f2.kp k⟩
          | _ => exact e2
        | ex c p => trivial
    unfold eDct1 at h
    refine ⟨ρ, _, reO, ?_⟩
    cases e : fk ρ with
    | ex c q =>
      rw [e] at h
      intro H' s'
      have := h H' (s0.trans s')
      cases q with
      | none => exact this
      | some d => exact fun a v ea rv => this a v ea (rv.kp fun a o e n => ⟨e, fun z => n (.inl z)⟩)
    | st => rw [e] at h; exact h
    | ok kd =>
      rw [e] at h
      intro x H1 s1 rx
      refine ⟨ρ, _, reO.same s1, ?_⟩
      cases e2 : fv ρ with
      | ex c q =>
        simp only [e2, Re.bind_ok, Re.bind_ex] at h
        intro H' s'
        have := h H' ((s0.trans s1).trans s')
        cases q with
        | none => exact this
        | some d => exact fun a v ea rv => this a v ea (rv.kp fun a o e n => ⟨e, fun z => n (.inl z)⟩)
      | st => simp only [e2, Re.bind_ok, Re.bind_st] at h; exact h
      | ok vd =>
        simp only [e2, Re.bind_ok] at h
        intro y H2 s2 ry
        split at h
        · rename_i hk
          obtain ⟨kk, rfl⟩ := key_of hk
          cases rp_key (rx.kp (.same s2))
          have ep : H2 p = some (.dK []) := s2 _ _ (s1 _ _ upd_same)
          refine ⟨ep, [(kk, y)], rfl, (show 1 ≤ 15 by decide), ?_⟩
          refine h p _ _ (fun b o eb => ?_) hp upd_same ?_
          · have nb : b ≠ p := ne_of_none eb hp
            rw [upd_ne nb]
            exact s2 _ _ (s1 _ _ (s0 _ _ eb))
          · exact (RpD.cons ry .nil).kp (.own (.inr rfl))
        · exact h.elim
end
end DL

namespace DL
open PySem PySem.Spec L2 PyProof.Rows
def bNot (g : En → Re Bool) : En → Re Bool := fun ρ => (g ρ).bind fun b => .ok (!b)
def bTru (f : En → Re PyData) : En → Re Bool := fun ρ => (f ρ).bind truth
def sFrz (i : Nat) (f : En → SR) : En → SR := fun ρ => f (frz i ρ)
section
variable {X : Cx} {W : WX} {pos : Pos} {a b : Expr} {fa fb : En → Re PyData}
/-! ## lists and tuples are walked alike -/
theorem pi_either {tg e : Expr} {t u : TI} (h1 : PI X tg e t) (h2 : PI X tg e u) : PI X tg e (fun σ H Q => t σ H Q ∨ u σ H Q) := ⟨fun pins s σ H Q I h => h.elim (h1.run pins s σ H Q I) (h2.run pins s σ H Q I)⟩
theorem ps_either {st : Stmt} {t u : TS} (h1 : PS X st t) (h2 : PS X st u) : PS X st (fun D σ H => t D σ H ∨ u D σ H) := ⟨fun pins s σ H D I h => h.elim (h1.run pins s σ H D I) (h2.run pins s σ H D I)⟩
def iSeq (fa : En → Re PyData) : En → Re (List PyData) := fun ρ => (fa ρ).bind fun d => match d with
  | .list ds => .ok ds
  | .tuple ds => .ok ds
  | _ => .st
theorem di_seq {tg l : Expr} (hl : PE X l (tD W fa)) : PI X tg l (iD W (iSeq fa)) := pi_imp (pi_either (di_list (tg := tg) hl) (di_tup hl)) fun σ H R ⟨ρ, O, re, h⟩ => by
  unfold iSeq at h
  cases e : fa ρ with
  | ex c p => rw [e] at h; exact .inl ⟨ρ, O, re, by unfold DL.iList; rw [e]; exact h⟩
  | st => rw [e] at h; exact h.elim
  | ok d =>
    rw [e] at h
    cases d with
    | list ds => exact .inl ⟨ρ, O, re, by unfold DL.iList; rw [e]; exact h⟩
    | tuple ds => exact .inr ⟨ρ, O, re, by unfold DL.iTup; rw [e]; exact h⟩
    | _ => exact h.elim
/-! x[k] = e, x a list or a dict -/
def sSto (i : Nat) (fx fe : En → Re PyData) : En → SR := fun ρ => match ρ[i]? with
  | some (.ow (.dict _)) => sStD i fx fe ρ
  | _ => sStL i fx fe ρ
theorem ds_sto (i : Nat) {x : Str} {e ix : Expr} {fx fe : En → Re PyData} {p1 p2 : Pos} (hu : X.A.units + 1 < cLine) (he : PE X e (tD W fe)) (hx : PE X ix (tD W fx)) (hN : X.N[i]? = some x := by rfl) (hv : Vis X.env.scope x := by first | exact Or.inl rfl | exact Or.inr (Or.inl rfl) | exact Or.inr (Or.inr rfl)) (hd : (x == ("__debug__" : Str)) = false := by decide) (hcd : (x == ("__classdict__" : Str)) = false := by decide)
    (ha : ∀ v, assign (.Subscript (.Name x p1) ix p2) X.env v = (do
      let ov ← holding [v] (eval (.Name x p1) X.env)
      let iv ← holding [v, ov] (eval ix X.env)
      standAt p2
      holding [v, ov, iv] (setItem ov iv v)
      release [v, ov, iv] []) := by intro _; rfl)
    (hs : swapsWithSole [.Subscript (.Name x p1) ix p2] e pos.line X.env = pure false := by rfl) (hw : swappedStores [.Subscript (.Name x p1) ix p2] e X.env = pure none := by rfl)
    (h1 : (assignEach [.Subscript (.Name x p1) ix p2] X.env).map (·.2) = [assign (.Subscript (.Name x p1) ix p2) X.env] := by rfl) (hs2 : swapsWith e (some (.Subscript (.Name x p1) ix p2)) pos.line X.env = pure false := by rfl) : PS X (.Assign [.Subscript (.Name x p1) ix p2] e pos) (sD W (sSto i fx fe)) :=
  ps_imp (ps_either (ds_stL i he hx hN hv hd hcd ha hs hw h1) (ds_stD i hu he hx hN hv hd hcd hs2)) fun D σ H ⟨ρ, H0, O0, rs, h⟩ => by
    unfold sSto at h
    split at h
    · exact .inr ⟨ρ, H0, O0, rs, h⟩
    · exact .inl ⟨ρ, H0, O0, rs, h⟩
/-- a, b = x, y where a name is captured: laid one after the other -/
theorem ds_parC (i j : Nat) {st : Stmt} {fs : En → Re (List PyData)} (h : PS X st (sD W (sAsg (tgTup [tgName i, tgName j]) (eTup fs)))) : PS X st (sD W (sPar i j fs)) := ps_imp h fun D σ H ⟨ρ, H0, O0, rs, h⟩ => ⟨ρ, H0, O0, rs, by
  unfold sPar at h
  unfold sAsg eTup
  cases e : fs ρ with
  | ex c p => rw [e] at h; exact h
  | st => rw [e] at h; exact h
  | ok ds =>
    rw [e] at h
    match ds, h with
    | [d, e], h => exact h
    | [], h => exact h.elim
    | [_], h => exact h.elim
    | _ :: _ :: _ :: _, h => exact h.elim⟩
/-! ## len(set(xs)) of ints -/
def ddup (ns : List Int) : List Int := ns.foldl (fun acc x => if acc.any (· == x) then acc else acc ++ [x]) []
theorem firstMet_ddup (ns : List Int) : firstMet (fun i => ns.getD i 0) ns.length = ddup ns := by
  have e : (List.range ns.length).map (fun i => ns.getD i 0) = ns := by
    apply List.ext_getElem?
    intro i
    rw [List.getElem?_map]
    by_cases h : i < ns.length
    · rw [List.getElem?_range h, List.getElem?_eq_getElem h]
      simp [List.getD_eq_getElem?_getD, List.getElem?_eq_getElem h]
    · rw [List.getElem?_eq_none (by simpa using h), List.getElem?_eq_none (by omega)]
      rfl
  unfold firstMet
  rw [e]
  rfl
def dLenSet : PyData → Re PyData
  | .list ds => match intsOf ds with
    | some ns => if decide (ns.length ≤ 4000) then .ok (.int (ddup ns).length) else .st
    | none => .st
  | _ => .st
theorem ddup_len (ns : List Int) : (ddup ns).length ≤ ns.length := by
  rw [← firstMet_ddup]; exact firstMet_length_le _ _
theorem de_lenSet {p p2 q : Pos} (hc : X.calm = true) (hm : X.mg "len" = none) (hm2 : X.mg "set" = none) (ha : PE X a (tD W fa)) (hg : Gl X "len" := by rfl) (hg2 : Gl X "set" := by rfl) (na : starEach [a] X.env = (false, eval a X.env) :: starEach [] X.env := by rfl) :
    PE X (.Call (.Name "len" p) [.Call (.Name "set" p2) [a] [] q] [] pos) (tD W (e1 dLenSet fa)) := by
  refine ⟨fun pins s σ H Q I h => ?_⟩
  obtain ⟨ρ, O, re, h⟩ := h
  refine Call_ (ld_blt I hg hm boot_len ?_)
  refine callWith_builtin1 (args_cons ?_ rfl) rfl rfl
  refine Call_ (ld_blt I hg2 hm2 boot_set ?_)
  refine callWith_type1 (args_cons (thn (ha.run pins s σ H _ I (goD (R := fun x H1 => ∃ (l : Addr) (ns : List Int), x = .ref l ∧ SqL X.K H1 l (ns.map V.int) ∧ ns.length ≤ 4000 ∧ Q (.int ((ddup ns).length : Nat)) H1) re h fun d x H1 re1 _ rx h1 => ?_)) fun v s1 ⟨x, H1, I1, r1, q1⟩ => args_nil ?_) na) na rfl
  · cases d with
    | list ds =>
      obtain ⟨l, xs, rfl, ea, _, qq⟩ := rx.i_lst
      have h2 : tR W O (match intsOf ds with
        | some ns => if decide (ns.length ≤ 4000) then .ok (.int (ddup ns).length) else .st
        | none => .st) σ H1 Q := h1
      split at h2
      · rename_i ns hn
        split at h2
        · rename_i hl
          have e := intsOf_ok hn
          rw [e] at qq
          have e := qq.ints
          rw [e] at ea
          exact ⟨l, ns, rfl, SqL.of ea, of_decide_eq_true hl, h2.here (.int _)⟩
        · exact h2.elim
      · exact h2.elim
    | _ => exact h1.elim
  · obtain ⟨l, ns, rfl, hq, hl, q1⟩ := q1
    cases r1
    obtain ⟨its, r, pl, hz⟩ := I1.list hq
    have hlen : its.toArray.size = ns.length := by rw [List.size_toArray, ← r.length, List.length_map]
    refine call_set_list (I1.ok.hd hc) pl.isList (by simpa using intsAre_of r) (by rw [hlen]; unfold scanBound; omega) fun h' tk hS hk => ?_
    refine args_nil ?_
    rw [hlen, firstMet_ddup] at hS
    obtain ⟨o, es, ep, t, ho, hex, hd, _, _, _, hf, hn⟩ := hS
    have I2 : Inv X pins σ H1 { s1 with heap := h', toks := tk } := I1.kept fun b o e => hk b o (Heap.lt_size e) e
    have := ddup_len ns
    exact call_len_set ho hex hd hf (by rw [hn] <;> omega) ⟨.int (ddup ns).length, H1, I2.tok _, ⟨_, by rw [hn]⟩, q1⟩
end
end DL

namespace DL
open PySem PySem.Spec L2 PyProof.Rows
/-! ## the end -/
theorem lookup_mem {α : Type} : ∀ {l : List (Addr × α)} {a : Addr} {o : α}, l.lookup a = some o → (a, o) ∈ l
  | [], _, _, h => by cases h
  | (b, u) :: l, a, o, h => by
    rw [List.lookup_cons] at h
    by_cases e : a = b
    · subst e
      simp at h
      subst h
      exact List.mem_cons_self
    · have : (a == b) = false := by simpa using e
      rw [this] at h
      exact List.mem_cons_of_mem _ (lookup_mem h)
theorem noX {P : Program} {w : World} {H : Hp} {s s' : Shared} {e : Value} (h : L2.CX P w [] H s (fun _ _ _ => False) e s') : False := by
  obtain ⟨_, _, _, _, _, _, _, _, _, _, _, _, z⟩ := h
  exact z
/-- the script stands in H, and the law's function gives True of it -/
theorem law_in {K : PySem.W.Frag} {H : Hp} {a : Addr} {ns : List Int} {g : List PyData → Re PyData} (hO : Only H) (hS : SqL K H a (ns.map V.int)) (hK : (K.all fun p => p.2.cls != .type "list") = true) (h : g [scrD ns] = .ok (.bool true)) :
    DSp 1 g [.ref a] H (fun v _ => v = .bl true) fun _ _ _ => False := by
  refine ⟨[scrD ns], fun _ => False, rfl, fun _ z => z.elim, .cons ?_ .nil, ?_⟩
  · rcases hS with (hS | ⟨o, hS⟩) | ⟨o, its, n, hk, hc, _⟩
    · rcases hO a with q | ⟨o, xs, q⟩
      · rw [q] at hS; cases hS
      · rw [q] at hS; cases hS
    · exact .scr hS fun z => z
    · exfalso
      have hm : (a, o) ∈ K := lookup_mem hk
      have := List.all_eq_true.mp hK (a, o) hm
      rw [hc] at this
      simp at this
  · rw [h]
    exact fun v H' _ r => r.i_bl
end DL

/-! ## enumerate of a tuple -/
namespace PySem
open AutoSeq1 (wpAny_loadPart')
theorem dl_enumNewT (tp : Addr) (vs : Array Value) (m : Nat) (dq : Option Addr) (sq : Array (Option Value)) :
    Meets (Builtin.«enumerate.__new__» ⟨[.type "enumerate", .ref tp], []⟩) (fun _ R s => s.heap.get? tp = some { cls := .type "tuple", dict := dq, data := .seq vs m, slots := sq } ∧
      R (.ok (.ret (.ref (s.heap.push { cls := .type "tuple_iterator", data := .fields #[.ref tp, .int 0 0] }).objs.size)))
        { s with heap := (s.heap.push { cls := .type "tuple_iterator", data := .fields #[.ref tp, .int 0 0] }).push { cls := .type "enumerate", data := .fields #[.none, .bool false, .ref s.heap.objs.size, rawInt 0, .none, .none] } }) :=
  .of_wp fun prog w A R s h => by
    obtain ⟨hp, gg, dd, tk, oo⟩ := s
    obtain ⟨hl, h⟩ := h
    have sub0 := sub_enumerate
    have hT : Heap.IsTuple (Shared.heap ⟨hp, gg, dd, tk, oo⟩) tp vs := ⟨_, hl, rfl, m, rfl⟩
    wp_walk using wpAny_loadPart' hl
    refine wpAny_stack_any fun stk => wpAny_pure ?_
    split
    · rename_i c _ _ _ _ _
      cases (c == Value.type "enumerate")
      · wp_walk using wpAny_loadPart' hl, wpAny_pyIter_tuple hT
        exact ⟨_, rfl, h⟩
      · wp_walk using wpAny_loadPart' hl, wpAny_pyIter_tuple hT
        exact ⟨_, rfl, h⟩
    · wp_walk using wpAny_loadPart' hl, wpAny_pyIter_tuple hT
      exact ⟨_, rfl, h⟩
theorem dl_enumT {prog : Program} {w : World} {A : Around} {E : Value → Shared → Prop} {s : Shared} {tp : Addr} {vs : Array Value} {Q : Value → Shared → Prop} (hT : s.heap.IsTuple tp vs)
    (h : ∀ h', IsEnum h' (s.heap.objs.size + 1) s.heap.objs.size 0 .none → h'.IsTupleIter s.heap.objs.size tp 0 → (∀ b o, s.heap.get? b = some o → h'.get? b = some o) → Q (.ref (s.heap.objs.size + 1)) { s with heap := h' }) :
    wpAny (model prog w) A (call (.type "enumerate") [.ref tp]) Q E s := by
  obtain ⟨⟨oc, od, dt, sl⟩, hl, hc, n, hd⟩ := hT
  have hc : oc = .type "tuple" := hc
  have hd : dt = .seq vs n := hd
  subst hc hd
  refine callType_new F.called_enumerate (by decide) (F.typeCall_enumerate_1 _) (F.newCall_enumerate_1 _) (fun obj => F.args_object_init_2 obj _) F.entry_enumerate_new (dl_enumNewT tp vs n od sl) ⟨hl, ?_⟩
  have hz : (s.heap.push { cls := .type "tuple_iterator", data := .fields #[.ref tp, .int 0 0] }).objs.size = s.heap.objs.size + 1 := Heap.size_push ..
  show _ ∧ _
  rw [hz]
  have he : IsEnum ((s.heap.push { cls := .type "tuple_iterator", data := .fields #[.ref tp, .int 0 0] }).push { cls := .type "enumerate", data := .fields #[.none, .bool false, .ref s.heap.objs.size, rawInt 0, .none, .none] }) (s.heap.objs.size + 1) s.heap.objs.size 0 .none := by
    have q := Heap.get?_push_size (s.heap.push { cls := .type "tuple_iterator", data := .fields #[.ref tp, .int 0 0] }) (o := { cls := .type "enumerate", data := .fields #[.none, .bool false, .ref s.heap.objs.size, rawInt 0, .none, .none] }) rfl
    rw [hz] at q
    exact q
  exact ⟨⟨_, he, rfl⟩, h _ he ⟨_, Heap.get?_push_of_some _ (Heap.get?_push_size _ rfl), rfl, rfl⟩ fun b o x => Heap.get?_push_of_some _ (Heap.get?_push_of_some _ x)⟩
end PySem
namespace DL
open PySem PySem.Spec L2 PyProof.Rows
def IteT (K : PySem.W.Frag) (a : Addr) : It :=
  ⟨fun i H => ∃ (xs : List V) (x : V), SqT K H a xs ∧ xs[i]? = some x, fun i H v H' => ∃ tp x, v = .ref tp ∧ H tp = none ∧ H' = upd H tp (.tup [.int (i : Nat), x]) ∧ ∀ xs, SqT K H a xs → xs[i]? = some x, fun i H => ∃ xs : List V, SqT K H a xs ∧ xs.length = i⟩
theorem turn_enumT {P : Program} {w : World} {K : PySem.W.Frag} {elts : List Expr} {kk : Nat} {tpos : Pos} (a e it : Addr) (n1 : e ≠ it) (n2 : a ≠ it) (n3 : e ≠ a) :
    Turn P w K (.Tuple elts kk tpos) (IteT K a) [e, it] e (fun i h => (∃ old, IsEnum h e it ((i : Nat) : Int) old) ∧ h.IsTupleIter it a i) where
  mem := by simp
  obj := fun i h st b hb => by
    obtain ⟨⟨old, he⟩, o, ho, hc, hd⟩ := st
    have hbb : b = e ∨ b = it := by simpa using hb
    rcases hbb with z | z
    · rw [z]; exact ⟨_, he, fun v q => nomatch q⟩
    · rw [z]; exact ⟨o, ho, fun v q => by rw [hd] at q; cases q⟩
  keep := fun i h h' st k => by
    obtain ⟨⟨old, he⟩, hi⟩ := st
    exact ⟨⟨old, k e (by simp) _ he⟩, hi.at fun o q => k it (by simp) o q⟩
  item := by
    intro X hP hw hK hc i pins s σ H E I hf st hg
    subst hP hw hK
    obtain ⟨⟨old, he⟩, hit⟩ := st
    obtain ⟨xs, x, hq, hx⟩ := hg
    obtain ⟨its, rv, pt, hz⟩ := I.tuple hq
    obtain ⟨u, hu, ru⟩ := rv.get hx
    have hel : e < s.heap.objs.size := Heap.lt_size he
    have hil : it < s.heap.objs.size := by
      obtain ⟨_, q, _⟩ := hit
      exact Heap.lt_size q
    have hlt : i < its.toArray.size := by
      rw [List.size_toArray]
      exact (List.getElem?_eq_some_iff.mp hu).1
    refine wpAny_pyNext_enum_itemD (Draws.tuple (A := X.A.in1) (I.ok.hd hc) it a n2 its.toArray) he ⟨hit, pt⟩ hlt n1 (by simp [n1, n3]) fun y h' tk hy ho hst' hT hsz hk => ?_
    have ey : y = u := by
      have : its[i]? = some y := by simpa using hy
      rw [hu] at this
      exact (Option.some.inj this).symm
    subst ey
    refine ⟨_, rfl, wpAny_letOwnedTupleGo_enum (s := { s with heap := h', toks := tk + 1 }) ho fun h2 he' sb => ?_⟩
    have hT2 : h2.get? s.heap.objs.size = some { cls := .type "tuple", data := .seq #[.int i tk, y] } := (sb.2 _ (Nat.ne_of_gt hel)).trans hT
    have new : ObjOk X.prog X.w (upd H s.heap.objs.size (.tup [.int (i : Nat), x])) h2 s.heap.objs.size (.tup [.int (i : Nat), x]) :=
      ⟨by show 2 ≤ sizeLine; decide, [.int i tk, y], .cons ⟨_, rfl⟩ (.cons ru .nil), ⟨_, hT2, rfl, _, rfl⟩⟩
    have I1 : Inv X pins σ (upd H s.heap.objs.size (.tup [.int (i : Nat), x])) { s with heap := h2, toks := tk + 1 } :=
      I.turnedNew (ch := [e, it]) (fun b ob hb q => (sb.2 b (fun z => hb (by simp [z]))).trans (hk b ob (fun z => hb (by simp [z])) (fun z => hb (by simp [z])) q)) hf (Nat.le_refl _) new
    refine ⟨.ref s.heap.objs.size, _, I1, rfl, ⟨_, x, rfl, I.hok.fresh (Nat.le_refl _), rfl, fun ys hys => by rw [I.tuple_inj hys hq]; exact hx⟩, ⟨⟨y, ?_⟩, hst'.1.at fun o q => (sb.2 it (Ne.symm n1)).trans q⟩, fun b hb => ?_⟩
    · have e1 : ((i + 1 : Nat) : Int) = (i : Int) + 1 := by omega
      rw [e1]
      exact he'
    · have hbl : b < s.heap.objs.size := by
        have hbb : b = e ∨ b = it := by simpa using hb
        rcases hbb with z | z
        · rw [z]; exact hel
        · rw [z]; exact hil
      rw [upd_ne (Nat.ne_of_lt hbl)]
      exact (hf b hb).1
  done := by
    intro X hP hw hK hc i pins s σ H E I hf st hg
    subst hP hw hK
    obtain ⟨⟨old, he⟩, hit⟩ := st
    obtain ⟨xs, hq, hx⟩ := hg
    obtain ⟨its, rv, pt, hz⟩ := I.tuple hq
    obtain ⟨f0, f1, f2, f3, f4, f5⟩ := hf it (by simp)
    have hl := rv.length
    have hsz : its.toArray.size = i := by rw [List.size_toArray]; omega
    refine wpAny_pyNext_enum_endD (Draws.tuple (A := X.A.in1) (I.ok.hd hc) it a n2 its.toArray) he ⟨by rw [hsz]; exact hit, pt⟩ fun h' eb => ⟨rfl, I.turned (t' := s.toks) (fun b o hb q => eb b o hb q) f0 f1 f3 f4 f5⟩
  self := fun A i s Q E st h => by
    obtain ⟨⟨_, he⟩, _⟩ := st
    exact wpAny_pyIter_enum he h
section
variable {X : Cx} {W : WX} {pos : Pos} {fa : En → Re PyData}
theorem pi_enumT {l : Expr} {ta : TA} {p tpos : Pos} {elts : List Expr} {kk : Nat} (hg : Gl X "enumerate") (hm : X.mg "enumerate" = none) (ha : PA X [l] ta) (hs : starEach [l] X.env = [(false, eval l X.env)]) :
    PI X (.Tuple elts kk tpos) (.Call (.Name "enumerate" p) [l] [] pos) (fun σ H R => ta σ H fun vs H1 => ∃ a xs, vs = [.ref a] ∧ H1 a = some (.tup xs) ∧ R (IteT X.K a) H1) := by
  refine ⟨fun pins s σ H R I h => ?_⟩
  refine Call_ (ld_blt I hg hm boot_enumerate (callWith_type1 (thn (ha.run pos pins s σ H _ I h) fun us s1 ⟨vs, H1, I1, r1, q1⟩ => ?_) hs rfl))
  obtain ⟨a, xs, ex, hq, q⟩ := q1
  subst ex
  cases r1 with
  | cons r rr =>
    cases rr
    cases r
    obtain ⟨its, rv, pt, hz⟩ := I1.tuple (SqT.of hq)
    have hal : a < s1.heap.objs.size := pt.lt
    refine dl_enumT (show s1.heap.IsTuple a its.toArray from pt) fun h' he hit hk => wpAny_pyIter_enum he ?_
    have I2 : Inv X pins σ H1 { s1 with heap := h' } := I1.kept (t' := s1.toks) hk
    refine ⟨s1.heap.objs.size + 1, [s1.heap.objs.size + 1, s1.heap.objs.size], _, _, H1, rfl, I2, turn_enumT a (s1.heap.objs.size + 1) s1.heap.objs.size (Nat.succ_ne_self _) (Nat.ne_of_lt hal) (Nat.ne_of_gt (Nat.lt_succ_of_lt hal)), ⟨⟨.none, he⟩, hit⟩, fun b hb => ?_, q⟩
    have hbb : b = s1.heap.objs.size + 1 ∨ b = s1.heap.objs.size := by simpa using hb
    have hle : s1.heap.objs.size ≤ b := by
      rcases hbb with z | z
      · rw [z]; exact Nat.le_add_right _ _
      · rw [z]; exact Nat.le_refl _
    exact I1.fpOk hle (I1.hok.fresh hle)
/-- the pairs that enumerate gives -/
def enumD (i : Nat) : List PyData → List PyData
  | [] => []
  | d :: ds => .tuple [.int (i : Nat), d] :: enumD (i + 1) ds
theorem enumD_len : ∀ (ds : List PyData) (i : Nat), (enumD i ds).length = ds.length
  | [], _ => rfl
  | _ :: ds, i => congrArg (· + 1) (enumD_len ds (i + 1))
theorem enumD_at : ∀ (ds : List PyData) (i j : Nat), (enumD i ds)[j]? = ds[j]?.map fun d => .tuple [.int ((i + j : Nat) : Int), d]
  | [], _, _ => rfl
  | _ :: ds, i, 0 => rfl
  | _ :: ds, i, j + 1 => by
    show (enumD (i + 1) ds)[j]? = _
    rw [enumD_at ds (i + 1) j]
    show _ = ds[j]?.map _
    rw [show i + 1 + j = i + (j + 1) by omega]
def iEnum (fa : En → Re PyData) : En → Re (List PyData) := fun ρ => (fa ρ).bind fun d => match d with
  | .list ds => .ok (enumD 0 ds)
  | .tuple ds => .ok (enumD 0 ds)
  | _ => .st
theorem tyield {O : Ow} {H H' : Hp} {T : Addr} {x : V} {d : PyData} {i : Nat} (nT : H T = none) (e : H' = upd H T (.tup [.int (i : Nat), x])) (dm : ∀ a, O a → H a ≠ none) (r : Rp O H x d) : Same H H' ∧ Rp O H' (.ref T) (.tuple [.int (i : Nat), d]) := by
  subst e
  exact ⟨same_upd nT, .tup upd_same (fun o => dm T o nT) ((RpL.cons (.int _) (.cons r .nil)).kp (.same (same_upd nT)))⟩
theorem di_enum {l : Expr} {p tpos : Pos} {elts : List Expr} {kk : Nat} (hm : X.mg "enumerate" = none) (hl : PE X l (tD W fa)) (hg : Gl X "enumerate" := by rfl) (hs : starEach [l] X.env = [(false, eval l X.env)] := by rfl) (hs2 : starEach [l] X.env = (false, eval l X.env) :: starEach [] X.env := by rfl) :
    PI X (.Tuple elts kk tpos) (.Call (.Name "enumerate" p) [l] [] pos) (iD W (DL.iEnum fa)) := by
  refine pi_imp (pi_either (pi_enum hg hm (pa_cons hl pa_nil hs2) hs) (pi_enumT hg hm (pa_cons hl pa_nil hs2) hs)) fun σ H R ⟨ρ, O, re, h⟩ => ?_
  unfold DL.iEnum at h
  have go : (∀ ds, fa ρ ≠ .ok (.tuple ds)) ∨ ∃ ds, fa ρ = .ok (.tuple ds) := by
    cases e : fa ρ with
    | ok d =>
      cases d with
      | tuple ds => exact .inr ⟨ds, rfl⟩
      | _ => exact .inl fun ds z => nomatch z
    | ex c p => exact .inl fun ds z => nomatch z
    | st => exact .inl fun ds z => nomatch z
  rcases go with go | ⟨ds, go⟩
  · refine .inl ⟨ρ, O, re, ?_⟩
    cases e : fa ρ with
    | ex c p => rw [e] at h; exact h
    | st => rw [e] at h; exact h
    | ok d =>
      rw [e] at h
      intro v H1 s rv
      cases d with
      | list ds =>
        obtain ⟨a, xs, rfl, ea, na, q⟩ := rv.i_lst
        refine ⟨a, xs, rfl, SqL.of ea, h _ H1 s fun H2 O2 k dm => ?_⟩
        have ea2 := (k a _ ea na).1
        refine ⟨⟨xs, SqL.of ea2, by rw [enumD_len, q.len]; exact Nat.le_refl _⟩, fun i d hd => ?_⟩
        rw [enumD_at] at hd
        cases ed : ds[i]? with
        | none => rw [ed] at hd; cases hd
        | some d' =>
          rw [ed] at hd
          cases hd
          obtain ⟨v, hv, rv⟩ := (q.kp k).get ed
          refine ⟨⟨xs, v, SqL.of ea2, hv⟩, fun z H' yl => ?_⟩
          obtain ⟨T, x1, rfl, nT, eH, f1⟩ := yl
          have z1 := f1 xs (SqL.of ea2)
          rw [hv] at z1
          cases z1
          rw [Nat.zero_add]
          exact tyield nT eH dm rv
      | tuple ds => exact absurd e (go ds)
      | _ => exact h.elim
  · refine .inr ⟨ρ, O, re, ?_⟩
    rw [go] at h ⊢
    intro v H1 s rv
    obtain ⟨a, xs, rfl, ea, na, q⟩ := rv.i_tup
    refine ⟨a, xs, rfl, ea, h _ H1 s fun H2 O2 k dm => ?_⟩
    have ea2 := (k a _ ea na).1
    refine ⟨⟨xs, SqT.of ea2, by rw [enumD_len, q.len]⟩, fun i d hd => ?_⟩
    rw [enumD_at] at hd
    cases ed : ds[i]? with
    | none => rw [ed] at hd; cases hd
    | some d' =>
      rw [ed] at hd
      cases hd
      obtain ⟨v, hv, rv⟩ := (q.kp k).get ed
      refine ⟨⟨xs, v, SqT.of ea2, hv⟩, fun z H' yl => ?_⟩
      obtain ⟨T, x1, rfl, nT, eH, f1⟩ := yl
      have z1 := f1 xs (SqT.of ea2)
      rw [hv] at z1
      cases z1
      rw [Nat.zero_add]
      exact tyield nT eH dm rv
end
end DL

namespace DL
open PySem PySem.Spec L2 PyProof.Rows

/-! ## try with several clauses, with names or without -/
/-- behind a clause its name is gone -/
def offN (D : Ends) : Option Nat → Ends
  | none => D
  | some i => { nx := fun τ H' => D.nx (τ.set i none) H', rt := D.rt, bk := fun τ H' => D.bk (τ.set i none) H', ct := fun τ H' => D.ct (τ.set i none) H' }
def onN (σ : Sg) (a : Addr) : Option Nat → Sg
  | none => σ
  | some i => σ.set i (some (.ref a))
abbrev Cls := Value × Option Nat × (Addr → Value → Option Addr → TS)
def wCls (K : PySem.W.Frag) (Wo : WX) (D : Ends) : List Cls → WX
  | [] => Wo
  | (c, oi, ts) :: r => fun cls d σ H => ∃ b, PySem.W.exmOne K cls c = some b ∧ (b = true → ∀ a, H a = none → ts a cls d (offN D oi) (onN σ a oi) H) ∧ (b = false → wCls K Wo D r cls d σ H)
inductive ClsOk (X : Cx) : List ExceptHandler → List Cls → Prop
  | nil : ClsOk X [] []
  | only {x : Str} {c : Value} {ts : Addr → Value → Option Addr → TS} {b0 : Stmt} {bs : List Stmt} {np hp : Pos} {hs : List ExceptHandler} {l : List Cls} (hc : Names X x c)
      (hsu : ∀ (a : Addr) (oe : Obj) (cls : Value) (d : Option Addr) (pn : List (Addr × Obj)), Zc cls d oe → (∃ vs, oe.data = .fields vs) → PSs (X.suite a ((a, oe) :: pn)) (b0 :: bs) (ts a cls d)) (r : ClsOk X hs l) :
      ClsOk X (.ExceptHandler (some (.Name x np)) none (b0 :: bs) hp :: hs) ((c, none, ts) :: l)
  | named {x n : Str} {i : Nat} {c : Value} {ts : Addr → Value → Option Addr → TS} {b0 : Stmt} {bs : List Stmt} {np hp : Pos} {hs : List ExceptHandler} {l : List Cls} (hc : Names X x c) (hN : X.N.Nodup) (hi : X.N[i]? = some n) (hln : X.env.kindOf n = some .local)
      (hsu : ∀ (a : Addr) (oe : Obj) (cls : Value) (d : Option Addr) (pn : List (Addr × Obj)), Zc cls d oe → (∃ vs, oe.data = .fields vs) → PSs (X.suite a ((a, oe) :: pn)) (b0 :: bs) (ts a cls d)) (r : ClsOk X hs l) :
      ClsOk X (.ExceptHandler (some (.Name x np)) (some n) (b0 :: bs) hp :: hs) ((c, some i, ts) :: l)
section
variable {X : Cx} {body : List Stmt} {h0 : ExceptHandler} {hds : List ExceptHandler} {l : List Cls} {pos : Pos} {tb : WX → TS} {Wo : WX}
theorem ps_tryN (hs : X.stack = X.env :: X.outer) (hf : X.env.frame = some X.env.locals) (tk : Takes X Wo)
    (hb : ∀ (W : WX) (pn : List (Addr × Obj)) (xe : Value → Shared → Prop), Takes (X.tr pn xe) W → PassesOwn (model X.prog X.w) X.A X.env xe → PSs (X.tr pn xe) body (tb W))
    (hh : ClsOk X (h0 :: hds) l) : PS X (.Try body (h0 :: hds) [] [] pos) (fun D σ H => tb (wCls X.K Wo D l) D σ H) := by
  refine ⟨fun pins s σ H D I h => ?_⟩
  have okX := I.ok
  have frs0 : X.A.frames = some (X.env :: X.outer) := by rw [okX.frames, hs]
  refine wpAny_Try_except ?_
  refine wpAny_mono ((hb (wCls X.K Wo D l) (X.pn ++ pins) (fun e s1 => wpAny (model X.prog X.w) X.A (noteFrame e X.env) (fun _ s2 => wpAny (model X.prog X.w) X.A (setFlight e none) (fun _ s3 => wpAny (model X.prog X.w) X.A (handleBy e X.env (h0 :: hds)) (SP X pins D) X.xe s3) X.xe s2) X.xe s1) (fun u t0 xx => ?_) PassesOwn.looking).run [] s σ H D (I.toTry _) h) (fun f s1 hsp => ?_) (fun e s1 he => he)
  · obtain ⟨a, B, sI, pins', τ, H', cls, d, rfl, J0, nb, up, sky, na, os, ag, w⟩ := xx
    have J : Inv X pins τ H' sI := J0.ofTry okX
    have sky2 : Sky B (X.env :: X.outer) a (Zc cls d) X.env.locals t0.heap := by rw [← hs]; exact sky
    show wpAny (model X.prog X.w) X.A (noteFrame (.ref a) X.env) _ _ _
    refine Sky.land Zc.steady frs0 hf sky2 fun h3 fl3 up3 => ?_
    have J3 : Inv X pins τ H' { t0 with heap := h3 } := J.landed nb fl3.1 (up.trans up3) os ag
    obtain ⟨oe3, vs3, he3, hz3, hd3⟩ := fl3.there
    have nfr : a ∉ frs (X.env :: X.outer) := fun hm => by
      obtain ⟨_, o1, e1, n1⟩ := fl3.2.2.1.mem hm
      rw [he3] at e1
      cases e1
      exact n1 _ hd3
    have nL : a ≠ X.env.locals := fun z => nfr (List.mem_filterMap.mpr ⟨X.env, List.mem_cons_self, by rw [hf, z]⟩)
    have nF : a ∉ X.fs := fun hm => by
      obtain ⟨e, he, q⟩ := List.mem_filterMap.mp hm
      exact nfr (List.mem_filterMap.mpr ⟨e, List.mem_cons_of_mem _ he, q⟩)
    have S3 := J3.suite he3 hd3 na nL nF
    have LT : PySem.W.Looks (model X.prog X.w) h3 (typeOf (.ref a)) cls := fun A Q E s k q => wpAny_typeOf_ref (k _ _ he3) (by rw [hz3.1]; exact q)
    have named : ∀ {x : Str} {c : Value} {np : Pos} {Q : Value → Shared → Prop} {E : Value → Shared → Prop}, Names X x c → Q c { t0 with heap := h3 } → wpAny (model X.prog X.w) (X.A.mark (some (.ref a))) (eval (.Name x np) X.env) Q E { t0 with heap := h3 } := fun {x c np Q E} hc q => by
      obtain ⟨hg, hdbg, hm | ⟨hm, hv, hnn⟩⟩ := hc
      · exact ld_glob (X := X.suite a ((a, oe3) :: (X.pn ++ pins))) S3 hg hm q hdbg
      · exact ld_blt (X := X.suite a ((a, oe3) :: (X.pn ++ pins))) S3 hg hm hv q hnn hdbg
    have go : ∀ {hs' : List ExceptHandler} {l' : List Cls}, ClsOk X hs' l' → wCls X.K Wo D l' cls d τ H' → wpAny (model X.prog X.w) X.A (handleBy (.ref a) X.env hs') (SP X pins D) X.xe { t0 with heap := h3 } := by
      intro hs' l' hk
      induction hk with
      | nil =>
        intro w
        refine wpAny_handleBy_nil ?_
        obtain ⟨k1, k2, k3, oe, vs, T, oT, ts', he, hz, hd, h1, hr⟩ := id fl3
        unfold PySem.passOn
        refine wpAny_bind (wpAny_field he hd h1 ?_)
        rw [if_neg (show ¬ ((Value.ref T == Value.none) = true) from by simp)]
        have fin : wpAny (model X.prog X.w) X.A (setFlight (.ref a) X.env.frame) (fun _ s4 => wpAny (model X.prog X.w) X.A (throw (.ref a) : Sem Flow) (SP X pins D) X.xe s4) X.xe { t0 with heap := h3 } := by
          rw [hf]
          exact HandSPX.setFlight_upZ fl3 fun h4 hh4 up4 => wpAny_throw (tk _ _ ⟨a, B, sI, pins, τ, H', cls, d, rfl, J, nb, (up.trans up3).trans up4, .inr (.inr (by rw [hs]; exact hh4)), na, os, ag, w⟩)
        first
          | exact wpAny_bind (wpAny_pure (wpAny_bind fin))
          | exact wpAny_bind fin
      | @only x c ts b0 bs np hp hs2 l2 hc hsu r ih =>
        intro w
        obtain ⟨b, hb1, hyes, hno⟩ := w
        refine wpAny_handleBy_cons (codeAny_handlers_test ?_) (by intro q; cases q)
        refine named hc ((PySem.W.exm_one (M := model X.prog X.w) (J3.kIn) LT hb1).here ?_)
        cases b with
        | true =>
          refine codeAny_handlers_suite ?_
          refine HandSPX.lands_againZ fl3 fun h4 fl4 up4 => ?_
          have J4 : Inv X pins τ H' { t0 with heap := h4 } := J.landed nb fl4.1 ((up.trans up3).trans up4) os ag
          obtain ⟨oe4, vs4, he4, hz4, hd4⟩ := fl4.there
          have S4 := J4.suite he4 hd4 na nL nF
          refine wpAny_mono ((hsu a oe4 cls d (X.pn ++ pins) hz4 ⟨_, hd4⟩).run [] _ _ H' _ S4 (hyes rfl a na)) (fun f s6 q => ?_) (fun _ _ z => False.elim z)
          cases f with
          | next => obtain ⟨σ6, H6, S6, q6⟩ := q; exact ⟨_, _, S6.unsuite okX, q6⟩
          | brk => obtain ⟨σ6, H6, S6, q6⟩ := q; exact ⟨_, _, S6.unsuite okX, q6⟩
          | cont => obtain ⟨σ6, H6, S6, q6⟩ := q; exact ⟨_, _, S6.unsuite okX, q6⟩
          | ret u => obtain ⟨v6, σ6, H6, S6, r6, q6⟩ := q; exact ⟨_, _, _, S6.unsuite okX, r6, q6⟩
        | false => exact ih (hno rfl)
      | @named x n i c ts b0 bs np hp hs2 l2 hc hN hi hln hsu r ih =>
        intro w
        obtain ⟨b, hb1, hyes, hno⟩ := w
        refine wpAny_handleBy_cons (codeAny_handlers_test ?_) (by intro q; cases q)
        refine named hc ((PySem.W.exm_one (M := model X.prog X.w) (J3.kIn) LT hb1).here ?_)
        cases b with
        | true =>
          refine codeAny_handlers_suite_as ?_
          refine HandSPX.lands_againZ fl3 fun h4 fl4 up4 => ?_
          have J4 : Inv X pins τ H' { t0 with heap := h4 } := J.landed nb fl4.1 ((up.trans up3).trans up4) os ag
          obtain ⟨oe4, vs4, he4, hz4, hd4⟩ := fl4.there
          have S4 := J4.suite he4 hd4 na nL nF
          refine store_ok (X := X.suite a ((a, oe4) :: (X.pn ++ pins))) (v := .ref a) S4 hN hi (.inl hln) rfl (fun s5 S5 => ?_) (.inr hln)
          refine wpAny_mono ((hsu a oe4 cls d (X.pn ++ pins) hz4 ⟨_, hd4⟩).run [] s5 _ H' _ S5 (hyes rfl a na)) (fun f s6 q => ?_) (fun _ _ z => False.elim z)
          have fin : ∀ {σ6 : Sg} {H6 : Hp} {R : Shared → Prop}, Inv (X.suite a ((a, oe4) :: (X.pn ++ pins))) [] σ6 H6 s6 → (∀ s7, Inv X pins (σ6.set i none) H6 s7 → R s7) → wpAny (model X.prog X.w) X.A (do bindName X.env n .none; unbindBehindTheSuite X.env n hp) (fun _ s7 => R s7) X.xe s6 :=
            fun S6 hq => gone_ok (S6.unsuite okX) hN hi hln hq
          cases f with
          | next => obtain ⟨σ6, H6, S6, q6⟩ := q; exact fin S6 fun s7 J7 => ⟨_, _, J7, q6⟩
          | brk => obtain ⟨σ6, H6, S6, q6⟩ := q; exact fin S6 fun s7 J7 => ⟨_, _, J7, q6⟩
          | cont => obtain ⟨σ6, H6, S6, q6⟩ := q; exact fin S6 fun s7 J7 => ⟨_, _, J7, q6⟩
          | ret u => obtain ⟨v6, σ6, H6, S6, r6, q6⟩ := q; exact fin S6 fun s7 J7 => ⟨_, _, _, J7, r6, q6⟩
        | false => exact ih (hno rfl)
    exact go hh w
  · cases f with
    | next => obtain ⟨τ, H', J', q⟩ := hsp; exact wpAny_execs_nil ⟨τ, H', J'.ofTry okX, q⟩
    | brk => obtain ⟨τ, H', J', q⟩ := hsp; exact ⟨τ, H', J'.ofTry okX, q⟩
    | cont => obtain ⟨τ, H', J', q⟩ := hsp; exact ⟨τ, H', J'.ofTry okX, q⟩
    | ret u => obtain ⟨v, τ, H', J', r, q⟩ := hsp; exact ⟨v, τ, H', J'.ofTry okX, r, q⟩
end
end DL

namespace DL
open PySem PySem.Spec L2 PyProof.Rows
/-- which class stands under which: c of them -/
structure XTab (K : PySem.W.Frag) (cT : Addr → Addr → Option Bool) : Prop where
  ok : ∀ a b r, cT a b = some r → PySem.W.kitOne K (.ref a) (.ref b) = some r ∧ PySem.W.exmOne K (.ref a) (.ref b) = some r ∧ ExcC K a
theorem xt_mk {K : PySem.W.Frag} {x y : Addr} {r : Bool} (hs : PySem.W.subIn K (.ref x) (.ref y) = some r) (hb : PySem.W.subIn K (.ref y) (.type "BaseException") = some true) (hd : PySem.W.hasDictIn K y = true) (ht : PySem.W.typeIn K (.ref y) = some (.type "type")) (hr : x = y → r = true) (he : ExcC K x) :
    PySem.W.kitOne K (.ref x) (.ref y) = some r ∧ PySem.W.exmOne K (.ref x) (.ref y) = some r ∧ ExcC K x := by
  refine ⟨?_, PySem.W.exm_ref hb hd ht hs, he⟩
  unfold PySem.W.kitOne
  by_cases e : x = y
  · subst e
    rw [if_pos (by simp), hr rfl]
  · rw [if_neg (by simpa using e)]
    obtain ⟨cd, hc, _⟩ := PySem.W.any_some hd
    show (if ((PySem.W.clsIn K y).isSome && PySem.W.typeIn K (.ref y) == some (.type "type")) = true then PySem.W.subIn K (.ref x) (.ref y) else none) = some r
    rw [if_pos (by rw [hc, ht]; rfl), hs]
structure HD where
  c : Addr
  nm : Option Nat
  f : Addr → Option PyData → En → SR
def SR.off (i : Nat) : SR → SR
  | .nx ρ => .nx (ρ.set i .no)
  | r => r
/-- in a clause nothing is raised -/
def SR.calm : SR → SR
  | .ex _ _ _ => .st
  | r => r
def tryH (cT : Addr → Addr → Option Bool) (c : Addr) (p : Option PyData) (ρ : En) : List HD → SR
  | [] => .ex (.ref c) p ρ
  | h :: hs => match cT c h.c with
    | some true => match h.nm with
      | none => SR.calm (h.f c p ρ)
      | some i => if i < ρ.length then SR.off i (SR.calm (h.f c p (ρ.set i .no))) else .st
    | some false => tryH cT c p ρ hs
    | none => .st
def sTry (cT : Addr → Addr → Option Bool) (fb : En → SR) (hs : List HD) : En → SR := fun ρ => match fb ρ with
  | .ex (.ref c) p ρ' => tryH cT c p ρ' hs
  | .ex _ _ _ => .st
  | r => r
/-- the fields of an exception -/
def PayR (O : Ow) (H : Hp) : Option Addr → Option PyData → Prop
  | none, none => True
  | some a, some d => ∃ v, H a = some (.xd [("line", v)]) ∧ Rp O H v d
  | _, _ => False
/-- a clause's reading: a the exception, cls its class -/
def hD (K : PySem.W.Frag) (cT : Addr → Addr → Option Bool) (oi : Option Nat) (fh : Addr → Option PyData → En → SR) (a : Addr) (cls : Value) (d : Option Addr) : TS := fun D σ H =>
  ∃ c p ρ H0 O0, cls = .ref c ∧ PayR (Oa O0 ρ σ) H d p ∧ (∀ i, oi = some i → σ[i]? = some (some (.ref a))) ∧ XTab K cT ∧ RS H0 O0 ρ σ H ∧ tS W0 H0 O0 (fh c p ρ) D
inductive HsOk (X : Cx) (cT : Addr → Addr → Option Bool) : List ExceptHandler → List HD → Prop
  | nil : HsOk X cT [] []
  | only {x : Str} {c : Addr} {fh : Addr → Option PyData → En → SR} {b0 : Stmt} {bs : List Stmt} {np hp : Pos} {hs : List ExceptHandler} {l : List HD} (hc : Names X x (.ref c))
      (hsu : ∀ (a : Addr) (oe : Obj) (cls : Value) (d : Option Addr) (pn : List (Addr × Obj)), Zc cls d oe → (∃ vs, oe.data = .fields vs) → PSs (X.suite a ((a, oe) :: pn)) (b0 :: bs) (hD X.K cT none fh a cls d)) (r : HsOk X cT hs l) :
      HsOk X cT (.ExceptHandler (some (.Name x np)) none (b0 :: bs) hp :: hs) (⟨c, none, fh⟩ :: l)
  | named {x n : Str} (i : Nat) {c : Addr} {fh : Addr → Option PyData → En → SR} {b0 : Stmt} {bs : List Stmt} {np hp : Pos} {hs : List ExceptHandler} {l : List HD} (hc : Names X x (.ref c)) (hN : X.N.Nodup) (hi : X.N[i]? = some n) (hln : X.env.kindOf n = some .local)
      (hsu : ∀ (a : Addr) (oe : Obj) (cls : Value) (d : Option Addr) (pn : List (Addr × Obj)), Zc cls d oe → (∃ vs, oe.data = .fields vs) → PSs (X.suite a ((a, oe) :: pn)) (b0 :: bs) (hD X.K cT (some i) fh a cls d)) (r : HsOk X cT hs l) :
      HsOk X cT (.ExceptHandler (some (.Name x np)) (some n) (b0 :: bs) hp :: hs) (⟨c, some i, fh⟩ :: l)
def clsOf (K : PySem.W.Frag) (cT : Addr → Addr → Option Bool) (h : HD) : Cls := (.ref h.c, h.nm, hD K cT h.nm h.f)
theorem HsOk.cls {X : Cx} {cT : Addr → Addr → Option Bool} : ∀ {hs : List ExceptHandler} {l : List HD}, HsOk X cT hs l → ClsOk X hs (l.map (clsOf X.K cT)) := by
  intro hs l h
  induction h with
  | nil => exact .nil
  | only hc hsu r ih => exact .only hc hsu ih
  | named i hc hN hi hln hsu r ih => exact .named hc hN hi hln hsu ih
section
variable {X : Cx} {W : WX} {pos : Pos}
theorem RS.setNone {H0 : Hp} {O0 : Ow} {ρ : En} {σ : Sg} {H : Hp} {i : Nat} {ov : Option V} (r : RS H0 O0 ρ σ H) : RS H0 O0 (ρ.set i .no) (σ.set i ov) H := by
  have r1 := r.no i
  have own : ∀ (j : Nat) (e : PyData), (ρ.set i .no)[j]? = some (.ow e) → j ≠ i := fun j e q z => by
    subst z
    by_cases hi : j < ρ.length
    · rw [List.getElem?_set_self hi] at q; cases q
    · rw [List.getElem?_eq_none (by simpa using hi)] at q; cases q
  have Oeq : Oa O0 (ρ.set i .no) (σ.set i ov) = Oa O0 (ρ.set i .no) σ := funext fun a => propext (by
    constructor
    · rintro (z | ⟨j, e, e1, e2⟩)
      · exact .inl z
      · rw [List.getElem?_set_ne (Ne.symm (own j e e1))] at e2
        exact .inr ⟨j, e, e1, e2⟩
    · rintro (z | ⟨j, e, e1, e2⟩)
      · exact .inl z
      · exact .inr ⟨j, e, e1, by rw [List.getElem?_set_ne (Ne.symm (own j e e1))]; exact e2⟩)
  refine ⟨by simpa using r.len, r.same, ⟨by simpa using r.len, ?_, fun j s e => ?_⟩, fun j d p e1 e2 => ?_, fun j l d e p e1 e2 e3 e4 => ?_, r.dom0⟩
  · rw [Oeq]; exact r1.re.dom
  · rw [Oeq]
    by_cases hj : i = j
    · subst hj
      by_cases hi : i < ρ.length
      · rw [List.getElem?_set_self hi] at e; cases e; trivial
      · rw [List.getElem?_eq_none (by simpa using hi)] at e; cases e
    · rw [List.getElem?_set_ne hj]
      exact r1.re.at_ j s e
  · rw [List.getElem?_set_ne (Ne.symm (own j d e1))] at e2
    exact r1.fresh j d p e1 e2
  · rw [List.getElem?_set_ne (Ne.symm (own j d e1))] at e3
    rw [List.getElem?_set_ne (Ne.symm (own l e e2))] at e4
    exact r1.inj j l d e p e1 e2 e3 e4
theorem Oa.setNone {O0 : Ow} {ρ : En} {σ : Sg} {i : Nat} {ov : Option V} : ∀ a, Oa O0 (ρ.set i .no) (σ.set i ov) a → Oa O0 ρ σ a := by
  rintro a (z | ⟨j, e, e1, e2⟩)
  · exact .inl z
  · by_cases hj : i = j
    · subst hj
      by_cases hi : i < ρ.length
      · rw [List.getElem?_set_self hi] at e1; cases e1
      · rw [List.getElem?_eq_none (by simpa using hi)] at e1; cases e1
    · rw [List.getElem?_set_ne hj] at e1 e2
      exact .inr ⟨j, e, e1, e2⟩
theorem tS_calm {H0 : Hp} {O0 : Ow} {r : SR} {D : Ends} (h : tS W H0 O0 (SR.calm r) D) : tS W0 H0 O0 r D := by
  cases r with
  | nx ρ => exact h
  | rt d => exact h
  | ex c p ρ => exact h.elim
  | st => exact h
theorem tS_off {H0 : Hp} {O0 : Ow} {r : SR} {D : Ends} {i : Nat} (h : tS W H0 O0 (SR.off i (SR.calm r)) D) : tS W0 H0 O0 r (offN D (some i)) := by
  cases r with
  | nx ρ => exact fun σ H rs => h _ _ (rs.setNone (i := i) (ov := none))
  | rt d => exact h
  | ex c p ρ => exact h.elim
  | st => exact h
theorem tryH_ok {K : PySem.W.Frag} {cT : Addr → Addr → Option Bool} (xt : XTab K cT) {c : Addr} {H0 : Hp} {O0 : Ow} {ρ : En} {σ : Sg} {H : Hp} {D : Ends} {d : Option Addr} {p : Option PyData} (rs : RS H0 O0 ρ σ H) (py : PayR (Oa O0 ρ σ) H d p) : ∀ (l : List HD), tS W H0 O0 (tryH cT c p ρ l) D → wCls K W D (l.map (clsOf K cT)) (.ref c) d σ H
  | [], h => by
    have h := h σ H rs
    cases p with
    | none =>
      cases d with
      | none => exact h
      | some a => exact py.elim
    | some x =>
      cases d with
      | none => exact py.elim
      | some a =>
        obtain ⟨v, e, r⟩ := py
        exact h a v e r
  | ⟨hc, nm, f⟩ :: l, h => by
    unfold tryH at h
    dsimp only at h
    cases e : cT c hc with
    | none => rw [e] at h; exact h.elim
    | some b =>
      rw [e] at h
      obtain ⟨k1, k2, k3⟩ := xt.ok c hc b e
      cases b with
      | false => exact ⟨false, k2, fun z => (nomatch z), fun _ => tryH_ok xt rs py l h⟩
      | true =>
        refine ⟨true, k2, fun _ a na => ?_, fun z => (nomatch z)⟩
        cases nm with
        | none => exact ⟨c, p, ρ, H0, O0, rfl, py, fun i z => (nomatch z), xt, rs, tS_calm h⟩
        | some i =>
          have h : tS W H0 O0 (if i < ρ.length then SR.off i (SR.calm (f c p (ρ.set i .no))) else .st) D := h
          split at h
          · rename_i hi
            refine ⟨c, p, ρ.set i .no, H0, O0, rfl, ?_, fun j z => ?_, xt, rs.setNone, tS_off h⟩
            · cases p with
              | none =>
                cases d with
                | none => trivial
                | some a => exact py.elim
              | some x =>
                cases d with
                | none => exact py.elim
                | some a' =>
                  obtain ⟨v, e, r⟩ := py
                  exact ⟨v, e, r.kp fun a o ha hO => ⟨ha, fun z => hO (Oa.setNone a z)⟩⟩
            · cases z
              show (σ.set i (some (.ref a)))[i]? = _
              rw [List.getElem?_set_self (by rw [rs.len]; exact hi)]
          · exact h.elim
theorem ds_try {body : List Stmt} {h0 : ExceptHandler} {hds : List ExceptHandler} {l : List HD} {cT : Addr → Addr → Option Bool} {fb : En → SR} (xt : XTab X.K cT) (hs : X.stack = X.env :: X.outer) (hf : X.env.frame = some X.env.locals) (tk : Takes X W)
    (hb : ∀ (W : WX) (pn : List (Addr × Obj)) (xe : Value → Shared → Prop), Takes (X.tr pn xe) W → PassesOwn (model X.prog X.w) X.A X.env xe → PSs (X.tr pn xe) body (sD W fb))
    (hh : HsOk X cT (h0 :: hds) l) : PS X (.Try body (h0 :: hds) [] [] pos) (sD W (sTry cT fb l)) :=
  ps_imp (ps_tryN hs hf tk hb hh.cls) fun D σ H ⟨ρ, H0, O0, rs, h⟩ => by
    refine ⟨ρ, H0, O0, rs, ?_⟩
    unfold sTry at h
    cases e : fb ρ with
    | nx ρ' => rw [e] at h; exact h
    | rt d => rw [e] at h; exact h
    | st => rw [e] at h; exact h
    | ex c p ρ' =>
      rw [e] at h
      cases c with
      | ref c =>
        intro σ' H' rs'
        cases p with
        | none => exact tryH_ok xt rs' (d := none) (p := none) trivial l h
        | some x => exact fun a v e r => tryH_ok xt rs' (d := some a) (p := some x) ⟨v, e, r⟩ l h
      | _ => exact h.elim
/-! ### suites -/
theorem hd_gen {oi : Option Nat} {cT : Addr → Addr → Option Bool} {a : Addr} {cls : Value} {d : Option Addr} {b : List Stmt} {f : En → SR} {Y : Cx} (h : PSs Y b (sD W0 f)) : PSs Y b (hD X.K cT oi (fun _ _ => f) a cls d) :=
  ⟨fun pins s σ H D I ⟨c, p, ρ, H0, O0, _, _, _, _, rs, q⟩ => h.run pins s σ H D I ⟨ρ, H0, O0, rs, q⟩⟩
/-- the name of the exception, in a suite -/
def tP (i : Nat) (a : Addr) (b : Bool) : TT := fun σ H Q => σ[i]? = some (some (.ref a)) ∧ Q b H
theorem pt_isE {a c C : Addr} {oe : Obj} {pn : List (Addr × Obj)} {i : Nat} {x y : Str} {b : Bool} {p p1 p2 : Pos} (ec : ExcC X.K c) (hz : Zc (.ref c) none oe) (hf : ∃ vs, oe.data = .fields vs) (kt : PySem.W.kitOne X.K (.ref c) (.ref C) = some b) (hm : X.mg "isinstance" = none) (hy : X.mg y = some (.ref C))
    (hN : X.N[i]? = some x) (hv : Vis X.env.scope x) (hd : (x == ("__debug__" : Str)) = false) (hcd : (x == ("__classdict__" : Str)) = false)
    (hg : Gl X "isinstance") (hgy : Gl X y) (hdy : (y == ("__debug__" : Str)) = false) (hs : starEach [.Name x p1, .Name y p2] X.env = (false, eval (.Name x p1) X.env) :: starEach [.Name y p2] X.env) (hs2 : starEach [.Name y p2] X.env = (false, eval (.Name y p2) X.env) :: starEach [] X.env) (hpl : (backTo pos (starEach [.Name y p2] X.env)).any (·.1) = false) 
    (he : ∀ whole, isTrue (.Call (.Name "isinstance" p) [.Name x p1, .Name y p2] [] pos) X.env whole = (do let v ← whole; standAt pos; holding [v] (truthy v))) :
    PT (X.suite a ((a, oe) :: pn)) (.Call (.Name "isinstance" p) [.Name x p1, .Name y p2] [] pos) (tP i a b) := by
  have q := pe_callB (X := X.suite a ((a, oe) :: pn)) (pos := pos) (p := p) (call_isE ec hz hf) hg hm (by decide +kernel) (pa_cons (pe_var (X := X.suite a ((a, oe) :: pn)) hN hv hd hcd) (pa_cons (pe_glob (X := X.suite a ((a, oe) :: pn)) (v := .ref C) hgy hy rfl hdy) pa_nil hs2) hs) (he := hs) (hpl := hpl)
  refine pt_imp (pt_truth q he) fun σ H Q ⟨h1, h2⟩ => ?_
  exact ⟨_, h1, .ref C, .ref C, b, rfl, fun u r => r, kt, b, rfl, h2⟩
theorem pt_isN {Y : Cx} {e : Expr} {i : Nat} {a : Addr} {b : Bool} (h : PT Y e (tP i a b)) : PT Y (.UnaryOp .Not e pos) (tP i a (!b)) := pt_imp (pt_not h) fun σ H Q ⟨h1, h2⟩ => ⟨h1, h2⟩
theorem pt_isA {Y : Cx} {e f : Expr} {i : Nat} {a : Addr} {b c : Bool} (h : PT Y e (tP i a b)) (g : PT Y f (tP i a c)) : PT Y (.BoolOp .And [e, f] pos) (tP i a (b && c)) := (pw_imp (pw_and h (pw_and1 g)) fun σ H Q ⟨h1, h2⟩ => by
  cases b with
  | true => exact ⟨h1, ⟨h1, h2⟩⟩
  | false => exact ⟨h1, h2⟩).pt
/-- what a clause's test comes to: a class that it must be, a class that it must not be -/
def hCond (cT : Addr → Addr → Option Bool) (c C1 : Addr) : Option Addr → Option Bool
  | none => cT c C1
  | some C2 => (cT c C1).bind fun b => (cT c C2).bind fun b2 => some (b && !b2)
def hStr (cT : Addr → Addr → Option Bool) (C1 : Addr) (o2 : Option Addr) (s1 s2 : PyData) (c : Addr) : Option PyData → Option PyData
  | none => (hCond cT c C1 o2).map fun b => if b then s1 else s2
  | some _ => none
/-- return s1 if .. else s2 -/
def hRet (cT : Addr → Addr → Option Bool) (C1 : Addr) (o2 : Option Addr) (s1 s2 : PyData) : Addr → Option PyData → En → SR := fun c p ρ => match hStr cT C1 o2 s1 s2 c p with
  | some d => .rt d
  | none => .st
/-- x.append(s1 if .. else s2) -/
def hApp (cT : Addr → Addr → Option Bool) (j : Nat) (C1 : Addr) (o2 : Option Addr) (s1 s2 : PyData) : Addr → Option PyData → En → SR := fun c p ρ => match hStr cT C1 o2 s1 s2 c p with
  | some d => sApp j (eC d) ρ
  | none => .st
/-- a test of the exception in a suite -/
def TestOk (X : Cx) (cT : Addr → Addr → Option Bool) (i : Nat) (C1 : Addr) (o2 : Option Addr) (t : Expr) : Prop := ∀ (a c : Addr) (oe : Obj) (pn : List (Addr × Obj)) (b : Bool), Zc (.ref c) none oe → (∃ vs, oe.data = .fields vs) → XTab X.K cT → hCond cT c C1 o2 = some b → PT (X.suite a ((a, oe) :: pn)) t (tP i a b)
theorem te_one {cT : Addr → Addr → Option Bool} {i : Nat} {C : Addr} {x y : Str} {p p1 p2 : Pos} (hm : X.mg "isinstance" = none) (hy : X.mg y = some (.ref C))
    (hN : X.N[i]? = some x := by rfl) (hv : Vis X.env.scope x := by first | exact Or.inl rfl | exact Or.inr (Or.inl rfl) | exact Or.inr (Or.inr rfl)) (hd : (x == ("__debug__" : Str)) = false := by decide) (hcd : (x == ("__classdict__" : Str)) = false := by decide)
    (hg : Gl X "isinstance" := by rfl) (hgy : Gl X y := by rfl) (hdy : (y == ("__debug__" : Str)) = false := by decide) (hs : starEach [.Name x p1, .Name y p2] X.env = (false, eval (.Name x p1) X.env) :: starEach [.Name y p2] X.env := by rfl) (hs2 : starEach [.Name y p2] X.env = (false, eval (.Name y p2) X.env) :: starEach [] X.env := by rfl) (hpl : (backTo pos (starEach [.Name y p2] X.env)).any (·.1) = false := by rfl) 
    (he : ∀ whole, isTrue (.Call (.Name "isinstance" p) [.Name x p1, .Name y p2] [] pos) X.env whole = (do let v ← whole; standAt pos; holding [v] (truthy v)) := by intro _; rfl) :
    TestOk X cT i C none (.Call (.Name "isinstance" p) [.Name x p1, .Name y p2] [] pos) := fun a c oe pn b hz hf xt hc =>
  pt_isE (xt.ok c C b hc).2.2 hz hf (xt.ok c C b hc).1 hm hy hN hv hd hcd hg hgy hdy hs hs2 hpl he
theorem te_two {cT : Addr → Addr → Option Bool} {i : Nat} {C1 C2 : Addr} {t u : Expr} {q : Pos} (h1 : TestOk X cT i C1 none t) (h2 : TestOk X cT i C2 none u) : TestOk X cT i C1 (some C2) (.BoolOp .And [t, .UnaryOp .Not u q] pos) := fun a c oe pn b hz hf xt hc => by
  have hc : ((cT c C1).bind fun b => (cT c C2).bind fun b2 => some (b && !b2)) = some b := hc
  cases e1 : cT c C1 with
  | none => rw [e1] at hc; cases hc
  | some b1 =>
    cases e2 : cT c C2 with
    | none => rw [e1] at hc; rw [Option.bind_some, e2] at hc; cases hc
    | some b2 =>
      rw [e1, Option.bind_some, e2] at hc
      cases hc
      exact pt_isA (h1 a c oe pn b1 hz hf xt e1) (pt_isN (h2 a c oe pn b2 hz hf xt e2))
theorem pe_hStr {Y : Cx} {t : Expr} {i : Nat} {a : Addr} {b : Bool} {s1 s2 : Str} {j k : Nat} {p q : Pos} (h : PT Y t (tP i a b)) : PE Y (.IfExp t (.Constant (.str s1) j p) (.Constant (.str s2) k q) pos) (fun σ H Q => σ[i]? = some (some (.ref a)) ∧ Q (.str (if b then s1 else s2)) H) :=
  pe_imp (pe_ifExp h pe_str pe_str) fun σ H Q ⟨h1, h2⟩ => by
    cases b with
    | true => exact ⟨h1, h2⟩
    | false => exact ⟨h1, h2⟩
theorem hd_ret {cT : Addr → Addr → Option Bool} {i : Nat} {C1 : Addr} {o2 : Option Addr} {t : Expr} {s1 s2 : Str} {j k : Nat} {p q r : Pos} (ht : TestOk X cT i C1 o2 t) {a : Addr} {oe : Obj} {cls : Value} {d : Option Addr} {pn : List (Addr × Obj)} (hz : Zc cls d oe) (hf : ∃ vs, oe.data = .fields vs) :
    PSs (X.suite a ((a, oe) :: pn)) [.Return (some (.IfExp t (.Constant (.str s1) j p) (.Constant (.str s2) k q) r)) pos] (hD X.K cT (some i) (hRet cT C1 o2 (.str s1) (.str s2)) a cls d) :=
  ⟨fun pins s σ H D I ⟨c, pp, ρ, H0, O0, hc, py, hi, xt, rs, h⟩ => by
    subst hc
    unfold hRet at h
    cases pp with
    | some z => exact h.elim
    | none =>
      cases d with
      | some z => exact py.elim
      | none =>
        unfold hStr at h
        cases e : hCond cT c C1 o2 with
        | none => rw [e] at h; exact h.elim
        | some b =>
          rw [e] at h
          refine (pss_one (ps_ret (pe_hStr (ht a c oe pn b hz hf xt e)))).run pins s σ H D I ⟨hi i rfl, ?_⟩
          refine h _ H rs.same ?_
          cases b with
          | true => exact .str _
          | false => exact .str _⟩
theorem ps_appC {Y : Cx} (j : Nat) {x : Str} {e : Expr} {P : Sg → Prop} {z : Str} {p1 p2 p3 : Pos} (he : PE Y e (fun σ H Q => P σ ∧ Q (.str z) H)) (hN : Y.N[j]? = some x) (hv : Vis Y.env.scope x) (hd : (x == ("__debug__" : Str)) = false) (hcd : (x == ("__classdict__" : Str)) = false)
    (hbase : attributeBase (.Name x p1) "append" Y.env (eval (.Name x p1) Y.env) = eval (.Name x p1) Y.env)
    (hfew : ((backTo p3 (starEach [e] Y.env)).all (fun x => !x.1) && (backToKw p3 (keywordEach [] Y.env)).all (fun x => x.1.isSome) && decide (([e] : List Expr).length + ([] : List Keyword).length + (if ([] : List Keyword).isEmpty then 0 else 1) < 30)) = true)
    (hline : (p2.endLine == p3.line) = true) (hs : starEach [e] Y.env = (false, eval e Y.env) :: starEach [] Y.env) (hplain : (backTo p3 (starEach [] Y.env)).any (·.1) = false) (hsw : swapsWith (.Call (.Attribute (.Name x p1) "append" p2) [e] [] p3) none pos.line Y.env = pure false) :
    PS Y (.Expr (.Call (.Attribute (.Name x p1) "append" p2) [e] [] p3) pos) (fun D σ H => P σ ∧ sD W0 (sApp j (eC (.str z))) D σ H) :=
  ps_imp (ps_expr (pe_bm PySem.F.plainAttrs_list PySem.F.slot_list_append PySem.F.type_list_append mt_append (pe_var hN hv hd hcd) (pa_cons he pa_nil hs) hbase hfew hline hs hplain) hsw) fun D σ H ⟨hP, ρ, H0, O0, rs, h⟩ => by
    unfold sApp at h
    split at h
    · rename_i ds ei
      obtain ⟨p, ep, op, xs, e1, r1⟩ := rs.re.at_ j _ ei
      refine ⟨.ref p, ep, .inl ⟨rfl, xs, SqL.of e1⟩, hP, ?_⟩
      have h1 : tS W0 H0 O0 (if fits (ds.length + 1) then .nx (ρ.set j (.ow (.list (ds ++ [.str z])))) else .st) D := h
      split at h1
      · rename_i hf
        refine ⟨p, xs, .str z, rfl, rfl, e1, ?_, h1 _ _ (rs.store ei ep ⟨xs ++ [.str z], upd_same, ?_⟩)⟩
        · have := fits_line hf
          have := r1.len
          omega
        · exact (r1.app (.cons (.str z) .nil)).kp (.own op)
      · exact h1.elim
    · exact h.elim
theorem hd_app {cT : Addr → Addr → Option Bool} {i : Nat} (l : Nat) {C1 : Addr} {o2 : Option Addr} {t : Expr} {s1 s2 x : Str} {j k : Nat} {p q r p1 p2 p3 : Pos} (ht : TestOk X cT i C1 o2 t) {a : Addr} {oe : Obj} {cls : Value} {d : Option Addr} {pn : List (Addr × Obj)} (hz : Zc cls d oe) (hf : ∃ vs, oe.data = .fields vs)
    (hN : X.N[l]? = some x := by rfl) (hv : Vis X.env.scope x := by first | exact Or.inl rfl | exact Or.inr (Or.inl rfl) | exact Or.inr (Or.inr rfl)) (hd : (x == ("__debug__" : Str)) = false := by decide) (hcd : (x == ("__classdict__" : Str)) = false := by decide)
    (hbase : attributeBase (.Name x p1) "append" X.env (eval (.Name x p1) X.env) = eval (.Name x p1) X.env := by rfl)
    (hfew : ((backTo p3 (starEach [.IfExp t (.Constant (.str s1) j p) (.Constant (.str s2) k q) r] X.env)).all (fun x => !x.1) && (backToKw p3 (keywordEach [] X.env)).all (fun x => x.1.isSome) && decide (([.IfExp t (.Constant (.str s1) j p) (.Constant (.str s2) k q) r] : List Expr).length + ([] : List Keyword).length + (if ([] : List Keyword).isEmpty then 0 else 1) < 30)) = true := by rfl)
    (hline : (p2.endLine == p3.line) = true := by rfl) (hs : starEach [.IfExp t (.Constant (.str s1) j p) (.Constant (.str s2) k q) r] X.env = (false, eval (.IfExp t (.Constant (.str s1) j p) (.Constant (.str s2) k q) r) X.env) :: starEach [] X.env := by rfl) (hplain : (backTo p3 (starEach [] X.env)).any (·.1) = false := by rfl) (hsw : swapsWith (.Call (.Attribute (.Name x p1) "append" p2) [.IfExp t (.Constant (.str s1) j p) (.Constant (.str s2) k q) r] [] p3) none pos.line X.env = pure false := by rfl) :
    PSs (X.suite a ((a, oe) :: pn)) [.Expr (.Call (.Attribute (.Name x p1) "append" p2) [.IfExp t (.Constant (.str s1) j p) (.Constant (.str s2) k q) r] [] p3) pos] (hD X.K cT (some i) (hApp cT l C1 o2 (.str s1) (.str s2)) a cls d) :=
  ⟨fun pins s σ H D I ⟨c, pp, ρ, H0, O0, hc, py, hi, xt, rs, h⟩ => by
    subst hc
    unfold hApp at h
    cases pp with
    | some z => exact h.elim
    | none =>
      cases d with
      | some z => exact py.elim
      | none =>
        unfold hStr at h
        cases e : hCond cT c C1 o2 with
        | none => rw [e] at h; exact h.elim
        | some b =>
          rw [e] at h
          refine (pss_one (ps_appC (Y := X.suite a ((a, oe) :: pn)) (P := fun σ => σ[i]? = some (some (.ref a))) l (pe_hStr (ht a c oe pn b hz hf xt e)) hN hv hd hcd hbase hfew hline hs hplain hsw)).run pins s σ H D I ⟨hi i rfl, ρ, H0, O0, rs, ?_⟩
          cases b with
          | true => exact h
          | false => exact h⟩
end
end DL

/-! # The plain side: what the readings come to -/
namespace DL
open PySem PySem.Spec L2 PyProof.Rows
section
variable {ρ : En} {i j : Nat} {d e : PyData}
@[simp] theorem q_var : eVar i ρ = match ρ[i]? with
  | some (.va d) => .ok d
  | _ => .st := id rfl
@[simp] theorem q_look : eLook i ρ = match ρ[i]? with
  | some (.va d) => .ok d
  | some (.ow d) => .ok d
  | _ => .st := id rfl
@[simp] theorem q_C : eC d ρ = .ok d := id rfl
@[simp] theorem q_e2 {g : PyData → PyData → Re PyData} {fa fb : En → Re PyData} : e2 g fa fb ρ = (fa ρ).bind fun a => (fb ρ).bind fun b => g a b := id rfl
@[simp] theorem q_e1 {g : PyData → Re PyData} {fa : En → Re PyData} : e1 g fa ρ = (fa ρ).bind g := id rfl
@[simp] theorem q_call {g : List PyData → Re PyData} {fs : En → Re (List PyData)} : eCall g fs ρ = (fs ρ).bind g := id rfl
@[simp] theorem q_nil : aNil ρ = .ok [] := id rfl
@[simp] theorem q_cons {fa : En → Re PyData} {fs : En → Re (List PyData)} : aCons fa fs ρ = (fa ρ).bind fun d => (fs ρ).bind fun ds => .ok (d :: ds) := id rfl
@[simp] theorem q_tup {fs : En → Re (List PyData)} : eTup fs ρ = (fs ρ).bind fun ds => if fits ds.length then .ok (.tuple ds) else .st := id rfl
@[simp] theorem q_lst {fs : En → Re (List PyData)} : eLst fs ρ = (fs ρ).bind fun ds => if fits ds.length then .ok (.list ds) else .st := id rfl
def chainR (r s t : Re PyData) : Re PyData := r.bind fun a => s.bind fun b => match a, b with
  | .int i, .int j => if decide (i ≤ j) then t.bind (dLe (.int j)) else .ok (.bool false)
  | _, _ => .st
@[simp] theorem q_chain {fa fb fc : En → Re PyData} : eChain fa fb fc ρ = chainR (fa ρ) (fb ρ) (fc ρ) := id rfl
@[simp] theorem chainR_int {a b c : Int} : chainR (.ok (.int a)) (.ok (.int b)) (.ok (.int c)) = .ok (.bool (decide (a ≤ b) && decide (b ≤ c))) := by
  show (if decide (a ≤ b) = true then Re.ok (PyData.bool (decide (b ≤ c))) else Re.ok (PyData.bool false)) = _
  by_cases h : a ≤ b <;> simp [h]
@[simp] theorem q_toB {f : En → Re PyData} : toB f ρ = (f ρ).bind asB := id rfl
@[simp] theorem q_asB {b : Bool} : asB (.bool b) = .ok b := id rfl
@[simp] theorem q_bTru {f : En → Re PyData} : bTru f ρ = (f ρ).bind truth := id rfl
@[simp] theorem q_bNot {f : En → Re Bool} : bNot f ρ = (f ρ).bind fun b => .ok (!b) := id rfl
@[simp] theorem q_bAnd {f g : En → Re Bool} : bAnd f g ρ = (f ρ).bind fun b => if b then g ρ else .ok false := id rfl
@[simp] theorem q_bOr {f g : En → Re Bool} : bOr f g ρ = (f ρ).bind fun b => if b then .ok true else g ρ := id rfl
@[simp] theorem q_eAnd {f g : En → Re PyData} : eAnd f g ρ = (f ρ).bind fun d => match d with
  | .bool true => g ρ
  | .bool false => .ok (.bool false)
  | _ => .st := id rfl
@[simp] theorem q_eOr {f g : En → Re PyData} : eOr f g ρ = (f ρ).bind fun d => match d with
  | .bool true => .ok (.bool true)
  | .bool false => g ρ
  | _ => .st := id rfl
@[simp] theorem q_eIf {gc : En → Re Bool} {fa fb : En → Re PyData} : eIf gc fa fb ρ = (gc ρ).bind fun b => if b then fa ρ else fb ρ := id rfl
@[simp] theorem q_yes : gYes ρ = .ok true := id rfl
@[simp] theorem q_oN : oNone ρ = .ok none := id rfl
@[simp] theorem q_oS {f : En → Re PyData} : oSome f ρ = (f ρ).bind fun d => match d with
  | .int i => .ok (some i)
  | _ => .st := id rfl
@[simp] theorem q_slice {fa : En → Re PyData} {fl fh : En → Re (Option Int)} : eSlice fa fl fh ρ = (fa ρ).bind fun d => (fl ρ).bind fun lo => (fh ρ).bind fun hi => dSlice d lo hi := id rfl
@[simp] theorem q_iSeq {fa : En → Re PyData} : iSeq fa ρ = (fa ρ).bind fun d => match d with
  | .list ds => .ok ds
  | .tuple ds => .ok ds
  | _ => .st := id rfl
@[simp] theorem q_rng1 {fs : En → Re (List PyData)} : iRng1 fs ρ = (fs ρ).bind fun ds => match ds with
  | [.int j] => if bigB j then .ok (rngD 0 j.toNat) else .st
  | _ => .st := id rfl
@[simp] theorem q_rng2 {fs : En → Re (List PyData)} : iRng2 fs ρ = (fs ρ).bind fun ds => match ds with
  | [.int i, .int j] => if bigB i && bigB j then .ok (rngD i (j - i).toNat) else .st
  | _ => .st := id rfl
@[simp] theorem q_zip {fs : En → Re (List PyData)} : iZip fs ρ = (fs ρ).bind fun ds => match ds with
  | [.list xs, .list ys] => .ok (zipD xs ys)
  | [.tuple xs, .tuple ys] => .ok (zipD xs ys)
  | _ => .st := id rfl
/-! statements -/
def SR.thn (r : SR) (g : En → SR) : SR := match r with
  | .nx ρ' => g ρ'
  | r => r
@[simp] theorem thn_nx {g : En → SR} : SR.thn (.nx ρ) g = g ρ := id rfl
@[simp] theorem thn_rt {g : En → SR} : SR.thn (.rt d) g = .rt d := id rfl
@[simp] theorem thn_st {g : En → SR} : SR.thn .st g = .st := id rfl
@[simp] theorem thn_ex {c : Value} {p : Option PyData} {g : En → SR} : SR.thn (.ex c p ρ) g = .ex c p ρ := id rfl
def SR.fg (r : SR) (l : List Nat) : SR := match r with
  | .nx ρ' => .nx (fgt l ρ')
  | r => r
@[simp] theorem fg_nx {l : List Nat} : SR.fg (.nx ρ) l = .nx (fgt l ρ) := id rfl
@[simp] theorem fg_rt {l : List Nat} : SR.fg (.rt d) l = .rt d := id rfl
@[simp] theorem fg_st {l : List Nat} : SR.fg .st l = .st := id rfl
@[simp] theorem fg_ex {c : Value} {p : Option PyData} {l : List Nat} : SR.fg (.ex c p ρ) l = .ex c p ρ := id rfl
def SR.br (r : Re Bool) (f g : En → SR) (ρ : En) : SR := SR.of r ρ fun b => if b then f ρ else g ρ
@[simp] theorem br_ok {b : Bool} {f g : En → SR} : SR.br (.ok b) f g ρ = if b then f ρ else g ρ := id rfl
@[simp] theorem br_ex {c : Value} {p : Option PyData} {f g : En → SR} : SR.br (.ex c p) f g ρ = .ex c p ρ := id rfl
@[simp] theorem br_st {f g : En → SR} : SR.br .st f g ρ = .st := id rfl
@[simp] theorem q_seq {f g : En → SR} : sSeq f g ρ = (f ρ).thn g := by
  unfold sSeq SR.thn
  cases f ρ <;> rfl
@[simp] theorem q_skip : sSkip ρ = .nx ρ := id rfl
@[simp] theorem q_fgt {l : List Nat} {f : En → SR} : sFgt l f ρ = (f ρ).fg l := by
  unfold sFgt SR.fg
  cases f ρ <;> rfl
@[simp] theorem q_frz {f : En → SR} : sFrz i f ρ = f (frz i ρ) := id rfl
@[simp] theorem q_expr {fe : En → Re PyData} : sExpr fe ρ = SR.of (fe ρ) ρ fun _ => .nx ρ := id rfl
@[simp] theorem q_ret {fe : En → Re PyData} : sRet fe ρ = SR.of (fe ρ) ρ .rt := id rfl
@[simp] theorem q_sIf {gc : En → Re Bool} {f g : En → SR} : sIf gc f g ρ = SR.br (gc ρ) f g ρ := id rfl
@[simp] theorem q_set {fe : En → Re PyData} : sSet i fe ρ = SR.of (fe ρ) ρ fun d => .nx (ρ.set i (.va d)) := id rfl
@[simp] theorem q_asg {t : Tg} {fe : En → Re PyData} : sAsg t fe ρ = SR.of (fe ρ) ρ fun d => match t d with
  | some m => .nx (putD ρ m)
  | none => .st := id rfl
@[simp] theorem q_par {fs : En → Re (List PyData)} : sPar i j fs ρ = SR.of (fs ρ) ρ fun ds => match ds with
  | [d, e] => .nx ((ρ.set i (.va d)).set j (.va e))
  | _ => .st := id rfl
@[simp] theorem q_aug {fe : En → Re PyData} : sAug i fe ρ = match ρ[i]? with
  | some (.va (.int k)) => SR.of (fe ρ) ρ fun d => match d with
    | .int j => .nx (ρ.set i (.va (.int (k + j))))
    | _ => .st
  | _ => .st := id rfl
@[simp] theorem q_for {fi : En → Re (List PyData)} {t : Tg} {fb : En → SR} : sFor fi t fb ρ = SR.of (fi ρ) ρ fun ds => forL t fb ds ρ := id rfl
@[simp] theorem q_own {fe : En → Re PyData} : sOwn i fe ρ = if i < ρ.length then SR.of (fe ρ) ρ fun d => match d with
  | .list ds => .nx (ρ.set i (.ow (.list ds)))
  | .dict es => .nx (ρ.set i (.ow (.dict es)))
  | _ => .st else .st := id rfl
@[simp] theorem q_app {fe : En → Re PyData} : sApp i fe ρ = match ρ[i]? with
  | some (.ow (.list ds)) => SR.of (fe ρ) ρ fun d => if fits (ds.length + 1) then .nx (ρ.set i (.ow (.list (ds ++ [d])))) else .st
  | _ => .st := id rfl
@[simp] theorem q_raise {c : Value} : sRaise c ρ = .ex c none ρ := id rfl
@[simp] theorem q_lc {own : List Nat} {fi : En → Re (List PyData)} {t : Tg} {gc : En → Re Bool} {fe : En → Re PyData} : eLc own fi t gc fe ρ = (fi ρ).bind fun ds => if fits ds.length then (lcL t gc fe (fgt own ρ) ds).bind fun ys => .ok (.list ys) else .st := id rfl
@[simp] theorem q_name : tgName i d = some [(i, d)] := id rfl
@[simp] theorem q_tg2 {t u : Tg} {d e : PyData} : tgTup [t, u] (.tuple [d, e]) = (t d).bind fun l => (u e).bind fun m => some (l ++ m) := by
  show tgAll _ _ = _
  simp [tgAll]
@[simp] theorem q_tg3 {t u v : Tg} {d e f : PyData} : tgTup [t, u, v] (.tuple [d, e, f]) = (t d).bind fun l => (u e).bind fun m => (v f).bind fun n => some (l ++ (m ++ n)) := by
  show tgAll _ _ = _
  simp only [tgAll]
  cases t d <;> simp
  cases u e <;> simp
  cases v f <;> simp
@[simp] theorem q_put0 : putD ρ [] = ρ := id rfl
@[simp] theorem q_put {l : List (Nat × PyData)} : putD ρ ((i, d) :: l) = putD (ρ.set i (.va d)) l := id rfl
@[simp] theorem q_fgt0 : fgt [] ρ = ρ := id rfl
@[simp] theorem q_fgtc {l : List Nat} : fgt (i :: l) ρ = fgt l (ρ.set i .no) := id rfl
@[simp] theorem q_frzow (h : ρ[i]? = some (.ow d)) : frz i ρ = ρ.set i (.va d) := by unfold frz; rw [h]
/-! data -/
@[simp] theorem q_addI {m n : Int} : dAdd (.int m) (.int n) = .ok (.int (m + n)) := id rfl
@[simp] theorem q_sub {m n : Int} : dSub (.int m) (.int n) = .ok (.int (m - n)) := id rfl
theorem q_mod' {m n : Int} (h : n ≠ 0) : dMod (.int m) (.int n) = .ok (.int (m.fmod n)) := by
  show (if (n != 0) = true then _ else _) = _
  rw [if_pos (by simpa using h)]
theorem q_mod {m n : Int} (h : 0 < n) : dMod (.int m) (.int n) = .ok (.int (m % n)) := by
  rw [q_mod' (by omega), Int.fmod_eq_emod_of_nonneg _ (by omega)]
theorem q_div {m n : Int} (h : 0 < n) (h2 : n < 1073741824) : dDiv (.int m) (.int n) = .ok (.int (m / n)) := by
  show (if (n != 0 && decide (n.natAbs < 1073741824)) = true then _ else _) = _
  rw [if_pos (by simp; omega), Int.fdiv_eq_ediv_of_nonneg _ (by omega)]
@[simp] theorem q_lt {m n : Int} : dLt (.int m) (.int n) = .ok (.bool (decide (m < n))) := id rfl
@[simp] theorem q_le {m n : Int} : dLe (.int m) (.int n) = .ok (.bool (decide (m ≤ n))) := id rfl
@[simp] theorem q_gt {m n : Int} : dGt (.int m) (.int n) = .ok (.bool (decide (n < m))) := id rfl
@[simp] theorem q_ge {m n : Int} : dGe (.int m) (.int n) = .ok (.bool (decide (n ≤ m))) := id rfl
@[simp] theorem q_neg {m : Int} : dNeg (.int m) = .ok (.int (-m)) := id rfl
theorem q_mul {m n : Int} (h : (-18446744073709551616 < m ∧ m < 18446744073709551616) ∨ (-18446744073709551616 < n ∧ n < 18446744073709551616)) : dMul (.int m) (.int n) = .ok (.int (m * n)) := by
  show (if mulC m n = true then _ else _) = _
  rw [if_pos (by unfold mulC; simpa using h)]
@[simp] theorem eqv_int {m n : Int} : PyData.eqv (.int m) (.int n) = decide (m = n) := by
  by_cases h : m = n <;> simp [PyData.eqv, h]
@[simp] theorem q_eqI {m n : Int} : dEq (.int m) (.int n) = .ok (.bool (decide (m = n))) := by
  unfold dEq
  rw [if_pos (show (shp 8 (.int m) && shp 8 (.int n)) = true from rfl), eqv_int]
@[simp] theorem q_neI {m n : Int} : dNe (.int m) (.int n) = .ok (.bool (!decide (m = n))) := by
  unfold dNe
  rw [if_pos (show (shp 8 (.int m) && shp 8 (.int n)) = true from rfl), eqv_int]
@[simp] theorem q_not {b : Bool} : dNot (.bool b) = .ok (.bool (!b)) := id rfl
@[simp] theorem q_notL {ds : List PyData} : dNot (.list ds) = .ok (.bool ds.isEmpty) := by
  show (Re.ok (!ds.isEmpty)).bind _ = _
  simp
@[simp] theorem q_truB {b : Bool} : truth (.bool b) = .ok b := id rfl
@[simp] theorem q_truL {ds : List PyData} : truth (.list ds) = .ok (!ds.isEmpty) := id rfl
@[simp] theorem q_truT {ds : List PyData} : truth (.tuple ds) = .ok (!ds.isEmpty) := id rfl
@[simp] theorem q_truN : truth .none = .ok false := id rfl
@[simp] theorem q_truI {m : Int} : truth (.int m) = .ok (m != 0) := id rfl
@[simp] theorem q_lenL {ds : List PyData} : dLen (.list ds) = .ok (.int ds.length) := id rfl
@[simp] theorem q_lenT {ds : List PyData} : dLen (.tuple ds) = .ok (.int ds.length) := id rfl
@[simp] theorem q_lenS {ns : List Int} : dLen (scrD ns) = .ok (.int ns.length) := by
  show Re.ok _ = _
  simp
@[simp] theorem q_max {m n : Int} : gMax [.int m, .int n] = .ok (.int (max m n)) := by
  show Re.ok _ = _
  congr 2
  omega
@[simp] theorem q_min {m n : Int} : gMin [.int m, .int n] = .ok (.int (min m n)) := by
  show Re.ok _ = _
  congr 2
  omega
theorem atI_nat {α : Type} (ds : List α) (n : Nat) : L2.atI ds (n : Int) = ds[n]? := by
  unfold L2.atI
  by_cases h : n < ds.length
  · have : ixN ds.length (n : Int) = some n := by
      unfold ixN; simp; omega
    rw [this]; rfl
  · have : ixN ds.length (n : Int) = none := by
      unfold ixN; simp; omega
    rw [this, List.getElem?_eq_none (by omega)]; rfl
theorem q_atL {ds : List PyData} {n : Nat} (h : ds[n]? = some d) : dSubs (.list ds) (.int n) = .ok d := by
  show dAt ds (.int n) = _
  unfold dAt
  simp only [atI_nat, h]
theorem q_atT {ds : List PyData} {n : Nat} (h : ds[n]? = some d) : dSubs (.tuple ds) (.int n) = .ok d := by
  show dAt ds (.int n) = _
  unfold dAt
  simp only [atI_nat, h]
theorem q_atS {ns : List Int} {n : Nat} {m : Int} (h : ns[n]? = some m) : dSubs (scrD ns) (.int n) = .ok (.int m) := by
  show dAt (ns.map .int) (.int n) = _
  unfold dAt
  simp only [atI_nat, List.getElem?_map, h, Option.map]
end
/-! ### loops -/
theorem forL_fold {σ : Type} {t : Tg} {fb : En → SR} (env : σ → En) (step : σ → PyData → σ) (I : σ → Prop) : ∀ (ds : List PyData) (s : σ), I s → (∀ s d, d ∈ ds → I s → I (step s d) ∧ ∃ m, t d = some m ∧ fb (putD (env s) m) = .nx (env (step s d))) → forL t fb ds (env s) = .nx (env (ds.foldl step s)) ∧ I (ds.foldl step s)
  | [], s, i, _ => ⟨rfl, i⟩
  | d :: ds, s, i, h => by
    obtain ⟨i1, m, e1, e2⟩ := h s d (List.mem_cons_self ..) i
    have ih := forL_fold env step I ds (step s d) i1 fun s' d' hd => h s' d' (List.mem_cons_of_mem _ hd)
    refine ⟨?_, ih.2⟩
    show (match t d with | none => _ | some m => _) = _
    rw [e1]
    show (match fb (putD (env s) m) with | .nx ρ' => _ | r => _) = _
    rw [e2]
    exact ih.1
/-- the items by a list of another kind -/
theorem forL_map {σ α : Type} {t : Tg} {fb : En → SR} (env : σ → En) (dat : α → PyData) (step : σ → α → σ) (I : σ → Prop) : ∀ (xs : List α) (s : σ), I s → (∀ s x, x ∈ xs → I s → I (step s x) ∧ ∃ m, t (dat x) = some m ∧ fb (putD (env s) m) = .nx (env (step s x))) → forL t fb (xs.map dat) (env s) = .nx (env (xs.foldl step s)) ∧ I (xs.foldl step s)
  | [], s, i, _ => ⟨rfl, i⟩
  | d :: ds, s, i, h => by
    obtain ⟨i1, m, e1, e2⟩ := h s d (List.mem_cons_self ..) i
    have ih := forL_map env dat step I ds (step s d) i1 fun s' d' hd => h s' d' (List.mem_cons_of_mem _ hd)
    refine ⟨?_, ih.2⟩
    show (match t (dat d) with | none => _ | some m => _) = _
    rw [e1]
    show (match fb (putD (env s) m) with | .nx ρ' => _ | r => _) = _
    rw [e2]
    exact ih.1
/-- .. with what went before -/
theorem forL_pre {σ α : Type} {t : Tg} {fb : En → SR} (env : σ → En) (dat : α → PyData) (step : σ → α → σ) : ∀ (xs : List α) (s : σ), (∀ pre x post, xs = pre ++ x :: post → ∃ m, t (dat x) = some m ∧ fb (putD (env (pre.foldl step s)) m) = .nx (env (step (pre.foldl step s) x))) → forL t fb (xs.map dat) (env s) = .nx (env (xs.foldl step s))
  | [], s, _ => rfl
  | d :: ds, s, h => by
    obtain ⟨m, e1, e2⟩ := h [] d ds rfl
    have ih := forL_pre env dat step ds (step s d) fun pre x post e => h (d :: pre) x post (by rw [e]; rfl)
    show (match t (dat d) with | none => _ | some m => _) = _
    rw [e1]
    show (match fb (putD (env s) m) with | .nx ρ' => _ | r => _) = _
    have e2 : fb (putD (env s) m) = .nx (env (step s d)) := e2
    rw [e2]
    exact ih
/-- a loop that changes nothing -/
theorem forL_same {t : Tg} {fb : En → SR} {ρ : En} : ∀ (ds : List PyData), (∀ d ∈ ds, ∃ m, t d = some m ∧ fb (putD ρ m) = .nx ρ) → forL t fb ds ρ = .nx ρ
  | [], _ => rfl
  | d :: ds, h => by
    obtain ⟨m, e1, e2⟩ := h d (List.mem_cons_self ..)
    have ih := forL_same ds fun d' hd => h d' (List.mem_cons_of_mem _ hd)
    show (match t d with | none => _ | some m => _) = _
    rw [e1]
    show (match fb (putD ρ m) with | .nx ρ' => _ | r => _) = _
    rw [e2]
    exact ih
/-- a comprehension over a list -/
theorem lc_map {α : Type} {t : Tg} {gc : En → Re Bool} {fe : En → Re PyData} {ρ : En} (dat : α → PyData) (p : α → Bool) (f : α → PyData) : ∀ (xs : List α), (∀ x ∈ xs, ∃ m, t (dat x) = some m ∧ gc (putD ρ m) = .ok (p x) ∧ (p x = true → fe (putD ρ m) = .ok (f x))) → lcL t gc fe ρ (xs.map dat) = .ok ((xs.filter p).map f)
  | [], _ => rfl
  | x :: xs, h => by
    obtain ⟨m, e1, e2, e3⟩ := h x (List.mem_cons_self ..)
    have ih := lc_map dat p f xs fun d' hd => h d' (List.mem_cons_of_mem _ hd)
    show (match t (dat x) with | none => _ | some m => _) = _
    rw [e1]
    show (calmR (gc (putD ρ m))).bind _ = _
    rw [e2]
    show (if p x = true then _ else _) = _
    cases hp : p x with
    | false =>
      rw [if_neg (by simp)]
      show lcL t gc fe ρ (xs.map dat) = _
      rw [ih, List.filter_cons_of_neg (by simp [hp])]
    | true =>
      rw [if_pos rfl, e3 hp]
      show (lcL t gc fe ρ (xs.map dat)).bind _ = _
      rw [ih, List.filter_cons_of_pos (by simp [hp])]
      rfl
/-- .. without a test -/
theorem lc_map1 {α : Type} {t : Tg} {fe : En → Re PyData} {ρ : En} (dat : α → PyData) (f : α → PyData) (xs : List α) (h : ∀ x ∈ xs, ∃ m, t (dat x) = some m ∧ fe (putD ρ m) = .ok (f x)) : lcL t gYes fe ρ (xs.map dat) = .ok (xs.map f) := by
  rw [lc_map dat (fun _ => true) f xs fun x hx => by
    obtain ⟨m, e1, e2⟩ := h x hx
    exact ⟨m, e1, rfl, fun _ => e2⟩, List.filter_eq_self.2 fun _ _ => rfl]
/-- while, by a measure -/
theorem whL_step {gc : En → Re Bool} {fb : En → SR} {n : Nat} {ρ ρ' : En} (hg : gc ρ = .ok true) (hb : fb ρ = .nx ρ') : whL gc fb (n + 1) ρ = whL gc fb n ρ' := by
  show SR.of (gc ρ) ρ _ = _
  rw [hg]
  show (match fb ρ with | .nx ρ' => _ | r => _) = _
  rw [hb]
theorem whL_stop {gc : En → Re Bool} {fb : En → SR} {n : Nat} {ρ : En} (hg : gc ρ = .ok false) : whL gc fb (n + 1) ρ = .nx ρ := by
  show SR.of (gc ρ) ρ _ = _
  rw [hg]
  rfl
theorem fnD_eq {n L : Nat} {fb : En → SR} {ds : List PyData} (h : ds.length = n) : fnD n L fb ds = match fb (ds.map .va ++ List.replicate (L - n) .no) with
  | .rt d => .ok d
  | .nx _ => .ok .none
  | .ex c p _ => .ex c p
  | .st => .st := by
  unfold fnD
  exact if_pos h
theorem fn_rt {n L : Nat} {fb : En → SR} {ds : List PyData} {d : PyData} (hl : ds.length = n) (h : fb (ds.map .va ++ List.replicate (L - n) .no) = .rt d) : fnD n L fb ds = .ok d := by
  rw [fnD_eq hl, h]
theorem fn_nx {n L : Nat} {fb : En → SR} {ds : List PyData} {ρ : En} (hl : ds.length = n) (h : fb (ds.map .va ++ List.replicate (L - n) .no) = .nx ρ) : fnD n L fb ds = .ok .none := by
  rw [fnD_eq hl, h]
theorem fn_ex {n L : Nat} {fb : En → SR} {ds : List PyData} {ρ : En} {c : Value} {p : Option PyData} (hl : ds.length = n) (h : fb (ds.map .va ++ List.replicate (L - n) .no) = .ex c p ρ) : fnD n L fb ds = .ex c p := by
  rw [fnD_eq hl, h]
theorem fits_of {n : Nat} (h : n ≤ 16777216) : fits n = true := decide_eq_true h
theorem bigB_of {n : Int} (h : -1000000000 ≤ n) (h2 : n ≤ 1000000000) : bigB n = true := by
  unfold bigB; simp; omega
/-! ### slices -/
theorem cut_from (ds : List PyData) (k : Nat) : DL.cutD ds (some (k : Int)) none = ds.drop k := by
  unfold DL.cutD
  have h1 : HT.sIx ds.length 0 (some (k : Int)) = min k ds.length := HT.sIx_nat _ _ _
  have h2 : HT.sIx ds.length ds.length none = ds.length := rfl
  rw [h1, h2]
  by_cases h : k ≤ ds.length
  · rw [Nat.min_eq_left h, List.take_of_length_le (by simp)]
  · rw [Nat.min_eq_right (by omega), List.drop_eq_nil_of_le (Nat.le_refl _), List.drop_eq_nil_of_le (by omega)]
    simp
theorem cut_to (ds : List PyData) (k : Nat) : DL.cutD ds none (some (k : Int)) = ds.take k := by
  unfold DL.cutD
  have h1 : HT.sIx ds.length ds.length (some (k : Int)) = min k ds.length := HT.sIx_nat _ _ _
  have h2 : HT.sIx ds.length 0 none = 0 := rfl
  rw [h1, h2]
  by_cases h : k ≤ ds.length
  · rw [Nat.min_eq_left h]; rfl
  · rw [Nat.min_eq_right (by omega), List.take_of_length_le (by simp), List.take_of_length_le (by omega)]
    rfl
theorem cut_mid (ds : List PyData) (j k : Nat) (h : j ≤ k) (h2 : k ≤ ds.length) : DL.cutD ds (some (j : Int)) (some (k : Int)) = (ds.drop j).take (k - j) := by
  unfold DL.cutD
  rw [HT.sIx_nat, HT.sIx_nat, Nat.min_eq_left h2, Nat.min_eq_left (by omega)]
theorem cut_last (ds : List PyData) (k : Nat) (h : 0 < k) : DL.cutD ds (some (-(k : Int))) none = ds.drop (ds.length - k) := by
  unfold DL.cutD
  have h1 : HT.sIx ds.length 0 (some (-(k : Int))) = ds.length - k := by
    unfold HT.sIx
    dsimp only
    rw [if_pos (by omega)]
    omega
  have h2 : HT.sIx ds.length ds.length none = ds.length := rfl
  rw [h1, h2, List.take_of_length_le (by simp)]
theorem zipD_map {α β : Type} (f : α → PyData) (g : β → PyData) : ∀ (xs : List α) (ys : List β), zipD (xs.map f) (ys.map g) = (xs.zip ys).map fun p => .tuple [f p.1, g p.2]
  | [], _ => rfl
  | _ :: _, [] => rfl
  | x :: xs, y :: ys => by simp [zipD, zipD_map f g xs ys]
/-! ### ints in lists -/
abbrev iL (ns : List Int) : PyData := .list (ns.map .int)
abbrev nI (n : Nat) : PyData := .int (n : Int)
theorem rngD_nat (n : Nat) : rngD 0 n = (List.range n).map nI := by
  unfold rngD nI
  simp
theorem q_LR1 {n : Nat} (h : n ≤ 1000000) : dLR1 (.int n) = .ok (.list ((List.range n).map nI)) := by
  unfold dLR1
  simp only
  rw [if_pos (by simp; omega), Int.toNat_natCast, rngD_nat]
/-! ### data of one kind, compared -/
structure Em {α : Type} [DecidableEq α] (n : Nat) (f : α → PyData) : Prop where
  eq : ∀ x y, PyData.eqv (f x) (f y) = decide (x = y)
  sh : ∀ x, shp n (f x) = true
theorem em_int (n : Nat) : Em n PyData.int := ⟨fun x y => eqv_int, fun x => by cases n <;> rfl⟩
theorem em_nat (n : Nat) : Em n nI := ⟨fun x y => by rw [eqv_int, Bool.eq_iff_iff]; simp; omega, fun x => by cases n <;> rfl⟩
theorem em_bool (n : Nat) : Em n PyData.bool := ⟨fun x y => by cases x <;> cases y <;> simp [PyData.eqv], fun x => by cases n <;> rfl⟩
theorem eqvAll_map {α : Type} [DecidableEq α] {f : α → PyData} (h : ∀ x y, PyData.eqv (f x) (f y) = decide (x = y)) : ∀ (xs ys : List α), PyData.eqvAll (xs.map f) (ys.map f) = decide (xs = ys)
  | [], [] => by simp [PyData.eqvAll]
  | [], y :: ys => by simp [PyData.eqvAll]
  | x :: xs, [] => by simp [PyData.eqvAll]
  | x :: xs, y :: ys => by
    rw [List.map_cons, List.map_cons, PyData.eqvAll, h, eqvAll_map h xs ys, Bool.eq_iff_iff]
    simp
theorem Em.list {α : Type} [DecidableEq α] {n : Nat} {f : α → PyData} (h : Em n f) : Em (n + 1) (fun xs : List α => PyData.list (xs.map f)) := ⟨fun x y => by rw [PyData.eqv, eqvAll_map h.eq], fun x => by
  show (x.map f).all (shp n) = true
  rw [List.all_eq_true]
  intro d hd
  obtain ⟨z, _, rfl⟩ := List.mem_map.1 hd
  exact h.sh z⟩
theorem Em.tuple {α : Type} [DecidableEq α] {n : Nat} {f : α → PyData} (h : Em n f) : Em (n + 1) (fun xs : List α => PyData.tuple (xs.map f)) := ⟨fun x y => by rw [PyData.eqv, eqvAll_map h.eq], fun x => by
  show (x.map f).all (shp n) = true
  rw [List.all_eq_true]
  intro d hd
  obtain ⟨z, _, rfl⟩ := List.mem_map.1 hd
  exact h.sh z⟩
theorem Em.qEq {α : Type} [DecidableEq α] {f : α → PyData} (h : Em 8 f) (x y : α) : dEq (f x) (f y) = .ok (.bool (decide (x = y))) := by
  unfold dEq
  rw [h.sh, h.sh, h.eq]
  rfl
theorem Em.qNe {α : Type} [DecidableEq α] {f : α → PyData} (h : Em 8 f) (x y : α) : dNe (f x) (f y) = .ok (.bool (!decide (x = y))) := by
  unfold dNe
  rw [h.sh, h.sh, h.eq]
  rfl
@[simp] theorem q_neB {a b : Bool} : dNe (.bool a) (.bool b) = .ok (.bool (!decide (a = b))) := (em_bool 8).qNe a b
@[simp] theorem q_eqB {a b : Bool} : dEq (.bool a) (.bool b) = .ok (.bool (decide (a = b))) := (em_bool 8).qEq a b
theorem q_inN {m : Nat} {ms : List Nat} : dIn (nI m) (.list (ms.map nI)) = .ok (.bool (ms.any fun k => Nat.beq k m)) := by
  unfold dIn dInB
  simp only
  rw [if_pos (by
    rw [Bool.and_eq_true]
    refine ⟨rfl, ?_⟩
    rw [List.all_eq_true]
    intro d hd
    obtain ⟨z, _, rfl⟩ := List.mem_map.1 hd
    rfl)]
  rw [List.any_map]
  have : ((fun z => PyData.eqv z (nI m)) ∘ nI) = fun k => Nat.beq k m := by
    funext k
    show PyData.eqv (nI k) (nI m) = _
    rw [(em_nat 0).eq, Bool.eq_iff_iff]
    simp
  rw [this]
  rfl
theorem q_modN {a b : Nat} (h : 0 < b) : dMod (nI a) (nI b) = .ok (nI (a % b)) := q_mod (by omega)
/-- one, other = other, one % other, until other is 0 -/
theorem gcd_loop : ∀ (b a n : Nat), b < n → whL (toB (e2 dNe (eVar 1) (eC (.int 0)))) (sPar 0 1 (aCons (eVar 1) (aCons (e2 dMod (eVar 0) (eVar 1)) aNil))) n [.va (nI a), .va (nI b)] = .nx [.va (nI (Nat.gcd b a)), .va (nI 0)]
  | b, a, 0, h => by omega
  | 0, a, n + 1, h => by
    rw [whL_stop (by simp), Nat.gcd_zero_left]
  | b + 1, a, n + 1, h => by
    have : (a % (b + 1)) < b + 1 := Nat.mod_lt _ (by omega)
    rw [whL_step (ρ' := [.va (nI (b + 1)), .va (nI (a % (b + 1)))]) ?_ ?_, gcd_loop (a % (b + 1)) (b + 1) n (by omega), ← Nat.gcd_rec]
    · have : ¬ ((b : Int) + 1 = 0) := by omega
      simp [this]
    · simp [q_modN]
termination_by b => b
theorem rngD_from (k n : Nat) : rngD k n = (List.range n).map fun i => nI (k + i) := by
  unfold rngD nI
  simp
end DL

/-! # The plain side, more: lists of naturals, try -/
namespace DL
open PySem PySem.Spec L2 PyProof.Rows
abbrev nL (ns : List Nat) : PyData := .list (ns.map nI)
abbrev nT (ns : List Nat) : PyData := .tuple (ns.map nI)
abbrev iT (ns : List Int) : PyData := .tuple (ns.map .int)
theorem q_at {α : Type} {f : α → PyData} {ds : List α} {k : Int} {n : Nat} {x : α} (hk : k = n) (h : ds[n]? = some x) : dSubs (.list (ds.map f)) (.int k) = .ok (f x) := by
  subst hk
  exact q_atL (by rw [List.getElem?_map, h]; rfl)
theorem q_atU {α : Type} {f : α → PyData} {ds : List α} {k : Int} {n : Nat} {x : α} (hk : k = n) (h : ds[n]? = some x) : dSubs (.tuple (ds.map f)) (.int k) = .ok (f x) := by
  subst hk
  exact q_atT (by rw [List.getElem?_map, h]; rfl)
@[simp] theorem q_t0 {a : PyData} {r : List PyData} : dSubs (.tuple (a :: r)) (.int 0) = .ok a := q_atT (n := 0) rfl
@[simp] theorem q_t1 {a b : PyData} {r : List PyData} : dSubs (.tuple (a :: b :: r)) (.int 1) = .ok b := q_atT (n := 1) rfl
@[simp] theorem q_t2 {a b c : PyData} {r : List PyData} : dSubs (.tuple (a :: b :: c :: r)) (.int 2) = .ok c := q_atT (n := 2) rfl
/-! try -/
def SR.tr (cT : Addr → Addr → Option Bool) (r : SR) (hs : List HD) : SR := match r with
  | .ex (.ref c) p ρ' => tryH cT c p ρ' hs
  | .ex _ _ _ => .st
  | r => r
theorem q_try' {cT : Addr → Addr → Option Bool} {fb : En → SR} {hs : List HD} {ρ : En} : sTry cT fb hs ρ = (fb ρ).tr cT hs := by
  unfold sTry SR.tr
  cases fb ρ with
  | ex c p ρ' => cases c <;> rfl
  | _ => rfl
@[simp] theorem q_try {cT : Addr → Addr → Option Bool} {fb : En → SR} {hs : List HD} {ρ : En} : sTry cT fb hs ρ = (fb ρ).tr cT hs := q_try'
@[simp] theorem tr_nx {cT : Addr → Addr → Option Bool} {hs : List HD} {ρ : En} : SR.tr cT (.nx ρ) hs = .nx ρ := id rfl
@[simp] theorem tr_rt {cT : Addr → Addr → Option Bool} {hs : List HD} {d : PyData} : SR.tr cT (.rt d) hs = .rt d := id rfl
@[simp] theorem tr_ex {cT : Addr → Addr → Option Bool} {hs : List HD} {c : Addr} {p : Option PyData} {ρ : En} : SR.tr cT (.ex (.ref c) p ρ) hs = tryH cT c p ρ hs := id rfl
@[simp] theorem off_rt {i : Nat} {d : PyData} : SR.off i (.rt d) = .rt d := id rfl
@[simp] theorem off_nx {i : Nat} {ρ : En} : SR.off i (.nx ρ) = .nx (ρ.set i .no) := id rfl
@[simp] theorem calm_rt {d : PyData} : SR.calm (.rt d) = .rt d := id rfl
@[simp] theorem calm_nx {ρ : En} : SR.calm (.nx ρ) = .nx ρ := id rfl
theorem tryH_yes {cT : Addr → Addr → Option Bool} {c C : Addr} {p : Option PyData} {ρ : En} {i : Nat} {f : Addr → Option PyData → En → SR} {hs : List HD} (h : cT c C = some true) (hi : i < ρ.length) : tryH cT c p ρ (⟨C, some i, f⟩ :: hs) = SR.off i (SR.calm (f c p (ρ.set i .no))) := by
  unfold tryH
  simp only [h]
  rw [if_pos hi]
theorem tryH_yesN {cT : Addr → Addr → Option Bool} {c C : Addr} {p : Option PyData} {ρ : En} {f : Addr → Option PyData → En → SR} {hs : List HD} (h : cT c C = some true) : tryH cT c p ρ (⟨C, none, f⟩ :: hs) = SR.calm (f c p ρ) := by
  unfold tryH
  simp only [h]
theorem tryH_no {cT : Addr → Addr → Option Bool} {c C : Addr} {p : Option PyData} {ρ : En} {nm : Option Nat} {f : Addr → Option PyData → En → SR} {hs : List HD} (h : cT c C = some false) : tryH cT c p ρ (⟨C, nm, f⟩ :: hs) = tryH cT c p ρ hs := by
  conv => lhs; unfold tryH
  simp only [h]
theorem hRet_eq {cT : Addr → Addr → Option Bool} {C1 : Addr} {o2 : Option Addr} {s1 s2 : PyData} {c : Addr} {ρ : En} {b : Bool} (h : hCond cT c C1 o2 = some b) : hRet cT C1 o2 s1 s2 c none ρ = .rt (if b then s1 else s2) := by
  unfold hRet hStr
  rw [h]
  rfl
theorem hApp_eq {cT : Addr → Addr → Option Bool} {j : Nat} {C1 : Addr} {o2 : Option Addr} {s1 s2 : PyData} {c : Addr} {ρ : En} {b : Bool} (h : hCond cT c C1 o2 = some b) : hApp cT j C1 o2 s1 s2 c none ρ = sApp j (eC (if b then s1 else s2)) ρ := by
  unfold hApp hStr
  rw [h]
  rfl
/-! data that is no dict anywhere -/
mutual
def noD : PyData → Bool
  | .dict _ => false
  | .list xs => noDs xs
  | .tuple xs => noDs xs
  | _ => true
def noDs : List PyData → Bool
  | [] => true
  | x :: xs => noD x && noDs xs
end
theorem noDs_mem : ∀ {xs : List PyData}, noDs xs = true → ∀ x ∈ xs, noD x = true
  | [], _, x, hx => by simp at hx
  | y :: ys, h, x, hx => by
    rw [noDs, Bool.and_eq_true] at h
    rcases List.mem_cons.1 hx with rfl | hx
    · exact h.1
    · exact noDs_mem h.2 x hx
theorem q_isi {t : Ty} {d : PyData} (h : noD d = true) : dIsi t d = .ok (.bool (isTy t d)) := by
  cases d <;> first | rfl | (simp [noD] at h)
end DL

namespace LAW
open PySem PySem.Spec L2 PyProof.Rows DL
/-! ### the text -/
def topS (i : Nat) : Stmt := PySem.Challenge.pw_stretchchains_k01_books.main.body.getD i (.Pass ⟨0, 0, 0, 0⟩)
abbrev s__law_hidden : Stmt := topS 62
abbrev s__law_cell : Stmt := topS 58
abbrev s__law_row : Stmt := topS 60
abbrev s__law_book : Stmt := topS 63
abbrev s_is_within : Stmt := topS 15
abbrev s_is_telling : Stmt := topS 16
abbrev s_is_book : Stmt := topS 17
abbrev s_look : Stmt := topS 18
abbrev s_book_text : Stmt := topS 56
abbrev s_chain : Stmt := topS 31
abbrev s_look_prices : Stmt := topS 34
abbrev s_cheapest : Stmt := topS 39
abbrev s_look_bounds : Stmt := topS 42
abbrev s_look_both : Stmt := topS 45
abbrev s_greatest : Stmt := topS 46
abbrev s_is_true : Stmt := topS 29
abbrev s_ring : Stmt := topS 48
abbrev s_look_true : Stmt := topS 30
abbrev s_row : Stmt := topS 54
abbrev s_with_telling : Stmt := topS 22
abbrev s__law_book_word : Stmt := topS 68
abbrev s__law_whole : Stmt := topS 59
abbrev s__law_in : Stmt := topS 61
abbrev s__law_is_telling : Stmt := topS 64
abbrev s__law_is_book : Stmt := topS 65
abbrev s__law_less : Stmt := topS 66
abbrev s_look_number : Stmt := topS 20
abbrev s_without_of : Stmt := topS 21
abbrev s_without : Stmt := topS 23
abbrev s__law_turned_told : Stmt := topS 67
abbrev s_law : Stmt := topS 69
theorem sc__law_hidden : FnScope ["draws", "at", "many", "place"] ["draws", "at", "many"] (defScope s__law_hidden) := ⟨rfl, rfl, rfl, by decide +kernel, rfl, by decide +kernel, by decide +kernel⟩
theorem sc__law_cell : FnScope ["script", "k"] ["script", "k"] (defScope s__law_cell) := ⟨rfl, rfl, rfl, by decide +kernel, rfl, by decide +kernel, by decide +kernel⟩
theorem sc__law_row : FnScope ["script", "at", "cell", "found", "time"] ["script", "at"] (defScope s__law_row) := ⟨rfl, rfl, rfl, by decide +kernel, rfl, by decide +kernel, by decide +kernel⟩
theorem sc__law_book : FnScope ["script", "at", "most_row", "wrong", "draws", "many", "hidden", "tellings", "time", "start", "end", "off"] ["script", "at", "most_row", "wrong"] (defScope s__law_book) := ⟨rfl, rfl, rfl, by decide +kernel, rfl, by decide +kernel, by decide +kernel⟩
theorem sc_is_within : FnScope ["thing", "low", "high"] ["thing", "low", "high"] (defScope s_is_within) := ⟨rfl, rfl, rfl, by decide +kernel, rfl, by decide +kernel, by decide +kernel⟩
theorem sc_is_telling : FnScope ["many", "thing"] ["many", "thing"] (defScope s_is_telling) := ⟨rfl, rfl, rfl, by decide +kernel, rfl, by decide +kernel, by decide +kernel⟩
theorem sc_is_book : FnScope ["thing", "one"] ["thing"] (defScope s_is_book) := ⟨rfl, rfl, rfl, by decide +kernel, rfl, by decide +kernel, by decide +kernel⟩
theorem sc_look : FnScope ["book"] ["book"] (defScope s_look) := ⟨rfl, rfl, rfl, by decide +kernel, rfl, by decide +kernel, by decide +kernel⟩
theorem sc_book_text : FnScope ["book", "start", "end", "much"] ["book"] (defScope s_book_text) := ⟨rfl, rfl, rfl, by decide +kernel, rfl, by decide +kernel, by decide +kernel⟩
theorem sc_chain : FnScope ["book", "start", "end", "found"] ["book", "start", "end"] (defScope s_chain) := ⟨rfl, rfl, rfl, by decide +kernel, rfl, by decide +kernel, by decide +kernel⟩
theorem sc_look_prices : FnScope ["book", "prices", "one"] ["book", "prices"] (defScope s_look_prices) := ⟨rfl, rfl, rfl, by decide +kernel, rfl, by decide +kernel, by decide +kernel⟩
theorem sc_cheapest : FnScope ["book", "prices"] ["book", "prices"] (defScope s_cheapest) := ⟨rfl, rfl, rfl, by decide +kernel, rfl, by decide +kernel, by decide +kernel⟩
theorem sc_look_bounds : FnScope ["book", "low", "high"] ["book", "low", "high"] (defScope s_look_bounds) := ⟨rfl, rfl, rfl, by decide +kernel, rfl, by decide +kernel, by decide +kernel⟩
theorem sc_look_both : FnScope ["book", "low", "high", "start", "end"] ["book", "low", "high", "start", "end"] (defScope s_look_both) := ⟨rfl, rfl, rfl, by decide +kernel, rfl, by decide +kernel, by decide +kernel⟩
theorem sc_greatest : FnScope ["book", "low", "high", "start", "end", "found"] ["book", "low", "high", "start", "end"] (defScope s_greatest) := ⟨rfl, rfl, rfl, by decide +kernel, rfl, by decide +kernel, by decide +kernel⟩
theorem sc_is_true : FnScope ["book"] ["book"] (defScope s_is_true) := ⟨rfl, rfl, rfl, by decide +kernel, rfl, by decide +kernel, by decide +kernel⟩
theorem sc_ring : FnScope ["book", "lot", "sums", "number", "start", "end", "much", "other", "sign"] ["book"] (defScope s_ring) := ⟨rfl, rfl, rfl, by decide +kernel, rfl, by decide +kernel, by decide +kernel⟩
theorem sc_look_true : FnScope ["book"] ["book"] (defScope s_look_true) := ⟨rfl, rfl, rfl, by decide +kernel, rfl, by decide +kernel, by decide +kernel⟩
theorem sc_row : FnScope ["book"] ["book"] (defScope s_row) := ⟨rfl, rfl, rfl, by decide +kernel, rfl, by decide +kernel, by decide +kernel⟩
theorem sc_with_telling : FnScope ["book", "telling"] ["book", "telling"] (defScope s_with_telling) := ⟨rfl, rfl, rfl, by decide +kernel, rfl, by decide +kernel, by decide +kernel⟩
theorem sc__law_book_word : FnScope ["mode", "book", "e"] ["mode", "book"] (defScope s__law_book_word) := ⟨rfl, rfl, rfl, by decide +kernel, rfl, by decide +kernel, by decide +kernel⟩
theorem sc__law_whole : FnScope ["found"] ["found"] (defScope s__law_whole) := ⟨rfl, rfl, rfl, by decide +kernel, rfl, by decide +kernel, by decide +kernel⟩
theorem sc__law_in : FnScope ["thing", "low", "high"] ["thing", "low", "high"] (defScope s__law_in) := ⟨rfl, rfl, rfl, by decide +kernel, rfl, by decide +kernel, by decide +kernel⟩
theorem sc__law_is_telling : FnScope ["many", "thing"] ["many", "thing"] (defScope s__law_is_telling) := ⟨rfl, rfl, rfl, by decide +kernel, rfl, by decide +kernel, by decide +kernel⟩
theorem sc__law_is_book : FnScope ["thing", "one"] ["thing"] (defScope s__law_is_book) := ⟨rfl, rfl, rfl, by decide +kernel, rfl, by decide +kernel, by decide +kernel⟩
theorem sc__law_less : FnScope ["book", "number"] ["book", "number"] (defScope s__law_less) := ⟨rfl, rfl, rfl, by decide +kernel, rfl, by decide +kernel, by decide +kernel⟩
theorem sc_look_number : FnScope ["book", "number"] ["book", "number"] (defScope s_look_number) := ⟨rfl, rfl, rfl, by decide +kernel, rfl, by decide +kernel, by decide +kernel⟩
theorem sc_without_of : FnScope ["book", "number"] ["book", "number"] (defScope s_without_of) := ⟨rfl, rfl, rfl, by decide +kernel, rfl, by decide +kernel, by decide +kernel⟩
theorem sc_without : FnScope ["book", "number"] ["book", "number"] (defScope s_without) := ⟨rfl, rfl, rfl, by decide +kernel, rfl, by decide +kernel, by decide +kernel⟩
theorem sc__law_turned_told : FnScope ["mode", "book", "thing", "e"] ["mode", "book", "thing"] (defScope s__law_turned_told) := ⟨rfl, rfl, rfl, by decide +kernel, rfl, by decide +kernel, by decide +kernel⟩
theorem sc_law : FnScope ["script", "draws", "book", "many", "tellings", "bent", "some", "telling", "due", "number", "place"] ["script"] (defScope s_law) := ⟨rfl, rfl, rfl, by decide +kernel, rfl, by decide +kernel, by decide +kernel⟩
/-! ### the functions on data -/
abbrev C_StretchError : Addr := 24
abbrev C_BadBook : Addr := 37
abbrev C_NotTrue : Addr := 73
abbrev C_BadNumber : Addr := 97
/-- which of the classes stands under which -/
def cT : Addr → Addr → Option Bool
  | 37, 24 => some true
  | 37, 37 => some true
  | 37, 73 => some false
  | 37, 97 => some false
  | 97, 24 => some true
  | 97, 37 => some false
  | 97, 73 => some false
  | 97, 97 => some true
  | _, _ => none
def f__law_hidden : En → SR :=
  (sRet (eLc [3] (iRng1 (aCons (eVar 2) aNil)) (tgName 3) gYes (e2 dSub (e2 dMod (e2 dSubs (eLook 0) (e2 dMod (e2 dAdd (eVar 1) (eVar 3)) (eC (.int 60)))) (eC (.int 9))) (eC (.int 4)))))
def g__law_hidden : List PyData → Re PyData := fnD 3 4 f__law_hidden
def f__law_cell : En → SR :=
  (sSeq (sIf (toB (e2 dLt (eVar 1) (e1 dLen (eLook 0))))
  (sRet (e2 dSubs (eLook 0) (eVar 1)))
  sSkip)
  (sRet (eC (.int 0))))
def g__law_cell : List PyData → Re PyData := fnD 2 2 f__law_cell
def p1__law_row : En → SR :=
  (sFgt [4] (sIf (toB (e2 dLt (eCall g__law_cell (aCons (eVar 0) (aCons (eVar 1) aNil))) (e2 dPow (eC (.int 10)) (eC (.int 18)))))
  (sSeq (sSet 2 (e2 dMod (e2 dAdd (e2 dAdd (e2 dAdd (e2 dMul (eVar 2) (eC (.int 48271))) (e2 dMul (eC (.int 131)) (eVar 4))) (eC (.int 7))) (eCall g__law_cell (aCons (eVar 0) (aCons (e2 dMod (e2 dAdd (e2 dAdd (eVar 1) (eC (.int 1))) (eVar 4)) (eC (.int 20))) aNil)))) (eC (.int 2147483647))))
  (sApp 3 (e2 dMod (e2 dDiv (eVar 2) (eC (.int 11))) (eC (.int 1000)))))
  (sSeq (sApp 3 (e2 dMod (eVar 2) (eC (.int 1000))))
  (sSet 2 (e2 dDiv (eVar 2) (eC (.int 1000)))))))
def f__law_row : En → SR :=
  (sSeq (sSet 2 (eCall g__law_cell (aCons (eVar 0) (aCons (eVar 1) aNil))))
  (sSeq (sOwn 3 (eLst aNil))
  (sSeq (sFgt [2, 4] (sFor (iRng1 (aCons (eC (.int 60)) aNil)) (tgName 4) p1__law_row))
  (sFrz 3 (sRet (eVar 3))))))
def g__law_row : List PyData → Re PyData := fnD 2 5 f__law_row
def p1__law_book : En → SR :=
  (sFgt [8, 9, 10, 11] (sSeq (sSet 9 (e2 dMod (e2 dSubs (eLook 4) (e2 dAdd (eC (.int 3)) (e2 dMul (eC (.int 3)) (eVar 8)))) (eVar 5)))
  (sSeq (sSet 10 (e2 dAdd (e2 dAdd (eVar 9) (eC (.int 1))) (e2 dMod (e2 dSubs (eLook 4) (e2 dAdd (eC (.int 4)) (e2 dMul (eC (.int 3)) (eVar 8)))) (e2 dSub (eVar 5) (eVar 9)))))
  (sSeq (sSet 11 (eCall gInt (aCons (eAnd (eVar 3) (e2 dEq (e2 dMod (e2 dSubs (eLook 4) (e2 dAdd (eC (.int 5)) (e2 dMul (eC (.int 3)) (eVar 8)))) (eC (.int 7))) (eC (.int 0)))) aNil)))
  (sApp 7 (eTup (aCons (eVar 9) (aCons (eVar 10) (aCons (e2 dAdd (eCall gSum (aCons (eSlice (eLook 6) (oSome (eVar 9)) (oSome (eVar 10))) aNil)) (eVar 11)) aNil)))))))))
def f__law_book : En → SR :=
  (sSeq (sSet 4 (eCall g__law_row (aCons (eVar 0) (aCons (eVar 1) aNil))))
  (sSeq (sSet 5 (e2 dAdd (eC (.int 1)) (e2 dMod (e2 dSubs (eLook 4) (eC (.int 0))) (eVar 2))))
  (sSeq (sSet 6 (eCall g__law_hidden (aCons (eVar 4) (aCons (eC (.int 40)) (aCons (eVar 5) aNil)))))
  (sSeq (sOwn 7 (eLst aNil))
  (sSeq (sFgt [8, 9, 10, 11] (sFor (iRng1 (aCons (e2 dMod (e2 dSubs (eLook 4) (eC (.int 1))) (eC (.int 11))) aNil)) (tgName 8) p1__law_book))
  (sRet (eTup (aCons (eVar 5) (aCons (e1 dTuple (eLook 7)) aNil)))))))))
def g__law_book : List PyData → Re PyData := fnD 4 12 f__law_book
def f_is_within : En → SR :=
  (sRet (eAnd (e1 (dIsi .int) (eVar 0)) (eAnd (e1 dNot (e1 (dIsi .bool) (eVar 0))) (eChain (eVar 1) (eVar 0) (eVar 2)))))
def g_is_within : List PyData → Re PyData := fnD 3 3 f_is_within
def f_is_telling : En → SR :=
  (sSeq (sIf (bOr (bNot (bTru (e1 (dIsi .tup) (eVar 1)))) (bOr (toB (e2 dNe (e1 dLen (eLook 1)) (eC (.int 3)))) (bNot (bTru (eCall g_is_within (aCons (e2 dSubs (eLook 1) (eC (.int 0))) (aCons (eC (.int 0)) (aCons (e2 dSub (eVar 0) (eC (.int 1))) aNil))))))))
  (sRet (eC (.bool false)))
  sSkip)
  (sRet (eAnd (eCall g_is_within (aCons (e2 dSubs (eLook 1) (eC (.int 1))) (aCons (e2 dAdd (e2 dSubs (eLook 1) (eC (.int 0))) (eC (.int 1))) (aCons (eVar 0) aNil)))) (eCall g_is_within (aCons (e2 dSubs (eLook 1) (eC (.int 2))) (aCons (e1 dNeg (eC (.int 9999))) (aCons (eC (.int 9999)) aNil)))))))
def g_is_telling : List PyData → Re PyData := fnD 2 2 f_is_telling
def f_is_book : En → SR :=
  (sSeq (sIf (bOr (bNot (bTru (e1 (dIsi .tup) (eVar 0)))) (bOr (toB (e2 dNe (e1 dLen (eLook 0)) (eC (.int 2)))) (bNot (bTru (eCall g_is_within (aCons (e2 dSubs (eLook 0) (eC (.int 0))) (aCons (eC (.int 1)) (aCons (eC (.int 16)) aNil))))))))
  (sRet (eC (.bool false)))
  sSkip)
  (sSeq (sIf (bOr (bNot (bTru (e1 (dIsi .tup) (e2 dSubs (eLook 0) (eC (.int 1)))))) (toB (e2 dGt (e1 dLen (e2 dSubs (eLook 0) (eC (.int 1)))) (eC (.int 24)))))
  (sRet (eC (.bool false)))
  sSkip)
  (sRet (e1 dNot (eLc [1] (iSeq (e2 dSubs (eLook 0) (eC (.int 1)))) (tgName 1) (bNot (bTru (eCall g_is_telling (aCons (e2 dSubs (eLook 0) (eC (.int 0))) (aCons (eVar 1) aNil))))) (eVar 1))))))
def g_is_book : List PyData → Re PyData := fnD 1 2 f_is_book
def f_look : En → SR :=
  (sIf (bNot (bTru (eCall g_is_book (aCons (eVar 0) aNil))))
  (sRaise (.ref C_BadBook))
  sSkip)
def g_look : List PyData → Re PyData := fnD 1 1 f_look
def f_book_text : En → SR :=
  (sSeq (sExpr (eCall g_look (aCons (eVar 0) aNil)))
  sStuck)
def g_book_text : List PyData → Re PyData := fnD 1 4 f_book_text
def f_chain : En → SR :=
  (sSeq (sExpr (eCall g_look (aCons (eVar 0) aNil)))
  sStuck)
def g_chain : List PyData → Re PyData := fnD 3 4 f_chain
def f_look_prices : En → SR :=
  (sSeq (sExpr (eCall g_look (aCons (eVar 0) aNil)))
  sStuck)
def g_look_prices : List PyData → Re PyData := fnD 2 3 f_look_prices
def f_cheapest : En → SR :=
  (sSeq (sExpr (eCall g_look_prices (aCons (eVar 0) (aCons (eVar 1) aNil))))
  sStuck)
def g_cheapest : List PyData → Re PyData := fnD 2 2 f_cheapest
def f_look_bounds : En → SR :=
  (sSeq (sExpr (eCall g_look (aCons (eVar 0) aNil)))
  sStuck)
def g_look_bounds : List PyData → Re PyData := fnD 3 3 f_look_bounds
def f_look_both : En → SR :=
  (sSeq (sExpr (eCall g_look_bounds (aCons (eVar 0) (aCons (eVar 1) (aCons (eVar 2) aNil)))))
  sStuck)
def g_look_both : List PyData → Re PyData := fnD 5 5 f_look_both
def f_greatest : En → SR :=
  (sSeq (sExpr (eCall g_look_both (aCons (eVar 0) (aCons (eVar 1) (aCons (eVar 2) (aCons (eVar 3) (aCons (eVar 4) aNil)))))))
  sStuck)
def g_greatest : List PyData → Re PyData := fnD 5 6 f_greatest
def f_is_true : En → SR :=
  (sSeq (sExpr (eCall g_look (aCons (eVar 0) aNil)))
  sStuck)
def g_is_true : List PyData → Re PyData := fnD 1 1 f_is_true
def f_ring : En → SR :=
  (sSeq (sExpr (eCall g_look (aCons (eVar 0) aNil)))
  sStuck)
def g_ring : List PyData → Re PyData := fnD 1 9 f_ring
def f_look_true : En → SR :=
  (sSeq (sExpr (eCall g_look (aCons (eVar 0) aNil)))
  sStuck)
def g_look_true : List PyData → Re PyData := fnD 1 1 f_look_true
def f_row : En → SR :=
  (sSeq (sExpr (eCall g_look_true (aCons (eVar 0) aNil)))
  sStuck)
def g_row : List PyData → Re PyData := fnD 1 1 f_row
def f_with_telling : En → SR :=
  (sSeq (sExpr (eCall g_look (aCons (eVar 0) aNil)))
  (sSeq (sIf (bOr (bNot (bTru (eCall g_is_telling (aCons (e2 dSubs (eLook 0) (eC (.int 0))) (aCons (eVar 1) aNil))))) (toB (e2 dEq (e1 dLen (e2 dSubs (eLook 0) (eC (.int 1)))) (eC (.int 24)))))
  (sRaise (.ref C_BadNumber))
  sSkip)
  (sRet (eTup (aCons (e2 dSubs (eLook 0) (eC (.int 0))) (aCons (e2 dAdd (e2 dSubs (eLook 0) (eC (.int 1))) (eTup (aCons (eVar 1) aNil))) aNil))))))
def g_with_telling : List PyData → Re PyData := fnD 2 2 f_with_telling
def f__law_book_word : En → SR :=
  (sSeq (sFgt [2] (sTry cT (sIf (toB (e2 dEq (eVar 0) (eC (.int 0))))
  (sExpr (eCall g_with_telling (aCons (eVar 1) (aCons (eC .none) aNil))))
  (sIf (toB (e2 dEq (eVar 0) (eC (.int 1))))
  (sExpr (eCall g_is_true (aCons (eVar 1) aNil)))
  (sIf (toB (e2 dEq (eVar 0) (eC (.int 2))))
  (sExpr (eCall g_chain (aCons (eVar 1) (aCons (eC .none) (aCons (eC .none) aNil)))))
  (sIf (toB (e2 dEq (eVar 0) (eC (.int 3))))
  (sExpr (eCall g_row (aCons (eVar 1) aNil)))
  (sIf (toB (e2 dEq (eVar 0) (eC (.int 4))))
  (sExpr (eCall g_ring (aCons (eVar 1) aNil)))
  (sIf (toB (e2 dEq (eVar 0) (eC (.int 5))))
  (sExpr (eCall g_cheapest (aCons (eVar 1) (aCons (eC .none) aNil))))
  (sIf (toB (e2 dEq (eVar 0) (eC (.int 6))))
  (sExpr (eCall g_greatest (aCons (eVar 1) (aCons (eC .none) (aCons (eC .none) (aCons (eC .none) (aCons (eC .none) aNil)))))))
  (sExpr (eCall g_book_text (aCons (eVar 1) aNil)))))))))) [⟨C_BadBook, some 2, hRet cT C_StretchError (some C_NotTrue) (.str "book") (.str "other")⟩]))
  (sRet (eC (.str "none"))))
def g__law_book_word : List PyData → Re PyData := fnD 2 3 f__law_book_word
def f__law_whole : En → SR :=
  (sRet (eAnd (e1 (dIsi .int) (eVar 0)) (e1 dNot (e1 (dIsi .bool) (eVar 0)))))
def g__law_whole : List PyData → Re PyData := fnD 1 1 f__law_whole
def f__law_in : En → SR :=
  (sRet (eAnd (eCall g__law_whole (aCons (eVar 0) aNil)) (eChain (eVar 1) (eVar 0) (eVar 2))))
def g__law_in : List PyData → Re PyData := fnD 3 3 f__law_in
def f__law_is_telling : En → SR :=
  (sSeq (sIf (bOr (bNot (bTru (e1 (dIsi .tup) (eVar 1)))) (bOr (toB (e2 dNe (e1 dLen (eLook 1)) (eC (.int 3)))) (bNot (bTru (eCall g__law_in (aCons (e2 dSubs (eLook 1) (eC (.int 0))) (aCons (eC (.int 0)) (aCons (e2 dSub (eVar 0) (eC (.int 1))) aNil))))))))
  (sRet (eC (.bool false)))
  sSkip)
  (sRet (eAnd (eCall g__law_in (aCons (e2 dSubs (eLook 1) (eC (.int 1))) (aCons (e2 dAdd (e2 dSubs (eLook 1) (eC (.int 0))) (eC (.int 1))) (aCons (eVar 0) aNil)))) (eCall g__law_in (aCons (e2 dSubs (eLook 1) (eC (.int 2))) (aCons (e1 dNeg (eC (.int 9999))) (aCons (eC (.int 9999)) aNil)))))))
def g__law_is_telling : List PyData → Re PyData := fnD 2 2 f__law_is_telling
def f__law_is_book : En → SR :=
  (sSeq (sIf (bOr (bNot (bTru (e1 (dIsi .tup) (eVar 0)))) (bOr (toB (e2 dNe (e1 dLen (eLook 0)) (eC (.int 2)))) (bNot (bTru (eCall g__law_in (aCons (e2 dSubs (eLook 0) (eC (.int 0))) (aCons (eC (.int 1)) (aCons (eC (.int 16)) aNil))))))))
  (sRet (eC (.bool false)))
  sSkip)
  (sSeq (sIf (bNot (bTru (e1 (dIsi .tup) (e2 dSubs (eLook 0) (eC (.int 1))))))
  (sRet (eC (.bool false)))
  sSkip)
  (sRet (eAnd (e2 dLe (e1 dLen (e2 dSubs (eLook 0) (eC (.int 1)))) (eC (.int 24))) (e2 dEq (eLc [1] (iSeq (e2 dSubs (eLook 0) (eC (.int 1)))) (tgName 1) (bNot (bTru (eCall g__law_is_telling (aCons (e2 dSubs (eLook 0) (eC (.int 0))) (aCons (eVar 1) aNil))))) (eVar 1)) (eLst aNil))))))
def g__law_is_book : List PyData → Re PyData := fnD 1 2 f__law_is_book
def f__law_less : En → SR :=
  (sRet (eTup (aCons (e2 dSubs (eLook 0) (eC (.int 0))) (aCons (e2 dAdd (eSlice (e2 dSubs (eLook 0) (eC (.int 1))) oNone (oSome (eVar 1))) (eSlice (e2 dSubs (eLook 0) (eC (.int 1))) (oSome (e2 dAdd (eVar 1) (eC (.int 1)))) oNone)) aNil))))
def g__law_less : List PyData → Re PyData := fnD 2 2 f__law_less
def f_look_number : En → SR :=
  (sIf (bNot (bTru (eCall g_is_within (aCons (eVar 1) (aCons (eC (.int 0)) (aCons (e2 dSub (e1 dLen (e2 dSubs (eLook 0) (eC (.int 1)))) (eC (.int 1))) aNil))))))
  (sRaise (.ref C_BadNumber))
  sSkip)
def g_look_number : List PyData → Re PyData := fnD 2 2 f_look_number
def f_without_of : En → SR :=
  (sRet (eTup (aCons (e2 dSubs (eLook 0) (eC (.int 0))) (aCons (e2 dAdd (eSlice (e2 dSubs (eLook 0) (eC (.int 1))) oNone (oSome (eVar 1))) (eSlice (e2 dSubs (eLook 0) (eC (.int 1))) (oSome (e2 dAdd (eVar 1) (eC (.int 1)))) oNone)) aNil))))
def g_without_of : List PyData → Re PyData := fnD 2 2 f_without_of
def f_without : En → SR :=
  (sSeq (sExpr (eCall g_look (aCons (eVar 0) aNil)))
  (sSeq (sExpr (eCall g_look_number (aCons (eVar 0) (aCons (eVar 1) aNil))))
  (sRet (eCall g_without_of (aCons (eVar 0) (aCons (eVar 1) aNil))))))
def g_without : List PyData → Re PyData := fnD 2 2 f_without
def f__law_turned_told : En → SR :=
  (sFgt [3] (sTry cT (sRet (eIf (toB (e2 dEq (eVar 0) (eC (.int 0)))) (eCall g_with_telling (aCons (eVar 1) (aCons (eVar 2) aNil))) (eCall g_without (aCons (eVar 1) (aCons (eVar 2) aNil))))) [⟨C_BadNumber, some 3, hRet cT C_StretchError (some C_BadBook) (.str "number") (.str "other")⟩]))
def g__law_turned_told : List PyData → Re PyData := fnD 3 4 f__law_turned_told
def t12_law : En → SR :=
  (sRet (e2 dEq (eCall g__law_turned_told (aCons (eC (.int 1)) (aCons (eVar 2) (aCons (eVar 9) aNil)))) (eVar 8)))
def t11_law : En → SR :=
  (sSeq (sSet 8 (eIf (bTru (eCall g__law_in (aCons (eVar 9) (aCons (eC (.int 0)) (aCons (e2 dSub (e1 dLen (e2 dSubs (eLook 2) (eC (.int 1)))) (eC (.int 1))) aNil))))) (eCall g__law_less (aCons (eVar 2) (aCons (eVar 9) aNil))) (eC (.str "number"))))
  t12_law)
def t10_law : En → SR :=
  (sSeq (sSet 9 (e2 dSubs (eLst (aCons (eC (.int 0)) (aCons (e2 dSub (e1 dLen (e2 dSubs (eLook 2) (eC (.int 1)))) (eC (.int 1))) (aCons (e1 dLen (e2 dSubs (eLook 2) (eC (.int 1)))) (aCons (e1 dNeg (eC (.int 1))) (aCons (eC .none) aNil)))))) (e2 dMod (e2 dSubs (eLook 1) (eC (.int 4))) (eC (.int 5)))))
  t11_law)
def t9_law : En → SR :=
  (sSeq (sIf (toB (e2 dNe (eCall g__law_turned_told (aCons (eC (.int 0)) (aCons (eVar 2) (aCons (eVar 7) aNil)))) (eVar 8)))
  (sRet (eC (.bool false)))
  sSkip)
  t10_law)
def t8_law : En → SR :=
  (sSeq (sIf (bAnd (bTru (eCall g__law_is_telling (aCons (e2 dSubs (eLook 2) (eC (.int 0))) (aCons (eVar 7) aNil)))) (toB (e2 dLt (e1 dLen (e2 dSubs (eLook 2) (eC (.int 1)))) (eC (.int 24)))))
  (sSet 8 (eTup (aCons (e2 dSubs (eLook 2) (eC (.int 0))) (aCons (e2 dAdd (e2 dSubs (eLook 2) (eC (.int 1))) (eTup (aCons (eVar 7) aNil))) aNil))))
  sSkip)
  t9_law)
def t7_law : En → SR :=
  (sSeq (sSet 8 (eC (.str "number")))
  t8_law)
def t6_law : En → SR :=
  (sSeq (sSet 7 (e2 dSubs (eLst (aCons (eTup (aCons (eC (.int 0)) (aCons (eC (.int 1)) (aCons (eC (.int 5)) aNil)))) (aCons (eTup (aCons (eC (.int 0)) (aCons (e2 dSubs (eLook 2) (eC (.int 0))) (aCons (e1 dNeg (eC (.int 9999))) aNil)))) (aCons (eTup (aCons (eC (.int 0)) (aCons (e2 dAdd (e2 dSubs (eLook 2) (eC (.int 0))) (eC (.int 1))) (aCons (eC (.int 0)) aNil)))) (aCons (eTup (aCons (eC (.int 0)) (aCons (eC (.int 1)) (aCons (eC (.int 10000)) aNil)))) (aCons (eC .none) (aCons (eTup (aCons (eC (.int 1)) (aCons (eC (.int 1)) (aCons (eC (.int 0)) aNil)))) aNil))))))) (e2 dMod (e2 dSubs (eLook 1) (eC (.int 3))) (eC (.int 6)))))
  t7_law)
def t5_law : En → SR :=
  (sSeq (sIf (bNot (bTru (eCall g__law_is_book (aCons (eVar 2) aNil))))
  (sRet (e2 dEq (eLc [10] (iRng1 (aCons (eC (.int 8)) aNil)) (tgName 10) gYes (eCall g__law_book_word (aCons (eVar 10) (aCons (eVar 2) aNil)))) (e2 dMul (eLst (aCons (eC (.str "book")) aNil)) (eC (.int 8)))))
  sSkip)
  t6_law)
def t4_law : En → SR :=
  (sSeq (sIf (toB (e2 dNe (eCall g_is_book (aCons (eVar 2) aNil)) (eCall g__law_is_book (aCons (eVar 2) aNil))))
  (sRet (eC (.bool false)))
  sSkip)
  t5_law)
def t3_law : En → SR :=
  (sSeq (sIf (toB (e2 dEq (e2 dMod (e2 dSubs (eLook 1) (eC (.int 0))) (eC (.int 2))) (eC (.int 0))))
  (sFgt [5, 6] (sSeq (sSet 5 (eLst (aCons (eTup (aCons (eC (.int 0)) (aCons (eC (.int 1)) aNil))) (aCons (eTup (aCons (eC (.int 0)) (aCons (eC (.int 0)) (aCons (eC (.int 1)) aNil)))) (aCons (eTup (aCons (eC (.int 1)) (aCons (eC (.int 0)) (aCons (eC (.int 1)) aNil)))) (aCons (eTup (aCons (eC (.int 0)) (aCons (e2 dAdd (eVar 3) (eC (.int 1))) (aCons (eC (.int 1)) aNil)))) (aCons (eTup (aCons (eC (.int 0)) (aCons (eC (.int 1)) (aCons (eC (.int 10000)) aNil)))) (aCons (eTup (aCons (eC (.int 0)) (aCons (eC (.int 1)) (aCons (eC .none) aNil)))) (aCons (eLst (aCons (eC (.int 0)) (aCons (eC (.int 1)) (aCons (eC (.int 1)) aNil)))) (aCons (eTup (aCons (eC (.int 0)) (aCons (eC (.int 1)) (aCons (eC (.bool true)) aNil)))) aNil))))))))))
  (sSeq (sSet 5 (e2 dSubs (e2 dAdd (eVar 5) (eLst (aCons (eTup (aCons (eC (.bool true)) (aCons (eC (.int 2)) (aCons (eC (.int 1)) aNil)))) aNil))) (e2 dMod (e2 dSubs (eLook 1) (eC (.int 1))) (eC (.int 9)))))
  (sSeq (sSet 6 (eLst (aCons (eC .none) (aCons (eTup (aCons (eVar 3) aNil)) (aCons (eLst (aCons (eVar 3) (aCons (eVar 4) aNil))) (aCons (eTup (aCons (eC (.int 0)) (aCons (eVar 4) aNil))) (aCons (eTup (aCons (eC (.int 17)) (aCons (eVar 4) aNil))) (aCons (eTup (aCons (eVar 3) (aCons (e1 dList (eLook 4)) aNil))) aNil))))))))
  (sSeq (sSet 6 (e2 dAdd (eVar 6) (eLst (aCons (eTup (aCons (eVar 3) (aCons (e2 dAdd (eVar 4) (eTup (aCons (eVar 5) aNil))) aNil))) (aCons (eTup (aCons (eVar 3) (aCons (e2 dMul (eTup (aCons (eTup (aCons (eC (.int 0)) (aCons (eC (.int 1)) (aCons (eC (.int 1)) aNil)))) aNil)) (eC (.int 24))) aNil))) (aCons (eTup (aCons (eVar 3) (aCons (e2 dMul (eTup (aCons (eTup (aCons (eC (.int 0)) (aCons (eC (.int 1)) (aCons (eC (.int 1)) aNil)))) aNil)) (eC (.int 25))) aNil))) (aCons (eTup (aCons (eC (.int 16)) (aCons (eTup aNil) aNil))) aNil)))))))
  (sSeq (sSet 6 (e2 dAdd (eVar 6) (eLst (aCons (eTup (aCons (eVar 3) (aCons (eTup (aCons (eVar 5) aNil)) aNil))) (aCons (eTup (aCons (eC (.bool true)) (aCons (eTup aNil) aNil))) (aCons (eTup (aCons (eVar 3) (aCons (eC .none) aNil))) aNil))))))
  (sSet 2 (e2 dSubs (eLook 6) (e2 dMod (e2 dSubs (eLook 1) (eC (.int 2))) (eC (.int 13)))))))))))
  sSkip)
  t4_law)
def t2_law : En → SR :=
  (sSeq (sAsg (tgTup [(tgName 3), (tgName 4)]) (eVar 2))
  t3_law)
def t1_law : En → SR :=
  (sSeq (sSet 2 (eCall g__law_book (aCons (eVar 0) (aCons (eC (.int 2)) (aCons (eC (.int 16)) (aCons (eC (.bool true)) aNil))))))
  t2_law)
def f_law : En → SR :=
  (sSeq (sSet 1 (eCall g__law_row (aCons (eVar 0) (aCons (eC (.int 4)) aNil))))
  t1_law)
def g_law : List PyData → Re PyData := fnD 1 11 f_law
/-! ### what the top has written -/
structure Tx (K : PySem.W.Frag) (mg : Str → Option Value) where
  a__law_hidden : Addr
  fd__law_hidden : FuncData
  F__law_hidden : Fun K "_law_hidden" "_law_hidden" s__law_hidden a__law_hidden fd__law_hidden
  b__law_hidden : Binds K fd__law_hidden ["draws", "at", "many"] []
  m__law_hidden : mg "_law_hidden" = some (.ref a__law_hidden)
  a__law_cell : Addr
  fd__law_cell : FuncData
  F__law_cell : Fun K "_law_cell" "_law_cell" s__law_cell a__law_cell fd__law_cell
  b__law_cell : Binds K fd__law_cell ["script", "k"] []
  m__law_cell : mg "_law_cell" = some (.ref a__law_cell)
  a__law_row : Addr
  fd__law_row : FuncData
  F__law_row : Fun K "_law_row" "_law_row" s__law_row a__law_row fd__law_row
  b__law_row : Binds K fd__law_row ["script", "at"] []
  m__law_row : mg "_law_row" = some (.ref a__law_row)
  a__law_book : Addr
  fd__law_book : FuncData
  F__law_book : Fun K "_law_book" "_law_book" s__law_book a__law_book fd__law_book
  b__law_book : Binds K fd__law_book ["script", "at", "most_row", "wrong"] []
  m__law_book : mg "_law_book" = some (.ref a__law_book)
  a_is_within : Addr
  fd_is_within : FuncData
  F_is_within : Fun K "is_within" "is_within" s_is_within a_is_within fd_is_within
  b_is_within : Binds K fd_is_within ["thing", "low", "high"] []
  m_is_within : mg "is_within" = some (.ref a_is_within)
  a_is_telling : Addr
  fd_is_telling : FuncData
  F_is_telling : Fun K "is_telling" "is_telling" s_is_telling a_is_telling fd_is_telling
  b_is_telling : Binds K fd_is_telling ["many", "thing"] []
  m_is_telling : mg "is_telling" = some (.ref a_is_telling)
  a_is_book : Addr
  fd_is_book : FuncData
  F_is_book : Fun K "is_book" "is_book" s_is_book a_is_book fd_is_book
  b_is_book : Binds K fd_is_book ["thing"] []
  m_is_book : mg "is_book" = some (.ref a_is_book)
  a_look : Addr
  fd_look : FuncData
  F_look : Fun K "look" "look" s_look a_look fd_look
  b_look : Binds K fd_look ["book"] []
  m_look : mg "look" = some (.ref a_look)
  a_book_text : Addr
  fd_book_text : FuncData
  F_book_text : Fun K "book_text" "book_text" s_book_text a_book_text fd_book_text
  b_book_text : Binds K fd_book_text ["book"] []
  m_book_text : mg "book_text" = some (.ref a_book_text)
  a_chain : Addr
  fd_chain : FuncData
  F_chain : Fun K "chain" "chain" s_chain a_chain fd_chain
  b_chain : Binds K fd_chain ["book", "start", "end"] []
  m_chain : mg "chain" = some (.ref a_chain)
  a_look_prices : Addr
  fd_look_prices : FuncData
  F_look_prices : Fun K "look_prices" "look_prices" s_look_prices a_look_prices fd_look_prices
  b_look_prices : Binds K fd_look_prices ["book", "prices"] []
  m_look_prices : mg "look_prices" = some (.ref a_look_prices)
  a_cheapest : Addr
  fd_cheapest : FuncData
  F_cheapest : Fun K "cheapest" "cheapest" s_cheapest a_cheapest fd_cheapest
  b_cheapest : Binds K fd_cheapest ["book", "prices"] []
  m_cheapest : mg "cheapest" = some (.ref a_cheapest)
  a_look_bounds : Addr
  fd_look_bounds : FuncData
  F_look_bounds : Fun K "look_bounds" "look_bounds" s_look_bounds a_look_bounds fd_look_bounds
  b_look_bounds : Binds K fd_look_bounds ["book", "low", "high"] []
  m_look_bounds : mg "look_bounds" = some (.ref a_look_bounds)
  a_look_both : Addr
  fd_look_both : FuncData
  F_look_both : Fun K "look_both" "look_both" s_look_both a_look_both fd_look_both
  b_look_both : Binds K fd_look_both ["book", "low", "high", "start", "end"] []
  m_look_both : mg "look_both" = some (.ref a_look_both)
  a_greatest : Addr
  fd_greatest : FuncData
  F_greatest : Fun K "greatest" "greatest" s_greatest a_greatest fd_greatest
  b_greatest : Binds K fd_greatest ["book", "low", "high", "start", "end"] []
  m_greatest : mg "greatest" = some (.ref a_greatest)
  a_is_true : Addr
  fd_is_true : FuncData
  F_is_true : Fun K "is_true" "is_true" s_is_true a_is_true fd_is_true
  b_is_true : Binds K fd_is_true ["book"] []
  m_is_true : mg "is_true" = some (.ref a_is_true)
  a_ring : Addr
  fd_ring : FuncData
  F_ring : Fun K "ring" "ring" s_ring a_ring fd_ring
  b_ring : Binds K fd_ring ["book"] []
  m_ring : mg "ring" = some (.ref a_ring)
  a_look_true : Addr
  fd_look_true : FuncData
  F_look_true : Fun K "look_true" "look_true" s_look_true a_look_true fd_look_true
  b_look_true : Binds K fd_look_true ["book"] []
  m_look_true : mg "look_true" = some (.ref a_look_true)
  a_row : Addr
  fd_row : FuncData
  F_row : Fun K "row" "row" s_row a_row fd_row
  b_row : Binds K fd_row ["book"] []
  m_row : mg "row" = some (.ref a_row)
  a_with_telling : Addr
  fd_with_telling : FuncData
  F_with_telling : Fun K "with_telling" "with_telling" s_with_telling a_with_telling fd_with_telling
  b_with_telling : Binds K fd_with_telling ["book", "telling"] []
  m_with_telling : mg "with_telling" = some (.ref a_with_telling)
  a__law_book_word : Addr
  fd__law_book_word : FuncData
  F__law_book_word : Fun K "_law_book_word" "_law_book_word" s__law_book_word a__law_book_word fd__law_book_word
  b__law_book_word : Binds K fd__law_book_word ["mode", "book"] []
  m__law_book_word : mg "_law_book_word" = some (.ref a__law_book_word)
  a__law_whole : Addr
  fd__law_whole : FuncData
  F__law_whole : Fun K "_law_whole" "_law_whole" s__law_whole a__law_whole fd__law_whole
  b__law_whole : Binds K fd__law_whole ["found"] []
  m__law_whole : mg "_law_whole" = some (.ref a__law_whole)
  a__law_in : Addr
  fd__law_in : FuncData
  F__law_in : Fun K "_law_in" "_law_in" s__law_in a__law_in fd__law_in
  b__law_in : Binds K fd__law_in ["thing", "low", "high"] []
  m__law_in : mg "_law_in" = some (.ref a__law_in)
  a__law_is_telling : Addr
  fd__law_is_telling : FuncData
  F__law_is_telling : Fun K "_law_is_telling" "_law_is_telling" s__law_is_telling a__law_is_telling fd__law_is_telling
  b__law_is_telling : Binds K fd__law_is_telling ["many", "thing"] []
  m__law_is_telling : mg "_law_is_telling" = some (.ref a__law_is_telling)
  a__law_is_book : Addr
  fd__law_is_book : FuncData
  F__law_is_book : Fun K "_law_is_book" "_law_is_book" s__law_is_book a__law_is_book fd__law_is_book
  b__law_is_book : Binds K fd__law_is_book ["thing"] []
  m__law_is_book : mg "_law_is_book" = some (.ref a__law_is_book)
  a__law_less : Addr
  fd__law_less : FuncData
  F__law_less : Fun K "_law_less" "_law_less" s__law_less a__law_less fd__law_less
  b__law_less : Binds K fd__law_less ["book", "number"] []
  m__law_less : mg "_law_less" = some (.ref a__law_less)
  a_look_number : Addr
  fd_look_number : FuncData
  F_look_number : Fun K "look_number" "look_number" s_look_number a_look_number fd_look_number
  b_look_number : Binds K fd_look_number ["book", "number"] []
  m_look_number : mg "look_number" = some (.ref a_look_number)
  a_without_of : Addr
  fd_without_of : FuncData
  F_without_of : Fun K "without_of" "without_of" s_without_of a_without_of fd_without_of
  b_without_of : Binds K fd_without_of ["book", "number"] []
  m_without_of : mg "without_of" = some (.ref a_without_of)
  a_without : Addr
  fd_without : FuncData
  F_without : Fun K "without" "without" s_without a_without fd_without
  b_without : Binds K fd_without ["book", "number"] []
  m_without : mg "without" = some (.ref a_without)
  a__law_turned_told : Addr
  fd__law_turned_told : FuncData
  F__law_turned_told : Fun K "_law_turned_told" "_law_turned_told" s__law_turned_told a__law_turned_told fd__law_turned_told
  b__law_turned_told : Binds K fd__law_turned_told ["mode", "book", "thing"] []
  m__law_turned_told : mg "_law_turned_told" = some (.ref a__law_turned_told)
  a_law : Addr
  fd_law : FuncData
  F_law : Fun K "law" "law" s_law a_law fd_law
  b_law : Binds K fd_law ["script"] []
  m_law : mg "law" = some (.ref a_law)
  z_len : mg "len" = none
  z_range : mg "range" = none
  z_isinstance : mg "isinstance" = none
  z_int : mg "int" = none
  z_bool : mg "bool" = none
  z_tuple : mg "tuple" = none
  z_list : mg "list" = none
  z_sum : mg "sum" = none
  tk_MOST_ROW : Tok
  v_MOST_ROW : mg "MOST_ROW" = some (.int 16 tk_MOST_ROW)
  tk_MOST_TOLD : Tok
  v_MOST_TOLD : mg "MOST_TOLD" = some (.int 24 tk_MOST_TOLD)
  tk_MOST_SUM : Tok
  v_MOST_SUM : mg "MOST_SUM" = some (.int 9999 tk_MOST_SUM)
  m_StretchError : mg "StretchError" = some (.ref C_StretchError)
  m_BadBook : mg "BadBook" = some (.ref C_BadBook)
  m_NotTrue : mg "NotTrue" = some (.ref C_NotTrue)
  m_BadNumber : mg "BadNumber" = some (.ref C_BadNumber)
  ec_BadBook : ExcC K C_BadBook
  ec_BadNumber : ExcC K C_BadNumber
  su_0 : PySem.W.subIn K (.ref C_BadBook) (.ref C_StretchError) = some true
  su_1 : PySem.W.subIn K (.ref C_BadBook) (.ref C_BadBook) = some true
  su_2 : PySem.W.subIn K (.ref C_BadBook) (.ref C_NotTrue) = some false
  su_3 : PySem.W.subIn K (.ref C_BadBook) (.ref C_BadNumber) = some false
  su_4 : PySem.W.subIn K (.ref C_BadNumber) (.ref C_StretchError) = some true
  su_5 : PySem.W.subIn K (.ref C_BadNumber) (.ref C_BadBook) = some false
  su_6 : PySem.W.subIn K (.ref C_BadNumber) (.ref C_NotTrue) = some false
  su_7 : PySem.W.subIn K (.ref C_BadNumber) (.ref C_BadNumber) = some true
  s_StretchError : PySem.W.subIn K (.ref C_StretchError) (.type "BaseException") = some true
  t_StretchError : PySem.W.typeIn K (.ref C_StretchError) = some (.type "type")
  d_StretchError : PySem.W.hasDictIn K C_StretchError = true
  s_BadBook : PySem.W.subIn K (.ref C_BadBook) (.type "BaseException") = some true
  t_BadBook : PySem.W.typeIn K (.ref C_BadBook) = some (.type "type")
  d_BadBook : PySem.W.hasDictIn K C_BadBook = true
  s_NotTrue : PySem.W.subIn K (.ref C_NotTrue) (.type "BaseException") = some true
  t_NotTrue : PySem.W.typeIn K (.ref C_NotTrue) = some (.type "type")
  d_NotTrue : PySem.W.hasDictIn K C_NotTrue = true
  s_BadNumber : PySem.W.subIn K (.ref C_BadNumber) (.type "BaseException") = some true
  t_BadNumber : PySem.W.typeIn K (.ref C_BadNumber) = some (.type "type")
  d_BadNumber : PySem.W.hasDictIn K C_BadNumber = true
  x_BadBook : PySem.W.excIn K C_BadBook [.type "ValueError", .type "Exception", .type "BaseException", .type "object"] "ValueError.__new__" = true
  k_BadBook : PySem.W.keepIn K (.ref C_BadBook) = true
  x_BadNumber : PySem.W.excIn K C_BadNumber [.type "ValueError", .type "Exception", .type "BaseException", .type "object"] "ValueError.__new__" = true
  k_BadNumber : PySem.W.keepIn K (.ref C_BadNumber) = true
theorem xt_of {K : PySem.W.Frag} {mg : Str → Option Value} (T : Tx K mg) : XTab K cT := ⟨fun a b r h => by
  unfold cT at h
  split at h
  · cases h; exact xt_mk T.su_0 T.s_StretchError T.d_StretchError T.t_StretchError (by decide) T.ec_BadBook
  · cases h; exact xt_mk T.su_1 T.s_BadBook T.d_BadBook T.t_BadBook (by decide) T.ec_BadBook
  · cases h; exact xt_mk T.su_2 T.s_NotTrue T.d_NotTrue T.t_NotTrue (by decide) T.ec_BadBook
  · cases h; exact xt_mk T.su_3 T.s_BadNumber T.d_BadNumber T.t_BadNumber (by decide) T.ec_BadBook
  · cases h; exact xt_mk T.su_4 T.s_StretchError T.d_StretchError T.t_StretchError (by decide) T.ec_BadNumber
  · cases h; exact xt_mk T.su_5 T.s_BadBook T.d_BadBook T.t_BadBook (by decide) T.ec_BadNumber
  · cases h; exact xt_mk T.su_6 T.s_NotTrue T.d_NotTrue T.t_NotTrue (by decide) T.ec_BadNumber
  · cases h; exact xt_mk T.su_7 T.s_BadNumber T.d_BadNumber T.t_BadNumber (by decide) T.ec_BadNumber
  · cases h⟩
section
variable {P : Program} {w : World} {K : PySem.W.Frag} {mg : Str → Option Value} {base : Heap}
theorem ok__law_hidden (T : Tx K mg) : FnOk P w K mg base (L2.CX P w) 1 T.a__law_hidden T.fd__law_hidden ["draws", "at", "many"] (DSp 3 g__law_hidden) := by
  refine okD T.F__law_hidden sc__law_hidden rfl fun cdv A outer s H E hr => ?_
  have hu := hu_of hr
  exact (dss_one (ds_ret (de_F onlyLD_lc (df_lc [("place", 3)] (tgIn_name (by decide)) rfl sc__law_hidden.nd (di_rng1 T.z_range (da_cons (de_var 2) da_nil)) (blkOk_by (own := [("place", 3)]) (N := ["draws", "at", "many", "place"]) (sc := defScope s__law_hidden) (by decide +kernel)) (fun _ _ _ _ _ => (dg_name 3 sc__law_hidden.nd)) (fun _ _ _ _ _ => dts_nil) (fun _ _ _ _ _ => (de_sub (de_mod (de_subs hu (dl_var 0) (de_mod (de_add (de_var 1) (de_var 3)) de_int)) de_int) de_int))))))
theorem ok__law_cell (T : Tx K mg) : FnOk P w K mg base (L2.CX P w) 1 T.a__law_cell T.fd__law_cell ["script", "k"] (DSp 2 g__law_cell) := by
  refine okD T.F__law_cell sc__law_cell rfl fun cdv A outer s H E hr => ?_
  have hu := hu_of hr
  exact (dss_cons (ds_if (dt_lt (de_var 1) (de_len T.z_len (dl_var 0)))
  (dss_one (ds_ret (de_subs hu (dl_var 0) (de_var 1))))
  dss_nil)
  (dss_one (ds_ret de_int)))
theorem ok__law_row (T : Tx K mg) : FnOk P w K mg base (L2.CX P w) 2 T.a__law_row T.fd__law_row ["script", "at"] (DSp 2 g__law_row) := by
  refine okD T.F__law_row sc__law_row rfl fun cdv A outer s H E hr => ?_
  have hu := hu_of hr
  exact (dss_cons (ds_set 2 (de_call (ok__law_cell T) fnD_len (hr.mono (by decide)) T.m__law_cell T.F__law_cell.kp T.b__law_cell (takes_of rfl rfl rfl rfl) (da_cons (de_var 0) (da_cons (de_var 1) da_nil))) sc__law_row.nd)
  (dss_cons (ds_own 3 (df_lst da_nil) sc__law_row.nd)
  (dss_cons (ds_fgtB [2, 4] (ds_for (passes_of rfl) rfl (di_rng1 T.z_range (da_cons de_int da_nil)) (dg_name 4 sc__law_row.nd)
  (dss_fgtB [4] (dss_one (ds_if (dt_lt (de_call (ok__law_cell T) fnD_len (hr.mono (by decide)) T.m__law_cell T.F__law_cell.kp T.b__law_cell (takes_of rfl rfl rfl rfl) (da_cons (de_var 0) (da_cons (de_var 1) da_nil))) (de_pow de_int de_int))
  (dss_cons (ds_set 2 (de_mod (de_add (de_add (de_add (de_mul (de_var 2) de_int) (de_mul de_int (de_var 4))) de_int) (de_call (ok__law_cell T) fnD_len (hr.mono (by decide)) T.m__law_cell T.F__law_cell.kp T.b__law_cell (takes_of rfl rfl rfl rfl) (da_cons (de_var 0) (da_cons (de_mod (de_add (de_add (de_var 1) de_int) (de_var 4)) de_int) da_nil)))) de_int) sc__law_row.nd)
  (dss_one (ds_append 3 (de_mod (de_div (de_var 2) de_int) de_int))))
  (dss_cons (ds_append 3 (de_mod (de_var 2) de_int))
  (dss_one (ds_set 2 (de_div (de_var 2) de_int) sc__law_row.nd))))))))
  (dss_one (ds_frz 3 (ds_ret (de_var 3)))))))
theorem ok__law_book (T : Tx K mg) : FnOk P w K mg base (L2.CX P w) 3 T.a__law_book T.fd__law_book ["script", "at", "most_row", "wrong"] (DSp 4 g__law_book) := by
  refine okD T.F__law_book sc__law_book rfl fun cdv A outer s H E hr => ?_
  have hu := hu_of hr
  exact (dss_cons (ds_set 4 (de_call (ok__law_row T) fnD_len (hr.mono (by decide)) T.m__law_row T.F__law_row.kp T.b__law_row (takes_of rfl rfl rfl rfl) (da_cons (de_var 0) (da_cons (de_var 1) da_nil))) sc__law_book.nd)
  (dss_cons (ds_set 5 (de_add de_int (de_mod (de_subs hu (dl_var 4) de_int) (de_var 2))) sc__law_book.nd)
  (dss_cons (ds_set 6 (de_call (ok__law_hidden T) fnD_len (hr.mono (by decide)) T.m__law_hidden T.F__law_hidden.kp T.b__law_hidden (takes_of rfl rfl rfl rfl) (da_cons (de_var 4) (da_cons de_int (da_cons (de_var 5) da_nil)))) sc__law_book.nd)
  (dss_cons (ds_own 7 (df_lst da_nil) sc__law_book.nd)
  (dss_cons (ds_fgtB [8, 9, 10, 11] (ds_for (passes_of rfl) rfl (di_rng1 T.z_range (da_cons (de_mod (de_subs hu (dl_var 4) de_int) de_int) da_nil)) (dg_name 8 sc__law_book.nd)
  (dss_fgtB [8, 9, 10, 11] (dss_cons (ds_set 9 (de_mod (de_subs hu (dl_var 4) (de_add de_int (de_mul de_int (de_var 8)))) (de_var 5)) sc__law_book.nd)
  (dss_cons (ds_set 10 (de_add (de_add (de_var 9) de_int) (de_mod (de_subs hu (dl_var 4) (de_add de_int (de_mul de_int (de_var 8)))) (de_sub (de_var 5) (de_var 9)))) sc__law_book.nd)
  (dss_cons (ds_set 11 (de_int1 T.z_int (da_cons (de_and (de_var 3) (de_one (de_eq hr.units (de_mod (de_subs hu (dl_var 4) (de_add de_int (de_mul de_int (de_var 8)))) de_int) de_int))) da_nil)) sc__law_book.nd)
  (dss_one (ds_append 7 (de_tup (da_cons (de_var 9) (da_cons (de_var 10) (da_cons (de_add (de_sum rfl T.z_sum (da_cons (de_slice (dl_var 6) (do_some (de_var 9)) (do_some (de_var 10))) da_nil)) (de_var 11)) da_nil))))))))))))
  (dss_one (ds_ret (de_tup (da_cons (de_var 5) (da_cons (de_tuple T.z_tuple (dl_var 7)) da_nil))))))))))
theorem ok_is_within (T : Tx K mg) : FnOk P w K mg base (L2.CX P w) 1 T.a_is_within T.fd_is_within ["thing", "low", "high"] (DSp 3 g_is_within) := by
  refine okD T.F_is_within sc_is_within rfl fun cdv A outer s H E hr => ?_
  have hu := hu_of hr
  exact (dss_one (ds_ret (de_and (de_isi .int T.z_isinstance T.z_int (de_var 0) (by decide +kernel) (by decide) (by decide)) (de_and (de_not (dl_of (de_isi .bool T.z_isinstance T.z_bool (de_var 0) (by decide +kernel) (by decide) (by decide)))) (de_one (de_chain (de_var 1) (de_var 0) (de_var 2)))))))
theorem ok_is_telling (T : Tx K mg) : FnOk P w K mg base (L2.CX P w) 2 T.a_is_telling T.fd_is_telling ["many", "thing"] (DSp 2 g_is_telling) := by
  refine okD T.F_is_telling sc_is_telling rfl fun cdv A outer s H E hr => ?_
  have hu := hu_of hr
  exact (dss_cons (ds_if (PW.pt (dw_or (dt_not (dt_plain (dl_of (de_isi .tup T.z_isinstance T.z_tuple (de_var 1) (by decide +kernel) (by decide) (by decide))))) (dw_or (dt_ne hr.units (de_len T.z_len (dl_var 1)) de_int) (dw_or1 (dt_not (dt_plain (dl_of (de_call (ok_is_within T) fnD_len (hr.mono (by decide)) T.m_is_within T.F_is_within.kp T.b_is_within (takes_of rfl rfl rfl rfl) (da_cons (de_subs hu (dl_var 1) de_int) (da_cons de_int (da_cons (de_sub (de_var 0) de_int) da_nil)))))))))))
  (dss_one (ds_ret de_bl))
  dss_nil)
  (dss_one (ds_ret (de_and (de_call (ok_is_within T) fnD_len (hr.mono (by decide)) T.m_is_within T.F_is_within.kp T.b_is_within (takes_of rfl rfl rfl rfl) (da_cons (de_subs hu (dl_var 1) de_int) (da_cons (de_add (de_subs hu (dl_var 1) de_int) de_int) (da_cons (de_var 0) da_nil)))) (de_one (de_call (ok_is_within T) fnD_len (hr.mono (by decide)) T.m_is_within T.F_is_within.kp T.b_is_within (takes_of rfl rfl rfl rfl) (da_cons (de_subs hu (dl_var 1) de_int) (da_cons (de_neg (de_glob rfl T.v_MOST_SUM)) (da_cons (de_glob rfl T.v_MOST_SUM) da_nil)))))))))
theorem ok_is_book (T : Tx K mg) : FnOk P w K mg base (L2.CX P w) 3 T.a_is_book T.fd_is_book ["thing"] (DSp 1 g_is_book) := by
  refine okD T.F_is_book sc_is_book rfl fun cdv A outer s H E hr => ?_
  have hu := hu_of hr
  exact (dss_cons (ds_if (PW.pt (dw_or (dt_not (dt_plain (dl_of (de_isi .tup T.z_isinstance T.z_tuple (de_var 0) (by decide +kernel) (by decide) (by decide))))) (dw_or (dt_ne hr.units (de_len T.z_len (dl_var 0)) de_int) (dw_or1 (dt_not (dt_plain (dl_of (de_call (ok_is_within T) fnD_len (hr.mono (by decide)) T.m_is_within T.F_is_within.kp T.b_is_within (takes_of rfl rfl rfl rfl) (da_cons (de_subs hu (dl_var 0) de_int) (da_cons de_int (da_cons (de_glob rfl T.v_MOST_ROW) da_nil)))))))))))
  (dss_one (ds_ret de_bl))
  dss_nil)
  (dss_cons (ds_if (PW.pt (dw_or (dt_not (dt_plain (dl_of (de_isi .tup T.z_isinstance T.z_tuple (de_subs hu (dl_var 0) de_int) (by decide +kernel) (by decide) (by decide))))) (dw_or1 (dt_gt (de_len T.z_len (dl_of (de_subs hu (dl_var 0) de_int))) (de_glob rfl T.v_MOST_TOLD)))))
  (dss_one (ds_ret de_bl))
  dss_nil)
  (dss_one (ds_ret (de_not (dl_of (de_F onlyLD_lc (df_lc [("one", 1)] (tgIn_name (by decide)) rfl sc_is_book.nd (di_seq (de_subs hu (dl_var 0) de_int)) (blkOk_by (own := [("one", 1)]) (N := ["thing", "one"]) (sc := defScope s_is_book) (by decide +kernel)) (fun _ _ _ _ _ => (dg_name 1 sc_is_book.nd)) (fun _ _ _ _ _ => (dts_one (dt_not (dt_plain (dl_of (de_call (ok_is_telling T) fnD_len (hr.mono (by decide)) T.m_is_telling T.F_is_telling.kp T.b_is_telling takes0 (da_cons (de_subs hu (dl_var 0) de_int) (da_cons (de_var 1) da_nil)))))))) (fun _ _ _ _ _ => (de_var 1))))))))))
theorem ok_look (T : Tx K mg) : FnOk P w K mg base (L2.CX P w) 4 T.a_look T.fd_look ["book"] (DSp 1 g_look) := by
  refine okD T.F_look sc_look rfl fun cdv A outer s H E hr => ?_
  have hu := hu_of hr
  exact (dss_one (ds_if (dt_not (dt_plain (dl_of (de_call (ok_is_book T) fnD_len (hr.mono (by decide)) T.m_is_book T.F_is_book.kp T.b_is_book (takes_of rfl rfl rfl rfl) (da_cons (de_var 0) da_nil)))))
  (dss_one (ds_raise rfl (takes_of rfl rfl rfl rfl) (pmk_own PySem.F.excBase_ValueError T.x_BadBook T.m_BadBook T.k_BadBook (raises_own T.s_BadBook T.t_BadBook) rfl)))
  dss_nil))
theorem ok_book_text (T : Tx K mg) : FnOk P w K mg base (L2.CX P w) 5 T.a_book_text T.fd_book_text ["book"] (DSp 1 g_book_text) := by
  refine okD T.F_book_text sc_book_text rfl fun cdv A outer s H E hr => ?_
  have hu := hu_of hr
  exact (dss_cons (ds_expr (de_call (ok_look T) fnD_len (hr.mono (by decide)) T.m_look T.F_look.kp T.b_look (takes_of rfl rfl rfl rfl) (da_cons (de_var 0) da_nil)))
  dss_never)
theorem ok_chain (T : Tx K mg) : FnOk P w K mg base (L2.CX P w) 5 T.a_chain T.fd_chain ["book", "start", "end"] (DSp 3 g_chain) := by
  refine okD T.F_chain sc_chain rfl fun cdv A outer s H E hr => ?_
  have hu := hu_of hr
  exact (dss_cons (ds_expr (de_call (ok_look T) fnD_len (hr.mono (by decide)) T.m_look T.F_look.kp T.b_look (takes_of rfl rfl rfl rfl) (da_cons (de_var 0) da_nil)))
  dss_never)
theorem ok_look_prices (T : Tx K mg) : FnOk P w K mg base (L2.CX P w) 5 T.a_look_prices T.fd_look_prices ["book", "prices"] (DSp 2 g_look_prices) := by
  refine okD T.F_look_prices sc_look_prices rfl fun cdv A outer s H E hr => ?_
  have hu := hu_of hr
  exact (dss_cons (ds_expr (de_call (ok_look T) fnD_len (hr.mono (by decide)) T.m_look T.F_look.kp T.b_look (takes_of rfl rfl rfl rfl) (da_cons (de_var 0) da_nil)))
  dss_never)
theorem ok_cheapest (T : Tx K mg) : FnOk P w K mg base (L2.CX P w) 6 T.a_cheapest T.fd_cheapest ["book", "prices"] (DSp 2 g_cheapest) := by
  refine okD T.F_cheapest sc_cheapest rfl fun cdv A outer s H E hr => ?_
  have hu := hu_of hr
  exact (dss_cons (ds_expr (de_call (ok_look_prices T) fnD_len (hr.mono (by decide)) T.m_look_prices T.F_look_prices.kp T.b_look_prices (takes_of rfl rfl rfl rfl) (da_cons (de_var 0) (da_cons (de_var 1) da_nil))))
  dss_never)
theorem ok_look_bounds (T : Tx K mg) : FnOk P w K mg base (L2.CX P w) 5 T.a_look_bounds T.fd_look_bounds ["book", "low", "high"] (DSp 3 g_look_bounds) := by
  refine okD T.F_look_bounds sc_look_bounds rfl fun cdv A outer s H E hr => ?_
  have hu := hu_of hr
  exact (dss_cons (ds_expr (de_call (ok_look T) fnD_len (hr.mono (by decide)) T.m_look T.F_look.kp T.b_look (takes_of rfl rfl rfl rfl) (da_cons (de_var 0) da_nil)))
  dss_never)
theorem ok_look_both (T : Tx K mg) : FnOk P w K mg base (L2.CX P w) 6 T.a_look_both T.fd_look_both ["book", "low", "high", "start", "end"] (DSp 5 g_look_both) := by
  refine okD T.F_look_both sc_look_both rfl fun cdv A outer s H E hr => ?_
  have hu := hu_of hr
  exact (dss_cons (ds_expr (de_call (ok_look_bounds T) fnD_len (hr.mono (by decide)) T.m_look_bounds T.F_look_bounds.kp T.b_look_bounds (takes_of rfl rfl rfl rfl) (da_cons (de_var 0) (da_cons (de_var 1) (da_cons (de_var 2) da_nil)))))
  dss_never)
theorem ok_greatest (T : Tx K mg) : FnOk P w K mg base (L2.CX P w) 7 T.a_greatest T.fd_greatest ["book", "low", "high", "start", "end"] (DSp 5 g_greatest) := by
  refine okD T.F_greatest sc_greatest rfl fun cdv A outer s H E hr => ?_
  have hu := hu_of hr
  exact (dss_cons (ds_expr (de_call (ok_look_both T) fnD_len (hr.mono (by decide)) T.m_look_both T.F_look_both.kp T.b_look_both (takes_of rfl rfl rfl rfl) (da_cons (de_var 0) (da_cons (de_var 1) (da_cons (de_var 2) (da_cons (de_var 3) (da_cons (de_var 4) da_nil)))))))
  dss_never)
theorem ok_is_true (T : Tx K mg) : FnOk P w K mg base (L2.CX P w) 5 T.a_is_true T.fd_is_true ["book"] (DSp 1 g_is_true) := by
  refine okD T.F_is_true sc_is_true rfl fun cdv A outer s H E hr => ?_
  have hu := hu_of hr
  exact (dss_cons (ds_expr (de_call (ok_look T) fnD_len (hr.mono (by decide)) T.m_look T.F_look.kp T.b_look (takes_of rfl rfl rfl rfl) (da_cons (de_var 0) da_nil)))
  dss_never)
theorem ok_ring (T : Tx K mg) : FnOk P w K mg base (L2.CX P w) 5 T.a_ring T.fd_ring ["book"] (DSp 1 g_ring) := by
  refine okD T.F_ring sc_ring rfl fun cdv A outer s H E hr => ?_
  have hu := hu_of hr
  exact (dss_cons (ds_expr (de_call (ok_look T) fnD_len (hr.mono (by decide)) T.m_look T.F_look.kp T.b_look (takes_of rfl rfl rfl rfl) (da_cons (de_var 0) da_nil)))
  dss_never)
theorem ok_look_true (T : Tx K mg) : FnOk P w K mg base (L2.CX P w) 5 T.a_look_true T.fd_look_true ["book"] (DSp 1 g_look_true) := by
  refine okD T.F_look_true sc_look_true rfl fun cdv A outer s H E hr => ?_
  have hu := hu_of hr
  exact (dss_cons (ds_expr (de_call (ok_look T) fnD_len (hr.mono (by decide)) T.m_look T.F_look.kp T.b_look (takes_of rfl rfl rfl rfl) (da_cons (de_var 0) da_nil)))
  dss_never)
theorem ok_row (T : Tx K mg) : FnOk P w K mg base (L2.CX P w) 6 T.a_row T.fd_row ["book"] (DSp 1 g_row) := by
  refine okD T.F_row sc_row rfl fun cdv A outer s H E hr => ?_
  have hu := hu_of hr
  exact (dss_cons (ds_expr (de_call (ok_look_true T) fnD_len (hr.mono (by decide)) T.m_look_true T.F_look_true.kp T.b_look_true (takes_of rfl rfl rfl rfl) (da_cons (de_var 0) da_nil)))
  dss_never)
theorem ok_with_telling (T : Tx K mg) : FnOk P w K mg base (L2.CX P w) 5 T.a_with_telling T.fd_with_telling ["book", "telling"] (DSp 2 g_with_telling) := by
  refine okD T.F_with_telling sc_with_telling rfl fun cdv A outer s H E hr => ?_
  have hu := hu_of hr
  exact (dss_cons (ds_expr (de_call (ok_look T) fnD_len (hr.mono (by decide)) T.m_look T.F_look.kp T.b_look (takes_of rfl rfl rfl rfl) (da_cons (de_var 0) da_nil)))
  (dss_cons (ds_if (PW.pt (dw_or (dt_not (dt_plain (dl_of (de_call (ok_is_telling T) fnD_len (hr.mono (by decide)) T.m_is_telling T.F_is_telling.kp T.b_is_telling (takes_of rfl rfl rfl rfl) (da_cons (de_subs hu (dl_var 0) de_int) (da_cons (de_var 1) da_nil)))))) (dw_or1 (dt_eq hr.units (de_len T.z_len (dl_of (de_subs hu (dl_var 0) de_int))) (de_glob rfl T.v_MOST_TOLD)))))
  (dss_one (ds_raise rfl (takes_of rfl rfl rfl rfl) (pmk_own PySem.F.excBase_ValueError T.x_BadNumber T.m_BadNumber T.k_BadNumber (raises_own T.s_BadNumber T.t_BadNumber) rfl)))
  dss_nil)
  (dss_one (ds_ret (de_tup (da_cons (de_subs hu (dl_var 0) de_int) (da_cons (de_add (de_subs hu (dl_var 0) de_int) (de_tup (da_cons (de_var 1) da_nil))) da_nil)))))))
theorem ok__law_book_word (T : Tx K mg) : FnOk P w K mg base (L2.CX P w) 8 T.a__law_book_word T.fd__law_book_word ["mode", "book"] (DSp 2 g__law_book_word) := by
  refine okD T.F__law_book_word sc__law_book_word rfl fun cdv A outer s H E hr => ?_
  have hu := hu_of hr
  exact (dss_cons (ds_fgtB [2] (ds_try (xt_of T) rfl rfl (takes_of rfl rfl rfl rfl) (fun _ _ _ tk xe => (dss_one (ds_if (dt_eq hr.units (de_var 0) de_int)
  (dss_one (ds_expr (de_call (ok_with_telling T) fnD_len (hr.mono (by decide)) T.m_with_telling T.F_with_telling.kp T.b_with_telling (tk) (da_cons (de_var 1) (da_cons de_non da_nil)))))
  (dss_one (ds_if (dt_eq hr.units (de_var 0) de_int)
  (dss_one (ds_expr (de_call (ok_is_true T) fnD_len (hr.mono (by decide)) T.m_is_true T.F_is_true.kp T.b_is_true (tk) (da_cons (de_var 1) da_nil))))
  (dss_one (ds_if (dt_eq hr.units (de_var 0) de_int)
  (dss_one (ds_expr (de_call (ok_chain T) fnD_len (hr.mono (by decide)) T.m_chain T.F_chain.kp T.b_chain (tk) (da_cons (de_var 1) (da_cons de_non (da_cons de_non da_nil))))))
  (dss_one (ds_if (dt_eq hr.units (de_var 0) de_int)
  (dss_one (ds_expr (de_call (ok_row T) fnD_len (hr.mono (by decide)) T.m_row T.F_row.kp T.b_row (tk) (da_cons (de_var 1) da_nil))))
  (dss_one (ds_if (dt_eq hr.units (de_var 0) de_int)
  (dss_one (ds_expr (de_call (ok_ring T) fnD_len (hr.mono (by decide)) T.m_ring T.F_ring.kp T.b_ring (tk) (da_cons (de_var 1) da_nil))))
  (dss_one (ds_if (dt_eq hr.units (de_var 0) de_int)
  (dss_one (ds_expr (de_call (ok_cheapest T) fnD_len (hr.mono (by decide)) T.m_cheapest T.F_cheapest.kp T.b_cheapest (tk) (da_cons (de_var 1) (da_cons de_non da_nil)))))
  (dss_one (ds_if (dt_eq hr.units (de_var 0) de_int)
  (dss_one (ds_expr (de_call (ok_greatest T) fnD_len (hr.mono (by decide)) T.m_greatest T.F_greatest.kp T.b_greatest (tk) (da_cons (de_var 1) (da_cons de_non (da_cons de_non (da_cons de_non (da_cons de_non da_nil))))))))
  (dss_one (ds_expr (de_call (ok_book_text T) fnD_len (hr.mono (by decide)) T.m_book_text T.F_book_text.kp T.b_book_text (tk) (da_cons (de_var 1) da_nil))))))))))))))))))) (HsOk.named 2 ⟨rfl, by decide, .inl T.m_BadBook⟩ sc__law_book_word.nd rfl rfl (fun a oe cls d pn hz hf => hd_ret (te_two (te_one T.z_isinstance T.m_StretchError) (te_one T.z_isinstance T.m_NotTrue)) hz hf) HsOk.nil)))
  (dss_one (ds_ret de_str)))
theorem ok__law_whole (T : Tx K mg) : FnOk P w K mg base (L2.CX P w) 1 T.a__law_whole T.fd__law_whole ["found"] (DSp 1 g__law_whole) := by
  refine okD T.F__law_whole sc__law_whole rfl fun cdv A outer s H E hr => ?_
  have hu := hu_of hr
  exact (dss_one (ds_ret (de_and (de_isi .int T.z_isinstance T.z_int (de_var 0) (by decide +kernel) (by decide) (by decide)) (de_one (de_not (dl_of (de_isi .bool T.z_isinstance T.z_bool (de_var 0) (by decide +kernel) (by decide) (by decide))))))))
theorem ok__law_in (T : Tx K mg) : FnOk P w K mg base (L2.CX P w) 2 T.a__law_in T.fd__law_in ["thing", "low", "high"] (DSp 3 g__law_in) := by
  refine okD T.F__law_in sc__law_in rfl fun cdv A outer s H E hr => ?_
  have hu := hu_of hr
  exact (dss_one (ds_ret (de_and (de_call (ok__law_whole T) fnD_len (hr.mono (by decide)) T.m__law_whole T.F__law_whole.kp T.b__law_whole (takes_of rfl rfl rfl rfl) (da_cons (de_var 0) da_nil)) (de_one (de_chain (de_var 1) (de_var 0) (de_var 2))))))
theorem ok__law_is_telling (T : Tx K mg) : FnOk P w K mg base (L2.CX P w) 3 T.a__law_is_telling T.fd__law_is_telling ["many", "thing"] (DSp 2 g__law_is_telling) := by
  refine okD T.F__law_is_telling sc__law_is_telling rfl fun cdv A outer s H E hr => ?_
  have hu := hu_of hr
  exact (dss_cons (ds_if (PW.pt (dw_or (dt_not (dt_plain (dl_of (de_isi .tup T.z_isinstance T.z_tuple (de_var 1) (by decide +kernel) (by decide) (by decide))))) (dw_or (dt_ne hr.units (de_len T.z_len (dl_var 1)) de_int) (dw_or1 (dt_not (dt_plain (dl_of (de_call (ok__law_in T) fnD_len (hr.mono (by decide)) T.m__law_in T.F__law_in.kp T.b__law_in (takes_of rfl rfl rfl rfl) (da_cons (de_subs hu (dl_var 1) de_int) (da_cons de_int (da_cons (de_sub (de_var 0) de_int) da_nil)))))))))))
  (dss_one (ds_ret de_bl))
  dss_nil)
  (dss_one (ds_ret (de_and (de_call (ok__law_in T) fnD_len (hr.mono (by decide)) T.m__law_in T.F__law_in.kp T.b__law_in (takes_of rfl rfl rfl rfl) (da_cons (de_subs hu (dl_var 1) de_int) (da_cons (de_add (de_subs hu (dl_var 1) de_int) de_int) (da_cons (de_var 0) da_nil)))) (de_one (de_call (ok__law_in T) fnD_len (hr.mono (by decide)) T.m__law_in T.F__law_in.kp T.b__law_in (takes_of rfl rfl rfl rfl) (da_cons (de_subs hu (dl_var 1) de_int) (da_cons (de_neg de_int) (da_cons de_int da_nil)))))))))
theorem ok__law_is_book (T : Tx K mg) : FnOk P w K mg base (L2.CX P w) 4 T.a__law_is_book T.fd__law_is_book ["thing"] (DSp 1 g__law_is_book) := by
  refine okD T.F__law_is_book sc__law_is_book rfl fun cdv A outer s H E hr => ?_
  have hu := hu_of hr
  exact (dss_cons (ds_if (PW.pt (dw_or (dt_not (dt_plain (dl_of (de_isi .tup T.z_isinstance T.z_tuple (de_var 0) (by decide +kernel) (by decide) (by decide))))) (dw_or (dt_ne hr.units (de_len T.z_len (dl_var 0)) de_int) (dw_or1 (dt_not (dt_plain (dl_of (de_call (ok__law_in T) fnD_len (hr.mono (by decide)) T.m__law_in T.F__law_in.kp T.b__law_in (takes_of rfl rfl rfl rfl) (da_cons (de_subs hu (dl_var 0) de_int) (da_cons de_int (da_cons de_int da_nil)))))))))))
  (dss_one (ds_ret de_bl))
  dss_nil)
  (dss_cons (ds_if (dt_not (dt_plain (dl_of (de_isi .tup T.z_isinstance T.z_tuple (de_subs hu (dl_var 0) de_int) (by decide +kernel) (by decide) (by decide)))))
  (dss_one (ds_ret de_bl))
  dss_nil)
  (dss_one (ds_ret (de_and (de_le (de_len T.z_len (dl_of (de_subs hu (dl_var 0) de_int))) de_int) (de_one (de_eq hr.units (de_F onlyLD_lc (df_lc [("one", 1)] (tgIn_name (by decide)) rfl sc__law_is_book.nd (di_seq (de_subs hu (dl_var 0) de_int)) (blkOk_by (own := [("one", 1)]) (N := ["thing", "one"]) (sc := defScope s__law_is_book) (by decide +kernel)) (fun _ _ _ _ _ => (dg_name 1 sc__law_is_book.nd)) (fun _ _ _ _ _ => (dts_one (dt_not (dt_plain (dl_of (de_call (ok__law_is_telling T) fnD_len (hr.mono (by decide)) T.m__law_is_telling T.F__law_is_telling.kp T.b__law_is_telling takes0 (da_cons (de_subs hu (dl_var 0) de_int) (da_cons (de_var 1) da_nil)))))))) (fun _ _ _ _ _ => (de_var 1)))) (de_F onlyLD_lst (df_lst da_nil)))))))))
theorem ok__law_less (T : Tx K mg) : FnOk P w K mg base (L2.CX P w) 1 T.a__law_less T.fd__law_less ["book", "number"] (DSp 2 g__law_less) := by
  refine okD T.F__law_less sc__law_less rfl fun cdv A outer s H E hr => ?_
  have hu := hu_of hr
  exact (dss_one (ds_ret (de_tup (da_cons (de_subs hu (dl_var 0) de_int) (da_cons (de_add (de_slice (dl_of (de_subs hu (dl_var 0) de_int)) do_none (do_some (de_var 1))) (de_slice (dl_of (de_subs hu (dl_var 0) de_int)) (do_some (de_add (de_var 1) de_int)) do_none)) da_nil)))))
theorem ok_look_number (T : Tx K mg) : FnOk P w K mg base (L2.CX P w) 2 T.a_look_number T.fd_look_number ["book", "number"] (DSp 2 g_look_number) := by
  refine okD T.F_look_number sc_look_number rfl fun cdv A outer s H E hr => ?_
  have hu := hu_of hr
  exact (dss_one (ds_if (dt_not (dt_plain (dl_of (de_call (ok_is_within T) fnD_len (hr.mono (by decide)) T.m_is_within T.F_is_within.kp T.b_is_within (takes_of rfl rfl rfl rfl) (da_cons (de_var 1) (da_cons de_int (da_cons (de_sub (de_len T.z_len (dl_of (de_subs hu (dl_var 0) de_int))) de_int) da_nil)))))))
  (dss_one (ds_raise rfl (takes_of rfl rfl rfl rfl) (pmk_own PySem.F.excBase_ValueError T.x_BadNumber T.m_BadNumber T.k_BadNumber (raises_own T.s_BadNumber T.t_BadNumber) rfl)))
  dss_nil))
theorem ok_without_of (T : Tx K mg) : FnOk P w K mg base (L2.CX P w) 1 T.a_without_of T.fd_without_of ["book", "number"] (DSp 2 g_without_of) := by
  refine okD T.F_without_of sc_without_of rfl fun cdv A outer s H E hr => ?_
  have hu := hu_of hr
  exact (dss_one (ds_ret (de_tup (da_cons (de_subs hu (dl_var 0) de_int) (da_cons (de_add (de_slice (dl_of (de_subs hu (dl_var 0) de_int)) do_none (do_some (de_var 1))) (de_slice (dl_of (de_subs hu (dl_var 0) de_int)) (do_some (de_add (de_var 1) de_int)) do_none)) da_nil)))))
theorem ok_without (T : Tx K mg) : FnOk P w K mg base (L2.CX P w) 5 T.a_without T.fd_without ["book", "number"] (DSp 2 g_without) := by
  refine okD T.F_without sc_without rfl fun cdv A outer s H E hr => ?_
  have hu := hu_of hr
  exact (dss_cons (ds_expr (de_call (ok_look T) fnD_len (hr.mono (by decide)) T.m_look T.F_look.kp T.b_look (takes_of rfl rfl rfl rfl) (da_cons (de_var 0) da_nil)))
  (dss_cons (ds_expr (de_call (ok_look_number T) fnD_len (hr.mono (by decide)) T.m_look_number T.F_look_number.kp T.b_look_number (takes_of rfl rfl rfl rfl) (da_cons (de_var 0) (da_cons (de_var 1) da_nil))))
  (dss_one (ds_ret (de_call (ok_without_of T) fnD_len (hr.mono (by decide)) T.m_without_of T.F_without_of.kp T.b_without_of (takes_of rfl rfl rfl rfl) (da_cons (de_var 0) (da_cons (de_var 1) da_nil)))))))
theorem ok__law_turned_told (T : Tx K mg) : FnOk P w K mg base (L2.CX P w) 6 T.a__law_turned_told T.fd__law_turned_told ["mode", "book", "thing"] (DSp 3 g__law_turned_told) := by
  refine okD T.F__law_turned_told sc__law_turned_told rfl fun cdv A outer s H E hr => ?_
  have hu := hu_of hr
  exact (dss_one (ds_fgtB [3] (ds_try (xt_of T) rfl rfl (takes_of rfl rfl rfl rfl) (fun _ _ _ tk xe => (dss_one (ds_ret (de_if (dt_eq hr.units (de_var 0) de_int) (de_call (ok_with_telling T) fnD_len (hr.mono (by decide)) T.m_with_telling T.F_with_telling.kp T.b_with_telling (tk) (da_cons (de_var 1) (da_cons (de_var 2) da_nil))) (de_call (ok_without T) fnD_len (hr.mono (by decide)) T.m_without T.F_without.kp T.b_without (tk) (da_cons (de_var 1) (da_cons (de_var 2) da_nil))))))) (HsOk.named 3 ⟨rfl, by decide, .inl T.m_BadNumber⟩ sc__law_turned_told.nd rfl rfl (fun a oe cls d pn hz hf => hd_ret (te_two (te_one T.z_isinstance T.m_StretchError) (te_one T.z_isinstance T.m_BadBook)) hz hf) HsOk.nil))))
theorem ok_law (T : Tx K mg) : FnOk P w K mg base (L2.CX P w) 9 T.a_law T.fd_law ["script"] (DSp 1 g_law) := by
  refine okD T.F_law sc_law rfl fun cdv A outer s H E hr => ?_
  have hu := hu_of hr
  exact (dss_cons (ds_set 1 (de_call (ok__law_row T) fnD_len (hr.mono (by decide)) T.m__law_row T.F__law_row.kp T.b__law_row (takes_of rfl rfl rfl rfl) (da_cons (de_var 0) (da_cons de_int da_nil))) sc_law.nd)
  (dss_cons (ds_set 2 (de_call (ok__law_book T) fnD_len (hr.mono (by decide)) T.m__law_book T.F__law_book.kp T.b__law_book (takes_of rfl rfl rfl rfl) (da_cons (de_var 0) (da_cons de_int (da_cons de_int (da_cons de_bl da_nil))))) sc_law.nd)
  (dss_cons (ds_asg (de_var 2) (dg_tup rfl (dgs_cons (dg_name 3 sc_law.nd) (dgs_cons (dg_name 4 sc_law.nd) dgs_nil))))
  (dss_cons (ds_if (dt_eq hr.units (de_mod (de_subs hu (dl_var 1) de_int) de_int) de_int)
  (dss_fgtB [5, 6] (dss_cons (ds_set 5 (de_F onlyLD_lst (df_lst (da_cons (de_tup (da_cons de_int (da_cons de_int da_nil))) (da_cons (de_tup (da_cons de_int (da_cons de_int (da_cons de_int da_nil)))) (da_cons (de_tup (da_cons de_int (da_cons de_int (da_cons de_int da_nil)))) (da_cons (de_tup (da_cons de_int (da_cons (de_add (de_var 3) de_int) (da_cons de_int da_nil)))) (da_cons (de_tup (da_cons de_int (da_cons de_int (da_cons de_int da_nil)))) (da_cons (de_tup (da_cons de_int (da_cons de_int (da_cons de_non da_nil)))) (da_cons (de_F onlyLD_lst (df_lst (da_cons de_int (da_cons de_int (da_cons de_int da_nil))))) (da_cons (de_tup (da_cons de_int (da_cons de_int (da_cons de_bl da_nil)))) da_nil)))))))))) sc_law.nd)
  (dss_cons (ds_set 5 (de_subs hu (dl_of (de_add (de_var 5) (de_F onlyLD_lst (df_lst (da_cons (de_tup (da_cons de_bl (da_cons de_int (da_cons de_int da_nil)))) da_nil))))) (de_mod (de_subs hu (dl_var 1) de_int) de_int)) sc_law.nd)
  (dss_cons (ds_set 6 (de_F onlyLD_lst (df_lst (da_cons de_non (da_cons (de_tup (da_cons (de_var 3) da_nil)) (da_cons (de_F onlyLD_lst (df_lst (da_cons (de_var 3) (da_cons (de_var 4) da_nil)))) (da_cons (de_tup (da_cons de_int (da_cons (de_var 4) da_nil))) (da_cons (de_tup (da_cons de_int (da_cons (de_var 4) da_nil))) (da_cons (de_tup (da_cons (de_var 3) (da_cons (de_F onlyLD_list (df_list T.z_list (dl_var 4))) da_nil))) da_nil)))))))) sc_law.nd)
  (dss_cons (ds_set 6 (de_add (de_var 6) (de_F onlyLD_lst (df_lst (da_cons (de_tup (da_cons (de_var 3) (da_cons (de_add (de_var 4) (de_tup (da_cons (de_var 5) da_nil))) da_nil))) (da_cons (de_tup (da_cons (de_var 3) (da_cons (de_mul (de_tup (da_cons (de_tup (da_cons de_int (da_cons de_int (da_cons de_int da_nil)))) da_nil)) de_int) da_nil))) (da_cons (de_tup (da_cons (de_var 3) (da_cons (de_mul (de_tup (da_cons (de_tup (da_cons de_int (da_cons de_int (da_cons de_int da_nil)))) da_nil)) de_int) da_nil))) (da_cons (de_tup (da_cons de_int (da_cons (de_tup da_nil) da_nil))) da_nil))))))) sc_law.nd)
  (dss_cons (ds_set 6 (de_add (de_var 6) (de_F onlyLD_lst (df_lst (da_cons (de_tup (da_cons (de_var 3) (da_cons (de_tup (da_cons (de_var 5) da_nil)) da_nil))) (da_cons (de_tup (da_cons de_bl (da_cons (de_tup da_nil) da_nil))) (da_cons (de_tup (da_cons (de_var 3) (da_cons de_non da_nil))) da_nil)))))) sc_law.nd)
  (dss_one (ds_set 2 (de_subs hu (dl_var 6) (de_mod (de_subs hu (dl_var 1) de_int) de_int)) sc_law.nd))))))))
  dss_nil)
  (dss_cons (ds_if (dt_ne hr.units (de_call (ok_is_book T) fnD_len (hr.mono (by decide)) T.m_is_book T.F_is_book.kp T.b_is_book (takes_of rfl rfl rfl rfl) (da_cons (de_var 2) da_nil)) (de_call (ok__law_is_book T) fnD_len (hr.mono (by decide)) T.m__law_is_book T.F__law_is_book.kp T.b__law_is_book (takes_of rfl rfl rfl rfl) (da_cons (de_var 2) da_nil)))
  (dss_one (ds_ret de_bl))
  dss_nil)
  (dss_cons (ds_if (dt_not (dt_plain (dl_of (de_call (ok__law_is_book T) fnD_len (hr.mono (by decide)) T.m__law_is_book T.F__law_is_book.kp T.b__law_is_book (takes_of rfl rfl rfl rfl) (da_cons (de_var 2) da_nil)))))
  (dss_one (ds_ret (de_eq hr.units (de_F onlyLD_lc (df_lc [("place", 10)] (tgIn_name (by decide)) rfl sc_law.nd (di_rng1 T.z_range (da_cons de_int da_nil)) (blkOk_by (own := [("place", 10)]) (N := ["script", "draws", "book", "many", "tellings", "bent", "some", "telling", "due", "number", "place"]) (sc := defScope s_law) (by decide +kernel)) (fun _ _ _ _ _ => (dg_name 10 sc_law.nd)) (fun _ _ _ _ _ => dts_nil) (fun _ _ _ _ _ => (de_call (ok__law_book_word T) fnD_len (hr.mono (by decide)) T.m__law_book_word T.F__law_book_word.kp T.b__law_book_word takes0 (da_cons (de_var 10) (da_cons (de_var 2) da_nil)))))) (de_mul (de_F onlyLD_lst (df_lst (da_cons de_str da_nil))) de_int))))
  dss_nil)
  (dss_cons (ds_set 7 (de_subs hu (dl_of (de_F onlyLD_lst (df_lst (da_cons (de_tup (da_cons de_int (da_cons de_int (da_cons de_int da_nil)))) (da_cons (de_tup (da_cons de_int (da_cons (de_subs hu (dl_var 2) de_int) (da_cons (de_neg de_int) da_nil)))) (da_cons (de_tup (da_cons de_int (da_cons (de_add (de_subs hu (dl_var 2) de_int) de_int) (da_cons de_int da_nil)))) (da_cons (de_tup (da_cons de_int (da_cons de_int (da_cons de_int da_nil)))) (da_cons de_non (da_cons (de_tup (da_cons de_int (da_cons de_int (da_cons de_int da_nil)))) da_nil))))))))) (de_mod (de_subs hu (dl_var 1) de_int) de_int)) sc_law.nd)
  (dss_cons (ds_set 8 de_str sc_law.nd)
  (dss_cons (ds_if (PW.pt (dw_and (dt_plain (dl_of (de_call (ok__law_is_telling T) fnD_len (hr.mono (by decide)) T.m__law_is_telling T.F__law_is_telling.kp T.b__law_is_telling (takes_of rfl rfl rfl rfl) (da_cons (de_subs hu (dl_var 2) de_int) (da_cons (de_var 7) da_nil))))) (dw_and1 (dt_lt (de_len T.z_len (dl_of (de_subs hu (dl_var 2) de_int))) de_int))))
  (dss_one (ds_set 8 (de_tup (da_cons (de_subs hu (dl_var 2) de_int) (da_cons (de_add (de_subs hu (dl_var 2) de_int) (de_tup (da_cons (de_var 7) da_nil))) da_nil))) sc_law.nd))
  dss_nil)
  (dss_cons (ds_if (dt_ne hr.units (de_call (ok__law_turned_told T) fnD_len (hr.mono (by decide)) T.m__law_turned_told T.F__law_turned_told.kp T.b__law_turned_told (takes_of rfl rfl rfl rfl) (da_cons de_int (da_cons (de_var 2) (da_cons (de_var 7) da_nil)))) (de_var 8))
  (dss_one (ds_ret de_bl))
  dss_nil)
  (dss_cons (ds_set 9 (de_subs hu (dl_of (de_F onlyLD_lst (df_lst (da_cons de_int (da_cons (de_sub (de_len T.z_len (dl_of (de_subs hu (dl_var 2) de_int))) de_int) (da_cons (de_len T.z_len (dl_of (de_subs hu (dl_var 2) de_int))) (da_cons (de_neg de_int) (da_cons de_non da_nil)))))))) (de_mod (de_subs hu (dl_var 1) de_int) de_int)) sc_law.nd)
  (dss_cons (ds_set 8 (de_if (dt_plain (dl_of (de_call (ok__law_in T) fnD_len (hr.mono (by decide)) T.m__law_in T.F__law_in.kp T.b__law_in (takes_of rfl rfl rfl rfl) (da_cons (de_var 9) (da_cons de_int (da_cons (de_sub (de_len T.z_len (dl_of (de_subs hu (dl_var 2) de_int))) de_int) da_nil)))))) (de_call (ok__law_less T) fnD_len (hr.mono (by decide)) T.m__law_less T.F__law_less.kp T.b__law_less (takes_of rfl rfl rfl rfl) (da_cons (de_var 2) (da_cons (de_var 9) da_nil))) de_str) sc_law.nd)
  (dss_one (ds_ret (de_eq hr.units (de_call (ok__law_turned_told T) fnD_len (hr.mono (by decide)) T.m__law_turned_told T.F__law_turned_told.kp T.b__law_turned_told (takes_of rfl rfl rfl rfl) (da_cons de_int (da_cons (de_var 2) (da_cons (de_var 9) da_nil)))) (de_var 8))))))))))))))))
end
theorem all_mk {l : PySem.W.OpenLaw} {w : World} {K : PySem.W.Frag} {h : Heap} {mg : Str → Option Value} {fa f0 f1 f2 f3 f4 f5 f6 f7 f8 f9 f10 f11 f12 f13 f14 f15 f16 f17 f18 f19 f20 f21 f22 f23 f24 f25 f26 f27 f28 f29 f30 : Addr} (X : K.In h) (G : h.Ns mainGlobals mg) (hfa : mg "law" = some (.ref fa))
    {od0 an0 od1 an1 od2 an2 od3 an3 od4 an4 od5 an5 od6 an6 od7 an7 od8 an8 od9 an9 od10 an10 od11 an11 od12 an12 od13 an13 od14 an14 od15 an15 od16 an16 od17 an17 od18 an18 od19 an19 od20 an20 od21 an21 od22 an22 od23 an23 od24 an24 od25 an25 od26 an26 od27 an27 od28 an28 od29 an29 od30 an30 : Option Addr} {sl0 sl1 sl2 sl3 sl4 sl5 sl6 sl7 sl8 sl9 sl10 sl11 sl12 sl13 sl14 sl15 sl16 sl17 sl18 sl19 sl20 sl21 sl22 sl23 sl24 sl25 sl26 sl27 sl28 sl29 sl30 : Array (Option Value)} {oc0 kV0 dc0 pm0 cd0 ct0 oc1 kV1 dc1 pm1 cd1 ct1 oc2 kV2 dc2 pm2 cd2 ct2 oc3 kV3 dc3 pm3 cd3 ct3 oc4 kV4 dc4 pm4 cd4 ct4 oc5 kV5 dc5 pm5 cd5 ct5 oc6 kV6 dc6 pm6 cd6 ct6 oc7 kV7 dc7 pm7 cd7 ct7 oc8 kV8 dc8 pm8 cd8 ct8 oc9 kV9 dc9 pm9 cd9 ct9 oc10 kV10 dc10 pm10 cd10 ct10 oc11 kV11 dc11 pm11 cd11 ct11 oc12 kV12 dc12 pm12 cd12 ct12 oc13 kV13 dc13 pm13 cd13 ct13 oc14 kV14 dc14 pm14 cd14 ct14 oc15 kV15 dc15 pm15 cd15 ct15 oc16 kV16 dc16 pm16 cd16 ct16 oc17 kV17 dc17 pm17 cd17 ct17 oc18 kV18 dc18 pm18 cd18 ct18 oc19 kV19 dc19 pm19 cd19 ct19 oc20 kV20 dc20 pm20 cd20 ct20 oc21 kV21 dc21 pm21 cd21 ct21 oc22 kV22 dc22 pm22 cd22 ct22 oc23 kV23 dc23 pm23 cd23 ct23 oc24 kV24 dc24 pm24 cd24 ct24 oc25 kV25 dc25 pm25 cd25 ct25 oc26 kV26 dc26 pm26 cd26 ct26 oc27 kV27 dc27 pm27 cd27 ct27 oc28 kV28 dc28 pm28 cd28 ct28 oc29 kV29 dc29 pm29 cd29 ct29 oc30 kV30 dc30 pm30 cd30 ct30 : Value} {tk_MOST_ROW tk_MOST_TOLD tk_MOST_SUM : Tok}
    (a0 : PySem.W.nsIn K mainGlobals "_law_hidden" = some (some (.ref f0)))
    (l0 : K.lookup f0 = some ⟨oc0, od0, .func (PySem.W.fnOf "_law_hidden" "_law_hidden" (defArgs s__law_hidden) (defBody s__law_hidden) (defScope s__law_hidden) .none kV0 dc0 pm0 an0 cd0 ct0), sl0⟩)
    (c0 : PySem.W.codeIn K cd0 "_law_hidden" = true)
    (k0 : PySem.W.keepIn K (.ref f0) = true)
    (a1 : PySem.W.nsIn K mainGlobals "_law_cell" = some (some (.ref f1)))
    (l1 : K.lookup f1 = some ⟨oc1, od1, .func (PySem.W.fnOf "_law_cell" "_law_cell" (defArgs s__law_cell) (defBody s__law_cell) (defScope s__law_cell) .none kV1 dc1 pm1 an1 cd1 ct1), sl1⟩)
    (c1 : PySem.W.codeIn K cd1 "_law_cell" = true)
    (k1 : PySem.W.keepIn K (.ref f1) = true)
    (a2 : PySem.W.nsIn K mainGlobals "_law_row" = some (some (.ref f2)))
    (l2 : K.lookup f2 = some ⟨oc2, od2, .func (PySem.W.fnOf "_law_row" "_law_row" (defArgs s__law_row) (defBody s__law_row) (defScope s__law_row) .none kV2 dc2 pm2 an2 cd2 ct2), sl2⟩)
    (c2 : PySem.W.codeIn K cd2 "_law_row" = true)
    (k2 : PySem.W.keepIn K (.ref f2) = true)
    (a3 : PySem.W.nsIn K mainGlobals "_law_book" = some (some (.ref f3)))
    (l3 : K.lookup f3 = some ⟨oc3, od3, .func (PySem.W.fnOf "_law_book" "_law_book" (defArgs s__law_book) (defBody s__law_book) (defScope s__law_book) .none kV3 dc3 pm3 an3 cd3 ct3), sl3⟩)
    (c3 : PySem.W.codeIn K cd3 "_law_book" = true)
    (k3 : PySem.W.keepIn K (.ref f3) = true)
    (a4 : PySem.W.nsIn K mainGlobals "is_within" = some (some (.ref f4)))
    (l4 : K.lookup f4 = some ⟨oc4, od4, .func (PySem.W.fnOf "is_within" "is_within" (defArgs s_is_within) (defBody s_is_within) (defScope s_is_within) .none kV4 dc4 pm4 an4 cd4 ct4), sl4⟩)
    (c4 : PySem.W.codeIn K cd4 "is_within" = true)
    (k4 : PySem.W.keepIn K (.ref f4) = true)
    (a5 : PySem.W.nsIn K mainGlobals "is_telling" = some (some (.ref f5)))
    (l5 : K.lookup f5 = some ⟨oc5, od5, .func (PySem.W.fnOf "is_telling" "is_telling" (defArgs s_is_telling) (defBody s_is_telling) (defScope s_is_telling) .none kV5 dc5 pm5 an5 cd5 ct5), sl5⟩)
    (c5 : PySem.W.codeIn K cd5 "is_telling" = true)
    (k5 : PySem.W.keepIn K (.ref f5) = true)
    (a6 : PySem.W.nsIn K mainGlobals "is_book" = some (some (.ref f6)))
    (l6 : K.lookup f6 = some ⟨oc6, od6, .func (PySem.W.fnOf "is_book" "is_book" (defArgs s_is_book) (defBody s_is_book) (defScope s_is_book) .none kV6 dc6 pm6 an6 cd6 ct6), sl6⟩)
    (c6 : PySem.W.codeIn K cd6 "is_book" = true)
    (k6 : PySem.W.keepIn K (.ref f6) = true)
    (a7 : PySem.W.nsIn K mainGlobals "look" = some (some (.ref f7)))
    (l7 : K.lookup f7 = some ⟨oc7, od7, .func (PySem.W.fnOf "look" "look" (defArgs s_look) (defBody s_look) (defScope s_look) .none kV7 dc7 pm7 an7 cd7 ct7), sl7⟩)
    (c7 : PySem.W.codeIn K cd7 "look" = true)
    (k7 : PySem.W.keepIn K (.ref f7) = true)
    (a8 : PySem.W.nsIn K mainGlobals "book_text" = some (some (.ref f8)))
    (l8 : K.lookup f8 = some ⟨oc8, od8, .func (PySem.W.fnOf "book_text" "book_text" (defArgs s_book_text) (defBody s_book_text) (defScope s_book_text) .none kV8 dc8 pm8 an8 cd8 ct8), sl8⟩)
    (c8 : PySem.W.codeIn K cd8 "book_text" = true)
    (k8 : PySem.W.keepIn K (.ref f8) = true)
    (a9 : PySem.W.nsIn K mainGlobals "chain" = some (some (.ref f9)))
    (l9 : K.lookup f9 = some ⟨oc9, od9, .func (PySem.W.fnOf "chain" "chain" (defArgs s_chain) (defBody s_chain) (defScope s_chain) .none kV9 dc9 pm9 an9 cd9 ct9), sl9⟩)
    (c9 : PySem.W.codeIn K cd9 "chain" = true)
    (k9 : PySem.W.keepIn K (.ref f9) = true)
    (a10 : PySem.W.nsIn K mainGlobals "look_prices" = some (some (.ref f10)))
    (l10 : K.lookup f10 = some ⟨oc10, od10, .func (PySem.W.fnOf "look_prices" "look_prices" (defArgs s_look_prices) (defBody s_look_prices) (defScope s_look_prices) .none kV10 dc10 pm10 an10 cd10 ct10), sl10⟩)
    (c10 : PySem.W.codeIn K cd10 "look_prices" = true)
    (k10 : PySem.W.keepIn K (.ref f10) = true)
    (a11 : PySem.W.nsIn K mainGlobals "cheapest" = some (some (.ref f11)))
    (l11 : K.lookup f11 = some ⟨oc11, od11, .func (PySem.W.fnOf "cheapest" "cheapest" (defArgs s_cheapest) (defBody s_cheapest) (defScope s_cheapest) .none kV11 dc11 pm11 an11 cd11 ct11), sl11⟩)
    (c11 : PySem.W.codeIn K cd11 "cheapest" = true)
    (k11 : PySem.W.keepIn K (.ref f11) = true)
    (a12 : PySem.W.nsIn K mainGlobals "look_bounds" = some (some (.ref f12)))
    (l12 : K.lookup f12 = some ⟨oc12, od12, .func (PySem.W.fnOf "look_bounds" "look_bounds" (defArgs s_look_bounds) (defBody s_look_bounds) (defScope s_look_bounds) .none kV12 dc12 pm12 an12 cd12 ct12), sl12⟩)
    (c12 : PySem.W.codeIn K cd12 "look_bounds" = true)
    (k12 : PySem.W.keepIn K (.ref f12) = true)
    (a13 : PySem.W.nsIn K mainGlobals "look_both" = some (some (.ref f13)))
    (l13 : K.lookup f13 = some ⟨oc13, od13, .func (PySem.W.fnOf "look_both" "look_both" (defArgs s_look_both) (defBody s_look_both) (defScope s_look_both) .none kV13 dc13 pm13 an13 cd13 ct13), sl13⟩)
    (c13 : PySem.W.codeIn K cd13 "look_both" = true)
    (k13 : PySem.W.keepIn K (.ref f13) = true)
    (a14 : PySem.W.nsIn K mainGlobals "greatest" = some (some (.ref f14)))
    (l14 : K.lookup f14 = some ⟨oc14, od14, .func (PySem.W.fnOf "greatest" "greatest" (defArgs s_greatest) (defBody s_greatest) (defScope s_greatest) .none kV14 dc14 pm14 an14 cd14 ct14), sl14⟩)
    (c14 : PySem.W.codeIn K cd14 "greatest" = true)
    (k14 : PySem.W.keepIn K (.ref f14) = true)
    (a15 : PySem.W.nsIn K mainGlobals "is_true" = some (some (.ref f15)))
    (l15 : K.lookup f15 = some ⟨oc15, od15, .func (PySem.W.fnOf "is_true" "is_true" (defArgs s_is_true) (defBody s_is_true) (defScope s_is_true) .none kV15 dc15 pm15 an15 cd15 ct15), sl15⟩)
    (c15 : PySem.W.codeIn K cd15 "is_true" = true)
    (k15 : PySem.W.keepIn K (.ref f15) = true)
    (a16 : PySem.W.nsIn K mainGlobals "ring" = some (some (.ref f16)))
    (l16 : K.lookup f16 = some ⟨oc16, od16, .func (PySem.W.fnOf "ring" "ring" (defArgs s_ring) (defBody s_ring) (defScope s_ring) .none kV16 dc16 pm16 an16 cd16 ct16), sl16⟩)
    (c16 : PySem.W.codeIn K cd16 "ring" = true)
    (k16 : PySem.W.keepIn K (.ref f16) = true)
    (a17 : PySem.W.nsIn K mainGlobals "look_true" = some (some (.ref f17)))
    (l17 : K.lookup f17 = some ⟨oc17, od17, .func (PySem.W.fnOf "look_true" "look_true" (defArgs s_look_true) (defBody s_look_true) (defScope s_look_true) .none kV17 dc17 pm17 an17 cd17 ct17), sl17⟩)
    (c17 : PySem.W.codeIn K cd17 "look_true" = true)
    (k17 : PySem.W.keepIn K (.ref f17) = true)
    (a18 : PySem.W.nsIn K mainGlobals "row" = some (some (.ref f18)))
    (l18 : K.lookup f18 = some ⟨oc18, od18, .func (PySem.W.fnOf "row" "row" (defArgs s_row) (defBody s_row) (defScope s_row) .none kV18 dc18 pm18 an18 cd18 ct18), sl18⟩)
    (c18 : PySem.W.codeIn K cd18 "row" = true)
    (k18 : PySem.W.keepIn K (.ref f18) = true)
    (a19 : PySem.W.nsIn K mainGlobals "with_telling" = some (some (.ref f19)))
    (l19 : K.lookup f19 = some ⟨oc19, od19, .func (PySem.W.fnOf "with_telling" "with_telling" (defArgs s_with_telling) (defBody s_with_telling) (defScope s_with_telling) .none kV19 dc19 pm19 an19 cd19 ct19), sl19⟩)
    (c19 : PySem.W.codeIn K cd19 "with_telling" = true)
    (k19 : PySem.W.keepIn K (.ref f19) = true)
    (a20 : PySem.W.nsIn K mainGlobals "_law_book_word" = some (some (.ref f20)))
    (l20 : K.lookup f20 = some ⟨oc20, od20, .func (PySem.W.fnOf "_law_book_word" "_law_book_word" (defArgs s__law_book_word) (defBody s__law_book_word) (defScope s__law_book_word) .none kV20 dc20 pm20 an20 cd20 ct20), sl20⟩)
    (c20 : PySem.W.codeIn K cd20 "_law_book_word" = true)
    (k20 : PySem.W.keepIn K (.ref f20) = true)
    (a21 : PySem.W.nsIn K mainGlobals "_law_whole" = some (some (.ref f21)))
    (l21 : K.lookup f21 = some ⟨oc21, od21, .func (PySem.W.fnOf "_law_whole" "_law_whole" (defArgs s__law_whole) (defBody s__law_whole) (defScope s__law_whole) .none kV21 dc21 pm21 an21 cd21 ct21), sl21⟩)
    (c21 : PySem.W.codeIn K cd21 "_law_whole" = true)
    (k21 : PySem.W.keepIn K (.ref f21) = true)
    (a22 : PySem.W.nsIn K mainGlobals "_law_in" = some (some (.ref f22)))
    (l22 : K.lookup f22 = some ⟨oc22, od22, .func (PySem.W.fnOf "_law_in" "_law_in" (defArgs s__law_in) (defBody s__law_in) (defScope s__law_in) .none kV22 dc22 pm22 an22 cd22 ct22), sl22⟩)
    (c22 : PySem.W.codeIn K cd22 "_law_in" = true)
    (k22 : PySem.W.keepIn K (.ref f22) = true)
    (a23 : PySem.W.nsIn K mainGlobals "_law_is_telling" = some (some (.ref f23)))
    (l23 : K.lookup f23 = some ⟨oc23, od23, .func (PySem.W.fnOf "_law_is_telling" "_law_is_telling" (defArgs s__law_is_telling) (defBody s__law_is_telling) (defScope s__law_is_telling) .none kV23 dc23 pm23 an23 cd23 ct23), sl23⟩)
    (c23 : PySem.W.codeIn K cd23 "_law_is_telling" = true)
    (k23 : PySem.W.keepIn K (.ref f23) = true)
    (a24 : PySem.W.nsIn K mainGlobals "_law_is_book" = some (some (.ref f24)))
    (l24 : K.lookup f24 = some ⟨oc24, od24, .func (PySem.W.fnOf "_law_is_book" "_law_is_book" (defArgs s__law_is_book) (defBody s__law_is_book) (defScope s__law_is_book) .none kV24 dc24 pm24 an24 cd24 ct24), sl24⟩)
    (c24 : PySem.W.codeIn K cd24 "_law_is_book" = true)
    (k24 : PySem.W.keepIn K (.ref f24) = true)
    (a25 : PySem.W.nsIn K mainGlobals "_law_less" = some (some (.ref f25)))
    (l25 : K.lookup f25 = some ⟨oc25, od25, .func (PySem.W.fnOf "_law_less" "_law_less" (defArgs s__law_less) (defBody s__law_less) (defScope s__law_less) .none kV25 dc25 pm25 an25 cd25 ct25), sl25⟩)
    (c25 : PySem.W.codeIn K cd25 "_law_less" = true)
    (k25 : PySem.W.keepIn K (.ref f25) = true)
    (a26 : PySem.W.nsIn K mainGlobals "look_number" = some (some (.ref f26)))
    (l26 : K.lookup f26 = some ⟨oc26, od26, .func (PySem.W.fnOf "look_number" "look_number" (defArgs s_look_number) (defBody s_look_number) (defScope s_look_number) .none kV26 dc26 pm26 an26 cd26 ct26), sl26⟩)
    (c26 : PySem.W.codeIn K cd26 "look_number" = true)
    (k26 : PySem.W.keepIn K (.ref f26) = true)
    (a27 : PySem.W.nsIn K mainGlobals "without_of" = some (some (.ref f27)))
    (l27 : K.lookup f27 = some ⟨oc27, od27, .func (PySem.W.fnOf "without_of" "without_of" (defArgs s_without_of) (defBody s_without_of) (defScope s_without_of) .none kV27 dc27 pm27 an27 cd27 ct27), sl27⟩)
    (c27 : PySem.W.codeIn K cd27 "without_of" = true)
    (k27 : PySem.W.keepIn K (.ref f27) = true)
    (a28 : PySem.W.nsIn K mainGlobals "without" = some (some (.ref f28)))
    (l28 : K.lookup f28 = some ⟨oc28, od28, .func (PySem.W.fnOf "without" "without" (defArgs s_without) (defBody s_without) (defScope s_without) .none kV28 dc28 pm28 an28 cd28 ct28), sl28⟩)
    (c28 : PySem.W.codeIn K cd28 "without" = true)
    (k28 : PySem.W.keepIn K (.ref f28) = true)
    (a29 : PySem.W.nsIn K mainGlobals "_law_turned_told" = some (some (.ref f29)))
    (l29 : K.lookup f29 = some ⟨oc29, od29, .func (PySem.W.fnOf "_law_turned_told" "_law_turned_told" (defArgs s__law_turned_told) (defBody s__law_turned_told) (defScope s__law_turned_told) .none kV29 dc29 pm29 an29 cd29 ct29), sl29⟩)
    (c29 : PySem.W.codeIn K cd29 "_law_turned_told" = true)
    (k29 : PySem.W.keepIn K (.ref f29) = true)
    (a30 : PySem.W.nsIn K mainGlobals "law" = some (some (.ref f30)))
    (l30 : K.lookup f30 = some ⟨oc30, od30, .func (PySem.W.fnOf "law" "law" (defArgs s_law) (defBody s_law) (defScope s_law) .none kV30 dc30 pm30 an30 cd30 ct30), sl30⟩)
    (c30 : PySem.W.codeIn K cd30 "law" = true)
    (k30 : PySem.W.keepIn K (.ref f30) = true)
    (z_len : PySem.W.nsIn K mainGlobals "len" = some none)
    (z_range : PySem.W.nsIn K mainGlobals "range" = some none)
    (z_isinstance : PySem.W.nsIn K mainGlobals "isinstance" = some none)
    (z_int : PySem.W.nsIn K mainGlobals "int" = some none)
    (z_bool : PySem.W.nsIn K mainGlobals "bool" = some none)
    (z_tuple : PySem.W.nsIn K mainGlobals "tuple" = some none)
    (z_list : PySem.W.nsIn K mainGlobals "list" = some none)
    (z_sum : PySem.W.nsIn K mainGlobals "sum" = some none)
    (v_MOST_ROW : PySem.W.nsIn K mainGlobals "MOST_ROW" = some (some (.int 16 tk_MOST_ROW)))
    (v_MOST_TOLD : PySem.W.nsIn K mainGlobals "MOST_TOLD" = some (some (.int 24 tk_MOST_TOLD)))
    (v_MOST_SUM : PySem.W.nsIn K mainGlobals "MOST_SUM" = some (some (.int 9999 tk_MOST_SUM)))
    (m_StretchError : PySem.W.nsIn K mainGlobals "StretchError" = some (some (.ref C_StretchError)))
    (m_BadBook : PySem.W.nsIn K mainGlobals "BadBook" = some (some (.ref C_BadBook)))
    (m_NotTrue : PySem.W.nsIn K mainGlobals "NotTrue" = some (some (.ref C_NotTrue)))
    (m_BadNumber : PySem.W.nsIn K mainGlobals "BadNumber" = some (some (.ref C_BadNumber)))
    (hg_BadBook : PySem.W.findIn K (.ref C_BadBook) "__getattribute__" = some (some (.builtin "BaseException.__getattribute__")))
    (hk_BadBook : PySem.W.findIn K (.ref C_BadBook) "__getattr__" = some none)
    (ha_BadBook : PySem.W.findIn K (.ref C_BadBook) "__class__" = some (some (.builtin "object.__class__")))
    (hn_BadBook : PySem.W.specialIn K (.builtin "object.__class__") "__get__" = some (some (.builtin "getset_descriptor.__get__")))
    (ht_BadBook : PySem.W.takesIn K (.builtin "object.__class__") = some true)
    (hm_BadBook : PySem.W.mroIn K C_BadBook (.type "object") = some true)
    (hg_BadNumber : PySem.W.findIn K (.ref C_BadNumber) "__getattribute__" = some (some (.builtin "BaseException.__getattribute__")))
    (hk_BadNumber : PySem.W.findIn K (.ref C_BadNumber) "__getattr__" = some none)
    (ha_BadNumber : PySem.W.findIn K (.ref C_BadNumber) "__class__" = some (some (.builtin "object.__class__")))
    (hm_BadNumber : PySem.W.mroIn K C_BadNumber (.type "object") = some true)
    (su_0 : PySem.W.subIn K (.ref C_BadBook) (.ref C_StretchError) = some true)
    (su_1 : PySem.W.subIn K (.ref C_BadBook) (.ref C_BadBook) = some true)
    (su_2 : PySem.W.subIn K (.ref C_BadBook) (.ref C_NotTrue) = some false)
    (su_3 : PySem.W.subIn K (.ref C_BadBook) (.ref C_BadNumber) = some false)
    (su_4 : PySem.W.subIn K (.ref C_BadNumber) (.ref C_StretchError) = some true)
    (su_5 : PySem.W.subIn K (.ref C_BadNumber) (.ref C_BadBook) = some false)
    (su_6 : PySem.W.subIn K (.ref C_BadNumber) (.ref C_NotTrue) = some false)
    (su_7 : PySem.W.subIn K (.ref C_BadNumber) (.ref C_BadNumber) = some true)
    (s_StretchError : PySem.W.subIn K (.ref C_StretchError) (.type "BaseException") = some true)
    (t_StretchError : PySem.W.typeIn K (.ref C_StretchError) = some (.type "type"))
    (d_StretchError : PySem.W.hasDictIn K C_StretchError = true)
    (s_BadBook : PySem.W.subIn K (.ref C_BadBook) (.type "BaseException") = some true)
    (t_BadBook : PySem.W.typeIn K (.ref C_BadBook) = some (.type "type"))
    (d_BadBook : PySem.W.hasDictIn K C_BadBook = true)
    (s_NotTrue : PySem.W.subIn K (.ref C_NotTrue) (.type "BaseException") = some true)
    (t_NotTrue : PySem.W.typeIn K (.ref C_NotTrue) = some (.type "type"))
    (d_NotTrue : PySem.W.hasDictIn K C_NotTrue = true)
    (s_BadNumber : PySem.W.subIn K (.ref C_BadNumber) (.type "BaseException") = some true)
    (t_BadNumber : PySem.W.typeIn K (.ref C_BadNumber) = some (.type "type"))
    (d_BadNumber : PySem.W.hasDictIn K C_BadNumber = true)
    (x_BadBook : PySem.W.excIn K C_BadBook [.type "ValueError", .type "Exception", .type "BaseException", .type "object"] "ValueError.__new__" = true)
    (q_BadBook : PySem.W.keepIn K (.ref C_BadBook) = true)
    (x_BadNumber : PySem.W.excIn K C_BadNumber [.type "ValueError", .type "Exception", .type "BaseException", .type "object"] "ValueError.__new__" = true)
    (q_BadNumber : PySem.W.keepIn K (.ref C_BadNumber) = true)
    : ∃ fd : FuncData, (∀ (s : Shared) (v : Value), BindsTo s fd ⟨[v], []⟩ [("script", v)]) ∧ ∀ base : Heap, K.In base → base.Ns mainGlobals mg → FnOk l.prog w K mg base (L2.CX l.prog w) 9 fa fd ["script"] (DSp 1 g_law) := by
  have e := hfa.symm.trans (PySem.W.mg_of X G a30)
  cases e
  have F0 := fun_mk (st := s__law_hidden) l0 c0 k0
  have b0 := F0.binds (ps := ["draws", "at", "many"]) fun _ _ _ _ _ _ us hl => match us, hl with | [_, _, _], _ => rfl
  have F1 := fun_mk (st := s__law_cell) l1 c1 k1
  have b1 := F1.binds (ps := ["script", "k"]) fun _ _ _ _ _ _ us hl => match us, hl with | [_, _], _ => rfl
  have F2 := fun_mk (st := s__law_row) l2 c2 k2
  have b2 := F2.binds (ps := ["script", "at"]) fun _ _ _ _ _ _ us hl => match us, hl with | [_, _], _ => rfl
  have F3 := fun_mk (st := s__law_book) l3 c3 k3
  have b3 := F3.binds (ps := ["script", "at", "most_row", "wrong"]) fun _ _ _ _ _ _ us hl => match us, hl with | [_, _, _, _], _ => rfl
  have F4 := fun_mk (st := s_is_within) l4 c4 k4
  have b4 := F4.binds (ps := ["thing", "low", "high"]) fun _ _ _ _ _ _ us hl => match us, hl with | [_, _, _], _ => rfl
  have F5 := fun_mk (st := s_is_telling) l5 c5 k5
  have b5 := F5.binds (ps := ["many", "thing"]) fun _ _ _ _ _ _ us hl => match us, hl with | [_, _], _ => rfl
  have F6 := fun_mk (st := s_is_book) l6 c6 k6
  have b6 := F6.binds (ps := ["thing"]) fun _ _ _ _ _ _ us hl => match us, hl with | [_], _ => rfl
  have F7 := fun_mk (st := s_look) l7 c7 k7
  have b7 := F7.binds (ps := ["book"]) fun _ _ _ _ _ _ us hl => match us, hl with | [_], _ => rfl
  have F8 := fun_mk (st := s_book_text) l8 c8 k8
  have b8 := F8.binds (ps := ["book"]) fun _ _ _ _ _ _ us hl => match us, hl with | [_], _ => rfl
  have F9 := fun_mk (st := s_chain) l9 c9 k9
  have b9 := F9.binds (ps := ["book", "start", "end"]) fun _ _ _ _ _ _ us hl => match us, hl with | [_, _, _], _ => rfl
  have F10 := fun_mk (st := s_look_prices) l10 c10 k10
  have b10 := F10.binds (ps := ["book", "prices"]) fun _ _ _ _ _ _ us hl => match us, hl with | [_, _], _ => rfl
  have F11 := fun_mk (st := s_cheapest) l11 c11 k11
  have b11 := F11.binds (ps := ["book", "prices"]) fun _ _ _ _ _ _ us hl => match us, hl with | [_, _], _ => rfl
  have F12 := fun_mk (st := s_look_bounds) l12 c12 k12
  have b12 := F12.binds (ps := ["book", "low", "high"]) fun _ _ _ _ _ _ us hl => match us, hl with | [_, _, _], _ => rfl
  have F13 := fun_mk (st := s_look_both) l13 c13 k13
  have b13 := F13.binds (ps := ["book", "low", "high", "start", "end"]) fun _ _ _ _ _ _ us hl => match us, hl with | [_, _, _, _, _], _ => rfl
  have F14 := fun_mk (st := s_greatest) l14 c14 k14
  have b14 := F14.binds (ps := ["book", "low", "high", "start", "end"]) fun _ _ _ _ _ _ us hl => match us, hl with | [_, _, _, _, _], _ => rfl
  have F15 := fun_mk (st := s_is_true) l15 c15 k15
  have b15 := F15.binds (ps := ["book"]) fun _ _ _ _ _ _ us hl => match us, hl with | [_], _ => rfl
  have F16 := fun_mk (st := s_ring) l16 c16 k16
  have b16 := F16.binds (ps := ["book"]) fun _ _ _ _ _ _ us hl => match us, hl with | [_], _ => rfl
  have F17 := fun_mk (st := s_look_true) l17 c17 k17
  have b17 := F17.binds (ps := ["book"]) fun _ _ _ _ _ _ us hl => match us, hl with | [_], _ => rfl
  have F18 := fun_mk (st := s_row) l18 c18 k18
  have b18 := F18.binds (ps := ["book"]) fun _ _ _ _ _ _ us hl => match us, hl with | [_], _ => rfl
  have F19 := fun_mk (st := s_with_telling) l19 c19 k19
  have b19 := F19.binds (ps := ["book", "telling"]) fun _ _ _ _ _ _ us hl => match us, hl with | [_, _], _ => rfl
  have F20 := fun_mk (st := s__law_book_word) l20 c20 k20
  have b20 := F20.binds (ps := ["mode", "book"]) fun _ _ _ _ _ _ us hl => match us, hl with | [_, _], _ => rfl
  have F21 := fun_mk (st := s__law_whole) l21 c21 k21
  have b21 := F21.binds (ps := ["found"]) fun _ _ _ _ _ _ us hl => match us, hl with | [_], _ => rfl
  have F22 := fun_mk (st := s__law_in) l22 c22 k22
  have b22 := F22.binds (ps := ["thing", "low", "high"]) fun _ _ _ _ _ _ us hl => match us, hl with | [_, _, _], _ => rfl
  have F23 := fun_mk (st := s__law_is_telling) l23 c23 k23
  have b23 := F23.binds (ps := ["many", "thing"]) fun _ _ _ _ _ _ us hl => match us, hl with | [_, _], _ => rfl
  have F24 := fun_mk (st := s__law_is_book) l24 c24 k24
  have b24 := F24.binds (ps := ["thing"]) fun _ _ _ _ _ _ us hl => match us, hl with | [_], _ => rfl
  have F25 := fun_mk (st := s__law_less) l25 c25 k25
  have b25 := F25.binds (ps := ["book", "number"]) fun _ _ _ _ _ _ us hl => match us, hl with | [_, _], _ => rfl
  have F26 := fun_mk (st := s_look_number) l26 c26 k26
  have b26 := F26.binds (ps := ["book", "number"]) fun _ _ _ _ _ _ us hl => match us, hl with | [_, _], _ => rfl
  have F27 := fun_mk (st := s_without_of) l27 c27 k27
  have b27 := F27.binds (ps := ["book", "number"]) fun _ _ _ _ _ _ us hl => match us, hl with | [_, _], _ => rfl
  have F28 := fun_mk (st := s_without) l28 c28 k28
  have b28 := F28.binds (ps := ["book", "number"]) fun _ _ _ _ _ _ us hl => match us, hl with | [_, _], _ => rfl
  have F29 := fun_mk (st := s__law_turned_told) l29 c29 k29
  have b29 := F29.binds (ps := ["mode", "book", "thing"]) fun _ _ _ _ _ _ us hl => match us, hl with | [_, _, _], _ => rfl
  have F30 := fun_mk (st := s_law) l30 c30 k30
  have b30 := F30.binds (ps := ["script"]) fun _ _ _ _ _ _ us hl => match us, hl with | [_], _ => rfl
  have T : Tx K mg := ⟨_, _, F0, b0, PySem.W.mg_of X G a0,
    _, _, F1, b1, PySem.W.mg_of X G a1,
    _, _, F2, b2, PySem.W.mg_of X G a2,
    _, _, F3, b3, PySem.W.mg_of X G a3,
    _, _, F4, b4, PySem.W.mg_of X G a4,
    _, _, F5, b5, PySem.W.mg_of X G a5,
    _, _, F6, b6, PySem.W.mg_of X G a6,
    _, _, F7, b7, PySem.W.mg_of X G a7,
    _, _, F8, b8, PySem.W.mg_of X G a8,
    _, _, F9, b9, PySem.W.mg_of X G a9,
    _, _, F10, b10, PySem.W.mg_of X G a10,
    _, _, F11, b11, PySem.W.mg_of X G a11,
    _, _, F12, b12, PySem.W.mg_of X G a12,
    _, _, F13, b13, PySem.W.mg_of X G a13,
    _, _, F14, b14, PySem.W.mg_of X G a14,
    _, _, F15, b15, PySem.W.mg_of X G a15,
    _, _, F16, b16, PySem.W.mg_of X G a16,
    _, _, F17, b17, PySem.W.mg_of X G a17,
    _, _, F18, b18, PySem.W.mg_of X G a18,
    _, _, F19, b19, PySem.W.mg_of X G a19,
    _, _, F20, b20, PySem.W.mg_of X G a20,
    _, _, F21, b21, PySem.W.mg_of X G a21,
    _, _, F22, b22, PySem.W.mg_of X G a22,
    _, _, F23, b23, PySem.W.mg_of X G a23,
    _, _, F24, b24, PySem.W.mg_of X G a24,
    _, _, F25, b25, PySem.W.mg_of X G a25,
    _, _, F26, b26, PySem.W.mg_of X G a26,
    _, _, F27, b27, PySem.W.mg_of X G a27,
    _, _, F28, b28, PySem.W.mg_of X G a28,
    _, _, F29, b29, PySem.W.mg_of X G a29,
    _, _, F30, b30, PySem.W.mg_of X G a30,
    PySem.W.mg_none_of X G z_len,
    PySem.W.mg_none_of X G z_range,
    PySem.W.mg_none_of X G z_isinstance,
    PySem.W.mg_none_of X G z_int,
    PySem.W.mg_none_of X G z_bool,
    PySem.W.mg_none_of X G z_tuple,
    PySem.W.mg_none_of X G z_list,
    PySem.W.mg_none_of X G z_sum,
    _, PySem.W.mg_of X G v_MOST_ROW,
    _, PySem.W.mg_of X G v_MOST_TOLD,
    _, PySem.W.mg_of X G v_MOST_SUM,
    PySem.W.mg_of X G m_StretchError,
    PySem.W.mg_of X G m_BadBook,
    PySem.W.mg_of X G m_NotTrue,
    PySem.W.mg_of X G m_BadNumber,
    ⟨hg_BadBook, hk_BadBook, s_BadBook, d_BadBook, ha_BadBook, hn_BadBook, ht_BadBook, hm_BadBook⟩,
    ⟨hg_BadNumber, hk_BadNumber, s_BadNumber, d_BadNumber, ha_BadNumber, hn_BadBook, ht_BadBook, hm_BadNumber⟩,
    su_0,
    su_1,
    su_2,
    su_3,
    su_4,
    su_5,
    su_6,
    su_7,
    s_StretchError, t_StretchError, d_StretchError,
    s_BadBook, t_BadBook, d_BadBook,
    s_NotTrue, t_NotTrue, d_NotTrue,
    s_BadNumber, t_BadNumber, d_BadNumber,
    x_BadBook, q_BadBook,
    x_BadNumber, q_BadNumber⟩
  exact ⟨_, fun s v => .of_eq rfl, fun base _ _ => ok_law ⟨_, _, F0, b0, PySem.W.mg_of X G a0,
    _, _, F1, b1, PySem.W.mg_of X G a1,
    _, _, F2, b2, PySem.W.mg_of X G a2,
    _, _, F3, b3, PySem.W.mg_of X G a3,
    _, _, F4, b4, PySem.W.mg_of X G a4,
    _, _, F5, b5, PySem.W.mg_of X G a5,
    _, _, F6, b6, PySem.W.mg_of X G a6,
    _, _, F7, b7, PySem.W.mg_of X G a7,
    _, _, F8, b8, PySem.W.mg_of X G a8,
    _, _, F9, b9, PySem.W.mg_of X G a9,
    _, _, F10, b10, PySem.W.mg_of X G a10,
    _, _, F11, b11, PySem.W.mg_of X G a11,
    _, _, F12, b12, PySem.W.mg_of X G a12,
    _, _, F13, b13, PySem.W.mg_of X G a13,
    _, _, F14, b14, PySem.W.mg_of X G a14,
    _, _, F15, b15, PySem.W.mg_of X G a15,
    _, _, F16, b16, PySem.W.mg_of X G a16,
    _, _, F17, b17, PySem.W.mg_of X G a17,
    _, _, F18, b18, PySem.W.mg_of X G a18,
    _, _, F19, b19, PySem.W.mg_of X G a19,
    _, _, F20, b20, PySem.W.mg_of X G a20,
    _, _, F21, b21, PySem.W.mg_of X G a21,
    _, _, F22, b22, PySem.W.mg_of X G a22,
    _, _, F23, b23, PySem.W.mg_of X G a23,
    _, _, F24, b24, PySem.W.mg_of X G a24,
    _, _, F25, b25, PySem.W.mg_of X G a25,
    _, _, F26, b26, PySem.W.mg_of X G a26,
    _, _, F27, b27, PySem.W.mg_of X G a27,
    _, _, F28, b28, PySem.W.mg_of X G a28,
    _, _, F29, b29, PySem.W.mg_of X G a29,
    _, _, F30, b30, PySem.W.mg_of X G a30,
    PySem.W.mg_none_of X G z_len,
    PySem.W.mg_none_of X G z_range,
    PySem.W.mg_none_of X G z_isinstance,
    PySem.W.mg_none_of X G z_int,
    PySem.W.mg_none_of X G z_bool,
    PySem.W.mg_none_of X G z_tuple,
    PySem.W.mg_none_of X G z_list,
    PySem.W.mg_none_of X G z_sum,
    _, PySem.W.mg_of X G v_MOST_ROW,
    _, PySem.W.mg_of X G v_MOST_TOLD,
    _, PySem.W.mg_of X G v_MOST_SUM,
    PySem.W.mg_of X G m_StretchError,
    PySem.W.mg_of X G m_BadBook,
    PySem.W.mg_of X G m_NotTrue,
    PySem.W.mg_of X G m_BadNumber,
    ⟨hg_BadBook, hk_BadBook, s_BadBook, d_BadBook, ha_BadBook, hn_BadBook, ht_BadBook, hm_BadBook⟩,
    ⟨hg_BadNumber, hk_BadNumber, s_BadNumber, d_BadNumber, ha_BadNumber, hn_BadBook, ht_BadBook, hm_BadNumber⟩,
    su_0,
    su_1,
    su_2,
    su_3,
    su_4,
    su_5,
    su_6,
    su_7,
    s_StretchError, t_StretchError, d_StretchError,
    s_BadBook, t_BadBook, d_BadBook,
    s_NotTrue, t_NotTrue, d_NotTrue,
    s_BadNumber, t_BadNumber, d_BadNumber,
    x_BadBook, q_BadBook,
    x_BadNumber, q_BadNumber⟩⟩
/-! ### the script's cells, the row of draws -/
def cellI (ns : List Int) (k : Int) : Int := ns.getD k.toNat 0
theorem cell_eq (ns : List Int) (k : Int) (hk : 0 ≤ k) : g__law_cell [scrD ns, .int k] = .ok (.int (cellI ns k)) := by
  refine fn_rt rfl ?_
  unfold f__law_cell cellI
  obtain ⟨n, rfl⟩ := Int.eq_ofNat_of_zero_le hk
  by_cases h : n < ns.length
  · simp [h, q_atS (List.getElem?_eq_getElem h)]
  · simp [h]
structure RowS where
  cell : Int
  found : List Int
def rowStep (ns : List Int) (a : Nat) (s : RowS) (t : Nat) : RowS :=
  if cellI ns a < 1000000000000000000 then
    ⟨(s.cell * 48271 + 131 * (t : Int) + 7 + cellI ns (((a : Int) + 1 + t) % 20)) % 2147483647, s.found ++ [(s.cell * 48271 + 131 * (t : Int) + 7 + cellI ns (((a : Int) + 1 + t) % 20)) % 2147483647 / 11 % 1000]⟩
  else ⟨s.cell / 1000, s.found ++ [s.cell % 1000]⟩
def rowR (ns : List Int) (a : Nat) : RowS := (List.range 60).foldl (rowStep ns a) ⟨cellI ns a, []⟩
def rowI (ns : List Int) (a : Nat) : List Int := (rowR ns a).found
theorem rowStep_len (ns : List Int) (a : Nat) (s : RowS) (t : Nat) : (rowStep ns a s t).found.length = s.found.length + 1 := by
  unfold rowStep
  split <;> simp
theorem rowStep_mem (ns : List Int) (a : Nat) (s : RowS) (t : Nat) (h : ∀ x ∈ s.found, 0 ≤ x ∧ x < 1000) : ∀ x ∈ (rowStep ns a s t).found, 0 ≤ x ∧ x < 1000 := by
  unfold rowStep
  split
  all_goals
    intro x hx
    rcases List.mem_append.1 hx with hx | hx
    · exact h x hx
    · rw [List.mem_singleton.1 hx]
      omega
theorem row_fold (ns : List Int) (a : Nat) : ∀ (l : List Nat) (s : RowS), (∀ x ∈ s.found, 0 ≤ x ∧ x < 1000) → (l.foldl (rowStep ns a) s).found.length = s.found.length + l.length ∧ ∀ x ∈ (l.foldl (rowStep ns a) s).found, 0 ≤ x ∧ x < 1000
  | [], s, h => ⟨rfl, h⟩
  | t :: l, s, h => by
    have q := row_fold ns a l (rowStep ns a s t) (rowStep_mem ns a s t h)
    refine ⟨?_, q.2⟩
    rw [List.foldl_cons, q.1, rowStep_len, List.length_cons]
    omega
theorem row_len (ns : List Int) (a : Nat) : (rowI ns a).length = 60 := (row_fold ns a (List.range 60) ⟨cellI ns a, []⟩ (by simp)).1
theorem row_mem (ns : List Int) (a : Nat) : ∀ x ∈ rowI ns a, 0 ≤ x ∧ x < 1000 := (row_fold ns a (List.range 60) ⟨cellI ns a, []⟩ (by simp)).2
theorem row_eq (ns : List Int) (a : Nat) : g__law_row [scrD ns, .int a] = .ok (iL (rowI ns a)) := by
  refine fn_rt rfl ?_
  unfold f__law_row
  have hb : bigB 60 = true := by decide
  have h := (forL_pre (t := tgName 4) (fb := p1__law_row) (fun s : RowS => [Sl.va (scrD ns), .va (.int a), .va (.int s.cell), .ow (iL s.found), .no]) nI (rowStep ns a) (List.range 60) ⟨cellI ns a, []⟩ ?_)
  · dsimp only [iL, List.map] at h
    simp [cell_eq, hb, fits_of, rngD_nat, h, rowI, rowR, iL]
  · intro pre t post hpre
    refine ⟨_, rfl, ?_⟩
    have hl : pre.length ≤ 60 := by
      have := congrArg List.length hpre
      simp at this
      omega
    have hs := (row_fold ns a pre ⟨cellI ns a, []⟩ (by simp)).1
    revert hs
    generalize pre.foldl (rowStep ns a) ⟨cellI ns a, []⟩ = s
    intro hs
    have hs : s.found.length + 1 ≤ 16777216 := by simp at hs; omega
    have hp : dPow (.int 10) (.int 18) = .ok (.int 1000000000000000000) := by rfl
    have hc : 0 ≤ (((a : Int) + 1 + t) % 20) := by omega
    have hm : dMul (.int s.cell) (.int 48271) = .ok (.int (s.cell * 48271)) := q_mul (by omega)
    have hm2 : dMul (.int 131) (.int t) = .ok (.int (131 * t)) := q_mul (by omega)
    unfold p1__law_row rowStep
    by_cases hh : cellI ns a < 1000000000000000000
    · simp [cell_eq, hp, hh, hm, hm2, q_mod, q_div, hc, fits_of, hs]
    · simp [cell_eq, hp, hh, q_mod, q_div, fits_of, hs]
/-! ### the draws as naturals; books -/
def rowN (ns : List Int) (a : Nat) : List Nat := (rowI ns a).map Int.toNat
theorem rowN_len (ns : List Int) (a : Nat) : (rowN ns a).length = 60 := by
  unfold rowN
  rw [List.length_map, row_len]
theorem rowN_eq (ns : List Int) (a : Nat) : g__law_row [scrD ns, .int a] = .ok (nL (rowN ns a)) := by
  rw [row_eq]
  unfold rowN iL nL
  rw [List.map_map]
  congr 2
  apply List.map_congr_left
  intro x hx
  have := (row_mem ns a x hx).1
  show PyData.int x = PyData.int ((x.toNat : Nat) : Int)
  rw [Int.toNat_of_nonneg this]
/-- the k-th draw -/
def dN (l : List Nat) (k : Nat) : Nat := l.getD k 0
theorem dN_at {l : List Nat} (hl : l.length = 60) {k : Int} {n : Nat} (hk : k = n) (h : n < 60) : dSubs (nL l) (.int k) = .ok (nI (dN l n)) := by
  refine q_at hk ?_
  unfold dN
  rw [List.getD_eq_getElem?_getD, List.getElem?_eq_getElem (by omega)]
  rfl
def hidI (l : List Nat) (a many : Nat) : List Int := (List.range many).map fun p => (dN l ((a + p) % 60) : Int) % 9 - 4
theorem hid_len (l : List Nat) (a many : Nat) : (hidI l a many).length = many := by simp [hidI]
theorem hid_mem (l : List Nat) (a many : Nat) : ∀ x ∈ hidI l a many, -4 ≤ x ∧ x ≤ 4 := by
  intro x hx
  obtain ⟨p, _, rfl⟩ := List.mem_map.1 hx
  omega
theorem hid_eq {l : List Nat} (hl : l.length = 60) (a many : Nat) (hm : many ≤ 1000) : g__law_hidden [nL l, .int a, nI many] = .ok (iL (hidI l a many)) := by
  refine fn_rt rfl ?_
  unfold f__law_hidden
  have hb : bigB (many : Int) = true := bigB_of (by omega) (by omega)
  have hf : fits many = true := fits_of (by omega)
  have h := lc_map1 (t := tgName 3) (fe := e2 dSub (e2 dMod (e2 dSubs (eLook 0) (e2 dMod (e2 dAdd (eVar 1) (eVar 3)) (eC (.int 60)))) (eC (.int 9))) (eC (.int 4))) (ρ := [.va (nL l), .va (.int a), .va (nI many), .no]) nI (fun p => .int ((dN l ((a + p) % 60) : Int) % 9 - 4)) (List.range many) (fun p hp => ⟨_, rfl, by
    have e1 : dSubs (nL l) (.int (((a : Int) + p) % 60)) = .ok (nI (dN l ((a + p) % 60))) := dN_at hl (by omega) (by omega)
    simp [q_mod, e1]⟩)
  simp [hb, hf, rngD_nat, h, hidI]
/-- tellings, books -/
abbrev Tl := Nat × Nat × Int
def tlD (t : Tl) : PyData := .tuple [nI t.1, nI t.2.1, .int t.2.2]
abbrev tsD (ts : List Tl) : PyData := .tuple (ts.map tlD)
def bkD (n : Nat) (ts : List Tl) : PyData := .tuple [nI n, tsD ts]
def sumI (h : List Int) (a b : Nat) : Int := ((h.drop a).take (b - a)).sum
def bookT (l : List Nat) (n : Nat) (wrong : Bool) (t : Nat) : Tl :=
  let s := dN l (3 + 3 * t) % n
  let e := s + 1 + dN l (4 + 3 * t) % (n - s)
  (s, e, sumI (hidI l 40 n) s e + (if wrong && decide (dN l (5 + 3 * t) % 7 = 0) then 1 else 0))
def bookN (l : List Nat) (most : Nat) : Nat := 1 + dN l 0 % most
def bookL (l : List Nat) (most : Nat) (wrong : Bool) : List Tl := (List.range (dN l 1 % 11)).map (bookT l (bookN l most) wrong)
theorem sum_bound : ∀ (l : List Int), (∀ x ∈ l, -4 ≤ x ∧ x ≤ 4) → -4 * (l.length : Int) ≤ l.sum ∧ l.sum ≤ 4 * (l.length : Int)
  | [], _ => by simp
  | x :: l, h => by
    have h1 := h x (List.mem_cons_self ..)
    have h2 := sum_bound l fun y hy => h y (List.mem_cons_of_mem _ hy)
    rw [List.sum_cons, List.length_cons]
    omega
theorem bookT_ok (l : List Nat) (n : Nat) (wrong : Bool) (t : Nat) (hn : 1 ≤ n) (hn2 : n ≤ 16) : (bookT l n wrong t).1 < (bookT l n wrong t).2.1 ∧ (bookT l n wrong t).2.1 ≤ n ∧ -9999 ≤ (bookT l n wrong t).2.2 ∧ (bookT l n wrong t).2.2 ≤ 9999 := by
  unfold bookT
  dsimp only
  have hs : dN l (3 + 3 * t) % n < n := Nat.mod_lt _ (by omega)
  generalize dN l (3 + 3 * t) % n = s at *
  have he : dN l (4 + 3 * t) % (n - s) < n - s := Nat.mod_lt _ (by omega)
  generalize dN l (4 + 3 * t) % (n - s) = e at *
  have hb := sum_bound (((hidI l 40 n).drop s).take (s + 1 + e - s)) (fun x hx => hid_mem l 40 n x (List.mem_of_mem_drop (List.mem_of_mem_take hx)))
  have hlen : (((hidI l 40 n).drop s).take (s + 1 + e - s)).length ≤ 16 := by
    rw [List.length_take, List.length_drop, hid_len]
    omega
  unfold sumI
  refine ⟨by omega, by omega, ?_⟩
  split <;> omega
theorem book_eq (ns : List Int) (a most : Nat) (wrong : Bool) (hm : 1 ≤ most) (hm2 : most ≤ 16) : g__law_book [scrD ns, .int a, .int most, .bool wrong] = .ok (bkD (bookN (rowN ns a) most) (bookL (rowN ns a) most wrong)) := by
  refine fn_rt rfl ?_
  have hrow := rowN_eq ns a
  have hl := rowN_len ns a
  unfold bookL
  revert hrow hl
  generalize rowN ns a = l
  intro hrow hl
  have d0 : dSubs (nL l) (.int 0) = .ok (nI (dN l 0)) := dN_at hl rfl (by omega)
  have d1 : dSubs (nL l) (.int 1) = .ok (nI (dN l 1)) := dN_at hl rfl (by omega)
  have m0 : dMod (nI (dN l 0)) (.int most) = .ok (nI (dN l 0 % most)) := q_modN (by omega)
  have m1 : dMod (nI (dN l 1)) (.int 11) = .ok (nI (dN l 1 % 11)) := q_modN (b := 11) (by omega)
  have hn : (1 : Int) + (dN l 0 % most : Nat) = (bookN l most : Nat) := by unfold bookN; omega
  have hn2 : bookN l most ≤ 16 := by
    have : dN l 0 % most < most := Nat.mod_lt _ (by omega)
    unfold bookN; omega
  have hn1 : 1 ≤ bookN l most := by unfold bookN; omega
  have hk : dN l 1 % 11 < 11 := Nat.mod_lt _ (by omega)
  revert m0 m1 hn hn2 hn1 hk
  generalize dN l 0 % most = r0
  generalize dN l 1 % 11 = r1
  generalize bookN l most = n
  intro m0 m1 hn hn2 hn1 hk
  have hhid := hid_eq hl 40 n (by omega)
  have hhid : g__law_hidden [nL l, .int 40, nI n] = .ok (iL (hidI l 40 n)) := hhid
  have hlp := forL_pre (t := tgName 8) (fb := p1__law_book) (fun f : List Tl => [Sl.va (scrD ns), .va (.int a), .va (.int most), .va (.bool wrong), .va (nL l), .va (nI n), .va (iL (hidI l 40 n)), .ow (.list (f.map tlD)), .no, .no, .no, .no]) nI (fun f t => f ++ [bookT l n wrong t]) (List.range r1) [] (fun pre t post hp => ⟨_, rfl, by
    have hpl : pre.length ≤ 11 := by
      have := congrArg List.length hp
      simp at this
      omega
    have ht : t < r1 := by
      have : t ∈ List.range r1 := by rw [hp]; simp
      exact List.mem_range.1 this
    have hfl : ∀ (p : List Nat) (f : List Tl), (p.foldl (fun f t => f ++ [bookT l n wrong t]) f).length = f.length + p.length := by
      intro p
      induction p with
      | nil => intro f; rfl
      | cons x p ih =>
        intro f
        rw [List.foldl_cons, ih]
        simp
        omega
    have hf := hfl pre []
    revert hf
    generalize pre.foldl (fun f t => f ++ [bookT l n wrong t]) [] = f
    intro hf
    have hff : fits (f.length + 1) = true := fits_of (by simp at hf; omega)
    have x1 : dMul (.int 3) (nI t) = .ok (.int (3 * t)) := q_mul (by omega)
    have e3 : dSubs (nL l) (.int (3 + 3 * (t : Int))) = .ok (nI (dN l (3 + 3 * t))) := dN_at hl (by omega) (by omega)
    have e4 : dSubs (nL l) (.int (4 + 3 * (t : Int))) = .ok (nI (dN l (4 + 3 * t))) := dN_at hl (by omega) (by omega)
    have e5 : dSubs (nL l) (.int (5 + 3 * (t : Int))) = .ok (nI (dN l (5 + 3 * t))) := dN_at hl (by omega) (by omega)
    have hb := bookT_ok l n wrong t hn1 hn2
    unfold bookT at hb ⊢
    dsimp only at hb ⊢
    have g3 : dMod (nI (dN l (3 + 3 * t))) (nI n) = .ok (nI (dN l (3 + 3 * t) % n)) := q_modN (by omega)
    have hs : dN l (3 + 3 * t) % n < n := Nat.mod_lt _ (by omega)
    revert g3 hs hb
    generalize dN l (3 + 3 * t) % n = s
    intro hb g3 hs
    have g4 : dMod (nI (dN l (4 + 3 * t))) (.int ((n : Int) - s)) = .ok (nI (dN l (4 + 3 * t) % (n - s))) := by
      rw [show ((n : Int) - s) = ((n - s : Nat) : Int) by omega]
      exact q_modN (by omega)
    have he : dN l (4 + 3 * t) % (n - s) < n - s := Nat.mod_lt _ (by omega)
    revert g4 he hb
    generalize dN l (4 + 3 * t) % (n - s) = e
    intro hb g4 he
    have g5 : dMod (nI (dN l (5 + 3 * t))) (.int 7) = .ok (nI (dN l (5 + 3 * t) % 7)) := q_modN (b := 7) (by omega)
    have hsl : dSlice (iL (hidI l 40 n)) (some (s : Int)) (some ((s : Int) + 1 + e)) = .ok (iL (((hidI l 40 n).drop s).take (s + 1 + e - s))) := by
      have := cut_mid ((hidI l 40 n).map .int) s (s + 1 + e) (by omega) (by rw [List.length_map, hid_len]; omega)
      rw [← List.map_drop, ← List.map_take] at this
      exact congrArg (fun z => Re.ok (PyData.list z)) this
    have hsum : gSum [iL (((hidI l 40 n).drop s).take (s + 1 + e - s))] = .ok (.int (sumI (hidI l 40 n) s (s + 1 + e))) := by
      show (match intsOf _ with | some ns => _ | none => _) = _
      rw [intsOf_map]
      rfl
    revert g5
    generalize dN l (5 + 3 * t) % 7 = r5
    intro g5
    have f3 : fits 3 = true := by decide
    unfold p1__law_book
    cases wrong with
    | false => simp [x1, e3, e4, g3, g4, hsl, hsum, gInt, f3, hff, tlD]
    | true => 
      by_cases h5 : r5 = 0
      · subst h5
        simp [x1, e3, e4, e5, g3, g4, g5, hsl, hsum, gInt, f3, hff, tlD]
      · have h5' : ¬ ((r5 : Int) = 0) := by omega
        simp [x1, e3, e4, e5, g3, g4, g5, hsl, hsum, gInt, f3, hff, tlD, h5, h5']⟩)
  have hfo : ∀ (p : List Nat) (f : List Tl), p.foldl (fun f t => f ++ [bookT l n wrong t]) f = f ++ p.map (bookT l n wrong) := by
    intro p
    induction p with
    | nil => intro f; simp
    | cons x p ih => intro f; rw [List.foldl_cons, ih, List.map_cons]; simp
  rw [hfo, List.nil_append] at hlp
  rw [List.map_nil] at hlp
  have f0 : fits 0 = true := by decide
  have f2 : fits 2 = true := by decide
  have hb1 : bigB (r1 : Int) = true := bigB_of (by omega) (by omega)
  unfold f__law_book
  simp [hrow, d0, d1, m0, m1, hn, hhid, f0, f2, hb1, rngD_nat, hlp, dTuple, bkD, -List.map_map]
/-! ### whether a thing is a book -/
def inB (d : PyData) (lo hi : Int) : Bool := match d with
  | .int i => decide (lo ≤ i) && decide (i ≤ hi)
  | _ => false
def tellB (n : Int) (d : PyData) : Bool := match d with
  | .tuple [.int a, b, c] => inB (.int a) 0 (n - 1) && (inB b (a + 1) n && inB c (-9999) 9999)
  | _ => false
def bookB (d : PyData) : Bool := match d with
  | .tuple [.int n, .tuple ts] => inB (.int n) 1 16 && (decide (ts.length ≤ 24) && ts.all (tellB n))
  | _ => false
theorem within_eq (d : PyData) (lo hi : Int) (h : noD d = true) : g_is_within [d, .int lo, .int hi] = .ok (.bool (inB d lo hi)) := by
  refine fn_rt rfl ?_
  unfold f_is_within
  cases d <;> first | (simp [noD] at h; done) | simp [dIsi, isTy, inB]
theorem tell_eq (n : Int) (d : PyData) (h : noD d = true) : g_is_telling [.int n, d] = .ok (.bool (tellB n d)) := by
  refine fn_rt rfl ?_
  unfold f_is_telling
  cases d with
  | tuple xs =>
    rw [noD] at h
    by_cases hl : xs.length = 3
    · match xs, hl with
      | [a, b, c], _ =>
        have ha : noD a = true := noDs_mem h a (by simp)
        have hb : noD b = true := noDs_mem h b (by simp)
        have hc : noD c = true := noDs_mem h c (by simp)
        by_cases h1 : inB a 0 (n - 1) = true
        · cases a with
          | int i =>
            cases hh : inB b (i + 1) n <;> simp [dIsi, isTy, within_eq, ha, hb, hc, h1, tellB, hh]
          | _ => simp [inB] at h1
        · have h1 : inB a 0 (n - 1) = false := by simpa using h1
          have : tellB n (.tuple [a, b, c]) = false := by
            cases a <;> simp [tellB, h1]
          simp [dIsi, isTy, within_eq, ha, h1, this]
    · have h3 : ¬ ((xs.length : Int) = 3) := by omega
      have : tellB n (.tuple xs) = false := by
        unfold tellB
        split
        · rename_i e
          cases e
          exact absurd rfl hl
        · rfl
      simp [dIsi, isTy, h3, this]
  | dict _ => simp [noD] at h
  | _ => simp [dIsi, isTy, tellB]
theorem isbook_eq (d : PyData) (h : noD d = true) : g_is_book [d] = .ok (.bool (bookB d)) := by
  refine fn_rt rfl ?_
  unfold f_is_book
  cases d with
  | tuple xs =>
    rw [noD] at h
    by_cases hl : xs.length = 2
    · match xs, hl with
      | [a, b], _ =>
        have ha : noD a = true := noDs_mem h a (by simp)
        have hb : noD b = true := noDs_mem h b (by simp)
        by_cases h1 : inB a 1 16 = true
        · cases a with
          | int n =>
            cases b with
            | tuple ts =>
              by_cases h2 : ts.length ≤ 24
              · have h2' : ¬ ((24 : Int) < ts.length) := by omega
                rw [noD] at hb
                have hlc := lc_map (t := tgName 1) (gc := bNot (bTru (eCall g_is_telling (aCons (e2 dSubs (eLook 0) (eC (.int 0))) (aCons (eVar 1) aNil))))) (fe := eVar 1) (ρ := [.va (.tuple [.int n, .tuple ts]), .no]) id (fun x => !tellB n x) id ts (fun x hx => ⟨_, rfl, by simp [tell_eq, noDs_mem hb x hx], fun _ => by simp⟩)
                rw [List.map_id] at hlc
                have hf : fits ts.length = true := fits_of (by omega)
                have he : (List.filter (fun x => !tellB n x) ts).isEmpty = ts.all (tellB n) := by
                  rw [Bool.eq_iff_iff, List.isEmpty_iff, List.filter_eq_nil_iff, List.all_eq_true]
                  simp
                simp [dIsi, isTy, within_eq, ha, h1, h2, h2', hf, hlc, bookB, ← he]
              · have h2' : (24 : Int) < ts.length := by omega
                simp [dIsi, isTy, within_eq, ha, h1, h2, h2', bookB]
            | dict _ => simp [noD] at hb
            | _ => simp [dIsi, isTy, within_eq, ha, h1, bookB]
          | _ => simp [inB] at h1
        · have h1 : inB a 1 16 = false := by simpa using h1
          have : bookB (.tuple [a, b]) = false := by
            cases a <;> cases b <;> simp [bookB, h1]
          simp [dIsi, isTy, within_eq, ha, h1, this]
    · have h3 : ¬ ((xs.length : Int) = 2) := by omega
      have : bookB (.tuple xs) = false := by
        unfold bookB
        split
        · rename_i e
          cases e
          exact absurd rfl hl
        · rfl
      simp [dIsi, isTy, h3, this]
  | dict _ => simp [noD] at h
  | _ => simp [dIsi, isTy, bookB]
theorem look_yes {d : PyData} (h : noD d = true) (hb : bookB d = true) : g_look [d] = .ok .none := by
  refine fn_nx (ρ := [.va d]) rfl ?_
  unfold f_look
  simp [isbook_eq, h, hb]
theorem look_no {d : PyData} (h : noD d = true) (hb : bookB d = false) : g_look [d] = .ex (.ref C_BadBook) none := by
  refine fn_ex (ρ := [.va d]) rfl ?_
  unfold f_look
  simp [isbook_eq, h, hb]
theorem law_in_eq (d : PyData) (lo hi : Int) (h : noD d = true) : g__law_in [d, .int lo, .int hi] = .ok (.bool (inB d lo hi)) := by
  have hw : g__law_whole [d] = .ok (.bool (isTy .int d && !isTy .bool d)) := by
    refine fn_rt rfl ?_
    unfold f__law_whole
    cases d <;> first | (simp [noD] at h; done) | simp [dIsi, isTy]
  refine fn_rt rfl ?_
  unfold f__law_in
  cases d <;> first | (simp [noD] at h; done) | simp [hw, isTy, inB]
theorem law_tell_eq (n : Int) (d : PyData) (h : noD d = true) : g__law_is_telling [.int n, d] = .ok (.bool (tellB n d)) := by
  refine fn_rt rfl ?_
  unfold f__law_is_telling
  cases d with
  | tuple xs =>
    rw [noD] at h
    by_cases hl : xs.length = 3
    · match xs, hl with
      | [a, b, c], _ =>
        have ha : noD a = true := noDs_mem h a (by simp)
        have hb : noD b = true := noDs_mem h b (by simp)
        have hc : noD c = true := noDs_mem h c (by simp)
        by_cases h1 : inB a 0 (n - 1) = true
        · cases a with
          | int i =>
            cases hh : inB b (i + 1) n <;> simp [dIsi, isTy, law_in_eq, ha, hb, hc, h1, tellB, hh]
          | _ => simp [inB] at h1
        · have h1 : inB a 0 (n - 1) = false := by simpa using h1
          have : tellB n (.tuple [a, b, c]) = false := by
            cases a <;> simp [tellB, h1]
          simp [dIsi, isTy, law_in_eq, ha, h1, this]
    · have h3 : ¬ ((xs.length : Int) = 3) := by omega
      have : tellB n (.tuple xs) = false := by
        unfold tellB
        split
        · rename_i e
          cases e
          exact absurd rfl hl
        · rfl
      simp [dIsi, isTy, h3, this]
  | dict _ => simp [noD] at h
  | _ => simp [dIsi, isTy, tellB]
theorem eqv_nil (xs : List PyData) : PyData.eqv (.list xs) (.list []) = xs.isEmpty := by
  cases xs <;> simp [PyData.eqv, PyData.eqvAll]
theorem shp_mono : ∀ (n : Nat) (d : PyData), shp n d = true → shp (n + 1) d = true
  | n, .none, _ => by cases n <;> rfl
  | n, .bool _, _ => by cases n <;> rfl
  | n, .int _, _ => by cases n <;> rfl
  | n, .str x, h => by cases n <;> exact h
  | 0, .list xs, h => by simp [shp] at h
  | 0, .tuple xs, h => by simp [shp] at h
  | n + 1, .list xs, h => by
    rw [shp, List.all_eq_true] at h ⊢
    exact fun x hx => shp_mono n x (h x hx)
  | n + 1, .tuple xs, h => by
    rw [shp, List.all_eq_true] at h ⊢
    exact fun x hx => shp_mono n x (h x hx)
  | 0, .dict _, h => by simp [shp] at h
  | n + 1, .dict _, h => by simp [shp] at h
theorem law_isbook_eq (d : PyData) (h : noD d = true) (hs : shp 7 d = true) : g__law_is_book [d] = .ok (.bool (bookB d)) := by
  refine fn_rt rfl ?_
  unfold f__law_is_book
  cases d with
  | tuple xs =>
    rw [noD] at h
    by_cases hl : xs.length = 2
    · match xs, hl with
      | [a, b], _ =>
        have ha : noD a = true := noDs_mem h a (by simp)
        have hb : noD b = true := noDs_mem h b (by simp)
        by_cases h1 : inB a 1 16 = true
        · cases a with
          | int n =>
            cases b with
            | tuple ts =>
              by_cases h2 : ts.length ≤ 24
              · have h2' : ((ts.length : Int) ≤ 24) := by omega
                rw [noD] at hb
                have hlc := lc_map (t := tgName 1) (gc := bNot (bTru (eCall g__law_is_telling (aCons (e2 dSubs (eLook 0) (eC (.int 0))) (aCons (eVar 1) aNil))))) (fe := eVar 1) (ρ := [.va (.tuple [.int n, .tuple ts]), .no]) id (fun x => !tellB n x) id ts (fun x hx => ⟨_, rfl, by simp [law_tell_eq, noDs_mem hb x hx], fun _ => by simp⟩)
                rw [List.map_id, List.map_id] at hlc
                have hf : fits ts.length = true := fits_of (by omega)
                have f0 : fits 0 = true := by decide
                have he : (List.filter (fun x => !tellB n x) ts).isEmpty = ts.all (tellB n) := by
                  rw [Bool.eq_iff_iff, List.isEmpty_iff, List.filter_eq_nil_iff, List.all_eq_true]
                  simp
                have hsh : shp 8 (.list (List.filter (fun x => !tellB n x) ts)) = true := by
                  rw [shp, List.all_eq_true]
                  intro x hx
                  have hx := (List.mem_filter.1 hx).1
                  rw [shp] at hs
                  have := List.all_eq_true.1 hs (.tuple ts) (by simp)
                  rw [shp] at this
                  exact shp_mono 6 x (shp_mono 5 x (List.all_eq_true.1 this x hx))
                have hdeq : dEq (.list (List.filter (fun x => !tellB n x) ts)) (.list []) = .ok (.bool (ts.all (tellB n))) := by
                  unfold dEq
                  rw [hsh, eqv_nil, he]
                  rfl
                simp [dIsi, isTy, law_in_eq, ha, h1, h2, h2', hf, f0, hlc, bookB, hdeq]
              · have h2' : ¬ ((ts.length : Int) ≤ 24) := by omega
                simp [dIsi, isTy, law_in_eq, ha, h1, h2, h2', bookB]
            | dict _ => simp [noD] at hb
            | _ => simp [dIsi, isTy, law_in_eq, ha, h1, bookB]
          | _ => simp [inB] at h1
        · have h1 : inB a 1 16 = false := by simpa using h1
          have : bookB (.tuple [a, b]) = false := by
            cases a <;> cases b <;> simp [bookB, h1]
          simp [dIsi, isTy, law_in_eq, ha, h1, this]
    · have h3 : ¬ ((xs.length : Int) = 2) := by omega
      have : bookB (.tuple xs) = false := by
        unfold bookB
        split
        · rename_i e
          cases e
          exact absurd rfl hl
        · rfl
      simp [dIsi, isTy, h3, this]
  | dict _ => simp [noD] at h
  | _ => simp [dIsi, isTy, bookB]
theorem word_eq (d : PyData) (k : Nat) (h : noD d = true) (hb : bookB d = false) : g__law_book_word [nI k, d] = .ok (.str "book") := by
  have hl := look_no h hb
  have hx : ∀ {n L : Nat} {f : En → SR} {ds : List PyData}, ds.length = n → (f (ds.map .va ++ List.replicate (L - n) .no)) = .ex (.ref C_BadBook) none (ds.map .va ++ List.replicate (L - n) .no) → fnD n L f ds = .ex (.ref C_BadBook) none := fun h1 h2 => fn_ex h1 h2
  have w0 : g_with_telling [d, .none] = .ex (.ref C_BadBook) none := hx rfl (by unfold f_with_telling; simp [hl])
  have w1 : g_is_true [d] = .ex (.ref C_BadBook) none := hx rfl (by unfold f_is_true; simp [hl])
  have w2 : g_chain [d, .none, .none] = .ex (.ref C_BadBook) none := hx rfl (by unfold f_chain; simp [hl])
  have w3' : g_look_true [d] = .ex (.ref C_BadBook) none := hx rfl (by unfold f_look_true; simp [hl])
  have w3 : g_row [d] = .ex (.ref C_BadBook) none := hx rfl (by unfold f_row; simp [w3'])
  have w4 : g_ring [d] = .ex (.ref C_BadBook) none := hx rfl (by unfold f_ring; simp [hl])
  have w5' : g_look_prices [d, .none] = .ex (.ref C_BadBook) none := hx rfl (by unfold f_look_prices; simp [hl])
  have w5 : g_cheapest [d, .none] = .ex (.ref C_BadBook) none := hx rfl (by unfold f_cheapest; simp [w5'])
  have w6' : g_look_bounds [d, .none, .none] = .ex (.ref C_BadBook) none := hx rfl (by unfold f_look_bounds; simp [hl])
  have w6'' : g_look_both [d, .none, .none, .none, .none] = .ex (.ref C_BadBook) none := hx rfl (by unfold f_look_both; simp [w6'])
  have w6 : g_greatest [d, .none, .none, .none, .none] = .ex (.ref C_BadBook) none := hx rfl (by unfold f_greatest; simp [w6''])
  have w7 : g_book_text [d] = .ex (.ref C_BadBook) none := hx rfl (by unfold f_book_text; simp [hl])
  refine fn_rt rfl ?_
  have hh : ∀ ρ : En, 2 < ρ.length → tryH cT C_BadBook none ρ [⟨C_BadBook, some 2, hRet cT C_StretchError (some C_NotTrue) (.str "book") (.str "other")⟩] = .rt (.str "book") := by
    intro ρ hρ
    rw [tryH_yes rfl hρ, hRet_eq (b := true) rfl]
    rfl
  unfold f__law_book_word
  by_cases k0 : (k : Int) = 0
  · simp [k0, w0, hh]
  by_cases k1 : (k : Int) = 1
  · simp [k1, w1, hh]
  by_cases k2 : (k : Int) = 2
  · simp [k2, w2, hh]
  by_cases k3 : (k : Int) = 3
  · simp [k3, w3, hh]
  by_cases k4 : (k : Int) = 4
  · simp [k4, w4, hh]
  by_cases k5 : (k : Int) = 5
  · simp [k5, w5, hh]
  by_cases k6 : (k : Int) = 6
  · simp [k6, w6, hh]
  have k0' : ¬ k = 0 := by omega
  simp [k0', k1, k2, k3, k4, k5, k6, w7, hh]
theorem bookB_shape {d : PyData} (h : bookB d = true) : ∃ (n : Int) (ts : List PyData), d = .tuple [.int n, .tuple ts] ∧ 1 ≤ n ∧ n ≤ 16 ∧ ts.length ≤ 24 ∧ ts.all (tellB n) = true := by
  unfold bookB at h
  split at h
  · rename_i n ts
    simp [inB] at h
    exact ⟨n, ts, rfl, h.1.1, h.1.2, h.2.1, by simpa using h.2.2⟩
  · cases h
theorem tellB_shp {n : Int} {d : PyData} (h : tellB n d = true) (hn : noD d = true) : shp 1 d = true := by
  unfold tellB at h
  split at h
  · rename_i a b c
    simp only [Bool.and_eq_true] at h
    cases b <;> cases c <;> first | rfl | (simp [inB] at h)
  · cases h
theorem told_eq (mode : Nat) (d x : PyData) (n : Int) (ts : List PyData) (hd : d = .tuple [.int n, .tuple ts]) (h : noD d = true) (hb : bookB d = true) (hx : noD x = true) (hm : mode = 0) : g__law_turned_told [nI mode, d, x] = .ok (if tellB n x = true ∧ ts.length < 24 then .tuple [.int n, .tuple (ts ++ [x])] else .str "number") := by
  have hl := look_yes h hb
  obtain ⟨n', ts', e, _, _, h24, _⟩ := bookB_shape hb
  rw [hd] at e
  cases e
  refine fn_rt rfl ?_
  have hh : ∀ ρ : En, 3 < ρ.length → tryH cT C_BadNumber none ρ [⟨C_BadNumber, some 3, hRet cT C_StretchError (some C_BadBook) (.str "number") (.str "other")⟩] = .rt (.str "number") := by
    intro ρ hρ
    rw [tryH_yes rfl hρ, hRet_eq (b := true) rfl]
    rfl
  have f2 : fits 2 = true := by decide
  have f1 : fits 1 = true := by decide
  have fl : fits (ts.length + 1) = true := fits_of (by omega)
  have hadd : dAdd (.tuple ts) (.tuple [x]) = .ok (.tuple (ts ++ [x])) := by
    show (if fits (ts.length + 1) = true then _ else _) = _
    rw [if_pos fl]
  subst hm
  by_cases hc : tellB n x = true ∧ ts.length < 24
  · rw [if_pos hc]
    have h24' : ¬ ((ts.length : Int) = 24) := by omega
    have hw : g_with_telling [d, x] = .ok (.tuple [.int n, .tuple (ts ++ [x])]) := by
      subst hd
      refine fn_rt rfl ?_
      unfold f_with_telling
      simp [hl, tell_eq, hx, hc.1, h24', f1, f2, hadd]
    unfold f__law_turned_told
    simp [hw]
  · rw [if_neg hc]
    have hw : g_with_telling [d, x] = .ex (.ref C_BadNumber) none := by
      subst hd
      refine fn_ex rfl (ρ := [.va (.tuple [.int n, .tuple ts]), .va x]) ?_
      unfold f_with_telling
      cases ht : tellB n x with
      | false => simp [hl, tell_eq, hx, ht]
      | true =>
        have h24' : ((ts.length : Int) = 24) := by
          have : ¬ (ts.length < 24) := fun z => hc ⟨ht, z⟩
          omega
        simp [hl, tell_eq, hx, ht, h24']
    unfold f__law_turned_told
    simp [hw, hh]
theorem less_eq (d x : PyData) (n : Int) (ts : List PyData) (hd : d = .tuple [.int n, .tuple ts]) (h : noD d = true) (hb : bookB d = true) (hx : noD x = true) : (∃ r, g__law_turned_told [.int 1, d, x] = .ok r ∧ shp 8 r = true ∧ (inB x 0 ((ts.length : Int) - 1) = true → g__law_less [d, x] = .ok r) ∧ (inB x 0 ((ts.length : Int) - 1) = false → r = .str "number")) := by
  have hl := look_yes h hb
  have hh : ∀ ρ : En, 3 < ρ.length → tryH cT C_BadNumber none ρ [⟨C_BadNumber, some 3, hRet cT C_StretchError (some C_BadBook) (.str "number") (.str "other")⟩] = .rt (.str "number") := by
    intro ρ hρ
    rw [tryH_yes rfl hρ, hRet_eq (b := true) rfl]
    rfl
  obtain ⟨n', ts', e, _, _, h24, hall⟩ := bookB_shape hb
  rw [hd] at e
  cases e
  cases hi : inB x 0 ((ts.length : Int) - 1) with
  | false =>
    refine ⟨.str "number", ?_, by decide +kernel, fun z => (by cases z), fun _ => rfl⟩
    have hw : g_without [d, x] = .ex (.ref C_BadNumber) none := by
      have : g_look_number [d, x] = .ex (.ref C_BadNumber) none := by
        subst hd
        refine fn_ex rfl (ρ := [.va (.tuple [.int n, .tuple ts]), .va x]) ?_
        unfold f_look_number
        simp [within_eq, hx, hi]
      refine fn_ex rfl (ρ := [.va d, .va x]) ?_
      unfold f_without
      simp [hl, this]
    refine fn_rt rfl ?_
    unfold f__law_turned_told
    simp [hw, hh]
  | true =>
    have hx' := hi
    unfold inB at hx'
    split at hx'
    · rename_i i
      simp only [Bool.and_eq_true, decide_eq_true_eq] at hx'
      obtain ⟨k, rfl⟩ := Int.eq_ofNat_of_zero_le hx'.1
      have s1 : dSlice (.tuple ts) none (some (k : Int)) = .ok (.tuple (ts.take k)) := congrArg (fun z => Re.ok (PyData.tuple z)) (cut_to ts k)
      have s2 : dSlice (.tuple ts) (some ((k : Int) + 1)) none = .ok (.tuple (ts.drop (k + 1))) := congrArg (fun z => Re.ok (PyData.tuple z)) (cut_from ts (k + 1))
      have f2 : fits 2 = true := by decide
      have hadd : dAdd (.tuple (ts.take k)) (.tuple (ts.drop (k + 1))) = .ok (.tuple (ts.take k ++ ts.drop (k + 1))) := by
        show (if fits ((ts.take k).length + (ts.drop (k + 1)).length) = true then _ else _) = _
        rw [if_pos (fits_of (by rw [List.length_take, List.length_drop]; omega))]
      have hless : g__law_less [d, .int k] = .ok (.tuple [.int n, .tuple (ts.take k ++ ts.drop (k + 1))]) := by
        subst hd
        refine fn_rt rfl ?_
        unfold f__law_less
        simp [s1, s2, hadd, f2]
      have hof : g_without_of [d, .int k] = .ok (.tuple [.int n, .tuple (ts.take k ++ ts.drop (k + 1))]) := by
        subst hd
        refine fn_rt rfl ?_
        unfold f_without_of
        simp [s1, s2, hadd, f2]
      have hw : g_without [d, .int k] = .ok (.tuple [.int n, .tuple (ts.take k ++ ts.drop (k + 1))]) := by
        have : g_look_number [d, .int k] = .ok .none := by
          subst hd
          refine fn_nx rfl (ρ := [.va (.tuple [.int n, .tuple ts]), .va (.int k)]) ?_
          unfold f_look_number
          simp [within_eq, hx, hi]
        refine fn_rt rfl ?_
        unfold f_without
        simp [hl, this, hof]
      refine ⟨_, ?_, ?_, fun _ => hless, fun z => by cases z⟩
      · refine fn_rt rfl ?_
        unfold f__law_turned_told
        simp [hw]
      · have hnd : noDs ts = true := by
          subst hd
          simp [noD, noDs] at h
          exact h
        rw [shp, List.all_eq_true]
        intro y hy
        simp at hy
        rcases hy with rfl | rfl
        · rfl
        · rw [shp, List.all_eq_true]
          intro z hz
          have hz : z ∈ ts := by
            rcases List.mem_append.1 hz with hz | hz
            · exact List.mem_of_mem_take hz
            · exact List.mem_of_mem_drop hz
          have := tellB_shp (List.all_eq_true.1 hall z hz) (noDs_mem hnd z hz)
          exact shp_mono 5 z (shp_mono 4 z (shp_mono 3 z (shp_mono 2 z (shp_mono 1 z this))))
    · cases hx'
theorem pick (ds : List PyData) (k : Nat) (h : k < ds.length) : ∃ d, d ∈ ds ∧ dSubs (.list ds) (nI k) = .ok d := ⟨ds[k], List.getElem_mem h, q_atL (List.getElem?_eq_getElem h)⟩
theorem eqv_refl_aux : ∀ (n : Nat) (d : PyData), shp n d = true → PyData.eqv d d = true
  | n, .none, _ => by simp [PyData.eqv]
  | n, .bool _, _ => by simp [PyData.eqv]
  | n, .int _, _ => by simp [PyData.eqv]
  | n, .str x, h => by simp [PyData.eqv]
  | 0, .list xs, h => by simp [shp] at h
  | 0, .tuple xs, h => by simp [shp] at h
  | n + 1, .list xs, h => by
    rw [PyData.eqv]
    rw [shp, List.all_eq_true] at h
    induction xs with
    | nil => simp [PyData.eqvAll]
    | cons x xs ih =>
      rw [PyData.eqvAll, Bool.and_eq_true]
      exact ⟨eqv_refl_aux n x (h x (by simp)), ih fun y hy => h y (by simp [hy])⟩
  | n + 1, .tuple xs, h => by
    rw [PyData.eqv]
    rw [shp, List.all_eq_true] at h
    induction xs with
    | nil => simp [PyData.eqvAll]
    | cons x xs ih =>
      rw [PyData.eqvAll, Bool.and_eq_true]
      exact ⟨eqv_refl_aux n x (h x (by simp)), ih fun y hy => h y (by simp [hy])⟩
  | 0, .dict _, h => by simp [shp] at h
  | n + 1, .dict _, h => by simp [shp] at h
theorem q_eq_same {d : PyData} (h : shp 8 d = true) : dEq d d = .ok (.bool true) := by
  unfold dEq
  rw [h, eqv_refl_aux 8 d h]
  rfl
theorem q_ne_same {d : PyData} (h : shp 8 d = true) : dNe d d = .ok (.bool false) := by
  unfold dNe
  rw [h, eqv_refl_aux 8 d h]
  rfl
theorem noDs_of : ∀ {xs : List PyData}, (∀ x ∈ xs, noD x = true) → noDs xs = true
  | [], _ => rfl
  | x :: xs, h => by
    rw [noDs, Bool.and_eq_true]
    exact ⟨h x (by simp), noDs_of fun y hy => h y (by simp [hy])⟩
theorem tsD_ok (ts : List Tl) : (∀ x ∈ ts.map tlD, noD x = true) ∧ ∀ x ∈ ts.map tlD, shp 1 x = true := by
  constructor <;>
  · intro x hx
    obtain ⟨t, _, rfl⟩ := List.mem_map.1 hx
    rfl
/-- all that stands behind the choice of the thing -/
theorem law_rest (sc d m tl : PyData) (l : List Nat) (hl : l.length = 60) (h : noD d = true) (hs : shp 4 d = true) :
    t4_law [.va sc, .va (nL l), .va d, .va m, .va tl, .no, .no, .no, .no, .no, .no] = .rt (.bool true) := by
  have h7 : shp 7 d = true := shp_mono 6 d (shp_mono 5 d (shp_mono 4 d hs))
  have h8 := shp_mono 7 d h7
  unfold t4_law
  simp [isbook_eq, law_isbook_eq, h, h7]
  unfold t5_law
  cases hb : bookB d with
  | false =>
    have hlc := lc_map1 (t := tgName 10) (fe := eCall g__law_book_word (aCons (eVar 10) (aCons (eVar 2) aNil))) (ρ := [.va sc, .va (nL l), .va d, .va m, .va tl, .no, .no, .no, .no, .no, .no]) nI (fun _ => .str "book") (List.range 8) (fun k hk => ⟨_, rfl, by simp [word_eq, h, hb]⟩)
    have hb8 : bigB 8 = true := by decide
    have f8 : fits 8 = true := by decide
    have f1 : fits 1 = true := by decide
    have hm : dMul (.list [.str "book"]) (.int 8) = .ok (.list ((List.range 8).map fun _ => .str "book")) := by rfl
    have he : dEq (.list ((List.range 8).map fun _ => PyData.str "book")) (.list ((List.range 8).map fun _ => .str "book")) = .ok (.bool true) := q_eq_same (by decide +kernel)
    simp [law_isbook_eq, h, h7, hb, hb8, f8, f1, rngD_nat, -List.map_const_fun]
    rw [hlc, hm]
    simp only [Re.bind_ok, he, SR.of_ok, thn_rt]
  | true =>
    obtain ⟨n, ts, hd, hn1, hn2, h24, hall⟩ := bookB_shape hb
    simp [law_isbook_eq, h, h7, hb]
    have i3 : dSubs (nL l) (.int 3) = .ok (nI (dN l 3)) := dN_at hl rfl (by omega)
    have i4 : dSubs (nL l) (.int 4) = .ok (nI (dN l 4)) := dN_at hl rfl (by omega)
    have m3 : dMod (nI (dN l 3)) (.int 6) = .ok (nI (dN l 3 % 6)) := q_modN (b := 6) (by omega)
    have m4 : dMod (nI (dN l 4)) (.int 5) = .ok (nI (dN l 4 % 5)) := q_modN (b := 5) (by omega)
    have b3 : dN l 3 % 6 < 6 := Nat.mod_lt _ (by omega)
    have b4 : dN l 4 % 5 < 5 := Nat.mod_lt _ (by omega)
    revert m3 m4 b3 b4
    generalize dN l 3 % 6 = r3
    generalize dN l 4 % 5 = r4
    intro m3 m4 b3 b4
    have f0 : fits 0 = true := by decide
    have f1 : fits 1 = true := by decide
    have f2 : fits 2 = true := by decide
    have f3 : fits 3 = true := by decide
    have f5 : fits 5 = true := by decide
    have f6 : fits 6 = true := by decide
    obtain ⟨x, hx, ex⟩ := pick [.tuple [.int 0, .int 1, .int 5], .tuple [.int 0, .int n, .int (-9999)], .tuple [.int 0, .int (n + 1), .int 0], .tuple [.int 0, .int 1, .int 10000], .none, .tuple [.int 1, .int 1, .int 0]] r3 b3
    have hxn : noD x = true ∧ shp 1 x = true := by
      simp only [List.mem_cons, List.not_mem_nil, or_false] at hx
      rcases hx with rfl | rfl | rfl | rfl | rfl | rfl <;> exact ⟨rfl, rfl⟩
    obtain ⟨y, hy, ey⟩ := pick [.int 0, .int ((ts.length : Int) - 1), .int ts.length, .int (-1), .none] r4 b4
    have hyn : noD y = true := by
      simp only [List.mem_cons, List.not_mem_nil, or_false] at hy
      rcases hy with rfl | rfl | rfl | rfl | rfl <;> rfl
    have ht := told_eq 0 d x n ts hd h hb hxn.1 rfl
    have ht : g__law_turned_told [.int 0, d, x] = _ := ht
    obtain ⟨r, hr1, hr2, hr3, hr4⟩ := less_eq d y n ts hd h hb hyn
    have hnd : noDs ts = true := by
      subst hd
      simp [noD, noDs] at h
      exact h
    have hts : ∀ z ∈ ts, shp 1 z = true := fun z hz => tellB_shp (List.all_eq_true.1 hall z hz) (noDs_mem hnd z hz)
    have fl : fits (ts.length + 1) = true := fits_of (by omega)
    have hadd : dAdd (.tuple ts) (.tuple [x]) = .ok (.tuple (ts ++ [x])) := by
      show (if fits (ts.length + 1) = true then _ else _) = _
      rw [if_pos fl]
    have hn0 : dSubs d (.int 0) = .ok (.int n) := by rw [hd]; simp
    have hn1' : dSubs d (.int 1) = .ok (.tuple ts) := by rw [hd]; simp
    unfold t6_law t7_law
    simp [hn0, i3, m3, ex, f3, f6]
    unfold t8_law t9_law
    have hnum : shp 8 (.str "number") = true := by decide +kernel
    have last : ∀ w : PyData, t10_law [.va sc, .va (nL l), .va d, .va m, .va tl, .no, .no, .va x, .va w, .no, .no] = .rt (.bool true) := by
      intro w
      cases hi : inB y 0 ((ts.length : Int) - 1) with
      | true => 
        unfold t10_law t11_law t12_law
        simp [hn1', i4, m4, f5, ey, law_in_eq, hyn, hi, hr3 hi, hr1, q_eq_same hr2]
      | false => 
        have := hr4 hi
        subst this
        unfold t10_law t11_law t12_law
        simp [hn1', i4, m4, f5, ey, law_in_eq, hyn, hi, hr1, q_eq_same hr2]
    by_cases hc : tellB n x = true ∧ ts.length < 24
    · rw [if_pos hc] at ht
      have hsh : shp 8 (.tuple [.int n, .tuple (ts ++ [x])]) = true := by
        rw [shp, List.all_eq_true]
        intro y hy
        simp at hy
        rcases hy with rfl | rfl
        · rfl
        · rw [shp, List.all_eq_true]
          intro z hz
          have : shp 1 z = true := by
            rcases List.mem_append.1 hz with hz | hz
            · exact hts z hz
            · rw [List.mem_singleton.1 hz]; exact hxn.2
          exact shp_mono 5 z (shp_mono 4 z (shp_mono 3 z (shp_mono 2 z (shp_mono 1 z this))))
      have hlt : (ts.length : Int) < 24 := by omega
      simp only [q_seq]
      simp [hn0, hn1', law_tell_eq, hxn.1, hc.1, hlt, f1, f2, hadd, ht, q_ne_same hsh]
      exact last (.tuple [.int n, .tuple (ts ++ [x])])
    · rw [if_neg hc] at ht
      have := last (.str "number")
      cases htt : tellB n x with
      | false =>
        simp only [q_seq]
        simp [hn0, hn1', law_tell_eq, hxn.1, htt, ht, q_ne_same hnum]
        exact this
      | true =>
        have hlt : ¬ ((ts.length : Int) < 24) := fun z => hc ⟨htt, by omega⟩
        simp only [q_seq]
        simp [hn0, hn1', law_tell_eq, hxn.1, htt, hlt, ht, q_ne_same hnum]
        exact this
theorem law_true (ns : List Int) (hl : ns.length ≤ 63) : g_law [scrD ns] = .ok (.bool true) := by
  refine fn_rt rfl ?_
  have hrow : g__law_row [scrD ns, .int 4] = .ok (nL (rowN ns 4)) := rowN_eq ns 4
  have hlen := rowN_len ns 4
  have hbook : g__law_book [scrD ns, .int 2, .int 16, .bool true] = .ok (bkD (bookN (rowN ns 2) 16) (bookL (rowN ns 2) 16 true)) := book_eq ns 2 16 true (by omega) (by omega)
  have hN : bookN (rowN ns 2) 16 ≤ 16 := by
    have : dN (rowN ns 2) 0 % 16 < 16 := Nat.mod_lt _ (by omega)
    unfold bookN; omega
  have hL : (bookL (rowN ns 2) 16 true).length ≤ 10 := by
    have : dN (rowN ns 2) 1 % 11 < 11 := Nat.mod_lt _ (by omega)
    unfold bookL
    simp
    omega
  revert hrow hlen hbook hN hL
  generalize rowN ns 4 = l
  generalize bookN (rowN ns 2) 16 = many
  generalize bookL (rowN ns 2) 16 true = ts
  intro hrow hlen hbook hN hL
  have hts := tsD_ok ts
  have hnd : noDs (ts.map tlD) = true := noDs_of hts.1
  have hsh : (ts.map tlD).all (shp 1) = true := List.all_eq_true.2 hts.2
  have hsh2 : (ts.map tlD).all (shp 2) = true := List.all_eq_true.2 fun x hx => shp_mono 1 x (hts.2 x hx)
  have i0 : dSubs (nL l) (.int 0) = .ok (nI (dN l 0)) := dN_at hlen rfl (by omega)
  have i1 : dSubs (nL l) (.int 1) = .ok (nI (dN l 1)) := dN_at hlen rfl (by omega)
  have i2 : dSubs (nL l) (.int 2) = .ok (nI (dN l 2)) := dN_at hlen rfl (by omega)
  have m0 : dMod (nI (dN l 0)) (.int 2) = .ok (nI (dN l 0 % 2)) := q_modN (b := 2) (by omega)
  have m1 : dMod (nI (dN l 1)) (.int 9) = .ok (nI (dN l 1 % 9)) := q_modN (b := 9) (by omega)
  have m2 : dMod (nI (dN l 2)) (.int 13) = .ok (nI (dN l 2 % 13)) := q_modN (b := 13) (by omega)
  have b1 : dN l 1 % 9 < 9 := Nat.mod_lt _ (by omega)
  have b2 : dN l 2 % 13 < 13 := Nat.mod_lt _ (by omega)
  revert m0 m1 m2 b1 b2
  generalize dN l 0 % 2 = r0
  generalize dN l 1 % 9 = r1
  generalize dN l 2 % 13 = r2
  intro m0 m1 m2 b1 b2
  have hfor : noD (bkD many ts) = true ∧ shp 4 (bkD many ts) = true := by
    constructor
    · simp [bkD, noD, noDs, hnd]
    · unfold bkD
      simp only [shp, List.all_cons, List.all_nil, hsh2, Bool.and_true]
  unfold f_law t1_law t2_law
  by_cases h0 : r0 = 0
  · subst h0
    obtain ⟨bent, hb, eb⟩ := pick [.tuple [.int 0, .int 1], .tuple [.int 0, .int 0, .int 1], .tuple [.int 1, .int 0, .int 1], .tuple [.int 0, .int ((many : Int) + 1), .int 1], .tuple [.int 0, .int 1, .int 10000], .tuple [.int 0, .int 1, .none], .list [.int 0, .int 1, .int 1], .tuple [.int 0, .int 1, .bool true], .tuple [.bool true, .int 2, .int 1]] r1 b1
    have hbn : noD bent = true ∧ shp 1 bent = true := by
      simp only [List.mem_cons, List.not_mem_nil, or_false] at hb
      rcases hb with rfl | rfl | rfl | rfl | rfl | rfl | rfl | rfl | rfl <;> exact ⟨rfl, rfl⟩
    have a1 : dAdd (tsD ts) (.tuple [bent]) = .ok (.tuple (ts.map tlD ++ [bent])) := by
      show (if fits ((ts.map tlD).length + 1) = true then _ else _) = _
      rw [if_pos (fits_of (by simp; omega))]
    obtain ⟨x24, u1, n24, z24⟩ : ∃ x, dMul (.tuple [.tuple [.int 0, .int 1, .int 1]]) (.int 24) = .ok x ∧ noD x = true ∧ shp 3 x = true := ⟨.tuple (List.replicate 24 (.tuple [.int 0, .int 1, .int 1])), rfl, rfl, rfl⟩
    obtain ⟨x25, u2, n25, z25⟩ : ∃ x, dMul (.tuple [.tuple [.int 0, .int 1, .int 1]]) (.int 25) = .ok x ∧ noD x = true ∧ shp 3 x = true := ⟨.tuple (List.replicate 25 (.tuple [.int 0, .int 1, .int 1])), rfl, rfl, rfl⟩
    have hq : ts.length ≤ 16777215 := by omega
    obtain ⟨d, hd, ed⟩ := pick ([.none, .tuple [nI many], .list [nI many, tsD ts], .tuple [.int 0, tsD ts], .tuple [.int 17, tsD ts], .tuple [nI many, .list (ts.map tlD)]] ++ [.tuple [nI many, .tuple (ts.map tlD ++ [bent])], .tuple [nI many, x24], .tuple [nI many, x25], .tuple [.int 16, .tuple []]] ++ [.tuple [nI many, .tuple [bent]], .tuple [.bool true, .tuple []], .tuple [nI many, .none]]) r2 (by simpa using b2)
    have hdn : noD d = true ∧ shp 4 d = true := by
      simp only [List.mem_cons, List.not_mem_nil, or_false, List.cons_append, List.nil_append] at hd
      have hap : noDs (ts.map tlD ++ [bent]) = true := noDs_of fun x hx => by
        rcases List.mem_append.1 hx with hx | hx
        · exact hts.1 x hx
        · rw [List.mem_singleton.1 hx]; exact hbn.1
      have hap2 : (ts.map tlD ++ [bent]).all (shp 2) = true := List.all_eq_true.2 fun x hx => by
        rcases List.mem_append.1 hx with hx | hx
        · exact shp_mono 1 x (hts.2 x hx)
        · rw [List.mem_singleton.1 hx]; exact shp_mono 1 _ hbn.2
      have h2b := shp_mono 1 _ hbn.2
      rcases hd with rfl | rfl | rfl | rfl | rfl | rfl | rfl | rfl | rfl | rfl | rfl | rfl | rfl
      · exact ⟨rfl, rfl⟩
      · exact ⟨rfl, rfl⟩
      · exact ⟨by simp only [noD, noDs, hnd, Bool.and_true], by simp only [shp, List.all_cons, List.all_nil, hsh2, Bool.and_true]⟩
      · exact ⟨by simp only [noD, noDs, hnd, Bool.and_true], by simp only [shp, List.all_cons, List.all_nil, hsh2, Bool.and_true]⟩
      · exact ⟨by simp only [noD, noDs, hnd, Bool.and_true], by simp only [shp, List.all_cons, List.all_nil, hsh2, Bool.and_true]⟩
      · exact ⟨by simp only [noD, noDs, hnd, Bool.and_true], by simp only [shp, List.all_cons, List.all_nil, hsh2, Bool.and_true]⟩
      · exact ⟨by simp only [noD, noDs, hap, Bool.and_true], by simp only [shp, List.all_cons, List.all_nil, hap2, Bool.and_true]⟩
      · exact ⟨by simp only [noD, noDs, n24, Bool.and_true], by simp only [shp, List.all_cons, List.all_nil, z24, Bool.and_true]⟩
      · exact ⟨by simp only [noD, noDs, n25, Bool.and_true], by simp only [shp, List.all_cons, List.all_nil, z25, Bool.and_true]⟩
      · exact ⟨rfl, rfl⟩
      · exact ⟨by simp only [noD, noDs, hbn.1, Bool.and_true], by simp only [shp, List.all_cons, List.all_nil, h2b, Bool.and_true]⟩
      · exact ⟨rfl, rfl⟩
      · exact ⟨rfl, rfl⟩
    have := law_rest (scrD ns) d (nI many) (tsD ts) l hlen hdn.1 hdn.2
    simp [hrow, hbook]
    unfold t3_law
    unfold bkD
    simp only [List.cons_append, List.nil_append] at ed
    simp [i0, m0, i1, m1, i2, m2, fits, dAdd, eb, dList, a1, u1, u2, hq, ed]
    exact this
  · have h0' : ¬ ((r0 : Int) = 0) := by omega
    have := law_rest (scrD ns) (bkD many ts) (nI many) (tsD ts) l hlen hfor.1 hfor.2
    simp [hrow, hbook]
    unfold t3_law
    unfold bkD at this ⊢
    simp [i0, m0, h0]
    exact this

end LAW
open PySem PySem.W PyProof.Rows
set_option maxHeartbeats 0 in
theorem PySem.Challenge.cw_stretchchains_k01_books_holds : PySem.Challenge.rw_stretchchains_k01_books.Holds := by
  w_on; o_law; k_head; (case hw => w_witness2)
  k_fill
  refine L2.walk_of (l := PySem.Challenge.rw_stretchchains_k01_books) (n := 63) (k := 9) (x := "script") (CX := fun w => L2.CX PySem.Challenge.rw_stretchchains_k01_books.prog w) (sp := fun w => DL.DSp 1 LAW.g_law) rfl (by decide) rfl ⟨rfl, by decide, by decide⟩ (fun w h Y => PySem.W.kIn_of Y) ?F ?S (fun w H s e s' z => DL.noX z)
  case F =>
    intro w mg fa h KX G hmg
    refine' LAW.all_mk KX G hmg ?a0 ?l0 ?c0 ?k0 ?a1 ?l1 ?c1 ?k1 ?a2 ?l2 ?c2 ?k2 ?a3 ?l3 ?c3 ?k3 ?a4 ?l4 ?c4 ?k4 ?a5 ?l5 ?c5 ?k5 ?a6 ?l6 ?c6 ?k6 ?a7 ?l7 ?c7 ?k7 ?a8 ?l8 ?c8 ?k8 ?a9 ?l9 ?c9 ?k9 ?a10 ?l10 ?c10 ?k10 ?a11 ?l11 ?c11 ?k11 ?a12 ?l12 ?c12 ?k12 ?a13 ?l13 ?c13 ?k13 ?a14 ?l14 ?c14 ?k14 ?a15 ?l15 ?c15 ?k15 ?a16 ?l16 ?c16 ?k16 ?a17 ?l17 ?c17 ?k17 ?a18 ?l18 ?c18 ?k18 ?a19 ?l19 ?c19 ?k19 ?a20 ?l20 ?c20 ?k20 ?a21 ?l21 ?c21 ?k21 ?a22 ?l22 ?c22 ?k22 ?a23 ?l23 ?c23 ?k23 ?a24 ?l24 ?c24 ?k24 ?a25 ?l25 ?c25 ?k25 ?a26 ?l26 ?c26 ?k26 ?a27 ?l27 ?c27 ?k27 ?a28 ?l28 ?c28 ?k28 ?a29 ?l29 ?c29 ?k29 ?a30 ?l30 ?c30 ?k30 ?z_len ?z_range ?z_isinstance ?z_int ?z_bool ?z_tuple ?z_list ?z_sum ?v_MOST_ROW ?v_MOST_TOLD ?v_MOST_SUM ?m_StretchError ?m_BadBook ?m_NotTrue ?m_BadNumber ?hg_BadBook ?hk_BadBook ?ha_BadBook ?hn_BadBook ?ht_BadBook ?hm_BadBook ?hg_BadNumber ?hk_BadNumber ?ha_BadNumber ?hm_BadNumber ?su_0 ?su_1 ?su_2 ?su_3 ?su_4 ?su_5 ?su_6 ?su_7 ?s_StretchError ?t_StretchError ?d_StretchError ?s_BadBook ?t_BadBook ?d_BadBook ?s_NotTrue ?t_NotTrue ?d_NotTrue ?s_BadNumber ?t_BadNumber ?d_BadNumber ?x_BadBook ?q_BadBook ?x_BadNumber ?q_BadNumber
    (case a0 => k_is)
    (case l0 => k_is)
    (case c0 => k_is)
    (case k0 => k_is)
    (case a1 => k_is)
    (case l1 => k_is)
    (case c1 => k_is)
    (case k1 => k_is)
    (case a2 => k_is)
    (case l2 => k_is)
    (case c2 => k_is)
    (case k2 => k_is)
    (case a3 => k_is)
    (case l3 => k_is)
    (case c3 => k_is)
    (case k3 => k_is)
    (case a4 => k_is)
    (case l4 => k_is)
    (case c4 => k_is)
    (case k4 => k_is)
    (case a5 => k_is)
    (case l5 => k_is)
    (case c5 => k_is)
    (case k5 => k_is)
    (case a6 => k_is)
    (case l6 => k_is)
    (case c6 => k_is)
    (case k6 => k_is)
    (case a7 => k_is)
    (case l7 => k_is)
    (case c7 => k_is)
    (case k7 => k_is)
    (case a8 => k_is)
    (case l8 => k_is)
    (case c8 => k_is)
    (case k8 => k_is)
    (case a9 => k_is)
    (case l9 => k_is)
    (case c9 => k_is)
    (case k9 => k_is)
    (case a10 => k_is)
    (case l10 => k_is)
    (case c10 => k_is)
    (case k10 => k_is)
    (case a11 => k_is)
    (case l11 => k_is)
    (case c11 => k_is)
    (case k11 => k_is)
    (case a12 => k_is)
    (case l12 => k_is)
    (case c12 => k_is)
    (case k12 => k_is)
    (case a13 => k_is)
    (case l13 => k_is)
    (case c13 => k_is)
    (case k13 => k_is)
    (case a14 => k_is)
    (case l14 => k_is)
    (case c14 => k_is)
    (case k14 => k_is)
    (case a15 => k_is)
    (case l15 => k_is)
    (case c15 => k_is)
    (case k15 => k_is)
    (case a16 => k_is)
    (case l16 => k_is)
    (case c16 => k_is)
    (case k16 => k_is)
    (case a17 => k_is)
    (case l17 => k_is)
    (case c17 => k_is)
    (case k17 => k_is)
    (case a18 => k_is)
    (case l18 => k_is)
    (case c18 => k_is)
    (case k18 => k_is)
    (case a19 => k_is)
    (case l19 => k_is)
    (case c19 => k_is)
    (case k19 => k_is)
    (case a20 => k_is)
    (case l20 => k_is)
    (case c20 => k_is)
    (case k20 => k_is)
    (case a21 => k_is)
    (case l21 => k_is)
    (case c21 => k_is)
    (case k21 => k_is)
    (case a22 => k_is)
    (case l22 => k_is)
    (case c22 => k_is)
    (case k22 => k_is)
    (case a23 => k_is)
    (case l23 => k_is)
    (case c23 => k_is)
    (case k23 => k_is)
    (case a24 => k_is)
    (case l24 => k_is)
    (case c24 => k_is)
    (case k24 => k_is)
    (case a25 => k_is)
    (case l25 => k_is)
    (case c25 => k_is)
    (case k25 => k_is)
    (case a26 => k_is)
    (case l26 => k_is)
    (case c26 => k_is)
    (case k26 => k_is)
    (case a27 => k_is)
    (case l27 => k_is)
    (case c27 => k_is)
    (case k27 => k_is)
    (case a28 => k_is)
    (case l28 => k_is)
    (case c28 => k_is)
    (case k28 => k_is)
    (case a29 => k_is)
    (case l29 => k_is)
    (case c29 => k_is)
    (case k29 => k_is)
    (case a30 => k_is)
    (case l30 => k_is)
    (case c30 => k_is)
    (case k30 => k_is)
    (case z_len => k_is)
    (case z_range => k_is)
    (case z_isinstance => k_is)
    (case z_int => k_is)
    (case z_bool => k_is)
    (case z_tuple => k_is)
    (case z_list => k_is)
    (case z_sum => k_is)
    (case v_MOST_ROW => k_is)
    (case v_MOST_TOLD => k_is)
    (case v_MOST_SUM => k_is)
    (case m_StretchError => k_is)
    (case m_BadBook => k_is)
    (case m_NotTrue => k_is)
    (case m_BadNumber => k_is)
    (case hg_BadBook => k_is)
    (case hk_BadBook => k_is)
    (case ha_BadBook => k_is)
    (case hn_BadBook => k_is)
    (case ht_BadBook => k_is)
    (case hm_BadBook => k_is)
    (case hg_BadNumber => k_is)
    (case hk_BadNumber => k_is)
    (case ha_BadNumber => k_is)
    (case hm_BadNumber => k_is)
    (case su_0 => k_is)
    (case su_1 => k_is)
    (case su_2 => k_is)
    (case su_3 => k_is)
    (case su_4 => k_is)
    (case su_5 => k_is)
    (case su_6 => k_is)
    (case su_7 => k_is)
    (case s_StretchError => k_is)
    (case t_StretchError => k_is)
    (case d_StretchError => k_is)
    (case s_BadBook => k_is)
    (case t_BadBook => k_is)
    (case d_BadBook => k_is)
    (case s_NotTrue => k_is)
    (case t_NotTrue => k_is)
    (case d_NotTrue => k_is)
    (case s_BadNumber => k_is)
    (case t_BadNumber => k_is)
    (case d_BadNumber => k_is)
    (case x_BadBook => k_exc)
    (case q_BadBook => k_is)
    (case x_BadNumber => k_exc)
    (case q_BadNumber => k_is)
  case S =>
    intro w H a ns hl hO hS
    exact DL.law_in hO hS (by rfl) (LAW.law_true ns hl)
