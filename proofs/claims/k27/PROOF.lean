import PyProof.Rows.All
import Wide.All
import OpenK.AllK
import Wide.FinOn
import HandS.ForMost
import HandS.ForExc
import HandS.TryMany
import HandS.CallSlots
import HandS.IsInst
import HandS.ExcIs
import HandS.ExcField
import HandS.TupAny
import HandS.Conv
import HandS.Wide
import HandS.TupMul
import HandS.Flow
import HandS.Style
import HandS.Zip
import KE.GoesMore
import PyProof.Draws
import HandS.SortInts
import HandS.SortRule
import HandS.TupSets
import HandS.SetFor
import HandS.More
import HandS.TupLe
import HandS.ExcInit
import KE.KExcIs
import HandS.FStr
import HandS.RaiseMore
import KE.KCallOwn
import PyProof.InstNe
import HandS.SlotsOwn
import PySem.Challenge.RW_stretchchains_k27_whole_two_notes
set_option Elab.async false
set_option linter.all false
set_option maxRecDepth 100000
set_option maxHeartbeats 4000000
set_option autoImplicit false

namespace DL
open PySem PySem.Spec L2 PyProof.Rows

/-! ## data in the heap: Rp O H v d, where O holds the addresses that someone may still write -/
abbrev Ow := Addr → Prop
abbrev Sg := L2.St
def keyD : Key → PyData
  | .inl i => .int i
  | .inr x => .str x
/-- the script as data -/
def scrD (ns : List Int) : PyData := .dict [(.none, .list (ns.map .int))]

mutual
inductive Rp (O : Ow) (H : Hp) : V → PyData → Prop
  | non : Rp O H .non .none
  | bl (b : Bool) : Rp O H (.bl b) (.bool b)
  | int (i : Int) : Rp O H (.int i) (.int i)
  | str (x : Str) : Rp O H (.str x) (.str x)
  | lst {a : Addr} {xs : List V} {ds : List PyData} : H a = some (.lst xs) → ¬ O a → RpL O H xs ds → Rp O H (.ref a) (.list ds)
  | tup {a : Addr} {xs : List V} {ds : List PyData} : H a = some (.tup xs) → ¬ O a → RpL O H xs ds → Rp O H (.ref a) (.tuple ds)
  | dct {a : Addr} {kvs : List (Key × V)} {es : List (PyData × PyData)} : H a = some (.dK kvs) → ¬ O a → RpD O H kvs es → Rp O H (.ref a) (.dict es)
  | scr {a : Addr} {o : Obj} {ns : List Int} : H a = some (.frz o (.lst (ns.map V.int))) → ¬ O a → Rp O H (.ref a) (scrD ns)
inductive RpL (O : Ow) (H : Hp) : List V → List PyData → Prop
  | nil : RpL O H [] []
  | cons {v : V} {vs : List V} {d : PyData} {ds : List PyData} : Rp O H v d → RpL O H vs ds → RpL O H (v :: vs) (d :: ds)
inductive RpD (O : Ow) (H : Hp) : List (Key × V) → List (PyData × PyData) → Prop
  | nil : RpD O H [] []
  | cons {k : Key} {v : V} {kvs : List (Key × V)} {d : PyData} {es : List (PyData × PyData)} : Rp O H v d → RpD O H kvs es → RpD O H ((k, v) :: kvs) ((keyD k, d) :: es)
end

/-- what stays: every tracked thing that nobody may write is as it was, and nobody may write it -/
def Kp (O : Ow) (H : Hp) (O' : Ow) (H' : Hp) : Prop := ∀ a o, H a = some o → ¬ O a → H' a = some o ∧ ¬ O' a
theorem Rp.kp {O O' : Ow} {H H' : Hp} (k : Kp O H O' H') {v : V} {d : PyData} (h : Rp O H v d) : Rp O' H' v d :=
  Rp.rec (motive_1 := fun v d _ => Rp O' H' v d) (motive_2 := fun vs ds _ => RpL O' H' vs ds) (motive_3 := fun kvs es _ => RpD O' H' kvs es)
    .non .bl .int .str (fun e n _ ih => .lst (k _ _ e n).1 (k _ _ e n).2 ih) (fun e n _ ih => .tup (k _ _ e n).1 (k _ _ e n).2 ih)
    (fun e n _ ih => .dct (k _ _ e n).1 (k _ _ e n).2 ih) (fun e n => .scr (k _ _ e n).1 (k _ _ e n).2) .nil (fun _ _ a b => .cons a b) .nil (fun _ _ a b => .cons a b) h
theorem RpL.kp {O O' : Ow} {H H' : Hp} (k : Kp O H O' H') : ∀ {vs : List V} {ds : List PyData}, RpL O H vs ds → RpL O' H' vs ds
  | _, _, .nil => .nil
  | _, _, .cons a b => .cons (a.kp k) (RpL.kp k b)
theorem RpD.kp {O O' : Ow} {H H' : Hp} (k : Kp O H O' H') : ∀ {vs : List (Key × V)} {ds : List (PyData × PyData)}, RpD O H vs ds → RpD O' H' vs ds
  | _, _, .nil => .nil
  | _, _, .cons a b => .cons (a.kp k) (RpD.kp k b)
theorem Kp.same {O : Ow} {H H' : Hp} (s : Same H H') : Kp O H O H' := fun a o e n => ⟨s a o e, n⟩
theorem RpL.len {O : Ow} {H : Hp} : ∀ {vs : List V} {ds : List PyData}, RpL O H vs ds → vs.length = ds.length
  | _, _, .nil => rfl
  | _, _, .cons _ b => congrArg (· + 1) (RpL.len b)
theorem RpL.app {O : Ow} {H : Hp} : ∀ {vs ws : List V} {ds es : List PyData}, RpL O H vs ds → RpL O H ws es → RpL O H (vs ++ ws) (ds ++ es)
  | _, _, _, _, .nil, h => h
  | _, _, _, _, .cons a b, h => .cons a (RpL.app b h)
theorem RpL.get {O : Ow} {H : Hp} : ∀ {vs : List V} {ds : List PyData} {i : Nat} {d : PyData}, RpL O H vs ds → ds[i]? = some d → ∃ v, vs[i]? = some v ∧ Rp O H v d
  | _, _, _, _, .nil, e => by simp at e
  | _, _, 0, _, .cons a _, e => by simp at e; subst e; exact ⟨_, rfl, a⟩
  | _, _, i + 1, d, .cons _ b, e => by
    obtain ⟨v, h1, h2⟩ := RpL.get (i := i) (d := d) b (by simpa using e)
    exact ⟨v, by simpa using h1, h2⟩
theorem RpL.getV {O : Ow} {H : Hp} : ∀ {vs : List V} {ds : List PyData} {i : Nat} {v : V}, RpL O H vs ds → vs[i]? = some v → ∃ d, ds[i]? = some d ∧ Rp O H v d
  | _, _, _, _, .nil, e => by simp at e
  | _, _, 0, _, .cons a _, e => by simp at e; subst e; exact ⟨_, rfl, a⟩
  | _, _, i + 1, v, .cons _ b, e => by
    obtain ⟨d, h1, h2⟩ := RpL.getV (i := i) (v := v) b (by simpa using e)
    exact ⟨d, by simpa using h1, h2⟩
theorem RpL.take {O : Ow} {H : Hp} : ∀ {vs : List V} {ds : List PyData} (n : Nat), RpL O H vs ds → RpL O H (vs.take n) (ds.take n)
  | _, _, 0, _ => .nil
  | _, _, _ + 1, .nil => .nil
  | _, _, n + 1, .cons a b => .cons a (RpL.take n b)
theorem RpL.drop {O : Ow} {H : Hp} : ∀ {vs : List V} {ds : List PyData} (n : Nat), RpL O H vs ds → RpL O H (vs.drop n) (ds.drop n)
  | _, _, 0, h => h
  | _, _, _ + 1, .nil => .nil
  | _, _, n + 1, .cons _ b => RpL.drop n b
theorem RpL.set {O : Ow} {H : Hp} {x : V} {y : PyData} (h : Rp O H x y) : ∀ {vs : List V} {ds : List PyData} (n : Nat), RpL O H vs ds → RpL O H (vs.set n x) (ds.set n y)
  | _, _, _, .nil => .nil
  | _, _, 0, .cons _ b => .cons h b
  | _, _, n + 1, .cons a b => .cons a (RpL.set h n b)
theorem RpL.rev {O : Ow} {H : Hp} : ∀ {vs : List V} {ds : List PyData}, RpL O H vs ds → RpL O H vs.reverse ds.reverse
  | _, _, .nil => .nil
  | _, _, .cons a b => by
    rw [List.reverse_cons, List.reverse_cons]
    exact (RpL.rev b).app (.cons a .nil)
theorem RpL.ints {O : Ow} {H : Hp} : ∀ {vs : List V} {ns : List Int}, RpL O H vs (ns.map .int) → vs = ns.map .int
  | _, [], h => by cases h; rfl
  | _, n :: ns, h => by
    cases h with
    | cons a b =>
      cases a
      exact congrArg (_ :: ·) (RpL.ints b)
theorem RpL.ofInts {O : Ow} {H : Hp} : ∀ (ns : List Int), RpL O H (ns.map .int) (ns.map .int)
  | [] => .nil
  | _ :: ns => .cons (.int _) (RpL.ofInts ns)

/-! ## slots -/
/-- where a Notes stands: itself, its calls, its before -/
structure Ad where
  p : Addr
  c : Addr
  b : Addr
def Ad.has (A : Ad) (a : Addr) : Prop := a = A.p ∨ a = A.c ∨ a = A.b
/-- what a Notes holds -/
structure NSt where
  many : PyData
  told : PyData
  calls : List PyData
  before : List PyData
inductive Sl where
  | no
  | va (d : PyData)
  | ow (d : PyData)
  | ob (C : Addr) (A : Ad) (st : NSt)
/-- the fields of a Notes -/
abbrev nfs (m t c b : V) : List (Str × V) := [("many", m), ("told", t), ("calls", c), ("before", b)]
/-- a Notes in the heap -/
structure ObR (O : Ow) (H : Hp) (C : Addr) (A : Ad) (st : NSt) : Prop where
  cb : A.c ≠ A.b
  self : ∃ dx vm vt, H A.p = some (.ins C dx (nfs vm vt (.ref A.c) (.ref A.b))) ∧ Rp O H vm st.many ∧ Rp O H vt st.told
  calls : ∃ cs, H A.c = some (.lst cs) ∧ RpL O H cs st.calls
  before : ∃ bs, H A.b = some (.lst bs) ∧ RpL O H bs st.before
/-- its three things stand as they stood -/
theorem ObR.tr {O O' : Ow} {H H' : Hp} {C : Addr} {A : Ad} {st : NSt} (h : ObR O H C A st) (k : Kp O H O' H') (hh : ∀ a o, A.has a → H a = some o → H' a = some o) : ObR O' H' C A st := by
  obtain ⟨h0, ⟨dx, vm, vt, e1, r1, r2⟩, ⟨cs, e2, r3⟩, ⟨bs, e3, r4⟩⟩ := h
  exact ⟨h0, ⟨dx, vm, vt, hh _ _ (.inl rfl) e1, r1.kp k, r2.kp k⟩, ⟨cs, hh _ _ (.inr (.inl rfl)) e2, r3.kp k⟩, ⟨bs, hh _ _ (.inr (.inr rfl)) e3, r4.kp k⟩⟩
theorem ObR.dom {O : Ow} {H : Hp} {C : Addr} {A : Ad} {st : NSt} (h : ObR O H C A st) {a : Addr} (ha : A.has a) : ∃ o, H a = some o := by
  obtain ⟨h0, ⟨dx, vm, vt, e1, r1, r2⟩, ⟨cs, e2, r3⟩, ⟨bs, e3, r4⟩⟩ := h
  rcases ha with rfl | rfl | rfl
  · exact ⟨_, e1⟩
  · exact ⟨_, e2⟩
  · exact ⟨_, e3⟩
abbrev En := List Sl
/-- a thing that is written here alone -/
def OwR (O : Ow) (H : Hp) (p : Addr) : PyData → Prop
  | .list ds => ∃ xs, H p = some (.lst xs) ∧ RpL O H xs ds
  | .dict es => ∃ kvs, H p = some (.dK kvs) ∧ RpD O H kvs es
  | _ => False
def SlR (O : Ow) (H : Hp) (v : Option (Option V)) : Sl → Prop
  | .no => True
  | .va d => ∃ x, v = some (some x) ∧ Rp O H x d
  | .ow d => ∃ p, v = some (some (.ref p)) ∧ O p ∧ OwR O H p d
  | .ob C A st => v = some (some (.ref A.p)) ∧ (∀ a, A.has a → O a) ∧ ObR O H C A st
/-- the addresses that a slot may write -/
def Sl.own (s : Sl) (v : Option (Option V)) (p : Addr) : Prop := match s with
  | .ow _ => v = some (some (.ref p))
  | .ob _ A _ => A.has p
  | _ => False
theorem OwR.tr {O O' : Ow} {H H' : Hp} {p : Addr} (k : Kp O H O' H') (hh : ∀ o, H p = some o → H' p = some o) : ∀ {d : PyData}, OwR O H p d → OwR O' H' p d
  | .list _, ⟨xs, e, h⟩ => ⟨xs, hh _ e, h.kp k⟩
  | .dict _, ⟨xs, e, h⟩ => ⟨xs, hh _ e, h.kp k⟩
  | .none, h => h.elim
  | .bool _, h => h.elim
  | .int _, h => h.elim
  | .str _, h => h.elim
  | .tuple _, h => h.elim
theorem SlR.tr {O O' : Ow} {H H' : Hp} {v : Option (Option V)} {s : Sl} (k : Kp O H O' H') (ho : ∀ p, s.own v p → O' p) (hh : ∀ p o, s.own v p → H p = some o → H' p = some o) (h : SlR O H v s) : SlR O' H' v s := by
  cases s with
  | no => trivial
  | va d => obtain ⟨x, e, r⟩ := h; exact ⟨x, e, r.kp k⟩
  | ow d => obtain ⟨p, e, _, r⟩ := h; exact ⟨p, e, ho p e, r.tr k fun o z => hh p o e z⟩
  | ob C A st => obtain ⟨e, _, r⟩ := h; exact ⟨e, ho, r.tr k hh⟩
/-- what a slot may write is there -/
theorem SlR.dom {O : Ow} {H : Hp} {v : Option (Option V)} {s : Sl} (h : SlR O H v s) {p : Addr} (hp : s.own v p) : O p ∧ ∃ o, H p = some o := by
  cases s with
  | no => exact hp.elim
  | va d => exact hp.elim
  | ow d =>
    obtain ⟨q, e, oq, r⟩ := h
    have hp : v = some (some (.ref p)) := hp
    rw [hp] at e
    cases e
    refine ⟨oq, ?_⟩
    cases d with
    | list ds => obtain ⟨xs, f1, f2⟩ := r; exact ⟨_, f1⟩
    | dict es => obtain ⟨xs, f1, f2⟩ := r; exact ⟨_, f1⟩
    | _ => exact r.elim
  | ob C A st => exact ⟨h.2.1 p hp, h.2.2.dom hp⟩
/-- the slots as an expression sees them -/
structure RE (O : Ow) (ρ : En) (σ : Sg) (H : Hp) : Prop where
  len : σ.length = ρ.length
  dom : ∀ a, O a → H a ≠ none
  at_ : ∀ (i : Nat) (s : Sl), ρ[i]? = some s → DL.SlR O H σ[i]? s
theorem OwR.same {O : Ow} {H H' : Hp} (s : Same H H') {p : Addr} : ∀ {d : PyData}, OwR O H p d → OwR O H' p d
  | .list _, ⟨xs, e, h⟩ => ⟨xs, s _ _ e, h.kp (.same s)⟩
  | .dict _, ⟨xs, e, h⟩ => ⟨xs, s _ _ e, h.kp (.same s)⟩
  | .none, h => h.elim
  | .bool _, h => h.elim
  | .int _, h => h.elim
  | .str _, h => h.elim
  | .tuple _, h => h.elim
theorem SlR.same {O : Ow} {H H' : Hp} (s : Same H H') {v : Option (Option V)} : ∀ {x : Sl}, SlR O H v x → SlR O H' v x
  | .no, _ => trivial
  | .va _, ⟨x, e, h⟩ => ⟨x, e, h.kp (.same s)⟩
  | .ow _, ⟨p, e, o, h⟩ => ⟨p, e, o, h.same s⟩
  | .ob _ _ _, ⟨e, o, h⟩ => ⟨e, o, h.tr (.same s) fun a u _ z => s a u z⟩
theorem RE.same {O : Ow} {ρ : En} {σ : Sg} {H H' : Hp} (r : RE O ρ σ H) (s : Same H H') : RE O ρ σ H' :=
  ⟨r.len, fun a o e => r.dom a o (s.free e), fun i x e => (r.at_ i x e).same s⟩
theorem RE.new {O : Ow} {ρ : En} {σ : Sg} {H : Hp} (r : RE O ρ σ H) {p : Addr} (h : H p = none) : ¬ O p := fun o => r.dom p o h
theorem same_upd {H : Hp} {p : Addr} {o : HO} (h : H p = none) : Same H (upd H p o) := fun b x e => by
  rw [upd_ne (ne_of_none e h)]
  exact e

/-! ## what an expression comes to -/
inductive Re (α : Type) where
  | ok (a : α)
  | ex (c : Value) (p : Option PyData)
  | st
def Re.bind {α β : Type} (r : Re α) (g : α → Re β) : Re β := match r with
  | .ok a => g a
  | .ex c p => .ex c p
  | .st => .st
def Re.map {α β : Type} (r : Re α) (g : α → β) : Re β := r.bind fun a => .ok (g a)
@[simp] theorem Re.bind_ok {α β : Type} (a : α) (g : α → Re β) : (Re.ok a).bind g = g a := id rfl
@[simp] theorem Re.bind_ex {α β : Type} (c : Value) (p : Option PyData) (g : α → Re β) : (Re.ex c p).bind g = .ex c p := id rfl
@[simp] theorem Re.bind_st {α β : Type} (g : α → Re β) : (Re.st : Re α).bind g = .st := id rfl

/-- the wish about an exception of class c with the payload p -/
def XW (W : WX) (σ : Sg) (O : Ow) (H : Hp) (c : Value) : Option PyData → Prop
  | none => W c none σ H
  | some d => ∀ a v, H a = some (.xd [("line", v)]) → Rp O H v d → W c (some a) σ H
/-- an expression's reading, by what it comes to -/
def tR (W : WX) (O : Ow) (r : Re PyData) (σ : Sg) (H : Hp) (Q : VK) : Prop := match r with
  | .ok d => ∀ v H', Same H H' → Rp O H' v d → Q v H'
  | .ex c p => ∀ H', Same H H' → XW W σ O H' c p
  | .st => False
def tD (W : WX) (f : En → Re PyData) : TE := fun σ H Q => ∃ ρ O, RE O ρ σ H ∧ tR W O (f ρ) σ H Q
def tRB (W : WX) (O : Ow) (r : Re Bool) (σ : Sg) (H : Hp) (Q : Bool → Hp → Prop) : Prop := match r with
  | .ok b => ∀ H', Same H H' → Q b H'
  | .ex c p => ∀ H', Same H H' → XW W σ O H' c p
  | .st => False
def tB (W : WX) (f : En → Re Bool) : TT := fun σ H Q => ∃ ρ O, RE O ρ σ H ∧ tRB W O (f ρ) σ H Q
def tRA (W : WX) (O : Ow) (r : Re (List PyData)) (σ : Sg) (H : Hp) (Q : List V → Hp → Prop) : Prop := match r with
  | .ok ds => ∀ vs H', Same H H' → RpL O H' vs ds → Q vs H'
  | .ex c p => ∀ H', Same H H' → XW W σ O H' c p
  | .st => False
def tA (W : WX) (f : En → Re (List PyData)) : TA := fun σ H Q => ∃ ρ O, RE O ρ σ H ∧ tRA W O (f ρ) σ H Q
/-- a look: the thing may be one that is still written -/
def Lk (O : Ow) (H : Hp) (v : V) (d : PyData) : Prop := Rp O H v d ∨ ∃ p, v = .ref p ∧ OwR O H p d
def tRL (W : WX) (O : Ow) (r : Re PyData) (σ : Sg) (H : Hp) (Q : VK) : Prop := match r with
  | .ok d => ∀ v H', Same H H' → Lk O H' v d → Q v H'
  | .ex c p => ∀ H', Same H H' → XW W σ O H' c p
  | .st => False
def tL (W : WX) (f : En → Re PyData) : TE := fun σ H Q => ∃ ρ O, RE O ρ σ H ∧ tRL W O (f ρ) σ H Q

theorem tR.same {W : WX} {O : Ow} {r : Re PyData} {σ : Sg} {H H1 : Hp} {Q : VK} (h : tR W O r σ H Q) (s : Same H H1) : tR W O r σ H1 Q := by
  cases r with
  | ok d => exact fun v H' s' q => h v H' (s.trans s') q
  | ex c p => exact fun H' s' => h H' (s.trans s')
  | st => exact h
theorem tRB.same {W : WX} {O : Ow} {r : Re Bool} {σ : Sg} {H H1 : Hp} {Q : Bool → Hp → Prop} (h : tRB W O r σ H Q) (s : Same H H1) : tRB W O r σ H1 Q := by
  cases r with
  | ok d => exact fun H' s' => h H' (s.trans s')
  | ex c p => exact fun H' s' => h H' (s.trans s')
  | st => exact h
theorem tRA.same {W : WX} {O : Ow} {r : Re (List PyData)} {σ : Sg} {H H1 : Hp} {Q : List V → Hp → Prop} (h : tRA W O r σ H Q) (s : Same H H1) : tRA W O r σ H1 Q := by
  cases r with
  | ok d => exact fun v H' s' q => h v H' (s.trans s') q
  | ex c p => exact fun H' s' => h H' (s.trans s')
  | st => exact h

section
variable {X : Cx} {W : WX}
theorem pe_imp {e : Expr} {t t' : TE} (h : PE X e t) (i : ∀ σ H Q, t' σ H Q → t σ H Q) : PE X e t' := ⟨fun pins s σ H Q I q => h.run pins s σ H Q I (i σ H Q q)⟩
theorem pt_imp {e : Expr} {t t' : TT} (h : PT X e t) (i : ∀ σ H Q, t' σ H Q → t σ H Q) : PT X e t' := ⟨fun pins s σ H Q I q => h.run pins s σ H Q I (i σ H Q q)⟩
theorem pw_imp {e : Expr} {t t' : TT} (h : PW X e t) (i : ∀ σ H Q, t' σ H Q → t σ H Q) : PW X e t' := ⟨fun whole pins s σ H Q I q => h.run whole pins s σ H Q I (i σ H Q q)⟩
theorem pa_imp {e : List Expr} {t t' : TA} (h : PA X e t) (i : ∀ σ H Q, t' σ H Q → t σ H Q) : PA X e t' := ⟨fun pos pins s σ H Q I q => h.run pos pins s σ H Q I (i σ H Q q)⟩
theorem ps_imp {e : Stmt} {t t' : TS} (h : PS X e t) (i : ∀ D σ H, t' D σ H → t D σ H) : PS X e t' := ⟨fun pins s σ H D I q => h.run pins s σ H D I (i D σ H q)⟩
theorem pss_imp {e : List Stmt} {t t' : TS} (h : PSs X e t) (i : ∀ D σ H, t' D σ H → t D σ H) : PSs X e t' := ⟨fun pins s σ H D I q => h.run pins s σ H D I (i D σ H q)⟩

variable {σ : Sg} {O : Ow} {ρ : En} {H : Hp} {f : En → Re PyData}
/-- one value, then on -/
theorem goD {g : PyData → Re PyData} {Q R : VK} (re : RE O ρ σ H) (h : tR W O ((f ρ).bind g) σ H Q) (k : ∀ d x H1, RE O ρ σ H1 → Same H H1 → Rp O H1 x d → tR W O (g d) σ H1 Q → R x H1) : tD W f σ H R := by
  refine ⟨ρ, O, re, ?_⟩
  cases e : f ρ with
  | ok d =>
    rw [e] at h
    exact fun v H1 s q => k d v H1 (re.same s) s q (tR.same h s)
  | ex c p => rw [e] at h; exact h
  | st => rw [e] at h; exact h
theorem goDB {g : PyData → Re Bool} {Q : Bool → Hp → Prop} {R : VK} (re : RE O ρ σ H) (h : tRB W O ((f ρ).bind g) σ H Q) (k : ∀ d x H1, RE O ρ σ H1 → Same H H1 → Rp O H1 x d → tRB W O (g d) σ H1 Q → R x H1) : tD W f σ H R := by
  refine ⟨ρ, O, re, ?_⟩
  cases e : f ρ with
  | ok d =>
    rw [e] at h
    exact fun v H1 s q => k d v H1 (re.same s) s q (tRB.same h s)
  | ex c p => rw [e] at h; exact h
  | st => rw [e] at h; exact h
theorem goDA {g : PyData → Re (List PyData)} {Q : List V → Hp → Prop} {R : VK} (re : RE O ρ σ H) (h : tRA W O ((f ρ).bind g) σ H Q) (k : ∀ d x H1, RE O ρ σ H1 → Same H H1 → Rp O H1 x d → tRA W O (g d) σ H1 Q → R x H1) : tD W f σ H R := by
  refine ⟨ρ, O, re, ?_⟩
  cases e : f ρ with
  | ok d =>
    rw [e] at h
    exact fun v H1 s q => k d v H1 (re.same s) s q (tRA.same h s)
  | ex c p => rw [e] at h; exact h
  | st => rw [e] at h; exact h
theorem goL {g : PyData → Re PyData} {Q R : VK} (re : RE O ρ σ H) (h : tR W O ((f ρ).bind g) σ H Q) (k : ∀ d x H1, RE O ρ σ H1 → Same H H1 → Lk O H1 x d → tR W O (g d) σ H1 Q → R x H1) : tL W f σ H R := by
  refine ⟨ρ, O, re, ?_⟩
  cases e : f ρ with
  | ok d =>
    rw [e] at h
    exact fun v H1 s q => k d v H1 (re.same s) s q (tR.same h s)
  | ex c p => rw [e] at h; exact h
  | st => rw [e] at h; exact h
theorem goLB {g : PyData → Re Bool} {Q : Bool → Hp → Prop} {R : VK} (re : RE O ρ σ H) (h : tRB W O ((f ρ).bind g) σ H Q) (k : ∀ d x H1, RE O ρ σ H1 → Same H H1 → Lk O H1 x d → tRB W O (g d) σ H1 Q → R x H1) : tL W f σ H R := by
  refine ⟨ρ, O, re, ?_⟩
  cases e : f ρ with
  | ok d =>
    rw [e] at h
    exact fun v H1 s q => k d v H1 (re.same s) s q (tRB.same h s)
  | ex c p => rw [e] at h; exact h
  | st => rw [e] at h; exact h
theorem goA {fa : En → Re (List PyData)} {g : List PyData → Re PyData} {Q : VK} {R : List V → Hp → Prop} (re : RE O ρ σ H) (h : tR W O ((fa ρ).bind g) σ H Q) (k : ∀ ds xs H1, RE O ρ σ H1 → Same H H1 → RpL O H1 xs ds → tR W O (g ds) σ H1 Q → R xs H1) : tA W fa σ H R := by
  refine ⟨ρ, O, re, ?_⟩
  cases e : fa ρ with
  | ok d =>
    rw [e] at h
    exact fun v H1 s q => k d v H1 (re.same s) s q (tR.same h s)
  | ex c p => rw [e] at h; exact h
  | st => rw [e] at h; exact h
theorem goB {fb : En → Re Bool} {g : Bool → Re PyData} {Q : VK} {R : Bool → Hp → Prop} (re : RE O ρ σ H) (h : tR W O ((fb ρ).bind g) σ H Q) (k : ∀ b H1, RE O ρ σ H1 → Same H H1 → tR W O (g b) σ H1 Q → R b H1) : tB W fb σ H R := by
  refine ⟨ρ, O, re, ?_⟩
  cases e : fb ρ with
  | ok d =>
    rw [e] at h
    exact fun H1 s => k d H1 (re.same s) s (tR.same h s)
  | ex c p => rw [e] at h; exact h
  | st => rw [e] at h; exact h
theorem goBB {fb : En → Re Bool} {g : Bool → Re Bool} {Q : Bool → Hp → Prop} {R : Bool → Hp → Prop} (re : RE O ρ σ H) (h : tRB W O ((fb ρ).bind g) σ H Q) (k : ∀ b H1, RE O ρ σ H1 → Same H H1 → tRB W O (g b) σ H1 Q → R b H1) : tB W fb σ H R := by
  refine ⟨ρ, O, re, ?_⟩
  cases e : fb ρ with
  | ok d =>
    rw [e] at h
    exact fun H1 s => k d H1 (re.same s) s (tRB.same h s)
  | ex c p => rw [e] at h; exact h
  | st => rw [e] at h; exact h
/-- at an end -/
theorem tR.here {d : PyData} {Q : VK} {v : V} (h : tR W O (.ok d) σ H Q) (r : Rp O H v d) : Q v H := h v H (Same.refl H) r
theorem tRB.here {b : Bool} {Q : Bool → Hp → Prop} (h : tRB W O (.ok b) σ H Q) : Q b H := h H (Same.refl H)

/-! ### names, constants -/
def eVar (i : Nat) : En → Re PyData := fun ρ => match ρ[i]? with
  | some (.va d) => .ok d
  | _ => .st
/-- a name that is looked at, be it one that is still written -/
def eLook (i : Nat) : En → Re PyData := fun ρ => match ρ[i]? with
  | some (.va d) => .ok d
  | some (.ow d) => .ok d
  | _ => .st
def eC (d : PyData) : En → Re PyData := fun _ => .ok d
theorem de_var (i : Nat) {x : Str} {pos : Pos} (hN : X.N[i]? = some x := by rfl) (hv : Vis X.env.scope x := by first | exact Or.inl rfl | exact Or.inr (Or.inl rfl) | exact Or.inr (Or.inr rfl)) (hd : (x == ("__debug__" : Str)) = false := by decide)
    (hcd : (x == ("__classdict__" : Str)) = false := by decide) : PE X (.Name x pos) (tD W (eVar i)) := pe_imp (pe_var hN hv hd hcd) fun σ H Q ⟨ρ, O, re, h⟩ => by
  unfold eVar at h
  cases e : ρ[i]? with
  | none => rw [e] at h; exact h.elim
  | some s =>
    rw [e] at h
    cases s with
    | va d =>
      obtain ⟨v, e1, r⟩ := re.at_ i _ e
      exact ⟨v, e1, h.here r⟩
    | no => exact h.elim
    | ow d => exact h.elim
    | ob C A st => exact h.elim
theorem dl_var (i : Nat) {x : Str} {pos : Pos} (hN : X.N[i]? = some x := by rfl) (hv : Vis X.env.scope x := by first | exact Or.inl rfl | exact Or.inr (Or.inl rfl) | exact Or.inr (Or.inr rfl)) (hd : (x == ("__debug__" : Str)) = false := by decide)
    (hcd : (x == ("__classdict__" : Str)) = false := by decide) : PE X (.Name x pos) (tL W (eLook i)) := pe_imp (pe_var hN hv hd hcd) fun σ H Q ⟨ρ, O, re, h⟩ => by
  unfold eLook at h
  cases e : ρ[i]? with
  | none => rw [e] at h; exact h.elim
  | some s =>
    rw [e] at h
    cases s with
    | va d =>
      obtain ⟨v, e1, r⟩ := re.at_ i _ e
      exact ⟨v, e1, h v H (Same.refl H) (.inl r)⟩
    | no => exact h.elim
    | ow d =>
      obtain ⟨p, e1, _, r⟩ := re.at_ i _ e
      exact ⟨.ref p, e1, h _ H (Same.refl H) (.inr ⟨p, rfl, r⟩)⟩
    | ob C A st => exact h.elim
theorem dl_of {e : Expr} (h : PE X e (tD W f)) : PE X e (tL W f) := pe_imp h fun σ H Q ⟨ρ, O, re, q⟩ => ⟨ρ, O, re, by
  cases e : f ρ with
  | ok d => rw [e] at q; exact fun v H1 s r => q v H1 s (.inl r)
  | ex c p => rw [e] at q; exact q
  | st => rw [e] at q; exact q⟩
theorem de_int {i j pos} : PE X (.Constant (.int i) j pos) (tD W (eC (.int i))) := pe_imp pe_int fun _ _ _ ⟨_, _, _, h⟩ => h.here (.int i)
theorem de_bl {b j pos} : PE X (.Constant (.bool b) j pos) (tD W (eC (.bool b))) := pe_imp pe_bl fun _ _ _ ⟨_, _, _, h⟩ => h.here (.bl b)
theorem de_non {j pos} : PE X (.Constant .none j pos) (tD W (eC .none)) := pe_imp pe_non fun _ _ _ ⟨_, _, _, h⟩ => h.here .non
theorem de_str {x j pos} : PE X (.Constant (.str x) j pos) (tD W (eC (.str x))) := pe_imp pe_str fun _ _ _ ⟨_, _, _, h⟩ => h.here (.str x)
/-- an int of the module -/
theorem de_glob {x : Str} {i : Int} {t : Tok} {pos : Pos} (hg : Gl X x) (hm : X.mg x = some (.int i t)) (hd : (x == ("__debug__" : Str)) = false := by decide) : PE X (.Name x pos) (tD W (eC (.int i))) :=
  pe_imp (pe_glob hg hm (v := .int i) ⟨t, rfl⟩ hd) fun _ _ _ ⟨_, _, _, h⟩ => h.here (.int i)
theorem de_globS {x y : Str} {t : Tok} {pos : Pos} (hg : Gl X x) (hm : X.mg x = some (.str y t)) (hd : (x == ("__debug__" : Str)) = false := by decide) : PE X (.Name x pos) (tD W (eC (.str y))) :=
  pe_imp (pe_glob hg hm (v := .str y) ⟨t, rfl⟩ hd) fun _ _ _ ⟨_, _, _, h⟩ => h.here (.str y)

/-! ### operators -/
def e2 (g : PyData → PyData → Re PyData) (fa fb : En → Re PyData) : En → Re PyData := fun ρ => (fa ρ).bind fun a => (fb ρ).bind fun b => g a b
def e1 (g : PyData → Re PyData) (fa : En → Re PyData) : En → Re PyData := fun ρ => (fa ρ).bind g
def Op2 (W : WX) (g : PyData → PyData → Re PyData) (r : R2) : Prop := ∀ (σ : Sg) (O : Ow) (ρ : En) (H : Hp) (x y : V) (d e : PyData) (Q : VK), RE O ρ σ H → Rp O H x d → Rp O H y e → tR W O (g d e) σ H Q → r x y H Q
theorem de_op {op : Operator} {r : R2} {g : PyData → PyData → Re PyData} {a b : Expr} {fa fb : En → Re PyData} {pos : Pos} (ho : OpR X (binaryOp op) r) (hg : Op2 W g r) (ha : PE X a (tD W fa)) (hb : PE X b (tD W fb)) : PE X (.BinOp a op b pos) (tD W (e2 g fa fb)) :=
  pe_imp (pe_op ho ha hb) fun σ H Q ⟨ρ, O, re, h⟩ => goD re h fun d x H1 re1 _ rx h1 => goD re1 h1 fun e y H2 re2 s2 ry h2 => hg σ O ρ H2 x y d e Q re2 (rx.kp (.same s2)) ry h2
theorem de_cmp {op : CmpOp} {r : R2} {g : PyData → PyData → Re PyData} {a b : Expr} {fa fb : En → Re PyData} {pos : Pos} (ho : OpR X (compareOp op) r) (hg : Op2 W g r) (ha : PE X a (tD W fa)) (hb : PE X b (tD W fb)) (hm : behindInMarks op b = false) : PE X (.Compare a [op] [b] pos) (tD W (e2 g fa fb)) :=
  pe_imp (pe_cmpR ho ha hb hm) fun σ H Q ⟨ρ, O, re, h⟩ => goD re h fun d x H1 re1 _ rx h1 => goD re1 h1 fun e y H2 re2 s2 ry h2 => hg σ O ρ H2 x y d e Q re2 (rx.kp (.same s2)) ry h2

end
end DL

namespace DL
open PySem PySem.Spec L2 PyProof.Rows

/-! ## inversion -/
section
variable {O : Ow} {H : Hp} {x : V}
theorem Rp.i_int {i : Int} (h : Rp O H x (.int i)) : x = .int i := by cases h; rfl
theorem Rp.i_bl {b : Bool} (h : Rp O H x (.bool b)) : x = .bl b := by cases h; rfl
theorem Rp.i_str {s : Str} (h : Rp O H x (.str s)) : x = .str s := by cases h; rfl
theorem Rp.i_non (h : Rp O H x .none) : x = .non := by cases h; rfl
theorem Rp.i_lst {ds : List PyData} (h : Rp O H x (.list ds)) : ∃ a xs, x = .ref a ∧ H a = some (.lst xs) ∧ ¬ O a ∧ RpL O H xs ds := by
  cases h with
  | lst e n r => exact ⟨_, _, rfl, e, n, r⟩
theorem Rp.i_tup {ds : List PyData} (h : Rp O H x (.tuple ds)) : ∃ a xs, x = .ref a ∧ H a = some (.tup xs) ∧ ¬ O a ∧ RpL O H xs ds := by
  cases h with
  | tup e n r => exact ⟨_, _, rfl, e, n, r⟩
/-- a list or tuple or dict that may still be written, read -/
theorem Lk.i_lst {ds : List PyData} (h : Lk O H x (.list ds)) : ∃ a xs, x = .ref a ∧ H a = some (.lst xs) ∧ RpL O H xs ds := by
  rcases h with h | ⟨p, rfl, xs, e, r⟩
  · obtain ⟨a, xs, e1, e2, _, r⟩ := h.i_lst
    exact ⟨a, xs, e1, e2, r⟩
  · exact ⟨p, xs, rfl, e, r⟩
theorem Lk.i_tup {ds : List PyData} (h : Lk O H x (.tuple ds)) : ∃ a xs, x = .ref a ∧ H a = some (.tup xs) ∧ RpL O H xs ds := by
  rcases h with h | ⟨p, rfl, r⟩
  · obtain ⟨a, xs, e1, e2, _, r⟩ := h.i_tup
    exact ⟨a, xs, e1, e2, r⟩
  · exact r.elim
theorem Lk.i_str {s : Str} (h : Lk O H x (.str s)) : x = .str s := by
  rcases h with h | ⟨p, rfl, r⟩
  · exact h.i_str
  · exact r.elim
/-- a dict is a dict, or it is the script -/
theorem Lk.i_dct {es : List (PyData × PyData)} (h : Lk O H x (.dict es)) : (∃ a kvs, x = .ref a ∧ H a = some (.dK kvs) ∧ RpD O H kvs es) ∨ ∃ a o ns, x = .ref a ∧ H a = some (.frz o (.lst (ns.map V.int))) ∧ .dict es = scrD ns := by
  rcases h with h | ⟨p, rfl, r⟩
  · cases h with
    | dct e n r => exact .inl ⟨_, _, rfl, e, r⟩
    | scr e n => exact .inr ⟨_, _, _, rfl, e, rfl⟩
  · obtain ⟨kvs, e, r⟩ := r
    exact .inl ⟨p, kvs, rfl, e, r⟩
end
/-- a new thing -/
theorem Rp.newL {O : Ow} {ρ : En} {σ : Sg} {H : Hp} {p : Addr} {xs : List V} {ds : List PyData} (re : RE O ρ σ H) (h : H p = none) (r : RpL O H xs ds) : Rp O (upd H p (.lst xs)) (.ref p) (.list ds) :=
  .lst upd_same (re.new h) (r.kp (.same (same_upd h)))
theorem Rp.newT {O : Ow} {ρ : En} {σ : Sg} {H : Hp} {p : Addr} {xs : List V} {ds : List PyData} (re : RE O ρ σ H) (h : H p = none) (r : RpL O H xs ds) : Rp O (upd H p (.tup xs)) (.ref p) (.tuple ds) :=
  .tup upd_same (re.new h) (r.kp (.same (same_upd h)))
theorem tR.newL {W : WX} {O : Ow} {ρ : En} {σ : Sg} {H : Hp} {Q : VK} {p : Addr} {xs : List V} {ds : List PyData} (h : tR W O (.ok (.list ds)) σ H Q) (re : RE O ρ σ H) (n : H p = none) (r : RpL O H xs ds) : Q (.ref p) (upd H p (.lst xs)) :=
  h _ _ (same_upd n) (Rp.newL re n r)
theorem tR.newT {W : WX} {O : Ow} {ρ : En} {σ : Sg} {H : Hp} {Q : VK} {p : Addr} {xs : List V} {ds : List PyData} (h : tR W O (.ok (.tuple ds)) σ H Q) (re : RE O ρ σ H) (n : H p = none) (r : RpL O H xs ds) : Q (.ref p) (upd H p (.tup xs)) :=
  h _ _ (same_upd n) (Rp.newT re n r)

/-! ## arithmetic -/
def fits (n : Nat) : Bool := decide (n ≤ 16777216)
theorem fits_line {n : Nat} (h : fits n = true) : n ≤ sizeLine := by
  rw [sizeLine_eq]
  exact of_decide_eq_true h
def dAdd : PyData → PyData → Re PyData
  | .int i, .int j => .ok (.int (i + j))
  | .list xs, .list ys => if fits (xs.length + ys.length) then .ok (.list (xs ++ ys)) else .st
  | .tuple xs, .tuple ys => if fits (xs.length + ys.length) then .ok (.tuple (xs ++ ys)) else .st
  | .str x, .str y => if fits (x.length + y.length) then .ok (.str (x ++ y)) else .st
  | _, _ => .st
def rAddD (K : PySem.W.Frag) : R2 := fun x y H Q => (rI0 (fun i j => V.int (i + j)) x y H Q ∨ rCat x y H Q) ∨ (rCatA K x y H Q ∨ (∃ i j, x = .str i ∧ y = .str j ∧ i.length + j.length ≤ sizeLine ∧ Q (.str (i ++ j)) H))
theorem or_add {X : Cx} : OpR X (binaryOp .Add) (rAddD X.K) := (op_add.or op_cat).or (op_catA.or op_add_str)
theorem o_add {W : WX} {K : PySem.W.Frag} : Op2 W dAdd (rAddD K) := by
  intro σ O ρ H x y d e Q re rx ry h
  unfold dAdd at h
  split at h
  · cases rx.i_int; cases ry.i_int
    exact .inl (.inl ⟨_, _, rfl, rfl, h.here (.int _)⟩)
  · split at h
    · rename_i hf
      obtain ⟨a, xs, rfl, ea, na, ra⟩ := rx.i_lst
      obtain ⟨b, ys, rfl, eb, nb, rb⟩ := ry.i_lst
      refine .inl (.inr ⟨a, b, xs, ys, rfl, rfl, ea, eb, ?_, fun p hp => h.newL re hp (ra.app rb)⟩)
      rw [ra.len, rb.len]; exact fits_line hf
    · exact h.elim
  · split at h
    · rename_i hf
      obtain ⟨a, xs, rfl, ea, na, ra⟩ := rx.i_tup
      obtain ⟨b, ys, rfl, eb, nb, rb⟩ := ry.i_tup
      refine .inr (.inl ⟨a, b, xs, ys, rfl, rfl, SqT.of ea, SqT.of eb, ?_, fun e0 => ?_, fun _ e1 => ?_, fun _ _ p hp => h.newT re hp (ra.app rb)⟩)
      · rw [ra.len, rb.len]; exact fits_line hf
      · subst e0
        cases ra
        exact h.here ry
      · subst e1
        cases rb
        rw [List.append_nil] at h
        exact h.here rx
    · exact h.elim
  · split at h
    · rename_i hf
      cases rx.i_str; cases ry.i_str
      exact .inr (.inr ⟨_, _, rfl, rfl, fits_line hf, h.here (.str _)⟩)
    · exact h.elim
  · exact h.elim
section
variable {X : Cx} {W : WX} {a b : Expr} {fa fb : En → Re PyData} {pos : Pos}
theorem de_add (ha : PE X a (tD W fa)) (hb : PE X b (tD W fb)) : PE X (.BinOp a .Add b pos) (tD W (e2 dAdd fa fb)) := de_op or_add o_add ha hb
def dI2 (g : Int → Int → Re PyData) : PyData → PyData → Re PyData
  | .int i, .int j => g i j
  | _, _ => .st
theorem o_I0 {g : Int → Int → PyData} {gv : Int → Int → V} (hg : ∀ O H i j, Rp O H (gv i j) (g i j)) : Op2 W (dI2 fun i j => .ok (g i j)) (rI0 gv) := by
  intro σ O ρ H x y d e Q re rx ry h
  unfold dI2 at h
  split at h
  · cases rx.i_int; cases ry.i_int
    exact ⟨_, _, rfl, rfl, h.here (hg _ _ _ _)⟩
  · exact h.elim
theorem o_IC {C : Int → Int → Prop} {c : Int → Int → Bool} {g : Int → Int → PyData} {gv : Int → Int → V} (hg : ∀ O H i j, Rp O H (gv i j) (g i j)) (hc : ∀ i j, c i j = true → C i j) : Op2 W (dI2 fun i j => if c i j then .ok (g i j) else .st) (rI C gv) := by
  intro σ O ρ H x y d e Q re rx ry h
  unfold dI2 at h
  split at h
  · dsimp only at h
    split at h
    · rename_i hh
      cases rx.i_int; cases ry.i_int
      exact ⟨_, _, rfl, rfl, hc _ _ hh, h.here (hg _ _ _ _)⟩
    · exact h.elim
  · exact h.elim
def dSub : PyData → PyData → Re PyData := dI2 fun i j => .ok (.int (i - j))
theorem de_sub (ha : PE X a (tD W fa)) (hb : PE X b (tD W fb)) : PE X (.BinOp a .Sub b pos) (tD W (e2 dSub fa fb)) := de_op op_sub (o_I0 fun _ _ _ _ => .int _) ha hb
def dMod : PyData → PyData → Re PyData := dI2 fun i j => if (j != 0) then .ok (.int (i.fmod j)) else .st
theorem de_mod (ha : PE X a (tD W fa)) (hb : PE X b (tD W fb)) : PE X (.BinOp a .Mod b pos) (tD W (e2 dMod fa fb)) := de_op op_modN (o_IC (c := fun _ j => j != 0) (fun _ _ _ _ => .int _) fun i j h => by simpa using h) ha hb
def dDiv : PyData → PyData → Re PyData := dI2 fun i j => if (j != 0 && decide (j.natAbs < 1073741824)) then .ok (.int (i.fdiv j)) else .st
theorem de_div (ha : PE X a (tD W fa)) (hb : PE X b (tD W fb)) : PE X (.BinOp a .FloorDiv b pos) (tD W (e2 dDiv fa fb)) :=
  de_op op_fdivN (o_IC (c := fun _ j => j != 0 && decide (j.natAbs < 1073741824)) (fun _ _ _ _ => .int _) fun i j h => by
    simp only [Bool.and_eq_true, bne_iff_ne, ne_eq, decide_eq_true_eq] at h
    exact h) ha hb
def dPow : PyData → PyData → Re PyData := dI2 fun i j => if (decide (0 ≤ j) && decide (j ≤ 1000000) && decide (i.natAbs < 2 ^ 64)) then .ok (.int (i ^ j.toNat)) else .st
theorem de_pow (ha : PE X a (tD W fa)) (hb : PE X b (tD W fb)) : PE X (.BinOp a .Pow b pos) (tD W (e2 dPow fa fb)) :=
  de_op op_pow (o_IC (c := fun i j => decide (0 ≤ j) && decide (j ≤ 1000000) && decide (i.natAbs < 2 ^ 64)) (fun _ _ _ _ => .int _) fun i j h => by
    simp only [Bool.and_eq_true, decide_eq_true_eq] at h
    exact ⟨h.1.1, h.1.2, h.2⟩) ha hb
def mulC (i j : Int) : Bool := (decide (-18446744073709551616 < i) && decide (i < 18446744073709551616)) || (decide (-18446744073709551616 < j) && decide (j < 18446744073709551616))
theorem mulC_ok {i j : Int} (h : mulC i j = true) : CMul i j := by
  unfold mulC at h
  simp only [Bool.or_eq_true, Bool.and_eq_true, decide_eq_true_eq] at h
  unfold CMul
  rcases h with h | h
  · exact .inl ⟨by omega, by omega⟩
  · exact .inr ⟨by omega, by omega⟩
def dMul : PyData → PyData → Re PyData
  | .int i, .int j => if mulC i j then .ok (.int (i * j)) else .st
  | .list xs, .int k => if decide (0 ≤ k) && decide (k ≤ 100000) && decide (xs.length ≤ 100) then .ok (.list (List.replicate k.toNat xs).flatten) else .st
  | .tuple xs, .int k => if !xs.isEmpty && decide (2 ≤ k) && decide (k ≤ 1000) && decide (xs.length ≤ 1000) then .ok (.tuple (List.replicate k.toNat xs).flatten) else .st
  | _, _ => .st
theorem RpL.rep {O : Ow} {H : Hp} {xs : List V} {ds : List PyData} (h : RpL O H xs ds) : ∀ k : Nat, RpL O H (List.replicate k xs).flatten (List.replicate k ds).flatten
  | 0 => .nil
  | k + 1 => by
    rw [List.replicate_succ, List.replicate_succ, List.flatten_cons, List.flatten_cons]
    exact h.app (RpL.rep h k)
theorem o_mul {K : PySem.W.Frag} : Op2 W dMul (fun x y H Q => (rI CMul (fun i j => V.int (i * j)) x y H Q ∨ rRep x y H Q) ∨ rRepT K x y H Q) := by
  intro σ O ρ H x y d e Q re rx ry h
  unfold dMul at h
  split at h
  · split at h
    · rename_i hh
      cases rx.i_int; cases ry.i_int
      exact .inl (.inl ⟨_, _, rfl, rfl, mulC_ok hh, h.here (.int _)⟩)
    · exact h.elim
  · split at h
    · rename_i hh
      simp only [Bool.and_eq_true, decide_eq_true_eq] at hh
      obtain ⟨a, xs, rfl, ea, na, ra⟩ := rx.i_lst
      cases ry.i_int
      have hl := ra.len
      refine .inl (.inr ⟨a, _, xs, rfl, rfl, ea, by omega, by omega, ?_, fun p hp => h.newL re hp (ra.rep _)⟩)
      rw [sizeLine_eq]
      have h1 : xs.length ≤ 100 := by omega
      exact Nat.le_trans (Nat.mul_le_mul h1 (show _ ≤ 100000 by omega)) (by decide)
    · exact h.elim
  · split at h
    · rename_i hh
      simp only [Bool.and_eq_true, decide_eq_true_eq] at hh
      obtain ⟨a, xs, rfl, ea, na, ra⟩ := rx.i_tup
      cases ry.i_int
      have hl := ra.len
      refine .inr ⟨a, _, xs, rfl, rfl, SqT.of ea, fun z => ?_, by omega, by omega, by omega, fun p hp => h.newT re hp (ra.rep _)⟩
      subst z
      cases ra
      exact absurd hh.1.1.1 (by decide)
    · exact h.elim
  · exact h.elim
theorem de_mul (ha : PE X a (tD W fa)) (hb : PE X b (tD W fb)) : PE X (.BinOp a .Mult b pos) (tD W (e2 dMul fa fb)) := de_op ((op_mul.or op_rep).or op_repT) o_mul ha hb
def dNeg : PyData → Re PyData
  | .int i => .ok (.int (-i))
  | _ => .st
theorem de_neg (ha : PE X a (tD W fa)) : PE X (.UnaryOp .USub a pos) (tD W (e1 dNeg fa)) := pe_imp (pe_un un_neg ha) fun σ H Q ⟨ρ, O, re, h⟩ => goD re h fun d x H1 re1 _ rx h1 => by
  unfold dNeg at h1
  split at h1
  · cases rx.i_int
    exact ⟨_, rfl, h1.here (.int _)⟩
  · exact h1.elim
/-! ## comparisons -/
def dLt : PyData → PyData → Re PyData := dI2 fun i j => .ok (.bool (decide (i < j)))
def dLe : PyData → PyData → Re PyData := dI2 fun i j => .ok (.bool (decide (i ≤ j)))
def dGt : PyData → PyData → Re PyData := dI2 fun i j => .ok (.bool (decide (j < i)))
def dGe : PyData → PyData → Re PyData := dI2 fun i j => .ok (.bool (decide (j ≤ i)))
theorem de_lt (ha : PE X a (tD W fa)) (hb : PE X b (tD W fb)) : PE X (.Compare a [.Lt] [b] pos) (tD W (e2 dLt fa fb)) := de_cmp op_lt (o_I0 fun _ _ _ _ => .bl _) ha hb (nomark _)
theorem de_le (ha : PE X a (tD W fa)) (hb : PE X b (tD W fb)) : PE X (.Compare a [.LtE] [b] pos) (tD W (e2 dLe fa fb)) := de_cmp op_le (o_I0 fun _ _ _ _ => .bl _) ha hb (nomark _)
theorem de_gt (ha : PE X a (tD W fa)) (hb : PE X b (tD W fb)) : PE X (.Compare a [.Gt] [b] pos) (tD W (e2 dGt fa fb)) := de_cmp op_gt (o_I0 fun _ _ _ _ => .bl _) ha hb (nomark _)
theorem de_ge (ha : PE X a (tD W fa)) (hb : PE X b (tD W fb)) : PE X (.Compare a [.GtE] [b] pos) (tD W (e2 dGe fa fb)) := de_cmp op_ge (o_I0 fun _ _ _ _ => .bl _) ha hb (nomark _)
/-- data that may be compared: of depth n at most, without dicts -/
def shp : Nat → PyData → Bool
  | _, .none => true
  | _, .bool _ => true
  | _, .int _ => true
  | _, .str x => PyData.strOk x
  | n + 1, .list xs => xs.all (shp n)
  | n + 1, .tuple xs => xs.all (shp n)
  | _, _ => false
theorem shp_all : ∀ (n : Nat), (∀ d : PyData, shp n d = true → d.canLay0 = true ∧ d.depth ≤ n + 1) → ∀ xs : List PyData, xs.all (shp n) = true → PyData.canLayAll0 xs = true ∧ PyData.depthAll xs ≤ n + 1
  | n, _, [], _ => ⟨by simp [PyData.canLayAll0], by simp [PyData.depthAll]⟩
  | n, ih, x :: xs, h => by
    rw [List.all_cons, Bool.and_eq_true] at h
    have h1 := ih x h.1
    have h2 := shp_all n ih xs h.2
    refine ⟨by simp [PyData.canLayAll0, h1.1, h2.1], ?_⟩
    simp only [PyData.depthAll]
    omega
theorem shp_ok : ∀ (n : Nat) (d : PyData), shp n d = true → d.canLay0 = true ∧ d.depth ≤ n + 1
  | n, .none, _ => ⟨by simp [PyData.canLay0], by simp [PyData.depth]⟩
  | n, .bool _, _ => ⟨by simp [PyData.canLay0], by simp [PyData.depth]⟩
  | n, .int _, _ => ⟨by simp [PyData.canLay0], by simp [PyData.depth]⟩
  | n, .str x, h => ⟨by simpa [PyData.canLay0, shp] using h, by simp [PyData.depth]⟩
  | 0, .list xs, h => by simp [shp] at h
  | 0, .tuple xs, h => by simp [shp] at h
  | n + 1, .list xs, h => by
    have q := shp_all n (shp_ok n) xs (by simpa [shp] using h)
    refine ⟨by simp [PyData.canLay0, q.1], ?_⟩
    simp only [PyData.depth]; omega
  | n + 1, .tuple xs, h => by
    have q := shp_all n (shp_ok n) xs (by simpa [shp] using h)
    refine ⟨by simp [PyData.canLay0, q.1], ?_⟩
    simp only [PyData.depth]; omega
  | 0, .dict _, h => by simp [shp] at h
  | n + 1, .dict _, h => by simp [shp] at h
theorem shaped_of {d : PyData} (h : shp 8 d = true) : SeqAt.shaped d = true := by
  have q := shp_ok 8 d h
  unfold SeqAt.shaped
  rw [q.1]
  exact decide_eq_true (by omega)
theorem shp_depth {d : PyData} : True := trivial
mutual
theorem dp_of {K : PySem.W.Frag} {O : Ow} {H : Hp} : ∀ (n : Nat) (d : PyData) {v : V}, shp n d = true → Rp O H v d → Dp K H v d
  | n, .none, _, _, r => by cases r; exact .non
  | n, .bool _, _, _, r => by cases r; exact .bl _
  | n, .int _, _, _, r => by cases r; exact .int _
  | n, .str x, _, _, r => by cases r; exact .str _
  | 0, .list xs, _, h, _ => by simp [shp] at h
  | 0, .tuple xs, _, h, _ => by simp [shp] at h
  | n + 1, .list xs, _, h, r => by
    obtain ⟨a, ys, rfl, e, _, q⟩ := r.i_lst
    exact .lst (SqL.of e) (dps_of n xs (by simpa only [shp] using h) q)
  | n + 1, .tuple xs, _, h, r => by
    obtain ⟨a, ys, rfl, e, _, q⟩ := r.i_tup
    exact .tup (SqT.of e) (dps_of n xs (by simpa only [shp] using h) q)
  | 0, .dict _, _, h, _ => by simp [shp] at h
  | n + 1, .dict _, _, h, _ => by simp [shp] at h
theorem dps_of {K : PySem.W.Frag} {O : Ow} {H : Hp} : ∀ (n : Nat) (ds : List PyData) {vs : List V}, ds.all (shp n) = true → RpL O H vs ds → DpAll K H vs ds
  | n, [], _, _, r => by cases r; exact .nil
  | n, d :: ds, _, h, r => by
    rw [List.all_cons, Bool.and_eq_true] at h
    cases r with
    | cons r1 r2 => exact .cons (dp_of n d h.1 r1) (dps_of n ds h.2 r2)
end
def dEq (d e : PyData) : Re PyData := if shp 8 d && shp 8 e then .ok (.bool (PyData.eqv d e)) else .st
def dNe (d e : PyData) : Re PyData := if shp 8 d && shp 8 e then .ok (.bool (!PyData.eqv d e)) else .st
theorem o_eq {K : PySem.W.Frag} : Op2 W dEq (rEqD K) := by
  intro σ O ρ H x y d e Q re rx ry h
  unfold dEq at h
  split at h
  · rename_i hh
    rw [Bool.and_eq_true] at hh
    exact ⟨d, e, dp_of 8 d hh.1 rx, dp_of 8 e hh.2 ry, shaped_of hh.1, shaped_of hh.2, h.here (.bl _)⟩
  · exact h.elim
theorem o_ne {K : PySem.W.Frag} : Op2 W dNe (rNeD K) := by
  intro σ O ρ H x y d e Q re rx ry h
  unfold dNe at h
  split at h
  · rename_i hh
    rw [Bool.and_eq_true] at hh
    exact ⟨d, e, dp_of 8 d hh.1 rx, dp_of 8 e hh.2 ry, shaped_of hh.1, shaped_of hh.2, h.here (.bl _)⟩
  · exact h.elim
theorem de_eq (hu : X.A.units + 64 < cLine) (ha : PE X a (tD W fa)) (hb : PE X b (tD W fb)) : PE X (.Compare a [.Eq] [b] pos) (tD W (e2 dEq fa fb)) := de_cmp (op_eqD hu) o_eq ha hb (nomark _)
theorem de_ne (hu : X.A.units + 64 < cLine) (ha : PE X a (tD W fa)) (hb : PE X b (tD W fb)) : PE X (.Compare a [.NotEq] [b] pos) (tD W (e2 dNe fa fb)) := de_cmp (op_neD hu) o_ne ha hb (nomark _)
/-! is None -/
def isNone : PyData → Bool
  | .none => true
  | _ => false
theorem Rp.nonD {O : Ow} {H : Hp} {x : V} {d : PyData} (r : Rp O H x d) : decide (x = .non) = isNone d := by
  cases r <;> first | rfl | exact decide_eq_false (fun z => nomatch z)
def dIsN (d : PyData) : Re PyData := .ok (.bool (isNone d))
def dNotN (d : PyData) : Re PyData := .ok (.bool (!isNone d))
theorem de_isN {j : Nat} {p : Pos} (ha : PE X a (tD W fa)) : PE X (.Compare a [.Is] [.Constant .none j p] pos) (tD W (e1 dIsN fa)) := pe_imp (pe_cmpR op_isN ha pe_non (nomark _)) fun σ H Q ⟨ρ, O, re, h⟩ => goD re h fun d x H1 re1 _ rx h1 =>
  ⟨rfl, by rw [rx.nonD]; exact h1.here (.bl _)⟩
theorem de_notN {j : Nat} {p : Pos} (ha : PE X a (tD W fa)) : PE X (.Compare a [.IsNot] [.Constant .none j p] pos) (tD W (e1 dNotN fa)) := pe_imp (pe_cmpR op_notN ha pe_non (nomark _)) fun σ H Q ⟨ρ, O, re, h⟩ => goD re h fun d x H1 re1 _ rx h1 =>
  ⟨rfl, by rw [rx.nonD]; exact h1.here (.bl _)⟩
/-! low <= x <= high -/
def eChain (fa fb fc : En → Re PyData) : En → Re PyData := fun ρ => (fa ρ).bind fun a => (fb ρ).bind fun b => match a, b with
  | .int i, .int j => if decide (i ≤ j) then (fc ρ).bind (dLe (.int j)) else .ok (.bool false)
  | _, _ => .st
theorem de_chain {c : Expr} {fc : En → Re PyData} (ha : PE X a (tD W fa)) (hb : PE X b (tD W fb)) (hc : PE X c (tD W fc)) : PE X (.Compare a [.LtE, .LtE] [b, c] pos) (tD W (eChain fa fb fc)) :=
  pe_imp (pe_chain op_le op_le ha hb hc (nomark c (op := .LtE))) fun σ H Q ⟨ρ, O, re, h⟩ => goD re h fun d x H1 re1 _ rx h1 => goD re1 h1 fun e y H2 re2 s2 ry h2 => by
    have rx := rx.kp (.same s2)
    split at h2
    · cases rx.i_int; cases ry.i_int
      refine ⟨_, _, rfl, rfl, _, rfl, ?_⟩
      split at h2
      · rename_i hh
        rw [hh]
        refine iteT ?_
        exact goD re2 h2 fun g z H3 re3 s3 rz h3 => by
          cases g with
          | int k =>
            cases rz.i_int
            exact ⟨_, _, rfl, rfl, tR.here (d := .bool (decide (_ ≤ k))) h3 (.bl _)⟩
          | _ => exact h3.elim
      · rename_i hh
        rw [Bool.not_eq_true] at hh
        rw [hh]
        exact iteF (h2.here (.bl _))
    · exact h2.elim
end
end DL

namespace DL
open PySem PySem.Spec L2 PyProof.Rows
section
variable {X : Cx} {W : WX} {a b c : Expr} {fa fb fc : En → Re PyData} {ga gb : En → Re Bool} {pos : Pos}

/-! ## tests -/
def asB : PyData → Re Bool
  | .bool b => .ok b
  | _ => .st
def toB (f : En → Re PyData) : En → Re Bool := fun ρ => (f ρ).bind asB
theorem toTest {O : Ow} {σ : Sg} {H : Hp} {r : Re PyData} {Q : Bool → Hp → Prop} (h : tRB W O (r.bind asB) σ H Q) : tR W O r σ H fun x H' => ∃ k, x = .bl k ∧ Q k H' := by
  cases r with
  | ok d =>
    intro v H' s rv
    cases d with
    | bool b => cases rv.i_bl; exact ⟨b, rfl, h H' s⟩
    | _ => exact h.elim
  | ex c p => exact h
  | st => exact h
theorem imp2 {r : R2} {g : PyData → PyData → Re PyData} (hg : Op2 W g r) (σ : Sg) (H : Hp) (Q : VK) (h : DL.tD W (e2 g fa fb) σ H Q) : tOp r (tD W fa) (tD W fb) σ H Q := by
  obtain ⟨ρ, O, re, h⟩ := h
  exact goD re h fun d x H1 re1 _ rx h1 => goD re1 h1 fun e y H2 re2 s2 ry h2 => hg σ O ρ H2 x y d e Q re2 (rx.kp (.same s2)) ry h2
theorem dt_cmpI {op : CmpOp} {r : R2} {ta tb : TE} {f : En → Re PyData} (ho : OpR X (compareOp op) r) (ha : PE X a ta) (hb : PE X b tb) (hm : behindInMarks op b = false) (i : ∀ σ H Q, DL.tD W f σ H Q → tOp r ta tb σ H Q) : PT X (.Compare a [op] [b] pos) (DL.tB W (toB f)) :=
  pt_imp (pt_cmpR ho ha hb hm) fun σ H Q ⟨ρ, O, re, h⟩ => i σ H _ ⟨ρ, O, re, toTest h⟩
theorem dt_lt (ha : PE X a (tD W fa)) (hb : PE X b (tD W fb)) : PT X (.Compare a [.Lt] [b] pos) (DL.tB W (toB (e2 dLt fa fb))) := dt_cmpI op_lt ha hb (nomark _) (imp2 (o_I0 fun _ _ _ _ => .bl _))
theorem dt_le (ha : PE X a (tD W fa)) (hb : PE X b (tD W fb)) : PT X (.Compare a [.LtE] [b] pos) (DL.tB W (toB (e2 dLe fa fb))) := dt_cmpI op_le ha hb (nomark _) (imp2 (o_I0 fun _ _ _ _ => .bl _))
theorem dt_gt (ha : PE X a (tD W fa)) (hb : PE X b (tD W fb)) : PT X (.Compare a [.Gt] [b] pos) (DL.tB W (toB (e2 dGt fa fb))) := dt_cmpI op_gt ha hb (nomark _) (imp2 (o_I0 fun _ _ _ _ => .bl _))
theorem dt_ge (ha : PE X a (tD W fa)) (hb : PE X b (tD W fb)) : PT X (.Compare a [.GtE] [b] pos) (DL.tB W (toB (e2 dGe fa fb))) := dt_cmpI op_ge ha hb (nomark _) (imp2 (o_I0 fun _ _ _ _ => .bl _))
theorem dt_eq (hu : X.A.units + 64 < cLine) (ha : PE X a (tD W fa)) (hb : PE X b (tD W fb)) : PT X (.Compare a [.Eq] [b] pos) (DL.tB W (toB (e2 dEq fa fb))) := dt_cmpI (op_eqD hu) ha hb (nomark _) (imp2 o_eq)
theorem dt_ne (hu : X.A.units + 64 < cLine) (ha : PE X a (tD W fa)) (hb : PE X b (tD W fb)) : PT X (.Compare a [.NotEq] [b] pos) (DL.tB W (toB (e2 dNe fa fb))) := dt_cmpI (op_neD hu) ha hb (nomark _) (imp2 o_ne)
theorem dt_isN {j : Nat} {p : Pos} (ha : PE X a (tD W fa)) : PT X (.Compare a [.Is] [.Constant .none j p] pos) (DL.tB W (toB (e1 dIsN fa))) := dt_cmpI op_isN ha pe_non (nomark _) fun σ H Q ⟨ρ, O, re, h⟩ => goD re h fun d x H1 re1 _ rx h1 =>
  ⟨rfl, by rw [rx.nonD]; exact h1.here (.bl _)⟩
theorem dt_notN {j : Nat} {p : Pos} (ha : PE X a (tD W fa)) : PT X (.Compare a [.IsNot] [.Constant .none j p] pos) (DL.tB W (toB (e1 dNotN fa))) := dt_cmpI op_notN ha pe_non (nomark _) fun σ H Q ⟨ρ, O, re, h⟩ => goD re h fun d x H1 re1 _ rx h1 =>
  ⟨rfl, by rw [rx.nonD]; exact h1.here (.bl _)⟩
theorem impChain (σ : Sg) (H : Hp) (Q : VK) (h : DL.tD W (eChain fa fb fc) σ H Q) : tChain (rI0 fun i j => .bl (decide (i ≤ j))) (rI0 fun i j => .bl (decide (i ≤ j))) (tD W fa) (tD W fb) (tD W fc) σ H Q := by
  obtain ⟨ρ, O, re, h⟩ := h
  exact goD re h fun d x H1 re1 _ rx h1 => goD re1 h1 fun e y H2 re2 s2 ry h2 => by
    have rx := rx.kp (.same s2)
    split at h2
    · cases rx.i_int; cases ry.i_int
      refine ⟨_, _, rfl, rfl, _, rfl, ?_⟩
      split at h2
      · rename_i hh
        rw [hh]
        refine iteT ?_
        exact goD re2 h2 fun g z H3 re3 s3 rz h3 => by
          cases g with
          | int k =>
            cases rz.i_int
            exact ⟨_, _, rfl, rfl, tR.here (d := .bool (decide (_ ≤ k))) h3 (.bl _)⟩
          | _ => exact h3.elim
      · rename_i hh
        rw [Bool.not_eq_true] at hh
        rw [hh]
        exact iteF (h2.here (.bl _))
    · exact h2.elim
theorem dt_chain (ha : PE X a (tD W fa)) (hb : PE X b (tD W fb)) (hc : PE X c (tD W fc)) : PT X (.Compare a [.LtE, .LtE] [b, c] pos) (DL.tB W (toB (eChain fa fb fc))) :=
  pt_imp (pt_chain op_le op_le ha hb hc (nomark c (op := .LtE))) fun σ H Q ⟨ρ, O, re, h⟩ => impChain σ H _ ⟨ρ, O, re, toTest h⟩
/-- truth of any value -/
def truth : PyData → Re Bool
  | .none => .ok false
  | .bool b => .ok b
  | .int i => .ok (i != 0)
  | .str x => if fits x.length then .ok (x.length != 0) else .st
  | .list ds => .ok (!ds.isEmpty)
  | .tuple ds => .ok (!ds.isEmpty)
  | .dict [] => .ok false
  | .dict ((.int _, _) :: _) => .ok true
  | .dict _ => .st
theorem RpL.empty {O : Ow} {H : Hp} {xs : List V} {ds : List PyData} (h : RpL O H xs ds) : xs.isEmpty = ds.isEmpty := by cases h <;> rfl
theorem truth_ok {K : PySem.W.Frag} {O : Ow} {H : Hp} {x : V} {d : PyData} {b : Bool} (h : truth d = .ok b) (r : Lk O H x d) : TruV K x H b := by
  cases d with
  | none =>
    rcases r with r | ⟨p, rfl, r⟩
    · cases r.i_non
      cases h; rfl
    · exact r.elim
  | bool k =>
    rcases r with r | ⟨p, rfl, r⟩
    · cases r.i_bl
      cases h; rfl
    · exact r.elim
  | int i =>
    rcases r with r | ⟨p, rfl, r⟩
    · cases r.i_int
      cases h; rfl
    · exact r.elim
  | str s =>
    cases r.i_str
    have h : (if fits s.length = true then Re.ok (s.length != 0) else Re.st) = Re.ok b := h
    split at h
    · rename_i hf
      cases h
      refine ⟨fits_line hf, ?_⟩
      cases s.length <;> rfl
    · cases h
  | list ds =>
    obtain ⟨a, xs, rfl, e, q⟩ := r.i_lst
    cases h
    exact .inl ⟨xs, SqL.of e, by rw [q.empty]⟩
  | tuple ds =>
    obtain ⟨a, xs, rfl, e, q⟩ := r.i_tup
    cases h
    exact .inr (.inl ⟨xs, SqT.of e, by rw [q.empty]⟩)
  | dict es =>
    rcases r.i_dct with ⟨a, kvs, rfl, e, q⟩ | ⟨a, o, ns, rfl, e, q⟩
    · refine .inr (.inr ⟨kvs, e, ?_⟩)
      cases q with
      | nil => cases h; rfl
      | @cons k v kvs d es r1 r2 =>
        cases k with
        | inl i => cases h; rfl
        | inr s => cases h
    · cases q
      cases h
theorem dt_plain (ha : PE X a (tL W fa)) (he : ∀ whole, isTrue a X.env whole = (do let v ← whole; standAt a.pos; holding [v] (truthy v)) := by intro _; rfl) : PT X a (DL.tB W fun ρ => (fa ρ).bind truth) :=
  pt_imp (pt_truth ha he) fun σ H Q ⟨ρ, O, re, h⟩ => goLB re h fun d x H1 re1 _ rx h1 => by
    cases e : truth d with
    | ok b => rw [e] at h1; exact ⟨b, truth_ok e rx, h1.here⟩
    | ex c p =>
      exfalso
      unfold truth at e
      split at e <;> first | cases e | (split at e <;> cases e)
    | st => rw [e] at h1; exact h1.elim
theorem dt_not (ha : PT X a (DL.tB W ga)) : PT X (.UnaryOp .Not a pos) (DL.tB W fun ρ => (ga ρ).bind fun b => .ok (!b)) := pt_imp (pt_not ha) fun σ H Q ⟨ρ, O, re, h⟩ => goBB re h fun b H1 re1 _ h1 => h1.here
def bAnd (ga gb : En → Re Bool) : En → Re Bool := fun ρ => (ga ρ).bind fun b => if b then gb ρ else .ok false
def bOr (ga gb : En → Re Bool) : En → Re Bool := fun ρ => (ga ρ).bind fun b => if b then .ok true else gb ρ
theorem dw_and1 (ha : PT X a (DL.tB W ga)) : PW X (.BoolOp .And [a] pos) (DL.tB W ga) := pw_and1 ha
theorem dw_or1 (ha : PT X a (DL.tB W ga)) : PW X (.BoolOp .Or [a] pos) (DL.tB W ga) := pw_or1 ha
theorem dw_and {rest : List Expr} (ha : PT X a (DL.tB W ga)) (hb : PW X (.BoolOp .And (b :: rest) pos) (DL.tB W gb)) : PW X (.BoolOp .And (a :: b :: rest) pos) (DL.tB W (bAnd ga gb)) :=
  pw_imp (pw_and ha hb) fun σ H Q ⟨ρ, O, re, h⟩ => goBB re h fun k H1 re1 _ h1 => by
    cases k with
    | true => exact iteT ⟨ρ, O, re1, h1⟩
    | false => exact iteF (h1.here)
theorem dw_or {rest : List Expr} (ha : PT X a (DL.tB W ga)) (hb : PW X (.BoolOp .Or (b :: rest) pos) (DL.tB W gb)) : PW X (.BoolOp .Or (a :: b :: rest) pos) (DL.tB W (bOr ga gb)) :=
  pw_imp (pw_or ha hb) fun σ H Q ⟨ρ, O, re, h⟩ => goBB re h fun k H1 re1 _ h1 => by
    cases k with
    | true => exact iteT (h1.here)
    | false => exact iteF ⟨ρ, O, re1, h1⟩
/-! .. as values -/
def eAnd (fa fb : En → Re PyData) : En → Re PyData := fun ρ => (fa ρ).bind fun d => match d with
  | .bool true => fb ρ
  | .bool false => .ok (.bool false)
  | _ => .st
def eOr (fa fb : En → Re PyData) : En → Re PyData := fun ρ => (fa ρ).bind fun d => match d with
  | .bool true => .ok (.bool true)
  | .bool false => fb ρ
  | _ => .st
theorem de_one {op : BoolOp} (h : PE X a (tD W fa)) : PE X (.BoolOp op [a] pos) (tD W fa) := pe_one h
theorem de_and {rest : List Expr} (ha : PE X a (tD W fa)) (hb : PE X (.BoolOp .And (b :: rest) pos) (tD W fb)) : PE X (.BoolOp .And (a :: b :: rest) pos) (tD W (eAnd fa fb)) :=
  pe_imp (pe_and ha hb) fun σ H Q ⟨ρ, O, re, h⟩ => goD re h fun d x H1 re1 _ rx h1 => by
    split at h1
    · cases rx.i_bl; exact ⟨true, rfl, iteT ⟨ρ, O, re1, h1⟩⟩
    · cases rx.i_bl; exact ⟨false, rfl, iteF (h1.here (.bl _))⟩
    · exact h1.elim
theorem de_or {rest : List Expr} (ha : PE X a (tD W fa)) (hb : PE X (.BoolOp .Or (b :: rest) pos) (tD W fb)) : PE X (.BoolOp .Or (a :: b :: rest) pos) (tD W (eOr fa fb)) :=
  pe_imp (L2.pe_or ha hb) fun σ H Q ⟨ρ, O, re, h⟩ => goD re h fun d x H1 re1 _ rx h1 => by
    split at h1
    · cases rx.i_bl; exact ⟨true, rfl, iteT (h1.here (.bl _))⟩
    · cases rx.i_bl; exact ⟨false, rfl, iteF ⟨ρ, O, re1, h1⟩⟩
    · exact h1.elim
def dNot (d : PyData) : Re PyData := (truth d).bind fun b => .ok (.bool (!b))
theorem goLv {g : PyData → Re PyData} {σ : Sg} {O : Ow} {ρ : En} {H : Hp} {Q R : VK} (re : RE O ρ σ H) (h : tR W O ((fa ρ).bind g) σ H Q) (k : ∀ d x H1, RE O ρ σ H1 → Same H H1 → Lk O H1 x d → tR W O (g d) σ H1 Q → R x H1) : tL W fa σ H R := goL re h k
theorem de_not (ha : PE X a (tL W fa)) : PE X (.UnaryOp .Not a pos) (tD W (e1 dNot fa)) := pe_imp (pe_notT ha) fun σ H Q ⟨ρ, O, re, h⟩ => goL re h fun d x H1 re1 _ rx h1 => by
  unfold dNot at h1
  cases e : truth d with
  | ok b => rw [e] at h1; exact ⟨b, truth_ok e rx, tR.here (d := .bool (!b)) h1 (.bl _)⟩
  | ex c p =>
    exfalso
    unfold truth at e
    split at e <;> first | cases e | (split at e <;> cases e)
  | st => rw [e] at h1; exact h1.elim
def eIf (gc : En → Re Bool) (fa fb : En → Re PyData) : En → Re PyData := fun ρ => (gc ρ).bind fun b => if b then fa ρ else fb ρ
theorem de_if {gc : En → Re Bool} (hc : PT X c (DL.tB W gc)) (ha : PE X a (tD W fa)) (hb : PE X b (tD W fb)) : PE X (.IfExp c a b pos) (tD W (eIf gc fa fb)) :=
  pe_imp (pe_ifExp hc ha hb) fun σ H Q ⟨ρ, O, re, h⟩ => goB re h fun k H1 re1 _ h1 => by
    cases k with
    | true => exact iteT ⟨ρ, O, re1, h1⟩
    | false => exact iteF ⟨ρ, O, re1, h1⟩

/-! ## argument lists, displays -/
def aNil : En → Re (List PyData) := fun _ => .ok []
def aCons (fa : En → Re PyData) (fs : En → Re (List PyData)) : En → Re (List PyData) := fun ρ => (fa ρ).bind fun d => (fs ρ).bind fun ds => .ok (d :: ds)
theorem da_nil : PA X [] (tA W aNil) := pa_imp pa_nil fun σ H Q ⟨ρ, O, re, h⟩ => h [] H (Same.refl H) .nil
theorem da_cons {es : List Expr} {fs : En → Re (List PyData)} (ha : PE X a (tD W fa)) (hr : PA X es (tA W fs)) (hs : starEach (a :: es) X.env = (false, eval a X.env) :: starEach es X.env := by rfl) : PA X (a :: es) (tA W (aCons fa fs)) :=
  pa_imp (pa_cons ha hr hs) fun σ H Q ⟨ρ, O, re, h⟩ => goDA re h fun d x H1 re1 _ rx h1 => by
    refine ⟨ρ, O, re1, ?_⟩
    cases e : fs ρ with
    | ok ds =>
      rw [e] at h1
      exact fun vs H2 s2 rs => h1 _ H2 s2 (.cons (rx.kp (.same s2)) rs)
    | ex c p => rw [e] at h1; exact h1
    | st => rw [e] at h1; exact h1
def eTup (fs : En → Re (List PyData)) : En → Re PyData := fun ρ => (fs ρ).bind fun ds => if fits ds.length then .ok (.tuple ds) else .st
def eLst (fs : En → Re (List PyData)) : En → Re PyData := fun ρ => (fs ρ).bind fun ds => if fits ds.length then .ok (.list ds) else .st
theorem de_tup {es : List Expr} {fs : En → Re (List PyData)} {k : Nat} (h : PA X es (tA W fs)) : PE X (.Tuple es k pos) (tD W (eTup fs)) :=
  pe_imp (pe_tup h) fun σ H Q ⟨ρ, O, re, h⟩ => goA re h fun ds xs H1 re1 _ rx h1 => by
    split at h1
    · rename_i hf
      exact ⟨by rw [rx.len]; exact fits_line hf, fun p hp => h1.newT re1 hp rx⟩
    · exact h1.elim
theorem de_lst {es : List Expr} {fs : En → Re (List PyData)} (h : PA X es (tA W fs)) : PE X (.List es pos) (tD W (eLst fs)) :=
  pe_imp (pe_lst h) fun σ H Q ⟨ρ, O, re, h⟩ => goA re h fun ds xs H1 re1 _ rx h1 => by
    split at h1
    · rename_i hf
      exact ⟨by rw [rx.len]; exact fits_line hf, fun p hp => h1.newL re1 hp rx⟩
    · exact h1.elim

/-! ## subscripts -/
def keyB : PyData → PyData → Bool
  | .int i, .int j => i == j
  | .str x, .str y => x == y
  | _, _ => false
def lookD (es : List (PyData × PyData)) (k : PyData) : Option PyData := (es.find? fun e => keyB e.1 k).map (·.2)
def isKey : PyData → Bool
  | .int _ => true
  | .str _ => true
  | _ => false
/-- the script's items -/
def scrOf : List (PyData × PyData) → Option (List PyData)
  | [(.none, .list ds)] => some ds
  | _ => none
theorem RpD.noScr {O : Ow} {H : Hp} {kvs : List (Key × V)} {es : List (PyData × PyData)} (r : RpD O H kvs es) : scrOf es = none := by
  cases r with
  | nil => rfl
  | cons r1 r2 =>
    rename_i k _ _ _ _
    cases k <;> rfl
def dAt (ds : List PyData) : PyData → Re PyData
  | .int i => match atI ds i with
    | some d => .ok d
    | none => .st
  | _ => .st
def dSubs : PyData → PyData → Re PyData
  | .list ds, k => dAt ds k
  | .tuple ds, k => dAt ds k
  | .dict es, k => match scrOf es with
    | some ds => dAt ds k
    | none => match lookD es k with
      | some d => .ok d
      | none => .st
  | _, _ => .st
theorem RpL.atI {O : Ow} {H : Hp} {xs : List V} {ds : List PyData} {i : Int} {d : PyData} (h : RpL O H xs ds) (e : L2.atI ds i = some d) : ∃ v, L2.atI xs i = some v ∧ Rp O H v d := by
  unfold L2.atI at e ⊢
  rw [h.len]
  cases q : ixN ds.length i with
  | none => rw [q] at e; cases e
  | some j =>
    rw [q] at e
    exact h.get e
theorem keyB_key {k : Key} {d : PyData} (h : keyB (keyD k) d = true) : d = keyD k := by
  cases k with
  | inl i =>
    cases d with
    | int j => have := of_decide_eq_true h; subst this; rfl
    | _ => cases h
  | inr x =>
    cases d with
    | str y =>
      have e : x = y := by simpa [keyB, keyD] using h
      subst e; rfl
    | _ => cases h
theorem keyB_iff (k j : Key) : keyB (keyD k) (keyD j) = decide (k = j) := by
  cases k with
  | inl i =>
    cases j with
    | inl i2 => by_cases e : i = i2 <;> simp [keyB, keyD, e]
    | inr x => rfl
  | inr x =>
    cases j with
    | inl i2 => rfl
    | inr y => by_cases e : x = y <;> simp [keyB, keyD, e]
theorem RpD.look {O : Ow} {H : Hp} : ∀ {kvs : List (Key × V)} {es : List (PyData × PyData)} (k : Key), RpD O H kvs es → (∃ v d, valV kvs k = some v ∧ lookD es (keyD k) = some d ∧ Rp O H v d) ∨ (valV kvs k = none ∧ lookD es (keyD k) = none)
  | _, _, _, .nil => .inr ⟨rfl, rfl⟩
  | _, _, j, .cons (k := k) (v := v) (kvs := kvs) (d := d) (es := es) r1 r2 => by
    by_cases e : k = j
    · subst e
      refine .inl ⟨v, d, valV_pos rfl, ?_, r1⟩
      unfold lookD
      rw [List.find?_cons, keyB_iff]
      simp
    · have h1 : valV ((k, v) :: kvs) j = valV kvs j := valV_neg e
      have h2 : lookD ((keyD k, d) :: es) (keyD j) = lookD es (keyD j) := by
        unfold lookD
        rw [List.find?_cons, keyB_iff, decide_eq_false e]
      rw [h1, h2]
      exact RpD.look j r2
theorem lookD_key {O : Ow} {H : Hp} {kvs : List (Key × V)} {es : List (PyData × PyData)} {k d : PyData} (r : RpD O H kvs es) (h : lookD es k = some d) : ∃ j, k = keyD j := by
  unfold lookD at h
  cases q : es.find? fun e => keyB e.1 k with
  | none => rw [q] at h; cases h
  | some e =>
    have hb := List.find?_some q
    cases k with
    | int i => exact ⟨.inl i, rfl⟩
    | str x => exact ⟨.inr x, rfl⟩
    | _ =>
      exfalso
      revert hb
      cases e.1 <;> simp [keyB]
theorem rp_key {O : Ow} {H : Hp} {y : V} {k : Key} (h : Rp O H y (keyD k)) : y = kV k := by
  cases k with
  | inl i => exact h.i_int
  | inr x => exact h.i_str
theorem pe_either {e : Expr} {t u : TE} (h1 : PE X e t) (h2 : PE X e u) : PE X e (fun σ H Q => t σ H Q ∨ u σ H Q) := ⟨fun pins s σ H Q I h => h.elim (h1.run pins s σ H Q I) (h2.run pins s σ H Q I)⟩
theorem goLE {f : En → Re PyData} {g : PyData → Re PyData} {σ : Sg} {O : Ow} {ρ : En} {H : Hp} {Q R : VK} (re : RE O ρ σ H) (h : tR W O ((f ρ).bind g) σ H Q) (k : ∀ d x H1, f ρ = .ok d → RE O ρ σ H1 → Same H H1 → Lk O H1 x d → tR W O (g d) σ H1 Q → R x H1) : tL W f σ H R := by
  refine ⟨ρ, O, re, ?_⟩
  cases e : f ρ with
  | ok d =>
    rw [e] at h
    exact fun v H1 s q => k d v H1 e (re.same s) s q (tR.same h s)
  | ex c p => rw [e] at h; exact h
  | st => rw [e] at h; exact h
/-- is it a dict, not the script -/
def isDct : Re PyData → Bool
  | .ok (.dict es) => (scrOf es).isNone
  | _ => false
theorem Lk.same {O : Ow} {H H' : Hp} {x : V} {d : PyData} (r : Lk O H x d) (s : Same H H') : Lk O H' x d := by
  rcases r with r | ⟨p, e, r⟩
  · exact .inl (r.kp (.same s))
  · exact .inr ⟨p, e, r.same s⟩
theorem dAt_ok {O : Ow} {ρ : En} {σ : Sg} {H : Hp} {Q : VK} {xs : List V} {ds : List PyData} {k : PyData} {y : V} (q : RpL O H xs ds) (ry : Rp O H y k) (h : tR W O (dAt ds k) σ H Q) : ∃ i v, y = .int i ∧ L2.atI xs i = some v ∧ Q v H := by
  cases k with
  | int i =>
    cases ry.i_int
    have h : tR W O (match L2.atI ds i with
      | some d => Re.ok d
      | none => Re.st) σ H Q := h
    split at h
    · rename_i d' hd'
      obtain ⟨v, e1, r⟩ := q.atI hd'
      exact ⟨i, v, rfl, e1, h.here r⟩
    · exact h.elim
  | _ => exact h.elim
theorem de_subs (hu : X.A.units + 1 < cLine) (ha : PE X a (tL W fa)) (hb : PE X b (tD W fb)) (hs : PlainIx b := by intro _ _; rfl) (hn : NoSl b := by intro _ _; rfl) : PE X (.Subscript a b pos) (tD W (e2 dSubs fa fb)) := by
  refine pe_imp (pe_either (pe_ix ix_seq ha hb hs) (pe_dget hu ha hb hn)) fun σ H Q ⟨ρ, O, re, h⟩ => ?_
  cases hd : isDct (fa ρ) with
  | true =>
    refine .inr (goLE re h fun d x H1 e re1 _ rx h1 => goD re1 h1 fun k y H2 re2 s2 ry h2 => ?_)
    rw [e] at hd
    cases d with
    | dict es =>
      have hn : scrOf es = none := Option.isNone_iff_eq_none.mp hd
      unfold dSubs at h2
      simp only [hn] at h2
      rcases (rx.same s2).i_dct with ⟨a, kvs, rfl, ea, q⟩ | ⟨a, o, ns, rfl, ea, q⟩
      · split at h2
        · rename_i dv hl
          obtain ⟨j, rfl⟩ := lookD_key q hl
          cases rp_key ry
          rcases q.look j with ⟨v, d', e1, e2, r⟩ | ⟨_, e2⟩
          · rw [hl] at e2
            cases e2
            exact ⟨a, v, rfl, .inl ⟨kvs, j, .inl ea, rfl, e1.symm⟩, h2.here r⟩
          · rw [hl] at e2; cases e2
        · exact h2.elim
      · cases q; cases hn
    | _ => cases hd
  | false =>
    refine .inl (goLE re h fun d x H1 e re1 _ rx h1 => goD re1 h1 fun k y H2 re2 s2 ry h2 => ?_)
    rw [e] at hd
    have rx2 := rx.same s2
    cases d with
    | list ds =>
      obtain ⟨a, xs, rfl, ea, q⟩ := rx2.i_lst
      obtain ⟨i, v, rfl, e1, r⟩ := dAt_ok (ρ := ρ) q ry h2
      exact .inl ⟨a, xs, _, v, rfl, rfl, SqL.of ea, e1, r⟩
    | tuple ds =>
      obtain ⟨a, xs, rfl, ea, q⟩ := rx2.i_tup
      obtain ⟨i, v, rfl, e1, r⟩ := dAt_ok (ρ := ρ) q ry h2
      exact .inr (.inl ⟨a, xs, _, v, rfl, rfl, SqT.of ea, e1, r⟩)
    | dict es =>
      rcases rx2.i_dct with ⟨a, kvs, rfl, ea, q⟩ | ⟨a, o, ns, rfl, ea, q⟩
      · have hn := q.noScr
        have hd : (scrOf es).isNone = false := hd
        rw [hn] at hd
        cases hd
      · cases q
        obtain ⟨i, v, rfl, e1, r⟩ := dAt_ok (ρ := ρ) (RpL.ofInts (O := O) (H := H2) ns) ry h2
        exact .inl ⟨a, _, _, v, rfl, rfl, .inl (.inr ⟨o, ea⟩), e1, r⟩
    | _ => exact h2.elim
end
end DL

namespace DL
open PySem PySem.Spec L2 PyProof.Rows
section
variable {X : Cx} {W : WX} {a b c : Expr} {fa fb fc : En → Re PyData} {ga gb : En → Re Bool} {pos : Pos}

/-! ## slices -/
def cutD (ds : List PyData) (lo hi : Option Int) : List PyData := (ds.drop (HT.sIx ds.length 0 lo)).take (HT.sIx ds.length ds.length hi - HT.sIx ds.length 0 lo)
theorem RpL.cut {O : Ow} {H : Hp} {xs : List V} {ds : List PyData} (h : RpL O H xs ds) (lo hi : Option Int) : RpL O H (cutV xs lo hi) (cutD ds lo hi) := by
  unfold cutV cutD
  rw [h.len]
  exact (h.drop _).take _
/-- an optional part of a slice -/
def oNone : En → Re (Option Int) := fun _ => .ok none
def oSome (f : En → Re PyData) : En → Re (Option Int) := fun ρ => (f ρ).bind fun d => match d with
  | .int i => .ok (some i)
  | _ => .st
def dSlice (d : PyData) (lo hi : Option Int) : Re PyData := match d with
  | .list ds => .ok (.list (cutD ds lo hi))
  | .tuple ds => .ok (.tuple (cutD ds lo hi))
  | .str x => if fits x.length then .ok (.str (cutS x lo hi)) else .st
  | _ => .st
def eSlice (fa : En → Re PyData) (fl fh : En → Re (Option Int)) : En → Re PyData := fun ρ => (fa ρ).bind fun d => (fl ρ).bind fun lo => (fh ρ).bind fun hi => dSlice d lo hi
/-- a slice's part, read -/
def tRO (W : WX) (O : Ow) (r : Re (Option Int)) (σ : Sg) (H : Hp) (Q : Option Int → Hp → Prop) : Prop := match r with
  | .ok b => ∀ H', Same H H' → Q b H'
  | .ex c p => ∀ H', Same H H' → XW W σ O H' c p
  | .st => False
def tO (W : WX) (f : En → Re (Option Int)) : TO := fun σ H Q => ∃ ρ O, RE O ρ σ H ∧ tRO W O (f ρ) σ H Q
theorem po_imp {e : Option Expr} {t t' : TO} (h : PO X e t) (i : ∀ σ H Q, t' σ H Q → t σ H Q) : PO X e t' := by
  refine ⟨fun pins s σ H Q I q => ?_⟩
  exact h.run pins s σ H Q I (i σ H Q q)
theorem do_none : PO X none (tO W oNone) := po_imp po_none fun σ H Q ⟨ρ, O, re, h⟩ => h H (Same.refl H)
theorem do_some {e : Expr} {f : En → Re PyData} (h : PE X e (tD W f)) : PO X (some e) (tO W (oSome f)) := po_imp (po_some h) fun σ H Q ⟨ρ, O, re, q⟩ => by
  refine ⟨ρ, O, re, ?_⟩
  unfold oSome at q
  cases e : f ρ with
  | ok d =>
    rw [e] at q
    intro v H1 s r
    cases d with
    | int i => cases r.i_int; exact ⟨i, rfl, q H1 s⟩
    | _ => exact q.elim
  | ex c p => rw [e] at q; exact q
  | st => rw [e] at q; exact q
theorem goO {f : En → Re (Option Int)} {g : Option Int → Re PyData} {σ : Sg} {O : Ow} {ρ : En} {H : Hp} {Q : VK} {R : Option Int → Hp → Prop} (re : RE O ρ σ H) (h : tR W O ((f ρ).bind g) σ H Q) (k : ∀ d H1, RE O ρ σ H1 → Same H H1 → tR W O (g d) σ H1 Q → R d H1) : tO W f σ H R := by
  refine ⟨ρ, O, re, ?_⟩
  cases e : f ρ with
  | ok d =>
    rw [e] at h
    exact fun H1 s => k d H1 (re.same s) s (tR.same h s)
  | ex c p => rw [e] at h; exact h
  | st => rw [e] at h; exact h
theorem de_slice {lo hi : Option Expr} {fl fh : En → Re (Option Int)} {p2 : Pos} (ha : PE X a (tL W fa)) (hl : PO X lo (tO W fl)) (hh : PO X hi (tO W fh)) : PE X (.Subscript a (.Slice lo hi none p2) pos) (tD W (eSlice fa fl fh)) :=
  pe_imp (pe_slice (sl_list.or (sl_tupA.or sl_str)) ha hl hh) fun σ H Q ⟨ρ, O, re, h⟩ => goL re h fun d x H1 re1 _ rx h1 => goO re1 h1 fun l H2 re2 s2 h2 => goO re2 h2 fun u H3 re3 s3 h3 => by
    have rx := rx.same (s2.trans s3)
    cases d with
    | list ds =>
      obtain ⟨a, xs, rfl, ea, q⟩ := rx.i_lst
      exact .inl ⟨a, xs, rfl, SqL.of ea, fun p hp => h3.newL re3 hp (q.cut l u)⟩
    | tuple ds =>
      rcases rx with r | ⟨p, e, r⟩
      · obtain ⟨a, xs, rfl, ea, na, q⟩ := r.i_tup
        refine .inr (.inl ⟨a, xs, rfl, SqT.of ea, fun ⟨z1, z2⟩ => ?_, fun _ p hp => h3.newT re3 hp (q.cut l u)⟩)
        have e : cutD ds l u = ds := by
          unfold cutD
          rw [← q.len, z1, z2, List.drop_zero, Nat.sub_zero, q.len, List.take_length]
        have h3 : tR W O (.ok (.tuple (cutD ds l u))) σ H3 Q := h3
        rw [e] at h3
        exact h3.here r
      · exact r.elim
    | str z =>
      cases rx.i_str
      have h3 : tR W O (if fits z.length then .ok (.str (cutS z l u)) else .st) σ H3 Q := h3
      split at h3
      · rename_i hf
        exact .inr (.inr ⟨z, rfl, fits_line hf, h3.here (.str _)⟩)
      · exact h3.elim
    | _ => exact h3.elim
/-- x[::-1] of a list -/
def dRev : PyData → Re PyData
  | .list ds => .ok (.list ds.reverse)
  | _ => .st
theorem de_revL {k : Nat} {p1 p2 p3 : Pos} (ha : PE X a (tL W fa)) : PE X (.Subscript a (.Slice none none (some (.UnaryOp .USub (.Constant (.int 1) k p1) p2)) p3) pos) (tD W (e1 dRev fa)) :=
  pe_imp (pe_revL ha) fun σ H Q ⟨ρ, O, re, h⟩ => goL re h fun d x H1 re1 _ rx h1 => by
    cases d with
    | list ds =>
      obtain ⟨a, xs, rfl, ea, q⟩ := rx.i_lst
      exact ⟨a, xs, rfl, SqL.of ea, fun p hp => h1.newL re1 hp q.rev⟩
    | _ => exact h1.elim

/-! ## in -/
def flatD : PyData → Bool
  | .none => true
  | .bool _ => true
  | .int _ => true
  | .str _ => true
  | _ => false
theorem flat_of {O : Ow} {H : Hp} {x : V} {d : PyData} (r : Rp O H x d) (h : flatD d = true) : flatV x = true := by
  cases r <;> first | rfl | cases h
theorem flats_of {O : Ow} {H : Hp} : ∀ {xs : List V} {ds : List PyData}, RpL O H xs ds → ds.all flatD = true → xs.all flatV = true
  | _, _, .nil, _ => rfl
  | _, _, .cons a b, h => by
    rw [List.all_cons, Bool.and_eq_true] at h ⊢
    exact ⟨flat_of a h.1, flats_of b h.2⟩
theorem eqV_of {O : Ow} {H : Hp} {x y : V} {d e : PyData} (r : Rp O H x d) (q : Rp O H y e) (h : flatD d = true) (h2 : flatD e = true) : eqV x y = PyData.eqv d e := by
  cases r <;> cases q <;> first | rfl | (simp [eqV, PyData.eqv]; done) | cases h | cases h2
theorem inV_of {O : Ow} {H : Hp} {y : V} {e : PyData} (q : Rp O H y e) (h2 : flatD e = true) : ∀ {xs : List V} {ds : List PyData}, RpL O H xs ds → ds.all flatD = true → inV y xs = ds.any fun z => PyData.eqv z e
  | _, _, .nil, _ => rfl
  | _, _, .cons a b, h => by
    rw [List.all_cons, Bool.and_eq_true] at h
    have ih := inV_of q h2 b h.2
    unfold inV at ih ⊢
    rw [List.any_cons, List.any_cons, ih, eqV_of a q h.1 h2]
def dInB (x c : PyData) : Re Bool := match c with
  | .list ds => if flatD x && ds.all flatD then .ok (ds.any fun z => PyData.eqv z x) else .st
  | .tuple ds => if flatD x && ds.all flatD then .ok (ds.any fun z => PyData.eqv z x) else .st
  | .dict es => match scrOf es with
    | some _ => .st
    | none => if isKey x then .ok (lookD es x).isSome else .st
  | _ => .st
def dIn (x c : PyData) : Re PyData := (dInB x c).bind fun b => .ok (.bool b)
def dNotIn (x c : PyData) : Re PyData := (dInB x c).bind fun b => .ok (.bool (!b))
theorem key_of {x : PyData} (h : isKey x = true) : ∃ k, x = keyD k := by
  cases x with
  | int i => exact ⟨.inl i, rfl⟩
  | str s => exact ⟨.inr s, rfl⟩
  | _ => cases h
theorem RpD.isSome {O : Ow} {H : Hp} {kvs : List (Key × V)} {es : List (PyData × PyData)} (q : RpD O H kvs es) (k : Key) : (valV kvs k).isSome = (lookD es (keyD k)).isSome := by
  rcases q.look k with ⟨v, d, e1, e2, _⟩ | ⟨e1, e2⟩
  · rw [e1, e2]; rfl
  · rw [e1, e2]; rfl
/-- what the membership rules ask: the value first, then the container -/
def rInA (K : PySem.W.Frag) (neg : Bool) : R2 := fun x y H Q => rIn K neg x y H Q ∨ (∃ a o, y = .ref a ∧ DGet H a x o ∧ Q (.bl (if neg then !o.isSome else o.isSome)) H)
theorem dIn_ok {K : PySem.W.Frag} {neg : Bool} {O : Ow} {ρ : En} {σ : Sg} {H : Hp} {Q : VK} {x y : V} {d e : PyData} (rx : Rp O H x d) (ry : Lk O H y e) (h : tR W O ((dInB d e).bind fun b => .ok (.bool (if neg then !b else b))) σ H Q) : rInA K neg x y H Q := by
  cases e with
  | list ds =>
    obtain ⟨a, xs, rfl, ea, q⟩ := ry.i_lst
    unfold dInB at h
    dsimp only at h
    split at h
    · rename_i hf
      rw [Bool.and_eq_true] at hf
      refine .inl ⟨a, xs, rfl, .inl (SqL.of ea), flat_of rx hf.1, flats_of q hf.2, ?_⟩
      rw [inV_of rx hf.1 q hf.2]
      exact h.here (.bl _)
    · exact h.elim
  | tuple ds =>
    obtain ⟨a, xs, rfl, ea, q⟩ := ry.i_tup
    unfold dInB at h
    dsimp only at h
    split at h
    · rename_i hf
      rw [Bool.and_eq_true] at hf
      refine .inl ⟨a, xs, rfl, .inr (SqT.of ea), flat_of rx hf.1, flats_of q hf.2, ?_⟩
      rw [inV_of rx hf.1 q hf.2]
      exact h.here (.bl _)
    · exact h.elim
  | dict es =>
    rcases ry.i_dct with ⟨a, kvs, rfl, ea, q⟩ | ⟨a, o, ns, rfl, ea, q⟩
    · unfold dInB at h
      simp only [q.noScr] at h
      split at h
      · rename_i hk
        obtain ⟨k, rfl⟩ := key_of hk
        cases rp_key rx
        refine .inr ⟨a, _, rfl, DGet.k ea, ?_⟩
        rw [q.isSome]
        exact h.here (.bl _)
      · exact h.elim
    · cases q
      exact h.elim
  | _ => exact h.elim
theorem pc_or {op : CmpOp} {t u : TE} (h1 : PC X op a b t) (h2 : PC X op a b u) : PC X op a b (fun σ H Q => t σ H Q ∨ u σ H Q) := ⟨fun pins s σ H Q I h => h.elim (h1.run pins s σ H Q I) (h2.run pins s σ H Q I)⟩
theorem pc_ofR {op : CmpOp} {r : R2} {ta tb : TE} (ho : OpR X (compareOp op) r) (ha : PE X a ta) (hb : PE X b tb) : PC X op a b (tOp r ta tb) := ⟨fun pins s σ H Q I h => bin ha hb I h fun v u s2 x y H2 I2 rx ry q => ho pins s2 σ H2 x y v u Q I2 rx ry q⟩
theorem or_din (hu : X.A.units + 1 < cLine) : OpR X (compareOp .In) (fun x y H Q => ∃ a o, y = .ref a ∧ DGet H a x o ∧ Q (.bl o.isSome) H) := by
  intro pins s σ H x y v u Q I rx ry h
  obtain ⟨a, o, rfl, g, q⟩ := h
  obtain rfl : u = Value.ref a := ry
  exact d_in hu I g rx fun s' I' => ⟨.bl o.isSome, H, I', rfl, q⟩
theorem or_dnin (hu : X.A.units + 1 < cLine) : OpR X (compareOp .NotIn) (fun x y H Q => ∃ a o, y = .ref a ∧ DGet H a x o ∧ Q (.bl (!o.isSome)) H) := by
  intro pins s σ H x y v u Q I rx ry h
  obtain ⟨a, o, rfl, g, q⟩ := h
  obtain rfl : u = Value.ref a := ry
  exact d_notIn hu I g rx fun s' I' => ⟨.bl (!o.isSome), H, I', rfl, q⟩
theorem or_in (hu : X.A.units + 1 < cLine) : OpR X (compareOp .In) (rInA X.K false) := op_in_seq.or (or_din hu)
theorem or_nin (hu : X.A.units + 1 < cLine) : OpR X (compareOp .NotIn) (rInA X.K true) := op_notIn_seq.or (or_dnin hu)
theorem impIn {neg : Bool} {K : PySem.W.Frag} {g : PyData → PyData → Re PyData} (hg : ∀ d e, g d e = (dInB d e).bind fun b => .ok (.bool (if neg then !b else b))) (σ : Sg) (H : Hp) (Q : VK) (h : DL.tD W (e2 g fa fb) σ H Q) : tOp (rInA K neg) (tD W fa) (tL W fb) σ H Q := by
  obtain ⟨ρ, O, re, h⟩ := h
  refine goD re h fun d x H1 re1 _ rx h1 => goL re1 h1 fun e y H2 re2 s2 ry h2 => ?_
  rw [hg] at h2
  exact dIn_ok (ρ := ρ) (rx.kp (.same s2)) ry h2
theorem noIn (b : Expr) (op : CmpOp) (h : ∀ es k p, b ≠ .Set es k p) : behindInMarks op b = false := by
  cases b <;> first | rfl | exact absurd rfl (h _ _ _)
theorem de_in (hu : X.A.units + 1 < cLine) (ha : PE X a (tD W fa)) (hb : PE X b (tL W fb)) (hm : behindInMarks .In b = false := by rfl) : PE X (.Compare a [.In] [b] pos) (tD W (e2 dIn fa fb)) := pe_imp (pe_cmpR (or_in hu) ha hb hm) (impIn fun _ _ => rfl)
theorem de_nin (hu : X.A.units + 1 < cLine) (ha : PE X a (tD W fa)) (hb : PE X b (tL W fb)) (hm : behindInMarks .NotIn b = false := by rfl) : PE X (.Compare a [.NotIn] [b] pos) (tD W (e2 dNotIn fa fb)) := pe_imp (pe_cmpR (or_nin hu) ha hb hm) (impIn fun _ _ => rfl)
theorem dt_in (hu : X.A.units + 1 < cLine) (ha : PE X a (tD W fa)) (hb : PE X b (tL W fb)) (hm : behindInMarks .In b = false := by rfl) : PT X (.Compare a [.In] [b] pos) (DL.tB W (toB (e2 dIn fa fb))) := dt_cmpI (or_in hu) ha hb hm (impIn fun _ _ => rfl)
theorem dt_nin (hu : X.A.units + 1 < cLine) (ha : PE X a (tD W fa)) (hb : PE X b (tL W fb)) (hm : behindInMarks .NotIn b = false := by rfl) : PT X (.Compare a [.NotIn] [b] pos) (DL.tB W (toB (e2 dNotIn fa fb))) := dt_cmpI (or_nin hu) ha hb hm (impIn fun _ _ => rfl)

/-! ## built-in calls -/
def dLen : PyData → Re PyData
  | .list ds => .ok (.int ds.length)
  | .tuple ds => .ok (.int ds.length)
  | .str x => if fits x.length then .ok (.int x.length) else .st
  | .dict es => match scrOf es with
    | some ds => .ok (.int ds.length)
    | none => .st
  | _ => .st
theorem de_len {p : Pos} (hm : X.mg "len" = none) (ha : PE X a (tL W fa)) (hg : Gl X "len" := by rfl) (hs : starEach [a] X.env = (false, eval a X.env) :: starEach [] X.env := by rfl) : PE X (.Call (.Name "len" p) [a] [] pos) (tD W (e1 dLen fa)) :=
  pe_imp (pe_callB call_len hg hm PySem.boot_len (pa_cons ha pa_nil hs) (he := hs)) fun σ H Q ⟨ρ, O, re, h⟩ => goL re h fun d x H1 re1 _ rx h1 => by
    cases d with
    | list ds =>
      obtain ⟨a, xs, rfl, ea, q⟩ := rx.i_lst
      exact ⟨_, ds.length, rfl, .inl ⟨xs, SqL.of ea, q.len.symm⟩, tR.here (d := .int ds.length) h1 (.int _)⟩
    | tuple ds =>
      obtain ⟨a, xs, rfl, ea, q⟩ := rx.i_tup
      exact ⟨_, ds.length, rfl, .inr ⟨xs, SqT.of ea, q.len.symm⟩, tR.here (d := .int ds.length) h1 (.int _)⟩
    | str z =>
      cases rx.i_str
      have h1 : tR W O (if fits z.length then .ok (.int z.length) else .st) σ H1 Q := h1
      split at h1
      · rename_i hf
        exact ⟨_, _, rfl, ⟨fits_line hf, rfl⟩, h1.here (.int _)⟩
      · exact h1.elim
    | dict es =>
      rcases rx.i_dct with ⟨a, kvs, rfl, ea, q⟩ | ⟨a, o, ns, rfl, ea, q⟩
      · exfalso
        unfold dLen at h1
        simp only [q.noScr] at h1
        exact h1
      · cases q
        have h1 : tR W O (.ok (.int ((ns.map PyData.int).length : Nat))) σ H1 Q := h1
        exact ⟨_, _, rfl, .inl ⟨_, .inl (.inr ⟨o, ea⟩), by rw [List.length_map, List.length_map]⟩, h1.here (.int _)⟩
    | _ => exact h1.elim
/-! isinstance of a built-in class -/
inductive Ty where
  | int | bool | tup | lst | str
def Ty.nm : Ty → String
  | .int => "int"
  | .bool => "bool"
  | .tup => "tuple"
  | .lst => "list"
  | .str => "str"
def isTy : Ty → PyData → Bool
  | .int, .int _ => true
  | .int, .bool _ => true
  | .bool, .bool _ => true
  | .tup, .tuple _ => true
  | .lst, .list _ => true
  | .str, .str _ => true
  | _, _ => false
def dIsi (t : Ty) : PyData → Re PyData
  | .dict _ => .st
  | d => .ok (.bool (isTy t d))
theorem isi_all : ∀ (t : Ty), kitB "NoneType" t.nm = some false ∧ kitB "bool" t.nm = some (isTy t (.bool true)) ∧ kitB "int" t.nm = some (isTy t (.int 0)) ∧ kitB "str" t.nm = some (isTy t (.str ⟨#[]⟩)) ∧ kitB "list" t.nm = some (isTy t (.list [])) ∧ kitB "tuple" t.nm = some (isTy t (.tuple []))
  | .int => by decide +kernel
  | .bool => by decide +kernel
  | .tup => by decide +kernel
  | .lst => by decide +kernel
  | .str => by decide +kernel
theorem de_isi (t : Ty) {x : Str} {p p2 : Pos} (hm : X.mg "isinstance" = none) (hmt : X.mg x = none) (ha : PE X a (tD W fa)) (hv : bootBuiltins x = some (.type t.nm)) (hn : x ≠ "__name__") (hd : (x == ("__debug__" : Str)) = false) (hg : Gl X "isinstance" := by rfl) (hgt : Gl X x := by rfl)
    (hs : starEach [a, .Name x p2] X.env = (false, eval a X.env) :: starEach [.Name x p2] X.env := by rfl) (hs2 : starEach [.Name x p2] X.env = (false, eval (.Name x p2) X.env) :: starEach [] X.env := by rfl) (hb : bootBuiltins "isinstance" = some (.builtin "isinstance") := by decide +kernel) (hpl : (backTo pos (starEach [.Name x p2] X.env)).any (·.1) = false := by rfl) :
    PE X (.Call (.Name "isinstance" p) [a, .Name x p2] [] pos) (tD W (e1 (dIsi t) fa)) :=
  pe_imp (pe_callB call_isi hg hm hb (pa_cons ha (pa_cons (pe_bltn (v := .ty t.nm) hgt hmt hv rfl hn hd) pa_nil hs2) hs) (he := hs) (hpl := hpl)) fun σ H Q ⟨ρ, O, re, h⟩ => goD re h fun d x H1 re1 _ rx h1 => by
    obtain ⟨k1, k2, k3, k4, k5, k6⟩ := isi_all t
    cases d with
    | none => cases rx.i_non; exact ⟨_, _, _, _, _, rfl, .ty _, .base .non, kit_ty k1, by cases t <;> exact h1.here (.bl _)⟩
    | bool b => cases rx.i_bl; exact ⟨_, _, _, _, _, rfl, .ty _, .base (.bl _), kit_ty k2, by cases t <;> exact h1.here (.bl _)⟩
    | int b => cases rx.i_int; exact ⟨_, _, _, _, _, rfl, .ty _, .base (.int _), kit_ty k3, by cases t <;> exact h1.here (.bl _)⟩
    | str b => cases rx.i_str; exact ⟨_, _, _, _, _, rfl, .ty _, .base (.str _), kit_ty k4, by cases t <;> exact h1.here (.bl _)⟩
    | list ds =>
      obtain ⟨a, xs, rfl, ea, _, q⟩ := rx.i_lst
      exact ⟨_, _, _, _, _, rfl, .ty _, .base (.lst ea), kit_ty k5, by cases t <;> exact h1.here (.bl _)⟩
    | tuple ds =>
      obtain ⟨a, xs, rfl, ea, _, q⟩ := rx.i_tup
      exact ⟨_, _, _, _, _, rfl, .ty _, .base (.tup ea), kit_ty k6, by cases t <;> exact h1.here (.bl _)⟩
    | dict es => exact h1.elim
end
end DL

namespace DL
open PySem PySem.Spec L2 PyProof.Rows

/-! ## own calls -/
/-- a def's wish about an exception -/
def XQ (E : XK) (O : Ow) (H : Hp) (c : Value) : Option PyData → Prop
  | none => E c none H
  | some d => ∀ a v, H a = some (.xd [("line", v)]) → Rp O H v d → E c (some a) H
/-- a def's promise by a function on data -/
def DSp (n : Nat) (g : List PyData → Re PyData) : Sp := fun vs H Q E => ∃ ds O, vs.length = n ∧ (∀ a, O a → H a ≠ none) ∧ RpL O H vs ds ∧ match g ds with
  | .ok d => ∀ v H', Same H H' → Rp O H' v d → Q v H'
  | .ex c p => ∀ H', Same H H' → XQ E O H' c p
  | .st => False
section
variable {X : Cx} {W : WX} {a b c : Expr} {fa fb fc : En → Re PyData} {ga gb : En → Re Bool} {pos : Pos}
def eCall (g : List PyData → Re PyData) (fs : En → Re (List PyData)) : En → Re PyData := fun ρ => (fs ρ).bind g
theorem de_call {k n : Nat} {f : Addr} {fd : FuncData} {ps : List Str} {g : List PyData → Re PyData} {x : Str} {p : Pos} {e : Expr} {es : List Expr} {fs : En → Re (List PyData)} (F : FnOk X.prog X.w X.K X.mg X.base (L2.CX X.prog X.w) k f fd ps (DSp n g)) (hl : ∀ ds, g ds ≠ .st → ds.length = n)
    (hr : Room k X.A) (hm : X.mg x = some (.ref f)) (hk : PySem.W.keepIn X.K (.ref f) = true) (hb : Binds X.K fd ps []) (tk : Takes X W) (ha : PA X (e :: es) (tA W fs)) (hg : Gl X x := by rfl) (hdb : (x == ("__debug__" : Str)) = false := by decide)
    (he : starEach (e :: es) X.env = (false, eval e X.env) :: starEach es X.env := by rfl) (hpl : (backTo pos (starEach es X.env)).any (·.1) = false := by rfl) :
    PE X (.Call (.Name x p) (e :: es) [] pos) (tD W (eCall g fs)) :=
  pe_imp (pe_callS F hr hg hm hk hb (passAt tk) ha hdb he hpl) fun σ H Q ⟨ρ, O, re, h⟩ => goA re h fun ds xs H1 re1 _ rx h1 => by
    refine ⟨ds, O, ?_, re1.dom, rx, ?_⟩
    · rw [rx.len]
      refine hl ds fun z => ?_
      rw [z] at h1
      exact h1
    · cases e : g ds with
      | ok d => rw [e] at h1; exact h1
      | ex c p =>
        rw [e] at h1
        intro H' s
        have := h1 H' s
        cases p <;> exact this
      | st => rw [e] at h1; exact h1.elim
end

/-! ## the slots as a statement sees them -/
def Os (ρ : En) (σ : Sg) : Ow := fun p => ∃ (i : Nat) (s : Sl), ρ[i]? = some s ∧ s.own σ[i]? p
def Oa (O0 : Ow) (ρ : En) (σ : Sg) : Ow := fun p => O0 p ∨ Os ρ σ p
structure RS (H0 : Hp) (O0 : Ow) (ρ : En) (σ : Sg) (H : Hp) : Prop where
  len : σ.length = ρ.length
  same : Same H0 H
  re : RE (Oa O0 ρ σ) ρ σ H
  fresh : ∀ (i : Nat) (s : Sl) (p : Addr), ρ[i]? = some s → s.own σ[i]? p → H0 p = none
  inj : ∀ (i j : Nat) (s t : Sl) (p : Addr), ρ[i]? = some s → ρ[j]? = some t → s.own σ[i]? p → t.own σ[j]? p → i = j
  dom0 : ∀ a, O0 a → H0 a ≠ none
section
variable {H0 : Hp} {O0 : Ow} {ρ : En} {σ : Sg} {H H' : Hp}
theorem RS.heap (r : RS H0 O0 ρ σ H) (s : Same H H') : RS H0 O0 ρ σ H' := ⟨r.len, r.same.trans s, r.re.same s, r.fresh, r.inj, r.dom0⟩
/-- the slots hold less -/
theorem RS.weak {ρ' : En} (r : RS H0 O0 ρ σ H) (hl : ρ'.length = ρ.length) (h : ∀ (i : Nat) (s : Sl), ρ'[i]? = some s → ρ[i]? = some s ∨ s = .no ∨ ∃ d, s = .va d ∧ ρ[i]? = some (.ow d)) : RS H0 O0 ρ' σ H := by
  have own : ∀ (i : Nat) (s : Sl) (p : Addr), ρ'[i]? = some s → s.own σ[i]? p → ρ[i]? = some s := fun i s p e w => by
    rcases h i _ e with q | q | ⟨d', q, _⟩
    · exact q
    · subst q; exact w.elim
    · subst q; exact w.elim
  have sub : ∀ p, Oa O0 ρ' σ p → Oa O0 ρ σ p := fun p o => by
    rcases o with o | ⟨i, s, e1, e2⟩
    · exact .inl o
    · exact .inr ⟨i, s, own i s p e1 e2, e2⟩
  have k : Kp (Oa O0 ρ σ) H (Oa O0 ρ' σ) H := fun a o e n => ⟨e, fun z => n (sub a z)⟩
  refine ⟨r.len.trans hl.symm, r.same, ⟨r.len.trans hl.symm, fun a o => r.re.dom a (sub a o), fun i s e => ?_⟩, fun i s p e1 e2 => r.fresh i s p (own i s p e1 e2) e2, fun i j s t p e1 e2 e3 e4 => r.inj i j s t p (own i s p e1 e3) (own j t p e2 e4) e3 e4, r.dom0⟩
  rcases h i s e with q | q | ⟨d, q, q2⟩
  · exact (r.re.at_ i s q).tr k (fun p w => .inr ⟨i, s, e, w⟩) fun _ _ _ z => z
  · subst q; trivial
  · subst q
    obtain ⟨p, e1, o, e2⟩ := r.re.at_ i _ q2
    refine ⟨.ref p, e1, ?_⟩
    have no : ¬ Oa O0 ρ' σ p := fun z => by
      rcases z with z | ⟨j, t, f1, f2⟩
      · exact r.dom0 p z (r.fresh i _ p q2 e1)
      · have := r.inj i j _ t p q2 (own j t p f1 f2) e1 f2
        subst this
        rw [e] at f1; cases f1
        exact f2
    cases d with
    | list ds => obtain ⟨xs, f1, f2⟩ := e2; exact .lst f1 no (f2.kp k)
    | dict es => obtain ⟨xs, f1, f2⟩ := e2; exact .dct f1 no (f2.kp k)
    | _ => exact e2.elim
/-- ghosts: what was written is now only read; a slot is forgotten -/
def frz (i : Nat) (ρ : En) : En := match ρ[i]? with
  | some (.ow d) => ρ.set i (.va d)
  | _ => ρ
def fgt (l : List Nat) (ρ : En) : En := l.foldl (fun r i => r.set i .no) ρ
theorem RS.frz (r : RS H0 O0 ρ σ H) (i : Nat) : RS H0 O0 (DL.frz i ρ) σ H := by
  unfold DL.frz
  split
  · rename_i d e
    refine r.weak (by simp) fun j s q => ?_
    by_cases hj : i = j
    · subst hj
      rw [List.getElem?_set_self (List.getElem?_eq_some_iff.mp e).1] at q
      cases q
      exact .inr (.inr ⟨d, rfl, e⟩)
    · rw [List.getElem?_set_ne hj] at q
      exact .inl q
  · exact r
theorem RS.no (r : RS H0 O0 ρ σ H) (i : Nat) : RS H0 O0 (ρ.set i .no) σ H := r.weak (by simp) fun j s q => by
  by_cases hj : i = j
  · subst hj
    by_cases hi : i < ρ.length
    · rw [List.getElem?_set_self hi] at q; cases q; exact .inr (.inl rfl)
    · rw [List.getElem?_eq_none (by simpa using hi)] at q; cases q
  · rw [List.getElem?_set_ne hj] at q; exact .inl q
theorem RS.fgt : ∀ (l : List Nat) {ρ : En}, RS H0 O0 ρ σ H → RS H0 O0 (DL.fgt l ρ) σ H
  | [], _, r => r
  | i :: l, _, r => RS.fgt l (r.no i)
/-- a slot that is set: another one, or it -/
theorem set_at {α : Type} {l : List α} {i j : Nat} {x y : α} (e : (l.set i x)[j]? = some y) : (j = i ∧ y = x ∧ i < l.length) ∨ (j ≠ i ∧ l[j]? = some y) := by
  by_cases hj : i = j
  · subst hj
    by_cases hi : i < l.length
    · rw [List.getElem?_set_self hi] at e; cases e; exact .inl ⟨rfl, rfl, hi⟩
    · rw [List.getElem?_eq_none (by simpa using hi)] at e; cases e
  · rw [List.getElem?_set_ne hj] at e; exact .inr ⟨fun z => hj z.symm, e⟩
/-- a slot is set to a value -/
theorem RS.setV {i : Nat} {v : V} {d : PyData} (r : RS H0 O0 ρ σ H) (hv : Rp (Oa O0 ρ σ) H v d) : RS H0 O0 (ρ.set i (.va d)) (σ.set i (some v)) H := by
  have own : ∀ (j : Nat) (s : Sl) (p : Addr), (ρ.set i (.va d))[j]? = some s → s.own (σ.set i (some v))[j]? p → j ≠ i ∧ ρ[j]? = some s ∧ s.own σ[j]? p := fun j s p q w => by
    rcases set_at q with ⟨_, rfl, _⟩ | ⟨n, q⟩
    · exact w.elim
    · rw [List.getElem?_set_ne (Ne.symm n)] at w
      exact ⟨n, q, w⟩
  have sub : ∀ p, Oa O0 (ρ.set i (.va d)) (σ.set i (some v)) p → Oa O0 ρ σ p := fun p o => by
    rcases o with o | ⟨j, s, e1, e2⟩
    · exact .inl o
    · obtain ⟨n, e1, e2⟩ := own j s p e1 e2
      exact .inr ⟨j, s, e1, e2⟩
  have k : Kp (Oa O0 ρ σ) H (Oa O0 (ρ.set i (.va d)) (σ.set i (some v))) H := fun a o e n => ⟨e, fun z => n (sub a z)⟩
  refine ⟨by simpa using r.len, r.same, ⟨by simpa using r.len, fun a o => r.re.dom a (sub a o), fun j s e => ?_⟩, fun j s p e1 e2 => ?_, fun j l s t p e1 e2 e3 e4 => ?_, r.dom0⟩
  · rcases set_at e with ⟨rfl, rfl, hi⟩ | ⟨n, e'⟩
    · exact ⟨v, by rw [List.getElem?_set_self (by rw [r.len]; exact hi)], hv.kp k⟩
    · rw [List.getElem?_set_ne (Ne.symm n)]
      exact (r.re.at_ j s e').tr k (fun p w => .inr ⟨j, s, e, by rw [List.getElem?_set_ne (Ne.symm n)]; exact w⟩) fun _ _ _ z => z
  · obtain ⟨n, e1, e2⟩ := own j s p e1 e2
    exact r.fresh j s p e1 e2
  · obtain ⟨n, e1, e3⟩ := own j s p e1 e3
    obtain ⟨m, e2, e4⟩ := own l t p e2 e4
    exact r.inj j l s t p e1 e2 e3 e4
/-- a slot is set to a thing that is written from now on; the heap changes at this thing alone -/
theorem RS.setS {i : Nat} {v : V} {s' : Sl} {O1 : Ow} (r : RS H0 O0 ρ σ H) (hp : ∀ p, s'.own (some (some v)) p → H0 p = none) (hH : ∀ b o, ¬ s'.own (some (some v)) b → H b = some o → H' b = some o) (hH' : ∀ p, s'.own (some (some v)) p → H' p ≠ none)
    (hO : ∀ a, O1 a ↔ (Oa O0 (ρ.set i .no) σ a ∨ s'.own (some (some v)) a)) (old : ∀ (j : Nat) (t : Sl) (p : Addr), j ≠ i → ρ[j]? = some t → t.own σ[j]? p → ¬ s'.own (some (some v)) p)
    (apart : ∀ a o, H a = some o → ¬ Oa O0 ρ σ a → ¬ s'.own (some (some v)) a) (new : SlR O1 H' (some (some v)) s') (hi : i < ρ.length) : RS H0 O0 (ρ.set i s') (σ.set i (some v)) H' := by
  have hiσ : i < σ.length := by rw [r.len]; exact hi
  have own : ∀ (j : Nat) (s : Sl) (p : Addr), (ρ.set i s')[j]? = some s → s.own (σ.set i (some v))[j]? p → (j = i ∧ s = s' ∧ s'.own (some (some v)) p) ∨ (j ≠ i ∧ ρ[j]? = some s ∧ s.own σ[j]? p) := fun j s p q w => by
    rcases set_at q with ⟨rfl, rfl, _⟩ | ⟨n, q⟩
    · rw [List.getElem?_set_self hiσ] at w
      exact .inl ⟨rfl, rfl, w⟩
    · rw [List.getElem?_set_ne (Ne.symm n)] at w
      exact .inr ⟨n, q, w⟩
  have eqO : ∀ a, Oa O0 (ρ.set i s') (σ.set i (some v)) a ↔ O1 a := fun a => by
    rw [hO]
    constructor
    · rintro (o | ⟨j, s, e1, e2⟩)
      · exact .inl (.inl o)
      · rcases own j s a e1 e2 with ⟨_, _, w⟩ | ⟨n, e1, e2⟩
        · exact .inr w
        · exact .inl (.inr ⟨j, s, by rw [List.getElem?_set_ne (Ne.symm n)]; exact e1, e2⟩)
    · rintro ((o | ⟨j, s, e1, e2⟩) | w)
      · exact .inl o
      · rcases set_at e1 with ⟨rfl, rfl, _⟩ | ⟨n, e1⟩
        · exact e2.elim
        · exact .inr ⟨j, s, by rw [List.getElem?_set_ne (Ne.symm n)]; exact e1, by rw [List.getElem?_set_ne (Ne.symm n)]; exact e2⟩
      · exact .inr ⟨i, s', List.getElem?_set_self hi, by rw [List.getElem?_set_self hiσ]; exact w⟩
  have sub : ∀ a, Oa O0 (ρ.set i .no) σ a → Oa O0 ρ σ a := fun a o => by
    rcases o with o | ⟨j, s, e1, e2⟩
    · exact .inl o
    · rcases set_at e1 with ⟨rfl, rfl, _⟩ | ⟨n, e1⟩
      · exact e2.elim
      · exact .inr ⟨j, s, e1, e2⟩
  have k : Kp (Oa O0 ρ σ) H (Oa O0 (ρ.set i s') (σ.set i (some v))) H' := fun a o e n => by
    refine ⟨hH a o (apart a o e n) e, fun z => ?_⟩
    rcases (hO a).mp ((eqO a).mp z) with z | w
    · exact n (sub a z)
    · exact apart _ o e n w
  have Oeq : Oa O0 (ρ.set i s') (σ.set i (some v)) = O1 := funext fun a => propext (eqO a)
  refine ⟨by simpa using r.len, fun b o e => ?_, ⟨by simpa using r.len, fun a o => ?_, fun j s e => ?_⟩, fun j s q e1 e2 => ?_, fun j l s t q e1 e2 e3 e4 => ?_, r.dom0⟩
  · exact hH b o (fun w => by rw [hp b w] at e; cases e) (r.same b o e)
  · rcases (hO a).mp ((eqO a).mp o) with z | w
    · have := r.re.dom a (sub a z)
      cases q : H a with
      | none => exact absurd q this
      | some o' =>
        by_cases w : s'.own (some (some v)) a
        · exact hH' a w
        · rw [hH a o' w q]; exact fun z => nomatch z
    · exact hH' a w
  · rcases set_at e with ⟨rfl, rfl, _⟩ | ⟨n, e'⟩
    · rw [List.getElem?_set_self hiσ, Oeq]
      exact new
    · rw [List.getElem?_set_ne (Ne.symm n)]
      exact (r.re.at_ j s e').tr k (fun p w => .inr ⟨j, s, e, by rw [List.getElem?_set_ne (Ne.symm n)]; exact w⟩) fun p o w z => hH p o (old j s p n e' w) z
  · rcases own j s q e1 e2 with ⟨rfl, rfl, w⟩ | ⟨n, e1, e2⟩
    · exact hp q w
    · exact r.fresh j s q e1 e2
  · rcases own j s q e1 e3 with ⟨g1, g2, w⟩ | ⟨n, f1, f3⟩
    · rcases own l t q e2 e4 with ⟨h1, h2, w'⟩ | ⟨m, f2, f4⟩
      · rw [g1, h1]
      · exact absurd w (old l t q m f2 f4)
    · rcases own l t q e2 e4 with ⟨h1, h2, w'⟩ | ⟨m, f2, f4⟩
      · exact absurd w' (old j s q n f1 f3)
      · exact r.inj j l s t q f1 f2 f3 f4
/-- a slot is set to a new thing that is written from now on; or a thing that is written is written: new says what stands at p now -/
theorem RS.setO {i : Nat} {p : Addr} {d : PyData} {O1 : Ow} (r : RS H0 O0 ρ σ H) (hp : H0 p = none) (hH : ∀ b o, b ≠ p → H b = some o → H' b = some o) (hH' : H' p ≠ none)
    (hO : ∀ a, O1 a ↔ (Oa O0 (ρ.set i .no) σ a ∨ a = p)) (old : ∀ (j : Nat) (t : Sl), j ≠ i → ρ[j]? = some t → ¬ t.own σ[j]? p)
    (apart : ∀ a o, H a = some o → ¬ Oa O0 ρ σ a → a ≠ p) (new : OwR O1 H' p d) (hi : i < ρ.length) : RS H0 O0 (ρ.set i (.ow d)) (σ.set i (some (.ref p))) H' := by
  have w : ∀ {b : Addr}, (Sl.ow d).own (some (some (.ref p))) b ↔ b = p := fun {b} => ⟨fun z => by cases z; rfl, fun z => by rw [z]; rfl⟩
  refine r.setS (v := .ref p) (s' := .ow d) (O1 := O1) (fun q z => by rw [w.mp z]; exact hp) (fun b o z => hH b o fun e => z (w.mpr e)) (fun q z => by rw [w.mp z]; exact hH') (fun a => by rw [hO, w]) (fun j t q n e1 e2 z => old j t n e1 (by rw [← w.mp z]; exact e2)) (fun a o e n z => apart a o e n (w.mp z)) ⟨p, rfl, (hO p).mpr (.inr rfl), new⟩ hi
end

/-! ## what a statement comes to -/
inductive SR where
  | nx (ρ : En)
  | rt (d : PyData)
  | ex (c : Value) (p : Option PyData) (ρ : En)
  | st
def tS (W : WX) (H0 : Hp) (O0 : Ow) (r : SR) (D : Ends) : Prop := match r with
  | .nx ρ => ∀ σ H, RS H0 O0 ρ σ H → D.nx σ H
  | .rt d => ∀ v H, Same H0 H → Rp O0 H v d → D.rt v H
  | .ex c p ρ => ∀ σ H, RS H0 O0 ρ σ H → XW W σ (Oa O0 ρ σ) H c p
  | .st => False
def sD (W : WX) (f : En → SR) : TS := fun D σ H => ∃ ρ H0 O0, RS H0 O0 ρ σ H ∧ tS W H0 O0 (f ρ) D
/-- an expression's value, then a statement's end -/
def SR.of {α : Type} (r : Re α) (ρ : En) (k : α → SR) : SR := match r with
  | .ok a => k a
  | .ex c p => .ex c p ρ
  | .st => .st
@[simp] theorem SR.of_ok {α : Type} (a : α) (ρ : En) (k : α → SR) : SR.of (.ok a) ρ k = k a := id rfl
@[simp] theorem SR.of_ex {α : Type} (c : Value) (p : Option PyData) (ρ : En) (k : α → SR) : SR.of (.ex c p) ρ k = .ex c p ρ := id rfl
@[simp] theorem SR.of_st {α : Type} (ρ : En) (k : α → SR) : SR.of .st ρ k = .st := id rfl
section
variable {X : Cx} {W : WX} {a b c e : Expr} {fa fb fc fe : En → Re PyData} {ga gb : En → Re Bool} {pos pos' : Pos} {H0 : Hp} {O0 : Ow} {ρ : En} {σ : Sg} {H : Hp} {D : Ends}
theorem goS {k : PyData → SR} {R : VK} (rs : RS H0 O0 ρ σ H) (h : tS W H0 O0 (SR.of (fe ρ) ρ k) D) (q : ∀ d v H1, RS H0 O0 ρ σ H1 → Rp (Oa O0 ρ σ) H1 v d → tS W H0 O0 (k d) D → R v H1) : tD W fe σ H R := by
  refine ⟨ρ, _, rs.re, ?_⟩
  cases e : fe ρ with
  | ok d => rw [e] at h; exact fun v H1 s r => q d v H1 (rs.heap s) r h
  | ex c p => rw [e] at h; exact fun H1 s => h σ H1 (rs.heap s)
  | st => rw [e] at h; exact h
theorem goSB {k : Bool → SR} {R : Bool → Hp → Prop} (rs : RS H0 O0 ρ σ H) (h : tS W H0 O0 (SR.of (ga ρ) ρ k) D) (q : ∀ b H1, RS H0 O0 ρ σ H1 → tS W H0 O0 (k b) D → R b H1) : DL.tB W ga σ H R := by
  refine ⟨ρ, _, rs.re, ?_⟩
  cases e : ga ρ with
  | ok d => rw [e] at h; exact fun H1 s => q d H1 (rs.heap s) h
  | ex c p => rw [e] at h; exact fun H1 s => h σ H1 (rs.heap s)
  | st => rw [e] at h; exact h
/-! ### blocks -/
def sSeq (f g : En → SR) : En → SR := fun ρ => match f ρ with
  | .nx ρ' => g ρ'
  | r => r
theorem tSeq_imp {f g : En → SR} (D : Ends) (σ : Sg) (H : Hp) (h : sD W (sSeq f g) D σ H) : tSeq (sD W f) (sD W g) D σ H := by
  obtain ⟨ρ, H0, O0, rs, h⟩ := h
  refine ⟨ρ, H0, O0, rs, ?_⟩
  unfold sSeq at h
  cases e : f ρ with
  | nx ρ' => rw [e] at h; exact fun σ' H' rs' => ⟨ρ', H0, O0, rs', h⟩
  | rt d => rw [e] at h; exact h
  | ex c p ρ' => rw [e] at h; exact h
  | st => rw [e] at h; exact h
theorem dss_cons {s : Stmt} {ss : List Stmt} {f g : En → SR} (h1 : PS X s (sD W f)) (h2 : PSs X ss (sD W g)) : PSs X (s :: ss) (sD W (sSeq f g)) := pss_imp (pss_cons h1 h2) tSeq_imp
theorem dss_one {s : Stmt} {f : En → SR} (h1 : PS X s (sD W f)) : PSs X [s] (sD W f) := pss_one h1
def sSkip : En → SR := fun ρ => .nx ρ
theorem dss_nil : PSs X [] (sD W sSkip) := pss_imp pss_nil fun D σ H ⟨ρ, H0, O0, rs, h⟩ => h σ H rs
/-- a block that is never reached -/
def sStuck : En → SR := fun _ => .st
theorem dss_never {ss : List Stmt} : PSs X ss (sD W sStuck) := pss_imp pss_never fun D σ H ⟨ρ, H0, O0, rs, h⟩ => h
theorem ds_never {s : Stmt} : PS X s (sD W sStuck) := ps_imp ps_never fun D σ H ⟨ρ, H0, O0, rs, h⟩ => h
theorem ds_pass : PS X (.Pass pos) (sD W sSkip) := ps_imp ps_pass fun D σ H ⟨ρ, H0, O0, rs, h⟩ => h σ H rs
/-- ghosts ahead -/
theorem dss_frz (i : Nat) {ss : List Stmt} {f : En → SR} (h : PSs X ss (sD W f)) : PSs X ss (sD W fun ρ => f (frz i ρ)) := pss_imp h fun D σ H ⟨ρ, H0, O0, rs, h⟩ => ⟨_, H0, O0, rs.frz i, h⟩
theorem dss_fgt (l : List Nat) {ss : List Stmt} {f : En → SR} (h : PSs X ss (sD W f)) : PSs X ss (sD W fun ρ => f (fgt l ρ)) := pss_imp h fun D σ H ⟨ρ, H0, O0, rs, h⟩ => ⟨_, H0, O0, RS.fgt l rs, h⟩
theorem ds_frz (i : Nat) {s : Stmt} {f : En → SR} (h : PS X s (sD W f)) : PS X s (sD W fun ρ => f (frz i ρ)) := ps_imp h fun D σ H ⟨ρ, H0, O0, rs, h⟩ => ⟨_, H0, O0, rs.frz i, h⟩
/-- ghosts behind -/
def sFgt (l : List Nat) (f : En → SR) : En → SR := fun ρ => match f ρ with
  | .nx ρ' => .nx (fgt l ρ')
  | r => r
theorem dss_fgtB (l : List Nat) {ss : List Stmt} {f : En → SR} (h : PSs X ss (sD W f)) : PSs X ss (sD W (sFgt l f)) := pss_imp h fun D σ H ⟨ρ, H0, O0, rs, h⟩ => ⟨ρ, H0, O0, rs, by
  unfold sFgt at h
  cases e : f ρ with
  | nx ρ' => rw [e] at h; exact fun σ' H' rs' => h σ' H' (RS.fgt l rs')
  | rt d => rw [e] at h; exact h
  | ex c p ρ' => rw [e] at h; exact h
  | st => rw [e] at h; exact h⟩
theorem ds_fgtB (l : List Nat) {s : Stmt} {f : En → SR} (h : PS X s (sD W f)) : PS X s (sD W (sFgt l f)) := ps_imp h fun D σ H ⟨ρ, H0, O0, rs, h⟩ => ⟨ρ, H0, O0, rs, by
  unfold sFgt at h
  cases e : f ρ with
  | nx ρ' => rw [e] at h; exact fun σ' H' rs' => h σ' H' (RS.fgt l rs')
  | rt d => rw [e] at h; exact h
  | ex c p ρ' => rw [e] at h; exact h
  | st => rw [e] at h; exact h⟩
/-! ### small statements -/
def sExpr (fe : En → Re PyData) : En → SR := fun ρ => SR.of (fe ρ) ρ fun _ => .nx ρ
theorem ds_expr (he : PE X e (tD W fe)) (hs : swapsWith e none pos.line X.env = pure false := by rfl) : PS X (.Expr e pos) (sD W (sExpr fe)) := ps_imp (ps_expr he hs) fun D σ H ⟨ρ, H0, O0, rs, h⟩ => goS rs h fun d v H1 rs1 _ h1 => h1 σ H1 rs1
def sRet (fe : En → Re PyData) : En → SR := fun ρ => SR.of (fe ρ) ρ .rt
theorem Rp.out {d : PyData} {v : V} (h : Rp (Oa O0 ρ σ) H v d) : Rp O0 H v d := h.kp fun a o e n => ⟨e, fun z => n (.inl z)⟩
theorem ds_ret (he : PE X e (tD W fe)) : PS X (.Return (some e) pos) (sD W (sRet fe)) := ps_imp (ps_ret he) fun D σ H ⟨ρ, H0, O0, rs, h⟩ => goS rs h fun d v H1 rs1 r h1 => h1 v H1 rs1.same r.out
def sIf (gc : En → Re Bool) (f g : En → SR) : En → SR := fun ρ => SR.of (gc ρ) ρ fun b => if b then f ρ else g ρ
theorem ds_if {gc : En → Re Bool} {f g : En → SR} {sa sb : List Stmt} (hc : PT X c (DL.tB W gc)) (ha : PSs X sa (sD W f)) (hb : PSs X sb (sD W g)) : PS X (.If c sa sb pos) (sD W (sIf gc f g)) :=
  ps_imp (ps_if hc ha hb) fun D σ H ⟨ρ, H0, O0, rs, h⟩ => goSB rs h fun k H1 rs1 h1 => by
    cases k with
    | true => exact iteT ⟨ρ, H0, O0, rs1, h1⟩
    | false => exact iteF ⟨ρ, H0, O0, rs1, h1⟩
def sSet (i : Nat) (fe : En → Re PyData) : En → SR := fun ρ => SR.of (fe ρ) ρ fun d => .nx (ρ.set i (.va d))
theorem ds_set (i : Nat) {x : Str} (he : PE X e (tD W fe)) (hN : X.N.Nodup) (hi : X.N[i]? = some x := by rfl) (hx : Loc X.env.scope x := by first | exact Or.inl rfl | exact Or.inr rfl) (hs : swapsWith e (some (.Name x pos')) pos.line X.env = pure false := by rfl)
    (hf : X.fn x = true ∨ X.env.scope.names.lookup x = some .local := by first | exact .inl rfl | exact .inr rfl | assumption) : PS X (.Assign [.Name x pos'] e pos) (sD W (sSet i fe)) :=
  ps_imp (ps_set hN hi hx he hs hf) fun D σ H ⟨ρ, H0, O0, rs, h⟩ => goS rs h fun d v H1 rs1 r h1 => h1 _ H1 (rs1.setV r)
end
end DL

namespace DL
open PySem PySem.Spec L2 PyProof.Rows

/-! ## targets: the slots that a value is laid into -/
abbrev Tg := PyData → Option (List (Nat × PyData))
def tgName (i : Nat) : Tg := fun d => some [(i, d)]
def tgAll : List Tg → List PyData → Option (List (Nat × PyData))
  | [], [] => some []
  | t :: ts, d :: ds => (t d).bind fun l => (tgAll ts ds).bind fun m => some (l ++ m)
  | _, _ => none
def tgTup (ts : List Tg) : Tg
  | .tuple ds => tgAll ts ds
  | _ => none
def putV (σ : Sg) : List (Nat × V) → Sg
  | [] => σ
  | (i, v) :: l => putV (σ.set i (some v)) l
def putD (ρ : En) : List (Nat × PyData) → En
  | [] => ρ
  | (i, d) :: l => putD (ρ.set i (.va d)) l
/-- the same slots, the values as told -/
inductive Lay (O : Ow) (H : Hp) : List (Nat × V) → List (Nat × PyData) → Prop
  | nil : Lay O H [] []
  | cons {i : Nat} {v : V} {d : PyData} {l : List (Nat × V)} {m : List (Nat × PyData)} : Rp O H v d → Lay O H l m → Lay O H ((i, v) :: l) ((i, d) :: m)
theorem Lay.app {O : Ow} {H : Hp} : ∀ {l l' : List (Nat × V)} {m m' : List (Nat × PyData)}, Lay O H l m → Lay O H l' m' → Lay O H (l ++ l') (m ++ m')
  | _, _, _, _, .nil, h => h
  | _, _, _, _, .cons a b, h => .cons a (b.app h)
theorem putV_app : ∀ (l l' : List (Nat × V)) (σ : Sg), putV σ (l ++ l') = putV (putV σ l) l'
  | [], _, _ => rfl
  | (i, v) :: l, l', σ => putV_app l l' _
theorem putV_len : ∀ (l : List (Nat × V)) (σ : Sg), (putV σ l).length = σ.length
  | [], _ => rfl
  | (i, v) :: l, σ => by show (putV (σ.set i (some v)) l).length = _; rw [putV_len l]; simp
theorem Lay.kp {O O' : Ow} {H H' : Hp} (k : Kp O H O' H') : ∀ {l : List (Nat × V)} {m : List (Nat × PyData)}, Lay O H l m → Lay O' H' l m
  | _, _, .nil => .nil
  | _, _, .cons a b => .cons (a.kp k) (b.kp k)
theorem RS.put {H0 : Hp} {O0 : Ow} {H : Hp} : ∀ (l : List (Nat × V)) (m : List (Nat × PyData)) (ρ : En) (σ : Sg), RS H0 O0 ρ σ H → Lay (Oa O0 ρ σ) H l m → RS H0 O0 (putD ρ m) (putV σ l) H
  | [], _, ρ, σ, r, y => by cases y; exact r
  | (i, v) :: l, _, ρ, σ, r, y => by
    cases y with
    | @cons _ _ d _ m a b =>
      have r1 := r.setV (i := i) a
      have k : Kp (Oa O0 ρ σ) H (Oa O0 (ρ.set i (.va d)) (σ.set i (some v))) H := fun x o e n => ⟨e, fun z => n (by
        rcases z with z | ⟨j, e', e1, e2⟩
        · exact .inl z
        · rcases set_at e1 with ⟨_, rfl, _⟩ | ⟨n, e1⟩
          · exact e2.elim
          · rw [List.getElem?_set_ne (Ne.symm n)] at e2
            exact .inr ⟨j, e', e1, e2⟩)⟩
      exact RS.put l m _ _ r1 (b.kp k)
theorem RE.setV {O : Ow} {ρ : En} {σ : Sg} {H : Hp} {i : Nat} {v : V} {d : PyData} (r : RE O ρ σ H) (hl : σ.length = ρ.length) (h : Rp O H v d) : RE O (ρ.set i (.va d)) (σ.set i (some v)) H := by
  refine ⟨by simpa using hl, r.dom, fun j s e => ?_⟩
  by_cases hj : i = j
  · subst hj
    by_cases hi : i < ρ.length
    · rw [List.getElem?_set_self hi] at e; cases e
      exact ⟨v, List.getElem?_set_self (by rw [hl]; exact hi), h⟩
    · rw [List.getElem?_eq_none (by simpa using hi)] at e; cases e
  · rw [List.getElem?_set_ne hj] at e
    rw [List.getElem?_set_ne hj]
    exact r.at_ j s e
theorem RE.put {O : Ow} {H : Hp} : ∀ (l : List (Nat × V)) (m : List (Nat × PyData)) (ρ : En) (σ : Sg), RE O ρ σ H → σ.length = ρ.length → Lay O H l m → RE O (putD ρ m) (putV σ l) H
  | [], _, ρ, σ, r, _, y => by cases y; exact r
  | (i, v) :: l, _, ρ, σ, r, hl, y => by
    cases y with
    | @cons _ _ d _ m a b => exact RE.put l m (ρ.set i (.va d)) (σ.set i (some v)) (r.setV (i := i) hl a) (by simpa using hl) b
def gA (t : Tg) : TG := fun v σ H Q => ∃ O d m, Rp O H v d ∧ t d = some m ∧ ∀ l, Lay O H l m → Q (putV σ l) H
def gAs (ts : List Tg) : TGs := fun vs σ H Q => ∃ O ds m, RpL O H vs ds ∧ tgAll ts ds = some m ∧ ∀ l, Lay O H l m → Q (putV σ l) H
section
variable {X : Cx} {W : WX} {pos : Pos}
theorem pg_imp {e : Expr} {t t' : TG} (h : PG X e t) (i : ∀ v σ H Q, t' v σ H Q → t v σ H Q) : PG X e t' := ⟨fun pins s σ H v u Q I r q => h.run pins s σ H v u Q I r (i v σ H Q q)⟩
theorem pgs_imp {e : List Expr} {t t' : TGs} (h : PGs X e t) (i : ∀ v σ H Q, t' v σ H Q → t v σ H Q) : PGs X e t' := ⟨fun pins s σ H v u Q I r q => h.run pins s σ H v u Q I r (i v σ H Q q)⟩
theorem dg_name (i : Nat) {x : Str} (hN : X.N.Nodup) (hi : X.N[i]? = some x := by rfl) (hx : Loc X.env.scope x := by first | exact Or.inl rfl | exact Or.inr rfl) (hf : X.fn x = true ∨ X.env.scope.names.lookup x = some .local := by first | exact .inl rfl | exact .inr rfl | assumption) : PG X (.Name x pos) (gA (tgName i)) :=
  pg_imp (pg_name hN hi hx hf) fun v σ H Q ⟨O, d, m, r, e, q⟩ => by
    cases e
    exact q [(i, v)] (.cons r .nil)
theorem dgs_nil : PGs X [] (gAs []) := pgs_imp pgs_nil fun v σ H Q ⟨O, ds, m, r, e, q⟩ => by
  cases r with
  | nil => cases e; exact ⟨rfl, q [] .nil⟩
  | cons _ _ => cases e
theorem dgs_cons {e : Expr} {es : List Expr} {t : Tg} {ts : List Tg} (h1 : PG X e (gA t)) (h2 : PGs X es (gAs ts)) (hs : (assignEach (e :: es) X.env).map (·.2) = assign e X.env :: (assignEach es X.env).map (·.2) := by rfl) : PGs X (e :: es) (gAs (t :: ts)) :=
  pgs_imp (pgs_cons h1 h2 hs) fun v σ H Q ⟨O, ds, m, r, e, q⟩ => by
    cases r with
    | nil => cases e
    | @cons v vs d ds a b =>
      have e : ((t d).bind fun l => (tgAll ts ds).bind fun m => some (l ++ m)) = some m := e
      cases e1 : t d with
      | none => rw [e1] at e; cases e
      | some l1 =>
        rw [e1] at e
        cases e2 : tgAll ts ds with
        | none => simp [e2] at e
        | some l2 =>
          simp only [e2, Option.bind_some, Option.some.injEq] at e
          subst e
          exact ⟨v, vs, rfl, O, d, l1, a, e1, fun k1 y1 => ⟨O, ds, l2, b, e2, fun k2 y2 => by rw [← putV_app]; exact q _ (y1.app y2)⟩⟩
theorem tgAll_len : ∀ {ts : List Tg} {ds : List PyData} {m : List (Nat × PyData)}, tgAll ts ds = some m → ds.length = ts.length
  | [], [], _, _ => rfl
  | [], _ :: _, _, e => by cases e
  | _ :: _, [], _, e => by cases e
  | t :: ts, d :: ds, m, e => by
    have e : ((t d).bind fun l => (tgAll ts ds).bind fun m => some (l ++ m)) = some m := e
    cases e1 : t d with
    | none => rw [e1] at e; cases e
    | some l1 =>
      rw [e1] at e
      cases e2 : tgAll ts ds with
      | none => simp [e2] at e
      | some l2 => simp [tgAll_len e2]
theorem dg_tup {es : List Expr} {k : Nat} {ts : List Tg} (hc : X.calm = true) (h : PGs X es (gAs ts)) (hn : (assignEach es X.env).length = ts.length := by rfl) (hst : (assignEach es X.env).findIdx? (·.1) = none := by rfl) : PG X (.Tuple es k pos) (gA (tgTup ts)) :=
  pg_imp (pg_tup hc h hn hst) fun v σ H Q ⟨O, d, m, r, e, q⟩ => by
    cases d with
    | tuple ds =>
      obtain ⟨a, xs, rfl, ea, _, rl⟩ := r.i_tup
      exact ⟨a, xs, rfl, SqT.of ea, by rw [rl.len]; exact tgAll_len e, O, ds, m, rl, e, q⟩
    | _ => cases e

/-! ### target = value -/
def sAsg (t : Tg) (fe : En → Re PyData) : En → SR := fun ρ => SR.of (fe ρ) ρ fun d => match t d with
  | some m => .nx (putD ρ m)
  | none => .st
theorem ds_asg {tg e : Expr} {t : Tg} {fe : En → Re PyData} (he : PE X e (tD W fe)) (hg : PG X tg (gA t)) (hs : swapsWithSole [tg] e pos.line X.env = pure false := by rfl) (hw : swappedStores [tg] e X.env = pure none := by rfl)
    (h1 : (assignEach [tg] X.env).map (·.2) = [assign tg X.env] := by rfl) : PS X (.Assign [tg] e pos) (sD W (sAsg t fe)) :=
  ps_imp (ps_asg he hg hs hw h1) fun D σ H ⟨ρ, H0, O0, rs, h⟩ => goS rs h fun d v H1 rs1 r h1 => by
    cases e : t d with
    | none => rw [e] at h1; exact h1.elim
    | some m =>
      rw [e] at h1
      exact ⟨_, d, m, r, e, fun l y => h1 _ _ (RS.put _ _ _ _ rs1 y)⟩
/-- a, b = x, y (both sides written) -/
def sPar (i j : Nat) (fs : En → Re (List PyData)) : En → SR := fun ρ => SR.of (fs ρ) ρ fun ds => match ds with
  | [d, e] => .nx ((ρ.set i (.va d)).set j (.va e))
  | _ => .st
theorem goSA {fs : En → Re (List PyData)} {k : List PyData → SR} {R : List V → Hp → Prop} {H0 : Hp} {O0 : Ow} {ρ : En} {σ : Sg} {H : Hp} {D : Ends} (rs : RS H0 O0 ρ σ H) (h : tS W H0 O0 (SR.of (fs ρ) ρ k) D) (q : ∀ ds vs H1, RS H0 O0 ρ σ H1 → RpL (Oa O0 ρ σ) H1 vs ds → tS W H0 O0 (k ds) D → R vs H1) : tA W fs σ H R := by
  refine ⟨ρ, _, rs.re, ?_⟩
  cases e : fs ρ with
  | ok d => rw [e] at h; exact fun v H1 s r => q d v H1 (rs.heap s) r h
  | ex c p => rw [e] at h; exact fun H1 s => h σ H1 (rs.heap s)
  | st => rw [e] at h; exact h
theorem ds_par (i j : Nat) {x y : Str} {a b : Expr} {fs : En → Re (List PyData)} {px py pt : Pos} {kt k2 pt2} (hc : X.calm = true) (hN : X.N.Nodup) (ha : PA X [a, b] (tA W fs)) (hij : i ≠ j := by decide) (hi : X.N[i]? = some x := by rfl) (hj : X.N[j]? = some y := by rfl)
    (hx : X.env.scope.names.lookup x = some .local := by rfl) (hy : X.env.scope.names.lookup y = some .local := by rfl)
    (hw : swappedStores [.Tuple [.Name x px, .Name y py] kt pt] (.Tuple [a, b] k2 pt2) X.env = pure (some [x, y]) := by rfl)
    (hs : swapsWithSole [.Tuple [.Name x px, .Name y py] kt pt] (.Tuple [a, b] k2 pt2) pos.line X.env = pure false := by rfl) :
    PS X (.Assign [.Tuple [.Name x px, .Name y py] kt pt] (.Tuple [a, b] k2 pt2) pos) (sD W (sPar i j fs)) :=
  ps_imp (ps_par hc hN hi hj hij hx hy ha hw hs) fun D σ H ⟨ρ, H0, O0, rs, h⟩ => goSA rs h fun ds vs H1 rs1 r h1 => by
    split at h1
    · cases r with
      | cons r1 r =>
        cases r with
        | cons r2 r =>
          cases r
          exact ⟨_, _, rfl, h1 _ _ (RS.put [(i, _), (j, _)] [(i, _), (j, _)] _ _ rs1 (.cons r1 (.cons r2 .nil)))⟩
    · exact h1.elim
/-- x += e (ints) -/
def sAug (i : Nat) (fe : En → Re PyData) : En → SR := fun ρ => match ρ[i]? with
  | some (.va (.int k)) => SR.of (fe ρ) ρ fun d => match d with
    | .int j => .nx (ρ.set i (.va (.int (k + j))))
    | _ => .st
  | _ => .st
theorem ds_aug (i : Nat) {x : Str} {e : Expr} {fe : En → Re PyData} {pos' : Pos} (hN : X.N.Nodup) (he : PE X e (tD W fe)) (hi : X.N[i]? = some x := by rfl) (hx : Loc X.env.scope x := by first | exact Or.inl rfl | exact Or.inr rfl) (hf : X.fn x = true ∨ X.env.scope.names.lookup x = some .local := by first | exact .inl rfl | exact .inr rfl | assumption) :
    PS X (.AugAssign (.Name x pos') .Add e pos) (sD W (sAug i fe)) := ps_imp (ps_aug hN hi hx he ip_add hf) fun D σ H ⟨ρ, H0, O0, rs, h⟩ => by
  unfold sAug at h
  split at h
  · rename_i k ek
    obtain ⟨v, ev, rv⟩ := rs.re.at_ i _ ek
    cases rv.i_int
    refine ⟨_, ev, goS rs h fun d y H1 rs1 r h1 => ?_⟩
    split at h1
    · cases r.i_int
      exact ⟨_, _, rfl, rfl, h1 _ _ (rs1.setV (.int _))⟩
    · exact h1.elim
  · exact h.elim

/-! ## what is walked -/
/-- J walks the items ds while what is only read stands -/
def ItD (O : Ow) (J : It) (ds : List PyData) (H1 : Hp) : Prop := ∀ H2 O2, Kp O H1 O2 H2 → (∀ a, O2 a → H2 a ≠ none) →
  J.stop ds.length H2 ∧ ∀ (i : Nat) (d : PyData), ds[i]? = some d → J.go i H2 ∧ ∀ x H', J.yld i H2 x H' → Same H2 H' ∧ Rp O2 H' x d
def iRD (W : WX) (O : Ow) (r : Re (List PyData)) (σ : Sg) (H : Hp) (R : It → Hp → Prop) : Prop := match r with
  | .ok ds => ∀ J H1, Same H H1 → ItD O J ds H1 → R J H1
  | .ex c p => ∀ H', Same H H' → XW W σ O H' c p
  | .st => False
def iD (W : WX) (f : En → Re (List PyData)) : TI := fun σ H R => ∃ ρ O, RE O ρ σ H ∧ iRD W O (f ρ) σ H R
theorem pi_imp {tg e : Expr} {t t' : TI} (h : PI X tg e t) (i : ∀ σ H Q, t' σ H Q → t σ H Q) : PI X tg e t' := ⟨fun pins s σ H Q I q => h.run pins s σ H Q I (i σ H Q q)⟩
theorem iRD.same {O : Ow} {r : Re (List PyData)} {σ : Sg} {H H1 : Hp} {R : It → Hp → Prop} (h : iRD W O r σ H R) (s : Same H H1) : iRD W O r σ H1 R := by
  cases r with
  | ok ds => exact fun J H2 s2 q => h J H2 (s.trans s2) q
  | ex c p => exact fun H' s' => h H' (s.trans s')
  | st => exact h
theorem goI {f : En → Re PyData} {g : PyData → Re (List PyData)} {σ : Sg} {O : Ow} {ρ : En} {H : Hp} {R : It → Hp → Prop} {T : VK} (re : RE O ρ σ H) (h : iRD W O ((f ρ).bind g) σ H R) (k : ∀ d x H1, RE O ρ σ H1 → Same H H1 → Rp O H1 x d → iRD W O (g d) σ H1 R → T x H1) : tD W f σ H T := by
  refine ⟨ρ, O, re, ?_⟩
  cases e : f ρ with
  | ok d =>
    rw [e] at h
    exact fun v H1 s q => k d v H1 (re.same s) s q (iRD.same h s)
  | ex c p => rw [e] at h; exact h
  | st => rw [e] at h; exact h
theorem goIA {f : En → Re (List PyData)} {g : List PyData → Re (List PyData)} {σ : Sg} {O : Ow} {ρ : En} {H : Hp} {R : It → Hp → Prop} {T : List V → Hp → Prop} (re : RE O ρ σ H) (h : iRD W O ((f ρ).bind g) σ H R) (k : ∀ d x H1, RE O ρ σ H1 → Same H H1 → RpL O H1 x d → iRD W O (g d) σ H1 R → T x H1) : tA W f σ H T := by
  refine ⟨ρ, O, re, ?_⟩
  cases e : f ρ with
  | ok d =>
    rw [e] at h
    exact fun v H1 s q => k d v H1 (re.same s) s q (iRD.same h s)
  | ex c p => rw [e] at h; exact h
  | st => rw [e] at h; exact h
def dItems : PyData → Re (List PyData)
  | .list ds => .ok ds
  | .tuple ds => .ok ds
  | _ => .st
def iList (fa : En → Re PyData) : En → Re (List PyData) := fun ρ => (fa ρ).bind fun d => match d with
  | .list ds => .ok ds
  | _ => .st
def iTup (fa : En → Re PyData) : En → Re (List PyData) := fun ρ => (fa ρ).bind fun d => match d with
  | .tuple ds => .ok ds
  | _ => .st
theorem Kp.rp {O O' : Ow} {H H' : Hp} (k : Kp O H O' H') {v : V} {d : PyData} (h : Rp O H v d) : Rp O' H' v d := h.kp k
theorem Kp.trans {O O1 O2 : Ow} {H H1 H2 : Hp} (a : Kp O H O1 H1) (b : Kp O1 H1 O2 H2) : Kp O H O2 H2 := fun x o e n => b x o (a x o e n).1 (a x o e n).2
theorem it_list {K : PySem.W.Frag} {O : Ow} {H : Hp} {a : Addr} {xs : List V} {ds : List PyData} (e : H a = some (.lst xs)) (n : ¬ O a) (r : RpL O H xs ds) : ItD O (Itl K a) ds H := fun H2 O2 k _ => by
  have e2 := (k a _ e n).1
  have r2 := r.kp k
  refine ⟨⟨xs, SqL.of e2, by rw [r.len]; exact Nat.le_refl _⟩, fun i d hd => ?_⟩
  obtain ⟨v, hv, rv⟩ := r2.get hd
  refine ⟨⟨xs, v, SqL.of e2, hv⟩, fun x H' y => ?_⟩
  obtain ⟨rfl, y⟩ := y
  have := y xs (SqL.of e2)
  rw [hv] at this
  cases this
  exact ⟨Same.refl _, rv⟩
theorem it_tup {K : PySem.W.Frag} {O : Ow} {H : Hp} {a : Addr} {xs : List V} {ds : List PyData} (e : H a = some (.tup xs)) (n : ¬ O a) (r : RpL O H xs ds) : ItD O (Itt K a) ds H := fun H2 O2 k _ => by
  have e2 := (k a _ e n).1
  have r2 := r.kp k
  refine ⟨⟨xs, SqT.of e2, by rw [r.len]; exact Nat.le_refl _⟩, fun i d hd => ?_⟩
  obtain ⟨v, hv, rv⟩ := r2.get hd
  refine ⟨⟨xs, v, SqT.of e2, hv⟩, fun x H' y => ?_⟩
  obtain ⟨rfl, y⟩ := y
  have := y xs (SqT.of e2)
  rw [hv] at this
  cases this
  exact ⟨Same.refl _, rv⟩
def rngD (lo : Int) (n : Nat) : List PyData := (List.range n).map fun i => .int (lo + (i : Nat))
theorem it_rng {O : Ow} {H : Hp} (lo : Int) (n : Nat) : ItD O (Itr lo n) (rngD lo n) H := fun H2 O2 k _ => by
  refine ⟨by show n ≤ (rngD lo n).length; unfold rngD; simp, fun i d hd => ?_⟩
  unfold rngD at hd
  rw [List.getElem?_map] at hd
  have hi : i < n := by
    by_cases h : i < n
    · exact h
    · rw [List.getElem?_eq_none (by simpa using h)] at hd; cases hd
  rw [List.getElem?_range hi] at hd
  cases hd
  refine ⟨hi, fun x H' y => ?_⟩
  obtain ⟨rfl, rfl⟩ := y
  exact ⟨Same.refl _, .int _⟩
theorem di_list {tg l : Expr} {fa : En → Re PyData} (hl : PE X l (tD W fa)) : PI X tg l (iD W (DL.iList fa)) := pi_imp (pi_list hl) fun σ H R ⟨ρ, O, re, h⟩ => goI re h fun d x H1 re1 _ rx h1 => by
  split at h1
  · obtain ⟨a, xs, rfl, ea, na, q⟩ := rx.i_lst
    exact ⟨a, rfl, ⟨xs, SqL.of ea⟩, h1 _ H1 (Same.refl _) (it_list ea na q)⟩
  · exact h1.elim
theorem di_tup {tg l : Expr} {fa : En → Re PyData} (hl : PE X l (tD W fa)) : PI X tg l (iD W (DL.iTup fa)) := pi_imp (pi_tup hl) fun σ H R ⟨ρ, O, re, h⟩ => goI re h fun d x H1 re1 _ rx h1 => by
  split at h1
  · obtain ⟨a, xs, rfl, ea, na, q⟩ := rx.i_tup
    exact ⟨a, rfl, ⟨xs, SqT.of ea⟩, h1 _ H1 (Same.refl _) (it_tup ea na q)⟩
  · exact h1.elim
def bigB (j : Int) : Bool := decide (-1000000000 ≤ j) && decide (j ≤ 1000000000)
def iRng1 (fs : En → Re (List PyData)) : En → Re (List PyData) := fun ρ => (fs ρ).bind fun ds => match ds with
  | [.int j] => if bigB j then .ok (rngD 0 j.toNat) else .st
  | _ => .st
def iRng2 (fs : En → Re (List PyData)) : En → Re (List PyData) := fun ρ => (fs ρ).bind fun ds => match ds with
  | [.int i, .int j] => if bigB i && bigB j then .ok (rngD i (j - i).toNat) else .st
  | _ => .st
theorem bigB_ok {j : Int} (h : bigB j = true) : -(2 ^ 62) ≤ j ∧ j < 2 ^ 62 := by
  unfold bigB at h
  simp only [Bool.and_eq_true, decide_eq_true_eq] at h
  omega
theorem di_rng1 {tg a : Expr} {fs : En → Re (List PyData)} {p : Pos} (hm : X.mg "range" = none) (ha : PA X [a] (tA W fs)) (hg : Gl X "range" := by rfl) (hs : starEach [a] X.env = [(false, eval a X.env)] := by rfl) : PI X tg (.Call (.Name "range" p) [a] [] pos) (iD W (DL.iRng1 fs)) :=
  pi_imp (pi_range1 hg hm ha hs) fun σ H R ⟨ρ, O, re, h⟩ => goIA re h fun ds xs H1 re1 _ rx h1 => by
    split at h1
    · split at h1
      · rename_i hb
        cases rx with
        | cons r1 r =>
          cases r
          cases r1.i_int
          exact ⟨_, rfl, (bigB_ok hb).1, (bigB_ok hb).2, h1 _ H1 (Same.refl _) (it_rng _ _)⟩
      · exact h1.elim
    · exact h1.elim
theorem di_rng2 {tg a b : Expr} {fs : En → Re (List PyData)} {p : Pos} (hm : X.mg "range" = none) (ha : PA X [a, b] (tA W fs)) (hg : Gl X "range" := by rfl) (hs : starEach [a, b] X.env = [(false, eval a X.env), (false, eval b X.env)] := by rfl) (hs2 : starEach [b] X.env = [(false, eval b X.env)] := by rfl) : PI X tg (.Call (.Name "range" p) [a, b] [] pos) (iD W (DL.iRng2 fs)) :=
  pi_imp (pi_range2 hg hm ha hs hs2) fun σ H R ⟨ρ, O, re, h⟩ => goIA re h fun ds xs H1 re1 _ rx h1 => by
    split at h1
    · split at h1
      · rename_i hb
        rw [Bool.and_eq_true] at hb
        cases rx with
        | cons r1 r =>
          cases r with
          | cons r2 r =>
            cases r
            cases r1.i_int; cases r2.i_int
            exact ⟨_, _, rfl, ⟨(bigB_ok hb.1).1, (bigB_ok hb.1).2, (bigB_ok hb.2).1, (bigB_ok hb.2).2⟩, h1 _ H1 (Same.refl _) (it_rng _ _)⟩
      · exact h1.elim
    · exact h1.elim
/-! zip of two lists, of two tuples -/
def zipD : List PyData → List PyData → List PyData
  | x :: xs, y :: ys => .tuple [x, y] :: zipD xs ys
  | _, _ => []
theorem zipD_at : ∀ (xs ys : List PyData) (i : Nat), (zipD xs ys)[i]? = match xs[i]?, ys[i]? with
    | some x, some y => some (.tuple [x, y])
    | _, _ => none
  | [], ys, i => by simp [zipD]
  | x :: xs, [], i => by
    show none = _
    simp
  | x :: xs, y :: ys, 0 => by simp [zipD]
  | x :: xs, y :: ys, i + 1 => by
    have := zipD_at xs ys i
    simpa [zipD] using this
theorem zipD_len : ∀ (xs ys : List PyData), (zipD xs ys).length = min xs.length ys.length
  | [], ys => by simp [zipD]
  | x :: xs, [] => by simp [zipD]
  | x :: xs, y :: ys => by simp [zipD, zipD_len xs ys]
def iZip (fs : En → Re (List PyData)) : En → Re (List PyData) := fun ρ => (fs ρ).bind fun ds => match ds with
  | [.list xs, .list ys] => .ok (zipD xs ys)
  | [.tuple xs, .tuple ys] => .ok (zipD xs ys)
  | _ => .st
theorem zip_get {xs ys : List PyData} {i : Nat} {d : PyData} (h : (zipD xs ys)[i]? = some d) : ∃ x y, xs[i]? = some x ∧ ys[i]? = some y ∧ d = .tuple [x, y] := by
  rw [zipD_at] at h
  split at h
  · rename_i x y e1 e2
    cases h
    exact ⟨x, y, e1, e2, rfl⟩
  · cases h
theorem di_zip {e e2 : Expr} {fs : En → Re (List PyData)} {p tpos : Pos} {elts : List Expr} {kk : Nat} (hm : X.mg "zip" = none) (ha : PA X [e, e2] (tA W fs)) (hg : Gl X "zip" := by rfl) (hs : starEach [e, e2] X.env = (false, eval e X.env) :: starEach [e2] X.env := by rfl) (hpl : (backTo pos (starEach [e2] X.env)).any (·.1) = false := by rfl) :
    PI X (.Tuple elts kk tpos) (.Call (.Name "zip" p) [e, e2] [] pos) (iD W (DL.iZip fs)) :=
  pi_imp (RZ.pi_zipA hg hm ha hs hpl) fun σ H R ⟨ρ, O, re, h⟩ => goIA re h fun ds vs H1 re1 _ rx h1 => by
    split at h1
    · cases rx with
      | cons r1 r =>
        cases r with
        | cons r2 r =>
          cases r
          obtain ⟨a, xs, rfl, ea, na, q⟩ := r1.i_lst
          obtain ⟨b, ys, rfl, eb, nb, q'⟩ := r2.i_lst
          refine ⟨a, b, xs, ys, rfl, .inl ⟨SqL.of ea, SqL.of eb, h1 _ H1 (Same.refl _) fun H2 O2 k dm => ?_⟩⟩
          have ea2 := (k a _ ea na).1
          have eb2 := (k b _ eb nb).1
          refine ⟨⟨xs, ys, SqL.of ea2, SqL.of eb2, by rw [zipD_len, q.len, q'.len]; omega⟩, fun i d hd => ?_⟩
          obtain ⟨x, y, e1, e2, rfl⟩ := zip_get hd
          obtain ⟨v, hv, rv⟩ := (q.kp k).get e1
          obtain ⟨u, hu, ru⟩ := (q'.kp k).get e2
          refine ⟨⟨xs, ys, v, u, SqL.of ea2, SqL.of eb2, hv, hu⟩, fun z H' yl => ?_⟩
          obtain ⟨T, x1, x2, rfl, nT, rfl, f1, f2⟩ := yl
          have z1 := f1 xs (SqL.of ea2)
          have z2 := f2 ys (SqL.of eb2)
          rw [hv] at z1; rw [hu] at z2
          cases z1; cases z2
          refine ⟨same_upd nT, .tup upd_same (fun o => dm T o nT) ?_⟩
          exact (RpL.cons rv (.cons ru .nil)).kp (.same (same_upd nT))
    · cases rx with
      | cons r1 r =>
        cases r with
        | cons r2 r =>
          cases r
          obtain ⟨a, xs, rfl, ea, na, q⟩ := r1.i_tup
          obtain ⟨b, ys, rfl, eb, nb, q'⟩ := r2.i_tup
          refine ⟨a, b, xs, ys, rfl, .inr ⟨SqT.of ea, SqT.of eb, h1 _ H1 (Same.refl _) fun H2 O2 k dm => ?_⟩⟩
          have ea2 := (k a _ ea na).1
          have eb2 := (k b _ eb nb).1
          refine ⟨⟨xs, ys, SqT.of ea2, SqT.of eb2, by rw [zipD_len, q.len, q'.len]; omega⟩, fun i d hd => ?_⟩
          obtain ⟨x, y, e1, e2, rfl⟩ := zip_get hd
          obtain ⟨v, hv, rv⟩ := (q.kp k).get e1
          obtain ⟨u, hu, ru⟩ := (q'.kp k).get e2
          refine ⟨⟨xs, ys, v, u, SqT.of ea2, SqT.of eb2, hv, hu⟩, fun z H' yl => ?_⟩
          obtain ⟨T, x1, x2, rfl, nT, rfl, f1, f2⟩ := yl
          have z1 := f1 xs (SqT.of ea2)
          have z2 := f2 ys (SqT.of eb2)
          rw [hv] at z1; rw [hu] at z2
          cases z1; cases z2
          refine ⟨same_upd nT, .tup upd_same (fun o => dm T o nT) ?_⟩
          exact (RpL.cons rv (.cons ru .nil)).kp (.same (same_upd nT))
    · exact h1.elim
end
end DL

namespace DL
open PySem PySem.Spec L2 PyProof.Rows

/-! ## another base: what stands now and is not written here -/
open Classical in
noncomputable def mnH (H : Hp) (ρ : En) (σ : Sg) : Hp := fun a => if Os ρ σ a then none else H a
section
variable {H0 H1 : Hp} {O0 : Ow} {ρ ρ' : En} {σ σ' : Sg} {H H' : Hp}
theorem mnH_ne {a : Addr} (h : ¬ Os ρ σ a) : mnH H ρ σ a = H a := by unfold mnH; rw [if_neg h]
theorem mnH_eq {a : Addr} (h : Os ρ σ a) : mnH H ρ σ a = none := by unfold mnH; rw [if_pos h]
theorem mnH_some {a : Addr} {o : HO} (h : mnH H ρ σ a = some o) : H a = some o ∧ ¬ Os ρ σ a := by
  by_cases q : Os ρ σ a
  · rw [mnH_eq q] at h; cases h
  · rw [mnH_ne q] at h; exact ⟨h, q⟩
theorem RS.noOs (r : RS H0 O0 ρ σ H) {a : Addr} {o : HO} (h : H0 a = some o) : ¬ Os ρ σ a := fun ⟨i, d, e1, e2⟩ => by
  rw [r.fresh i d a e1 e2] at h; cases h
theorem RS.based (r : RS H0 O0 ρ σ H) : Same H0 (mnH H ρ σ) := fun b o e => by
  rw [mnH_ne (r.noOs e)]; exact r.same b o e
theorem RS.base (r : RS H0 O0 ρ σ H) : RS (mnH H ρ σ) O0 ρ σ H :=
  ⟨r.len, fun b o e => (mnH_some e).1, r.re, fun i d p e1 e2 => mnH_eq ⟨i, d, e1, e2⟩, r.inj, fun a o z => by
    cases q : H0 a with
    | none => exact r.dom0 a o q
    | some u => rw [r.based a u q] at z; cases z⟩
theorem RS.unbase (s : Same H0 H1) (hd : ∀ a, O0 a → H0 a ≠ none) (r : RS H1 O0 ρ σ H) : RS H0 O0 ρ σ H :=
  ⟨r.len, s.trans r.same, r.re, (fun i d p e1 e2 => by
    cases q : H0 p with
    | none => rfl
    | some u =>
      have := s p u q
      rw [r.fresh i d p e1 e2] at this
      cases this), r.inj, hd⟩
theorem RS.frame (r : RS (mnH H ρ σ) O0 ρ' σ' H') : Kp (Oa O0 ρ σ) H (Oa O0 ρ' σ') H' := fun a o e n => by
  have z : mnH H ρ σ a = some o := by rw [mnH_ne fun q => n (.inr q)]; exact e
  refine ⟨r.same a o z, fun q => ?_⟩
  rcases q with q | q
  · exact n (.inl q)
  · exact r.noOs z q
end
section
variable {X : Cx} {W : WX} {pos : Pos}
theorem tS.base {H0 H1 : Hp} {O0 : Ow} {r : SR} {D : Ends} (s : Same H0 H1) (hd : ∀ a, O0 a → H0 a ≠ none) (h : tS W H0 O0 r D) : tS W H1 O0 r D := by
  cases r with
  | nx ρ => exact fun σ H q => h σ H (q.unbase s hd)
  | rt d => exact fun v H q r => h v H (s.trans q) r
  | ex c p ρ => exact fun σ H q => h σ H (q.unbase s hd)
  | st => exact h

/-! ## for -/
def forL (t : Tg) (fb : En → SR) : List PyData → En → SR
  | [], ρ => .nx ρ
  | d :: ds, ρ => match t d with
    | none => .st
    | some m => match fb (putD ρ m) with
      | .nx ρ' => forL t fb ds ρ'
      | r => r
def sFor (fi : En → Re (List PyData)) (t : Tg) (fb : En → SR) : En → SR := fun ρ => SR.of (fi ρ) ρ fun ds => forL t fb ds ρ
theorem ds_for {tg iter : Expr} {body : List Stmt} {fi : En → Re (List PyData)} {t : Tg} {fb : En → SR} (hp : PassesOwn (model X.prog X.w) X.A X.env X.xe) (hc : X.calm = true) (hi : PI X tg iter (iD W fi)) (hg : PG X tg (gA t)) (hb : PSs X body (sD W fb))
    (hs : ∀ x, foldedSetIterable iter X.env x = pure x := by intro _; rfl) : PS X (.For tg iter body [] pos) (sD W (sFor fi t fb)) :=
  ps_imp (ps_for hp hc hi hg hb hs) fun D σ H ⟨ρ, H0, O0, rs, h⟩ => by
    refine ⟨ρ, _, rs.re, ?_⟩
    unfold sFor at h
    cases e : fi ρ with
    | ex c p => rw [e] at h; exact fun H1 s => h σ H1 (rs.heap s)
    | st => rw [e] at h; exact h
    | ok ds =>
      rw [e] at h
      intro J H1 s itd
      have rs1 := rs.heap s
      have sb := rs1.based
      refine ⟨fun i m σ' H' => ∃ ρ', RS (mnH H1 ρ σ) O0 ρ' σ' H' ∧ i ≤ ds.length ∧ m = ds.length - i ∧ tS W H0 O0 (forL t fb (ds.drop i) ρ') D, ⟨ds.length, ρ, rs1.base, Nat.zero_le _, rfl, h⟩, ?_⟩
      rintro i m σ' H' ⟨ρ', r', hi', rfl, h'⟩
      obtain ⟨hstop, hgo⟩ := itd H' (Oa O0 ρ' σ') r'.frame r'.re.dom
      by_cases hlt : i < ds.length
      · have hd : ds[i]? = some ds[i] := List.getElem?_eq_getElem hlt
        obtain ⟨g1, g2⟩ := hgo i _ hd
        rw [List.drop_eq_getElem_cons hlt] at h'
        refine .inr ⟨g1, fun σ2 H2 => ∃ ρ2, RS (mnH H1 ρ σ) O0 ρ2 σ2 H2 ∧ tS W H0 O0 (forL t fb (ds.drop (i + 1)) ρ2) D, ?_, fun x H2 y => ?_⟩
        · rintro σ2 H2 ⟨ρ2, r2, h2⟩
          exact ⟨ds.length - (i + 1), by omega, ρ2, r2, hlt, rfl, h2⟩
        · obtain ⟨s2, rx⟩ := g2 x H2 y
          have r2 := r'.heap s2
          unfold forL at h'
          cases et : t ds[i] with
          | none => rw [et] at h'; exact h'.elim
          | some mm =>
            rw [et] at h'
            refine ⟨_, _, mm, rx, et, fun l yl => ⟨_, _, O0, RS.put _ _ _ _ r2 yl, ?_⟩⟩
            cases eb : fb (putD ρ' mm) with
            | nx ρ3 => simp only [eb] at h'; exact fun σ3 H3 r3 => ⟨ρ3, r3, h'⟩
            | rt d => simp only [eb] at h'; exact fun v H3 s3 r3 => h' v H3 (sb.trans s3) r3
            | ex c p ρ3 => simp only [eb] at h'; exact fun σ3 H3 r3 => h' σ3 H3 (r3.unbase sb rs.dom0)
            | st => simp only [eb] at h'; exact h'
      · have e : i = ds.length := by omega
        subst e
        rw [List.drop_length] at h'
        exact .inl ⟨hstop, h' σ' H' (r'.unbase sb rs.dom0)⟩

/-! ## while -/
def whL (gc : En → Re Bool) (fb : En → SR) : Nat → En → SR
  | 0, _ => .st
  | n + 1, ρ => SR.of (gc ρ) ρ fun b => if b then (match fb ρ with
    | .nx ρ' => whL gc fb n ρ'
    | r => r) else .nx ρ
theorem ds_while (n : Nat) {c : Expr} {body : List Stmt} {gc : En → Re Bool} {fb : En → SR} (hp : PassesOwn (model X.prog X.w) X.A X.env X.xe) (hc : PT X c (DL.tB W gc)) (hb : PSs X body (sD W fb)) : PS X (.While c body [] pos) (sD W (whL gc fb n)) :=
  ps_imp (ps_while hp hc hb) fun D σ H ⟨ρ, H0, O0, rs, h⟩ => by
    refine ⟨fun m σ H => ∃ ρ, RS H0 O0 ρ σ H ∧ tS W H0 O0 (whL gc fb m ρ) D, ⟨n, ρ, rs, h⟩, ?_⟩
    rintro m σ H ⟨ρ, rs, h⟩
    cases m with
    | zero => exact h.elim
    | succ m =>
      refine goSB rs h fun b H1 rs1 h1 => ?_
      cases b with
      | true =>
        refine iteT ⟨fun σ' H' => ∃ ρ, RS H0 O0 ρ σ' H' ∧ tS W H0 O0 (whL gc fb m ρ) D, fun σ' H' q => ⟨m, Nat.lt_succ_self m, q⟩, ρ, H0, O0, rs1, ?_⟩
        have h1 : tS W H0 O0 (match fb ρ with
          | .nx ρ' => whL gc fb m ρ'
          | r => r) D := h1
        cases eb : fb ρ with
        | nx ρ3 => rw [eb] at h1; exact fun σ3 H3 r3 => ⟨ρ3, r3, h1⟩
        | rt d => rw [eb] at h1; exact h1
        | ex c p ρ3 => rw [eb] at h1; exact h1
        | st => rw [eb] at h1; exact h1
      | false => exact iteF (h1 σ H1 rs1)

/-! ## new things that are written here -/
def Op (O : Ow) (p : Addr) : Ow := fun a => O a ∨ a = p
def tRF (W : WX) (O : Ow) (r : Re PyData) (σ : Sg) (H : Hp) (Q : VK) : Prop := match r with
  | .ok (.list ds) => ∀ p xs H', Same H H' → H p = none → H' p = some (.lst xs) → RpL (Op O p) H' xs ds → Q (.ref p) H'
  | .ok (.dict es) => ∀ p kvs H', Same H H' → H p = none → H' p = some (.dK kvs) → RpD (Op O p) H' kvs es → Q (.ref p) H'
  | .ok _ => False
  | .ex c p => ∀ H', Same H H' → XW W σ O H' c p
  | .st => False
def tF (W : WX) (f : En → Re PyData) : TE := fun σ H Q => ∃ ρ O, RE O ρ σ H ∧ tRF W O (f ρ) σ H Q
/-- such an expression as a value: its values are lists and dicts -/
def onlyLD (f : En → Re PyData) : Prop := ∀ ρ d, f ρ = .ok d → (∃ ds, d = .list ds) ∨ ∃ es, d = .dict es
theorem tF_of {f : En → Re PyData} (ho : onlyLD f) {σ : Sg} {H : Hp} {Q : VK} (h : tD W f σ H Q) : tF W f σ H Q := by
  obtain ⟨ρ, O, re, h⟩ := h
  refine ⟨ρ, O, re, ?_⟩
  cases e : f ρ with
  | ex c p => rw [e] at h; exact h
  | st => rw [e] at h; exact h
  | ok d =>
    rw [e] at h
    have kk : ∀ {p : Addr} {H' : Hp}, Kp (Op O p) H' O H' := fun a o e n => ⟨e, fun z => n (.inl z)⟩
    rcases ho ρ d e with ⟨ds, rfl⟩ | ⟨es, rfl⟩
    · exact fun p xs H' s n e r => h _ H' s (.lst e (re.new n) (r.kp kk))
    · exact fun p xs H' s n e r => h _ H' s (.dct e (re.new n) (r.kp kk))
theorem de_F {e : Expr} {f : En → Re PyData} (ho : onlyLD f) (h : PE X e (tF W f)) : PE X e (tD W f) := pe_imp h fun _ _ _ q => tF_of ho q
theorem Kp.op {O : Ow} {H : Hp} {p : Addr} {o : HO} (n : H p = none) : Kp O H (Op O p) (upd H p o) := fun a u e na => by
  have ne : a ≠ p := ne_of_none e n
  refine ⟨by rw [upd_ne ne]; exact e, fun z => ?_⟩
  rcases z with z | z
  · exact na z
  · exact ne z
theorem df_lst {es : List Expr} {fs : En → Re (List PyData)} (h : PA X es (tA W fs)) : PE X (.List es pos) (tF W (eLst fs)) :=
  pe_imp (pe_lst h) fun σ H Q ⟨ρ, O, re, h⟩ => by
    refine ⟨ρ, O, re, ?_⟩
    unfold eLst at h
    cases e : fs ρ with
    | ex c p => rw [e] at h; exact h
    | st => rw [e] at h; exact h
    | ok ds =>
      rw [e] at h
      intro vs H1 s r
      have h : tRF W O (if fits ds.length then .ok (.list ds) else .st) σ H Q := h
      split at h
      · rename_i hf
        refine ⟨by rw [r.len]; exact fits_line hf, fun p hp => h p vs _ (s.trans (same_upd hp)) (s.free hp) upd_same (r.kp (.op hp))⟩
      · exact h.elim
theorem onlyLD_lst {fs : En → Re (List PyData)} : onlyLD (eLst fs) := fun ρ d h => by
  unfold eLst at h
  cases e : fs ρ with
  | ex c p => rw [e] at h; cases h
  | st => rw [e] at h; cases h
  | ok ds =>
    rw [e] at h
    have h : (if fits ds.length then Re.ok (PyData.list ds) else .st) = .ok d := h
    split at h
    · cases h; exact .inl ⟨_, rfl⟩
    · cases h
/-- x = a new thing, written from now on -/
def sOwn (i : Nat) (fe : En → Re PyData) : En → SR := fun ρ => if i < ρ.length then SR.of (fe ρ) ρ fun d => match d with
  | .list ds => .nx (ρ.set i (.ow (.list ds)))
  | .dict es => .nx (ρ.set i (.ow (.dict es)))
  | _ => .st else .st
theorem RS.newO {H0 : Hp} {O0 : Ow} {ρ : En} {σ : Sg} {H H' : Hp} {i : Nat} {p : Addr} {d : PyData} (rs : RS H0 O0 ρ σ H) (s : Same H H') (n : H p = none) (hp : H' p ≠ none) (hi : i < ρ.length) (new : OwR (Op (Oa O0 ρ σ) p) H' p d) : RS H0 O0 (ρ.set i (.ow d)) (σ.set i (some (.ref p))) H' := by
  have sub : ∀ a, Oa O0 (ρ.set i .no) σ a → Oa O0 ρ σ a := fun a o => by
    rcases o with o | ⟨j, e, e1, e2⟩
    · exact .inl o
    · rcases set_at e1 with ⟨_, rfl, _⟩ | ⟨n, e1⟩
      · exact e2.elim
      · exact .inr ⟨j, e, e1, e2⟩
  refine rs.setO (O1 := Op (Oa O0 (ρ.set i .no) σ) p) (rs.same.free n) (fun b o _ e => s b o e) hp (fun a => Iff.rfl) (fun j e hj e1 e2 => ?_) (fun a o e _ => ne_of_none e n) ?_ hi
  · exact rs.re.dom p (.inr ⟨j, e, e1, e2⟩) n
  · have k : Kp (Op (Oa O0 ρ σ) p) H' (Op (Oa O0 (ρ.set i .no) σ) p) H' := fun a o e n => ⟨e, fun z => n (by
      rcases z with z | z
      · exact .inl (sub a z)
      · exact .inr z)⟩
    cases d with
    | list ds => obtain ⟨xs, f1, f2⟩ := new; exact ⟨xs, f1, f2.kp k⟩
    | dict es => obtain ⟨xs, f1, f2⟩ := new; exact ⟨xs, f1, f2.kp k⟩
    | _ => exact new
theorem ds_ownA {st : Stmt} {i : Nat} {fe : En → Re PyData} {te : TE} (h : PS X st (tAsg te (gName i))) (hi : ∀ σ H Q, tF W fe σ H Q → te σ H Q) : PS X st (sD W (sOwn i fe)) := ps_imp h fun D σ H ⟨ρ, H0, O0, rs, h⟩ => by
  unfold sOwn at h
  split at h
  · rename_i hl
    refine hi σ H _ ⟨ρ, _, rs.re, ?_⟩
    cases e : fe ρ with
    | ex c p => rw [e] at h; exact fun H1 s => h σ H1 (rs.heap s)
    | st => rw [e] at h; exact h
    | ok d =>
      rw [e] at h
      cases d with
      | list ds => exact fun p xs H' s n e r => h _ H' (rs.newO s n (by rw [e]; exact fun z => nomatch z) hl ⟨xs, e, r⟩)
      | dict es => exact fun p xs H' s n e r => h _ H' (rs.newO s n (by rw [e]; exact fun z => nomatch z) hl ⟨xs, e, r⟩)
      | _ => exact h.elim
  · exact h.elim
theorem ds_setA {st : Stmt} {i : Nat} {fe : En → Re PyData} {te : TE} (ho : onlyLD fe) (h : PS X st (tAsg te (gName i))) (hi : ∀ σ H Q, tF W fe σ H Q → te σ H Q) : PS X st (sD W (sSet i fe)) := ps_imp h fun D σ H ⟨ρ, H0, O0, rs, h⟩ =>
  hi σ H _ (tF_of ho (goS rs h fun d v H1 rs1 r h1 => h1 _ H1 (rs1.setV r)))
theorem ds_own (i : Nat) {x : Str} {e : Expr} {fe : En → Re PyData} {pos' : Pos} (he : PE X e (tF W fe)) (hN : X.N.Nodup) (hi : X.N[i]? = some x := by rfl) (hx : Loc X.env.scope x := by first | exact Or.inl rfl | exact Or.inr rfl) (hs : swapsWith e (some (.Name x pos')) pos.line X.env = pure false := by rfl)
    (hf : X.fn x = true ∨ X.env.scope.names.lookup x = some .local := by first | exact .inl rfl | exact .inr rfl | assumption) : PS X (.Assign [.Name x pos'] e pos) (sD W (sOwn i fe)) := ds_ownA (ps_set hN hi hx he hs hf) fun _ _ _ q => q
/-- what is written stays apart: a store -/
theorem RS.store {H0 : Hp} {O0 : Ow} {ρ : En} {σ : Sg} {H : Hp} {i : Nat} {p : Addr} {d d' : PyData} {o : HO} (rs : RS H0 O0 ρ σ H) (e : ρ[i]? = some (.ow d)) (ep : σ[i]? = some (some (.ref p))) (new : OwR (Oa O0 ρ σ) (upd H p o) p d') : RS H0 O0 (ρ.set i (.ow d')) σ (upd H p o) := by
  have hi : i < ρ.length := (List.getElem?_eq_some_iff.mp e).1
  have hs : σ = σ.set i (some (.ref p)) := by
    apply List.ext_getElem?
    intro j
    by_cases hj : i = j
    · subst hj
      rw [ep, List.getElem?_set_self (List.getElem?_eq_some_iff.mp ep).1]
    · rw [List.getElem?_set_ne hj]
  have hO : ∀ a, Oa O0 ρ σ a ↔ (Oa O0 (ρ.set i .no) σ a ∨ a = p) := fun a => by
    constructor
    · rintro (z | ⟨j, e', e1, e2⟩)
      · exact .inl (.inl z)
      · by_cases hj : i = j
        · subst hj; rw [e] at e1; cases e1; rw [ep] at e2; cases e2; exact .inr rfl
        · exact .inl (.inr ⟨j, e', by rw [List.getElem?_set_ne hj]; exact e1, e2⟩)
    · rintro ((z | ⟨j, e', e1, e2⟩) | rfl)
      · exact .inl z
      · rcases set_at e1 with ⟨_, rfl, _⟩ | ⟨n, e1⟩
        · exact e2.elim
        · exact .inr ⟨j, e', e1, e2⟩
      · exact .inr ⟨i, _, e, ep⟩
  have r := rs.setO (i := i) (p := p) (d := d') (H' := upd H p o) (O1 := Oa O0 ρ σ) (rs.fresh i _ p e ep) (fun b u nb eb => by rw [upd_ne nb]; exact eb) (by rw [upd_same]; exact fun z => nomatch z) hO
    (fun j e' hj e1 e2 => hj (rs.inj j i e' _ p e1 e e2 ep)) (fun a u _ na z => na (.inr ⟨i, _, e, by rw [z]; exact ep⟩)) new hi
  rw [← hs] at r
  exact r
theorem Kp.own {O : Ow} {H : Hp} {p : Addr} {o : HO} (h : O p) : Kp O H O (upd H p o) := fun a u e n => ⟨by
  have ne : a ≠ p := fun z => n (by rw [z]; exact h)
  rw [upd_ne ne]; exact e, n⟩
/-- x.append(e) -/
def sApp (i : Nat) (fe : En → Re PyData) : En → SR := fun ρ => match ρ[i]? with
  | some (.ow (.list ds)) => SR.of (fe ρ) ρ fun d => if fits (ds.length + 1) then .nx (ρ.set i (.ow (.list (ds ++ [d])))) else .st
  | _ => .st
theorem ds_append (i : Nat) {x : Str} {e : Expr} {fe : En → Re PyData} {p1 p2 p3 : Pos} (he : PE X e (tD W fe)) (hN : X.N[i]? = some x := by rfl) (hv : Vis X.env.scope x := by first | exact Or.inl rfl | exact Or.inr (Or.inl rfl) | exact Or.inr (Or.inr rfl)) (hd : (x == ("__debug__" : Str)) = false := by decide) (hcd : (x == ("__classdict__" : Str)) = false := by decide)
    (hbase : attributeBase (.Name x p1) "append" X.env (eval (.Name x p1) X.env) = eval (.Name x p1) X.env := by rfl)
    (hfew : ((backTo p3 (starEach [e] X.env)).all (fun x => !x.1) && (backToKw p3 (keywordEach [] X.env)).all (fun x => x.1.isSome) && decide (([e] : List Expr).length + ([] : List Keyword).length + (if ([] : List Keyword).isEmpty then 0 else 1) < 30)) = true := by rfl)
    (hline : (p2.endLine == p3.line) = true := by rfl) (hs : starEach [e] X.env = (false, eval e X.env) :: starEach [] X.env := by rfl) (hplain : (backTo p3 (starEach [] X.env)).any (·.1) = false := by rfl) (hsw : swapsWith (.Call (.Attribute (.Name x p1) "append" p2) [e] [] p3) none pos.line X.env = pure false := by rfl) :
    PS X (.Expr (.Call (.Attribute (.Name x p1) "append" p2) [e] [] p3) pos) (sD W (sApp i fe)) :=
  ps_imp (ps_expr (pe_bm PySem.F.plainAttrs_list PySem.F.slot_list_append PySem.F.type_list_append mt_append (pe_var hN hv hd hcd) (pa_cons he pa_nil hs) hbase hfew hline hs hplain) hsw) fun D σ H ⟨ρ, H0, O0, rs, h⟩ => by
    unfold sApp at h
    split at h
    · rename_i ds ei
      obtain ⟨p, ep, op, xs, e1, r1⟩ := rs.re.at_ i _ ei
      refine ⟨.ref p, ep, .inl ⟨rfl, xs, SqL.of e1⟩, goS rs h fun d v H1 rs1 rv h1 => ?_⟩
      split at h1
      · rename_i hf
        obtain ⟨p', ep', op', xs', e1', r1'⟩ := rs1.re.at_ i _ ei
        rw [ep] at ep'; cases ep'
        refine ⟨p, xs', v, rfl, rfl, e1', ?_, h1 _ _ (rs1.store ei ep ⟨xs' ++ [v], upd_same, ?_⟩)⟩
        · have := fits_line hf
          have := r1'.len
          omega
        · exact (r1'.app (.cons rv .nil)).kp (.own op)
      · exact h1.elim
    · exact h.elim
end
end DL

namespace DL
open PySem PySem.Spec L2 PyProof.Rows
section
variable {X : Cx} {W : WX} {pos : Pos}

/-! ## list comprehensions -/
abbrev W0 : WX := fun _ _ _ _ => False
/-- in a comprehension nothing is raised -/
def calmR {α : Type} : Re α → Re α
  | .ok a => .ok a
  | _ => .st
def lcL (t : Tg) (gc : En → Re Bool) (fe : En → Re PyData) (ρ : En) : List PyData → Re (List PyData)
  | [] => .ok []
  | d :: ds => match t d with
    | none => .st
    | some m => (calmR (gc (putD ρ m))).bind fun b => if b then (calmR (fe (putD ρ m))).bind fun y => (lcL t gc fe ρ ds).bind fun ys => .ok (y :: ys) else lcL t gc fe ρ ds
def eLc (own : List Nat) (fi : En → Re (List PyData)) (t : Tg) (gc : En → Re Bool) (fe : En → Re PyData) : En → Re PyData := fun ρ => (fi ρ).bind fun ds => if fits ds.length then (lcL t gc fe (fgt own ρ) ds).bind fun ys => .ok (.list ys) else .st
def gYes : En → Re Bool := fun _ => .ok true
theorem pts_imp {e : List Expr} {t t' : TT} (h : PTs X e t) (i : ∀ σ H Q, t' σ H Q → t σ H Q) : PTs X e t' := ⟨fun pins s σ H Q I q => h.run pins s σ H Q I (i σ H Q q)⟩
theorem dts_nil : PTs X [] (DL.tB W gYes) := pts_imp pts_nil fun σ H Q ⟨ρ, O, re, h⟩ => h.here
theorem dts_one {c : Expr} {g : En → Re Bool} (h : PT X c (DL.tB W g)) : PTs X [c] (DL.tB W g) := pts_one h
/-- the slots of a target -/
def tgIn (t : Tg) (vs : List Nat) : Prop := ∀ d m, t d = some m → ∀ p ∈ m, p.1 ∈ vs
theorem tgIn_name {i : Nat} {vs : List Nat} (h : i ∈ vs) : tgIn (tgName i) vs := fun d m e p hp => by
  cases e
  rw [List.mem_singleton] at hp
  subst hp
  exact h
theorem tgIn_all {vs : List Nat} : ∀ {ts : List Tg}, (∀ t ∈ ts, tgIn t vs) → ∀ ds m, tgAll ts ds = some m → ∀ p ∈ m, p.1 ∈ vs
  | [], _, [], m, e, p, hp => by cases e; cases hp
  | [], _, _ :: _, m, e, p, hp => by cases e
  | _ :: _, _, [], m, e, p, hp => by cases e
  | t :: ts, h, d :: ds, m, e, p, hp => by
    have e : ((t d).bind fun l => (tgAll ts ds).bind fun m => some (l ++ m)) = some m := e
    cases e1 : t d with
    | none => rw [e1] at e; cases e
    | some l1 =>
      rw [e1] at e
      cases e2 : tgAll ts ds with
      | none => simp [e2] at e
      | some l2 =>
        simp only [e2, Option.bind_some, Option.some.injEq] at e
        subst e
        rcases List.mem_append.mp hp with q | q
        · exact h t List.mem_cons_self d l1 e1 p q
        · exact tgIn_all (fun t' ht => h t' (List.mem_cons_of_mem _ ht)) ds l2 e2 p q
theorem tgIn_tup {vs : List Nat} {ts : List Tg} (h : ∀ t ∈ ts, tgIn t vs) : tgIn (tgTup ts) vs := fun d m e => by
  cases d with
  | tuple ds => exact tgIn_all h ds m e
  | _ => cases e
theorem wipe_at {σ : Sg} {i : Nat} {vs : List Nat} (h : i ∉ vs) : (wipe σ vs)[i]? = σ[i]? := wipe_out h
theorem putV_at {i : Nat} : ∀ {l : List (Nat × V)} {σ : Sg}, (∀ p ∈ l, p.1 ≠ i) → (putV σ l)[i]? = σ[i]?
  | [], _, _ => rfl
  | (j, v) :: l, σ, h => by
    show (putV (σ.set j (some v)) l)[i]? = _
    rw [putV_at fun p hp => h p (List.mem_cons_of_mem _ hp), List.getElem?_set_ne (h (j, v) List.mem_cons_self)]
theorem wipe_in {σ : Sg} {i : Nat} : ∀ {vs : List Nat}, i ∈ vs → i < σ.length → (wipe σ vs)[i]? = some none
  | v :: vs, h, hl => by
    unfold wipe
    by_cases e : v = i
    · subst e; rw [List.getElem?_set_self (by rw [wipe_length]; exact hl)]
    · rw [List.getElem?_set_ne e]
      rcases List.mem_cons.mp h with z | z
      · exact absurd z.symm e
      · exact wipe_in z hl
theorem wipe_ext {σ τ : Sg} {vs : List Nat} (hl : τ.length = σ.length) (h : ∀ i, i ∉ vs → τ[i]? = σ[i]?) : wipe τ vs = wipe σ vs := by
  apply List.ext_getElem?
  intro i
  by_cases hi : i ∈ vs
  · by_cases hlt : i < σ.length
    · rw [wipe_in hi hlt, wipe_in hi (by rw [hl]; exact hlt)]
    · rw [List.getElem?_eq_none (by rw [wipe_length, hl]; omega), List.getElem?_eq_none (by rw [wipe_length]; omega)]
  · rw [wipe_at hi, wipe_at hi, h i hi]
theorem fgt_len : ∀ (l : List Nat) (ρ : En), (fgt l ρ).length = ρ.length
  | [], _ => rfl
  | i :: l, ρ => by show (fgt l (ρ.set i .no)).length = _; rw [fgt_len l]; simp
theorem fgt_at : ∀ (l : List Nat) (ρ : En) (i : Nat) (s : Sl), (fgt l ρ)[i]? = some s → s = .no ∨ (i ∉ l ∧ ρ[i]? = some s)
  | [], _, i, s, h => .inr ⟨by simp, h⟩
  | j :: l, ρ, i, s, h => by
    rcases fgt_at l (ρ.set j .no) i s h with q | ⟨q1, q2⟩
    · exact .inl q
    · by_cases e : j = i
      · subst e
        by_cases hl : j < ρ.length
        · rw [List.getElem?_set_self hl] at q2; cases q2; exact .inl rfl
        · rw [List.getElem?_eq_none (by simpa using hl)] at q2; cases q2
      · rw [List.getElem?_set_ne e] at q2
        exact .inr ⟨fun z => by rcases List.mem_cons.mp z with z | z
                                · exact e z.symm
                                · exact q1 z, q2⟩
theorem RE.blk {O O' : Ow} {ρ : En} {σ : Sg} {H H' : Hp} {vs : List Nat} (r : RE O ρ σ H) (s : Same H H') (hO : ∀ a o, H a = some o → (O' a ↔ O a)) (hd : ∀ a, O' a → H' a ≠ none) : RE O' (fgt vs ρ) (wipe σ vs) H' := by
  have k : Kp O H O' H' := fun a o e n => ⟨s a o e, fun z => n ((hO a o e).mp z)⟩
  refine ⟨by rw [wipe_length, fgt_len]; exact r.len, hd, fun i x e => ?_⟩
  rcases fgt_at vs ρ i x e with q | ⟨q1, q2⟩
  · subst q; trivial
  · have z := r.at_ i x q2
    rw [wipe_at q1]
    cases x with
    | no => trivial
    | va d => obtain ⟨y, e1, e2⟩ := z; exact ⟨y, e1, e2.kp k⟩
    | ow d =>
      obtain ⟨p, e1, o, e2⟩ := z
      cases d with
      | list ds => obtain ⟨xs, f1, f2⟩ := e2; exact ⟨p, e1, (hO p _ f1).mpr o, xs, s _ _ f1, f2.kp k⟩
      | dict es => obtain ⟨xs, f1, f2⟩ := e2; exact ⟨p, e1, (hO p _ f1).mpr o, xs, s _ _ f1, f2.kp k⟩
      | _ => exact e2.elim
    | ob C A st =>
      obtain ⟨e1, o, e2⟩ := z
      exact ⟨e1, fun a ha => by obtain ⟨u, hu⟩ := e2.dom ha; exact (hO a u hu).mpr (o a ha), e2.tr k fun a u _ hu => s a u hu⟩
theorem calm_ok {α : Type} {r : Re α} {a : α} (h : calmR r = .ok a) : r = .ok a := by
  cases r with
  | ok b => exact h
  | ex c p => cases h
  | st => cases h
theorem lcL_noex {t : Tg} {gc : En → Re Bool} {fe : En → Re PyData} {ρ : En} {c : Value} {p : Option PyData} : ∀ ds : List PyData, lcL t gc fe ρ ds ≠ .ex c p
  | [], h => by cases h
  | d :: ds, h => by
    unfold lcL at h
    split at h
    · cases h
    · rename_i m _
      cases e1 : calmR (gc (putD ρ m)) with
      | ok b =>
        rw [e1] at h
        cases b with
        | true =>
          have h : ((calmR (fe (putD ρ m))).bind fun y => (lcL t gc fe ρ ds).bind fun ys => .ok (y :: ys)) = .ex c p := h
          cases e2 : calmR (fe (putD ρ m)) with
          | ok y =>
            rw [e2] at h
            cases e3 : lcL t gc fe ρ ds with
            | ok ys => simp [e3] at h
            | ex c' p' => exact lcL_noex ds e3
            | st => simp [e3] at h
          | ex c' p' => revert e2; cases fe (putD ρ m) <;> intro e2 <;> cases e2
          | st => rw [e2] at h; cases h
        | false => exact lcL_noex ds h
      | ex c' p' => revert e1; cases gc (putD ρ m) <;> intro e1 <;> cases e1
      | st => rw [e1] at h; cases h
theorem impLc {own : List Nat} {fi : En → Re (List PyData)} {t : Tg} {gc : En → Re Bool} {fe : En → Re PyData} (ht : tgIn t own) (σ : Sg) (H : Hp) (Q : VK) (h : tF W (eLc own fi t gc fe) σ H Q) : tLc (iD W fi) (gA t) (DL.tB W0 gc) (tD W0 fe) own σ H Q := by
  obtain ⟨ρ, O, re, h⟩ := h
  refine ⟨ρ, O, re, ?_⟩
  unfold eLc at h
  cases e : fi ρ with
  | ex c p => rw [e] at h; exact h
  | st => rw [e] at h; exact h
  | ok ds =>
    rw [e] at h
    intro J H1 s itd D nD
    have h : tRF W O (if fits ds.length then (lcL t gc fe (fgt own ρ) ds).bind fun ys => .ok (.list ys) else .st) σ H Q := h
    split at h
    · rename_i hf
      cases eL : lcL t gc fe (fgt own ρ) ds with
      | ex c p => exact absurd eL (lcL_noex ds)
      | st => rw [eL] at h; exact h.elim
      | ok res =>
        rw [eL] at h
        have h : ∀ p xs H', Same H H' → H p = none → H' p = some (.lst xs) → RpL (Op O p) H' xs res → Q (.ref p) H' := h
        have re1 := re.same s
        have hOp : ∀ a o, H1 a = some o → (Op O D a ↔ O a) := fun a o e => ⟨fun z => z.elim id fun z => absurd z (ne_of_none e nD), .inl⟩
        refine ⟨fun i m H2 => ∃ acc vs rest, i ≤ ds.length ∧ m = ds.length - i ∧ Same H1 H2 ∧ H2 D = some (.lst vs) ∧ RpL (Op O D) H2 vs acc ∧ vs.length ≤ i ∧ lcL t gc fe (fgt own ρ) (ds.drop i) = .ok rest ∧ acc ++ rest = res,
          ⟨ds.length, [], [], res, Nat.zero_le _, rfl, same_upd nD, upd_same, .nil, Nat.zero_le _, eL, rfl⟩, ?_⟩
        rintro i m H2 ⟨acc, vs, rest, hi, rfl, s2, eD, rl, hvl, hL, hres⟩
        have dm : ∀ a, Op O D a → H2 a ≠ none := fun a z => by
          rcases z with z | z
          · intro q
            exact re1.dom a z (s2.free q)
          · rw [z, eD]; exact fun q => nomatch q
        have k2 : Kp O H1 (Op O D) H2 := fun a o e n => ⟨s2 a o e, fun z => n ((hOp a o e).mp z)⟩
        obtain ⟨hstop, hgo⟩ := itd H2 (Op O D) k2 dm
        by_cases hlt : i < ds.length
        · have hd : ds[i]? = some ds[i] := List.getElem?_eq_getElem hlt
          obtain ⟨g1, g2⟩ := hgo i _ hd
          rw [List.drop_eq_getElem_cons hlt] at hL
          refine .inr ⟨g1, fun H5 => ∃ acc vs rest, Same H1 H5 ∧ H5 D = some (.lst vs) ∧ RpL (Op O D) H5 vs acc ∧ vs.length ≤ i + 1 ∧ lcL t gc fe (fgt own ρ) (ds.drop (i + 1)) = .ok rest ∧ acc ++ rest = res, ?_, fun x H3 y => ?_⟩
          · rintro H5 ⟨acc, vs, rest, f1, f2, f3, f4, f5, f6⟩
            exact ⟨ds.length - (i + 1), by omega, acc, vs, rest, hlt, rfl, f1, f2, f3, f4, f5, f6⟩
          · obtain ⟨s3, rx⟩ := g2 x H3 y
            unfold lcL at hL
            cases et : t ds[i] with
            | none => rw [et] at hL; cases hL
            | some mm =>
              rw [et] at hL
              refine ⟨_, _, mm, rx, et, fun l yl => ⟨?_, ?_⟩⟩
              · have hin : ∀ p ∈ l, p.1 ∈ own := by
                  have hmm := ht _ _ et
                  clear hL et rx y
                  induction yl with
                  | nil => intro p hp; cases hp
                  | @cons i v d l m a b ih =>
                    intro p hp
                    rcases List.mem_cons.mp hp with z | z
                    · rw [z]; exact hmm (i, d) List.mem_cons_self
                    · exact ih (fun p hp => hmm p (List.mem_cons_of_mem _ hp)) p z
                refine (wipe_ext (by rw [putV_len, wipe_length]) fun j hj => ?_)
                rw [putV_at (i := j) (fun p hp (z : p.1 = j) => hj (by rw [← z]; exact hin p hp)), wipe_at hj]
              · have s13 := s2.trans s3
                have eD3 := s3 _ _ eD
                have dm3 : ∀ a, Op O D a → H3 a ≠ none := fun a z q => dm a z (s3.free q)
                have reb : RE (Op O D) (fgt own ρ) (wipe σ own) H3 := re1.blk s13 hOp dm3
                have reP : RE (Op O D) (putD (fgt own ρ) mm) (putV (wipe σ own) l) H3 := RE.put _ _ _ _ reb reb.len yl
                refine ⟨_, _, reP, ?_⟩
                cases eg : gc (putD (fgt own ρ) mm) with
                | ex c p => simp [eg, calmR] at hL
                | st => simp [eg, calmR] at hL
                | ok b =>
                  intro H4 s4
                  have reP4 := reP.same s4
                  cases b with
                  | false =>
                    refine iteF ⟨acc, vs, rest, s13.trans s4, s4 _ _ eD3, rl.kp (.same (s3.trans s4)), by omega, ?_, hres⟩
                    simpa [eg, calmR] using hL
                  | true =>
                    refine iteT ⟨_, _, reP4, ?_⟩
                    cases ef : fe (putD (fgt own ρ) mm) with
                    | ex c p => simp [eg, ef, calmR] at hL
                    | st => simp [eg, ef, calmR] at hL
                    | ok yd =>
                      intro yv H5 s5 ry
                      simp only [eg, ef, calmR, Re.bind_ok, if_true] at hL
                      cases eR : lcL t gc fe (fgt own ρ) (ds.drop (i + 1)) with
                      | ex c p => exact absurd eR (lcL_noex _)
                      | st => rw [eR] at hL; cases hL
                      | ok rest' =>
                        rw [eR] at hL
                        cases hL
                        have eD5 := s5 _ _ (s4 _ _ eD3)
                        have kD : Kp (Op O D) H5 (Op O D) (upd H5 D (.lst (vs ++ [yv]))) := .own (.inr rfl)
                        refine ⟨vs, eD5, ?_, acc ++ [yd], vs ++ [yv], rest', fun b o eb => ?_, upd_same, ?_, ?_, rfl, ?_⟩
                        · have := fits_line hf
                          omega
                        · have nb : b ≠ D := ne_of_none eb nD
                          rw [upd_ne nb]
                          exact s5 _ _ (s4 _ _ (s13 _ _ eb))
                        · exact ((rl.kp (.same ((s3.trans s4).trans s5))).app (.cons ry .nil)).kp kD
                        · rw [List.length_append]; simp; omega
                        · rw [List.append_assoc]; exact hres
        · have e : i = ds.length := by omega
          subst e
          rw [List.drop_length] at hL
          cases hL
          rw [List.append_nil] at hres
          subst hres
          exact .inl ⟨hstop, h D vs H2 (s.trans s2) (s.free nD) eD rl⟩
    · exact h.elim
theorem onlyLD_lc {own : List Nat} {fi : En → Re (List PyData)} {t : Tg} {gc : En → Re Bool} {fe : En → Re PyData} : onlyLD (eLc own fi t gc fe) := fun ρ d h => by
  unfold eLc at h
  cases e : fi ρ with
  | ex c p => rw [e] at h; cases h
  | st => rw [e] at h; cases h
  | ok ds =>
    rw [e] at h
    have h : (if fits ds.length then (lcL t gc fe (fgt own ρ) ds).bind fun ys => Re.ok (PyData.list ys) else .st) = .ok d := h
    split at h
    · cases e2 : lcL t gc fe (fgt own ρ) ds with
      | ok ys => rw [e2] at h; cases h; exact .inl ⟨_, rfl⟩
      | ex c p => rw [e2] at h; cases h
      | st => rw [e2] at h; cases h
    · cases h
theorem df_lc {elt tg iter : Expr} {ifs : List Expr} {scope : Scope} (own : List (Str × Nat)) {fi : En → Re (List PyData)} {t : Tg} {gc : En → Re Bool} {fe : En → Re PyData} (ht : tgIn t (own.map (·.2))) (hc : X.calm = true) (hN : X.N.Nodup) (hi : PI X tg iter (iD W fi)) (ok : BlkOk X.N X.env.scope scope own)
    (hg : ∀ (s : Shared) (H : Hp) (C : Addr) (cl : List (Str × Addr)) (fp : List Addr), PG (X.blk s H scope (compEnvC scope cl C X.env) fp) tg (gA t)) (hts : ∀ (s : Shared) (H : Hp) (C : Addr) (cl : List (Str × Addr)) (fp : List Addr), PTs (X.blk s H scope (compEnvC scope cl C X.env) fp) ifs (DL.tB W0 gc))
    (he : ∀ (s : Shared) (H : Hp) (C : Addr) (cl : List (Str × Addr)) (fp : List Addr), PE (X.blk s H scope (compEnvC scope cl C X.env) fp) elt (tD W0 fe)) (hs : ∀ x, foldedSetIterable iter X.env x = pure x := by intro _; rfl) :
    PE X (.ListComp elt [⟨tg, iter, ifs, 0⟩] scope pos) (tF W (eLc (own.map (·.2)) fi t gc fe)) := pe_imp (pe_lc hc hN hi ok hg hts he hs) (impLc ht)
/-- y = [..] on one line -/
theorem ps_lcS {i : Nat} {y : Str} {py spos : Pos} {elt tg iter : Expr} {ifs : List Expr} {scope : Scope} (own : List (Str × Nat)) {fi : En → Re (List PyData)} {t : Tg} {gc : En → Re Bool} {fe : En → Re PyData} (ht : tgIn t (own.map (·.2))) (hc : X.calm = true) (hN : X.N.Nodup) (hi : PI X tg iter (iD W fi)) (ok : BlkOk X.N X.env.scope scope own)
    (hg : ∀ (s : Shared) (H : Hp) (C : Addr) (cl : List (Str × Addr)) (fp : List Addr), PG (X.blk s H scope (compEnvC scope cl C X.env) fp) tg (gA t)) (hts : ∀ (s : Shared) (H : Hp) (C : Addr) (cl : List (Str × Addr)) (fp : List Addr), PTs (X.blk s H scope (compEnvC scope cl C X.env) fp) ifs (DL.tB W0 gc))
    (he : ∀ (s : Shared) (H : Hp) (C : Addr) (cl : List (Str × Addr)) (fp : List Addr), PE (X.blk s H scope (compEnvC scope cl C X.env) fp) elt (tD W0 fe)) (hy : X.N[i]? = some y) (hyl : X.env.scope.names.lookup y = some .local)
    (hsw : swapsWith (.ListComp elt [⟨tg, iter, ifs, 0⟩] scope pos) (some (.Name y py)) spos.line X.env = pure true) (hs : ∀ x, foldedSetIterable iter X.env x = pure x := by intro _; rfl) :
    PS X (.Assign [.Name y py] (.ListComp elt [⟨tg, iter, ifs, 0⟩] scope pos) spos) (tAsg (tF W (eLc (own.map (·.2)) fi t gc fe)) (gName i)) :=
  ps_imp (ps_setLc hc hN hy hyl hsw hi ok hg hts he hs) fun D σ H h => impLc ht σ H _ h

/-! ## a def by its body -/
def fnD (n L : Nat) (fb : En → SR) (ds : List PyData) : Re PyData := if ds.length = n then (match fb (ds.map .va ++ List.replicate (L - n) .no) with
  | .rt d => .ok d
  | .nx _ => .ok .none
  | .ex c p _ => .ex c p
  | .st => .st) else .st
theorem fnD_len {n L : Nat} {fb : En → SR} (ds : List PyData) (h : fnD n L fb ds ≠ .st) : ds.length = n := by
  unfold fnD at h
  split at h
  · assumption
  · exact absurd rfl h
abbrev WEx (E : XK) : WX := fun c d _ H => E c d H
theorem okD {P : Program} {w : World} {K : PySem.W.Frag} {mg : Str → Option Value} {base : Heap} {x qual : Str} {st : Stmt} {f : Addr} {fd : FuncData} {N ps : List Str} {k n : Nat} {fb : En → SR} (F : Fun K x qual st f fd) (S : FnScope N ps (defScope st)) (hn : ps.length = n)
    (hbody : ∀ (cdv : Value) (A : Around) (outer : List Env) (s : Shared) (H : Hp) (E : XK), Room k (A.deeper (envOfC qual (defScope st) s.heap.objs.size f cdv)) →
      PSs (cxOf (L2.CX P w) P w K mg base N qual (defScope st) f cdv A outer s H E) (defBody st) (sD (WEx E) fb)) : FnOk P w K mg base (L2.CX P w) (k + 1) f fd ps (DSp n (fnD n N.length fb)) := by
  refine F.okX S (fun vs H Q E h => ?_) (fun cdv A outer s H vs Q E hr h => ⟨_, hbody cdv A outer s H E hr, ?_⟩)
  · obtain ⟨ds, O, hl, _⟩ := h
    rw [hl, hn]
  · obtain ⟨ds, O, hl, hd, rl, h⟩ := h
    have hdl : ds.length = n := by rw [← rl.len, hl]
    have hNl : n ≤ N.length := by
      have := congrArg List.length S.pre
      rw [List.length_take] at this
      omega
    have noOw : ∀ (i : Nat) (t : Sl) (v : Option (Option V)) (p : Addr), (ds.map Sl.va ++ List.replicate (N.length - n) Sl.no)[i]? = some t → ¬ t.own v p := fun i t v p e w => by
      rcases List.mem_append.mp (List.mem_of_getElem? e) with z | z
      · obtain ⟨y, _, z⟩ := List.mem_map.mp z; subst z; exact w
      · rw [(List.mem_replicate.mp z).2] at w; exact w
    have Oeq : Oa O (ds.map Sl.va ++ List.replicate (N.length - n) Sl.no) (L2.start N vs) = O := funext fun a => propext ⟨fun z => z.elim id fun ⟨i, d, e, w⟩ => absurd w (noOw i d _ _ e), .inl⟩
    have hlen : (L2.start N vs).length = (ds.map Sl.va ++ List.replicate (N.length - n) Sl.no).length := by
      unfold L2.start
      simp only [List.length_append, List.length_map, List.length_replicate]
      omega
    refine ⟨ds.map .va ++ List.replicate (N.length - n) .no, H, O, ⟨hlen, Same.refl H, ⟨hlen, ?_, fun i s e => ?_⟩, fun i d p e w => absurd w (noOw i d _ _ e), fun i j d e p e1 _ w _ => absurd w (noOw i d _ _ e1), hd⟩, ?_⟩
    · rw [Oeq]; exact hd
    · rw [Oeq]
      by_cases hi : i < ds.length
      · rw [List.getElem?_append_left (by simpa using hi), List.getElem?_map, List.getElem?_eq_getElem hi] at e
        cases e
        obtain ⟨v, hv, rv⟩ := rl.get (List.getElem?_eq_getElem hi)
        refine ⟨v, ?_, rv⟩
        unfold L2.start
        have hiv : i < vs.length := by rw [rl.len]; exact hi
        rw [List.getElem?_append_left (by simpa using hiv), List.getElem?_map, hv]
        rfl
      · rw [List.getElem?_append_right (by simpa using hi)] at e
        have := (List.mem_replicate.mp (List.mem_of_getElem? e)).2
        subst this
        trivial
    · unfold fnD at h
      rw [if_pos hdl] at h
      cases eb : fb (ds.map .va ++ List.replicate (N.length - n) .no) with
      | rt d => rw [eb] at h; exact fun v H' s r => h v H' s r
      | nx ρ' => rw [eb] at h; exact fun σ' H' r => h .non H' r.same .non
      | ex c p ρ' =>
        rw [eb] at h
        intro σ' H' r
        have := h H' r.same
        cases p with
        | none => exact this
        | some d => exact fun a v e rv => this a v e rv.out
      | st => rw [eb] at h; exact h
/-- raise C('..') -/
def sRaise (c : Value) : En → SR := fun ρ => .ex c none ρ
theorem ds_raise {C : Addr} {e : Expr} (hc : X.calm = true) (tk : Takes X W) (he : PMk X e (fun _ H Q => Q (.ref C) none H)) : PS X (.Raise (some e) none pos) (sD W (sRaise (.ref C))) := ps_imp (ps_raise hc tk he) fun D σ H ⟨ρ, H0, O0, rs, h⟩ => h σ H rs
end
end DL

namespace DL
open PySem PySem.Spec L2 PyProof.Rows
section
variable {X : Cx} {W : WX} {pos : Pos} {a b : Expr} {fa fb : En → Re PyData}

/-! ## built-in functions of ints -/
def OpN (W : WX) (g : List PyData → Re PyData) (r : List V → Hp → VK → Prop) : Prop := ∀ (σ : Sg) (O : Ow) (ρ : En) (H : Hp) (xs : List V) (ds : List PyData) (Q : VK), RE O ρ σ H → RpL O H xs ds → tR W O (g ds) σ H Q → r xs H Q
theorem de_blt {id : String} {x : Str} {p : Pos} {e : Expr} {es : List Expr} {fs : En → Re (List PyData)} {r : List V → Hp → VK → Prop} {g : List PyData → Re PyData} (hc : CallR X (.builtin id) r) (hr : OpN W g r) (hm : X.mg x = none) (hv : bootBuiltins x = some (.builtin id)) (ha : PA X (e :: es) (tA W fs)) (hg : Gl X x := by rfl) (hn : x ≠ "__name__" := by decide) (hdb : (x == ("__debug__" : Str)) = false := by decide)
    (he : starEach (e :: es) X.env = (false, eval e X.env) :: starEach es X.env := by rfl) (hpl : (backTo pos (starEach es X.env)).any (·.1) = false := by rfl) : PE X (.Call (.Name x p) (e :: es) [] pos) (tD W (eCall g fs)) :=
  pe_imp (pe_callB hc hg hm hv ha hn hdb he hpl) fun σ H Q ⟨ρ, O, re, h⟩ => goA re h fun ds xs H1 re1 _ rx h1 => hr σ O ρ H1 xs ds Q re1 rx h1
theorem de_bty {T : String} {x : Str} {p : Pos} {e : Expr} {es : List Expr} {fs : En → Re (List PyData)} {r : List V → Hp → VK → Prop} {g : List PyData → Re PyData} (hc : CallR X (.type T) r) (hr : OpN W g r) (hm : X.mg x = none) (hv : bootBuiltins x = some (.type T)) (ha : PA X (e :: es) (tA W fs)) (hg : Gl X x := by rfl) (hn : x ≠ "__name__" := by decide) (hdb : (x == ("__debug__" : Str)) = false := by decide)
    (he : starEach (e :: es) X.env = (false, eval e X.env) :: starEach es X.env := by rfl) (hpl : (backTo pos (starEach es X.env)).any (·.1) = false := by rfl) : PE X (.Call (.Name x p) (e :: es) [] pos) (tD W (eCall g fs)) :=
  pe_imp (pe_callTy hc hg hm hv ha hn hdb he hpl) fun σ H Q ⟨ρ, O, re, h⟩ => goA re h fun ds xs H1 re1 _ rx h1 => hr σ O ρ H1 xs ds Q re1 rx h1
def gMax : List PyData → Re PyData
  | [.int i, .int j] => .ok (.int (if j > i then j else i))
  | _ => .st
def gMin : List PyData → Re PyData
  | [.int i, .int j] => .ok (.int (if j < i then j else i))
  | _ => .st
def gAbs : List PyData → Re PyData
  | [.int i] => .ok (.int (if i < 0 then -i else i))
  | _ => .st
def gInt : List PyData → Re PyData
  | [.int i] => .ok (.int i)
  | [.bool k] => .ok (.int (if k then 1 else 0))
  | _ => .st
theorem n_max : OpN W gMax (fun xs H Q => ∃ i j, xs = [.int i, .int j] ∧ Q (.int (if j > i then j else i)) H) := by
  intro σ O ρ H xs ds Q re rx h
  unfold gMax at h
  split at h
  · cases rx with
    | cons r1 r => cases r with
      | cons r2 r => cases r; cases r1.i_int; cases r2.i_int; exact ⟨_, _, rfl, h.here (.int _)⟩
  · exact h.elim
theorem n_min : OpN W gMin (fun xs H Q => ∃ i j, xs = [.int i, .int j] ∧ Q (.int (if j < i then j else i)) H) := by
  intro σ O ρ H xs ds Q re rx h
  unfold gMin at h
  split at h
  · cases rx with
    | cons r1 r => cases r with
      | cons r2 r => cases r; cases r1.i_int; cases r2.i_int; exact ⟨_, _, rfl, h.here (.int _)⟩
  · exact h.elim
theorem n_abs : OpN W gAbs (fun xs H Q => ∃ i, xs = [.int i] ∧ Q (.int (if i < 0 then -i else i)) H) := by
  intro σ O ρ H xs ds Q re rx h
  unfold gAbs at h
  split at h
  · cases rx with
    | cons r1 r => cases r; cases r1.i_int; exact ⟨_, rfl, h.here (.int _)⟩
  · exact h.elim
theorem n_int : OpN W gInt (fun xs H Q => (∃ i, xs = [.int i] ∧ Q (.int i) H) ∨ ∃ k, xs = [.bl k] ∧ Q (.int (if k then 1 else 0)) H) := by
  intro σ O ρ H xs ds Q re rx h
  unfold gInt at h
  split at h
  · cases rx with
    | cons r1 r => cases r; cases r1.i_int; exact .inl ⟨_, rfl, h.here (.int _)⟩
  · cases rx with
    | cons r1 r => cases r; cases r1.i_bl; exact .inr ⟨_, rfl, h.here (.int _)⟩
  · exact h.elim
theorem de_max {p : Pos} {fs : En → Re (List PyData)} (hc : X.calm = true) (hm : X.mg "max" = none) (ha : PA X [a, b] (tA W fs)) (hg : Gl X "max" := by rfl) (he : starEach [a, b] X.env = (false, eval a X.env) :: starEach [b] X.env := by rfl) (hpl : (backTo pos (starEach [b] X.env)).any (·.1) = false := by rfl) :
    PE X (.Call (.Name "max" p) [a, b] [] pos) (tD W (eCall gMax fs)) := de_blt (call_max2 hc) n_max hm (by decide +kernel) ha hg (he := he) (hpl := hpl)
theorem de_min {p : Pos} {fs : En → Re (List PyData)} (hc : X.calm = true) (hm : X.mg "min" = none) (ha : PA X [a, b] (tA W fs)) (hg : Gl X "min" := by rfl) (he : starEach [a, b] X.env = (false, eval a X.env) :: starEach [b] X.env := by rfl) (hpl : (backTo pos (starEach [b] X.env)).any (·.1) = false := by rfl) :
    PE X (.Call (.Name "min" p) [a, b] [] pos) (tD W (eCall gMin fs)) := de_blt (call_min2 hc) n_min hm (by decide +kernel) ha hg (he := he) (hpl := hpl)
theorem de_abs {p : Pos} {fs : En → Re (List PyData)} (hm : X.mg "abs" = none) (ha : PA X [a] (tA W fs)) (hg : Gl X "abs" := by rfl) (he : starEach [a] X.env = (false, eval a X.env) :: starEach [] X.env := by rfl) :
    PE X (.Call (.Name "abs" p) [a] [] pos) (tD W (eCall gAbs fs)) := de_blt call_abs n_abs hm (by decide +kernel) ha hg (he := he)
theorem de_int1 {p : Pos} {fs : En → Re (List PyData)} (hm : X.mg "int" = none) (ha : PA X [a] (tA W fs)) (hg : Gl X "int" := by rfl) (he : starEach [a] X.env = (false, eval a X.env) :: starEach [] X.env := by rfl) :
    PE X (.Call (.Name "int" p) [a] [] pos) (tD W (eCall gInt fs)) := de_bty call_int1 n_int hm (by decide +kernel) ha hg (he := he)
/-! ### ints of a list or tuple -/
def intsOf : List PyData → Option (List Int)
  | [] => some []
  | .int i :: r => (intsOf r).map (i :: ·)
  | _ => none
theorem intsOf_ok : ∀ {ds : List PyData} {ns : List Int}, intsOf ds = some ns → ds = ns.map .int
  | [], ns, h => by cases h; rfl
  | .int i :: r, ns, h => by
    have h : (intsOf r).map (i :: ·) = some ns := h
    cases e : intsOf r with
    | none => rw [e] at h; cases h
    | some m =>
      rw [e] at h
      cases h
      rw [intsOf_ok e]; rfl
  | .none :: _, _, h => by cases h
  | .bool _ :: _, _, h => by cases h
  | .str _ :: _, _, h => by cases h
  | .list _ :: _, _, h => by cases h
  | .tuple _ :: _, _, h => by cases h
  | .dict _ :: _, _, h => by cases h
@[simp] theorem intsOf_map : ∀ (ns : List Int), intsOf (ns.map .int) = some ns
  | [] => rfl
  | i :: r => by
    show (intsOf (r.map .int)).map (i :: ·) = _
    rw [intsOf_map r]; rfl
def gSum : List PyData → Re PyData
  | [.list ds] => match intsOf ds with
    | some ns => .ok (.int ns.sum)
    | none => .st
  | [.tuple ds] => match intsOf ds with
    | some ns => .ok (.int ns.sum)
    | none => .st
  | _ => .st
theorem sum_tup {prog : Program} {w : World} {A : Around} {E : Value → Shared → Prop} {s : Shared} {l : Addr} {its : List Value} {ns : List Int} {Q : Value → Shared → Prop} (hh : A.handled = none) (hl : IsTup s.heap l its.toArray) (hi : IntsAre its ns)
    (h : ∀ h' tk t', (∀ b o, s.heap.get? b = some o → h'.get? b = some o) → Q (.int ns.sum t') { s with heap := h', toks := tk }) : wpAny (model prog w) A (call (.builtin "sum") [.ref l]) Q E s := by
  obtain ⟨xs, e⟩ := hi.allInts.items
  have hn : numsOf (intItems xs).toList = ns := by rw [← e]; exact hi.numsOf
  rw [nums_intItems] at hn
  rw [e] at hl
  have hlt : l < s.heap.objs.size := hl.lt
  refine PySem.call_sum_walkG (wpAny_pyIter_tuple (show s.heap.IsTuple l (intItems xs) from hl) ?_)
  refine ⟨_, [s.heap.objs.size, l], [s.heap.objs.size], _, _, _, numAt xs, rfl, Walks.tuple (A := A.in1) hh s.heap.objs.size l (Nat.ne_of_lt hlt) (intItems xs), ⟨⟨_, Heap.get?_push_size _ rfl, rfl, rfl⟩, hl.push _⟩, ?_, (fun _ _ => intItems_at), fun h' tk t' hk => ?_⟩
  · intro b hb
    rw [Heap.size_push]
    rcases List.mem_cons.mp hb with z | z
    · rw [z]; exact Nat.lt_succ_self _
    · rw [List.mem_singleton.mp z]; exact Nat.lt_succ_of_lt hlt
  · have := h h' tk t' (fun b o e => hk b o (by
      intro z
      rw [List.mem_singleton.mp z] at e
      exact absurd (Heap.lt_size e) (Nat.lt_irrefl _)) (Heap.get?_push_of_some _ e))
    rw [preSum_eq, List.take_of_length_le (by simp [intItems])]
    rw [hn]; exact this
end
end DL

namespace DL
open PySem PySem.Spec L2 PyProof.Rows
section
variable {X : Cx} {W : WX} {pos : Pos} {a b : Expr} {fa fb : En → Re PyData}
theorem cr_sumT (hc : X.calm = true) : CallR X (.builtin "sum") (fun vs H Q => ∃ (a : Addr) (ns : List Int), vs = [V.ref a] ∧ SqT X.K H a (ns.map V.int) ∧ Q (.int ns.sum) H) := by
  intro pins s σ H xs us Q I r h
  obtain ⟨a, ns, rfl, hq, q⟩ := h
  obtain ⟨u, rfl, ru⟩ := vals1 r
  cases ru
  obtain ⟨its, rv, pl, hz⟩ := I.tuple hq
  exact sum_tup (I.ok.hd hc) pl (intsAre_of rv) fun h' tk t' hk => ⟨.int ns.sum, H, I.kept hk, ⟨t', rfl⟩, q⟩
theorem n_sum : OpN W gSum (fun vs H Q => rSum X.K vs H Q ∨ ∃ (a : Addr) (ns : List Int), vs = [V.ref a] ∧ SqT X.K H a (ns.map V.int) ∧ Q (.int ns.sum) H) := by
  intro σ O ρ H xs ds Q re rx h
  unfold gSum at h
  split at h
  · cases rx with
    | cons r1 r =>
      cases r
      obtain ⟨a, xs, rfl, ea, _, q⟩ := r1.i_lst
      split at h
      · rename_i ns hn
        have := intsOf_ok hn
        subst this
        have := q.ints
        subst this
        exact .inl ⟨a, ns, rfl, SqL.of ea, h.here (.int _)⟩
      · exact h.elim
  · cases rx with
    | cons r1 r =>
      cases r
      obtain ⟨a, xs, rfl, ea, _, q⟩ := r1.i_tup
      split at h
      · rename_i ns hn
        have := intsOf_ok hn
        subst this
        have := q.ints
        subst this
        exact .inr ⟨a, ns, rfl, SqT.of ea, h.here (.int _)⟩
      · exact h.elim
  · exact h.elim
theorem de_sum {p : Pos} {fs : En → Re (List PyData)} (hc : X.calm = true) (hm : X.mg "sum" = none) (ha : PA X [a] (tA W fs)) (hg : Gl X "sum" := by rfl) (he : starEach [a] X.env = (false, eval a X.env) :: starEach [] X.env := by rfl) :
    PE X (.Call (.Name "sum" p) [a] [] pos) (tD W (eCall gSum fs)) := de_blt ((cr_sum hc).or (cr_sumT hc)) n_sum hm (by decide +kernel) ha hg (he := he)
/-! ## list(..), tuple(..) -/
def dTuple : PyData → Re PyData
  | .list ds => .ok (.tuple ds)
  | .tuple ds => .ok (.tuple ds)
  | _ => .st
theorem de_tuple {p : Pos} (hm : X.mg "tuple" = none) (ha : PE X a (tL W fa)) (hg : Gl X "tuple" := by rfl) (he : starEach [a] X.env = (false, eval a X.env) :: starEach [] X.env := by rfl) :
    PE X (.Call (.Name "tuple" p) [a] [] pos) (tD W (e1 dTuple fa)) :=
  pe_imp (pe_callTy call_tuple_of hg hm (by decide +kernel) (pa_cons ha pa_nil he) (he := he)) fun σ H Q ⟨ρ, O, re, h⟩ => goL re h fun d x H1 re1 _ rx h1 => by
    cases d with
    | list ds =>
      obtain ⟨a, xs, rfl, ea, q⟩ := rx.i_lst
      exact ⟨a, xs, rfl, .inl ⟨SqL.of ea, fun p hp => h1.newT re1 hp q⟩⟩
    | tuple ds =>
      rcases rx with rx | ⟨p, _, r⟩
      · obtain ⟨a, xs, rfl, ea, _, q⟩ := rx.i_tup
        exact ⟨a, xs, rfl, .inr ⟨SqT.of ea, h1.here rx⟩⟩
      · exact r.elim
    | _ => exact h1.elim
def dList : PyData → Re PyData
  | .list ds => .ok (.list ds)
  | .tuple ds => .ok (.list ds)
  | _ => .st
theorem onlyLD_list : onlyLD (e1 dList fa) := fun ρ d h => by
  unfold e1 at h
  cases e : fa ρ with
  | ok x =>
    rw [e] at h
    cases x <;> first | (cases h; exact .inl ⟨_, rfl⟩) | cases h
  | ex c p => rw [e] at h; cases h
  | st => rw [e] at h; cases h
theorem goLF {g : PyData → Re PyData} {σ : Sg} {O : Ow} {ρ : En} {H : Hp} {Q R : VK} (re : RE O ρ σ H) (h : tRF W O ((fa ρ).bind g) σ H Q) (k : ∀ d x H1, RE O ρ σ H1 → Same H H1 → Lk O H1 x d → tRF W O (g d) σ H Q → R x H1) : tL W fa σ H R := by
  refine ⟨ρ, O, re, ?_⟩
  cases e : fa ρ with
  | ok d => rw [e] at h; exact fun v H1 s q => k d v H1 (re.same s) s q h
  | ex c p => rw [e] at h; exact h
  | st => rw [e] at h; exact h
theorem goDF {g : PyData → Re PyData} {σ : Sg} {O : Ow} {ρ : En} {H : Hp} {Q R : VK} (re : RE O ρ σ H) (h : tRF W O ((fa ρ).bind g) σ H Q) (k : ∀ d x H1, RE O ρ σ H1 → Same H H1 → Rp O H1 x d → tRF W O (g d) σ H Q → R x H1) : tD W fa σ H R := by
  refine ⟨ρ, O, re, ?_⟩
  cases e : fa ρ with
  | ok d => rw [e] at h; exact fun v H1 s q => k d v H1 (re.same s) s q h
  | ex c p => rw [e] at h; exact h
  | st => rw [e] at h; exact h
theorem goAF {fs : En → Re (List PyData)} {g : List PyData → Re PyData} {σ : Sg} {O : Ow} {ρ : En} {H : Hp} {Q : VK} {R : List V → Hp → Prop} (re : RE O ρ σ H) (h : tRF W O ((fs ρ).bind g) σ H Q) (k : ∀ d x H1, RE O ρ σ H1 → Same H H1 → RpL O H1 x d → tRF W O (g d) σ H Q → R x H1) : tA W fs σ H R := by
  refine ⟨ρ, O, re, ?_⟩
  cases e : fs ρ with
  | ok d => rw [e] at h; exact fun v H1 s q => k d v H1 (re.same s) s q h
  | ex c p => rw [e] at h; exact h
  | st => rw [e] at h; exact h
theorem tRF.newL {O : Ow} {σ : Sg} {H H1 : Hp} {Q : VK} {ds : List PyData} {xs : List V} {p : Addr} (h : tRF W O (.ok (.list ds)) σ H Q) (s : Same H H1) (n : H1 p = none) (r : RpL O H1 xs ds) : Q (.ref p) (upd H1 p (.lst xs)) :=
  h p xs _ (s.trans (same_upd n)) (s.free n) upd_same (r.kp (.op n))
theorem df_list {p : Pos} (hm : X.mg "list" = none) (ha : PE X a (tL W fa)) (hg : Gl X "list" := by rfl) (he : starEach [a] X.env = (false, eval a X.env) :: starEach [] X.env := by rfl) :
    PE X (.Call (.Name "list" p) [a] [] pos) (tF W (e1 dList fa)) :=
  pe_imp (pe_callTy call_list_of hg hm (by decide +kernel) (pa_cons ha pa_nil he) (he := he)) fun σ H Q ⟨ρ, O, re, h⟩ => goLF re h fun d x H1 re1 s rx h1 => by
    cases d with
    | list ds =>
      obtain ⟨a, xs, rfl, ea, q⟩ := rx.i_lst
      exact ⟨a, xs, rfl, .inl (SqL.of ea), fun p hp => h1.newL s hp q⟩
    | tuple ds =>
      obtain ⟨a, xs, rfl, ea, q⟩ := rx.i_tup
      exact ⟨a, xs, rfl, .inr (SqT.of ea), fun p hp => h1.newL s hp q⟩
    | _ => exact h1.elim
/-- list(range(n)) -/
def dLR1 : PyData → Re PyData
  | .int n => if decide (0 ≤ n) && decide (n ≤ 1000000) then .ok (.list (rngD 0 n.toNat)) else .st
  | _ => .st
theorem onlyLD_LR : onlyLD (e1 dLR1 fa) := fun ρ d h => by
  unfold e1 at h
  cases e : fa ρ with
  | ok x =>
    rw [e] at h
    cases x with
    | int n =>
      have h : (if decide (0 ≤ n) && decide (n ≤ 1000000) then Re.ok (PyData.list (rngD 0 n.toNat)) else .st) = .ok d := h
      split at h
      · cases h; exact .inl ⟨_, rfl⟩
      · cases h
    | _ => cases h
  | ex c p => rw [e] at h; cases h
  | st => rw [e] at h; cases h
theorem rgV_rp {O : Ow} {H : Hp} (n : Int) : RpL O H (rgV 0 n) (rngD 0 n.toNat) := by
  unfold rgV rngD
  rw [Int.sub_zero]
  generalize List.range n.toNat = l
  induction l with
  | nil => exact .nil
  | cons i l ih => exact .cons (.int _) ih
theorem df_lr1 {p p2 q : Pos} (hc : X.calm = true) (hm : X.mg "list" = none) (hm2 : X.mg "range" = none) (ha : PE X a (tD W fa)) (hg : Gl X "list" := by rfl) (hg2 : Gl X "range" := by rfl) (na : starEach [a] X.env = (false, eval a X.env) :: starEach [] X.env := by rfl)
    (nb : starEach [.Call (.Name "range" p2) [a] [] q] X.env = (false, eval (.Call (.Name "range" p2) [a] [] q) X.env) :: starEach [] X.env := by rfl) : PE X (.Call (.Name "list" p) [.Call (.Name "range" p2) [a] [] q] [] pos) (tF W (e1 dLR1 fa)) :=
  pe_imp (pe_listRg hc hg hm (prg_1 hg2 hm2 ha na) nb) fun σ H Q ⟨ρ, O, re, h⟩ => goDF re h fun d x H1 re1 s rx h1 => by
    cases d with
    | int n =>
      cases rx.i_int
      have h1 : tRF W O (if decide (0 ≤ n) && decide (n ≤ 1000000) then Re.ok (PyData.list (rngD 0 n.toNat)) else .st) σ H Q := h1
      split at h1
      · rename_i hh
        simp only [Bool.and_eq_true, decide_eq_true_eq] at hh
        exact ⟨n, rfl, RgOk.of_le (by omega) (by omega) (by omega) hh.1, fun q hq => h1.newL s hq (rgV_rp n)⟩
      · exact h1.elim
    | _ => exact h1.elim
/-- xs * n -/
def dRep (d e : PyData) : Re PyData := match d, e with
  | .list xs, .int k => if decide (0 ≤ k) && decide (k ≤ 100000) && decide (xs.length ≤ 100) then .ok (.list (List.replicate k.toNat xs).flatten) else .st
  | _, _ => .st
theorem df_rep (ha : PE X a (tD W fa)) (hb : PE X b (tD W fb)) : PE X (.BinOp a .Mult b pos) (tF W (e2 dRep fa fb)) :=
  pe_imp (pe_op op_rep ha hb) fun σ H Q ⟨ρ, O, re, h⟩ => goDF re h fun d x H1 re1 s1 rx h1 => by
    refine ⟨ρ, O, re1, ?_⟩
    cases e : fb ρ with
    | ex c p => rw [e] at h1; exact fun H2 s2 => h1 H2 (s1.trans s2)
    | st => rw [e] at h1; exact h1
    | ok k =>
      rw [e] at h1
      intro y H2 s2 ry
      have h1 : tRF W O (dRep d k) σ H Q := h1
      unfold dRep at h1
      split at h1
      · split at h1
        · rename_i hh
          simp only [Bool.and_eq_true, decide_eq_true_eq] at hh
          obtain ⟨a, xs, rfl, ea, na, ra⟩ := (rx.kp (.same s2)).i_lst
          cases ry.i_int
          have hl := ra.len
          refine ⟨a, _, xs, rfl, rfl, ea, by omega, by omega, ?_, fun p hp => h1.newL (s1.trans s2) hp (ra.rep _)⟩
          rw [sizeLine_eq]
          have h1 : xs.length ≤ 100 := by omega
          exact Nat.le_trans (Nat.mul_le_mul h1 (show _ ≤ 100000 by omega)) (by decide)
        · exact h1.elim
      · exact h1.elim
/-! ## stores -/
theorem goSS {fe : En → Re PyData} {H0 : Hp} {O0 : Ow} {ρ : En} {σ : Sg} {H : Hp} {D : Ends} {k : PyData → SR} {R : VK} (rs : RS H0 O0 ρ σ H) (h : tS W H0 O0 (SR.of (fe ρ) ρ k) D) (q : ∀ d v H1, Same H H1 → RS H0 O0 ρ σ H1 → Rp (Oa O0 ρ σ) H1 v d → tS W H0 O0 (k d) D → R v H1) : tD W fe σ H R := by
  refine ⟨ρ, _, rs.re, ?_⟩
  cases e : fe ρ with
  | ok d => rw [e] at h; exact fun v H1 s r => q d v H1 s (rs.heap s) r h
  | ex c p => rw [e] at h; exact fun H1 s => h σ H1 (rs.heap s)
  | st => rw [e] at h; exact h
def sStL (i : Nat) (fx fe : En → Re PyData) : En → SR := fun ρ => SR.of (fe ρ) ρ fun d => match ρ[i]? with
  | some (.ow (.list ds)) => SR.of (fx ρ) ρ fun k => match k with
    | .int z => match ixN ds.length z with
      | some j => .nx (ρ.set i (.ow (.list (ds.set j d))))
      | none => .st
    | _ => .st
  | _ => .st
theorem ds_stL (i : Nat) {x : Str} {e ix : Expr} {fx fe : En → Re PyData} {p1 p2 : Pos} (he : PE X e (tD W fe)) (hx : PE X ix (tD W fx)) (hN : X.N[i]? = some x := by rfl) (hv : Vis X.env.scope x := by first | exact Or.inl rfl | exact Or.inr (Or.inl rfl) | exact Or.inr (Or.inr rfl)) (hd : (x == ("__debug__" : Str)) = false := by decide) (hcd : (x == ("__classdict__" : Str)) = false := by decide)
    (ha : ∀ v, assign (.Subscript (.Name x p1) ix p2) X.env v = (do
      let ov ← holding [v] (eval (.Name x p1) X.env)
      let iv ← holding [v, ov] (eval ix X.env)
      standAt p2
      holding [v, ov, iv] (setItem ov iv v)
      release [v, ov, iv] []) := by intro _; rfl)
    (hs : swapsWithSole [.Subscript (.Name x p1) ix p2] e pos.line X.env = pure false := by rfl) (hw : swappedStores [.Subscript (.Name x p1) ix p2] e X.env = pure none := by rfl)
    (h1 : (assignEach [.Subscript (.Name x p1) ix p2] X.env).map (·.2) = [assign (.Subscript (.Name x p1) ix p2) X.env] := by rfl) : PS X (.Assign [.Subscript (.Name x p1) ix p2] e pos) (sD W (sStL i fx fe)) :=
  ps_imp (ps_asg he (pg_sub (pe_var hN hv hd hcd) hx set_list ha) hs hw h1) fun D σ H ⟨ρ, H0, O0, rs, h⟩ => goS rs h fun d v H1 rs1 rv h1 => by
    split at h1
    · rename_i ds ei
      obtain ⟨p, ep, op, xs, e1, r1⟩ := rs1.re.at_ i _ ei
      refine ⟨.ref p, ep, goSS rs1 h1 fun k y H2 s2 rs2 ry h2 => ?_⟩
      split at h2
      · split at h2
        · rename_i j hj
          cases ry.i_int
          obtain ⟨p', ep', op', xs', e1', r1'⟩ := rs2.re.at_ i _ ei
          rw [ep] at ep'; cases ep'
          have sm : Rp (Oa O0 ρ σ) H2 v d := rv.kp (.same s2)
          refine ⟨p, xs', _, j, rfl, rfl, e1', by rw [r1'.len]; exact hj, h2 _ _ (rs2.store ei ep ⟨xs'.set j v, upd_same, ?_⟩)⟩
          exact (r1'.set sm j).kp (.own op)
        · exact h2.elim
      · exact h2.elim
    · exact h1.elim
/-! d[k] = e -/
def putE (es : List (PyData × PyData)) (k d : PyData) : List (PyData × PyData) := if (es.any fun e => keyB e.1 k) then es.map (fun e => if keyB e.1 k then (e.1, d) else e) else es ++ [(k, d)]
theorem RpD.len {O : Ow} {H : Hp} : ∀ {kvs : List (Key × V)} {es : List (PyData × PyData)}, RpD O H kvs es → kvs.length = es.length
  | _, _, .nil => rfl
  | _, _, .cons _ b => congrArg (· + 1) (RpD.len b)
theorem RpD.any {O : Ow} {H : Hp} (k : Key) : ∀ {kvs : List (Key × V)} {es : List (PyData × PyData)}, RpD O H kvs es → (kvs.any fun kv => decide (kv.1 = k)) = es.any fun e => keyB e.1 (keyD k)
  | _, _, .nil => rfl
  | _, _, .cons _ b => by
    rw [List.any_cons, List.any_cons, RpD.any k b, keyB_iff]
theorem RpD.snoc {O : Ow} {H : Hp} {k : Key} {v : V} {d : PyData} (r : Rp O H v d) : ∀ {kvs : List (Key × V)} {es : List (PyData × PyData)}, RpD O H kvs es → RpD O H (kvs ++ [(k, v)]) (es ++ [(keyD k, d)])
  | _, _, .nil => .cons r .nil
  | _, _, .cons a b => .cons a (RpD.snoc r b)
theorem RpD.upd {O : Ow} {H : Hp} {k : Key} {v : V} {d : PyData} (r : Rp O H v d) : ∀ {kvs : List (Key × V)} {es : List (PyData × PyData)}, RpD O H kvs es → RpD O H (kvs.map fun kv => if kv.1 = k then (kv.1, v) else kv) (es.map fun e => if keyB e.1 (keyD k) then (e.1, d) else e)
  | _, _, .nil => .nil
  | _, _, .cons (k := j) a b => by
    rw [List.map_cons, List.map_cons]
    by_cases e : j = k
    · have h1 : keyB (keyD j) (keyD k) = true := by rw [keyB_iff]; exact decide_eq_true e
      simp only [e, if_true] at *
      rw [if_pos h1]
      exact .cons r (RpD.upd r b)
    · have h1 : keyB (keyD j) (keyD k) = false := by rw [keyB_iff]; exact decide_eq_false e
      simp only [e, if_false, h1] at *
      exact .cons a (RpD.upd r b)
theorem RpD.put {O : Ow} {H : Hp} {k : Key} {v : V} {d : PyData} (r : Rp O H v d) {kvs : List (Key × V)} {es : List (PyData × PyData)} (q : RpD O H kvs es) : RpD O H (putK kvs k v) (putE es (keyD k) d) := by
  unfold putK putE
  rw [q.any k]
  split
  · exact q.upd r
  · exact q.snoc r
def sStD (i : Nat) (fx fe : En → Re PyData) : En → SR := fun ρ => SR.of (fe ρ) ρ fun d => match ρ[i]? with
  | some (.ow (.dict es)) => SR.of (fx ρ) ρ fun k => if isKey k && fits (es.length + 1) then .nx (ρ.set i (.ow (.dict (putE es k d)))) else .st
  | _ => .st
theorem ds_stD (i : Nat) {x : Str} {e ix : Expr} {fx fe : En → Re PyData} {p1 p2 : Pos} (hu : X.A.units + 1 < cLine) (he : PE X e (tD W fe)) (hx : PE X ix (tD W fx)) (hN : X.N[i]? = some x := by rfl) (hv : Vis X.env.scope x := by first | exact Or.inl rfl | exact Or.inr (Or.inl rfl) | exact Or.inr (Or.inr rfl)) (hd : (x == ("__debug__" : Str)) = false := by decide) (hcd : (x == ("__classdict__" : Str)) = false := by decide)
    (hs : swapsWith e (some (.Subscript (.Name x p1) ix p2)) pos.line X.env = pure false := by rfl) : PS X (.Assign [.Subscript (.Name x p1) ix p2] e pos) (sD W (sStD i fx fe)) :=
  ps_imp (ps_dput hu (pe_var hN hv hd hcd) hx he hs) fun D σ H ⟨ρ, H0, O0, rs, h⟩ => goS rs h fun d v H1 rs1 rv h1 => by
    split at h1
    · rename_i es ei
      obtain ⟨p, ep, op, kvs, e1, r1⟩ := rs1.re.at_ i _ ei
      refine ⟨.ref p, ep, goSS rs1 h1 fun k y H2 s2 rs2 ry h2 => ?_⟩
      split at h2
      · rename_i hk
        rw [Bool.and_eq_true] at hk
        obtain ⟨kk, rfl⟩ := key_of hk.1
        cases rp_key ry
        obtain ⟨p', ep', op', kvs', e1', r1'⟩ := rs2.re.at_ i _ ei
        rw [ep] at ep'; cases ep'
        have sm : Rp (Oa O0 ρ σ) H2 v d := rv.kp (.same s2)
        refine ⟨p, _, rfl, DPut.k e1' ?_, h2 _ _ (rs2.store ei ep ⟨_, upd_same, (r1'.put sm).kp (.own op)⟩)⟩
        have := fits_line hk.2
        have := r1'.len
        omega
      · exact h2.elim
    · exact h1.elim
/-! {k: v}, {} -/
def eDct1 (fk fv : En → Re PyData) : En → Re PyData := fun ρ => (fk ρ).bind fun k => (fv ρ).bind fun v => if isKey k then .ok (.dict [(k, v)]) else .st
def eDct0 : En → Re PyData := fun _ => .ok (.dict [])
theorem onlyLD_d0 : onlyLD eDct0 := fun ρ d h => by cases h; exact .inr ⟨_, rfl⟩
theorem onlyLD_d1 {fk fv : En → Re PyData} : onlyLD (eDct1 fk fv) := fun ρ d h => by
  unfold eDct1 at h
  cases e : fk ρ with
  | ok k =>
    rw [e] at h
    cases e2 : fv ρ with
    | ok v =>
      simp only [e2, Re.bind_ok] at h
      split at h
      · cases h; exact .inr ⟨_, rfl⟩
      · cases h
    | ex c p => simp only [e2, Re.bind_ok, Re.bind_ex] at h; cases h
    | st => simp only [e2, Re.bind_ok, Re.bind_st] at h; cases h
  | ex c p => rw [e] at h; cases h
  | st => rw [e] at h; cases h
theorem df_d0 : PE X (.Dict [] [] pos) (tF W eDct0) := pe_imp pe_dnewK fun σ H Q ⟨ρ, O, re, h⟩ => fun p hp => h p [] _ (same_upd hp) hp upd_same .nil
theorem df_d1 {k v : Expr} {fk fv : En → Re PyData} (hk : PE X k (tD W fk)) (hv : PE X v (tD W fv)) : PE X (.Dict [some k] [v] pos) (tF W (eDct1 fk fv)) :=
  pe_imp (pe_disp (pps_cons hk hv pps_nil) (by rfl) (by rfl) (fun z => by cases z) (show 1 ≤ 15 by decide)) fun σ H Q ⟨ρ, O, re, h⟩ => fun p hp => by
    have s0 : Same H (upd H p (.dK [])) := same_upd hp
    have reO : RE (Op O p) ρ σ (upd H p (.dK [])) := by
      refine ⟨re.len, fun a z => ?_, fun i s e => ?_⟩
      · rcases z with z | z
        · intro q
          exact re.dom a z (s0.free q)
        · rw [z, upd_same]; exact fun q => nomatch q
      · have z := re.at_ i s e
        have k : Kp O H (Op O p) (upd H p (.dK [])) := .op hp
        cases s with
        | no => trivial
        | va d => obtain ⟨x, e1, e2⟩ := z; exact ⟨x, e1, e2.kp k⟩
        | ow d =>
          obtain ⟨q, e1, o, e2⟩ := z
          refine ⟨q, e1, .inl o, ?_⟩
          cases d with
          | list ds => obtain ⟨xs, f1, f2⟩ := e2; exact ⟨xs, s0 _ _ f1, f2.kp k⟩
          | dict es => obtain ⟨xs, f1, f2⟩ := e2; exact ⟨xs, s0 _ _ f1, f2.kp k⟩
          | _ => exact e2
        | ob C A st => obtain ⟨e1, o, e2⟩ := z; exact ⟨e1, fun a ha => .inl (o a ha), e2.tr k fun a u _ hu => s0 a u hu⟩
    unfold eDct1 at h
    refine ⟨ρ, _, reO, ?_⟩
    cases e : fk ρ with
    | ex c q =>
      rw [e] at h
      intro H' s'
      have := h H' (s0.trans s')
      cases q with
      | none => exact this
      | some d => exact fun a v ea rv => this a v ea (rv.kp fun a o e n => ⟨e, fun z => n (.inl z)⟩)
    | st => rw [e] at h; exact h
    | ok kd =>
      rw [e] at h
      intro x H1 s1 rx
      refine ⟨ρ, _, reO.same s1, ?_⟩
      cases e2 : fv ρ with
      | ex c q =>
        simp only [e2, Re.bind_ok, Re.bind_ex] at h
        intro H' s'
        have := h H' ((s0.trans s1).trans s')
        cases q with
        | none => exact this
        | some d => exact fun a v ea rv => this a v ea (rv.kp fun a o e n => ⟨e, fun z => n (.inl z)⟩)
      | st => simp only [e2, Re.bind_ok, Re.bind_st] at h; exact h
      | ok vd =>
        simp only [e2, Re.bind_ok] at h
        intro y H2 s2 ry
        split at h
        · rename_i hk
          obtain ⟨kk, rfl⟩ := key_of hk
          cases rp_key (rx.kp (.same s2))
          have ep : H2 p = some (.dK []) := s2 _ _ (s1 _ _ upd_same)
          refine ⟨ep, [(kk, y)], rfl, (show 1 ≤ 15 by decide), ?_⟩
          refine h p _ _ (fun b o eb => ?_) hp upd_same ?_
          · have nb : b ≠ p := ne_of_none eb hp
            rw [upd_ne nb]
            exact s2 _ _ (s1 _ _ (s0 _ _ eb))
          · exact (RpD.cons ry .nil).kp (.own (.inr rfl))
        · exact h.elim
end
end DL

namespace DL
open PySem PySem.Spec L2 PyProof.Rows
def bNot (g : En → Re Bool) : En → Re Bool := fun ρ => (g ρ).bind fun b => .ok (!b)
def bTru (f : En → Re PyData) : En → Re Bool := fun ρ => (f ρ).bind truth
def sFrz (i : Nat) (f : En → SR) : En → SR := fun ρ => f (frz i ρ)
section
variable {X : Cx} {W : WX} {pos : Pos} {a b : Expr} {fa fb : En → Re PyData}
/-! ## lists and tuples are walked alike -/
theorem pi_either {tg e : Expr} {t u : TI} (h1 : PI X tg e t) (h2 : PI X tg e u) : PI X tg e (fun σ H Q => t σ H Q ∨ u σ H Q) := ⟨fun pins s σ H Q I h => h.elim (h1.run pins s σ H Q I) (h2.run pins s σ H Q I)⟩
theorem ps_either {st : Stmt} {t u : TS} (h1 : PS X st t) (h2 : PS X st u) : PS X st (fun D σ H => t D σ H ∨ u D σ H) := ⟨fun pins s σ H D I h => h.elim (h1.run pins s σ H D I) (h2.run pins s σ H D I)⟩
def iSeq (fa : En → Re PyData) : En → Re (List PyData) := fun ρ => (fa ρ).bind fun d => match d with
  | .list ds => .ok ds
  | .tuple ds => .ok ds
  | _ => .st
theorem di_seq {tg l : Expr} (hl : PE X l (tD W fa)) : PI X tg l (iD W (iSeq fa)) := pi_imp (pi_either (di_list (tg := tg) hl) (di_tup hl)) fun σ H R ⟨ρ, O, re, h⟩ => by
  unfold iSeq at h
  cases e : fa ρ with
  | ex c p => rw [e] at h; exact .inl ⟨ρ, O, re, by unfold DL.iList; rw [e]; exact h⟩
  | st => rw [e] at h; exact h.elim
  | ok d =>
    rw [e] at h
    cases d with
    | list ds => exact .inl ⟨ρ, O, re, by unfold DL.iList; rw [e]; exact h⟩
    | tuple ds => exact .inr ⟨ρ, O, re, by unfold DL.iTup; rw [e]; exact h⟩
    | _ => exact h.elim
/-! x[k] = e, x a list or a dict -/
def sSto (i : Nat) (fx fe : En → Re PyData) : En → SR := fun ρ => match ρ[i]? with
  | some (.ow (.dict _)) => sStD i fx fe ρ
  | _ => sStL i fx fe ρ
theorem ds_sto (i : Nat) {x : Str} {e ix : Expr} {fx fe : En → Re PyData} {p1 p2 : Pos} (hu : X.A.units + 1 < cLine) (he : PE X e (tD W fe)) (hx : PE X ix (tD W fx)) (hN : X.N[i]? = some x := by rfl) (hv : Vis X.env.scope x := by first | exact Or.inl rfl | exact Or.inr (Or.inl rfl) | exact Or.inr (Or.inr rfl)) (hd : (x == ("__debug__" : Str)) = false := by decide) (hcd : (x == ("__classdict__" : Str)) = false := by decide)
    (ha : ∀ v, assign (.Subscript (.Name x p1) ix p2) X.env v = (do
      let ov ← holding [v] (eval (.Name x p1) X.env)
      let iv ← holding [v, ov] (eval ix X.env)
      standAt p2
      holding [v, ov, iv] (setItem ov iv v)
      release [v, ov, iv] []) := by intro _; rfl)
    (hs : swapsWithSole [.Subscript (.Name x p1) ix p2] e pos.line X.env = pure false := by rfl) (hw : swappedStores [.Subscript (.Name x p1) ix p2] e X.env = pure none := by rfl)
    (h1 : (assignEach [.Subscript (.Name x p1) ix p2] X.env).map (·.2) = [assign (.Subscript (.Name x p1) ix p2) X.env] := by rfl) (hs2 : swapsWith e (some (.Subscript (.Name x p1) ix p2)) pos.line X.env = pure false := by rfl) : PS X (.Assign [.Subscript (.Name x p1) ix p2] e pos) (sD W (sSto i fx fe)) :=
  ps_imp (ps_either (ds_stL i he hx hN hv hd hcd ha hs hw h1) (ds_stD i hu he hx hN hv hd hcd hs2)) fun D σ H ⟨ρ, H0, O0, rs, h⟩ => by
    unfold sSto at h
    split at h
    · exact .inr ⟨ρ, H0, O0, rs, h⟩
    · exact .inl ⟨ρ, H0, O0, rs, h⟩
/-- a, b = x, y where a name is captured: laid one after the other -/
theorem ds_parC (i j : Nat) {st : Stmt} {fs : En → Re (List PyData)} (h : PS X st (sD W (sAsg (tgTup [tgName i, tgName j]) (eTup fs)))) : PS X st (sD W (sPar i j fs)) := ps_imp h fun D σ H ⟨ρ, H0, O0, rs, h⟩ => ⟨ρ, H0, O0, rs, by
  unfold sPar at h
  unfold sAsg eTup
  cases e : fs ρ with
  | ex c p => rw [e] at h; exact h
  | st => rw [e] at h; exact h
  | ok ds =>
    rw [e] at h
    match ds, h with
    | [d, e], h => exact h
    | [], h => exact h.elim
    | [_], h => exact h.elim
    | _ :: _ :: _ :: _, h => exact h.elim⟩
/-! ## len(set(xs)) of ints -/
def ddup (ns : List Int) : List Int := ns.foldl (fun acc x => if acc.any (· == x) then acc else acc ++ [x]) []
theorem firstMet_ddup (ns : List Int) : firstMet (fun i => ns.getD i 0) ns.length = ddup ns := by
  have e : (List.range ns.length).map (fun i => ns.getD i 0) = ns := by
    apply List.ext_getElem?
    intro i
    rw [List.getElem?_map]
    by_cases h : i < ns.length
    · rw [List.getElem?_range h, List.getElem?_eq_getElem h]
      simp [List.getD_eq_getElem?_getD, List.getElem?_eq_getElem h]
    · rw [List.getElem?_eq_none (by simpa using h), List.getElem?_eq_none (by omega)]
      rfl
  unfold firstMet
  rw [e]
  rfl
def dLenSet : PyData → Re PyData
  | .list ds => match intsOf ds with
    | some ns => if decide (ns.length ≤ 4000) then .ok (.int (ddup ns).length) else .st
    | none => .st
  | _ => .st
theorem ddup_len (ns : List Int) : (ddup ns).length ≤ ns.length := by
  rw [← firstMet_ddup]; exact firstMet_length_le _ _
theorem de_lenSet {p p2 q : Pos} (hc : X.calm = true) (hm : X.mg "len" = none) (hm2 : X.mg "set" = none) (ha : PE X a (tD W fa)) (hg : Gl X "len" := by rfl) (hg2 : Gl X "set" := by rfl) (na : starEach [a] X.env = (false, eval a X.env) :: starEach [] X.env := by rfl) :
    PE X (.Call (.Name "len" p) [.Call (.Name "set" p2) [a] [] q] [] pos) (tD W (e1 dLenSet fa)) := by
  refine ⟨fun pins s σ H Q I h => ?_⟩
  obtain ⟨ρ, O, re, h⟩ := h
  refine Call_ (ld_blt I hg hm boot_len ?_)
  refine callWith_builtin1 (args_cons ?_ rfl) rfl rfl
  refine Call_ (ld_blt I hg2 hm2 boot_set ?_)
  refine callWith_type1 (args_cons (thn (ha.run pins s σ H _ I (goD (R := fun x H1 => ∃ (l : Addr) (ns : List Int), x = .ref l ∧ SqL X.K H1 l (ns.map V.int) ∧ ns.length ≤ 4000 ∧ Q (.int ((ddup ns).length : Nat)) H1) re h fun d x H1 re1 _ rx h1 => ?_)) fun v s1 ⟨x, H1, I1, r1, q1⟩ => args_nil ?_) na) na rfl
  · cases d with
    | list ds =>
      obtain ⟨l, xs, rfl, ea, _, qq⟩ := rx.i_lst
      have h2 : tR W O (match intsOf ds with
        | some ns => if decide (ns.length ≤ 4000) then .ok (.int (ddup ns).length) else .st
        | none => .st) σ H1 Q := h1
      split at h2
      · rename_i ns hn
        split at h2
        · rename_i hl
          have e := intsOf_ok hn
          rw [e] at qq
          have e := qq.ints
          rw [e] at ea
          exact ⟨l, ns, rfl, SqL.of ea, of_decide_eq_true hl, h2.here (.int _)⟩
        · exact h2.elim
      · exact h2.elim
    | _ => exact h1.elim
  · obtain ⟨l, ns, rfl, hq, hl, q1⟩ := q1
    cases r1
    obtain ⟨its, r, pl, hz⟩ := I1.list hq
    have hlen : its.toArray.size = ns.length := by rw [List.size_toArray, ← r.length, List.length_map]
    refine call_set_list (I1.ok.hd hc) pl.isList (by simpa using intsAre_of r) (by rw [hlen]; unfold scanBound; omega) fun h' tk hS hk => ?_
    refine args_nil ?_
    rw [hlen, firstMet_ddup] at hS
    obtain ⟨o, es, ep, t, ho, hex, hd, _, _, _, hf, hn⟩ := hS
    have I2 : Inv X pins σ H1 { s1 with heap := h', toks := tk } := I1.kept fun b o e => hk b o (Heap.lt_size e) e
    have := ddup_len ns
    exact call_len_set ho hex hd hf (by rw [hn] <;> omega) ⟨.int (ddup ns).length, H1, I2.tok _, ⟨_, by rw [hn]⟩, q1⟩
end
end DL

namespace DL
open PySem PySem.Spec L2 PyProof.Rows
/-! ## the end -/
theorem lookup_mem {α : Type} : ∀ {l : List (Addr × α)} {a : Addr} {o : α}, l.lookup a = some o → (a, o) ∈ l
  | [], _, _, h => by cases h
  | (b, u) :: l, a, o, h => by
    rw [List.lookup_cons] at h
    by_cases e : a = b
    · subst e
      simp at h
      subst h
      exact List.mem_cons_self
    · have : (a == b) = false := by simpa using e
      rw [this] at h
      exact List.mem_cons_of_mem _ (lookup_mem h)
theorem noX {P : Program} {w : World} {H : Hp} {s s' : Shared} {e : Value} (h : L2.CX P w [] H s (fun _ _ _ => False) e s') : False := by
  obtain ⟨_, _, _, _, _, _, _, _, _, _, _, _, z⟩ := h
  exact z
/-- the script stands in H, and the law's function gives True of it -/
theorem law_in {K : PySem.W.Frag} {H : Hp} {a : Addr} {ns : List Int} {g : List PyData → Re PyData} (hO : Only H) (hS : SqL K H a (ns.map V.int)) (hK : (K.all fun p => p.2.cls != .type "list") = true) (h : g [scrD ns] = .ok (.bool true)) :
    DSp 1 g [.ref a] H (fun v _ => v = .bl true) fun _ _ _ => False := by
  refine ⟨[scrD ns], fun _ => False, rfl, fun _ z => z.elim, .cons ?_ .nil, ?_⟩
  · rcases hS with (hS | ⟨o, hS⟩) | ⟨o, its, n, hk, hc, _⟩
    · rcases hO a with q | ⟨o, xs, q⟩
      · rw [q] at hS; cases hS
      · rw [q] at hS; cases hS
    · exact .scr hS fun z => z
    · exfalso
      have hm : (a, o) ∈ K := lookup_mem hk
      have := List.all_eq_true.mp hK (a, o) hm
      rw [hc] at this
      simp at this
  · rw [h]
    exact fun v H' _ r => r.i_bl
end DL

/-! ## enumerate of a tuple -/
namespace PySem
open AutoSeq1 (wpAny_loadPart')
theorem dl_enumNewT (tp : Addr) (vs : Array Value) (m : Nat) (dq : Option Addr) (sq : Array (Option Value)) :
    Meets (Builtin.«enumerate.__new__» ⟨[.type "enumerate", .ref tp], []⟩) (fun _ R s => s.heap.get? tp = some { cls := .type "tuple", dict := dq, data := .seq vs m, slots := sq } ∧
      R (.ok (.ret (.ref (s.heap.push { cls := .type "tuple_iterator", data := .fields #[.ref tp, .int 0 0] }).objs.size)))
        { s with heap := (s.heap.push { cls := .type "tuple_iterator", data := .fields #[.ref tp, .int 0 0] }).push { cls := .type "enumerate", data := .fields #[.none, .bool false, .ref s.heap.objs.size, rawInt 0, .none, .none] } }) :=
  .of_wp fun prog w A R s h => by
    obtain ⟨hp, gg, dd, tk, oo⟩ := s
    obtain ⟨hl, h⟩ := h
    have sub0 := sub_enumerate
    have hT : Heap.IsTuple (Shared.heap ⟨hp, gg, dd, tk, oo⟩) tp vs := ⟨_, hl, rfl, m, rfl⟩
    wp_walk using wpAny_loadPart' hl
    refine wpAny_stack_any fun stk => wpAny_pure ?_
    split
    · rename_i c _ _ _ _ _
      cases (c == Value.type "enumerate")
      · wp_walk using wpAny_loadPart' hl, wpAny_pyIter_tuple hT
        exact ⟨_, rfl, h⟩
      · wp_walk using wpAny_loadPart' hl, wpAny_pyIter_tuple hT
        exact ⟨_, rfl, h⟩
    · wp_walk using wpAny_loadPart' hl, wpAny_pyIter_tuple hT
      exact ⟨_, rfl, h⟩
theorem dl_enumT {prog : Program} {w : World} {A : Around} {E : Value → Shared → Prop} {s : Shared} {tp : Addr} {vs : Array Value} {Q : Value → Shared → Prop} (hT : s.heap.IsTuple tp vs)
    (h : ∀ h', IsEnum h' (s.heap.objs.size + 1) s.heap.objs.size 0 .none → h'.IsTupleIter s.heap.objs.size tp 0 → (∀ b o, s.heap.get? b = some o → h'.get? b = some o) → Q (.ref (s.heap.objs.size + 1)) { s with heap := h' }) :
    wpAny (model prog w) A (call (.type "enumerate") [.ref tp]) Q E s := by
  obtain ⟨⟨oc, od, dt, sl⟩, hl, hc, n, hd⟩ := hT
  have hc : oc = .type "tuple" := hc
  have hd : dt = .seq vs n := hd
  subst hc hd
  refine callType_new F.called_enumerate (by decide) (F.typeCall_enumerate_1 _) (F.newCall_enumerate_1 _) (fun obj => F.args_object_init_2 obj _) F.entry_enumerate_new (dl_enumNewT tp vs n od sl) ⟨hl, ?_⟩
  have hz : (s.heap.push { cls := .type "tuple_iterator", data := .fields #[.ref tp, .int 0 0] }).objs.size = s.heap.objs.size + 1 := Heap.size_push ..
  show _ ∧ _
  rw [hz]
  have he : IsEnum ((s.heap.push { cls := .type "tuple_iterator", data := .fields #[.ref tp, .int 0 0] }).push { cls := .type "enumerate", data := .fields #[.none, .bool false, .ref s.heap.objs.size, rawInt 0, .none, .none] }) (s.heap.objs.size + 1) s.heap.objs.size 0 .none := by
    have q := Heap.get?_push_size (s.heap.push { cls := .type "tuple_iterator", data := .fields #[.ref tp, .int 0 0] }) (o := { cls := .type "enumerate", data := .fields #[.none, .bool false, .ref s.heap.objs.size, rawInt 0, .none, .none] }) rfl
    rw [hz] at q
    exact q
  exact ⟨⟨_, he, rfl⟩, h _ he ⟨_, Heap.get?_push_of_some _ (Heap.get?_push_size _ rfl), rfl, rfl⟩ fun b o x => Heap.get?_push_of_some _ (Heap.get?_push_of_some _ x)⟩
end PySem
namespace DL
open PySem PySem.Spec L2 PyProof.Rows
def IteT (K : PySem.W.Frag) (a : Addr) : It :=
  ⟨fun i H => ∃ (xs : List V) (x : V), SqT K H a xs ∧ xs[i]? = some x, fun i H v H' => ∃ tp x, v = .ref tp ∧ H tp = none ∧ H' = upd H tp (.tup [.int (i : Nat), x]) ∧ ∀ xs, SqT K H a xs → xs[i]? = some x, fun i H => ∃ xs : List V, SqT K H a xs ∧ xs.length = i⟩
theorem turn_enumT {P : Program} {w : World} {K : PySem.W.Frag} {elts : List Expr} {kk : Nat} {tpos : Pos} (a e it : Addr) (n1 : e ≠ it) (n2 : a ≠ it) (n3 : e ≠ a) :
    Turn P w K (.Tuple elts kk tpos) (IteT K a) [e, it] e (fun i h => (∃ old, IsEnum h e it ((i : Nat) : Int) old) ∧ h.IsTupleIter it a i) where
  mem := by simp
  obj := fun i h st b hb => by
    obtain ⟨⟨old, he⟩, o, ho, hc, hd⟩ := st
    have hbb : b = e ∨ b = it := by simpa using hb
    rcases hbb with z | z
    · rw [z]; exact ⟨_, he, fun v q => nomatch q⟩
    · rw [z]; exact ⟨o, ho, fun v q => by rw [hd] at q; cases q⟩
  keep := fun i h h' st k => by
    obtain ⟨⟨old, he⟩, hi⟩ := st
    exact ⟨⟨old, k e (by simp) _ he⟩, hi.at fun o q => k it (by simp) o q⟩
  item := by
    intro X hP hw hK hc i pins s σ H E I hf st hg
    subst hP hw hK
    obtain ⟨⟨old, he⟩, hit⟩ := st
    obtain ⟨xs, x, hq, hx⟩ := hg
    obtain ⟨its, rv, pt, hz⟩ := I.tuple hq
    obtain ⟨u, hu, ru⟩ := rv.get hx
    have hel : e < s.heap.objs.size := Heap.lt_size he
    have hil : it < s.heap.objs.size := by
      obtain ⟨_, q, _⟩ := hit
      exact Heap.lt_size q
    have hlt : i < its.toArray.size := by
      rw [List.size_toArray]
      exact (List.getElem?_eq_some_iff.mp hu).1
    refine wpAny_pyNext_enum_itemD (Draws.tuple (A := X.A.in1) (I.ok.hd hc) it a n2 its.toArray) he ⟨hit, pt⟩ hlt n1 (by simp [n1, n3]) fun y h' tk hy ho hst' hT hsz hk => ?_
    have ey : y = u := by
      have : its[i]? = some y := by simpa using hy
      rw [hu] at this
      exact (Option.some.inj this).symm
    subst ey
    refine ⟨_, rfl, wpAny_letOwnedTupleGo_enum (s := { s with heap := h', toks := tk + 1 }) ho fun h2 he' sb => ?_⟩
    have hT2 : h2.get? s.heap.objs.size = some { cls := .type "tuple", data := .seq #[.int i tk, y] } := (sb.2 _ (Nat.ne_of_gt hel)).trans hT
    have new : ObjOk X.prog X.w (upd H s.heap.objs.size (.tup [.int (i : Nat), x])) h2 s.heap.objs.size (.tup [.int (i : Nat), x]) :=
      ⟨by show 2 ≤ sizeLine; decide, [.int i tk, y], .cons ⟨_, rfl⟩ (.cons ru .nil), ⟨_, hT2, rfl, _, rfl⟩⟩
    have I1 : Inv X pins σ (upd H s.heap.objs.size (.tup [.int (i : Nat), x])) { s with heap := h2, toks := tk + 1 } :=
      I.turnedNew (ch := [e, it]) (fun b ob hb q => (sb.2 b (fun z => hb (by simp [z]))).trans (hk b ob (fun z => hb (by simp [z])) (fun z => hb (by simp [z])) q)) hf (Nat.le_refl _) new
    refine ⟨.ref s.heap.objs.size, _, I1, rfl, ⟨_, x, rfl, I.hok.fresh (Nat.le_refl _), rfl, fun ys hys => by rw [I.tuple_inj hys hq]; exact hx⟩, ⟨⟨y, ?_⟩, hst'.1.at fun o q => (sb.2 it (Ne.symm n1)).trans q⟩, fun b hb => ?_⟩
    · have e1 : ((i + 1 : Nat) : Int) = (i : Int) + 1 := by omega
      rw [e1]
      exact he'
    · have hbl : b < s.heap.objs.size := by
        have hbb : b = e ∨ b = it := by simpa using hb
        rcases hbb with z | z
        · rw [z]; exact hel
        · rw [z]; exact hil
      rw [upd_ne (Nat.ne_of_lt hbl)]
      exact (hf b hb).1
  done := by
    intro X hP hw hK hc i pins s σ H E I hf st hg
    subst hP hw hK
    obtain ⟨⟨old, he⟩, hit⟩ := st
    obtain ⟨xs, hq, hx⟩ := hg
    obtain ⟨its, rv, pt, hz⟩ := I.tuple hq
    obtain ⟨f0, f1, f2, f3, f4, f5⟩ := hf it (by simp)
    have hl := rv.length
    have hsz : its.toArray.size = i := by rw [List.size_toArray]; omega
    refine wpAny_pyNext_enum_endD (Draws.tuple (A := X.A.in1) (I.ok.hd hc) it a n2 its.toArray) he ⟨by rw [hsz]; exact hit, pt⟩ fun h' eb => ⟨rfl, I.turned (t' := s.toks) (fun b o hb q => eb b o hb q) f0 f1 f3 f4 f5⟩
  self := fun A i s Q E st h => by
    obtain ⟨⟨_, he⟩, _⟩ := st
    exact wpAny_pyIter_enum he h
section
variable {X : Cx} {W : WX} {pos : Pos} {fa : En → Re PyData}
theorem pi_enumT {l : Expr} {ta : TA} {p tpos : Pos} {elts : List Expr} {kk : Nat} (hg : Gl X "enumerate") (hm : X.mg "enumerate" = none) (ha : PA X [l] ta) (hs : starEach [l] X.env = [(false, eval l X.env)]) :
    PI X (.Tuple elts kk tpos) (.Call (.Name "enumerate" p) [l] [] pos) (fun σ H R => ta σ H fun vs H1 => ∃ a xs, vs = [.ref a] ∧ H1 a = some (.tup xs) ∧ R (IteT X.K a) H1) := by
  refine ⟨fun pins s σ H R I h => ?_⟩
  refine Call_ (ld_blt I hg hm boot_enumerate (callWith_type1 (thn (ha.run pos pins s σ H _ I h) fun us s1 ⟨vs, H1, I1, r1, q1⟩ => ?_) hs rfl))
  obtain ⟨a, xs, ex, hq, q⟩ := q1
  subst ex
  cases r1 with
  | cons r rr =>
    cases rr
    cases r
    obtain ⟨its, rv, pt, hz⟩ := I1.tuple (SqT.of hq)
    have hal : a < s1.heap.objs.size := pt.lt
    refine dl_enumT (show s1.heap.IsTuple a its.toArray from pt) fun h' he hit hk => wpAny_pyIter_enum he ?_
    have I2 : Inv X pins σ H1 { s1 with heap := h' } := I1.kept (t' := s1.toks) hk
    refine ⟨s1.heap.objs.size + 1, [s1.heap.objs.size + 1, s1.heap.objs.size], _, _, H1, rfl, I2, turn_enumT a (s1.heap.objs.size + 1) s1.heap.objs.size (Nat.succ_ne_self _) (Nat.ne_of_lt hal) (Nat.ne_of_gt (Nat.lt_succ_of_lt hal)), ⟨⟨.none, he⟩, hit⟩, fun b hb => ?_, q⟩
    have hbb : b = s1.heap.objs.size + 1 ∨ b = s1.heap.objs.size := by simpa using hb
    have hle : s1.heap.objs.size ≤ b := by
      rcases hbb with z | z
      · rw [z]; exact Nat.le_add_right _ _
      · rw [z]; exact Nat.le_refl _
    exact I1.fpOk hle (I1.hok.fresh hle)
/-- the pairs that enumerate gives -/
def enumD (i : Nat) : List PyData → List PyData
  | [] => []
  | d :: ds => .tuple [.int (i : Nat), d] :: enumD (i + 1) ds
theorem enumD_len : ∀ (ds : List PyData) (i : Nat), (enumD i ds).length = ds.length
  | [], _ => rfl
  | _ :: ds, i => congrArg (· + 1) (enumD_len ds (i + 1))
theorem enumD_at : ∀ (ds : List PyData) (i j : Nat), (enumD i ds)[j]? = ds[j]?.map fun d => .tuple [.int ((i + j : Nat) : Int), d]
  | [], _, _ => rfl
  | _ :: ds, i, 0 => rfl
  | _ :: ds, i, j + 1 => by
    show (enumD (i + 1) ds)[j]? = _
    rw [enumD_at ds (i + 1) j]
    show _ = ds[j]?.map _
    rw [show i + 1 + j = i + (j + 1) by omega]
def iEnum (fa : En → Re PyData) : En → Re (List PyData) := fun ρ => (fa ρ).bind fun d => match d with
  | .list ds => .ok (enumD 0 ds)
  | .tuple ds => .ok (enumD 0 ds)
  | _ => .st
theorem tyield {O : Ow} {H H' : Hp} {T : Addr} {x : V} {d : PyData} {i : Nat} (nT : H T = none) (e : H' = upd H T (.tup [.int (i : Nat), x])) (dm : ∀ a, O a → H a ≠ none) (r : Rp O H x d) : Same H H' ∧ Rp O H' (.ref T) (.tuple [.int (i : Nat), d]) := by
  subst e
  exact ⟨same_upd nT, .tup upd_same (fun o => dm T o nT) ((RpL.cons (.int _) (.cons r .nil)).kp (.same (same_upd nT)))⟩
theorem di_enum {l : Expr} {p tpos : Pos} {elts : List Expr} {kk : Nat} (hm : X.mg "enumerate" = none) (hl : PE X l (tD W fa)) (hg : Gl X "enumerate" := by rfl) (hs : starEach [l] X.env = [(false, eval l X.env)] := by rfl) (hs2 : starEach [l] X.env = (false, eval l X.env) :: starEach [] X.env := by rfl) :
    PI X (.Tuple elts kk tpos) (.Call (.Name "enumerate" p) [l] [] pos) (iD W (DL.iEnum fa)) := by
  refine pi_imp (pi_either (pi_enum hg hm (pa_cons hl pa_nil hs2) hs) (pi_enumT hg hm (pa_cons hl pa_nil hs2) hs)) fun σ H R ⟨ρ, O, re, h⟩ => ?_
  unfold DL.iEnum at h
  have go : (∀ ds, fa ρ ≠ .ok (.tuple ds)) ∨ ∃ ds, fa ρ = .ok (.tuple ds) := by
    cases e : fa ρ with
    | ok d =>
      cases d with
      | tuple ds => exact .inr ⟨ds, rfl⟩
      | _ => exact .inl fun ds z => nomatch z
    | ex c p => exact .inl fun ds z => nomatch z
    | st => exact .inl fun ds z => nomatch z
  rcases go with go | ⟨ds, go⟩
  · refine .inl ⟨ρ, O, re, ?_⟩
    cases e : fa ρ with
    | ex c p => rw [e] at h; exact h
    | st => rw [e] at h; exact h
    | ok d =>
      rw [e] at h
      intro v H1 s rv
      cases d with
      | list ds =>
        obtain ⟨a, xs, rfl, ea, na, q⟩ := rv.i_lst
        refine ⟨a, xs, rfl, SqL.of ea, h _ H1 s fun H2 O2 k dm => ?_⟩
        have ea2 := (k a _ ea na).1
        refine ⟨⟨xs, SqL.of ea2, by rw [enumD_len, q.len]; exact Nat.le_refl _⟩, fun i d hd => ?_⟩
        rw [enumD_at] at hd
        cases ed : ds[i]? with
        | none => rw [ed] at hd; cases hd
        | some d' =>
          rw [ed] at hd
          cases hd
          obtain ⟨v, hv, rv⟩ := (q.kp k).get ed
          refine ⟨⟨xs, v, SqL.of ea2, hv⟩, fun z H' yl => ?_⟩
          obtain ⟨T, x1, rfl, nT, eH, f1⟩ := yl
          have z1 := f1 xs (SqL.of ea2)
          rw [hv] at z1
          cases z1
          rw [Nat.zero_add]
          exact tyield nT eH dm rv
      | tuple ds => exact absurd e (go ds)
      | _ => exact h.elim
  · refine .inr ⟨ρ, O, re, ?_⟩
    rw [go] at h ⊢
    intro v H1 s rv
    obtain ⟨a, xs, rfl, ea, na, q⟩ := rv.i_tup
    refine ⟨a, xs, rfl, ea, h _ H1 s fun H2 O2 k dm => ?_⟩
    have ea2 := (k a _ ea na).1
    refine ⟨⟨xs, SqT.of ea2, by rw [enumD_len, q.len]⟩, fun i d hd => ?_⟩
    rw [enumD_at] at hd
    cases ed : ds[i]? with
    | none => rw [ed] at hd; cases hd
    | some d' =>
      rw [ed] at hd
      cases hd
      obtain ⟨v, hv, rv⟩ := (q.kp k).get ed
      refine ⟨⟨xs, v, SqT.of ea2, hv⟩, fun z H' yl => ?_⟩
      obtain ⟨T, x1, rfl, nT, eH, f1⟩ := yl
      have z1 := f1 xs (SqT.of ea2)
      rw [hv] at z1
      cases z1
      rw [Nat.zero_add]
      exact tyield nT eH dm rv
end
end DL

namespace DL
open PySem PySem.Spec L2 PyProof.Rows

/-! ## try with several clauses, with names or without -/
/-- behind a clause its name is gone -/
def offN (D : Ends) : Option Nat → Ends
  | none => D
  | some i => { nx := fun τ H' => D.nx (τ.set i none) H', rt := D.rt, bk := fun τ H' => D.bk (τ.set i none) H', ct := fun τ H' => D.ct (τ.set i none) H' }
def onN (σ : Sg) (a : Addr) : Option Nat → Sg
  | none => σ
  | some i => σ.set i (some (.ref a))
abbrev Cls := Value × Option Nat × (Addr → Value → Option Addr → TS)
def wCls (K : PySem.W.Frag) (Wo : WX) (D : Ends) : List Cls → WX
  | [] => Wo
  | (c, oi, ts) :: r => fun cls d σ H => ∃ b, PySem.W.exmOne K cls c = some b ∧ (b = true → ∀ a, H a = none → ts a cls d (offN D oi) (onN σ a oi) H) ∧ (b = false → wCls K Wo D r cls d σ H)
inductive ClsOk (X : Cx) : List ExceptHandler → List Cls → Prop
  | nil : ClsOk X [] []
  | only {x : Str} {c : Value} {ts : Addr → Value → Option Addr → TS} {b0 : Stmt} {bs : List Stmt} {np hp : Pos} {hs : List ExceptHandler} {l : List Cls} (hc : Names X x c)
      (hsu : ∀ (a : Addr) (oe : Obj) (cls : Value) (d : Option Addr) (pn : List (Addr × Obj)), Zc cls d oe → (∃ vs, oe.data = .fields vs) → PSs (X.suite a ((a, oe) :: pn)) (b0 :: bs) (ts a cls d)) (r : ClsOk X hs l) :
      ClsOk X (.ExceptHandler (some (.Name x np)) none (b0 :: bs) hp :: hs) ((c, none, ts) :: l)
  | named {x n : Str} {i : Nat} {c : Value} {ts : Addr → Value → Option Addr → TS} {b0 : Stmt} {bs : List Stmt} {np hp : Pos} {hs : List ExceptHandler} {l : List Cls} (hc : Names X x c) (hN : X.N.Nodup) (hi : X.N[i]? = some n) (hln : X.env.kindOf n = some .local)
      (hsu : ∀ (a : Addr) (oe : Obj) (cls : Value) (d : Option Addr) (pn : List (Addr × Obj)), Zc cls d oe → (∃ vs, oe.data = .fields vs) → PSs (X.suite a ((a, oe) :: pn)) (b0 :: bs) (ts a cls d)) (r : ClsOk X hs l) :
      ClsOk X (.ExceptHandler (some (.Name x np)) (some n) (b0 :: bs) hp :: hs) ((c, some i, ts) :: l)
section
variable {X : Cx} {body : List Stmt} {h0 : ExceptHandler} {hds : List ExceptHandler} {l : List Cls} {pos : Pos} {tb : WX → TS} {Wo : WX}
theorem ps_tryN (hs : X.stack = X.env :: X.outer) (hf : X.env.frame = some X.env.locals) (tk : Takes X Wo)
    (hb : ∀ (W : WX) (pn : List (Addr × Obj)) (xe : Value → Shared → Prop), Takes (X.tr pn xe) W → PassesOwn (model X.prog X.w) X.A X.env xe → PSs (X.tr pn xe) body (tb W))
    (hh : ClsOk X (h0 :: hds) l) : PS X (.Try body (h0 :: hds) [] [] pos) (fun D σ H => tb (wCls X.K Wo D l) D σ H) := by
  refine ⟨fun pins s σ H D I h => ?_⟩
  have okX := I.ok
  have frs0 : X.A.frames = some (X.env :: X.outer) := by rw [okX.frames, hs]
  refine wpAny_Try_except ?_
  refine wpAny_mono ((hb (wCls X.K Wo D l) (X.pn ++ pins) (fun e s1 => wpAny (model X.prog X.w) X.A (noteFrame e X.env) (fun _ s2 => wpAny (model X.prog X.w) X.A (setFlight e none) (fun _ s3 => wpAny (model X.prog X.w) X.A (handleBy e X.env (h0 :: hds)) (SP X pins D) X.xe s3) X.xe s2) X.xe s1) (fun u t0 xx => ?_) PassesOwn.looking).run [] s σ H D (I.toTry _) h) (fun f s1 hsp => ?_) (fun e s1 he => he)
  · obtain ⟨a, B, sI, pins', τ, H', cls, d, rfl, J0, nb, up, sky, na, os, ag, w⟩ := xx
    have J : Inv X pins τ H' sI := J0.ofTry okX
    have sky2 : Sky B (X.env :: X.outer) a (Zc cls d) X.env.locals t0.heap := by rw [← hs]; exact sky
    show wpAny (model X.prog X.w) X.A (noteFrame (.ref a) X.env) _ _ _
    refine Sky.land Zc.steady frs0 hf sky2 fun h3 fl3 up3 => ?_
    have J3 : Inv X pins τ H' { t0 with heap := h3 } := J.landed nb fl3.1 (up.trans up3) os ag
    obtain ⟨oe3, vs3, he3, hz3, hd3⟩ := fl3.there
    have nfr : a ∉ frs (X.env :: X.outer) := fun hm => by
      obtain ⟨_, o1, e1, n1⟩ := fl3.2.2.1.mem hm
      rw [he3] at e1
      cases e1
      exact n1 _ hd3
    have nL : a ≠ X.env.locals := fun z => nfr (List.mem_filterMap.mpr ⟨X.env, List.mem_cons_self, by rw [hf, z]⟩)
    have nF : a ∉ X.fs := fun hm => by
      obtain ⟨e, he, q⟩ := List.mem_filterMap.mp hm
      exact nfr (List.mem_filterMap.mpr ⟨e, List.mem_cons_of_mem _ he, q⟩)
    have S3 := J3.suite he3 hd3 na nL nF
    have LT : PySem.W.Looks (model X.prog X.w) h3 (typeOf (.ref a)) cls := fun A Q E s k q => wpAny_typeOf_ref (k _ _ he3) (by rw [hz3.1]; exact q)
    have named : ∀ {x : Str} {c : Value} {np : Pos} {Q : Value → Shared → Prop} {E : Value → Shared → Prop}, Names X x c → Q c { t0 with heap := h3 } → wpAny (model X.prog X.w) (X.A.mark (some (.ref a))) (eval (.Name x np) X.env) Q E { t0 with heap := h3 } := fun {x c np Q E} hc q => by
      obtain ⟨hg, hdbg, hm | ⟨hm, hv, hnn⟩⟩ := hc
      · exact ld_glob (X := X.suite a ((a, oe3) :: (X.pn ++ pins))) S3 hg hm q hdbg
      · exact ld_blt (X := X.suite a ((a, oe3) :: (X.pn ++ pins))) S3 hg hm hv q hnn hdbg
    have go : ∀ {hs' : List ExceptHandler} {l' : List Cls}, ClsOk X hs' l' → wCls X.K Wo D l' cls d τ H' → wpAny (model X.prog X.w) X.A (handleBy (.ref a) X.env hs') (SP X pins D) X.xe { t0 with heap := h3 } := by
      intro hs' l' hk
      induction hk with
      | nil =>
        intro w
        refine wpAny_handleBy_nil ?_
        obtain ⟨k1, k2, k3, oe, vs, T, oT, ts', he, hz, hd, h1, hr⟩ := id fl3
        unfold PySem.passOn
        refine wpAny_bind (wpAny_field he hd h1 ?_)
        rw [if_neg (show ¬ ((Value.ref T == Value.none) = true) from by simp)]
        have fin : wpAny (model X.prog X.w) X.A (setFlight (.ref a) X.env.frame) (fun _ s4 => wpAny (model X.prog X.w) X.A (throw (.ref a) : Sem Flow) (SP X pins D) X.xe s4) X.xe { t0 with heap := h3 } := by
          rw [hf]
          exact HandSPX.setFlight_upZ fl3 fun h4 hh4 up4 => wpAny_throw (tk _ _ ⟨a, B, sI, pins, τ, H', cls, d, rfl, J, nb, (up.trans up3).trans up4, .inr (.inr (by rw [hs]; exact hh4)), na, os, ag, w⟩)
        first
          | exact wpAny_bind (wpAny_pure (wpAny_bind fin))
          | exact wpAny_bind fin
      | @only x c ts b0 bs np hp hs2 l2 hc hsu r ih =>
        intro w
        obtain ⟨b, hb1, hyes, hno⟩ := w
        refine wpAny_handleBy_cons (codeAny_handlers_test ?_) (by intro q; cases q)
        refine named hc ((PySem.W.exm_one (M := model X.prog X.w) (J3.kIn) LT hb1).here ?_)
        cases b with
        | true =>
          refine codeAny_handlers_suite ?_
          refine HandSPX.lands_againZ fl3 fun h4 fl4 up4 => ?_
          have J4 : Inv X pins τ H' { t0 with heap := h4 } := J.landed nb fl4.1 ((up.trans up3).trans up4) os ag
          obtain ⟨oe4, vs4, he4, hz4, hd4⟩ := fl4.there
          have S4 := J4.suite he4 hd4 na nL nF
          refine wpAny_mono ((hsu a oe4 cls d (X.pn ++ pins) hz4 ⟨_, hd4⟩).run [] _ _ H' _ S4 (hyes rfl a na)) (fun f s6 q => ?_) (fun _ _ z => False.elim z)
          cases f with
          | next => obtain ⟨σ6, H6, S6, q6⟩ := q; exact ⟨_, _, S6.unsuite okX, q6⟩
          | brk => obtain ⟨σ6, H6, S6, q6⟩ := q; exact ⟨_, _, S6.unsuite okX, q6⟩
          | cont => obtain ⟨σ6, H6, S6, q6⟩ := q; exact ⟨_, _, S6.unsuite okX, q6⟩
          | ret u => obtain ⟨v6, σ6, H6, S6, r6, q6⟩ := q; exact ⟨_, _, _, S6.unsuite okX, r6, q6⟩
        | false => exact ih (hno rfl)
      | @named x n i c ts b0 bs np hp hs2 l2 hc hN hi hln hsu r ih =>
        intro w
        obtain ⟨b, hb1, hyes, hno⟩ := w
        refine wpAny_handleBy_cons (codeAny_handlers_test ?_) (by intro q; cases q)
        refine named hc ((PySem.W.exm_one (M := model X.prog X.w) (J3.kIn) LT hb1).here ?_)
        cases b with
        | true =>
          refine codeAny_handlers_suite_as ?_
          refine HandSPX.lands_againZ fl3 fun h4 fl4 up4 => ?_
          have J4 : Inv X pins τ H' { t0 with heap := h4 } := J.landed nb fl4.1 ((up.trans up3).trans up4) os ag
          obtain ⟨oe4, vs4, he4, hz4, hd4⟩ := fl4.there
          have S4 := J4.suite he4 hd4 na nL nF
          refine store_ok (X := X.suite a ((a, oe4) :: (X.pn ++ pins))) (v := .ref a) S4 hN hi (.inl hln) rfl (fun s5 S5 => ?_) (.inr hln)
          refine wpAny_mono ((hsu a oe4 cls d (X.pn ++ pins) hz4 ⟨_, hd4⟩).run [] s5 _ H' _ S5 (hyes rfl a na)) (fun f s6 q => ?_) (fun _ _ z => False.elim z)
          have fin : ∀ {σ6 : Sg} {H6 : Hp} {R : Shared → Prop}, Inv (X.suite a ((a, oe4) :: (X.pn ++ pins))) [] σ6 H6 s6 → (∀ s7, Inv X pins (σ6.set i none) H6 s7 → R s7) → wpAny (model X.prog X.w) X.A (do bindName X.env n .none; unbindBehindTheSuite X.env n hp) (fun _ s7 => R s7) X.xe s6 :=
            fun S6 hq => gone_ok (S6.unsuite okX) hN hi hln hq
          cases f with
          | next => obtain ⟨σ6, H6, S6, q6⟩ := q; exact fin S6 fun s7 J7 => ⟨_, _, J7, q6⟩
          | brk => obtain ⟨σ6, H6, S6, q6⟩ := q; exact fin S6 fun s7 J7 => ⟨_, _, J7, q6⟩
          | cont => obtain ⟨σ6, H6, S6, q6⟩ := q; exact fin S6 fun s7 J7 => ⟨_, _, J7, q6⟩
          | ret u => obtain ⟨v6, σ6, H6, S6, r6, q6⟩ := q; exact fin S6 fun s7 J7 => ⟨_, _, _, J7, r6, q6⟩
        | false => exact ih (hno rfl)
    exact go hh w
  · cases f with
    | next => obtain ⟨τ, H', J', q⟩ := hsp; exact wpAny_execs_nil ⟨τ, H', J'.ofTry okX, q⟩
    | brk => obtain ⟨τ, H', J', q⟩ := hsp; exact ⟨τ, H', J'.ofTry okX, q⟩
    | cont => obtain ⟨τ, H', J', q⟩ := hsp; exact ⟨τ, H', J'.ofTry okX, q⟩
    | ret u => obtain ⟨v, τ, H', J', r, q⟩ := hsp; exact ⟨v, τ, H', J'.ofTry okX, r, q⟩
end
end DL

namespace DL
open PySem PySem.Spec L2 PyProof.Rows
/-- which class stands under which: c of them -/
structure XTab (K : PySem.W.Frag) (cT : Addr → Addr → Option Bool) : Prop where
  ok : ∀ a b r, cT a b = some r → PySem.W.kitOne K (.ref a) (.ref b) = some r ∧ PySem.W.exmOne K (.ref a) (.ref b) = some r ∧ ExcC K a
theorem xt_mk {K : PySem.W.Frag} {x y : Addr} {r : Bool} (hs : PySem.W.subIn K (.ref x) (.ref y) = some r) (hb : PySem.W.subIn K (.ref y) (.type "BaseException") = some true) (hd : PySem.W.hasDictIn K y = true) (ht : PySem.W.typeIn K (.ref y) = some (.type "type")) (hr : x = y → r = true) (he : ExcC K x) :
    PySem.W.kitOne K (.ref x) (.ref y) = some r ∧ PySem.W.exmOne K (.ref x) (.ref y) = some r ∧ ExcC K x := by
  refine ⟨?_, PySem.W.exm_ref hb hd ht hs, he⟩
  unfold PySem.W.kitOne
  by_cases e : x = y
  · subst e
    rw [if_pos (by simp), hr rfl]
  · rw [if_neg (by simpa using e)]
    obtain ⟨cd, hc, _⟩ := PySem.W.any_some hd
    show (if ((PySem.W.clsIn K y).isSome && PySem.W.typeIn K (.ref y) == some (.type "type")) = true then PySem.W.subIn K (.ref x) (.ref y) else none) = some r
    rw [if_pos (by rw [hc, ht]; rfl), hs]
structure HD where
  c : Addr
  nm : Option Nat
  f : Addr → Option PyData → En → SR
def SR.off (i : Nat) : SR → SR
  | .nx ρ => .nx (ρ.set i .no)
  | r => r
/-- in a clause nothing is raised -/
def SR.calm : SR → SR
  | .ex _ _ _ => .st
  | r => r
def tryH (cT : Addr → Addr → Option Bool) (c : Addr) (p : Option PyData) (ρ : En) : List HD → SR
  | [] => .ex (.ref c) p ρ
  | h :: hs => match cT c h.c with
    | some true => match h.nm with
      | none => SR.calm (h.f c p ρ)
      | some i => if i < ρ.length then SR.off i (SR.calm (h.f c p (ρ.set i .no))) else .st
    | some false => tryH cT c p ρ hs
    | none => .st
def sTry (cT : Addr → Addr → Option Bool) (fb : En → SR) (hs : List HD) : En → SR := fun ρ => match fb ρ with
  | .ex (.ref c) p ρ' => tryH cT c p ρ' hs
  | .ex _ _ _ => .st
  | r => r
/-- the fields of an exception -/
def PayR (O : Ow) (H : Hp) : Option Addr → Option PyData → Prop
  | none, none => True
  | some a, some d => ∃ v, H a = some (.xd [("line", v)]) ∧ Rp O H v d
  | _, _ => False
/-- a clause's reading: a the exception, cls its class -/
def hD (K : PySem.W.Frag) (cT : Addr → Addr → Option Bool) (oi : Option Nat) (fh : Addr → Option PyData → En → SR) (a : Addr) (cls : Value) (d : Option Addr) : TS := fun D σ H =>
  ∃ c p ρ H0 O0, cls = .ref c ∧ PayR (Oa O0 ρ σ) H d p ∧ (∀ i, oi = some i → σ[i]? = some (some (.ref a))) ∧ XTab K cT ∧ RS H0 O0 ρ σ H ∧ tS W0 H0 O0 (fh c p ρ) D
inductive HsOk (X : Cx) (cT : Addr → Addr → Option Bool) : List ExceptHandler → List HD → Prop
  | nil : HsOk X cT [] []
  | only {x : Str} {c : Addr} {fh : Addr → Option PyData → En → SR} {b0 : Stmt} {bs : List Stmt} {np hp : Pos} {hs : List ExceptHandler} {l : List HD} (hc : Names X x (.ref c))
      (hsu : ∀ (a : Addr) (oe : Obj) (cls : Value) (d : Option Addr) (pn : List (Addr × Obj)), Zc cls d oe → (∃ vs, oe.data = .fields vs) → PSs (X.suite a ((a, oe) :: pn)) (b0 :: bs) (hD X.K cT none fh a cls d)) (r : HsOk X cT hs l) :
      HsOk X cT (.ExceptHandler (some (.Name x np)) none (b0 :: bs) hp :: hs) (⟨c, none, fh⟩ :: l)
  | named {x n : Str} (i : Nat) {c : Addr} {fh : Addr → Option PyData → En → SR} {b0 : Stmt} {bs : List Stmt} {np hp : Pos} {hs : List ExceptHandler} {l : List HD} (hc : Names X x (.ref c)) (hN : X.N.Nodup) (hi : X.N[i]? = some n) (hln : X.env.kindOf n = some .local)
      (hsu : ∀ (a : Addr) (oe : Obj) (cls : Value) (d : Option Addr) (pn : List (Addr × Obj)), Zc cls d oe → (∃ vs, oe.data = .fields vs) → PSs (X.suite a ((a, oe) :: pn)) (b0 :: bs) (hD X.K cT (some i) fh a cls d)) (r : HsOk X cT hs l) :
      HsOk X cT (.ExceptHandler (some (.Name x np)) (some n) (b0 :: bs) hp :: hs) (⟨c, some i, fh⟩ :: l)
def clsOf (K : PySem.W.Frag) (cT : Addr → Addr → Option Bool) (h : HD) : Cls := (.ref h.c, h.nm, hD K cT h.nm h.f)
theorem HsOk.cls {X : Cx} {cT : Addr → Addr → Option Bool} : ∀ {hs : List ExceptHandler} {l : List HD}, HsOk X cT hs l → ClsOk X hs (l.map (clsOf X.K cT)) := by
  intro hs l h
  induction h with
  | nil => exact .nil
  | only hc hsu r ih => exact .only hc hsu ih
  | named i hc hN hi hln hsu r ih => exact .named hc hN hi hln hsu ih
section
variable {X : Cx} {W : WX} {pos : Pos}
theorem RS.setNone {H0 : Hp} {O0 : Ow} {ρ : En} {σ : Sg} {H : Hp} {i : Nat} {ov : Option V} (r : RS H0 O0 ρ σ H) : RS H0 O0 (ρ.set i .no) (σ.set i ov) H := by
  have r1 := r.no i
  have own : ∀ (j : Nat) (t : Sl) (v : Option (Option V)) (p : Addr), (ρ.set i .no)[j]? = some t → t.own v p → j ≠ i := fun j t v p q w z => by
    rcases set_at q with ⟨_, rfl, _⟩ | ⟨n, _⟩
    · exact w
    · exact n z
  have Oeq : Oa O0 (ρ.set i .no) (σ.set i ov) = Oa O0 (ρ.set i .no) σ := funext fun a => propext (by
    constructor
    · rintro (z | ⟨j, e, e1, e2⟩)
      · exact .inl z
      · have n := own j e _ a e1 e2
        rw [List.getElem?_set_ne (Ne.symm n)] at e2
        exact .inr ⟨j, e, e1, e2⟩
    · rintro (z | ⟨j, e, e1, e2⟩)
      · exact .inl z
      · have n := own j e _ a e1 e2
        exact .inr ⟨j, e, e1, by rw [List.getElem?_set_ne (Ne.symm n)]; exact e2⟩)
  refine ⟨by simpa using r.len, r.same, ⟨by simpa using r.len, ?_, fun j s e => ?_⟩, fun j d p e1 e2 => ?_, fun j l d e p e1 e2 e3 e4 => ?_, r.dom0⟩
  · rw [Oeq]; exact r1.re.dom
  · rw [Oeq]
    rcases set_at e with ⟨_, rfl, _⟩ | ⟨n, _⟩
    · trivial
    · rw [List.getElem?_set_ne (Ne.symm n)]
      exact r1.re.at_ j s e
  · have n := own j d _ p e1 e2
    rw [List.getElem?_set_ne (Ne.symm n)] at e2
    exact r1.fresh j d p e1 e2
  · have n := own j d _ p e1 e3
    have m := own l e _ p e2 e4
    rw [List.getElem?_set_ne (Ne.symm n)] at e3
    rw [List.getElem?_set_ne (Ne.symm m)] at e4
    exact r1.inj j l d e p e1 e2 e3 e4
theorem Oa.setNone {O0 : Ow} {ρ : En} {σ : Sg} {i : Nat} {ov : Option V} : ∀ a, Oa O0 (ρ.set i .no) (σ.set i ov) a → Oa O0 ρ σ a := by
  rintro a (z | ⟨j, e, e1, e2⟩)
  · exact .inl z
  · rcases set_at e1 with ⟨_, rfl, _⟩ | ⟨n, e1⟩
    · exact e2.elim
    · rw [List.getElem?_set_ne (Ne.symm n)] at e2
      exact .inr ⟨j, e, e1, e2⟩
theorem tS_calm {H0 : Hp} {O0 : Ow} {r : SR} {D : Ends} (h : tS W H0 O0 (SR.calm r) D) : tS W0 H0 O0 r D := by
  cases r with
  | nx ρ => exact h
  | rt d => exact h
  | ex c p ρ => exact h.elim
  | st => exact h
theorem tS_off {H0 : Hp} {O0 : Ow} {r : SR} {D : Ends} {i : Nat} (h : tS W H0 O0 (SR.off i (SR.calm r)) D) : tS W0 H0 O0 r (offN D (some i)) := by
  cases r with
  | nx ρ => exact fun σ H rs => h _ _ (rs.setNone (i := i) (ov := none))
  | rt d => exact h
  | ex c p ρ => exact h.elim
  | st => exact h
theorem tryH_ok {K : PySem.W.Frag} {cT : Addr → Addr → Option Bool} (xt : XTab K cT) {c : Addr} {H0 : Hp} {O0 : Ow} {ρ : En} {σ : Sg} {H : Hp} {D : Ends} {d : Option Addr} {p : Option PyData} (rs : RS H0 O0 ρ σ H) (py : PayR (Oa O0 ρ σ) H d p) : ∀ (l : List HD), tS W H0 O0 (tryH cT c p ρ l) D → wCls K W D (l.map (clsOf K cT)) (.ref c) d σ H
  | [], h => by
    have h := h σ H rs
    cases p with
    | none =>
      cases d with
      | none => exact h
      | some a => exact py.elim
    | some x =>
      cases d with
      | none => exact py.elim
      | some a =>
        obtain ⟨v, e, r⟩ := py
        exact h a v e r
  | ⟨hc, nm, f⟩ :: l, h => by
    unfold tryH at h
    dsimp only at h
    cases e : cT c hc with
    | none => rw [e] at h; exact h.elim
    | some b =>
      rw [e] at h
      obtain ⟨k1, k2, k3⟩ := xt.ok c hc b e
      cases b with
      | false => exact ⟨false, k2, fun z => (nomatch z), fun _ => tryH_ok xt rs py l h⟩
      | true =>
        refine ⟨true, k2, fun _ a na => ?_, fun z => (nomatch z)⟩
        cases nm with
        | none => exact ⟨c, p, ρ, H0, O0, rfl, py, fun i z => (nomatch z), xt, rs, tS_calm h⟩
        | some i =>
          have h : tS W H0 O0 (if i < ρ.length then SR.off i (SR.calm (f c p (ρ.set i .no))) else .st) D := h
          split at h
          · rename_i hi
            refine ⟨c, p, ρ.set i .no, H0, O0, rfl, ?_, fun j z => ?_, xt, rs.setNone, tS_off h⟩
            · cases p with
              | none =>
                cases d with
                | none => trivial
                | some a => exact py.elim
              | some x =>
                cases d with
                | none => exact py.elim
                | some a' =>
                  obtain ⟨v, e, r⟩ := py
                  exact ⟨v, e, r.kp fun a o ha hO => ⟨ha, fun z => hO (Oa.setNone a z)⟩⟩
            · cases z
              show (σ.set i (some (.ref a)))[i]? = _
              rw [List.getElem?_set_self (by rw [rs.len]; exact hi)]
          · exact h.elim
theorem ds_try {body : List Stmt} {h0 : ExceptHandler} {hds : List ExceptHandler} {l : List HD} {cT : Addr → Addr → Option Bool} {fb : En → SR} (xt : XTab X.K cT) (hs : X.stack = X.env :: X.outer) (hf : X.env.frame = some X.env.locals) (tk : Takes X W)
    (hb : ∀ (W : WX) (pn : List (Addr × Obj)) (xe : Value → Shared → Prop), Takes (X.tr pn xe) W → PassesOwn (model X.prog X.w) X.A X.env xe → PSs (X.tr pn xe) body (sD W fb))
    (hh : HsOk X cT (h0 :: hds) l) : PS X (.Try body (h0 :: hds) [] [] pos) (sD W (sTry cT fb l)) :=
  ps_imp (ps_tryN hs hf tk hb hh.cls) fun D σ H ⟨ρ, H0, O0, rs, h⟩ => by
    refine ⟨ρ, H0, O0, rs, ?_⟩
    unfold sTry at h
    cases e : fb ρ with
    | nx ρ' => rw [e] at h; exact h
    | rt d => rw [e] at h; exact h
    | st => rw [e] at h; exact h
    | ex c p ρ' =>
      rw [e] at h
      cases c with
      | ref c =>
        intro σ' H' rs'
        cases p with
        | none => exact tryH_ok xt rs' (d := none) (p := none) trivial l h
        | some x => exact fun a v e r => tryH_ok xt rs' (d := some a) (p := some x) ⟨v, e, r⟩ l h
      | _ => exact h.elim
/-! ### suites -/
theorem hd_gen {oi : Option Nat} {cT : Addr → Addr → Option Bool} {a : Addr} {cls : Value} {d : Option Addr} {b : List Stmt} {f : En → SR} {Y : Cx} (h : PSs Y b (sD W0 f)) : PSs Y b (hD X.K cT oi (fun _ _ => f) a cls d) :=
  ⟨fun pins s σ H D I ⟨c, p, ρ, H0, O0, _, _, _, _, rs, q⟩ => h.run pins s σ H D I ⟨ρ, H0, O0, rs, q⟩⟩
/-- the name of the exception, in a suite -/
def tP (i : Nat) (a : Addr) (b : Bool) : TT := fun σ H Q => σ[i]? = some (some (.ref a)) ∧ Q b H
theorem pt_isE {a c C : Addr} {oe : Obj} {pn : List (Addr × Obj)} {i : Nat} {x y : Str} {b : Bool} {p p1 p2 : Pos} (ec : ExcC X.K c) (hz : Zc (.ref c) none oe) (hf : ∃ vs, oe.data = .fields vs) (kt : PySem.W.kitOne X.K (.ref c) (.ref C) = some b) (hm : X.mg "isinstance" = none) (hy : X.mg y = some (.ref C))
    (hN : X.N[i]? = some x) (hv : Vis X.env.scope x) (hd : (x == ("__debug__" : Str)) = false) (hcd : (x == ("__classdict__" : Str)) = false)
    (hg : Gl X "isinstance") (hgy : Gl X y) (hdy : (y == ("__debug__" : Str)) = false) (hs : starEach [.Name x p1, .Name y p2] X.env = (false, eval (.Name x p1) X.env) :: starEach [.Name y p2] X.env) (hs2 : starEach [.Name y p2] X.env = (false, eval (.Name y p2) X.env) :: starEach [] X.env) (hpl : (backTo pos (starEach [.Name y p2] X.env)).any (·.1) = false) 
    (he : ∀ whole, isTrue (.Call (.Name "isinstance" p) [.Name x p1, .Name y p2] [] pos) X.env whole = (do let v ← whole; standAt pos; holding [v] (truthy v))) :
    PT (X.suite a ((a, oe) :: pn)) (.Call (.Name "isinstance" p) [.Name x p1, .Name y p2] [] pos) (tP i a b) := by
  have q := pe_callB (X := X.suite a ((a, oe) :: pn)) (pos := pos) (p := p) (call_isE ec hz hf) hg hm (by decide +kernel) (pa_cons (pe_var (X := X.suite a ((a, oe) :: pn)) hN hv hd hcd) (pa_cons (pe_glob (X := X.suite a ((a, oe) :: pn)) (v := .ref C) hgy hy rfl hdy) pa_nil hs2) hs) (he := hs) (hpl := hpl)
  refine pt_imp (pt_truth q he) fun σ H Q ⟨h1, h2⟩ => ?_
  exact ⟨_, h1, .ref C, .ref C, b, rfl, fun u r => r, kt, b, rfl, h2⟩
theorem pt_isN {Y : Cx} {e : Expr} {i : Nat} {a : Addr} {b : Bool} (h : PT Y e (tP i a b)) : PT Y (.UnaryOp .Not e pos) (tP i a (!b)) := pt_imp (pt_not h) fun σ H Q ⟨h1, h2⟩ => ⟨h1, h2⟩
theorem pt_isA {Y : Cx} {e f : Expr} {i : Nat} {a : Addr} {b c : Bool} (h : PT Y e (tP i a b)) (g : PT Y f (tP i a c)) : PT Y (.BoolOp .And [e, f] pos) (tP i a (b && c)) := (pw_imp (pw_and h (pw_and1 g)) fun σ H Q ⟨h1, h2⟩ => by
  cases b with
  | true => exact ⟨h1, ⟨h1, h2⟩⟩
  | false => exact ⟨h1, h2⟩).pt
/-- what a clause's test comes to: a class that it must be, a class that it must not be -/
def hCond (cT : Addr → Addr → Option Bool) (c C1 : Addr) : Option Addr → Option Bool
  | none => cT c C1
  | some C2 => (cT c C1).bind fun b => (cT c C2).bind fun b2 => some (b && !b2)
def hStr (cT : Addr → Addr → Option Bool) (C1 : Addr) (o2 : Option Addr) (s1 s2 : PyData) (c : Addr) : Option PyData → Option PyData
  | none => (hCond cT c C1 o2).map fun b => if b then s1 else s2
  | some _ => none
/-- return s1 if .. else s2 -/
def hRet (cT : Addr → Addr → Option Bool) (C1 : Addr) (o2 : Option Addr) (s1 s2 : PyData) : Addr → Option PyData → En → SR := fun c p ρ => match hStr cT C1 o2 s1 s2 c p with
  | some d => .rt d
  | none => .st
/-- x.append(s1 if .. else s2) -/
def hApp (cT : Addr → Addr → Option Bool) (j : Nat) (C1 : Addr) (o2 : Option Addr) (s1 s2 : PyData) : Addr → Option PyData → En → SR := fun c p ρ => match hStr cT C1 o2 s1 s2 c p with
  | some d => sApp j (eC d) ρ
  | none => .st
/-- a test of the exception in a suite -/
def TestOk (X : Cx) (cT : Addr → Addr → Option Bool) (i : Nat) (C1 : Addr) (o2 : Option Addr) (t : Expr) : Prop := ∀ (a c : Addr) (oe : Obj) (pn : List (Addr × Obj)) (b : Bool), Zc (.ref c) none oe → (∃ vs, oe.data = .fields vs) → XTab X.K cT → hCond cT c C1 o2 = some b → PT (X.suite a ((a, oe) :: pn)) t (tP i a b)
theorem te_one {cT : Addr → Addr → Option Bool} {i : Nat} {C : Addr} {x y : Str} {p p1 p2 : Pos} (hm : X.mg "isinstance" = none) (hy : X.mg y = some (.ref C))
    (hN : X.N[i]? = some x := by rfl) (hv : Vis X.env.scope x := by first | exact Or.inl rfl | exact Or.inr (Or.inl rfl) | exact Or.inr (Or.inr rfl)) (hd : (x == ("__debug__" : Str)) = false := by decide) (hcd : (x == ("__classdict__" : Str)) = false := by decide)
    (hg : Gl X "isinstance" := by rfl) (hgy : Gl X y := by rfl) (hdy : (y == ("__debug__" : Str)) = false := by decide) (hs : starEach [.Name x p1, .Name y p2] X.env = (false, eval (.Name x p1) X.env) :: starEach [.Name y p2] X.env := by rfl) (hs2 : starEach [.Name y p2] X.env = (false, eval (.Name y p2) X.env) :: starEach [] X.env := by rfl) (hpl : (backTo pos (starEach [.Name y p2] X.env)).any (·.1) = false := by rfl) 
    (he : ∀ whole, isTrue (.Call (.Name "isinstance" p) [.Name x p1, .Name y p2] [] pos) X.env whole = (do let v ← whole; standAt pos; holding [v] (truthy v)) := by intro _; rfl) :
    TestOk X cT i C none (.Call (.Name "isinstance" p) [.Name x p1, .Name y p2] [] pos) := fun a c oe pn b hz hf xt hc =>
  pt_isE (xt.ok c C b hc).2.2 hz hf (xt.ok c C b hc).1 hm hy hN hv hd hcd hg hgy hdy hs hs2 hpl he
theorem te_two {cT : Addr → Addr → Option Bool} {i : Nat} {C1 C2 : Addr} {t u : Expr} {q : Pos} (h1 : TestOk X cT i C1 none t) (h2 : TestOk X cT i C2 none u) : TestOk X cT i C1 (some C2) (.BoolOp .And [t, .UnaryOp .Not u q] pos) := fun a c oe pn b hz hf xt hc => by
  have hc : ((cT c C1).bind fun b => (cT c C2).bind fun b2 => some (b && !b2)) = some b := hc
  cases e1 : cT c C1 with
  | none => rw [e1] at hc; cases hc
  | some b1 =>
    cases e2 : cT c C2 with
    | none => rw [e1] at hc; rw [Option.bind_some, e2] at hc; cases hc
    | some b2 =>
      rw [e1, Option.bind_some, e2] at hc
      cases hc
      exact pt_isA (h1 a c oe pn b1 hz hf xt e1) (pt_isN (h2 a c oe pn b2 hz hf xt e2))
theorem pe_hStr {Y : Cx} {t : Expr} {i : Nat} {a : Addr} {b : Bool} {s1 s2 : Str} {j k : Nat} {p q : Pos} (h : PT Y t (tP i a b)) : PE Y (.IfExp t (.Constant (.str s1) j p) (.Constant (.str s2) k q) pos) (fun σ H Q => σ[i]? = some (some (.ref a)) ∧ Q (.str (if b then s1 else s2)) H) :=
  pe_imp (pe_ifExp h pe_str pe_str) fun σ H Q ⟨h1, h2⟩ => by
    cases b with
    | true => exact ⟨h1, h2⟩
    | false => exact ⟨h1, h2⟩
theorem hd_ret {cT : Addr → Addr → Option Bool} {i : Nat} {C1 : Addr} {o2 : Option Addr} {t : Expr} {s1 s2 : Str} {j k : Nat} {p q r : Pos} (ht : TestOk X cT i C1 o2 t) {a : Addr} {oe : Obj} {cls : Value} {d : Option Addr} {pn : List (Addr × Obj)} (hz : Zc cls d oe) (hf : ∃ vs, oe.data = .fields vs) :
    PSs (X.suite a ((a, oe) :: pn)) [.Return (some (.IfExp t (.Constant (.str s1) j p) (.Constant (.str s2) k q) r)) pos] (hD X.K cT (some i) (hRet cT C1 o2 (.str s1) (.str s2)) a cls d) :=
  ⟨fun pins s σ H D I ⟨c, pp, ρ, H0, O0, hc, py, hi, xt, rs, h⟩ => by
    subst hc
    unfold hRet at h
    cases pp with
    | some z => exact h.elim
    | none =>
      cases d with
      | some z => exact py.elim
      | none =>
        unfold hStr at h
        cases e : hCond cT c C1 o2 with
        | none => rw [e] at h; exact h.elim
        | some b =>
          rw [e] at h
          refine (pss_one (ps_ret (pe_hStr (ht a c oe pn b hz hf xt e)))).run pins s σ H D I ⟨hi i rfl, ?_⟩
          refine h _ H rs.same ?_
          cases b with
          | true => exact .str _
          | false => exact .str _⟩
theorem ps_appC {Y : Cx} (j : Nat) {x : Str} {e : Expr} {P : Sg → Prop} {z : Str} {p1 p2 p3 : Pos} (he : PE Y e (fun σ H Q => P σ ∧ Q (.str z) H)) (hN : Y.N[j]? = some x) (hv : Vis Y.env.scope x) (hd : (x == ("__debug__" : Str)) = false) (hcd : (x == ("__classdict__" : Str)) = false)
    (hbase : attributeBase (.Name x p1) "append" Y.env (eval (.Name x p1) Y.env) = eval (.Name x p1) Y.env)
    (hfew : ((backTo p3 (starEach [e] Y.env)).all (fun x => !x.1) && (backToKw p3 (keywordEach [] Y.env)).all (fun x => x.1.isSome) && decide (([e] : List Expr).length + ([] : List Keyword).length + (if ([] : List Keyword).isEmpty then 0 else 1) < 30)) = true)
    (hline : (p2.endLine == p3.line) = true) (hs : starEach [e] Y.env = (false, eval e Y.env) :: starEach [] Y.env) (hplain : (backTo p3 (starEach [] Y.env)).any (·.1) = false) (hsw : swapsWith (.Call (.Attribute (.Name x p1) "append" p2) [e] [] p3) none pos.line Y.env = pure false) :
    PS Y (.Expr (.Call (.Attribute (.Name x p1) "append" p2) [e] [] p3) pos) (fun D σ H => P σ ∧ sD W0 (sApp j (eC (.str z))) D σ H) :=
  ps_imp (ps_expr (pe_bm PySem.F.plainAttrs_list PySem.F.slot_list_append PySem.F.type_list_append mt_append (pe_var hN hv hd hcd) (pa_cons he pa_nil hs) hbase hfew hline hs hplain) hsw) fun D σ H ⟨hP, ρ, H0, O0, rs, h⟩ => by
    unfold sApp at h
    split at h
    · rename_i ds ei
      obtain ⟨p, ep, op, xs, e1, r1⟩ := rs.re.at_ j _ ei
      refine ⟨.ref p, ep, .inl ⟨rfl, xs, SqL.of e1⟩, hP, ?_⟩
      have h1 : tS W0 H0 O0 (if fits (ds.length + 1) then .nx (ρ.set j (.ow (.list (ds ++ [.str z])))) else .st) D := h
      split at h1
      · rename_i hf
        refine ⟨p, xs, .str z, rfl, rfl, e1, ?_, h1 _ _ (rs.store ei ep ⟨xs ++ [.str z], upd_same, ?_⟩)⟩
        · have := fits_line hf
          have := r1.len
          omega
        · exact (r1.app (.cons (.str z) .nil)).kp (.own op)
      · exact h1.elim
    · exact h.elim
theorem hd_app {cT : Addr → Addr → Option Bool} {i : Nat} (l : Nat) {C1 : Addr} {o2 : Option Addr} {t : Expr} {s1 s2 x : Str} {j k : Nat} {p q r p1 p2 p3 : Pos} (ht : TestOk X cT i C1 o2 t) {a : Addr} {oe : Obj} {cls : Value} {d : Option Addr} {pn : List (Addr × Obj)} (hz : Zc cls d oe) (hf : ∃ vs, oe.data = .fields vs)
    (hN : X.N[l]? = some x := by rfl) (hv : Vis X.env.scope x := by first | exact Or.inl rfl | exact Or.inr (Or.inl rfl) | exact Or.inr (Or.inr rfl)) (hd : (x == ("__debug__" : Str)) = false := by decide) (hcd : (x == ("__classdict__" : Str)) = false := by decide)
    (hbase : attributeBase (.Name x p1) "append" X.env (eval (.Name x p1) X.env) = eval (.Name x p1) X.env := by rfl)
    (hfew : ((backTo p3 (starEach [.IfExp t (.Constant (.str s1) j p) (.Constant (.str s2) k q) r] X.env)).all (fun x => !x.1) && (backToKw p3 (keywordEach [] X.env)).all (fun x => x.1.isSome) && decide (([.IfExp t (.Constant (.str s1) j p) (.Constant (.str s2) k q) r] : List Expr).length + ([] : List Keyword).length + (if ([] : List Keyword).isEmpty then 0 else 1) < 30)) = true := by rfl)
    (hline : (p2.endLine == p3.line) = true := by rfl) (hs : starEach [.IfExp t (.Constant (.str s1) j p) (.Constant (.str s2) k q) r] X.env = (false, eval (.IfExp t (.Constant (.str s1) j p) (.Constant (.str s2) k q) r) X.env) :: starEach [] X.env := by rfl) (hplain : (backTo p3 (starEach [] X.env)).any (·.1) = false := by rfl) (hsw : swapsWith (.Call (.Attribute (.Name x p1) "append" p2) [.IfExp t (.Constant (.str s1) j p) (.Constant (.str s2) k q) r] [] p3) none pos.line X.env = pure false := by rfl) :
    PSs (X.suite a ((a, oe) :: pn)) [.Expr (.Call (.Attribute (.Name x p1) "append" p2) [.IfExp t (.Constant (.str s1) j p) (.Constant (.str s2) k q) r] [] p3) pos] (hD X.K cT (some i) (hApp cT l C1 o2 (.str s1) (.str s2)) a cls d) :=
  ⟨fun pins s σ H D I ⟨c, pp, ρ, H0, O0, hc, py, hi, xt, rs, h⟩ => by
    subst hc
    unfold hApp at h
    cases pp with
    | some z => exact h.elim
    | none =>
      cases d with
      | some z => exact py.elim
      | none =>
        unfold hStr at h
        cases e : hCond cT c C1 o2 with
        | none => rw [e] at h; exact h.elim
        | some b =>
          rw [e] at h
          refine (pss_one (ps_appC (Y := X.suite a ((a, oe) :: pn)) (P := fun σ => σ[i]? = some (some (.ref a))) l (pe_hStr (ht a c oe pn b hz hf xt e)) hN hv hd hcd hbase hfew hline hs hplain hsw)).run pins s σ H D I ⟨hi i rfl, ρ, H0, O0, rs, ?_⟩
          cases b with
          | true => exact h
          | false => exact h⟩
end
end DL

namespace DL
open PySem PySem.Spec L2 PyProof.Rows

/-! ## a list of lists, each written in place -/
structure NL (O : Ow) (H : Hp) (p : Addr) (ps : List Addr) (dss : List (List PyData)) : Prop where
  top : H p = some (.lst (ps.map V.ref))
  op : O p
  ops : ∀ q ∈ ps, O q
  nd : (p :: ps).Nodup
  len : ps.length = dss.length
  at_ : ∀ (k : Nat) (q : Addr) (ds : List PyData), ps[k]? = some q → dss[k]? = some ds → ∃ ys, H q = some (.lst ys) ∧ RpL O H ys ds
theorem NL.same {O : Ow} {H H' : Hp} {p : Addr} {ps : List Addr} {dss : List (List PyData)} (n : NL O H p ps dss) (s : Same H H') : NL O H' p ps dss :=
  ⟨s _ _ n.top, n.op, n.ops, n.nd, n.len, fun k q ds e1 e2 => by
    obtain ⟨ys, h1, h2⟩ := n.at_ k q ds e1 e2
    exact ⟨ys, s _ _ h1, h2.kp (.same s)⟩⟩
theorem NL.app {O : Ow} {H : Hp} {p : Addr} {ps : List Addr} {dss : List (List PyData)} (n : NL O H p ps dss) {k : Nat} {q : Addr} {ds : List PyData} {ys : List V} {v : V} {d : PyData} (e1 : ps[k]? = some q) (e2 : dss[k]? = some ds) (hq : H q = some (.lst ys)) (hy : RpL O H ys ds) (rv : Rp O H v d) : NL O (upd H q (.lst (ys ++ [v]))) p ps (dss.set k (ds ++ [d])) := by
  have hm : q ∈ ps := List.mem_of_getElem? e1
  have oq : O q := n.ops q hm
  have kp : Kp O H O (upd H q (.lst (ys ++ [v]))) := .own oq
  have hpq : p ≠ q := fun z => (List.nodup_cons.mp n.nd).1 (z ▸ hm)
  refine ⟨by rw [upd_ne hpq]; exact n.top, n.op, n.ops, n.nd, by rw [List.length_set]; exact n.len, fun j r es f1 f2 => ?_⟩
  by_cases hj : k = j
  · subst hj
    rw [e1] at f1
    cases f1
    rw [List.getElem?_set_self (List.getElem?_eq_some_iff.mp e2).1] at f2
    cases f2
    exact ⟨_, upd_same, (hy.app (.cons rv .nil)).kp kp⟩
  · rw [List.getElem?_set_ne hj] at f2
    obtain ⟨zs, h1, h2⟩ := n.at_ j r es f1 f2
    have hne : r ≠ q := fun z => by
      subst z
      have hjl := (List.getElem?_eq_some_iff.mp f1)
      have hkl := (List.getElem?_eq_some_iff.mp e1)
      obtain ⟨a1, b1⟩ := hjl
      obtain ⟨a2, b2⟩ := hkl
      exact hj ((List.getElem_inj (List.nodup_cons.mp n.nd).2).mp (b2.trans b1.symm))
    exact ⟨zs, by rw [upd_ne hne]; exact h1, h2.kp kp⟩
theorem RE.updO {O : Ow} {ρ : En} {σ : Sg} {H : Hp} {q : Addr} {o : HO} (r : RE O ρ σ H) (oq : O q) (no : ∀ (i : Nat) (t : Sl) (v : Option (Option V)) (p : Addr), ρ[i]? = some t → ¬ t.own v p) : RE O ρ σ (upd H q o) := by
  have kp : Kp O H O (upd H q o) := .own oq
  refine ⟨r.len, fun a ha => ?_, fun i s e => ?_⟩
  · by_cases z : a = q
    · subst z; rw [upd_same]; exact fun z => nomatch z
    · rw [upd_ne z]; exact r.dom a ha
  · have z := r.at_ i s e
    cases s with
    | no => trivial
    | va d => obtain ⟨y, e1, e2⟩ := z; exact ⟨y, e1, e2.kp kp⟩
    | ow d => exact absurd rfl (no i _ (some (some (.ref q))) q e)
    | ob C A st => exact absurd (.inl rfl) (no i _ none A.p e)
section
variable {X : Cx} {W : WX} {pos : Pos}
/-- x[y].append(e) -/
theorem ps_nest (j k : Nat) {x y : Str} {e : Expr} {fe : En → Re PyData} {p1 p2 p3 p4 p5 : Pos} (he : PE X e (tD W fe)) (hN : X.N[j]? = some x := by rfl) (hv : Vis X.env.scope x := by first | exact Or.inl rfl | exact Or.inr (Or.inl rfl) | exact Or.inr (Or.inr rfl)) (hd : (x == ("__debug__" : Str)) = false := by decide) (hcd : (x == ("__classdict__" : Str)) = false := by decide)
    (hN2 : X.N[k]? = some y := by rfl) (hv2 : Vis X.env.scope y := by first | exact Or.inl rfl | exact Or.inr (Or.inl rfl) | exact Or.inr (Or.inr rfl)) (hd2 : (y == ("__debug__" : Str)) = false := by decide) (hcd2 : (y == ("__classdict__" : Str)) = false := by decide) (hpi : PlainIx (.Name y p4) := by intro _ _; rfl)
    (hbase : attributeBase (.Subscript (.Name x p1) (.Name y p4) p5) "append" X.env (eval (.Subscript (.Name x p1) (.Name y p4) p5) X.env) = eval (.Subscript (.Name x p1) (.Name y p4) p5) X.env := by rfl)
    (hfew : ((backTo p3 (starEach [e] X.env)).all (fun x => !x.1) && (backToKw p3 (keywordEach [] X.env)).all (fun x => x.1.isSome) && decide (([e] : List Expr).length + ([] : List Keyword).length + (if ([] : List Keyword).isEmpty then 0 else 1) < 30)) = true := by rfl)
    (hline : (p2.endLine == p3.line) = true := by rfl) (hs : starEach [e] X.env = (false, eval e X.env) :: starEach [] X.env := by rfl) (hplain : (backTo p3 (starEach [] X.env)).any (·.1) = false := by rfl) (hsw : swapsWith (.Call (.Attribute (.Subscript (.Name x p1) (.Name y p4) p5) "append" p2) [e] [] p3) none pos.line X.env = pure false := by rfl) :
    PS X (.Expr (.Call (.Attribute (.Subscript (.Name x p1) (.Name y p4) p5) "append" p2) [e] [] p3) pos) (fun D σ H => ∃ (ρ : En) (O : Ow) (p : Addr) (vs : List V) (m : Int) (q : Addr) (ys : List V), RE O ρ σ H ∧ σ[j]? = some (some (.ref p)) ∧ H p = some (.lst vs) ∧ σ[k]? = some (some (.int m)) ∧ L2.atI vs m = some (.ref q) ∧ H q = some (.lst ys) ∧ ys.length < sizeLine ∧
      tR W O (fe ρ) σ H (fun v H' => D.nx σ (upd H' q (.lst (ys ++ [v]))))) := by
  refine ps_imp (ps_expr (pe_bm PySem.F.plainAttrs_list PySem.F.slot_list_append PySem.F.type_list_append mt_append (pe_ix ix_list (pe_var hN hv hd hcd) (pe_var hN2 hv2 hd2 hcd2) hpi) (pa_cons he pa_nil hs) hbase hfew hline hs hplain) hsw) fun D σ H h => ?_
  obtain ⟨ρ, O, p, vs, m, q, ys, re, e1, e2, e3, e4, e5, hz, h⟩ := h
  refine ⟨.ref p, e1, .int m, e3, p, vs, m, .ref q, rfl, rfl, SqL.of e2, e4, .inl ⟨rfl, ys, SqL.of e5⟩, ρ, O, re, ?_⟩
  cases e : fe ρ with
  | ok d =>
    rw [e] at h
    intro v H' s rv
    exact ⟨q, ys, v, rfl, rfl, s _ _ e5, hz, h v H' s rv⟩
  | ex c p => rw [e] at h; exact h
  | st => rw [e] at h; exact h
def On (O : Ow) (p : Addr) (ps : List Addr) : Ow := fun a => O a ∨ a = p ∨ a ∈ ps
def teNew : TE := fun _ H Q => ∀ p, H p = none → Q (.ref p) (upd H p (.lst []))
theorem pe_new {Y : Cx} : PE Y (.List [] pos) teNew := pe_imp (pe_lst pa_nil) fun σ H Q h => ⟨by rw [sizeLine_eq]; decide, fun p hp => h p hp⟩
/-- [[] for .. in ..] -/
theorem impNest {own : List Nat} {fi : En → Re (List PyData)} {t : Tg} (ht : tgIn t own) {ρ : En} {O : Ow} {σ : Sg} {H : Hp} {Q : VK} {ds : List PyData} (re : RE O ρ σ H) (ei : fi ρ = .ok ds) (hf : fits ds.length = true) (ts : ∀ d ∈ ds, ∃ m, t d = some m)
    (h : ∀ p ps H', Same H H' → H p = none → (∀ q ∈ ps, H q = none) → NL (On O p ps) H' p ps (List.replicate ds.length []) → Q (.ref p) H') : tLc (iD W fi) (gA t) (DL.tB W0 gYes) teNew own σ H Q := by
  refine ⟨ρ, O, re, ?_⟩
  rw [ei]
  intro J H1 s itd D nD
  have re1 := re.same s
  refine ⟨fun i m H2 => ∃ ps : List Addr, i ≤ ds.length ∧ m = ds.length - i ∧ Same H1 H2 ∧ H2 D = some (.lst (ps.map V.ref)) ∧ ps.length = i ∧ (D :: ps).Nodup ∧ (∀ q ∈ ps, H1 q = none) ∧ ∀ q ∈ ps, H2 q = some (.lst []),
    ⟨ds.length, [], Nat.zero_le _, rfl, same_upd nD, upd_same, rfl, by simp, by simp, by simp⟩, ?_⟩
  rintro i m H2 ⟨ps, hi, rfl, s2, eD, hl, nd, n1, l2⟩
  have dm : ∀ a, On O D ps a → H2 a ≠ none := fun a z => by
    rcases z with z | z | z
    · intro q
      exact re1.dom a z (s2.free q)
    · rw [z, eD]; exact fun q => nomatch q
    · rw [l2 a z]; exact fun q => nomatch q
  have hOp : ∀ a o, H1 a = some o → (On O D ps a ↔ O a) := fun a o e => ⟨fun z => by
    rcases z with z | z | z
    · exact z
    · exact absurd z (ne_of_none e nD)
    · exact absurd rfl (ne_of_none e (n1 a z)), .inl⟩
  have k2 : Kp O H1 (On O D ps) H2 := fun a o e n => ⟨s2 a o e, fun z => n ((hOp a o e).mp z)⟩
  obtain ⟨hstop, hgo⟩ := itd H2 (On O D ps) k2 dm
  by_cases hlt : i < ds.length
  · have hd : ds[i]? = some ds[i] := List.getElem?_eq_getElem hlt
    obtain ⟨g1, g2⟩ := hgo i _ hd
    refine .inr ⟨g1, fun H5 => ∃ ps : List Addr, Same H1 H5 ∧ H5 D = some (.lst (ps.map V.ref)) ∧ ps.length = i + 1 ∧ (D :: ps).Nodup ∧ (∀ q ∈ ps, H1 q = none) ∧ ∀ q ∈ ps, H5 q = some (.lst []), ?_, fun x H3 y => ?_⟩
    · rintro H5 ⟨ps, f1, f2, f3, f4, f5, f6⟩
      exact ⟨ds.length - (i + 1), by omega, ps, hlt, rfl, f1, f2, f3, f4, f5, f6⟩
    · obtain ⟨s3, rx⟩ := g2 x H3 y
      obtain ⟨mm, et⟩ := ts _ (List.getElem_mem hlt)
      refine ⟨_, _, mm, rx, et, fun l yl => ⟨?_, ?_⟩⟩
      · have hin : ∀ p ∈ l, p.1 ∈ own := by
          have hmm := ht _ _ et
          clear et rx y
          induction yl with
          | nil => intro p hp; cases hp
          | @cons i v d l m a b ih =>
            intro p hp
            rcases List.mem_cons.mp hp with z | z
            · rw [z]; exact hmm (i, d) List.mem_cons_self
            · exact ih (fun p hp => hmm p (List.mem_cons_of_mem _ hp)) p z
        refine (wipe_ext (by rw [putV_len, wipe_length]) fun j hj => ?_)
        rw [putV_at (i := j) (fun p hp (z : p.1 = j) => hj (by rw [← z]; exact hin p hp)), wipe_at hj]
      · have s13 := s2.trans s3
        have eD3 := s3 _ _ eD
        have dm3 : ∀ a, On O D ps a → H3 a ≠ none := fun a z q => dm a z (s3.free q)
        have reb : RE (On O D ps) (fgt own ρ) (wipe σ own) H3 := re1.blk s13 hOp dm3
        have reP : RE (On O D ps) (putD (fgt own ρ) mm) (putV (wipe σ own) l) H3 := RE.put _ _ _ _ reb reb.len yl
        refine ⟨_, _, reP, ?_⟩
        intro H4 s4
        refine iteT fun q nq => ?_
        have eD4 := s4 _ _ eD3
        have hqD : q ≠ D := fun z => by rw [z, eD4] at nq; cases nq
        have hqps : q ∉ ps := fun z => by
          have := s4 _ _ (s3 _ _ (l2 q z))
          rw [this] at nq; cases nq
        refine ⟨ps.map V.ref, by rw [upd_ne (Ne.symm hqD)]; exact eD4, ?_, ps ++ [q], ?_, ?_, ?_, ?_, ?_, ?_⟩
        · have := fits_line hf
          rw [List.length_map]
          omega
        · intro b o eb
          have nb : b ≠ D := ne_of_none eb nD
          have eb4 := s4 _ _ (s3 _ _ (s2 _ _ eb))
          have nbq : b ≠ q := ne_of_none eb4 nq
          rw [upd_ne nb, upd_ne nbq]
          exact eb4
        · rw [upd_same, List.map_append]; rfl
        · rw [List.length_append, hl]; rfl
        · rw [← List.cons_append]
          refine List.nodup_append.mpr ⟨nd, by simp, ?_⟩
          intro a ha b hb
          rw [List.mem_singleton] at hb
          subst hb
          intro z
          subst z
          rcases List.mem_cons.mp ha with z | z
          · exact hqD z
          · exact hqps z
        · intro r hr
          rcases List.mem_append.mp hr with hr | hr
          · exact n1 r hr
          · rw [List.mem_singleton.mp hr]
            exact s2.free (s3.free (s4.free nq))
        · intro r hr
          rcases List.mem_append.mp hr with hr | hr
          · have e4 := s4 _ _ (s3 _ _ (l2 r hr))
            have hrD : r ≠ D := fun z => (List.nodup_cons.mp nd).1 (z ▸ hr)
            have hrq : r ≠ q := fun z => hqps (z ▸ hr)
            rw [upd_ne hrD, upd_ne hrq]
            exact e4
          · rw [List.mem_singleton.mp hr, upd_ne hqD, upd_same]
  · have e : i = ds.length := by omega
    subst e
    refine .inl ⟨hstop, h D ps H2 (s.trans s2) (s.free nD) (fun q hq => s.free (n1 q hq)) ⟨eD, .inr (.inl rfl), fun q hq => .inr (.inr hq), nd, by rw [List.length_replicate]; exact hl, fun k q es e1 e2 => ?_⟩⟩
    rw [List.getElem?_replicate] at e2
    split at e2
    · cases e2
      exact ⟨[], l2 q (List.mem_of_getElem? e1), .nil⟩
    · cases e2
/-! ### the ties of a book's points -/
def tieD (i : Nat) (g : Int) (o : Nat) (m : Int) : PyData := .tuple [.int i, .int g, .int o, .int m]
def tie2 (dss : List (List PyData)) (i a b : Nat) (m : Int) : List (List PyData) :=
  let d1 := dss.set a (dss.getD a [] ++ [tieD i 1 b m])
  d1.set b (d1.getD b [] ++ [tieD i (-1) a (-m)])
def tieOne (dss : List (List PyData)) (i : Nat) : PyData → Option (List (List PyData))
  | .tuple [.int a, .int b, .int m] => if decide (0 ≤ a) && decide (a < dss.length) && decide (0 ≤ b) && decide (b < dss.length) then some (tie2 dss i a.toNat b.toNat m) else none
  | _ => none
def tieL : Nat → List PyData → List (List PyData) → Option (List (List PyData))
  | _, [], dss => some dss
  | i, t :: ts, dss => (tieOne dss i t).bind (tieL (i + 1) ts)
def fTies : En → SR
  | [.va (.tuple [.int n, .tuple ts]), .no, .no, .no, .no, .no, .no] => if decide (0 ≤ n) && decide (n ≤ 1000) && decide (ts.length ≤ 1000) then (match tieL 0 ts (List.replicate (n.toNat + 1) []) with
    | some dss => .rt (.list (dss.map .list))
    | none => .st) else .st
  | _ => .st
theorem tieOne_shape {dss r : List (List PyData)} {i : Nat} {t : PyData} (h : tieOne dss i t = some r) : ∃ (a b : Nat) (m : Int), t = .tuple [.int a, .int b, .int m] ∧ a < dss.length ∧ b < dss.length ∧ r = tie2 dss i a b m := by
  unfold tieOne at h
  split at h
  · rename_i a b m
    split at h
    · rename_i hc
      simp only [Bool.and_eq_true, decide_eq_true_eq] at hc
      cases h
      refine ⟨a.toNat, b.toNat, m, ?_, by omega, by omega, rfl⟩
      rw [Int.toNat_of_nonneg hc.1.1.1, Int.toNat_of_nonneg hc.1.2]
    · cases h
  · cases h
theorem tie2_len {dss : List (List PyData)} {i a b : Nat} {m : Int} : (tie2 dss i a b m).length = dss.length := by
  unfold tie2
  simp
theorem tie2_most {dss : List (List PyData)} {i a b n : Nat} {m : Int} (h : ∀ k : Nat, (dss.getD k []).length ≤ n) : ∀ k : Nat, ((tie2 dss i a b m).getD k []).length ≤ n + 2 := by
  have one : ∀ (es : List (List PyData)) (c : Nat) (y : PyData) (N : Nat), (∀ k : Nat, (es.getD k []).length ≤ N) → ∀ k : Nat, ((es.set c (es.getD c [] ++ [y])).getD k []).length ≤ N + 1 := by
    intro es c y N hh k
    by_cases hk : c = k
    · subst hk
      by_cases hl : c < es.length
      · rw [List.getD_eq_getElem?_getD, List.getElem?_set_self hl]
        have := hh c
        simp at this ⊢
        omega
      · rw [List.set_eq_of_length_le (by omega)]
        have := hh c
        omega
    · rw [List.getD_eq_getElem?_getD, List.getElem?_set_ne hk, ← List.getD_eq_getElem?_getD]
      have := hh k
      omega
  intro k
  unfold tie2
  exact one _ _ _ _ (one _ _ _ _ h) k
theorem Same.upd_fresh {H0 H : Hp} {q : Addr} {o : HO} (s : Same H0 H) (n : H0 q = none) : Same H0 (upd H q o) := fun a x e => by
  rw [upd_ne (ne_of_none e n)]
  exact s a x e
theorem atI_map {ps : List Addr} {n : Nat} {q : Addr} (h : ps[n]? = some q) : L2.atI (ps.map V.ref) (n : Int) = some (.ref q) := by
  unfold L2.atI
  have hl := (List.getElem?_eq_some_iff.mp h).1
  have : ixN (ps.map V.ref).length (n : Int) = some n := by
    unfold ixN; simp; omega
  rw [this]
  show (ps.map V.ref)[n]? = _
  rw [List.getElem?_map, h]
  rfl
abbrev nestT (W : WX) (j k : Nat) (fe : En → Re PyData) : TS := fun D σ H => ∃ (ρ : En) (O : Ow) (p : Addr) (vs : List V) (m : Int) (q : Addr) (ys : List V), RE O ρ σ H ∧ σ[j]? = some (some (.ref p)) ∧ H p = some (.lst vs) ∧ σ[k]? = some (some (.int m)) ∧ L2.atI vs m = some (.ref q) ∧ H q = some (.lst ys) ∧ ys.length < sizeLine ∧
      tR W O (fe ρ) σ H (fun v H' => D.nx σ (upd H' q (.lst (ys ++ [v]))))
/-- one of the two, done -/
theorem nest_do {O : Ow} {ρ : En} {σ : Sg} {H : Hp} {p : Addr} {ps : List Addr} {dss : List (List PyData)} {j k c : Nat} {fe : En → Re PyData} {d : PyData} {D : Ends} (re : RE O ρ σ H) (nl : NL O H p ps dss) (ej : σ[j]? = some (some (.ref p))) (ek : σ[k]? = some (some (.int (c : Nat)))) (hc : c < dss.length) (hz : (dss.getD c []).length ≤ 10000) (hf : fe ρ = .ok d) (no : ∀ (i : Nat) (t : Sl) (v : Option (Option V)) (p : Addr), ρ[i]? = some t → ¬ t.own v p)
    (h : ∀ H', (∀ a o, H a = some o → a ∉ ps → H' a = some o) → (∀ a, H' a = none → H a = none) → RE O ρ σ H' → NL O H' p ps (dss.set c (dss.getD c [] ++ [d])) → D.nx σ H') : nestT W j k fe D σ H := by
  have hcl : c < ps.length := by rw [nl.len]; exact hc
  have e1 : ps[c]? = some ps[c] := List.getElem?_eq_getElem hcl
  have e2 : dss[c]? = some (dss.getD c []) := by
    rw [List.getD_eq_getElem?_getD, List.getElem?_eq_getElem hc]; rfl
  obtain ⟨ys, f1, f2⟩ := nl.at_ c _ _ e1 e2
  have hlen : ys.length ≤ 10000 := by rw [f2.len]; exact hz
  refine ⟨ρ, O, p, _, c, ps[c], ys, re, ej, nl.top, ek, atI_map e1, f1, by rw [sizeLine_eq]; omega, ?_⟩
  rw [hf]
  intro v H' s rv
  have oq : O ps[c] := nl.ops _ (List.getElem_mem hcl)
  have re' := (re.same s).updO (q := ps[c]) (o := .lst (ys ++ [v])) oq no
  refine h _ (fun a o e n => ?_) (fun a e => ?_) re' ((nl.same s).app e1 e2 (s _ _ f1) (f2.kp (.same s)) rv)
  · rw [upd_ne (fun z : a = ps[c] => n (by rw [z]; exact List.getElem_mem hcl))]
    exact s _ _ e
  · by_cases z : a = ps[c]
    · rw [z, upd_same] at e; cases e
    · rw [upd_ne z] at e; exact s.free e
theorem tieL_len : ∀ {ts : List PyData} {i : Nat} {dss r : List (List PyData)}, tieL i ts dss = some r → r.length = dss.length
  | [], _, _, _, h => by cases h; rfl
  | t :: ts, i, dss, r, h => by
    unfold tieL at h
    cases e : tieOne dss i t with
    | none => rw [e] at h; cases h
    | some d1 =>
      rw [e] at h
      obtain ⟨a, b, m, _, _, _, rfl⟩ := tieOne_shape e
      rw [tieL_len h, tie2_len]
abbrev noE (d : PyData) : En := [.va d, .no, .no, .no, .no, .no, .no]
theorem NL.rp {O O0 : Ow} {H : Hp} {p : Addr} {ps : List Addr} {dss : List (List PyData)} (nl : NL O H p ps dss) (h0 : ∀ a, O0 a → O a) (np : ¬ O0 p) (nps : ∀ q ∈ ps, ¬ O0 q) : Rp O0 H (.ref p) (.list (dss.map .list)) := by
  have kp : Kp O H O0 H := fun a o e n => ⟨e, fun z => n (h0 a z)⟩
  refine .lst nl.top np ?_
  have hat := nl.at_
  have hlen := nl.len
  clear nl np
  induction ps generalizing dss with
  | nil =>
    cases dss with
    | nil => exact .nil
    | cons _ _ => cases hlen
  | cons q ps ih =>
    cases dss with
    | nil => cases hlen
    | cons ds dss =>
      obtain ⟨ys, f1, f2⟩ := hat 0 q ds rfl rfl
      refine .cons (.lst f1 (nps q List.mem_cons_self) (f2.kp kp)) (ih (fun r hr => nps r (List.mem_cons_of_mem _ hr)) (fun k r es e1 e2 => hat (k + 1) r es (by simpa using e1) (by simpa using e2)) (by simpa using hlen))
/-- the whole def -/
theorem pss_ties {s1 b1 b2 s3 : Stmt} {tg iter : Expr} {fi : En → Re (List PyData)} {fa : En → Re PyData} {f1 f2 : En → Re PyData} (hp : PassesOwn (model X.prog X.w) X.A X.env X.xe) (hc : X.calm = true)
    (hA : PS X s1 (tAsg (tLc (iD W fi) (gA (tgName 6)) (DL.tB W0 gYes) teNew [6]) (gName 1)))
    (hi : PI X tg iter (iD W (DL.iEnum fa))) (hg : PG X tg (gA (tgTup [tgName 2, tgTup [tgName 3, tgName 4, tgName 5]]))) (hb1 : PS X b1 (nestT W 1 3 f1)) (hb2 : PS X b2 (nestT W 1 4 f2)) (hr : PS X s3 (tRet (tVar 1))) (hs : ∀ x, foldedSetIterable iter X.env x = pure x)
    (qi : ∀ d : PyData, ∀ n : Int, ∀ ts, d = .tuple [.int n, .tuple ts] → 0 ≤ n → n ≤ 1000 → fi (noE d) = .ok (rngD 0 (n.toNat + 1)))
    (qa : ∀ d : PyData, ∀ n : Int, ∀ ts, d = .tuple [.int n, .tuple ts] → fa [.va d, .no, .no, .no, .no, .no, .no] = .ok (.tuple ts))
    (q1 : ∀ (d : PyData) (i a b : Nat) (m : Int), f1 [.va d, .no, .va (.int i), .va (.int a), .va (.int b), .va (.int m), .no] = .ok (tieD i 1 b m))
    (q2 : ∀ (d : PyData) (i a b : Nat) (m : Int), f2 [.va d, .no, .va (.int i), .va (.int a), .va (.int b), .va (.int m), .no] = .ok (tieD i (-1) a (-m))) :
    PSs X [s1, .For tg iter [b1, b2] [] pos, s3] (sD W fTies) := by
  refine pss_imp (pss_cons hA (pss_cons (ps_for hp hc hi hg (pss_cons hb1 (pss_one hb2)) hs) (pss_one hr))) fun D σ H ⟨ρ, H0, O0, rs, h⟩ => ?_
  unfold fTies at h
  split at h
  · rename_i n ts
    split at h
    · rename_i hcn
      simp only [Bool.and_eq_true, decide_eq_true_eq] at hcn
      cases eT : tieL 0 ts (List.replicate (n.toNat + 1) []) with
      | none => rw [eT] at h; exact h.elim
      | some dsR =>
        rw [eT] at h
        have noOw : ∀ (i : Nat) (t : Sl) (v : Option (Option V)) (p : Addr), (noE (.tuple [.int n, .tuple ts]))[i]? = some t → ¬ t.own v p := fun i t v p e w => by
          have := List.mem_of_getElem? e
          simp at this
          rcases this with rfl | rfl <;> exact w
        have Oeq : Oa O0 (noE (.tuple [.int n, .tuple ts])) σ = O0 := funext fun a => propext ⟨fun z => z.elim id fun ⟨i, d, e, w⟩ => (noOw i d _ _ e w).elim, .inl⟩
        have re0 : RE O0 (noE (.tuple [.int n, .tuple ts])) σ H := by
          have := rs.re
          rw [Oeq] at this
          exact this
        have hlen : σ.length = 7 := rs.len
        have key : ∀ Q : VK, (∀ p ps H', Same H H' → H p = none → (∀ q ∈ ps, H q = none) → NL (On O0 p ps) H' p ps (List.replicate (n.toNat + 1) []) → Q (.ref p) H') → tLc (iD W fi) (gA (tgName 6)) (DL.tB W0 gYes) teNew [6] σ H Q := fun Q hQ =>
          impNest (tgIn_name (by simp)) re0 (qi _ n ts rfl hcn.1.1 hcn.1.2) (decide_eq_true (by simp [rngD]; omega)) (fun d _ => ⟨_, rfl⟩) (by simpa [rngD] using hQ)
        unfold tSeq tAsg
        refine key _ fun p ps H1 s1' np nps nl => ?_
        have hpO : ∀ a, O0 a → a ≠ p := fun a oa z => rs.dom0 a oa (by rw [z]; exact rs.same.free np)
        have hpsO : ∀ a, O0 a → a ∉ ps := fun a oa z => rs.dom0 a oa (rs.same.free (nps a z))
        have kp1 : Kp O0 H (On O0 p ps) H1 := fun a o e na => ⟨s1' a o e, fun z => by
          rcases z with z | z | z
          · exact na z
          · rw [z, np] at e; cases e
          · rw [nps a z] at e; cases e⟩
        have dm1 : ∀ a, On O0 p ps a → H1 a ≠ none := fun a z => by
          rcases z with z | z | z
          · exact fun q => re0.dom a z (s1'.free q)
          · rw [z, nl.top]; exact fun q => nomatch q
          · obtain ⟨k, hk⟩ := List.getElem?_of_mem z
            have hkl := (List.getElem?_eq_some_iff.mp hk).1
            obtain ⟨ys, e, _⟩ := nl.at_ k a [] hk (by rw [List.getElem?_replicate]; rw [if_pos (by have := nl.len; rw [List.length_replicate] at this; omega)])
            rw [e]; exact fun q => nomatch q
        -- the state behind the first row
        have reA : ∀ (σ' : Sg) (H' : Hp), σ'.length = 7 → σ'[0]? = σ[0]? → (∀ a o, H1 a = some o → ¬ On O0 p ps a → H' a = some o) → (∀ a, H' a = none → H1 a = none) → RE (On O0 p ps) (noE (.tuple [.int n, .tuple ts])) σ' H' := by
          intro σ' H' hl' h0 k1 k2
          refine ⟨hl', fun a z q => dm1 a z (k2 a q), fun i s e => ?_⟩
          match i with
          | 0 =>
            cases e
            obtain ⟨v, e1, r⟩ := re0.at_ 0 _ rfl
            refine ⟨v, by rw [h0]; exact e1, r.kp fun a o ea na => ?_⟩
            obtain ⟨f1, f2⟩ := kp1 a o ea na
            exact ⟨k1 a o f1 f2, f2⟩
          | 1 => cases e; trivial
          | 2 => cases e; trivial
          | 3 => cases e; trivial
          | 4 => cases e; trivial
          | 5 => cases e; trivial
          | 6 => cases e; trivial
          | i + 7 => cases e
        have lp : σ[0]? = some (σ.getD 0 none) := by rw [List.getD_eq_getElem?_getD, List.getElem?_eq_getElem (by omega)]; rfl
        unfold gName tFor
        dsimp only
        refine ⟨_, _, reA (σ.set 1 (some (.ref p))) H1 (by simpa using hlen) (by rw [List.getElem?_set_ne (by omega)]) (fun a o e _ => e) (fun a e => e), ?_⟩
        have ei : DL.iEnum fa (noE (.tuple [.int n, .tuple ts])) = .ok (enumD 0 ts) := by
          unfold DL.iEnum
          rw [qa _ n ts rfl]
          rfl
        rw [ei]
        intro J H2 s2 itd
        refine ⟨fun i m σ' H' => ∃ dss, σ'.length = 7 ∧ σ'[0]? = σ[0]? ∧ σ'[1]? = some (some (.ref p)) ∧ i ≤ ts.length ∧ m = ts.length - i ∧ (∀ a o, H2 a = some o → a ∉ ps → H' a = some o) ∧ (∀ a, H' a = none → H2 a = none) ∧ NL (On O0 p ps) H' p ps dss ∧ (∀ k : Nat, (dss.getD k []).length ≤ 2 * i) ∧ tieL i (ts.drop i) dss = some dsR,
          ⟨ts.length, List.replicate (n.toNat + 1) [], by simpa using hlen, by rw [List.getElem?_set_ne (by omega)], by rw [List.getElem?_set_self (by omega)], Nat.zero_le _, rfl, fun a o e _ => e, fun a e => e, nl.same s2, fun k => ?_, eT⟩, ?_⟩
        · rw [List.getD_eq_getElem?_getD, List.getElem?_replicate]
          split <;> simp
        rintro i m σ' H' ⟨dss, hl', h0', h1', hi', rfl, k1, k2, nl', hz, hT⟩
        have hOn : ∀ a, On O0 p ps a → H' a ≠ none := fun a z q => dm1 a z (s2.free (k2 a q))
        obtain ⟨hstop, hgo⟩ := itd H' (On O0 p ps) (fun a o e na => ⟨k1 a o e fun z => na (.inr (.inr z)), na⟩) hOn
        rw [enumD_len] at hstop
        by_cases hlt : i < ts.length
        · have hd : (enumD 0 ts)[i]? = some (.tuple [.int ((i : Nat) : Int), ts[i]]) := by
            rw [enumD_at, List.getElem?_eq_getElem hlt]
            simp
          obtain ⟨g1, g2⟩ := hgo i _ hd
          rw [List.drop_eq_getElem_cons hlt] at hT
          unfold tieL at hT
          cases e1 : tieOne dss i ts[i] with
          | none => rw [e1] at hT; cases hT
          | some d2 =>
            rw [e1] at hT
            obtain ⟨a, b, mm, et, ha, hb, rfl⟩ := tieOne_shape e1
            refine .inr ⟨g1, fun σ3 H3 => ∃ dss, σ3.length = 7 ∧ σ3[0]? = σ[0]? ∧ σ3[1]? = some (some (.ref p)) ∧ (∀ a o, H2 a = some o → a ∉ ps → H3 a = some o) ∧ (∀ a, H3 a = none → H2 a = none) ∧ NL (On O0 p ps) H3 p ps dss ∧ (∀ k : Nat, (dss.getD k []).length ≤ 2 * (i + 1)) ∧ tieL (i + 1) (ts.drop (i + 1)) dss = some dsR, ?_, fun x H3 y => ?_⟩
            · rintro σ3 H3 ⟨dss3, q1', q2', q3', q4', q5', q6', q7', q8'⟩
              exact ⟨ts.length - (i + 1), by omega, dss3, q1', q2', q3', hlt, rfl, q4', q5', q6', q7', q8'⟩
            · obtain ⟨s3, rx⟩ := g2 x H3 y
              rw [et] at rx
              refine ⟨_, _, _, rx, rfl, fun l yl => ?_⟩
              have re3 : RE (On O0 p ps) (noE (.tuple [.int n, .tuple ts])) σ' H3 := by
                refine reA σ' H3 hl' h0' (fun a o e na => s3 _ _ (k1 a o (s2 _ _ e) fun z => na (.inr (.inr z)))) fun a e => s2.free (k2 a (s3.free e))
              have yl' : Lay (On O0 p ps) H3 l [(2, .int (i : Nat)), (3, .int (a : Nat)), (4, .int (b : Nat)), (5, .int mm)] := yl
              have reP : RE (On O0 p ps) [.va (.tuple [.int n, .tuple ts]), .no, .va (.int (i : Nat)), .va (.int (a : Nat)), .va (.int (b : Nat)), .va (.int mm), .no] (putV σ' l) H3 := RE.put _ _ _ _ re3 re3.len yl'
              have noO : ∀ (i' : Nat) (t : Sl) (v : Option (Option V)) (p : Addr), ([.va (.tuple [.int n, .tuple ts]), .no, .va (.int (i : Nat)), .va (.int (a : Nat)), .va (.int (b : Nat)), .va (.int mm), .no] : En)[i']? = some t → ¬ t.own v p := fun i' t v p e w => by
                have := List.mem_of_getElem? e
                simp at this
                rcases this with rfl | rfl | rfl | rfl | rfl | rfl | rfl <;> exact w
              obtain ⟨v3, w3, r3⟩ := reP.at_ 3 _ rfl
              obtain ⟨v4, w4, r4⟩ := reP.at_ 4 _ rfl
              cases r3
              cases r4
              have hput : (putV σ' l)[1]? = some (some (.ref p)) ∧ (putV σ' l)[0]? = σ[0]? ∧ (putV σ' l).length = 7 := by
                match l, yl' with
                | _, .cons _ (.cons _ (.cons _ (.cons _ .nil))) =>
                  refine ⟨?_, ?_, ?_⟩
                  · rw [putV_at (by simp)]; exact h1'
                  · rw [putV_at (by simp)]; exact h0'
                  · rw [putV_len]; exact hl'
              obtain ⟨x1, x0, xl⟩ := hput
              revert reP x1 x0 xl w3 w4
              generalize putV σ' l = σ4
              intro reP w3 w4 x1 x0 xl
              have hzz : ∀ k : Nat, (dss.getD k []).length ≤ 10000 := fun k => by
                have := hz k
                omega
              refine nest_do reP (nl'.same s3) x1 w3 ha (hzz a) (q1 _ i a b mm) noO fun H5 j1 j2 re5 nl5 => ?_
              have hz5 : ∀ k : Nat, ((dss.set a (dss.getD a [] ++ [tieD i 1 b mm])).getD k []).length ≤ 10000 := fun k => by
                have := hz k
                have := hz a
                by_cases hk : a = k
                · subst hk
                  rw [List.getD_eq_getElem?_getD, List.getElem?_set_self ha]
                  simp at this ⊢
                  omega
                · rw [List.getD_eq_getElem?_getD, List.getElem?_set_ne hk, ← List.getD_eq_getElem?_getD]
                  omega
              refine nest_do re5 nl5 x1 w4 (by simpa using hb) (hz5 b) (q2 _ i a b mm) noO fun H6 j3 j4 re6 nl6 => ?_
              refine ⟨_, xl, x0, x1, fun a' o e na => j3 _ _ (j1 _ _ (s3 _ _ (k1 a' o e na)) na) na, fun a' e => k2 a' (s3.free (j2 _ (j4 _ e))), nl6, ?_, hT⟩
              exact fun k => tie2_most hz k
        · have e : i = ts.length := by omega
          subst e
          rw [List.drop_length] at hT
          cases hT
          refine .inl ⟨hstop, .ref p, h1', h _ _ (fun a o e => ?_) (nl'.rp (O0 := O0) (fun a z => .inl z) (fun z => hpO p z rfl) (fun q hq z => hpsO q z hq))⟩
          have ea := s2 _ _ (s1' _ _ (rs.same _ _ e))
          refine k1 a o ea fun z => ?_
          have := rs.same _ _ e
          rw [nps a z] at this
          cases this
    · exact h.elim
  · exact h.elim
end
end DL

namespace DL
open PySem PySem.Spec L2 PyProof.Rows
/-! ## sorted -/
def srtI (ns : List Int) : List Int := ns.mergeSort fun a b => decide (a ≤ b)
theorem srtI_perm (ns : List Int) : (srtI ns).Perm ns := List.mergeSort_perm _ _
theorem srtI_pw (ns : List Int) : (srtI ns).Pairwise (· ≤ ·) := by
  have := List.pairwise_mergeSort (le := fun a b : Int => decide (a ≤ b)) (fun a b c h1 h2 => by simp at h1 h2 ⊢; omega) (fun a b => by simp; omega) ns
  exact this.imp fun h => by simpa using h
theorem srtI_uniq {ns ms : List Int} (h1 : ms.Perm ns) (h2 : ms.Pairwise (· ≤ ·)) : ms = srtI ns :=
  List.Perm.eq_of_pairwise (le := fun a b : Int => a ≤ b) (fun a b _ _ x y => by omega) h2 (srtI_pw ns) (h1.trans (srtI_perm ns).symm)
/-- pairs by their order -/
def leP (a b : Int × Int) : Bool := decide (a.1 < b.1) || (decide (a.1 = b.1) && decide (a.2 ≤ b.2))
def srtP (ns : List (Int × Int)) : List (Int × Int) := ns.mergeSort leP
theorem leP_iff {a b : Int × Int} : leP a b = true ↔ a.1 < b.1 ∨ (a.1 = b.1 ∧ a.2 ≤ b.2) := by
  unfold leP
  simp
theorem srtP_perm (ns : List (Int × Int)) : (srtP ns).Perm ns := List.mergeSort_perm _ _
theorem srtP_pw (ns : List (Int × Int)) : (srtP ns).Pairwise fun a b => leP a b = true :=
  List.pairwise_mergeSort (fun a b c h1 h2 => by rw [leP_iff] at h1 h2 ⊢; omega) (fun a b => by rw [Bool.or_eq_true, leP_iff, leP_iff]; omega) ns
theorem srtP_uniq {ns ms : List (Int × Int)} (h1 : ms.Perm ns) (h2 : ms.Pairwise fun a b => leP a b = true) : ms = srtP ns :=
  List.Perm.eq_of_pairwise (le := fun a b => leP a b = true) (fun a b _ _ x y => by
    rw [leP_iff] at x y
    have h1 : a.1 = b.1 := by omega
    have h2 : a.2 = b.2 := by omega
    exact Prod.ext h1 h2) h2 (srtP_pw ns) (h1.trans (srtP_perm ns).symm)
def pairD (p : Int × Int) : PyData := .tuple [.int p.1, .int p.2]
def pairsOf : List PyData → Option (List (Int × Int))
  | [] => some []
  | .tuple [.int a, .int b] :: r => (pairsOf r).map ((a, b) :: ·)
  | _ => none
theorem pairsOf_ok : ∀ {ds : List PyData} {ps : List (Int × Int)}, pairsOf ds = some ps → ds = ps.map pairD
  | [], ps, h => by cases h; rfl
  | d :: r, ps, h => by
    unfold pairsOf at h
    split at h
    · rename_i e; cases e
    · rename_i a b r2 e
      injection e with e1 e2
      subst e1 e2
      cases e2 : pairsOf r with
      | none => rw [e2] at h; cases h
      | some m =>
        rw [e2] at h
        cases h
        rw [pairsOf_ok e2]; rfl
    · cases h
@[simp] theorem pairsOf_map : ∀ (ps : List (Int × Int)), pairsOf (ps.map pairD) = some ps
  | [] => rfl
  | (a, b) :: r => by
    show (pairsOf (r.map pairD)).map ((a, b) :: ·) = _
    rw [pairsOf_map r]; rfl
def keysOf : List (PyData × PyData) → Option (List Int)
  | [] => some []
  | (.int i, _) :: r => (keysOf r).map (i :: ·)
  | _ => none
def dSorted : PyData → Re PyData
  | .list ds => match intsOf ds with
    | some ns => .ok (.list ((srtI ns).map .int))
    | none => match pairsOf ds with
      | some ps => .ok (.list ((srtP ps).map pairD))
      | none => .st
  | .dict es => match keysOf es with
    | some ks => if decide (ks.length < 64) then .ok (.list ((srtI ks).map .int)) else .st
    | none => .st
  | _ => .st
theorem keys_rp {O : Ow} {H : Hp} : ∀ {kvs : List (Key × V)} {es : List (PyData × PyData)} {ks : List Int}, RpD O H kvs es → keysOf es = some ks → kvs.map (·.1) = ks.map Sum.inl
  | _, _, ks, .nil, h => by cases h; rfl
  | _, _, ks, .cons (k := k) (kvs := kvs) (es := es) r1 r2, h => by
    cases k with
    | inr s => cases h
    | inl i =>
      have h : (keysOf es).map (i :: ·) = some ks := h
      cases e : keysOf es with
      | none => rw [e] at h; cases h
      | some m =>
        rw [e] at h
        cases h
        have := keys_rp r2 e
        rw [List.map_cons, List.map_cons, this]
section
variable {X : Cx} {W : WX} {a : Expr} {fa : En → Re PyData} {pos : Pos}
/-- the pair that a value is -/
noncomputable def prV (H : Hp) (v : V) : Int × Int := match v with
  | .ref t => match H t with
    | some (.tup [.int a, .int b]) => (a, b)
    | _ => (0, 0)
  | _ => (0, 0)
theorem pairs_rp {O : Ow} {H : Hp} : ∀ {vs : List V} {ps : List (Int × Int)}, RpL O H vs (ps.map pairD) → (∀ x ∈ vs, ∃ t, x = .ref t ∧ H t = some (.tup [.int (prV H x).1, .int (prV H x).2]) ∧ ¬ O t) ∧ vs.map (prV H) = ps
  | _, [], h => by cases h; exact ⟨fun x hx => (by cases hx), rfl⟩
  | _, (a, b) :: ps, h => by
    cases h with
    | cons r1 r2 =>
      obtain ⟨q1, q2⟩ := pairs_rp r2
      rename_i v0 vs0
      have r1' : Rp O H v0 (.tuple [.int a, .int b]) := r1
      obtain ⟨t, xs, ev, e, nt, rl⟩ := r1'.i_tup
      subst ev
      cases rl with
      | cons x1 rl =>
        cases x1
        cases rl with
        | cons x2 rl =>
          cases x2
          cases rl
          have hp : prV H (.ref t) = (a, b) := by
            show (match H t with | some (.tup [.int a, .int b]) => (a, b) | _ => (0, 0)) = _
            rw [e]
          refine ⟨fun x hx => ?_, by rw [List.map_cons, hp, q2]⟩
          rcases List.mem_cons.mp hx with z | z
          · rw [z, hp]; exact ⟨t, rfl, e, nt⟩
          · exact q1 x z
theorem de_sorted {p : Pos} (hc : X.calm = true) (hm : X.mg "sorted" = none) (ha : PE X a (tD W fa)) (hg : Gl X "sorted" := by rfl) (hs : starEach [a] X.env = (false, eval a X.env) :: starEach [] X.env := by rfl) (hv : bootBuiltins "sorted" = some (.builtin "sorted") := by decide +kernel) :
    PE X (.Call (.Name "sorted" p) [a] [] pos) (tD W (e1 dSorted fa)) :=
  pe_imp (pe_callB ((cr_sortedI.or cr_sortedPO).or (call_sortedDI hc)) hg hm hv (pa_cons ha pa_nil hs) (he := hs)) fun σ H Q ⟨ρ, O, re, h⟩ => goD re h fun d x H1 re1 _ rx h1 => by
    unfold dSorted at h1
    cases d with
    | list ds =>
      obtain ⟨a, xs, rfl, ea, na, q⟩ := rx.i_lst
      dsimp only at h1
      cases e1 : intsOf ds with
      | some ns =>
        rw [e1] at h1
        rw [intsOf_ok e1] at q
        have e := q.ints
        subst e
        refine .inl (.inl ⟨a, ns, rfl, SqL.of ea, fun ms p' g1 g2 hp => ?_⟩)
        rw [srtI_uniq g1 g2]
        exact h1.newL re1 hp (RpL.ofInts _)
      | none =>
        rw [e1] at h1
        dsimp only at h1
        cases e2 : pairsOf ds with
        | none => rw [e2] at h1; exact h1.elim
        | some ps =>
          rw [e2] at h1
          rw [pairsOf_ok e2] at q
          obtain ⟨q1, q2⟩ := pairs_rp q
          refine .inl (.inr ⟨a, xs, prV H1, rfl, SqL.of ea, fun x hx => ?_, fun ys p' hs1 hs2 hp => ?_⟩)
          · obtain ⟨t, e, f, _⟩ := q1 x hx
            exact ⟨t, e, f⟩
          · have hperm : (ys.map (prV H1)).Perm ps := by
              rw [← q2]
              exact hs2.perm.map _
            have hpw : (ys.map (prV H1)).Pairwise fun a b => leP a b = true := List.pairwise_map.mpr (hs1.imp fun {x y} hh => by
              have := SrtO.lexB_no.mp hh
              rw [leP_iff]
              omega)
            have e := srtP_uniq hperm hpw
            have hall : ∀ zs : List V, (∀ z ∈ zs, z ∈ xs) → RpL O H1 zs ((zs.map (prV H1)).map pairD) := by
              intro zs
              induction zs with
              | nil => intro _; exact .nil
              | cons z zs ih =>
                intro hz
                obtain ⟨t, e, f, nt⟩ := q1 z (hz z List.mem_cons_self)
                refine .cons ?_ (ih fun y hy => hz y (List.mem_cons_of_mem _ hy))
                subst e
                exact .tup f nt (.cons (.int _) (.cons (.int _) .nil))
            have hr := hall ys fun z hz => hs2.perm.mem_iff.mp hz
            rw [e] at hr
            exact h1.newL re1 hp hr
    | dict es =>
      dsimp only at h1
      cases e1 : keysOf es with
      | none => rw [e1] at h1; exact h1.elim
      | some ks =>
        rw [e1] at h1
        dsimp only at h1
        split at h1
        · rename_i hl
          rcases Lk.i_dct (.inl rx) with ⟨a, kvs, rfl, ea, q⟩ | ⟨a, o, ns, rfl, ea, q⟩
          · refine .inr ⟨a, kvs, ks, rfl, .inl ea, keys_rp q e1, of_decide_eq_true hl, fun ms p' g1 g2 hp => ?_⟩
            rw [srtI_uniq g1 g2]
            exact h1.newL re1 hp (RpL.ofInts _)
          · exfalso
            cases q
            cases e1
        · exact h1.elim
    | _ => exact h1.elim
end
end DL

namespace DL
open PySem PySem.Spec L2 PyProof.Rows
/-! ## d.get(k, x), xs.count(k) -/
def dGet (d k x : PyData) : Re PyData := match d with
  | .dict es => match scrOf es with
    | some _ => .st
    | none => if isKey k then .ok ((lookD es k).getD x) else .st
  | _ => .st
def isDd : PyData → Bool
  | .dict es => (scrOf es).isNone
  | _ => false
def eGet (fa fb fc : En → Re PyData) : En → Re PyData := fun ρ => (fa ρ).bind fun d => if isDd d then (fb ρ).bind fun k => (fc ρ).bind fun x => dGet d k x else .st
def dCount (d k : PyData) : Re PyData := match d, k with
  | .list ds, .int i => match intsOf ds with
    | some ns => .ok (.int (ns.count i : Nat))
    | none => .st
  | _, _ => .st
def isLst : PyData → Bool
  | .list _ => true
  | _ => false
def eCount (fa fb : En → Re PyData) : En → Re PyData := fun ρ => (fa ρ).bind fun d => if isLst d then (fb ρ).bind (dCount d) else .st
section
variable {X : Cx} {W : WX} {a b c : Expr} {fa fb fc : En → Re PyData} {pos apos : Pos}
theorem de_get (hu : X.A.units + 1 < cLine) (ha : PE X a (tD W fa)) (hb : PE X b (tD W fb)) (hc : PE X c (tD W fc)) (m : M2 X a "get" apos b c pos := by exact ⟨rfl, rfl, rfl, rfl⟩) : PE X (.Call (.Attribute a "get" apos) [b, c] [] pos) (tD W (eGet fa fb fc)) :=
  pe_imp (pe_dget2 hu ha hb hc m) fun σ H Q ⟨ρ, O, re, h⟩ => by
    have h : tR W O ((fa ρ).bind fun d => if isDd d then (fb ρ).bind fun k => (fc ρ).bind fun x => dGet d k x else .st) σ H Q := h
    refine goD re h fun d x H1 re1 _ rx h1 => ?_
    split at h1
    · rename_i hdd
      cases d with
      | dict es =>
       have hn : scrOf es = none := Option.isNone_iff_eq_none.mp hdd
       rcases Lk.i_dct (.inl rx) with ⟨p, kvs, rfl, ea, q⟩ | ⟨p, o, ns, rfl, ea, q⟩
       · refine ⟨p, rfl, .inl ⟨kvs, .inl ea⟩, goD re1 h1 fun k y H2 re2 s2 ry h2 => goD re2 h2 fun z w H3 re3 s3 rz h3 => ?_⟩
         unfold dGet at h3
         simp only [hn] at h3
         split at h3
         · rename_i hk
           obtain ⟨j, rfl⟩ := key_of hk
           cases rp_key ry
           have ea3 := s3 _ _ (s2 _ _ ea)
           have q3 := q.kp (.same (s2.trans s3))
           refine ⟨valV kvs j, .inl ⟨kvs, j, .inl ea3, rfl, rfl⟩, ?_⟩
           rcases q3.look j with ⟨v, d', e1, e2, r⟩ | ⟨e1, e2⟩
           · rw [e1]
             rw [e2] at h3
             exact h3.here r
           · rw [e1]
             rw [e2] at h3
             exact h3.here rz
         · exact h3.elim
       · cases q; cases hn
      | _ => cases hdd
    · exact h1.elim
theorem de_count (ha : PE X a (tL W fa)) (hb : PE X b (tD W fb)) (hbase : attributeBase a "count" X.env (eval a X.env) = eval a X.env := by rfl)
    (hfew : ((backTo pos (starEach [b] X.env)).all (fun x => !x.1) && (backToKw pos (keywordEach [] X.env)).all (fun x => x.1.isSome) && decide (([b] : List Expr).length + ([] : List Keyword).length + (if ([] : List Keyword).isEmpty then 0 else 1) < 30)) = true := by rfl)
    (hline : (apos.endLine == pos.line) = true := by rfl) (hs : starEach [b] X.env = (false, eval b X.env) :: starEach [] X.env := by rfl) (hplain : (backTo pos (starEach [] X.env)).any (·.1) = false := by rfl) :
    PE X (.Call (.Attribute a "count" apos) [b] [] pos) (tD W (eCount fa fb)) :=
  pe_imp (pe_bm PySem.F.plainAttrs_list PySem.F.slot_list_count PySem.F.type_list_count mt_lcount ha (pa_cons hb pa_nil hs) hbase hfew hline hs hplain) fun σ H Q ⟨ρ, O, re, h⟩ => goL re h fun d x H1 re1 _ rx h1 => by
    cases d with
    | list ds =>
      obtain ⟨p, xs, rfl, ea, q⟩ := rx.i_lst
      have h1 : tR W O ((fb ρ).bind (dCount (.list ds))) σ H1 Q := h1
      refine ⟨.inl ⟨rfl, xs, SqL.of ea⟩, goD re1 h1 fun k y H2 re2 s2 ry h2 => ?_⟩
      cases k with
      | int i =>
        cases ry.i_int
        have h2 : tR W O (match intsOf ds with
          | some ns => .ok (.int (ns.count i : Nat))
          | none => .st) σ H2 Q := h2
        split at h2
        · rename_i ns hn
          rw [intsOf_ok hn] at q
          have e := q.ints
          subst e
          exact ⟨p, ns, i, rfl, rfl, SqL.of (s2 _ _ ea), h2.here (.int _)⟩
        · exact h2.elim
      | _ => exact h2.elim
    | _ => exact h1.elim
end
end DL

namespace DL
open PySem PySem.Spec L2 PyProof.Rows
/-! ## xs + ys, a new list that is written from now on -/
def dCat (d e : PyData) : Re PyData := match d, e with
  | .list xs, .list ys => if fits (xs.length + ys.length) then .ok (.list (xs ++ ys)) else .st
  | _, _ => .st
section
variable {X : Cx} {W : WX} {a b : Expr} {fa fb : En → Re PyData} {pos : Pos}
theorem onlyLD_cat : onlyLD (e2 dCat fa fb) := fun ρ d h => by
  unfold e2 at h
  cases e : fa ρ with
  | ex c p => rw [e] at h; cases h
  | st => rw [e] at h; cases h
  | ok x =>
    rw [e] at h
    cases e2 : fb ρ with
    | ex c p => rw [Re.bind_ok, e2] at h; cases h
    | st => rw [Re.bind_ok, e2] at h; cases h
    | ok y =>
      rw [Re.bind_ok, e2, Re.bind_ok] at h
      unfold dCat at h
      split at h
      · split at h
        · cases h; exact .inl ⟨_, rfl⟩
        · cases h
      · cases h
theorem df_cat (ha : PE X a (tD W fa)) (hb : PE X b (tD W fb)) : PE X (.BinOp a .Add b pos) (tF W (e2 dCat fa fb)) :=
  pe_imp (pe_op op_cat ha hb) fun σ H Q ⟨ρ, O, re, h⟩ => goDF re h fun d x H1 re1 s1 rx h1 => by
    refine ⟨ρ, O, re1, ?_⟩
    cases e : fb ρ with
    | ex c p => rw [e] at h1; exact fun H2 s2 => h1 H2 (s1.trans s2)
    | st => rw [e] at h1; exact h1
    | ok k =>
      rw [e] at h1
      intro y H2 s2 ry
      have h1 : tRF W O (dCat d k) σ H Q := h1
      unfold dCat at h1
      split at h1
      · split at h1
        · rename_i hf
          obtain ⟨a, xs, rfl, ea, na, ra⟩ := (rx.kp (.same s2)).i_lst
          obtain ⟨b, ys, rfl, eb, nb, rb⟩ := ry.i_lst
          refine ⟨a, b, xs, ys, rfl, rfl, ea, eb, ?_, fun p hp => h1.newL (s1.trans s2) hp (ra.app rb)⟩
          rw [ra.len, rb.len]; exact fits_line hf
        · exact h1.elim
      · exact h1.elim
end
end DL

namespace DL
open PySem PySem.Spec L2 PyProof.Rows
section
variable {X : Cx} {W : WX} {pos : Pos}
/-! ## x.insert(0, e), y = x.pop(0) -/
def sIns0 (i : Nat) (fe : En → Re PyData) : En → SR := fun ρ => match ρ[i]? with
  | some (.ow (.list ds)) => SR.of (fe ρ) ρ fun d => if fits (ds.length + 1) then .nx (ρ.set i (.ow (.list (d :: ds)))) else .st
  | _ => .st
theorem ds_insert0 (i : Nat) {x : Str} {e : Expr} {fe : En → Re PyData} {k0 : Nat} {p0 p1 p2 p3 : Pos} (he : PE X e (tD W fe)) (hN : X.N[i]? = some x := by rfl) (hv : Vis X.env.scope x := by first | exact Or.inl rfl | exact Or.inr (Or.inl rfl) | exact Or.inr (Or.inr rfl)) (hd : (x == ("__debug__" : Str)) = false := by decide) (hcd : (x == ("__classdict__" : Str)) = false := by decide)
    (hbase : attributeBase (.Name x p1) "insert" X.env (eval (.Name x p1) X.env) = eval (.Name x p1) X.env := by rfl)
    (hfew : ((backTo p3 (starEach [.Constant (.int 0) k0 p0, e] X.env)).all (fun x => !x.1) && (backToKw p3 (keywordEach [] X.env)).all (fun x => x.1.isSome) && decide (([.Constant (.int 0) k0 p0, e] : List Expr).length + ([] : List Keyword).length + (if ([] : List Keyword).isEmpty then 0 else 1) < 30)) = true := by rfl)
    (hline : (p2.endLine == p3.line) = true := by rfl) (hs : starEach [.Constant (.int 0) k0 p0, e] X.env = (false, eval (.Constant (.int 0) k0 p0) X.env) :: starEach [e] X.env := by rfl) (hs2 : starEach [e] X.env = (false, eval e X.env) :: starEach [] X.env := by rfl) (hplain : (backTo p3 (starEach [e] X.env)).any (·.1) = false := by rfl) (hsw : swapsWith (.Call (.Attribute (.Name x p1) "insert" p2) [.Constant (.int 0) k0 p0, e] [] p3) none pos.line X.env = pure false := by rfl) :
    PS X (.Expr (.Call (.Attribute (.Name x p1) "insert" p2) [.Constant (.int 0) k0 p0, e] [] p3) pos) (sD W (sIns0 i fe)) :=
  ps_imp (ps_expr (pe_bm PySem.F.plainAttrs_list PySem.F.slot_list_insert PySem.F.type_list_insert mt_insert (pe_var hN hv hd hcd) (pa_cons pe_int (pa_cons he pa_nil hs2) hs) hbase hfew hline hs hplain) hsw) fun D σ H ⟨ρ, H0, O0, rs, h⟩ => by
    unfold sIns0 at h
    split at h
    · rename_i ds ei
      obtain ⟨p, ep, op, xs, e1, r1⟩ := rs.re.at_ i _ ei
      refine ⟨.ref p, ep, .inl ⟨rfl, xs, SqL.of e1⟩, goS rs h fun d v H1 rs1 rv h1 => ?_⟩
      split at h1
      · rename_i hf
        obtain ⟨p', ep', op', xs', e1', r1'⟩ := rs1.re.at_ i _ ei
        rw [ep] at ep'; cases ep'
        refine ⟨p, xs', 0, v, rfl, rfl, e1', ?_, by omega, by omega, h1 _ _ (rs1.store ei ep ⟨v :: xs', upd_same, ?_⟩)⟩
        · have := fits_line hf
          have := r1'.len
          omega
        · exact (RpL.cons rv r1').kp (.own op)
      · exact h1.elim
    · exact h.elim
def sPop0 (i j : Nat) : En → SR := fun ρ => match ρ[j]? with
  | some (.ow (.list (d :: ds))) => .nx ((ρ.set j (.ow (.list ds))).set i (.va d))
  | _ => .st
theorem ds_pop0 (i j : Nat) {x y : Str} {k0 : Nat} {p0 p1 p2 p3 py : Pos} (hNd : X.N.Nodup) (hN : X.N[j]? = some x := by rfl) (hv : Vis X.env.scope x := by first | exact Or.inl rfl | exact Or.inr (Or.inl rfl) | exact Or.inr (Or.inr rfl)) (hd : (x == ("__debug__" : Str)) = false := by decide) (hcd : (x == ("__classdict__" : Str)) = false := by decide)
    (hbase : attributeBase (.Name x p1) "pop" X.env (eval (.Name x p1) X.env) = eval (.Name x p1) X.env := by rfl)
    (hfew : ((backTo p3 (starEach [.Constant (.int 0) k0 p0] X.env)).all (fun x => !x.1) && (backToKw p3 (keywordEach [] X.env)).all (fun x => x.1.isSome) && decide (([.Constant (.int 0) k0 p0] : List Expr).length + ([] : List Keyword).length + (if ([] : List Keyword).isEmpty then 0 else 1) < 30)) = true := by rfl)
    (hline : (p2.endLine == p3.line) = true := by rfl) (hs : starEach [.Constant (.int 0) k0 p0] X.env = (false, eval (.Constant (.int 0) k0 p0) X.env) :: starEach [] X.env := by rfl) (hplain : (backTo p3 (starEach [] X.env)).any (·.1) = false := by rfl)
    (hi : X.N[i]? = some y := by rfl) (hx : Loc X.env.scope y := by first | exact Or.inl rfl | exact Or.inr rfl) (hsw : swapsWith (.Call (.Attribute (.Name x p1) "pop" p2) [.Constant (.int 0) k0 p0] [] p3) (some (.Name y py)) pos.line X.env = pure false := by rfl)
    (hf : X.fn y = true ∨ X.env.scope.names.lookup y = some .local := by first | exact .inl rfl | exact .inr rfl | assumption) :
    PS X (.Assign [.Name y py] (.Call (.Attribute (.Name x p1) "pop" p2) [.Constant (.int 0) k0 p0] [] p3) pos) (sD W (sPop0 i j)) :=
  ps_imp (ps_set hNd hi hx (pe_bm PySem.F.plainAttrs_list PySem.F.slot_list_pop PySem.F.type_list_pop mt_popAt (pe_var hN hv hd hcd) (pa_cons pe_int pa_nil hs) hbase hfew hline hs hplain) hsw hf) fun D σ H ⟨ρ, H0, O0, rs, h⟩ => by
    unfold sPop0 at h
    split at h
    · rename_i d ds ei
      obtain ⟨p, ep, op, xs, e1, r1⟩ := rs.re.at_ j _ ei
      cases r1 with
      | cons rv rr =>
        rename_i v vs
        refine ⟨.ref p, ep, .inl ⟨rfl, _, SqL.of e1⟩, p, _, 0, 0, v, rfl, rfl, e1, by omega, by omega, by unfold seqIndex?; simp, rfl, ?_⟩
        have rs2 := rs.store ei ep (o := .lst vs) (d' := .list ds) ⟨vs, upd_same, rr.kp (.own op)⟩
        have hO : ∀ a, Oa O0 (ρ.set j (.ow (.list ds))) σ a → Oa O0 ρ σ a := fun a ha => by
          rcases ha with ha | ⟨k, dd, ek, es⟩
          · exact .inl ha
          · rcases set_at ek with ⟨rfl, rfl, _⟩ | ⟨hk, ek⟩
            · exact .inr ⟨k, _, ei, es⟩
            · exact .inr ⟨k, dd, ek, es⟩
        have rv2 : Rp (Oa O0 (ρ.set j (.ow (.list ds))) σ) (upd H p (.lst vs)) v d := rv.kp fun a o e n => ⟨by
          rw [upd_ne (fun z => n (by rw [z]; exact op))]
          exact e, fun z => n (hO a z)⟩
        exact h _ _ (rs2.setV rv2)
    · exact h.elim
/-! ## max(xs), min(xs) of a list or tuple of ints -/
def maxI : List Int → Int
  | [] => 0
  | [x] => x
  | x :: y :: r => max x (maxI (y :: r))
def minI : List Int → Int
  | [] => 0
  | [x] => x
  | x :: y :: r => min x (minI (y :: r))
theorem maxI_ok : ∀ (ns : List Int), ns ≠ [] → maxI ns ∈ ns ∧ ∀ y ∈ ns, y ≤ maxI ns
  | [], h => absurd rfl h
  | [x], _ => by simp [maxI]
  | x :: y :: r, _ => by
    obtain ⟨h1, h2⟩ := maxI_ok (y :: r) (by simp)
    show max x (maxI (y :: r)) ∈ _ ∧ ∀ z ∈ _, z ≤ max x (maxI (y :: r))
    generalize maxI (y :: r) = m at *
    refine ⟨?_, fun z hz => ?_⟩
    · rcases Int.le_total x m with q | q
      · rw [Int.max_eq_right q]; exact List.mem_cons_of_mem _ h1
      · rw [Int.max_eq_left q]; exact List.mem_cons_self
    · rcases List.mem_cons.1 hz with rfl | hz
      · omega
      · have := h2 z hz
        omega
theorem minI_ok : ∀ (ns : List Int), ns ≠ [] → minI ns ∈ ns ∧ ∀ y ∈ ns, minI ns ≤ y
  | [], h => absurd rfl h
  | [x], _ => by simp [minI]
  | x :: y :: r, _ => by
    obtain ⟨h1, h2⟩ := minI_ok (y :: r) (by simp)
    show min x (minI (y :: r)) ∈ _ ∧ ∀ z ∈ _, min x (minI (y :: r)) ≤ z
    generalize minI (y :: r) = m at *
    refine ⟨?_, fun z hz => ?_⟩
    · rcases Int.le_total x m with q | q
      · rw [Int.min_eq_left q]; exact List.mem_cons_self
      · rw [Int.min_eq_right q]; exact List.mem_cons_of_mem _ h1
    · rcases List.mem_cons.1 hz with rfl | hz
      · omega
      · have := h2 z hz
        omega
def gMaxL : List PyData → Re PyData
  | [.list ds] => match intsOf ds with
    | some (n :: ns) => .ok (.int (maxI (n :: ns)))
    | _ => .st
  | _ => .st
def gMinL : List PyData → Re PyData
  | [.list ds] => match intsOf ds with
    | some (n :: ns) => .ok (.int (minI (n :: ns)))
    | _ => .st
  | _ => .st
theorem n_maxL : OpN W gMaxL (rMax X.K) := by
  intro σ O ρ H xs ds Q re r h
  match ds, h with
  | [.list es], h =>
    cases r with
    | cons r1 r2 =>
      cases r2
      obtain ⟨a, vs, rfl, ea, _, q⟩ := r1.i_lst
      have h : tR W O (match intsOf es with
        | some (n :: ns) => .ok (.int (maxI (n :: ns)))
        | _ => .st) σ H Q := h
      split at h
      · rename_i n ns hn
        rw [intsOf_ok hn] at q
        rw [q.ints] at ea
        refine ⟨a, n :: ns, rfl, SqL.of ea, by simp, fun m hm hy => ?_⟩
        obtain ⟨k1, k2⟩ := maxI_ok (n :: ns) (by simp)
        have : m = maxI (n :: ns) := by
          have := hy _ k1
          have := k2 m hm
          omega
        rw [this]
        exact h.here (.int _)
      · exact h.elim
  | [], h => exact h.elim
  | [.none], h => exact h.elim
  | [.bool _], h => exact h.elim
  | [.int _], h => exact h.elim
  | [.str _], h => exact h.elim
  | [.tuple _], h => exact h.elim
  | [.dict _], h => exact h.elim
  | _ :: _ :: _, h => exact absurd h (by unfold gMaxL; split <;> first | exact id | (rename_i e; cases e))
theorem n_minL : OpN W gMinL (rMin X.K) := by
  intro σ O ρ H xs ds Q re r h
  match ds, h with
  | [.list es], h =>
    cases r with
    | cons r1 r2 =>
      cases r2
      obtain ⟨a, vs, rfl, ea, _, q⟩ := r1.i_lst
      have h : tR W O (match intsOf es with
        | some (n :: ns) => .ok (.int (minI (n :: ns)))
        | _ => .st) σ H Q := h
      split at h
      · rename_i n ns hn
        rw [intsOf_ok hn] at q
        rw [q.ints] at ea
        refine ⟨a, n :: ns, rfl, SqL.of ea, by simp, fun m hm hy => ?_⟩
        obtain ⟨k1, k2⟩ := minI_ok (n :: ns) (by simp)
        have : m = minI (n :: ns) := by
          have := hy _ k1
          have := k2 m hm
          omega
        rw [this]
        exact h.here (.int _)
      · exact h.elim
  | [], h => exact h.elim
  | [.none], h => exact h.elim
  | [.bool _], h => exact h.elim
  | [.int _], h => exact h.elim
  | [.str _], h => exact h.elim
  | [.tuple _], h => exact h.elim
  | [.dict _], h => exact h.elim
  | _ :: _ :: _, h => exact absurd h (by unfold gMinL; split <;> first | exact id | (rename_i e; cases e))
variable {a : Expr}
theorem de_maxL {p : Pos} {fs : En → Re (List PyData)} (hc : X.calm = true) (hm : X.mg "max" = none) (ha : PA X [a] (tA W fs)) (hg : Gl X "max" := by rfl) (he : starEach [a] X.env = (false, eval a X.env) :: starEach [] X.env := by rfl) :
    PE X (.Call (.Name "max" p) [a] [] pos) (tD W (eCall gMaxL fs)) := de_blt (cr_max hc) n_maxL hm (by decide +kernel) ha hg (he := he)
theorem de_minL {p : Pos} {fs : En → Re (List PyData)} (hc : X.calm = true) (hm : X.mg "min" = none) (ha : PA X [a] (tA W fs)) (hg : Gl X "min" := by rfl) (he : starEach [a] X.env = (false, eval a X.env) :: starEach [] X.env := by rfl) :
    PE X (.Call (.Name "min" p) [a] [] pos) (tD W (eCall gMinL fs)) := de_blt (cr_min hc) n_minL hm (by decide +kernel) ha hg (he := he)
end
end DL

/-! # Lists of tuples of ints: sorted, sorted(set(..)), extend; >= of pairs -/
namespace DL
open PySem PySem.Spec L2 PyProof.Rows
/-! ## x.extend(list) -/
section
variable {X : Cx} {W : WX} {pos : Pos}
def sExt (i : Nat) (fe : En → Re PyData) : En → SR := fun ρ => match ρ[i]? with
  | some (.ow (.list ds)) => SR.of (fe ρ) ρ fun d => match d with
    | .list es => if fits (ds.length + es.length) then .nx (ρ.set i (.ow (.list (ds ++ es)))) else .st
    | _ => .st
  | _ => .st
theorem ds_extend (i : Nat) {x : Str} {e : Expr} {fe : En → Re PyData} {p1 p2 p3 : Pos} (he : PE X e (tD W fe)) (hN : X.N[i]? = some x := by rfl) (hv : Vis X.env.scope x := by first | exact Or.inl rfl | exact Or.inr (Or.inl rfl) | exact Or.inr (Or.inr rfl)) (hd : (x == ("__debug__" : Str)) = false := by decide) (hcd : (x == ("__classdict__" : Str)) = false := by decide)
    (hbase : attributeBase (.Name x p1) "extend" X.env (eval (.Name x p1) X.env) = eval (.Name x p1) X.env := by rfl)
    (hfew : ((backTo p3 (starEach [e] X.env)).all (fun x => !x.1) && (backToKw p3 (keywordEach [] X.env)).all (fun x => x.1.isSome) && decide (([e] : List Expr).length + ([] : List Keyword).length + (if ([] : List Keyword).isEmpty then 0 else 1) < 30)) = true := by rfl)
    (hline : (p2.endLine == p3.line) = true := by rfl) (hs : starEach [e] X.env = (false, eval e X.env) :: starEach [] X.env := by rfl) (hplain : (backTo p3 (starEach [] X.env)).any (·.1) = false := by rfl) (hsw : swapsWith (.Call (.Attribute (.Name x p1) "extend" p2) [e] [] p3) none pos.line X.env = pure false := by rfl) :
    PS X (.Expr (.Call (.Attribute (.Name x p1) "extend" p2) [e] [] p3) pos) (sD W (sExt i fe)) :=
  ps_imp (ps_expr (pe_bm PySem.F.plainAttrs_list PySem.F.slot_list_extend PySem.F.type_list_extend mt_extend (pe_var hN hv hd hcd) (pa_cons he pa_nil hs) hbase hfew hline hs hplain) hsw) fun D σ H ⟨ρ, H0, O0, rs, h⟩ => by
    unfold sExt at h
    split at h
    · rename_i ds ei
      obtain ⟨p, ep, op, xs, e1, r1⟩ := rs.re.at_ i _ ei
      refine ⟨.ref p, ep, .inl ⟨rfl, xs, SqL.of e1⟩, goS rs h fun d v H1 rs1 rv h1 => ?_⟩
      cases d with
      | list es =>
        dsimp only at h1
        split at h1
        · rename_i hf
          obtain ⟨p', ep', op', xs', e1', r1'⟩ := rs1.re.at_ i _ ei
          rw [ep] at ep'; cases ep'
          obtain ⟨b, zs, rfl, eb, nb, rz⟩ := rv.i_lst
          refine ⟨p, b, xs', zs, rfl, rfl, e1', eb, ?_, h1 _ _ (rs1.store ei ep ⟨xs' ++ zs, upd_same, ?_⟩)⟩
          · have := fits_line hf
            have := r1'.len
            have := rz.len
            omega
          · exact (r1'.app rz).kp (.own op)
        · exact h1.elim
      | _ => exact h1.elim
    · exact h.elim
end
/-! ## lists of tuples of ints -/
abbrev tI (ns : List Int) : PyData := .tuple (ns.map .int)
def tupsOf : List PyData → Option (List (List Int))
  | [] => some []
  | .tuple ds :: r => match intsOf ds with
    | some ns => (tupsOf r).map (ns :: ·)
    | none => none
  | _ => none
theorem tupsOf_ok : ∀ {ds : List PyData} {ps : List (List Int)}, tupsOf ds = some ps → ds = ps.map tI
  | [], ps, h => by cases h; rfl
  | d :: r, ps, h => by
    unfold tupsOf at h
    split at h
    · rename_i e; cases e
    · rename_i xs r2 e
      injection e with e1 e2
      subst e1 e2
      split at h
      · rename_i ns hn
        cases e2 : tupsOf r with
        | none => rw [e2] at h; cases h
        | some m =>
          rw [e2] at h
          cases h
          rw [tupsOf_ok e2, intsOf_ok hn]; rfl
      · cases h
    · cases h
theorem tupsOf_map : ∀ (ps : List (List Int)), tupsOf (ps.map tI) = some ps
  | [] => rfl
  | p :: r => by
    show (match intsOf (p.map PyData.int) with | some ns => (tupsOf (r.map tI)).map (ns :: ·) | none => none) = _
    rw [intsOf_map, tupsOf_map r]
    rfl
/-- the ints of a value that is a tuple of such -/
noncomputable def inV (H : Hp) (v : V) : List Int := match v with
  | .ref t => match H t with
    | some (.tup vs) => vs.map fun x => match x with
      | .int i => i
      | _ => 0
    | _ => []
  | _ => []
theorem tups_rp {O : Ow} {H : Hp} : ∀ {vs : List V} {ps : List (List Int)}, RpL O H vs (ps.map tI) → (∀ x ∈ vs, ∃ t, x = .ref t ∧ H t = some (.tup ((inV H x).map V.int)) ∧ ¬ O t) ∧ vs.map (inV H) = ps
  | _, [], h => by cases h; exact ⟨fun x hx => (by cases hx), rfl⟩
  | _, p :: ps, h => by
    cases h with
    | cons r1 r2 =>
      obtain ⟨q1, q2⟩ := tups_rp r2
      rename_i v0 vs0
      obtain ⟨t, xs, ev, e, nt, rl⟩ := Rp.i_tup r1
      subst ev
      have e3 := rl.ints
      subst e3
      have hp : inV H (.ref t) = p := by
        show (match H t with | some (.tup vs) => vs.map _ | _ => []) = _
        rw [e]
        dsimp only
        rw [List.map_map]
        exact List.map_id p
      refine ⟨fun x hx => ?_, by rw [List.map_cons, hp, q2]⟩
      rcases List.mem_cons.mp hx with z | z
      · rw [z, hp]; exact ⟨t, rfl, e, nt⟩
      · exact q1 x z
theorem tups_all {O : Ow} {H : Hp} {vs : List V} (q1 : ∀ x ∈ vs, ∃ t, x = .ref t ∧ H t = some (.tup ((inV H x).map V.int)) ∧ ¬ O t) : ∀ zs : List V, (∀ z ∈ zs, z ∈ vs) → RpL O H zs ((zs.map (inV H)).map tI)
  | [], _ => .nil
  | z :: zs, hz => by
    obtain ⟨t, e, f, nt⟩ := q1 z (hz z List.mem_cons_self)
    refine .cons ?_ (tups_all q1 zs fun y hy => hz y (List.mem_cons_of_mem _ hy))
    generalize inV H z = k at *
    subst e
    exact .tup f nt (RpL.ofInts _)
/-! codes -/
def cdT (B : Int) : List Int → Int := TS.code B
def okT3 (B : Int) (d : Nat) (ns : List Int) : Bool := decide (ns.length = d) && ns.all fun m => decide (0 ≤ m) && decide (m < B)
theorem okT3_iff {B : Int} {d : Nat} {ns : List Int} : okT3 B d ns = true ↔ ns.length = d ∧ TS.Bd B ns := by
  unfold okT3 TS.Bd
  rw [Bool.and_eq_true, decide_eq_true_eq, List.all_eq_true]
  simp
theorem code_bd {B : Int} (hB : 0 < B) : ∀ {ns : List Int}, TS.Bd B ns → 0 ≤ TS.code B ns ∧ TS.code B ns < B ^ ns.length
  | [], _ => by simp [TS.code]
  | d :: r, h => by
    obtain ⟨i1, i2⟩ := code_bd hB h.tail
    obtain ⟨d0, d1⟩ := h.head
    have hP : 0 < B ^ r.length := Int.pow_pos hB
    show 0 ≤ d * B ^ r.length + TS.code B r ∧ d * B ^ r.length + TS.code B r < B ^ (r.length + 1)
    rw [Int.pow_succ]
    generalize B ^ r.length = P at *
    have a1 : 0 ≤ d * P := Int.mul_nonneg d0 (by omega)
    have a2 : (d + 1) * P ≤ B * P := Int.mul_le_mul_of_nonneg_right (by omega) (by omega)
    rw [Int.add_mul, Int.one_mul] at a2
    rw [Int.mul_comm P B]
    omega
theorem code_inj {B : Int} (hB : 0 < B) : ∀ {ns ms : List Int}, ns.length = ms.length → TS.Bd B ns → TS.Bd B ms → TS.code B ns = TS.code B ms → ns = ms
  | [], [], _, _, _, _ => rfl
  | [], _ :: _, h, _, _, _ => by simp at h
  | _ :: _, [], h, _, _, _ => by simp at h
  | d :: r, e :: k, hl, h1, h2, hc => by
    have hl : r.length = k.length := by simpa using hl
    obtain ⟨i1, i2⟩ := code_bd hB h1.tail
    obtain ⟨j1, j2⟩ := code_bd hB h2.tail
    have hP : 0 < B ^ r.length := Int.pow_pos hB
    have hc : d * B ^ r.length + TS.code B r = e * B ^ k.length + TS.code B k := hc
    rw [← hl] at hc j2
    have key : TS.code B r = TS.code B k ∧ d = e := by
      generalize B ^ r.length = P at *
      generalize TS.code B r = x at *
      generalize TS.code B k = y at *
      have e1 : (d - e) * P = y - x := by rw [Int.sub_mul]; omega
      have hde : d = e := by
        rcases Int.lt_trichotomy d e with z | z | z
        · exfalso
          have : (e - d) * P ≥ 1 * P := Int.mul_le_mul_of_nonneg_right (by omega) (by omega)
          have e2 : (e - d) * P = x - y := by rw [Int.sub_mul]; rw [Int.sub_mul] at e1; omega
          omega
        · exact z
        · exfalso
          have : (d - e) * P ≥ 1 * P := Int.mul_le_mul_of_nonneg_right (by omega) (by omega)
          omega
      subst hde
      exact ⟨by omega, rfl⟩
    rw [key.2, code_inj hB hl h1.tail h2.tail key.1]
/-- by their codes -/
def leC (B : Int) (a b : List Int) : Bool := decide (TS.code B a ≤ TS.code B b)
def srtC (B : Int) (ps : List (List Int)) : List (List Int) := ps.mergeSort (leC B)
theorem srtC_perm (B : Int) (ps : List (List Int)) : (srtC B ps).Perm ps := List.mergeSort_perm _ _
theorem srtC_pw (B : Int) (ps : List (List Int)) : (srtC B ps).Pairwise fun a b => TS.code B a ≤ TS.code B b :=
  (List.pairwise_mergeSort (le := leC B) (fun a b c h1 h2 => by simp [leC] at h1 h2 ⊢; omega) (fun a b => by simp [leC]; omega) ps).imp fun h => by simpa [leC] using h
theorem srtC_uniq {B : Int} (hB : 0 < B) {d : Nat} {ps qs : List (List Int)} (hok : ∀ p ∈ ps, okT3 B d p = true) (h1 : qs.Perm ps) (h2 : qs.Pairwise fun a b => TS.code B a ≤ TS.code B b) : qs = srtC B ps :=
  List.Perm.eq_of_pairwise (le := fun a b => TS.code B a ≤ TS.code B b) (fun a b ha hb x y => by
    have a1 := okT3_iff.1 (hok a (h1.mem_iff.1 ha))
    have b1 := okT3_iff.1 (hok b ((srtC_perm B ps).mem_iff.1 hb))
    exact code_inj hB (by rw [a1.1, b1.1]) a1.2 b1.2 (by omega)) h2 (srtC_pw B ps) (h1.trans (srtC_perm B ps).symm)
section
variable {X : Cx} {W : WX} {a : Expr} {fa : En → Re PyData} {pos : Pos}
/-- sorted(xs), xs a list of fewer than 64 triples of ints from 0 up to 128 -/
def dSort3 : PyData → Re PyData
  | .list ds => match tupsOf ds with
    | some ps => if decide (ps.length < 64) && ps.all (okT3 128 3) then .ok (.list ((srtC 128 ps).map tI)) else .st
    | none => .st
  | _ => .st
theorem de_sort3 {p : Pos} (hc : X.calm = true) (hm : X.mg "sorted" = none) (ha : PE X a (tD W fa)) (hg : Gl X "sorted" := by rfl) (hs : starEach [a] X.env = (false, eval a X.env) :: starEach [] X.env := by rfl) (hv : bootBuiltins "sorted" = some (.builtin "sorted") := by decide +kernel) :
    PE X (.Call (.Name "sorted" p) [a] [] pos) (tD W (e1 dSort3 fa)) :=
  pe_imp (pe_callB (cr_sortT (X := X) (d := 3) (B := 128) (by decide)) hg hm hv (pa_cons ha pa_nil hs) (he := hs)) fun σ H Q ⟨ρ, O, re, h⟩ => goD re h fun d x H1 re1 _ rx h1 => by
    unfold dSort3 at h1
    cases d with
    | list ds =>
      obtain ⟨a, xs, rfl, ea, na, q⟩ := rx.i_lst
      dsimp only at h1
      split at h1
      · rename_i ps hps
        split at h1
        · rename_i hok
          rw [Bool.and_eq_true, decide_eq_true_eq, List.all_eq_true] at hok
          rw [tupsOf_ok hps] at q
          obtain ⟨q1, q2⟩ := tups_rp q
          have hlen : xs.length = ps.length := by rw [← q2, List.length_map]
          refine ⟨a, xs, rfl, SqL.of ea, by omega, fun x hx => ?_, fun ys p' hperm hpw hp => ?_⟩
          · obtain ⟨t, e, f, _⟩ := q1 x hx
            have := okT3_iff.1 (hok.2 (inV H1 x) (by rw [← q2]; exact List.mem_map.2 ⟨x, hx, rfl⟩))
            exact ⟨inV H1 x, ⟨t, e, SqT.of f⟩, this.1, this.2⟩
          · have hpm : (ys.map (inV H1)).Perm ps := by rw [← q2]; exact hperm.map _
            have hpw2 : (ys.map (inV H1)).Pairwise fun a b => TS.code 128 a ≤ TS.code 128 b := List.pairwise_map.mpr (hpw.imp_of_mem fun {x y} hx hy hh => by
              obtain ⟨t, e, f, _⟩ := q1 x (hperm.mem_iff.1 hx)
              obtain ⟨t', e', f', _⟩ := q1 y (hperm.mem_iff.1 hy)
              exact hh _ _ ⟨t, e, SqT.of f⟩ ⟨t', e', SqT.of f'⟩)
            have e := srtC_uniq (by decide) hok.2 hpm hpw2
            have hr := tups_all q1 ys fun z hz => hperm.mem_iff.1 hz
            rw [e] at hr
            exact h1.newL re1 hp hr
        · exact h1.elim
      · exact h1.elim
    | _ => exact h1.elim
end
end DL

/-! # (x,) * k from 1 on; >= of pairs; sorted(set(..)) of pairs -/
namespace DL
open PySem PySem.Spec L2 PyProof.Rows
section
variable {X : Cx} {W : WX} {a b : Expr} {fa fb : En → Re PyData} {pos : Pos}
/-- t * 1 is t -/
theorem tup_once (l : Addr) (items : Array Value) (n : Nat) (dd : Option Addr) (sl : Array (Option Value)) (u : Tok) :
    Meets (Builtin.«tuple.__mul__» ⟨[.ref l, .int 1 u], []⟩) (fun _ R s => s.heap.get? l = some { cls := .type "tuple", dict := dd, data := .seq items n, slots := sl } ∧ R (.ok (.ret (Value.ref l))) s) :=
  .of_wp fun prog w A R s h => by
    obtain ⟨hp, g, d, tk, os⟩ := s
    obtain ⟨hl, h⟩ := h
    have q1 := AutoSeq1.idx_int
    have c1 : (items.isEmpty || (1 : Int) == 1) = true := by simp
    wp_walk using AutoSeq1.wpAny_loadPart' hl
    repeat (first
      | (refine wpAny_ite_false (decide_eq_false (by decide)) ?_; wp_walk using AutoSeq1.wpAny_loadPart' hl)
      | (refine wpAny_ite_true (decide_eq_true (by rw [c1])) ?_; wp_walk using AutoSeq1.wpAny_loadPart' hl))
    exact ⟨_, rfl, h⟩
def rOnce (K : PySem.W.Frag) : R2 := fun x y H Q => ∃ l xs, x = .ref l ∧ y = .int 1 ∧ SqT K H l xs ∧ Q (.ref l) H
theorem op_once : OpR X (binaryOp .Mult) (rOnce X.K) := by
  intro pins s σ H x y v u Q I rx ry h
  obtain ⟨l, xs, rfl, rfl, hT, q⟩ := h
  cases rx
  obtain ⟨t, rfl⟩ := ry
  obtain ⟨its, r, ⟨⟨cls, dd, data, sl⟩, ho, hc, n, hd⟩, hs⟩ := I.tuple hT
  simp only at hc hd
  subst hc hd
  refine wpAny_binaryOp_repeat_ref (T := "tuple") (U := "int") (by decide) ⟨_, ho, rfl⟩ (fun s' => typeIs_int s' 1 t) noFill_tuple_mul F.fills_int_mul F.slot_int_rmul repeat_tuple F.slot_int_index.lookup
    (call_meets F.slot_int_rmul (typeIs_int s 1 t) F.entry_int_rmul (F.args_int_rmul_2 _ _) (int_rmul_tuple 1 t l its.toArray n dd sl)
      ⟨ho, rfl, ⟨_, ho, rfl⟩, call_meets F.slot_tuple_mul ⟨_, ho, rfl⟩ F.entry_tuple_mul (F.args_tuple_mul_2 _ _) (tup_once l its.toArray n dd sl t) ⟨ho, ?_⟩⟩)
  exact ⟨.ref l, H, I, rfl, q⟩
def dMulT : PyData → PyData → Re PyData
  | .tuple xs, .int k => if !xs.isEmpty && decide (1 ≤ k) && decide (k ≤ 1000) && decide (xs.length ≤ 1000) then .ok (.tuple (List.replicate k.toNat xs).flatten) else .st
  | _, _ => .st
theorem o_mulT {K : PySem.W.Frag} : Op2 W dMulT (fun x y H Q => rOnce K x y H Q ∨ rRepT K x y H Q) := by
  intro σ O ρ H x y d e Q re rx ry h
  unfold dMulT at h
  split at h
  · split at h
    · rename_i k hh
      simp only [Bool.and_eq_true, decide_eq_true_eq] at hh
      obtain ⟨a, xs, rfl, ea, na, ra⟩ := rx.i_tup
      cases ry.i_int
      have hl := ra.len
      by_cases z : k = 1
      · subst z
        refine .inl ⟨a, xs, rfl, rfl, SqT.of ea, h.here ?_⟩
        have e1 : (List.replicate (1 : Int).toNat ‹List PyData›).flatten = ‹List PyData› := by simp
        rw [e1]
        exact rx
      · refine .inr ⟨a, _, xs, rfl, rfl, SqT.of ea, fun z => ?_, by omega, by omega, by omega, fun p hp => h.newT re hp (ra.rep _)⟩
        subst z
        cases ra
        exact absurd hh.1.1.1 (by decide)
    · exact h.elim
  · exact h.elim
theorem de_mulT (ha : PE X a (tD W fa)) (hb : PE X b (tD W fb)) : PE X (.BinOp a .Mult b pos) (tD W (e2 dMulT fa fb)) := de_op (op_once.or op_repT) o_mulT ha hb
/-! ## >= of pairs -/
def rGe2 (K : PySem.W.Frag) : R2 := fun x y H Q => ∃ (a b : Addr) (i j k l : Int), x = .ref a ∧ y = .ref b ∧ SqT K H a [.int i, .int j] ∧ SqT K H b [.int k, .int l] ∧ Q (.bl (if i = k then (if j = l then true else decide (l ≤ j)) else decide (k ≤ i))) H
theorem op_ge2 (hu : X.A.units < cLine) : OpR X (compareOp .GtE) (rGe2 X.K) := by
  intro pins s σ H x y v u Q I rx ry h
  obtain ⟨a, b, i, j, k, l, rfl, rfl, ha, hb, q⟩ := h
  cases rx
  cases ry
  have ha : SqT X.K H a ([i, j].map V.int) := ha
  have hb : SqT X.K H b ([k, l].map V.int) := hb
  obtain ⟨its, r1, p1, _⟩ := I.tuple ha
  obtain ⟨its2, r2, p2, _⟩ := I.tuple hb
  have i1 : IntsAre its [i, j] := Vals.ints r1
  have i2 : IntsAre its2 [k, l] := Vals.ints r2
  have n1 : its.toArray.size = 2 := by rw [List.size_toArray]; exact i1.length
  have n2 : its2.toArray.size = 2 := by rw [List.size_toArray]; exact i2.length
  have g1 : ∀ m (h1 : m < its.toArray.size), ∃ t, its.toArray[m] = .int ([i, j].getD m 0) t := fun m h1 => PyProof.Rows.IntsAre.int_at i1 _ _ (by simp at h1; simp [h1])
  have g2 : ∀ m (h1 : m < its2.toArray.size), ∃ t, its2.toArray[m] = .int ([k, l].getD m 0) t := fun m h1 => PyProof.Rows.IntsAre.int_at i2 _ _ (by simp at h1; simp [h1])
  have R := Ob.RcOp.tuples_ge (A := X.A) (s := s) (e := fun m => [i, j].getD m 0 == [k, l].getD m 0) (r := fun m => decide ([k, l].getD m 0 ≤ [i, j].getD m 0)) p1 p2 hu (fun m h1 h2 => by
    obtain ⟨t, et⟩ := g1 m h1
    obtain ⟨t', et'⟩ := g2 m h2
    rw [et, et']
    exact SeqAt.EqAt.int_int _ _ _ _) (fun m h1 h2 _ => by
    obtain ⟨t, et⟩ := g1 m h1
    obtain ⟨t', et'⟩ := g2 m h2
    rw [et, et']
    exact Ob.RcOp.ge_int _ _ _ _)
  rw [n1, n2] at R
  have hv : Ob.lexAt (fun m => [i, j].getD m 0 == [k, l].getD m 0) (fun m => decide ([k, l].getD m 0 ≤ [i, j].getD m 0)) (decide (2 ≥ 2)) 0 (min 2 2) = (if i = k then (if j = l then true else decide (l ≤ j)) else decide (k ≤ i)) := by
    show (if (i == k) = true then (if (j == l) = true then true else decide (l ≤ j)) else decide (k ≤ i)) = _
    simp
  rw [hv] at R
  have z : wpAny (model X.prog X.w) X.A (compareOp .GtE (.ref a) (.ref b)) (EP X pins σ Q) X.xe s := R X.prog X.w X.xe (EP X pins σ Q) ⟨.bl _, H, I, rfl, q⟩
  exact z
def dGe2 : PyData → PyData → Re PyData
  | .tuple [.int i, .int j], .tuple [.int k, .int l] => .ok (.bool (if i = k then (if j = l then true else decide (l ≤ j)) else decide (k ≤ i)))
  | _, _ => .st
theorem o_ge2 {K : PySem.W.Frag} : Op2 W dGe2 (rGe2 K) := by
  intro σ O ρ H x y d e Q re rx ry h
  unfold dGe2 at h
  split at h
  · obtain ⟨a, xs, rfl, ea, na, ra⟩ := rx.i_tup
    obtain ⟨b, ys, rfl, eb, nb, rb⟩ := ry.i_tup
    cases ra with
    | cons r1 ra =>
      cases r1.i_int
      cases ra with
      | cons r2 ra =>
        cases r2.i_int
        cases ra
        cases rb with
        | cons r1 rb =>
          cases r1.i_int
          cases rb with
          | cons r2 rb =>
            cases r2.i_int
            cases rb
            exact ⟨a, b, _, _, _, _, rfl, rfl, SqT.of ea, SqT.of eb, h.here (.bl _)⟩
  · exact h.elim
theorem dt_ge2 (hu : X.A.units < cLine) (ha : PE X a (tD W fa)) (hb : PE X b (tD W fb)) : PT X (.Compare a [.GtE] [b] pos) (DL.tB W (toB (e2 dGe2 fa fb))) := dt_cmpI (op_ge2 hu) ha hb (nomark _) (imp2 o_ge2)
/-! ## sorted(set(xs)), xs a list of pairs of ints from 0 up to 64 -/
/-- the members, rising -/
def dd1 (acc : List (List Int)) (x : List Int) : List (List Int) := if acc.any (· == x) then acc else acc ++ [x]
def ddT (ps : List (List Int)) : List (List Int) := ps.foldl dd1 []
theorem ddT_fold : ∀ (ps acc : List (List Int)), acc.Nodup → (ps.foldl dd1 acc).Nodup ∧ ∀ x, x ∈ ps.foldl dd1 acc ↔ x ∈ acc ∨ x ∈ ps
  | [], acc, h => ⟨h, fun x => by simp⟩
  | p :: ps, acc, h => by
    rw [List.foldl_cons]
    unfold dd1
    by_cases q : acc.any (· == p) = true
    · rw [if_pos q]
      obtain ⟨i1, i2⟩ := ddT_fold ps acc h
      have hp : p ∈ acc := by
        rw [List.any_eq_true] at q
        obtain ⟨y, y1, y2⟩ := q
        have : y = p := by simpa using y2
        rw [← this]; exact y1
      refine ⟨i1, fun x => (i2 x).trans ?_⟩
      rw [List.mem_cons]
      constructor
      · rintro (z | z)
        · exact .inl z
        · exact .inr (.inr z)
      · rintro (z | rfl | z)
        · exact .inl z
        · exact .inl hp
        · exact .inr z
    · rw [if_neg q]
      have hp : p ∉ acc := fun z => q (by rw [List.any_eq_true]; exact ⟨p, z, by simp⟩)
      obtain ⟨i1, i2⟩ := ddT_fold ps (acc ++ [p]) (by
        rw [List.nodup_append]
        refine ⟨h, by simp, fun a ha b hb => ?_⟩
        simp at hb
        subst hb
        intro e
        subst e
        exact hp ha)
      refine ⟨i1, fun x => (i2 x).trans ?_⟩
      rw [List.mem_append, List.mem_singleton, List.mem_cons, or_assoc]
theorem ddT_nd (ps : List (List Int)) : (ddT ps).Nodup := (ddT_fold ps [] (by simp)).1
theorem ddT_mem (ps : List (List Int)) (x : List Int) : x ∈ ddT ps ↔ x ∈ ps := by
  have := (ddT_fold ps [] (by simp)).2 x
  unfold ddT
  simpa using this
def dSortSetP : PyData → Re PyData
  | .list ds => match tupsOf ds with
    | some ps => if decide (ps.length < 64) && ps.all (okT3 64 2) then .ok (.list ((srtC 64 (ddT ps)).map tI)) else .st
    | none => .st
  | _ => .st
theorem de_sortSetP {p p2 q : Pos} (hc : X.calm = true) (hu : X.A.units + 64 < cLine) (hm : X.mg "sorted" = none) (hm2 : X.mg "set" = none) (ha : PE X a (tD W fa)) (hg : Gl X "sorted" := by rfl) (hg2 : Gl X "set" := by rfl) (na : starEach [a] X.env = (false, eval a X.env) :: starEach [] X.env := by rfl) (nb : starEach [.Call (.Name "set" p2) [a] [] q] X.env = (false, eval (.Call (.Name "set" p2) [a] [] q) X.env) :: starEach [] X.env := by rfl) (hv : bootBuiltins "sorted" = some (.builtin "sorted") := by decide +kernel) :
    PE X (.Call (.Name "sorted" p) [.Call (.Name "set" p2) [a] [] q] [] pos) (tD W (e1 dSortSetP fa)) :=
  pe_imp (pe_callB (cr_sortedT hc) hg hm hv (pa_cons (pe_callTy (cr_setOfT hc hu) hg2 hm2 boot_set (pa_cons ha pa_nil na) (he := na)) pa_nil nb) (he := nb)) fun σ H Q ⟨ρ, O, re, h⟩ => goD re h fun d x H1 re1 _ rx h1 => by
    unfold dSortSetP at h1
    cases d with
    | list ds =>
      obtain ⟨a, xs, rfl, ea, na, q⟩ := rx.i_lst
      dsimp only at h1
      split at h1
      · rename_i ps hps
        split at h1
        · rename_i hok
          rw [Bool.and_eq_true, decide_eq_true_eq, List.all_eq_true] at hok
          rw [tupsOf_ok hps] at q
          obtain ⟨q1, q2⟩ := tups_rp q
          have hlen : xs.length = ps.length := by rw [← q2, List.length_map]
          -- the addresses
          have hks : ∃ ks : List (Addr × List Int), xs = ks.map (fun p => V.ref p.1) ∧ ks.map (·.2) = ps ∧ ∀ p ∈ ks, H1 p.1 = some (.tup (p.2.map V.int)) ∧ ¬ O p.1 := by
            clear hok hlen ea h1 rx hps q
            rw [← q2]
            clear q2
            induction xs with
            | nil => exact ⟨[], rfl, rfl, fun p hp => by simp at hp⟩
            | cons y ys ih =>
              obtain ⟨ks, k1, k2, k3⟩ := ih (fun z hz => q1 z (List.mem_cons_of_mem _ hz))
              obtain ⟨t, e, f, nt⟩ := q1 y List.mem_cons_self
              refine ⟨(t, inV H1 y) :: ks, by rw [List.map_cons, ← k1, e], by rw [List.map_cons, List.map_cons, k2], fun p hp => ?_⟩
              rcases List.mem_cons.1 hp with rfl | hp
              · exact ⟨f, nt⟩
              · exact k3 p hp
          obtain ⟨ks, k1, k2, k3⟩ := hks
          subst k1
          refine ⟨a, ks, rfl, SqL.of ea, fun p hp => SqT.of (k3 p hp).1, by rw [← List.length_map (f := fun p : Addr × List Int => V.ref p.1)]; omega, fun sa L hsa hL1 hL2 => ?_⟩
          have hne : ∀ p ∈ ks, p.1 ≠ sa := fun p hp z => by
            have := (k3 p hp).1
            rw [z, hsa] at this
            cases this
          have hin2 : ∀ p ∈ L, upd H1 sa (SetTO X.prog X.w sa L) p.1 = some (.tup (p.2.map V.int)) := fun p hp => by
            rw [upd_ne (hne p (hL1 p hp))]
            exact (k3 p (hL1 p hp)).1
          have hps2 : ∀ p ∈ ks, p.2 ∈ ps := fun p hp => by rw [← k2]; exact List.mem_map.2 ⟨p, hp, rfl⟩
          refine ⟨sa, L, 2, 64, rfl, upd_same, fun p hp => SqT.of (hin2 p hp), by decide, fun p hp => okT3_iff.1 (hok.2 _ (hps2 p (hL1 p hp))), fun L' pp hpm hnd hl' hpw hpp => ?_⟩
          have hLp : ∀ x, x ∈ L.map (·.2) ↔ x ∈ ps := fun x => by
            constructor
            · intro hx
              obtain ⟨p, hp, rfl⟩ := List.mem_map.1 hx
              exact hps2 p (hL1 p hp)
            · intro hx
              rw [← k2] at hx
              obtain ⟨p, hp, rfl⟩ := List.mem_map.1 hx
              exact hL2 p hp
          have hperm : (L'.map (·.2)).Perm (ddT ps) := by
            rw [List.perm_ext_iff_of_nodup hnd (ddT_nd ps)]
            intro x
            rw [ddT_mem, ← hLp, (hpm.map (·.2)).mem_iff]
          have hsrt := srtC_uniq (B := 64) (d := 2) (by decide) (fun p hp => hok.2 p ((ddT_mem ps p).1 hp)) hperm (List.pairwise_map.2 hpw)
          have sm : Same H1 (upd (upd H1 sa (SetTO X.prog X.w sa L)) pp (.lst (L'.map fun q => V.ref q.1))) := fun b o e => by
            have nb : b ≠ pp := fun z => by
              subst z
              by_cases w : b = sa
              · subst w; rw [hsa] at e; cases e
              · rw [upd_ne w, e] at hpp; cases hpp
            have nc : b ≠ sa := fun z => by subst z; rw [hsa] at e; cases e
            rw [upd_ne nb, upd_ne nc]
            exact e
          have hH1pp : H1 pp = none := by
            by_cases w : pp = sa
            · subst w; exact hsa
            · rw [upd_ne w] at hpp; exact hpp
          refine h1 _ _ sm (.lst upd_same (re1.new hH1pp) ?_)
          rw [← hsrt]
          have hall : ∀ M : List (Addr × List Int), (∀ p ∈ M, p ∈ ks) → RpL O H1 (M.map fun q => V.ref q.1) ((M.map (·.2)).map tI) := by
            intro M
            induction M with
            | nil => intro _; exact .nil
            | cons p M ih =>
              intro hM
              exact .cons (.tup (k3 p (hM p List.mem_cons_self)).1 (k3 p (hM p List.mem_cons_self)).2 (RpL.ofInts _)) (ih fun x hx => hM x (List.mem_cons_of_mem _ hx))
          exact (hall L' fun p hp => hL1 p (hpm.mem_iff.1 hp)).kp (.same sm)
        · exact h1.elim
      · exact h1.elim
    | _ => exact h1.elim
end
end DL

/-! # an own exception with a field: S.__init__(self, text); self.line = line -/
namespace DL
open PySem PySem.Spec L2 PyProof.Rows
section
variable {X : Cx} {e : Expr} {es : List Expr} {ta : TA} {p1 p2 pos : Pos}
/-- what the written part says of S, an own class over ValueError without an __init__ of its own -/
structure SupC (K : PySem.W.Frag) (S : Addr) : Prop where
  ga : PySem.W.specialIn K (.ref S) "__getattribute__" = some (some (.builtin "type.__getattribute__"))
  ty : PySem.W.typeIn K (.ref S) = some (.type "type")
  rd : PySem.W.readsIn K S (.type "type") = true
  va : PySem.W.findCls K (.ref S) (.type "type") "__init__" = some (.val (.builtin "ValueError.__init__"))
theorem pe_sinit {pl : Sem Bool} {x : Str} {S : Addr} (T : SupC X.K S) (hm : X.mg x = some (.ref S)) (ha : PA X (e :: es) ta) (hg : Gl X x := by rfl) (hdb : (x == ("__debug__" : Str)) = false := by decide)
    (hc : eval (.Call (.Attribute (.Name x p1) "__init__" p2) (e :: es) [] pos) X.env = (do let cv ← eval (.Name x p1) X.env; standAt p2.atName; let (m, own) ← holding [cv] (getMethod cv "__init__" pl); callWith pos m own (backTo pos (starEach (e :: es) X.env)) (backToKw pos (keywordEach [] X.env))) := by rfl)
    (hst : starEach (e :: es) X.env = (false, eval e X.env) :: starEach es X.env := by rfl) (hplain : (backTo pos (starEach es X.env)).any (·.1) = false := by rfl) :
    PE X (.Call (.Attribute (.Name x p1) "__init__" p2) (e :: es) [] pos) (tVeI X.K ta) := by
  refine ⟨fun pn sh sg hp K1 inv want => ?_⟩
  obtain ⟨m, fr⟩ := inv.fr
  refine PySem.W.methodCall_KW (ld_glob inv hg hm (PySem.W.method_of_cls fr inv.ok.mod.kin T.ga (PySem.W.cls_val fr inv.ok.mod.kin T.ty T.rd T.va (by decide +kernel) ?_)) hdb) hc
  change wpAny _ _ (callWith pos (Value.builtin "ValueError.__init__") [] (backTo pos (starEach (e :: es) X.env)) []) _ _ _
  refine PyProof.Rows.callWith_method1 (thn (ha.run pos pn _ sg hp _ (inv.tok _) want) fun us s1 ⟨vs, H1, I1, r1, a, C, ws, ev, hl, TC, ea, q⟩ => ?_) hst hplain
  subst ev
  cases r1 with
  | @cons _ u0 _ ur ra rr =>
    have ra : u0 = Value.ref a := ra
    subst ra
    exact oinit_ok TC I1 ea (by rw [← Paired.length rr, sizeLine_eq]; omega) fun s2 J => ⟨.non, H1, J, rfl, q⟩
/-- what __init__ promises -/
def spLine (C : Addr) : Sp := fun vs H Q _ => ∃ (a : Addr) (y : V), vs = [.ref a, y] ∧ H a = some (exo a C none) ∧ ∀ dx, H dx = none → dx ≠ a → Q .non (upd (upd H dx (exd dx [("line", y)])) a (exo a C (some dx)))
def tLine (K : PySem.W.Frag) : TS := tSeq (tDrop (tVeI K (tCons (tVar 0) (tCons (tC (.str "no text")) tNil)))) (tOst K "line" (tVar 0) (tVar 1))
theorem line_ok {P : Program} {w : World} {K : PySem.W.Frag} {mg : Str → Option Value} {base : Heap} {qual : Str} {st : Stmt} {f : Addr} {fd : FuncData} {C : Addr} (F : Fun K "__init__" qual st f fd) (sc : FnScope ["self", "line"] ["self", "line"] (defScope st)) (TC : OexC K C) (hno : PySem.W.findIn K (.ref C) "line" = some none)
    (hb : ∀ (cdv : Value) (A : Around) (outer : List Env) (s : Shared) (H : Hp) (E : XK), PSs (cxOf (L2.CX P w) P w K mg base ["self", "line"] qual (defScope st) f cdv A outer s H E) (defBody st) (tLine K)) : FnOk P w K mg base (L2.CX P w) 1 f fd ["self", "line"] (spLine C) := by
  refine F.okX sc (fun vs H Q E h => ?_) (fun cdv A outer s H vs Q E hr h => ⟨_, hb cdv A outer s H E, ?_⟩)
  · obtain ⟨a, y, rfl, _⟩ := h
    rfl
  · obtain ⟨a, y, rfl, ea, q⟩ := h
    refine ⟨.ref a, rfl, a, C, [.str "no text"], rfl, by simp, TC, ea, ?_⟩
    exact ⟨y, rfl, .ref a, rfl, a, C, rfl, TC, hno, .inl ⟨ea, fun dx n ne => q dx n ne⟩⟩
/-! ## raise C(e) -/
def sRaiseL (C : Addr) (fe : En → Re PyData) : En → SR := fun ρ => SR.of (fe ρ) ρ fun d => .ex (.ref C) (some d) ρ
theorem ds_raiseL {W : WX} {C : Addr} {c : Expr} {fe : En → Re PyData} (hc : X.calm = true) (tk : Takes X W) (he : PMk X c (tMkO C (spLine C) [] (tCons (tD W fe) tNil))) : PS X (.Raise (some c) none pos) (sD W (sRaiseL C fe)) :=
  ps_imp (ps_raise hc tk he) fun D σ H ⟨ρ, H0, O0, rs, h⟩ => goS rs h fun d v H1 rs1 rv h1 => by
    refine ⟨by simp, fun a na => ⟨a, v, rfl, upd_same, fun dx nd ne => ⟨rfl, dx, [("line", v)], upd_same, ?_, ?_, ?_⟩⟩⟩
    · rw [upd_ne ne, upd_same]
    · rwa [upd_ne ne] at nd
    · rw [upd_ne ne] at nd
      have same : Same H1 (upd (del (upd (upd (upd H1 a (exo a C none)) dx (exd dx [("line", v)])) a (exo a C (some dx))) a) dx (.xd [("line", v)])) := fun b o e => by
        have nb : b ≠ a := fun z => by rw [z, na] at e; cases e
        have nb2 : b ≠ dx := fun z => by rw [z, nd] at e; cases e
        rw [upd_ne nb2, del_ne nb, upd_ne nb, upd_ne nb2, upd_ne nb]
        exact e
      exact h1 σ _ (rs1.heap same) dx v upd_same (rv.kp (.same same))
/-! ## return [s1, e.line] if .. else [s2] -/
def hRetL (cT : Addr → Addr → Option Bool) (C1 : Addr) (o2 : Option Addr) (s1 s2 : PyData) : Addr → Option PyData → En → SR := fun c p ρ => match p with
  | none => .st
  | some d => match hCond cT c C1 o2 with
    | some b => .rt (if b then .list [s1, d] else .list [s2])
    | none => .st
theorem call_isL {a c dd : Addr} {oe : Obj} {pn : List (Addr × Obj)} (ec : ExcC X.K c) (hz : Zc (.ref c) (some dd) oe) (hf : ∃ vs, oe.data = .fields vs) :
    CallR (X.suite a ((a, oe) :: pn)) (.builtin "isinstance") (fun xs H Q => ∃ (C : Addr) (b : Bool) (fs : List (Str × V)), xs = [.ref a, .ref C] ∧ H dd = some (.xd fs) ∧ PySem.W.kitOne X.K (.ref c) (.ref C) = some b ∧ Q (.bl b) H) := by
  intro pins s σ H xs us Q I r h
  obtain ⟨C, b, fs, rfl, ed, kt, q⟩ := h
  cases r with
  | cons rx rr =>
    cases rr with
    | cons rt rr =>
      cases rr
      cases rx
      cases rt
      have here := (I.pin (a, oe) (List.mem_append.mpr (.inl List.mem_cons_self))).1
      obtain ⟨vs, hv⟩ := hf
      obtain ⟨mA, ns, _⟩ : ObjOk X.prog X.w H s.heap dd (.xd fs) := I.hok dd _ ed
      obtain ⟨od, ho, _⟩ := lookIn_ns ns
      have J : PySem.W.InstAt s.heap a oe c (some od) := ⟨here, hz.1, by unfold PySem.W.notCls; rw [hv] <;> rfl, by rw [hz.2]; exact ho⟩
      exact PySem.W.kia_one (PySem.W.kitx_exc (by obtain ⟨cd, hc, _⟩ := PySem.W.any_some ec.hd; rw [hc]; rfl) ec.hg ec.hk ec.hs ec.ha ec.hn ec.ht ec.hm) I.kIn J kt (fun z => nomatch z) fun tk => ⟨.bl b, H, I.kept (t' := tk) fun _ _ z => z, rfl, q⟩
def tPL (i : Nat) (a dd : Addr) (b : Bool) : TT := fun σ H Q => σ[i]? = some (some (.ref a)) ∧ (∃ fs, H dd = some (.xd fs)) ∧ Q b H
def TestOkL (X : Cx) (cT : Addr → Addr → Option Bool) (i : Nat) (C1 : Addr) (o2 : Option Addr) (t : Expr) : Prop := ∀ (a c dd : Addr) (oe : Obj) (pn : List (Addr × Obj)) (b : Bool), Zc (.ref c) (some dd) oe → (∃ vs, oe.data = .fields vs) → XTab X.K cT → hCond cT c C1 o2 = some b → PT (X.suite a ((a, oe) :: pn)) t (tPL i a dd b)
theorem tl_one {cT : Addr → Addr → Option Bool} {i : Nat} {C : Addr} {x y : Str} {p p1 p2 : Pos} (hm : X.mg "isinstance" = none) (hy : X.mg y = some (.ref C))
    (hN : X.N[i]? = some x := by rfl) (hv : Vis X.env.scope x := by first | exact Or.inl rfl | exact Or.inr (Or.inl rfl) | exact Or.inr (Or.inr rfl)) (hd : (x == ("__debug__" : Str)) = false := by decide) (hcd : (x == ("__classdict__" : Str)) = false := by decide)
    (hg : Gl X "isinstance" := by rfl) (hgy : Gl X y := by rfl) (hdy : (y == ("__debug__" : Str)) = false := by decide) (hs : starEach [.Name x p1, .Name y p2] X.env = (false, eval (.Name x p1) X.env) :: starEach [.Name y p2] X.env := by rfl) (hs2 : starEach [.Name y p2] X.env = (false, eval (.Name y p2) X.env) :: starEach [] X.env := by rfl) (hpl : (backTo pos (starEach [.Name y p2] X.env)).any (·.1) = false := by rfl)
    (he : ∀ whole, isTrue (.Call (.Name "isinstance" p) [.Name x p1, .Name y p2] [] pos) X.env whole = (do let v ← whole; standAt pos; holding [v] (truthy v)) := by intro _; rfl) :
    TestOkL X cT i C none (.Call (.Name "isinstance" p) [.Name x p1, .Name y p2] [] pos) := fun a c dd oe pn b hz hf xt hc => by
  have q := pe_callB (X := X.suite a ((a, oe) :: pn)) (pos := pos) (p := p) (call_isL (xt.ok c C b hc).2.2 hz hf) hg hm (by decide +kernel) (pa_cons (pe_var (X := X.suite a ((a, oe) :: pn)) hN hv hd hcd) (pa_cons (pe_glob (X := X.suite a ((a, oe) :: pn)) (v := .ref C) hgy hy rfl hdy) pa_nil hs2) hs) (he := hs) (hpl := hpl)
  refine pt_imp (pt_truth q he) fun σ H Q ⟨h1, ⟨fs, h2⟩, h3⟩ => ?_
  exact ⟨_, h1, C, b, fs, rfl, h2, (xt.ok c C b hc).1, b, rfl, h3⟩
theorem tl_two {cT : Addr → Addr → Option Bool} {i : Nat} {C1 C2 : Addr} {t u : Expr} {q : Pos} (h1 : TestOkL X cT i C1 none t) (h2 : TestOkL X cT i C2 none u) : TestOkL X cT i C1 (some C2) (.BoolOp .And [t, .UnaryOp .Not u q] pos) := fun a c dd oe pn b hz hf xt hc => by
  have hc : ((cT c C1).bind fun b => (cT c C2).bind fun b2 => some (b && !b2)) = some b := hc
  cases g1 : cT c C1 with
  | none => rw [g1] at hc; cases hc
  | some b1 =>
    cases g2 : cT c C2 with
    | none => rw [g1] at hc; rw [Option.bind_some, g2] at hc; cases hc
    | some b2 =>
      rw [g1, Option.bind_some, g2] at hc
      cases hc
      have k1 := h1 a c dd oe pn b1 hz hf xt g1
      have k2 : PT (X.suite a ((a, oe) :: pn)) (.UnaryOp .Not u q) (tPL i a dd (!b2)) := pt_imp (pt_not (h2 a c dd oe pn b2 hz hf xt g2)) fun σ H Q ⟨z1, z2, z3⟩ => ⟨z1, z2, z3⟩
      exact (pw_imp (pw_and k1 (pw_and1 k2)) fun σ H Q ⟨z1, z2, z3⟩ => by
        cases b1 with
        | true => exact ⟨z1, z2, ⟨z1, z2, z3⟩⟩
        | false => exact ⟨z1, z2, z3⟩).pt
theorem hcond_in {cT : Addr → Addr → Option Bool} {c C1 : Addr} {o2 : Option Addr} {b : Bool} (h : hCond cT c C1 o2 = some b) : ∃ b1, cT c C1 = some b1 := by
  cases o2 with
  | none => exact ⟨b, h⟩
  | some C2 =>
    have h : ((cT c C1).bind fun b => (cT c C2).bind fun b2 => some (b && !b2)) = some b := h
    cases g : cT c C1 with
    | none => rw [g] at h; cases h
    | some b1 => exact ⟨b1, rfl⟩
theorem hd_retL {cT : Addr → Addr → Option Bool} {i : Nat} {C C1 : Addr} {o2 : Option Addr} {t : Expr} {s1 s2 x : Str} {j k : Nat} {p q q1 q2 q3 q4 r : Pos} (ht : TestOkL X cT i C1 o2 t) (only : ∀ c d b, cT c d = some b → c = C) (hno : PySem.W.findIn X.K (.ref C) "line" = some none) {a : Addr} {oe : Obj} {cls : Value} {d : Option Addr} {pn : List (Addr × Obj)} (hz : Zc cls d oe) (hf : ∃ vs, oe.data = .fields vs)
    (hN : X.N[i]? = some x := by rfl) (hv : Vis X.env.scope x := by first | exact Or.inl rfl | exact Or.inr (Or.inl rfl) | exact Or.inr (Or.inr rfl)) (hd : (x == ("__debug__" : Str)) = false := by decide) (hcd : (x == ("__classdict__" : Str)) = false := by decide)
    (hb : attributeBase (.Name x q1) "line" X.env (eval (.Name x q1) X.env) = eval (.Name x q1) X.env := by rfl)
    (hs1 : starEach [.Constant (.str s1) j p, .Attribute (.Name x q1) "line" q2] X.env = (false, eval (.Constant (.str s1) j p) X.env) :: starEach [.Attribute (.Name x q1) "line" q2] X.env := by rfl)
    (hs2 : starEach [.Attribute (.Name x q1) "line" q2] X.env = (false, eval (.Attribute (.Name x q1) "line" q2) X.env) :: starEach [] X.env := by rfl)
    (hs3 : starEach [.Constant (.str s2) k q] X.env = (false, eval (.Constant (.str s2) k q) X.env) :: starEach [] X.env := by rfl) :
    PSs (X.suite a ((a, oe) :: pn)) [.Return (some (.IfExp t (.List [.Constant (.str s1) j p, .Attribute (.Name x q1) "line" q2] q3) (.List [.Constant (.str s2) k q] q4) r)) pos] (hD X.K cT (some i) (hRetL cT C1 o2 (.str s1) (.str s2)) a cls d) :=
  ⟨fun pins s σ H D I ⟨c, pp, ρ, H0, O0, hc, py, hi, xt, rs, h⟩ => by
    subst hc
    unfold hRetL at h
    cases pp with
    | none => exact h.elim
    | some z =>
      cases d with
      | none => exact py.elim
      | some dd =>
        obtain ⟨v, ed, rv⟩ := py
        cases g : hCond cT c C1 o2 with
        | none => rw [g] at h; exact h.elim
        | some b =>
          rw [g] at h
          obtain ⟨b1, g1⟩ := hcond_in g
          have e := (xt.ok c C1 b1 g1).2.2
          have := only c C1 b1 g1
          subst this
          have k1 : PE (X.suite a ((a, oe) :: pn)) (.List [.Constant (.str s1) j p, .Attribute (.Name x q1) "line" q2] q3) _ := pe_lst (pa_cons pe_str (pa_cons (pe_xf ⟨e.hg, e.hk, e.hs, e.hd⟩ hno hz hf (pe_var (X := X.suite a ((a, oe) :: pn)) hN hv hd hcd) hb) pa_nil hs2) hs1)
          have k2 : PE (X.suite a ((a, oe) :: pn)) (.List [.Constant (.str s2) k q] q4) _ := pe_lst (pa_cons pe_str pa_nil hs3)
          refine (pss_one (ps_ret (pe_ifExp (ht a c dd oe pn b hz hf xt g) k1 k2))).run pins s σ H D I ⟨hi i rfl, ⟨_, ed⟩, ?_⟩
          have noO : ∀ nw, H nw = none → ¬ O0 nw := fun nw hn z => rs.re.dom nw (.inl z) hn
          cases b with
          | true =>
            refine ⟨.ref a, hi i rfl, rfl, rfl, dd, _, v, rfl, ed, by simp [List.lookup], by rw [sizeLine_eq]; simp, fun nw hn => ?_⟩
            have sm := same_upd (o := .lst [V.str s1, v]) hn
            exact h _ _ (fun b o z => sm b o (rs.same b o z)) (.lst upd_same (noO nw hn) (.cons (.str s1) (.cons (rv.out.kp (.same sm)) .nil)))
          | false =>
            refine ⟨by rw [sizeLine_eq]; simp, fun nw hn => ?_⟩
            have sm := same_upd (o := .lst [V.str s2]) hn
            exact h _ _ (fun b o z => sm b o (rs.same b o z)) (.lst upd_same (noO nw hn) (.cons (.str s2) .nil))⟩
end
end DL

/-! # texts -/
namespace DL
open PySem PySem.Spec L2 PyProof.Rows
section
variable {X : Cx} {W : WX} {pos : Pos} {a b o e : Expr} {fa fb fo fe : En → Re PyData}
/-! ## str(i) -/
def dFmt : PyData → Re PyData
  | .int i => if decide (i.natAbs.log2 < 1920) then .ok (.str (toString i)) else .st
  | .str y => if fits y.length then .ok (.str y) else .st
  | _ => .st
def gStrI : List PyData → Re PyData
  | [.int i] => dFmt (.int i)
  | _ => .st
theorem n_strI : OpN W gStrI (fun xs H Q => ∃ i, xs = [.int i] ∧ i.natAbs.log2 < 1920 ∧ Q (.str (toString i)) H) := by
  intro σ O ρ H xs ds Q re rx h
  unfold gStrI at h
  split at h
  · unfold dFmt at h
    dsimp only at h
    split at h
    · rename_i hz
      cases rx with
      | cons r1 r => cases r; cases r1.i_int; exact ⟨_, rfl, of_decide_eq_true hz, h.here (.str _)⟩
    · exact h.elim
  · exact h.elim
theorem de_strI {p : Pos} {fs : En → Re (List PyData)} (hm : X.mg "str" = none) (ha : PA X [a] (tA W fs)) (hg : Gl X "str" := by rfl) (he : starEach [a] X.env = (false, eval a X.env) :: starEach [] X.env := by rfl) :
    PE X (.Call (.Name "str" p) [a] [] pos) (tD W (eCall gStrI fs)) := de_bty call_str_int n_strI hm (by decide +kernel) ha hg (he := he)
/-! ## int(text) -/
def gIntS : List PyData → Re PyData
  | [.str x] => match PySem.intText? x with
    | some n => if decide (x.length ≤ 640) then .ok (.int n) else .st
    | none => .st
  | _ => .st
theorem n_intS : OpN W gIntS (fun xs H Q => ∃ a n, xs = [.str a] ∧ PySem.intText? a = some n ∧ a.length ≤ 640 ∧ Q (.int n) H) := by
  intro σ O ρ H xs ds Q re rx h
  unfold gIntS at h
  split at h
  · split at h
    · rename_i n hn
      split at h
      · rename_i hz
        cases rx with
        | cons r1 r => cases r; cases r1.i_str; exact ⟨_, n, rfl, hn, of_decide_eq_true hz, h.here (.int _)⟩
      · exact h.elim
    · exact h.elim
  · exact h.elim
theorem de_intS {p : Pos} {fs : En → Re (List PyData)} (hm : X.mg "int" = none) (ha : PA X [a] (tA W fs)) (hg : Gl X "int" := by rfl) (he : starEach [a] X.env = (false, eval a X.env) :: starEach [] X.env := by rfl) :
    PE X (.Call (.Name "int" p) [a] [] pos) (tD W (eCall gIntS fs)) := de_bty call_int_str n_intS hm (by decide +kernel) ha hg (he := he)
/-! ## f'..' -/
def jsD : List (En → Re PyData) → Str → En → Re PyData
  | [], acc, _ => .ok (.str acc)
  | f :: fs, acc, ρ => (f ρ).bind fun d => match d with
    | .str y => if fits (acc ++ y).length then jsD fs (acc ++ y) ρ else .st
    | _ => .st
inductive JD (X : Cx) (W : WX) : List Expr → List (En → Re PyData) → Prop
  | nil : JD X W [] []
  | cons {e : Expr} {f : En → Re PyData} {es : List Expr} {fs : List (En → Re PyData)} (h : PE X e (tD W f)) (r : JD X W es fs) : JD X W (e :: es) (f :: fs)
theorem JD.pj {es : List Expr} {fs : List (En → Re PyData)} (h : JD X W es fs) : PJ X es (fs.map (tD W)) := by
  induction h with
  | nil => exact .nil
  | cons h _ ih => exact .cons h ih
theorem js_ok {O : Ow} {ρ : En} {σ : Sg} {Q : VK} : ∀ (fs : List (En → Re PyData)) (acc : Str) (H : Hp), RE O ρ σ H → tR W O (jsD fs acc ρ) σ H Q → tJs (fs.map (tD W)) acc σ H fun out H1 => Q (.str out) H1
  | [], acc, H, re, h => h.here (.str acc)
  | f :: fs, acc, H, re, h => goD re h fun d v H1 re1 _ rv h1 => by
    cases d with
    | str y =>
      dsimp only at h1
      split at h1
      · rename_i hf
        cases rv.i_str
        exact ⟨y, rfl, fits_line hf, js_ok fs (acc ++ y) H1 re1 h1⟩
      · exact h1.elim
    | _ => exact h1.elim
theorem de_js {v1 v2 : Expr} {rest : List Expr} {fs : List (En → Re PyData)} (h : JD X W (v1 :: v2 :: rest) fs) : PE X (.JoinedStr (v1 :: v2 :: rest) pos) (tD W (jsD fs Str.empty)) :=
  pe_imp (pe_joined h.pj) fun σ H Q ⟨ρ, O, re, h⟩ => js_ok fs Str.empty H re h
theorem de_fmt (ha : PE X a (tD W fa)) : PE X (.FormattedValue a (-1) none pos) (tD W (e1 dFmt fa)) :=
  pe_imp (pe_fmt ha) fun σ H Q ⟨ρ, O, re, h⟩ => goD re h fun d v H1 re1 _ rv h1 => by
    cases d with
    | int i =>
      unfold dFmt at h1
      dsimp only at h1
      split at h1
      · rename_i hz
        cases rv.i_int
        exact .inr ⟨i, rfl, of_decide_eq_true hz, h1.here (.str _)⟩
      · exact h1.elim
    | str y =>
      unfold dFmt at h1
      dsimp only at h1
      split at h1
      · rename_i hz
        cases rv.i_str
        exact .inl ⟨y, rfl, fits_line hz, h1.here (.str _)⟩
      · exact h1.elim
    | _ => exact h1.elim
/-! ## join, split -/
def strsOf : List PyData → Option (List Str)
  | [] => some []
  | .str x :: r => (strsOf r).map (x :: ·)
  | _ => none
theorem strsOf_ok {O : Ow} {H : Hp} : ∀ {ds : List PyData} {ys : List Str} {xs : List V}, strsOf ds = some ys → RpL O H xs ds → xs = ys.map V.str
  | [], ys, xs, h, r => by cases h; cases r; rfl
  | .str x :: r, ys, xs, h, q => by
    have h : (strsOf r).map (x :: ·) = some ys := h
    cases g : strsOf r with
    | none => rw [g] at h; cases h
    | some m =>
      rw [g] at h
      cases h
      cases q with
      | cons q1 q2 =>
        cases q1.i_str
        rw [strsOf_ok g q2]
        rfl
  | .none :: _, _, _, h, _ => by cases h
  | .bool _ :: _, _, _, h, _ => by cases h
  | .int _ :: _, _, _, h, _ => by cases h
  | .list _ :: _, _, _, h, _ => by cases h
  | .tuple _ :: _, _, _, h, _ => by cases h
  | .dict _ :: _, _, _, h, _ => by cases h
/-- x.m(y), x a text -/
def eM1 (g : Str → PyData → Re PyData) (fo fe : En → Re PyData) : En → Re PyData := fun ρ => (fo ρ).bind fun d => match d with
  | .str z => (fe ρ).bind (g z)
  | _ => .st
theorem goM {g : Str → PyData → Re PyData} {σ : Sg} {O : Ow} {ρ : En} {H : Hp} {Q : VK} {r : V → List V → Hp → VK → Prop} (re : RE O ρ σ H) (h : tR W O (eM1 g fo fe ρ) σ H Q) (k : ∀ z d y H1, RE O ρ σ H1 → Rp O H1 y d → tR W O (g z d) σ H1 Q → r (.str z) [y] H1 Q) : tM1 r (tD W fo) (tD W fe) σ H Q := goD re h fun d x H1 re1 _ rx h1 => by
  cases d with
  | str z =>
    cases rx.i_str
    exact ⟨⟨z, rfl⟩, goD re1 h1 fun d2 y H2 re2 _ ry h2 => k z d2 y H2 re2 ry h2⟩
  | _ => exact h1.elim
def dJoin (a : Str) : PyData → Re PyData
  | .list ds => match strsOf ds with
    | some ys => if decide ((ys.map (·.length)).sum + ys.length * a.length ≤ 1000000) then .ok (.str (Txt.join a ys)) else .st
    | none => .st
  | _ => .st
theorem de_join {apos : Pos} (ho : PE X o (tD W fo)) (he : PE X e (tD W fe)) (hs : starEach [e] X.env = [(false, eval e X.env)] := by rfl) (hbase : attributeBase o "join" X.env (eval o X.env) = eval o X.env := by rfl) (hline : (apos.endLine == pos.line) = true := by rfl) :
    PE X (.Call (.Attribute o "join" apos) [e] [] pos) (tD W (eM1 dJoin fo fe)) :=
  pe_imp (pe_join ho he hs hbase hline) fun σ H Q ⟨ρ, O, re, h⟩ => goM re h fun z d2 y H2 re2 ry h2 => by
    cases d2 with
    | list ds =>
      unfold dJoin at h2
      dsimp only at h2
      split at h2
      · rename_i ys hy
        split at h2
        · rename_i hz
          obtain ⟨p, xs, rfl, ep, q⟩ := ry.i_lst
          have hx := strsOf_ok hy q.2
          subst hx
          have hz := of_decide_eq_true hz
          exact ⟨z, p, ys, rfl, rfl, .inl (SqL.of ep), by omega, h2.here (.str _)⟩
        · exact h2.elim
      · exact h2.elim
    | _ => exact h2.elim
def dSplit (a : Str) : PyData → Re PyData
  | .str b => if (b.length != 0) && decide (a.length + 2 ≤ 1000000) then .ok (.list ((Txt.split a b).map .str)) else .st
  | _ => .st
theorem rpl_strs {O : Ow} {H : Hp} : ∀ ys : List Str, RpL O H (ys.map V.str) (ys.map PyData.str)
  | [] => .nil
  | y :: ys => .cons (.str y) (rpl_strs ys)
theorem de_split {apos : Pos} (ho : PE X o (tD W fo)) (he : PE X e (tD W fe)) (hs : starEach [e] X.env = [(false, eval e X.env)] := by rfl) (hbase : attributeBase o "split" X.env (eval o X.env) = eval o X.env := by rfl) (hline : (apos.endLine == pos.line) = true := by rfl) :
    PE X (.Call (.Attribute o "split" apos) [e] [] pos) (tD W (eM1 dSplit fo fe)) :=
  pe_imp (pe_split ho he hs hbase hline) fun σ H Q ⟨ρ, O, re, h⟩ => goM re h fun z d2 y H2 re2 ry h2 => by
    cases d2 with
    | str b =>
      unfold dSplit at h2
      dsimp only at h2
      split at h2
      · rename_i hz
        simp only [Bool.and_eq_true, decide_eq_true_eq] at hz
        cases ry.i_str
        refine ⟨z, b, rfl, rfl, ?_, by rw [sizeLine_eq]; omega, fun p hp => h2.newL re2 hp (rpl_strs _)⟩
        cases g : b.length == 0 with
        | false => rfl
        | true => have := hz.1; simp [bne, g] at this
      · exact h2.elim
    | _ => exact h2.elim
/-! ## the signs of a text -/
def sgn (c : Nat) : PyData := .str ⟨#[c]⟩
def iStrD (fa : En → Re PyData) : En → Re (List PyData) := fun ρ => (fa ρ).bind fun d => match d with
  | .str x => .ok (x.cps.toList.map sgn)
  | _ => .st
theorem di_str {tg l : Expr} (hl : PE X l (tD W fa)) : PI X tg l (iD W (iStrD fa)) := pi_imp (pi_str hl) fun σ H R ⟨ρ, O, re, h⟩ => goI re h fun d v H1 re1 _ rv h1 => by
  cases d with
  | str x =>
    cases rv.i_str
    refine ⟨x, rfl, h1 _ H1 (Same.refl _) fun H2 O2 k _ => ⟨?_, fun i d hd => ?_⟩⟩
    · show x.cps.size ≤ (x.cps.toList.map sgn).length
      simp
    · rw [List.getElem?_map] at hd
      cases g : x.cps.toList[i]? with
      | none => rw [g] at hd; cases hd
      | some c =>
        rw [g] at hd
        cases hd
        have hi : i < x.cps.size := by
          by_cases z : i < x.cps.size
          · exact z
          · rw [List.getElem?_eq_none (by simpa using z)] at g; cases g
        refine ⟨hi, fun v H' y => ?_⟩
        obtain ⟨rfl, c2, hc2, rfl⟩ := y
        rw [Array.getElem?_toList] at g
        rw [g] at hc2
        cases hc2
        exact ⟨Same.refl _, .str _⟩
  | _ => exact h1.elim
def dNinS : PyData → PyData → Re PyData
  | .str x, .str z => match x.cps.toList with
    | [c] => .ok (.bool (!decide (c ∈ z.cps.toList)))
    | _ => .st
  | _, _ => .st
theorem o_ninS : Op2 W dNinS (fun x y H Q => ∃ (c : Nat) (z : Str), x = .str ⟨#[c]⟩ ∧ y = .str z ∧ Q (.bl (!decide (c ∈ z.cps.toList))) H) := by
  intro σ O ρ H x y d e Q re rx ry h
  unfold dNinS at h
  split at h
  · rename_i u z
    split at h
    · rename_i c hc
      cases rx.i_str
      cases ry.i_str
      obtain ⟨⟨l⟩⟩ := u
      have hc : l = [c] := hc
      subst hc
      exact ⟨c, z, rfl, rfl, h.here (.bl _)⟩
    · exact h.elim
  · exact h.elim
theorem dt_ninS (ha : PE X a (tD W fa)) (hb : PE X b (tD W fb)) (hm : behindInMarks .NotIn b = false := by rfl) : PT X (.Compare a [.NotIn] [b] pos) (DL.tB W (toB (e2 dNinS fa fb))) := dt_cmpI op_notIn_sign ha hb hm (imp2 o_ninS)
/-! ## x[::2] of five -/
def dStep2 : PyData → Re PyData
  | .list [a, _, b, _, c] => .ok (.list [a, b, c])
  | _ => .st
theorem pick2 (u0 u1 u2 u3 u4 : Value) : slicePick #[u0, u1, u2, u3, u4] none none (some 2) = #[u0, u2, u4] := by
  have z : sliceRange (sliceBounds none none (some 2) 5).1 (sliceBounds none none (some 2) 5).2.1 (sliceBounds none none (some 2) 5).2.2 = [0, 2, 4] := by decide +kernel
  unfold slicePick
  show ((sliceRange (sliceBounds none none (some 2) 5).1 (sliceBounds none none (some 2) 5).2.1 (sliceBounds none none (some 2) 5).2.2).filterMap fun x => #[u0, u1, u2, u3, u4][x]?).toArray = _
  rw [z]
  rfl
def tStep2 (K : PySem.W.Frag) (te : TE) : TE := fun σ H Q => te σ H fun x H1 => ∃ a x0 x1 x2 x3 x4, x = .ref a ∧ SqL K H1 a [x0, x1, x2, x3, x4] ∧ ∀ p, H1 p = none → Q (.ref p) (upd H1 p (.lst [x0, x2, x4]))
theorem pe_step2 {te : TE} {k : Nat} {p1 p3 : Pos} (ha : PE X a te) : PE X (.Subscript a (.Slice none none (some (.Constant (.int 2) k p1)) p3) pos) (tStep2 X.K te) := by
  refine ⟨fun pn sh sg hp K1 inv want => ?_⟩
  refine Subscript_ (thn (ha.run pn sh sg hp _ inv want) fun v s1 ⟨x, H1, J1, rx, ad, x0, x1, x2, x3, x4, ex, sq, q⟩ => ?_)
  subst ex
  cases rx
  have two : PO X (some (.Constant (.int 2) k p1)) (tPart (tC (.int 2))) := po_some pe_int
  refine wpAny_Slice (thn (po_none.run pn s1 sg H1 (fun o h => o = none ∧ h = H1) J1 ⟨rfl, rfl⟩) fun vl s2 ⟨lo, G2, J2, pl, el, g2⟩ => ?_)
  subst el g2
  refine thn (po_none.run pn s2 sg G2 (fun o h => o = none ∧ h = G2) J2 ⟨rfl, rfl⟩) fun vu s3 ⟨up, G3, J3, pu, eu, g3⟩ => ?_
  subst eu g3
  refine thn (two.run pn s3 sg G3 (fun o h => o = some 2 ∧ h = G3) J3 ⟨2, rfl, rfl, rfl⟩) fun vs s4 ⟨st, G4, J4, ps, es, g4⟩ => ?_
  subst es g4
  have J5 : Inv X pn sg G4 { s4 with heap := s4.heap.push { cls := .type "slice", data := .fields #[vl, vu, vs] } } := J4.kept (t' := s4.toks) fun b o z => Heap.get?_push_of_some _ z
  obtain ⟨its, rv, pl5, _⟩ := J5.list sq
  obtain ⟨u0, u1, u2, u3, u4, rfl, r0, r2, r4⟩ : ∃ u0 u1 u2 u3 u4, its = [u0, u1, u2, u3, u4] ∧ RelV x0 u0 ∧ RelV x2 u2 ∧ RelV x4 u4 := by
    cases rv with
    | cons r0 rv =>
      cases rv with
      | cons r1 rv =>
        cases rv with
        | cons r2 rv =>
          cases rv with
          | cons r3 rv =>
            cases rv with
            | cons r4 rv =>
              cases rv
              exact ⟨_, _, _, _, _, rfl, r0, r2, r4⟩
  show wpAny (model X.prog X.w) X.A (subscriptTail a (.Slice none none (some (.Constant (.int 2) k p1)) p3) (.ref ad) (.ref s4.heap.objs.size)) (EP X pn sg K1) X.xe { s4 with heap := s4.heap.push { cls := .type "slice", data := .fields #[vl, vu, vs] } }
  refine tail_any (ops := [.ref ad, .ref s4.heap.objs.size]) pl5.isList.typeIs (PySem.slot_list_getitem.lookup) ?_ (by with_unfolding_all rfl)
  refine wpAny_getItem_list_slice (items := #[u0, u1, u2, u3, u4]) (lo := none) (hi := none) (st := some 2) pl5.isList (Heap.IsSliceOf.new _ vl vu vs) pl pu ps (by decide) ?_ (by rw [sizeLine_eq]; exact (by decide : 5 ≤ 16777216))
  rw [pick2]
  refine ⟨.ref _, _, J5.laid (t' := s4.toks) (o := .lst [x0, x2, x4]) (fun b o z => Heap.get?_push_of_some _ z) (Nat.le_refl _) ?_, rfl, q _ (J5.hok.fresh (Nat.le_refl _))⟩
  exact ⟨by rw [sizeLine_eq]; exact (by decide : 3 ≤ 16777216), [u0, u2, u4], 0, .cons r0 (.cons r2 (.cons r4 .nil)), Heap.get?_push_size _ rfl⟩
theorem de_step2 {k : Nat} {p1 p3 : Pos} (ha : PE X a (tD W fa)) : PE X (.Subscript a (.Slice none none (some (.Constant (.int 2) k p1)) p3) pos) (tD W (e1 dStep2 fa)) :=
  pe_imp (pe_step2 ha) fun σ H Q ⟨ρ, O, re, h⟩ => goD re h fun d x H1 re1 _ rx h1 => by
    unfold dStep2 at h1
    split at h1
    · obtain ⟨p, xs, rfl, ep, _, q⟩ := rx.i_lst
      match xs, q with
      | [x0, x1, x2, x3, x4], .cons q0 (.cons q1 (.cons q2 (.cons q3 (.cons q4 .nil)))) =>
        exact ⟨p, x0, x1, x2, x3, x4, rfl, SqL.of ep, fun nw hn => h1.newL re1 hn (.cons q0 (.cons q2 (.cons q4 .nil)))⟩
    · exact h1.elim
end
end DL

/-! # a clause's suite of several statements, in which the exception is looked at -/
namespace DL
open PySem PySem.Spec L2 PyProof.Rows
/-- the slot i holds the exception a; d its dict, p what stands there -/
def tRG (i : Nat) (a : Addr) (d : Option Addr) (p : Option PyData) (f : En → Re PyData) : TE := fun σ H Q => ∃ ρ O, RE O ρ σ H ∧ σ[i]? = some (some (.ref a)) ∧ PayR O H d p ∧ tR W0 O (f ρ) σ H Q
def tAG (i : Nat) (a : Addr) (d : Option Addr) (p : Option PyData) (f : En → Re (List PyData)) : TA := fun σ H Q => ∃ ρ O, RE O ρ σ H ∧ σ[i]? = some (some (.ref a)) ∧ PayR O H d p ∧ tRA W0 O (f ρ) σ H Q
theorem PayR.same {O : Ow} {H H' : Hp} (s : Same H H') : ∀ {d : Option Addr} {p : Option PyData}, PayR O H d p → PayR O H' d p
  | none, none, _ => trivial
  | some a, some d, ⟨v, e, r⟩ => ⟨v, s _ _ e, r.kp (.same s)⟩
  | none, some _, h => h.elim
  | some _, none, h => h.elim
section
variable {X : Cx} {i : Nat} {a : Addr} {d : Option Addr} {p : Option PyData} {e e1 e2 c : Expr} {es : List Expr} {f g : En → Re PyData} {fs : En → Re (List PyData)} {pos : Pos}
theorem dg_of (h : PE X e (tD W0 f)) : PE X e (tRG i a d p f) := pe_imp h fun _ _ _ ⟨ρ, O, re, _, _, h⟩ => ⟨ρ, O, re, h⟩
theorem ga_nil : PA X [] (tAG i a d p aNil) := pa_imp pa_nil fun σ H Q ⟨ρ, O, re, _, _, h⟩ => h [] H (Same.refl H) .nil
theorem goG {k : PyData → Re PyData} {σ : Sg} {O : Ow} {ρ : En} {H : Hp} {Q R : VK} (re : RE O ρ σ H) (hi : σ[i]? = some (some (.ref a))) (py : PayR O H d p) (h : tR W0 O ((f ρ).bind k) σ H Q) (n : ∀ z x H1, RE O ρ σ H1 → Same H H1 → Rp O H1 x z → tR W0 O (k z) σ H1 Q → R x H1) : tRG i a d p f σ H R := by
  refine ⟨ρ, O, re, hi, py, ?_⟩
  cases e : f ρ with
  | ok z =>
    rw [e] at h
    exact fun v H1 s q => n z v H1 (re.same s) s q (tR.same h s)
  | ex c p => rw [e] at h; exact h
  | st => rw [e] at h; exact h
theorem ga_cons (ha : PE X e (tRG i a d p f)) (hr : PA X es (tAG i a d p fs)) (hs : starEach (e :: es) X.env = (false, eval e X.env) :: starEach es X.env := by rfl) : PA X (e :: es) (tAG i a d p (aCons f fs)) :=
  pa_imp (pa_cons ha hr hs) fun σ H Q ⟨ρ, O, re, hi, py, h⟩ => by
    refine ⟨ρ, O, re, hi, py, ?_⟩
    unfold aCons at h
    cases e : f ρ with
    | ex c p => rw [e] at h; exact h
    | st => rw [e] at h; exact h
    | ok z =>
      rw [e] at h
      intro x H1 s1 rx
      refine ⟨ρ, O, re.same s1, hi, py.same s1, ?_⟩
      have h1 := tRA.same h s1
      rw [Re.bind_ok] at h1
      cases e' : fs ρ with
      | ok ds =>
        rw [e'] at h1
        exact fun vs H2 s2 rs => h1 _ H2 s2 (.cons (rx.kp (.same s2)) rs)
      | ex c p => rw [e'] at h1; exact h1
      | st => rw [e'] at h1; exact h1
theorem dg_lst (h : PA X es (tAG i a d p fs)) : PE X (.List es pos) (tRG i a d p (eLst fs)) :=
  pe_imp (pe_lst h) fun σ H Q ⟨ρ, O, re, hi, py, h⟩ => by
    refine ⟨ρ, O, re, hi, py, ?_⟩
    unfold eLst at h
    cases e : fs ρ with
    | ex c p => rw [e] at h; exact h
    | st => rw [e] at h; exact h
    | ok ds =>
      rw [e] at h
      intro xs H1 s1 rx
      have h1 := tR.same h s1
      rw [Re.bind_ok] at h1
      split at h1
      · rename_i hf
        exact ⟨by rw [rx.len]; exact fits_line hf, fun p hp => h1.newL (re.same s1) hp rx⟩
      · exact h1.elim
theorem dg_add (ha : PE X e1 (tRG i a d p f)) (hb : PE X e2 (tRG i a d p g)) : PE X (.BinOp e1 .Add e2 pos) (tRG i a d p (DL.e2 dAdd f g)) :=
  pe_imp (pe_op or_add ha hb) fun σ H Q ⟨ρ, O, re, hi, py, h⟩ => goG re hi py h fun z x H1 re1 s1 rx h1 => goG re1 hi (py.same s1) h1 fun w y H2 re2 s2 ry h2 => o_add σ O ρ H2 x y z w Q re2 (rx.kp (.same s2)) ry h2
theorem dg_if {gc : En → Re Bool} (hc : PT X c (DL.tB W0 gc)) (ha : PE X e1 (tRG i a d p f)) (hb : PE X e2 (tRG i a d p g)) : PE X (.IfExp c e1 e2 pos) (tRG i a d p (eIf gc f g)) :=
  pe_imp (pe_ifExp hc ha hb) fun σ H Q ⟨ρ, O, re, hi, py, h⟩ => goB re h fun k H1 re1 s1 h1 => by
    cases k with
    | true => exact iteT ⟨ρ, O, re1, hi, py.same s1, h1⟩
    | false => exact iteF ⟨ρ, O, re1, hi, py.same s1, h1⟩
/-- of what is not reached -/
def eNo : En → Re PyData := fun _ => .st
theorem dg_no : PE X e (tRG i a d p eNo) := ⟨fun pins s σ H Q I ⟨ρ, O, _, _, _, h⟩ => h.elim⟩
/-! ## isinstance(e, C), e.line -/
def eIsE (cT : Addr → Addr → Option Bool) (c C : Addr) : En → Re PyData := fun _ => match cT c C with
  | some b => .ok (.bool b)
  | none => .st
def eIsV (cT : Addr → Addr → Option Bool) (c C : Addr) : En → Re PyData := fun _ => match cT c C with
  | some _ => .ok (.bool true)
  | none => .st
def eLine (c C : Addr) (p : Option PyData) : En → Re PyData := fun _ => if c = C then (match p with
  | some d => .ok d
  | none => .st) else .st
theorem call_isG {a c : Addr} {d : Option Addr} {oe : Obj} {pn : List (Addr × Obj)} (ec : ExcC X.K c) (hz : Zc (.ref c) d oe) (hf : ∃ vs, oe.data = .fields vs) :
    CallR (X.suite a ((a, oe) :: pn)) (.builtin "isinstance") (fun xs H Q => ∃ (y : V) (cv : Value) (b : Bool), xs = [.ref a, y] ∧ (∀ u, RelV y u → u = cv) ∧ (∀ dd, d = some dd → ∃ fs, H dd = some (.xd fs)) ∧ PySem.W.kitOne X.K (.ref c) cv = some b ∧ Q (.bl b) H) := by
  cases d with
  | none =>
    intro pins s σ H xs us Q I r ⟨y, cv, b, h1, h2, _, h3, h4⟩
    exact call_isE ec hz hf pins s σ H xs us Q I r ⟨y, cv, b, h1, h2, h3, h4⟩
  | some dd =>
    intro pins s σ H xs us Q I r h
    obtain ⟨y, cv, b, rfl, hy, hdd, kt, q⟩ := h
    obtain ⟨fs, ed⟩ := hdd dd rfl
    cases r with
    | cons rx rr =>
      cases rr with
      | cons rt rr =>
        cases rr
        cases rx
        have ev := hy _ rt
        subst ev
        have here := (I.pin (a, oe) (List.mem_append.mpr (.inl List.mem_cons_self))).1
        obtain ⟨vs, hv⟩ := hf
        obtain ⟨mA, ns, _⟩ : ObjOk X.prog X.w H s.heap dd (.xd fs) := I.hok dd _ ed
        obtain ⟨od, ho, _⟩ := lookIn_ns ns
        have J : PySem.W.InstAt s.heap a oe c (some od) := ⟨here, hz.1, by unfold PySem.W.notCls; rw [hv] <;> rfl, by rw [hz.2]; exact ho⟩
        exact PySem.W.kia_one (PySem.W.kitx_exc (by obtain ⟨cd, hc, _⟩ := PySem.W.any_some ec.hd; rw [hc]; rfl) ec.hg ec.hk ec.hs ec.ha ec.hn ec.ht ec.hm) I.kIn J kt (fun z => nomatch z) fun tk => ⟨.bl b, H, I.kept (t' := tk) fun _ _ z => z, rfl, q⟩
theorem dg_isE {cT : Addr → Addr → Option Bool} (xt : XTab X.K cT) {a c C : Addr} {oe : Obj} {pn : List (Addr × Obj)} {x y : Str} {q q1 q2 : Pos} (hz : Zc (.ref c) d oe) (hf : ∃ vs, oe.data = .fields vs) (hm : X.mg "isinstance" = none) (hy : X.mg y = some (.ref C))
    (hN : X.N[i]? = some x := by rfl) (hv : Vis X.env.scope x := by first | exact Or.inl rfl | exact Or.inr (Or.inl rfl) | exact Or.inr (Or.inr rfl)) (hd : (x == ("__debug__" : Str)) = false := by decide) (hcd : (x == ("__classdict__" : Str)) = false := by decide)
    (hg : Gl X "isinstance" := by rfl) (hgy : Gl X y := by rfl) (hdy : (y == ("__debug__" : Str)) = false := by decide) (hs : starEach [.Name x q1, .Name y q2] X.env = (false, eval (.Name x q1) X.env) :: starEach [.Name y q2] X.env := by rfl) (hs2 : starEach [.Name y q2] X.env = (false, eval (.Name y q2) X.env) :: starEach [] X.env := by rfl) (hpl : (backTo pos (starEach [.Name y q2] X.env)).any (·.1) = false := by rfl) :
    PE (X.suite a ((a, oe) :: pn)) (.Call (.Name "isinstance" q) [.Name x q1, .Name y q2] [] pos) (tRG i a d p (eIsE cT c C)) := by
  cases hc : cT c C with
  | none => exact ⟨fun pins s σ H Q I ⟨ρ, O, _, _, _, h⟩ => by unfold eIsE at h; rw [hc] at h; exact h.elim⟩
  | some b =>
    have k := xt.ok c C b hc
    refine pe_imp (pe_callB (X := X.suite a ((a, oe) :: pn)) (pos := pos) (p := q) (call_isG k.2.2 hz hf) hg hm (by decide +kernel) (pa_cons (pe_var (X := X.suite a ((a, oe) :: pn)) hN hv hd hcd) (pa_cons (pe_glob (X := X.suite a ((a, oe) :: pn)) (v := .ref C) hgy hy rfl hdy) pa_nil hs2) hs) (he := hs) (hpl := hpl)) fun σ H Q ⟨ρ, O, re, hi, py, h⟩ => ?_
    unfold eIsE at h
    rw [hc] at h
    refine ⟨_, hi, .ref C, .ref C, b, rfl, fun u r => r, fun dd ed => ?_, k.1, h.here (.bl b)⟩
    subst ed
    cases p with
    | none => exact py.elim
    | some z => obtain ⟨v, e, _⟩ := py; exact ⟨_, e⟩
/-- isinstance(e, ValueError) -/
theorem dg_isV {cT : Addr → Addr → Option Bool} (xt : XTab X.K cT) {a c C : Addr} (hV : ∀ b, cT c C = some b → PySem.W.subIn X.K (.ref c) (.type "ValueError") = some true) {oe : Obj} {pn : List (Addr × Obj)} {x : Str} {q q1 q2 : Pos} (hz : Zc (.ref c) d oe) (hf : ∃ vs, oe.data = .fields vs) (hm : X.mg "isinstance" = none) (hy : X.mg "ValueError" = none)
    (hN : X.N[i]? = some x := by rfl) (hv : Vis X.env.scope x := by first | exact Or.inl rfl | exact Or.inr (Or.inl rfl) | exact Or.inr (Or.inr rfl)) (hd : (x == ("__debug__" : Str)) = false := by decide) (hcd : (x == ("__classdict__" : Str)) = false := by decide)
    (hg : Gl X "isinstance" := by rfl) (hgy : Gl X "ValueError" := by rfl) (hs : starEach [.Name x q1, .Name "ValueError" q2] X.env = (false, eval (.Name x q1) X.env) :: starEach [.Name "ValueError" q2] X.env := by rfl) (hs2 : starEach [.Name "ValueError" q2] X.env = (false, eval (.Name "ValueError" q2) X.env) :: starEach [] X.env := by rfl) (hpl : (backTo pos (starEach [.Name "ValueError" q2] X.env)).any (·.1) = false := by rfl) :
    PE (X.suite a ((a, oe) :: pn)) (.Call (.Name "isinstance" q) [.Name x q1, .Name "ValueError" q2] [] pos) (tRG i a d p (eIsV cT c C)) := by
  cases hc : cT c C with
  | none => exact ⟨fun pins s σ H Q I ⟨ρ, O, _, _, _, h⟩ => by unfold eIsV at h; rw [hc] at h; exact h.elim⟩
  | some b =>
    have k := xt.ok c C b hc
    have hbt : bootBuiltins "ValueError" = some (.type "ValueError") := by decide +kernel
    have kt : PySem.W.kitOne X.K (.ref c) (.type "ValueError") = some true := by
      unfold PySem.W.kitOne
      rw [if_neg (by simp)]
      show (if PySem.W.kitMeta "ValueError" = true then PySem.W.subIn X.K (.ref c) (.type "ValueError") else none) = some true
      rw [if_pos (by decide +kernel), hV b hc]
    refine pe_imp (pe_callB (X := X.suite a ((a, oe) :: pn)) (pos := pos) (p := q) (call_isG k.2.2 hz hf) hg hm (by decide +kernel) (pa_cons (pe_var (X := X.suite a ((a, oe) :: pn)) hN hv hd hcd) (pa_cons (pe_bltn (X := X.suite a ((a, oe) :: pn)) (v := .ty "ValueError") hgy hy hbt rfl) pa_nil hs2) hs) (he := hs) (hpl := hpl)) fun σ H Q ⟨ρ, O, re, hi, py, h⟩ => ?_
    unfold eIsV at h
    rw [hc] at h
    refine ⟨_, hi, .ty "ValueError", .type "ValueError", true, rfl, fun u r => r, fun dd ed => ?_, kt, h.here (.bl true)⟩
    subst ed
    cases p with
    | none => exact py.elim
    | some z => obtain ⟨v, e, _⟩ := py; exact ⟨_, e⟩
/-- e.line, where there is one: of class C alone -/
theorem dg_line {cT : Addr → Addr → Option Bool} (xt : XTab X.K cT) {a c C : Addr} (hcc : cT C C = some true) {oe : Obj} {pn : List (Addr × Obj)} {x : Str} {q1 : Pos} (hno : PySem.W.findIn X.K (.ref C) "line" = some none) (hz : Zc (.ref c) d oe) (hf : ∃ vs, oe.data = .fields vs)
    (hN : X.N[i]? = some x := by rfl) (hv : Vis X.env.scope x := by first | exact Or.inl rfl | exact Or.inr (Or.inl rfl) | exact Or.inr (Or.inr rfl)) (hd : (x == ("__debug__" : Str)) = false := by decide) (hcd : (x == ("__classdict__" : Str)) = false := by decide)
    (hb : attributeBase (.Name x q1) "line" X.env (eval (.Name x q1) X.env) = eval (.Name x q1) X.env := by rfl) :
    PE (X.suite a ((a, oe) :: pn)) (.Attribute (.Name x q1) "line" pos) (tRG i a d p (eLine c C p)) := by
  by_cases hc : c = C
  · subst hc
    have ec := (xt.ok c c true hcc).2.2
    refine pe_imp (pe_xf ⟨ec.hg, ec.hk, ec.hs, ec.hd⟩ hno hz hf (pe_var (X := X.suite a ((a, oe) :: pn)) hN hv hd hcd) hb) fun σ H Q ⟨ρ, O, re, hi, py, h⟩ => ?_
    unfold eLine at h
    rw [if_pos rfl] at h
    cases p with
    | none => exact h.elim
    | some z =>
      cases d with
      | none => exact py.elim
      | some dd =>
        obtain ⟨v, e, r⟩ := py
        exact ⟨.ref a, hi, rfl, rfl, dd, _, v, rfl, e, by simp [List.lookup], h.here r⟩
  · exact ⟨fun pins s σ H Q I ⟨ρ, O, _, _, _, h⟩ => by unfold eLine at h; rw [if_neg hc] at h; exact h.elim⟩
end
/-! ## statements -/
def tSG (i : Nat) (a : Addr) (H0 : Hp) (O0 : Ow) (r : SR) (D : Ends) : Prop := match r with
  | .nx ρ => ∀ σ H, RS H0 O0 ρ σ H → σ[i]? = some (some (.ref a)) → D.nx σ H
  | _ => False
def sG (i : Nat) (a : Addr) (d : Option Addr) (p : Option PyData) (f : En → SR) : TS := fun D σ H => ∃ ρ H0 O0, RS H0 O0 ρ σ H ∧ σ[i]? = some (some (.ref a)) ∧ PayR O0 H0 d p ∧ tSG i a H0 O0 (f ρ) D
theorem PayR.up {H0 : Hp} {O0 : Ow} {ρ : En} {σ : Sg} {H : Hp} (rs : RS H0 O0 ρ σ H) {d : Option Addr} {p : Option PyData} (py : PayR O0 H0 d p) : PayR (Oa O0 ρ σ) H d p := by
  have k : Kp O0 H0 (Oa O0 ρ σ) H := fun a o e n => ⟨rs.same a o e, fun z => z.elim n fun z => rs.noOs e z⟩
  cases d with
  | none =>
    cases p with
    | none => trivial
    | some z => exact py.elim
  | some a =>
    cases p with
    | none => exact py.elim
    | some z => obtain ⟨v, e, r⟩ := py; exact ⟨v, rs.same _ _ e, r.kp k⟩
theorem PayR.down {H0 : Hp} {O0 : Ow} {ρ : En} {σ : Sg} {H : Hp} (rs : RS H0 O0 ρ σ H) {d : Option Addr} {p : Option PyData} (py : PayR (Oa O0 ρ σ) H d p) : PayR O0 (mnH H ρ σ) d p := by
  have k : Kp (Oa O0 ρ σ) H O0 (mnH H ρ σ) := fun a o e n => ⟨by rw [mnH_ne fun z => n (.inr z)]; exact e, fun z => n (.inl z)⟩
  cases d with
  | none =>
    cases p with
    | none => trivial
    | some z => exact py.elim
  | some a =>
    cases p with
    | none => exact py.elim
    | some z =>
      obtain ⟨v, e, r⟩ := py
      refine ⟨v, ?_, r.kp k⟩
      rw [mnH_ne, e]
      rintro ⟨j, x, e1, e2⟩
      have e3 := rs.re.at_ j _ e1
      cases x with
      | no => exact e2
      | va _ => exact e2
      | ow x =>
        obtain ⟨q, e3, _, e4⟩ := e3
        rw [e2] at e3
        cases e3
        cases x with
        | list ds => obtain ⟨xs, f1, _⟩ := e4; rw [e] at f1; cases f1
        | dict ds => obtain ⟨xs, f1, _⟩ := e4; rw [e] at f1; cases f1
        | _ => exact e4
      | ob C A st =>
        obtain ⟨_, _, _, ⟨dx, vm, vt, f1, _, _⟩, ⟨cs, f2, _⟩, ⟨bs, f3, _⟩⟩ := e3
        rcases e2 with rfl | rfl | rfl
        · rw [e] at f1; cases f1
        · rw [e] at f2; cases f2
        · rw [e] at f3; cases f3
section
variable {X : Cx} {i : Nat} {a : Addr} {d : Option Addr} {p : Option PyData} {e : Expr} {pos pos' : Pos}
theorem gs_set (j : Nat) {x : Str} {fe : En → Re PyData} (he : PE X e (tRG i a d p fe)) (hN : X.N.Nodup) (hj : j ≠ i) (hi : X.N[j]? = some x := by rfl) (hx : Loc X.env.scope x := by first | exact Or.inl rfl | exact Or.inr rfl) (hs : swapsWith e (some (.Name x pos')) pos.line X.env = pure false := by rfl)
    (hf : X.fn x = true ∨ X.env.scope.names.lookup x = some .local := by first | exact .inl rfl | exact .inr rfl | assumption) : PS X (.Assign [.Name x pos'] e pos) (sG i a d p (sSet j fe)) :=
  ps_imp (ps_set hN hi hx he hs hf) fun D σ H ⟨ρ, H0, O0, rs, h1, py, h⟩ => by
    refine ⟨ρ, _, rs.re, h1, py.up rs, ?_⟩
    unfold sSet at h
    cases e : fe ρ with
    | ex c p => rw [e] at h; exact h.elim
    | st => rw [e] at h; exact h.elim
    | ok z =>
      rw [e] at h
      intro v H1 s r
      refine h _ H1 ((rs.heap s).setV r) ?_
      rw [List.getElem?_set_ne hj]
      exact h1
theorem gss_one {s : Stmt} {f : En → SR} (h : PS X s (sG i a d p f)) : PSs X [s] (sG i a d p f) := pss_one h
theorem gss_cons {s : Stmt} {ss : List Stmt} {f g : En → SR} (h1 : PS X s (sG i a d p f)) (h2 : PSs X ss (sG i a d p g)) : PSs X (s :: ss) (sG i a d p (sSeq f g)) :=
  pss_imp (pss_cons h1 h2) fun D σ H ⟨ρ, H0, O0, rs, hi, py, h⟩ => by
    refine ⟨ρ, H0, O0, rs, hi, py, ?_⟩
    unfold sSeq at h
    cases e : f ρ with
    | nx ρ' => rw [e] at h; exact fun σ' H' rs' hi' => ⟨ρ', H0, O0, rs', hi', py, h⟩
    | rt z => rw [e] at h; exact h
    | ex c p ρ' => rw [e] at h; exact h
    | st => rw [e] at h; exact h
/-- the suite as a clause -/
def hNx (fh : Addr → Option PyData → En → SR) (c : Addr) (p : Option PyData) (ρ : En) : SR := match fh c p ρ with
  | .nx ρ' => .nx ρ'
  | _ => .st
theorem hd_G {cT : Addr → Addr → Option Bool} {fh : Addr → Option PyData → En → SR} {Y : Cx} {cls : Value} {b : List Stmt} (h : ∀ c p, cls = .ref c → XTab X.K cT → PSs Y b (sG i a d p (fh c p))) : PSs Y b (hD X.K cT (some i) (hNx fh) a cls d) :=
  ⟨fun pins s σ H D I ⟨c, pp, ρ, H0, O0, hc, py, hi, xt, rs, q⟩ => (h c pp hc xt).run pins s σ H D I ⟨ρ, mnH H ρ σ, O0, rs.base, hi i rfl, py.down rs, by
    unfold hNx at q
    cases e : fh c pp ρ with
    | nx ρ' => rw [e] at q; exact fun σ' H' rs' _ => q σ' H' (rs'.unbase rs.based rs.dom0)
    | rt z => rw [e] at q; exact q.elim
    | ex c p ρ' => rw [e] at q; exact q.elim
    | st => rw [e] at q; exact q.elim⟩⟩
end
end DL

/-! # methods and new objects, what is raised wished for at the slots -/
namespace DL
open PySem PySem.Spec L2 PyProof.Rows
section
variable {X : Cx} {T : CXT} {k : Nat} {f C : Addr} {fd : FuncData} {ps : List Str} {sp : Sp} {E : L2.St → XK} {x m : Str} {p pos apos : Pos} {e o : Expr} {es : List Expr} {ta : TE} {t : TA}
def tMethD (C : Addr) (m : Str) (sp : Sp) (E : L2.St → XK) (ta : TE) (t : TA) : TE := fun σ H Q => ta σ H fun x H1 => ∃ a dx fs, x = .ref a ∧ H1 a = some (.ins C dx fs) ∧ fs.lookup m = none ∧ t σ H1 fun vs H2 => sp (x :: vs) H2 Q (E σ)
theorem pe_methD {pl : Sem Bool} (he : PE X o ta) (c : L2.Cls X.K C) (hm : Meth X.K C m f) (F : FnOk X.prog X.w X.K X.mg X.base T k f fd ps sp) (hr : Room k X.A) (hb : Binds X.K fd ps []) (hx : ∀ σ, PassesAt T X σ (E σ)) (ha : PA X (e :: es) t)
    (hst : starEach (e :: es) X.env = (false, eval e X.env) :: starEach es X.env := by rfl) (hpl : (backTo pos (starEach es X.env)).any (·.1) = false := by rfl)
    (ht : eval (.Call (.Attribute o m apos) (e :: es) [] pos) X.env = (do let ov ← eval o X.env; standAt apos.atName; let (f, first) ← holding [ov] (getMethod ov m pl); callWith pos f first (backTo pos (starEach (e :: es) X.env)) (backToKw pos (keywordEach [] X.env))) := by rfl) :
    PE X (.Call (.Attribute o m apos) (e :: es) [] pos) (tMethD C m sp E ta t) := by
  refine ⟨fun pn sh sg hp G inv want => ?_⟩
  refine PySem.W.methodCall_KW (pl := pl) (thn (he.run pn sh sg hp _ inv want) fun u s1 ⟨x, H1, I1, rx, a, dx, fs, ex, ea, l, q⟩ => ?_) ht
  subst ex
  obtain rfl : u = Value.ref a := rx
  refine getmeth_ok I1 ea c hm l ?_
  refine PySem.W.callWith_K (first := [.ref a]) (h₀ := X.base) inv.ok.mod.kin hm.kp (thn (ha.run pos pn s1 sg H1 _ I1 q) fun us s2 ⟨vs, H2, I2, r, q2⟩ => ⟨I2.kIn, ?_⟩) hst hpl
  exact run_fnSD (us := .ref a :: us) (vs := .ref a :: vs) F hr hb .nil (hx sg) I2 (.cons rfl r) (by rw [List.append_nil]; exact q2)
theorem pe_methD0 {pl : Sem Bool} (he : PE X o ta) (c : L2.Cls X.K C) (hm : Meth X.K C m f) (F : FnOk X.prog X.w X.K X.mg X.base T k f fd ps sp) (hr : Room k X.A) (hb : Binds X.K fd ps []) (hx : ∀ σ, PassesAt T X σ (E σ))
    (ht : eval (.Call (.Attribute o m apos) [] [] pos) X.env = (do let ov ← eval o X.env; standAt apos.atName; let (f, first) ← holding [ov] (getMethod ov m pl); callWith pos f first (backTo pos (starEach [] X.env)) (backToKw pos (keywordEach [] X.env))) := by rfl) :
    PE X (.Call (.Attribute o m apos) [] [] pos) (tMethD C m sp E ta tNil) := by
  refine ⟨fun pn sh sg hp G inv want => ?_⟩
  refine PySem.W.methodCall_KW (pl := pl) (thn (he.run pn sh sg hp _ inv want) fun u s1 ⟨x, H1, I1, rx, a, dx, fs, ex, ea, l, q⟩ => ?_) ht
  subst ex
  obtain rfl : u = Value.ref a := rx
  refine getmeth_ok I1 ea c hm l ?_
  exact PySem.W.callWith_K0 (first := [.ref a]) I1.kIn hm.kp (run_fnSD (us := [.ref a]) (vs := [.ref a]) F hr hb .nil (hx sg) I1 (.cons rfl .nil) (by rw [List.append_nil]; exact q))
def tMakeD (C : Addr) (sp : Sp) (E : L2.St → XK) (t : TA) : TE := fun σ H Q => t σ H fun vs H1 => ∀ x dx, H1 x = none → H1 dx = none → dx ≠ x → sp (.ref x :: vs) (upd (upd H1 dx (.own x)) x (.ins C dx [])) (fun v H2 => v = .non ∧ Q (.ref x) H2) (E σ)
theorem pe_makeD (M : Mk X.K C f) (F : FnOk X.prog X.w X.K X.mg X.base T k f fd ps sp) (hr : Room (k + 1) X.A) (hm : X.mg x = some (.ref C)) (hb : Binds X.K fd ps []) (hx : ∀ σ, PassesAt T X σ (E σ)) (ha : PA X (e :: es) t) (hg : Gl X x := by rfl)
    (hdb : (x == ("__debug__" : Str)) = false := by decide) (he : starEach (e :: es) X.env = (false, eval e X.env) :: starEach es X.env := by rfl) (hpl : (backTo pos (starEach es X.env)).any (·.1) = false := by rfl) :
    PE X (.Call (.Name x p) (e :: es) [] pos) (tMakeD C sp E t) := by
  refine ⟨fun pn sh sg hp G inv want => ?_⟩
  refine wpAny_Call_Name_kw (ld_glob inv hg hm ?_ hdb)
  refine PySem.W.callWith_K (h₀ := X.base) inv.ok.mod.kin M.kp (thn (ha.run pos pn sh sg hp _ inv want) fun us s1 ⟨vs, H1, I1, r, q⟩ => ⟨I1.kIn, ?_⟩) he hpl
  have q1 := q (s1.heap.objs.size + 1) s1.heap.objs.size (I1.hok.fresh (Nat.le_succ _)) (I1.hok.fresh (Nat.le_refl _)) (Nat.ne_of_lt (Nat.lt_succ_self _))
  have I2 := Inv.made (C := C) I1
  have r2 : Vals (V.ref (s1.heap.objs.size + 1) :: vs) (Value.ref (s1.heap.objs.size + 1) :: us) := .cons rfl r
  have hl : (Value.ref (s1.heap.objs.size + 1) :: us ++ []).length = ps.length := by
    have e := r2.length
    rw [F.len _ _ _ _ q1] at e
    rw [List.append_nil]
    exact e.symm
  have hbb := hb _ (Value.ref (s1.heap.objs.size + 1) :: us) I2.kIn hl
  rw [List.append_nil] at hbb
  refine wpAny_call (make_map (f := f) I1.kIn M.makes M.init (beq_iff_eq.mp M.fn) (codeAny_mono (F.run _ X.stack _ _ ⟨Value.ref (s1.heap.objs.size + 1) :: us, []⟩ (Value.ref (s1.heap.objs.size + 1) :: us) _ _ (E sg) (hr.make C us []) (I2.env0.make C us []) hbb r2 q1) fun r s' hq' => ?_))
  cases r with
  | error e => exact hx sg pn _ _ e s' I2 hq'
  | ok fl =>
    cases fl with
    | next => exact hq'.elim
    | brk => exact hq'.elim
    | cont => exact hq'.elim
    | ret u =>
      obtain ⟨v, H', I3, rv, ev, q3⟩ := I2.after hq'
      subst ev
      exact ⟨rv, ⟨V.ref (s1.heap.objs.size + 1), H', I3, rfl, q3⟩⟩
end
/-! ## the class Notes -/
structure NtC (K : PySem.W.Frag) (C : Addr) : Prop where
  cls : L2.Cls K C
  nm : NoAttr K C "many"
  nt : NoAttr K C "told"
  nc : NoAttr K C "calls"
  nb : NoAttr K C "before"
/-- what __init__ promises -/
def spInit (C : Addr) : Sp := fun vs H Q _ => ∃ (x dx : Addr) (n : Int), vs = [.ref x, .int n] ∧ 1 ≤ n ∧ n ≤ 16 ∧ H x = some (.ins C dx []) ∧
  ∀ (t c b : Addr) (H' : Hp), (∀ a o, H a = some o → a ≠ x → H' a = some o) → H t = none → H c = none → H b = none → c ≠ b → H' x = some (.ins C dx (nfs (.int n) (.ref t) (.ref c) (.ref b))) → H' t = some (.tup []) → H' c = some (.lst []) → H' b = some (.lst []) → Q .non H'
def tInit (K : PySem.W.Frag) (tt : TT) : TS := tSeq (tIfS tt (fun _ _ _ => False) tNext) (tSeq (sFld K (tVar 0) (tVar 1) "many") (tSeq (sFld K (tVar 0) (tTup tNil) "told") (tSeq (sFld K (tVar 0) (tLst tNil) "calls") (sFld K (tVar 0) (tLst tNil) "before"))))
theorem lt1000 {gs fs : List (Str × V)} (e : gs = fs) (h : fs.length < 1000) : gs.length < 1000 := by rw [e]; exact h
theorem init_ok {P : Program} {w : World} {K : PySem.W.Frag} {mg : Str → Option Value} {base : Heap} {qual : Str} {st : Stmt} {f : Addr} {fd : FuncData} {C : Addr} {k : Nat} {gc : En → Re Bool} (F : Fun K "__init__" qual st f fd) (sc : FnScope ["self", "many"] ["self", "many"] (defScope st)) (TC : NtC K C) (hg : ∀ n : Int, 1 ≤ n → n ≤ 16 → gc [.no, .va (.int n)] = .ok false)
    (hb : ∀ (cdv : Value) (A : Around) (outer : List Env) (s : Shared) (H : Hp) (E : XK), Room k (A.deeper (envOfC qual (defScope st) s.heap.objs.size f cdv)) → PSs (cxOf (L2.CX P w) P w K mg base ["self", "many"] qual (defScope st) f cdv A outer s H E) (defBody st) (tInit K (DL.tB (WEx E) gc))) : FnOk P w K mg base (L2.CX P w) (k + 1) f fd ["self", "many"] (spInit C) := by
  refine F.okX sc (fun vs H Q E h => ?_) (fun cdv A outer s H vs Q E hr h => ⟨_, hb cdv A outer s H E hr, ?_⟩)
  · obtain ⟨x, dx, n, rfl, _⟩ := h
    rfl
  · obtain ⟨x, dx, n, rfl, n1, n2, ex, q⟩ := h
    refine ⟨[.no, .va (.int n)], fun _ => False, ⟨rfl, fun _ z => z.elim, fun i s e => ?_⟩, ?_⟩
    · match i, e with
      | 0, e => cases e; trivial
      | 1, e => cases e; exact ⟨.int n, rfl, .int n⟩
      | i + 2, e => exact absurd e (by simp)
    · rw [hg n n1 n2]
      intro H1 s1
      refine iteF ?_
      have e1 := s1 _ _ ex
      refine ⟨.int n, rfl, .ref x, rfl, x, C, dx, [], rfl, e1, TC.cls, TC.nm, by simp, ?_⟩
      refine ⟨by rw [sizeLine_eq]; simp, fun t nt => ⟨.ref x, rfl, x, C, dx, _, rfl, by rw [upd_ne (fun z => by rw [← z, upd_same] at nt; cases nt), upd_same], TC.cls, TC.nt, by simp [putF], ?_⟩⟩
      refine ⟨by rw [sizeLine_eq]; simp, fun c nc => ⟨.ref x, rfl, x, C, dx, _, rfl, (by rw [upd_ne (fun z => by rw [← z, upd_same] at nc; cases nc), upd_same]; rfl), TC.cls, TC.nc, lt1000 (fs := [("many", .int n), ("told", .ref t)]) rfl (by simp), ?_⟩⟩
      refine ⟨by rw [sizeLine_eq]; simp, fun b nb => ⟨.ref x, rfl, x, C, dx, _, rfl, (by rw [upd_ne (fun z => by rw [← z, upd_same] at nb; cases nb), upd_same]; rfl), TC.cls, TC.nb, lt1000 (fs := [("many", .int n), ("told", .ref t), ("calls", .ref c)]) rfl (by simp), ?_⟩⟩
      have tx : t ≠ x := fun z => by rw [z, upd_same] at nt; cases nt
      have cx : c ≠ x := fun z => by rw [z, upd_same] at nc; cases nc
      have bx : b ≠ x := fun z => by rw [z, upd_same] at nb; cases nb
      rw [upd_ne tx] at nt
      rw [upd_ne cx] at nc
      have ct : c ≠ t := fun z => by rw [z, upd_same] at nc; cases nc
      rw [upd_ne ct, upd_ne cx] at nc
      rw [upd_ne bx] at nb
      have bc : b ≠ c := fun z => by rw [z, upd_same] at nb; cases nb
      rw [upd_ne bc, upd_ne bx] at nb
      have bt : b ≠ t := fun z => by rw [z, upd_same] at nb; cases nb
      rw [upd_ne bt, upd_ne bx] at nb
      refine q t c b _ (fun a o ea na => ?_) (s1.free nt) (s1.free nc) (s1.free nb) (Ne.symm bc) upd_same ?_ ?_ ?_
      · have ea := s1 _ _ ea
        have at_ : a ≠ t := ne_of_none ea nt
        have ac : a ≠ c := ne_of_none ea nc
        have ab : a ≠ b := ne_of_none ea nb
        rw [upd_ne na, upd_ne ab, upd_ne na, upd_ne ac, upd_ne na, upd_ne at_, upd_ne na]
        exact ea
      · rw [upd_ne tx, upd_ne (Ne.symm bt), upd_ne tx, upd_ne (Ne.symm ct), upd_ne tx, upd_same]
      · rw [upd_ne cx, upd_ne (Ne.symm bc), upd_ne cx, upd_same]
      · rw [upd_ne bx, upd_same]
/-- back() of a Notes with no calls -/
def spBack0 (C N : Addr) : Sp := fun vs H _ E => ∃ (x dx t c b : Addr) (n : Int), vs = [.ref x] ∧ H x = some (.ins C dx (nfs (.int n) (.ref t) (.ref c) (.ref b))) ∧ H c = some (.lst []) ∧ E (.ref N) none H
def tBack0 (K : PySem.W.Frag) (N : Addr) (E : XK) : TS := tSeq (tIfS (tNot (fun σ H Q => tFld K (tVar 0) "calls" σ H fun x H' => ∃ k, TruV K x H' k ∧ Q k H')) (fun _ _ H => E (.ref N) none H) tNext) (fun _ _ _ => False)
theorem back0_ok {P : Program} {w : World} {K : PySem.W.Frag} {mg : Str → Option Value} {base : Heap} {qual : Str} {st : Stmt} {f : Addr} {fd : FuncData} {C N : Addr} {k : Nat} (F : Fun K "back" qual st f fd) (sc : FnScope ["self"] ["self"] (defScope st)) (TC : NtC K C)
    (hb : ∀ (cdv : Value) (A : Around) (outer : List Env) (s : Shared) (H : Hp) (E : XK), Room k (A.deeper (envOfC qual (defScope st) s.heap.objs.size f cdv)) → PSs (cxOf (L2.CX P w) P w K mg base ["self"] qual (defScope st) f cdv A outer s H E) (defBody st) (tBack0 K N E)) : FnOk P w K mg base (L2.CX P w) (k + 1) f fd ["self"] (spBack0 C N) := by
  refine F.okX sc (fun vs H Q E h => ?_) (fun cdv A outer s H vs Q E hr h => ⟨_, hb cdv A outer s H E hr, ?_⟩)
  · obtain ⟨x, dx, t, c, b, n, rfl, _⟩ := h
    rfl
  · obtain ⟨x, dx, t, c, b, n, rfl, ex, ec, q⟩ := h
    refine ⟨.ref x, rfl, x, C, dx, _, .ref c, rfl, ex, TC.cls, TC.nc, rfl, false, .inl ⟨[], SqL.of ec, rfl⟩, ?_⟩
    exact q
section
variable {X : Cx} {W : WX} {k f g C N : Nat} {fd gd : FuncData} {x : Str} {p1 p2 p3 p4 pos : Pos} {j : Nat}
/-- Notes(1).back() -/
def eNo12 (N : Addr) : En → Re PyData := fun _ => .ex (.ref N) none
theorem de_no12 {pl : Sem Bool} (TC : NtC X.K C) (M : Mk X.K C f) (F : FnOk X.prog X.w X.K X.mg X.base (L2.CX X.prog X.w) k f fd ["self", "many"] (spInit C)) (hm : Meth X.K C "back" g) (G : FnOk X.prog X.w X.K X.mg X.base (L2.CX X.prog X.w) k g gd ["self"] (spBack0 C N)) (hr : Room (k + 1) X.A) (hx : X.mg x = some (.ref C)) (bf : Binds X.K fd ["self", "many"] []) (bg : Binds X.K gd ["self"] []) (tk : Takes X W) (hgl : Gl X x := by rfl) (hdb : (x == ("__debug__" : Str)) = false := by decide)
    (he : starEach [.Constant (.int 1) j p4] X.env = (false, eval (.Constant (.int 1) j p4) X.env) :: starEach [] X.env := by rfl)
    (ht : eval (.Call (.Attribute (.Call (.Name x p1) [.Constant (.int 1) j p4] [] p2) "back" p3) [] [] pos) X.env = (do let ov ← eval (.Call (.Name x p1) [.Constant (.int 1) j p4] [] p2) X.env; standAt p3.atName; let (f, first) ← holding [ov] (getMethod ov "back" pl); callWith pos f first (backTo pos (starEach [] X.env)) (backToKw pos (keywordEach [] X.env))) := by rfl) :
    PE X (.Call (.Attribute (.Call (.Name x p1) [.Constant (.int 1) j p4] [] p2) "back" p3) [] [] pos) (tD W (eNo12 N)) := by
  refine pe_imp (pe_methD0 (pl := pl) (pe_makeD M F hr hx bf (passAt tk) (pa_cons pe_int pa_nil he) hgl hdb he (by rfl)) TC.cls hm G (hr.mono (Nat.le_succ _)) bg (passAt tk) ht) fun σ H Q ⟨ρ, O, re, h⟩ => ?_
  intro y dx ny nd ne
  refine ⟨y, dx, 1, rfl, by decide, by decide, upd_same, fun t c b H' s nt nc nb cb e1 e2 e3 e4 => ⟨rfl, y, dx, _, rfl, e1, rfl, y, dx, t, c, b, 1, rfl, e1, e3, ?_⟩⟩
  refine h H' fun a o ea => ?_
  have ay : a ≠ y := ne_of_none ea ny
  have ad : a ≠ dx := ne_of_none ea nd
  exact s a o (by rw [upd_ne ay, upd_ne ad]; exact ea) ay
end
end DL

/-! # a Notes that is read -/
namespace DL
open PySem PySem.Spec L2 PyProof.Rows
instance adEq : DecidableEq Ad := fun A B => decidable_of_iff (A.p = B.p ∧ A.c = B.c ∧ A.b = B.b) (by cases A; cases B; simp)
def obAt (C : Addr) (ρ : En) (i : Nat) : Option (Ad × NSt) := match ρ[i]? with
  | some (.ob D A st) => if D = C then some (A, st) else none
  | _ => none
theorem obAt_at {C : Addr} {ρ : En} {i : Nat} {A : Ad} {st : NSt} (h : obAt C ρ i = some (A, st)) : ρ[i]? = some (.ob C A st) := by
  unfold obAt at h
  split at h
  · rename_i e
    split at h
    · rename_i z
      cases h
      rw [e, z]
    · cases h
  · cases h
def eOb (C : Addr) (i : Nat) (g : Ad → NSt → Re PyData) : En → Re PyData := fun ρ => match obAt C ρ i with
  | some (A, st) => g A st
  | none => .st
abbrev eMany (C : Addr) (i : Nat) : En → Re PyData := eOb C i fun _ st => .ok st.many
abbrev eTold (C : Addr) (i : Nat) : En → Re PyData := eOb C i fun _ st => .ok st.told
abbrev eCalls (C : Addr) (i : Nat) : En → Re PyData := eOb C i fun _ st => .ok (.list st.calls)
theorem RE.ob {O : Ow} {ρ : En} {σ : Sg} {H : Hp} (r : RE O ρ σ H) {C : Addr} {i : Nat} {A : Ad} {st : NSt} (h : obAt C ρ i = some (A, st)) : σ[i]? = some (some (.ref A.p)) ∧ (∀ a, A.has a → O a) ∧ ObR O H C A st := r.at_ i _ (obAt_at h)
section
variable {X : Cx} {W : WX} {C : Addr} {x : Str} {p pos apos : Pos}
theorem de_many (i : Nat) (TC : NtC X.K C) (hN : X.N[i]? = some x := by rfl) (hv : Vis X.env.scope x := by first | exact Or.inl rfl | exact Or.inr (Or.inl rfl) | exact Or.inr (Or.inr rfl)) (hd : (x == ("__debug__" : Str)) = false := by decide) (hcd : (x == ("__classdict__" : Str)) = false := by decide)
    (hb : attributeBase (.Name x p) "many" X.env (eval (.Name x p) X.env) = eval (.Name x p) X.env := by rfl) : PE X (.Attribute (.Name x p) "many" pos) (tD W (eMany C i)) :=
  pe_imp (pe_fld (pe_var hN hv hd hcd) hb) fun σ H Q ⟨ρ, O, re, h⟩ => by
    unfold eMany eOb at h
    split at h
    · rename_i A st e
      obtain ⟨e1, o, ob⟩ := re.ob e
      obtain ⟨dx, vm, vt, f1, r1, r2⟩ := ob.self
      exact ⟨_, e1, A.p, C, dx, _, vm, rfl, f1, TC.cls, TC.nm, rfl, h.here r1⟩
    · exact h.elim
theorem de_told (i : Nat) (TC : NtC X.K C) (hN : X.N[i]? = some x := by rfl) (hv : Vis X.env.scope x := by first | exact Or.inl rfl | exact Or.inr (Or.inl rfl) | exact Or.inr (Or.inr rfl)) (hd : (x == ("__debug__" : Str)) = false := by decide) (hcd : (x == ("__classdict__" : Str)) = false := by decide)
    (hb : attributeBase (.Name x p) "told" X.env (eval (.Name x p) X.env) = eval (.Name x p) X.env := by rfl) : PE X (.Attribute (.Name x p) "told" pos) (tD W (eTold C i)) :=
  pe_imp (pe_fld (pe_var hN hv hd hcd) hb) fun σ H Q ⟨ρ, O, re, h⟩ => by
    unfold eTold eOb at h
    split at h
    · rename_i A st e
      obtain ⟨e1, o, ob⟩ := re.ob e
      obtain ⟨dx, vm, vt, f1, r1, r2⟩ := ob.self
      exact ⟨_, e1, A.p, C, dx, _, vt, rfl, f1, TC.cls, TC.nt, rfl, h.here r2⟩
    · exact h.elim
theorem dl_calls (i : Nat) (TC : NtC X.K C) (hN : X.N[i]? = some x := by rfl) (hv : Vis X.env.scope x := by first | exact Or.inl rfl | exact Or.inr (Or.inl rfl) | exact Or.inr (Or.inr rfl)) (hd : (x == ("__debug__" : Str)) = false := by decide) (hcd : (x == ("__classdict__" : Str)) = false := by decide)
    (hb : attributeBase (.Name x p) "calls" X.env (eval (.Name x p) X.env) = eval (.Name x p) X.env := by rfl) : PE X (.Attribute (.Name x p) "calls" pos) (tL W (eCalls C i)) :=
  pe_imp (pe_fld (pe_var hN hv hd hcd) hb) fun σ H Q ⟨ρ, O, re, h⟩ => by
    unfold eCalls eOb at h
    split at h
    · rename_i A st e
      obtain ⟨e1, o, ob⟩ := re.ob e
      obtain ⟨dx, vm, vt, f1, r1, r2⟩ := ob.self
      obtain ⟨cs, f2, r3⟩ := ob.calls
      exact ⟨_, e1, A.p, C, dx, _, .ref A.c, rfl, f1, TC.cls, TC.nc, rfl, h _ H (Same.refl H) (.inr ⟨A.c, rfl, cs, f2, r3⟩)⟩
    · exact h.elim
end
/-! ## a method that returns a value and writes nothing -/
def PSp (C : Addr) (n : Nat) (g : Ad → NSt → List PyData → Re PyData) : Sp := fun vs H Q E => ∃ (A : Ad) (st : NSt) (ws : List V) (ds : List PyData) (O : Ow), vs = .ref A.p :: ws ∧ ws.length = n ∧ (∀ a, O a → H a ≠ none) ∧ (∀ a, A.has a → O a) ∧ ObR O H C A st ∧ RpL O H ws ds ∧ match g A st ds with
  | .ok d => ∀ v H', Same H H' → Rp O H' v d → Q v H'
  | .ex c p => ∀ H', Same H H' → XQ E O H' c p
  | .st => False
def fnR (C : Addr) (n L : Nat) (fe : En → Re PyData) (A : Ad) (st : NSt) (ds : List PyData) : Re PyData := if ds.length = n then fe (.ob C A st :: (ds.map .va ++ List.replicate (L - n - 1) .no)) else .st
theorem start_re {O : Ow} {H : Hp} {C : Addr} {A : Ad} {st : NSt} {ws : List V} {ds : List PyData} {N : List Str} {n : Nat} (hw : ws.length = n) (hN : n + 1 ≤ N.length) (dm : ∀ a, O a → H a ≠ none) (ho : ∀ a, A.has a → O a) (ob : ObR O H C A st) (rl : RpL O H ws ds) : RE O (.ob C A st :: (ds.map .va ++ List.replicate (N.length - n - 1) .no)) (L2.start N (.ref A.p :: ws)) H := by
  have hl : ds.length = n := by rw [← rl.len, hw]
  refine ⟨?_, dm, fun i s e => ?_⟩
  · unfold L2.start
    simp only [List.length_append, List.length_map, List.length_replicate, List.length_cons]
    omega
  · cases i with
    | zero => cases e; exact ⟨rfl, ho, ob⟩
    | succ i =>
      have e : (ds.map Sl.va ++ List.replicate (N.length - n - 1) Sl.no)[i]? = some s := e
      by_cases hi : i < ds.length
      · rw [List.getElem?_append_left (by simpa using hi), List.getElem?_map, List.getElem?_eq_getElem hi] at e
        cases e
        obtain ⟨v, hv, rv⟩ := rl.get (List.getElem?_eq_getElem hi)
        refine ⟨v, ?_, rv⟩
        unfold L2.start
        have hiv : i + 1 < (V.ref A.p :: ws).length := by rw [List.length_cons, rl.len]; omega
        rw [List.getElem?_append_left (by simpa using hiv), List.getElem?_map]
        show ((ws)[i]?).map some = _
        rw [hv]
        rfl
      · rw [List.getElem?_append_right (by simpa using hi)] at e
        have := (List.mem_replicate.mp (List.mem_of_getElem? e)).2
        subst this
        trivial
theorem okR {P : Program} {w : World} {K : PySem.W.Frag} {mg : Str → Option Value} {base : Heap} {x qual : Str} {st : Stmt} {f : Addr} {fd : FuncData} {N ps : List Str} {k n : Nat} {C : Addr} {fe : En → Re PyData} (F : Fun K x qual st f fd) (S : FnScope N ps (defScope st)) (hn : ps.length = n + 1)
    (hbody : ∀ (cdv : Value) (A : Around) (outer : List Env) (s : Shared) (H : Hp) (E : XK), Room k (A.deeper (envOfC qual (defScope st) s.heap.objs.size f cdv)) →
      PSs (cxOf (L2.CX P w) P w K mg base N qual (defScope st) f cdv A outer s H E) (defBody st) (tRet (tD (WEx E) fe))) : FnOk P w K mg base (L2.CX P w) (k + 1) f fd ps (PSp C n (fnR C n N.length fe)) := by
  have hNl : n + 1 ≤ N.length := by
    have := congrArg List.length S.pre
    rw [List.length_take] at this
    omega
  refine F.okX S (fun vs H Q E h => ?_) (fun cdv A outer s H vs Q E hr h => ⟨_, hbody cdv A outer s H E hr, ?_⟩)
  · obtain ⟨B, z, ws, ds, O, rfl, hw, _⟩ := h
    rw [List.length_cons, hw, hn]
  · obtain ⟨B, z, ws, ds, O, rfl, hw, dm, ho, ob, rl, h⟩ := h
    have hl : ds.length = n := by rw [← rl.len, hw]
    refine ⟨_, O, start_re hw hNl dm ho ob rl, ?_⟩
    unfold fnR at h
    rw [if_pos hl] at h
    cases e : fe (.ob C B z :: (ds.map .va ++ List.replicate (N.length - n - 1) .no)) with
    | ok d => rw [e] at h; exact h
    | ex c p =>
      rw [e] at h
      intro H' s'
      have := h H' s'
      cases p <;> exact this
    | st => rw [e] at h; exact h
section
variable {X : Cx} {W : WX} {C : Addr} {x m : Str} {p pos apos : Pos} {k : Nat} {f : Addr} {fd : FuncData} {ps : List Str} {g : Ad → NSt → List PyData → Re PyData}
theorem psp_go {σ : Sg} {H : Hp} {Q : VK} {ρ : En} {O : Ow} {i : Nat} {A : Ad} {st : NSt} (re : RE O ρ σ H) (e : obAt C ρ i = some (A, st)) (h : tR W O (g A st []) σ H Q) : PSp C 0 g [.ref A.p] H Q (WE W σ) := by
  obtain ⟨_, o, ob⟩ := re.ob e
  refine ⟨A, st, [], [], O, rfl, rfl, re.dom, o, ob, .nil, ?_⟩
  cases e : g A st [] with
  | ok d => rw [e] at h; exact h
  | ex c p =>
    rw [e] at h
    intro H' s'
    have := h H' s'
    cases p <;> exact this
  | st => rw [e] at h; exact h
/-- o.m() -/
theorem de_meth0 (i : Nat) {pl : Sem Bool} (TC : NtC X.K C) (hm : Meth X.K C m f) (nm : ∀ a t c b : V, (nfs a t c b).lookup m = none) (F : FnOk X.prog X.w X.K X.mg X.base (L2.CX X.prog X.w) k f fd ps (PSp C 0 g)) (hr : Room k X.A) (hb : Binds X.K fd ps []) (tk : Takes X W)
    (hN : X.N[i]? = some x := by rfl) (hv : Vis X.env.scope x := by first | exact Or.inl rfl | exact Or.inr (Or.inl rfl) | exact Or.inr (Or.inr rfl)) (hd : (x == ("__debug__" : Str)) = false := by decide) (hcd : (x == ("__classdict__" : Str)) = false := by decide)
    (ht : eval (.Call (.Attribute (.Name x p) m apos) [] [] pos) X.env = (do let ov ← eval (.Name x p) X.env; standAt apos.atName; let (f, first) ← holding [ov] (getMethod ov m pl); callWith pos f first (backTo pos (starEach [] X.env)) (backToKw pos (keywordEach [] X.env))) := by rfl) :
    PE X (.Call (.Attribute (.Name x p) m apos) [] [] pos) (tD W (eOb C i fun A st => g A st [])) :=
  pe_imp (pe_methD0 (pl := pl) (pe_var hN hv hd hcd) TC.cls hm F hr hb (passAt tk) ht) fun σ H Q ⟨ρ, O, re, h⟩ => by
    unfold eOb at h
    split at h
    · rename_i A st e
      obtain ⟨e1, o, ob⟩ := re.ob e
      obtain ⟨dx, vm, vt, f1, r1, r2⟩ := ob.self
      exact ⟨_, e1, A.p, dx, _, rfl, f1, nm _ _ _ _, psp_go re e h⟩
    · exact h.elim
/-- an instance as the library sees it -/
theorem inst_of {pins : List (Addr × Obj)} {σ : Sg} {H : Hp} {s : Shared} {a D dx : Addr} {fs : List (Str × V)} (I : L2.Inv X pins σ H s) (e : H a = some (.ins D dx fs)) : ∃ od, PySem.W.InstAt s.heap a (PySem.W.instObj D dx) D (some od) := by
  obtain ⟨mA, O, _⟩ := ins_get I.hok e
  obtain ⟨od, ho, _⟩ := lookIn_ns O.ns
  exact ⟨od, O.obj, rfl, rfl, ho⟩
theorem run_atF {A : Around} {pins : List (Addr × Obj)} {σ : Sg} {H : Hp} {s : Shared} {T : CXT} {sp : Sp} {E : XK} {Q : VK} {us : List Value} {ws : List V} (F : FnOk X.prog X.w X.K X.mg X.base T k f fd ps sp) (hr : Room k A) (hb : Binds X.K fd ps []) (e0 : Env0 X.prog X.w X.K X.mg X.base A X.stack s H) (hx : PassesAt T X σ E) (I : L2.Inv X pins σ H s) (r : Vals ws us) (h : sp ws H Q E) :
    codeAny (model X.prog X.w) A (.call (.ref f) ⟨us, []⟩) (fun r s' => match r with | .ok (.ret v) => EP X pins σ Q v s' | .ok _ => False | .error e => X.xe e s') s := by
  have hl : (us ++ []).length = ps.length := by rw [List.append_nil, ← r.length]; exact F.len _ _ _ _ h
  have hbb := hb s us I.kIn hl
  rw [List.append_nil] at hbb
  refine codeAny_mono (F.run A X.stack s H ⟨us, []⟩ us ws Q E hr e0 hbb r h) fun r s' hq => ?_
  cases r with
  | error e => exact hx pins H s e s' I hq
  | ok fl =>
    cases fl with
    | ret u => exact I.after hq
    | next => exact hq.elim
    | brk => exact hq.elim
    | cont => exact hq.elim
/-- len(o) -/
def lenG (g : Ad → NSt → List PyData → Re PyData) (A : Ad) (st : NSt) : Re PyData := match g A st [] with
  | .ok (.int n) => if decide (0 ≤ n) && decide (n < 1000000) then .ok (.int n) else .st
  | _ => .st
theorem call_lenO (hs : PySem.W.findIn X.K (.ref C) "__len__" = some (some (.ref f))) (hf : PySem.W.isFn X.K (.ref f) = true) (F : FnOk X.prog X.w X.K X.mg X.base (L2.CX X.prog X.w) k f fd ps (PSp C 0 g)) (hr : Room (k + 1) X.A) (hb : Binds X.K fd ps []) (tk : Takes X W) :
    CallR X (.builtin "len") (fun xs H Q => ∃ (A : Ad) (st : NSt) (O : Ow) (n : Int), xs = [.ref A.p] ∧ (∀ a, O a → H a ≠ none) ∧ (∀ a, A.has a → O a) ∧ ObR O H C A st ∧ g A st [] = .ok (.int n) ∧ 0 ≤ n ∧ n < 1000000 ∧ ∀ H', Same H H' → Q (.int n) H') := by
  intro pins s σ H xs us Q I r ⟨A, st, O, n, ex, dm, ho, ob, hg, h0, h1, q⟩
  subst ex
  obtain ⟨u, rfl, ru⟩ := r.one
  cases (show u = Value.ref A.p from ru)
  obtain ⟨dx, vm, vt, f1, r1, r2⟩ := ob.self
  obtain ⟨od, J⟩ := inst_of I f1
  obtain ⟨m, hF⟩ := I.fr
  refine PySem.W.len_K hF I.ok.mod.kin J hs hf (wpAny_mono (wpAny_call (run_atF (E := WE W σ) (Q := fun v H' => v = .int n ∧ Q v H') (us := [.ref A.p]) (ws := [.ref A.p]) F (Room.in1 hr) hb I.env0.in1 (passAt tk σ) I (.cons rfl .nil) ⟨A, st, [], [], O, rfl, rfl, dm, ho, ob, .nil, ?_⟩)) (fun w s' z => ?_) fun _ _ x => x)
  · rw [hg]
    intro v H' s' rv
    cases rv
    exact ⟨rfl, q H' s'⟩
  · obtain ⟨z', H', I', rz, ez, qz⟩ := z
    subst ez
    obtain ⟨t, e⟩ := (show ∃ t, w = Value.int n t from rz)
    cases e
    exact ⟨⟨h0, by omega⟩, ⟨.int n, H', I'.tok _, ⟨_, rfl⟩, qz⟩⟩
theorem de_lenO (i : Nat) (hs : PySem.W.findIn X.K (.ref C) "__len__" = some (some (.ref f))) (hf : PySem.W.isFn X.K (.ref f) = true) (F : FnOk X.prog X.w X.K X.mg X.base (L2.CX X.prog X.w) k f fd ps (PSp C 0 g)) (hr : Room (k + 1) X.A) (hb : Binds X.K fd ps []) (tk : Takes X W) (hm : X.mg "len" = none)
    (hN : X.N[i]? = some x := by rfl) (hv : Vis X.env.scope x := by first | exact Or.inl rfl | exact Or.inr (Or.inl rfl) | exact Or.inr (Or.inr rfl)) (hd : (x == ("__debug__" : Str)) = false := by decide) (hcd : (x == ("__classdict__" : Str)) = false := by decide) (hg : Gl X "len" := by rfl)
    (hs2 : starEach [.Name x p] X.env = (false, eval (.Name x p) X.env) :: starEach [] X.env := by rfl) : PE X (.Call (.Name "len" apos) [.Name x p] [] pos) (tD W (eOb C i (lenG g))) :=
  pe_imp (pe_callB (call_lenO hs hf F hr hb tk) hg hm PySem.boot_len (pa_cons (pe_var hN hv hd hcd) pa_nil hs2) (he := hs2)) fun σ H Q ⟨ρ, O, re, h⟩ => by
    unfold eOb at h
    split at h
    · rename_i A st e
      obtain ⟨e1, o, ob⟩ := re.ob e
      unfold lenG at h
      split at h
      · rename_i n hg
        split at h
        · rename_i hn
          simp only [Bool.and_eq_true, decide_eq_true_eq] at hn
          exact ⟨_, e1, A, st, O, n, rfl, re.dom, o, ob, hg, hn.1, hn.2, fun H' s' => h _ H' s' (.int n)⟩
        · exact h.elim
      · exact h.elim
    · exact h.elim
/-- str(o) -/
def strG (g : Ad → NSt → List PyData → Re PyData) (A : Ad) (st : NSt) : Re PyData := match g A st [] with
  | .ok (.str z) => .ok (.str z)
  | _ => .st
theorem call_strO (hs : PySem.W.findIn X.K (.ref C) "__str__" = some (some (.ref f))) (hf : PySem.W.isFn X.K (.ref f) = true) (F : FnOk X.prog X.w X.K X.mg X.base (L2.CX X.prog X.w) k f fd ps (PSp C 0 g)) (hr : Room (k + 2) X.A) (hb : Binds X.K fd ps []) (tk : Takes X W) :
    CallR X (.type "str") (fun xs H Q => ∃ (A : Ad) (st : NSt) (O : Ow) (z : Str), xs = [.ref A.p] ∧ (∀ a, O a → H a ≠ none) ∧ (∀ a, A.has a → O a) ∧ ObR O H C A st ∧ g A st [] = .ok (.str z) ∧ ∀ H', Same H H' → Q (.str z) H') := by
  intro pins s σ H xs us Q I r ⟨A, st, O, y, ex, dm, ho, ob, hg, q⟩
  subst ex
  obtain ⟨u, rfl, ru⟩ := r.one
  cases (show u = Value.ref A.p from ru)
  obtain ⟨dx, vm, vt, f1, r1, r2⟩ := ob.self
  obtain ⟨od, J⟩ := inst_of I f1
  have hr2 : Room k X.A.in1.in1 := (show Room (k + 1) X.A.in1 from Room.in1 hr).in1
  refine PySem.W.kso_call hr2.units0 I.kIn J hs hf (wpAny_mono (wpAny_call (run_atF (E := WE W σ) (Q := fun v H' => v = .str y ∧ Q v H') (us := [.ref A.p]) (ws := [.ref A.p]) F hr2 hb I.env0.in1.in1 (passAt tk σ) I (.cons rfl .nil) ⟨A, st, [], [], O, rfl, rfl, dm, ho, ob, .nil, ?_⟩)) (fun w s' z => ?_) fun _ _ x => x)
  · rw [hg]
    intro v H' s' rv
    cases rv
    exact ⟨rfl, q H' s'⟩
  · obtain ⟨z', H', I', rz, ez, qz⟩ := z
    subst ez
    obtain ⟨t, e⟩ := (show ∃ t, w = Value.str y t from rz)
    cases e
    exact ⟨.str y, H', I', ⟨t, rfl⟩, qz⟩
theorem de_strO (i : Nat) (hs : PySem.W.findIn X.K (.ref C) "__str__" = some (some (.ref f))) (hf : PySem.W.isFn X.K (.ref f) = true) (F : FnOk X.prog X.w X.K X.mg X.base (L2.CX X.prog X.w) k f fd ps (PSp C 0 g)) (hr : Room (k + 2) X.A) (hb : Binds X.K fd ps []) (tk : Takes X W) (hm : X.mg "str" = none)
    (hN : X.N[i]? = some x := by rfl) (hv : Vis X.env.scope x := by first | exact Or.inl rfl | exact Or.inr (Or.inl rfl) | exact Or.inr (Or.inr rfl)) (hd : (x == ("__debug__" : Str)) = false := by decide) (hcd : (x == ("__classdict__" : Str)) = false := by decide) (hg : Gl X "str" := by rfl)
    (hs2 : starEach [.Name x p] X.env = (false, eval (.Name x p) X.env) :: starEach [] X.env := by rfl) : PE X (.Call (.Name "str" apos) [.Name x p] [] pos) (tD W (eOb C i (strG g))) :=
  pe_imp (pe_callTy (call_strO hs hf F hr hb tk) hg hm (by decide +kernel) (pa_cons (pe_var hN hv hd hcd) pa_nil hs2) (he := hs2)) fun σ H Q ⟨ρ, O, re, h⟩ => by
    unfold eOb at h
    split at h
    · rename_i A st e
      obtain ⟨e1, o, ob⟩ := re.ob e
      unfold strG at h
      split at h
      · rename_i z hg
        exact ⟨_, e1, A, st, O, z, rfl, re.dom, o, ob, hg, fun H' s' => h _ H' s' (.str z)⟩
      · exact h.elim
    · exact h.elim
end
/-- str(text) -/
def gStrS : List PyData → Re PyData
  | [.str z] => .ok (.str z)
  | _ => .st
theorem n_strS {W : WX} : OpN W gStrS (fun xs H Q => ∃ a, xs = [.str a] ∧ Q (.str a) H) := by
  intro σ O ρ H xs ds Q re rx h
  unfold gStrS at h
  split at h
  · cases rx with
    | cons r1 r2 =>
      cases r2
      cases r1.i_str
      exact ⟨_, rfl, h.here (.str _)⟩
  · exact h.elim
theorem de_strS {X : Cx} {W : WX} {a : Expr} {p pos : Pos} {fs : En → Re (List PyData)} (hm : X.mg "str" = none) (ha : PA X [a] (tA W fs)) (hg : Gl X "str" := by rfl) (he : starEach [a] X.env = (false, eval a X.env) :: starEach [] X.env := by rfl) :
    PE X (.Call (.Name "str" p) [a] [] pos) (tD W (eCall gStrS fs)) := de_bty SkE.call_str_str n_strS hm (by decide +kernel) ha hg (he := he)
end DL

/-! # expressions and statements that write Notes -/
namespace DL
open PySem PySem.Spec L2 PyProof.Rows
/-! ## what they come to -/
inductive ME (α : Type) where
  | ok (a : α) (ρ : En)
  | ex (c : Value) (p : Option PyData) (ρ : En)
  | st
def ME.bind {α β : Type} (r : ME α) (k : α → En → ME β) : ME β := match r with
  | .ok a ρ => k a ρ
  | .ex c p ρ => .ex c p ρ
  | .st => .st
@[simp] theorem ME.bind_ok {α β : Type} (a : α) (ρ : En) (k : α → En → ME β) : (ME.ok a ρ).bind k = k a ρ := id rfl
@[simp] theorem ME.bind_ex {α β : Type} (c : Value) (p : Option PyData) (ρ : En) (k : α → En → ME β) : (ME.ex c p ρ : ME α).bind k = .ex c p ρ := id rfl
@[simp] theorem ME.bind_st {α β : Type} (k : α → En → ME β) : (ME.st : ME α).bind k = .st := id rfl
def ofRe {α : Type} (r : Re α) (ρ : En) : ME α := match r with
  | .ok a => .ok a ρ
  | .ex c p => .ex c p ρ
  | .st => .st
@[simp] theorem ofRe_ok {α : Type} (a : α) (ρ : En) : ofRe (Re.ok a) ρ = .ok a ρ := id rfl
@[simp] theorem ofRe_ex {α : Type} (c : Value) (p : Option PyData) (ρ : En) : ofRe (Re.ex c p : Re α) ρ = .ex c p ρ := id rfl
@[simp] theorem ofRe_st {α : Type} (ρ : En) : ofRe (Re.st : Re α) ρ = .st := id rfl
inductive SM where
  | nx (ρ : En)
  | rt (d : PyData) (ρ : En)
  | ex (c : Value) (p : Option PyData) (ρ : En)
  | st
  | nw (k : Ad → SM)
def SM.thn : SM → (En → SM) → SM
  | .nx ρ, g => g ρ
  | .rt d ρ, _ => .rt d ρ
  | .ex c p ρ, _ => .ex c p ρ
  | .st, _ => .st
  | .nw k, g => .nw fun A => (k A).thn g
@[simp] theorem SM.thn_nx (ρ : En) (g : En → SM) : (SM.nx ρ).thn g = g ρ := id rfl
@[simp] theorem SM.thn_rt (d : PyData) (ρ : En) (g : En → SM) : (SM.rt d ρ).thn g = .rt d ρ := id rfl
@[simp] theorem SM.thn_ex (c : Value) (p : Option PyData) (ρ : En) (g : En → SM) : (SM.ex c p ρ).thn g = .ex c p ρ := id rfl
@[simp] theorem SM.thn_st (g : En → SM) : SM.st.thn g = .st := id rfl
@[simp] theorem SM.thn_nw (k : Ad → SM) (g : En → SM) : (SM.nw k).thn g = .nw fun A => (k A).thn g := id rfl
def SM.of {α : Type} (r : ME α) (k : α → En → SM) : SM := match r with
  | .ok a ρ => k a ρ
  | .ex c p ρ => .ex c p ρ
  | .st => .st
@[simp] theorem SM.of_ok {α : Type} (a : α) (ρ : En) (k : α → En → SM) : SM.of (.ok a ρ) k = k a ρ := id rfl
@[simp] theorem SM.of_ex {α : Type} (c : Value) (p : Option PyData) (ρ : En) (k : α → En → SM) : SM.of (.ex c p ρ : ME α) k = .ex c p ρ := id rfl
@[simp] theorem SM.of_st {α : Type} (k : α → En → SM) : SM.of (.st : ME α) k = .st := id rfl
/-! ## readings -/
def xE (W : WX) (H0 : Hp) (O0 : Ow) (σ : Sg) (r : ME PyData) (Q : VK) : Prop := match r with
  | .ok d ρ => ∀ v H, RS H0 O0 ρ σ H → Rp (Oa O0 ρ σ) H v d → Q v H
  | .ex c p ρ => ∀ H, RS H0 O0 ρ σ H → XW W σ (Oa O0 ρ σ) H c p
  | .st => False
def tX (W : WX) (f : En → ME PyData) : TE := fun σ H Q => ∃ ρ H0 O0, RS H0 O0 ρ σ H ∧ xE W H0 O0 σ (f ρ) Q
def xB (W : WX) (H0 : Hp) (O0 : Ow) (σ : Sg) (r : ME Bool) (Q : Bool → Hp → Prop) : Prop := match r with
  | .ok b ρ => ∀ H, RS H0 O0 ρ σ H → Q b H
  | .ex c p ρ => ∀ H, RS H0 O0 ρ σ H → XW W σ (Oa O0 ρ σ) H c p
  | .st => False
def tXB (W : WX) (f : En → ME Bool) : TT := fun σ H Q => ∃ ρ H0 O0, RS H0 O0 ρ σ H ∧ xB W H0 O0 σ (f ρ) Q
def tM (W : WX) (H0 : Hp) (O0 : Ow) : SM → Ends → Prop
  | .nx ρ, D => ∀ σ H, RS H0 O0 ρ σ H → D.nx σ H
  | .rt d ρ, D => ∀ v σ H, RS H0 O0 ρ σ H → Rp (Oa O0 ρ σ) H v d → D.rt v H
  | .ex c p ρ, _ => ∀ σ H, RS H0 O0 ρ σ H → XW W σ (Oa O0 ρ σ) H c p
  | .st, _ => False
  | .nw k, D => ∀ A, tM W H0 O0 (k A) D
def sM (W : WX) (f : En → SM) : TS := fun D σ H => ∃ ρ H0 O0, RS H0 O0 ρ σ H ∧ tM W H0 O0 (f ρ) D
theorem xE.base {W : WX} {H0 H1 : Hp} {O0 : Ow} {σ : Sg} {r : ME PyData} {Q : VK} (s : Same H0 H1) (hd : ∀ a, O0 a → H0 a ≠ none) (h : xE W H0 O0 σ r Q) : xE W H1 O0 σ r Q := by
  cases r with
  | ok d ρ => exact fun v H q r => h v H (q.unbase s hd) r
  | ex c p ρ => exact fun H q => h H (q.unbase s hd)
  | st => exact h
theorem xB.base {W : WX} {H0 H1 : Hp} {O0 : Ow} {σ : Sg} {r : ME Bool} {Q : Bool → Hp → Prop} (s : Same H0 H1) (hd : ∀ a, O0 a → H0 a ≠ none) (h : xB W H0 O0 σ r Q) : xB W H1 O0 σ r Q := by
  cases r with
  | ok d ρ => exact fun H q => h H (q.unbase s hd)
  | ex c p ρ => exact fun H q => h H (q.unbase s hd)
  | st => exact h
theorem tM.base {W : WX} {H0 H1 : Hp} {O0 : Ow} {D : Ends} (s : Same H0 H1) (hd : ∀ a, O0 a → H0 a ≠ none) : ∀ {r : SM}, tM W H0 O0 r D → tM W H1 O0 r D
  | .nx ρ, h => fun σ H q => h σ H (q.unbase s hd)
  | .rt d ρ, h => fun v σ H q r => h v σ H (q.unbase s hd) r
  | .ex c p ρ, h => fun σ H q => h σ H (q.unbase s hd)
  | .st, h => h
  | .nw k, h => fun A => tM.base s hd (h A)
section
variable {X : Cx} {W : WX} {e a b c : Expr} {f g : En → Re PyData} {fa fb : En → ME PyData} {pos pos' : Pos} {H0 : Hp} {O0 : Ow} {ρ : En} {σ : Sg} {H : Hp} {D : Ends}
/-! ## expressions -/
def xOf (f : En → Re PyData) : En → ME PyData := fun ρ => ofRe (f ρ) ρ
theorem xR {r : Re PyData} {Q : VK} (rs : RS H0 O0 ρ σ H) (h : xE W H0 O0 σ (ofRe r ρ) Q) : tR W (Oa O0 ρ σ) r σ H Q := by
  cases r with
  | ok d => exact fun v H' s rv => h v H' (rs.heap s) rv
  | ex c p => exact fun H' s => h H' (rs.heap s)
  | st => exact h
theorem xRB {r : Re Bool} {Q : Bool → Hp → Prop} (rs : RS H0 O0 ρ σ H) (h : xB W H0 O0 σ (ofRe r ρ) Q) : tRB W (Oa O0 ρ σ) r σ H Q := by
  cases r with
  | ok d => exact fun H' s => h H' (rs.heap s)
  | ex c p => exact fun H' s => h H' (rs.heap s)
  | st => exact h
theorem x_of (h : PE X e (tD W f)) : PE X e (tX W (xOf f)) := pe_imp h fun σ H Q ⟨ρ, H0, O0, rs, q⟩ => ⟨ρ, _, rs.re, xR rs q⟩
/-- one value, then on; what was read before stands -/
theorem goX {k : PyData → En → ME PyData} {Q R : VK} (rs : RS H0 O0 ρ σ H) (h : xE W H0 O0 σ ((fa ρ).bind k) Q) (q : ∀ d ρ1 v H1, RS H0 O0 ρ1 σ H1 → Kp (Oa O0 ρ σ) H (Oa O0 ρ1 σ) H1 → Rp (Oa O0 ρ1 σ) H1 v d → xE W H0 O0 σ (k d ρ1) Q → R v H1) : tX W fa σ H R := by
  refine ⟨ρ, mnH H ρ σ, O0, rs.base, ?_⟩
  cases e : fa ρ with
  | ok d ρ1 => rw [e] at h; exact fun v H1 r1 rv => q d ρ1 v H1 (r1.unbase rs.based rs.dom0) r1.frame rv h
  | ex c p ρ1 => rw [e] at h; exact fun H1 r1 => h H1 (r1.unbase rs.based rs.dom0)
  | st => rw [e] at h; exact h
theorem goXB {k : PyData → En → ME Bool} {Q : Bool → Hp → Prop} {R : VK} (rs : RS H0 O0 ρ σ H) (h : xB W H0 O0 σ ((fa ρ).bind k) Q) (q : ∀ d ρ1 v H1, RS H0 O0 ρ1 σ H1 → Kp (Oa O0 ρ σ) H (Oa O0 ρ1 σ) H1 → Rp (Oa O0 ρ1 σ) H1 v d → xB W H0 O0 σ (k d ρ1) Q → R v H1) : tX W fa σ H R := by
  refine ⟨ρ, mnH H ρ σ, O0, rs.base, ?_⟩
  cases e : fa ρ with
  | ok d ρ1 => rw [e] at h; exact fun v H1 r1 rv => q d ρ1 v H1 (r1.unbase rs.based rs.dom0) r1.frame rv h
  | ex c p ρ1 => rw [e] at h; exact fun H1 r1 => h H1 (r1.unbase rs.based rs.dom0)
  | st => rw [e] at h; exact h
def x2 (g : PyData → PyData → Re PyData) (fa fb : En → ME PyData) : En → ME PyData := fun ρ => (fa ρ).bind fun d ρ1 => (fb ρ1).bind fun e ρ2 => ofRe (g d e) ρ2
theorem imp2X {r : R2} {g : PyData → PyData → Re PyData} (hg : Op2 W g r) (σ : Sg) (H : Hp) (Q : VK) (h : tX W (x2 g fa fb) σ H Q) : tOp r (tX W fa) (tX W fb) σ H Q := by
  obtain ⟨ρ, H0, O0, rs, h⟩ := h
  exact goX rs h fun d ρ1 x H1 rs1 _ rx h1 => goX rs1 h1 fun e ρ2 y H2 rs2 k2 ry h2 => hg σ _ ρ2 H2 x y d e Q rs2.re (rx.kp k2) ry (xR rs2 h2)
theorem x_op {op : Operator} {r : R2} {g : PyData → PyData → Re PyData} (ho : OpR X (binaryOp op) r) (hg : Op2 W g r) (ha : PE X a (tX W fa)) (hb : PE X b (tX W fb)) : PE X (.BinOp a op b pos) (tX W (x2 g fa fb)) := pe_imp (pe_op ho ha hb) (imp2X hg)
theorem x_add (ha : PE X a (tX W fa)) (hb : PE X b (tX W fb)) : PE X (.BinOp a .Add b pos) (tX W (x2 dAdd fa fb)) := x_op or_add o_add ha hb
theorem x_cmp {op : CmpOp} {r : R2} {g : PyData → PyData → Re PyData} (ho : OpR X (compareOp op) r) (hg : Op2 W g r) (ha : PE X a (tX W fa)) (hb : PE X b (tX W fb)) (hm : behindInMarks op b = false) : PE X (.Compare a [op] [b] pos) (tX W (x2 g fa fb)) := pe_imp (pe_cmpR ho ha hb hm) (imp2X hg)
theorem x_eq (hu : X.A.units + 64 < cLine) (ha : PE X a (tX W fa)) (hb : PE X b (tX W fb)) : PE X (.Compare a [.Eq] [b] pos) (tX W (x2 dEq fa fb)) := x_cmp (op_eqD hu) o_eq ha hb (nomark _)
def xIf (gc : En → Re Bool) (fa fb : En → ME PyData) : En → ME PyData := fun ρ => (ofRe (gc ρ) ρ).bind fun b ρ1 => if b then fa ρ1 else fb ρ1
theorem x_if {gc : En → Re Bool} (hc : PT X c (DL.tB W gc)) (ha : PE X a (tX W fa)) (hb : PE X b (tX W fb)) : PE X (.IfExp c a b pos) (tX W (xIf gc fa fb)) :=
  pe_imp (pe_ifExp hc ha hb) fun σ H Q ⟨ρ, H0, O0, rs, h⟩ => by
    refine ⟨ρ, _, rs.re, ?_⟩
    unfold xIf at h
    cases e : gc ρ with
    | ex c p => rw [e] at h; exact fun H' s => h H' (rs.heap s)
    | st => rw [e] at h; exact h
    | ok k =>
      rw [e] at h
      intro H1 s
      cases k with
      | true => exact iteT ⟨ρ, H0, O0, rs.heap s, h⟩
      | false => exact iteF ⟨ρ, H0, O0, rs.heap s, h⟩
def xLst1 (fa : En → ME PyData) : En → ME PyData := fun ρ => (fa ρ).bind fun d ρ1 => .ok (.list [d]) ρ1
theorem x_lst1 (ha : PE X a (tX W fa)) (hs : starEach [a] X.env = (false, eval a X.env) :: starEach [] X.env := by rfl) : PE X (.List [a] pos) (tX W (xLst1 fa)) :=
  pe_imp (pe_lst (pa_cons ha pa_nil hs)) fun σ H Q ⟨ρ, H0, O0, rs, h⟩ => goX rs h fun d ρ1 x H1 rs1 _ rx h1 =>
    ⟨by rw [sizeLine_eq]; simp, fun p hp => h1 _ _ (rs1.heap (same_upd hp)) (Rp.newL rs1.re hp (.cons rx .nil))⟩
/-! ## tests -/
def toBM (f : En → ME PyData) : En → ME Bool := fun ρ => (f ρ).bind fun d ρ1 => ofRe (asB d) ρ1
theorem toTestX {r : ME PyData} {Q : Bool → Hp → Prop} (h : xB W H0 O0 σ (r.bind fun d ρ1 => ofRe (asB d) ρ1) Q) : xE W H0 O0 σ r fun x H' => ∃ k, x = .bl k ∧ Q k H' := by
  cases r with
  | ok d ρ1 =>
    intro v H' rs rv
    cases d with
    | bool b => cases rv.i_bl; exact ⟨b, rfl, h H' rs⟩
    | _ => exact h.elim
  | ex c p ρ1 => exact h
  | st => exact h
theorem xt_cmp {op : CmpOp} {r : R2} {g : PyData → PyData → Re PyData} (ho : OpR X (compareOp op) r) (hg : Op2 W g r) (ha : PE X a (tX W fa)) (hb : PE X b (tX W fb)) (hm : behindInMarks op b = false) : PT X (.Compare a [op] [b] pos) (tXB W (toBM (x2 g fa fb))) :=
  pt_imp (pt_cmpR ho ha hb hm) fun σ H Q ⟨ρ, H0, O0, rs, h⟩ => imp2X hg σ H _ ⟨ρ, H0, O0, rs, toTestX h⟩
theorem xt_ne (hu : X.A.units + 64 < cLine) (ha : PE X a (tX W fa)) (hb : PE X b (tX W fb)) : PT X (.Compare a [.NotEq] [b] pos) (tXB W (toBM (x2 dNe fa fb))) := xt_cmp (op_neD hu) o_ne ha hb (nomark _)
theorem xt_eq (hu : X.A.units + 64 < cLine) (ha : PE X a (tX W fa)) (hb : PE X b (tX W fb)) : PT X (.Compare a [.Eq] [b] pos) (tXB W (toBM (x2 dEq fa fb))) := xt_cmp (op_eqD hu) o_eq ha hb (nomark _)
def bOf (g : En → Re Bool) : En → ME Bool := fun ρ => ofRe (g ρ) ρ
theorem xt_lift {gc : En → Re Bool} (h : PT X e (DL.tB W gc)) : PT X e (tXB W (bOf gc)) := pt_imp h fun σ H Q ⟨ρ, H0, O0, rs, q⟩ => ⟨ρ, _, rs.re, xRB rs q⟩
/-- truth of a bool -/
theorem xt_plain (ha : PE X a (tX W fa)) (he : ∀ whole, isTrue a X.env whole = (do let v ← whole; standAt a.pos; holding [v] (truthy v)) := by intro _; rfl) : PT X a (tXB W (toBM fa)) :=
  pt_imp (pt_truth ha he) fun σ H Q ⟨ρ, H0, O0, rs, h⟩ => goXB rs h fun d ρ1 x H1 rs1 _ rx h1 => by
    cases d with
    | bool b =>
      cases rx.i_bl
      exact ⟨b, rfl, h1 H1 rs1⟩
    | _ => exact h1.elim
def bNotM (g : En → ME Bool) : En → ME Bool := fun ρ => (g ρ).bind fun b ρ1 => .ok (!b) ρ1
variable {ga gb : En → ME Bool}
theorem goBX {k : Bool → En → ME Bool} {Q R : Bool → Hp → Prop} (rs : RS H0 O0 ρ σ H) (h : xB W H0 O0 σ ((ga ρ).bind k) Q) (q : ∀ d ρ1 H1, RS H0 O0 ρ1 σ H1 → xB W H0 O0 σ (k d ρ1) Q → R d H1) : tXB W ga σ H R := by
  refine ⟨ρ, H0, O0, rs, ?_⟩
  cases e : ga ρ with
  | ok d ρ1 => rw [e] at h; exact fun H1 r1 => q d ρ1 H1 r1 h
  | ex c p ρ1 => rw [e] at h; exact h
  | st => rw [e] at h; exact h
theorem xt_not (ha : PT X a (tXB W ga)) : PT X (.UnaryOp .Not a pos) (tXB W (bNotM ga)) := pt_imp (pt_not ha) fun σ H Q ⟨ρ, H0, O0, rs, h⟩ => goBX rs h fun b ρ1 H1 rs1 h1 => h1 H1 rs1
def bOrM (ga gb : En → ME Bool) : En → ME Bool := fun ρ => (ga ρ).bind fun b ρ1 => if b then .ok true ρ1 else gb ρ1
theorem xw_or1 (ha : PT X a (tXB W ga)) : PW X (.BoolOp .Or [a] pos) (tXB W ga) := pw_or1 ha
theorem xw_or {rest : List Expr} (ha : PT X a (tXB W ga)) (hb : PW X (.BoolOp .Or (b :: rest) pos) (tXB W gb)) : PW X (.BoolOp .Or (a :: b :: rest) pos) (tXB W (bOrM ga gb)) :=
  pw_imp (pw_or ha hb) fun σ H Q ⟨ρ, H0, O0, rs, h⟩ => goBX rs h fun k ρ1 H1 rs1 h1 => by
    cases k with
    | true => exact iteT (h1 H1 rs1)
    | false => exact iteF ⟨ρ1, H0, O0, rs1, h1⟩
/-! ## statements -/
def mOf (f : En → SR) : En → SM := fun ρ => match f ρ with
  | .nx ρ' => .nx ρ'
  | .ex c p ρ' => .ex c p ρ'
  | _ => .st
theorem m_of {s : Stmt} {f : En → SR} (h : PS X s (sD W f)) : PS X s (sM W (mOf f)) := ps_imp h fun D σ H ⟨ρ, H0, O0, rs, q⟩ => ⟨ρ, H0, O0, rs, by
  unfold mOf at q
  cases e : f ρ with
  | nx ρ' => rw [e] at q; exact q
  | rt d => rw [e] at q; exact q.elim
  | ex c p ρ' => rw [e] at q; exact q
  | st => rw [e] at q; exact q.elim⟩
theorem mss_of {s : List Stmt} {f : En → SR} (h : PSs X s (sD W f)) : PSs X s (sM W (mOf f)) := pss_imp h fun D σ H ⟨ρ, H0, O0, rs, q⟩ => ⟨ρ, H0, O0, rs, by
  unfold mOf at q
  cases e : f ρ with
  | nx ρ' => rw [e] at q; exact q
  | rt d => rw [e] at q; exact q.elim
  | ex c p ρ' => rw [e] at q; exact q
  | st => rw [e] at q; exact q.elim⟩
theorem tM_thn {g : En → SM} : ∀ {r : SM}, tM W H0 O0 (r.thn g) D → tM W H0 O0 r { D with nx := fun σ H => ∃ ρ, RS H0 O0 ρ σ H ∧ tM W H0 O0 (g ρ) D }
  | .nx ρ, h => fun σ H rs => ⟨ρ, rs, h⟩
  | .rt _ _, h => h
  | .ex _ _ _, h => h
  | .st, h => h
  | .nw k, h => fun A => tM_thn (h A)
theorem tM_mono {D' : Ends} (h1 : ∀ σ H, D.nx σ H → D'.nx σ H) (h2 : ∀ v H, D.rt v H → D'.rt v H) : ∀ {r : SM}, tM W H0 O0 r D → tM W H0 O0 r D'
  | .nx ρ, h => fun σ H rs => h1 _ _ (h σ H rs)
  | .rt _ _, h => fun v σ H rs rv => h2 _ _ (h v σ H rs rv)
  | .ex _ _ _, h => h
  | .st, h => h
  | .nw k, h => fun A => tM_mono h1 h2 (h A)
def mSeq (f g : En → SM) : En → SM := fun ρ => (f ρ).thn g
theorem mss_cons {s : Stmt} {ss : List Stmt} {f g : En → SM} (h1 : PS X s (sM W f)) (h2 : PSs X ss (sM W g)) : PSs X (s :: ss) (sM W (mSeq f g)) :=
  pss_imp (pss_cons h1 h2) fun D σ H ⟨ρ, H0, O0, rs, h⟩ => by
    refine ⟨ρ, H0, O0, rs, tM_mono ?_ ?_ (tM_thn h)⟩
    · rintro σ H ⟨ρ, rs, q⟩
      exact ⟨ρ, H0, O0, rs, q⟩
    · exact fun _ _ q => q
theorem mss_one {s : Stmt} {f : En → SM} (h1 : PS X s (sM W f)) : PSs X [s] (sM W f) := pss_one h1
def mSkip : En → SM := fun ρ => .nx ρ
theorem mss_nil : PSs X [] (sM W mSkip) := pss_imp pss_nil fun D σ H ⟨ρ, H0, O0, rs, h⟩ => h σ H rs
theorem goMX {k : PyData → En → SM} {R : VK} (rs : RS H0 O0 ρ σ H) (h : tM W H0 O0 (SM.of (fa ρ) k) D) (q : ∀ d ρ1 v H1, RS H0 O0 ρ1 σ H1 → Rp (Oa O0 ρ1 σ) H1 v d → tM W H0 O0 (k d ρ1) D → R v H1) : tX W fa σ H R := by
  refine ⟨ρ, H0, O0, rs, ?_⟩
  cases e : fa ρ with
  | ok d ρ1 => rw [e] at h; exact fun v H1 r1 rv => q d ρ1 v H1 r1 rv h
  | ex c p ρ1 => rw [e] at h; exact fun H1 r1 => h σ H1 r1
  | st => rw [e] at h; exact h
def mRet (fa : En → ME PyData) : En → SM := fun ρ => SM.of (fa ρ) .rt
theorem m_ret (he : PE X e (tX W fa)) : PS X (.Return (some e) pos) (sM W (mRet fa)) := ps_imp (ps_ret he) fun D σ H ⟨ρ, H0, O0, rs, h⟩ => goMX rs h fun d ρ1 v H1 rs1 rv h1 => h1 v σ H1 rs1 rv
def mExpr (fa : En → ME PyData) : En → SM := fun ρ => SM.of (fa ρ) fun _ ρ1 => .nx ρ1
theorem m_expr (he : PE X e (tX W fa)) (hs : swapsWith e none pos.line X.env = pure false := by rfl) : PS X (.Expr e pos) (sM W (mExpr fa)) := ps_imp (ps_expr he hs) fun D σ H ⟨ρ, H0, O0, rs, h⟩ => goMX rs h fun d ρ1 v H1 rs1 rv h1 => h1 σ H1 rs1
def mSet (i : Nat) (fa : En → ME PyData) : En → SM := fun ρ => SM.of (fa ρ) fun d ρ1 => .nx (ρ1.set i (.va d))
theorem m_set (i : Nat) {x : Str} (he : PE X e (tX W fa)) (hN : X.N.Nodup) (hi : X.N[i]? = some x := by rfl) (hx : Loc X.env.scope x := by first | exact Or.inl rfl | exact Or.inr rfl) (hs : swapsWith e (some (.Name x pos')) pos.line X.env = pure false := by rfl)
    (hf : X.fn x = true ∨ X.env.scope.names.lookup x = some .local := by first | exact .inl rfl | exact .inr rfl | assumption) : PS X (.Assign [.Name x pos'] e pos) (sM W (mSet i fa)) :=
  ps_imp (ps_set hN hi hx he hs hf) fun D σ H ⟨ρ, H0, O0, rs, h⟩ => goMX rs h fun d ρ1 v H1 rs1 rv h1 => h1 _ H1 (rs1.setV rv)
def mIf (gc : En → ME Bool) (f g : En → SM) : En → SM := fun ρ => SM.of (gc ρ) fun b ρ1 => if b then f ρ1 else g ρ1
theorem m_if {gc : En → ME Bool} {f g : En → SM} {sa sb : List Stmt} (hc : PT X c (tXB W gc)) (ha : PSs X sa (sM W f)) (hb : PSs X sb (sM W g)) : PS X (.If c sa sb pos) (sM W (mIf gc f g)) :=
  ps_imp (ps_if hc ha hb) fun D σ H ⟨ρ, H0, O0, rs, h⟩ => by
    refine ⟨ρ, H0, O0, rs, ?_⟩
    unfold mIf at h
    cases e : gc ρ with
    | ex c p ρ1 => rw [e] at h; exact fun H1 r1 => h σ H1 r1
    | st => rw [e] at h; exact h
    | ok k ρ1 =>
      rw [e] at h
      intro H1 rs1
      cases k with
      | true => exact iteT ⟨ρ1, H0, O0, rs1, h⟩
      | false => exact iteF ⟨ρ1, H0, O0, rs1, h⟩
/-- a block that is never reached -/
def mStuck : En → SM := fun _ => .st
theorem mss_never {ss : List Stmt} : PSs X ss (sM W mStuck) := pss_imp pss_never fun D σ H ⟨ρ, H0, O0, rs, h⟩ => h
/-- ghosts -/
def mFgt (l : List Nat) (f : En → SM) : En → SM := fun ρ => (f ρ).thn fun ρ' => .nx (fgt l ρ')
theorem tM_fgt (l : List Nat) : ∀ {r : SM}, tM W H0 O0 (r.thn fun ρ' => .nx (fgt l ρ')) D → tM W H0 O0 r D
  | .nx ρ, h => fun σ H rs => h σ H (RS.fgt l rs)
  | .rt _ _, h => h
  | .ex _ _ _, h => h
  | .st, h => h
  | .nw k, h => fun A => tM_fgt l (h A)
theorem mss_fgtB (l : List Nat) {ss : List Stmt} {f : En → SM} (h : PSs X ss (sM W f)) : PSs X ss (sM W (mFgt l f)) := pss_imp h fun D σ H ⟨ρ, H0, O0, rs, h⟩ => ⟨ρ, H0, O0, rs, tM_fgt l h⟩
theorem m_fgtB (l : List Nat) {s : Stmt} {f : En → SM} (h : PS X s (sM W f)) : PS X s (sM W (mFgt l f)) := ps_imp h fun D σ H ⟨ρ, H0, O0, rs, h⟩ => ⟨ρ, H0, O0, rs, tM_fgt l h⟩
theorem m_frz (i : Nat) {s : Stmt} {f : En → SM} (h : PS X s (sM W f)) : PS X s (sM W fun ρ => f (frz i ρ)) := ps_imp h fun D σ H ⟨ρ, H0, O0, rs, h⟩ => ⟨_, H0, O0, rs.frz i, h⟩
/-! ## for -/
def forM (t : Tg) (fb : En → SM) : List PyData → En → SM
  | [], ρ => .nx ρ
  | d :: ds, ρ => match t d with
    | none => .st
    | some m => (fb (putD ρ m)).thn fun ρ' => forM t fb ds ρ'
def mFor (fi : En → Re (List PyData)) (t : Tg) (fb : En → SM) : En → SM := fun ρ => SM.of (ofRe (fi ρ) ρ) fun ds ρ1 => forM t fb ds ρ1
theorem tM_for {J : Hp → Ow → Sg → Hp → Prop} {g : En → SM} (s : Same H0 H) (hd : ∀ a, O0 a → H0 a ≠ none) (sub : ∀ ρ σ' H', RS H O0 ρ σ' H' → RS H O0 ρ σ' H') : ∀ {r : SM}, tM W H0 O0 (r.thn g) D → tM W H O0 r { nx := fun σ2 H2 => ∃ ρ2, RS H O0 ρ2 σ2 H2 ∧ tM W H0 O0 (g ρ2) D, rt := D.rt, bk := D.bk, ct := D.ct }
  | .nx ρ, h => fun σ3 H3 r3 => ⟨ρ, r3, h⟩
  | .rt d ρ, h => fun v σ3 H3 r3 rv => h v σ3 H3 (r3.unbase s hd) rv
  | .ex c p ρ, h => fun σ3 H3 r3 => h σ3 H3 (r3.unbase s hd)
  | .st, h => h
  | .nw k, h => fun A => tM_for (J := J) s hd sub (h A)
theorem m_for {tg iter : Expr} {body : List Stmt} {fi : En → Re (List PyData)} {t : Tg} {fb : En → SM} (hp : PassesOwn (model X.prog X.w) X.A X.env X.xe) (hc : X.calm = true) (hi : PI X tg iter (iD W fi)) (hg : PG X tg (gA t)) (hb : PSs X body (sM W fb))
    (hs : ∀ x, foldedSetIterable iter X.env x = pure x := by intro _; rfl) : PS X (.For tg iter body [] pos) (sM W (mFor fi t fb)) :=
  ps_imp (ps_for hp hc hi hg hb hs) fun D σ H ⟨ρ, H0, O0, rs, h⟩ => by
    refine ⟨ρ, _, rs.re, ?_⟩
    unfold mFor at h
    cases e : fi ρ with
    | ex c p => rw [e] at h; exact fun H1 s => h σ H1 (rs.heap s)
    | st => rw [e] at h; exact h
    | ok ds =>
      rw [e] at h
      intro J H1 s itd
      have rs1 := rs.heap s
      have sb := rs1.based
      refine ⟨fun i m σ' H' => ∃ ρ', RS (mnH H1 ρ σ) O0 ρ' σ' H' ∧ i ≤ ds.length ∧ m = ds.length - i ∧ tM W H0 O0 (forM t fb (ds.drop i) ρ') D, ⟨ds.length, ρ, rs1.base, Nat.zero_le _, rfl, h⟩, ?_⟩
      rintro i m σ' H' ⟨ρ', r', hi', rfl, h'⟩
      obtain ⟨hstop, hgo⟩ := itd H' (Oa O0 ρ' σ') r'.frame r'.re.dom
      by_cases hlt : i < ds.length
      · have hd : ds[i]? = some ds[i] := List.getElem?_eq_getElem hlt
        obtain ⟨g1, g2⟩ := hgo i _ hd
        rw [List.drop_eq_getElem_cons hlt] at h'
        refine .inr ⟨g1, fun σ2 H2 => ∃ ρ2, RS (mnH H1 ρ σ) O0 ρ2 σ2 H2 ∧ tM W H0 O0 (forM t fb (ds.drop (i + 1)) ρ2) D, ?_, fun x H2 y => ?_⟩
        · rintro σ2 H2 ⟨ρ2, r2, h2⟩
          exact ⟨ds.length - (i + 1), by omega, ρ2, r2, hlt, rfl, h2⟩
        · obtain ⟨s2, rx⟩ := g2 x H2 y
          have r2 := r'.heap s2
          unfold forM at h'
          cases et : t ds[i] with
          | none => rw [et] at h'; exact h'.elim
          | some mm =>
            rw [et] at h'
            refine ⟨_, _, mm, rx, et, fun l yl => ⟨_, _, O0, RS.put _ _ _ _ r2 yl, ?_⟩⟩
            refine tM_mono ?_ ?_ (tM_for (J := fun _ _ _ _ => True) sb rs.dom0 (fun _ _ _ q => q) h')
            · exact fun _ _ q => q
            · exact fun _ _ q => q
      · have e : i = ds.length := by omega
        subst e
        rw [List.drop_length] at h'
        exact .inl ⟨hstop, h' σ' H' (r'.unbase sb rs.dom0)⟩
end
end DL

/-! # Notes that are written -/
namespace DL
open PySem PySem.Spec L2 PyProof.Rows
/-- nothing but the Notes changes -/
def Chg (A : Ad) (H H' : Hp) : Prop := ∀ a o, ¬ A.has a → H a = some o → H' a = some o
section
variable {H0 : Hp} {O0 : Ow} {ρ : En} {σ : Sg} {H H' : Hp} {C : Addr} {A : Ad} {st st' : NSt} {i : Nat}
theorem Oa.setB (e : ρ[i]? = some (.ob C A st)) : Oa O0 (ρ.set i (.ob C A st')) σ = Oa O0 ρ σ := funext fun a => propext (by
  have hi : i < ρ.length := (List.getElem?_eq_some_iff.mp e).1
  constructor
  · rintro (z | ⟨j, s, e1, e2⟩)
    · exact .inl z
    · rcases set_at e1 with ⟨rfl, rfl, _⟩ | ⟨n, e1⟩
      · exact .inr ⟨j, _, e, e2⟩
      · exact .inr ⟨j, s, e1, e2⟩
  · rintro (z | ⟨j, s, e1, e2⟩)
    · exact .inl z
    · by_cases hj : i = j
      · subst hj
        rw [e] at e1
        cases e1
        exact .inr ⟨i, _, List.getElem?_set_self hi, e2⟩
      · exact .inr ⟨j, s, by rw [List.getElem?_set_ne hj]; exact e1, e2⟩)
/-- a Notes that a slot holds is written -/
theorem RS.setB (rs : RS H0 O0 ρ σ H) (e : ρ[i]? = some (.ob C A st)) (ch : Chg A H H') (ob : ObR (Oa O0 ρ σ) H' C A st') : RS H0 O0 (ρ.set i (.ob C A st')) σ H' := by
  have hi : i < ρ.length := (List.getElem?_eq_some_iff.mp e).1
  obtain ⟨e1, o, _⟩ := rs.re.at_ i _ e
  have hs : σ = σ.set i (some (.ref A.p)) := by
    apply List.ext_getElem?
    intro j
    by_cases hj : i = j
    · subst hj
      rw [e1, List.getElem?_set_self (List.getElem?_eq_some_iff.mp e1).1]
    · rw [List.getElem?_set_ne hj]
  have r := rs.setS (i := i) (v := .ref A.p) (s' := .ob C A st') (H' := H') (O1 := Oa O0 ρ σ) (fun p w => rs.fresh i _ p e w) (fun b o n z => ch b o n z) (fun p w => by obtain ⟨u, hu⟩ := ob.dom w; rw [hu]; exact fun z => nomatch z) (fun a => ?_)
    (fun j t p n f1 f2 w => n (rs.inj j i t _ p f1 e f2 w)) (fun a u _ n w => n (o a w)) ⟨rfl, o, ob⟩ hi
  · rw [← hs] at r
    exact r
  · constructor
    · rintro (z | ⟨j, s, f1, f2⟩)
      · exact .inl (.inl z)
      · by_cases hj : i = j
        · subst hj
          rw [e] at f1
          cases f1
          exact .inr f2
        · exact .inl (.inr ⟨j, s, by rw [List.getElem?_set_ne hj]; exact f1, f2⟩)
    · rintro ((z | ⟨j, s, f1, f2⟩) | w)
      · exact .inl z
      · rcases set_at f1 with ⟨_, rfl, _⟩ | ⟨n, f1⟩
        · exact f2.elim
        · exact .inr ⟨j, s, f1, f2⟩
      · exact o a w
end
/-! ## a def whose first argument is a Notes -/
inductive MO where
  | ok (d : PyData) (st : NSt)
  | ex (c : Value) (p : Option PyData) (st : NSt)
  | st
def OSp (C : Addr) (n : Nat) (g : Ad → NSt → List PyData → MO) : Sp := fun vs H Q E => ∃ (A : Ad) (st : NSt) (ws : List V) (ds : List PyData) (O : Ow), vs = .ref A.p :: ws ∧ ws.length = n ∧ (∀ a, O a → H a ≠ none) ∧ (∀ a, A.has a → O a) ∧ ObR O H C A st ∧ RpL O H ws ds ∧ match g A st ds with
  | .ok d st' => ∀ v H', Chg A H H' → ObR O H' C A st' → Rp O H' v d → Q v H'
  | .ex c p st' => ∀ H', Chg A H H' → ObR O H' C A st' → XQ E O H' c p
  | .st => False
def toMO (C : Addr) (A : Ad) : SM → MO
  | .rt d ρ => match obAt C ρ 0 with
    | some (B, st) => if B = A then .ok d st else .st
    | none => .st
  | .nx ρ => match obAt C ρ 0 with
    | some (B, st) => if B = A then .ok .none st else .st
    | none => .st
  | .ex c p ρ => match obAt C ρ 0 with
    | some (B, st) => if B = A then .ex c p st else .st
    | none => .st
  | _ => .st
def fnM (C : Addr) (n L : Nat) (fb : En → SM) (A : Ad) (st : NSt) (ds : List PyData) : MO := if ds.length = n then toMO C A (fb (.ob C A st :: (ds.map .va ++ List.replicate (L - n - 1) .no))) else .st
open Classical in
noncomputable def cutH (A : Ad) (H : Hp) : Hp := fun a => if A.has a then none else H a
theorem cutH_ne {A : Ad} {H : Hp} {a : Addr} (h : ¬ A.has a) : cutH A H a = H a := by unfold cutH; rw [if_neg h]
theorem cutH_eq {A : Ad} {H : Hp} {a : Addr} (h : A.has a) : cutH A H a = none := by unfold cutH; rw [if_pos h]
theorem okM {P : Program} {w : World} {K : PySem.W.Frag} {mg : Str → Option Value} {base : Heap} {x qual : Str} {st : Stmt} {f : Addr} {fd : FuncData} {N ps : List Str} {k n : Nat} {C : Addr} {fb : En → SM} (F : Fun K x qual st f fd) (S : FnScope N ps (defScope st)) (hn : ps.length = n + 1)
    (hbody : ∀ (cdv : Value) (A : Around) (outer : List Env) (s : Shared) (H : Hp) (E : XK), Room k (A.deeper (envOfC qual (defScope st) s.heap.objs.size f cdv)) →
      PSs (cxOf (L2.CX P w) P w K mg base N qual (defScope st) f cdv A outer s H E) (defBody st) (sM (WEx E) fb)) : FnOk P w K mg base (L2.CX P w) (k + 1) f fd ps (OSp C n (fnM C n N.length fb)) := by
  have hNl : n + 1 ≤ N.length := by
    have := congrArg List.length S.pre
    rw [List.length_take] at this
    omega
  refine F.okX S (fun vs H Q E h => ?_) (fun cdv A outer s H vs Q E hr h => ⟨_, hbody cdv A outer s H E hr, ?_⟩)
  · obtain ⟨B, z, ws, ds, O, rfl, hw, _⟩ := h
    rw [List.length_cons, hw, hn]
  · obtain ⟨B, z, ws, ds, O, rfl, hw, dm, ho, ob, rl, h⟩ := h
    have hl : ds.length = n := by rw [← rl.len, hw]
    unfold fnM at h
    rw [if_pos hl] at h
    generalize hρ : (Sl.ob C B z :: (ds.map .va ++ List.replicate (N.length - n - 1) .no)) = ρ0 at h
    have only : ∀ (i : Nat) (t : Sl) (v : Option (Option V)) (p : Addr), ρ0[i]? = some t → t.own v p → i = 0 ∧ t = .ob C B z := fun i t v p e w => by
      subst hρ
      cases i with
      | zero => cases e; exact ⟨rfl, rfl⟩
      | succ i =>
        have e : (ds.map Sl.va ++ List.replicate (N.length - n - 1) Sl.no)[i]? = some t := e
        rcases List.mem_append.mp (List.mem_of_getElem? e) with q | q
        · obtain ⟨y, _, q⟩ := List.mem_map.mp q; subst q; exact w.elim
        · rw [(List.mem_replicate.mp q).2] at w; exact w.elim
    have h0 : ρ0[0]? = some (.ob C B z) := by subst hρ; rfl
    have Oeq : Oa (fun a => O a ∧ ¬ B.has a) ρ0 (L2.start N (.ref B.p :: ws)) = O := funext fun a => propext ⟨fun q => by
      rcases q with q | ⟨j, t, e1, e2⟩
      · exact q.1
      · obtain ⟨rfl, rfl⟩ := only j t _ a e1 e2
        exact ho a e2, fun q => by
      by_cases hb : B.has a
      · exact .inr ⟨0, _, h0, hb⟩
      · exact .inl ⟨q, hb⟩⟩
    have re := start_re hw hNl dm ho ob rl
    rw [hρ] at re
    have rs : RS (cutH B H) (fun a => O a ∧ ¬ B.has a) ρ0 (L2.start N (.ref B.p :: ws)) H := by
      refine ⟨re.len, fun b o e => ?_, by rw [Oeq]; exact re, fun i s p e1 e2 => ?_, fun i j s t p e1 e2 e3 e4 => ?_, fun a q => ?_⟩
      · by_cases hb : B.has b
        · rw [cutH_eq hb] at e; cases e
        · rw [cutH_ne hb] at e; exact e
      · obtain ⟨rfl, rfl⟩ := only i s _ p e1 e2
        exact cutH_eq e2
      · rw [(only i s _ p e1 e3).1, (only j t _ p e2 e4).1]
      · rw [cutH_ne q.2]; exact dm a q.1
    have fin : ∀ (ρ' : En) (σ' : Sg) (H' : Hp) (B' : Ad) (z' : NSt), obAt C ρ' 0 = some (B', z') → B' = B → RS (cutH B H) (fun a => O a ∧ ¬ B.has a) ρ' σ' H' → Chg B H H' ∧ ObR O H' C B z' ∧ Kp (Oa (fun a => O a ∧ ¬ B.has a) ρ' σ') H' O H' := fun ρ' σ' H' B' z' e1 e2 r => by
      subst e2
      obtain ⟨_, o, ob'⟩ := r.re.ob e1
      have kp : Kp (Oa (fun a => O a ∧ ¬ B'.has a) ρ' σ') H' O H' := fun a u e n => ⟨e, fun q => n (by
        by_cases hb : B'.has a
        · exact o a hb
        · exact .inl ⟨q, hb⟩)⟩
      exact ⟨fun a u n e => r.same a u (by rw [cutH_ne n]; exact e), ob'.tr kp fun _ _ _ q => q, kp⟩
    refine ⟨ρ0, _, _, rs, ?_⟩
    revert h
    generalize fb ρ0 = r
    intro h
    cases r with
    | nx ρ' =>
      intro σ' H' r'
      unfold toMO at h
      dsimp only at h
      cases e : obAt C ρ' 0 with
      | none => rw [e] at h; exact h.elim
      | some q =>
        obtain ⟨B', z'⟩ := q
        rw [e] at h
        dsimp only at h
        by_cases hB : B' = B
        · rw [if_pos hB] at h
          obtain ⟨c1, c2, _⟩ := fin ρ' σ' H' B' z' e hB r'
          exact h _ H' c1 c2 .non
        · rw [if_neg hB] at h; exact h.elim
    | rt d ρ' =>
      intro v σ' H' r' rv
      unfold toMO at h
      dsimp only at h
      cases e : obAt C ρ' 0 with
      | none => rw [e] at h; exact h.elim
      | some q =>
        obtain ⟨B', z'⟩ := q
        rw [e] at h
        dsimp only at h
        by_cases hB : B' = B
        · rw [if_pos hB] at h
          obtain ⟨c1, c2, c3⟩ := fin ρ' σ' H' B' z' e hB r'
          exact h _ H' c1 c2 (rv.kp c3)
        · rw [if_neg hB] at h; exact h.elim
    | ex c p ρ' =>
      intro σ' H' r'
      unfold toMO at h
      dsimp only at h
      cases e : obAt C ρ' 0 with
      | none => rw [e] at h; exact h.elim
      | some q =>
        obtain ⟨B', z'⟩ := q
        rw [e] at h
        dsimp only at h
        by_cases hB : B' = B
        · rw [if_pos hB] at h
          obtain ⟨c1, c2, c3⟩ := fin ρ' σ' H' B' z' e hB r'
          have := h H' c1 c2
          cases p with
          | none => exact this
          | some y => exact fun a v ea rv => this a v ea (rv.kp c3)
        · rw [if_neg hB] at h; exact h.elim
    | st => exact h.elim
    | nw k => exact h.elim
/-! ## calls -/
def xGo (C : Addr) (i : Nat) (g : Ad → NSt → List PyData → MO) (fs : En → Re (List PyData)) : En → ME PyData := fun ρ => match obAt C ρ i with
  | none => .st
  | some (A, st) => (ofRe (fs ρ) ρ).bind fun ds _ => match g A st ds with
    | .ok d st' => .ok d (ρ.set i (.ob C A st'))
    | .ex c p st' => .ex c p (ρ.set i (.ob C A st'))
    | .st => .st
section
variable {X : Cx} {W : WX} {C : Addr} {x m : Str} {p pos apos : Pos} {k : Nat} {f : Addr} {fd : FuncData} {ps : List Str} {g : Ad → NSt → List PyData → MO} {n : Nat} {e : Expr} {es : List Expr} {fs : En → Re (List PyData)}
theorem osp_go {σ : Sg} {H : Hp} {Q : VK} {ρ : En} {H0 : Hp} {O0 : Ow} {i : Nat} {A : Ad} {st : NSt} {ws : List V} {ds : List PyData} (rs : RS H0 O0 ρ σ H) (e : obAt C ρ i = some (A, st)) (hl : ∀ ds, g A st ds ≠ .st → ds.length = n) (rw : RpL (Oa O0 ρ σ) H ws ds) (h : xE W H0 O0 σ (match g A st ds with
    | .ok d st' => .ok d (ρ.set i (.ob C A st'))
    | .ex c p st' => .ex c p (ρ.set i (.ob C A st'))
    | .st => .st) Q) : OSp C n g (.ref A.p :: ws) H Q (WE W σ) := by
  obtain ⟨_, o, ob⟩ := rs.re.ob e
  have ea := obAt_at e
  refine ⟨A, st, ws, ds, _, rfl, ?_, rs.re.dom, o, ob, rw, ?_⟩
  · rw [rw.len]
    refine hl ds fun z => ?_
    rw [z] at h
    exact h
  · cases eg : g A st ds with
    | ok d st' =>
      rw [eg] at h
      intro v H' c1 c2 rv
      refine h v H' (rs.setB ea c1 c2) ?_
      rw [Oa.setB ea]
      exact rv
    | ex c p st' =>
      rw [eg] at h
      intro H' c1 c2
      have := h H' (rs.setB ea c1 c2)
      rw [Oa.setB ea] at this
      cases p <;> exact this
    | st => rw [eg] at h; exact h.elim
theorem fnM_len {C : Addr} {n L : Nat} {fb : En → SM} (A : Ad) (st : NSt) (ds : List PyData) (h : fnM C n L fb A st ds ≠ .st) : ds.length = n := by
  unfold fnM at h
  split at h
  · assumption
  · exact absurd rfl h
/-- o.m(e, ..) -/
theorem x_meth (i : Nat) {pl : Sem Bool} (TC : NtC X.K C) (hm : Meth X.K C m f) (nm : ∀ a t c b : V, (nfs a t c b).lookup m = none) (F : FnOk X.prog X.w X.K X.mg X.base (L2.CX X.prog X.w) k f fd ps (OSp C n g)) (hl : ∀ A st ds, g A st ds ≠ .st → ds.length = n) (hr : Room k X.A) (hb : Binds X.K fd ps []) (tk : Takes X W) (ha : PA X (e :: es) (tA W fs))
    (hN : X.N[i]? = some x := by rfl) (hv : Vis X.env.scope x := by first | exact Or.inl rfl | exact Or.inr (Or.inl rfl) | exact Or.inr (Or.inr rfl)) (hd : (x == ("__debug__" : Str)) = false := by decide) (hcd : (x == ("__classdict__" : Str)) = false := by decide)
    (hst : starEach (e :: es) X.env = (false, eval e X.env) :: starEach es X.env := by rfl) (hpl : (backTo pos (starEach es X.env)).any (·.1) = false := by rfl)
    (ht : eval (.Call (.Attribute (.Name x p) m apos) (e :: es) [] pos) X.env = (do let ov ← eval (.Name x p) X.env; standAt apos.atName; let (f, first) ← holding [ov] (getMethod ov m pl); callWith pos f first (backTo pos (starEach (e :: es) X.env)) (backToKw pos (keywordEach [] X.env))) := by rfl) :
    PE X (.Call (.Attribute (.Name x p) m apos) (e :: es) [] pos) (tX W (xGo C i g fs)) :=
  pe_imp (pe_methD (pl := pl) (pe_var hN hv hd hcd) TC.cls hm F hr hb (passAt tk) ha hst hpl ht) fun σ H Q ⟨ρ, H0, O0, rs, h⟩ => by
    unfold xGo at h
    split at h
    · exact h.elim
    · rename_i A st ea
      obtain ⟨e1, o, ob⟩ := rs.re.ob ea
      obtain ⟨dx, vm, vt, f1, r1, r2⟩ := ob.self
      refine ⟨_, e1, A.p, dx, _, rfl, f1, nm _ _ _ _, ρ, _, rs.re, ?_⟩
      cases ef : fs ρ with
      | ex c p => rw [ef] at h; exact fun H' s => h H' (rs.heap s)
      | st => rw [ef] at h; exact h
      | ok ds =>
        rw [ef] at h
        exact fun vs H' s rv => osp_go (rs.heap s) ea (hl A st) rv h
theorem x_meth0 (i : Nat) {pl : Sem Bool} (TC : NtC X.K C) (hm : Meth X.K C m f) (nm : ∀ a t c b : V, (nfs a t c b).lookup m = none) (F : FnOk X.prog X.w X.K X.mg X.base (L2.CX X.prog X.w) k f fd ps (OSp C n g)) (hl : ∀ A st ds, g A st ds ≠ .st → ds.length = n) (hr : Room k X.A) (hb : Binds X.K fd ps []) (tk : Takes X W)
    (hN : X.N[i]? = some x := by rfl) (hv : Vis X.env.scope x := by first | exact Or.inl rfl | exact Or.inr (Or.inl rfl) | exact Or.inr (Or.inr rfl)) (hd : (x == ("__debug__" : Str)) = false := by decide) (hcd : (x == ("__classdict__" : Str)) = false := by decide)
    (ht : eval (.Call (.Attribute (.Name x p) m apos) [] [] pos) X.env = (do let ov ← eval (.Name x p) X.env; standAt apos.atName; let (f, first) ← holding [ov] (getMethod ov m pl); callWith pos f first (backTo pos (starEach [] X.env)) (backToKw pos (keywordEach [] X.env))) := by rfl) :
    PE X (.Call (.Attribute (.Name x p) m apos) [] [] pos) (tX W (xGo C i g aNil)) :=
  pe_imp (pe_methD0 (pl := pl) (pe_var hN hv hd hcd) TC.cls hm F hr hb (passAt tk) ht) fun σ H Q ⟨ρ, H0, O0, rs, h⟩ => by
    unfold xGo at h
    split at h
    · exact h.elim
    · rename_i A st ea
      obtain ⟨e1, o, ob⟩ := rs.re.ob ea
      obtain ⟨dx, vm, vt, f1, r1, r2⟩ := ob.self
      exact ⟨_, e1, A.p, dx, _, rfl, f1, nm _ _ _ _, osp_go rs ea (hl A st) .nil h⟩
/-- f(o, e, ..) -/
theorem x_call (i : Nat) {y : Str} {q : Pos} (F : FnOk X.prog X.w X.K X.mg X.base (L2.CX X.prog X.w) k f fd ps (OSp C n g)) (hl : ∀ A st ds, g A st ds ≠ .st → ds.length = n) (hr : Room k X.A) (hm : X.mg y = some (.ref f)) (hk : PySem.W.keepIn X.K (.ref f) = true) (hb : Binds X.K fd ps []) (tk : Takes X W) (ha : PA X es (tA W fs))
    (hN : X.N[i]? = some x := by rfl) (hv : Vis X.env.scope x := by first | exact Or.inl rfl | exact Or.inr (Or.inl rfl) | exact Or.inr (Or.inr rfl)) (hd : (x == ("__debug__" : Str)) = false := by decide) (hcd : (x == ("__classdict__" : Str)) = false := by decide) (hg : Gl X y := by rfl) (hdb : (y == ("__debug__" : Str)) = false := by decide)
    (he : starEach (.Name x p :: es) X.env = (false, eval (.Name x p) X.env) :: starEach es X.env := by rfl) (hpl : (backTo pos (starEach es X.env)).any (·.1) = false := by rfl) :
    PE X (.Call (.Name y q) (.Name x p :: es) [] pos) (tX W (xGo C i g fs)) :=
  pe_imp (pe_callS F hr hg hm hk hb (passAt tk) (pa_cons (pe_var hN hv hd hcd) ha he) hdb he hpl) fun σ H Q ⟨ρ, H0, O0, rs, h⟩ => by
    unfold xGo at h
    split at h
    · exact h.elim
    · rename_i A st ea
      obtain ⟨e1, o, ob⟩ := rs.re.ob ea
      refine ⟨_, e1, ρ, _, rs.re, ?_⟩
      cases ef : fs ρ with
      | ex c p => rw [ef] at h; exact fun H' s => h H' (rs.heap s)
      | st => rw [ef] at h; exact h
      | ok ds =>
        rw [ef] at h
        exact fun vs H' s rv => osp_go (rs.heap s) ea (hl A st) rv h
end
/-! ## fields that are written -/
section
variable {X : Cx} {W : WX} {C : Addr} {x : Str} {p p1 p2 p3 pos pos' : Pos} {e : Expr} {fa : En → ME PyData} {fe : En → Re PyData} {H0 : Hp} {O0 : Ow} {ρ : En} {σ : Sg} {H : Hp} {A : Ad} {st : NSt} {i : Nat}
theorem chg_upd {o : HO} {a : Addr} (ha : A.has a) : Chg A H (upd H a o) := fun b u n e => by rw [upd_ne (fun z => n (by rw [z]; exact ha))]; exact e
theorem ObR.pc {O : Ow} (ob : ObR O H C A st) : A.p ≠ A.c ∧ A.p ≠ A.b := by
  obtain ⟨_, ⟨dx, vm, vt, f1, _, _⟩, ⟨cs, f2, _⟩, ⟨bs, f3, _⟩⟩ := ob
  exact ⟨fun z => (by rw [z, f2] at f1; cases f1), fun z => (by rw [z, f3] at f1; cases f1)⟩
theorem RS.setTold (rs : RS H0 O0 ρ σ H) (e : obAt C ρ i = some (A, st)) {y : V} {d : PyData} (ry : Rp (Oa O0 ρ σ) H y d) {dx : Addr} {vm vt : V} (f1 : H A.p = some (.ins C dx (nfs vm vt (.ref A.c) (.ref A.b)))) : RS H0 O0 (ρ.set i (.ob C A { st with told := d })) σ (upd H A.p (.ins C dx (nfs vm y (.ref A.c) (.ref A.b)))) := by
  obtain ⟨e1, o, ob⟩ := rs.re.ob e
  obtain ⟨n1, n2⟩ := ob.pc
  obtain ⟨cb, ⟨dx', vm', vt', g1, r1, r2⟩, ⟨cs, g2, r3⟩, ⟨bs, g3, r4⟩⟩ := ob
  rw [f1] at g1
  cases g1
  have kp : Kp (Oa O0 ρ σ) H (Oa O0 ρ σ) (upd H A.p (.ins C dx (nfs vm y (.ref A.c) (.ref A.b)))) := .own (o _ (.inl rfl))
  exact rs.setB (obAt_at e) (chg_upd (.inl rfl)) ⟨cb, ⟨dx, vm, y, upd_same, r1.kp kp, ry.kp kp⟩, ⟨cs, by rw [upd_ne (Ne.symm n1)]; exact g2, r3.kp kp⟩, ⟨bs, by rw [upd_ne (Ne.symm n2)]; exact g3, r4.kp kp⟩⟩
theorem RS.setCalls (rs : RS H0 O0 ρ σ H) (e : obAt C ρ i = some (A, st)) {ys : List V} {ds : List PyData} (ry : RpL (Oa O0 ρ σ) H ys ds) : RS H0 O0 (ρ.set i (.ob C A { st with calls := ds })) σ (upd H A.c (.lst ys)) := by
  obtain ⟨e1, o, ob⟩ := rs.re.ob e
  obtain ⟨n1, n2⟩ := ob.pc
  obtain ⟨cb, ⟨dx', vm', vt', g1, r1, r2⟩, ⟨cs, g2, r3⟩, ⟨bs, g3, r4⟩⟩ := ob
  have kp : Kp (Oa O0 ρ σ) H (Oa O0 ρ σ) (upd H A.c (.lst ys)) := .own (o _ (.inr (.inl rfl)))
  exact rs.setB (obAt_at e) (chg_upd (.inr (.inl rfl))) ⟨cb, ⟨dx', vm', vt', by rw [upd_ne n1]; exact g1, r1.kp kp, r2.kp kp⟩, ⟨ys, upd_same, ry.kp kp⟩, ⟨bs, by rw [upd_ne (Ne.symm cb)]; exact g3, r4.kp kp⟩⟩
theorem RS.setBefore (rs : RS H0 O0 ρ σ H) (e : obAt C ρ i = some (A, st)) {ys : List V} {ds : List PyData} (ry : RpL (Oa O0 ρ σ) H ys ds) : RS H0 O0 (ρ.set i (.ob C A { st with before := ds })) σ (upd H A.b (.lst ys)) := by
  obtain ⟨e1, o, ob⟩ := rs.re.ob e
  obtain ⟨n1, n2⟩ := ob.pc
  obtain ⟨cb, ⟨dx', vm', vt', g1, r1, r2⟩, ⟨cs, g2, r3⟩, ⟨bs, g3, r4⟩⟩ := ob
  have kp : Kp (Oa O0 ρ σ) H (Oa O0 ρ σ) (upd H A.b (.lst ys)) := .own (o _ (.inr (.inr rfl)))
  exact rs.setB (obAt_at e) (chg_upd (.inr (.inr rfl))) ⟨cb, ⟨dx', vm', vt', by rw [upd_ne n2]; exact g1, r1.kp kp, r2.kp kp⟩, ⟨cs, by rw [upd_ne cb]; exact g2, r3.kp kp⟩, ⟨ys, upd_same, ry.kp kp⟩⟩
/-- o.told = e -/
def mTold (C : Addr) (i : Nat) (fa : En → ME PyData) : En → SM := fun ρ => SM.of (fa ρ) fun d ρ1 => match obAt C ρ1 i with
  | some (A, st) => .nx (ρ1.set i (.ob C A { st with told := d }))
  | none => .st
theorem m_told (i : Nat) (TC : NtC X.K C) (he : PE X e (tX W fa)) (hN : X.N[i]? = some x := by rfl) (hv : Vis X.env.scope x := by first | exact Or.inl rfl | exact Or.inr (Or.inl rfl) | exact Or.inr (Or.inr rfl)) (hd : (x == ("__debug__" : Str)) = false := by decide) (hcd : (x == ("__classdict__" : Str)) = false := by decide)
    (hs : swapsWith e (some (.Attribute (.Name x p) "told" pos')) pos.line X.env = pure false := by rfl) : PS X (.Assign [.Attribute (.Name x p) "told" pos'] e pos) (sM W (mTold C i fa)) :=
  ps_imp (ps_fld (pe_var hN hv hd hcd) he hs) fun D σ H ⟨ρ, H0, O0, rs, h⟩ => goMX rs h fun d ρ1 y H1 rs1 ry h1 => by
    split at h1
    · rename_i A st ea
      obtain ⟨e1, o, ob⟩ := rs1.re.ob ea
      obtain ⟨dx, vm, vt, f1, r1, r2⟩ := ob.self
      exact ⟨_, e1, A.p, C, dx, _, rfl, f1, TC.cls, TC.nt, by simp, h1 σ _ (rs1.setTold ea ry f1)⟩
    · exact h1.elim
/-- o.calls.append(e), o.before.append(e) -/
def mAppC (C : Addr) (i : Nat) (fe : En → Re PyData) : En → SM := fun ρ => match obAt C ρ i with
  | some (A, st) => SM.of (ofRe (fe ρ) ρ) fun d ρ1 => if fits (st.calls.length + 1) then .nx (ρ1.set i (.ob C A { st with calls := st.calls ++ [d] })) else .st
  | none => .st
def mAppB (C : Addr) (i : Nat) (fe : En → Re PyData) : En → SM := fun ρ => match obAt C ρ i with
  | some (A, st) => SM.of (ofRe (fe ρ) ρ) fun d ρ1 => if fits (st.before.length + 1) then .nx (ρ1.set i (.ob C A { st with before := st.before ++ [d] })) else .st
  | none => .st
theorem goMR {k : PyData → En → SM} {R : VK} {D : Ends} (rs : RS H0 O0 ρ σ H) (h : tM W H0 O0 (SM.of (ofRe (fe ρ) ρ) k) D) (q : ∀ d v H1, RS H0 O0 ρ σ H1 → Rp (Oa O0 ρ σ) H1 v d → tM W H0 O0 (k d ρ) D → R v H1) : tD W fe σ H R := by
  refine ⟨ρ, _, rs.re, ?_⟩
  cases e : fe ρ with
  | ok d => rw [e] at h; exact fun v H1 s rv => q d v H1 (rs.heap s) rv h
  | ex c p => rw [e] at h; exact fun H1 s => h σ H1 (rs.heap s)
  | st => rw [e] at h; exact h
theorem m_appC (i : Nat) (TC : NtC X.K C) (he : PE X e (tD W fe)) (hN : X.N[i]? = some x := by rfl) (hv : Vis X.env.scope x := by first | exact Or.inl rfl | exact Or.inr (Or.inl rfl) | exact Or.inr (Or.inr rfl)) (hd : (x == ("__debug__" : Str)) = false := by decide) (hcd : (x == ("__classdict__" : Str)) = false := by decide)
    (hb : attributeBase (.Name x p) "calls" X.env (eval (.Name x p) X.env) = eval (.Name x p) X.env := by rfl)
    (hbase : attributeBase (.Attribute (.Name x p) "calls" p1) "append" X.env (eval (.Attribute (.Name x p) "calls" p1) X.env) = eval (.Attribute (.Name x p) "calls" p1) X.env := by rfl)
    (hfew : ((backTo p3 (starEach [e] X.env)).all (fun x => !x.1) && (backToKw p3 (keywordEach [] X.env)).all (fun x => x.1.isSome) && decide (([e] : List Expr).length + ([] : List Keyword).length + (if ([] : List Keyword).isEmpty then 0 else 1) < 30)) = true := by rfl)
    (hline : (p2.endLine == p3.line) = true := by rfl) (hs : starEach [e] X.env = (false, eval e X.env) :: starEach [] X.env := by rfl) (hplain : (backTo p3 (starEach [] X.env)).any (·.1) = false := by rfl) (hsw : swapsWith (.Call (.Attribute (.Attribute (.Name x p) "calls" p1) "append" p2) [e] [] p3) none pos.line X.env = pure false := by rfl) :
    PS X (.Expr (.Call (.Attribute (.Attribute (.Name x p) "calls" p1) "append" p2) [e] [] p3) pos) (sM W (mAppC C i fe)) :=
  ps_imp (ps_expr (pe_bm PySem.F.plainAttrs_list PySem.F.slot_list_append PySem.F.type_list_append mt_append (pe_fld (pe_var hN hv hd hcd) hb) (pa_cons he pa_nil hs) hbase hfew hline hs hplain) hsw) fun D σ H ⟨ρ, H0, O0, rs, h⟩ => by
    unfold mAppC at h
    split at h
    · rename_i A st ea
      obtain ⟨e1, o, ob⟩ := rs.re.ob ea
      obtain ⟨dx, vm, vt, f1, r1, r2⟩ := ob.self
      obtain ⟨cs, f2, r3⟩ := ob.calls
      refine ⟨_, e1, A.p, C, dx, _, .ref A.c, rfl, f1, TC.cls, TC.nc, rfl, .inl ⟨rfl, cs, SqL.of f2⟩, goMR rs h fun d v H1 rs1 rv h1 => ?_⟩
      split at h1
      · rename_i hf
        obtain ⟨e1', o', ob'⟩ := rs1.re.ob ea
        obtain ⟨cs', f2', r3'⟩ := ob'.calls
        refine ⟨A.c, cs', v, rfl, rfl, f2', ?_, h1 σ _ (rs1.setCalls ea (r3'.app (.cons rv .nil)))⟩
        have := fits_line hf
        have := r3'.len
        omega
      · exact h1.elim
    · exact h.elim
theorem m_appB (i : Nat) (TC : NtC X.K C) (he : PE X e (tD W fe)) (hN : X.N[i]? = some x := by rfl) (hv : Vis X.env.scope x := by first | exact Or.inl rfl | exact Or.inr (Or.inl rfl) | exact Or.inr (Or.inr rfl)) (hd : (x == ("__debug__" : Str)) = false := by decide) (hcd : (x == ("__classdict__" : Str)) = false := by decide)
    (hb : attributeBase (.Name x p) "before" X.env (eval (.Name x p) X.env) = eval (.Name x p) X.env := by rfl)
    (hbase : attributeBase (.Attribute (.Name x p) "before" p1) "append" X.env (eval (.Attribute (.Name x p) "before" p1) X.env) = eval (.Attribute (.Name x p) "before" p1) X.env := by rfl)
    (hfew : ((backTo p3 (starEach [e] X.env)).all (fun x => !x.1) && (backToKw p3 (keywordEach [] X.env)).all (fun x => x.1.isSome) && decide (([e] : List Expr).length + ([] : List Keyword).length + (if ([] : List Keyword).isEmpty then 0 else 1) < 30)) = true := by rfl)
    (hline : (p2.endLine == p3.line) = true := by rfl) (hs : starEach [e] X.env = (false, eval e X.env) :: starEach [] X.env := by rfl) (hplain : (backTo p3 (starEach [] X.env)).any (·.1) = false := by rfl) (hsw : swapsWith (.Call (.Attribute (.Attribute (.Name x p) "before" p1) "append" p2) [e] [] p3) none pos.line X.env = pure false := by rfl) :
    PS X (.Expr (.Call (.Attribute (.Attribute (.Name x p) "before" p1) "append" p2) [e] [] p3) pos) (sM W (mAppB C i fe)) :=
  ps_imp (ps_expr (pe_bm PySem.F.plainAttrs_list PySem.F.slot_list_append PySem.F.type_list_append mt_append (pe_fld (pe_var hN hv hd hcd) hb) (pa_cons he pa_nil hs) hbase hfew hline hs hplain) hsw) fun D σ H ⟨ρ, H0, O0, rs, h⟩ => by
    unfold mAppB at h
    split at h
    · rename_i A st ea
      obtain ⟨e1, o, ob⟩ := rs.re.ob ea
      obtain ⟨dx, vm, vt, f1, r1, r2⟩ := ob.self
      obtain ⟨cs, f2, r3⟩ := ob.before
      refine ⟨_, e1, A.p, C, dx, _, .ref A.b, rfl, f1, TC.cls, TC.nb, rfl, .inl ⟨rfl, cs, SqL.of f2⟩, goMR rs h fun d v H1 rs1 rv h1 => ?_⟩
      split at h1
      · rename_i hf
        obtain ⟨e1', o', ob'⟩ := rs1.re.ob ea
        obtain ⟨cs', f2', r3'⟩ := ob'.before
        refine ⟨A.b, cs', v, rfl, rfl, f2', ?_, h1 σ _ (rs1.setBefore ea (r3'.app (.cons rv .nil)))⟩
        have := fits_line hf
        have := r3'.len
        omega
      · exact h1.elim
    · exact h.elim
/-- o.calls.pop(), o.before.pop() -/
def xPopC (C : Addr) (i : Nat) : En → ME PyData := fun ρ => match obAt C ρ i with
  | some (A, st) => match st.calls.getLast? with
    | some d => .ok d (ρ.set i (.ob C A { st with calls := st.calls.dropLast }))
    | none => .st
  | none => .st
def xPopB (C : Addr) (i : Nat) : En → ME PyData := fun ρ => match obAt C ρ i with
  | some (A, st) => match st.before.getLast? with
    | some d => .ok d (ρ.set i (.ob C A { st with before := st.before.dropLast }))
    | none => .st
  | none => .st
theorem RpL.last {O : Ow} {H : Hp} {vs : List V} {ds : List PyData} {d : PyData} (r : RpL O H vs ds) (h : ds.getLast? = some d) : ∃ v, vs[vs.length - 1]? = some v ∧ Rp O H v d ∧ RpL O H vs.dropLast ds.dropLast := by
  rw [List.getLast?_eq_getElem?] at h
  obtain ⟨v, hv, rv⟩ := r.get h
  refine ⟨v, by rw [r.len]; exact hv, rv, ?_⟩
  rw [List.dropLast_eq_take, List.dropLast_eq_take, r.len]
  exact r.take _
theorem x_popC (i : Nat) (TC : NtC X.K C) (hN : X.N[i]? = some x := by rfl) (hv : Vis X.env.scope x := by first | exact Or.inl rfl | exact Or.inr (Or.inl rfl) | exact Or.inr (Or.inr rfl)) (hd : (x == ("__debug__" : Str)) = false := by decide) (hcd : (x == ("__classdict__" : Str)) = false := by decide)
    (hb : attributeBase (.Name x p) "calls" X.env (eval (.Name x p) X.env) = eval (.Name x p) X.env := by rfl)
    (hbase : attributeBase (.Attribute (.Name x p) "calls" p1) "pop" X.env (eval (.Attribute (.Name x p) "calls" p1) X.env) = eval (.Attribute (.Name x p) "calls" p1) X.env := by rfl) (hline : (p2.endLine == p3.line) = true := by rfl) :
    PE X (.Call (.Attribute (.Attribute (.Name x p) "calls" p1) "pop" p2) [] [] p3) (tX W (xPopC C i)) :=
  pe_imp (pe_bm0 PySem.F.plainAttrs_list PySem.F.slot_list_pop PySem.F.type_list_pop mt_pop (pe_fld (pe_var hN hv hd hcd) hb) hbase hline) fun σ H Q ⟨ρ, H0, O0, rs, h⟩ => by
    unfold xPopC at h
    split at h
    · rename_i A st ea
      split at h
      · rename_i d hl
        obtain ⟨e1, o, ob⟩ := rs.re.ob ea
        obtain ⟨dx, vm, vt, f1, r1, r2⟩ := ob.self
        obtain ⟨cs, f2, r3⟩ := ob.calls
        obtain ⟨v, hv, rv, rd⟩ := r3.last hl
        refine ⟨_, e1, A.p, C, dx, _, .ref A.c, rfl, f1, TC.cls, TC.nc, rfl, .inl ⟨rfl, cs, SqL.of f2⟩, A.c, cs, v, rfl, rfl, f2, hv, h v _ (rs.setCalls ea rd) ?_⟩
        rw [Oa.setB (obAt_at ea)]
        exact rv.kp (.own (o _ (.inr (.inl rfl))))
      · exact h.elim
    · exact h.elim
theorem x_popB (i : Nat) (TC : NtC X.K C) (hN : X.N[i]? = some x := by rfl) (hv : Vis X.env.scope x := by first | exact Or.inl rfl | exact Or.inr (Or.inl rfl) | exact Or.inr (Or.inr rfl)) (hd : (x == ("__debug__" : Str)) = false := by decide) (hcd : (x == ("__classdict__" : Str)) = false := by decide)
    (hb : attributeBase (.Name x p) "before" X.env (eval (.Name x p) X.env) = eval (.Name x p) X.env := by rfl)
    (hbase : attributeBase (.Attribute (.Name x p) "before" p1) "pop" X.env (eval (.Attribute (.Name x p) "before" p1) X.env) = eval (.Attribute (.Name x p) "before" p1) X.env := by rfl) (hline : (p2.endLine == p3.line) = true := by rfl) :
    PE X (.Call (.Attribute (.Attribute (.Name x p) "before" p1) "pop" p2) [] [] p3) (tX W (xPopB C i)) :=
  pe_imp (pe_bm0 PySem.F.plainAttrs_list PySem.F.slot_list_pop PySem.F.type_list_pop mt_pop (pe_fld (pe_var hN hv hd hcd) hb) hbase hline) fun σ H Q ⟨ρ, H0, O0, rs, h⟩ => by
    unfold xPopB at h
    split at h
    · rename_i A st ea
      split at h
      · rename_i d hl
        obtain ⟨e1, o, ob⟩ := rs.re.ob ea
        obtain ⟨dx, vm, vt, f1, r1, r2⟩ := ob.self
        obtain ⟨cs, f2, r3⟩ := ob.before
        obtain ⟨v, hv, rv, rd⟩ := r3.last hl
        refine ⟨_, e1, A.p, C, dx, _, .ref A.b, rfl, f1, TC.cls, TC.nb, rfl, .inl ⟨rfl, cs, SqL.of f2⟩, A.b, cs, v, rfl, rfl, f2, hv, h v _ (rs.setBefore ea rd) ?_⟩
        rw [Oa.setB (obAt_at ea)]
        exact rv.kp (.own (o _ (.inr (.inr rfl))))
      · exact h.elim
    · exact h.elim
end
end DL

/-! # new Notes; try; the law's own def -/
namespace DL
open PySem PySem.Spec L2 PyProof.Rows
/-! ## x = Notes(e) -/
def mNew (C : Addr) (i : Nat) (fe : En → Re PyData) : En → SM := fun ρ => SM.of (ofRe (fe ρ) ρ) fun d ρ1 => match d with
  | .int n => if decide (1 ≤ n) && decide (n ≤ 16) && decide (i < ρ1.length) then .nw fun A => .nx (ρ1.set i (.ob C A ⟨.int n, .tuple [], [], []⟩)) else .st
  | _ => .st
theorem RS.newB {H0 : Hp} {O0 : Ow} {ρ : En} {σ : Sg} {H H' : Hp} {C : Addr} {A : Ad} {st : NSt} {i : Nat} (rs : RS H0 O0 ρ σ H) (s : Same H H') (n1 : H A.p = none) (n2 : H A.c = none) (n3 : H A.b = none) (ob : ObR (fun a => Oa O0 ρ σ a ∨ A.has a) H' C A st) (hi : i < ρ.length) : RS H0 O0 (ρ.set i (.ob C A st)) (σ.set i (some (.ref A.p))) H' := by
  have nn : ∀ a, A.has a → H a = none := fun a w => by rcases w with rfl | rfl | rfl <;> assumption
  have sub : ∀ a, Oa O0 (ρ.set i .no) σ a → Oa O0 ρ σ a := fun a o => by
    rcases o with o | ⟨j, e, e1, e2⟩
    · exact .inl o
    · rcases set_at e1 with ⟨_, rfl, _⟩ | ⟨n, e1⟩
      · exact e2.elim
      · exact .inr ⟨j, e, e1, e2⟩
  refine rs.setS (v := .ref A.p) (s' := .ob C A st) (O1 := fun a => Oa O0 (ρ.set i .no) σ a ∨ A.has a) (fun p w => rs.same.free (nn p w)) (fun b o _ e => s b o e) (fun p w => by obtain ⟨u, hu⟩ := ob.dom w; rw [hu]; exact fun z => nomatch z) (fun a => Iff.rfl) (fun j t p _ e1 e2 w => rs.re.dom p (.inr ⟨j, t, e1, e2⟩) (nn p w)) (fun a o e _ w => by rw [nn a w] at e; cases e) ⟨rfl, fun a w => .inr w, ?_⟩ hi
  exact ob.tr (fun a o e n => ⟨e, fun z => n (by
    rcases z with z | z
    · exact .inl (sub a z)
    · exact .inr z)⟩) fun _ _ _ z => z
section
variable {X : Cx} {W : WX} {C : Addr} {x y : Str} {p p1 pos pos' : Pos} {e : Expr} {fe : En → Re PyData} {k : Nat} {f : Addr} {fd : FuncData} {ps : List Str}
theorem m_new (i : Nat) (M : Mk X.K C f) (F : FnOk X.prog X.w X.K X.mg X.base (L2.CX X.prog X.w) k f fd ps (spInit C)) (hr : Room (k + 1) X.A) (hm : X.mg y = some (.ref C)) (hb : Binds X.K fd ps []) (tk : Takes X W) (he : PE X e (tD W fe)) (hNd : X.N.Nodup) (hi : X.N[i]? = some x := by rfl) (hx : Loc X.env.scope x := by first | exact Or.inl rfl | exact Or.inr rfl) (hg : Gl X y := by rfl) (hdb : (y == ("__debug__" : Str)) = false := by decide)
    (hst : starEach [e] X.env = (false, eval e X.env) :: starEach [] X.env := by rfl) (hs : swapsWith (.Call (.Name y p) [e] [] p1) (some (.Name x pos')) pos.line X.env = pure false := by rfl)
    (hf : X.fn x = true ∨ X.env.scope.names.lookup x = some .local := by first | exact .inl rfl | exact .inr rfl | assumption) : PS X (.Assign [.Name x pos'] (.Call (.Name y p) [e] [] p1) pos) (sM W (mNew C i fe)) :=
  ps_imp (ps_set hNd hi hx (pe_makeD M F hr hm hb (passAt tk) (pa_cons he pa_nil hst) hg hdb hst (by rfl)) hs hf) fun D σ H ⟨ρ, H0, O0, rs, h⟩ => goMR rs h fun d v H1 rs1 rv h1 => by
    cases d with
    | int n =>
      dsimp only at h1
      split at h1
      · rename_i hn
        simp only [Bool.and_eq_true, decide_eq_true_eq] at hn
        cases rv.i_int
        intro z dx nz nd ne
        refine ⟨z, dx, n, rfl, hn.1.1, hn.1.2, upd_same, fun t c b H' s nt nc nb cb e1 e2 e3 e4 => ⟨rfl, ?_⟩⟩
        have zt : t ≠ z := fun q => by rw [q, upd_same] at nt; cases nt
        have zc : c ≠ z := fun q => by rw [q, upd_same] at nc; cases nc
        have zb : b ≠ z := fun q => by rw [q, upd_same] at nb; cases nb
        rw [upd_ne zt] at nt
        rw [upd_ne zc] at nc
        rw [upd_ne zb] at nb
        have dt : t ≠ dx := fun q => by rw [q, upd_same] at nt; cases nt
        have dc : c ≠ dx := fun q => by rw [q, upd_same] at nc; cases nc
        have db : b ≠ dx := fun q => by rw [q, upd_same] at nb; cases nb
        rw [upd_ne dt] at nt
        rw [upd_ne dc] at nc
        rw [upd_ne db] at nb
        have sm : Same H1 H' := fun a o ea => by
          have az : a ≠ z := ne_of_none ea nz
          have ad : a ≠ dx := ne_of_none ea nd
          exact s a o (by rw [upd_ne az, upd_ne ad]; exact ea) az
        refine h1 ⟨z, c, b⟩ _ H' (rs1.newB sm nz nc nb ⟨cb, ⟨dx, .int n, .ref t, e1, .int n, .tup e2 ?_ .nil⟩, ⟨[], e3, .nil⟩, ⟨[], e4, .nil⟩⟩ hn.2)
        rintro (w | w | w | w)
        · exact rs1.re.dom t w nt
        · exact zt w
        · have w : t = c := w
          rw [w, e3] at e2; cases e2
        · have w : t = b := w
          rw [w, e4] at e2; cases e2
      · exact h1.elim
    | _ => exact h1.elim
end
/-! ## the law's own def -/
def TrueAll : SM → Prop
  | .rt (.bool true) _ => True
  | .nw k => ∀ A, TrueAll (k A)
  | _ => False
open Classical in
noncomputable def fnT (n L : Nat) (fb : En → SM) (ds : List PyData) : Re PyData := if ds.length = n ∧ TrueAll (fb (ds.map .va ++ List.replicate (L - n) .no)) then .ok (.bool true) else .st
theorem fnT_ok {n L : Nat} {fb : En → SM} {ds : List PyData} (hl : ds.length = n) (h : TrueAll (fb (ds.map .va ++ List.replicate (L - n) .no))) : fnT n L fb ds = .ok (.bool true) := by unfold fnT; rw [if_pos ⟨hl, h⟩]
theorem TrueAll.tM {W : WX} {H0 : Hp} {O0 : Ow} {Q : VK} {nx bk ct : Sg → Hp → Prop} (h : ∀ v H', Same H0 H' → Rp O0 H' v (.bool true) → Q v H') : ∀ {r : SM}, TrueAll r → DL.tM W H0 O0 r { nx := nx, rt := Q, bk := bk, ct := ct }
  | .rt (.bool true) ρ, _ => fun v σ H rs rv => h v H rs.same rv.out
  | .nw k, q => fun A => TrueAll.tM h (q A)
  | .nx _, q => q.elim
  | .ex _ _ _, q => q.elim
  | .st, q => q.elim
  | .rt (.bool false) _, q => q.elim
  | .rt .none _, q => q.elim
  | .rt (.int _) _, q => q.elim
  | .rt (.str _) _, q => q.elim
  | .rt (.list _) _, q => q.elim
  | .rt (.tuple _) _, q => q.elim
  | .rt (.dict _) _, q => q.elim
theorem okTr {P : Program} {w : World} {K : PySem.W.Frag} {mg : Str → Option Value} {base : Heap} {x qual : Str} {st : Stmt} {f : Addr} {fd : FuncData} {N ps : List Str} {k n : Nat} {fb : En → SM} (F : Fun K x qual st f fd) (S : FnScope N ps (defScope st)) (hn : ps.length = n)
    (hbody : ∀ (cdv : Value) (A : Around) (outer : List Env) (s : Shared) (H : Hp) (E : XK), Room k (A.deeper (envOfC qual (defScope st) s.heap.objs.size f cdv)) →
      PSs (cxOf (L2.CX P w) P w K mg base N qual (defScope st) f cdv A outer s H E) (defBody st) (sM (WEx E) fb)) : FnOk P w K mg base (L2.CX P w) (k + 1) f fd ps (DSp n (fnT n N.length fb)) := by
  refine F.okX S (fun vs H Q E h => ?_) (fun cdv A outer s H vs Q E hr h => ⟨_, hbody cdv A outer s H E hr, ?_⟩)
  · obtain ⟨ds, O, hl, _⟩ := h
    rw [hl, hn]
  · obtain ⟨ds, O, hl, hd, rl, h⟩ := h
    have hdl : ds.length = n := by rw [← rl.len, hl]
    have hNl : n ≤ N.length := by
      have := congrArg List.length S.pre
      rw [List.length_take] at this
      omega
    have noOw : ∀ (i : Nat) (t : Sl) (v : Option (Option V)) (p : Addr), (ds.map Sl.va ++ List.replicate (N.length - n) Sl.no)[i]? = some t → ¬ t.own v p := fun i t v p e w => by
      rcases List.mem_append.mp (List.mem_of_getElem? e) with z | z
      · obtain ⟨y, _, z⟩ := List.mem_map.mp z; subst z; exact w
      · rw [(List.mem_replicate.mp z).2] at w; exact w
    have Oeq : Oa O (ds.map Sl.va ++ List.replicate (N.length - n) Sl.no) (L2.start N vs) = O := funext fun a => propext ⟨fun z => z.elim id fun ⟨i, d, e, w⟩ => absurd w (noOw i d _ _ e), .inl⟩
    have hlen : (L2.start N vs).length = (ds.map Sl.va ++ List.replicate (N.length - n) Sl.no).length := by
      unfold L2.start
      simp only [List.length_append, List.length_map, List.length_replicate]
      omega
    refine ⟨ds.map .va ++ List.replicate (N.length - n) .no, H, O, ⟨hlen, Same.refl H, ⟨hlen, ?_, fun i s e => ?_⟩, fun i d p e w => absurd w (noOw i d _ _ e), fun i j d e p e1 _ w _ => absurd w (noOw i d _ _ e1), hd⟩, ?_⟩
    · rw [Oeq]; exact hd
    · rw [Oeq]
      by_cases hi : i < ds.length
      · rw [List.getElem?_append_left (by simpa using hi), List.getElem?_map, List.getElem?_eq_getElem hi] at e
        cases e
        obtain ⟨v, hv, rv⟩ := rl.get (List.getElem?_eq_getElem hi)
        refine ⟨v, ?_, rv⟩
        unfold L2.start
        have hiv : i < vs.length := by rw [rl.len]; exact hi
        rw [List.getElem?_append_left (by simpa using hiv), List.getElem?_map, hv]
        rfl
      · rw [List.getElem?_append_right (by simpa using hi)] at e
        have := (List.mem_replicate.mp (List.mem_of_getElem? e)).2
        subst this
        trivial
    · unfold fnT at h
      by_cases q : ds.length = n ∧ TrueAll (fb (ds.map .va ++ List.replicate (N.length - n) .no))
      · rw [if_pos q] at h
        exact TrueAll.tM h q.2
      · rw [if_neg q] at h
        exact h.elim
/-! ## try -/
structure HDM where
  c : Addr
  nm : Option Nat
  f : Addr → Option PyData → En → SM
/-- in a clause nothing is raised and nothing is made -/
def SM.calm : SM → SM
  | .ex _ _ _ => .st
  | .nw _ => .st
  | r => r
def SM.off (i : Nat) : SM → SM
  | .nx ρ => .nx (ρ.set i .no)
  | r => r
def tryM (cT : Addr → Addr → Option Bool) (c : Addr) (p : Option PyData) (ρ : En) : List HDM → SM
  | [] => .ex (.ref c) p ρ
  | h :: hs => match cT c h.c with
    | some true => match h.nm with
      | none => SM.calm (h.f c p ρ)
      | some i => if i < ρ.length then SM.off i (SM.calm (h.f c p (ρ.set i .no))) else .st
    | some false => tryM cT c p ρ hs
    | none => .st
def mTry (cT : Addr → Addr → Option Bool) (fb : En → SM) (hs : List HDM) : En → SM := fun ρ => match fb ρ with
  | .ex (.ref c) p ρ' => tryM cT c p ρ' hs
  | .ex _ _ _ => .st
  | .nw _ => .st
  | r => r
def hM (K : PySem.W.Frag) (cT : Addr → Addr → Option Bool) (oi : Option Nat) (fh : Addr → Option PyData → En → SM) (a : Addr) (cls : Value) (d : Option Addr) : TS := fun D σ H =>
  ∃ c p ρ H0 O0, cls = .ref c ∧ PayR (Oa O0 ρ σ) H d p ∧ (∀ i, oi = some i → σ[i]? = some (some (.ref a))) ∧ XTab K cT ∧ RS H0 O0 ρ σ H ∧ tM W0 H0 O0 (fh c p ρ) D
inductive HsM (X : Cx) (cT : Addr → Addr → Option Bool) : List ExceptHandler → List HDM → Prop
  | nil : HsM X cT [] []
  | only {x : Str} {c : Addr} {fh : Addr → Option PyData → En → SM} {b0 : Stmt} {bs : List Stmt} {np hp : Pos} {hs : List ExceptHandler} {l : List HDM} (hc : Names X x (.ref c))
      (hsu : ∀ (a : Addr) (oe : Obj) (cls : Value) (d : Option Addr) (pn : List (Addr × Obj)), Zc cls d oe → (∃ vs, oe.data = .fields vs) → PSs (X.suite a ((a, oe) :: pn)) (b0 :: bs) (hM X.K cT none fh a cls d)) (r : HsM X cT hs l) :
      HsM X cT (.ExceptHandler (some (.Name x np)) none (b0 :: bs) hp :: hs) (⟨c, none, fh⟩ :: l)
  | named {x n : Str} (i : Nat) {c : Addr} {fh : Addr → Option PyData → En → SM} {b0 : Stmt} {bs : List Stmt} {np hp : Pos} {hs : List ExceptHandler} {l : List HDM} (hc : Names X x (.ref c)) (hN : X.N.Nodup) (hi : X.N[i]? = some n) (hln : X.env.kindOf n = some .local)
      (hsu : ∀ (a : Addr) (oe : Obj) (cls : Value) (d : Option Addr) (pn : List (Addr × Obj)), Zc cls d oe → (∃ vs, oe.data = .fields vs) → PSs (X.suite a ((a, oe) :: pn)) (b0 :: bs) (hM X.K cT (some i) fh a cls d)) (r : HsM X cT hs l) :
      HsM X cT (.ExceptHandler (some (.Name x np)) (some n) (b0 :: bs) hp :: hs) (⟨c, some i, fh⟩ :: l)
def clsM (K : PySem.W.Frag) (cT : Addr → Addr → Option Bool) (h : HDM) : Cls := (.ref h.c, h.nm, hM K cT h.nm h.f)
theorem HsM.cls {X : Cx} {cT : Addr → Addr → Option Bool} : ∀ {hs : List ExceptHandler} {l : List HDM}, HsM X cT hs l → ClsOk X hs (l.map (clsM X.K cT)) := by
  intro hs l h
  induction h with
  | nil => exact .nil
  | only hc hsu r ih => exact .only hc hsu ih
  | named i hc hN hi hln hsu r ih => exact .named hc hN hi hln hsu ih
section
variable {X : Cx} {W : WX} {pos : Pos}
theorem tM_calm {H0 : Hp} {O0 : Ow} {r : SM} {D : Ends} (h : tM W H0 O0 (SM.calm r) D) : tM W0 H0 O0 r D := by
  cases r with
  | nx ρ => exact h
  | rt d ρ => exact h
  | ex c p ρ => exact h.elim
  | st => exact h
  | nw k => exact h.elim
theorem tM_off {H0 : Hp} {O0 : Ow} {r : SM} {D : Ends} {i : Nat} (h : tM W H0 O0 (SM.off i (SM.calm r)) D) : tM W0 H0 O0 r (offN D (some i)) := by
  cases r with
  | nx ρ => exact fun σ H rs => h _ _ (rs.setNone (i := i) (ov := none))
  | rt d ρ => exact h
  | ex c p ρ => exact h.elim
  | st => exact h
  | nw k => exact h.elim
theorem tryM_ok {K : PySem.W.Frag} {cT : Addr → Addr → Option Bool} (xt : XTab K cT) {c : Addr} {H0 : Hp} {O0 : Ow} {ρ : En} {σ : Sg} {H : Hp} {D : Ends} {d : Option Addr} {p : Option PyData} (rs : RS H0 O0 ρ σ H) (py : PayR (Oa O0 ρ σ) H d p) : ∀ (l : List HDM), tM W H0 O0 (tryM cT c p ρ l) D → wCls K W D (l.map (clsM K cT)) (.ref c) d σ H
  | [], h => by
    have h := h σ H rs
    cases p with
    | none =>
      cases d with
      | none => exact h
      | some a => exact py.elim
    | some x =>
      cases d with
      | none => exact py.elim
      | some a =>
        obtain ⟨v, e, r⟩ := py
        exact h a v e r
  | ⟨hc, nm, f⟩ :: l, h => by
    unfold tryM at h
    dsimp only at h
    cases e : cT c hc with
    | none => rw [e] at h; exact h.elim
    | some b =>
      rw [e] at h
      obtain ⟨k1, k2, k3⟩ := xt.ok c hc b e
      cases b with
      | false => exact ⟨false, k2, fun z => (nomatch z), fun _ => tryM_ok xt rs py l h⟩
      | true =>
        refine ⟨true, k2, fun _ a na => ?_, fun z => (nomatch z)⟩
        cases nm with
        | none => exact ⟨c, p, ρ, H0, O0, rfl, py, fun i z => (nomatch z), xt, rs, tM_calm h⟩
        | some i =>
          have h : tM W H0 O0 (if i < ρ.length then SM.off i (SM.calm (f c p (ρ.set i .no))) else .st) D := h
          split at h
          · rename_i hi
            refine ⟨c, p, ρ.set i .no, H0, O0, rfl, ?_, fun j z => ?_, xt, rs.setNone, tM_off h⟩
            · cases p with
              | none =>
                cases d with
                | none => trivial
                | some a => exact py.elim
              | some x =>
                cases d with
                | none => exact py.elim
                | some a' =>
                  obtain ⟨v, e, r⟩ := py
                  exact ⟨v, e, r.kp fun a o ha hO => ⟨ha, fun z => hO (Oa.setNone a z)⟩⟩
            · cases z
              show (σ.set i (some (.ref a)))[i]? = _
              rw [List.getElem?_set_self (by rw [rs.len]; exact hi)]
          · exact h.elim
theorem m_try {body : List Stmt} {h0 : ExceptHandler} {hds : List ExceptHandler} {l : List HDM} {cT : Addr → Addr → Option Bool} {fb : En → SM} (xt : XTab X.K cT) (hs : X.stack = X.env :: X.outer) (hf : X.env.frame = some X.env.locals) (tk : Takes X W)
    (hb : ∀ (W : WX) (pn : List (Addr × Obj)) (xe : Value → Shared → Prop), Takes (X.tr pn xe) W → PassesOwn (model X.prog X.w) X.A X.env xe → PSs (X.tr pn xe) body (sM W fb))
    (hh : HsM X cT (h0 :: hds) l) : PS X (.Try body (h0 :: hds) [] [] pos) (sM W (mTry cT fb l)) :=
  ps_imp (ps_tryN hs hf tk hb hh.cls) fun D σ H ⟨ρ, H0, O0, rs, h⟩ => by
    refine ⟨ρ, H0, O0, rs, ?_⟩
    unfold mTry at h
    cases e : fb ρ with
    | nx ρ' => rw [e] at h; exact h
    | rt d ρ' => rw [e] at h; exact h
    | st => rw [e] at h; exact h
    | nw k => rw [e] at h; exact h.elim
    | ex c p ρ' =>
      rw [e] at h
      cases c with
      | ref c =>
        intro σ' H' rs'
        cases p with
        | none => exact tryM_ok xt rs' (d := none) (p := none) trivial l h
        | some x => exact fun a v e r => tryM_ok xt rs' (d := some a) (p := some x) ⟨v, e, r⟩ l h
      | _ => exact h.elim
theorem hm_gen {oi : Option Nat} {cT : Addr → Addr → Option Bool} {a : Addr} {cls : Value} {d : Option Addr} {b : List Stmt} {f : En → SM} {Y : Cx} (h : PSs Y b (sM W0 f)) : PSs Y b (hM X.K cT oi (fun _ _ => f) a cls d) :=
  ⟨fun pins s σ H D I ⟨c, p, ρ, H0, O0, _, _, _, _, rs, q⟩ => h.run pins s σ H D I ⟨ρ, H0, O0, rs, q⟩⟩
/-- return s1 if .. else s2 -/
def hRetM (cT : Addr → Addr → Option Bool) (C1 : Addr) (o2 : Option Addr) (s1 s2 : PyData) : Addr → Option PyData → En → SM := fun c p ρ => match hStr cT C1 o2 s1 s2 c p with
  | some d => .rt d ρ
  | none => .st
theorem hm_ret {cT : Addr → Addr → Option Bool} {i : Nat} {C1 : Addr} {o2 : Option Addr} {t : Expr} {s1 s2 : Str} {j k : Nat} {p q r : Pos} (ht : TestOk X cT i C1 o2 t) {a : Addr} {oe : Obj} {cls : Value} {d : Option Addr} {pn : List (Addr × Obj)} (hz : Zc cls d oe) (hf : ∃ vs, oe.data = .fields vs) :
    PSs (X.suite a ((a, oe) :: pn)) [.Return (some (.IfExp t (.Constant (.str s1) j p) (.Constant (.str s2) k q) r)) pos] (hM X.K cT (some i) (hRetM cT C1 o2 (.str s1) (.str s2)) a cls d) :=
  ⟨fun pins s σ H D I ⟨c, pp, ρ, H0, O0, hc, py, hi, xt, rs, h⟩ => by
    subst hc
    unfold hRetM at h
    cases pp with
    | some z => exact h.elim
    | none =>
      cases d with
      | some z => exact py.elim
      | none =>
        unfold hStr at h
        cases e : hCond cT c C1 o2 with
        | none => rw [e] at h; exact h.elim
        | some b =>
          rw [e] at h
          refine (pss_one (ps_ret (pe_hStr (ht a c oe pn b hz hf xt e)))).run pins s σ H D I ⟨hi i rfl, ?_⟩
          refine h _ σ H rs ?_
          cases b with
          | true => exact .str _
          | false => exact .str _⟩
end
end DL

/-! # t[::-1]; two Notes; == of Notes -/
namespace DLR
open PySem PySem.Spec PyProof.Rows L2 HT
section
variable {prog : Program} {w : World} {A : Around} {E : Value → Shared → Prop} {s : Shared}
theorem adj_rev (n : Nat) : Builtin.Slice.sliceAdjust none none (-1) (n : Int) = ((n : Int) - 1, -1) := rfl
theorem pl_rev (n : Nat) : Builtin.Slice.slicePlaces ((n : Int) - 1) (-1) (-1) = n := by
  unfold Builtin.Slice.slicePlaces
  have h1 : ¬ ((-1 : Int) > 0) := by decide
  simp only [h1, if_false]
  by_cases h : (n : Int) - 1 > -1
  · rw [if_pos h, show (- -1 : Int) = 1 by decide, Int.ediv_one]
    omega
  · rw [if_neg h]
    omega
theorem sliceApplied_rev {sl : Addr} {vs : Value} {n : Nat} {Q : Int × Int × Nat → Shared → Prop} (hs : s.heap.IsSliceOf sl .none .none vs) (ps : IsPart vs (some (-1))) (h : Q ((n : Int) - 1, -1, n) s) : wpAny (model prog w) A (Builtin.Slice.sliceApplied (.ref sl) (pure (n : Int))) Q E s := by
  obtain ⟨os, hos, hcs, hds⟩ := id hs
  unfold Builtin.Slice.sliceApplied Builtin.Slice.sliceFields
  refine wpAny_bind (wpAny_bind (wpAny_field hos hds (x := .none) rfl (wpAny_bind (wpAny_field hos hds (x := .none) rfl (wpAny_bind (wpAny_field hos hds (x := vs) rfl (wpAny_pure ?_)))))))
  refine wpAny_bind (slicePart_ ps ?_)
  show wpAny _ _ (if ((-1 : Int) == 0) = true then _ else _) _ _ s
  rw [if_neg (by decide)]
  refine wpAny_bind (slicePart_none (wpAny_bind (slicePart_none (wpAny_bind (wpAny_pure ?_)))))
  show wpAny _ _ (match Builtin.Slice.sliceAdjust none none (-1) (n : Int) with | (lo, hi) => pure (lo, (-1 : Int), Builtin.Slice.slicePlaces lo hi (-1))) _ _ s
  rw [adj_rev n]
  show wpAny _ _ (pure ((n : Int) - 1, (-1 : Int), Builtin.Slice.slicePlaces ((n : Int) - 1) (-1) (-1))) _ _ s
  rw [pl_rev]
  exact wpAny_pure h
theorem fm_congr {α β : Type} {f g : α → Option β} : ∀ l : List α, (∀ m ∈ l, f m = g m) → l.filterMap f = l.filterMap g
  | [], _ => rfl
  | x :: l, h => by
    rw [List.filterMap_cons, List.filterMap_cons, h x (by simp), fm_congr l fun m hm => h m (by simp [hm])]
theorem pick_rev (xs : Array Value) : ((List.range xs.size).filterMap fun (m : Nat) => xs[((xs.size : Int) - 1 + (m : Int) * -1).toNat]?).toArray = xs.toList.reverse.toArray := by
  have e : ((List.range xs.size).filterMap fun (m : Nat) => xs[((xs.size : Int) - 1 + (m : Int) * -1).toNat]?) = ((List.range xs.size).map fun k => xs.size - 1 - k).filterMap (xs[·]?) := by
    rw [List.filterMap_map]
    refine fm_congr _ fun m hm => ?_
    have := List.mem_range.mp hm
    show xs[((xs.size : Int) - 1 + (m : Int) * -1).toNat]? = xs[xs.size - 1 - m]?
    rw [show ((xs.size : Int) - 1 + (m : Int) * -1).toNat = xs.size - 1 - m by omega]
  rw [e, PySem.W.krv_range, List.filterMap_reverse, PySem.W.krv_all]
theorem getItem_tuple_rev {t sl : Addr} {items : Array Value} {vs : Value} {Q : Value → Shared → Prop} (ht : IsTup s.heap t items) (hs : s.heap.IsSliceOf sl .none .none vs) (ps : IsPart vs (some (-1)))
    (h : Q (.ref s.heap.objs.size) { s with heap := s.heap.push { cls := .type "tuple", data := .seq items.toList.reverse.toArray } }) (hsz : items.size ≤ sizeLine) : wpAny (model prog w) A (getItem (.ref t) (.ref sl)) Q E s := by
  have hfit : sizeOk (.seq items.toList.reverse.toArray) := by
    show items.toList.reverse.toArray.size ≤ sizeLine
    rw [List.size_toArray, List.length_reverse, Array.length_toList]
    exact hsz
  obtain ⟨os, hos, hcs, hds⟩ := id hs
  have hTs : s.TypeIs (.ref sl) "slice" := ⟨os, hos, hcs⟩
  unfold getItem
  try with_reducible refine wpAny_holding ?_
  first | refine wpAny_bind (wpAny_pure ?_) | skip
  refine wpAny_bind (wpAny_sequenceKey ht.typeIs (by decide) ?_)
  refine wpAny_bind (wpAny_callSpecial?_slot (name := Str.ofString "__getitem__") ht.typeIs PyProof.Rows.slot_tuple_getitem (wpAny_call_entry PyProof.Rows.slot_tuple_getitem ht.typeIs entry_tuple_getitem ?_ (args_tuple_getitem _ _)))
  show wpAny _ _ (Builtin.Tuple.tupleItemsOf (.ref t) >>= _) _ _ s
  refine wpAny_bind (tupleItemsOf_ ht (wpAny_bind (wpAny_typeOf hTs ?_)))
  rw [if_pos (by decide)]
  refine wpAny_bind (sliceApplied_rev (n := items.size) hs ps ?_)
  have hno : ¬ ((((items.size : Int) - 1) == 0 && (-1 : Int) == 1 && items.size == items.size) = true) := by
    rw [show ((-1 : Int) == 1) = false by decide, Bool.and_false, Bool.false_and]
    exact Bool.false_ne_true
  show wpAny _ _ (if (((items.size : Int) - 1) == 0 && (-1 : Int) == 1 && items.size == items.size) = true then _ else _) _ _ s
  rw [if_neg hno, pick_rev]
  first
    | exact wpAny_bind (m := Builtin.Tuple.tupleExact _) (wpAny_newObj_type (wpAny_pure ⟨_, rfl, wpAny_pure h⟩) hfit)
    | exact wpAny_bind (m := Builtin.Tuple.tupleExact _) (wpAny_newObj_type (wpAny_bind (wpAny_pure (wpAny_pure ⟨_, rfl, wpAny_pure h⟩))) hfit)
    | exact wpAny_bind (wpAny_bind (m := Builtin.Tuple.tupleExact _) (wpAny_newObj_type (wpAny_pure (wpAny_pure ⟨_, rfl, wpAny_pure h⟩)) hfit))
    | exact wpAny_bind (wpAny_bind (m := Builtin.Tuple.tupleExact _) (wpAny_newObj_type (wpAny_pure ⟨_, rfl, wpAny_pure h⟩) hfit))
end
def tRevT (K : PySem.W.Frag) (te : TE) : TE := fun σ H Q => te σ H fun x H1 => ∃ a xs, x = .ref a ∧ SqT K H1 a xs ∧ ∀ p, H1 p = none → Q (.ref p) (upd H1 p (.tup xs.reverse))
theorem pe_revT {X : Cx} {e : Expr} {te : TE} {k : Nat} {p1 p2 p3 pos : Pos} (he : PE X e te) : PE X (.Subscript e (.Slice none none (some (.UnaryOp .USub (.Constant (.int 1) k p1) p2)) p3) pos) (tRevT X.K te) := by
  refine ⟨fun pins s σ H Q I h => ?_⟩
  refine Subscript_ (thn (he.run pins s σ H _ I h) fun v s1 ⟨x, H1, I1, r1, q1⟩ => ?_)
  obtain ⟨a, xs, ex, hx, q⟩ := q1
  subst ex
  cases r1
  have hst : PO X (some (.UnaryOp .USub (.Constant (.int 1) k p1) p2)) (tPart (tUn (rU fun i => .int (-i)) (tC (.int 1)))) := po_some (pe_un un_neg pe_int)
  refine wpAny_Slice (thn (po_none.run pins s1 σ H1 (fun o G => o = none ∧ G = H1) I1 ⟨rfl, rfl⟩) fun vl s2 ⟨l, H2, I2, pl, el, e2⟩ => ?_)
  subst el e2
  refine thn (po_none.run pins s2 σ H2 (fun o G => o = none ∧ G = H2) I2 ⟨rfl, rfl⟩) fun vu s3 ⟨u, H3, I3, pu, eu, e3⟩ => ?_
  subst eu e3
  refine thn (hst.run pins s3 σ H3 (fun o G => o = some (-1) ∧ G = H3) I3 ⟨1, rfl, -1, rfl, rfl, rfl⟩) fun vs s4 ⟨o, H4, I4, ps, eo, e4⟩ => ?_
  subst eo e4
  have I5 : Inv X pins σ H4 { s4 with heap := s4.heap.push { cls := .type "slice", data := .fields #[vl, vu, vs] } } := I4.kept (t' := s4.toks) fun b ob q => Heap.get?_push_of_some _ q
  obtain ⟨its, r, ht, hz⟩ := I5.tuple hx
  have hlen := r.length
  cases pl
  cases pu
  show wpAny (model X.prog X.w) X.A (subscriptTail e (.Slice none none (some (.UnaryOp .USub (.Constant (.int 1) k p1) p2)) p3) (.ref a) (.ref s4.heap.objs.size)) (EP X pins σ Q) X.xe { s4 with heap := s4.heap.push { cls := .type "slice", data := .fields #[.none, .none, vs] } }
  refine tail_any (ops := [.ref a, .ref s4.heap.objs.size]) ht.typeIs (PyProof.Rows.slot_tuple_getitem.lookup) ?_ (by with_unfolding_all rfl)
  refine getItem_tuple_rev ht (Heap.IsSliceOf.new _ .none .none vs) ps ?_ (by rw [List.size_toArray]; omega)
  refine ⟨.ref _, _, I5.laid (t' := s4.toks) (o := .tup xs.reverse) (fun b ob q => Heap.get?_push_of_some _ q) (Nat.le_refl _) ?_, rfl, q _ (I5.hok.fresh (Nat.le_refl _))⟩
  exact ⟨by rw [List.length_reverse]; exact hz, _, r.reverse, IsTup.new _ _⟩
end DLR
namespace DL
open PySem PySem.Spec L2 PyProof.Rows
def dRevT : PyData → Re PyData
  | .tuple ds => .ok (.tuple ds.reverse)
  | _ => .st
theorem de_revT {X : Cx} {W : WX} {a : Expr} {fa : En → Re PyData} {pos : Pos} {k : Nat} {p1 p2 p3 : Pos} (ha : PE X a (tD W fa)) : PE X (.Subscript a (.Slice none none (some (.UnaryOp .USub (.Constant (.int 1) k p1) p2)) p3) pos) (tD W (e1 dRevT fa)) :=
  pe_imp (DLR.pe_revT ha) fun σ H Q ⟨ρ, O, re, h⟩ => goD re h fun d x H1 re1 _ rx h1 => by
    cases d with
    | tuple ds =>
      obtain ⟨a, xs, rfl, ea, na, q⟩ := rx.i_tup
      exact ⟨a, xs, rfl, SqT.of ea, fun p hp => h1.newT re1 hp q.rev⟩
    | _ => exact h1.elim
/-! ## x[k] = e, where e writes Notes -/
def mStL (i : Nat) (fx : En → Re PyData) (fa : En → ME PyData) : En → SM := fun ρ => SM.of (fa ρ) fun d ρ1 => match ρ1[i]? with
  | some (.ow (.list ds)) => SM.of (ofRe (fx ρ1) ρ1) fun k ρ2 => match k with
    | .int z => match ixN ds.length z with
      | some j => .nx (ρ2.set i (.ow (.list (ds.set j d))))
      | none => .st
    | _ => .st
  | _ => .st
theorem m_stL {X : Cx} {W : WX} {pos : Pos} (i : Nat) {x : Str} {e ix : Expr} {fx : En → Re PyData} {fa : En → ME PyData} {p1 p2 : Pos} (he : PE X e (tX W fa)) (hx : PE X ix (tD W fx)) (hN : X.N[i]? = some x := by rfl) (hv : Vis X.env.scope x := by first | exact Or.inl rfl | exact Or.inr (Or.inl rfl) | exact Or.inr (Or.inr rfl)) (hd : (x == ("__debug__" : Str)) = false := by decide) (hcd : (x == ("__classdict__" : Str)) = false := by decide)
    (ha : ∀ v, assign (.Subscript (.Name x p1) ix p2) X.env v = (do let ov ← holding [v] (eval (.Name x p1) X.env); let iv ← holding [v, ov] (eval ix X.env); standAt p2; holding [v, ov, iv] (setItem ov iv v); release [v, ov, iv] []) := by intro _; rfl)
    (hs : swapsWithSole [.Subscript (.Name x p1) ix p2] e pos.line X.env = pure false := by rfl) (hw : swappedStores [.Subscript (.Name x p1) ix p2] e X.env = pure none := by rfl)
    (h1 : (assignEach [.Subscript (.Name x p1) ix p2] X.env).map (·.2) = [assign (.Subscript (.Name x p1) ix p2) X.env] := by rfl) : PS X (.Assign [.Subscript (.Name x p1) ix p2] e pos) (sM W (mStL i fx fa)) :=
  ps_imp (ps_asg he (pg_sub (pe_var hN hv hd hcd) hx set_list ha) hs hw h1) fun D σ H ⟨ρ, H0, O0, rs, h⟩ => goMX rs h fun d ρ1 v H1 rs1 rv h1 => by
    split at h1
    · rename_i ds ei
      obtain ⟨p, ep, op, xs, e1, r1⟩ := rs1.re.at_ i _ ei
      refine ⟨.ref p, ep, ρ1, _, rs1.re, ?_⟩
      cases ef : fx ρ1 with
      | ex c q => rw [ef] at h1; exact fun H2 s2 => h1 σ H2 (rs1.heap s2)
      | st => rw [ef] at h1; exact h1
      | ok kd =>
        rw [ef] at h1
        intro y H2 s2 ry
        cases kd with
        | int z =>
          simp only [ofRe_ok, SM.of_ok] at h1
          split at h1
          · rename_i j hj
            cases ry.i_int
            have rs2 := rs1.heap s2
            obtain ⟨p', ep', op', xs', e1', r1'⟩ := rs2.re.at_ i _ ei
            rw [ep] at ep'; cases ep'
            have sm : Rp (Oa O0 ρ1 σ) H2 v d := rv.kp (.same s2)
            refine ⟨p, xs', _, j, rfl, rfl, e1', by rw [r1'.len]; exact hj, h1 _ _ (rs2.store ei ep ⟨xs'.set j v, upd_same, ?_⟩)⟩
            exact (r1'.set sm j).kp (.own op)
          · exact h1.elim
        | _ => exact h1.elim
    · exact h1.elim
/-- a and b, where b writes Notes -/
def xAnd (f : En → Re PyData) (fb : En → ME PyData) : En → ME PyData := fun ρ => (ofRe (f ρ) ρ).bind fun d ρ1 => match d with
  | .bool true => fb ρ1
  | .bool false => .ok (.bool false) ρ1
  | _ => .st
theorem x_and {X : Cx} {W : WX} {pos : Pos} {a b : Expr} {f : En → Re PyData} {fb : En → ME PyData} (ha : PE X a (tD W f)) (hb : PE X b (tX W fb)) : PE X (.BoolOp .And [a, b] pos) (tX W (xAnd f fb)) :=
  pe_imp (pe_and ha (pe_one hb)) fun σ H Q ⟨ρ, H0, O0, rs, h⟩ => by
    refine ⟨ρ, _, rs.re, ?_⟩
    unfold xAnd at h
    cases e : f ρ with
    | ex c p => rw [e] at h; exact fun H' s => h H' (rs.heap s)
    | st => rw [e] at h; exact h
    | ok d =>
      rw [e] at h
      intro v H1 s rv
      have rs1 := rs.heap s
      cases d with
      | bool k =>
        cases rv.i_bl
        cases k with
        | true => exact ⟨true, rfl, iteT ⟨ρ, H0, O0, rs1, h⟩⟩
        | false => exact ⟨false, rfl, iteF (h _ H1 rs1 (.bl false))⟩
      | _ => exact h.elim
/-! ## x, y = Notes(e), Notes(f) -/
theorem RS.init {H0 : Hp} {O0 : Ow} {ρ : En} {σ : Sg} {H1 H' : Hp} {C z dx t c b : Addr} {n : Int} {i : Nat} (rs1 : RS H0 O0 ρ σ H1) (nz : H1 z = none) (nd : H1 dx = none) (ne : dx ≠ z) (s : ∀ a o, (upd (upd H1 dx (.own z)) z (.ins C dx [])) a = some o → a ≠ z → H' a = some o) (nt : (upd (upd H1 dx (.own z)) z (.ins C dx [])) t = none) (nc : (upd (upd H1 dx (.own z)) z (.ins C dx [])) c = none) (nb : (upd (upd H1 dx (.own z)) z (.ins C dx [])) b = none) (cb : c ≠ b)
    (e1 : H' z = some (.ins C dx (nfs (.int n) (.ref t) (.ref c) (.ref b)))) (e2 : H' t = some (.tup [])) (e3 : H' c = some (.lst [])) (e4 : H' b = some (.lst [])) (hi : i < ρ.length) : Same H1 H' ∧ RS H0 O0 (ρ.set i (.ob C ⟨z, c, b⟩ ⟨.int n, .tuple [], [], []⟩)) (σ.set i (some (.ref z))) H' := by
  have zt : t ≠ z := fun q => by rw [q, upd_same] at nt; cases nt
  have zc : c ≠ z := fun q => by rw [q, upd_same] at nc; cases nc
  have zb : b ≠ z := fun q => by rw [q, upd_same] at nb; cases nb
  rw [upd_ne zt] at nt
  rw [upd_ne zc] at nc
  rw [upd_ne zb] at nb
  have dt : t ≠ dx := fun q => by rw [q, upd_same] at nt; cases nt
  have dc : c ≠ dx := fun q => by rw [q, upd_same] at nc; cases nc
  have db : b ≠ dx := fun q => by rw [q, upd_same] at nb; cases nb
  rw [upd_ne dt] at nt
  rw [upd_ne dc] at nc
  rw [upd_ne db] at nb
  have sm : Same H1 H' := fun a o ea => by
    have az : a ≠ z := ne_of_none ea nz
    have ad : a ≠ dx := ne_of_none ea nd
    exact s a o (by rw [upd_ne az, upd_ne ad]; exact ea) az
  refine ⟨sm, rs1.newB sm nz nc nb ⟨cb, ⟨dx, .int n, .ref t, e1, .int n, .tup e2 ?_ .nil⟩, ⟨[], e3, .nil⟩, ⟨[], e4, .nil⟩⟩ hi⟩
  rintro (w | w | w | w)
  · exact rs1.re.dom t w nt
  · exact zt w
  · have w : t = c := w
    rw [w, e3] at e2; cases e2
  · have w : t = b := w
    rw [w, e4] at e2; cases e2
def mNew2 (C : Addr) (i j : Nat) (fe ff : En → Re PyData) : En → SM := fun ρ => match fe ρ, ff ρ with
  | .ok (.int n), .ok (.int m) => if decide (1 ≤ n) && decide (n ≤ 16) && decide (1 ≤ m) && decide (m ≤ 16) && decide (i < ρ.length) && decide (j < ρ.length) && decide (i ≠ j) then .nw fun A => .nw fun B => .nx ((ρ.set i (.ob C A ⟨.int n, .tuple [], [], []⟩)).set j (.ob C B ⟨.int m, .tuple [], [], []⟩)) else .st
  | _, _ => .st
theorem m_new2 {X : Cx} {W : WX} {C : Addr} {k : Nat} {f : Addr} {fd : FuncData} {ps : List Str} (i j : Nat) {x y z : Str} {a b : Expr} {fe ff : En → Re PyData} {px py pt pt2 p1 p2 p3 p4 pos : Pos} {kt k2} (M : Mk X.K C f) (F : FnOk X.prog X.w X.K X.mg X.base (L2.CX X.prog X.w) k f fd ps (spInit C)) (hr : Room (k + 1) X.A) (hm : X.mg z = some (.ref C)) (hb : Binds X.K fd ps []) (tk : Takes X W) (ha : PE X a (tD W fe)) (hb2 : PE X b (tD W ff)) (hc : X.calm = true) (hN : X.N.Nodup) (hij : i ≠ j := by decide) (hi : X.N[i]? = some x := by rfl) (hj : X.N[j]? = some y := by rfl)
    (hx : X.env.scope.names.lookup x = some .local := by rfl) (hy : X.env.scope.names.lookup y = some .local := by rfl) (hg : Gl X z := by rfl) (hdb : (z == ("__debug__" : Str)) = false := by decide)
    (hs1 : starEach [a] X.env = (false, eval a X.env) :: starEach [] X.env := by rfl) (hs2 : starEach [b] X.env = (false, eval b X.env) :: starEach [] X.env := by rfl)
    (ht1 : starEach [.Call (.Name z p1) [a] [] p2, .Call (.Name z p3) [b] [] p4] X.env = (false, eval (.Call (.Name z p1) [a] [] p2) X.env) :: starEach [.Call (.Name z p3) [b] [] p4] X.env := by rfl) (ht2 : starEach [.Call (.Name z p3) [b] [] p4] X.env = (false, eval (.Call (.Name z p3) [b] [] p4) X.env) :: starEach [] X.env := by rfl)
    (hw : swappedStores [.Tuple [.Name x px, .Name y py] kt pt] (.Tuple [.Call (.Name z p1) [a] [] p2, .Call (.Name z p3) [b] [] p4] k2 pt2) X.env = pure (some [x, y]) := by rfl)
    (hs : swapsWithSole [.Tuple [.Name x px, .Name y py] kt pt] (.Tuple [.Call (.Name z p1) [a] [] p2, .Call (.Name z p3) [b] [] p4] k2 pt2) pos.line X.env = pure false := by rfl) :
    PS X (.Assign [.Tuple [.Name x px, .Name y py] kt pt] (.Tuple [.Call (.Name z p1) [a] [] p2, .Call (.Name z p3) [b] [] p4] k2 pt2) pos) (sM W (mNew2 C i j fe ff)) :=
  ps_imp (ps_par hc hN hi hj hij hx hy (pa_cons (pe_makeD M F hr hm hb (passAt tk) (pa_cons ha pa_nil hs1) hg hdb hs1 (by rfl)) (pa_cons (pe_makeD M F hr hm hb (passAt tk) (pa_cons hb2 pa_nil hs2) hg hdb hs2 (by rfl)) pa_nil ht2) ht1) hw hs) fun D σ H ⟨ρ, H0, O0, rs, h⟩ => by
    unfold mNew2 at h
    split at h
    · rename_i n m en em
      split at h
      · rename_i hn
        simp only [Bool.and_eq_true, decide_eq_true_eq] at hn
        obtain ⟨⟨⟨⟨⟨⟨h1, h2⟩, h3⟩, h4⟩, h5⟩, h6⟩, h7⟩ := hn
        refine ⟨ρ, _, rs.re, ?_⟩
        rw [en]
        intro v H1 s1 rv
        cases rv.i_int
        have rs1 := rs.heap s1
        intro z1 dx1 nz nd ne
        refine ⟨z1, dx1, n, rfl, h1, h2, upd_same, fun t c b H' s nt nc nb cb e1 e2 e3 e4 => ⟨rfl, ?_⟩⟩
        obtain ⟨sm1, rs2⟩ := rs1.init (i := i) nz nd ne s nt nc nb cb e1 e2 e3 e4 h5
        refine ⟨ρ, _, (rs1.heap sm1).re, ?_⟩
        rw [em]
        intro v H2 s2 rv
        cases rv.i_int
        have rs3 := rs2.heap s2
        intro z2 dx2 nz' nd' ne'
        refine ⟨z2, dx2, m, rfl, h3, h4, upd_same, fun t' c' b' H3 s' nt' nc' nb' cb' e1' e2' e3' e4' => ⟨rfl, ?_⟩⟩
        obtain ⟨sm2, rs4⟩ := rs3.init (i := j) nz' nd' ne' s' nt' nc' nb' cb' e1' e2' e3' e4' (by rw [List.length_set]; exact h6)
        exact ⟨_, _, rfl, h ⟨z1, c, b⟩ ⟨z2, c', b'⟩ _ H3 rs4⟩
      · exact h.elim
    · exact h.elim
end DL

/-! # == and != of Notes -/
namespace PySem.W
open PySem PySem.Spec PySem.Calls PyProof.Rows Builtin
section
variable {prog : Program} {w : World} {A : Around} {E : Value → Shared → Prop} {s : Shared} {K : Frag} {x C L f : Addr} {h₀ : Heap} {m : Str → Option Value} {ox : Obj} {od : Option Obj} {b tb : Value}
/-- a special method that is object's own, if bound -/
theorem dl_ifBoundB {M : Model} {name : Str} {id : String} {args : List Value} {Q : Option Value → Shared → Prop} (X : K.In s.heap) (I : InstAt s.heap x ox C od) (hs : findIn K (.ref C) name = some (some (.builtin id))) (hb : ∀ self, bindSpecial (.builtin id) self = pure (.builtin id, [self]))
    (h : wpAny M A (call (.builtin id) (.ref x :: args)) (fun v => Q (some v)) E s) : wpAny M A (callSpecialIfBound? (.ref x) name args) Q E s := by
  simp only [callSpecialIfBound?, bindSpecialIfBound?]
  refine wpAny_holding (wpAny_bind (wpAny_bind (wpAny_bind (I.type.here ((looks_findIn X hs).here ?_)))))
  simp only [hb]
  refine wpAny_bind (wpAny_askSetting (wpAny_ite ?_))
  have fin : wpAny M A (call (.builtin id) ([.ref x] ++ args) >>= fun v => pure (some v)) Q E s := wpAny_bind (wpAny_mono h (fun v s' h' => wpAny_pure h') fun _ _ h' => h')
  split
  · first
      | exact wpAny_bind (wpAny_pure (wpAny_pure (by exact fin)))
      | exact wpAny_bind (wpAny_bind (wpAny_pure (wpAny_pure (by exact fin))))
      | exact wpAny_bind (wpAny_pure (by exact fin))
  · first
      | exact wpAny_tryCatch (wpAny_bind (wpAny_pure (wpAny_pure (by exact fin))))
      | exact wpAny_tryCatch (wpAny_bind (wpAny_pure (by exact fin)))
theorem dl_objNe {Q : Value → Shared → Prop} (hu : A.in1.units < cLine) (X : K.In s.heap) (I : InstAt s.heap x ox C od) (hm : mroIn K C (.type "object") = some true) (hs : findIn K (.ref C) "__eq__" = some (some (.ref f))) (hf : isFn K (.ref f) = true)
    (h : wpAny (model prog w) A.in1 (call (.ref f) [.ref x, b]) (fun v s' => ∃ k, v = .bool k ∧ Q (.bool (!k)) s') E s) : wpAny (model prog w) A (call (.builtin "object.__ne__") [.ref x, b]) Q E s := by
  refine wpAny_call (codeAny_call_builtin PySem.F.cmp_object.ne.plain PySem.F.cmpEntry_ne (check_slot (i := "object.__ne__") (owner := "object") (n := "__ne__") PySem.F.cmpKind_ne PySem.F.cmpSplit_ne (I.type.andThen (looks_mroIn X hm)) (PySem.F.cmpArgs_ne _ _) ?_))
  unfold Builtin.«object.__ne__»
  refine wpAny_bind (m := slotArgs "__ne__" 1 _) (wpAny_pure ?_)
  refine wpAny_bind (m := cRoomFor _ _) (wpAny_cRoomFor hu ?_)
  refine wpAny_bind (m := callSpecialIfBound? (.ref x) (Str.ofString "__eq__") _) (ifBound_K X I hs hf (wpAny_mono h (fun r s' hq => ?_) fun _ _ y => y))
  obtain ⟨k, rfl, q⟩ := hq
  first
    | exact wpAny_bind (m := truthy (.bool k)) (wpAny_truthy_bool (wpAny_pure q))
    | exact wpAny_bind (wpAny_truthy_bool (wpAny_pure (wpAny_pure q)))
theorem dl_ne {Q : Value → Shared → Prop} (hu : A.units < cLine) (hu1 : A.in1.units < cLine) (F : Fr h₀ L s.heap m) (X₀ : K.In h₀) (I : InstAt s.heap x ox C od) (hb : Looks (model prog w) s.heap (typeOf b) tb) (hn : notFirst K C tb = true)
    (hne : findIn K (.ref C) "__ne__" = some (some (.builtin "object.__ne__"))) (hm : mroIn K C (.type "object") = some true) (hs : findIn K (.ref C) "__eq__" = some (some (.ref f))) (hf : isFn K (.ref f) = true)
    (h : wpAny (model prog w) A.in1 (call (.ref f) [.ref x, b]) (fun v s' => ∃ k, v = .bool k ∧ Q (.bool (!k)) s') E s) : wpAny (model prog w) A (richCompare .NotEq (.ref x) b) Q E s := by
  have X := X₀.keeps F.keep
  have one : wpAny (model prog w) A (tryCompare (.ref x) (cmpInfo .NotEq).2.1 b) (fun r s' => ∃ v, r = some v ∧ Q v s') E s := by
    unfold tryCompare
    refine wpAny_bind (dl_ifBoundB X I hne PySem.F.cmp_object.ne.bind (dl_objNe hu1 X I hm hs hf (wpAny_mono h (fun v s' hv => ?_) fun _ _ e => e)))
    obtain ⟨k, rfl, q⟩ := hv
    exact ⟨k, rfl, wpAny_pure ⟨_, rfl, q⟩⟩
  have fin : wpAny (model prog w) A (tryCompare (.ref x) (cmpInfo .NotEq).2.1 b) (fun r s' => ∃ v, r = some v ∧ wpAny (model prog w) A (pure v) Q E s') E s := wpAny_mono one (fun r s' ⟨v, ev, qv⟩ => ⟨v, ev, wpAny_pure qv⟩) fun _ _ y => y
  unfold richCompare; simp only [oneThing_ref]
  refine wpAny_holding (wpAny_bind (wpAny_cRoomFor hu (wpAny_bind (I.type.here (wpAny_bind (hb.here ?_))))))
  split
  · rename_i dif
    have lo : subIn K tb (.ref C) = some false := by
      rcases Bool.or_eq_true_iff.mp hn with ee | ee
      · rw [beq_iff_eq.mp ee] at dif; simp at dif
      · exact beq_iff_eq.mp ee
    refine wpAny_bind ((looks_subIn X lo).here ?_); simp only [Bool.false_eq_true, if_false]
    exact wpAny_bind (wpAny_mono fin (fun r s' ⟨v, ev, qv⟩ => by subst ev; exact qv) fun _ _ y => y)
  · refine wpAny_bind (wpAny_pure ?_); simp only [Bool.false_eq_true, if_false]
    exact wpAny_bind (wpAny_mono fin (fun r s' ⟨v, ev, qv⟩ => by subst ev; exact qv) fun _ _ y => y)
end
end PySem.W
namespace DL
open PySem PySem.Spec L2 PyProof.Rows
/-- what the written part says of the class for == -/
structure EqC (K : PySem.W.Frag) (C f : Addr) : Prop where
  cl : L2.Cls K C
  eq : PySem.W.findIn K (.ref C) "__eq__" = some (some (.ref f))
  fn : PySem.W.isFn K (.ref f) = true
  ne : PySem.W.findIn K (.ref C) "__ne__" = some (some (.builtin "object.__ne__"))
  mo : PySem.W.mroIn K C (.type "object") = some true
  ca : PySem.W.findIn K (.ref C) "__class__" = some (some (.builtin "object.__class__"))
  cn : PySem.W.specialIn K (.builtin "object.__class__") "__get__" = some (some (.builtin "getset_descriptor.__get__"))
  ct : PySem.W.takesIn K (.builtin "object.__class__") = some true
  ci : (PySem.W.clsIn K C).isSome = true
  ty : PySem.W.typeIn K (.ref C) = some (.type "type")
  st : PySem.W.subIn K (.type "tuple") (.ref C) = some false
  ss : PySem.W.subIn K (.type "str") (.ref C) = some false
theorem EqC.kit {K : PySem.W.Frag} {C f : Addr} (T : EqC K C f) {t : String} (h : PySem.W.subIn K (.type t) (.ref C) = some false) : PySem.W.kitOne K (.type t) (.ref C) = some false := by
  unfold PySem.W.kitOne
  rw [if_neg (by simp)]
  show (if ((PySem.W.clsIn K C).isSome && PySem.W.typeIn K (.ref C) == some (.type "type")) = true then PySem.W.subIn K (.type t) (.ref C) else none) = some false
  rw [if_pos (by rw [T.ci, T.ty]; rfl), h]
theorem EqC.self {K : PySem.W.Frag} {C f : Addr} (T : EqC K C f) : PySem.W.kitOne K (.ref C) (.ref C) = some true := by
  unfold PySem.W.kitOne
  rw [if_pos (by simp)]
theorem call_isY {X : Cx} {C : Addr} : CallR X (.builtin "isinstance") (fun xs H Q => ∃ (x : V) (t : Value) (b : Bool), xs = [x, .ref C] ∧ TyOf X.K H x t ∧ PySem.W.kitOne X.K t (.ref C) = some b ∧ Q (.bl b) H) := by
  intro pins s σ H xs us Q I r ⟨x, t, b, ex, ty, kt, q⟩
  subst ex
  obtain ⟨u, w', rfl, ru, rw'⟩ := vals2 r
  cases rw'
  exact isinst_ok I ru ty kt fun tk => ⟨.bl b, H, I.tok _, rfl, q⟩
/-- what __eq__ promises: fe by the two states; of another thing False -/
def EqSp (K : PySem.W.Frag) (C : Addr) (fe : En → Re PyData) : Sp := fun vs H Q _ =>
  (∃ (A : Ad) (st : NSt) (B : Ad) (st' : NSt) (O : Ow) (b : Bool), vs = [.ref A.p, .ref B.p] ∧ (∀ a, O a → H a ≠ none) ∧ (∀ a, A.has a → O a) ∧ (∀ a, B.has a → O a) ∧ ObR O H C A st ∧ ObR O H C B st' ∧ fe [.ob C A st, .ob C B st'] = .ok (.bool b) ∧ ∀ H', Same H H' → Q (.bl b) H') ∨
  (∃ (x y : V) (t : Value), vs = [x, y] ∧ TyOf K H y t ∧ PySem.W.kitOne K t (.ref C) = some false ∧ Q (.bl false) H)
def tIsY (K : PySem.W.Frag) (C : Addr) : TT := fun σ H Q => ∃ v, σ[1]? = some (some v) ∧ ∃ t b, TyOf K H v t ∧ PySem.W.kitOne K t (.ref C) = some b ∧ Q b H
def tEqB (K : PySem.W.Frag) (C : Addr) (te : TE) : TS := tSeq (tIfS (tNot (tIsY K C)) (tRet (tC (.bl false))) tNext) (tRet te)
theorem pt_isY {X : Cx} {C : Addr} {x y : Str} {p p1 p2 pos : Pos} (hm : X.mg "isinstance" = none) (hy : X.mg y = some (.ref C)) (hN : X.N[1]? = some x) (hv : Vis X.env.scope x) (hd : (x == ("__debug__" : Str)) = false) (hcd : (x == ("__classdict__" : Str)) = false) (hg : Gl X "isinstance" := by rfl) (hgy : Gl X y := by rfl) (hdy : (y == ("__debug__" : Str)) = false := by decide)
    (hs : starEach [.Name x p1, .Name y p2] X.env = (false, eval (.Name x p1) X.env) :: starEach [.Name y p2] X.env := by rfl) (hs2 : starEach [.Name y p2] X.env = (false, eval (.Name y p2) X.env) :: starEach [] X.env := by rfl) (hpl : (backTo pos (starEach [.Name y p2] X.env)).any (·.1) = false := by rfl)
    (he : ∀ whole, isTrue (.Call (.Name "isinstance" p) [.Name x p1, .Name y p2] [] pos) X.env whole = (do let v ← whole; standAt pos; holding [v] (truthy v)) := by intro _; rfl) :
    PT X (.Call (.Name "isinstance" p) [.Name x p1, .Name y p2] [] pos) (tIsY X.K C) := by
  have q := pe_callB (pos := pos) (p := p) (call_isY (X := X) (C := C)) hg hm (by decide +kernel) (pa_cons (pe_var hN hv hd hcd) (pa_cons (pe_glob (v := .ref C) hgy hy rfl hdy) pa_nil hs2) hs) (he := hs) (hpl := hpl)
  refine pt_imp (pt_truth q he) fun σ H Q ⟨v, h1, t, b, ty, kt, h2⟩ => ?_
  exact ⟨v, h1, v, t, b, rfl, ty, kt, b, rfl, h2⟩
theorem eq_ok {P : Program} {w : World} {K : PySem.W.Frag} {mg : Str → Option Value} {base : Heap} {qual : Str} {st : Stmt} {f : Addr} {fd : FuncData} {C : Addr} {k : Nat} {fe : En → Re PyData} (F : Fun K "__eq__" qual st f fd) (sc : FnScope ["self", "other"] ["self", "other"] (defScope st)) (T : EqC K C f)
    (hb : ∀ (cdv : Value) (A : Around) (outer : List Env) (s : Shared) (H : Hp) (E : XK), Room k (A.deeper (envOfC qual (defScope st) s.heap.objs.size f cdv)) → PSs (cxOf (L2.CX P w) P w K mg base ["self", "other"] qual (defScope st) f cdv A outer s H E) (defBody st) (tEqB K C (tD (WEx E) fe))) : FnOk P w K mg base (L2.CX P w) (k + 1) f fd ["self", "other"] (EqSp K C fe) := by
  refine F.okX sc (fun vs H Q E h => ?_) (fun cdv A outer s H vs Q E hr h => ⟨_, hb cdv A outer s H E hr, ?_⟩)
  · rcases h with ⟨_, _, _, _, _, _, rfl, _⟩ | ⟨_, _, _, rfl, _⟩ <;> rfl
  · rcases h with ⟨A, st, B, st', O, b, rfl, dm, oa, ob, ra, rb, ef, q⟩ | ⟨x, y, t, rfl, ty, kt, q⟩
    · obtain ⟨dx, vm, vt, f1, r1, r2⟩ := rb.self
      refine ⟨.ref B.p, rfl, .ref C, true, TyOf.ins f1 T.cl T.ca T.cn T.ct T.mo, T.self, ?_⟩
      refine iteF ⟨[.ob C A st, .ob C B st'], O, ⟨rfl, dm, fun i s e => ?_⟩, ?_⟩
      · match i, e with
        | 0, e => cases e; exact ⟨rfl, oa, ra⟩
        | 1, e => cases e; exact ⟨rfl, ob, rb⟩
        | i + 2, e => exact absurd e (by simp)
      · rw [ef]
        intro v H' s rv
        cases rv.i_bl
        exact q H' s
    · exact ⟨y, rfl, t, false, ty, kt, iteT q⟩
/-! ## the operators -/
section
variable {X : Cx} {W : WX} {C f : Addr} {fd : FuncData} {k : Nat} {fe : En → Re PyData}
/-- the other side of == -/
def YOk (K : PySem.W.Frag) (C : Addr) (H : Hp) (y : V) : Prop := (∃ b dx fs, y = .ref b ∧ H b = some (.ins C dx fs)) ∨ (∃ b xs, y = .ref b ∧ H b = some (.tup xs)) ∨ ∃ z, y = .str z
theorem yok_ty (T : EqC X.K C f) {pins : List (Addr × Obj)} {σ : Sg} {H : Hp} {s : Shared} (I : L2.Inv X pins σ H s) {y : V} {u : Value} (ru : RelV y u) (h : YOk X.K C H y) : ∃ tb, PySem.W.Looks (model X.prog X.w) s.heap (typeOf u) tb ∧ PySem.W.notFirst X.K C tb = true := by
  rcases h with ⟨b, dx, fs, rfl, e⟩ | ⟨b, xs, rfl, e⟩ | ⟨z, rfl⟩
  · cases (show u = Value.ref b from ru)
    obtain ⟨od, J⟩ := inst_of I e
    exact ⟨.ref C, J.type, by unfold PySem.W.notFirst; simp⟩
  · cases (show u = Value.ref b from ru)
    obtain ⟨its, r, ht, hz⟩ := I.tuple (SqT.of e)
    obtain ⟨o, ho, hc, n, hd⟩ := ht
    refine ⟨.type "tuple", hc ▸ (PySem.W.Looks.ld ho).andThen .now, ?_⟩
    unfold PySem.W.notFirst
    rw [T.st]
    simp
  · obtain ⟨t, e⟩ := (show ∃ t, u = Value.str z t from ru)
    subst e
    refine ⟨.type "str", PySem.W.Looks.of_pure rfl, ?_⟩
    unfold PySem.W.notFirst
    rw [T.ss]
    simp
theorem op_eqO (T : EqC X.K C f) (F : FnOk X.prog X.w X.K X.mg X.base (L2.CX X.prog X.w) k f fd ["self", "other"] (EqSp X.K C fe)) (hr : Room k X.A) (hb : Binds X.K fd ["self", "other"] []) (hu : X.A.units < cLine) (tk : Takes X W) :
    ∀ (pins : List (Addr × Obj)) (s : Shared) (σ : Sg) (H : Hp) (x y : V) (v u : Value) (Q : VK), L2.Inv X pins σ H s → RelV x v → RelV y u → (∃ a dx fs, x = .ref a ∧ H a = some (.ins C dx fs) ∧ YOk X.K C H y ∧ EqSp X.K C fe [x, y] H Q (WE W σ)) → wpAny (model X.prog X.w) X.A (compareOp .Eq v u) (EP X pins σ Q) X.xe s := by
  intro pins s σ H x y v u Q I rx ry ⟨a, dx, fs, ex, ea, yo, q⟩
  subst ex
  cases (show v = Value.ref a from rx)
  obtain ⟨od, J⟩ := inst_of I ea
  obtain ⟨tb, hl, hn⟩ := yok_ty T I ry yo
  obtain ⟨m, hF⟩ := I.fr
  show wpAny _ _ (richCompare .Eq (.ref a) u) _ _ _
  refine PySem.W.cmp_K (op := .Eq) (tb := tb) hu hF I.ok.mod.kin J hl hn T.eq T.fn ?_
  refine wpAny_mono (wpAny_call (run_atF (us := [.ref a, u]) (ws := [.ref a, y]) F hr hb I.env0 (passAt tk σ) I (.cons rfl (.cons ry .nil)) q)) (fun w s' z => ?_) fun _ _ x => x
  obtain ⟨z', H', I', rz, qz⟩ := z
  exact SlX.cmpback rz ⟨z', H', I', rz, qz⟩
theorem op_neO (T : EqC X.K C f) (F : FnOk X.prog X.w X.K X.mg X.base (L2.CX X.prog X.w) k f fd ["self", "other"] (EqSp X.K C fe)) (hr : Room (k + 1) X.A) (hb : Binds X.K fd ["self", "other"] []) (hu : X.A.units < cLine) (tk : Takes X W) :
    ∀ (pins : List (Addr × Obj)) (s : Shared) (σ : Sg) (H : Hp) (x y : V) (v u : Value) (Q : VK), L2.Inv X pins σ H s → RelV x v → RelV y u → (∃ a dx fs, x = .ref a ∧ H a = some (.ins C dx fs) ∧ YOk X.K C H y ∧ EqSp X.K C fe [x, y] H (fun v H' => ∃ b, v = .bl b ∧ Q (.bl (!b)) H') (WE W σ)) → wpAny (model X.prog X.w) X.A (compareOp .NotEq v u) (EP X pins σ Q) X.xe s := by
  intro pins s σ H x y v u Q I rx ry ⟨a, dx, fs, ex, ea, yo, q⟩
  subst ex
  cases (show v = Value.ref a from rx)
  obtain ⟨od, J⟩ := inst_of I ea
  obtain ⟨tb, hl, hn⟩ := yok_ty T I ry yo
  obtain ⟨m, hF⟩ := I.fr
  show wpAny _ _ (richCompare .NotEq (.ref a) u) _ _ _
  refine PySem.W.dl_ne (tb := tb) hu (Room.in1 hr).units0 hF I.ok.mod.kin J hl hn T.ne T.mo T.eq T.fn ?_
  refine wpAny_mono (wpAny_call (run_atF (us := [.ref a, u]) (ws := [.ref a, y]) F (Room.in1 hr) hb I.env0.in1 (passAt tk σ) I (.cons rfl (.cons ry .nil)) q)) (fun w s' z => ?_) fun _ _ x => x
  obtain ⟨z', H', I', rz, b, ez, qz⟩ := z
  subst ez
  cases (show w = Value.bool b from rz)
  exact ⟨b, rfl, ⟨.bl (!b), H', I', rfl, qz⟩⟩
end
end DL

/-! # == of Notes in expressions; twin() -/
namespace DL
open PySem PySem.Spec L2 PyProof.Rows
def rEqO (K : PySem.W.Frag) (C : Addr) (fe : En → Re PyData) : R2 := fun x y H Q => ∃ a dx fs, x = .ref a ∧ H a = some (.ins C dx fs) ∧ YOk K C H y ∧ EqSp K C fe [x, y] H Q (fun _ _ _ => True)
def rNeO (K : PySem.W.Frag) (C : Addr) (fe : En → Re PyData) : R2 := fun x y H Q => ∃ a dx fs, x = .ref a ∧ H a = some (.ins C dx fs) ∧ YOk K C H y ∧ EqSp K C fe [x, y] H (fun v H' => ∃ b, v = .bl b ∧ Q (.bl (!b)) H') (fun _ _ _ => True)
def gEqO (fe : En → Re PyData) (C : Addr) (A : Ad) (st : NSt) (B : Ad) (st' : NSt) : Re Bool := match fe [.ob C A st, .ob C B st'] with
  | .ok (.bool b) => .ok b
  | _ => .st
theorem gEqO_ok {fe : En → Re PyData} {C : Addr} {A B : Ad} {st st' : NSt} {b : Bool} (h : gEqO fe C A st B st' = .ok b) : fe [.ob C A st, .ob C B st'] = .ok (.bool b) := by
  unfold gEqO at h
  split at h
  · rename_i e
    cases h
    exact e
  · cases h
theorem gEqO_nex {fe : En → Re PyData} {C : Addr} {A B : Ad} {st st' : NSt} {c : Value} {p : Option PyData} : gEqO fe C A st B st' ≠ .ex c p := fun h => by
  unfold gEqO at h
  split at h <;> cases h
def eEqOO (fe : En → Re PyData) (C : Addr) (neg : Bool) (i j : Nat) : En → Re PyData := fun ρ => match obAt C ρ i, obAt C ρ j with
  | some (A, st), some (B, st') => (gEqO fe C A st B st').bind fun b => .ok (.bool (if neg then !b else b))
  | _, _ => .st
def eEqOD (C : Addr) (i : Nat) (f : En → Re PyData) : En → Re PyData := fun ρ => match obAt C ρ i with
  | some _ => (f ρ).bind fun d => match d with
    | .tuple _ => .ok (.bool false)
    | .str _ => .ok (.bool false)
    | _ => .st
  | none => .st
/-- nothing is seen of where they stand -/
def AdFree (fe : En → Re PyData) (C : Addr) : Prop := ∀ (A A' B B' : Ad) (st st' : NSt), fe [.ob C A st, .ob C B st'] = fe [.ob C A' st, .ob C B' st']
def n16 (n : Int) : Bool := decide (1 ≤ n) && decide (n ≤ 16)
def ad0 : Ad := ⟨0, 0, 0⟩
def nst0 (n : Int) : NSt := ⟨.int n, .tuple [], [], []⟩
def eEqON (fe : En → Re PyData) (C : Addr) (i : Nat) (f : En → Re PyData) : En → Re PyData := fun ρ => match obAt C ρ i with
  | some (_, st) => (f ρ).bind fun d => match d with
    | .int n => if n16 n then (gEqO fe C ad0 st ad0 (nst0 n)).bind fun b => .ok (.bool b) else .st
    | _ => .st
  | none => .st
def eEqNN (fe : En → Re PyData) (C : Addr) (f g : En → Re PyData) : En → Re PyData := fun ρ => (f ρ).bind fun d => match d with
  | .int n => if n16 n then (g ρ).bind (fun e => match e with
    | .int m => if n16 m then (gEqO fe C ad0 (nst0 n) ad0 (nst0 m)).bind fun b => .ok (.bool b) else .st
    | _ => .st) else .st
  | _ => .st
theorem n16_ok {n : Int} (h : n16 n = true) : 1 ≤ n ∧ n ≤ 16 := by
  unfold n16 at h
  simpa using h
/-- a new Notes, as an expression sees it -/
theorem init_re {O : Ow} {H1 H' : Hp} {C z dx t c b : Addr} {n : Int} (dm : ∀ a, O a → H1 a ≠ none) (nz : H1 z = none) (nd : H1 dx = none) (s : ∀ a o, (upd (upd H1 dx (.own z)) z (.ins C dx [])) a = some o → a ≠ z → H' a = some o) (nt : (upd (upd H1 dx (.own z)) z (.ins C dx [])) t = none) (nc : (upd (upd H1 dx (.own z)) z (.ins C dx [])) c = none) (nb : (upd (upd H1 dx (.own z)) z (.ins C dx [])) b = none) (cb : c ≠ b)
    (e1 : H' z = some (.ins C dx (nfs (.int n) (.ref t) (.ref c) (.ref b)))) (e2 : H' t = some (.tup [])) (e3 : H' c = some (.lst [])) (e4 : H' b = some (.lst [])) : Same H1 H' ∧ ObR (fun a => O a ∨ Ad.has ⟨z, c, b⟩ a) H' C ⟨z, c, b⟩ (nst0 n) ∧ Kp O H1 (fun a => O a ∨ Ad.has ⟨z, c, b⟩ a) H' ∧ ∀ a, (O a ∨ Ad.has ⟨z, c, b⟩ a) → H' a ≠ none := by
  have zt : t ≠ z := fun q => by rw [q, upd_same] at nt; cases nt
  have zc : c ≠ z := fun q => by rw [q, upd_same] at nc; cases nc
  have zb : b ≠ z := fun q => by rw [q, upd_same] at nb; cases nb
  rw [upd_ne zt] at nt
  rw [upd_ne zc] at nc
  rw [upd_ne zb] at nb
  have dt : t ≠ dx := fun q => by rw [q, upd_same] at nt; cases nt
  have dc : c ≠ dx := fun q => by rw [q, upd_same] at nc; cases nc
  have db : b ≠ dx := fun q => by rw [q, upd_same] at nb; cases nb
  rw [upd_ne dt] at nt
  rw [upd_ne dc] at nc
  rw [upd_ne db] at nb
  have sm : Same H1 H' := fun a o ea => by
    have az : a ≠ z := ne_of_none ea nz
    have ad : a ≠ dx := ne_of_none ea nd
    exact s a o (by rw [upd_ne az, upd_ne ad]; exact ea) az
  have fr : ∀ a, Ad.has ⟨z, c, b⟩ a → H1 a = none := fun a w => by rcases w with rfl | rfl | rfl <;> assumption
  refine ⟨sm, ⟨cb, ⟨dx, .int n, .ref t, e1, .int n, .tup e2 ?_ .nil⟩, ⟨[], e3, .nil⟩, ⟨[], e4, .nil⟩⟩, fun a o e na => ⟨sm a o e, fun w => ?_⟩, fun a w => ?_⟩
  · rintro (w | w | w | w)
    · exact dm t w nt
    · exact zt w
    · have w : t = c := w
      rw [w, e3] at e2; cases e2
    · have w : t = b := w
      rw [w, e4] at e2; cases e2
  · rcases w with w | w
    · exact na w
    · rw [fr a w] at e; cases e
  · rcases w with w | w | w | w
    · exact fun q => dm a w (sm.free q)
    · rw [show a = z from w, e1]; exact fun q => nomatch q
    · rw [show a = c from w, e3]; exact fun q => nomatch q
    · rw [show a = b from w, e4]; exact fun q => nomatch q
section
variable {X : Cx} {W : WX} {C f : Addr} {fd : FuncData} {k : Nat} {fe : En → Re PyData} {x y : Str} {p q pos p1 p2 p3 p4 : Pos} {a b : Expr} {fa fb : En → Re PyData} {f0 : Addr} {fd0 : FuncData} {ps0 : List Str} {k0 : Nat}
theorem de_eqOO (i j : Nat) (T : EqC X.K C f) (F : FnOk X.prog X.w X.K X.mg X.base (L2.CX X.prog X.w) k f fd ["self", "other"] (EqSp X.K C fe)) (hr : Room k X.A) (hb : Binds X.K fd ["self", "other"] []) (hu : X.A.units < cLine) (tk : Takes X W)
    (hN : X.N[i]? = some x := by rfl) (hv : Vis X.env.scope x := by first | exact Or.inl rfl | exact Or.inr (Or.inl rfl) | exact Or.inr (Or.inr rfl)) (hd : (x == ("__debug__" : Str)) = false := by decide) (hcd : (x == ("__classdict__" : Str)) = false := by decide)
    (hN2 : X.N[j]? = some y := by rfl) (hv2 : Vis X.env.scope y := by first | exact Or.inl rfl | exact Or.inr (Or.inl rfl) | exact Or.inr (Or.inr rfl)) (hd2 : (y == ("__debug__" : Str)) = false := by decide) (hcd2 : (y == ("__classdict__" : Str)) = false := by decide) :
    PE X (.Compare (.Name x p) [.Eq] [.Name y q] pos) (tD W (eEqOO fe C false i j)) :=
  pe_imp (pe_cmpR (r := rEqO X.K C fe) (op_eqO (W := W) T F hr hb hu tk) (pe_var hN hv hd hcd) (pe_var hN2 hv2 hd2 hcd2) (nomark _)) fun σ H Q ⟨ρ, O, re, h⟩ => by
    unfold eEqOO at h
    split at h
    · rename_i A st B st' ea eb
      obtain ⟨e1, o1, r1⟩ := re.ob ea
      obtain ⟨e2, o2, r2⟩ := re.ob eb
      obtain ⟨dx, vm, vt, f1, _, _⟩ := r1.self
      obtain ⟨dy, wm, wt, g1, _, _⟩ := r2.self
      cases eg : gEqO fe C A st B st' with
      | ex c p => exact absurd eg gEqO_nex
      | st => rw [eg] at h; exact h.elim
      | ok v =>
        rw [eg] at h
        exact ⟨_, e1, _, e2, A.p, dx, _, rfl, f1, .inl ⟨B.p, dy, _, rfl, g1⟩, .inl ⟨A, st, B, st', O, v, rfl, re.dom, o1, o2, r1, r2, gEqO_ok eg, fun H' s => h (.bl v) H' s (.bl v)⟩⟩
    · exact h.elim
theorem de_neOO (i j : Nat) (T : EqC X.K C f) (F : FnOk X.prog X.w X.K X.mg X.base (L2.CX X.prog X.w) k f fd ["self", "other"] (EqSp X.K C fe)) (hr : Room (k + 1) X.A) (hb : Binds X.K fd ["self", "other"] []) (hu : X.A.units < cLine) (tk : Takes X W)
    (hN : X.N[i]? = some x := by rfl) (hv : Vis X.env.scope x := by first | exact Or.inl rfl | exact Or.inr (Or.inl rfl) | exact Or.inr (Or.inr rfl)) (hd : (x == ("__debug__" : Str)) = false := by decide) (hcd : (x == ("__classdict__" : Str)) = false := by decide)
    (hN2 : X.N[j]? = some y := by rfl) (hv2 : Vis X.env.scope y := by first | exact Or.inl rfl | exact Or.inr (Or.inl rfl) | exact Or.inr (Or.inr rfl)) (hd2 : (y == ("__debug__" : Str)) = false := by decide) (hcd2 : (y == ("__classdict__" : Str)) = false := by decide) :
    PE X (.Compare (.Name x p) [.NotEq] [.Name y q] pos) (tD W (eEqOO fe C true i j)) :=
  pe_imp (pe_cmpR (r := rNeO X.K C fe) (op_neO (W := W) T F hr hb hu tk) (pe_var hN hv hd hcd) (pe_var hN2 hv2 hd2 hcd2) (nomark _)) fun σ H Q ⟨ρ, O, re, h⟩ => by
    unfold eEqOO at h
    split at h
    · rename_i A st B st' ea eb
      obtain ⟨e1, o1, r1⟩ := re.ob ea
      obtain ⟨e2, o2, r2⟩ := re.ob eb
      obtain ⟨dx, vm, vt, f1, _, _⟩ := r1.self
      obtain ⟨dy, wm, wt, g1, _, _⟩ := r2.self
      cases eg : gEqO fe C A st B st' with
      | ex c p => exact absurd eg gEqO_nex
      | st => rw [eg] at h; exact h.elim
      | ok v =>
        rw [eg] at h
        exact ⟨_, e1, _, e2, A.p, dx, _, rfl, f1, .inl ⟨B.p, dy, _, rfl, g1⟩, .inl ⟨A, st, B, st', O, v, rfl, re.dom, o1, o2, r1, r2, gEqO_ok eg, fun H' s => ⟨v, rfl, h (.bl (!v)) H' s (.bl (!v))⟩⟩⟩
    · exact h.elim
theorem de_eqOD (i : Nat) (T : EqC X.K C f) (F : FnOk X.prog X.w X.K X.mg X.base (L2.CX X.prog X.w) k f fd ["self", "other"] (EqSp X.K C fe)) (hr : Room k X.A) (hb : Binds X.K fd ["self", "other"] []) (hu : X.A.units < cLine) (tk : Takes X W) (ha : PE X a (tD W fa))
    (hN : X.N[i]? = some x := by rfl) (hv : Vis X.env.scope x := by first | exact Or.inl rfl | exact Or.inr (Or.inl rfl) | exact Or.inr (Or.inr rfl)) (hd : (x == ("__debug__" : Str)) = false := by decide) (hcd : (x == ("__classdict__" : Str)) = false := by decide) :
    PE X (.Compare (.Name x p) [.Eq] [a] pos) (tD W (eEqOD C i fa)) :=
  pe_imp (pe_cmpR (r := rEqO X.K C fe) (op_eqO (W := W) T F hr hb hu tk) (pe_var hN hv hd hcd) ha (nomark _)) fun σ H Q ⟨ρ, O, re, h⟩ => by
    unfold eEqOD at h
    split at h
    · rename_i ab ea
      obtain ⟨A, st⟩ := ab
      obtain ⟨e1, o1, r1⟩ := re.ob ea
      refine ⟨_, e1, goD re h fun d v H1 re1 s1 rv h1 => ?_⟩
      obtain ⟨_, _, r1⟩ := re1.ob ea
      obtain ⟨dx, vm, vt, f1, _, _⟩ := r1.self
      cases d with
      | tuple ds =>
        obtain ⟨b, xs, rfl, eb, _, _⟩ := rv.i_tup
        exact ⟨A.p, dx, _, rfl, f1, .inr (.inl ⟨b, xs, rfl, eb⟩), .inr ⟨_, _, _, rfl, .tup eb, T.kit T.st, h1.here (.bl false)⟩⟩
      | str z =>
        cases rv.i_str
        exact ⟨A.p, dx, _, rfl, f1, .inr (.inr ⟨z, rfl⟩), .inr ⟨_, _, _, rfl, .str z, T.kit T.ss, h1.here (.bl false)⟩⟩
      | _ => exact h1.elim
    · exact h.elim
theorem de_eqON (i : Nat) {z : Str} (hA : AdFree fe C) (T : EqC X.K C f) (F : FnOk X.prog X.w X.K X.mg X.base (L2.CX X.prog X.w) k f fd ["self", "other"] (EqSp X.K C fe)) (hr : Room k X.A) (hb : Binds X.K fd ["self", "other"] []) (hu : X.A.units < cLine) (tk : Takes X W)
    (M : Mk X.K C f0) (F0 : FnOk X.prog X.w X.K X.mg X.base (L2.CX X.prog X.w) k0 f0 fd0 ps0 (spInit C)) (hr0 : Room (k0 + 1) X.A) (hm : X.mg z = some (.ref C)) (hb0 : Binds X.K fd0 ps0 []) (ha : PE X a (tD W fa))
    (hN : X.N[i]? = some x := by rfl) (hv : Vis X.env.scope x := by first | exact Or.inl rfl | exact Or.inr (Or.inl rfl) | exact Or.inr (Or.inr rfl)) (hd : (x == ("__debug__" : Str)) = false := by decide) (hcd : (x == ("__classdict__" : Str)) = false := by decide) (hg : Gl X z := by rfl) (hdb : (z == ("__debug__" : Str)) = false := by decide)
    (hs1 : starEach [a] X.env = (false, eval a X.env) :: starEach [] X.env := by rfl) : PE X (.Compare (.Name x p) [.Eq] [.Call (.Name z p1) [a] [] p2] pos) (tD W (eEqON fe C i fa)) :=
  pe_imp (pe_cmpR (r := rEqO X.K C fe) (op_eqO (W := W) T F hr hb hu tk) (pe_var hN hv hd hcd) (pe_makeD M F0 hr0 hm hb0 (passAt tk) (pa_cons ha pa_nil hs1) hg hdb hs1 (by rfl)) (nomark _)) fun σ H Q ⟨ρ, O, re, h⟩ => by
    unfold eEqON at h
    split at h
    · rename_i A st ea
      obtain ⟨e1, o1, r1⟩ := re.ob ea
      refine ⟨_, e1, goD re h fun d v H1 re1 s1 rv h1 => ?_⟩
      obtain ⟨_, o1, r1⟩ := re1.ob ea
      cases d with
      | int n =>
        cases rv.i_int
        dsimp only at h1
        split at h1
        · rename_i hn
          have hn := n16_ok hn
          intro z1 dx1 nz nd ne
          refine ⟨z1, dx1, n, rfl, hn.1, hn.2, upd_same, fun t c b H' s nt nc nb cb e1 e2 e3 e4 => ⟨rfl, ?_⟩⟩
          obtain ⟨sm, rb, kp, dm⟩ := init_re re1.dom nz nd s nt nc nb cb e1 e2 e3 e4
          have ra := r1.tr kp fun a o _ q => sm a o q
          obtain ⟨dx, vm, vt, f1, _, _⟩ := ra.self
          cases eg : gEqO fe C ad0 st ad0 (nst0 n) with
          | ex c p => exact absurd eg gEqO_nex
          | st => rw [eg] at h1; exact h1.elim
          | ok w =>
            rw [eg] at h1
            exact ⟨A.p, dx, _, rfl, f1, .inl ⟨z1, dx1, _, rfl, e1⟩, .inl ⟨A, st, ⟨z1, c, b⟩, nst0 n, _, w, rfl, dm, fun a q => .inl (o1 a q), fun a q => .inr q, ra, rb, (hA _ _ _ _ _ _).trans (gEqO_ok eg), fun H2 s2 => h1 (.bl w) H2 (sm.trans s2) (.bl w)⟩⟩
        · exact h1.elim
      | _ => exact h1.elim
    · exact h.elim
theorem de_eqNN {z : Str} (hA : AdFree fe C) (T : EqC X.K C f) (F : FnOk X.prog X.w X.K X.mg X.base (L2.CX X.prog X.w) k f fd ["self", "other"] (EqSp X.K C fe)) (hr : Room k X.A) (hb : Binds X.K fd ["self", "other"] []) (hu : X.A.units < cLine) (tk : Takes X W)
    (M : Mk X.K C f0) (F0 : FnOk X.prog X.w X.K X.mg X.base (L2.CX X.prog X.w) k0 f0 fd0 ps0 (spInit C)) (hr0 : Room (k0 + 1) X.A) (hm : X.mg z = some (.ref C)) (hb0 : Binds X.K fd0 ps0 []) (ha : PE X a (tD W fa)) (hb2 : PE X b (tD W fb)) (hg : Gl X z := by rfl) (hdb : (z == ("__debug__" : Str)) = false := by decide)
    (hs1 : starEach [a] X.env = (false, eval a X.env) :: starEach [] X.env := by rfl) (hs2 : starEach [b] X.env = (false, eval b X.env) :: starEach [] X.env := by rfl) : PE X (.Compare (.Call (.Name z p1) [a] [] p2) [.Eq] [.Call (.Name z p3) [b] [] p4] pos) (tD W (eEqNN fe C fa fb)) :=
  pe_imp (pe_cmpR (r := rEqO X.K C fe) (op_eqO (W := W) T F hr hb hu tk) (pe_makeD M F0 hr0 hm hb0 (passAt tk) (pa_cons ha pa_nil hs1) hg hdb hs1 (by rfl)) (pe_makeD M F0 hr0 hm hb0 (passAt tk) (pa_cons hb2 pa_nil hs2) hg hdb hs2 (by rfl)) (nomark _)) fun σ H Q ⟨ρ, O, re, h⟩ => by
    unfold eEqNN at h
    refine goD re h fun d v H1 re1 s1 rv h1 => ?_
    cases d with
    | int n =>
      cases rv.i_int
      dsimp only at h1
      split at h1
      · rename_i hn
        have hn := n16_ok hn
        intro z1 dx1 nz nd ne
        refine ⟨z1, dx1, n, rfl, hn.1, hn.2, upd_same, fun t c b H' s nt nc nb cb e1 e2 e3 e4 => ⟨rfl, ?_⟩⟩
        obtain ⟨sm, rb, kp, dm⟩ := init_re re1.dom nz nd s nt nc nb cb e1 e2 e3 e4
        have re2 := re1.same sm
        refine goD re2 (tR.same h1 sm) fun d2 v2 H2 re3 s3 rv2 h2 => ?_
        cases d2 with
        | int m =>
          cases rv2.i_int
          dsimp only at h2
          split at h2
          · rename_i hm2
            have hm2 := n16_ok hm2
            intro z2 dx2 nz2 nd2 ne2
            refine ⟨z2, dx2, m, rfl, hm2.1, hm2.2, upd_same, fun t2 c2 b2 H3 s2 nt2 nc2 nb2 cb2 g1 g2 g3 g4 => ⟨rfl, ?_⟩⟩
            have dm2 : ∀ a, (O a ∨ Ad.has ⟨z1, c, b⟩ a) → H2 a ≠ none := fun a q w => dm a q (s3.free w)
            obtain ⟨sm2, rb2, kp2, dm3⟩ := init_re dm2 nz2 nd2 s2 nt2 nc2 nb2 cb2 g1 g2 g3 g4
            have rb1 := (rb.tr (.same s3) fun a o _ q => s3 a o q).tr kp2 fun a o _ q => sm2 a o q
            obtain ⟨dx, vm, vt, f1, _, _⟩ := rb1.self
            cases eg : gEqO fe C ad0 (nst0 n) ad0 (nst0 m) with
            | ex c p => exact absurd eg gEqO_nex
            | st => rw [eg] at h2; exact h2.elim
            | ok w =>
              rw [eg] at h2
              exact ⟨z1, dx, _, rfl, f1, .inl ⟨z2, dx2, _, rfl, g1⟩, .inl ⟨⟨z1, c, b⟩, nst0 n, ⟨z2, c2, b2⟩, nst0 m, _, w, rfl, dm3, fun a q => .inl (.inr q), fun a q => .inr q, rb1, rb2, (hA _ _ _ _ _ _).trans (gEqO_ok eg), fun H4 s4 => h2 (.bl w) H4 (sm2.trans s4) (.bl w)⟩⟩
          · exact h2.elim
        | _ => exact h2.elim
      · exact h1.elim
    | _ => exact h1.elim
theorem dt_eqOO (i j : Nat) (T : EqC X.K C f) (F : FnOk X.prog X.w X.K X.mg X.base (L2.CX X.prog X.w) k f fd ["self", "other"] (EqSp X.K C fe)) (hr : Room k X.A) (hb : Binds X.K fd ["self", "other"] []) (hu : X.A.units < cLine) (tk : Takes X W)
    (hN : X.N[i]? = some x := by rfl) (hv : Vis X.env.scope x := by first | exact Or.inl rfl | exact Or.inr (Or.inl rfl) | exact Or.inr (Or.inr rfl)) (hd : (x == ("__debug__" : Str)) = false := by decide) (hcd : (x == ("__classdict__" : Str)) = false := by decide)
    (hN2 : X.N[j]? = some y := by rfl) (hv2 : Vis X.env.scope y := by first | exact Or.inl rfl | exact Or.inr (Or.inl rfl) | exact Or.inr (Or.inr rfl)) (hd2 : (y == ("__debug__" : Str)) = false := by decide) (hcd2 : (y == ("__classdict__" : Str)) = false := by decide) :
    PT X (.Compare (.Name x p) [.Eq] [.Name y q] pos) (DL.tB W (toB (eEqOO fe C false i j))) :=
  dt_cmpI (r := rEqO X.K C fe) (op_eqO (W := W) T F hr hb hu tk) (pe_var hN hv hd hcd) (pe_var hN2 hv2 hd2 hcd2) (nomark _) fun σ H Q ⟨ρ, O, re, h⟩ => by
    unfold eEqOO at h
    split at h
    · rename_i A st B st' ea eb
      obtain ⟨e1, o1, r1⟩ := re.ob ea
      obtain ⟨e2, o2, r2⟩ := re.ob eb
      obtain ⟨dx, vm, vt, f1, _, _⟩ := r1.self
      obtain ⟨dy, wm, wt, g1, _, _⟩ := r2.self
      cases eg : gEqO fe C A st B st' with
      | ex c p => exact absurd eg gEqO_nex
      | st => rw [eg] at h; exact h.elim
      | ok v =>
        rw [eg] at h
        exact ⟨_, e1, _, e2, A.p, dx, _, rfl, f1, .inl ⟨B.p, dy, _, rfl, g1⟩, .inl ⟨A, st, B, st', O, v, rfl, re.dom, o1, o2, r1, r2, gEqO_ok eg, fun H' s => h (.bl v) H' s (.bl v)⟩⟩
    · exact h.elim
theorem dt_neOO (i j : Nat) (T : EqC X.K C f) (F : FnOk X.prog X.w X.K X.mg X.base (L2.CX X.prog X.w) k f fd ["self", "other"] (EqSp X.K C fe)) (hr : Room (k + 1) X.A) (hb : Binds X.K fd ["self", "other"] []) (hu : X.A.units < cLine) (tk : Takes X W)
    (hN : X.N[i]? = some x := by rfl) (hv : Vis X.env.scope x := by first | exact Or.inl rfl | exact Or.inr (Or.inl rfl) | exact Or.inr (Or.inr rfl)) (hd : (x == ("__debug__" : Str)) = false := by decide) (hcd : (x == ("__classdict__" : Str)) = false := by decide)
    (hN2 : X.N[j]? = some y := by rfl) (hv2 : Vis X.env.scope y := by first | exact Or.inl rfl | exact Or.inr (Or.inl rfl) | exact Or.inr (Or.inr rfl)) (hd2 : (y == ("__debug__" : Str)) = false := by decide) (hcd2 : (y == ("__classdict__" : Str)) = false := by decide) :
    PT X (.Compare (.Name x p) [.NotEq] [.Name y q] pos) (DL.tB W (toB (eEqOO fe C true i j))) :=
  dt_cmpI (r := rNeO X.K C fe) (op_neO (W := W) T F hr hb hu tk) (pe_var hN hv hd hcd) (pe_var hN2 hv2 hd2 hcd2) (nomark _) fun σ H Q ⟨ρ, O, re, h⟩ => by
    unfold eEqOO at h
    split at h
    · rename_i A st B st' ea eb
      obtain ⟨e1, o1, r1⟩ := re.ob ea
      obtain ⟨e2, o2, r2⟩ := re.ob eb
      obtain ⟨dx, vm, vt, f1, _, _⟩ := r1.self
      obtain ⟨dy, wm, wt, g1, _, _⟩ := r2.self
      cases eg : gEqO fe C A st B st' with
      | ex c p => exact absurd eg gEqO_nex
      | st => rw [eg] at h; exact h.elim
      | ok v =>
        rw [eg] at h
        exact ⟨_, e1, _, e2, A.p, dx, _, rfl, f1, .inl ⟨B.p, dy, _, rfl, g1⟩, .inl ⟨A, st, B, st', O, v, rfl, re.dom, o1, o2, r1, r2, gEqO_ok eg, fun H' s => ⟨v, rfl, h (.bl (!v)) H' s (.bl (!v))⟩⟩⟩
    · exact h.elim
theorem dt_eqOD (i : Nat) (T : EqC X.K C f) (F : FnOk X.prog X.w X.K X.mg X.base (L2.CX X.prog X.w) k f fd ["self", "other"] (EqSp X.K C fe)) (hr : Room k X.A) (hb : Binds X.K fd ["self", "other"] []) (hu : X.A.units < cLine) (tk : Takes X W) (ha : PE X a (tD W fa))
    (hN : X.N[i]? = some x := by rfl) (hv : Vis X.env.scope x := by first | exact Or.inl rfl | exact Or.inr (Or.inl rfl) | exact Or.inr (Or.inr rfl)) (hd : (x == ("__debug__" : Str)) = false := by decide) (hcd : (x == ("__classdict__" : Str)) = false := by decide) :
    PT X (.Compare (.Name x p) [.Eq] [a] pos) (DL.tB W (toB (eEqOD C i fa))) :=
  dt_cmpI (r := rEqO X.K C fe) (op_eqO (W := W) T F hr hb hu tk) (pe_var hN hv hd hcd) ha (nomark _) fun σ H Q ⟨ρ, O, re, h⟩ => by
    unfold eEqOD at h
    split at h
    · rename_i ab ea
      obtain ⟨A, st⟩ := ab
      obtain ⟨e1, o1, r1⟩ := re.ob ea
      refine ⟨_, e1, goD re h fun d v H1 re1 s1 rv h1 => ?_⟩
      obtain ⟨_, _, r1⟩ := re1.ob ea
      obtain ⟨dx, vm, vt, f1, _, _⟩ := r1.self
      cases d with
      | tuple ds =>
        obtain ⟨b, xs, rfl, eb, _, _⟩ := rv.i_tup
        exact ⟨A.p, dx, _, rfl, f1, .inr (.inl ⟨b, xs, rfl, eb⟩), .inr ⟨_, _, _, rfl, .tup eb, T.kit T.st, h1.here (.bl false)⟩⟩
      | str z =>
        cases rv.i_str
        exact ⟨A.p, dx, _, rfl, f1, .inr (.inr ⟨z, rfl⟩), .inr ⟨_, _, _, rfl, .str z, T.kit T.ss, h1.here (.bl false)⟩⟩
      | _ => exact h1.elim
    · exact h.elim
theorem dt_eqON (i : Nat) {z : Str} (hA : AdFree fe C) (T : EqC X.K C f) (F : FnOk X.prog X.w X.K X.mg X.base (L2.CX X.prog X.w) k f fd ["self", "other"] (EqSp X.K C fe)) (hr : Room k X.A) (hb : Binds X.K fd ["self", "other"] []) (hu : X.A.units < cLine) (tk : Takes X W)
    (M : Mk X.K C f0) (F0 : FnOk X.prog X.w X.K X.mg X.base (L2.CX X.prog X.w) k0 f0 fd0 ps0 (spInit C)) (hr0 : Room (k0 + 1) X.A) (hm : X.mg z = some (.ref C)) (hb0 : Binds X.K fd0 ps0 []) (ha : PE X a (tD W fa))
    (hN : X.N[i]? = some x := by rfl) (hv : Vis X.env.scope x := by first | exact Or.inl rfl | exact Or.inr (Or.inl rfl) | exact Or.inr (Or.inr rfl)) (hd : (x == ("__debug__" : Str)) = false := by decide) (hcd : (x == ("__classdict__" : Str)) = false := by decide) (hg : Gl X z := by rfl) (hdb : (z == ("__debug__" : Str)) = false := by decide)
    (hs1 : starEach [a] X.env = (false, eval a X.env) :: starEach [] X.env := by rfl) : PT X (.Compare (.Name x p) [.Eq] [.Call (.Name z p1) [a] [] p2] pos) (DL.tB W (toB (eEqON fe C i fa))) :=
  dt_cmpI (r := rEqO X.K C fe) (op_eqO (W := W) T F hr hb hu tk) (pe_var hN hv hd hcd) (pe_makeD M F0 hr0 hm hb0 (passAt tk) (pa_cons ha pa_nil hs1) hg hdb hs1 (by rfl)) (nomark _) fun σ H Q ⟨ρ, O, re, h⟩ => by
    unfold eEqON at h
    split at h
    · rename_i A st ea
      obtain ⟨e1, o1, r1⟩ := re.ob ea
      refine ⟨_, e1, goD re h fun d v H1 re1 s1 rv h1 => ?_⟩
      obtain ⟨_, o1, r1⟩ := re1.ob ea
      cases d with
      | int n =>
        cases rv.i_int
        dsimp only at h1
        split at h1
        · rename_i hn
          have hn := n16_ok hn
          intro z1 dx1 nz nd ne
          refine ⟨z1, dx1, n, rfl, hn.1, hn.2, upd_same, fun t c b H' s nt nc nb cb e1 e2 e3 e4 => ⟨rfl, ?_⟩⟩
          obtain ⟨sm, rb, kp, dm⟩ := init_re re1.dom nz nd s nt nc nb cb e1 e2 e3 e4
          have ra := r1.tr kp fun a o _ q => sm a o q
          obtain ⟨dx, vm, vt, f1, _, _⟩ := ra.self
          cases eg : gEqO fe C ad0 st ad0 (nst0 n) with
          | ex c p => exact absurd eg gEqO_nex
          | st => rw [eg] at h1; exact h1.elim
          | ok w =>
            rw [eg] at h1
            exact ⟨A.p, dx, _, rfl, f1, .inl ⟨z1, dx1, _, rfl, e1⟩, .inl ⟨A, st, ⟨z1, c, b⟩, nst0 n, _, w, rfl, dm, fun a q => .inl (o1 a q), fun a q => .inr q, ra, rb, (hA _ _ _ _ _ _).trans (gEqO_ok eg), fun H2 s2 => h1 (.bl w) H2 (sm.trans s2) (.bl w)⟩⟩
        · exact h1.elim
      | _ => exact h1.elim
    · exact h.elim
theorem dt_eqNN {z : Str} (hA : AdFree fe C) (T : EqC X.K C f) (F : FnOk X.prog X.w X.K X.mg X.base (L2.CX X.prog X.w) k f fd ["self", "other"] (EqSp X.K C fe)) (hr : Room k X.A) (hb : Binds X.K fd ["self", "other"] []) (hu : X.A.units < cLine) (tk : Takes X W)
    (M : Mk X.K C f0) (F0 : FnOk X.prog X.w X.K X.mg X.base (L2.CX X.prog X.w) k0 f0 fd0 ps0 (spInit C)) (hr0 : Room (k0 + 1) X.A) (hm : X.mg z = some (.ref C)) (hb0 : Binds X.K fd0 ps0 []) (ha : PE X a (tD W fa)) (hb2 : PE X b (tD W fb)) (hg : Gl X z := by rfl) (hdb : (z == ("__debug__" : Str)) = false := by decide)
    (hs1 : starEach [a] X.env = (false, eval a X.env) :: starEach [] X.env := by rfl) (hs2 : starEach [b] X.env = (false, eval b X.env) :: starEach [] X.env := by rfl) : PT X (.Compare (.Call (.Name z p1) [a] [] p2) [.Eq] [.Call (.Name z p3) [b] [] p4] pos) (DL.tB W (toB (eEqNN fe C fa fb))) :=
  dt_cmpI (r := rEqO X.K C fe) (op_eqO (W := W) T F hr hb hu tk) (pe_makeD M F0 hr0 hm hb0 (passAt tk) (pa_cons ha pa_nil hs1) hg hdb hs1 (by rfl)) (pe_makeD M F0 hr0 hm hb0 (passAt tk) (pa_cons hb2 pa_nil hs2) hg hdb hs2 (by rfl)) (nomark _) fun σ H Q ⟨ρ, O, re, h⟩ => by
    unfold eEqNN at h
    refine goD re h fun d v H1 re1 s1 rv h1 => ?_
    cases d with
    | int n =>
      cases rv.i_int
      dsimp only at h1
      split at h1
      · rename_i hn
        have hn := n16_ok hn
        intro z1 dx1 nz nd ne
        refine ⟨z1, dx1, n, rfl, hn.1, hn.2, upd_same, fun t c b H' s nt nc nb cb e1 e2 e3 e4 => ⟨rfl, ?_⟩⟩
        obtain ⟨sm, rb, kp, dm⟩ := init_re re1.dom nz nd s nt nc nb cb e1 e2 e3 e4
        have re2 := re1.same sm
        refine goD re2 (tR.same h1 sm) fun d2 v2 H2 re3 s3 rv2 h2 => ?_
        cases d2 with
        | int m =>
          cases rv2.i_int
          dsimp only at h2
          split at h2
          · rename_i hm2
            have hm2 := n16_ok hm2
            intro z2 dx2 nz2 nd2 ne2
            refine ⟨z2, dx2, m, rfl, hm2.1, hm2.2, upd_same, fun t2 c2 b2 H3 s2 nt2 nc2 nb2 cb2 g1 g2 g3 g4 => ⟨rfl, ?_⟩⟩
            have dm2 : ∀ a, (O a ∨ Ad.has ⟨z1, c, b⟩ a) → H2 a ≠ none := fun a q w => dm a q (s3.free w)
            obtain ⟨sm2, rb2, kp2, dm3⟩ := init_re dm2 nz2 nd2 s2 nt2 nc2 nb2 cb2 g1 g2 g3 g4
            have rb1 := (rb.tr (.same s3) fun a o _ q => s3 a o q).tr kp2 fun a o _ q => sm2 a o q
            obtain ⟨dx, vm, vt, f1, _, _⟩ := rb1.self
            cases eg : gEqO fe C ad0 (nst0 n) ad0 (nst0 m) with
            | ex c p => exact absurd eg gEqO_nex
            | st => rw [eg] at h2; exact h2.elim
            | ok w =>
              rw [eg] at h2
              exact ⟨z1, dx, _, rfl, f1, .inl ⟨z2, dx2, _, rfl, g1⟩, .inl ⟨⟨z1, c, b⟩, nst0 n, ⟨z2, c2, b2⟩, nst0 m, _, w, rfl, dm3, fun a q => .inl (.inr q), fun a q => .inr q, rb1, rb2, (hA _ _ _ _ _ _).trans (gEqO_ok eg), fun H4 s4 => h2 (.bl w) H4 (sm2.trans s4) (.bl w)⟩⟩
          · exact h2.elim
        | _ => exact h2.elim
      · exact h1.elim
    | _ => exact h1.elim
end
/-! ## twin() -/
def TwSp (C : Addr) : Sp := fun vs H Q _ => ∃ (x dx : Addr) (n : Int) (vt cv bv : V), vs = [.ref x] ∧ 1 ≤ n ∧ n ≤ 16 ∧ H x = some (.ins C dx (nfs (.int n) vt cv bv)) ∧
  ∀ (z dz c b : Addr) (H' : Hp), Same H H' → H z = none → H c = none → H b = none → c ≠ b → H' z = some (.ins C dz (nfs (.int n) vt (.ref c) (.ref b))) → H' c = some (.lst []) → H' b = some (.lst []) → Q (.ref z) H'
def tTwin (K : PySem.W.Frag) (C : Addr) (E : XK) : TS := tSeq (tAsg (tMakeD C (spInit C) (fun _ => E) (tCons (tFld K (tVar 0) "many") tNil)) (gName 1)) (tSeq (sFld K (tVar 1) (tFld K (tVar 0) "told") "told") (tRet (tVar 1)))
theorem twin_ok {P : Program} {w : World} {K : PySem.W.Frag} {mg : Str → Option Value} {base : Heap} {qual : Str} {st : Stmt} {f : Addr} {fd : FuncData} {C : Addr} {k : Nat} (F : Fun K "twin" qual st f fd) (sc : FnScope ["self", "found"] ["self"] (defScope st)) (TC : NtC K C)
    (hb : ∀ (cdv : Value) (A : Around) (outer : List Env) (s : Shared) (H : Hp) (E : XK), Room k (A.deeper (envOfC qual (defScope st) s.heap.objs.size f cdv)) → PSs (cxOf (L2.CX P w) P w K mg base ["self", "found"] qual (defScope st) f cdv A outer s H E) (defBody st) (tTwin K C E)) : FnOk P w K mg base (L2.CX P w) (k + 1) f fd ["self"] (TwSp C) := by
  refine F.okX sc (fun vs H Q E h => ?_) (fun cdv A outer s H vs Q E hr h => ⟨_, hb cdv A outer s H E hr, ?_⟩)
  · obtain ⟨x, dx, n, vt, cv, bv, rfl, _⟩ := h
    rfl
  · obtain ⟨x, dx, n, vt, cv, bv, rfl, n1, n2, ex, q⟩ := h
    refine ⟨.ref x, rfl, x, C, dx, _, .int n, rfl, ex, TC.cls, TC.nm, rfl, ?_⟩
    intro z dz nz nd ne
    refine ⟨z, dz, n, rfl, n1, n2, upd_same, fun t c b H' s nt nc nb cb e1 e2 e3 e4 => ⟨rfl, ?_⟩⟩
    have xz : x ≠ z := ne_of_none ex nz
    have xd : x ≠ dz := ne_of_none ex nd
    have ex' : H' x = some (.ins C dx (nfs (.int n) vt cv bv)) := s x _ (by rw [upd_ne xz, upd_ne xd]; exact ex) xz
    have zc : c ≠ z := fun q => by rw [q, upd_same] at nc; cases nc
    have zb : b ≠ z := fun q => by rw [q, upd_same] at nb; cases nb
    rw [upd_ne zc] at nc
    rw [upd_ne zb] at nb
    have dc : c ≠ dz := fun q => by rw [q, upd_same] at nc; cases nc
    have db : b ≠ dz := fun q => by rw [q, upd_same] at nb; cases nb
    rw [upd_ne dc] at nc
    rw [upd_ne db] at nb
    refine ⟨.ref x, rfl, x, C, dx, _, vt, rfl, ex', TC.cls, TC.nt, rfl, .ref z, rfl, z, C, dz, _, rfl, e1, TC.cls, TC.nt, by simp, .ref z, rfl, ?_⟩
    refine q z dz c b _ (fun a o ea => ?_) nz nc nb cb upd_same (by rw [upd_ne zc]; exact e3) (by rw [upd_ne zb]; exact e4)
    have az : a ≠ z := ne_of_none ea nz
    have ad : a ≠ dz := ne_of_none ea nd
    rw [upd_ne az]
    exact s a o (by rw [upd_ne az, upd_ne ad]; exact ea) az
/-- y = x.twin() -/
def mTwin (C : Addr) (i j : Nat) : En → SM := fun ρ => match obAt C ρ i with
  | some (_, st) => match st.many with
    | .int n => if n16 n && decide (j < ρ.length) then .nw fun B => .nx (ρ.set j (.ob C B ⟨.int n, st.told, [], []⟩)) else .st
    | _ => .st
  | none => .st
theorem m_twin {X : Cx} {W : WX} {C f : Addr} {fd : FuncData} {k : Nat} (i j : Nat) {x y : Str} {p apos cpos pos pos' : Pos} {pl : Sem Bool} (TC : NtC X.K C) (hm : Meth X.K C "twin" f) (F : FnOk X.prog X.w X.K X.mg X.base (L2.CX X.prog X.w) k f fd ["self"] (TwSp C)) (hr : Room k X.A) (hb : Binds X.K fd ["self"] []) (tk : Takes X W) (hNd : X.N.Nodup)
    (hN : X.N[i]? = some x := by rfl) (hv : Vis X.env.scope x := by first | exact Or.inl rfl | exact Or.inr (Or.inl rfl) | exact Or.inr (Or.inr rfl)) (hd : (x == ("__debug__" : Str)) = false := by decide) (hcd : (x == ("__classdict__" : Str)) = false := by decide) (hi : X.N[j]? = some y := by rfl) (hx : Loc X.env.scope y := by first | exact Or.inl rfl | exact Or.inr rfl)
    (ht : eval (.Call (.Attribute (.Name x p) "twin" apos) [] [] cpos) X.env = (do let ov ← eval (.Name x p) X.env; standAt apos.atName; let (f, first) ← holding [ov] (getMethod ov "twin" pl); callWith cpos f first (backTo cpos (starEach [] X.env)) (backToKw cpos (keywordEach [] X.env))) := by rfl)
    (hs : swapsWith (.Call (.Attribute (.Name x p) "twin" apos) [] [] cpos) (some (.Name y pos')) pos.line X.env = pure false := by rfl)
    (hf : X.fn y = true ∨ X.env.scope.names.lookup y = some .local := by first | exact .inl rfl | exact .inr rfl | assumption) : PS X (.Assign [.Name y pos'] (.Call (.Attribute (.Name x p) "twin" apos) [] [] cpos) pos) (sM W (mTwin C i j)) :=
  ps_imp (ps_set hNd hi hx (pe_methD0 (pl := pl) (pe_var hN hv hd hcd) TC.cls hm F hr hb (passAt tk) ht) hs hf) fun D σ H ⟨ρ, H0, O0, rs, h⟩ => by
    unfold mTwin at h
    split at h
    · rename_i A st ea
      obtain ⟨e1, o, ob⟩ := rs.re.ob ea
      obtain ⟨dx, vm, vt, f1, r1, r2⟩ := ob.self
      split at h
      · rename_i n hn
        split at h
        · rename_i hc
          rw [Bool.and_eq_true, decide_eq_true_eq] at hc
          have h16 := n16_ok hc.1
          rw [hn] at r1
          cases r1.i_int
          refine ⟨_, e1, A.p, dx, _, rfl, f1, rfl, A.p, dx, n, vt, _, _, rfl, h16.1, h16.2, f1, fun z dz c b H' s nz nc nb cb g1 g2 g3 => ?_⟩
          have kp : Kp (Oa O0 ρ σ) H (fun a => Oa O0 ρ σ a ∨ Ad.has ⟨z, c, b⟩ a) H' := fun a u e na => ⟨s a u e, fun w => by
            rcases w with w | w | w | w
            · exact na w
            · rw [show a = z from w, nz] at e; cases e
            · rw [show a = c from w, nc] at e; cases e
            · rw [show a = b from w, nb] at e; cases e⟩
          exact h ⟨z, c, b⟩ _ H' (rs.newB s nz nc nb ⟨cb, ⟨dz, .int n, vt, g1, .int n, r2.kp kp⟩, ⟨[], g2, .nil⟩, ⟨[], g3, .nil⟩⟩ hc.2)
        · exact h.elim
      · exact h.elim
    · exact h.elim
end DL

/-! # l.count(b) of a list of bools -/
namespace DL
open PySem PySem.Spec L2 PyProof.Rows
theorem clsSome {K : PySem.W.Frag} {C : Addr} {b : Value} {r : Bool} (e : PySem.W.mroIn K C b = some r) : (PySem.W.clsIn K C).isSome = true := by
  obtain ⟨cd, h, _⟩ := Option.bind_eq_some_iff.mp e
  rw [h]
  rfl
theorem vals_bl : ∀ {bs : List Bool} {us : List Value}, Vals (bs.map V.bl) us → us = bs.map Value.bool
  | [], us, r => by
    cases r
    rfl
  | b :: bs, us, r => by
    cases r with
    | cons r1 r2 =>
      cases (show _ = Value.bool b from r1)
      rw [vals_bl r2]
      rfl
def eqB (k : Bool) : Value → Bool
  | .bool b => b == k
  | _ => false
theorem cntB (k : Bool) : ∀ bs : List Bool, (bs.map Value.bool).countP (eqB k) = bs.count k
  | [] => rfl
  | b :: bs => by
    rw [List.map_cons, List.countP_cons, List.count_cons, cntB k bs]
    rfl
def rCntB (K : PySem.W.Frag) : V → List V → Hp → VK → Prop := fun x xs H Q => ∃ (p : Addr) (bs : List Bool) (k : Bool), x = .ref p ∧ xs = [.bl k] ∧ SqL K H p (bs.map V.bl) ∧ Q (.int (bs.count k : Nat)) H
theorem mt_lcountB {X : Cx} : MtR X "list.count" (rCntB X.K) := by
  intro pn sh sg hp x xs v us G inv rx rxs want
  obtain ⟨p, bs, k, rfl, rfl, hs, q⟩ := want
  cases rx
  obtain ⟨u, rfl, ru⟩ := rxs.one
  cases (show u = Value.bool k from ru)
  obtain ⟨its, rv, ⟨⟨cls, dd, data, sl⟩, n, ho, hc, hdn, hd⟩, hlen⟩ := inv.list hs
  simp only at hc hd
  subst hc hd
  have ev := vals_bl rv
  subst ev
  refine call_meets PySem.F.slot_list_count ⟨_, ho, rfl⟩ PySem.F.entry_list_count (PySem.F.args_list_count_2 _ _) (SeqAt.list_countAt p _ n dd sl (.bool k) (eqB k)) ⟨ho, fun y hy => ?_, ?_⟩
  · obtain ⟨b, _, rfl⟩ := List.mem_map.1 (show y ∈ bs.map Value.bool by simpa using hy)
    exact SeqAt.EqAt.bool_bool b k
  · refine ⟨.int (bs.count k : Nat), hp, inv.tok _, ⟨sh.toks, ?_⟩, q⟩
    show Value.int (((bs.map Value.bool).countP (eqB k) : Nat) : Int) sh.toks = _
    rw [cntB]
def boolsOf : List PyData → Option (List Bool)
  | [] => some []
  | .bool b :: ds => (boolsOf ds).map (b :: ·)
  | _ => none
theorem boolsOf_ok : ∀ {ds : List PyData} {bs : List Bool}, boolsOf ds = some bs → ds = bs.map .bool
  | [], bs, h => by cases h; rfl
  | .bool b :: r, bs, h => by
    have h : (boolsOf r).map (b :: ·) = some bs := h
    cases e : boolsOf r with
    | none => rw [e] at h; cases h
    | some m =>
      rw [e] at h
      cases h
      rw [boolsOf_ok e]
      rfl
theorem boolsOf_map : ∀ bs : List Bool, boolsOf (bs.map .bool) = some bs
  | [] => rfl
  | b :: bs => by
    show (boolsOf (bs.map .bool)).map (b :: ·) = _
    rw [boolsOf_map bs]
    rfl
theorem RpL.bls {O : Ow} {H : Hp} : ∀ {vs : List V} {bs : List Bool}, RpL O H vs (bs.map .bool) → vs = bs.map .bl
  | _, [], h => by cases h; rfl
  | _, b :: bs, h => by
    cases h with
    | cons x y =>
      cases x
      exact congrArg (_ :: ·) (RpL.bls y)
def dCountB (d k : PyData) : Re PyData := match d, k with
  | .list ds, .bool i => match boolsOf ds with
    | some bs => .ok (.int (bs.count i : Nat))
    | none => .st
  | _, _ => .st
def eCountB (fa fb : En → Re PyData) : En → Re PyData := fun ρ => (fa ρ).bind fun d => if isLst d then (fb ρ).bind (dCountB d) else .st
theorem de_countB {X : Cx} {W : WX} {a b : Expr} {fa fb : En → Re PyData} {pos apos : Pos} (ha : PE X a (tL W fa)) (hb : PE X b (tD W fb)) (hbase : attributeBase a "count" X.env (eval a X.env) = eval a X.env := by rfl)
    (hfew : ((backTo pos (starEach [b] X.env)).all (fun x => !x.1) && (backToKw pos (keywordEach [] X.env)).all (fun x => x.1.isSome) && decide (([b] : List Expr).length + ([] : List Keyword).length + (if ([] : List Keyword).isEmpty then 0 else 1) < 30)) = true := by rfl)
    (hline : (apos.endLine == pos.line) = true := by rfl) (hs : starEach [b] X.env = (false, eval b X.env) :: starEach [] X.env := by rfl) (hplain : (backTo pos (starEach [] X.env)).any (·.1) = false := by rfl) :
    PE X (.Call (.Attribute a "count" apos) [b] [] pos) (tD W (eCountB fa fb)) :=
  pe_imp (pe_bm PySem.F.plainAttrs_list PySem.F.slot_list_count PySem.F.type_list_count mt_lcountB ha (pa_cons hb pa_nil hs) hbase hfew hline hs hplain) fun σ H Q ⟨ρ, O, re, h⟩ => goL re h fun d x H1 re1 _ rx h1 => by
    cases d with
    | list ds =>
      obtain ⟨p, xs, rfl, ea, q⟩ := rx.i_lst
      have h1 : tR W O ((fb ρ).bind (dCountB (.list ds))) σ H1 Q := h1
      refine ⟨.inl ⟨rfl, xs, SqL.of ea⟩, goD re1 h1 fun k y H2 re2 s2 ry h2 => ?_⟩
      cases k with
      | bool i =>
        cases ry.i_bl
        have h2 : tR W O (match boolsOf ds with
          | some bs => .ok (.int (bs.count i : Nat))
          | none => .st) σ H2 Q := h2
        split at h2
        · rename_i bs hn
          rw [boolsOf_ok hn] at q
          have e := q.bls
          subst e
          exact ⟨p, bs, i, rfl, rfl, SqL.of (s2 _ _ ea), h2.here (.int _)⟩
        · exact h2.elim
      | _ => exact h2.elim
    | _ => exact h1.elim
end DL

/-! # The plain side: what the readings come to -/
namespace DL
open PySem PySem.Spec L2 PyProof.Rows
section
variable {ρ : En} {i j : Nat} {d e : PyData}
@[simp] theorem q_var : eVar i ρ = match ρ[i]? with
  | some (.va d) => .ok d
  | _ => .st := id rfl
@[simp] theorem q_look : eLook i ρ = match ρ[i]? with
  | some (.va d) => .ok d
  | some (.ow d) => .ok d
  | _ => .st := id rfl
@[simp] theorem q_C : eC d ρ = .ok d := id rfl
@[simp] theorem q_e2 {g : PyData → PyData → Re PyData} {fa fb : En → Re PyData} : e2 g fa fb ρ = (fa ρ).bind fun a => (fb ρ).bind fun b => g a b := id rfl
@[simp] theorem q_e1 {g : PyData → Re PyData} {fa : En → Re PyData} : e1 g fa ρ = (fa ρ).bind g := id rfl
@[simp] theorem q_call {g : List PyData → Re PyData} {fs : En → Re (List PyData)} : eCall g fs ρ = (fs ρ).bind g := id rfl
@[simp] theorem q_nil : aNil ρ = .ok [] := id rfl
@[simp] theorem q_cons {fa : En → Re PyData} {fs : En → Re (List PyData)} : aCons fa fs ρ = (fa ρ).bind fun d => (fs ρ).bind fun ds => .ok (d :: ds) := id rfl
@[simp] theorem q_tup {fs : En → Re (List PyData)} : eTup fs ρ = (fs ρ).bind fun ds => if fits ds.length then .ok (.tuple ds) else .st := id rfl
@[simp] theorem q_lst {fs : En → Re (List PyData)} : eLst fs ρ = (fs ρ).bind fun ds => if fits ds.length then .ok (.list ds) else .st := id rfl
def chainR (r s t : Re PyData) : Re PyData := r.bind fun a => s.bind fun b => match a, b with
  | .int i, .int j => if decide (i ≤ j) then t.bind (dLe (.int j)) else .ok (.bool false)
  | _, _ => .st
@[simp] theorem q_chain {fa fb fc : En → Re PyData} : eChain fa fb fc ρ = chainR (fa ρ) (fb ρ) (fc ρ) := id rfl
@[simp] theorem chainR_int {a b c : Int} : chainR (.ok (.int a)) (.ok (.int b)) (.ok (.int c)) = .ok (.bool (decide (a ≤ b) && decide (b ≤ c))) := by
  show (if decide (a ≤ b) = true then Re.ok (PyData.bool (decide (b ≤ c))) else Re.ok (PyData.bool false)) = _
  by_cases h : a ≤ b <;> simp [h]
@[simp] theorem q_toB {f : En → Re PyData} : toB f ρ = (f ρ).bind asB := id rfl
@[simp] theorem q_asB {b : Bool} : asB (.bool b) = .ok b := id rfl
@[simp] theorem q_bTru {f : En → Re PyData} : bTru f ρ = (f ρ).bind truth := id rfl
@[simp] theorem q_bNot {f : En → Re Bool} : bNot f ρ = (f ρ).bind fun b => .ok (!b) := id rfl
@[simp] theorem q_bAnd {f g : En → Re Bool} : bAnd f g ρ = (f ρ).bind fun b => if b then g ρ else .ok false := id rfl
@[simp] theorem q_bOr {f g : En → Re Bool} : bOr f g ρ = (f ρ).bind fun b => if b then .ok true else g ρ := id rfl
@[simp] theorem q_eAnd {f g : En → Re PyData} : eAnd f g ρ = (f ρ).bind fun d => match d with
  | .bool true => g ρ
  | .bool false => .ok (.bool false)
  | _ => .st := id rfl
@[simp] theorem q_eOr {f g : En → Re PyData} : eOr f g ρ = (f ρ).bind fun d => match d with
  | .bool true => .ok (.bool true)
  | .bool false => g ρ
  | _ => .st := id rfl
@[simp] theorem q_eIf {gc : En → Re Bool} {fa fb : En → Re PyData} : eIf gc fa fb ρ = (gc ρ).bind fun b => if b then fa ρ else fb ρ := id rfl
@[simp] theorem q_yes : gYes ρ = .ok true := id rfl
@[simp] theorem q_oN : oNone ρ = .ok none := id rfl
@[simp] theorem q_oS {f : En → Re PyData} : oSome f ρ = (f ρ).bind fun d => match d with
  | .int i => .ok (some i)
  | _ => .st := id rfl
@[simp] theorem q_slice {fa : En → Re PyData} {fl fh : En → Re (Option Int)} : eSlice fa fl fh ρ = (fa ρ).bind fun d => (fl ρ).bind fun lo => (fh ρ).bind fun hi => dSlice d lo hi := id rfl
@[simp] theorem q_iSeq {fa : En → Re PyData} : iSeq fa ρ = (fa ρ).bind fun d => match d with
  | .list ds => .ok ds
  | .tuple ds => .ok ds
  | _ => .st := id rfl
@[simp] theorem q_rng1 {fs : En → Re (List PyData)} : iRng1 fs ρ = (fs ρ).bind fun ds => match ds with
  | [.int j] => if bigB j then .ok (rngD 0 j.toNat) else .st
  | _ => .st := id rfl
@[simp] theorem q_rng2 {fs : En → Re (List PyData)} : iRng2 fs ρ = (fs ρ).bind fun ds => match ds with
  | [.int i, .int j] => if bigB i && bigB j then .ok (rngD i (j - i).toNat) else .st
  | _ => .st := id rfl
@[simp] theorem q_zip {fs : En → Re (List PyData)} : iZip fs ρ = (fs ρ).bind fun ds => match ds with
  | [.list xs, .list ys] => .ok (zipD xs ys)
  | [.tuple xs, .tuple ys] => .ok (zipD xs ys)
  | _ => .st := id rfl
/-! statements -/
def SR.thn (r : SR) (g : En → SR) : SR := match r with
  | .nx ρ' => g ρ'
  | r => r
@[simp] theorem thn_nx {g : En → SR} : SR.thn (.nx ρ) g = g ρ := id rfl
@[simp] theorem thn_rt {g : En → SR} : SR.thn (.rt d) g = .rt d := id rfl
@[simp] theorem thn_st {g : En → SR} : SR.thn .st g = .st := id rfl
@[simp] theorem thn_ex {c : Value} {p : Option PyData} {g : En → SR} : SR.thn (.ex c p ρ) g = .ex c p ρ := id rfl
def SR.fg (r : SR) (l : List Nat) : SR := match r with
  | .nx ρ' => .nx (fgt l ρ')
  | r => r
@[simp] theorem fg_nx {l : List Nat} : SR.fg (.nx ρ) l = .nx (fgt l ρ) := id rfl
@[simp] theorem fg_rt {l : List Nat} : SR.fg (.rt d) l = .rt d := id rfl
@[simp] theorem fg_st {l : List Nat} : SR.fg .st l = .st := id rfl
@[simp] theorem fg_ex {c : Value} {p : Option PyData} {l : List Nat} : SR.fg (.ex c p ρ) l = .ex c p ρ := id rfl
def SR.br (r : Re Bool) (f g : En → SR) (ρ : En) : SR := SR.of r ρ fun b => if b then f ρ else g ρ
@[simp] theorem br_ok {b : Bool} {f g : En → SR} : SR.br (.ok b) f g ρ = if b then f ρ else g ρ := id rfl
@[simp] theorem br_ex {c : Value} {p : Option PyData} {f g : En → SR} : SR.br (.ex c p) f g ρ = .ex c p ρ := id rfl
@[simp] theorem br_st {f g : En → SR} : SR.br .st f g ρ = .st := id rfl
@[simp] theorem q_seq {f g : En → SR} : sSeq f g ρ = (f ρ).thn g := by
  unfold sSeq SR.thn
  cases f ρ <;> rfl
@[simp] theorem q_skip : sSkip ρ = .nx ρ := id rfl
@[simp] theorem q_fgt {l : List Nat} {f : En → SR} : sFgt l f ρ = (f ρ).fg l := by
  unfold sFgt SR.fg
  cases f ρ <;> rfl
@[simp] theorem q_frz {f : En → SR} : sFrz i f ρ = f (frz i ρ) := id rfl
@[simp] theorem q_expr {fe : En → Re PyData} : sExpr fe ρ = SR.of (fe ρ) ρ fun _ => .nx ρ := id rfl
@[simp] theorem q_ret {fe : En → Re PyData} : sRet fe ρ = SR.of (fe ρ) ρ .rt := id rfl
@[simp] theorem q_sIf {gc : En → Re Bool} {f g : En → SR} : sIf gc f g ρ = SR.br (gc ρ) f g ρ := id rfl
@[simp] theorem q_set {fe : En → Re PyData} : sSet i fe ρ = SR.of (fe ρ) ρ fun d => .nx (ρ.set i (.va d)) := id rfl
@[simp] theorem q_asg {t : Tg} {fe : En → Re PyData} : sAsg t fe ρ = SR.of (fe ρ) ρ fun d => match t d with
  | some m => .nx (putD ρ m)
  | none => .st := id rfl
@[simp] theorem q_par {fs : En → Re (List PyData)} : sPar i j fs ρ = SR.of (fs ρ) ρ fun ds => match ds with
  | [d, e] => .nx ((ρ.set i (.va d)).set j (.va e))
  | _ => .st := id rfl
@[simp] theorem q_aug {fe : En → Re PyData} : sAug i fe ρ = match ρ[i]? with
  | some (.va (.int k)) => SR.of (fe ρ) ρ fun d => match d with
    | .int j => .nx (ρ.set i (.va (.int (k + j))))
    | _ => .st
  | _ => .st := id rfl
@[simp] theorem q_for {fi : En → Re (List PyData)} {t : Tg} {fb : En → SR} : sFor fi t fb ρ = SR.of (fi ρ) ρ fun ds => forL t fb ds ρ := id rfl
@[simp] theorem q_own {fe : En → Re PyData} : sOwn i fe ρ = if i < ρ.length then SR.of (fe ρ) ρ fun d => match d with
  | .list ds => .nx (ρ.set i (.ow (.list ds)))
  | .dict es => .nx (ρ.set i (.ow (.dict es)))
  | _ => .st else .st := id rfl
@[simp] theorem q_app {fe : En → Re PyData} : sApp i fe ρ = match ρ[i]? with
  | some (.ow (.list ds)) => SR.of (fe ρ) ρ fun d => if fits (ds.length + 1) then .nx (ρ.set i (.ow (.list (ds ++ [d])))) else .st
  | _ => .st := id rfl
@[simp] theorem q_raise {c : Value} : sRaise c ρ = .ex c none ρ := id rfl
@[simp] theorem q_lc {own : List Nat} {fi : En → Re (List PyData)} {t : Tg} {gc : En → Re Bool} {fe : En → Re PyData} : eLc own fi t gc fe ρ = (fi ρ).bind fun ds => if fits ds.length then (lcL t gc fe (fgt own ρ) ds).bind fun ys => .ok (.list ys) else .st := id rfl
@[simp] theorem q_name : tgName i d = some [(i, d)] := id rfl
@[simp] theorem q_tg2 {t u : Tg} {d e : PyData} : tgTup [t, u] (.tuple [d, e]) = (t d).bind fun l => (u e).bind fun m => some (l ++ m) := by
  show tgAll _ _ = _
  simp [tgAll]
@[simp] theorem q_tg3 {t u v : Tg} {d e f : PyData} : tgTup [t, u, v] (.tuple [d, e, f]) = (t d).bind fun l => (u e).bind fun m => (v f).bind fun n => some (l ++ (m ++ n)) := by
  show tgAll _ _ = _
  simp only [tgAll]
  cases t d <;> simp
  cases u e <;> simp
  cases v f <;> simp
@[simp] theorem q_put0 : putD ρ [] = ρ := id rfl
@[simp] theorem q_put {l : List (Nat × PyData)} : putD ρ ((i, d) :: l) = putD (ρ.set i (.va d)) l := id rfl
@[simp] theorem q_fgt0 : fgt [] ρ = ρ := id rfl
@[simp] theorem q_fgtc {l : List Nat} : fgt (i :: l) ρ = fgt l (ρ.set i .no) := id rfl
@[simp] theorem q_frzow (h : ρ[i]? = some (.ow d)) : frz i ρ = ρ.set i (.va d) := by unfold frz; rw [h]
/-! data -/
@[simp] theorem q_addI {m n : Int} : dAdd (.int m) (.int n) = .ok (.int (m + n)) := id rfl
@[simp] theorem q_sub {m n : Int} : dSub (.int m) (.int n) = .ok (.int (m - n)) := id rfl
theorem q_mod' {m n : Int} (h : n ≠ 0) : dMod (.int m) (.int n) = .ok (.int (m.fmod n)) := by
  show (if (n != 0) = true then _ else _) = _
  rw [if_pos (by simpa using h)]
theorem q_mod {m n : Int} (h : 0 < n) : dMod (.int m) (.int n) = .ok (.int (m % n)) := by
  rw [q_mod' (by omega), Int.fmod_eq_emod_of_nonneg _ (by omega)]
theorem q_div {m n : Int} (h : 0 < n) (h2 : n < 1073741824) : dDiv (.int m) (.int n) = .ok (.int (m / n)) := by
  show (if (n != 0 && decide (n.natAbs < 1073741824)) = true then _ else _) = _
  rw [if_pos (by simp; omega), Int.fdiv_eq_ediv_of_nonneg _ (by omega)]
@[simp] theorem q_lt {m n : Int} : dLt (.int m) (.int n) = .ok (.bool (decide (m < n))) := id rfl
@[simp] theorem q_le {m n : Int} : dLe (.int m) (.int n) = .ok (.bool (decide (m ≤ n))) := id rfl
@[simp] theorem q_gt {m n : Int} : dGt (.int m) (.int n) = .ok (.bool (decide (n < m))) := id rfl
@[simp] theorem q_ge {m n : Int} : dGe (.int m) (.int n) = .ok (.bool (decide (n ≤ m))) := id rfl
@[simp] theorem q_neg {m : Int} : dNeg (.int m) = .ok (.int (-m)) := id rfl
theorem q_mul {m n : Int} (h : (-18446744073709551616 < m ∧ m < 18446744073709551616) ∨ (-18446744073709551616 < n ∧ n < 18446744073709551616)) : dMul (.int m) (.int n) = .ok (.int (m * n)) := by
  show (if mulC m n = true then _ else _) = _
  rw [if_pos (by unfold mulC; simpa using h)]
@[simp] theorem eqv_int {m n : Int} : PyData.eqv (.int m) (.int n) = decide (m = n) := by
  by_cases h : m = n <;> simp [PyData.eqv, h]
@[simp] theorem q_eqI {m n : Int} : dEq (.int m) (.int n) = .ok (.bool (decide (m = n))) := by
  unfold dEq
  rw [if_pos (show (shp 8 (.int m) && shp 8 (.int n)) = true from rfl), eqv_int]
@[simp] theorem q_neI {m n : Int} : dNe (.int m) (.int n) = .ok (.bool (!decide (m = n))) := by
  unfold dNe
  rw [if_pos (show (shp 8 (.int m) && shp 8 (.int n)) = true from rfl), eqv_int]
@[simp] theorem q_not {b : Bool} : dNot (.bool b) = .ok (.bool (!b)) := id rfl
@[simp] theorem q_notL {ds : List PyData} : dNot (.list ds) = .ok (.bool ds.isEmpty) := by
  show (Re.ok (!ds.isEmpty)).bind _ = _
  simp
@[simp] theorem q_isN {d : PyData} : dIsN d = .ok (.bool (isNone d)) := id rfl
@[simp] theorem q_notN {d : PyData} : dNotN d = .ok (.bool (!isNone d)) := id rfl
@[simp] theorem isNone_n : isNone .none = true := id rfl
@[simp] theorem isNone_i {m : Int} : isNone (.int m) = false := id rfl
@[simp] theorem isNone_b {m : Bool} : isNone (.bool m) = false := id rfl
@[simp] theorem isNone_t {m : List PyData} : isNone (.tuple m) = false := id rfl
@[simp] theorem isNone_l {m : List PyData} : isNone (.list m) = false := id rfl
@[simp] theorem isNone_d {m : List (PyData × PyData)} : isNone (.dict m) = false := id rfl
@[simp] theorem isNone_s {m : Str} : isNone (.str m) = false := id rfl
theorem dec_nat {a b : Nat} : decide ((a : Int) = (b : Int)) = decide (a = b) := by
  rw [Bool.eq_iff_iff, decide_eq_true_iff, decide_eq_true_iff]
  omega
@[simp] theorem q_truB {b : Bool} : truth (.bool b) = .ok b := id rfl
@[simp] theorem q_truL {ds : List PyData} : truth (.list ds) = .ok (!ds.isEmpty) := id rfl
@[simp] theorem q_truT {ds : List PyData} : truth (.tuple ds) = .ok (!ds.isEmpty) := id rfl
@[simp] theorem q_truN : truth .none = .ok false := id rfl
@[simp] theorem q_truI {m : Int} : truth (.int m) = .ok (m != 0) := id rfl
@[simp] theorem q_lenL {ds : List PyData} : dLen (.list ds) = .ok (.int ds.length) := id rfl
@[simp] theorem q_lenT {ds : List PyData} : dLen (.tuple ds) = .ok (.int ds.length) := id rfl
@[simp] theorem q_lenS {ns : List Int} : dLen (scrD ns) = .ok (.int ns.length) := by
  show Re.ok _ = _
  simp
@[simp] theorem q_max {m n : Int} : gMax [.int m, .int n] = .ok (.int (max m n)) := by
  show Re.ok _ = _
  congr 2
  omega
@[simp] theorem q_min {m n : Int} : gMin [.int m, .int n] = .ok (.int (min m n)) := by
  show Re.ok _ = _
  congr 2
  omega
theorem atI_nat {α : Type} (ds : List α) (n : Nat) : L2.atI ds (n : Int) = ds[n]? := by
  unfold L2.atI
  by_cases h : n < ds.length
  · have : ixN ds.length (n : Int) = some n := by
      unfold ixN; simp; omega
    rw [this]; rfl
  · have : ixN ds.length (n : Int) = none := by
      unfold ixN; simp; omega
    rw [this, List.getElem?_eq_none (by omega)]; rfl
theorem q_atL {ds : List PyData} {n : Nat} (h : ds[n]? = some d) : dSubs (.list ds) (.int n) = .ok d := by
  show dAt ds (.int n) = _
  unfold dAt
  simp only [atI_nat, h]
theorem q_atT {ds : List PyData} {n : Nat} (h : ds[n]? = some d) : dSubs (.tuple ds) (.int n) = .ok d := by
  show dAt ds (.int n) = _
  unfold dAt
  simp only [atI_nat, h]
theorem q_atS {ns : List Int} {n : Nat} {m : Int} (h : ns[n]? = some m) : dSubs (scrD ns) (.int n) = .ok (.int m) := by
  show dAt (ns.map .int) (.int n) = _
  unfold dAt
  simp only [atI_nat, List.getElem?_map, h, Option.map]
end
/-! ### loops -/
theorem forL_fold {σ : Type} {t : Tg} {fb : En → SR} (env : σ → En) (step : σ → PyData → σ) (I : σ → Prop) : ∀ (ds : List PyData) (s : σ), I s → (∀ s d, d ∈ ds → I s → I (step s d) ∧ ∃ m, t d = some m ∧ fb (putD (env s) m) = .nx (env (step s d))) → forL t fb ds (env s) = .nx (env (ds.foldl step s)) ∧ I (ds.foldl step s)
  | [], s, i, _ => ⟨rfl, i⟩
  | d :: ds, s, i, h => by
    obtain ⟨i1, m, e1, e2⟩ := h s d (List.mem_cons_self ..) i
    have ih := forL_fold env step I ds (step s d) i1 fun s' d' hd => h s' d' (List.mem_cons_of_mem _ hd)
    refine ⟨?_, ih.2⟩
    show (match t d with | none => _ | some m => _) = _
    rw [e1]
    show (match fb (putD (env s) m) with | .nx ρ' => _ | r => _) = _
    rw [e2]
    exact ih.1
/-- the items by a list of another kind -/
theorem forL_map {σ α : Type} {t : Tg} {fb : En → SR} (env : σ → En) (dat : α → PyData) (step : σ → α → σ) (I : σ → Prop) : ∀ (xs : List α) (s : σ), I s → (∀ s x, x ∈ xs → I s → I (step s x) ∧ ∃ m, t (dat x) = some m ∧ fb (putD (env s) m) = .nx (env (step s x))) → forL t fb (xs.map dat) (env s) = .nx (env (xs.foldl step s)) ∧ I (xs.foldl step s)
  | [], s, i, _ => ⟨rfl, i⟩
  | d :: ds, s, i, h => by
    obtain ⟨i1, m, e1, e2⟩ := h s d (List.mem_cons_self ..) i
    have ih := forL_map env dat step I ds (step s d) i1 fun s' d' hd => h s' d' (List.mem_cons_of_mem _ hd)
    refine ⟨?_, ih.2⟩
    show (match t (dat d) with | none => _ | some m => _) = _
    rw [e1]
    show (match fb (putD (env s) m) with | .nx ρ' => _ | r => _) = _
    rw [e2]
    exact ih.1
/-- .. with what went before -/
theorem forL_pre {σ α : Type} {t : Tg} {fb : En → SR} (env : σ → En) (dat : α → PyData) (step : σ → α → σ) : ∀ (xs : List α) (s : σ), (∀ pre x post, xs = pre ++ x :: post → ∃ m, t (dat x) = some m ∧ fb (putD (env (pre.foldl step s)) m) = .nx (env (step (pre.foldl step s) x))) → forL t fb (xs.map dat) (env s) = .nx (env (xs.foldl step s))
  | [], s, _ => rfl
  | d :: ds, s, h => by
    obtain ⟨m, e1, e2⟩ := h [] d ds rfl
    have ih := forL_pre env dat step ds (step s d) fun pre x post e => h (d :: pre) x post (by rw [e]; rfl)
    show (match t (dat d) with | none => _ | some m => _) = _
    rw [e1]
    show (match fb (putD (env s) m) with | .nx ρ' => _ | r => _) = _
    have e2 : fb (putD (env s) m) = .nx (env (step s d)) := e2
    rw [e2]
    exact ih
/-- a loop that changes nothing -/
theorem forL_same {t : Tg} {fb : En → SR} {ρ : En} : ∀ (ds : List PyData), (∀ d ∈ ds, ∃ m, t d = some m ∧ fb (putD ρ m) = .nx ρ) → forL t fb ds ρ = .nx ρ
  | [], _ => rfl
  | d :: ds, h => by
    obtain ⟨m, e1, e2⟩ := h d (List.mem_cons_self ..)
    have ih := forL_same ds fun d' hd => h d' (List.mem_cons_of_mem _ hd)
    show (match t d with | none => _ | some m => _) = _
    rw [e1]
    show (match fb (putD ρ m) with | .nx ρ' => _ | r => _) = _
    rw [e2]
    exact ih
/-- a comprehension over a list -/
theorem lc_map {α : Type} {t : Tg} {gc : En → Re Bool} {fe : En → Re PyData} {ρ : En} (dat : α → PyData) (p : α → Bool) (f : α → PyData) : ∀ (xs : List α), (∀ x ∈ xs, ∃ m, t (dat x) = some m ∧ gc (putD ρ m) = .ok (p x) ∧ (p x = true → fe (putD ρ m) = .ok (f x))) → lcL t gc fe ρ (xs.map dat) = .ok ((xs.filter p).map f)
  | [], _ => rfl
  | x :: xs, h => by
    obtain ⟨m, e1, e2, e3⟩ := h x (List.mem_cons_self ..)
    have ih := lc_map dat p f xs fun d' hd => h d' (List.mem_cons_of_mem _ hd)
    show (match t (dat x) with | none => _ | some m => _) = _
    rw [e1]
    show (calmR (gc (putD ρ m))).bind _ = _
    rw [e2]
    show (if p x = true then _ else _) = _
    cases hp : p x with
    | false =>
      rw [if_neg (by simp)]
      show lcL t gc fe ρ (xs.map dat) = _
      rw [ih, List.filter_cons_of_neg (by simp [hp])]
    | true =>
      rw [if_pos rfl, e3 hp]
      show (lcL t gc fe ρ (xs.map dat)).bind _ = _
      rw [ih, List.filter_cons_of_pos (by simp [hp])]
      rfl
/-- .. without a test -/
theorem lc_map1 {α : Type} {t : Tg} {fe : En → Re PyData} {ρ : En} (dat : α → PyData) (f : α → PyData) (xs : List α) (h : ∀ x ∈ xs, ∃ m, t (dat x) = some m ∧ fe (putD ρ m) = .ok (f x)) : lcL t gYes fe ρ (xs.map dat) = .ok (xs.map f) := by
  rw [lc_map dat (fun _ => true) f xs fun x hx => by
    obtain ⟨m, e1, e2⟩ := h x hx
    exact ⟨m, e1, rfl, fun _ => e2⟩, List.filter_eq_self.2 fun _ _ => rfl]
/-- while, by a measure -/
theorem whL_step {gc : En → Re Bool} {fb : En → SR} {n : Nat} {ρ ρ' : En} (hg : gc ρ = .ok true) (hb : fb ρ = .nx ρ') : whL gc fb (n + 1) ρ = whL gc fb n ρ' := by
  show SR.of (gc ρ) ρ _ = _
  rw [hg]
  show (match fb ρ with | .nx ρ' => _ | r => _) = _
  rw [hb]
theorem whL_stop {gc : En → Re Bool} {fb : En → SR} {n : Nat} {ρ : En} (hg : gc ρ = .ok false) : whL gc fb (n + 1) ρ = .nx ρ := by
  show SR.of (gc ρ) ρ _ = _
  rw [hg]
  rfl
theorem fnD_eq {n L : Nat} {fb : En → SR} {ds : List PyData} (h : ds.length = n) : fnD n L fb ds = match fb (ds.map .va ++ List.replicate (L - n) .no) with
  | .rt d => .ok d
  | .nx _ => .ok .none
  | .ex c p _ => .ex c p
  | .st => .st := by
  unfold fnD
  exact if_pos h
theorem fn_rt {n L : Nat} {fb : En → SR} {ds : List PyData} {d : PyData} (hl : ds.length = n) (h : fb (ds.map .va ++ List.replicate (L - n) .no) = .rt d) : fnD n L fb ds = .ok d := by
  rw [fnD_eq hl, h]
theorem fn_nx {n L : Nat} {fb : En → SR} {ds : List PyData} {ρ : En} (hl : ds.length = n) (h : fb (ds.map .va ++ List.replicate (L - n) .no) = .nx ρ) : fnD n L fb ds = .ok .none := by
  rw [fnD_eq hl, h]
theorem fn_ex {n L : Nat} {fb : En → SR} {ds : List PyData} {ρ : En} {c : Value} {p : Option PyData} (hl : ds.length = n) (h : fb (ds.map .va ++ List.replicate (L - n) .no) = .ex c p ρ) : fnD n L fb ds = .ex c p := by
  rw [fnD_eq hl, h]
theorem fits_of {n : Nat} (h : n ≤ 16777216) : fits n = true := decide_eq_true h
theorem bigB_of {n : Int} (h : -1000000000 ≤ n) (h2 : n ≤ 1000000000) : bigB n = true := by
  unfold bigB; simp; omega
/-! ### slices -/
theorem cut_from (ds : List PyData) (k : Nat) : DL.cutD ds (some (k : Int)) none = ds.drop k := by
  unfold DL.cutD
  have h1 : HT.sIx ds.length 0 (some (k : Int)) = min k ds.length := HT.sIx_nat _ _ _
  have h2 : HT.sIx ds.length ds.length none = ds.length := rfl
  rw [h1, h2]
  by_cases h : k ≤ ds.length
  · rw [Nat.min_eq_left h, List.take_of_length_le (by simp)]
  · rw [Nat.min_eq_right (by omega), List.drop_eq_nil_of_le (Nat.le_refl _), List.drop_eq_nil_of_le (by omega)]
    simp
theorem cut_to (ds : List PyData) (k : Nat) : DL.cutD ds none (some (k : Int)) = ds.take k := by
  unfold DL.cutD
  have h1 : HT.sIx ds.length ds.length (some (k : Int)) = min k ds.length := HT.sIx_nat _ _ _
  have h2 : HT.sIx ds.length 0 none = 0 := rfl
  rw [h1, h2]
  by_cases h : k ≤ ds.length
  · rw [Nat.min_eq_left h]; rfl
  · rw [Nat.min_eq_right (by omega), List.take_of_length_le (by simp), List.take_of_length_le (by omega)]
    rfl
theorem cut_mid (ds : List PyData) (j k : Nat) (h : j ≤ k) (h2 : k ≤ ds.length) : DL.cutD ds (some (j : Int)) (some (k : Int)) = (ds.drop j).take (k - j) := by
  unfold DL.cutD
  rw [HT.sIx_nat, HT.sIx_nat, Nat.min_eq_left h2, Nat.min_eq_left (by omega)]
theorem cut_last (ds : List PyData) (k : Nat) (h : 0 < k) : DL.cutD ds (some (-(k : Int))) none = ds.drop (ds.length - k) := by
  unfold DL.cutD
  have h1 : HT.sIx ds.length 0 (some (-(k : Int))) = ds.length - k := by
    unfold HT.sIx
    dsimp only
    rw [if_pos (by omega)]
    omega
  have h2 : HT.sIx ds.length ds.length none = ds.length := rfl
  rw [h1, h2, List.take_of_length_le (by simp)]
theorem zipD_map {α β : Type} (f : α → PyData) (g : β → PyData) : ∀ (xs : List α) (ys : List β), zipD (xs.map f) (ys.map g) = (xs.zip ys).map fun p => .tuple [f p.1, g p.2]
  | [], _ => rfl
  | _ :: _, [] => rfl
  | x :: xs, y :: ys => by simp [zipD, zipD_map f g xs ys]
/-! ### ints in lists -/
abbrev iL (ns : List Int) : PyData := .list (ns.map .int)
abbrev nI (n : Nat) : PyData := .int (n : Int)
theorem rngD_nat (n : Nat) : rngD 0 n = (List.range n).map nI := by
  unfold rngD nI
  simp
theorem q_LR1 {n : Nat} (h : n ≤ 1000000) : dLR1 (.int n) = .ok (.list ((List.range n).map nI)) := by
  unfold dLR1
  simp only
  rw [if_pos (by simp; omega), Int.toNat_natCast, rngD_nat]
/-! ### data of one kind, compared -/
structure Em {α : Type} [DecidableEq α] (n : Nat) (f : α → PyData) : Prop where
  eq : ∀ x y, PyData.eqv (f x) (f y) = decide (x = y)
  sh : ∀ x, shp n (f x) = true
theorem em_int (n : Nat) : Em n PyData.int := ⟨fun x y => eqv_int, fun x => by cases n <;> rfl⟩
theorem em_nat (n : Nat) : Em n nI := ⟨fun x y => by rw [eqv_int, Bool.eq_iff_iff]; simp; omega, fun x => by cases n <;> rfl⟩
theorem em_bool (n : Nat) : Em n PyData.bool := ⟨fun x y => by cases x <;> cases y <;> simp [PyData.eqv], fun x => by cases n <;> rfl⟩
theorem eqvAll_map {α : Type} [DecidableEq α] {f : α → PyData} (h : ∀ x y, PyData.eqv (f x) (f y) = decide (x = y)) : ∀ (xs ys : List α), PyData.eqvAll (xs.map f) (ys.map f) = decide (xs = ys)
  | [], [] => by simp [PyData.eqvAll]
  | [], y :: ys => by simp [PyData.eqvAll]
  | x :: xs, [] => by simp [PyData.eqvAll]
  | x :: xs, y :: ys => by
    rw [List.map_cons, List.map_cons, PyData.eqvAll, h, eqvAll_map h xs ys, Bool.eq_iff_iff]
    simp
theorem Em.list {α : Type} [DecidableEq α] {n : Nat} {f : α → PyData} (h : Em n f) : Em (n + 1) (fun xs : List α => PyData.list (xs.map f)) := ⟨fun x y => by rw [PyData.eqv, eqvAll_map h.eq], fun x => by
  show (x.map f).all (shp n) = true
  rw [List.all_eq_true]
  intro d hd
  obtain ⟨z, _, rfl⟩ := List.mem_map.1 hd
  exact h.sh z⟩
theorem Em.tuple {α : Type} [DecidableEq α] {n : Nat} {f : α → PyData} (h : Em n f) : Em (n + 1) (fun xs : List α => PyData.tuple (xs.map f)) := ⟨fun x y => by rw [PyData.eqv, eqvAll_map h.eq], fun x => by
  show (x.map f).all (shp n) = true
  rw [List.all_eq_true]
  intro d hd
  obtain ⟨z, _, rfl⟩ := List.mem_map.1 hd
  exact h.sh z⟩
theorem Em.qEq {α : Type} [DecidableEq α] {f : α → PyData} (h : Em 8 f) (x y : α) : dEq (f x) (f y) = .ok (.bool (decide (x = y))) := by
  unfold dEq
  rw [h.sh, h.sh, h.eq]
  rfl
theorem Em.qNe {α : Type} [DecidableEq α] {f : α → PyData} (h : Em 8 f) (x y : α) : dNe (f x) (f y) = .ok (.bool (!decide (x = y))) := by
  unfold dNe
  rw [h.sh, h.sh, h.eq]
  rfl
@[simp] theorem q_neB {a b : Bool} : dNe (.bool a) (.bool b) = .ok (.bool (!decide (a = b))) := (em_bool 8).qNe a b
@[simp] theorem q_eqB {a b : Bool} : dEq (.bool a) (.bool b) = .ok (.bool (decide (a = b))) := (em_bool 8).qEq a b
theorem q_inN {m : Nat} {ms : List Nat} : dIn (nI m) (.list (ms.map nI)) = .ok (.bool (ms.any fun k => Nat.beq k m)) := by
  unfold dIn dInB
  simp only
  rw [if_pos (by
    rw [Bool.and_eq_true]
    refine ⟨rfl, ?_⟩
    rw [List.all_eq_true]
    intro d hd
    obtain ⟨z, _, rfl⟩ := List.mem_map.1 hd
    rfl)]
  rw [List.any_map]
  have : ((fun z => PyData.eqv z (nI m)) ∘ nI) = fun k => Nat.beq k m := by
    funext k
    show PyData.eqv (nI k) (nI m) = _
    rw [(em_nat 0).eq, Bool.eq_iff_iff]
    simp
  rw [this]
  rfl
theorem q_modN {a b : Nat} (h : 0 < b) : dMod (nI a) (nI b) = .ok (nI (a % b)) := q_mod (by omega)
/-- one, other = other, one % other, until other is 0 -/
theorem gcd_loop : ∀ (b a n : Nat), b < n → whL (toB (e2 dNe (eVar 1) (eC (.int 0)))) (sPar 0 1 (aCons (eVar 1) (aCons (e2 dMod (eVar 0) (eVar 1)) aNil))) n [.va (nI a), .va (nI b)] = .nx [.va (nI (Nat.gcd b a)), .va (nI 0)]
  | b, a, 0, h => by omega
  | 0, a, n + 1, h => by
    rw [whL_stop (by simp), Nat.gcd_zero_left]
  | b + 1, a, n + 1, h => by
    have : (a % (b + 1)) < b + 1 := Nat.mod_lt _ (by omega)
    rw [whL_step (ρ' := [.va (nI (b + 1)), .va (nI (a % (b + 1)))]) ?_ ?_, gcd_loop (a % (b + 1)) (b + 1) n (by omega), ← Nat.gcd_rec]
    · have : ¬ ((b : Int) + 1 = 0) := by omega
      simp [this]
    · simp [q_modN]
termination_by b => b
theorem rngD_from (k n : Nat) : rngD k n = (List.range n).map fun i => nI (k + i) := by
  unfold rngD nI
  simp
end DL

/-! # The plain side, more: lists of naturals, try -/
namespace DL
open PySem PySem.Spec L2 PyProof.Rows
abbrev nL (ns : List Nat) : PyData := .list (ns.map nI)
abbrev nT (ns : List Nat) : PyData := .tuple (ns.map nI)
abbrev iT (ns : List Int) : PyData := .tuple (ns.map .int)
theorem q_at {α : Type} {f : α → PyData} {ds : List α} {k : Int} {n : Nat} {x : α} (hk : k = n) (h : ds[n]? = some x) : dSubs (.list (ds.map f)) (.int k) = .ok (f x) := by
  subst hk
  exact q_atL (by rw [List.getElem?_map, h]; rfl)
theorem q_atU {α : Type} {f : α → PyData} {ds : List α} {k : Int} {n : Nat} {x : α} (hk : k = n) (h : ds[n]? = some x) : dSubs (.tuple (ds.map f)) (.int k) = .ok (f x) := by
  subst hk
  exact q_atT (by rw [List.getElem?_map, h]; rfl)
@[simp] theorem q_t0 {a : PyData} {r : List PyData} : dSubs (.tuple (a :: r)) (.int 0) = .ok a := q_atT (n := 0) rfl
@[simp] theorem q_t1 {a b : PyData} {r : List PyData} : dSubs (.tuple (a :: b :: r)) (.int 1) = .ok b := q_atT (n := 1) rfl
@[simp] theorem q_t2 {a b c : PyData} {r : List PyData} : dSubs (.tuple (a :: b :: c :: r)) (.int 2) = .ok c := q_atT (n := 2) rfl
@[simp] theorem q_get {fa fb fc : En → Re PyData} {ρ : En} : eGet fa fb fc ρ = (fa ρ).bind fun d => if isDd d then (fb ρ).bind fun k => (fc ρ).bind fun x => dGet d k x else .st := id rfl
@[simp] theorem q_count {fa fb : En → Re PyData} {ρ : En} : eCount fa fb ρ = (fa ρ).bind fun d => if isLst d then (fb ρ).bind (dCount d) else .st := id rfl
/-! try -/
def SR.tr (cT : Addr → Addr → Option Bool) (r : SR) (hs : List HD) : SR := match r with
  | .ex (.ref c) p ρ' => tryH cT c p ρ' hs
  | .ex _ _ _ => .st
  | r => r
theorem q_try' {cT : Addr → Addr → Option Bool} {fb : En → SR} {hs : List HD} {ρ : En} : sTry cT fb hs ρ = (fb ρ).tr cT hs := by
  unfold sTry SR.tr
  cases fb ρ with
  | ex c p ρ' => cases c <;> rfl
  | _ => rfl
@[simp] theorem q_try {cT : Addr → Addr → Option Bool} {fb : En → SR} {hs : List HD} {ρ : En} : sTry cT fb hs ρ = (fb ρ).tr cT hs := q_try'
@[simp] theorem tr_nx {cT : Addr → Addr → Option Bool} {hs : List HD} {ρ : En} : SR.tr cT (.nx ρ) hs = .nx ρ := id rfl
@[simp] theorem tr_rt {cT : Addr → Addr → Option Bool} {hs : List HD} {d : PyData} : SR.tr cT (.rt d) hs = .rt d := id rfl
@[simp] theorem tr_ex {cT : Addr → Addr → Option Bool} {hs : List HD} {c : Addr} {p : Option PyData} {ρ : En} : SR.tr cT (.ex (.ref c) p ρ) hs = tryH cT c p ρ hs := id rfl
@[simp] theorem off_rt {i : Nat} {d : PyData} : SR.off i (.rt d) = .rt d := id rfl
@[simp] theorem off_nx {i : Nat} {ρ : En} : SR.off i (.nx ρ) = .nx (ρ.set i .no) := id rfl
@[simp] theorem calm_rt {d : PyData} : SR.calm (.rt d) = .rt d := id rfl
@[simp] theorem calm_nx {ρ : En} : SR.calm (.nx ρ) = .nx ρ := id rfl
theorem tryH_yes {cT : Addr → Addr → Option Bool} {c C : Addr} {p : Option PyData} {ρ : En} {i : Nat} {f : Addr → Option PyData → En → SR} {hs : List HD} (h : cT c C = some true) (hi : i < ρ.length) : tryH cT c p ρ (⟨C, some i, f⟩ :: hs) = SR.off i (SR.calm (f c p (ρ.set i .no))) := by
  unfold tryH
  simp only [h]
  rw [if_pos hi]
theorem tryH_yesN {cT : Addr → Addr → Option Bool} {c C : Addr} {p : Option PyData} {ρ : En} {f : Addr → Option PyData → En → SR} {hs : List HD} (h : cT c C = some true) : tryH cT c p ρ (⟨C, none, f⟩ :: hs) = SR.calm (f c p ρ) := by
  unfold tryH
  simp only [h]
theorem tryH_no {cT : Addr → Addr → Option Bool} {c C : Addr} {p : Option PyData} {ρ : En} {nm : Option Nat} {f : Addr → Option PyData → En → SR} {hs : List HD} (h : cT c C = some false) : tryH cT c p ρ (⟨C, nm, f⟩ :: hs) = tryH cT c p ρ hs := by
  conv => lhs; unfold tryH
  simp only [h]
theorem hRet_eq {cT : Addr → Addr → Option Bool} {C1 : Addr} {o2 : Option Addr} {s1 s2 : PyData} {c : Addr} {ρ : En} {b : Bool} (h : hCond cT c C1 o2 = some b) : hRet cT C1 o2 s1 s2 c none ρ = .rt (if b then s1 else s2) := by
  unfold hRet hStr
  rw [h]
  rfl
theorem hApp_eq {cT : Addr → Addr → Option Bool} {j : Nat} {C1 : Addr} {o2 : Option Addr} {s1 s2 : PyData} {c : Addr} {ρ : En} {b : Bool} (h : hCond cT c C1 o2 = some b) : hApp cT j C1 o2 s1 s2 c none ρ = sApp j (eC (if b then s1 else s2)) ρ := by
  unfold hApp hStr
  rw [h]
  rfl
/-! data that is no dict anywhere -/
mutual
def noD : PyData → Bool
  | .dict _ => false
  | .list xs => noDs xs
  | .tuple xs => noDs xs
  | _ => true
def noDs : List PyData → Bool
  | [] => true
  | x :: xs => noD x && noDs xs
end
theorem noDs_mem : ∀ {xs : List PyData}, noDs xs = true → ∀ x ∈ xs, noD x = true
  | [], _, x, hx => by simp at hx
  | y :: ys, h, x, hx => by
    rw [noDs, Bool.and_eq_true] at h
    rcases List.mem_cons.1 hx with rfl | hx
    · exact h.1
    · exact noDs_mem h.2 x hx
theorem q_isi {t : Ty} {d : PyData} (h : noD d = true) : dIsi t d = .ok (.bool (isTy t d)) := by
  cases d <;> first | rfl | (simp [noD] at h)
theorem sto_dict {i : Nat} {fx fe : En → Re PyData} {ρ : En} {es : List (PyData × PyData)} {k d : PyData} (h : ρ[i]? = some (.ow (.dict es))) (he : fe ρ = .ok d) (hx : fx ρ = .ok k) (hk : isKey k = true) (hf : fits (es.length + 1) = true) : sSto i fx fe ρ = .nx (ρ.set i (.ow (.dict (putE es k d)))) := by
  unfold sSto sStD
  simp only [h, he, hx, SR.of_ok, hk, hf]
  rfl
theorem ixN_nat {n j : Nat} (h : j < n) : ixN n (j : Int) = some j := by
  unfold ixN
  simp
  omega
theorem sto_list {i : Nat} {fx fe : En → Re PyData} {ρ : En} {ds : List PyData} {j : Nat} {d : PyData} (h : ρ[i]? = some (.ow (.list ds))) (he : fe ρ = .ok d) (hx : fx ρ = .ok (.int j)) (hj : j < ds.length) : sSto i fx fe ρ = .nx (ρ.set i (.ow (.list (ds.set j d)))) := by
  unfold sSto sStL
  simp only [h, he, hx, SR.of_ok, ixN_nat hj]
/-- a loop that may return -/
def foldO {σ α : Type} (step : σ → α → Option σ) : List α → σ → Option σ
  | [], s => some s
  | x :: xs, s => (step s x).bind (foldO step xs)
theorem forL_opt {σ α : Type} {t : Tg} {fb : En → SR} (env : σ → En) (dat : α → PyData) (step : σ → α → Option σ) (r : PyData) (I : σ → Prop) : ∀ (xs : List α) (s : σ), I s → (∀ s x, x ∈ xs → I s → ∃ m, t (dat x) = some m ∧ match step s x with
    | some s' => I s' ∧ fb (putD (env s) m) = .nx (env s')
    | none => fb (putD (env s) m) = .rt r) → forL t fb (xs.map dat) (env s) = match foldO step xs s with
    | some s' => .nx (env s')
    | none => .rt r
  | [], s, _, _ => rfl
  | d :: ds, s, i, h => by
    obtain ⟨m, e1, e2⟩ := h s d (List.mem_cons_self ..) i
    show (match t (dat d) with | none => _ | some m => _) = _
    rw [e1]
    show (match fb (putD (env s) m) with | .nx ρ' => _ | r => _) = _
    unfold foldO
    cases es : step s d with
    | none =>
      rw [es] at e2
      rw [e2]
      rfl
    | some s' =>
      rw [es] at e2
      rw [e2.2]
      exact forL_opt env dat step r I ds s' e2.1 fun s'' d' hd => h s'' d' (List.mem_cons_of_mem _ hd)
/-! the parts of ties_of -/
abbrev tiI : En → Re (List PyData) := DL.iRng1 (aCons (e2 dAdd (e2 dSubs (eLook 0) (eC (.int 0))) (eC (.int 1))) aNil)
abbrev tiA : En → Re PyData := e2 dSubs (eLook 0) (eC (.int 1))
abbrev ti1 : En → Re PyData := eTup (aCons (eVar 2) (aCons (eC (.int 1)) (aCons (eVar 4) (aCons (eVar 5) aNil))))
abbrev ti2 : En → Re PyData := eTup (aCons (eVar 2) (aCons (e1 dNeg (eC (.int 1))) (aCons (eVar 3) (aCons (e1 dNeg (eVar 5)) aNil))))
theorem ti_qi (d : PyData) (n : Int) (ts : List PyData) (hd : d = .tuple [.int n, .tuple ts]) (h0 : 0 ≤ n) (h1 : n ≤ 1000) : tiI (noE d) = .ok (rngD 0 (n.toNat + 1)) := by
  subst hd
  have : bigB (n + 1) = true := bigB_of (by omega) (by omega)
  unfold tiI noE
  simp [this]
  rw [show (n + 1).toNat = n.toNat + 1 by omega]
theorem ti_qa (d : PyData) (n : Int) (ts : List PyData) (hd : d = .tuple [.int n, .tuple ts]) : tiA [.va d, .no, .no, .no, .no, .no, .no] = .ok (.tuple ts) := by
  subst hd
  unfold tiA
  simp
theorem ti_q1 (d : PyData) (i a b : Nat) (m : Int) : ti1 [.va d, .no, .va (.int i), .va (.int a), .va (.int b), .va (.int m), .no] = .ok (tieD i 1 b m) := by
  have : fits 4 = true := by decide
  unfold ti1 tieD
  simp [this]
theorem ti_q2 (d : PyData) (i a b : Nat) (m : Int) : ti2 [.va d, .no, .va (.int i), .va (.int a), .va (.int b), .va (.int m), .no] = .ok (tieD i (-1) a (-m)) := by
  have : fits 4 = true := by decide
  unfold ti2 tieD
  simp [this]
end DL

/-! # The plain side, more: texts compared -/
namespace DL
open PySem PySem.Spec L2 PyProof.Rows
theorem strNe (s : Str) (h : PyData.strOk s = true) : dNe (.str s) (.str s) = .ok (.bool false) := by
  unfold dNe
  have : shp 8 (.str s) = true := h
  rw [this]
  simp [PyData.eqv]
theorem strEq (s : Str) (h : PyData.strOk s = true) : dEq (.str s) (.str s) = .ok (.bool true) := by
  unfold dEq
  have : shp 8 (.str s) = true := h
  rw [this]
  simp [PyData.eqv]
/-- what a def's body comes to -/
def SR.out : SR → Re PyData
  | .rt d => .ok d
  | .nx _ => .ok .none
  | .ex c p _ => .ex c p
  | .st => .st
theorem fn_out {n L : Nat} {fb : En → SR} {ds : List PyData} (hl : ds.length = n) : fnD n L fb ds = (fb (ds.map .va ++ List.replicate (L - n) .no)).out := by
  rw [fnD_eq hl]
  cases fb (ds.map .va ++ List.replicate (L - n) .no) <;> rfl
@[simp] theorem out_rt {d : PyData} : SR.out (.rt d) = .ok d := id rfl
@[simp] theorem out_nx {ρ : En} : SR.out (.nx ρ) = .ok .none := id rfl
@[simp] theorem out_ex {c : Value} {p : Option PyData} {ρ : En} : SR.out (.ex c p ρ) = .ex c p := id rfl
@[simp] theorem out_st : SR.out .st = .st := id rfl
theorem fn_is {n L : Nat} {fb : En → SR} {ds : List PyData} {r : Re PyData} (hl : ds.length = n) (h : (fb (ds.map .va ++ List.replicate (L - n) .no)).out = r) : fnD n L fb ds = r := (fn_out hl).trans h
theorem q_last {α : Type} {f : α → PyData} {ds : List α} {x : α} : dSubs (.list ((ds ++ [x]).map f)) (.int (-1)) = .ok (f x) := by
  show dAt ((ds ++ [x]).map f) (.int (-1)) = _
  unfold dAt
  have : L2.atI ((ds ++ [x]).map f) (-1) = some (f x) := by
    unfold L2.atI
    have : ixN ((ds ++ [x]).map f).length (-1) = some ds.length := by
      unfold ixN
      simp
      omega
    rw [this]
    simp
  simp only [this]
theorem cut_inner (ds : List PyData) : DL.cutD ds (some 1) (some (-1)) = (ds.drop 1).dropLast := by
  unfold DL.cutD
  have h1 : HT.sIx ds.length 0 (some (1 : Int)) = min 1 ds.length := HT.sIx_nat ds.length 0 1
  have h2 : HT.sIx ds.length ds.length (some (-1 : Int)) = ds.length - 1 := by
    unfold HT.sIx
    dsimp only
    rw [if_pos (by omega)]
    omega
  rw [h1, h2, List.dropLast_eq_take]
  by_cases h : ds.length = 0
  · rw [List.length_eq_zero_iff.1 h]; rfl
  · rw [Nat.min_eq_left (by omega), List.length_drop]
/-- data of pairs of ints -/
theorem em_two {α : Type} [DecidableEq α] {f : α → PyData} (a b : α → Int) (hf : ∀ x, f x = .tuple [.int (a x), .int (b x)]) (hi : ∀ x y, a x = a y → b x = b y → x = y) (n : Nat) : Em (n + 1) f := ⟨fun x y => by
  rw [hf, hf]
  simp only [PyData.eqv, PyData.eqvAll, eqv_int, Bool.and_true]
  rw [Bool.eq_iff_iff, Bool.and_eq_true]
  simp only [decide_eq_true_eq]
  exact ⟨fun z => hi x y (by simpa using z.1) (by simpa using z.2), fun z => by rw [z]; simp⟩, fun x => by
  rw [hf]
  show ([PyData.int (a x), PyData.int (b x)].all (shp n)) = true
  cases n <;> rfl⟩
/-- one of some -/
theorem pick {P : PyData → Prop} {xs : List PyData} {c : Nat} (h : ∀ x ∈ xs, P x) (hc : c < xs.length) : ∃ x, dSubs (.list xs) (nI c) = .ok x ∧ P x :=
  ⟨xs[c], q_atL (n := c) (List.getElem?_eq_getElem hc), h _ (List.getElem_mem hc)⟩
theorem noDs_app {xs ys : List PyData} (h1 : noDs xs = true) (h2 : noDs ys = true) : noDs (xs ++ ys) = true := by
  induction xs with
  | nil => exact h2
  | cons x xs ih =>
    rw [noDs, Bool.and_eq_true] at h1
    rw [List.cons_append, noDs, h1.1, ih h1.2]
    rfl
theorem noDs_map {α : Type} {f : α → PyData} (h : ∀ x, noD (f x) = true) : ∀ xs : List α, noDs (xs.map f) = true
  | [] => rfl
  | x :: xs => by
    rw [List.map_cons, noDs, h x, noDs_map h xs]
    rfl
theorem add_l {xs ys : List PyData} (h : xs.length + ys.length ≤ 100000) : dAdd (.list xs) (.list ys) = .ok (.list (xs ++ ys)) := by
  show (if fits _ = true then _ else _) = _
  rw [if_pos (fits_of (by omega))]
theorem add_t {xs ys : List PyData} (h : xs.length + ys.length ≤ 100000) : dAdd (.tuple xs) (.tuple ys) = .ok (.tuple (xs ++ ys)) := by
  show (if fits _ = true then _ else _) = _
  rw [if_pos (fits_of (by omega))]
theorem sl_from {xs : List PyData} (k : Nat) : dSlice (.list xs) (some (k : Int)) none = .ok (.list (xs.drop k)) := by
  show Re.ok (PyData.list (cutD _ _ _)) = _
  rw [cut_from]
theorem sl_to {xs : List PyData} (k : Nat) : dSlice (.list xs) none (some (k : Int)) = .ok (.list (xs.take k)) := by
  show Re.ok (PyData.list (cutD _ _ _)) = _
  rw [cut_to]
theorem sl_fromT {xs : List PyData} (k : Nat) : dSlice (.tuple xs) (some (k : Int)) none = .ok (.tuple (xs.drop k)) := by
  show Re.ok (PyData.tuple (cutD _ _ _)) = _
  rw [cut_from]
theorem sl_toT {xs : List PyData} (k : Nat) : dSlice (.tuple xs) none (some (k : Int)) = .ok (.tuple (xs.take k)) := by
  show Re.ok (PyData.tuple (cutD _ _ _)) = _
  rw [cut_to]
theorem forL_all {α : Type} {t : Tg} {fb : En → SR} {ρ : En} (dat : α → PyData) (p : α → Bool) (r : PyData) : ∀ (xs : List α), (∀ x ∈ xs, ∃ m, t (dat x) = some m ∧ fb (putD ρ m) = if p x then .nx ρ else .rt r) → forL t fb (xs.map dat) ρ = if xs.all p then .nx ρ else .rt r
  | [], _ => rfl
  | x :: xs, h => by
    obtain ⟨m, e1, e2⟩ := h x (List.mem_cons_self ..)
    have ih := forL_all dat p r xs fun d' hd => h d' (List.mem_cons_of_mem _ hd)
    show (match t (dat x) with | none => _ | some m => _) = _
    rw [e1]
    show (match fb (putD ρ m) with | .nx ρ' => _ | r => _) = _
    rw [e2]
    cases hp : p x with
    | false => simp [hp]
    | true =>
      rw [if_pos rfl, List.all_cons, hp, Bool.true_and]
      exact ih
theorem forL_good {α : Type} {t : Tg} {fb : En → SR} {ρ : En} (dat : α → PyData) (p : α → Bool) (Good : PyData → Prop) : ∀ (xs : List α), (∀ x ∈ xs, ∃ m, t (dat x) = some m ∧ ((p x = true ∧ fb (putD ρ m) = .nx ρ) ∨ (p x = false ∧ ∃ y, Good y ∧ fb (putD ρ m) = .rt y))) → (xs.all p = true ∧ forL t fb (xs.map dat) ρ = .nx ρ) ∨ (xs.all p = false ∧ ∃ y, Good y ∧ forL t fb (xs.map dat) ρ = .rt y)
  | [], _ => .inl ⟨rfl, rfl⟩
  | x :: xs, h => by
    obtain ⟨m, e1, e2⟩ := h x (by simp)
    have hs : forL t fb ((x :: xs).map dat) ρ = match fb (putD ρ m) with
      | .nx ρ' => forL t fb (xs.map dat) ρ'
      | r => r := by
      show (match t (dat x) with | none => _ | some m => _) = _
      rw [e1]
      all_goals rfl
    rcases e2 with ⟨hp, e2⟩ | ⟨hp, y, hy, e2⟩
    · rw [hs, e2, List.all_cons, hp, Bool.true_and]
      exact forL_good dat p Good xs fun z hz => h z (by simp [hz])
    · rw [hs, e2, List.all_cons, hp, Bool.false_and]
      exact .inr ⟨rfl, y, hy, rfl⟩
theorem enumD_zip {α : Type} (f : α → PyData) : ∀ (xs : List α) (k : Nat), enumD k (xs.map f) = (xs.zipIdx k).map fun q => .tuple [nI q.2, f q.1]
  | [], _ => rfl
  | x :: xs, k => by
    show PyData.tuple [.int (k : Nat), f x] :: enumD (k + 1) (xs.map f) = _
    rw [enumD_zip f xs (k + 1)]
    rfl
/-- a loop that writes a word each time -/
theorem forL_word {t : Tg} {fb : En → SR} (env : List PyData → En) (w : PyData) (N : Nat) (h : ∀ (l : List PyData) (k : Nat), k < N → l.length ≤ N → ∃ m, t (nI k) = some m ∧ fb (putD (env l) m) = .nx (env (l ++ [w]))) : forL t fb ((List.range N).map nI) (env []) = .nx (env (List.replicate N w)) := by
  have hlen : ∀ (pre : List Nat) (l : List PyData), pre.foldl (fun l _ => l ++ [w]) l = l ++ List.replicate pre.length w := by
    intro pre
    induction pre with
    | nil => intro l; simp
    | cons a r ih => intro l; rw [List.foldl_cons, ih]; simp [List.replicate_succ]
  have := forL_pre (t := t) (fb := fb) env nI (fun l _ => l ++ [w]) (List.range N) [] (fun pre x post e => by
    have hx : x < N := by
      have : x ∈ List.range N := by rw [e]; simp
      simpa using this
    have hp : pre.length ≤ N := by
      have := congrArg List.length e
      simp at this
      omega
    exact h _ x hx (by rw [hlen]; simpa using hp))
  rw [hlen] at this
  simpa using this
theorem eqv_refl : ∀ (n : Nat) (d : PyData), shp n d = true → PyData.eqv d d = true
  | n, .none, _ => by simp [PyData.eqv]
  | n, .bool _, _ => by simp [PyData.eqv]
  | n, .int _, _ => by simp [PyData.eqv]
  | n, .str x, h => by simp [PyData.eqv]
  | 0, .list xs, h => by simp [shp] at h
  | 0, .tuple xs, h => by simp [shp] at h
  | n + 1, .list xs, h => by
    rw [PyData.eqv]
    rw [shp, List.all_eq_true] at h
    induction xs with
    | nil => simp [PyData.eqvAll]
    | cons x xs ih =>
      rw [PyData.eqvAll, Bool.and_eq_true]
      exact ⟨eqv_refl n x (h x (by simp)), ih fun y hy => h y (by simp [hy])⟩
  | n + 1, .tuple xs, h => by
    rw [PyData.eqv]
    rw [shp, List.all_eq_true] at h
    induction xs with
    | nil => simp [PyData.eqvAll]
    | cons x xs ih =>
      rw [PyData.eqvAll, Bool.and_eq_true]
      exact ⟨eqv_refl n x (h x (by simp)), ih fun y hy => h y (by simp [hy])⟩
  | 0, .dict _, h => by simp [shp] at h
  | n + 1, .dict _, h => by simp [shp] at h
theorem q_eqs {d : PyData} (h : shp 8 d = true) : dEq d d = .ok (.bool true) := by
  unfold dEq
  rw [h, eqv_refl 8 d h]
  rfl
theorem q_nes {d : PyData} (h : shp 8 d = true) : dNe d d = .ok (.bool false) := by
  unfold dNe
  rw [h, eqv_refl 8 d h]
  rfl
/-- a loop that keeps some -/
theorem forL_filter {α : Type} {t : Tg} {fb : En → SR} (env : List α → En) (dat : α → PyData) (p : α → Bool) (xs : List α) (h : ∀ (l : List α) (x : α), x ∈ xs → l.length ≤ xs.length → ∃ m, t (dat x) = some m ∧ fb (putD (env l) m) = .nx (env (if p x then l ++ [x] else l))) : forL t fb (xs.map dat) (env []) = .nx (env (xs.filter p)) := by
  have key : ∀ (pre : List α) (l : List α), pre.foldl (fun l x => if p x then l ++ [x] else l) l = l ++ pre.filter p := by
    intro pre
    induction pre with
    | nil => intro l; simp
    | cons a r ih =>
      intro l
      rw [List.foldl_cons, ih]
      cases hp : p a <;> simp [hp]
  have := forL_pre (t := t) (fb := fb) env dat (fun l x => if p x then l ++ [x] else l) xs [] (fun pre x post e => by
    rw [key]
    have hx : x ∈ xs := by rw [e]; simp
    have hl : (([] : List α) ++ pre.filter p).length ≤ xs.length := by
      have h1 := List.length_filter_le p pre
      have h2 := congrArg List.length e
      simp at h2 ⊢
      omega
    exact h _ x hx hl)
  rw [key] at this
  simpa using this
theorem enumD_range {α : Type} (f : α → PyData) (z : α) (xs : List α) : enumD 0 (xs.map f) = (List.range xs.length).map fun i => .tuple [nI i, f (xs.getD i z)] := by
  apply List.ext_getElem?
  intro i
  rw [enumD_at, List.getElem?_map, List.getElem?_map]
  by_cases h : i < xs.length
  · rw [List.getElem?_eq_getElem h, List.getElem?_range h]
    simp [List.getElem?_eq_getElem h]
  · rw [List.getElem?_eq_none (by omega), List.getElem?_eq_none (by simp; omega)]
    rfl
theorem count_cast (ms : List Nat) (m : Nat) : (ms.map fun x : Nat => (x : Int)).count (m : Int) = ms.count m := by
  induction ms with
  | nil => rfl
  | cons a r ih =>
    rw [List.map_cons, List.count_cons, List.count_cons, ih]
    by_cases h : a = m
    · simp [h]
    · have h2 : ¬ ((a : Int) = (m : Int)) := by omega
      simp [h, h2]
theorem nL_ints (ms : List Nat) : intsOf (ms.map nI) = some (ms.map fun x : Nat => (x : Int)) := by
  have := intsOf_map (ms.map fun x : Nat => (x : Int))
  rw [List.map_map] at this
  exact this
theorem count_nL (ms : List Nat) (m : Nat) : dCount (.list (ms.map nI)) (nI m) = .ok (nI (ms.count m)) := by
  show (match intsOf (ms.map nI) with | some ns => _ | none => _) = _
  rw [nL_ints]
  show Re.ok (PyData.int _) = _
  rw [count_cast]
theorem sum_cast (ms : List Nat) : (ms.map fun x : Nat => (x : Int)).sum = (ms.sum : Nat) := by
  induction ms with
  | nil => rfl
  | cons a r ih =>
    rw [List.map_cons, List.sum_cons, ih, List.sum_cons]
    omega
theorem sum_nL (ms : List Nat) : gSum [.list (ms.map nI)] = .ok (nI ms.sum) := by
  show (match intsOf (ms.map nI) with | some ns => _ | none => _) = _
  rw [nL_ints]
  show Re.ok (PyData.int _) = _
  rw [sum_cast]
/-- data of triples of ints -/
theorem em_three {α : Type} [DecidableEq α] {f : α → PyData} (a b c : α → Int) (hf : ∀ x, f x = .tuple [.int (a x), .int (b x), .int (c x)]) (hi : ∀ x y, a x = a y → b x = b y → c x = c y → x = y) (n : Nat) : Em (n + 1) f := ⟨fun x y => by
  rw [hf, hf]
  simp only [PyData.eqv, PyData.eqvAll, eqv_int, Bool.and_true]
  rw [Bool.eq_iff_iff, Bool.and_eq_true, Bool.and_eq_true]
  simp only [decide_eq_true_eq]
  exact ⟨fun z => hi x y (by simpa using z.1) (by simpa using z.2.1) (by simpa using z.2.2), fun z => by rw [z]; simp⟩, fun x => by
  rw [hf]
  show ([PyData.int (a x), PyData.int (b x), PyData.int (c x)].all (shp n)) = true
  cases n <;> rfl⟩
end DL

/-! # The plain side: dicts by numbers, of any kind; pop, insert -/
namespace DL
open PySem PySem.Spec L2 PyProof.Rows
section
variable {α : Type} (k : α → Nat) (v : α → PyData)
abbrev kdE (a : α) : PyData × PyData := (nI (k a), v a)
abbrev kdD (xs : List α) : PyData := .dict (xs.map (kdE k v))
def kHas (xs : List α) (m : Nat) : Bool := xs.any fun a => k a == m
theorem kd_scr (xs : List α) : scrOf (xs.map (kdE k v)) = none := by
  cases xs with
  | nil => rfl
  | cons e fd => rfl
theorem kd_key (a : α) (m : Nat) : keyB (kdE k v a).1 (nI m) = (k a == m) := by
  show ((k a : Int) == (m : Int)) = _
  rw [Bool.eq_iff_iff]
  simp
  omega
theorem kd_look (xs : List α) (m : Nat) : lookD (xs.map (kdE k v)) (nI m) = (xs.find? fun a => k a == m).map v := by
  unfold lookD
  induction xs with
  | nil => rfl
  | cons e fd ih =>
    rw [List.map_cons, List.find?_cons, List.find?_cons, kd_key]
    cases k e == m with
    | true => rfl
    | false => exact ih
theorem kd_some (xs : List α) (m : Nat) : (lookD (xs.map (kdE k v)) (nI m)).isSome = kHas k xs m := by
  rw [kd_look, Option.isSome_map]
  unfold kHas
  rw [Bool.eq_iff_iff, List.find?_isSome, List.any_eq_true]
theorem kd_in (xs : List α) (m : Nat) : dIn (nI m) (kdD k v xs) = .ok (.bool (kHas k xs m)) := by
  unfold dIn dInB
  simp only [kd_scr]
  rw [if_pos (show isKey (nI m) = true from rfl), kd_some]
  rfl
theorem kd_nin (xs : List α) (m : Nat) : dNotIn (nI m) (kdD k v xs) = .ok (.bool (!kHas k xs m)) := by
  unfold dNotIn dInB
  simp only [kd_scr]
  rw [if_pos (show isKey (nI m) = true from rfl), kd_some]
  rfl
theorem kd_at {xs : List α} {m : Nat} {a : α} (h : (xs.find? fun a => k a == m) = some a) : dSubs (kdD k v xs) (nI m) = .ok (v a) := by
  unfold dSubs
  simp only [kd_scr]
  rw [kd_look, h]
  rfl
theorem kd_put {xs : List α} {m : Nat} {d : PyData} (h : kHas k xs m = false) : putE (xs.map (kdE k v)) (nI m) d = xs.map (kdE k v) ++ [(nI m, d)] := by
  unfold putE
  have : ((xs.map (kdE k v)).any fun e => keyB e.1 (nI m)) = false := by
    rw [List.any_map, ← h]
    unfold kHas
    congr 1
    funext e
    exact kd_key k v e m
  rw [this]
  rfl
end
@[simp] theorem q_pop0 {i j : Nat} {ρ : En} : sPop0 i j ρ = match ρ[j]? with
  | some (.ow (.list (d :: ds))) => .nx ((ρ.set j (.ow (.list ds))).set i (.va d))
  | _ => .st := id rfl
@[simp] theorem q_ins0 {i : Nat} {fe : En → Re PyData} {ρ : En} : sIns0 i fe ρ = match ρ[i]? with
  | some (.ow (.list ds)) => SR.of (fe ρ) ρ fun d => if fits (ds.length + 1) then .nx (ρ.set i (.ow (.list (d :: ds)))) else .st
  | _ => .st := id rfl
theorem q_divN {a b : Nat} (h : 0 < b) (h2 : b < 1073741824) : dDiv (nI a) (nI b) = .ok (nI (a / b)) := q_div (by omega) (by omega)
theorem q_modI {m n : Int} (h : n ≠ 0) : dMod (.int m) (.int n) = .ok (.int (m.fmod n)) := q_mod' h
theorem q_divI {m n : Int} (h : n ≠ 0) (h2 : n.natAbs < 1073741824) : dDiv (.int m) (.int n) = .ok (.int (m.fdiv n)) := by
  show (if (n != 0 && decide (n.natAbs < 1073741824)) = true then _ else _) = _
  rw [if_pos (by simp [h]; omega)]
end DL

/-! # The plain side: one turn of a loop; an entry of a dict put anew -/
namespace DL
open PySem PySem.Spec L2 PyProof.Rows
theorem forL_go {t : Tg} {fb : En → SR} {d : PyData} {ds : List PyData} {ρ ρ' : En} {m : List (Nat × PyData)} (h1 : t d = some m) (h2 : fb (putD ρ m) = .nx ρ') : forL t fb (d :: ds) ρ = forL t fb ds ρ' := by
  show (match t d with | none => _ | some m => _) = _
  rw [h1]
  show (match fb (putD ρ m) with | .nx ρ' => _ | r => _) = _
  rw [h2]
theorem forL_ret {t : Tg} {fb : En → SR} {d r : PyData} {ds : List PyData} {ρ : En} {m : List (Nat × PyData)} (h1 : t d = some m) (h2 : fb (putD ρ m) = .rt r) : forL t fb (d :: ds) ρ = .rt r := by
  show (match t d with | none => _ | some m => _) = _
  rw [h1]
  show (match fb (putD ρ m) with | .nx ρ' => _ | r => _) = _
  rw [h2]
section
variable {α : Type} (k : α → Nat) (v : α → PyData)
theorem kd_rep {xs : List α} {m : Nat} {d : PyData} (h : kHas k xs m = true) : putE (xs.map (kdE k v)) (nI m) d = xs.map fun a => if k a == m then (nI (k a), d) else kdE k v a := by
  unfold putE
  have : ((xs.map (kdE k v)).any fun e => keyB e.1 (nI m)) = true := by
    rw [List.any_map, ← h]
    unfold kHas
    congr 1
    funext e
    exact kd_key k v e m
  rw [this, if_pos rfl, List.map_map]
  apply List.map_congr_left
  intro a _
  show (if keyB (kdE k v a).1 (nI m) = true then _ else _) = _
  rw [kd_key]
end
end DL

/-! # The plain side of what writes Notes -/
namespace DL
open PySem PySem.Spec L2 PyProof.Rows
section
variable {ρ ρ' : En} {i j : Nat} {d e : PyData} {C : Addr} {A : Ad} {st st' : NSt} {c : Value} {p : Option PyData}
def obS (C : Addr) : Option Sl → Option (Ad × NSt)
  | some (.ob D A st) => if D = C then some (A, st) else none
  | _ => none
@[simp] theorem q_obAt : obAt C ρ i = obS C ρ[i]? := id rfl
@[simp] theorem q_obS : obS C (some (.ob C A st)) = some (A, st) := by show (if C = C then some (A, st) else none) = _; rw [if_pos rfl]
def obR {α : Type} (o : Option (Ad × NSt)) (g : Ad → NSt → α) (z : α) : α := match o with
  | some (A, st) => g A st
  | none => z
@[simp] theorem q_obR {α : Type} {g : Ad → NSt → α} {z : α} : obR (some (A, st)) g z = g A st := id rfl
@[simp] theorem q_eOb {g : Ad → NSt → Re PyData} : eOb C i g ρ = obR (obS C ρ[i]?) g .st := id rfl
@[simp] theorem q_xOf {f : En → Re PyData} : xOf f ρ = ofRe (f ρ) ρ := id rfl
@[simp] theorem q_x2 {g : PyData → PyData → Re PyData} {fa fb : En → ME PyData} : x2 g fa fb ρ = (fa ρ).bind fun d ρ1 => (fb ρ1).bind fun e ρ2 => ofRe (g d e) ρ2 := id rfl
@[simp] theorem q_xIf {gc : En → Re Bool} {fa fb : En → ME PyData} : xIf gc fa fb ρ = (ofRe (gc ρ) ρ).bind fun b ρ1 => if b then fa ρ1 else fb ρ1 := id rfl
@[simp] theorem q_xLst1 {fa : En → ME PyData} : xLst1 fa ρ = (fa ρ).bind fun d ρ1 => .ok (.list [d]) ρ1 := id rfl
@[simp] theorem q_toBM {f : En → ME PyData} : toBM f ρ = (f ρ).bind fun d ρ1 => ofRe (asB d) ρ1 := id rfl
@[simp] theorem q_bOf {g : En → Re Bool} : bOf g ρ = ofRe (g ρ) ρ := id rfl
@[simp] theorem q_bNotM {g : En → ME Bool} : bNotM g ρ = (g ρ).bind fun b ρ1 => .ok (!b) ρ1 := id rfl
@[simp] theorem q_bOrM {ga gb : En → ME Bool} : bOrM ga gb ρ = (ga ρ).bind fun b ρ1 => if b then .ok true ρ1 else gb ρ1 := id rfl
def ofSR : SR → SM
  | .nx ρ' => .nx ρ'
  | .ex c p ρ' => .ex c p ρ'
  | _ => .st
@[simp] theorem q_mOf {f : En → SR} : mOf f ρ = ofSR (f ρ) := id rfl
@[simp] theorem q_sr_nx : ofSR (.nx ρ) = .nx ρ := id rfl
@[simp] theorem q_sr_ex : ofSR (.ex c p ρ) = .ex c p ρ := id rfl
@[simp] theorem q_mSeq {f g : En → SM} : mSeq f g ρ = (f ρ).thn g := id rfl
@[simp] theorem q_mSkip : mSkip ρ = .nx ρ := id rfl
@[simp] theorem q_mRet {fa : En → ME PyData} : mRet fa ρ = SM.of (fa ρ) .rt := id rfl
@[simp] theorem q_mExpr {fa : En → ME PyData} : mExpr fa ρ = SM.of (fa ρ) fun _ ρ1 => .nx ρ1 := id rfl
@[simp] theorem q_mSet {fa : En → ME PyData} : mSet i fa ρ = SM.of (fa ρ) fun d ρ1 => .nx (ρ1.set i (.va d)) := id rfl
@[simp] theorem q_mIf {gc : En → ME Bool} {f g : En → SM} : mIf gc f g ρ = SM.of (gc ρ) fun b ρ1 => if b then f ρ1 else g ρ1 := id rfl
@[simp] theorem q_mFgt {l : List Nat} {f : En → SM} : mFgt l f ρ = (f ρ).thn fun ρ' => .nx (fgt l ρ') := id rfl
@[simp] theorem q_mFor {fi : En → Re (List PyData)} {t : Tg} {fb : En → SM} : mFor fi t fb ρ = SM.of (ofRe (fi ρ) ρ) fun ds ρ1 => forM t fb ds ρ1 := id rfl
@[simp] theorem q_mTold {fa : En → ME PyData} : mTold C i fa ρ = SM.of (fa ρ) fun d ρ1 => obR (obS C ρ1[i]?) (fun A st => .nx (ρ1.set i (.ob C A { st with told := d }))) .st := id rfl
@[simp] theorem q_mAppC {fe : En → Re PyData} : mAppC C i fe ρ = obR (obS C ρ[i]?) (fun A st => SM.of (ofRe (fe ρ) ρ) fun d ρ1 => if fits (st.calls.length + 1) then .nx (ρ1.set i (.ob C A { st with calls := st.calls ++ [d] })) else .st) .st := id rfl
@[simp] theorem q_mAppB {fe : En → Re PyData} : mAppB C i fe ρ = obR (obS C ρ[i]?) (fun A st => SM.of (ofRe (fe ρ) ρ) fun d ρ1 => if fits (st.before.length + 1) then .nx (ρ1.set i (.ob C A { st with before := st.before ++ [d] })) else .st) .st := id rfl
def popR (o : Option PyData) (k : PyData → ME PyData) : ME PyData := match o with
  | some d => k d
  | none => .st
@[simp] theorem q_popR {k : PyData → ME PyData} : popR (some d) k = k d := id rfl
@[simp] theorem q_xPopC : xPopC C i ρ = obR (obS C ρ[i]?) (fun A st => popR st.calls.getLast? fun d => .ok d (ρ.set i (.ob C A { st with calls := st.calls.dropLast }))) .st := id rfl
@[simp] theorem q_xPopB : xPopB C i ρ = obR (obS C ρ[i]?) (fun A st => popR st.before.getLast? fun d => .ok d (ρ.set i (.ob C A { st with before := st.before.dropLast }))) .st := id rfl
def moR (m : MO) (i : Nat) (C : Addr) (A : Ad) (ρ : En) : ME PyData := match m with
  | .ok d st' => .ok d (ρ.set i (.ob C A st'))
  | .ex c p st' => .ex c p (ρ.set i (.ob C A st'))
  | .st => .st
@[simp] theorem q_moR_ok : moR (.ok d st) i C A ρ = .ok d (ρ.set i (.ob C A st)) := id rfl
@[simp] theorem q_moR_ex : moR (.ex c p st) i C A ρ = .ex c p (ρ.set i (.ob C A st)) := id rfl
@[simp] theorem q_xGo {g : Ad → NSt → List PyData → MO} {fs : En → Re (List PyData)} : xGo C i g fs ρ = obR (obS C ρ[i]?) (fun A st => (ofRe (fs ρ) ρ).bind fun ds _ => moR (g A st ds) i C A ρ) .st := by
  unfold xGo obR
  rw [q_obAt]
  cases obS C ρ[i]? with
  | none => rfl
  | some q => rfl
/-! defs -/
theorem fm_rt {n L : Nat} {fb : En → SM} {ds : List PyData} (hl : ds.length = n) (h : ∃ ρ', fb (.ob C A st :: (ds.map .va ++ List.replicate (L - n - 1) .no)) = .rt d ρ' ∧ ρ'[0]? = some (.ob C A st')) : fnM C n L fb A st ds = .ok d st' := by
  obtain ⟨ρ', h1, h2⟩ := h
  unfold fnM
  rw [if_pos hl, h1]
  unfold toMO
  dsimp only
  rw [q_obAt, h2, q_obS]
  dsimp only
  rw [if_pos rfl]
theorem fm_nx {n L : Nat} {fb : En → SM} {ds : List PyData} (hl : ds.length = n) (h : ∃ ρ', fb (.ob C A st :: (ds.map .va ++ List.replicate (L - n - 1) .no)) = .nx ρ' ∧ ρ'[0]? = some (.ob C A st')) : fnM C n L fb A st ds = .ok .none st' := by
  obtain ⟨ρ', h1, h2⟩ := h
  unfold fnM
  rw [if_pos hl, h1]
  unfold toMO
  dsimp only
  rw [q_obAt, h2, q_obS]
  dsimp only
  rw [if_pos rfl]
theorem fm_ex {n L : Nat} {fb : En → SM} {ds : List PyData} (hl : ds.length = n) (h : ∃ ρ', fb (.ob C A st :: (ds.map .va ++ List.replicate (L - n - 1) .no)) = .ex c p ρ' ∧ ρ'[0]? = some (.ob C A st')) : fnM C n L fb A st ds = .ex c p st' := by
  obtain ⟨ρ', h1, h2⟩ := h
  unfold fnM
  rw [if_pos hl, h1]
  unfold toMO
  dsimp only
  rw [q_obAt, h2, q_obS]
  dsimp only
  rw [if_pos rfl]
theorem fr_ok {n L : Nat} {fe : En → Re PyData} {ds : List PyData} {r : Re PyData} (hl : ds.length = n) (h : fe (.ob C A st :: (ds.map .va ++ List.replicate (L - n - 1) .no)) = r) : fnR C n L fe A st ds = r := by
  unfold fnR
  rw [if_pos hl, h]
/-! loops -/
theorem forM_nil {t : Tg} {fb : En → SM} : forM t fb [] ρ = .nx ρ := rfl
theorem forM_go {t : Tg} {fb : En → SM} {ds : List PyData} {m : List (Nat × PyData)} (h1 : t d = some m) (h2 : fb (putD ρ m) = .nx ρ') : forM t fb (d :: ds) ρ = forM t fb ds ρ' := by
  show (match t d with | none => _ | some m => _) = _
  rw [h1]
  show (fb (putD ρ m)).thn _ = _
  rw [h2]
  rfl
theorem forM_same {α : Type} {t : Tg} {fb : En → SM} (dat : α → PyData) : ∀ (xs : List α), (∀ x ∈ xs, ∃ m, t (dat x) = some m ∧ fb (putD ρ m) = .nx ρ) → forM t fb (xs.map dat) ρ = .nx ρ
  | [], _ => rfl
  | x :: xs, h => by
    obtain ⟨m, h1, h2⟩ := h x (by simp)
    rw [List.map_cons, forM_go h1 h2]
    exact forM_same dat xs fun y hy => h y (by simp [hy])
end
end DL

/-! # Points and tellings, without any program -/
namespace GB
abbrev Tel := Nat × Nat × Int
abbrev Lnk := Nat × Int
/-- a link leads from u to v and tells m -/
def Lk (ts : List Tel) (l : Lnk) (u v : Nat) (m : Int) : Prop := ∃ a b c, ts[l.1]? = some (a, b, c) ∧ ((l.2 = 1 ∧ u = a ∧ v = b ∧ m = c) ∨ (l.2 = -1 ∧ u = b ∧ v = a ∧ m = -c))
/-- links lead from u to v and come to s -/
def Ch (ts : List Tel) : List Lnk → Nat → Nat → Int → Prop
  | [], u, v, s => u = v ∧ s = 0
  | l :: ls, u, v, s => ∃ w m r, Lk ts l u w m ∧ Ch ts ls w v r ∧ s = m + r
theorem Ch.app {ts : List Tel} : ∀ {ls ks : List Lnk} {u v w : Nat} {s r : Int}, Ch ts ls u v s → Ch ts ks v w r → Ch ts (ls ++ ks) u w (s + r)
  | [], ks, u, v, w, s, r, h1, h2 => by
    obtain ⟨rfl, rfl⟩ := h1
    simpa using h2
  | l :: ls, ks, u, v, w, s, r, h1, h2 => by
    obtain ⟨x, m, q, a, b, rfl⟩ := h1
    exact ⟨x, m, q + r, a, b.app h2, by omega⟩
theorem Ch.cut {ts : List Tel} : ∀ {ls ks : List Lnk} {u w : Nat} {s : Int}, Ch ts (ls ++ ks) u w s → ∃ v q r, Ch ts ls u v q ∧ Ch ts ks v w r ∧ s = q + r
  | [], ks, u, w, s, h => ⟨u, 0, s, ⟨rfl, rfl⟩, h, by omega⟩
  | l :: ls, ks, u, w, s, h => by
    obtain ⟨x, m, q, a, b, rfl⟩ := h
    obtain ⟨v, q1, r1, h1, h2, rfl⟩ := Ch.cut b
    exact ⟨v, m + q1, r1, ⟨x, m, q1, a, h1, rfl⟩, h2, by omega⟩
theorem Ch.one {ts : List Tel} {l : Lnk} {u v : Nat} {m : Int} (h : Lk ts l u v m) : Ch ts [l] u v m := ⟨v, m, 0, h, ⟨rfl, rfl⟩, by omega⟩
theorem Ch.one' {ts : List Tel} {l : Lnk} {u v : Nat} {m : Int} (h : Ch ts [l] u v m) : Lk ts l u v m := by
  obtain ⟨w, a, r, h1, ⟨rfl, rfl⟩, rfl⟩ := h
  simpa using h1
theorem Lk.rev {ts : List Tel} {l : Lnk} {u v : Nat} {m : Int} (h : Lk ts l u v m) : Lk ts (l.1, -l.2) v u (-m) := by
  obtain ⟨a, b, c, e, h | h⟩ := h
  · obtain ⟨h1, rfl, rfl, rfl⟩ := h
    exact ⟨_, _, _, e, .inr ⟨by simp [h1], rfl, rfl, rfl⟩⟩
  · obtain ⟨h1, rfl, rfl, rfl⟩ := h
    exact ⟨_, _, _, e, .inl ⟨by simp [h1], rfl, rfl, by omega⟩⟩
def revL (ls : List Lnk) : List Lnk := (ls.map fun l => (l.1, -l.2)).reverse
theorem Ch.rev {ts : List Tel} : ∀ {ls : List Lnk} {u v : Nat} {s : Int}, Ch ts ls u v s → Ch ts (revL ls) v u (-s)
  | [], u, v, s, h => by
    obtain ⟨rfl, rfl⟩ := h
    exact ⟨rfl, rfl⟩
  | l :: ls, u, v, s, h => by
    obtain ⟨w, m, r, h1, h2, rfl⟩ := h
    have q := (Ch.rev h2).app (Ch.one h1.rev)
    unfold revL at q ⊢
    rw [List.map_cons, List.reverse_cons]
    rw [show -(m + r) = -r + -m by omega]
    exact q
/-- points between which some chain leads -/
def Conn (ts : List Tel) (u v : Nat) : Prop := ∃ ls s, Ch ts ls u v s
theorem Conn.refl {ts : List Tel} (u : Nat) : Conn ts u u := ⟨[], 0, rfl, rfl⟩
theorem Conn.symm {ts : List Tel} {u v : Nat} (h : Conn ts u v) : Conn ts v u := by
  obtain ⟨ls, s, h⟩ := h
  exact ⟨_, _, h.rev⟩
theorem Conn.trans {ts : List Tel} {u v w : Nat} (h : Conn ts u v) (k : Conn ts v w) : Conn ts u w := by
  obtain ⟨ls, s, h⟩ := h
  obtain ⟨ks, r, k⟩ := k
  exact ⟨_, _, h.app k⟩
theorem Conn.tell {ts : List Tel} {i : Nat} {a b : Nat} {m : Int} (h : ts[i]? = some (a, b, m)) : Conn ts a b := ⟨[(i, 1)], m, Ch.one ⟨a, b, m, h, .inl ⟨rfl, rfl, rfl, rfl⟩⟩⟩
/-- whatever goes along every telling goes along every chain -/
theorem Ch.keep {ts : List Tel} {P : Nat → Prop} (h : ∀ (t : Tel), t ∈ ts → (P t.1 ↔ P t.2.1)) : ∀ {ls : List Lnk} {u v : Nat} {s : Int}, Ch ts ls u v s → (P u ↔ P v)
  | [], u, v, s, ⟨e, _⟩ => by rw [e]
  | l :: ls, u, v, s, ⟨w, m, r, h1, h2, _⟩ => by
    have q := Ch.keep h h2
    obtain ⟨a, b, c, e, h1 | h1⟩ := h1
    · obtain ⟨_, rfl, rfl, _⟩ := h1
      exact (h _ (List.mem_of_getElem? e)).trans q
    · obtain ⟨_, rfl, rfl, _⟩ := h1
      exact (h _ (List.mem_of_getElem? e)).symm.trans q
theorem Conn.keep {ts : List Tel} {P : Nat → Prop} (h : ∀ (t : Tel), t ∈ ts → (P t.1 ↔ P t.2.1)) {u v : Nat} (c : Conn ts u v) : P u ↔ P v := by
  obtain ⟨ls, s, c⟩ := c
  exact c.keep h
/-- by levels: a chain comes to the difference -/
theorem Ch.level {ts : List Tel} {f : Nat → Int} (h : ∀ t ∈ ts, f t.2.1 - f t.1 = t.2.2) : ∀ {ls : List Lnk} {u v : Nat} {s : Int}, Ch ts ls u v s → s = f v - f u
  | [], u, v, s, ⟨e, z⟩ => by rw [e, z]; omega
  | l :: ls, u, v, s, ⟨w, m, r, h1, h2, z⟩ => by
    have q := Ch.level h h2
    obtain ⟨a, b, c, e, h1 | h1⟩ := h1
    · obtain ⟨_, rfl, rfl, rfl⟩ := h1
      have := h _ (List.mem_of_getElem? e)
      dsimp only at this
      omega
    · obtain ⟨_, rfl, rfl, rfl⟩ := h1
      have := h _ (List.mem_of_getElem? e)
      dsimp only at this
      omega
/-- of fewest links: no telling twice -/
theorem Ch.short {ts : List Tel} {ls : List Lnk} {u v : Nat} {s : Int} (h : Ch ts ls u v s) (m : ∀ ks r, Ch ts ks u v r → ls.length ≤ ks.length) : (ls.map (·.1)).Nodup := by
  rw [List.nodup_iff_pairwise_ne, List.pairwise_map]
  rw [List.pairwise_iff_getElem]
  intro i j hi hj hij e
  have s1 : ls = ls.take i ++ ls[i] :: (ls.drop (i + 1)) := by
    rw [← List.drop_eq_getElem_cons hi, List.take_append_drop]
  have s2 : ls.drop (i + 1) = (ls.drop (i + 1)).take (j - i - 1) ++ ls[j] :: ls.drop (j + 1) := by
    have : ls[j] :: ls.drop (j + 1) = (ls.drop (i + 1)).drop (j - i - 1) := by
      rw [List.drop_drop, show i + 1 + (j - i - 1) = j by omega, ← List.drop_eq_getElem_cons hj]
    rw [this, List.take_append_drop]
  have h' := h
  rw [s1, s2] at h'
  obtain ⟨w1, q1, r1, c1, c2, _⟩ := h'.cut
  obtain ⟨w2, m1, r2, l1, c3, _⟩ := c2
  obtain ⟨w3, q3, r3, c4, c5, _⟩ := c3.cut
  obtain ⟨w4, m2, r4, l2, c6, _⟩ := c5
  have len : (ls.take i).length + (ls.drop (j + 1)).length + 1 ≤ ls.length - 1 + 1 - 1 + 1 := by
    rw [List.length_take, List.length_drop]
    omega
  obtain ⟨a, b, c, e1, k1⟩ := l1
  obtain ⟨a', b', c', e2, k2⟩ := l2
  rw [← e, e1] at e2
  cases e2
  have e1' : ts[(ls[i]).1]? = some (a, b, c) := e1
  have big : ∀ ks r, Ch ts ks u v r → ls.length ≤ ks.length := m
  rcases k1 with ⟨g1, x1, x2, _⟩ | ⟨g1, x1, x2, _⟩ <;> rcases k2 with ⟨g2, y1, y2, _⟩ | ⟨g2, y1, y2, _⟩
  · -- the same way: one of both will do
    have l1' : Lk ts ls[i] w1 w2 c := ⟨a, b, c, e1, .inl ⟨g1, x1, x2, rfl⟩⟩
    have e24 : w2 = w4 := by rw [x2, y2]
    subst e24
    have := big _ _ ((c1.app (Ch.one l1')).app c6)
    simp only [List.length_append, List.length_take, List.length_drop, List.length_singleton] at this
    omega
  · have e14 : w1 = w4 := by rw [x1, y2]
    subst e14
    have := big _ _ (c1.app c6)
    simp only [List.length_append, List.length_take, List.length_drop] at this
    omega
  · have e14 : w1 = w4 := by rw [x1, y2]
    subst e14
    have := big _ _ (c1.app c6)
    simp only [List.length_append, List.length_take, List.length_drop] at this
    omega
  · have l1' : Lk ts ls[i] w1 w2 (-c) := ⟨a, b, c, e1, .inr ⟨g1, x1, x2, rfl⟩⟩
    have e24 : w2 = w4 := by rw [x2, y2]
    subst e24
    have := big _ _ ((c1.app (Ch.one l1')).app c6)
    simp only [List.length_append, List.length_take, List.length_drop, List.length_singleton] at this
    omega
/-! ## the ties of a point, in the order of the tellings -/
abbrev Tie := Nat × Int × Nat × Int
def tieAt (u i : Nat) (t : Tel) : List Tie := (if t.1 = u then [(i, 1, t.2.1, t.2.2)] else []) ++ (if t.2.1 = u then [(i, -1, t.1, -t.2.2)] else [])
def tiesFrom (u : Nat) : Nat → List Tel → List Tie
  | _, [] => []
  | i, t :: ts => tieAt u i t ++ tiesFrom u (i + 1) ts
def tiesN (ts : List Tel) (u : Nat) : List Tie := tiesFrom u 0 ts
theorem mem_tieAt {u i j : Nat} {t : Tel} {g : Int} {o : Nat} {m : Int} : (j, g, o, m) ∈ tieAt u i t ↔ j = i ∧ ((g = 1 ∧ u = t.1 ∧ o = t.2.1 ∧ m = t.2.2) ∨ (g = -1 ∧ u = t.2.1 ∧ o = t.1 ∧ m = -t.2.2)) := by
  unfold tieAt
  by_cases h1 : t.1 = u <;> by_cases h2 : t.2.1 = u <;> simp [h1, h2] <;> grind
theorem mem_tiesFrom {u : Nat} {g : Int} {o : Nat} {m : Int} : ∀ (ts : List Tel) (i j : Nat), (j, g, o, m) ∈ tiesFrom u i ts ↔ ∃ k, j = i + k ∧ ∃ a b c, ts[k]? = some (a, b, c) ∧ ((g = 1 ∧ u = a ∧ o = b ∧ m = c) ∨ (g = -1 ∧ u = b ∧ o = a ∧ m = -c))
  | [], i, j => by simp [tiesFrom]
  | t :: ts, i, j => by
    unfold tiesFrom
    rw [List.mem_append, mem_tieAt, mem_tiesFrom ts (i + 1) j]
    constructor
    · rintro (⟨rfl, h⟩ | ⟨k, rfl, h⟩)
      · exact ⟨0, rfl, t.1, t.2.1, t.2.2, rfl, h⟩
      · exact ⟨k + 1, by omega, by simpa using h⟩
    · rintro ⟨k, rfl, a, b, c, e, h⟩
      cases k with
      | zero =>
        simp at e
        subst e
        exact .inl ⟨rfl, h⟩
      | succ k => exact .inr ⟨k, by omega, a, b, c, by simpa using e, h⟩
theorem mem_tiesN {ts : List Tel} {u i : Nat} {g : Int} {o : Nat} {m : Int} : (i, g, o, m) ∈ tiesN ts u ↔ Lk ts (i, g) u o m := by
  unfold tiesN
  rw [mem_tiesFrom]
  constructor
  · rintro ⟨k, h, a, b, c, e, q⟩
    rw [Nat.zero_add] at h
    subst h
    exact ⟨a, b, c, e, q⟩
  · rintro ⟨a, b, c, e, q⟩
    exact ⟨i, by omega, a, b, c, e, q⟩
/-! ## walked -/
abbrev Ent := Nat × List Lnk × Int
def hasK (fd : List Ent) (v : Nat) : Bool := fd.any fun e => e.1 == v
def getK (fd : List Ent) (v : Nat) : List Lnk × Int := ((fd.find? fun e => e.1 == v).map (·.2)).getD ([], 0)
def stT (pt : Nat) (st : List Ent × List Nat) (t : Tie) : List Ent × List Nat :=
  if hasK st.1 t.2.2.1 then st else (st.1 ++ [(t.2.2.1, (getK st.1 pt).1 ++ [(t.1, t.2.1)], (getK st.1 pt).2 + t.2.2.2)], st.2 ++ [t.2.2.1])
def stP (ts : List Tel) (st : List Ent × List Nat) (pt : Nat) : List Ent × List Nat := (tiesN ts pt).foldl (stT pt) st
def rnd (ts : List Tel) (fd : List Ent) (rim : List Nat) : List Ent × List Nat := rim.foldl (stP ts) (fd, [])
def bfs (ts : List Tel) : Nat → List Ent → List Nat → List Ent
  | 0, fd, _ => fd
  | k + 1, fd, rim => if rim.isEmpty then fd else bfs ts k (rnd ts fd rim).1 (rnd ts fd rim).2
def wlk (ts : List Tel) (s : Nat) : List Ent := bfs ts 100 [(s, [], 0)] [s]
theorem hasK_iff {fd : List Ent} {v : Nat} : hasK fd v = true ↔ ∃ e ∈ fd, e.1 = v := by
  unfold hasK
  rw [List.any_eq_true]
  simp
theorem hasK_false {fd : List Ent} {v : Nat} : hasK fd v = false ↔ ∀ e ∈ fd, e.1 ≠ v := by
  cases h : hasK fd v with
  | true =>
    obtain ⟨e, he, q⟩ := hasK_iff.1 h
    constructor
    · intro z; cases z
    · intro z; exact absurd q (z e he)
  | false =>
    refine ⟨fun _ e he q => ?_, fun _ => rfl⟩
    rw [hasK_iff.2 ⟨e, he, q⟩] at h
    cases h
theorem getK_of : ∀ {fd : List Ent} {e : Ent}, e ∈ fd → (fd.map (·.1)).Nodup → getK fd e.1 = e.2
  | x :: fd, e, he, nd => by
    unfold getK
    rw [List.find?_cons]
    by_cases h : x.1 = e.1
    · have : (x.1 == e.1) = true := by simpa using h
      rw [this]
      rcases List.mem_cons.1 he with rfl | he
      · rfl
      · exfalso
        rw [List.map_cons, List.nodup_cons] at nd
        exact nd.1 (by rw [h]; exact List.mem_map.2 ⟨e, he, rfl⟩)
    · have : (x.1 == e.1) = false := by simpa using h
      rw [this]
      have he : e ∈ fd := by
        rcases List.mem_cons.1 he with rfl | he
        · exact absurd rfl h
        · exact he
      rw [List.map_cons, List.nodup_cons] at nd
      exact getK_of he nd.2
/-- within a round: the old entries, then new ones of the next length -/
structure Mid (ts : List Tel) (s k : Nat) (fd : List Ent) (st : List Ent × List Nat) : Prop where
  nd : (st.1.map (·.1)).Nodup
  ex : ∃ new : List Ent, st.1 = fd ++ new ∧ st.2 = new.map (·.1) ∧ ∀ e ∈ new, Ch ts e.2.1 s e.1 e.2.2 ∧ e.2.1.length = k + 1
theorem Mid.step {ts : List Tel} {s k : Nat} {fd : List Ent} {st : List Ent × List Nat} (M : Mid ts s k fd st) {p : Ent} (hp : p ∈ fd) (hc : Ch ts p.2.1 s p.1 p.2.2) (hl : p.2.1.length = k) {t : Tie} (ht : t ∈ tiesN ts p.1) : Mid ts s k fd (stT p.1 st t) ∧ hasK (stT p.1 st t).1 t.2.2.1 = true ∧ ∀ v, hasK st.1 v = true → hasK (stT p.1 st t).1 v = true := by
  obtain ⟨i, g, o, m⟩ := t
  unfold stT
  dsimp only
  cases h : hasK st.1 o with
  | true => exact ⟨M, h, fun v hv => hv⟩
  | false =>
    rw [if_neg (by simp)]
    obtain ⟨new, e1, e2, e3⟩ := M.ex
    have hin : p ∈ st.1 := by rw [e1]; exact List.mem_append.2 (.inl hp)
    have hg := getK_of hin M.nd
    rw [hg]
    refine ⟨⟨?_, new ++ [(o, p.2.1 ++ [(i, g)], p.2.2 + m)], by rw [e1, List.append_assoc], by rw [e2, List.map_append]; rfl, fun e he => ?_⟩, ?_, fun v hv => ?_⟩
    · rw [List.map_append, List.nodup_append]
      refine ⟨M.nd, by simp, fun a ha b hb => ?_⟩
      simp at hb
      subst hb
      intro z
      subst z
      obtain ⟨e, he, q⟩ := List.mem_map.1 ha
      exact hasK_false.1 h e he q
    · rcases List.mem_append.1 he with he | he
      · exact e3 e he
      · rw [List.mem_singleton.1 he]
        exact ⟨hc.app (Ch.one (mem_tiesN.1 ht)), by simp [hl]⟩
    · rw [hasK_iff]
      exact ⟨_, List.mem_append.2 (.inr (List.mem_singleton.2 rfl)), rfl⟩
    · rw [hasK_iff] at hv ⊢
      obtain ⟨e, he, q⟩ := hv
      exact ⟨e, List.mem_append.2 (.inl he), q⟩
theorem Mid.steps {ts : List Tel} {s k : Nat} {fd : List Ent} {p : Ent} (hp : p ∈ fd) (hc : Ch ts p.2.1 s p.1 p.2.2) (hl : p.2.1.length = k) : ∀ (l : List Tie) (st : List Ent × List Nat), (∀ t ∈ l, t ∈ tiesN ts p.1) → Mid ts s k fd st → Mid ts s k fd (l.foldl (stT p.1) st) ∧ (∀ t ∈ l, hasK (l.foldl (stT p.1) st).1 t.2.2.1 = true) ∧ ∀ v, hasK st.1 v = true → hasK (l.foldl (stT p.1) st).1 v = true
  | [], st, _, M => ⟨M, fun t ht => by simp at ht, fun v hv => hv⟩
  | t :: l, st, h, M => by
    obtain ⟨a, b, c⟩ := M.step hp hc hl (h t (by simp))
    obtain ⟨a', b', c'⟩ := Mid.steps hp hc hl l _ (fun x hx => h x (by simp [hx])) a
    refine ⟨a', fun x hx => ?_, fun v hv => c' v (c v hv)⟩
    rcases List.mem_cons.1 hx with rfl | hx
    · exact c' _ b
    · exact b' x hx
theorem Mid.points {ts : List Tel} {s k : Nat} {fd : List Ent} : ∀ (l : List Nat) (st : List Ent × List Nat), (∀ v ∈ l, ∃ p ∈ fd, p.1 = v ∧ Ch ts p.2.1 s p.1 p.2.2 ∧ p.2.1.length = k) → Mid ts s k fd st → Mid ts s k fd (l.foldl (stP ts) st) ∧ (∀ v ∈ l, ∀ t ∈ tiesN ts v, hasK (l.foldl (stP ts) st).1 t.2.2.1 = true) ∧ ∀ v, hasK st.1 v = true → hasK (l.foldl (stP ts) st).1 v = true
  | [], st, _, M => ⟨M, fun t ht => by simp at ht, fun v hv => hv⟩
  | v :: l, st, h, M => by
    obtain ⟨p, hp, rfl, hc, hl⟩ := h v (by simp)
    obtain ⟨a, b, c⟩ := Mid.steps hp hc hl (tiesN ts p.1) st (fun t ht => ht) M
    obtain ⟨a', b', c'⟩ := Mid.points l (stP ts st p.1) (fun x hx => h x (by simp [hx])) a
    refine ⟨a', fun x hx t ht => ?_, fun v hv => c' v (c v hv)⟩
    rcases List.mem_cons.1 hx with rfl | hx
    · exact c' _ (b t ht)
    · exact b' x hx t ht
/-- at the head of a round -/
structure Lev (ts : List Tel) (s k : Nat) (fd : List Ent) (rim : List Nat) : Prop where
  nd : (fd.map (·.1)).Nodup
  ch : ∀ e ∈ fd, Ch ts e.2.1 s e.1 e.2.2 ∧ e.2.1.length ≤ k
  rim : ∀ v, v ∈ rim ↔ ∃ e ∈ fd, e.1 = v ∧ e.2.1.length = k
  all : ∀ ls v x, Ch ts ls s v x → ls.length ≤ k → ∃ e ∈ fd, e.1 = v ∧ e.2.1.length ≤ ls.length
theorem snoc {α : Type} (l : List α) (h : l ≠ []) : ∃ k x, l = k ++ [x] := ⟨l.dropLast, l.getLast h, (List.dropLast_concat_getLast h).symm⟩
theorem Lev.next {ts : List Tel} {s k : Nat} {fd : List Ent} {rim : List Nat} (L : Lev ts s k fd rim) : Lev ts s (k + 1) (rnd ts fd rim).1 (rnd ts fd rim).2 ∧ (rnd ts fd rim).1.length = fd.length + (rnd ts fd rim).2.length := by
  have M0 : Mid ts s k fd (fd, []) := ⟨L.nd, [], by simp, rfl, fun e he => by simp at he⟩
  obtain ⟨M, hn, hk⟩ := Mid.points rim (fd, []) (fun v hv => by
    obtain ⟨e, he, q, hl⟩ := (L.rim v).1 hv
    exact ⟨e, he, q, (L.ch e he).1, hl⟩) M0
  obtain ⟨new, e1, e2, e3⟩ := M.ex
  have e1 : (rnd ts fd rim).1 = fd ++ new := e1
  have e2 : (rnd ts fd rim).2 = new.map (·.1) := e2
  refine ⟨⟨M.nd, fun e he => ?_, fun v => ?_, fun ls v x hc hl => ?_⟩, by rw [e1, e2, List.length_append, List.length_map]⟩
  · rw [e1] at he
    rcases List.mem_append.1 he with he | he
    · have := L.ch e he
      exact ⟨this.1, by omega⟩
    · have := e3 e he
      exact ⟨this.1, by omega⟩
  · rw [e1, e2]
    constructor
    · intro hv
      obtain ⟨e, he, q⟩ := List.mem_map.1 hv
      exact ⟨e, List.mem_append.2 (.inr he), q, (e3 e he).2⟩
    · rintro ⟨e, he, q, hl⟩
      rcases List.mem_append.1 he with he | he
      · have := (L.ch e he).2
        omega
      · exact List.mem_map.2 ⟨e, he, q⟩
  · by_cases hs : ls.length ≤ k
    · obtain ⟨e, he, q, h⟩ := L.all ls v x hc hs
      exact ⟨e, by rw [e1]; exact List.mem_append.2 (.inl he), q, h⟩
    · obtain ⟨ks, l, rfl⟩ := snoc ls (by intro z; subst z; simp at hs)
      obtain ⟨w, q1, r1, c1, c2, _⟩ := hc.cut
      simp only [List.length_append, List.length_singleton] at hl hs
      obtain ⟨e, he, q, h⟩ := L.all ks w q1 c1 (by omega)
      by_cases hlk : e.2.1.length = k
      · have hv : hasK (rnd ts fd rim).1 v = true := hn w ((L.rim w).2 ⟨e, he, q, hlk⟩) (l.1, l.2, v, r1) (mem_tiesN.2 c2.one')
        obtain ⟨e', he', q'⟩ := hasK_iff.1 hv
        refine ⟨e', he', q', ?_⟩
        rw [e1] at he'
        rcases List.mem_append.1 he' with he' | he'
        · have := (L.ch e' he').2
          simp only [List.length_append, List.length_singleton]
          omega
        · have := (e3 e' he').2
          simp only [List.length_append, List.length_singleton]
          omega
      · have hce := (L.ch e he)
        rw [q] at hce
        obtain ⟨e', he', q', h'⟩ := L.all _ v _ (hce.1.app c2) (by
          simp only [List.length_append, List.length_singleton]
          omega)
        refine ⟨e', by rw [e1]; exact List.mem_append.2 (.inl he'), q', ?_⟩
        simp only [List.length_append, List.length_singleton] at h' ⊢
        omega
theorem Lev.done {ts : List Tel} {s k : Nat} {fd : List Ent} (L : Lev ts s k fd []) : ∀ (n : Nat) (ls : List Lnk) (v : Nat) (x : Int), ls.length ≤ n → Ch ts ls s v x → ∃ e ∈ fd, e.1 = v ∧ e.2.1.length ≤ ls.length
  | 0, ls, v, x, hn, hc => L.all ls v x hc (by omega)
  | n + 1, ls, v, x, hn, hc => by
    by_cases hs : ls.length ≤ k
    · exact L.all ls v x hc hs
    · obtain ⟨ks, l, rfl⟩ := snoc ls (by intro z; subst z; simp at hs)
      obtain ⟨w, q1, r1, c1, c2, _⟩ := hc.cut
      simp only [List.length_append, List.length_singleton] at hn hs
      obtain ⟨e, he, q, h⟩ := Lev.done L n ks w q1 (by omega) c1
      have hlk : e.2.1.length ≠ k := fun z => by
        have := (L.rim e.1).2 ⟨e, he, rfl, z⟩
        simp at this
      have hce := (L.ch e he)
      rw [q] at hce
      obtain ⟨e', he', q', h'⟩ := L.all _ v _ (hce.1.app c2) (by
        simp only [List.length_append, List.length_singleton]
        omega)
      refine ⟨e', he', q', ?_⟩
      simp only [List.length_append, List.length_singleton] at h' ⊢
      omega
/-- what a walk from s tells -/
structure Wk (ts : List Tel) (s : Nat) (fd : List Ent) : Prop where
  nd : (fd.map (·.1)).Nodup
  ch : ∀ e ∈ fd, Ch ts e.2.1 s e.1 e.2.2
  all : ∀ ls v x, Ch ts ls s v x → ∃ e ∈ fd, e.1 = v ∧ e.2.1.length ≤ ls.length
/-- the tellings stand in a row of n numbers -/
def Fit (n : Nat) (ts : List Tel) : Prop := ∀ t ∈ ts, t.1 ≤ n ∧ t.2.1 ≤ n
theorem Ch.fit {n : Nat} {ts : List Tel} (h : Fit n ts) {ls : List Lnk} {u v : Nat} {s : Int} (hu : u ≤ n) (c : Ch ts ls u v s) : v ≤ n :=
  (c.keep (P := fun u => u ≤ n) (fun t ht => ⟨fun _ => (h t ht).2, fun _ => (h t ht).1⟩)).1 hu
theorem nodup_le {n : Nat} : ∀ {l : List Nat}, l.Nodup → (∀ x ∈ l, x < n) → l.length ≤ n := by
  induction n with
  | zero =>
    intro l _ h
    cases l with
    | nil => simp
    | cons x l => exact absurd (h x (by simp)) (by omega)
  | succ n ih =>
    intro l nd h
    by_cases hm : n ∈ l
    · have h2 := ih (l := l.erase n) (nd.erase n) (fun x hx => by
        have h1 := h x (List.mem_of_mem_erase hx)
        have : x ≠ n := fun z => by
          subst z
          exact (nd.mem_erase_iff.1 hx).1 rfl
        omega)
      rw [List.length_erase_of_mem hm] at h2
      omega
    · have := ih nd (fun x hx => by
        have h1 := h x hx
        have : x ≠ n := fun z => hm (z ▸ hx)
        omega)
      omega
theorem bfs_ok {n : Nat} {ts : List Tel} {s : Nat} (hf : Fit n ts) (hs : s ≤ n) : ∀ (f k : Nat) (fd : List Ent) (rim : List Nat), Lev ts s k fd rim → n + 2 - fd.length + (if rim.isEmpty then 0 else 1) < f → Wk ts s (bfs ts f fd rim) ∧ ∃ new, bfs ts f fd rim = fd ++ new
  | 0, k, fd, rim, L, h => by omega
  | f + 1, k, fd, rim, L, h => by
    unfold bfs
    cases hr : rim.isEmpty with
    | true =>
      rw [if_pos rfl]
      rw [List.isEmpty_iff] at hr
      subst hr
      exact ⟨⟨L.nd, fun e he => (L.ch e he).1, fun ls v x hc => L.done ls.length ls v x (Nat.le_refl _) hc⟩, [], by simp⟩
    | false =>
      rw [if_neg (by simp)]
      obtain ⟨L', hl⟩ := L.next
      have hlen : (rnd ts fd rim).1.length ≤ n + 1 := by
        have := nodup_le (n := n + 1) L'.nd (fun x hx => by
          obtain ⟨e, he, rfl⟩ := List.mem_map.1 hx
          have := (L'.ch e he).1.fit hf hs
          omega)
        rwa [List.length_map] at this
      obtain ⟨M, hn, hk⟩ := Mid.points rim (fd, []) (fun v hv => by
        obtain ⟨e, he, q, hl⟩ := (L.rim v).1 hv
        exact ⟨e, he, q, (L.ch e he).1, hl⟩) ⟨L.nd, [], by simp, rfl, fun e he => by simp at he⟩
      obtain ⟨new, e1, _, _⟩ := M.ex
      have e1 : (rnd ts fd rim).1 = fd ++ new := e1
      rw [hr] at h
      obtain ⟨W, new', e'⟩ := bfs_ok hf hs f (k + 1) _ _ L' (by
        split
        · simp at h; omega
        · rename_i hne
          have : (rnd ts fd rim).2.length ≠ 0 := fun z => hne (by rw [List.length_eq_zero_iff.1 z]; rfl)
          simp at h
          omega)
      exact ⟨W, new ++ new', by rw [e', e1, List.append_assoc]⟩
theorem wlk_ok {n : Nat} {ts : List Tel} {s : Nat} (hf : Fit n ts) (hs : s ≤ n) (hn : n ≤ 90) : Wk ts s (wlk ts s) ∧ ∃ new, wlk ts s = (s, [], 0) :: new := by
  have L : Lev ts s 0 [(s, [], 0)] [s] := by
    refine ⟨by simp, fun e he => ?_, fun v => ?_, fun ls v x hc hl => ?_⟩
    · rw [List.mem_singleton.1 he]
      exact ⟨⟨rfl, rfl⟩, by simp⟩
    · constructor
      · intro hv
        rw [List.mem_singleton.1 hv]
        exact ⟨_, List.mem_singleton.2 rfl, rfl, rfl⟩
      · rintro ⟨e, he, rfl, _⟩
        rw [List.mem_singleton.1 he]
        simp
    · have : ls = [] := List.length_eq_zero_iff.1 (by omega)
      subst this
      obtain ⟨rfl, _⟩ := hc
      exact ⟨_, List.mem_singleton.2 rfl, rfl, by simp⟩
  exact bfs_ok hf hs 100 0 _ _ L (by simp; omega)
theorem wlk_has {n : Nat} {ts : List Tel} {s v : Nat} (hf : Fit n ts) (hs : s ≤ n) (hn : n ≤ 90) : hasK (wlk ts s) v = true ↔ Conn ts s v := by
  obtain ⟨W, _⟩ := wlk_ok hf hs hn
  rw [hasK_iff]
  constructor
  · rintro ⟨e, he, rfl⟩
    exact ⟨_, _, W.ch e he⟩
  · rintro ⟨ls, x, hc⟩
    obtain ⟨e, he, q, _⟩ := W.all ls v x hc
    exact ⟨e, he, q⟩
/-! ## how far -/
def Dst (ts : List Tel) (s v d : Nat) : Prop := (∃ ls x, Ch ts ls s v x ∧ ls.length = d) ∧ ∀ ls x, Ch ts ls s v x → d ≤ ls.length
theorem Dst.uniq {ts : List Tel} {s v d e : Nat} (h : Dst ts s v d) (k : Dst ts s v e) : d = e := by
  obtain ⟨⟨ls, x, c, l⟩, m⟩ := h
  obtain ⟨⟨ks, y, c', l'⟩, m'⟩ := k
  have := m ks y c'
  have := m' ls x c
  omega
/-- along a chain of fewest links every point is just as far -/
theorem Dst.pre {ts : List Tel} {s v : Nat} {ls : List Lnk} {x : Int} (c : Ch ts ls s v x) (m : ∀ ks y, Ch ts ks s v y → ls.length ≤ ks.length) (i : Nat) (hi : i ≤ ls.length) : ∃ w, Dst ts s w i := by
  have c' := c
  rw [← List.take_append_drop i ls] at c'
  obtain ⟨w, q, r, c1, c2, _⟩ := c'.cut
  refine ⟨w, ⟨_, _, c1, by rw [List.length_take]; omega⟩, fun ks y c3 => ?_⟩
  have := m _ _ (c3.app c2)
  rw [List.length_append, List.length_drop] at this
  omega
theorem Dst.le {n : Nat} {ts : List Tel} {s v d : Nat} (hf : Fit n ts) (hs : s ≤ n) (h : Dst ts s v d) : d ≤ n := by
  obtain ⟨⟨ls, x, c, l⟩, m⟩ := h
  have hp : ∀ i : Nat, i ≤ d → ∃ w, Dst ts s w i := fun i hi => Dst.pre c (fun ks y c' => by rw [l]; exact m ks y c') i (by omega)
  have key : ∀ k : Nat, k ≤ d + 1 → ∃ l : List Nat, l.Nodup ∧ l.length = k ∧ ∀ w ∈ l, ∃ i, i < k ∧ Dst ts s w i := by
    intro k
    induction k with
    | zero => intro _; exact ⟨[], by simp, rfl, by simp⟩
    | succ k ih =>
      intro hk
      obtain ⟨l, nd, hl, hw⟩ := ih (by omega)
      obtain ⟨w, hd⟩ := hp k (by omega)
      refine ⟨w :: l, ?_, by simp [hl], ?_⟩
      · rw [List.nodup_cons]
        refine ⟨fun hm => ?_, nd⟩
        obtain ⟨i, hi, hd'⟩ := hw w hm
        have := hd.uniq hd'
        omega
      · intro u hu
        rcases List.mem_cons.1 hu with rfl | hu
        · exact ⟨k, by omega, hd⟩
        · obtain ⟨i, hi, hd'⟩ := hw u hu
          exact ⟨i, by omega, hd'⟩
  obtain ⟨l, nd, hl, hw⟩ := key (d + 1) (Nat.le_refl _)
  have := nodup_le (n := n + 1) nd (fun w hm => by
    obtain ⟨i, _, ⟨ls, x, c, _⟩, _⟩ := hw w hm
    have := c.fit hf hs
    omega)
  omega
theorem Conn.dst {ts : List Tel} {s v : Nat} (h : Conn ts s v) : ∃ d, Dst ts s v d := by
  obtain ⟨ls, x, c⟩ := h
  have : ∀ (n : Nat) (ls : List Lnk) (x : Int), ls.length ≤ n → Ch ts ls s v x → ∃ d, Dst ts s v d := by
    intro n
    induction n with
    | zero =>
      intro ls x hl c
      exact ⟨0, ⟨ls, x, c, by omega⟩, fun _ _ _ => Nat.zero_le _⟩
    | succ n ih =>
      intro ls x hl c
      by_cases h : ∃ ks y, Ch ts ks s v y ∧ ks.length ≤ n
      · obtain ⟨ks, y, c', hk⟩ := h
        exact ih ks y hk c'
      · refine ⟨ls.length, ⟨ls, x, c, rfl⟩, fun ks y c' => ?_⟩
        by_cases hk : ks.length ≤ n
        · exact absurd ⟨ks, y, c', hk⟩ h
        · omega
  exact this ls.length ls x (Nat.le_refl _) c
/-! the law's own reckoning -/
def far1 (m : Nat) (far : List (Option Nat)) (t : Tel) : List (Option Nat) :=
  if far.getD t.1 none = some (m - 1) ∧ far.getD t.2.1 none = none then far.set t.2.1 (some m)
  else if far.getD t.2.1 none = some (m - 1) ∧ far.getD t.1 none = none then far.set t.1 (some m) else far
def farM (ts : List Tel) (far : List (Option Nat)) (m : Nat) : List (Option Nat) := ts.foldl (far1 m) far
def far0 (n s : Nat) : List (Option Nat) := (List.replicate (n + 1) none).set s (some 0)
def farN (n : Nat) (ts : List Tel) (s : Nat) : List (Option Nat) := ((List.range n).map (1 + ·)).foldl (farM ts) (far0 n s)
theorem far1_len {m : Nat} {far : List (Option Nat)} {t : Tel} : (far1 m far t).length = far.length := by
  unfold far1
  split
  · simp
  · split <;> simp
theorem farM_len {m : Nat} : ∀ {ts : List Tel} {far : List (Option Nat)}, (farM ts far m).length = far.length
  | [], _ => rfl
  | t :: ts, far => by
    unfold farM
    rw [List.foldl_cons]
    have := farM_len (m := m) (ts := ts) (far := far1 m far t)
    unfold farM at this
    rw [this, far1_len]
theorem getD_set_self {α : Type} {l : List α} {i : Nat} {a d : α} (h : i < l.length) : (l.set i a).getD i d = a := by
  rw [List.getD_eq_getElem?_getD, List.getElem?_set_self h]
  rfl
theorem getD_set_ne {α : Type} {l : List α} {i j : Nat} {a d : α} (h : i ≠ j) : (l.set i a).getD j d = l.getD j d := by
  rw [List.getD_eq_getElem?_getD, List.getElem?_set_ne h, ← List.getD_eq_getElem?_getD]
/-- behind round k -/
structure Far (n : Nat) (ts : List Tel) (s k : Nat) (far : List (Option Nat)) : Prop where
  len : far.length = n + 1
  dst : ∀ v d, far.getD v none = some d → Dst ts s v d ∧ d ≤ k
  all : ∀ v ls x, Ch ts ls s v x → ls.length ≤ k → far.getD v none ≠ none
theorem Far.beyond {n : Nat} {ts : List Tel} {s k : Nat} {far : List (Option Nat)} (F : Far n ts s k far) {v : Nat} (h : far.getD v none = none) {ls : List Lnk} {x : Int} (c : Ch ts ls s v x) : k < ls.length := by
  by_cases hk : ls.length ≤ k
  · exact absurd h (F.all v ls x c hk)
  · omega
/-- within round k + 1 -/
structure FarR (n : Nat) (ts : List Tel) (s k : Nat) (old far : List (Option Nat)) : Prop where
  len : far.length = n + 1
  keep : ∀ v d, old.getD v none = some d → far.getD v none = some d
  new : ∀ v d, far.getD v none = some d → old.getD v none = some d ∨ (old.getD v none = none ∧ d = k + 1 ∧ ∃ ls x, Ch ts ls s v x ∧ ls.length = k + 1)
theorem FarR.step {n : Nat} {ts : List Tel} {s k : Nat} {old far : List (Option Nat)} (hf : Fit n ts) (F : Far n ts s k old) (R : FarR n ts s k old far) {t : Tel} (ht : t ∈ ts) : FarR n ts s k old (far1 (k + 1) far t) ∧ (old.getD t.1 none = some k → (far1 (k + 1) far t).getD t.2.1 none ≠ none) ∧ (old.getD t.2.1 none = some k → (far1 (k + 1) far t).getD t.1 none ≠ none) ∧ ∀ v, far.getD v none ≠ none → (far1 (k + 1) far t).getD v none ≠ none := by
  obtain ⟨a, b, m⟩ := t
  have hab := hf _ ht
  dsimp only at hab
  obtain ⟨i, hi⟩ := List.getElem?_of_mem ht
  unfold far1
  dsimp only
  rw [Nat.add_sub_cancel]
  -- what stands at a point with k is old
  have oldk : ∀ v, far.getD v none = some k → old.getD v none = some k := fun v hv => by
    rcases R.new v k hv with h | ⟨_, h, _⟩
    · exact h
    · omega
  have put : ∀ v w g c, Lk ts (i, g) w v c → v ≤ n → far.getD w none = some k → far.getD v none = none → FarR n ts s k old (far.set v (some (k + 1))) := by
    intro v w g c hl hv hw hn
    have ow := oldk w hw
    obtain ⟨⟨⟨ls, x, cw, ll⟩, _⟩, _⟩ := F.dst w k ow
    have on : old.getD v none = none := by
      cases e : old.getD v none with
      | none => rfl
      | some d => rw [R.keep v d e] at hn; cases hn
    refine ⟨by simp [R.len], fun u d hu => ?_, fun u d hu => ?_⟩
    · have : v ≠ u := fun z => by subst z; rw [on] at hu; cases hu
      rw [getD_set_ne this]
      exact R.keep u d hu
    · by_cases z : v = u
      · subst z
        rw [getD_set_self (by rw [R.len]; omega)] at hu
        cases hu
        exact .inr ⟨on, rfl, _, _, cw.app (Ch.one hl), by simp [ll]⟩
      · rw [getD_set_ne z] at hu
        exact R.new u d hu
  by_cases h1 : far.getD a none = some k ∧ far.getD b none = none
  · rw [if_pos h1]
    have lk : Lk ts (i, 1) a b m := ⟨a, b, m, hi, .inl ⟨rfl, rfl, rfl, rfl⟩⟩
    have hb : b < far.length := by rw [R.len]; omega
    refine ⟨put b a 1 m lk (by omega) h1.1 h1.2, fun _ => ?_, fun hb' => ?_, fun v hv => ?_⟩
    · rw [getD_set_self hb]; simp
    · rw [R.keep b k hb'] at h1
      cases h1.2
    · by_cases z : b = v
      · subst z; rw [getD_set_self hb]; simp
      · rw [getD_set_ne z]; exact hv
  · rw [if_neg h1]
    by_cases h2 : far.getD b none = some k ∧ far.getD a none = none
    · rw [if_pos h2]
      have lk : Lk ts (i, -1) b a (-m) := ⟨a, b, m, hi, .inr ⟨rfl, rfl, rfl, rfl⟩⟩
      have ha : a < far.length := by rw [R.len]; omega
      refine ⟨put a b (-1) (-m) lk (by omega) h2.1 h2.2, fun ha' => ?_, fun _ => ?_, fun v hv => ?_⟩
      · rw [R.keep a k ha'] at h2
        cases h2.2
      · rw [getD_set_self ha]; simp
      · by_cases z : a = v
        · subst z; rw [getD_set_self ha]; simp
        · rw [getD_set_ne z]; exact hv
    · rw [if_neg h2]
      refine ⟨R, fun ha hn => h1 ⟨R.keep a k ha, hn⟩, fun hb hn => h2 ⟨R.keep b k hb, hn⟩, fun v hv => hv⟩
theorem FarR.steps {n : Nat} {ts : List Tel} {s k : Nat} {old : List (Option Nat)} (hf : Fit n ts) (F : Far n ts s k old) : ∀ (l : List Tel) (far : List (Option Nat)), (∀ t ∈ l, t ∈ ts) → FarR n ts s k old far → FarR n ts s k old (l.foldl (far1 (k + 1)) far) ∧ (∀ t ∈ l, (old.getD t.1 none = some k → (l.foldl (far1 (k + 1)) far).getD t.2.1 none ≠ none) ∧ (old.getD t.2.1 none = some k → (l.foldl (far1 (k + 1)) far).getD t.1 none ≠ none)) ∧ ∀ v, far.getD v none ≠ none → (l.foldl (far1 (k + 1)) far).getD v none ≠ none
  | [], far, _, R => ⟨R, fun t ht => by simp at ht, fun v hv => hv⟩
  | t :: l, far, h, R => by
    obtain ⟨a, b, c, d⟩ := R.step hf F (h t (by simp))
    obtain ⟨a', b', c'⟩ := FarR.steps hf F l _ (fun x hx => h x (by simp [hx])) a
    refine ⟨a', fun x hx => ?_, fun v hv => c' v (d v hv)⟩
    rcases List.mem_cons.1 hx with rfl | hx
    · exact ⟨fun q => c' _ (b q), fun q => c' _ (c q)⟩
    · exact b' x hx
theorem Far.next {n : Nat} {ts : List Tel} {s k : Nat} {far : List (Option Nat)} (hf : Fit n ts) (F : Far n ts s k far) : Far n ts s (k + 1) (farM ts far (k + 1)) := by
  obtain ⟨R, h1, _⟩ := FarR.steps hf F ts far (fun t ht => ht) ⟨F.len, fun v d h => h, fun v d h => .inl h⟩
  have R : FarR n ts s k far (farM ts far (k + 1)) := R
  refine ⟨R.len, fun v d hv => ?_, fun v ls x c hl => ?_⟩
  · rcases R.new v d hv with h | ⟨hn, rfl, ls, x, c, hl⟩
    · have := F.dst v d h
      exact ⟨this.1, by omega⟩
    · refine ⟨⟨⟨ls, x, c, hl⟩, fun ks y c' => ?_⟩, Nat.le_refl _⟩
      have := F.beyond hn c'
      omega
  · by_cases hs : ls.length ≤ k
    · cases e : far.getD v none with
      | none => exact absurd e (F.all v ls x c hs)
      | some d => rw [R.keep v d e]; simp
    · obtain ⟨ks, l, rfl⟩ := snoc ls (by intro z; subst z; simp at hs)
      obtain ⟨w, q1, r1, c1, c2, _⟩ := c.cut
      simp only [List.length_append, List.length_singleton] at hl hs
      cases ew : far.getD w none with
      | none => exact absurd ew (F.all w ks q1 c1 (by omega))
      | some d =>
        obtain ⟨⟨⟨js, y, cj, lj⟩, _⟩, hdk⟩ := F.dst w d ew
        by_cases hd : d = k
        · subst hd
          obtain ⟨a, b, m, e, hh⟩ := c2.one'
          have hm := List.mem_of_getElem? e
          have := h1 _ hm
          dsimp only at this
          rcases hh with ⟨_, rfl, rfl, _⟩ | ⟨_, rfl, rfl, _⟩
          · exact this.1 ew
          · exact this.2 ew
        · have := F.all v _ _ (cj.app c2) (by
            simp only [List.length_append, List.length_singleton]
            omega)
          cases e : far.getD v none with
          | none => exact absurd e this
          | some d => rw [R.keep v d e]; simp
theorem far_ok {n : Nat} {ts : List Tel} {s : Nat} (hf : Fit n ts) (hs : s ≤ n) : Far n ts s n (farN n ts s) := by
  have F0 : Far n ts s 0 (far0 n s) := by
    have hl : (List.replicate (n + 1) (none : Option Nat)).length = n + 1 := by simp
    have hr : ∀ v, (List.replicate (n + 1) (none : Option Nat)).getD v none = none := fun v => by
      rw [List.getD_eq_getElem?_getD, List.getElem?_replicate]
      split <;> rfl
    refine ⟨by simp [far0], fun v d hv => ?_, fun v ls x c hl0 => ?_⟩
    · unfold far0 at hv
      by_cases z : s = v
      · subst z
        rw [getD_set_self (by simp; omega)] at hv
        cases hv
        exact ⟨⟨⟨[], 0, ⟨rfl, rfl⟩, rfl⟩, fun _ _ _ => Nat.zero_le _⟩, Nat.le_refl _⟩
      · rw [getD_set_ne z, hr] at hv
        cases hv
    · have : ls = [] := List.length_eq_zero_iff.1 (by omega)
      subst this
      obtain ⟨rfl, _⟩ := c
      unfold far0
      rw [getD_set_self (by simp; omega)]
      simp
  have : ∀ k, Far n ts s k (((List.range k).map (1 + ·)).foldl (farM ts) (far0 n s)) := by
    intro k
    induction k with
    | zero => exact F0
    | succ k ih =>
      rw [List.range_succ, List.map_append, List.foldl_append]
      have := ih.next hf
      rw [Nat.add_comm] at this
      exact (Nat.add_comm 1 k) ▸ this
  exact this n
/-! ## links gone along -/
def endN (ts : List Tel) : Nat → Int → List Lnk → Option (Nat × Int)
  | h, m, [] => some (h, m)
  | h, m, l :: ls => match ts[l.1]? with
    | none => none
    | some t => if h = (if l.2 = 1 then t.1 else t.2.1) then endN ts (if l.2 = 1 then t.2.1 else t.1) (m + l.2 * t.2.2) ls else none
theorem endN_ch {ts : List Tel} : ∀ {ls : List Lnk} {u v : Nat} {m s : Int}, Ch ts ls u v s → endN ts u m ls = some (v, m + s)
  | [], u, v, m, s, ⟨e, z⟩ => by rw [e, z]; simp [endN]
  | (i, g) :: ls, u, v, m, s, ⟨w, c, r, ⟨a, b, q, e, h⟩, h2, z⟩ => by
    unfold endN
    dsimp only at e h ⊢
    rw [e]
    dsimp only
    rcases h with ⟨rfl, rfl, rfl, rfl⟩ | ⟨rfl, rfl, rfl, rfl⟩
    · rw [if_pos rfl, if_pos rfl, if_pos rfl, endN_ch h2]
      congr 2
      omega
    · have hn : ¬ ((-1 : Int) = 1) := by decide
      simp only [hn, if_false, if_true]
      rw [endN_ch h2]
      congr 2
      omega
theorem ch_endN {ts : List Tel} : ∀ {ls : List Lnk} {u v : Nat} {m x : Int}, (∀ l ∈ ls, l.2 = 1 ∨ l.2 = -1) → endN ts u m ls = some (v, x) → Ch ts ls u v (x - m)
  | [], u, v, m, x, _, h => by
    cases h
    exact ⟨rfl, by omega⟩
  | (i, g) :: ls, u, v, m, x, hg, h => by
    unfold endN at h
    dsimp only at h
    have hg0 := hg (i, g) (by simp)
    dsimp only at hg0
    cases e : ts[i]? with
    | none => rw [e] at h; cases h
    | some t =>
      rw [e] at h
      dsimp only at h
      obtain ⟨a, b, c⟩ := t
      dsimp only at h
      by_cases hh : u = (if g = 1 then a else b)
      · rw [if_pos hh] at h
        have q := ch_endN (fun l hl => hg l (by simp [hl])) h
        rcases hg0 with rfl | rfl
        · rw [if_pos rfl] at hh q
          exact ⟨b, c, _, ⟨a, b, c, e, .inl ⟨rfl, hh, rfl, rfl⟩⟩, q, by omega⟩
        · rw [if_neg (by decide)] at hh q
          exact ⟨a, -c, _, ⟨a, b, c, e, .inr ⟨rfl, hh, rfl, rfl⟩⟩, q, by omega⟩
      · rw [if_neg hh] at h
        cases h
theorem Ch.valid {ts : List Tel} : ∀ {ls : List Lnk} {u v : Nat} {s : Int}, Ch ts ls u v s → ∀ l ∈ ls, l.1 < ts.length ∧ (l.2 = 1 ∨ l.2 = -1)
  | [], _, _, _, _, l, hl => by simp at hl
  | k :: ls, u, v, s, ⟨w, m, r, ⟨a, b, c, e, h⟩, h2, _⟩, l, hl => by
    rcases List.mem_cons.1 hl with rfl | hl
    · refine ⟨(List.getElem?_eq_some_iff.1 e).1, ?_⟩
      rcases h with h | h
      · exact .inl h.1
      · exact .inr h.1
    · exact Ch.valid h2 l hl
theorem wlk_get {n : Nat} {ts : List Tel} {s v : Nat} (hf : Fit n ts) (hs : s ≤ n) (hn : n ≤ 90) (h : hasK (wlk ts s) v = true) : Ch ts (getK (wlk ts s) v).1 s v (getK (wlk ts s) v).2 ∧ ∀ ks y, Ch ts ks s v y → (getK (wlk ts s) v).1.length ≤ ks.length := by
  obtain ⟨W, _⟩ := wlk_ok hf hs hn
  obtain ⟨e, he, rfl⟩ := hasK_iff.1 h
  have hg := getK_of he W.nd
  rw [hg]
  refine ⟨W.ch e he, fun ks y c => ?_⟩
  obtain ⟨e', he', q, hl⟩ := W.all ks e.1 y c
  have hg' := getK_of he' W.nd
  rw [q, hg] at hg'
  rw [hg']
  exact hl
theorem far_wlk {n : Nat} {ts : List Tel} {s v : Nat} (hf : Fit n ts) (hs : s ≤ n) (hn : n ≤ 90) (hv : v ≤ n) : (farN n ts s).getD v none = if hasK (wlk ts s) v then some (getK (wlk ts s) v).1.length else none := by
  have F := far_ok hf hs
  cases h : hasK (wlk ts s) v with
  | true =>
    rw [if_pos rfl]
    obtain ⟨c, m⟩ := wlk_get hf hs hn h
    have D : Dst ts s v (getK (wlk ts s) v).1.length := ⟨⟨_, _, c, rfl⟩, m⟩
    have hd := D.le hf hs
    cases e : (farN n ts s).getD v none with
    | none => exact absurd e (F.all v _ _ c hd)
    | some d => rw [(F.dst v d e).1.uniq D]
  | false =>
    rw [if_neg (by simp)]
    cases e : (farN n ts s).getD v none with
    | none => rfl
    | some d =>
      obtain ⟨⟨⟨ls, x, c, _⟩, _⟩, _⟩ := F.dst v d e
      have := (wlk_has hf hs hn).2 ⟨ls, x, c⟩
      rw [h] at this
      cases this
end GB

namespace GB
theorem Lk.more {ts us : List Tel} {l : Lnk} {u v : Nat} {m : Int} (h : Lk ts l u v m) : Lk (ts ++ us) l u v m := by
  obtain ⟨a, b, c, e, h⟩ := h
  exact ⟨a, b, c, by rw [List.getElem?_append_left (List.getElem?_eq_some_iff.1 e).1]; exact e, h⟩
theorem Ch.more {ts us : List Tel} : ∀ {ls : List Lnk} {u v : Nat} {s : Int}, Ch ts ls u v s → Ch (ts ++ us) ls u v s
  | [], _, _, _, h => h
  | l :: ls, _, _, _, ⟨w, m, r, h1, h2, e⟩ => ⟨w, m, r, h1.more, Ch.more h2, e⟩
theorem Conn.more {ts us : List Tel} {u v : Nat} (h : Conn ts u v) : Conn (ts ++ us) u v := by
  obtain ⟨ls, s, h⟩ := h
  exact ⟨ls, s, h.more⟩
/-! ## marks -/
def mk1 (ms : List Nat) (t : Tel) : List Nat := ms.map fun m => if m = max (ms.getD t.1 0) (ms.getD t.2.1 0) then min (ms.getD t.1 0) (ms.getD t.2.1 0) else m
def marksB (n : Nat) (ts : List Tel) : List Nat := ts.foldl mk1 (List.range (n + 1))
structure Mk (n : Nat) (ts : List Tel) (ms : List Nat) : Prop where
  len : ms.length = n + 1
  le : ∀ u, u ≤ n → ms.getD u 0 ≤ u
  fix : ∀ u, u ≤ n → ms.getD (ms.getD u 0) 0 = ms.getD u 0
  con : ∀ u, u ≤ n → Conn ts u (ms.getD u 0)
  tel : ∀ t ∈ ts, ms.getD t.1 0 = ms.getD t.2.1 0
theorem mk1_at {n : Nat} {ms : List Nat} {t : Tel} (hl : ms.length = n + 1) {u : Nat} (hu : u ≤ n) : (mk1 ms t).getD u 0 = if ms.getD u 0 = max (ms.getD t.1 0) (ms.getD t.2.1 0) then min (ms.getD t.1 0) (ms.getD t.2.1 0) else ms.getD u 0 := by
  unfold mk1
  rw [List.getD_eq_getElem?_getD, List.getElem?_map, List.getElem?_eq_getElem (by omega)]
  rw [List.getD_eq_getElem?_getD (l := ms) (i := u), List.getElem?_eq_getElem (show u < ms.length by omega)]
  rfl
theorem Mk.step {n : Nat} {ts : List Tel} {ms : List Nat} (M : Mk n ts ms) {t : Tel} (h1 : t.1 ≤ n) (h2 : t.2.1 ≤ n) (hts : Fit n ts) : Mk n (ts ++ [t]) (mk1 ms t) := by
  obtain ⟨a, b, c⟩ := t
  dsimp only at h1 h2
  have at' : ∀ u, u ≤ n → (mk1 ms (a, b, c)).getD u 0 = if ms.getD u 0 = max (ms.getD a 0) (ms.getD b 0) then min (ms.getD a 0) (ms.getD b 0) else ms.getD u 0 := fun u hu => mk1_at M.len hu
  have fa := M.fix a h1
  have fb := M.fix b h2
  have la := M.le a h1
  have lb := M.le b h2
  have hab : Conn (ts ++ [(a, b, c)]) a b := Conn.tell (i := ts.length) (m := c) (by simp)
  have ca := (M.con a h1).more (us := [(a, b, c)])
  have cb := (M.con b h2).more (us := [(a, b, c)])
  have cxy : Conn (ts ++ [(a, b, c)]) (ms.getD a 0) (ms.getD b 0) := (ca.symm.trans hab).trans cb
  generalize hx : ms.getD a 0 = x at *
  generalize hy : ms.getD b 0 = y at *
  have fixlow : ms.getD (min x y) 0 = min x y := by
    rcases Nat.le_total x y with h | h
    · rw [Nat.min_eq_left h]; exact fa
    · rw [Nat.min_eq_right h]; exact fb
  have chl : Conn (ts ++ [(a, b, c)]) (max x y) (min x y) := by
    rcases Nat.le_total x y with h | h
    · rw [Nat.min_eq_left h, Nat.max_eq_right h]; exact cxy.symm
    · rw [Nat.min_eq_right h, Nat.max_eq_left h]; exact cxy
  refine ⟨by simp [mk1, M.len], fun u hu => ?_, fun u hu => ?_, fun u hu => ?_, fun t ht => ?_⟩
  · rw [at' u hu]
    have := M.le u hu
    split <;> omega
  · rw [at' u hu]
    split
    · rw [at' _ (by omega), fixlow]
      split <;> omega
    · rename_i hne
      have := M.le u hu
      rw [at' _ (by omega), M.fix u hu, if_neg hne]
  · rw [at' u hu]
    have cu := (M.con u hu).more (us := [(a, b, c)])
    split
    · rename_i e
      rw [e] at cu
      exact cu.trans chl
    · exact cu
  · rcases List.mem_append.1 ht with ht | ht
    · have := hts t ht
      rw [at' _ this.1, at' _ this.2, M.tel t ht]
    · rw [List.mem_singleton.1 ht]
      dsimp only
      rw [at' a h1, at' b h2, hx, hy]
      split <;> split <;> omega
theorem marks_ok {n : Nat} : ∀ (us ts : List Tel) (ms : List Nat), Fit n ts → Fit n us → Mk n ts ms → Mk n (ts ++ us) (us.foldl mk1 ms)
  | [], ts, ms, _, _, M => by simpa using M
  | t :: us, ts, ms, h1, h2, M => by
    have ht := h2 t (by simp)
    have := marks_ok us (ts ++ [t]) (mk1 ms t) (fun x hx => by
      rcases List.mem_append.1 hx with hx | hx
      · exact h1 x hx
      · rw [List.mem_singleton.1 hx]; exact ht) (fun x hx => h2 x (by simp [hx])) (M.step ht.1 ht.2 h1)
    rw [List.append_assoc] at this
    exact this
theorem marksB_ok {n : Nat} {ts : List Tel} (h : Fit n ts) : Mk n ts (marksB n ts) := by
  have := marks_ok (n := n) ts [] (List.range (n + 1)) (fun t ht => by simp at ht) h ⟨by simp, fun u hu => ?_, fun u hu => ?_, fun u hu => ?_, fun t ht => by simp at ht⟩
  · simpa [marksB] using this
  all_goals
    have e : (List.range (n + 1)).getD u 0 = u := by
      rw [List.getD_eq_getElem?_getD, List.getElem?_range (by omega)]; rfl
  · rw [e]; exact Nat.le_refl _
  · rw [e, e]
  · rw [e]; exact Conn.refl u
theorem Mk.iff {n : Nat} {ts : List Tel} {ms : List Nat} (M : Mk n ts ms) {u v : Nat} (hu : u ≤ n) (hv : v ≤ n) : ms.getD u 0 = ms.getD v 0 ↔ Conn ts u v := by
  constructor
  · intro h
    have c := M.con u hu
    rw [h] at c
    exact c.trans (M.con v hv).symm
  · intro c
    have := c.keep (P := fun x => ms.getD u 0 = ms.getD x 0) (fun t ht => by rw [M.tel t ht])
    exact this.1 rfl
/-- the mark is the least point of the lot -/
theorem Mk.least {n : Nat} {ts : List Tel} {ms : List Nat} (M : Mk n ts ms) {u v : Nat} (hu : u ≤ n) (hv : v ≤ n) (c : Conn ts u v) : ms.getD u 0 ≤ v := by
  rw [(M.iff hu hv).2 c]
  exact M.le v hv
/-! ## lists of points -/
theorem filter_first {p : Nat → Bool} {N v : Nat} (hv : v < N) (hp : p v = true) (hl : ∀ u, u < v → p u = false) : (List.range N).filter p = v :: (List.range N).filter fun u => p u && decide (v < u) := by
  have e : List.range N = List.range v ++ v :: (List.range (N - v - 1)).map (v + 1 + ·) := by
    rw [show N = v + (1 + (N - v - 1)) by omega, List.range_add, List.range_add, List.map_append]
    simp
    intro a _
    omega
  rw [e, List.filter_append, List.filter_append, List.filter_cons_of_pos hp]
  have e1 : (List.range v).filter p = [] := by
    rw [List.filter_eq_nil_iff]
    intro u hu
    rw [hl u (List.mem_range.1 hu)]
    simp
  have e2 : (List.range v).filter (fun u => p u && decide (v < u)) = [] := by
    rw [List.filter_eq_nil_iff]
    intro u hu
    have := List.mem_range.1 hu
    simp
    intro _
    omega
  rw [e1, e2, List.filter_cons_of_neg (by simp)]
  simp only [List.nil_append]
  congr 1
  apply List.filter_congr
  intro u hu
  obtain ⟨i, _, rfl⟩ := List.mem_map.1 hu
  have : decide (v < v + 1 + i) = true := decide_eq_true (by omega)
  rw [this, Bool.and_true]
/-! ## lots -/
def compN (n : Nat) (ts : List Tel) (u : Nat) : List Nat := (List.range (n + 1)).filter fun v => hasK (wlk ts u) v
def lotsF (n : Nat) (ts : List Tel) : Nat → List Nat → List (List Nat)
  | 0, _ => []
  | _ + 1, [] => []
  | f + 1, u :: l => compN n ts u :: lotsF n ts f ((u :: l).filter fun v => !(compN n ts u).contains v)
def lotsN (n : Nat) (ts : List Tel) : List (List Nat) := lotsF n ts 100 (List.range (n + 1))
/-- the heads of the lots: points that are their own marks -/
def heads (n : Nat) (ms : List Nat) : List Nat := (List.range (n + 1)).filter fun m => decide (ms.getD m 0 = m)
def lotOf (n : Nat) (ms : List Nat) (m : Nat) : List Nat := (List.range (n + 1)).filter fun v => decide (ms.getD v 0 = m)
theorem comp_eq {n : Nat} {ts : List Tel} {ms : List Nat} (hf : Fit n ts) (hn : n ≤ 90) (M : Mk n ts ms) {u : Nat} (hu : u ≤ n) : compN n ts u = lotOf n ms (ms.getD u 0) := by
  unfold compN lotOf
  apply List.filter_congr
  intro v hv
  have hv : v ≤ n := by have := List.mem_range.1 hv; omega
  rw [Bool.eq_iff_iff, wlk_has hf hu hn, decide_eq_true_iff, eq_comm, M.iff hu hv]
theorem lots_from {n : Nat} {ts : List Tel} {ms : List Nat} (hf : Fit n ts) (hn : n ≤ 90) (M : Mk n ts ms) : ∀ (f k : Nat), n + 1 - k < f → lotsF n ts f ((List.range (n + 1)).filter fun v => decide (k ≤ ms.getD v 0)) = ((List.range (n + 1)).filter fun m => decide (ms.getD m 0 = m) && decide (k ≤ m)).map (lotOf n ms)
  | 0, k, h => by omega
  | f + 1, k, h => by
    by_cases hex : ∃ v, v ≤ n ∧ k ≤ ms.getD v 0
    · -- the least such point
      have least : ∃ v, v ≤ n ∧ k ≤ ms.getD v 0 ∧ ∀ u, u < v → ¬ (u ≤ n ∧ k ≤ ms.getD u 0) := by
        obtain ⟨v, hv⟩ := hex
        induction v using Nat.strongRecOn with
        | _ v ih =>
          by_cases hu : ∃ u, u < v ∧ (u ≤ n ∧ k ≤ ms.getD u 0)
          · obtain ⟨u, hu1, hu2⟩ := hu
            exact ih u hu1 hu2
          · exact ⟨v, hv.1, hv.2, fun u hu1 hu2 => hu ⟨u, hu1, hu2⟩⟩
      obtain ⟨v, hv1, hv2, hv3⟩ := least
      have hle := M.le v hv1
      have hfix := M.fix v hv1
      have hvm : ms.getD v 0 = v := by
        by_cases hlt : ms.getD v 0 < v
        · exact absurd ⟨by omega, by rw [hfix]; exact hv2⟩ (hv3 _ hlt)
        · omega
      have e1 := filter_first (p := fun v => decide (k ≤ ms.getD v 0)) (N := n + 1) (v := v) (by omega) (decide_eq_true hv2) (fun u hu => decide_eq_false fun z => hv3 u hu ⟨by omega, z⟩)
      have e2 := filter_first (p := fun m => decide (ms.getD m 0 = m) && decide (k ≤ m)) (N := n + 1) (v := v) (by omega) (by rw [hvm] at hv2; rw [Bool.and_eq_true]; exact ⟨decide_eq_true hvm, decide_eq_true hv2⟩) (fun u hu => by
        rw [Bool.and_eq_false_iff]
        by_cases z : ms.getD u 0 = u
        · exact .inr (decide_eq_false fun q => hv3 u hu ⟨by omega, by rw [z]; exact q⟩)
        · exact .inl (decide_eq_false z))
      rw [e1, e2]
      unfold lotsF
      rw [← e1, List.map_cons]
      have hc : compN n ts v = lotOf n ms v := by rw [comp_eq hf hn M hv1, hvm]
      rw [hc]
      congr 1
      have e3 : ((List.range (n + 1)).filter fun v => decide (k ≤ ms.getD v 0)).filter (fun u => !(lotOf n ms v).contains u) = (List.range (n + 1)).filter fun u => decide (v + 1 ≤ ms.getD u 0) := by
        rw [List.filter_filter]
        apply List.filter_congr
        intro u hu
        have hu : u ≤ n := by have := List.mem_range.1 hu; omega
        have hcon : (lotOf n ms v).contains u = decide (ms.getD u 0 = v) := by
          rw [Bool.eq_iff_iff, List.contains_iff_mem, decide_eq_true_iff]
          unfold lotOf
          rw [List.mem_filter, List.mem_range, decide_eq_true_iff]
          constructor
          · exact fun z => z.2
          · exact fun z => ⟨by omega, z⟩
        rw [hcon, Bool.eq_iff_iff]
        simp only [Bool.and_eq_true, Bool.not_eq_true', decide_eq_false_iff_not, decide_eq_true_iff]
        constructor
        · rintro ⟨z1, z2⟩
          have hfu := M.fix u hu
          have hlu := M.le u hu
          by_cases hlt : ms.getD u 0 < v
          · exact absurd ⟨by omega, by rw [hfu]; exact z2⟩ (hv3 _ hlt)
          · omega
        · intro z
          exact ⟨by omega, by omega⟩
      rw [e3, lots_from hf hn M f (v + 1) (by omega)]
      congr 1
      apply List.filter_congr
      intro u hu
      rw [Bool.eq_iff_iff]
      simp only [Bool.and_eq_true, decide_eq_true_iff]
      omega
    · have e1 : (List.range (n + 1)).filter (fun v => decide (k ≤ ms.getD v 0)) = [] := by
        rw [List.filter_eq_nil_iff]
        intro v hv
        have := List.mem_range.1 hv
        simp only [decide_eq_true_iff]
        exact fun z => hex ⟨v, by omega, z⟩
      have e2 : (List.range (n + 1)).filter (fun m => decide (ms.getD m 0 = m) && decide (k ≤ m)) = [] := by
        rw [List.filter_eq_nil_iff]
        intro v hv
        have := List.mem_range.1 hv
        simp only [Bool.and_eq_true, decide_eq_true_iff]
        exact fun z => hex ⟨v, by omega, by rw [z.1]; exact z.2⟩
      rw [e1, e2]
      rfl
theorem lots_eq {n : Nat} {ts : List Tel} {ms : List Nat} (hf : Fit n ts) (hn : n ≤ 90) (M : Mk n ts ms) : lotsN n ts = (heads n ms).map (lotOf n ms) := by
  have := lots_from hf hn M 100 0 (by omega)
  unfold lotsN heads
  rw [show (List.range (n + 1)).filter (fun v => decide (0 ≤ ms.getD v 0)) = List.range (n + 1) from List.filter_eq_self.2 fun v _ => by simp] at this
  rw [this]
  congr 1
  apply List.filter_congr
  intro u _
  simp
/-! ## truth -/
def Tru (ts : List Tel) : Prop := ∃ f : Nat → Int, ∀ t ∈ ts, f t.2.1 - f t.1 = t.2.2
def trueAt (ts : List Tel) (m : Nat) : Bool := ts.all fun t => !hasK (wlk ts m) t.1 || decide ((getK (wlk ts m) t.1).2 + t.2.2 = (getK (wlk ts m) t.2.1).2)
def trueB (n : Nat) (ms : List Nat) (ts : List Tel) : Bool := (heads n ms).all (trueAt ts)
theorem trueAt_of {n : Nat} {ts : List Tel} (hf : Fit n ts) (hn : n ≤ 90) (T : Tru ts) {m : Nat} (hm : m ≤ n) : trueAt ts m = true := by
  obtain ⟨f, h⟩ := T
  unfold trueAt
  rw [List.all_eq_true]
  intro t ht
  cases hk : hasK (wlk ts m) t.1 with
  | false => rfl
  | true =>
    have c1 := (wlk_get hf hm hn hk).1
    obtain ⟨i, hi⟩ := List.getElem?_of_mem ht
    have hk2 : hasK (wlk ts m) t.2.1 = true := (wlk_has hf hm hn).2 (((wlk_has hf hm hn).1 hk).trans (Conn.tell (i := i) (m := t.2.2) hi))
    have c2 := (wlk_get hf hm hn hk2).1
    have l1 := c1.level h
    have l2 := c2.level h
    have := h t ht
    simp
    omega
theorem tru_of {n : Nat} {ts : List Tel} {ms : List Nat} (hf : Fit n ts) (hn : n ≤ 90) (M : Mk n ts ms) (h : trueB n ms ts = true) : Tru ts := by
  refine ⟨fun v => (getK (wlk ts (ms.getD v 0)) v).2, fun t ht => ?_⟩
  have hfit := hf t ht
  have hle := M.le t.1 hfit.1
  have hm : ms.getD t.1 0 ∈ heads n ms := by
    unfold heads
    rw [List.mem_filter, List.mem_range]
    exact ⟨by omega, decide_eq_true (M.fix t.1 hfit.1)⟩
  have q := List.all_eq_true.1 h _ hm
  unfold trueAt at q
  have q := List.all_eq_true.1 q t ht
  have hk : hasK (wlk ts (ms.getD t.1 0)) t.1 = true := (wlk_has hf (by omega) hn).2 (M.con t.1 hfit.1).symm
  rw [hk] at q
  have q := of_decide_eq_true q
  dsimp only
  rw [← M.tel t ht]
  omega
theorem trueB_iff {n : Nat} {ts : List Tel} {ms : List Nat} (hf : Fit n ts) (hn : n ≤ 90) (M : Mk n ts ms) : trueB n ms ts = true ↔ Tru ts := by
  refine ⟨tru_of hf hn M, fun T => ?_⟩
  unfold trueB
  rw [List.all_eq_true]
  intro m hm
  unfold heads at hm
  rw [List.mem_filter, List.mem_range] at hm
  exact trueAt_of hf hn T (by omega)
/-! ## levels, as the law reckons -/
def lv1 (lv : List (Option Int)) (t : Tel) : List (Option Int) := match lv.getD t.1 none, lv.getD t.2.1 none with
  | some x, none => lv.set t.2.1 (some (x + t.2.2))
  | none, some y => lv.set t.1 (some (y - t.2.2))
  | _, _ => lv
def lvM (ts : List Tel) (lv : List (Option Int)) : List (Option Int) := ts.foldl lv1 lv
def lv0 (n : Nat) (ms : List Nat) : List (Option Int) := (List.range (n + 1)).map fun p => if ms.getD p 0 = p then some 0 else none
def lvN (n : Nat) (ts : List Tel) (ms : List Nat) : List (Option Int) := (List.range (n + 1)).foldl (fun lv _ => lvM ts lv) (lv0 n ms)
theorem lv1_len {lv : List (Option Int)} {t : Tel} : (lv1 lv t).length = lv.length := by
  unfold lv1
  split <;> simp
theorem lvM_len : ∀ {ts : List Tel} {lv : List (Option Int)}, (lvM ts lv).length = lv.length
  | [], _ => rfl
  | t :: ts, lv => by
    show (lvM ts (lv1 lv t)).length = _
    rw [lvM_len, lv1_len]
structure Lv (n : Nat) (ts : List Tel) (ms : List Nat) (lv : List (Option Int)) : Prop where
  len : lv.length = n + 1
  ch : ∀ v x, lv.getD v none = some x → ∃ ls, Ch ts ls (ms.getD v 0) v x
theorem Lv.step {n : Nat} {ts : List Tel} {ms : List Nat} {lv : List (Option Int)} (hf : Fit n ts) (M : Mk n ts ms) (L : Lv n ts ms lv) {t : Tel} (ht : t ∈ ts) : Lv n ts ms (lv1 lv t) ∧ (∀ v, lv.getD v none ≠ none → (lv1 lv t).getD v none ≠ none) ∧ (lv.getD t.1 none ≠ none → (lv1 lv t).getD t.2.1 none ≠ none) ∧ (lv.getD t.2.1 none ≠ none → (lv1 lv t).getD t.1 none ≠ none) := by
  obtain ⟨a, b, c⟩ := t
  have hab := hf _ ht
  have hm := M.tel _ ht
  dsimp only at hab hm
  obtain ⟨i, hi⟩ := List.getElem?_of_mem ht
  unfold lv1
  dsimp only
  cases ea : lv.getD a none with
  | some x =>
    cases eb : lv.getD b none with
    | some y =>
      dsimp only
      refine ⟨L, fun v hv => hv, fun _ => by rw [eb]; simp, fun _ => by rw [ea]; simp⟩
    | none =>
      dsimp only
      have hb : b < lv.length := by rw [L.len]; omega
      refine ⟨⟨by simp [L.len], fun v z hv => ?_⟩, fun v hv => ?_, fun _ => by rw [getD_set_self hb]; simp, fun z => absurd rfl z⟩
      · by_cases q : b = v
        · subst q
          rw [getD_set_self hb] at hv
          cases hv
          obtain ⟨ls, cl⟩ := L.ch a x ea
          rw [hm] at cl
          exact ⟨_, cl.app (Ch.one (ts := ts) (l := (i, 1)) ⟨a, b, c, hi, .inl ⟨rfl, rfl, rfl, rfl⟩⟩)⟩
        · rw [getD_set_ne q] at hv
          exact L.ch v z hv
      · by_cases q : b = v
        · subst q; rw [getD_set_self hb]; simp
        · rw [getD_set_ne q]; exact hv
  | none =>
    cases eb : lv.getD b none with
    | none =>
      dsimp only
      exact ⟨L, fun v hv => hv, fun z => absurd rfl z, fun z => absurd rfl z⟩
    | some y =>
      dsimp only
      have ha : a < lv.length := by rw [L.len]; omega
      refine ⟨⟨by simp [L.len], fun v z hv => ?_⟩, fun v hv => ?_, fun z => absurd rfl z, fun _ => by rw [getD_set_self ha]; simp⟩
      · by_cases q : a = v
        · subst q
          rw [getD_set_self ha] at hv
          cases hv
          obtain ⟨ls, cl⟩ := L.ch b y eb
          rw [← hm] at cl
          have := cl.app (Ch.one (ts := ts) (l := (i, -1)) ⟨a, b, c, hi, .inr ⟨rfl, rfl, rfl, rfl⟩⟩)
          exact ⟨_, by rw [show y - c = y + -c by omega]; exact this⟩
        · rw [getD_set_ne q] at hv
          exact L.ch v z hv
      · by_cases q : a = v
        · subst q; rw [getD_set_self ha]; simp
        · rw [getD_set_ne q]; exact hv
theorem Lv.steps {n : Nat} {ts : List Tel} {ms : List Nat} (hf : Fit n ts) (M : Mk n ts ms) : ∀ (l : List Tel) (lv : List (Option Int)), (∀ t ∈ l, t ∈ ts) → Lv n ts ms lv → Lv n ts ms (l.foldl lv1 lv) ∧ (∀ v, lv.getD v none ≠ none → (l.foldl lv1 lv).getD v none ≠ none) ∧ ∀ t ∈ l, (lv.getD t.1 none ≠ none → (l.foldl lv1 lv).getD t.2.1 none ≠ none) ∧ (lv.getD t.2.1 none ≠ none → (l.foldl lv1 lv).getD t.1 none ≠ none)
  | [], lv, _, L => ⟨L, fun v hv => hv, fun t ht => by simp at ht⟩
  | t :: l, lv, h, L => by
    obtain ⟨a, b, c, d⟩ := L.step hf M (h t (by simp))
    obtain ⟨a', b', c'⟩ := Lv.steps hf M l _ (fun x hx => h x (by simp [hx])) a
    refine ⟨a', fun v hv => b' v (b v hv), fun x hx => ?_⟩
    rcases List.mem_cons.1 hx with rfl | hx
    · exact ⟨fun q => b' _ (c q), fun q => b' _ (d q)⟩
    · exact ⟨fun q => (c' x hx).1 (b _ q), fun q => (c' x hx).2 (b _ q)⟩
theorem lvN_ok {n : Nat} {ts : List Tel} {ms : List Nat} (hf : Fit n ts) (M : Mk n ts ms) : ∃ g : Nat → Int, lvN n ts ms = (List.range (n + 1)).map (fun v => some (g v)) ∧ ∀ v, v ≤ n → ∃ ls, Ch ts ls (ms.getD v 0) v (g v) := by
  have L0 : Lv n ts ms (lv0 n ms) := by
    refine ⟨by simp [lv0], fun v x hv => ?_⟩
    unfold lv0 at hv
    rw [List.getD_eq_getElem?_getD, List.getElem?_map] at hv
    by_cases hvn : v < n + 1
    · rw [List.getElem?_range hvn] at hv
      have hv : (if ms.getD v 0 = v then some (0 : Int) else none) = some x := hv
      split at hv
      · rename_i e
        cases hv
        exact ⟨[], by rw [e]; exact ⟨rfl, rfl⟩⟩
      · cases hv
    · rw [List.getElem?_eq_none (by simpa using hvn)] at hv
      cases hv
  have key : ∀ k : Nat, Lv n ts ms ((List.range k).foldl (fun lv _ => lvM ts lv) (lv0 n ms)) ∧ ∀ v, v ≤ n → ∀ ls x, Ch ts ls (ms.getD v 0) v x → ls.length ≤ k → ((List.range k).foldl (fun lv _ => lvM ts lv) (lv0 n ms)).getD v none ≠ none := by
    intro k
    induction k with
    | zero =>
      refine ⟨L0, fun v hv ls x c hl => ?_⟩
      have : ls = [] := List.length_eq_zero_iff.1 (by omega)
      subst this
      have e := c.1
      show (lv0 n ms).getD v none ≠ none
      unfold lv0
      rw [List.getD_eq_getElem?_getD, List.getElem?_map, List.getElem?_range (by omega)]
      show (if ms.getD v 0 = v then some (0 : Int) else none) ≠ none
      rw [if_pos e]
      simp
    | succ k ih =>
      obtain ⟨L, hall⟩ := ih
      rw [List.range_succ, List.foldl_append]
      generalize (List.range k).foldl (fun lv _ => lvM ts lv) (lv0 n ms) = lv at *
      show Lv n ts ms (lvM ts lv) ∧ ∀ v, v ≤ n → ∀ ls x, Ch ts ls (ms.getD v 0) v x → ls.length ≤ k + 1 → (lvM ts lv).getD v none ≠ none
      obtain ⟨a, b, c⟩ := Lv.steps hf M ts lv (fun t ht => ht) L
      refine ⟨a, fun v hv ls x ch hl => ?_⟩
      by_cases hs : ls.length ≤ k
      · exact b v (hall v hv ls x ch hs)
      · obtain ⟨ks, l, rfl⟩ := snoc ls (by intro z; subst z; simp at hs)
        obtain ⟨w, q1, r1, c1, c2, _⟩ := ch.cut
        simp only [List.length_append, List.length_singleton] at hl hs
        obtain ⟨p, q, m, e, hh⟩ := c2.one'
        have hm := List.mem_of_getElem? e
        have hpq := hf _ hm
        have htel := M.tel _ hm
        dsimp only at hpq htel
        have hw : w ≤ n := by rcases hh with ⟨_, rfl, _, _⟩ | ⟨_, rfl, _, _⟩ <;> omega
        have hmw : ms.getD v 0 = ms.getD w 0 := by
          rcases hh with ⟨_, rfl, rfl, _⟩ | ⟨_, rfl, rfl, _⟩
          · exact htel.symm
          · exact htel
        rw [hmw] at c1
        have hlw := hall w hw ks q1 c1 (by omega)
        have := c _ hm
        dsimp only at this
        rcases hh with ⟨_, rfl, rfl, _⟩ | ⟨_, rfl, rfl, _⟩
        · exact this.1 hlw
        · exact this.2 hlw
  obtain ⟨L, hall⟩ := key (n + 1)
  have L : Lv n ts ms (lvN n ts ms) := L
  have hall : ∀ v, v ≤ n → ∀ ls x, Ch ts ls (ms.getD v 0) v x → ls.length ≤ n + 1 → (lvN n ts ms).getD v none ≠ none := hall
  have some_ : ∀ v, v ≤ n → ∃ x, (lvN n ts ms).getD v none = some x := fun v hv => by
    have hc := (M.con v hv).symm
    obtain ⟨d, D⟩ := hc.dst
    have hd := D.le hf (by have := M.le v hv; omega)
    obtain ⟨⟨ls, x, c, hl⟩, _⟩ := D
    have := hall v hv ls x c (by omega)
    cases e : (lvN n ts ms).getD v none with
    | none => exact absurd e this
    | some z => exact ⟨z, rfl⟩
  refine ⟨fun v => ((lvN n ts ms).getD v none).getD 0, ?_, fun v hv => ?_⟩
  · apply List.ext_getElem?
    intro v
    by_cases hv : v < n + 1
    · obtain ⟨x, hx⟩ := some_ v (by omega)
      rw [List.getElem?_map, List.getElem?_range hv]
      have e : (lvN n ts ms)[v]? = some ((lvN n ts ms).getD v none) := by
        rw [List.getD_eq_getElem?_getD, List.getElem?_eq_getElem (by rw [L.len]; exact hv)]; rfl
      rw [e, hx]
      show _ = some (some (((lvN n ts ms).getD v none).getD 0))
      rw [hx]
      rfl
    · rw [List.getElem?_eq_none (by rw [L.len]; omega), List.getElem?_eq_none (by simp; omega)]
  · obtain ⟨x, hx⟩ := some_ v hv
    dsimp only
    rw [hx]
    exact L.ch v x hx
def lvTrue (ts : List Tel) (g : Nat → Int) : Bool := ts.all fun t => decide (g t.2.1 - g t.1 = t.2.2)
theorem lvTrue_iff {n : Nat} {ts : List Tel} {ms : List Nat} (hf : Fit n ts) (M : Mk n ts ms) {g : Nat → Int} (hg : ∀ v, v ≤ n → ∃ ls, Ch ts ls (ms.getD v 0) v (g v)) : lvTrue ts g = true ↔ Tru ts := by
  unfold lvTrue
  rw [List.all_eq_true]
  constructor
  · intro h
    exact ⟨g, fun t ht => of_decide_eq_true (h t ht)⟩
  · rintro ⟨f, h⟩ t ht
    have hfit := hf t ht
    obtain ⟨l1, c1⟩ := hg t.1 hfit.1
    obtain ⟨l2, c2⟩ := hg t.2.1 hfit.2
    have e1 := c1.level h
    have e2 := c2.level h
    rw [M.tel t ht] at e1
    have := h t ht
    exact decide_eq_true (by omega)
end GB

namespace GB
/-! ## the walk is a tree; rings -/
theorem Lk.fun_ {ts : List Tel} {l : Lnk} {u v v' : Nat} {m m' : Int} (h : Lk ts l u v m) (k : Lk ts l u v' m') : v = v' ∧ m = m' := by
  obtain ⟨a, b, c, e, h⟩ := h
  obtain ⟨a', b', c', e', k⟩ := k
  rw [e] at e'
  cases e'
  rcases h with ⟨g, rfl, rfl, rfl⟩ | ⟨g, rfl, rfl, rfl⟩ <;> rcases k with ⟨g', q, rfl, rfl⟩ | ⟨g', q, rfl, rfl⟩
  · exact ⟨rfl, rfl⟩
  · omega
  · omega
  · exact ⟨rfl, rfl⟩
theorem Ch.fun_ {ts : List Tel} : ∀ {ls : List Lnk} {u v v' : Nat} {s s' : Int}, Ch ts ls u v s → Ch ts ls u v' s' → v = v' ∧ s = s'
  | [], u, v, v', s, s', ⟨e, z⟩, ⟨e', z'⟩ => ⟨by omega, by omega⟩
  | l :: ls, u, v, v', s, s', ⟨w, m, r, h1, h2, z⟩, ⟨w', m', r', h1', h2', z'⟩ => by
    obtain ⟨rfl, rfl⟩ := h1.fun_ h1'
    obtain ⟨rfl, rfl⟩ := h2.fun_ h2'
    exact ⟨rfl, by omega⟩
def Pf (fd : List Ent) : Prop := (∃ e ∈ fd, e.2.1 = []) ∧ ∀ e ∈ fd, ∀ ks l, e.2.1 = ks ++ [l] → ∃ p ∈ fd, p.2.1 = ks
theorem getK_path {fd : List Ent} (h : Pf fd) (v : Nat) : ∃ p ∈ fd, p.2.1 = (getK fd v).1 := by
  unfold getK
  cases q : fd.find? fun e => e.1 == v with
  | none => exact h.1
  | some e => exact ⟨e, List.mem_of_find?_eq_some q, rfl⟩
theorem stT_pf {pt : Nat} {st : List Ent × List Nat} {t : Tie} (h : Pf st.1) : Pf (stT pt st t).1 := by
  unfold stT
  split
  · exact h
  · refine ⟨?_, fun e he ks l q => ?_⟩
    · obtain ⟨e, he, q⟩ := h.1
      exact ⟨e, List.mem_append.2 (.inl he), q⟩
    · rcases List.mem_append.1 he with he | he
      · obtain ⟨p, hp, q⟩ := h.2 e he ks l q
        exact ⟨p, List.mem_append.2 (.inl hp), q⟩
      · rw [List.mem_singleton.1 he] at q
        obtain ⟨q1, _⟩ := List.append_inj' q rfl
        obtain ⟨p, hp, q2⟩ := getK_path h pt
        exact ⟨p, List.mem_append.2 (.inl hp), q2.trans q1⟩
theorem fold_pf {α : Type} {f : List Ent × List Nat → α → List Ent × List Nat} (hf : ∀ st a, Pf st.1 → Pf (f st a).1) : ∀ (l : List α) (st : List Ent × List Nat), Pf st.1 → Pf (l.foldl f st).1
  | [], _, h => h
  | a :: l, st, h => fold_pf hf l _ (hf st a h)
theorem bfs_pf {ts : List Tel} : ∀ (f : Nat) (fd : List Ent) (rim : List Nat), Pf fd → Pf (bfs ts f fd rim)
  | 0, _, _, h => h
  | f + 1, fd, rim, h => by
    unfold bfs
    split
    · exact h
    · exact bfs_pf f _ _ (fold_pf (fun st p hp => fold_pf (fun st t ht => stT_pf ht) _ _ hp) rim (fd, []) h)
theorem wlk_pf (ts : List Tel) (s : Nat) : Pf (wlk ts s) := bfs_pf 100 _ _ ⟨⟨_, List.mem_singleton.2 rfl, rfl⟩, fun e he ks l q => by
  rw [List.mem_singleton.1 he] at q
  simp at q⟩
theorem Pf.pre {fd : List Ent} (h : Pf fd) : ∀ (n : Nat) (rs : List Lnk), rs.length = n → ∀ e ∈ fd, ∀ ks, e.2.1 = ks ++ rs → ∃ p ∈ fd, p.2.1 = ks
  | 0, rs, hr, e, he, ks, q => by
    rw [List.length_eq_zero_iff.1 hr, List.append_nil] at q
    exact ⟨e, he, q⟩
  | n + 1, rs, hr, e, he, ks, q => by
    obtain ⟨r, x, rfl⟩ := snoc rs (fun z => by rw [z] at hr; cases hr)
    rw [← List.append_assoc] at q
    obtain ⟨p, hp, q2⟩ := h.2 e he _ _ q
    exact Pf.pre h n r (by simpa using hr) p hp ks q2
theorem ent_eq {fd : List Ent} (nd : (fd.map (·.1)).Nodup) {p q : Ent} (hp : p ∈ fd) (hq : q ∈ fd) (h : p.1 = q.1) : p = q := by
  have h1 := getK_of hp nd
  have h2 := getK_of hq nd
  rw [h] at h1
  have : p.2 = q.2 := h1.symm.trans h2
  exact Prod.ext h this
/-- a link within a path of the tree -/
theorem tree_at {ts : List Tel} {s : Nat} {fd : List Ent} (W : Wk ts s fd) (P : Pf fd) {e : Ent} (he : e ∈ fd) {ks rs : List Lnk} {l : Lnk} (q : e.2.1 = ks ++ l :: rs) : ∃ p w m, p ∈ fd ∧ w ∈ fd ∧ p.2.1 = ks ∧ w.2.1 = ks ++ [l] ∧ Lk ts l p.1 w.1 m ∧ w.2.2 = p.2.2 + m := by
  obtain ⟨p, hp, q1⟩ := P.pre (l :: rs).length (l :: rs) rfl e he ks q
  obtain ⟨w, hw, q2⟩ := P.pre rs.length rs rfl e he (ks ++ [l]) (by rw [q]; simp)
  have c1 := W.ch p hp
  have c2 := W.ch w hw
  rw [q1] at c1
  rw [q2] at c2
  obtain ⟨x, y, z, d1, d2, d3⟩ := c2.cut
  obtain ⟨rfl, rfl⟩ := c1.fun_ d1
  exact ⟨p, w, z, hp, hw, q1, q2, d2.one', d3⟩
theorem tree_same {ts : List Tel} {s : Nat} {fd : List Ent} (W : Wk ts s fd) (P : Pf fd) {e e' : Ent} (he : e ∈ fd) (he' : e' ∈ fd) {ks rs ks' rs' : List Lnk} {l l' : Lnk} (q : e.2.1 = ks ++ l :: rs) (q' : e'.2.1 = ks' ++ l' :: rs') (hl : l.1 = l'.1) : ks = ks' ∧ l = l' := by
  obtain ⟨p, w, m, hp, hw, p1, w1, ⟨a, b, c, k, h⟩, _⟩ := tree_at W P he q
  obtain ⟨p', w', m', hp', hw', p1', w1', ⟨a', b', c', k', h'⟩, _⟩ := tree_at W P he' q'
  rw [hl] at k
  rw [k] at k'
  cases k'
  have go : p.1 = p'.1 → w.1 = w'.1 → ks = ks' ∧ l = l' := fun z1 z2 => by
    have e1 := ent_eq W.nd hp hp' z1
    have e2 := ent_eq W.nd hw hw' z2
    subst e1; subst e2
    have : ks = ks' := p1.symm.trans p1'
    subst this
    rw [w1] at w1'
    have := List.append_cancel_left w1'
    exact ⟨rfl, by simpa using this⟩
  have no : p.1 = w'.1 → w.1 = p'.1 → ks = ks' ∧ l = l' := fun z1 z2 => by
    have e1 := ent_eq W.nd hp hw' z1
    have e2 := ent_eq W.nd hw hp' z2
    subst e1; subst e2
    rw [p1] at w1'
    rw [w1] at p1'
    have h1 := congrArg List.length w1'
    have h2 := congrArg List.length p1'
    simp at h1 h2
    omega
  rcases h with ⟨_, u1, v1, _⟩ | ⟨_, u1, v1, _⟩ <;> rcases h' with ⟨_, u2, v2, _⟩ | ⟨_, u2, v2, _⟩
  · exact go (by omega) (by omega)
  · exact no (by omega) (by omega)
  · exact no (by omega) (by omega)
  · exact go (by omega) (by omega)
theorem tree_nodup {ts : List Tel} {s : Nat} {fd : List Ent} (W : Wk ts s fd) (P : Pf fd) {e : Ent} (he : e ∈ fd) : (e.2.1.map (·.1)).Nodup := by
  rw [List.nodup_iff_pairwise_ne, List.pairwise_map, List.pairwise_iff_getElem]
  intro i j hi hj hij z
  have q1 : e.2.1 = e.2.1.take i ++ e.2.1[i] :: e.2.1.drop (i + 1) := by rw [← List.drop_eq_getElem_cons hi, List.take_append_drop]
  have q2 : e.2.1 = e.2.1.take j ++ e.2.1[j] :: e.2.1.drop (j + 1) := by rw [← List.drop_eq_getElem_cons hj, List.take_append_drop]
  have := (tree_same W P he he q1 q2 z).1
  have := congrArg List.length this
  simp at this
  omega
/-- a telling that does not go with the tree is none of it -/
theorem tree_off {ts : List Tel} {s : Nat} {fd : List Ent} (W : Wk ts s fd) (P : Pf fd) {i a b : Nat} {m : Int} (ht : ts[i]? = some (a, b, m)) {ea eb : Ent} (ha : ea ∈ fd) (hb : eb ∈ fd) (qa : ea.1 = a) (qb : eb.1 = b) (hne : ea.2.2 + m ≠ eb.2.2) {e : Ent} (he : e ∈ fd) : i ∉ e.2.1.map (·.1) := fun z => by
  obtain ⟨l, hl, rfl⟩ := List.mem_map.1 z
  obtain ⟨ks, rs, q⟩ := List.append_of_mem hl
  obtain ⟨p, w, mm, hp, hw, p1, w1, ⟨a', b', c', k', h'⟩, hs⟩ := tree_at W P he q
  rw [ht] at k'
  cases k'
  rcases h' with ⟨_, u, v, rfl⟩ | ⟨_, u, v, rfl⟩
  · have e1 := ent_eq W.nd ha hp (by omega)
    have e2 := ent_eq W.nd hb hw (by omega)
    subst e1; subst e2
    omega
  · have e1 := ent_eq W.nd ha hw (by omega)
    have e2 := ent_eq W.nd hb hp (by omega)
    subst e1; subst e2
    omega
def strp : List Lnk → List Lnk → List Lnk × List Lnk
  | x :: xs, y :: ys => if x = y then strp xs ys else (x :: xs, y :: ys)
  | xs, ys => (xs, ys)
theorem strp_ok : ∀ (P Q : List Lnk), ∃ c, P = c ++ (strp P Q).1 ∧ Q = c ++ (strp P Q).2 ∧ ∀ x xs y ys, (strp P Q).1 = x :: xs → (strp P Q).2 = y :: ys → x ≠ y
  | [], Q => ⟨[], by simp [strp], by simp [strp], by simp [strp]⟩
  | x :: xs, [] => ⟨[], by simp [strp], by simp [strp], by simp [strp]⟩
  | x :: xs, y :: ys => by
    unfold strp
    by_cases h : x = y
    · rw [if_pos h]
      obtain ⟨c, h1, h2, h3⟩ := strp_ok xs ys
      exact ⟨x :: c, by rw [List.cons_append, ← h1], by rw [List.cons_append, ← h2, h], h3⟩
    · rw [if_neg h]
      refine ⟨[], rfl, rfl, fun a as b bs e1 e2 => ?_⟩
      cases e1; cases e2
      exact h
def plainC (L : List Lnk) : Bool := decide (1 < L.length) && decide (L.head? = L.getLast?.map fun l => (l.1, -l.2))
def plainF : Nat → List Lnk → List Lnk
  | 0, L => L
  | k + 1, L => if plainC L then plainF k ((L.drop 1).dropLast) else L
theorem revL_cons (l : Lnk) (ls : List Lnk) : revL (l :: ls) = revL ls ++ [(l.1, -l.2)] := by simp [revL]
theorem plainC_eq (x y : Lnk) (M : List Lnk) : plainC (x :: (M ++ [y])) = decide (x = (y.1, -y.2)) := by
  unfold plainC
  have e : (x :: (M ++ [y])).getLast? = some y := by
    rw [← List.cons_append, List.getLast?_append]
    simp
  simp only [e]
  simp
theorem ring_plain (i : Nat) : ∀ (k : Nat) (P Q : List Lnk), i ∉ P.map (·.1) → i ∉ Q.map (·.1) → P.length < k → plainF k (P ++ (i, 1) :: revL Q) = (strp P Q).1 ++ (i, 1) :: revL (strp P Q).2
  | 0, P, Q, _, _, h => by omega
  | k + 1, [], [], _, _, _ => by
    unfold plainF plainC
    simp [revL, strp]
  | k + 1, [], q :: Q, h1, h2, _ => by
    have e0 : [] ++ (i, (1 : Int)) :: revL (q :: Q) = (i, 1) :: (revL Q ++ [(q.1, -q.2)]) := by rw [revL_cons]; rfl
    unfold plainF
    rw [e0, plainC_eq, decide_eq_false (fun z => by
      have := congrArg Prod.fst z
      simp at this
      simp at h2
      exact h2.1 this), if_neg (by simp)]
    exact e0.symm
  | k + 1, p :: P, [], h1, h2, _ => by
    have e0 : p :: P ++ (i, (1 : Int)) :: revL [] = p :: (P ++ [(i, 1)]) := rfl
    unfold plainF
    rw [e0, plainC_eq, decide_eq_false (fun z => by
      simp at h1
      exact h1.1 (by rw [z])), if_neg (by simp)]
    exact e0.symm
  | k + 1, p :: P, q :: Q, h1, h2, hk => by
    unfold plainF
    have e0 : p :: P ++ (i, (1 : Int)) :: revL (q :: Q) = p :: ((P ++ (i, 1) :: revL Q) ++ [(q.1, -q.2)]) := by rw [revL_cons]; simp
    rw [e0, plainC_eq]
    have e1 : decide (p = ((q.1, -q.2).1, -(q.1, -q.2).2)) = decide (p = q) := by simp
    rw [e1]
    unfold strp
    by_cases h : p = q
    · rw [decide_eq_true h, if_pos rfl, if_pos h]
      have : (List.drop 1 (p :: (P ++ (i, (1 : Int)) :: revL Q ++ [(q.1, -q.2)]))).dropLast = P ++ (i, 1) :: revL Q := by rw [List.drop_one, List.tail_cons, List.dropLast_concat]
      rw [this]
      simp at h1 h2 hk
      exact ring_plain i k P Q (by simpa using h1.2) (by simpa using h2.2) hk
    · rw [decide_eq_false h, if_neg (by simp), if_neg h]
      rw [← e0]
theorem revL_nums (Q : List Lnk) : (revL Q).map (·.1) = (Q.map (·.1)).reverse := by
  unfold revL
  rw [List.map_reverse, List.map_map]
  rfl
/-- the ring of a telling that does not go with the tree -/
theorem ring_ok {ts : List Tel} {s : Nat} {fd : List Ent} (W : Wk ts s fd) (P : Pf fd) {i a b : Nat} {m : Int} (ht : ts[i]? = some (a, b, m)) {ea eb : Ent} (ha : ea ∈ fd) (hb : eb ∈ fd) (qa : ea.1 = a) (qb : eb.1 = b) (hne : ea.2.2 + m ≠ eb.2.2) :
    ∃ x r, Ch ts ((strp ea.2.1 eb.2.1).1 ++ (i, 1) :: revL (strp ea.2.1 eb.2.1).2) x x r ∧ r ≠ 0 ∧ (((strp ea.2.1 eb.2.1).1 ++ (i, 1) :: revL (strp ea.2.1 eb.2.1).2).map (·.1)).Nodup := by
  obtain ⟨c, h1, h2, h3⟩ := strp_ok ea.2.1 eb.2.1
  have oa := tree_off W P ht ha hb qa qb hne ha
  have ob := tree_off W P ht ha hb qa qb hne hb
  have na := tree_nodup W P ha
  have nb := tree_nodup W P hb
  have ca := W.ch ea ha
  have cb := W.ch eb hb
  have same : ∀ ks l rs ks' l' rs', ea.2.1 = ks ++ l :: rs → eb.2.1 = ks' ++ l' :: rs' → l.1 = l'.1 → ks = ks' ∧ l = l' := fun ks l rs ks' l' rs' q q' z => tree_same W P ha hb q q' z
  revert h1 h2 h3
  generalize (strp ea.2.1 eb.2.1).1 = A
  generalize (strp ea.2.1 eb.2.1).2 = B
  intro h1 h2 h3
  rw [h1] at oa na ca same
  rw [h2] at ob nb cb same
  obtain ⟨x, y, z, d1, d2, d3⟩ := ca.cut
  obtain ⟨x', y', z', f1, f2, f3⟩ := cb.cut
  obtain ⟨rfl, rfl⟩ := d1.fun_ f1
  rw [qa] at d2
  rw [qb] at f2
  refine ⟨x, z + (m + -z'), d2.app ⟨b, m, -z', ⟨a, b, m, ht, .inl ⟨rfl, rfl, rfl, rfl⟩⟩, f2.rev, rfl⟩, by omega, ?_⟩
  rw [List.map_append, List.nodup_append, List.map_cons, List.nodup_cons, revL_nums]
  rw [List.map_append, List.nodup_append] at na nb
  rw [List.map_append, List.mem_append] at oa ob
  refine ⟨na.2.1, ⟨fun z => ob (.inr (by simpa using z)), (List.reverse_perm _).nodup_iff.2 nb.2.1⟩, fun u hu v hv e => ?_⟩
  rcases List.mem_cons.1 hv with rfl | hv
  · subst e
    exact oa (.inr hu)
  · rw [List.mem_reverse] at hv
    subst e
    obtain ⟨l, hl, e1⟩ := List.mem_map.1 hu
    obtain ⟨l', hl', e2⟩ := List.mem_map.1 hv
    obtain ⟨ks, rs, r1⟩ := List.append_of_mem hl
    obtain ⟨ks', rs', r2⟩ := List.append_of_mem hl'
    have g := same (c ++ ks) l rs (c ++ ks') l' rs' (by rw [r1]; simp) (by rw [r2]; simp) (by omega)
    obtain ⟨g1, rfl⟩ := g
    have g1 := List.append_cancel_left g1
    subst g1
    cases ks with
    | nil => exact h3 l rs l rs' r1 r2 rfl
    | cons k ks => exact h3 k _ k _ r1 r2 rfl
end GB

namespace GB
/-! ## sums over points -/
def sm (f : Nat → Nat) : Nat → Nat
  | 0 => 0
  | n + 1 => sm f n + f n
theorem sm_congr {f g : Nat → Nat} : ∀ {N : Nat}, (∀ i, i < N → f i = g i) → sm f N = sm g N
  | 0, _ => rfl
  | N + 1, h => by
    unfold sm
    rw [sm_congr (N := N) fun i hi => h i (by omega), h N (by omega)]
theorem sm_add (f g : Nat → Nat) : ∀ N : Nat, sm (fun i => f i + g i) N = sm f N + sm g N
  | 0 => rfl
  | N + 1 => by
    unfold sm
    rw [sm_add f g N]
    omega
theorem sm_mul (c : Nat) (f : Nat → Nat) : ∀ N : Nat, sm (fun i => f i * c) N = sm f N * c
  | 0 => by simp [sm]
  | N + 1 => by
    unfold sm
    rw [sm_mul c f N, Nat.add_mul]
theorem sm_zero : ∀ N : Nat, sm (fun _ => 0) N = 0
  | 0 => rfl
  | N + 1 => by unfold sm; rw [sm_zero N]
theorem sm_ones : ∀ N : Nat, sm (fun _ => 1) N = N
  | 0 => rfl
  | N + 1 => by unfold sm; rw [sm_ones N]
theorem sm_swap (f : Nat → Nat → Nat) (M : Nat) : ∀ N : Nat, sm (fun i => sm (f i) M) N = sm (fun j => sm (fun i => f i j) N) M
  | 0 => (sm_zero M).symm
  | N + 1 => by
    show sm (fun i => sm (f i) M) N + sm (f N) M = _
    rw [sm_swap f M N, ← sm_add]
    rfl
theorem sm_one {g : Nat → Nat} {m : Nat} : ∀ {N : Nat}, m < N → sm (fun j => if m = j then g j else 0) N = g m
  | 0, h => by omega
  | N + 1, h => by
    unfold sm
    by_cases e : m = N
    · subst e
      rw [if_pos rfl, sm_congr (g := fun _ => 0) (fun i hi => if_neg (by omega)), sm_zero]
      omega
    · rw [if_neg e, sm_one (N := N) (by omega)]
      omega
theorem sm_range (f : Nat → Nat) : ∀ N : Nat, ((List.range N).map f).sum = sm f N
  | 0 => rfl
  | N + 1 => by
    rw [List.range_succ, List.map_append, List.sum_append, sm_range f N]
    simp [sm]
theorem len_filter (p : Nat → Bool) : ∀ N : Nat, ((List.range N).filter p).length = sm (fun v => if p v = true then 1 else 0) N
  | 0 => rfl
  | N + 1 => by
    rw [List.range_succ, List.filter_append, List.length_append, len_filter p N]
    show _ = sm (fun v => if p v = true then 1 else 0) N + _
    cases h : p N <;> simp [h]
theorem sum_filter (p : Nat → Bool) (f : Nat → Nat) : ∀ N : Nat, (((List.range N).filter p).map f).sum = sm (fun v => if p v = true then f v else 0) N
  | 0 => rfl
  | N + 1 => by
    rw [List.range_succ, List.filter_append, List.map_append, List.sum_append, sum_filter p f N]
    show _ = sm (fun v => if p v = true then f v else 0) N + _
    cases h : p N <;> simp [h]
/-! ## how many points a lot has; how many stretches are sure -/
def cnt (n : Nat) (ms : List Nat) (m : Nat) : Nat := (lotOf n ms m).length
theorem cnt_sm (n : Nat) (ms : List Nat) (m : Nat) : cnt n ms m = sm (fun v => if ms.getD v 0 = m then 1 else 0) (n + 1) := by
  unfold cnt lotOf
  rw [len_filter]
  exact sm_congr fun v _ => by
    by_cases h : ms.getD v 0 = m
    · rw [if_pos h, if_pos (decide_eq_true h)]
    · rw [if_neg h, if_neg (by rw [decide_eq_false h]; simp)]
theorem range_getD {n : Nat} {ms : List Nat} (hl : ms.length = n + 1) : ms = (List.range (n + 1)).map fun v => ms.getD v 0 := by
  apply List.ext_getElem
  · simp [hl]
  · intro i h1 h2
    simp
    rw [List.getElem?_eq_getElem h1]
    rfl
theorem cnt_count {n : Nat} {ms : List Nat} (hl : ms.length = n + 1) (m : Nat) : ms.count m = cnt n ms m := by
  have e := range_getD hl
  unfold cnt lotOf
  rw [List.count_eq_countP, ← List.countP_eq_length_filter]
  conv => lhs; rw [e]
  rw [List.countP_map]
  congr 1
def sureN (n : Nat) (ms : List Nat) : Nat := ((heads n ms).map fun m => cnt n ms m * (cnt n ms m - 1) / 2).sum
def totN (n : Nat) (ms : List Nat) : Nat := sm (fun u => cnt n ms (ms.getD u 0)) (n + 1)
theorem half (c : Nat) : c * (c - 1) / 2 + c * (c - 1) / 2 + c = c * c := by
  have h : c * (c - 1) % 2 = 0 := by
    rw [Nat.mul_mod]
    rcases Nat.mod_two_eq_zero_or_one c with h | h
    · rw [h]; simp
    · rw [h]
      have : (c - 1) % 2 = 0 := by omega
      rw [this]
  have e : c * (c - 1) + c = c * c := by
    cases c with
    | zero => rfl
    | succ c => rw [Nat.add_sub_cancel, ← Nat.mul_succ]
  omega
/-- what the marks are to keep -/
structure Mo (n : Nat) (ms : List Nat) : Prop where
  len : ms.length = n + 1
  le : ∀ u, u ≤ n → ms.getD u 0 ≤ u
  fix : ∀ u, u ≤ n → ms.getD (ms.getD u 0) 0 = ms.getD u 0
theorem Mk.mo {n : Nat} {ts : List Tel} {ms : List Nat} (M : Mk n ts ms) : Mo n ms := ⟨M.len, M.le, M.fix⟩
/-- points by lots -/
theorem by_lots {n : Nat} {ms : List Nat} (M : Mo n ms) (g : Nat → Nat) : sm (fun u => g (ms.getD u 0)) (n + 1) = sm (fun m => cnt n ms m * g m) (n + 1) := by
  rw [sm_congr (g := fun u => sm (fun m => if ms.getD u 0 = m then g m else 0) (n + 1)) (fun u hu => (sm_one (by have := M.le u (by omega); omega)).symm), sm_swap]
  refine sm_congr fun m _ => ?_
  rw [cnt_sm, ← sm_mul]
  exact sm_congr fun u _ => by split <;> omega
theorem cnt_head {n : Nat} {ms : List Nat} (M : Mo n ms) {m : Nat} (h : ms.getD m 0 ≠ m) : cnt n ms m = 0 := by
  rw [cnt_sm, sm_congr (g := fun _ => 0) (fun v hv => if_neg fun z => h (by
    have := M.fix v (by omega)
    rwa [z] at this)), sm_zero]
theorem sure_tot {n : Nat} {ms : List Nat} (M : Mo n ms) : sureN n ms + sureN n ms + (n + 1) = totN n ms := by
  have e1 : sureN n ms = sm (fun m => cnt n ms m * (cnt n ms m - 1) / 2) (n + 1) := by
    unfold sureN heads
    rw [sum_filter]
    exact sm_congr fun m _ => by
      by_cases h : ms.getD m 0 = m
      · rw [if_pos (decide_eq_true h)]
      · rw [if_neg (by rw [decide_eq_false h]; simp), cnt_head M h]
  have e2 : n + 1 = sm (fun m => cnt n ms m) (n + 1) := by
    have := by_lots M fun _ => 1
    rw [sm_ones] at this
    conv => lhs; rw [this]
    exact sm_congr fun m _ => by omega
  rw [e1]
  conv => lhs; rhs; rw [e2]
  rw [← sm_add, ← sm_add]
  unfold totN
  rw [by_lots M]
  exact sm_congr fun m _ => half _
/-- two lots made one -/
theorem mk1_same {n : Nat} {ms : List Nat} {t : Tel} (h : ms.getD t.1 0 = ms.getD t.2.1 0) : mk1 ms t = ms := by
  unfold mk1
  rw [h, Nat.max_self, Nat.min_self]
  conv => rhs; rw [← List.map_id ms]
  apply List.map_congr_left
  intro m _
  split
  · rename_i e; exact e.symm
  · rfl
theorem cnt_join {n : Nat} {ms : List Nat} {t : Tel} (M : Mo n ms) (h1 : t.1 ≤ n) (h2 : t.2.1 ≤ n) (hne : ms.getD t.1 0 ≠ ms.getD t.2.1 0) {u : Nat} (hu : u ≤ n) :
    cnt n (mk1 ms t) ((mk1 ms t).getD u 0) = cnt n ms (ms.getD u 0) + ((if ms.getD u 0 = ms.getD t.1 0 then 1 else 0) * cnt n ms (ms.getD t.2.1 0) + (if ms.getD u 0 = ms.getD t.2.1 0 then 1 else 0) * cnt n ms (ms.getD t.1 0)) := by
  have hat := fun v (hv : v ≤ n) => mk1_at (ms := ms) (t := t) M.len hv
  rw [cnt_sm, cnt_sm, cnt_sm, cnt_sm]
  rw [sm_congr (fun v hv => by rw [hat v (by omega)])]
  rw [hat u hu]
  generalize ms.getD t.1 0 = a at *
  generalize ms.getD t.2.1 0 = b at *
  generalize ms.getD u 0 = x at *
  by_cases xa : x = a
  · rw [if_pos xa, if_neg (show ¬ x = b by omega)]
    simp only [Nat.one_mul, Nat.zero_mul, Nat.add_zero]
    rw [← sm_add]
    refine sm_congr fun v _ => ?_
    generalize ms.getD v 0 = y
    (repeat' split) <;> omega
  · by_cases xb : x = b
    · rw [if_neg xa, if_pos xb]
      simp only [Nat.one_mul, Nat.zero_mul, Nat.zero_add]
      rw [← sm_add]
      refine sm_congr fun v _ => ?_
      generalize ms.getD v 0 = y
      (repeat' split) <;> omega
    · rw [if_neg xa, if_neg xb]
      simp only [Nat.zero_mul, Nat.add_zero]
      refine sm_congr fun v _ => ?_
      generalize ms.getD v 0 = y
      (repeat' split) <;> omega
theorem sure_join {n : Nat} {ms : List Nat} {t : Tel} (M : Mo n ms) (M' : Mo n (mk1 ms t)) (h1 : t.1 ≤ n) (h2 : t.2.1 ≤ n) (hne : ms.getD t.1 0 ≠ ms.getD t.2.1 0) : sureN n (mk1 ms t) = sureN n ms + cnt n ms (ms.getD t.1 0) * cnt n ms (ms.getD t.2.1 0) := by
  have e1 := sure_tot M
  have e2 := sure_tot M'
  have e3 : totN n (mk1 ms t) = totN n ms + (cnt n ms (ms.getD t.1 0) * cnt n ms (ms.getD t.2.1 0) + cnt n ms (ms.getD t.2.1 0) * cnt n ms (ms.getD t.1 0)) := by
    unfold totN
    rw [sm_congr (fun u hu => cnt_join M h1 h2 hne (show u ≤ n by omega)), sm_add, sm_add, sm_mul, sm_mul, ← cnt_sm, ← cnt_sm]
  rw [Nat.mul_comm (cnt n ms (ms.getD t.2.1 0))] at e3
  omega
theorem heads_join {n : Nat} {ms : List Nat} {t : Tel} (M : Mo n ms) (h1 : t.1 ≤ n) (h2 : t.2.1 ≤ n) (hne : ms.getD t.1 0 ≠ ms.getD t.2.1 0) : (heads n (mk1 ms t)).length + 1 = (heads n ms).length := by
  unfold heads
  rw [len_filter, len_filter]
  have f1 := M.fix t.1 h1
  have f2 := M.fix t.2.1 h2
  have l1 := M.le t.1 h1
  have l2 := M.le t.2.1 h2
  have hat := fun v (hv : v ≤ n) => mk1_at (ms := ms) (t := t) M.len hv
  have e : ∀ m, m < n + 1 → (if decide (ms.getD m 0 = m) = true then 1 else 0) = (if decide ((mk1 ms t).getD m 0 = m) = true then 1 else 0) + (if max (ms.getD t.1 0) (ms.getD t.2.1 0) = m then 1 else 0) := fun m hm => by
    rw [hat m (by omega)]
    simp only [decide_eq_true_eq]
    generalize ms.getD t.1 0 = a at *
    generalize ms.getD t.2.1 0 = b at *
    by_cases z : max a b = m
    · have : ms.getD m 0 = m := by
        rcases Nat.le_total a b with q | q
        · rw [show m = b by omega]; exact f2
        · rw [show m = a by omega]; exact f1
      have q : ¬ ((if ms.getD m 0 = max a b then min a b else ms.getD m 0) = m) := by
        rw [if_pos (by omega)]
        omega
      rw [if_pos z, if_pos this, if_neg q]
    · rw [if_neg z]
      by_cases y : ms.getD m 0 = max a b
      · rw [if_pos y, if_neg (by omega), if_neg (fun w => ?_)]
        rcases Nat.le_total a b with q | q
        · rw [show m = a by omega] at y
          omega
        · rw [show m = b by omega] at y
          omega
      · rw [if_neg y]
        rfl
  rw [sm_congr e, sm_add, sm_one (g := fun _ => 1) (by omega)]
/-! ## what the chains lead to depends on the tellings alone, not on their order -/
theorem Conn.sub {ts us : List Tel} (h : ∀ t ∈ ts, t ∈ us) {u v : Nat} (c : Conn ts u v) : Conn us u v := by
  obtain ⟨ls, s, c⟩ := c
  have key : ∀ (ls : List Lnk) (u v : Nat) (s : Int), Ch ts ls u v s → Conn us u v := by
    intro ls
    induction ls with
    | nil => intro u v s ⟨e, _⟩; rw [e]; exact Conn.refl v
    | cons l ls ih =>
      intro u v s ⟨w, m, r, ⟨a, b, c, e, q⟩, h2, _⟩
      have hm := h _ (List.mem_of_getElem? e)
      obtain ⟨i, hi, e2⟩ := List.mem_iff_getElem.1 hm
      have hc : Conn us a b := Conn.tell (i := i) (m := c) (by rw [List.getElem?_eq_getElem hi, e2])
      rcases q with ⟨_, rfl, rfl, _⟩ | ⟨_, rfl, rfl, _⟩
      · exact hc.trans (ih _ _ _ h2)
      · exact hc.symm.trans (ih _ _ _ h2)
  exact key ls u v s c
theorem Tru.sub {ts us : List Tel} (h : ∀ t ∈ us, t ∈ ts) (T : Tru ts) : Tru us := by
  obtain ⟨f, hf⟩ := T
  exact ⟨f, fun t ht => hf t (h t ht)⟩
theorem Mk.uniq {n : Nat} {ts us : List Tel} {ms ks : List Nat} (M : Mk n ts ms) (K : Mk n us ks) (h : ∀ u v, u ≤ n → v ≤ n → (Conn ts u v ↔ Conn us u v)) : ms = ks := by
  rw [range_getD M.len, range_getD K.len]
  apply List.map_congr_left
  intro v hv
  have hv : v ≤ n := by rw [List.mem_range] at hv; omega
  have a1 := M.le v hv
  have a2 := K.le v hv
  have b1 := K.least hv (by omega) ((h _ _ hv (by omega)).1 (M.con v hv))
  have b2 := M.least hv (by omega) ((h _ _ hv (by omega)).2 (K.con v hv))
  omega
theorem marksB_sub {n : Nat} {ts us : List Tel} (h1 : Fit n ts) (h2 : ∀ t, t ∈ ts ↔ t ∈ us) : marksB n ts = marksB n us :=
  Mk.uniq (marksB_ok h1) (marksB_ok fun t ht => h1 t ((h2 t).2 ht)) fun u v _ _ => ⟨fun c => c.sub fun t ht => (h2 t).1 ht, fun c => c.sub fun t ht => (h2 t).2 ht⟩
theorem marksB_snoc (n : Nat) (ts : List Tel) (t : Tel) : marksB n (ts ++ [t]) = mk1 (marksB n ts) t := by
  unfold marksB
  rw [List.foldl_append]
  rfl
/-! ## pairs -/
theorem pairs_tot (r : Nat → Nat → Nat) (hs : ∀ u v, r u v = r v u) (hr : ∀ u, r u u = 1) : ∀ n : Nat, sm (fun a => sm (fun i => r a (a + 1 + i)) (n - a)) n + sm (fun a => sm (fun i => r a (a + 1 + i)) (n - a)) n + (n + 1) = sm (fun u => sm (r u) (n + 1)) (n + 1)
  | 0 => by simp [sm, hr]
  | n + 1 => by
    have ih := pairs_tot r hs hr n
    have e1 : sm (fun a => sm (fun i => r a (a + 1 + i)) (n + 1 - a)) (n + 1) = sm (fun a => sm (fun i => r a (a + 1 + i)) (n - a)) n + sm (fun a => r a (n + 1)) (n + 1) := by
      rw [sm_congr (g := fun a => sm (fun i => r a (a + 1 + i)) (n - a) + r a (n + 1)) (fun a ha => by
        rw [show n + 1 - a = (n - a) + 1 by omega]
        show _ + r a (a + 1 + (n - a)) = _
        rw [show a + 1 + (n - a) = n + 1 by omega]), sm_add]
      congr 1
      show _ + sm _ (n - n) = _
      rw [Nat.sub_self]
      rfl
    have e2 : sm (fun u => sm (r u) (n + 1 + 1)) (n + 1 + 1) = sm (fun u => sm (r u) (n + 1)) (n + 1) + sm (fun u => r u (n + 1)) (n + 1) + (sm (fun u => r u (n + 1)) (n + 1) + 1) := by
      show sm (fun u => sm (r u) (n + 1) + r u (n + 1)) (n + 1) + (sm (r (n + 1)) (n + 1) + r (n + 1) (n + 1)) = _
      rw [sm_add, hr, sm_congr (f := r (n + 1)) (g := fun u => r u (n + 1)) (fun u _ => hs _ _)]
    rw [e1, e2]
    omega
theorem sure_pairs {n : Nat} {ms : List Nat} (M : Mo n ms) : sm (fun a => sm (fun i => if ms.getD a 0 = ms.getD (a + 1 + i) 0 then 1 else 0) (n - a)) n = sureN n ms := by
  have e := pairs_tot (fun u v => if ms.getD u 0 = ms.getD v 0 then 1 else 0) (fun u v => by
    by_cases h : ms.getD u 0 = ms.getD v 0
    · rw [if_pos h, if_pos h.symm]
    · rw [if_neg h, if_neg fun z => h z.symm]) (fun u => if_pos rfl) n
  have e2 : sm (fun u => sm (fun v => if ms.getD u 0 = ms.getD v 0 then 1 else 0) (n + 1)) (n + 1) = totN n ms := by
    unfold totN
    refine sm_congr fun u _ => ?_
    rw [cnt_sm]
    exact sm_congr fun v _ => by
      by_cases h : ms.getD u 0 = ms.getD v 0
      · rw [if_pos h, if_pos h.symm]
      · rw [if_neg h, if_neg fun z => h z.symm]
  have e3 := sure_tot M
  rw [e2] at e
  omega
end GB

namespace LAW
open PySem PySem.Spec L2 PyProof.Rows DL
/-! ### the text -/
def topS (i : Nat) : Stmt := PySem.Challenge.pw_stretchchains_k27_whole_two_notes.main.body.getD i (.Pass ⟨0, 0, 0, 0⟩)
def clsS (i j : Nat) : Stmt := match topS i with
  | .ClassDef _ _ _ b _ _ _ _ _ _ _ => b.getD j (.Pass ⟨0, 0, 0, 0⟩)
  | _ => .Pass ⟨0, 0, 0, 0⟩
abbrev s_Notes_back : Stmt := clsS 20 10
abbrev s_Notes_book : Stmt := clsS 20 4
abbrev s_Notes_eq : Stmt := clsS 20 3
abbrev s_Notes_note : Stmt := clsS 20 5
abbrev s_is_within : Stmt := topS 12
abbrev s_Notes_forget : Stmt := clsS 20 7
abbrev s_Notes_init : Stmt := clsS 20 0
abbrev s_Notes_len : Stmt := clsS 20 1
abbrev s_ties_of : Stmt := topS 16
abbrev s_walked : Stmt := topS 17
abbrev s_lots_of : Stmt := topS 18
abbrev s_Notes_open_lots : Stmt := clsS 20 9
abbrev s_Notes_str : Stmt := clsS 20 2
abbrev s_is_telling : Stmt := topS 13
abbrev s_Notes_tell : Stmt := clsS 20 6
abbrev s_Notes_twin : Stmt := clsS 20 11
abbrev s__law_all_stretches : Stmt := topS 26
abbrev s__law_hidden : Stmt := topS 24
abbrev s__law_cell : Stmt := topS 22
abbrev s__law_row : Stmt := topS 23
abbrev s__law_book : Stmt := topS 25
abbrev s_look_stretch : Stmt := topS 14
abbrev s_Notes_comes_to : Stmt := clsS 20 8
abbrev s__law_note_told : Stmt := topS 27
abbrev s_law : Stmt := topS 28
theorem sc_Notes_back : FnScope ["self"] ["self"] (defScope s_Notes_back) := ⟨rfl, rfl, rfl, by decide +kernel, rfl, by decide +kernel, by decide +kernel⟩
theorem sc_Notes_book : FnScope ["self"] ["self"] (defScope s_Notes_book) := ⟨rfl, rfl, rfl, by decide +kernel, rfl, by decide +kernel, by decide +kernel⟩
theorem sc_Notes_eq : FnScope ["self", "other"] ["self", "other"] (defScope s_Notes_eq) := ⟨rfl, rfl, rfl, by decide +kernel, rfl, by decide +kernel, by decide +kernel⟩
theorem sc_Notes_note : FnScope ["self", "word"] ["self", "word"] (defScope s_Notes_note) := ⟨rfl, rfl, rfl, by decide +kernel, rfl, by decide +kernel, by decide +kernel⟩
theorem sc_is_within : FnScope ["thing", "low", "high"] ["thing", "low", "high"] (defScope s_is_within) := ⟨rfl, rfl, rfl, by decide +kernel, rfl, by decide +kernel, by decide +kernel⟩
theorem sc_Notes_forget : FnScope ["self", "number", "found"] ["self", "number"] (defScope s_Notes_forget) := ⟨rfl, rfl, rfl, by decide +kernel, rfl, by decide +kernel, by decide +kernel⟩
theorem sc_Notes_init : FnScope ["self", "many"] ["self", "many"] (defScope s_Notes_init) := ⟨rfl, rfl, rfl, by decide +kernel, rfl, by decide +kernel, by decide +kernel⟩
theorem sc_Notes_len : FnScope ["self"] ["self"] (defScope s_Notes_len) := ⟨rfl, rfl, rfl, by decide +kernel, rfl, by decide +kernel, by decide +kernel⟩
theorem sc_ties_of : FnScope ["book", "found", "number", "start", "end", "much", "point"] ["book"] (defScope s_ties_of) := ⟨rfl, rfl, rfl, by decide +kernel, rfl, by decide +kernel, by decide +kernel⟩
theorem sc_walked : FnScope ["book", "start", "ties", "found", "rim", "later", "point", "number", "sign", "other", "much"] ["book", "start"] (defScope s_walked) := ⟨rfl, rfl, rfl, by decide +kernel, rfl, by decide +kernel, by decide +kernel⟩
theorem sc_lots_of : FnScope ["book", "left", "found", "some", "point"] ["book"] (defScope s_lots_of) := ⟨rfl, rfl, rfl, by decide +kernel, rfl, by decide +kernel, by decide +kernel⟩
theorem sc_Notes_open_lots : FnScope ["self"] ["self"] (defScope s_Notes_open_lots) := ⟨rfl, rfl, rfl, by decide +kernel, rfl, by decide +kernel, by decide +kernel⟩
theorem sc_Notes_str : FnScope ["self", "start", "end", "much"] ["self"] (defScope s_Notes_str) := ⟨rfl, rfl, rfl, by decide +kernel, rfl, by decide +kernel, by decide +kernel⟩
theorem sc_is_telling : FnScope ["many", "thing"] ["many", "thing"] (defScope s_is_telling) := ⟨rfl, rfl, rfl, by decide +kernel, rfl, by decide +kernel, by decide +kernel⟩
theorem sc_Notes_tell : FnScope ["self", "start", "end", "much", "telling", "sums"] ["self", "start", "end", "much"] (defScope s_Notes_tell) := ⟨rfl, rfl, rfl, by decide +kernel, rfl, by decide +kernel, by decide +kernel⟩
theorem sc_Notes_twin : FnScope ["self", "found"] ["self"] (defScope s_Notes_twin) := ⟨rfl, rfl, rfl, by decide +kernel, rfl, by decide +kernel, by decide +kernel⟩
theorem sc__law_all_stretches : FnScope ["many", "found", "start", "end"] ["many"] (defScope s__law_all_stretches) := ⟨rfl, rfl, rfl, by decide +kernel, rfl, by decide +kernel, by decide +kernel⟩
theorem sc__law_hidden : FnScope ["draws", "at", "many", "place"] ["draws", "at", "many"] (defScope s__law_hidden) := ⟨rfl, rfl, rfl, by decide +kernel, rfl, by decide +kernel, by decide +kernel⟩
theorem sc__law_cell : FnScope ["script", "k"] ["script", "k"] (defScope s__law_cell) := ⟨rfl, rfl, rfl, by decide +kernel, rfl, by decide +kernel, by decide +kernel⟩
theorem sc__law_row : FnScope ["script", "at", "cell", "found", "time"] ["script", "at"] (defScope s__law_row) := ⟨rfl, rfl, rfl, by decide +kernel, rfl, by decide +kernel, by decide +kernel⟩
theorem sc__law_book : FnScope ["script", "at", "most_row", "wrong", "draws", "many", "hidden", "tellings", "time", "start", "end", "off"] ["script", "at", "most_row", "wrong"] (defScope s__law_book) := ⟨rfl, rfl, rfl, by decide +kernel, rfl, by decide +kernel, by decide +kernel⟩
theorem sc_look_stretch : FnScope ["many", "start", "end"] ["many", "start", "end"] (defScope s_look_stretch) := ⟨rfl, rfl, rfl, by decide +kernel, rfl, by decide +kernel, by decide +kernel⟩
theorem sc_Notes_comes_to : FnScope ["self", "start", "end", "found"] ["self", "start", "end"] (defScope s_Notes_comes_to) := ⟨rfl, rfl, rfl, by decide +kernel, rfl, by decide +kernel, by decide +kernel⟩
theorem sc__law_note_told : FnScope ["notes", "mode", "start", "end", "much", "e"] ["notes", "mode", "start", "end", "much"] (defScope s__law_note_told) := ⟨rfl, rfl, rfl, by decide +kernel, rfl, by decide +kernel, by decide +kernel⟩
theorem sc_law : FnScope ["script", "book", "many", "tellings", "first", "other", "sure", "number", "start", "end", "much", "twin", "telling"] ["script"] (defScope s_law) := ⟨rfl, rfl, rfl, by decide +kernel, rfl, by decide +kernel, by decide +kernel⟩
/-! ### the functions on data -/
abbrev C_StretchError : Addr := 24
abbrev C_BadStretch : Addr := 49
abbrev C_NotSure : Addr := 61
abbrev C_NotTrue : Addr := 73
abbrev C_BadNumber : Addr := 85
abbrev C_Nothing : Addr := 97
abbrev C_Notes : Addr := 229
/-- which of the classes stands under which -/
def cT : Addr → Addr → Option Bool
  | 49, 24 => some true
  | 49, 49 => some true
  | 49, 61 => some false
  | 49, 73 => some false
  | 49, 85 => some false
  | 49, 97 => some false
  | 61, 24 => some true
  | 61, 49 => some false
  | 61, 61 => some true
  | 61, 73 => some false
  | 61, 85 => some false
  | 61, 97 => some false
  | 73, 24 => some true
  | 73, 49 => some false
  | 73, 61 => some false
  | 73, 73 => some true
  | 73, 85 => some false
  | 73, 97 => some false
  | 85, 24 => some true
  | 85, 49 => some false
  | 85, 61 => some false
  | 85, 73 => some false
  | 85, 85 => some true
  | 85, 97 => some false
  | 97, 24 => some true
  | 97, 49 => some false
  | 97, 61 => some false
  | 97, 73 => some false
  | 97, 85 => some false
  | 97, 97 => some true
  | _, _ => none
def f_Notes_back : En → SM :=
  (mSeq (mOf (sIf (bNot (bTru (eCalls C_Notes 0)))
  (sRaise (.ref C_Nothing))
  sSkip))
  (mSeq (mTold C_Notes 0 (xPopB C_Notes 0))
  (mRet (xPopC C_Notes 0))))
def g_Notes_back : Ad → NSt → List PyData → MO := fnM C_Notes 0 1 f_Notes_back
def f_Notes_book : En → Re PyData :=
  (eTup (aCons (eMany C_Notes 0) (aCons (eTold C_Notes 0) aNil)))
def g_Notes_book : Ad → NSt → List PyData → Re PyData := fnR C_Notes 0 1 f_Notes_book
def f_Notes_eq : En → Re PyData :=
  (e2 dEq (eOb C_Notes 0 fun A st => g_Notes_book A st []) (eOb C_Notes 1 fun A st => g_Notes_book A st []))
def f_Notes_note : En → SM :=
  (mSeq (mAppB C_Notes 0 (eTold C_Notes 0))
  (mAppC C_Notes 0 (eVar 1)))
def g_Notes_note : Ad → NSt → List PyData → MO := fnM C_Notes 1 2 f_Notes_note
def f_is_within : En → SR :=
  (sRet (eAnd (e1 (dIsi .int) (eVar 0)) (eAnd (e1 dNot (e1 (dIsi .bool) (eVar 0))) (eChain (eVar 1) (eVar 0) (eVar 2)))))
def g_is_within : List PyData → Re PyData := fnD 3 3 f_is_within
def f_Notes_forget : En → SM :=
  (mSeq (mOf (sIf (bNot (bTru (eCall g_is_within (aCons (eVar 1) (aCons (eC (.int 0)) (aCons (e2 dSub (e1 dLen (eTold C_Notes 0)) (eC (.int 1))) aNil))))))
  (sRaise (.ref C_BadNumber))
  sSkip))
  (mSeq (mExpr (xGo C_Notes 0 g_Notes_note (aCons (eC (.str "forget")) aNil)))
  (mSeq (mOf (sSet 2 (e2 dSubs (eTold C_Notes 0) (eVar 1))))
  (mSeq (mTold C_Notes 0 (xOf (e2 dAdd (eSlice (eTold C_Notes 0) oNone (oSome (eVar 1))) (eSlice (eTold C_Notes 0) (oSome (e2 dAdd (eVar 1) (eC (.int 1)))) oNone))))
  (mRet (xOf (eVar 2)))))))
def g_Notes_forget : Ad → NSt → List PyData → MO := fnM C_Notes 1 3 f_Notes_forget
def gc_Notes_init : En → Re Bool := (bNot (bTru (eCall g_is_within (aCons (eVar 1) (aCons (eC (.int 1)) (aCons (eC (.int 16)) aNil))))))
theorem gc_Notes_ok : ∀ n : Int, 1 ≤ n → n ≤ 16 → gc_Notes_init [.no, .va (.int n)] = .ok false := fun n h1 h2 => by
  have e : g_is_within [.int n, .int 1, .int 16] = .ok (.bool true) := by
    refine fn_rt rfl ?_
    unfold f_is_within
    simp [dIsi, isTy, h1, h2]
  unfold gc_Notes_init
  simp [e]
def f_Notes_len : En → Re PyData :=
  (e1 dLen (eTold C_Notes 0))
def g_Notes_len : Ad → NSt → List PyData → Re PyData := fnR C_Notes 0 1 f_Notes_len
def f_ties_of : En → SR :=
  fTies
def g_ties_of : List PyData → Re PyData := fnD 1 7 f_ties_of
def p1_walked : En → SR :=
  (sFgt [7, 8, 9, 10] (sIf (toB (e2 dNotIn (eVar 9) (eLook 3)))
  (sSeq (sSto 3 (eVar 9) (eTup (aCons (e2 dAdd (e2 dSubs (e2 dSubs (eLook 3) (eVar 6)) (eC (.int 0))) (eLst (aCons (eTup (aCons (eVar 7) (aCons (eVar 8) aNil))) aNil))) (aCons (e2 dAdd (e2 dSubs (e2 dSubs (eLook 3) (eVar 6)) (eC (.int 1))) (eVar 10)) aNil))))
  (sApp 5 (eVar 9)))
  sSkip))
def p2_walked : En → SR :=
  (sFgt [6, 7, 8, 9, 10] (sFgt [7, 8, 9, 10] (sFor (iSeq (e2 dSubs (eLook 2) (eVar 6))) (tgTup [(tgName 7), (tgName 8), (tgName 9), (tgName 10)]) p1_walked)))
def p3_walked : En → SR :=
  (sFgt [5, 6, 7, 8, 9, 10] (sSeq (sOwn 5 (eLst aNil))
  (sSeq (sFgt [6, 7, 8, 9, 10] (sFor (iSeq (eVar 4)) (tgName 6) p2_walked))
  (sFrz 5 (sSet 4 (eVar 5))))))
def f_walked : En → SR :=
  (sSeq (sSet 2 (eCall g_ties_of (aCons (eVar 0) aNil)))
  (sSeq (sOwn 3 (eDct1 (eVar 1) (eTup (aCons (eLst aNil) (aCons (eC (.int 0)) aNil)))))
  (sSeq (sSet 4 (eLst (aCons (eVar 1) aNil)))
  (sSeq (sFgt [4, 5, 6, 7, 8, 9, 10] (whL (bTru (eLook 4)) p3_walked 100))
  (sFrz 3 (sRet (eVar 3)))))))
def g_walked : List PyData → Re PyData := fnD 2 11 f_walked
def p1_lots_of : En → SR :=
  (sFgt [3] (sSeq (sSet 3 (e1 dSorted (eCall g_walked (aCons (eVar 0) (aCons (e2 dSubs (eLook 1) (eC (.int 0))) aNil)))))
  (sSeq (sApp 2 (eVar 3))
  (sSet 1 (eLc [4] (iSeq (eVar 1)) (tgName 4) (toB (e2 dNotIn (eVar 4) (eLook 3))) (eVar 4))))))
def f_lots_of : En → SR :=
  (sSeq (sSet 1 (e1 dLR1 (e2 dAdd (e2 dSubs (eLook 0) (eC (.int 0))) (eC (.int 1)))))
  (sSeq (sOwn 2 (eLst aNil))
  (sSeq (sFgt [1, 3] (whL (bTru (eLook 1)) p1_lots_of 100))
  (sFrz 2 (sRet (eVar 2))))))
def g_lots_of : List PyData → Re PyData := fnD 1 5 f_lots_of
def f_Notes_open_lots : En → Re PyData :=
  (e2 dSub (e1 dLen (eCall g_lots_of (aCons (eOb C_Notes 0 fun A st => g_Notes_book A st []) aNil))) (eC (.int 1)))
def g_Notes_open_lots : Ad → NSt → List PyData → Re PyData := fnR C_Notes 0 1 f_Notes_open_lots
def f_Notes_str : En → Re PyData :=
  (eCall gStrS (aCons (eM1 dJoin (eC (.str " ")) (eLc [1, 2, 3] (iSeq (eTold C_Notes 0)) (tgTup [(tgName 1), (tgName 2), (tgName 3)]) gYes (jsD [(e1 dFmt (eVar 1)), (eC (.str "-")), (e1 dFmt (eVar 2)), (eC (.str "=")), (e1 dFmt (eVar 3))] Str.empty))) aNil))
def g_Notes_str : Ad → NSt → List PyData → Re PyData := fnR C_Notes 0 4 f_Notes_str
def f_is_telling : En → SR :=
  (sSeq (sIf (bOr (bNot (bTru (e1 (dIsi .tup) (eVar 1)))) (bOr (toB (e2 dNe (e1 dLen (eLook 1)) (eC (.int 3)))) (bNot (bTru (eCall g_is_within (aCons (e2 dSubs (eLook 1) (eC (.int 0))) (aCons (eC (.int 0)) (aCons (e2 dSub (eVar 0) (eC (.int 1))) aNil))))))))
  (sRet (eC (.bool false)))
  sSkip)
  (sRet (eAnd (eCall g_is_within (aCons (e2 dSubs (eLook 1) (eC (.int 1))) (aCons (e2 dAdd (e2 dSubs (eLook 1) (eC (.int 0))) (eC (.int 1))) (aCons (eVar 0) aNil)))) (eCall g_is_within (aCons (e2 dSubs (eLook 1) (eC (.int 2))) (aCons (e1 dNeg (eC (.int 9999))) (aCons (eC (.int 9999)) aNil)))))))
def g_is_telling : List PyData → Re PyData := fnD 2 2 f_is_telling
def f_Notes_tell : En → SM :=
  (mSeq (mOf (sSet 4 (eTup (aCons (eVar 1) (aCons (eVar 2) (aCons (eVar 3) aNil))))))
  (mSeq (mOf (sIf (bOr (bNot (bTru (eCall g_is_telling (aCons (eMany C_Notes 0) (aCons (eVar 4) aNil))))) (toB (e2 dEq (e1 dLen (eTold C_Notes 0)) (eC (.int 24)))))
  (sRaise (.ref C_BadNumber))
  sSkip))
  (mSeq (mOf (sSet 5 (eCall g_walked (aCons (eOb C_Notes 0 fun A st => g_Notes_book A st []) (aCons (eVar 1) aNil)))))
  (mSeq (mOf (sIf (bAnd (toB (e2 dIn (eVar 2) (eLook 5))) (toB (e2 dNe (e2 dSubs (e2 dSubs (eLook 5) (eVar 2)) (eC (.int 1))) (eVar 3))))
  (sRaise (.ref C_NotTrue))
  sSkip))
  (mSeq (mExpr (xGo C_Notes 0 g_Notes_note (aCons (eC (.str "tell")) aNil)))
  (mSeq (mTold C_Notes 0 (xOf (e2 dAdd (eTold C_Notes 0) (eTup (aCons (eVar 4) aNil)))))
  (mRet (xOf (e2 dIn (eVar 2) (eLook 5))))))))))
def g_Notes_tell : Ad → NSt → List PyData → MO := fnM C_Notes 3 6 f_Notes_tell
def p1__law_all_stretches : En → SR :=
  (sFgt [2] (sSet 1 (e2 dAdd (eVar 1) (eLc [3] (iRng2 (aCons (e2 dAdd (eVar 2) (eC (.int 1))) (aCons (e2 dAdd (eVar 0) (eC (.int 1))) aNil))) (tgName 3) gYes (eTup (aCons (eVar 2) (aCons (eVar 3) aNil)))))))
def f__law_all_stretches : En → SR :=
  (sSeq (sSet 1 (eLst aNil))
  (sSeq (sFgt [2] (sFor (iRng1 (aCons (eVar 0) aNil)) (tgName 2) p1__law_all_stretches))
  (sRet (eVar 1))))
def g__law_all_stretches : List PyData → Re PyData := fnD 1 4 f__law_all_stretches
def f__law_hidden : En → SR :=
  (sRet (eLc [3] (iRng1 (aCons (eVar 2) aNil)) (tgName 3) gYes (e2 dSub (e2 dMod (e2 dSubs (eLook 0) (e2 dMod (e2 dAdd (eVar 1) (eVar 3)) (eC (.int 60)))) (eC (.int 9))) (eC (.int 4)))))
def g__law_hidden : List PyData → Re PyData := fnD 3 4 f__law_hidden
def f__law_cell : En → SR :=
  (sSeq (sIf (toB (e2 dLt (eVar 1) (e1 dLen (eLook 0))))
  (sRet (e2 dSubs (eLook 0) (eVar 1)))
  sSkip)
  (sRet (eC (.int 0))))
def g__law_cell : List PyData → Re PyData := fnD 2 2 f__law_cell
def p1__law_row : En → SR :=
  (sFgt [4] (sIf (toB (e2 dLt (eCall g__law_cell (aCons (eVar 0) (aCons (eVar 1) aNil))) (e2 dPow (eC (.int 10)) (eC (.int 18)))))
  (sSeq (sSet 2 (e2 dMod (e2 dAdd (e2 dAdd (e2 dAdd (e2 dMul (eVar 2) (eC (.int 48271))) (e2 dMul (eC (.int 131)) (eVar 4))) (eC (.int 7))) (eCall g__law_cell (aCons (eVar 0) (aCons (e2 dMod (e2 dAdd (e2 dAdd (eVar 1) (eC (.int 1))) (eVar 4)) (eC (.int 20))) aNil)))) (eC (.int 2147483647))))
  (sApp 3 (e2 dMod (e2 dDiv (eVar 2) (eC (.int 11))) (eC (.int 1000)))))
  (sSeq (sApp 3 (e2 dMod (eVar 2) (eC (.int 1000))))
  (sSet 2 (e2 dDiv (eVar 2) (eC (.int 1000)))))))
def f__law_row : En → SR :=
  (sSeq (sSet 2 (eCall g__law_cell (aCons (eVar 0) (aCons (eVar 1) aNil))))
  (sSeq (sOwn 3 (eLst aNil))
  (sSeq (sFgt [2, 4] (sFor (iRng1 (aCons (eC (.int 60)) aNil)) (tgName 4) p1__law_row))
  (sFrz 3 (sRet (eVar 3))))))
def g__law_row : List PyData → Re PyData := fnD 2 5 f__law_row
def p1__law_book : En → SR :=
  (sFgt [8, 9, 10, 11] (sSeq (sSet 9 (e2 dMod (e2 dSubs (eLook 4) (e2 dAdd (eC (.int 3)) (e2 dMul (eC (.int 3)) (eVar 8)))) (eVar 5)))
  (sSeq (sSet 10 (e2 dAdd (e2 dAdd (eVar 9) (eC (.int 1))) (e2 dMod (e2 dSubs (eLook 4) (e2 dAdd (eC (.int 4)) (e2 dMul (eC (.int 3)) (eVar 8)))) (e2 dSub (eVar 5) (eVar 9)))))
  (sSeq (sSet 11 (eCall gInt (aCons (eAnd (eVar 3) (e2 dEq (e2 dMod (e2 dSubs (eLook 4) (e2 dAdd (eC (.int 5)) (e2 dMul (eC (.int 3)) (eVar 8)))) (eC (.int 7))) (eC (.int 0)))) aNil)))
  (sApp 7 (eTup (aCons (eVar 9) (aCons (eVar 10) (aCons (e2 dAdd (eCall gSum (aCons (eSlice (eLook 6) (oSome (eVar 9)) (oSome (eVar 10))) aNil)) (eVar 11)) aNil)))))))))
def f__law_book : En → SR :=
  (sSeq (sSet 4 (eCall g__law_row (aCons (eVar 0) (aCons (eVar 1) aNil))))
  (sSeq (sSet 5 (e2 dAdd (eC (.int 1)) (e2 dMod (e2 dSubs (eLook 4) (eC (.int 0))) (eVar 2))))
  (sSeq (sSet 6 (eCall g__law_hidden (aCons (eVar 4) (aCons (eC (.int 40)) (aCons (eVar 5) aNil)))))
  (sSeq (sOwn 7 (eLst aNil))
  (sSeq (sFgt [8, 9, 10, 11] (sFor (iRng1 (aCons (e2 dMod (e2 dSubs (eLook 4) (eC (.int 1))) (eC (.int 11))) aNil)) (tgName 8) p1__law_book))
  (sRet (eTup (aCons (eVar 5) (aCons (e1 dTuple (eLook 7)) aNil)))))))))
def g__law_book : List PyData → Re PyData := fnD 4 12 f__law_book
def f_look_stretch : En → SR :=
  (sIf (bOr (bNot (bTru (eCall g_is_within (aCons (eVar 1) (aCons (eC (.int 0)) (aCons (e2 dSub (eVar 0) (eC (.int 1))) aNil)))))) (bNot (bTru (eCall g_is_within (aCons (eVar 2) (aCons (e2 dAdd (eVar 1) (eC (.int 1))) (aCons (eVar 0) aNil)))))))
  (sRaise (.ref C_BadStretch))
  sSkip)
def g_look_stretch : List PyData → Re PyData := fnD 3 3 f_look_stretch
def f_Notes_comes_to : En → SM :=
  (mSeq (mOf (sExpr (eCall g_look_stretch (aCons (eMany C_Notes 0) (aCons (eVar 1) (aCons (eVar 2) aNil))))))
  (mSeq (mOf (sSet 3 (eCall g_walked (aCons (eOb C_Notes 0 fun A st => g_Notes_book A st []) (aCons (eVar 1) aNil)))))
  (mSeq (mOf (sIf (toB (e2 dNotIn (eVar 2) (eLook 3)))
  (sRaise (.ref C_NotSure))
  sSkip))
  (mRet (xOf (e2 dSubs (e2 dSubs (eLook 3) (eVar 2)) (eC (.int 1))))))))
def g_Notes_comes_to : Ad → NSt → List PyData → MO := fnM C_Notes 2 4 f_Notes_comes_to
def f__law_note_told : En → SM :=
  (mTry cT (mSeq (mIf (bOf (toB (e2 dEq (eVar 1) (eC (.int 0)))))
  (mRet (xLst1 (xGo C_Notes 0 g_Notes_tell (aCons (eVar 2) (aCons (eVar 3) (aCons (eVar 4) aNil))))))
  mSkip)
  (mSeq (mIf (bOf (toB (e2 dEq (eVar 1) (eC (.int 1)))))
  (mRet (xGo C_Notes 0 g_Notes_forget (aCons (eVar 2) aNil)))
  mSkip)
  (mRet (xIf (toB (e2 dEq (eVar 1) (eC (.int 2)))) (xGo C_Notes 0 g_Notes_back aNil) (xGo C_Notes 0 g_Notes_comes_to (aCons (eVar 2) (aCons (eVar 3) aNil))))))) [⟨C_BadNumber, none, fun _ _ => (mRet (xOf (eC (.str "number"))))⟩, ⟨C_NotTrue, some 5, hRetM cT C_StretchError (some C_BadNumber) (.str "true") (.str "other")⟩, ⟨C_NotSure, none, fun _ _ => (mRet (xOf (eC (.str "open"))))⟩, ⟨C_BadStretch, none, fun _ _ => (mRet (xOf (eC (.str "stretch"))))⟩, ⟨C_Nothing, some 5, hRetM cT C_StretchError none (.str "nothing") (.str "other")⟩])
def g__law_note_told : Ad → NSt → List PyData → MO := fnM C_Notes 4 6 f__law_note_told
def p1_law_3 : En → SM :=
  (mStL 6 (eC (.int 1)) (x2 dAdd (xOf (e2 dSubs (eLook 6) (eC (.int 1)))) (xLst1 (xGo C_Notes 5 g_Notes_tell (aCons (eVar 8) (aCons (eVar 9) (aCons (eVar 10) aNil)))))))
def p1_law_2 : En → SM :=
  (mSeq (mOf (sAsg (tgTup [(tgName 8), (tgName 9), (tgName 10)]) (e2 dSubs (eLook 3) (e2 dSub (e2 dSub (e1 dLen (eLook 3)) (eC (.int 1))) (eVar 7)))))
  p1_law_3)
def p1_law_1 : En → SM :=
  (mSeq (mStL 6 (eC (.int 0)) (x2 dAdd (xOf (e2 dSubs (eLook 6) (eC (.int 0)))) (xLst1 (xGo C_Notes 4 g_Notes_tell (aCons (eVar 8) (aCons (eVar 9) (aCons (eVar 10) aNil)))))))
  p1_law_2)
def p1_law : En → SM :=
  (mFgt [7, 8, 9, 10] (mSeq (mOf (sAsg (tgTup [(tgName 8), (tgName 9), (tgName 10)]) (e2 dSubs (eLook 3) (eVar 7))))
  p1_law_1))
def p2_law : En → SM :=
  (mFgt [8, 9] (mIf (toBM (x2 dNe (xGo C_Notes 4 g__law_note_told (aCons (eC (.int 3)) (aCons (eVar 8) (aCons (eVar 9) (aCons (eC .none) aNil))))) (xGo C_Notes 5 g__law_note_told (aCons (eC (.int 3)) (aCons (eVar 8) (aCons (eVar 9) (aCons (eC .none) aNil)))))))
  (mRet (xOf (eC (.bool false))))
  mSkip))
def p3_law : En → SM :=
  (mFgt [12] (mExpr (xGo C_Notes 4 g_Notes_back aNil)))
def t13_law : En → SM :=
  (mRet (xAnd (eEqON f_Notes_eq C_Notes 4 (eVar 2)) (x2 dEq (xGo C_Notes 4 g__law_note_told (aCons (eC (.int 2)) (aCons (eC .none) (aCons (eC .none) (aCons (eC .none) aNil))))) (xOf (eC (.str "nothing"))))))
def t12_law : En → SM :=
  (mSeq (mFgt [12] (mFor (iSeq (eVar 3)) (tgName 12) p3_law))
  t13_law)
def t11_law : En → SM :=
  (mSeq (mIf (bOf (toB (e2 dGt (e1 dLen (eLook 3)) (eC (.int 0)))))
  (mIf (bOrM (toBM (x2 dNe (xGo C_Notes 11 g_Notes_forget (aCons (eC (.int 0)) aNil)) (xOf (e2 dSubs (eLook 3) (eC (.int 0)))))) (bOrM (bOf (toB (eEqOO f_Notes_eq C_Notes false 11 4))) (bOf (toB (e2 dNe (eOb C_Notes 4 (lenG g_Notes_len)) (e1 dLen (eLook 3)))))))
  (mRet (xOf (eC (.bool false))))
  mSkip)
  mSkip)
  t12_law)
def t10_law : En → SM :=
  (mSeq (mIf (bOrM (bOf (toB (eEqOO f_Notes_eq C_Notes true 11 4))) (toBM (x2 dNe (xGo C_Notes 11 g__law_note_told (aCons (eC (.int 2)) (aCons (eC .none) (aCons (eC .none) (aCons (eC .none) aNil))))) (xOf (eC (.str "nothing"))))))
  (mRet (xOf (eC (.bool false))))
  mSkip)
  t11_law)
def t9_law : En → SM :=
  (mSeq (mTwin C_Notes 4 11)
  t10_law)
def t8_law : En → SM :=
  (mSeq (mIf (bOf (bOr (toB (eEqOD C_Notes 4 (eVar 1))) (bOr (toB (eEqOD C_Notes 4 (eOb C_Notes 4 (strG g_Notes_str)))) (toB (eEqNN f_Notes_eq C_Notes (eVar 2) (e2 dAdd (e2 dMod (eVar 2) (eC (.int 16))) (eC (.int 1))))))))
  (mRet (xOf (eC (.bool false))))
  mSkip)
  t9_law)
def t7_law : En → SM :=
  (mSeq (mFgt [8, 9] (mFor (iSeq (eCall g__law_all_stretches (aCons (eVar 2) aNil))) (tgTup [(tgName 8), (tgName 9)]) p2_law))
  t8_law)
def t6_law : En → SM :=
  (mSeq (mIf (bOf (bOr (toB (e2 dNe (eEqOO f_Notes_eq C_Notes false 4 5) (e2 dEq (eVar 3) (e1 dRevT (eVar 3))))) (toB (e2 dNe (eOb C_Notes 4 fun A st => g_Notes_open_lots A st []) (eOb C_Notes 5 fun A st => g_Notes_open_lots A st [])))))
  (mRet (xOf (eC (.bool false))))
  mSkip)
  t7_law)
def t5_law : En → SM :=
  (mSeq (mIf (bOf (bOr (toB (e2 dNe (eCountB (e2 dSubs (eLook 6) (eC (.int 0))) (eC (.bool false))) (eCountB (e2 dSubs (eLook 6) (eC (.int 1))) (eC (.bool false))))) (toB (e2 dNe (eCountB (e2 dSubs (eLook 6) (eC (.int 0))) (eC (.bool false))) (e2 dSub (eVar 2) (eOb C_Notes 4 fun A st => g_Notes_open_lots A st []))))))
  (mRet (xOf (eC (.bool false))))
  mSkip)
  t6_law)
def t4_law : En → SM :=
  (mSeq (mFgt [7, 8, 9, 10] (mFor (iRng1 (aCons (e1 dLen (eLook 3)) aNil)) (tgName 7) p1_law))
  t5_law)
def t3_law : En → SM :=
  (mSeq (mOf (sOwn 6 (eLst (aCons (eLst aNil) (aCons (eLst aNil) aNil)))))
  t4_law)
def t2_law : En → SM :=
  (mSeq (mNew2 C_Notes 4 5 (eVar 2) (eVar 2))
  t3_law)
def t1_law : En → SM :=
  (mSeq (mOf (sAsg (tgTup [(tgName 2), (tgName 3)]) (eVar 1)))
  t2_law)
def f_law : En → SM :=
  (mSeq (mOf (sSet 1 (eCall g__law_book (aCons (eVar 0) (aCons (eC (.int 2)) (aCons (eC (.int 9)) (aCons (eC (.bool false)) aNil)))))))
  t1_law)
noncomputable def g_law : List PyData → Re PyData := fnT 1 13 f_law
/-! ### what the top has written -/
structure Tx (K : PySem.W.Frag) (mg : Str → Option Value) where
  a_Notes_back : Addr
  fd_Notes_back : FuncData
  F_Notes_back : Fun K "back" "Notes.back" s_Notes_back a_Notes_back fd_Notes_back
  b_Notes_back : Binds K fd_Notes_back ["self"] []
  mt_Notes_back : Meth K C_Notes "back" a_Notes_back
  a_Notes_book : Addr
  fd_Notes_book : FuncData
  F_Notes_book : Fun K "book" "Notes.book" s_Notes_book a_Notes_book fd_Notes_book
  b_Notes_book : Binds K fd_Notes_book ["self"] []
  mt_Notes_book : Meth K C_Notes "book" a_Notes_book
  a_Notes_eq : Addr
  fd_Notes_eq : FuncData
  F_Notes_eq : Fun K "__eq__" "Notes.__eq__" s_Notes_eq a_Notes_eq fd_Notes_eq
  b_Notes_eq : Binds K fd_Notes_eq ["self", "other"] []
  mt_Notes_eq : Meth K C_Notes "__eq__" a_Notes_eq
  a_Notes_note : Addr
  fd_Notes_note : FuncData
  F_Notes_note : Fun K "note" "Notes.note" s_Notes_note a_Notes_note fd_Notes_note
  b_Notes_note : Binds K fd_Notes_note ["self", "word"] []
  mt_Notes_note : Meth K C_Notes "note" a_Notes_note
  a_is_within : Addr
  fd_is_within : FuncData
  F_is_within : Fun K "is_within" "is_within" s_is_within a_is_within fd_is_within
  b_is_within : Binds K fd_is_within ["thing", "low", "high"] []
  m_is_within : mg "is_within" = some (.ref a_is_within)
  a_Notes_forget : Addr
  fd_Notes_forget : FuncData
  F_Notes_forget : Fun K "forget" "Notes.forget" s_Notes_forget a_Notes_forget fd_Notes_forget
  b_Notes_forget : Binds K fd_Notes_forget ["self", "number"] []
  mt_Notes_forget : Meth K C_Notes "forget" a_Notes_forget
  a_Notes_init : Addr
  fd_Notes_init : FuncData
  F_Notes_init : Fun K "__init__" "Notes.__init__" s_Notes_init a_Notes_init fd_Notes_init
  b_Notes_init : Binds K fd_Notes_init ["self", "many"] []
  mt_Notes_init : Meth K C_Notes "__init__" a_Notes_init
  a_Notes_len : Addr
  fd_Notes_len : FuncData
  F_Notes_len : Fun K "__len__" "Notes.__len__" s_Notes_len a_Notes_len fd_Notes_len
  b_Notes_len : Binds K fd_Notes_len ["self"] []
  mt_Notes_len : Meth K C_Notes "__len__" a_Notes_len
  a_ties_of : Addr
  fd_ties_of : FuncData
  F_ties_of : Fun K "ties_of" "ties_of" s_ties_of a_ties_of fd_ties_of
  b_ties_of : Binds K fd_ties_of ["book"] []
  m_ties_of : mg "ties_of" = some (.ref a_ties_of)
  a_walked : Addr
  fd_walked : FuncData
  F_walked : Fun K "walked" "walked" s_walked a_walked fd_walked
  b_walked : Binds K fd_walked ["book", "start"] []
  m_walked : mg "walked" = some (.ref a_walked)
  a_lots_of : Addr
  fd_lots_of : FuncData
  F_lots_of : Fun K "lots_of" "lots_of" s_lots_of a_lots_of fd_lots_of
  b_lots_of : Binds K fd_lots_of ["book"] []
  m_lots_of : mg "lots_of" = some (.ref a_lots_of)
  a_Notes_open_lots : Addr
  fd_Notes_open_lots : FuncData
  F_Notes_open_lots : Fun K "open_lots" "Notes.open_lots" s_Notes_open_lots a_Notes_open_lots fd_Notes_open_lots
  b_Notes_open_lots : Binds K fd_Notes_open_lots ["self"] []
  mt_Notes_open_lots : Meth K C_Notes "open_lots" a_Notes_open_lots
  a_Notes_str : Addr
  fd_Notes_str : FuncData
  F_Notes_str : Fun K "__str__" "Notes.__str__" s_Notes_str a_Notes_str fd_Notes_str
  b_Notes_str : Binds K fd_Notes_str ["self"] []
  mt_Notes_str : Meth K C_Notes "__str__" a_Notes_str
  a_is_telling : Addr
  fd_is_telling : FuncData
  F_is_telling : Fun K "is_telling" "is_telling" s_is_telling a_is_telling fd_is_telling
  b_is_telling : Binds K fd_is_telling ["many", "thing"] []
  m_is_telling : mg "is_telling" = some (.ref a_is_telling)
  a_Notes_tell : Addr
  fd_Notes_tell : FuncData
  F_Notes_tell : Fun K "tell" "Notes.tell" s_Notes_tell a_Notes_tell fd_Notes_tell
  b_Notes_tell : Binds K fd_Notes_tell ["self", "start", "end", "much"] []
  mt_Notes_tell : Meth K C_Notes "tell" a_Notes_tell
  a_Notes_twin : Addr
  fd_Notes_twin : FuncData
  F_Notes_twin : Fun K "twin" "Notes.twin" s_Notes_twin a_Notes_twin fd_Notes_twin
  b_Notes_twin : Binds K fd_Notes_twin ["self"] []
  mt_Notes_twin : Meth K C_Notes "twin" a_Notes_twin
  a__law_all_stretches : Addr
  fd__law_all_stretches : FuncData
  F__law_all_stretches : Fun K "_law_all_stretches" "_law_all_stretches" s__law_all_stretches a__law_all_stretches fd__law_all_stretches
  b__law_all_stretches : Binds K fd__law_all_stretches ["many"] []
  m__law_all_stretches : mg "_law_all_stretches" = some (.ref a__law_all_stretches)
  a__law_hidden : Addr
  fd__law_hidden : FuncData
  F__law_hidden : Fun K "_law_hidden" "_law_hidden" s__law_hidden a__law_hidden fd__law_hidden
  b__law_hidden : Binds K fd__law_hidden ["draws", "at", "many"] []
  m__law_hidden : mg "_law_hidden" = some (.ref a__law_hidden)
  a__law_cell : Addr
  fd__law_cell : FuncData
  F__law_cell : Fun K "_law_cell" "_law_cell" s__law_cell a__law_cell fd__law_cell
  b__law_cell : Binds K fd__law_cell ["script", "k"] []
  m__law_cell : mg "_law_cell" = some (.ref a__law_cell)
  a__law_row : Addr
  fd__law_row : FuncData
  F__law_row : Fun K "_law_row" "_law_row" s__law_row a__law_row fd__law_row
  b__law_row : Binds K fd__law_row ["script", "at"] []
  m__law_row : mg "_law_row" = some (.ref a__law_row)
  a__law_book : Addr
  fd__law_book : FuncData
  F__law_book : Fun K "_law_book" "_law_book" s__law_book a__law_book fd__law_book
  b__law_book : Binds K fd__law_book ["script", "at", "most_row", "wrong"] []
  m__law_book : mg "_law_book" = some (.ref a__law_book)
  a_look_stretch : Addr
  fd_look_stretch : FuncData
  F_look_stretch : Fun K "look_stretch" "look_stretch" s_look_stretch a_look_stretch fd_look_stretch
  b_look_stretch : Binds K fd_look_stretch ["many", "start", "end"] []
  m_look_stretch : mg "look_stretch" = some (.ref a_look_stretch)
  a_Notes_comes_to : Addr
  fd_Notes_comes_to : FuncData
  F_Notes_comes_to : Fun K "comes_to" "Notes.comes_to" s_Notes_comes_to a_Notes_comes_to fd_Notes_comes_to
  b_Notes_comes_to : Binds K fd_Notes_comes_to ["self", "start", "end"] []
  mt_Notes_comes_to : Meth K C_Notes "comes_to" a_Notes_comes_to
  a__law_note_told : Addr
  fd__law_note_told : FuncData
  F__law_note_told : Fun K "_law_note_told" "_law_note_told" s__law_note_told a__law_note_told fd__law_note_told
  b__law_note_told : Binds K fd__law_note_told ["notes", "mode", "start", "end", "much"] []
  m__law_note_told : mg "_law_note_told" = some (.ref a__law_note_told)
  a_law : Addr
  fd_law : FuncData
  F_law : Fun K "law" "law" s_law a_law fd_law
  b_law : Binds K fd_law ["script"] []
  m_law : mg "law" = some (.ref a_law)
  z_len : mg "len" = none
  z_range : mg "range" = none
  z_isinstance : mg "isinstance" = none
  z_int : mg "int" = none
  z_bool : mg "bool" = none
  z_tuple : mg "tuple" = none
  z_list : mg "list" = none
  z_str : mg "str" = none
  z_sum : mg "sum" = none
  z_enumerate : mg "enumerate" = none
  z_sorted : mg "sorted" = none
  tk_MOST_ROW : Tok
  v_MOST_ROW : mg "MOST_ROW" = some (.int 16 tk_MOST_ROW)
  tk_MOST_TOLD : Tok
  v_MOST_TOLD : mg "MOST_TOLD" = some (.int 24 tk_MOST_TOLD)
  tk_MOST_SUM : Tok
  v_MOST_SUM : mg "MOST_SUM" = some (.int 9999 tk_MOST_SUM)
  m_StretchError : mg "StretchError" = some (.ref C_StretchError)
  m_BadStretch : mg "BadStretch" = some (.ref C_BadStretch)
  m_NotSure : mg "NotSure" = some (.ref C_NotSure)
  m_NotTrue : mg "NotTrue" = some (.ref C_NotTrue)
  m_BadNumber : mg "BadNumber" = some (.ref C_BadNumber)
  m_Nothing : mg "Nothing" = some (.ref C_Nothing)
  ntc : NtC K C_Notes
  mk_Notes : Mk K C_Notes a_Notes_init
  m_Notes : mg "Notes" = some (.ref C_Notes)
  eqc : EqC K C_Notes a_Notes_eq
  ec_BadStretch : ExcC K C_BadStretch
  ec_NotSure : ExcC K C_NotSure
  ec_NotTrue : ExcC K C_NotTrue
  ec_BadNumber : ExcC K C_BadNumber
  ec_Nothing : ExcC K C_Nothing
  su_0 : PySem.W.subIn K (.ref C_BadStretch) (.ref C_StretchError) = some true
  su_1 : PySem.W.subIn K (.ref C_BadStretch) (.ref C_BadStretch) = some true
  su_2 : PySem.W.subIn K (.ref C_BadStretch) (.ref C_NotSure) = some false
  su_3 : PySem.W.subIn K (.ref C_BadStretch) (.ref C_NotTrue) = some false
  su_4 : PySem.W.subIn K (.ref C_BadStretch) (.ref C_BadNumber) = some false
  su_5 : PySem.W.subIn K (.ref C_BadStretch) (.ref C_Nothing) = some false
  su_6 : PySem.W.subIn K (.ref C_NotSure) (.ref C_StretchError) = some true
  su_7 : PySem.W.subIn K (.ref C_NotSure) (.ref C_BadStretch) = some false
  su_8 : PySem.W.subIn K (.ref C_NotSure) (.ref C_NotSure) = some true
  su_9 : PySem.W.subIn K (.ref C_NotSure) (.ref C_NotTrue) = some false
  su_10 : PySem.W.subIn K (.ref C_NotSure) (.ref C_BadNumber) = some false
  su_11 : PySem.W.subIn K (.ref C_NotSure) (.ref C_Nothing) = some false
  su_12 : PySem.W.subIn K (.ref C_NotTrue) (.ref C_StretchError) = some true
  su_13 : PySem.W.subIn K (.ref C_NotTrue) (.ref C_BadStretch) = some false
  su_14 : PySem.W.subIn K (.ref C_NotTrue) (.ref C_NotSure) = some false
  su_15 : PySem.W.subIn K (.ref C_NotTrue) (.ref C_NotTrue) = some true
  su_16 : PySem.W.subIn K (.ref C_NotTrue) (.ref C_BadNumber) = some false
  su_17 : PySem.W.subIn K (.ref C_NotTrue) (.ref C_Nothing) = some false
  su_18 : PySem.W.subIn K (.ref C_BadNumber) (.ref C_StretchError) = some true
  su_19 : PySem.W.subIn K (.ref C_BadNumber) (.ref C_BadStretch) = some false
  su_20 : PySem.W.subIn K (.ref C_BadNumber) (.ref C_NotSure) = some false
  su_21 : PySem.W.subIn K (.ref C_BadNumber) (.ref C_NotTrue) = some false
  su_22 : PySem.W.subIn K (.ref C_BadNumber) (.ref C_BadNumber) = some true
  su_23 : PySem.W.subIn K (.ref C_BadNumber) (.ref C_Nothing) = some false
  su_24 : PySem.W.subIn K (.ref C_Nothing) (.ref C_StretchError) = some true
  su_25 : PySem.W.subIn K (.ref C_Nothing) (.ref C_BadStretch) = some false
  su_26 : PySem.W.subIn K (.ref C_Nothing) (.ref C_NotSure) = some false
  su_27 : PySem.W.subIn K (.ref C_Nothing) (.ref C_NotTrue) = some false
  su_28 : PySem.W.subIn K (.ref C_Nothing) (.ref C_BadNumber) = some false
  su_29 : PySem.W.subIn K (.ref C_Nothing) (.ref C_Nothing) = some true
  s_StretchError : PySem.W.subIn K (.ref C_StretchError) (.type "BaseException") = some true
  t_StretchError : PySem.W.typeIn K (.ref C_StretchError) = some (.type "type")
  d_StretchError : PySem.W.hasDictIn K C_StretchError = true
  s_BadStretch : PySem.W.subIn K (.ref C_BadStretch) (.type "BaseException") = some true
  t_BadStretch : PySem.W.typeIn K (.ref C_BadStretch) = some (.type "type")
  d_BadStretch : PySem.W.hasDictIn K C_BadStretch = true
  s_NotSure : PySem.W.subIn K (.ref C_NotSure) (.type "BaseException") = some true
  t_NotSure : PySem.W.typeIn K (.ref C_NotSure) = some (.type "type")
  d_NotSure : PySem.W.hasDictIn K C_NotSure = true
  s_NotTrue : PySem.W.subIn K (.ref C_NotTrue) (.type "BaseException") = some true
  t_NotTrue : PySem.W.typeIn K (.ref C_NotTrue) = some (.type "type")
  d_NotTrue : PySem.W.hasDictIn K C_NotTrue = true
  s_BadNumber : PySem.W.subIn K (.ref C_BadNumber) (.type "BaseException") = some true
  t_BadNumber : PySem.W.typeIn K (.ref C_BadNumber) = some (.type "type")
  d_BadNumber : PySem.W.hasDictIn K C_BadNumber = true
  s_Nothing : PySem.W.subIn K (.ref C_Nothing) (.type "BaseException") = some true
  t_Nothing : PySem.W.typeIn K (.ref C_Nothing) = some (.type "type")
  d_Nothing : PySem.W.hasDictIn K C_Nothing = true
  x_BadStretch : PySem.W.excIn K C_BadStretch [.type "ValueError", .type "Exception", .type "BaseException", .type "object"] "ValueError.__new__" = true
  k_BadStretch : PySem.W.keepIn K (.ref C_BadStretch) = true
  x_NotSure : PySem.W.excIn K C_NotSure [.type "ValueError", .type "Exception", .type "BaseException", .type "object"] "ValueError.__new__" = true
  k_NotSure : PySem.W.keepIn K (.ref C_NotSure) = true
  x_NotTrue : PySem.W.excIn K C_NotTrue [.type "ValueError", .type "Exception", .type "BaseException", .type "object"] "ValueError.__new__" = true
  k_NotTrue : PySem.W.keepIn K (.ref C_NotTrue) = true
  x_BadNumber : PySem.W.excIn K C_BadNumber [.type "ValueError", .type "Exception", .type "BaseException", .type "object"] "ValueError.__new__" = true
  k_BadNumber : PySem.W.keepIn K (.ref C_BadNumber) = true
  x_Nothing : PySem.W.excIn K C_Nothing [.type "ValueError", .type "Exception", .type "BaseException", .type "object"] "ValueError.__new__" = true
  k_Nothing : PySem.W.keepIn K (.ref C_Nothing) = true
theorem xt_of {K : PySem.W.Frag} {mg : Str → Option Value} (T : Tx K mg) : XTab K cT := ⟨fun a b r h => by
  unfold cT at h
  split at h
  · cases h; exact xt_mk T.su_0 T.s_StretchError T.d_StretchError T.t_StretchError (by decide) T.ec_BadStretch
  · cases h; exact xt_mk T.su_1 T.s_BadStretch T.d_BadStretch T.t_BadStretch (by decide) T.ec_BadStretch
  · cases h; exact xt_mk T.su_2 T.s_NotSure T.d_NotSure T.t_NotSure (by decide) T.ec_BadStretch
  · cases h; exact xt_mk T.su_3 T.s_NotTrue T.d_NotTrue T.t_NotTrue (by decide) T.ec_BadStretch
  · cases h; exact xt_mk T.su_4 T.s_BadNumber T.d_BadNumber T.t_BadNumber (by decide) T.ec_BadStretch
  · cases h; exact xt_mk T.su_5 T.s_Nothing T.d_Nothing T.t_Nothing (by decide) T.ec_BadStretch
  · cases h; exact xt_mk T.su_6 T.s_StretchError T.d_StretchError T.t_StretchError (by decide) T.ec_NotSure
  · cases h; exact xt_mk T.su_7 T.s_BadStretch T.d_BadStretch T.t_BadStretch (by decide) T.ec_NotSure
  · cases h; exact xt_mk T.su_8 T.s_NotSure T.d_NotSure T.t_NotSure (by decide) T.ec_NotSure
  · cases h; exact xt_mk T.su_9 T.s_NotTrue T.d_NotTrue T.t_NotTrue (by decide) T.ec_NotSure
  · cases h; exact xt_mk T.su_10 T.s_BadNumber T.d_BadNumber T.t_BadNumber (by decide) T.ec_NotSure
  · cases h; exact xt_mk T.su_11 T.s_Nothing T.d_Nothing T.t_Nothing (by decide) T.ec_NotSure
  · cases h; exact xt_mk T.su_12 T.s_StretchError T.d_StretchError T.t_StretchError (by decide) T.ec_NotTrue
  · cases h; exact xt_mk T.su_13 T.s_BadStretch T.d_BadStretch T.t_BadStretch (by decide) T.ec_NotTrue
  · cases h; exact xt_mk T.su_14 T.s_NotSure T.d_NotSure T.t_NotSure (by decide) T.ec_NotTrue
  · cases h; exact xt_mk T.su_15 T.s_NotTrue T.d_NotTrue T.t_NotTrue (by decide) T.ec_NotTrue
  · cases h; exact xt_mk T.su_16 T.s_BadNumber T.d_BadNumber T.t_BadNumber (by decide) T.ec_NotTrue
  · cases h; exact xt_mk T.su_17 T.s_Nothing T.d_Nothing T.t_Nothing (by decide) T.ec_NotTrue
  · cases h; exact xt_mk T.su_18 T.s_StretchError T.d_StretchError T.t_StretchError (by decide) T.ec_BadNumber
  · cases h; exact xt_mk T.su_19 T.s_BadStretch T.d_BadStretch T.t_BadStretch (by decide) T.ec_BadNumber
  · cases h; exact xt_mk T.su_20 T.s_NotSure T.d_NotSure T.t_NotSure (by decide) T.ec_BadNumber
  · cases h; exact xt_mk T.su_21 T.s_NotTrue T.d_NotTrue T.t_NotTrue (by decide) T.ec_BadNumber
  · cases h; exact xt_mk T.su_22 T.s_BadNumber T.d_BadNumber T.t_BadNumber (by decide) T.ec_BadNumber
  · cases h; exact xt_mk T.su_23 T.s_Nothing T.d_Nothing T.t_Nothing (by decide) T.ec_BadNumber
  · cases h; exact xt_mk T.su_24 T.s_StretchError T.d_StretchError T.t_StretchError (by decide) T.ec_Nothing
  · cases h; exact xt_mk T.su_25 T.s_BadStretch T.d_BadStretch T.t_BadStretch (by decide) T.ec_Nothing
  · cases h; exact xt_mk T.su_26 T.s_NotSure T.d_NotSure T.t_NotSure (by decide) T.ec_Nothing
  · cases h; exact xt_mk T.su_27 T.s_NotTrue T.d_NotTrue T.t_NotTrue (by decide) T.ec_Nothing
  · cases h; exact xt_mk T.su_28 T.s_BadNumber T.d_BadNumber T.t_BadNumber (by decide) T.ec_Nothing
  · cases h; exact xt_mk T.su_29 T.s_Nothing T.d_Nothing T.t_Nothing (by decide) T.ec_Nothing
  · cases h⟩
section
variable {P : Program} {w : World} {K : PySem.W.Frag} {mg : Str → Option Value} {base : Heap}
theorem ok_Notes_back (T : Tx K mg) : FnOk P w K mg base (L2.CX P w) 1 T.a_Notes_back T.fd_Notes_back ["self"] (OSp C_Notes 0 g_Notes_back) := by
  refine okM (C := C_Notes) (n := 0) T.F_Notes_back sc_Notes_back rfl fun cdv A outer s H E hr => ?_
  have hu := hu_of hr
  exact (mss_cons (m_of (ds_if (dt_not (dt_plain (dl_calls 0 T.ntc)))
  (dss_one (ds_raise rfl (takes_of rfl rfl rfl rfl) (pmk_own PySem.F.excBase_ValueError T.x_Nothing T.m_Nothing T.k_Nothing (raises_own T.s_Nothing T.t_Nothing) rfl)))
  dss_nil))
  (mss_cons (m_told 0 T.ntc (x_popB 0 T.ntc))
  (mss_one (m_ret (x_popC 0 T.ntc)))))
theorem ok_Notes_book (T : Tx K mg) : FnOk P w K mg base (L2.CX P w) 1 T.a_Notes_book T.fd_Notes_book ["self"] (PSp C_Notes 0 g_Notes_book) := by
  refine okR (C := C_Notes) (n := 0) T.F_Notes_book sc_Notes_book rfl fun cdv A outer s H E hr => ?_
  have hu := hu_of hr
  exact (pss_one (ps_ret (de_tup (da_cons (de_many 0 T.ntc) (da_cons (de_told 0 T.ntc) da_nil)))))
theorem ok_Notes_eq (T : Tx K mg) : FnOk P w K mg base (L2.CX P w) 2 T.a_Notes_eq T.fd_Notes_eq ["self", "other"] (EqSp K C_Notes f_Notes_eq) := by
  refine eq_ok (k := 1) T.F_Notes_eq sc_Notes_eq T.eqc fun cdv A outer s H E hr => ?_
  have hu := hu_of hr
  exact (pss_cons (ps_if (pt_not (pt_isY T.z_isinstance T.m_Notes rfl (Or.inl rfl) (by decide) (by decide))) (pss_one (ps_ret pe_bl)) pss_nil) (pss_one (ps_ret (de_eq hr.units (de_meth0 0 T.ntc T.mt_Notes_book (fun _ _ _ _ => rfl) (ok_Notes_book T) (hr.mono (by decide)) T.b_Notes_book (takes_of rfl rfl rfl rfl)) (de_meth0 1 T.ntc T.mt_Notes_book (fun _ _ _ _ => rfl) (ok_Notes_book T) (hr.mono (by decide)) T.b_Notes_book (takes_of rfl rfl rfl rfl))))))
theorem ok_Notes_note (T : Tx K mg) : FnOk P w K mg base (L2.CX P w) 1 T.a_Notes_note T.fd_Notes_note ["self", "word"] (OSp C_Notes 1 g_Notes_note) := by
  refine okM (C := C_Notes) (n := 1) T.F_Notes_note sc_Notes_note rfl fun cdv A outer s H E hr => ?_
  have hu := hu_of hr
  exact (mss_cons (m_appB 0 T.ntc (de_told 0 T.ntc))
  (mss_one (m_appC 0 T.ntc (de_var 1))))
theorem ok_is_within (T : Tx K mg) : FnOk P w K mg base (L2.CX P w) 1 T.a_is_within T.fd_is_within ["thing", "low", "high"] (DSp 3 g_is_within) := by
  refine okD T.F_is_within sc_is_within rfl fun cdv A outer s H E hr => ?_
  have hu := hu_of hr
  exact (dss_one (ds_ret (de_and (de_isi .int T.z_isinstance T.z_int (de_var 0) (by decide +kernel) (by decide) (by decide)) (de_and (de_not (dl_of (de_isi .bool T.z_isinstance T.z_bool (de_var 0) (by decide +kernel) (by decide) (by decide)))) (de_one (de_chain (de_var 1) (de_var 0) (de_var 2)))))))
theorem ok_Notes_forget (T : Tx K mg) : FnOk P w K mg base (L2.CX P w) 2 T.a_Notes_forget T.fd_Notes_forget ["self", "number"] (OSp C_Notes 1 g_Notes_forget) := by
  refine okM (C := C_Notes) (n := 1) T.F_Notes_forget sc_Notes_forget rfl fun cdv A outer s H E hr => ?_
  have hu := hu_of hr
  exact (mss_cons (m_of (ds_if (dt_not (dt_plain (dl_of (de_call (ok_is_within T) fnD_len (hr.mono (by decide)) T.m_is_within T.F_is_within.kp T.b_is_within (takes_of rfl rfl rfl rfl) (da_cons (de_var 1) (da_cons de_int (da_cons (de_sub (de_len T.z_len (dl_of (de_told 0 T.ntc))) de_int) da_nil)))))))
  (dss_one (ds_raise rfl (takes_of rfl rfl rfl rfl) (pmk_own PySem.F.excBase_ValueError T.x_BadNumber T.m_BadNumber T.k_BadNumber (raises_own T.s_BadNumber T.t_BadNumber) rfl)))
  dss_nil))
  (mss_cons (m_expr (x_meth 0 T.ntc T.mt_Notes_note (fun _ _ _ _ => rfl) (ok_Notes_note T) fnM_len (hr.mono (by decide)) T.b_Notes_note (takes_of rfl rfl rfl rfl) (da_cons de_str da_nil)))
  (mss_cons (m_of (ds_set 2 (de_subs hu (dl_of (de_told 0 T.ntc)) (de_var 1)) sc_Notes_forget.nd))
  (mss_cons (m_told 0 T.ntc (x_of (de_add (de_slice (dl_of (de_told 0 T.ntc)) do_none (do_some (de_var 1))) (de_slice (dl_of (de_told 0 T.ntc)) (do_some (de_add (de_var 1) de_int)) do_none))))
  (mss_one (m_ret (x_of (de_var 2))))))))
theorem ok_Notes_init (T : Tx K mg) : FnOk P w K mg base (L2.CX P w) 2 T.a_Notes_init T.fd_Notes_init ["self", "many"] (spInit C_Notes) := by
  refine init_ok (k := 1) (gc := gc_Notes_init) T.F_Notes_init sc_Notes_init T.ntc gc_Notes_ok fun cdv A outer s H E hr => ?_
  have hu := hu_of hr
  exact (pss_cons (ps_if (dt_not (dt_plain (dl_of (de_call (ok_is_within T) fnD_len (hr.mono (by decide)) T.m_is_within T.F_is_within.kp T.b_is_within (takes_of rfl rfl rfl rfl) (da_cons (de_var 1) (da_cons de_int (da_cons (de_glob rfl T.v_MOST_ROW) da_nil))))))) pss_never pss_nil) (pss_cons (ps_fld (pe_var (i := 0) rfl (Or.inl rfl)) (pe_var (i := 1) rfl (Or.inl rfl)) rfl) (pss_cons (ps_fld (pe_var (i := 0) rfl (Or.inl rfl)) (pe_tup pa_nil) rfl) (pss_cons (ps_fld (pe_var (i := 0) rfl (Or.inl rfl)) (pe_lst pa_nil) rfl) (pss_one (ps_fld (pe_var (i := 0) rfl (Or.inl rfl)) (pe_lst pa_nil) rfl))))))
theorem ok_Notes_len (T : Tx K mg) : FnOk P w K mg base (L2.CX P w) 1 T.a_Notes_len T.fd_Notes_len ["self"] (PSp C_Notes 0 g_Notes_len) := by
  refine okR (C := C_Notes) (n := 0) T.F_Notes_len sc_Notes_len rfl fun cdv A outer s H E hr => ?_
  have hu := hu_of hr
  exact (pss_one (ps_ret (de_len T.z_len (dl_of (de_told 0 T.ntc)))))
theorem ok_ties_of (T : Tx K mg) : FnOk P w K mg base (L2.CX P w) 1 T.a_ties_of T.fd_ties_of ["book"] (DSp 1 g_ties_of) := by
  refine okD T.F_ties_of sc_ties_of rfl fun cdv A outer s H E hr => ?_
  have hu := hu_of hr
  exact (pss_ties (fi := tiI) (fa := tiA) (f1 := ti1) (f2 := ti2) (passes_of rfl) rfl (by first | exact ps_asg (pe_lc (own := [("point", 6)]) rfl sc_ties_of.nd (di_rng1 T.z_range (da_cons (de_add (de_subs hu (dl_var 0) de_int) de_int) da_nil)) (blkOk_by (own := [("point", 6)]) (N := ["book", "found", "number", "start", "end", "much", "point"]) (sc := defScope s_ties_of) (by decide +kernel)) (fun _ _ _ _ _ => dg_name 6 sc_ties_of.nd) (fun _ _ _ _ _ => dts_nil) (fun _ _ _ _ _ => pe_new)) (pg_name (i := 1) sc_ties_of.nd rfl (by first | exact Or.inl rfl | exact Or.inr rfl)) | exact ps_setLc (own := [("point", 6)]) rfl sc_ties_of.nd rfl rfl (sw_true rfl rfl rfl (by decide +kernel)) (di_rng1 T.z_range (da_cons (de_add (de_subs hu (dl_var 0) de_int) de_int) da_nil)) (blkOk_by (own := [("point", 6)]) (N := ["book", "found", "number", "start", "end", "much", "point"]) (sc := defScope s_ties_of) (by decide +kernel)) (fun _ _ _ _ _ => dg_name 6 sc_ties_of.nd) (fun _ _ _ _ _ => dts_nil) (fun _ _ _ _ _ => pe_new))
  (di_enum T.z_enumerate (de_subs hu (dl_var 0) de_int)) (dg_tup rfl (dgs_cons (dg_name 2 sc_ties_of.nd) (dgs_cons (dg_tup rfl (dgs_cons (dg_name 3 sc_ties_of.nd) (dgs_cons (dg_name 4 sc_ties_of.nd) (dgs_cons (dg_name 5 sc_ties_of.nd) dgs_nil)))) dgs_nil))) (ps_nest 1 3 (de_tup (da_cons (de_var 2) (da_cons de_int (da_cons (de_var 4) (da_cons (de_var 5) da_nil)))))) (ps_nest 1 4 (de_tup (da_cons (de_var 2) (da_cons (de_neg de_int) (da_cons (de_var 3) (da_cons (de_neg (de_var 5)) da_nil)))))) (ps_ret (pe_var (i := 1) rfl (by first | exact Or.inl rfl | exact Or.inr (Or.inl rfl) | exact Or.inr (Or.inr rfl)))) (by intro _; rfl) ti_qi ti_qa ti_q1 ti_q2)
theorem ok_walked (T : Tx K mg) : FnOk P w K mg base (L2.CX P w) 2 T.a_walked T.fd_walked ["book", "start"] (DSp 2 g_walked) := by
  refine okD T.F_walked sc_walked rfl fun cdv A outer s H E hr => ?_
  have hu := hu_of hr
  exact (dss_cons (ds_set 2 (de_call (ok_ties_of T) fnD_len (hr.mono (by decide)) T.m_ties_of T.F_ties_of.kp T.b_ties_of (takes_of rfl rfl rfl rfl) (da_cons (de_var 0) da_nil)) sc_walked.nd)
  (dss_cons (ds_own 3 (df_d1 (de_var 1) (de_tup (da_cons (de_F onlyLD_lst (df_lst da_nil)) (da_cons de_int da_nil)))) sc_walked.nd)
  (dss_cons (ds_set 4 (de_F onlyLD_lst (df_lst (da_cons (de_var 1) da_nil))) sc_walked.nd)
  (dss_cons (ds_fgtB [4, 5, 6, 7, 8, 9, 10] (ds_while 100 (passes_of rfl) (dt_plain (dl_var 4))
  (dss_fgtB [5, 6, 7, 8, 9, 10] (dss_cons (ds_own 5 (df_lst da_nil) sc_walked.nd)
  (dss_cons (ds_fgtB [6, 7, 8, 9, 10] (ds_for (passes_of rfl) rfl (di_seq (de_var 4)) (dg_name 6 sc_walked.nd)
  (dss_fgtB [6, 7, 8, 9, 10] (dss_one (ds_fgtB [7, 8, 9, 10] (ds_for (passes_of rfl) rfl (di_seq (de_subs hu (dl_var 2) (de_var 6))) (dg_tup rfl (dgs_cons (dg_name 7 sc_walked.nd) (dgs_cons (dg_name 8 sc_walked.nd) (dgs_cons (dg_name 9 sc_walked.nd) (dgs_cons (dg_name 10 sc_walked.nd) dgs_nil)))))
  (dss_fgtB [7, 8, 9, 10] (dss_one (ds_if (dt_nin hu (de_var 9) (dl_var 3))
  (dss_cons (ds_sto 3 hu (de_tup (da_cons (de_add (de_subs hu (dl_of (de_subs hu (dl_var 3) (de_var 6))) de_int) (de_F onlyLD_lst (df_lst (da_cons (de_tup (da_cons (de_var 7) (da_cons (de_var 8) da_nil))) da_nil)))) (da_cons (de_add (de_subs hu (dl_of (de_subs hu (dl_var 3) (de_var 6))) de_int) (de_var 10)) da_nil))) (de_var 9))
  (dss_one (ds_append 5 (de_var 9))))
  dss_nil)))))))))
  (dss_one (ds_frz 5 (ds_set 4 (de_var 5) sc_walked.nd))))))))
  (dss_one (ds_frz 3 (ds_ret (de_var 3))))))))
theorem ok_lots_of (T : Tx K mg) : FnOk P w K mg base (L2.CX P w) 3 T.a_lots_of T.fd_lots_of ["book"] (DSp 1 g_lots_of) := by
  refine okD T.F_lots_of sc_lots_of rfl fun cdv A outer s H E hr => ?_
  have hu := hu_of hr
  exact (dss_cons (ds_set 1 (de_F onlyLD_LR (df_lr1 rfl T.z_list T.z_range (de_add (de_subs hu (dl_var 0) de_int) de_int))) sc_lots_of.nd)
  (dss_cons (ds_own 2 (df_lst da_nil) sc_lots_of.nd)
  (dss_cons (ds_fgtB [1, 3] (ds_while 100 (passes_of rfl) (dt_plain (dl_var 1))
  (dss_fgtB [3] (dss_cons (ds_set 3 (de_sorted rfl T.z_sorted (de_call (ok_walked T) fnD_len (hr.mono (by decide)) T.m_walked T.F_walked.kp T.b_walked (takes_of rfl rfl rfl rfl) (da_cons (de_var 0) (da_cons (de_subs hu (dl_var 1) de_int) da_nil)))) sc_lots_of.nd)
  (dss_cons (ds_append 2 (de_var 3))
  (dss_one (by first | exact ds_set 1 (de_F onlyLD_lc (df_lc [("point", 4)] (tgIn_name (by decide)) rfl sc_lots_of.nd (di_seq (de_var 1)) (blkOk_by (own := [("point", 4)]) (N := ["book", "left", "found", "some", "point"]) (sc := defScope s_lots_of) (by decide +kernel)) (fun _ _ _ _ _ => (dg_name 4 sc_lots_of.nd)) (fun _ _ _ _ _ => (dts_one (dt_nin hu (de_var 4) (dl_var 3)))) (fun _ _ _ _ _ => (de_var 4)))) sc_lots_of.nd | exact ds_setA onlyLD_lc (ps_lcS [("point", 4)] (tgIn_name (by decide)) rfl sc_lots_of.nd (di_seq (de_var 1)) (blkOk_by (own := [("point", 4)]) (N := ["book", "left", "found", "some", "point"]) (sc := defScope s_lots_of) (by decide +kernel)) (fun _ _ _ _ _ => (dg_name 4 sc_lots_of.nd)) (fun _ _ _ _ _ => (dts_one (dt_nin hu (de_var 4) (dl_var 3)))) (fun _ _ _ _ _ => (de_var 4)) rfl rfl (sw_true rfl rfl rfl (by decide +kernel))) (fun _ _ _ q => q))))))))
  (dss_one (ds_frz 2 (ds_ret (de_var 2)))))))
theorem ok_Notes_open_lots (T : Tx K mg) : FnOk P w K mg base (L2.CX P w) 4 T.a_Notes_open_lots T.fd_Notes_open_lots ["self"] (PSp C_Notes 0 g_Notes_open_lots) := by
  refine okR (C := C_Notes) (n := 0) T.F_Notes_open_lots sc_Notes_open_lots rfl fun cdv A outer s H E hr => ?_
  have hu := hu_of hr
  exact (pss_one (ps_ret (de_sub (de_len T.z_len (dl_of (de_call (ok_lots_of T) fnD_len (hr.mono (by decide)) T.m_lots_of T.F_lots_of.kp T.b_lots_of (takes_of rfl rfl rfl rfl) (da_cons (de_meth0 0 T.ntc T.mt_Notes_book (fun _ _ _ _ => rfl) (ok_Notes_book T) (hr.mono (by decide)) T.b_Notes_book (takes_of rfl rfl rfl rfl)) da_nil)))) de_int)))
theorem ok_Notes_str (T : Tx K mg) : FnOk P w K mg base (L2.CX P w) 1 T.a_Notes_str T.fd_Notes_str ["self"] (PSp C_Notes 0 g_Notes_str) := by
  refine okR (C := C_Notes) (n := 0) T.F_Notes_str sc_Notes_str rfl fun cdv A outer s H E hr => ?_
  have hu := hu_of hr
  exact (pss_one (ps_ret (de_strS T.z_str (da_cons (de_join de_str (de_F onlyLD_lc (df_lc [("start", 1), ("end", 2), ("much", 3)] (tgIn_tup (by simp only [List.mem_cons, List.not_mem_nil, or_false, forall_eq_or_imp, forall_eq]; exact ⟨(tgIn_name (by decide)), (tgIn_name (by decide)), (tgIn_name (by decide))⟩)) rfl sc_Notes_str.nd (di_seq (de_told 0 T.ntc)) (blkOk_by (own := [("start", 1), ("end", 2), ("much", 3)]) (N := ["self", "start", "end", "much"]) (sc := defScope s_Notes_str) (by decide +kernel)) (fun _ _ _ _ _ => (dg_tup rfl (dgs_cons (dg_name 1 sc_Notes_str.nd) (dgs_cons (dg_name 2 sc_Notes_str.nd) (dgs_cons (dg_name 3 sc_Notes_str.nd) dgs_nil))))) (fun _ _ _ _ _ => dts_nil) (fun _ _ _ _ _ => (de_js (JD.cons (de_fmt (de_var 1)) (JD.cons de_str (JD.cons (de_fmt (de_var 2)) (JD.cons de_str (JD.cons (de_fmt (de_var 3)) JD.nil)))))))))) da_nil))))
theorem ok_is_telling (T : Tx K mg) : FnOk P w K mg base (L2.CX P w) 2 T.a_is_telling T.fd_is_telling ["many", "thing"] (DSp 2 g_is_telling) := by
  refine okD T.F_is_telling sc_is_telling rfl fun cdv A outer s H E hr => ?_
  have hu := hu_of hr
  exact (dss_cons (ds_if (PW.pt (dw_or (dt_not (dt_plain (dl_of (de_isi .tup T.z_isinstance T.z_tuple (de_var 1) (by decide +kernel) (by decide) (by decide))))) (dw_or (dt_ne hr.units (de_len T.z_len (dl_var 1)) de_int) (dw_or1 (dt_not (dt_plain (dl_of (de_call (ok_is_within T) fnD_len (hr.mono (by decide)) T.m_is_within T.F_is_within.kp T.b_is_within (takes_of rfl rfl rfl rfl) (da_cons (de_subs hu (dl_var 1) de_int) (da_cons de_int (da_cons (de_sub (de_var 0) de_int) da_nil)))))))))))
  (dss_one (ds_ret de_bl))
  dss_nil)
  (dss_one (ds_ret (de_and (de_call (ok_is_within T) fnD_len (hr.mono (by decide)) T.m_is_within T.F_is_within.kp T.b_is_within (takes_of rfl rfl rfl rfl) (da_cons (de_subs hu (dl_var 1) de_int) (da_cons (de_add (de_subs hu (dl_var 1) de_int) de_int) (da_cons (de_var 0) da_nil)))) (de_one (de_call (ok_is_within T) fnD_len (hr.mono (by decide)) T.m_is_within T.F_is_within.kp T.b_is_within (takes_of rfl rfl rfl rfl) (da_cons (de_subs hu (dl_var 1) de_int) (da_cons (de_neg (de_glob rfl T.v_MOST_SUM)) (da_cons (de_glob rfl T.v_MOST_SUM) da_nil)))))))))
theorem ok_Notes_tell (T : Tx K mg) : FnOk P w K mg base (L2.CX P w) 3 T.a_Notes_tell T.fd_Notes_tell ["self", "start", "end", "much"] (OSp C_Notes 3 g_Notes_tell) := by
  refine okM (C := C_Notes) (n := 3) T.F_Notes_tell sc_Notes_tell rfl fun cdv A outer s H E hr => ?_
  have hu := hu_of hr
  exact (mss_cons (m_of (ds_set 4 (de_tup (da_cons (de_var 1) (da_cons (de_var 2) (da_cons (de_var 3) da_nil)))) sc_Notes_tell.nd))
  (mss_cons (m_of (ds_if (PW.pt (dw_or (dt_not (dt_plain (dl_of (de_call (ok_is_telling T) fnD_len (hr.mono (by decide)) T.m_is_telling T.F_is_telling.kp T.b_is_telling (takes_of rfl rfl rfl rfl) (da_cons (de_many 0 T.ntc) (da_cons (de_var 4) da_nil)))))) (dw_or1 (dt_eq hr.units (de_len T.z_len (dl_of (de_told 0 T.ntc))) (de_glob rfl T.v_MOST_TOLD)))))
  (dss_one (ds_raise rfl (takes_of rfl rfl rfl rfl) (pmk_own PySem.F.excBase_ValueError T.x_BadNumber T.m_BadNumber T.k_BadNumber (raises_own T.s_BadNumber T.t_BadNumber) rfl)))
  dss_nil))
  (mss_cons (m_of (ds_set 5 (de_call (ok_walked T) fnD_len (hr.mono (by decide)) T.m_walked T.F_walked.kp T.b_walked (takes_of rfl rfl rfl rfl) (da_cons (de_meth0 0 T.ntc T.mt_Notes_book (fun _ _ _ _ => rfl) (ok_Notes_book T) (hr.mono (by decide)) T.b_Notes_book (takes_of rfl rfl rfl rfl)) (da_cons (de_var 1) da_nil))) sc_Notes_tell.nd))
  (mss_cons (m_of (ds_if (PW.pt (dw_and (dt_in hu (de_var 2) (dl_var 5)) (dw_and1 (dt_ne hr.units (de_subs hu (dl_of (de_subs hu (dl_var 5) (de_var 2))) de_int) (de_var 3)))))
  (dss_one (ds_raise rfl (takes_of rfl rfl rfl rfl) (pmk_own PySem.F.excBase_ValueError T.x_NotTrue T.m_NotTrue T.k_NotTrue (raises_own T.s_NotTrue T.t_NotTrue) rfl)))
  dss_nil))
  (mss_cons (m_expr (x_meth 0 T.ntc T.mt_Notes_note (fun _ _ _ _ => rfl) (ok_Notes_note T) fnM_len (hr.mono (by decide)) T.b_Notes_note (takes_of rfl rfl rfl rfl) (da_cons de_str da_nil)))
  (mss_cons (m_told 0 T.ntc (x_of (de_add (de_told 0 T.ntc) (de_tup (da_cons (de_var 4) da_nil)))))
  (mss_one (m_ret (x_of (de_in hu (de_var 2) (dl_var 5)))))))))))
theorem ok_Notes_twin (T : Tx K mg) : FnOk P w K mg base (L2.CX P w) 4 T.a_Notes_twin T.fd_Notes_twin ["self"] (TwSp C_Notes) := by
  refine twin_ok (k := 3) T.F_Notes_twin sc_Notes_twin T.ntc fun cdv A outer s H E hr => ?_
  exact (pss_cons (ps_set sc_Notes_twin.nd rfl (Or.inl rfl) (pe_makeD T.mk_Notes (ok_Notes_init T) (hr.mono (by decide)) T.m_Notes T.b_Notes_init (passAt (W := WEx E) (takes_of rfl rfl rfl rfl)) (pa_cons (pe_fld (pe_var (i := 0) rfl (Or.inl rfl)) rfl) pa_nil))) (pss_cons (ps_fld (pe_var (i := 1) rfl (Or.inl rfl)) (pe_fld (pe_var (i := 0) rfl (Or.inl rfl)) rfl) rfl) (pss_one (ps_ret (pe_var (i := 1) rfl (Or.inl rfl))))))
theorem ok__law_all_stretches (T : Tx K mg) : FnOk P w K mg base (L2.CX P w) 1 T.a__law_all_stretches T.fd__law_all_stretches ["many"] (DSp 1 g__law_all_stretches) := by
  refine okD T.F__law_all_stretches sc__law_all_stretches rfl fun cdv A outer s H E hr => ?_
  have hu := hu_of hr
  exact (dss_cons (ds_set 1 (de_F onlyLD_lst (df_lst da_nil)) sc__law_all_stretches.nd)
  (dss_cons (ds_fgtB [2] (ds_for (passes_of rfl) rfl (di_rng1 T.z_range (da_cons (de_var 0) da_nil)) (dg_name 2 sc__law_all_stretches.nd)
  (dss_fgtB [2] (dss_one (ds_set 1 (de_add (de_var 1) (de_F onlyLD_lc (df_lc [("end", 3)] (tgIn_name (by decide)) rfl sc__law_all_stretches.nd (di_rng2 T.z_range (da_cons (de_add (de_var 2) de_int) (da_cons (de_add (de_var 0) de_int) da_nil))) (blkOk_by (own := [("end", 3)]) (N := ["many", "found", "start", "end"]) (sc := defScope s__law_all_stretches) (by decide +kernel)) (fun _ _ _ _ _ => (dg_name 3 sc__law_all_stretches.nd)) (fun _ _ _ _ _ => dts_nil) (fun _ _ _ _ _ => (de_tup (da_cons (de_var 2) (da_cons (de_var 3) da_nil))))))) sc__law_all_stretches.nd)))))
  (dss_one (ds_ret (de_var 1)))))
theorem ok__law_hidden (T : Tx K mg) : FnOk P w K mg base (L2.CX P w) 1 T.a__law_hidden T.fd__law_hidden ["draws", "at", "many"] (DSp 3 g__law_hidden) := by
  refine okD T.F__law_hidden sc__law_hidden rfl fun cdv A outer s H E hr => ?_
  have hu := hu_of hr
  exact (dss_one (ds_ret (de_F onlyLD_lc (df_lc [("place", 3)] (tgIn_name (by decide)) rfl sc__law_hidden.nd (di_rng1 T.z_range (da_cons (de_var 2) da_nil)) (blkOk_by (own := [("place", 3)]) (N := ["draws", "at", "many", "place"]) (sc := defScope s__law_hidden) (by decide +kernel)) (fun _ _ _ _ _ => (dg_name 3 sc__law_hidden.nd)) (fun _ _ _ _ _ => dts_nil) (fun _ _ _ _ _ => (de_sub (de_mod (de_subs hu (dl_var 0) (de_mod (de_add (de_var 1) (de_var 3)) de_int)) de_int) de_int))))))
theorem ok__law_cell (T : Tx K mg) : FnOk P w K mg base (L2.CX P w) 1 T.a__law_cell T.fd__law_cell ["script", "k"] (DSp 2 g__law_cell) := by
  refine okD T.F__law_cell sc__law_cell rfl fun cdv A outer s H E hr => ?_
  have hu := hu_of hr
  exact (dss_cons (ds_if (dt_lt (de_var 1) (de_len T.z_len (dl_var 0)))
  (dss_one (ds_ret (de_subs hu (dl_var 0) (de_var 1))))
  dss_nil)
  (dss_one (ds_ret de_int)))
theorem ok__law_row (T : Tx K mg) : FnOk P w K mg base (L2.CX P w) 2 T.a__law_row T.fd__law_row ["script", "at"] (DSp 2 g__law_row) := by
  refine okD T.F__law_row sc__law_row rfl fun cdv A outer s H E hr => ?_
  have hu := hu_of hr
  exact (dss_cons (ds_set 2 (de_call (ok__law_cell T) fnD_len (hr.mono (by decide)) T.m__law_cell T.F__law_cell.kp T.b__law_cell (takes_of rfl rfl rfl rfl) (da_cons (de_var 0) (da_cons (de_var 1) da_nil))) sc__law_row.nd)
  (dss_cons (ds_own 3 (df_lst da_nil) sc__law_row.nd)
  (dss_cons (ds_fgtB [2, 4] (ds_for (passes_of rfl) rfl (di_rng1 T.z_range (da_cons de_int da_nil)) (dg_name 4 sc__law_row.nd)
  (dss_fgtB [4] (dss_one (ds_if (dt_lt (de_call (ok__law_cell T) fnD_len (hr.mono (by decide)) T.m__law_cell T.F__law_cell.kp T.b__law_cell (takes_of rfl rfl rfl rfl) (da_cons (de_var 0) (da_cons (de_var 1) da_nil))) (de_pow de_int de_int))
  (dss_cons (ds_set 2 (de_mod (de_add (de_add (de_add (de_mul (de_var 2) de_int) (de_mul de_int (de_var 4))) de_int) (de_call (ok__law_cell T) fnD_len (hr.mono (by decide)) T.m__law_cell T.F__law_cell.kp T.b__law_cell (takes_of rfl rfl rfl rfl) (da_cons (de_var 0) (da_cons (de_mod (de_add (de_add (de_var 1) de_int) (de_var 4)) de_int) da_nil)))) de_int) sc__law_row.nd)
  (dss_one (ds_append 3 (de_mod (de_div (de_var 2) de_int) de_int))))
  (dss_cons (ds_append 3 (de_mod (de_var 2) de_int))
  (dss_one (ds_set 2 (de_div (de_var 2) de_int) sc__law_row.nd))))))))
  (dss_one (ds_frz 3 (ds_ret (de_var 3)))))))
theorem ok__law_book (T : Tx K mg) : FnOk P w K mg base (L2.CX P w) 3 T.a__law_book T.fd__law_book ["script", "at", "most_row", "wrong"] (DSp 4 g__law_book) := by
  refine okD T.F__law_book sc__law_book rfl fun cdv A outer s H E hr => ?_
  have hu := hu_of hr
  exact (dss_cons (ds_set 4 (de_call (ok__law_row T) fnD_len (hr.mono (by decide)) T.m__law_row T.F__law_row.kp T.b__law_row (takes_of rfl rfl rfl rfl) (da_cons (de_var 0) (da_cons (de_var 1) da_nil))) sc__law_book.nd)
  (dss_cons (ds_set 5 (de_add de_int (de_mod (de_subs hu (dl_var 4) de_int) (de_var 2))) sc__law_book.nd)
  (dss_cons (ds_set 6 (de_call (ok__law_hidden T) fnD_len (hr.mono (by decide)) T.m__law_hidden T.F__law_hidden.kp T.b__law_hidden (takes_of rfl rfl rfl rfl) (da_cons (de_var 4) (da_cons de_int (da_cons (de_var 5) da_nil)))) sc__law_book.nd)
  (dss_cons (ds_own 7 (df_lst da_nil) sc__law_book.nd)
  (dss_cons (ds_fgtB [8, 9, 10, 11] (ds_for (passes_of rfl) rfl (di_rng1 T.z_range (da_cons (de_mod (de_subs hu (dl_var 4) de_int) de_int) da_nil)) (dg_name 8 sc__law_book.nd)
  (dss_fgtB [8, 9, 10, 11] (dss_cons (ds_set 9 (de_mod (de_subs hu (dl_var 4) (de_add de_int (de_mul de_int (de_var 8)))) (de_var 5)) sc__law_book.nd)
  (dss_cons (ds_set 10 (de_add (de_add (de_var 9) de_int) (de_mod (de_subs hu (dl_var 4) (de_add de_int (de_mul de_int (de_var 8)))) (de_sub (de_var 5) (de_var 9)))) sc__law_book.nd)
  (dss_cons (ds_set 11 (de_int1 T.z_int (da_cons (de_and (de_var 3) (de_one (de_eq hr.units (de_mod (de_subs hu (dl_var 4) (de_add de_int (de_mul de_int (de_var 8)))) de_int) de_int))) da_nil)) sc__law_book.nd)
  (dss_one (ds_append 7 (de_tup (da_cons (de_var 9) (da_cons (de_var 10) (da_cons (de_add (de_sum rfl T.z_sum (da_cons (de_slice (dl_var 6) (do_some (de_var 9)) (do_some (de_var 10))) da_nil)) (de_var 11)) da_nil))))))))))))
  (dss_one (ds_ret (de_tup (da_cons (de_var 5) (da_cons (de_tuple T.z_tuple (dl_var 7)) da_nil))))))))))
theorem ok_look_stretch (T : Tx K mg) : FnOk P w K mg base (L2.CX P w) 2 T.a_look_stretch T.fd_look_stretch ["many", "start", "end"] (DSp 3 g_look_stretch) := by
  refine okD T.F_look_stretch sc_look_stretch rfl fun cdv A outer s H E hr => ?_
  have hu := hu_of hr
  exact (dss_one (ds_if (PW.pt (dw_or (dt_not (dt_plain (dl_of (de_call (ok_is_within T) fnD_len (hr.mono (by decide)) T.m_is_within T.F_is_within.kp T.b_is_within (takes_of rfl rfl rfl rfl) (da_cons (de_var 1) (da_cons de_int (da_cons (de_sub (de_var 0) de_int) da_nil))))))) (dw_or1 (dt_not (dt_plain (dl_of (de_call (ok_is_within T) fnD_len (hr.mono (by decide)) T.m_is_within T.F_is_within.kp T.b_is_within (takes_of rfl rfl rfl rfl) (da_cons (de_var 2) (da_cons (de_add (de_var 1) de_int) (da_cons (de_var 0) da_nil))))))))))
  (dss_one (ds_raise rfl (takes_of rfl rfl rfl rfl) (pmk_own PySem.F.excBase_ValueError T.x_BadStretch T.m_BadStretch T.k_BadStretch (raises_own T.s_BadStretch T.t_BadStretch) rfl)))
  dss_nil))
theorem ok_Notes_comes_to (T : Tx K mg) : FnOk P w K mg base (L2.CX P w) 3 T.a_Notes_comes_to T.fd_Notes_comes_to ["self", "start", "end"] (OSp C_Notes 2 g_Notes_comes_to) := by
  refine okM (C := C_Notes) (n := 2) T.F_Notes_comes_to sc_Notes_comes_to rfl fun cdv A outer s H E hr => ?_
  have hu := hu_of hr
  exact (mss_cons (m_of (ds_expr (de_call (ok_look_stretch T) fnD_len (hr.mono (by decide)) T.m_look_stretch T.F_look_stretch.kp T.b_look_stretch (takes_of rfl rfl rfl rfl) (da_cons (de_many 0 T.ntc) (da_cons (de_var 1) (da_cons (de_var 2) da_nil))))))
  (mss_cons (m_of (ds_set 3 (de_call (ok_walked T) fnD_len (hr.mono (by decide)) T.m_walked T.F_walked.kp T.b_walked (takes_of rfl rfl rfl rfl) (da_cons (de_meth0 0 T.ntc T.mt_Notes_book (fun _ _ _ _ => rfl) (ok_Notes_book T) (hr.mono (by decide)) T.b_Notes_book (takes_of rfl rfl rfl rfl)) (da_cons (de_var 1) da_nil))) sc_Notes_comes_to.nd))
  (mss_cons (m_of (ds_if (dt_nin hu (de_var 2) (dl_var 3))
  (dss_one (ds_raise rfl (takes_of rfl rfl rfl rfl) (pmk_own PySem.F.excBase_ValueError T.x_NotSure T.m_NotSure T.k_NotSure (raises_own T.s_NotSure T.t_NotSure) rfl)))
  dss_nil))
  (mss_one (m_ret (x_of (de_subs hu (dl_of (de_subs hu (dl_var 3) (de_var 2))) de_int)))))))
theorem ok__law_note_told (T : Tx K mg) : FnOk P w K mg base (L2.CX P w) 4 T.a__law_note_told T.fd__law_note_told ["notes", "mode", "start", "end", "much"] (OSp C_Notes 4 g__law_note_told) := by
  refine okM (C := C_Notes) (n := 4) T.F__law_note_told sc__law_note_told rfl fun cdv A outer s H E hr => ?_
  have hu := hu_of hr
  exact (mss_one (m_try (xt_of T) rfl rfl (takes_of rfl rfl rfl rfl) (fun _ _ _ tk xe => (mss_cons (m_if (xt_lift (dt_eq hr.units (de_var 1) de_int))
  (mss_one (m_ret (x_lst1 (x_meth 0 T.ntc T.mt_Notes_tell (fun _ _ _ _ => rfl) (ok_Notes_tell T) fnM_len (hr.mono (by decide)) T.b_Notes_tell (tk) (da_cons (de_var 2) (da_cons (de_var 3) (da_cons (de_var 4) da_nil)))))))
  mss_nil)
  (mss_cons (m_if (xt_lift (dt_eq hr.units (de_var 1) de_int))
  (mss_one (m_ret (x_meth 0 T.ntc T.mt_Notes_forget (fun _ _ _ _ => rfl) (ok_Notes_forget T) fnM_len (hr.mono (by decide)) T.b_Notes_forget (tk) (da_cons (de_var 2) da_nil))))
  mss_nil)
  (mss_one (m_ret (x_if (dt_eq hr.units (de_var 1) de_int) (x_meth0 0 T.ntc T.mt_Notes_back (fun _ _ _ _ => rfl) (ok_Notes_back T) fnM_len (hr.mono (by decide)) T.b_Notes_back (tk)) (x_meth 0 T.ntc T.mt_Notes_comes_to (fun _ _ _ _ => rfl) (ok_Notes_comes_to T) fnM_len (hr.mono (by decide)) T.b_Notes_comes_to (tk) (da_cons (de_var 2) (da_cons (de_var 3) da_nil))))))))) (HsM.only ⟨rfl, by decide, .inl T.m_BadNumber⟩ (fun a oe cls d pn hz hf => hm_gen (mss_one (m_ret (x_of de_str)))) (HsM.named 5 ⟨rfl, by decide, .inl T.m_NotTrue⟩ sc__law_note_told.nd rfl rfl (fun a oe cls d pn hz hf => hm_ret (te_two (te_one T.z_isinstance T.m_StretchError) (te_one T.z_isinstance T.m_BadNumber)) hz hf) (HsM.only ⟨rfl, by decide, .inl T.m_NotSure⟩ (fun a oe cls d pn hz hf => hm_gen (mss_one (m_ret (x_of de_str)))) (HsM.only ⟨rfl, by decide, .inl T.m_BadStretch⟩ (fun a oe cls d pn hz hf => hm_gen (mss_one (m_ret (x_of de_str)))) (HsM.named 5 ⟨rfl, by decide, .inl T.m_Nothing⟩ sc__law_note_told.nd rfl rfl (fun a oe cls d pn hz hf => hm_ret (te_one T.z_isinstance T.m_StretchError) hz hf) HsM.nil)))))))
theorem ok_law (T : Tx K mg) : FnOk P w K mg base (L2.CX P w) 5 T.a_law T.fd_law ["script"] (DSp 1 g_law) := by
  refine okTr T.F_law sc_law rfl fun cdv A outer s H E hr => ?_
  have hu := hu_of hr
  exact (mss_cons (m_of (ds_set 1 (de_call (ok__law_book T) fnD_len (hr.mono (by decide)) T.m__law_book T.F__law_book.kp T.b__law_book (takes_of rfl rfl rfl rfl) (da_cons (de_var 0) (da_cons de_int (da_cons de_int (da_cons de_bl da_nil))))) sc_law.nd))
  (mss_cons (m_of (ds_asg (de_var 1) (dg_tup rfl (dgs_cons (dg_name 2 sc_law.nd) (dgs_cons (dg_name 3 sc_law.nd) dgs_nil)))))
  (mss_cons (m_new2 4 5 T.mk_Notes (ok_Notes_init T) (hr.mono (by decide)) T.m_Notes T.b_Notes_init (takes_of rfl rfl rfl rfl) (de_var 2) (de_var 2) rfl sc_law.nd)
  (mss_cons (m_of (ds_own 6 (df_lst (da_cons (de_F onlyLD_lst (df_lst da_nil)) (da_cons (de_F onlyLD_lst (df_lst da_nil)) da_nil))) sc_law.nd))
  (mss_cons (m_fgtB [7, 8, 9, 10] (m_for (passes_of rfl) rfl (di_rng1 T.z_range (da_cons (de_len T.z_len (dl_var 3)) da_nil)) (dg_name 7 sc_law.nd)
  (mss_fgtB [7, 8, 9, 10] (mss_cons (m_of (ds_asg (de_subs hu (dl_var 3) (de_var 7)) (dg_tup rfl (dgs_cons (dg_name 8 sc_law.nd) (dgs_cons (dg_name 9 sc_law.nd) (dgs_cons (dg_name 10 sc_law.nd) dgs_nil))))))
  (mss_cons (m_stL 6 (x_add (x_of (de_subs hu (dl_var 6) de_int)) (x_lst1 (x_meth 4 T.ntc T.mt_Notes_tell (fun _ _ _ _ => rfl) (ok_Notes_tell T) fnM_len (hr.mono (by decide)) T.b_Notes_tell (takes_of rfl rfl rfl rfl) (da_cons (de_var 8) (da_cons (de_var 9) (da_cons (de_var 10) da_nil)))))) de_int)
  (mss_cons (m_of (ds_asg (de_subs hu (dl_var 3) (de_sub (de_sub (de_len T.z_len (dl_var 3)) de_int) (de_var 7))) (dg_tup rfl (dgs_cons (dg_name 8 sc_law.nd) (dgs_cons (dg_name 9 sc_law.nd) (dgs_cons (dg_name 10 sc_law.nd) dgs_nil))))))
  (mss_one (m_stL 6 (x_add (x_of (de_subs hu (dl_var 6) de_int)) (x_lst1 (x_meth 5 T.ntc T.mt_Notes_tell (fun _ _ _ _ => rfl) (ok_Notes_tell T) fnM_len (hr.mono (by decide)) T.b_Notes_tell (takes_of rfl rfl rfl rfl) (da_cons (de_var 8) (da_cons (de_var 9) (da_cons (de_var 10) da_nil)))))) de_int))))))))
  (mss_cons (m_if (xt_lift (PW.pt (dw_or (dt_ne hr.units (de_countB (dl_of (de_subs hu (dl_var 6) de_int)) de_bl) (de_countB (dl_of (de_subs hu (dl_var 6) de_int)) de_bl)) (dw_or1 (dt_ne hr.units (de_countB (dl_of (de_subs hu (dl_var 6) de_int)) de_bl) (de_sub (de_var 2) (de_meth0 4 T.ntc T.mt_Notes_open_lots (fun _ _ _ _ => rfl) (ok_Notes_open_lots T) (hr.mono (by decide)) T.b_Notes_open_lots (takes_of rfl rfl rfl rfl))))))))
  (mss_one (m_ret (x_of de_bl)))
  mss_nil)
  (mss_cons (m_if (xt_lift (PW.pt (dw_or (dt_ne hr.units (de_eqOO 4 5 T.eqc (ok_Notes_eq T) (hr.mono (by decide)) T.b_Notes_eq (Nat.lt_of_succ_lt hu) (takes_of rfl rfl rfl rfl)) (de_eq hr.units (de_var 3) (de_revT (de_var 3)))) (dw_or1 (dt_ne hr.units (de_meth0 4 T.ntc T.mt_Notes_open_lots (fun _ _ _ _ => rfl) (ok_Notes_open_lots T) (hr.mono (by decide)) T.b_Notes_open_lots (takes_of rfl rfl rfl rfl)) (de_meth0 5 T.ntc T.mt_Notes_open_lots (fun _ _ _ _ => rfl) (ok_Notes_open_lots T) (hr.mono (by decide)) T.b_Notes_open_lots (takes_of rfl rfl rfl rfl)))))))
  (mss_one (m_ret (x_of de_bl)))
  mss_nil)
  (mss_cons (m_fgtB [8, 9] (m_for (passes_of rfl) rfl (di_seq (de_call (ok__law_all_stretches T) fnD_len (hr.mono (by decide)) T.m__law_all_stretches T.F__law_all_stretches.kp T.b__law_all_stretches (takes_of rfl rfl rfl rfl) (da_cons (de_var 2) da_nil))) (dg_tup rfl (dgs_cons (dg_name 8 sc_law.nd) (dgs_cons (dg_name 9 sc_law.nd) dgs_nil)))
  (mss_fgtB [8, 9] (mss_one (m_if (xt_ne hr.units (x_call 4 (ok__law_note_told T) fnM_len (hr.mono (by decide)) T.m__law_note_told T.F__law_note_told.kp T.b__law_note_told (takes_of rfl rfl rfl rfl) (da_cons de_int (da_cons (de_var 8) (da_cons (de_var 9) (da_cons de_non da_nil))))) (x_call 5 (ok__law_note_told T) fnM_len (hr.mono (by decide)) T.m__law_note_told T.F__law_note_told.kp T.b__law_note_told (takes_of rfl rfl rfl rfl) (da_cons de_int (da_cons (de_var 8) (da_cons (de_var 9) (da_cons de_non da_nil))))))
  (mss_one (m_ret (x_of de_bl)))
  mss_nil)))))
  (mss_cons (m_if (xt_lift (PW.pt (dw_or (dt_eqOD 4 T.eqc (ok_Notes_eq T) (hr.mono (by decide)) T.b_Notes_eq (Nat.lt_of_succ_lt hu) (takes_of rfl rfl rfl rfl) (de_var 1)) (dw_or (dt_eqOD 4 T.eqc (ok_Notes_eq T) (hr.mono (by decide)) T.b_Notes_eq (Nat.lt_of_succ_lt hu) (takes_of rfl rfl rfl rfl) (de_strO 4 T.mt_Notes_str.at_ T.mt_Notes_str.fn (ok_Notes_str T) (hr.mono (by decide)) T.b_Notes_str (takes_of rfl rfl rfl rfl) T.z_str)) (dw_or1 (dt_eqNN (fun _ _ _ _ _ _ => rfl) T.eqc (ok_Notes_eq T) (hr.mono (by decide)) T.b_Notes_eq (Nat.lt_of_succ_lt hu) (takes_of rfl rfl rfl rfl) T.mk_Notes (ok_Notes_init T) (hr.mono (by decide)) T.m_Notes T.b_Notes_init (de_var 2) (de_add (de_mod (de_var 2) de_int) de_int)))))))
  (mss_one (m_ret (x_of de_bl)))
  mss_nil)
  (mss_cons (m_twin 4 11 T.ntc T.mt_Notes_twin (ok_Notes_twin T) (hr.mono (by decide)) T.b_Notes_twin (takes_of rfl rfl rfl rfl) sc_law.nd)
  (mss_cons (m_if (PW.pt (xw_or (xt_lift (dt_neOO 11 4 T.eqc (ok_Notes_eq T) (hr.mono (by decide)) T.b_Notes_eq (Nat.lt_of_succ_lt hu) (takes_of rfl rfl rfl rfl))) (xw_or1 (xt_ne hr.units (x_call 11 (ok__law_note_told T) fnM_len (hr.mono (by decide)) T.m__law_note_told T.F__law_note_told.kp T.b__law_note_told (takes_of rfl rfl rfl rfl) (da_cons de_int (da_cons de_non (da_cons de_non (da_cons de_non da_nil))))) (x_of de_str)))))
  (mss_one (m_ret (x_of de_bl)))
  mss_nil)
  (mss_cons (m_if (xt_lift (dt_gt (de_len T.z_len (dl_var 3)) de_int))
  (mss_one (m_if (PW.pt (xw_or (xt_ne hr.units (x_meth 11 T.ntc T.mt_Notes_forget (fun _ _ _ _ => rfl) (ok_Notes_forget T) fnM_len (hr.mono (by decide)) T.b_Notes_forget (takes_of rfl rfl rfl rfl) (da_cons de_int da_nil)) (x_of (de_subs hu (dl_var 3) de_int))) (xw_or (xt_lift (dt_eqOO 11 4 T.eqc (ok_Notes_eq T) (hr.mono (by decide)) T.b_Notes_eq (Nat.lt_of_succ_lt hu) (takes_of rfl rfl rfl rfl))) (xw_or1 (xt_lift (dt_ne hr.units (de_lenO 4 T.mt_Notes_len.at_ T.mt_Notes_len.fn (ok_Notes_len T) (hr.mono (by decide)) T.b_Notes_len (takes_of rfl rfl rfl rfl) T.z_len) (de_len T.z_len (dl_var 3))))))))
  (mss_one (m_ret (x_of de_bl)))
  mss_nil))
  mss_nil)
  (mss_cons (m_fgtB [12] (m_for (passes_of rfl) rfl (di_seq (de_var 3)) (dg_name 12 sc_law.nd)
  (mss_fgtB [12] (mss_one (m_expr (x_meth0 4 T.ntc T.mt_Notes_back (fun _ _ _ _ => rfl) (ok_Notes_back T) fnM_len (hr.mono (by decide)) T.b_Notes_back (takes_of rfl rfl rfl rfl)))))))
  (mss_one (m_ret (x_and (de_eqON 4 (fun _ _ _ _ _ _ => rfl) T.eqc (ok_Notes_eq T) (hr.mono (by decide)) T.b_Notes_eq (Nat.lt_of_succ_lt hu) (takes_of rfl rfl rfl rfl) T.mk_Notes (ok_Notes_init T) (hr.mono (by decide)) T.m_Notes T.b_Notes_init (de_var 2)) (x_eq hr.units (x_call 4 (ok__law_note_told T) fnM_len (hr.mono (by decide)) T.m__law_note_told T.F__law_note_told.kp T.b__law_note_told (takes_of rfl rfl rfl rfl) (da_cons de_int (da_cons de_non (da_cons de_non (da_cons de_non da_nil))))) (x_of de_str))))))))))))))))))
end
theorem all_mk {l : PySem.W.OpenLaw} {w : World} {K : PySem.W.Frag} {h : Heap} {mg : Str → Option Value} {fa f0 f1 f2 f3 f4 f5 f6 f7 f8 f9 f10 f11 f12 f13 f14 f15 f16 f17 f18 f19 f20 f21 f22 f23 f24 : Addr} (X : K.In h) (G : h.Ns mainGlobals mg) (hfa : mg "law" = some (.ref fa))
    {od0 an0 od1 an1 od2 an2 od3 an3 od4 an4 od5 an5 od6 an6 od7 an7 od8 an8 od9 an9 od10 an10 od11 an11 od12 an12 od13 an13 od14 an14 od15 an15 od16 an16 od17 an17 od18 an18 od19 an19 od20 an20 od21 an21 od22 an22 od23 an23 od24 an24 : Option Addr} {sl0 sl1 sl2 sl3 sl4 sl5 sl6 sl7 sl8 sl9 sl10 sl11 sl12 sl13 sl14 sl15 sl16 sl17 sl18 sl19 sl20 sl21 sl22 sl23 sl24 : Array (Option Value)} {oc0 kV0 dc0 pm0 cd0 ct0 oc1 kV1 dc1 pm1 cd1 ct1 oc2 kV2 dc2 pm2 cd2 ct2 oc3 kV3 dc3 pm3 cd3 ct3 oc4 kV4 dc4 pm4 cd4 ct4 oc5 kV5 dc5 pm5 cd5 ct5 oc6 kV6 dc6 pm6 cd6 ct6 oc7 kV7 dc7 pm7 cd7 ct7 oc8 kV8 dc8 pm8 cd8 ct8 oc9 kV9 dc9 pm9 cd9 ct9 oc10 kV10 dc10 pm10 cd10 ct10 oc11 kV11 dc11 pm11 cd11 ct11 oc12 kV12 dc12 pm12 cd12 ct12 oc13 kV13 dc13 pm13 cd13 ct13 oc14 kV14 dc14 pm14 cd14 ct14 oc15 kV15 dc15 pm15 cd15 ct15 oc16 kV16 dc16 pm16 cd16 ct16 oc17 kV17 dc17 pm17 cd17 ct17 oc18 kV18 dc18 pm18 cd18 ct18 oc19 kV19 dc19 pm19 cd19 ct19 oc20 kV20 dc20 pm20 cd20 ct20 oc21 kV21 dc21 pm21 cd21 ct21 oc22 kV22 dc22 pm22 cd22 ct22 oc23 kV23 dc23 pm23 cd23 ct23 oc24 kV24 dc24 pm24 cd24 ct24 : Value} {tk_MOST_ROW tk_MOST_TOLD tk_MOST_SUM : Tok}
    (a0 : PySem.W.findIn K (.ref C_Notes) "back" = some (some (.ref f0)))
    (l0 : K.lookup f0 = some ⟨oc0, od0, .func (PySem.W.fnOf "back" "Notes.back" (defArgs s_Notes_back) (defBody s_Notes_back) (defScope s_Notes_back) .none kV0 dc0 pm0 an0 cd0 ct0), sl0⟩)
    (c0 : PySem.W.codeIn K cd0 "Notes.back" = true)
    (k0 : PySem.W.keepIn K (.ref f0) = true)
    (n0 : PySem.W.isFn K (.ref f0) = true)
    (a1 : PySem.W.findIn K (.ref C_Notes) "book" = some (some (.ref f1)))
    (l1 : K.lookup f1 = some ⟨oc1, od1, .func (PySem.W.fnOf "book" "Notes.book" (defArgs s_Notes_book) (defBody s_Notes_book) (defScope s_Notes_book) .none kV1 dc1 pm1 an1 cd1 ct1), sl1⟩)
    (c1 : PySem.W.codeIn K cd1 "Notes.book" = true)
    (k1 : PySem.W.keepIn K (.ref f1) = true)
    (n1 : PySem.W.isFn K (.ref f1) = true)
    (a2 : PySem.W.findIn K (.ref C_Notes) "__eq__" = some (some (.ref f2)))
    (l2 : K.lookup f2 = some ⟨oc2, od2, .func (PySem.W.fnOf "__eq__" "Notes.__eq__" (defArgs s_Notes_eq) (defBody s_Notes_eq) (defScope s_Notes_eq) .none kV2 dc2 pm2 an2 cd2 ct2), sl2⟩)
    (c2 : PySem.W.codeIn K cd2 "Notes.__eq__" = true)
    (k2 : PySem.W.keepIn K (.ref f2) = true)
    (n2 : PySem.W.isFn K (.ref f2) = true)
    (a3 : PySem.W.findIn K (.ref C_Notes) "note" = some (some (.ref f3)))
    (l3 : K.lookup f3 = some ⟨oc3, od3, .func (PySem.W.fnOf "note" "Notes.note" (defArgs s_Notes_note) (defBody s_Notes_note) (defScope s_Notes_note) .none kV3 dc3 pm3 an3 cd3 ct3), sl3⟩)
    (c3 : PySem.W.codeIn K cd3 "Notes.note" = true)
    (k3 : PySem.W.keepIn K (.ref f3) = true)
    (n3 : PySem.W.isFn K (.ref f3) = true)
    (a4 : PySem.W.nsIn K mainGlobals "is_within" = some (some (.ref f4)))
    (l4 : K.lookup f4 = some ⟨oc4, od4, .func (PySem.W.fnOf "is_within" "is_within" (defArgs s_is_within) (defBody s_is_within) (defScope s_is_within) .none kV4 dc4 pm4 an4 cd4 ct4), sl4⟩)
    (c4 : PySem.W.codeIn K cd4 "is_within" = true)
    (k4 : PySem.W.keepIn K (.ref f4) = true)
    (a5 : PySem.W.findIn K (.ref C_Notes) "forget" = some (some (.ref f5)))
    (l5 : K.lookup f5 = some ⟨oc5, od5, .func (PySem.W.fnOf "forget" "Notes.forget" (defArgs s_Notes_forget) (defBody s_Notes_forget) (defScope s_Notes_forget) .none kV5 dc5 pm5 an5 cd5 ct5), sl5⟩)
    (c5 : PySem.W.codeIn K cd5 "Notes.forget" = true)
    (k5 : PySem.W.keepIn K (.ref f5) = true)
    (n5 : PySem.W.isFn K (.ref f5) = true)
    (a6 : PySem.W.findIn K (.ref C_Notes) "__init__" = some (some (.ref f6)))
    (l6 : K.lookup f6 = some ⟨oc6, od6, .func (PySem.W.fnOf "__init__" "Notes.__init__" (defArgs s_Notes_init) (defBody s_Notes_init) (defScope s_Notes_init) .none kV6 dc6 pm6 an6 cd6 ct6), sl6⟩)
    (c6 : PySem.W.codeIn K cd6 "Notes.__init__" = true)
    (k6 : PySem.W.keepIn K (.ref f6) = true)
    (n6 : PySem.W.isFn K (.ref f6) = true)
    (a7 : PySem.W.findIn K (.ref C_Notes) "__len__" = some (some (.ref f7)))
    (l7 : K.lookup f7 = some ⟨oc7, od7, .func (PySem.W.fnOf "__len__" "Notes.__len__" (defArgs s_Notes_len) (defBody s_Notes_len) (defScope s_Notes_len) .none kV7 dc7 pm7 an7 cd7 ct7), sl7⟩)
    (c7 : PySem.W.codeIn K cd7 "Notes.__len__" = true)
    (k7 : PySem.W.keepIn K (.ref f7) = true)
    (n7 : PySem.W.isFn K (.ref f7) = true)
    (a8 : PySem.W.nsIn K mainGlobals "ties_of" = some (some (.ref f8)))
    (l8 : K.lookup f8 = some ⟨oc8, od8, .func (PySem.W.fnOf "ties_of" "ties_of" (defArgs s_ties_of) (defBody s_ties_of) (defScope s_ties_of) .none kV8 dc8 pm8 an8 cd8 ct8), sl8⟩)
    (c8 : PySem.W.codeIn K cd8 "ties_of" = true)
    (k8 : PySem.W.keepIn K (.ref f8) = true)
    (a9 : PySem.W.nsIn K mainGlobals "walked" = some (some (.ref f9)))
    (l9 : K.lookup f9 = some ⟨oc9, od9, .func (PySem.W.fnOf "walked" "walked" (defArgs s_walked) (defBody s_walked) (defScope s_walked) .none kV9 dc9 pm9 an9 cd9 ct9), sl9⟩)
    (c9 : PySem.W.codeIn K cd9 "walked" = true)
    (k9 : PySem.W.keepIn K (.ref f9) = true)
    (a10 : PySem.W.nsIn K mainGlobals "lots_of" = some (some (.ref f10)))
    (l10 : K.lookup f10 = some ⟨oc10, od10, .func (PySem.W.fnOf "lots_of" "lots_of" (defArgs s_lots_of) (defBody s_lots_of) (defScope s_lots_of) .none kV10 dc10 pm10 an10 cd10 ct10), sl10⟩)
    (c10 : PySem.W.codeIn K cd10 "lots_of" = true)
    (k10 : PySem.W.keepIn K (.ref f10) = true)
    (a11 : PySem.W.findIn K (.ref C_Notes) "open_lots" = some (some (.ref f11)))
    (l11 : K.lookup f11 = some ⟨oc11, od11, .func (PySem.W.fnOf "open_lots" "Notes.open_lots" (defArgs s_Notes_open_lots) (defBody s_Notes_open_lots) (defScope s_Notes_open_lots) .none kV11 dc11 pm11 an11 cd11 ct11), sl11⟩)
    (c11 : PySem.W.codeIn K cd11 "Notes.open_lots" = true)
    (k11 : PySem.W.keepIn K (.ref f11) = true)
    (n11 : PySem.W.isFn K (.ref f11) = true)
    (a12 : PySem.W.findIn K (.ref C_Notes) "__str__" = some (some (.ref f12)))
    (l12 : K.lookup f12 = some ⟨oc12, od12, .func (PySem.W.fnOf "__str__" "Notes.__str__" (defArgs s_Notes_str) (defBody s_Notes_str) (defScope s_Notes_str) .none kV12 dc12 pm12 an12 cd12 ct12), sl12⟩)
    (c12 : PySem.W.codeIn K cd12 "Notes.__str__" = true)
    (k12 : PySem.W.keepIn K (.ref f12) = true)
    (n12 : PySem.W.isFn K (.ref f12) = true)
    (a13 : PySem.W.nsIn K mainGlobals "is_telling" = some (some (.ref f13)))
    (l13 : K.lookup f13 = some ⟨oc13, od13, .func (PySem.W.fnOf "is_telling" "is_telling" (defArgs s_is_telling) (defBody s_is_telling) (defScope s_is_telling) .none kV13 dc13 pm13 an13 cd13 ct13), sl13⟩)
    (c13 : PySem.W.codeIn K cd13 "is_telling" = true)
    (k13 : PySem.W.keepIn K (.ref f13) = true)
    (a14 : PySem.W.findIn K (.ref C_Notes) "tell" = some (some (.ref f14)))
    (l14 : K.lookup f14 = some ⟨oc14, od14, .func (PySem.W.fnOf "tell" "Notes.tell" (defArgs s_Notes_tell) (defBody s_Notes_tell) (defScope s_Notes_tell) .none kV14 dc14 pm14 an14 cd14 ct14), sl14⟩)
    (c14 : PySem.W.codeIn K cd14 "Notes.tell" = true)
    (k14 : PySem.W.keepIn K (.ref f14) = true)
    (n14 : PySem.W.isFn K (.ref f14) = true)
    (a15 : PySem.W.findIn K (.ref C_Notes) "twin" = some (some (.ref f15)))
    (l15 : K.lookup f15 = some ⟨oc15, od15, .func (PySem.W.fnOf "twin" "Notes.twin" (defArgs s_Notes_twin) (defBody s_Notes_twin) (defScope s_Notes_twin) .none kV15 dc15 pm15 an15 cd15 ct15), sl15⟩)
    (c15 : PySem.W.codeIn K cd15 "Notes.twin" = true)
    (k15 : PySem.W.keepIn K (.ref f15) = true)
    (n15 : PySem.W.isFn K (.ref f15) = true)
    (a16 : PySem.W.nsIn K mainGlobals "_law_all_stretches" = some (some (.ref f16)))
    (l16 : K.lookup f16 = some ⟨oc16, od16, .func (PySem.W.fnOf "_law_all_stretches" "_law_all_stretches" (defArgs s__law_all_stretches) (defBody s__law_all_stretches) (defScope s__law_all_stretches) .none kV16 dc16 pm16 an16 cd16 ct16), sl16⟩)
    (c16 : PySem.W.codeIn K cd16 "_law_all_stretches" = true)
    (k16 : PySem.W.keepIn K (.ref f16) = true)
    (a17 : PySem.W.nsIn K mainGlobals "_law_hidden" = some (some (.ref f17)))
    (l17 : K.lookup f17 = some ⟨oc17, od17, .func (PySem.W.fnOf "_law_hidden" "_law_hidden" (defArgs s__law_hidden) (defBody s__law_hidden) (defScope s__law_hidden) .none kV17 dc17 pm17 an17 cd17 ct17), sl17⟩)
    (c17 : PySem.W.codeIn K cd17 "_law_hidden" = true)
    (k17 : PySem.W.keepIn K (.ref f17) = true)
    (a18 : PySem.W.nsIn K mainGlobals "_law_cell" = some (some (.ref f18)))
    (l18 : K.lookup f18 = some ⟨oc18, od18, .func (PySem.W.fnOf "_law_cell" "_law_cell" (defArgs s__law_cell) (defBody s__law_cell) (defScope s__law_cell) .none kV18 dc18 pm18 an18 cd18 ct18), sl18⟩)
    (c18 : PySem.W.codeIn K cd18 "_law_cell" = true)
    (k18 : PySem.W.keepIn K (.ref f18) = true)
    (a19 : PySem.W.nsIn K mainGlobals "_law_row" = some (some (.ref f19)))
    (l19 : K.lookup f19 = some ⟨oc19, od19, .func (PySem.W.fnOf "_law_row" "_law_row" (defArgs s__law_row) (defBody s__law_row) (defScope s__law_row) .none kV19 dc19 pm19 an19 cd19 ct19), sl19⟩)
    (c19 : PySem.W.codeIn K cd19 "_law_row" = true)
    (k19 : PySem.W.keepIn K (.ref f19) = true)
    (a20 : PySem.W.nsIn K mainGlobals "_law_book" = some (some (.ref f20)))
    (l20 : K.lookup f20 = some ⟨oc20, od20, .func (PySem.W.fnOf "_law_book" "_law_book" (defArgs s__law_book) (defBody s__law_book) (defScope s__law_book) .none kV20 dc20 pm20 an20 cd20 ct20), sl20⟩)
    (c20 : PySem.W.codeIn K cd20 "_law_book" = true)
    (k20 : PySem.W.keepIn K (.ref f20) = true)
    (a21 : PySem.W.nsIn K mainGlobals "look_stretch" = some (some (.ref f21)))
    (l21 : K.lookup f21 = some ⟨oc21, od21, .func (PySem.W.fnOf "look_stretch" "look_stretch" (defArgs s_look_stretch) (defBody s_look_stretch) (defScope s_look_stretch) .none kV21 dc21 pm21 an21 cd21 ct21), sl21⟩)
    (c21 : PySem.W.codeIn K cd21 "look_stretch" = true)
    (k21 : PySem.W.keepIn K (.ref f21) = true)
    (a22 : PySem.W.findIn K (.ref C_Notes) "comes_to" = some (some (.ref f22)))
    (l22 : K.lookup f22 = some ⟨oc22, od22, .func (PySem.W.fnOf "comes_to" "Notes.comes_to" (defArgs s_Notes_comes_to) (defBody s_Notes_comes_to) (defScope s_Notes_comes_to) .none kV22 dc22 pm22 an22 cd22 ct22), sl22⟩)
    (c22 : PySem.W.codeIn K cd22 "Notes.comes_to" = true)
    (k22 : PySem.W.keepIn K (.ref f22) = true)
    (n22 : PySem.W.isFn K (.ref f22) = true)
    (a23 : PySem.W.nsIn K mainGlobals "_law_note_told" = some (some (.ref f23)))
    (l23 : K.lookup f23 = some ⟨oc23, od23, .func (PySem.W.fnOf "_law_note_told" "_law_note_told" (defArgs s__law_note_told) (defBody s__law_note_told) (defScope s__law_note_told) .none kV23 dc23 pm23 an23 cd23 ct23), sl23⟩)
    (c23 : PySem.W.codeIn K cd23 "_law_note_told" = true)
    (k23 : PySem.W.keepIn K (.ref f23) = true)
    (a24 : PySem.W.nsIn K mainGlobals "law" = some (some (.ref f24)))
    (l24 : K.lookup f24 = some ⟨oc24, od24, .func (PySem.W.fnOf "law" "law" (defArgs s_law) (defBody s_law) (defScope s_law) .none kV24 dc24 pm24 an24 cd24 ct24), sl24⟩)
    (c24 : PySem.W.codeIn K cd24 "law" = true)
    (k24 : PySem.W.keepIn K (.ref f24) = true)
    (z_len : PySem.W.nsIn K mainGlobals "len" = some none)
    (z_range : PySem.W.nsIn K mainGlobals "range" = some none)
    (z_isinstance : PySem.W.nsIn K mainGlobals "isinstance" = some none)
    (z_int : PySem.W.nsIn K mainGlobals "int" = some none)
    (z_bool : PySem.W.nsIn K mainGlobals "bool" = some none)
    (z_tuple : PySem.W.nsIn K mainGlobals "tuple" = some none)
    (z_list : PySem.W.nsIn K mainGlobals "list" = some none)
    (z_str : PySem.W.nsIn K mainGlobals "str" = some none)
    (z_sum : PySem.W.nsIn K mainGlobals "sum" = some none)
    (z_enumerate : PySem.W.nsIn K mainGlobals "enumerate" = some none)
    (z_sorted : PySem.W.nsIn K mainGlobals "sorted" = some none)
    (v_MOST_ROW : PySem.W.nsIn K mainGlobals "MOST_ROW" = some (some (.int 16 tk_MOST_ROW)))
    (v_MOST_TOLD : PySem.W.nsIn K mainGlobals "MOST_TOLD" = some (some (.int 24 tk_MOST_TOLD)))
    (v_MOST_SUM : PySem.W.nsIn K mainGlobals "MOST_SUM" = some (some (.int 9999 tk_MOST_SUM)))
    (m_StretchError : PySem.W.nsIn K mainGlobals "StretchError" = some (some (.ref C_StretchError)))
    (m_BadStretch : PySem.W.nsIn K mainGlobals "BadStretch" = some (some (.ref C_BadStretch)))
    (m_NotSure : PySem.W.nsIn K mainGlobals "NotSure" = some (some (.ref C_NotSure)))
    (m_NotTrue : PySem.W.nsIn K mainGlobals "NotTrue" = some (some (.ref C_NotTrue)))
    (m_BadNumber : PySem.W.nsIn K mainGlobals "BadNumber" = some (some (.ref C_BadNumber)))
    (m_Nothing : PySem.W.nsIn K mainGlobals "Nothing" = some (some (.ref C_Nothing)))
    (hg_BadStretch : PySem.W.findIn K (.ref C_BadStretch) "__getattribute__" = some (some (.builtin "BaseException.__getattribute__")))
    (hk_BadStretch : PySem.W.findIn K (.ref C_BadStretch) "__getattr__" = some none)
    (ha_BadStretch : PySem.W.findIn K (.ref C_BadStretch) "__class__" = some (some (.builtin "object.__class__")))
    (hn_BadStretch : PySem.W.specialIn K (.builtin "object.__class__") "__get__" = some (some (.builtin "getset_descriptor.__get__")))
    (ht_BadStretch : PySem.W.takesIn K (.builtin "object.__class__") = some true)
    (hm_BadStretch : PySem.W.mroIn K C_BadStretch (.type "object") = some true)
    (hg_NotSure : PySem.W.findIn K (.ref C_NotSure) "__getattribute__" = some (some (.builtin "BaseException.__getattribute__")))
    (hk_NotSure : PySem.W.findIn K (.ref C_NotSure) "__getattr__" = some none)
    (ha_NotSure : PySem.W.findIn K (.ref C_NotSure) "__class__" = some (some (.builtin "object.__class__")))
    (hm_NotSure : PySem.W.mroIn K C_NotSure (.type "object") = some true)
    (hg_NotTrue : PySem.W.findIn K (.ref C_NotTrue) "__getattribute__" = some (some (.builtin "BaseException.__getattribute__")))
    (hk_NotTrue : PySem.W.findIn K (.ref C_NotTrue) "__getattr__" = some none)
    (ha_NotTrue : PySem.W.findIn K (.ref C_NotTrue) "__class__" = some (some (.builtin "object.__class__")))
    (hm_NotTrue : PySem.W.mroIn K C_NotTrue (.type "object") = some true)
    (hg_BadNumber : PySem.W.findIn K (.ref C_BadNumber) "__getattribute__" = some (some (.builtin "BaseException.__getattribute__")))
    (hk_BadNumber : PySem.W.findIn K (.ref C_BadNumber) "__getattr__" = some none)
    (ha_BadNumber : PySem.W.findIn K (.ref C_BadNumber) "__class__" = some (some (.builtin "object.__class__")))
    (hm_BadNumber : PySem.W.mroIn K C_BadNumber (.type "object") = some true)
    (hg_Nothing : PySem.W.findIn K (.ref C_Nothing) "__getattribute__" = some (some (.builtin "BaseException.__getattribute__")))
    (hk_Nothing : PySem.W.findIn K (.ref C_Nothing) "__getattr__" = some none)
    (ha_Nothing : PySem.W.findIn K (.ref C_Nothing) "__class__" = some (some (.builtin "object.__class__")))
    (hm_Nothing : PySem.W.mroIn K C_Nothing (.type "object") = some true)
    (su_0 : PySem.W.subIn K (.ref C_BadStretch) (.ref C_StretchError) = some true)
    (su_1 : PySem.W.subIn K (.ref C_BadStretch) (.ref C_BadStretch) = some true)
    (su_2 : PySem.W.subIn K (.ref C_BadStretch) (.ref C_NotSure) = some false)
    (su_3 : PySem.W.subIn K (.ref C_BadStretch) (.ref C_NotTrue) = some false)
    (su_4 : PySem.W.subIn K (.ref C_BadStretch) (.ref C_BadNumber) = some false)
    (su_5 : PySem.W.subIn K (.ref C_BadStretch) (.ref C_Nothing) = some false)
    (su_6 : PySem.W.subIn K (.ref C_NotSure) (.ref C_StretchError) = some true)
    (su_7 : PySem.W.subIn K (.ref C_NotSure) (.ref C_BadStretch) = some false)
    (su_8 : PySem.W.subIn K (.ref C_NotSure) (.ref C_NotSure) = some true)
    (su_9 : PySem.W.subIn K (.ref C_NotSure) (.ref C_NotTrue) = some false)
    (su_10 : PySem.W.subIn K (.ref C_NotSure) (.ref C_BadNumber) = some false)
    (su_11 : PySem.W.subIn K (.ref C_NotSure) (.ref C_Nothing) = some false)
    (su_12 : PySem.W.subIn K (.ref C_NotTrue) (.ref C_StretchError) = some true)
    (su_13 : PySem.W.subIn K (.ref C_NotTrue) (.ref C_BadStretch) = some false)
    (su_14 : PySem.W.subIn K (.ref C_NotTrue) (.ref C_NotSure) = some false)
    (su_15 : PySem.W.subIn K (.ref C_NotTrue) (.ref C_NotTrue) = some true)
    (su_16 : PySem.W.subIn K (.ref C_NotTrue) (.ref C_BadNumber) = some false)
    (su_17 : PySem.W.subIn K (.ref C_NotTrue) (.ref C_Nothing) = some false)
    (su_18 : PySem.W.subIn K (.ref C_BadNumber) (.ref C_StretchError) = some true)
    (su_19 : PySem.W.subIn K (.ref C_BadNumber) (.ref C_BadStretch) = some false)
    (su_20 : PySem.W.subIn K (.ref C_BadNumber) (.ref C_NotSure) = some false)
    (su_21 : PySem.W.subIn K (.ref C_BadNumber) (.ref C_NotTrue) = some false)
    (su_22 : PySem.W.subIn K (.ref C_BadNumber) (.ref C_BadNumber) = some true)
    (su_23 : PySem.W.subIn K (.ref C_BadNumber) (.ref C_Nothing) = some false)
    (su_24 : PySem.W.subIn K (.ref C_Nothing) (.ref C_StretchError) = some true)
    (su_25 : PySem.W.subIn K (.ref C_Nothing) (.ref C_BadStretch) = some false)
    (su_26 : PySem.W.subIn K (.ref C_Nothing) (.ref C_NotSure) = some false)
    (su_27 : PySem.W.subIn K (.ref C_Nothing) (.ref C_NotTrue) = some false)
    (su_28 : PySem.W.subIn K (.ref C_Nothing) (.ref C_BadNumber) = some false)
    (su_29 : PySem.W.subIn K (.ref C_Nothing) (.ref C_Nothing) = some true)
    (s_StretchError : PySem.W.subIn K (.ref C_StretchError) (.type "BaseException") = some true)
    (t_StretchError : PySem.W.typeIn K (.ref C_StretchError) = some (.type "type"))
    (d_StretchError : PySem.W.hasDictIn K C_StretchError = true)
    (s_BadStretch : PySem.W.subIn K (.ref C_BadStretch) (.type "BaseException") = some true)
    (t_BadStretch : PySem.W.typeIn K (.ref C_BadStretch) = some (.type "type"))
    (d_BadStretch : PySem.W.hasDictIn K C_BadStretch = true)
    (s_NotSure : PySem.W.subIn K (.ref C_NotSure) (.type "BaseException") = some true)
    (t_NotSure : PySem.W.typeIn K (.ref C_NotSure) = some (.type "type"))
    (d_NotSure : PySem.W.hasDictIn K C_NotSure = true)
    (s_NotTrue : PySem.W.subIn K (.ref C_NotTrue) (.type "BaseException") = some true)
    (t_NotTrue : PySem.W.typeIn K (.ref C_NotTrue) = some (.type "type"))
    (d_NotTrue : PySem.W.hasDictIn K C_NotTrue = true)
    (s_BadNumber : PySem.W.subIn K (.ref C_BadNumber) (.type "BaseException") = some true)
    (t_BadNumber : PySem.W.typeIn K (.ref C_BadNumber) = some (.type "type"))
    (d_BadNumber : PySem.W.hasDictIn K C_BadNumber = true)
    (s_Nothing : PySem.W.subIn K (.ref C_Nothing) (.type "BaseException") = some true)
    (t_Nothing : PySem.W.typeIn K (.ref C_Nothing) = some (.type "type"))
    (d_Nothing : PySem.W.hasDictIn K C_Nothing = true)
    (m_Notes : PySem.W.nsIn K mainGlobals "Notes" = some (some (.ref C_Notes)))
    (n_pg : PySem.W.plainGet K C_Notes Str.empty = true)
    (n_hd : PySem.W.hasDictIn K C_Notes = true)
    (n_po : PySem.W.plainOver K C_Notes = true)
    (n_sa : PySem.W.findIn K (.ref C_Notes) "__setattr__" = some (some (.builtin "object.__setattr__")))
    (n_many : PySem.W.findIn K (.ref C_Notes) "many" = some none)
    (n_told : PySem.W.findIn K (.ref C_Notes) "told" = some none)
    (n_calls : PySem.W.findIn K (.ref C_Notes) "calls" = some none)
    (n_before : PySem.W.findIn K (.ref C_Notes) "before" = some none)
    (n_mk : PySem.W.makesIn K C_Notes = true)
    (n_kc : PySem.W.keepIn K (.ref C_Notes) = true)
    (e_ne : PySem.W.findIn K (.ref C_Notes) "__ne__" = some (some (.builtin "object.__ne__")))
    (e_mo : PySem.W.mroIn K C_Notes (.type "object") = some true)
    (e_ca : PySem.W.findIn K (.ref C_Notes) "__class__" = some (some (.builtin "object.__class__")))
    (e_cn : PySem.W.specialIn K (.builtin "object.__class__") "__get__" = some (some (.builtin "getset_descriptor.__get__")))
    (e_ct : PySem.W.takesIn K (.builtin "object.__class__") = some true)
    (e_ty : PySem.W.typeIn K (.ref C_Notes) = some (.type "type"))
    (e_st : PySem.W.subIn K (.type "tuple") (.ref C_Notes) = some false)
    (e_ss : PySem.W.subIn K (.type "str") (.ref C_Notes) = some false)
    (x_BadStretch : PySem.W.excIn K C_BadStretch [.type "ValueError", .type "Exception", .type "BaseException", .type "object"] "ValueError.__new__" = true)
    (q_BadStretch : PySem.W.keepIn K (.ref C_BadStretch) = true)
    (x_NotSure : PySem.W.excIn K C_NotSure [.type "ValueError", .type "Exception", .type "BaseException", .type "object"] "ValueError.__new__" = true)
    (q_NotSure : PySem.W.keepIn K (.ref C_NotSure) = true)
    (x_NotTrue : PySem.W.excIn K C_NotTrue [.type "ValueError", .type "Exception", .type "BaseException", .type "object"] "ValueError.__new__" = true)
    (q_NotTrue : PySem.W.keepIn K (.ref C_NotTrue) = true)
    (x_BadNumber : PySem.W.excIn K C_BadNumber [.type "ValueError", .type "Exception", .type "BaseException", .type "object"] "ValueError.__new__" = true)
    (q_BadNumber : PySem.W.keepIn K (.ref C_BadNumber) = true)
    (x_Nothing : PySem.W.excIn K C_Nothing [.type "ValueError", .type "Exception", .type "BaseException", .type "object"] "ValueError.__new__" = true)
    (q_Nothing : PySem.W.keepIn K (.ref C_Nothing) = true)
    : ∃ fd : FuncData, (∀ (s : Shared) (v : Value), BindsTo s fd ⟨[v], []⟩ [("script", v)]) ∧ ∀ base : Heap, K.In base → base.Ns mainGlobals mg → FnOk l.prog w K mg base (L2.CX l.prog w) 5 fa fd ["script"] (DSp 1 g_law) := by
  have e := hfa.symm.trans (PySem.W.mg_of X G a24)
  cases e
  have F0 := fun_mk (st := s_Notes_back) l0 c0 k0
  have b0 := F0.binds (ps := ["self"]) fun _ _ _ _ _ _ us hl => match us, hl with | [_], _ => rfl
  have F1 := fun_mk (st := s_Notes_book) l1 c1 k1
  have b1 := F1.binds (ps := ["self"]) fun _ _ _ _ _ _ us hl => match us, hl with | [_], _ => rfl
  have F2 := fun_mk (st := s_Notes_eq) l2 c2 k2
  have b2 := F2.binds (ps := ["self", "other"]) fun _ _ _ _ _ _ us hl => match us, hl with | [_, _], _ => rfl
  have F3 := fun_mk (st := s_Notes_note) l3 c3 k3
  have b3 := F3.binds (ps := ["self", "word"]) fun _ _ _ _ _ _ us hl => match us, hl with | [_, _], _ => rfl
  have F4 := fun_mk (st := s_is_within) l4 c4 k4
  have b4 := F4.binds (ps := ["thing", "low", "high"]) fun _ _ _ _ _ _ us hl => match us, hl with | [_, _, _], _ => rfl
  have F5 := fun_mk (st := s_Notes_forget) l5 c5 k5
  have b5 := F5.binds (ps := ["self", "number"]) fun _ _ _ _ _ _ us hl => match us, hl with | [_, _], _ => rfl
  have F6 := fun_mk (st := s_Notes_init) l6 c6 k6
  have b6 := F6.binds (ps := ["self", "many"]) fun _ _ _ _ _ _ us hl => match us, hl with | [_, _], _ => rfl
  have F7 := fun_mk (st := s_Notes_len) l7 c7 k7
  have b7 := F7.binds (ps := ["self"]) fun _ _ _ _ _ _ us hl => match us, hl with | [_], _ => rfl
  have F8 := fun_mk (st := s_ties_of) l8 c8 k8
  have b8 := F8.binds (ps := ["book"]) fun _ _ _ _ _ _ us hl => match us, hl with | [_], _ => rfl
  have F9 := fun_mk (st := s_walked) l9 c9 k9
  have b9 := F9.binds (ps := ["book", "start"]) fun _ _ _ _ _ _ us hl => match us, hl with | [_, _], _ => rfl
  have F10 := fun_mk (st := s_lots_of) l10 c10 k10
  have b10 := F10.binds (ps := ["book"]) fun _ _ _ _ _ _ us hl => match us, hl with | [_], _ => rfl
  have F11 := fun_mk (st := s_Notes_open_lots) l11 c11 k11
  have b11 := F11.binds (ps := ["self"]) fun _ _ _ _ _ _ us hl => match us, hl with | [_], _ => rfl
  have F12 := fun_mk (st := s_Notes_str) l12 c12 k12
  have b12 := F12.binds (ps := ["self"]) fun _ _ _ _ _ _ us hl => match us, hl with | [_], _ => rfl
  have F13 := fun_mk (st := s_is_telling) l13 c13 k13
  have b13 := F13.binds (ps := ["many", "thing"]) fun _ _ _ _ _ _ us hl => match us, hl with | [_, _], _ => rfl
  have F14 := fun_mk (st := s_Notes_tell) l14 c14 k14
  have b14 := F14.binds (ps := ["self", "start", "end", "much"]) fun _ _ _ _ _ _ us hl => match us, hl with | [_, _, _, _], _ => rfl
  have F15 := fun_mk (st := s_Notes_twin) l15 c15 k15
  have b15 := F15.binds (ps := ["self"]) fun _ _ _ _ _ _ us hl => match us, hl with | [_], _ => rfl
  have F16 := fun_mk (st := s__law_all_stretches) l16 c16 k16
  have b16 := F16.binds (ps := ["many"]) fun _ _ _ _ _ _ us hl => match us, hl with | [_], _ => rfl
  have F17 := fun_mk (st := s__law_hidden) l17 c17 k17
  have b17 := F17.binds (ps := ["draws", "at", "many"]) fun _ _ _ _ _ _ us hl => match us, hl with | [_, _, _], _ => rfl
  have F18 := fun_mk (st := s__law_cell) l18 c18 k18
  have b18 := F18.binds (ps := ["script", "k"]) fun _ _ _ _ _ _ us hl => match us, hl with | [_, _], _ => rfl
  have F19 := fun_mk (st := s__law_row) l19 c19 k19
  have b19 := F19.binds (ps := ["script", "at"]) fun _ _ _ _ _ _ us hl => match us, hl with | [_, _], _ => rfl
  have F20 := fun_mk (st := s__law_book) l20 c20 k20
  have b20 := F20.binds (ps := ["script", "at", "most_row", "wrong"]) fun _ _ _ _ _ _ us hl => match us, hl with | [_, _, _, _], _ => rfl
  have F21 := fun_mk (st := s_look_stretch) l21 c21 k21
  have b21 := F21.binds (ps := ["many", "start", "end"]) fun _ _ _ _ _ _ us hl => match us, hl with | [_, _, _], _ => rfl
  have F22 := fun_mk (st := s_Notes_comes_to) l22 c22 k22
  have b22 := F22.binds (ps := ["self", "start", "end"]) fun _ _ _ _ _ _ us hl => match us, hl with | [_, _, _], _ => rfl
  have F23 := fun_mk (st := s__law_note_told) l23 c23 k23
  have b23 := F23.binds (ps := ["notes", "mode", "start", "end", "much"]) fun _ _ _ _ _ _ us hl => match us, hl with | [_, _, _, _, _], _ => rfl
  have F24 := fun_mk (st := s_law) l24 c24 k24
  have b24 := F24.binds (ps := ["script"]) fun _ _ _ _ _ _ us hl => match us, hl with | [_], _ => rfl
  have T : Tx K mg := ⟨_, _, F0, b0, ⟨a0, n0, k0⟩,
    _, _, F1, b1, ⟨a1, n1, k1⟩,
    _, _, F2, b2, ⟨a2, n2, k2⟩,
    _, _, F3, b3, ⟨a3, n3, k3⟩,
    _, _, F4, b4, PySem.W.mg_of X G a4,
    _, _, F5, b5, ⟨a5, n5, k5⟩,
    _, _, F6, b6, ⟨a6, n6, k6⟩,
    _, _, F7, b7, ⟨a7, n7, k7⟩,
    _, _, F8, b8, PySem.W.mg_of X G a8,
    _, _, F9, b9, PySem.W.mg_of X G a9,
    _, _, F10, b10, PySem.W.mg_of X G a10,
    _, _, F11, b11, ⟨a11, n11, k11⟩,
    _, _, F12, b12, ⟨a12, n12, k12⟩,
    _, _, F13, b13, PySem.W.mg_of X G a13,
    _, _, F14, b14, ⟨a14, n14, k14⟩,
    _, _, F15, b15, ⟨a15, n15, k15⟩,
    _, _, F16, b16, PySem.W.mg_of X G a16,
    _, _, F17, b17, PySem.W.mg_of X G a17,
    _, _, F18, b18, PySem.W.mg_of X G a18,
    _, _, F19, b19, PySem.W.mg_of X G a19,
    _, _, F20, b20, PySem.W.mg_of X G a20,
    _, _, F21, b21, PySem.W.mg_of X G a21,
    _, _, F22, b22, ⟨a22, n22, k22⟩,
    _, _, F23, b23, PySem.W.mg_of X G a23,
    _, _, F24, b24, PySem.W.mg_of X G a24,
    PySem.W.mg_none_of X G z_len,
    PySem.W.mg_none_of X G z_range,
    PySem.W.mg_none_of X G z_isinstance,
    PySem.W.mg_none_of X G z_int,
    PySem.W.mg_none_of X G z_bool,
    PySem.W.mg_none_of X G z_tuple,
    PySem.W.mg_none_of X G z_list,
    PySem.W.mg_none_of X G z_str,
    PySem.W.mg_none_of X G z_sum,
    PySem.W.mg_none_of X G z_enumerate,
    PySem.W.mg_none_of X G z_sorted,
    _, PySem.W.mg_of X G v_MOST_ROW,
    _, PySem.W.mg_of X G v_MOST_TOLD,
    _, PySem.W.mg_of X G v_MOST_SUM,
    PySem.W.mg_of X G m_StretchError,
    PySem.W.mg_of X G m_BadStretch,
    PySem.W.mg_of X G m_NotSure,
    PySem.W.mg_of X G m_NotTrue,
    PySem.W.mg_of X G m_BadNumber,
    PySem.W.mg_of X G m_Nothing,
    ⟨⟨n_pg, n_hd, n_po, n_sa⟩, n_many, n_told, n_calls, n_before⟩, ⟨n_mk, a6, n6, n_kc⟩, PySem.W.mg_of X G m_Notes,
    ⟨⟨n_pg, n_hd, n_po, n_sa⟩, a2, n2, e_ne, e_mo, e_ca, e_cn, e_ct, clsSome e_mo, e_ty, e_st, e_ss⟩,
    ⟨hg_BadStretch, hk_BadStretch, s_BadStretch, d_BadStretch, ha_BadStretch, hn_BadStretch, ht_BadStretch, hm_BadStretch⟩,
    ⟨hg_NotSure, hk_NotSure, s_NotSure, d_NotSure, ha_NotSure, hn_BadStretch, ht_BadStretch, hm_NotSure⟩,
    ⟨hg_NotTrue, hk_NotTrue, s_NotTrue, d_NotTrue, ha_NotTrue, hn_BadStretch, ht_BadStretch, hm_NotTrue⟩,
    ⟨hg_BadNumber, hk_BadNumber, s_BadNumber, d_BadNumber, ha_BadNumber, hn_BadStretch, ht_BadStretch, hm_BadNumber⟩,
    ⟨hg_Nothing, hk_Nothing, s_Nothing, d_Nothing, ha_Nothing, hn_BadStretch, ht_BadStretch, hm_Nothing⟩,
    su_0,
    su_1,
    su_2,
    su_3,
    su_4,
    su_5,
    su_6,
    su_7,
    su_8,
    su_9,
    su_10,
    su_11,
    su_12,
    su_13,
    su_14,
    su_15,
    su_16,
    su_17,
    su_18,
    su_19,
    su_20,
    su_21,
    su_22,
    su_23,
    su_24,
    su_25,
    su_26,
    su_27,
    su_28,
    su_29,
    s_StretchError, t_StretchError, d_StretchError,
    s_BadStretch, t_BadStretch, d_BadStretch,
    s_NotSure, t_NotSure, d_NotSure,
    s_NotTrue, t_NotTrue, d_NotTrue,
    s_BadNumber, t_BadNumber, d_BadNumber,
    s_Nothing, t_Nothing, d_Nothing,
    x_BadStretch, q_BadStretch,
    x_NotSure, q_NotSure,
    x_NotTrue, q_NotTrue,
    x_BadNumber, q_BadNumber,
    x_Nothing, q_Nothing⟩
  exact ⟨_, fun s v => .of_eq rfl, fun base _ _ => ok_law ⟨_, _, F0, b0, ⟨a0, n0, k0⟩,
    _, _, F1, b1, ⟨a1, n1, k1⟩,
    _, _, F2, b2, ⟨a2, n2, k2⟩,
    _, _, F3, b3, ⟨a3, n3, k3⟩,
    _, _, F4, b4, PySem.W.mg_of X G a4,
    _, _, F5, b5, ⟨a5, n5, k5⟩,
    _, _, F6, b6, ⟨a6, n6, k6⟩,
    _, _, F7, b7, ⟨a7, n7, k7⟩,
    _, _, F8, b8, PySem.W.mg_of X G a8,
    _, _, F9, b9, PySem.W.mg_of X G a9,
    _, _, F10, b10, PySem.W.mg_of X G a10,
    _, _, F11, b11, ⟨a11, n11, k11⟩,
    _, _, F12, b12, ⟨a12, n12, k12⟩,
    _, _, F13, b13, PySem.W.mg_of X G a13,
    _, _, F14, b14, ⟨a14, n14, k14⟩,
    _, _, F15, b15, ⟨a15, n15, k15⟩,
    _, _, F16, b16, PySem.W.mg_of X G a16,
    _, _, F17, b17, PySem.W.mg_of X G a17,
    _, _, F18, b18, PySem.W.mg_of X G a18,
    _, _, F19, b19, PySem.W.mg_of X G a19,
    _, _, F20, b20, PySem.W.mg_of X G a20,
    _, _, F21, b21, PySem.W.mg_of X G a21,
    _, _, F22, b22, ⟨a22, n22, k22⟩,
    _, _, F23, b23, PySem.W.mg_of X G a23,
    _, _, F24, b24, PySem.W.mg_of X G a24,
    PySem.W.mg_none_of X G z_len,
    PySem.W.mg_none_of X G z_range,
    PySem.W.mg_none_of X G z_isinstance,
    PySem.W.mg_none_of X G z_int,
    PySem.W.mg_none_of X G z_bool,
    PySem.W.mg_none_of X G z_tuple,
    PySem.W.mg_none_of X G z_list,
    PySem.W.mg_none_of X G z_str,
    PySem.W.mg_none_of X G z_sum,
    PySem.W.mg_none_of X G z_enumerate,
    PySem.W.mg_none_of X G z_sorted,
    _, PySem.W.mg_of X G v_MOST_ROW,
    _, PySem.W.mg_of X G v_MOST_TOLD,
    _, PySem.W.mg_of X G v_MOST_SUM,
    PySem.W.mg_of X G m_StretchError,
    PySem.W.mg_of X G m_BadStretch,
    PySem.W.mg_of X G m_NotSure,
    PySem.W.mg_of X G m_NotTrue,
    PySem.W.mg_of X G m_BadNumber,
    PySem.W.mg_of X G m_Nothing,
    ⟨⟨n_pg, n_hd, n_po, n_sa⟩, n_many, n_told, n_calls, n_before⟩, ⟨n_mk, a6, n6, n_kc⟩, PySem.W.mg_of X G m_Notes,
    ⟨⟨n_pg, n_hd, n_po, n_sa⟩, a2, n2, e_ne, e_mo, e_ca, e_cn, e_ct, clsSome e_mo, e_ty, e_st, e_ss⟩,
    ⟨hg_BadStretch, hk_BadStretch, s_BadStretch, d_BadStretch, ha_BadStretch, hn_BadStretch, ht_BadStretch, hm_BadStretch⟩,
    ⟨hg_NotSure, hk_NotSure, s_NotSure, d_NotSure, ha_NotSure, hn_BadStretch, ht_BadStretch, hm_NotSure⟩,
    ⟨hg_NotTrue, hk_NotTrue, s_NotTrue, d_NotTrue, ha_NotTrue, hn_BadStretch, ht_BadStretch, hm_NotTrue⟩,
    ⟨hg_BadNumber, hk_BadNumber, s_BadNumber, d_BadNumber, ha_BadNumber, hn_BadStretch, ht_BadStretch, hm_BadNumber⟩,
    ⟨hg_Nothing, hk_Nothing, s_Nothing, d_Nothing, ha_Nothing, hn_BadStretch, ht_BadStretch, hm_Nothing⟩,
    su_0,
    su_1,
    su_2,
    su_3,
    su_4,
    su_5,
    su_6,
    su_7,
    su_8,
    su_9,
    su_10,
    su_11,
    su_12,
    su_13,
    su_14,
    su_15,
    su_16,
    su_17,
    su_18,
    su_19,
    su_20,
    su_21,
    su_22,
    su_23,
    su_24,
    su_25,
    su_26,
    su_27,
    su_28,
    su_29,
    s_StretchError, t_StretchError, d_StretchError,
    s_BadStretch, t_BadStretch, d_BadStretch,
    s_NotSure, t_NotSure, d_NotSure,
    s_NotTrue, t_NotTrue, d_NotTrue,
    s_BadNumber, t_BadNumber, d_BadNumber,
    s_Nothing, t_Nothing, d_Nothing,
    x_BadStretch, q_BadStretch,
    x_NotSure, q_NotSure,
    x_NotTrue, q_NotTrue,
    x_BadNumber, q_BadNumber,
    x_Nothing, q_Nothing⟩⟩
/-! ### the script's cells, the row of draws -/
def cellI (ns : List Int) (k : Int) : Int := ns.getD k.toNat 0
theorem cell_eq (ns : List Int) (k : Int) (hk : 0 ≤ k) : g__law_cell [scrD ns, .int k] = .ok (.int (cellI ns k)) := by
  refine fn_rt rfl ?_
  unfold f__law_cell cellI
  obtain ⟨n, rfl⟩ := Int.eq_ofNat_of_zero_le hk
  by_cases h : n < ns.length
  · simp [h, q_atS (List.getElem?_eq_getElem h)]
  · simp [h]
structure RowS where
  cell : Int
  found : List Int
def rowStep (ns : List Int) (a : Nat) (s : RowS) (t : Nat) : RowS :=
  if cellI ns a < 1000000000000000000 then
    ⟨(s.cell * 48271 + 131 * (t : Int) + 7 + cellI ns (((a : Int) + 1 + t) % 20)) % 2147483647, s.found ++ [(s.cell * 48271 + 131 * (t : Int) + 7 + cellI ns (((a : Int) + 1 + t) % 20)) % 2147483647 / 11 % 1000]⟩
  else ⟨s.cell / 1000, s.found ++ [s.cell % 1000]⟩
def rowR (ns : List Int) (a : Nat) : RowS := (List.range 60).foldl (rowStep ns a) ⟨cellI ns a, []⟩
def rowI (ns : List Int) (a : Nat) : List Int := (rowR ns a).found
theorem rowStep_len (ns : List Int) (a : Nat) (s : RowS) (t : Nat) : (rowStep ns a s t).found.length = s.found.length + 1 := by
  unfold rowStep
  split <;> simp
theorem rowStep_mem (ns : List Int) (a : Nat) (s : RowS) (t : Nat) (h : ∀ x ∈ s.found, 0 ≤ x ∧ x < 1000) : ∀ x ∈ (rowStep ns a s t).found, 0 ≤ x ∧ x < 1000 := by
  unfold rowStep
  split
  all_goals
    intro x hx
    rcases List.mem_append.1 hx with hx | hx
    · exact h x hx
    · rw [List.mem_singleton.1 hx]
      omega
theorem row_fold (ns : List Int) (a : Nat) : ∀ (l : List Nat) (s : RowS), (∀ x ∈ s.found, 0 ≤ x ∧ x < 1000) → (l.foldl (rowStep ns a) s).found.length = s.found.length + l.length ∧ ∀ x ∈ (l.foldl (rowStep ns a) s).found, 0 ≤ x ∧ x < 1000
  | [], s, h => ⟨rfl, h⟩
  | t :: l, s, h => by
    have q := row_fold ns a l (rowStep ns a s t) (rowStep_mem ns a s t h)
    refine ⟨?_, q.2⟩
    rw [List.foldl_cons, q.1, rowStep_len, List.length_cons]
    omega
theorem row_len (ns : List Int) (a : Nat) : (rowI ns a).length = 60 := (row_fold ns a (List.range 60) ⟨cellI ns a, []⟩ (by simp)).1
theorem row_mem (ns : List Int) (a : Nat) : ∀ x ∈ rowI ns a, 0 ≤ x ∧ x < 1000 := (row_fold ns a (List.range 60) ⟨cellI ns a, []⟩ (by simp)).2
theorem row_eq (ns : List Int) (a : Nat) : g__law_row [scrD ns, .int a] = .ok (iL (rowI ns a)) := by
  refine fn_rt rfl ?_
  unfold f__law_row
  have hb : bigB 60 = true := by decide
  have h := (forL_pre (t := tgName 4) (fb := p1__law_row) (fun s : RowS => [Sl.va (scrD ns), .va (.int a), .va (.int s.cell), .ow (iL s.found), .no]) nI (rowStep ns a) (List.range 60) ⟨cellI ns a, []⟩ ?_)
  · dsimp only [iL, List.map] at h
    simp [cell_eq, hb, fits_of, rngD_nat, h, rowI, rowR, iL]
  · intro pre t post hpre
    refine ⟨_, rfl, ?_⟩
    have hl : pre.length ≤ 60 := by
      have := congrArg List.length hpre
      simp at this
      omega
    have hs := (row_fold ns a pre ⟨cellI ns a, []⟩ (by simp)).1
    revert hs
    generalize pre.foldl (rowStep ns a) ⟨cellI ns a, []⟩ = s
    intro hs
    have hs : s.found.length + 1 ≤ 16777216 := by simp at hs; omega
    have hp : dPow (.int 10) (.int 18) = .ok (.int 1000000000000000000) := by rfl
    have hc : 0 ≤ (((a : Int) + 1 + t) % 20) := by omega
    have hm : dMul (.int s.cell) (.int 48271) = .ok (.int (s.cell * 48271)) := q_mul (by omega)
    have hm2 : dMul (.int 131) (.int t) = .ok (.int (131 * t)) := q_mul (by omega)
    unfold p1__law_row rowStep
    by_cases hh : cellI ns a < 1000000000000000000
    · simp [cell_eq, hp, hh, hm, hm2, q_mod, q_div, hc, fits_of, hs]
    · simp [cell_eq, hp, hh, q_mod, q_div, fits_of, hs]
/-! ### the draws as naturals; books -/
def rowN (ns : List Int) (a : Nat) : List Nat := (rowI ns a).map Int.toNat
theorem rowN_len (ns : List Int) (a : Nat) : (rowN ns a).length = 60 := by
  unfold rowN
  rw [List.length_map, row_len]
theorem rowN_eq (ns : List Int) (a : Nat) : g__law_row [scrD ns, .int a] = .ok (nL (rowN ns a)) := by
  rw [row_eq]
  unfold rowN iL nL
  rw [List.map_map]
  congr 2
  apply List.map_congr_left
  intro x hx
  have := (row_mem ns a x hx).1
  show PyData.int x = PyData.int ((x.toNat : Nat) : Int)
  rw [Int.toNat_of_nonneg this]
/-- the k-th draw -/
def dN (l : List Nat) (k : Nat) : Nat := l.getD k 0
theorem dN_at {l : List Nat} (hl : l.length = 60) {k : Int} {n : Nat} (hk : k = n) (h : n < 60) : dSubs (nL l) (.int k) = .ok (nI (dN l n)) := by
  refine q_at hk ?_
  unfold dN
  rw [List.getD_eq_getElem?_getD, List.getElem?_eq_getElem (by omega)]
  rfl
def hidI (l : List Nat) (a many : Nat) : List Int := (List.range many).map fun p => (dN l ((a + p) % 60) : Int) % 9 - 4
theorem hid_len (l : List Nat) (a many : Nat) : (hidI l a many).length = many := by simp [hidI]
theorem hid_mem (l : List Nat) (a many : Nat) : ∀ x ∈ hidI l a many, -4 ≤ x ∧ x ≤ 4 := by
  intro x hx
  obtain ⟨p, _, rfl⟩ := List.mem_map.1 hx
  omega
theorem hid_eq {l : List Nat} (hl : l.length = 60) (a many : Nat) (hm : many ≤ 1000) : g__law_hidden [nL l, .int a, nI many] = .ok (iL (hidI l a many)) := by
  refine fn_rt rfl ?_
  unfold f__law_hidden
  have hb : bigB (many : Int) = true := bigB_of (by omega) (by omega)
  have hf : fits many = true := fits_of (by omega)
  have h := lc_map1 (t := tgName 3) (fe := e2 dSub (e2 dMod (e2 dSubs (eLook 0) (e2 dMod (e2 dAdd (eVar 1) (eVar 3)) (eC (.int 60)))) (eC (.int 9))) (eC (.int 4))) (ρ := [.va (nL l), .va (.int a), .va (nI many), .no]) nI (fun p => .int ((dN l ((a + p) % 60) : Int) % 9 - 4)) (List.range many) (fun p hp => ⟨_, rfl, by
    have e1 : dSubs (nL l) (.int (((a : Int) + p) % 60)) = .ok (nI (dN l ((a + p) % 60))) := dN_at hl (by omega) (by omega)
    simp [q_mod, e1]⟩)
  simp [hb, hf, rngD_nat, h, hidI]
/-- tellings, books -/
abbrev Tl := Nat × Nat × Int
def tlD (t : Tl) : PyData := .tuple [nI t.1, nI t.2.1, .int t.2.2]
abbrev tsD (ts : List Tl) : PyData := .tuple (ts.map tlD)
def bkD (n : Nat) (ts : List Tl) : PyData := .tuple [nI n, tsD ts]
def sumI (h : List Int) (a b : Nat) : Int := ((h.drop a).take (b - a)).sum
theorem sum_bound : ∀ (l : List Int), (∀ x ∈ l, -4 ≤ x ∧ x ≤ 4) → -4 * (l.length : Int) ≤ l.sum ∧ l.sum ≤ 4 * (l.length : Int)
  | [], _ => by simp
  | x :: l, h => by
    have h1 := h x (List.mem_cons_self ..)
    have h2 := sum_bound l fun y hy => h y (List.mem_cons_of_mem _ hy)
    rw [List.sum_cons, List.length_cons]
    omega
def bookT (l : List Nat) (n : Nat) (wrong : Bool) (t : Nat) : Tl :=
  let s := dN l (3 + 3 * t) % n
  let e := s + 1 + dN l (4 + 3 * t) % (n - s)
  (s, e, sumI (hidI l 40 n) s e + (if wrong && decide (dN l (5 + 3 * t) % 7 = 0) then 1 else 0))
def bookN (l : List Nat) (most : Nat) : Nat := 1 + dN l 0 % most
def bookL (l : List Nat) (most : Nat) (wrong : Bool) : List Tl := (List.range (dN l 1 % 11)).map (bookT l (bookN l most) wrong)
theorem bookT_ok (l : List Nat) (n : Nat) (wrong : Bool) (t : Nat) (hn : 1 ≤ n) (hn2 : n ≤ 16) : (bookT l n wrong t).1 < (bookT l n wrong t).2.1 ∧ (bookT l n wrong t).2.1 ≤ n ∧ -9999 ≤ (bookT l n wrong t).2.2 ∧ (bookT l n wrong t).2.2 ≤ 9999 := by
  unfold bookT
  dsimp only
  have hs : dN l (3 + 3 * t) % n < n := Nat.mod_lt _ (by omega)
  generalize dN l (3 + 3 * t) % n = s at *
  have he : dN l (4 + 3 * t) % (n - s) < n - s := Nat.mod_lt _ (by omega)
  generalize dN l (4 + 3 * t) % (n - s) = e at *
  have hb := sum_bound (((hidI l 40 n).drop s).take (s + 1 + e - s)) (fun x hx => hid_mem l 40 n x (List.mem_of_mem_drop (List.mem_of_mem_take hx)))
  have hlen : (((hidI l 40 n).drop s).take (s + 1 + e - s)).length ≤ 16 := by
    rw [List.length_take, List.length_drop, hid_len]
    omega
  unfold sumI
  refine ⟨by omega, by omega, ?_⟩
  split <;> omega
theorem book_eq (ns : List Int) (a most : Nat) (wrong : Bool) (hm : 1 ≤ most) (hm2 : most ≤ 16) : g__law_book [scrD ns, .int a, .int most, .bool wrong] = .ok (bkD (bookN (rowN ns a) most) (bookL (rowN ns a) most wrong)) := by
  refine fn_rt rfl ?_
  have hrow := rowN_eq ns a
  have hl := rowN_len ns a
  unfold bookL
  revert hrow hl
  generalize rowN ns a = l
  intro hrow hl
  have d0 : dSubs (nL l) (.int 0) = .ok (nI (dN l 0)) := dN_at hl rfl (by omega)
  have d1 : dSubs (nL l) (.int 1) = .ok (nI (dN l 1)) := dN_at hl rfl (by omega)
  have m0 : dMod (nI (dN l 0)) (.int most) = .ok (nI (dN l 0 % most)) := q_modN (by omega)
  have m1 : dMod (nI (dN l 1)) (.int 11) = .ok (nI (dN l 1 % 11)) := q_modN (b := 11) (by omega)
  have hn : (1 : Int) + (dN l 0 % most : Nat) = (bookN l most : Nat) := by unfold bookN; omega
  have hn2 : bookN l most ≤ 16 := by
    have : dN l 0 % most < most := Nat.mod_lt _ (by omega)
    unfold bookN; omega
  have hn1 : 1 ≤ bookN l most := by unfold bookN; omega
  have hk : dN l 1 % 11 < 11 := Nat.mod_lt _ (by omega)
  revert m0 m1 hn hn2 hn1 hk
  generalize dN l 0 % most = r0
  generalize dN l 1 % 11 = r1
  generalize bookN l most = n
  intro m0 m1 hn hn2 hn1 hk
  have hhid := hid_eq hl 40 n (by omega)
  have hhid : g__law_hidden [nL l, .int 40, nI n] = .ok (iL (hidI l 40 n)) := hhid
  have hlp := forL_pre (t := tgName 8) (fb := p1__law_book) (fun f : List Tl => [Sl.va (scrD ns), .va (.int a), .va (.int most), .va (.bool wrong), .va (nL l), .va (nI n), .va (iL (hidI l 40 n)), .ow (.list (f.map tlD)), .no, .no, .no, .no]) nI (fun f t => f ++ [bookT l n wrong t]) (List.range r1) [] (fun pre t post hp => ⟨_, rfl, by
    have hpl : pre.length ≤ 11 := by
      have := congrArg List.length hp
      simp at this
      omega
    have ht : t < r1 := by
      have : t ∈ List.range r1 := by rw [hp]; simp
      exact List.mem_range.1 this
    have hfl : ∀ (p : List Nat) (f : List Tl), (p.foldl (fun f t => f ++ [bookT l n wrong t]) f).length = f.length + p.length := by
      intro p
      induction p with
      | nil => intro f; rfl
      | cons x p ih =>
        intro f
        rw [List.foldl_cons, ih]
        simp
        omega
    have hf := hfl pre []
    revert hf
    generalize pre.foldl (fun f t => f ++ [bookT l n wrong t]) [] = f
    intro hf
    have hff : fits (f.length + 1) = true := fits_of (by simp at hf; omega)
    have x1 : dMul (.int 3) (nI t) = .ok (.int (3 * t)) := q_mul (by omega)
    have e3 : dSubs (nL l) (.int (3 + 3 * (t : Int))) = .ok (nI (dN l (3 + 3 * t))) := dN_at hl (by omega) (by omega)
    have e4 : dSubs (nL l) (.int (4 + 3 * (t : Int))) = .ok (nI (dN l (4 + 3 * t))) := dN_at hl (by omega) (by omega)
    have e5 : dSubs (nL l) (.int (5 + 3 * (t : Int))) = .ok (nI (dN l (5 + 3 * t))) := dN_at hl (by omega) (by omega)
    have hb := bookT_ok l n wrong t hn1 hn2
    unfold bookT at hb ⊢
    dsimp only at hb ⊢
    have g3 : dMod (nI (dN l (3 + 3 * t))) (nI n) = .ok (nI (dN l (3 + 3 * t) % n)) := q_modN (by omega)
    have hs : dN l (3 + 3 * t) % n < n := Nat.mod_lt _ (by omega)
    revert g3 hs hb
    generalize dN l (3 + 3 * t) % n = s
    intro hb g3 hs
    have g4 : dMod (nI (dN l (4 + 3 * t))) (.int ((n : Int) - s)) = .ok (nI (dN l (4 + 3 * t) % (n - s))) := by
      rw [show ((n : Int) - s) = ((n - s : Nat) : Int) by omega]
      exact q_modN (by omega)
    have he : dN l (4 + 3 * t) % (n - s) < n - s := Nat.mod_lt _ (by omega)
    revert g4 he hb
    generalize dN l (4 + 3 * t) % (n - s) = e
    intro hb g4 he
    have g5 : dMod (nI (dN l (5 + 3 * t))) (.int 7) = .ok (nI (dN l (5 + 3 * t) % 7)) := q_modN (b := 7) (by omega)
    have hsl : dSlice (iL (hidI l 40 n)) (some (s : Int)) (some ((s : Int) + 1 + e)) = .ok (iL (((hidI l 40 n).drop s).take (s + 1 + e - s))) := by
      have := cut_mid ((hidI l 40 n).map .int) s (s + 1 + e) (by omega) (by rw [List.length_map, hid_len]; omega)
      rw [← List.map_drop, ← List.map_take] at this
      exact congrArg (fun z => Re.ok (PyData.list z)) this
    have hsum : gSum [iL (((hidI l 40 n).drop s).take (s + 1 + e - s))] = .ok (.int (sumI (hidI l 40 n) s (s + 1 + e))) := by
      show (match intsOf _ with | some ns => _ | none => _) = _
      rw [intsOf_map]
      rfl
    revert g5
    generalize dN l (5 + 3 * t) % 7 = r5
    intro g5
    have f3 : fits 3 = true := by decide
    unfold p1__law_book
    cases wrong with
    | false => simp [x1, e3, e4, g3, g4, hsl, hsum, gInt, f3, hff, tlD]
    | true => 
      by_cases h5 : r5 = 0
      · subst h5
        simp [x1, e3, e4, e5, g3, g4, g5, hsl, hsum, gInt, f3, hff, tlD]
      · have h5' : ¬ ((r5 : Int) = 0) := by omega
        simp [x1, e3, e4, e5, g3, g4, g5, hsl, hsum, gInt, f3, hff, tlD, h5, h5']⟩)
  have hfo : ∀ (p : List Nat) (f : List Tl), p.foldl (fun f t => f ++ [bookT l n wrong t]) f = f ++ p.map (bookT l n wrong) := by
    intro p
    induction p with
    | nil => intro f; simp
    | cons x p ih => intro f; rw [List.foldl_cons, ih, List.map_cons]; simp
  rw [hfo, List.nil_append] at hlp
  rw [List.map_nil] at hlp
  have f0 : fits 0 = true := by decide
  have f2 : fits 2 = true := by decide
  have hb1 : bigB (r1 : Int) = true := bigB_of (by omega) (by omega)
  unfold f__law_book
  simp [hrow, d0, d1, m0, m1, hn, hhid, f0, f2, hb1, rngD_nat, hlp, dTuple, bkD, -List.map_map]
def inB (d : PyData) (lo hi : Int) : Bool := match d with
  | .int i => decide (lo ≤ i) && decide (i ≤ hi)
  | _ => false
theorem within_eq (d : PyData) (lo hi : Int) (h : noD d = true) : g_is_within [d, .int lo, .int hi] = .ok (.bool (inB d lo hi)) := by
  refine fn_rt rfl ?_
  unfold f_is_within
  cases d <;> first | (simp [noD] at h; done) | simp [dIsi, isTy, inB]
/-! ### whether a thing is a book -/
def tellB (n : Int) (d : PyData) : Bool := match d with
  | .tuple [.int a, b, c] => inB (.int a) 0 (n - 1) && (inB b (a + 1) n && inB c (-9999) 9999)
  | _ => false
theorem tell_eq (n : Int) (d : PyData) (h : noD d = true) : g_is_telling [.int n, d] = .ok (.bool (tellB n d)) := by
  refine fn_rt rfl ?_
  unfold f_is_telling
  cases d with
  | tuple xs =>
    rw [noD] at h
    by_cases hl : xs.length = 3
    · match xs, hl with
      | [a, b, c], _ =>
        have ha : noD a = true := noDs_mem h a (by simp)
        have hb : noD b = true := noDs_mem h b (by simp)
        have hc : noD c = true := noDs_mem h c (by simp)
        by_cases h1 : inB a 0 (n - 1) = true
        · cases a with
          | int i =>
            cases hh : inB b (i + 1) n <;> simp [dIsi, isTy, within_eq, ha, hb, hc, h1, tellB, hh]
          | _ => simp [inB] at h1
        · have h1 : inB a 0 (n - 1) = false := by simpa using h1
          have : tellB n (.tuple [a, b, c]) = false := by
            cases a <;> simp [tellB, h1]
          simp [dIsi, isTy, within_eq, ha, h1, this]
    · have h3 : ¬ ((xs.length : Int) = 3) := by omega
      have : tellB n (.tuple xs) = false := by
        unfold tellB
        split
        · rename_i e
          cases e
          exact absurd rfl hl
        · rfl
      simp [dIsi, isTy, h3, this]
  | dict _ => simp [noD] at h
  | _ => simp [dIsi, isTy, tellB]
/-! ### books that are books; ties; walked -/
structure BkOk (n : Nat) (ts : List Tl) : Prop where
  n1 : 1 ≤ n
  n2 : n ≤ 16
  len : ts.length ≤ 24
  tel : ∀ t ∈ ts, t.1 < t.2.1 ∧ t.2.1 ≤ n ∧ -9999 ≤ t.2.2 ∧ t.2.2 ≤ 9999
theorem BkOk.fit {n : Nat} {ts : List Tl} (h : BkOk n ts) : GB.Fit n ts := fun t ht => by
  have := h.tel t ht
  omega
theorem bk0 {n : Nat} {ts : List Tl} : dSubs (bkD n ts) (.int 0) = .ok (nI n) := q_t0
theorem bk1 {n : Nat} {ts : List Tl} : dSubs (bkD n ts) (.int 1) = .ok (tsD ts) := q_t1
theorem drawn_ok (l : List Nat) (most : Nat) (wrong : Bool) (h1 : 1 ≤ most) (h2 : most ≤ 16) : BkOk (bookN l most) (bookL l most wrong) := by
  have hb : dN l 0 % most < most := Nat.mod_lt _ (by omega)
  have hk : dN l 1 % 11 < 11 := Nat.mod_lt _ (by omega)
  have hn : bookN l most ≤ 16 := by unfold bookN; omega
  have hn1 : 1 ≤ bookN l most := by unfold bookN; omega
  refine ⟨hn1, hn, ?_, fun t ht => ?_⟩
  · unfold bookL
    rw [List.length_map, List.length_range]
    omega
  · unfold bookL at ht
    obtain ⟨k, _, rfl⟩ := List.mem_map.1 ht
    exact bookT_ok l (bookN l most) wrong k hn1 hn
def tiD (t : GB.Tie) : PyData := .tuple [.int t.1, .int t.2.1, .int t.2.2.1, .int t.2.2.2]
abbrev tiesD (n : Nat) (ts : List Tl) : PyData := .list ((List.range (n + 1)).map fun u => .list ((GB.tiesN ts u).map tiD))
theorem getD_range {α : Type} (F : Nat → List α) (n a : Nat) (h : a < n) : ((List.range n).map F).getD a [] = F a := by
  rw [List.getD_eq_getElem?_getD, List.getElem?_map, List.getElem?_range h]
  rfl
theorem tie2_range (F : Nat → List PyData) (N i a b : Nat) (m : Int) (ha : a < N) (hb : b < N) : tie2 ((List.range N).map F) i a b m = (List.range N).map fun u => F u ++ (GB.tieAt u i (a, b, m)).map tiD := by
  apply List.ext_getElem?
  intro u
  unfold tie2
  dsimp only
  by_cases hu : u < N
  · have e1 : ((List.range N).map F)[u]? = some (F u) := by rw [List.getElem?_map, List.getElem?_range hu]; rfl
    have e2 : ((List.range N).map fun u => F u ++ (GB.tieAt u i (a, b, m)).map tiD)[u]? = some (F u ++ (GB.tieAt u i (a, b, m)).map tiD) := by rw [List.getElem?_map, List.getElem?_range hu]; rfl
    rw [e2]
    have ga : ((List.range N).map F).getD a [] = F a := getD_range F N a ha
    rw [ga]
    by_cases hbu : b = u
    · subst hbu
      rw [List.getElem?_set_self (by simpa using hu)]
      by_cases hau : a = b
      · subst hau
        rw [List.getD_eq_getElem?_getD, List.getElem?_set_self (by simpa using hu)]
        simp [GB.tieAt, tiD, tieD]
      · rw [List.getD_eq_getElem?_getD, List.getElem?_set_ne hau, e1]
        simp [GB.tieAt, tiD, tieD, hau]
    · rw [List.getElem?_set_ne hbu]
      by_cases hau : a = u
      · subst hau
        rw [List.getElem?_set_self (by simpa using hu)]
        simp [GB.tieAt, tiD, tieD, hbu]
      · rw [List.getElem?_set_ne hau, e1]
        simp [GB.tieAt, hau, hbu]
  · rw [List.getElem?_eq_none (by simp; omega), List.getElem?_eq_none (by simp; omega)]
theorem tieL_eq (N : Nat) : ∀ (ts : List Tl) (i : Nat) (F : Nat → List PyData), (∀ t ∈ ts, t.1 < N ∧ t.2.1 < N) → tieL i (ts.map tlD) ((List.range N).map F) = some ((List.range N).map fun u => F u ++ (GB.tiesFrom u i ts).map tiD)
  | [], i, F, _ => by simp [tieL, GB.tiesFrom]
  | (a, b, m) :: ts, i, F, h => by
    have h0 := h (a, b, m) (by simp)
    dsimp only at h0
    rw [List.map_cons]
    unfold tieL
    have e1 : tieOne ((List.range N).map F) i (tlD (a, b, m)) = some (tie2 ((List.range N).map F) i a b m) := by
      show (if _ then _ else _) = _
      rw [if_pos (by simp; omega), Int.toNat_natCast, Int.toNat_natCast]
    rw [e1, tie2_range F N i a b m h0.1 h0.2]
    show tieL (i + 1) _ _ = _
    rw [tieL_eq N ts (i + 1) _ fun t ht => h t (by simp [ht])]
    congr 2
    funext u
    rw [List.append_assoc, ← List.map_append]
    rfl
theorem ties_eq {n : Nat} {ts : List Tl} (h : BkOk n ts) : g_ties_of [bkD n ts] = .ok (tiesD n ts) := by
  refine fn_rt rfl ?_
  show fTies [.va (.tuple [.int (n : Nat), .tuple (ts.map tlD)]), .no, .no, .no, .no, .no, .no] = _
  unfold fTies
  dsimp only
  have h1 := h.n2
  have h2 := h.len
  rw [if_pos (by simp; omega), Int.toNat_natCast]
  have hr : List.replicate (n + 1) ([] : List PyData) = (List.range (n + 1)).map fun _ => [] := by
    apply List.ext_getElem
    · simp
    · intro i _ _; simp
  rw [hr, tieL_eq (n + 1) ts 0 (fun _ => []) fun t ht => by
    have := h.tel t ht
    omega]
  simp [tiesD, GB.tiesN]
/-! walked -/
def lkD (l : GB.Lnk) : PyData := .tuple [.int l.1, .int l.2]
def valD (p : List GB.Lnk × Int) : PyData := .tuple [.list (p.1.map lkD), .int p.2]
def entD (e : GB.Ent) : PyData × PyData := (nI e.1, valD e.2)
abbrev fdD (fd : List GB.Ent) : PyData := .dict (fd.map entD)
theorem scr_ent (fd : List GB.Ent) : scrOf (fd.map entD) = none := by
  cases fd with
  | nil => rfl
  | cons e fd => rfl
theorem look_ent (fd : List GB.Ent) (v : Nat) : lookD (fd.map entD) (nI v) = (fd.find? fun e => e.1 == v).map fun e => valD e.2 := by
  unfold lookD
  induction fd with
  | nil => rfl
  | cons e fd ih =>
    rw [List.map_cons, List.find?_cons, List.find?_cons]
    have : keyB (entD e).1 (nI v) = (e.1 == v) := by
      show ((e.1 : Int) == (v : Int)) = _
      rw [Bool.eq_iff_iff]
      simp
      omega
    rw [this]
    cases e.1 == v with
    | true => rfl
    | false => exact ih
theorem look_has (fd : List GB.Ent) (v : Nat) : (lookD (fd.map entD) (nI v)).isSome = GB.hasK fd v := by
  rw [look_ent, Option.isSome_map]
  unfold GB.hasK
  rw [Bool.eq_iff_iff, List.find?_isSome, List.any_eq_true]
theorem in_fd (fd : List GB.Ent) (v : Nat) : dIn (nI v) (fdD fd) = .ok (.bool (GB.hasK fd v)) := by
  unfold dIn dInB
  simp only [scr_ent]
  rw [if_pos (show isKey (nI v) = true from rfl), look_has]
  rfl
theorem nin_fd (fd : List GB.Ent) (v : Nat) : dNotIn (nI v) (fdD fd) = .ok (.bool (!GB.hasK fd v)) := by
  unfold dNotIn dInB
  simp only [scr_ent]
  rw [if_pos (show isKey (nI v) = true from rfl), look_has]
  rfl
theorem at_fd {fd : List GB.Ent} {v : Nat} (h : GB.hasK fd v = true) : dSubs (fdD fd) (nI v) = .ok (valD (GB.getK fd v)) := by
  rw [← look_has] at h
  obtain ⟨d, hd⟩ := Option.isSome_iff_exists.1 h
  unfold dSubs
  simp only [scr_ent]
  rw [hd]
  rw [look_ent] at hd
  cases e : fd.find? fun e => e.1 == v with
  | none => rw [e] at hd; cases hd
  | some x =>
    rw [e] at hd
    cases hd
    unfold GB.getK
    rw [e]
    rfl
@[simp] theorem val0 {p : List GB.Lnk × Int} : dSubs (valD p) (.int 0) = .ok (.list (p.1.map lkD)) := q_t0
@[simp] theorem val1 {p : List GB.Lnk × Int} : dSubs (valD p) (.int 1) = .ok (.int p.2) := q_t1
theorem put_ent {fd : List GB.Ent} {v : Nat} {d : List GB.Lnk × Int} (h : GB.hasK fd v = false) : putE (fd.map entD) (nI v) (valD d) = (fd ++ [(v, d)]).map entD := by
  unfold putE
  have : ((fd.map entD).any fun e => keyB e.1 (nI v)) = false := by
    rw [List.any_map]
    rw [← h]
    unfold GB.hasK
    congr 1
    funext e
    show ((e.1 : Int) == (v : Int)) = _
    rw [Bool.eq_iff_iff]
    simp
    omega
  rw [this]
  simp [entD]
abbrev wkE (n : Nat) (ts : List Tl) (s : Nat) (fd : List GB.Ent) (rim later pt : Sl) : En := [.va (bkD n ts), .va (nI s), .va (tiesD n ts), .ow (fdD fd), rim, later, pt, .no, .no, .no, .no]
theorem wk_tie (n : Nat) (ts : List Tl) (s pt : Nat) (rim : Sl) (st : List GB.Ent × List Nat) (t : GB.Tie) (hp : GB.hasK st.1 pt = true) (hl : st.1.length ≤ 100) (hl2 : st.2.length ≤ 100) (hl3 : (GB.getK st.1 pt).1.length ≤ 1000) :
    p1_walked (putD (wkE n ts s st.1 rim (.ow (nL st.2)) (.va (nI pt))) [(7, .int t.1), (8, .int t.2.1), (9, .int t.2.2.1), (10, .int t.2.2.2)]) = .nx (wkE n ts s (GB.stT pt st t).1 rim (.ow (nL (GB.stT pt st t).2)) (.va (nI pt))) := by
  obtain ⟨i, g, o, m⟩ := t
  unfold p1_walked GB.stT wkE
  dsimp only
  have hn := nin_fd st.1 o
  have ha := at_fd hp
  cases h : GB.hasK st.1 o with
  | true =>
    rw [h] at hn
    simp [hn]
  | false =>
    rw [h] at hn
    rw [if_neg (by simp)]
    have f1 : fits 1 = true := by decide
    have f2 : fits 2 = true := by decide
    have fl : fits (st.1.length + 1) = true := fits_of (by omega)
    have fl2 : fits (st.2.length + 1) = true := fits_of (by omega)
    have fl3 : fits ((GB.getK st.1 pt).1.length + 1) = true := fits_of (by omega)
    have hadd : dAdd (.list ((GB.getK st.1 pt).1.map lkD)) (.list [.tuple [.int i, .int g]]) = .ok (.list (((GB.getK st.1 pt).1 ++ [(i, g)]).map lkD)) := by
      show (if fits (((GB.getK st.1 pt).1.map lkD).length + 1) = true then _ else _) = _
      rw [List.length_map, if_pos fl3, List.map_append]
      rfl
    have hput := put_ent (d := ((GB.getK st.1 pt).1 ++ [(i, g)], (GB.getK st.1 pt).2 + m)) h
    have hsto : ∀ x6 : Sl, sSto 3 (eVar 9) (eTup (aCons (e2 dAdd (e2 dSubs (e2 dSubs (eLook 3) (eVar 6)) (eC (.int 0))) (eLst (aCons (eTup (aCons (eVar 7) (aCons (eVar 8) aNil))) aNil))) (aCons (e2 dAdd (e2 dSubs (e2 dSubs (eLook 3) (eVar 6)) (eC (.int 1))) (eVar 10)) aNil))) [.va (bkD n ts), .va (nI s), .va (tiesD n ts), .ow (fdD st.1), rim, .ow (nL st.2), .va (nI pt), .va (.int i), .va (.int g), .va (.int o), .va (.int m)] = .nx [.va (bkD n ts), .va (nI s), .va (tiesD n ts), .ow (fdD (st.1 ++ [(o, (GB.getK st.1 pt).1 ++ [(i, g)], (GB.getK st.1 pt).2 + m)])), rim, .ow (nL st.2), .va (nI pt), .va (.int i), .va (.int g), .va (.int o), .va (.int m)] := by
      intro _
      rw [sto_dict (es := st.1.map entD) (k := nI o) (d := valD ((GB.getK st.1 pt).1 ++ [(i, g)], (GB.getK st.1 pt).2 + m)) rfl (by simp [ha, f1, f2, hadd]; simp [valD]) rfl rfl (by rw [List.length_map]; exact fl), hput]
      rfl
    simp [hn, hsto .no, fl2]
theorem mid_len {n : Nat} {ts : List Tl} {s k : Nat} {fd : List GB.Ent} {rim : List Nat} {st : List GB.Ent × List Nat} (hf : GB.Fit n ts) (hs : s ≤ n) (L : GB.Lev ts s k fd rim) (M : GB.Mid ts s k fd st) : st.1.length ≤ n + 1 ∧ st.2.length ≤ n + 1 := by
  obtain ⟨new, e1, e2, e3⟩ := M.ex
  have h1 : st.1.length ≤ n + 1 := by
    have := GB.nodup_le (n := n + 1) M.nd (fun x hx => by
      obtain ⟨e, he, rfl⟩ := List.mem_map.1 hx
      rw [e1] at he
      have hc : GB.Ch ts e.2.1 s e.1 e.2.2 := by
        rcases List.mem_append.1 he with he | he
        · exact (L.ch e he).1
        · exact (e3 e he).1
      have := hc.fit hf hs
      omega)
    rwa [List.length_map] at this
  refine ⟨h1, ?_⟩
  rw [e2, List.length_map]
  rw [e1, List.length_append] at h1
  omega
theorem wk_point {n : Nat} {ts : List Tl} {s k : Nat} {fd : List GB.Ent} {rim : List Nat} {st : List GB.Ent × List Nat} (h : BkOk n ts) (hs : s ≤ n) (hk : k ≤ 100) (L : GB.Lev ts s k fd rim) (M : GB.Mid ts s k fd st) {pt : Nat} (hp : pt ∈ rim) (rm : Sl) :
    p2_walked (putD (wkE n ts s st.1 rm (.ow (nL st.2)) .no) [(6, nI pt)]) = .nx (wkE n ts s (GB.stP ts st pt).1 rm (.ow (nL (GB.stP ts st pt).2)) .no) := by
  obtain ⟨p, hpf, hpe, hpl⟩ := (L.rim pt).1 hp
  have hpc := (L.ch p hpf).1
  have hptn : pt ≤ n := by
    have := hpc.fit h.fit hs
    omega
  have hn2 := h.n2
  have hlp := forL_pre (t := tgTup [tgName 7, tgName 8, tgName 9, tgName 10]) (fb := p1_walked) (fun st : List GB.Ent × List Nat => wkE n ts s st.1 rm (.ow (nL st.2)) (.va (nI pt))) tiD (GB.stT pt) (GB.tiesN ts pt) st (fun pre t post he => ⟨[(7, .int t.1), (8, .int t.2.1), (9, .int t.2.2.1), (10, .int t.2.2.2)], rfl, by
    subst hpe
    obtain ⟨M2, _, mono⟩ := GB.Mid.steps hpf hpc hpl pre st (fun x hx => by rw [he]; simp [hx]) M
    have hl := mid_len h.fit hs L M2
    obtain ⟨new, e1, _, _⟩ := M2.ex
    have hin : p ∈ (pre.foldl (GB.stT p.1) st).1 := by rw [e1]; exact List.mem_append.2 (.inl hpf)
    have hg := GB.getK_of hin M2.nd
    exact wk_tie n ts s p.1 rm _ t (GB.hasK_iff.2 ⟨p, hin, rfl⟩) (by omega) (by omega) (by rw [hg]; omega)⟩)
  have hat : dSubs (tiesD n ts) (nI pt) = .ok (.list ((GB.tiesN ts pt).map tiD)) := q_at (n := pt) rfl (List.getElem?_range (by omega))
  unfold p2_walked
  unfold wkE at hlp ⊢
  simp [hat]
  rw [hlp]
  simp [GB.stP]
theorem wk_round {n : Nat} {ts : List Tl} {s k : Nat} {fd : List GB.Ent} {rim : List Nat} (h : BkOk n ts) (hs : s ≤ n) (hk : k ≤ 100) (L : GB.Lev ts s k fd rim) :
    p3_walked (wkE n ts s fd (.va (nL rim)) .no .no) = .nx (wkE n ts s (GB.rnd ts fd rim).1 (.va (nL (GB.rnd ts fd rim).2)) .no .no) := by
  have M0 : GB.Mid ts s k fd (fd, []) := ⟨L.nd, [], by simp, rfl, fun e he => by simp at he⟩
  have hlp := forL_pre (t := tgName 6) (fb := p2_walked) (fun st : List GB.Ent × List Nat => wkE n ts s st.1 (.va (nL rim)) (.ow (nL st.2)) .no) nI (GB.stP ts) rim (fd, []) (fun pre pt post he => ⟨_, rfl, by
    obtain ⟨M, _, _⟩ := GB.Mid.points pre (fd, []) (fun v hv => by
      obtain ⟨e, he', q, hl⟩ := (L.rim v).1 (by rw [he]; simp [hv])
      exact ⟨e, he', q, (L.ch e he').1, hl⟩) M0
    exact wk_point h hs hk L M (by rw [he]; simp) _⟩)
  have f0 : fits 0 = true := by decide
  unfold p3_walked
  unfold wkE at hlp ⊢
  have hlp : forL (tgName 6) p2_walked (rim.map nI) [.va (bkD n ts), .va (nI s), .va (tiesD n ts), .ow (fdD fd), .va (nL rim), .ow (.list []), .no, .no, .no, .no, .no] = _ := hlp
  simp [f0]
  rw [hlp]
  simp [GB.rnd]
theorem wk_loop {n : Nat} {ts : List Tl} {s : Nat} (h : BkOk n ts) (hs : s ≤ n) : ∀ (f k : Nat) (fd : List GB.Ent) (rim : List Nat), GB.Lev ts s k fd rim → k + f ≤ 100 → n + 2 - fd.length + (if rim.isEmpty then 0 else 1) < f → ∃ r, whL (bTru (eLook 4)) p3_walked f (wkE n ts s fd (.va (nL rim)) .no .no) = .nx (wkE n ts s (GB.bfs ts f fd rim) r .no .no)
  | 0, k, fd, rim, L, _, hh => by omega
  | f + 1, k, fd, rim, L, hk, hh => by
    unfold GB.bfs
    cases hr : rim.isEmpty with
    | true =>
      rw [if_pos rfl]
      rw [List.isEmpty_iff] at hr
      subst hr
      exact ⟨_, whL_stop (by simp)⟩
    | false =>
      rw [if_neg (by simp)]
      obtain ⟨L', hl⟩ := L.next
      have hlen : (GB.rnd ts fd rim).1.length ≤ n + 1 := by
        have := GB.nodup_le (n := n + 1) L'.nd (fun x hx => by
          obtain ⟨e, he, rfl⟩ := List.mem_map.1 hx
          have := (L'.ch e he).1.fit h.fit hs
          omega)
        rwa [List.length_map] at this
      have hne : rim ≠ [] := fun z => by subst z; cases hr
      rw [whL_step (ρ' := wkE n ts s (GB.rnd ts fd rim).1 (.va (nL (GB.rnd ts fd rim).2)) .no .no) (by simp [hne]) (wk_round h hs (by omega) L)]
      rw [hr] at hh
      exact wk_loop h hs f (k + 1) _ _ L' (by omega) (by
        split
        · simp at hh; omega
        · rename_i hne
          have : (GB.rnd ts fd rim).2.length ≠ 0 := fun z => hne (by rw [List.length_eq_zero_iff.1 z]; rfl)
          simp at hh
          omega)
theorem walked_eq {n : Nat} {ts : List Tl} {s : Nat} (h : BkOk n ts) (hs : s ≤ n) : g_walked [bkD n ts, nI s] = .ok (fdD (GB.wlk ts s)) := by
  refine fn_rt rfl ?_
  have hn2 := h.n2
  have L : GB.Lev ts s 0 [(s, [], 0)] [s] := by
    refine ⟨by simp, fun e he => ?_, fun v => ?_, fun ls v x hc hl => ?_⟩
    · rw [List.mem_singleton.1 he]
      exact ⟨⟨rfl, rfl⟩, by simp⟩
    · constructor
      · intro hv
        rw [List.mem_singleton.1 hv]
        exact ⟨_, List.mem_singleton.2 rfl, rfl, rfl⟩
      · rintro ⟨e, he, rfl, _⟩
        rw [List.mem_singleton.1 he]
        simp
    · have : ls = [] := List.length_eq_zero_iff.1 (by omega)
      subst this
      obtain ⟨rfl, _⟩ := hc
      exact ⟨_, List.mem_singleton.2 rfl, rfl, by simp⟩
  obtain ⟨r, hw⟩ := wk_loop h hs 100 0 _ _ L (by omega) (by simp; omega)
  have f0 : fits 0 = true := by decide
  have f1 : fits 1 = true := by decide
  have f2 : fits 2 = true := by decide
  unfold f_walked
  unfold wkE at hw
  have hw : whL (bTru (eLook 4)) p3_walked 100 [.va (bkD n ts), .va (nI s), .va (tiesD n ts), .ow (.dict [(nI s, .tuple [.list [], .int 0])]), .va (.list [nI s]), .no, .no, .no, .no, .no, .no] = _ := hw
  simp [ties_eq h, f0, f1, f2, eDct1, isKey]
  rw [hw]
  simp [GB.wlk]
/-! ### lots, truth -/
theorem keys_ent (fd : List GB.Ent) : keysOf (fd.map entD) = some (fd.map fun e => (e.1 : Int)) := by
  induction fd with
  | nil => rfl
  | cons e fd ih =>
    show (keysOf (fd.map entD)).map ((e.1 : Int) :: ·) = _
    rw [ih]
    rfl
theorem srt_comp {n : Nat} {ts : List Tl} {u : Nat} (h : BkOk n ts) (hu : u ≤ n) : dSorted (fdD (GB.wlk ts u)) = .ok (nL (GB.compN n ts u)) := by
  have hn := h.n2
  obtain ⟨W, _⟩ := GB.wlk_ok h.fit hu (by omega)
  have hlen : (GB.wlk ts u).length ≤ n + 1 := by
    have := GB.nodup_le (n := n + 1) W.nd (fun x hx => by
      obtain ⟨e, he, rfl⟩ := List.mem_map.1 hx
      have := (W.ch e he).fit h.fit hu
      omega)
    rwa [List.length_map] at this
  have e : srtI ((GB.wlk ts u).map fun e => (e.1 : Int)) = (GB.compN n ts u).map fun v : Nat => (v : Int) := by
    symm
    apply srtI_uniq
    · have hp : (GB.compN n ts u).Perm ((GB.wlk ts u).map (·.1)) := by
        unfold GB.compN
        rw [List.perm_ext_iff_of_nodup (List.Pairwise.filter _ List.nodup_range) W.nd]
        intro v
        rw [List.mem_filter, List.mem_range, GB.hasK_iff, List.mem_map]
        constructor
        · exact fun z => z.2
        · rintro ⟨e, he, rfl⟩
          refine ⟨?_, e, he, rfl⟩
          have := (W.ch e he).fit h.fit hu
          omega
      have := hp.map fun v : Nat => (v : Int)
      rw [List.map_map] at this
      exact this
    · rw [List.pairwise_map]
      refine List.Pairwise.filter _ ?_
      exact (List.pairwise_lt_range).imp fun q => by omega
  unfold dSorted
  simp only [keys_ent]
  rw [if_pos (by rw [List.length_map]; exact decide_eq_true (by omega)), e, List.map_map]
  rfl
theorem nin_nL (v : Nat) (ms : List Nat) : dNotIn (nI v) (nL ms) = .ok (.bool (!ms.contains v)) := by
  have := q_inN (m := v) (ms := ms)
  unfold dIn at this
  unfold dNotIn
  cases e : dInB (nI v) (nL ms) with
  | ok b =>
    rw [e] at this
    have hb : b = ms.any fun k => Nat.beq k v := by
      have : Re.ok (PyData.bool b) = Re.ok (PyData.bool (ms.any fun k => Nat.beq k v)) := this
      injection this with this
      injection this
    rw [hb]
    show Re.ok _ = _
    congr 3
    rw [Bool.eq_iff_iff, List.any_eq_true, List.contains_iff_mem]
    constructor
    · rintro ⟨k, hk, q⟩
      rw [← Nat.eq_of_beq_eq_true q]; exact hk
    · intro hk
      exact ⟨v, hk, Nat.beq_refl v⟩
  | ex c p => rw [e] at this; cases this
  | st => rw [e] at this; cases this
abbrev loE (n : Nat) (ts : List Tl) (left : List Nat) (found : List (List Nat)) : En := [.va (bkD n ts), .va (nL left), .ow (.list (found.map nL)), .no, .no]
theorem lo_step {n : Nat} {ts : List Tl} (h : BkOk n ts) (u : Nat) (l : List Nat) (found : List (List Nat)) (hu : u ≤ n) (hl : (u :: l).length ≤ 100) (hf : found.length ≤ 1000) : p1_lots_of (loE n ts (u :: l) found) = .nx (loE n ts ((u :: l).filter fun v => !(GB.compN n ts u).contains v) (found ++ [GB.compN n ts u])) := by
  have e0 : dSubs (nL (u :: l)) (.int 0) = .ok (nI u) := q_at (n := 0) rfl rfl
  have hlc := lc_map (t := tgName 4) (gc := toB (e2 dNotIn (eVar 4) (eLook 3))) (fe := eVar 4) (ρ := [.va (bkD n ts), .va (nL (u :: l)), .ow (.list ((found ++ [GB.compN n ts u]).map nL)), .va (nL (GB.compN n ts u)), .no]) nI (fun v => !(GB.compN n ts u).contains v) nI (u :: l) (fun v _ => ⟨_, rfl, by simp [nin_nL], fun _ => by simp⟩)
  have f1 : fits (found.length + 1) = true := fits_of (by omega)
  have f2 : fits (l.length + 1) = true := fits_of (by simp at hl; omega)
  have hmap : (found ++ [GB.compN n ts u]).map nL = found.map nL ++ [nL (GB.compN n ts u)] := by rw [List.map_append]; rfl
  rw [hmap] at hlc
  unfold p1_lots_of loE
  rw [hmap]
  simp only [q_fgt, q_seq, q_set, q_e1, q_call, q_cons, q_nil, q_var, q_look, q_e2, q_C]
  simp [e0, walked_eq h hu, srt_comp h hu, f1, -List.map_cons, f2]
  rw [hlc]
  simp
theorem lo_loop {n : Nat} {ts : List Tl} (h : BkOk n ts) : ∀ (f : Nat) (left : List Nat) (found : List (List Nat)), (∀ v ∈ left, v ≤ n) → left.length < f → left.length ≤ 100 → found.length + f ≤ 1000 → ∃ l, whL (bTru (eLook 1)) p1_lots_of f (loE n ts left found) = .nx (loE n ts l (found ++ GB.lotsF n ts f left))
  | 0, left, found, _, hh, _, _ => by omega
  | f + 1, [], found, _, _, _, _ => ⟨[], by
    rw [whL_stop (by simp)]
    simp [GB.lotsF]⟩
  | f + 1, u :: l, found, hv, hh, hl, hf => by
    have hu : u ≤ n := hv u (by simp)
    have hn := h.n2
    have hcu : (GB.compN n ts u).contains u = true := by
      rw [List.contains_iff_mem]
      unfold GB.compN
      rw [List.mem_filter, List.mem_range]
      exact ⟨by omega, (GB.wlk_has h.fit hu (by omega)).2 (GB.Conn.refl u)⟩
    have hlt : ((u :: l).filter fun v => !(GB.compN n ts u).contains v).length < (u :: l).length := by
      rw [List.filter_cons_of_neg (by rw [hcu]; simp)]
      have := List.length_filter_le (fun v => !(GB.compN n ts u).contains v) l
      rw [List.length_cons]
      omega
    rw [whL_step (by simp) (lo_step h u l found hu hl (by omega))]
    obtain ⟨r, hr⟩ := lo_loop h f ((u :: l).filter fun v => !(GB.compN n ts u).contains v) (found ++ [GB.compN n ts u]) (fun v hv' => hv v (List.mem_filter.1 hv').1) (by omega) (by omega) (by rw [List.length_append, List.length_singleton]; omega)
    refine ⟨r, ?_⟩
    rw [hr]
    simp [GB.lotsF]
theorem lots_of_eq {n : Nat} {ts : List Tl} (h : BkOk n ts) : g_lots_of [bkD n ts] = .ok (.list ((GB.lotsN n ts).map nL)) := by
  refine fn_rt rfl ?_
  have hn := h.n2
  obtain ⟨l, hw⟩ := lo_loop h 100 (List.range (n + 1)) [] (fun v hv => by have := List.mem_range.1 hv; omega) (by simp; omega) (by simp; omega) (by simp)
  have hd : dLR1 (.int ((n : Int) + 1)) = .ok (nL (List.range (n + 1))) := q_LR1 (n := n + 1) (by omega)
  have f0 : fits 0 = true := by decide
  rw [List.nil_append] at hw
  have hw : whL (bTru (eLook 1)) p1_lots_of 100 [.va (bkD n ts), .va (nL (List.range (n + 1))), .ow (.list []), .no, .no] = _ := hw
  unfold f_lots_of
  simp [bk0, hd, f0]
  rw [hw]
  simp [GB.lotsN, loE]
theorem heads_lots {n : Nat} {ts : List Tl} (h : BkOk n ts) : GB.lotsN n ts = (GB.heads n (GB.marksB n ts)).map (GB.lotOf n (GB.marksB n ts)) := GB.lots_eq h.fit (by have := h.n2; omega) (GB.marksB_ok h.fit)
theorem lot_head {n : Nat} {ts : List Tl} (h : BkOk n ts) {m : Nat} (hm : m ∈ GB.heads n (GB.marksB n ts)) : m ≤ n ∧ ∃ l, GB.lotOf n (GB.marksB n ts) m = m :: l := by
  unfold GB.heads at hm
  rw [List.mem_filter, List.mem_range] at hm
  have hfix := of_decide_eq_true hm.2
  have M := GB.marksB_ok h.fit
  refine ⟨by omega, _, GB.filter_first (p := fun v => decide ((GB.marksB n ts).getD v 0 = m)) hm.1 (decide_eq_true hfix) fun u hu => decide_eq_false fun z => ?_⟩
  have := M.le u (by omega)
  omega
theorem lot_zero {n : Nat} {ts : List Tl} (h : BkOk n ts) {m : Nat} (hm : m ∈ GB.heads n (GB.marksB n ts)) : dSubs (nL (GB.lotOf n (GB.marksB n ts) m)) (.int 0) = .ok (nI m) := by
  obtain ⟨_, l, e⟩ := lot_head h hm
  rw [e]
  exact q_at (n := 0) rfl rfl
def okT (ts : List Tl) (m : Nat) (t : Tl) : Bool := !GB.hasK (GB.wlk ts m) t.1 || decide ((GB.getK (GB.wlk ts m) t.1).2 + t.2.2 = (GB.getK (GB.wlk ts m) t.2.1).2)
/-! ### all stretches -/
abbrev abD (p : Nat × Nat) : PyData := .tuple [nI p.1, nI p.2]
def strA (n a : Nat) : List (Nat × Nat) := (List.range (n - a)).map fun i => (a, a + 1 + i)
def strsN (n : Nat) : List (Nat × Nat) := (List.range n).flatMap (strA n)
theorem strs_mem {n : Nat} {p : Nat × Nat} : p ∈ strsN n ↔ p.1 < p.2 ∧ p.2 ≤ n := by
  unfold strsN strA
  rw [List.mem_flatMap]
  constructor
  · rintro ⟨a, ha, hp⟩
    rw [List.mem_range] at ha
    obtain ⟨i, hi, rfl⟩ := List.mem_map.1 hp
    rw [List.mem_range] at hi
    dsimp only
    omega
  · rintro ⟨h1, h2⟩
    refine ⟨p.1, List.mem_range.2 (by omega), List.mem_map.2 ⟨p.2 - p.1 - 1, List.mem_range.2 (by omega), ?_⟩⟩
    exact Prod.ext rfl (by show p.1 + 1 + (p.2 - p.1 - 1) = p.2; omega)
theorem strsF_len (n : Nat) : ∀ (l : List Nat), (l.flatMap (strA n)).length ≤ n * l.length
  | [] => by simp
  | a :: l => by
    rw [List.flatMap_cons, List.length_append, List.length_cons, Nat.mul_add, Nat.mul_one]
    have := strsF_len n l
    have : (strA n a).length ≤ n := by simp [strA]
    omega
theorem strs_len {n : Nat} (hn : n ≤ 16) : (strsN n).length ≤ 256 := by
  have := strsF_len n (List.range n)
  rw [List.length_range] at this
  have h2 : n * n ≤ 16 * 16 := Nat.mul_le_mul hn hn
  unfold strsN
  omega
theorem allstr_eq {n : Nat} (hn : n ≤ 16) : g__law_all_stretches [nI n] = .ok (.list ((strsN n).map abD)) := by
  refine fn_rt rfl ?_
  have f0 : fits 0 = true := by decide
  have f2 : fits 2 = true := by decide
  have hff : ∀ (l : List Nat) (acc : List (Nat × Nat)), l.foldl (fun acc a => acc ++ strA n a) acc = acc ++ l.flatMap (strA n) := by
    intro l
    induction l with
    | nil => intro acc; simp
    | cons p l ih => intro acc; rw [List.foldl_cons, ih, List.flatMap_cons, List.append_assoc]
  have hlp := forL_pre (t := tgName 2) (fb := p1__law_all_stretches) (fun acc : List (Nat × Nat) => [.va (nI n), .va (.list (acc.map abD)), .no, .no]) nI (fun acc a => acc ++ strA n a) (List.range n) [] (fun pre a post hp => ⟨_, rfl, by
    have ha : a < n := by
      have : a ∈ List.range n := by rw [hp]; simp
      rwa [List.mem_range] at this
    have hpl : pre.length ≤ 16 := by
      have := congrArg List.length hp
      simp at this
      omega
    have hal : (pre.foldl (fun acc a => acc ++ strA n a) []).length ≤ 256 := by
      rw [hff, List.nil_append]
      have := strsF_len n pre
      have h2 : n * pre.length ≤ 16 * 16 := Nat.mul_le_mul hn hpl
      omega
    generalize pre.foldl (fun acc a => acc ++ strA n a) [] = acc at *
    have b1 : bigB ((a : Int) + 1) = true := bigB_of (by omega) (by omega)
    have b2 : bigB ((n : Int) + 1) = true := bigB_of (by omega) (by omega)
    have e1 : ((n : Int) + 1 - ((a : Int) + 1)).toNat = n - a := by omega
    have e2 : rngD ((a : Int) + 1) (n - a) = (List.range (n - a)).map fun i => nI (a + 1 + i) := rngD_from (a + 1) (n - a)
    have hlc := lc_map1 (t := tgName 3) (fe := eTup (aCons (eVar 2) (aCons (eVar 3) aNil))) (ρ := [.va (nI n), .va (.list (acc.map abD)), .va (nI a), .no]) (fun i => nI (a + 1 + i)) (fun i => abD (a, a + 1 + i)) (List.range (n - a)) (fun i _ => ⟨_, rfl, by simp [f2]⟩)
    have hfit : fits ((List.range (n - a)).map fun i => nI (a + 1 + i)).length = true := fits_of (by simp; omega)
    have hadd : dAdd (.list (acc.map abD)) (.list ((List.range (n - a)).map fun i => abD (a, a + 1 + i))) = .ok (.list ((acc ++ strA n a).map abD)) := by
      rw [add_l (by simp; omega), List.map_append]
      unfold strA
      rw [List.map_map]
      rfl
    generalize ((List.range (n - a)).map fun i => nI (a + 1 + i)) = RG at *
    generalize ((List.range (n - a)).map fun i => abD (a, a + 1 + i)) = RG2 at *
    unfold p1__law_all_stretches
    simp [b1, b2, e1, e2, hfit, hlc, hadd]⟩)
  rw [hff, List.nil_append] at hlp
  have hb : bigB (n : Int) = true := bigB_of (by omega) (by omega)
  have hlp : forL (tgName 2) p1__law_all_stretches ((List.range n).map nI) [.va (nI n), .va (.list []), .no, .no] = .nx [.va (nI n), .va (.list ((strsN n).map abD)), .no, .no] := hlp
  unfold f__law_all_stretches
  simp [f0, hb, rngD_nat, hlp]
theorem stretch_ok {n a b : Nat} (h1 : a < b) (h2 : b ≤ n) : g_look_stretch [nI n, nI a, nI b] = .ok .none := by
  refine fn_nx (ρ := [.va (nI n), .va (nI a), .va (nI b)]) rfl ?_
  unfold f_look_stretch
  have e1 : inB (nI a) 0 ((n : Int) - 1) = true := by simp [inB]; omega
  have e2 : inB (nI b) ((a : Int) + 1) n = true := by simp [inB]; omega
  have w1 := within_eq (nI a) 0 ((n : Int) - 1) rfl
  have w2 := within_eq (nI b) ((a : Int) + 1) n rfl
  rw [e1] at w1
  rw [e2] at w2
  simp [w1, w2]
theorem sumI_split (h : List Int) {a b : Nat} (h1 : a ≤ b) : sumI h a b = sumI h 0 b - sumI h 0 a := by
  unfold sumI
  simp only [List.drop_zero, Nat.sub_zero]
  have : h.take b = h.take a ++ (h.drop a).take (b - a) := by
    rw [show b = a + (b - a) by omega, List.take_add]
    simp
  rw [this, List.sum_append]
  omega
/-! ### a book of a hidden row is true -/
theorem drawn_tru (l : List Nat) (most : Nat) : GB.Tru (bookL l most false) := ⟨fun v => sumI (hidI l 40 (bookN l most)) 0 v, fun t ht => by
  obtain ⟨k, _, rfl⟩ := List.mem_map.1 ht
  unfold bookT
  simp only [Bool.false_and, if_neg (show ¬ (false = true) by simp), Int.add_zero]
  exact (sumI_split _ (by omega)).symm⟩
/-! ### Notes: what their methods come to -/
abbrev nst (n : Nat) (ts : List Tl) (cs bs : List PyData) : NSt := ⟨nI n, tsD ts, cs, bs⟩
theorem fits1 : fits 1 = true := by decide
theorem fits2 : fits 2 = true := by decide
theorem fits3 : fits 3 = true := by decide
section
variable {A : Ad} {n : Nat} {ts : List Tl} {cs bs : List PyData}
theorem nbook_eq : g_Notes_book A (nst n ts cs bs) [] = .ok (bkD n ts) := by
  refine fr_ok rfl ?_
  unfold f_Notes_book
  simp [fits2]
  rfl
theorem nlen_eq : g_Notes_len A (nst n ts cs bs) [] = .ok (nI ts.length) := by
  refine fr_ok rfl ?_
  unfold f_Notes_len
  simp [dLen]
theorem nlenG_eq (h : ts.length ≤ 1000) : lenG g_Notes_len A (nst n ts cs bs) = .ok (nI ts.length) := by
  unfold lenG
  rw [nlen_eq]
  have : (decide (0 ≤ ((ts.length : Nat) : Int)) && decide (((ts.length : Nat) : Int) < 1000000)) = true := by simp; omega
  dsimp only
  rw [if_pos this]
theorem nopen_eq (h : BkOk n ts) : g_Notes_open_lots A (nst n ts cs bs) [] = .ok (.int (((GB.heads n (GB.marksB n ts)).length : Nat) - 1 : Int)) := by
  refine fr_ok rfl ?_
  have hl := lots_of_eq h
  rw [heads_lots h] at hl
  unfold f_Notes_open_lots
  simp [nbook_eq, hl, dLen]
theorem nnote_eq {w : Str} (h1 : cs.length ≤ 1000) (h2 : bs.length ≤ 1000) : g_Notes_note A (nst n ts cs bs) [.str w] = .ok .none (nst n ts (cs ++ [.str w]) (bs ++ [tsD ts])) := by
  refine fm_nx rfl ?_
  have f1 : fits (cs.length + 1) = true := fits_of (by omega)
  have f2 : fits (bs.length + 1) = true := fits_of (by omega)
  unfold f_Notes_note
  simp [f1, f2]
theorem tlB_iff {t : Tl} : tellB n (tlD t) = true ↔ t.1 < t.2.1 ∧ t.2.1 ≤ n ∧ -9999 ≤ t.2.2 ∧ t.2.2 ≤ 9999 := by
  simp [tlD, tellB, inB]
  omega
theorem ntell_no {t : Tl} (h : tellB n (tlD t) = false) : g_Notes_tell A (nst n ts cs bs) [nI t.1, nI t.2.1, .int t.2.2] = .ex (.ref C_BadNumber) none (nst n ts cs bs) := by
  refine fm_ex rfl ?_
  have e := tell_eq n (tlD t) rfl
  rw [h] at e
  unfold tlD at e
  unfold f_Notes_tell
  simp [fits3, e]
theorem ntell_eq {t : Tl} (hb : BkOk n ts) (h : tellB n (tlD t) = true) (hl : ts.length < 24) (h1 : cs.length ≤ 1000) (h2 : bs.length ≤ 1000) : g_Notes_tell A (nst n ts cs bs) [nI t.1, nI t.2.1, .int t.2.2] =
    if GB.hasK (GB.wlk ts t.1) t.2.1 && !decide ((GB.getK (GB.wlk ts t.1) t.2.1).2 = t.2.2) then .ex (.ref C_NotTrue) none (nst n ts cs bs) else .ok (.bool (GB.hasK (GB.wlk ts t.1) t.2.1)) (nst n (ts ++ [t]) (cs ++ [.str "tell"]) (bs ++ [tsD ts])) := by
  have hi := tlB_iff.1 h
  have e := tell_eq n (tlD t) rfl
  rw [h] at e
  unfold tlD at e
  have hw := walked_eq hb (show t.1 ≤ n by omega)
  have hn := nnote_eq (A := A) (n := n) (ts := ts) (w := "tell") h1 h2
  have h24 : ¬ ((ts.length : Int) = 24) := by omega
  have hin := in_fd (GB.wlk ts t.1) t.2.1
  have hf : fits (ts.length + 1) = true := fits_of (by omega)
  have hd : dAdd (tsD ts) (.tuple [.tuple [nI t.1, nI t.2.1, .int t.2.2]]) = .ok (tsD (ts ++ [t])) := by
    show (if fits ((ts.map tlD).length + 1) = true then Re.ok (PyData.tuple (ts.map tlD ++ [tlD t])) else Re.st) = _
    rw [List.length_map, hf, if_pos rfl, tsD, List.map_append]
    rfl
  by_cases hk : GB.hasK (GB.wlk ts t.1) t.2.1 = true
  · have ha := at_fd hk
    rw [hk] at hin ⊢
    by_cases hs : (GB.getK (GB.wlk ts t.1) t.2.1).2 = t.2.2
    · rw [decide_eq_true hs]
      refine fm_rt rfl ?_
      have hv : dSubs (valD (GB.getK (GB.wlk ts t.1) t.2.1)) (.int 1) = .ok (.int t.2.2) := by rw [← hs]; rfl
      unfold f_Notes_tell
      simp [fits3, e, dLen, h24, nbook_eq, hw, hin, hn, fits1, hd, ha, hv]
    · rw [decide_eq_false hs]
      refine fm_ex rfl ?_
      have hv : dSubs (valD (GB.getK (GB.wlk ts t.1) t.2.1)) (.int 1) = .ok (.int (GB.getK (GB.wlk ts t.1) t.2.1).2) := rfl
      unfold f_Notes_tell
      simp [fits3, e, dLen, h24, nbook_eq, hw, hin, hn, fits1, hd, ha, hv, hs]
  · have hk : GB.hasK (GB.wlk ts t.1) t.2.1 = false := by simpa using hk
    rw [hk] at hin ⊢
    refine fm_rt rfl ?_
    unfold f_Notes_tell
    simp [fits3, e, dLen, h24, nbook_eq, hw, hin, hn, fits1, hd]
theorem nforget_no {k : Nat} (h : ts.length ≤ k) : g_Notes_forget A (nst n ts cs bs) [nI k] = .ex (.ref C_BadNumber) none (nst n ts cs bs) := by
  refine fm_ex rfl ?_
  have w := within_eq (nI k) 0 ((ts.length : Int) - 1) rfl
  rw [show inB (nI k) 0 ((ts.length : Int) - 1) = false by simp [inB]; omega] at w
  unfold f_Notes_forget
  simp [dLen, w]
theorem nforget_eq {k : Nat} (h : k < ts.length) (hl : ts.length ≤ 100) (h1 : cs.length ≤ 1000) (h2 : bs.length ≤ 1000) : g_Notes_forget A (nst n ts cs bs) [nI k] = .ok (tlD (ts.getD k (0, 0, 0))) (nst n (ts.take k ++ ts.drop (k + 1)) (cs ++ [.str "forget"]) (bs ++ [tsD ts])) := by
  refine fm_rt rfl ?_
  have w := within_eq (nI k) 0 ((ts.length : Int) - 1) rfl
  rw [show inB (nI k) 0 ((ts.length : Int) - 1) = true by simp [inB]; omega] at w
  have hn := nnote_eq (A := A) (n := n) (ts := ts) (w := "forget") h1 h2
  have ha : dSubs (tsD ts) (nI k) = .ok (tlD (ts.getD k (0, 0, 0))) := q_atT (by rw [List.getElem?_map, List.getD_eq_getElem?_getD, List.getElem?_eq_getElem h]; rfl)
  have hc : dAdd (.tuple (cutD (ts.map tlD) none (some (k : Int)))) (.tuple (cutD (ts.map tlD) (some ((k : Int) + 1)) none)) = .ok (tsD (ts.take k ++ ts.drop (k + 1))) := by
    have e1 : ((k : Int) + 1) = ((k + 1 : Nat) : Int) := by omega
    rw [e1, cut_to, cut_from]
    show (if fits (((ts.map tlD).take k).length + ((ts.map tlD).drop (k + 1)).length) = true then Re.ok (PyData.tuple ((ts.map tlD).take k ++ (ts.map tlD).drop (k + 1))) else Re.st) = _
    rw [if_pos (fits_of (by simp; omega)), ← List.map_take, ← List.map_drop, ← List.map_append]
  unfold f_Notes_forget
  simp [dLen, w, hn, ha, dSlice, hc]
theorem nback_no : g_Notes_back A (nst n ts [] bs) [] = .ex (.ref C_Nothing) none (nst n ts [] bs) := by
  refine fm_ex rfl ?_
  unfold f_Notes_back
  simp [truth]
theorem nback_eq {us : List Tl} {w : PyData} : g_Notes_back A (nst n ts (cs ++ [w]) (bs ++ [tsD us])) [] = .ok w (nst n us cs bs) := by
  refine fm_rt rfl ?_
  unfold f_Notes_back
  simp [truth]
theorem ncomes_bad : g_Notes_comes_to A (nst n ts cs bs) [.int 0, .int ((n : Int) + 1)] = .ex (.ref C_BadStretch) none (nst n ts cs bs) := by
  refine fm_ex rfl ?_
  have e : g_look_stretch [nI n, .int 0, .int ((n : Int) + 1)] = .ex (.ref C_BadStretch) none := by
    have w1 := within_eq (.int 0) 0 ((n : Int) - 1) rfl
    have w2 := within_eq (.int ((n : Int) + 1)) 1 n rfl
    rw [show inB (.int ((n : Int) + 1)) 1 n = false by simp [inB]; omega] at w2
    refine fn_ex (ρ := [.va (nI n), .va (.int 0), .va (.int ((n : Int) + 1))]) rfl ?_
    unfold f_look_stretch
    cases hh : inB (.int 0) 0 ((n : Int) - 1) <;> rw [hh] at w1 <;> simp [w1, w2]
  unfold f_Notes_comes_to
  simp [e]
theorem ncomes_eq {a b : Nat} (hb : BkOk n ts) (h1 : a < b) (h2 : b ≤ n) : g_Notes_comes_to A (nst n ts cs bs) [nI a, nI b] = if GB.hasK (GB.wlk ts a) b then .ok (.int (GB.getK (GB.wlk ts a) b).2) (nst n ts cs bs) else .ex (.ref C_NotSure) none (nst n ts cs bs) := by
  have e := stretch_ok h1 h2
  have hw := walked_eq hb (show a ≤ n by omega)
  have hin := nin_fd (GB.wlk ts a) b
  by_cases hk : GB.hasK (GB.wlk ts a) b = true
  · have ha := at_fd hk
    rw [hk] at hin ⊢
    refine fm_rt rfl ?_
    have hv : dSubs (valD (GB.getK (GB.wlk ts a) b)) (.int 1) = .ok (.int (GB.getK (GB.wlk ts a) b).2) := rfl
    unfold f_Notes_comes_to
    simp [e, nbook_eq, hw, hin, ha, hv]
  · have hk : GB.hasK (GB.wlk ts a) b = false := by simpa using hk
    rw [hk] at hin ⊢
    refine fm_ex rfl ?_
    unfold f_Notes_comes_to
    simp [e, nbook_eq, hw, hin]
end
/-! ### what is told of a call -/
def tryS (hs : List HDM) : SM → SM
  | .ex (.ref c) p ρ' => tryM cT c p ρ' hs
  | .ex _ _ _ => .st
  | .nw _ => .st
  | r => r
theorem q_mTry {fb : En → SM} {hs : List HDM} {ρ : En} : mTry cT fb hs ρ = tryS hs (fb ρ) := by
  unfold mTry tryS
  rfl
theorem tryS_rt {hs : List HDM} {d : PyData} {ρ : En} : tryS hs (.rt d ρ) = .rt d ρ := rfl
theorem tryS_ex {hs : List HDM} {c : Addr} {p : Option PyData} {ρ : En} : tryS hs (.ex (.ref c) p ρ) = tryM cT c p ρ hs := rfl
section
variable {A : Ad} {st st' : NSt} {x y z d : PyData}
theorem told0_ok (h : g_Notes_tell A st [x, y, z] = .ok d st') : g__law_note_told A st [.int 0, x, y, z] = .ok (.list [d]) st' := by
  refine fm_rt rfl ?_
  unfold f__law_note_told
  rw [q_mTry]
  simp [h, tryS_rt]
theorem told0_no (h : g_Notes_tell A st [x, y, z] = .ex (.ref C_BadNumber) none st') : g__law_note_told A st [.int 0, x, y, z] = .ok (.str "number") st' := by
  refine fm_rt rfl ?_
  unfold f__law_note_told
  rw [q_mTry]
  simp [h, tryS_ex, tryM, cT, SM.calm]
theorem told0_not (h : g_Notes_tell A st [x, y, z] = .ex (.ref C_NotTrue) none st') : g__law_note_told A st [.int 0, x, y, z] = .ok (.str "true") st' := by
  refine fm_rt rfl ?_
  unfold f__law_note_told
  rw [q_mTry]
  simp [h, tryS_ex, tryM, cT, SM.calm, SM.off, hRetM, hStr, hCond]
theorem told1_ok (h : g_Notes_forget A st [x] = .ok d st') : g__law_note_told A st [.int 1, x, y, z] = .ok d st' := by
  refine fm_rt rfl ?_
  unfold f__law_note_told
  rw [q_mTry]
  simp [h, tryS_rt]
theorem told1_no (h : g_Notes_forget A st [x] = .ex (.ref C_BadNumber) none st') : g__law_note_told A st [.int 1, x, y, z] = .ok (.str "number") st' := by
  refine fm_rt rfl ?_
  unfold f__law_note_told
  rw [q_mTry]
  simp [h, tryS_ex, tryM, cT, SM.calm]
theorem told2_ok (h : g_Notes_back A st [] = .ok d st') : g__law_note_told A st [.int 2, x, y, z] = .ok d st' := by
  refine fm_rt rfl ?_
  unfold f__law_note_told
  rw [q_mTry]
  simp [h, tryS_rt]
theorem told2_no (h : g_Notes_back A st [] = .ex (.ref C_Nothing) none st') : g__law_note_told A st [.int 2, x, y, z] = .ok (.str "nothing") st' := by
  refine fm_rt rfl ?_
  unfold f__law_note_told
  rw [q_mTry]
  simp [h, tryS_ex, tryM, cT, SM.calm, SM.off, hRetM, hStr, hCond]
theorem told3_ok (h : g_Notes_comes_to A st [x, y] = .ok d st') : g__law_note_told A st [.int 3, x, y, z] = .ok d st' := by
  refine fm_rt rfl ?_
  unfold f__law_note_told
  rw [q_mTry]
  simp [h, tryS_rt]
theorem told3_no (h : g_Notes_comes_to A st [x, y] = .ex (.ref C_NotSure) none st') : g__law_note_told A st [.int 3, x, y, z] = .ok (.str "open") st' := by
  refine fm_rt rfl ?_
  unfold f__law_note_told
  rw [q_mTry]
  simp [h, tryS_ex, tryM, cT, SM.calm]
theorem told3_bad (h : g_Notes_comes_to A st [x, y] = .ex (.ref C_BadStretch) none st') : g__law_note_told A st [.int 3, x, y, z] = .ok (.str "stretch") st' := by
  refine fm_rt rfl ?_
  unfold f__law_note_told
  rw [q_mTry]
  simp [h, tryS_ex, tryM, cT, SM.calm]
end
/-! ### texts -/
abbrev tl (x : Str) : List Nat := x.cps.toList
theorem str_ext {x y : Str} (h : tl x = tl y) : x = y := by
  obtain ⟨⟨a⟩⟩ := x
  obtain ⟨⟨b⟩⟩ := y
  have h : a = b := h
  rw [h]
theorem len_tl (x : Str) : x.length = (tl x).length := rfl
theorem tl_app (a b : Str) : tl (a ++ b) = tl a ++ tl b := by
  show (a.cps ++ b.cps).toList = _
  rw [Array.toList_append]
theorem okT_iff (x : Str) : PyData.strOk x = true ↔ ∀ c ∈ tl x, c < 0x110000 := by
  unfold PyData.strOk
  rw [Array.all_eq_true_iff_forall_mem]
  constructor
  · intro h c hc
    have := h c (Array.mem_toList_iff.1 hc)
    simpa using this
  · intro h c hc
    have := h c (Array.mem_toList_iff.2 hc)
    simpa using this
theorem seq {x y : Str} (hx : PyData.strOk x = true) (hy : PyData.strOk y = true) : dEq (.str x) (.str y) = .ok (.bool (decide (x = y))) := by
  unfold dEq
  rw [show shp 8 (.str x) = true from hx, show shp 8 (.str y) = true from hy]
  show Re.ok (PyData.bool (PyData.eqv (.str x) (.str y))) = _
  congr 2
theorem sne {x y : Str} (hx : PyData.strOk x = true) (hy : PyData.strOk y = true) : dNe (.str x) (.str y) = .ok (.bool (!decide (x = y))) := by
  unfold dNe
  rw [show shp 8 (.str x) = true from hx, show shp 8 (.str y) = true from hy]
  show Re.ok (PyData.bool (!PyData.eqv (.str x) (.str y))) = _
  congr 2
def txI (i : Int) : Str := Str.ofString (toString i)
theorem txI_nat (n : Nat) : tl (txI (n : Int)) = TL.numL n := TL.tl_num n
theorem ofS_app (a b : String) : tl (Str.ofString (a ++ b)) = tl (Str.ofString a) ++ tl (Str.ofString b) := by
  rw [Str.ofString_eq_toList, Str.ofString_eq_toList, Str.ofString_eq_toList]
  show (a ++ b).toList.map Char.toNat = a.toList.map Char.toNat ++ b.toList.map Char.toNat
  rw [String.toList_append, List.map_append]
theorem txI_neg (n : Nat) (h : 0 < n) : tl (txI (-(n : Int))) = 45 :: TL.numL n := by
  unfold txI
  rw [toString_neg (by omega), ofS_app, show (0 : Int) - -(n : Int) = (n : Int) by omega]
  rw [show tl (Str.ofString (toString (n : Int))) = TL.numL n from TL.tl_num n]
  rfl
theorem txI_mem {i : Int} {c : Nat} (h : c ∈ tl (txI i)) : c = 45 ∨ (48 ≤ c ∧ c ≤ 57) := by
  rcases Int.lt_or_le i 0 with q | q
  · obtain ⟨n, rfl⟩ : ∃ n : Nat, i = -(n : Int) := ⟨i.natAbs, by omega⟩
    rw [txI_neg n (by omega)] at h
    rcases List.mem_cons.1 h with h | h
    · exact .inl h
    · exact .inr (TL.numL_digits n c h)
  · obtain ⟨n, rfl⟩ : ∃ n : Nat, i = (n : Int) := ⟨i.natAbs, by omega⟩
    rw [txI_nat] at h
    exact .inr (TL.numL_digits n c h)
theorem txI_ok (i : Int) : PyData.strOk (txI i) = true := (okT_iff _).2 fun c hc => by
  have := txI_mem hc
  omega
theorem txI_len {i : Int} (h : i.natAbs < 10000) : (txI i).length ≤ 5 := by
  rw [len_tl]
  rcases Int.lt_or_le i 0 with q | q
  · obtain ⟨n, rfl⟩ : ∃ n : Nat, i = -(n : Int) := ⟨i.natAbs, by omega⟩
    rw [txI_neg n (by omega), List.length_cons]
    have := TL.numL_len (n := n) (k := 4) (by decide) (by omega)
    omega
  · obtain ⟨n, rfl⟩ : ∃ n : Nat, i = (n : Int) := ⟨i.natAbs, by omega⟩
    rw [txI_nat]
    have := TL.numL_len (n := n) (k := 4) (by decide) (by omega)
    omega
theorem fmt_eq {v : Int} (hv : v.natAbs < 10000) : dFmt (.int v) = .ok (.str (txI v)) := by
  show (if decide (v.natAbs.log2 < 1920) = true then Re.ok (PyData.str (txI v)) else .st) = _
  rw [if_pos]
  rw [decide_eq_true_eq]
  by_cases z : v.natAbs = 0
  · rw [z]; decide
  · rw [Nat.log2_lt z]
    exact Nat.lt_of_lt_of_le hv (Nat.le_trans (show 10000 ≤ 2 ^ 14 by decide) (Nat.pow_le_pow_right (by decide) (by decide)))
theorem strI_eq {v : Int} (hv : v.natAbs < 10000) : gStrI [.int v] = .ok (.str (txI v)) := fmt_eq hv
theorem len_app (a b : Str) : (a ++ b).length = a.length + b.length := by
  rw [len_tl, tl_app, List.length_append, ← len_tl, ← len_tl]
theorem emp_tl : tl Str.empty = [] := rfl
theorem js_cons {f : En → Re PyData} {fs : List (En → Re PyData)} {acc y : Str} {ρ : En} (h : f ρ = .ok (.str y)) (hf : fits (acc ++ y).length = true) : jsD (f :: fs) acc ρ = jsD fs (acc ++ y) ρ := by
  show ((f ρ).bind fun d => match d with
    | .str y => if fits (acc ++ y).length = true then jsD fs (acc ++ y) ρ else .st
    | _ => .st) = _
  rw [h]
  exact if_pos hf
theorem strsOf_map : ∀ ys : List Str, strsOf (ys.map PyData.str) = some ys
  | [] => rfl
  | y :: ys => by
    show (strsOf (ys.map PyData.str)).map (y :: ·) = _
    rw [strsOf_map ys]
    rfl
theorem sum_le : ∀ (ys : List Str), (∀ y ∈ ys, y.length ≤ 100) → (ys.map (·.length)).sum ≤ 100 * ys.length
  | [], _ => by simp
  | y :: ys, h => by
    have := sum_le ys (fun z hz => h z (by simp [hz]))
    have := h y (by simp)
    simp
    omega
theorem join_tl (y : Str) : ∀ (L : List Str), (∀ p ∈ L, PyData.strOk p = true) → PyData.strOk y = true → PyData.strOk (Str.join y L) = true
  | [], _, _ => (okT_iff Str.empty).2 fun c hc => by cases hc
  | [q], h, _ => h q (by simp)
  | q :: r :: L, h, hy => by
    have ih := join_tl y (r :: L) (fun p hp => h p (by simp [hp])) hy
    rw [okT_iff] at ih hy ⊢
    have hq := (okT_iff q).1 (h q (by simp))
    intro c hc
    have e : tl (Str.join y (q :: r :: L)) = tl q ++ tl y ++ tl (Str.join y (r :: L)) := by
      show tl (q ++ y ++ Str.join y (r :: L)) = _
      rw [tl_app, tl_app]
    rw [e] at hc
    simp only [List.mem_append] at hc
    rcases hc with (z | z) | z
    · exact hq c z
    · exact hy c z
    · exact ih c z
theorem add_s {a b : Str} (hl : a.length + b.length ≤ 10000) : dAdd (.str a) (.str b) = .ok (.str (a ++ b)) := by
  show (if fits (a.length + b.length) = true then Re.ok (PyData.str (a ++ b)) else .st) = _
  rw [if_pos (fits_of (by omega))]
/-! ### the text of a telling -/
def tlT (t : Tl) : Str := txI (t.1 : Int) ++ "-" ++ txI (t.2.1 : Int) ++ "=" ++ txI t.2.2
theorem dash1 : ("-" : Str).length = 1 := by decide +kernel
theorem same1 : ("=" : Str).length = 1 := by decide +kernel
theorem emp_app (a : Str) : Str.empty ++ a = a := str_ext (by rw [tl_app, emp_tl, List.nil_append])
section
variable {t : Tl}
theorem tlT_len (h1 : t.1 ≤ 100) (h2 : t.2.1 ≤ 100) (h3 : t.2.2.natAbs < 10000) : (tlT t).length ≤ 20 := by
  have := txI_len (i := (t.1 : Int)) (by omega)
  have := txI_len (i := (t.2.1 : Int)) (by omega)
  have := txI_len h3
  unfold tlT
  rw [len_app, len_app, len_app, len_app, dash1, same1]
  omega
theorem app_ok {a b : Str} (ha : PyData.strOk a = true) (hb : PyData.strOk b = true) : PyData.strOk (a ++ b) = true := (okT_iff _).2 fun c hc => by
  rw [tl_app] at hc
  rcases List.mem_append.1 hc with z | z
  · exact (okT_iff a).1 ha c z
  · exact (okT_iff b).1 hb c z
theorem tlT_ok : PyData.strOk (tlT t) = true := app_ok (app_ok (app_ok (app_ok (txI_ok _) (by decide +kernel)) (txI_ok _)) (by decide +kernel)) (txI_ok _)
/-- f"{a}-{b}={m}" -/
theorem js_tl (h1 : t.1 ≤ 100) (h2 : t.2.1 ≤ 100) (h3 : t.2.2.natAbs < 10000) {f g k : En → Re PyData} {ρ : En} (hf : f ρ = .ok (nI t.1)) (hg : g ρ = .ok (nI t.2.1)) (hk : k ρ = .ok (.int t.2.2)) : jsD [DL.e1 dFmt f, eC (.str "-"), DL.e1 dFmt g, eC (.str "="), DL.e1 dFmt k] Str.empty ρ = .ok (.str (tlT t)) := by
  have l1 := txI_len (i := (t.1 : Int)) (by omega)
  have l2 := txI_len (i := (t.2.1 : Int)) (by omega)
  have l3 := txI_len h3
  have e1 : DL.e1 dFmt f ρ = .ok (.str (txI (t.1 : Int))) := by rw [q_e1, hf, Re.bind_ok, fmt_eq (by omega)]
  have e2 : DL.e1 dFmt g ρ = .ok (.str (txI (t.2.1 : Int))) := by rw [q_e1, hg, Re.bind_ok, fmt_eq (by omega)]
  have e3 : DL.e1 dFmt k ρ = .ok (.str (txI t.2.2)) := by rw [q_e1, hk, Re.bind_ok, fmt_eq h3]
  rw [js_cons e1 (fits_of (by rw [emp_app]; omega)), emp_app, js_cons (y := "-") rfl (fits_of (by rw [len_app, dash1]; omega)), js_cons e2 (fits_of (by rw [len_app, len_app, dash1]; omega)), js_cons (y := "=") rfl (fits_of (by rw [len_app, len_app, len_app, dash1, same1]; omega)), js_cons e3 (fits_of (by rw [len_app, len_app, len_app, len_app, dash1, same1]; omega))]
  rfl
end
theorem sp1 : (" " : Str).length = 1 := by decide +kernel
theorem join_sp {ys : List Str} (h : ∀ y ∈ ys, y.length ≤ 100) (hl : ys.length ≤ 100) : dJoin " " (.list (ys.map .str)) = .ok (.str (Txt.join " " ys)) := by
  show (match strsOf (ys.map PyData.str) with
    | some ys => if decide ((List.map (fun y : Str => y.length) ys).sum + ys.length * (" " : Str).length ≤ 1000000) = true then Re.ok (PyData.str (Txt.join " " ys)) else .st
    | none => .st) = _
  rw [strsOf_map]
  dsimp only
  rw [if_pos]
  rw [decide_eq_true_eq, sp1]
  have := sum_le ys h
  omega
theorem join_spOk {ys : List Str} (h : ∀ y ∈ ys, PyData.strOk y = true) : PyData.strOk (Txt.join " " ys) = true := by
  rw [TL.join_eq]
  exact join_tl _ ys h (by decide +kernel)
/-- str(notes) -/
theorem nstr_eq {A : Ad} {n : Nat} {ts : List Tl} {cs bs : List PyData} (hb : BkOk n ts) : g_Notes_str A (nst n ts cs bs) [] = .ok (.str (Txt.join " " (ts.map tlT))) := by
  refine fr_ok rfl ?_
  have hb2 := hb.n2
  have hl := hb.len
  have hlc := lc_map1 (t := tgTup [tgName 1, tgName 2, tgName 3]) (fe := jsD [DL.e1 dFmt (eVar 1), eC (.str "-"), DL.e1 dFmt (eVar 2), eC (.str "="), DL.e1 dFmt (eVar 3)] Str.empty) (ρ := [.ob C_Notes A (nst n ts cs bs), .no, .no, .no]) tlD (fun t => .str (tlT t)) ts (fun t ht => ⟨[(1, nI t.1), (2, nI t.2.1), (3, .int t.2.2)], rfl, by
    have := hb.tel t ht
    exact js_tl (by omega) (by omega) (by omega) rfl rfl rfl⟩)
  have hf : fits ts.length = true := fits_of (by omega)
  have hj := join_sp (ys := ts.map tlT) (fun y hy => by
    obtain ⟨t, ht, rfl⟩ := List.mem_map.1 hy
    have := hb.tel t ht
    have := tlT_len (t := t) (by omega) (by omega) (by omega)
    omega) (by rw [List.length_map]; omega)
  rw [List.map_map] at hj
  unfold f_Notes_str
  simp [eM1, hf]
  rw [hlc]
  simp
  rw [show (ts.map fun t => PyData.str (tlT t)) = ts.map (PyData.str ∘ tlT) from rfl, hj]
  rfl
/-! ### one telling behind another -/
theorem tlD_shp (t : Tl) : shp 6 (tlD t) = true := rfl
theorem tsD_shp (ts : List Tl) : shp 7 (tsD ts) = true := by
  show (ts.map tlD).all (shp 6) = true
  rw [List.all_eq_true]
  intro d hd
  obtain ⟨t, _, rfl⟩ := List.mem_map.1 hd
  rfl
theorem tsD_shp8 (ts : List Tl) : shp 8 (tsD ts) = true := by
  show (ts.map tlD).all (shp 7) = true
  rw [List.all_eq_true]
  intro d hd
  obtain ⟨t, _, rfl⟩ := List.mem_map.1 hd
  rfl
theorem bkD_shp (n : Nat) (ts : List Tl) : shp 8 (bkD n ts) = true := by
  show (true && (shp 7 (tsD ts) && true)) = true
  rw [tsD_shp]
  rfl
theorem ne_self {d : PyData} (h : shp 8 d = true) : dNe d d = .ok (.bool false) := by
  unfold dNe
  rw [h]
  simp [PySem.SeqAt.eqv_refl d (shp_ok 8 d h).1]
theorem has_mark {n : Nat} {ts : List Tl} (hb : BkOk n ts) {a b : Nat} (ha : a ≤ n) (hb2 : b ≤ n) : GB.hasK (GB.wlk ts a) b = decide ((GB.marksB n ts).getD a 0 = (GB.marksB n ts).getD b 0) := by
  have hn := hb.n2
  rw [Bool.eq_iff_iff, decide_eq_true_iff, (GB.marksB_ok hb.fit).iff ha hb2]
  exact GB.wlk_has hb.fit ha (by omega)
theorem addL {xs ys : List PyData} (h : xs.length + ys.length ≤ 10000) : dAdd (.list xs) (.list ys) = .ok (.list (xs ++ ys)) := by
  show (if fits (xs.length + ys.length) = true then Re.ok (PyData.list (xs ++ ys)) else Re.st) = _
  rw [if_pos (fits_of (by omega))]
def cK (k : Nat) : List PyData := List.replicate k (.str "tell")
def bK (ts : List Tl) (k : Nat) : List PyData := (List.range k).map fun i => tsD (ts.take i)
abbrev sK (n : Nat) (ts : List Tl) (k : Nat) : NSt := nst n (ts.take k) (cK k) (bK ts k)
def tAt (ts : List Tl) (k : Nat) : Tl := ts.getD k (0, 0, 0)
def flg (ts : List Tl) (i : Nat) : Bool := GB.hasK (GB.wlk (ts.take i) (tAt ts i).1) (tAt ts i).2.1
def flgs (ts : List Tl) (k : Nat) : List Bool := (List.range k).map (flg ts)
section
variable {n : Nat} {ts us : List Tl} {A : Ad}
theorem cK_succ (k : Nat) : cK (k + 1) = cK k ++ [.str "tell"] := by unfold cK; rw [List.replicate_succ']
theorem bK_succ (k : Nat) : bK ts (k + 1) = bK ts k ++ [tsD (ts.take k)] := by unfold bK; rw [List.range_succ, List.map_append]; rfl
theorem flgs_succ (k : Nat) : flgs ts (k + 1) = flgs ts k ++ [flg ts k] := by unfold flgs; rw [List.range_succ, List.map_append]; rfl
theorem flgs_len (k : Nat) : (flgs ts k).length = k := by simp [flgs]
theorem at_some {k : Nat} (h : k < ts.length) : ts[k]? = some (tAt ts k) := by
  unfold tAt
  rw [List.getD_eq_getElem?_getD, List.getElem?_eq_getElem h]
  rfl
theorem at_mem {k : Nat} (h : k < ts.length) : tAt ts k ∈ ts := List.mem_of_getElem? (at_some h)
theorem take_one {k : Nat} (h : k < ts.length) : ts.take (k + 1) = ts.take k ++ [tAt ts k] := by
  rw [List.take_add_one, at_some h]
  rfl
theorem BkOk.take (hb : BkOk n ts) (k : Nat) : BkOk n (ts.take k) := ⟨hb.n1, hb.n2, by have := hb.len; rw [List.length_take]; omega, fun t ht => hb.tel t (List.mem_of_mem_take ht)⟩
theorem tell_step (hb : BkOk n ts) (T : GB.Tru ts) (hl : ts.length ≤ 20) {k : Nat} (h : k < ts.length) : g_Notes_tell A (sK n ts k) [nI (tAt ts k).1, nI (tAt ts k).2.1, .int (tAt ts k).2.2] = .ok (.bool (flg ts k)) (sK n ts (k + 1)) := by
  have hm := at_mem h
  have hi := hb.tel _ hm
  have hn := hb.n2
  have e := ntell_eq (A := A) (cs := cK k) (bs := bK ts k) (hb.take k) (tlB_iff.2 hi) (by rw [List.length_take]; omega) (by simp [cK]; omega) (by simp [bK]; omega)
  rw [← take_one h, ← cK_succ, ← bK_succ, if_neg] at e
  · exact e
  · intro z
    rw [Bool.and_eq_true] at z
    obtain ⟨f, hf⟩ := T
    have c := (GB.wlk_get (hb.take k).fit (show (tAt ts k).1 ≤ n by omega) (by omega) z.1).1
    have l := GB.Ch.level (fun t ht => hf t (List.mem_of_mem_take ht)) c
    have := hf _ hm
    have z2 := z.2
    rw [decide_eq_true (show _ = (tAt ts k).2.2 by omega)] at z2
    cases z2
theorem cnt_heads (hb : BkOk n ts) : ∀ k, k ≤ ts.length → (flgs ts k).count false + (GB.heads n (GB.marksB n (ts.take k))).length = n + 1
  | 0, _ => by
    have : GB.heads n (GB.marksB n (ts.take 0)) = List.range (n + 1) := by
      show (List.range (n + 1)).filter (fun m => decide ((List.range (n + 1)).getD m 0 = m)) = _
      rw [List.filter_eq_self]
      intro m hm
      have := List.mem_range.1 hm
      rw [List.getD_eq_getElem?_getD, List.getElem?_range this]
      simp
    rw [this]
    simp [flgs]
  | k + 1, h => by
    have ih := cnt_heads hb k (by omega)
    have hm := at_mem (show k < ts.length by omega)
    have hi := hb.tel _ hm
    have em : GB.marksB n (ts.take (k + 1)) = GB.mk1 (GB.marksB n (ts.take k)) (tAt ts k) := by
      unfold GB.marksB
      rw [take_one (by omega), List.foldl_append]
      rfl
    have hk := has_mark (hb.take k) (show (tAt ts k).1 ≤ n by omega) (show (tAt ts k).2.1 ≤ n by omega)
    rw [em, flgs_succ, List.count_append]
    cases hfl : flg ts k with
    | true =>
      unfold flg at hfl
      rw [hk, decide_eq_true_iff] at hfl
      have : GB.mk1 (GB.marksB n (ts.take k)) (tAt ts k) = GB.marksB n (ts.take k) := by
        unfold GB.mk1
        rw [hfl]
        refine (List.map_congr_left fun m _ => ?_).trans (List.map_id _)
        show (if m = max _ _ then min _ _ else m) = m
        split
        · omega
        · rfl
      rw [this]
      simpa using ih
    | false =>
      unfold flg at hfl
      rw [hk, decide_eq_false_iff_not] at hfl
      have := GB.heads_join (t := tAt ts k) (GB.marksB_ok (hb.take k).fit).mo (by omega) (by omega) hfl
      simp
      omega
/-! the other way round -/
theorem marks_le (hb : BkOk n ts) (hc : BkOk n us) (h : ∀ t, t ∈ ts → t ∈ us) {u : Nat} (hu : u ≤ n) : (GB.marksB n us).getD u 0 ≤ (GB.marksB n ts).getD u 0 := by
  have M := GB.marksB_ok hb.fit
  have N := GB.marksB_ok hc.fit
  have l := M.le u hu
  have c := (M.iff (show (GB.marksB n ts).getD u 0 ≤ n by omega) hu).1 (M.fix u hu)
  have d := (N.iff (show (GB.marksB n ts).getD u 0 ≤ n by omega) hu).2 (c.sub h)
  rw [← d]
  exact N.le _ (by omega)
theorem heads_same (hb : BkOk n ts) (hc : BkOk n us) (h : ∀ t, t ∈ ts ↔ t ∈ us) : GB.heads n (GB.marksB n ts) = GB.heads n (GB.marksB n us) := by
  unfold GB.heads
  refine List.filter_congr fun m hm => ?_
  have hm := List.mem_range.1 hm
  have h1 := marks_le hb hc (fun t => (h t).1) (show m ≤ n by omega)
  have h2 := marks_le hc hb (fun t => (h t).2) (show m ≤ n by omega)
  rw [Nat.le_antisymm h2 h1]
theorem BkOk.rev (hb : BkOk n ts) : BkOk n ts.reverse := ⟨hb.n1, hb.n2, by rw [List.length_reverse]; exact hb.len, fun t ht => hb.tel t (List.mem_reverse.1 ht)⟩
theorem tru_rev (T : GB.Tru ts) : GB.Tru ts.reverse := by
  obtain ⟨f, hf⟩ := T
  exact ⟨f, fun t ht => hf t (List.mem_reverse.1 ht)⟩
theorem has_same (hb : BkOk n ts) (hc : BkOk n us) (h : ∀ t, t ∈ ts ↔ t ∈ us) {a b : Nat} (ha : a ≤ n) : GB.hasK (GB.wlk ts a) b = GB.hasK (GB.wlk us a) b := by
  have hn := hb.n2
  rw [Bool.eq_iff_iff, GB.wlk_has hb.fit ha (by omega), GB.wlk_has hc.fit ha (by omega)]
  exact ⟨fun c => c.sub fun t => (h t).1, fun c => c.sub fun t => (h t).2⟩
theorem at_rev {k : Nat} (h : k < ts.length) : tAt ts.reverse k = tAt ts (ts.length - 1 - k) := by
  unfold tAt
  rw [List.getD_eq_getElem?_getD, List.getD_eq_getElem?_getD, List.getElem?_reverse h]
/-! sums -/
def cmD (f : Nat → Int) (b : Bool) (u v : Nat) : PyData := if b then .int (f v - f u) else .str "open"
theorem cmD_shp (f : Nat → Int) (b : Bool) (u v : Nat) : shp 8 (cmD f b u v) = true := by
  unfold cmD
  split
  · rfl
  · decide +kernel
theorem told3_f {cs bs : List PyData} {f : Nat → Int} (hb : BkOk n ts) (hf : ∀ t ∈ ts, f t.2.1 - f t.1 = t.2.2) {a b : Nat} (h1 : a < b) (h2 : b ≤ n) : g__law_note_told A (nst n ts cs bs) [.int 3, nI a, nI b, .none] = .ok (cmD f (GB.hasK (GB.wlk ts a) b) a b) (nst n ts cs bs) := by
  have hc := ncomes_eq (A := A) (cs := cs) (bs := bs) hb h1 h2
  have hn := hb.n2
  cases e : GB.hasK (GB.wlk ts a) b with
  | true =>
    rw [e, if_pos rfl, GB.Ch.level hf (GB.wlk_get hb.fit (show a ≤ n by omega) (by omega) e).1] at hc
    exact told3_ok hc
  | false =>
    rw [e, if_neg (by decide)] at hc
    exact told3_no hc
end
/-! ### == of two Notes -/
theorem q_eEqOO {fe : En → Re PyData} {C : Addr} {neg : Bool} {i j : Nat} {ρ : En} {A B : Ad} {st st' : NSt} {b : Bool} (h1 : ρ[i]? = some (.ob C A st)) (h2 : ρ[j]? = some (.ob C B st')) (h : gEqO fe C A st B st' = .ok b) : eEqOO fe C neg i j ρ = .ok (.bool (if neg then !b else b)) := by
  unfold eEqOO
  rw [q_obAt, q_obAt, h1, h2, q_obS, q_obS]
  dsimp only
  rw [h]
  rfl
theorem q_eEqOD {C : Addr} {i : Nat} {f : En → Re PyData} {ρ : En} {A : Ad} {st : NSt} {d : PyData} (h1 : ρ[i]? = some (.ob C A st)) (h : f ρ = .ok d) (hd : (∃ ds, d = .tuple ds) ∨ ∃ x, d = .str x) : eEqOD C i f ρ = .ok (.bool false) := by
  unfold eEqOD
  rw [q_obAt, h1, q_obS]
  dsimp only
  rw [h]
  rcases hd with ⟨ds, rfl⟩ | ⟨x, rfl⟩ <;> rfl
theorem q_eEqON {fe : En → Re PyData} {C : Addr} {i : Nat} {f : En → Re PyData} {ρ : En} {A : Ad} {st : NSt} {n : Int} {b : Bool} (h1 : ρ[i]? = some (.ob C A st)) (hf : f ρ = .ok (.int n)) (hn : n16 n = true) (h : gEqO fe C ad0 st ad0 (nst0 n) = .ok b) : eEqON fe C i f ρ = .ok (.bool b) := by
  unfold eEqON
  rw [q_obAt, h1, q_obS]
  dsimp only
  rw [hf]
  show (if n16 n = true then _ else _) = _
  rw [if_pos hn, h]
  rfl
theorem q_eEqNN {fe : En → Re PyData} {C : Addr} {f g : En → Re PyData} {ρ : En} {n m : Int} {b : Bool} (hf : f ρ = .ok (.int n)) (hg : g ρ = .ok (.int m)) (hn : n16 n = true) (hm : n16 m = true) (h : gEqO fe C ad0 (nst0 n) ad0 (nst0 m) = .ok b) : eEqNN fe C f g ρ = .ok (.bool b) := by
  unfold eEqNN
  rw [hf]
  show (if n16 n = true then _ else _) = _
  rw [if_pos hn, hg]
  show (if n16 m = true then _ else _) = _
  rw [if_pos hm, h]
  rfl
section
variable {A B : Ad} {n m : Nat} {ts us : List Tl} {cs bs cs' bs' : List PyData}
theorem gEq_bk : gEqO f_Notes_eq C_Notes A (nst n ts cs bs) B (nst m us cs' bs') = .ok (PyData.eqv (bkD n ts) (bkD m us)) := by
  have e : f_Notes_eq [.ob C_Notes A (nst n ts cs bs), .ob C_Notes B (nst m us cs' bs')] = .ok (.bool (PyData.eqv (bkD n ts) (bkD m us))) := by
    unfold f_Notes_eq
    simp [nbook_eq, dEq, bkD_shp]
  unfold gEqO
  rw [e]
theorem eqv_bk : PyData.eqv (bkD n ts) (bkD m us) = (((n : Int) == (m : Int)) && PyData.eqv (tsD ts) (tsD us)) := by
  simp [bkD, PyData.eqv, PyData.eqvAll]
theorem eqv_self : PyData.eqv (bkD n ts) (bkD n ts) = true := PySem.SeqAt.eqv_refl _ (shp_ok 8 _ (bkD_shp n ts)).1
theorem eqv_other (h : ts.length ≠ us.length) : PyData.eqv (tsD ts) (tsD us) = false := by
  show PyData.eqv (.tuple (ts.map tlD)) (.tuple (us.map tlD)) = false
  rw [PyData.eqv]
  exact PySem.SeqAt.eqvAll_other_length (by simpa using h)
end
/-! ### x[k] = .. , a new twin, two new Notes -/
theorem q_mStL {i : Nat} {fx : En → Re PyData} {fa : En → ME PyData} {ρ ρ1 : En} {d : PyData} {ds : List PyData} {z : Int} {j : Nat} (ha : fa ρ = .ok d ρ1) (hi : ρ1[i]? = some (.ow (.list ds))) (hx : fx ρ1 = .ok (.int z)) (hj : ixN ds.length z = some j) : mStL i fx fa ρ = .nx (ρ1.set i (.ow (.list (ds.set j d)))) := by
  unfold mStL
  simp only [ha, SM.of_ok, hi, hx, ofRe_ok, hj]
theorem q_mTwin {C : Addr} {i j : Nat} {ρ : En} {A : Ad} {n : Nat} {ts : List Tl} {cs bs : List PyData} (h : ρ[i]? = some (.ob C A (nst n ts cs bs))) (hn : n16 n = true) (hj : j < ρ.length) : mTwin C i j ρ = .nw fun B => .nx (ρ.set j (.ob C B (nst n ts [] []))) := by
  unfold mTwin
  rw [q_obAt, h, q_obS]
  dsimp only
  rw [if_pos (by rw [hn, decide_eq_true hj]; rfl)]
/-! ### the tellings are told, both ways -/
abbrev E1 (S B : PyData) (n : Nat) (TS : PyData) (A A' : Ad) (s1 s2 : NSt) (F G : List PyData) (x7 x8 x9 x10 : Sl) : En := [.va S, .va B, .va (nI n), .va TS, .ob C_Notes A s1, .ob C_Notes A' s2, .ow (.list [.list F, .list G]), x7, x8, x9, x10, .no, .no]
def bls (ts : List Tl) (k : Nat) : List PyData := (flgs ts k).map .bool
theorem bls_succ (ts : List Tl) (k : Nat) : bls ts (k + 1) = bls ts k ++ [.bool (flg ts k)] := by unfold bls; rw [flgs_succ, List.map_append]; rfl
theorem bls_len (ts : List Tl) (k : Nat) : (bls ts k).length = k := by simp [bls, flgs_len]
section
variable {S B TS : PyData} {n : Nat} {A A' : Ad} {s1 s2 s1' s2' : NSt} {F G : List PyData} {x7 : Sl} {a b c d : PyData}
theorem put0 (h : g_Notes_tell A s1 [a, b, c] = .ok d s1') (hF : F.length ≤ 1000) : mStL 6 (eC (.int 0)) (x2 dAdd (xOf (e2 dSubs (eLook 6) (eC (.int 0)))) (xLst1 (xGo C_Notes 4 g_Notes_tell (aCons (eVar 8) (aCons (eVar 9) (aCons (eVar 10) aNil)))))) (E1 S B n TS A A' s1 s2 F G x7 (.va a) (.va b) (.va c)) = .nx (E1 S B n TS A A' s1' s2 (F ++ [d]) G x7 (.va a) (.va b) (.va c)) := by
  have e0 : dSubs (.list [.list F, .list G]) (.int 0) = .ok (.list F) := rfl
  have ea := addL (xs := F) (ys := [d]) (by simp; omega)
  exact (q_mStL (ρ1 := E1 S B n TS A A' s1' s2 F G x7 (.va a) (.va b) (.va c)) (d := .list (F ++ [d])) (ds := [.list F, .list G]) (z := 0) (j := 0) (by simp [e0, ea, h]) rfl rfl rfl).trans rfl
theorem put1 (h : g_Notes_tell A' s2 [a, b, c] = .ok d s2') (hG : G.length ≤ 1000) : p1_law_3 (E1 S B n TS A A' s1 s2 F G x7 (.va a) (.va b) (.va c)) = .nx (E1 S B n TS A A' s1 s2' F (G ++ [d]) x7 (.va a) (.va b) (.va c)) := by
  have e0 : dSubs (.list [.list F, .list G]) (.int 1) = .ok (.list G) := rfl
  have ea := addL (xs := G) (ys := [d]) (by simp; omega)
  exact (q_mStL (ρ1 := E1 S B n TS A A' s1 s2' F G x7 (.va a) (.va b) (.va c)) (d := .list (G ++ [d])) (ds := [.list F, .list G]) (z := 1) (j := 1) (by simp [e0, ea, h]) rfl rfl rfl).trans rfl
end
theorem tg3 (t : Tl) : tgTup [tgName 8, tgName 9, tgName 10] (tlD t) = some [(8, nI t.1), (9, nI t.2.1), (10, .int t.2.2)] := rfl
section
variable {S B : PyData} {n : Nat} {ts : List Tl} {A A' : Ad}
theorem step1 (hb : BkOk n ts) (T : GB.Tru ts) (hl : ts.length ≤ 20) {k : Nat} (hk : k < ts.length) : p1_law (putD (E1 S B n (tsD ts) A A' (sK n ts k) (sK n ts.reverse k) (bls ts k) (bls ts.reverse k) .no .no .no .no) [(7, nI k)]) = .nx (E1 S B n (tsD ts) A A' (sK n ts (k + 1)) (sK n ts.reverse (k + 1)) (bls ts (k + 1)) (bls ts.reverse (k + 1)) .no .no .no .no) := by
  have hkr : k < ts.reverse.length := by rw [List.length_reverse]; exact hk
  have h1 := tell_step (A := A) hb T hl hk
  have h2 := tell_step (A := A') hb.rev (tru_rev T) (by rw [List.length_reverse]; exact hl) hkr
  have a1 : dSubs (tsD ts) (nI k) = .ok (tlD (tAt ts k)) := q_atU (n := k) rfl (at_some hk)
  have a2 : dSubs (tsD ts) (.int ((ts.length : Int) - 1 - k)) = .ok (tlD (tAt ts.reverse k)) := by
    rw [at_rev hk]
    exact q_atU (n := ts.length - 1 - k) (by omega) (at_some (by omega))
  have c1 := put0 (S := S) (B := B) (n := n) (TS := tsD ts) (A' := A') (s2 := sK n ts.reverse k) (F := bls ts k) (G := bls ts.reverse k) (x7 := .va (nI k)) h1 (by rw [bls_len]; omega)
  have c2 := put1 (S := S) (B := B) (n := n) (TS := tsD ts) (A := A) (s1 := sK n ts (k + 1)) (F := bls ts k ++ [.bool (flg ts k)]) (G := bls ts.reverse k) (x7 := .va (nI k)) h2 (by rw [bls_len]; omega)
  have t1 := tg3 (tAt ts k)
  have t2 := tg3 (tAt ts.reverse k)
  have hlen : dLen (tsD ts) = .ok (.int ts.length) := by simp [dLen]
  rw [bls_succ, bls_succ]
  generalize sK n ts k = s1 at *
  generalize sK n ts.reverse k = s2 at *
  generalize sK n ts (k + 1) = s1' at *
  generalize sK n ts.reverse (k + 1) = s2' at *
  generalize bls ts k = F at *
  generalize bls ts.reverse k = G at *
  generalize tAt ts k = p at *
  generalize tAt ts.reverse k = q at *
  have e2 : p1_law_2 (E1 S B n (tsD ts) A A' s1' s2 (F ++ [.bool (flg ts k)]) G (.va (nI k)) (.va (nI p.1)) (.va (nI p.2.1)) (.va (.int p.2.2))) = .nx (E1 S B n (tsD ts) A A' s1' s2' (F ++ [.bool (flg ts k)]) (G ++ [.bool (flg ts.reverse k)]) (.va (nI k)) (.va (nI q.1)) (.va (nI q.2.1)) (.va (.int q.2.2))) := by
    generalize tsD ts = TS at *
    unfold p1_law_2
    simp [hlen, a2, t2, c2]
  have e1 : p1_law_1 (E1 S B n (tsD ts) A A' s1 s2 F G (.va (nI k)) (.va (nI p.1)) (.va (nI p.2.1)) (.va (.int p.2.2))) = .nx (E1 S B n (tsD ts) A A' s1' s2' (F ++ [.bool (flg ts k)]) (G ++ [.bool (flg ts.reverse k)]) (.va (nI k)) (.va (nI q.1)) (.va (nI q.2.1)) (.va (.int q.2.2))) := by
    unfold p1_law_1
    rw [q_mSeq, c1]
    exact e2
  generalize tsD ts = TS at *
  unfold p1_law
  simp [a1, t1, e1]
theorem loop1 (hb : BkOk n ts) (T : GB.Tru ts) (hl : ts.length ≤ 20) : ∀ (j k : Nat), k + j = ts.length → DL.forM (tgName 7) p1_law ((List.range' k j).map fun i => .int (i : Nat)) (E1 S B n (tsD ts) A A' (sK n ts k) (sK n ts.reverse k) (bls ts k) (bls ts.reverse k) .no .no .no .no) = .nx (E1 S B n (tsD ts) A A' (sK n ts ts.length) (sK n ts.reverse ts.length) (bls ts ts.length) (bls ts.reverse ts.length) .no .no .no .no)
  | 0, k, h => by
    have : k = ts.length := by omega
    subst this
    rfl
  | j + 1, k, h => by
    rw [List.range'_succ, List.map_cons, forM_go (d := .int (k : Nat)) rfl (step1 hb T hl (by omega))]
    exact loop1 hb T hl j (k + 1) (by omega)
end
/-! ### what is looked at -/
theorem q_countB {fa fb : En → Re PyData} {ρ : En} {bs : List Bool} {k : Bool} (ha : fa ρ = .ok (.list (bs.map .bool))) (hb : fb ρ = .ok (.bool k)) : eCountB fa fb ρ = .ok (nI (bs.count k)) := by
  unfold eCountB
  rw [ha]
  show (fb ρ).bind (dCountB (.list (bs.map .bool))) = _
  rw [hb]
  show (match boolsOf (bs.map .bool) with
    | some bs => Re.ok (PyData.int (bs.count k : Nat))
    | none => .st) = _
  rw [boolsOf_map]
section
variable {S B TS : PyData} {n : Nat} {A A' A'' : Ad} {ts : List Tl}
theorem look5 {s1 s2 : NSt} {bs bs' : List Bool} {h : Int} (e : bs.count false = bs'.count false) (eo : g_Notes_open_lots A s1 [] = .ok (.int h)) (ec : ((bs.count false : Nat) : Int) = (n : Int) - h) : t5_law (E1 S B n TS A A' s1 s2 (bs.map .bool) (bs'.map .bool) .no .no .no .no) = t6_law (E1 S B n TS A A' s1 s2 (bs.map .bool) (bs'.map .bool) .no .no .no .no) := by
  have c1 := q_countB (fa := e2 dSubs (eLook 6) (eC (.int 0))) (fb := eC (.bool false)) (ρ := E1 S B n TS A A' s1 s2 (bs.map .bool) (bs'.map .bool) .no .no .no .no) (bs := bs) (k := false) rfl rfl
  have c2 := q_countB (fa := e2 dSubs (eLook 6) (eC (.int 1))) (fb := eC (.bool false)) (ρ := E1 S B n TS A A' s1 s2 (bs.map .bool) (bs'.map .bool) .no .no .no .no) (bs := bs') (k := false) rfl rfl
  rw [← e] at c2
  have n1 := ne_self (d := nI (bs.count false)) rfl
  have n2 : dNe (nI (bs.count false)) (.int ((n : Int) - h)) = .ok (.bool false) := by rw [← ec]; exact n1
  unfold t5_law
  simp only [q_mSeq, q_mIf, q_bOf, q_bOr, q_toB, q_e2, c1, c2, Re.bind_ok, n1]
  simp [eo, n2]
end
/-! ### both looked at -/
section
variable {S B TS : PyData} {n : Nat} {A A' A'' : Ad} {ts us : List Tl} {s1 s2 : NSt} {F G cs bs cs' bs' : List PyData}
abbrev E2 (S B : PyData) (n : Nat) (TS : PyData) (A A' A'' : Ad) (s1 s2 s3 : NSt) (F G : List PyData) (x12 : Sl) : En := [.va S, .va B, .va (nI n), .va TS, .ob C_Notes A s1, .ob C_Notes A' s2, .ow (.list [.list F, .list G]), .no, .no, .no, .no, .ob C_Notes A'' s3, x12]
theorem look6 {h : Int} (o1 : g_Notes_open_lots A (nst n ts cs bs) [] = .ok (.int h)) (o2 : g_Notes_open_lots A' (nst n ts.reverse cs' bs') [] = .ok (.int h)) : t6_law (E1 S B n (tsD ts) A A' (nst n ts cs bs) (nst n ts.reverse cs' bs') F G .no .no .no .no) = t7_law (E1 S B n (tsD ts) A A' (nst n ts cs bs) (nst n ts.reverse cs' bs') F G .no .no .no .no) := by
  have e1 := q_eEqOO (neg := false) (i := 4) (j := 5) (ρ := E1 S B n (tsD ts) A A' (nst n ts cs bs) (nst n ts.reverse cs' bs') F G .no .no .no .no) rfl rfl (gEq_bk (A := A) (B := A') (n := n) (m := n) (ts := ts) (us := ts.reverse) (cs := cs) (bs := bs) (cs' := cs') (bs' := bs'))
  rw [eqv_bk] at e1
  have er : dRevT (tsD ts) = .ok (tsD ts.reverse) := by
    show Re.ok (PyData.tuple (ts.map tlD).reverse) = _
    rw [← List.map_reverse]
  have ee : dEq (tsD ts) (tsD ts.reverse) = .ok (.bool (PyData.eqv (tsD ts) (tsD ts.reverse))) := by
    unfold dEq
    rw [tsD_shp8, tsD_shp8]
    rfl
  have n1 := ne_self (d := .bool (PyData.eqv (tsD ts) (tsD ts.reverse))) rfl
  have n2 := ne_self (d := .int h) rfl
  have e1 : eEqOO f_Notes_eq C_Notes false 4 5 (E1 S B n (tsD ts) A A' (nst n ts cs bs) (nst n ts.reverse cs' bs') F G .no .no .no .no) = .ok (.bool (PyData.eqv (tsD ts) (tsD ts.reverse))) := by
    rw [e1]
    simp
  unfold t6_law
  simp only [q_mSeq, q_mIf, q_bOf, q_bOr, q_toB, q_e2, e1]
  simp [o1, o2, n1, n2, er, ee]
theorem loop2 (hb : BkOk n ts) (T : GB.Tru ts) : DL.forM (tgTup [tgName 8, tgName 9]) p2_law ((strsN n).map abD) (E1 S B n TS A A' (nst n ts cs bs) (nst n ts.reverse cs' bs') F G .no .no .no .no) = .nx (E1 S B n TS A A' (nst n ts cs bs) (nst n ts.reverse cs' bs') F G .no .no .no .no) := by
  obtain ⟨f, hf⟩ := T
  refine forM_same abD (strsN n) fun p hp => ⟨[(8, nI p.1), (9, nI p.2)], rfl, ?_⟩
  obtain ⟨p1, p2⟩ := strs_mem.1 hp
  have h1 := told3_f (A := A) (cs := cs) (bs := bs) hb hf p1 p2
  have h2 := told3_f (A := A') (cs := cs') (bs := bs') hb.rev (fun t ht => hf t (List.mem_reverse.1 ht)) p1 p2
  rw [← has_same hb hb.rev (fun t => List.mem_reverse.symm) (show p.1 ≤ n by omega)] at h2
  have ne := ne_self (cmD_shp f (GB.hasK (GB.wlk ts p.1) p.2) p.1 p.2)
  generalize cmD f (GB.hasK (GB.wlk ts p.1) p.2) p.1 p.2 = d at *
  generalize nst n ts cs bs = s1 at *
  generalize nst n ts.reverse cs' bs' = s2 at *
  unfold p2_law
  simp [h1, h2, ne]
theorem look7 (hb : BkOk n ts) (T : GB.Tru ts) : t7_law (E1 S B n TS A A' (nst n ts cs bs) (nst n ts.reverse cs' bs') F G .no .no .no .no) = t8_law (E1 S B n TS A A' (nst n ts cs bs) (nst n ts.reverse cs' bs') F G .no .no .no .no) := by
  have hn := hb.n2
  have ha := allstr_eq (n := n) (by omega)
  have hl := loop2 (S := S) (B := B) (TS := TS) (A := A) (A' := A') (cs := cs) (bs := bs) (cs' := cs') (bs' := bs') (F := F) (G := G) hb T
  generalize nst n ts cs bs = s1 at *
  generalize nst n ts.reverse cs' bs' = s2 at *
  unfold t7_law
  simp [ha, hl]
theorem n16_n (h1 : 1 ≤ n) (h2 : n ≤ 16) : n16 (n : Int) = true := by
  unfold n16
  simp
  omega
theorem mod16 (x : Nat) : dMod (nI x) (.int 16) = .ok (nI (x % 16)) := by
  show (if ((16 : Int) != 0) = true then Re.ok (PyData.int ((x : Int).fmod 16)) else Re.st) = _
  rw [if_pos (by decide), Int.fmod_eq_emod_of_nonneg _ (by omega)]
  rfl
theorem look8 (hb : BkOk n ts) : t8_law (E1 S (bkD n ts) n TS A A' (nst n ts cs bs) s2 F G .no .no .no .no) = t9_law (E1 S (bkD n ts) n TS A A' (nst n ts cs bs) s2 F G .no .no .no .no) := by
  have h1 := hb.n1
  have h2 := hb.n2
  have hst : strG g_Notes_str A (nst n ts cs bs) = .ok (.str (Txt.join " " (ts.map tlT))) := by
    unfold strG
    rw [nstr_eq hb]
  have e1 := q_eEqOD (C := C_Notes) (i := 4) (f := eVar 1) (ρ := E1 S (bkD n ts) n TS A A' (nst n ts cs bs) s2 F G .no .no .no .no) (d := bkD n ts) rfl rfl (.inl ⟨_, rfl⟩)
  have e2 := q_eEqOD (C := C_Notes) (i := 4) (f := eOb C_Notes 4 (strG g_Notes_str)) (ρ := E1 S (bkD n ts) n TS A A' (nst n ts cs bs) s2 F G .no .no .no .no) rfl (by simp [hst]; rfl) (.inr ⟨_, rfl⟩)
  have e3 := q_eEqNN (C := C_Notes) (fe := f_Notes_eq) (f := eVar 2) (g := (DL.e2 dAdd (DL.e2 dMod (eVar 2) (eC (.int 16))) (eC (.int 1)))) (ρ := E1 S (bkD n ts) n TS A A' (nst n ts cs bs) s2 F G .no .no .no .no) (n := n) (m := ((n % 16 + 1 : Nat) : Int)) (b := false) rfl (by simp only [q_e2, q_C]; show ((dMod (nI n) (.int 16)).bind fun a => dAdd a (.int 1)) = _; rw [mod16]; rfl) (n16_n h1 h2) (n16_n (by omega) (by omega)) (by
    have := gEq_bk (A := ad0) (B := ad0) (n := n) (m := n % 16 + 1) (ts := []) (us := []) (cs := []) (bs := []) (cs' := []) (bs' := [])
    rw [eqv_bk] at this
    rw [show (((n : Int) == ((n % 16 + 1 : Nat) : Int))) = false by rw [beq_eq_false_iff_ne]; omega] at this
    exact this)
  unfold t8_law
  simp only [q_mSeq, q_mIf, q_bOf, q_bOr, q_toB, e1, e2, e3]
  simp
end
/-! ### the twin; all taken back -/
section
variable {S B TS : PyData} {n : Nat} {A A' A'' : Ad} {ts us : List Tl} {s1 s2 s3 : NSt} {F G cs bs cs' bs' : List PyData}
theorem no_str : shp 8 (.str "nothing") = true := by decide +kernel
theorem look9 (hb : BkOk n ts) : t9_law (E1 S B n TS A A' (nst n ts cs bs) s2 F G .no .no .no .no) = .nw fun A'' => t10_law (E2 S B n TS A A' A'' (nst n ts cs bs) s2 (nst n ts [] []) F G .no) := by
  unfold t9_law
  rw [q_mSeq, q_mTwin (n := n) (ts := ts) (cs := cs) (bs := bs) rfl (n16_n hb.n1 hb.n2) (by simp)]
  rfl
theorem look10 : t10_law (E2 S B n TS A A' A'' (nst n ts cs bs) s2 (nst n ts [] []) F G .no) = t11_law (E2 S B n TS A A' A'' (nst n ts cs bs) s2 (nst n ts [] []) F G .no) := by
  have e1 := q_eEqOO (neg := true) (i := 11) (j := 4) (ρ := E2 S B n TS A A' A'' (nst n ts cs bs) s2 (nst n ts [] []) F G .no) rfl rfl (gEq_bk (A := A'') (B := A) (n := n) (m := n) (ts := ts) (us := ts) (cs := []) (bs := []) (cs' := cs) (bs' := bs))
  rw [eqv_self] at e1
  have h := told2_no (x := .none) (y := .none) (z := .none) (nback_no (A := A'') (n := n) (ts := ts) (bs := []))
  have ne := ne_self no_str
  unfold t10_law
  simp only [q_mSeq, q_mIf, q_bOrM, q_bOf, q_toB, e1]
  simp [h, ne]
theorem look11 (hb : BkOk n ts) : ∃ s3, t11_law (E2 S B n (tsD ts) A A' A'' (nst n ts cs bs) s2 (nst n ts [] []) F G .no) = t12_law (E2 S B n (tsD ts) A A' A'' (nst n ts cs bs) s2 s3 F G .no) := by
  have hl := hb.len
  have hlen : dLen (tsD ts) = .ok (.int ts.length) := by simp [dLen]
  by_cases h0 : 0 < ts.length
  · refine ⟨nst n (ts.take 0 ++ ts.drop (0 + 1)) ([] ++ [.str "forget"]) ([] ++ [tsD ts]), ?_⟩
    have hf := nforget_eq (A := A'') (n := n) (ts := ts) (cs := []) (bs := []) h0 (by omega) (by simp) (by simp)
    have ha : dSubs (tsD ts) (.int 0) = .ok (tlD (ts.getD 0 (0, 0, 0))) := q_atU (n := 0) rfl (at_some h0)
    have n1 := ne_self (d := tlD (ts.getD 0 (0, 0, 0))) rfl
    have eq1 := q_eEqOO (neg := false) (i := 11) (j := 4) (ρ := E2 S B n (tsD ts) A A' A'' (nst n ts cs bs) s2 (nst n (ts.take 0 ++ ts.drop (0 + 1)) ([] ++ [.str "forget"]) ([] ++ [tsD ts])) F G .no) rfl rfl (gEq_bk (A := A'') (B := A) (n := n) (m := n) (ts := ts.take 0 ++ ts.drop (0 + 1)) (us := ts) (cs := [] ++ [.str "forget"]) (bs := [] ++ [tsD ts]) (cs' := cs) (bs' := bs))
    rw [eqv_bk, eqv_other (by simp; omega), Bool.and_false] at eq1
    have hg := nlenG_eq (A := A) (n := n) (ts := ts) (cs := cs) (bs := bs) (by omega)
    have n2 := ne_self (d := nI ts.length) rfl
    have hf : g_Notes_forget A'' (nst n ts [] []) [.int 0] = _ := hf
    generalize tlD (ts.getD 0 (0, 0, 0)) = d at *
    generalize nst n (ts.take 0 ++ ts.drop (0 + 1)) ([] ++ [.str "forget"]) ([] ++ [tsD ts]) = s3 at *
    generalize nst n ts cs bs = s1 at *
    generalize nst n ts [] [] = s0 at *
    generalize tsD ts = TS at *
    have hx : x2 dNe (xGo C_Notes 11 g_Notes_forget (aCons (eC (.int 0)) aNil)) (xOf (e2 dSubs (eLook 3) (eC (.int 0)))) (E2 S B n TS A A' A'' s1 s2 s0 F G .no) = .ok (.bool false) (E2 S B n TS A A' A'' s1 s2 s3 F G .no) := by simp [hf, ha, n1]
    have hy : toB (eEqOO f_Notes_eq C_Notes false 11 4) (E2 S B n TS A A' A'' s1 s2 s3 F G .no) = .ok false := by rw [q_toB, eq1]; rfl
    have hz : toB (e2 dNe (eOb C_Notes 4 (lenG g_Notes_len)) (DL.e1 dLen (eLook 3))) (E2 S B n TS A A' A'' s1 s2 s3 F G .no) = .ok false := by simp [hg, hlen, n2]
    have hc : bOf (toB (e2 dGt (DL.e1 dLen (eLook 3)) (eC (.int 0)))) (E2 S B n TS A A' A'' s1 s2 s0 F G .no) = .ok true (E2 S B n TS A A' A'' s1 s2 s0 F G .no) := by simp [hlen, h0]
    unfold t11_law
    rw [q_mSeq, q_mIf, hc, SM.of_ok, if_pos rfl]
    simp only [q_mIf, q_bOrM, q_toBM, hx, ME.bind_ok]
    have hb0 : asB (.bool false) = .ok false := rfl
    simp only [hb0, ofRe_ok, ME.bind_ok, q_bOf, hy, hz]
    rfl
  · refine ⟨nst n ts [] [], ?_⟩
    generalize nst n ts cs bs = s1 at *
    generalize nst n ts [] [] = s0 at *
    generalize tsD ts = TS at *
    have hc : bOf (toB (e2 dGt (DL.e1 dLen (eLook 3)) (eC (.int 0)))) (E2 S B n TS A A' A'' s1 s2 s0 F G .no) = .ok false (E2 S B n TS A A' A'' s1 s2 s0 F G .no) := by simp [hlen, h0]
    unfold t11_law
    rw [q_mSeq, q_mIf, hc, SM.of_ok, if_neg (by decide)]
    rfl
theorem back_step {k : Nat} : g_Notes_back A (sK n ts (k + 1)) [] = .ok (.str "tell") (sK n ts k) := by
  show g_Notes_back A (nst n (ts.take (k + 1)) (cK (k + 1)) (bK ts (k + 1))) [] = _
  rw [cK_succ, bK_succ]
  exact nback_eq
theorem loop3 : ∀ (xs : List Tl), DL.forM (tgName 12) p3_law (xs.map tlD) (E2 S B n TS A A' A'' (sK n ts xs.length) s2 s3 F G .no) = .nx (E2 S B n TS A A' A'' (sK n ts 0) s2 s3 F G .no)
  | [] => rfl
  | x :: xs => by
    have h := back_step (A := A) (n := n) (ts := ts) (k := xs.length)
    have e : p3_law (putD (E2 S B n TS A A' A'' (sK n ts (x :: xs).length) s2 s3 F G .no) [(12, tlD x)]) = .nx (E2 S B n TS A A' A'' (sK n ts xs.length) s2 s3 F G .no) := by
      rw [List.length_cons]
      generalize sK n ts (xs.length + 1) = s1 at *
      generalize sK n ts xs.length = s1' at *
      unfold p3_law
      simp [h]
    rw [List.map_cons, forM_go (d := tlD x) rfl e]
    exact loop3 xs
theorem look12 : t12_law (E2 S B n (tsD ts) A A' A'' (sK n ts ts.length) s2 s3 F G .no) = t13_law (E2 S B n (tsD ts) A A' A'' (nst n [] [] []) s2 s3 F G .no) := by
  have hl := loop3 (S := S) (B := B) (TS := tsD ts) (n := n) (A := A) (A' := A') (A'' := A'') (ts := ts) (s2 := s2) (s3 := s3) (F := F) (G := G) ts
  have h0 : sK n ts 0 = nst n [] [] [] := rfl
  rw [h0] at hl
  generalize sK n ts ts.length = s1 at *
  unfold t12_law
  simp [hl]
theorem look13 (h1 : 1 ≤ n) (h2 : n ≤ 16) : ∃ ρ, t13_law (E2 S B n TS A A' A'' (nst n [] [] []) s2 s3 F G .no) = .rt (.bool true) ρ := by
  have e1 := q_eEqON (fe := f_Notes_eq) (C := C_Notes) (i := 4) (f := eVar 2) (ρ := E2 S B n TS A A' A'' (nst n [] [] []) s2 s3 F G .no) (n := n) rfl rfl (n16_n h1 h2) (gEq_bk (A := ad0) (B := ad0) (n := n) (m := n) (ts := []) (us := []) (cs := []) (bs := []) (cs' := []) (bs' := []))
  rw [eqv_self] at e1
  have h := told2_no (x := .none) (y := .none) (z := .none) (nback_no (A := A) (n := n) (ts := []) (bs := []))
  have he : dEq (.str "nothing") (.str "nothing") = .ok (.bool true) := seq (by decide +kernel) (by decide +kernel)
  generalize nst n [] [] [] = s1 at *
  refine ⟨E2 S B n TS A A' A'' s1 s2 s3 F G .no, ?_⟩
  unfold t13_law
  rw [q_mRet]
  show SM.of ((ofRe (eEqON f_Notes_eq C_Notes 4 (eVar 2) _) _).bind _) _ = _
  rw [e1, ofRe_ok, ME.bind_ok]
  simp [h, he]
end
/-! ### the law -/
theorem law_true (ns : List Int) (hl : ns.length ≤ 63) : g_law [scrD ns] = .ok (.bool true) := by
  refine fnT_ok rfl ?_
  have hbook : g__law_book [scrD ns, .int 2, .int 9, .bool false] = .ok (bkD (bookN (rowN ns 2) 9) (bookL (rowN ns 2) 9 false)) := book_eq ns 2 9 false (by omega) (by omega)
  have hb := drawn_ok (rowN ns 2) 9 false (by omega) (by omega)
  have T := drawn_tru (rowN ns 2) 9
  have hlen : (bookL (rowN ns 2) 9 false).length ≤ 20 := by
    unfold bookL
    rw [List.length_map, List.length_range]
    omega
  generalize bookN (rowN ns 2) 9 = n at *
  generalize bookL (rowN ns 2) 9 false = ts at *
  have n1 := hb.n1
  have n2 := hb.n2
  have tg : tgTup [tgName 2, tgName 3] (bkD n ts) = some [(2, nI n), (3, tsD ts)] := rfl
  unfold f_law
  simp [hbook]
  unfold t1_law
  simp [tg]
  unfold t2_law
  have hnew : ∀ ρ : En, ρ = [.va (scrD ns), .va (bkD n ts), .va (nI n), .va (tsD ts), .no, .no, .no, .no, .no, .no, .no, .no, .no] → mNew2 C_Notes 4 5 (eVar 2) (eVar 2) ρ = .nw fun A => .nw fun A' => .nx [.va (scrD ns), .va (bkD n ts), .va (nI n), .va (tsD ts), .ob C_Notes A (nst n [] [] []), .ob C_Notes A' (nst n [] [] []), .no, .no, .no, .no, .no, .no, .no] := fun ρ e => by
    subst e
    unfold mNew2
    show (if _ then _ else _) = _
    rw [if_pos (by simp; omega)]
    rfl
  rw [q_mSeq, hnew _ rfl]
  show ∀ A A', TrueAll (t3_law [.va (scrD ns), .va (bkD n ts), .va (nI n), .va (tsD ts), .ob C_Notes A (nst n [] [] []), .ob C_Notes A' (nst n [] [] []), .no, .no, .no, .no, .no, .no, .no])
  intro A A'
  have f0 : fits 0 = true := by decide
  have e3 : t3_law [.va (scrD ns), .va (bkD n ts), .va (nI n), .va (tsD ts), .ob C_Notes A (nst n [] [] []), .ob C_Notes A' (nst n [] [] []), .no, .no, .no, .no, .no, .no, .no] = t4_law (E1 (scrD ns) (bkD n ts) n (tsD ts) A A' (sK n ts 0) (sK n ts.reverse 0) (bls ts 0) (bls ts.reverse 0) .no .no .no .no) := by
    unfold t3_law
    simp [f0, fits2]
    rfl
  rw [e3]
  have hloop := loop1 (S := scrD ns) (B := bkD n ts) (A := A) (A' := A') hb T hlen ts.length 0 (by omega)
  have hr : rngD 0 ((ts.length : Int)).toNat = (List.range' 0 ts.length).map fun i => .int (i : Nat) := by
    unfold rngD
    rw [Int.toNat_natCast, List.range_eq_range']
    refine List.map_congr_left fun i _ => ?_
    rw [Int.zero_add]
  have hbig : bigB (ts.length : Int) = true := bigB_of (by omega) (by omega)
  have hdl : dLen (tsD ts) = .ok (.int ts.length) := by simp [dLen]
  have e4 : t4_law (E1 (scrD ns) (bkD n ts) n (tsD ts) A A' (sK n ts 0) (sK n ts.reverse 0) (bls ts 0) (bls ts.reverse 0) .no .no .no .no) = t5_law (E1 (scrD ns) (bkD n ts) n (tsD ts) A A' (sK n ts ts.length) (sK n ts.reverse ts.length) (bls ts ts.length) (bls ts.reverse ts.length) .no .no .no .no) := by
    generalize sK n ts 0 = a1 at *
    generalize sK n ts.reverse 0 = a2 at *
    generalize sK n ts ts.length = a3 at *
    generalize sK n ts.reverse ts.length = a4 at *
    unfold t4_law
    simp only [q_mSeq, q_mFgt, q_mFor, q_rng1, q_cons, q_nil, q_e1, q_look, List.getElem?_cons_succ, List.getElem?_cons_zero, Re.bind_ok, hdl]
    rw [if_pos hbig, ofRe_ok, SM.of_ok, hr, hloop]
    rfl
  rw [e4]
  have k1 : sK n ts ts.length = nst n ts (cK ts.length) (bK ts ts.length) := by
    unfold sK
    rw [List.take_length]
  have k2 : sK n ts.reverse ts.length = nst n ts.reverse (cK ts.length) (bK ts.reverse ts.length) := by
    unfold sK
    rw [show ts.reverse.take ts.length = ts.reverse by rw [← List.length_reverse, List.take_length]]
  have c1 := cnt_heads hb ts.length (Nat.le_refl _)
  have c2 := cnt_heads hb.rev ts.length (by rw [List.length_reverse]; exact Nat.le_refl _)
  rw [List.take_length] at c1
  rw [show ts.reverse.take ts.length = ts.reverse by rw [← List.length_reverse, List.take_length], ← heads_same hb hb.rev (fun t => List.mem_reverse.symm)] at c2
  have o1 := nopen_eq (A := A) (cs := cK ts.length) (bs := bK ts ts.length) hb
  have o2 := nopen_eq (A := A') (cs := cK ts.length) (bs := bK ts.reverse ts.length) hb.rev
  rw [← heads_same hb hb.rev (fun t => List.mem_reverse.symm)] at o2
  have look12' := fun (A'' : Ad) (s3 : NSt) => look12 (S := scrD ns) (B := bkD n ts) (n := n) (A := A) (A' := A') (A'' := A'') (ts := ts) (s2 := sK n ts.reverse ts.length) (s3 := s3) (F := bls ts ts.length) (G := bls ts.reverse ts.length)
  rw [k1, k2] at *
  unfold bls at *
  rw [look5 (h := ((GB.heads n (GB.marksB n ts)).length : Nat) - 1) (by omega) o1 (by omega), look6 o1 o2, look7 hb T, look8 hb, look9 hb]
  show ∀ A'', TrueAll (t10_law _)
  intro A''
  rw [look10]
  obtain ⟨s3, e11⟩ := look11 (S := scrD ns) (B := bkD n ts) (A := A) (A' := A') (A'' := A'') (cs := cK ts.length) (bs := bK ts ts.length) (s2 := nst n ts.reverse (cK ts.length) (bK ts.reverse ts.length)) (F := (flgs ts ts.length).map .bool) (G := (flgs ts.reverse ts.length).map .bool) hb
  rw [e11, look12' A'' s3]
  obtain ⟨ρ, e13⟩ := look13 (S := scrD ns) (B := bkD n ts) (TS := tsD ts) (A := A) (A' := A') (A'' := A'') (s2 := nst n ts.reverse (cK ts.length) (bK ts.reverse ts.length)) (s3 := s3) (F := (flgs ts ts.length).map .bool) (G := (flgs ts.reverse ts.length).map .bool) n1 n2
  rw [e13]
  trivial

end LAW
open PySem PySem.W PyProof.Rows
set_option maxHeartbeats 0 in
theorem PySem.Challenge.cw_stretchchains_k27_whole_two_notes_holds : PySem.Challenge.rw_stretchchains_k27_whole_two_notes.Holds := by
  w_on; o_law; k_head; (case hw => w_witness2)
  k_fill
  refine L2.walk_of (l := PySem.Challenge.rw_stretchchains_k27_whole_two_notes) (n := 63) (k := 5) (x := "script") (CX := fun w => L2.CX PySem.Challenge.rw_stretchchains_k27_whole_two_notes.prog w) (sp := fun w => DL.DSp 1 LAW.g_law) rfl (by decide) rfl ⟨rfl, by decide, by decide⟩ (fun w h Y => PySem.W.kIn_of Y) ?F ?S (fun w H s e s' z => DL.noX z)
  case F =>
    intro w mg fa h KX G hmg
    refine' LAW.all_mk KX G hmg ?a0 ?l0 ?c0 ?k0 ?n0 ?a1 ?l1 ?c1 ?k1 ?n1 ?a2 ?l2 ?c2 ?k2 ?n2 ?a3 ?l3 ?c3 ?k3 ?n3 ?a4 ?l4 ?c4 ?k4 ?a5 ?l5 ?c5 ?k5 ?n5 ?a6 ?l6 ?c6 ?k6 ?n6 ?a7 ?l7 ?c7 ?k7 ?n7 ?a8 ?l8 ?c8 ?k8 ?a9 ?l9 ?c9 ?k9 ?a10 ?l10 ?c10 ?k10 ?a11 ?l11 ?c11 ?k11 ?n11 ?a12 ?l12 ?c12 ?k12 ?n12 ?a13 ?l13 ?c13 ?k13 ?a14 ?l14 ?c14 ?k14 ?n14 ?a15 ?l15 ?c15 ?k15 ?n15 ?a16 ?l16 ?c16 ?k16 ?a17 ?l17 ?c17 ?k17 ?a18 ?l18 ?c18 ?k18 ?a19 ?l19 ?c19 ?k19 ?a20 ?l20 ?c20 ?k20 ?a21 ?l21 ?c21 ?k21 ?a22 ?l22 ?c22 ?k22 ?n22 ?a23 ?l23 ?c23 ?k23 ?a24 ?l24 ?c24 ?k24 ?z_len ?z_range ?z_isinstance ?z_int ?z_bool ?z_tuple ?z_list ?z_str ?z_sum ?z_enumerate ?z_sorted ?v_MOST_ROW ?v_MOST_TOLD ?v_MOST_SUM ?m_StretchError ?m_BadStretch ?m_NotSure ?m_NotTrue ?m_BadNumber ?m_Nothing ?hg_BadStretch ?hk_BadStretch ?ha_BadStretch ?hn_BadStretch ?ht_BadStretch ?hm_BadStretch ?hg_NotSure ?hk_NotSure ?ha_NotSure ?hm_NotSure ?hg_NotTrue ?hk_NotTrue ?ha_NotTrue ?hm_NotTrue ?hg_BadNumber ?hk_BadNumber ?ha_BadNumber ?hm_BadNumber ?hg_Nothing ?hk_Nothing ?ha_Nothing ?hm_Nothing ?su_0 ?su_1 ?su_2 ?su_3 ?su_4 ?su_5 ?su_6 ?su_7 ?su_8 ?su_9 ?su_10 ?su_11 ?su_12 ?su_13 ?su_14 ?su_15 ?su_16 ?su_17 ?su_18 ?su_19 ?su_20 ?su_21 ?su_22 ?su_23 ?su_24 ?su_25 ?su_26 ?su_27 ?su_28 ?su_29 ?s_StretchError ?t_StretchError ?d_StretchError ?s_BadStretch ?t_BadStretch ?d_BadStretch ?s_NotSure ?t_NotSure ?d_NotSure ?s_NotTrue ?t_NotTrue ?d_NotTrue ?s_BadNumber ?t_BadNumber ?d_BadNumber ?s_Nothing ?t_Nothing ?d_Nothing ?m_Notes ?n_pg ?n_hd ?n_po ?n_sa ?n_many ?n_told ?n_calls ?n_before ?n_mk ?n_kc ?e_ne ?e_mo ?e_ca ?e_cn ?e_ct ?e_ty ?e_st ?e_ss ?x_BadStretch ?q_BadStretch ?x_NotSure ?q_NotSure ?x_NotTrue ?q_NotTrue ?x_BadNumber ?q_BadNumber ?x_Nothing ?q_Nothing
    (case a0 => k_is)
    (case l0 => k_is)
    (case c0 => k_is)
    (case k0 => k_is)
    (case n0 => k_is)
    (case a1 => k_is)
    (case l1 => k_is)
    (case c1 => k_is)
    (case k1 => k_is)
    (case n1 => k_is)
    (case a2 => k_is)
    (case l2 => k_is)
    (case c2 => k_is)
    (case k2 => k_is)
    (case n2 => k_is)
    (case a3 => k_is)
    (case l3 => k_is)
    (case c3 => k_is)
    (case k3 => k_is)
    (case n3 => k_is)
    (case a4 => k_is)
    (case l4 => k_is)
    (case c4 => k_is)
    (case k4 => k_is)
    (case a5 => k_is)
    (case l5 => k_is)
    (case c5 => k_is)
    (case k5 => k_is)
    (case n5 => k_is)
    (case a6 => k_is)
    (case l6 => k_is)
    (case c6 => k_is)
    (case k6 => k_is)
    (case n6 => k_is)
    (case a7 => k_is)
    (case l7 => k_is)
    (case c7 => k_is)
    (case k7 => k_is)
    (case n7 => k_is)
    (case a8 => k_is)
    (case l8 => k_is)
    (case c8 => k_is)
    (case k8 => k_is)
    (case a9 => k_is)
    (case l9 => k_is)
    (case c9 => k_is)
    (case k9 => k_is)
    (case a10 => k_is)
    (case l10 => k_is)
    (case c10 => k_is)
    (case k10 => k_is)
    (case a11 => k_is)
    (case l11 => k_is)
    (case c11 => k_is)
    (case k11 => k_is)
    (case n11 => k_is)
    (case a12 => k_is)
    (case l12 => k_is)
    (case c12 => k_is)
    (case k12 => k_is)
    (case n12 => k_is)
    (case a13 => k_is)
    (case l13 => k_is)
    (case c13 => k_is)
    (case k13 => k_is)
    (case a14 => k_is)
    (case l14 => k_is)
    (case c14 => k_is)
    (case k14 => k_is)
    (case n14 => k_is)
    (case a15 => k_is)
    (case l15 => k_is)
    (case c15 => k_is)
    (case k15 => k_is)
    (case n15 => k_is)
    (case a16 => k_is)
    (case l16 => k_is)
    (case c16 => k_is)
    (case k16 => k_is)
    (case a17 => k_is)
    (case l17 => k_is)
    (case c17 => k_is)
    (case k17 => k_is)
    (case a18 => k_is)
    (case l18 => k_is)
    (case c18 => k_is)
    (case k18 => k_is)
    (case a19 => k_is)
    (case l19 => k_is)
    (case c19 => k_is)
    (case k19 => k_is)
    (case a20 => k_is)
    (case l20 => k_is)
    (case c20 => k_is)
    (case k20 => k_is)
    (case a21 => k_is)
    (case l21 => k_is)
    (case c21 => k_is)
    (case k21 => k_is)
    (case a22 => k_is)
    (case l22 => k_is)
    (case c22 => k_is)
    (case k22 => k_is)
    (case n22 => k_is)
    (case a23 => k_is)
    (case l23 => k_is)
    (case c23 => k_is)
    (case k23 => k_is)
    (case a24 => k_is)
    (case l24 => k_is)
    (case c24 => k_is)
    (case k24 => k_is)
    (case z_len => k_is)
    (case z_range => k_is)
    (case z_isinstance => k_is)
    (case z_int => k_is)
    (case z_bool => k_is)
    (case z_tuple => k_is)
    (case z_list => k_is)
    (case z_str => k_is)
    (case z_sum => k_is)
    (case z_enumerate => k_is)
    (case z_sorted => k_is)
    (case v_MOST_ROW => k_is)
    (case v_MOST_TOLD => k_is)
    (case v_MOST_SUM => k_is)
    (case m_StretchError => k_is)
    (case m_BadStretch => k_is)
    (case m_NotSure => k_is)
    (case m_NotTrue => k_is)
    (case m_BadNumber => k_is)
    (case m_Nothing => k_is)
    (case hg_BadStretch => k_is)
    (case hk_BadStretch => k_is)
    (case ha_BadStretch => k_is)
    (case hn_BadStretch => k_is)
    (case ht_BadStretch => k_is)
    (case hm_BadStretch => k_is)
    (case hg_NotSure => k_is)
    (case hk_NotSure => k_is)
    (case ha_NotSure => k_is)
    (case hm_NotSure => k_is)
    (case hg_NotTrue => k_is)
    (case hk_NotTrue => k_is)
    (case ha_NotTrue => k_is)
    (case hm_NotTrue => k_is)
    (case hg_BadNumber => k_is)
    (case hk_BadNumber => k_is)
    (case ha_BadNumber => k_is)
    (case hm_BadNumber => k_is)
    (case hg_Nothing => k_is)
    (case hk_Nothing => k_is)
    (case ha_Nothing => k_is)
    (case hm_Nothing => k_is)
    (case su_0 => k_is)
    (case su_1 => k_is)
    (case su_2 => k_is)
    (case su_3 => k_is)
    (case su_4 => k_is)
    (case su_5 => k_is)
    (case su_6 => k_is)
    (case su_7 => k_is)
    (case su_8 => k_is)
    (case su_9 => k_is)
    (case su_10 => k_is)
    (case su_11 => k_is)
    (case su_12 => k_is)
    (case su_13 => k_is)
    (case su_14 => k_is)
    (case su_15 => k_is)
    (case su_16 => k_is)
    (case su_17 => k_is)
    (case su_18 => k_is)
    (case su_19 => k_is)
    (case su_20 => k_is)
    (case su_21 => k_is)
    (case su_22 => k_is)
    (case su_23 => k_is)
    (case su_24 => k_is)
    (case su_25 => k_is)
    (case su_26 => k_is)
    (case su_27 => k_is)
    (case su_28 => k_is)
    (case su_29 => k_is)
    (case s_StretchError => k_is)
    (case t_StretchError => k_is)
    (case d_StretchError => k_is)
    (case s_BadStretch => k_is)
    (case t_BadStretch => k_is)
    (case d_BadStretch => k_is)
    (case s_NotSure => k_is)
    (case t_NotSure => k_is)
    (case d_NotSure => k_is)
    (case s_NotTrue => k_is)
    (case t_NotTrue => k_is)
    (case d_NotTrue => k_is)
    (case s_BadNumber => k_is)
    (case t_BadNumber => k_is)
    (case d_BadNumber => k_is)
    (case s_Nothing => k_is)
    (case t_Nothing => k_is)
    (case d_Nothing => k_is)
    (case m_Notes => k_is)
    (case n_pg => k_is)
    (case n_hd => k_is)
    (case n_po => k_is)
    (case n_sa => k_is)
    (case n_many => k_is)
    (case n_told => k_is)
    (case n_calls => k_is)
    (case n_before => k_is)
    (case n_mk => k_is)
    (case n_kc => k_is)
    (case e_ne => k_is)
    (case e_mo => k_is)
    (case e_ca => k_is)
    (case e_cn => k_is)
    (case e_ct => k_is)
    (case e_ty => k_is)
    (case e_st => k_is)
    (case e_ss => k_is)
    (case x_BadStretch => k_exc)
    (case q_BadStretch => k_is)
    (case x_NotSure => k_exc)
    (case q_NotSure => k_is)
    (case x_NotTrue => k_exc)
    (case q_NotTrue => k_is)
    (case x_BadNumber => k_exc)
    (case q_BadNumber => k_is)
    (case x_Nothing => k_exc)
    (case q_Nothing => k_is)
  case S =>
    intro w H a ns hl hO hS
    exact DL.law_in hO hS (by rfl) (LAW.law_true ns hl)
