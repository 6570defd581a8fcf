import PyProof.Rows.All
import Wide.All
import OpenK.AllK
import Wide.FinOn
import HandS.ForMost
import HandS.EndBits
import HandS.Exc
import HandS.TryOnly
import HandS.ExcOwn
import HandS.WordsExc
import HandS.CallSlots
import HandS.TryMany
import HandS.ExcIs
import HandS.IsInst
import HandS.Flow
import HandS.Deep
import HandS.NoneIn
import HandS.Wide
import HandS.StrMore
import HandS.TupAny
import HandS.Style
import HandS.Conv
import HandS.SortInts
import HandS.RaiseMore
import HandS.Replace
import HandS.Strs
import PySem.Challenge.RW_freshrooms_k31_cases_read
set_option Elab.async false
set_option linter.all false
set_option maxRecDepth 100000
set_option maxHeartbeats 2000000
set_option autoImplicit false
/-! values without the heap, and how the heap bears them -/
namespace Z
open PySem PySem.Spec PyProof.Rows L2

/-- a value: lst, tup, dic are shared (nobody here changes them); olst, otup, odic bear lists or dicts that are one holder's own -/
inductive W where
  | non | bl (b : Bool) | int (i : Int) | str (s : Str) | ty (n : String)
  | lst (xs : List W) | tup (xs : List W) | dic (ks : List Key) (xs : List W) | pt (xs : List W)
  | klst (xs : List W) | olst (xs : List W) | otup (xs : List W) | odic (ks : List Key) (xs : List W)

def W.isSh : W → Bool
  | .olst _ => false
  | .otup _ => false
  | .odic _ _ => false
  | _ => true

mutual
def fz : W → W
  | .olst xs => .lst (fzs xs)
  | .otup xs => .tup (fzs xs)
  | .odic ks xs => .dic ks xs
  | w => w
def fzs : List W → List W
  | [] => []
  | x :: xs => fz x :: fzs xs
end

/-! no shared list or dict within: own ones, tuples and scalars alone -/
mutual
def clo : W → Bool
  | .olst xs => clos xs
  | .otup xs => clos xs
  | .tup xs => clos xs
  | .pt xs => clos xs
  | .lst _ => false
  | .klst _ => false
  | .dic _ _ => false
  | .odic _ xs => clos xs
  | _ => true
def clos : List W → Bool
  | [] => true
  | x :: xs => clo x && clos xs
end

/-- a tuple that bears no dict of its own -/
def Tn (K : PySem.W.Frag) (H : Hp) (a : Addr) (xs : List V) : Prop := (∃ o, o.dict = none ∧ H a = some (.frz o (.tup xs))) ∨
  ∃ (o : Obj) (its : Array Value) (n : Nat), K.lookup a = some o ∧ o.cls = .type "tuple" ∧ o.dict = none ∧ o.data = .seq its n ∧ its.size ≤ sizeLine ∧ Vals xs its.toList
theorem Tn.sq {K : PySem.W.Frag} {H : Hp} {a : Addr} {xs : List V} (h : Tn K H a xs) : SqT K H a xs := by
  rcases h with ⟨o, _, h⟩ | ⟨o, its, n, h1, h2, _, h3⟩
  · exact .inl (.inr ⟨o, h⟩)
  · exact .inr ⟨o, its, n, h1, h2, h3⟩

mutual
inductive Rp (K : PySem.W.Frag) (Hv H : Hp) : V → W → List Addr → Prop
  | non : Rp K Hv H .non .non []
  | bl (b : Bool) : Rp K Hv H (.bl b) (.bl b) []
  | int (i : Int) : Rp K Hv H (.int i) (.int i) []
  | str (x : Str) : Rp K Hv H (.str x) (.str x) []
  | ty (n : String) : Rp K Hv H (.ty n) (.ty n) []
  | lst {a : Addr} {vs : List V} {ws : List W} : Rd Hv a (.lst vs) → RpA K Hv H vs ws [] → Rp K Hv H (.ref a) (.lst ws) []
  | klst {a : Addr} {vs : List V} {ws : List W} : SqL K Hv a vs → RpA K Hv H vs ws [] → Rp K Hv H (.ref a) (.klst ws) []
  | tup {a : Addr} {vs : List V} {ws : List W} : Tn K Hv a vs → RpA K Hv H vs ws [] → Rp K Hv H (.ref a) (.tup ws) []
  | pt {a : Addr} {vs : List V} {ws : List W} : SqT K Hv a vs → RpA K Hv H vs ws [] → Rp K Hv H (.ref a) (.pt ws) []
  | dic {a : Addr} {kvs : List (Key × V)} {ws : List W} : Hv a = some (.dK kvs) → RpA K Hv H (kvs.map (·.2)) ws [] → Rp K Hv H (.ref a) (.dic (kvs.map (·.1)) ws) []
  | olst {a : Addr} {vs : List V} {ws : List W} {F : List Addr} : H a = some (.lst vs) → RpA K Hv H vs ws F → Rp K Hv H (.ref a) (.olst ws) (a :: F)
  | otup {a : Addr} {vs : List V} {ws : List W} {F : List Addr} : Tn K Hv a vs → RpA K Hv H vs ws F → Rp K Hv H (.ref a) (.otup ws) F
  | odic {a : Addr} {kvs : List (Key × V)} {ws : List W} : H a = some (.dK kvs) → RpA K Hv H (kvs.map (·.2)) ws [] → Rp K Hv H (.ref a) (.odic (kvs.map (·.1)) ws) [a]
inductive RpA (K : PySem.W.Frag) (Hv H : Hp) : List V → List W → List Addr → Prop
  | nil : RpA K Hv H [] [] []
  | cons {v : V} {vs : List V} {w : W} {ws : List W} {F G : List Addr} : Rp K Hv H v w F → RpA K Hv H vs ws G → RpA K Hv H (v :: vs) (w :: ws) (F ++ G)
end

def Ex (H H' : Hp) : Prop := ∀ a o, H a = some o → H' a = some o
theorem Ex.refl (H : Hp) : Ex H H := fun _ _ h => h
theorem Ex.trans {H H1 H2 : Hp} (a : Ex H H1) (b : Ex H1 H2) : Ex H H2 := fun x o h => b x o (a x o h)
theorem Ex.new {H : Hp} {p : Addr} {o : HO} (h : H p = none) : Ex H (upd H p o) := fun a u e => by
  rw [upd_ne (ne_of_none e h)]
  exact e
theorem Ex.mut {H H' : Hp} {p : Addr} {o : HO} (e : Ex H H') (h : H p = none) : Ex H (upd H' p o) := fun a u ha => by
  rw [upd_ne (ne_of_none ha h)]
  exact e a u ha
theorem Ex.back {H H' : Hp} {p : Addr} (e : Ex H H') (h : H' p = none) : H p = none := by
  cases h1 : H p with
  | none => rfl
  | some o =>
    rw [e p o h1] at h
    cases h
theorem ex_rd {H H' : Hp} {a : Addr} {u : HO} (e : Ex H H') (h : Rd H a u) : Rd H' a u := by
  rcases h with h | ⟨o, h⟩
  · exact Or.inl (e a _ h)
  · exact Or.inr ⟨o, e a _ h⟩
theorem ex_l {K : PySem.W.Frag} {H H' : Hp} {a : Addr} {xs : List V} (e : Ex H H') (h : SqL K H a xs) : SqL K H' a xs := by
  rcases h with h | h
  · exact Or.inl (ex_rd e h)
  · exact Or.inr h
theorem ex_t {K : PySem.W.Frag} {H H' : Hp} {a : Addr} {xs : List V} (e : Ex H H') (h : SqT K H a xs) : SqT K H' a xs := by
  rcases h with h | h
  · exact Or.inl (ex_rd e h)
  · exact Or.inr h
theorem ex_n {K : PySem.W.Frag} {H H' : Hp} {a : Addr} {xs : List V} (e : Ex H H') (h : Tn K H a xs) : Tn K H' a xs := by
  rcases h with ⟨o, hd, h⟩ | h
  · exact .inl ⟨o, hd, e _ _ h⟩
  · exact .inr h

section
variable {K : PySem.W.Frag} {Hv Hv' H H' : Hp}
mutual
theorem Rp.mono (e : Ex Hv Hv') : ∀ (w : W) {v : V} {F : List Addr}, Rp K Hv H v w F → (∀ a ∈ F, H' a = H a) → Rp K Hv' H' v w F
  | .non, _, _, h, _ => by cases h; exact .non
  | .bl _, _, _, h, _ => by cases h; exact .bl _
  | .int _, _, _, h, _ => by cases h; exact .int _
  | .str _, _, _, h, _ => by cases h; exact .str _
  | .ty _, _, _, h, _ => by cases h; exact .ty _
  | .lst ws, _, _, h, k => by cases h with | lst a b => exact .lst (ex_rd e a) (RpA.mono e ws b k)
  | .klst ws, _, _, h, k => by cases h with | klst a b => exact .klst (ex_l e a) (RpA.mono e ws b k)
  | .tup ws, _, _, h, k => by cases h with | tup a b => exact .tup (ex_n e a) (RpA.mono e ws b k)
  | .pt ws, _, _, h, k => by cases h with | pt a b => exact .pt (ex_t e a) (RpA.mono e ws b k)
  | .dic _ ws, _, _, h, k => by cases h with | dic a b => exact .dic (e _ _ a) (RpA.mono e ws b k)
  | .olst ws, _, _, h, k => by cases h with | olst a b => exact .olst ((k _ List.mem_cons_self).trans a) (RpA.mono e ws b fun x hx => k x (List.mem_cons_of_mem _ hx))
  | .otup ws, _, _, h, k => by cases h with | otup a b => exact .otup (ex_n e a) (RpA.mono e ws b k)
  | .odic _ ws, _, _, h, k => by cases h with | odic a b => exact .odic ((k _ List.mem_cons_self).trans a) (RpA.mono e ws b fun x hx => nomatch hx)
theorem RpA.mono (e : Ex Hv Hv') : ∀ (ws : List W) {vs : List V} {F : List Addr}, RpA K Hv H vs ws F → (∀ a ∈ F, H' a = H a) → RpA K Hv' H' vs ws F
  | [], _, _, h, _ => by cases h; exact .nil
  | w :: ws, _, _, h, k => by
    cases h with
    | cons a b => exact .cons (Rp.mono e w a fun x hx => k x (List.mem_append_left _ hx)) (RpA.mono e ws b fun x hx => k x (List.mem_append_right _ hx))
end
theorem RpA.app {vs : List V} {ws : List W} {F : List Addr} {v : V} {w : W} {G : List Addr} : RpA K Hv H vs ws F → Rp K Hv H v w G → RpA K Hv H (vs ++ [v]) (ws ++ [w]) (F ++ G) := by
  intro h hw
  induction ws generalizing vs F with
  | nil => cases h; have := RpA.cons hw (RpA.nil (K := K) (Hv := Hv) (H := H)); simpa using this
  | cons x xs ih =>
    cases h with
    | cons a b =>
      rw [List.append_assoc]
      exact .cons a (ih b)
mutual
theorem Rp.fz (e : Ex Hv Hv') : ∀ (w : W) {v : V} {F : List Addr}, Rp K Hv H v w F → (∀ a ∈ F, Hv' a = H a) → Rp K Hv' H' v (fz w) []
  | .non, _, _, h, _ => by cases h; exact .non
  | .bl _, _, _, h, _ => by cases h; exact .bl _
  | .int _, _, _, h, _ => by cases h; exact .int _
  | .str _, _, _, h, _ => by cases h; exact .str _
  | .ty _, _, _, h, _ => by cases h; exact .ty _
  | .lst ws, _, _, h, k => by cases h with | lst a b => exact .lst (ex_rd e a) (RpA.mono e ws b (fun _ hx => nomatch hx))
  | .klst ws, _, _, h, k => by cases h with | klst a b => exact .klst (ex_l e a) (RpA.mono e ws b (fun _ hx => nomatch hx))
  | .tup ws, _, _, h, k => by cases h with | tup a b => exact .tup (ex_n e a) (RpA.mono e ws b (fun _ hx => nomatch hx))
  | .pt ws, _, _, h, k => by cases h with | pt a b => exact .pt (ex_t e a) (RpA.mono e ws b (fun _ hx => nomatch hx))
  | .dic _ ws, _, _, h, k => by cases h with | dic a b => exact .dic (e _ _ a) (RpA.mono e ws b (fun _ hx => nomatch hx))
  | .olst ws, _, _, h, k => by
    cases h with
    | olst a b =>
      exact .lst (.inl ((k _ List.mem_cons_self).trans a)) (RpA.fz e ws b fun x hx => k x (List.mem_cons_of_mem _ hx))
  | .otup ws, _, _, h, k => by cases h with | otup a b => exact .tup (ex_n e a) (RpA.fz e ws b k)
  | .odic _ ws, _, _, h, k => by cases h with | odic a b => exact .dic ((k _ List.mem_cons_self).trans a) (RpA.mono e ws b (fun _ hx => nomatch hx))
theorem RpA.fz (e : Ex Hv Hv') : ∀ (ws : List W) {vs : List V} {F : List Addr}, RpA K Hv H vs ws F → (∀ a ∈ F, Hv' a = H a) → RpA K Hv' H' vs (fzs ws) []
  | [], _, _, h, _ => by cases h; exact .nil
  | w :: ws, _, _, h, k => by
    cases h with
    | cons a b => exact RpA.cons (F := []) (G := []) (Rp.fz e w a fun x hx => k x (List.mem_append_left _ hx)) (RpA.fz e ws b fun x hx => k x (List.mem_append_right _ hx))
end
theorem Rp.sh {v : V} {w : W} {F : List Addr} (h : Rp K Hv H v w F) (hs : w.isSh = true) : F = [] := by
  cases h <;> first | rfl | (simp [W.isSh] at hs)
theorem RpA.sh {vs : List V} {ws : List W} {F : List Addr} (h : RpA K Hv H vs ws F) (hs : ws.all W.isSh = true) : F = [] := by
  induction ws generalizing vs F with
  | nil => cases h; rfl
  | cons x xs ih =>
    cases h with
    | cons a b =>
      simp only [List.all_cons, Bool.and_eq_true] at hs
      rw [a.sh hs.1, ih b hs.2]
      rfl
theorem RpA.len {vs : List V} {ws : List W} {F : List Addr} (h : RpA K Hv H vs ws F) : vs.length = ws.length := by
  induction ws generalizing vs F with
  | nil => cases h; rfl
  | cons x xs ih => cases h with | cons a b => simp [ih b]
theorem RpA.get {vs : List V} {ws : List W} {F : List Addr} (h : RpA K Hv H vs ws F) {i : Nat} {w : W} (e : ws[i]? = some w) : ∃ v G, vs[i]? = some v ∧ Rp K Hv H v w G ∧ ∀ a ∈ G, a ∈ F := by
  induction ws generalizing vs F i with
  | nil => simp at e
  | cons x xs ih =>
    cases h with
    | cons a b =>
      cases i with
      | zero => simp at e; subst e; exact ⟨_, _, rfl, a, fun z hz => List.mem_append_left _ hz⟩
      | succ i =>
        simp at e
        obtain ⟨v, G, h1, h2, h3⟩ := ih b e
        exact ⟨v, G, by simpa using h1, h2, fun z hz => List.mem_append_right _ (h3 z hz)⟩
end

/-- hidden addresses -/
def hid (S : List Addr) (H : Hp) : Hp := fun a => if a ∈ S then none else H a
theorem hid_in {S : List Addr} {H : Hp} {a : Addr} (h : a ∈ S) : hid S H a = none := if_pos h
theorem hid_out {S : List Addr} {H : Hp} {a : Addr} (h : a ∉ S) : hid S H a = H a := if_neg h
theorem hid_ex {S : List Addr} {H : Hp} : Ex (hid S H) H := fun a o h => by
  by_cases k : a ∈ S
  · rw [hid_in k] at h; cases h
  · rwa [hid_out k] at h
theorem hid_upd {S : List Addr} {H : Hp} {p : Addr} {o : HO} (h : p ∈ S) : hid S (upd H p o) = hid S H := by
  funext a
  by_cases k : a ∈ S
  · rw [hid_in k, hid_in k]
  · have q : a ≠ p := fun e => k (by rw [e]; exact h)
    rw [hid_out k, hid_out k, upd_ne q]
def Mu : Option HO → Prop
  | some (.lst _) => True
  | some (.dK _) => True
  | _ => False
def MK (S : List Addr) (H : Hp) : Prop := ∀ a ∈ S, Mu (H a)
structure Grow (S : List Addr) (H : Hp) (S' : List Addr) (H' : Hp) : Prop where
  ex : Ex H H'
  inc : ∀ a ∈ S, a ∈ S'
  new : ∀ a ∈ S', a ∈ S ∨ H a = none
  mks : MK S' H'
theorem Grow.refl {S : List Addr} {H : Hp} (m : MK S H) : Grow S H S H := ⟨Ex.refl H, fun _ h => h, fun _ h => .inl h, m⟩
theorem Grow.trans {S S1 S2 : List Addr} {H H1 H2 : Hp} (a : Grow S H S1 H1) (b : Grow S1 H1 S2 H2) : Grow S H S2 H2 :=
  ⟨a.ex.trans b.ex, fun x h => b.inc x (a.inc x h), fun x h => by
    rcases b.new x h with h | h
    · exact a.new x h
    · exact .inr (a.ex.back h), b.mks⟩
theorem Grow.view {S S' : List Addr} {H H' : Hp} (g : Grow S H S' H') : Ex (hid S H) (hid S' H') := fun a o h => by
  by_cases k : a ∈ S
  · rw [hid_in k] at h; cases h
  · rw [hid_out k] at h
    have k' : a ∉ S' := fun z => by
      rcases g.new a z with z | z
      · exact k z
      · rw [h] at z; cases z
    rw [hid_out k']
    exact g.ex a o h
theorem Grow.same {S S' : List Addr} {H H' : Hp} (g : Grow S H S' H') (m : MK S H) : ∀ a ∈ S, H' a = H a := fun a h => by
  have := m a h
  cases e : H a with
  | none => rw [e] at this; exact this.elim
  | some o => exact g.ex a o e
/-- a new tuple, a new shared thing -/
theorem Grow.newsh {S : List Addr} {H : Hp} {p : Addr} {o : HO} (m : MK S H) (h : H p = none) : Grow S H S (upd H p o) :=
  ⟨Ex.new h, fun _ h => h, fun _ h => .inl h, fun a ha => by
    have := m a ha
    rw [upd_ne]
    · exact this
    · rintro rfl; rw [h] at this; exact this⟩
theorem Grow.newown {S : List Addr} {H : Hp} {p : Addr} {o : HO} (m : MK S H) (h : H p = none) (ho : Mu (some o)) : Grow S H (p :: S) (upd H p o) :=
  ⟨Ex.new h, fun _ h => List.mem_cons_of_mem _ h, fun a ha => by
    rcases List.mem_cons.mp ha with rfl | ha
    · exact .inr h
    · exact .inl ha, fun a ha => by
    rcases List.mem_cons.mp ha with rfl | ha
    · rw [upd_same]; exact ho
    · have := m a ha
      rw [upd_ne]
      · exact this
      · rintro rfl; rw [h] at this; exact this⟩
end Z

set_option Elab.async false
set_option linter.all false
set_option maxRecDepth 100000
set_option maxHeartbeats 2000000
set_option autoImplicit false
/-! slots -/
namespace Z
open PySem PySem.Spec PyProof.Rows L2

abbrev Rho := List (Option W)
inductive Slots (K : PySem.W.Frag) (Hv H : Hp) : L2.St → Rho → List (List Addr) → Prop
  | nil : Slots K Hv H [] [] []
  | non {x : Option V} {σ : L2.St} {ρ : Rho} {fs : List (List Addr)} : Slots K Hv H σ ρ fs → Slots K Hv H (x :: σ) (none :: ρ) ([] :: fs)
  | val {v : V} {w : W} {F : List Addr} {σ : L2.St} {ρ : Rho} {fs : List (List Addr)} : Rp K Hv H v w F → Slots K Hv H σ ρ fs → Slots K Hv H (some v :: σ) (some w :: ρ) (F :: fs)

section
variable {K : PySem.W.Frag} {Hv Hv' H H' : Hp} {σ : L2.St} {ρ : Rho} {fs : List (List Addr)}
theorem Slots.get (h : Slots K Hv H σ ρ fs) : ∀ {i : Nat} {w : W}, ρ[i]? = some (some w) → ∃ v F, σ[i]? = some (some v) ∧ fs[i]? = some F ∧ Rp K Hv H v w F := by
  induction h with
  | nil => intro i w e; simp at e
  | non _ ih =>
    intro i w e
    cases i with
    | zero => simp at e
    | succ i => simpa using ih (by simpa using e)
  | val hv _ ih =>
    intro i w e
    cases i with
    | zero => simp at e; subst e; exact ⟨_, _, rfl, rfl, hv⟩
    | succ i => simpa using ih (by simpa using e)
theorem Slots.len (h : Slots K Hv H σ ρ fs) : σ.length = ρ.length ∧ fs.length = ρ.length := by
  induction h with
  | nil => exact ⟨rfl, rfl⟩
  | non _ ih => simp [ih.1, ih.2]
  | val _ _ ih => simp [ih.1, ih.2]
theorem Slots.mono (e : Ex Hv Hv') (h : Slots K Hv H σ ρ fs) : (∀ (i : Nat) g a, fs[i]? = some g → a ∈ g → H' a = H a) → Slots K Hv' H' σ ρ fs := by
  induction h with
  | nil => intro _; exact .nil
  | non _ ih => intro k; exact .non (ih fun i g a h1 h2 => k (i + 1) g a (by simpa using h1) h2)
  | val hv _ ih => intro k; exact .val (hv.mono e _ fun a ha => k 0 _ a rfl ha) (ih fun i g a h1 h2 => k (i + 1) g a (by simpa using h1) h2)
theorem Slots.set (h : Slots K Hv H σ ρ fs) : ∀ (i : Nat) {v : V} {w : W} {F : List Addr}, Rp K Hv H v w F → Slots K Hv H (σ.set i (some v)) (ρ.set i (some w)) (fs.set i F) := by
  induction h with
  | nil => intro i v w F _; exact .nil
  | non hs ih =>
    intro i v w F hw
    cases i with
    | zero => exact .val hw hs
    | succ i => exact .non (ih i hw)
  | val hv hs ih =>
    intro i v w F hw
    cases i with
    | zero => exact .val hw hs
    | succ i => exact .val hv (ih i hw)
theorem Slots.kill (h : Slots K Hv H σ ρ fs) : ∀ (i : Nat), Slots K Hv H σ (ρ.set i none) (fs.set i []) := by
  induction h with
  | nil => intro i; exact .nil
  | non hs ih =>
    intro i
    cases i with
    | zero => exact .non hs
    | succ i => exact .non (ih i)
  | val hv hs ih =>
    intro i
    cases i with
    | zero => exact .non hs
    | succ i => exact .val hv (ih i)
/-- the slot's value on the heap's side forgotten too -/
theorem Slots.wipe1 (h : Slots K Hv H σ ρ fs) : ∀ (i : Nat) (x : Option V), Slots K Hv H (σ.set i x) (ρ.set i none) (fs.set i []) := by
  induction h with
  | nil => intro i x; exact .nil
  | non hs ih =>
    intro i x
    cases i with
    | zero => exact .non hs
    | succ i => exact .non (ih i x)
  | val hv hs ih =>
    intro i x
    cases i with
    | zero => exact .non hs
    | succ i => exact .val hv (ih i x)
end

/-- the holders' own things are unlike -/
structure ND (fs : List (List Addr)) : Prop where
  one : ∀ (i : Nat) g, fs[i]? = some g → g.Nodup
  two : ∀ (i j : Nat) g h a, fs[i]? = some g → fs[j]? = some h → a ∈ g → a ∈ h → i = j
theorem nd_nil : ND [] := ⟨fun i g h => by simp at h, fun i j g h a e => by simp at e⟩
theorem get_set {α : Type} {l : List α} {i j : Nat} {x y : α} (h : (l.set i x)[j]? = some y) : (j = i ∧ y = x) ∨ (j ≠ i ∧ l[j]? = some y) := by
  by_cases e : j = i
  · subst e
    left
    refine ⟨rfl, ?_⟩
    by_cases hl : j < l.length
    · rw [List.getElem?_set_self hl] at h; exact (Option.some.inj h).symm
    · rw [List.getElem?_eq_none (by simpa using hl)] at h; cases h
  · right
    rw [List.getElem?_set_ne (Ne.symm e)] at h
    exact ⟨e, h⟩
theorem ND.set {fs : List (List Addr)} (n : ND fs) (i : Nat) {F : List Addr} (hF : F.Nodup) (hd : ∀ a ∈ F, ∀ (j : Nat) g, j ≠ i → fs[j]? = some g → a ∉ g) : ND (fs.set i F) := by
  refine ⟨fun j g h => ?_, fun j k g h a e1 e2 h1 h2 => ?_⟩
  · rcases get_set h with ⟨_, rfl⟩ | ⟨_, h⟩
    · exact hF
    · exact n.one j g h
  · rcases get_set e1 with ⟨r1, q1⟩ | ⟨r1, q1⟩ <;> rcases get_set e2 with ⟨r2, q2⟩ | ⟨r2, q2⟩
    · rw [r1, r2]
    · exact absurd h2 (hd a (q1 ▸ h1) k h r2 q2)
    · exact absurd h1 (hd a (q2 ▸ h2) j g r1 q1)
    · exact n.two j k g h a q1 q2 h1 h2

structure In (K : PySem.W.Frag) (S : List Addr) (σ : L2.St) (H : Hp) (ρ : Rho) (fs : List (List Addr)) : Prop where
  sl : Slots K (hid S H) H σ ρ fs
  nd : ND fs
  sub : ∀ (i : Nat) g a, fs[i]? = some g → a ∈ g → a ∈ S
  mk' : MK S H
section
variable {K : PySem.W.Frag} {H H' : Hp} {σ : L2.St} {ρ : Rho} {fs : List (List Addr)} {S S' : List Addr}
theorem In.grow (I : In K S σ H ρ fs) (g : Grow S H S' H') : In K S' σ H' ρ fs :=
  ⟨I.sl.mono g.view fun i f a h1 h2 => g.same I.mk' a (I.sub i f a h1 h2), I.nd, fun i f a h1 h2 => g.inc a (I.sub i f a h1 h2), g.mks⟩
theorem In.set (I : In K S σ H ρ fs) (i : Nat) {v : V} {w : W} {F : List Addr} (h : Rp K (hid S H) H v w F) (hF : F.Nodup) (hs : ∀ a ∈ F, a ∈ S) (hd : ∀ a ∈ F, ∀ (j : Nat) g, j ≠ i → fs[j]? = some g → a ∉ g) :
    In K S (σ.set i (some v)) H (ρ.set i (some w)) (fs.set i F) :=
  ⟨I.sl.set i h, I.nd.set i hF hd, fun j g a h1 h2 => by
    rcases get_set h1 with ⟨_, rfl⟩ | ⟨_, h1⟩
    · exact hs a h2
    · exact I.sub j g a h1 h2, I.mk'⟩
theorem In.kill (I : In K S σ H ρ fs) (i : Nat) : In K S σ H (ρ.set i none) (fs.set i []) :=
  ⟨I.sl.kill i, I.nd.set i List.nodup_nil (fun a h => nomatch h), fun j g a h1 h2 => by
    rcases get_set h1 with ⟨_, rfl⟩ | ⟨_, h1⟩
    · exact nomatch h2
    · exact I.sub j g a h1 h2, I.mk'⟩
theorem In.wipe1 (I : In K S σ H ρ fs) (i : Nat) (x : Option V) : In K S (σ.set i x) H (ρ.set i none) (fs.set i []) :=
  ⟨I.sl.wipe1 i x, I.nd.set i List.nodup_nil (fun a h => nomatch h), fun j g a h1 h2 => by
    rcases get_set h1 with ⟨_, rfl⟩ | ⟨_, h1⟩
    · exact nomatch h2
    · exact I.sub j g a h1 h2, I.mk'⟩
/-- a value that is shared from now on: its things are seen -/
theorem out_of {F : List Addr} {a : Addr} : a ∈ S.filter (fun a => decide (a ∉ F)) ↔ a ∈ S ∧ a ∉ F := by simp
theorem view_out {F : List Addr} : Ex (hid S H) (hid (S.filter fun a => decide (a ∉ F)) H) := fun a o h => by
  by_cases k : a ∈ S
  · rw [hid_in k] at h; cases h
  · rw [hid_out k] at h
    rw [hid_out fun z => k (out_of.mp z).1]
    exact h
theorem In.out (I : In K S σ H ρ fs) {F : List Addr} (hd : ∀ a ∈ F, ∀ (j : Nat) g, fs[j]? = some g → a ∉ g) : In K (S.filter fun a => decide (a ∉ F)) σ H ρ fs :=
  ⟨I.sl.mono view_out fun _ _ _ _ _ => rfl, I.nd, fun i g a h1 h2 => out_of.mpr ⟨I.sub i g a h1 h2, fun z => hd a z i g h1 h2⟩, fun a h => I.mk' a (out_of.mp h).1⟩
theorem Rp.out {v : V} {w : W} {F : List Addr} (h : Rp K (hid S H) H v w F) : Rp K (hid (S.filter fun a => decide (a ∉ F)) H) H v (Z.fz w) [] :=
  h.fz view_out w fun a ha => hid_out fun z => (out_of.mp z).2 ha
end

/-- what an evaluation comes to -/
inductive R where
  | ok (w : W)
  | er (c : Str)
abbrev Sem := Rho → Option R
/-- own things of the answer: new, or of the holders that are left -/
def Fp (H : Hp) (fs : List (List Addr)) (ms : List Nat) (F : List Addr) : Prop :=
  (∀ a ∈ F, H a = none ∨ ∃ i ∈ ms, ∃ g, fs[i]? = some g ∧ a ∈ g) ∧ (ms.Nodup → F.Nodup)
theorem Fp.nil {H : Hp} {fs : List (List Addr)} {ms : List Nat} : Fp H fs ms [] := ⟨fun a h => (nomatch h), fun _ => List.nodup_nil⟩
def Po (X : Cx) (W : WX) (bo : Bool) (S : List Addr) (σ : L2.St) (H : Hp) (fs : List (List Addr)) (ms : List Nat) : R → VK → Prop
  | .ok w, Q => ∀ v H' S' F, Grow S H S' H' → Rp X.K (hid S' H') H' v w F → (∀ a ∈ F, a ∈ S') → (bo = false → Fp H fs ms F) → Q v H'
  | .er c, _ => ∀ C H', X.mg c = some (.ref C) → Ex H H' → W (.ref C) none σ H'
def tE (X : Cx) (W : WX) (bo : Bool) (f : Sem) (ms : List Nat) : TE := fun σ H Q => ∃ S ρ fs r, In X.K S σ H ρ fs ∧ f ρ = some r ∧ Po X W bo S σ H fs ms r Q
def PoT (X : Cx) (W : WX) (S : List Addr) (σ : L2.St) (H : Hp) : R → (Bool → Hp → Prop) → Prop
  | .ok (.bl b), Q => ∀ H' S', Grow S H S' H' → Q b H'
  | .ok _, _ => False
  | .er c, _ => ∀ C H', X.mg c = some (.ref C) → Ex H H' → W (.ref C) none σ H'
def tT (X : Cx) (W : WX) (f : Sem) : TT := fun σ H Q => ∃ S ρ fs r, In X.K S σ H ρ fs ∧ f ρ = some r ∧ PoT X W S σ H r Q
section
variable {X : Cx} {W : WX} {e : Expr} {t t' : TE}
theorem PE.weak (h : PE X e t) (k : ∀ σ H Q, t' σ H Q → t σ H Q) : PE X e t' := ⟨fun pins s σ H Q I q => h.run pins s σ H Q I (k σ H Q q)⟩
theorem PT.weak {t t' : TT} (h : PT X e t) (k : ∀ σ H Q, t' σ H Q → t σ H Q) : PT X e t' := ⟨fun pins s σ H Q I q => h.run pins s σ H Q I (k σ H Q q)⟩
theorem PS.weak {st : Stmt} {t t' : TS} (h : PS X st t) (k : ∀ D σ H, t' D σ H → t D σ H) : PS X st t' := ⟨fun pins s σ H D I q => h.run pins s σ H D I (k D σ H q)⟩
theorem PSs.weak {st : List Stmt} {t t' : TS} (h : PSs X st t) (k : ∀ D σ H, t' D σ H → t D σ H) : PSs X st t' := ⟨fun pins s σ H D I q => h.run pins s σ H D I (k D σ H q)⟩
end
end Z

set_option Elab.async false
set_option linter.all false
set_option maxRecDepth 100000
set_option maxHeartbeats 4000000
set_option autoImplicit false
/-! operators and comparisons by values -/
namespace Z
open PySem PySem.Spec PyProof.Rows L2

/-- a fresh answer -/
def An (X : Cx) (S : List Addr) (H : Hp) (w : W) (Q : VK) : Prop := ∀ v H' S' F, Grow S H S' H' → Rp X.K (hid S' H') H' v w F → (∀ a ∈ F, a ∈ S' ∧ H a = none) → F.Nodup → Q v H'
section
variable {X : Cx} {S : List Addr} {H : Hp} {Q : VK}
theorem An.same {w : W} {v : V} (an : An X S H w Q) (m : MK S H) (h : Rp X.K (hid S H) H v w []) : Q v H := an v H S [] (.refl m) h (fun _ z => (nomatch z)) List.nodup_nil
theorem An.int {i : Int} (an : An X S H (.int i) Q) (m : MK S H) : Q (.int i) H := an.same m (.int i)
theorem An.bl {b : Bool} (an : An X S H (.bl b) Q) (m : MK S H) : Q (.bl b) H := an.same m (.bl b)
theorem An.str {x : Str} (an : An X S H (.str x) Q) (m : MK S H) : Q (.str x) H := an.same m (.str x)
theorem An.non (an : An X S H .non Q) (m : MK S H) : Q .non H := an.same m .non
theorem An.newl {ws : List W} {vs : List V} (an : An X S H (.olst ws) Q) (m : MK S H) (h : RpA X.K (hid S H) H vs ws []) {p : Addr} (hp : H p = none) : Q (.ref p) (upd H p (.lst vs)) :=
  have g : Grow S H (p :: S) (upd H p (.lst vs)) := Grow.newown m hp True.intro
  an _ _ _ [p] g (.olst upd_same (h.mono g.view _ fun _ z => nomatch z)) (fun a ha => by
    rcases List.mem_cons.mp ha with rfl | z
    · exact ⟨List.mem_cons_self, hp⟩
    · exact nomatch z) (List.nodup_cons.mpr ⟨fun z => (nomatch z), List.nodup_nil⟩)
theorem An.newt {ws : List W} {vs : List V} (an : An X S H (.tup ws) Q) (m : MK S H) (h : RpA X.K (hid S H) H vs ws []) {p : Addr} (hp : H p = none) : ∀ o : Obj, o.dict = none → Q (.ref p) (upd H p (.frz o (.tup vs))) := fun o ho =>
  have g : Grow S H S (upd H p (.frz o (.tup vs))) := Grow.newsh m hp
  have ns : p ∉ S := fun z => by have := m p z; rw [hp] at this; exact this
  an _ _ _ [] g (.tup (.inl ⟨o, ho, by rw [hid_out ns]; exact upd_same⟩) (h.mono g.view _ fun _ z => nomatch z)) (fun a ha => nomatch ha) List.nodup_nil
theorem An.newp {ws : List W} {vs : List V} (an : An X S H (.pt ws) Q) (m : MK S H) (h : RpA X.K (hid S H) H vs ws []) {p : Addr} (hp : H p = none) : Q (.ref p) (upd H p (.tup vs)) :=
  have g : Grow S H S (upd H p (.tup vs)) := Grow.newsh m hp
  have ns : p ∉ S := fun z => by have := m p z; rw [hp] at this; exact this
  an _ _ _ [] g (.pt (SqT.of (by rw [hid_out ns]; exact upd_same)) (h.mono g.view _ fun _ z => nomatch z)) (fun a ha => nomatch ha) List.nodup_nil
end

/-- two operands -/
def s2 (fa fb : Sem) (g : W → W → Option W) : Sem := fun ρ => match fa ρ with
  | some (.ok a) => match fb ρ with
    | some (.ok b) => match g a b with
      | some w => some (.ok w)
      | none => none
    | r => r
  | r => r
def rG (X : Cx) (g : W → W → Option W) : R2 := fun x y H Q => ∃ S wx wy w Fx Fy, MK S H ∧ Rp X.K (hid S H) H x wx Fx ∧ Rp X.K (hid S H) H y wy Fy ∧ g wx wy = some w ∧ An X S H w Q
theorem same_of {S : List Addr} {H H' : Hp} {S' : List Addr} {F : List Addr} (g : Grow S H S' H') (m : MK S H) (h : ∀ a ∈ F, a ∈ S) : ∀ a ∈ F, H' a = H a := fun a ha => g.same m a (h a ha)
theorem Po.er {X : Cx} {W0 : WX} {bo bo' : Bool} {S S' : List Addr} {σ : L2.St} {H H' : Hp} {fs : List (List Addr)} {ms ms' : List Nat} {c : Str} {Q Q' : VK} (p : Po X W0 bo S σ H fs ms (.er c) Q) (e : Ex H H') : Po X W0 bo' S' σ H' fs ms' (.er c) Q' :=
  fun C H2 hc e2 => p C H2 hc (e.trans e2)
theorem Po.an {X : Cx} {W0 : WX} {bo : Bool} {S S' : List Addr} {σ : L2.St} {H H' : Hp} {fs : List (List Addr)} {ms : List Nat} {w : W} {Q : VK} (p : Po X W0 bo S σ H fs ms (.ok w) Q) (g : Grow S H S' H') : An X S' H' w Q :=
  fun v H2 S2 F g2 r hF hn => p v H2 S2 F (g.trans g2) r (fun a ha => (hF a ha).1) fun _ => ⟨fun a ha => .inl (g.ex.back (hF a ha).2), fun _ => hn⟩
theorem s2_ok {X : Cx} {W0 : WX} {bo : Bool} {fa fb : Sem} {g : W → W → Option W} {ms : List Nat} {σ : L2.St} {H : Hp} {Q : VK} (h : tE X W0 bo (s2 fa fb g) ms σ H Q) :
    tOp (rG X g) (tE X W0 true fa []) (tE X W0 true fb []) σ H Q := by
  obtain ⟨S, ρ, fs, r, I, e, p⟩ := h
  unfold s2 at e
  cases ea : fa ρ with
  | none => rw [ea] at e; cases e
  | some ra =>
    rw [ea] at e
    cases ra with
    | er c =>
      cases e
      exact ⟨S, ρ, fs, _, I, ea, p.er (Ex.refl _)⟩
    | ok a =>
      refine ⟨S, ρ, fs, _, I, ea, fun v H1 S1 F1 g1 r1 m1 _ => ?_⟩
      simp only at e
      cases eb : fb ρ with
      | none => rw [eb] at e; cases e
      | some rb =>
        rw [eb] at e
        cases rb with
        | er c =>
          cases e
          exact ⟨S1, ρ, fs, _, I.grow g1, eb, p.er g1.ex⟩
        | ok b =>
          refine ⟨S1, ρ, fs, _, I.grow g1, eb, fun u H2 S2 F2 g2 r2 m2 _ => ?_⟩
          simp only at e
          cases eg : g a b with
          | none => rw [eg] at e; cases e
          | some w =>
            rw [eg] at e
            cases e
            exact ⟨S2, a, b, w, F1, F2, g2.mks, r1.mono g2.view _ (same_of g2 g1.mks m1), r2, eg, p.an (g1.trans g2)⟩

/-! ### the items of a list, a tuple -/
def els : W → Option (List W)
  | .lst xs => some xs
  | .klst xs => some xs
  | .olst xs => if xs.all W.isSh = true then some xs else none
  | _ => none
def rels : W → Option (List W)
  | .lst xs => some xs
  | .olst xs => if xs.all W.isSh = true then some xs else none
  | _ => none
def tels : W → Option (List W)
  | .tup xs => some xs
  | .pt xs => some xs
  | .otup xs => if xs.all W.isSh = true then some xs else none
  | _ => none
section
variable {K : PySem.W.Frag} {S : List Addr} {H Hv : Hp} {x : V} {w : W} {F : List Addr} {ws : List W}
theorem els_ok (h : Rp K Hv H x w F) (ev : Ex Hv H) (e : els w = some ws) : ∃ a vs, x = .ref a ∧ SqL K H a vs ∧ RpA K Hv H vs ws [] := by
  cases h with
  | lst a b => cases e; exact ⟨_, _, rfl, .inl (ex_rd ev a), b⟩
  | klst a b => cases e; exact ⟨_, _, rfl, ex_l ev a, b⟩
  | olst a b =>
    simp only [els] at e
    split at e
    · rename_i hs
      cases e
      have := b.sh hs
      subst this
      exact ⟨_, _, rfl, SqL.of a, b⟩
    · cases e
  | _ => simp [els] at e
theorem rels_ok (h : Rp K Hv H x w F) (ev : Ex Hv H) (e : rels w = some ws) : ∃ a vs, x = .ref a ∧ Rd H a (.lst vs) ∧ RpA K Hv H vs ws [] := by
  cases h with
  | lst a b => cases e; exact ⟨_, _, rfl, ex_rd ev a, b⟩
  | olst a b =>
    simp only [rels] at e
    split at e
    · rename_i hs
      cases e
      have := b.sh hs
      subst this
      exact ⟨_, _, rfl, .inl a, b⟩
    · cases e
  | _ => simp [rels] at e
theorem tels_ok (h : Rp K Hv H x w F) (ev : Ex Hv H) (e : tels w = some ws) : ∃ a vs, x = .ref a ∧ SqT K H a vs ∧ RpA K Hv H vs ws [] := by
  cases h with
  | tup a b => cases e; exact ⟨_, _, rfl, ex_t ev a.sq, b⟩
  | pt a b => cases e; exact ⟨_, _, rfl, ex_t ev a, b⟩
  | otup a b =>
    simp only [tels] at e
    split at e
    · rename_i hs
      cases e
      have := b.sh hs
      subst this
      exact ⟨_, _, rfl, ex_t ev a.sq, b⟩
    · cases e
  | _ => simp [tels] at e
/-- .. of a tuple without a dict of its own -/
def nels : W → Option (List W)
  | .tup xs => some xs
  | .otup xs => if xs.all W.isSh = true then some xs else none
  | _ => none
theorem nels_ok (h : Rp K Hv H x w F) (e : nels w = some ws) : ∃ a vs, x = .ref a ∧ Tn K Hv a vs ∧ RpA K Hv H vs ws [] := by
  cases h with
  | tup a b => cases e; exact ⟨_, _, rfl, a, b⟩
  | otup a b =>
    simp only [nels] at e
    split at e
    · rename_i hs
      cases e
      have := b.sh hs
      subst this
      exact ⟨_, _, rfl, a, b⟩
    · cases e
  | _ => simp [nels] at e
theorem RpA.apA {K : PySem.W.Frag} {Hv H : Hp} {vs us : List V} {ws zs : List W} {F G : List Addr} (h : RpA K Hv H vs ws F) (k : RpA K Hv H us zs G) : RpA K Hv H (vs ++ us) (ws ++ zs) (F ++ G) := by
  induction ws generalizing vs F with
  | nil => cases h; exact k
  | cons x xs ih =>
    cases h with
    | cons a b =>
      rw [List.append_assoc]
      exact .cons a (ih b)
theorem RpA.ap0 {K : PySem.W.Frag} {Hv H : Hp} {vs us : List V} {ws zs : List W} (h : RpA K Hv H vs ws []) (k : RpA K Hv H us zs []) : RpA K Hv H (vs ++ us) (ws ++ zs) [] := h.apA k
end

/-! ### arithmetic -/
def gAdd : W → W → Option W
  | .int i, .int j => some (.int (i + j))
  | .str x, .str y => if x.length + y.length ≤ sizeLine then some (.str (x ++ y)) else none
  | a, b => match rels a with
    | some xs => match rels b with
      | some ys => if xs.length + ys.length ≤ sizeLine then some (.olst (xs ++ ys)) else none
      | none => none
    | none => match nels a with
      | some xs => match nels b with
        | some ys => if xs.length + ys.length ≤ sizeLine then some (.tup (xs ++ ys)) else none
        | none => none
      | none => none
def gSub : W → W → Option W
  | .int i, .int j => some (.int (i - j))
  | _, _ => none
/-- a bound for products: the bits of both together -/
def mulOk (i j : Int) : Prop := i.natAbs.log2 + j.natAbs.log2 < 134217000
instance (i j : Int) : Decidable (mulOk i j) := inferInstanceAs (Decidable (_ < _))
def repS (x : Str) (n : Int) : Str := ⟨(List.replicate n.toNat x.cps.toList).flatten.toArray⟩
def gMul : W → W → Option W
  | .int i, .int j => if mulOk i j then some (.int (i * j)) else none
  | .str x, .int n => if n < 1000000 ∧ -1000000 < n ∧ x.length * n.toNat ≤ 1000000 then some (.str (repS x n)) else none
  | .olst xs, .int k => if xs.all W.isSh = true ∧ -(2 ^ 63) ≤ k ∧ k < 2 ^ 63 ∧ xs.length * k.toNat ≤ sizeLine then some (.olst (List.replicate k.toNat xs).flatten) else none
  | _, _ => none
def gDiv : W → W → Option W
  | .int i, .int j => if 0 < j ∧ j.natAbs.log2 < 9000 then some (.int (i / j)) else none
  | _, _ => none
def gMod : W → W → Option W
  | .int i, .int j => if 0 < j then some (.int (i % j)) else none
  | _, _ => none
def gPow : W → W → Option W
  | .int i, .int j => if 0 ≤ j ∧ j ≤ 1000000 ∧ i.natAbs < 2 ^ 64 then some (.int (i ^ j.toNat)) else none
  | _, _ => none
def gShl : W → W → Option W
  | .int i, .int j => if 0 ≤ j ∧ j ≤ 1000000 ∧ i.natAbs < 2 ^ 64 then some (.int (i * 2 ^ j.toNat)) else none
  | _, _ => none
def gBin : Operator → Option (W → W → Option W)
  | .Add => some gAdd
  | .Sub => some gSub
  | .Mult => some gMul
  | .FloorDiv => some gDiv
  | .Mod => some gMod
  | .Pow => some gPow
  | .LShift => some gShl
  | _ => none

theorem mulOk.ok {i j : Int} (h : mulOk i j) : IntMulOk i j := by
  have b : ∀ x : Int, Builtin.Int.intBits x ≤ x.natAbs.log2 + 1 := fun x => by
    unfold Builtin.Int.intBits
    split <;> omega
  have h1 := b i
  have h2 := b j
  have h3 : i.natAbs.log2 + j.natAbs.log2 < 134217000 := h
  have e : bitsLine = 134217728 := by decide
  unfold IntMulOk
  intro z
  rw [Bool.and_eq_true] at z
  have z2 := z.2
  unfold Builtin.Int.intTooBig at z2
  have z3 := of_decide_eq_true z2
  rw [e] at z3
  omega
section
variable {X : Cx}
theorem op_mulZ : OpR X (binaryOp .Mult) (rI mulOk fun i j => .int (i * j)) := opI fun _ _ _ _ _ _ _ hc q => mul_int q hc.ok
/-- list + list, of any list that is read -/
def rCatS : R2 := fun x y H Q => ∃ l b xs zs, x = .ref l ∧ y = .ref b ∧ Rd H l (.lst xs) ∧ Rd H b (.lst zs) ∧ xs.length + zs.length ≤ sizeLine ∧ ∀ p, H p = none → Q (.ref p) (upd H p (.lst (xs ++ zs)))
theorem op_catS : OpR X (binaryOp .Add) rCatS := by
  intro pins s σ H x y v u Q I rx ry h
  obtain ⟨l, b, xs, zs, rfl, rfl, hH, hB, hz, q⟩ := h
  cases rx
  cases ry
  obtain ⟨z, its, n, r, e⟩ := hH.ok I.hok
  obtain ⟨z2, its2, n2, r2, e2⟩ := hB.ok I.hok
  have l1 := r.length
  have l2 := r2.length
  refine PySem.P.add_list e e2 ?_ (by rw [List.size_toArray, List.size_toArray]; omega)
  have ea : its.toArray ++ its2.toArray = (its ++ its2).toArray := by simp
  rw [ea]
  exact ⟨.ref _, _, I.lnew (t' := s.toks) (r.append r2) (by rw [List.length_append]; omega), rfl, q _ I.fresh⟩
/-- t + u of tuples: a new one bears no dict -/
def rCatN (K : PySem.W.Frag) : R2 := fun x y H Q => ∃ a b xs ys, x = .ref a ∧ y = .ref b ∧ SqT K H a xs ∧ SqT K H b ys ∧ xs.length + ys.length ≤ sizeLine ∧
  (xs = [] → Q (.ref b) H) ∧ (xs ≠ [] → ys = [] → Q (.ref a) H) ∧ (xs ≠ [] → ys ≠ [] → ∀ p (o : Obj), o.dict = none → H p = none → Q (.ref p) (upd H p (.frz o (.tup (xs ++ ys)))))
theorem op_catN : OpR X (binaryOp .Add) (rCatN X.K) := by
  intro pins s σ H x y v u Q I rx ry h
  obtain ⟨a, b, xs, ys, rfl, rfl, ha, hb, hz, q0, q1, q2⟩ := h
  obtain ⟨its, r1, p1, _⟩ := I.tuple ha
  obtain ⟨its2, r2, p2, _⟩ := I.tuple hb
  cases rx
  cases ry
  by_cases hx : xs = []
  · subst hx
    cases r1
    exact cat_tup0 p1 p2 ⟨.ref b, H, I, rfl, q0 rfl⟩
  · refine HT.cat_tup p1 p2 (fun z => hx (r1.nil_iff.mp z)) (fun z => ⟨.ref a, H, I, rfl, q1 hx (r2.nil_iff.mp z)⟩) (fun z => ?_) (by rw [← r1.length, ← r2.length]; exact hz)
    have nw : ObjOk X.prog X.w (upd H s.heap.objs.size (.frz { cls := .type "tuple", data := .seq (its ++ its2).toArray } (.tup (xs ++ ys)))) (s.heap.push { cls := .type "tuple", data := .seq (its ++ its2).toArray }) s.heap.objs.size (.frz { cls := .type "tuple", data := .seq (its ++ its2).toArray } (.tup (xs ++ ys))) :=
      ⟨Heap.get?_push_size _ rfl, by rw [List.length_append]; exact hz, _, r1.append r2, IsTup.new _ _⟩
    exact ⟨.ref s.heap.objs.size, _, I.laid (t' := s.toks) (fun b ob q => Heap.get?_push_of_some _ q) (Nat.le_refl _) nw, rfl, q2 hx (fun w => z (r2.nil_iff.mpr w)) _ _ rfl (I.hok.fresh (Nat.le_refl _))⟩
/-- t[lo:hi] -/
def rSlN (K : PySem.W.Frag) : V → Option Int → Option Int → Hp → VK → Prop := fun x lo hi H Q => ∃ a xs, x = .ref a ∧ SqT K H a xs ∧
  (HT.sIx xs.length 0 lo = 0 ∧ HT.sIx xs.length xs.length hi = xs.length → Q (.ref a) H) ∧ (¬ (HT.sIx xs.length 0 lo = 0 ∧ HT.sIx xs.length xs.length hi = xs.length) → ∀ p (o : Obj), o.dict = none → H p = none → Q (.ref p) (upd H p (.frz o (.tup (cutV xs lo hi)))))
theorem sl_tupN : SlR X (rSlN X.K) := by
  intro pins s σ H x v vl vu lo hi sl Q I rx hs pl pu h
  obtain ⟨a, xs, rfl, hx, q1, q2⟩ := h
  cases rx
  obtain ⟨its, r, ht, hz⟩ := I.tuple hx
  have hlen : its.toArray.size = xs.length := by rw [List.size_toArray]; exact r.length.symm
  refine ⟨"tuple", _, PyProof.Rows.slot_tuple_getitem.lookup, ht.typeIs, ?_⟩
  by_cases hw : HT.sIx xs.length 0 lo = 0 ∧ HT.sIx xs.length xs.length hi = xs.length
  · exact getItem_tuple_whole ht hs pl pu (by rw [hlen]; exact hw) ⟨.ref a, H, I, rfl, q1 hw⟩
  · refine HT.getItem_tuple_cut ht hs pl pu (by rw [hlen]; exact hw) ?_ (by rw [hlen]; exact hz)
    rw [hlen]
    have rv := (r.drop (HT.sIx xs.length 0 lo)).take (HT.sIx xs.length xs.length hi - HT.sIx xs.length 0 lo)
    refine ⟨.ref s.heap.objs.size, _, I.laid (t' := s.toks) (o := .frz { cls := .type "tuple", data := .seq (List.take (HT.sIx xs.length xs.length hi - HT.sIx xs.length 0 lo) (List.drop (HT.sIx xs.length 0 lo) its.toArray.toList)).toArray } (.tup (cutV xs lo hi))) (fun b ob q => Heap.get?_push_of_some _ q) (Nat.le_refl _) ?_, rfl, q2 hw _ _ rfl (I.hok.fresh (Nat.le_refl _))⟩
    exact ⟨Heap.get?_push_size _ rfl, Nat.le_trans (cutV_length xs lo hi) hz, _, rv, IsTup.new _ _⟩
theorem call_tupleN : CallR X (.type "tuple") (fun xs H Q => ∃ p ys, xs = [.ref p] ∧ ((SqL X.K H p ys ∧ ∀ l (o : Obj), o.dict = none → H l = none → Q (.ref l) (upd H l (.frz o (.tup ys)))) ∨ (SqT X.K H p ys ∧ Q (.ref p) H))) := by
  intro pins s σ H xs us Q I r h
  obtain ⟨p, ys, rfl, h⟩ := h
  obtain ⟨u, rfl, rx⟩ := vals1 r
  cases rx
  rcases h with ⟨hq, q⟩ | ⟨hq, q⟩
  · obtain ⟨its, r', pl, hz⟩ := I.list hq
    have hlen := r'.length
    refine call_tuple_list pl.isList (fun h' kp => ?_) (by simp only [List.size_toArray] <;> omega)
    have I1 : Inv X pins σ H { s with heap := h' } := I.kept (t' := s.toks) kp
    have nw : ObjOk X.prog X.w (upd H h'.objs.size (.frz { cls := .type "tuple", data := .seq its.toArray } (.tup ys))) (h'.push { cls := .type "tuple", data := .seq its.toArray }) h'.objs.size (.frz { cls := .type "tuple", data := .seq its.toArray } (.tup ys)) :=
      ⟨Heap.get?_push_size _ rfl, hz, its, r', IsTup.new _ _⟩
    have I2 : Inv X pins σ _ { s with heap := h'.push { cls := .type "tuple", data := .seq its.toArray } } := I1.laid (t' := s.toks) (fun b o e => Heap.get?_push_of_some _ e) (Nat.le_refl _) nw
    exact ⟨.ref h'.objs.size, _, I2, rfl, q _ _ rfl (I1.hok.fresh (Nat.le_refl _))⟩
  · obtain ⟨its, r', pl, hz⟩ := I.tuple hq
    exact call_tuple_same pl ⟨.ref p, H, I, rfl, q⟩
def tTupN (t : TA) : TE := fun σ H Q => t σ H fun xs H1 => xs.length ≤ sizeLine ∧ ∀ p (o : Obj), o.dict = none → H1 p = none → Q (.ref p) (upd H1 p (.frz o (.tup xs)))
theorem pe_tupN {es : List Expr} {x1 : Nat} {pos : Pos} {t : TA} (h : PA X es t) : PE X (.Tuple es x1 pos) (tTupN t) := by
  refine ⟨fun pins s σ H Q I hq => ?_⟩
  refine wpAny_Tuple_spliced (thn (h.run pos pins s σ H _ I hq) fun us s1 ⟨xs, H1, I1, r, z, q⟩ => ⟨by rw [← r.length]; exact z, ?_⟩)
  have hf : H1 s1.heap.objs.size = none := I1.hok.fresh (Nat.le_refl _)
  have nw : ObjOk X.prog X.w (upd H1 s1.heap.objs.size (.frz { cls := .type "tuple", data := .seq us.toArray } (.tup xs))) (s1.heap.push { cls := .type "tuple", data := .seq us.toArray }) s1.heap.objs.size (.frz { cls := .type "tuple", data := .seq us.toArray } (.tup xs)) :=
    ⟨Heap.get?_push_size _ rfl, z, us, r, ⟨_, Heap.get?_push_size _ rfl, rfl, _, rfl⟩⟩
  exact ⟨.ref s1.heap.objs.size, _, I1.laid (t' := s1.toks) (fun b u e => Heap.get?_push_of_some _ e) (Nat.le_refl _) nw, rfl, q _ _ rfl hf⟩
theorem foldl_repA (x : List Nat) : ∀ (m : Nat) (acc : List Nat), List.foldl (fun x1 x2 => x1 ++ x2) acc.toArray (List.replicate m x.toArray) = (acc ++ (List.replicate m x).flatten).toArray
  | 0, acc => by simp
  | m + 1, acc => by
    rw [List.replicate_succ, List.foldl_cons, List.replicate_succ, List.flatten_cons]
    have h : acc.toArray ++ x.toArray = (acc ++ x).toArray := by simp
    rw [h, foldl_repA x m (acc ++ x), List.append_assoc]
theorem op_repStr : OpR X (binaryOp .Mult) (fun x y H Q => ∃ (z : Str) (n : Int), x = .str z ∧ y = .int n ∧ n < 1000000 ∧ -1000000 < n ∧ z.length * n.toNat ≤ 1000000 ∧ Q (.str (repS z n)) H) := by
  intro pins s σ H x y v u Q I rx ry h
  obtain ⟨z, n, rfl, rfl, h1, h2, h3, q⟩ := h
  obtain ⟨t, rfl⟩ := rx
  obtain ⟨t', rfl⟩ := ry
  have hrep : ∀ m : Nat, (⟨(List.replicate m z.cps).foldl (· ++ ·) #[]⟩ : Str) = ⟨(List.replicate m z.cps.toList).flatten.toArray⟩ := fun m => by
    have := foldl_repA z.cps.toList m []
    simp only [List.nil_append] at this
    congr 1
  refine PySem.P.mul_str ?_ (fun a b => ?_) (fun a b => ?_) ?_
  · rw [decide_eq_false (by omega), decide_eq_false (by omega)]; rfl
  · intro c
    have hn1 : n ≠ 1 ∧ z.length ≠ 0 := by
      rw [Bool.or_eq_false_iff] at b
      exact ⟨by simpa using b.1, by simpa using b.2⟩
    have e1 : (n.toNat : Int) = n := Int.toNat_of_nonneg (by omega)
    have h6 : (z.length : Int) * n ≤ 1000000 := by
      rw [← e1, ← Int.natCast_mul]
      omega
    have h5 : (z.length : Int) ≤ (2 ^ 63 - 1) / n := by
      rw [Int.le_ediv_iff_mul_le (by omega)]
      omega
    omega
  · unfold Builtin.Str.tooLong
    have e : (sizeLine : Nat) = 16777216 := by decide
    rw [decide_eq_false]
    omega
  · by_cases c1 : n < 1
    · rw [if_pos c1]
      refine ⟨by decide, ?_⟩
      have e0 : repS z n = Str.empty := by
        have : n.toNat = 0 := by omega
        unfold repS
        rw [this]
        rfl
      refine ⟨.str (repS z n), H, I.tok _, ?_, q⟩
      rw [e0]
      exact ⟨_, rfl⟩
    · rw [if_neg c1]
      by_cases c2 : (n == 1 || z.length == 0) = true
      · rw [if_pos c2]
        have ez : repS z n = z := by
          unfold repS
          rw [Bool.or_eq_true] at c2
          rcases c2 with c2 | c2
          · have : n = 1 := by simpa using c2
            subst this
            obtain ⟨a⟩ := z
            simp
          · have h0 : z.cps.toList = [] := by
              have : z.length = 0 := by simpa using c2
              exact List.length_eq_zero_iff.mp (by simpa [Str.length] using this)
            rw [h0]
            obtain ⟨a⟩ := z
            simp at h0
            subst h0
            simp
        exact ⟨.str (repS z n), H, I.tok _, ⟨_, by rw [ez]⟩, q⟩
      · rw [if_neg c2, hrep]
        refine ⟨?_, ⟨.str (repS z n), H, I.tok _, ⟨_, rfl⟩, q⟩⟩
        have e : (sizeLine : Nat) = 16777216 := by decide
        have q2 : (⟨(List.replicate n.toNat z.cps.toList).flatten.toArray⟩ : Str).length = n.toNat * z.length := by
          show (List.replicate n.toNat z.cps.toList).flatten.toArray.size = _
          rw [List.size_toArray, PyProof.Rows.lm_len_rep_flat]
          rfl
        rw [q2, Nat.mul_comm, e]
        omega
end
end Z

set_option Elab.async false
set_option linter.all false
set_option maxRecDepth 100000
set_option maxHeartbeats 4000000
set_option autoImplicit false
/-! arithmetic and comparisons by values -/
namespace Z
open PySem PySem.Spec PyProof.Rows L2

mutual
def toP : W → PyData
  | .non => .none
  | .bl b => .bool b
  | .int i => .int i
  | .str s => .str s
  | .ty _ => .none
  | .lst xs => .list (toPs xs)
  | .klst xs => .list (toPs xs)
  | .olst xs => .list (toPs xs)
  | .tup xs => .tuple (toPs xs)
  | .pt xs => .tuple (toPs xs)
  | .otup xs => .tuple (toPs xs)
  | .dic _ _ => .none
  | .odic _ _ => .none
def toPs : List W → List PyData
  | [] => []
  | x :: xs => toP x :: toPs xs
end
mutual
/-- data alone: no dict, no type -/
def dat : W → Bool
  | .non => true
  | .bl _ => true
  | .int _ => true
  | .str _ => true
  | .ty _ => false
  | .lst xs => dats xs
  | .klst xs => dats xs
  | .olst xs => dats xs
  | .tup xs => dats xs
  | .pt xs => dats xs
  | .otup xs => dats xs
  | .dic _ _ => false
  | .odic _ _ => false
def dats : List W → Bool
  | [] => true
  | x :: xs => dat x && dats xs
end
section
variable {K : PySem.W.Frag} {H Hv : Hp}
mutual
theorem Rp.dp (ev : Ex Hv H) : ∀ (w : W) {v : V} {F : List Addr}, Rp K Hv H v w F → dat w = true → Dp K H v (toP w)
  | .non, _, _, h, _ => by cases h; exact .non
  | .bl _, _, _, h, _ => by cases h; exact .bl _
  | .int _, _, _, h, _ => by cases h; exact .int _
  | .str _, _, _, h, _ => by cases h; exact .str _
  | .ty _, _, _, _, d => by simp [dat] at d
  | .lst ws, _, _, h, d => by cases h with | lst a b => exact .lst (.inl (ex_rd ev a)) (RpA.dp ev ws b (by simpa [dat] using d))
  | .klst ws, _, _, h, d => by cases h with | klst a b => exact .lst (ex_l ev a) (RpA.dp ev ws b (by simpa [dat] using d))
  | .olst ws, _, _, h, d => by cases h with | olst a b => exact .lst (SqL.of a) (RpA.dp ev ws b (by simpa [dat] using d))
  | .tup ws, _, _, h, d => by cases h with | tup a b => exact .tup (ex_t ev a.sq) (RpA.dp ev ws b (by simpa [dat] using d))
  | .pt ws, _, _, h, d => by cases h with | pt a b => exact .tup (ex_t ev a) (RpA.dp ev ws b (by simpa [dat] using d))
  | .otup ws, _, _, h, d => by cases h with | otup a b => exact .tup (ex_t ev a.sq) (RpA.dp ev ws b (by simpa [dat] using d))
  | .dic _ _, _, _, _, d => by simp [dat] at d
  | .odic _ _, _, _, _, d => by simp [dat] at d
theorem RpA.dp (ev : Ex Hv H) : ∀ (ws : List W) {vs : List V} {F : List Addr}, RpA K Hv H vs ws F → dats ws = true → DpAll K H vs (toPs ws)
  | [], _, _, h, _ => by cases h; exact .nil
  | w :: ws, _, _, h, d => by
    cases h with
    | cons a b =>
      simp only [dats, Bool.and_eq_true] at d
      exact .cons (Rp.dp ev w a d.1) (RpA.dp ev ws b d.2)
end
end
/-- flat values -/
def flat : W → Bool
  | .non => true
  | .bl _ => true
  | .int _ => true
  | .str _ => true
  | _ => false
def toV : W → V
  | .bl b => .bl b
  | .int i => .int i
  | .str s => .str s
  | _ => .non
section
variable {K : PySem.W.Frag} {H Hv : Hp} {v : V} {w : W} {F : List Addr}
theorem Rp.flat (h : Rp K Hv H v w F) (f : flat w = true) : v = toV w := by
  cases h <;> first | rfl | (simp [Z.flat] at f)
theorem flat_V (f : flat w = true) : flatV (toV w) = true := by
  cases w <;> first | rfl | (simp [Z.flat] at f)
theorem RpA.flat {vs : List V} {ws : List W} (h : RpA K Hv H vs ws F) (f : ws.all Z.flat = true) : vs = ws.map toV := by
  induction ws generalizing vs F with
  | nil => cases h; rfl
  | cons x xs ih =>
    cases h with
    | cons a b =>
      simp only [List.all_cons, Bool.and_eq_true] at f
      rw [a.flat f.1, ih b f.2]
      rfl
theorem flats_V {ws : List W} (f : ws.all Z.flat = true) : (ws.map toV).all flatV = true := by
  induction ws with
  | nil => rfl
  | cons x xs ih =>
    simp only [List.all_cons, Bool.and_eq_true] at f
    rw [List.map_cons, List.all_cons, flat_V f.1, ih f.2]
    rfl
end
/-- == of flat values -/
def eqF : W → W → Bool
  | .non, .non => true
  | .bl a, .bl b => a == b
  | .bl a, .int b => (if a then 1 else 0) == b
  | .int a, .bl b => a == (if b then 1 else 0)
  | .int a, .int b => a == b
  | .str a, .str b => a == b
  | _, _ => false
theorem eqF_V {x y : W} (fx : flat x = true) (fy : flat y = true) : eqV (toV x) (toV y) = eqF x y := by
  cases x <;> first | (simp [flat] at fx; done) | (cases y <;> first | (simp [flat] at fy; done) | rfl)
def inF (x : W) (ws : List W) : Bool := ws.any fun y => eqF y x
theorem inF_V {x : W} {ws : List W} (fx : flat x = true) (f : ws.all flat = true) : inV (toV x) (ws.map toV) = inF x ws := by
  unfold inV inF
  induction ws with
  | nil => rfl
  | cons y ys ih =>
    simp only [List.all_cons, Bool.and_eq_true] at f
    rw [List.map_cons, List.any_cons, List.any_cons, ih f.2, eqF_V f.1 fx]

def shp (a : W) : Bool := dat a && SeqAt.shaped (toP a)
/-- == -/
def gEqB : W → W → Option Bool
  | .int i, .int j => some (decide (i = j))
  | .str i, .str j => some (decide (i = j))
  | .bl i, .bl j => some (decide (i = j))
  | .non, .non => some true
  | .non, .int _ => some false
  | .int _, .non => some false
  | .non, .str _ => some false
  | .str _, .non => some false
  | .non, .bl _ => some false
  | .bl _, .non => some false
  | .int _, .str _ => some false
  | .str _, .int _ => some false
  | .bl _, .str _ => some false
  | .str _, .bl _ => some false
  | a, b => if shp a = true ∧ shp b = true then some (PyData.eqv (toP a) (toP b)) else none
def bW (o : Option Bool) : Option W := o.map .bl
def nW (o : Option Bool) : Option W := o.map fun b => .bl (!b)
def intsOf : List W → Option (List Int)
  | [] => some []
  | .int i :: r => (intsOf r).map (i :: ·)
  | _ => none
def gLt : W → W → Option W
  | .int i, .int j => some (.bl (decide (i < j)))
  | .str x, .str y => some (.bl (decide (x.cps.toList < y.cps.toList)))
  | a, b => match (tels a).bind intsOf, (tels b).bind intsOf with
    | some ns, some ms => some (.bl (HT.lexLt ns ms))
    | _, _ => none
def gLe : W → W → Option W
  | .int i, .int j => some (.bl (decide (i ≤ j)))
  | .str x, .str y => some (.bl (!decide (y.cps.toList < x.cps.toList)))
  | _, _ => none
def gGt : W → W → Option W
  | .int i, .int j => some (.bl (decide (j < i)))
  | .str x, .str y => some (.bl (decide (y.cps.toList < x.cps.toList)))
  | _, _ => none
def gGe : W → W → Option W
  | .int i, .int j => some (.bl (decide (j ≤ i)))
  | .str x, .str y => some (.bl (!decide (x.cps.toList < y.cps.toList)))
  | _, _ => none
def inS (x y : Str) : Bool := match x.cps.toList with
  | [c] => decide (c ∈ y.cps.toList)
  | _ => !(Builtin.Str.occurrences y x 0 y.length 1).isEmpty
def seqs (w : W) : Option (List W) := match els w with
  | some xs => some xs
  | none => tels w
def gInB : W → W → Option Bool
  | .str x, .str y => some (inS x y)
  | x, c => match seqs c with
    | some ws => if flat x = true ∧ ws.all flat = true then some (inF x ws) else match els c with
      | some _ => if shp x = true ∧ shp c = true then some ((toPs ws).any fun z => PyData.eqv z (toP x)) else none
      | none => none
    | none => none
def gIsB : W → W → Option Bool
  | .non, .non => some true
  | .bl a, .bl b => some (decide (a = b))
  | .bl _, .non => some false
  | .int _, .non => some false
  | .str _, .non => some false
  | .lst _, .non => some false
  | .tup _, .non => some false
  | .pt _, .non => some false
  | .dic _ _, .non => some false
  | .olst _, .non => some false
  | .otup _, .non => some false
  | .odic _ _, .non => some false
  | _, _ => none
def gCmp : CmpOp → W → W → Option W
  | .Eq, a, b => bW (gEqB a b)
  | .NotEq, a, b => nW (gEqB a b)
  | .Lt, a, b => gLt a b
  | .LtE, a, b => gLe a b
  | .Gt, a, b => gGt a b
  | .GtE, a, b => gGe a b
  | .In, a, b => bW (gInB a b)
  | .NotIn, a, b => nW (gInB a b)
  | .Is, a, b => bW (gIsB a b)
  | .IsNot, a, b => nW (gIsB a b)

section
variable {X : Cx}
theorem opZ_add : OpR X (binaryOp .Add) (rG X gAdd) := by
  intro pins s σ H x y v u Q I rx ry h
  obtain ⟨S, wx, wy, w, Fx, Fy, m, hx, hy, e, an⟩ := h
  unfold gAdd at e
  split at e
  · cases e; cases hx; cases hy
    exact op_add pins s σ H _ _ v u Q I rx ry ⟨_, _, rfl, rfl, an.int m⟩
  · split at e
    · rename_i hl
      cases e; cases hx; cases hy
      exact op_add_str pins s σ H _ _ v u Q I rx ry ⟨_, _, rfl, rfl, hl, an.str m⟩
    · cases e
  · split at e
    · rename_i xs ex
      split at e
      · rename_i ys ey
        split at e
        · rename_i hl
          cases e
          obtain ⟨a, vs, rfl, ha, ra⟩ := rels_ok hx hid_ex ex
          obtain ⟨b, us, rfl, hb, rb⟩ := rels_ok hy hid_ex ey
          refine op_catS pins s σ H _ _ v u Q I rx ry ⟨a, b, vs, us, rfl, rfl, ha, hb, by rw [ra.len, rb.len]; exact hl, fun p hp => an.newl m (ra.ap0 rb) hp⟩
        · cases e
      · cases e
    · split at e
      · rename_i xs ex
        split at e
        · rename_i ys ey
          split at e
          · rename_i hl
            cases e
            obtain ⟨a, vs, rfl, ha, ra⟩ := nels_ok hx ex
            obtain ⟨b, us, rfl, hb, rb⟩ := nels_ok hy ey
            have la := ra.len
            have lb := rb.len
            refine op_catN pins s σ H _ _ v u Q I rx ry ⟨a, b, vs, us, rfl, rfl, ex_t hid_ex ha.sq, ex_t hid_ex hb.sq, by rw [la, lb]; exact hl, fun z => ?_, fun z z2 => ?_, fun _ _ p o ho hp => an.newt m (ra.ap0 rb) hp o ho⟩
            · subst z
              have : xs = [] := List.length_eq_zero_iff.mp la.symm
              subst this
              exact an.same m (.tup hb rb)
            · subst z2
              have : ys = [] := List.length_eq_zero_iff.mp lb.symm
              subst this
              rw [List.append_nil] at an
              exact an.same m (.tup ha ra)
          · cases e
        · cases e
      · cases e
theorem opZ_sub : OpR X (binaryOp .Sub) (rG X gSub) := by
  intro pins s σ H x y v u Q I rx ry h
  obtain ⟨S, wx, wy, w, Fx, Fy, m, hx, hy, e, an⟩ := h
  unfold gSub at e
  split at e
  · cases e; cases hx; cases hy
    exact op_sub pins s σ H _ _ v u Q I rx ry ⟨_, _, rfl, rfl, an.int m⟩
  · cases e
theorem RpA.rep {K : PySem.W.Frag} {Hv H : Hp} {vs : List V} {ws : List W} (h : RpA K Hv H vs ws []) : ∀ n : Nat, RpA K Hv H (List.replicate n vs).flatten (List.replicate n ws).flatten []
  | 0 => .nil
  | n + 1 => by
    rw [List.replicate_succ, List.replicate_succ, List.flatten_cons, List.flatten_cons]
    exact h.ap0 (RpA.rep h n)
theorem opZ_mul : OpR X (binaryOp .Mult) (rG X gMul) := by
  intro pins s σ H x y v u Q I rx ry h
  obtain ⟨S, wx, wy, w, Fx, Fy, m, hx, hy, e, an⟩ := h
  unfold gMul at e
  split at e
  · split at e
    · rename_i hc
      cases e; cases hx; cases hy
      exact op_mulZ pins s σ H _ _ v u Q I rx ry ⟨_, _, rfl, rfl, hc, an.int m⟩
    · cases e
  · split at e
    · rename_i hc
      cases e; cases hx; cases hy
      exact op_repStr pins s σ H _ _ v u Q I rx ry ⟨_, _, rfl, rfl, hc.1, hc.2.1, hc.2.2, an.str m⟩
    · cases e
  · split at e
    · rename_i hc
      cases e; cases hy
      cases hx with
      | olst a b =>
        have := b.sh hc.1
        subst this
        refine op_rep pins s σ H _ _ v u Q I rx ry ⟨_, _, _, rfl, rfl, a, hc.2.1, hc.2.2.1, by rw [b.len]; exact hc.2.2.2, fun p hp => an.newl m (b.rep _) hp⟩
    · cases e
  · cases e
theorem opZ_div : OpR X (binaryOp .FloorDiv) (rG X gDiv) := by
  intro pins s σ H x y v u Q I rx ry h
  obtain ⟨S, wx, wy, w, Fx, Fy, m, hx, hy, e, an⟩ := h
  unfold gDiv at e
  split at e
  · split at e
    · rename_i hc
      cases e; cases hx; cases hy
      exact op_fdivW pins s σ H _ _ v u Q I rx ry ⟨_, _, rfl, rfl, hc, an.int m⟩
    · cases e
  · cases e
theorem opZ_mod : OpR X (binaryOp .Mod) (rG X gMod) := by
  intro pins s σ H x y v u Q I rx ry h
  obtain ⟨S, wx, wy, w, Fx, Fy, m, hx, hy, e, an⟩ := h
  unfold gMod at e
  split at e
  · split at e
    · rename_i hc
      cases e; cases hx; cases hy
      exact op_mod pins s σ H _ _ v u Q I rx ry ⟨_, _, rfl, rfl, hc, an.int m⟩
    · cases e
  · cases e
theorem opZ_pow : OpR X (binaryOp .Pow) (rG X gPow) := by
  intro pins s σ H x y v u Q I rx ry h
  obtain ⟨S, wx, wy, w, Fx, Fy, m, hx, hy, e, an⟩ := h
  unfold gPow at e
  split at e
  · split at e
    · rename_i hc
      cases e; cases hx; cases hy
      exact op_pow pins s σ H _ _ v u Q I rx ry ⟨_, _, rfl, rfl, hc, an.int m⟩
    · cases e
  · cases e
theorem opZ_shl : OpR X (binaryOp .LShift) (rG X gShl) := by
  intro pins s σ H x y v u Q I rx ry h
  obtain ⟨S, wx, wy, w, Fx, Fy, m, hx, hy, e, an⟩ := h
  unfold gShl at e
  split at e
  · split at e
    · rename_i hc
      cases e; cases hx; cases hy
      exact op_shl pins s σ H _ _ v u Q I rx ry ⟨_, _, rfl, rfl, hc, an.int m⟩
    · cases e
  · cases e
theorem opZ_bin {op : Operator} {g : W → W → Option W} (h : gBin op = some g) : OpR X (binaryOp op) (rG X g) := by
  cases op <;> first | (simp [gBin] at h; done) | (cases h; first | exact opZ_add | exact opZ_sub | exact opZ_mul | exact opZ_div | exact opZ_mod | exact opZ_pow | exact opZ_shl)
end
end Z

set_option Elab.async false
set_option linter.all false
set_option maxRecDepth 100000
set_option maxHeartbeats 4000000
set_option autoImplicit false
/-! comparisons by values -/
namespace Z
open PySem PySem.Spec PyProof.Rows L2
section
variable {X : Cx}
theorem shp_d {a : W} (h : shp a = true) : dat a = true ∧ SeqAt.shaped (toP a) = true := by
  unfold shp at h
  rwa [Bool.and_eq_true] at h
/-- what a pair of scalars, or of data, is told of == and != -/
theorem eq_ok (hu : X.A.units + 65 < cLine) {S : List Addr} {H : Hp} {x y : V} {wx wy : W} {Fx Fy : List Addr} {b : Bool} (hx : Rp X.K (hid S H) H x wx Fx) (hy : Rp X.K (hid S H) H y wy Fy) (e : gEqB wx wy = some b) :
    (∀ Q : VK, Q (.bl b) H → rEq x y H Q ∨ rEqD X.K x y H Q) ∧ (∀ Q : VK, Q (.bl (!b)) H → rNe x y H Q ∨ rNeD X.K x y H Q) := by
  have sc : ∀ (u v : V), x = u → y = v → scal u v = true → decide (u = v) = b → (∀ Q : VK, Q (.bl b) H → rEq x y H Q ∨ rEqD X.K x y H Q) ∧ (∀ Q : VK, Q (.bl (!b)) H → rNe x y H Q ∨ rNeD X.K x y H Q) := by
    intro u v e1 e2 h1 h2
    subst e1 e2
    subst h2
    exact ⟨fun Q q => .inl ⟨h1, q⟩, fun Q q => .inl ⟨h1, q⟩⟩
  unfold gEqB at e
  split at e
  · rename_i i j
    cases hx; cases hy; cases e
    refine sc _ _ rfl rfl rfl ?_
    by_cases h : i = j
    · rw [decide_eq_true h, decide_eq_true (by rw [h])]
    · rw [decide_eq_false h, decide_eq_false (fun z => h (V.int.inj z))]
  · rename_i i j
    cases hx; cases hy; cases e
    refine sc _ _ rfl rfl rfl ?_
    by_cases h : i = j
    · rw [decide_eq_true h, decide_eq_true (by rw [h])]
    · rw [decide_eq_false h, decide_eq_false (fun z => h (V.str.inj z))]
  · rename_i i j
    cases hx; cases hy; cases e
    refine sc _ _ rfl rfl rfl ?_
    by_cases h : i = j
    · rw [decide_eq_true h, decide_eq_true (by rw [h])]
    · rw [decide_eq_false h, decide_eq_false (fun z => h (V.bl.inj z))]
  · cases hx; cases hy; cases e; exact sc _ _ rfl rfl rfl rfl
  · cases hx; cases hy; cases e; exact sc _ _ rfl rfl rfl rfl
  · cases hx; cases hy; cases e; exact sc _ _ rfl rfl rfl rfl
  · cases hx; cases hy; cases e; exact sc _ _ rfl rfl rfl rfl
  · cases hx; cases hy; cases e; exact sc _ _ rfl rfl rfl rfl
  · cases hx; cases hy; cases e; exact sc _ _ rfl rfl rfl rfl
  · cases hx; cases hy; cases e; exact sc _ _ rfl rfl rfl rfl
  · cases hx; cases hy; cases e; exact sc _ _ rfl rfl rfl rfl
  · cases hx; cases hy; cases e; exact sc _ _ rfl rfl rfl rfl
  · cases hx; cases hy; cases e; exact sc _ _ rfl rfl rfl rfl
  · cases hx; cases hy; cases e; exact sc _ _ rfl rfl rfl rfl
  · split at e
    · rename_i hs
      cases e
      have d1 := shp_d hs.1
      have d2 := shp_d hs.2
      have p1 := hx.dp hid_ex _ d1.1
      have p2 := hy.dp hid_ex _ d2.1
      exact ⟨fun Q q => .inr ⟨_, _, p1, p2, d1.2, d2.2, q⟩, fun Q q => .inr ⟨_, _, p1, p2, d1.2, d2.2, q⟩⟩
    · cases e
theorem opZ_eq (hu : X.A.units + 65 < cLine) : OpR X (compareOp .Eq) (rG X (gCmp .Eq)) := by
  intro pins s σ H x y v u Q I rx ry h
  obtain ⟨S, wx, wy, w, Fx, Fy, m, hx, hy, e, an⟩ := h
  cases eb : gEqB wx wy with
  | none => simp [gCmp, eb, bW] at e
  | some b =>
    simp [gCmp, eb, bW] at e
    subst e
    rcases (eq_ok hu hx hy eb).1 Q (an.bl m) with q | q
    · exact op_eq pins s σ H _ _ v u Q I rx ry q
    · exact op_eqD (by omega) pins s σ H _ _ v u Q I rx ry q
theorem opZ_ne (hu : X.A.units + 65 < cLine) : OpR X (compareOp .NotEq) (rG X (gCmp .NotEq)) := by
  intro pins s σ H x y v u Q I rx ry h
  obtain ⟨S, wx, wy, w, Fx, Fy, m, hx, hy, e, an⟩ := h
  cases eb : gEqB wx wy with
  | none => simp [gCmp, eb, nW] at e
  | some b =>
    simp [gCmp, eb, nW] at e
    subst e
    rcases (eq_ok hu hx hy eb).2 Q (an.bl m) with q | q
    · exact op_ne pins s σ H _ _ v u Q I rx ry q
    · exact op_neD (by omega) pins s σ H _ _ v u Q I rx ry q
theorem ints_ok {K : PySem.W.Frag} {Hv H : Hp} {vs : List V} {ws : List W} {F : List Addr} (h : RpA K Hv H vs ws F) {ns : List Int} (e : intsOf ws = some ns) : vs = ns.map V.int := by
  induction ws generalizing vs F ns with
  | nil => cases h; cases e; rfl
  | cons x xs ih =>
    cases h with
    | cons a b =>
      cases x with
      | int i =>
        simp only [intsOf] at e
        cases e2 : intsOf xs with
        | none => rw [e2] at e; cases e
        | some ms =>
          rw [e2] at e
          cases e
          cases a
          rw [ih b e2]
          rfl
      | _ => simp [intsOf] at e
theorem tints_ok {K : PySem.W.Frag} {Hv H : Hp} {x : V} {w : W} {F : List Addr} (h : Rp K Hv H x w F) (ev : Ex Hv H) {ns : List Int} (e : (tels w).bind intsOf = some ns) : ∃ a, x = .ref a ∧ SqT K H a (ns.map V.int) := by
  cases et : tels w with
  | none => rw [et] at e; cases e
  | some ws =>
    rw [et] at e
    obtain ⟨a, vs, rfl, hs, ra⟩ := tels_ok h ev et
    have := ints_ok ra e
    subst this
    exact ⟨a, rfl, hs⟩
theorem opZ_lt (hu : X.A.units + 65 < cLine) : OpR X (compareOp .Lt) (rG X (gCmp .Lt)) := by
  intro pins s σ H x y v u Q I rx ry h
  obtain ⟨S, wx, wy, w, Fx, Fy, m, hx, hy, e, an⟩ := h
  simp only [gCmp] at e
  unfold gLt at e
  split at e
  · cases e; cases hx; cases hy
    exact op_lt pins s σ H _ _ v u Q I rx ry ⟨_, _, rfl, rfl, an.bl m⟩
  · cases e; cases hx; cases hy
    exact op_lt_str pins s σ H _ _ v u Q I rx ry ⟨_, _, rfl, rfl, an.bl m⟩
  · split at e
    · rename_i ns ms en em
      cases e
      obtain ⟨a, rfl, ha⟩ := tints_ok hx hid_ex en
      obtain ⟨b, rfl, hb⟩ := tints_ok hy hid_ex em
      exact op_ltT (by omega) pins s σ H _ _ v u Q I rx ry ⟨a, b, ns, ms, rfl, rfl, ha, hb, an.bl m⟩
    · cases e
theorem opZ_le : OpR X (compareOp .LtE) (rG X (gCmp .LtE)) := by
  intro pins s σ H x y v u Q I rx ry h
  obtain ⟨S, wx, wy, w, Fx, Fy, m, hx, hy, e, an⟩ := h
  simp only [gCmp] at e
  unfold gLe at e
  split at e
  · cases e; cases hx; cases hy
    exact op_le pins s σ H _ _ v u Q I rx ry ⟨_, _, rfl, rfl, an.bl m⟩
  · cases e; cases hx; cases hy
    exact op_le_str pins s σ H _ _ v u Q I rx ry ⟨_, _, rfl, rfl, an.bl m⟩
  · cases e
theorem opZ_gt : OpR X (compareOp .Gt) (rG X (gCmp .Gt)) := by
  intro pins s σ H x y v u Q I rx ry h
  obtain ⟨S, wx, wy, w, Fx, Fy, m, hx, hy, e, an⟩ := h
  simp only [gCmp] at e
  unfold gGt at e
  split at e
  · cases e; cases hx; cases hy
    exact op_gt pins s σ H _ _ v u Q I rx ry ⟨_, _, rfl, rfl, an.bl m⟩
  · cases e; cases hx; cases hy
    exact op_gt_str pins s σ H _ _ v u Q I rx ry ⟨_, _, rfl, rfl, an.bl m⟩
  · cases e
theorem opZ_ge : OpR X (compareOp .GtE) (rG X (gCmp .GtE)) := by
  intro pins s σ H x y v u Q I rx ry h
  obtain ⟨S, wx, wy, w, Fx, Fy, m, hx, hy, e, an⟩ := h
  simp only [gCmp] at e
  unfold gGe at e
  split at e
  · cases e; cases hx; cases hy
    exact op_ge pins s σ H _ _ v u Q I rx ry ⟨_, _, rfl, rfl, an.bl m⟩
  · cases e; cases hx; cases hy
    exact op_ge_str pins s σ H _ _ v u Q I rx ry ⟨_, _, rfl, rfl, an.bl m⟩
  · cases e
theorem seqs_ok {K : PySem.W.Frag} {H Hv : Hp} {x : V} {w : W} {F : List Addr} {ws : List W} (h : Rp K Hv H x w F) (ev : Ex Hv H) (e : seqs w = some ws) : ∃ a vs, x = .ref a ∧ (SqL K H a vs ∨ SqT K H a vs) ∧ RpA K Hv H vs ws [] := by
  unfold seqs at e
  split at e
  · rename_i xs ex
    cases e
    obtain ⟨a, vs, rfl, ha, ra⟩ := els_ok h ev ex
    exact ⟨a, vs, rfl, .inl ha, ra⟩
  · obtain ⟨a, vs, rfl, ha, ra⟩ := tels_ok h ev e
    exact ⟨a, vs, rfl, .inr ha, ra⟩
theorem els_toP {w : W} {ws : List W} (e : els w = some ws) : toP w = .list (toPs ws) := by
  cases w <;> simp [els] at e
  · subst e; rfl
  · subst e; rfl
  · obtain ⟨_, rfl⟩ := e; rfl
/-- in, not in -/
theorem in_ok (hu : X.A.units + 65 < cLine) {S : List Addr} {H : Hp} {x y : V} {wx wy : W} {Fx Fy : List Addr} {b : Bool} (hx : Rp X.K (hid S H) H x wx Fx) (hy : Rp X.K (hid S H) H y wy Fy) (e : gInB wx wy = some b) :
    (∃ i j, x = .str i ∧ y = .str j ∧ b = inS i j) ∨ (∀ (neg : Bool) (Q : VK), Q (.bl (if neg then !b else b)) H → rIn X.K neg x y H Q) ∨
      ((∀ Q : VK, Q (.bl b) H → rInD X.K x y H Q) ∧ ∀ Q : VK, Q (.bl (!b)) H → rNotInD X.K x y H Q) := by
  unfold gInB at e
  split at e
  · cases hx; cases hy; cases e
    exact .inl ⟨_, _, rfl, rfl, rfl⟩
  · split at e
    · rename_i ws es
      obtain ⟨a, vs, rfl, ha, ra⟩ := seqs_ok hy hid_ex es
      split at e
      · rename_i hf
        cases e
        right; left
        intro neg Q q
        have e1 := hx.flat hf.1
        have e2 := ra.flat hf.2
        subst e1 e2
        refine ⟨a, _, rfl, ha, flat_V hf.1, flats_V hf.2, ?_⟩
        rw [inF_V hf.1 hf.2]
        exact q
      · split at e
        · rename_i zs ez
          split at e
          · rename_i hs
            cases e
            have d1 := shp_d hs.1
            have d2 := shp_d hs.2
            have p1 := hx.dp hid_ex _ d1.1
            have p2 := hy.dp hid_ex _ d2.1
            have et := els_toP ez
            have ew : ws = zs := by
              unfold seqs at es
              rw [ez] at es
              exact (Option.some.inj es).symm
            subst ew
            rw [et] at p2
            have d2' := d2.2
            rw [et] at d2'
            right; right
            exact ⟨fun Q q => ⟨_, _, p1, p2, d1.2, d2', q⟩, fun Q q => ⟨_, _, p1, p2, d1.2, d2', q⟩⟩
          · cases e
        · cases e
    · cases e
theorem str1 {i : Str} {c : Nat} (h : i.cps.toList = [c]) : i = ⟨#[c]⟩ := by
  obtain ⟨a⟩ := i
  have : a = #[c] := by
    apply Array.toList_inj.mp
    exact h
  rw [this]
theorem opZ_in (hu : X.A.units + 65 < cLine) : OpR X (compareOp .In) (rG X (gCmp .In)) := by
  intro pins s σ H x y v u Q I rx ry h
  obtain ⟨S, wx, wy, w, Fx, Fy, m, hx, hy, e, an⟩ := h
  cases eb : gInB wx wy with
  | none => simp [gCmp, eb, bW] at e
  | some b =>
    simp [gCmp, eb, bW] at e
    subst e
    rcases in_ok hu hx hy eb with ⟨i, j, rfl, rfl, rfl⟩ | q | ⟨q, _⟩
    · unfold inS at an
      split at an
      · rename_i c hc
        have := str1 hc
        subst this
        exact op_in_sign pins s σ H _ _ v u Q I rx ry ⟨_, _, rfl, rfl, an.bl m⟩
      · exact op_in_str pins s σ H _ _ v u Q I rx ry ⟨_, _, rfl, rfl, an.bl m⟩
    · exact op_in_seq pins s σ H _ _ v u Q I rx ry (q false Q (an.bl m))
    · exact op_inD hu pins s σ H _ _ v u Q I rx ry (q Q (an.bl m))
theorem opZ_nin (hu : X.A.units + 65 < cLine) : OpR X (compareOp .NotIn) (rG X (gCmp .NotIn)) := by
  intro pins s σ H x y v u Q I rx ry h
  obtain ⟨S, wx, wy, w, Fx, Fy, m, hx, hy, e, an⟩ := h
  cases eb : gInB wx wy with
  | none => simp [gCmp, eb, nW] at e
  | some b =>
    simp [gCmp, eb, nW] at e
    subst e
    rcases in_ok hu hx hy eb with ⟨i, j, rfl, rfl, rfl⟩ | q | ⟨_, q⟩
    · unfold inS at an
      split at an
      · rename_i c hc
        have := str1 hc
        subst this
        exact op_notIn_sign pins s σ H _ _ v u Q I rx ry ⟨_, _, rfl, rfl, an.bl m⟩
      · exact op_notIn_str pins s σ H _ _ v u Q I rx ry ⟨_, _, rfl, rfl, an.bl m⟩
    · exact op_notIn_seq pins s σ H _ _ v u Q I rx ry (q true Q (an.bl m))
    · exact op_notInD hu pins s σ H _ _ v u Q I rx ry (q Q (an.bl m))
theorem is_ok {S : List Addr} {H : Hp} {x y : V} {wx wy : W} {Fx Fy : List Addr} {b : Bool} (hx : Rp X.K (hid S H) H x wx Fx) (hy : Rp X.K (hid S H) H y wy Fy) (e : gIsB wx wy = some b) :
    (y = .non ∧ b = decide (x = .non)) ∨ ∃ c d, x = .bl c ∧ y = .bl d ∧ b = decide (c = d) := by
  unfold gIsB at e
  split at e
  · cases hx; cases hy; cases e; exact .inl ⟨rfl, rfl⟩
  · cases hx; cases hy; cases e; exact .inr ⟨_, _, rfl, rfl, rfl⟩
  · cases hx; cases hy; cases e; exact .inl ⟨rfl, rfl⟩
  · cases hx; cases hy; cases e; exact .inl ⟨rfl, rfl⟩
  · cases hx; cases hy; cases e; exact .inl ⟨rfl, rfl⟩
  · cases hx; cases hy; cases e; exact .inl ⟨rfl, rfl⟩
  · cases hx; cases hy; cases e; exact .inl ⟨rfl, rfl⟩
  · cases hx; cases hy; cases e; exact .inl ⟨rfl, rfl⟩
  · cases hx; cases hy; cases e; exact .inl ⟨rfl, rfl⟩
  · cases hx; cases hy; cases e; exact .inl ⟨rfl, rfl⟩
  · cases hx; cases hy; cases e; exact .inl ⟨rfl, rfl⟩
  · cases hx; cases hy; cases e; exact .inl ⟨rfl, rfl⟩
  · cases e
theorem opZ_is : OpR X (compareOp .Is) (rG X (gCmp .Is)) := by
  intro pins s σ H x y v u Q I rx ry h
  obtain ⟨S, wx, wy, w, Fx, Fy, m, hx, hy, e, an⟩ := h
  cases eb : gIsB wx wy with
  | none => simp [gCmp, eb, bW] at e
  | some b =>
    simp [gCmp, eb, bW] at e
    subst e
    rcases is_ok hx hy eb with ⟨rfl, rfl⟩ | ⟨c, d, rfl, rfl, rfl⟩
    · exact op_isN pins s σ H _ _ v u Q I rx ry ⟨rfl, an.bl m⟩
    · exact op_isBl pins s σ H _ _ v u Q I rx ry ⟨_, _, rfl, rfl, an.bl m⟩
theorem opZ_isn : OpR X (compareOp .IsNot) (rG X (gCmp .IsNot)) := by
  intro pins s σ H x y v u Q I rx ry h
  obtain ⟨S, wx, wy, w, Fx, Fy, m, hx, hy, e, an⟩ := h
  cases eb : gIsB wx wy with
  | none => simp [gCmp, eb, nW] at e
  | some b =>
    simp [gCmp, eb, nW] at e
    subst e
    rcases is_ok hx hy eb with ⟨rfl, rfl⟩ | ⟨c, d, rfl, rfl, rfl⟩
    · exact op_notN pins s σ H _ _ v u Q I rx ry ⟨rfl, an.bl m⟩
    · exact op_notBl pins s σ H _ _ v u Q I rx ry ⟨_, _, rfl, rfl, an.bl m⟩
theorem opZ_cmp (hu : X.A.units + 65 < cLine) (op : CmpOp) : OpR X (compareOp op) (rG X (gCmp op)) := by
  cases op
  · exact opZ_eq hu
  · exact opZ_ne hu
  · exact opZ_lt hu
  · exact opZ_le
  · exact opZ_gt
  · exact opZ_ge
  · exact opZ_is
  · exact opZ_isn
  · exact opZ_in hu
  · exact opZ_nin hu
end
end Z

set_option Elab.async false
set_option linter.all false
set_option maxRecDepth 100000
set_option maxHeartbeats 4000000
set_option autoImplicit false
/-! expressions: combinators and their rules -/
namespace Z
open PySem PySem.Spec PyProof.Rows L2

/-! ### combinators -/
def sVar (i : Nat) : Sem := fun ρ => match ρ[i]? with
  | some (some w) => if w.isSh = true then some (.ok w) else none
  | _ => none
def sVarB (i : Nat) : Sem := fun ρ => match ρ[i]? with
  | some (some w) => some (.ok w)
  | _ => none
def sC (w : W) : Sem := fun _ => some (.ok w)
def s1 (fa : Sem) (g : W → Option W) : Sem := fun ρ => match fa ρ with
  | some (.ok a) => match g a with
    | some w => some (.ok w)
    | none => none
  | r => r
def sAnd (fa fb : Sem) : Sem := fun ρ => match fa ρ with
  | some (.ok (.bl true)) => fb ρ
  | some (.ok (.bl false)) => some (.ok (.bl false))
  | some (.er c) => some (.er c)
  | _ => none
def sOr (fa fb : Sem) : Sem := fun ρ => match fa ρ with
  | some (.ok (.bl true)) => some (.ok (.bl true))
  | some (.ok (.bl false)) => fb ρ
  | some (.er c) => some (.er c)
  | _ => none
def sNot (fa : Sem) : Sem := fun ρ => match fa ρ with
  | some (.ok (.bl b)) => some (.ok (.bl (!b)))
  | some (.er c) => some (.er c)
  | _ => none
def sIf (ft fa fb : Sem) : Sem := fun ρ => match ft ρ with
  | some (.ok (.bl true)) => fa ρ
  | some (.ok (.bl false)) => fb ρ
  | some (.er c) => some (.er c)
  | _ => none
def sChain (fa fb fc : Sem) (g g' : W → W → Option W) : Sem := fun ρ => match fa ρ with
  | some (.ok a) => match fb ρ with
    | some (.ok b) => match g a b with
      | some (.bl true) => match fc ρ with
        | some (.ok c) => match g' b c with
          | some w => some (.ok w)
          | none => none
        | r => r
      | some (.bl false) => some (.ok (.bl false))
      | _ => none
    | r => r
  | r => r
inductive RL where
  | ok (ws : List W)
  | er (c : Str)
def sAll : List Sem → Rho → Option RL
  | [], _ => some (.ok [])
  | f :: fs, ρ => match f ρ with
    | some (.ok w) => match sAll fs ρ with
      | some (.ok ws) => some (.ok (w :: ws))
      | r => r
    | some (.er c) => some (.er c)
    | none => none
def sBi (g : List W → Option W) (fs : List Sem) : Sem := fun ρ => match sAll fs ρ with
  | some (.ok ws) => match g ws with
    | some w => some (.ok w)
    | none => none
  | some (.er c) => some (.er c)
  | none => none
def mkTup (ws : List W) : W := if ws.all W.isSh = true then .tup ws else .otup ws
def sTup (fs : List Sem) : Sem := fun ρ => match sAll fs ρ with
  | some (.ok ws) => if ws.length ≤ sizeLine then some (.ok (mkTup ws)) else none
  | some (.er c) => some (.er c)
  | none => none
def sLst (fs : List Sem) : Sem := fun ρ => match sAll fs ρ with
  | some (.ok ws) => if ws.length ≤ sizeLine then some (.ok (.olst ws)) else none
  | some (.er c) => some (.er c)
  | none => none
abbrev Fn := List W → Option R
def sCall (φ : Fn) (fs : List Sem) : Sem := fun ρ => match sAll fs ρ with
  | some (.ok ws) => match φ (ws.map fz) with
    | some (.ok w) => if ws.all W.isSh = true then some (.ok w) else if clo w = true then some (.ok w) else none
    | r => r
  | some (.er c) => some (.er c)
  | none => none
def shOnly (f : Sem) : Sem := fun ρ => match f ρ with
  | some (.ok w) => if w.isSh = true then some (.ok w) else none
  | r => r

/-! ### readings -/
def tA (X : Cx) (W0 : WX) (bo : Bool) (fs : List Sem) (ms : List Nat) : TA := fun σ H Q => ∃ S ρ fp r, In X.K S σ H ρ fp ∧ sAll fs ρ = some r ∧
  match r with
  | .ok ws => ∀ vs H' S' F, Grow S H S' H' → RpA X.K (hid S' H') H' vs ws F → (∀ a ∈ F, a ∈ S') → (bo = false → Fp H fp ms F) → Q vs H'
  | .er c => ∀ C H', X.mg c = some (.ref C) → Ex H H' → W0 (.ref C) none σ H'
section
variable {X : Cx} {W0 : WX} {bo : Bool} {fa fb fc : Sem} {ms ms2 : List Nat} {σ : L2.St} {H : Hp} {Q : VK}
theorem tE.un (h : tE X W0 bo fa ms σ H Q) : ∃ S ρ fs r, In X.K S σ H ρ fs ∧ fa ρ = some r ∧ Po X W0 bo S σ H fs ms r Q := h
theorem var_ok {i : Nat} (h : tE X W0 bo (sVar i) ms σ H Q) : tVar i σ H Q := by
  obtain ⟨S, ρ, fs, r, I, e, p⟩ := h
  unfold sVar at e
  split at e
  · rename_i w ew
    split at e
    · rename_i hs
      cases e
      obtain ⟨v, F, e1, e2, hv⟩ := I.sl.get ew
      have := hv.sh hs
      subst this
      exact ⟨v, e1, p v H S [] (.refl I.mk') hv (fun _ z => nomatch z) fun _ => .nil⟩
    · cases e
  · cases e
theorem varB_ok {i : Nat} (h : tE X W0 true (sVarB i) ms σ H Q) : tVar i σ H Q := by
  obtain ⟨S, ρ, fs, r, I, e, p⟩ := h
  unfold sVarB at e
  split at e
  · rename_i w ew
    cases e
    obtain ⟨v, F, e1, e2, hv⟩ := I.sl.get ew
    exact ⟨v, e1, p v H S F (.refl I.mk') hv (fun a z => I.sub i F a e2 z) fun z => nomatch z⟩
  · cases e
theorem varM_ok {i : Nat} (h : tE X W0 bo (sVarB i) [i] σ H Q) : tVar i σ H Q := by
  obtain ⟨S, ρ, fs, r, I, e, p⟩ := h
  unfold sVarB at e
  split at e
  · rename_i w ew
    cases e
    obtain ⟨v, F, e1, e2, hv⟩ := I.sl.get ew
    exact ⟨v, e1, p v H S F (.refl I.mk') hv (fun a z => I.sub i F a e2 z) fun _ => ⟨fun a ha => .inr ⟨i, List.mem_singleton.mpr rfl, F, e2, ha⟩, fun _ => I.nd.one i F e2⟩⟩
  · cases e
theorem c_ok {w : W} {v : V} (hr : ∀ Hv H, Rp X.K Hv H v w []) (h : tE X W0 bo (sC w) ms σ H Q) : tC v σ H Q := by
  obtain ⟨S, ρ, fs, r, I, e, p⟩ := h
  cases e
  exact p v H S [] (.refl I.mk') (hr _ _) (fun _ z => nomatch z) fun _ => .nil
def rG1 (X : Cx) (g : W → Option W) : V → Hp → VK → Prop := fun x H Q => ∃ S wx w F, MK S H ∧ Rp X.K (hid S H) H x wx F ∧ g wx = some w ∧ An X S H w Q
theorem s1_ok {g : W → Option W} (h : tE X W0 bo (s1 fa g) ms σ H Q) : tUn (rG1 X g) (tE X W0 true fa []) σ H Q := by
  obtain ⟨S, ρ, fs, r, I, e, p⟩ := h
  unfold s1 at e
  cases ea : fa ρ with
  | none => rw [ea] at e; cases e
  | some ra =>
    rw [ea] at e
    cases ra with
    | er c =>
      cases e
      exact ⟨S, ρ, fs, _, I, ea, p.er (Ex.refl _)⟩
    | ok a =>
      refine ⟨S, ρ, fs, _, I, ea, fun v H1 S1 F1 g1 r1 m1 _ => ?_⟩
      simp only at e
      cases eg : g a with
      | none => rw [eg] at e; cases e
      | some w =>
        rw [eg] at e
        cases e
        exact ⟨S1, a, w, F1, g1.mks, r1, eg, p.an g1⟩
/-- a part's answer is a truth: the rest from there -/
theorem bl_of {v : V} {b : Bool} {K : PySem.W.Frag} {Hv H : Hp} {F : List Addr} (h : Rp K Hv H v (.bl b) F) : v = .bl b ∧ F = [] := by cases h; exact ⟨rfl, rfl⟩
theorem Po.step {S S' : List Addr} {H H' : Hp} {fs : List (List Addr)} {r : R} (p : Po X W0 bo S σ H fs ms r Q) (g : Grow S H S' H') : Po X W0 bo S' σ H' fs ms r Q := by
  cases r with
  | er c => exact p.er g.ex
  | ok w => exact fun v H2 S2 F g2 r2 m2 f2 => p v H2 S2 F (g.trans g2) r2 m2 fun hb => ⟨fun a ha => ((f2 hb).1 a ha).imp (fun z => g.ex.back z) id, (f2 hb).2⟩
theorem and_ok (h : tE X W0 bo (sAnd fa fb) ms σ H Q) : tAndV (tE X W0 true fa []) (tE X W0 bo fb ms) σ H Q := by
  obtain ⟨S, ρ, fs, r, I, e, p⟩ := h
  unfold sAnd at e
  split at e
  · rename_i ea
    exact ⟨S, ρ, fs, _, I, ea, fun v H1 S1 F1 g1 r1 m1 _ => ⟨true, (bl_of r1).1, by
      rw [if_pos rfl]
      exact ⟨S1, ρ, fs, r, I.grow g1, e, p.step g1⟩⟩⟩
  · rename_i ea
    cases e
    exact ⟨S, ρ, fs, _, I, ea, fun v H1 S1 F1 g1 r1 m1 _ => ⟨false, (bl_of r1).1, by
      rw [if_neg Bool.false_ne_true]
      exact p _ H1 S1 [] g1 (.bl false) (fun _ z => nomatch z) fun _ => .nil⟩⟩
  · rename_i ea
    cases e
    exact ⟨S, ρ, fs, _, I, ea, p.er (Ex.refl _)⟩
  · cases e
theorem or_ok (h : tE X W0 bo (sOr fa fb) ms σ H Q) : tOrV (tE X W0 true fa []) (tE X W0 bo fb ms) σ H Q := by
  obtain ⟨S, ρ, fs, r, I, e, p⟩ := h
  unfold sOr at e
  split at e
  · rename_i ea
    cases e
    exact ⟨S, ρ, fs, _, I, ea, fun v H1 S1 F1 g1 r1 m1 _ => ⟨true, (bl_of r1).1, by
      rw [if_pos rfl]
      exact p _ H1 S1 [] g1 (.bl true) (fun _ z => nomatch z) fun _ => .nil⟩⟩
  · rename_i ea
    exact ⟨S, ρ, fs, _, I, ea, fun v H1 S1 F1 g1 r1 m1 _ => ⟨false, (bl_of r1).1, by
      rw [if_neg Bool.false_ne_true]
      exact ⟨S1, ρ, fs, r, I.grow g1, e, p.step g1⟩⟩⟩
  · rename_i ea
    cases e
    exact ⟨S, ρ, fs, _, I, ea, p.er (Ex.refl _)⟩
  · cases e
theorem not_ok (h : tE X W0 bo (sNot fa) ms σ H Q) : tNotV (tE X W0 true fa []) σ H Q := by
  obtain ⟨S, ρ, fs, r, I, e, p⟩ := h
  unfold sNot at e
  split at e
  · rename_i b ea
    cases e
    exact ⟨S, ρ, fs, _, I, ea, fun v H1 S1 F1 g1 r1 m1 _ => ⟨b, (bl_of r1).1, p _ H1 S1 [] g1 (.bl _) (fun _ z => nomatch z) fun _ => .nil⟩⟩
  · rename_i ea
    cases e
    exact ⟨S, ρ, fs, _, I, ea, p.er (Ex.refl _)⟩
  · cases e
theorem if_ok (h : tE X W0 bo (sIf fc fa fb) ms σ H Q) : tIf (tT X W0 fc) (tE X W0 bo fa ms) (tE X W0 bo fb ms) σ H Q := by
  obtain ⟨S, ρ, fs, r, I, e, p⟩ := h
  unfold sIf at e
  split at e
  · rename_i ea
    exact ⟨S, ρ, fs, _, I, ea, fun H1 S1 g1 => iteT (⟨S1, ρ, fs, r, I.grow g1, e, p.step g1⟩)⟩
  · rename_i ea
    exact ⟨S, ρ, fs, _, I, ea, fun H1 S1 g1 => iteF (⟨S1, ρ, fs, r, I.grow g1, e, p.step g1⟩)⟩
  · rename_i ea
    cases e
    exact ⟨S, ρ, fs, _, I, ea, fun C H2 hc e2 => p C H2 hc e2⟩
  · cases e
/-! tests -/
theorem tT_of (h : tT X W0 fa σ H (fun b H1 => Q (.bl b) H1)) : tE X W0 true fa [] σ H Q := by
  obtain ⟨S, ρ, fs, r, I, e, p⟩ := h
  refine ⟨S, ρ, fs, r, I, e, ?_⟩
  cases r with
  | er c => exact p
  | ok w =>
    cases w with
    | bl b => exact fun v H' S' F g r1 _ _ => by rw [(bl_of r1).1]; exact p H' S' g
    | _ => exact p.elim
theorem tT_step {QT : Bool → Hp → Prop} {S S' : List Addr} {H' : Hp} {ρ : Rho} {fs : List (List Addr)} {r : R} (I : In X.K S σ H ρ fs) (g : Grow S H S' H') (e : fa ρ = some r)
    (p : PoT X W0 S σ H r QT) : tT X W0 fa σ H' QT := by
  refine ⟨S', ρ, fs, r, I.grow g, e, ?_⟩
  cases r with
  | er c => exact fun C H2 hc e2 => p C H2 hc (g.ex.trans e2)
  | ok w =>
    cases w with
    | bl b => exact fun H2 S2 g2 => p H2 S2 (g.trans g2)
    | _ => exact p
theorem tand_ok {QT : Bool → Hp → Prop} (h : tT X W0 (sAnd fa fb) σ H QT) : tAnd (tT X W0 fa) (tT X W0 fb) σ H QT := by
  obtain ⟨S, ρ, fs, r, I, e, p⟩ := h
  unfold sAnd at e
  split at e
  · rename_i ea
    exact ⟨S, ρ, fs, _, I, ea, fun H1 S1 g1 => iteT (tT_step I g1 e p)⟩
  · rename_i ea
    cases e
    exact ⟨S, ρ, fs, _, I, ea, fun H1 S1 g1 => iteF (p H1 S1 g1)⟩
  · rename_i ea
    cases e
    exact ⟨S, ρ, fs, _, I, ea, p⟩
  · cases e
theorem tor_ok {QT : Bool → Hp → Prop} (h : tT X W0 (sOr fa fb) σ H QT) : tOr (tT X W0 fa) (tT X W0 fb) σ H QT := by
  obtain ⟨S, ρ, fs, r, I, e, p⟩ := h
  unfold sOr at e
  split at e
  · rename_i ea
    cases e
    exact ⟨S, ρ, fs, _, I, ea, fun H1 S1 g1 => iteT (p H1 S1 g1)⟩
  · rename_i ea
    exact ⟨S, ρ, fs, _, I, ea, fun H1 S1 g1 => iteF (tT_step I g1 e p)⟩
  · rename_i ea
    cases e
    exact ⟨S, ρ, fs, _, I, ea, p⟩
  · cases e
theorem tnot_ok {QT : Bool → Hp → Prop} (h : tT X W0 (sNot fa) σ H QT) : tNot (tT X W0 fa) σ H QT := by
  obtain ⟨S, ρ, fs, r, I, e, p⟩ := h
  unfold sNot at e
  split at e
  · rename_i b ea
    cases e
    exact ⟨S, ρ, fs, _, I, ea, fun H1 S1 g1 => p H1 S1 g1⟩
  · rename_i ea
    cases e
    exact ⟨S, ρ, fs, _, I, ea, p⟩
  · cases e
theorem tval_ok {QT : Bool → Hp → Prop} (h : tT X W0 fa σ H QT) : tB (tE X W0 true fa []) σ H QT := tT_of (Q := fun x H1 => ∃ c, x = .bl c ∧ QT c H1) (by
  obtain ⟨S, ρ, fs, r, I, e, p⟩ := h
  refine ⟨S, ρ, fs, r, I, e, ?_⟩
  cases r with
  | er c => exact p
  | ok w =>
    cases w with
    | bl b => exact fun H' S' g => ⟨b, rfl, p H' S' g⟩
    | _ => exact p)
/-- a test from the same thing's value -/
theorem ttest_ok {QT : Bool → Hp → Prop} {t : TE} (k : ∀ σ H Q, tE X W0 true fa [] σ H Q → t σ H Q) (h : tT X W0 fa σ H QT) : tTest t σ H QT := k σ H _ (tT_of (Q := fun x H1 => ∃ c, x = .bl c ∧ QT c H1) (by
  obtain ⟨S, ρ, fs, r, I, e, p⟩ := h
  refine ⟨S, ρ, fs, r, I, e, ?_⟩
  cases r with
  | er c => exact p
  | ok w =>
    cases w with
    | bl b => exact fun H' S' g => ⟨b, rfl, p H' S' g⟩
    | _ => exact p))
theorem chain_ok {g g' : W → W → Option W} (h : tE X W0 bo (sChain fa fb fc g g') ms σ H Q) : tChain (rG X g) (rG X g') (tE X W0 true fa []) (tE X W0 true fb []) (tE X W0 true fc []) σ H Q := by
  obtain ⟨S, ρ, fs, r, I, e, p⟩ := h
  unfold sChain at e
  cases ea : fa ρ with
  | none => rw [ea] at e; cases e
  | some ra =>
    rw [ea] at e
    cases ra with
    | er c =>
      cases e
      exact ⟨S, ρ, fs, _, I, ea, p.er (Ex.refl _)⟩
    | ok a =>
      refine ⟨S, ρ, fs, _, I, ea, fun v H1 S1 F1 g1 r1 m1 _ => ?_⟩
      simp only at e
      cases eb : fb ρ with
      | none => rw [eb] at e; cases e
      | some rb =>
        rw [eb] at e
        cases rb with
        | er c =>
          cases e
          exact ⟨S1, ρ, fs, _, I.grow g1, eb, p.er g1.ex⟩
        | ok b =>
          refine ⟨S1, ρ, fs, _, I.grow g1, eb, fun u H2 S2 F2 g2 r2 m2 _ => ?_⟩
          simp only at e
          have g12 := g1.trans g2
          refine ⟨S2, a, b, ?_⟩
          cases eg : g a b with
          | none => rw [eg] at e; cases e
          | some w =>
            rw [eg] at e
            cases w with
            | bl k =>
              refine ⟨.bl k, F1, F2, g2.mks, r1.mono g2.view _ (same_of g2 g1.mks m1), r2, rfl, fun z H3 S3 F3 g3 r3 _ _ => ⟨k, (bl_of r3).1, ?_⟩⟩
              cases k with
              | false =>
                cases e
                rw [if_neg Bool.false_ne_true]
                exact p _ H3 S3 [] (g12.trans g3) (.bl false) (fun _ z => nomatch z) fun _ => .nil
              | true =>
                rw [if_pos rfl]
                simp only at e
                cases ec : fc ρ with
                | none => rw [ec] at e; cases e
                | some rc =>
                  rw [ec] at e
                  have I3 := I.grow (g12.trans g3)
                  cases rc with
                  | er c =>
                    cases e
                    exact ⟨S3, ρ, fs, _, I3, ec, p.er (g12.trans g3).ex⟩
                  | ok c =>
                    refine ⟨S3, ρ, fs, _, I3, ec, fun t H4 S4 F4 g4 r4 m4 _ => ?_⟩
                    simp only at e
                    cases eg2 : g' b c with
                    | none => rw [eg2] at e; cases e
                    | some w =>
                      rw [eg2] at e
                      cases e
                      have g34 := g3.trans g4
                      exact ⟨S4, b, c, w, F2, F4, g4.mks, r2.mono g34.view _ (same_of g34 g2.mks m2), r4, eg2, p.an (g12.trans g34)⟩
            | _ => cases e
end
end Z

set_option Elab.async false
set_option linter.all false
set_option maxRecDepth 100000
set_option maxHeartbeats 4000000
set_option autoImplicit false
/-! displays, calls, subscripts -/
namespace Z
open PySem PySem.Spec PyProof.Rows L2

theorem fzs_map : ∀ ws : List W, fzs ws = ws.map fz
  | [] => rfl
  | x :: xs => by rw [fzs, fzs_map xs]; rfl

section
variable {X : Cx} {W0 : WX} {bo : Bool} {fa fb : Sem} {fs : List Sem} {ms m1 m2 : List Nat} {σ : L2.St} {H : Hp} {Q : VK}
theorem alln_ok {QA : List V → Hp → Prop} (h : tA X W0 bo [] ms σ H QA) : tNil σ H QA := by
  obtain ⟨S, ρ, fp, r, I, e, p⟩ := h
  cases e
  exact p [] H S [] (.refl I.mk') .nil (fun _ z => nomatch z) fun _ => .nil
theorem allc_ok {QA : List V → Hp → Prop} (h : tA X W0 bo (fa :: fs) (m1 ++ m2) σ H QA) : tCons (tE X W0 bo fa m1) (tA X W0 bo fs m2) σ H QA := by
  obtain ⟨S, ρ, fp, r, I, e, p⟩ := h
  unfold sAll at e
  cases ea : fa ρ with
  | none => rw [ea] at e; cases e
  | some ra =>
    rw [ea] at e
    cases ra with
    | er c =>
      cases e
      exact ⟨S, ρ, fp, _, I, ea, fun C H2 hc e2 => p C H2 hc e2⟩
    | ok w =>
      refine ⟨S, ρ, fp, _, I, ea, fun v H1 S1 F1 g1 r1 k1 f1 => ?_⟩
      simp only at e
      cases eb : sAll fs ρ with
      | none => rw [eb] at e; cases e
      | some rb =>
        rw [eb] at e
        cases rb with
        | er c =>
          cases e
          exact ⟨S1, ρ, fp, _, I.grow g1, eb, fun C H2 hc e2 => p C H2 hc (g1.ex.trans e2)⟩
        | ok ws =>
          cases e
          refine ⟨S1, ρ, fp, _, I.grow g1, eb, fun vs H2 S2 F2 g2 r2 k2 f2 => ?_⟩
          refine p (v :: vs) H2 S2 (F1 ++ F2) (g1.trans g2) (.cons (r1.mono g2.view _ (same_of g2 g1.mks k1)) r2) (fun a ha => ?_) fun hb => ⟨fun a ha => ?_, fun hn => ?_⟩
          · rcases List.mem_append.mp ha with z | z
            · exact g2.inc a (k1 a z)
            · exact k2 a z
          · rcases List.mem_append.mp ha with z | z
            · rcases (f1 hb).1 a z with z | ⟨i, hi, z⟩
              · exact .inl z
              · exact .inr ⟨i, List.mem_append_left _ hi, z⟩
            · rcases (f2 hb).1 a z with z | ⟨i, hi, z⟩
              · exact .inl (g1.ex.back z)
              · exact .inr ⟨i, List.mem_append_right _ hi, z⟩
          · obtain ⟨n1, n2, n3⟩ := List.nodup_append.mp hn
            refine List.nodup_append.mpr ⟨(f1 hb).2 n1, (f2 hb).2 n2, fun a ha b hb2 hab => ?_⟩
            subst hab
            have q1 : H1 a ≠ none := fun z => by have := g1.mks a (k1 a ha); rw [z] at this; exact this
            rcases (f2 hb).1 a hb2 with z | ⟨j, hj, gj, ej, mj⟩
            · exact q1 z
            · rcases (f1 hb).1 a ha with z | ⟨i, hi, gi, ei, mi⟩
              · have := I.mk' a (I.sub j gj a ej mj)
                rw [z] at this; exact this
              · have := I.nd.two i j gi gj a ei ej mi mj
                exact n3 i hi j hj this
theorem tup_ok (h : tE X W0 bo (sTup fs) ms σ H Q) : tTupN (tA X W0 false fs ms) σ H Q := by
  obtain ⟨S, ρ, fp, r, I, e, p⟩ := h
  unfold sTup at e
  cases ea : sAll fs ρ with
  | none => rw [ea] at e; cases e
  | some ra =>
    rw [ea] at e
    cases ra with
    | er c =>
      cases e
      exact ⟨S, ρ, fp, _, I, ea, fun C H2 hc e2 => p C H2 hc e2⟩
    | ok ws =>
      simp only at e
      split at e
      · rename_i hl
        cases e
        refine ⟨S, ρ, fp, _, I, ea, fun vs H1 S1 F1 g1 r1 k1 f1 => ⟨by rw [r1.len]; exact hl, fun q o ho hq => ?_⟩⟩
        have g2 : Grow S1 H1 S1 (upd H1 q (.frz o (.tup vs))) := Grow.newsh g1.mks hq
        have ns : q ∉ S1 := fun z => by have := g1.mks q z; rw [hq] at this; exact this
        have ht : Tn X.K (hid S1 (upd H1 q (.frz o (.tup vs)))) q vs := .inl ⟨o, ho, by rw [hid_out ns]; exact upd_same⟩
        have r2 := r1.mono g2.view ws (same_of g2 g1.mks k1)
        refine p _ _ S1 F1 (g1.trans g2) ?_ k1 fun _ => f1 rfl
        unfold mkTup
        split
        · rename_i hs
          have := r2.sh hs
          subst this
          exact .tup ht r2
        · exact .otup ht r2
      · cases e
theorem lst_ok (h : tE X W0 bo (sLst fs) ms σ H Q) : tLst (tA X W0 false fs ms) σ H Q := by
  obtain ⟨S, ρ, fp, r, I, e, p⟩ := h
  unfold sLst at e
  cases ea : sAll fs ρ with
  | none => rw [ea] at e; cases e
  | some ra =>
    rw [ea] at e
    cases ra with
    | er c =>
      cases e
      exact ⟨S, ρ, fp, _, I, ea, fun C H2 hc e2 => p C H2 hc e2⟩
    | ok ws =>
      simp only at e
      split at e
      · rename_i hl
        cases e
        refine ⟨S, ρ, fp, _, I, ea, fun vs H1 S1 F1 g1 r1 k1 f1 => ⟨by rw [r1.len]; exact hl, fun q hq => ?_⟩⟩
        have g2 : Grow S1 H1 (q :: S1) (upd H1 q (.lst vs)) := Grow.newown g1.mks hq True.intro
        have ns : q ∉ S1 := fun z => by have := g1.mks q z; rw [hq] at this; exact this
        have r2 := r1.mono g2.view ws (same_of g2 g1.mks k1)
        refine p _ _ (q :: S1) (q :: F1) (g1.trans g2) (.olst upd_same r2) (fun a ha => ?_) fun _ => ⟨fun a ha => ?_, fun hn => ?_⟩
        · rcases List.mem_cons.mp ha with rfl | ha
          · exact List.mem_cons_self
          · exact List.mem_cons_of_mem _ (k1 a ha)
        · rcases List.mem_cons.mp ha with rfl | ha
          · exact .inl (g1.ex.back hq)
          · exact (f1 rfl).1 a ha
        · exact List.nodup_cons.mpr ⟨fun z => ns (k1 q z), (f1 rfl).2 hn⟩
      · cases e
/-- by the values of all arguments -/
def rC (X : Cx) (g : List W → Option W) : List V → Hp → VK → Prop := fun vs H Q => ∃ S ws w F, MK S H ∧ RpA X.K (hid S H) H vs ws F ∧ g ws = some w ∧ An X S H w Q
theorem bi_ok {g : List W → Option W} (h : tE X W0 bo (sBi g fs) ms σ H Q) : tCB (rC X g) (tA X W0 true fs []) σ H Q := by
  obtain ⟨S, ρ, fp, r, I, e, p⟩ := h
  unfold sBi at e
  cases ea : sAll fs ρ with
  | none => rw [ea] at e; cases e
  | some ra =>
    rw [ea] at e
    cases ra with
    | er c =>
      cases e
      exact ⟨S, ρ, fp, _, I, ea, fun C H2 hc e2 => p C H2 hc e2⟩
    | ok ws =>
      simp only at e
      split at e
      · rename_i w hg
        cases e
        exact ⟨S, ρ, fp, _, I, ea, fun vs H1 S1 F1 g1 r1 k1 f1 => ⟨S1, ws, w, F1, g1.mks, r1, hg, p.an g1⟩⟩
      · cases e
end

/-! ### a def's promise -/
def AnK (K : PySem.W.Frag) (S : List Addr) (H : Hp) (w : W) (Q : VK) : Prop := ∀ v H' S' F, Grow S H S' H' → Rp K (hid S' H') H' v w F → (∀ a ∈ F, a ∈ S' ∧ H a = none) → F.Nodup → Q v H'
def spD (K : PySem.W.Frag) (mg : Str → Option Value) (n : Nat) (φ : Fn) : Sp := fun vs H Q E => vs.length = n ∧ ∃ S ws r, MK S H ∧ RpA K (hid S H) H vs ws [] ∧ φ ws = some r ∧
  match r with
  | .ok w => AnK K S H w Q
  | .er c => ∀ C H', mg c = some (.ref C) → Ex H H' → E (.ref C) none H'
theorem not_mu {S : List Addr} {H : Hp} {a : Addr} {o : HO} (m : MK S H) (h : H a = some o) (n : ¬ Mu (some o)) : a ∉ S := fun z => by
  have := m a z
  rw [h] at this
  exact n this
section
variable {K : PySem.W.Frag} {Hv Hv' H : Hp}
theorem sqT_keep (k : ∀ a o, Hv a = some o → ¬ Mu (some o) → Hv' a = some o) {a : Addr} {vs : List V} (h : SqT K Hv a vs) : SqT K Hv' a vs := by
  rcases h with h | h
  · rcases h with h | ⟨o, h⟩
    · exact .inl (.inl (k _ _ h fun z => z))
    · exact .inl (.inr ⟨o, k _ _ h fun z => z⟩)
  · exact .inr h
theorem tn_keep (k : ∀ a o, Hv a = some o → ¬ Mu (some o) → Hv' a = some o) {a : Addr} {vs : List V} (h : Tn K Hv a vs) : Tn K Hv' a vs := by
  rcases h with ⟨o, hd, h⟩ | h
  · exact .inl ⟨o, hd, k _ _ h fun z => z⟩
  · exact .inr h
mutual
theorem Rp.keep (k : ∀ a o, Hv a = some o → ¬ Mu (some o) → Hv' a = some o) : ∀ (w : W) {v : V} {F : List Addr}, Rp K Hv H v w F → clo w = true → Rp K Hv' H v w F
  | .non, _, _, h, _ => by cases h; exact .non
  | .bl _, _, _, h, _ => by cases h; exact .bl _
  | .int _, _, _, h, _ => by cases h; exact .int _
  | .str _, _, _, h, _ => by cases h; exact .str _
  | .ty _, _, _, h, _ => by cases h; exact .ty _
  | .lst ws, _, _, h, c => by simp [clo] at c
  | .tup ws, _, _, h, c => by cases h with | tup a b => exact .tup (tn_keep k a) (RpA.keep k ws b (by simpa [clo] using c))
  | .pt ws, _, _, h, c => by cases h with | pt a b => exact .pt (sqT_keep k a) (RpA.keep k ws b (by simpa [clo] using c))
  | .dic _ ws, _, _, h, c => by simp [clo] at c
  | .olst ws, _, _, h, c => by cases h with | olst a b => exact .olst a (RpA.keep k ws b (by simpa [clo] using c))
  | .otup ws, _, _, h, c => by cases h with | otup a b => exact .otup (tn_keep k a) (RpA.keep k ws b (by simpa [clo] using c))
  | .odic _ ws, _, _, h, c => by cases h with | odic a b => exact .odic a (RpA.keep k ws b (by simpa [clo] using c))
theorem RpA.keep (k : ∀ a o, Hv a = some o → ¬ Mu (some o) → Hv' a = some o) : ∀ (ws : List W) {vs : List V} {F : List Addr}, RpA K Hv H vs ws F → clos ws = true → RpA K Hv' H vs ws F
  | [], _, _, h, _ => by cases h; exact .nil
  | w :: ws, _, _, h, c => by
    cases h with
    | cons a b =>
      simp only [clos, Bool.and_eq_true] at c
      exact .cons (Rp.keep k w a c.1) (RpA.keep k ws b c.2)
end
end
section
variable {X : Cx} {W0 : WX} {bo : Bool} {fs : List Sem} {ms : List Nat} {σ : L2.St} {H : Hp} {Q : VK}
theorem sAll_len {ρ : Rho} : ∀ (fs : List Sem) (ws : List W), sAll fs ρ = some (.ok ws) → ws.length = fs.length
  | [], ws, h => by cases h; rfl
  | f :: fs, ws, h => by
    unfold sAll at h
    cases ef : f ρ with
    | none => rw [ef] at h; cases h
    | some rf =>
      rw [ef] at h
      cases rf with
      | er c => cases h
      | ok w =>
        simp only at h
        cases e2 : sAll fs ρ with
        | none => rw [e2] at h; cases h
        | some r2 =>
          rw [e2] at h
          cases r2 with
          | er c => cases h
          | ok us =>
            cases h
            rw [List.length_cons, List.length_cons, sAll_len fs us e2]
theorem call_ok {φ : Fn} (h : tE X W0 bo (sCall φ fs) ms σ H Q) : tCallS (spD X.K X.mg fs.length φ) (WE W0) (tA X W0 true fs []) σ H Q := by
  obtain ⟨S, ρ, fp, r, I, e, p⟩ := h
  unfold sCall at e
  cases ea : sAll fs ρ with
  | none => rw [ea] at e; cases e
  | some ra =>
    rw [ea] at e
    cases ra with
    | er c =>
      cases e
      exact ⟨S, ρ, fp, _, I, ea, fun C H2 hc e2 => p C H2 hc e2⟩
    | ok ws =>
      simp only at e
      refine ⟨S, ρ, fp, _, I, ea, fun vs H1 S1 F1 g1 r1 k1 f1 => ?_⟩
      refine ⟨r1.len.trans (sAll_len fs ws ea), ?_⟩
      have g2 : Grow S1 H1 (S1.filter fun a => decide (a ∉ F1)) H1 → True := fun _ => True.intro
      have mk2 : MK (S1.filter fun a => decide (a ∉ F1)) H1 := fun a ha => g1.mks a (out_of.mp ha).1
      have r2 : RpA X.K (hid (S1.filter fun a => decide (a ∉ F1)) H1) H1 vs (fzs ws) [] := r1.fz view_out ws fun a ha => hid_out fun z => (out_of.mp z).2 ha
      rw [fzs_map] at r2
      cases ep : φ (ws.map fz) with
      | none => rw [ep] at e; cases e
      | some rp =>
        rw [ep] at e
        cases rp with
        | er c =>
          cases e
          exact ⟨_, _, _, mk2, r2, ep, fun C H2 hc e2 => p C H2 hc (g1.ex.trans e2)⟩
        | ok w =>
          simp only at e
          refine ⟨_, _, _, mk2, r2, ep, fun v H2 S2 F2 g3 r3 k3 n3 => ?_⟩
          by_cases hs : ws.all W.isSh = true
          · rw [if_pos hs] at e
            cases e
            have := r1.sh hs
            subst this
            have e1 : (S1.filter fun a => decide (a ∉ ([] : List Addr))) = S1 := by simp
            rw [e1] at g3
            exact p v H2 S2 F2 (g1.trans g3) r3 (fun a ha => (k3 a ha).1) fun _ => ⟨fun a ha => .inl (g1.ex.back (k3 a ha).2), fun _ => n3⟩
          · rw [if_neg hs] at e
            split at e
            · rename_i hc
              cases e
              have g4 : Grow S1 H1 (S1 ++ S2) H2 := ⟨g3.ex, fun a ha => List.mem_append_left _ ha, fun a ha => by
                rcases List.mem_append.mp ha with z | z
                · exact .inl z
                · rcases g3.new a z with z | z
                  · exact .inl (out_of.mp z).1
                  · exact .inr z, fun a ha => by
                rcases List.mem_append.mp ha with z | z
                · have m := g1.mks a z
                  cases q : H1 a with
                  | none => rw [q] at m; exact m.elim
                  | some o => rw [q] at m; rw [g3.ex a o q]; exact m
                · exact g3.mks a z⟩
              have r4 : Rp X.K (hid (S1 ++ S2) H2) H2 v w F2 := r3.keep (fun a o ho nm => by
                have ho2 : H2 a = some o := hid_ex a o ho
                rw [hid_out (not_mu g4.mks ho2 nm)]
                exact ho2) w hc
              exact p v H2 (S1 ++ S2) F2 (g1.trans g4) r4 (fun a ha => List.mem_append_right _ (k3 a ha).1) fun _ => ⟨fun a ha => .inl (g1.ex.back (k3 a ha).2), fun _ => n3⟩
            · cases e
end

/-! ### subscripts -/
def gIdx : W → W → Option W
  | .str z, .int i => if z.length ≤ sizeLine then (atI z.cps.toList i).map fun c => .str ⟨#[c]⟩ else none
  | .lst xs, .int i => atI xs i
  | .klst xs, .int i => atI xs i
  | .olst xs, .int i => atI xs i
  | .tup xs, .int i => atI xs i
  | .pt xs, .int i => atI xs i
  | .otup xs, .int i => atI xs i
  | _, _ => none
def rIxZ (X : Cx) : R2 := fun x y H Q => ∃ S wx wy w Fx Fy, MK S H ∧ Rp X.K (hid S H) H x wx Fx ∧ Rp X.K (hid S H) H y wy Fy ∧ gIdx wx wy = some w ∧ ∀ v F, Rp X.K (hid S H) H v w F → (∀ a ∈ F, a ∈ Fx) → Q v H
section
variable {X : Cx} {W0 : WX} {bo : Bool} {fa fb : Sem} {ms : List Nat} {σ : L2.St} {H : Hp} {Q : VK}
theorem RpA.at {K : PySem.W.Frag} {Hv H : Hp} {vs : List V} {ws : List W} {F : List Addr} (h : RpA K Hv H vs ws F) {i : Int} {w : W} (e : atI ws i = some w) : ∃ v G, atI vs i = some v ∧ Rp K Hv H v w G ∧ ∀ a ∈ G, a ∈ F := by
  unfold atI at e ⊢
  rw [h.len]
  cases ej : ixN ws.length i with
  | none => rw [ej] at e; cases e
  | some j =>
    rw [ej] at e
    obtain ⟨v, G, h1, h2, h3⟩ := h.get (i := j) (by simpa using e)
    exact ⟨v, G, by simpa using h1, h2, h3⟩
theorem ix_Z : IxR X (rIxZ X) := by
  intro value slice pins s σ H x y v u Q I rx ry h hs
  obtain ⟨S, wx, wy, w, Fx, Fy, m, hx, hy, e, q⟩ := h
  unfold gIdx at e
  split at e
  · split at e
    · rename_i z i hl
      cases hx; cases hy
      cases ec : atI z.cps.toList i with
      | none => rw [ec] at e; cases e
      | some c =>
        rw [ec] at e
        cases e
        exact ix_str value slice pins s σ H _ _ v u Q I rx ry ⟨_, _, c, rfl, rfl, hl, ec, q _ [] (.str _) (fun _ z => nomatch z)⟩ hs
    · cases e
  · cases hy
    cases hx with
    | lst a b =>
      obtain ⟨v1, G, h1, h2, h3⟩ := b.at e
      exact ix_list value slice pins s σ H _ _ v u Q I rx ry ⟨_, _, _, v1, rfl, rfl, .inl (ex_rd hid_ex a), h1, q _ G h2 (fun z hz => h3 z hz)⟩ hs
  · cases hy
    cases hx with
    | klst a b =>
      obtain ⟨v1, G, h1, h2, h3⟩ := b.at e
      exact ix_list value slice pins s σ H _ _ v u Q I rx ry ⟨_, _, _, v1, rfl, rfl, ex_l hid_ex a, h1, q _ G h2 (fun z hz => h3 z hz)⟩ hs
  · cases hy
    cases hx with
    | olst a b =>
      obtain ⟨v1, G, h1, h2, h3⟩ := b.at e
      exact ix_list value slice pins s σ H _ _ v u Q I rx ry ⟨_, _, _, v1, rfl, rfl, SqL.of a, h1, q _ G h2 (fun z hz => List.mem_cons_of_mem _ (h3 z hz))⟩ hs
  · cases hy
    cases hx with
    | tup a b =>
      obtain ⟨v1, G, h1, h2, h3⟩ := b.at e
      exact ix_tup value slice pins s σ H _ _ v u Q I rx ry ⟨_, _, _, v1, rfl, rfl, ex_t hid_ex a.sq, h1, q _ G h2 (fun z hz => h3 z hz)⟩ hs
  · cases hy
    cases hx with
    | pt a b =>
      obtain ⟨v1, G, h1, h2, h3⟩ := b.at e
      exact ix_tup value slice pins s σ H _ _ v u Q I rx ry ⟨_, _, _, v1, rfl, rfl, ex_t hid_ex a, h1, q _ G h2 (fun z hz => h3 z hz)⟩ hs
  · cases hy
    cases hx with
    | otup a b =>
      obtain ⟨v1, G, h1, h2, h3⟩ := b.at e
      exact ix_tup value slice pins s σ H _ _ v u Q I rx ry ⟨_, _, _, v1, rfl, rfl, ex_t hid_ex a.sq, h1, q _ G h2 (fun z hz => h3 z hz)⟩ hs
  · cases e
theorem idx_raw {S : List Addr} {ρ : Rho} {fs : List (List Addr)} {r : R} (I : In X.K S σ H ρ fs) (e : s2 fa fb gIdx ρ = some r)
    (per : ∀ c, r = .er c → Po X W0 true S σ H fs [] (.er c) Q) (pok : ∀ w, r = .ok w → ∀ v H' S' F, Grow S H S' H' → Rp X.K (hid S' H') H' v w F → (∀ a ∈ F, a ∈ S') → Q v H') :
    tOp (rIxZ X) (tE X W0 true fa []) (tE X W0 true fb []) σ H Q := by
  unfold s2 at e
  cases ea : fa ρ with
  | none => rw [ea] at e; cases e
  | some ra =>
    rw [ea] at e
    cases ra with
    | er c =>
      cases e
      exact ⟨S, ρ, fs, _, I, ea, (per c rfl).er (Ex.refl _)⟩
    | ok a =>
      refine ⟨S, ρ, fs, _, I, ea, fun v H1 S1 F1 g1 r1 m1 _ => ?_⟩
      simp only at e
      cases eb : fb ρ with
      | none => rw [eb] at e; cases e
      | some rb =>
        rw [eb] at e
        cases rb with
        | er c =>
          cases e
          exact ⟨S1, ρ, fs, _, I.grow g1, eb, (per c rfl).er g1.ex⟩
        | ok b =>
          refine ⟨S1, ρ, fs, _, I.grow g1, eb, fun u H2 S2 F2 g2 r2 m2 _ => ?_⟩
          simp only at e
          cases eg : gIdx a b with
          | none => rw [eg] at e; cases e
          | some w =>
            rw [eg] at e
            cases e
            exact ⟨S2, a, b, w, F1, F2, g2.mks, r1.mono g2.view _ (same_of g2 g1.mks m1), r2, eg, fun v F hr hF => pok w rfl v H2 S2 F (g1.trans g2) hr fun z hz => g2.inc z (m1 z (hF z hz))⟩
theorem idxB_ok (h : tE X W0 true (s2 fa fb gIdx) ms σ H Q) : tOp (rIxZ X) (tE X W0 true fa []) (tE X W0 true fb []) σ H Q := by
  obtain ⟨S, ρ, fs, r, I, e, p⟩ := h
  refine idx_raw I e (fun c ec => ?_) (fun w ew v H' S' F g hr hF => ?_)
  · subst ec; exact p.er (Ex.refl _)
  · subst ew; exact p v H' S' F g hr hF fun z => nomatch z
theorem idx_ok (h : tE X W0 bo (shOnly (s2 fa fb gIdx)) ms σ H Q) : tOp (rIxZ X) (tE X W0 true fa []) (tE X W0 true fb []) σ H Q := by
  obtain ⟨S, ρ, fs, r, I, e, p⟩ := h
  unfold shOnly at e
  cases ee : s2 fa fb gIdx ρ with
  | none => rw [ee] at e; cases e
  | some r0 =>
    rw [ee] at e
    refine idx_raw I ee (fun c ec => ?_) (fun w ew v H' S' F g hr hF => ?_)
    · subst ec; cases e; exact p.er (Ex.refl _)
    · subst ew
      simp only at e
      split at e
      · rename_i hs
        cases e
        have := hr.sh hs
        subst this
        exact p v H' S' [] g hr hF fun _ => .nil
      · cases e
end
/-! ### slices -/
inductive RO where
  | ok (i : Option Int)
  | er (c : Str)
def sO : Option Sem → Rho → Option RO
  | none, _ => some (.ok none)
  | some f, ρ => match f ρ with
    | some (.ok (.int i)) => some (.ok (some i))
    | some (.er c) => some (.er c)
    | _ => none
def cutW (xs : List W) (lo hi : Option Int) : List W := (xs.drop (HT.sIx xs.length 0 lo)).take (HT.sIx xs.length xs.length hi - HT.sIx xs.length 0 lo)
def gSl (w : W) (lo hi : Option Int) : Option W := match w with
  | .str z => if z.length ≤ sizeLine then some (.str (cutS z lo hi)) else none
  | w => match els w with
    | some xs => some (.olst (cutW xs lo hi))
    | none => match nels w with
      | some xs => some (.tup (cutW xs lo hi))
      | none => none
def sSl (fa : Sem) (lo hi : Option Sem) : Sem := fun ρ => match fa ρ with
  | some (.ok a) => match sO lo ρ with
    | some (.ok l) => match sO hi ρ with
      | some (.ok u) => match gSl a l u with
        | some w => some (.ok w)
        | none => none
      | some (.er c) => some (.er c)
      | none => none
    | some (.er c) => some (.er c)
    | none => none
  | r => r
def tO (X : Cx) (W0 : WX) (f : Option Sem) : TO := fun σ H Q => ∃ S ρ fp r, In X.K S σ H ρ fp ∧ sO f ρ = some r ∧
  match r with
  | .ok o => ∀ H' S', Grow S H S' H' → Q o H'
  | .er c => ∀ C H', X.mg c = some (.ref C) → Ex H H' → W0 (.ref C) none σ H'
def rSlZ (X : Cx) : V → Option Int → Option Int → Hp → VK → Prop := fun x lo hi H Q => ∃ S wx w Fx, MK S H ∧ Rp X.K (hid S H) H x wx Fx ∧ gSl wx lo hi = some w ∧ An X S H w Q
section
variable {X : Cx} {W0 : WX} {bo : Bool} {fa fb : Sem} {lo hi : Option Sem} {ms : List Nat} {σ : L2.St} {H : Hp} {Q : VK}
theorem RpA.drop {K : PySem.W.Frag} {Hv H : Hp} : ∀ (n : Nat) {vs : List V} {ws : List W}, RpA K Hv H vs ws [] → RpA K Hv H (vs.drop n) (ws.drop n) []
  | 0, _, _, h => h
  | n + 1, vs, ws, h => by
    cases ws with
    | nil => cases h; exact .nil
    | cons w ws =>
      generalize hF : ([] : List Addr) = F at h
      cases h with
      | cons a b =>
        have := List.append_eq_nil_iff.mp hF.symm
        rw [this.2] at b
        rw [← hF]
        exact RpA.drop n b
theorem RpA.take {K : PySem.W.Frag} {Hv H : Hp} : ∀ (n : Nat) {vs : List V} {ws : List W}, RpA K Hv H vs ws [] → RpA K Hv H (vs.take n) (ws.take n) []
  | 0, _, _, h => .nil
  | n + 1, vs, ws, h => by
    cases ws with
    | nil => cases h; exact .nil
    | cons w ws =>
      generalize hF : ([] : List Addr) = F at h
      cases h with
      | cons a b =>
        have := List.append_eq_nil_iff.mp hF.symm
        rw [this.2] at b
        rw [this.1] at a
        rw [← hF]
        exact RpA.cons (F := []) (G := []) a (RpA.take n b)
theorem RpA.cut {K : PySem.W.Frag} {Hv H : Hp} {vs : List V} {ws : List W} (h : RpA K Hv H vs ws []) (l u : Option Int) : RpA K Hv H (cutV vs l u) (cutW ws l u) [] := by
  unfold cutV cutW
  rw [h.len]
  exact RpA.take _ (RpA.drop _ h)
theorem sIx_full {α : Type} {xs : List α} {l u : Option Int} (h : HT.sIx xs.length 0 l = 0 ∧ HT.sIx xs.length xs.length u = xs.length) : (xs.drop (HT.sIx xs.length 0 l)).take (HT.sIx xs.length xs.length u - HT.sIx xs.length 0 l) = xs := by
  rw [h.1, h.2]
  simp
theorem sl_Z : SlR X (rSlZ X) := by
  intro pins s σ H x v vl vu lo hi sl Q I rx hs pl pu h
  obtain ⟨S, wx, w, Fx, m, hx, e, an⟩ := h
  unfold gSl at e
  split at e
  · split at e
    · rename_i hl
      cases e; cases hx
      exact sl_str pins s σ H _ v vl vu lo hi sl Q I rx hs pl pu ⟨_, rfl, hl, an.str m⟩
    · cases e
  · split at e
    · rename_i xs ex
      cases e
      obtain ⟨a, vs, rfl, ha, ra⟩ := els_ok hx hid_ex ex
      exact sl_list pins s σ H _ v vl vu lo hi sl Q I rx hs pl pu ⟨a, vs, rfl, ha, fun p hp => an.newl m (ra.cut lo hi) hp⟩
    · split at e
      · rename_i xs ex
        cases e
        obtain ⟨a, vs, rfl, ha, ra⟩ := nels_ok hx ex
        refine sl_tupN pins s σ H _ v vl vu lo hi sl Q I rx hs pl pu ⟨a, vs, rfl, ex_t hid_ex ha.sq, fun z => ?_, fun _ p o ho hp => an.newt m (ra.cut lo hi) hp o ho⟩
        have e1 : cutW xs lo hi = xs := by
          unfold cutW
          rw [ra.len] at z
          exact sIx_full z
        rw [e1] at an
        exact an.same m (.tup ha ra)
      · cases e
theorem on_ok {QO : Option Int → Hp → Prop} (h : tO X W0 none σ H QO) : tNoPart σ H QO := by
  obtain ⟨S, ρ, fp, r, I, e, p⟩ := h
  cases e
  exact p H S (.refl I.mk')
theorem os_ok {QO : Option Int → Hp → Prop} (h : tO X W0 (some fa) σ H QO) : tPart (tE X W0 true fa []) σ H QO := by
  obtain ⟨S, ρ, fp, r, I, e, p⟩ := h
  simp only [sO] at e
  split at e
  · rename_i ea
    cases e
    exact ⟨S, ρ, fp, _, I, ea, fun v H' S' F g r1 _ _ => ⟨_, by cases r1; rfl, p H' S' g⟩⟩
  · rename_i ea
    cases e
    exact ⟨S, ρ, fp, _, I, ea, fun C H2 hc e2 => p C H2 hc e2⟩
  · cases e
theorem sl_ok (h : tE X W0 bo (sSl fa lo hi) ms σ H Q) : tSl (rSlZ X) (tE X W0 true fa []) (tO X W0 lo) (tO X W0 hi) σ H Q := by
  obtain ⟨S, ρ, fp, r, I, e, p⟩ := h
  unfold sSl at e
  cases ea : fa ρ with
  | none => rw [ea] at e; cases e
  | some ra =>
    rw [ea] at e
    cases ra with
    | er c =>
      cases e
      exact ⟨S, ρ, fp, _, I, ea, p.er (Ex.refl _)⟩
    | ok a =>
      refine ⟨S, ρ, fp, _, I, ea, fun v H1 S1 F1 g1 r1 m1 _ => ?_⟩
      simp only at e
      cases el : sO lo ρ with
      | none => rw [el] at e; cases e
      | some rl =>
        rw [el] at e
        cases rl with
        | er c =>
          cases e
          exact ⟨S1, ρ, fp, _, I.grow g1, el, fun C H2 hc e2 => p C H2 hc (g1.ex.trans e2)⟩
        | ok l =>
          refine ⟨S1, ρ, fp, _, I.grow g1, el, fun H2 S2 g2 => ?_⟩
          simp only at e
          have g12 := g1.trans g2
          cases eu : sO hi ρ with
          | none => rw [eu] at e; cases e
          | some ru =>
            rw [eu] at e
            cases ru with
            | er c =>
              cases e
              exact ⟨S2, ρ, fp, _, I.grow g12, eu, fun C H3 hc e2 => p C H3 hc (g12.ex.trans e2)⟩
            | ok u =>
              refine ⟨S2, ρ, fp, _, I.grow g12, eu, fun H3 S3 g3 => ?_⟩
              simp only at e
              split at e
              · rename_i w hw
                cases e
                have g23 := g2.trans g3
                exact ⟨S3, a, w, F1, g3.mks, r1.mono g23.view _ (same_of g23 g1.mks m1), hw, p.an (g12.trans g3)⟩
              · cases e
end
end Z

set_option Elab.async false
set_option linter.all false
set_option maxRecDepth 100000
set_option maxHeartbeats 4000000
set_option autoImplicit false
/-! built-in functions by values -/
namespace Z
open PySem PySem.Spec PyProof.Rows L2

def gLen : List W → Option W
  | [.str z] => if z.length ≤ sizeLine then some (.int z.length) else none
  | [.lst xs] => some (.int xs.length)
  | [.klst xs] => some (.int xs.length)
  | [.olst xs] => some (.int xs.length)
  | [.tup xs] => some (.int xs.length)
  | [.pt xs] => some (.int xs.length)
  | [.otup xs] => some (.int xs.length)
  | [.dic _ xs] => some (.int xs.length)
  | [.odic _ xs] => some (.int xs.length)
  | _ => none
def gInt : List W → Option W
  | [.int i] => some (.int i)
  | [.bl b] => some (.int (if b then 1 else 0))
  | [.str a] => match PySem.intText? a with
    | some n => if a.length ≤ 640 then some (.int n) else none
    | none => none
  | _ => none
def gStr : List W → Option W
  | [.int i] => if i.natAbs.log2 < 1920 then some (.str (toString i)) else none
  | [.str a] => some (.str a)
  | _ => none
def gAbs : List W → Option W
  | [.int i] => some (.int (if i < 0 then -i else i))
  | _ => none
def maxL : List Int → Int
  | [] => 0
  | [x] => x
  | x :: y :: r => max x (maxL (y :: r))
def minL : List Int → Int
  | [] => 0
  | [x] => x
  | x :: y :: r => min x (minL (y :: r))
def gMax : List W → Option W
  | [.int i, .int j] => some (.int (if j > i then j else i))
  | [w] => match (els w).bind intsOf with
    | some (x :: r) => some (.int (maxL (x :: r)))
    | _ => none
  | _ => none
def gMin : List W → Option W
  | [.int i, .int j] => some (.int (if j < i then j else i))
  | [w] => match (els w).bind intsOf with
    | some (x :: r) => some (.int (minL (x :: r)))
    | _ => none
  | _ => none
def gList : List W → Option W
  | [w] => match seqs w with
    | some xs => some (.olst xs)
    | none => none
  | _ => none
def gTuple : List W → Option W
  | [w] => match els w with
    | some xs => some (.tup xs)
    | none => match nels w with
      | some xs => some (.tup xs)
      | none => none
  | _ => none
def gSum : List W → Option W
  | [w] => match (els w).bind intsOf with
    | some ns => some (.int ns.sum)
    | none => none
  | _ => none
def sortI (ns : List Int) : List Int := ns.mergeSort (fun a b => decide (a ≤ b))
def strsOf : List W → Option (List Str)
  | [] => some []
  | .str i :: r => (strsOf r).map (i :: ·)
  | _ => none
def leS (a b : Str) : Prop := a.cps.toList ≤ b.cps.toList
instance (a b : Str) : Decidable (leS a b) := inferInstanceAs (Decidable (a.cps.toList ≤ b.cps.toList))
def sortS (xs : List Str) : List Str := xs.mergeSort (fun a b => decide (leS a b))
theorem sortS_ok (xs : List Str) : (sortS xs).Perm xs ∧ (sortS xs).Pairwise leS := by
  refine ⟨List.mergeSort_perm _ _, ?_⟩
  have := List.pairwise_mergeSort (le := fun (a b : Str) => decide (leS a b)) (fun a b c h1 h2 => by
    simp only [decide_eq_true_eq] at *
    exact List.le_trans h1 h2) (fun a b => by
    have := List.le_total a.cps.toList b.cps.toList
    simpa [leS] using this) xs
  exact this.imp fun h => by simpa using h
theorem rising_pw : ∀ (p : Str) (l : List Str), risingS p l = true → (p :: l).Pairwise leS
  | p, [], _ => by simp
  | p, x :: r, h => by
    simp only [risingS, Bool.and_eq_true, Bool.not_eq_true'] at h
    have ih := rising_pw x r h.2
    have hx : leS p x := by
      have := h.1
      rw [ltCps_eq, decide_eq_false_iff_not] at this
      exact List.not_lt.mp this
    refine List.pairwise_cons.mpr ⟨fun y hy => ?_, ih⟩
    rcases List.mem_cons.mp hy with rfl | hy
    · exact hx
    · exact List.le_trans hx ((List.pairwise_cons.mp ih).1 y hy)
theorem sortS_uniq {xs ys : List Str} (hp : ys.Perm xs) (hs : sortedS ys = true) : ys = sortS xs := by
  obtain ⟨q1, q2⟩ := sortS_ok xs
  have h1 : ys.Pairwise leS := by
    cases ys with
    | nil => exact List.Pairwise.nil
    | cons y ys => exact rising_pw y ys hs
  exact List.Perm.eq_of_pairwise (fun a b _ _ h1 h2 => by
    have e : a.cps.toList = b.cps.toList := List.le_antisymm h1 h2
    cases a; cases b
    congr 1
    exact Array.toList_inj.mp e) h1 q2 (hp.trans q1.symm)
def gSorted : List W → Option W
  | [w] => match (els w).bind intsOf with
    | some ns => some (.olst ((sortI ns).map .int))
    | none => match (els w).bind strsOf with
      | some ys => if ys.length < 64 then some (.olst ((sortS ys).map .str)) else none
      | none => none
  | _ => none
def boolsOf : List W → Option (List Bool)
  | [] => some []
  | .bl b :: r => (boolsOf r).map (b :: ·)
  | _ => none
def gAll : List W → Option W
  | [w] => match (els w).bind boolsOf with
    | some bs => some (.bl (bs.all id))
    | none => none
  | _ => none
def tyN : W → Option String
  | .non => some "NoneType"
  | .bl _ => some "bool"
  | .int _ => some "int"
  | .str _ => some "str"
  | .lst _ => some "list"
  | .olst _ => some "list"
  | .tup _ => some "tuple"
  | .pt _ => some "tuple"
  | .otup _ => some "tuple"
  | .dic _ _ => some "dict"
  | .odic _ _ => some "dict"
  | .klst _ => none
  | .ty _ => none
def isiB (a b : String) : Bool := a == b || (a == "bool" && b == "int")
def tyKnown (n : String) : Bool := n == "int" || n == "bool" || n == "str" || n == "list" || n == "tuple" || n == "dict"
def gIsi : List W → Option W
  | [w, .ty n] => match tyN w with
    | some a => if tyKnown n = true then some (.bl (isiB a n)) else none
    | none => none
  | _ => none

section
variable {X : Cx}
theorem ra1 {K : PySem.W.Frag} {Hv H : Hp} {vs : List V} {w : W} {F : List Addr} (h : RpA K Hv H vs [w] F) : ∃ v, vs = [v] ∧ Rp K Hv H v w F := by
  cases h with
  | cons a b =>
    cases b
    rw [List.append_nil]
    exact ⟨_, rfl, a⟩
theorem ra2 {K : PySem.W.Frag} {Hv H : Hp} {vs : List V} {w u : W} {F : List Addr} (h : RpA K Hv H vs [w, u] F) : ∃ v x F1 F2, vs = [v, x] ∧ Rp K Hv H v w F1 ∧ Rp K Hv H x u F2 := by
  cases h with
  | cons a b =>
    obtain ⟨x, rfl, hx⟩ := ra1 b
    exact ⟨_, _, _, _, rfl, a, hx⟩
theorem callZ_len : CallR X (.builtin "len") (rC X gLen) := by
  intro pins s σ H vs us Q I r h
  obtain ⟨S, ws, w, F, m, ra, e, an⟩ := h
  unfold gLen at e
  split at e
  · split at e
    · rename_i z hl
      cases e
      obtain ⟨v, rfl, hv⟩ := ra1 ra
      cases hv
      exact call_len_str pins s σ H _ us Q I r ⟨_, rfl, hl, an.int m⟩
    · cases e
  · cases e
    obtain ⟨v, rfl, hv⟩ := ra1 ra
    cases hv with | lst a b => exact call_len_seq pins s σ H _ us Q I r ⟨_, _, rfl, .inl (.inl (ex_rd hid_ex a)), by rw [b.len]; exact an.int m⟩
  · cases e
    obtain ⟨v, rfl, hv⟩ := ra1 ra
    cases hv with | klst a b => exact call_len_seq pins s σ H _ us Q I r ⟨_, _, rfl, .inl (ex_l hid_ex a), by rw [b.len]; exact an.int m⟩
  · cases e
    obtain ⟨v, rfl, hv⟩ := ra1 ra
    cases hv with | olst a b => exact call_len_seq pins s σ H _ us Q I r ⟨_, _, rfl, .inl (SqL.of a), by rw [b.len]; exact an.int m⟩
  · cases e
    obtain ⟨v, rfl, hv⟩ := ra1 ra
    cases hv with | tup a b => exact call_len_seq pins s σ H _ us Q I r ⟨_, _, rfl, .inr (ex_t hid_ex a.sq), by rw [b.len]; exact an.int m⟩
  · cases e
    obtain ⟨v, rfl, hv⟩ := ra1 ra
    cases hv with | pt a b => exact call_len_seq pins s σ H _ us Q I r ⟨_, _, rfl, .inr (ex_t hid_ex a), by rw [b.len]; exact an.int m⟩
  · cases e
    obtain ⟨v, rfl, hv⟩ := ra1 ra
    cases hv with | otup a b => exact call_len_seq pins s σ H _ us Q I r ⟨_, _, rfl, .inr (ex_t hid_ex a.sq), by rw [b.len]; exact an.int m⟩
  · cases e
    obtain ⟨v, rfl, hv⟩ := ra1 ra
    cases hv with | dic a b => exact call_lenD pins s σ H _ us Q I r ⟨_, _, rfl, hid_ex _ _ a, by have := b.len; rw [List.length_map] at this; rw [this]; exact an.int m⟩
  · cases e
    obtain ⟨v, rfl, hv⟩ := ra1 ra
    cases hv with | odic a b => exact call_lenD pins s σ H _ us Q I r ⟨_, _, rfl, a, by have := b.len; rw [List.length_map] at this; rw [this]; exact an.int m⟩
  · cases e
theorem callZ_int : CallR X (.type "int") (rC X gInt) := by
  intro pins s σ H vs us Q I r h
  obtain ⟨S, ws, w, F, m, ra, e, an⟩ := h
  unfold gInt at e
  split at e
  · cases e
    obtain ⟨v, rfl, hv⟩ := ra1 ra
    cases hv
    exact call_int1 pins s σ H _ us Q I r (.inl ⟨_, rfl, an.int m⟩)
  · cases e
    obtain ⟨v, rfl, hv⟩ := ra1 ra
    cases hv
    exact call_int1 pins s σ H _ us Q I r (.inr ⟨_, rfl, an.int m⟩)
  · split at e
    · rename_i n hn
      split at e
      · rename_i hl
        cases e
        obtain ⟨v, rfl, hv⟩ := ra1 ra
        cases hv
        exact call_int_str pins s σ H _ us Q I r ⟨_, _, rfl, hn, hl, an.int m⟩
      · cases e
    · cases e
  · cases e
theorem callZ_str : CallR X (.type "str") (rC X gStr) := by
  intro pins s σ H vs us Q I r h
  obtain ⟨S, ws, w, F, m, ra, e, an⟩ := h
  unfold gStr at e
  split at e
  · split at e
    · rename_i hl
      cases e
      obtain ⟨v, rfl, hv⟩ := ra1 ra
      cases hv
      exact call_str_int pins s σ H _ us Q I r ⟨_, rfl, hl, an.str m⟩
    · cases e
  · cases e
    obtain ⟨v, rfl, hv⟩ := ra1 ra
    cases hv
    exact SkE.call_str_str pins s σ H _ us Q I r ⟨_, rfl, an.str m⟩
  · cases e
theorem callZ_abs : CallR X (.builtin "abs") (rC X gAbs) := by
  intro pins s σ H vs us Q I r h
  obtain ⟨S, ws, w, F, m, ra, e, an⟩ := h
  unfold gAbs at e
  split at e
  · cases e
    obtain ⟨v, rfl, hv⟩ := ra1 ra
    cases hv
    exact call_abs pins s σ H _ us Q I r ⟨_, rfl, an.int m⟩
  · cases e
theorem eints_ok {K : PySem.W.Frag} {Hv H : Hp} {x : V} {w : W} {F : List Addr} (h : Rp K Hv H x w F) (ev : Ex Hv H) {ns : List Int} (e : (els w).bind intsOf = some ns) : ∃ a, x = .ref a ∧ SqL K H a (ns.map V.int) := by
  cases et : els w with
  | none => rw [et] at e; cases e
  | some ws =>
    rw [et] at e
    obtain ⟨a, vs, rfl, hs, ra⟩ := els_ok h ev et
    have := ints_ok ra e
    subst this
    exact ⟨a, rfl, hs⟩
theorem maxL_ok : ∀ (x : Int) (r : List Int), maxL (x :: r) ∈ x :: r ∧ ∀ y ∈ x :: r, y ≤ maxL (x :: r)
  | x, [] => ⟨List.mem_cons_self, fun y hy => by simp at hy; subst hy; exact Int.le_refl _⟩
  | x, z :: r => by
    obtain ⟨h1, h2⟩ := maxL_ok z r
    have e : maxL (x :: z :: r) = max x (maxL (z :: r)) := rfl
    rw [e]
    refine ⟨?_, fun y hy => ?_⟩
    · by_cases h : x ≤ maxL (z :: r)
      · rw [Int.max_eq_right h]; exact List.mem_cons_of_mem _ h1
      · rw [Int.max_eq_left (by omega)]; exact List.mem_cons_self
    · rcases List.mem_cons.mp hy with rfl | hy
      · exact Int.le_max_left _ _
      · exact Int.le_trans (h2 y hy) (Int.le_max_right _ _)
theorem minL_ok : ∀ (x : Int) (r : List Int), minL (x :: r) ∈ x :: r ∧ ∀ y ∈ x :: r, minL (x :: r) ≤ y
  | x, [] => ⟨List.mem_cons_self, fun y hy => by simp at hy; subst hy; exact Int.le_refl _⟩
  | x, z :: r => by
    obtain ⟨h1, h2⟩ := minL_ok z r
    have e : minL (x :: z :: r) = min x (minL (z :: r)) := rfl
    rw [e]
    refine ⟨?_, fun y hy => ?_⟩
    · by_cases h : x ≤ minL (z :: r)
      · rw [Int.min_eq_left h]; exact List.mem_cons_self
      · rw [Int.min_eq_right (by omega)]; exact List.mem_cons_of_mem _ h1
    · rcases List.mem_cons.mp hy with rfl | hy
      · exact Int.min_le_left _ _
      · exact Int.le_trans (Int.min_le_right _ _) (h2 y hy)
theorem callZ_max (hc : X.calm = true) : CallR X (.builtin "max") (rC X gMax) := by
  intro pins s σ H vs us Q I r h
  obtain ⟨S, ws, w, F, m, ra, e, an⟩ := h
  unfold gMax at e
  split at e
  · cases e
    obtain ⟨v, x, _, _, rfl, hv, hx⟩ := ra2 ra
    cases hv; cases hx
    exact call_max2 hc pins s σ H _ us Q I r ⟨_, _, rfl, an.int m⟩
  · split at e
    · rename_i x t ex
      cases e
      obtain ⟨v, rfl, hv⟩ := ra1 ra
      obtain ⟨a, rfl, ha⟩ := eints_ok hv hid_ex ex
      obtain ⟨k1, k2⟩ := maxL_ok x t
      refine cr_max hc pins s σ H _ us Q I r ⟨a, _, rfl, ha, by simp, fun n h1 h2 => ?_⟩
      have : n = maxL (x :: t) := Int.le_antisymm (k2 n h1) (h2 _ k1)
      rw [this]
      exact an.int m
    · cases e
  · cases e
theorem callZ_min (hc : X.calm = true) : CallR X (.builtin "min") (rC X gMin) := by
  intro pins s σ H vs us Q I r h
  obtain ⟨S, ws, w, F, m, ra, e, an⟩ := h
  unfold gMin at e
  split at e
  · cases e
    obtain ⟨v, x, _, _, rfl, hv, hx⟩ := ra2 ra
    cases hv; cases hx
    exact call_min2 hc pins s σ H _ us Q I r ⟨_, _, rfl, an.int m⟩
  · split at e
    · rename_i x t ex
      cases e
      obtain ⟨v, rfl, hv⟩ := ra1 ra
      obtain ⟨a, rfl, ha⟩ := eints_ok hv hid_ex ex
      obtain ⟨k1, k2⟩ := minL_ok x t
      refine cr_min hc pins s σ H _ us Q I r ⟨a, _, rfl, ha, by simp, fun n h1 h2 => ?_⟩
      have : n = minL (x :: t) := Int.le_antisymm (h2 _ k1) (k2 n h1)
      rw [this]
      exact an.int m
    · cases e
  · cases e
theorem callZ_list : CallR X (.type "list") (rC X gList) := by
  intro pins s σ H vs us Q I r h
  obtain ⟨S, ws, w, F, m, ra, e, an⟩ := h
  unfold gList at e
  split at e
  · split at e
    · rename_i xs ex
      cases e
      obtain ⟨v, rfl, hv⟩ := ra1 ra
      obtain ⟨a, vs, rfl, ha, rb⟩ := seqs_ok hv hid_ex ex
      exact call_list_of pins s σ H _ us Q I r ⟨a, vs, rfl, ha, fun l hl => an.newl m rb hl⟩
    · cases e
  · cases e
theorem callZ_tuple : CallR X (.type "tuple") (rC X gTuple) := by
  intro pins s σ H vs us Q I r h
  obtain ⟨S, ws, w, F, m, ra, e, an⟩ := h
  unfold gTuple at e
  split at e
  · obtain ⟨v, rfl, hv⟩ := ra1 ra
    split at e
    · rename_i xs ex
      cases e
      obtain ⟨a, vs, rfl, ha, rb⟩ := els_ok hv hid_ex ex
      exact call_tupleN pins s σ H _ us Q I r ⟨a, vs, rfl, .inl ⟨ha, fun l o ho hl => an.newt m rb hl o ho⟩⟩
    · split at e
      · rename_i xs ex
        cases e
        obtain ⟨a, vs, rfl, ha, rb⟩ := nels_ok hv ex
        exact call_tupleN pins s σ H _ us Q I r ⟨a, vs, rfl, .inr ⟨ex_t hid_ex ha.sq, an.same m (.tup ha rb)⟩⟩
      · cases e
  · cases e
theorem callZ_sum (hc : X.calm = true) : CallR X (.builtin "sum") (rC X gSum) := by
  intro pins s σ H vs us Q I r h
  obtain ⟨S, ws, w, F, m, ra, e, an⟩ := h
  unfold gSum at e
  split at e
  · split at e
    · rename_i ns ex
      cases e
      obtain ⟨v, rfl, hv⟩ := ra1 ra
      obtain ⟨a, rfl, ha⟩ := eints_ok hv hid_ex ex
      exact cr_sum hc pins s σ H _ us Q I r ⟨a, ns, rfl, ha, an.int m⟩
    · cases e
  · cases e
theorem perm_sorted : ∀ {xs ys : List Int}, xs.Perm ys → xs.Pairwise (· ≤ ·) → ys.Pairwise (· ≤ ·) → xs = ys
  | [], ys, h, _, _ => by have := h.length_eq; cases ys <;> simp_all
  | x :: xs, [], h, _, _ => by have := h.length_eq; simp at this
  | x :: xs, y :: ys, h, h1, h2 => by
    have h1' := List.pairwise_cons.mp h1
    have h2' := List.pairwise_cons.mp h2
    have e : x = y := by
      have a : y ∈ x :: xs := h.symm.subset List.mem_cons_self
      have b : x ∈ y :: ys := h.subset List.mem_cons_self
      rcases List.mem_cons.mp a with a | a
      · exact a.symm
      · rcases List.mem_cons.mp b with b | b
        · exact b
        · exact Int.le_antisymm (h1'.1 y a) (h2'.1 x b)
    subst e
    rw [perm_sorted (List.perm_cons x |>.mp h) h1'.2 h2'.2]
theorem sortI_ok (ns : List Int) : (sortI ns).Perm ns ∧ (sortI ns).Pairwise (· ≤ ·) := by
  refine ⟨List.mergeSort_perm _ _, ?_⟩
  have := List.pairwise_mergeSort (le := fun (a b : Int) => decide (a ≤ b)) (fun a b c h1 h2 => by simp at *; omega) (fun a b => by simp; omega) ns
  exact this.imp fun h => by simpa using h
theorem ra_ints {K : PySem.W.Frag} {Hv H : Hp} : ∀ ns : List Int, RpA K Hv H (ns.map V.int) (ns.map W.int) []
  | [] => .nil
  | n :: ns => RpA.cons (F := []) (G := []) (.int n) (ra_ints ns)
theorem ra_strs {K : PySem.W.Frag} {Hv H : Hp} : ∀ ns : List Str, RpA K Hv H (ns.map V.str) (ns.map W.str) []
  | [] => .nil
  | n :: ns => RpA.cons (F := []) (G := []) (.str n) (ra_strs ns)
theorem strs_is {K : PySem.W.Frag} {Hv H : Hp} {vs : List V} {ws : List W} {F : List Addr} (h : RpA K Hv H vs ws F) {ys : List Str} (e : strsOf ws = some ys) : vs = ys.map V.str := by
  induction ws generalizing vs F ys with
  | nil => cases h; cases e; rfl
  | cons x xs ih =>
    cases h with
    | cons a b =>
      cases x with
      | str i =>
        simp only [strsOf] at e
        cases e2 : strsOf xs with
        | none => rw [e2] at e; cases e
        | some ms =>
          rw [e2] at e
          cases e
          cases a
          rw [ih b e2]
          rfl
      | _ => simp [strsOf] at e
theorem estrs_ok {K : PySem.W.Frag} {Hv H : Hp} {x : V} {w : W} {F : List Addr} (h : Rp K Hv H x w F) (ev : Ex Hv H) {ys : List Str} (e : (els w).bind strsOf = some ys) : ∃ a, x = .ref a ∧ SqL K H a (ys.map V.str) := by
  cases et : els w with
  | none => rw [et] at e; cases e
  | some ws =>
    rw [et] at e
    obtain ⟨a, vs, rfl, hs, ra⟩ := els_ok h ev et
    have := strs_is ra e
    subst this
    exact ⟨a, rfl, hs⟩
theorem callZ_sorted : CallR X (.builtin "sorted") (rC X gSorted) := by
  intro pins s σ H vs us Q I r h
  obtain ⟨S, ws, w, F, m, ra, e, an⟩ := h
  unfold gSorted at e
  split at e
  · split at e
    · rename_i ns ex
      cases e
      obtain ⟨v, rfl, hv⟩ := ra1 ra
      obtain ⟨a, rfl, ha⟩ := eints_ok hv hid_ex ex
      refine cr_sortedI pins s σ H _ us Q I r ⟨a, ns, rfl, ha, fun ns' p hp hs hn => ?_⟩
      obtain ⟨q1, q2⟩ := sortI_ok ns
      have := perm_sorted (hp.trans q1.symm) hs q2
      subst this
      exact an.newl m (ra_ints _) hn
    · split at e
      · rename_i ys ex
        split at e
        · rename_i hl
          cases e
          obtain ⟨v, rfl, hv⟩ := ra1 ra
          obtain ⟨a, rfl, ha⟩ := estrs_ok hv hid_ex ex
          refine cr_sortedS pins s σ H _ us Q I r ⟨a, ys, rfl, ha, hl, fun zs p hp hs hn => ?_⟩
          have := sortS_uniq hp hs
          subst this
          exact an.newl m (ra_strs _) hn
        · cases e
      · cases e
  · cases e
theorem bools_ok {K : PySem.W.Frag} {Hv H : Hp} {vs : List V} {ws : List W} {F : List Addr} (h : RpA K Hv H vs ws F) {bs : List Bool} (e : boolsOf ws = some bs) : vs = bs.map V.bl := by
  induction ws generalizing vs F bs with
  | nil => cases h; cases e; rfl
  | cons x xs ih =>
    cases h with
    | cons a b =>
      cases x with
      | bl i =>
        simp only [boolsOf] at e
        cases e2 : boolsOf xs with
        | none => rw [e2] at e; cases e
        | some ms =>
          rw [e2] at e
          cases e
          cases a
          rw [ih b e2]
          rfl
      | _ => simp [boolsOf] at e
theorem callZ_all (hc : X.calm = true) : CallR X (.builtin "all") (rC X gAll) := by
  intro pins s σ H vs us Q I r h
  obtain ⟨S, ws, w, F, m, ra, e, an⟩ := h
  unfold gAll at e
  split at e
  · rename_i w1
    split at e
    · rename_i bs ex
      cases e
      obtain ⟨v, rfl, hv⟩ := ra1 ra
      cases et : els w1 with
      | none => rw [et] at ex; cases ex
      | some ws2 =>
        rw [et] at ex
        obtain ⟨a, vs2, rfl, hs, rb⟩ := els_ok hv hid_ex et
        have := bools_ok rb ex
        subst this
        exact cr_all hc pins s σ H _ us Q I r ⟨a, bs, rfl, hs, an.bl m⟩
    · cases e
  · cases e
theorem isi_kit {a b : String} (ha : a = "NoneType" ∨ a = "bool" ∨ a = "int" ∨ a = "str" ∨ a = "list" ∨ a = "tuple" ∨ a = "dict") (hb : tyKnown b = true) : kitB a b = some (isiB a b) := by
  have hb2 : b = "int" ∨ b = "bool" ∨ b = "str" ∨ b = "list" ∨ b = "tuple" ∨ b = "dict" := by
    unfold tyKnown at hb
    simp only [Bool.or_eq_true, beq_iff_eq] at hb
    rcases hb with ((((h | h) | h) | h) | h) | h <;> simp [h]
  rcases ha with rfl | rfl | rfl | rfl | rfl | rfl | rfl <;> rcases hb2 with rfl | rfl | rfl | rfl | rfl | rfl <;> decide +kernel
theorem tyN_ok {S : List Addr} {H : Hp} {v : V} {w : W} {F : List Addr} (h : Rp X.K (hid S H) H v w F) {a : String} (e : tyN w = some a) :
    TyX X.K H v (.type a) ∧ (a = "NoneType" ∨ a = "bool" ∨ a = "int" ∨ a = "str" ∨ a = "list" ∨ a = "tuple" ∨ a = "dict") := by
  have tp : ∀ {p : Addr} {vs : List V}, SqT X.K H p vs → TyX X.K H (.ref p) (.type "tuple") := fun {p vs} q => by
    rcases q with (q | ⟨o, q⟩) | ⟨o, its, n, hk, hc, _⟩
    · exact .base (.tup q)
    · exact .fTuple q
    · exact .kTuple hk hc
  cases h with
  | non => cases e; exact ⟨.base .non, by simp⟩
  | bl b => cases e; exact ⟨.base (.bl b), by simp⟩
  | int i => cases e; exact ⟨.base (.int i), by simp⟩
  | str x => cases e; exact ⟨.base (.str x), by simp⟩
  | ty n => simp [tyN] at e
  | klst a b => simp [tyN] at e
  | lst a b =>
    cases e
    refine ⟨?_, by simp⟩
    rcases ex_rd hid_ex a with q | ⟨o, q⟩
    · exact .base (.lst q)
    · exact .base (.frz q)
  | tup a b => cases e; exact ⟨tp (ex_t hid_ex a.sq), by simp⟩
  | pt a b => cases e; exact ⟨tp (ex_t hid_ex a), by simp⟩
  | dic a b => cases e; exact ⟨.base (.dK (hid_ex _ _ a)), by simp⟩
  | olst a b => cases e; exact ⟨.base (.lst a), by simp⟩
  | otup a b => cases e; exact ⟨tp (ex_t hid_ex a.sq), by simp⟩
  | odic a b => cases e; exact ⟨.base (.dK a), by simp⟩
theorem callZ_isi : CallR X (.builtin "isinstance") (rC X gIsi) := by
  intro pins s σ H vs us Q I r h
  obtain ⟨S, ws, w, F, m, ra, e, an⟩ := h
  unfold gIsi at e
  split at e
  · rename_i w1 n
    split at e
    · rename_i a ea
      split at e
      · rename_i hk
        cases e
        obtain ⟨v, x, F1, F2, rfl, hv, hx⟩ := ra2 ra
        cases hx
        obtain ⟨t1, t2⟩ := tyN_ok hv ea
        exact call_isi pins s σ H _ us Q I r ⟨_, _, _, _, _, rfl, .ty n, t1, kit_ty (isi_kit t2 hk), an.bl m⟩
      · cases e
    · cases e
  · cases e
end
/-- the table -/
def bFn (x : Str) : Option ((Bool × String) × (List W → Option W)) :=
  if x = "len" then some ((false, "len"), gLen)
  else if x = "int" then some ((true, "int"), gInt)
  else if x = "str" then some ((true, "str"), gStr)
  else if x = "abs" then some ((false, "abs"), gAbs)
  else if x = "max" then some ((false, "max"), gMax)
  else if x = "min" then some ((false, "min"), gMin)
  else if x = "list" then some ((true, "list"), gList)
  else if x = "tuple" then some ((true, "tuple"), gTuple)
  else if x = "sum" then some ((false, "sum"), gSum)
  else if x = "sorted" then some ((false, "sorted"), gSorted)
  else if x = "all" then some ((false, "all"), gAll)
  else if x = "isinstance" then some ((false, "isinstance"), gIsi)
  else none
def bV (k : Bool × String) : Value := if k.1 = true then .type k.2 else .builtin k.2
theorem bFn_ok {X : Cx} (hc : X.calm = true) {x : Str} {k : Bool × String} {g : List W → Option W} (h : bFn x = some (k, g)) : CallR X (bV k) (rC X g) ∧ bootBuiltins x = some (bV k) ∧ x ≠ "__name__" ∧ (x == ("__debug__" : Str)) = false := by
  unfold bFn at h
  by_cases e_len : x = "len"
  · rw [if_pos e_len] at h; cases h; subst e_len; exact ⟨callZ_len, by decide +kernel, by decide, by decide⟩
  rw [if_neg e_len] at h
  by_cases e_int : x = "int"
  · rw [if_pos e_int] at h; cases h; subst e_int; exact ⟨callZ_int, by decide +kernel, by decide, by decide⟩
  rw [if_neg e_int] at h
  by_cases e_str : x = "str"
  · rw [if_pos e_str] at h; cases h; subst e_str; exact ⟨callZ_str, by decide +kernel, by decide, by decide⟩
  rw [if_neg e_str] at h
  by_cases e_abs : x = "abs"
  · rw [if_pos e_abs] at h; cases h; subst e_abs; exact ⟨callZ_abs, by decide +kernel, by decide, by decide⟩
  rw [if_neg e_abs] at h
  by_cases e_max : x = "max"
  · rw [if_pos e_max] at h; cases h; subst e_max; exact ⟨callZ_max hc, by decide +kernel, by decide, by decide⟩
  rw [if_neg e_max] at h
  by_cases e_min : x = "min"
  · rw [if_pos e_min] at h; cases h; subst e_min; exact ⟨callZ_min hc, by decide +kernel, by decide, by decide⟩
  rw [if_neg e_min] at h
  by_cases e_list : x = "list"
  · rw [if_pos e_list] at h; cases h; subst e_list; exact ⟨callZ_list, by decide +kernel, by decide, by decide⟩
  rw [if_neg e_list] at h
  by_cases e_tuple : x = "tuple"
  · rw [if_pos e_tuple] at h; cases h; subst e_tuple; exact ⟨callZ_tuple, by decide +kernel, by decide, by decide⟩
  rw [if_neg e_tuple] at h
  by_cases e_sum : x = "sum"
  · rw [if_pos e_sum] at h; cases h; subst e_sum; exact ⟨callZ_sum hc, by decide +kernel, by decide, by decide⟩
  rw [if_neg e_sum] at h
  by_cases e_sorted : x = "sorted"
  · rw [if_pos e_sorted] at h; cases h; subst e_sorted; exact ⟨callZ_sorted, by decide +kernel, by decide, by decide⟩
  rw [if_neg e_sorted] at h
  by_cases e_all : x = "all"
  · rw [if_pos e_all] at h; cases h; subst e_all; exact ⟨callZ_all hc, by decide +kernel, by decide, by decide⟩
  rw [if_neg e_all] at h
  by_cases e_isinstance : x = "isinstance"
  · rw [if_pos e_isinstance] at h; cases h; subst e_isinstance; exact ⟨callZ_isi, by decide +kernel, by decide, by decide⟩
  rw [if_neg e_isinstance] at h
  cases h
/-- names of built-in types as values -/
def tyFn (x : Str) : Option String :=
  if x = "int" then some "int" else if x = "str" then some "str" else if x = "bool" then some "bool" else if x = "list" then some "list" else if x = "tuple" then some "tuple" else if x = "dict" then some "dict" else none
theorem tyFn_ok {x : Str} {n : String} (h : tyFn x = some n) : bootBuiltins x = some (.type n) ∧ x ≠ "__name__" ∧ (x == ("__debug__" : Str)) = false := by
  unfold tyFn at h
  by_cases e_int : x = "int"
  · rw [if_pos e_int] at h; cases h; subst e_int; exact ⟨by decide +kernel, by decide, by decide⟩
  rw [if_neg e_int] at h
  by_cases e_str : x = "str"
  · rw [if_pos e_str] at h; cases h; subst e_str; exact ⟨by decide +kernel, by decide, by decide⟩
  rw [if_neg e_str] at h
  by_cases e_bool : x = "bool"
  · rw [if_pos e_bool] at h; cases h; subst e_bool; exact ⟨by decide +kernel, by decide, by decide⟩
  rw [if_neg e_bool] at h
  by_cases e_list : x = "list"
  · rw [if_pos e_list] at h; cases h; subst e_list; exact ⟨by decide +kernel, by decide, by decide⟩
  rw [if_neg e_list] at h
  by_cases e_tuple : x = "tuple"
  · rw [if_pos e_tuple] at h; cases h; subst e_tuple; exact ⟨by decide +kernel, by decide, by decide⟩
  rw [if_neg e_tuple] at h
  by_cases e_dict : x = "dict"
  · rw [if_pos e_dict] at h; cases h; subst e_dict; exact ⟨by decide +kernel, by decide, by decide⟩
  rw [if_neg e_dict] at h
  cases h
end Z

set_option Elab.async false
set_option linter.all false
set_option maxRecDepth 100000
set_option maxHeartbeats 4000000
set_option autoImplicit false
/-! what is walked, targets, comprehensions -/
namespace Z
open PySem PySem.Spec PyProof.Rows L2

/-! ### sources -/
structure Src (K : PySem.W.Frag) (J : It) (Hs Hv : Hp) (ws : List W) : Prop where
  go : ∀ S H i, MK S H → Ex Hs H → Ex Hv (hid S H) → i < ws.length → J.go i H
  yld : ∀ S H i x H' w, MK S H → Ex Hs H → Ex Hv (hid S H) → ws[i]? = some w → J.yld i H x H' → Grow S H S H' ∧ Rp K (hid S H') H' x w []
  stop : ∀ S H i, MK S H → Ex Hs H → Ex Hv (hid S H) → ws.length ≤ i → J.stop i H
section
variable {K : PySem.W.Frag} {Hs Hv : Hp}
theorem src_list {a : Addr} {vs : List V} {ws : List W} (h : SqL K Hs a vs) (r : RpA K Hv Hs vs ws []) : Src K (Itl K a) Hs Hv ws where
  go := fun S H i m e1 e2 hi => by
    rw [← r.len] at hi
    exact ⟨vs, vs[i], ex_l e1 h, by simp [hi]⟩
  yld := fun S H i x H' w m e1 e2 hw y => by
    obtain ⟨rfl, y⟩ := y
    obtain ⟨v, G, h1, h2, h3⟩ := r.get hw
    have := y vs (ex_l e1 h)
    rw [h1] at this
    cases this
    have g0 : G = [] := List.eq_nil_iff_forall_not_mem.mpr fun z hz => nomatch (h3 z hz)
    subst g0
    exact ⟨.refl m, h2.mono e2 _ fun _ z => nomatch z⟩
  stop := fun S H i m e1 e2 hi => ⟨vs, ex_l e1 h, by rw [r.len]; exact hi⟩
theorem src_tup {a : Addr} {vs : List V} {ws : List W} (h : SqT K Hs a vs) (r : RpA K Hv Hs vs ws []) : Src K (Itt K a) Hs Hv ws where
  go := fun S H i m e1 e2 hi => by
    rw [← r.len] at hi
    exact ⟨vs, vs[i], ex_t e1 h, by simp [hi]⟩
  yld := fun S H i x H' w m e1 e2 hw y => by
    obtain ⟨rfl, y⟩ := y
    obtain ⟨v, G, h1, h2, h3⟩ := r.get hw
    have := y vs (ex_t e1 h)
    rw [h1] at this
    cases this
    have g0 : G = [] := List.eq_nil_iff_forall_not_mem.mpr fun z hz => nomatch (h3 z hz)
    subst g0
    exact ⟨.refl m, h2.mono e2 _ fun _ z => nomatch z⟩
  stop := fun S H i m e1 e2 hi => ⟨vs, ex_t e1 h, by rw [r.len]; exact hi⟩
def rangeW (lo : Int) (n : Nat) : List W := (List.range n).map fun (k : Nat) => .int (lo + (k : Int))
theorem src_range {lo : Int} {n : Nat} : Src K (Itr lo n) Hs Hv (rangeW lo n) where
  go := fun S H i m e1 e2 hi => by
    have : i < n := by simpa [rangeW] using hi
    exact this
  yld := fun S H i x H' w m e1 e2 hw y => by
    obtain ⟨rfl, rfl⟩ := y
    have hi : i < n := by
      have := (List.getElem?_eq_some_iff.mp hw).1
      simpa [rangeW] using this
    have : w = .int (lo + (i : Int)) := by
      have e : (rangeW lo n)[i]? = some (.int (lo + (i : Int))) := by simp [rangeW, hi]
      rw [e] at hw
      exact (Option.some.inj hw).symm
    subst this
    exact ⟨.refl m, .int _⟩
  stop := fun S H i m e1 e2 hi => by
    have : n ≤ i := by simpa [rangeW] using hi
    exact this
def rangeW3 (lo c : Int) (n : Nat) : List W := (List.range n).map fun (k : Nat) => .int (lo + (k : Int) * c)
theorem src_range3 {lo c : Int} {n : Nat} : Src K (Itc lo c n) Hs Hv (rangeW3 lo c n) where
  go := fun S H i m e1 e2 hi => by
    have : i < n := by simpa [rangeW3] using hi
    exact this
  yld := fun S H i x H' w m e1 e2 hw y => by
    obtain ⟨rfl, rfl⟩ := y
    have hi : i < n := by
      have := (List.getElem?_eq_some_iff.mp hw).1
      simpa [rangeW3] using this
    have : w = .int (lo + (i : Int) * c) := by
      have e : (rangeW3 lo c n)[i]? = some (.int (lo + (i : Int) * c)) := by simp [rangeW3, hi]
      rw [e] at hw
      exact (Option.some.inj hw).symm
    subst this
    exact ⟨.refl m, .int _⟩
  stop := fun S H i m e1 e2 hi => by
    have : n ≤ i := by simpa [rangeW3] using hi
    exact this
def strW (z : Str) : List W := z.cps.toList.map fun c => .str ⟨#[c]⟩
theorem src_str {z : Str} : Src K (Its z) Hs Hv (strW z) where
  go := fun S H i m e1 e2 hi => by
    have : i < z.cps.size := by simpa [strW] using hi
    exact this
  yld := fun S H i x H' w m e1 e2 hw y => by
    obtain ⟨rfl, c, hc, rfl⟩ := y
    have e : (strW z)[i]? = some (.str ⟨#[c]⟩) := by
      unfold strW
      rw [List.getElem?_map, Array.getElem?_toList, hc]
      rfl
    rw [e] at hw
    cases hw
    exact ⟨.refl m, .str _⟩
  stop := fun S H i m e1 e2 hi => by
    have : z.cps.size ≤ i := by simpa [strW] using hi
    exact this
def enumW : Nat → List W → List W
  | _, [] => []
  | k, w :: ws => .pt [.int (k : Int), w] :: enumW (k + 1) ws
theorem enumW_len : ∀ (k : Nat) (ws : List W), (enumW k ws).length = ws.length
  | _, [] => rfl
  | k, w :: ws => by rw [enumW, List.length_cons, List.length_cons, enumW_len]
theorem enumW_get : ∀ (k : Nat) (ws : List W) (i : Nat), (enumW k ws)[i]? = (ws[i]?).map fun w => .pt [.int ((k + i : Nat) : Int), w]
  | _, [], i => by simp [enumW]
  | k, w :: ws, 0 => by simp [enumW]
  | k, w :: ws, i + 1 => by
    rw [enumW, List.getElem?_cons_succ, List.getElem?_cons_succ, enumW_get (k + 1) ws i, Nat.add_right_comm, Nat.add_assoc]
theorem pair_new {S : List Addr} {H : Hp} {T : Addr} {x y : V} {w u : W} (m : MK S H) (hT : H T = none) (hx : Rp K (hid S H) H x w []) (hy : Rp K (hid S H) H y u []) :
    Grow S H S (upd H T (.tup [x, y])) ∧ Rp K (hid S (upd H T (.tup [x, y]))) (upd H T (.tup [x, y])) (.ref T) (.pt [w, u]) [] := by
  have g : Grow S H S (upd H T (.tup [x, y])) := Grow.newsh m hT
  have ns : T ∉ S := fun z => by have := m T z; rw [hT] at this; exact this
  refine ⟨g, .pt (SqT.of (by rw [hid_out ns]; exact upd_same)) ?_⟩
  exact RpA.cons (F := []) (G := []) (hx.mono g.view _ fun _ z => nomatch z) (RpA.cons (F := []) (G := []) (hy.mono g.view _ fun _ z => nomatch z) .nil)
theorem src_enum {a : Addr} {vs : List V} {ws : List W} (h : SqL K Hs a vs) (r : RpA K Hv Hs vs ws []) : Src K (Ite K a) Hs Hv (enumW 0 ws) where
  go := fun S H i m e1 e2 hi => by
    rw [enumW_len, ← r.len] at hi
    exact ⟨vs, vs[i], ex_l e1 h, by simp [hi]⟩
  yld := fun S H i x H' w m e1 e2 hw y => by
    obtain ⟨T, x0, rfl, hT, rfl, y⟩ := y
    rw [enumW_get] at hw
    cases ew : ws[i]? with
    | none => rw [ew] at hw; cases hw
    | some w0 =>
      rw [ew] at hw
      cases hw
      obtain ⟨v, G, h1, h2, h3⟩ := r.get ew
      have := y vs (ex_l e1 h)
      rw [h1] at this
      cases this
      have g0 : G = [] := List.eq_nil_iff_forall_not_mem.mpr fun z hz => nomatch (h3 z hz)
      subst g0
      rw [Nat.zero_add]
      exact pair_new m hT (.int _) (h2.mono e2 _ fun _ z => nomatch z)
  stop := fun S H i m e1 e2 hi => ⟨vs, ex_l e1 h, by rw [r.len, ← enumW_len 0]; exact hi⟩
def zipW : List W → List W → List W
  | a :: as, b :: bs => .pt [a, b] :: zipW as bs
  | _, _ => []
theorem zipW_len : ∀ (as bs : List W), (zipW as bs).length = min as.length bs.length
  | [], _ => by simp [zipW]
  | _ :: _, [] => by simp [zipW]
  | a :: as, b :: bs => by rw [zipW, List.length_cons, List.length_cons, List.length_cons, zipW_len]; omega
theorem zipW_get : ∀ (as bs : List W) (i : Nat) (w : W), (zipW as bs)[i]? = some w → ∃ a b, as[i]? = some a ∧ bs[i]? = some b ∧ w = .pt [a, b]
  | [], _, _, _, h => by simp [zipW] at h
  | _ :: _, [], _, _, h => by simp [zipW] at h
  | a :: as, b :: bs, 0, w, h => by simp [zipW] at h; exact ⟨a, b, rfl, rfl, h.symm⟩
  | a :: as, b :: bs, i + 1, w, h => by
    rw [zipW, List.getElem?_cons_succ] at h
    simpa using zipW_get as bs i w h
theorem src_zip {a b : Addr} {vs us : List V} {ws zs : List W} (h : SqL K Hs a vs) (r : RpA K Hv Hs vs ws []) (h' : SqL K Hs b us) (r' : RpA K Hv Hs us zs []) : Src K (Itz K a b) Hs Hv (zipW ws zs) where
  go := fun S H i m e1 e2 hi => by
    rw [zipW_len] at hi
    have l1 := r.len
    have l2 := r'.len
    have i1 : i < vs.length := by omega
    have i2 : i < us.length := by omega
    exact ⟨vs, us, vs[i], us[i], ex_l e1 h, ex_l e1 h', by simp [i1], by simp [i2]⟩
  yld := fun S H i x H' w m e1 e2 hw y => by
    obtain ⟨T, x0, y0, rfl, hT, rfl, y1, y2⟩ := y
    obtain ⟨w1, w2, q1, q2, rfl⟩ := zipW_get _ _ _ _ hw
    obtain ⟨v, G, h1, h2, h3⟩ := r.get q1
    obtain ⟨v', G', h1', h2', h3'⟩ := r'.get q2
    have t1 := y1 vs (ex_l e1 h)
    have t2 := y2 us (ex_l e1 h')
    rw [h1] at t1
    rw [h1'] at t2
    cases t1
    cases t2
    have g0 : G = [] := List.eq_nil_iff_forall_not_mem.mpr fun z hz => nomatch (h3 z hz)
    have g0' : G' = [] := List.eq_nil_iff_forall_not_mem.mpr fun z hz => nomatch (h3' z hz)
    subst g0 g0'
    exact pair_new m hT (h2.mono e2 _ fun _ z => nomatch z) (h2'.mono e2 _ fun _ z => nomatch z)
  stop := fun S H i m e1 e2 hi => ⟨vs, us, ex_l e1 h, ex_l e1 h', by
    rw [zipW_len] at hi
    have l1 := r.len
    have l2 := r'.len
    omega⟩
end

theorem PI_or {X : Cx} {tg e : Expr} {wi wi' : TI} (h : PI X tg e wi) (h' : PI X tg e wi') : PI X tg e (fun σ H R => wi σ H R ∨ wi' σ H R) :=
  ⟨fun pins s σ H R I q => q.elim (h.run pins s σ H R I) (h'.run pins s σ H R I)⟩
theorem PI_weak {X : Cx} {tg e : Expr} {wi wi' : TI} (h : PI X tg e wi) (k : ∀ σ H R, wi' σ H R → wi σ H R) : PI X tg e wi' := ⟨fun pins s σ H R I q => h.run pins s σ H R I (k σ H R q)⟩
/-- items, told from the source's value; each turn's own way through the heap -/
def iB (X : Cx) (W0 : WX) (f : Rho → Option RL) : TI := fun σ H R => ∃ S ρ fp r, In X.K S σ H ρ fp ∧ f ρ = some r ∧
  match r with
  | .ok ws => ∀ J H' S' Hs, Grow S H S' H' → Ex Hs H' → Src X.K J Hs (hid S' H') ws → R J H'
  | .er c => ∀ C H', X.mg c = some (.ref C) → Ex H H' → W0 (.ref C) none σ H'
def itemsW (w : W) : Option (List W) := match w with
  | .str z => some (strW z)
  | w => seqs w
def sItems (fa : Sem) : Rho → Option RL := fun ρ => match fa ρ with
  | some (.ok w) => match itemsW w with
    | some ws => some (.ok ws)
    | none => none
  | some (.er c) => some (.er c)
  | none => none
section
variable {X : Cx} {W0 : WX} {fa fb : Sem} {σ : L2.St} {H : Hp} {R1 : It → Hp → Prop}
theorem seqs2 {K : PySem.W.Frag} {Hv H : Hp} {x : V} {w : W} {F : List Addr} {ws : List W} (h : Rp K Hv H x w F) (ev : Ex Hv H) (e : seqs w = some ws) :
    (∃ a vs, x = .ref a ∧ SqL K H a vs ∧ RpA K Hv H vs ws []) ∨ ∃ a vs, x = .ref a ∧ SqT K H a vs ∧ RpA K Hv H vs ws [] := by
  unfold seqs at e
  split at e
  · rename_i xs ex
    cases e
    obtain ⟨a, vs, rfl, ha, ra⟩ := els_ok h ev ex
    exact .inl ⟨a, vs, rfl, ha, ra⟩
  · obtain ⟨a, vs, rfl, ha, ra⟩ := tels_ok h ev e
    exact .inr ⟨a, vs, rfl, ha, ra⟩
theorem items_ok {tg e : Expr} (h : PE X e (tE X W0 true fa [])) : PI X tg e (iB X W0 (sItems fa)) := by
  refine PI_weak (PI_or (pi_list h) (PI_or (pi_tup h) (pi_str h))) fun σ H R q => ?_
  obtain ⟨S, ρ, fp, r, I, e, p⟩ := q
  unfold sItems at e
  cases ea : fa ρ with
  | none => rw [ea] at e; cases e
  | some ra =>
    rw [ea] at e
    cases ra with
    | er c =>
      cases e
      exact .inl ⟨S, ρ, fp, _, I, ea, fun C H2 hc e2 => p C H2 hc e2⟩
    | ok w =>
      simp only at e
      split at e
      · rename_i ws hw
        cases e
        unfold itemsW at hw
        split at hw
        · rename_i z
          cases hw
          exact .inr (.inr ⟨S, ρ, fp, _, I, ea, fun v H1 S1 F1 g1 r1 k1 _ => ⟨z, by cases r1; rfl, p _ H1 S1 H1 g1 (Ex.refl _) src_str⟩⟩)
        · have cases2 : els w = some ws ∨ (els w = none ∧ tels w = some ws) := by
            unfold seqs at hw
            split at hw
            · rename_i xs ex; cases hw; exact .inl ex
            · rename_i ex; exact .inr ⟨ex, hw⟩
          rcases cases2 with ex | ⟨_, ex⟩
          · refine .inl ⟨S, ρ, fp, _, I, ea, fun v H1 S1 F1 g1 r1 k1 _ => ?_⟩
            obtain ⟨a, vs, rfl, ha, ra⟩ := els_ok r1 hid_ex ex
            exact ⟨a, rfl, ⟨vs, ha⟩, p _ H1 S1 H1 g1 (Ex.refl _) (src_list ha ra)⟩
          · refine .inr (.inl ⟨S, ρ, fp, _, I, ea, fun v H1 S1 F1 g1 r1 k1 _ => ?_⟩)
            obtain ⟨a, vs, rfl, ha, ra⟩ := tels_ok r1 hid_ex ex
            exact ⟨a, rfl, ⟨vs, ha⟩, p _ H1 S1 H1 g1 (Ex.refl _) (src_tup ha ra)⟩
      · cases e
end
/-- the same where what is walked is seen by all (a for statement) -/
def iF (X : Cx) (W0 : WX) (f : Rho → Option RL) : TI := fun σ H R => ∃ S ρ fp r, In X.K S σ H ρ fp ∧ f ρ = some r ∧
  match r with
  | .ok ws => ∀ J H' S', Grow S H S' H' → Src X.K J (hid S' H') (hid S' H') ws → R J H'
  | .er c => ∀ C H', X.mg c = some (.ref C) → Ex H H' → W0 (.ref C) none σ H'
section
variable {X : Cx} {W0 : WX} {fa fb : Sem} {σ : L2.St} {H : Hp} {R1 : It → Hp → Prop}
/-- a fresh list's own things are shown to all -/
theorem show_own {K : PySem.W.Frag} {S S1 : List Addr} {H H1 : Hp} {F : List Addr} (m : MK S H) (g : Grow S H S1 H1) (hF : ∀ a ∈ F, H a = none) : Grow S H (S1.filter fun a => decide (a ∉ F)) H1 :=
  ⟨g.ex, fun a ha => out_of.mpr ⟨g.inc a ha, fun z => by have := m a ha; rw [hF a z] at this; exact this⟩, fun a ha => g.new a (out_of.mp ha).1, fun a ha => g.mks a (out_of.mp ha).1⟩
theorem fp0 {H : Hp} {fs : List (List Addr)} {F : List Addr} (h : Fp H fs [] F) : ∀ a ∈ F, H a = none := fun a ha => by
  rcases h.1 a ha with z | ⟨i, hi, _⟩
  · exact z
  · exact nomatch hi
/-- a sequence's value: a list or tuple that all see -/
theorem seqF {S S1 : List Addr} {H H1 : Hp} {fp : List (List Addr)} {v : V} {w : W} {F : List Addr} {ws : List W} (m : MK S H) (g : Grow S H S1 H1) (r : Rp X.K (hid S1 H1) H1 v w F) (f : Fp H fp [] F) :
    (els w = some ws → ∃ S2 a vs, Grow S H S2 H1 ∧ v = .ref a ∧ SqL X.K (hid S2 H1) a vs ∧ RpA X.K (hid S2 H1) (hid S2 H1) vs ws []) ∧ (tels w = some ws → ∃ S2 a vs, Grow S H S2 H1 ∧ v = .ref a ∧ SqT X.K (hid S2 H1) a vs ∧ RpA X.K (hid S2 H1) (hid S2 H1) vs ws []) := by
  have any : ∀ {vs : List V} {ws : List W} {Hv : Hp}, Ex Hv (hid (S1.filter fun a => decide (a ∉ F)) H1) → RpA X.K Hv H1 vs ws [] → RpA X.K (hid (S1.filter fun a => decide (a ∉ F)) H1) (hid (S1.filter fun a => decide (a ∉ F)) H1) vs ws [] :=
    fun e h => h.mono e _ fun _ z => nomatch z
  refine ⟨fun e => ?_, fun e => ?_⟩
  · cases r with
    | lst a b => cases e; exact ⟨_, _, _, show_own (K := X.K) m g (fp0 f), rfl, .inl (ex_rd view_out a), any view_out b⟩
    | klst a b => cases e; exact ⟨_, _, _, show_own (K := X.K) m g (fp0 f), rfl, ex_l view_out a, any view_out b⟩
    | olst a b =>
      simp only [els] at e
      split at e
      · rename_i hs
        cases e
        have := b.sh hs
        subst this
        refine ⟨_, _, _, show_own (K := X.K) m g (fp0 f), rfl, .inl (.inl ?_), any view_out b⟩
        rw [hid_out fun z => (out_of.mp z).2 List.mem_cons_self]
        exact a
      · cases e
    | _ => simp [els] at e
  · cases r with
    | tup a b => cases e; exact ⟨_, _, _, show_own (K := X.K) m g (fp0 f), rfl, ex_t view_out a.sq, any view_out b⟩
    | pt a b => cases e; exact ⟨_, _, _, show_own (K := X.K) m g (fp0 f), rfl, ex_t view_out a, any view_out b⟩
    | otup a b =>
      simp only [tels] at e
      split at e
      · rename_i hs
        cases e
        have := b.sh hs
        subst this
        exact ⟨_, _, _, show_own (K := X.K) m g (fp0 f), rfl, ex_t view_out a.sq, any view_out b⟩
      · cases e
    | _ => simp [tels] at e
theorem itemsF_ok {tg e : Expr} (h : PE X e (tE X W0 false fa [])) : PI X tg e (iF X W0 (sItems fa)) := by
  refine PI_weak (PI_or (pi_list h) (PI_or (pi_tup h) (pi_str h))) fun σ H R q => ?_
  obtain ⟨S, ρ, fp, r, I, e, p⟩ := q
  unfold sItems at e
  cases ea : fa ρ with
  | none => rw [ea] at e; cases e
  | some ra =>
    rw [ea] at e
    cases ra with
    | er c =>
      cases e
      exact .inl ⟨S, ρ, fp, _, I, ea, fun C H2 hc e2 => p C H2 hc e2⟩
    | ok w =>
      simp only at e
      split at e
      · rename_i ws hw
        cases e
        unfold itemsW at hw
        split at hw
        · rename_i z
          cases hw
          exact .inr (.inr ⟨S, ρ, fp, _, I, ea, fun v H1 S1 F1 g1 r1 k1 _ => ⟨z, by cases r1; rfl, p _ H1 S1 g1 src_str⟩⟩)
        · have cases2 : els w = some ws ∨ (els w = none ∧ tels w = some ws) := by
            unfold seqs at hw
            split at hw
            · rename_i xs ex; cases hw; exact .inl ex
            · rename_i ex; exact .inr ⟨ex, hw⟩
          rcases cases2 with ex | ⟨_, ex⟩
          · refine .inl ⟨S, ρ, fp, _, I, ea, fun v H1 S1 F1 g1 r1 k1 f1 => ?_⟩
            obtain ⟨S2, a, vs, g2, rfl, ha, ra⟩ := (seqF (ws := ws) I.mk' g1 r1 (f1 rfl)).1 ex
            exact ⟨a, rfl, ⟨vs, ex_l hid_ex ha⟩, p _ H1 S2 g2 (src_list ha ra)⟩
          · refine .inr (.inl ⟨S, ρ, fp, _, I, ea, fun v H1 S1 F1 g1 r1 k1 f1 => ?_⟩)
            obtain ⟨S2, a, vs, g2, rfl, ha, ra⟩ := (seqF (ws := ws) I.mk' g1 r1 (f1 rfl)).2 ex
            exact ⟨a, rfl, ⟨vs, ex_t hid_ex ha⟩, p _ H1 S2 g2 (src_tup ha ra)⟩
      · cases e
/-! ranges: arguments by values -/
def okR (i : Int) : Bool := decide (-(2 ^ 62) ≤ i) && decide (i < 2 ^ 62)
def rngW : List W → Option (List W)
  | [.int n] => if okR n = true then some (rangeW 0 n.toNat) else none
  | [.int a, .int b] => if okR a = true ∧ okR b = true then some (rangeW a (b - a).toNat) else none
  | _ => none
def sItemsA (g : List W → Option (List W)) (fs : List Sem) : Rho → Option RL := fun ρ => match sAll fs ρ with
  | some (.ok ws) => match g ws with
    | some us => some (.ok us)
    | none => none
  | some (.er c) => some (.er c)
  | none => none
theorem okR_ok {i : Int} (h : okR i = true) : -(2 ^ 62) ≤ i ∧ i < 2 ^ 62 := by
  unfold okR at h
  rw [Bool.and_eq_true] at h
  exact ⟨of_decide_eq_true h.1, of_decide_eq_true h.2⟩
def isStar : Expr → Bool
  | .Starred _ _ => true
  | _ => false
theorem star_ne {e : Expr} {es : List Expr} {env : Env} (h : isStar e = false) : starEach (e :: es) env = (false, eval e env) :: starEach es env := by
  cases e <;> first | rfl | cases h
theorem range1_ok {tg a : Expr} {p pos : Pos} (hg : Gl X "range") (hm : X.mg "range" = none) (ha : PE X a (tE X W0 true fa [])) (hs : isStar a = false) :
    PI X tg (.Call (.Name "range" p) [a] [] pos) (iB X W0 (sItemsA rngW [fa])) ∧ PI X tg (.Call (.Name "range" p) [a] [] pos) (iF X W0 (sItemsA rngW [fa])) := by
  have P := pi_range1 (tg := tg) (p := p) (pos := pos) hg hm (pa_cons ha pa_nil (star_ne hs)) (star_ne hs)
  have core : ∀ (σ : L2.St) (H : Hp) (R : It → Hp → Prop) (S : List Addr) (ρ : Rho) (fp : List (List Addr)) (r : RL), In X.K S σ H ρ fp → sItemsA rngW [fa] ρ = some r →
      (match r with | .ok ws => ∀ n H' S', ws = rangeW 0 n → Grow S H S' H' → R (Itr 0 n) H' | .er c => ∀ C H', X.mg c = some (.ref C) → Ex H H' → W0 (.ref C) none σ H') →
      iRng1 (tCons (tE X W0 true fa []) tNil) σ H R := by
    intro σ H R S ρ fp r I e p
    unfold sItemsA at e
    cases ea : sAll [fa] ρ with
    | none => rw [ea] at e; cases e
    | some ra =>
      rw [ea] at e
      have fin : ∀ (Q : List V → Hp → Prop), tA X W0 true [fa] ([] ++ []) σ H Q → tCons (tE X W0 true fa []) tNil σ H Q := fun Q q => by
        have q2 := allc_ok q
        obtain ⟨S, ρ, fs, r, I, e, p⟩ := q2
        refine ⟨S, ρ, fs, r, I, e, ?_⟩
        cases r with
        | er c => exact fun C H2 hc e2 => p C H2 hc e2
        | ok w => exact fun v H1 S1 F g1 r1 k1 f1 => alln_ok (p v H1 S1 F g1 r1 k1 f1)
      cases ra with
      | er c =>
        cases e
        exact fin _ ⟨S, ρ, fp, _, I, ea, fun C H2 hc e2 => p C H2 hc e2⟩
      | ok ws =>
        simp only at e
        split at e
        · rename_i us hu
          cases e
          refine fin _ ⟨S, ρ, fp, _, I, ea, fun vs H1 S1 F1 g1 r1 k1 f1 => ?_⟩
          unfold rngW at hu
          split at hu
          · split at hu
            · rename_i n hn
              cases hu
              obtain ⟨v, rfl, hv⟩ := ra1 r1
              cases hv
              have := okR_ok hn
              exact ⟨n, rfl, this.1, this.2, p n.toNat H1 S1 rfl g1⟩
            · cases hu
          · have := sAll_len _ _ ea
            simp at this
          · cases hu
        · cases e
  refine ⟨PI_weak P fun σ H R q => ?_, PI_weak P fun σ H R q => ?_⟩
  · obtain ⟨S, ρ, fp, r, I, e, p⟩ := q
    refine core σ H R S ρ fp r I e ?_
    cases r with
    | er c => exact p
    | ok ws => exact fun n H' S' hw g => by subst hw; exact p _ H' S' H' g (Ex.refl _) src_range
  · obtain ⟨S, ρ, fp, r, I, e, p⟩ := q
    refine core σ H R S ρ fp r I e ?_
    cases r with
    | er c => exact p
    | ok ws => exact fun n H' S' hw g => by subst hw; exact p _ H' S' g src_range
theorem tA_cons {ms : List Nat} {bo : Bool} {fs : List Sem} {t : TA} (k : ∀ σ H Q, tA X W0 bo fs [] σ H Q → t σ H Q) (σ : L2.St) (H : Hp) (Q : List V → Hp → Prop) (h : tA X W0 bo (fa :: fs) [] σ H Q) : tCons (tE X W0 bo fa []) t σ H Q := by
  have q2 := allc_ok (m1 := []) (m2 := []) h
  obtain ⟨S, ρ, fp, r, I, e, p⟩ := q2
  refine ⟨S, ρ, fp, r, I, e, ?_⟩
  cases r with
  | er c => exact fun C H2 hc e2 => p C H2 hc e2
  | ok w => exact fun v H1 S1 F g1 r1 k1 f1 => k _ _ _ (p v H1 S1 F g1 r1 k1 f1)
theorem range2_ok {tg a b : Expr} {p pos : Pos} (hg : Gl X "range") (hm : X.mg "range" = none) (ha : PE X a (tE X W0 true fa [])) (hb : PE X b (tE X W0 true fb [])) (hs : isStar a = false) (hs2 : isStar b = false) :
    PI X tg (.Call (.Name "range" p) [a, b] [] pos) (iB X W0 (sItemsA rngW [fa, fb])) ∧ PI X tg (.Call (.Name "range" p) [a, b] [] pos) (iF X W0 (sItemsA rngW [fa, fb])) := by
  have st : starEach [b] X.env = [(false, eval b X.env)] := star_ne hs2
  have P := pi_range2 (tg := tg) (p := p) (pos := pos) hg hm (pa_cons ha (pa_cons hb pa_nil (star_ne hs2)) (star_ne hs)) (by rw [star_ne hs, st]) st
  have core : ∀ (σ : L2.St) (H : Hp) (R : It → Hp → Prop) (S : List Addr) (ρ : Rho) (fp : List (List Addr)) (r : RL), In X.K S σ H ρ fp → sItemsA rngW [fa, fb] ρ = some r →
      (match r with | .ok ws => ∀ a n H' S', ws = rangeW a n → Grow S H S' H' → R (Itr a n) H' | .er c => ∀ C H', X.mg c = some (.ref C) → Ex H H' → W0 (.ref C) none σ H') →
      iRng2 (tCons (tE X W0 true fa []) (tCons (tE X W0 true fb []) tNil)) σ H R := by
    intro σ H R S ρ fp r I e p
    unfold sItemsA at e
    have fin : ∀ (Q : List V → Hp → Prop), tA X W0 true [fa, fb] [] σ H Q → tCons (tE X W0 true fa []) (tCons (tE X W0 true fb []) tNil) σ H Q := fun Q q =>
      tA_cons (ms := []) (fun σ H Q q => tA_cons (ms := []) (fun σ H Q q => alln_ok q) σ H Q q) σ H Q q
    cases ea : sAll [fa, fb] ρ with
    | none => rw [ea] at e; cases e
    | some ra =>
      rw [ea] at e
      cases ra with
      | er c =>
        cases e
        exact fin _ ⟨S, ρ, fp, _, I, ea, fun C H2 hc e2 => p C H2 hc e2⟩
      | ok ws =>
        simp only at e
        split at e
        · rename_i us hu
          cases e
          refine fin _ ⟨S, ρ, fp, _, I, ea, fun vs H1 S1 F1 g1 r1 k1 f1 => ?_⟩
          unfold rngW at hu
          split at hu
          · have := sAll_len _ _ ea
            simp at this
          · split at hu
            · rename_i i j hn
              cases hu
              obtain ⟨v, x, _, _, rfl, hv, hx⟩ := ra2 r1
              cases hv; cases hx
              have q1 := okR_ok hn.1
              have q2 := okR_ok hn.2
              exact ⟨i, j, rfl, ⟨q1.1, q1.2, q2.1, q2.2⟩, p i _ H1 S1 rfl g1⟩
            · cases hu
          · cases hu
        · cases e
  refine ⟨PI_weak P fun σ H R q => ?_, PI_weak P fun σ H R q => ?_⟩
  · obtain ⟨S, ρ, fp, r, I, e, p⟩ := q
    refine core σ H R S ρ fp r I e ?_
    cases r with
    | er c => exact p
    | ok ws => exact fun a n H' S' hw g => by subst hw; exact p _ H' S' H' g (Ex.refl _) src_range
  · obtain ⟨S, ρ, fp, r, I, e, p⟩ := q
    refine core σ H R S ρ fp r I e ?_
    cases r with
    | er c => exact p
    | ok ws => exact fun a n H' S' hw g => by subst hw; exact p _ H' S' g src_range
theorem seqG {K : PySem.W.Frag} {S1 : List Addr} {H1 : Hp} {v : V} {w : W} {F F' : List Addr} {ws : List W} (r : Rp K (hid S1 H1) H1 v w F') (hF : ∀ a ∈ F', a ∈ F) (e : els w = some ws) :
    ∃ a vs, v = .ref a ∧ SqL K (hid (S1.filter fun a => decide (a ∉ F)) H1) a vs ∧ RpA K (hid (S1.filter fun a => decide (a ∉ F)) H1) (hid (S1.filter fun a => decide (a ∉ F)) H1) vs ws [] := by
  cases r with
  | lst a b => cases e; exact ⟨_, _, rfl, .inl (ex_rd view_out a), b.mono view_out _ fun _ z => nomatch z⟩
  | klst a b => cases e; exact ⟨_, _, rfl, ex_l view_out a, b.mono view_out _ fun _ z => nomatch z⟩
  | olst a b =>
    simp only [els] at e
    split at e
    · rename_i hs
      cases e
      have := b.sh hs
      subst this
      refine ⟨_, _, rfl, .inl (.inl ?_), b.mono view_out _ fun _ z => nomatch z⟩
      rw [hid_out fun z => (out_of.mp z).2 (hF _ List.mem_cons_self)]
      exact a
    · cases e
  | _ => simp [els] at e
def enW : List W → Option (List W)
  | [w] => match els w with
    | some xs => some (enumW 0 xs)
    | none => none
  | _ => none
def zpW : List W → Option (List W)
  | [w, u] => match els w with
    | some xs => match els u with
      | some ys => some (zipW xs ys)
      | none => none
    | none => none
  | _ => none
theorem enum_raw {σ : L2.St} {H : Hp} {S : List Addr} {ρ : Rho} {fp : List (List Addr)} {r : RL} {bo : Bool} {R : It → Hp → Prop} (I : In X.K S σ H ρ fp) (e : sItemsA enW [fa] ρ = some r)
    (per : ∀ c, r = .er c → ∀ C H', X.mg c = some (.ref C) → Ex H H' → W0 (.ref C) none σ H')
    (pok : ∀ ws v H1 S1 F, Grow S H S1 H1 → r = .ok (enumW 0 ws) → ∀ w, els w = some ws → Rp X.K (hid S1 H1) H1 v w F → (bo = false → Fp H fp [] F) → ∃ a xs, v = .ref a ∧ SqL X.K H1 a xs ∧ R (Ite X.K a) H1) :
    iEnum X.K (tCons (tE X W0 bo fa []) tNil) σ H R := by
  unfold sItemsA at e
  refine tA_cons (ms := []) (fun σ H Q q => alln_ok q) σ H _ ?_
  cases ea : sAll [fa] ρ with
  | none => rw [ea] at e; cases e
  | some ra =>
    rw [ea] at e
    cases ra with
    | er c =>
      cases e
      exact ⟨S, ρ, fp, _, I, ea, fun C H2 hc e2 => per c rfl C H2 hc e2⟩
    | ok ws =>
      simp only at e
      split at e
      · rename_i us hu
        cases e
        refine ⟨S, ρ, fp, _, I, ea, fun vs H1 S1 F1 g1 r1 k1 f1 => ?_⟩
        unfold enW at hu
        split at hu
        · split at hu
          · rename_i w0 xs ex
            cases hu
            obtain ⟨v, rfl, hv⟩ := ra1 r1
            obtain ⟨a, ys, rfl, ha, q⟩ := pok xs v H1 S1 F1 g1 rfl _ ex hv f1
            exact ⟨a, ys, rfl, ha, q⟩
          · cases hu
        · cases hu
      · cases e
theorem enum_ok {a : Expr} {p pos tpos : Pos} {elts : List Expr} {kk : Nat} {fb : Sem} (hg : Gl X "enumerate") (hm : X.mg "enumerate" = none) (ha : PE X a (tE X W0 true fb [])) (hf : PE X a (tE X W0 false fa [])) (hs : isStar a = false) :
    PI X (.Tuple elts kk tpos) (.Call (.Name "enumerate" p) [a] [] pos) (iB X W0 (sItemsA enW [fb])) ∧ PI X (.Tuple elts kk tpos) (.Call (.Name "enumerate" p) [a] [] pos) (iF X W0 (sItemsA enW [fa])) := by
  refine ⟨PI_weak (pi_enum hg hm (pa_cons ha pa_nil (star_ne hs)) (star_ne hs)) fun σ H R q => ?_, PI_weak (pi_enum hg hm (pa_cons hf pa_nil (star_ne hs)) (star_ne hs)) fun σ H R q => ?_⟩
  · obtain ⟨S, ρ, fp, r, I, e, p⟩ := q
    refine enum_raw I e (fun c ec => by subst ec; exact p) fun ws v H1 S1 F g er w ew hr _ => ?_
    subst er
    obtain ⟨a, vs, rfl, ha, ra⟩ := els_ok hr hid_ex ew
    exact ⟨a, vs, rfl, ha, p _ H1 S1 H1 g (Ex.refl _) (src_enum ha ra)⟩
  · obtain ⟨S, ρ, fp, r, I, e, p⟩ := q
    refine enum_raw I e (fun c ec => by subst ec; exact p) fun ws v H1 S1 F g er w ew hr f1 => ?_
    subst er
    obtain ⟨a, vs, rfl, ha, ra⟩ := seqG hr (fun _ z => z) ew
    exact ⟨a, vs, rfl, ex_l hid_ex ha, p _ H1 _ (show_own (K := X.K) I.mk' g (fp0 (f1 rfl))) (src_enum ha ra)⟩
theorem zip_raw {σ : L2.St} {H : Hp} {S : List Addr} {ρ : Rho} {fp : List (List Addr)} {r : RL} {bo : Bool} {R : It → Hp → Prop} (I : In X.K S σ H ρ fp) (e : sItemsA zpW [fa, fb] ρ = some r)
    (per : ∀ c, r = .er c → ∀ C H', X.mg c = some (.ref C) → Ex H H' → W0 (.ref C) none σ H')
    (pok : ∀ ws zs v u H1 S1 F F1 F2, Grow S H S1 H1 → r = .ok (zipW ws zs) → ∀ w y, els w = some ws → els y = some zs → Rp X.K (hid S1 H1) H1 v w F1 → Rp X.K (hid S1 H1) H1 u y F2 → (∀ a ∈ F1, a ∈ F) → (∀ a ∈ F2, a ∈ F) → (bo = false → Fp H fp [] F) →
      ∃ a b xs ys, v = .ref a ∧ u = .ref b ∧ SqL X.K H1 a xs ∧ SqL X.K H1 b ys ∧ R (Itz X.K a b) H1) :
    iZip X.K (tCons (tE X W0 bo fa []) (tCons (tE X W0 bo fb []) tNil)) σ H R := by
  unfold sItemsA at e
  refine tA_cons (ms := []) (fun σ H Q q => tA_cons (ms := []) (fun σ H Q q => alln_ok q) σ H Q q) σ H _ ?_
  cases ea : sAll [fa, fb] ρ with
  | none => rw [ea] at e; cases e
  | some ra =>
    rw [ea] at e
    cases ra with
    | er c =>
      cases e
      exact ⟨S, ρ, fp, _, I, ea, fun C H2 hc e2 => per c rfl C H2 hc e2⟩
    | ok ws =>
      simp only at e
      split at e
      · rename_i us hu
        cases e
        refine ⟨S, ρ, fp, _, I, ea, fun vs H1 S1 F1 g1 r1 k1 f1 => ?_⟩
        unfold zpW at hu
        split at hu
        · split at hu
          · rename_i xs ex
            split at hu
            · rename_i ys ey
              cases hu
              cases r1 with
              | cons a1 b1 =>
                cases b1 with
                | cons a2 b2 =>
                  cases b2
                  obtain ⟨a, b, xs2, ys2, rfl, rfl, q1, q2, q3⟩ := pok xs ys _ _ H1 S1 _ _ _ g1 rfl _ _ ex ey a1 a2 (fun z hz => List.mem_append_left _ hz) (fun z hz => List.mem_append_right _ (by rw [List.append_nil]; exact hz)) f1
                  exact ⟨a, b, xs2, ys2, rfl, q1, q2, q3⟩
            · cases hu
          · cases hu
        · cases hu
      · cases e
theorem zip_ok {a b : Expr} {p pos tpos : Pos} {elts : List Expr} {kk : Nat} {ga gb : Sem} (hg : Gl X "zip") (hm : X.mg "zip" = none) (ha : PE X a (tE X W0 true ga [])) (hb : PE X b (tE X W0 true gb [])) (hf : PE X a (tE X W0 false fa [])) (hf2 : PE X b (tE X W0 false fb [])) (hs : isStar a = false) (hs2 : isStar b = false) :
    PI X (.Tuple elts kk tpos) (.Call (.Name "zip" p) [a, b] [] pos) (iB X W0 (sItemsA zpW [ga, gb])) ∧ PI X (.Tuple elts kk tpos) (.Call (.Name "zip" p) [a, b] [] pos) (iF X W0 (sItemsA zpW [fa, fb])) := by
  have st : starEach [b] X.env = [(false, eval b X.env)] := star_ne hs2
  refine ⟨PI_weak (pi_zip hg hm (pa_cons ha (pa_cons hb pa_nil (star_ne hs2)) (star_ne hs)) (star_ne hs) (by rw [st]; rfl)) fun σ H R q => ?_, PI_weak (pi_zip hg hm (pa_cons hf (pa_cons hf2 pa_nil (star_ne hs2)) (star_ne hs)) (star_ne hs) (by rw [st]; rfl)) fun σ H R q => ?_⟩
  · obtain ⟨S, ρ, fp, r, I, e, p⟩ := q
    refine zip_raw I e (fun c ec => by subst ec; exact p) fun ws zs v u H1 S1 F F1 F2 g er w y ew ey hr hr2 _ _ _ => ?_
    subst er
    obtain ⟨a, vs, rfl, ha, ra⟩ := els_ok hr hid_ex ew
    obtain ⟨b, us, rfl, hb, rb⟩ := els_ok hr2 hid_ex ey
    exact ⟨a, b, vs, us, rfl, rfl, ha, hb, p _ H1 S1 H1 g (Ex.refl _) (src_zip ha ra hb rb)⟩
  · obtain ⟨S, ρ, fp, r, I, e, p⟩ := q
    refine zip_raw I e (fun c ec => by subst ec; exact p) fun ws zs v u H1 S1 F F1 F2 g er w y ew ey hr hr2 k1 k2 f1 => ?_
    subst er
    obtain ⟨a, vs, rfl, ha, ra⟩ := seqG hr k1 ew
    obtain ⟨b, us, rfl, hb, rb⟩ := seqG hr2 k2 ey
    exact ⟨a, b, vs, us, rfl, rfl, ex_l hid_ex ha, ex_l hid_ex hb, p _ H1 _ (show_own (K := X.K) I.mk' g (fp0 (f1 rfl))) (src_zip ha ra hb rb)⟩
end
end Z

set_option Elab.async false
set_option linter.all false
set_option maxRecDepth 100000
set_option maxHeartbeats 4000000
set_option autoImplicit false
/-! targets, comprehensions -/
namespace Z
open PySem PySem.Spec PyProof.Rows L2

/-! ### targets -/
abbrev Tg := W → Rho → Option Rho
def gT (i : Nat) : Tg := fun w ρ => if w.isSh = true then some (ρ.set i (some w)) else none
def gTs : List Tg → List W → Rho → Option Rho
  | [], [], ρ => some ρ
  | t :: ts, w :: ws, ρ => match t w ρ with
    | some ρ' => gTs ts ws ρ'
    | none => none
  | _, _, _ => none
def gU (ts : List Tg) : Tg := fun w ρ => match seqs w with
  | some ws => gTs ts ws ρ
  | none => none
def setAll (σ : L2.St) : List (Nat × V) → L2.St
  | [] => σ
  | (i, v) :: l => setAll (σ.set i (some v)) l
def Upd (σ σ' : L2.St) (js : List Nat) : Prop := ∃ l, σ' = setAll σ l ∧ ∀ p ∈ l, p.1 ∈ js
theorem setAll_app (σ : L2.St) : ∀ l l' : List (Nat × V), setAll σ (l ++ l') = setAll (setAll σ l) l'
  | [], _ => rfl
  | (i, v) :: l, l' => by
    show setAll (σ.set i (some v)) (l ++ l') = _
    rw [setAll_app _ l l']
    rfl
theorem Upd.trans {σ σ1 σ2 : L2.St} {js ks : List Nat} (a : Upd σ σ1 js) (b : Upd σ1 σ2 ks) : Upd σ σ2 (js ++ ks) := by
  obtain ⟨l, rfl, h⟩ := a
  obtain ⟨l', rfl, h'⟩ := b
  refine ⟨l ++ l', (setAll_app _ _ _).symm, fun p hp => ?_⟩
  rcases List.mem_append.mp hp with z | z
  · exact List.mem_append_left _ (h p z)
  · exact List.mem_append_right _ (h' p z)
/-- the holders' things: fewer, not others -/
def Less (fs' fs : List (List Addr)) : Prop := ∀ (i : Nat) g, fs'[i]? = some g → g = [] ∨ fs[i]? = some g
theorem Less.trans {a b c : List (List Addr)} (h : Less a b) (k : Less b c) : Less a c := fun i g e => by
  rcases h i g e with z | z
  · exact .inl z
  · exact k i g z
theorem less_set (fs : List (List Addr)) (i : Nat) : Less (fs.set i []) fs := fun j g e => by
  rcases get_set e with ⟨_, z⟩ | ⟨_, z⟩
  · exact .inl z
  · exact .inr z
def tG (X : Cx) (f : Tg) (js : List Nat) : TG := fun v σ H Q => ∃ S ρ fs w ρ', In X.K S σ H ρ fs ∧ Rp X.K (hid S H) H v w [] ∧ f w ρ = some ρ' ∧ ∀ σ' fs', In X.K S σ' H ρ' fs' → Upd σ σ' js → Less fs' fs → Q σ' H
def tGs (X : Cx) (ts : List Tg) (js : List Nat) : TGs := fun vs σ H Q => ∃ S ρ fs ws ρ', In X.K S σ H ρ fs ∧ RpA X.K (hid S H) H vs ws [] ∧ gTs ts ws ρ = some ρ' ∧ ∀ σ' fs', In X.K S σ' H ρ' fs' → Upd σ σ' js → Less fs' fs → Q σ' H
theorem PG_or {X : Cx} {e : Expr} {t t' : TG} (h : PG X e t) (h' : PG X e t') : PG X e (fun v σ H Q => t v σ H Q ∨ t' v σ H Q) :=
  ⟨fun pins s σ H v u Q I r q => q.elim (h.run pins s σ H v u Q I r) (h'.run pins s σ H v u Q I r)⟩
theorem PG_weak {X : Cx} {e : Expr} {t t' : TG} (h : PG X e t) (k : ∀ v σ H Q, t' v σ H Q → t v σ H Q) : PG X e t' := ⟨fun pins s σ H v u Q I r q => h.run pins s σ H v u Q I r (k v σ H Q q)⟩
theorem PGs_weak {X : Cx} {e : List Expr} {t t' : TGs} (h : PGs X e t) (k : ∀ v σ H Q, t' v σ H Q → t v σ H Q) : PGs X e t' := ⟨fun pins s σ H v u Q I r q => h.run pins s σ H v u Q I r (k v σ H Q q)⟩
section
variable {X : Cx}
theorem tg_name {i : Nat} {v : V} {σ : L2.St} {H : Hp} {Q : L2.St → Hp → Prop} (h : tG X (gT i) [i] v σ H Q) : gName i v σ H Q := by
  obtain ⟨S, ρ, fs, w, ρ', I, r, e, p⟩ := h
  unfold gT at e
  split at e
  · cases e
    exact p _ _ (I.set i r List.nodup_nil (fun _ z => nomatch z) fun _ z => nomatch z) ⟨[(i, v)], rfl, fun q hq => by rcases List.mem_singleton.mp hq with rfl; exact List.mem_singleton.mpr rfl⟩ (less_set fs i)
  · cases e
theorem tgs_nil {vs : List V} {σ : L2.St} {H : Hp} {Q : L2.St → Hp → Prop} (h : tGs X [] [] vs σ H Q) : gNil vs σ H Q := by
  obtain ⟨S, ρ, fs, ws, ρ', I, r, e, p⟩ := h
  cases ws with
  | nil =>
    cases r
    cases e
    exact ⟨rfl, p σ fs I ⟨[], rfl, fun _ z => nomatch z⟩ fun i g e => .inr e⟩
  | cons w ws => simp [gTs] at e
theorem nil_app {α : Type} {a b : List α} (h : [] = a ++ b) : a = [] ∧ b = [] := List.append_eq_nil_iff.mp h.symm
theorem tgs_cons {f : Tg} {ts : List Tg} {js ks : List Nat} {vs : List V} {σ : L2.St} {H : Hp} {Q : L2.St → Hp → Prop} (h : tGs X (f :: ts) (js ++ ks) vs σ H Q) : gCons (tG X f js) (tGs X ts ks) vs σ H Q := by
  obtain ⟨S, ρ, fs, ws, ρ', I, r, e, p⟩ := h
  cases ws with
  | nil => simp [gTs] at e
  | cons w ws =>
    unfold gTs at e
    split at e
    · rename_i ρ1 e1
      generalize hF : ([] : List Addr) = F at r
      cases r with
      | cons a b =>
        obtain ⟨rfl, rfl⟩ := nil_app hF
        exact ⟨_, _, rfl, S, ρ, fs, w, ρ1, I, a, e1, fun σ1 fs1 I1 u1 l1 => ⟨S, ρ1, fs1, ws, ρ', I1, b, e, fun σ2 fs2 I2 u2 l2 => p σ2 fs2 I2 (u1.trans u2) (l2.trans l1)⟩⟩
    · cases e
def noStar (es : List Expr) : Bool := es.all fun e => !isStar e
theorem assign_len : ∀ {es : List Expr} {env : Env}, (assignEach es env).length = es.length
  | [], _ => rfl
  | e :: es, env => by
    have ih := assign_len (es := es) (env := env)
    cases e <;> simp [assignEach, ih]
theorem assign_star : ∀ {es : List Expr} {env : Env}, noStar es = true → (assignEach es env).findIdx? (·.1) = none
  | [], _, _ => rfl
  | e :: es, env, h => by
    unfold noStar at h
    rw [List.all_cons, Bool.and_eq_true] at h
    have ih := assign_star (es := es) (env := env) h.2
    cases e <;> first
      | (simp [isStar] at h; done)
      | (simp [assignEach, List.findIdx?_cons, ih])
theorem assign_map {e : Expr} {es : List Expr} {env : Env} (h : isStar e = false) : (assignEach (e :: es) env).map (·.2) = assign e env :: (assignEach es env).map (·.2) := by
  cases e <;> first | rfl | cases h
theorem pg_tupZ {es : List Expr} {k : Nat} {pos : Pos} {ts : List Tg} {js : List Nat} (hc : X.calm = true) (h : PGs X es (tGs X ts js)) (hl : ts.length = es.length) (hs : noStar es = true) : PG X (.Tuple es k pos) (tG X (gU ts) js) := by
  refine PG_weak (PG_or (pg_tup hc h (n := es.length) assign_len (assign_star hs)) (pg_unl hc h (n := es.length) assign_len (assign_star hs))) fun v σ H Q q => ?_
  obtain ⟨S, ρ, fs, w, ρ', I, r, e, p⟩ := q
  unfold gU at e
  split at e
  · rename_i ws ew
    have gl : ∀ (ts : List Tg) (ws : List W) (ρ ρ' : Rho), gTs ts ws ρ = some ρ' → ws.length = ts.length := by
      intro ts
      induction ts with
      | nil => intro ws ρ ρ' h; cases ws <;> simp [gTs] at h ⊢
      | cons t ts ih =>
        intro ws ρ ρ' h
        cases ws with
        | nil => simp [gTs] at h
        | cons w ws =>
          unfold gTs at h
          split at h
          · simp [ih _ _ _ h]
          · cases h
    have hlen := gl ts ws ρ ρ' e
    rcases seqs2 r hid_ex ew with ⟨a, vs, rfl, ha, ra⟩ | ⟨a, vs, rfl, ha, ra⟩
    · exact .inr ⟨a, vs, rfl, ha, by rw [ra.len, hlen, hl], S, ρ, fs, ws, ρ', I, ra, e, p⟩
    · exact .inl ⟨a, vs, rfl, ha, by rw [ra.len, hlen, hl], S, ρ, fs, ws, ρ', I, ra, e, p⟩
  · cases e
end

/-! ### wiping -/
def wipeR (ρ : Rho) : List Nat → Rho
  | [] => ρ
  | v :: vs => (wipeR ρ vs).set v none
def wipeF (fs : List (List Addr)) : List Nat → List (List Addr)
  | [] => fs
  | v :: vs => (wipeF fs vs).set v []
theorem In.wipe {K : PySem.W.Frag} {S : List Addr} {σ : L2.St} {H : Hp} {ρ : Rho} {fs : List (List Addr)} (I : In K S σ H ρ fs) : ∀ vs : List Nat, In K S (L2.wipe σ vs) H (wipeR ρ vs) (wipeF fs vs)
  | [] => I
  | v :: vs => (In.wipe I vs).wipe1 v none
theorem wipeF_less (fs : List (List Addr)) : ∀ vs : List Nat, Less (wipeF fs vs) fs
  | [] => fun i g e => .inr e
  | v :: vs => (less_set _ v).trans (wipeF_less fs vs)
theorem wipe_get (σ : L2.St) (i : Nat) : ∀ vs : List Nat, (L2.wipe σ vs)[i]? = if i ∈ vs then (σ[i]?).map fun _ => none else σ[i]?
  | [] => by simp [L2.wipe]
  | v :: vs => by
    unfold L2.wipe
    by_cases e : v = i
    · subst e
      rw [if_pos List.mem_cons_self]
      by_cases hl : v < (L2.wipe σ vs).length
      · rw [List.getElem?_set_self hl]
        rw [wipe_length] at hl
        rw [List.getElem?_eq_getElem hl]
        rfl
      · rw [List.getElem?_eq_none (by simpa using hl)]
        rw [wipe_length] at hl
        rw [List.getElem?_eq_none (by simpa using hl)]
        rfl
    · rw [List.getElem?_set_ne e, wipe_get σ i vs]
      by_cases h : i ∈ vs
      · rw [if_pos h, if_pos (List.mem_cons_of_mem _ h)]
      · rw [if_neg h, if_neg fun z => (List.mem_cons.mp z).elim (fun q => e q.symm) h]
theorem wipe_set (σ : L2.St) {j : Nat} {x : Option V} {vs : List Nat} (h : j ∈ vs) : L2.wipe (σ.set j x) vs = L2.wipe σ vs := by
  apply List.ext_getElem?
  intro i
  rw [wipe_get, wipe_get]
  by_cases e : i ∈ vs
  · rw [if_pos e, if_pos e]
    by_cases q : i = j
    · subst q
      by_cases hl : i < σ.length
      · rw [List.getElem?_set_self hl, List.getElem?_eq_getElem hl]; rfl
      · rw [List.getElem?_eq_none (by simpa using hl), List.getElem?_eq_none (by simpa using hl)]
    · rw [List.getElem?_set_ne (Ne.symm q)]
  · rw [if_neg e, if_neg e]
    have q : i ≠ j := fun z => e (z ▸ h)
    rw [List.getElem?_set_ne (Ne.symm q)]
theorem wipe_setAll {vs : List Nat} : ∀ (l : List (Nat × V)) (σ : L2.St), (∀ p ∈ l, p.1 ∈ vs) → L2.wipe (setAll σ l) vs = L2.wipe σ vs
  | [], _, _ => rfl
  | (i, v) :: l, σ, h => by
    show L2.wipe (setAll (σ.set i (some v)) l) vs = _
    rw [wipe_setAll l _ fun p hp => h p (List.mem_cons_of_mem _ hp), wipe_set σ (h (i, v) List.mem_cons_self)]
theorem wipe_wipe (σ : L2.St) (vs : List Nat) : L2.wipe (L2.wipe σ vs) vs = L2.wipe σ vs := by
  apply List.ext_getElem?
  intro i
  rw [wipe_get, wipe_get]
  by_cases e : i ∈ vs
  · rw [if_pos e, if_pos e, Option.map_map]; rfl
  · rw [if_neg e, if_neg e]

/-! ### comprehensions -/
def lcLoop (g : Tg) (ft : Option Sem) (fe : Sem) (ρ : Rho) : List W → Option (List W)
  | [] => some []
  | w :: ws => match g w ρ with
    | none => none
    | some ρ1 => match (match ft with | none => some (R.ok (.bl true)) | some f => f ρ1) with
      | some (.ok (.bl true)) => match fe ρ1 with
        | some (.ok u) => match lcLoop g ft fe ρ ws with
          | some us => some (u :: us)
          | none => none
        | _ => none
      | some (.ok (.bl false)) => lcLoop g ft fe ρ ws
      | _ => none
def sLc (vs : List Nat) (fi : Rho → Option RL) (g : Tg) (ft : Option Sem) (fe : Sem) : Sem := fun ρ => match fi ρ with
  | some (.ok ws) => if ws.length < sizeLine then match lcLoop g ft fe (wipeR ρ vs) ws with
      | some us => some (.ok (.olst us))
      | none => none
    else none
  | some (.er c) => some (.er c)
  | none => none
def W0F : WX := fun _ _ _ _ => False
def tTo (X : Cx) (W0 : WX) : Option Sem → TT
  | none => tYes
  | some f => tT X W0 f
theorem lcLoop_len {g : Tg} {ft : Option Sem} {fe : Sem} {ρ : Rho} : ∀ (ws us : List W), lcLoop g ft fe ρ ws = some us → us.length ≤ ws.length
  | [], us, h => by cases h; exact Nat.le_refl _
  | w :: ws, us, h => by
    unfold lcLoop at h
    split at h
    · cases h
    · split at h
      · split at h
        · split at h
          · rename_i us2 e2
            cases h
            have := lcLoop_len ws us2 e2
            simp
            omega
          · cases h
        · cases h
      · have := lcLoop_len ws us h
        simp
        omega
      · cases h
section
variable {X : Cx} {W0 : WX} {bo : Bool} {ms : List Nat} {σ : L2.St} {H : Hp} {Q : VK}
/-- what holds ahead of turn i -/
structure LcI (K : PySem.W.Frag) (S1 : List Addr) (H1 : Hp) (D : Addr) (g : Tg) (ft : Option Sem) (fe : Sem) (ρ : Rho) (ws tot : List W) (i : Nat) (H : Hp) : Prop where
  out : ∃ S acc us rest F, H D = some (.lst acc) ∧ D ∈ S ∧ Grow S1 H1 S H ∧ RpA K (hid S H) H acc us F ∧ D ∉ F ∧ (∀ a ∈ F, a ∈ S ∧ H1 a = none) ∧ F.Nodup ∧ us.length ≤ i ∧ lcLoop g ft fe ρ (ws.drop i) = some rest ∧ tot = us ++ rest
theorem lc_turn {S1 : List Addr} {H1 : Hp} {D : Addr} {g : Tg} {ft : Option Sem} {fe : Sem} {js vs : List Nat} {ρ : Rho} {fp : List (List Addr)} {ws tot : List W} {i : Nat} {H H2 : Hp} {x : V} {w : W} {J : It} {Hs : Hp} (hj : ∀ j ∈ js, j ∈ vs)
    (I : In X.K S1 σ H1 ρ fp) (hD : H1 D = none) (src : Src X.K J Hs (hid S1 H1) ws) (hs : Ex Hs H1) (hw : ws[i]? = some w) (hl : ws.length < sizeLine) (y : J.yld i H x H2) (P : LcI X.K S1 H1 D g ft fe (wipeR ρ vs) ws tot i H) :
    tG X g js x (L2.wipe σ vs) H2 fun σ2 H3 => L2.wipe σ2 vs = L2.wipe σ vs ∧ tTo X W0F ft σ2 H3 fun b H4 =>
      if b = true then tE X W0F false fe [] σ2 H4 fun y H5 => ∃ acc, H5 D = some (.lst acc) ∧ acc.length < sizeLine ∧ LcI X.K S1 H1 D g ft fe (wipeR ρ vs) ws tot (i + 1) (upd H5 D (.lst (acc ++ [y]))) else LcI X.K S1 H1 D g ft fe (wipeR ρ vs) ws tot (i + 1) H4 := by
  obtain ⟨S, acc, us, rest, F, hacc, DS, g1, ra, DF, hF, nF, hlen, hrest, htot⟩ := P.out
  obtain ⟨g2, rx⟩ := src.yld S H i x H2 w g1.mks (hs.trans g1.ex) g1.view hw y
  have g12 := g1.trans g2
  have hi : i < ws.length := (List.getElem?_eq_some_iff.mp hw).1
  have hdrop : ws.drop i = w :: ws.drop (i + 1) := by
    rw [List.drop_eq_getElem_cons hi]
    congr 1
    have := List.getElem?_eq_getElem hi
    rw [hw] at this
    exact (Option.some.inj this).symm
  rw [hdrop] at hrest
  unfold lcLoop at hrest
  have Iw : In X.K S (L2.wipe σ vs) H2 (wipeR ρ vs) (wipeF fp vs) := (I.wipe vs).grow g12
  split at hrest
  · cases hrest
  · rename_i ρ1 eρ
    refine ⟨S, wipeR ρ vs, wipeF fp vs, w, ρ1, Iw, rx, eρ, fun σ2 fs2 I2 u2 l2 => ?_⟩
    have hwipe : L2.wipe σ2 vs = L2.wipe σ vs := by
      obtain ⟨l, rfl, hl2⟩ := u2
      rw [wipe_setAll l _ fun p hp => hj _ (hl2 p hp), wipe_wipe]
    refine ⟨hwipe, ?_⟩
    -- the test's answer, then the rest
    have rest_ok : ∀ (b : Bool), (match ft with | none => some (R.ok (.bl true)) | some f => f ρ1) = some (.ok (.bl b)) → ∀ S4 H4, Grow S H2 S4 H4 →
        if b = true then tE X W0F false fe [] σ2 H4 fun y H5 => ∃ acc, H5 D = some (.lst acc) ∧ acc.length < sizeLine ∧ LcI X.K S1 H1 D g ft fe (wipeR ρ vs) ws tot (i + 1) (upd H5 D (.lst (acc ++ [y]))) else LcI X.K S1 H1 D g ft fe (wipeR ρ vs) ws tot (i + 1) H4 := by
      intro b eb S4 H4 g4
      have g24 := g2.trans g4
      rw [eb] at hrest
      have ra4 : RpA X.K (hid S4 H4) H4 acc us F := ra.mono g24.view us (same_of g24 g1.mks fun a ha => (hF a ha).1)
      have hacc4 : H4 D = some (.lst acc) := g24.ex D _ hacc
      cases b with
      | false =>
        refine iteF ⟨S4, acc, us, rest, F, hacc4, g24.inc D DS, g1.trans g24, ra4, DF, fun a ha => ⟨g24.inc a (hF a ha).1, (hF a ha).2⟩, nF, Nat.le_succ_of_le hlen, hrest, htot⟩
      | true =>
        simp only at hrest
        refine iteT ?_
        split at hrest
        · rename_i u eu
          split at hrest
          · rename_i us2 e2
            cases hrest
            refine ⟨S4, ρ1, fs2, _, I2.grow g4, eu, fun y H5 S5 F5 g5 r5 k5 f5 => ?_⟩
            have g45 := g24.trans g5
            have hacc5 : H5 D = some (.lst acc) := g45.ex D _ hacc
            have DS5 : D ∈ S5 := g45.inc D DS
            have hFn : ∀ a ∈ F5, H4 a = none := fp0 (f5 rfl)
            have nF5 : F5.Nodup := (f5 rfl).2 List.nodup_nil
            have D5 : D ∉ F5 := fun z => by have := hFn D z; rw [hacc4] at this; cases this
            have la := ra.len
            refine ⟨acc, hacc5, by omega, S5, acc ++ [y], us ++ [u], us2, F ++ F5, upd_same, DS5, ⟨Ex.mut (g1.trans g45).ex hD, (g1.trans g45).inc, (g1.trans g45).new, fun a ha => ?_⟩, ?_, ?_, fun a ha => ?_, ?_, ?_, e2, ?_⟩
            · by_cases e : a = D
              · subst e; rw [upd_same]; exact True.intro
              · rw [upd_ne e]; exact (g1.trans g45).mks a ha
            · rw [hid_upd DS5]
              have q1 : RpA X.K (hid S5 H5) H5 acc us F := ra.mono g45.view us (same_of g45 g1.mks fun a ha => (hF a ha).1)
              have q2 := q1.app r5
              refine q2.mono (Ex.refl _) _ fun a ha => ?_
              rw [upd_ne]
              rintro rfl
              exact (List.mem_append.mp ha).elim DF D5
            · exact fun z => (List.mem_append.mp z).elim DF D5
            · rcases List.mem_append.mp ha with z | z
              · exact ⟨g45.inc a (hF a z).1, (hF a z).2⟩
              · exact ⟨k5 a z, (g1.trans g24).ex.back (hFn a z)⟩
            · refine List.nodup_append.mpr ⟨nF, nF5, fun a ha b hb hab => ?_⟩
              subst hab
              have q := g1.mks a (hF a ha).1
              have z := g24.ex.back (hFn a hb)
              rw [z] at q
              exact q
            · rw [List.length_append]
              simp
              exact hlen
            · rw [htot, List.append_assoc]
              rfl
          · cases hrest
        · cases hrest
    cases ft with
    | none => exact rest_ok true rfl S H2 (.refl g2.mks)
    | some f =>
      show tT X W0F f σ2 H2 _
      simp only at hrest
      split at hrest
      · rename_i eb
        exact ⟨S, ρ1, fs2, _, I2, eb, fun H4 S4 g4 => rest_ok true eb S4 H4 g4⟩
      · rename_i eb
        exact ⟨S, ρ1, fs2, _, I2, eb, fun H4 S4 g4 => rest_ok false eb S4 H4 g4⟩
      · cases hrest
theorem lc_ok {fi : Rho → Option RL} {g : Tg} {ft : Option Sem} {fe : Sem} {js vs : List Nat} (hj : ∀ j ∈ js, j ∈ vs) (h : tE X W0 bo (sLc vs fi g ft fe) ms σ H Q) :
    tLc (iB X W0 fi) (tG X g js) (tTo X W0F ft) (tE X W0F false fe []) vs σ H Q := by
  obtain ⟨S, ρ, fp, r, I, e, p⟩ := h
  unfold sLc at e
  cases ei : fi ρ with
  | none => rw [ei] at e; cases e
  | some ri =>
    rw [ei] at e
    cases ri with
    | er c =>
      cases e
      exact ⟨S, ρ, fp, _, I, ei, fun C H2 hc e2 => p C H2 hc e2⟩
    | ok ws =>
      simp only at e
      split at e
      · rename_i hl
        split at e
        · rename_i us eu
          cases e
          refine ⟨S, ρ, fp, _, I, ei, fun J H1 S1 Hs g1 hs src D hD => ?_⟩
          have I1 := I.grow g1
          refine ⟨fun i m H => m = ws.length - i ∧ i ≤ ws.length ∧ LcI X.K S1 H1 D g ft fe (wipeR ρ vs) ws us i H, ⟨ws.length, by simp, Nat.zero_le _, ⟨D :: S1, [], [], us, [], upd_same, List.mem_cons_self, Grow.newown g1.mks hD True.intro, .nil, (fun z => nomatch z), (fun _ z => nomatch z), List.nodup_nil, Nat.le_refl _, eu, rfl⟩⟩, ?_⟩
          rintro i m H2 ⟨rfl, hi, P⟩
          by_cases hlt : i < ws.length
          · have hw : ws[i]? = some ws[i] := List.getElem?_eq_getElem hlt
            obtain ⟨S2, acc, us2, rest, F, q1, q2, q3, _⟩ := P.out
            refine .inr ⟨src.go S2 H2 i q3.mks (hs.trans q3.ex) q3.view hlt, LcI X.K S1 H1 D g ft fe (wipeR ρ vs) ws us (i + 1), fun H' p' => ⟨ws.length - (i + 1), by omega, rfl, hlt, p'⟩, fun x H' y => ?_⟩
            exact lc_turn hj I1 hD src hs hw hl y P
          · obtain ⟨S2, acc, us2, rest, F, q1, q2, q3, q4, q5, q6, q7, q8, q9, q10⟩ := P.out
            refine .inl ⟨src.stop S2 H2 i q3.mks (hs.trans q3.ex) q3.view (by omega), ?_⟩
            have e0 : ws.drop i = [] := List.drop_eq_nil_of_le (by omega)
            rw [e0] at q9
            cases q9
            rw [List.append_nil] at q10
            subst q10
            refine p (.ref D) H2 S2 (D :: F) (g1.trans q3) (.olst q1 q4) (fun a ha => ?_) fun _ => ⟨fun a ha => .inl ?_, fun _ => List.nodup_cons.mpr ⟨q5, q7⟩⟩
            · rcases List.mem_cons.mp ha with rfl | z
              · exact q2
              · exact (q6 a z).1
            · rcases List.mem_cons.mp ha with rfl | z
              · exact g1.ex.back hD
              · exact g1.ex.back (q6 a z).2
        · cases e
      · cases e
end
end Z

set_option Elab.async false
set_option linter.all false
set_option maxRecDepth 100000
set_option maxHeartbeats 4000000
set_option autoImplicit false
/-! methods of built-in types -/
namespace Z
open PySem PySem.Spec PyProof.Rows L2

theorem PE_or {X : Cx} {e : Expr} {t t' : TE} (h : PE X e t) (h' : PE X e t') : PE X e (fun σ H Q => t σ H Q ∨ t' σ H Q) := ⟨fun pins s σ H Q I q => q.elim (h.run pins s σ H Q I) (h'.run pins s σ H Q I)⟩
/-- the receiver is of that built-in type -/
def tyZ (K : PySem.W.Frag) (T : String) (x : V) (H : Hp) : Prop := tyV K T x H ∨ (T = "tuple" ∧ ∃ p xs, x = .ref p ∧ Tn K H p xs)
section
variable {X : Cx}
theorem tyZ_is {pins : List (Addr × Obj)} {σ : L2.St} {H : Hp} {s : Shared} {T : String} {x : V} {v : Value} (I : Inv X pins σ H s) (r : RelV x v) (ty : tyZ X.K T x H) :
    s.TypeIs v T ∧ ∀ a, v = .ref a → ∃ ob, s.heap.get? a = some ob ∧ ob.dict = none := by
  rcases ty with ty | ⟨rfl, p, xs, rfl, h⟩
  · exact tyV_is I r ty
  · cases r
    rcases h with ⟨o, hd, h⟩ | ⟨o, its, n, hk, hc, hd, _⟩
    · obtain ⟨ho, _, _, _, ob, h1, h2, _⟩ := I.hok p _ h
      rw [ho] at h1
      cases h1
      exact ⟨⟨o, ho, h2⟩, fun a e => by cases e; exact ⟨o, ho, hd⟩⟩
    · exact ⟨⟨o, I.kIn p o hk, hc⟩, fun a e => by cases e; exact ⟨o, I.kIn _ o hk, hd⟩⟩
def tBMZ (K : PySem.W.Frag) (T : String) (r : V → List V → Hp → VK → Prop) (to : TE) (t : TA) : TE := fun σ H Q => to σ H fun x H1 => tyZ K T x H1 ∧ t σ H1 fun xs H2 => r x xs H2 Q
variable {o e : Expr} {es : List Expr} {to : TE} {t : TA} {name : Str} {apos cpos : Pos} {T id : String} {r : V → List V → Hp → VK → Prop}
theorem pe_mZ0 (pa : PlainAttrs T) (slot : Slot T name id) (hty : typeOf (.builtin id) = pure (.type "method_descriptor")) (hm : MtR X id r) (ho : PE X o to)
    (hbase : attributeBase o name X.env (eval o X.env) = eval o X.env) (hline : (apos.endLine == cpos.line) = true) : PE X (.Call (.Attribute o name apos) [] [] cpos) (tBMZ X.K T r to tNil) := by
  refine ⟨fun pins s σ H Q I h => ?_⟩
  refine wpAny_Call_method0_late hbase hline (thn (ho.run pins s σ H _ I h) fun v s1 ⟨x, H1, I1, r1, ty, q1⟩ => ?_)
  obtain ⟨h1, h2⟩ := tyZ_is I1 r1 ty
  exact ⟨T, id, pa, slot, hty, h1, h2, Calls.callWith_builtin rfl (PySem.evalArgs_none (hm pins s1 σ H1 x [] v [] Q I1 r1 .nil q1))⟩
theorem pe_mZ (pa : PlainAttrs T) (slot : Slot T name id) (hty : typeOf (.builtin id) = pure (.type "method_descriptor")) (hm : MtR X id r) (ho : PE X o to) (ha : PA X (e :: es) t)
    (hbase : attributeBase o name X.env (eval o X.env) = eval o X.env)
    (hfew : ((backTo cpos (starEach (e :: es) X.env)).all (fun x => !x.1) && (backToKw cpos (keywordEach [] X.env)).all (fun x => x.1.isSome)
      && decide ((e :: es).length + ([] : List Keyword).length + (if ([] : List Keyword).isEmpty then 0 else 1) < 30)) = true)
    (hline : (apos.endLine == cpos.line) = true) (hs : starEach (e :: es) X.env = (false, eval e X.env) :: starEach es X.env) (hplain : (backTo cpos (starEach es X.env)).any (·.1) = false) :
    PE X (.Call (.Attribute o name apos) (e :: es) [] cpos) (tBMZ X.K T r to t) := by
  refine ⟨fun pins s σ H Q I h => ?_⟩
  refine wpAny_Call_method_late hbase hfew hline rfl (thn (ho.run pins s σ H _ I h) fun v s1 ⟨x, H1, I1, r1, ty, q1⟩ => ?_)
  obtain ⟨h1, h2⟩ := tyZ_is I1 r1 ty
  refine ⟨T, id, pa, slot, hty, h1, h2, ?_⟩
  have hA := ha.run cpos pins s1 σ H1 _ I1 q1
  rw [hs] at hA ⊢
  refine Calls.callWith_builtin (by show (false || (backTo cpos (starEach es X.env)).any (·.1)) = false; rw [hplain] <;> rfl) (Calls.evalArgs_plain ?_)
  exact thn hA fun us s2 ⟨vs, H2, I2, r2, q2⟩ => hm pins s2 σ H2 x vs v us Q I2 r1 r2 q2
end

/-! ### by values -/
def rM (X : Cx) (g : W → List W → Option W) : V → List V → Hp → VK → Prop := fun x xs H Q => ∃ S wx ws w Fx F, MK S H ∧ Rp X.K (hid S H) H x wx Fx ∧ RpA X.K (hid S H) H xs ws F ∧ g wx ws = some w ∧ An X S H w Q
def tyW (T : String) : W → Bool
  | .str _ => T == "str"
  | .lst _ => T == "list"
  | .olst _ => T == "list"
  | .tup _ => T == "tuple"
  | .otup _ => T == "tuple"
  | _ => false
def sM (T : String) (g : W → List W → Option W) (fo : Sem) (fs : List Sem) : Sem := fun ρ => match fo ρ with
  | some (.ok a) => if tyW T a = true then match sAll fs ρ with
    | some (.ok ws) => match g a ws with
      | some w => some (.ok w)
      | none => none
    | some (.er c) => some (.er c)
    | none => none
    else none
  | r => r
section
variable {X : Cx} {W0 : WX} {bo : Bool} {fo : Sem} {fs : List Sem} {ms : List Nat} {σ : L2.St} {H : Hp} {Q : VK}
theorem tyW_ok {S : List Addr} {H : Hp} {T : String} {x : V} {w : W} {F : List Addr} (h : Rp X.K (hid S H) H x w F) (t : tyW T w = true) : tyZ X.K T x H := by
  cases h <;> simp [tyW] at t
  · exact .inl t
  · rename_i a b; exact .inl (.inl ⟨t, _, .inl (ex_rd hid_ex a)⟩)
  · rename_i a b; exact .inr ⟨t, _, _, rfl, ex_n hid_ex a⟩
  · rename_i a b; exact .inl (.inl ⟨t, _, SqL.of a⟩)
  · rename_i a b; exact .inr ⟨t, _, _, rfl, ex_n hid_ex a⟩
theorem sM_ok {g : W → List W → Option W} {T : String} (h : tE X W0 bo (sM T g fo fs) ms σ H Q) : tBMZ X.K T (rM X g) (tE X W0 true fo []) (tA X W0 true fs []) σ H Q := by
  obtain ⟨S, ρ, fp, r, I, e, p⟩ := h
  unfold sM at e
  cases ea : fo ρ with
  | none => rw [ea] at e; cases e
  | some ra =>
    rw [ea] at e
    cases ra with
    | er c =>
      cases e
      exact ⟨S, ρ, fp, _, I, ea, p.er (Ex.refl _)⟩
    | ok a =>
      refine ⟨S, ρ, fp, _, I, ea, fun v H1 S1 F1 g1 r1 m1 _ => ?_⟩
      simp only at e
      split at e
      · rename_i ht
        refine ⟨tyW_ok r1 ht, ?_⟩
        cases eb : sAll fs ρ with
        | none => rw [eb] at e; cases e
        | some rb =>
          rw [eb] at e
          cases rb with
          | er c =>
            cases e
            exact ⟨S1, ρ, fp, _, I.grow g1, eb, fun C H2 hc e2 => p C H2 hc (g1.ex.trans e2)⟩
          | ok ws =>
            simp only at e
            split at e
            · rename_i w eg
              cases e
              refine ⟨S1, ρ, fp, _, I.grow g1, eb, fun vs H2 S2 F2 g2 r2 m2 _ => ?_⟩
              exact ⟨S2, a, ws, w, F1, F2, g2.mks, r1.mono g2.view _ (same_of g2 g1.mks m1), r2, eg, p.an (g1.trans g2)⟩
            · cases e
      · cases e
/-- by the receiver's type -/
def sM3 (g1 g2 g3 : W → List W → Option W) (fo : Sem) (fs : List Sem) : Sem := fun ρ => match fo ρ with
  | some (.ok a) => if tyW "str" a = true then sM "str" g1 fo fs ρ else if tyW "list" a = true then sM "list" g2 fo fs ρ else sM "tuple" g3 fo fs ρ
  | r => r
theorem sM3_ok {g1 g2 g3 : W → List W → Option W} (h : tE X W0 bo (sM3 g1 g2 g3 fo fs) ms σ H Q) : tE X W0 bo (sM "str" g1 fo fs) ms σ H Q ∨ (tE X W0 bo (sM "list" g2 fo fs) ms σ H Q ∨ tE X W0 bo (sM "tuple" g3 fo fs) ms σ H Q) := by
  obtain ⟨S, ρ, fp, r, I, e, p⟩ := h
  unfold sM3 at e
  cases ea : fo ρ with
  | none => rw [ea] at e; cases e
  | some ra =>
    rw [ea] at e
    cases ra with
    | er c =>
      cases e
      exact .inl ⟨S, ρ, fp, _, I, by unfold sM; rw [ea], p⟩
    | ok a =>
      simp only at e
      split at e
      · exact .inl ⟨S, ρ, fp, _, I, e, p⟩
      · split at e
        · exact .inr (.inl ⟨S, ρ, fp, _, I, e, p⟩)
        · exact .inr (.inr ⟨S, ρ, fp, _, I, e, p⟩)
end

/-! ### the methods -/
def mJoin : W → List W → Option W
  | .str a, [w] => match (seqs w).bind strsOf with
    | some ys => if (ys.map (·.length)).sum + ys.length * a.length ≤ 16777216 then some (.str (Txt.join a ys)) else none
    | none => none
  | _, _ => none
def mSplit : W → List W → Option W
  | .str a, [.str b] => if (b.length == 0) = false ∧ a.length + 2 ≤ sizeLine then some (.olst ((Txt.split a b).map .str)) else none
  | _, _ => none
def mPart : W → List W → Option W
  | .str a, [.str b] => if (b.length == 0) = false ∧ a.length ≤ sizeLine then some (.pt [.str (Txt.partition a b).1, .str (Txt.partition a b).2.1, .str (Txt.partition a b).2.2]) else none
  | _, _ => none
def mStarts : W → List W → Option W
  | .str a, [.str b] => some (.bl (Txt.startswith a b))
  | _, _ => none
def mUpper : W → List W → Option W
  | .str a, [] => if a.length ≤ 5592405 then some (.str (Txt.upper a)) else none
  | _, _ => none
def mAlpha : W → List W → Option W
  | .str a, [] => some (.bl (Txt.isalpha a))
  | _, _ => none
def mIdxS : W → List W → Option W
  | .str a, [.str b] => match Builtin.Str.occurrences a b 0 a.length 1 with
    | i :: _ => some (.int (i : Nat))
    | [] => none
  | _, _ => none
def findF (y : W) : List W → Option Nat
  | [] => none
  | z :: zs => if eqF z y = true then some 0 else (findF y zs).map (· + 1)
def mIdxL : W → List W → Option W
  | w, [y] => match els w with
    | some ws => if flat y = true ∧ ws.all flat = true then match findF y ws with
        | some j => some (.int (j : Nat))
        | none => none
      else none
    | none => none
  | _, _ => none
def mIdxT : W → List W → Option W
  | w, [y] => match nels w with
    | some ws => if flat y = true ∧ ws.all flat = true then match findF y ws with
        | some j => some (.int (j : Nat))
        | none => none
      else none
    | none => none
  | _, _ => none
theorem findF_ok {y : W} : ∀ {ws : List W} {j : Nat}, findF y ws = some j → (∃ z, ws[j]? = some z ∧ eqF z y = true) ∧ ∀ m z, m < j → ws[m]? = some z → eqF z y = false
  | [], j, h => by cases h
  | z :: zs, j, h => by
    unfold findF at h
    split at h
    · rename_i hz
      cases h
      exact ⟨⟨z, rfl, hz⟩, fun m z hm => absurd hm (Nat.not_lt_zero _)⟩
    · rename_i hz
      cases e : findF y zs with
      | none => rw [e] at h; cases h
      | some k =>
        rw [e] at h
        cases h
        obtain ⟨⟨u, h1, h2⟩, h3⟩ := findF_ok e
        refine ⟨⟨u, by simpa using h1, h2⟩, fun m x hm hx => ?_⟩
        cases m with
        | zero => simp at hx; subst hx; simpa using hz
        | succ m => exact h3 m x (Nat.lt_of_succ_lt_succ hm) (by simpa using hx)
theorem findF_V {y : W} {ws : List W} {j : Nat} (fy : flat y = true) (f : ws.all flat = true) (h : findF y ws = some j) :
    ∃ z, (ws.map toV)[j]? = some z ∧ eqV z (toV y) = true ∧ ∀ m z', m < j → (ws.map toV)[m]? = some z' → eqV z' (toV y) = false := by
  obtain ⟨⟨z, h1, h2⟩, h3⟩ := findF_ok h
  have fl : ∀ {m : Nat} {x : W}, ws[m]? = some x → flat x = true := fun hx => List.all_eq_true.mp f _ (List.mem_of_getElem? hx)
  refine ⟨toV z, by rw [List.getElem?_map, h1]; rfl, by rw [eqF_V (fl h1) fy]; exact h2, fun m z' hm hz => ?_⟩
  rw [List.getElem?_map] at hz
  cases e : ws[m]? with
  | none => rw [e] at hz; cases hz
  | some x =>
    rw [e] at hz
    cases hz
    rw [eqF_V (fl e) fy]
    exact h3 m x hm e
section
variable {X : Cx}
theorem strs_ok {K : PySem.W.Frag} {Hv H : Hp} {vs : List V} {ws : List W} {F : List Addr} (h : RpA K Hv H vs ws F) {bs : List Str} (e : strsOf ws = some bs) : vs = bs.map V.str := by
  induction ws generalizing vs F bs with
  | nil => cases h; cases e; rfl
  | cons x xs ih =>
    cases h with
    | cons a b =>
      cases x with
      | str i =>
        simp only [strsOf] at e
        cases e2 : strsOf xs with
        | none => rw [e2] at e; cases e
        | some ms =>
          rw [e2] at e
          cases e
          cases a
          rw [ih b e2]
          rfl
      | _ => simp [strsOf] at e
theorem mZ_join : MtR X "str.join" (rM X mJoin) := by
  intro pins s σ H x xs v us Q I rx rs h
  obtain ⟨S, wx, ws, w, Fx, F, m, hx, ra, e, an⟩ := h
  unfold mJoin at e
  split at e
  · rename_i a w1
    split at e
    · rename_i ys ey
      split at e
      · rename_i hl
        cases e
        cases hx
        obtain ⟨v1, rfl, hv⟩ := ra1 ra
        cases es : seqs w1 with
        | none => rw [es] at ey; cases ey
        | some zs =>
          rw [es] at ey
          obtain ⟨p, vs, rfl, hp, rb⟩ := seqs_ok hv hid_ex es
          have := strs_ok rb ey
          subst this
          exact mt_join pins s σ H _ _ v us Q I rx rs ⟨_, p, ys, rfl, rfl, hp, hl, an.str m⟩
      · cases e
    · cases e
  · cases e
theorem mZ_split : MtR X "str.split" (rM X mSplit) := by
  intro pins s σ H x xs v us Q I rx rs h
  obtain ⟨S, wx, ws, w, Fx, F, m, hx, ra, e, an⟩ := h
  unfold mSplit at e
  split at e
  · split at e
    · rename_i hl
      cases e
      cases hx
      obtain ⟨v1, rfl, hv⟩ := ra1 ra
      cases hv
      exact mt_split pins s σ H _ _ v us Q I rx rs ⟨_, _, rfl, rfl, hl.1, hl.2, fun p hp => an.newl m (ra_strs _) hp⟩
    · cases e
  · cases e
theorem mZ_part : MtR X "str.partition" (rM X mPart) := by
  intro pins s σ H x xs v us Q I rx rs h
  obtain ⟨S, wx, ws, w, Fx, F, m, hx, ra, e, an⟩ := h
  unfold mPart at e
  split at e
  · split at e
    · rename_i hl
      cases e
      cases hx
      obtain ⟨v1, rfl, hv⟩ := ra1 ra
      cases hv
      exact mt_partition pins s σ H _ _ v us Q I rx rs ⟨_, _, rfl, rfl, hl.1, hl.2, fun p hp => an.newp m (ra_strs [_, _, _]) hp⟩
    · cases e
  · cases e
theorem mZ_starts : MtR X "str.startswith" (rM X mStarts) := by
  intro pins s σ H x xs v us Q I rx rs h
  obtain ⟨S, wx, ws, w, Fx, F, m, hx, ra, e, an⟩ := h
  unfold mStarts at e
  split at e
  · cases e
    cases hx
    obtain ⟨v1, rfl, hv⟩ := ra1 ra
    cases hv
    exact mt_startswith pins s σ H _ _ v us Q I rx rs ⟨_, _, rfl, rfl, an.bl m⟩
  · cases e
theorem mZ_upper : MtR X "str.upper" (rM X mUpper) := by
  intro pins s σ H x xs v us Q I rx rs h
  obtain ⟨S, wx, ws, w, Fx, F, m, hx, ra, e, an⟩ := h
  unfold mUpper at e
  split at e
  · split at e
    · rename_i hl
      cases e
      cases hx
      cases ra
      exact mt_upper pins s σ H _ _ v us Q I rx rs ⟨_, rfl, rfl, hl, an.str m⟩
    · cases e
  · cases e
theorem mZ_alpha : MtR X "str.isalpha" (rM X mAlpha) := by
  intro pins s σ H x xs v us Q I rx rs h
  obtain ⟨S, wx, ws, w, Fx, F, m, hx, ra, e, an⟩ := h
  unfold mAlpha at e
  split at e
  · cases e
    cases hx
    cases ra
    exact mt_isalpha pins s σ H _ _ v us Q I rx rs ⟨_, rfl, rfl, True.intro, an.bl m⟩
  · cases e
theorem mZ_idxS : MtR X "str.index" (rM X mIdxS) := by
  intro pins s σ H x xs v us Q I rx rs h
  obtain ⟨S, wx, ws, w, Fx, F, m, hx, ra, e, an⟩ := h
  unfold mIdxS at e
  split at e
  · split at e
    · rename_i i rest ho
      cases e
      cases hx
      obtain ⟨v1, rfl, hv⟩ := ra1 ra
      cases hv
      exact mt_sindex pins s σ H _ _ v us Q I rx rs ⟨_, _, i, rest, rfl, rfl, ho, an.int m⟩
    · cases e
  · cases e
theorem mZ_idxL : MtR X "list.index" (rM X mIdxL) := by
  intro pins s σ H x xs v us Q I rx rs h
  obtain ⟨S, wx, ws, w, Fx, F, m, hx, ra, e, an⟩ := h
  unfold mIdxL at e
  split at e
  · split at e
    · rename_i zs ez
      split at e
      · rename_i hf
        split at e
        · rename_i j ej
          cases e
          obtain ⟨v1, rfl, hv⟩ := ra1 ra
          obtain ⟨a, vs, rfl, ha, rb⟩ := els_ok hx hid_ex ez
          have e1 := hv.flat hf.1
          have e2 := rb.flat hf.2
          subst e1 e2
          obtain ⟨z, q1, q2, q3⟩ := findF_V hf.1 hf.2 ej
          exact mt_index pins s σ H _ _ v us Q I rx rs ⟨a, _, _, j, z, rfl, rfl, ha, flat_V hf.1, flats_V hf.2, q1, q2, q3, an.int m⟩
        · cases e
      · cases e
    · cases e
  · cases e
theorem mt_tindex : MtR X "tuple.index" (fun x xs H Q => ∃ p, ∃ ys : List V, ∃ y j z, x = .ref p ∧ xs = [y] ∧ SqT X.K H p ys ∧ flatV y = true ∧ ys.all flatV = true ∧ ys[j]? = some z ∧ eqV z y = true ∧ (∀ (m : Nat) (z' : V), m < j → ys[m]? = some z' → eqV z' y = false) ∧ Q (.int (j : Nat)) H) := by
  intro pins s σ H x xs v us Q I rx rxs h
  obtain ⟨p, ys, y, j, z, rfl, rfl, hs, fy, fys, hz, hzj, hno, q⟩ := h
  cases rx
  cases rxs with
  | cons ry rt =>
    rename_i uy ut
    cases rt
    obtain ⟨its, rv, ⟨⟨cls, dd, data, sl⟩, ho, hc, n, hd⟩, hlen⟩ := I.tuple hs
    simp only at hc hd
    subst hc hd
    obtain ⟨u, hu, ru⟩ := rv.get hz
    obtain ⟨hjl, hje⟩ := List.getElem?_eq_some_iff.mp hu
    have hvl := rv.length
    have hj : j < its.toArray.size := by simpa using hjl
    refine call_meets PySem.F.slot_tuple_index ⟨_, ho, rfl⟩ PySem.F.entry_tuple_index (PySem.F.args_tuple_index_2 _ _)
      (TI.tuple_indexAt p its.toArray n dd sl uy (eqU y) j hj ?_ ?_) ⟨ho, fun u' hu' => mem_eqAt ry fy rv fys u' (by simpa using hu'), ?_⟩
    · have e1 : its.toArray[j] = u := by simpa using hje
      rw [e1, eqU_of ru (flat_at fys hz)]
      exact hzj
    · intro m hm hmj
      have hml : m < its.length := by simpa using hm
      have hmy : m < ys.length := by omega
      have hy' : ys[m]? = some ys[m] := List.getElem?_eq_getElem hmy
      obtain ⟨u2, hu2, ru2⟩ := rv.get hy'
      obtain ⟨_, hme⟩ := List.getElem?_eq_some_iff.mp hu2
      have e1 : its.toArray[m] = u2 := by simpa using hme
      rw [e1, eqU_of ru2 (flat_at fys hy')]
      exact hno m _ hmj hy'
    · exact ⟨.int (j : Nat), H, I.tok _, ⟨_, rfl⟩, q⟩
theorem mZ_idxT : MtR X "tuple.index" (rM X mIdxT) := by
  intro pins s σ H x xs v us Q I rx rs h
  obtain ⟨S, wx, ws, w, Fx, F, m, hx, ra, e, an⟩ := h
  unfold mIdxT at e
  split at e
  · split at e
    · rename_i zs ez
      split at e
      · rename_i hf
        split at e
        · rename_i j ej
          cases e
          obtain ⟨v1, rfl, hv⟩ := ra1 ra
          obtain ⟨a, vs, rfl, ha, rb⟩ := nels_ok hx ez
          have e1 := hv.flat hf.1
          have e2 := rb.flat hf.2
          subst e1 e2
          obtain ⟨z, q1, q2, q3⟩ := findF_V hf.1 hf.2 ej
          exact mt_tindex pins s σ H _ _ v us Q I rx rs ⟨a, _, _, j, z, rfl, rfl, ex_t hid_ex ha.sq, flat_V hf.1, flats_V hf.2, q1, q2, q3, an.int m⟩
        · cases e
      · cases e
    · cases e
  · cases e
end
/-- the methods of texts, by name: the built-in, how many arguments -/
structure MRow where
  T : String
  id : String
  g : W → List W → Option W
def mFn (m : Str) : Option MRow :=
  if m = "join" then some ⟨"str", "str.join", mJoin⟩
  else if m = "split" then some ⟨"str", "str.split", mSplit⟩
  else if m = "partition" then some ⟨"str", "str.partition", mPart⟩
  else if m = "startswith" then some ⟨"str", "str.startswith", mStarts⟩
  else if m = "upper" then some ⟨"str", "str.upper", mUpper⟩
  else if m = "isalpha" then some ⟨"str", "str.isalpha", mAlpha⟩
  else none
theorem mFn_ok {X : Cx} {m : Str} {r : MRow} (h : mFn m = some r) : MtR X r.id (rM X r.g) ∧ PlainAttrs r.T ∧ Slot r.T m r.id ∧ typeOf (.builtin r.id) = pure (.type "method_descriptor") := by
  unfold mFn at h
  by_cases e1 : m = "join"
  · rw [if_pos e1] at h; cases h; subst e1; exact ⟨mZ_join, PySem.F.plainAttrs_str, PySem.F.slot_str_join, PySem.F.type_str_join⟩
  rw [if_neg e1] at h
  by_cases e2 : m = "split"
  · rw [if_pos e2] at h; cases h; subst e2; exact ⟨mZ_split, PySem.F.plainAttrs_str, PySem.F.slot_str_split, PySem.F.type_str_split⟩
  rw [if_neg e2] at h
  by_cases e3 : m = "partition"
  · rw [if_pos e3] at h; cases h; subst e3; exact ⟨mZ_part, PySem.F.plainAttrs_str, PySem.F.slot_str_partition, PySem.F.type_str_partition⟩
  rw [if_neg e3] at h
  by_cases e4 : m = "startswith"
  · rw [if_pos e4] at h; cases h; subst e4; exact ⟨mZ_starts, PySem.F.plainAttrs_str, PySem.F.slot_str_startswith, PySem.F.type_str_startswith⟩
  rw [if_neg e4] at h
  by_cases e5 : m = "upper"
  · rw [if_pos e5] at h; cases h; subst e5; exact ⟨mZ_upper, PySem.F.plainAttrs_str, PySem.F.slot_str_upper, PySem.F.type_str_upper⟩
  rw [if_neg e5] at h
  by_cases e6 : m = "isalpha"
  · rw [if_pos e6] at h; cases h; subst e6; exact ⟨mZ_alpha, PySem.F.plainAttrs_str, PySem.F.slot_str_isalpha, PySem.F.type_str_isalpha⟩
  rw [if_neg e6] at h
  cases h
end Z

set_option Elab.async false
set_option linter.all false
set_option maxRecDepth 100000
set_option maxHeartbeats 4000000
set_option autoImplicit false
/-! expressions read from the text -/
namespace Z
open PySem PySem.Spec PyProof.Rows L2

/-- a fresh value is shown to all -/
def sFzE (f : Sem) : Sem := fun ρ => match f ρ with
  | some (.ok w) => some (.ok (fz w))
  | r => r
def sDn : Sem := fun _ => some (.ok (.odic [] []))
section
variable {X : Cx} {W0 : WX} {bo : Bool} {fa fb fc : Sem} {ms ms2 : List Nat} {σ : L2.St} {H : Hp} {Q : VK}
theorem fzE_ok (h : tE X W0 bo (sFzE fa) ms σ H Q) : tE X W0 false fa [] σ H Q := by
  obtain ⟨S, ρ, fs, r, I, e, p⟩ := h
  unfold sFzE at e
  split at e
  · rename_i w ew
    cases e
    exact ⟨S, ρ, fs, _, I, ew, fun v H1 S1 F g1 r1 k1 f1 => p v H1 _ [] (show_own (K := X.K) I.mk' g1 (fp0 (f1 rfl))) (Rp.out r1) (fun _ z => nomatch z) fun _ => .nil⟩
  · rename_i n1
    refine ⟨S, ρ, fs, r, I, e, ?_⟩
    cases r with
    | ok w => exact absurd e (n1 w)
    | er c => exact p
theorem dn_ok (h : tE X W0 bo sDn ms σ H Q) : tDNewK σ H Q := by
  obtain ⟨S, ρ, fs, r, I, e, p⟩ := h
  cases e
  intro b hb
  refine p (.ref b) _ (b :: S) [b] (Grow.newown I.mk' hb True.intro) (.odic (kvs := []) upd_same .nil) (fun a ha => by rcases List.mem_singleton.mp ha with rfl; exact List.mem_cons_self) fun _ => ⟨fun a ha => .inl (by rcases List.mem_singleton.mp ha with rfl; exact hb), fun _ => by simp⟩
end
/-- truth of a value -/
def truW : W → Option Bool
  | .non => some false
  | .bl b => some b
  | .int i => some (i != 0)
  | .str z => if z.length ≤ sizeLine then some ((z.length : Int) != 0) else none
  | .lst xs => some (!xs.isEmpty)
  | .klst xs => some (!xs.isEmpty)
  | .olst xs => some (!xs.isEmpty)
  | .tup xs => some (!xs.isEmpty)
  | .pt xs => some (!xs.isEmpty)
  | .otup xs => some (!xs.isEmpty)
  | .dic _ xs => some (!xs.isEmpty)
  | .odic _ xs => some (!xs.isEmpty)
  | .ty _ => none
def sTr (f : Sem) : Sem := fun ρ => match f ρ with
  | some (.ok w) => match truW w with
    | some b => some (.ok (.bl b))
    | none => none
  | r => r
section
variable {X : Cx} {W0 : WX} {bo : Bool} {fa fb fc : Sem} {ms ms2 : List Nat} {σ : L2.St} {H : Hp} {Q : VK}
theorem emp_len {α β : Type} {a : List α} {b : List β} (h : a.length = b.length) : (!a.isEmpty) = !b.isEmpty := by
  cases a <;> cases b <;> first | rfl | (simp at h)
theorem truW_ok {K : PySem.W.Frag} {S : List Addr} {H : Hp} {x : V} {w : W} {F : List Addr} {b : Bool} (h : Rp K (hid S H) H x w F) (e : truW w = some b) : TruV K x H b := by
  cases h with
  | non => cases e; rfl
  | bl c => cases e; rfl
  | int i => cases e; rfl
  | str z =>
    simp only [truW] at e
    split at e
    · rename_i hl; cases e; exact ⟨hl, rfl⟩
    · cases e
  | ty n => cases e
  | lst a r => cases e; exact .inl ⟨_, .inl (ex_rd hid_ex a), (emp_len r.len).symm⟩
  | klst a r => cases e; exact .inl ⟨_, ex_l hid_ex a, (emp_len r.len).symm⟩
  | tup a r => cases e; exact .inr (.inl ⟨_, ex_t hid_ex a.sq, (emp_len r.len).symm⟩)
  | pt a r => cases e; exact .inr (.inl ⟨_, ex_t hid_ex a, (emp_len r.len).symm⟩)
  | dic a r => cases e; exact .inr (.inr ⟨_, hid_ex _ _ a, (emp_len (by have := r.len; simpa using this)).symm⟩)
  | olst a r => cases e; exact .inl ⟨_, SqL.of a, (emp_len r.len).symm⟩
  | otup a r => cases e; exact .inr (.inl ⟨_, ex_t hid_ex a.sq, (emp_len r.len).symm⟩)
  | odic a r => cases e; exact .inr (.inr ⟨_, a, (emp_len (by have := r.len; simpa using this)).symm⟩)
theorem tr_ok {QT : Bool → Hp → Prop} (h : tT X W0 (sTr fa) σ H QT) : tE X W0 true fa [] σ H fun x H' => ∃ k, TruV X.K x H' k ∧ QT k H' := by
  obtain ⟨S, ρ, fs, r, I, e, p⟩ := h
  unfold sTr at e
  split at e
  · rename_i w ew
    split at e
    · rename_i b eb
      cases e
      exact ⟨S, ρ, fs, _, I, ew, fun v H1 S1 F1 g1 r1 k1 _ => ⟨b, truW_ok r1 eb, p H1 S1 g1⟩⟩
    · cases e
  · rename_i n1
    refine ⟨S, ρ, fs, r, I, e, ?_⟩
    cases r with
    | ok w => exact absurd e (n1 w)
    | er c => exact p
theorem ntr_ok (h : tE X W0 bo (sNot (sTr fa)) ms σ H Q) : tE X W0 true fa [] σ H fun x H' => ∃ k, TruV X.K x H' k ∧ Q (.bl (!k)) H' := by
  refine tr_ok ?_
  obtain ⟨S, ρ, fs, r, I, e, p⟩ := h
  unfold sNot at e
  split at e
  · rename_i b ea
    cases e
    exact ⟨S, ρ, fs, _, I, ea, fun H1 S1 g1 => p _ H1 S1 [] g1 (.bl _) (fun _ z => nomatch z) fun _ => .nil⟩
  · rename_i ea
    cases e
    exact ⟨S, ρ, fs, _, I, ea, p⟩
  · cases e
theorem pe_notT {a : Expr} {ta : TE} {pos : Pos} (ha : PE X a ta) : PE X (.UnaryOp .Not a pos) (fun σ H Q => ta σ H fun x H1 => ∃ k, TruV X.K x H1 k ∧ Q (.bl (!k)) H1) := by
  refine ⟨fun pins s σ H Q I h => ?_⟩
  refine UnaryOp_ (thn (ha.run pins s σ H _ I h) fun v s1 ⟨x, H1, I1, r1, q1⟩ => ?_)
  exact not_of (thn (tru_ok pins s1 σ H1 x v (fun k H => Q (.bl (!k)) H) I1 r1 q1) fun b s2 ⟨H2, I2, q2⟩ => ⟨.bl (!b), H2, I2, rfl, q2⟩)
end
/-! ### list(range(..)) -/
def gLR : List W → Option W
  | [.int n] => if -(2 ^ 62) ≤ n ∧ n < 2 ^ 62 ∧ n.toNat ≤ 2 ^ 24 then some (.olst (rangeW 0 n.toNat)) else none
  | [.int a, .int b] => if (-(2 ^ 62) ≤ a ∧ a < 2 ^ 62) ∧ (-(2 ^ 62) ≤ b ∧ b < 2 ^ 62) ∧ (b - a).toNat ≤ 2 ^ 24 then some (.olst (rangeW a (b - a).toNat)) else none
  | _ => none
section
variable {X : Cx} {W0 : WX} {bo : Bool} {fa fb fc : Sem} {ms ms2 : List Nat} {σ : L2.St} {H : Hp} {Q : VK}
theorem tE_mono {Q' : VK} (k : ∀ v H, Q v H → Q' v H) (h : tE X W0 bo fa ms σ H Q) : tE X W0 bo fa ms σ H Q' := by
  obtain ⟨S, ρ, fs, r, I, e, p⟩ := h
  refine ⟨S, ρ, fs, r, I, e, ?_⟩
  cases r with
  | er c => exact p
  | ok w => exact fun v H' S' F g r1 k1 f1 => k _ _ (p v H' S' F g r1 k1 f1)
theorem rg_ra {K : PySem.W.Frag} {Hv H : Hp} (a : Int) : ∀ l : List Nat, RpA K Hv H (l.map fun i => V.int (a + (i : Nat))) (l.map fun (k : Nat) => W.int (a + (k : Int))) []
  | [] => .nil
  | n :: ns => RpA.cons (F := []) (G := []) (.int _) (rg_ra a ns)
theorem lr1_ok (h : tE X W0 bo (sBi gLR [fb]) ms σ H Q) : tLstRg (tRg1 (tE X W0 true fb [])) σ H Q := by
  refine tE_mono (fun v H1 q => ?_) (allc_ok (m1 := []) (m2 := []) (bi_ok h))
  obtain ⟨S, ws, w, F, m, ra, e, an⟩ := alln_ok q
  cases ra with
  | cons a b =>
    rename_i w0 ws0 F0 G0
    unfold gLR at e
    split at e
    · rename_i n hn
      cases hn
      split at e
      · rename_i hb
        cases e
        cases a
        have q : ∀ {p : Addr}, H1 p = none → Q (.ref p) (upd H1 p (.lst (rgV 0 n))) := fun hp => an.newl (vs := rgV 0 n) m (by unfold rgV rangeW; rw [Int.sub_zero]; exact rg_ra 0 _) hp
        exact ⟨n, rfl, ⟨by decide, by decide, hb.1, hb.2.1, by rw [Int.sub_zero]; exact hb.2.2⟩, fun p hp => q hp⟩
      · cases e
    · rename_i hn
      cases hn
      cases b
    · cases e
theorem lr2_ok (h : tE X W0 bo (sBi gLR [fa, fb]) ms σ H Q) : tLstRg (tRg2 (tE X W0 true fa []) (tE X W0 true fb [])) σ H Q := by
  refine tE_mono (fun v H1 q => ?_) (allc_ok (m1 := []) (m2 := []) (bi_ok h))
  refine tE_mono (fun u H2 q => ?_) (allc_ok (m1 := []) (m2 := []) q)
  obtain ⟨S, ws, w, F, m, ra, e, an⟩ := alln_ok q
  cases ra with
  | cons a b =>
    cases b with
    | cons b c =>
      cases c
      unfold gLR at e
      split at e
      · rename_i hn; cases hn
      · rename_i i j hn
        cases hn
        split at e
        · rename_i hb
          cases e
          cases a
          cases b
          have q : ∀ {p : Addr}, H2 p = none → Q (.ref p) (upd H2 p (.lst (rgV i j))) := fun hp => an.newl (vs := rgV i j) m (by unfold rgV rangeW; exact rg_ra i _) hp
          exact ⟨i, j, rfl, rfl, ⟨hb.1.1, hb.1.2, hb.2.1.1, hb.2.1.2, hb.2.2⟩, fun p hp => q hp⟩
        · cases e
      · cases e
end
def isBO : Expr → Bool
  | .BoolOp _ _ _ => true
  | .UnaryOp .Not _ _ => true
  | .Compare _ _ _ _ => true
  | _ => false
def isLit : Expr → Bool
  | .List _ _ => true
  | .Tuple _ _ _ => true
  | .Call _ _ _ _ => true
  | .BinOp _ _ _ _ => true
  | _ => false

structure Ctx where
  N : List Str
  sc : Scope
  fnk : Str → Bool
  fns : Str → Option (Nat × Fn)
  gc : Str → Option W
  bl : Str → Bool
  own : List Nat
  mv : Nat → Nat → Bool
structure CE where
  f : Sem
  b : Sem
  ms : List Nat
def ixOf (N : List Str) (x : Str) : Option Nat := match N.findIdx? (fun y => y == x) with
  | some i => if N[i]? = some x then some i else none
  | none => none
theorem ixOf_ok {N : List Str} {x : Str} {i : Nat} (h : ixOf N x = some i) : N[i]? = some x := by
  unfold ixOf at h
  split at h
  · split at h
    · rename_i e; cases h; exact e
    · cases h
  · cases h
def Ctx.slot (c : Ctx) (x : Str) : Option Nat :=
  if (x == ("__debug__" : Str)) = false ∧ (x == ("__classdict__" : Str)) = false then match c.sc.names.lookup x with
    | some .local => ixOf c.N x
    | some .cell => ixOf c.N x
    | some .free => ixOf c.N x
    | _ => none
  else none
def Ctx.glob (c : Ctx) (x : Str) : Bool := decide (c.sc.names.lookup x = some .globalImplicit) && !(x == ("__debug__" : Str))
def cW : Const → Option W
  | .none => some .non
  | .bool b => some (.bl b)
  | .int i => some (.int i)
  | .str s => some (.str s)
  | _ => none
def isIfE : Expr → Bool
  | .IfExp _ _ _ _ => true
  | _ => false
def plainBase : Expr → Bool
  | .Call (.Name _ _) [] [] _ => false
  | _ => true
def isSlice : Expr → Bool
  | .Slice _ _ _ _ => true
  | _ => false
def isSet : Expr → Bool
  | .Set _ _ _ => true
  | _ => false
def isTupE : Expr → Bool
  | .Tuple _ _ _ => true
  | _ => false
def cEs (f : Expr → Option CE) : List Expr → Option (List CE)
  | [] => some []
  | e :: es => match f e with
    | some a => match cEs f es with
      | some as => some (a :: as)
      | none => none
    | none => none
def Ctx.loc (c : Ctx) (x : Str) : Option Nat := match c.sc.names.lookup x with
  | some .local => ixOf c.N x
  | some .cell => if c.fnk x = true then ixOf c.N x else none
  | _ => none
def cT : Nat → Ctx → Expr → Option (Tg × List Nat)
  | 0, _, _ => none
  | n + 1, c, e => match e with
    | .Name x _ => match c.loc x with
      | some i => some (gT i, [i])
      | none => none
    | .Tuple es _ _ => if noStar es = true then match cTs n c es with
        | some (ts, js) => some (gU ts, js)
        | none => none
      else none
    | _ => none
where cTs : Nat → Ctx → List Expr → Option (List Tg × List Nat)
  | 0, _, _ => none
  | n + 1, c, es => match es with
    | [] => some ([], [])
    | e :: es => match cT n c e with
      | some (t, js) => match cTs n c es with
        | some (ts, ks) => some (t :: ts, js ++ ks)
        | none => none
      | none => none

def ownOf (N : List Str) (scope : Scope) : List (Str × Nat) := scope.names.filterMap fun y => match y.2 with
  | .local => (ixOf N y.1).map fun i => (y.1, i)
  | .cell => (ixOf N y.1).map fun i => (y.1, i)
  | _ => none
def Ctx.blk (c : Ctx) (scope : Scope) : Ctx := { c with sc := relS scope c.sc, fnk := fun x => scope.names.lookup x == some .cell, mv := fun _ _ => false }
def sems (as : List CE) : List Sem := as.map fun a => a.b
/-- list(range(..)) -/
def cLR (f : Expr → Option CE) (c : Ctx) (x : Str) (a : Expr) (as : List Expr) : Option CE := if x = "list" ∧ as = [] ∧ c.bl x = true then match a with
    | .Call (.Name y _) [b] [] _ => if y = "range" ∧ c.glob y = true ∧ c.bl y = true ∧ isStar b = false then match f b with
        | some cb => some ⟨sBi gLR [cb.b], sBi gLR [cb.b], []⟩
        | none => none
      else none
    | .Call (.Name y _) [b, d] [] _ => if y = "range" ∧ c.glob y = true ∧ c.bl y = true ∧ isStar b = false ∧ isStar d = false then match f b, f d with
        | some cb, some cd => some ⟨sBi gLR [cb.b, cd.b], sBi gLR [cb.b, cd.b], []⟩
        | _, _ => none
      else none
    | _ => none
  else none
structure CI where
  fB : Rho → Option RL
  fF : Rho → Option RL
def cBin (op : Operator) (a b : Option CE) : Option CE := match gBin op, a, b with
  | some g, some a, some b => some ⟨s2 a.b b.b g, s2 a.b b.b g, []⟩
  | _, _, _ => none
def gNeg : W → Option W
  | .int i => some (.int (-i))
  | _ => none
def cBool (op : BoolOp) (a b : Option CE) : Option CE := match op, a, b with
  | .And, some a, some b => some ⟨sAnd a.b b.f, sAnd a.b b.b, b.ms⟩
  | .Or, some a, some b => some ⟨sOr a.b b.f, sOr a.b b.b, b.ms⟩
  | _, _, _ => none
def cE : Nat → Ctx → Expr → Option CE
  | 0, _, _ => none
  | n + 1, c, e => match e with
    | .Constant k _ _ => match cW k with
      | some w => some ⟨sC w, sC w, []⟩
      | none => none
    | .Name x pos => match c.slot x with
      | some i => if c.mv pos.line pos.col = true then some ⟨sVarB i, sVarB i, [i]⟩ else some ⟨sVar i, sVarB i, []⟩
      | none => if c.glob x = true then match c.gc x with
          | some w => some ⟨sC w, sC w, []⟩
          | none => if c.bl x = true then match tyFn x with
              | some t => some ⟨sC (.ty t), sC (.ty t), []⟩
              | none => none
            else none
        else none
    | .BinOp a op b _ => cBin op (cE n c a) (cE n c b)
    | .UnaryOp .USub a _ => match cE n c a with
      | some a => some ⟨s1 a.b gNeg, s1 a.b gNeg, []⟩
      | none => none
    | .UnaryOp .Not a _ => if isIfE a = false then match cE n c a with
        | some ca => if isBO a = true then some ⟨sNot ca.b, sNot ca.b, []⟩ else some ⟨sNot (sTr ca.b), sNot (sTr ca.b), []⟩
        | none => none
      else none
    | .BoolOp op [a] _ => if isIfE a = false then cE n c a else none
    | .BoolOp op (a :: b :: rest) pos => if isIfE a = false then cBool op (cE n c a) (cE n c (.BoolOp op (b :: rest) pos)) else none
    | .Compare l [op] [r] _ => if behindInMarks op r = false then match cE n c l, cE n c r with
        | some l, some r => some ⟨s2 l.b r.b (gCmp op), s2 l.b r.b (gCmp op), []⟩
        | _, _ => none
      else none
    | .Compare l [op, op'] [m, r] _ => if lastMarks [op, op'] [m, r] = false then match cE n c l, cE n c m, cE n c r with
        | some l, some m, some r => some ⟨sChain l.b m.b r.b (gCmp op) (gCmp op'), sChain l.b m.b r.b (gCmp op) (gCmp op'), []⟩
        | _, _, _ => none
      else none
    | .IfExp t a b _ => if isIfE t = false then match cE n c t, cE n c a, cE n c b with
        | some t, some a, some b => if a.ms = [] ∧ b.ms = [] then some ⟨sIf t.b a.f b.f, sIf t.b a.b b.b, []⟩ else none
        | _, _, _ => none
      else none
    | .Tuple es _ _ => if noStar es = true then match cEs (cE n c) es with
        | some as => some ⟨sTup (as.map fun a => a.f), sTup (as.map fun a => a.f), (as.map fun a => a.ms).flatten⟩
        | none => none
      else none
    | .List es _ => if noStar es = true then match cEs (cE n c) es with
        | some as => some ⟨sLst (as.map fun a => a.f), sLst (as.map fun a => a.f), (as.map fun a => a.ms).flatten⟩
        | none => none
      else none
    | .Subscript a (.Slice lo hi none _) _ => match cE n c a, cO (cE n c) lo, cO (cE n c) hi with
      | some a, some l, some h => some ⟨sSl a.b l h, sSl a.b l h, []⟩
      | _, _, _ => none
    | .Subscript a i _ => if isSlice i = false then match cE n c a, cE n c i with
        | some ca, some i => if isLit a = true ∧ ca.ms = [] then some ⟨shOnly (s2 (sFzE ca.f) i.b gIdx), s2 ca.b i.b gIdx, []⟩ else some ⟨shOnly (s2 ca.b i.b gIdx), s2 ca.b i.b gIdx, []⟩
        | _, _ => none
      else none
    | .Dict [] [] _ => some ⟨sDn, sDn, []⟩
    | .Call (.Name x _) (a :: as) [] _ => if noStar (a :: as) = true ∧ c.glob x = true then match cLR (cE n c) c x a as with
      | some r => some r
      | none => match cEs (cE n c) (a :: as) with
        | some ces => match c.fns x with
          | some (k, φ) => if k = (a :: as).length then some ⟨sCall φ (sems ces), sCall φ (sems ces), []⟩ else none
          | none => if c.bl x = true then match bFn x with
              | some (_, g) => some ⟨sBi g (sems ces), sBi g (sems ces), []⟩
              | none => none
            else none
        | none => none
      else none
    | .Call (.Attribute o m apos) as [] cpos => if noStar as = true ∧ as.length < 30 ∧ plainBase o = true ∧ (apos.endLine == cpos.line) = true then match cE n c o, cEs (cE n c) as with
        | some co, some ces => if m = "index" then (if as ≠ [] then some ⟨sM3 mIdxS mIdxL mIdxT co.b (sems ces), sM3 mIdxS mIdxL mIdxT co.b (sems ces), []⟩ else none) else match mFn m with
          | some r => some ⟨sM r.T r.g co.b (sems ces), sM r.T r.g co.b (sems ces), []⟩
          | none => none
        | _, _ => none
      else none
    | .ListComp elt [⟨tg, iter, ifs, 0⟩] scope _ => if blkC c.N c.sc scope (ownOf c.N scope) = true ∧ isSet iter = false then match cI n c tg iter, cT 8 (c.blk scope) tg, cE n (c.blk scope) elt with
        | some ci, some (g, js), some ce => if (js.all fun j => ((ownOf c.N scope).map (·.2)).contains j) = true ∧ ce.ms = [] then match ifs with
            | [] => some ⟨sLc ((ownOf c.N scope).map (·.2)) ci.fB g none ce.f, sLc ((ownOf c.N scope).map (·.2)) ci.fB g none ce.f, []⟩
            | [t] => if isIfE t = false then match cE n (c.blk scope) t with
                | some ct => if isBO t = true then some ⟨sLc ((ownOf c.N scope).map (·.2)) ci.fB g (some ct.b) ce.f, sLc ((ownOf c.N scope).map (·.2)) ci.fB g (some ct.b) ce.f, []⟩ else some ⟨sLc ((ownOf c.N scope).map (·.2)) ci.fB g (some (sTr ct.b)) ce.f, sLc ((ownOf c.N scope).map (·.2)) ci.fB g (some (sTr ct.b)) ce.f, []⟩
                | none => none
              else none
            | _ => none
          else none
        | _, _, _ => none
      else none
    | _ => none
where
  cO (f : Expr → Option CE) : Option Expr → Option (Option Sem)
    | none => some none
    | some e => match f e with
      | some a => some (some a.b)
      | none => none
  cI : Nat → Ctx → Expr → Expr → Option CI
    | 0, _, _, _ => none
    | n + 1, c, tg, e => match e with
      | .Call (.Name x _) [a] [] _ =>
        if x = "range" ∧ c.glob x = true ∧ c.bl x = true then (if isStar a = false then match cE n c a with
          | some a => some ⟨sItemsA rngW [a.b], sItemsA rngW [a.b]⟩
          | none => none else none)
        else if x = "enumerate" ∧ c.glob x = true ∧ c.bl x = true then (if isStar a = false ∧ isTupE tg = true then match cE n c a with
          | some a => if a.ms = [] then some ⟨sItemsA enW [a.b], sItemsA enW [a.f]⟩ else none
          | none => none else none)
        else match cE n c e with
          | some a => if a.ms = [] then some ⟨sItems a.b, sItems a.f⟩ else none
          | none => none
      | .Call (.Name x _) [a, b] [] _ =>
        if x = "range" ∧ c.glob x = true ∧ c.bl x = true then (if isStar a = false ∧ isStar b = false then match cE n c a, cE n c b with
          | some a, some b => some ⟨sItemsA rngW [a.b, b.b], sItemsA rngW [a.b, b.b]⟩
          | _, _ => none else none)
        else if x = "zip" ∧ c.glob x = true ∧ c.bl x = true then (if isStar a = false ∧ isStar b = false ∧ isTupE tg = true then match cE n c a, cE n c b with
          | some a, some b => if a.ms = [] ∧ b.ms = [] then some ⟨sItemsA zpW [a.b, b.b], sItemsA zpW [a.f, b.f]⟩ else none
          | _, _ => none else none)
        else match cE n c e with
          | some a => if a.ms = [] then some ⟨sItems a.b, sItems a.f⟩ else none
          | none => none
      | e => match cE n c e with
        | some a => if a.ms = [] then some ⟨sItems a.b, sItems a.f⟩ else none
        | none => none

/-- what a context knows of the place -/
structure Good (X : Cx) (W0 : WX) (c : Ctx) : Prop where
  N : X.N = c.N
  sc : X.env.scope = c.sc
  nd : X.N.Nodup
  tk : Takes X W0
  calm : X.calm = true
  hu : X.A.units + 65 < cLine
  fnk : ∀ x, c.fnk x = true → X.fn x = true
  fns : ∀ x k φ, c.fns x = some (k, φ) → ∃ j f fd ps, Room j X.A ∧ FnOk X.prog X.w X.K X.mg X.base (L2.CX X.prog X.w) j f fd ps (spD X.K X.mg k φ) ∧ X.mg x = some (.ref f) ∧ PySem.W.keepIn X.K (.ref f) = true ∧ Binds X.K fd ps []
  gc : ∀ x w, c.gc x = some w → ∃ u v, X.mg x = some u ∧ RelV v u ∧ ∀ Hv H, Rp X.K Hv H v w []
  bl : ∀ x, c.bl x = true → X.mg x = none
section
variable {X : Cx} {W0 : WX} {c : Ctx}
theorem Good.slot (G : Good X W0 c) {x : Str} {i : Nat} (h : c.slot x = some i) : X.N[i]? = some x ∧ Vis X.env.scope x ∧ (x == ("__debug__" : Str)) = false ∧ (x == ("__classdict__" : Str)) = false := by
  unfold Ctx.slot at h
  split at h
  · rename_i hd
    unfold Vis
    rw [G.sc, G.N]
    split at h
    · rename_i e; exact ⟨ixOf_ok h, .inl e, hd.1, hd.2⟩
    · rename_i e; exact ⟨ixOf_ok h, .inr (.inl e), hd.1, hd.2⟩
    · rename_i e; exact ⟨ixOf_ok h, .inr (.inr e), hd.1, hd.2⟩
    · cases h
  · cases h
theorem Good.glob (G : Good X W0 c) {x : Str} (h : c.glob x = true) : Gl X x ∧ (x == ("__debug__" : Str)) = false := by
  unfold Ctx.glob at h
  rw [Bool.and_eq_true] at h
  refine ⟨?_, by simpa using h.2⟩
  show X.env.scope.names.lookup x = _
  rw [G.sc]
  exact of_decide_eq_true h.1
theorem Good.loc (G : Good X W0 c) {x : Str} {i : Nat} (h : c.loc x = some i) : X.N[i]? = some x ∧ L2.Loc X.env.scope x ∧ (X.fn x = true ∨ X.env.scope.names.lookup x = some .local) := by
  unfold Ctx.loc at h
  unfold L2.Loc
  rw [G.sc, G.N]
  split at h
  · rename_i e; exact ⟨ixOf_ok h, .inl e, .inr e⟩
  · rename_i e
    split at h
    · rename_i k; exact ⟨ixOf_ok h, .inr e, .inl (G.fnk x k)⟩
    · cases h
  · cases h
/-- the block of a comprehension -/
theorem Good.blk (G : Good X W0 c) (s : Shared) (H : Hp) (scope : Scope) (C : Addr) (cl : List (Str × Addr)) (fp : List Addr) : Good (X.blk s H scope (compEnvC scope cl C X.env) fp) W0F (c.blk scope) where
  N := G.N
  sc := by
    show relS scope X.env.scope = relS scope c.sc
    rw [G.sc]
  nd := G.nd
  tk := fun _ _ x => by
    obtain ⟨_, _, _, _, _, _, _, _, _, _, _, _, _, _, _, _, z⟩ := x
    exact z.elim
  calm := G.calm
  hu := G.hu
  fnk := fun x h => h
  fns := G.fns
  gc := G.gc
  bl := G.bl
end
end Z

set_option Elab.async false
set_option linter.all false
set_option maxRecDepth 100000
set_option maxHeartbeats 8000000
set_option autoImplicit false
/-! expressions read from the text: sound -/
namespace Z
open PySem PySem.Spec PyProof.Rows L2
section
variable {X : Cx} {W0 : WX} {c : Ctx}
theorem tE_weak {f : Sem} {ms : List Nat} (σ : L2.St) (H : Hp) (Q : VK) (h : tE X W0 true f [] σ H Q) : tE X W0 false f ms σ H Q := by
  obtain ⟨S, ρ, fs, r, I, e, p⟩ := h
  refine ⟨S, ρ, fs, r, I, e, ?_⟩
  cases r with
  | er c => exact p
  | ok w => exact fun v H' S' F g r1 k _ => p v H' S' F g r1 k fun z => nomatch z
/-- what is shown of an expression -/
structure SE (X : Cx) (W0 : WX) (e : Expr) (a : CE) : Prop where
  f : PE X e (tE X W0 false a.f a.ms)
  b : PE X e (tE X W0 true a.b [])
structure ST (X : Cx) (W0 : WX) (e : Expr) (a : CE) : Prop where
  f : PT X e (tT X W0 a.f)
  b : PT X e (tT X W0 a.b)
structure SW (X : Cx) (W0 : WX) (e : Expr) (a : CE) : Prop where
  f : PW X e (tT X W0 a.f)
  b : PW X e (tT X W0 a.b)
theorem both {e : Expr} {f : Sem} {t : TE} (h : PE X e t) (k : ∀ (bo : Bool) (σ : L2.St) (H : Hp) (Q : VK), tE X W0 bo f [] σ H Q → t σ H Q) : SE X W0 e ⟨f, f, []⟩ := ⟨PE.weak h fun σ H Q q => k false σ H Q q, PE.weak h fun σ H Q q => k true σ H Q q⟩
theorem Glob_ne {x : Str} (h : (x == ("__debug__" : Str)) = false) : True := True.intro
theorem se_const {k : Const} {j : Nat} {pos : Pos} {w : W} (h : cW k = some w) : SE X W0 (.Constant k j pos) ⟨sC w, sC w, []⟩ := by
  cases k <;> simp [cW] at h
  · subst h; exact both pe_non fun bo σ H Q q => c_ok (fun _ _ => .non) q
  · subst h; exact both pe_bl fun bo σ H Q q => c_ok (fun _ _ => .bl _) q
  · subst h; exact both pe_int fun bo σ H Q q => c_ok (fun _ _ => .int _) q
  · subst h; exact both pe_str fun bo σ H Q q => c_ok (fun _ _ => .str _) q
theorem se_name (G : Good X W0 c) {x : Str} {pos : Pos} {a : CE} {n : Nat} (h : cE (n + 1) c (.Name x pos) = some a) : SE X W0 (.Name x pos) a := by
  unfold cE at h
  simp only at h
  cases es : c.slot x with
  | some i =>
    rw [es] at h
    simp only at h
    obtain ⟨h1, h2, h3, h4⟩ := G.slot es
    have P := pe_var (pos := pos) h1 h2 h3 h4
    split at h
    · cases h
      exact ⟨PE.weak P fun σ H Q q => varM_ok q, PE.weak P fun σ H Q q => varB_ok q⟩
    · cases h
      exact ⟨PE.weak P fun σ H Q q => var_ok q, PE.weak P fun σ H Q q => varB_ok q⟩
  | none =>
    rw [es] at h
    simp only at h
    split at h
    · rename_i hg
      obtain ⟨g1, g2⟩ := G.glob hg
      split at h
      · rename_i w hw
        cases h
        obtain ⟨u, v, m1, m2, m3⟩ := G.gc x w hw
        exact both (pe_glob g1 m1 m2 g2) fun bo σ H Q q => c_ok m3 q
      · split at h
        · rename_i hb
          split at h
          · rename_i t ht
            cases h
            obtain ⟨b1, b2, b3⟩ := tyFn_ok ht
            exact both (pe_bltn (v := .ty t) g1 (G.bl x hb) b1 rfl b2 b3) fun bo σ H Q q => c_ok (fun _ _ => .ty t) q
          · cases h
        · cases h
    · cases h
theorem PA_weak {es : List Expr} {t t' : TA} (h : PA X es t) (k : ∀ σ H Q, t' σ H Q → t σ H Q) : PA X es t' := ⟨fun pos pins s σ H Q I q => h.run pos pins s σ H Q I (k σ H Q q)⟩
theorem noStar_cons {e : Expr} {es : List Expr} (h : noStar (e :: es) = true) : isStar e = false ∧ noStar es = true := by
  unfold noStar at h
  rw [List.all_cons, Bool.and_eq_true] at h
  exact ⟨by simpa using h.1, h.2⟩
theorem pa_b {es : List Expr} : ∀ {as : List CE}, noStar es = true → (∀ e ∈ es, ∀ a, a ∈ as → True) → Paired (fun e a => SE X W0 e a) es as → PA X es (tA X W0 true (sems as) []) := by
  induction es with
  | nil =>
    intro as _ _ h
    cases h
    exact PA_weak pa_nil fun σ H Q q => alln_ok q
  | cons e es ih =>
    intro as hs _ h
    cases h with
    | cons a b =>
      obtain ⟨s1, s2⟩ := noStar_cons hs
      exact PA_weak (pa_cons a.b (ih s2 (fun _ _ _ _ => True.intro) b) (star_ne s1)) fun σ H Q q => allc_ok (m1 := []) (m2 := []) q
theorem pa_f {es : List Expr} : ∀ {as : List CE}, noStar es = true → Paired (fun e a => SE X W0 e a) es as → PA X es (tA X W0 false (as.map fun a => a.f) (as.map fun a => a.ms).flatten) := by
  induction es with
  | nil =>
    intro as _ h
    cases h
    exact PA_weak pa_nil fun σ H Q q => alln_ok q
  | cons e es ih =>
    intro as hs h
    cases h with
    | cons a b =>
      obtain ⟨s1, s2⟩ := noStar_cons hs
      exact PA_weak (pa_cons a.f (ih s2 b) (star_ne s1)) fun σ H Q q => allc_ok q
theorem forall_cEs {f : Expr → Option CE} {P : Expr → CE → Prop} (h : ∀ e a, f e = some a → P e a) : ∀ {es : List Expr} {as : List CE}, cEs f es = some as → Paired P es as
  | [], as, e => by cases e; exact .nil
  | x :: xs, as, e => by
    unfold cEs at e
    split at e
    · rename_i a ea
      split at e
      · rename_i bs eb
        cases e
        exact .cons (h x a ea) (forall_cEs h eb)
      · cases e
    · cases e
theorem stars_any : ∀ {es : List Expr} {env : Env} {pos : Pos}, noStar es = true → (backTo pos (starEach es env)).any (·.1) = false
  | [], _, _, _ => rfl
  | e :: es, env, pos, h => by
    obtain ⟨s1, s2⟩ := noStar_cons h
    rw [star_ne s1]
    show (false || (backTo pos (starEach es env)).any (·.1)) = false
    rw [stars_any s2]
    rfl
theorem stars_all : ∀ {es : List Expr} {env : Env} {pos : Pos}, noStar es = true → (backTo pos (starEach es env)).all (fun x => !x.1) = true
  | [], _, _, _ => rfl
  | e :: es, env, pos, h => by
    obtain ⟨s1, s2⟩ := noStar_cons h
    rw [star_ne s1]
    show (true && (backTo pos (starEach es env)).all (fun x => !x.1)) = true
    rw [stars_all s2]
    rfl
theorem base_ok {o : Expr} {m : Str} {env : Env} (h : plainBase o = true) : attributeBase o m env (eval o env) = eval o env := by
  unfold attributeBase
  split
  · simp [plainBase] at h
  · rfl
theorem plainIx {i : Expr} (h : isSlice i = false) : PlainIx i := by
  intro o j
  cases i <;> first | rfl | simp [isSlice] at h
theorem folded_ok {e : Expr} {env : Env} (h : isSet e = false) : ∀ x, foldedSetIterable e env x = pure x := by
  intro x
  cases e <;> first | rfl | simp [isSet] at h
theorem un_negZ : UnR X (unaryOp .USub) (rG1 X gNeg) := by
  intro pins s σ H x v Q I rx h
  obtain ⟨S, wx, w, F, m, hx, e, an⟩ := h
  unfold gNeg at e
  split at e
  · cases e
    cases hx
    exact un_neg pins s σ H _ v Q I rx ⟨_, rfl, an.int m⟩
  · cases e
/-- a call by name with arguments -/
theorem se_call (G : Good X W0 c) {x : Str} {p pos : Pos} {a : Expr} {as : List Expr} {ces : List CE} (hs : noStar (a :: as) = true) (hg : c.glob x = true) (ha : Paired (fun e a => SE X W0 e a) (a :: as) ces) {φ : Fn} {k : Nat} (hf : c.fns x = some (k, φ)) (hk : k = (a :: as).length) :
    SE X W0 (.Call (.Name x p) (a :: as) [] pos) ⟨sCall φ (sems ces), sCall φ (sems ces), []⟩ := by
  obtain ⟨j, f, fd, ps, hr, F, hm, hkp, hb⟩ := G.fns x k φ hf
  obtain ⟨g1, g2⟩ := G.glob hg
  obtain ⟨s1, s2⟩ := noStar_cons hs
  have lenf : (sems ces).length = k := by
    unfold sems
    rw [List.length_map, ← Paired.length ha, hk]
  have P := pe_callS (p := p) (pos := pos) F hr g1 hm hkp hb (fun σ => passAt G.tk σ) (pa_b hs (fun _ _ _ _ => True.intro) ha) g2 (star_ne s1) (stars_any s2)
  refine both P fun bo σ H Q q => ?_
  have := call_ok q
  rw [lenf] at this
  exact this
theorem se_bi (G : Good X W0 c) {x : Str} {p pos : Pos} {a : Expr} {as : List Expr} {ces : List CE} (hs : noStar (a :: as) = true) (hg : c.glob x = true) (ha : Paired (fun e a => SE X W0 e a) (a :: as) ces) (hb : c.bl x = true) {k : Bool × String} {g : List W → Option W} (hf : bFn x = some (k, g)) :
    SE X W0 (.Call (.Name x p) (a :: as) [] pos) ⟨sBi g (sems ces), sBi g (sems ces), []⟩ := by
  obtain ⟨g1, g2⟩ := G.glob hg
  obtain ⟨s1, s2⟩ := noStar_cons hs
  obtain ⟨r1, r2, r3, r4⟩ := bFn_ok G.calm hf
  have A := pa_b (X := X) (W0 := W0) hs (fun _ _ _ _ => True.intro) ha
  unfold bV at r1 r2
  split at r1
  · rename_i hk
    rw [if_pos hk] at r2
    exact both (pe_callTy r1 g1 (G.bl x hb) r2 A r3 r4 (star_ne s1) (stars_any s2)) fun bo σ H Q q => bi_ok q
  · rename_i hk
    rw [if_neg hk] at r2
    exact both (pe_callB r1 g1 (G.bl x hb) r2 A r3 r4 (star_ne s1) (stars_any s2)) fun bo σ H Q q => bi_ok q
theorem few_ok {e : Expr} {es : List Expr} {env : Env} {pos : Pos} (hs : noStar (e :: es) = true) (hl : (e :: es).length < 30) :
    ((backTo pos (starEach (e :: es) env)).all (fun x => !x.1) && (backToKw pos (keywordEach [] env)).all (fun x => x.1.isSome) && decide ((e :: es).length + ([] : List Keyword).length + (if ([] : List Keyword).isEmpty then 0 else 1) < 30)) = true := by
  rw [stars_all hs]
  have e1 : (backToKw pos (keywordEach [] env)).all (fun x => x.1.isSome) = true := rfl
  rw [e1]
  show decide ((e :: es).length + 0 + 0 < 30) = true
  exact decide_eq_true (by omega)
theorem pe_meth1 {o : Expr} {as : List Expr} {ces : List CE} {co : CE} {T id : String} {g : W → List W → Option W} {m : Str} {apos cpos : Pos} (ho : SE X W0 o co) (hs : noStar as = true) (hl : as.length < 30) (hb : plainBase o = true) (hp : (apos.endLine == cpos.line) = true)
    (ha : Paired (fun e a => SE X W0 e a) as ces) (hm : MtR X id (rM X g)) (pa : PlainAttrs T) (sl : Slot T m id) (ty : typeOf (.builtin id) = pure (.type "method_descriptor")) :
    PE X (.Call (.Attribute o m apos) as [] cpos) (tBMZ X.K T (rM X g) (tE X W0 true co.b []) (tA X W0 true (sems ces) [])) := by
  cases as with
  | nil =>
    cases ha
    exact PE.weak (pe_mZ0 pa sl ty hm ho.b (base_ok hb) hp) fun σ H Q q => by
      obtain ⟨S, ρ, fp, r, I, e, p⟩ := q
      refine ⟨S, ρ, fp, r, I, e, ?_⟩
      cases r with
      | er c => exact p.er (Ex.refl _)
      | ok w => exact fun v H' S' F g r1 k f => ⟨(p v H' S' F g r1 k f).1, alln_ok (p v H' S' F g r1 k f).2⟩
  | cons a as =>
    obtain ⟨s1, s2⟩ := noStar_cons hs
    exact pe_mZ pa sl ty hm ho.b (pa_b hs (fun _ _ _ _ => True.intro) ha) (base_ok hb) (few_ok hs hl) hp (star_ne s1) (stars_any s2)
/-- targets -/
theorem cT_ok (G : Good X W0 c) : ∀ (n : Nat), (∀ (e : Expr) (t : Tg) (js : List Nat), cT n c e = some (t, js) → PG X e (tG X t js)) ∧ ∀ (es : List Expr) (ts : List Tg) (js : List Nat), cT.cTs n c es = some (ts, js) → noStar es = true → PGs X es (tGs X ts js) ∧ ts.length = es.length
  | 0 => ⟨fun e t js h => by simp [cT] at h, fun es ts js h => by simp [cT.cTs] at h⟩
  | n + 1 => by
    obtain ⟨ih1, ih2⟩ := cT_ok G n
    refine ⟨fun e t js h => ?_, fun es ts js h hs => ?_⟩
    · unfold cT at h
      split at h
      · split at h
        · rename_i i hi
          cases h
          obtain ⟨h1, h2, h3⟩ := G.loc hi
          exact PG_weak (pg_name G.nd h1 h2 h3) fun v σ H Q q => tg_name q
        · cases h
      · split at h
        · rename_i hs
          split at h
          · rename_i ts ks e2
            cases h
            obtain ⟨h1, h2⟩ := ih2 _ _ _ e2 hs
            exact pg_tupZ G.calm h1 h2 hs
          · cases h
        · cases h
      · cases h
    · unfold cT.cTs at h
      split at h
      · cases h
        exact ⟨PGs_weak pgs_nil fun v σ H Q q => tgs_nil q, rfl⟩
      · obtain ⟨s1, s2⟩ := noStar_cons hs
        split at h
        · rename_i t1 j1 e1
          split at h
          · rename_i ts2 j2 e2
            cases h
            obtain ⟨h1, h2⟩ := ih2 _ _ _ e2 s2
            exact ⟨PGs_weak (pgs_cons (ih1 _ _ _ e1) h1 (assign_map s1)) fun v σ H Q q => tgs_cons q, by simp [h2]⟩
          · cases h
        · cases h
end
end Z

set_option Elab.async false
set_option linter.all false
set_option maxRecDepth 100000
set_option maxHeartbeats 8000000
set_option autoImplicit false
/-! expressions read from the text: sound -/
namespace Z
open PySem PySem.Spec PyProof.Rows L2
section
variable {X : Cx} {W0 : WX} {c : Ctx}
theorem st_gen {e : Expr} {a : CE} (h : SE X W0 e a) (he : ∀ whole, isTrue e X.env whole = (do let v ← whole; standAt e.pos; holding [v] (truthy v))) : ST X W0 e a :=
  ⟨PT.weak (pt_val (PE.weak h.f fun σ H Q q => tE_weak σ H Q q) he) fun σ H Q q => tval_ok q, PT.weak (pt_val h.b he) fun σ H Q q => tval_ok q⟩
/-- what is claimed of an expression -/
structure SX (X : Cx) (W0 : WX) (e : Expr) (a : CE) : Prop where
  se : SE X W0 e a
  st : isIfE e = false → ST X W0 e a
  sw : ∀ op vs pos, e = .BoolOp op vs pos → SW X W0 e a
  tr : isIfE e = false → isBO e = false → PT X e (tT X W0 (sTr a.b))
theorem SX.gen {e : Expr} {a : CE} (h : SE X W0 e a) (he : ∀ whole, isTrue e X.env whole = (do let v ← whole; standAt e.pos; holding [v] (truthy v))) (hn : ∀ op vs pos, e ≠ .BoolOp op vs pos) : SX X W0 e a :=
  ⟨h, fun _ => st_gen h he, fun op vs pos z => absurd z (hn op vs pos), fun _ _ => PT.weak (pt_truth h.b he) fun σ H Q q => tr_ok q⟩
theorem tE_ms {f : Sem} {ms ms' : List Nat} (σ : L2.St) (H : Hp) (Q : VK) (h : tE X W0 true f ms σ H Q) : tE X W0 true f ms' σ H Q := by
  obtain ⟨S, ρ, fs, r, I, e, p⟩ := h
  refine ⟨S, ρ, fs, r, I, e, ?_⟩
  cases r with
  | er c => exact p
  | ok w => exact fun v H' S' F g r1 k _ => p v H' S' F g r1 k fun z => nomatch z
theorem swST {e : Expr} {a : CE} (h : SW X W0 e a) : ST X W0 e a := ⟨h.f.pt, h.b.pt⟩
def EIH (n : Nat) : Prop := ∀ (c : Ctx) (X : Cx) (W0 : WX) (e : Expr) (a : CE), Good X W0 c → cE n c e = some a → SX X W0 e a
def IIH (n : Nat) : Prop := ∀ (c : Ctx) (X : Cx) (W0 : WX) (tg e : Expr) (ci : CI), Good X W0 c → cE.cI n c tg e = some ci → PI X tg e (iB X W0 ci.fB) ∧ PI X tg e (iF X W0 ci.fF)
theorem sx_bin (G : Good X W0 c) {n : Nat} (ih : EIH n) {l r : Expr} {op : Operator} {pos : Pos} {a : CE} (h : cE (n + 1) c (.BinOp l op r pos) = some a) : SX X W0 (.BinOp l op r pos) a := by
  unfold cE at h
  simp only [cBin] at h
  split at h
  · rename_i g al ar eg el er
    cases h
    have hl := (ih c X W0 l al G el).se
    have hr := (ih c X W0 r ar G er).se
    exact SX.gen (both (pe_op (opZ_bin eg) hl.b hr.b) fun bo σ H Q q => s2_ok q) (fun _ => rfl) (fun _ _ _ => nofun)
  · cases h
theorem sx_un (G : Good X W0 c) {n : Nat} (ih : EIH n) {l : Expr} {op : UnaryOp} {pos : Pos} {a : CE} (h : cE (n + 1) c (.UnaryOp op l pos) = some a) : SX X W0 (.UnaryOp op l pos) a := by
  unfold cE at h
  cases op with
  | USub =>
    simp only at h
    split at h
    · rename_i al el
      cases h
      have hl := (ih c X W0 l al G el).se
      exact SX.gen (both (pe_un un_negZ hl.b) fun bo σ H Q q => s1_ok q) (fun _ => rfl) (fun _ _ _ => nofun)
    · cases h
  | Not =>
    simp only at h
    split at h
    · rename_i hif
      split at h
      · rename_i al el
        have hl := ih c X W0 l al G el
        split at h
        · cases h
          have ht := hl.st hif
          exact ⟨both (pe_not hl.se.b) fun bo σ H Q q => not_ok q, fun _ => ⟨PT.weak (pt_not ht.b) fun σ H Q q => tnot_ok q, PT.weak (pt_not ht.b) fun σ H Q q => tnot_ok q⟩, (fun _ _ _ z => nomatch z), (fun _ z => nomatch z)⟩
        · rename_i hbo
          cases h
          have ht := hl.tr hif (by simpa using hbo)
          exact ⟨both (pe_notT hl.se.b) fun bo σ H Q q => ntr_ok q, fun _ => ⟨PT.weak (pt_not ht) fun σ H Q q => tnot_ok q, PT.weak (pt_not ht) fun σ H Q q => tnot_ok q⟩, (fun _ _ _ z => nomatch z), (fun _ z => nomatch z)⟩
      · cases h
    · cases h
  | Invert => simp only at h; cases h
  | UAdd => simp only at h; cases h
theorem sx_bool (G : Good X W0 c) {n : Nat} (ih : EIH n) {vs : List Expr} {op : BoolOp} {pos : Pos} {a : CE} (h : cE (n + 1) c (.BoolOp op vs pos) = some a) : SX X W0 (.BoolOp op vs pos) a := by
  unfold cE at h
  cases vs with
  | nil => simp only at h; cases h
  | cons x rest =>
    cases rest with
    | nil =>
      simp only at h
      split at h
      · rename_i hif
        have hx := ih c X W0 x a G h
        have ht := hx.st hif
        have hw : SW X W0 (.BoolOp op [x] pos) a := by
          cases op
          · exact ⟨pw_and1 ht.f, pw_and1 ht.b⟩
          · exact ⟨pw_or1 ht.f, pw_or1 ht.b⟩
        exact ⟨⟨pe_one hx.se.f, pe_one hx.se.b⟩, fun _ => swST hw, fun _ _ _ _ => hw, fun _ z => nomatch z⟩
      · cases h
    | cons y rest =>
      simp only at h
      split at h
      · rename_i hif
        unfold cBool at h
        split at h
        · rename_i ax ay ex ey
          cases h
          have hx := ih c X W0 x ax G ex
          have hy := ih c X W0 _ ay G ey
          have hw := hy.sw _ _ _ rfl
          have ht := hx.st hif
          have hw2 : SW X W0 (.BoolOp .And (x :: y :: rest) pos) ⟨sAnd ax.b ay.f, sAnd ax.b ay.b, ay.ms⟩ :=
            ⟨⟨fun whole pins s σ H Q I q => (pw_and ht.b hw.f).run whole pins s σ H Q I (tand_ok q)⟩, ⟨fun whole pins s σ H Q I q => (pw_and ht.b hw.b).run whole pins s σ H Q I (tand_ok q)⟩⟩
          exact ⟨⟨PE.weak (pe_and hx.se.b hy.se.f) fun σ H Q q => and_ok q, PE.weak (pe_and hx.se.b hy.se.b) fun σ H Q q => and_ok q⟩, fun _ => swST hw2, fun _ _ _ _ => hw2, fun _ z => nomatch z⟩
        · rename_i ax ay ex ey
          cases h
          have hx := ih c X W0 x ax G ex
          have hy := ih c X W0 _ ay G ey
          have hw := hy.sw _ _ _ rfl
          have ht := hx.st hif
          have hw2 : SW X W0 (.BoolOp .Or (x :: y :: rest) pos) ⟨sOr ax.b ay.f, sOr ax.b ay.b, ay.ms⟩ :=
            ⟨⟨fun whole pins s σ H Q I q => (pw_or ht.b hw.f).run whole pins s σ H Q I (tor_ok q)⟩, ⟨fun whole pins s σ H Q I q => (pw_or ht.b hw.b).run whole pins s σ H Q I (tor_ok q)⟩⟩
          exact ⟨⟨PE.weak (pe_or hx.se.b hy.se.f) fun σ H Q q => or_ok q, PE.weak (pe_or hx.se.b hy.se.b) fun σ H Q q => or_ok q⟩, fun _ => swST hw2, fun _ _ _ _ => hw2, fun _ z => nomatch z⟩
        · cases h
      · cases h
theorem sx_cmp (G : Good X W0 c) {n : Nat} (ih : EIH n) {l : Expr} {ops : List CmpOp} {rs : List Expr} {pos : Pos} {a : CE} (h : cE (n + 1) c (.Compare l ops rs pos) = some a) : SX X W0 (.Compare l ops rs pos) a := by
  unfold cE at h
  split at h <;> first | (rename_i heq; cases heq; done) | skip
  all_goals first | (cases h; done) | skip
  · rename_i l' op r pos' heq
    cases heq
    split at h
    · rename_i hm
      split at h
      · rename_i al ar el er
        cases h
        have hl := (ih c X W0 l al G el).se
        have hr := (ih c X W0 r ar G er).se
        have ho := opZ_cmp (X := X) G.hu op
        have hp := pt_cmpR (pos := pos) ho hl.b hr.b hm
        have st : PT X (.Compare l [op] [r] pos) (tT X W0 (s2 al.b ar.b (gCmp op))) := PT.weak hp fun σ H Q q => ttest_ok (fun σ H Q q => s2_ok q) q
        exact ⟨both (pe_cmpR ho hl.b hr.b hm) fun bo σ H Q q => s2_ok q, fun _ => ⟨st, st⟩, (fun _ _ _ z => nomatch z), (fun _ z => nomatch z)⟩
      · cases h
    · cases h
  · rename_i l' op op' m r pos' heq
    cases heq
    split at h
    · rename_i hm
      split at h
      · rename_i al am ar el em er
        cases h
        have hl := (ih c X W0 l al G el).se
        have hmm := (ih c X W0 m am G em).se
        have hr := (ih c X W0 r ar G er).se
        have ho := opZ_cmp (X := X) G.hu op
        have ho' := opZ_cmp (X := X) G.hu op'
        have hp := pt_chain (pos := pos) ho ho' hl.b hmm.b hr.b hm
        have st : PT X (.Compare l [op, op'] [m, r] pos) (tT X W0 (sChain al.b am.b ar.b (gCmp op) (gCmp op'))) := PT.weak hp fun σ H Q q => ttest_ok (fun σ H Q q => chain_ok q) q
        exact ⟨both (pe_chain ho ho' hl.b hmm.b hr.b hm) fun bo σ H Q q => chain_ok q, fun _ => ⟨st, st⟩, (fun _ _ _ z => nomatch z), (fun _ z => nomatch z)⟩
      · cases h
    · cases h
theorem sx_if (G : Good X W0 c) {n : Nat} (ih : EIH n) {t l r : Expr} {pos : Pos} {a : CE} (h : cE (n + 1) c (.IfExp t l r pos) = some a) : SX X W0 (.IfExp t l r pos) a := by
  unfold cE at h
  simp only at h
  split at h
  · rename_i hif
    split at h
    · rename_i at' al ar et el er
      split at h
      · rename_i hms
        cases h
        have ht := (ih c X W0 t at' G et).st hif
        have hl := (ih c X W0 l al G el).se
        have hr := (ih c X W0 r ar G er).se
        have f1 := hl.f
        have f2 := hr.f
        rw [hms.1] at f1
        rw [hms.2] at f2
        exact ⟨⟨PE.weak (pe_ifExp ht.b f1 f2) fun σ H Q q => if_ok q, PE.weak (pe_ifExp ht.b hl.b hr.b) fun σ H Q q => if_ok q⟩, (fun z => nomatch z), (fun _ _ _ z => nomatch z), (fun z => nomatch z)⟩
      · cases h
    · cases h
  · cases h
theorem paired_of {n : Nat} (G : Good X W0 c) (ih : EIH n) {es : List Expr} {as : List CE} (h : cEs (cE n c) es = some as) : Paired (fun e a => SE X W0 e a) es as := forall_cEs (fun e a he => (ih c X W0 e a G he).se) h
theorem sx_tup (G : Good X W0 c) {n : Nat} (ih : EIH n) {es : List Expr} {k : Nat} {pos : Pos} {a : CE} (h : cE (n + 1) c (.Tuple es k pos) = some a) : SX X W0 (.Tuple es k pos) a := by
  unfold cE at h
  simp only at h
  split at h
  · rename_i hs
    split at h
    · rename_i as ea
      cases h
      have hp := pe_tupN (x1 := k) (pos := pos) (pa_f hs (paired_of G ih ea))
      exact SX.gen ⟨PE.weak hp fun σ H Q q => tup_ok q, PE.weak hp fun σ H Q q => tup_ok (tE_ms σ H Q q)⟩ (fun _ => rfl) (fun _ _ _ => nofun)
    · cases h
  · cases h
theorem sx_lst (G : Good X W0 c) {n : Nat} (ih : EIH n) {es : List Expr} {pos : Pos} {a : CE} (h : cE (n + 1) c (.List es pos) = some a) : SX X W0 (.List es pos) a := by
  unfold cE at h
  simp only at h
  split at h
  · rename_i hs
    split at h
    · rename_i as ea
      cases h
      have hp := pe_lst (pos := pos) (pa_f hs (paired_of G ih ea))
      exact SX.gen ⟨PE.weak hp fun σ H Q q => lst_ok q, PE.weak hp fun σ H Q q => lst_ok (tE_ms σ H Q q)⟩ (fun _ => rfl) (fun _ _ _ => nofun)
    · cases h
  · cases h
theorem po_Z (G : Good X W0 c) {n : Nat} (ih : EIH n) {o : Option Expr} {s : Option Sem} (h : cE.cO (cE n c) o = some s) : PO X o (tO X W0 s) := by
  unfold cE.cO at h
  split at h
  · cases h
    exact ⟨fun pins s σ H Q I q => po_none.run pins s σ H Q I (on_ok q)⟩
  · rename_i e
    split at h
    · rename_i a ea
      cases h
      have he := (ih c X W0 e a G ea).se
      exact ⟨fun pins s σ H Q I q => (po_some he.b).run pins s σ H Q I (os_ok q)⟩
    · cases h
theorem sx_sub (G : Good X W0 c) {n : Nat} (ih : EIH n) {o i : Expr} {pos : Pos} {a : CE} (h : cE (n + 1) c (.Subscript o i pos) = some a) : SX X W0 (.Subscript o i pos) a := by
  unfold cE at h
  split at h <;> first | (rename_i heq; cases heq; done) | skip
  all_goals first | (cases h; done) | skip
  · rename_i o' lo hi p2 pos' heq
    cases heq
    split at h
    · rename_i ao l u eo el eu
      cases h
      have ho := (ih c X W0 o ao G eo).se
      exact SX.gen (both (pe_slice sl_Z ho.b (po_Z G ih el) (po_Z G ih eu)) fun bo σ H Q q => sl_ok q) (fun _ => rfl) (fun _ _ _ => nofun)
    · cases h
  · rename_i o' i' pos' _ heq
    cases heq
    split at h
    · rename_i hi
      split at h
      · rename_i ao ai eo ei
        have ho := (ih c X W0 o ao G eo).se
        have hi2 := (ih c X W0 i ai G ei).se
        have hp := pe_ix (pos := pos) ix_Z ho.b hi2.b (plainIx hi)
        split at h
        · rename_i hl
          cases h
          have hf := ho.f
          rw [hl.2] at hf
          have hz : PE X o (tE X W0 true (sFzE ao.f) []) := PE.weak hf fun σ H Q q => fzE_ok q
          have hp2 := pe_ix (pos := pos) ix_Z hz hi2.b (plainIx hi)
          exact SX.gen ⟨PE.weak hp2 fun σ H Q q => idx_ok q, PE.weak hp fun σ H Q q => idxB_ok q⟩ (fun _ => rfl) (fun _ _ _ => nofun)
        · cases h
          exact SX.gen ⟨PE.weak hp fun σ H Q q => idx_ok q, PE.weak hp fun σ H Q q => idxB_ok q⟩ (fun _ => rfl) (fun _ _ _ => nofun)
      · cases h
    · cases h
theorem sx_lr (G : Good X W0 c) {n : Nat} (ih : EIH n) {x : Str} {p pos : Pos} {b : Expr} {as : List Expr} {a : CE} (hg : c.glob x = true) (h : cLR (cE n c) c x b as = some a) : SE X W0 (.Call (.Name x p) (b :: as) [] pos) a := by
  unfold cLR at h
  split at h
  · rename_i hx
    obtain ⟨rfl, rfl, hb⟩ := hx
    obtain ⟨g1, _⟩ := G.glob hg
    split at h
    · split at h
      · rename_i hy
        obtain ⟨rfl, hg2, hb2, hs⟩ := hy
        obtain ⟨g2, _⟩ := G.glob hg2
        split at h
        · rename_i cb eb
          cases h
          exact both (pe_listRg G.calm g1 (G.bl _ hb) (prg_1 g2 (G.bl _ hb2) (ih c X W0 _ cb G eb).se.b (star_ne hs)) (star_ne rfl)) fun bo σ H Q q => lr1_ok q
        · cases h
      · cases h
    · split at h
      · rename_i hy
        obtain ⟨rfl, hg2, hb2, hs, hs2⟩ := hy
        obtain ⟨g2, _⟩ := G.glob hg2
        split at h
        · rename_i cb cd eb ed
          cases h
          have st : starEach _ X.env = (false, eval _ X.env) :: starEach [] X.env := star_ne hs2
          exact both (pe_listRg G.calm g1 (G.bl _ hb) (prg_2 g2 (G.bl _ hb2) (ih c X W0 _ cb G eb).se.b (ih c X W0 _ cd G ed).se.b (star_ne hs) st (by rw [st]; rfl)) (star_ne rfl)) fun bo σ H Q q => lr2_ok q
        · cases h
      · cases h
    · cases h
  · cases h
theorem sx_call (G : Good X W0 c) {n : Nat} (ih : EIH n) {f : Expr} {as : List Expr} {kw : List Keyword} {pos : Pos} {a : CE} (h : cE (n + 1) c (.Call f as kw pos) = some a) : SX X W0 (.Call f as kw pos) a := by
  unfold cE at h
  split at h <;> first | (rename_i heq; cases heq; done) | skip
  all_goals first | (cases h; done) | skip
  · rename_i x p a1 as1 pos' heq
    cases heq
    split at h
    · rename_i hs
      split at h
      · rename_i r er
        cases h
        exact SX.gen (sx_lr G ih hs.2 er) (fun _ => rfl) (fun _ _ _ => nofun)
      split at h
      · rename_i ces ec
        have ha := paired_of G ih ec
        split at h
        · rename_i k φ hf
          split at h
          · rename_i hk
            cases h
            exact SX.gen (se_call G hs.1 hs.2 ha hf hk) (fun _ => rfl) (fun _ _ _ => nofun)
          · cases h
        · split at h
          · rename_i hb
            split at h
            · rename_i k g hg
              cases h
              exact SX.gen (se_bi G hs.1 hs.2 ha hb hg) (fun _ => rfl) (fun _ _ _ => nofun)
            · cases h
          · cases h
      · cases h
    · cases h
  · rename_i o m apos as1 pos' heq
    cases heq
    split at h
    · rename_i hs
      obtain ⟨s1, s2, s3, s4⟩ := hs
      split at h
      · rename_i co ces eo ec
        have ha := paired_of G ih ec
        have ho := (ih c X W0 o co G eo).se
        split at h
        · rename_i hm
          subst hm
          split at h
          · cases h
            have P := PE_or (pe_meth1 (g := mIdxS) ho s1 s2 s3 s4 ha mZ_idxS PySem.F.plainAttrs_str PySem.F.slot_str_index PySem.F.type_str_index) (PE_or (pe_meth1 (g := mIdxL) ho s1 s2 s3 s4 ha mZ_idxL PySem.F.plainAttrs_list PySem.F.slot_list_index PySem.F.type_list_index) (pe_meth1 (g := mIdxT) ho s1 s2 s3 s4 ha mZ_idxT PySem.F.plainAttrs_tuple PySem.F.slot_tuple_index PySem.F.type_tuple_index))
            refine SX.gen (both P fun bo σ H Q q => ?_) (fun _ => rfl) (fun _ _ _ => nofun)
            rcases sM3_ok q with z | z | z
            · exact .inl (sM_ok z)
            · exact .inr (.inl (sM_ok z))
            · exact .inr (.inr (sM_ok z))
          · cases h
        · split at h
          · rename_i r hr
            cases h
            obtain ⟨m1, m2, m3, m4⟩ := mFn_ok (X := X) hr
            exact SX.gen (both (pe_meth1 ho s1 s2 s3 s4 ha m1 m2 m3 m4) fun bo σ H Q q => sM_ok q) (fun _ => rfl) (fun _ _ _ => nofun)
          · cases h
      · cases h
    · cases h
theorem sx_lc (G : Good X W0 c) {n : Nat} (ih : EIH n) (ii : IIH n) {elt : Expr} {gs : List Comprehension} {scope : Scope} {pos : Pos} {a : CE} (h : cE (n + 1) c (.ListComp elt gs scope pos) = some a) : SX X W0 (.ListComp elt gs scope pos) a := by
  unfold cE at h
  split at h <;> first | (rename_i heq; cases heq; done) | skip
  all_goals first | (cases h; done) | skip
  rename_i elt' tg iter ifs scope' pos' heq
  cases heq
  split at h
  · rename_i hb
    split at h
    · rename_i ci g js ce ei eg ee
      split at h
      · rename_i hj
        have hjs : ∀ j ∈ js, j ∈ (ownOf c.N scope).map (·.2) := fun j hjm => by
          have := List.all_eq_true.mp hj.1 j hjm
          simpa using this
        have ok : BlkOk X.N X.env.scope scope (ownOf c.N scope) := by
          rw [G.N, G.sc]
          exact blkOk_by hb.1
        obtain ⟨pi, _⟩ := ii c X W0 tg iter ci G ei
        have hg : ∀ (s : Shared) (H : Hp) (C : Addr) (cl : List (Str × Addr)) (fp : List Addr), PG (X.blk s H scope (compEnvC scope cl C X.env) fp) tg (tG X g js) := fun s H C cl fp => (cT_ok (G.blk s H scope C cl fp) 8).1 tg g js eg
        have he : ∀ (s : Shared) (H : Hp) (C : Addr) (cl : List (Str × Addr)) (fp : List Addr), PE (X.blk s H scope (compEnvC scope cl C X.env) fp) elt (tE X W0F false ce.f []) := fun s H C cl fp => by
          have q := (ih (c.blk scope) _ W0F elt ce (G.blk s H scope C cl fp) ee).se.f
          rw [hj.2] at q
          exact q
        split at h
        · cases h
          exact SX.gen (both (pe_lc G.calm G.nd pi ok hg (fun s H C cl fp => pts_nil) he (folded_ok hb.2)) fun bo σ H Q q => lc_ok hjs q) (fun _ => rfl) (fun _ _ _ => nofun)
        · rename_i t
          split at h
          · rename_i hif
            split at h
            · rename_i ct et
              split at h
              · cases h
                have ht : ∀ (s : Shared) (H : Hp) (C : Addr) (cl : List (Str × Addr)) (fp : List Addr), PTs (X.blk s H scope (compEnvC scope cl C X.env) fp) [t] (tTo X W0F (some ct.b)) := fun s H C cl fp =>
                  pts_one ((ih (c.blk scope) _ W0F t ct (G.blk s H scope C cl fp) et).st hif).b
                exact SX.gen (both (pe_lc G.calm G.nd pi ok hg ht he (folded_ok hb.2)) fun bo σ H Q q => lc_ok hjs q) (fun _ => rfl) (fun _ _ _ => nofun)
              · rename_i hbo
                cases h
                have ht : ∀ (s : Shared) (H : Hp) (C : Addr) (cl : List (Str × Addr)) (fp : List Addr), PTs (X.blk s H scope (compEnvC scope cl C X.env) fp) [t] (tTo X W0F (some (sTr ct.b))) := fun s H C cl fp =>
                  pts_one ((ih (c.blk scope) _ W0F t ct (G.blk s H scope C cl fp) et).tr hif (by simpa using hbo))
                exact SX.gen (both (pe_lc G.calm G.nd pi ok hg ht he (folded_ok hb.2)) fun bo σ H Q q => lc_ok hjs q) (fun _ => rfl) (fun _ _ _ => nofun)
            · cases h
          · cases h
        · cases h
      · cases h
    · cases h
  · cases h
end
end Z

set_option Elab.async false
set_option linter.all false
set_option maxRecDepth 100000
set_option maxHeartbeats 8000000
set_option autoImplicit false
/-! expressions read from the text: sound -/
namespace Z
open PySem PySem.Spec PyProof.Rows L2
section
variable {X : Cx} {W0 : WX} {c : Ctx}
theorem si_gen (G : Good X W0 c) {n : Nat} (ih : EIH n) {tg e : Expr} {ci : CI} (h : (match cE n c e with | some a => if a.ms = [] then some (⟨sItems a.b, sItems a.f⟩ : CI) else none | none => none) = some ci) : PI X tg e (iB X W0 ci.fB) ∧ PI X tg e (iF X W0 ci.fF) := by
  split at h
  · rename_i a ea
    split at h
    · rename_i hm
      cases h
      have q := (ih c X W0 e a G ea).se
      have qf := q.f
      rw [hm] at qf
      exact ⟨items_ok q.b, itemsF_ok qf⟩
    · cases h
  · cases h
theorem tupE_of {tg : Expr} (h : isTupE tg = true) : ∃ es k p, tg = .Tuple es k p := by
  cases tg <;> simp [isTupE] at h
  exact ⟨_, _, _, rfl⟩
theorem si_ok {n : Nat} (ih : EIH n) : IIH (n + 1) := by
  intro c X W0 tg e ci G h
  unfold cE.cI at h
  split at h
  · rename_i x p a pos
    split at h
    · rename_i hx
      obtain ⟨rfl, hg, hb⟩ := hx
      obtain ⟨g1, _⟩ := G.glob hg
      split at h
      · rename_i hs
        split at h
        · rename_i al el
          cases h
          have q := (ih c X W0 a al G el).se
          exact range1_ok g1 (G.bl _ hb) q.b hs
        · cases h
      · cases h
    · split at h
      · rename_i hx
        obtain ⟨rfl, hg, hb⟩ := hx
        obtain ⟨g1, _⟩ := G.glob hg
        split at h
        · rename_i hs
          split at h
          · rename_i al el
            split at h
            · rename_i hm
              cases h
              have q := (ih c X W0 a al G el).se
              have qf := q.f
              rw [hm] at qf
              obtain ⟨es, k, p2, rfl⟩ := tupE_of hs.2
              exact enum_ok g1 (G.bl _ hb) q.b qf hs.1
            · cases h
          · cases h
        · cases h
      · exact si_gen G ih h
  · rename_i x p a b pos
    split at h
    · rename_i hx
      obtain ⟨rfl, hg, hb⟩ := hx
      obtain ⟨g1, _⟩ := G.glob hg
      split at h
      · rename_i hs
        split at h
        · rename_i al bl el er
          cases h
          have q := (ih c X W0 a al G el).se
          have q2 := (ih c X W0 b bl G er).se
          exact range2_ok g1 (G.bl _ hb) q.b q2.b hs.1 hs.2
        · cases h
      · cases h
    · split at h
      · rename_i hx
        obtain ⟨rfl, hg, hb⟩ := hx
        obtain ⟨g1, _⟩ := G.glob hg
        split at h
        · rename_i hs
          split at h
          · rename_i al bl el er
            split at h
            · rename_i hm
              cases h
              have q := (ih c X W0 a al G el).se
              have q2 := (ih c X W0 b bl G er).se
              have qf := q.f
              have qf2 := q2.f
              rw [hm.1] at qf
              rw [hm.2] at qf2
              obtain ⟨es, k, p2, rfl⟩ := tupE_of hs.2.2
              exact zip_ok g1 (G.bl _ hb) q.b q2.b qf qf2 hs.1 hs.2.1
            · cases h
          · cases h
        · cases h
      · exact si_gen G ih h
  · exact si_gen G ih h
theorem soundE : ∀ n : Nat, EIH n ∧ IIH n
  | 0 => ⟨fun c X W0 e a G h => by simp [cE] at h, fun c X W0 tg e ci G h => by simp [cE.cI] at h⟩
  | n + 1 => by
    obtain ⟨ih, ii⟩ := soundE n
    refine ⟨fun c X W0 e a G h => ?_, si_ok ih⟩
    cases e with
    | Constant k j pos =>
      unfold cE at h
      simp only at h
      split at h
      · rename_i w hw
        cases h
        exact SX.gen (se_const hw) (fun _ => rfl) (fun _ _ _ => nofun)
      · cases h
    | Name x pos => exact SX.gen (se_name G h) (fun _ => rfl) (fun _ _ _ => nofun)
    | BinOp l op r pos => exact sx_bin G ih h
    | UnaryOp op l pos => exact sx_un G ih h
    | BoolOp op vs pos => exact sx_bool G ih h
    | Compare l ops rs pos => exact sx_cmp G ih h
    | IfExp t l r pos => exact sx_if G ih h
    | Tuple es k pos => exact sx_tup G ih h
    | List es pos => exact sx_lst G ih h
    | Subscript o i pos => exact sx_sub G ih h
    | Call f as kw pos => exact sx_call G ih h
    | ListComp elt gs scope pos => exact sx_lc G ih ii h
    | Dict ks vs pos =>
      unfold cE at h
      split at h <;> first | (rename_i heq; cases heq; done) | skip
      all_goals first | (cases h; done) | skip
      rename_i heq
      cases heq
      cases h
      exact SX.gen (both pe_dnewK fun bo σ H Q q => dn_ok q) (fun _ => rfl) (fun _ _ _ => nofun)
    | _ => unfold cE at h; simp only at h; cases h
end
end Z

set_option Elab.async false
set_option linter.all false
set_option maxRecDepth 100000
set_option maxHeartbeats 8000000
set_option autoImplicit false
/-! statements: combinators and their rules -/
namespace Z
open PySem PySem.Spec PyProof.Rows L2

inductive Out where
  | nx (ρ : Rho) | rt (w : W) | bk (ρ : Rho) | ct (ρ : Rho) | er (c : Str) (ρ : Rho)
abbrev SS := Rho → Option Out
structure Step (S : List Addr) (H : Hp) (fs : List (List Addr)) (S' : List Addr) (H' : Hp) : Prop where
  view : Ex (hid S H) (hid S' H')
  out : ∀ a ∈ S, (∀ (i : Nat) g, fs[i]? = some g → a ∉ g) → a ∈ S' ∧ H' a = H a
  dom : ∀ a, H' a = none → H a = none
def New (fs : List (List Addr)) (H : Hp) (fs' : List (List Addr)) : Prop := ∀ (i : Nat) g a, fs'[i]? = some g → a ∈ g → (∃ (j : Nat) (h : List Addr), fs[j]? = some h ∧ a ∈ h) ∨ H a = none
theorem New.refl (fs : List (List Addr)) (H : Hp) : New fs H fs := fun i g a h1 h2 => .inl ⟨i, g, h1, h2⟩
theorem New.less {fs fs' : List (List Addr)} {H : Hp} (l : Less fs' fs) : New fs H fs' := fun i g a h1 h2 => by
  rcases l i g h1 with rfl | z
  · exact nomatch h2
  · exact .inl ⟨i, g, z, h2⟩
theorem mk_some {S : List Addr} {H : Hp} (m : MK S H) {a : Addr} (h : a ∈ S) : H a ≠ none := fun z => by have := m a h; rw [z] at this; exact this
theorem New.trans {fs fs1 fs2 : List (List Addr)} {H H1 : Hp} (a : New fs H fs1) (b : New fs1 H1 fs2) (d : ∀ a, H1 a = none → H a = none) : New fs H fs2 := fun i g x h1 h2 => by
  rcases b i g x h1 h2 with ⟨j, h, e1, e2⟩ | z
  · exact a j h x e1 e2
  · exact .inr (d x z)
theorem Step.trans {S S1 S2 : List Addr} {H H1 H2 : Hp} {fs fs1 : List (List Addr)} (m : MK S H) (a : Step S H fs S1 H1) (n : New fs H fs1) (b : Step S1 H1 fs1 S2 H2) : Step S H fs S2 H2 :=
  ⟨a.view.trans b.view, fun x hx hn => by
    obtain ⟨h1, h2⟩ := a.out x hx hn
    obtain ⟨h3, h4⟩ := b.out x h1 fun i g e z => by
      rcases n i g x e z with ⟨j, h, e1, e2⟩ | q
      · exact hn j h e1 e2
      · exact mk_some m hx q
    exact ⟨h3, h4.trans h2⟩, fun x h => a.dom x (b.dom x h)⟩
theorem Grow.step {S S' : List Addr} {H H' : Hp} (m : MK S H) (g : Grow S H S' H') (fs : List (List Addr)) : Step S H fs S' H' := ⟨g.view, fun a ha _ => ⟨g.inc a ha, g.same m a ha⟩, fun a h => g.ex.back h⟩
def PoS (X : Cx) (W0 : WX) (S : List Addr) (H : Hp) (fs : List (List Addr)) : Out → Ends → Prop
  | .nx ρ', D => ∀ σ' H' S' fs', In X.K S' σ' H' ρ' fs' → Step S H fs S' H' → New fs H fs' → D.nx σ' H'
  | .bk ρ', D => ∀ σ' H' S' fs', In X.K S' σ' H' ρ' fs' → Step S H fs S' H' → New fs H fs' → D.bk σ' H'
  | .ct ρ', D => ∀ σ' H' S' fs', In X.K S' σ' H' ρ' fs' → Step S H fs S' H' → New fs H fs' → D.ct σ' H'
  | .rt w, D => ∀ v H' S' F, Step S H fs S' H' → MK S' H' → Rp X.K (hid S' H') H' v w F → F.Nodup → (∀ a ∈ F, a ∈ S' ∧ ((∃ (j : Nat) (h : List Addr), fs[j]? = some h ∧ a ∈ h) ∨ H a = none)) → D.rt v H'
  | .er c ρ', D => ∀ C σ' H' S' fs', X.mg c = some (.ref C) → In X.K S' σ' H' ρ' fs' → Step S H fs S' H' → New fs H fs' → W0 (.ref C) none σ' H'
def tS (X : Cx) (W0 : WX) (f : SS) : TS := fun D σ H => ∃ S ρ fs r, In X.K S σ H ρ fs ∧ f ρ = some r ∧ PoS X W0 S H fs r D
section
variable {X : Cx} {W0 : WX} {S S' : List Addr} {H H' : Hp} {fs fs' : List (List Addr)} {D : Ends} {σ : L2.St}
theorem PoS.go {r : Out} (m : MK S H) (s : Step S H fs S' H') (n : New fs H fs') (p : PoS X W0 S H fs r D) : PoS X W0 S' H' fs' r D := by
  cases r with
  | nx ρ => exact fun σ2 H2 S2 fs2 I2 s2 n2 => p σ2 H2 S2 fs2 I2 (s.trans m n s2) (n.trans n2 s.dom)
  | bk ρ => exact fun σ2 H2 S2 fs2 I2 s2 n2 => p σ2 H2 S2 fs2 I2 (s.trans m n s2) (n.trans n2 s.dom)
  | ct ρ => exact fun σ2 H2 S2 fs2 I2 s2 n2 => p σ2 H2 S2 fs2 I2 (s.trans m n s2) (n.trans n2 s.dom)
  | er c ρ => exact fun C σ2 H2 S2 fs2 hc I2 s2 n2 => p C σ2 H2 S2 fs2 hc I2 (s.trans m n s2) (n.trans n2 s.dom)
  | rt w => exact fun v H2 S2 F s2 m2 r2 nd k => p v H2 S2 F (s.trans m n s2) m2 r2 nd fun a ha => ⟨(k a ha).1, by
      rcases (k a ha).2 with ⟨j, h, e1, e2⟩ | z
      · exact n j h a e1 e2
      · exact .inr (s.dom a z)⟩
/-! ### sequence -/
def sNext : SS := fun ρ => some (.nx ρ)
def sSeq (f g : SS) : SS := fun ρ => match f ρ with
  | some (.nx ρ') => g ρ'
  | r => r
theorem next_ok (h : tS X W0 sNext D σ H) : tNext D σ H := by
  obtain ⟨S, ρ, fs, r, I, e, p⟩ := h
  cases e
  exact p σ H S fs I (Grow.step I.mk' (.refl I.mk') fs) (.refl fs H)
theorem seq_ok {f g : SS} (h : tS X W0 (sSeq f g) D σ H) : tSeq (tS X W0 f) (tS X W0 g) D σ H := by
  obtain ⟨S, ρ, fs, r, I, e, p⟩ := h
  unfold sSeq at e
  cases ef : f ρ with
  | none => rw [ef] at e; cases e
  | some rf =>
    rw [ef] at e
    cases rf with
    | nx ρ1 => exact ⟨S, ρ, fs, _, I, ef, fun σ1 H1 S1 fs1 I1 s1 n1 => ⟨S1, ρ1, fs1, r, I1, e, p.go I.mk' s1 n1⟩⟩
    | bk ρ1 => cases e; exact ⟨S, ρ, fs, _, I, ef, p⟩
    | ct ρ1 => cases e; exact ⟨S, ρ, fs, _, I, ef, p⟩
    | rt w => cases e; exact ⟨S, ρ, fs, _, I, ef, p⟩
    | er c ρ1 => cases e; exact ⟨S, ρ, fs, _, I, ef, p⟩
def sBrk : SS := fun ρ => some (.bk ρ)
def sCnt : SS := fun ρ => some (.ct ρ)
theorem brk_ok (h : tS X W0 sBrk D σ H) : tBreak D σ H := by
  obtain ⟨S, ρ, fs, r, I, e, p⟩ := h
  cases e
  exact p σ H S fs I (Grow.step I.mk' (.refl I.mk') fs) (.refl fs H)
theorem cnt_ok (h : tS X W0 sCnt D σ H) : tCont D σ H := by
  obtain ⟨S, ρ, fs, r, I, e, p⟩ := h
  cases e
  exact p σ H S fs I (Grow.step I.mk' (.refl I.mk') fs) (.refl fs H)
/-! ### an error on the way -/
theorem er_go {c : Str} {ρ : Rho} (I : In X.K S σ H ρ fs) (p : PoS X W0 S H fs (.er c ρ) D) : ∀ C H', X.mg c = some (.ref C) → Ex H H' → W0 (.ref C) none σ H' := fun C H' hc e => by
  have g : Grow S H S H' := ⟨e, fun _ h => h, fun _ h => .inl h, fun a ha => by
    have := I.mk' a ha
    cases q : H a with
    | none => rw [q] at this; exact this.elim
    | some o => rw [e a o q]; rw [q] at this; exact this⟩
  exact p C σ H' S fs hc (I.grow g) (g.step I.mk' fs) (.refl fs H)
/-! ### if -/
def sIfS (t : Sem) (f g : SS) : SS := fun ρ => match t ρ with
  | some (.ok (.bl true)) => f ρ
  | some (.ok (.bl false)) => g ρ
  | some (.er c) => some (.er c ρ)
  | _ => none
theorem ifS_ok {t : Sem} {f g : SS} (h : tS X W0 (sIfS t f g) D σ H) : tIfS (tT X W0 t) (tS X W0 f) (tS X W0 g) D σ H := by
  obtain ⟨S, ρ, fs, r, I, e, p⟩ := h
  unfold sIfS at e
  split at e
  · rename_i et
    exact ⟨S, ρ, fs, _, I, et, fun H1 S1 g1 => iteT ⟨S1, ρ, fs, r, I.grow g1, e, p.go I.mk' (g1.step I.mk' fs) (.refl fs H)⟩⟩
  · rename_i et
    exact ⟨S, ρ, fs, _, I, et, fun H1 S1 g1 => iteF ⟨S1, ρ, fs, r, I.grow g1, e, p.go I.mk' (g1.step I.mk' fs) (.refl fs H)⟩⟩
  · rename_i et
    cases e
    exact ⟨S, ρ, fs, _, I, et, er_go I p⟩
  · cases e
/-! ### moves -/
def killR (ρ : Rho) : List Nat → Rho
  | [] => ρ
  | i :: is => (killR ρ is).set i none
def killF (fs : List (List Addr)) : List Nat → List (List Addr)
  | [] => fs
  | i :: is => (killF fs is).set i []
theorem In.kills {K : PySem.W.Frag} {ρ : Rho} (I : In K S σ H ρ fs) : ∀ is : List Nat, In K S σ H (killR ρ is) (killF fs is)
  | [] => I
  | i :: is => (In.kills I is).kill i
theorem killF_less (fs : List (List Addr)) : ∀ is : List Nat, Less (killF fs is) fs
  | [] => fun i g e => .inr e
  | i :: is => (less_set _ i).trans (killF_less fs is)
theorem killF_at {fs : List (List Addr)} {is : List Nat} {i : Nat} {g : List Addr} (hi : i ∈ is) (e : (killF fs is)[i]? = some g) : g = [] := by
  induction is with
  | nil => cases hi
  | cons j js ih =>
    unfold killF at e
    rcases get_set e with ⟨_, z⟩ | ⟨hn, z⟩
    · exact z
    · rcases List.mem_cons.mp hi with rfl | hi
      · exact absurd rfl hn
      · exact ih hi z
/-- what a moved or new thing is not: another holder's -/
theorem fp_apart {K : PySem.W.Frag} {ρ : Rho} {F : List Addr} {ms : List Nat} (I : In K S σ H ρ fs) (f : Fp H fs ms F) : ∀ a ∈ F, ∀ (j : Nat) g, (killF fs ms)[j]? = some g → a ∉ g := fun a ha j g e hg => by
  have e2 : fs[j]? = some g := by
    rcases killF_less fs ms j g e with rfl | z
    · exact nomatch hg
    · exact z
  rcases f.1 a ha with z | ⟨i, hi, h, e3, h3⟩
  · exact mk_some I.mk' (I.sub j g a e2 hg) z
  · have := I.nd.two i j h g a e3 e2 h3 hg
    subst this
    have := killF_at hi e
    subst this
    exact nomatch hg
/-! ### x = e -/
def sAsg (own : Bool) (i : Nat) (f : Sem) (ms : List Nat) : SS := fun ρ => match f ρ with
  | some (.ok w) => some (.nx ((killR ρ ms).set i (some (if own = true then w else fz w))))
  | some (.er c) => some (.er c ρ)
  | none => none
theorem asg_ok {own : Bool} {i : Nat} {f : Sem} {ms : List Nat} (hm : ms.Nodup) (h : tS X W0 (sAsg own i f ms) D σ H) : tAsg (tE X W0 false f ms) (gName i) D σ H := by
  obtain ⟨S, ρ, fs, r, I, e, p⟩ := h
  unfold sAsg at e
  split at e
  · rename_i w ef
    cases e
    refine ⟨S, ρ, fs, _, I, ef, fun v H1 S1 F g1 r1 k1 f1 => ?_⟩
    have f1 := f1 rfl
    have ap := fp_apart I f1
    have I1 := (I.grow g1).kills ms
    have nF : ∀ a ∈ F, (∃ (j : Nat) (h : List Addr), fs[j]? = some h ∧ a ∈ h) ∨ H a = none := fun a ha => by
      rcases f1.1 a ha with z | ⟨j, _, g, e1, e2⟩
      · exact .inr z
      · exact .inl ⟨j, g, e1, e2⟩
    cases own with
    | true =>
      refine p _ H1 S1 _ (I1.set i r1 (f1.2 hm) k1 fun a ha j g _ e => ap a ha j g e) (g1.step I.mk' fs) fun j g a e hg => ?_
      rcases get_set e with ⟨_, rfl⟩ | ⟨_, e⟩
      · exact nF a hg
      · exact New.less (H := H) (killF_less fs ms) j g a e hg
    | false =>
      refine p _ H1 (S1.filter fun a => decide (a ∉ F)) _ ((I1.out ap).set i (Rp.out r1) List.nodup_nil (fun a z => nomatch z) fun a z => nomatch z) ⟨g1.view.trans view_out, fun a ha hn => ⟨out_of.mpr ⟨g1.inc a ha, fun z => ?_⟩, g1.same I.mk' a ha⟩, fun a h => g1.ex.back h⟩ fun j g a e hg => ?_
      · rcases nF a z with ⟨j, h, e1, e2⟩ | q
        · exact hn j h e1 e2
        · exact mk_some I.mk' ha q
      · rcases get_set e with ⟨_, rfl⟩ | ⟨_, e⟩
        · exact nomatch hg
        · exact New.less (H := H) (killF_less fs ms) j g a e hg
  · rename_i ef
    cases e
    exact ⟨S, ρ, fs, _, I, ef, er_go I p⟩
  · cases e
/-! ### a, b = e -/
def sAsgT (t : Tg) (f : Sem) (ms : List Nat) : SS := fun ρ => match f ρ with
  | some (.ok w) => match t (fz w) (killR ρ ms) with
    | some ρ' => some (.nx ρ')
    | none => none
  | some (.er c) => some (.er c ρ)
  | none => none
theorem asgT_ok {t : Tg} {js : List Nat} {f : Sem} {ms : List Nat} (h : tS X W0 (sAsgT t f ms) D σ H) : tAsg (tE X W0 false f ms) (tG X t js) D σ H := by
  obtain ⟨S, ρ, fs, r, I, e, p⟩ := h
  unfold sAsgT at e
  split at e
  · rename_i w ef
    split at e
    · rename_i ρ' et
      cases e
      refine ⟨S, ρ, fs, _, I, ef, fun v H1 S1 F g1 r1 k1 f1 => ?_⟩
      have f1 := f1 rfl
      have ap := fp_apart I f1
      have I1 := (I.grow g1).kills ms
      have nF : ∀ a ∈ F, (∃ (j : Nat) (h : List Addr), fs[j]? = some h ∧ a ∈ h) ∨ H a = none := fun a ha => by
        rcases f1.1 a ha with z | ⟨j, _, g, e1, e2⟩
        · exact .inr z
        · exact .inl ⟨j, g, e1, e2⟩
      refine ⟨_, killR ρ ms, _, fz w, ρ', I1.out ap, Rp.out r1, et, fun σ' fs' I' _ l => p σ' H1 _ fs' I' ⟨g1.view.trans view_out, fun a ha hn => ⟨out_of.mpr ⟨g1.inc a ha, fun z => ?_⟩, g1.same I.mk' a ha⟩, fun a h => g1.ex.back h⟩ (New.less (l.trans (killF_less fs ms)))⟩
      rcases nF a z with ⟨j, h, e1, e2⟩ | q
      · exact hn j h e1 e2
      · exact mk_some I.mk' ha q
    · cases e
  · rename_i ef
    cases e
    exact ⟨S, ρ, fs, _, I, ef, er_go I p⟩
  · cases e
/-! ### x op= e -/
def sAug (i : Nat) (g : W → W → Option W) (f : Sem) : SS := fun ρ => match ρ[i]? with
  | some (some x) => match f ρ with
    | some (.ok y) => match g x y with
      | some w => if flat w = true then some (.nx (ρ.set i (some w))) else none
      | none => none
    | some (.er c) => some (.er c ρ)
    | none => none
  | _ => none
def gAug : W → W → Option W
  | .int i, .int j => some (.int (i + j))
  | .str x, .str y => if x.length + y.length ≤ sizeLine then some (.str (x ++ y)) else none
  | _, _ => none
theorem pip_aug : PIp X .Add (rG X gAug) := by
  intro pins s σ H x y v u Q I rx ry h
  obtain ⟨S, wx, wy, w, Fx, Fy, m, hx, hy, e, an⟩ := h
  unfold gAug at e
  split at e
  · cases e; cases hx; cases hy
    exact iop_add pins s σ H _ _ v u Q I rx ry ⟨_, _, rfl, rfl, an.int m⟩
  · split at e
    · rename_i hl
      cases e; cases hx; cases hy
      exact iop_add_str pins s σ H _ _ v u Q I rx ry ⟨_, _, rfl, rfl, hl, an.str m⟩
    · cases e
  · cases e
theorem flat_F {K : PySem.W.Frag} {Hv H : Hp} {v : V} {w : W} {F : List Addr} (h : Rp K Hv H v w F) (f : flat w = true) : F = [] := h.sh (by cases w <;> simp [flat] at f <;> rfl)
theorem aug_ok {i : Nat} {g : W → W → Option W} {f : Sem} (h : tS X W0 (sAug i g f) D σ H) : tAug i (tE X W0 true f []) (rG X g) D σ H := by
  obtain ⟨S, ρ, fs, r, I, e, p⟩ := h
  unfold sAug at e
  split at e
  · rename_i x ex
    obtain ⟨v, Fx, h1, h2, h3⟩ := I.sl.get ex
    refine ⟨v, h1, ?_⟩
    split at e
    · rename_i y ef
      split at e
      · rename_i w eg
        split at e
        · rename_i hf
          cases e
          refine ⟨S, ρ, fs, _, I, ef, fun u H1 S1 F g1 r1 k1 _ => ⟨S1, x, y, w, Fx, F, g1.mks, h3.mono g1.view _ (same_of g1 I.mk' fun a ha => I.sub i Fx a h2 ha), r1, eg, fun z H2 S2 F2 g2 r2 k2 _ => ?_⟩⟩
          have := flat_F r2 hf
          subst this
          have g12 := g1.trans g2
          exact p _ H2 S2 _ ((I.grow g12).set i r2 List.nodup_nil (fun a z => nomatch z) fun a z => nomatch z) (g12.step I.mk' fs) (New.less (less_set fs i))
        · cases e
      · cases e
    · rename_i ef
      cases e
      exact ⟨S, ρ, fs, _, I, ef, er_go I p⟩
    · cases e
  · cases e
/-! ### return, a dropped value -/
def sRet (f : Sem) : SS := fun ρ => match f ρ with
  | some (.ok w) => some (.rt w)
  | some (.er c) => some (.er c ρ)
  | none => none
theorem ret_ok {f : Sem} {ms : List Nat} (hm : ms.Nodup) (h : tS X W0 (sRet f) D σ H) : tRet (tE X W0 false f ms) D σ H := by
  obtain ⟨S, ρ, fs, r, I, e, p⟩ := h
  unfold sRet at e
  split at e
  · rename_i w ef
    cases e
    refine ⟨S, ρ, fs, _, I, ef, fun v H1 S1 F g1 r1 k1 f1 => p v H1 S1 F (g1.step I.mk' fs) g1.mks r1 ((f1 rfl).2 hm) fun a ha => ⟨k1 a ha, ?_⟩⟩
    rcases (f1 rfl).1 a ha with z | ⟨j, _, g, e1, e2⟩
    · exact .inr z
    · exact .inl ⟨j, g, e1, e2⟩
  · rename_i ef
    cases e
    exact ⟨S, ρ, fs, _, I, ef, er_go I p⟩
  · cases e
def sRetN : SS := fun _ => some (.rt .non)
theorem retN_ok (h : tS X W0 sRetN D σ H) : tRetN D σ H := by
  obtain ⟨S, ρ, fs, r, I, e, p⟩ := h
  cases e
  exact p .non H S [] (Grow.step I.mk' (.refl I.mk') fs) I.mk' .non List.nodup_nil fun a z => nomatch z
def sDrop (f : Sem) : SS := fun ρ => match f ρ with
  | some (.ok _) => some (.nx ρ)
  | some (.er c) => some (.er c ρ)
  | none => none
theorem drop_ok {f : Sem} (h : tS X W0 (sDrop f) D σ H) : tDrop (tE X W0 true f []) D σ H := by
  obtain ⟨S, ρ, fs, r, I, e, p⟩ := h
  unfold sDrop at e
  split at e
  · rename_i w ef
    cases e
    exact ⟨S, ρ, fs, _, I, ef, fun v H1 S1 F g1 r1 k1 f1 => p σ H1 S1 fs (I.grow g1) (g1.step I.mk' fs) (.refl fs H)⟩
  · rename_i ef
    cases e
    exact ⟨S, ρ, fs, _, I, ef, er_go I p⟩
  · cases e
/-! ### a slot's own things are shown to all (nothing in the program) -/
def frzR (ρ : Rho) (i : Nat) : Rho := match ρ[i]? with
  | some (some w) => ρ.set i (some (fz w))
  | _ => ρ
theorem In.frz {K : PySem.W.Frag} {ρ : Rho} (I : In K S σ H ρ fs) (i : Nat) : ∃ S' fs', In K S' σ H (frzR ρ i) fs' ∧ Step S H fs S' H ∧ New fs H fs' := by
  unfold frzR
  split
  · rename_i w ew
    obtain ⟨v, F, h1, h2, h3⟩ := I.sl.get ew
    have I1 := I.kill i
    have ap : ∀ a ∈ F, ∀ (j : Nat) g, (fs.set i [])[j]? = some g → a ∉ g := fun a ha j g e hg => by
      rcases get_set e with ⟨_, rfl⟩ | ⟨hn, e⟩
      · exact nomatch hg
      · exact hn (I.nd.two i j F g a h2 e ha hg).symm
    have I2 := (I1.out ap).set i (Rp.out h3) List.nodup_nil (fun a z => nomatch z) fun a z => nomatch z
    have e1 : (ρ.set i none).set i (some (fz w)) = ρ.set i (some (fz w)) := List.set_set _
    have e2 : σ.set i (some v) = σ := by
      apply List.ext_getElem?
      intro j
      by_cases e : i = j
      · subst e
        obtain ⟨hl, _⟩ := List.getElem?_eq_some_iff.mp h1
        rw [List.getElem?_set_self hl, h1]
      · rw [List.getElem?_set_ne e]
    rw [e1, e2] at I2
    refine ⟨_, _, I2, ⟨view_out, fun a ha hn => ⟨out_of.mpr ⟨ha, hn i F h2⟩, rfl⟩, fun a h => h⟩, fun j g a e hg => ?_⟩
    rcases get_set e with ⟨_, rfl⟩ | ⟨_, e⟩
    · exact nomatch hg
    · exact New.less (H := H) (less_set fs i) j g a e hg
  · exact ⟨S, fs, I, Grow.step I.mk' (.refl I.mk') fs, .refl fs H⟩
/-- ahead of a statement -/
def sFrz (is : List Nat) (f : SS) : SS := fun ρ => f (is.foldl frzR ρ)
theorem frz_ok {is : List Nat} {f : SS} (h : tS X W0 (sFrz is f) D σ H) : tS X W0 f D σ H := by
  obtain ⟨S, ρ, fs, r, I, e, p⟩ := h
  unfold sFrz at e
  induction is generalizing S ρ fs with
  | nil => exact ⟨S, ρ, fs, r, I, e, p⟩
  | cons i is ih =>
    obtain ⟨S1, fs1, I1, s1, n1⟩ := I.frz i
    exact ih S1 (frzR ρ i) fs1 I1 e (p.go I.mk' s1 n1)
end
end Z

set_option Elab.async false
set_option linter.all false
set_option maxRecDepth 100000
set_option maxHeartbeats 8000000
set_option autoImplicit false
/-! loops -/
namespace Z
open PySem PySem.Spec PyProof.Rows L2

def forLoop (g : Tg) (b : SS) : List W → SS
  | [], ρ => some (.nx ρ)
  | w :: ws, ρ => match g w ρ with
    | none => none
    | some ρ1 => match b ρ1 with
      | some (.nx ρ2) => forLoop g b ws ρ2
      | some (.ct ρ2) => forLoop g b ws ρ2
      | some (.bk ρ2) => some (.nx ρ2)
      | r => r
def sFor (fi : Rho → Option RL) (g : Tg) (b : SS) : SS := fun ρ => match fi ρ with
  | some (.ok ws) => forLoop g b ws ρ
  | some (.er c) => some (.er c ρ)
  | none => none
def whLoop (t : Sem) (b : SS) : Nat → SS
  | 0, _ => none
  | n + 1, ρ => match t ρ with
    | some (.ok (.bl true)) => match b ρ with
      | some (.nx ρ2) => whLoop t b n ρ2
      | some (.ct ρ2) => whLoop t b n ρ2
      | some (.bk ρ2) => some (.nx ρ2)
      | r => r
    | some (.ok (.bl false)) => some (.nx ρ)
    | some (.er c) => some (.er c ρ)
    | _ => none
def sWh (n : Nat) (t : Sem) (b : SS) : SS := fun ρ => whLoop t b n ρ
section
variable {X : Cx} {W0 : WX} {S S' : List Addr} {H H' : Hp} {fs fs' : List (List Addr)} {D : Ends} {σ : L2.St}
structure ForI (X : Cx) (W0 : WX) (Hv : Hp) (D : Ends) (r : Out) (g : Tg) (b : SS) (ws : List W) (i : Nat) (σ : L2.St) (H : Hp) : Prop where
  out : ∃ S ρ fs, In X.K S σ H ρ fs ∧ forLoop g b (ws.drop i) ρ = some r ∧ PoS X W0 S H fs r D ∧ Ex Hv (hid S H)
theorem for_ok {fi : Rho → Option RL} {g : Tg} {b : SS} {js : List Nat} (h : tS X W0 (sFor fi g b) D σ H) : tFor (iF X W0 fi) (tG X g js) (tS X W0 b) D σ H := by
  obtain ⟨S, ρ, fs, r, I, e, p⟩ := h
  unfold sFor at e
  cases ei : fi ρ with
  | none => rw [ei] at e; cases e
  | some ri =>
    rw [ei] at e
    cases ri with
    | er c =>
      cases e
      exact ⟨S, ρ, fs, _, I, ei, er_go I p⟩
    | ok ws =>
      refine ⟨S, ρ, fs, _, I, ei, fun J H1 S1 g1 src => ?_⟩
      refine ⟨fun i m σ H => m = ws.length - i ∧ i ≤ ws.length ∧ ForI X W0 (hid S1 H1) D r g b ws i σ H, ⟨ws.length, by simp, Nat.zero_le _, ⟨S1, ρ, fs, I.grow g1, e, p.go I.mk' (g1.step I.mk' fs) (.refl fs H), Ex.refl _⟩⟩, ?_⟩
      rintro i m σ2 H2 ⟨rfl, hi, P⟩
      obtain ⟨S2, ρ2, fs2, I2, e2, p2, v2⟩ := P.out
      by_cases hlt : i < ws.length
      · have hw : ws[i]? = some ws[i] := List.getElem?_eq_getElem hlt
        refine .inr ⟨src.go S2 H2 i I2.mk' (v2.trans hid_ex) v2 hlt, fun σ' H' => ForI X W0 (hid S1 H1) D r g b ws (i + 1) σ' H', fun σ' H' q => ⟨ws.length - (i + 1), by omega, rfl, hlt, q⟩, fun x H3 y => ?_⟩
        obtain ⟨g3, rx⟩ := src.yld S2 H2 i x H3 _ I2.mk' (v2.trans hid_ex) v2 hw y
        rw [List.drop_eq_getElem_cons hlt] at e2
        unfold forLoop at e2
        split at e2
        · cases e2
        · rename_i ρ3 eg
          refine ⟨S2, ρ2, fs2, _, ρ3, I2.grow g3, rx, eg, fun σ4 fs4 I4 _ l4 => ?_⟩
          have s4 : Step S2 H2 fs2 S2 H3 := g3.step I2.mk' fs2
          have n4 : New fs2 H2 fs4 := New.less l4
          split at e2
          · rename_i ρ5 eb
            refine ⟨S2, ρ3, fs4, _, I4, eb, fun σ6 H6 S6 fs6 I6 s6 n6 => ⟨S6, ρ5, fs6, I6, e2, ?_, ?_⟩⟩
            · exact p2.go I2.mk' (s4.trans I2.mk' n4 s6) (n4.trans n6 s4.dom)
            · exact v2.trans (s4.view.trans s6.view)
          · rename_i ρ5 eb
            refine ⟨S2, ρ3, fs4, _, I4, eb, fun σ6 H6 S6 fs6 I6 s6 n6 => ⟨S6, ρ5, fs6, I6, e2, ?_, ?_⟩⟩
            · exact p2.go I2.mk' (s4.trans I2.mk' n4 s6) (n4.trans n6 s4.dom)
            · exact v2.trans (s4.view.trans s6.view)
          · rename_i ρ5 eb
            cases e2
            exact ⟨S2, ρ3, fs4, _, I4, eb, fun σ6 H6 S6 fs6 I6 s6 n6 => p2 σ6 H6 S6 fs6 I6 (s4.trans I2.mk' n4 s6) (n4.trans n6 s4.dom)⟩
          · rename_i n1 n2 n3
            refine ⟨S2, ρ3, fs4, r, I4, e2, ?_⟩
            have q := p2.go I2.mk' s4 n4
            cases r with
            | nx ρ' => exact absurd e2 (n1 ρ')
            | ct ρ' => exact absurd e2 (n2 ρ')
            | bk ρ' => exact absurd e2 (n3 ρ')
            | rt w => exact q
            | er c ρ' => exact q
      · have e0 : ws.drop i = [] := List.drop_eq_nil_of_le (by omega)
        rw [e0] at e2
        cases e2
        exact .inl ⟨src.stop S2 H2 i I2.mk' (v2.trans hid_ex) v2 (by omega), p2 σ2 H2 S2 fs2 I2 (Grow.step I2.mk' (.refl I2.mk') fs2) (.refl fs2 H2)⟩
structure WhI (X : Cx) (W0 : WX) (D : Ends) (r : Out) (t : Sem) (b : SS) (n : Nat) (σ : L2.St) (H : Hp) : Prop where
  out : ∃ S ρ fs, In X.K S σ H ρ fs ∧ whLoop t b n ρ = some r ∧ PoS X W0 S H fs r D
theorem wh_ok {n : Nat} {t : Sem} {b : SS} (h : tS X W0 (sWh n t b) D σ H) : tWhile (tT X W0 t) (tS X W0 b) D σ H := by
  obtain ⟨S, ρ, fs, r, I, e, p⟩ := h
  refine ⟨WhI X W0 D r t b, ⟨n, ⟨S, ρ, fs, I, e, p⟩⟩, ?_⟩
  rintro m σ2 H2 P
  obtain ⟨S2, ρ2, fs2, I2, e2, p2⟩ := P.out
  cases m with
  | zero => unfold whLoop at e2; cases e2
  | succ m =>
    unfold whLoop at e2
    split at e2
    · rename_i et
      refine ⟨S2, ρ2, fs2, _, I2, et, fun H3 S3 g3 => iteT ?_⟩
      have s4 : Step S2 H2 fs2 S3 H3 := g3.step I2.mk' fs2
      have I3 := I2.grow g3
      have n4 : New fs2 H2 fs2 := .refl _ _
      refine ⟨WhI X W0 D r t b m, fun σ' H' q => ⟨m, Nat.lt_succ_self _, q⟩, ?_⟩
      split at e2
      · rename_i ρ5 eb
        exact ⟨S3, ρ2, fs2, _, I3, eb, fun σ6 H6 S6 fs6 I6 s6 n6 => ⟨S6, ρ5, fs6, I6, e2, p2.go I2.mk' (s4.trans I2.mk' n4 s6) (n4.trans n6 s4.dom)⟩⟩
      · rename_i ρ5 eb
        exact ⟨S3, ρ2, fs2, _, I3, eb, fun σ6 H6 S6 fs6 I6 s6 n6 => ⟨S6, ρ5, fs6, I6, e2, p2.go I2.mk' (s4.trans I2.mk' n4 s6) (n4.trans n6 s4.dom)⟩⟩
      · rename_i ρ5 eb
        cases e2
        exact ⟨S3, ρ2, fs2, _, I3, eb, fun σ6 H6 S6 fs6 I6 s6 n6 => p2 σ6 H6 S6 fs6 I6 (s4.trans I2.mk' n4 s6) (n4.trans n6 s4.dom)⟩
      · rename_i n1 n2 n3
        refine ⟨S3, ρ2, fs2, r, I3, e2, ?_⟩
        have q := p2.go I2.mk' s4 n4
        cases r with
        | nx ρ' => exact absurd e2 (n1 ρ')
        | ct ρ' => exact absurd e2 (n2 ρ')
        | bk ρ' => exact absurd e2 (n3 ρ')
        | rt w => exact q
        | er c ρ' => exact q
    · rename_i et
      cases e2
      exact ⟨S2, ρ2, fs2, _, I2, et, fun H3 S3 g3 => iteF (p2 σ2 H3 S3 fs2 (I2.grow g3) (g3.step I2.mk' fs2) (.refl fs2 H2))⟩
    · rename_i et
      cases e2
      exact ⟨S2, ρ2, fs2, _, I2, et, er_go I2 p2⟩
    · cases e2
end
end Z

set_option Elab.async false
set_option linter.all false
set_option maxRecDepth 100000
set_option maxHeartbeats 8000000
set_option autoImplicit false
/-! own things changed -/
namespace Z
open PySem PySem.Spec PyProof.Rows L2
section
variable {X : Cx} {W0 : WX} {K : PySem.W.Frag} {S S1 : List Addr} {H H1 : Hp} {fs : List (List Addr)} {D : Ends} {σ : L2.St} {ρ : Rho}
theorem In.mutate (I : In K S σ H ρ fs) {a : Addr} {o : HO} (ha : a ∈ S) (hn : ∀ (j : Nat) g, fs[j]? = some g → a ∉ g) (mu : Mu (some o)) : In K S σ (upd H a o) ρ fs :=
  ⟨I.sl.mono (by rw [hid_upd ha]; exact Ex.refl _) fun j g b h1 h2 => upd_ne fun z => hn j g h1 (z ▸ h2), I.nd, I.sub, fun b hb => by
    by_cases e : b = a
    · subst e; rw [upd_same]; exact mu
    · rw [upd_ne e]; exact I.mk' b hb⟩
theorem killF_get {fs : List (List Addr)} {i : Nat} : ∀ {ms : List Nat}, i ∉ ms → (killF fs ms)[i]? = fs[i]?
  | [], _ => rfl
  | j :: ms, h => by
    show ((killF fs ms).set j [])[i]? = _
    rw [List.getElem?_set_ne (fun z => h (by rw [z]; exact List.mem_cons_self)), killF_get fun z => h (List.mem_cons_of_mem _ z)]
theorem fp_disj (I : In K S σ H ρ fs) {i : Nat} {ms : List Nat} {F0 F1 : List Addr} (h0 : fs[i]? = some F0) (f1 : Fp H fs ms F1) (hm : i ∉ ms) : ∀ b ∈ F1, b ∉ F0 := fun b hb h => by
  rcases f1.1 b hb with z | ⟨j, hj, g, e1, e2⟩
  · exact mk_some I.mk' (I.sub i F0 b h0 h) z
  · exact hm (I.nd.two i j F0 g b h0 e1 h e2 ▸ hj)
theorem mut_core (I : In K S σ H ρ fs) {i : Nat} {ms : List Nat} {F0 F1 Fn : List Addr} {v : V} {a : Addr} {o : HO} {w1 : W} (hv : σ[i]? = some (some v)) (h0 : fs[i]? = some F0) (ha : a ∈ F0) (g1 : Grow S H S1 H1) (f1 : Fp H fs ms F1) (hm : i ∉ ms) (mu : Mu (some o))
    (r : Rp K (hid S1 H1) (upd H1 a o) v w1 Fn) (nd : Fn.Nodup) (sub : ∀ b ∈ Fn, b ∈ F0 ∨ b ∈ F1) (k1 : ∀ b ∈ F1, b ∈ S1) :
    ∃ fs', fs' = (killF fs ms).set i Fn ∧ In K S1 σ (upd H1 a o) ((killR ρ ms).set i (some w1)) fs' ∧ Step S H fs S1 (upd H1 a o) ∧ New fs H fs' := by
  have aS : a ∈ S := I.sub i F0 a h0 ha
  have aS1 := g1.inc a aS
  have I1 := ((I.grow g1).kills ms).kill i
  have I2 : In K S1 σ (upd H1 a o) ((killR ρ ms).set i none) ((killF fs ms).set i []) := I1.mutate aS1 (fun j g e hg => by
    rcases get_set e with ⟨_, rfl⟩ | ⟨hn, e⟩
    · exact nomatch hg
    · rcases killF_less fs ms j g e with rfl | z
      · exact nomatch hg
      · exact hn (I.nd.two j i g F0 a z h0 hg ha)) mu
  have I3 := I2.set i (v := v) (w := w1) (F := Fn) (by rw [hid_upd aS1]; exact r) nd (fun b hb => by
    rcases sub b hb with z | z
    · exact g1.inc b (I.sub i F0 b h0 z)
    · exact k1 b z) fun b hb j g hn e hg => by
    rcases get_set e with ⟨q, _⟩ | ⟨_, e⟩
    · exact hn q
    · rcases sub b hb with z | z
      · rcases killF_less fs ms j g e with rfl | y
        · exact nomatch hg
        · exact hn (I.nd.two j i g F0 b y h0 hg z)
      · exact fp_apart I f1 b z j g e hg
  have e1 : ((killR ρ ms).set i none).set i (some w1) = (killR ρ ms).set i (some w1) := List.set_set _
  have e2 : σ.set i (some v) = σ := by
    apply List.ext_getElem?
    intro j
    by_cases e : i = j
    · subst e
      obtain ⟨hl, _⟩ := List.getElem?_eq_some_iff.mp hv
      rw [List.getElem?_set_self hl, hv]
    · rw [List.getElem?_set_ne e]
  rw [e1, e2] at I3
  have I4 : In K S1 σ (upd H1 a o) ((killR ρ ms).set i (some w1)) ((killF fs ms).set i Fn) := by
    have e3 : (((killF fs ms).set i []).set i Fn) = (killF fs ms).set i Fn := List.set_set _
    rw [e3] at I3
    exact I3
  refine ⟨_, rfl, I4, ⟨by rw [hid_upd aS1]; exact g1.view, fun b hb hn => ⟨g1.inc b hb, ?_⟩, fun b hb => ?_⟩, fun j g b e hg => ?_⟩
  · rw [upd_ne (fun z => hn i F0 h0 (by rw [z]; exact ha))]
    exact g1.same I.mk' b hb
  · by_cases e : b = a
    · subst e; rw [upd_same] at hb; cases hb
    · rw [upd_ne e] at hb; exact g1.ex.back hb
  · rcases get_set e with ⟨_, rfl⟩ | ⟨_, e⟩
    · rcases sub b hg with z | z
      · exact .inl ⟨i, F0, h0, z⟩
      · rcases f1.1 b z with y | ⟨k, _, h, y1, y2⟩
        · exact .inr y
        · exact .inl ⟨k, h, y1, y2⟩
    · exact New.less (H := H) (killF_less fs ms) j g b e hg
/-! ### x.append(e) -/
def sApp (i : Nat) (f : Sem) (ms : List Nat) : SS := fun ρ => match ρ[i]? with
  | some (some (.olst xs)) => match f ρ with
    | some (.ok w) => if xs.length < sizeLine then some (.nx ((killR ρ ms).set i (some (.olst (xs ++ [w]))))) else none
    | some (.er c) => some (.er c ρ)
    | none => none
  | _ => none
theorem own_get (I : In K S σ H ρ fs) {i : Nat} {xs : List W} (e : ρ[i]? = some (some (.olst xs))) : ∃ a vs Fx, σ[i]? = some (some (.ref a)) ∧ fs[i]? = some (a :: Fx) ∧ H a = some (.lst vs) ∧ RpA K (hid S H) H vs xs Fx := by
  obtain ⟨v, F, h1, h2, h3⟩ := I.sl.get e
  cases h3 with
  | olst a b => exact ⟨_, _, _, h1, h2, a, b⟩
theorem app_ok2 {i : Nat} {f : Sem} {ms : List Nat} (hm : ms.Nodup) (hi : i ∉ ms) (h : tS X W0 (sApp i f ms) D σ H) : tDrop (tBMZ X.K "list" rAppend (tVar i) (tCons (tE X W0 false f ms) tNil)) D σ H := by
  obtain ⟨S, ρ, fs, r, I, e, p⟩ := h
  unfold sApp at e
  split at e
  · rename_i xs ex
    obtain ⟨a, vs, Fx, h1, h2, h3, h4⟩ := own_get I ex
    refine ⟨_, h1, .inl (.inl ⟨rfl, vs, SqL.of h3⟩), ?_⟩
    split at e
    · rename_i w ew
      split at e
      · rename_i hl
        cases e
        refine ⟨S, ρ, fs, _, I, ew, fun v H1 S1 F1 g1 r1 k1 f1 => ?_⟩
        have f1 := f1 rfl
        have nF := I.nd.one i _ h2
        have dj := fp_disj I h2 f1 hi
        have aS : a ∈ S := I.sub i _ a h2 List.mem_cons_self
        have h31 : H1 a = some (.lst vs) := g1.ex a _ h3
        have naF1 : a ∉ F1 := fun z => dj a z List.mem_cons_self
        have naFx : a ∉ Fx := (List.nodup_cons.mp nF).1
        have rr : RpA X.K (hid S1 H1) H1 vs xs Fx := h4.mono g1.view xs (same_of g1 I.mk' fun b hb => I.sub i _ b h2 (List.mem_cons_of_mem _ hb))
        obtain ⟨fs', _, I', s', n'⟩ := mut_core (o := .lst (vs ++ [v])) I h1 h2 List.mem_cons_self g1 f1 hi True.intro (w1 := .olst (xs ++ [w])) (Fn := a :: (Fx ++ F1))
          (.olst upd_same ((rr.app r1).mono (Ex.refl _) _ fun b hb => upd_ne fun z => by
            subst z
            exact (List.mem_append.mp hb).elim naFx naF1))
          (List.nodup_cons.mpr ⟨fun z => (List.mem_append.mp z).elim naFx naF1, List.nodup_append.mpr ⟨(List.nodup_cons.mp nF).2, f1.2 hm, fun b hb c hc hbc => dj c hc (hbc ▸ List.mem_cons_of_mem _ hb)⟩⟩)
          (fun b hb => by
            rcases List.mem_cons.mp hb with rfl | hb
            · exact .inl List.mem_cons_self
            · rcases List.mem_append.mp hb with z | z
              · exact .inl (List.mem_cons_of_mem _ z)
              · exact .inr z) k1
        exact ⟨a, vs, v, rfl, rfl, h31, by rw [rr.len]; exact hl, p σ _ _ fs' I' s' n'⟩
      · cases e
    · rename_i ew
      cases e
      exact ⟨S, ρ, fs, _, I, ew, er_go I p⟩
    · cases e
  · cases e
/-! ### x.clear() -/
def sClr (i : Nat) : SS := fun ρ => match ρ[i]? with
  | some (some (.olst _)) => some (.nx (ρ.set i (some (.olst []))))
  | _ => none
theorem clr_ok {i : Nat} (h : tS X W0 (sClr i) D σ H) : tDrop (tBMZ X.K "list" rClear (tVar i) tNil) D σ H := by
  obtain ⟨S, ρ, fs, r, I, e, p⟩ := h
  unfold sClr at e
  split at e
  · rename_i xs ex
    cases e
    obtain ⟨a, vs, Fx, h1, h2, h3, h4⟩ := own_get I ex
    refine ⟨_, h1, .inl (.inl ⟨rfl, vs, SqL.of h3⟩), ?_⟩
    obtain ⟨fs', _, I', s', n'⟩ := mut_core (ms := []) (F1 := []) (o := .lst []) I h1 h2 List.mem_cons_self (.refl I.mk') Fp.nil (fun z => nomatch z) True.intro (w1 := .olst []) (Fn := [a]) (.olst upd_same .nil) (by simp) (fun b hb => .inl (by
      rcases List.mem_singleton.mp hb with rfl; exact List.mem_cons_self)) (fun b z => nomatch z)
    exact ⟨a, vs, rfl, rfl, h3, p σ _ _ fs' I' s' n'⟩
  · cases e
/-! ### x.pop(..) -/
theorem RpA.pick {K : PySem.W.Frag} {Hv H : Hp} : ∀ {ws : List W} {vs : List V} {F : List Addr} {k : Nat} {w : W}, RpA K Hv H vs ws F → ws[k]? = some w →
    ∃ v G F', vs[k]? = some v ∧ Rp K Hv H v w G ∧ RpA K Hv H (vs.eraseIdx k) (ws.eraseIdx k) F' ∧ F.Perm (G ++ F')
  | [], _, _, _, _, _, e => by simp at e
  | x :: xs, _, _, k, w, h, e => by
    cases h with
    | cons a b =>
      cases k with
      | zero =>
        simp at e
        subst e
        exact ⟨_, _, _, rfl, a, b, List.Perm.refl _⟩
      | succ k =>
        simp at e
        obtain ⟨v, G, F', h1, h2, h3, h4⟩ := RpA.pick b e
        refine ⟨v, G, _, by simpa using h1, h2, .cons a h3, ?_⟩
        refine (List.Perm.append_left _ h4).trans ?_
        rw [← List.append_assoc, ← List.append_assoc]
        exact List.Perm.append_right _ List.perm_append_comm
def popK (n : Nat) : Option Int → Option Nat
  | none => some (n - 1)
  | some i => if -(2 ^ 63) ≤ i ∧ i < 2 ^ 63 then seqIndex? i n else none
/-- what is left, with the one that is taken -/
def popW (xs : List W) (o : Option Int) : Option (W × List W) := match popK xs.length o with
  | some k => match xs[k]? with
    | some w => some (fz w, xs.eraseIdx k)
    | none => none
  | none => none
/-- x.pop(..), then what is done with it: the value is shown to all -/
def sPop (i : Nat) (o : Option Sem) (k : W → SS) : SS := fun ρ => match ρ[i]? with
  | some (some (.olst xs)) => match sO o ρ with
    | some (.ok n) => match popW xs n with
      | some (w, ys) => k w (ρ.set i (some (.olst ys)))
      | none => none
    | some (.er c) => some (.er c ρ)
    | none => none
  | _ => none
theorem pop_core {X : Cx} {W0 : WX} {D : Ends} {r : Out} (I : In X.K S σ H ρ fs) {i : Nat} {xs ys : List W} {w : W} {n : Option Int} {k : W → SS} (ex : ρ[i]? = some (some (.olst xs))) (g1 : Grow S H S1 H1) (ep : popW xs n = some (w, ys))
    (e : k w (ρ.set i (some (.olst ys))) = some r) (p : PoS X W0 S H fs r D) :
    ∃ a vs y j, σ[i]? = some (some (.ref a)) ∧ H1 a = some (.lst vs) ∧ popK vs.length n = some j ∧ vs[j]? = some y ∧ ∃ S2 fs2, In X.K S2 σ (upd H1 a (.lst (vs.eraseIdx j))) (ρ.set i (some (.olst ys))) fs2 ∧ Rp X.K (hid S2 (upd H1 a (.lst (vs.eraseIdx j)))) (upd H1 a (.lst (vs.eraseIdx j))) y w [] ∧
      PoS X W0 S2 (upd H1 a (.lst (vs.eraseIdx j))) fs2 r D := by
  obtain ⟨a, vs, Fx, h1, h2, h3, h4⟩ := own_get I ex
  unfold popW at ep
  split at ep
  · rename_i j ej
    split at ep
    · rename_i w0 ew
      cases ep
      have h31 : H1 a = some (.lst vs) := g1.ex a _ h3
      have rr : RpA X.K (hid S1 H1) H1 vs xs Fx := h4.mono g1.view xs (same_of g1 I.mk' fun b hb => I.sub i _ b h2 (List.mem_cons_of_mem _ hb))
      obtain ⟨y, G, F', hy, ry, rest, pm⟩ := rr.pick ew
      have nF := I.nd.one i _ h2
      have nFx := (List.nodup_cons.mp nF).2
      have naFx : a ∉ Fx := (List.nodup_cons.mp nF).1
      have nGF := (pm.nodup_iff).mp nFx
      have inG : ∀ b ∈ G, b ∈ Fx := fun b hb => pm.mem_iff.mpr (List.mem_append_left _ hb)
      have inF : ∀ b ∈ F', b ∈ Fx := fun b hb => pm.mem_iff.mpr (List.mem_append_right _ hb)
      have dGF : ∀ b ∈ G, b ∉ F' := fun b hb z => (List.nodup_append.mp nGF).2.2 b hb b z rfl
      obtain ⟨fs', ef, I', s', n'⟩ := mut_core (ms := []) (F1 := []) (o := .lst (vs.eraseIdx j)) I h1 h2 List.mem_cons_self g1 Fp.nil (fun z => nomatch z) True.intro (w1 := .olst (xs.eraseIdx j)) (Fn := a :: F')
        (.olst upd_same (rest.mono (Ex.refl _) _ fun b hb => upd_ne fun z => naFx (z ▸ inF b hb)))
        (List.nodup_cons.mpr ⟨fun z => naFx (inF a z), (List.nodup_append.mp nGF).2.1⟩)
        (fun b hb => .inl (by
          rcases List.mem_cons.mp hb with rfl | hb
          · exact List.mem_cons_self
          · exact List.mem_cons_of_mem _ (inF b hb))) (fun b z => nomatch z)
      have ap : ∀ b ∈ G, ∀ (q : Nat) g, fs'[q]? = some g → b ∉ g := fun b hb q g eg hg => by
        rw [ef] at eg
        rcases get_set eg with ⟨_, rfl⟩ | ⟨hn, eg⟩
        · rcases List.mem_cons.mp hg with rfl | hg
          · exact naFx (inG _ hb)
          · exact dGF b hb hg
        · exact hn (I.nd.two q i g _ b eg h2 hg (List.mem_cons_of_mem _ (inG b hb)))
      have ry2 : Rp X.K (hid S1 (upd H1 a (.lst (vs.eraseIdx j)))) (upd H1 a (.lst (vs.eraseIdx j))) y w0 G := by
        rw [hid_upd (g1.inc a (I.sub i _ a h2 List.mem_cons_self))]
        exact ry.mono (Ex.refl _) _ fun b hb => upd_ne fun z => naFx (z ▸ inG b hb)
      refine ⟨a, vs, y, j, h1, h31, by rw [rr.len]; exact ej, hy, _, fs', I'.out ap, Rp.out ry2, p.go I.mk' ⟨s'.view.trans view_out, fun b hb hn => ?_, s'.dom⟩ n'⟩
      obtain ⟨q1, q2⟩ := s'.out b hb hn
      exact ⟨out_of.mpr ⟨q1, fun z => hn i _ h2 (List.mem_cons_of_mem _ (inG b z))⟩, q2⟩
    · cases ep
  · cases ep
/-- the call of pop, in short -/
def tPopX (X : Cx) (W0 : WX) (i : Nat) : Option Sem → TE
  | none => tBMZ X.K "list" rPop (tVar i) tNil
  | some f => tBMZ X.K "list" rPopAt (tVar i) (tCons (tE X W0 true f []) tNil)
theorem pop_ok {i : Nat} {o : Option Sem} {k : W → SS} (h : tS X W0 (sPop i o k) D σ H) :
    tPopX X W0 i o σ H fun y H2 => ∃ S2 ρ2 fs2 w r, In X.K S2 σ H2 ρ2 fs2 ∧ Rp X.K (hid S2 H2) H2 y w [] ∧ k w ρ2 = some r ∧ PoS X W0 S2 H2 fs2 r D := by
  obtain ⟨S, ρ, fs, r, I, e, p⟩ := h
  unfold sPop at e
  split at e
  · rename_i xs ex
    obtain ⟨a, vs, Fx, h1, h2, h3, h4⟩ := own_get I ex
    have lv := h4.len
    cases o with
    | none =>
      have en : sO none ρ = some (.ok none) := rfl
      rw [en] at e
      simp only at e
      split at e
      · rename_i w ys ep
        obtain ⟨a', vs', y, j, q1, q2, q3, q4, S2, fs2, I2, ry, p2⟩ := pop_core I ex (.refl I.mk') ep e p
        rw [h1] at q1
        cases q1
        rw [h3] at q2
        cases q2
        refine ⟨_, h1, .inl (.inl ⟨rfl, vs, SqL.of h3⟩), ?_⟩
        simp only [popK, Option.some.injEq] at q3
        subst q3
        have ed : vs.eraseIdx (vs.length - 1) = vs.dropLast := by
          apply List.ext_getElem?
          intro q
          rw [List.getElem?_eraseIdx, List.getElem?_dropLast]
          by_cases hq : q < vs.length - 1
          · rw [if_pos hq, if_pos hq]
          · rw [if_neg hq, if_neg hq, List.getElem?_eq_none (by omega)]
        rw [ed] at I2 ry p2
        exact ⟨a, vs, y, rfl, rfl, h3, q4, S2, _, fs2, w, r, I2, ry, e, p2⟩
      · cases e
    | some f =>
      cases ef : f ρ with
      | none =>
        have en : sO (some f) ρ = none := by simp only [sO, ef]
        rw [en] at e; cases e
      | some rf =>
        cases rf with
        | er c =>
          have en : sO (some f) ρ = some (.er c) := by simp only [sO, ef]
          rw [en] at e; cases e
          exact ⟨_, h1, .inl (.inl ⟨rfl, vs, SqL.of h3⟩), S, ρ, fs, _, I, ef, er_go I p⟩
        | ok wf =>
          cases wf with
          | int n =>
            have en : sO (some f) ρ = some (.ok (some n)) := by simp only [sO, ef]
            rw [en] at e
            simp only at e
            refine ⟨_, h1, .inl (.inl ⟨rfl, vs, SqL.of h3⟩), S, ρ, fs, _, I, ef, fun v H1 S1 F1 g1 r1 k1 f1 => ?_⟩
            cases r1
            split at e
            · rename_i w ys ep
              obtain ⟨a', vs', y, j, q1, q2, q3, q4, S2, fs2, I2, ry, p2⟩ := pop_core I ex g1 ep e p
              rw [h1] at q1
              cases q1
              have h31 := g1.ex a _ h3
              rw [h31] at q2
              cases q2
              simp only [popK] at q3
              split at q3
              · rename_i hb
                exact ⟨a, vs, n, j, y, rfl, rfl, h31, hb.1, hb.2, q3, q4, S2, _, fs2, w, r, I2, ry, e, p2⟩
              · cases q3
            · cases e
          | _ =>
            have en : sO (some f) ρ = none := by simp only [sO, ef]
            rw [en] at e; cases e
  · cases e
def kAsg (j : Nat) (w : W) : SS := fun ρ => some (.nx (ρ.set j (some w)))
def kApp (j : Nat) (w : W) : SS := fun ρ => match ρ[j]? with
  | some (some (.olst xs)) => if xs.length < sizeLine then some (.nx (ρ.set j (some (.olst (xs ++ [w]))))) else none
  | _ => none
theorem popX_mono {i : Nat} {o : Option Sem} {Q Q' : VK} (k : ∀ y H, Q y H → Q' y H) : tPopX X W0 i o σ H Q → tPopX X W0 i o σ H Q' := by
  cases o with
  | none => exact fun ⟨v, e1, e2, a, xs, y, e3, e4, e5, e6, e7⟩ => ⟨v, e1, e2, a, xs, y, e3, e4, e5, e6, k _ _ e7⟩
  | some f =>
    refine fun ⟨v, e1, e2, S, ρ, fs, r, I, ef, p⟩ => ⟨v, e1, e2, S, ρ, fs, r, I, ef, ?_⟩
    cases r with
    | er c => exact p
    | ok w =>
      intro v H1 S1 F g r1 k1 f1
      obtain ⟨a, xs, i', k', y, z1, z2, z3, z4, z5, z6, z7, z8⟩ := p v H1 S1 F g r1 k1 f1
      exact ⟨a, xs, i', k', y, z1, z2, z3, z4, z5, z6, z7, k _ _ z8⟩
theorem popD_ok {i : Nat} {o : Option Sem} (h : tS X W0 (sPop i o fun _ => sNext) D σ H) : tDrop (tPopX X W0 i o) D σ H := by
  refine popX_mono (fun y H2 z => ?_) (pop_ok h)
  obtain ⟨S2, ρ2, fs2, w, r, I2, ry, ek, p2⟩ := z
  cases ek
  exact p2 σ H2 S2 fs2 I2 (Grow.step I2.mk' (.refl I2.mk') fs2) (.refl fs2 H2)
theorem popA_ok {i j : Nat} {o : Option Sem} (h : tS X W0 (sPop i o (kAsg j)) D σ H) : tAsg (tPopX X W0 i o) (gName j) D σ H := by
  refine popX_mono (fun y H2 z => ?_) (pop_ok h)
  obtain ⟨S2, ρ2, fs2, w, r, I2, ry, ek, p2⟩ := z
  cases ek
  exact p2 _ H2 S2 _ (I2.set j ry List.nodup_nil (fun a z => nomatch z) fun a z => nomatch z) (Grow.step I2.mk' (.refl I2.mk') fs2) (New.less (less_set fs2 j))
/-- y.append(x.pop(..)) -/
def sPopP (j i : Nat) (o : Option Sem) : SS := fun ρ => match ρ[j]? with
  | some (some (.olst _)) => sPop i o (kApp j) ρ
  | _ => none
theorem popP_ok {i j : Nat} {o : Option Sem} (h : tS X W0 (sPopP j i o) D σ H) : tDrop (tBMZ X.K "list" rAppend (tVar j) (tCons (tPopX X W0 i o) tNil)) D σ H := by
  obtain ⟨S, ρ, fs, r, I, e, p⟩ := h
  unfold sPopP at e
  split at e
  · rename_i zs ez
    obtain ⟨b, us, Fz, h1, h2, h3, h4⟩ := own_get I ez
    refine ⟨_, h1, .inl (.inl ⟨rfl, us, SqL.of h3⟩), ?_⟩
    refine popX_mono (fun y H2 z => ?_) (pop_ok ⟨S, ρ, fs, r, I, e, p⟩)
    obtain ⟨S2, ρ2, fs2, w, r2, I2, ry, ek, p2⟩ := z
    unfold kApp at ek
    split at ek
    · rename_i ys ey
      split at ek
      · rename_i hl
        cases ek
        obtain ⟨b2, us2, Fy, q1, q2, q3, q4⟩ := own_get I2 ey
        rw [h1] at q1
        cases q1
        have nF := I2.nd.one j _ q2
        have naF : b ∉ Fy := (List.nodup_cons.mp nF).1
        obtain ⟨fs', _, I', s', n'⟩ := mut_core (ms := []) (F1 := []) (o := .lst (us2 ++ [y])) I2 h1 q2 List.mem_cons_self (.refl I2.mk') Fp.nil (fun z => nomatch z) True.intro (w1 := .olst (ys ++ [w])) (Fn := b :: Fy)
          (.olst upd_same (by
            have := (q4.app ry).mono (Ex.refl _) (H' := upd H2 b (.lst (us2 ++ [y]))) _ fun c hc => upd_ne fun z => by
              subst z
              rw [List.append_nil] at hc
              exact naF hc
            rw [List.append_nil] at this
            exact this)) nF (fun c hc => .inl hc) (fun c z => nomatch z)
        exact ⟨b, us2, y, rfl, rfl, q3, by rw [q4.len]; exact hl, p2 σ _ _ fs' I' s' n'⟩
      · cases ek
    · cases ek
  · cases e
/-! ### never reached -/
def sBot : SS := fun _ => none
theorem bot_ok {st : Stmt} : PS X st (tS X W0 sBot) := ⟨fun _ _ _ _ _ _ h => by obtain ⟨_, _, _, _, _, e, _⟩ := h; cases e⟩
end
end Z

set_option Elab.async false
set_option linter.all false
set_option maxRecDepth 100000
set_option maxHeartbeats 8000000
set_option autoImplicit false
/-! statements read from the text -/
namespace Z
open PySem PySem.Spec PyProof.Rows L2

/-- names that stand where a value is kept -/
def vN : Nat → Expr → List Str
  | 0, _ => []
  | n + 1, e => match e with
    | .Name x _ => [x]
    | .Tuple es _ _ => (es.map (vN n)).flatten
    | .List es _ => (es.map (vN n)).flatten
    | .IfExp _ a b _ => vN n a ++ vN n b
    | .Call (.Name f _) as [] _ => if f = "enumerate" ∨ f = "zip" then (as.map (vN n)).flatten else []
    | _ => []
def Ctx.fr (c : Ctx) (e : Expr) : List Nat := ((vN 5 e).filterMap c.slot).filter fun i => c.own.contains i
def isTup (e : Expr) : Bool := isTupE e
def isComp : Expr → Bool
  | .ListComp _ _ _ _ => true
  | .SetComp _ _ _ _ => true
  | .DictComp _ _ _ _ _ => true
  | _ => false
def swB (sc scope : Scope) (t : Str) (p1 p2 : Nat) : Bool := ((if sc.kind.isAnnotationScope then ScopeKind.function else sc.kind) == .function) && (sc.names.lookup t == some .local) && (p1 == p2) && !(scope.names.any fun (n, k) => n == t && (k == .local || k == .cell))
def cTst (e : Expr) (a : CE) : Sem := if isBO e = true then a.b else sTr a.b
def whFuel : Nat := 1000000000000
def aT (f : Sem → List Nat → SS) (a : CE) : Option SS := if a.ms.Nodup then some (f a.f a.ms) else none
/-- x.pop(..) of an own list -/
def popC (n : Nat) (c : Ctx) (e : Expr) : Option (Nat × Option Sem) := match e with
  | .Call (.Attribute (.Name x _) m apos) as [] cpos => if m = "pop" ∧ noStar as = true ∧ (apos.endLine == cpos.line) = true then match c.slot x with
      | some i => if c.own.contains i = true then match as with
          | [] => some (i, none)
          | [a] => match cE n c a with
            | some ca => some (i, some ca.b)
            | none => none
          | _ => none
        else none
      | none => none
    else none
  | _ => none
def cS : Nat → Ctx → List Stmt → Option SS
  | 0, _, _ => none
  | n + 1, c, sts => match sts with
    | [] => some sNext
    | [st] => c1 n c st
    | st :: rest => match c1 n c st, cS n c rest with
      | some f, some g => some (sSeq f g)
      | _, _ => none
where
  c1 : Nat → Ctx → Stmt → Option SS
    | 0, _, _ => none
    | n + 1, c, st => match st with
      | .Pass _ => some sNext
      | .Raise _ _ _ => some sBot
      | .Break _ => some sBrk
      | .Continue _ => some sCnt
      | .Return none _ => some sRetN
      | .Return (some (.Name x _)) _ => match c.slot x with
        | some i => some (sRet (sVarB i))
        | none => none
      | .Return (some e) _ => match cE n c e with
        | some a => if a.ms.Nodup then some (sFrz (c.fr e) (sRet a.f)) else none
        | none => none
      | .If t a b _ => if isIfE t = false then match cE n c t, cS n c a, cS n c b with
          | some ct, some a, some b => some (sIfS (cTst t ct) a b)
          | _, _, _ => none
        else none
      | .For tg e body [] _ => if isSet e = false then match cE.cI n c tg e, cT 8 c tg, cS n c body with
          | some ci, some (g, _), some b => some (sFrz (c.fr e) (sFor ci.fF g b))
          | _, _, _ => none
        else none
      | .While t body [] _ => if isIfE t = false then match cE n c t, cS n c body with
          | some ct, some b => some (sWh whFuel (cTst t ct) b)
          | _, _ => none
        else none
      | .AugAssign (.Name x _) .Add e _ => match c.loc x, cE n c e with
        | some i, some a => some (sAug i gAug a.b)
        | _, _ => none
      | .Assign [.Name y py] e pos => match popC n c e with
        | some (i, o) => match c.loc y with
          | some j => some (sPop i o (kAsg j))
          | none => none
        | none => match c.loc y, cE n c e with
        | some i, some a => if a.ms.Nodup then (match e with
            | .ListComp _ _ scope vp => if swB c.sc scope y py.line vp.line = true then (if c.sc.names.lookup y = some .local then some (sFrz (c.fr e) (sAsg (c.own.contains i) i a.f a.ms)) else none) else some (sFrz (c.fr e) (sAsg (c.own.contains i) i a.f a.ms))
            | e => if isComp e = false then some (sFrz (c.fr e) (sAsg (c.own.contains i) i a.f a.ms)) else none) else none
        | _, _ => none
      | .Assign [.Tuple es k tp] e pos => if isTup e = false then match cT 8 c (.Tuple es k tp), cE n c e with
          | some (t, _), some a => some (sFrz (c.fr e) (sAsgT t a.f a.ms))
          | _, _ => none
        else none
      | .Expr (.Constant (.str _) _ _) _ => some sNext
      | .Expr (.Call (.Attribute (.Name x xp) m apos) as [] cpos) _ => if m = "append" ∧ noStar as = true ∧ (apos.endLine == cpos.line) = true then (match as with
          | [e] => match popC n c e with
           | some (i, o) => match c.slot x with
            | some j => some (sPopP j i o)
            | none => none
           | none => match c.slot x, cE n c e with
            | some i, some a => if a.ms.Nodup ∧ i ∉ a.ms then some (sFrz (c.fr e) (sApp i a.f a.ms)) else none
            | _, _ => none
          | _ => none)
        else if m = "pop" then (match popC n c (.Call (.Attribute (.Name x xp) m apos) as [] cpos) with
          | some (i, o) => some (sPop i o fun _ => sNext)
          | none => none)
        else if m = "clear" ∧ as = [] ∧ (apos.endLine == cpos.line) = true then (match c.slot x with
          | some i => some (sClr i)
          | none => none)
        else none
      | .Expr (.Call (.Name f p) as [] cpos) _ => match cE n c (.Call (.Name f p) as [] cpos) with
        | some a => some (sDrop a.b)
        | none => none
      | _ => none

structure GoodS (X : Cx) (W0 : WX) (c : Ctx) : Prop where
  g : Good X W0 c
  po : PassesOwn (model X.prog X.w) X.A X.env X.xe
def SIH (n : Nat) : Prop := ∀ (c : Ctx) (X : Cx) (W0 : WX) (sts : List Stmt) (f : SS), GoodS X W0 c → cS n c sts = some f → PSs X sts (tS X W0 f)
def TIH (n : Nat) : Prop := ∀ (c : Ctx) (X : Cx) (W0 : WX) (st : Stmt) (f : SS), GoodS X W0 c → cS.c1 n c st = some f → PS X st (tS X W0 f)
section
variable {X : Cx} {W0 : WX} {c : Ctx}
theorem ps_frz {st : Stmt} {is : List Nat} {f : SS} (h : PS X st (tS X W0 f)) : PS X st (tS X W0 (sFrz is f)) := PS.weak h fun D σ H q => frz_ok q
theorem noSw {e : Expr} {t : Option Expr} {l : Nat} {env : Env} (h : isComp e = false) : swapsWith e t l env = pure false := by
  cases e <;> first | rfl | (simp [isComp] at h)
theorem noSwT {e : Expr} {es : List Expr} {k : Nat} {tp : Pos} {l : Nat} {env : Env} : swapsWithSole [.Tuple es k tp] e l env = pure false := by
  cases e <;> rfl
theorem noStT {e : Expr} {es : List Expr} {k : Nat} {tp : Pos} {env : Env} (h : isTup e = false) : swappedStores [.Tuple es k tp] e env = pure none := by
  cases e <;> first | rfl | (simp [isTup, isTupE] at h)
theorem swB_ok {elt : Expr} {gs : List Comprehension} {scope : Scope} {vp : Pos} {y : Str} {py : Pos} {l : Nat} {env : Env} : swapsWith (.ListComp elt gs scope vp) (some (.Name y py)) l env = pure (swB env.scope scope y py.line vp.line) := rfl
theorem pe_app {i : Nat} {x m : Str} {p apos cpos : Pos} {e : Expr} {a : CE} (G : Good X W0 c) (hx : c.slot x = some i) (hm : m = "append") (hs : noStar [e] = true) (hp : (apos.endLine == cpos.line) = true) (he : PE X e (tE X W0 false a.f a.ms)) :
    PE X (.Call (.Attribute (.Name x p) m apos) [e] [] cpos) (tBMZ X.K "list" rAppend (tVar i) (tCons (tE X W0 false a.f a.ms) tNil)) := by
  subst hm
  obtain ⟨h1, h2, h3, h4⟩ := G.slot hx
  obtain ⟨s1, s2⟩ := noStar_cons hs
  exact pe_mZ PySem.F.plainAttrs_list PySem.F.slot_list_append PySem.F.type_list_append mt_append (pe_var (pos := p) h1 h2 h3 h4) (pa_cons he pa_nil (star_ne s1)) (base_ok rfl) (few_ok hs (by simp)) hp (star_ne s1) (stars_any s2)
theorem pe_pop {n : Nat} {e : Expr} {i : Nat} {o : Option Sem} (G : Good X W0 c) (h : popC n c e = some (i, o)) : PE X e (tPopX X W0 i o) ∧ isComp e = false := by
  unfold popC at h
  split at h
  · split at h
    · rename_i hm
      obtain ⟨rfl, hs, hp⟩ := hm
      split at h
      · rename_i i' hi
        obtain ⟨h1, h2, h3, h4⟩ := G.slot hi
        split at h
        · split at h
          · cases h
            exact ⟨pe_mZ0 PySem.F.plainAttrs_list PySem.F.slot_list_pop PySem.F.type_list_pop mt_pop (pe_var h1 h2 h3 h4) (base_ok rfl) hp, rfl⟩
          · split at h
            · rename_i ca ea
              cases h
              obtain ⟨s1, s2⟩ := noStar_cons hs
              exact ⟨pe_mZ PySem.F.plainAttrs_list PySem.F.slot_list_pop PySem.F.type_list_pop mt_popAt (pe_var h1 h2 h3 h4) (pa_cons ((soundE n).1 c X W0 _ ca G ea).se.b pa_nil (star_ne s1)) (base_ok rfl) (few_ok hs (by simp)) hp (star_ne s1) (stars_any s2), rfl⟩
            · cases h
          · cases h
        · cases h
      · cases h
    · cases h
  · cases h
theorem pe_appG {i : Nat} {x m : Str} {p apos cpos : Pos} {e : Expr} {t : TE} (G : Good X W0 c) (hx : c.slot x = some i) (hm : m = "append") (hs : noStar [e] = true) (hp : (apos.endLine == cpos.line) = true) (he : PE X e t) :
    PE X (.Call (.Attribute (.Name x p) m apos) [e] [] cpos) (tBMZ X.K "list" rAppend (tVar i) (tCons t tNil)) := by
  subst hm
  obtain ⟨h1, h2, h3, h4⟩ := G.slot hx
  obtain ⟨s1, s2⟩ := noStar_cons hs
  exact pe_mZ PySem.F.plainAttrs_list PySem.F.slot_list_append PySem.F.type_list_append mt_append (pe_var (pos := p) h1 h2 h3 h4) (pa_cons he pa_nil (star_ne s1)) (base_ok rfl) (few_ok hs (by simp)) hp (star_ne s1) (stars_any s2)
theorem pe_clr {i : Nat} {x m : Str} {p apos cpos : Pos} (G : Good X W0 c) (hx : c.slot x = some i) (hm : m = "clear") (hp : (apos.endLine == cpos.line) = true) :
    PE X (.Call (.Attribute (.Name x p) m apos) [] [] cpos) (tBMZ X.K "list" rClear (tVar i) tNil) := by
  subst hm
  obtain ⟨h1, h2, h3, h4⟩ := G.slot hx
  exact pe_mZ0 PySem.F.plainAttrs_list PySem.F.slot_list_clear PySem.F.type_list_clear mt_clear (pe_var (pos := p) h1 h2 h3 h4) (base_ok rfl) hp
end
end Z

set_option Elab.async false
set_option linter.all false
set_option maxRecDepth 100000
set_option maxHeartbeats 8000000
set_option autoImplicit false
/-! statements read from the text: sound -/
namespace Z
open PySem PySem.Spec PyProof.Rows L2
section
variable {X : Cx} {W0 : WX} {c : Ctx}
theorem test_ok {e : Expr} {a : CE} (h : SX X W0 e a) (hif : isIfE e = false) : PT X e (tT X W0 (cTst e a)) := by
  unfold cTst
  split
  · exact (h.st hif).b
  · rename_i hb; exact h.tr hif (by simpa using hb)
theorem sole_eq {y : Str} {py : Pos} {e : Expr} {l : Nat} {env : Env} : swapsWithSole [.Name y py] e l env = swapsWith e (some (.Name y py)) l env := rfl
theorem lc_ps (G : Good X W0 c) {n : Nat} {elt : Expr} {gs : List Comprehension} {scope : Scope} {vp : Pos} {a : CE} (h : cE n c (.ListComp elt gs scope vp) = some a) {i : Nat} {y : Str} {py pos : Pos} {own : Bool} (hi : X.N[i]? = some y) (hl : X.env.scope.names.lookup y = some .local)
    (hsw : swapsWith (.ListComp elt gs scope vp) (some (.Name y py)) pos.line X.env = pure true) (hms : a.ms.Nodup) : PS X (.Assign [.Name y py] (.ListComp elt gs scope vp) pos) (tS X W0 (sAsg own i a.f a.ms)) := by
  cases n with
  | zero => simp [cE] at h
  | succ n =>
  have ih := (soundE n).1
  have ii := (soundE n).2
  unfold cE at h
  split at h <;> first | (rename_i heq; cases heq; done) | skip
  all_goals first | (cases h; done) | skip
  rename_i elt' tg iter ifs scope' pos' heq
  cases heq
  split at h
  · rename_i hb
    split at h
    · rename_i ci g js ce ei eg ee
      split at h
      · rename_i hj
        have hjs : ∀ j ∈ js, j ∈ (ownOf c.N scope).map (·.2) := fun j hjm => by
          have := List.all_eq_true.mp hj.1 j hjm
          simpa using this
        have ok : BlkOk X.N X.env.scope scope (ownOf c.N scope) := by
          rw [G.N, G.sc]
          exact blkOk_by hb.1
        obtain ⟨pi, _⟩ := ii c X W0 tg iter ci G ei
        have hg : ∀ (s : Shared) (H : Hp) (C : Addr) (cl : List (Str × Addr)) (fp : List Addr), PG (X.blk s H scope (compEnvC scope cl C X.env) fp) tg (tG X g js) := fun s H C cl fp => (cT_ok (G.blk s H scope C cl fp) 8).1 tg g js eg
        have he : ∀ (s : Shared) (H : Hp) (C : Addr) (cl : List (Str × Addr)) (fp : List Addr), PE (X.blk s H scope (compEnvC scope cl C X.env) fp) elt (tE X W0F false ce.f []) := fun s H C cl fp => by
          have q := (ih (c.blk scope) _ W0F elt ce (G.blk s H scope C cl fp) ee).se.f
          rw [hj.2] at q
          exact q
        split at h
        · cases h
          exact PS.weak (ps_setLc G.calm G.nd hi hl hsw pi ok hg (fun s H C cl fp => pts_nil) he (folded_ok hb.2)) fun D σ H q => lc_ok hjs (asg_ok hms q)
        · rename_i t
          split at h
          · rename_i hif
            split at h
            · rename_i ct et
              split at h
              · cases h
                have ht : ∀ (s : Shared) (H : Hp) (C : Addr) (cl : List (Str × Addr)) (fp : List Addr), PTs (X.blk s H scope (compEnvC scope cl C X.env) fp) [t] (tTo X W0F (some ct.b)) := fun s H C cl fp =>
                  pts_one ((ih (c.blk scope) _ W0F t ct (G.blk s H scope C cl fp) et).st hif).b
                exact PS.weak (ps_setLc G.calm G.nd hi hl hsw pi ok hg ht he (folded_ok hb.2)) fun D σ H q => lc_ok hjs (asg_ok hms q)
              · rename_i hbo
                cases h
                have ht : ∀ (s : Shared) (H : Hp) (C : Addr) (cl : List (Str × Addr)) (fp : List Addr), PTs (X.blk s H scope (compEnvC scope cl C X.env) fp) [t] (tTo X W0F (some (sTr ct.b))) := fun s H C cl fp =>
                  pts_one ((ih (c.blk scope) _ W0F t ct (G.blk s H scope C cl fp) et).tr hif (by simpa using hbo))
                exact PS.weak (ps_setLc G.calm G.nd hi hl hsw pi ok hg ht he (folded_ok hb.2)) fun D σ H q => lc_ok hjs (asg_ok hms q)
            · cases h
          · cases h
        · cases h
      · cases h
    · cases h
  · cases h
theorem sound1 {n : Nat} (is : SIH n) : TIH (n + 1) := by
  intro c X W0 st f G h
  have eh := (soundE n).1
  have ei := (soundE n).2
  unfold cS.c1 at h
  split at h
  · cases h; exact PS.weak ps_pass fun D σ H q => next_ok q
  · cases h; exact bot_ok
  · cases h; exact PS.weak ps_break fun D σ H q => brk_ok q
  · cases h; exact PS.weak ps_continue fun D σ H q => cnt_ok q
  · cases h; exact PS.weak ps_retN fun D σ H q => retN_ok q
  · split at h
    · rename_i i hi
      cases h
      obtain ⟨h1, h2, h3, h4⟩ := G.g.slot hi
      exact PS.weak (ps_ret (pe_var h1 h2 h3 h4)) fun D σ H q => varM_ok (ret_ok (ms := [i]) (by simp) q)
    · cases h
  · split at h
    · rename_i a ea
      split at h
      · rename_i hm
        cases h
        exact ps_frz (PS.weak (ps_ret (eh c X W0 _ a G.g ea).se.f) fun D σ H q => ret_ok hm q)
      · cases h
    · cases h
  · split at h
    · rename_i hif
      split at h
      · rename_i t a b et ea eb
        cases h
        exact PS.weak (ps_if (test_ok (eh c X W0 _ t G.g et) hif) (is c X W0 _ a G ea) (is c X W0 _ b G eb)) fun D σ H q => ifS_ok q
      · cases h
    · cases h
  · split at h
    · rename_i hs
      split at h
      · rename_i ci g js b e1 e2 e3
        cases h
        exact ps_frz (PS.weak (ps_for G.po G.g.calm (ei c X W0 _ _ ci G.g e1).2 ((cT_ok G.g 8).1 _ g js e2) (is c X W0 _ b G e3) (folded_ok hs)) fun D σ H q => for_ok q)
      · cases h
    · cases h
  · split at h
    · rename_i hif
      split at h
      · rename_i t b et eb
        cases h
        exact PS.weak (ps_while G.po (test_ok (eh c X W0 _ t G.g et) hif) (is c X W0 _ b G eb)) fun D σ H q => wh_ok q
      · cases h
    · cases h
  · split at h
    · rename_i i a hi ea
      cases h
      obtain ⟨h1, h2, h3⟩ := G.g.loc hi
      exact PS.weak (ps_aug G.g.nd h1 h2 (eh c X W0 _ a G.g ea).se.b pip_aug h3) fun D σ H q => aug_ok q
    · cases h
  · split at h
    · rename_i i o ep
      split at h
      · rename_i j hj
        cases h
        obtain ⟨h1, h2, h3⟩ := G.g.loc hj
        obtain ⟨pp, hc⟩ := pe_pop G.g ep
        exact PS.weak (ps_asg pp (pg_name G.g.nd h1 h2 h3) (by rw [sole_eq]; exact noSw hc) rfl) fun D σ H q => popA_ok q
      · cases h
    split at h
    · rename_i i a hi ea
      obtain ⟨h1, h2, h3⟩ := G.g.loc hi
      split at h
      · rename_i hms
        split at h
        · split at h
          · rename_i hsw
            split at h
            · rename_i hl
              cases h
              exact ps_frz (lc_ps G.g ea h1 (by rw [G.g.sc]; exact hl) (by rw [swB_ok, G.g.sc, hsw]) hms)
            · cases h
          · rename_i hsw
            cases h
            exact ps_frz (PS.weak (ps_asg (eh c X W0 _ a G.g ea).se.f (pg_name G.g.nd h1 h2 h3) (by rw [sole_eq, swB_ok, G.g.sc]; simp only [Bool.not_eq_true] at hsw; rw [hsw]) rfl) fun D σ H q => asg_ok hms q)
        · split at h
          · rename_i hc
            cases h
            exact ps_frz (PS.weak (ps_asg (eh c X W0 _ a G.g ea).se.f (pg_name G.g.nd h1 h2 h3) (by rw [sole_eq]; exact noSw hc) rfl) fun D σ H q => asg_ok hms q)
          · cases h
      · cases h
    · cases h
  · split at h
    · rename_i ht
      split at h
      · rename_i t js a e1 e2
        cases h
        exact ps_frz (PS.weak (ps_asg (eh c X W0 _ a G.g e2).se.f ((cT_ok G.g 8).1 _ t js e1) noSwT (noStT ht)) fun D σ H q => asgT_ok q)
      · cases h
    · cases h
  · cases h; exact PS.weak ps_doc fun D σ H q => next_ok q
  · split at h
    · rename_i hm
      split at h
      · split at h
        · rename_i i o ep
          split at h
          · rename_i j hj
            cases h
            obtain ⟨pp, hc⟩ := pe_pop G.g ep
            exact PS.weak (ps_expr (pe_appG G.g hj hm.1 hm.2.1 hm.2.2 pp) rfl) fun D σ H q => popP_ok q
          · cases h
        split at h
        · rename_i i a hi ea
          split at h
          · rename_i hms
            cases h
            exact ps_frz (PS.weak (ps_expr (pe_app G.g hi hm.1 hm.2.1 hm.2.2 (eh c X W0 _ a G.g ea).se.f) rfl) fun D σ H q => app_ok2 hms.1 hms.2 q)
          · cases h
        · cases h
      · cases h
    · split at h
      · split at h
        · rename_i i o ep
          cases h
          obtain ⟨pp, hc⟩ := pe_pop G.g ep
          exact PS.weak (ps_expr pp rfl) fun D σ H q => popD_ok q
        · cases h
      split at h
      · rename_i hm
        split at h
        · rename_i i hi
          cases h
          obtain ⟨m1, rfl, m3⟩ := hm
          exact PS.weak (ps_expr (pe_clr G.g hi m1 m3) rfl) fun D σ H q => clr_ok q
        · cases h
      · cases h
  · split at h
    · rename_i a ea
      cases h
      exact PS.weak (ps_expr (eh c X W0 _ a G.g ea).se.b rfl) fun D σ H q => drop_ok q
    · cases h
  · cases h
theorem soundS : ∀ n : Nat, SIH n ∧ TIH n
  | 0 => ⟨fun c X W0 e a G h => by simp [cS] at h, fun c X W0 e a G h => by simp [cS.c1] at h⟩
  | n + 1 => by
    obtain ⟨is, it⟩ := soundS n
    refine ⟨fun c X W0 sts f G h => ?_, sound1 is⟩
    unfold cS at h
    split at h
    · cases h; exact PSs.weak pss_nil fun D σ H q => next_ok q
    · exact pss_one (it c X W0 _ f G h)
    · split at h
      · rename_i a b e1 e2
        cases h
        exact PSs.weak (pss_cons (it c X W0 _ a G e1) (is c X W0 _ b G e2)) fun D σ H q => seq_ok q
      · cases h
end
end Z

set_option Elab.async false
set_option linter.all false
set_option maxRecDepth 100000
set_option maxHeartbeats 8000000
set_option autoImplicit false
/-! defs and their table -/
namespace Z
open PySem PySem.Spec PyProof.Rows L2

def startR (nl : Nat) (ws : List W) : Rho := ws.map some ++ List.replicate (nl - ws.length) none
def runF (nl : Nat) (f : SS) : Fn := fun ws => match f (startR nl ws) with
  | some (.nx _) => some (.ok .non)
  | some (.rt w) => some (.ok w)
  | some (.er c _) => some (.er c)
  | _ => none
structure En where
  fns : List (Str × Nat × Fn)
  gcs : List (Str × W)
  bls : List Str
def mkC (e : En) (N : List Str) (sc : Scope) (own : List Nat) (mv : Nat → Nat → Bool) : Ctx where
  N := N
  sc := sc
  fnk := fun _ => true
  fns := fun x => e.fns.lookup x
  gc := fun x => e.gcs.lookup x
  bl := fun x => e.bls.contains x
  own := own
  mv := mv
section
variable {P : Program} {w : World} {K : PySem.W.Frag} {mg : Str → Option Value} {base : Heap}
structure Tab (P : Program) (w : World) (K : PySem.W.Frag) (mg : Str → Option Value) (base : Heap) (k : Nat) (e : En) : Prop where
  fns : ∀ x n φ, e.fns.lookup x = some (n, φ) → ∃ j f fd ps, j ≤ k ∧ FnOk P w K mg base (L2.CX P w) j f fd ps (spD K mg n φ) ∧ mg x = some (.ref f) ∧ PySem.W.keepIn K (.ref f) = true ∧ Binds K fd ps []
  gc : ∀ x u, e.gcs.lookup x = some u → ∃ y v, mg x = some y ∧ RelV v y ∧ ∀ Hv H, Rp K Hv H v u []
  bl : ∀ x, e.bls.contains x = true → mg x = none
theorem start_in {S : List Addr} {H : Hp} {vs : List V} {ws : List W} {N : List Str} (m : MK S H) (r : RpA K (hid S H) H vs ws []) : In K S (L2.start N vs) H (startR N.length ws) (List.replicate (vs.length + (N.length - vs.length)) []) := by
  refine ⟨?_, ?_, ?_, m⟩
  · unfold L2.start startR
    rw [← r.len]
    have tail : ∀ n : Nat, Slots K (hid S H) H (List.replicate n none) (List.replicate n none) (List.replicate n []) := fun n => by
      induction n with
      | zero => exact .nil
      | succ n ih => exact .non ih
    generalize N.length - vs.length = d
    clear m
    generalize hF : ([] : List Addr) = F at r
    induction ws generalizing vs F with
    | nil =>
      cases r
      simpa using tail d
    | cons x xs ih =>
      cases r with
      | cons a b =>
        obtain ⟨rfl, rfl⟩ := nil_app hF
        have := ih (vs := _) _ rfl b
        simp only [List.map_cons, List.cons_append, List.length_cons]
        rw [Nat.add_right_comm]
        exact .val a this
  · exact ⟨fun i g h => by
      have := List.mem_of_getElem? h
      rw [(List.mem_replicate.mp this).2]; exact List.nodup_nil, fun i j g h a e1 e2 h1 h2 => by
      have := List.mem_of_getElem? e1
      rw [(List.mem_replicate.mp this).2] at h1; exact nomatch h1⟩
  · intro i g a h1 h2
    have := List.mem_of_getElem? h1
    rw [(List.mem_replicate.mp this).2] at h2; exact nomatch h2
theorem step_grow {S S' : List Addr} {H H' : Hp} {n : Nat} (s : Step S H (List.replicate n []) S' H') (m : MK S' H') : Grow S H S' H' := by
  have no : ∀ a ∈ S, a ∈ S' ∧ H' a = H a := fun a h => s.out a h fun i g e z => by
    have := List.mem_of_getElem? e
    rw [(List.mem_replicate.mp this).2] at z; exact nomatch z
  refine ⟨fun a o h => ?_, fun a h => (no a h).1, fun a h => ?_, m⟩
  · by_cases k : a ∈ S
    · rw [(no a k).2]; exact h
    · exact hid_ex a o (s.view a o (by rw [hid_out k]; exact h))
  · by_cases k : a ∈ S
    · exact .inl k
    · right
      cases e : H a with
      | none => rfl
      | some o =>
        have := s.view a o (by rw [hid_out k]; exact e)
        rw [hid_in h] at this
        cases this
theorem nil_rep {n : Nat} {j : Nat} {h : List Addr} {a : Addr} (e : (List.replicate n ([] : List Addr))[j]? = some h) (z : a ∈ h) : False := by
  have := List.mem_of_getElem? e
  rw [(List.mem_replicate.mp this).2] at z; exact nomatch z
theorem def_ok {x qual : Str} {st : Stmt} {f : Addr} {fd : FuncData} {N ps : List Str} {k fuel : Nat} {e : En} {own : List Nat} {mv : Nat → Nat → Bool} {φ : SS} (F : L2.Fun K x qual st f fd) (S : FnScope N ps (defScope st)) (T : Tab P w K mg base k e)
    (hc : cS fuel (mkC e N (defScope st) own mv) (defBody st) = some φ) : FnOk P w K mg base (L2.CX P w) (k + 1) f fd ps (spD K mg ps.length (runF N.length φ)) := by
  refine F.okX S (fun vs H Q E h => h.1) fun cdv A outer s H vs Q E hr h => ⟨tS (cxOf (L2.CX P w) P w K mg base N qual (defScope st) f cdv A outer s H E) (fun cls d _ H => E cls d H) φ, ?_, ?_⟩
  · refine (soundS fuel).1 (mkC e N (defScope st) own mv) _ _ _ φ ⟨?_, passes_of rfl⟩ hc
    exact
      { N := rfl
        sc := rfl
        nd := S.nd
        tk := takes_of rfl rfl rfl rfl
        calm := rfl
        hu := by
          have := hr.un
          show (A.deeper _).units + 65 < cLine
          omega
        fnk := fun _ _ => rfl
        fns := fun x n φ h => by
          obtain ⟨j, f, fd, ps, hj, h1, h2, h3, h4⟩ := T.fns x n φ h
          exact ⟨j, f, fd, ps, hr.mono hj, h1, h2, h3, h4⟩
        gc := fun x u h => by
          obtain ⟨y, v, h1, h2, h3⟩ := T.gc x u h
          exact ⟨y, v, h1, h2, h3⟩
        bl := fun x h => T.bl x h }
  · obtain ⟨hl, S0, ws, r, m, ra, er, an⟩ := h
    have I := start_in (N := N) m ra
    unfold runF at er
    split at er
    · rename_i ρ' e1
      cases er
      refine ⟨S0, _, _, _, I, e1, fun σ' H' S' fs' I' s' n' => ?_⟩
      exact an .non H' S' [] (step_grow s' I'.mk') .non (fun a z => nomatch z) List.nodup_nil
    · rename_i w' e1
      cases er
      refine ⟨S0, _, _, _, I, e1, fun v H' S' F s' m' r' nd k => ?_⟩
      exact an v H' S' F (step_grow s' m') r' (fun a ha => ⟨(k a ha).1, (k a ha).2.elim (fun ⟨j, h, e1, e2⟩ => (nil_rep e1 e2).elim) id⟩) nd
    · rename_i c ρ' e1
      cases er
      refine ⟨S0, _, _, _, I, e1, fun C σ' H' S' fs' hc I' s' n' => ?_⟩
      exact an C H' hc (step_grow s' I'.mk').ex
    · cases er
theorem Tab.add {k : Nat} {e : En} (T : Tab P w K mg base k e) {x : Str} {n : Nat} {φ : Fn} {f : Addr} {fd : FuncData} {ps : List Str} (F : FnOk P w K mg base (L2.CX P w) (k + 1) f fd ps (spD K mg n φ)) (hm : mg x = some (.ref f)) (hk : PySem.W.keepIn K (.ref f) = true) (hb : Binds K fd ps []) :
    Tab P w K mg base (k + 1) { e with fns := (x, n, φ) :: e.fns } where
  fns := fun y n' φ' h => by
    by_cases q : y = x
    · subst q
      simp only [List.lookup, beq_self_eq_true] at h
      cases h
      exact ⟨k + 1, f, fd, ps, Nat.le_refl _, F, hm, hk, hb⟩
    · have q2 : (y == x) = false := by simpa using q
      simp only [List.lookup, q2] at h
      obtain ⟨j, f, fd, ps, hj, h1, h2, h3, h4⟩ := T.fns y n' φ' h
      exact ⟨j, f, fd, ps, Nat.le_succ_of_le hj, h1, h2, h3, h4⟩
  gc := T.gc
  bl := T.bl
/-- the table at the start -/
theorem Tab.start {gcs : List (Str × W)} {bls : List Str} {k : Nat} (g : ∀ p ∈ gcs, ∃ y v, mg p.1 = some y ∧ RelV v y ∧ ∀ Hv H, Rp K Hv H v p.2 []) (b : ∀ x ∈ bls, mg x = none) : Tab P w K mg base k ⟨[], gcs, bls⟩ where
  fns := fun x n φ h => by cases h
  gc := fun x u h => g (x, u) (PySem.mem_of_lookup h)
  bl := fun x h => b x (by simpa using h)
/-- the law's own promise -/
def spLaw (K : PySem.W.Frag) (n : Nat) : Sp := fun vs H Q _ => ∃ (a : Addr) (ns : List Int), vs = [.ref a] ∧ SqL K H a (ns.map V.int) ∧ ns.length ≤ n ∧ (∀ z ∈ ns, Builtin.Int.intBits z ≤ 1048576) ∧ ∀ H', Q (.bl true) H'
theorem law_end {k n : Nat} {fa : Addr} {fd : FuncData} {x : Str} {φ : Fn} (F : FnOk P w K mg base (L2.CX P w) k fa fd [x] (spD K mg 1 φ))
    (h : ∀ ns : List Int, ns.length ≤ n → (∀ z ∈ ns, Builtin.Int.intBits z ≤ 1048576) → φ [.klst (ns.map .int)] = some (.ok (.bl true))) : FnOk P w K mg base (L2.CX P w) k fa fd [x] (spLaw K n) := by
  refine F.imp fun vs H Q E q => ?_
  obtain ⟨a, ns, rfl, hs, hl, hb, q⟩ := q
  have h0 : hid [] H = H := by funext b; exact hid_out (by simp)
  have ri : ∀ l : List Int, RpA K H H (l.map V.int) (l.map W.int) [] := fun l => by
    induction l with
    | nil => exact .nil
    | cons i l ih => exact RpA.cons (F := []) (G := []) (.int i) ih
  refine ⟨rfl, [], [.klst (ns.map .int)], _, (fun a z => nomatch z), RpA.cons (F := []) (G := []) (.klst (by rw [h0]; exact hs) (by rw [h0]; exact ri ns)) .nil, h ns hl hb, fun v H' S' F g r k nd => ?_⟩
  · cases r
    exact q H'
end
end Z

set_option Elab.async false
set_option linter.all false
set_option maxRecDepth 100000
set_option maxHeartbeats 8000000
set_option autoImplicit false
/-! what a reading answers, in plain terms -/
namespace Z
open PySem PySem.Spec PyProof.Rows L2

def wp (o : Option R) (p : W → Prop) (e : Str → Prop) : Prop := match o with
  | some (.ok w) => p w
  | some (.er c) => e c
  | none => False
def wo (o : Option W) (p : W → Prop) : Prop := match o with
  | some w => p w
  | none => False
def wl (o : Option RL) (p : List W → Prop) (e : Str → Prop) : Prop := match o with
  | some (.ok w) => p w
  | some (.er c) => e c
  | none => False
def wol (o : Option (List W)) (p : List W → Prop) : Prop := match o with
  | some w => p w
  | none => False
def wr (o : Option RO) (p : Option Int → Prop) (e : Str → Prop) : Prop := match o with
  | some (.ok w) => p w
  | some (.er c) => e c
  | none => False
def ws (o : Option Out) (Q : Out → Prop) : Prop := match o with
  | some r => Q r
  | none => False
def wv (o : Option (Option W)) (p : W → Prop) : Prop := match o with
  | some (some w) => p w
  | _ => False
@[simp] theorem wv_some {w : W} {p : W → Prop} : wv (some (some w)) p = p w := (rfl)
def wol1 (w : W) (p : List W → Prop) : Prop := match w with
  | .olst xs => p xs
  | _ => False
@[simp] theorem wol1_o {xs : List W} {p : List W → Prop} : wol1 (.olst xs) p = p xs := (rfl)
def nxt (o : Out) (k : Rho → Prop) (Q : Out → Prop) : Prop := match o with
  | .nx ρ => k ρ
  | o => Q o
def tb (a : W) (P Q : Prop) : Prop := match a with
  | .bl true => P
  | .bl false => Q
  | _ => False
theorem wp_is {o : Option R} {v : W} (h : wp o (fun w => w = v) fun _ => False) : o = some (.ok v) := by
  unfold wp at h
  split at h
  · rw [h]
  · exact h.elim
  · exact h.elim
theorem wp_ex {o : Option R} {p : W → Prop} (h : wp o p fun _ => False) : ∃ w, o = some (.ok w) ∧ p w := by
  unfold wp at h
  split at h
  · exact ⟨_, rfl, h⟩
  · exact h.elim
  · exact h.elim
theorem wp_mono {o : Option R} {p q : W → Prop} {e d : Str → Prop} (h : wp o p e) (k : ∀ w, p w → q w) (j : ∀ c, e c → d c) : wp o q d := by
  unfold wp at h ⊢
  split at h
  · exact k _ h
  · exact j _ h
  · exact h.elim
theorem ws_mono {o : Option Out} {p q : Out → Prop} (h : ws o p) (k : ∀ w, p w → q w) : ws o q := by
  unfold ws at h ⊢
  split at h
  · exact k _ h
  · exact h.elim
@[simp] theorem wp_some {w : W} {p : W → Prop} {e : Str → Prop} : wp (some (.ok w)) p e = p w := (rfl)
@[simp] theorem wp_er {c : Str} {p : W → Prop} {e : Str → Prop} : wp (some (.er c)) p e = e c := (rfl)
@[simp] theorem tb_bl {b : Bool} {P Q : Prop} : tb (.bl b) P Q = ((b = true → P) ∧ (b = false → Q)) := by cases b <;> simp [tb]
@[simp] theorem nxt_nx {ρ : Rho} {k : Rho → Prop} {Q : Out → Prop} : nxt (.nx ρ) k Q = k ρ := (rfl)
@[simp] theorem nxt_rt {w : W} {k : Rho → Prop} {Q : Out → Prop} : nxt (.rt w) k Q = Q (.rt w) := (rfl)
@[simp] theorem nxt_bk {ρ : Rho} {k : Rho → Prop} {Q : Out → Prop} : nxt (.bk ρ) k Q = Q (.bk ρ) := (rfl)
@[simp] theorem nxt_ct {ρ : Rho} {k : Rho → Prop} {Q : Out → Prop} : nxt (.ct ρ) k Q = Q (.ct ρ) := (rfl)
@[simp] theorem nxt_er {c : Str} {ρ : Rho} {k : Rho → Prop} {Q : Out → Prop} : nxt (.er c ρ) k Q = Q (.er c ρ) := (rfl)
section
variable {ρ : Rho} {p : W → Prop} {e : Str → Prop} {f g h : Sem} {fs : List Sem} {Q : Out → Prop} {F G : SS} {q : List W → Prop}
@[simp] theorem wp_C {w : W} : wp (sC w ρ) p e = p w := (rfl)
@[simp] theorem wp_Dn : wp (sDn ρ) p e = p (.odic [] []) := (rfl)
@[simp] theorem wp_varB {i : Nat} : wp (sVarB i ρ) p e = wv ρ[i]? p := by
  unfold sVarB wv
  cases ρ[i]? with
  | none => rfl
  | some o => cases o <;> rfl
@[simp] theorem wp_var {i : Nat} : wp (sVar i ρ) p e = wv ρ[i]? fun w => w.isSh = true ∧ p w := by
  unfold sVar wv
  cases ρ[i]? with
  | none => rfl
  | some o => cases o with
    | none => rfl
    | some w => by_cases k : w.isSh = true <;> simp [k, wp]
@[simp] theorem wp_s1 {k : W → Option W} : wp (s1 f k ρ) p e = wp (f ρ) (fun a => wo (k a) p) e := by
  unfold s1
  cases f ρ with
  | none => rfl
  | some r => cases r with
    | er c => rfl
    | ok a => simp only [wp]; cases k a <;> rfl
@[simp] theorem wp_s2 {k : W → W → Option W} : wp (s2 f g k ρ) p e = wp (f ρ) (fun a => wp (g ρ) (fun b => wo (k a b) p) e) e := by
  unfold s2
  cases f ρ with
  | none => rfl
  | some r => cases r with
    | er c => rfl
    | ok a =>
      simp only [wp]
      cases g ρ with
      | none => rfl
      | some r => cases r with
        | er c => rfl
        | ok b => simp only; cases k a b <;> rfl
@[simp] theorem wp_And : wp (sAnd f g ρ) p e = wp (f ρ) (fun a => tb a (wp (g ρ) p e) (p (.bl false))) e := by
  unfold sAnd
  cases f ρ with
  | none => rfl
  | some r => cases r with
    | er c => rfl
    | ok a => cases a <;> first | rfl | (rename_i b; cases b <;> simp [wp, tb])
@[simp] theorem wp_Or : wp (sOr f g ρ) p e = wp (f ρ) (fun a => tb a (p (.bl true)) (wp (g ρ) p e)) e := by
  unfold sOr
  cases f ρ with
  | none => rfl
  | some r => cases r with
    | er c => rfl
    | ok a => cases a <;> first | rfl | (rename_i b; cases b <;> simp [wp, tb])
@[simp] theorem wp_Not : wp (sNot f ρ) p e = wp (f ρ) (fun a => match a with | .bl b => p (.bl (!b)) | _ => False) e := by
  unfold sNot
  cases f ρ with
  | none => rfl
  | some r => cases r with
    | er c => rfl
    | ok a => cases a <;> rfl
@[simp] theorem wp_If : wp (sIf f g h ρ) p e = wp (f ρ) (fun a => tb a (wp (g ρ) p e) (wp (h ρ) p e)) e := by
  unfold sIf
  cases f ρ with
  | none => rfl
  | some r => cases r with
    | er c => rfl
    | ok a => cases a <;> first | rfl | (rename_i b; cases b <;> simp [wp, tb])
@[simp] theorem wl_nil : wl (sAll [] ρ) q e = q [] := (rfl)
@[simp] theorem wl_cons : wl (sAll (f :: fs) ρ) q e = wp (f ρ) (fun w => wl (sAll fs ρ) (fun l => q (w :: l)) e) e := by
  have e0 : sAll (f :: fs) ρ = (match f ρ with | some (.ok w) => (match sAll fs ρ with | some (.ok ws) => some (.ok (w :: ws)) | r => r) | some (.er c) => some (.er c) | none => none) := rfl
  rw [e0]
  cases f ρ with
  | none => rfl
  | some r => cases r with
    | er c => rfl
    | ok a =>
      simp only [wp]
      cases sAll fs ρ with
      | none => rfl
      | some r => cases r <;> rfl
@[simp] theorem wp_Bi {k : List W → Option W} : wp (sBi k fs ρ) p e = wl (sAll fs ρ) (fun l => wo (k l) p) e := by
  unfold sBi
  cases sAll fs ρ with
  | none => rfl
  | some r => cases r with
    | er c => rfl
    | ok a => simp only [wl]; cases k a <;> rfl
@[simp] theorem wp_Call {φ : Fn} : wp (sCall φ fs ρ) p e = wl (sAll fs ρ) (fun l => wp (φ (l.map fz)) (fun w => (l.all W.isSh = true ∨ clo w = true) ∧ p w) e) e := by
  unfold sCall
  cases sAll fs ρ with
  | none => rfl
  | some r => cases r with
    | er c => rfl
    | ok a =>
      simp only [wl]
      cases φ (a.map fz) with
      | none => rfl
      | some r => cases r with
        | er c => rfl
        | ok w =>
          simp only [wp]
          by_cases h1 : a.all W.isSh = true
          · simp [h1]
          · by_cases h2 : clo w = true
            · simp [h1, h2]
            · simp [h1, h2]
@[simp] theorem wp_sh : wp (shOnly f ρ) p e = wp (f ρ) (fun w => w.isSh = true ∧ p w) e := by
  unfold shOnly
  cases f ρ with
  | none => rfl
  | some r => cases r with
    | er c => rfl
    | ok a => simp only [wp]; by_cases h : a.isSh = true <;> simp [h]
@[simp] theorem wp_fzE : wp (sFzE f ρ) p e = wp (f ρ) (fun w => p (fz w)) e := by
  unfold sFzE
  cases f ρ with
  | none => rfl
  | some r => cases r <;> rfl
@[simp] theorem wp_Lst : wp (sLst fs ρ) p e = wl (sAll fs ρ) (fun l => l.length ≤ sizeLine ∧ p (.olst l)) e := by
  unfold sLst
  cases sAll fs ρ with
  | none => rfl
  | some r => cases r with
    | er c => rfl
    | ok a => simp only [wl]; by_cases h : a.length ≤ sizeLine <;> simp [h, wp]
@[simp] theorem wp_Tup : wp (sTup fs ρ) p e = wl (sAll fs ρ) (fun l => l.length ≤ sizeLine ∧ p (mkTup l)) e := by
  unfold sTup
  cases sAll fs ρ with
  | none => rfl
  | some r => cases r with
    | er c => rfl
    | ok a => simp only [wl]; by_cases h : a.length ≤ sizeLine <;> simp [h, wp]
@[simp] theorem wp_M {T : String} {k : W → List W → Option W} : wp (sM T k f fs ρ) p e = wp (f ρ) (fun a => tyW T a = true ∧ wl (sAll fs ρ) (fun l => wo (k a l) p) e) e := by
  unfold sM
  cases f ρ with
  | none => rfl
  | some r => cases r with
    | er c => rfl
    | ok a =>
      simp only [wp]
      by_cases h : tyW T a = true
      · simp only [h, if_true, true_and]
        cases sAll fs ρ with
        | none => rfl
        | some r => cases r with
          | er c => rfl
          | ok l => simp only [wl]; cases k a l <;> rfl
      · simp [h]
@[simp] theorem wr_none : wr (sO none ρ) (fun o => True) e = True := (rfl)
@[simp] theorem wr_n {P : Option Int → Prop} : wr (sO none ρ) P e = P none := (rfl)
@[simp] theorem wr_s {P : Option Int → Prop} : wr (sO (some f) ρ) P e = wp (f ρ) (fun a => match a with | .int i => P (some i) | _ => False) e := by
  have e0 : sO (some f) ρ = (match f ρ with | some (.ok (.int i)) => some (.ok (some i)) | some (.er c) => some (.er c) | _ => none) := rfl
  rw [e0]
  cases f ρ with
  | none => rfl
  | some r => cases r with
    | er c => rfl
    | ok a => cases a <;> rfl
@[simp] theorem wp_Sl {lo hi : Option Sem} : wp (sSl f lo hi ρ) p e = wp (f ρ) (fun a => wr (sO lo ρ) (fun l => wr (sO hi ρ) (fun u => wo (gSl a l u) p) e) e) e := by
  unfold sSl
  cases f ρ with
  | none => rfl
  | some r => cases r with
    | er c => rfl
    | ok a =>
      simp only [wp]
      cases sO lo ρ with
      | none => rfl
      | some r => cases r with
        | er c => rfl
        | ok l =>
          simp only [wr]
          cases sO hi ρ with
          | none => rfl
          | some r => cases r with
            | er c => rfl
            | ok u => simp only; cases gSl a l u <;> rfl
@[simp] theorem wl_items : wl (sItems f ρ) q e = wp (f ρ) (fun w => wol (itemsW w) q) e := by
  unfold sItems
  cases f ρ with
  | none => rfl
  | some r => cases r with
    | er c => rfl
    | ok a => simp only [wp]; cases itemsW a <;> rfl
@[simp] theorem wl_itemsA {k : List W → Option (List W)} : wl (sItemsA k fs ρ) q e = wl (sAll fs ρ) (fun l => wol (k l) q) e := by
  unfold sItemsA
  cases sAll fs ρ with
  | none => rfl
  | some r => cases r with
    | er c => rfl
    | ok a => simp only [wl]; cases k a <;> rfl
@[simp] theorem wp_Lc {vs : List Nat} {fi : Rho → Option RL} {t : Tg} {ft : Option Sem} : wp (sLc vs fi t ft f ρ) p e = wl (fi ρ) (fun l => l.length < sizeLine ∧ wol (lcLoop t ft f (wipeR ρ vs) l) (fun us => p (.olst us))) e := by
  unfold sLc
  cases fi ρ with
  | none => rfl
  | some r => cases r with
    | er c => rfl
    | ok a =>
      simp only [wl]
      by_cases h : a.length < sizeLine
      · simp only [h, if_true, true_and]; cases lcLoop t ft f (wipeR ρ vs) a <;> rfl
      · simp [h, wp]
/-! statements -/
@[simp] theorem ws_Next : ws (sNext ρ) Q = Q (.nx ρ) := (rfl)
@[simp] theorem ws_Brk : ws (sBrk ρ) Q = Q (.bk ρ) := (rfl)
@[simp] theorem ws_Cnt : ws (sCnt ρ) Q = Q (.ct ρ) := (rfl)
@[simp] theorem ws_RetN : ws (sRetN ρ) Q = Q (.rt .non) := (rfl)
@[simp] theorem ws_Frz0 : ws (sFrz [] F ρ) Q = ws (F ρ) Q := (rfl)
@[simp] theorem ws_FrzS {i : Nat} {l : List Nat} : ws (sFrz (i :: l) F ρ) Q = ws (sFrz l F (frzR ρ i)) Q := (rfl)
@[simp] theorem ws_Seq : ws (sSeq F G ρ) Q = ws (F ρ) (fun o => nxt o (fun ρ' => ws (G ρ') Q) Q) := by
  unfold sSeq
  cases F ρ with
  | none => rfl
  | some r => cases r <;> rfl
@[simp] theorem ws_If : ws (sIfS f F G ρ) Q = wp (f ρ) (fun a => tb a (ws (F ρ) Q) (ws (G ρ) Q)) (fun c => Q (.er c ρ)) := by
  unfold sIfS
  cases f ρ with
  | none => rfl
  | some r => cases r with
    | er c => rfl
    | ok a => cases a <;> first | rfl | (rename_i b; cases b <;> simp [wp, tb])
@[simp] theorem ws_Asg {o : Bool} {i : Nat} {ms : List Nat} : ws (sAsg o i f ms ρ) Q = wp (f ρ) (fun w => Q (.nx ((killR ρ ms).set i (some (if o = true then w else fz w))))) (fun c => Q (.er c ρ)) := by
  unfold sAsg
  cases f ρ with
  | none => rfl
  | some r => cases r <;> rfl
@[simp] theorem ws_AsgT {t : Tg} {ms : List Nat} : ws (sAsgT t f ms ρ) Q = wp (f ρ) (fun w => match t (fz w) (killR ρ ms) with | some ρ' => Q (.nx ρ') | none => False) (fun c => Q (.er c ρ)) := by
  unfold sAsgT
  cases f ρ with
  | none => rfl
  | some r => cases r with
    | er c => rfl
    | ok w => simp only [wp]; cases t (fz w) (killR ρ ms) <;> rfl
@[simp] theorem ws_Ret : ws (sRet f ρ) Q = wp (f ρ) (fun w => Q (.rt w)) (fun c => Q (.er c ρ)) := by
  unfold sRet
  cases f ρ with
  | none => rfl
  | some r => cases r <;> rfl
@[simp] theorem ws_Drop : ws (sDrop f ρ) Q = wp (f ρ) (fun w => Q (.nx ρ)) (fun c => Q (.er c ρ)) := by
  unfold sDrop
  cases f ρ with
  | none => rfl
  | some r => cases r <;> rfl
@[simp] theorem ws_For {fi : Rho → Option RL} {t : Tg} : ws (sFor fi t F ρ) Q = wl (fi ρ) (fun l => ws (forLoop t F l ρ) Q) (fun c => Q (.er c ρ)) := by
  unfold sFor
  cases fi ρ with
  | none => rfl
  | some r => cases r <;> rfl
@[simp] theorem ws_App {i : Nat} {ms : List Nat} : ws (sApp i f ms ρ) Q = wv ρ[i]? fun w => wol1 w fun xs => wp (f ρ) (fun w => xs.length < sizeLine ∧ Q (.nx ((killR ρ ms).set i (some (.olst (xs ++ [w])))))) (fun c => Q (.er c ρ)) := by
  unfold sApp wv
  cases ρ[i]? with
  | none => rfl
  | some o => cases o with
    | none => rfl
    | some w => cases w <;> first | rfl | skip
                rename_i xs
                simp only [wol1]
                cases f ρ with
                | none => rfl
                | some r => cases r with
                  | er c => rfl
                  | ok w => simp only [wp]; by_cases k : xs.length < sizeLine <;> simp [k, ws]
@[simp] theorem ws_Clr {i : Nat} : ws (sClr i ρ) Q = wv ρ[i]? fun w => wol1 w fun xs => Q (.nx (ρ.set i (some (.olst [])))) := by
  unfold sClr wv
  cases ρ[i]? with
  | none => rfl
  | some o => cases o with
    | none => rfl
    | some w => cases w <;> rfl
theorem wp_run {n : Nat} {l : List W} : wp (runF n F l) p e = ws (F (startR n l)) (fun o => match o with | .nx _ => p .non | .rt w => p w | .er c _ => e c | _ => False) := by
  unfold runF
  cases F (startR n l) with
  | none => rfl
  | some r => cases r <;> rfl
/-! loops -/
theorem for_inv {t : Tg} {l : List W} (I : Nat → Rho → Prop) (h0 : I 0 ρ) (step : ∀ i w ρ, l[i]? = some w → I i ρ → ∃ ρ1, t w ρ = some ρ1 ∧ ws (F ρ1) (fun o => match o with | .nx ρ2 => I (i + 1) ρ2 | .ct ρ2 => I (i + 1) ρ2 | .bk ρ2 => Q (.nx ρ2) | o => Q o)) (fin : ∀ ρ, I l.length ρ → Q (.nx ρ)) : ws (forLoop t F l ρ) Q := by
  induction l generalizing ρ I with
  | nil => exact fin ρ h0
  | cons w l ih =>
    obtain ⟨ρ1, e1, h1⟩ := step 0 w ρ rfl h0
    unfold forLoop
    rw [e1]
    simp only
    unfold ws at h1
    split at h1
    · rename_i r er
      rw [er]
      have next : ∀ ρ2, I 1 ρ2 → ws (forLoop t F l ρ2) Q := fun ρ2 h2 => ih (fun i => I (i + 1)) h2 (fun i w ρ hw hi => step (i + 1) w ρ (by simpa using hw) hi) (by simpa using fin)
      cases r with
      | nx ρ2 => exact next ρ2 h1
      | ct ρ2 => exact next ρ2 h1
      | bk ρ2 => exact h1
      | rt w => exact h1
      | er c ρ2 => exact h1
    · exact h1.elim
theorem lc_map {t : Tg} {k : W → W} : ∀ {l : List W}, (∀ w ∈ l, ∃ ρ1, t w ρ = some ρ1 ∧ f ρ1 = some (.ok (k w))) → lcLoop t none f ρ l = some (l.map k)
  | [], _ => rfl
  | w :: l, h => by
    obtain ⟨ρ1, e1, e2⟩ := h w List.mem_cons_self
    unfold lcLoop
    rw [e1]
    simp only [e2]
    rw [lc_map fun w hw => h w (List.mem_cons_of_mem _ hw)]
    rfl
theorem lc_filter {t : Tg} {b : W → Bool} {k : W → W} : ∀ {l : List W}, (∀ w ∈ l, ∃ ρ1, t w ρ = some ρ1 ∧ g ρ1 = some (.ok (.bl (b w))) ∧ (b w = true → f ρ1 = some (.ok (k w)))) → lcLoop t (some g) f ρ l = some ((l.filter b).map k)
  | [], _ => rfl
  | w :: l, h => by
    obtain ⟨ρ1, e1, e2, e3⟩ := h w List.mem_cons_self
    have ih := lc_filter (l := l) fun w hw => h w (List.mem_cons_of_mem _ hw)
    unfold lcLoop
    rw [e1]
    simp only [e2]
    cases hb : b w with
    | true =>
      rw [e3 hb] <;> simp only [ih, List.filter_cons, hb, if_true, List.map_cons]
    | false =>
      simp only [ih, List.filter_cons, hb, Bool.false_eq_true, if_false]
theorem lc_all {t : Tg} {P : W → Prop} : ∀ {l : List W}, (∀ w ∈ l, ∃ ρ1, t w ρ = some ρ1 ∧ wp (f ρ1) P fun _ => False) → ∃ us, lcLoop t none f ρ l = some us ∧ us.length = l.length ∧ ∀ u ∈ us, P u
  | [], _ => ⟨[], rfl, rfl, fun _ z => nomatch z⟩
  | w :: l, h => by
    obtain ⟨ρ1, e1, e2⟩ := h w List.mem_cons_self
    obtain ⟨us, h1, h2, h3⟩ := lc_all (l := l) fun w hw => h w (List.mem_cons_of_mem _ hw)
    obtain ⟨u, e3, hu⟩ := wp_ex e2
    refine ⟨u :: us, ?_, by simp [h2], fun x hx => ?_⟩
    · unfold lcLoop
      rw [e1]
      simp only [e3, h1]
    · rcases List.mem_cons.mp hx with rfl | hx
      · exact hu
      · exact h3 x hx
end
/-! operations -/
section
variable {p : W → Prop} {i j : Int} {x y : Str} {a b : Bool}
@[simp] theorem wo_some {w : W} : wo (some w) p = p w := (rfl)
@[simp] theorem wo_add : wo (gAdd (.int i) (.int j)) p = p (.int (i + j)) := (rfl)
@[simp] theorem wo_sub : wo (gSub (.int i) (.int j)) p = p (.int (i - j)) := (rfl)
@[simp] theorem wo_neg : wo (gNeg (.int i)) p = p (.int (-i)) := (rfl)
@[simp] theorem wo_adds : wo (gAdd (.str x) (.str y)) p = (x.length + y.length ≤ sizeLine ∧ p (.str (x ++ y))) := by
  unfold gAdd; by_cases h : x.length + y.length ≤ sizeLine <;> simp [h, wo]
@[simp] theorem wo_mul : wo (gMul (.int i) (.int j)) p = (mulOk i j ∧ p (.int (i * j))) := by
  unfold gMul; by_cases h : mulOk i j <;> simp [h, wo]
@[simp] theorem wo_muls : wo (gMul (.str x) (.int j)) p = ((j < 1000000 ∧ -1000000 < j ∧ x.length * j.toNat ≤ 1000000) ∧ p (.str (repS x j))) := by
  unfold gMul; by_cases h : j < 1000000 ∧ -1000000 < j ∧ x.length * j.toNat ≤ 1000000 <;> simp [h, wo]
@[simp] theorem wo_div : wo (gDiv (.int i) (.int j)) p = ((0 < j ∧ j.natAbs.log2 < 9000) ∧ p (.int (i / j))) := by
  unfold gDiv; by_cases h : 0 < j ∧ j.natAbs.log2 < 9000 <;> simp [h, wo]
@[simp] theorem wo_mod : wo (gMod (.int i) (.int j)) p = (0 < j ∧ p (.int (i % j))) := by
  unfold gMod; by_cases h : 0 < j <;> simp [h, wo]
@[simp] theorem wo_pow : wo (gPow (.int i) (.int j)) p = ((0 ≤ j ∧ j ≤ 1000000 ∧ i.natAbs < 2 ^ 64) ∧ p (.int (i ^ j.toNat))) := by
  unfold gPow; by_cases h : 0 ≤ j ∧ j ≤ 1000000 ∧ i.natAbs < 2 ^ 64 <;> simp [h, wo]
@[simp] theorem wo_shl : wo (gShl (.int i) (.int j)) p = ((0 ≤ j ∧ j ≤ 1000000 ∧ i.natAbs < 2 ^ 64) ∧ p (.int (i * 2 ^ j.toNat))) := by
  unfold gShl; by_cases h : 0 ≤ j ∧ j ≤ 1000000 ∧ i.natAbs < 2 ^ 64 <;> simp [h, wo]
@[simp] theorem wo_lt : wo (gCmp .Lt (.int i) (.int j)) p = p (.bl (decide (i < j))) := (rfl)
@[simp] theorem wo_le : wo (gCmp .LtE (.int i) (.int j)) p = p (.bl (decide (i ≤ j))) := (rfl)
@[simp] theorem wo_gt : wo (gCmp .Gt (.int i) (.int j)) p = p (.bl (decide (i > j))) := (rfl)
@[simp] theorem wo_ge : wo (gCmp .GtE (.int i) (.int j)) p = p (.bl (decide (i ≥ j))) := (rfl)
@[simp] theorem wo_eq : wo (gCmp .Eq (.int i) (.int j)) p = p (.bl (decide (i = j))) := (rfl)
@[simp] theorem wo_ne : wo (gCmp .NotEq (.int i) (.int j)) p = p (.bl (!decide (i = j))) := (rfl)
@[simp] theorem wo_eqs : wo (gCmp .Eq (.str x) (.str y)) p = p (.bl (decide (x = y))) := (rfl)
@[simp] theorem wo_nes : wo (gCmp .NotEq (.str x) (.str y)) p = p (.bl (!decide (x = y))) := (rfl)
@[simp] theorem wo_eqb : wo (gCmp .Eq (.bl a) (.bl b)) p = p (.bl (decide (a = b))) := (rfl)
@[simp] theorem wo_neb : wo (gCmp .NotEq (.bl a) (.bl b)) p = p (.bl (!decide (a = b))) := (rfl)
@[simp] theorem wo_ins : wo (gCmp .In (.str x) (.str y)) p = p (.bl (inS x y)) := (rfl)
@[simp] theorem wo_nins : wo (gCmp .NotIn (.str x) (.str y)) p = p (.bl (!inS x y)) := (rfl)
@[simp] theorem wo_lens : wo (gLen [.str x]) p = (x.length ≤ sizeLine ∧ p (.int x.length)) := by
  unfold gLen; by_cases h : x.length ≤ sizeLine <;> simp [h, wo]
@[simp] theorem wo_lenk {l : List W} : wo (gLen [.klst l]) p = p (.int l.length) := (rfl)
@[simp] theorem wo_lenl {l : List W} : wo (gLen [.lst l]) p = p (.int l.length) := (rfl)
@[simp] theorem wo_leno {l : List W} : wo (gLen [.olst l]) p = p (.int l.length) := (rfl)
@[simp] theorem wo_lent {l : List W} : wo (gLen [.tup l]) p = p (.int l.length) := (rfl)
@[simp] theorem wo_abs : wo (gAbs [.int i]) p = p (.int (if i < 0 then -i else i)) := (rfl)
@[simp] theorem wo_intb : wo (gInt [.bl a]) p = p (.int (if a then 1 else 0)) := (rfl)
@[simp] theorem wo_inti : wo (gInt [.int i]) p = p (.int i) := (rfl)
@[simp] theorem wo_stri : wo (gStr [.int i]) p = (i.natAbs.log2 < 1920 ∧ p (.str (toString i))) := by
  unfold gStr; by_cases h : i.natAbs.log2 < 1920 <;> simp [h, wo]
end
/-! bounds -/
theorem log2_lt {n k : Nat} (h : n < 2 ^ (k + 1)) : n.log2 ≤ k := by
  by_cases z : n = 0
  · subst z; simp
  · have := (Nat.log2_lt z).mpr h; omega
theorem mulOk_of {i j : Int} {a b : Nat} (h1 : i.natAbs < 2 ^ (a + 1)) (h2 : j.natAbs < 2 ^ (b + 1)) (h : a + b < 134217000) : mulOk i j := by
  have := log2_lt h1
  have := log2_lt h2
  unfold mulOk
  omega
theorem bits_log {i : Int} (h : Builtin.Int.intBits i ≤ 1048576) : i.natAbs.log2 ≤ 1048576 := by
  unfold Builtin.Int.intBits at h
  split at h
  · rename_i z; simp_all
  · omega
end Z
namespace Z
open PySem PySem.Spec PyProof.Rows L2
section
variable {ρ : Rho} {p : W → Prop} {e : Str → Prop} {f g h : Sem} {fs : List Sem} {Q : Out → Prop} {F G : SS} {q : List W → Prop}
def wb (o : Option Bool) (p : Bool → Prop) : Prop := match o with
  | some b => p b
  | none => False
@[simp] theorem wb_some {b : Bool} {p : Bool → Prop} : wb (some b) p = p b := (rfl)
@[simp] theorem wp_Tr : wp (sTr f ρ) p e = wp (f ρ) (fun w => wb (truW w) fun b => p (.bl b)) e := by
  unfold sTr
  cases f ρ with
  | none => rfl
  | some r => cases r with
    | er c => rfl
    | ok a => simp only [wp]; cases truW a <;> rfl
@[simp] theorem truW_bl {b : Bool} : truW (.bl b) = some b := (rfl)
@[simp] theorem truW_olst {l : List W} : truW (.olst l) = some (!l.isEmpty) := (rfl)
@[simp] theorem truW_lst {l : List W} : truW (.lst l) = some (!l.isEmpty) := (rfl)
def wpop (o : Option (W × List W)) (p : W → List W → Prop) : Prop := match o with
  | some (w, l) => p w l
  | none => False
@[simp] theorem ws_Pop {i : Nat} {o : Option Sem} {k : W → SS} : ws (sPop i o k ρ) Q = wv ρ[i]? fun w => wol1 w fun xs => wr (sO o ρ) (fun n => wpop (popW xs n) fun w ys => ws (k w (ρ.set i (some (.olst ys)))) Q) (fun c => Q (.er c ρ)) := by
  unfold sPop wv
  cases ρ[i]? with
  | none => rfl
  | some u => cases u with
    | none => rfl
    | some w => cases w <;> first | rfl | skip
                rename_i xs
                simp only [wol1]
                cases sO o ρ with
                | none => rfl
                | some r => cases r with
                  | er c => rfl
                  | ok n =>
                    simp only [wr]
                    cases popW xs n with
                    | none => rfl
                    | some y => cases y; rfl
@[simp] theorem ws_kAsg {j : Nat} {w : W} : ws (kAsg j w ρ) Q = Q (.nx (ρ.set j (some w))) := (rfl)
@[simp] theorem ws_kApp {j : Nat} {w : W} : ws (kApp j w ρ) Q = wv ρ[j]? fun u => wol1 u fun xs => xs.length < sizeLine ∧ Q (.nx (ρ.set j (some (.olst (xs ++ [w]))))) := by
  unfold kApp wv
  cases ρ[j]? with
  | none => rfl
  | some u => cases u with
    | none => rfl
    | some w => cases w <;> first | rfl | skip
                rename_i xs
                simp only [wol1]
                by_cases k : xs.length < sizeLine <;> simp [k, ws]
@[simp] theorem ws_PopP {j i : Nat} {o : Option Sem} : ws (sPopP j i o ρ) Q = wv ρ[j]? fun u => wol1 u fun _ => ws (sPop i o (kApp j) ρ) Q := by
  unfold sPopP wv
  cases ρ[j]? with
  | none => rfl
  | some u => cases u with
    | none => rfl
    | some w => cases w <;> rfl
@[simp] theorem wo_lr1 {i : Int} {p : W → Prop} : wo (gLR [.int i]) p = ((-(2 ^ 62) ≤ i ∧ i < 2 ^ 62 ∧ i.toNat ≤ 2 ^ 24) ∧ p (.olst (rangeW 0 i.toNat))) := by
  show wo (if -(2 ^ 62) ≤ i ∧ i < 2 ^ 62 ∧ i.toNat ≤ 2 ^ 24 then some (W.olst (rangeW 0 i.toNat)) else none) p = _
  by_cases h : -(2 ^ 62) ≤ i ∧ i < 2 ^ 62 ∧ i.toNat ≤ 2 ^ 24
  · rw [if_pos h]; exact propext ⟨fun q => ⟨h, q⟩, fun q => q.2⟩
  · rw [if_neg h]; exact propext ⟨fun q => q.elim, fun q => h q.1⟩
@[simp] theorem ws_Aug {i : Nat} {k : W → W → Option W} : ws (sAug i k f ρ) Q = wv ρ[i]? fun x => wp (f ρ) (fun y => wo (k x y) fun w => flat w = true ∧ Q (.nx (ρ.set i (some w)))) (fun c => Q (.er c ρ)) := by
  unfold sAug wv
  cases ρ[i]? with
  | none => rfl
  | some u => cases u with
    | none => rfl
    | some x =>
      simp only
      cases f ρ with
      | none => rfl
      | some r => cases r with
        | er c => rfl
        | ok y =>
          simp only [wp]
          cases k x y with
          | none => rfl
          | some w => simp only [wo]; by_cases h : flat w = true <;> simp [h, ws]
end
end Z

set_option Elab.async false
set_option linter.all false
set_option maxRecDepth 100000
set_option maxHeartbeats 8000000
set_option autoImplicit false
/-! plain lemmas -/
namespace Z
open PySem PySem.Spec PyProof.Rows L2

theorem mk64 {i j : Int} (h1 : i.natAbs < 2 ^ 64) (h2 : j.natAbs < 2 ^ 64) : mulOk i j := mulOk_of (a := 63) (b := 63) h1 h2 (by decide)
theorem sh_ok {n : Nat} (h : n ≤ 8900) : 0 < (2 * 2 ^ n : Int) ∧ (2 * 2 ^ n : Int).natAbs.log2 < 9000 := by
  have e : (2 * 2 ^ n : Int) = ((2 ^ (n + 1) : Nat) : Int) := by
    rw [Nat.pow_succ, Nat.mul_comm]
    simp
  rw [e]
  refine ⟨by exact_mod_cast Nat.two_pow_pos _, ?_⟩
  rw [Int.natAbs_natCast, Nat.log2_two_pow]
  omega
theorem atI_ok {α : Type} {l : List α} {i : Int} (h0 : 0 ≤ i) (h1 : i < l.length) : ∃ h : i.toNat < l.length, atI l i = some l[i.toNat] := by
  have h : i.toNat < l.length := by omega
  refine ⟨h, ?_⟩
  unfold atI ixN
  rw [if_pos h0, if_pos h1]
  simp [h]
theorem big : sizeLine = 16777216 := sizeLine_eq
@[simp] theorem wol_some {l : List W} {p : List W → Prop} : wol (some l) p = p l := (rfl)
@[simp] theorem wol_rng1 {i : Int} {p : List W → Prop} : wol (rngW [.int i]) p = (okR i = true ∧ p (rangeW 0 i.toNat)) := by
  unfold rngW; by_cases h : okR i = true <;> simp [h, wol]
@[simp] theorem wol_rng2 {i j : Int} {p : List W → Prop} : wol (rngW [.int i, .int j]) p = ((okR i = true ∧ okR j = true) ∧ p (rangeW i (j - i).toNat)) := by
  unfold rngW; by_cases h : okR i = true ∧ okR j = true <;> simp [h, wol]
theorem okR_of {i : Int} (h : -(2 ^ 62) ≤ i) (k : i < 2 ^ 62) : okR i = true := by
  unfold okR; simp only [Bool.and_eq_true, decide_eq_true_eq]; exact ⟨h, k⟩
@[simp] theorem rangeW_len {lo : Int} {n : Nat} : (rangeW lo n).length = n := by simp [rangeW]
theorem mem_rangeW {lo : Int} {n : Nat} {w : W} : w ∈ rangeW lo n ↔ ∃ k : Nat, k < n ∧ w = .int (lo + (k : Int)) := by
  unfold rangeW
  simp only [List.mem_map, List.mem_range]
  constructor
  · rintro ⟨k, h, rfl⟩; exact ⟨k, h, rfl⟩
  · rintro ⟨k, h, rfl⟩; exact ⟨k, h, rfl⟩
theorem gIdx_str {z : Str} {i : Int} (hl : z.length ≤ sizeLine) (h0 : 0 ≤ i) (h1 : i < z.length) : ∃ ch, gIdx (.str z) (.int i) = some (.str ⟨#[ch]⟩) ∧ ch ∈ z.cps.toList := by
  obtain ⟨h, e⟩ := atI_ok (l := z.cps.toList) h0 (by simpa [Str.length] using h1)
  refine ⟨_, ?_, List.getElem_mem h⟩
  show (if z.length ≤ sizeLine then (atI z.cps.toList i).map fun c => W.str ⟨#[c]⟩ else none) = _
  rw [if_pos hl, e]
  rfl
@[simp] theorem items_str {z : Str} : itemsW (.str z) = some (strW z) := (rfl)
@[simp] theorem items_lst {l : List W} : itemsW (.lst l) = some l := (rfl)
@[simp] theorem items_klst {l : List W} : itemsW (.klst l) = some l := (rfl)
@[simp] theorem items_tup {l : List W} : itemsW (.tup l) = some l := (rfl)
theorem seqs_olst {l : List W} (h : l.all W.isSh = true) : seqs (.olst l) = some l := by
  have e : els (.olst l) = some l := if_pos h
  unfold seqs; rw [e]
theorem items_olst {l : List W} (h : l.all W.isSh = true) : itemsW (.olst l) = some l := seqs_olst h
theorem joinL_nil : ∀ l : List (List Nat), TL.joinL [] l = l.flatten
  | [] => rfl
  | [p] => by simp [TL.joinL]
  | p :: q :: r => by
    have := joinL_nil (q :: r)
    simp only [TL.joinL, List.nil_append, this, List.flatten_cons]
theorem join_tl (a : Str) (ys : List Str) : (Txt.join a ys).cps.toList = TL.joinL a.cps.toList (ys.map fun y => y.cps.toList) := by
  rw [TL.join_eq]; exact TL.tl_join a ys
/-- letters joined -/
theorem join1 {us : List W} (h : ∀ u ∈ us, ∃ ch : Nat, u = .str ⟨#[ch]⟩) (hl : us.length ≤ 1000000) : ∃ z : Str, mJoin (.str "") [.olst us] = some (.str z) ∧ z.length = us.length := by
  have hs : us.all W.isSh = true := List.all_eq_true.mpr fun u hu => by obtain ⟨c, rfl⟩ := h u hu; rfl
  have core : ∀ us : List W, (∀ u ∈ us, ∃ ch : Nat, u = .str ⟨#[ch]⟩) → ∃ cs : List Nat, strsOf us = some (cs.map fun c => ⟨#[c]⟩) ∧ cs.length = us.length := by
    intro us h
    induction us with
    | nil => exact ⟨[], rfl, rfl⟩
    | cons u us ih =>
      obtain ⟨c, rfl⟩ := h u List.mem_cons_self
      obtain ⟨cs, e, l⟩ := ih fun u hu => h u (List.mem_cons_of_mem _ hu)
      exact ⟨c :: cs, by simp [strsOf, e], by simp [l]⟩
  obtain ⟨cs, e, l⟩ := core us h
  have sm : ∀ cs : List Nat, ((cs.map fun c => (⟨#[c]⟩ : Str)).map fun y => y.length).sum = cs.length := by
    intro cs
    induction cs with
    | nil => rfl
    | cons c cs ih => simp only [List.map_cons, List.sum_cons, ih, List.length_cons]; show 1 + _ = _; omega
  refine ⟨Txt.join "" (cs.map fun c => ⟨#[c]⟩), ?_, ?_⟩
  · show (match (seqs (.olst us)).bind strsOf with
      | some ys => if (ys.map fun y => Str.length y).sum + ys.length * (Str.length ("" : Str)) ≤ 16777216 then some (W.str (Txt.join "" ys)) else none
      | none => none) = _
    rw [seqs_olst hs]
    simp only [Option.bind, e]
    rw [if_pos]
    rw [sm]
    have : (Str.length ("" : Str)) = 0 := rfl
    rw [this]
    omega
  · have : ∀ z : Str, z.length = z.cps.toList.length := fun z => by simp [Str.length]
    rw [this, join_tl]
    have e2 : (("" : Str)).cps.toList = [] := rfl
    rw [e2, joinL_nil, ← l]
    clear e l sm core
    induction cs with
    | nil => rfl
    | cons c cs ih => simp only [List.map_cons, List.flatten_cons, List.length_append, List.length_cons, ih]; simp; omega
theorem cut_len {z : Str} {lo hi : Option Int} : (cutS z lo hi).length ≤ z.length := by
  unfold cutS Str.length
  simp
  omega
theorem rep_len {z : Str} {n : Int} : (repS z n).length = n.toNat * z.length := by
  unfold repS Str.length
  simp [List.length_flatten]
@[simp] theorem gSl_str {z : Str} {lo hi : Option Int} {p : W → Prop} : wo (gSl (.str z) lo hi) p = (z.length ≤ sizeLine ∧ p (.str (cutS z lo hi))) := by
  unfold gSl; by_cases h : z.length ≤ sizeLine <;> simp [h, wo]
theorem digits_len : ∀ (e fuel n : Nat) (acc : List Char), n < 10 ^ e → (Nat.toDigitsCore 10 fuel n acc).length ≤ acc.length + e + 1
  | _, 0, _, _, _ => by simp [Nat.toDigitsCore]; omega
  | 0, fuel + 1, n, acc, h => by
    have : n = 0 := by simpa using h
    subst this
    simp [Nat.toDigitsCore]
  | e + 1, fuel + 1, n, acc, h => by
    unfold Nat.toDigitsCore
    simp only
    split
    · simp
    · have := digits_len e fuel (n / 10) (Nat.digitChar (n % 10) :: acc) (by rw [Nat.pow_succ] at h; omega)
      simp at this
      omega
theorem repr_len {n e : Nat} (h : n < 10 ^ e) : (Nat.repr n).length ≤ e + 1 := by
  have := digits_len e (n + 1) n [] h
  unfold Nat.repr Nat.toDigits
  simpa using this
end Z
namespace Z
open PySem PySem.Spec PyProof.Rows L2
theorem ofString_len (s : String) : (Str.ofString s).length = s.length := by
  rw [Str.ofString_eq_toList]
  have : s.toList.length = s.length := by first | rfl | simp | exact String.length_toList
  simp [Str.length, this]
theorem dig_len (i : Int) (e : Nat) (h0 : 0 ≤ i) (h : i < 10 ^ e) : (Str.ofString (i.repr)).length ≤ e + 1 := by
  rw [ofString_len]
  obtain ⟨n, rfl⟩ := Int.eq_ofNat_of_zero_le h0
  have : n < 10 ^ e := by exact_mod_cast h
  exact repr_len this
@[simp] theorem wp_Chain {f g h : Sem} {k k' : W → W → Option W} {ρ : Rho} {p : W → Prop} {e : Str → Prop} : wp (sChain f g h k k' ρ) p e = wp (f ρ) (fun a => wp (g ρ) (fun b => wo (k a b) fun r => tb r (wp (h ρ) (fun c => wo (k' b c) p) e) (p (.bl false))) e) e := by
  unfold sChain
  cases f ρ with
  | none => rfl
  | some r => cases r with
    | er c => rfl
    | ok a =>
      simp only [wp_some]
      cases g ρ with
      | none => rfl
      | some r => cases r with
        | er c => rfl
        | ok b =>
          simp only [wp_some]
          cases k a b with
          | none => rfl
          | some r =>
            cases r <;> first | rfl | skip
            rename_i bb
            cases bb with
            | false => rfl
            | true =>
              simp only [wo_some]
              cases h ρ with
              | none => rfl
              | some r => cases r with
                | er c => rfl
                | ok c => simp only [tb, wp_some]; cases k' b c <;> rfl
theorem gIdx_lst {l : List W} {i : Int} {p : W → Prop} (h0 : 0 ≤ i) (h1 : i < l.length) (h : ∀ x ∈ l, p x) : wo (gIdx (.lst l) (.int i)) p := by
  obtain ⟨k, e⟩ := atI_ok h0 h1
  have e2 : gIdx (.lst l) (.int i) = atI l i := rfl
  rw [e2, e]
  exact h _ (List.getElem_mem k)
theorem gIdx_olst {l : List W} {i : Int} {p : W → Prop} (h0 : 0 ≤ i) (h1 : i < l.length) (h : ∀ x ∈ l, p x) : wo (gIdx (.olst l) (.int i)) p := by
  obtain ⟨k, e⟩ := atI_ok h0 h1
  have e2 : gIdx (.olst l) (.int i) = atI l i := rfl
  rw [e2, e]
  exact h _ (List.getElem_mem k)
end Z
namespace Z
open PySem PySem.Spec PyProof.Rows L2
@[simp] theorem gSl_klst {l : List W} {lo hi : Option Int} {p : W → Prop} : wo (gSl (.klst l) lo hi) p = p (.olst (cutW l lo hi)) := (rfl)
@[simp] theorem gSl_lst {l : List W} {lo hi : Option Int} {p : W → Prop} : wo (gSl (.lst l) lo hi) p = p (.olst (cutW l lo hi)) := (rfl)
theorem mem_cutW {l : List W} {lo hi : Option Int} {x : W} (h : x ∈ cutW l lo hi) : x ∈ l := List.mem_of_mem_drop (List.mem_of_mem_take h)
theorem cutW_len {l : List W} {lo hi : Option Int} : (cutW l lo hi).length ≤ l.length := by
  unfold cutW; simp; omega
theorem gAdd_oo {a b : List W} {p : W → Prop} (ha : a.all W.isSh = true) (hb : b.all W.isSh = true) (hl : a.length + b.length ≤ sizeLine) (h : p (.olst (a ++ b))) : wo (gAdd (.olst a) (.olst b)) p := by
  have e1 : rels (.olst a) = some a := if_pos ha
  have e2 : rels (.olst b) = some b := if_pos hb
  have : gAdd (.olst a) (.olst b) = some (.olst (a ++ b)) := by
    show (match rels (.olst a) with
      | some xs => match rels (.olst b) with
        | some ys => if xs.length + ys.length ≤ sizeLine then some (W.olst (xs ++ ys)) else none
        | none => none
      | none => _) = _
    rw [e1, e2]
    exact if_pos hl
  rw [this]
  exact h
end Z

set_option Elab.async false
set_option linter.all false
set_option maxRecDepth 100000
set_option maxHeartbeats 8000000
set_option autoImplicit false
/-! plain lemmas, more -/
namespace Z
open PySem PySem.Spec PyProof.Rows L2

theorem wp_M3 {f : Sem} {fs : List Sem} {g1 g2 g3 : W → List W → Option W} {ρ : Rho} {p : W → Prop} {e : Str → Prop} : wp (sM3 g1 g2 g3 f fs ρ) p e = wp (f ρ) (fun a => if tyW "str" a = true then wl (sAll fs ρ) (fun l => wo (g1 a l) p) e else if tyW "list" a = true then wl (sAll fs ρ) (fun l => wo (g2 a l) p) e else tyW "tuple" a = true ∧ wl (sAll fs ρ) (fun l => wo (g3 a l) p) e) e := by
  unfold sM3
  cases ef : f ρ with
  | none => rfl
  | some r => cases r with
    | er c => rfl
    | ok a =>
      simp only [wp_some]
      by_cases h1 : tyW "str" a = true
      · rw [if_pos h1, if_pos h1, wp_M, ef]; simp [h1]
      · rw [if_neg h1, if_neg h1]
        by_cases h2 : tyW "list" a = true
        · rw [if_pos h2, if_pos h2, wp_M, ef]; simp [h2]
        · rw [if_neg h2, if_neg h2, wp_M, ef]; simp
mutual
def dn : Nat → W → Bool
  | _, .non => true
  | _, .bl _ => true
  | _, .int _ => true
  | _, .str x => PyData.strOk x
  | k + 1, .lst xs => dns k xs
  | k + 1, .tup xs => dns k xs
  | _, _ => false
def dns : Nat → List W → Bool
  | _, [] => true
  | k, x :: xs => dn k x && dns k xs
end
theorem dns_all {k : Nat} : ∀ {xs : List W}, dns k xs = true ↔ ∀ x ∈ xs, dn k x = true
  | [] => by simp [dns]
  | x :: xs => by simp [dns, dns_all (xs := xs)]
mutual
theorem dpn_ok : ∀ (k : Nat) (w : W), dn k w = true → dat w = true ∧ (toP w).canLay0 = true ∧ (toP w).depth ≤ k
  | _, .non, _ => ⟨rfl, rfl, Nat.zero_le _⟩
  | _, .bl _, _ => ⟨rfl, rfl, Nat.zero_le _⟩
  | _, .int _, _ => ⟨rfl, rfl, Nat.zero_le _⟩
  | _, .str x, h => ⟨rfl, by simpa [dn, toP, PyData.canLay0] using h, Nat.zero_le _⟩
  | k + 1, .lst xs, h => by
    obtain ⟨a, b, c⟩ := dns_ok k xs (by simpa [dn] using h)
    exact ⟨by simpa [dat] using a, by simpa [toP, PyData.canLay0] using b, by simp only [toP, PyData.depth]; omega⟩
  | k + 1, .tup xs, h => by
    obtain ⟨a, b, c⟩ := dns_ok k xs (by simpa [dn] using h)
    exact ⟨by simpa [dat] using a, by simpa [toP, PyData.canLay0] using b, by simp only [toP, PyData.depth]; omega⟩
  | 0, .lst xs, h => by simp [dn] at h
  | 0, .tup xs, h => by simp [dn] at h
  | _, .klst _, h => by simp [dn] at h
  | _, .olst _, h => by simp [dn] at h
  | _, .otup _, h => by simp [dn] at h
  | _, .pt _, h => by simp [dn] at h
  | _, .ty _, h => by simp [dn] at h
  | _, .dic _ _, h => by simp [dn] at h
  | _, .odic _ _, h => by simp [dn] at h
theorem dns_ok : ∀ (k : Nat) (ws : List W), dns k ws = true → dats ws = true ∧ PyData.canLayAll0 (toPs ws) = true ∧ PyData.depthAll (toPs ws) ≤ k
  | _, [], _ => ⟨rfl, rfl, Nat.zero_le _⟩
  | k, x :: xs, h => by
    simp only [dns, Bool.and_eq_true] at h
    obtain ⟨a, b, c⟩ := dpn_ok k x h.1
    obtain ⟨a2, b2, c2⟩ := dns_ok k xs h.2
    exact ⟨by simp [dats, a, a2], by simp [toPs, PyData.canLayAll0, b, b2], by simp only [toPs, PyData.depthAll]; omega⟩
end
theorem dn_shp {k : Nat} {w : W} (h : dn k w = true) (hk : k ≤ 64) : shp w = true := by
  obtain ⟨a, b, c⟩ := dpn_ok k w h
  unfold shp SeqAt.shaped
  simp only [Bool.and_eq_true, decide_eq_true_eq]
  exact ⟨a, b, by omega⟩
mutual
theorem eqv_self : ∀ d : PyData, d.canLay0 = true → PyData.eqv d d = true
  | .none, _ => rfl
  | .bool b, _ => by simp [PyData.eqv]
  | .int i, _ => by simp [PyData.eqv]
  | .str x, _ => by simp [PyData.eqv]
  | .list xs, h => by simp only [PyData.eqv]; exact eqvA_self xs (by simpa [PyData.canLay0] using h)
  | .tuple xs, h => by simp only [PyData.eqv]; exact eqvA_self xs (by simpa [PyData.canLay0] using h)
  | .dict _, h => by simp [PyData.canLay0] at h
theorem eqvA_self : ∀ ds : List PyData, PyData.canLayAll0 ds = true → PyData.eqvAll ds ds = true
  | [], _ => rfl
  | d :: ds, h => by
    simp only [PyData.canLayAll0, Bool.and_eq_true] at h
    simp only [PyData.eqvAll, Bool.and_eq_true]
    exact ⟨eqv_self d h.1, eqvA_self ds h.2⟩
end
/-- data is == itself -/
theorem gEq_self {k : Nat} {w : W} (h : dn k w = true) (hk : k ≤ 64) : gEqB w w = some true := by
  have s := dn_shp h hk
  have e := eqv_self _ (dpn_ok k w h).2.1
  cases w <;> first
    | (simp [gEqB]; done)
    | (exfalso; cases k <;> simp [dn] at h; done)
    | (show (if shp _ = true ∧ shp _ = true then some (PyData.eqv _ _) else none) = _; rw [if_pos ⟨s, s⟩, e])
/-! a loop over numbers -/
theorem for_rng {F : SS} {i0 : Nat} {lo : Int} {Q : Out → Prop} (I : Nat → Rho → Prop) : ∀ (n k : Nat) (ρ : Rho), I k ρ → (∀ j ρ, k ≤ j → j < k + n → I j ρ → ws (F (ρ.set i0 (some (.int (lo + (j : Int)))))) (fun o => match o with | .nx ρ2 => I (j + 1) ρ2 | .ct ρ2 => I (j + 1) ρ2 | .bk ρ2 => Q (.nx ρ2) | o => Q o)) → (∀ ρ, I (k + n) ρ → Q (.nx ρ)) →
    ws (forLoop (gT i0) F ((List.range' k n).map fun (j : Nat) => .int (lo + (j : Int))) ρ) Q
  | 0, k, ρ, h0, _, fin => by simpa [ws, forLoop] using fin ρ (by simpa using h0)
  | n + 1, k, ρ, h0, step, fin => by
    rw [List.range'_succ, List.map_cons]
    unfold forLoop
    have e1 : gT i0 (.int (lo + (k : Int))) ρ = some (ρ.set i0 (some (.int (lo + (k : Int))))) := rfl
    rw [e1]
    simp only
    have h1 := step k ρ (Nat.le_refl _) (by omega) h0
    unfold ws at h1
    split at h1
    · rename_i r er
      rw [er]
      have next : ∀ ρ2, I (k + 1) ρ2 → ws (forLoop (gT i0) F ((List.range' (k + 1) n).map fun (j : Nat) => .int (lo + (j : Int))) ρ2) Q := fun ρ2 h2 => for_rng I n (k + 1) ρ2 h2 (fun j ρ a b c => step j ρ (by omega) (by omega) c) (fun ρ h => fin ρ (by rw [show k + (n + 1) = k + 1 + n by omega]; exact h))
      cases r with
      | nx ρ2 => exact next ρ2 h1
      | ct ρ2 => exact next ρ2 h1
      | bk ρ2 => exact h1
      | rt w => exact h1
      | er c ρ2 => exact h1
    · exact h1.elim
/-- for k in range(n) -/
theorem for_range {F : SS} {i0 n : Nat} {lo : Int} {Q : Out → Prop} {ρ : Rho} (I : Nat → Rho → Prop) (h0 : I 0 ρ) (step : ∀ j ρ, j < n → I j ρ → ws (F (ρ.set i0 (some (.int (lo + (j : Int)))))) (fun o => match o with | .nx ρ2 => I (j + 1) ρ2 | .ct ρ2 => I (j + 1) ρ2 | .bk ρ2 => Q (.nx ρ2) | o => Q o)) (fin : ∀ ρ, I n ρ → Q (.nx ρ)) :
    ws (forLoop (gT i0) F (rangeW lo n) ρ) Q := by
  unfold rangeW
  rw [List.range_eq_range']
  exact for_rng I n 0 ρ h0 (fun j ρ _ h => step j ρ (by omega)) (fun ρ h => fin ρ (by simpa using h))
end Z
namespace Z
open PySem PySem.Spec PyProof.Rows L2
@[simp] theorem wo_addoo {a b : List W} {p : W → Prop} : wo (gAdd (.olst a) (.olst b)) p = ((a.all W.isSh = true ∧ b.all W.isSh = true ∧ a.length + b.length ≤ sizeLine) ∧ p (.olst (a ++ b))) := by
  by_cases ha : a.all W.isSh = true
  · by_cases hb : b.all W.isSh = true
    · by_cases hl : a.length + b.length ≤ sizeLine
      · exact propext ⟨fun h => ⟨⟨ha, hb, hl⟩, by
          have e1 : rels (.olst a) = some a := if_pos ha
          have e2 : rels (.olst b) = some b := if_pos hb
          have : gAdd (.olst a) (.olst b) = some (.olst (a ++ b)) := by
            show (match rels (.olst a) with
              | some xs => match rels (.olst b) with
                | some ys => if xs.length + ys.length ≤ sizeLine then some (W.olst (xs ++ ys)) else none
                | none => none
              | none => _) = _
            rw [e1, e2]
            exact if_pos hl
          rw [this] at h
          exact h⟩, fun h => gAdd_oo ha hb hl h.2⟩
      · refine propext ⟨fun h => ?_, fun h => absurd h.1.2.2 hl⟩
        have e1 : rels (.olst a) = some a := if_pos ha
        have e2 : rels (.olst b) = some b := if_pos hb
        have : gAdd (.olst a) (.olst b) = none := by
          show (match rels (.olst a) with
            | some xs => match rels (.olst b) with
              | some ys => if xs.length + ys.length ≤ sizeLine then some (W.olst (xs ++ ys)) else none
              | none => none
            | none => _) = _
          rw [e1, e2]
          exact if_neg hl
        rw [this] at h
        exact h.elim
    · refine propext ⟨fun h => ?_, fun h => absurd h.1.2.1 hb⟩
      have e1 : rels (.olst a) = some a := if_pos ha
      have e2 : rels (.olst b) = none := if_neg hb
      have : gAdd (.olst a) (.olst b) = none := by
        show (match rels (.olst a) with
          | some xs => match rels (.olst b) with
            | some ys => if xs.length + ys.length ≤ sizeLine then some (W.olst (xs ++ ys)) else none
            | none => none
          | none => _) = _
        rw [e1, e2]
      rw [this] at h
      exact h.elim
  · refine propext ⟨fun h => ?_, fun h => absurd h.1.1 ha⟩
    have e1 : rels (.olst a) = none := if_neg ha
    have : gAdd (.olst a) (.olst b) = none := by
      show (match rels (.olst a) with
        | some xs => _
        | none => match nels (.olst a) with
          | some xs => match nels (.olst b) with
            | some ys => if xs.length + ys.length ≤ sizeLine then some (W.tup (xs ++ ys)) else none
            | none => none
          | none => none) = _
      rw [e1]
      rfl
    rw [this] at h
    exact h.elim
@[simp] theorem wo_mulo {a : List W} {k : Int} {p : W → Prop} : wo (gMul (.olst a) (.int k)) p = ((a.all W.isSh = true ∧ -(2 ^ 63) ≤ k ∧ k < 2 ^ 63 ∧ a.length * k.toNat ≤ sizeLine) ∧ p (.olst (List.replicate k.toNat a).flatten)) := by
  show wo (if a.all W.isSh = true ∧ -(2 ^ 63) ≤ k ∧ k < 2 ^ 63 ∧ a.length * k.toNat ≤ sizeLine then some (W.olst (List.replicate k.toNat a).flatten) else none) p = _
  by_cases h : a.all W.isSh = true ∧ -(2 ^ 63) ≤ k ∧ k < 2 ^ 63 ∧ a.length * k.toNat ≤ sizeLine
  · rw [if_pos h]; exact propext ⟨fun q => ⟨h, q⟩, fun q => q.2⟩
  · rw [if_neg h]; exact propext ⟨fun q => q.elim, fun q => h q.1⟩
theorem ints_of {P : Int → Prop} : ∀ {us : List W}, (∀ u ∈ us, ∃ v : Int, u = .int v ∧ P v) → ∃ vs : List Int, us = vs.map .int ∧ ∀ v ∈ vs, P v
  | [], _ => ⟨[], rfl, fun _ z => nomatch z⟩
  | u :: us, h => by
    obtain ⟨v, rfl, hv⟩ := h u List.mem_cons_self
    obtain ⟨vs, rfl, hvs⟩ := ints_of (us := us) fun u hu => h u (List.mem_cons_of_mem _ hu)
    exact ⟨v :: vs, rfl, fun x hx => (List.mem_cons.mp hx).elim (fun e => e ▸ hv) (hvs x)⟩
end Z

set_option Elab.async false
set_option linter.all false
set_option maxRecDepth 100000
set_option maxHeartbeats 0
set_option autoImplicit false
namespace Z.K31
open Z PySem PySem.Spec PyProof.Rows L2
def topS (i : Nat) : Stmt := PySem.Challenge.pw_freshrooms_k31_cases_read.main.body.getD i (.Pass ⟨0, 0, 0, 0⟩)
def gcs : List (Str × W) := []
def bls : List Str := ["bool", "int", "isinstance", "len", "list", "range", "sorted", "tuple"]
def E0 : Z.En := ⟨[], gcs, bls⟩
def N_read_by : List Str := ["plain", "standing", "sign", "name", "at", "case", "held", "room", "names", "number"]
def f_read_by : SS := (sSeq (sIfS (sOr (s2 (sVarB 1) (sC .non) (gCmp .Is)) (s2 (sVarB 2) (s2 (sVarB 0) (sC (.int (0))) gIdx) (gCmp .NotIn))) (sFrz [] (sRet (sC .non))) sNext) (sSeq (sFrz [] (sAsgT (gU [(gT 7), (gT 8)]) (sVar 1) [])) (sSeq (sFrz [] (sAsg false 4 (sBi gLen [(sVarB 8)]) [])) (sSeq (sIfS (s2 (sVarB 3) (sVarB 8) (gCmp .In)) (sFrz [] (sAsg false 4 (sM3 mIdxS mIdxL mIdxT (sVarB 8) [(sVarB 3)]) [])) sNext) (sSeq (sFrz [] (sAsg false 5 (shOnly (s2 (s2 (s2 (s2 (s2 (sVarB 0) (sC (.int (1))) gIdx) (sVarB 7) gIdx) (sC (.int (2))) gIdx) (sM3 mIdxS mIdxL mIdxT (s2 (sVarB 0) (sC (.int (0))) gIdx) [(sVarB 2)]) gIdx) (sVarB 4) gIdx)) [])) (sSeq (sIfS (s2 (sVarB 5) (sC .non) (gCmp .Is)) (sFrz [] (sRet (sC .non))) sNext) (sSeq (sFrz [] (sAsg false 6 (s2 (sVarB 8) (sTup [(sVar 3)]) gAdd) [])) (sFrz [] (sRet (sTup [(shOnly (s2 (sVarB 5) (sC (.int (0))) gIdx)), (sBi gTuple [(sLc [9] (sItems (s2 (sVarB 5) (sC (.int (1))) gIdx)) (gT 9) none (shOnly (s2 (sVarB 6) (sVarB 9) gIdx)))])]))))))))))
def E1 : Z.En := ⟨("read_by", 4, Z.runF 10 f_read_by) :: E0.fns, gcs, bls⟩
theorem c_read_by : Z.cS 60 (Z.mkC E0 N_read_by (defScope (topS 1)) [] (fun _ _ => false)) (defBody (topS 1)) = some f_read_by := by kernel_rfl
theorem s_read_by : FnScope N_read_by ["plain", "standing", "sign", "name"] (defScope (topS 1)) := ⟨rfl, rfl, rfl, by decide +kernel, rfl, by decide +kernel, by decide +kernel⟩
def N_draw : List Str := ["_law_script", "_law_k", "_law_most", "_law_x"]
def f_draw : SS := (sSeq (sFrz [] (sAsg false 2 (s2 (sC (.int (1000))) (s2 (sC (.int (10))) (sC (.int (64))) gPow) gMul) [])) (sSeq (sFrz [] (sAsg false 3 (s2 (s2 (s2 (sVarB 1) (sVarB 1) gMul) (sVarB 1) gMul) (sC (.int (7))) gAdd) [])) (sSeq (sIfS (s2 (sVarB 1) (sBi gLen [(sVarB 0)]) (gCmp .Lt)) (sFrz [] (sAsg false 3 (shOnly (s2 (sVarB 0) (sVarB 1) gIdx)) [])) (sIfS (s2 (sBi gLen [(sVarB 0)]) (sC (.int (0))) (gCmp .Gt)) (sFrz [] (sAsg false 3 (s2 (s2 (s2 (s2 (sVarB 0) (s2 (sVarB 1) (sBi gLen [(sVarB 0)]) gMod) gIdx) (sC (.int (1000003))) gMod) (sC (.int (1))) gAdd) (sVarB 3) gMul) [])) sNext)) (sFrz [] (sRet (s2 (s2 (s2 (sVarB 3) (sVarB 2) gMod) (s2 (sC (.int (7919))) (sC (.int (15))) gPow) gMul) (sVarB 2) gMod))))))
def E2 : Z.En := ⟨("_law_draw", 2, Z.runF 4 f_draw) :: E1.fns, gcs, bls⟩
theorem c_draw : Z.cS 60 (Z.mkC E1 N_draw (defScope (topS 3)) [] (fun _ _ => false)) (defBody (topS 3)) = some f_draw := by kernel_rfl
theorem s_draw : FnScope N_draw ["_law_script", "_law_k"] (defScope (topS 3)) := ⟨rfl, rfl, rfl, by decide +kernel, rfl, by decide +kernel, by decide +kernel⟩
def N_digits : List Str := ["_law_x", "_law_sizes", "_law_found", "_law_size"]
def f_digits : SS := (sSeq (sFrz [] (sAsg true 2 (sLst []) [])) (sSeq (sFrz [] (sFor (sItems (sVar 1)) (gT 3) (sSeq (sFrz [] (sApp 2 (s2 (sVarB 0) (sVarB 3) gMod) [])) (sFrz [] (sAsg false 0 (s2 (sVarB 0) (sVarB 3) gDiv) []))))) (sRet (sVarB 2))))
def E3 : Z.En := ⟨("_law_digits", 2, Z.runF 4 f_digits) :: E2.fns, gcs, bls⟩
theorem c_digits : Z.cS 60 (Z.mkC E2 N_digits (defScope (topS 4)) [2] (fun _ _ => false)) (defBody (topS 4)) = some f_digits := by kernel_rfl
theorem s_digits : FnScope N_digits ["_law_x", "_law_sizes"] (defScope (topS 4)) := ⟨rfl, rfl, rfl, by decide +kernel, rfl, by decide +kernel, by decide +kernel⟩
def N_signs : List Str := ["_law_x", "_law_many", "_law_letters", "_law_at", "_law_signs_here", "_law_k", "_law_size", "_law_step", "_law_sign", "_law_j", "_law_turn"]
def f_signs : SS := (sSeq (sFrz [] (sAsg false 2 (sC (.str "abcdefghijklmnopqrstuvwxyz")) [])) (sSeq (sFrz [] (sAsgT (gU [(gT 6), (gT 3), (gT 7)]) (sCall (runF 4 f_digits) [(sVarB 0), (sLst [(sC (.int (8))), (sC (.int (840))), (sC (.int (8)))])]) [])) (sSeq (sFrz [] (sAsg false 3 (s2 (sVarB 3) (s2 (sVarB 6) (sC (.int (1))) gAdd) gMod) [])) (sSeq (sFrz [] (sAsg true 4 (sLst []) [])) (sSeq (sFrz [] (sFor (sItemsA rngW [(sVarB 1)]) (gT 5) (sSeq (sFrz [] (sAsg false 8 (sC (.str "")) [])) (sSeq (sFrz [] (sFor (sItemsA rngW [(s2 (sVarB 6) (sC (.int (1))) gAdd)]) (gT 9) (sSeq (sFrz [] (sAsg false 10 (s2 (s2 (sVarB 0) (s2 (sC (.int (53761))) (s2 (s2 (sC (.int (26))) (sVarB 9) gMul) (sVarB 9) gMul) gAdd) gDiv) (s2 (s2 (sVarB 5) (s2 (sVarB 7) (sC (.int (1))) gAdd) gMul) (sBi gInt [(s2 (sVarB 9) (sVarB 3) (gCmp .Eq))]) gMul) gAdd) [])) (sFrz [] (sAsg false 8 (s2 (sVarB 8) (s2 (sVarB 2) (s2 (sVarB 10) (sC (.int (26))) gMod) gIdx) gAdd) []))))) (sFrz [] (sApp 4 (sVar 8) [])))))) (sFrz [] (sRet (sBi gSorted [(sVarB 4)]))))))))
def E4 : Z.En := ⟨("_law_signs", 2, Z.runF 11 f_signs) :: E3.fns, gcs, bls⟩
theorem c_signs : Z.cS 60 (Z.mkC E3 N_signs (defScope (topS 5)) [4] (fun _ _ => false)) (defBody (topS 5)) = some f_signs := by kernel_rfl
theorem s_signs : FnScope N_signs ["_law_x", "_law_many"] (defScope (topS 5)) := ⟨rfl, rfl, rfl, by decide +kernel, rfl, by decide +kernel, by decide +kernel⟩
def N_name : List Str := ["_law_x"]
def f_name : SS := (sSeq (sIfS (s2 (s2 (sVarB 0) (sC (.int (3))) gMod) (sC (.int (0))) (gCmp .Eq)) (sFrz [] (sRet (s2 (s2 (s2 (sVarB 0) (sC (.int (3))) gDiv) (sC (.int (9))) gMod) (sC (.int (4))) gSub))) sNext) (sFrz [] (sRet (s2 (s2 (s2 (s2 (sVarB 0) (sC (.int (3))) gDiv) (s2 (s2 (sC (.int (2))) (s2 (sC (.int (10))) (sC (.int (60))) gPow) gMul) (sC (.int (1))) gSub) gMod) (s2 (sC (.int (10))) (sC (.int (60))) gPow) gSub) (sC (.int (1))) gAdd))))
def E5 : Z.En := ⟨("_law_name", 1, Z.runF 1 f_name) :: E4.fns, gcs, bls⟩
theorem c_name : Z.cS 60 (Z.mkC E4 N_name (defScope (topS 6)) [] (fun _ _ => false)) (defBody (topS 6)) = some f_name := by kernel_rfl
theorem s_name : FnScope N_name ["_law_x"] (defScope (topS 6)) := ⟨rfl, rfl, rfl, by decide +kernel, rfl, by decide +kernel, by decide +kernel⟩
def N_unlike : List Str := ["_law_script", "_law_start", "_law_many", "_law_names", "_law_k", "_law_name_here"]
def f_unlike : SS := (sSeq (sFrz [] (sAsg true 3 (sLst []) [])) (sSeq (sFrz [] (sFor (sItemsA rngW [(sVarB 2)]) (gT 4) (sSeq (sFrz [] (sAsg false 5 (sCall (runF 1 f_name) [(sCall (runF 4 f_draw) [(sVarB 0), (s2 (sVarB 1) (sVarB 4) gAdd)])]) [])) (sSeq (sWh whFuel (s2 (sVarB 5) (sVarB 3) (gCmp .In)) (sFrz [] (sAsg false 5 (s2 (s2 (sVarB 5) (s2 (s2 (sC (.int (10))) (sC (.int (60))) gPow) (sBi gInt [(s2 (sVarB 5) (sC (.int (0))) (gCmp .Gt))]) gMul) gSub) (sC (.int (1))) gAdd) []))) (sFrz [] (sApp 3 (sVar 5) [])))))) (sRet (sVarB 3))))
def E6 : Z.En := ⟨("_law_unlike", 3, Z.runF 6 f_unlike) :: E5.fns, gcs, bls⟩
theorem c_unlike : Z.cS 60 (Z.mkC E5 N_unlike (defScope (topS 7)) [3] (fun _ _ => false)) (defBody (topS 7)) = some f_unlike := by kernel_rfl
theorem s_unlike : FnScope N_unlike ["_law_script", "_law_start", "_law_many"] (defScope (topS 7)) := ⟨rfl, rfl, rfl, by decide +kernel, rfl, by decide +kernel, by decide +kernel⟩
def N_case : List Str := ["_law_y", "_law_keepers", "_law_r", "_law_k", "_law_to", "_law_some", "_law_fills", "_law_d"]
def f_case : SS := (sSeq (sFrz [] (sAsg false 4 (s2 (s2 (sVarB 0) (sC (.int (1))) gIdx) (sBi gLen [(sVarB 1)]) gMod) [])) (sSeq (sFrz [] (sAsg true 5 (sBi gLR [(s2 (s2 (sVarB 1) (sVarB 2) gIdx) (sBi gInt [(s2 (sVarB 3) (s2 (sVarB 1) (sVarB 2) gIdx) (gCmp .Eq))]) gAdd)]) [])) (sSeq (sIfS (sOr (s2 (s2 (sVarB 0) (sC (.int (0))) gIdx) (sC (.int (0))) (gCmp .Eq)) (s2 (sBi gLen [(sVarB 5)]) (s2 (sVarB 1) (sVarB 4) gIdx) (gCmp .Lt))) (sFrz [] (sRet (sC .non))) sNext) (sSeq (sFrz [] (sAsg true 6 (sLst []) [])) (sSeq (sFrz [] (sFor (sItems (sSl (sVarB 0) (some (sC (.int (2)))) (some (s2 (sC (.int (2))) (s2 (sVarB 1) (sVarB 4) gIdx) gAdd)))) (gT 7) (sPopP 6 5 (some (s2 (sVarB 7) (sBi gLen [(sVarB 5)]) gMod))))) (sFrz [] (sRet (sTup [(sVar 4), (sBi gTuple [(sVarB 6)])]))))))))
def E7 : Z.En := ⟨("_law_case", 4, Z.runF 8 f_case) :: E6.fns, gcs, bls⟩
theorem c_case : Z.cS 60 (Z.mkC E6 N_case (defScope (topS 9)) [5, 6] (fun _ _ => false)) (defBody (topS 9)) = some f_case := by kernel_rfl
theorem s_case : FnScope N_case ["_law_y", "_law_keepers", "_law_r", "_law_k"] (defScope (topS 9)) := ⟨rfl, rfl, rfl, by decide +kernel, rfl, by decide +kernel, by decide +kernel⟩
def N_plain : List Str := ["_law_script", "_law_start", "_law_signs_here", "_law_head", "_law_size", "_law_keepers", "_law_rooms", "_law_at", "_law_r", "_law_steps", "_law_s", "_law_cases", "_law_k", "_law_y"]
def f_plain : SS := (sSeq (sFrz [] (sAsg false 3 (sCall (runF 4 f_digits) [(sCall (runF 4 f_draw) [(sVarB 0), (sVarB 1)]), (s2 (s2 (sLst [(sC (.int (24))), (sC (.int (8))), (sC (.int (8)))]) (s2 (sLst [(sC (.int (12)))]) (sC (.int (6))) gMul) gAdd) (s2 (sLst [(sC (.int (2)))]) (sC (.int (6))) gMul) gAdd)]) [])) (sSeq (sFrz [] (sAsg false 4 (shOnly (s2 (sFzE (sLst [(s2 (sC (.int (1))) (s2 (s2 (sVarB 3) (sC (.int (0))) gIdx) (sC (.int (4))) gMod) gAdd), (sC (.int (5))), (sC (.int (6)))])) (s2 (sBi gInt [(s2 (s2 (sVarB 3) (sC (.int (1))) gIdx) (sC (.int (3))) (gCmp .Eq))]) (s2 (sC (.int (1))) (s2 (s2 (sVarB 3) (sC (.int (2))) gIdx) (sC (.int (2))) gMod) gAdd) gMul) gIdx)) [])) (sSeq (sFrz [] (sAsg false 5 (s2 (sLst [(sC (.int (0)))]) (sLc [8] (sItemsA rngW [(sC (.int (1))), (sVarB 4)]) (gT 8) none (s2 (s2 (sVarB 3) (s2 (sC (.int (3))) (sVarB 8) gAdd) gIdx) (s2 (sC (.int (3))) (sBi gInt [(sAnd (s2 (s2 (sVarB 3) (sC (.int (2))) gIdx) (sC (.int (5))) (gCmp .Eq)) (s2 (sVarB 4) (sC (.int (4))) (gCmp .Lt)))]) gAdd) gMod)) gAdd) [])) (sSeq (sFrz [] (sAsg true 6 (sLst []) [])) (sSeq (sFrz [] (sAsg false 7 (s2 (sVarB 1) (sC (.int (1))) gAdd) [])) (sSeq (sFrz [] (sFor (sItemsA rngW [(sVarB 4)]) (gT 8) (sSeq (sFrz [] (sAsg true 9 (sLst []) [])) (sSeq (sFrz [] (sFor (sItemsA rngW [(sBi gLen [(sVarB 2)])]) (gT 10) (sSeq (sFrz [] (sAsg true 11 (sLst []) [])) (sSeq (sFrz [] (sFor (sItemsA rngW [(s2 (s2 (sVarB 5) (sVarB 8) gIdx) (sC (.int (1))) gAdd)]) (gT 12) (sSeq (sFrz [] (sAsg false 13 (sCall (runF 4 f_digits) [(sCall (runF 4 f_draw) [(sVarB 0), (sVarB 7)]), (sLst [(sC (.int (6))), (sC (.int (60))), (sC (.int (60))), (sC (.int (60))), (sC (.int (60)))])]) [])) (sSeq (sFrz [] (sAsg false 7 (s2 (sVarB 7) (sC (.int (1))) gAdd) [])) (sFrz [] (sApp 11 (sCall (runF 8 f_case) [(sVarB 13), (sVarB 5), (sVarB 8), (sVarB 12)]) [])))))) (sFrz [11] (sApp 9 (sVar 11) [])))))) (sFrz [9] (sApp 6 (sTup [(shOnly (s2 (sVarB 5) (sVarB 8) gIdx)), (s2 (s2 (sVarB 3) (s2 (sC (.int (9))) (sVarB 8) gAdd) gIdx) (sC (.int (1))) (gCmp .Eq)), (sVar 9)]) [])))))) (sFrz [6] (sRet (sTup [(sTup [(sBi gList [(sVarB 2)]), (sVar 6)]), (sVar 7)])))))))))
def E8 : Z.En := ⟨("_law_plain", 3, Z.runF 14 f_plain) :: E7.fns, gcs, bls⟩
theorem c_plain : Z.cS 60 (Z.mkC E7 N_plain (defScope (topS 8)) [6, 9, 11] (fun _ _ => false)) (defBody (topS 8)) = some f_plain := by kernel_rfl
theorem s_plain : FnScope N_plain ["_law_script", "_law_start", "_law_signs_here"] (defScope (topS 8)) := ⟨rfl, rfl, rfl, by decide +kernel, rfl, by decide +kernel, by decide +kernel⟩
def N_copied : List Str := ["_law_plain_here", "_law_rooms", "_law_keepers", "_law_good", "_law_steps", "_law_cases"]
def f_copied : SS := (sSeq (sFrz [] (sAsg true 1 (sLst []) [])) (sSeq (sFrz [] (sFor (sItems (shOnly (s2 (sVarB 0) (sC (.int (1))) gIdx))) (gU [(gT 2), (gT 3), (gT 4)]) (sFrz [] (sApp 1 (sTup [(sVar 2), (sVar 3), (sLc [5] (sItems (sVarB 4)) (gT 5) none (sBi gList [(sVarB 5)]))]) [])))) (sFrz [1] (sRet (sTup [(sBi gList [(s2 (sVarB 0) (sC (.int (0))) gIdx)]), (sVar 1)])))))
def E9 : Z.En := ⟨("_law_copied", 1, Z.runF 6 f_copied) :: E8.fns, gcs, bls⟩
theorem c_copied : Z.cS 60 (Z.mkC E8 N_copied (defScope (topS 10)) [1] (fun _ _ => false)) (defBody (topS 10)) = some f_copied := by kernel_rfl
theorem s_copied : FnScope N_copied ["_law_plain_here"] (defScope (topS 10)) := ⟨rfl, rfl, rfl, by decide +kernel, rfl, by decide +kernel, by decide +kernel⟩
def N_standing : List Str := ["_law_found", "_law_due_here", "_law_name_here"]
def f_standing : SS := (sSeq (sIfS (sOr (sNot (sTr (sBi gIsi [(sVarB 0), (sC (.ty "tuple"))]))) (sOr (s2 (sVarB 0) (sVarB 1) (gCmp .NotEq)) (sBi gIsi [(s2 (sVarB 0) (sC (.int (0))) gIdx), (sC (.ty "bool"))]))) (sFrz [] (sRet (sC (.bl false)))) sNext) (sFrz [] (sRet (sNot (sTr (sLc [2] (sItems (s2 (sVarB 0) (sC (.int (1))) gIdx)) (gT 2) (some (sTr (sBi gIsi [(sVarB 2), (sC (.ty "bool"))]))) (sVar 2)))))))
def E10 : Z.En := ⟨("_law_standing", 2, Z.runF 3 f_standing) :: E9.fns, gcs, bls⟩
theorem c_standing : Z.cS 60 (Z.mkC E9 N_standing (defScope (topS 11)) [] (fun _ _ => false)) (defBody (topS 11)) = some f_standing := by kernel_rfl
theorem s_standing : FnScope N_standing ["_law_found", "_law_due_here"] (defScope (topS 11)) := ⟨rfl, rfl, rfl, by decide +kernel, rfl, by decide +kernel, by decide +kernel⟩
def N_due : List Str := ["_law_plain_here", "_law_standing_here", "_law_sign", "_law_name_here", "_law_at", "_law_k", "_law_case_here", "_law_found", "_law_number", "_law_room", "_law_names"]
def f_due : SS := (sSeq (sIfS (s2 (sVarB 2) (s2 (sVarB 0) (sC (.int (0))) gIdx) (gCmp .NotIn)) (sFrz [] (sRet (sC .non))) sNext) (sSeq (sFrz [] (sAsgT (gU [(gT 9), (gT 10)]) (sVar 1) [])) (sSeq (sFrz [] (sAsg false 4 (sBi gLen [(sVarB 10)]) [])) (sSeq (sFrz [] (sFor (sItemsA rngW [(sBi gLen [(sVarB 10)])]) (gT 5) (sIfS (s2 (s2 (sVarB 10) (sVarB 5) gIdx) (sVarB 3) (gCmp .Eq)) (sFrz [] (sAsg false 4 (sVar 5) [])) sNext))) (sSeq (sFrz [] (sAsg false 6 (shOnly (s2 (s2 (s2 (s2 (s2 (sVarB 0) (sC (.int (1))) gIdx) (sVarB 9) gIdx) (sC (.int (2))) gIdx) (sM3 mIdxS mIdxL mIdxT (s2 (sVarB 0) (sC (.int (0))) gIdx) [(sVarB 2)]) gIdx) (sVarB 4) gIdx)) [])) (sSeq (sIfS (s2 (sVarB 6) (sC .non) (gCmp .Is)) (sFrz [] (sRet (sC .non))) sNext) (sSeq (sFrz [] (sAsg true 7 (sLst []) [])) (sSeq (sFrz [] (sFor (sItems (shOnly (s2 (sVarB 6) (sC (.int (1))) gIdx))) (gT 8) (sIfS (s2 (sVarB 8) (sBi gLen [(sVarB 10)]) (gCmp .Lt)) (sFrz [] (sApp 7 (shOnly (s2 (sVarB 10) (sVarB 8) gIdx)) [])) (sFrz [] (sApp 7 (sVar 3) []))))) (sFrz [] (sRet (sTup [(shOnly (s2 (sVarB 6) (sC (.int (0))) gIdx)), (sBi gTuple [(sVarB 7)])])))))))))))
def E11 : Z.En := ⟨("_law_due", 4, Z.runF 11 f_due) :: E10.fns, gcs, bls⟩
theorem c_due : Z.cS 60 (Z.mkC E10 N_due (defScope (topS 12)) [7] (fun _ _ => false)) (defBody (topS 12)) = some f_due := by kernel_rfl
theorem s_due : FnScope N_due ["_law_plain_here", "_law_standing_here", "_law_sign", "_law_name_here"] (defScope (topS 12)) := ⟨rfl, rfl, rfl, by decide +kernel, rfl, by decide +kernel, by decide +kernel⟩
def N_right : List Str := ["_law_found", "_law_due_here"]
def f_right : SS := (sSeq (sIfS (s2 (sVarB 1) (sC .non) (gCmp .Is)) (sFrz [] (sRet (s2 (sVarB 0) (sC .non) (gCmp .Is)))) sNext) (sFrz [] (sRet (sCall (runF 3 f_standing) [(sVarB 0), (sVarB 1)]))))
def E12 : Z.En := ⟨("_law_right", 2, Z.runF 2 f_right) :: E11.fns, gcs, bls⟩
theorem c_right : Z.cS 60 (Z.mkC E11 N_right (defScope (topS 13)) [] (fun _ _ => false)) (defBody (topS 13)) = some f_right := by kernel_rfl
theorem s_right : FnScope N_right ["_law_found", "_law_due_here"] (defScope (topS 13)) := ⟨rfl, rfl, rfl, by decide +kernel, rfl, by decide +kernel, by decide +kernel⟩
def N_law : List Str := ["_law_script", "_law_signs_here", "_law_plain_here", "_law_room", "_law_names", "_law_name_here", "_law_standing_here", "_law_sign", "_law_handed", "_law_which", "_law_pick", "_law_odd", "_law_letter"]
def f_law : SS := (sSeq (sFrz [] (sAsg false 1 (sCall (runF 11 f_signs) [(sCall (runF 4 f_draw) [(sVarB 0), (sC (.int (0)))]), (s2 (sC (.int (1))) (s2 (sCall (runF 4 f_draw) [(sVarB 0), (sC (.int (1)))]) (sC (.int (3))) gMod) gAdd)]) [])) (sSeq (sFrz [] (sAsg false 2 (shOnly (s2 (sFzE (sCall (runF 14 f_plain) [(sVarB 0), (sC (.int (8))), (sVarB 1)])) (sC (.int (0))) gIdx)) [])) (sSeq (sFrz [] (sAsgT (gU [(gT 3), (gT 9), (gT 10), (gT 11)]) (sCall (runF 4 f_digits) [(sCall (runF 4 f_draw) [(sVarB 0), (sC (.int (2)))]), (sLst [(sC (.int (60))), (sC (.int (6))), (sC (.int (60))), (sC (.int (12)))])]) [])) (sSeq (sFrz [] (sAsg false 3 (s2 (sVarB 3) (sBi gLen [(s2 (sVarB 2) (sC (.int (1))) gIdx)]) gMod) [])) (sSeq (sFrz [] (sAsg false 4 (sCall (runF 6 f_unlike) [(sVarB 0), (sC (.int (3))), (s2 (s2 (s2 (s2 (sVarB 2) (sC (.int (1))) gIdx) (sVarB 3) gIdx) (sC (.int (0))) gIdx) (sC (.int (1))) gAdd)]) [])) (sSeq (sFrz [] (sAsg false 5 (shOnly (s2 (sVarB 4) (s2 (sVarB 10) (sBi gLen [(sVarB 4)]) gMod) gIdx)) [])) (sSeq (sFrz [] (sAsg false 6 (sTup [(sVar 3), (sBi gTuple [(sSl (sVarB 4) none (some (s1 (sC (.int (1))) gNeg)))])]) [])) (sSeq (sFrz [] (sAsg false 7 (shOnly (s2 (sVarB 1) (s2 (sVarB 9) (sBi gLen [(sVarB 1)]) gMod) gIdx)) [])) (sSeq (sIfS (s2 (sVarB 11) (sC (.int (5))) (gCmp .Eq)) (sFrz [] (sAsg false 7 (shOnly (s2 (sLc [12] (sItems (sLst [(sC (.str "a")), (sC (.str "b")), (sC (.str "c")), (sC (.str "d"))])) (gT 12) (some (s2 (sVarB 12) (sVarB 1) (gCmp .NotIn))) (sVar 12)) (sC (.int (0))) gIdx)) [])) sNext) (sSeq (sFrz [] (sAsg false 8 (sCall (runF 6 f_copied) [(sVarB 2)]) [])) (sSeq (sIfS (sNot (sTr (sCall (runF 2 f_right) [(sCall (runF 10 f_read_by) [(sVarB 8), (sVarB 6), (sVarB 7), (sVarB 5)]), (sCall (runF 11 f_due) [(sVarB 2), (sVarB 6), (sVarB 7), (sVarB 5)])]))) (sFrz [] (sRet (sC (.bl false)))) sNext) (sSeq (sIfS (sOr (s2 (sCall (runF 10 f_read_by) [(sVarB 8), (sC .non), (sVarB 7), (sVarB 5)]) (sC .non) (gCmp .IsNot)) (s2 (sVarB 8) (sVarB 2) (gCmp .NotEq))) (sFrz [] (sRet (sC (.bl false)))) sNext) (sFrz [] (sRet (sCall (runF 2 f_right) [(sCall (runF 10 f_read_by) [(sVarB 8), (sVarB 6), (s2 (sVarB 1) (s1 (sC (.int (1))) gNeg) gIdx), (s2 (sVarB 4) (s1 (sC (.int (1))) gNeg) gIdx)]), (sCall (runF 11 f_due) [(sVarB 2), (sVarB 6), (s2 (sVarB 1) (s1 (sC (.int (1))) gNeg) gIdx), (s2 (sVarB 4) (s1 (sC (.int (1))) gNeg) gIdx)])])))))))))))))))
def E13 : Z.En := ⟨("law", 1, Z.runF 13 f_law) :: E12.fns, gcs, bls⟩
theorem c_law : Z.cS 60 (Z.mkC E12 N_law (defScope (topS 14)) [] (fun _ _ => false)) (defBody (topS 14)) = some f_law := by kernel_rfl
theorem s_law : FnScope N_law ["_law_script"] (defScope (topS 14)) := ⟨rfl, rfl, rfl, by decide +kernel, rfl, by decide +kernel, by decide +kernel⟩
def Sc (ns : List Int) : Prop := ns.length ≤ 63 ∧ ∀ z ∈ ns, z.natAbs.log2 ≤ 1048576
abbrev M : Int := 10000000000000000000000000000000000000000000000000000000000000000000
theorem pos_M : (0 : Int) < M := by decide
theorem r_draw {ns : List Int} (hs : Sc ns) (k : Int) (h0 : 0 ≤ k) (h1 : k ≤ 100000) : ∃ x : Int, runF 4 f_draw [.klst (ns.map .int), .int k] = some (.ok (.int x)) ∧ 0 ≤ x ∧ x < M := by
  have kk : k * k ≤ 10000000000 := by
    have := Int.mul_le_mul h1 h1 h0 (by omega : (0 : Int) ≤ 100000)
    omega
  have kk0 : 0 ≤ k * k := Int.mul_nonneg h0 h0
  have kkk : k * k * k ≤ 1000000000000000 := by
    have := Int.mul_le_mul kk h1 h0 (by omega : (0 : Int) ≤ 10000000000)
    omega
  have kkk0 : 0 ≤ k * k * k := Int.mul_nonneg kk0 h0
  have q : wp (runF 4 f_draw [.klst (ns.map .int), .int k]) (fun w => ∃ x : Int, w = .int x ∧ 0 ≤ x ∧ x < M) fun _ => False := by
    rw [wp_run]
    unfold f_draw
    simp [startR, killR, fz, W.isSh]
    have mk2 : ∀ a : Int, mulOk (a % M) 30203352027079873425843350052551609779411765776007568086799 := fun a => mulOk_of (a := 239) (b := 239) (by
      have h1 := Int.emod_nonneg a (b := M) (by decide)
      have h2 := Int.emod_lt_of_pos a pos_M
      have h3 : M < ((2 ^ 240 : Nat) : Int) := by decide
      generalize a % M = y at *
      omega) (by decide) (by decide)
    have klog : k.natAbs.log2 ≤ 63 := log2_lt (by omega)
    have hget : ∀ (i : Int) (p : W → Prop), 0 ≤ i → i < ns.length → (∀ z ∈ ns, p (.int z)) → wo (gIdx (.klst (ns.map .int)) (.int i)) p := fun i p a b c => by
      obtain ⟨kk, e⟩ := atI_ok (l := ns.map W.int) a (by simpa using b)
      have e2 : gIdx (.klst (ns.map W.int)) (.int i) = atI (ns.map W.int) i := rfl
      rw [e2, e]
      have := List.getElem_mem kk
      obtain ⟨z, hz, ez⟩ := List.mem_map.mp this
      rw [← ez]
      exact c z hz
    have fin : ∀ a : Int, 0 ≤ a % M * 30203352027079873425843350052551609779411765776007568086799 % M ∧ a % M * 30203352027079873425843350052551609779411765776007568086799 % M < M := fun a => ⟨Int.emod_nonneg _ (by decide), Int.emod_lt_of_pos _ pos_M⟩
    refine ⟨by decide, mk64 (by omega) (by omega), mk64 (by omega) (by omega), fun hk => ?_, fun hk => ⟨fun hn => ⟨hn, ?_⟩, fun _ => ⟨mk2 _, fin _⟩⟩⟩
    · refine hget k _ h0 hk fun z hz => ?_
      simp [fz]
      exact ⟨mk2 _, fin _⟩
    · refine hget _ _ (Int.emod_nonneg _ (by omega)) (Int.emod_lt_of_pos _ (by omega)) fun z hz => ?_
      simp [fz]
      exact ⟨mk64 (by omega) (by omega), mk2 _, fin _⟩
  obtain ⟨w, e, x, rfl, h⟩ := wp_ex q
  exact ⟨x, e, h⟩
def digs : Int → List Int → List Int
  | _, [] => []
  | x, s :: r => x % s :: digs (x / s) r
theorem digs_len : ∀ (x : Int) (ss : List Int), (digs x ss).length = ss.length
  | _, [] => rfl
  | x, s :: r => by simp [digs, digs_len]
theorem digs_at : ∀ (x : Int) (ss : List Int) (i : Nat) (s : Int), (∀ s ∈ ss, 0 < s) → ss[i]? = some s → ∃ d, (digs x ss)[i]? = some d ∧ 0 ≤ d ∧ d < s
  | x, [], i, s, _, h => by simp at h
  | x, t :: r, 0, s, hp, h => by
    simp at h
    subst h
    have := hp t List.mem_cons_self
    exact ⟨x % t, rfl, Int.emod_nonneg _ (by omega), Int.emod_lt_of_pos _ this⟩
  | x, t :: r, i + 1, s, hp, h => by
    simp at h
    obtain ⟨d, a, b⟩ := digs_at (x / t) r i s (fun s hs => hp s (List.mem_cons_of_mem _ hs)) h
    exact ⟨d, by simpa [digs] using a, b⟩
theorem dig_loop {L : W} {Q : Out → Prop} : ∀ (ss : List Int) (x : Int) (acc : List W) (a : Option W), (∀ s ∈ ss, 0 < s ∧ s < 2 ^ 64) → acc.length + ss.length < sizeLine →
    (∀ x' a', Q (.nx [some (.int x'), some L, some (.olst (acc ++ (digs x ss).map .int)), a'])) →
    ws (forLoop (gT 3) (sSeq (sFrz [] (sApp 2 (s2 (sVarB 0) (sVarB 3) gMod) [])) (sFrz [] (sAsg false 0 (s2 (sVarB 0) (sVarB 3) gDiv) []))) (ss.map .int) [some (.int x), some L, some (.olst acc), a]) Q
  | [], x, acc, a, _, _, fin => by simpa [forLoop, digs, ws] using fin x a
  | s :: ss, x, acc, a, hp, hl, fin => by
    rw [List.map_cons]
    unfold forLoop
    have e1 : gT 3 (.int s) [some (.int x), some L, some (.olst acc), a] = some [some (.int x), some L, some (.olst acc), some (.int s)] := rfl
    rw [e1]
    simp only
    obtain ⟨p1, p2⟩ := hp s List.mem_cons_self
    have st : sSeq (sFrz [] (sApp 2 (s2 (sVarB 0) (sVarB 3) gMod) [])) (sFrz [] (sAsg false 0 (s2 (sVarB 0) (sVarB 3) gDiv) [])) [some (.int x), some L, some (.olst acc), some (.int s)] = some (.nx [some (.int (x / s)), some L, some (.olst (acc ++ [.int (x % s)])), some (.int s)]) := by
      have q : ws (sSeq (sFrz [] (sApp 2 (s2 (sVarB 0) (sVarB 3) gMod) [])) (sFrz [] (sAsg false 0 (s2 (sVarB 0) (sVarB 3) gDiv) [])) [some (.int x), some L, some (.olst acc), some (.int s)]) (fun o => o = .nx [some (.int (x / s)), some L, some (.olst (acc ++ [.int (x % s)])), some (.int s)]) := by
        simp [killR, fz]
        simp at hl
        have lg : s.natAbs.log2 ≤ 63 := log2_lt (by omega)
        exact ⟨p1, by omega, by omega⟩
      unfold ws at q
      split at q
      · rename_i r er; rw [er, q]
      · exact q.elim
    rw [st]
    simp only
    refine dig_loop ss (x / s) (acc ++ [.int (x % s)]) _ (fun s hs => hp s (List.mem_cons_of_mem _ hs)) (by simp at hl ⊢; omega) fun x' a' => ?_
    have := fin x' a'
    simpa [digs] using this
theorem r_digits (x : Int) (ss : List Int) (hp : ∀ s ∈ ss, 0 < s ∧ s < 2 ^ 64) (hl : ss.length < 1000) : runF 4 f_digits [.int x, .lst (ss.map .int)] = some (.ok (.olst ((digs x ss).map .int))) := by
  refine wp_is ?_
  rw [wp_run]
  unfold f_digits
  simp [startR, killR, fz, W.isSh]
  refine dig_loop ss x [] none hp (by rw [big]; simp; omega) fun x' a' => ?_
  simp
theorem digs_get {x : Int} {ss : List Int} {i : Nat} {s : Int} (hp : ∀ s ∈ ss, 0 < s) (h : ss[i]? = some s) : ∃ d, ((digs x ss).map W.int)[i]? = some (.int d) ∧ 0 ≤ d ∧ d < s := by
  obtain ⟨d, a, b⟩ := digs_at x ss i s hp h
  exact ⟨d, by simp [a], b⟩
theorem r_name (x : Int) (h0 : 0 ≤ x) : ∃ n : Int, runF 1 f_name [.int x] = some (.ok (.int n)) ∧ -1000000000000000000000000000000000000000000000000000000000000 < n ∧ n < 1000000000000000000000000000000000000000000000000000000000000 := by
  have q : wp (runF 1 f_name [.int x]) (fun w => ∃ n : Int, w = .int n ∧ -1000000000000000000000000000000000000000000000000000000000000 < n ∧ n < 1000000000000000000000000000000000000000000000000000000000000) fun _ => False := by
    rw [wp_run]
    unfold f_name
    simp [startR]
    refine ⟨fun _ => ⟨by decide, by omega, by omega⟩, fun _ => ⟨by decide, by decide, by omega, by omega⟩⟩
  obtain ⟨w, e, n, rfl, h⟩ := wp_ex q
  exact ⟨n, e, h⟩
def ABC : Str := Str.ofString "abcdefghijklmnopqrstuvwxyz"
theorem abc_len : ABC.length = 26 := by decide
theorem abc_ok {c : Nat} (h : c ∈ ABC.cps.toList) : c < 200 := by
  have : ABC.cps.toList.all (· < 200) = true := by decide
  simpa using List.all_eq_true.mp this c h
theorem abc_ix (y : Int) : ∃ ch, gIdx (.str ABC) (.int (y % 26)) = some (.str ⟨#[ch]⟩) ∧ ch ∈ ABC.cps.toList :=
  gIdx_str (by rw [abc_len, big]; omega) (Int.emod_nonneg _ (by decide)) (by rw [abc_len]; exact Int.emod_lt_of_pos _ (by decide))
theorem strOk_app {a : Str} {c : Nat} (h : PyData.strOk a = true) (hc : c < 200) : PyData.strOk (a ++ (⟨#[c]⟩ : Str)) = true := by
  unfold PyData.strOk at *
  have : (a ++ (⟨#[c]⟩ : Str)).cps = a.cps ++ #[c] := rfl
  rw [this, Array.all_append, h]
  simp
  omega
theorem strsOf_map : ∀ ss : List Str, strsOf (ss.map .str) = some ss
  | [] => rfl
  | s :: ss => by simp [strsOf, strsOf_map ss]
theorem intsOf_str {ss : List Str} (h : ss ≠ []) : intsOf (ss.map .str) = none := by
  cases ss with
  | nil => exact absurd rfl h
  | cons s ss => rfl
theorem str_sh (ss : List Str) : (ss.map W.str).all W.isSh = true := by simp [W.isSh]
theorem gSorted_str {ss : List Str} (h : ss ≠ []) (hl : ss.length < 64) : gSorted [W.olst (ss.map W.str)] = some (W.olst ((sortS ss).map W.str)) := by
  have e1 : els (.olst (ss.map W.str)) = some (ss.map W.str) := if_pos (str_sh ss)
  show (match (els (.olst (ss.map W.str))).bind intsOf with
    | some ns => _
    | none => match (els (.olst (ss.map W.str))).bind strsOf with
      | some ys => if ys.length < 64 then some (W.olst ((sortS ys).map W.str)) else none
      | none => none) = _
  rw [e1]
  simp only [Option.bind, intsOf_str h, strsOf_map, if_pos hl]
theorem r_signs (x many : Int) (m1 : 1 ≤ many) (m3 : many ≤ 3) : ∃ ss : List Str, runF 11 f_signs [.int x, .int many] = some (.ok (.olst (ss.map .str))) ∧ (ss.length : Int) = many ∧ ∀ s ∈ ss, PyData.strOk s = true := by
  have hd := r_digits x [8, 840, 8] (by intro s hs; simp at hs; omega) (by decide)
  simp [digs] at hd
  have q : wp (runF 11 f_signs [.int x, .int many]) (fun w => ∃ ss : List Str, w = .olst (ss.map .str) ∧ (ss.length : Int) = many ∧ ∀ s ∈ ss, PyData.strOk s = true) fun _ => False := by
    rw [wp_run]
    unfold f_signs
    simp [startR, killR, fz, fzs, W.isSh, hd, clo, clos, gU, gTs, seqs, els, gT]
    have b := big
    refine ⟨by omega, by omega, okR_of (by omega) (by omega), ?_⟩
    refine for_range (fun j ρ => ∃ (ss : List Str) (a5 a8 a9 a10 : Option W), ρ = [some (W.int x), some (W.int many), some (W.str ABC), some (W.int (x / 8 % 840 % (x % 8 + 1))), some (.olst (ss.map .str)), a5, some (W.int (x % 8)), some (W.int (x / 8 / 840 % 8)), a8, a9, a10] ∧ ss.length = j ∧ ∀ s ∈ ss, PyData.strOk s = true) ⟨[], _, _, _, _, rfl, rfl, fun _ z => nomatch z⟩ (fun j ρ hj I => ?_) fun ρ I => ?_
    · obtain ⟨ss, a5, a8, a9, a10, rfl, hl, hk⟩ := I
      simp [killR, fz]
      refine ⟨okR_of (by omega) (by omega), ?_⟩
      refine for_range (fun i ρ => ∃ (z : Str) (b9 b10 : Option W), ρ = [some (W.int x), some (W.int many), some (W.str ABC), some (W.int (x / 8 % 840 % (x % 8 + 1))), some (.olst (ss.map .str)), some (.int (j : Int)), some (W.int (x % 8)), some (W.int (x / 8 / 840 % 8)), some (.str z), b9, b10] ∧ z.length = i ∧ PyData.strOk z = true) ⟨Str.ofString "", a9, a10, rfl, by decide, by decide +kernel⟩ (fun i ρ hi I => ?_) fun ρ I => ?_
      · obtain ⟨z, b9, b10, rfl, hz, hzk⟩ := I
        have hb : ∀ c : Bool, (if c = true then (1 : Int) else 0).natAbs < 2 ^ 64 := fun c => by cases c <;> decide
        have h26 : (26 * (i : Int) * (i : Int)) = ((26 * i * i : Nat) : Int) := by simp
        have i8 : i ≤ 8 := by omega
        have ii : 26 * i * i ≤ 26 * 8 * 8 := by
          have := Nat.mul_le_mul (Nat.mul_le_mul_left 26 i8) i8
          exact this
        have j3 : j ≤ 3 := by omega
        have jj : ((j : Int) * (x / 8 / 840 % 8 + 1)).natAbs < 2 ^ 64 := by
          rw [Int.natAbs_mul]
          have h1 : ((j : Int)).natAbs ≤ 3 := by omega
          have h2 : (x / 8 / 840 % 8 + 1).natAbs ≤ 8 := by omega
          have := Nat.mul_le_mul h1 h2
          omega
        simp [killR, fz]
        rw [h26]
        have lg : (53761 + ((26 * i * i : Nat) : Int)).natAbs.log2 ≤ 63 := log2_lt (by omega)
        refine ⟨mk64 (by omega) (by omega), mk64 (by omega) (by omega), ⟨by omega, by omega⟩, mk64 (by omega) (by omega), mk64 jj (by split <;> decide), ?_⟩
        obtain ⟨ch, e, hch⟩ := abc_ix ((x / (53761 + ((26 * i * i : Nat) : Int)) + (j : Int) * (x / 8 / 840 % 8 + 1) * if (i : Int) = x / 8 % 840 % (x % 8 + 1) then 1 else 0))
        rw [e]
        simp [fz]
        have l1 : (⟨#[ch]⟩ : Str).length = 1 := rfl
        exact ⟨by rw [l1]; omega, by rw [Str.length_append, l1, hz], strOk_app hzk (abc_ok hch)⟩
      · obtain ⟨z, b9, b10, rfl, hz, hzk⟩ := I
        simp [W.isSh]
        refine ⟨by omega, ss ++ [z], by simp, by simp [hl], fun s hs => ?_⟩
        rcases List.mem_append.mp hs with h | h
        · exact hk s h
        · rcases List.mem_singleton.mp h with rfl; exact hzk
    · obtain ⟨ss, a5, a8, a9, a10, rfl, hl, hk⟩ := I
      have ne : ss ≠ [] := fun z => by subst z; simp at hl; omega
      simp [gSorted_str ne (by omega)]
      refine ⟨sortS ss, rfl, ?_, fun s hs => hk s ((sortS_ok ss).1.mem_iff.mp hs)⟩
      rw [(sortS_ok ss).1.length_eq]
      omega
  obtain ⟨w, e, ss, rfl, h⟩ := wp_ex q
  exact ⟨ss, e, h⟩
abbrev Case := Option (Int × List Int)
def eC : Case → W
  | none => .non
  | some (to, fs) => .tup [.int to, .tup (fs.map .int)]
theorem int_sh (l : List Int) : (l.map W.int).all W.isSh = true := by simp [W.isSh]
theorem fz_ints (l : List Int) : fzs (l.map W.int) = l.map W.int := by
  induction l with
  | nil => rfl
  | cons x l ih => simp [fzs, fz, ih]
theorem gTuple_ints (l : List Int) : gTuple [W.olst (l.map W.int)] = some (W.tup (l.map W.int)) := by
  have e1 : els (.olst (l.map W.int)) = some (l.map W.int) := if_pos (int_sh l)
  show (match els (.olst (l.map W.int)) with
    | some xs => some (W.tup xs)
    | none => _) = _
  rw [e1]
theorem popW_ok {xs : List W} {i : Int} (h0 : 0 ≤ i) (h1 : i < xs.length) (h2 : xs.length < 2 ^ 40) : ∃ h : i.toNat < xs.length, popW xs (some i) = some (fz xs[i.toNat], xs.eraseIdx i.toNat) := by
  have h : i.toNat < xs.length := by omega
  refine ⟨h, ?_⟩
  have e1 : popK xs.length (some i) = some i.toNat := by
    unfold popK
    simp only
    rw [if_pos ⟨by omega, by omega⟩]
    unfold seqIndex?
    simp only
    rw [if_neg (by omega : ¬ i < 0)]
    rw [if_pos (by simp only [Bool.and_eq_true, decide_eq_true_eq]; omega)]
  unfold popW
  rw [e1]
  simp only
  rw [List.getElem?_eq_getElem h]
theorem gIdx_ints {l : List Int} {i : Int} (h0 : 0 ≤ i) (h1 : i < l.length) : ∃ v, l[i.toNat]? = some v ∧ v ∈ l ∧ gIdx (.lst (l.map W.int)) (.int i) = some (.int v) := by
  obtain ⟨k, e⟩ := atI_ok (l := l.map W.int) h0 (by simpa using h1)
  have h : i.toNat < l.length := by simpa using k
  refine ⟨l[i.toNat], List.getElem?_eq_getElem h, List.getElem_mem h, ?_⟩
  have e2 : gIdx (.lst (l.map W.int)) (.int i) = atI (l.map W.int) i := rfl
  rw [e2, e]
  simp
/-- keepers, small -/
def Kp (ks : List Int) : Prop := 0 < ks.length ∧ ks.length ≤ 6 ∧ ∀ k ∈ ks, 0 ≤ k ∧ k ≤ 3
def WfC (size : Nat) (n : Int) : Case → Prop
  | none => True
  | some (to, fs) => 0 ≤ to ∧ to < size ∧ (∀ f ∈ fs, 0 ≤ f ∧ f ≤ n) ∧ fs.length ≤ 10
theorem sub_cut {l : List W} {T : Int} (h : 0 ≤ T) : (cutW l (some 2) (some (2 + T))).length ≤ T.toNat := by
  have e : HT.sIx l.length l.length (some (2 + T)) = min (2 + T).toNat l.length := if_neg (by omega)
  have e2 : HT.sIx l.length 0 (some 2) = min 2 l.length := rfl
  unfold cutW
  rw [e, e2]
  simp
  omega
theorem er_map : ∀ (s : List Int) (j : Nat), (s.map W.int).eraseIdx j = (s.eraseIdx j).map W.int
  | [], _ => by simp
  | x :: s, 0 => by simp
  | x :: s, j + 1 => by simp [er_map s j]
theorem r_case (ys ks : List Int) (r k : Int) (hk : Kp ks) (hy : ys.length = 5) (r0 : 0 ≤ r) (r1 : r < ks.length) : ∃ (c : Case) (R : Int), runF 8 f_case [.lst (ys.map .int), .lst (ks.map .int), .int r, .int k] = some (.ok (eC c)) ∧ ks[r.toNat]? = some R ∧ WfC ks.length R c := by
  obtain ⟨q0, q1, q2⟩ := hk
  obtain ⟨R, hR, mR, er⟩ := gIdx_ints (l := ks) r0 r1
  obtain ⟨y1, hy1, my1, ey1⟩ := gIdx_ints (l := ys) (i := 1) (by decide) (by omega)
  obtain ⟨y0, hy0, my0, ey0⟩ := gIdx_ints (l := ys) (i := 0) (by decide) (by omega)
  have t0 : 0 ≤ y1 % (ks.length : Int) := Int.emod_nonneg _ (by omega)
  have t1 : y1 % (ks.length : Int) < ks.length := Int.emod_lt_of_pos _ (by omega)
  obtain ⟨T, hT, mT, et⟩ := gIdx_ints (l := ks) t0 t1
  have br := q2 _ mR
  have bt := q2 _ mT
  have q : wp (runF 8 f_case [.lst (ys.map .int), .lst (ks.map .int), .int r, .int k]) (fun w => ∃ c : Case, w = eC c ∧ WfC ks.length R c) fun _ => False := by
    generalize hto : y1 % (ks.length : Int) = to at *
    rw [wp_run]
    unfold f_case
    simp [startR, killR, fz, W.isSh, er, ey1, ey0, hto, et]
    refine ⟨by omega, ⟨by split <;> omega, by split <;> omega, by split <;> omega⟩, fun _ => ⟨none, rfl, trivial⟩, fun hy0' => ⟨fun _ => ⟨none, rfl, trivial⟩, fun hT2 => ?_⟩⟩
    have b := big
    have hsub := sub_cut (l := ys.map W.int) (T := T) (by omega)
    rw [items_olst (List.all_eq_true.mpr fun x hx => by
      obtain ⟨i, _, rfl⟩ := List.mem_map.mp (mem_cutW hx)
      rfl), wol_some]
    have bn : 0 ≤ R + (if k = R then (1 : Int) else 0) ∧ R + (if k = R then (1 : Int) else 0) ≤ R + 1 := by split <;> omega
    generalize hn : R + (if k = R then (1 : Int) else 0) = n at *
    refine for_inv (fun i ρ => ∃ (s fs : List Int) (a7 : Option W), ρ = [some (W.lst (ys.map W.int)), some (W.lst (ks.map W.int)), some (W.int r), some (W.int k), some (W.int to), some (W.olst (s.map .int)), some (W.olst (fs.map .int)), a7] ∧ s.length + i = n.toNat ∧ fs.length = i ∧ (∀ x ∈ s, 0 ≤ x ∧ x < n) ∧ ∀ x ∈ fs, 0 ≤ x ∧ x < n) ?_ (fun i w ρ hw I => ?_) fun ρ I => ?_
    · refine ⟨(List.range n.toNat).map fun j : Nat => (0 + (j : Int)), [], none, ?_, by simp, rfl, fun x hx => ?_, fun x z => nomatch z⟩
      · simp [rangeW]
      · obtain ⟨j, hj, rfl⟩ := List.mem_map.mp hx
        have := List.mem_range.mp hj
        omega
    · obtain ⟨s, fs, a7, rfl, hs, hf, hsb, hfb⟩ := I
      have mw := mem_cutW (List.mem_of_getElem? hw)
      obtain ⟨d, hd, rfl⟩ := List.mem_map.mp mw
      have hi : i < T.toNat := Nat.lt_of_lt_of_le (List.getElem?_eq_some_iff.mp hw).1 hsub
      have sp : 0 < s.length := by omega
      refine ⟨_, rfl, ?_⟩
      obtain ⟨h, e⟩ := popW_ok (xs := s.map W.int) (i := d % (s.length : Int)) (Int.emod_nonneg _ (by omega)) (by rw [List.length_map]; exact Int.emod_lt_of_pos _ (by omega)) (by rw [List.length_map]; omega)
      simp [sp, e, wpop]
      refine ⟨by omega, ?_⟩
      have h' : (d % (s.length : Int)).toNat < s.length := by simpa using h
      refine ⟨s.eraseIdx (d % (s.length : Int)).toNat, fs ++ [s[(d % (s.length : Int)).toNat]], ?_, ?_, by simp [hf], fun x hx => hsb x (List.mem_of_mem_eraseIdx hx), fun x hx => ?_⟩
      · simp [er_map, fz]
      · rw [List.length_eraseIdx_of_lt h']; omega
      · rcases List.mem_append.mp hx with z | z
        · exact hfb x z
        · rcases List.mem_singleton.mp z with rfl
          exact hsb _ (List.getElem_mem h')
    · obtain ⟨s, fs, a7, rfl, hs, hf, hsb, hfb⟩ := I
      simp [gTuple_ints, mkTup, W.isSh]
      refine ⟨by omega, some (to, fs), rfl, t0, t1, fun f hf => ?_, by omega⟩
      have := hfb f hf
      omega
  obtain ⟨w, e, c, rfl, h⟩ := wp_ex q
  exact ⟨c, R, e, hR, h⟩
abbrev Room := Int × Bool × List (List Case)
def eCs (cs : List Case) : W := .lst (cs.map eC)
def eR : Room → W
  | (k, g, st) => .tup [.int k, .bl g, .lst (st.map eCs)]
def WfR (size nsg : Nat) (R : Int) (m : Room) : Prop := m.1 = R ∧ m.2.2.length = nsg ∧ ∀ cs ∈ m.2.2, (cs.length : Int) = R + 1 ∧ ∀ c ∈ cs, WfC size R c
theorem eC_sh (c : Case) : (eC c).isSh = true ∧ fz (eC c) = eC c := by
  cases c with
  | none => exact ⟨rfl, rfl⟩
  | some x => exact ⟨rfl, rfl⟩
theorem fzs_map {α : Type} {f : α → W} (h : ∀ x, fz (f x) = f x) : ∀ l : List α, fzs (l.map f) = l.map f
  | [] => rfl
  | x :: l => by simp [fzs, h x, fzs_map h l]
theorem fz_C (l : List Case) : fzs (l.map eC) = l.map eC := fzs_map (fun c => (eC_sh c).2) l
theorem fz_Cs (l : List (List Case)) : fzs (l.map eCs) = l.map eCs := fzs_map (fun _ => rfl) l
theorem fz_R (l : List Room) : fzs (l.map eR) = l.map eR := fzs_map (fun x => by obtain ⟨a, b, c⟩ := x; rfl) l
theorem fz_str (l : List Str) : fzs (l.map W.str) = l.map W.str := fzs_map (fun _ => rfl) l
theorem clos_ints (l : List Int) : clos (l.map W.int) = true := by
  induction l with
  | nil => rfl
  | cons x l ih => simp [clos, clo, ih]
abbrev bCase : SS := (sSeq (sFrz [] (sAsg false 13 (sCall (runF 4 f_digits) [(sCall (runF 4 f_draw) [(sVarB 0), (sVarB 7)]), (sLst [(sC (.int (6))), (sC (.int (60))), (sC (.int (60))), (sC (.int (60))), (sC (.int (60)))])]) [])) (sSeq (sFrz [] (sAsg false 7 (s2 (sVarB 7) (sC (.int (1))) gAdd) [])) (sFrz [] (sApp 11 (sCall (runF 8 f_case) [(sVarB 13), (sVarB 5), (sVarB 8), (sVarB 12)]) []))))
abbrev bStep : SS := (sSeq (sFrz [] (sAsg true 11 (sLst []) [])) (sSeq (sFrz [] (sFor (sItemsA rngW [(s2 (s2 (sVarB 5) (sVarB 8) gIdx) (sC (.int (1))) gAdd)]) (gT 12) bCase)) (sFrz [11] (sApp 9 (sVar 11) []))))
abbrev bRoom : SS := (sSeq (sFrz [] (sAsg true 9 (sLst []) [])) (sSeq (sFrz [] (sFor (sItemsA rngW [(sBi gLen [(sVarB 2)])]) (gT 10) bStep)) (sFrz [9] (sApp 6 (sTup [(shOnly (s2 (sVarB 5) (sVarB 8) gIdx)), (s2 (s2 (sVarB 3) (s2 (sC (.int (9))) (sVarB 8) gAdd) gIdx) (sC (.int (1))) (gCmp .Eq)), (sVar 9)]) []))))
theorem case_loop {ns ks : List Int} (hs : Sc ns) (hk : Kp ks) {r : Nat} {R : Int} (hr : ks[r]? = some R) {A1 A2 A3 A4 A6 A9 A10 a12 a13 : Option W} {at0 : Int} (h0 : 0 ≤ at0) (h1 : at0 ≤ 1000) {Q : Out → Prop}
    (fin : ∀ (cs : List Case) (a : Int) a12 a13, (cs.length : Int) = R + 1 → (∀ c ∈ cs, WfC ks.length R c) → 0 ≤ a → a ≤ at0 + 4 → Q (.nx [some (.klst (ns.map .int)), A1, A2, A3, A4, some (.lst (ks.map .int)), A6, some (.int a), some (.int (r : Int)), A9, A10, some (.olst (cs.map eC)), a12, a13])) :
    ws (forLoop (gT 12) bCase (rangeW 0 (R + 1).toNat) [some (.klst (ns.map .int)), A1, A2, A3, A4, some (.lst (ks.map .int)), A6, some (.int at0), some (.int (r : Int)), A9, A10, some (.olst []), a12, a13]) Q := by
  have hR := hk.2.2 R (List.mem_of_getElem? hr)
  have hrl : r < ks.length := (List.getElem?_eq_some_iff.mp hr).1
  refine for_range (fun k ρ => ∃ (cs : List Case) (a12 a13 : Option W), ρ = [some (.klst (ns.map .int)), A1, A2, A3, A4, some (.lst (ks.map .int)), A6, some (.int (at0 + (k : Int))), some (.int (r : Int)), A9, A10, some (.olst (cs.map eC)), a12, a13] ∧ cs.length = k ∧ ∀ c ∈ cs, WfC ks.length R c) ⟨[], a12, a13, by simp, rfl, fun _ z => nomatch z⟩ (fun k ρ hj I => ?_) fun ρ I => ?_
  · obtain ⟨cs, a12, a13, rfl, hl, hw⟩ := I
    obtain ⟨x0, hx0, x00, x01⟩ := r_draw hs (at0 + (k : Int)) (by omega) (by omega)
    have hd := r_digits x0 [6, 60, 60, 60, 60] (by intro s hs; simp at hs; omega) (by decide)
    have hdl := digs_len x0 [6, 60, 60, 60, 60]
    generalize digs x0 [6, 60, 60, 60, 60] = D at hd hdl
    simp at hdl hd
    obtain ⟨c, R2, hc, hc2, hc3⟩ := r_case D ks (r : Int) (k : Int) hk hdl (by omega) (by omega)
    have e : R2 = R := by
      have : ((r : Int)).toNat = r := by omega
      rw [this, hr] at hc2
      exact (Option.some.inj hc2).symm
    subst e
    have b := big
    have hcl : clo (eC c) = true ∨ True := .inr trivial
    simp [killR, fz, fzs, fz_ints, W.isSh, hx0, hd, clo, clos, clos_ints, hc]
    refine ⟨by omega, by omega, cs ++ [c], ⟨by omega, by simp⟩, by simp [hl], fun x hx => ?_⟩
    rcases List.mem_append.mp hx with z | z
    · exact hw x z
    · rcases List.mem_singleton.mp z with rfl; exact hc3
  · obtain ⟨cs, a12, a13, rfl, hl, hw⟩ := I
    exact fin cs _ _ _ (by omega) hw (by omega) (by omega)
theorem step_loop {ns ks : List Int} (hs : Sc ns) (hk : Kp ks) {r : Nat} {R : Int} (hr : ks[r]? = some R) {nsg : Nat} (hn : nsg ≤ 3) {A1 A2 A3 A4 A6 a10 a11 a12 a13 : Option W} {at0 : Int} (h0 : 0 ≤ at0) (h1 : at0 ≤ 900) {Q : Out → Prop}
    (fin : ∀ (st : List (List Case)) (a : Int) a10 a11 a12 a13, st.length = nsg → (∀ cs ∈ st, (cs.length : Int) = R + 1 ∧ ∀ c ∈ cs, WfC ks.length R c) → 0 ≤ a → a ≤ at0 + 12 → Q (.nx [some (.klst (ns.map .int)), A1, A2, A3, A4, some (.lst (ks.map .int)), A6, some (.int a), some (.int (r : Int)), some (.olst (st.map eCs)), a10, a11, a12, a13])) :
    ws (forLoop (gT 10) bStep (rangeW 0 nsg) [some (.klst (ns.map .int)), A1, A2, A3, A4, some (.lst (ks.map .int)), A6, some (.int at0), some (.int (r : Int)), some (.olst []), a10, a11, a12, a13]) Q := by
  have hR := hk.2.2 R (List.mem_of_getElem? hr)
  have hrl : r < ks.length := (List.getElem?_eq_some_iff.mp hr).1
  obtain ⟨R2, e1, _, e2⟩ := gIdx_ints (l := ks) (i := (r : Int)) (by omega) (by omega)
  have e : R2 = R := by
    have : ((r : Int)).toNat = r := by omega
    rw [this, hr] at e1
    exact (Option.some.inj e1).symm
  subst e
  refine for_range (fun k ρ => ∃ (st : List (List Case)) (a : Int) (a10 a11 a12 a13 : Option W), ρ = [some (.klst (ns.map .int)), A1, A2, A3, A4, some (.lst (ks.map .int)), A6, some (.int a), some (.int (r : Int)), some (.olst (st.map eCs)), a10, a11, a12, a13] ∧ st.length = k ∧ (∀ cs ∈ st, (cs.length : Int) = R2 + 1 ∧ ∀ c ∈ cs, WfC ks.length R2 c) ∧ 0 ≤ a ∧ a ≤ at0 + 4 * (k : Int)) ⟨[], at0, _, _, _, _, rfl, rfl, (fun _ z => nomatch z), h0, by simp⟩ (fun k ρ hj I => ?_) fun ρ I => ?_
  · obtain ⟨st, a, a10, a11, a12, a13, rfl, hl, hw, a0, a1⟩ := I
    have b := big
    simp [killR, e2]
    refine ⟨okR_of (by omega) (by omega), ?_⟩
    refine case_loop hs hk hr a0 (by omega) fun cs a' b12 b13 hcl hcw a0' a1' => ?_
    simp [frzR, fz, fz_C, W.isSh, killR]
    refine ⟨by omega, st ++ [cs], a', ⟨rfl, by simp [eCs]⟩, by simp [hl], fun x hx => ?_, a0', by omega⟩
    rcases List.mem_append.mp hx with z | z
    · exact hw x z
    · rcases List.mem_singleton.mp z with rfl; exact ⟨hcl, hcw⟩
  · obtain ⟨st, a, a10, a11, a12, a13, rfl, hl, hw, a0, a1⟩ := I
    exact fin st a _ _ _ _ hl hw a0 (by omega)
def WfP (nsg : Nat) (ks : List Int) (rooms : List Room) : Prop := Kp ks ∧ rooms.length = ks.length ∧ ∀ (r : Nat) R, ks[r]? = some R → ∃ m, rooms[r]? = some m ∧ WfR ks.length nsg R m
theorem map_some {α : Type} {l : List α} {m : List α} {i : Nat} {x : α} (h : l[i]? = some x) : (l ++ m)[i]? = some x := by
  have := (List.getElem?_eq_some_iff.mp h).1
  rw [List.getElem?_append_left this]; exact h
theorem gList_str (l : List Str) : gList [W.lst (l.map W.str)] = some (W.olst (l.map W.str)) := rfl
theorem room_step {B : SS} (hB : bRoom = B) {ns ks D : List Int} (hs : Sc ns) (hk : Kp ks) {ss : List Str} {rooms : List Room} {r : Nat} {R g a sz : Int} {A1 a9 a10 a11 a12 a13 : Option W} (hR' : ks[r]? = some R) (eRr : gIdx (.lst (ks.map W.int)) (.int (r : Int)) = some (.int R)) (eg : gIdx (.lst (D.map W.int)) (.int (9 + (r : Int))) = some (.int g)) (s3 : ss.length ≤ 3) (a0 : 0 ≤ a) (a1 : a ≤ 900) {Q : Out → Prop}
    (fin : ∀ (st : List (List Case)) (a' : Int) a9 a10 a11 a12 a13, st.length = ss.length → (∀ cs ∈ st, (cs.length : Int) = R + 1 ∧ ∀ c ∈ cs, WfC ks.length R c) → 0 ≤ a' → a' ≤ a + 12 → Q (.nx [some (W.klst (List.map W.int ns)), A1, some (W.lst (List.map W.str ss)), some (W.lst (List.map W.int D)), some (W.int sz), some (W.lst (ks.map W.int)), some (W.olst ((rooms ++ [(R, decide (g = 1), st)]).map eR)), some (W.int a'), some (.int (0 + (r : Int))), a9, a10, a11, a12, a13])) (hrl : rooms.length ≤ 100) :
    ws (B [some (W.klst (List.map W.int ns)), A1, some (W.lst (List.map W.str ss)), some (W.lst (List.map W.int D)), some (W.int sz), some (W.lst (ks.map W.int)), some (W.olst (rooms.map eR)), some (W.int a), some (.int (0 + (r : Int))), a9, a10, a11, a12, a13]) Q := by
  subst hB
  have b := big
  simp [killR]
  refine ⟨okR_of (by omega) (by omega), ?_⟩
  refine step_loop hs hk hR' s3 a0 a1 fun st a' b10 b11 b12 b13 hst hsw a0' a1' => ?_
  simp [frzR, fz, fz_Cs, W.isSh, killR, eRr, eg]
  have f := fin st a' (some (.lst (st.map eCs))) b10 b11 b12 b13 hst hsw a0' a1'
  simp [eR] at f
  refine ⟨by omega, by omega, ?_⟩
  simpa [mkTup, W.isSh] using f
theorem room_next {ks : List Int} {nsg : Nat} {rooms : List Room} {r : Nat} {R : Int} {g : Bool} {st : List (List Case)} (hl : rooms.length = r) (hw : ∀ (i : Nat) R, i < r → ks[i]? = some R → ∃ m, rooms[i]? = some m ∧ WfR ks.length nsg R m) (hR' : ks[r]? = some R) (hst : st.length = nsg) (hsw : ∀ cs ∈ st, (cs.length : Int) = R + 1 ∧ ∀ c ∈ cs, WfC ks.length R c) {i : Nat} {R3 : Int} (hi : i < r + 1) (hR3 : ks[i]? = some R3) :
    ∃ m, (rooms ++ [(R, g, st)])[i]? = some m ∧ WfR ks.length nsg R3 m := by
  by_cases e : i = r
  · subst e
    rw [hR'] at hR3
    cases hR3
    refine ⟨(R, g, st), ?_, rfl, hst, hsw⟩
    rw [← hl]
    simp
  · obtain ⟨m, h1, h2⟩ := hw i R3 (by omega) hR3
    exact ⟨m, map_some h1, h2⟩
theorem gIx {l : List Int} {i : Int} (h0 : 0 ≤ i) (h1 : i < l.length) : gIdx (.lst (l.map W.int)) (.int i) = some (.int (l.getD i.toNat 0)) ∧ l[i.toNat]? = some (l.getD i.toNat 0) := by
  obtain ⟨v, a, _, b⟩ := gIdx_ints h0 h1
  have : l.getD i.toNat 0 = v := by rw [List.getD_eq_getElem?_getD, a]; rfl
  rw [this]
  exact ⟨b, a⟩
structure RS (ns ks D : List Int) (ss : List Str) (sz : Int) (r : Nat) (ρ : Rho) where
  rooms : List Room
  a : Int
  a8 : Option W
  a9 : Option W
  a10 : Option W
  a11 : Option W
  a12 : Option W
  a13 : Option W
  hρ : ρ = [some (W.klst (List.map W.int ns)), some (W.int 8), some (W.lst (List.map W.str ss)), some (W.lst (List.map W.int D)), some (W.int sz), some (W.lst (ks.map W.int)), some (W.olst (rooms.map eR)), some (W.int a), a8, a9, a10, a11, a12, a13]
  hl : rooms.length = r
  a0 : 0 ≤ a
  a1 : a ≤ 9 + 12 * (r : Int)
  hw : ∀ (i : Nat) (R : Int), i < r → ks[i]? = some R → ∃ m, rooms[i]? = some m ∧ WfR ks.length ss.length R m
theorem room_turn {B : SS} (hB : bRoom = B) {ns ks D : List Int} (hs : Sc ns) (hk : Kp ks) {ss : List Str} (s3 : ss.length ≤ 3) (hdl : D.length = 15) {sz : Int} {r : Nat} (hrk : r < ks.length) {ρ : Rho} (s : RS ns ks D ss sz r ρ) {Q : Out → Prop} (nx : ∀ ρ2, RS ns ks D ss sz (r + 1) ρ2 → Q (.nx ρ2)) : ws (B (ρ.set 8 (some (.int (0 + (r : Int)))))) Q := by
  have k6 := hk.2.1
  have hrn : (0 : Int) ≤ (r : Int) ∧ (r : Int) < ks.length ∧ 0 ≤ 9 + (r : Int) ∧ 9 + (r : Int) < D.length := by omega
  have h1 := s.a1
  have h2 := s.hl
  have hset : ρ.set 8 (some (.int (0 + (r : Int)))) = [some (W.klst (List.map W.int ns)), some (W.int 8), some (W.lst (List.map W.str ss)), some (W.lst (List.map W.int D)), some (W.int sz), some (W.lst (ks.map W.int)), some (W.olst (s.rooms.map eR)), some (W.int s.a), some (.int (0 + (r : Int))), s.a9, s.a10, s.a11, s.a12, s.a13] := (congrArg (fun l => List.set l 8 (some (.int (0 + (r : Int))))) s.hρ).trans (by simp only [List.set_cons_succ, List.set_cons_zero])
  rw [hset]
  refine room_step hB (Q := Q) (rooms := s.rooms) (a := s.a) (sz := sz) (A1 := some (W.int 8)) (a9 := s.a9) (a10 := s.a10) (a11 := s.a11) (a12 := s.a12) (a13 := s.a13) (R := ks.getD r 0) (g := D.getD (9 + (r : Int)).toNat 0) hs hk ?q1 ?q2 ?q3 s3 s.a0 ?b ?c ?d
  case q1 => exact (gIx hrn.1 hrn.2.1).2
  case q2 => exact (gIx hrn.1 hrn.2.1).1
  case q3 => exact (gIx hrn.2.2.1 hrn.2.2.2).1
  case b => omega
  case d => omega
  case c =>
    intro st a' b9 b10 b11 b12 b13 hst hsw a0' a1'
    refine nx _ ⟨s.rooms ++ [(ks.getD r 0, decide (D.getD (9 + (r : Int)).toNat 0 = 1), st)], a', some (.int (0 + (r : Int))), b9, b10, b11, b12, b13, rfl, ?_, a0', ?_, ?_⟩
    · simp [h2]
    · omega
    · intro i R3 hi hR3
      exact room_next s.hl s.hw (gIx hrn.1 hrn.2.1).2 hst hsw hi hR3
theorem room_loop {B : SS} (hB : bRoom = B) {ns ks D : List Int} (hs : Sc ns) (hk : Kp ks) {ss : List Str} (s3 : ss.length ≤ 3) (hdl : D.length = 15) {sz : Int} (hz : ks.length = sz.toNat) {Q : Out → Prop}
    (fin : ∀ (rooms : List Room) (a : Int) a8 a9 a10 a11 a12 a13, WfP ss.length ks rooms → Q (.nx [some (W.klst (List.map W.int ns)), some (W.int 8), some (W.lst (List.map W.str ss)), some (W.lst (List.map W.int D)), some (W.int sz), some (W.lst (ks.map W.int)), some (W.olst (rooms.map eR)), some (W.int a), a8, a9, a10, a11, a12, a13])) :
    ws (forLoop (gT 8) B (rangeW 0 sz.toNat) [some (W.klst (List.map W.int ns)), some (W.int 8), some (W.lst (List.map W.str ss)), some (W.lst (List.map W.int D)), some (W.int sz), some (W.lst (ks.map W.int)), some (W.olst []), some (W.int 9), none, none, none, none, none, none]) Q := by
  refine for_range (fun r ρ => Nonempty (RS ns ks D ss sz r ρ)) ⟨⟨[], 9, none, none, none, none, none, none, rfl, rfl, by omega, by omega, fun i R h => absurd h (by omega)⟩⟩ (fun r ρ hj I => I.elim fun s => room_turn hB hs hk s3 hdl (by rw [hz]; exact hj) s fun ρ2 h => ⟨h⟩) fun ρ I => I.elim fun s => ?_
  have e := s.hρ
  have f := fin s.rooms s.a s.a8 s.a9 s.a10 s.a11 s.a12 s.a13 ⟨hk, by rw [s.hl, hz], fun i R hR => s.hw i R (by have := (List.getElem?_eq_some_iff.mp hR).1; omega) hR⟩
  exact (congrArg (fun l => Q (.nx l)) e).mpr f
theorem r_plain {ns : List Int} (hs : Sc ns) (ss : List Str) (s1 : 1 ≤ ss.length) (s3 : ss.length ≤ 3) : ∃ (ks : List Int) (rooms : List Room) (a : Int), runF 14 f_plain [.klst (ns.map .int), .int 8, .lst (ss.map .str)] = some (.ok (.otup [.otup [.olst (ss.map .str), .lst (rooms.map eR)], .int a])) ∧ WfP ss.length ks rooms := by
  obtain ⟨x0, hx0, x00, x01⟩ := r_draw hs 8 (by decide) (by decide)
  have hd := r_digits x0 [24, 8, 8, 12, 12, 12, 12, 12, 12, 2, 2, 2, 2, 2, 2] (by intro s hs; simp at hs; omega) (by decide)
  have hdl := digs_len x0 [24, 8, 8, 12, 12, 12, 12, 12, 12, 2, 2, 2, 2, 2, 2]
  have q : wp (runF 14 f_plain [.klst (ns.map .int), .int 8, .lst (ss.map .str)]) (fun w => ∃ (ks : List Int) (rooms : List Room) (a : Int), w = .otup [.otup [.olst (ss.map .str), .lst (rooms.map eR)], .int a] ∧ WfP ss.length ks rooms) fun _ => False := by
    rw [wp_run]
    unfold f_plain
    generalize hD : digs x0 [24, 8, 8, 12, 12, 12, 12, 12, 12, 2, 2, 2, 2, 2, 2] = D at hd hdl
    simp at hdl
    simp at hd
    obtain ⟨d0, _, _, e0⟩ := gIdx_ints (l := D) (i := 0) (by decide) (by omega)
    obtain ⟨d1, _, _, e1⟩ := gIdx_ints (l := D) (i := 1) (by decide) (by omega)
    obtain ⟨d2, _, _, e2⟩ := gIdx_ints (l := D) (i := 2) (by decide) (by omega)
    have b := big
    simp [startR, killR, fz, fzs, W.isSh, hx0, hd, clo, clos, fz_ints, e0, e1, e2]
    refine ⟨by omega, by omega, by omega, by omega, by omega, by omega, by omega, clos_ints D, by omega, mk64 (by split <;> decide) (by omega), ?_⟩
    refine gIdx_lst (by split <;> omega) (by split <;> simp <;> omega) fun w hw => ?_
    have hsz : ∃ sz : Int, w = .int sz ∧ 1 ≤ sz ∧ sz ≤ 6 := by
      simp at hw
      rcases hw with rfl | rfl | rfl
      · exact ⟨_, rfl, by omega, by omega⟩
      · exact ⟨_, rfl, by omega, by omega⟩
      · exact ⟨_, rfl, by omega, by omega⟩
    obtain ⟨sz, rfl, sz1, sz6⟩ := hsz
    simp [fz]
    refine ⟨by omega, ⟨okR_of (by omega) (by omega), okR_of (by omega) (by omega)⟩, by omega, ?_⟩
    obtain ⟨us, eu, lu, hu⟩ := lc_all (P := fun w => ∃ v : Int, w = .int v ∧ (0 ≤ v ∧ v ≤ 3)) (t := gT 8) (f := (s2 (s2 (sVarB 3) (s2 (sC (.int (3))) (sVarB 8) gAdd) gIdx) (s2 (sC (.int (3))) (sBi gInt [(sAnd (s2 (s2 (sVarB 3) (sC (.int (2))) gIdx) (sC (.int (5))) (gCmp .Eq)) (s2 (sVarB 4) (sC (.int (4))) (gCmp .Lt)))]) gAdd) gMod)) (l := rangeW 1 (sz.toNat - 1))
      (ρ := wipeR [some (W.klst (List.map W.int ns)), some (W.int 8), some (W.lst (List.map W.str ss)), some (W.lst (List.map W.int D)), some (W.int sz), none, none, none, none, none, none, none, none, none] [8]) fun w hw => by
      obtain ⟨k, hk, rfl⟩ := mem_rangeW.mp hw
      obtain ⟨v, _, _, ev⟩ := gIdx_ints (l := D) (i := 3 + (1 + (k : Int))) (by omega) (by omega)
      refine ⟨_, rfl, ?_⟩
      simp [wipeR, ev, e2]
      refine ⟨fun _ => ⟨by split <;> omega, Int.emod_nonneg _ (by split <;> omega), ?_⟩, fun _ => by omega⟩
      split
      · have := Int.emod_lt_of_pos v (b := 3 + 1) (by omega); omega
      · have := Int.emod_lt_of_pos v (b := 3 + 0) (by omega); omega
    obtain ⟨vs, rfl, hvs⟩ := ints_of hu
    rw [eu]
    simp at lu
    have hk : Kp (0 :: vs) := ⟨by simp, by simp; omega, fun k hk => by
      rcases List.mem_cons.mp hk with rfl | h
      · omega
      · exact hvs k h⟩
    have hfz : fzs (W.int 0 :: vs.map W.int) = (0 :: vs).map W.int := fz_ints (0 :: vs)
    simp only [wol_some, hfz]
    have hklen : (0 :: vs).length = sz.toNat := by simp; omega
    generalize hK : (0 :: vs) = ks at *
    refine ⟨⟨fun x hx => ?_, ?_⟩, okR_of (by omega) (by omega), ?_⟩
    · obtain ⟨v, _, rfl⟩ := List.mem_map.mp hx
      rfl
    · simp; omega
    have hfz2 : W.int 0 :: fzs (vs.map W.int) = ks.map W.int := by rw [← hK, fz_ints]; rfl
    rw [hfz2]
    refine room_loop rfl hs hk s3 hdl hklen ?_
    intro rooms a a8 a9 a10 a11 a12 a13 hwp
    simp [frzR, fz, fz_R, W.isSh, gList_str, mkTup]
    exact ⟨by omega, ks, rooms, rfl, hwp⟩
  obtain ⟨w, e, ks, rooms, a, rfl, h⟩ := wp_ex q
  exact ⟨ks, rooms, a, e, h⟩
theorem eCs_sh (cs : List Case) : (eCs cs).isSh = true := rfl
theorem R_sh (l : List Room) : (l.map eR).all W.isSh = true := by
  rw [List.all_eq_true]
  intro x hx
  obtain ⟨m, _, rfl⟩ := List.mem_map.mp hx
  obtain ⟨a, b, c⟩ := m
  rfl
def eOs (cs : List Case) : W := .olst (cs.map eC)
def eO : Room → W
  | (k, g, st) => .otup [.int k, .bl g, .olst (st.map eOs)]
theorem fzO (l : List Room) : fzs (l.map eO) = l.map eR := by
  induction l with
  | nil => rfl
  | cons m l ih =>
    obtain ⟨k, g, st⟩ := m
    have hs : ∀ st : List (List Case), fzs (st.map eOs) = st.map eCs := fun st => by
      induction st with
      | nil => rfl
      | cons c st ih => simp [fzs, eOs, fz, fz_C, eCs, ih]
    simp [fzs, eO, fz, hs, eR, ih]
theorem r_copied (ss : List Str) (rooms : List Room) (hl : rooms.length ≤ 1000) (hst : ∀ m ∈ rooms, m.2.2.length ≤ 1000) : runF 6 f_copied [.tup [.lst (ss.map .str), .lst (rooms.map eR)]] = some (.ok (.otup [.olst (ss.map .str), .lst (rooms.map eR)])) := by
  refine wp_is ?_
  rw [wp_run]
  unfold f_copied
  have b := big
  have i0 : gIdx (.tup [.lst (ss.map .str), .lst (rooms.map eR)]) (.int 0) = some (.lst (ss.map .str)) := rfl
  have i1 : gIdx (.tup [.lst (ss.map .str), .lst (rooms.map eR)]) (.int 1) = some (.lst (rooms.map eR)) := rfl
  simp [startR, killR, i0, i1, W.isSh]
  refine for_inv (fun i ρ => ∃ (a2 a3 a4 a5 : Option W), ρ = [some (.tup [.lst (ss.map .str), .lst (rooms.map eR)]), some (.olst ((rooms.take i).map eO)), a2, a3, a4, a5]) ⟨none, none, none, none, rfl⟩ (fun i w ρ hw I => ?_) fun ρ I => ?_
  · obtain ⟨a2, a3, a4, a5, rfl⟩ := I
    rw [List.getElem?_map] at hw
    cases em : rooms[i]? with
    | none => rw [em] at hw; cases hw
    | some m =>
      rw [em] at hw
      simp at hw
      subst hw
      have hi := (List.getElem?_eq_some_iff.mp em).1
      have hm := hst m (List.mem_of_getElem? em)
      obtain ⟨k, g, st⟩ := m
      simp at hm
      refine ⟨[some (.tup [.lst (ss.map .str), .lst (rooms.map eR)]), some (.olst ((rooms.take i).map eO)), some (.int k), some (.bl g), some (.lst (st.map eCs)), a5], rfl, ?_⟩
      have tk : rooms.take (i + 1) = rooms.take i ++ [(k, g, st)] := by
        rw [List.take_add_one, em]; rfl
      have lc : lcLoop (gT 5) none (sBi gList [sVarB 5]) (wipeR [some (W.tup [W.lst (ss.map W.str), W.lst (rooms.map eR)]), some (W.olst (List.take i (rooms.map eO))), some (W.int k), some (W.bl g), some (W.lst (st.map eCs)), a5] [5]) (st.map eCs) = some ((st.map eCs).map fun w => match w with | .lst l => .olst l | w => w) := by
        refine lc_map fun w hw => ?_
        obtain ⟨cs, _, rfl⟩ := List.mem_map.mp hw
        exact ⟨_, rfl, rfl⟩
      simp [W.isSh, killR]
      rw [lc]
      simp only [wol_some]
      refine ⟨by omega, by omega, by omega, ?_⟩
      have hg := (List.getElem?_eq_some_iff.mp em).2
      rw [← List.map_take, ← List.map_take, tk]
      simp [eO, mkTup, W.isSh]
      intro x hx
      rfl
  · obtain ⟨a2, a3, a4, a5, rfl⟩ := I
    simp [frzR, fz, i0, W.isSh, gList_str, mkTup, fzO]
    omega
theorem inF_ints (v : Int) (l : List Int) : inF (.int v) (l.map W.int) = decide (v ∈ l) := by
  unfold inF
  induction l with
  | nil => rfl
  | cons x l ih =>
    simp only [List.map_cons, List.any_cons, ih, eqF, List.mem_cons, Bool.decide_or]
    congr 1
    by_cases h : v = x
    · subst h; simp
    · have : ¬ x = v := fun z => h z.symm
      simp [h, this]
theorem in_oints (v : Int) (l : List Int) : gCmp .In (.int v) (.olst (l.map .int)) = some (.bl (decide (v ∈ l))) := by
  have e1 : seqs (.olst (l.map W.int)) = some (l.map W.int) := seqs_olst (int_sh l)
  have fl : (l.map W.int).all flat = true := by simp [flat]
  show bW (match seqs (.olst (l.map W.int)) with
    | some ws => if flat (.int v) = true ∧ ws.all flat = true then some (inF (.int v) ws) else _
    | none => none) = _
  rw [e1]
  simp only
  rw [if_pos ⟨rfl, fl⟩, inF_ints]
  rfl
abbrev BB : Int := 1000000000000000000000000000000000000000000000000000000000000
def stp (v : Int) : Int := v - BB * (if v > 0 then 1 else 0) + 1
theorem stp_eq (v : Int) : stp v = if v > 0 then v - 1000000000000000000000000000000000000000000000000000000000000 + 1 else v + 1 := by
  unfold stp
  by_cases h : v > 0
  · rw [if_pos h, if_pos h]; show v - 1000000000000000000000000000000000000000000000000000000000000 * 1 + 1 = _; omega
  · rw [if_neg h, if_neg h]; omega
theorem free_soon (l : List Int) (hl : l.length ≤ 3) (v : Int) (h0 : -1000000000000000000000000000000000000000000000000000000000000 < v) (h1 : v < 1000000000000000000000000000000000000000000000000000000000000) : v ∉ l ∨ stp v ∉ l ∨ stp (stp v) ∉ l ∨ stp (stp (stp v)) ∉ l := by
  have e1 := stp_eq v
  have e2 := stp_eq (stp v)
  have e3 := stp_eq (stp (stp v))
  generalize stp (stp (stp v)) = d at *
  generalize stp (stp v) = c at *
  generalize stp v = b at *
  have key : v ≠ b ∧ v ≠ c ∧ v ≠ d ∧ b ≠ c ∧ b ≠ d ∧ c ≠ d := by
    split at e1 <;> split at e2 <;> split at e3 <;> omega
  by_cases hv : v ∈ l
  · by_cases hb : b ∈ l
    · by_cases hc : c ∈ l
      · by_cases hd : d ∈ l
        · exfalso
          match l, hl with
          | [], _ => simp at hv
          | [x], _ => simp at hv hb; omega
          | [x, y], _ => simp at hv hb hc; omega
          | [x, y, z], _ => simp at hv hb hc hd; omega
          | _ :: _ :: _ :: _ :: _, h => simp at h
        · exact .inr (.inr (.inr hd))
      · exact .inr (.inr (.inl hc))
    · exact .inr (.inl hb)
  · exact .inl hv
abbrev wBody : SS := (sFrz [] (sAsg false 5 (s2 (s2 (sVarB 5) (s2 (s2 (sC (.int (10))) (sC (.int (60))) gPow) (sBi gInt [(s2 (sVarB 5) (sC (.int (0))) (gCmp .Gt))]) gMul) gSub) (sC (.int (1))) gAdd) []))
abbrev wTest : Sem := (s2 (sVarB 5) (sVarB 3) (gCmp .In))
theorem wh_test (A0 A1 A2 A4 : Option W) (l : List Int) (v : Int) : wTest [A0, A1, A2, some (.olst (l.map .int)), A4, some (.int v)] = some (.ok (.bl (decide (v ∈ l)))) := by
  refine wp_is ?_
  simp [in_oints]
theorem wh_body (A0 A1 A2 A4 : Option W) (l : List Int) (v : Int) : wBody [A0, A1, A2, some (.olst (l.map .int)), A4, some (.int v)] = some (.nx [A0, A1, A2, some (.olst (l.map .int)), A4, some (.int (stp v))]) := by
  have q : ws (wBody [A0, A1, A2, some (.olst (l.map .int)), A4, some (.int v)]) (fun o => o = .nx [A0, A1, A2, some (.olst (l.map .int)), A4, some (.int (stp v))]) := by
    simp [killR, fz, stp]
    exact mulOk_of (a := 255) (b := 63) (by decide) (by split <;> decide) (by decide)
  unfold ws at q
  split at q
  · rename_i r er; rw [er, q]
  · exact q.elim
def it : Nat → Int → Int
  | 0, v => v
  | n + 1, v => it n (stp v)
theorem wh_go (A0 A1 A2 A4 : Option W) (l : List Int) : ∀ (k : Nat) (v : Int) (fuel : Nat), k < fuel → it k v ∉ l → ∃ v', whLoop wTest wBody fuel [A0, A1, A2, some (.olst (l.map .int)), A4, some (.int v)] = some (.nx [A0, A1, A2, some (.olst (l.map .int)), A4, some (.int v')]) ∧ v' ∉ l
  | k, v, 0, h, _ => absurd h (by omega)
  | k, v, fuel + 1, h, hk => by
    unfold whLoop
    rw [wh_test]
    by_cases hv : v ∈ l
    · rw [decide_eq_true hv]
      simp only
      rw [wh_body]
      simp only
      cases k with
      | zero => exact absurd hv hk
      | succ k => exact wh_go A0 A1 A2 A4 l k (stp v) fuel (by omega) hk
    · rw [decide_eq_false hv]
      exact ⟨v, rfl, hv⟩
theorem ws_Wh {n : Nat} {t : Sem} {b : SS} {ρ : Rho} {Q : Out → Prop} : ws (sWh n t b ρ) Q = ws (whLoop t b n ρ) Q := rfl
theorem r_unlike {ns : List Int} (hs : Sc ns) (many : Int) (m0 : 0 ≤ many) (m4 : many ≤ 4) : ∃ l : List Int, runF 6 f_unlike [.klst (ns.map .int), .int 3, .int many] = some (.ok (.olst (l.map .int))) ∧ (l.length : Int) = many ∧ l.Nodup := by
  have q : wp (runF 6 f_unlike [.klst (ns.map .int), .int 3, .int many]) (fun w => ∃ l : List Int, w = .olst (l.map .int) ∧ (l.length : Int) = many ∧ l.Nodup) fun _ => False := by
    rw [wp_run]
    unfold f_unlike
    have b := big
    simp [startR, killR, fz, W.isSh]
    refine ⟨okR_of (by omega) (by omega), ?_⟩
    refine for_range (fun j ρ => ∃ (l : List Int) (a4 a5 : Option W), ρ = [some (.klst (ns.map .int)), some (.int 3), some (.int many), some (.olst (l.map .int)), a4, a5] ∧ l.length = j ∧ l.Nodup) ⟨[], none, none, rfl, rfl, List.nodup_nil⟩ (fun j ρ hj I => ?_) fun ρ I => ?_
    · obtain ⟨l, a4, a5, rfl, hl, hn⟩ := I
      obtain ⟨x, hx, x0, x1⟩ := r_draw hs (3 + (j : Int)) (by omega) (by omega)
      obtain ⟨v, hv, v0, v1⟩ := r_name x x0
      have fs := free_soon l (by omega) v v0 v1
      have ex : ∃ k, k ≤ 3 ∧ it k v ∉ l := by
        rcases fs with h | h | h | h
        · exact ⟨0, by omega, h⟩
        · exact ⟨1, by omega, h⟩
        · exact ⟨2, by omega, h⟩
        · exact ⟨3, by omega, h⟩
      obtain ⟨k, hk, hf⟩ := ex
      obtain ⟨v', hw, hv'⟩ := wh_go (some (.klst (ns.map .int))) (some (.int 3)) (some (.int many)) (some (.int (j : Int))) l k v whFuel (by unfold whFuel; omega) hf
      simp [killR, fz, W.isSh, hx, hv, clo, ws_Wh]
      have hw2 : whLoop (s2 (sVarB 5) (sVarB 3) (gCmp .In)) wBody whFuel [some (.klst (ns.map .int)), some (.int 3), some (.int many), some (.olst (l.map .int)), some (.int (j : Int)), some (.int v)] = _ := hw
      rw [hw2]
      simp [ws, wv, W.isSh, wol1]
      refine ⟨by omega, l ++ [v'], by simp, by simp [hl], ?_⟩
      rw [List.nodup_append]
      exact ⟨hn, by simp, fun a ha b hb e => hv' (by simp at hb; subst hb; subst e; exact ha)⟩
    · obtain ⟨l, a4, a5, rfl, hl, hn⟩ := I
      simp
      exact ⟨l, rfl, by omega, hn⟩
  obtain ⟨w, e, l, rfl, h⟩ := wp_ex q
  exact ⟨l, e, h⟩
theorem atI_nat {α : Type} (l : List α) (i : Nat) : atI l (i : Int) = l[i]? := by
  unfold atI ixN
  rw [if_pos (by omega)]
  by_cases h : (i : Int) < l.length
  · rw [if_pos h]; simp
  · rw [if_neg h]; simp; omega
theorem gl_nat (l : List W) (i : Nat) : gIdx (.lst l) (.int (i : Int)) = l[i]? := atI_nat l i
theorem gt_nat (l : List W) (i : Nat) : gIdx (.tup l) (.int (i : Int)) = l[i]? := atI_nat l i
theorem findF_ints {v : Int} : ∀ {nm : List Int} {p : Nat}, nm.Nodup → nm[p]? = some v → findF (.int v) (nm.map W.int) = some p
  | [], p, _, h => by simp at h
  | x :: nm, 0, hn, h => by
    simp at h
    subst h
    simp [findF, eqF]
  | x :: nm, p + 1, hn, h => by
    simp at h
    have hx : x ≠ v := fun e => by
      subst e
      exact (List.nodup_cons.mp hn).1 (List.mem_of_getElem? h)
    have ih := findF_ints (List.nodup_cons.mp hn).2 h
    simp [findF, eqF, hx, ih]
theorem findF_strs {s : Str} : ∀ {ss : List Str}, s ∈ ss → ∃ j, j < ss.length ∧ findF (.str s) (ss.map W.str) = some j
  | [], h => nomatch h
  | x :: ss, h => by
    by_cases e : x = s
    · subst e; exact ⟨0, by simp, by simp [findF, eqF]⟩
    · rcases List.mem_cons.mp h with h | h
      · exact absurd h.symm e
      · obtain ⟨j, a, b⟩ := findF_strs h
        exact ⟨j + 1, by simp [a], by simp [findF, eqF, e, b]⟩
theorem nin_strs (s : Str) (ss : List Str) : gCmp .NotIn (.str s) (.lst (ss.map .str)) = some (.bl (!decide (s ∈ ss))) := by
  have inf : inF (.str s) (ss.map W.str) = decide (s ∈ ss) := by
    unfold inF
    induction ss with
    | nil => rfl
    | cons x l ih =>
      simp only [List.map_cons, List.any_cons, ih, eqF, List.mem_cons, Bool.decide_or]
      congr 1
      by_cases h : s = x
      · subst h; simp
      · have : ¬ x = s := fun z => h z.symm
        simp [h, this]
  have fl : (ss.map W.str).all flat = true := by simp [flat]
  show nW (match seqs (.lst (ss.map W.str)) with
    | some ws => if flat (.str s) = true ∧ ws.all flat = true then some (inF (.str s) ws) else _
    | none => none) = _
  have e1 : seqs (.lst (ss.map W.str)) = some (ss.map W.str) := rfl
  rw [e1]
  simp only
  rw [if_pos ⟨rfl, fl⟩, inf]
  rfl
theorem in_tints (v : Int) (l : List Int) : gCmp .In (.int v) (.tup (l.map .int)) = some (.bl (decide (v ∈ l))) := by
  have e1 : seqs (.tup (l.map W.int)) = some (l.map W.int) := rfl
  have fl : (l.map W.int).all flat = true := by simp [flat]
  show bW (match seqs (.tup (l.map W.int)) with
    | some ws => if flat (.int v) = true ∧ ws.all flat = true then some (inF (.int v) ws) else _
    | none => none) = _
  rw [e1]
  simp only
  rw [if_pos ⟨rfl, fl⟩, inF_ints]
  rfl
theorem idx_str {s : Str} {ss : List Str} {j : Nat} (h : findF (.str s) (ss.map W.str) = some j) : mIdxL (.lst (ss.map .str)) [.str s] = some (.int (j : Nat)) := by
  have fl : (ss.map W.str).all flat = true := by simp [flat]
  show (match els (.lst (ss.map W.str)) with
    | some ws => if flat (.str s) = true ∧ ws.all flat = true then (match findF (.str s) ws with | some j => some (W.int (j : Nat)) | none => none) else none
    | none => none) = _
  have e1 : els (.lst (ss.map W.str)) = some (ss.map W.str) := rfl
  rw [e1]
  simp only
  rw [if_pos ⟨rfl, fl⟩, h]
theorem idx_int {v : Int} {nm : List Int} {j : Nat} (h : findF (.int v) (nm.map W.int) = some j) : mIdxT (.tup (nm.map .int)) [.int v] = some (.int (j : Nat)) := by
  have fl : (nm.map W.int).all flat = true := by simp [flat]
  show (match nels (.tup (nm.map W.int)) with
    | some ws => if flat (.int v) = true ∧ ws.all flat = true then (match findF (.int v) ws with | some j => some (W.int (j : Nat)) | none => none) else none
    | none => none) = _
  have e1 : nels (.tup (nm.map W.int)) = some (nm.map W.int) := rfl
  rw [e1]
  simp only
  rw [if_pos ⟨rfl, fl⟩, h]
def At (nm : List Int) (v : Int) (p : Nat) : Prop := nm[p]? = some v ∨ (p = nm.length ∧ v ∉ nm)
theorem at_ex (nm : List Int) (v : Int) : ∃ p, At nm v p := by
  by_cases h : v ∈ nm
  · obtain ⟨i, hi, e⟩ := List.getElem_of_mem h
    exact ⟨i, .inl (by rw [List.getElem?_eq_getElem hi, e])⟩
  · exact ⟨nm.length, .inr ⟨rfl, h⟩⟩
def resW (nm : List Int) (v : Int) : Case → W
  | none => .non
  | some (to, fs) => .tup [.int to, .tup (fs.map fun f => .int (nm.getD f.toNat v))]
abbrev PW (ss : List Str) (rooms : List Room) : W := .tup [.lst (ss.map .str), .lst (rooms.map eR)]
/-- what stands at the place -/
structure Pl (ss : List Str) (rooms : List Room) (r : Nat) (s : Str) (nm : List Int) (v : Int) (p j : Nat) (R : Int) (g : Bool) (st : List (List Case)) (cs : List Case) (c : Case) : Prop where
  m : rooms[r]? = some (R, g, st)
  at' : At nm v p
  nd : nm.Nodup
  j' : findF (.str s) (ss.map W.str) = some j
  ms : s ∈ ss
  cs' : st[j]? = some cs
  c' : cs[p]? = some c
  wf : ∀ to fs, c = some (to, fs) → ∀ f ∈ fs, 0 ≤ f ∧ f ≤ nm.length
  ln : nm.length ≤ 1000
  fl : ∀ to fs, c = some (to, fs) → fs.length ≤ 1000
section
variable {ss : List Str} {rooms : List Room} {r : Nat} {s : Str} {nm : List Int} {v : Int} {p j : Nat} {R : Int} {g : Bool} {st : List (List Case)} {cs : List Case} {c : Case}
theorem Pl.ch (P : Pl ss rooms r s nm v p j R g st cs c) : gIdx (.lst (rooms.map eR)) (.int (r : Int)) = some (.tup [.int R, .bl g, .lst (st.map eCs)]) ∧ gIdx (.lst (st.map eCs)) (.int (j : Int)) = some (.lst (cs.map eC)) ∧ gIdx (.lst (cs.map eC)) (.int (p : Int)) = some (eC c) := by
  refine ⟨?_, ?_, ?_⟩
  · rw [gl_nat, List.getElem?_map, P.m]; rfl
  · rw [gl_nat, List.getElem?_map, P.cs']; rfl
  · rw [gl_nat, List.getElem?_map, P.c']; rfl
theorem nm_at (f : Int) (h0 : 0 ≤ f) (h1 : f ≤ nm.length) : gIdx (.tup (nm.map W.int ++ [.int v])) (.int f) = some (.int (nm.getD f.toNat v)) := by
  obtain ⟨n, rfl⟩ := Int.eq_ofNat_of_zero_le h0
  have hn : n ≤ nm.length := by omega
  have e0 : ((n : Int)).toNat = n := by simp
  rw [gt_nat, e0]
  by_cases h : n < nm.length
  · rw [List.getElem?_append_left (by simpa using h)]
    simp [List.getD_eq_getElem?_getD, h]
  · have : n = nm.length := by omega
    subst this
    simp [List.getD_eq_getElem?_getD]
theorem r_read_by (P : Pl ss rooms r s nm v p j R g st cs c) : runF 10 f_read_by [PW ss rooms, .tup [.int (r : Int), .tup (nm.map .int)], .str s, .int v] = some (.ok (resW nm v c)) := by
  refine wp_is ?_
  obtain ⟨c1, c2, c3⟩ := P.ch
  have ixs := idx_str P.j'
  have b := big
  have ln := P.ln
  have i0 : gIdx (PW ss rooms) (.int 0) = some (.lst (ss.map .str)) := rfl
  have i1 : gIdx (PW ss rooms) (.int 1) = some (.lst (rooms.map eR)) := rfl
  have i2 : gIdx (.tup [.int R, .bl g, .lst (st.map eCs)]) (.int 2) = some (.lst (st.map eCs)) := rfl
  have hnon : gCmp .Is (.tup [.int (r : Int), .tup (nm.map W.int)]) .non = some (.bl false) := rfl
  have hadd : gAdd (.tup (nm.map W.int)) (mkTup [.int v]) = some (.tup (nm.map W.int ++ [.int v])) := by
    have hmk : mkTup [W.int v] = .tup [W.int v] := rfl
    rw [hmk]
    show (if (nm.map W.int).length + [W.int v].length ≤ sizeLine then some (W.tup (nm.map W.int ++ [W.int v])) else none) = _
    rw [if_pos (by simp; omega)]
  have wf := P.wf
  have fin : ∀ (to : Int) (fs : List Int) (A0 A1 A2 A3 A4 A5 A7 A8 : Option W), c = some (to, fs) → lcLoop (gT 9) none (shOnly (s2 (sVarB 6) (sVarB 9) gIdx)) (wipeR [A0, A1, A2, A3, A4, A5, some (.tup (nm.map W.int ++ [.int v])), A7, A8, none] [9]) (fs.map W.int) = some (fs.map fun f => W.int (nm.getD f.toNat v)) := fun to fs A0 A1 A2 A3 A4 A5 A7 A8 hc => by
    have := lc_map (t := gT 9) (f := shOnly (s2 (sVarB 6) (sVarB 9) gIdx)) (ρ := wipeR [A0, A1, A2, A3, A4, A5, some (.tup (nm.map W.int ++ [.int v])), A7, A8, none] [9]) (l := fs.map W.int) (k := fun w => match w with | .int f => .int (nm.getD f.toNat v) | w => w) fun w hw => by
      obtain ⟨f, hf, rfl⟩ := List.mem_map.mp hw
      obtain ⟨f0, f1⟩ := wf to fs hc f hf
      refine ⟨_, rfl, wp_is ?_⟩
      simp [wipeR, nm_at f f0 f1, W.isSh]
    rw [this]
    simp
  have hfl : ∀ to fs, c = some (to, fs) → fs.length ≤ 1000 := P.fl
  rw [wp_run]
  unfold f_read_by
  simp [startR, killR, fz, W.isSh, i0, i1, hnon, nin_strs, P.ms, gU, gTs, seqs, els, tels, gT, in_tints]
  refine ⟨fun hv => ?_, fun hv => ?_⟩
  · have hp : nm[p]? = some v := P.at'.elim id fun z => absurd hv z.2
    cases hc : c with
    | none =>
      subst hc
      simp [wp_M3, tyW, idx_int (findF_ints P.nd hp), fz, c1, i2, i0, ixs, c2, c3, eC, gCmp, bW, gIsB, resW]
    | some tf =>
      obtain ⟨to, fs⟩ := tf
      subst hc
      have l1 := hfl to fs rfl
      have e0 : gIdx (.tup [.int to, .tup (fs.map W.int)]) (.int 0) = some (.int to) := rfl
      have e1 : gIdx (.tup [.int to, .tup (fs.map W.int)]) (.int 1) = some (.tup (fs.map W.int)) := rfl
      simp [wp_M3, tyW, idx_int (findF_ints P.nd hp), fz, c1, i2, i0, ixs, c2, c3, eC, gCmp, bW, gIsB, hadd, e0, e1]
      rw [fin to fs _ _ _ _ _ _ _ _ rfl]
      refine ⟨by omega, by omega, ?_⟩
      have e2 : (fs.map fun f => W.int (nm.getD f.toNat v)) = (fs.map fun f => nm.getD f.toNat v).map W.int := by simp
      rw [e2]
      simp only [wol_some]
      rw [gTuple_ints]
      exact ⟨by omega, by simp [mkTup, W.isSh, resW]⟩
  · have hp : p = nm.length := P.at'.elim (fun z => absurd (List.mem_of_getElem? z) hv) fun z => z.1
    subst hp
    cases hc : c with
    | none =>
      subst hc
      simp [wp_M3, tyW, fz, c1, i2, i0, ixs, c2, c3, eC, gCmp, bW, gIsB, resW]
    | some tf =>
      obtain ⟨to, fs⟩ := tf
      subst hc
      have l1 := hfl to fs rfl
      have e0 : gIdx (.tup [.int to, .tup (fs.map W.int)]) (.int 0) = some (.int to) := rfl
      have e1 : gIdx (.tup [.int to, .tup (fs.map W.int)]) (.int 1) = some (.tup (fs.map W.int)) := rfl
      simp [wp_M3, tyW, fz, c1, i2, i0, ixs, c2, c3, eC, gCmp, bW, gIsB, hadd, e0, e1]
      rw [fin to fs _ _ _ _ _ _ _ _ rfl]
      refine ⟨by omega, by omega, ?_⟩
      have e2 : (fs.map fun f => W.int (nm.getD f.toNat v)) = (fs.map fun f => nm.getD f.toNat v).map W.int := by simp
      rw [e2]
      simp only [wol_some]
      rw [gTuple_ints]
      exact ⟨by omega, by simp [mkTup, W.isSh, resW]⟩
end
section
variable {ss : List Str} {rooms : List Room} {r : Nat} {s : Str} {nm : List Int} {v : Int} {p j : Nat} {R : Int} {g : Bool} {st : List (List Case)} {cs : List Case} {c : Case}
abbrev dB1 : SS := (sIfS (s2 (s2 (sVarB 10) (sVarB 5) gIdx) (sVarB 3) (gCmp .Eq)) (sFrz [] (sAsg false 4 (sVar 5) [])) sNext)
abbrev dB2 : SS := (sIfS (s2 (sVarB 8) (sBi gLen [(sVarB 10)]) (gCmp .Lt)) (sFrz [] (sApp 7 (shOnly (s2 (sVarB 10) (sVarB 8) gIdx)) [])) (sFrz [] (sApp 7 (sVar 3) [])))
theorem due1 {B : SS} (hB : dB1 = B) (hat : At nm v p) (hn : nm.Nodup) {A0 A1 A2 A6 A7 A8 A9 : Option W} {Q : Out → Prop} (fin : ∀ a5, Q (.nx [A0, A1, A2, some (.int v), some (.int (p : Int)), a5, A6, A7, A8, A9, some (.tup (nm.map .int))])) :
    ws (forLoop (gT 5) B (rangeW 0 nm.length) [A0, A1, A2, some (.int v), some (.int (nm.length : Int)), none, A6, A7, A8, A9, some (.tup (nm.map .int))]) Q := by
  have pl : p ≤ nm.length := hat.elim (fun z => Nat.le_of_lt (List.getElem?_eq_some_iff.mp z).1) fun z => by omega
  refine for_range (fun k ρ => ∃ a5 : Option W, ρ = [A0, A1, A2, some (.int v), some (.int ((if p < k then p else nm.length : Nat) : Int)), a5, A6, A7, A8, A9, some (.tup (nm.map .int))]) ⟨none, by simp⟩ (fun k ρ hk I => ?_) fun ρ I => ?_
  · obtain ⟨a5, rfl⟩ := I
    subst hB
    have hx : gIdx (.tup (nm.map W.int)) (.int (k : Int)) = some (.int nm[k]) := by rw [gt_nat, List.getElem?_map, List.getElem?_eq_getElem hk]; rfl
    simp [hx, W.isSh, killR, fz]
    refine ⟨fun e => ?_, fun e => ?_⟩
    · have hp : p = k := by
        rcases hat with z | z
        · have h1 := findF_ints hn z
          have h2 := findF_ints hn (show nm[k]? = some v by rw [List.getElem?_eq_getElem hk, e])
          rw [h1] at h2
          exact Option.some.inj h2
        · exact absurd (e ▸ List.getElem_mem hk) z.2
      subst hp
      simp
    · have hp : p ≠ k := fun z => by
        subst z
        rcases hat with z | z
        · rw [List.getElem?_eq_getElem hk] at z; exact e (Option.some.inj z)
        · omega
      by_cases h : p < k
      · have : p < k + 1 := by omega
        simp [h, this]
      · have : ¬ p < k + 1 := by omega
        simp [h, this]
  · obtain ⟨a5, rfl⟩ := I
    have : (if p < nm.length then p else nm.length) = p := by split <;> omega
    rw [this]
    exact fin a5
theorem due2 {B : SS} (hB : dB2 = B) (fs : List Int) (wf : ∀ f ∈ fs, 0 ≤ f ∧ f ≤ nm.length) (hl : fs.length ≤ 1000) {A0 A1 A2 A4 A5 A6 A9 : Option W} {Q : Out → Prop} (fin : ∀ a8, Q (.nx [A0, A1, A2, some (.int v), A4, A5, A6, some (.olst (fs.map fun f => .int (nm.getD f.toNat v))), a8, A9, some (.tup (nm.map .int))])) :
    ws (forLoop (gT 8) B (fs.map W.int) [A0, A1, A2, some (.int v), A4, A5, A6, some (.olst []), none, A9, some (.tup (nm.map .int))]) Q := by
  have b := big
  refine for_inv (fun i ρ => ∃ a8 : Option W, ρ = [A0, A1, A2, some (.int v), A4, A5, A6, some (.olst ((fs.take i).map fun f => .int (nm.getD f.toNat v))), a8, A9, some (.tup (nm.map .int))]) ⟨none, rfl⟩ (fun i w ρ hw I => ?_) fun ρ I => ?_
  · obtain ⟨a8, rfl⟩ := I
    subst hB
    rw [List.getElem?_map] at hw
    cases ef : fs[i]? with
    | none => rw [ef] at hw; cases hw
    | some f =>
      rw [ef] at hw
      simp at hw
      subst hw
      have hi := (List.getElem?_eq_some_iff.mp ef).1
      obtain ⟨f0, f1⟩ := wf f (List.mem_of_getElem? ef)
      obtain ⟨n, rfl⟩ := Int.eq_ofNat_of_zero_le f0
      have tk : fs.take (i + 1) = fs.take i ++ [(n : Int)] := by rw [List.take_add_one, ef]; rfl
      refine ⟨[A0, A1, A2, some (.int v), A4, A5, A6, some (.olst ((fs.take i).map fun f => .int (nm.getD f.toNat v))), some (.int (n : Int)), A9, some (.tup (nm.map .int))], rfl, ?_⟩
      have hx : ∀ h : n < nm.length, gIdx (.tup (nm.map W.int)) (.int (n : Int)) = some (.int nm[n]) := fun h => by rw [gt_nat, List.getElem?_map, List.getElem?_eq_getElem h]; rfl
      by_cases h : n < nm.length
      · simp [h, hx h, W.isSh, killR, tk]
        omega
      · have e : n = nm.length := by omega
        subst e
        simp [W.isSh, killR, tk]
        omega
  · obtain ⟨a8, rfl⟩ := I
    have e : fs.take (fs.map W.int).length = fs := by simp
    rw [e]
    exact fin a8
theorem r_due (P : Pl ss rooms r s nm v p j R g st cs c) : runF 11 f_due [PW ss rooms, .tup [.int (r : Int), .tup (nm.map .int)], .str s, .int v] = some (.ok (resW nm v c)) := by
  refine wp_is ?_
  obtain ⟨c1, c2, c3⟩ := P.ch
  have ixs := idx_str P.j'
  have b := big
  have ln := P.ln
  have i0 : gIdx (PW ss rooms) (.int 0) = some (.lst (ss.map .str)) := rfl
  have i1 : gIdx (PW ss rooms) (.int 1) = some (.lst (rooms.map eR)) := rfl
  have i2 : gIdx (.tup [.int R, .bl g, .lst (st.map eCs)]) (.int 2) = some (.lst (st.map eCs)) := rfl
  have wf := P.wf
  have hfl : ∀ to fs, c = some (to, fs) → fs.length ≤ 1000 := P.fl
  rw [wp_run]
  unfold f_due
  simp [startR, killR, fz, W.isSh, i0, i1, nin_strs, P.ms, gU, gTs, seqs, els, tels, gT]
  refine ⟨okR_of (by omega) (by omega), ?_⟩
  refine due1 rfl P.at' P.nd fun a5 => ?_
  cases hc : c with
  | none =>
    subst hc
    simp [wp_M3, tyW, fz, c1, i2, i0, i1, ixs, c2, c3, eC, gCmp, bW, gIsB, resW, killR, W.isSh]
  | some tf =>
    obtain ⟨to, fs⟩ := tf
    subst hc
    have l1 := hfl to fs rfl
    have e0 : gIdx (.tup [.int to, .tup (fs.map W.int)]) (.int 0) = some (.int to) := rfl
    have e1 : gIdx (.tup [.int to, .tup (fs.map W.int)]) (.int 1) = some (.tup (fs.map W.int)) := rfl
    simp [wp_M3, tyW, fz, c1, i2, i0, i1, ixs, c2, c3, eC, gCmp, bW, gIsB, e0, e1, killR, W.isSh]
    refine due2 rfl fs (wf to fs rfl) l1 fun a8 => ?_
    have e2 : (fs.map fun f => W.int (nm.getD f.toNat v)) = (fs.map fun f => nm.getD f.toNat v).map W.int := by simp
    have hgt : gTuple [W.olst (fs.map fun f => W.int (nm.getD f.toNat v))] = some (W.tup (fs.map fun f => W.int (nm.getD f.toNat v))) := by rw [e2]; exact gTuple_ints _
    simp only [nxt_nx, ws_Frz0, ws_Ret, wp_Tup, wl_cons, wl_nil, wp_sh, wp_s2, wp_varB, wp_C, wp_Bi, List.getElem?_cons_succ, List.getElem?_cons_zero, wv_some, e0, wo_some, hgt]
    simp [mkTup, W.isSh, resW]
    omega
end
theorem read_none (P : W) (sg nmv : W) : runF 10 f_read_by [P, .non, sg, nmv] = some (.ok .non) := by
  refine wp_is ?_
  rw [wp_run]
  unfold f_read_by
  have hnon : gCmp .Is .non .non = some (.bl true) := rfl
  simp [startR, hnon]
theorem read_not (ss : List Str) (rooms : List Room) (a b : W) (s : Str) (v : Int) (h : s ∉ ss) : runF 10 f_read_by [PW ss rooms, .tup [a, b], .str s, .int v] = some (.ok .non) := by
  refine wp_is ?_
  have i0 : gIdx (PW ss rooms) (.int 0) = some (.lst (ss.map .str)) := rfl
  have hnon : gCmp .Is (.tup [a, b]) .non = some (.bl false) := rfl
  rw [wp_run]
  unfold f_read_by
  simp [startR, hnon, i0, nin_strs, h]
theorem due_not (ss : List Str) (rooms : List Room) (a b : W) (s : Str) (v : Int) (h : s ∉ ss) : runF 11 f_due [PW ss rooms, .tup [a, b], .str s, .int v] = some (.ok .non) := by
  refine wp_is ?_
  have i0 : gIdx (PW ss rooms) (.int 0) = some (.lst (ss.map .str)) := rfl
  rw [wp_run]
  unfold f_due
  simp [startR, i0, nin_strs, h]
theorem dns_ints (l : List Int) (k : Nat) : dns k (l.map W.int) = true := dns_all.mpr fun x hx => by
  obtain ⟨i, _, rfl⟩ := List.mem_map.mp hx
  cases k <;> rfl
theorem r_standing (to : Int) (l : List Int) (hl : l.length ≤ 1000) : runF 3 f_standing [.tup [.int to, .tup (l.map .int)], .tup [.int to, .tup (l.map .int)]] = some (.ok (.bl true)) := by
  refine wp_is ?_
  have b := big
  have hd : dn 3 (.tup [.int to, .tup (l.map .int)]) = true := by simp [dn, dns, dns_ints]
  have he := gEq_self hd (by decide)
  have hne : gCmp .NotEq (.tup [.int to, .tup (l.map W.int)]) (.tup [.int to, .tup (l.map W.int)]) = some (.bl false) := by
    show nW (gEqB _ _) = _
    rw [he]; rfl
  have i0 : gIdx (.tup [.int to, .tup (l.map W.int)]) (.int 0) = some (.int to) := rfl
  have i1 : gIdx (.tup [.int to, .tup (l.map W.int)]) (.int 1) = some (.tup (l.map W.int)) := rfl
  rw [wp_run]
  unfold f_standing
  simp [startR, gIsi, tyN, tyKnown, isiB, hne, i0, i1]
  refine ⟨by omega, ?_⟩
  rw [lc_filter (b := fun _ => false) (k := fun w => w)]
  · simp [truW]
  · intro w hw
    obtain ⟨i, _, rfl⟩ := List.mem_map.mp hw
    refine ⟨_, rfl, ?_, fun h => nomatch h⟩
    refine wp_is ?_
    simp [wipeR, gIsi, tyN, tyKnown, isiB]
theorem r_right (nm : List Int) (v : Int) (c : Case) (hc : ∀ to fs, c = some (to, fs) → fs.length ≤ 1000) : runF 2 f_right [resW nm v c, resW nm v c] = some (.ok (.bl true)) := by
  refine wp_is ?_
  rw [wp_run]
  unfold f_right
  cases c with
  | none =>
    have hnon : gCmp .Is .non .non = some (.bl true) := rfl
    simp [startR, resW, hnon]
  | some tf =>
    obtain ⟨to, fs⟩ := tf
    have hl := hc to fs rfl
    have e2 : (fs.map fun f => W.int (nm.getD f.toNat v)) = (fs.map fun f => nm.getD f.toNat v).map W.int := by simp
    have hs := r_standing to (fs.map fun f => nm.getD f.toNat v) (by simpa using hl)
    have hR : resW nm v (some (to, fs)) = .tup [.int to, .tup ((fs.map fun f => nm.getD f.toNat v).map W.int)] := by show W.tup [_, .tup _] = _; rw [e2]
    rw [hR]
    generalize (fs.map fun f => nm.getD f.toNat v) = L at *
    have hnon : gCmp .Is (.tup [.int to, .tup (L.map W.int)]) .non = some (.bl false) := rfl
    simp [startR, hnon, hs, W.isSh, fz]
theorem r_right0 : runF 2 f_right [.non, .non] = some (.ok (.bl true)) := r_right [] 0 none (fun _ _ h => nomatch h)
theorem cut_last (l : List Int) : cutW (l.map W.int) none (some (-1)) = l.dropLast.map W.int := by
  have e : HT.sIx (l.map W.int).length (l.map W.int).length (some (-1)) = l.length - 1 := by
    have e1 : HT.sIx (l.map W.int).length (l.map W.int).length (some (-1)) = (-1 + ((l.map W.int).length : Int)).toNat := by unfold HT.sIx; simp
    rw [e1, List.length_map]
    omega
  unfold cutW
  rw [e]
  show ((l.map W.int).drop 0).take (l.length - 1 - 0) = _
  rw [List.drop_zero, Nat.sub_zero, List.dropLast_eq_take, List.map_take]
theorem last_of {α : Type} {f : α → W} {l : List α} (h : l ≠ []) : ∃ x ∈ l, gIdx (.lst (l.map f)) (.int (-1)) = some (f x) := by
  have hl : 0 < l.length := List.length_pos_iff.mpr h
  refine ⟨l[l.length - 1], List.getElem_mem _, ?_⟩
  show atI (l.map f) (-1) = _
  unfold atI ixN
  rw [if_neg (by decide), if_pos (by simp; omega)]
  have e : (-1 + ((l.map f).length : Int)).toNat = l.length - 1 := by simp; omega
  simp only [Option.bind, e]
  rw [List.getElem?_map, List.getElem?_eq_getElem (by omega)]
  rfl
theorem mem_ix {α : Type} {f : α → W} {l : List α} (x : Int) (h : l ≠ []) : ∃ y ∈ l, gIdx (.lst (l.map f)) (.int (x % (l.length : Int))) = some (f y) := by
  have hl : 0 < l.length := List.length_pos_iff.mpr h
  obtain ⟨n, hn⟩ := Int.eq_ofNat_of_zero_le (Int.emod_nonneg x (b := (l.length : Int)) (by omega))
  have h2 := Int.emod_lt_of_pos x (b := (l.length : Int)) (by omega)
  rw [hn] at h2 ⊢
  have hn2 : n < l.length := by omega
  exact ⟨l[n], List.getElem_mem _, by show gIdx _ (.int (n : Int)) = _; rw [gl_nat, List.getElem?_map, List.getElem?_eq_getElem hn2]; rfl⟩
theorem letter_free (ss : List Str) (h : ss.length ≤ 3) : ¬ (Str.ofString "a" ∈ ss ∧ Str.ofString "b" ∈ ss ∧ Str.ofString "c" ∈ ss ∧ Str.ofString "d" ∈ ss) := by
  rintro ⟨ha, hb, hc, hd⟩
  obtain ⟨i, hi, ei⟩ := List.getElem_of_mem ha
  obtain ⟨j, hj, ej⟩ := List.getElem_of_mem hb
  obtain ⟨k, hk, ek⟩ := List.getElem_of_mem hc
  obtain ⟨m, hm, em⟩ := List.getElem_of_mem hd
  have ne : ∀ {x y : Nat} {a b : Str} (hx : x < ss.length) (hy : y < ss.length), ss[x] = a → ss[y] = b → a ≠ b → x ≠ y := fun hx hy e1 e2 n z => by
    subst z
    exact n (e1.symm.trans e2)
  have n1 := ne hi hj ei ej (by decide)
  have n2 := ne hi hk ei ek (by decide)
  have n3 := ne hi hm ei em (by decide)
  have n4 := ne hj hk ej ek (by decide)
  have n5 := ne hj hm ej em (by decide)
  have n6 := ne hk hm ek em (by decide)
  omega
theorem dn_PW (ss : List Str) (rooms : List Room) (h : ∀ s ∈ ss, PyData.strOk s = true) : dn 9 (PW ss rooms) = true := by
  have h1 : dns 7 (ss.map W.str) = true := dns_all.mpr fun x hx => by
    obtain ⟨s, hs, rfl⟩ := List.mem_map.mp hx
    exact h s hs
  have h2 : dns 7 (rooms.map eR) = true := dns_all.mpr fun x hx => by
    obtain ⟨m, _, rfl⟩ := List.mem_map.mp hx
    obtain ⟨k, g, st⟩ := m
    have h3 : dns 5 (st.map eCs) = true := dns_all.mpr fun x hx => by
      obtain ⟨cs, _, rfl⟩ := List.mem_map.mp hx
      have h4 : dns 4 (cs.map eC) = true := dns_all.mpr fun x hx => by
        obtain ⟨c, _, rfl⟩ := List.mem_map.mp hx
        cases c with
        | none => rfl
        | some tf =>
          obtain ⟨to, fs⟩ := tf
          simp [eC, dn, dns, dns_ints]
      simp [eCs, dn, h4]
    simp [eR, dn, dns, h3]
  simp [PW, dn, dns, h1, h2]
/-- read_by and due say the same -/
theorem both_same {ss : List Str} {ks : List Int} {rooms : List Room} {r : Nat} {R : Int} {g : Bool} {st : List (List Case)} (hm : rooms[r]? = some (R, g, st)) (hw : WfR ks.length ss.length R (R, g, st)) {nm : List Int} (hn : nm.Nodup) (hl : (nm.length : Int) = R) (h6 : R ≤ 6) (s : Str) (v : Int) :
    ∃ c : Case, runF 10 f_read_by [PW ss rooms, .tup [.int (r : Int), .tup (nm.map .int)], .str s, .int v] = some (.ok (resW nm v c)) ∧ runF 11 f_due [PW ss rooms, .tup [.int (r : Int), .tup (nm.map .int)], .str s, .int v] = some (.ok (resW nm v c)) ∧ ∀ to fs, c = some (to, fs) → fs.length ≤ 1000 := by
  by_cases hs : s ∈ ss
  · obtain ⟨p, hp⟩ := at_ex nm v
    obtain ⟨j, hj, ej⟩ := findF_strs hs
    obtain ⟨_, w1, w2⟩ := hw
    have hj2 : j < st.length := by rw [w1]; exact hj
    have hcs := w2 st[j] (List.getElem_mem hj2)
    have pl : p ≤ nm.length := hp.elim (fun z => Nat.le_of_lt (List.getElem?_eq_some_iff.mp z).1) fun z => by omega
    have hp2 : p < (st[j]).length := by have := hcs.1; omega
    have hc := hcs.2 _ (List.getElem_mem hp2)
    have P : Pl ss rooms r s nm v p j R g st st[j] (st[j])[p] := ⟨hm, hp, hn, ej, hs, List.getElem?_eq_getElem hj2, List.getElem?_eq_getElem hp2, fun to fs e f hf => by
      rw [e] at hc
      have := hc.2.2.1 f hf
      omega, by omega, fun to fs e => by rw [e] at hc; have := hc.2.2.2; omega⟩
    exact ⟨_, r_read_by P, r_due P, P.fl⟩
  · exact ⟨none, read_not ss rooms _ _ s v hs, due_not ss rooms _ _ s v hs, fun _ _ h => nomatch h⟩
theorem ws_is {o : Option Out} {r : Out} (h : ws o (fun x => x = r)) : o = some r := by
  unfold ws at h
  split at h
  · rw [h]
  · exact h.elim
theorem law_ok : ∀ ns : List Int, ns.length ≤ 63 → (∀ z ∈ ns, Builtin.Int.intBits z ≤ 1048576) → runF 13 f_law [.klst (ns.map .int)] = some (.ok (.bl true)) := by
  intro ns hl hb
  have hs : Sc ns := ⟨hl, fun z hz => bits_log (hb z hz)⟩
  have b := big
  obtain ⟨x0, hx0, _, _⟩ := r_draw hs 0 (by decide) (by decide)
  obtain ⟨x1, hx1, _, _⟩ := r_draw hs 1 (by decide) (by decide)
  obtain ⟨x2, hx2, _, _⟩ := r_draw hs 2 (by decide) (by decide)
  obtain ⟨ss, hss, ssl, ssk⟩ := r_signs x0 (1 + x1 % 3) (by omega) (by omega)
  have s1 : 1 ≤ ss.length := by omega
  have s3 : ss.length ≤ 3 := by omega
  obtain ⟨ks, rooms, a, hp, hwp⟩ := r_plain hs ss s1 s3
  obtain ⟨hk, hrl, hrm⟩ := hwp
  have k1 := hk.1
  have k6 := hk.2.1
  have hd := r_digits x2 [60, 6, 60, 12] (by intro s hs; simp at hs; omega) (by decide)
  simp [digs] at hd
  generalize x2 % 60 = d0 at hd
  generalize x2 / 60 % 6 = d1 at hd
  generalize x2 / 60 / 6 % 60 = d2 at hd
  generalize x2 / 60 / 6 / 60 % 12 = d3 at hd
  obtain ⟨r, hr⟩ := Int.eq_ofNat_of_zero_le (Int.emod_nonneg d0 (b := (rooms.length : Int)) (by omega))
  have hr2 := Int.emod_lt_of_pos d0 (b := (rooms.length : Int)) (by omega)
  rw [hr] at hr2
  have hrk : r < ks.length := by omega
  obtain ⟨m, hm, hwm⟩ := hrm r ks[r] (List.getElem?_eq_getElem hrk)
  have hR := hk.2.2 _ (List.getElem_mem hrk)
  generalize ks[r] = R at *
  obtain ⟨R', g, st⟩ := m
  have hRR : R' = R := hwm.1
  subst hRR
  obtain ⟨l, hu, lu, ln⟩ := r_unlike hs (R' + 1) (by omega) (by omega)
  have lne : l ≠ [] := fun z => by subst z; simp at lu; omega
  have sne : ss ≠ [] := fun z => by subst z; simp at s1
  obtain ⟨v, hv, ev⟩ := mem_ix (f := W.int) d2 lne
  obtain ⟨s, hs1, es⟩ := mem_ix (f := W.str) d1 sne
  obtain ⟨sl, hsl, esl⟩ := last_of (f := W.str) sne
  obtain ⟨vl, hvl, evl⟩ := last_of (f := W.int) lne
  have hc := r_copied ss rooms (by omega) (fun m hm2 => by
    obtain ⟨i, hi, rfl⟩ := List.getElem_of_mem hm2
    obtain ⟨m', h1, h2⟩ := hrm i (ks[i]'(by omega)) (List.getElem?_eq_getElem (by omega))
    rw [List.getElem?_eq_getElem hi] at h1
    cases h1
    have := h2.2.1
    omega)
  have nl : (l.dropLast.length : Int) = R' := by simp; omega
  have nn : l.dropLast.Nodup := List.Sublist.nodup (List.dropLast_sublist l) ln
  have bth := fun (s : Str) (v : Int) => both_same hm hwm nn nl (by omega) s v
  have eroom : gIdx (.lst (rooms.map eR)) (.int (r : Int)) = some (.tup [.int R', .bl g, .lst (st.map eCs)]) := by rw [gl_nat, List.getElem?_map, hm]; rfl
  have hne : gCmp .NotEq (PW ss rooms) (PW ss rooms) = some (.bl false) := by
    show nW (gEqB _ _) = _
    rw [gEq_self (dn_PW ss rooms ssk) (by decide)]; rfl
  obtain ⟨c2, hr2', hd2', hf2'⟩ := bth sl vl
  have htup := gTuple_ints l.dropLast
  have j0 : gIdx (PW ss rooms) (.int 0) = some (.lst (ss.map .str)) := rfl
  have j1 : gIdx (PW ss rooms) (.int 1) = some (.lst (rooms.map eR)) := rfl
  have k0 : gIdx (.tup [.int R', .bl g, .lst (st.map eCs)]) (.int 0) = some (.int R') := rfl
  have q0 : gIdx (.tup [PW ss rooms, .int a]) (.int 0) = some (PW ss rooms) := rfl
  have hcut : gSl (.lst (l.map W.int)) none (some (-1)) = some (.olst (l.dropLast.map W.int)) := by
    show some (W.olst (cutW (l.map W.int) none (some (-1)))) = _
    rw [cut_last]
  -- state by state
  have st1 : (sFrz [] (sAsg false 1 (sCall (runF 11 f_signs) [(sCall (runF 4 f_draw) [(sVarB 0), (sC (.int (0)))]), (s2 (sC (.int (1))) (s2 (sCall (runF 4 f_draw) [(sVarB 0), (sC (.int (1)))]) (sC (.int (3))) gMod) gAdd)]) [])) [some (.klst (ns.map .int)), none, none, none, none, none, none, none, none, none, none, none, none] = some (.nx [some (.klst (ns.map .int)), some (.lst (ss.map .str)), none, none, none, none, none, none, none, none, none, none, none]) := by
    refine ws_is ?_
    simp [killR, fz, W.isSh, hx0, hx1, hss, fz_str]
  have st2 : (sFrz [] (sAsg false 2 (shOnly (s2 (sFzE (sCall (runF 14 f_plain) [(sVarB 0), (sC (.int (8))), (sVarB 1)])) (sC (.int (0))) gIdx)) [])) [some (.klst (ns.map .int)), some (.lst (ss.map .str)), none, none, none, none, none, none, none, none, none, none, none] = some (.nx [some (.klst (ns.map .int)), some (.lst (ss.map .str)), some (PW ss rooms), none, none, none, none, none, none, none, none, none, none]) := by
    refine ws_is ?_
    simp [killR, fz, fzs, W.isSh, hp, fz_str, fz_R, q0]
  have st3 : (sFrz [] (sAsgT (gU [(gT 3), (gT 9), (gT 10), (gT 11)]) (sCall (runF 4 f_digits) [(sCall (runF 4 f_draw) [(sVarB 0), (sC (.int (2)))]), (sLst [(sC (.int (60))), (sC (.int (6))), (sC (.int (60))), (sC (.int (12)))])]) [])) [some (.klst (ns.map .int)), some (.lst (ss.map .str)), some (PW ss rooms), none, none, none, none, none, none, none, none, none, none] = some (.nx [some (.klst (ns.map .int)), some (.lst (ss.map .str)), some (PW ss rooms), some (.int d0), none, none, none, none, none, some (.int d1), some (.int d2), some (.int d3), none]) := by
    refine ws_is ?_
    simp [killR, fz, fzs, W.isSh, hx2, hd, clo, clos, gU, gTs, seqs, els, gT]
    omega
  have st4 : (sFrz [] (sAsg false 3 (s2 (sVarB 3) (sBi gLen [(s2 (sVarB 2) (sC (.int (1))) gIdx)]) gMod) [])) [some (.klst (ns.map .int)), some (.lst (ss.map .str)), some (PW ss rooms), some (.int d0), none, none, none, none, none, some (.int d1), some (.int d2), some (.int d3), none] = some (.nx [some (.klst (ns.map .int)), some (.lst (ss.map .str)), some (PW ss rooms), some (.int (r : Int)), none, none, none, none, none, some (.int d1), some (.int d2), some (.int d3), none]) := by
    refine ws_is ?_
    simp [killR, fz, j1, hr]
    omega
  have st5 : (sFrz [] (sAsg false 4 (sCall (runF 6 f_unlike) [(sVarB 0), (sC (.int (3))), (s2 (s2 (s2 (s2 (sVarB 2) (sC (.int (1))) gIdx) (sVarB 3) gIdx) (sC (.int (0))) gIdx) (sC (.int (1))) gAdd)]) [])) [some (.klst (ns.map .int)), some (.lst (ss.map .str)), some (PW ss rooms), some (.int (r : Int)), none, none, none, none, none, some (.int d1), some (.int d2), some (.int d3), none] = some (.nx [some (.klst (ns.map .int)), some (.lst (ss.map .str)), some (PW ss rooms), some (.int (r : Int)), some (.lst (l.map .int)), none, none, none, none, some (.int d1), some (.int d2), some (.int d3), none]) := by
    refine ws_is ?_
    simp [killR, fz, j1, eroom, k0, hu, W.isSh, fz_ints]
  have st6 : (sFrz [] (sAsg false 5 (shOnly (s2 (sVarB 4) (s2 (sVarB 10) (sBi gLen [(sVarB 4)]) gMod) gIdx)) [])) [some (.klst (ns.map .int)), some (.lst (ss.map .str)), some (PW ss rooms), some (.int (r : Int)), some (.lst (l.map .int)), none, none, none, none, some (.int d1), some (.int d2), some (.int d3), none] = some (.nx [some (.klst (ns.map .int)), some (.lst (ss.map .str)), some (PW ss rooms), some (.int (r : Int)), some (.lst (l.map .int)), some (.int v), none, none, none, some (.int d1), some (.int d2), some (.int d3), none]) := by
    refine ws_is ?_
    simp [killR, fz, ev, W.isSh]
    omega
  have st7 : (sFrz [] (sAsg false 6 (sTup [(sVar 3), (sBi gTuple [(sSl (sVarB 4) none (some (Z.s1 (sC (.int (1))) gNeg)))])]) [])) [some (.klst (ns.map .int)), some (.lst (ss.map .str)), some (PW ss rooms), some (.int (r : Int)), some (.lst (l.map .int)), some (.int v), none, none, none, some (.int d1), some (.int d2), some (.int d3), none] = some (.nx [some (.klst (ns.map .int)), some (.lst (ss.map .str)), some (PW ss rooms), some (.int (r : Int)), some (.lst (l.map .int)), some (.int v), some (.tup [.int (r : Int), .tup (l.dropLast.map .int)]), none, none, some (.int d1), some (.int d2), some (.int d3), none]) := by
    refine ws_is ?_
    simp only [ws_Frz0, ws_Asg, wp_Tup, wl_cons, wl_nil, wp_var, wp_Bi, wp_Sl, wr_n, wr_s, wp_s1, wp_C, wp_varB, wo_neg, wp_some, List.getElem?_cons_succ, List.getElem?_cons_zero, wv_some, gSl_lst, cut_last, htup, wo_some]
    refine ⟨rfl, by simp; omega, rfl⟩
  have st8 : (sFrz [] (sAsg false 7 (shOnly (s2 (sVarB 1) (s2 (sVarB 9) (sBi gLen [(sVarB 1)]) gMod) gIdx)) [])) [some (.klst (ns.map .int)), some (.lst (ss.map .str)), some (PW ss rooms), some (.int (r : Int)), some (.lst (l.map .int)), some (.int v), some (.tup [.int (r : Int), .tup (l.dropLast.map .int)]), none, none, some (.int d1), some (.int d2), some (.int d3), none] = some (.nx [some (.klst (ns.map .int)), some (.lst (ss.map .str)), some (PW ss rooms), some (.int (r : Int)), some (.lst (l.map .int)), some (.int v), some (.tup [.int (r : Int), .tup (l.dropLast.map .int)]), some (.str s), none, some (.int d1), some (.int d2), some (.int d3), none]) := by
    refine ws_is ?_
    simp [killR, fz, es, W.isSh]
    omega
  have st9 : ∃ t : Str, (sIfS (s2 (sVarB 11) (sC (.int (5))) (gCmp .Eq)) (sFrz [] (sAsg false 7 (shOnly (s2 (sLc [12] (sItems (sLst [(sC (.str "a")), (sC (.str "b")), (sC (.str "c")), (sC (.str "d"))])) (gT 12) (some (s2 (sVarB 12) (sVarB 1) (gCmp .NotIn))) (sVar 12)) (sC (.int (0))) gIdx)) [])) sNext) [some (.klst (ns.map .int)), some (.lst (ss.map .str)), some (PW ss rooms), some (.int (r : Int)), some (.lst (l.map .int)), some (.int v), some (.tup [.int (r : Int), .tup (l.dropLast.map .int)]), some (.str s), none, some (.int d1), some (.int d2), some (.int d3), none] = some (.nx [some (.klst (ns.map .int)), some (.lst (ss.map .str)), some (PW ss rooms), some (.int (r : Int)), some (.lst (l.map .int)), some (.int v), some (.tup [.int (r : Int), .tup (l.dropLast.map .int)]), some (.str t), none, some (.int d1), some (.int d2), some (.int d3), none]) := by
    by_cases h5 : d3 = 5
    · have hlc : lcLoop (gT 12) (some (s2 (sVarB 12) (sVarB 1) (gCmp .NotIn))) (sVar 12) (wipeR [some (.klst (ns.map .int)), some (.lst (ss.map .str)), some (PW ss rooms), some (.int (r : Int)), some (.lst (l.map .int)), some (.int v), some (.tup [.int (r : Int), .tup (l.dropLast.map .int)]), some (.str s), none, some (.int d1), some (.int d2), some (.int d3), none] [12]) (["a", "b", "c", "d"].map fun z => W.str (Str.ofString z)) = some (((["a", "b", "c", "d"].map fun z => W.str (Str.ofString z)).filter fun w => match w with | .str y => !decide (y ∈ ss) | _ => false).map fun w => w) := by
        refine lc_filter fun w hw => ?_
        obtain ⟨z, _, rfl⟩ := List.mem_map.mp hw
        refine ⟨_, rfl, wp_is ?_, fun _ => rfl⟩
        simp [wipeR, nin_strs]
      have hne2 : ∃ t rest, (((["a", "b", "c", "d"].map fun z => W.str (Str.ofString z)).filter fun w => match w with | .str y => !decide (y ∈ ss) | _ => false).map fun w => w) = W.str t :: rest := by
        have lf := letter_free ss s3
        by_cases q1 : Str.ofString "a" ∈ ss <;> by_cases q2 : Str.ofString "b" ∈ ss <;> by_cases q3 : Str.ofString "c" ∈ ss <;> by_cases q4 : Str.ofString "d" ∈ ss <;> first
          | (simp [q1, q2, q3, q4]; done)
          | exact absurd (And.intro q1 (And.intro q2 (And.intro q3 q4))) lf
      obtain ⟨t, rest, ht⟩ := hne2
      refine ⟨t, ws_is ?_⟩
      rw [ht] at hlc
      have hlc2 : lcLoop (gT 12) (some (s2 (sVarB 12) (sVarB 1) (gCmp .NotIn))) (sVar 12) (wipeR [some (.klst (ns.map .int)), some (.lst (ss.map .str)), some (PW ss rooms), some (.int (r : Int)), some (.lst (l.map .int)), some (.int v), some (.tup [.int (r : Int), .tup (l.dropLast.map .int)]), some (.str s), none, some (.int d1), some (.int d2), some (.int d3), none] [12]) [W.str (Str.ofString "a"), W.str (Str.ofString "b"), W.str (Str.ofString "c"), W.str (Str.ofString "d")] = some (W.str t :: rest) := hlc
      have g0 : gIdx (.olst (W.str t :: rest)) (.int 0) = some (W.str t) := by
        show atI (W.str t :: rest) ((0 : Nat) : Int) = _
        rw [atI_nat]
        rfl
      have hi : itemsW (.olst [W.str (Str.ofString "a"), W.str (Str.ofString "b"), W.str (Str.ofString "c"), W.str (Str.ofString "d")]) = some [W.str (Str.ofString "a"), W.str (Str.ofString "b"), W.str (Str.ofString "c"), W.str (Str.ofString "d")] := rfl
      simp [h5, killR, fz, W.isSh, hi]
      subst h5
      rw [List.map_dropLast] at hlc2
      rw [hlc2]
      simp only [wol_some, g0, wo_some]
      exact ⟨by omega, by omega, trivial, rfl⟩
    · refine ⟨s, ws_is ?_⟩
      simp [h5]
  obtain ⟨t, st9⟩ := st9
  have st10 : (sFrz [] (sAsg false 8 (sCall (runF 6 f_copied) [(sVarB 2)]) [])) [some (.klst (ns.map .int)), some (.lst (ss.map .str)), some (PW ss rooms), some (.int (r : Int)), some (.lst (l.map .int)), some (.int v), some (.tup [.int (r : Int), .tup (l.dropLast.map .int)]), some (.str t), none, some (.int d1), some (.int d2), some (.int d3), none] = some (.nx [some (.klst (ns.map .int)), some (.lst (ss.map .str)), some (PW ss rooms), some (.int (r : Int)), some (.lst (l.map .int)), some (.int v), some (.tup [.int (r : Int), .tup (l.dropLast.map .int)]), some (.str t), some (PW ss rooms), some (.int d1), some (.int d2), some (.int d3), none]) := by
    refine ws_is ?_
    simp [killR, fz, fzs, W.isSh, hc, fz_str, fz_R]
  obtain ⟨c1, hr1, hd1, hf1⟩ := bth t v
  have rr1 := r_right l.dropLast v c1 hf1
  have rr2 := r_right l.dropLast vl c2 hf2'
  have rn := read_none (PW ss rooms) (.str t) (.int v)
  have hsh : ∀ (nm : List Int) (v : Int) (c : Case), (resW nm v c).isSh = true ∧ fz (resW nm v c) = resW nm v c := fun nm v c => by
    cases c with
    | none => exact ⟨rfl, rfl⟩
    | some x => exact ⟨rfl, rfl⟩
  obtain ⟨h1a, h1b⟩ := hsh l.dropLast v c1
  obtain ⟨h2a, h2b⟩ := hsh l.dropLast vl c2
  generalize resW l.dropLast v c1 = w1 at *
  generalize resW l.dropLast vl c2 = w2 at *
  have hnn : gCmp .IsNot .non .non = some (.bl false) := rfl
  have fzPW : fz (PW ss rooms) = PW ss rooms := rfl
  have fzT : ∀ a b, fz (.tup [a, b]) = .tup [a, b] := fun _ _ => rfl
  have shPW : (PW ss rooms).isSh = true := rfl
  have shT : ∀ a b, (W.tup [a, b]).isSh = true := fun _ _ => rfl
  have shS : ∀ a, (W.str a).isSh = true := fun _ => rfl
  have shI : ∀ a, (W.int a).isSh = true := fun _ => rfl
  have fS : ∀ a, fz (W.str a) = .str a := fun _ => rfl
  have fI : ∀ a, fz (W.int a) = .int a := fun _ => rfl
  have shB : ∀ a, (W.bl a).isSh = true := fun _ => rfl
  have all4 : ∀ a b c d : W, a.isSh = true → b.isSh = true → c.isSh = true → d.isSh = true → [a, b, c, d].all W.isSh = true := fun a b c d h1 h2 h3 h4 => by simp [h1, h2, h3, h4]
  have all2 : ∀ a : W, a.isSh = true → [a, a].all W.isSh = true := fun a h1 => by simp [h1]
  have st11 : (sIfS (sNot (sTr (sCall (runF 2 f_right) [(sCall (runF 10 f_read_by) [(sVarB 8), (sVarB 6), (sVarB 7), (sVarB 5)]), (sCall (runF 11 f_due) [(sVarB 2), (sVarB 6), (sVarB 7), (sVarB 5)])]))) (sFrz [] (sRet (sC (.bl false)))) sNext) [some (.klst (ns.map .int)), some (.lst (ss.map .str)), some (PW ss rooms), some (.int (r : Int)), some (.lst (l.map .int)), some (.int v), some (.tup [.int (r : Int), .tup (l.dropLast.map .int)]), some (.str t), some (PW ss rooms), some (.int d1), some (.int d2), some (.int d3), none] = some (.nx [some (.klst (ns.map .int)), some (.lst (ss.map .str)), some (PW ss rooms), some (.int (r : Int)), some (.lst (l.map .int)), some (.int v), some (.tup [.int (r : Int), .tup (l.dropLast.map .int)]), some (.str t), some (PW ss rooms), some (.int d1), some (.int d2), some (.int d3), none]) := by
    refine ws_is ?_
    simp only [ws_If, ws_Frz0, ws_Ret, ws_Next, wp_Not, wp_Tr, wp_Call, wl_cons, wl_nil, wp_varB, wp_C, wp_Or, wp_s2, wp_s1, wo_neg, List.getElem?_cons_succ, List.getElem?_cons_zero, wv_some, List.map, fzPW, fzT, fS, fI, wp_some, wo_some, truW_bl, wb_some, tb_bl, esl, evl, hr1, hd1, h1b, rr1]
    exact ⟨.inl (all4 _ _ _ _ shPW (shT _ _) (shS _) (shI _)), .inl (all4 _ _ _ _ shPW (shT _ _) (shS _) (shI _)), .inl (all2 _ h1a), (fun h => by simp at h), fun _ => trivial⟩
  have st12 : (sIfS (sOr (s2 (sCall (runF 10 f_read_by) [(sVarB 8), (sC .non), (sVarB 7), (sVarB 5)]) (sC .non) (gCmp .IsNot)) (s2 (sVarB 8) (sVarB 2) (gCmp .NotEq))) (sFrz [] (sRet (sC (.bl false)))) sNext) [some (.klst (ns.map .int)), some (.lst (ss.map .str)), some (PW ss rooms), some (.int (r : Int)), some (.lst (l.map .int)), some (.int v), some (.tup [.int (r : Int), .tup (l.dropLast.map .int)]), some (.str t), some (PW ss rooms), some (.int d1), some (.int d2), some (.int d3), none] = some (.nx [some (.klst (ns.map .int)), some (.lst (ss.map .str)), some (PW ss rooms), some (.int (r : Int)), some (.lst (l.map .int)), some (.int v), some (.tup [.int (r : Int), .tup (l.dropLast.map .int)]), some (.str t), some (PW ss rooms), some (.int d1), some (.int d2), some (.int d3), none]) := by
    refine ws_is ?_
    have fN : fz .non = .non := rfl
    simp only [ws_If, ws_Frz0, ws_Ret, ws_Next, wp_Not, wp_Tr, wp_Call, wl_cons, wl_nil, wp_varB, wp_C, wp_Or, wp_s2, wp_s1, wo_neg, List.getElem?_cons_succ, List.getElem?_cons_zero, wv_some, List.map, fzPW, fzT, fS, fI, wp_some, wo_some, truW_bl, wb_some, tb_bl, esl, evl, fN, rn, hnn, hne]
    exact ⟨.inl (all4 _ _ _ _ shPW rfl (shS _) (shI _)), by simp⟩
  have st13 : (sFrz [] (sRet (sCall (runF 2 f_right) [(sCall (runF 10 f_read_by) [(sVarB 8), (sVarB 6), (s2 (sVarB 1) (Z.s1 (sC (.int (1))) gNeg) gIdx), (s2 (sVarB 4) (Z.s1 (sC (.int (1))) gNeg) gIdx)]), (sCall (runF 11 f_due) [(sVarB 2), (sVarB 6), (s2 (sVarB 1) (Z.s1 (sC (.int (1))) gNeg) gIdx), (s2 (sVarB 4) (Z.s1 (sC (.int (1))) gNeg) gIdx)])]))) [some (.klst (ns.map .int)), some (.lst (ss.map .str)), some (PW ss rooms), some (.int (r : Int)), some (.lst (l.map .int)), some (.int v), some (.tup [.int (r : Int), .tup (l.dropLast.map .int)]), some (.str t), some (PW ss rooms), some (.int d1), some (.int d2), some (.int d3), none] = some (.rt (.bl true)) := by
    refine ws_is ?_
    simp only [ws_If, ws_Frz0, ws_Ret, ws_Next, wp_Not, wp_Tr, wp_Call, wl_cons, wl_nil, wp_varB, wp_C, wp_Or, wp_s2, wp_s1, wo_neg, List.getElem?_cons_succ, List.getElem?_cons_zero, wv_some, List.map, fzPW, fzT, fS, fI, wp_some, wo_some, truW_bl, wb_some, tb_bl, esl, evl, hr2', hd2', h2b, rr2]
    exact ⟨.inl (all4 _ _ _ _ shPW (shT _ _) (shS _) (shI _)), .inl (all4 _ _ _ _ shPW (shT _ _) (shS _) (shI _)), .inl (all2 _ h2a), trivial⟩
  refine wp_is ?_
  rw [wp_run]
  unfold f_law
  have go : ∀ {F G : SS} {ρ ρ' : Rho} {Q : Out → Prop}, F ρ = some (.nx ρ') → ws (G ρ') Q → ws (sSeq F G ρ) Q := fun h k => by rw [ws_Seq, h]; exact k
  refine go st1 (go st2 (go st3 (go st4 (go st5 (go st6 (go st7 (go st8 (go st9 (go st10 (go st11 (go st12 ?_)))))))))))
  have e13 := st13
  show ws ((sFrz [] (sRet (sCall (runF 2 f_right) [(sCall (runF 10 f_read_by) [(sVarB 8), (sVarB 6), (s2 (sVarB 1) (Z.s1 (sC (.int (1))) gNeg) gIdx), (s2 (sVarB 4) (Z.s1 (sC (.int (1))) gNeg) gIdx)]), (sCall (runF 11 f_due) [(sVarB 2), (sVarB 6), (s2 (sVarB 1) (Z.s1 (sC (.int (1))) gNeg) gIdx), (s2 (sVarB 4) (Z.s1 (sC (.int (1))) gNeg) gIdx)])]))) _) _
  rw [e13]
  rfl

theorem all_mk {P : Program} {w : World} {K : PySem.W.Frag} {h : Heap} {mg : Str → Option Value} {fa : Addr} (X : K.In h) (G : h.Ns mainGlobals mg) (hfa : mg "law" = some (.ref fa))
    {f1 : Addr} {oc1 : Value} {od1 : Option Addr} {osl1 : Array (Option Value)} {kV1 dc1 pm1 : Value} {an1 : Option Addr} {cd1 ct1 : Value}
    (a1 : PySem.W.nsIn K mainGlobals "read_by" = some (some (.ref f1))) (l1 : K.lookup f1 = some ⟨oc1, od1, .func (PySem.W.fnOf "read_by" "read_by" (defArgs (topS 1)) (defBody (topS 1)) (defScope (topS 1)) .none kV1 dc1 pm1 an1 cd1 ct1), osl1⟩) (c1 : PySem.W.codeIn K cd1 "read_by" = true) (k1 : PySem.W.keepIn K (.ref f1) = true)
    {f2 : Addr} {oc2 : Value} {od2 : Option Addr} {osl2 : Array (Option Value)} {kV2 dc2 pm2 : Value} {an2 : Option Addr} {cd2 ct2 : Value}
    (a2 : PySem.W.nsIn K mainGlobals "_law_draw" = some (some (.ref f2))) (l2 : K.lookup f2 = some ⟨oc2, od2, .func (PySem.W.fnOf "_law_draw" "_law_draw" (defArgs (topS 3)) (defBody (topS 3)) (defScope (topS 3)) .none kV2 dc2 pm2 an2 cd2 ct2), osl2⟩) (c2 : PySem.W.codeIn K cd2 "_law_draw" = true) (k2 : PySem.W.keepIn K (.ref f2) = true)
    {f3 : Addr} {oc3 : Value} {od3 : Option Addr} {osl3 : Array (Option Value)} {kV3 dc3 pm3 : Value} {an3 : Option Addr} {cd3 ct3 : Value}
    (a3 : PySem.W.nsIn K mainGlobals "_law_digits" = some (some (.ref f3))) (l3 : K.lookup f3 = some ⟨oc3, od3, .func (PySem.W.fnOf "_law_digits" "_law_digits" (defArgs (topS 4)) (defBody (topS 4)) (defScope (topS 4)) .none kV3 dc3 pm3 an3 cd3 ct3), osl3⟩) (c3 : PySem.W.codeIn K cd3 "_law_digits" = true) (k3 : PySem.W.keepIn K (.ref f3) = true)
    {f4 : Addr} {oc4 : Value} {od4 : Option Addr} {osl4 : Array (Option Value)} {kV4 dc4 pm4 : Value} {an4 : Option Addr} {cd4 ct4 : Value}
    (a4 : PySem.W.nsIn K mainGlobals "_law_signs" = some (some (.ref f4))) (l4 : K.lookup f4 = some ⟨oc4, od4, .func (PySem.W.fnOf "_law_signs" "_law_signs" (defArgs (topS 5)) (defBody (topS 5)) (defScope (topS 5)) .none kV4 dc4 pm4 an4 cd4 ct4), osl4⟩) (c4 : PySem.W.codeIn K cd4 "_law_signs" = true) (k4 : PySem.W.keepIn K (.ref f4) = true)
    {f5 : Addr} {oc5 : Value} {od5 : Option Addr} {osl5 : Array (Option Value)} {kV5 dc5 pm5 : Value} {an5 : Option Addr} {cd5 ct5 : Value}
    (a5 : PySem.W.nsIn K mainGlobals "_law_name" = some (some (.ref f5))) (l5 : K.lookup f5 = some ⟨oc5, od5, .func (PySem.W.fnOf "_law_name" "_law_name" (defArgs (topS 6)) (defBody (topS 6)) (defScope (topS 6)) .none kV5 dc5 pm5 an5 cd5 ct5), osl5⟩) (c5 : PySem.W.codeIn K cd5 "_law_name" = true) (k5 : PySem.W.keepIn K (.ref f5) = true)
    {f6 : Addr} {oc6 : Value} {od6 : Option Addr} {osl6 : Array (Option Value)} {kV6 dc6 pm6 : Value} {an6 : Option Addr} {cd6 ct6 : Value}
    (a6 : PySem.W.nsIn K mainGlobals "_law_unlike" = some (some (.ref f6))) (l6 : K.lookup f6 = some ⟨oc6, od6, .func (PySem.W.fnOf "_law_unlike" "_law_unlike" (defArgs (topS 7)) (defBody (topS 7)) (defScope (topS 7)) .none kV6 dc6 pm6 an6 cd6 ct6), osl6⟩) (c6 : PySem.W.codeIn K cd6 "_law_unlike" = true) (k6 : PySem.W.keepIn K (.ref f6) = true)
    {f7 : Addr} {oc7 : Value} {od7 : Option Addr} {osl7 : Array (Option Value)} {kV7 dc7 pm7 : Value} {an7 : Option Addr} {cd7 ct7 : Value}
    (a7 : PySem.W.nsIn K mainGlobals "_law_case" = some (some (.ref f7))) (l7 : K.lookup f7 = some ⟨oc7, od7, .func (PySem.W.fnOf "_law_case" "_law_case" (defArgs (topS 9)) (defBody (topS 9)) (defScope (topS 9)) .none kV7 dc7 pm7 an7 cd7 ct7), osl7⟩) (c7 : PySem.W.codeIn K cd7 "_law_case" = true) (k7 : PySem.W.keepIn K (.ref f7) = true)
    {f8 : Addr} {oc8 : Value} {od8 : Option Addr} {osl8 : Array (Option Value)} {kV8 dc8 pm8 : Value} {an8 : Option Addr} {cd8 ct8 : Value}
    (a8 : PySem.W.nsIn K mainGlobals "_law_plain" = some (some (.ref f8))) (l8 : K.lookup f8 = some ⟨oc8, od8, .func (PySem.W.fnOf "_law_plain" "_law_plain" (defArgs (topS 8)) (defBody (topS 8)) (defScope (topS 8)) .none kV8 dc8 pm8 an8 cd8 ct8), osl8⟩) (c8 : PySem.W.codeIn K cd8 "_law_plain" = true) (k8 : PySem.W.keepIn K (.ref f8) = true)
    {f9 : Addr} {oc9 : Value} {od9 : Option Addr} {osl9 : Array (Option Value)} {kV9 dc9 pm9 : Value} {an9 : Option Addr} {cd9 ct9 : Value}
    (a9 : PySem.W.nsIn K mainGlobals "_law_copied" = some (some (.ref f9))) (l9 : K.lookup f9 = some ⟨oc9, od9, .func (PySem.W.fnOf "_law_copied" "_law_copied" (defArgs (topS 10)) (defBody (topS 10)) (defScope (topS 10)) .none kV9 dc9 pm9 an9 cd9 ct9), osl9⟩) (c9 : PySem.W.codeIn K cd9 "_law_copied" = true) (k9 : PySem.W.keepIn K (.ref f9) = true)
    {f10 : Addr} {oc10 : Value} {od10 : Option Addr} {osl10 : Array (Option Value)} {kV10 dc10 pm10 : Value} {an10 : Option Addr} {cd10 ct10 : Value}
    (a10 : PySem.W.nsIn K mainGlobals "_law_standing" = some (some (.ref f10))) (l10 : K.lookup f10 = some ⟨oc10, od10, .func (PySem.W.fnOf "_law_standing" "_law_standing" (defArgs (topS 11)) (defBody (topS 11)) (defScope (topS 11)) .none kV10 dc10 pm10 an10 cd10 ct10), osl10⟩) (c10 : PySem.W.codeIn K cd10 "_law_standing" = true) (k10 : PySem.W.keepIn K (.ref f10) = true)
    {f11 : Addr} {oc11 : Value} {od11 : Option Addr} {osl11 : Array (Option Value)} {kV11 dc11 pm11 : Value} {an11 : Option Addr} {cd11 ct11 : Value}
    (a11 : PySem.W.nsIn K mainGlobals "_law_due" = some (some (.ref f11))) (l11 : K.lookup f11 = some ⟨oc11, od11, .func (PySem.W.fnOf "_law_due" "_law_due" (defArgs (topS 12)) (defBody (topS 12)) (defScope (topS 12)) .none kV11 dc11 pm11 an11 cd11 ct11), osl11⟩) (c11 : PySem.W.codeIn K cd11 "_law_due" = true) (k11 : PySem.W.keepIn K (.ref f11) = true)
    {f12 : Addr} {oc12 : Value} {od12 : Option Addr} {osl12 : Array (Option Value)} {kV12 dc12 pm12 : Value} {an12 : Option Addr} {cd12 ct12 : Value}
    (a12 : PySem.W.nsIn K mainGlobals "_law_right" = some (some (.ref f12))) (l12 : K.lookup f12 = some ⟨oc12, od12, .func (PySem.W.fnOf "_law_right" "_law_right" (defArgs (topS 13)) (defBody (topS 13)) (defScope (topS 13)) .none kV12 dc12 pm12 an12 cd12 ct12), osl12⟩) (c12 : PySem.W.codeIn K cd12 "_law_right" = true) (k12 : PySem.W.keepIn K (.ref f12) = true)
    {f13 : Addr} {oc13 : Value} {od13 : Option Addr} {osl13 : Array (Option Value)} {kV13 dc13 pm13 : Value} {an13 : Option Addr} {cd13 ct13 : Value}
    (a13 : PySem.W.nsIn K mainGlobals "law" = some (some (.ref f13))) (l13 : K.lookup f13 = some ⟨oc13, od13, .func (PySem.W.fnOf "law" "law" (defArgs (topS 14)) (defBody (topS 14)) (defScope (topS 14)) .none kV13 dc13 pm13 an13 cd13 ct13), osl13⟩) (c13 : PySem.W.codeIn K cd13 "law" = true) (k13 : PySem.W.keepIn K (.ref f13) = true)
    (b0 : PySem.W.nsIn K mainGlobals "bool" = some none)
    (b1 : PySem.W.nsIn K mainGlobals "int" = some none)
    (b2 : PySem.W.nsIn K mainGlobals "isinstance" = some none)
    (b3 : PySem.W.nsIn K mainGlobals "len" = some none)
    (b4 : PySem.W.nsIn K mainGlobals "list" = some none)
    (b5 : PySem.W.nsIn K mainGlobals "range" = some none)
    (b6 : PySem.W.nsIn K mainGlobals "sorted" = some none)
    (b7 : PySem.W.nsIn K mainGlobals "tuple" = some none) :
    ∃ fd : FuncData, (∀ (s : Shared) (v : Value), BindsTo s fd ⟨[v], []⟩ [("_law_script", v)]) ∧ ∀ base : Heap, K.In base → base.Ns mainGlobals mg → FnOk P w K mg base (L2.CX P w) 13 fa fd ["_law_script"] (spLaw K 63) := by
  have e := hfa.symm.trans (PySem.W.mg_of X G a13)
  cases e
  refine ⟨PySem.W.fnOf "law" "law" (defArgs (topS 14)) (defBody (topS 14)) (defScope (topS 14)) .none kV13 dc13 pm13 an13 cd13 ct13, fun s v => .of_eq rfl, fun base hb hG => ?_⟩
  have T0 : Tab P w K mg base 0 E0 := Tab.start (fun p hp => by
    exact nomatch hp) (fun x hp => by
    rcases List.mem_cons.mp hp with rfl | hp
    · exact PySem.W.mg_none_of X G b0
    rcases List.mem_cons.mp hp with rfl | hp
    · exact PySem.W.mg_none_of X G b1
    rcases List.mem_cons.mp hp with rfl | hp
    · exact PySem.W.mg_none_of X G b2
    rcases List.mem_cons.mp hp with rfl | hp
    · exact PySem.W.mg_none_of X G b3
    rcases List.mem_cons.mp hp with rfl | hp
    · exact PySem.W.mg_none_of X G b4
    rcases List.mem_cons.mp hp with rfl | hp
    · exact PySem.W.mg_none_of X G b5
    rcases List.mem_cons.mp hp with rfl | hp
    · exact PySem.W.mg_none_of X G b6
    rcases List.mem_cons.mp hp with rfl | hp
    · exact PySem.W.mg_none_of X G b7
    exact nomatch hp)
  have F1 := fun_mk (st := topS 1) l1 c1 k1
  have T1 := T0.add (def_ok F1 s_read_by T0 c_read_by) (PySem.W.mg_of X G a1) k1 (F1.binds (ps := ["plain", "standing", "sign", "name"]) fun _ _ _ _ _ _ us hl => match us, hl with | [_, _, _, _], _ => rfl)
  have F2 := fun_mk (st := topS 3) l2 c2 k2
  have T2 := T1.add (def_ok F2 s_draw T1 c_draw) (PySem.W.mg_of X G a2) k2 (F2.binds (ps := ["_law_script", "_law_k"]) fun _ _ _ _ _ _ us hl => match us, hl with | [_, _], _ => rfl)
  have F3 := fun_mk (st := topS 4) l3 c3 k3
  have T3 := T2.add (def_ok F3 s_digits T2 c_digits) (PySem.W.mg_of X G a3) k3 (F3.binds (ps := ["_law_x", "_law_sizes"]) fun _ _ _ _ _ _ us hl => match us, hl with | [_, _], _ => rfl)
  have F4 := fun_mk (st := topS 5) l4 c4 k4
  have T4 := T3.add (def_ok F4 s_signs T3 c_signs) (PySem.W.mg_of X G a4) k4 (F4.binds (ps := ["_law_x", "_law_many"]) fun _ _ _ _ _ _ us hl => match us, hl with | [_, _], _ => rfl)
  have F5 := fun_mk (st := topS 6) l5 c5 k5
  have T5 := T4.add (def_ok F5 s_name T4 c_name) (PySem.W.mg_of X G a5) k5 (F5.binds (ps := ["_law_x"]) fun _ _ _ _ _ _ us hl => match us, hl with | [_], _ => rfl)
  have F6 := fun_mk (st := topS 7) l6 c6 k6
  have T6 := T5.add (def_ok F6 s_unlike T5 c_unlike) (PySem.W.mg_of X G a6) k6 (F6.binds (ps := ["_law_script", "_law_start", "_law_many"]) fun _ _ _ _ _ _ us hl => match us, hl with | [_, _, _], _ => rfl)
  have F7 := fun_mk (st := topS 9) l7 c7 k7
  have T7 := T6.add (def_ok F7 s_case T6 c_case) (PySem.W.mg_of X G a7) k7 (F7.binds (ps := ["_law_y", "_law_keepers", "_law_r", "_law_k"]) fun _ _ _ _ _ _ us hl => match us, hl with | [_, _, _, _], _ => rfl)
  have F8 := fun_mk (st := topS 8) l8 c8 k8
  have T8 := T7.add (def_ok F8 s_plain T7 c_plain) (PySem.W.mg_of X G a8) k8 (F8.binds (ps := ["_law_script", "_law_start", "_law_signs_here"]) fun _ _ _ _ _ _ us hl => match us, hl with | [_, _, _], _ => rfl)
  have F9 := fun_mk (st := topS 10) l9 c9 k9
  have T9 := T8.add (def_ok F9 s_copied T8 c_copied) (PySem.W.mg_of X G a9) k9 (F9.binds (ps := ["_law_plain_here"]) fun _ _ _ _ _ _ us hl => match us, hl with | [_], _ => rfl)
  have F10 := fun_mk (st := topS 11) l10 c10 k10
  have T10 := T9.add (def_ok F10 s_standing T9 c_standing) (PySem.W.mg_of X G a10) k10 (F10.binds (ps := ["_law_found", "_law_due_here"]) fun _ _ _ _ _ _ us hl => match us, hl with | [_, _], _ => rfl)
  have F11 := fun_mk (st := topS 12) l11 c11 k11
  have T11 := T10.add (def_ok F11 s_due T10 c_due) (PySem.W.mg_of X G a11) k11 (F11.binds (ps := ["_law_plain_here", "_law_standing_here", "_law_sign", "_law_name_here"]) fun _ _ _ _ _ _ us hl => match us, hl with | [_, _, _, _], _ => rfl)
  have F12 := fun_mk (st := topS 13) l12 c12 k12
  have T12 := T11.add (def_ok F12 s_right T11 c_right) (PySem.W.mg_of X G a12) k12 (F12.binds (ps := ["_law_found", "_law_due_here"]) fun _ _ _ _ _ _ us hl => match us, hl with | [_, _], _ => rfl)
  have F13 := fun_mk (st := topS 14) l13 c13 k13
  exact law_end (def_ok F13 s_law T12 c_law) law_ok
end Z.K31
open PySem PySem.W PyProof.Rows
set_option maxRecDepth 100000 in
set_option maxHeartbeats 0 in
theorem PySem.Challenge.cw_freshrooms_k31_cases_read_holds : PySem.Challenge.rw_freshrooms_k31_cases_read.Holds := by
  w_on; o_law; k_head; (case hw => w_witness2)
  k_fill
  refine L2.walk_ofB (l := PySem.Challenge.rw_freshrooms_k31_cases_read) (n := 63) (k := 13) (x := "_law_script") (CX := fun w => L2.CX (PySem.Challenge.rw_freshrooms_k31_cases_read).prog w) (sp := fun w => Z.spLaw _ 63) rfl (by decide) rfl ⟨rfl, by decide, by decide⟩ (fun w h Y => PySem.W.kIn_of Y) ?F (fun _ _ a ns hl hb _ hS => ⟨a, ns, rfl, hS, hl, hb, fun _ => rfl⟩) (fun _ _ _ _ _ h => by obtain ⟨_, _, _, _, _, _, _, _, _, _, _, _, z⟩ := h; exact z.elim)
  case F =>
    intro w mg fa h KX G hmg
    refine' Z.K31.all_mk KX G hmg ?a1 ?l1 ?c1 ?k1 ?a2 ?l2 ?c2 ?k2 ?a3 ?l3 ?c3 ?k3 ?a4 ?l4 ?c4 ?k4 ?a5 ?l5 ?c5 ?k5 ?a6 ?l6 ?c6 ?k6 ?a7 ?l7 ?c7 ?k7 ?a8 ?l8 ?c8 ?k8 ?a9 ?l9 ?c9 ?k9 ?a10 ?l10 ?c10 ?k10 ?a11 ?l11 ?c11 ?k11 ?a12 ?l12 ?c12 ?k12 ?a13 ?l13 ?c13 ?k13 ?zb0 ?zb1 ?zb2 ?zb3 ?zb4 ?zb5 ?zb6 ?zb7
    (case a1 => k_is)
    (case l1 => k_is)
    (case c1 => k_is)
    (case k1 => k_is)
    (case a2 => k_is)
    (case l2 => k_is)
    (case c2 => k_is)
    (case k2 => k_is)
    (case a3 => k_is)
    (case l3 => k_is)
    (case c3 => k_is)
    (case k3 => k_is)
    (case a4 => k_is)
    (case l4 => k_is)
    (case c4 => k_is)
    (case k4 => k_is)
    (case a5 => k_is)
    (case l5 => k_is)
    (case c5 => k_is)
    (case k5 => k_is)
    (case a6 => k_is)
    (case l6 => k_is)
    (case c6 => k_is)
    (case k6 => k_is)
    (case a7 => k_is)
    (case l7 => k_is)
    (case c7 => k_is)
    (case k7 => k_is)
    (case a8 => k_is)
    (case l8 => k_is)
    (case c8 => k_is)
    (case k8 => k_is)
    (case a9 => k_is)
    (case l9 => k_is)
    (case c9 => k_is)
    (case k9 => k_is)
    (case a10 => k_is)
    (case l10 => k_is)
    (case c10 => k_is)
    (case k10 => k_is)
    (case a11 => k_is)
    (case l11 => k_is)
    (case c11 => k_is)
    (case k11 => k_is)
    (case a12 => k_is)
    (case l12 => k_is)
    (case c12 => k_is)
    (case k12 => k_is)
    (case a13 => k_is)
    (case l13 => k_is)
    (case c13 => k_is)
    (case k13 => k_is)
    (case zb0 => k_is)
    (case zb1 => k_is)
    (case zb2 => k_is)
    (case zb3 => k_is)
    (case zb4 => k_is)
    (case zb5 => k_is)
    (case zb6 => k_is)
    (case zb7 => k_is)
