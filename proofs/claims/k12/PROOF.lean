import PyProof.Rows.All
import Wide.All
import OpenK.AllK
import Wide.FinOn
import HandS.ForMost
import HandS.ForExc
import HandS.IsInst
import HandS.Deep
import HandS.Star
import HandS.Wide
import HandS.TupAny
import HandS.TupLe
import HandS.Flow
import HandS.More
import HandS.Conv
import HandS.DictTup
import HandS.CallSlots
import HandS.Walk
import KE.GoesNew
import KE.GoesEnum
import HandS.Defaults
import HandS.HeadHook1
import HandS.HeadHook2
import HandS.ListItems
import KE.KSortTupG
import HandS.HeadHook3
import HandS.HeadHook4
import KE.KAssignIn
import PyProof.ReprRoads
import HandS.HeadEnd
import HandS.Head0
import HandS.Head1
import HandS.Head2
import PySem.Challenge.RW_underwraps_k12_whole_roots_and_asked_key
set_option Elab.async false
set_option linter.all false
set_option maxRecDepth 100000
set_option maxHeartbeats 2000000
/-! The layer Uw: data, what stands for it, mirrors, and the words by which a def's body is told as a mirror. -/
namespace Uw
open PySem PySem.Spec PyProof.Rows L2

/-! ### data -/
inductive D where
  | non | bl (b : Bool) | int (i : Int) | str (s : Str)
  | tup (xs : List D) | lst (xs : List D)
  | dic (kvs : List (Key × D)) | dit (kvs : List (List Key × D))
  | ins (c : Str) (fs : List (Str × D))
  | ty (n : String) | cls (c : Str)
  /-- the script -/
  | scr (ns : List Int)

mutual
/-- no list, dict, instance within -/
def imm : D → Bool
  | .non => true
  | .bl _ => true
  | .int _ => true
  | .str _ => true
  | .tup xs => immL xs
  | .lst _ => false
  | .dic _ => false
  | .dit _ => false
  | .ins _ _ => false
  | .ty _ => true
  | .cls _ => true
  | .scr _ => true
def immL : List D → Bool
  | [] => true
  | d :: ds => imm d && immL ds
end

section
variable (K : PySem.W.Frag)
mutual
/-- v stands for d by the objects that S tells; the lists, dicts, instances within stand where G says -/
def Rp (G : Addr → Prop) (S : Hp) : D → V → Prop
  | .non, v => v = .non
  | .bl b, v => v = .bl b
  | .int i, v => v = .int i
  | .str s, v => v = .str s
  | .tup ds, v => ∃ a xs, v = .ref a ∧ SqT K S a xs ∧ RpL G S ds xs
  | .lst ds, v => ∃ a xs, v = .ref a ∧ G a ∧ S a = some (.lst xs) ∧ RpL G S ds xs
  | .dic kvs, v => ∃ a xs, v = .ref a ∧ G a ∧ S a = some (.dK xs) ∧ RpK G S kvs xs
  | .dit kvs, v => ∃ a xs, v = .ref a ∧ G a ∧ S a = some (.dT xs) ∧ RpT G S kvs xs
  | .ins c fs, v => ∃ a dx xs, v = .ref a ∧ G a ∧ S a = some (.ins (He.ga K c) dx xs) ∧ S dx = some (.own a) ∧ RpF G S fs xs
  | .ty n, v => v = .ty n
  | .cls c, v => v = .ref (He.ga K c)
  | .scr ns, v => ∃ a, v = .ref a ∧ SqL K S a (ns.map V.int)
def RpL (G : Addr → Prop) (S : Hp) : List D → List V → Prop
  | [], xs => xs = []
  | d :: ds, xs => ∃ v vs, xs = v :: vs ∧ Rp G S d v ∧ RpL G S ds vs
def RpK (G : Addr → Prop) (S : Hp) : List (Key × D) → List (Key × V) → Prop
  | [], xs => xs = []
  | (k, d) :: ds, xs => ∃ v vs, xs = (k, v) :: vs ∧ Rp G S d v ∧ RpK G S ds vs
def RpT (G : Addr → Prop) (S : Hp) : List (List Key × D) → List (List Key × V) → Prop
  | [], xs => xs = []
  | (k, d) :: ds, xs => ∃ v vs, xs = (k, v) :: vs ∧ Rp G S d v ∧ RpT G S ds vs
def RpF (G : Addr → Prop) (S : Hp) : List (Str × D) → List (Str × V) → Prop
  | [], xs => xs = []
  | (k, d) :: ds, xs => ∃ v vs, xs = (k, v) :: vs ∧ Rp G S d v ∧ RpF G S ds vs
end
end

/-- all that H tells H' tells -/
def Ex (H H' : Hp) : Prop := ∀ a o, H a = some o → H' a = some o
theorem Ex.refl (H : Hp) : Ex H H := fun _ _ h => h
theorem Ex.trans {H H1 H2 : Hp} (a : Ex H H1) (b : Ex H1 H2) : Ex H H2 := fun x o h => b x o (a x o h)
theorem Ex.new {H : Hp} {p : Addr} {o : HO} (h : H p = none) : Ex H (upd H p o) := fun a u e => by
  rw [upd_ne (ne_of_none e h)]
  exact e
theorem Ex.back {H H' : Hp} {p : Addr} (e : Ex H H') (h : H' p = none) : H p = none := by
  cases h1 : H p with
  | none => rfl
  | some o =>
    rw [e p o h1] at h
    cases h
theorem Ex.upd {S H : Hp} {p : Addr} {o : HO} (e : Ex S H) (h : S p = none) : Ex S (upd H p o) := fun a u ha => by
  rw [upd_ne (ne_of_none ha h)]
  exact e a u ha
theorem Ex.both {S H : Hp} {p : Addr} {o : HO} (e : Ex S H) : Ex (L2.upd S p o) (L2.upd H p o) := fun a u ha => by
  unfold L2.upd at ha ⊢
  by_cases q : a = p
  · rw [if_pos q] at ha ⊢
    exact ha
  · rw [if_neg q] at ha ⊢
    exact e a u ha
theorem Ex.fz {S H : Hp} {p : Addr} {o : HO} (e : Ex S H) (h : H p = some o) : Ex (L2.upd S p o) H := fun a u ha => by
  unfold L2.upd at ha
  by_cases q : a = p
  · rw [if_pos q] at ha
    cases ha
    rw [q]
    exact h
  · rw [if_neg q] at ha
    exact e a u ha
theorem ex_rd {H H' : Hp} {a : Addr} {u : HO} (e : Ex H H') (h : Rd H a u) : Rd H' a u := by
  rcases h with h | ⟨o, h⟩
  · exact Or.inl (e a _ h)
  · exact Or.inr ⟨o, e a _ h⟩
theorem ex_l {K : PySem.W.Frag} {H H' : Hp} {a : Addr} {xs : List V} (e : Ex H H') (h : SqL K H a xs) : SqL K H' a xs := by
  rcases h with h | h
  · exact Or.inl (ex_rd e h)
  · exact Or.inr h
theorem ex_t {K : PySem.W.Frag} {H H' : Hp} {a : Addr} {xs : List V} (e : Ex H H') (h : SqT K H a xs) : SqT K H' a xs := by
  rcases h with h | h
  · exact Or.inl (ex_rd e h)
  · exact Or.inr h

section
variable {K : PySem.W.Frag} {G G' : Addr → Prop} {S S' : Hp}
mutual
theorem Rp.mono (g : ∀ a, G a → G' a) (e : Ex S S') : ∀ {d : D} {v : V}, Rp K G S d v → Rp K G' S' d v
  | .non, _, h => h
  | .bl _, _, h => h
  | .int _, _, h => h
  | .str _, _, h => h
  | .tup ds, _, h => by
    unfold Rp at h ⊢
    obtain ⟨a, xs, h1, h2, h3⟩ := h
    exact ⟨a, xs, h1, ex_t e h2, RpL.mono g e h3⟩
  | .lst ds, _, h => by
    unfold Rp at h ⊢
    obtain ⟨a, xs, h1, h2, h3, h4⟩ := h
    exact ⟨a, xs, h1, g a h2, e _ _ h3, RpL.mono g e h4⟩
  | .dic ds, _, h => by
    unfold Rp at h ⊢
    obtain ⟨a, xs, h1, h2, h3, h4⟩ := h
    exact ⟨a, xs, h1, g a h2, e _ _ h3, RpK.mono g e h4⟩
  | .dit ds, _, h => by
    unfold Rp at h ⊢
    obtain ⟨a, xs, h1, h2, h3, h4⟩ := h
    exact ⟨a, xs, h1, g a h2, e _ _ h3, RpT.mono g e h4⟩
  | .ins c fs, _, h => by
    unfold Rp at h ⊢
    obtain ⟨a, dx, xs, h1, h2, h3, h4, h5⟩ := h
    exact ⟨a, dx, xs, h1, g a h2, e _ _ h3, e _ _ h4, RpF.mono g e h5⟩
  | .ty _, _, h => h
  | .cls _, _, h => h
  | .scr ns, _, h => by
    unfold Rp at h ⊢
    obtain ⟨a, h1, h2⟩ := h
    exact ⟨a, h1, ex_l e h2⟩
theorem RpL.mono (g : ∀ a, G a → G' a) (e : Ex S S') : ∀ {ds : List D} {vs : List V}, RpL K G S ds vs → RpL K G' S' ds vs
  | [], _, h => h
  | d :: ds, _, h => by
    unfold RpL at h ⊢
    obtain ⟨v, vs, h1, h2, h3⟩ := h
    exact ⟨v, vs, h1, Rp.mono g e h2, RpL.mono g e h3⟩
theorem RpK.mono (g : ∀ a, G a → G' a) (e : Ex S S') : ∀ {ds : List (Key × D)} {vs : List (Key × V)}, RpK K G S ds vs → RpK K G' S' ds vs
  | [], _, h => h
  | (k, d) :: ds, _, h => by
    unfold RpK at h ⊢
    obtain ⟨v, vs, h1, h2, h3⟩ := h
    exact ⟨v, vs, h1, Rp.mono g e h2, RpK.mono g e h3⟩
theorem RpT.mono (g : ∀ a, G a → G' a) (e : Ex S S') : ∀ {ds : List (List Key × D)} {vs : List (List Key × V)}, RpT K G S ds vs → RpT K G' S' ds vs
  | [], _, h => h
  | (k, d) :: ds, _, h => by
    unfold RpT at h ⊢
    obtain ⟨v, vs, h1, h2, h3⟩ := h
    exact ⟨v, vs, h1, Rp.mono g e h2, RpT.mono g e h3⟩
theorem RpF.mono (g : ∀ a, G a → G' a) (e : Ex S S') : ∀ {ds : List (Str × D)} {vs : List (Str × V)}, RpF K G S ds vs → RpF K G' S' ds vs
  | [], _, h => h
  | (k, d) :: ds, _, h => by
    unfold RpF at h ⊢
    obtain ⟨v, vs, h1, h2, h3⟩ := h
    exact ⟨v, vs, h1, Rp.mono g e h2, RpF.mono g e h3⟩
end
-- of what is no list, dict, instance every guard holds
mutual
theorem Rp.imm : ∀ {d : D} {v : V}, imm d = true → Rp K G S d v → Rp K G' S d v
  | .non, _, _, h => h
  | .bl _, _, _, h => h
  | .int _, _, _, h => h
  | .str _, _, _, h => h
  | .tup ds, _, z, h => by
    unfold Rp at h ⊢
    obtain ⟨a, xs, h1, h2, h3⟩ := h
    exact ⟨a, xs, h1, h2, RpL.imm (by unfold Uw.imm at z; exact z) h3⟩
  | .lst _, _, z, _ => by unfold Uw.imm at z; cases z
  | .dic _, _, z, _ => by unfold Uw.imm at z; cases z
  | .dit _, _, z, _ => by unfold Uw.imm at z; cases z
  | .ins _ _, _, z, _ => by unfold Uw.imm at z; cases z
  | .ty _, _, _, h => h
  | .cls _, _, _, h => h
  | .scr _, _, _, h => by
    unfold Rp at h ⊢
    exact h
theorem RpL.imm : ∀ {ds : List D} {vs : List V}, immL ds = true → RpL K G S ds vs → RpL K G' S ds vs
  | [], _, _, h => h
  | d :: ds, _, z, h => by
    unfold RpL at h ⊢
    obtain ⟨v, vs, h1, h2, h3⟩ := h
    unfold immL at z
    rw [Bool.and_eq_true] at z
    exact ⟨v, vs, h1, Rp.imm z.1 h2, RpL.imm z.2 h3⟩
end
theorem RpL.length : ∀ {ds : List D} {vs : List V}, RpL K G S ds vs → vs.length = ds.length
  | [], _, h => by unfold RpL at h; rw [h]; rfl
  | d :: ds, _, h => by
    unfold RpL at h
    obtain ⟨v, vs, h1, _, h3⟩ := h
    rw [h1, List.length_cons, List.length_cons, RpL.length h3]
theorem RpL.get : ∀ {ds : List D} {vs : List V} {i : Nat} {d : D}, RpL K G S ds vs → ds[i]? = some d → ∃ v, vs[i]? = some v ∧ Rp K G S d v
  | [], _, i, d, h, e => by simp at e
  | d :: ds, _, 0, d', h, e => by
    unfold RpL at h
    obtain ⟨v, vs, h1, h2, _⟩ := h
    simp at e
    subst e
    exact ⟨v, by rw [h1]; rfl, h2⟩
  | d :: ds, _, i + 1, d', h, e => by
    unfold RpL at h
    obtain ⟨v, vs, h1, _, h3⟩ := h
    obtain ⟨u, h4, h5⟩ := RpL.get (i := i) h3 (by simpa using e)
    exact ⟨u, by rw [h1]; simpa using h4, h5⟩
theorem RpL.append : ∀ {ds es : List D} {vs ws : List V}, RpL K G S ds vs → RpL K G S es ws → RpL K G S (ds ++ es) (vs ++ ws)
  | [], _, _, _, h, k => by unfold RpL at h; rw [h]; exact k
  | d :: ds, es, _, ws, h, k => by
    unfold RpL at h
    obtain ⟨v, vs, h1, h2, h3⟩ := h
    rw [h1]
    show RpL K G S (d :: (ds ++ es)) (v :: (vs ++ ws))
    unfold RpL
    exact ⟨v, vs ++ ws, rfl, h2, RpL.append h3 k⟩
theorem RpL.one {d : D} {v : V} (h : Rp K G S d v) : RpL K G S [d] [v] := by
  unfold RpL
  exact ⟨v, [], rfl, h, by unfold RpL; rfl⟩
theorem RpL.nil : RpL K G S [] [] := by unfold RpL; rfl
theorem RpL.cons {d : D} {v : V} {ds : List D} {vs : List V} (h : Rp K G S d v) (k : RpL K G S ds vs) : RpL K G S (d :: ds) (v :: vs) := by
  unfold RpL
  exact ⟨v, vs, rfl, h, k⟩
theorem RpL.drop : ∀ {ds : List D} {vs : List V} (n : Nat), RpL K G S ds vs → RpL K G S (ds.drop n) (vs.drop n)
  | ds, vs, 0, h => h
  | [], _, n + 1, h => by unfold RpL at h; rw [h]; exact RpL.nil
  | d :: ds, _, n + 1, h => by
    unfold RpL at h
    obtain ⟨v, vs, h1, _, h3⟩ := h
    rw [h1]
    exact RpL.drop n h3
theorem RpL.take : ∀ {ds : List D} {vs : List V} (n : Nat), RpL K G S ds vs → RpL K G S (ds.take n) (vs.take n)
  | ds, vs, 0, h => by
    rw [List.take_zero, List.take_zero]
    exact RpL.nil
  | [], _, n + 1, h => by
    unfold RpL at h
    rw [h, List.take_nil, List.take_nil]
    exact RpL.nil
  | d :: ds, _, n + 1, h => by
    unfold RpL at h
    obtain ⟨v, vs, h1, h2, h3⟩ := h
    rw [h1]
    exact RpL.cons h2 (RpL.take n h3)
theorem RpL.set : ∀ {ds : List D} {vs : List V} {d : D} {v : V} (n : Nat), RpL K G S ds vs → Rp K G S d v → RpL K G S (ds.set n d) (vs.set n v)
  | [], _, _, _, n, h, _ => by
    unfold RpL at h
    rw [h]
    exact RpL.nil
  | d :: ds, _, d', v', 0, h, k => by
    unfold RpL at h
    obtain ⟨v, vs, h1, _, h3⟩ := h
    rw [h1]
    exact RpL.cons k h3
  | d :: ds, _, d', v', n + 1, h, k => by
    unfold RpL at h
    obtain ⟨v, vs, h1, h2, h3⟩ := h
    rw [h1]
    exact RpL.cons h2 (RpL.set n h3 k)
theorem RpL.eraseIdx : ∀ {ds : List D} {vs : List V} (n : Nat), RpL K G S ds vs → RpL K G S (ds.eraseIdx n) (vs.eraseIdx n)
  | [], _, n, h => by
    unfold RpL at h
    rw [h]
    exact RpL.nil
  | d :: ds, _, 0, h => by
    unfold RpL at h
    obtain ⟨v, vs, h1, _, h3⟩ := h
    rw [h1]
    exact h3
  | d :: ds, _, n + 1, h => by
    unfold RpL at h
    obtain ⟨v, vs, h1, h2, h3⟩ := h
    rw [h1]
    exact RpL.cons h2 (RpL.eraseIdx n h3)
end
end Uw

set_option Elab.async false
set_option linter.all false
set_option maxRecDepth 100000
set_option maxHeartbeats 2000000
namespace Uw
open PySem PySem.Spec PyProof.Rows L2

/-! ### mirrors -/
/-- what is known of a value beside its datum: top: its outermost list (dict, instance) is new since the epoch; own: all within are; old: it stood at the epoch -/
inductive Fl where | any | top | own | old
inductive Sv where
  | und | fz (f : Fl) (d : D) | mu (o : Bool) (d : D) | io (d : D)
inductive Ev where | val (f : Fl) (d : D) | view (i : Nat)
inductive Fw where | next | brk | cont | ret (f : Fl) (d : D)
inductive R (α : Type) where | ok (a : α) | exc (c : Str) (fs : List (Str × D)) | bad
def R.bind {α β : Type} : R α → (α → R β) → R β
  | .ok a, f => f a
  | .exc c fs, _ => .exc c fs
  | .bad, _ => .bad
abbrev M (α : Type) := List Sv → R (α × List Sv)
def M.bind {α β : Type} (m : M α) (f : α → M β) : M β := fun σ => (m σ).bind fun p => f p.1 p.2
def M.ret {α : Type} (a : α) : M α := fun σ => .ok (a, σ)
abbrev Sm := M Fw

/-! ### what stands behind -/
structure Gho where
  B : Hp
  S0 : Hp
  Se : Hp
  io : List (Nat × Addr)

def yes : Addr → Prop := fun _ => True
def Gho.nu (g : Gho) : Addr → Prop := fun a => g.Se a = none
/-- the outermost is new -/
def Top (G : Addr → Prop) : D → V → Prop
  | .lst _, v => ∃ a, v = .ref a ∧ G a
  | .dic _, v => ∃ a, v = .ref a ∧ G a
  | .dit _, v => ∃ a, v = .ref a ∧ G a
  | .ins _ _, v => ∃ a, v = .ref a ∧ G a
  | _, _ => True

section
variable (K : PySem.W.Frag)
def FzOk (g : Gho) (S : Hp) (d : D) (v : V) : Fl → Prop
  | .any => Rp K yes S d v
  | .top => Rp K yes S d v ∧ Top g.nu d v
  | .own => Rp K g.nu S d v
  | .old => Rp K yes g.Se d v
/-- a list, a dict that may be changed stands at p -/
def MuAt (G : Addr → Prop) (S H : Hp) (p : Addr) : D → Prop
  | .lst ds => ∃ xs, H p = some (.lst xs) ∧ RpL K G S ds xs
  | .dic ds => ∃ xs, H p = some (.dK xs) ∧ RpK K G S ds xs
  | .dit ds => ∃ xs, H p = some (.dT xs) ∧ RpT K G S ds xs
  | .ins c fs => ∃ dx xs, H p = some (.ins (He.ga K c) dx xs) ∧ S dx = some (.own p) ∧ RpF K G S fs xs
  | _ => False
def gdO (g : Gho) (o : Bool) : Addr → Prop := if o = true then g.nu else yes
def SlotOk (g : Gho) (S H : Hp) (i : Nat) (rv : Option (Option V)) : Sv → Prop
  | .und => True
  | .fz f d => ∃ v, rv = some (some v) ∧ FzOk K g S d v f
  | .mu o d => ∃ p, rv = some (some (.ref p)) ∧ S p = none ∧ g.B p = none ∧ MuAt K (gdO g o) S H p d
  | .io d => ∃ p, rv = some (some (.ref p)) ∧ S p = none ∧ g.B p = none ∧ (i, p) ∈ g.io ∧ MuAt K yes S H p d
def Sv.isMu : Sv → Bool
  | .mu _ _ => true
  | .io _ => true
  | _ => false
/-- some slot that may be changed stands at p -/
def MuP (σr : L2.St) (σ : List Sv) (i : Nat) (p : Addr) : Prop := ∃ s, σ[i]? = some s ∧ s.isMu = true ∧ σr[i]? = some (some (.ref p))
structure Rel (g : Gho) (S H : Hp) (σr : L2.St) (σ : List Sv) : Prop where
  len : σr.length = σ.length
  s0e : Ex g.S0 g.Se
  seS : Ex g.Se S
  sH : Ex S H
  bH : Ex g.B H
  fresh : ∀ a, S a ≠ none → g.S0 a = none → g.B a = none
  slot : ∀ i s, σ[i]? = some s → SlotOk K g S H i σr[i]? s
  inj : ∀ i j p, MuP σr σ i p → MuP σr σ j p → i = j
def EvOk (g : Gho) (S : Hp) (σr : L2.St) (v : V) : Ev → Prop
  | .val f d => FzOk K g S d v f
  | .view i => σr[i]? = some (some v)
def EvsOk (g : Gho) (S : Hp) (σr : L2.St) : List V → List Ev → Prop
  | [], es => es = []
  | v :: vs, es => ∃ e es', es = e :: es' ∧ EvOk K g S σr v e ∧ EvsOk g S σr vs es'
/-- what is wanted of an exception: its class, its dict, the slots, the heap -/
def Res {α : Type} (g : Gho) (W : WX) (S : Hp) (σr : L2.St) (r : R (α × List Sv)) (F : α → List Sv → Hp → Hp → Prop) : Prop :=
  match r with
  | .ok p => ∀ S' H', Ex S S' → Rel K g S' H' σr p.2 → F p.1 p.2 S' H'
  | .exc c fs => ∀ S' H' σ' dx xs, Ex S S' → Rel K g S' H' σr σ' → H' dx = some (.xd xs) → RpF K yes S' fs xs → W (.ref (He.ga K c)) (some dx) σr H'
  | .bad => False
end

section
variable {K : PySem.W.Frag} {g : Gho} {S S' H H' : Hp} {σr σr' : L2.St} {σ σ' : List Sv} {W : WX}
theorem yes_of {G : Addr → Prop} : ∀ a, G a → yes a := fun _ _ => trivial
theorem FzOk.any {d : D} {v : V} {f : Fl} (e : Ex g.Se S) (h : FzOk K g S d v f) : Rp K yes S d v := by
  cases f with
  | any => exact h
  | top => exact h.1
  | own => exact Rp.mono yes_of (Ex.refl _) h
  | old => exact Rp.mono yes_of e h
theorem FzOk.mono {d : D} {v : V} {f : Fl} (e : Ex S S') (h : FzOk K g S d v f) : FzOk K g S' d v f := by
  cases f with
  | any => exact Rp.mono yes_of e h
  | top => exact ⟨Rp.mono yes_of e h.1, h.2⟩
  | own => exact Rp.mono (fun _ x => x) e h
  | old => exact h
theorem MuAt.mono {G : Addr → Prop} {p : Addr} {d : D} (e : Ex S S') (hp : H' p = H p) (h : MuAt K G S H p d) : MuAt K G S' H' p d := by
  cases d <;> first | exact h.elim | (obtain ⟨xs, h1, h2⟩ := h; refine ⟨xs, hp.trans h1, ?_⟩; first | exact RpL.mono (fun _ x => x) e h2 | exact RpK.mono (fun _ x => x) e h2 | exact RpT.mono (fun _ x => x) e h2) | (obtain ⟨dx, xs, h1, h2, h3⟩ := h; exact ⟨dx, xs, hp.trans h1, e _ _ h2, RpF.mono (fun _ x => x) e h3⟩)
theorem MuAt.there {G : Addr → Prop} {p : Addr} {d : D} (h : MuAt K G S H p d) : H p ≠ none := by
  cases d <;> first | exact h.elim | (obtain ⟨xs, h1, _⟩ := h; rw [h1]; exact fun z => nomatch z) | (obtain ⟨dx, xs, h1, _⟩ := h; rw [h1]; exact fun z => nomatch z)
theorem EvOk.mono {v : V} {e : Ev} (x : Ex S S') (h : EvOk K g S σr v e) : EvOk K g S' σr v e := by
  cases e with
  | val f d => exact FzOk.mono x h
  | view i => exact h
theorem EvsOk.mono (x : Ex S S') : ∀ {vs : List V} {es : List Ev}, EvsOk K g S σr vs es → EvsOk K g S' σr vs es
  | [], _, h => h
  | v :: vs, _, h => by
    obtain ⟨e, es', h1, h2, h3⟩ := h
    exact ⟨e, es', h1, EvOk.mono x h2, EvsOk.mono x h3⟩
theorem EvsOk.nil : EvsOk K g S σr [] [] := rfl
theorem EvsOk.cons {v : V} {vs : List V} {e : Ev} {es : List Ev} (h : EvOk K g S σr v e) (k : EvsOk K g S σr vs es) : EvsOk K g S σr (v :: vs) (e :: es) := ⟨e, es, rfl, h, k⟩

theorem Rel.muP (r : Rel K g S H σr σ) {i : Nat} {p : Addr} (h : MuP σr σ i p) : S p = none ∧ g.B p = none ∧ H p ≠ none := by
  obtain ⟨s, h1, h2, h3⟩ := h
  have q := r.slot i s h1
  cases s with
  | und => cases h2
  | fz f d => cases h2
  | mu o d =>
    obtain ⟨p', e, a, b, c⟩ := q
    rw [h3] at e
    cases e
    exact ⟨a, b, c.there⟩
  | io d =>
    obtain ⟨p', e, a, b, _, c⟩ := q
    rw [h3] at e
    cases e
    exact ⟨a, b, c.there⟩
/-- the heap grows where no slot that may change stands, what is frozen grows -/
theorem Rel.grow (r : Rel K g S H σr σ) (eS : Ex S S') (eSH : Ex S' H') (eB : Ex g.B H') (fr : ∀ a, S' a ≠ none → S a = none → g.B a = none)
    (mu : ∀ i p, MuP σr σ i p → S' p = none ∧ H' p = H p) : Rel K g S' H' σr σ where
  len := r.len
  s0e := r.s0e
  seS := r.seS.trans eS
  sH := eSH
  bH := eB
  fresh := fun a h1 h2 => by
    by_cases h3 : S a = none
    · exact fr a h1 h3
    · exact r.fresh a h3 h2
  slot := fun i s hs => by
    have q := r.slot i s hs
    cases s with
    | und => trivial
    | fz f d =>
      obtain ⟨v, e, h⟩ := q
      exact ⟨v, e, h.mono eS⟩
    | mu o d =>
      obtain ⟨p, e, a, b, c⟩ := q
      obtain ⟨m1, m2⟩ := mu i p ⟨_, hs, rfl, e⟩
      exact ⟨p, e, m1, b, c.mono eS m2⟩
    | io d =>
      obtain ⟨p, e, a, b, x, c⟩ := q
      obtain ⟨m1, m2⟩ := mu i p ⟨_, hs, rfl, e⟩
      exact ⟨p, e, m1, b, x, c.mono eS m2⟩
  inj := r.inj
/-- a new object, frozen at once -/
theorem Rel.alloc (r : Rel K g S H σr σ) {p : Addr} {o : HO} (h : H p = none) : Rel K g (upd S p o) (upd H p o) σr σ := by
  have hS : S p = none := r.sH.back h
  refine r.grow (Ex.new hS) r.sH.both (r.bH.trans (Ex.new h)) (fun a h1 h2 => ?_) (fun i q hq => ?_)
  · by_cases e : a = p
    · rw [e]
      exact r.bH.back h
    · rw [upd_ne e] at h1
      exact absurd h2 h1
  · obtain ⟨h1, _, h3⟩ := r.muP hq
    have ne : q ≠ p := fun e => h3 (by rw [e]; exact h)
    rw [upd_ne ne, upd_ne ne]
    exact ⟨h1, rfl⟩
/-- a new object, not frozen -/
theorem Rel.newH (r : Rel K g S H σr σ) {p : Addr} {o : HO} (h : H p = none) : Rel K g S (upd H p o) σr σ := by
  refine r.grow (Ex.refl S) (r.sH.upd (r.sH.back h)) (r.bH.trans (Ex.new h)) (fun a h1 h2 => absurd h2 h1) (fun i q hq => ?_)
  obtain ⟨h1, _, h3⟩ := r.muP hq
  have ne : q ≠ p := fun e => h3 (by rw [e]; exact h)
  rw [upd_ne ne]
  exact ⟨h1, rfl⟩
/-- an object of ours that no slot may change is frozen -/
theorem Rel.freeze (r : Rel K g S H σr σ) {p : Addr} {o : HO} (h : H p = some o) (hS : S p = none) (hB : g.B p = none) (hm : ∀ i, ¬ MuP σr σ i p) : Rel K g (upd S p o) H σr σ := by
  refine r.grow (Ex.new hS) (r.sH.fz h) r.bH (fun a h1 h2 => ?_) (fun i q hq => ?_)
  · by_cases e : a = p
    · rw [e]
      exact hB
    · rw [upd_ne e] at h1
      exact absurd h2 h1
  · have ne : q ≠ p := fun e => hm i (e ▸ hq)
    rw [upd_ne ne]
    exact ⟨(r.muP hq).1, rfl⟩
/-- a slot that may not change stands for less -/
theorem MuP.of_set {i j : Nat} {s : Sv} {p : Addr} (h : MuP σr (σ.set i s) j p) (hs : s.isMu = false) : MuP σr σ j p ∧ j ≠ i := by
  obtain ⟨t, h1, h2, h3⟩ := h
  by_cases e : i = j
  · subst e
    rw [List.getElem?_set] at h1
    simp only [if_true] at h1
    split at h1
    · cases h1
      rw [hs] at h2
      cases h2
    · cases h1
  · rw [List.getElem?_set_ne e] at h1
    exact ⟨⟨t, h1, h2, h3⟩, Ne.symm e⟩
theorem MuP.of_set2 {i j : Nat} {s : Sv} {v : Option V} {p : Addr} (h : MuP (σr.set i v) (σ.set i s) j p) (hs : s.isMu = false) : MuP σr σ j p ∧ j ≠ i := by
  obtain ⟨t, h1, h2, h3⟩ := h
  by_cases e : i = j
  · subst e
    rw [List.getElem?_set] at h1
    simp only [if_true] at h1
    split at h1
    · cases h1
      rw [hs] at h2
      cases h2
    · cases h1
  · rw [List.getElem?_set_ne e] at h1 h3
    exact ⟨⟨t, h1, h2, h3⟩, Ne.symm e⟩
/-- a value is stored into a slot -/
theorem Rel.put (r : Rel K g S H σr σ) {i : Nat} {v : V} {s : Sv} (hs : s.isMu = false) (hi : i < σ.length) (h : SlotOk K g S H i (some (some v)) s) : Rel K g S H (σr.set i (some v)) (σ.set i s) where
  len := by rw [List.length_set, List.length_set, r.len]
  s0e := r.s0e
  seS := r.seS
  sH := r.sH
  bH := r.bH
  fresh := r.fresh
  slot := fun j t ht => by
    by_cases e : i = j
    · subst e
      rw [List.getElem?_set_self hi] at ht
      cases ht
      rw [List.getElem?_set_self (by rw [r.len]; exact hi)]
      exact h
    · rw [List.getElem?_set_ne e] at ht
      rw [List.getElem?_set_ne e]
      exact r.slot j t ht
  inj := fun a b p h1 h2 => r.inj a b p (h1.of_set2 hs).1 (h2.of_set2 hs).1
/-- a slot's datum alone is told otherwise -/
theorem Rel.say (r : Rel K g S H σr σ) {i : Nat} {s : Sv} (hs : s.isMu = false) (h : SlotOk K g S H i σr[i]? s) : Rel K g S H σr (σ.set i s) where
  len := by rw [List.length_set, r.len]
  s0e := r.s0e
  seS := r.seS
  sH := r.sH
  bH := r.bH
  fresh := r.fresh
  slot := fun j t ht => by
    by_cases e : i = j
    · subst e
      rw [List.getElem?_set] at ht
      simp only [if_true] at ht
      split at ht
      · cases ht
        exact h
      · cases ht
    · rw [List.getElem?_set_ne e] at ht
      exact r.slot j t ht
  inj := fun a b p h1 h2 => r.inj a b p (h1.of_set hs).1 (h2.of_set hs).1
/-- a list, dict that may be changed comes into a slot -/
theorem Rel.putMu (r : Rel K g S H σr σ) {i : Nat} {p : Addr} {o : Bool} {d : D} (hi : i < σ.length) (hS : S p = none) (hB : g.B p = none) (hm : ∀ j, ¬ MuP σr σ j p) (h : MuAt K (gdO g o) S H p d) :
    Rel K g S H (σr.set i (some (.ref p))) (σ.set i (.mu o d)) where
  len := by rw [List.length_set, List.length_set, r.len]
  s0e := r.s0e
  seS := r.seS
  sH := r.sH
  bH := r.bH
  fresh := r.fresh
  slot := fun j t ht => by
    by_cases e : i = j
    · subst e
      rw [List.getElem?_set_self hi] at ht
      cases ht
      rw [List.getElem?_set_self (by rw [r.len]; exact hi)]
      exact ⟨p, rfl, hS, hB, h⟩
    · rw [List.getElem?_set_ne e] at ht
      rw [List.getElem?_set_ne e]
      exact r.slot j t ht
  inj := fun a b q h1 h2 => by
    have go : ∀ c q, MuP (σr.set i (some (.ref p))) (σ.set i (.mu o d)) c q → (c = i ∧ q = p) ∨ (c ≠ i ∧ MuP σr σ c q) := fun c q ⟨t, h1, h2, h3⟩ => by
      by_cases e : i = c
      · subst e
        rw [List.getElem?_set_self (by rw [r.len]; exact hi)] at h3
        cases h3
        exact .inl ⟨rfl, rfl⟩
      · rw [List.getElem?_set_ne e] at h1 h3
        exact .inr ⟨Ne.symm e, t, h1, h2, h3⟩
    rcases go a q h1 with ⟨e1, e2⟩ | ⟨n1, m1⟩
    · rcases go b q h2 with ⟨e3, _⟩ | ⟨n2, m2⟩
      · rw [e1, e3]
      · exact absurd (e2 ▸ m2) (hm b)
    · rcases go b q h2 with ⟨e3, e4⟩ | ⟨n2, m2⟩
      · exact absurd (e4 ▸ m1) (hm a)
      · exact r.inj a b q m1 m2
/-- what stands in a slot that may be changed is changed -/
theorem Rel.mut (r : Rel K g S H σr σ) {i : Nat} {p : Addr} {s s' : Sv} {o : HO} (hp : MuP σr σ i p) (hs : σ[i]? = some s) (hs' : s'.isMu = true)
    (h : SlotOk K g S (upd H p o) i (some (some (.ref p))) s') : Rel K g S (upd H p o) σr (σ.set i s') where
  len := by rw [List.length_set, r.len]
  s0e := r.s0e
  seS := r.seS
  sH := r.sH.upd (r.muP hp).1
  bH := r.bH.upd (r.muP hp).2.1
  fresh := r.fresh
  slot := fun j t ht => by
    by_cases e : i = j
    · subst e
      rw [List.getElem?_set] at ht
      simp only [if_true] at ht
      split at ht
      · cases ht
        obtain ⟨_, _, _, h3⟩ := hp
        rw [h3]
        exact h
      · cases ht
    · rw [List.getElem?_set_ne e] at ht
      have q := r.slot j t ht
      cases t with
      | und => trivial
      | fz f d => exact q
      | mu oo d =>
        obtain ⟨p', e', a, b, c⟩ := q
        have ne : p' ≠ p := fun z => e (r.inj i j p hp (by rw [← z]; exact ⟨_, ht, rfl, e'⟩))
        exact ⟨p', e', a, b, c.mono (Ex.refl S) (upd_ne ne)⟩
      | io d =>
        obtain ⟨p', e', a, b, x, c⟩ := q
        have ne : p' ≠ p := fun z => e (r.inj i j p hp (by rw [← z]; exact ⟨_, ht, rfl, e'⟩))
        exact ⟨p', e', a, b, x, c.mono (Ex.refl S) (upd_ne ne)⟩
  inj := fun a b q h1 h2 => by
    have go : ∀ c q, MuP σr (σ.set i s') c q → MuP σr σ c q := fun c q ⟨t, h1, h2, h3⟩ => by
      by_cases e : i = c
      · subst e
        obtain ⟨t', k1, k2, k3⟩ := hp
        exact ⟨t', k1, k2, h3⟩
      · rw [List.getElem?_set_ne e] at h1
        exact ⟨t, h1, h2, h3⟩
    exact r.inj a b q (go a q h1) (go b q h2)
theorem Rel.lt (r : Rel K g S H σr σ) {i : Nat} {v : Option V} (h : σr[i]? = some v) : i < σ.length := by
  rw [← r.len]
  exact (List.getElem?_eq_some_iff.mp h).1

theorem Res.imp {α : Type} {r : R (α × List Sv)} {F F' : α → List Sv → Hp → Hp → Prop} (h : Res K g W S σr r F) (k : ∀ a σ' S' H', Ex S S' → Rel K g S' H' σr σ' → F a σ' S' H' → F' a σ' S' H') : Res K g W S σr r F' := by
  cases r with
  | ok p => exact fun S' H' e r => k p.1 p.2 S' H' e r (h S' H' e r)
  | exc c fs => exact h
  | bad => exact h
theorem Res.up {α : Type} {r : R (α × List Sv)} {F : α → List Sv → Hp → Hp → Prop} (e : Ex S S') (h : Res K g W S σr r F) : Res K g W S' σr r F := by
  cases r with
  | ok p => exact fun S'' H' e' r => h S'' H' (e.trans e') r
  | exc c fs => exact fun S'' H' σ' dx xs e' => h S'' H' σ' dx xs (e.trans e')
  | bad => exact h
theorem Res.bind {α β : Type} {m : R (α × List Sv)} {f : α → M β} {F : β → List Sv → Hp → Hp → Prop} (h : Res K g W S σr (m.bind fun p => f p.1 p.2) F) : Res K g W S σr m fun a σ' S' _ => Res K g W S' σr (f a σ') F := by
  cases m with
  | ok p => exact fun S' H' e _ => Res.up e h
  | exc c fs => exact h
  | bad => exact h
theorem Res.ok {α : Type} {a : α} {F : α → List Sv → Hp → Hp → Prop} (h : Res K g W S σr (R.ok (a, σ)) F) (r : Rel K g S H σr σ) : F a σ S H := h S H (Ex.refl S) r
theorem Res.ok' {α : Type} {a : α} {F : α → List Sv → Hp → Hp → Prop} (h : Res K g W S σr (R.ok (a, σ)) F) (e : Ex S S') (r : Rel K g S' H' σr σ) : F a σ S' H' := h S' H' e r
end

/-! ### a reading is a mirror's -/
section
variable (K : PySem.W.Frag) (W : WX)
def RefE (te : TE) (m : M Ev) : Prop := ∀ g S H σr σ (Q : VK), Rel K g S H σr σ → Res K g W S σr (m σ) (fun ev _ S' H' => ∀ v, EvOk K g S' σr v ev → Q v H') → te σr H Q
def RefT (tt : TT) (m : M Bool) : Prop := ∀ g S H σr σ (Q : Bool → Hp → Prop), Rel K g S H σr σ → Res K g W S σr (m σ) (fun b _ _ H' => Q b H') → tt σr H Q
def RefA (ta : TA) (m : M (List Ev)) : Prop := ∀ g S H σr σ (Q : List V → Hp → Prop), Rel K g S H σr σ → Res K g W S σr (m σ) (fun es _ S' H' => ∀ vs, EvsOk K g S' σr vs es → Q vs H') → ta σr H Q
/-- a new list, dict, not frozen -/
def RefM (te : TE) (m : M (Bool × D)) : Prop := ∀ g S H σr σ (Q : VK), Rel K g S H σr σ →
  Res K g W S σr (m σ) (fun od σ' S' H' => ∀ p, S' p = none → g.B p = none → (∀ i, ¬ MuP σr σ' i p) → MuAt K (gdO g od.1) S' H' p od.2 → Q (.ref p) H') → te σr H Q
def ResS (g : Gho) (S : Hp) (r : R (Fw × List Sv)) (D : Ends) : Prop :=
  match r with
  | .ok (.next, σ') => ∀ σr' S' H', Ex S S' → Rel K g S' H' σr' σ' → D.nx σr' H'
  | .ok (.brk, σ') => ∀ σr' S' H', Ex S S' → Rel K g S' H' σr' σ' → D.bk σr' H'
  | .ok (.cont, σ') => ∀ σr' S' H', Ex S S' → Rel K g S' H' σr' σ' → D.ct σr' H'
  | .ok (.ret f d, σ') => ∀ v σr' S' H', Ex S S' → Rel K g S' H' σr' σ' → FzOk K g S' d v f → D.rt v H'
  | .exc c fs => ∀ σr' S' H' σ' dx xs, Ex S S' → Rel K g S' H' σr' σ' → H' dx = some (.xd xs) → RpF K yes S' fs xs → W (.ref (He.ga K c)) (some dx) σr' H'
  | .bad => False
def RefS (t : TS) (m : Sm) : Prop := ∀ g S H σr σ (D : Ends), Rel K g S H σr σ → ResS K W g S (m σ) D → t D σr H
end
end Uw

set_option Elab.async false
set_option linter.all false
set_option maxRecDepth 100000
set_option maxHeartbeats 2000000
namespace Uw
open PySem PySem.Spec PyProof.Rows L2

/-! ### mirrors of expressions -/
def eVar (i : Nat) : M Ev := fun σ => match σ[i]? with
  | some (.fz f d) => .ok (.val f d, σ)
  | some (.mu _ _) => .ok (.view i, σ)
  | some (.io _) => .ok (.view i, σ)
  | _ => .bad
def eC (d : D) : M Ev := M.ret (.val .own d)
def look (e : Ev) : M D := fun σ => match e with
  | .val _ d => .ok (d, σ)
  | .view i => match σ[i]? with
    | some (.mu _ d) => .ok (d, σ)
    | some (.io d) => .ok (d, σ)
    | some (.fz _ d) => .ok (d, σ)
    | _ => .bad
def lift {α : Type} (o : Option α) : M α := fun σ => match o with
  | some a => .ok (a, σ)
  | none => .bad
def kidsImm : D → Bool
  | .lst ds => immL ds
  | .dic kvs => immL (kvs.map (·.2))
  | .dit kvs => immL (kvs.map (·.2))
  | _ => false
def flO (o : Bool) : Fl := if o = true then .own else .top
/-- as a value: what may be changed is frozen -/
def asVal (e : Ev) : M Ev := fun σ => match e with
  | .val f d => .ok (.val f d, σ)
  | .view i => match σ[i]? with
    | some (.mu o d) => .ok (.val (flO o) d, σ.set i (.fz (flO o) d))
    | some (.fz f d) => .ok (.val f d, σ)
    | _ => .bad
def eV (m : M Ev) : M Ev := m.bind asVal
def eOp (f : D → D → Option D) (ma mb : M Ev) : M Ev := ma.bind fun a => mb.bind fun b => (look a).bind fun x => (look b).bind fun y => (lift (f x y)).bind fun d => M.ret (.val .own d)
def eUn (f : D → Option D) (ma : M Ev) : M Ev := ma.bind fun a => (look a).bind fun x => (lift (f x)).bind fun d => M.ret (.val .own d)
/-- an item of a list, a tuple -/
def lookF (e : Ev) : M (Fl × D) := fun σ => match e with
  | .val f d => .ok ((f, d), σ)
  | .view i => match σ[i]? with
    | some (.mu o d) => .ok ((if o = true then .own else .any, d), σ)
    | some (.io d) => .ok ((.any, d), σ)
    | some (.fz f d) => .ok ((f, d), σ)
    | _ => .bad
def flKid : Fl → Fl
  | .top => .any
  | f => f
def asB (e : Ev) : M Bool := (look e).bind fun d => match d with
  | .bl b => M.ret b
  | _ => fun _ => .bad
def eT (m : M Ev) : M Bool := m.bind asB
def eAnd (ma mb : M Bool) : M Bool := ma.bind fun a => if a = true then mb else M.ret false
def eOr (ma mb : M Bool) : M Bool := ma.bind fun a => if a = true then M.ret true else mb
def eNot (ma : M Bool) : M Bool := ma.bind fun a => M.ret (!a)
def eAndV (ma mb : M Ev) : M Ev := ma.bind fun a => (asB a).bind fun b => if b = true then mb else M.ret (.val .own (.bl false))
def eOrV (ma mb : M Ev) : M Ev := ma.bind fun a => (asB a).bind fun b => if b = true then M.ret (.val .own (.bl true)) else mb
def eNotV (ma : M Ev) : M Ev := ma.bind fun a => (asB a).bind fun b => M.ret (.val .own (.bl (!b)))
def eIf (mt : M Bool) (ma mb : M Ev) : M Ev := mt.bind fun b => if b = true then ma else mb
def aNil : M (List Ev) := M.ret []
def aCons (m : M Ev) (ms : M (List Ev)) : M (List Ev) := m.bind fun e => ms.bind fun es => M.ret (e :: es)
def lookL : List Ev → M (List D)
  | [] => M.ret []
  | e :: es => (look e).bind fun d => (lookL es).bind fun ds => M.ret (d :: ds)
def eCB (f : List D → Option D) (ma : M (List Ev)) : M Ev := ma.bind fun es => (lookL es).bind fun ds => (lift (f ds)).bind fun d => M.ret (.val .own d)
/-- data of values -/
def vals : List Ev → Option (List (Fl × D))
  | [] => some []
  | .val f d :: es => (vals es).map fun l => (f, d) :: l
  | .view _ :: _ => none
def Fl.isOwn (p : Fl × D) : Bool := imm p.2 || (match p.1, p.2 with
  | .own, _ => true
  | .top, d => kidsImm d
  | _, _ => false)
def sizeB (n : Nat) : Bool := decide (n ≤ 100000)
def eLst (ma : M (List Ev)) : M (Bool × D) := ma.bind fun es => (lift (vals es)).bind fun l => (lift (if sizeB l.length = true then some () else none)).bind fun _ => M.ret (l.all Fl.isOwn, .lst (l.map (·.2)))
def eTup (ma : M (List Ev)) : M Ev := ma.bind fun es => (lift (vals es)).bind fun l => (lift (if sizeB l.length = true then some () else none)).bind fun _ => M.ret (.val (if l.all Fl.isOwn = true then .own else .any) (.tup (l.map (·.2))))
/-- a new one, frozen at once -/
def eFz (m : M (Bool × D)) : M Ev := m.bind fun od => M.ret (.val (flO od.1) od.2)
/-- a new list, dict of what others hold -/
def eNew (f : List D → Option D) (ma : M (List Ev)) : M (Bool × D) := ma.bind fun es => (lookL es).bind fun ds => (lift (f ds)).bind fun d => M.ret (kidsImm d, d)
def eNew2 (f : D → D → Option D) (ma mb : M Ev) : M (Bool × D) := ma.bind fun a => mb.bind fun b => (look a).bind fun x => (look b).bind fun y => (lift (f x y)).bind fun d => M.ret (kidsImm d, d)

/-! ### how they are read -/
section
variable (K : PySem.W.Frag)
/-- v stands for d: the outermost by what the heap tells -/
def Tp (S H : Hp) : D → V → Prop
  | .lst ds, v => ∃ a xs, v = .ref a ∧ H a = some (.lst xs) ∧ RpL K yes S ds xs
  | .dic ds, v => ∃ a xs, v = .ref a ∧ H a = some (.dK xs) ∧ RpK K yes S ds xs
  | .dit ds, v => ∃ a xs, v = .ref a ∧ H a = some (.dT xs) ∧ RpT K yes S ds xs
  | .ins c fs, v => ∃ a dx xs, v = .ref a ∧ H a = some (.ins (He.ga K c) dx xs) ∧ RpF K yes S fs xs
  | d, v => Rp K yes S d v
/-- the object of a datum -/
def ObjD (S : Hp) (o : HO) : D → Prop
  | .lst ds => ∃ xs, o = .lst xs ∧ RpL K yes S ds xs
  | .dic ds => ∃ xs, o = .dK xs ∧ RpK K yes S ds xs
  | .dit ds => ∃ xs, o = .dT xs ∧ RpT K yes S ds xs
  | _ => False
def no : Addr → Prop := fun _ => False
def Pure2 (r : R2) (f : D → D → Option D) : Prop := ∀ S H a b x y d (Q : VK), Ex S H → Tp K S H a x → Tp K S H b y → f a b = some d → (∀ v, Rp K no S d v → Q v H) → r x y H Q
def Pure1 (r : V → Hp → VK → Prop) (f : D → Option D) : Prop := ∀ S H a x d (Q : VK), Ex S H → Tp K S H a x → f a = some d → (∀ v, Rp K no S d v → Q v H) → r x H Q
def TpL (S H : Hp) : List D → List V → Prop
  | [], vs => vs = []
  | d :: ds, vs => ∃ v vs', vs = v :: vs' ∧ Tp K S H d v ∧ TpL S H ds vs'
def PureA (r : List V → Hp → VK → Prop) (f : List D → Option D) : Prop := ∀ S H ds vs d (Q : VK), Ex S H → TpL K S H ds vs → f ds = some d → (∀ v, Rp K no S d v → Q v H) → r vs H Q
/-- a new object comes -/
def NewA (r : List V → Hp → VK → Prop) (f : List D → Option D) : Prop := ∀ S H ds vs d (Q : VK), Ex S H → TpL K S H ds vs → f ds = some d → (∀ p o H', Ex H H' → H p = none → H' = upd H p o → ObjD K S o d → Q (.ref p) H') → r vs H Q
def New2 (r : R2) (f : D → D → Option D) : Prop := ∀ S H a b x y d (Q : VK), Ex S H → Tp K S H a x → Tp K S H b y → f a b = some d → (∀ p o H', Ex H H' → H p = none → H' = upd H p o → ObjD K S o d → Q (.ref p) H') → r x y H Q
end

section
variable {K : PySem.W.Frag} {g : Gho} {S S' H H' : Hp} {σr σr' : L2.St} {σ σ' : List Sv} {W : WX}
theorem Rp.tp (e : Ex S H) {d : D} {v : V} (h : Rp K yes S d v) : Tp K S H d v := by
  cases d with
  | lst ds =>
    unfold Rp at h
    obtain ⟨a, xs, h1, _, h3, h4⟩ := h
    exact ⟨a, xs, h1, e _ _ h3, h4⟩
  | dic ds =>
    unfold Rp at h
    obtain ⟨a, xs, h1, _, h3, h4⟩ := h
    exact ⟨a, xs, h1, e _ _ h3, h4⟩
  | dit ds =>
    unfold Rp at h
    obtain ⟨a, xs, h1, _, h3, h4⟩ := h
    exact ⟨a, xs, h1, e _ _ h3, h4⟩
  | ins c fs =>
    unfold Rp at h
    obtain ⟨a, dx, xs, h1, _, h3, _, h4⟩ := h
    exact ⟨a, dx, xs, h1, e _ _ h3, h4⟩
  | _ => exact h
theorem sq_of {H : Hp} {a : Addr} {xs : List V} (h : H a = some (.lst xs)) : SqL K H a xs := Or.inl (Or.inl h)
theorem st_of {H : Hp} {a : Addr} {xs : List V} (h : H a = some (.tup xs)) : SqT K H a xs := Or.inl (Or.inl h)
theorem MuAt.tp {G : Addr → Prop} {d : D} {p : Addr} (h : MuAt K G S H p d) : Tp K S H d (.ref p) := by
  cases d with
  | lst ds =>
    obtain ⟨xs, h1, h2⟩ := h
    exact ⟨p, xs, rfl, h1, RpL.mono yes_of (Ex.refl _) h2⟩
  | dic ds =>
    obtain ⟨xs, h1, h2⟩ := h
    exact ⟨p, xs, rfl, h1, RpK.mono yes_of (Ex.refl _) h2⟩
  | dit ds =>
    obtain ⟨xs, h1, h2⟩ := h
    exact ⟨p, xs, rfl, h1, RpT.mono yes_of (Ex.refl _) h2⟩
  | ins c fs =>
    obtain ⟨dx, xs, h1, _, h2⟩ := h
    exact ⟨p, dx, xs, rfl, h1, RpF.mono yes_of (Ex.refl _) h2⟩
  | _ => exact h.elim
theorem look_ok (r : Rel K g S H σr σ) {v : V} {e : Ev} (h : EvOk K g S σr v e) {d : D} {σ' : List Sv} (q : look e σ = .ok (d, σ')) : σ' = σ ∧ Tp K S H d v := by
  cases e with
  | val f d' =>
    unfold look at q
    cases q
    exact ⟨rfl, (FzOk.any r.seS h).tp r.sH⟩
  | view i =>
    unfold look at q
    have hv : σr[i]? = some (some v) := h
    cases hs : σ[i]? with
    | none => simp only [hs] at q; cases q
    | some s =>
      have sl := r.slot i s hs
      rw [hv] at sl
      simp only [hs] at q
      cases s with
      | und => cases q
      | fz f d' =>
        cases q
        obtain ⟨v', e1, h1⟩ := sl
        cases e1
        exact ⟨rfl, (FzOk.any r.seS h1).tp r.sH⟩
      | mu o d' =>
        cases q
        obtain ⟨p, e1, _, _, h1⟩ := sl
        cases e1
        exact ⟨rfl, h1.tp⟩
      | io d' =>
        cases q
        obtain ⟨p, e1, _, _, _, h1⟩ := sl
        cases e1
        exact ⟨rfl, h1.tp⟩
theorem Res.bindM {α β : Type} {m : M α} {f : α → M β} {F : β → List Sv → Hp → Hp → Prop} (h : Res K g W S σr (M.bind m f σ) F) : Res K g W S σr (m σ) fun a σ' S' _ => Res K g W S' σr (f a σ') F := Res.bind h
theorem Res.look {α : Type} {e : Ev} {f : D → M α} {F : α → List Sv → Hp → Hp → Prop} (r : Rel K g S H σr σ) {v : V} (hv : EvOk K g S σr v e) (h : Res K g W S σr (M.bind (Uw.look e) f σ) F) :
    ∃ d, Tp K S H d v ∧ Res K g W S σr (f d σ) F := by
  cases q : Uw.look e σ with
  | ok p =>
    obtain ⟨d, σ'⟩ := p
    obtain ⟨e1, h1⟩ := look_ok r hv q
    subst e1
    refine ⟨d, h1, ?_⟩
    have h2 : Res K g W S σr ((Uw.look e σ').bind fun p => f p.1 p.2) F := h
    rw [q] at h2
    exact h2
  | exc c fs =>
    exfalso
    unfold Uw.look at q
    cases e with
    | val f d => cases q
    | view i =>
      simp only at q
      split at q <;> cases q
  | bad =>
    have h2 : Res K g W S σr ((Uw.look e σ).bind fun p => f p.1 p.2) F := h
    rw [q] at h2
    exact h2.elim
theorem Res.lift {α β : Type} {o : Option α} {f : α → M β} {F : β → List Sv → Hp → Hp → Prop} (h : Res K g W S σr (M.bind (Uw.lift o) f σ) F) : ∃ a, o = some a ∧ Res K g W S σr (f a σ) F := by
  cases o with
  | none => exact h.elim
  | some a => exact ⟨a, rfl, h⟩
theorem Res.ret {α : Type} {a : α} {F : α → List Sv → Hp → Hp → Prop} (h : Res K g W S σr (M.ret a σ) F) (r : Rel K g S H σr σ) : F a σ S H := h S H (Ex.refl S) r
theorem Res.ret' {α : Type} {a : α} {F : α → List Sv → Hp → Hp → Prop} (h : Res K g W S σr (M.ret a σ) F) (e : Ex S S') (r : Rel K g S' H' σr σ) : F a σ S' H' := h S' H' e r
theorem Rp.no {G : Addr → Prop} {d : D} {v : V} (h : Rp K no S d v) : Rp K G S d v := Rp.mono (fun _ z => z.elim) (Ex.refl S) h

theorem re_var {i : Nat} : RefE K W (tVar i) (eVar i) := by
  intro g S H σr σ Q r h
  unfold eVar at h
  cases hs : σ[i]? with
  | none => simp only [hs] at h; exact h.elim
  | some s =>
    have sl := r.slot i s hs
    simp only [hs] at h
    cases s with
    | und => exact h.elim
    | fz f d =>
      obtain ⟨v, e1, h1⟩ := sl
      exact ⟨v, e1, Res.ok h r v h1⟩
    | mu o d =>
      obtain ⟨p, e1, _⟩ := sl
      exact ⟨_, e1, Res.ok h r _ e1⟩
    | io d =>
      obtain ⟨p, e1, _⟩ := sl
      exact ⟨_, e1, Res.ok h r _ e1⟩
theorem re_c {d : D} {v : V} (hd : ∀ S, Rp K no S d v) : RefE K W (tC v) (eC d) := by
  intro g S H σr σ Q r h
  exact Res.ret h r v (Rp.no (hd S))
theorem re_int {i : Int} : RefE K W (tC (.int i)) (eC (.int i)) := re_c fun _ => rfl
theorem re_str {s : Str} : RefE K W (tC (.str s)) (eC (.str s)) := re_c fun _ => rfl
theorem re_bl {b : Bool} : RefE K W (tC (.bl b)) (eC (.bl b)) := re_c fun _ => rfl
theorem re_non : RefE K W (tC .non) (eC .non) := re_c fun _ => rfl
theorem re_ty {n : String} : RefE K W (tC (.ty n)) (eC (.ty n)) := re_c fun _ => rfl
theorem re_cls {c : Str} : RefE K W (tC (.ref (He.ga K c))) (eC (.cls c)) := re_c fun _ => rfl

/-- what may be changed is frozen where it is taken as a value -/
theorem MuAt.fz {o : Bool} {d : D} {p : Addr} (hS : S p = none) (hse : Ex g.Se S) (h : MuAt K (gdO g o) S H p d) : ∃ u, H p = some u ∧ ∀ S', S' = upd S p u → FzOk K g S' d (.ref p) (flO o) := by
  have hn : g.Se p = none := hse.back hS
  have e : ∀ u, Ex S (upd S p u) := fun u => Ex.new hS
  have sm : ∀ u, upd S p u p = some u := fun u => upd_same
  cases d with
  | lst ds =>
    obtain ⟨xs, h1, h2⟩ := h
    refine ⟨_, h1, fun S' es => ?_⟩
    subst es
    cases o with
    | true =>
      show Rp K g.nu _ _ _
      unfold Rp
      exact ⟨p, xs, rfl, hn, sm _, RpL.mono (fun _ z => z) (e _) h2⟩
    | false =>
      refine ⟨?_, p, rfl, hn⟩
      unfold Rp
      exact ⟨p, xs, rfl, trivial, sm _, RpL.mono (fun _ z => z) (e _) h2⟩
  | dic ds =>
    obtain ⟨xs, h1, h2⟩ := h
    refine ⟨_, h1, fun S' es => ?_⟩
    subst es
    cases o with
    | true =>
      show Rp K g.nu _ _ _
      unfold Rp
      exact ⟨p, xs, rfl, hn, sm _, RpK.mono (fun _ z => z) (e _) h2⟩
    | false =>
      refine ⟨?_, p, rfl, hn⟩
      unfold Rp
      exact ⟨p, xs, rfl, trivial, sm _, RpK.mono (fun _ z => z) (e _) h2⟩
  | dit ds =>
    obtain ⟨xs, h1, h2⟩ := h
    refine ⟨_, h1, fun S' es => ?_⟩
    subst es
    cases o with
    | true =>
      show Rp K g.nu _ _ _
      unfold Rp
      exact ⟨p, xs, rfl, hn, sm _, RpT.mono (fun _ z => z) (e _) h2⟩
    | false =>
      refine ⟨?_, p, rfl, hn⟩
      unfold Rp
      exact ⟨p, xs, rfl, trivial, sm _, RpT.mono (fun _ z => z) (e _) h2⟩
  | ins c fs =>
    obtain ⟨dx, xs, h1, h0, h2⟩ := h
    refine ⟨_, h1, fun S' es => ?_⟩
    subst es
    cases o with
    | true =>
      show Rp K g.nu _ _ _
      unfold Rp
      exact ⟨p, dx, xs, rfl, hn, sm _, e _ _ _ h0, RpF.mono (fun _ z => z) (e _) h2⟩
    | false =>
      refine ⟨?_, p, rfl, hn⟩
      unfold Rp
      exact ⟨p, dx, xs, rfl, trivial, sm _, e _ _ _ h0, RpF.mono (fun _ z => z) (e _) h2⟩
  | _ => exact h.elim
theorem flO_mu (o : Bool) (d : D) : (Sv.fz (flO o) d).isMu = false := rfl
/-- the slot i, that may be changed, is frozen -/
theorem Rel.freezeSlot (r : Rel K g S H σr σ) {i : Nat} {o : Bool} {d : D} (hs : σ[i]? = some (.mu o d)) : ∃ p S', σr[i]? = some (some (.ref p)) ∧ Ex S S' ∧ Rel K g S' H σr (σ.set i (.fz (flO o) d)) ∧ FzOk K g S' d (.ref p) (flO o) := by
  obtain ⟨p, e1, hS, hB, h1⟩ := r.slot i _ hs
  obtain ⟨u, hu, hz⟩ := MuAt.fz hS r.seS h1
  have hz' := hz _ rfl
  have r1 : Rel K g S H σr (σ.set i .und) := r.say (s := .und) rfl trivial
  have r2 : Rel K g (upd S p u) H σr (σ.set i .und) := r1.freeze hu hS hB fun j hj => by
    obtain ⟨h2, h3⟩ := hj.of_set (s := .und) rfl
    exact h3 (r.inj j i p h2 ⟨_, hs, rfl, e1⟩)
  have r3 := r2.say (i := i) (s := .fz (flO o) d) rfl (by rw [e1]; exact ⟨_, rfl, hz'⟩)
  rw [List.set_set] at r3
  exact ⟨p, _, e1, Ex.new hS, r3, hz'⟩
theorem re_val {te : TE} {m : M Ev} (h : RefE K W te m) : RefE K W te (eV m) := by
  intro g S H σr σ Q r hr
  refine h g S H σr σ _ r ((Res.bindM hr).imp fun e σ1 S1 H1 _ r1 h1 => ?_)
  intro v hv
  cases e with
  | val f d => exact Res.ok h1 r1 v hv
  | view i =>
    unfold asVal at h1
    have hvi : σr[i]? = some (some v) := hv
    cases hs : σ1[i]? with
    | none => simp only [hs] at h1; exact h1.elim
    | some s =>
      simp only [hs] at h1
      cases s with
      | und => exact h1.elim
      | io d => exact h1.elim
      | fz f d =>
        obtain ⟨v', e1, h2⟩ := r1.slot i _ hs
        rw [hvi] at e1
        cases e1
        exact Res.ok h1 r1 _ h2
      | mu o d =>
        obtain ⟨p, S2, e1, e2, r2, h2⟩ := r1.freezeSlot hs
        rw [hvi] at e1
        cases e1
        exact Res.ok' h1 e2 r2 _ h2
theorem re_op {ta tb : TE} {ma mb : M Ev} {r : R2} {f : D → D → Option D} (ha : RefE K W ta ma) (hb : RefE K W tb mb) (hf : Pure2 K r f) : RefE K W (tOp r ta tb) (eOp f ma mb) := by
  intro g S H σr σ Q r hr
  refine ha g S H σr σ _ r ((Res.bindM hr).imp fun e1 σ1 S1 H1 x1 r1 h1 => fun v1 hv1 => ?_)
  refine hb g S1 H1 σr σ1 _ r1 ((Res.bindM h1).imp fun e2 σ2 S2 H2 x2 r2 h2 => fun v2 hv2 => ?_)
  obtain ⟨d1, t1, h3⟩ := Res.look r2 (hv1.mono x2) h2
  obtain ⟨d2, t2, h4⟩ := Res.look r2 hv2 h3
  obtain ⟨d, hd, h5⟩ := Res.lift h4
  exact hf S2 H2 d1 d2 v1 v2 d _ r2.sH t1 t2 hd fun v hv => Res.ret h5 r2 v (Rp.no hv)
theorem re_un {ta : TE} {ma : M Ev} {r : V → Hp → VK → Prop} {f : D → Option D} (ha : RefE K W ta ma) (hf : Pure1 K r f) : RefE K W (tUn r ta) (eUn f ma) := by
  intro g S H σr σ Q r hr
  refine ha g S H σr σ _ r ((Res.bindM hr).imp fun e1 σ1 S1 H1 x1 r1 h1 => fun v1 hv1 => ?_)
  obtain ⟨d1, t1, h3⟩ := Res.look r1 hv1 h1
  obtain ⟨d, hd, h5⟩ := Res.lift h3
  exact hf S1 H1 d1 v1 d _ r1.sH t1 hd fun v hv => Res.ret h5 r1 v (Rp.no hv)
theorem re_if {tt : TT} {ta tb : TE} {mt : M Bool} {ma mb : M Ev} (ht : RefT K W tt mt) (ha : RefE K W ta ma) (hb : RefE K W tb mb) : RefE K W (tIf tt ta tb) (eIf mt ma mb) := by
  intro g S H σr σ Q r hr
  refine ht g S H σr σ _ r ((Res.bindM hr).imp fun b σ1 S1 H1 x1 r1 h1 => ?_)
  cases b with
  | true => exact ha g S1 H1 σr σ1 _ r1 h1
  | false => exact hb g S1 H1 σr σ1 _ r1 h1

/-! tests -/
theorem Res.asB {α : Type} {e : Ev} {f : Bool → M α} {F : α → List Sv → Hp → Hp → Prop} (r : Rel K g S H σr σ) {v : V} (hv : EvOk K g S σr v e) (h : Res K g W S σr (M.bind (Uw.asB e) f σ) F) :
    ∃ b, v = .bl b ∧ Res K g W S σr (f b σ) F := by
  have h0 : Res K g W S σr (M.bind (Uw.look e) (fun d => M.bind (match d with | .bl b => M.ret b | _ => fun _ => .bad) f) σ) F := by
    have q : M.bind (Uw.asB e) f σ = M.bind (Uw.look e) (fun d => M.bind (match d with | .bl b => M.ret b | _ => fun _ => .bad) f) σ := by
      unfold Uw.asB M.bind
      cases Uw.look e σ <;> rfl
    rw [← q]
    exact h
  obtain ⟨d, t, h1⟩ := Res.look r hv h0
  cases d with
  | bl b =>
    refine ⟨b, ?_, h1⟩
    have t' : Rp K yes S (.bl b) v := t
    unfold Rp at t'
    exact t'
  | _ => exact h1.elim
theorem bind_ret {α : Type} (m : M α) : M.bind m M.ret = m := by
  funext σ
  unfold M.bind
  cases m σ <;> rfl
theorem rt_test {te : TE} {m : M Ev} (h : RefE K W te m) : RefT K W (tTest te) (eT m) := by
  intro g S H σr σ Q r hr
  refine h g S H σr σ _ r ((Res.bindM hr).imp fun e1 σ1 S1 H1 x1 r1 h1 => fun v1 hv1 => ?_)
  rw [← bind_ret (asB e1)] at h1
  obtain ⟨b, eb, h2⟩ := Res.asB r1 hv1 h1
  exact ⟨b, eb, Res.ret h2 r1⟩
theorem rt_B {te : TE} {m : M Ev} (h : RefE K W te m) : RefT K W (tB te) (eT m) := by
  intro g S H σr σ Q r hr
  refine h g S H σr σ _ r ((Res.bindM hr).imp fun e1 σ1 S1 H1 x1 r1 h1 => fun v1 hv1 => ?_)
  rw [← bind_ret (asB e1)] at h1
  obtain ⟨b, eb, h2⟩ := Res.asB r1 hv1 h1
  exact ⟨b, eb, Res.ret h2 r1⟩
theorem rt_and {t u : TT} {ma mb : M Bool} (h1 : RefT K W t ma) (h2 : RefT K W u mb) : RefT K W (tAnd t u) (eAnd ma mb) := by
  intro g S H σr σ Q r hr
  refine h1 g S H σr σ _ r ((Res.bindM hr).imp fun b σ1 S1 H1 x1 r1 q1 => ?_)
  cases b with
  | true => exact h2 g S1 H1 σr σ1 _ r1 q1
  | false => exact Res.ret q1 r1
theorem rt_or {t u : TT} {ma mb : M Bool} (h1 : RefT K W t ma) (h2 : RefT K W u mb) : RefT K W (tOr t u) (eOr ma mb) := by
  intro g S H σr σ Q r hr
  refine h1 g S H σr σ _ r ((Res.bindM hr).imp fun b σ1 S1 H1 x1 r1 q1 => ?_)
  cases b with
  | true => exact Res.ret q1 r1
  | false => exact h2 g S1 H1 σr σ1 _ r1 q1
theorem rt_not {t : TT} {ma : M Bool} (h1 : RefT K W t ma) : RefT K W (tNot t) (eNot ma) := by
  intro g S H σr σ Q r hr
  refine h1 g S H σr σ _ r ((Res.bindM hr).imp fun b σ1 S1 H1 x1 r1 q1 => ?_)
  exact Res.ret q1 r1
theorem re_andV {ta tb : TE} {ma mb : M Ev} (ha : RefE K W ta ma) (hb : RefE K W tb mb) : RefE K W (tAndV ta tb) (eAndV ma mb) := by
  intro g S H σr σ Q r hr
  refine ha g S H σr σ _ r ((Res.bindM hr).imp fun e1 σ1 S1 H1 x1 r1 h1 => fun v1 hv1 => ?_)
  obtain ⟨b, eb, h2⟩ := Res.asB r1 hv1 h1
  refine ⟨b, eb, ?_⟩
  cases b with
  | true => exact hb g S1 H1 σr σ1 _ r1 h2
  | false => exact Res.ret h2 r1 _ rfl
theorem re_orV {ta tb : TE} {ma mb : M Ev} (ha : RefE K W ta ma) (hb : RefE K W tb mb) : RefE K W (tOrV ta tb) (eOrV ma mb) := by
  intro g S H σr σ Q r hr
  refine ha g S H σr σ _ r ((Res.bindM hr).imp fun e1 σ1 S1 H1 x1 r1 h1 => fun v1 hv1 => ?_)
  obtain ⟨b, eb, h2⟩ := Res.asB r1 hv1 h1
  refine ⟨b, eb, ?_⟩
  cases b with
  | true => exact Res.ret h2 r1 _ rfl
  | false => exact hb g S1 H1 σr σ1 _ r1 h2
theorem re_notV {ta : TE} {ma : M Ev} (ha : RefE K W ta ma) : RefE K W (tNotV ta) (eNotV ma) := by
  intro g S H σr σ Q r hr
  refine ha g S H σr σ _ r ((Res.bindM hr).imp fun e1 σ1 S1 H1 x1 r1 h1 => fun v1 hv1 => ?_)
  obtain ⟨b, eb, h2⟩ := Res.asB r1 hv1 h1
  exact ⟨b, eb, Res.ret h2 r1 _ rfl⟩

/-! arguments -/
theorem ra_nil : RefA K W tNil aNil := by
  intro g S H σr σ Q r hr
  exact Res.ret hr r [] EvsOk.nil
theorem ra_cons {ta : TE} {tr : TA} {m : M Ev} {ms : M (List Ev)} (h : RefE K W ta m) (hs : RefA K W tr ms) : RefA K W (tCons ta tr) (aCons m ms) := by
  intro g S H σr σ Q r hr
  refine h g S H σr σ _ r ((Res.bindM hr).imp fun e1 σ1 S1 H1 x1 r1 h1 => fun v1 hv1 => ?_)
  refine hs g S1 H1 σr σ1 _ r1 ((Res.bindM h1).imp fun es σ2 S2 H2 x2 r2 h2 => fun vs hvs => ?_)
  exact Res.ret h2 r2 _ (EvsOk.cons (hv1.mono x2) hvs)
theorem Res.lookL {α : Type} : ∀ {es : List Ev} {vs : List V} {f : List D → M α} {F : α → List Sv → Hp → Hp → Prop} (r : Rel K g S H σr σ) (hv : EvsOk K g S σr vs es) (h : Res K g W S σr (M.bind (Uw.lookL es) f σ) F),
    ∃ ds, TpL K S H ds vs ∧ Res K g W S σr (f ds σ) F
  | es, [], f, F, r, hv, h => by
    have e : es = [] := hv
    subst e
    exact ⟨[], rfl, h⟩
  | es, v :: vs, f, F, r, hv, h => by
    obtain ⟨e, es', e1, h1, h2⟩ := hv
    subst e1
    have h0 : Res K g W S σr (M.bind (Uw.look e) (fun d => M.bind (Uw.lookL es') fun ds => f (d :: ds)) σ) F := by
      have q : M.bind (Uw.lookL (e :: es')) f σ = M.bind (Uw.look e) (fun d => M.bind (Uw.lookL es') fun ds => f (d :: ds)) σ := by
        show M.bind (M.bind (Uw.look e) fun d => M.bind (Uw.lookL es') fun ds => M.ret (d :: ds)) f σ = _
        unfold M.bind
        cases Uw.look e σ with
        | ok p =>
          show ((R.bind (Uw.lookL es' p.2) _).bind _) = _
          cases q2 : Uw.lookL es' p.2 <;> (simp only [R.bind, q2]; try rfl)
        | exc c fs => rfl
        | bad => rfl
      rw [← q]
      exact h
    obtain ⟨d, t1, h3⟩ := Res.look r h1 h0
    obtain ⟨ds, t2, h4⟩ := Res.lookL r h2 h3
    exact ⟨d :: ds, ⟨v, vs, rfl, t1, t2⟩, h4⟩
theorem re_cb {ta : TA} {ma : M (List Ev)} {r : List V → Hp → VK → Prop} {f : List D → Option D} (ha : RefA K W ta ma) (hf : PureA K r f) : RefE K W (tCB r ta) (eCB f ma) := by
  intro g S H σr σ Q r hr
  refine ha g S H σr σ _ r ((Res.bindM hr).imp fun es σ1 S1 H1 x1 r1 h1 => fun vs hvs => ?_)
  obtain ⟨ds, t1, h3⟩ := Res.lookL r1 hvs h1
  obtain ⟨d, hd, h5⟩ := Res.lift h3
  exact hf S1 H1 ds vs d _ r1.sH t1 hd fun v hv => Res.ret h5 r1 v (Rp.no hv)

/-! new objects -/
theorem RpK.imm {G G' : Addr → Prop} : ∀ {ds : List (Key × D)} {vs : List (Key × V)}, immL (ds.map (·.2)) = true → RpK K G S ds vs → RpK K G' S ds vs
  | [], _, _, h => h
  | (k, d) :: ds, _, z, h => by
    unfold RpK at h ⊢
    obtain ⟨v, vs, h1, h2, h3⟩ := h
    have z' : (Uw.imm d && immL (ds.map (·.2))) = true := z
    rw [Bool.and_eq_true] at z'
    exact ⟨v, vs, h1, Rp.imm z'.1 h2, RpK.imm z'.2 h3⟩
theorem RpT.imm {G G' : Addr → Prop} : ∀ {ds : List (List Key × D)} {vs : List (List Key × V)}, immL (ds.map (·.2)) = true → RpT K G S ds vs → RpT K G' S ds vs
  | [], _, _, h => h
  | (k, d) :: ds, _, z, h => by
    unfold RpT at h ⊢
    obtain ⟨v, vs, h1, h2, h3⟩ := h
    have z' : (Uw.imm d && immL (ds.map (·.2))) = true := z
    rw [Bool.and_eq_true] at z'
    exact ⟨v, vs, h1, Rp.imm z'.1 h2, RpT.imm z'.2 h3⟩
theorem ObjD.mu {o : HO} {d : D} {p : Addr} (hp : H p = some o) (h : ObjD K S o d) : MuAt K (gdO g (kidsImm d)) S H p d := by
  cases d with
  | lst ds =>
    obtain ⟨xs, h1, h2⟩ := h
    subst h1
    refine ⟨xs, hp, ?_⟩
    unfold gdO
    split
    · rename_i z
      exact RpL.imm z h2
    · exact h2
  | dic ds =>
    obtain ⟨xs, h1, h2⟩ := h
    subst h1
    refine ⟨xs, hp, ?_⟩
    unfold gdO
    split
    · rename_i z
      exact RpK.imm z h2
    · exact h2
  | dit ds =>
    obtain ⟨xs, h1, h2⟩ := h
    subst h1
    refine ⟨xs, hp, ?_⟩
    unfold gdO
    split
    · rename_i z
      exact RpT.imm z h2
    · exact h2
  | _ => exact h.elim
/-- a new object that is none's: it is behind all slots -/
theorem Rel.newP (r : Rel K g S H σr σ) {p : Addr} (h : H p = none) : S p = none ∧ g.B p = none ∧ ∀ i, ¬ MuP σr σ i p := ⟨r.sH.back h, r.bH.back h, fun i hi => (r.muP hi).2.2 h⟩
theorem rm_new {ta : TA} {ma : M (List Ev)} {r : List V → Hp → VK → Prop} {f : List D → Option D} (ha : RefA K W ta ma) (hf : NewA K r f) : RefM K W (tCB r ta) (eNew f ma) := by
  intro g S H σr σ Q r hr
  refine ha g S H σr σ _ r ((Res.bindM hr).imp fun es σ1 S1 H1 x1 r1 h1 => fun vs hvs => ?_)
  obtain ⟨ds, t1, h3⟩ := Res.lookL r1 hvs h1
  obtain ⟨d, hd, h5⟩ := Res.lift h3
  refine hf S1 H1 ds vs d _ r1.sH t1 hd fun p o H' _ hp e ho => ?_
  subst e
  obtain ⟨n1, n2, n3⟩ := r1.newP hp
  exact Res.ret' h5 (Ex.refl _) (r1.newH hp) p n1 n2 n3 (ObjD.mu upd_same ho)
theorem rm_new2 {ta tb : TE} {ma mb : M Ev} {r : R2} {f : D → D → Option D} (ha : RefE K W ta ma) (hb : RefE K W tb mb) (hf : New2 K r f) : RefM K W (tOp r ta tb) (eNew2 f ma mb) := by
  intro g S H σr σ Q r hr
  refine ha g S H σr σ _ r ((Res.bindM hr).imp fun e1 σ1 S1 H1 x1 r1 h1 => fun v1 hv1 => ?_)
  refine hb g S1 H1 σr σ1 _ r1 ((Res.bindM h1).imp fun e2 σ2 S2 H2 x2 r2 h2 => fun v2 hv2 => ?_)
  obtain ⟨d1, t1, h3⟩ := Res.look r2 (hv1.mono x2) h2
  obtain ⟨d2, t2, h4⟩ := Res.look r2 hv2 h3
  obtain ⟨d, hd, h5⟩ := Res.lift h4
  refine hf S2 H2 d1 d2 v1 v2 d _ r2.sH t1 t2 hd fun p o H' _ hp e ho => ?_
  subst e
  obtain ⟨n1, n2, n3⟩ := r2.newP hp
  exact Res.ret' h5 (Ex.refl _) (r2.newH hp) p n1 n2 n3 (ObjD.mu upd_same ho)
/-- a new one, as a value -/
theorem re_fz {te : TE} {m : M (Bool × D)} (h : RefM K W te m) : RefE K W te (eFz m) := by
  intro g S H σr σ Q r hr
  refine h g S H σr σ _ r ((Res.bindM hr).imp fun od σ1 S1 H1 x1 r1 h1 => fun p n1 n2 n3 hm => ?_)
  obtain ⟨u, hu, hz⟩ := MuAt.fz n1 r1.seS hm
  have r2 : Rel K g (upd S1 p u) H1 σr σ1 := r1.freeze hu n1 n2 n3
  exact Res.ret' h1 (Ex.new n1) r2 _ (hz _ rfl)
theorem vals_ok (hse : Ex g.Se S) : ∀ {es : List Ev} {l : List (Fl × D)} {vs : List V}, vals es = some l → EvsOk K g S σr vs es → RpL K yes S (l.map (·.2)) vs ∧ (l.all Fl.isOwn = true → RpL K g.nu S (l.map (·.2)) vs)
  | [], l, vs, e, h => by
    cases e
    cases vs with
    | nil => exact ⟨RpL.nil, fun _ => RpL.nil⟩
    | cons v vs =>
      obtain ⟨_, _, z, _⟩ := h
      cases z
  | .view i :: es, l, vs, e, h => by cases e
  | .val f d :: es, l, vs, e, h => by
    unfold vals at e
    cases q : vals es with
    | none => rw [q] at e; cases e
    | some l' =>
      rw [q] at e
      cases e
      cases vs with
      | nil => cases (show Ev.val f d :: es = [] from h)
      | cons v vs =>
        obtain ⟨e1, es', z, h1, h2⟩ := h
        cases z
        obtain ⟨k1, k2⟩ := vals_ok hse q h2
        refine ⟨RpL.cons (FzOk.any hse h1) k1, fun ho => ?_⟩
        rw [List.all_cons, Bool.and_eq_true] at ho
        refine RpL.cons ?_ (k2 ho.2)
        have ho1 : Fl.isOwn (f, d) = true := ho.1
        unfold Fl.isOwn at ho1
        rw [Bool.or_eq_true] at ho1
        rcases ho1 with hi | hi
        · exact Rp.imm hi (FzOk.any hse h1)
        · cases f with
          | own => exact h1
          | any => cases hi
          | old => cases hi
          | top =>
            obtain ⟨k3, k4⟩ := h1
            have hi' : kidsImm d = true := hi
            cases d with
            | lst ds =>
              unfold Rp at k3 ⊢
              obtain ⟨a, xs, a1, _, a3, a4⟩ := k3
              obtain ⟨a', b1, b2⟩ := k4
              rw [a1] at b1
              cases b1
              exact ⟨a, xs, a1, b2, a3, RpL.imm hi' a4⟩
            | dic ds =>
              unfold Rp at k3 ⊢
              obtain ⟨a, xs, a1, _, a3, a4⟩ := k3
              obtain ⟨a', b1, b2⟩ := k4
              rw [a1] at b1
              cases b1
              exact ⟨a, xs, a1, b2, a3, RpK.imm hi' a4⟩
            | dit ds =>
              unfold Rp at k3 ⊢
              obtain ⟨a, xs, a1, _, a3, a4⟩ := k3
              obtain ⟨a', b1, b2⟩ := k4
              rw [a1] at b1
              cases b1
              exact ⟨a, xs, a1, b2, a3, RpT.imm hi' a4⟩
            | _ => cases hi'
theorem vals_len : ∀ {es : List Ev} {l : List (Fl × D)}, vals es = some l → l.length = es.length
  | [], l, e => by cases e; rfl
  | .view i :: es, l, e => by cases e
  | .val f d :: es, l, e => by
    unfold vals at e
    cases q : vals es with
    | none => rw [q] at e; cases e
    | some l' =>
      rw [q] at e
      cases e
      rw [List.length_cons, List.length_cons, vals_len q]
theorem EvsOk.len : ∀ {vs : List V} {es : List Ev}, EvsOk K g S σr vs es → vs.length = es.length
  | [], es, h => by rw [show es = [] from h]; rfl
  | v :: vs, es, h => by
    obtain ⟨e, es', e1, _, h2⟩ := h
    rw [e1, List.length_cons, List.length_cons, EvsOk.len h2]
theorem sizeB_ok {n : Nat} (h : sizeB n = true) : n ≤ sizeLine := Nat.le_trans (of_decide_eq_true h) (by decide)
theorem rm_lst {ta : TA} {ma : M (List Ev)} (ha : RefA K W ta ma) : RefM K W (tLst ta) (eLst ma) := by
  intro g S H σr σ Q r hr
  refine ha g S H σr σ _ r ((Res.bindM hr).imp fun es σ1 S1 H1 x1 r1 h1 => fun vs hvs => ?_)
  obtain ⟨l, hl, h2⟩ := Res.lift h1
  obtain ⟨_, hz, h3⟩ := Res.lift h2
  have hz' : sizeB l.length = true := by
    split at hz
    · assumption
    · cases hz
  obtain ⟨k1, k2⟩ := vals_ok r1.seS hl hvs
  refine ⟨by rw [hvs.len, ← vals_len hl]; exact sizeB_ok hz', fun p hp => ?_⟩
  obtain ⟨n1, n2, n3⟩ := r1.newP hp
  refine Res.ret' h3 (Ex.refl _) (r1.newH hp) p n1 n2 n3 ⟨vs, upd_same, ?_⟩
  unfold gdO
  split
  · rename_i z
    exact k2 z
  · exact k1
theorem re_tup {ta : TA} {ma : M (List Ev)} (ha : RefA K W ta ma) : RefE K W (tTup ta) (eTup ma) := by
  intro g S H σr σ Q r hr
  refine ha g S H σr σ _ r ((Res.bindM hr).imp fun es σ1 S1 H1 x1 r1 h1 => fun vs hvs => ?_)
  obtain ⟨l, hl, h2⟩ := Res.lift h1
  obtain ⟨_, hz, h3⟩ := Res.lift h2
  have hz' : sizeB l.length = true := by
    split at hz
    · assumption
    · cases hz
  obtain ⟨k1, k2⟩ := vals_ok r1.seS hl hvs
  refine ⟨by rw [hvs.len, ← vals_len hl]; exact sizeB_ok hz', fun p hp => ?_⟩
  have hS : S1 p = none := r1.sH.back hp
  have e : Ex S1 (upd S1 p (.tup vs)) := Ex.new hS
  refine Res.ret' h3 e (r1.alloc hp) _ ?_
  by_cases z : l.all Fl.isOwn = true
  · rw [if_pos z]
    show Rp K g.nu _ _ _
    unfold Rp
    exact ⟨p, vs, rfl, st_of upd_same, RpL.mono (fun _ z => z) e (k2 z)⟩
  · rw [if_neg z]
    show Rp K yes _ _ _
    unfold Rp
    exact ⟨p, vs, rfl, st_of upd_same, RpL.mono (fun _ z => z) e k1⟩
end
end Uw

set_option Elab.async false
set_option linter.all false
set_option maxRecDepth 100000
set_option maxHeartbeats 2000000
namespace Uw
open PySem PySem.Spec PyProof.Rows L2

/-! ### statements -/
def sSeq (a b : Sm) : Sm := fun σ => (a σ).bind fun p => match p.1 with
  | .next => b p.2
  | _ => .ok p
def sSkip : Sm := M.ret .next
def sBad : Sm := fun _ => .bad
def okSlot (σ : List Sv) (i : Nat) : Bool := match σ[i]? with
  | some (.io _) => false
  | some _ => true
  | none => false
/-- a target: a value comes, the slots behind it -/
abbrev Tgt := Ev → List Sv → Option (List Sv)
/-- a value into a slot -/
def putV (i : Nat) : Tgt := fun e σ => match e with
  | .val f d => if okSlot σ i = true then some (σ.set i (.fz f d)) else none
  | .view _ => none
def tgt (t : Tgt) (e : Ev) : M Unit := fun σ => match t e σ with
  | some σ' => .ok ((), σ')
  | none => .bad
def sSet (i : Nat) (m : M Ev) : Sm := (eV m).bind fun e => (tgt (putV i) e).bind fun _ => M.ret .next
def putMu (i : Nat) (od : Bool × D) : M Unit := fun σ => if okSlot σ i = true then .ok ((), σ.set i (.mu od.1 od.2)) else .bad
def sSetM (i : Nat) (m : M (Bool × D)) : Sm := m.bind fun od => (putMu i od).bind fun _ => M.ret .next
def sDrop (m : M Ev) : Sm := m.bind fun _ => M.ret .next
def sRet (m : M Ev) : Sm := (eV m).bind fun e => match e with
  | .val f d => M.ret (.ret f d)
  | .view _ => fun _ => .bad
def sRetN : Sm := M.ret (.ret .own .non)
def sIf (mt : M Bool) (a b : Sm) : Sm := mt.bind fun c => if c = true then a else b
def sBrk : Sm := M.ret .brk
def sCont : Sm := M.ret .cont
/-! targets -/
def putAll (f : Fl) : List Tgt → List D → List Sv → Option (List Sv)
  | [], [], σ => some σ
  | t :: ts, d :: ds, σ => (t (.val f d) σ).bind fun σ' => putAll f ts ds σ'
  | _, _, _ => none
/-- (a, b, ..) = a tuple -/
def gTupM (ts : List Tgt) : Tgt := fun e σ => match e with
  | .val f (.tup ds) => putAll (flKid f) ts ds σ
  | _ => none
def sAsg (m : M Ev) (t : Tgt) : Sm := (eV m).bind fun e => (tgt t e).bind fun _ => M.ret .next
/-! loops -/
def forI (t : Tgt) (body : Sm) : List (Fl × D) → Sm
  | [] => M.ret .next
  | fd :: ds => (tgt t (.val fd.1 fd.2)).bind fun _ => fun σ => (body σ).bind fun p => match p.1 with
    | .next => forI t body ds p.2
    | .cont => forI t body ds p.2
    | .brk => .ok (.next, p.2)
    | .ret fl d => .ok (.ret fl d, p.2)
def sFor (mi : M (List (Fl × D))) (t : Tgt) (body : Sm) : Sm := mi.bind fun l => forI t body l
def whileL (mt : M Bool) (body : Sm) : Nat → Sm
  | 0 => fun _ => .bad
  | n + 1 => mt.bind fun b => if b = true then (fun σ => (body σ).bind fun p => match p.1 with
    | .next => whileL mt body n p.2
    | .cont => whileL mt body n p.2
    | .brk => .ok (.next, p.2)
    | .ret fl d => .ok (.ret fl d, p.2)) else M.ret .next

section
variable {K : PySem.W.Frag} {g : Gho} {S S' H H' : Hp} {σr σr' : L2.St} {σ σ' : List Sv} {W : WX} {Dn : Ends}
theorem ResS.up {r : R (Fw × List Sv)} (e : Ex S S') (h : ResS K W g S r Dn) : ResS K W g S' r Dn := by
  cases r with
  | ok p =>
    obtain ⟨f, σ'⟩ := p
    cases f with
    | next => exact fun a b c x => h a b c (e.trans x)
    | brk => exact fun a b c x => h a b c (e.trans x)
    | cont => exact fun a b c x => h a b c (e.trans x)
    | ret f d => exact fun v a b c x => h v a b c (e.trans x)
  | exc c fs => exact fun σr' S' H' σ' dx xs x => h σr' S' H' σ' dx xs (e.trans x)
  | bad => exact h
/-- an expression ahead in a statement -/
theorem ResS.bind {α : Type} {m : M α} {f : α → Sm} (h : ResS K W g S (M.bind m f σ) Dn) : Res K g W S σr (m σ) fun a σ' S' _ => ResS K W g S' (f a σ') Dn := by
  have h' : ResS K W g S ((m σ).bind fun p => f p.1 p.2) Dn := h
  cases q : m σ with
  | ok p =>
    rw [q] at h'
    exact fun S' H' e _ => ResS.up e h'
  | exc c fs =>
    rw [q] at h'
    exact fun S' H' σ' dx xs e r hx hf => h' σr S' H' σ' dx xs e r hx hf
  | bad =>
    rw [q] at h'
    exact h'
theorem rs_skip : RefS K W tNext sSkip := by
  intro g S H σr σ D r h
  exact h σr S H (Ex.refl S) r
theorem rs_never : RefS K W tNever sBad := by
  intro g S H σr σ D r h
  exact h
theorem rs_brk : RefS K W tBreak sBrk := by
  intro g S H σr σ D r h
  exact h σr S H (Ex.refl S) r
theorem rs_cont : RefS K W tCont sCont := by
  intro g S H σr σ D r h
  exact h σr S H (Ex.refl S) r
theorem rs_seq {t u : TS} {a b : Sm} (h1 : RefS K W t a) (h2 : RefS K W u b) : RefS K W (tSeq t u) (sSeq a b) := by
  intro g S H σr σ D r h
  refine h1 g S H σr σ _ r ?_
  have h' : ResS K W g S ((a σ).bind fun p => match p.1 with | .next => b p.2 | _ => .ok p) D := h
  cases q : a σ with
  | ok p =>
    obtain ⟨f, σ1⟩ := p
    rw [q] at h'
    cases f with
    | next => exact fun σr' S' H' e r' => h2 g S' H' σr' σ1 D r' (ResS.up e h')
    | brk => exact h'
    | cont => exact h'
    | ret f d => exact h'
  | exc c fs =>
    rw [q] at h'
    exact h'
  | bad =>
    rw [q] at h'
    exact h'
theorem okSlot_lt {i : Nat} (h : okSlot σ i = true) : i < σ.length := by
  unfold okSlot at h
  cases q : σ[i]? with
  | none => simp only [q] at h; cases h
  | some s => exact (List.getElem?_eq_some_iff.mp q).1
theorem putV_ok (r : Rel K g S H σr σ) {i : Nat} {e : Ev} {v : V} (hv : EvOk K g S σr v e) {σ' : List Sv} (q : putV i e σ = some σ') : Rel K g S H (σr.set i (some v)) σ' := by
  cases e with
  | view j => unfold putV at q; cases q
  | val f d =>
    unfold putV at q
    simp only at q
    split at q
    · rename_i hk
      cases q
      exact r.put (s := .fz f d) rfl (okSlot_lt hk) ⟨v, rfl, hv⟩
    · cases q
/-- other slots than these are left -/
def Leaves (js : List Nat) (σr σr' : L2.St) : Prop := σr'.length = σr.length ∧ ∀ j, j ∉ js → σr'[j]? = σr[j]?
theorem Leaves.refl {js : List Nat} : Leaves js σr σr := ⟨rfl, fun _ _ => rfl⟩
theorem Leaves.trans {js : List Nat} {a b c : L2.St} (h : Leaves js a b) (k : Leaves js b c) : Leaves js a c := ⟨k.1.trans h.1, fun j hj => (k.2 j hj).trans (h.2 j hj)⟩
theorem Leaves.mono {js ks : List Nat} {a b : L2.St} (h : Leaves js a b) (k : ∀ j ∈ js, j ∈ ks) : Leaves ks a b := ⟨h.1, fun j hj => h.2 j fun x => hj (k j x)⟩
theorem Leaves.set {i : Nat} {v : Option V} : Leaves [i] σr (σr.set i v) := by
  refine ⟨List.length_set, fun j hj => ?_⟩
  rw [List.getElem?_set_ne]
  intro e
  exact hj (by simp [e])
/-- a target: it turns these slots alone -/
def RefG (K : PySem.W.Frag) (js : List Nat) (t : TG) (m : Tgt) : Prop := ∀ g S H σr σ v ev σ' (Q : L2.St → Hp → Prop), Rel K g S H σr σ → EvOk K g S σr v ev → m ev σ = some σ' →
  (∀ σr' S' H', Ex S S' → Rel K g S' H' σr' σ' → Leaves js σr σr' → Q σr' H') → t v σr H Q
def RefGs (K : PySem.W.Frag) (js : List Nat) (t : TGs) (ms : List Tgt) : Prop := ∀ (g : Gho) (S H : Hp) (σr : L2.St) (σ : List Sv) (vs : List V) (f : Fl) (ds : List D) (σ' : List Sv) (Q : L2.St → Hp → Prop), Rel K g S H σr σ →
  (∀ (i : Nat) (d : D), ds[i]? = some d → ∃ v, vs[i]? = some v ∧ FzOk K g S d v f) → vs.length = ds.length → putAll f ms ds σ = some σ' → (∀ σr' S' H', Ex S S' → Rel K g S' H' σr' σ' → Leaves js σr σr' → Q σr' H') → t vs σr H Q
theorem rg_name {i : Nat} : RefG K [i] (gName i) (putV i) := by
  intro g S H σr σ v ev σ' Q r hv q h
  exact h _ S H (Ex.refl S) (putV_ok r hv q) Leaves.set
theorem rgs_nil : RefGs K [] gNil [] := by
  intro g S H σr σ vs f ds σ' Q r hv hl q h
  cases ds with
  | cons d ds => cases q
  | nil =>
    have e : vs = [] := List.eq_nil_of_length_eq_zero hl
    subst e
    cases q
    exact ⟨rfl, h σr S H (Ex.refl S) r Leaves.refl⟩
theorem rgs_cons {js ks : List Nat} {t : TG} {u : TGs} {m : Tgt} {ms : List Tgt} (h1 : RefG K js t m) (h2 : RefGs K ks u ms) : RefGs K (js ++ ks) (gCons t u) (m :: ms) := by
  intro g S H σr σ vs f ds σ' Q r hv hl q h
  cases ds with
  | nil => cases q
  | cons d ds =>
    obtain ⟨v, e1, h3⟩ := hv 0 d rfl
    cases vs with
    | nil => cases e1
    | cons v' vs =>
      cases e1
      refine ⟨_, vs, rfl, ?_⟩
      have q' : ((m (.val f d) σ).bind fun σ' => putAll f ms ds σ') = some σ' := q
      cases q1 : m (.val f d) σ with
      | none =>
        rw [q1] at q'
        cases q'
      | some σ1 =>
        rw [q1] at q'
        refine h1 g S H σr σ _ (.val f d) σ1 _ r h3 q1 fun σr' S' H' e r' l1 => ?_
        refine h2 g S' H' σr' σ1 vs f ds σ' Q r' (fun i d hd => ?_) (by simpa using hl) q' fun a b c x r2 l2 => h a b c (e.trans x) r2 ((l1.mono fun j hj => List.mem_append_left _ hj).trans (l2.mono fun j hj => List.mem_append_right _ hj))
        obtain ⟨v, a, b⟩ := hv (i + 1) d (by simpa using hd)
        exact ⟨v, by simpa using a, b.mono e⟩
theorem FzOk.kid {ds : List D} {f : Fl} {v : V} (h : FzOk K g S (.tup ds) v f) : ∃ a xs, v = .ref a ∧ SqT K (match f with | .old => g.Se | _ => S) a xs ∧ xs.length = ds.length ∧ ∀ (i : Nat) (d : D), ds[i]? = some d → ∃ u, xs[i]? = some u ∧ FzOk K g S d u (flKid f) := by
  cases f with
  | any =>
    have h' : Rp K yes S (.tup ds) v := h
    unfold Rp at h'
    obtain ⟨a, xs, e, hq, hl⟩ := h'
    exact ⟨a, xs, e, hq, hl.length, fun i d hd => hl.get hd⟩
  | top =>
    have h' : Rp K yes S (.tup ds) v := h.1
    unfold Rp at h'
    obtain ⟨a, xs, e, hq, hl⟩ := h'
    exact ⟨a, xs, e, hq, hl.length, fun i d hd => hl.get hd⟩
  | own =>
    have h' : Rp K g.nu S (.tup ds) v := h
    unfold Rp at h'
    obtain ⟨a, xs, e, hq, hl⟩ := h'
    exact ⟨a, xs, e, hq, hl.length, fun i d hd => hl.get hd⟩
  | old =>
    have h' : Rp K yes g.Se (.tup ds) v := h
    unfold Rp at h'
    obtain ⟨a, xs, e, hq, hl⟩ := h'
    exact ⟨a, xs, e, hq, hl.length, fun i d hd => hl.get hd⟩
theorem sqt_old {f : Fl} {a : Addr} {xs : List V} (e : Ex g.Se S) (h : SqT K (match f with | .old => g.Se | _ => S) a xs) : SqT K S a xs := by
  cases f with
  | old => exact ex_t e h
  | _ => exact h
theorem putAll_len {f : Fl} : ∀ {ms : List Tgt} {ds : List D} {σ σ' : List Sv}, putAll f ms ds σ = some σ' → ms.length = ds.length
  | [], [], _, _, _ => rfl
  | [], _ :: _, _, _, q => by cases q
  | _ :: _, [], _, _, q => by cases q
  | m :: ms, d :: ds, σ, σ', q => by
    have q' : ((m (.val f d) σ).bind fun σ' => putAll f ms ds σ') = some σ' := q
    cases q1 : m (.val f d) σ with
    | none =>
      rw [q1] at q'
      cases q'
    | some σ1 =>
      rw [q1] at q'
      rw [List.length_cons, List.length_cons, putAll_len q']
theorem rg_tup {js : List Nat} {n : Nat} {t : TGs} {ms : List Tgt} (h1 : RefGs K js t ms) (hn : ms.length = n) : RefG K js (gTup K n t) (gTupM ms) := by
  intro g S H σr σ v ev σ' Q r hv q h
  cases ev with
  | view i => cases q
  | val f d =>
    cases d with
    | tup ds =>
      obtain ⟨a, xs, e, hq, hl, hk⟩ := FzOk.kid hv
      have q' : putAll (flKid f) ms ds σ = some σ' := q
      exact ⟨a, xs, e, ex_t r.sH (sqt_old r.seS hq), by rw [hl, ← hn, putAll_len q'], h1 g S H σr σ xs (flKid f) ds σ' Q r hk hl q' h⟩
    | _ => cases q
theorem ResS.tgt {t : Tgt} {e : Ev} {f : Unit → Sm} (h : ResS K W g S (M.bind (Uw.tgt t e) f σ) Dn) : ∃ σ', t e σ = some σ' ∧ ResS K W g S (f () σ') Dn := by
  have h' : ResS K W g S ((Uw.tgt t e σ).bind fun p => f p.1 p.2) Dn := h
  unfold Uw.tgt at h'
  cases q : t e σ with
  | none =>
    simp only [q] at h'
    exact h'.elim
  | some σ' =>
    simp only [q] at h'
    exact ⟨σ', rfl, h'⟩
theorem rs_asg {js : List Nat} {te : TE} {tg : TG} {m : M Ev} {t : Tgt} (he : RefE K W te m) (hg : RefG K js tg t) : RefS K W (tAsg te tg) (sAsg m t) := by
  intro g S H σr σ Dn r h
  refine re_val he g S H σr σ _ r ((ResS.bind (σr := σr) h).imp fun ev σ1 S1 H1 x1 r1 h1 => fun v hv => ?_)
  obtain ⟨σ2, q, h2⟩ := ResS.tgt h1
  exact hg g S1 H1 σr σ1 v ev σ2 _ r1 hv q fun a b c x y _ => h2 a b c x y
theorem rs_set {te : TE} {i : Nat} {m : M Ev} (he : RefE K W te m) : RefS K W (tAsg te (gName i)) (sSet i m) := rs_asg he rg_name
theorem rs_setM {te : TE} {i : Nat} {m : M (Bool × D)} (he : RefM K W te m) : RefS K W (tAsg te (gName i)) (sSetM i m) := by
  intro g S H σr σ Dn r h
  refine he g S H σr σ _ r ((ResS.bind (σr := σr) h).imp fun od σ1 S1 H1 x1 r1 h1 => fun p n1 n2 n3 hm => ?_)
  have h' : ResS K W g S1 ((putMu i od σ1).bind fun p => M.ret .next p.2) Dn := h1
  unfold putMu at h'
  split at h'
  · rename_i hk
    exact h' _ S1 H1 (Ex.refl S1) (r1.putMu (okSlot_lt hk) n1 n2 n3 hm)
  · exact h'.elim
theorem rs_drop {te : TE} {m : M Ev} (he : RefE K W te m) : RefS K W (tDrop te) (sDrop m) := by
  intro g S H σr σ Dn r h
  refine he g S H σr σ _ r ((ResS.bind (σr := σr) h).imp fun ev σ1 S1 H1 x1 r1 h1 => fun v hv => ?_)
  exact h1 σr S1 H1 (Ex.refl S1) r1
theorem rs_ret {te : TE} {m : M Ev} (he : RefE K W te m) : RefS K W (tRet te) (sRet m) := by
  intro g S H σr σ Dn r h
  refine re_val he g S H σr σ _ r ((ResS.bind (σr := σr) h).imp fun ev σ1 S1 H1 x1 r1 h1 => fun v hv => ?_)
  cases ev with
  | view i => exact h1.elim
  | val f d => exact h1 v σr S1 H1 (Ex.refl S1) r1 hv
theorem rs_retN : RefS K W tRetN sRetN := by
  intro g S H σr σ Dn r h
  exact h .non σr S H (Ex.refl S) r rfl
theorem rs_if {tt : TT} {t u : TS} {mt : M Bool} {a b : Sm} (ht : RefT K W tt mt) (h1 : RefS K W t a) (h2 : RefS K W u b) : RefS K W (tIfS tt t u) (sIf mt a b) := by
  intro g S H σr σ Dn r h
  refine ht g S H σr σ _ r ((ResS.bind (σr := σr) h).imp fun c σ1 S1 H1 x1 r1 q1 => ?_)
  cases c with
  | true => exact h1 g S1 H1 σr σ1 Dn r1 q1
  | false => exact h2 g S1 H1 σr σ1 Dn r1 q1
end
end Uw

set_option Elab.async false
set_option linter.all false
set_option maxRecDepth 100000
set_option maxHeartbeats 2000000
namespace Uw
open PySem PySem.Spec PyProof.Rows L2

/-! ### what is walked -/
def WalkOk (K : PySem.W.Frag) (g : Gho) (S : Hp) (J : It) (items : List (Fl × D)) : Prop := ∀ (S1 H : Hp) (i : Nat) (B1 : Hp) (σr0 : L2.St) (σ0 : List Sv), Ex S S1 → Rel K { g with B := B1 } S1 H σr0 σ0 →
  (∀ (f : Fl) (d : D), items[i]? = some (f, d) → J.go i H ∧ ∀ x H', J.yld i H x H' → ∃ S2, Ex S1 S2 ∧ (∀ B2 σr σ, Rel K { g with B := B2 } S1 H σr σ → Rel K { g with B := B2 } S2 H' σr σ) ∧ FzOk K g S2 d x f) ∧ (items.length = i → J.stop i H)
def RefI (K : PySem.W.Frag) (W : WX) (wi : TI) (mi : M (List (Fl × D))) : Prop := ∀ g S H σr σ (Q : It → Hp → Prop), Rel K g S H σr σ → Res K g W S σr (mi σ) (fun items _ S' H' => ∀ J, WalkOk K g S' J items → Q J H') → wi σr H Q

section
variable {K : PySem.W.Frag} {g : Gho} {S S' H H' : Hp} {σr σr' : L2.St} {σ σ' : List Sv} {W : WX} {Dn : Ends}
theorem drop_at {α : Type} {l : List α} {i : Nat} (h : i < l.length) : l.drop i = l[i] :: l.drop (i + 1) := List.drop_eq_getElem_cons h
theorem rs_for {js : List Nat} {wi : TI} {tg : TG} {tb : TS} {mi : M (List (Fl × D))} {t : Tgt} {body : Sm} (hi : RefI K W wi mi) (hg : RefG K js tg t) (hb : RefS K W tb body) : RefS K W (tFor wi tg tb) (sFor mi t body) := by
  intro g S H σr σ Dn r h
  refine hi g S H σr σ _ r ((ResS.bind (σr := σr) h).imp fun items σ1 S1 H1 x1 r1 h1 => fun J hJ => ?_)
  refine ⟨fun i m σr H => ∃ S2 σ2, m = items.length - i ∧ i ≤ items.length ∧ Ex S1 S2 ∧ Rel K g S2 H σr σ2 ∧ ResS K W g S2 (forI t body (items.drop i) σ2) Dn, ⟨items.length, S1, σ1, by simp, Nat.zero_le _, Ex.refl _, r1, h1⟩, ?_⟩
  rintro i m σr2 H2 ⟨S2, σ2, rfl, hle, e2, r2, h2⟩
  obtain ⟨w1, w2⟩ := hJ S2 H2 i g.B σr2 σ2 e2 r2
  by_cases hlt : i < items.length
  · right
    have hit : items[i]? = some items[i] := List.getElem?_eq_getElem hlt
    obtain ⟨go, yl⟩ := w1 items[i].1 items[i].2 hit
    refine ⟨go, fun σr3 H3 => ∃ S3 σ3, Ex S1 S3 ∧ Rel K g S3 H3 σr3 σ3 ∧ ResS K W g S3 (forI t body (items.drop (i + 1)) σ3) Dn, fun σr3 H3 ⟨S3, σ3, a, b, c⟩ => ⟨items.length - (i + 1), by omega, S3, σ3, rfl, hlt, a, b, c⟩, fun x H3 hx => ?_⟩
    obtain ⟨S3, e3, rr, hz⟩ := yl x H3 hx
    have r3 := rr g.B σr2 σ2 r2
    rw [drop_at hlt] at h2
    obtain ⟨σ3, q3, h3⟩ := ResS.tgt h2
    refine hg g S3 H3 σr2 σ2 x (.val items[i].1 items[i].2) σ3 _ r3 hz q3 fun σr4 S4 H4 e4 r4 _ => ?_
    refine hb g S4 H4 σr4 σ3 _ r4 ?_
    have e14 : Ex S1 S4 := e2.trans (e3.trans e4)
    have h4 : ResS K W g S4 ((body σ3).bind fun p => match p.1 with
      | .next => forI t body (items.drop (i + 1)) p.2
      | .cont => forI t body (items.drop (i + 1)) p.2
      | .brk => .ok (.next, p.2)
      | .ret fl d => .ok (.ret fl d, p.2)) Dn := ResS.up (e3.trans e4) h3
    cases q : body σ3 with
    | ok p =>
      obtain ⟨f, σ5⟩ := p
      rw [q] at h4
      cases f with
      | next => exact fun σr5 S5 H5 e5 r5 => ⟨S5, σ5, e14.trans e5, r5, ResS.up e5 h4⟩
      | cont => exact fun σr5 S5 H5 e5 r5 => ⟨S5, σ5, e14.trans e5, r5, ResS.up e5 h4⟩
      | brk => exact h4
      | ret f d => exact h4
    | exc c fs =>
      rw [q] at h4
      exact h4
    | bad =>
      rw [q] at h4
      exact h4
  · left
    have e : i = items.length := by omega
    subst e
    refine ⟨w2 rfl, ?_⟩
    rw [List.drop_length] at h2
    exact h2 σr2 S2 H2 (Ex.refl S2) r2
theorem rs_while {tt : TT} {tb : TS} {mt : M Bool} {body : Sm} (ht : RefT K W tt mt) (hb : RefS K W tb body) (n : Nat) : RefS K W (tWhile tt tb) (whileL mt body n) := by
  intro g S H σr σ Dn r h
  refine ⟨fun m σr H => ∃ S2 σ2, Ex S S2 ∧ Rel K g S2 H σr σ2 ∧ ResS K W g S2 (whileL mt body m σ2) Dn, ⟨n, S, σ, Ex.refl _, r, h⟩, ?_⟩
  rintro m σr2 H2 ⟨S2, σ2, e2, r2, h2⟩
  cases m with
  | zero => exact h2.elim
  | succ m =>
    refine ht g S2 H2 σr2 σ2 _ r2 ((ResS.bind (σr := σr2) h2).imp fun b σ3 S3 H3 e3 r3 h3 => ?_)
    cases b with
    | false =>
      rw [if_neg Bool.false_ne_true]
      exact h3 σr2 S3 H3 (Ex.refl S3) r3
    | true =>
      rw [if_pos rfl]
      refine ⟨fun σr4 H4 => ∃ S4 σ4, Ex S S4 ∧ Rel K g S4 H4 σr4 σ4 ∧ ResS K W g S4 (whileL mt body m σ4) Dn, fun σr4 H4 ⟨S4, σ4, a, b, c⟩ => ⟨m, Nat.lt_succ_self m, S4, σ4, a, b, c⟩, ?_⟩
      refine hb g S3 H3 σr2 σ3 _ r3 ?_
      have h4 : ResS K W g S3 ((body σ3).bind fun p => match p.1 with
        | .next => whileL mt body m p.2
        | .cont => whileL mt body m p.2
        | .brk => .ok (.next, p.2)
        | .ret fl d => .ok (.ret fl d, p.2)) Dn := h3
      cases q : body σ3 with
      | ok p =>
        obtain ⟨f, σ5⟩ := p
        rw [q] at h4
        cases f with
        | next => exact fun σr5 S5 H5 e5 r5 => ⟨S5, σ5, (e2.trans e3).trans e5, r5, ResS.up e5 h4⟩
        | cont => exact fun σr5 S5 H5 e5 r5 => ⟨S5, σ5, (e2.trans e3).trans e5, r5, ResS.up e5 h4⟩
        | brk => exact h4
        | ret f d => exact h4
      | exc c fs =>
        rw [q] at h4
        exact h4
      | bad =>
        rw [q] at h4
        exact h4
end

/-! ### comprehensions -/
def wipeS (σ : List Sv) : List Nat → List Sv
  | [] => σ
  | v :: vs => (wipeS σ vs).set v .und
def mWipe (vs : List Nat) : M Unit := fun σ => .ok ((), wipeS σ vs)
/-- the slots vs as they were -/
def backS (σ0 σ : List Sv) : List Nat → List Sv
  | [] => σ
  | v :: vs => (backS σ0 σ vs).set v (σ0.getD v .und)
def compL (t : Tgt) (mt : M Bool) (me : M Ev) (vs : List Nat) : List (Fl × D) → List (Fl × D) → M (List (Fl × D))
  | [], acc => M.ret acc
  | fd :: ds, acc => (tgt t (.val fd.1 fd.2)).bind fun _ => mt.bind fun b =>
    if b = true then (eV me).bind fun e => match e with
      | .val f d => (lift (if sizeB acc.length = true then some () else none)).bind fun _ => (mWipe vs).bind fun _ => compL t mt me vs ds (acc ++ [(f, d)])
      | .view _ => fun _ => .bad
    else (mWipe vs).bind fun _ => compL t mt me vs ds acc
def isVal : Sv → Bool
  | .und => true
  | .fz _ _ => true
  | _ => false
def keepable (vs : List Nat) (σ : List Sv) : Bool := vs.all fun i => isVal (σ.getD i .und)
def eLc (vs : List Nat) (mi : M (List (Fl × D))) (t : Tgt) (mt : M Bool) (me : M Ev) : M (Bool × D) := mi.bind fun l => fun σ =>
  if keepable vs σ = true then (match compL t mt me vs l [] (wipeS σ vs) with
    | .ok p => .ok ((p.1.all Fl.isOwn, .lst (p.1.map (·.2))), backS σ p.2 vs)
    | _ => .bad) else .bad
/-- nothing leaves -/
def W0 : WX := fun _ _ _ _ => False
def mYes : M Bool := M.ret true

section
variable {K : PySem.W.Frag} {g : Gho} {S S' H H' : Hp} {σr σr' : L2.St} {σ σ' σ0 : List Sv} {W : WX} {Dn : Ends}
theorem wipe_get {vs : List Nat} : ∀ (j : Nat), (wipe σr vs)[j]? = if j ∈ vs ∧ j < σr.length then some none else σr[j]? := by
  induction vs with
  | nil => intro j; simp [wipe]
  | cons v vs ih =>
    intro j
    unfold wipe
    by_cases e : v = j
    · subst e
      by_cases hl : v < (wipe σr vs).length
      · rw [List.getElem?_set_self hl, if_pos ⟨List.mem_cons_self .., by rw [← wipe_length σr vs]; exact hl⟩]
      · rw [List.getElem?_eq_none (by rw [List.length_set]; omega), if_neg (fun z => hl (by rw [wipe_length]; exact z.2))]
        rw [wipe_length] at hl
        exact (List.getElem?_eq_none (by omega)).symm
    · rw [List.getElem?_set_ne e, ih j]
      by_cases hv : j ∈ vs ∧ j < σr.length
      · rw [if_pos hv, if_pos ⟨List.mem_cons_of_mem _ hv.1, hv.2⟩]
      · rw [if_neg hv, if_neg]
        intro z
        rcases List.mem_cons.mp z.1 with z1 | z1
        · exact e z1.symm
        · exact hv ⟨z1, z.2⟩
theorem wipeS_len {vs : List Nat} : (wipeS σ vs).length = σ.length := by
  induction vs with
  | nil => rfl
  | cons v vs ih => unfold wipeS; rw [List.length_set, ih]
theorem wipeS_get {vs : List Nat} : ∀ (j : Nat), (wipeS σ vs)[j]? = if j ∈ vs ∧ j < σ.length then some .und else σ[j]? := by
  induction vs with
  | nil => intro j; simp [wipeS]
  | cons v vs ih =>
    intro j
    unfold wipeS
    by_cases e : v = j
    · subst e
      by_cases hl : v < (wipeS σ vs).length
      · rw [List.getElem?_set_self hl, if_pos ⟨List.mem_cons_self .., by rw [← wipeS_len (vs := vs)]; exact hl⟩]
      · rw [List.getElem?_eq_none (by rw [List.length_set]; omega), if_neg (fun z => hl (by rw [wipeS_len]; exact z.2))]
        rw [wipeS_len] at hl
        exact (List.getElem?_eq_none (by omega)).symm
    · rw [List.getElem?_set_ne e, ih j]
      by_cases hv : j ∈ vs ∧ j < σ.length
      · rw [if_pos hv, if_pos ⟨List.mem_cons_of_mem _ hv.1, hv.2⟩]
      · rw [if_neg hv, if_neg]
        intro z
        rcases List.mem_cons.mp z.1 with z1 | z1
        · exact e z1.symm
        · exact hv ⟨z1, z.2⟩
theorem backS_len {vs : List Nat} : (backS σ0 σ vs).length = σ.length := by
  induction vs with
  | nil => rfl
  | cons v vs ih => unfold backS; rw [List.length_set, ih]
theorem backS_get {vs : List Nat} : ∀ (j : Nat), (backS σ0 σ vs)[j]? = if j ∈ vs ∧ j < σ.length then some (σ0.getD j .und) else σ[j]? := by
  induction vs with
  | nil => intro j; simp [backS]
  | cons v vs ih =>
    intro j
    unfold backS
    by_cases e : v = j
    · subst e
      by_cases hl : v < (backS σ0 σ vs).length
      · rw [List.getElem?_set_self hl, if_pos ⟨List.mem_cons_self .., by rw [← backS_len (σ0 := σ0) (vs := vs)]; exact hl⟩]
      · rw [List.getElem?_eq_none (by rw [List.length_set]; omega), if_neg (fun z => hl (by rw [backS_len]; exact z.2))]
        rw [backS_len] at hl
        exact (List.getElem?_eq_none (by omega)).symm
    · rw [List.getElem?_set_ne e, ih j]
      by_cases hv : j ∈ vs ∧ j < σ.length
      · rw [if_pos hv, if_pos ⟨List.mem_cons_of_mem _ hv.1, hv.2⟩]
      · rw [if_neg hv, if_neg]
        intro z
        rcases List.mem_cons.mp z.1 with z1 | z1
        · exact e z1.symm
        · exact hv ⟨z1, z.2⟩
theorem wipe_eq {js vs : List Nat} (h : Leaves js σr σr') (k : ∀ j ∈ js, j ∈ vs) : wipe σr' vs = wipe σr vs := by
  apply List.ext_getElem?
  intro j
  rw [wipe_get, wipe_get, h.1]
  by_cases hv : j ∈ vs ∧ j < σr.length
  · rw [if_pos hv, if_pos hv]
  · rw [if_neg hv, if_neg hv]
    by_cases hj : j ∈ js
    · have hlt : ¬ j < σr.length := fun z => hv ⟨k j hj, z⟩
      rw [List.getElem?_eq_none (by rw [h.1]; omega), List.getElem?_eq_none (by omega)]
    · exact h.2 j hj
/-- the slots vs forgotten -/
theorem Rel.wipe (r : Rel K g S H σr σ) (vs : List Nat) : Rel K g S H (L2.wipe σr vs) (wipeS σ vs) where
  len := by rw [wipe_length, wipeS_len, r.len]
  s0e := r.s0e
  seS := r.seS
  sH := r.sH
  bH := r.bH
  fresh := r.fresh
  slot := fun j s hs => by
    rw [wipeS_get] at hs
    by_cases hv : j ∈ vs ∧ j < σ.length
    · rw [if_pos hv] at hs
      cases hs
      trivial
    · rw [if_neg hv] at hs
      rw [wipe_get, if_neg (by rw [r.len]; exact hv)]
      exact r.slot j s hs
  inj := fun a b p h1 h2 => by
    have go : ∀ c, MuP (L2.wipe σr vs) (wipeS σ vs) c p → MuP σr σ c p := fun c ⟨s, k1, k2, k3⟩ => by
      rw [wipeS_get] at k1
      by_cases hv : c ∈ vs ∧ c < σ.length
      · rw [if_pos hv] at k1
        cases k1
        cases k2
      · rw [if_neg hv] at k1
        rw [wipe_get, if_neg (by rw [r.len]; exact hv)] at k3
        exact ⟨s, k1, k2, k3⟩
    exact r.inj a b p (go a h1) (go b h2)
theorem getD_get {α : Type} {l : List α} {i : Nat} {d : α} (h : i < l.length) : l[i]? = some (l.getD i d) := by
  rw [List.getD_eq_getElem?_getD, List.getElem?_eq_getElem h]
  rfl
/-- the slots vs as they were ahead -/
theorem Rel.back (r0 : Rel K g S H σr σ0) {vs : List Nat} (hk : keepable vs σ0 = true) (e : Ex S S') (r : Rel K g S' H' (L2.wipe σr vs) σ) : Rel K g S' H' σr (backS σ0 σ vs) where
  len := by rw [backS_len, ← r.len, wipe_length]
  s0e := r.s0e
  seS := r.seS
  sH := r.sH
  bH := r.bH
  fresh := r.fresh
  slot := fun j s hs => by
    have hl : σ.length = σ0.length := by rw [← r.len, wipe_length, r0.len]
    rw [backS_get] at hs
    by_cases hv : j ∈ vs ∧ j < σ.length
    · rw [if_pos hv] at hs
      cases hs
      have q := r0.slot j _ (getD_get (d := .und) (by rw [← hl]; exact hv.2))
      have k := List.all_eq_true.mp hk j hv.1
      cases z : σ0.getD j .und with
      | und => trivial
      | fz f d =>
        rw [z] at q
        obtain ⟨v, e1, h1⟩ := q
        exact ⟨v, e1, h1.mono e⟩
      | mu o d =>
        rw [z] at k
        cases k
      | io d =>
        rw [z] at k
        cases k
    · rw [if_neg hv] at hs
      have q := r.slot j s hs
      rw [wipe_get, if_neg (by rw [r0.len, ← hl]; exact hv)] at q
      exact q
  inj := fun a b p h1 h2 => by
    have hl : σ.length = σ0.length := by rw [← r.len, wipe_length, r0.len]
    have go : ∀ c, MuP σr (backS σ0 σ vs) c p → MuP (L2.wipe σr vs) σ c p := fun c ⟨s, k1, k2, k3⟩ => by
      rw [backS_get] at k1
      by_cases hv : c ∈ vs ∧ c < σ.length
      · rw [if_pos hv] at k1
        cases k1
        have k := List.all_eq_true.mp hk c hv.1
        cases z : σ0.getD c .und with
        | und => rw [z] at k2; cases k2
        | fz f d => rw [z] at k2; cases k2
        | mu o d => rw [z] at k; cases k
        | io d => rw [z] at k; cases k
      · rw [if_neg hv] at k1
        refine ⟨s, k1, k2, ?_⟩
        rw [wipe_get, if_neg (by rw [r0.len, ← hl]; exact hv)]
        exact k3
    exact r.inj a b p (go a h1) (go b h2)
/-- an object of ours is guarded -/
theorem Rel.guard (r : Rel K g S H σr σ) {p : Addr} {o : HO} (h : H p = some o) (hS : S p = none) (hm : ∀ i, ¬ MuP σr σ i p) : Rel K { g with B := upd g.B p o } S H σr σ where
  len := r.len
  s0e := r.s0e
  seS := r.seS
  sH := r.sH
  bH := r.bH.fz h
  fresh := fun a h1 h2 => by
    have ne : a ≠ p := fun e => h1 (by rw [e]; exact hS)
    show upd g.B p o a = none
    rw [upd_ne ne]
    exact r.fresh a h1 h2
  slot := fun i s hs => by
    have q := r.slot i s hs
    cases s with
    | und => trivial
    | fz f d => exact q
    | mu oo d =>
      obtain ⟨p', e1, a, b, c⟩ := q
      have ne : p' ≠ p := fun e => hm i ⟨_, hs, rfl, by rw [← e]; exact e1⟩
      exact ⟨p', e1, a, by show upd g.B p o p' = none; rw [upd_ne ne]; exact b, c⟩
    | io d =>
      obtain ⟨p', e1, a, b, x, c⟩ := q
      have ne : p' ≠ p := fun e => hm i ⟨_, hs, rfl, by rw [← e]; exact e1⟩
      exact ⟨p', e1, a, by show upd g.B p o p' = none; rw [upd_ne ne]; exact b, x, c⟩
  inj := r.inj
theorem Rel.unguard {B : Hp} (r : Rel K { g with B := B } S H σr σ) (e : Ex g.B B) : Rel K g S H σr σ where
  len := r.len
  s0e := r.s0e
  seS := r.seS
  sH := r.sH
  bH := e.trans r.bH
  fresh := fun a h1 h2 => e.back (r.fresh a h1 h2)
  slot := fun i s hs => by
    have q := r.slot i s hs
    cases s with
    | und => trivial
    | fz f d => exact q
    | mu oo d =>
      obtain ⟨p', e1, a, b, c⟩ := q
      exact ⟨p', e1, a, e.back b, c⟩
    | io d =>
      obtain ⟨p', e1, a, b, x, c⟩ := q
      exact ⟨p', e1, a, e.back b, x, c⟩
  inj := r.inj
theorem R.bind_ok {α β : Type} {r : R α} {f : α → R β} {b : β} (h : r.bind f = .ok b) : ∃ a, r = .ok a ∧ f a = .ok b := by
  cases r with
  | ok a => exact ⟨a, rfl, h⟩
  | exc c fs => cases h
  | bad => cases h
theorem M.bind_ok {α β : Type} {m : M α} {f : α → M β} {b : β × List Sv} (h : M.bind m f σ = .ok b) : ∃ a σ', m σ = .ok (a, σ') ∧ f a σ' = .ok b := by
  obtain ⟨p, h1, h2⟩ := R.bind_ok h
  exact ⟨p.1, p.2, h1, h2⟩
theorem lift_ok {α : Type} {o : Option α} {a : α} (h : lift o σ = .ok (a, σ')) : o = some a ∧ σ' = σ := by
  cases o with
  | none => cases h
  | some x => cases h; exact ⟨rfl, rfl⟩
theorem tgt_ok {t : Tgt} {e : Ev} {u : Unit} (h : tgt t e σ = .ok (u, σ')) : t e σ = some σ' := by
  unfold tgt at h
  cases q : t e σ with
  | none => rw [q] at h; cases h
  | some x => rw [q] at h; cases h; rfl
theorem MuP.of_back {vs : List Nat} (hk : keepable vs σ0 = true) (hl0 : σr.length = σ0.length) (hl : σ.length = σ0.length) {c : Nat} {p : Addr} (h : MuP σr (backS σ0 σ vs) c p) : MuP (L2.wipe σr vs) σ c p := by
  obtain ⟨s, k1, k2, k3⟩ := h
  rw [backS_get] at k1
  by_cases hv : c ∈ vs ∧ c < σ.length
  · rw [if_pos hv] at k1
    cases k1
    have k := List.all_eq_true.mp hk c hv.1
    cases z : σ0.getD c .und with
    | und => rw [z] at k2; cases k2
    | fz f d => rw [z] at k2; cases k2
    | mu o d => rw [z] at k; cases k
    | io d => rw [z] at k; cases k
  · rw [if_neg hv] at k1
    refine ⟨s, k1, k2, ?_⟩
    rw [wipe_get, if_neg (by rw [hl0, ← hl]; exact hv)]
    exact k3
theorem MuP.of_wipe {vs : List Nat} (hl : σr.length = σ.length) {c : Nat} {p : Addr} (h : MuP (L2.wipe σr vs) (wipeS σ vs) c p) : MuP σr σ c p := by
  obtain ⟨s, k1, k2, k3⟩ := h
  rw [wipeS_get] at k1
  by_cases hv : c ∈ vs ∧ c < σ.length
  · rw [if_pos hv] at k1
    cases k1
    cases k2
  · rw [if_neg hv] at k1
    rw [wipe_get, if_neg (by rw [hl]; exact hv)] at k3
    exact ⟨s, k1, k2, k3⟩
/-- what a comprehension has made so far -/
def AccOk (K : PySem.W.Frag) (g : Gho) (S : Hp) (acc : List (Fl × D)) (xs : List V) : Prop := RpL K yes S (acc.map (·.2)) xs ∧ (acc.all Fl.isOwn = true → RpL K g.nu S (acc.map (·.2)) xs)
theorem AccOk.mono {acc : List (Fl × D)} {xs : List V} (h : AccOk K g S acc xs) (e : Ex S S') : AccOk K g S' acc xs := ⟨RpL.mono yes_of e h.1, fun z => RpL.mono (fun _ x => x) e (h.2 z)⟩
theorem AccOk.add {acc : List (Fl × D)} {xs : List V} {f : Fl} {d : D} {v : V} (h : AccOk K g S acc xs) (hse : Ex g.Se S) (hv : FzOk K g S d v f) : AccOk K g S (acc ++ [(f, d)]) (xs ++ [v]) := by
  have one : vals [.val f d] = some [(f, d)] := rfl
  obtain ⟨k1, k2⟩ := vals_ok (σr := []) hse one (EvsOk.cons (v := v) (e := .val f d) hv EvsOk.nil)
  refine ⟨?_, fun z => ?_⟩
  · rw [List.map_append]
    exact RpL.append h.1 k1
  · rw [List.all_append, Bool.and_eq_true] at z
    rw [List.map_append]
    exact RpL.append (h.2 z.1) (k2 z.2)
theorem rm_lc {js vs : List Nat} {wi : TI} {tg : TG} {tt : TT} {te : TE} {mi : M (List (Fl × D))} {t : Tgt} {mt : M Bool} {me : M Ev} (hi : RefI K W wi mi) (hg : RefG K js tg t) (ht : RefT K W0 tt mt) (he : RefE K W0 te me) (hj : ∀ j ∈ js, j ∈ vs) :
    RefM K W (tLc wi tg tt te vs) (eLc vs mi t mt me) := by
  intro g S H σr σ Q r h
  refine hi g S H σr σ _ r ((Res.bindM h).imp fun items σ1 S1 H1 x1 r1 h1 => fun J hJ => ?_)
  by_cases hk : keepable vs σ1 = true
  case neg =>
    rw [if_neg hk] at h1
    exact h1.elim
  rw [if_pos hk] at h1
  cases hc : compL t mt me vs items [] (wipeS σ1 vs) with
  | exc c fs =>
    rw [hc] at h1
    exact h1.elim
  | bad =>
    rw [hc] at h1
    exact h1.elim
  | ok p =>
    rw [hc] at h1
    intro Dl hD
    obtain ⟨nS, nB, nM⟩ := r1.newP hD
    refine ⟨fun i m H2 => ∃ S2 σ2 acc xs, m = items.length - i ∧ i ≤ items.length ∧ Ex S1 S2 ∧ H2 Dl = some (.lst xs) ∧ S2 Dl = none ∧ AccOk K g S2 acc xs ∧ Rel K g S2 H2 (L2.wipe σr vs) σ2 ∧ (∀ j, ¬ MuP (L2.wipe σr vs) σ2 j Dl) ∧ compL t mt me vs (items.drop i) acc σ2 = .ok p,
      ⟨items.length, S1, wipeS σ1 vs, [], [], by simp, Nat.zero_le _, Ex.refl _, upd_same, nS, ⟨RpL.nil, fun _ => RpL.nil⟩, (r1.newH hD).wipe vs, fun j hm => nM j (hm.of_wipe r1.len), hc⟩, ?_⟩
    rintro i m H2 ⟨S2, σ2, acc, xs, rfl, hle, e2, hDl, nS2, ha, r2, nM2, hc2⟩
    have hl2 : σ2.length = σ1.length := by rw [← r2.len, wipe_length, r1.len]
    obtain ⟨w1, w2⟩ := hJ S2 H2 i g.B _ σ2 e2 r2
    by_cases hlt : i < items.length
    · right
      have hit : items[i]? = some items[i] := List.getElem?_eq_getElem hlt
      obtain ⟨go, yl⟩ := w1 items[i].1 items[i].2 hit
      refine ⟨go, fun H3 => ∃ S3 σ3 acc3 xs3, Ex S1 S3 ∧ H3 Dl = some (.lst xs3) ∧ S3 Dl = none ∧ AccOk K g S3 acc3 xs3 ∧ Rel K g S3 H3 (L2.wipe σr vs) σ3 ∧ (∀ j, ¬ MuP (L2.wipe σr vs) σ3 j Dl) ∧ compL t mt me vs (items.drop (i + 1)) acc3 σ3 = .ok p,
        fun H3 ⟨S3, σ3, acc3, xs3, a1, a2, a3, a4, a5, a6, a7⟩ => ⟨items.length - (i + 1), by omega, S3, σ3, acc3, xs3, rfl, hlt, a1, a2, a3, a4, a5, a6, a7⟩, fun x H3 hx => ?_⟩
      obtain ⟨S3, e3, rr, hz⟩ := yl x H3 hx
      rw [drop_at hlt] at hc2
      unfold compL at hc2
      obtain ⟨_, σ3, q1, hc3⟩ := M.bind_ok hc2
      have q1' := tgt_ok q1
      obtain ⟨b, σ4, q2, hc4⟩ := M.bind_ok hc3
      have rg : Rel K { g with B := upd g.B Dl (.lst xs) } S3 H3 (L2.wipe σr vs) σ2 := rr _ _ _ (r2.guard hDl nS2 nM2)
      have exB : Ex g.B (upd g.B Dl (.lst xs)) := Ex.new nB
      have none_of : ∀ {S' H' σr' σ'}, Rel K { g with B := upd g.B Dl (.lst xs) } S' H' σr' σ' → H' Dl = some (.lst xs) ∧ S' Dl = none ∧ ∀ j, ¬ MuP σr' σ' j Dl := fun {S' H' σr' σ'} rr => by
        refine ⟨rr.bH _ _ upd_same, ?_, fun j hm => ?_⟩
        · cases z : S' Dl with
          | none => rfl
          | some o =>
            have z2 : upd g.B Dl (.lst xs) Dl = none := rr.fresh Dl (by rw [z]; exact fun x => nomatch x) ((r1.s0e.trans r1.seS).back nS)
            rw [upd_same] at z2
            cases z2
        · have z2 : upd g.B Dl (.lst xs) Dl = none := (rr.muP hm).2.1
          rw [upd_same] at z2
          cases z2
      refine hg _ S3 H3 _ σ2 x (.val items[i].1 items[i].2) σ3 _ rg hz q1' fun σr4 S4 H4 e4 r4 l4 => ?_
      have hw : L2.wipe σr4 vs = L2.wipe σr vs := by
        rw [wipe_eq l4 hj]
        apply List.ext_getElem?
        intro j
        rw [wipe_get, wipe_get, wipe_length]
        by_cases hv : j ∈ vs ∧ j < σr.length
        · rw [if_pos hv, if_pos hv]
        · rw [if_neg hv, if_neg hv]
      refine ⟨hw, ?_⟩
      refine ht _ S4 H4 σr4 σ3 _ r4 ?_
      rw [q2]
      intro S5 H5 e5 r5
      cases b with
      | false =>
        rw [if_neg Bool.false_ne_true] at hc4 ⊢
        obtain ⟨_, σ6, q3, hc5⟩ := M.bind_ok hc4
        cases q3
        obtain ⟨d1, d2, d3⟩ := none_of r5
        have r6 := (r5.unguard exB).wipe vs
        rw [hw] at r6
        refine ⟨S5, _, acc, xs, e2.trans (e3.trans (e4.trans e5)), d1, d2, ha.mono (e3.trans (e4.trans e5)), r6, fun j hm => ?_, hc5⟩
        rw [← hw] at hm
        exact d3 j (hm.of_wipe r5.len)
      | true =>
        rw [if_pos rfl] at hc4 ⊢
        obtain ⟨ev, σ6, q3, hc5⟩ := M.bind_ok hc4
        refine re_val he _ S5 H5 σr4 σ4 _ r5 ?_
        rw [q3]
        intro S6 H6 e6 r6 v hv
        cases ev with
        | view j => cases hc5
        | val f d =>
          obtain ⟨_, σ7, q4, hc6⟩ := M.bind_ok hc5
          obtain ⟨q5, q6⟩ := lift_ok q4
          subst q6
          have hsz : sizeB acc.length = true := by
            split at q5
            · assumption
            · cases q5
          obtain ⟨_, σ8, q7, hc7⟩ := M.bind_ok hc6
          cases q7
          obtain ⟨d1, d2, d3⟩ := none_of r6
          have e26 : Ex S2 S6 := e3.trans (e4.trans (e5.trans e6))
          have ha6 := ha.mono e26
          refine ⟨xs, d1, ?_, S6, _, acc ++ [(f, d)], xs ++ [v], e2.trans e26, upd_same, d2, ha6.add (g := g) r6.seS hv, ?_, fun j hm => ?_, hc7⟩
          · have := ha6.1.length
            rw [List.length_map] at this
            rw [this]
            have h100 : acc.length ≤ 100000 := of_decide_eq_true hsz
            exact Nat.lt_of_le_of_lt h100 (by decide)
          · have r7 := (r6.unguard exB).wipe vs
            rw [hw] at r7
            refine r7.grow (Ex.refl _) (r7.sH.upd d2) (r7.bH.upd nB) (fun a h1 h2 => absurd h2 h1) fun j q hq => ?_
            have ne : q ≠ Dl := fun e => by
              rw [e, ← hw] at hq
              exact d3 j (hq.of_wipe r6.len)
            rw [upd_ne ne]
            exact ⟨(r7.muP hq).1, rfl⟩
          · rw [← hw] at hm
            exact d3 j (hm.of_wipe r6.len)
    · left
      have e : i = items.length := by omega
      subst e
      refine ⟨w2 rfl, ?_⟩
      rw [List.drop_length] at hc2
      unfold compL at hc2
      cases hc2
      have rb := Rel.back r1 hk e2 r2
      refine h1 S2 H2 e2 rb Dl nS2 nB (fun j hm => nM2 j (hm.of_back hk r1.len hl2)) ⟨xs, hDl, ?_⟩
      unfold gdO
      split
      · rename_i z
        exact ha.2 z
      · exact ha.1
end
end Uw

set_option Elab.async false
set_option linter.all false
set_option maxRecDepth 100000
set_option maxHeartbeats 2000000
namespace Uw
open PySem PySem.Spec PyProof.Rows L2

/-! ### a def's mirror -/
/-- what is handed: a datum; a list (dict) that is changed -/
inductive Ag where | fz (d : D) | io (d : D)
abbrev Fn := List Ag → R ((Fl × D) × List D)
def Ag.slot : Ag → Sv
  | .fz d => .fz .old d
  | .io d => .io d
def entry (n : Nat) (as : List Ag) : List Sv := as.map Ag.slot ++ List.replicate (n - as.length) .und
def outs : List Ag → List Sv → Option (List D)
  | [], _ => some []
  | .fz _ :: as, _ :: σ => outs as σ
  | .io _ :: as, .io d :: σ => (outs as σ).map fun l => d :: l
  | _, _ => none
def runF (n : Nat) (mb : Sm) : Fn := fun as => (mb (entry n as)).bind fun p => match p.1 with
  | .ret f d => (match outs as p.2 with
    | some l => .ok ((f, d), l)
    | none => .bad)
  | .next => (match outs as p.2 with
    | some l => .ok ((.own, .non), l)
    | none => .bad)
  | _ => .bad

def ags : List Ev → List Sv → Option (List Ag × List Nat)
  | [], _ => some ([], [])
  | .val _ d :: es, σ => (ags es σ).map fun p => (.fz d :: p.1, p.2)
  | .view i :: es, σ => match σ[i]? with
    | some (.mu _ d) => (ags es σ).map fun p => (.io d :: p.1, i :: p.2)
    | some (.io d) => (ags es σ).map fun p => (.io d :: p.1, i :: p.2)
    | _ => none
def reS (s : Sv) (d : D) : Sv := match s with
  | .mu _ _ => .mu (kidsImm d) d
  | .io _ => .io d
  | s => s
def putOuts : List Nat → List D → List Sv → List Sv
  | i :: is, d :: ds, σ => putOuts is ds (σ.set i (reS (σ.getD i .und) d))
  | _, _, σ => σ
def nodupB : List Nat → Bool
  | [] => true
  | i :: is => !is.contains i && nodupB is
def flOut : Fl → Fl
  | .old => .any
  | f => f
def eCall (F : Fn) (ma : M (List Ev)) : M Ev := ma.bind fun es σ => match ags es σ with
  | some (as, is) => if nodupB is = true then (match F as with
    | .ok ((f, d), l) => if l.length = is.length then .ok (.val (flOut f) d, putOuts is l σ) else .bad
    | .exc c fs => if is.isEmpty = true then .exc c fs else .bad
    | .bad => .bad) else .bad
  | none => .bad
/-- a call whose answer, a new list or dict of immutables, is not frozen -/
def eCallM (F : Fn) (ma : M (List Ev)) : M (Bool × D) := (eCall F ma).bind fun e => match e with
  | .val f d => (lift (if kidsImm d = true then (match f with | .own => some () | .top => some () | _ => none) else none)).bind fun _ => M.ret (true, d)
  | .view _ => fun _ => .bad

section
variable (K : PySem.W.Frag)
def AgsOk (S H : Hp) : List V → List Ag → List Addr → Prop
  | [], as, ps => as = [] ∧ ps = []
  | v :: vs, as, ps => (∃ d as', as = .fz d :: as' ∧ Rp K yes S d v ∧ AgsOk S H vs as' ps) ∨
      (∃ d as' p ps', as = .io d :: as' ∧ ps = p :: ps' ∧ v = .ref p ∧ S p = none ∧ MuAt K yes S H p d ∧ AgsOk S H vs as' ps')
def OutsOk (S H : Hp) : List Addr → List D → Prop
  | [], ds => ds = []
  | p :: ps, ds => ∃ d ds', ds = d :: ds' ∧ S p = none ∧ MuAt K yes S H p d ∧ OutsOk S H ps ds'
def FzR (S S' : Hp) (d : D) (v : V) : Fl → Prop
  | .own => Rp K (fun a => S a = none) S' d v
  | .top => Rp K yes S' d v ∧ Top (fun a => S a = none) d v
  | _ => Rp K yes S' d v
def Behind (S H S' H' : Hp) (ps : List Addr) : Prop := Ex S S' ∧ Ex S' H' ∧ (∀ a, S' a ≠ none → S a = none → H a = none) ∧ (∀ a o, H a = some o → a ∉ ps → H' a = some o)
def spF (F : Fn) : Sp := fun vs H Q E => ∃ S as ps, AgsOk K S H vs as ps ∧ ps.Nodup ∧ Ex S H ∧
  match F as with
  | .ok r => ∀ v S' H', Behind S H S' H' ps → OutsOk K S' H' ps r.2 → FzR K S S' r.1.2 v r.1.1 → Q v H'
  | .exc c fs => ps = [] ∧ ∀ S' H' dx xs, Behind S H S' H' [] → H' dx = some (.xd xs) → RpF K yes S' fs xs → E (.ref (He.ga K c)) (some dx) H'
  | .bad => False
end

section
variable {K : PySem.W.Frag} {g : Gho} {S S' H H' : Hp} {σr σr' : L2.St} {σ σ' σ0 : List Sv} {W : WX} {Dn : Ends}
theorem AgsOk.len : ∀ {vs : List V} {as : List Ag} {ps : List Addr}, AgsOk K S H vs as ps → vs.length = as.length
  | [], _, _, h => by rw [h.1]; rfl
  | v :: vs, _, _, h => by
    rcases h with ⟨d, as', e, _, h⟩ | ⟨d, as', p, ps', e, _, _, _, _, h⟩
    · rw [e, List.length_cons, List.length_cons, AgsOk.len h]
    · rw [e, List.length_cons, List.length_cons, AgsOk.len h]
/-- the lists that are changed, by their places -/
def ioOf : Nat → List Ag → List Addr → List (Nat × Addr)
  | i, .fz _ :: as, ps => ioOf (i + 1) as ps
  | i, .io _ :: as, p :: ps => (i, p) :: ioOf (i + 1) as ps
  | _, _, _ => []
theorem ioOf_ge : ∀ {as : List Ag} {ps : List Addr} {i j : Nat} {p : Addr}, (j, p) ∈ ioOf i as ps → i ≤ j ∧ p ∈ ps
  | .fz _ :: as, ps, i, j, p, h => by
    have := ioOf_ge (as := as) (ps := ps) (i := i + 1) h
    exact ⟨by omega, this.2⟩
  | .io _ :: as, q :: ps, i, j, p, h => by
    rcases List.mem_cons.mp h with e | h
    · cases e
      exact ⟨Nat.le_refl _, List.mem_cons_self ..⟩
    · have := ioOf_ge (as := as) (ps := ps) (i := i + 1) h
      exact ⟨by omega, List.mem_cons_of_mem _ this.2⟩
  | [], _, _, _, _, h => by cases h
  | .io _ :: _, [], _, _, _, h => by cases h
theorem ioOf_one : ∀ {as : List Ag} {ps : List Addr} {i j : Nat} {p q : Addr}, (j, p) ∈ ioOf i as ps → (j, q) ∈ ioOf i as ps → p = q
  | .fz _ :: as, ps, i, j, p, q, h, k => ioOf_one (as := as) (ps := ps) (i := i + 1) h k
  | .io _ :: as, r :: ps, i, j, p, q, h, k => by
    rcases List.mem_cons.mp h with e | h
    · cases e
      rcases List.mem_cons.mp k with e | k
      · cases e; rfl
      · have := (ioOf_ge k).1
        omega
    · rcases List.mem_cons.mp k with e | k
      · cases e
        have := (ioOf_ge h).1
        omega
      · exact ioOf_one (as := as) (ps := ps) (i := i + 1) h k
  | [], _, _, _, _, _, h, _ => by cases h
  | .io _ :: _, [], _, _, _, _, h, _ => by cases h
theorem ioOf_inj : ∀ {as : List Ag} {ps : List Addr} {i j k : Nat} {p : Addr}, ps.Nodup → (j, p) ∈ ioOf i as ps → (k, p) ∈ ioOf i as ps → j = k
  | .fz _ :: as, ps, i, j, k, p, n, h, l => ioOf_inj (as := as) (ps := ps) (i := i + 1) n h l
  | .io _ :: as, r :: ps, i, j, k, p, n, h, l => by
    obtain ⟨n1, n2⟩ := List.nodup_cons.mp n
    rcases List.mem_cons.mp h with e | h
    · cases e
      rcases List.mem_cons.mp l with e | l
      · cases e; rfl
      · exact absurd (ioOf_ge l).2 n1
    · rcases List.mem_cons.mp l with e | l
      · cases e
        exact absurd (ioOf_ge h).2 n1
      · exact ioOf_inj (as := as) (ps := ps) (i := i + 1) n2 h l
  | [], _, _, _, _, _, _, h, _ => by cases h
  | .io _ :: _, [], _, _, _, _, _, h, _ => by cases h
theorem AgsOk.at : ∀ {vs : List V} {as : List Ag} {ps : List Addr} {i j : Nat} {a : Ag}, AgsOk K S H vs as ps → as[j]? = some a → ∃ v, vs[j]? = some v ∧
    ((∃ d, a = .fz d ∧ Rp K yes S d v) ∨ ∃ d p, a = .io d ∧ v = .ref p ∧ (i + j, p) ∈ ioOf i as ps ∧ S p = none ∧ MuAt K yes S H p d)
  | [], _, _, i, j, a, h, e => by rw [h.1] at e; cases e
  | v :: vs, _, ps, i, j, a, h, e => by
    rcases h with ⟨d, as', e1, h1, h⟩ | ⟨d, as', p, ps', e1, e2, e3, h1, h2, h⟩
    · subst e1
      cases j with
      | zero =>
        cases e
        exact ⟨v, rfl, .inl ⟨d, rfl, h1⟩⟩
      | succ j =>
        obtain ⟨u, k1, k2⟩ := AgsOk.at (i := i + 1) h (show as'[j]? = some a from e)
        refine ⟨u, k1, ?_⟩
        rcases k2 with k2 | ⟨d', p, k3, k4, k5, k6⟩
        · exact .inl k2
        · exact .inr ⟨d', p, k3, k4, by rw [show i + (j + 1) = i + 1 + j by omega]; exact k5, k6⟩
    · subst e1 e2
      cases j with
      | zero =>
        cases e
        exact ⟨v, rfl, .inr ⟨d, p, rfl, e3, List.mem_cons_self .., h1, h2⟩⟩
      | succ j =>
        obtain ⟨u, k1, k2⟩ := AgsOk.at (i := i + 1) h (show as'[j]? = some a from e)
        refine ⟨u, k1, ?_⟩
        rcases k2 with k2 | ⟨d', p', k3, k4, k5, k6⟩
        · exact .inl k2
        · exact .inr ⟨d', p', k3, k4, by rw [show i + (j + 1) = i + 1 + j by omega]; exact List.mem_cons_of_mem _ k5, k6⟩
theorem entry_get {n : Nat} {as : List Ag} (h : as.length ≤ n) (i : Nat) : (entry n as)[i]? = if i < as.length then as[i]?.map Ag.slot else if i < n then some .und else none := by
  unfold entry
  by_cases e : i < as.length
  · rw [if_pos e, List.getElem?_append_left (by rw [List.length_map]; exact e), List.getElem?_map]
  · rw [if_neg e, List.getElem?_append_right (by rw [List.length_map]; omega), List.length_map, List.getElem?_replicate]
    by_cases e2 : i < n
    · rw [if_pos e2, if_pos (by omega)]
    · rw [if_neg e2, if_neg (by omega)]
theorem start_get {N : List Str} {vs : List V} (i : Nat) (h : i < vs.length) : (L2.start N vs)[i]? = some vs[i]? := by
  unfold L2.start
  rw [List.getElem?_append_left (by rw [List.length_map]; exact h), List.getElem?_map, List.getElem?_eq_getElem h]
  rfl
theorem outs_ok {g : Gho} : ∀ {as : List Ag} {σ1 : List Sv} {ps : List Addr} {l : List D} {vs : List V} {S0 H0 : Hp} (k : Nat), AgsOk K S0 H0 vs as ps → outs as σ1 = some l →
    (∀ i s, σ1[i]? = some s → SlotOk K g S H (k + i) σr[k + i]? s) → (∀ j p, (j, p) ∈ ioOf k as ps → ∀ q, (j, q) ∈ g.io → q = p) → OutsOk K S H ps l
  | [], σ1, ps, l, vs, S0, H0, k, h, e, hs, hio => by
    cases vs with
    | nil =>
      rw [h.2]
      cases e
      exact rfl
    | cons v vs =>
      rcases h with ⟨_, _, z, _⟩ | ⟨_, _, _, _, z, _⟩ <;> cases z
  | .fz d :: as, [], ps, l, vs, S0, H0, k, h, e, hs, hio => by cases e
  | .fz d :: as, s :: σ1, ps, l, vs, S0, H0, k, h, e, hs, hio => by
    cases vs with
    | nil => cases h.1
    | cons v vs =>
      rcases h with ⟨d', as', z, _, h⟩ | ⟨_, _, _, _, z, _⟩
      · cases z
        exact outs_ok (k + 1) h (show outs as σ1 = some l from e) (fun i s hi => by
          have := hs (i + 1) s hi
          rw [show k + (i + 1) = k + 1 + i by omega] at this
          exact this) hio
      · cases z
  | .io d :: as, [], ps, l, vs, S0, H0, k, h, e, hs, hio => by cases e
  | .io d :: as, s :: σ1, ps, l, vs, S0, H0, k, h, e, hs, hio => by
    cases vs with
    | nil => cases h.1
    | cons v vs =>
      rcases h with ⟨_, _, z, _⟩ | ⟨d', as', p, ps', z, z2, z3, h1, h2, h⟩
      · cases z
      · cases z
        subst z2
        cases s with
        | und => cases e
        | fz f d => cases e
        | mu o d => cases e
        | io d2 =>
          have e' : ((outs as σ1).map fun l => d2 :: l) = some l := e
          cases q : outs as σ1 with
          | none => rw [q] at e'; cases e'
          | some l' =>
            rw [q] at e'
            cases e'
            have h0 := hs 0 (.io d2) rfl
            obtain ⟨p', _, a, _, c, m⟩ := h0
            have ep : p' = p := hio k p (List.mem_cons_self ..) p' c
            subst ep
            refine ⟨d2, l', rfl, a, m, ?_⟩
            exact outs_ok (k + 1) h q (fun i s hi => by
              have := hs (i + 1) s hi
              rw [show k + (i + 1) = k + 1 + i by omega] at this
              exact this) fun j q hj => hio j q (List.mem_cons_of_mem _ hj)
/-- THE BODY: a def whose body's mirror is mb keeps the promise of runF n mb -/
theorem body_ok {N : List Str} {mb : Sm} {t : TS} {vs : List V} {Q : VK} {E : XK} (hb : RefS K (fun c d _ H => E c d H) t mb) (h : spF K (runF N.length mb) vs H Q E) (hlen : vs.length ≤ N.length) :
    t { nx := fun _ H' => Q .non H', rt := Q } (L2.start N vs) H := by
  obtain ⟨S, as, ps, ha, hn, hSH, h⟩ := h
  have hl := ha.len
  have hal : as.length ≤ N.length := by omega
  let g : Gho := { B := fun a => if a ∈ ps then none else H a, S0 := S, Se := S, io := ioOf 0 as ps }
  have hps : ∀ p ∈ ps, g.B p = none := fun p hp => if_pos hp
  have mem : ∀ {j p}, (j, p) ∈ ioOf 0 as ps → p ∈ ps := fun hj => (ioOf_ge hj).2
  have elen : (entry N.length as).length = N.length := by
    unfold entry
    rw [List.length_append, List.length_map, List.length_replicate]
    omega
  have slen : (L2.start N vs).length = N.length := by
    unfold L2.start
    rw [List.length_append, List.length_map, List.length_replicate]
    omega
  have slots : ∀ i s, (entry N.length as)[i]? = some s → SlotOk K g S H i (L2.start N vs)[i]? s := fun i s hs => by
    rw [entry_get hal] at hs
    by_cases hi : i < as.length
    · rw [if_pos hi] at hs
      rw [start_get i (by omega)]
      obtain ⟨v, k1, k2⟩ := ha.at (i := 0) (j := i) (List.getElem?_eq_getElem hi)
      rw [List.getElem?_eq_getElem hi] at hs
      have hs' : (as[i]).slot = s := Option.some.inj hs
      rw [k1]
      rcases k2 with ⟨d, e1, hr⟩ | ⟨d, p, e1, e2, e3, e4, e5⟩
      · rw [e1] at hs'
        subst hs'
        exact ⟨v, rfl, hr⟩
      · rw [e1] at hs'
        subst hs'
        subst e2
        rw [Nat.zero_add] at e3
        exact ⟨p, rfl, e4, hps p (mem e3), e3, e5⟩
    · rw [if_neg hi] at hs
      split at hs
      · cases hs
        trivial
      · cases hs
  have rel : Rel K g S H (L2.start N vs) (entry N.length as) := by
    refine ⟨by rw [slen, elen], Ex.refl S, Ex.refl S, hSH, fun a o ho => ?_, fun a h1 h2 => absurd h2 h1, slots, fun i j p hi hj => ?_⟩
    · have ho' : (if a ∈ ps then none else H a) = some o := ho
      split at ho'
      · cases ho'
      · exact ho'
    · obtain ⟨s, a1, a2, a3⟩ := hi
      obtain ⟨s', b1, b2, b3⟩ := hj
      have q1 := slots i s a1
      have q2 := slots j s' b1
      rw [entry_get hal] at a1 b1
      have noMu : ∀ {i : Nat} {s : Sv}, (if i < as.length then as[i]?.map Ag.slot else if i < N.length then some Sv.und else none) = some s → ∀ {o d}, s ≠ .mu o d := fun {i s} h {o d} e => by
        subst e
        split at h
        · rename_i hi
          rw [List.getElem?_eq_getElem hi] at h
          have h' : (as[i]).slot = .mu o d := Option.some.inj h
          cases z : as[i] with
          | fz d' => rw [z] at h'; cases h'
          | io d' => rw [z] at h'; cases h'
        · split at h <;> cases h
      cases s with
      | und => cases a2
      | fz f d => cases a2
      | mu o d => exact absurd rfl (noMu a1)
      | io d =>
        cases s' with
        | und => cases b2
        | fz f d => cases b2
        | mu o d => exact absurd rfl (noMu b1)
        | io d' =>
          obtain ⟨p1, e1, _, _, m1, _⟩ := q1
          obtain ⟨p2, e2, _, _, m2, _⟩ := q2
          rw [a3] at e1
          rw [b3] at e2
          cases e1
          cases e2
          exact ioOf_inj hn m1 m2
  have beh : ∀ {S' H' σr' σ' l}, Ex S S' → Rel K g S' H' σr' σ' → outs as σ' = some l → OutsOk K S' H' ps l ∧ Behind S H S' H' ps := fun {S' H' σr' σ' l} e r' ho => by
    have oo : OutsOk K S' H' ps l := outs_ok (σr := σr') (g := g) 0 ha ho (fun i s hi => by rw [Nat.zero_add]; exact r'.slot i s hi) fun j p hj q hq => ioOf_one hq hj
    refine ⟨oo, e, r'.sH, fun a h1 h2 => ?_, fun a o h1 h2 => ?_⟩
    · by_cases hp : a ∈ ps
      · exfalso
        have go : ∀ {ps : List Addr} {l : List D}, OutsOk K S' H' ps l → a ∈ ps → S' a = none := by
          intro ps
          induction ps with
          | nil => intro l _ z; cases z
          | cons p ps ih =>
            intro l h z
            obtain ⟨d, ds', _, a1, _, a3⟩ := h
            rcases List.mem_cons.mp z with z | z
            · rw [z]; exact a1
            · exact ih a3 z
        exact h1 (go oo hp)
      · have := r'.fresh a h1 h2
        have q : (if a ∈ ps then none else H a) = none := this
        rw [if_neg hp] at q
        exact q
    · refine r'.bH a o ?_
      show (if a ∈ ps then none else H a) = some o
      rw [if_neg h2]
      exact h1
  refine hb g S H _ _ _ rel ?_
  unfold runF at h
  cases q : mb (entry N.length as) with
  | bad =>
    rw [q] at h
    exact h.elim
  | exc c fs =>
    rw [q] at h
    obtain ⟨e1, h⟩ := h
    subst e1
    intro σr' S' H' σ' dx xs e r' hx hf
    refine h S' H' dx xs ⟨e, r'.sH, fun a h1 h2 => ?_, fun a o h1 _ => ?_⟩ hx hf
    · have := r'.fresh a h1 h2
      have q : (if a ∈ ([] : List Addr) then none else H a) = none := this
      rw [if_neg (fun z => nomatch z)] at q
      exact q
    · refine r'.bH a o ?_
      show (if a ∈ ([] : List Addr) then none else H a) = some o
      rw [if_neg (fun z => nomatch z)]
      exact h1
  | ok p =>
    obtain ⟨f, σ1⟩ := p
    rw [q] at h
    cases f with
    | brk => exact h.elim
    | cont => exact h.elim
    | next =>
      have h' : (match (match outs as σ1 with | some l => (R.ok (((Fl.own, D.non), l) : (Fl × D) × List D)) | none => .bad) with
        | .ok r => ∀ v S' H', Behind S H S' H' ps → OutsOk K S' H' ps r.2 → FzR K S S' r.1.2 v r.1.1 → Q v H'
        | .exc c fs => ps = [] ∧ ∀ S' H' dx xs, Behind S H S' H' [] → H' dx = some (.xd xs) → RpF K yes S' fs xs → E (.ref (He.ga K c)) (some dx) H'
        | .bad => False) := h
      cases ho : outs as σ1 with
      | none =>
        rw [ho] at h'
        exact h'.elim
      | some l =>
        rw [ho] at h'
        intro σr' S' H' e r'
        obtain ⟨k1, k2⟩ := beh e r' ho
        exact h' .non S' H' k2 k1 rfl
    | ret f d =>
      have h' : (match (match outs as σ1 with | some l => (R.ok (((f, d), l) : (Fl × D) × List D)) | none => .bad) with
        | .ok r => ∀ v S' H', Behind S H S' H' ps → OutsOk K S' H' ps r.2 → FzR K S S' r.1.2 v r.1.1 → Q v H'
        | .exc c fs => ps = [] ∧ ∀ S' H' dx xs, Behind S H S' H' [] → H' dx = some (.xd xs) → RpF K yes S' fs xs → E (.ref (He.ga K c)) (some dx) H'
        | .bad => False) := h
      cases ho : outs as σ1 with
      | none =>
        rw [ho] at h'
        exact h'.elim
      | some l =>
        rw [ho] at h'
        intro v σr' S' H' e r' hv
        obtain ⟨k1, k2⟩ := beh e r' ho
        refine h' v S' H' k2 k1 ?_
        cases f with
        | any => exact hv
        | top => exact hv
        | own => exact hv
        | old => exact Rp.mono yes_of e hv

/-! ### a call -/
theorem nodupB_ok : ∀ {is : List Nat}, nodupB is = true → is.Nodup
  | [], _ => List.Pairwise.nil
  | i :: is, h => by
    unfold nodupB at h
    rw [Bool.and_eq_true] at h
    refine List.nodup_cons.mpr ⟨fun z => ?_, nodupB_ok h.2⟩
    have : is.contains i = true := List.contains_iff_mem.mpr z
    rw [this] at h
    cases h.1
/-- the arguments: data, and lists that may be changed, by the slots is, at ps -/
theorem ags_ok (r : Rel K g S H σr σ) : ∀ {es : List Ev} {vs : List V} {as : List Ag} {is : List Nat}, EvsOk K g S σr vs es → ags es σ = some (as, is) → is.Nodup →
    ∃ ps, AgsOk K S H vs as ps ∧ ps.length = is.length ∧ (∀ (k : Nat) i p, is[k]? = some i → ps[k]? = some p → MuP σr σ i p) ∧ ps.Nodup
  | [], vs, as, is, h, e, hn => by
    cases e
    cases vs with
    | nil => exact ⟨[], ⟨rfl, rfl⟩, rfl, fun k i p z => (by cases z), List.Pairwise.nil⟩
    | cons v vs =>
      obtain ⟨_, _, z, _⟩ := h
      cases z
  | .val f d :: es, vs, as, is, h, e, hn => by
    unfold ags at e
    cases q : ags es σ with
    | none => rw [q] at e; cases e
    | some p =>
      rw [q] at e
      cases e
      cases vs with
      | nil => cases (show Ev.val f d :: es = [] from h)
      | cons v vs =>
        obtain ⟨e1, es', z, h1, h2⟩ := h
        cases z
        obtain ⟨ps, k1, k2, k3, k4⟩ := ags_ok r h2 q hn
        exact ⟨ps, .inl ⟨d, p.1, rfl, FzOk.any r.seS h1, k1⟩, k2, k3, k4⟩
  | .view i :: es, vs, as, is, h, e, hn => by
    cases vs with
    | nil => cases (show Ev.view i :: es = [] from h)
    | cons v vs =>
      obtain ⟨e1, es', z, h1, h2⟩ := h
      cases z
      have hv : σr[i]? = some (some v) := h1
      have fin : ∀ {d p as' is'}, v = .ref p → ags es σ = some (as', is') → S p = none → MuAt K yes S H p d → MuP σr σ i p → as = .io d :: as' → is = i :: is' →
          ∃ ps, AgsOk K S H (v :: vs) as ps ∧ ps.length = is.length ∧ (∀ (k : Nat) i p, is[k]? = some i → ps[k]? = some p → MuP σr σ i p) ∧ ps.Nodup := fun {d p as' is'} ev q n1 m1 mp e1 e2 => by
        subst e1 e2 ev
        obtain ⟨nn1, nn2⟩ := List.nodup_cons.mp hn
        obtain ⟨ps, k1, k2, k3, k4⟩ := ags_ok r h2 q nn2
        refine ⟨p :: ps, .inr ⟨d, as', p, ps, rfl, rfl, rfl, n1, m1, k1⟩, by rw [List.length_cons, List.length_cons, k2], fun k j q z1 z2 => ?_, List.nodup_cons.mpr ⟨fun z => ?_, k4⟩⟩
        · cases k with
          | zero => cases z1; cases z2; exact mp
          | succ k => exact k3 k j q z1 z2
        · obtain ⟨k, hk⟩ := List.getElem?_of_mem z
          have hlt : k < is'.length := by rw [← k2]; exact (List.getElem?_eq_some_iff.mp hk).1
          have hm := k3 k is'[k] p (List.getElem?_eq_getElem hlt) hk
          have := r.inj _ _ _ mp hm
          exact nn1 (by rw [this]; exact List.getElem_mem hlt)
      unfold ags at e
      cases hs : σ[i]? with
      | none => simp only [hs] at e; cases e
      | some s =>
        have sl := r.slot i s hs
        rw [hv] at sl
        simp only [hs] at e
        cases s with
        | und => cases e
        | fz f d => cases e
        | mu o d =>
          obtain ⟨p, e1, a, b, c⟩ := sl
          cases e1
          cases q : ags es σ with
          | none => rw [q] at e; cases e
          | some p2 =>
            rw [q] at e
            cases e
            have m1 : MuAt K yes S H p d := by
              cases d <;> first | exact c.elim | (obtain ⟨xs, h1, h2⟩ := c; refine ⟨xs, h1, ?_⟩; first | exact RpL.mono yes_of (Ex.refl _) h2 | exact RpK.mono yes_of (Ex.refl _) h2 | exact RpT.mono yes_of (Ex.refl _) h2) | (obtain ⟨dx, xs, h1, h2, h3⟩ := c; exact ⟨dx, xs, h1, h2, RpF.mono yes_of (Ex.refl _) h3⟩)
            exact fin (d := d) (p := p) (as' := p2.1) (is' := p2.2) rfl q a m1 ⟨_, hs, rfl, hv⟩ rfl rfl
        | io d =>
          obtain ⟨p, e1, a, b, x, c⟩ := sl
          cases e1
          cases q : ags es σ with
          | none => rw [q] at e; cases e
          | some p2 =>
            rw [q] at e
            cases e
            exact fin (d := d) (p := p) (as' := p2.1) (is' := p2.2) rfl q a c ⟨_, hs, rfl, hv⟩ rfl rfl
/-- behind a call: the lists that were changed stand as told -/
theorem Rel.called : ∀ {is : List Nat} {ps : List Addr} {l : List D} {σ : List Sv}, Rel K g S H σr σ → ps.length = is.length → (∀ (k : Nat) i p, is[k]? = some i → ps[k]? = some p → MuP σr σ i p) → is.Nodup → ps.Nodup →
    Behind S H S' H' ps → OutsOk K S' H' ps l → Rel K g S' H' σr (putOuts is l σ)
  := by
  intro is ps l σ r hl hm hn1 hn2 hb ho
  obtain ⟨b1, b2, b3, b4⟩ := hb
  have hB : ∀ p ∈ ps, g.B p = none := fun p z => by
    obtain ⟨k, hk⟩ := List.getElem?_of_mem z
    have hlt : k < is.length := by rw [← hl]; exact (List.getElem?_eq_some_iff.mp hk).1
    exact (r.muP (hm k is[k] p (List.getElem?_eq_getElem hlt) hk)).2.1
  have main : ∀ {is : List Nat} {ps : List Addr} {l : List D} {σ1 : List Sv}, ps.length = is.length → is.Nodup → OutsOk K S' H' ps l →
      (σ1.length = σ.length) → (∀ (i : Nat), i ∉ is → ∀ (s : Sv), σ1[i]? = some s → SlotOk K g S' H' i σr[i]? s) → (∀ (k : Nat) i p, is[k]? = some i → ps[k]? = some p → σ1[i]? = σ[i]? ∧ MuP σr σ i p) →
      (∀ (i : Nat) (s : Sv), σ1[i]? = some s → s.isMu = true → ∃ s' : Sv, σ[i]? = some s' ∧ s'.isMu = true) → Rel K g S' H' σr (putOuts is l σ1) := by
    intro is
    induction is with
    | nil =>
      intro ps l σ1 hl hn ho hlen hsl hmm hmu
      have e : putOuts [] l σ1 = σ1 := by cases l <;> rfl
      rw [e]
      refine ⟨by rw [hlen, r.len], r.s0e, r.seS.trans b1, b2, fun a o h => ?_, fun a h1 h2 => ?_, fun i s hs => hsl i (fun z => nomatch z) s hs, fun i j p hi hj => ?_⟩
      · exact b4 a o (r.bH a o h) fun z => by
          rw [hB a z] at h
          cases h
      · by_cases h3 : S a = none
        · exact r.bH.back (b3 a h1 h3)
        · exact r.fresh a h3 h2
      · have go : ∀ c, MuP σr σ1 c p → MuP σr σ c p := fun c ⟨s, a1, a2, a3⟩ => by
          obtain ⟨s', c1, c2⟩ := hmu c s a1 a2
          exact ⟨s', c1, c2, a3⟩
        exact r.inj i j p (go i hi) (go j hj)
    | cons i is ih =>
      intro ps l σ1 hl hn ho hlen hsl hmm hmu
      cases ps with
      | nil => cases hl
      | cons p ps =>
        obtain ⟨d, ds', e, a1, a2, a3⟩ := ho
        subst e
        obtain ⟨n1, n2⟩ := List.nodup_cons.mp hn
        obtain ⟨m1, m2⟩ := hmm 0 i p rfl rfl
        have e : putOuts (i :: is) (d :: ds') σ1 = putOuts is ds' (σ1.set i (reS (σ1.getD i .und) d)) := rfl
        rw [e]
        refine ih (by simpa using hl) n2 a3 (by rw [List.length_set, hlen]) (fun j hj s hs => ?_) (fun k j q z1 z2 => ?_) (fun j s hs hmu2 => ?_)
        · by_cases eij : i = j
          · subst eij
            obtain ⟨s', c1, c2, c3⟩ := m2
            have hi : i < σ1.length := by rw [hlen]; exact (List.getElem?_eq_some_iff.mp c1).1
            rw [List.getElem?_set_self hi] at hs
            have eg : σ1.getD i .und = s' := by
              rw [List.getD_eq_getElem?_getD, m1, c1]
              rfl
            rw [eg] at hs
            have sl := r.slot i s' c1
            rw [c3] at sl ⊢
            cases s' with
            | und => cases c2
            | fz f d => cases c2
            | mu o d' =>
              cases hs
              obtain ⟨p', e1, _, b, _⟩ := sl
              cases e1
              refine ⟨p, rfl, a1, b, ?_⟩
              unfold gdO
              split
              · rename_i z
                cases d with
                | lst ds =>
                  obtain ⟨xs, x1, x2⟩ := a2
                  exact ⟨xs, x1, RpL.imm z x2⟩
                | dic ds =>
                  obtain ⟨xs, x1, x2⟩ := a2
                  exact ⟨xs, x1, RpK.imm z x2⟩
                | dit ds =>
                  obtain ⟨xs, x1, x2⟩ := a2
                  exact ⟨xs, x1, RpT.imm z x2⟩
                | ins c fs => cases z
                | _ => exact a2.elim
              · exact a2
            | io d' =>
              cases hs
              obtain ⟨p', e1, _, b, x, _⟩ := sl
              cases e1
              exact ⟨p, rfl, a1, b, x, a2⟩
          · rw [List.getElem?_set_ne eij] at hs
            exact hsl j (fun z => (List.mem_cons.mp z).elim (fun z => eij z.symm) hj) s hs
        · have nij : i ≠ j := fun z => n1 (by rw [z]; exact List.mem_of_getElem? z1)
          obtain ⟨c1, c2⟩ := hmm (k + 1) j q z1 z2
          exact ⟨by rw [List.getElem?_set_ne nij]; exact c1, c2⟩
        · by_cases eij : i = j
          · subst eij
            obtain ⟨s', c1, c2, _⟩ := m2
            exact ⟨s', c1, c2⟩
          · rw [List.getElem?_set_ne eij] at hs
            exact hmu j s hs hmu2
  refine main hl hn1 ho rfl (fun i hi s hs => ?_) (fun k i p z1 z2 => ⟨rfl, hm k i p z1 z2⟩) (fun i s hs hmu => ⟨s, hs, hmu⟩)
  have q := r.slot i s hs
  have away : ∀ {p : Addr}, MuP σr σ i p → p ∉ ps := fun {p} hp z => by
    obtain ⟨k, hk⟩ := List.getElem?_of_mem z
    have hlt : k < is.length := by rw [← hl]; exact (List.getElem?_eq_some_iff.mp hk).1
    have := r.inj _ _ _ hp (hm k is[k] p (List.getElem?_eq_getElem hlt) hk)
    exact hi (by rw [this]; exact List.getElem_mem hlt)
  have stay : ∀ {p : Addr}, MuP σr σ i p → S' p = none ∧ H' p = H p := fun {p} hp => by
    obtain ⟨c1, c2, c3⟩ := r.muP hp
    refine ⟨?_, ?_⟩
    · cases z : S' p with
      | none => rfl
      | some o => exact absurd (b3 p (by rw [z]; exact fun x => nomatch x) c1) c3
    · cases z : H p with
      | none => exact absurd z c3
      | some o => exact b4 p o z (away hp)
  cases s with
  | und => trivial
  | fz f d =>
    obtain ⟨v, e, h⟩ := q
    exact ⟨v, e, h.mono b1⟩
  | mu o d =>
    obtain ⟨p, e, a, b, c⟩ := q
    obtain ⟨s1, s2⟩ := stay ⟨_, hs, rfl, e⟩
    exact ⟨p, e, s1, b, c.mono b1 s2⟩
  | io d =>
    obtain ⟨p, e, a, b, x, c⟩ := q
    obtain ⟨s1, s2⟩ := stay ⟨_, hs, rfl, e⟩
    exact ⟨p, e, s1, b, x, c.mono b1 s2⟩
theorem FzR.fz {f : Fl} {d : D} {v : V} (hse : Ex g.Se S) (h : FzR K S S' d v f) : FzOk K g S' d v (flOut f) := by
  have nu : ∀ a, S a = none → g.nu a := fun a h => hse.back h
  cases f with
  | any => exact h
  | old => exact h
  | own => exact Rp.mono nu (Ex.refl _) h
  | top =>
    obtain ⟨h1, h2⟩ := h
    refine ⟨h1, ?_⟩
    cases d <;> first | trivial | (obtain ⟨a, e, x⟩ := h2; exact ⟨a, e, nu a x⟩)
theorem re_call {ta : TA} {ma : M (List Ev)} {F : Fn} (ha : RefA K W ta ma) : RefE K W (tCallS (spF K F) (WE W) ta) (eCall F ma) := by
  intro g S H σr σ Q r h
  refine ha g S H σr σ _ r ((Res.bindM h).imp fun es σ1 S1 H1 x1 r1 h1 => fun vs hvs => ?_)
  cases q : ags es σ1 with
  | none =>
    simp only [q] at h1
    exact h1.elim
  | some p =>
    obtain ⟨as, is⟩ := p
    simp only [q] at h1
    by_cases hn : nodupB is = true
    case neg =>
      rw [if_neg hn] at h1
      exact h1.elim
    rw [if_pos hn] at h1
    obtain ⟨ps, k1, k2, k3, k4⟩ := ags_ok r1 hvs q (nodupB_ok hn)
    refine ⟨S1, as, ps, k1, k4, r1.sH, ?_⟩
    cases hF : F as with
    | bad =>
      simp only [hF] at h1
      exact h1.elim
    | exc c fs =>
      simp only [hF] at h1
      by_cases hi : is.isEmpty = true
      case neg =>
        rw [if_neg hi] at h1
        exact h1.elim
      rw [if_pos hi] at h1
      have ei : is = [] := List.isEmpty_iff.mp hi
      subst ei
      have ep : ps = [] := List.eq_nil_of_length_eq_zero k2
      subst ep
      refine ⟨rfl, fun S' H' dx xs hb hx hf => ?_⟩
      have r2 : Rel K g S' H' σr (putOuts [] [] σ1) := Rel.called r1 rfl k3 (List.Pairwise.nil) k4 hb rfl
      exact h1 S' H' _ dx xs hb.1 r2 hx hf
    | ok p =>
      obtain ⟨⟨f, d⟩, l⟩ := p
      simp only [hF] at h1
      by_cases hl : l.length = is.length
      case neg =>
        rw [if_neg hl] at h1
        exact h1.elim
      rw [if_pos hl] at h1
      intro v S' H' hb ho hz
      have r2 : Rel K g S' H' σr (putOuts is l σ1) := Rel.called r1 k2 k3 (nodupB_ok hn) k4 hb ho
      exact h1 S' H' hb.1 r2 v (hz.fz r1.seS)
end
end Uw

set_option Elab.async false
set_option linter.all false
set_option maxRecDepth 100000
set_option maxHeartbeats 2000000
namespace Uw
open PySem PySem.Spec PyProof.Rows L2

/-! ### operations on data -/
def dI2 (c : Int → Int → Bool) (f : Int → Int → Int) : D → D → Option D
  | .int i, .int j => if c i j = true then some (.int (f i j)) else none
  | _, _ => none
def dC2 (f : Int → Int → Bool) : D → D → Option D
  | .int i, .int j => some (.bl (f i j))
  | _, _ => none
def dSub : D → D → Option D := dI2 (fun _ _ => true) fun i j => i - j
def small64 (i : Int) : Bool := decide (-(2 ^ 64) < i) && decide (i < 2 ^ 64)
def dMul : D → D → Option D := dI2 (fun i j => small64 i || small64 j) fun i j => i * j
def dMod : D → D → Option D := dI2 (fun _ j => decide (0 < j)) fun i j => i % j
def dDiv : D → D → Option D := dI2 (fun _ j => decide (0 < j) && decide (j < 1073741824)) fun i j => i / j
def dPow : D → D → Option D := dI2 (fun i j => decide (0 ≤ j) && decide (j ≤ 1000000) && decide (i.natAbs < 2 ^ 64)) fun i j => i ^ j.toNat
def dLt : D → D → Option D
  | .int i, .int j => some (.bl (decide (i < j)))
  | .str i, .str j => some (.bl (decide (i.cps.toList < j.cps.toList)))
  | _, _ => none
def dLe : D → D → Option D := dC2 fun i j => decide (i ≤ j)
def dGt : D → D → Option D := dC2 fun i j => decide (j < i)
def dGe : D → D → Option D := dC2 fun i j => decide (j ≤ i)
def dNeg : D → Option D
  | .int i => some (.int (-i))
  | _ => none
mutual
def py : D → Option PyData
  | .non => some .none
  | .bl b => some (.bool b)
  | .int i => some (.int i)
  | .str s => some (.str s)
  | .tup ds => (pyL ds).map .tuple
  | .lst ds => (pyL ds).map .list
  | .dic _ => none
  | .dit _ => none
  | .ins _ _ => none
  | .ty _ => none
  | .cls _ => none
  | .scr _ => none
def pyL : List D → Option (List PyData)
  | [] => some []
  | d :: ds => (py d).bind fun p => (pyL ds).map fun ps => p :: ps
end
def pyS (d : D) : Option PyData := (py d).bind fun p => if SeqAt.shaped p = true then some p else none
@[irreducible] def dEq (a b : D) : Option D := (pyS a).bind fun p => (pyS b).map fun q => .bl (PyData.eqv p q)
@[irreducible] def dNe (a b : D) : Option D := (pyS a).bind fun p => (pyS b).map fun q => .bl (!PyData.eqv p q)
def flatD : D → Bool
  | .non => true
  | .bl _ => true
  | .int _ => true
  | .str _ => true
  | _ => false
def dV : D → V
  | .bl b => .bl b
  | .int i => .int i
  | .str s => .str s
  | _ => .non
def inP (a b : D) : Option Bool := match b with
  | .lst ds => (pyS a).bind fun p => (pyS (.lst ds)).bind fun q => match q with
    | .list qs => some (qs.any fun z => PyData.eqv z p)
    | _ => none
  | .tup ds => if ds.all flatD = true ∧ flatD a = true then some (inV (dV a) (ds.map dV)) else none
  | .str z => match a with
    | .str s => (match s.cps.toList with
      | [c] => some (decide (c ∈ z.cps.toList))
      | _ => none)
    | _ => none
  | _ => none
@[irreducible] def dIn (a b : D) : Option D := (inP a b).map .bl
@[irreducible] def dNotIn (a b : D) : Option D := (inP a b).map fun x => .bl (!x)
def isNonD : D → Bool
  | .non => true
  | _ => false
def dIsN (a b : D) : Option D := match b with
  | .non => some (.bl (isNonD a))
  | .bl y => (match a with
    | .bl x => some (.bl (decide (x = y)))
    | _ => none)
  | _ => none
def dNotN (a b : D) : Option D := (dIsN a b).bind fun d => match d with
  | .bl x => some (.bl (!x))
  | _ => none
def dLen : List D → Option D
  | [.lst ds] => some (.int ds.length)
  | [.tup ds] => some (.int ds.length)
  | [.scr ns] => some (.int ns.length)
  | [.str s] => if sizeB s.length = true then some (.int s.length) else none
  | _ => none
def dAbs : List D → Option D
  | [.int i] => some (.int (if i < 0 then -i else i))
  | _ => none
def dInt : List D → Option D
  | [.int i] => some (.int i)
  | [.bl b] => some (.int (if b then 1 else 0))
  | _ => none
def blsOf : List D → Option (List Bool)
  | [] => some []
  | .bl b :: ds => (blsOf ds).map fun l => b :: l
  | _ :: _ => none
def intsOf : List D → Option (List Int)
  | [] => some []
  | .int b :: ds => (intsOf ds).map fun l => b :: l
  | _ :: _ => none
def strsOf : List D → Option (List Str)
  | [] => some []
  | .str b :: ds => (strsOf ds).map fun l => b :: l
  | _ :: _ => none
def dAll : List D → Option D
  | [.lst ds] => (blsOf ds).map fun l => .bl (l.all id)
  | _ => none
def dAny : List D → Option D
  | [.lst ds] => (blsOf ds).map fun l => .bl (l.any id)
  | _ => none
def dSum : List D → Option D
  | [.lst ds] => (intsOf ds).map fun l => .int l.sum
  | _ => none
def dList : List D → Option D
  | [.lst ds] => some (.lst ds)
  | [.tup ds] => some (.lst ds)
  | [.scr ns] => some (.lst (ns.map .int))
  | [.dic kvs] => some (.lst (kvs.map fun kv => match kv.1 with | .inl i => .int i | .inr s => .str s))
  | _ => none

section
variable {K : PySem.W.Frag} {g : Gho} {S S' H H' : Hp} {σr σr' : L2.St} {σ σ' σ0 : List Sv} {W : WX} {Dn : Ends}
/-! scalars -/
theorem tp_int {i : Int} {v : V} (h : Tp K S H (.int i) v) : v = .int i := h
theorem tp_bl {i : Bool} {v : V} (h : Tp K S H (.bl i) v) : v = .bl i := h
theorem tp_str {i : Str} {v : V} (h : Tp K S H (.str i) v) : v = .str i := h
theorem pure_I {C : Int → Int → Prop} {c : Int → Int → Bool} {f : Int → Int → Int} (hc : ∀ i j, c i j = true → C i j) : Pure2 K (rI C fun i j => .int (f i j)) (dI2 c f) := by
  intro S H a b x y d Q e ta tb hd k
  unfold dI2 at hd
  split at hd
  · split at hd
    · rename_i z
      cases hd
      exact ⟨_, _, tp_int ta, tp_int tb, hc _ _ z, k _ rfl⟩
    · cases hd
  · cases hd
theorem pure_I0 {f : Int → Int → Int} : Pure2 K (rI0 fun i j => .int (f i j)) (dI2 (fun _ _ => true) f) := by
  intro S H a b x y d Q e ta tb hd k
  unfold dI2 at hd
  split at hd
  · rw [if_pos rfl] at hd
    cases hd
    exact ⟨_, _, tp_int ta, tp_int tb, k _ rfl⟩
  · cases hd
theorem pure_C {f : Int → Int → Bool} : Pure2 K (rI0 fun i j => .bl (f i j)) (dC2 f) := by
  intro S H a b x y d Q e ta tb hd k
  unfold dC2 at hd
  split at hd
  · cases hd
    exact ⟨_, _, tp_int ta, tp_int tb, k _ rfl⟩
  · cases hd
theorem pure_sub : Pure2 K (rI0 fun i j => .int (i - j)) dSub := pure_I0
theorem small64_ok {i : Int} (h : small64 i = true) : -(2 ^ 64) < i ∧ i < 2 ^ 64 := by
  unfold small64 at h
  rw [Bool.and_eq_true, decide_eq_true_eq, decide_eq_true_eq] at h
  exact h
theorem pure_mul : Pure2 K (rI CMul fun i j => .int (i * j)) dMul := pure_I fun i j h => by
  rw [Bool.or_eq_true] at h
  rcases h with h | h
  · exact .inl (small64_ok h)
  · exact .inr (small64_ok h)
theorem pure_mod : Pure2 K (rI (fun _ j => 0 < j) fun i j => .int (i % j)) dMod := pure_I fun i j h => of_decide_eq_true h
theorem pure_div : Pure2 K (rI CDiv fun i j => .int (i / j)) dDiv := pure_I fun i j h => by
  rw [Bool.and_eq_true, decide_eq_true_eq, decide_eq_true_eq] at h
  exact h
theorem pure_pow : Pure2 K (rI CPow fun i j => .int (i ^ j.toNat)) dPow := pure_I fun i j h => by
  rw [Bool.and_eq_true, Bool.and_eq_true, decide_eq_true_eq, decide_eq_true_eq, decide_eq_true_eq] at h
  exact ⟨h.1.1, h.1.2, h.2⟩
/-- one of two readings -/
def rOr (r r' : R2) : R2 := fun x y H Q => r x y H Q ∨ r' x y H Q
theorem pure_lt : Pure2 K (rOr (rI0 fun i j => .bl (decide (i < j))) (fun x y H Q => ∃ i j, x = .str i ∧ y = .str j ∧ Q (.bl (decide (i.cps.toList < j.cps.toList))) H)) dLt := by
  intro S H a b x y d Q e ta tb hd k
  unfold dLt at hd
  split at hd
  · cases hd
    exact .inl ⟨_, _, tp_int ta, tp_int tb, k _ rfl⟩
  · cases hd
    exact .inr ⟨_, _, tp_str ta, tp_str tb, k _ rfl⟩
  · cases hd
theorem pure_le : Pure2 K (rI0 fun i j => .bl (decide (i ≤ j))) dLe := pure_C
theorem pure_gt : Pure2 K (rI0 fun i j => .bl (decide (j < i))) dGt := pure_C
theorem pure_ge : Pure2 K (rI0 fun i j => .bl (decide (j ≤ i))) dGe := pure_C
theorem pure_neg : Pure1 K (rU fun i => .int (-i)) dNeg := by
  intro S H a x d Q e ta hd k
  unfold dNeg at hd
  split at hd
  · cases hd
    exact ⟨_, tp_int ta, k _ rfl⟩
  · cases hd
/-! data -/
mutual
theorem Rp.dp {G : Addr → Prop} (e : Ex S H) : ∀ {d : D} {v : V} {p : PyData}, Rp K G S d v → py d = some p → Dp K H v p
  | .non, v, p, h, q => by unfold py at q; cases q; rw [show v = .non from h]; exact .non
  | .bl b, v, p, h, q => by unfold py at q; cases q; rw [show v = .bl b from h]; exact .bl b
  | .int b, v, p, h, q => by unfold py at q; cases q; rw [show v = .int b from h]; exact .int b
  | .str b, v, p, h, q => by unfold py at q; cases q; rw [show v = .str b from h]; exact .str b
  | .tup ds, v, p, h, q => by
    unfold py at q
    cases z : pyL ds with
    | none => rw [z] at q; cases q
    | some ps =>
      rw [z] at q
      cases q
      unfold Rp at h
      obtain ⟨a, xs, h1, h2, h3⟩ := h
      rw [h1]
      exact .tup (ex_t e h2) (RpL.dp e h3 z)
  | .lst ds, v, p, h, q => by
    unfold py at q
    cases z : pyL ds with
    | none => rw [z] at q; cases q
    | some ps =>
      rw [z] at q
      cases q
      unfold Rp at h
      obtain ⟨a, xs, h1, _, h2, h3⟩ := h
      rw [h1]
      exact .lst (sq_of (e _ _ h2)) (RpL.dp e h3 z)
  | .dic _, v, p, h, q => by unfold py at q; cases q
  | .dit _, v, p, h, q => by unfold py at q; cases q
  | .ins _ _, v, p, h, q => by unfold py at q; cases q
  | .ty _, v, p, h, q => by unfold py at q; cases q
  | .cls _, v, p, h, q => by unfold py at q; cases q
  | .scr _, v, p, h, q => by unfold py at q; cases q
theorem RpL.dp {G : Addr → Prop} (e : Ex S H) : ∀ {ds : List D} {vs : List V} {ps : List PyData}, RpL K G S ds vs → pyL ds = some ps → DpAll K H vs ps
  | [], vs, ps, h, q => by
    unfold pyL at q
    cases q
    unfold RpL at h
    rw [h]
    exact .nil
  | d :: ds, vs, ps, h, q => by
    unfold pyL at q
    cases z : py d with
    | none => rw [z] at q; cases q
    | some p1 =>
      rw [z] at q
      cases z2 : pyL ds with
      | none => rw [z2] at q; cases q
      | some ps1 =>
        rw [z2] at q
        cases q
        unfold RpL at h
        obtain ⟨v, vs', h1, h2, h3⟩ := h
        rw [h1]
        exact .cons (Rp.dp e h2 z) (RpL.dp e h3 z2)
end
theorem Tp.dp (e : Ex S H) {d : D} {v : V} {p : PyData} (h : Tp K S H d v) (q : py d = some p) : Dp K H v p := by
  cases d with
  | lst ds =>
    obtain ⟨a, xs, h1, h2, h3⟩ := h
    unfold py at q
    cases z : pyL ds with
    | none => rw [z] at q; cases q
    | some ps =>
      rw [z] at q
      cases q
      rw [h1]
      exact .lst (sq_of h2) (RpL.dp e h3 z)
  | dic ds => unfold py at q; cases q
  | dit ds => unfold py at q; cases q
  | ins c ds => unfold py at q; cases q
  | _ => exact Rp.dp (G := yes) e h q
theorem pyS_ok {d : D} {p : PyData} (h : pyS d = some p) : py d = some p ∧ SeqAt.shaped p = true := by
  unfold pyS at h
  cases q : py d with
  | none => rw [q] at h; cases h
  | some p' =>
    rw [q] at h
    have h' : (if SeqAt.shaped p' = true then some p' else none) = some p := h
    split at h'
    · rename_i z
      cases h'
      exact ⟨rfl, z⟩
    · cases h'
theorem pure_eq : Pure2 K (rEqD K) dEq := by
  intro S H a b x y d Q e ta tb hd k
  unfold dEq at hd
  cases qa : pyS a with
  | none => rw [qa] at hd; cases hd
  | some p =>
    rw [qa] at hd
    cases qb : pyS b with
    | none => rw [qb] at hd; cases hd
    | some q =>
      rw [qb] at hd
      cases hd
      obtain ⟨h1, h2⟩ := pyS_ok qa
      obtain ⟨h3, h4⟩ := pyS_ok qb
      exact ⟨p, q, ta.dp e h1, tb.dp e h3, h2, h4, k _ rfl⟩
theorem pure_ne : Pure2 K (rNeD K) dNe := by
  intro S H a b x y d Q e ta tb hd k
  unfold dNe at hd
  cases qa : pyS a with
  | none => rw [qa] at hd; cases hd
  | some p =>
    rw [qa] at hd
    cases qb : pyS b with
    | none => rw [qb] at hd; cases hd
    | some q =>
      rw [qb] at hd
      cases hd
      obtain ⟨h1, h2⟩ := pyS_ok qa
      obtain ⟨h3, h4⟩ := pyS_ok qb
      exact ⟨p, q, ta.dp e h1, tb.dp e h3, h2, h4, k _ rfl⟩
theorem rp_non {G : Addr → Prop} {d : D} {v : V} (h : Rp K G S d v) : isNonD d = decide (v = .non) := by
  cases d with
  | non => rw [show v = .non from h]; rfl
  | bl b => rw [show v = .bl b from h]; rfl
  | int b => rw [show v = .int b from h]; rfl
  | str b => rw [show v = .str b from h]; rfl
  | tup ds => unfold Rp at h; obtain ⟨a, xs, e, _⟩ := h; rw [e]; rfl
  | lst ds => unfold Rp at h; obtain ⟨a, xs, e, _⟩ := h; rw [e]; rfl
  | dic ds => unfold Rp at h; obtain ⟨a, xs, e, _⟩ := h; rw [e]; rfl
  | dit ds => unfold Rp at h; obtain ⟨a, xs, e, _⟩ := h; rw [e]; rfl
  | ins c ds => unfold Rp at h; obtain ⟨a, dx, xs, e, _⟩ := h; rw [e]; rfl
  | ty n => rw [show v = .ty n from h]; rfl
  | cls n => rw [show v = .ref _ from h]; rfl
  | scr n => unfold Rp at h; obtain ⟨a, e, _⟩ := h; rw [e]; rfl
theorem tp_non {d : D} {v : V} (h : Tp K S H d v) : isNonD d = decide (v = .non) := by
  cases d with
  | lst ds => obtain ⟨a, xs, e, _⟩ := h; rw [e]; rfl
  | dic ds => obtain ⟨a, xs, e, _⟩ := h; rw [e]; rfl
  | dit ds => obtain ⟨a, xs, e, _⟩ := h; rw [e]; rfl
  | ins c ds => obtain ⟨a, dx, xs, e, _⟩ := h; rw [e]; rfl
  | _ => exact rp_non (K := K) (S := S) (G := yes) h
abbrev rIsNon : R2 := fun x y H Q => y = .non ∧ Q (.bl (decide (x = .non))) H
abbrev rIsntNon : R2 := fun x y H Q => y = .non ∧ Q (.bl (!decide (x = .non))) H
abbrev rIsBl : R2 := fun x y H Q => ∃ a b, x = .bl a ∧ y = .bl b ∧ Q (.bl (decide (a = b))) H
abbrev rIsntBl : R2 := fun x y H Q => ∃ a b, x = .bl a ∧ y = .bl b ∧ Q (.bl (!decide (a = b))) H
theorem pure_is : Pure2 K (rOr rIsNon rIsBl) dIsN := by
  intro S H a b x y d Q e ta tb hd k
  unfold dIsN at hd
  split at hd
  · cases hd
    left
    refine ⟨tb, ?_⟩
    rw [← tp_non ta]
    exact k _ rfl
  · split at hd
    · cases hd
      exact .inr ⟨_, _, tp_bl ta, tp_bl tb, k _ rfl⟩
    · cases hd
  · cases hd
theorem pure_isnt : Pure2 K (rOr rIsntNon rIsntBl) dNotN := by
  intro S H a b x y d Q e ta tb hd k
  unfold dNotN dIsN at hd
  split at hd
  · cases hd
    left
    refine ⟨tb, ?_⟩
    rw [← tp_non ta]
    exact k _ rfl
  · split at hd
    · cases hd
      exact .inr ⟨_, _, tp_bl ta, tp_bl tb, k _ rfl⟩
    · cases hd
  · cases hd
/-! built-ins -/
theorem tpl1 {d : D} {vs : List V} (h : TpL K S H [d] vs) : ∃ v, vs = [v] ∧ Tp K S H d v := by
  obtain ⟨v, vs', e, h1, h2⟩ := h
  have e2 : vs' = [] := h2
  exact ⟨v, by rw [e, e2], h1⟩
abbrev rLen (K : PySem.W.Frag) : List V → Hp → VK → Prop := fun xs H Q => ∃ x n, xs = [x] ∧ LenV K x H n ∧ Q (.int n) H
theorem pure_len : PureA K (rLen K) dLen := by
  intro S H ds vs d Q e t hd k
  match ds, hd with
  | [.lst es], hd =>
    cases hd
    obtain ⟨v, e1, a, xs, e2, h1, h2⟩ := tpl1 t
    exact ⟨v, es.length, e1, by rw [e2]; exact .inl ⟨xs, sq_of h1, h2.length.symm⟩, k _ rfl⟩
  | [.tup es], hd =>
    cases hd
    obtain ⟨v, e1, h⟩ := tpl1 t
    have h' : Rp K yes S (.tup es) v := h
    unfold Rp at h'
    obtain ⟨a, xs, e2, h1, h2⟩ := h'
    exact ⟨v, es.length, e1, by rw [e2]; exact .inr ⟨xs, ex_t e h1, h2.length.symm⟩, k _ rfl⟩
  | [.scr ns], hd =>
    cases hd
    obtain ⟨v, e1, h⟩ := tpl1 t
    have h' : Rp K yes S (.scr ns) v := h
    unfold Rp at h'
    obtain ⟨a, e2, h1⟩ := h'
    exact ⟨v, ns.length, e1, by rw [e2]; exact .inl ⟨_, ex_l e h1, by rw [List.length_map]⟩, k _ rfl⟩
  | [.str s], hd =>
    obtain ⟨v, e1, h⟩ := tpl1 t
    have hd' : (if sizeB s.length = true then some (D.int s.length) else none) = some d := hd
    split at hd'
    · rename_i z
      cases hd'
      exact ⟨v, s.length, e1, by rw [tp_str h]; exact ⟨sizeB_ok z, rfl⟩, k _ rfl⟩
    · cases hd'
  | [], hd => cases hd
  | [.non], hd => cases hd
  | [.bl _], hd => cases hd
  | [.int _], hd => cases hd
  | [.dic _], hd => cases hd
  | [.dit _], hd => cases hd
  | [.ins _ _], hd => cases hd
  | [.ty _], hd => cases hd
  | [.cls _], hd => cases hd
  | a :: b :: c, hd => cases a <;> cases hd
end
end Uw

set_option Elab.async false
set_option linter.all false
set_option maxRecDepth 100000
set_option maxHeartbeats 2000000
namespace Uw
open PySem PySem.Spec PyProof.Rows L2

/-! ### operations whose answer may be shared or new -/
def flNew : Fl → Fl
  | .own => .own
  | _ => .any
def flTop : Fl → Fl
  | .own => .own
  | _ => .top
def flBoth : Fl → Fl → Fl
  | .own, .own => .own
  | _, _ => .any
def dAdd (a b : Fl × D) : Option (Fl × D) := match a.2, b.2 with
  | .int i, .int j => some (.own, .int (i + j))
  | .str i, .str j => if sizeB (i.length + j.length) = true then some (.own, .str (i ++ j)) else none
  | .lst x, .lst y => if sizeB (x.length + y.length) = true then some (flTop (flBoth a.1 b.1), .lst (x ++ y)) else none
  | .tup x, .tup y => if sizeB (x.length + y.length) = true then (if x.isEmpty = true then some b else if y.isEmpty = true then some a else some (flBoth a.1 b.1, .tup (x ++ y))) else none
  | _, _ => none
def dIx (a b : Fl × D) : Option (Fl × D) := match a.2, b.2 with
  | .lst x, .int i => (atI x i).map fun d => (flKid a.1, d)
  | .tup x, .int i => (atI x i).map fun d => (flKid a.1, d)
  | .scr x, .int i => (atI x i).map fun n => (.own, .int n)
  | .str z, .int i => if sizeB z.length = true then (atI z.cps.toList i).map fun c => (.own, .str ⟨#[c]⟩) else none
  | _, _ => none
def cutD {α : Type} (xs : List α) (lo hi : Option Int) : List α := (xs.drop (HT.sIx xs.length 0 lo)).take (HT.sIx xs.length xs.length hi - HT.sIx xs.length 0 lo)
def dSl (a : Fl × D) (lo hi : Option Int) : Option (Fl × D) := match a.2 with
  | .lst x => some (flTop a.1, .lst (cutD x lo hi))
  | .tup x => if HT.sIx x.length 0 lo = 0 ∧ HT.sIx x.length x.length hi = x.length then some a else some (flNew a.1, .tup (cutD x lo hi))
  | .scr x => some (.own, .lst ((cutD x lo hi).map .int))
  | .str z => if sizeB z.length = true then some (.own, .str (cutS z lo hi)) else none
  | _ => none
def dTupOf (l : List (Fl × D)) : Option (Fl × D) := match l with
  | [(f, .lst x)] => some (flNew f, .tup x)
  | [(f, .tup x)] => some (f, .tup x)
  | _ => none
def eGen2 (f : Fl × D → Fl × D → Option (Fl × D)) (ma mb : M Ev) : M Ev := ma.bind fun a => mb.bind fun b => (lookF a).bind fun x => (lookF b).bind fun y => (lift (f x y)).bind fun d => M.ret (.val d.1 d.2)
def lookFL : List Ev → M (List (Fl × D))
  | [] => M.ret []
  | e :: es => (lookF e).bind fun d => (lookFL es).bind fun ds => M.ret (d :: ds)
def eGenA (f : List (Fl × D) → Option (Fl × D)) (ma : M (List Ev)) : M Ev := ma.bind fun es => (lookFL es).bind fun ds => (lift (f ds)).bind fun d => M.ret (.val d.1 d.2)
def mNoPart : M (Option Int) := M.ret none
def mPart (m : M Ev) : M (Option Int) := m.bind fun e => (look e).bind fun d => match d with
  | .int i => M.ret (some i)
  | _ => fun _ => .bad
def eSl (m : M Ev) (ml mh : M (Option Int)) : M Ev := m.bind fun e => ml.bind fun lo => mh.bind fun hi => (lookF e).bind fun x => (lift (dSl x lo hi)).bind fun d => M.ret (.val d.1 d.2)
def eFld (c f : Str) (m : M Ev) : M Ev := m.bind fun e => (lookF e).bind fun x => match x.2 with
  | .ins c' fs => if c' = c then (lift (fs.lookup f)).bind fun d => M.ret (.val (flKid x.1) d) else fun _ => .bad
  | _ => fun _ => .bad

section
variable (K : PySem.W.Frag)
def KidF (g : Gho) (S : Hp) (f : Fl) (ds : List D) (xs : List V) : Prop := xs.length = ds.length ∧ ∀ (i : Nat) (d : D), ds[i]? = some d → ∃ u, xs[i]? = some u ∧ FzOk K g S d u (flKid f)
def Lk (g : Gho) (S H : Hp) (f : Fl) : D → V → Prop
  | .lst ds, v => ∃ a xs, v = .ref a ∧ H a = some (.lst xs) ∧ KidF K g S f ds xs
  | .tup ds, v => FzOk K g S (.tup ds) v f ∧ ∃ a xs, v = .ref a ∧ SqT K H a xs ∧ KidF K g S f ds xs
  | .ins c fs, v => ∃ a dx xs, v = .ref a ∧ H a = some (.ins (He.ga K c) dx xs) ∧ ∀ n d, fs.lookup n = some d → ∃ u, xs.lookup n = some u ∧ FzOk K g S d u (flKid f)
  | d, v => Tp K S H d v
def LkL (g : Gho) (S H : Hp) : List (Fl × D) → List V → Prop
  | [], vs => vs = []
  | p :: ps, vs => ∃ v vs', vs = v :: vs' ∧ Lk K g S H p.1 p.2 v ∧ LkL g S H ps vs'
def Gen2 (r : R2) (f : Fl × D → Fl × D → Option (Fl × D)) : Prop := ∀ (g : Gho) (S H : Hp) (σr : L2.St) (σ : List Sv) (a b d : Fl × D) (x y : V) (Q : VK), Rel K g S H σr σ → Lk K g S H a.1 a.2 x → Lk K g S H b.1 b.2 y → f a b = some d →
  (∀ v S' H', Ex S S' → Rel K g S' H' σr σ → FzOk K g S' d.2 v d.1 → Q v H') → r x y H Q
def GenA (r : List V → Hp → VK → Prop) (f : List (Fl × D) → Option (Fl × D)) : Prop := ∀ (g : Gho) (S H : Hp) (σr : L2.St) (σ : List Sv) (ds : List (Fl × D)) (d : Fl × D) (vs : List V) (Q : VK), Rel K g S H σr σ → LkL K g S H ds vs → f ds = some d →
  (∀ v S' H', Ex S S' → Rel K g S' H' σr σ → FzOk K g S' d.2 v d.1 → Q v H') → r vs H Q
def RefO (W : WX) (t : TO) (m : M (Option Int)) : Prop := ∀ g S H σr σ (Q : Option Int → Hp → Prop), Rel K g S H σr σ → Res K g W S σr (m σ) (fun b _ _ H' => Q b H') → t σr H Q
end

section
variable {K : PySem.W.Frag} {g : Gho} {S S' H H' : Hp} {σr σr' : L2.St} {σ σ' σ0 : List Sv} {W : WX} {Dn : Ends}
theorem RpL.kidF {f : Fl} {G : Addr → Prop} {T : Hp} {ds : List D} {xs : List V} (h : RpL K G T ds xs) (k : ∀ d u, Rp K G T d u → FzOk K g S d u (flKid f)) : KidF K g S f ds xs :=
  ⟨h.length, fun i d hd => let ⟨u, h1, h2⟩ := h.get hd; ⟨u, h1, k d u h2⟩⟩
theorem KidF.rpL {f : Fl} (hse : Ex g.Se S) : ∀ {ds : List D} {xs : List V}, KidF K g S f ds xs → RpL K yes S ds xs
  | [], xs, h => by
    have e : xs = [] := List.eq_nil_of_length_eq_zero h.1
    rw [e]
    exact RpL.nil
  | d :: ds, [], h => by cases h.1
  | d :: ds, x :: xs, h => by
    obtain ⟨u, h1, h2⟩ := h.2 0 d rfl
    cases h1
    refine RpL.cons (FzOk.any hse h2) (KidF.rpL (f := f) hse ⟨by simpa using h.1, fun i d hd => ?_⟩)
    obtain ⟨u, h3, h4⟩ := h.2 (i + 1) d (by simpa using hd)
    exact ⟨u, by simpa using h3, h4⟩
theorem RpF.look {G : Addr → Prop} {T : Hp} : ∀ {fs : List (Str × D)} {xs : List (Str × V)} {n : Str} {d : D}, RpF K G T fs xs → fs.lookup n = some d → ∃ u, xs.lookup n = some u ∧ Rp K G T d u
  | [], _, n, d, h, e => by cases e
  | (k, d') :: fs, _, n, d, h, e => by
    unfold RpF at h
    obtain ⟨v, vs, h1, h2, h3⟩ := h
    rw [h1]
    rw [List.lookup_cons] at e ⊢
    cases z : n == k with
    | true =>
      rw [z] at e
      cases e
      exact ⟨v, rfl, h2⟩
    | false =>
      rw [z] at e
      exact RpF.look h3 e
theorem FzOk.lk (hse : Ex g.Se S) (hs : Ex S H) {d : D} {v : V} {f : Fl} (h : FzOk K g S d v f) : Lk K g S H f d v := by
  have base : ∀ {G : Addr → Prop} {T : Hp}, Ex T S → Rp K G T d v → (∀ d u, Rp K G T d u → FzOk K g S d u (flKid f)) → Lk K g S H f d v := fun {G T} e r k => by
    cases d with
    | lst ds =>
      unfold Rp at r
      obtain ⟨a, xs, e1, _, e2, e3⟩ := r
      exact ⟨a, xs, e1, hs _ _ (e _ _ e2), e3.kidF k⟩
    | tup ds =>
      refine ⟨h, ?_⟩
      unfold Rp at r
      obtain ⟨a, xs, e1, e2, e3⟩ := r
      exact ⟨a, xs, e1, ex_t (e.trans hs) e2, e3.kidF k⟩
    | ins c fs =>
      unfold Rp at r
      obtain ⟨a, dx, xs, e1, _, e2, _, e4⟩ := r
      refine ⟨a, dx, xs, e1, hs _ _ (e _ _ e2), fun n d hd => ?_⟩
      obtain ⟨u, h1, h2⟩ := e4.look hd
      exact ⟨u, h1, k d u h2⟩
    | _ => exact (FzOk.any hse h).tp hs
  cases f with
  | any => exact base (Ex.refl S) h fun d u r => r
  | top => exact base (Ex.refl S) h.1 fun d u r => r
  | own => exact base (Ex.refl S) h fun d u r => r
  | old => exact base hse h fun d u r => r
theorem Lk.tp (hse : Ex g.Se S) (hs : Ex S H) {d : D} {v : V} {f : Fl} (h : Lk K g S H f d v) : ∃ d', d' = d ∧ (match d with | .ins _ _ => True | _ => Tp K S H d v) := by
  refine ⟨d, rfl, ?_⟩
  cases d with
  | lst ds =>
    obtain ⟨a, xs, e1, e2, e3⟩ := h
    exact ⟨a, xs, e1, e2, e3.rpL hse⟩
  | tup ds => exact (FzOk.any hse h.1).tp hs
  | ins c fs => trivial
  | _ => exact h
theorem lookF_ok (r : Rel K g S H σr σ) {v : V} {e : Ev} (h : EvOk K g S σr v e) {p : Fl × D} {σ' : List Sv} (q : lookF e σ = .ok (p, σ')) : σ' = σ ∧ Lk K g S H p.1 p.2 v := by
  cases e with
  | val f d =>
    unfold lookF at q
    cases q
    exact ⟨rfl, FzOk.lk r.seS r.sH h⟩
  | view i =>
    unfold lookF at q
    have hv : σr[i]? = some (some v) := h
    cases hs : σ[i]? with
    | none => simp only [hs] at q; cases q
    | some s =>
      have sl := r.slot i s hs
      rw [hv] at sl
      simp only [hs] at q
      cases s with
      | und => cases q
      | fz f d =>
        cases q
        obtain ⟨v', e1, h1⟩ := sl
        cases e1
        exact ⟨rfl, FzOk.lk r.seS r.sH h1⟩
      | mu o d =>
        cases q
        obtain ⟨a, e1, _, _, h1⟩ := sl
        cases e1
        refine ⟨rfl, ?_⟩
        cases d with
        | lst ds =>
          obtain ⟨xs, h2, h3⟩ := h1
          refine ⟨a, xs, rfl, h2, h3.kidF fun d u hr => ?_⟩
          cases o with
          | true => exact hr
          | false => exact hr
        | dic ds => exact h1.tp
        | dit ds => exact h1.tp
        | ins c fs =>
          obtain ⟨dx, xs, h2, _, h3⟩ := h1
          refine ⟨a, dx, xs, rfl, h2, fun n d hd => ?_⟩
          obtain ⟨u, h4, h5⟩ := h3.look hd
          refine ⟨u, h4, ?_⟩
          cases o with
          | true => exact h5
          | false => exact h5
        | _ => exact h1.elim
      | io d =>
        cases q
        obtain ⟨a, e1, _, _, _, h1⟩ := sl
        cases e1
        refine ⟨rfl, ?_⟩
        cases d with
        | lst ds =>
          obtain ⟨xs, h2, h3⟩ := h1
          exact ⟨a, xs, rfl, h2, h3.kidF fun d u hr => hr⟩
        | dic ds => exact h1.tp
        | dit ds => exact h1.tp
        | ins c fs =>
          obtain ⟨dx, xs, h2, _, h3⟩ := h1
          refine ⟨a, dx, xs, rfl, h2, fun n d hd => ?_⟩
          obtain ⟨u, h4, h5⟩ := h3.look hd
          exact ⟨u, h4, h5⟩
        | _ => exact h1.elim
theorem Res.lookF {α : Type} {e : Ev} {f : Fl × D → M α} {F : α → List Sv → Hp → Hp → Prop} (r : Rel K g S H σr σ) {v : V} (hv : EvOk K g S σr v e) (h : Res K g W S σr (M.bind (Uw.lookF e) f σ) F) :
    ∃ d, Lk K g S H d.1 d.2 v ∧ Res K g W S σr (f d σ) F := by
  cases q : Uw.lookF e σ with
  | ok p =>
    obtain ⟨d, σ'⟩ := p
    obtain ⟨e1, h1⟩ := lookF_ok r hv q
    subst e1
    refine ⟨d, h1, ?_⟩
    have h2 : Res K g W S σr ((Uw.lookF e σ').bind fun p => f p.1 p.2) F := h
    rw [q] at h2
    exact h2
  | exc c fs =>
    exfalso
    unfold Uw.lookF at q
    cases e with
    | val f d => cases q
    | view i =>
      simp only at q
      split at q <;> cases q
  | bad =>
    have h2 : Res K g W S σr ((Uw.lookF e σ).bind fun p => f p.1 p.2) F := h
    rw [q] at h2
    exact h2.elim
theorem M.bind_assoc {α β γ : Type} (m : M α) (f : α → M β) (k : β → M γ) : M.bind (M.bind m f) k = M.bind m fun a => M.bind (f a) k := by
  funext σ
  unfold M.bind
  cases m σ <;> rfl
theorem Res.lookFL {α : Type} : ∀ {es : List Ev} {vs : List V} {f : List (Fl × D) → M α} {F : α → List Sv → Hp → Hp → Prop} (r : Rel K g S H σr σ) (hv : EvsOk K g S σr vs es) (h : Res K g W S σr (M.bind (Uw.lookFL es) f σ) F),
    ∃ ds, LkL K g S H ds vs ∧ Res K g W S σr (f ds σ) F
  | es, [], f, F, r, hv, h => by
    have e : es = [] := hv
    subst e
    exact ⟨[], rfl, h⟩
  | es, v :: vs, f, F, r, hv, h => by
    obtain ⟨e, es', e1, h1, h2⟩ := hv
    subst e1
    have h0 : Res K g W S σr (M.bind (Uw.lookF e) (fun d => M.bind (Uw.lookFL es') fun ds => f (d :: ds)) σ) F := by
      have q : M.bind (Uw.lookFL (e :: es')) f = M.bind (Uw.lookF e) (fun d => M.bind (Uw.lookFL es') fun ds => f (d :: ds)) := by
        show M.bind (M.bind (Uw.lookF e) fun d => M.bind (Uw.lookFL es') fun ds => M.ret (d :: ds)) f = _
        rw [M.bind_assoc]
        congr 1
        funext d
        rw [M.bind_assoc]
        rfl
      rw [← q]
      exact h
    obtain ⟨d, t1, h3⟩ := Res.lookF r h1 h0
    obtain ⟨ds, t2, h4⟩ := Res.lookFL r h2 h3
    exact ⟨d :: ds, ⟨v, vs, rfl, t1, t2⟩, h4⟩
theorem re_gen2 {ta tb : TE} {ma mb : M Ev} {r : R2} {f : Fl × D → Fl × D → Option (Fl × D)} (ha : RefE K W ta ma) (hb : RefE K W tb mb) (hf : Gen2 K r f) : RefE K W (tOp r ta tb) (eGen2 f ma mb) := by
  intro g S H σr σ Q r hr
  refine ha g S H σr σ _ r ((Res.bindM hr).imp fun e1 σ1 S1 H1 x1 r1 h1 => fun v1 hv1 => ?_)
  refine hb g S1 H1 σr σ1 _ r1 ((Res.bindM h1).imp fun e2 σ2 S2 H2 x2 r2 h2 => fun v2 hv2 => ?_)
  obtain ⟨d1, t1, h3⟩ := Res.lookF r2 (hv1.mono x2) h2
  obtain ⟨d2, t2, h4⟩ := Res.lookF r2 hv2 h3
  obtain ⟨d, hd, h5⟩ := Res.lift h4
  exact hf g S2 H2 σr σ2 d1 d2 d v1 v2 _ r2 t1 t2 hd fun v S' H' e r3 hv => Res.ret' h5 e r3 v hv
theorem re_genA {ta : TA} {ma : M (List Ev)} {r : List V → Hp → VK → Prop} {f : List (Fl × D) → Option (Fl × D)} (ha : RefA K W ta ma) (hf : GenA K r f) : RefE K W (tCB r ta) (eGenA f ma) := by
  intro g S H σr σ Q r hr
  refine ha g S H σr σ _ r ((Res.bindM hr).imp fun es σ1 S1 H1 x1 r1 h1 => fun vs hvs => ?_)
  obtain ⟨ds, t1, h3⟩ := Res.lookFL r1 hvs h1
  obtain ⟨d, hd, h5⟩ := Res.lift h3
  exact hf g S1 H1 σr σ1 ds d vs _ r1 t1 hd fun v S' H' e r3 hv => Res.ret' h5 e r3 v hv
theorem ro_none : RefO K W tNoPart mNoPart := by
  intro g S H σr σ Q r h
  exact Res.ret h r
theorem ro_some {te : TE} {m : M Ev} (he : RefE K W te m) : RefO K W (tPart te) (mPart m) := by
  intro g S H σr σ Q r h
  refine he g S H σr σ _ r ((Res.bindM h).imp fun e1 σ1 S1 H1 x1 r1 h1 => fun v1 hv1 => ?_)
  obtain ⟨d, t1, h2⟩ := Res.look r1 hv1 h1
  cases d with
  | int i => exact ⟨i, tp_int t1, Res.ret h2 r1⟩
  | _ => exact h2.elim
/-- what a slice asks by data -/
theorem rpl_cut {ds : List D} {xs : List V} {G : Addr → Prop} {T : Hp} (h : RpL K G T ds xs) (lo hi : Option Int) : RpL K G T (cutD ds lo hi) (cutV xs lo hi) := by
  unfold cutD cutV
  rw [h.length]
  exact RpL.take _ (RpL.drop _ h)
theorem KidF.cut {ds : List D} {xs : List V} {f : Fl} (h : KidF K g S f ds xs) (lo hi : Option Int) : KidF K g S f (cutD ds lo hi) (cutV xs lo hi) := by
  unfold cutD cutV
  rw [h.1]
  refine ⟨by rw [List.length_take, List.length_take, List.length_drop, List.length_drop, h.1], fun i d hd => ?_⟩
  rw [List.getElem?_take] at hd ⊢
  split at hd
  · rename_i z
    rw [if_pos z]
    rw [List.getElem?_drop] at hd ⊢
    exact h.2 _ d hd
  · cases hd
/-- kids in a new list, a new tuple -/
theorem KidF.rpG {f : Fl} {G : Addr → Prop} (k : ∀ d u, FzOk K g S d u (flKid f) → Rp K G S d u) : ∀ {ds : List D} {xs : List V}, KidF K g S f ds xs → RpL K G S ds xs
  | [], xs, h => by
    have e : xs = [] := List.eq_nil_of_length_eq_zero h.1
    rw [e]
    exact RpL.nil
  | d :: ds, [], h => by cases h.1
  | d :: ds, x :: xs, h => by
    obtain ⟨u, h1, h2⟩ := h.2 0 d rfl
    cases h1
    refine RpL.cons (k _ _ h2) (KidF.rpG k ⟨by simpa using h.1, fun i d hd => ?_⟩)
    obtain ⟨u, h3, h4⟩ := h.2 (i + 1) d (by simpa using hd)
    exact ⟨u, by simpa using h3, h4⟩
theorem KidF.newL (r : Rel K g S H σr σ) {f : Fl} {ds : List D} {xs : List V} (h : KidF K g S f ds xs) {p : Addr} (hp : H p = none) : FzOk K g (upd S p (.lst xs)) (.lst ds) (.ref p) (flTop f) := by
  have hS := r.sH.back hp
  have hn : g.Se p = none := r.seS.back hS
  have e : Ex S (upd S p (.lst xs)) := Ex.new hS
  have any : FzOk K g (upd S p (.lst xs)) (.lst ds) (.ref p) .top := by
    refine ⟨?_, p, rfl, hn⟩
    unfold Rp
    exact ⟨p, xs, rfl, trivial, upd_same, RpL.mono yes_of e (h.rpL r.seS)⟩
  cases f with
  | own =>
    show Rp K g.nu _ _ _
    unfold Rp
    exact ⟨p, xs, rfl, hn, upd_same, RpL.mono (fun _ z => z) e (KidF.rpG (G := g.nu) (f := .own) (fun d u z => z) h)⟩
  | _ => exact any
theorem KidF.newT (r : Rel K g S H σr σ) {f : Fl} {ds : List D} {xs : List V} (h : KidF K g S f ds xs) {p : Addr} (hp : H p = none) : FzOk K g (upd S p (.tup xs)) (.tup ds) (.ref p) (flNew f) := by
  have hS := r.sH.back hp
  have e : Ex S (upd S p (.tup xs)) := Ex.new hS
  have any : FzOk K g (upd S p (.tup xs)) (.tup ds) (.ref p) .any := by
    show Rp K yes _ _ _
    unfold Rp
    exact ⟨p, xs, rfl, st_of upd_same, RpL.mono yes_of e (h.rpL r.seS)⟩
  cases f with
  | own =>
    show Rp K g.nu _ _ _
    unfold Rp
    exact ⟨p, xs, rfl, st_of upd_same, RpL.mono (fun _ z => z) e (KidF.rpG (G := g.nu) (f := .own) (fun d u z => z) h)⟩
  | _ => exact any
theorem ints_kidF {ns : List Int} {f : Fl} : KidF K g S f (ns.map D.int) (ns.map V.int) := by
  refine ⟨by rw [List.length_map, List.length_map], fun i d hd => ?_⟩
  rw [List.getElem?_map] at hd ⊢
  cases z : ns[i]? with
  | none => rw [z] at hd; cases hd
  | some n =>
    rw [z] at hd
    cases hd
    refine ⟨.int n, rfl, ?_⟩
    cases f <;> exact rfl
abbrev rSlice (K : PySem.W.Frag) : V → Option Int → Option Int → Hp → VK → Prop := fun x lo hi H Q => (rSlL K x lo hi H Q ∨ rSlA K x lo hi H Q) ∨ rSlS x lo hi H Q
theorem re_sl {te : TE} {tl th : TO} {m : M Ev} {ml mh : M (Option Int)} (he : RefE K W te m) (hl : RefO K W tl ml) (hh : RefO K W th mh) : RefE K W (tSl (rSlice K) te tl th) (eSl m ml mh) := by
  intro g S H σr σ Q r h
  refine he g S H σr σ _ r ((Res.bindM h).imp fun e1 σ1 S1 H1 x1 r1 h1 => fun v1 hv1 => ?_)
  refine hl g S1 H1 σr σ1 _ r1 ((Res.bindM h1).imp fun lo σ2 S2 H2 x2 r2 h2 => ?_)
  refine hh g S2 H2 σr σ2 _ r2 ((Res.bindM h2).imp fun hi σ3 S3 H3 x3 r3 h3 => ?_)
  obtain ⟨⟨f, d⟩, t1, h4⟩ := Res.lookF r3 (hv1.mono (x2.trans x3)) h3
  obtain ⟨d2, hd, h5⟩ := Res.lift h4
  unfold dSl at hd
  cases d with
  | lst ds =>
    obtain ⟨a, xs, e1, e2, e3⟩ := t1
    cases hd
    refine .inl (.inl ⟨a, xs, e1, sq_of e2, fun p hp => ?_⟩)
    exact Res.ret' h5 (Ex.new (r3.sH.back hp)) (r3.alloc hp) _ ((e3.cut lo hi).newL r3 hp)
  | tup ds =>
    obtain ⟨hz, a, xs, e1, e2, e3⟩ := t1
    refine .inl (.inr ⟨a, xs, e1, e2, fun z => ?_, fun z p hp => ?_⟩)
    · rw [e3.1] at z
      simp only [if_pos z] at hd
      cases hd
      rw [← e1]
      exact Res.ret h5 r3 _ hz
    · rw [e3.1] at z
      simp only [if_neg z] at hd
      cases hd
      exact Res.ret' h5 (Ex.new (r3.sH.back hp)) (r3.alloc hp) _ ((e3.cut lo hi).newT r3 hp)
  | scr ns =>
    have t2 : Rp K yes S3 (.scr ns) v1 := t1
    unfold Rp at t2
    obtain ⟨a, e1, e2⟩ := t2
    cases hd
    refine .inl (.inl ⟨a, _, e1, ex_l r3.sH e2, fun p hp => ?_⟩)
    have ek : KidF K g S3 .own ((cutD ns lo hi).map D.int) (cutV (ns.map V.int) lo hi) := by
      have : cutV (ns.map V.int) lo hi = (cutD ns lo hi).map V.int := by
        unfold cutV cutD
        rw [List.length_map, List.map_take, List.map_drop]
      rw [this]
      exact ints_kidF
    exact Res.ret' h5 (Ex.new (r3.sH.back hp)) (r3.alloc hp) _ (ek.newL r3 hp)
  | str z =>
    have hd' : (if sizeB z.length = true then some (Fl.own, D.str (cutS z lo hi)) else none) = some d2 := hd
    split at hd'
    · rename_i hz
      cases hd'
      exact .inr ⟨z, tp_str (K := K) (S := S3) (H := H3) t1, sizeB_ok hz, Res.ret h5 r3 _ rfl⟩
    · cases hd'
  | _ => cases hd
theorem atI_map {α β : Type} {f : α → β} {xs : List α} {i : Int} : atI (xs.map f) i = (atI xs i).map f := by
  unfold atI
  rw [List.length_map]
  cases ixN xs.length i with
  | none => rfl
  | some j => show (xs.map f)[j]? = (xs[j]?).map f; rw [List.getElem?_map]
theorem KidF.at {f : Fl} {ds : List D} {xs : List V} (h : KidF K g S f ds xs) {i : Int} {d : D} (e : atI ds i = some d) : ∃ u, atI xs i = some u ∧ FzOk K g S d u (flKid f) := by
  unfold atI at e ⊢
  rw [h.1]
  cases z : ixN ds.length i with
  | none => rw [z] at e; cases e
  | some j =>
    rw [z] at e
    exact h.2 j d e
theorem gen_ix : Gen2 K (rIx K) dIx := by
  intro g S H σr σ a b d x y Q r ta tb hd k
  obtain ⟨f, a⟩ := a
  obtain ⟨f2, b⟩ := b
  unfold dIx at hd
  simp only at hd ta tb
  split at hd
  · rename_i ds i
    obtain ⟨p, xs, e1, e2, e3⟩ := ta
    cases z : atI ds i with
    | none => rw [z] at hd; cases hd
    | some d' =>
      rw [z] at hd
      cases hd
      obtain ⟨u, h1, h2⟩ := e3.at z
      exact .inl ⟨p, xs, i, u, e1, tp_int (K := K) (S := S) (H := H) tb, sq_of e2, h1, k u S H (Ex.refl S) r h2⟩
  · rename_i ds i
    obtain ⟨_, p, xs, e1, e2, e3⟩ := ta
    cases z : atI ds i with
    | none => rw [z] at hd; cases hd
    | some d' =>
      rw [z] at hd
      cases hd
      obtain ⟨u, h1, h2⟩ := e3.at z
      exact .inr (.inl ⟨p, xs, i, u, e1, tp_int (K := K) (S := S) (H := H) tb, e2, h1, k u S H (Ex.refl S) r h2⟩)
  · rename_i ns i
    have t2 : Rp K yes S (.scr ns) x := ta
    unfold Rp at t2
    obtain ⟨p, e1, e2⟩ := t2
    cases z : atI ns i with
    | none => rw [z] at hd; cases hd
    | some n =>
      rw [z] at hd
      cases hd
      exact .inl ⟨p, _, i, .int n, e1, tp_int (K := K) (S := S) (H := H) tb, ex_l r.sH e2, by rw [atI_map, z]; rfl, k _ S H (Ex.refl S) r rfl⟩
  · rename_i z i
    split at hd
    · rename_i hz
      cases q : atI z.cps.toList i with
      | none => rw [q] at hd; cases hd
      | some c =>
        rw [q] at hd
        cases hd
        exact .inr (.inr ⟨z, i, c, tp_str (K := K) (S := S) (H := H) ta, tp_int (K := K) (S := S) (H := H) tb, sizeB_ok hz, q, k _ S H (Ex.refl S) r rfl⟩)
    · cases hd
  · cases hd
end
end Uw

set_option Elab.async false
set_option linter.all false
set_option maxRecDepth 100000
set_option maxHeartbeats 4000000
namespace Uw
open PySem PySem.Spec PyProof.Rows L2

/-! ### enumerate, zip over lists, tuples, texts -/
inductive Sk where | l (a : Addr) | t (a : Addr) | s (x : Str)
def Sk.It : Sk → Addr → Nat → Heap → Prop
  | .l a, it, i, h => h.IsListIter it a i
  | .t a, it, i, h => h.IsTupleIter it a i
  | .s x, it, i, h => ∃ t, h.IsStrIter it (strIterType x) x t i
def Sk.at : Sk → List Addr
  | .l a => [a]
  | .t a => [a]
  | .s _ => []
def Sk.Has (K : PySem.W.Frag) (H : Hp) : Sk → List V → Prop
  | .l a, xs => SqL K H a xs
  | .t a, xs => SqT K H a xs
  | .s x, xs => xs = x.cps.toList.map fun c => V.str ⟨#[c]⟩

set_option maxHeartbeats 1000000 in
theorem meets_enumerate_newB1 {v : Value} {o : Obj} {H : Heap → Prop} (B : Begins v o H) :
    Meets (Builtin.«enumerate.__new__» ⟨[.type "enumerate", v], []⟩) (fun _ R s => H s.heap ∧
      R (.ok (.ret (.ref (s.heap.push o).objs.size))) { s with heap := (s.heap.push o).push { cls := .type "enumerate", data := .fields #[.none, .bool false, .ref s.heap.objs.size, rawInt 0, .none, .none] } }) :=
  .of_wp fun prog w A R s h => by
    obtain ⟨hp, g, d, tk, os⟩ := s; obtain ⟨h1, h⟩ := h
    have hsub := sub_enumerate
    have q1 : ∀ {A' : Around} {E : Value → Shared → Prop} {Q : Value → Shared → Prop}, Q (.ref hp.objs.size) ⟨hp.push o, g, d, tk, os⟩ → wpAny (model prog w) A' (pyIter v) Q E ⟨hp, g, d, tk, os⟩ :=
      fun q => B.iter prog w _ _ ⟨hp, g, d, tk, os⟩ _ h1 q
    wp_walk using q1
    refine wpAny_stack_any fun st => wpAny_pure ?_
    split
    · rename_i c _ _ _ _ _
      cases (c == Value.type "enumerate")
      · wp_walk using q1
        exact ⟨_, rfl, h⟩
      · wp_walk using q1
        exact ⟨_, rfl, h⟩
    · wp_walk using q1
      exact ⟨_, rfl, h⟩
theorem enum_begins1 {prog : Program} {w : World} {A : Around} {E : Value → Shared → Prop} {s : Shared} {v : Value} {o : Obj} {H : Heap → Prop} {Q : Value → Shared → Prop} (B : Begins v o H) (h1 : H s.heap)
    (h : ∀ h', IsEnum h' (s.heap.objs.size + 1) s.heap.objs.size 0 .none → h'.get? s.heap.objs.size = some o → h'.objs.size = s.heap.objs.size + 2 →
      (∀ b o, s.heap.get? b = some o → h'.get? b = some o) → Q (.ref (s.heap.objs.size + 1)) { s with heap := h' }) :
    wpAny (model prog w) A (call (.type "enumerate") [v]) Q E s := by
  refine callType_new F.called_enumerate (by decide) (F.typeCall_enumerate_1 _) (F.newCall_enumerate_1 _) (fun obj => F.args_object_init_2 obj _) F.entry_enumerate_new
    (meets_enumerate_newB1 B) ⟨h1, ?_⟩
  have hz : (s.heap.push o).objs.size = s.heap.objs.size + 1 := Heap.size_push ..
  show _ ∧ _
  rw [hz]
  have he : IsEnum ((s.heap.push o).push { cls := .type "enumerate", data := .fields #[.none, .bool false, .ref s.heap.objs.size, rawInt 0, .none, .none] }) (s.heap.objs.size + 1) s.heap.objs.size 0 .none := by
    have := Heap.get?_push_size (s.heap.push o) (o := { cls := .type "enumerate", data := .fields #[.none, .bool false, .ref s.heap.objs.size, rawInt 0, .none, .none] }) rfl
    rw [hz] at this; exact this
  refine ⟨⟨_, he, rfl⟩, h _ he (Heap.get?_push_of_some _ (Heap.get?_push_size _ B.free)) (by rw [Heap.size_push, hz]) fun b o x => Heap.get?_push_of_some _ (Heap.get?_push_of_some _ x)⟩

section
variable {X : Cx} {pins : List (Addr × Obj)} {σ : L2.St} {H : Hp} {s : Shared}
/-- a source is drawn from -/
theorem Sk.draws (A : Around) (I : Inv X pins σ H s) (hh : A.handled = none) : ∀ (k : Sk) {it : Addr} {i : Nat} {xs : List V}, k.Has X.K H xs → k.It it i s.heap → it ∉ k.at →
    ∃ (P : Nat → Value → Prop) (St : Nat → Heap → Prop), Draws X.prog X.w A it (it :: k.at) xs.length P St ∧ St i s.heap ∧ (∀ j v, P j v → ∃ x, xs[j]? = some x ∧ RelV x v) ∧ (∀ j h', St j h' → k.It it j h')
  | .l a, it, i, xs, hx, hi, hn => by
    obtain ⟨its, rv, p, hz⟩ := I.list hx
    have hl := rv.length
    have D := Draws.list (prog := X.prog) (w := X.w) hh it a (fun e => hn (by simp [Sk.at, e])) its.toArray
    rw [List.size_toArray, ← hl] at D
    refine ⟨_, _, D, ⟨hi, p.isList⟩, fun j v hv => ?_, fun j h' st => st.1⟩
    have hv' : its[j]? = some v := by simpa using hv
    have hj : j < xs.length := by rw [hl]; exact (List.getElem?_eq_some_iff.mp hv').1
    obtain ⟨u, h1, h2⟩ := rv.get (List.getElem?_eq_getElem hj)
    rw [hv'] at h1
    cases h1
    exact ⟨_, List.getElem?_eq_getElem hj, h2⟩
  | .t a, it, i, xs, hx, hi, hn => by
    obtain ⟨its, rv, p, hz⟩ := I.tuple hx
    have hl := rv.length
    have D := Draws.tuple (prog := X.prog) (w := X.w) hh it a (fun e => hn (by simp [Sk.at, e])) its.toArray
    rw [List.size_toArray, ← hl] at D
    refine ⟨_, _, D, ⟨hi, show s.heap.IsTuple a its.toArray from p⟩, fun j v hv => ?_, fun j h' st => st.1⟩
    have hv' : its[j]? = some v := by simpa using hv
    have hj : j < xs.length := by rw [hl]; exact (List.getElem?_eq_some_iff.mp hv').1
    obtain ⟨u, h1, h2⟩ := rv.get (List.getElem?_eq_getElem hj)
    rw [hv'] at h1
    cases h1
    exact ⟨_, List.getElem?_eq_getElem hj, h2⟩
  | .s x, it, i, xs, hx, hi, hn => by
    obtain ⟨t, hi⟩ := hi
    have hx' : xs = x.cps.toList.map fun c => V.str ⟨#[c]⟩ := hx
    subst hx'
    have D := Draws.text (prog := X.prog) (w := X.w) hh it x t
    have hsz : x.cps.size = (x.cps.toList.map fun c => V.str ⟨#[c]⟩).length := by rw [List.length_map, Array.length_toList]
    rw [hsz] at D
    refine ⟨_, _, D, hi, fun j v hv => ?_, fun j h' st => ⟨t, st⟩⟩
    obtain ⟨c, u, e1, e2⟩ := hv
    refine ⟨.str ⟨#[c]⟩, ?_, u, e2⟩
    rw [List.getElem?_map, Array.getElem?_toList, e1]
    rfl
theorem Sk.inj (I : Inv X pins σ H s) : ∀ {k : Sk} {xs ys : List V}, k.Has X.K H xs → k.Has X.K H ys → ys = xs
  | .l a, xs, ys, h1, h2 => I.list_inj h2 h1
  | .t a, xs, ys, h1, h2 => I.tuple_inj h2 h1
  | .s x, xs, ys, h1, h2 => by
    have e1 : xs = x.cps.toList.map fun c => V.str ⟨#[c]⟩ := h1
    have e2 : ys = x.cps.toList.map fun c => V.str ⟨#[c]⟩ := h2
    rw [e1, e2]
end
def IteG (K : PySem.W.Frag) (k : Sk) : It :=
  ⟨fun i H => ∃ (xs : List V) (x : V), k.Has K H xs ∧ xs[i]? = some x, fun i H v H' => ∃ T x, v = .ref T ∧ H T = none ∧ H' = upd H T (.tup [.int (i : Nat), x]) ∧ ∀ xs, k.Has K H xs → xs[i]? = some x,
    fun i H => ∃ xs : List V, k.Has K H xs ∧ xs.length = i⟩
theorem Sk.obj : ∀ {k : Sk} {it : Addr} {i : Nat} {h : Heap}, k.It it i h → ∃ o, h.get? it = some o ∧ ∀ v, o.data ≠ .cell v
  | .l a, it, i, h, ⟨o, e, c, d⟩ => ⟨o, e, fun v z => by rw [d] at z; cases z⟩
  | .t a, it, i, h, ⟨o, e, c, d⟩ => ⟨o, e, fun v z => by rw [d] at z; cases z⟩
  | .s x, it, i, h, hh => by
    obtain ⟨tt, o, e, c, d⟩ := hh
    exact ⟨o, e, fun v z => by rw [d] at z; cases z⟩
theorem Sk.keep : ∀ {k : Sk} {it : Addr} {i : Nat} {h h' : Heap}, k.It it i h → (∀ o, h.get? it = some o → h'.get? it = some o) → k.It it i h'
  | .l a, it, i, h, h', st, q => st.at q
  | .t a, it, i, h, h', st, q => st.at q
  | .s x, it, i, h, h', hh, q => by
    obtain ⟨tt, o, e, c, d⟩ := hh
    exact ⟨tt, o, q o e, c, d⟩
theorem pair_ok {P : Program} {w : World} {H : Hp} {h : Heap} {T : Addr} {x y : V} {u v : Value} (hT : h.IsTuple T #[u, v]) (rx : RelV x u) (ry : RelV y v) : ObjOk P w (upd H T (.tup [x, y])) h T (.tup [x, y]) :=
  ⟨by show 2 ≤ sizeLine; decide, [u, v], .cons rx (.cons ry .nil), hT⟩
theorem turn_enumG {P : Program} {w : World} {K : PySem.W.Frag} {elts : List Expr} {kk : Nat} {tpos : Pos} (k : Sk) (e it : Addr) (h1 : e ≠ it) (h2 : e ∉ k.at) (h3 : it ∉ k.at) :
    Turn P w K (.Tuple elts kk tpos) (IteG K k) [e, it] e (fun i h => (∃ old, IsEnum h e it ((i : Nat) : Int) old) ∧ k.It it i h) where
  mem := by simp
  obj := fun i h st b hb => by
    obtain ⟨⟨old, he⟩, hi⟩ := st
    have e' : b = e ∨ b = it := by simpa using hb
    rcases e' with z | z
    · rw [z]; exact ⟨_, he, fun v q => nomatch q⟩
    · rw [z]; exact Sk.obj hi
  keep := fun i h h' st q => let ⟨⟨old, he⟩, hi⟩ := st; ⟨⟨old, q e (by simp) _ he⟩, Sk.keep hi fun o z => q it (by simp) o z⟩
  item := by
    intro X hP hw hK hc i pins s σ H E I hf st hg
    subst hP hw hK
    obtain ⟨⟨old, he⟩, hit⟩ := st
    obtain ⟨xs, x, hq, hx⟩ := hg
    have hi : i < xs.length := (List.getElem?_eq_some_iff.mp hx).1
    obtain ⟨Pd, St, D, hst, hP, hSt⟩ := k.draws X.A.in1 I (show X.A.in1.handled = none from I.ok.hd hc) hq hit h3
    have G := GoesN.enumFrom (prog := X.prog) (w := X.w) (A := X.A) (elts := elts) (x1 := kk) (pos := tpos) 0 D e h1 (by simp [h1, h2]) (by simp)
    refine G.goes i s (fun u s2 => ∃ x H', Inv X pins σ H' s2 ∧ RelV x u ∧ (IteG X.K k).yld i H x H' ∧ ((∃ old, IsEnum s2.heap e it ((i + 1 : Nat) : Int) old) ∧ k.It it (i + 1) s2.heap) ∧ ∀ b ∈ [e, it], H' b = none) E hi ⟨⟨old, by rw [Int.zero_add]; exact he⟩, hst⟩ fun v h' tk hY st' hk htk => ?_
    obtain ⟨T, t, u, ev, hT, hp, hTup⟩ := hY
    subst ev
    obtain ⟨x', hx', rx⟩ := hP i u hp
    rw [Int.zero_add] at hTup
    have I1 : Inv X pins σ (upd H T (.tup [.int (i : Nat), x'])) { s with heap := h', toks := tk } := I.turnedNew (ch := [e, it]) (fun b o hb q => hk b o (by simpa using hb) q) hf hT (pair_ok hTup ⟨_, rfl⟩ rx)
    obtain ⟨⟨old', he'⟩, hs'⟩ := st'
    refine ⟨.ref T, _, I1, rfl, ⟨T, x', rfl, I.hok.fresh hT, rfl, fun ys hy => by rw [Sk.inj I hq hy]; exact hx'⟩, ⟨⟨old', ?_⟩, hSt _ _ hs'⟩, fun b hb => ?_⟩
    · rw [Int.zero_add] at he'
      exact he'
    · have hb' : b < s.heap.objs.size := by
        have e' : b = e ∨ b = it := by simpa using hb
        rcases e' with z | z
        · rw [z]; exact Heap.lt_size he
        · rw [z]
          obtain ⟨o, q, _⟩ := Sk.obj hit
          exact Heap.lt_size q
      rw [upd_ne (Nat.ne_of_lt (Nat.lt_of_lt_of_le hb' hT))]
      exact (hf b hb).1
  done := by
    intro X hP hw hK hc i pins s σ H E I hf st hg
    subst hP hw hK
    obtain ⟨⟨old, he⟩, hit⟩ := st
    obtain ⟨xs, hq, hx⟩ := hg
    subst hx
    obtain ⟨Pd, St, D, hst, hP, hSt⟩ := k.draws X.A.in1 I (show X.A.in1.handled = none from I.ok.hd hc) hq hit h3
    have G := GoesN.enumFrom (prog := X.prog) (w := X.w) (A := X.A) (elts := elts) (x1 := kk) (pos := tpos) 0 D e h1 (by simp [h1, h2]) (by simp)
    refine G.stops s (fun s1 => Inv X pins σ H s1) E ⟨⟨old, by rw [Int.zero_add]; exact he⟩, hst⟩ fun h' tk hk htk => ?_
    exact I.turnedL (ch := [e, it]) (fun b o hb q => hk b o (by simpa using hb) q) hf
  self := fun A i s Q E st h => let ⟨⟨_, he⟩, _⟩ := st; wpAny_pyIter_enum he h
def ItzG (K : PySem.W.Frag) (k1 k2 : Sk) : It :=
  ⟨fun i H => ∃ (xs ys : List V), k1.Has K H xs ∧ k2.Has K H ys ∧ i < xs.length ∧ i < ys.length,
    fun i H v H' => ∃ T x y, v = .ref T ∧ H T = none ∧ H' = upd H T (.tup [x, y]) ∧ (∀ xs, k1.Has K H xs → xs[i]? = some x) ∧ ∀ ys, k2.Has K H ys → ys[i]? = some y,
    fun i H => ∃ xs ys : List V, k1.Has K H xs ∧ k2.Has K H ys ∧ min xs.length ys.length = i⟩
theorem turn_zipG {P : Program} {w : World} {K : PySem.W.Frag} {elts : List Expr} {kk : Nat} {tpos : Pos} {k1 k2 : Sk} {z TI TO i1 i2 : Addr} (S : ZipSep2 z TI TO i1 i2 (i1 :: k1.at) (i2 :: k2.at)) (h1 : i1 ∉ k1.at) (h2 : i2 ∉ k2.at) :
    Turn P w K (.Tuple elts kk tpos) (ItzG K k1 k2) [z, TI, TO, i1, i2] z (fun i h => IsZip h z TI TO .none ∧ IsTupOf2 h TI (.ref i1) (.ref i2) ∧ (∃ a1 a2, IsTupOf2 h TO a1 a2) ∧ k1.It i1 i h ∧ k2.It i2 i h) where
  mem := by simp
  obj := fun i h st c hc => by
    obtain ⟨hz, hTI, ⟨x, y, hTO⟩, hs1, hs2⟩ := st
    have e' : c = z ∨ c = TI ∨ c = TO ∨ c = i1 ∨ c = i2 := by simpa using hc
    rcases e' with q | q | q | q | q
    · rw [q]; exact ⟨_, hz, fun v q => nomatch q⟩
    · rw [q]; exact ⟨_, hTI, fun v q => nomatch q⟩
    · rw [q]; exact ⟨_, hTO, fun v q => nomatch q⟩
    · rw [q]; exact Sk.obj hs1
    · rw [q]; exact Sk.obj hs2
  keep := fun i h h' st k => by
    obtain ⟨hz, hTI, ⟨x, y, hTO⟩, hs1, hs2⟩ := st
    exact ⟨k z (by simp) _ hz, k TI (by simp) _ hTI, ⟨x, y, k TO (by simp) _ hTO⟩, Sk.keep hs1 fun o q => k i1 (by simp) o q, Sk.keep hs2 fun o q => k i2 (by simp) o q⟩
  item := by
    intro X hP hw hK hc i pins s σ H E I hf st hg
    subst hP hw hK
    obtain ⟨hz, hTI, ⟨x0, y0, hTO⟩, hs1, hs2⟩ := st
    obtain ⟨xs, ys, hq1, hq2, hi1, hi2⟩ := hg
    obtain ⟨P1, St1, D1, st1, hP1, hSt1⟩ := k1.draws X.A.in1 I (show X.A.in1.handled = none from I.ok.hd hc) hq1 hs1 h1
    obtain ⟨P2, St2, D2, st2, hP2, hSt2⟩ := k2.draws X.A.in1 I (show X.A.in1.handled = none from I.ok.hd hc) hq2 hs2 h2
    have G := GoesN.zip2 (prog := X.prog) (w := X.w) (A := X.A) (elts := elts) (x1 := kk) (pos := tpos) S D1 D2
    refine G.goes i s (fun u s2 => ∃ x H', Inv X pins σ H' s2 ∧ RelV x u ∧ (ItzG X.K k1 k2).yld i H x H' ∧ (IsZip s2.heap z TI TO .none ∧ IsTupOf2 s2.heap TI (.ref i1) (.ref i2) ∧ (∃ a1 a2, IsTupOf2 s2.heap TO a1 a2) ∧ k1.It i1 (i + 1) s2.heap ∧ k2.It i2 (i + 1) s2.heap) ∧ ∀ b ∈ [z, TI, TO, i1, i2], H' b = none) E (by omega) ⟨hz, hTI, ⟨x0, y0, hTO⟩, st1, st2⟩ fun v h' tk hY st' hk htk => ?_
    obtain ⟨T, u1, u2, ev, hT, hp1, hp2, hTup⟩ := hY
    subst ev
    obtain ⟨x', hx', rx⟩ := hP1 i u1 hp1
    obtain ⟨y', hy', ry⟩ := hP2 i u2 hp2
    have I1 : Inv X pins σ (upd H T (.tup [x', y'])) { s with heap := h', toks := tk } := I.turnedNew (ch := [z, TO, i1, i2]) (fun b o hb q => hk b o (by simpa using hb) q) (fun b hb => hf b (by
      have e' : b = z ∨ b = TO ∨ b = i1 ∨ b = i2 := by simpa using hb
      rcases e' with q | q | q | q <;> simp [q])) hT (pair_ok hTup rx ry)
    obtain ⟨a1, a2, a3, a4, a5⟩ := st'
    refine ⟨.ref T, _, I1, rfl, ⟨T, x', y', rfl, I.hok.fresh hT, rfl, fun zs hz => by rw [Sk.inj I hq1 hz]; exact hx', fun zs hz => by rw [Sk.inj I hq2 hz]; exact hy'⟩, ⟨a1, a2, a3, hSt1 _ _ a4, hSt2 _ _ a5⟩, fun b hb => ?_⟩
    have hb' : b < s.heap.objs.size := by
      have e' : b = z ∨ b = TI ∨ b = TO ∨ b = i1 ∨ b = i2 := by simpa using hb
      rcases e' with q | q | q | q | q
      · rw [q]; exact Heap.lt_size hz
      · rw [q]; exact Heap.lt_size hTI
      · rw [q]; exact Heap.lt_size hTO
      · rw [q]
        obtain ⟨o, q, _⟩ := Sk.obj hs1
        exact Heap.lt_size q
      · rw [q]
        obtain ⟨o, q, _⟩ := Sk.obj hs2
        exact Heap.lt_size q
    rw [upd_ne (Nat.ne_of_lt (Nat.lt_of_lt_of_le hb' hT))]
    exact (hf b hb).1
  done := by
    intro X hP hw hK hc i pins s σ H E I hf st hg
    subst hP hw hK
    obtain ⟨hz, hTI, ⟨x0, y0, hTO⟩, hs1, hs2⟩ := st
    obtain ⟨xs, ys, hq1, hq2, hx⟩ := hg
    subst hx
    obtain ⟨P1, St1, D1, st1, hP1, hSt1⟩ := k1.draws X.A.in1 I (show X.A.in1.handled = none from I.ok.hd hc) hq1 hs1 h1
    obtain ⟨P2, St2, D2, st2, hP2, hSt2⟩ := k2.draws X.A.in1 I (show X.A.in1.handled = none from I.ok.hd hc) hq2 hs2 h2
    have G := GoesN.zip2 (prog := X.prog) (w := X.w) (A := X.A) (elts := elts) (x1 := kk) (pos := tpos) S D1 D2
    refine G.stops s (fun s1 => Inv X pins σ H s1) E ⟨hz, hTI, ⟨x0, y0, hTO⟩, st1, st2⟩ fun h' tk hk htk => ?_
    exact I.turnedL (ch := [z, TO, i1, i2]) (fun b o hb q => hk b o (by simpa using hb) q) (fun b hb => hf b (by
      have e' : b = z ∨ b = TO ∨ b = i1 ∨ b = i2 := by simpa using hb
      rcases e' with q | q | q | q <;> simp [q]))
  self := fun A i s Q E st h => wpAny_pyIter_zip st.1 h
end Uw

set_option Elab.async false
set_option linter.all false
set_option maxRecDepth 100000
set_option maxHeartbeats 2000000
namespace Uw
open PySem PySem.Spec PyProof.Rows L2

/-! ### iterables, by their mirrors -/
def chars (z : Str) : List D := z.cps.toList.map fun c => .str ⟨#[c]⟩
def itemsOf (f : Fl) : D → Option (List (Fl × D))
  | .lst ds => some (ds.map fun d => (flKid f, d))
  | .tup ds => some (ds.map fun d => (flKid f, d))
  | .scr ns => some (ns.map fun n => (.own, .int n))
  | .str z => some ((chars z).map fun d => (.own, d))
  | _ => none
def asItems (e : Ev) : M (List (Fl × D)) := match e with
  | .val f d => lift (itemsOf f d)
  | .view _ => fun _ => .bad
def mSeq (m : M Ev) : M (List (Fl × D)) := (eV m).bind asItems
def mRng1 (m : M Ev) : M (List (Fl × D)) := m.bind fun e => (look e).bind fun d => match d with
  | .int n => if n < 100000000 ∧ -100000000 < n then M.ret ((List.range n.toNat).map fun (k : Nat) => (Fl.own, D.int (0 + (k : Int)))) else fun _ => .bad
  | _ => fun _ => .bad
def mRng2 (m1 m2 : M Ev) : M (List (Fl × D)) := m1.bind fun e1 => m2.bind fun e2 => (look e1).bind fun a => (look e2).bind fun b => match a, b with
  | .int a, .int b => if (-100000000 < a ∧ a < 100000000) ∧ (-100000000 < b ∧ b < 100000000) then M.ret ((List.range (b - a).toNat).map fun (k : Nat) => (Fl.own, D.int (a + (k : Int)))) else fun _ => .bad
  | _, _ => fun _ => .bad
def numbered : Nat → List (Fl × D) → List (Fl × D)
  | _, [] => []
  | i, p :: ps => (flNew p.1, .tup [.int (i : Int), p.2]) :: numbered (i + 1) ps
def zipped : List (Fl × D) → List (Fl × D) → List (Fl × D)
  | p :: ps, q :: qs => (flBoth p.1 q.1, .tup [p.2, q.2]) :: zipped ps qs
  | _, _ => []
def aVals (ma : M (List Ev)) : M (List Ev) := ma
def mEnum (m : M Ev) : M (List (Fl × D)) := (eV m).bind fun e => (asItems e).bind fun l => M.ret (numbered 0 l)
def mZip (m1 m2 : M Ev) : M (List (Fl × D)) := (eV m1).bind fun e1 => (eV m2).bind fun e2 => (asItems e1).bind fun l1 => (asItems e2).bind fun l2 => M.ret (zipped l1 l2)

section
variable {X : Cx} {tg : Expr}
def iSeq (K : PySem.W.Frag) (tl : TE) : TI := fun σ H R => tl σ H fun x H1 => (∃ a xs, x = .ref a ∧ SqL K H1 a xs ∧ R (Itl K a) H1) ∨ (∃ a xs, x = .ref a ∧ SqT K H1 a xs ∧ R (Itt K a) H1) ∨ (∃ z, x = .str z ∧ R (Its z) H1)
theorem pi_seq {l : Expr} {tl : TE} (hl : PE X l tl) : PI X tg l (iSeq X.K tl) := by
  refine ⟨fun pins s σ H R I h => ?_⟩
  refine thn (hl.run pins s σ H _ I h) fun v s1 ⟨x, H1, I1, r1, q1⟩ => ?_
  rcases q1 with ⟨a, xs, e, hq, q⟩ | ⟨a, xs, e, hq, q⟩ | ⟨z, e, q⟩
  · subst e
    cases r1
    obtain ⟨its, rv, p, hz⟩ := I1.list hq
    exact wpAny_pyIter_list p.isList (pi_one (tk := s1.toks) I1 _ (turn_list a _) ⟨_, Heap.get?_push_size _ rfl, rfl, rfl⟩ q)
  · subst e
    cases r1
    obtain ⟨its, rv, p, hz⟩ := I1.tuple hq
    exact wpAny_pyIter_tuple (show s1.heap.IsTuple a its.toArray from p) (pi_one (tk := s1.toks) I1 _ (turn_tuple a _) ⟨_, Heap.get?_push_size _ rfl, rfl, rfl⟩ q)
  · subst e
    obtain ⟨t, rfl⟩ := r1
    cases ha : z.cps.all (· < 128)
    · exact wpAny_pyIter_wide ha (pi_one (tk := s1.toks) I1 _ (turn_str _ z t "str_iterator" (.inr rfl)) ⟨_, Heap.get?_push_size _ rfl, rfl, rfl⟩ q)
    · exact wpAny_pyIter_ascii ha (pi_one (tk := s1.toks) I1 _ (turn_str _ z t "str_ascii_iterator" (.inl rfl)) ⟨_, Heap.get?_push_size _ rfl, rfl, rfl⟩ q)
/-- the source that a value is -/
def SrcV (K : PySem.W.Frag) (H : Hp) (v : V) : Sk → Prop
  | .l a => v = .ref a ∧ ∃ xs, SqL K H a xs
  | .t a => v = .ref a ∧ ∃ xs, SqT K H a xs
  | .s z => v = .str z
def iEnumG (K : PySem.W.Frag) (ta : TA) : TI := fun σ H R => ta σ H fun vs H1 => ∃ v k, vs = [v] ∧ SrcV K H1 v k ∧ R (IteG K k) H1
def iZipG (K : PySem.W.Frag) (ta : TA) : TI := fun σ H R => ta σ H fun vs H1 => ∃ v1 v2 k1 k2, vs = [v1, v2] ∧ SrcV K H1 v1 k1 ∧ SrcV K H1 v2 k2 ∧ R (ItzG K k1 k2) H1
/-- a source begins -/
theorem src_begins {pins : List (Addr × Obj)} {σ : L2.St} {H : Hp} {s : Shared} {v : V} {u : Value} (I : Inv X pins σ H s) (r : RelV v u) : ∀ {k : Sk}, SrcV X.K H v k → ∃ (o : Obj) (P : Heap → Prop), Begins u o P ∧ P s.heap ∧ (∀ b ∈ k.at, b < s.heap.objs.size) ∧ ∀ h' it, h'.get? it = some o → k.It it 0 h'
  | .l a, ⟨e, xs, hx⟩ => by
    subst e
    obtain rfl : u = Value.ref a := r
    obtain ⟨its, rv, p, hz⟩ := I.list hx
    exact ⟨_, _, begins_list a its.toArray, p.isList, fun b hb => by rw [show b = a by simpa [Sk.at] using hb]; exact p.lt, fun h' it e => ⟨_, e, rfl, rfl⟩⟩
  | .t a, ⟨e, xs, hx⟩ => by
    subst e
    obtain rfl : u = Value.ref a := r
    obtain ⟨its, rv, p, hz⟩ := I.tuple hx
    have p' : s.heap.IsTuple a its.toArray := p
    exact ⟨_, _, begins_tuple a its.toArray, p', fun b hb => by rw [show b = a by simpa [Sk.at] using hb]; exact p.lt, fun h' it e => ⟨_, e, rfl, rfl⟩⟩
  | .s z, e => by
    have e' : v = .str z := e
    subst e'
    obtain ⟨t, rfl⟩ := (show ∃ t, u = Value.str z t from r)
    exact ⟨_, _, begins_text z t, trivial, fun b hb => (nomatch hb), fun h' it e => ⟨t, _, e, rfl, rfl⟩⟩
theorem pi_enumG {e : Expr} {ta : TA} {p pos tpos : Pos} {elts : List Expr} {kk : Nat} (hg : Gl X "enumerate") (hm : X.mg "enumerate" = none) (ha : PA X [e] ta) (hs : starEach [e] X.env = [(false, eval e X.env)] := by rfl) :
    PI X (.Tuple elts kk tpos) (.Call (.Name "enumerate" p) [e] [] pos) (iEnumG X.K ta) := by
  refine ⟨fun pins s σ H R I h => ?_⟩
  refine Call_ (ld_blt I hg hm boot_enumerate (PyProof.Rows.callWith_type1 (thn (ha.run pos pins s σ H _ I h) fun us s1 ⟨vs, H1, I1, r1, q1⟩ => ?_) hs rfl))
  obtain ⟨v, k, ex, hk, q⟩ := q1
  subst ex
  cases r1 with
  | cons r rr =>
    cases rr
    obtain ⟨o, P, B, hP, hat, hit⟩ := src_begins I1 r hk
    refine enum_begins1 B hP fun h' he ho hsz hkp => wpAny_pyIter_enum he ?_
    have I2 : Inv X pins σ H1 { s1 with heap := h' } := I1.kept (t' := s1.toks) hkp
    refine ⟨s1.heap.objs.size + 1, [s1.heap.objs.size + 1, s1.heap.objs.size], _, _, H1, rfl, I2, turn_enumG k (s1.heap.objs.size + 1) s1.heap.objs.size (Nat.succ_ne_self _) (fun z => ?_) (fun z => ?_), ⟨⟨.none, he⟩, hit h' _ ho⟩, fun b hb => ?_, q⟩
    · exact absurd (hat _ z) (Nat.not_lt.mpr (Nat.le_add_right _ _))
    · exact absurd (hat _ z) (Nat.lt_irrefl _)
    · have e' : b = s1.heap.objs.size + 1 ∨ b = s1.heap.objs.size := by simpa using hb
      have hle : s1.heap.objs.size ≤ b := by
        rcases e' with z | z
        · rw [z]; exact Nat.le_add_right _ _
        · rw [z]; exact Nat.le_refl _
      exact I1.fpOk hle (I1.hok.fresh hle)
theorem pi_zipG {e e2 : Expr} {ta : TA} {p pos tpos : Pos} {elts : List Expr} {kk : Nat} (hg : Gl X "zip") (hm : X.mg "zip" = none) (ha : PA X [e, e2] ta)
    (hs : starEach [e, e2] X.env = (false, eval e X.env) :: starEach [e2] X.env := by rfl) (hpl : (backTo pos (starEach [e2] X.env)).any (·.1) = false := by rfl) :
    PI X (.Tuple elts kk tpos) (.Call (.Name "zip" p) [e, e2] [] pos) (iZipG X.K ta) := by
  refine ⟨fun pins s σ H R I h => ?_⟩
  refine Call_ (ld_blt I hg hm PyProof.Rows.boot_zip (PyProof.Rows.callWith_type1 (thn (ha.run pos pins s σ H _ I h) fun us s1 ⟨vs, H1, I1, r1, q1⟩ => ?_) hs hpl))
  obtain ⟨v1, v2, k1, k2, ex, hk1, hk2, q⟩ := q1
  subst ex
  cases r1 with
  | cons r rr =>
    cases rr with
    | cons r' rr =>
      cases rr
      obtain ⟨o1, P1, B1, hP1, hat1, hit1⟩ := src_begins I1 r hk1
      obtain ⟨o2, P2, B2, hP2, hat2, hit2⟩ := src_begins I1 r' hk2
      refine zip_begins2 B1 B2 hP1 hP2 fun h' hz hTI hTO ho1 ho2 hsz hkp => wpAny_pyIter_zip hz ?_
      have I2 : Inv X pins σ H1 { s1 with heap := h' } := I1.kept (t' := s1.toks) hkp
      refine ⟨s1.heap.objs.size + 4, [s1.heap.objs.size + 4, s1.heap.objs.size + 2, s1.heap.objs.size + 3, s1.heap.objs.size, s1.heap.objs.size + 1], _, _, H1, rfl, I2, turn_zipG (zip_sep2 hat1 hat2) (fun z => absurd (hat1 _ z) (Nat.lt_irrefl _)) (fun z => absurd (hat2 _ z) (Nat.not_lt.mpr (Nat.le_add_right _ _))), ⟨hz, hTI, ⟨_, _, hTO⟩, hit1 h' _ ho1, hit2 h' _ ho2⟩, fun c hcm => ?_, q⟩
      have e' : c = s1.heap.objs.size + 4 ∨ c = s1.heap.objs.size + 2 ∨ c = s1.heap.objs.size + 3 ∨ c = s1.heap.objs.size ∨ c = s1.heap.objs.size + 1 := by simpa using hcm
      have hle : s1.heap.objs.size ≤ c := by
        rcases e' with z | z | z | z | z
        · rw [z]; exact Nat.le_add_right _ _
        · rw [z]; exact Nat.le_add_right _ _
        · rw [z]; exact Nat.le_add_right _ _
        · rw [z]; exact Nat.le_refl _
        · rw [z]; exact Nat.le_add_right _ _
      exact I1.fpOk hle (I1.hok.fresh hle)
end

section
variable {K : PySem.W.Frag} {g : Gho} {S S' H H' : Hp} {σr σr' : L2.St} {σ σ' σ0 : List Sv} {W : WX} {Dn : Ends}
/-- the items, as values by place -/
def ItemsAt (K : PySem.W.Frag) (g : Gho) (S : Hp) (l : List (Fl × D)) (xs : List V) : Prop := xs.length = l.length ∧ ∀ (i : Nat) (f : Fl) (d : D), l[i]? = some (f, d) → ∃ u, xs[i]? = some u ∧ FzOk K g S d u f
theorem KidF.items {f : Fl} {ds : List D} {xs : List V} (h : KidF K g S f ds xs) : ItemsAt K g S (ds.map fun d => (flKid f, d)) xs := by
  refine ⟨by rw [List.length_map, h.1], fun i f' d hd => ?_⟩
  rw [List.getElem?_map] at hd
  cases z : ds[i]? with
  | none => rw [z] at hd; cases hd
  | some d' =>
    rw [z] at hd
    cases hd
    exact h.2 i _ z
/-- the source of a value, with its items -/
theorem src_of {f : Fl} {d : D} {v : V} (hse : Ex g.Se S) (h : FzOk K g S d v f) {l : List (Fl × D)} (q : itemsOf f d = some l) :
    ∃ (k : Sk) (xs : List V), (∀ H1, Ex S H1 → k.Has K H1 xs ∧ SrcV K H1 v k) ∧ ItemsAt K g S l xs := by
  have base : ∀ {G : Addr → Prop} {T : Hp}, Ex T S → Rp K G T d v → (∀ d u, Rp K G T d u → FzOk K g S d u (flKid f)) → ∃ (k : Sk) (xs : List V), (∀ H1, Ex S H1 → k.Has K H1 xs ∧ SrcV K H1 v k) ∧ ItemsAt K g S l xs := fun {G T} e r k => by
    cases d with
    | lst ds =>
      cases q
      unfold Rp at r
      obtain ⟨a, xs, e1, _, e2, e3⟩ := r
      exact ⟨.l a, xs, fun H1 hs => ⟨sq_of (hs _ _ (e _ _ e2)), e1, xs, sq_of (hs _ _ (e _ _ e2))⟩, (e3.kidF k).items⟩
    | tup ds =>
      cases q
      unfold Rp at r
      obtain ⟨a, xs, e1, e2, e3⟩ := r
      exact ⟨.t a, xs, fun H1 hs => ⟨ex_t (e.trans hs) e2, e1, xs, ex_t (e.trans hs) e2⟩, (e3.kidF k).items⟩
    | scr ns =>
      cases q
      unfold Rp at r
      obtain ⟨a, e1, e2⟩ := r
      refine ⟨.l a, ns.map V.int, fun H1 hs => ⟨ex_l (e.trans hs) e2, e1, _, ex_l (e.trans hs) e2⟩, ?_⟩
      have := (ints_kidF (K := K) (g := g) (S := S) (ns := ns) (f := .own)).items
      rw [List.map_map] at this
      exact this
    | str z =>
      cases q
      have e1 : v = .str z := r
      refine ⟨.s z, z.cps.toList.map fun c => V.str ⟨#[c]⟩, fun H1 hs => ⟨rfl, e1⟩, ?_, fun i f' d hd => ?_⟩
      · unfold chars
        rw [List.length_map, List.length_map, List.length_map]
      · unfold chars at hd
        rw [List.getElem?_map, List.getElem?_map] at hd
        rw [List.getElem?_map]
        cases z2 : z.cps.toList[i]? with
        | none => rw [z2] at hd; cases hd
        | some c =>
          rw [z2] at hd
          cases hd
          exact ⟨_, rfl, rfl⟩
    | _ => cases q
  cases f with
  | any => exact base (Ex.refl S) h fun d u r => r
  | top => exact base (Ex.refl S) h.1 fun d u r => r
  | own => exact base (Ex.refl S) h fun d u r => r
  | old => exact base hse h fun d u r => r
theorem ItemsAt.mono {l : List (Fl × D)} {xs : List V} (h : ItemsAt K g S l xs) (e : Ex S S') : ItemsAt K g S' l xs := ⟨h.1, fun i f d hd => let ⟨u, h1, h2⟩ := h.2 i f d hd; ⟨u, h1, h2.mono e⟩⟩
theorem Res.items {α : Type} {e : Ev} {k : List (Fl × D) → M α} {F : α → List Sv → Hp → Hp → Prop} (r : Rel K g S H σr σ) {v : V} (hv : EvOk K g S σr v e) (h : Res K g W S σr (M.bind (asItems e) k σ) F) :
    ∃ (l : List (Fl × D)) (s : Sk) (xs : List V), (∀ H1, Ex S H1 → s.Has K H1 xs ∧ SrcV K H1 v s) ∧ ItemsAt K g S l xs ∧ Res K g W S σr (k l σ) F := by
  cases e with
  | view i => exact h.elim
  | val f d =>
    obtain ⟨l, hl, h2⟩ := Res.lift (o := itemsOf f d) h
    obtain ⟨s, xs, h3, h4⟩ := src_of r.seS hv hl
    exact ⟨l, s, xs, h3, h4, h2⟩
theorem ri_seq {te : TE} {m : M Ev} (he : RefE K W te m) : RefI K W (iSeq K te) (mSeq m) := by
  intro g S H σr σ Q r h
  refine re_val he g S H σr σ _ r ((Res.bindM h).imp fun ev σ1 S1 H1 x1 r1 h1 => fun v hv => ?_)
  rw [← bind_ret (asItems ev)] at h1
  obtain ⟨l, s, xs, h3, h4, h5⟩ := Res.items r1 hv h1
  have h6 := Res.ret h5 r1
  obtain ⟨k1, k2⟩ := h3 H1 r1.sH
  have walk : ∀ (J : It), (∀ H1 i, Ex S1 H1 → i < xs.length → J.go i H1) → (∀ H1 i x H2, Ex S1 H1 → J.yld i H1 x H2 → H2 = H1 ∧ xs[i]? = some x) → (∀ H1 i, Ex S1 H1 → xs.length = i → J.stop i H1) → WalkOk K g S1 J l := fun J g1 g2 g3 S2 H2 i B1 σr0 σ0 e2 r2 => by
    have eH : Ex S1 H2 := e2.trans r2.sH
    refine ⟨fun f d hd => ⟨g1 H2 i eH (by rw [h4.1]; exact (List.getElem?_eq_some_iff.mp hd).1), fun x H3 hx => ?_⟩, fun hi => g3 H2 i eH (h4.1.trans hi)⟩
    obtain ⟨q1, q2⟩ := g2 H2 i x H3 eH hx
    subst q1
    obtain ⟨u, u1, u2⟩ := h4.2 i f d hd
    rw [q2] at u1
    cases u1
    exact ⟨S2, Ex.refl _, fun _ _ _ z => z, u2.mono e2⟩
  cases s with
  | l a =>
    obtain ⟨e1, _⟩ := k2
    refine .inl ⟨a, xs, e1, k1, h6 _ (walk _ (fun H1 i e hi => ⟨xs, xs[i], (h3 H1 e).1, List.getElem?_eq_getElem hi⟩) (fun H1 i x H2 e hx => ⟨hx.1, hx.2 xs (h3 H1 e).1⟩) (fun H1 i e hi => ⟨xs, (h3 H1 e).1, Nat.le_of_eq hi⟩))⟩
  | t a =>
    obtain ⟨e1, _⟩ := k2
    refine .inr (.inl ⟨a, xs, e1, k1, h6 _ (walk _ (fun H1 i e hi => ⟨xs, xs[i], (h3 H1 e).1, List.getElem?_eq_getElem hi⟩) (fun H1 i x H2 e hx => ⟨hx.1, hx.2 xs (h3 H1 e).1⟩) (fun H1 i e hi => ⟨xs, (h3 H1 e).1, Nat.le_of_eq hi⟩))⟩)
  | s z =>
    have ex : xs = z.cps.toList.map fun c => V.str ⟨#[c]⟩ := k1
    refine .inr (.inr ⟨z, k2, h6 _ (walk _ (fun H1 i e hi => ?_) (fun H1 i x H2 e hx => ?_) (fun H1 i e hi => ?_))⟩)
    · rw [ex, List.length_map, Array.length_toList] at hi
      exact hi
    · obtain ⟨q1, c, q2, q3⟩ := hx
      refine ⟨q1, ?_⟩
      rw [ex, List.getElem?_map, Array.getElem?_toList, q2, q3]
      rfl
    · rw [ex, List.length_map, Array.length_toList] at hi
      exact Nat.le_of_eq hi
theorem walk_rng {lo : Int} {n : Nat} : WalkOk K g S (Itr lo n) ((List.range n).map fun (k : Nat) => (Fl.own, D.int (lo + (k : Int)))) := by
  intro S2 H2 i B1 σr0 σ0 e2 r2
  refine ⟨fun f d hd => ?_, fun hi => by rw [List.length_map, List.length_range] at hi; exact Nat.le_of_eq hi⟩
  have hlt : i < n := by
    have := (List.getElem?_eq_some_iff.mp hd).1
    rwa [List.length_map, List.length_range] at this
  rw [List.getElem?_map, List.getElem?_range hlt] at hd
  cases hd
  refine ⟨hlt, fun x H3 hx => ?_⟩
  obtain ⟨q1, q2⟩ := hx
  subst q1 q2
  exact ⟨S2, Ex.refl _, fun _ _ _ z => z, rfl⟩
theorem ri_range1 {te : TE} {m : M Ev} (he : RefE K W te m) : RefI K W (iRng1 (tCons te tNil)) (mRng1 m) := by
  intro g S H σr σ Q r h
  refine he g S H σr σ _ r ((Res.bindM h).imp fun ev σ1 S1 H1 x1 r1 h1 => fun v hv => ?_)
  obtain ⟨d, t1, h2⟩ := Res.look r1 hv h1
  cases d with
  | int n =>
    have h3 : Res K g W S1 σr ((if n < 100000000 ∧ -100000000 < n then M.ret ((List.range n.toNat).map fun (k : Nat) => (Fl.own, D.int (0 + (k : Int)))) else fun _ => .bad : M (List (Fl × D))) σ1) _ := h2
    split at h3
    · rename_i hz
      refine ⟨n, by rw [tp_int (K := K) (S := S1) (H := H1) t1], by omega, by omega, Res.ret h3 r1 _ walk_rng⟩
    · exact h3.elim
  | _ => exact h2.elim
theorem ri_range2 {ta tb : TE} {ma mb : M Ev} (ha : RefE K W ta ma) (hb : RefE K W tb mb) : RefI K W (iRng2 (tCons ta (tCons tb tNil))) (mRng2 ma mb) := by
  intro g S H σr σ Q r h
  refine ha g S H σr σ _ r ((Res.bindM h).imp fun ev σ1 S1 H1 x1 r1 h1 => fun v hv => ?_)
  refine hb g S1 H1 σr σ1 _ r1 ((Res.bindM h1).imp fun ev2 σ2 S2 H2 x2 r2 h2 => fun v2 hv2 => ?_)
  obtain ⟨d1, t1, h3⟩ := Res.look r2 (hv.mono x2) h2
  obtain ⟨d2, t2, h4⟩ := Res.look r2 hv2 h3
  cases d1 with
  | int a =>
    cases d2 with
    | int b =>
      have h5 : Res K g W S2 σr ((if (-100000000 < a ∧ a < 100000000) ∧ (-100000000 < b ∧ b < 100000000) then M.ret ((List.range (b - a).toNat).map fun (k : Nat) => (Fl.own, D.int (a + (k : Int)))) else fun _ => .bad : M (List (Fl × D))) σ2) _ := h4
      split at h5
      · rename_i hz
        refine ⟨a, b, by rw [tp_int (K := K) (S := S2) (H := H2) t1, tp_int (K := K) (S := S2) (H := H2) t2], by omega, Res.ret h5 r2 _ walk_rng⟩
      · exact h5.elim
    | _ => exact h4.elim
  | _ => exact h4.elim
theorem numbered_get : ∀ {l : List (Fl × D)} {k i : Nat}, (numbered k l)[i]? = (l[i]?).map fun p => (flNew p.1, .tup [.int ((k + i : Nat) : Int), p.2])
  | [], k, i => by unfold numbered; rfl
  | p :: ps, k, 0 => by unfold numbered; rfl
  | p :: ps, k, i + 1 => by
    unfold numbered
    show (numbered (k + 1) ps)[i]? = (ps[i]?).map _
    rw [numbered_get, show k + 1 + i = k + (i + 1) by omega]
theorem numbered_len : ∀ {l : List (Fl × D)} {k : Nat}, (numbered k l).length = l.length
  | [], k => by unfold numbered; rfl
  | p :: ps, k => by unfold numbered; rw [List.length_cons, List.length_cons, numbered_len]
theorem flNew_any (f : Fl) : flNew f = .own ∧ f = .own ∨ flNew f = .any := by cases f <;> simp [flNew]
/-- a new pair -/
theorem pair_fz {T : Addr} {x y : V} {a b : D} {f f1 : Fl} (hse : Ex g.Se S) (hS : S T = none) (ha : FzOk K g S a x f1) (hb : FzOk K g S b y f) : FzOk K g (upd S T (.tup [x, y])) (.tup [a, b]) (.ref T) (flBoth f1 f) := by
  have e : Ex S (upd S T (.tup [x, y])) := Ex.new hS
  have any : Rp K yes (upd S T (.tup [x, y])) (.tup [a, b]) (.ref T) := by
    unfold Rp
    exact ⟨T, [x, y], rfl, st_of upd_same, RpL.mono yes_of e (RpL.cons (FzOk.any hse ha) (RpL.one (FzOk.any hse hb)))⟩
  cases f1 <;> cases f <;> first | exact any | skip
  show Rp K g.nu _ _ _
  unfold Rp
  exact ⟨T, [x, y], rfl, st_of upd_same, RpL.mono (fun _ z => z) e (RpL.cons ha (RpL.one hb))⟩
theorem ri_enum {te : TE} {m : M Ev} (he : RefE K W te m) : RefI K W (iEnumG K (tCons te tNil)) (mEnum m) := by
  intro g S H σr σ Q r h
  refine re_val he g S H σr σ _ r ((Res.bindM h).imp fun ev σ1 S1 H1 x1 r1 h1 => fun v hv => ?_)
  obtain ⟨l, s, xs, h3, h4, h5⟩ := Res.items r1 hv h1
  refine ⟨v, s, rfl, (h3 H1 r1.sH).2, Res.ret h5 r1 _ fun S2 H2 i B1 σr0 σ0 e2 r2 => ?_⟩
  have eH : Ex S1 H2 := e2.trans r2.sH
  refine ⟨fun f d hd => ?_, fun hi => ⟨xs, (h3 H2 eH).1, by rw [h4.1, ← hi, numbered_len]⟩⟩
  rw [numbered_get] at hd
  cases z : l[i]? with
  | none => rw [z] at hd; cases hd
  | some p =>
    rw [z] at hd
    obtain ⟨f', d'⟩ := p
    obtain ⟨u, u1, u2⟩ := h4.2 i f' d' z
    refine ⟨⟨xs, u, (h3 H2 eH).1, u1⟩, fun x H3 hx => ?_⟩
    obtain ⟨T, x', e1, e3, e4, e5⟩ := hx
    subst e1 e4
    have := e5 xs (h3 H2 eH).1
    rw [u1] at this
    cases this
    refine ⟨upd S2 T (.tup [.int (i : Nat), u]), Ex.new (r2.sH.back e3), fun B2 σr2 σ2 rr => rr.alloc e3, ?_⟩
    have hf : (flNew f', D.tup [.int ((0 + i : Nat) : Int), d']) = (f, d) := Option.some.inj hd
    cases hf
    rw [Nat.zero_add]
    have pf := pair_fz (T := T) (x := .int (i : Nat)) (a := .int (i : Nat)) (f1 := .own) r2.seS (r2.sH.back e3) rfl (u2.mono e2)
    cases f' <;> exact pf
theorem zipped_get : ∀ {l k : List (Fl × D)} {i : Nat} {p : Fl × D}, (zipped l k)[i]? = some p → ∃ a b, l[i]? = some a ∧ k[i]? = some b ∧ p = (flBoth a.1 b.1, .tup [a.2, b.2])
  | [], k, i, p, h => by unfold zipped at h; cases h
  | a :: l, [], i, p, h => by unfold zipped at h; cases h
  | a :: l, b :: k, 0, p, h => by
    unfold zipped at h
    cases h
    exact ⟨a, b, rfl, rfl, rfl⟩
  | a :: l, b :: k, i + 1, p, h => by
    unfold zipped at h
    exact zipped_get (l := l) (k := k) (i := i) h
theorem zipped_len : ∀ {l k : List (Fl × D)}, (zipped l k).length = min l.length k.length
  | [], k => by unfold zipped; simp
  | a :: l, [] => by unfold zipped; simp
  | a :: l, b :: k => by
    unfold zipped
    rw [List.length_cons, List.length_cons, List.length_cons, zipped_len]
    omega
theorem ri_zip {ta tb : TE} {ma mb : M Ev} (ha : RefE K W ta ma) (hb : RefE K W tb mb) : RefI K W (iZipG K (tCons ta (tCons tb tNil))) (mZip ma mb) := by
  intro g S H σr σ Q r h
  refine re_val ha g S H σr σ _ r ((Res.bindM h).imp fun ev σ1 S1 H1 x1 r1 h1 => fun v hv => ?_)
  refine re_val hb g S1 H1 σr σ1 _ r1 ((Res.bindM h1).imp fun ev2 σ2 S2 H2 x2 r2 h2 => fun v2 hv2 => ?_)
  obtain ⟨l, s, xs, h3, h4, h5⟩ := Res.items r2 (hv.mono x2) h2
  obtain ⟨l2, s2, xs2, h32, h42, h52⟩ := Res.items r2 hv2 h5
  refine ⟨v, v2, s, s2, rfl, (h3 H2 r2.sH).2, (h32 H2 r2.sH).2, Res.ret h52 r2 _ fun S3 H3 i B1 σr0 σ0 e3 r3 => ?_⟩
  have eH : Ex S2 H3 := e3.trans r3.sH
  refine ⟨fun f d hd => ?_, fun hi => ⟨xs, xs2, (h3 H3 eH).1, (h32 H3 eH).1, by rw [h4.1, h42.1, ← hi, zipped_len]⟩⟩
  obtain ⟨a, b, q1, q2, q3⟩ := zipped_get hd
  obtain ⟨u, u1, u2⟩ := h4.2 i a.1 a.2 q1
  obtain ⟨w, w1, w2⟩ := h42.2 i b.1 b.2 q2
  refine ⟨⟨xs, xs2, (h3 H3 eH).1, (h32 H3 eH).1, (List.getElem?_eq_some_iff.mp u1).1, (List.getElem?_eq_some_iff.mp w1).1⟩, fun x H4 hx => ?_⟩
  obtain ⟨T, x', y', e4, e5, e6, e7, e8⟩ := hx
  subst e4 e6
  have k1 := e7 xs (h3 H3 eH).1
  have k2 := e8 xs2 (h32 H3 eH).1
  rw [u1] at k1
  rw [w1] at k2
  cases k1
  cases k2
  cases q3
  exact ⟨upd S3 T (.tup [u, w]), Ex.new (r3.sH.back e5), fun B2 σr2 σ2 rr => rr.alloc e5, pair_fz r3.seS (r3.sH.back e5) (u2.mono e3) (w2.mono e3)⟩
end
end Uw

set_option Elab.async false
set_option linter.all false
set_option maxRecDepth 100000
set_option maxHeartbeats 2000000
namespace Uw
open PySem PySem.Spec PyProof.Rows L2

def tyName : D → Option String
  | .non => some "NoneType"
  | .bl _ => some "bool"
  | .int _ => some "int"
  | .str _ => some "str"
  | .tup _ => some "tuple"
  | .lst _ => some "list"
  | .scr _ => some "list"
  | .dic _ => some "dict"
  | .dit _ => some "dict"
  | _ => none
def subT (a t : String) : Bool := a == t || (a == "bool" && t == "int")
def allT : List String := ["NoneType", "bool", "int", "str", "tuple", "list", "dict"]
def isT (cs : List Str) (ts : List String) (d : D) : Option D := match d with
  | .ins c _ => if cs.contains c = true then some (.bl false) else none
  | d => (tyName d).map fun a => .bl (ts.any fun t => subT a t)
/-- isinstance(x, (t, ..)) -/
abbrev eIsT (cs : List Str) (ts : List String) (m : M Ev) : M Ev := eUn (isT cs ts) m
def isC (cs : List Str) (c : Str) (d : D) : Option D := match d with
  | .ins c' _ => if cs.contains c' = true then some (.bl (decide (c' = c))) else none
  | d => (tyName d).map fun _ => .bl false
abbrev eIsC (cs : List Str) (c : Str) (m : M Ev) : M Ev := eUn (isC cs c) m

section
variable {K : PySem.W.Frag} {g : Gho} {S S' H H' : Hp} {σr σr' : L2.St} {σ σ' σ0 : List Sv} {W : WX} {Dn : Ends}
/-! in -/
theorem flat_v {G : Addr → Prop} : ∀ {d : D} {v : V}, flatD d = true → Rp K G S d v → v = dV d ∧ flatV v = true
  | .non, v, _, h => by rw [show v = .non from h]; exact ⟨rfl, rfl⟩
  | .bl b, v, _, h => by rw [show v = .bl b from h]; exact ⟨rfl, rfl⟩
  | .int b, v, _, h => by rw [show v = .int b from h]; exact ⟨rfl, rfl⟩
  | .str b, v, _, h => by rw [show v = .str b from h]; exact ⟨rfl, rfl⟩
  | .tup _, v, z, _ => by cases z
  | .lst _, v, z, _ => by cases z
  | .dic _, v, z, _ => by cases z
  | .dit _, v, z, _ => by cases z
  | .ins _ _, v, z, _ => by cases z
  | .ty _, v, z, _ => by cases z
  | .cls _, v, z, _ => by cases z
  | .scr _, v, z, _ => by cases z
theorem flat_vs {G : Addr → Prop} : ∀ {ds : List D} {vs : List V}, ds.all flatD = true → RpL K G S ds vs → vs = ds.map dV ∧ vs.all flatV = true
  | [], vs, _, h => by unfold RpL at h; rw [h]; exact ⟨rfl, rfl⟩
  | d :: ds, vs, z, h => by
    unfold RpL at h
    obtain ⟨v, vs', h1, h2, h3⟩ := h
    rw [List.all_cons, Bool.and_eq_true] at z
    obtain ⟨k1, k2⟩ := flat_v z.1 h2
    obtain ⟨k3, k4⟩ := flat_vs z.2 h3
    rw [h1, List.all_cons, k2, k4, k1, k3]
    exact ⟨rfl, rfl⟩
theorem flat_tp {d : D} {v : V} (z : flatD d = true) (h : Tp K S H d v) : v = dV d ∧ flatV v = true := by
  cases d <;> first | exact flat_v (K := K) (S := S) (G := yes) z h | cases z
abbrev rInSg (neg : Bool) : R2 := fun x y H Q => ∃ (c : Nat) (z : Str), x = .str ⟨#[c]⟩ ∧ y = .str z ∧ Q (.bl (if neg then !decide (c ∈ z.cps.toList) else decide (c ∈ z.cps.toList))) H
theorem sg_of {s : Str} {c : Nat} (h : s.cps.toList = [c]) : s = ⟨#[c]⟩ := by
  obtain ⟨a⟩ := s
  have : a = #[c] := by
    apply Array.toList_inj.mp
    exact h
  rw [this]
theorem inP_ok (neg : Bool) {a b : D} {x y : V} {t : Bool} {Q : VK} (e : Ex S H) (ta : Tp K S H a x) (tb : Tp K S H b y) (h : inP a b = some t) (k : Q (.bl (if neg then !t else t)) H) :
    (if neg = true then rNotInD K x y H Q else rInD K x y H Q) ∨ rIn K neg x y H Q ∨ rInSg neg x y H Q := by
  cases b with
  | lst ds =>
    left
    unfold inP at h
    cases q1 : pyS a with
    | none => rw [q1] at h; cases h
    | some p =>
      rw [q1] at h
      have h' : ((pyS (.lst ds)).bind fun q => match q with | .list qs => some (qs.any fun z => PyData.eqv z p) | _ => none) = some t := h
      cases q2 : pyS (.lst ds) with
      | none => rw [q2] at h'; cases h'
      | some q =>
        rw [q2] at h'
        obtain ⟨a1, a2⟩ := pyS_ok q1
        obtain ⟨b1, b2⟩ := pyS_ok q2
        cases q with
        | list qs =>
          cases h'
          cases neg with
          | true => exact ⟨p, qs, ta.dp e a1, tb.dp e b1, a2, b2, k⟩
          | false => exact ⟨p, qs, ta.dp e a1, tb.dp e b1, a2, b2, k⟩
        | _ => cases h'
  | tup ds =>
    right
    left
    unfold inP at h
    have h' : (if ds.all flatD = true ∧ flatD a = true then some (inV (dV a) (ds.map dV)) else none) = some t := h
    split at h'
    · rename_i z
      cases h'
      have t2 : Rp K yes S (.tup ds) y := tb
      unfold Rp at t2
      obtain ⟨p, xs, e1, e2, e3⟩ := t2
      obtain ⟨k1, k2⟩ := flat_tp z.2 ta
      obtain ⟨k3, k4⟩ := flat_vs z.1 e3
      refine ⟨p, xs, e1, .inr (ex_t e e2), k2, k4, ?_⟩
      rw [k1, k3]
      cases neg <;> exact k
    · cases h'
  | str z =>
    right
    right
    cases a with
    | str s =>
      unfold inP at h
      simp only at h
      cases q : s.cps.toList with
      | nil => rw [q] at h; cases h
      | cons c cs =>
        rw [q] at h
        cases cs with
        | cons _ _ => cases h
        | nil =>
          cases h
          refine ⟨c, z, ?_, tp_str tb, ?_⟩
          · rw [← sg_of q]
            exact tp_str ta
          · cases neg <;> exact k
    | _ => unfold inP at h; cases h
  | _ => unfold inP at h; cases h
abbrev rInAny (K : PySem.W.Frag) : R2 := rOr (rInD K) (rOr (rIn K false) (rInSg false))
abbrev rNotInAny (K : PySem.W.Frag) : R2 := rOr (rNotInD K) (rOr (rIn K true) (rInSg true))
theorem pure_in : Pure2 K (rInAny K) dIn := by
  intro S H a b x y d Q e ta tb hd k
  unfold dIn at hd
  cases q : inP a b with
  | none => rw [q] at hd; cases hd
  | some t =>
    rw [q] at hd
    cases hd
    exact inP_ok false e ta tb q (k _ rfl)
theorem pure_notIn : Pure2 K (rNotInAny K) dNotIn := by
  intro S H a b x y d Q e ta tb hd k
  unfold dNotIn at hd
  cases q : inP a b with
  | none => rw [q] at hd; cases hd
  | some t =>
    rw [q] at hd
    cases hd
    exact inP_ok true e ta tb q (k _ rfl)
/-! sums -/
theorem gen_add : Gen2 K (rOr (rI0 fun i j => .int (i + j)) (rOr (fun x y H Q => ∃ i j, x = .str i ∧ y = .str j ∧ i.length + j.length ≤ sizeLine ∧ Q (.str (i ++ j)) H) (rOr rCat (rCatA K)))) dAdd := by
  intro g S H σr σ a b d x y Q r ta tb hd k
  obtain ⟨f, a⟩ := a
  obtain ⟨f2, b⟩ := b
  unfold dAdd at hd
  simp only at hd ta tb
  split at hd
  · rename_i i j
    cases hd
    exact .inl ⟨i, j, tp_int (K := K) (S := S) (H := H) ta, tp_int (K := K) (S := S) (H := H) tb, k _ S H (Ex.refl S) r rfl⟩
  · rename_i i j
    split at hd
    · rename_i z
      cases hd
      exact .inr (.inl ⟨i, j, tp_str (K := K) (S := S) (H := H) ta, tp_str (K := K) (S := S) (H := H) tb, sizeB_ok z, k _ S H (Ex.refl S) r rfl⟩)
    · cases hd
  · rename_i ds es
    split at hd
    · rename_i z
      cases hd
      obtain ⟨p, xs, e1, e2, e3⟩ := ta
      obtain ⟨q, ys, e4, e5, e6⟩ := tb
      refine .inr (.inr (.inl ⟨p, q, xs, ys, e1, e4, e2, e5, by rw [e3.1, e6.1]; exact sizeB_ok z, fun n hn => ?_⟩))
      refine k _ _ _ (Ex.new (r.sH.back hn)) (r.alloc hn) ?_
      have hall : KidF K g S (flBoth f f2) (ds ++ es) (xs ++ ys) := by
        refine ⟨by rw [List.length_append, List.length_append, e3.1, e6.1], fun i d hd => ?_⟩
        have low : ∀ {d u f'}, FzOk K g S d u (flKid f') → (flBoth f f2 = .own → f' = .own) → FzOk K g S d u (flKid (flBoth f f2)) := fun {d u f'} hz ho => by
          cases hb : flBoth f f2 with
          | own => rw [ho hb] at hz; exact hz
          | any => exact FzOk.any r.seS hz
          | top => cases f <;> cases f2 <;> cases hb
          | old => cases f <;> cases f2 <;> cases hb
        by_cases hi : i < ds.length
        · rw [List.getElem?_append_left hi] at hd
          rw [List.getElem?_append_left (by rw [e3.1]; exact hi)]
          obtain ⟨u, u1, u2⟩ := e3.2 i d hd
          exact ⟨u, u1, low u2 fun z => by cases f <;> cases f2 <;> first | rfl | cases z⟩
        · rw [List.getElem?_append_right (by omega)] at hd
          rw [List.getElem?_append_right (by rw [e3.1]; omega), e3.1]
          obtain ⟨u, u1, u2⟩ := e6.2 _ d hd
          exact ⟨u, u1, low u2 fun z => by cases f <;> cases f2 <;> first | rfl | cases z⟩
      exact hall.newL r hn
    · cases hd
  · rename_i ds es
    split at hd
    · rename_i z
      obtain ⟨hz1, p, xs, e1, e2, e3⟩ := ta
      obtain ⟨hz2, q, ys, e4, e5, e6⟩ := tb
      refine .inr (.inr (.inr ⟨p, q, xs, ys, e1, e4, e2, e5, by rw [e3.1, e6.1]; exact sizeB_ok z, fun n1 => ?_, fun n1 n2 => ?_, fun n1 n2 n hn => ?_⟩))
      · have : ds.isEmpty = true := by
          have := e3.1
          rw [n1] at this
          exact List.isEmpty_iff.mpr (List.eq_nil_of_length_eq_zero this.symm)
        rw [if_pos this] at hd
        cases hd
        rw [← e4]
        exact k _ S H (Ex.refl S) r hz2
      · have h1 : ¬ ds.isEmpty = true := fun z => n1 (by
          have h2 := List.isEmpty_iff.mp z
          have := e3.1
          rw [h2] at this
          exact List.eq_nil_of_length_eq_zero this)
        have h2 : es.isEmpty = true := by
          have := e6.1
          rw [n2] at this
          exact List.isEmpty_iff.mpr (List.eq_nil_of_length_eq_zero this.symm)
        rw [if_neg h1, if_pos h2] at hd
        cases hd
        rw [← e1]
        exact k _ S H (Ex.refl S) r hz1
      · have h1 : ¬ ds.isEmpty = true := fun z => n1 (by
          have h2 := List.isEmpty_iff.mp z
          have := e3.1
          rw [h2] at this
          exact List.eq_nil_of_length_eq_zero this)
        have h2 : ¬ es.isEmpty = true := fun z => n2 (by
          have h2 := List.isEmpty_iff.mp z
          have := e6.1
          rw [h2] at this
          exact List.eq_nil_of_length_eq_zero this)
        rw [if_neg h1, if_neg h2] at hd
        cases hd
        refine k _ _ _ (Ex.new (r.sH.back hn)) (r.alloc hn) ?_
        have hall : KidF K g S (flBoth f f2) (ds ++ es) (xs ++ ys) := by
          refine ⟨by rw [List.length_append, List.length_append, e3.1, e6.1], fun i d hd => ?_⟩
          have low : ∀ {d u f'}, FzOk K g S d u (flKid f') → (flBoth f f2 = .own → f' = .own) → FzOk K g S d u (flKid (flBoth f f2)) := fun {d u f'} hz ho => by
            cases hb : flBoth f f2 with
            | own => rw [ho hb] at hz; exact hz
            | any => exact FzOk.any r.seS hz
            | top => cases f <;> cases f2 <;> cases hb
            | old => cases f <;> cases f2 <;> cases hb
          by_cases hi : i < ds.length
          · rw [List.getElem?_append_left hi] at hd
            rw [List.getElem?_append_left (by rw [e3.1]; exact hi)]
            obtain ⟨u, u1, u2⟩ := e3.2 i d hd
            exact ⟨u, u1, low u2 fun z => by cases f <;> cases f2 <;> first | rfl | cases z⟩
          · rw [List.getElem?_append_right (by omega)] at hd
            rw [List.getElem?_append_right (by rw [e3.1]; omega), e3.1]
            obtain ⟨u, u1, u2⟩ := e6.2 _ d hd
            exact ⟨u, u1, low u2 fun z => by cases f <;> cases f2 <;> first | rfl | cases z⟩
        have nt := hall.newT r hn
        have en : flNew (flBoth f f2) = flBoth f f2 := by cases f <;> cases f2 <;> rfl
        rw [en] at nt
        exact nt
    · cases hd
  · cases hd
/-! all, any, sum, list, tuple -/
theorem bls_ok {G : Addr → Prop} : ∀ {ds : List D} {vs : List V} {bs : List Bool}, blsOf ds = some bs → RpL K G S ds vs → vs = bs.map V.bl
  | [], vs, bs, h, r => by cases h; unfold RpL at r; rw [r]; rfl
  | d :: ds, vs, bs, h, r => by
    unfold RpL at r
    obtain ⟨v, vs', h1, h2, h3⟩ := r
    cases d with
    | bl b =>
      have h' : ((blsOf ds).map fun l => b :: l) = some bs := h
      cases q : blsOf ds with
      | none => rw [q] at h'; cases h'
      | some l =>
        rw [q] at h'
        cases h'
        rw [h1, bls_ok q h3, show v = .bl b from h2]
        rfl
    | _ => cases h
theorem ints_ok {G : Addr → Prop} : ∀ {ds : List D} {vs : List V} {bs : List Int}, intsOf ds = some bs → RpL K G S ds vs → vs = bs.map V.int
  | [], vs, bs, h, r => by cases h; unfold RpL at r; rw [r]; rfl
  | d :: ds, vs, bs, h, r => by
    unfold RpL at r
    obtain ⟨v, vs', h1, h2, h3⟩ := r
    cases d with
    | int b =>
      have h' : ((intsOf ds).map fun l => b :: l) = some bs := h
      cases q : intsOf ds with
      | none => rw [q] at h'; cases h'
      | some l =>
        rw [q] at h'
        cases h'
        rw [h1, ints_ok q h3, show v = .int b from h2]
        rfl
    | _ => cases h
theorem strs_ok {G : Addr → Prop} : ∀ {ds : List D} {vs : List V} {bs : List Str}, strsOf ds = some bs → RpL K G S ds vs → vs = bs.map V.str
  | [], vs, bs, h, r => by cases h; unfold RpL at r; rw [r]; rfl
  | d :: ds, vs, bs, h, r => by
    unfold RpL at r
    obtain ⟨v, vs', h1, h2, h3⟩ := r
    cases d with
    | str b =>
      have h' : ((strsOf ds).map fun l => b :: l) = some bs := h
      cases q : strsOf ds with
      | none => rw [q] at h'; cases h'
      | some l =>
        rw [q] at h'
        cases h'
        rw [h1, strs_ok q h3, show v = .str b from h2]
        rfl
    | _ => cases h
theorem pure_all : PureA K (rAll K) dAll := by
  intro S H ds vs d Q e t hd k
  match ds, hd with
  | [.lst es], hd =>
    obtain ⟨v, e1, a, xs, e2, h1, h2⟩ := tpl1 t
    have hd' : ((blsOf es).map fun l => D.bl (l.all id)) = some d := hd
    cases q : blsOf es with
    | none => rw [q] at hd'; cases hd'
    | some l =>
      rw [q] at hd'
      cases hd'
      refine ⟨a, l, by rw [e1, e2], ?_, k _ rfl⟩
      rw [← bls_ok q h2]
      exact sq_of h1
theorem pure_any : PureA K (rAny K) dAny := by
  intro S H ds vs d Q e t hd k
  match ds, hd with
  | [.lst es], hd =>
    obtain ⟨v, e1, a, xs, e2, h1, h2⟩ := tpl1 t
    have hd' : ((blsOf es).map fun l => D.bl (l.any id)) = some d := hd
    cases q : blsOf es with
    | none => rw [q] at hd'; cases hd'
    | some l =>
      rw [q] at hd'
      cases hd'
      refine ⟨a, l, by rw [e1, e2], ?_, k _ rfl⟩
      rw [← bls_ok q h2]
      exact sq_of h1
theorem pure_sum : PureA K (rSum K) dSum := by
  intro S H ds vs d Q e t hd k
  match ds, hd with
  | [.lst es], hd =>
    obtain ⟨v, e1, a, xs, e2, h1, h2⟩ := tpl1 t
    have hd' : ((intsOf es).map fun l => D.int l.sum) = some d := hd
    cases q : intsOf es with
    | none => rw [q] at hd'; cases hd'
    | some l =>
      rw [q] at hd'
      cases hd'
      refine ⟨a, l, by rw [e1, e2], ?_, k _ rfl⟩
      rw [← ints_ok q h2]
      exact sq_of h1
theorem pure_abs : PureA K (fun xs H Q => ∃ i, xs = [.int i] ∧ Q (.int (if i < 0 then -i else i)) H) dAbs := by
  intro S H ds vs d Q e t hd k
  match ds, hd with
  | [.int i], hd =>
    obtain ⟨v, e1, h⟩ := tpl1 t
    cases hd
    exact ⟨i, by rw [e1, tp_int h], k _ rfl⟩
theorem pure_int : PureA K (fun xs H Q => (∃ i, xs = [.int i] ∧ Q (.int i) H) ∨ ∃ k, xs = [.bl k] ∧ Q (.int (if k then 1 else 0)) H) dInt := by
  intro S H ds vs d Q e t hd k
  match ds, hd with
  | [.int i], hd =>
    obtain ⟨v, e1, h⟩ := tpl1 t
    cases hd
    exact .inl ⟨i, by rw [e1, tp_int h], k _ rfl⟩
  | [.bl i], hd =>
    obtain ⟨v, e1, h⟩ := tpl1 t
    cases hd
    exact .inr ⟨i, by rw [e1, tp_bl h], k _ rfl⟩
abbrev rListOf (K : PySem.W.Frag) : List V → Hp → VK → Prop := fun xs H Q => (∃ p ys, xs = [.ref p] ∧ (SqL K H p ys ∨ SqT K H p ys) ∧ ∀ l, H l = none → Q (.ref l) (upd H l (.lst ys))) ∨ rListD xs H Q
theorem rpk_keys {G : Addr → Prop} : ∀ {kvs : List (Key × D)} {xs : List (Key × V)}, RpK K G S kvs xs → RpL K yes S (kvs.map fun kv => match kv.1 with | .inl i => .int i | .inr s => .str s) (xs.map fun kv => kV kv.1)
  | [], xs, h => by unfold RpK at h; rw [h]; exact RpL.nil
  | (k, d) :: kvs, xs, h => by
    unfold RpK at h
    obtain ⟨v, vs, h1, h2, h3⟩ := h
    rw [h1]
    refine RpL.cons ?_ (rpk_keys h3)
    cases k with
    | inl i => exact rfl
    | inr s => exact rfl
theorem new_list : NewA K (rListOf K) dList := by
  intro S H ds vs d Q e t hd k
  match ds, hd with
  | [.lst es], hd =>
    obtain ⟨v, e1, a, xs, e2, h1, h2⟩ := tpl1 t
    cases hd
    exact .inl ⟨a, xs, by rw [e1, e2], .inl (sq_of h1), fun l hl => k l _ _ (Ex.new hl) hl rfl ⟨xs, rfl, h2⟩⟩
  | [.tup es], hd =>
    obtain ⟨v, e1, h⟩ := tpl1 t
    have h' : Rp K yes S (.tup es) v := h
    unfold Rp at h'
    obtain ⟨a, xs, e2, h1, h2⟩ := h'
    cases hd
    exact .inl ⟨a, xs, by rw [e1, e2], .inr (ex_t e h1), fun l hl => k l _ _ (Ex.new hl) hl rfl ⟨xs, rfl, h2⟩⟩
  | [.scr ns], hd =>
    obtain ⟨v, e1, h⟩ := tpl1 t
    have h' : Rp K yes S (.scr ns) v := h
    unfold Rp at h'
    obtain ⟨a, e2, h1⟩ := h'
    cases hd
    refine .inl ⟨a, _, by rw [e1, e2], .inl (ex_l e h1), fun l hl => k l _ _ (Ex.new hl) hl rfl ⟨_, rfl, ?_⟩⟩
    have : ∀ ns : List Int, RpL K yes S (ns.map D.int) (ns.map V.int) := fun ns => by
      induction ns with
      | nil => exact RpL.nil
      | cons n ns ih => exact RpL.cons rfl ih
    exact this ns
  | [.dic kvs], hd =>
    obtain ⟨v, e1, a, xs, e2, h1, h2⟩ := tpl1 t
    cases hd
    exact .inr ⟨a, xs, by rw [e1, e2], h1, fun l hl => k l _ _ (Ex.new hl) hl rfl ⟨_, rfl, rpk_keys h2⟩⟩
abbrev rTupOf (K : PySem.W.Frag) : List V → Hp → VK → Prop := fun xs H Q => ∃ p ys, xs = [.ref p] ∧ ((SqL K H p ys ∧ ∀ l, H l = none → Q (.ref l) (upd H l (.tup ys))) ∨ (SqT K H p ys ∧ Q (.ref p) H))
theorem gen_tuple : GenA K (rTupOf K) dTupOf := by
  intro g S H σr σ ds d vs Q r t hd k
  match ds, hd with
  | [(f, .lst es)], hd =>
    obtain ⟨v, vs', e1, h, e2⟩ := t
    have e2' : vs' = [] := e2
    obtain ⟨p, xs, e3, e4, e5⟩ := h
    cases hd
    exact ⟨p, xs, by rw [e1, e2', e3], .inl ⟨sq_of e4, fun n hn => k _ _ _ (Ex.new (r.sH.back hn)) (r.alloc hn) (e5.newT r hn)⟩⟩
  | [(f, .tup es)], hd =>
    obtain ⟨v, vs', e1, h, e2⟩ := t
    have e2' : vs' = [] := e2
    obtain ⟨hz, p, xs, e3, e4, e5⟩ := h
    cases hd
    refine ⟨p, xs, by rw [e1, e2', e3], .inr ⟨e4, ?_⟩⟩
    rw [← e3]
    exact k _ S H (Ex.refl S) r hz
/-! isinstance -/
theorem subT_ok : ∀ a ∈ allT, ∀ t ∈ allT, kitB a t = some (subT a t) := by decide +kernel
theorem kit_one {a t : String} (ha : a ∈ allT) (ht : t ∈ allT) : PySem.W.kitOne K (.type a) (.type t) = some (subT a t) := kit_ty (subT_ok a ha t ht)
theorem kit_any {a : String} (ha : a ∈ allT) : ∀ {ts : List String}, (∀ t ∈ ts, t ∈ allT) → PySem.W.kitAny K (.type a) (ts.map Value.type) = some (ts.any fun t => subT a t)
  | [], _ => rfl
  | t :: ts, h => by
    have h1 := kit_one (K := K) ha (h t (List.mem_cons_self ..))
    refine kitAny_cons h1 (fun z => ?_) (fun z => ?_)
    · rw [List.any_cons, z, Bool.false_or]
      exact kit_any ha fun u hu => h u (List.mem_cons_of_mem _ hu)
    · rw [List.any_cons, z, Bool.true_or]
/-- what is asked of an own class -/
structure InsK (K : PySem.W.Frag) (c : Str) : Prop where
  cl : Cls K (He.ga K c)
  ha : PySem.W.findIn K (.ref (He.ga K c)) "__class__" = some (some (.builtin "object.__class__"))
  hn : PySem.W.specialIn K (.builtin "object.__class__") "__get__" = some (some (.builtin "getset_descriptor.__get__"))
  htk : PySem.W.takesIn K (.builtin "object.__class__") = some true
  hm : PySem.W.mroIn K (He.ga K c) (.type "object") = some true
  no : ∀ t ∈ allT, PySem.W.kitOne K (.ref (He.ga K c)) (.type t) = some false
theorem tyx_of {d : D} {v : V} {a : String} (e : Ex S H) (t : Tp K S H d v) (h : tyName d = some a) : TyX K H v (.type a) ∧ a ∈ allT := by
  have m : ∀ {x : String}, x ∈ allT → x ∈ allT := fun h => h
  cases d with
  | non => cases h; rw [show v = .non from t]; exact ⟨.base .non, by decide⟩
  | bl b => cases h; rw [show v = .bl b from t]; exact ⟨.base (.bl b), by decide⟩
  | int b => cases h; rw [show v = .int b from t]; exact ⟨.base (.int b), by decide⟩
  | str b => cases h; rw [show v = .str b from t]; exact ⟨.base (.str b), by decide⟩
  | tup ds =>
    cases h
    have t' : Rp K yes S (.tup ds) v := t
    unfold Rp at t'
    obtain ⟨p, xs, e1, e2, _⟩ := t'
    rw [e1]
    refine ⟨?_, by decide⟩
    rcases ex_t e e2 with h | ⟨o, its, n, h1, h2, _⟩
    · rcases h with h | ⟨o, h⟩
      · exact .base (.tup h)
      · exact .fTuple h
    · exact .kTuple h1 h2
  | lst ds =>
    cases h
    obtain ⟨p, xs, e1, e2, _⟩ := t
    rw [e1]
    exact ⟨.base (.lst e2), by decide⟩
  | scr ns =>
    cases h
    have t' : Rp K yes S (.scr ns) v := t
    unfold Rp at t'
    obtain ⟨p, e1, e2⟩ := t'
    rw [e1]
    refine ⟨?_, by decide⟩
    rcases ex_l e e2 with h | ⟨o, its, n, h1, h2, _⟩
    · rcases h with h | ⟨o, h⟩
      · exact .base (.lst h)
      · exact .base (.frz h)
    · exact .kList h1 h2
  | dic ds =>
    cases h
    obtain ⟨p, xs, e1, e2, _⟩ := t
    rw [e1]
    exact ⟨.base (.dK e2), by decide⟩
  | dit ds =>
    cases h
    obtain ⟨p, xs, e1, e2, _⟩ := t
    rw [e1]
    exact ⟨.base (.dT e2), by decide⟩
  | _ => cases h
theorem tyx_ins {c : Str} {fs : List (Str × D)} {v : V} (e : Ex S H) (t : Tp K S H (.ins c fs) v) (I : InsK K c) : TyX K H v (.ref (He.ga K c)) := by
  obtain ⟨a, dx, xs, e1, e2, _⟩ := t
  rw [e1]
  exact .base (.ins e2 I.cl I.ha I.hn I.htk I.hm)
def tysA : List String → TA
  | [] => tNil
  | t :: ts => tCons (tC (.ty t)) (tysA ts)
theorem tysA_run : ∀ {ts : List String} {σ : L2.St} {H : Hp} {Q : List V → Hp → Prop}, Q (ts.map V.ty) H → tysA ts σ H Q
  | [], σ, H, Q, h => h
  | t :: ts, σ, H, Q, h => by
    show tysA ts σ H fun xs H2 => Q (.ty t :: xs) H2
    exact tysA_run h
theorem isT_cases {cs : List Str} {ts : List String} {d r : D} (h : isT cs ts d = some r) : (∃ c fs, d = .ins c fs ∧ c ∈ cs ∧ r = .bl false) ∨ ∃ a, tyName d = some a ∧ r = .bl (ts.any fun t => subT a t) := by
  cases d <;> first
    | (left
       rename_i c fs
       have h' : (if cs.contains c = true then some (D.bl false) else none) = some r := h
       split at h'
       · rename_i z
         cases h'
         exact ⟨c, fs, rfl, List.contains_iff_mem.mp z, rfl⟩
       · cases h')
    | (right; cases h; exact ⟨_, rfl, rfl⟩)
    | cases h
theorem paired_ty : ∀ ts : List String, Paired ClsV (ts.map V.ty) (ts.map Value.type)
  | [] => .nil
  | t :: ts => .cons (.ty t) (paired_ty ts)
theorem kitAny_ins {c : Str} (I : InsK K c) : ∀ {ts : List String}, (∀ t ∈ ts, t ∈ allT) → PySem.W.kitAny K (.ref (He.ga K c)) (ts.map Value.type) = some false
  | [], _ => rfl
  | t :: ts, h => kitAny_cons (I.no t (h t (List.mem_cons_self ..))) (fun _ => kitAny_ins I fun u hu => h u (List.mem_cons_of_mem _ hu)) (fun z => (by cases z))
theorem re_isTs {cs : List Str} {ts : List String} {te : TE} {m : M Ev} (he : RefE K W te m) (hI : ∀ c ∈ cs, InsK K c) (hts : ∀ t ∈ ts, t ∈ allT) (hlen : ts.length ≤ 100) : RefE K W (tCB (rIsiT K) (tCons te (tCons (tTup (tysA ts)) tNil))) (eIsT cs ts m) := by
  intro g S H σr σ Q r hr
  refine he g S H σr σ _ r ((Res.bindM hr).imp fun e1 σ1 S1 H1 x1 r1 h1 => fun v1 hv1 => ?_)
  obtain ⟨d1, t1, h3⟩ := Res.look r1 hv1 h1
  obtain ⟨d, hd, h5⟩ := Res.lift h3
  refine tysA_run ⟨by rw [List.length_map]; exact Nat.le_trans hlen (by decide), fun p hp => ?_⟩
  have rn := r1.alloc (o := .tup (ts.map V.ty)) hp
  have e1' : Ex S1 (upd S1 p (.tup (ts.map V.ty))) := Ex.new (r1.sH.back hp)
  have pr := paired_ty ts
  have fin : Q (match d with | .bl b => .bl b | _ => .non) (upd H1 p (.tup (ts.map V.ty))) → ∀ {t b}, TyX K H1 v1 t → PySem.W.kitAny K t (ts.map Value.type) = some b → d = .bl b → rIsiT K [v1, .ref p] (upd H1 p (.tup (ts.map V.ty))) Q := fun hq t b ty hk ed => by
    subst ed
    refine ⟨v1, p, ts.map V.ty, t, ts.map Value.type, b, rfl, upd_same, pr, ?_, hk, hq⟩
    have ne : ∀ {a o}, H1 a = some o → upd H1 p (.tup (ts.map V.ty)) a = some o := fun {a o} h => by
      rw [upd_ne (ne_of_none h hp)]
      exact h
    cases ty with
    | base b => 
      cases b with
      | non => exact .base .non
      | bl x => exact .base (.bl x)
      | int x => exact .base (.int x)
      | str x => exact .base (.str x)
      | flt x => exact .base (.flt x)
      | lst h => exact .base (.lst (ne h))
      | frz h => exact .base (.frz (ne h))
      | tup h => exact .base (.tup (ne h))
      | dK h => exact .base (.dK (ne h))
      | dT h => exact .base (.dT (ne h))
      | ins h a b c d e => exact .base (.ins (ne h) a b c d e)
    | byt b => exact .byt b
    | set h => exact .set (ne h)
    | kList a b => exact .kList a b
    | kTuple a b => exact .kTuple a b
    | kDict a b => exact .kDict a b
    | fTuple a => exact .fTuple (ne a)
    | fDict a => exact .fDict (ne a)
  rcases isT_cases hd with ⟨c, fs, e2, e3, e4⟩ | ⟨a, e2, e3⟩
  · subst e2 e4
    have I := hI c e3
    exact fin (Res.ret' h5 e1' rn _ rfl) (tyx_ins r1.sH t1 I) (kitAny_ins I hts) rfl
  · subst e3
    obtain ⟨ty, hin⟩ := tyx_of r1.sH t1 e2
    exact fin (Res.ret' h5 e1' rn _ rfl) ty (kit_any hin hts) rfl
theorem re_isT1 {cs : List Str} {t : String} {te : TE} {m : M Ev} (he : RefE K W te m) (hI : ∀ c ∈ cs, InsK K c) (hts : t ∈ allT) : RefE K W (tCB (rIsi K) (tCons te (tCons (tC (.ty t)) tNil))) (eIsT cs [t] m) := by
  intro g S H σr σ Q r hr
  refine he g S H σr σ _ r ((Res.bindM hr).imp fun e1 σ1 S1 H1 x1 r1 h1 => fun v1 hv1 => ?_)
  obtain ⟨d1, t1, h3⟩ := Res.look r1 hv1 h1
  obtain ⟨d, hd, h5⟩ := Res.lift h3
  rcases isT_cases hd with ⟨c, fs, e2, e3, e4⟩ | ⟨a, e2, e3⟩
  · subst e2 e4
    have I := hI c e3
    exact ⟨v1, .ty t, _, .type t, false, rfl, .ty t, tyx_ins r1.sH t1 I, I.no t hts, Res.ret h5 r1 _ rfl⟩
  · subst e3
    obtain ⟨ty, hin⟩ := tyx_of r1.sH t1 e2
    refine ⟨v1, .ty t, _, .type t, subT a t, rfl, .ty t, ty, kit_one hin hts, Res.ret h5 r1 _ ?_⟩
    rw [List.any_cons, List.any_nil, Bool.or_false]
    exact rfl
/-- isinstance(x, C), C an own class -/
theorem re_isC {cs : List Str} {c : Str} {te : TE} {m : M Ev} (he : RefE K W te m) (hI : ∀ c ∈ cs, InsK K c) (h1 : ∀ t ∈ allT, PySem.W.kitOne K (.type t) (.ref (He.ga K c)) = some false) (h2 : ∀ c' ∈ cs, PySem.W.kitOne K (.ref (He.ga K c')) (.ref (He.ga K c)) = some (decide (c' = c))) :
    RefE K W (tCB (rIsi K) (tCons te (tCons (tC (.ref (He.ga K c))) tNil))) (eIsC cs c m) := by
  intro g S H σr σ Q r hr
  refine he g S H σr σ _ r ((Res.bindM hr).imp fun e1 σ1 S1 H1 x1 r1 h1' => fun v1 hv1 => ?_)
  obtain ⟨d1, t1, h3⟩ := Res.look r1 hv1 h1'
  obtain ⟨d, hd, h5⟩ := Res.lift h3
  have cas : (∃ c' fs, d1 = .ins c' fs ∧ c' ∈ cs ∧ d = .bl (decide (c' = c))) ∨ ∃ a, tyName d1 = some a ∧ d = .bl false := by
    cases d1 <;> first
      | (left
         rename_i c' fs
         have h' : (if cs.contains c' = true then some (D.bl (decide (c' = c))) else none) = some d := hd
         split at h'
         · rename_i z
           cases h'
           exact ⟨c', fs, rfl, List.contains_iff_mem.mp z, rfl⟩
         · cases h')
      | (right; cases hd; exact ⟨_, rfl, rfl⟩)
      | cases hd
  rcases cas with ⟨c', fs, e2, e3, e4⟩ | ⟨a, e2, e3⟩
  · subst e2 e4
    have I := hI c' e3
    exact ⟨v1, _, _, .ref (He.ga K c), decide (c' = c), rfl, .own _, tyx_ins r1.sH t1 I, h2 c' e3, Res.ret h5 r1 _ rfl⟩
  · subst e3
    obtain ⟨ty, hin⟩ := tyx_of r1.sH t1 e2
    exact ⟨v1, _, _, .ref (He.ga K c), false, rfl, .own _, ty, h1 a hin, Res.ret h5 r1 _ rfl⟩
/-! attributes -/
theorem re_fld {c f : Str} {te : TE} {m : M Ev} (he : RefE K W te m) (hc : Cls K (He.ga K c)) (hn : NoAttr K (He.ga K c) f) : RefE K W (tFld K te f) (eFld c f m) := by
  intro g S H σr σ Q r hr
  refine he g S H σr σ _ r ((Res.bindM hr).imp fun e1 σ1 S1 H1 x1 r1 h1 => fun v1 hv1 => ?_)
  obtain ⟨⟨fl, d⟩, t1, h2⟩ := Res.lookF r1 hv1 h1
  cases d with
  | ins c' fs =>
    have h3 : Res K g W S1 σr ((if c' = c then (lift (fs.lookup f)).bind fun d => M.ret (.val (flKid fl) d) else fun _ => .bad : M Ev) σ1) _ := h2
    by_cases ec : c' = c
    case neg =>
      rw [if_neg ec] at h3
      exact h3.elim
    rw [if_pos ec] at h3
    subst ec
    obtain ⟨d, hd, h5⟩ := Res.lift h3
    obtain ⟨a, dx, xs, e2, e3, e4⟩ := t1
    obtain ⟨u, u1, u2⟩ := e4 f d hd
    exact ⟨a, _, dx, xs, u, e2, e3, hc, hn, u1, Res.ret h5 r1 _ u2⟩
  | _ => exact h2.elim
end
end Uw

set_option Elab.async false
set_option linter.all false
set_option maxRecDepth 100000
set_option maxHeartbeats 2000000
namespace Uw
open PySem PySem.Spec PyProof.Rows L2

/-! ### lists that change in their slots -/
def muL (σ : List Sv) (i : Nat) : Option (Bool × Bool × List D) := match σ[i]? with
  | some (.mu o (.lst ds)) => some (false, o, ds)
  | some (.io (.lst ds)) => some (true, false, ds)
  | _ => none
def putL (σ : List Sv) (i : Nat) (io o : Bool) (ds : List D) : List Sv := σ.set i (if io = true then .io (.lst ds) else .mu o (.lst ds))
/-- first the slot is looked at, then the argument is read as a value, then k says what comes -/
def mutL (i : Nat) (m : M Ev) (k : Bool → List D → Fl → D → Option (Fl × D × Bool × List D)) : M Ev := fun σ => match muL σ i with
  | none => .bad
  | some _ => (eV m).bind (fun e => fun σ1 => match e, muL σ1 i with
    | .val f d, some (io, o, ds) => (match k o ds f d with
      | some (fr, dr, o', ds') => .ok (.val fr dr, putL σ1 i io o' ds')
      | none => .bad)
    | _, _ => .bad) σ
def kApp (o : Bool) (ds : List D) (f : Fl) (d : D) : Option (Fl × D × Bool × List D) := if sizeB ds.length = true then some (.own, .non, o && Fl.isOwn (f, d), ds ++ [d]) else none
def kExt (o : Bool) (ds : List D) (f : Fl) : D → Option (Fl × D × Bool × List D)
  | .lst es => if sizeB (ds.length + es.length) = true then some (.own, .non, o && Fl.isOwn (f, .lst es), ds ++ es) else none
  | _ => none
def kPopAt (o : Bool) (ds : List D) (f : Fl) : D → Option (Fl × D × Bool × List D)
  | .int i => if 0 ≤ i then (match ds[i.toNat]? with
    | some d => if sizeB ds.length = true then some (if o = true then .own else .any, d, o, ds.eraseIdx i.toNat) else none
    | none => none) else none
  | _ => none
abbrev eApp (i : Nat) (m : M Ev) : M Ev := mutL i m kApp
abbrev eExt (i : Nat) (m : M Ev) : M Ev := mutL i m kExt
abbrev ePopAt (i : Nat) (m : M Ev) : M Ev := mutL i m kPopAt
def ePop (i : Nat) : M Ev := fun σ => match muL σ i with
  | some (io, o, ds) => (match ds[ds.length - 1]? with
    | some d => .ok (.val (if o = true then .own else .any) d, putL σ i io o ds.dropLast)
    | none => .bad)
  | none => .bad
/-- x[i] = v -/
def putIx (i : Nat) (f : Fl) (d : D) (x : D) : Sm := fun σ => match muL σ i, x with
  | some (io, o, ds), .int k => if 0 ≤ k ∧ k < ds.length then .ok (.next, putL σ i io (o && Fl.isOwn (f, d)) (ds.set k.toNat d)) else .bad
  | _, _ => .bad
def sSetIx (i : Nat) (mi mv : M Ev) : Sm := (eV mv).bind fun e => fun σ => match e, muL σ i with
  | .val f d, some _ => (mi.bind fun ei => (look ei).bind fun x => putIx i f d x) σ
  | _, _ => .bad

section
variable {K : PySem.W.Frag} {g : Gho} {S S' H H' : Hp} {σr σr' : L2.St} {σ σ' σ0 : List Sv} {W : WX} {Dn : Ends}
theorem muL_at (r : Rel K g S H σr σ) {i : Nat} {io o : Bool} {ds : List D} (h : muL σ i = some (io, o, ds)) :
    ∃ p xs, σr[i]? = some (some (.ref p)) ∧ H p = some (.lst xs) ∧ RpL K (gdO g o) S ds xs ∧ MuP σr σ i p ∧
      ∀ (o' : Bool) (ds' : List D) (xs' : List V), RpL K (gdO g o') S ds' xs' → Rel K g S (upd H p (.lst xs')) σr (putL σ i io o' ds') := by
  unfold muL at h
  split at h
  · rename_i o1 ds1 hs
    cases h
    obtain ⟨p, e1, hS, hB, xs, h1, h2⟩ := r.slot i _ hs
    refine ⟨p, xs, e1, h1, h2, ⟨_, hs, rfl, e1⟩, fun o' ds' xs' h3 => ?_⟩
    exact r.mut ⟨_, hs, rfl, e1⟩ hs rfl ⟨p, rfl, hS, hB, xs', upd_same, h3⟩
  · rename_i ds1 hs
    cases h
    obtain ⟨p, e1, hS, hB, hio, xs, h1, h2⟩ := r.slot i _ hs
    refine ⟨p, xs, e1, h1, h2, ⟨_, hs, rfl, e1⟩, fun o' ds' xs' h3 => ?_⟩
    exact r.mut (s' := .io (.lst ds')) ⟨_, hs, rfl, e1⟩ hs rfl ⟨p, rfl, hS, hB, hio, xs', upd_same, RpL.mono (fun _ _ => trivial) (Ex.refl S) h3⟩
  · cases h
theorem gdO_and {o b : Bool} {ds : List D} {xs : List V} (h : RpL K (gdO g o) S ds xs) : RpL K (gdO g (o && b)) S ds xs := by
  cases o with
  | true => cases b with
    | true => exact h
    | false => exact RpL.mono (fun _ _ => trivial) (Ex.refl S) h
  | false => exact h
theorem gdO_own {o : Bool} {f : Fl} {d : D} {v : V} (hse : Ex g.Se S) (h : FzOk K g S d v f) : RpL K (gdO g (o && Fl.isOwn (f, d))) S [d] [v] := by
  have one : vals [.val f d] = some [(f, d)] := rfl
  obtain ⟨h1, h2⟩ := vals_ok (σr := []) hse one (EvsOk.cons (e := .val f d) h EvsOk.nil)
  cases o with
  | false => exact h1
  | true =>
    cases q : Fl.isOwn (f, d) with
    | false => exact h1
    | true => exact h2 (by rw [List.all_cons, List.all_nil, q]; rfl)
theorem re_mutL {i : Nat} {te : TE} {m : M Ev} {k : Bool → List D → Fl → D → Option (Fl × D × Bool × List D)} {r : V → List V → Hp → VK → Prop} (he : RefE K W te m)
    (hk : ∀ (g : Gho) (S H : Hp) (o : Bool) (ds : List D) (f : Fl) (d : D) (fr : Fl) (dr : D) (o' : Bool) (ds' : List D) (p : Addr) (xs : List V) (v : V) (Q : VK), k o ds f d = some (fr, dr, o', ds') → Ex g.Se S → Ex S H → H p = some (.lst xs) → RpL K (gdO g o) S ds xs → FzOk K g S d v f →
      (∀ (w : V) (xs' : List V), RpL K (gdO g o') S ds' xs' → FzOk K g S dr w fr → Q w (upd H p (.lst xs'))) → r (.ref p) [v] H Q) :
    RefE K W (tBM K "list" r (tVar i) (tCons te tNil)) (mutL i m k) := by
  intro g S H σr σ Q rl h
  unfold mutL at h
  cases q : muL σ i with
  | none =>
    simp only [q] at h
    exact h.elim
  | some t =>
    obtain ⟨io, o, ds⟩ := t
    simp only [q] at h
    obtain ⟨p, xs, e1, h1, _, _, _⟩ := muL_at rl q
    refine ⟨.ref p, e1, Or.inl ⟨rfl, xs, sq_of h1⟩, ?_⟩
    refine re_val he g S H σr σ _ rl ((Res.bindM h).imp fun e σ1 S1 H1 x1 r1 h2 => fun v hv => ?_)
    cases e with
    | view j => exact h2.elim
    | val f d =>
      cases q1 : muL σ1 i with
      | none =>
        simp only [q1] at h2
        exact h2.elim
      | some t1 =>
        obtain ⟨io1, o1, ds1⟩ := t1
        simp only [q1] at h2
        obtain ⟨p1, xs1, e2, h3, h4, h5, h6⟩ := muL_at r1 q1
        rw [e1] at e2
        cases e2
        cases q2 : k o1 ds1 f d with
        | none =>
          simp only [q2] at h2
          exact h2.elim
        | some u =>
          obtain ⟨fr, dr, o', ds'⟩ := u
          simp only [q2] at h2
          exact hk g S1 H1 o1 ds1 f d fr dr o' ds' p xs1 v _ q2 r1.seS r1.sH h3 h4 hv fun w xs' h7 h8 => Res.ok h2 (h6 o' ds' xs' h7) w h8
theorem re_app {i : Nat} {te : TE} {m : M Ev} (he : RefE K W te m) : RefE K W (tBM K "list" rAppend (tVar i) (tCons te tNil)) (eApp i m) := by
  refine re_mutL he fun g S H o ds f d fr dr o' ds' p xs v Q h hse hsh hp hxs hv hQ => ?_
  unfold kApp at h
  split at h
  · rename_i hz
    cases h
    refine ⟨p, xs, v, rfl, rfl, hp, ?_, hQ _ _ ((gdO_and hxs).append (gdO_own hse hv)) ?_⟩
    · rw [hxs.length]
      exact Nat.lt_of_le_of_lt (of_decide_eq_true hz) (by rw [sizeLine_eq]; decide)
    · show Rp K g.nu S .non .non
      unfold Rp
      rfl
  · cases h
theorem re_ext {i : Nat} {te : TE} {m : M Ev} (he : RefE K W te m) : RefE K W (tBM K "list" rExtend (tVar i) (tCons te tNil)) (eExt i m) := by
  refine re_mutL he fun g S H o ds f d fr dr o' ds' p xs v Q h hse hsh hp hxs hv hQ => ?_
  cases d with
  | lst es =>
    simp only [kExt] at h
    split at h
    · rename_i hz
      cases h
      have ha := FzOk.any hse hv
      unfold Rp at ha
      obtain ⟨a, ys, e1, _, e2, e3⟩ := ha
      subst e1
      have hys : RpL K (gdO g (o && Fl.isOwn (f, .lst es))) S es ys := by
        have h1 := gdO_own (o := o) hse hv
        obtain ⟨v1, vs1, e4, h2, _⟩ := h1
        cases e4
        unfold Rp at h2
        obtain ⟨a', ys', e5, _, e6, e7⟩ := h2
        cases e5
        rw [e2] at e6
        cases e6
        exact e7
      refine ⟨p, a, xs, ys, rfl, rfl, hp, hsh _ _ e2, ?_, hQ _ _ ((gdO_and hxs).append hys) ?_⟩
      · rw [hxs.length, e3.length]
        exact sizeB_ok hz
      · show Rp K g.nu S .non .non
        unfold Rp
        rfl
    · cases h
  | _ => simp only [kExt] at h <;> cases h
theorem re_popAt {i : Nat} {te : TE} {m : M Ev} (he : RefE K W te m) : RefE K W (tBM K "list" rPopAt (tVar i) (tCons te tNil)) (ePopAt i m) := by
  refine re_mutL he fun g S H o ds f d fr dr o' ds' p xs v Q h hse hsh hp hxs hv hQ => ?_
  cases d with
  | int k =>
    simp only [kPopAt] at h
    split at h
    · rename_i h0
      split at h
      · rename_i d0 hd
        split at h
        · rename_i hz
          cases h
          have hv' := FzOk.any hse hv
          unfold Rp at hv'
          subst hv'
          obtain ⟨w, hw1, hw2⟩ := hxs.get hd
          have hl : k.toNat < ds.length := (List.getElem?_eq_some_iff.mp hd).1
          have hl' : k.toNat < xs.length := (List.getElem?_eq_some_iff.mp hw1).1
          have hb : ds.length ≤ 100000 := of_decide_eq_true hz
          refine ⟨p, xs, k, k.toNat, w, rfl, rfl, hp, by omega, by omega, seqIndex_of h0 (by omega), hw1, hQ w _ (hxs.eraseIdx _) ?_⟩
          cases o with
          | true => exact hw2
          | false => exact hw2
        · cases h
      · cases h
    · cases h
  | _ => simp only [kPopAt] at h <;> cases h
theorem re_pop {i : Nat} : RefE K W (tBM0 K "list" rPop (tVar i)) (ePop i) := by
  intro g S H σr σ Q rl h
  unfold ePop at h
  cases q : muL σ i with
  | none =>
    simp only [q] at h
    exact h.elim
  | some t =>
    obtain ⟨io, o, ds⟩ := t
    simp only [q] at h
    obtain ⟨p, xs, e1, h1, h4, h5, h6⟩ := muL_at rl q
    cases q1 : ds[ds.length - 1]? with
    | none =>
      simp only [q1] at h
      exact h.elim
    | some d =>
      simp only [q1] at h
      obtain ⟨w, hw1, hw2⟩ := h4.get q1
      refine ⟨.ref p, e1, Or.inl ⟨rfl, xs, sq_of h1⟩, p, xs, w, rfl, rfl, h1, by rw [h4.length]; exact hw1, ?_⟩
      refine Res.ok h (h6 o ds.dropLast xs.dropLast ?_) w ?_
      · rw [List.dropLast_eq_take, List.dropLast_eq_take, h4.length]
        exact h4.take _
      · cases o with
        | true => exact hw2
        | false => exact hw2
theorem rs_setIx {i : Nat} {ti tv : TE} {mi mv : M Ev} (hi : RefE K W ti mi) (hv : RefE K W tv mv) : RefS K W (tAsg tv (gSub (tVar i) ti rSetL)) (sSetIx i mi mv) := by
  intro g S H σr σ Dn r h
  refine re_val hv g S H σr σ _ r ((ResS.bind (σr := σr) h).imp fun e σ1 S1 H1 x1 r1 h1 => fun v hv => ?_)
  cases e with
  | view j => exact h1.elim
  | val f d =>
    cases q : muL σ1 i with
    | none =>
      simp only [q] at h1
      exact h1.elim
    | some t =>
      obtain ⟨io, o, ds⟩ := t
      simp only [q] at h1
      obtain ⟨p, xs, e1, _, _, _, _⟩ := muL_at r1 q
      refine ⟨.ref p, e1, ?_⟩
      refine hi g S1 H1 σr σ1 _ r1 ((ResS.bind (σr := σr) h1).imp fun ei σ2 S2 H2 x2 r2 h2 => fun vi hvi => ?_)
      have h3 := ResS.bind (σr := σr) h2
      cases q3 : look ei σ2 with
      | bad =>
        rw [q3] at h3
        exact h3.elim
      | exc c fs => 
        exfalso
        unfold look at q3
        cases ei with
        | val f d => cases q3
        | view j => 
          simp only at q3
          split at q3 <;> cases q3
      | ok pr =>
        obtain ⟨x, σ3⟩ := pr
        obtain ⟨e4, t4⟩ := look_ok r2 hvi q3
        subst e4
        rw [q3] at h3
        have h4 : ResS K W g S2 (putIx i f d x σ3) Dn := (h3 S2 H2 (Ex.refl S2) r2)
        unfold putIx at h4
        cases q5 : muL σ3 i with
        | none =>
          simp only [q5] at h4
          exact h4.elim
        | some t5 =>
          obtain ⟨io5, o5, ds5⟩ := t5
          obtain ⟨p5, xs5, e5, h5, h6, h7, h8⟩ := muL_at r2 q5
          rw [e1] at e5
          cases e5
          cases x with
          | int k =>
            simp only [q5] at h4
            split at h4
            · rename_i hk
              have e6 : vi = .int k := by
                have t5 : Rp K yes S2 (.int k) vi := t4
                unfold Rp at t5
                exact t5
              have hkx : k < xs5.length := by rw [h6.length]; exact hk.2
              refine ⟨p, xs5, k, k.toNat, rfl, e6, h5, by unfold ixN; rw [if_pos hk.1, if_pos hkx], ?_⟩
              obtain ⟨v1, vs1, e7, h9, _⟩ := gdO_own (o := o5) r2.seS (hv.mono x2)
              cases e7
              exact h4 _ S2 _ (Ex.refl S2) (h8 _ _ _ ((gdO_and h6).set _ h9))
            · exact h4.elim
          | _ =>
            simp only [q5] at h4
            exact h4.elim
/-! displays, new lists one after the other -/
theorem rm_if {tt : TT} {ta tb : TE} {mt : M Bool} {ma mb : M (Bool × D)} (ht : RefT K W tt mt) (ha : RefM K W ta ma) (hb : RefM K W tb mb) : RefM K W (tIf tt ta tb) (mt.bind fun b => if b = true then ma else mb) := by
  intro g S H σr σ Q r hr
  refine ht g S H σr σ _ r ((Res.bindM hr).imp fun b σ1 S1 H1 x1 r1 h1 => ?_)
  cases b with
  | true => exact ha g S1 H1 σr σ1 _ r1 h1
  | false => exact hb g S1 H1 σr σ1 _ r1 h1
end
end Uw

set_option Elab.async false
set_option linter.all false
set_option maxRecDepth 100000
set_option maxHeartbeats 2000000
namespace Uw
open PySem PySem.Spec PyProof.Rows L2

/-! ### chains, pairs of names, stars, dicts -/
def eChain (f f' : D → D → Option D) (ma mb mc : M Ev) : M Ev := ma.bind fun a => mb.bind fun b => (look a).bind fun x => (look b).bind fun y => (lift (f x y)).bind fun d => match d with
  | .bl true => mc.bind fun c => (look b).bind fun y' => (look c).bind fun z => (lift (f' y' z)).bind fun d' => M.ret (.val .own d')
  | .bl false => M.ret (.val .own (.bl false))
  | _ => fun _ => .bad
def putE (i : Nat) (e : Ev) : M Unit := tgt (putV i) e
def sParEM (i j : Nat) (ma : M Ev) (mb : M (Bool × D)) : Sm := (eV ma).bind fun e => mb.bind fun od => (putE i e).bind fun _ => (putMu j od).bind fun _ => M.ret .next
def sParEE (i j : Nat) (ma mb : M Ev) : Sm := (eV ma).bind fun e => (eV mb).bind fun e2 => (putE i e).bind fun _ => (putE j e2).bind fun _ => M.ret .next
def seqItems (e : Ev) : M (List (Fl × D)) := match e with
  | .val f (.lst ds) => M.ret (ds.map fun d => (flKid f, d))
  | .val f (.tup ds) => M.ret (ds.map fun d => (flKid f, d))
  | _ => fun _ => .bad
def evs (l : List (Fl × D)) : List Ev := l.map fun p => .val p.1 p.2
def aStar (m : M Ev) (ms : M (List Ev)) : M (List Ev) := (eV m).bind fun e => (seqItems e).bind fun l => ms.bind fun es => M.ret (evs l ++ es)
def aStarR (m : M Ev) (ms : M (List Ev)) : M (List Ev) := m.bind fun e => (look e).bind fun d => match d with
  | .int n => if n < 100000 ∧ -100000 < n then ms.bind fun es => M.ret (((List.range n.toNat).map fun (k : Nat) => Ev.val Fl.own (D.int (k : Int))) ++ es) else fun _ => .bad
  | _ => fun _ => .bad
def keyD : Key → D
  | .inl i => .int i
  | .inr s => .str s
def dKey : D → Option Key
  | .int i => some (.inl i)
  | .str s => some (.inr s)
  | _ => none
def valD (kvs : List (Key × D)) (k : Key) : Option D := (kvs.find? fun kv => decide (kv.1 = k)).map (·.2)
def putD (kvs : List (Key × D)) (k : Key) (d : D) : List (Key × D) := if (kvs.any fun kv => decide (kv.1 = k)) = true then kvs.map (fun kv => if kv.1 = k then (kv.1, d) else kv) else kvs ++ [(k, d)]
def mergeD (kvs more : List (Key × D)) : List (Key × D) := more.foldl (fun acc kv => putD acc kv.1 kv.2) kvs
def flGet : Fl → Fl
  | .own => .own
  | .old => .old
  | _ => .any
/-- d[k] -/
def eDGet (mo mk : M Ev) : M Ev := (eV mo).bind fun e => mk.bind fun ek => (look ek).bind fun dk => match e, dKey dk with
  | .val f (.dic kvs), some k => (lift (valD kvs k)).bind fun d => M.ret (.val (flGet f) d)
  | _, _ => fun _ => .bad
/-- list(d.items()) -/
def eItems (m : M Ev) : M (Bool × D) := (eV m).bind fun e => match e with
  | .val f (.dic kvs) => if sizeB kvs.length = true then M.ret (Fl.isOwn (f, .dic kvs), .lst (kvs.map fun kv => .tup [keyD kv.1, kv.2])) else fun _ => .bad
  | _ => fun _ => .bad
def pairsOf : List D → Option (List (Key × D))
  | [] => some []
  | .tup [k, d] :: ds => (dKey k).bind fun k' => (pairsOf ds).map fun r => (k', d) :: r
  | _ :: _ => none
/-- dict(xs) -/
def eDict (m : M Ev) : M (Bool × D) := (eV m).bind fun e => match e with
  | .val f (.lst ds) => (lift (pairsOf ds)).bind fun kvs => M.ret (Fl.isOwn (f, .lst ds), .dic (mergeD [] kvs))
  | _ => fun _ => .bad
def eDNew : M (Bool × D) := M.ret (true, .dic [])
/-- {k: v} -/
def eDOne (mk mv : M Ev) : M (Bool × D) := mk.bind fun ek => (look ek).bind fun dk => (eV mv).bind fun e => match dKey dk, e with
  | some k, .val f d => M.ret (Fl.isOwn (f, d), .dic [(k, d)])
  | _, _ => fun _ => .bad

section
variable {K : PySem.W.Frag} {g : Gho} {S S' H H' : Hp} {σr σr' : L2.St} {σ σ' σ0 : List Sv} {W : WX} {Dn : Ends}
theorem re_chain {ta tb tc : TE} {ma mb mc : M Ev} {r r' : R2} {f f' : D → D → Option D} (ha : RefE K W ta ma) (hb : RefE K W tb mb) (hc : RefE K W tc mc) (hf : Pure2 K r f) (hf' : Pure2 K r' f') :
    RefE K W (tChain r r' ta tb tc) (eChain f f' ma mb mc) := by
  intro g S H σr σ Q rl hr
  refine ha g S H σr σ _ rl ((Res.bindM hr).imp fun e1 σ1 S1 H1 x1 r1 h1 => fun v1 hv1 => ?_)
  refine hb g S1 H1 σr σ1 _ r1 ((Res.bindM h1).imp fun e2 σ2 S2 H2 x2 r2 h2 => fun v2 hv2 => ?_)
  obtain ⟨d1, t1, h3⟩ := Res.look r2 (hv1.mono x2) h2
  obtain ⟨d2, t2, h4⟩ := Res.look r2 hv2 h3
  obtain ⟨d, hd, h5⟩ := Res.lift h4
  refine hf S2 H2 d1 d2 v1 v2 d _ r2.sH t1 t2 hd fun v hv => ?_
  cases d with
  | bl b =>
    have ev : v = .bl b := by
      unfold Rp at hv
      exact hv
    refine ⟨b, ev, ?_⟩
    cases b with
    | false => 
      rw [if_neg (by decide)]
      exact Res.ret h5 r2 _ rfl
    | true =>
      rw [if_pos rfl]
      refine hc g S2 H2 σr σ2 _ r2 ((Res.bindM h5).imp fun e3 σ3 S3 H3 x3 r3 h6 => fun v3 hv3 => ?_)
      obtain ⟨d2', t2', h7⟩ := Res.look r3 (hv2.mono x3) h6
      obtain ⟨d3, t3, h8⟩ := Res.look r3 hv3 h7
      obtain ⟨d', hd', h9⟩ := Res.lift h8
      exact hf' S3 H3 d2' d3 v2 v3 d' _ r3.sH t2' t3 hd' fun v hv => Res.ret h9 r3 v (Rp.no hv)
  | _ => exact h5.elim
theorem ResS.lift {α : Type} {o : Option α} {f : α → Sm} (h : ResS K W g S (M.bind (Uw.lift o) f σ) Dn) : ∃ a, o = some a ∧ ResS K W g S (f a σ) Dn := by
  cases o with
  | none => exact h.elim
  | some a => exact ⟨a, rfl, h⟩
theorem rs_parEM {i j : Nat} {ta tb : TE} {ma : M Ev} {mb : M (Bool × D)} (hij : i ≠ j) (ha : RefE K W ta ma) (hb : RefM K W tb mb) : RefS K W (tPar i j (tCons ta (tCons tb tNil))) (sParEM i j ma mb) := by
  intro g S H σr σ Dn r h
  refine re_val ha g S H σr σ _ r ((ResS.bind (σr := σr) h).imp fun e σ1 S1 H1 x1 r1 h1 => fun v hv => ?_)
  refine hb g S1 H1 σr σ1 _ r1 ((ResS.bind (σr := σr) h1).imp fun od σ2 S2 H2 x2 r2 h2 => fun p n1 n2 n3 hm => ?_)
  refine ⟨v, .ref p, rfl, ?_⟩
  obtain ⟨σ3, q3, h3⟩ := ResS.tgt h2
  have r3 := putV_ok r2 (hv.mono x2) q3
  have h' : ResS K W g S2 ((putMu j od σ3).bind fun p => M.ret .next p.2) Dn := h3
  unfold putMu at h'
  split at h'
  · rename_i hk
    refine h' _ S2 H2 (Ex.refl S2) (r3.putMu (okSlot_lt hk) n1 n2 (fun k hk => ?_) hm)
    cases e with
    | view z => unfold putV at q3; cases q3
    | val f d =>
      simp only [putV] at q3
      split at q3
      · cases q3
        exact n3 k (hk.of_set2 rfl).1
      · cases q3
  · exact h'.elim
theorem rs_parEE {i j : Nat} {ta tb : TE} {ma mb : M Ev} (ha : RefE K W ta ma) (hb : RefE K W tb mb) : RefS K W (tPar i j (tCons ta (tCons tb tNil))) (sParEE i j ma mb) := by
  intro g S H σr σ Dn r h
  refine re_val ha g S H σr σ _ r ((ResS.bind (σr := σr) h).imp fun e σ1 S1 H1 x1 r1 h1 => fun v hv => ?_)
  refine re_val hb g S1 H1 σr σ1 _ r1 ((ResS.bind (σr := σr) h1).imp fun e2 σ2 S2 H2 x2 r2 h2 => fun w hw => ?_)
  refine ⟨v, w, rfl, ?_⟩
  obtain ⟨σ3, q3, h3⟩ := ResS.tgt h2
  have r3 := putV_ok r2 (hv.mono x2) q3
  obtain ⟨σ4, q4, h4⟩ := ResS.tgt h3
  have hw' : EvOk K g S2 (σr.set i (some v)) w e2 := by
    cases e2 with
    | view z => unfold putV at q4; cases q4
    | val f d => exact hw
  exact h4 _ S2 H2 (Ex.refl S2) (putV_ok r3 hw' q4)
/-! stars -/
theorem EvsOk.append : ∀ {vs : List V} {es : List Ev} {ws : List V} {fs : List Ev}, EvsOk K g S σr vs es → EvsOk K g S σr ws fs → EvsOk K g S σr (vs ++ ws) (es ++ fs)
  | [], _, ws, fs, h, k => by cases h; exact k
  | v :: vs, _, ws, fs, ⟨e, es', h1, h2, h3⟩, k => by
    subst h1
    exact EvsOk.cons h2 (EvsOk.append h3 k)
theorem evs_items : ∀ {l : List (Fl × D)} {xs : List V}, ItemsAt K g S l xs → EvsOk K g S σr xs (evs l)
  | [], xs, h => by
    have : xs = [] := List.length_eq_zero_iff.mp h.1
    subst this
    exact EvsOk.nil
  | p :: l, xs, h => by
    cases xs with
    | nil => cases h.1
    | cons x xs =>
      refine EvsOk.cons ?_ (evs_items (l := l) ⟨by have := h.1; simpa using this, fun i f d hd => h.2 (i + 1) f d hd⟩)
      obtain ⟨u, h1, h2⟩ := h.2 0 p.1 p.2 rfl
      cases h1
      exact h2
theorem ra_star {te : TE} {t : TA} {m : M Ev} {ms : M (List Ev)} (he : RefE K W te m) (hs : RefA K W t ms) : RefA K W (StX.tStar K te t) (aStar m ms) := by
  intro g S H σr σ Q r h
  refine re_val he g S H σr σ _ r ((Res.bindM h).imp fun e σ1 S1 H1 x1 r1 h1 => fun v hv => ?_)
  have fin : ∀ {f : Fl} {ds : List D} {xs : List V}, KidF K g S1 f ds xs → Res K g W S1 σr ((M.bind (M.ret (ds.map fun d => (flKid f, d))) fun l => ms.bind fun es => M.ret (evs l ++ es)) σ1) (fun es _ S' H' => ∀ vs, EvsOk K g S' σr vs es → Q vs H') → t σr H1 fun ys H2 => Q (xs ++ ys) H2 := fun {f ds xs} k h2 => by
    have h3 : Res K g W S1 σr ((ms.bind fun es => M.ret (evs (ds.map fun d => (flKid f, d)) ++ es)) σ1) (fun es _ S' H' => ∀ vs, EvsOk K g S' σr vs es → Q vs H') := h2
    refine hs g S1 H1 σr σ1 _ r1 ((Res.bindM h3).imp fun es σ2 S2 H2 x2 r2 h4 => fun vs hvs => ?_)
    exact Res.ret h4 r2 _ (EvsOk.append (evs_items (k.items.mono x2)) hvs)
  cases e with
  | view i => exact h1.elim
  | val f d =>
    cases d with
    | lst ds =>
      have lk := FzOk.lk r1.seS r1.sH hv
      obtain ⟨a, xs, e1, e2, e3⟩ := lk
      exact ⟨a, xs, e1, .inr (sq_of e2), fin e3 h1⟩
    | tup ds =>
      have lk := FzOk.lk r1.seS r1.sH hv
      obtain ⟨_, a, xs, e1, e2, e3⟩ := lk
      exact ⟨a, xs, e1, .inl e2, fin e3 h1⟩
    | _ => exact h1.elim
/-- *range(e) -/
def tStarRg (te : L2.St → Hp → (Int → Int → Hp → Prop) → Prop) (t : TA) : TA := fun σ H Q => te σ H fun a b H1 => RgOk a b ∧ t σ H1 fun ys H2 => Q (rgV a b ++ ys) H2
theorem ra_starRg {te : TE} {t : TA} {m : M Ev} {ms : M (List Ev)} (he : RefE K W te m) (hs : RefA K W t ms) : RefA K W (tStarRg (tRg1 te) t) (aStarR m ms) := by
  intro g S H σr σ Q r h
  refine he g S H σr σ _ r ((Res.bindM h).imp fun e σ1 S1 H1 x1 r1 h1 => fun v hv => ?_)
  obtain ⟨d1, t1, h2⟩ := Res.look r1 hv h1
  cases d1 with
  | int n =>
    have h3 : Res K g W S1 σr ((if n < 100000 ∧ -100000 < n then ms.bind fun es => M.ret (((List.range n.toNat).map fun (k : Nat) => Ev.val Fl.own (D.int (k : Int))) ++ es) else fun _ => .bad : M (List Ev)) σ1) (fun es _ S' H' => ∀ vs, EvsOk K g S' σr vs es → Q vs H') := h2
    have e1 : v = .int n := by
      have t2 : Rp K yes S1 (.int n) v := t1
      unfold Rp at t2
      exact t2
    split at h3
    · rename_i hn
      refine ⟨n, e1, ⟨by omega, by omega, by omega, by omega, by omega⟩, ?_⟩
      refine hs g S1 H1 σr σ1 _ r1 ((Res.bindM h3).imp fun es σ2 S2 H2 x2 r2 h4 => fun vs hvs => ?_)
      refine Res.ret h4 r2 _ (EvsOk.append ?_ hvs)
      have it : ItemsAt K g S2 ((List.range n.toNat).map fun (k : Nat) => (Fl.own, D.int (k : Int))) (rgV 0 n) := by
        unfold rgV
        rw [Int.sub_zero]
        refine ⟨by rw [List.length_map, List.length_map], fun i f d hd => ?_⟩
        rw [List.getElem?_map] at hd ⊢
        cases z : (List.range n.toNat)[i]? with
        | none => rw [z] at hd; cases hd
        | some k =>
          rw [z] at hd
          cases hd
          exact ⟨_, rfl, by show V.int _ = V.int _; rw [Int.zero_add]⟩
      have z := evs_items (σr := σr) it
      unfold evs at z
      rw [List.map_map] at z
      exact z
    · exact h3.elim
  | _ => exact h2.elim
end
section
variable {X : Cx} {e : Expr} {es : List Expr} {te : L2.St → Hp → (Int → Int → Hp → Prop) → Prop} {t : TA} {p : Pos}
theorem star_range {pins : List (Addr × Obj)} {σ : L2.St} {H : Hp} {s : Shared} {r : Addr} {a b : Int} {t u v : Tok} {E : Value → Shared → Prop} {Q : List Value → Shared → Prop} (hc : X.calm = true) (I : Inv X pins σ H s) (hr : IsRange s.heap r a b 1 t u v) (ok : RgOk a b)
    (hQ : ∀ us s', Inv X pins σ H s' → Vals (rgV a b) us → Q us s') : PySem.W.StarOf (model X.prog X.w) X.A E (.ref r) Q s := by
  obtain ⟨b1, b2, b3, b4, b5⟩ := ok
  have hT : s.TypeIs (.ref r) "range" := ⟨_, hr, rfl⟩
  have z : wpAny (model X.prog X.w) X.A (collect (.ref r)) Q E s :=
    collect_range (I.ok.hd hc) hr (small_one b1 b2 b3 b4) (rangeSize_nat a b) b5 fun h' tk acc hk hi => hQ _ _ (I.kept (t' := tk) hk) (vals_rg hi)
  unfold PySem.W.StarOf notIterableAtAll
  exact wpAny_bind (wpAny_specialOf hT PySem.F.slot_range_iter.lookup (wpAny_pure ⟨rfl, z⟩))
theorem pa_starRg (hc : X.calm = true) (he : PRg X e te) (hr : PA X es t) (hs : starEach (.Starred e p :: es) X.env = (true, eval e X.env) :: starEach es X.env := by rfl) : PA X (.Starred e p :: es) (tStarRg te t) := by
  refine ⟨fun pos pins s σ H Q I h => ?_⟩
  refine PySem.W.items_star (thn (he pins s σ H _ I h) fun v s1 ⟨r, a, b, t1, u1, v1, H1, ex, hrg, I1, ok, q⟩ => ?_) hs
  subst ex
  refine star_range hc I1 hrg ok fun us s2 I2 rv => ?_
  exact thn (hr.run pos pins s2 σ H1 _ I2 q) fun ws s3 ⟨vs, H3, I3, r3, q3⟩ => ⟨rgV a b ++ vs, H3, I3, rv.append r3, q3⟩
end
end Uw

set_option Elab.async false
set_option linter.all false
set_option maxRecDepth 100000
set_option maxHeartbeats 2000000
namespace Uw
open PySem PySem.Spec PyProof.Rows L2

section
variable {K : PySem.W.Frag} {g : Gho} {S S' H H' : Hp} {σr σr' : L2.St} {σ σ' σ0 : List Sv} {W : WX} {Dn : Ends}
theorem rpk_val {G : Addr → Prop} {k : Key} : ∀ {kvs : List (Key × D)} {xs : List (Key × V)} {d : D}, RpK K G S kvs xs → valD kvs k = some d → ∃ v, valV xs k = some v ∧ Rp K G S d v
  | [], xs, d, h, q => by cases q
  | (k0, d0) :: kvs, xs, d, h, q => by
    unfold RpK at h
    obtain ⟨v, vs, e1, h1, h2⟩ := h
    subst e1
    by_cases e : k0 = k
    · subst e
      unfold valD at q
      rw [List.find?_cons] at q
      simp only [decide_true, Option.map] at q
      cases q
      exact ⟨v, valV_pos rfl, h1⟩
    · rw [valV_neg e]
      refine rpk_val h2 ?_
      unfold valD at q ⊢
      rw [List.find?_cons] at q
      simpa [e] using q
theorem key_tp {d : D} {v : V} {k : Key} (h : dKey d = some k) (t : Tp K S H d v) : v = kV k := by
  cases d with
  | int i =>
    cases h
    have t' : Rp K yes S (.int i) v := t
    unfold Rp at t'
    exact t'
  | str i =>
    cases h
    have t' : Rp K yes S (.str i) v := t
    unfold Rp at t'
    exact t'
  | _ => cases h
theorem fz_dic {f : Fl} {kvs : List (Key × D)} {v : V} (hse : Ex g.Se S) (h : FzOk K g S (.dic kvs) v f) :
    ∃ a xs, v = .ref a ∧ S a = some (.dK xs) ∧ RpK K yes S kvs xs ∧ (∀ k d, valD kvs k = some d → ∃ u, valV xs k = some u ∧ FzOk K g S d u (flGet f)) ∧ (Fl.isOwn (f, .dic kvs) = true → RpK K g.nu S kvs xs) := by
  have im : Fl.isOwn (f, .dic kvs) = true → (f = .own ∨ immL (kvs.map (·.2)) = true) := fun q => by
    unfold Fl.isOwn at q
    have q1 : imm (.dic kvs) = false := by unfold imm; rfl
    cases f with
    | any => rw [q1] at q; cases q
    | top => rw [q1] at q; exact .inr q
    | own => exact .inl rfl
    | old => rw [q1] at q; cases q
  cases f with
  | any =>
    have h' : Rp K yes S (.dic kvs) v := h
    unfold Rp at h'
    obtain ⟨a, xs, e1, _, e2, e3⟩ := h'
    refine ⟨a, xs, e1, e2, e3, fun k d q => rpk_val e3 q, fun q => ?_⟩
    rcases im q with q | q
    · cases q
    · exact RpK.imm q e3
  | top =>
    have h' : Rp K yes S (.dic kvs) v := h.1
    unfold Rp at h'
    obtain ⟨a, xs, e1, _, e2, e3⟩ := h'
    refine ⟨a, xs, e1, e2, e3, fun k d q => rpk_val e3 q, fun q => ?_⟩
    rcases im q with q | q
    · cases q
    · exact RpK.imm q e3
  | own =>
    have h' : Rp K g.nu S (.dic kvs) v := h
    unfold Rp at h'
    obtain ⟨a, xs, e1, _, e2, e3⟩ := h'
    exact ⟨a, xs, e1, e2, RpK.mono yes_of (Ex.refl S) e3, fun k d q => rpk_val e3 q, fun _ => e3⟩
  | old =>
    have h' : Rp K yes g.Se (.dic kvs) v := h
    unfold Rp at h'
    obtain ⟨a, xs, e1, _, e2, e3⟩ := h'
    refine ⟨a, xs, e1, hse _ _ e2, RpK.mono yes_of hse e3, fun k d q => rpk_val e3 q, fun q => ?_⟩
    rcases im q with q | q
    · cases q
    · exact RpK.imm q (RpK.mono yes_of hse e3)
theorem re_dget {to tk : TE} {mo mk : M Ev} (ho : RefE K W to mo) (hk : RefE K W tk mk) : RefE K W (tDGet to tk) (eDGet mo mk) := by
  intro g S H σr σ Q r h
  refine re_val ho g S H σr σ _ r ((Res.bindM h).imp fun e σ1 S1 H1 x1 r1 h1 => fun v hv => ?_)
  refine hk g S1 H1 σr σ1 _ r1 ((Res.bindM h1).imp fun ek σ2 S2 H2 x2 r2 h2 => fun vk hvk => ?_)
  obtain ⟨dk, t1, h3⟩ := Res.look r2 hvk h2
  cases e with
  | view i => exact h3.elim
  | val f d =>
    cases d with
    | dic kvs =>
      cases qk : dKey dk with
      | none => simp only [qk] at h3; exact h3.elim
      | some k =>
        simp only [qk] at h3
        obtain ⟨d, hd, h4⟩ := Res.lift h3
        obtain ⟨a, xs, e1, e2, _, e4, _⟩ := fz_dic r2.seS (hv.mono x2)
        obtain ⟨u, u1, u2⟩ := e4 k d hd
        have ek := key_tp qk t1
        refine ⟨a, u, e1, ?_, Res.ret h4 r2 _ u2⟩
        rw [ek, ← u1]
        exact DGet.k (r2.sH _ _ e2)
    | _ => exact h3.elim
theorem rpl_items {G : Addr → Prop} : ∀ {kvs : List (Key × D)} {xs : List (Key × V)} {ts : List Addr}, RpK K G S kvs xs → Paired (fun (t : Addr) (q : Key × V) => S t = some (.tup [kV q.1, q.2])) ts xs → RpL K G S (kvs.map fun kv => .tup [keyD kv.1, kv.2]) (ts.map V.ref)
  | [], xs, ts, h, p => by
    unfold RpK at h
    subst h
    cases p
    exact RpL.nil
  | (k, d) :: kvs, xs, ts, h, p => by
    unfold RpK at h
    obtain ⟨v, vs, e1, h1, h2⟩ := h
    subst e1
    cases p with
    | cons hp hps =>
      refine RpL.cons ?_ (rpl_items h2 hps)
      unfold Rp
      refine ⟨_, [kV k, v], rfl, st_of hp, RpL.cons ?_ (RpL.one h1)⟩
      cases k <;> (unfold keyD Rp; rfl)
theorem rm_items {te : TE} {m : M Ev} (he : RefE K W te m) : RefM K W (LiI.tListItems te) (eItems m) := by
  intro g S H σr σ Q r h
  refine re_val he g S H σr σ _ r ((Res.bindM h).imp fun e σ1 S1 H1 x1 r1 h1 => fun v hv => ?_)
  cases e with
  | view i => exact h1.elim
  | val f d =>
    cases d with
    | dic kvs =>
      have h2 : Res K g W S1 σr ((if sizeB kvs.length = true then M.ret (Fl.isOwn (f, .dic kvs), .lst (kvs.map fun kv => .tup [keyD kv.1, kv.2])) else fun _ => .bad : M (Bool × D)) σ1) _ := h1
      split at h2
      · obtain ⟨a, xs, e1, e2, e3, _, e5⟩ := fz_dic r1.seS hv
        refine ⟨a, xs, e1, r1.sH _ _ e2, fun H' p ts hk hp hts hpt hH' hpair => ?_⟩
        have eS : Ex S1 (fun b => if b ∈ ts then H' b else S1 b) := fun b o hb => by
          have hn : b ∉ ts := fun z => by have := hts b z; rw [r1.sH _ _ hb] at this; cases this
          show (if b ∈ ts then H' b else S1 b) = _
          rw [if_neg hn]
          exact hb
        have eSH : Ex (fun b => if b ∈ ts then H' b else S1 b) H' := fun b o hb => by
          have hb' : (if b ∈ ts then H' b else S1 b) = some o := hb
          split at hb'
          · exact hb'
          · exact hk _ _ (r1.sH _ _ hb')
        have r2 : Rel K g (fun b => if b ∈ ts then H' b else S1 b) H' σr σ1 := by
          refine r1.grow eS eSH (r1.bH.trans hk) (fun b h3 h4 => ?_) (fun i q hq => ?_)
          · have hb' : (if b ∈ ts then H' b else S1 b) ≠ none := h3
            split at hb'
            · rename_i hm
              exact r1.bH.back (hts b hm)
            · exact absurd h4 hb'
          · obtain ⟨n1, _, n3⟩ := r1.muP hq
            have hn : q ∉ ts := fun z => n3 (hts q z)
            show (if q ∈ ts then H' q else S1 q) = none ∧ _
            rw [if_neg hn]
            refine ⟨n1, ?_⟩
            cases z : H1 q with
            | none => exact absurd z n3
            | some o => rw [hk _ _ z]
        have pair' : Paired (fun (t : Addr) (q : Key × V) => (if t ∈ ts then H' t else S1 t) = some (.tup [kV q.1, q.2])) ts xs := by
          have gen : ∀ {us : List Addr} {ys : List (Key × V)}, (∀ t ∈ us, t ∈ ts) → Paired (fun (t : Addr) (q : Key × V) => H' t = some (.tup [kV q.1, q.2])) us ys → Paired (fun (t : Addr) (q : Key × V) => (if t ∈ ts then H' t else S1 t) = some (.tup [kV q.1, q.2])) us ys := by
            intro us ys hm hp
            induction hp with
            | nil => exact .nil
            | cons h t ih => exact .cons (by rw [if_pos (hm _ (List.mem_cons_self ..))]; exact h) (ih fun t ht => hm t (List.mem_cons_of_mem _ ht))
          exact gen (fun t ht => ht) hpair
        refine Res.ret' h2 eS r2 p ?_ ?_ (fun i hi => (r1.muP hi).2.2 hp) ⟨ts.map V.ref, hH', ?_⟩
        · show (if p ∈ ts then H' p else S1 p) = none
          rw [if_neg hpt]
          exact r1.sH.back hp
        · exact r1.bH.back hp
        · show RpL K (gdO g (Fl.isOwn (f, .dic kvs))) _ _ _
          cases z : Fl.isOwn (f, .dic kvs) with
          | true => exact rpl_items (RpK.mono (fun _ x => x) eS (e5 z)) pair'
          | false => exact rpl_items (RpK.mono yes_of eS e3) pair'
      · exact h2.elim
    | _ => exact h1.elim
theorem rpk_put {G : Addr → Prop} {k : Key} {d : D} {v : V} (hv : Rp K G S d v) : ∀ {kvs : List (Key × D)} {xs : List (Key × V)}, RpK K G S kvs xs → (kvs.any fun kv => decide (kv.1 = k)) = (xs.any fun kv => decide (kv.1 = k)) ∧
    RpK K G S (kvs.map fun kv => if kv.1 = k then (kv.1, d) else kv) (xs.map fun kv => if kv.1 = k then (kv.1, v) else kv) ∧ RpK K G S (kvs ++ [(k, d)]) (xs ++ [(k, v)])
  | [], xs, h => by
    unfold RpK at h
    subst h
    refine ⟨rfl, ?_, ?_⟩
    · unfold RpK; rfl
    · show RpK K G S [(k, d)] [(k, v)]
      unfold RpK
      exact ⟨v, [], rfl, hv, by unfold RpK; rfl⟩
  | (k0, d0) :: kvs, xs, h => by
    unfold RpK at h
    obtain ⟨u, vs, e1, h1, h2⟩ := h
    subst e1
    obtain ⟨i1, i2, i3⟩ := rpk_put hv h2
    refine ⟨by rw [List.any_cons, List.any_cons, i1], ?_, ?_⟩
    · rw [List.map_cons, List.map_cons]
      by_cases e : k0 = k
      · simp only [e, if_true]
        unfold RpK
        exact ⟨v, _, rfl, hv, i2⟩
      · simp only [e, if_false]
        unfold RpK
        exact ⟨u, _, rfl, h1, i2⟩
    · show RpK K G S ((k0, d0) :: (kvs ++ [(k, d)])) ((k0, u) :: (vs ++ [(k, v)]))
      unfold RpK
      exact ⟨u, _, rfl, h1, i3⟩
theorem rpk_putD {G : Addr → Prop} {k : Key} {d : D} {v : V} {kvs : List (Key × D)} {xs : List (Key × V)} (h : RpK K G S kvs xs) (hv : Rp K G S d v) : RpK K G S (putD kvs k d) (putK xs k v) := by
  obtain ⟨i1, i2, i3⟩ := rpk_put (k := k) hv h
  unfold putD putK
  rw [i1]
  split
  · exact i2
  · exact i3
theorem rpk_merge {G : Addr → Prop} : ∀ {more : List (Key × D)} {ys : List (Key × V)} {kvs : List (Key × D)} {xs : List (Key × V)}, RpK K G S more ys → RpK K G S kvs xs → RpK K G S (mergeD kvs more) (mergeK xs ys)
  | [], ys, kvs, xs, h, k => by
    unfold RpK at h
    subst h
    exact k
  | (k0, d0) :: more, ys, kvs, xs, h, k => by
    unfold RpK at h
    obtain ⟨v, vs, e1, h1, h2⟩ := h
    subst e1
    show RpK K G S (mergeD (putD kvs k0 d0) more) (mergeK (putK xs k0 v) vs)
    exact rpk_merge (more := more) h2 (rpk_putD k h1)
theorem rpk_nil {G : Addr → Prop} : RpK K G S [] [] := by unfold RpK; rfl
theorem rpl_pairs {G : Addr → Prop} : ∀ {ds : List D} {vs : List V} {kvs : List (Key × D)}, pairsOf ds = some kvs → RpL K G S ds vs → ∃ (ps : List Addr) (ws : List (Key × V)), vs = ps.map V.ref ∧ Paired (fun p kv => SqT K S p [kV kv.1, kv.2]) ps ws ∧ RpK K G S kvs ws
  | [], vs, kvs, q, h => by
    cases q
    have e : vs = [] := h
    subst e
    exact ⟨[], [], rfl, .nil, rpk_nil⟩
  | d0 :: ds, vs, kvs, q, h => by
    obtain ⟨v, vs', e1, h1, h2⟩ := h
    subst e1
    unfold pairsOf at q
    split at q
    · rename_i e; cases e
    · rename_i k d ds' e
      cases e
      cases z1 : dKey k with
      | none => rw [z1] at q; cases q
      | some k' =>
        rw [z1] at q
        cases z2 : pairsOf ds with
        | none => rw [z2] at q; cases q
        | some kr =>
          rw [z2] at q
          cases q
          obtain ⟨ps, ws, i1, i2, i3⟩ := rpl_pairs z2 h2
          subst i1
          unfold Rp at h1
          obtain ⟨a, xs, e3, e4, h3⟩ := h1
          obtain ⟨x1, xs1, e5, h5, h6⟩ := h3
          obtain ⟨x2, xs2, e6, h7, h8⟩ := h6
          have e7 : xs2 = [] := h8
          subst e7 e6 e5 e3
          have e8 : x1 = kV k' := by
            cases k with
            | int i => cases z1; unfold Rp at h5; exact h5
            | str i => cases z1; unfold Rp at h5; exact h5
            | _ => cases z1
          subst e8
          refine ⟨a :: ps, (k', x2) :: ws, rfl, .cons e4 i2, ?_⟩
          unfold RpK
          exact ⟨x2, ws, rfl, h7, i3⟩
    · cases q
abbrev rDictP (K : PySem.W.Frag) : List V → Hp → VK → Prop := fun xs H Q => ∃ (a : Addr) (ps : List Addr) (kvs : List (Key × V)), xs = [.ref a] ∧ SqL K H a (ps.map V.ref) ∧ Paired (fun p kv => SqT K H p [kV kv.1, kv.2]) ps kvs ∧
    ∀ p, H p = none → Q (.ref p) (upd H p (.dK (mergeK [] kvs)))
theorem paired_ext {ps : List Addr} {ws : List (Key × V)} (e : Ex S H) (h : Paired (fun p kv => SqT K S p [kV kv.1, kv.2]) ps ws) : Paired (fun p kv => SqT K H p [kV kv.1, kv.2]) ps ws := by
  induction h with
  | nil => exact .nil
  | cons h t ih => exact .cons (ex_t e h) ih
theorem rm_dict {te : TE} {m : M Ev} (he : RefE K W te m) : RefM K W (tCB (rDictP K) (tCons te tNil)) (eDict m) := by
  intro g S H σr σ Q r h
  refine re_val he g S H σr σ _ r ((Res.bindM h).imp fun e σ1 S1 H1 x1 r1 h1 => fun v hv => ?_)
  cases e with
  | view i => exact h1.elim
  | val f d =>
    cases d with
    | lst ds =>
      obtain ⟨kvs, hk, h2⟩ := Res.lift (o := pairsOf ds) h1
      obtain ⟨v1, vs1, e1, h3, _⟩ := gdO_own (o := true) r1.seS hv
      cases e1
      unfold Rp at h3
      obtain ⟨a, xs, e2, _, e3, h4⟩ := h3
      subst e2
      obtain ⟨ps, ws, i1, i2, i3⟩ := rpl_pairs hk h4
      subst i1
      refine ⟨a, ps, ws, rfl, sq_of (r1.sH _ _ e3), paired_ext r1.sH i2, fun p hp => ?_⟩
      obtain ⟨n1, n2, n3⟩ := r1.newP hp
      exact Res.ret h2 (r1.newH hp) p n1 n2 n3 ⟨_, upd_same, rpk_merge i3 rpk_nil⟩
    | _ => exact h1.elim
theorem rm_dnew : RefM K W tDNewK eDNew := by
  intro g S H σr σ Q r h p hp
  obtain ⟨n1, n2, n3⟩ := r.newP hp
  exact Res.ret h (r.newH hp) p n1 n2 n3 ⟨_, upd_same, rpk_nil⟩
theorem Rel.chg (r : Rel K g S H σr σ) {p : Addr} {o : HO} (h1 : S p = none) (h2 : g.B p = none) (h3 : ∀ i, ¬ MuP σr σ i p) : Rel K g S (upd H p o) σr σ := by
  refine r.grow (Ex.refl S) (r.sH.upd h1) (r.bH.upd h2) (fun a h1 h2 => absurd h2 h1) (fun i q hq => ?_)
  have ne : q ≠ p := fun e => h3 i (e ▸ hq)
  rw [upd_ne ne]
  exact ⟨(r.muP hq).1, rfl⟩
theorem Res.ug {α : Type} {B : Hp} {r : R (α × List Sv)} {F : α → List Sv → Hp → Hp → Prop} (hB : Ex g.B B) (h : Res K g W S σr r F) : Res K { g with B := B } W S σr r F := by
  cases r with
  | ok p => exact fun S' H' e r => h S' H' e (r.unguard hB)
  | exc c fs => exact fun S' H' σ' dx xs e r => h S' H' σ' dx xs e (r.unguard hB)
  | bad => exact h
theorem rm_done {tk tv : TE} {mk mv : M Ev} (hk : RefE K W tk mk) (hv : RefE K W tv mv) : RefM K W (tDisp [(tk, tv)]) (eDOne mk mv) := by
  intro g S H σr σ Q r h p hp
  obtain ⟨n1, n2, n3⟩ := r.newP hp
  have r0 := r.newH (o := .dK []) hp
  have rB : Rel K { g with B := upd g.B p (.dK []) } S (upd H p (.dK [])) σr σ := r0.guard upd_same n1 n3
  have hB : Ex g.B (upd g.B p (.dK [])) := Ex.new n2
  have z0 : g.S0 p = none := (r.s0e.trans r.seS).back n1
  refine hk _ S _ σr σ _ rB ((Res.ug hB (Res.bindM h)).imp fun ek σ1 S1 H1 x1 r1 h1 => fun vk hvk => ?_)
  obtain ⟨dk, t1, h2⟩ := Res.look (g := g) (r1.unguard hB) hvk h1
  refine re_val hv _ S1 H1 σr σ1 _ r1 ((Res.ug hB (Res.bindM h2)).imp fun e σ2 S2 H2 x2 r2 h3 => fun v hv => ?_)
  have hp2 : H2 p = some (.dK []) := r2.bH _ _ upd_same
  cases qk : dKey dk with
  | none => simp only [qk] at h3; exact h3.elim
  | some k =>
    cases e with
    | view i => simp only [qk] at h3; exact h3.elim
    | val f d =>
      simp only [qk] at h3
      have ek := key_tp qk t1
      refine ⟨hp2, [(k, v)], ?_, Nat.le_of_ble_eq_true rfl, ?_⟩
      · rw [ek]
        rfl
      · have hS2 : S2 p = none := by
          cases z : S2 p with
          | none => rfl
          | some o =>
            have := r2.fresh p (by rw [z]; exact fun w => nomatch w) z0
            rw [show ({ g with B := upd g.B p (.dK []) } : Gho).B p = some (.dK []) from upd_same] at this
            cases this
        have hM : ∀ i, ¬ MuP σr σ2 i p := fun i hi => by
          have := (r2.muP hi).2.1
          rw [show ({ g with B := upd g.B p (.dK []) } : Gho).B p = some (.dK []) from upd_same] at this
          cases this
        have r3 : Rel K g S2 H2 σr σ2 := r2.unguard hB
        have hd : RpK K (gdO g (Fl.isOwn (f, d))) S2 [(k, d)] [(k, v)] := by
          obtain ⟨v1, vs1, e1, h4, _⟩ := gdO_own (g := g) (o := true) r3.seS hv
          cases e1
          unfold RpK
          exact ⟨v, [], rfl, h4, rpk_nil⟩
        have hm : mergeK [] [(k, v)] = [(k, v)] := rfl
        rw [hm]
        exact Res.ret h3 (r3.chg hS2 n2 hM) p hS2 n2 hM ⟨_, upd_same, hd⟩
end
end Uw

set_option Elab.async false
set_option linter.all false
set_option maxRecDepth 100000
set_option maxHeartbeats 2000000
namespace Uw
open PySem PySem.Spec PyProof.Rows L2

/-! ### sorted -/
abbrev SKey := List (Int ⊕ List Nat)
def sk1 : D → Int ⊕ List Nat
  | .int i => .inl i
  | .str s => .inr s.cps.toList
  | _ => .inl 0
def skey : D → SKey
  | .tup ds => ds.map sk1
  | d => [sk1 d]
def kLt (a b : D) : Bool := lexLt itemOrd (skey a) (skey b)
def insD (x : D) : List D → List D
  | [] => [x]
  | y :: ys => if kLt y x = true then y :: insD x ys else x :: y :: ys
def sortD : List D → List D
  | [] => []
  | x :: xs => insD x (sortD xs)
def isStr : D → Bool
  | .str _ => true
  | _ => false
def isInt : D → Bool
  | .int _ => true
  | _ => false
def isTupS : D → Bool
  | .tup (d :: ds) => isStr d && ds.all isStr
  | _ => false
def dSorted : List D → Option D
  | [.lst ds] => if ds.all isStr = true ∧ ds.length < 64 then some (.lst (sortD ds)) else if ds.all isInt = true ∧ ds.length < 64 then some (.lst (sortD ds)) else if ds.all isTupS = true ∧ ds.length ≤ 100000 then some (.lst (sortD ds)) else none
  | [.tup ds] => if ds.all isStr = true ∧ ds.length < 64 then some (.lst (sortD ds)) else none
  | _ => none
theorem kle_trans {a b c : D} (h1 : kLt b a = false) (h2 : kLt c b = false) : kLt c a = false := by
  cases h : kLt c a with
  | false => rfl
  | true =>
    rcases (listOrd itemOrd).negTrans (skey c) (skey b) (skey a) h with h | h
    · rw [show kLt c b = true from h] at h2; cases h2
    · rw [show kLt b a = true from h] at h1; cases h1
theorem kLt_asym {a b : D} (h : kLt a b = true) : kLt b a = false := by
  cases h2 : kLt b a with
  | false => rfl
  | true =>
    have := (listOrd itemOrd).trans _ _ _ h h2
    rw [(listOrd itemOrd).irrefl] at this
    cases this
abbrev SrtD (l : List D) : Prop := l.Pairwise fun x y => kLt y x = false
theorem insD_perm (x : D) : ∀ l : List D, (insD x l).Perm (x :: l)
  | [] => .refl _
  | y :: ys => by
    unfold insD
    split
    · exact ((insD_perm x ys).cons y).trans (.swap x y ys)
    · exact .refl _
theorem sortD_perm : ∀ l : List D, (sortD l).Perm l
  | [] => .refl _
  | x :: xs => (insD_perm x (sortD xs)).trans ((sortD_perm xs).cons x)
theorem insD_srt {x : D} : ∀ {l : List D}, SrtD l → SrtD (insD x l)
  | [], _ => List.pairwise_singleton _ _
  | y :: ys, h => by
    unfold insD
    obtain ⟨h1, h2⟩ := List.pairwise_cons.mp h
    split
    · rename_i hc
      refine List.pairwise_cons.mpr ⟨fun z hz => ?_, insD_srt h2⟩
      rcases List.mem_cons.mp ((insD_perm x ys).mem_iff.mp hz) with e | hz
      · rw [e]; exact kLt_asym hc
      · exact h1 z hz
    · rename_i hc
      have hc' : kLt y x = false := by cases q : kLt y x with | false => rfl | true => exact absurd q hc
      refine List.pairwise_cons.mpr ⟨fun z hz => ?_, h⟩
      rcases List.mem_cons.mp hz with e | hz
      · rw [e]; exact hc'
      · exact kle_trans hc' (h1 z hz)
theorem sortD_srt : ∀ l : List D, SrtD (sortD l)
  | [] => .nil
  | x :: xs => insD_srt (sortD_srt xs)
theorem srt_uniq {P : D → Prop} (anti : ∀ a b, P a → P b → kLt a b = false → kLt b a = false → a = b) : ∀ {l m : List D}, l.Perm m → SrtD l → SrtD m → (∀ a ∈ l, P a) → l = m
  | [], m, h, _, _, _ => h.nil_eq
  | x :: l, m, h, h1, h2, hp => by
    cases m with
    | nil => exact absurd h.length_eq (by simp)
    | cons y m =>
      obtain ⟨a1, a2⟩ := List.pairwise_cons.mp h1
      obtain ⟨b1, b2⟩ := List.pairwise_cons.mp h2
      have hx : x = y ∨ x ∈ m := List.mem_cons.mp (h.mem_iff.mp (List.mem_cons_self ..))
      have hy : y = x ∨ y ∈ l := List.mem_cons.mp (h.mem_iff.mpr (List.mem_cons_self ..))
      have e : x = y := by
        rcases hx with e | hx
        · exact e
        · rcases hy with e | hy
          · exact e.symm
          · exact anti x y (hp x (List.mem_cons_self ..)) (hp y (List.mem_cons_of_mem _ hy)) (b1 x hx) (a1 y hy)
      subst e
      rw [srt_uniq anti (List.Perm.cons_inv h) a2 b2 fun a ha => hp a (List.mem_cons_of_mem _ ha)]
theorem sk1_inj {a b : D} (ha : isStr a = true ∨ isInt a = true) (hb : isStr b = true ∨ isInt b = true) (h : sk1 a = sk1 b) : a = b := by
  cases a <;> first | (rcases ha with h | h <;> cases h; done) | skip
  all_goals cases b <;> first | (rcases hb with h | h <;> cases h; done) | skip
  · cases h; rfl
  · cases h
  · cases h
  · rename_i s t
    have e : s.cps.toList = t.cps.toList := by injection h
    have e2 : s.cps = t.cps := Array.toList_inj.mp e
    cases s; cases t
    cases e2
    rfl
theorem sk1s_inj : ∀ {as bs : List D}, as.all isStr = true → bs.all isStr = true → as.map sk1 = bs.map sk1 → as = bs
  | [], [], _, _, _ => rfl
  | [], _ :: _, _, _, h => by cases h
  | _ :: _, [], _, _, h => by cases h
  | a :: as, b :: bs, h1, h2, h => by
    rw [List.all_cons, Bool.and_eq_true] at h1 h2
    rw [List.map_cons, List.map_cons] at h
    injection h with e1 e2
    rw [sk1_inj (.inl h1.1) (.inl h2.1) e1, sk1s_inj h1.2 h2.2 e2]
theorem skey_eq {a b : D} (h1 : kLt a b = false) (h2 : kLt b a = false) : skey a = skey b := (listOrd itemOrd).total _ _ h1 h2
theorem anti_str (a b : D) (ha : isStr a = true) (hb : isStr b = true) (h1 : kLt a b = false) (h2 : kLt b a = false) : a = b := by
  have e := skey_eq h1 h2
  cases a <;> first | (cases ha; done) | skip
  cases b <;> first | (cases hb; done) | skip
  exact sk1_inj (.inl rfl) (.inl rfl) (List.head_eq_of_cons_eq e)
theorem anti_int (a b : D) (ha : isInt a = true) (hb : isInt b = true) (h1 : kLt a b = false) (h2 : kLt b a = false) : a = b := by
  have e := skey_eq h1 h2
  cases a <;> first | (cases ha; done) | skip
  cases b <;> first | (cases hb; done) | skip
  exact sk1_inj (.inr rfl) (.inr rfl) (List.head_eq_of_cons_eq e)
theorem tupS_all {d : D} (h : isTupS d = true) : ∃ ds, d = .tup ds ∧ ds.all isStr = true ∧ ds ≠ [] := by
  cases d with
  | tup ds =>
    cases ds with
    | nil => cases h
    | cons d ds => exact ⟨_, rfl, by rw [List.all_cons]; exact h, fun z => by cases z⟩
  | _ => cases h
theorem anti_tup (a b : D) (ha : isTupS a = true) (hb : isTupS b = true) (h1 : kLt a b = false) (h2 : kLt b a = false) : a = b := by
  have e := skey_eq h1 h2
  obtain ⟨as, e1, h3, _⟩ := tupS_all ha
  obtain ⟨bs, e2, h4, _⟩ := tupS_all hb
  subst e1 e2
  rw [sk1s_inj h3 h4 e]
/-- sorted lists with the same members are the same -/
theorem sortD_uniq {l m : List D} (P : D → Bool) (anti : ∀ a b, P a = true → P b = true → kLt a b = false → kLt b a = false → a = b) (h : l.Perm m) (hs : SrtD l) (hp : m.all P = true) : l = sortD m :=
  srt_uniq (P := fun d => P d = true) anti (h.trans (sortD_perm m).symm) hs (sortD_srt m) fun a ha => List.all_eq_true.mp hp a (h.mem_iff.mp ha)

/-! ### the rule -/
def isTupV (K : PySem.W.Frag) (H : Hp) (x : V) (zs : List Str) : Prop := zs ≠ [] ∧ ∃ a, x = .ref a ∧ SqT K H a (zs.map V.str)
def sksOf (zs : List Str) : SKey := zs.map fun z => .inr z.cps.toList
def rSortedTS (K : PySem.W.Frag) : List V → Hp → VK → Prop := fun vs H Q => ∃ (a : Addr) (xs : List V), vs = [V.ref a] ∧ SqL K H a xs ∧ (∀ x ∈ xs, ∃ zs, isTupV K H x zs) ∧
  ∀ (ys : List V) (p : Addr), ys.Perm xs → (∀ (i j : Nat) (x y : V) (zs ws : List Str), i ≤ j → ys[i]? = some x → ys[j]? = some y → isTupV K H x zs → isTupV K H y ws → lexLt itemOrd (sksOf ws) (sksOf zs) = false) → H p = none → Q (.ref p) (upd H p (.lst ys))
section
variable {X : Cx}
theorem tupItems_strs : ∀ {zs : List Str} {us : List Value} (i : Nat), Vals (zs.map V.str) us → tupItems (fun _ => true) i us = some (sksOf zs)
  | [], us, i, h => by
    cases h
    rfl
  | z :: zs, us, i, h => by
    rw [List.map_cons] at h
    cases h with
    | cons r t =>
      obtain ⟨k, rfl⟩ := r
      show (if (fun _ : Nat => true) i = true then (tupItems (fun _ => true) (i + 1) _).map (Sum.inr z.cps.toList :: ·) else none) = _
      rw [if_pos rfl, tupItems_strs (i + 1) t]
      rfl
theorem tup_at {pins : List (Addr × Obj)} {σ : L2.St} {H : Hp} {s : Shared} {x : V} {u : Value} {zs : List Str} (I : Inv X pins σ H s) (r : RelV x u) (h : isTupV X.K H x zs) :
    G.tupKeyC s.heap (fun _ => true) u = some (sksOf zs) ∧ ∃ f, TupOf s.heap (fun _ => true) u f := by
  obtain ⟨hne, a, rfl, ht⟩ := h
  obtain rfl : u = Value.ref a := r
  obtain ⟨its, rv, ⟨o, ho, hc, n, hd⟩, hz⟩ := I.tuple ht
  have hk := tupItems_strs 0 rv
  refine ⟨?_, ?_⟩
  · unfold G.tupKeyC
    have h1 : G.isTupObj s.heap (.ref a) = true := by
      simp only [G.isTupObj, ho, hc]
      rfl
    rw [if_pos h1]
    simp only [tupKey, ho, hd]
    exact hk
  · cases zs with
    | nil => exact absurd rfl hne
    | cons z zs =>
      rw [List.map_cons] at rv
      cases rv with
      | cons r t =>
        obtain ⟨k, rfl⟩ := r
        exact ⟨.str z k, a, o, _, n, rfl, ho, hc, hd, rfl, fun h => absurd (show true = false from h) (by decide), fun _ => ⟨z, k, rfl⟩⟩
theorem tups_all {pins : List (Addr × Obj)} {σ : L2.St} {H : Hp} {s : Shared} (I : Inv X pins σ H s) : ∀ {xs : List V} {us : List Value}, Vals xs us → (∀ x ∈ xs, ∃ zs, isTupV X.K H x zs) →
    (∃ fs, TupsOf s.heap (fun _ => true) us fs) ∧ ∀ v ∈ us, ∃ l, G.tupKeyC s.heap (fun _ => true) v = some l
  | _, _, .nil, _ => ⟨⟨[], .nil⟩, fun v hv => nomatch hv⟩
  | _, _, .cons r t, h => by
    obtain ⟨zs, hz⟩ := h _ (List.mem_cons_self ..)
    obtain ⟨k1, f, k2⟩ := tup_at I r hz
    obtain ⟨⟨fs, i1⟩, i2⟩ := tups_all I t fun y hy => h y (List.mem_cons_of_mem _ hy)
    refine ⟨⟨f :: fs, .cons k2 i1⟩, fun v hv => ?_⟩
    rcases List.mem_cons.mp hv with e | hv
    · rw [e]; exact ⟨_, k1⟩
    · exact i2 v hv
theorem vals_perm {us us' : List Value} (hp : us'.Perm us) : ∀ {xs : List V}, Vals xs us → ∃ ys, ys.Perm xs ∧ Vals ys us' := by
  induction hp with
  | nil => intro xs h; cases h; exact ⟨[], .refl _, .nil⟩
  | cons x p ih =>
    intro xs h
    cases h with
    | cons r t =>
      obtain ⟨ys, h1, h2⟩ := ih t
      exact ⟨_ :: ys, h1.cons _, .cons r h2⟩
  | swap x y l =>
    intro xs h
    cases h with
    | cons r t =>
      cases t with
      | cons r2 t2 => exact ⟨_ :: _ :: _, .swap _ _ _, .cons r2 (.cons r t2)⟩
  | trans p q ih1 ih2 =>
    intro xs h
    obtain ⟨ys, h1, h2⟩ := ih2 h
    obtain ⟨zs, h3, h4⟩ := ih1 h2
    exact ⟨zs, h3.trans h1, h4⟩
theorem cr_sortedTS : CallR X (.builtin "sorted") (rSortedTS X.K) := by
  intro pins s σ H vs us Q I r h
  obtain ⟨a, xs, rfl, hs, hall, q⟩ := h
  obtain ⟨its, rv, hl, hz⟩ := I.list hs
  rw [Vals.ref1 r]
  obtain ⟨⟨fs, t1⟩, t2⟩ := tups_all I rv hall
  refine G.sorted_tups hl.isList t1 t2 (by rw [← rv.length]; exact hz) fun st' h1 h2 h3 => ?_
  obtain ⟨ep, he'⟩ := PyProof.Rows.sortedAll_at s.heap its ((arrOf st').map (·.2))
  have hpl : (arrOf st').toList.Perm (its.zip its) := by rw [← PyProof.Rows.pairsOf_toList]; exact Array.perm_iff_toList_perm.mp h1
  have hmem : ∀ p, p ∈ (arrOf st').toList → p.1 = p.2 ∧ p.1 ∈ its := fun p hp' => mem_zip_self (hpl.mem_iff.mp hp')
  have hout : ((arrOf st').map (·.2)).toList.Perm its := by
    rw [Array.toList_map]
    have := hpl.map (·.2)
    rw [show (its.zip its).map (·.2) = its from List.map_snd_zip (Nat.le_refl _)] at this
    exact this
  obtain ⟨ys, y1, y2⟩ := vals_perm hout rv
  have hlen : ys.length ≤ sizeLine := by rw [y1.length_eq]; exact hz
  refine ⟨.ref _, upd H (s.heap.objs.size + 1) (.lst ys), I.laid (t' := s.toks) (fun _ _ => PyProof.Rows.sortedAll_old) (Nat.le_succ _) ⟨hlen, _, ep, y2, by rw [Array.toArray_toList]; exact he'⟩, rfl, q ys _ y1 ?_ (I.hok.fresh (Nat.le_succ _))⟩
  intro i j x y zs ws hij hx hy hzs hws
  have gv : ∀ (i : Nat) (x : V), ys[i]? = some x → ∃ u p, (arrOf st')[i]? = some p ∧ p.1 = u ∧ RelV x u := fun i x hx => by
    obtain ⟨u, u1, u2⟩ := LiI.paired_get y2 hx
    rw [Array.getElem?_toList, Array.getElem?_map] at u1
    cases z : (arrOf st')[i]? with
    | none => rw [z] at u1; cases u1
    | some p =>
      rw [z] at u1
      cases u1
      have hm : p ∈ (arrOf st').toList := Array.mem_toList_iff.mpr (Array.mem_of_getElem? z)
      exact ⟨_, p, rfl, rfl, by rw [(hmem p hm).1]; exact u2⟩
  obtain ⟨u1, p1, a1, a2, a3⟩ := gv i x hx
  obtain ⟨u2, p2, b1, b2, b3⟩ := gv j y hy
  obtain ⟨k1, _⟩ := tup_at I a3 hzs
  obtain ⟨k2, _⟩ := tup_at I b3 hws
  have hj : j < (PyProof.Rows.pairsOf its).size := by
    have e1 : j < ys.length := (List.getElem?_eq_some_iff.mp hy).1
    rw [PyProof.Rows.pairsOf_size, ← rv.length, ← y1.length_eq]
    exact e1
  have hs' := h2 i j hij hj
  have e1 : KK (G.tupKindC s.heap fun _ => true) (arrOf st') i = sksOf zs := by
    unfold KK
    simp only [a1, a2]
    show (G.tupKeyC s.heap (fun _ => true) u1).getD [] = _
    rw [k1]
    rfl
  have e2 : KK (G.tupKindC s.heap fun _ => true) (arrOf st') j = sksOf ws := by
    unfold KK
    simp only [b1, b2]
    show (G.tupKeyC s.heap (fun _ => true) u2).getD [] = _
    rw [k2]
    rfl
  rw [e1, e2] at hs'
  exact hs'
end
end Uw

set_option Elab.async false
set_option linter.all false
set_option maxRecDepth 100000
set_option maxHeartbeats 2000000
namespace Uw
open PySem PySem.Spec PyProof.Rows L2

section
variable {K : PySem.W.Frag} {g : Gho} {S S' H H' : Hp} {σr σr' : L2.St} {σ σ' σ0 : List Sv} {W : WX} {Dn : Ends}
/-- sorted(t), a tuple of texts -/
def rSortedTup (K : PySem.W.Frag) : List V → Hp → VK → Prop := fun vs H Q => ∃ (a : Addr) (xs : List Str), vs = [V.ref a] ∧ SqT K H a (xs.map V.str) ∧
  ∀ (ys : List Str) (p : Addr), ys.Perm xs → sortedS ys = true → H p = none → Q (.ref p) (upd H p (.lst (ys.map V.str)))
theorem cr_sortedTup {X : Cx} : CallR X (.builtin "sorted") (rSortedTup X.K) := by
  intro pins s σ H vs us Q I r h
  obtain ⟨a, xs, rfl, ht, q⟩ := h
  obtain ⟨its, rv, ⟨o, ho, hc, n, hd⟩, hz⟩ := I.tuple ht
  have hL : its.length ≤ sizeLine := by rw [← rv.length]; exact hz
  rw [Vals.ref1 r]
  have hS := rv.strs
  refine Calls.call_function_entry kind_sorted plain_sorted entry_sorted (args_sorted1 _) ?_
  unfold Builtin.«sorted»
  refine wpAny_bind (m := checkCount "sorted" 1 1 _) (wpAny_pure ?_)
  refine wpAny_bind (wpAny_collect_seq a (.inr rfl) ho hc hd (fun h' hk => ?_) (by rw [List.size_toArray]; exact hL))
  refine wpAny_bind (wpAny_newList ?_)
  have e0 : its.toArray.toList = its := by simp
  rw [e0]
  have hoL : (h'.push (seqObj "list" its.toArray 0)).get? h'.objs.size = some (seqObj "list" its.toArray 0) := Heap.get?_push_size _ rfl
  refine wpAny_bind (wpAny_holding (wpAny_call_entry slot_list_sort ⟨_, hoL, rfl⟩ entry_list_sort (list_sort_treeKAny strKind_oneLt hoL hS.keysOf (fun v₁ v₂ rest e => keyKind_strs (by rw [← e]; exact hS)) hL fun st' h1 h2 => ⟨_, rfl, ?_⟩) (args_list_sort _)))
  obtain ⟨ss', k1, k2, k3⟩ := sorted_out_str hS h1 h2
  have I1 : Inv X pins σ H { s with heap := h' } := I.kept (t' := s.toks) hk
  obtain ⟨ep, he'⟩ := PyProof.Rows.sortedHeap_at (out := (arrOf st').map (·.2)) hoL
  have hlen : (ss'.map V.str).length ≤ sizeLine := by
    rw [List.length_map, k2.length_eq]
    have := rv.length
    rw [List.length_map] at this
    rw [this]
    exact hL
  refine wpAny_pure ⟨_, rfl, .ref h'.objs.size, upd H h'.objs.size (.lst (ss'.map V.str)), I1.laid (t' := s.toks) (fun b u e => ?_) (Nat.le_refl _) (show ObjOk X.prog X.w _ _ _ (.lst (ss'.map V.str)) from ⟨hlen, _, ep, vals_of_strs k1, by rw [Array.toArray_toList]; exact he'⟩), rfl, q ss' _ k2 k3 (I1.hok.fresh (Nat.le_refl _))⟩
  have hb : b < h'.objs.size := Heap.lt_size (h := h') e
  rw [PyProof.Rows.sortedHeap_old (Nat.ne_of_lt hb) (by rw [Heap.size_push]; exact Nat.lt_succ_of_lt hb)]
  exact Heap.get?_push_of_some _ e
abbrev rSortedAny (K : PySem.W.Frag) : List V → Hp → VK → Prop := fun vs H Q => rSorted K vs H Q ∨ rSortedS K vs H Q ∨ rSortedTS K vs H Q ∨ rSortedTup K vs H Q
theorem cr_sortedAny {X : Cx} : CallR X (.builtin "sorted") (rSortedAny X.K) := by
  intro pins s σ H vs us Q I r h
  rcases h with h | h | h | h
  · exact cr_sorted pins s σ H vs us Q I r h
  · exact cr_sortedS pins s σ H vs us Q I r h
  · exact cr_sortedTS pins s σ H vs us Q I r h
  · exact cr_sortedTup pins s σ H vs us Q I r h
theorem rpl_perm {G : Addr → Prop} {xs ys : List V} (hp : ys.Perm xs) : ∀ {ds : List D}, RpL K G S ds xs → ∃ es, es.Perm ds ∧ RpL K G S es ys := by
  induction hp with
  | nil => intro ds h; exact ⟨ds, .refl _, h⟩
  | @cons x l1 l2 p ih =>
    intro ds h
    cases ds with
    | nil => cases h
    | cons d ds =>
      obtain ⟨v, vs, e, h1, h2⟩ := h
      cases e
      obtain ⟨es, h3, h4⟩ := ih h2
      exact ⟨d :: es, h3.cons d, RpL.cons h1 h4⟩
  | swap x y l =>
    intro ds h
    cases ds with
    | nil => cases h
    | cons d ds =>
      obtain ⟨v, vs, e, h1, h2⟩ := h
      cases e
      cases ds with
      | nil => cases h2
      | cons d2 ds =>
        obtain ⟨v, vs, e, h3, h4⟩ := h2
        cases e
        exact ⟨d2 :: d :: ds, .swap _ _ _, RpL.cons h3 (RpL.cons h1 h4)⟩
  | trans p q ih1 ih2 =>
    intro ds h
    obtain ⟨es, h1, h2⟩ := ih2 h
    obtain ⟨fs, h3, h4⟩ := ih1 h2
    exact ⟨fs, h3.trans h1, h4⟩
theorem rpl_strs {G : Addr → Prop} : ∀ {ss : List Str}, RpL K G S (ss.map D.str) (ss.map V.str)
  | [] => RpL.nil
  | s :: ss => RpL.cons (by unfold Rp; rfl) rpl_strs
theorem rpl_ints {G : Addr → Prop} : ∀ {ss : List Int}, RpL K G S (ss.map D.int) (ss.map V.int)
  | [] => RpL.nil
  | s :: ss => RpL.cons (by unfold Rp; rfl) rpl_ints
theorem all_strs {G : Addr → Prop} : ∀ {ds : List D} {xs : List V}, ds.all isStr = true → RpL K G S ds xs → ∃ ss : List Str, ds = ss.map D.str ∧ xs = ss.map V.str
  | [], xs, _, h => by
    have e : xs = [] := h
    exact ⟨[], rfl, e⟩
  | d :: ds, xs, h0, h => by
    obtain ⟨v, vs, e, h1, h2⟩ := h
    rw [List.all_cons, Bool.and_eq_true] at h0
    obtain ⟨ss, e1, e2⟩ := all_strs h0.2 h2
    cases d <;> first | (cases h0.1; done) | skip
    rename_i s
    unfold Rp at h1
    subst e h1 e1 e2
    exact ⟨s :: ss, rfl, rfl⟩
theorem all_ints {G : Addr → Prop} : ∀ {ds : List D} {xs : List V}, ds.all isInt = true → RpL K G S ds xs → ∃ ss : List Int, ds = ss.map D.int ∧ xs = ss.map V.int
  | [], xs, _, h => by
    have e : xs = [] := h
    exact ⟨[], rfl, e⟩
  | d :: ds, xs, h0, h => by
    obtain ⟨v, vs, e, h1, h2⟩ := h
    rw [List.all_cons, Bool.and_eq_true] at h0
    obtain ⟨ss, e1, e2⟩ := all_ints h0.2 h2
    cases d <;> first | (cases h0.1; done) | skip
    rename_i s
    unfold Rp at h1
    subst e h1 e1 e2
    exact ⟨s :: ss, rfl, rfl⟩
theorem klt_str (a b : Str) : kLt (.str a) (.str b) = ltCps a.cps.toList b.cps.toList := by
  unfold kLt skey sk1
  show (strKind.blt a.cps.toList b.cps.toList || (!strKind.blt b.cps.toList a.cps.toList && false)) = _
  rw [Bool.and_false, Bool.or_false]
  exact (ltCps_eq _ _).symm
theorem klt_int (a b : Int) : kLt (.int a) (.int b) = decide (a < b) := by
  unfold kLt skey sk1
  show (decide (a < b) || (!decide (b < a) && false)) = _
  rw [Bool.and_false, Bool.or_false]
theorem srt_of_rising : ∀ {ys : List Str} {y : Str}, risingS y ys = true → SrtD ((y :: ys).map D.str)
  | [], y, _ => List.pairwise_singleton _ _
  | z :: ys, y, h => by
    have h' : (!ltCps z.cps.toList y.cps.toList && risingS z ys) = true := h
    rw [Bool.and_eq_true] at h'
    have ih := srt_of_rising h'.2
    have h1 : kLt (.str z) (.str y) = false := by
      rw [klt_str]
      simpa using h'.1
    rw [List.map_cons]
    refine List.pairwise_cons.mpr ⟨fun a ha => ?_, ih⟩
    rw [List.map_cons] at ha ih
    rcases List.mem_cons.mp ha with e | ha
    · rw [e]; exact h1
    · exact kle_trans h1 ((List.pairwise_cons.mp ih).1 a ha)
theorem srt_of_sortedS {ys : List Str} (h : sortedS ys = true) : SrtD (ys.map D.str) := by
  cases ys with
  | nil => exact .nil
  | cons y ys => exact srt_of_rising h
theorem tup_v {G : Addr → Prop} (e : Ex S H) {d : D} {v : V} (hd : isTupS d = true) (h : Rp K G S d v) : ∃ zs, isTupV K H v zs ∧ skey d = sksOf zs := by
  obtain ⟨ds, e1, h1, h2⟩ := tupS_all hd
  subst e1
  unfold Rp at h
  obtain ⟨a, xs, rfl, h3, h4⟩ := h
  obtain ⟨ss, e2, e3⟩ := all_strs h1 h4
  subst e2 e3
  refine ⟨ss, ⟨fun z => h2 (by rw [z]; rfl), a, rfl, ex_t e h3⟩, ?_⟩
  show (ss.map D.str).map sk1 = sksOf ss
  unfold sksOf
  rw [List.map_map]
  rfl
theorem new_sorted : NewA K (rSortedAny K) dSorted := by
  intro S H ds vs d Q e ht hd hQ
  cases ds with
  | nil => cases hd
  | cons d0 ds =>
    cases ds with
    | cons => cases d0 <;> cases hd
    | nil =>
      obtain ⟨v, vs', ev, t1, ev2⟩ := ht
      cases ev2
      subst ev
      cases d0 with
      | lst ds =>
        obtain ⟨a, xs, rfl, h1, h2⟩ := t1
        simp only [dSorted] at hd
        split at hd
        · rename_i hc
          cases hd
          obtain ⟨ss, e1, e2⟩ := all_strs hc.1 h2
          subst e1 e2
          refine .inr (.inl ⟨a, ss, rfl, sq_of h1, by have := hc.2; rwa [List.length_map] at this, fun ys p hp hs hn => ?_⟩)
          refine hQ p _ _ (Ex.new hn) hn rfl ?_
          have : ys.map D.str = sortD (ss.map D.str) := sortD_uniq isStr anti_str (hp.map _) (srt_of_sortedS hs) hc.1
          rw [← this]
          exact ⟨_, rfl, rpl_strs⟩
        · split at hd
          · rename_i hc
            cases hd
            obtain ⟨ss, e1, e2⟩ := all_ints hc.1 h2
            subst e1 e2
            refine .inl ⟨a, ss, rfl, sq_of h1, by have := hc.2; rwa [List.length_map] at this, fun ys p hp hs hn => ?_⟩
            refine hQ p _ _ (Ex.new hn) hn rfl ?_
            have hs' : SrtD (ys.map D.int) := by
              refine List.pairwise_map.mpr (hs.imp fun {a b} h => ?_)
              rw [klt_int]
              exact decide_eq_false (Int.not_lt.mpr h)
            have : ys.map D.int = sortD (ss.map D.int) := sortD_uniq isInt anti_int (hp.map _) hs' hc.1
            rw [← this]
            exact ⟨_, rfl, rpl_ints⟩
          · split at hd
            · rename_i hc
              cases hd
              refine .inr (.inr (.inl ⟨a, xs, rfl, sq_of h1, fun x hx => ?_, fun ys p hp hs hn => ?_⟩))
              · obtain ⟨i, hi⟩ := List.getElem?_of_mem hx
                have hl : i < ds.length := by rw [← h2.length]; exact (List.getElem?_eq_some_iff.mp hi).1
                obtain ⟨u, u1, u2⟩ := h2.get (List.getElem?_eq_getElem hl)
                rw [hi] at u1
                cases u1
                obtain ⟨zs, z1, _⟩ := tup_v e (List.all_eq_true.mp hc.1 _ (List.getElem_mem hl)) u2
                exact ⟨zs, z1⟩
              · refine hQ p _ _ (Ex.new hn) hn rfl ?_
                obtain ⟨es, p1, p2⟩ := rpl_perm hp h2
                have hall : es.all isTupS = true := List.all_eq_true.mpr fun x hx => List.all_eq_true.mp hc.1 x (p1.mem_iff.mp hx)
                have hs' : SrtD es := by
                  refine List.pairwise_iff_getElem.mpr fun i j hi hj hij => ?_
                  obtain ⟨u, u1, u2⟩ := p2.get (List.getElem?_eq_getElem hi)
                  obtain ⟨w, w1, w2⟩ := p2.get (List.getElem?_eq_getElem hj)
                  obtain ⟨zs, z1, z2⟩ := tup_v e (List.all_eq_true.mp hall _ (List.getElem_mem hi)) u2
                  obtain ⟨ws, z3, z4⟩ := tup_v e (List.all_eq_true.mp hall _ (List.getElem_mem hj)) w2
                  unfold kLt
                  rw [z2, z4]
                  exact hs i j u w zs ws (Nat.le_of_lt hij) u1 w1 z1 z3
                rw [← sortD_uniq isTupS anti_tup p1 hs' hc.1]
                exact ⟨_, rfl, p2⟩
            · cases hd
      | tup ds => 
        have t2 : Rp K yes S (.tup ds) v := t1
        unfold Rp at t2
        obtain ⟨a, xs, rfl, h1, h2⟩ := t2
        simp only [dSorted] at hd
        split at hd
        · rename_i hc
          cases hd
          obtain ⟨ss, e1, e2⟩ := all_strs hc.1 h2
          subst e1 e2
          refine .inr (.inr (.inr ⟨a, ss, rfl, ex_t e h1, fun ys p hp hs hn => ?_⟩))
          refine hQ p _ _ (Ex.new hn) hn rfl ?_
          have : ys.map D.str = sortD (ss.map D.str) := sortD_uniq isStr anti_str (hp.map _) (srt_of_sortedS hs) hc.1
          rw [← this]
          exact ⟨_, rfl, rpl_strs⟩
        · cases hd
      | _ => cases hd
end
end Uw

set_option Elab.async false
set_option linter.all false
set_option maxRecDepth 100000
set_option maxHeartbeats 2000000
namespace Uw
open PySem PySem.Spec PyProof.Rows L2

/-! ### the weakest readings of mirrors, and the two derivations in one -/
def teOf (K : PySem.W.Frag) (W : WX) (m : M Ev) : TE := fun σr H Q => ∃ g S σ, Rel K g S H σr σ ∧ Res K g W S σr (m σ) fun ev _ S' H' => ∀ v, EvOk K g S' σr v ev → Q v H'
def ttOf (K : PySem.W.Frag) (W : WX) (m : M Bool) : TT := fun σr H Q => ∃ g S σ, Rel K g S H σr σ ∧ Res K g W S σr (m σ) fun b _ _ H' => Q b H'
def taOf (K : PySem.W.Frag) (W : WX) (m : M (List Ev)) : TA := fun σr H Q => ∃ g S σ, Rel K g S H σr σ ∧ Res K g W S σr (m σ) fun es _ S' H' => ∀ vs, EvsOk K g S' σr vs es → Q vs H'
def tmOf (K : PySem.W.Frag) (W : WX) (m : M (Bool × D)) : TE := fun σr H Q => ∃ g S σ, Rel K g S H σr σ ∧ Res K g W S σr (m σ) fun od σ' S' H' => ∀ p, S' p = none → g.B p = none → (∀ i, ¬ MuP σr σ' i p) → MuAt K (gdO g od.1) S' H' p od.2 → Q (.ref p) H'
def tiOf (K : PySem.W.Frag) (W : WX) (m : M (List (Fl × D))) : TI := fun σr H Q => ∃ g S σ, Rel K g S H σr σ ∧ Res K g W S σr (m σ) fun items _ S' H' => ∀ J, WalkOk K g S' J items → Q J H'
def toOf (K : PySem.W.Frag) (W : WX) (m : M (Option Int)) : TO := fun σr H Q => ∃ g S σ, Rel K g S H σr σ ∧ Res K g W S σr (m σ) fun b _ _ H' => Q b H'
def tgOf (K : PySem.W.Frag) (js : List Nat) (m : Tgt) : TG := fun v σr H Q => ∃ g S σ ev σ', Rel K g S H σr σ ∧ EvOk K g S σr v ev ∧ m ev σ = some σ' ∧ ∀ σr' S' H', Ex S S' → Rel K g S' H' σr' σ' → Leaves js σr σr' → Q σr' H'
def tgsOf (K : PySem.W.Frag) (js : List Nat) (ms : List Tgt) : TGs := fun vs σr H Q => ∃ g S σ f ds σ', Rel K g S H σr σ ∧ (∀ (i : Nat) (d : D), ds[i]? = some d → ∃ v, vs[i]? = some v ∧ FzOk K g S d v f) ∧ vs.length = ds.length ∧ putAll f ms ds σ = some σ' ∧
  ∀ σr' S' H', Ex S S' → Rel K g S' H' σr' σ' → Leaves js σr σr' → Q σr' H'
def tsOf (K : PySem.W.Frag) (W : WX) (m : Sm) : TS := fun D σr H => ∃ g S σ, Rel K g S H σr σ ∧ ResS K W g S (m σ) D
section
variable {K : PySem.W.Frag} {W : WX}
theorem re_of {m : M Ev} : RefE K W (teOf K W m) m := fun g S _ _ σ _ r h => ⟨g, S, σ, r, h⟩
theorem rt_of {m : M Bool} : RefT K W (ttOf K W m) m := fun g S _ _ σ _ r h => ⟨g, S, σ, r, h⟩
theorem ra_of {m : M (List Ev)} : RefA K W (taOf K W m) m := fun g S _ _ σ _ r h => ⟨g, S, σ, r, h⟩
theorem rm_of {m : M (Bool × D)} : RefM K W (tmOf K W m) m := fun g S _ _ σ _ r h => ⟨g, S, σ, r, h⟩
theorem ri_of {m : M (List (Fl × D))} : RefI K W (tiOf K W m) m := fun g S _ _ σ _ r h => ⟨g, S, σ, r, h⟩
theorem ro_of {m : M (Option Int)} : RefO K W (toOf K W m) m := fun g S _ _ σ _ r h => ⟨g, S, σ, r, h⟩
theorem rg_of {js : List Nat} {m : Tgt} : RefG K js (tgOf K js m) m := fun g S _ _ σ _ ev σ' _ r h q k => ⟨g, S, σ, ev, σ', r, h, q, k⟩
theorem rgs_of {js : List Nat} {ms : List Tgt} : RefGs K js (tgsOf K js ms) ms := fun g S _ _ σ _ f ds σ' _ r h l q k => ⟨g, S, σ, f, ds, σ', r, h, l, q, k⟩
theorem rs_of {m : Sm} : RefS K W (tsOf K W m) m := fun g S _ _ σ _ r h => ⟨g, S, σ, r, h⟩
end
section
variable {X : Cx} {e : Expr}
abbrev JE (X : Cx) (e : Expr) (m : M Ev) : Prop := PE X e (teOf X.K W0 m)
abbrev JT (X : Cx) (e : Expr) (m : M Bool) : Prop := PT X e (ttOf X.K W0 m)
abbrev JW (X : Cx) (e : Expr) (m : M Bool) : Prop := PW X e (ttOf X.K W0 m)
abbrev JA (X : Cx) (es : List Expr) (m : M (List Ev)) : Prop := PA X es (taOf X.K W0 m)
abbrev JM (X : Cx) (e : Expr) (m : M (Bool × D)) : Prop := PE X e (tmOf X.K W0 m)
abbrev JI (X : Cx) (tg e : Expr) (m : M (List (Fl × D))) : Prop := PI X tg e (tiOf X.K W0 m)
abbrev JO (X : Cx) (e : Option Expr) (m : M (Option Int)) : Prop := PO X e (toOf X.K W0 m)
abbrev JG (X : Cx) (js : List Nat) (e : Expr) (m : Tgt) : Prop := PG X e (tgOf X.K js m)
abbrev JGs (X : Cx) (js : List Nat) (es : List Expr) (m : List Tgt) : Prop := PGs X es (tgsOf X.K js m)
abbrev JS (X : Cx) (st : Stmt) (m : Sm) : Prop := PS X st (tsOf X.K W0 m)
abbrev JSs (X : Cx) (st : List Stmt) (m : Sm) : Prop := PSs X st (tsOf X.K W0 m)
theorem je_of {t : TE} {m : M Ev} (p : PE X e t) (r : RefE X.K W0 t m) : JE X e m := ⟨fun pins s σ H Q I ⟨g, S, σ', rl, h⟩ => p.run pins s σ H Q I (r g S H σ σ' Q rl h)⟩
theorem jm_of {t : TE} {m : M (Bool × D)} (p : PE X e t) (r : RefM X.K W0 t m) : JM X e m := ⟨fun pins s σ H Q I ⟨g, S, σ', rl, h⟩ => p.run pins s σ H Q I (r g S H σ σ' Q rl h)⟩
theorem jt_of {t : TT} {m : M Bool} (p : PT X e t) (r : RefT X.K W0 t m) : JT X e m := ⟨fun pins s σ H Q I ⟨g, S, σ', rl, h⟩ => p.run pins s σ H Q I (r g S H σ σ' Q rl h)⟩
theorem jw_of {t : TT} {m : M Bool} (p : PW X e t) (r : RefT X.K W0 t m) : JW X e m := ⟨fun wh pins s σ H Q I ⟨g, S, σ', rl, h⟩ => p.run wh pins s σ H Q I (r g S H σ σ' Q rl h)⟩
theorem ja_of {es : List Expr} {t : TA} {m : M (List Ev)} (p : PA X es t) (r : RefA X.K W0 t m) : JA X es m := ⟨fun pos pins s σ H Q I ⟨g, S, σ', rl, h⟩ => p.run pos pins s σ H Q I (r g S H σ σ' Q rl h)⟩
theorem ji_of {tg : Expr} {t : TI} {m : M (List (Fl × D))} (p : PI X tg e t) (r : RefI X.K W0 t m) : JI X tg e m := ⟨fun pins s σ H Q I ⟨g, S, σ', rl, h⟩ => p.run pins s σ H Q I (r g S H σ σ' Q rl h)⟩
theorem jo_of {oe : Option Expr} {t : TO} {m : M (Option Int)} (p : PO X oe t) (r : RefO X.K W0 t m) : JO X oe m := ⟨fun pins s σ H Q I ⟨g, S, σ', rl, h⟩ => p.run pins s σ H Q I (r g S H σ σ' Q rl h)⟩
theorem jg_of {js : List Nat} {t : TG} {m : Tgt} (p : PG X e t) (r : RefG X.K js t m) : JG X js e m := ⟨fun pins s σ H v u Q I rv ⟨g, S, σ', ev, σ'', rl, h1, h2, h3⟩ => p.run pins s σ H v u Q I rv (r g S H σ σ' v ev σ'' Q rl h1 h2 h3)⟩
theorem jgs_of {js : List Nat} {es : List Expr} {t : TGs} {m : List Tgt} (p : PGs X es t) (r : RefGs X.K js t m) : JGs X js es m := ⟨fun pins s σ H vs us Q I rv ⟨g, S, σ', f, ds, σ'', rl, h1, h2, h3, h4⟩ => p.run pins s σ H vs us Q I rv (r g S H σ σ' vs f ds σ'' Q rl h1 h2 h3 h4)⟩
theorem js_of {st : Stmt} {t : TS} {m : Sm} (p : PS X st t) (r : RefS X.K W0 t m) : JS X st m := ⟨fun pins s σ H D I ⟨g, S, σ', rl, h⟩ => p.run pins s σ H D I (r g S H σ σ' D rl h)⟩
theorem jss_of {st : List Stmt} {t : TS} {m : Sm} (p : PSs X st t) (r : RefS X.K W0 t m) : JSs X st m := ⟨fun pins s σ H D I ⟨g, S, σ', rl, h⟩ => p.run pins s σ H D I (r g S H σ σ' D rl h)⟩

/-! ### expressions -/
variable {a b c : Expr} {es : List Expr} {pos p : Pos} {ma mb mc m : M Ev} {x : Str}
theorem je_var (i : Nat) {x : Str} {pos : Pos} (hN : X.N[i]? = some x := by rfl) (hv : Vis X.env.scope x := by first | exact Or.inl rfl | exact Or.inr (Or.inl rfl) | exact Or.inr (Or.inr rfl)) (hd : (x == ("__debug__" : Str)) = false := by decide) (hcd : (x == ("__classdict__" : Str)) = false := by decide) : JE X (.Name x pos) (eVar i) :=
  je_of (pe_var hN hv hd hcd) re_var
theorem je_int {i : Int} {k : Nat} : JE X (.Constant (.int i) k pos) (eC (.int i)) := je_of pe_int re_int
theorem je_str {s : Str} {k : Nat} : JE X (.Constant (.str s) k pos) (eC (.str s)) := je_of pe_str re_str
theorem je_bl {b : Bool} {k : Nat} : JE X (.Constant (.bool b) k pos) (eC (.bl b)) := je_of pe_bl re_bl
theorem je_non {k : Nat} : JE X (.Constant .none k pos) (eC .non) := je_of pe_non re_non
/-- a global of the module that is a text -/
theorem je_gstr {s : Str} {k : Tok} (hg : Gl X x) (hm : X.mg x = some (.str s k)) (hd : (x == ("__debug__" : Str)) = false := by decide) : JE X (.Name x pos) (eC (.str s)) := je_of (pe_glob hg hm (show RelV (V.str s) (.str s k) from ⟨k, rfl⟩) hd) re_str
theorem je_op {op : Operator} {r : R2} {f : D → D → Option D} (ho : OpR X (binaryOp op) r) (hf : Pure2 X.K r f) (ha : JE X a ma) (hb : JE X b mb) : JE X (.BinOp a op b pos) (eOp f ma mb) := je_of (pe_op ho ha hb) (re_op re_of re_of hf)
theorem je_sub (ha : JE X a ma) (hb : JE X b mb) : JE X (.BinOp a .Sub b pos) (eOp dSub ma mb) := je_op op_sub pure_sub ha hb
theorem je_mul (ha : JE X a ma) (hb : JE X b mb) : JE X (.BinOp a .Mult b pos) (eOp dMul ma mb) := je_op op_mul pure_mul ha hb
theorem je_mod (ha : JE X a ma) (hb : JE X b mb) : JE X (.BinOp a .Mod b pos) (eOp dMod ma mb) := je_op op_mod pure_mod ha hb
theorem je_div (ha : JE X a ma) (hb : JE X b mb) : JE X (.BinOp a .FloorDiv b pos) (eOp dDiv ma mb) := je_op op_fdiv pure_div ha hb
theorem je_pow (ha : JE X a ma) (hb : JE X b mb) : JE X (.BinOp a .Pow b pos) (eOp dPow ma mb) := je_op op_pow pure_pow ha hb
theorem je_add (ha : JE X a ma) (hb : JE X b mb) : JE X (.BinOp a .Add b pos) (eGen2 dAdd ma mb) := je_of (pe_op (OpR.or op_add (OpR.or op_add_str (OpR.or op_cat op_catA))) ha hb) (re_gen2 re_of re_of gen_add)
theorem je_neg (ha : JE X a ma) : JE X (.UnaryOp .USub a pos) (eUn dNeg ma) := je_of (pe_un un_neg ha) (re_un re_of pure_neg)
theorem je_cmp {op : CmpOp} {r : R2} {f : D → D → Option D} (ho : OpR X (compareOp op) r) (hf : Pure2 X.K r f) (ha : JE X a ma) (hb : JE X b mb) (hm : behindInMarks op b = false) : JE X (.Compare a [op] [b] pos) (eOp f ma mb) := je_of (pe_cmpR ho ha hb hm) (re_op re_of re_of hf)
theorem op_ltA : OpR X (compareOp .Lt) (rOr (rI0 fun i j => .bl (decide (i < j))) (fun x y H Q => ∃ i j, x = .str i ∧ y = .str j ∧ Q (.bl (decide (i.cps.toList < j.cps.toList))) H)) := OpR.or op_lt op_lt_str
theorem je_lt (ha : JE X a ma) (hb : JE X b mb) : JE X (.Compare a [.Lt] [b] pos) (eOp dLt ma mb) := je_cmp op_ltA pure_lt ha hb (nomark b)
theorem je_le (ha : JE X a ma) (hb : JE X b mb) : JE X (.Compare a [.LtE] [b] pos) (eOp dLe ma mb) := je_cmp op_le pure_le ha hb (nomark b)
theorem je_gt (ha : JE X a ma) (hb : JE X b mb) : JE X (.Compare a [.Gt] [b] pos) (eOp dGt ma mb) := je_cmp op_gt pure_gt ha hb (nomark b)
theorem je_ge (ha : JE X a ma) (hb : JE X b mb) : JE X (.Compare a [.GtE] [b] pos) (eOp dGe ma mb) := je_cmp op_ge pure_ge ha hb (nomark b)
theorem jt_cmp {op : CmpOp} {r : R2} {f : D → D → Option D} (ho : OpR X (compareOp op) r) (hf : Pure2 X.K r f) (ha : JE X a ma) (hb : JE X b mb) (hm : behindInMarks op b = false) : JT X (.Compare a [op] [b] pos) (eT (eOp f ma mb)) := jt_of (pt_cmpR ho ha hb hm) (rt_test (re_op re_of re_of hf))
theorem jt_lt (ha : JE X a ma) (hb : JE X b mb) : JT X (.Compare a [.Lt] [b] pos) (eT (eOp dLt ma mb)) := jt_cmp op_ltA pure_lt ha hb (nomark b)
theorem jt_le (ha : JE X a ma) (hb : JE X b mb) : JT X (.Compare a [.LtE] [b] pos) (eT (eOp dLe ma mb)) := jt_cmp op_le pure_le ha hb (nomark b)
theorem jt_gt (ha : JE X a ma) (hb : JE X b mb) : JT X (.Compare a [.Gt] [b] pos) (eT (eOp dGt ma mb)) := jt_cmp op_gt pure_gt ha hb (nomark b)
theorem jt_ge (ha : JE X a ma) (hb : JE X b mb) : JT X (.Compare a [.GtE] [b] pos) (eT (eOp dGe ma mb)) := jt_cmp op_ge pure_ge ha hb (nomark b)
theorem je_chain {op op' : CmpOp} {r r' : R2} {f f' : D → D → Option D} (ho : OpR X (compareOp op) r) (hf : Pure2 X.K r f) (ho' : OpR X (compareOp op') r') (hf' : Pure2 X.K r' f') (ha : JE X a ma) (hb : JE X b mb) (hc : JE X c mc) (hm : lastMarks [op, op'] [b, c] = false := by with_unfolding_all rfl) :
    JE X (.Compare a [op, op'] [b, c] pos) (eChain f f' ma mb mc) := je_of (pe_chain ho ho' ha hb hc hm) (re_chain re_of re_of re_of hf hf')
theorem jt_chain {op op' : CmpOp} {r r' : R2} {f f' : D → D → Option D} (ho : OpR X (compareOp op) r) (hf : Pure2 X.K r f) (ho' : OpR X (compareOp op') r') (hf' : Pure2 X.K r' f') (ha : JE X a ma) (hb : JE X b mb) (hc : JE X c mc) (hm : lastMarks [op, op'] [b, c] = false := by with_unfolding_all rfl) :
    JT X (.Compare a [op, op'] [b, c] pos) (eT (eChain f f' ma mb mc)) := jt_of (pt_chain ho ho' ha hb hc hm) (rt_test (re_chain re_of re_of re_of hf hf'))
/-! and, or, not -/
theorem je_one {op : BoolOp} (ha : JE X a ma) : JE X (.BoolOp op [a] pos) ma := pe_one ha
theorem je_and (ha : JE X a ma) (hb : JE X (.BoolOp .And (b :: es) pos) mb) : JE X (.BoolOp .And (a :: b :: es) pos) (eAndV ma mb) := je_of (pe_and ha hb) (re_andV re_of re_of)
theorem je_or (ha : JE X a ma) (hb : JE X (.BoolOp .Or (b :: es) pos) mb) : JE X (.BoolOp .Or (a :: b :: es) pos) (eOrV ma mb) := je_of (pe_or ha hb) (re_orV re_of re_of)
theorem je_not (ha : JE X a ma) : JE X (.UnaryOp .Not a pos) (eNotV ma) := je_of (pe_not ha) (re_notV re_of)
variable {ta tb : M Bool}
theorem jt_val (ha : JE X a ma) (he : ∀ whole, isTrue a X.env whole = (do let v ← whole; standAt a.pos; holding [v] (truthy v)) := by intro _; rfl) : JT X a (eT ma) := jt_of (pt_val ha he) (rt_B re_of)
theorem jw_and1 (ha : JT X a ta) : JW X (.BoolOp .And [a] pos) ta := pw_and1 ha
theorem jw_or1 (ha : JT X a ta) : JW X (.BoolOp .Or [a] pos) ta := pw_or1 ha
theorem jw_and (ha : JT X a ta) (hb : JW X (.BoolOp .And (b :: es) pos) tb) : JW X (.BoolOp .And (a :: b :: es) pos) (eAnd ta tb) := jw_of (pw_and ha hb) (rt_and rt_of rt_of)
theorem jw_or (ha : JT X a ta) (hb : JW X (.BoolOp .Or (b :: es) pos) tb) : JW X (.BoolOp .Or (a :: b :: es) pos) (eOr ta tb) := jw_of (pw_or ha hb) (rt_or rt_of rt_of)
theorem jt_w (ha : JW X a ta) : JT X a ta := ha.pt
theorem jt_not (ha : JT X a ta) : JT X (.UnaryOp .Not a pos) (eNot ta) := jt_of (pt_not ha) (rt_not rt_of)
theorem je_if (hc : JT X c ta) (ha : JE X a ma) (hb : JE X b mb) : JE X (.IfExp c a b pos) (eIf ta ma mb) := je_of (pe_ifExp hc ha hb) (re_if rt_of re_of re_of)
variable {nm nb : M (Bool × D)}
theorem jm_if (hc : JT X c ta) (ha : JM X a nm) (hb : JM X b nb) : JM X (.IfExp c a b pos) (ta.bind fun b => if b = true then nm else nb) := jm_of (pe_ifExp hc ha hb) (rm_if rt_of rm_of rm_of)
theorem je_fz (ha : JM X a nm) : JE X a (eFz nm) := je_of ha (re_fz rm_of)
/-! displays -/
variable {ms : M (List Ev)}
theorem ja_nil : JA X [] aNil := ja_of pa_nil ra_nil
theorem ja_cons (ha : JE X a ma) (hr : JA X es ms) (hs : starEach (a :: es) X.env = (false, eval a X.env) :: starEach es X.env := by rfl) : JA X (a :: es) (aCons ma ms) := ja_of (pa_cons ha hr hs) (ra_cons re_of ra_of)
theorem ja_star (ha : JE X a ma) (hr : JA X es ms) (hs : starEach (.Starred a p :: es) X.env = (true, eval a X.env) :: starEach es X.env := by rfl) : JA X (.Starred a p :: es) (aStar ma ms) := ja_of (StX.pa_star ha hr hs) (ra_star re_of ra_of)
theorem je_tup {k : Nat} (h : JA X es ms) : JE X (.Tuple es k pos) (eTup ms) := je_of (pe_tup h) (re_tup ra_of)
theorem jm_lst (h : JA X es ms) : JM X (.List es pos) (eLst ms) := jm_of (pe_lst h) (rm_lst ra_of)
theorem jm_dnew : JM X (.Dict [] [] pos) eDNew := jm_of pe_dnewK rm_dnew
theorem jm_done (ha : JE X a ma) (hb : JE X b mb) : JM X (.Dict [some a] [b] pos) (eDOne ma mb) := jm_of (pe_disp (pps_cons ha hb pps_nil) rfl rfl (fun z => by cases z) (Nat.le_of_ble_eq_true rfl)) (rm_done re_of re_of)
/-! items, slices, fields -/
theorem je_ix (ha : JE X a ma) (hb : JE X b mb) (hs : PlainIx b := by intro _ _; rfl) : JE X (.Subscript a b pos) (eGen2 dIx ma mb) := je_of (pe_ix ix_seq ha hb hs) (re_gen2 re_of re_of gen_ix)
variable {mo mp : M (Option Int)} {lo hi : Option Expr} {p2 : Pos}
theorem jo_none : JO X none mNoPart := jo_of po_none ro_none
theorem jo_some (ha : JE X a ma) : JO X (some a) (mPart ma) := jo_of (po_some ha) (ro_some re_of)
theorem je_sl (ha : JE X a ma) (hl : JO X lo mo) (hh : JO X hi mp) : JE X (.Subscript a (.Slice lo hi none p2) pos) (eSl ma mo mp) := je_of (pe_slice (SlR.or (SlR.or sl_list sl_tupA) sl_str) ha hl hh) (re_sl re_of ro_of ro_of)
theorem je_fld {cn f : Str} (ha : JE X a ma) (hc : Cls X.K (He.ga X.K cn)) (hn : NoAttr X.K (He.ga X.K cn) f) (hb : attributeBase a f X.env (eval a X.env) = eval a X.env := by rfl) : JE X (.Attribute a f pos) (eFld cn f ma) := je_of (pe_fld ha hb) (re_fld re_of hc hn)
theorem je_dget (hu : X.A.units + 1 < cLine) (ha : JE X a ma) (hb : JE X b mb) (hs : NoSl b := by intro _ _; rfl) : JE X (.Subscript a b pos) (eDGet ma mb) := je_of (pe_dget hu ha hb hs) (re_dget re_of re_of)
/-! built-ins -/
section
variable {q : Pos}
theorem je_bltn {id : String} {r : List V → Hp → VK → Prop} {f : List D → Option D} (hc : CallR X (.builtin id) r) (hf : PureA X.K r f) (hg : Gl X x) (hm : X.mg x = none) (hv : bootBuiltins x = some (.builtin id)) (ha : JA X (a :: es) ms) (hn : x ≠ "__name__" := by decide) (hd : (x == ("__debug__" : Str)) = false := by decide)
    (he : starEach (a :: es) X.env = (false, eval a X.env) :: starEach es X.env := by rfl) (hpl : (backTo pos (starEach es X.env)).any (·.1) = false := by rfl) : JE X (.Call (.Name x q) (a :: es) [] pos) (eCB f ms) := je_of (pe_callB hc hg hm hv ha hn hd he hpl) (re_cb ra_of hf)
theorem jm_bltn {id : String} {r : List V → Hp → VK → Prop} {f : List D → Option D} (hc : CallR X (.builtin id) r) (hf : NewA X.K r f) (hg : Gl X x) (hm : X.mg x = none) (hv : bootBuiltins x = some (.builtin id)) (ha : JA X (a :: es) ms) (hn : x ≠ "__name__" := by decide) (hd : (x == ("__debug__" : Str)) = false := by decide)
    (he : starEach (a :: es) X.env = (false, eval a X.env) :: starEach es X.env := by rfl) (hpl : (backTo pos (starEach es X.env)).any (·.1) = false := by rfl) : JM X (.Call (.Name x q) (a :: es) [] pos) (eNew f ms) := jm_of (pe_callB hc hg hm hv ha hn hd he hpl) (rm_new ra_of hf)
theorem je_ty {id : String} {r : List V → Hp → VK → Prop} {f : List D → Option D} (hc : CallR X (.type id) r) (hf : PureA X.K r f) (hg : Gl X x) (hm : X.mg x = none) (hv : bootBuiltins x = some (.type id)) (ha : JA X (a :: es) ms) (hn : x ≠ "__name__" := by decide) (hd : (x == ("__debug__" : Str)) = false := by decide)
    (he : starEach (a :: es) X.env = (false, eval a X.env) :: starEach es X.env := by rfl) (hpl : (backTo pos (starEach es X.env)).any (·.1) = false := by rfl) : JE X (.Call (.Name x q) (a :: es) [] pos) (eCB f ms) := je_of (pe_callTy hc hg hm hv ha hn hd he hpl) (re_cb ra_of hf)
theorem jm_ty {id : String} {r : List V → Hp → VK → Prop} {f : List D → Option D} (hc : CallR X (.type id) r) (hf : NewA X.K r f) (hg : Gl X x) (hm : X.mg x = none) (hv : bootBuiltins x = some (.type id)) (ha : JA X (a :: es) ms) (hn : x ≠ "__name__" := by decide) (hd : (x == ("__debug__" : Str)) = false := by decide)
    (he : starEach (a :: es) X.env = (false, eval a X.env) :: starEach es X.env := by rfl) (hpl : (backTo pos (starEach es X.env)).any (·.1) = false := by rfl) : JM X (.Call (.Name x q) (a :: es) [] pos) (eNew f ms) := jm_of (pe_callTy hc hg hm hv ha hn hd he hpl) (rm_new ra_of hf)
theorem je_tyG {id : String} {r : List V → Hp → VK → Prop} {f : List (Fl × D) → Option (Fl × D)} (hc : CallR X (.type id) r) (hf : GenA X.K r f) (hg : Gl X x) (hm : X.mg x = none) (hv : bootBuiltins x = some (.type id)) (ha : JA X (a :: es) ms) (hn : x ≠ "__name__" := by decide) (hd : (x == ("__debug__" : Str)) = false := by decide)
    (he : starEach (a :: es) X.env = (false, eval a X.env) :: starEach es X.env := by rfl) (hpl : (backTo pos (starEach es X.env)).any (·.1) = false := by rfl) : JE X (.Call (.Name x q) (a :: es) [] pos) (eGenA f ms) := je_of (pe_callTy hc hg hm hv ha hn hd he hpl) (re_genA ra_of hf)
end
end
end Uw

set_option Elab.async false
set_option linter.all false
set_option maxRecDepth 100000
set_option maxHeartbeats 2000000
namespace Uw
open PySem PySem.Spec PyProof.Rows L2

/-- room, and no repr under way -/
structure RmG (k : Nat) (A : Around) : Prop where
  r : Room k A
  g : A.guards = some []
theorem RmG.mono {j k : Nat} {A : Around} (r : RmG k A) (h : j ≤ k) : RmG j A := ⟨r.r.mono h, r.g⟩
section
variable {X : Cx} {k : Nat} {a b c : Expr} {es : List Expr} {pos p q : Pos} {ma mb mc m : M Ev} {x : Str} {ms : M (List Ev)}
theorem un65 (hr : RmG k X.A) : X.A.units + 65 < cLine := by have := hr.r.un; omega
theorem un64 (hr : RmG k X.A) : X.A.units + 64 < cLine := by have := hr.r.un; omega
theorem un1 (hr : RmG k X.A) : X.A.units + 1 < cLine := by have := hr.r.un; omega
theorem op_inA (hr : RmG k X.A) : OpR X (compareOp .In) (rInAny X.K) := OpR.or (op_inD (un65 hr)) (OpR.or op_in_seq op_in_sign)
theorem op_ninA (hr : RmG k X.A) : OpR X (compareOp .NotIn) (rNotInAny X.K) := OpR.or (op_notInD (un65 hr)) (OpR.or op_notIn_seq op_notIn_sign)
theorem je_eq (hr : RmG k X.A) (ha : JE X a ma) (hb : JE X b mb) : JE X (.Compare a [.Eq] [b] pos) (eOp dEq ma mb) := je_cmp (op_eqD (un64 hr)) pure_eq ha hb (nomark b)
theorem je_ne (hr : RmG k X.A) (ha : JE X a ma) (hb : JE X b mb) : JE X (.Compare a [.NotEq] [b] pos) (eOp dNe ma mb) := je_cmp (op_neD (un64 hr)) pure_ne ha hb (nomark b)
theorem jt_eq (hr : RmG k X.A) (ha : JE X a ma) (hb : JE X b mb) : JT X (.Compare a [.Eq] [b] pos) (eT (eOp dEq ma mb)) := jt_cmp (op_eqD (un64 hr)) pure_eq ha hb (nomark b)
theorem jt_ne (hr : RmG k X.A) (ha : JE X a ma) (hb : JE X b mb) : JT X (.Compare a [.NotEq] [b] pos) (eT (eOp dNe ma mb)) := jt_cmp (op_neD (un64 hr)) pure_ne ha hb (nomark b)
theorem je_in (hr : RmG k X.A) (ha : JE X a ma) (hb : JE X b mb) (hm : behindInMarks .In b = false := by rfl) : JE X (.Compare a [.In] [b] pos) (eOp dIn ma mb) := je_cmp (op_inA hr) pure_in ha hb hm
theorem je_nin (hr : RmG k X.A) (ha : JE X a ma) (hb : JE X b mb) (hm : behindInMarks .NotIn b = false := by rfl) : JE X (.Compare a [.NotIn] [b] pos) (eOp dNotIn ma mb) := je_cmp (op_ninA hr) pure_notIn ha hb hm
theorem jt_in (hr : RmG k X.A) (ha : JE X a ma) (hb : JE X b mb) (hm : behindInMarks .In b = false := by rfl) : JT X (.Compare a [.In] [b] pos) (eT (eOp dIn ma mb)) := jt_cmp (op_inA hr) pure_in ha hb hm
theorem jt_nin (hr : RmG k X.A) (ha : JE X a ma) (hb : JE X b mb) (hm : behindInMarks .NotIn b = false := by rfl) : JT X (.Compare a [.NotIn] [b] pos) (eT (eOp dNotIn ma mb)) := jt_cmp (op_ninA hr) pure_notIn ha hb hm
theorem je_is (ha : JE X a ma) (hb : JE X b mb) : JE X (.Compare a [.Is] [b] pos) (eOp dIsN ma mb) := je_cmp (OpR.or op_isN op_is_bl) pure_is ha hb (nomark b)
theorem je_isnt (ha : JE X a ma) (hb : JE X b mb) : JE X (.Compare a [.IsNot] [b] pos) (eOp dNotN ma mb) := je_cmp (OpR.or op_notN op_isnot_bl) pure_isnt ha hb (nomark b)
theorem jt_is (ha : JE X a ma) (hb : JE X b mb) : JT X (.Compare a [.Is] [b] pos) (eT (eOp dIsN ma mb)) := jt_cmp (OpR.or op_isN op_is_bl) pure_is ha hb (nomark b)
theorem jt_isnt (ha : JE X a ma) (hb : JE X b mb) : JT X (.Compare a [.IsNot] [b] pos) (eT (eOp dNotN ma mb)) := jt_cmp (OpR.or op_notN op_isnot_bl) pure_isnt ha hb (nomark b)
/-! chains -/
theorem je_lelt (ha : JE X a ma) (hb : JE X b mb) (hc : JE X c mc) (hm : lastMarks [.LtE, .Lt] [b, c] = false := by with_unfolding_all rfl) : JE X (.Compare a [.LtE, .Lt] [b, c] pos) (eChain dLe dLt ma mb mc) := je_chain op_le pure_le op_ltA pure_lt ha hb hc hm
theorem je_ltlt (ha : JE X a ma) (hb : JE X b mb) (hc : JE X c mc) (hm : lastMarks [.Lt, .Lt] [b, c] = false := by with_unfolding_all rfl) : JE X (.Compare a [.Lt, .Lt] [b, c] pos) (eChain dLt dLt ma mb mc) := je_chain op_ltA pure_lt op_ltA pure_lt ha hb hc hm
theorem jt_lelt (ha : JE X a ma) (hb : JE X b mb) (hc : JE X c mc) (hm : lastMarks [.LtE, .Lt] [b, c] = false := by with_unfolding_all rfl) : JT X (.Compare a [.LtE, .Lt] [b, c] pos) (eT (eChain dLe dLt ma mb mc)) := jt_chain op_le pure_le op_ltA pure_lt ha hb hc hm
theorem jt_ltlt (ha : JE X a ma) (hb : JE X b mb) (hc : JE X c mc) (hm : lastMarks [.Lt, .Lt] [b, c] = false := by with_unfolding_all rfl) : JT X (.Compare a [.Lt, .Lt] [b, c] pos) (eT (eChain dLt dLt ma mb mc)) := jt_chain op_ltA pure_lt op_ltA pure_lt ha hb hc hm
/-! calls of built-ins by name -/
theorem je_len (hm : X.mg "len" = none) (ha : JA X (a :: es) ms) (hg : Gl X "len" := by rfl) (he : starEach (a :: es) X.env = (false, eval a X.env) :: starEach es X.env := by rfl) (hpl : (backTo pos (starEach es X.env)).any (·.1) = false := by rfl) : JE X (.Call (.Name "len" q) (a :: es) [] pos) (eCB dLen ms) := je_bltn call_len pure_len hg hm boot_len ha (by decide) (by decide) he hpl
theorem je_abs (hm : X.mg "abs" = none) (ha : JA X (a :: es) ms) (hg : Gl X "abs" := by rfl) (he : starEach (a :: es) X.env = (false, eval a X.env) :: starEach es X.env := by rfl) (hpl : (backTo pos (starEach es X.env)).any (·.1) = false := by rfl) : JE X (.Call (.Name "abs" q) (a :: es) [] pos) (eCB dAbs ms) := je_bltn call_abs pure_abs hg hm boot_abs ha (by decide) (by decide) he hpl
theorem je_intC (hm : X.mg "int" = none) (ha : JA X (a :: es) ms) (hg : Gl X "int" := by rfl) (he : starEach (a :: es) X.env = (false, eval a X.env) :: starEach es X.env := by rfl) (hpl : (backTo pos (starEach es X.env)).any (·.1) = false := by rfl) : JE X (.Call (.Name "int" q) (a :: es) [] pos) (eCB dInt ms) := je_ty call_int1 pure_int hg hm boot_int ha (by decide) (by decide) he hpl
theorem je_sum (hc : X.calm = true) (hm : X.mg "sum" = none) (ha : JA X (a :: es) ms) (hg : Gl X "sum" := by rfl) (he : starEach (a :: es) X.env = (false, eval a X.env) :: starEach es X.env := by rfl) (hpl : (backTo pos (starEach es X.env)).any (·.1) = false := by rfl) : JE X (.Call (.Name "sum" q) (a :: es) [] pos) (eCB dSum ms) := je_bltn (cr_sum hc) pure_sum hg hm boot_sum ha (by decide) (by decide) he hpl
theorem je_all (hc : X.calm = true) (hm : X.mg "all" = none) (ha : JA X (a :: es) ms) (hg : Gl X "all" := by rfl) (he : starEach (a :: es) X.env = (false, eval a X.env) :: starEach es X.env := by rfl) (hpl : (backTo pos (starEach es X.env)).any (·.1) = false := by rfl) : JE X (.Call (.Name "all" q) (a :: es) [] pos) (eCB dAll ms) := je_bltn (cr_all hc) pure_all hg hm boot_all ha (by decide) (by decide) he hpl
theorem je_any (hc : X.calm = true) (hm : X.mg "any" = none) (ha : JA X (a :: es) ms) (hg : Gl X "any" := by rfl) (he : starEach (a :: es) X.env = (false, eval a X.env) :: starEach es X.env := by rfl) (hpl : (backTo pos (starEach es X.env)).any (·.1) = false := by rfl) : JE X (.Call (.Name "any" q) (a :: es) [] pos) (eCB dAny ms) := je_bltn (cr_any hc) pure_any hg hm boot_any ha (by decide) (by decide) he hpl
theorem jm_sorted (hm : X.mg "sorted" = none) (ha : JA X (a :: es) ms) (hg : Gl X "sorted" := by rfl) (he : starEach (a :: es) X.env = (false, eval a X.env) :: starEach es X.env := by rfl) (hpl : (backTo pos (starEach es X.env)).any (·.1) = false := by rfl) : JM X (.Call (.Name "sorted" q) (a :: es) [] pos) (eNew dSorted ms) := jm_bltn cr_sortedAny new_sorted hg hm boot_sorted ha (by decide) (by decide) he hpl
theorem cr_listOf (hc : X.calm = true) : CallR X (.type "list") (rListOf X.K) := by
  intro pins s σ H vs us Q I r h
  rcases h with h | h
  · exact call_list_of pins s σ H vs us Q I r h
  · exact call_list_dK hc pins s σ H vs us Q I r h
theorem jm_list (hc : X.calm = true) (hm : X.mg "list" = none) (ha : JA X (a :: es) ms) (hg : Gl X "list" := by rfl) (he : starEach (a :: es) X.env = (false, eval a X.env) :: starEach es X.env := by rfl) (hpl : (backTo pos (starEach es X.env)).any (·.1) = false := by rfl) : JM X (.Call (.Name "list" q) (a :: es) [] pos) (eNew dList ms) := jm_ty (cr_listOf hc) new_list hg hm boot_list ha (by decide) (by decide) he hpl
theorem je_tuple (hm : X.mg "tuple" = none) (ha : JA X (a :: es) ms) (hg : Gl X "tuple" := by rfl) (he : starEach (a :: es) X.env = (false, eval a X.env) :: starEach es X.env := by rfl) (hpl : (backTo pos (starEach es X.env)).any (·.1) = false := by rfl) : JE X (.Call (.Name "tuple" q) (a :: es) [] pos) (eGenA dTupOf ms) := je_tyG call_tuple_of gen_tuple hg hm boot_tuple ha (by decide) (by decide) he hpl
theorem jm_dict (hc : X.calm = true) (hm : X.mg "dict" = none) (ha : JE X a ma) (hg : Gl X "dict" := by rfl) (he : starEach [a] X.env = (false, eval a X.env) :: starEach [] X.env := by rfl) : JM X (.Call (.Name "dict" q) [a] [] pos) (eDict ma) := jm_of (pe_callTy (call_dictP hc) hg hm boot_dict (pa_cons ha pa_nil he) (by decide) (by decide) he (by rfl)) (rm_dict re_of)
theorem jm_items (hc : X.calm = true) (hm : X.mg "list" = none) {p2 ap cp : Pos} (ha : JE X a ma) (hg : Gl X "list" := by rfl) (hbase : attributeBase a "items" X.env (eval a X.env) = eval a X.env := by rfl) (hline : (ap.endLine == cp.line) = true := by rfl)
    (hs : starEach [.Call (.Attribute a "items" ap) [] [] cp] X.env = (false, eval (.Call (.Attribute a "items" ap) [] [] cp) X.env) :: starEach [] X.env := by rfl) : JM X (.Call (.Name "list" p2) [.Call (.Attribute a "items" ap) [] [] cp] [] pos) (eItems ma) :=
  jm_of (LiI.pe_listItems hc ha hg hm boot_list hbase hline hs) (rm_items re_of)
/-! isinstance -/
theorem pe_ty {n : String} (hg : Gl X x) (hm : X.mg x = none) (hv : bootBuiltins x = some (.type n)) (hn : x ≠ "__name__" := by decide) (hd : (x == ("__debug__" : Str)) = false := by decide) : PE X (.Name x pos) (tC (.ty n)) := pe_bltn hg hm hv rfl hn hd
theorem pa_tys_cons {n : String} {ts : List String} (hg : Gl X x) (hm : X.mg x = none) (hv : bootBuiltins x = some (.type n)) (hr : PA X es (tysA ts)) (hn : x ≠ "__name__" := by decide) (hd : (x == ("__debug__" : Str)) = false := by decide)
    (hs : starEach (.Name x pos :: es) X.env = (false, eval (.Name x pos) X.env) :: starEach es X.env := by rfl) : PA X (.Name x pos :: es) (tysA (n :: ts)) := pa_cons (pe_ty hg hm hv hn hd) hr hs
theorem je_isT1 {n : String} {cs : List Str} (hi : X.mg "isinstance" = none) (ha : JE X a ma) (hm : X.mg x = none) (hv : bootBuiltins x = some (.type n)) (hI : ∀ c ∈ cs, InsK X.K c) (hts : n ∈ allT := by decide) (hg : Gl X x := by rfl) (hgi : Gl X "isinstance" := by rfl) (hn : x ≠ "__name__" := by decide) (hd : (x == ("__debug__" : Str)) = false := by decide)
    (h1 : starEach [a, .Name x p] X.env = (false, eval a X.env) :: starEach [.Name x p] X.env := by rfl) (h2 : starEach [.Name x p] X.env = (false, eval (.Name x p) X.env) :: starEach [] X.env := by rfl) (hpl : (backTo pos (starEach [.Name x p] X.env)).any (·.1) = false := by rfl) :
    JE X (.Call (.Name "isinstance" q) [a, .Name x p] [] pos) (eIsT cs [n] ma) := je_of (pe_callB call_isi hgi hi boot_isinstance (pa_cons ha (pa_cons (pe_ty hg hm hv hn hd) pa_nil h2) h1) (by decide) (by decide) h1 hpl) (re_isT1 re_of hI hts)
theorem je_isTs {ts : List String} {cs : List Str} {kk : Nat} (hi : X.mg "isinstance" = none) (ha : JE X a ma) (ht : PA X es (tysA ts)) (hI : ∀ c ∈ cs, InsK X.K c) (hts : ∀ t ∈ ts, t ∈ allT := by decide) (hlen : ts.length ≤ 100 := by decide) (hgi : Gl X "isinstance" := by rfl)
    (h1 : starEach [a, .Tuple es kk p] X.env = (false, eval a X.env) :: starEach [.Tuple es kk p] X.env := by rfl) (h2 : starEach [.Tuple es kk p] X.env = (false, eval (.Tuple es kk p) X.env) :: starEach [] X.env := by rfl) (hpl : (backTo pos (starEach [.Tuple es kk p] X.env)).any (·.1) = false := by rfl) :
    JE X (.Call (.Name "isinstance" q) [a, .Tuple es kk p] [] pos) (eIsT cs ts ma) := je_of (pe_callB call_isiT hgi hi boot_isinstance (pa_cons ha (pa_cons (pe_tup ht) pa_nil h2) h1) (by decide) (by decide) h1 hpl) (re_isTs re_of hI hts hlen)
theorem je_isC {cn : Str} {cs : List Str} (hi : X.mg "isinstance" = none) (ha : JE X a ma) (hm : X.mg x = some (.ref (He.ga X.K cn))) (hI : ∀ c ∈ cs, InsK X.K c) (k1 : ∀ t ∈ allT, PySem.W.kitOne X.K (.type t) (.ref (He.ga X.K cn)) = some false) (k2 : ∀ c' ∈ cs, PySem.W.kitOne X.K (.ref (He.ga X.K c')) (.ref (He.ga X.K cn)) = some (decide (c' = cn)))
    (hg : Gl X x := by rfl) (hgi : Gl X "isinstance" := by rfl) (hd : (x == ("__debug__" : Str)) = false := by decide)
    (h1 : starEach [a, .Name x p] X.env = (false, eval a X.env) :: starEach [.Name x p] X.env := by rfl) (h2 : starEach [.Name x p] X.env = (false, eval (.Name x p) X.env) :: starEach [] X.env := by rfl) (hpl : (backTo pos (starEach [.Name x p] X.env)).any (·.1) = false := by rfl) :
    JE X (.Call (.Name "isinstance" q) [a, .Name x p] [] pos) (eIsC cs cn ma) := je_of (pe_callB call_isi hgi hi boot_isinstance (pa_cons ha (pa_cons (pe_glob (v := .ref (He.ga X.K cn)) hg hm (show RelV (V.ref (He.ga X.K cn)) (.ref (He.ga X.K cn)) from rfl) hd) pa_nil h2) h1) (by decide) (by decide) h1 hpl) (re_isC re_of hI k1 k2)
/-! methods of lists -/
variable {o : Expr} {ap cp : Pos} {i : Nat}
theorem je_app (i : Nat) (ha : JE X a ma) (hN : X.N[i]? = some x := by rfl) (hv : Vis X.env.scope x := by first | exact Or.inl rfl | exact Or.inr (Or.inl rfl) | exact Or.inr (Or.inr rfl)) (hd : (x == ("__debug__" : Str)) = false := by decide) (hcd : (x == ("__classdict__" : Str)) = false := by decide)
    (hbase : attributeBase (.Name x p) "append" X.env (eval (.Name x p) X.env) = eval (.Name x p) X.env := by rfl)
    (hfew : ((backTo cp (starEach [a] X.env)).all (fun x => !x.1) && (backToKw cp (keywordEach [] X.env)).all (fun x => x.1.isSome) && decide ([a].length + ([] : List Keyword).length + (if ([] : List Keyword).isEmpty then 0 else 1) < 30)) = true := by rfl)
    (hline : (ap.endLine == cp.line) = true := by rfl) (hs : starEach [a] X.env = (false, eval a X.env) :: starEach [] X.env := by rfl) : JE X (.Call (.Attribute (.Name x p) "append" ap) [a] [] cp) (eApp i ma) :=
  je_of (pe_bm F.plainAttrs_list F.slot_list_append F.type_list_append mt_append (pe_var hN hv hd hcd) (pa_cons ha pa_nil hs) hbase hfew hline hs (by rfl)) (re_app re_of)
theorem je_ext (i : Nat) (ha : JE X a ma) (hN : X.N[i]? = some x := by rfl) (hv : Vis X.env.scope x := by first | exact Or.inl rfl | exact Or.inr (Or.inl rfl) | exact Or.inr (Or.inr rfl)) (hd : (x == ("__debug__" : Str)) = false := by decide) (hcd : (x == ("__classdict__" : Str)) = false := by decide)
    (hbase : attributeBase (.Name x p) "extend" X.env (eval (.Name x p) X.env) = eval (.Name x p) X.env := by rfl)
    (hfew : ((backTo cp (starEach [a] X.env)).all (fun x => !x.1) && (backToKw cp (keywordEach [] X.env)).all (fun x => x.1.isSome) && decide ([a].length + ([] : List Keyword).length + (if ([] : List Keyword).isEmpty then 0 else 1) < 30)) = true := by rfl)
    (hline : (ap.endLine == cp.line) = true := by rfl) (hs : starEach [a] X.env = (false, eval a X.env) :: starEach [] X.env := by rfl) : JE X (.Call (.Attribute (.Name x p) "extend" ap) [a] [] cp) (eExt i ma) :=
  je_of (pe_bm F.plainAttrs_list F.slot_list_extend F.type_list_extend mt_extend (pe_var hN hv hd hcd) (pa_cons ha pa_nil hs) hbase hfew hline hs (by rfl)) (re_ext re_of)
theorem je_popAt (i : Nat) (ha : JE X a ma) (hN : X.N[i]? = some x := by rfl) (hv : Vis X.env.scope x := by first | exact Or.inl rfl | exact Or.inr (Or.inl rfl) | exact Or.inr (Or.inr rfl)) (hd : (x == ("__debug__" : Str)) = false := by decide) (hcd : (x == ("__classdict__" : Str)) = false := by decide)
    (hbase : attributeBase (.Name x p) "pop" X.env (eval (.Name x p) X.env) = eval (.Name x p) X.env := by rfl)
    (hfew : ((backTo cp (starEach [a] X.env)).all (fun x => !x.1) && (backToKw cp (keywordEach [] X.env)).all (fun x => x.1.isSome) && decide ([a].length + ([] : List Keyword).length + (if ([] : List Keyword).isEmpty then 0 else 1) < 30)) = true := by rfl)
    (hline : (ap.endLine == cp.line) = true := by rfl) (hs : starEach [a] X.env = (false, eval a X.env) :: starEach [] X.env := by rfl) : JE X (.Call (.Attribute (.Name x p) "pop" ap) [a] [] cp) (ePopAt i ma) :=
  je_of (pe_bm F.plainAttrs_list F.slot_list_pop F.type_list_pop mt_popAt (pe_var hN hv hd hcd) (pa_cons ha pa_nil hs) hbase hfew hline hs (by rfl)) (re_popAt re_of)
theorem je_pop (i : Nat) (hN : X.N[i]? = some x := by rfl) (hv : Vis X.env.scope x := by first | exact Or.inl rfl | exact Or.inr (Or.inl rfl) | exact Or.inr (Or.inr rfl)) (hd : (x == ("__debug__" : Str)) = false := by decide) (hcd : (x == ("__classdict__" : Str)) = false := by decide)
    (hbase : attributeBase (.Name x p) "pop" X.env (eval (.Name x p) X.env) = eval (.Name x p) X.env := by rfl) (hline : (ap.endLine == cp.line) = true := by rfl) : JE X (.Call (.Attribute (.Name x p) "pop" ap) [] [] cp) (ePop i) :=
  je_of (pe_bm0 F.plainAttrs_list F.slot_list_pop F.type_list_pop mt_pop (pe_var hN hv hd hcd) hbase hline) re_pop
/-! sources -/
variable {tg : Expr}
theorem ji_seq (ha : JE X a ma) : JI X tg a (mSeq ma) := ji_of (pi_seq ha) (ri_seq re_of)
theorem ji_rng1 (hm : X.mg "range" = none) (ha : JE X a ma) (hg : Gl X "range" := by rfl) (hs : starEach [a] X.env = [(false, eval a X.env)] := by rfl) : JI X tg (.Call (.Name "range" p) [a] [] pos) (mRng1 ma) := ji_of (pi_range1 hg hm (pa_cons ha pa_nil hs) hs) (ri_range1 re_of)
theorem ji_rng2 (hm : X.mg "range" = none) (ha : JE X a ma) (hb : JE X b mb) (hg : Gl X "range" := by rfl) (hs : starEach [a, b] X.env = [(false, eval a X.env), (false, eval b X.env)] := by rfl) (hs2 : starEach [b] X.env = [(false, eval b X.env)] := by rfl) : JI X tg (.Call (.Name "range" p) [a, b] [] pos) (mRng2 ma mb) := ji_of (pi_range2 hg hm (pa_cons ha (pa_cons hb pa_nil hs2) (by rw [hs, hs2])) hs hs2) (ri_range2 re_of re_of)
variable {elts : List Expr} {kk : Nat} {tpos : Pos}
theorem ji_enum (hm : X.mg "enumerate" = none) (ha : JE X a ma) (hg : Gl X "enumerate" := by rfl) (hs : starEach [a] X.env = [(false, eval a X.env)] := by rfl) : JI X (.Tuple elts kk tpos) (.Call (.Name "enumerate" p) [a] [] pos) (mEnum ma) := ji_of (pi_enumG hg hm (pa_cons ha pa_nil hs) hs) (ri_enum re_of)
theorem ji_zip (hm : X.mg "zip" = none) (ha : JE X a ma) (hb : JE X b mb) (hg : Gl X "zip" := by rfl) (hs : starEach [a, b] X.env = (false, eval a X.env) :: starEach [b] X.env := by rfl) (hs2 : starEach [b] X.env = (false, eval b X.env) :: starEach [] X.env := by rfl) (hpl : (backTo pos (starEach [b] X.env)).any (·.1) = false := by rfl) : JI X (.Tuple elts kk tpos) (.Call (.Name "zip" p) [a, b] [] pos) (mZip ma mb) := ji_of (pi_zipG hg hm (pa_cons ha (pa_cons hb pa_nil hs2) hs) hs hpl) (ri_zip re_of re_of)
/-! targets -/
theorem jg_name (i : Nat) {x : Str} {pos : Pos} (hN : X.N.Nodup) (hi : X.N[i]? = some x := by rfl) (hx : Loc X.env.scope x := by first | exact Or.inl rfl | exact Or.inr rfl) (hf : X.fn x = true ∨ X.env.scope.names.lookup x = some .local := by first | exact .inl rfl | exact .inr rfl | assumption) : JG X [i] (.Name x pos) (putV i) := jg_of (pg_name hN hi hx hf) rg_name
theorem jgs_nil : JGs X [] [] [] := jgs_of pgs_nil rgs_nil
theorem jgs_cons {js ks : List Nat} {t : Tgt} {ts : List Tgt} (h1 : JG X js a t) (h2 : JGs X ks es ts) (h : (assignEach (a :: es) X.env).map (·.2) = assign a X.env :: (assignEach es X.env).map (·.2) := by rfl) : JGs X (js ++ ks) (a :: es) (t :: ts) := jgs_of (pgs_cons h1 h2 h) (rgs_cons rg_of rgs_of)
theorem jg_tup {js : List Nat} {ts : List Tgt} (hc : X.calm = true) (h : JGs X js es ts) (h1 : (assignEach es X.env).length = ts.length := by rfl) (h2 : List.findIdx? (fun x => x.fst) (assignEach es X.env) = none := by rfl) : JG X js (.Tuple es kk pos) (gTupM ts) := jg_of (pg_tup hc h h1 h2) (rg_tup rgs_of rfl)
/-! comprehensions -/
theorem jm_lc {js : List Nat} {e iter : Expr} {ifs : List Expr} {scope : Scope} {mi : M (List (Fl × D))} {t : Tgt} {mt : M Bool} {me : M Ev} (own : List (Str × Nat)) (hc : X.calm = true) (hN : X.N.Nodup) (hi : JI X tg iter mi) (ok : blkC X.N X.env.scope scope own = true)
    (hg : ∀ (s : Shared) (H : Hp) (C : Addr) (cl : List (Str × Addr)) (fp : List Addr), JG (X.blk s H scope (compEnvC scope cl C X.env) fp) js tg t) (ht : ∀ (s : Shared) (H : Hp) (C : Addr) (cl : List (Str × Addr)) (fp : List Addr), PTs (X.blk s H scope (compEnvC scope cl C X.env) fp) ifs (ttOf X.K W0 mt))
    (he : ∀ (s : Shared) (H : Hp) (C : Addr) (cl : List (Str × Addr)) (fp : List Addr), JE (X.blk s H scope (compEnvC scope cl C X.env) fp) e me) (hj : ∀ j ∈ js, j ∈ own.map (·.2) := by decide) (hs : ∀ x, foldedSetIterable iter X.env x = pure x := by intro _; rfl) :
    JM X (.ListComp e [⟨tg, iter, ifs, 0⟩] scope pos) (eLc (own.map (·.2)) mi t mt me) :=
  jm_of (pe_lc (own := own) hc hN hi (blkOk_by ok) hg ht he hs) (rm_lc ri_of rg_of rt_of re_of hj)
theorem jts_nil {Y : Cx} : PTs Y [] (ttOf Y.K W0 mYes) := ⟨fun pins s σ H Q I ⟨g, S, σ', rl, h⟩ => pts_nil.run pins s σ H Q I (Res.ret h rl)⟩
theorem jts_one {Y : Cx} {mt : M Bool} (h : JT Y a mt) : PTs Y [a] (ttOf Y.K W0 mt) := pts_one h
/-! statements -/
variable {st : Stmt} {rest st2 : List Stmt} {sa sb sm : Sm} {ta : M Bool} {nm : M (Bool × D)}
theorem jss_nil : JSs X [] sSkip := jss_of pss_nil rs_skip
theorem jss_one (h : JS X st sa) : JSs X [st] sa := jss_of (pss_one h) rs_of
theorem jss_cons (h : JS X st sa) (h2 : JSs X rest sb) : JSs X (st :: rest) (sSeq sa sb) := jss_of (pss_cons h h2) (rs_seq rs_of rs_of)
theorem js_pass : JS X (.Pass pos) sSkip := js_of ps_pass rs_skip
theorem js_never : JS X st sBad := js_of ps_never rs_never
theorem js_brk : JS X (.Break pos) sBrk := js_of ps_break rs_brk
theorem js_cont : JS X (.Continue pos) sCont := js_of ps_continue rs_cont
theorem js_expr (ha : JE X a ma) (hs : swapsWith a none pos.line X.env = pure false := by rfl) : JS X (.Expr a pos) (sDrop ma) := js_of (ps_expr ha hs) (rs_drop re_of)
theorem js_ret (ha : JE X a ma) : JS X (.Return (some a) pos) (sRet ma) := js_of (ps_ret ha) (rs_ret re_of)
theorem js_retN : JS X (.Return none pos) sRetN := js_of ps_retN rs_retN
theorem js_if (hc : JT X c ta) (h1 : JSs X rest sa) (h2 : JSs X st2 sb) : JS X (.If c rest st2 pos) (sIf ta sa sb) := js_of (ps_if hc h1 h2) (rs_if rt_of rs_of rs_of)
theorem js_set (i : Nat) {x : Str} {pos' : Pos} (hN : X.N.Nodup) (ha : JE X a ma) (hi : X.N[i]? = some x := by rfl) (hx : Loc X.env.scope x := by first | exact Or.inl rfl | exact Or.inr rfl) (hs : swapsWith a (some (.Name x pos')) pos.line X.env = pure false := by rfl) (hf : X.fn x = true ∨ X.env.scope.names.lookup x = some .local := by first | exact .inl rfl | exact .inr rfl | assumption) : JS X (.Assign [.Name x pos'] a pos) (sSet i ma) := js_of (ps_set hN hi hx ha hs hf) (rs_set re_of)
theorem js_setM (i : Nat) {x : Str} {pos' : Pos} (hN : X.N.Nodup) (ha : JM X a nm) (hi : X.N[i]? = some x := by rfl) (hx : Loc X.env.scope x := by first | exact Or.inl rfl | exact Or.inr rfl) (hs : swapsWith a (some (.Name x pos')) pos.line X.env = pure false := by rfl) (hf : X.fn x = true ∨ X.env.scope.names.lookup x = some .local := by first | exact .inl rfl | exact .inr rfl | assumption) : JS X (.Assign [.Name x pos'] a pos) (sSetM i nm) := js_of (ps_set hN hi hx ha hs hf) (rs_setM rm_of)
theorem js_asg {js : List Nat} {t : Tgt} (ha : JE X a ma) (hg : JG X js tg t) (hs : swapsWithSole [tg] a pos.line X.env = pure false := by rfl) (hw : swappedStores [tg] a X.env = pure none := by rfl) (h1 : (assignEach [tg] X.env).map (·.2) = [assign tg X.env] := by rfl) : JS X (.Assign [tg] a pos) (sAsg ma t) := js_of (ps_asg ha hg hs hw h1) (rs_asg re_of rg_of)
theorem js_parEM (i j : Nat) {x y : Str} {px py pt : Pos} {kt k2 : Nat} {pt2 : Pos} (hc : X.calm = true) (hN : X.N.Nodup) (ha : JE X a ma) (hb : JM X b nm) (hi : X.N[i]? = some x := by rfl) (hj : X.N[j]? = some y := by rfl) (hij : i ≠ j := by decide) (hx : X.env.scope.names.lookup x = some .local := by rfl) (hy : X.env.scope.names.lookup y = some .local := by rfl)
    (h1 : starEach [a, b] X.env = (false, eval a X.env) :: starEach [b] X.env := by rfl) (h2 : starEach [b] X.env = (false, eval b X.env) :: starEach [] X.env := by rfl) (hw : swappedStores [.Tuple [.Name x px, .Name y py] kt pt] (.Tuple [a, b] k2 pt2) X.env = pure (some [x, y]) := by rfl) (hs : swapsWithSole [.Tuple [.Name x px, .Name y py] kt pt] (.Tuple [a, b] k2 pt2) pos.line X.env = pure false := by rfl) :
    JS X (.Assign [.Tuple [.Name x px, .Name y py] kt pt] (.Tuple [a, b] k2 pt2) pos) (sParEM i j ma nm) := js_of (ps_par hc hN hi hj hij hx hy (pa_cons ha (pa_cons hb pa_nil h2) h1) hw hs) (rs_parEM hij re_of rm_of)
theorem js_parEE (i j : Nat) {x y : Str} {px py pt : Pos} {kt k2 : Nat} {pt2 : Pos} (hc : X.calm = true) (hN : X.N.Nodup) (ha : JE X a ma) (hb : JE X b mb) (hi : X.N[i]? = some x := by rfl) (hj : X.N[j]? = some y := by rfl) (hij : i ≠ j := by decide) (hx : X.env.scope.names.lookup x = some .local := by rfl) (hy : X.env.scope.names.lookup y = some .local := by rfl)
    (h1 : starEach [a, b] X.env = (false, eval a X.env) :: starEach [b] X.env := by rfl) (h2 : starEach [b] X.env = (false, eval b X.env) :: starEach [] X.env := by rfl) (hw : swappedStores [.Tuple [.Name x px, .Name y py] kt pt] (.Tuple [a, b] k2 pt2) X.env = pure (some [x, y]) := by rfl) (hs : swapsWithSole [.Tuple [.Name x px, .Name y py] kt pt] (.Tuple [a, b] k2 pt2) pos.line X.env = pure false := by rfl) :
    JS X (.Assign [.Tuple [.Name x px, .Name y py] kt pt] (.Tuple [a, b] k2 pt2) pos) (sParEE i j ma mb) := js_of (ps_par hc hN hi hj hij hx hy (pa_cons ha (pa_cons hb pa_nil h2) h1) hw hs) (rs_parEE re_of re_of)
theorem js_setIx (i : Nat) {x : Str} {px : Pos} {tp : Pos} (ha : JE X b mb) (hv : JE X a ma) (hN : X.N[i]? = some x := by rfl) (hvis : Vis X.env.scope x := by first | exact Or.inl rfl | exact Or.inr (Or.inl rfl) | exact Or.inr (Or.inr rfl)) (hd : (x == ("__debug__" : Str)) = false := by decide) (hcd : (x == ("__classdict__" : Str)) = false := by decide)
    (hg : ∀ v, assign (.Subscript (.Name x px) b tp) X.env v = (do
      let ov ← holding [v] (eval (.Name x px) X.env)
      let iv ← holding [v, ov] (eval b X.env)
      standAt tp
      holding [v, ov, iv] (setItem ov iv v)
      release [v, ov, iv] []) := by intro _; rfl)
    (hs : swapsWithSole [.Subscript (.Name x px) b tp] a pos.line X.env = pure false := by rfl) (hw : swappedStores [.Subscript (.Name x px) b tp] a X.env = pure none := by rfl) (h1 : (assignEach [.Subscript (.Name x px) b tp] X.env).map (·.2) = [assign (.Subscript (.Name x px) b tp) X.env] := by rfl) :
    JS X (.Assign [.Subscript (.Name x px) b tp] a pos) (sSetIx i mb ma) := js_of (ps_asg hv (pg_sub (pe_var hN hvis hd hcd) ha set_list hg) hs hw h1) (rs_setIx re_of re_of)
theorem js_for {js : List Nat} {iter : Expr} {mi : M (List (Fl × D))} {t : Tgt} (hp : PassesOwn (model X.prog X.w) X.A X.env X.xe) (hc : X.calm = true) (hi : JI X tg iter mi) (hg : JG X js tg t) (hb : JSs X rest sa) (hs : ∀ x, foldedSetIterable iter X.env x = pure x := by intro _; rfl) : JS X (.For tg iter rest [] pos) (sFor mi t sa) := js_of (ps_for hp hc hi hg hb hs) (rs_for ri_of rg_of rs_of)
theorem js_while (n : Nat) (hp : PassesOwn (model X.prog X.w) X.A X.env X.xe) (hc : JT X c ta) (hb : JSs X rest sa) : JS X (.While c rest [] pos) (whileL ta sa n) := js_of (ps_while hp hc hb) (rs_while rt_of rs_of n)
end
end Uw

set_option Elab.async false
set_option linter.all false
set_option maxRecDepth 100000
set_option maxHeartbeats 2000000
namespace Uw
open PySem PySem.Spec PyProof.Rows L2

/-! ### calls of defs -/
/-- a def's mirror: np arguments, n slots; no exception leaves it -/
def runX (np n : Nat) (mb : Sm) : Fn := fun as => if as.length = np then (match runF n mb as with
  | .ok r => .ok r
  | _ => .bad) else .bad
/-- immutable, nothing of the script's list -/
def hard : D → Bool
  | .scr _ => false
  | .tup xs => hardL xs
  | d => imm d
where hardL : List D → Bool
  | [] => true
  | d :: ds => hard d && hardL ds
def kidsHard : D → Bool
  | .lst ds => hard.hardL ds
  | _ => false
def Fl.isNew : Fl → Bool
  | .own => true
  | .top => true
  | _ => false
/-- a call that gives a new list or dict, to be changed by the caller -/
def eCallN (F : Fn) (ma : M (List Ev)) : M (Bool × D) := ma.bind fun es σ => match ags es σ with
  | some (as, []) => (match F as with
    | .ok ((f, d), []) => if kidsHard d && Fl.isNew f then .ok ((true, d), σ) else .bad
    | .exc c fs => .exc c fs
    | _ => .bad)
  | _ => .bad
def pick {α : Type} (is : List Nat) (l : List α) : List α := is.filterMap fun i => l[i]?
def aPick (is : List Nat) (n : Nat) (ms : M (List Ev)) : M (List Ev) := ms.bind fun es => if es.length = n then M.ret (pick is es) else fun _ => .bad

section
variable {K : PySem.W.Frag} {g : Gho} {S S' H H' : Hp} {σr σr' : L2.St} {σ σ' σ0 : List Sv} {W : WX} {Dn : Ends}
/-- what never changes stays -/
def firm : HO → Prop
  | .lst _ => False
  | .dK _ => False
  | .dT _ => False
  | .ins _ _ _ => False
  | _ => True
def Less (S S' : Hp) : Prop := ∀ b o, S b = some o → firm o → S' b = some o
theorem less_t {a : Addr} {xs : List V} (l : Less S S') (h : SqT K S a xs) : SqT K S' a xs := by
  rcases h with (h | ⟨o, h⟩) | h
  · exact .inl (.inl (l _ _ h trivial))
  · exact .inl (.inr ⟨o, l _ _ h trivial⟩)
  · exact .inr h
mutual
theorem Rp.less (l : Less S S') {G G' : Addr → Prop} : ∀ {d : D} {v : V}, hard d = true → Rp K G S d v → Rp K G' S' d v
  | .non, _, _, h => by unfold Rp at h ⊢; exact h
  | .bl _, _, _, h => by unfold Rp at h ⊢; exact h
  | .int _, _, _, h => by unfold Rp at h ⊢; exact h
  | .str _, _, _, h => by unfold Rp at h ⊢; exact h
  | .tup ds, _, q, h => by
    unfold Rp at h ⊢
    obtain ⟨a, xs, e, h1, h2⟩ := h
    unfold hard at q
    exact ⟨a, xs, e, less_t l h1, RpL.less l q h2⟩
  | .ty _, _, _, h => by unfold Rp at h ⊢; exact h
  | .cls _, _, _, h => by unfold Rp at h ⊢; exact h
  | .lst _, _, q, _ => by cases q
  | .dic _, _, q, _ => by cases q
  | .dit _, _, q, _ => by cases q
  | .ins _ _, _, q, _ => by cases q
  | .scr _, _, q, _ => by cases q
theorem RpL.less (l : Less S S') {G G' : Addr → Prop} : ∀ {ds : List D} {vs : List V}, hard.hardL ds = true → RpL K G S ds vs → RpL K G' S' ds vs
  | [], vs, _, h => by unfold RpL at h ⊢; exact h
  | d :: ds, vs, q, h => by
    unfold RpL at h ⊢
    obtain ⟨v, vs', e, h1, h2⟩ := h
    unfold hard.hardL at q
    rw [Bool.and_eq_true] at q
    exact ⟨v, vs', e, Rp.less l q.1 h1, RpL.less l q.2 h2⟩
end

theorem re_callN {ta : TA} {ma : M (List Ev)} {F : Fn} (ha : RefA K W ta ma) : RefM K W (tCallS (spF K F) (WE W) ta) (eCallN F ma) := by
  intro g S H σr σ Q r h
  refine ha g S H σr σ _ r ((Res.bindM h).imp fun es σ1 S1 H1 x1 r1 h1 => fun vs hvs => ?_)
  cases q : ags es σ1 with
  | none =>
    simp only [q] at h1
    exact h1.elim
  | some p =>
    obtain ⟨as, is⟩ := p
    simp only [q] at h1
    cases is with
    | cons i is => exact h1.elim
    | nil =>
      obtain ⟨ps, k1, k2, k3, k4⟩ := ags_ok r1 hvs q List.Pairwise.nil
      have ep : ps = [] := List.eq_nil_of_length_eq_zero k2
      subst ep
      refine ⟨S1, as, [], k1, k4, r1.sH, ?_⟩
      cases hF : F as with
      | bad =>
        simp only [hF] at h1
        exact h1.elim
      | exc c fs =>
        simp only [hF] at h1
        refine ⟨rfl, fun S' H' dx xs hb hx hf => ?_⟩
        have r2 : Rel K g S' H' σr (putOuts [] [] σ1) := Rel.called r1 rfl k3 (List.Pairwise.nil) k4 hb rfl
        exact h1 S' H' _ dx xs hb.1 r2 hx hf
      | ok p =>
        obtain ⟨⟨f, d⟩, l⟩ := p
        cases l with
        | cons _ _ => 
          simp only [hF] at h1
          exact h1.elim
        | nil =>
          simp only [hF] at h1
          cases hc : (kidsHard d && Fl.isNew f) with
          | false => 
            rw [hc, if_neg (by decide)] at h1
            exact h1.elim
          | true =>
            rw [hc, if_pos rfl] at h1
            rw [Bool.and_eq_true] at hc
            intro v S' H' hb ho hz
            cases d with
            | lst ds =>
              have at_ : ∃ a xs, v = .ref a ∧ S1 a = none ∧ S' a = some (.lst xs) ∧ RpL K yes S' ds xs := by
                cases f with
                | own =>
                  have hz' : Rp K (fun a => S1 a = none) S' (.lst ds) v := hz
                  unfold Rp at hz'
                  obtain ⟨a, xs, e1, e2, e3, e4⟩ := hz'
                  exact ⟨a, xs, e1, e2, e3, RpL.mono yes_of (Ex.refl _) e4⟩
                | top =>
                  obtain ⟨hz', b, e5, e6⟩ := hz
                  unfold Rp at hz'
                  obtain ⟨a, xs, e1, e2, e3, e4⟩ := hz'
                  have e7 : b = a := V.ref.inj (e5.symm.trans e1)
                  exact ⟨a, xs, e1, e7 ▸ e6, e3, e4⟩
                | any => cases hc.2
                | old => cases hc.2
              obtain ⟨a, xs, e1, e2, e3, e4⟩ := at_
              subst e1
              have hle : Less S' (fun b => if b = a then none else S' b) := fun b o hb hf => by
                show (if b = a then none else S' b) = some o
                by_cases z : b = a
                · subst z
                  rw [e3] at hb
                  cases hb
                  exact hf.elim
                · rw [if_neg z]
                  exact hb
              obtain ⟨b1, b2, b3, b4⟩ := hb
              have hH1 : H1 a = none := b3 a (by rw [e3]; exact fun z => nomatch z) e2
              have r2 : Rel K g (fun b => if b = a then none else S' b) H' σr (putOuts [] [] σ1) := Rel.called r1 rfl k3 (List.Pairwise.nil) k4 ⟨fun b o hb => by
                  show (if b = a then none else S' b) = some o
                  rw [if_neg (fun z => by rw [z, e2] at hb; cases hb)]
                  exact b1 _ _ hb, fun b o hb => by
                  have hb' : (if b = a then none else S' b) = some o := hb
                  split at hb'
                  · cases hb'
                  · exact b2 _ _ hb', fun b hb hn => by
                  have hb' : (if b = a then none else S' b) ≠ none := hb
                  split at hb'
                  · exact absurd rfl hb'
                  · exact b3 b hb' hn, b4⟩ rfl
              refine Res.ret' (σ := σ1) h1 ?_ r2 a ?_ (r1.bH.back hH1) (fun i hi => (r1.muP hi).2.2 hH1) ⟨xs, b2 _ _ e3, RpL.less hle hc.1 e4⟩
              · intro b o hb
                show (if b = a then none else S' b) = some o
                rw [if_neg (fun z => by rw [z, e2] at hb; cases hb)]
                exact b1 _ _ hb
              · show (if a = a then none else S' a) = none
                rw [if_pos rfl]
            | _ => cases hc.1
theorem EvsOk.get : ∀ {vs : List V} {es : List Ev} (i : Nat), EvsOk K g S σr vs es → (vs[i]? = none ∧ es[i]? = none) ∨ ∃ v e, vs[i]? = some v ∧ es[i]? = some e ∧ EvOk K g S σr v e
  | [], es, i, h => by
    have : es = [] := h
    subst this
    exact .inl ⟨rfl, rfl⟩
  | v :: vs, _, 0, ⟨e, es', h1, h2, h3⟩ => by
    subst h1
    exact .inr ⟨v, e, rfl, rfl, h2⟩
  | v :: vs, _, i + 1, ⟨e, es', h1, h2, h3⟩ => by
    subst h1
    exact EvsOk.get i h3
theorem EvsOk.pick {vs : List V} {es : List Ev} (h : EvsOk K g S σr vs es) : ∀ is : List Nat, EvsOk K g S σr (pick is vs) (pick is es)
  | [] => EvsOk.nil
  | i :: is => by
    rcases EvsOk.get i h with ⟨h1, h2⟩ | ⟨v, e, h1, h2, h3⟩
    · have a1 : Uw.pick (i :: is) vs = Uw.pick is vs := by unfold Uw.pick; rw [List.filterMap_cons, h1]
      have a2 : Uw.pick (i :: is) es = Uw.pick is es := by unfold Uw.pick; rw [List.filterMap_cons, h2]
      rw [a1, a2]
      exact EvsOk.pick h is
    · have a1 : Uw.pick (i :: is) vs = v :: Uw.pick is vs := by unfold Uw.pick; rw [List.filterMap_cons, h1]
      have a2 : Uw.pick (i :: is) es = e :: Uw.pick is es := by unfold Uw.pick; rw [List.filterMap_cons, h2]
      rw [a1, a2]
      exact EvsOk.cons h3 (EvsOk.pick h is)
theorem vals_get : ∀ {vs : List V} {us : List Value} (i : Nat), Vals vs us → (vs[i]? = none ∧ us[i]? = none) ∨ ∃ v u, vs[i]? = some v ∧ us[i]? = some u ∧ RelV v u
  | _, _, i, .nil => .inl ⟨rfl, rfl⟩
  | _, _, 0, .cons r t => .inr ⟨_, _, rfl, rfl, r⟩
  | _, _, i + 1, .cons r t => vals_get i t
theorem vals_pick {vs : List V} {us : List Value} (h : Vals vs us) : ∀ is : List Nat, Vals (pick is vs) (pick is us)
  | [] => .nil
  | i :: is => by
    rcases vals_get i h with ⟨h1, h2⟩ | ⟨v, e, h1, h2, h3⟩
    · have a1 : pick (i :: is) vs = pick is vs := by unfold pick; rw [List.filterMap_cons, h1]
      have a2 : pick (i :: is) us = pick is us := by unfold pick; rw [List.filterMap_cons, h2]
      rw [a1, a2]
      exact vals_pick h is
    · have a1 : pick (i :: is) vs = v :: pick is vs := by unfold pick; rw [List.filterMap_cons, h1]
      have a2 : pick (i :: is) us = e :: pick is us := by unfold pick; rw [List.filterMap_cons, h2]
      rw [a1, a2]
      exact .cons h3 (vals_pick h is)
/-- the arguments in another order -/
def tPick (is : List Nat) (n : Nat) (t : TA) : TA := fun σ H Q => t σ H fun vs H1 => vs.length = n ∧ Q (pick is vs) H1
theorem ra_pick {t : TA} {ms : M (List Ev)} (is : List Nat) (n : Nat) (hs : RefA K W t ms) : RefA K W (tPick is n t) (aPick is n ms) := by
  intro g S H σr σ Q r h
  refine hs g S H σr σ _ r ((Res.bindM h).imp fun es σ1 S1 H1 x1 r1 h1 => fun vs hvs => ?_)
  have h2 : Res K g W S1 σr ((if es.length = n then M.ret (pick is es) else fun _ => .bad : M (List Ev)) σ1) (fun es _ S' H' => ∀ vs, EvsOk K g S' σr vs es → Q vs H') := h1
  split at h2
  · rename_i hl
    exact ⟨hvs.len.trans hl, Res.ret h2 r1 _ (hvs.pick is)⟩
  · exact h2.elim
end
/-! ### what a def promises -/
/-- a def's promise, where no repr is under way -/
structure FnG (P : Program) (w : World) (K : PySem.W.Frag) (mg : Str → Option Value) (base : Heap) (k : Nat) (f : Addr) (fd : FuncData) (ps : List Str) (sp : Sp) : Prop where
  len : ∀ vs H Q E, sp vs H Q E → vs.length = ps.length
  run : ∀ (A : Around) (outer : List PySem.Env) (s : Shared) (H : Hp) (args : Args) (us : List Value) (vs : List V) (Q : VK) (E : XK), RmG k A → Env0 P w K mg base A outer s H → BindsTo s fd args (ps.zip us) → Vals vs us → sp vs H Q E →
    codeAny (model P w) A (.call (.ref f) args) (CR CX0 outer P w H s Q E) s
structure DefOk (P : Program) (w : World) (K : PySem.W.Frag) (mg : Str → Option Value) (base : Heap) (k : Nat) (f : Addr) (fd : FuncData) (ps : List Str) (F : Fn) : Prop where
  ok : FnG P w K mg base k f fd ps (spF K F)
  bi : Binds K fd ps []
  kp : PySem.W.keepIn K (.ref f) = true
section
variable {X : Cx} {k j : Nat} {a b c : Expr} {es : List Expr} {pos p q : Pos} {ma mb mc m : M Ev} {x : Str} {ms : M (List Ev)} {F : Fn} {f : Addr} {fd : FuncData} {ps : List Str}
/-- the callee runs -/
theorem run_fnG {pins : List (Addr × Obj)} {σ : L2.St} {H : Hp} {s : Shared} {E : XK} {Q : VK} {args : Args} {us : List Value} {vs : List V} {sp : Sp} (F : FnG X.prog X.w X.K X.mg X.base k f fd ps sp) (hr : RmG k X.A) (I : Inv X pins σ H s) (hb : BindsTo s fd args (ps.zip us)) (r : Vals vs us) (h : sp vs H Q E) :
    codeAny (model X.prog X.w) X.A (.call (.ref f) args) (fun r s' => match r with | .ok (.ret v) => EP X pins σ Q v s' | .ok _ => False | .error e => X.xe e s') s := by
  refine codeAny_mono (F.run X.A X.stack s H args us vs Q E hr I.env0 hb r h) fun r s' hq => ?_
  cases r with
  | error e => exact hq.elim
  | ok fl =>
    cases fl with
    | ret u => exact I.after hq
    | next => exact False.elim hq
    | brk => exact False.elim hq
    | cont => exact False.elim hq
theorem DefOk.to {P : Program} {w : World} {K : PySem.W.Frag} {mg : Str → Option Value} {base : Heap} (h : DefOk P w K mg base k f fd ps F) {vs : List V} {H : Hp} {Q : VK} {E : XK} {s : Shared} {us : List Value} (hk : K.In s.heap) (r : Vals vs us) (q : spF K F vs H Q E) : BindsTo s fd ⟨us, []⟩ (ps.zip us) := by
  have hl : (us ++ []).length = ps.length := by rw [List.append_nil, ← r.length]; exact h.ok.len _ _ _ _ q
  have := h.bi s us hk hl
  rwa [List.append_nil] at this
theorem pe_callD (hF : DefOk X.prog X.w X.K X.mg X.base j f fd ps F) (hr : RmG k X.A) (hm : X.mg x = some (.ref f)) {t : TA} (ha : PA X (a :: es) t) (hj : j ≤ k := by decide) (hg : Gl X x := by rfl) (hd : (x == ("__debug__" : Str)) = false := by decide)
    (he : starEach (a :: es) X.env = (false, eval a X.env) :: starEach es X.env := by rfl) (hpl : (backTo pos (starEach es X.env)).any (·.1) = false := by rfl) : PE X (.Call (.Name x q) (a :: es) [] pos) (tCallS (spF X.K F) (WE W0) t) := by
  refine ⟨fun pins s σ H Q I h => ?_⟩
  refine wpAny_Call_Name_kw (ld_glob I hg hm ?_ hd)
  refine PySem.W.callWith_K (h₀ := X.base) I.ok.mod.kin hF.kp (thn (ha.run pos pins s σ H _ I h) fun us s1 ⟨vs, H1, I1, r, q⟩ => ⟨I1.kIn, ?_⟩) he hpl
  exact wpAny_call (run_fnG hF.ok (hr.mono hj) I1 (hF.to I1.kIn r q) r q)
theorem je_call (hF : DefOk X.prog X.w X.K X.mg X.base j f fd ps F) (hr : RmG k X.A) (hm : X.mg x = some (.ref f)) (ha : JA X (a :: es) ms) (hj : j ≤ k := by decide) (hg : Gl X x := by rfl) (hd : (x == ("__debug__" : Str)) = false := by decide)
    (he : starEach (a :: es) X.env = (false, eval a X.env) :: starEach es X.env := by rfl) (hpl : (backTo pos (starEach es X.env)).any (·.1) = false := by rfl) : JE X (.Call (.Name x q) (a :: es) [] pos) (eCall F ms) :=
  je_of (pe_callD hF hr hm ha hj hg hd he hpl) (re_call ra_of)
theorem jm_callN (hF : DefOk X.prog X.w X.K X.mg X.base j f fd ps F) (hr : RmG k X.A) (hm : X.mg x = some (.ref f)) (ha : JA X (a :: es) ms) (hj : j ≤ k := by decide) (hg : Gl X x := by rfl) (hd : (x == ("__debug__" : Str)) = false := by decide)
    (he : starEach (a :: es) X.env = (false, eval a X.env) :: starEach es X.env := by rfl) (hpl : (backTo pos (starEach es X.env)).any (·.1) = false := by rfl) : JM X (.Call (.Name x q) (a :: es) [] pos) (eCallN F ms) :=
  jm_of (pe_callD hF hr hm ha hj hg hd he hpl) (re_callN ra_of)
/-! keywords alone -/
abbrev JK (X : Cx) (kws : List Keyword) (m : M (List Ev)) : Prop := PK X kws (taOf X.K W0 m)
theorem jk_nil : JK X [] aNil := ⟨fun pos pins s σ H Q I ⟨g, S, σ', rl, h⟩ => pk_nil.run pos pins s σ H Q I (ra_nil g S H σ σ' Q rl h)⟩
theorem jk_cons {kws : List Keyword} {nm : Option Str} {kpos : Pos} (ha : JE X a ma) (hr : JK X kws ms) : JK X (⟨nm, a, kpos⟩ :: kws) (aCons ma ms) := ⟨fun pos pins s σ H Q I ⟨g, S, σ', rl, h⟩ => (pk_cons ha hr).run pos pins s σ H Q I (ra_cons re_of ra_of g S H σ σ' Q rl h)⟩
/-- a def's binding of keywords ks: the values ws in the parameters' order -/
def KwOk (K : PySem.W.Frag) (fd : FuncData) (ps ks : List Str) (is : List Nat) : Prop := ∀ (s : Shared) (ws : List Value), ws.length = ks.length → BindsTo s fd ⟨[], ks.zip ws⟩ (ps.zip (pick is ws))
theorem je_callK {kws : List Keyword} {ks : List Str} {is : List Nat} (hF : DefOk X.prog X.w X.K X.mg X.base j f fd ps F) (hb : KwOk X.K fd ps ks is) (hr : RmG k X.A) (hm : X.mg x = some (.ref f)) (hkw : JK X kws ms) (hj : j ≤ k := by decide) (hg : Gl X x := by rfl) (hd : (x == ("__debug__" : Str)) = false := by decide)
    (hall : (backToKw pos (keywordEach kws X.env)).all (·.1.isSome) = true := by rfl) (hks : (backToKw pos (keywordEach kws X.env)).filterMap (·.1) = ks := by rfl)
    (hpl : ((backTo pos (starEach [] X.env)).any (·.1) || (backToKw pos (keywordEach kws X.env)).any (·.1.isNone)) = false := by rfl) : JE X (.Call (.Name x q) [] kws pos) (eCall F (aPick is ks.length ms)) := by
  refine je_of (t := tCallS (spF X.K F) (WE W0) (tPick is ks.length (taOf X.K W0 ms))) ⟨fun pins s σ H Q I h => ?_⟩ (re_call (ra_pick is _ ra_of))
  refine wpAny_Call_Name_kw (ld_glob I hg hm ?_ hd)
  refine PySem.W.callWith_KW0 (h₀ := X.base) I.ok.mod.kin hF.kp hall ?_ hpl
  refine thn (hkw.run pos pins s σ H _ I h) fun ws s2 ⟨zs, H2, I2, rz, l2, q2⟩ => ⟨I2.kIn, ?_⟩
  rw [hks]
  exact wpAny_call (run_fnG hF.ok (hr.mono hj) I2 (hb s2 ws (rz.length.symm.trans l2)) (vals_pick rz is) q2)
end
/-! ### the rule for a def -/
section
variable {P : Program} {w : World} {K : PySem.W.Frag} {mg : Str → Option Value} {base : Heap} {x qual : Str} {params : Arguments} {body : List Stmt} {scope : Scope} {dvs : List V} {kws : List (Str × V)} {f : Addr} {fd : FuncData}
theorem spX_len {np n : Nat} {mb : Sm} {vs : List V} {H : Hp} {Q : VK} {E : XK} (h : spF K (runX np n mb) vs H Q E) : vs.length = np ∧ spF K (runF n mb) vs H Q (fun c d H => False) := by
  obtain ⟨S, as, ps, ha, hn, hSH, h⟩ := h
  unfold runX at h
  by_cases e : as.length = np
  · rw [if_pos e] at h
    refine ⟨ha.len.trans e, S, as, ps, ha, hn, hSH, ?_⟩
    cases q : runF n mb as with
    | ok r =>
      rw [q] at h
      exact h
    | exc c fs =>
      rw [q] at h
      exact h.elim
    | bad =>
      rw [q] at h
      exact h.elim
  · rw [if_neg e] at h
    exact h.elim
theorem fnG_of {N ps : List Str} {k : Nat} {sp : Sp} (F : FunD K x qual params body scope dvs kws f fd) (S : FnScope N ps scope) (len : ∀ vs H Q E, sp vs H Q E → vs.length = ps.length)
    (hbody : ∀ (cdv : Value) (A : Around) (outer : List PySem.Env) (s : Shared) (H : Hp) (vs : List V) (Q : VK) (E : XK), RmG k (A.deeper (envOfC qual scope s.heap.objs.size f cdv)) → sp vs H Q E →
      ∃ t, PSs (cxOf CX0 P w K mg base N qual scope f cdv A outer s H E) body t ∧ t { nx := fun _ H' => Q .non H', rt := Q } (L2.start N vs) H) : FnG P w K mg base (k + 1) f fd ps sp := by
  obtain ⟨oc, od, dV, kV, doc, pm, an, cdv, ct, osl, rfl, lk, hcd, _, _⟩ := F.ex
  refine ⟨len, fun A outer s H args us vs Q E hr e0 hb r hsp => ?_⟩
  have hl := len _ _ _ _ hsp
  have kp := fun (b : Addr) (o : Obj) (e : base.get? b = some o) => (e0.bs b o e).1
  have KX : K.In s.heap := e0.mod.kin.keeps kp
  have hkind : ∀ y ∈ ps.zip us, scope.names.lookup y.1 = some .local ∨ (scope.names.lookup y.1 = some .cell ∧ ((cellsFrom (s.heap.objs.size + 1) scope.names []).lookup y.1).isSome = true) := fun y hy =>
    (S.par y.1 (List.of_mem_zip (show (y.1, y.2) ∈ ps.zip us from hy)).1).imp id fun q => ⟨q, PySem.W.cellsFrom_some _ _ _ (.inl q)⟩
  refine codeAny_call_function hr.r.depth (KX _ _ lk) rfl S.co S.gen rfl (PySem.W.codeRec_of KX hcd) (hb _ _ _ _ (wpAny_newFunctionEnv_cells S.kind hkind fun env he s1 x => ?_))
  subst he
  refine ⟨(e0.mod.nolimit.keeps kp).keeps x.toInCall.keep, codeAny_func ?_⟩
  obtain ⟨t, ht, hq⟩ := hbody cdv A outer s H vs Q E ⟨hr.r.deeper _, hr.g⟩ hsp
  have I : Inv (cxOf CX0 P w K mg base N qual scope f cdv A outer s H E) [] (L2.start N vs) H s1 := inv_start S hr.r.hd e0 hl r x
  refine wpAny_mono (ht.run [] s1 (L2.start N vs) H _ I hq) (fun fl s' hs => ?_) fun e s' hs => hs
  cases fl with
  | ret u =>
    obtain ⟨v, σ', H', J, rv, q⟩ := hs
    exact ⟨v, H', J.os, J.bare, J.base, J.hok, rv, q⟩
  | next =>
    obtain ⟨σ', H', J, q⟩ := hs
    exact ⟨V.non, H', J.os, J.bare, J.base, J.hok, rfl, q⟩
  | brk =>
    obtain ⟨_, _, _, q⟩ := hs
    exact False.elim q
  | cont =>
    obtain ⟨_, _, _, q⟩ := hs
    exact False.elim q
theorem def_ok {N ps : List Str} {k : Nat} {mb : Sm} (F : FunD K x qual params body scope [] kws f fd) (S : FnScope N ps scope) (hle : ps.length ≤ N.length)
    (hbind : ∀ (kV doc pm : Value) (an : Option Addr) (cdv ct : Value) (us : List Value), us.length = ps.length → bindArgs (PySem.W.fnOf x qual params body scope .none kV doc pm an cdv ct) ⟨us, []⟩ = pure (ps.zip us))
    (hbody : ∀ (cdv : Value) (A : Around) (outer : List PySem.Env) (s : Shared) (H : Hp) (E : XK), RmG k (A.deeper (envOfC qual scope s.heap.objs.size f cdv)) → JSs (cxOf CX0 P w K mg base N qual scope f cdv A outer s H E).nox body mb) :
    DefOk P w K mg base (k + 1) f fd ps (runX ps.length N.length mb) where
  ok := fnG_of F S (fun vs H Q E h => (spX_len h).1) fun cdv A outer s H vs Q E hr h => by
    obtain ⟨h1, h2⟩ := spX_len h
    refine ⟨tsOf K W0 mb, PSs.nox (hbody cdv A outer s H E hr), ?_⟩
    exact body_ok (E := fun c d H => False) (rs_of (W := W0)) h2 (by rw [h1]; exact hle)
  bi := F.bindsN hbind
  kp := F.kp
end
end Uw

set_option Elab.async false
set_option linter.all false
set_option maxRecDepth 100000
set_option maxHeartbeats 2000000
namespace Uw
open PySem PySem.Spec PyProof.Rows L2
section
variable {X : Cx} {k j : Nat} {a b c tg : Expr} {es : List Expr} {pos p q : Pos} {ma mb mc m : M Ev} {x : Str} {ms : M (List Ev)} {F : Fn} {f : Addr} {fd : FuncData} {ps : List Str}
theorem js_setLc (i : Nat) {js : List Nat} {y : Str} {py spos : Pos} {e iter : Expr} {ifs : List Expr} {scope : Scope} {mi : M (List (Fl × D))} {t : Tgt} {mt : M Bool} {me : M Ev} (own : List (Str × Nat)) (hc : X.calm = true) (hN : X.N.Nodup) (hi : JI X tg iter mi) (ok : blkC X.N X.env.scope scope own = true)
    (hg : ∀ (s : Shared) (H : Hp) (C : Addr) (cl : List (Str × Addr)) (fp : List Addr), JG (X.blk s H scope (compEnvC scope cl C X.env) fp) js tg t) (ht : ∀ (s : Shared) (H : Hp) (C : Addr) (cl : List (Str × Addr)) (fp : List Addr), PTs (X.blk s H scope (compEnvC scope cl C X.env) fp) ifs (ttOf X.K W0 mt))
    (he : ∀ (s : Shared) (H : Hp) (C : Addr) (cl : List (Str × Addr)) (fp : List Addr), JE (X.blk s H scope (compEnvC scope cl C X.env) fp) e me) (hsw : swapsWith (.ListComp e [⟨tg, iter, ifs, 0⟩] scope pos) (some (.Name y py)) spos.line X.env = pure true)
    (hy : X.N[i]? = some y := by rfl) (hyl : X.env.scope.names.lookup y = some .local := by rfl) (hj : ∀ j ∈ js, j ∈ own.map (·.2) := by decide) (hs : ∀ x, foldedSetIterable iter X.env x = pure x := by intro _; rfl) :
    JS X (.Assign [.Name y py] (.ListComp e [⟨tg, iter, ifs, 0⟩] scope pos) spos) (sSetM i (eLc (own.map (·.2)) mi t mt me)) :=
  js_of (ps_setLc (own := own) hc hN hy hyl hsw hi (blkOk_by ok) hg ht he hs) (rs_setM (rm_lc ri_of rg_of rt_of re_of hj))
/-- the truth of a list, a tuple, a dict, a text, an int, None -/
def dTru : D → Option Bool
  | .non => some false
  | .bl b => some b
  | .int i => some (i != 0)
  | .lst ds => some (!ds.isEmpty)
  | .tup ds => some (!ds.isEmpty)
  | .dic kvs => some (!kvs.isEmpty)
  | _ => none
def eTru (m : M Ev) : M Bool := m.bind fun e => (look e).bind fun d => (lift (dTru d)).bind fun b => M.ret b
theorem rt_truth {K : PySem.W.Frag} {W : WX} {te : TE} {m : M Ev} (h : RefE K W te m) : RefT K W (fun σ H Q => te σ H fun x H' => ∃ k, TruV K x H' k ∧ Q k H') (eTru m) := by
  intro g S H σr σ Q r hr
  refine h g S H σr σ _ r ((Res.bindM hr).imp fun e1 σ1 S1 H1 x1 r1 h1 => fun v1 hv1 => ?_)
  obtain ⟨d1, t1, h3⟩ := Res.look r1 hv1 h1
  obtain ⟨b, hb, h4⟩ := Res.lift h3
  refine ⟨b, ?_, Res.ret h4 r1⟩
  cases d1 with
  | non => 
    cases hb
    rw [show v1 = .non from t1]
    rfl
  | bl x => 
    have e : v1 = V.bl x := t1
    cases hb
    rw [e]
    rfl
  | int x => 
    have e : v1 = V.int x := t1
    cases hb
    rw [e]
    rfl
  | lst ds =>
    cases hb
    obtain ⟨a, xs, e, h1, h2⟩ := t1
    rw [e]
    refine .inl ⟨xs, sq_of h1, ?_⟩
    have := h2.length
    cases ds <;> cases xs <;> first | rfl | cases this
  | tup ds =>
    cases hb
    have t2 : Rp K yes S1 (.tup ds) v1 := t1
    unfold Rp at t2
    obtain ⟨a, xs, e, h1, h2⟩ := t2
    rw [e]
    refine .inr (.inl ⟨xs, ex_t r1.sH h1, ?_⟩)
    have := h2.length
    cases ds <;> cases xs <;> first | rfl | cases this
  | dic ds =>
    cases hb
    obtain ⟨a, xs, e, h1, h2⟩ := t1
    rw [e]
    refine .inr (.inr ⟨xs, h1, ?_⟩)
    cases ds with
    | nil =>
      unfold RpK at h2
      rw [h2]
      rfl
    | cons p ds =>
      obtain ⟨k, d⟩ := p
      unfold RpK at h2
      obtain ⟨v, vs, e, _⟩ := h2
      rw [e]
      rfl
  | _ => cases hb
theorem jt_tru (ha : JE X a ma) (he : ∀ whole, isTrue a X.env whole = (do let v ← whole; standAt a.pos; holding [v] (truthy v)) := by intro _; rfl) : JT X a (eTru ma) := jt_of (pt_truth ha he) (rt_truth re_of)
theorem def_bad {P : Program} {w : World} {K : PySem.W.Frag} {mg : Str → Option Value} {base : Heap} (bi : Binds K fd ps []) (kp : PySem.W.keepIn K (.ref f) = true) : DefOk P w K mg base k f fd ps (fun _ => .bad) where
  ok := ⟨fun vs H Q E ⟨_, _, _, _, _, _, h⟩ => h.elim, fun A outer s H args us vs Q E _ _ _ _ ⟨_, _, _, _, _, _, h⟩ => h.elim⟩
  bi := bi
  kp := kp
end
end Uw

set_option Elab.async false
set_option linter.all false
set_option maxRecDepth 100000
set_option maxHeartbeats 2000000
namespace Uw
open PySem PySem.Spec PyProof.Rows L2
/-! ### a, b, c = x, y, z with plain local names -/
def tPar3 (i j k : Nat) (ta : TA) : TS := fun D σ H => ta σ H fun vs H1 => ∃ v w u, vs = [v, w, u] ∧ D.nx (((σ.set i (some v)).set j (some w)).set k (some u)) H1
theorem ps_par3 {X : Cx} {pos : Pos} {i j k : Nat} {x y z : Str} {a b c : Expr} {ta : TA} {px py pz pt : Pos} {kt k2 pt2} (hc : X.calm = true) (hN : X.N.Nodup) (hi : X.N[i]? = some x) (hj : X.N[j]? = some y) (hk : X.N[k]? = some z) (hij : i ≠ j) (hik : i ≠ k) (hjk : j ≠ k)
    (hx : X.env.scope.names.lookup x = some .local) (hy : X.env.scope.names.lookup y = some .local) (hz : X.env.scope.names.lookup z = some .local) (ha : PA X [a, b, c] ta)
    (hw : swappedStores [.Tuple [.Name x px, .Name y py, .Name z pz] kt pt] (.Tuple [a, b, c] k2 pt2) X.env = pure (some [x, y, z]))
    (hs : swapsWithSole [.Tuple [.Name x px, .Name y py, .Name z pz] kt pt] (.Tuple [a, b, c] k2 pt2) pos.line X.env = pure false := by rfl) :
    PS X (.Assign [.Tuple [.Name x px, .Name y py, .Name z pz] kt pt] (.Tuple [a, b, c] k2 pt2) pos) (tPar3 i j k ta) := by
  refine ⟨fun pins s σ H D I h => ?_⟩
  rw [exec_Assign_arm]
  refine wpAny_bind (wpAny_standAt ?_)
  rw [hs]
  refine wpAny_bind (wpAny_pure ?_)
  rw [if_neg (by decide)]
  refine wpAny_bind (Tuple_ (thn (ha.run _ pins s σ H _ I h) fun us s1 ⟨vs, H1, I1, r1, q1⟩ => ?_))
  obtain ⟨v, w, t, e1, q1⟩ := q1
  subst e1
  obtain ⟨u1, u2, u3, rfl, rv, rw', ru⟩ : ∃ u1 u2 u3, us = [u1, u2, u3] ∧ RelV v u1 ∧ RelV w u2 ∧ RelV t u3 := by
    cases r1 with
    | cons p q =>
      cases q with
      | cons p' q' =>
        cases q' with
        | cons p'' q'' =>
          cases q''
          exact ⟨_, _, _, rfl, p, p', p''⟩
  refine wpAny_newObj_type ?_ (by show 3 ≤ sizeLine; decide)
  have I2 : Inv X pins σ H1 { s1 with heap := s1.heap.push { cls := .type "tuple", data := .seq [u1, u2, u3].toArray } } := I1.kept (t' := s1.toks) fun b o e => Heap.get?_push_of_some _ e
  rw [hw]
  refine wpAny_bind (wpAny_pure ?_)
  show wpAny (model X.prog X.w) X.A (do rule "assign.swapped-stores"; let items ← unpackItems (.ref s1.heap.objs.size) 3 none; assignInOrder [fun v => bindName X.env z v, fun v => bindName X.env y v, fun v => bindName X.env x v] items.reverse; pure Flow.next) _ _ _
  refine wpAny_bind (wpAny_rule (wpAny_bind (unpackItems_tuple (items := #[u1, u2, u3]) (I.ok.hd hc) (IsTup.new s1.heap _) fun h' hx' => ?_)))
  have I3 := I2.kept (h' := h') (t' := s1.toks) fun b o e => hx' b o (Nat.ne_of_lt (Heap.lt_size e)) e
  show wpAny _ _ (assignInOrder [fun v => bindName X.env z v, fun v => bindName X.env y v, fun v => bindName X.env x v] [u3, u2, u1] >>= fun _ => pure Flow.next) _ _ _
  refine wpAny_bind (assignInOrder_cons (wpAny_bindName (store_ok I3 hN hk (.inl hz) ru (fun s2 I4 => ?_) (.inr hz))))
  refine assignInOrder_cons (wpAny_bindName (store_ok I4 hN hj (.inl hy) rw' (fun s3 I5 => ?_) (.inr hy)))
  refine assignInOrder_cons (wpAny_bindName (store_ok I5 hN hi (.inl hx) rv (fun s4 I6 => assignInOrder_nil (wpAny_pure ?_)) (.inr hx)))
  rw [List.set_comm _ _ (Ne.symm hjk), List.set_comm _ _ (Ne.symm hik), List.set_comm _ _ (Ne.symm hij)] at I6
  exact ⟨_, H1, I6, q1⟩
def sPar3 (i j k : Nat) (ma mb mc : M Ev) : Sm := (eV ma).bind fun e => (eV mb).bind fun e2 => (eV mc).bind fun e3 => (putE i e).bind fun _ => (putE j e2).bind fun _ => (putE k e3).bind fun _ => M.ret .next
section
variable {K : PySem.W.Frag} {g : Gho} {S S' H H' : Hp} {σr σr' : L2.St} {σ σ' σ0 : List Sv} {W : WX} {Dn : Ends}
theorem put_ev {j : Nat} {e : Ev} {v : V} (h : EvOk K g S σr v e) (q : putV j e σ = some σ') : EvOk K g S σr' v e := by
  cases e with
  | view z => unfold putV at q; cases q
  | val f d => exact h
theorem rs_par3 {i j k : Nat} {ta tb tc : TE} {ma mb mc : M Ev} (ha : RefE K W ta ma) (hb : RefE K W tb mb) (hc : RefE K W tc mc) : RefS K W (tPar3 i j k (tCons ta (tCons tb (tCons tc tNil)))) (sPar3 i j k ma mb mc) := by
  intro g S H σr σ Dn r h
  refine re_val ha g S H σr σ _ r ((ResS.bind (σr := σr) h).imp fun e σ1 S1 H1 x1 r1 h1 => fun v hv => ?_)
  refine re_val hb g S1 H1 σr σ1 _ r1 ((ResS.bind (σr := σr) h1).imp fun e2 σ2 S2 H2 x2 r2 h2 => fun w hw => ?_)
  refine re_val hc g S2 H2 σr σ2 _ r2 ((ResS.bind (σr := σr) h2).imp fun e3 σ3 S3 H3 x3 r3 h3 => fun u hu => ?_)
  refine ⟨v, w, u, rfl, ?_⟩
  obtain ⟨σ4, q4, h4⟩ := ResS.tgt h3
  have r4 := putV_ok r3 ((hv.mono x2).mono x3) q4
  obtain ⟨σ5, q5, h5⟩ := ResS.tgt h4
  have r5 := putV_ok r4 (put_ev (hw.mono x3) q5) q5
  obtain ⟨σ6, q6, h6⟩ := ResS.tgt h5
  exact h6 _ S3 H3 (Ex.refl S3) (putV_ok r5 (put_ev hu q6) q6)
end
section
variable {X : Cx} {a b c : Expr} {es : List Expr} {pos p q : Pos} {ma mb mc m : M Ev} {ms : M (List Ev)}
theorem js_par3 (i j k : Nat) {x y z : Str} {px py pz pt : Pos} {kt k2 : Nat} {pt2 : Pos} (hc : X.calm = true) (hN : X.N.Nodup) (ha : JE X a ma) (hb : JE X b mb) (hcc : JE X c mc) (hi : X.N[i]? = some x := by rfl) (hj : X.N[j]? = some y := by rfl) (hk : X.N[k]? = some z := by rfl) (hij : i ≠ j := by decide) (hik : i ≠ k := by decide) (hjk : j ≠ k := by decide)
    (hx : X.env.scope.names.lookup x = some .local := by rfl) (hy : X.env.scope.names.lookup y = some .local := by rfl) (hz : X.env.scope.names.lookup z = some .local := by rfl)
    (h0 : starEach [a, b, c] X.env = (false, eval a X.env) :: starEach [b, c] X.env := by rfl) (h1 : starEach [b, c] X.env = (false, eval b X.env) :: starEach [c] X.env := by rfl) (h2 : starEach [c] X.env = (false, eval c X.env) :: starEach [] X.env := by rfl)
    (hw : swappedStores [.Tuple [.Name x px, .Name y py, .Name z pz] kt pt] (.Tuple [a, b, c] k2 pt2) X.env = pure (some [x, y, z]) := by rfl) (hs : swapsWithSole [.Tuple [.Name x px, .Name y py, .Name z pz] kt pt] (.Tuple [a, b, c] k2 pt2) pos.line X.env = pure false := by rfl) :
    JS X (.Assign [.Tuple [.Name x px, .Name y py, .Name z pz] kt pt] (.Tuple [a, b, c] k2 pt2) pos) (sPar3 i j k ma mb mc) := js_of (ps_par3 hc hN hi hj hk hij hik hjk hx hy hz (pa_cons ha (pa_cons hb (pa_cons hcc pa_nil h2) h1) h0) hw hs) (rs_par3 re_of re_of re_of)
theorem ja_starR (hc : X.calm = true) (hm : X.mg "range" = none) (ha : JE X a ma) (hr : JA X es ms) (hg : Gl X "range" := by rfl) (na : starEach [a] X.env = (false, eval a X.env) :: starEach [] X.env := by rfl) (hs : starEach (.Starred (.Call (.Name "range" p) [a] [] pos) q :: es) X.env = (true, eval (.Call (.Name "range" p) [a] [] pos) X.env) :: starEach es X.env := by rfl) :
    JA X (.Starred (.Call (.Name "range" p) [a] [] pos) q :: es) (aStarR ma ms) := ja_of (pa_starRg hc (prg_1 hg hm ha na) hr hs) (ra_starRg re_of ra_of)
end
end Uw

set_option Elab.async false
set_option linter.all false
set_option maxRecDepth 100000
set_option maxHeartbeats 2000000
namespace Uw
open PySem PySem.Spec PyProof.Rows L2
/-! ### tables of the module: text keys, text values -/
structure TabOk (K : PySem.W.Frag) (w : World) (d : Addr) (kvs : List (Str × Str)) : Prop where
  ks : He.dicW K d = some (He.keysIn w.params (kvs.map (·.1)))
  vs : ∀ q ∈ kvs, ∃ t, PySem.W.nsIn K d q.1 = some (some (.str q.2 t))
theorem find_keys {P : Params} {z : Str} : ∀ {l : List DictEntry} {ks : List Str}, l.map He.keyOf = He.keysIn P ks → z ∉ ks → l.find? (·.key.isStr z) = none ∧ l.any (·.refKey) = false
  | [], _, _, _ => ⟨rfl, rfl⟩
  | e :: r, [], h, _ => by cases h
  | e :: r, k :: ks, h, hz => by
    have h1 : He.keyOf e :: r.map He.keyOf = some (k, PyData.keyHash P k) :: He.keysIn P ks := h
    injection h1 with h2 h3
    obtain ⟨i1, i2⟩ := find_keys h3 fun x => hz (List.mem_cons_of_mem _ x)
    unfold He.keyOf at h2
    split at h2
    · rename_i x t q
      have h4 := Option.some.inj h2
      obtain ⟨h5, h6⟩ := Prod.mk.inj h4
      have ne : e.key.isStr z = false := by
        rw [q]
        show (x == z) = false
        refine beq_eq_false_iff_ne.mpr fun e2 => hz ?_
        rw [← e2, h5]
        exact List.mem_cons_self ..
      have nr : e.refKey = false := by
        unfold DictEntry.refKey
        rw [q]
      refine ⟨?_, ?_⟩
      · rw [List.find?_cons, ne]
        exact i1
      · rw [List.any_cons, nr, i2]
        rfl
    · cases h2
theorem lookup_none {z : Str} : ∀ {kvs : List (Str × Str)}, kvs.lookup z = none → z ∉ kvs.map (·.1)
  | [], _ => fun h => nomatch h
  | (k, v) :: r, h => by
    rw [List.lookup_cons] at h
    split at h
    · cases h
    · rename_i q
      intro hm
      rcases List.mem_cons.mp hm with e | hm
      · rw [e] at q
        simp at q
      · exact lookup_none h hm
theorem lookup_mem {z v : Str} : ∀ {kvs : List (Str × Str)}, kvs.lookup z = some v → (z, v) ∈ kvs
  | [], h => by cases h
  | (k, u) :: r, h => by
    rw [List.lookup_cons] at h
    split at h
    · rename_i q
      cases h
      rw [show z = k from by simpa using q]
      exact List.mem_cons_self ..
    · exact List.mem_cons_of_mem _ (lookup_mem h)
theorem TabOk.get {K : PySem.W.Frag} {w : World} {d : Addr} {kvs : List (Str × Str)} (T : TabOk K w d kvs) (z : Str) : ∃ r, PySem.W.nsIn K d z = some r ∧ (match kvs.lookup z with | some v => ∃ t, r = some (.str v t) | none => r = none) := by
  cases q : kvs.lookup z with
  | some v =>
    obtain ⟨t, h⟩ := T.vs _ (lookup_mem q)
    exact ⟨_, h, t, rfl⟩
  | none =>
    refine ⟨none, ?_, rfl⟩
    have h := T.ks
    unfold He.dicW at h
    cases q2 : K.lookup d with
    | none => rw [q2] at h; cases h
    | some o =>
      obtain ⟨oc, od, dt, osl⟩ := o
      rw [q2] at h
      cases oc with
      | type c =>
        cases od with
        | none =>
          cases dt with
          | dict es n =>
            have h1 : (match decide (c = "dict") && (osl.isEmpty && !(d == sysModules)) with
              | true => some (es.toList.map He.keyOf)
              | false => none) = some (He.keysIn w.params (kvs.map (·.1))) := h
            cases z2 : decide (c = "dict") && (osl.isEmpty && !(d == sysModules)) with
            | false =>
              rw [z2] at h1
              cases h1
            | true =>
              rw [z2] at h1
              obtain ⟨i1, i2⟩ := find_keys (Option.some.inj h1) (lookup_none q)
              unfold PySem.W.nsIn
              rw [q2]
              simp only [i1, i2]
              rfl
          | _ => cases h
        | some b => cases dt <;> cases h
      | _ => cases od <;> cases dt <;> cases h
abbrev rTab (kvs : List (Str × Str)) : R2 := fun x y H Q => ∃ s s2, x = .str s ∧ y = .str s2 ∧ Q (.str ((kvs.lookup s).getD s2)) H
@[irreducible] def dTab (kvs : List (Str × Str)) : D → D → Option D
  | .str s, .str s2 => some (.str ((kvs.lookup s).getD s2))
  | _, _ => none
abbrev eTabGet (kvs : List (Str × Str)) (ma mb : M Ev) : M Ev := eOp (dTab kvs) ma mb
theorem pure_tab {K : PySem.W.Frag} {kvs : List (Str × Str)} : Pure2 K (rTab kvs) (dTab kvs) := by
  intro S H a b x y d Q e ta tb h k
  unfold dTab at h
  cases a <;> first | (cases h; done) | skip
  cases b <;> first | (cases h; done) | skip
  rename_i s s2
  cases h
  have e1 : x = .str s := ta
  have e2 : y = .str s2 := tb
  exact ⟨s, s2, e1, e2, k _ (by unfold Rp; rfl)⟩
section
variable {X : Cx} {k : Nat} {e f : Expr} {x : Str} {p ap cp : Pos} {te tf : TE} {ma mb : M Ev} {kvs : List (Str × Str)} {d : Addr}
theorem pe_tabget (T : TabOk X.K X.w d kvs) (hm : X.mg x = some (.ref d)) (he : PE X e te) (hf : PE X f tf) (m : M2 X (.Name x p) "get" ap e f cp) (hg : Gl X x) (hdb : (x == ("__debug__" : Str)) = false) : PE X (.Call (.Attribute (.Name x p) "get" ap) [e, f] [] cp) (tOp (rTab kvs) te tf) := by
  obtain ⟨es, n, D⟩ := He.dicW_ok T.ks
  refine ⟨fun pins s σ H Q I h => ?_⟩
  refine wpAny_Call_method m.base m.few m.line PySem.F.plainAttrs_dict PySem.F.slot_dict_get PySem.F.type_dict_get (ld_glob I hg hm ?_ hdb)
  have ex : ∃ ob, s.heap.get? d = some ob ∧ ob.dict = none := ⟨_, I.kIn _ _ D.at_, rfl⟩
  refine ⟨kd_type D I, fun b hb => by cases hb; exact ex, ?_⟩
  rw [m.trees]
  refine Calls.callWith_builtin rfl (Calls.evalArgs_plain (Calls.spliced_cons (thn (he.run pins s σ H _ I h) fun iv s2 ⟨y, H2, I2, ry, q2⟩ =>
    Calls.spliced_cons (thn (hf.run pins s2 σ H2 _ I2 q2) fun fv s3 ⟨z, H3, I3, rz, s4, s5, e1, e2, q3⟩ => Calls.spliced_nil ?_))))
  subst e1 e2
  obtain ⟨t, rfl⟩ := ry
  obtain ⟨t5, rfl⟩ := rz
  refine call_meetsIn PySem.F.slot_dict_get (kd_type D I3) PySem.F.entry_dict_get (PySem.F.args_dict_get_3 _ _ _) (meets_dict_get_default (strKind X.prog X.w) d (PySem.strKind_is X.prog X.w s4 t) D.low _) ⟨_, PySem.W.mapOf_K (prog := X.prog) I3.kIn D.at_ D.lit, ?_⟩
  obtain ⟨r, h1, h2⟩ := T.get s4
  rw [PySem.W.find_K D.at_ h1]
  cases q : kvs.lookup s4 with
  | none =>
    rw [q] at h2 q3
    subst h2
    exact ⟨.str s5, H3, I3.tok _, ⟨t5, rfl⟩, q3⟩
  | some v =>
    rw [q] at h2 q3
    obtain ⟨t6, rfl⟩ := h2
    exact ⟨.str v, H3, I3.tok _, ⟨t6, rfl⟩, q3⟩
theorem je_tabget (T : TabOk X.K X.w d kvs) (hm : X.mg x = some (.ref d)) (he : JE X e ma) (hf : JE X f mb) (hg : Gl X x := by rfl) (hdb : (x == ("__debug__" : Str)) = false := by decide)
    (h1 : attributeBase (.Name x p) "get" X.env (eval (.Name x p) X.env) = eval (.Name x p) X.env := by rfl)
    (h2 : ((backTo cp (starEach [e, f] X.env)).all (fun x => !x.1) && (backToKw cp (keywordEach [] X.env)).all (fun x => x.1.isSome) && decide (([e, f] : List Expr).length + ([] : List Keyword).length + (if ([] : List Keyword).isEmpty then 0 else 1) < 30)) = true := by rfl)
    (h3 : (ap.endLine == cp.line) = true := by rfl) (h4 : backTo cp (starEach [e, f] X.env) = [(false, eval e X.env), (false, eval f X.env)] := by rfl) : JE X (.Call (.Attribute (.Name x p) "get" ap) [e, f] [] cp) (eTabGet kvs ma mb) :=
  je_of (pe_tabget T hm he hf ⟨h1, h2, h3, h4⟩ hg hdb) (re_op re_of re_of pure_tab)
end
end Uw

set_option Elab.async false
set_option linter.all false
set_option maxRecDepth 100000
set_option maxHeartbeats 2000000
namespace Uw
open PySem PySem.Spec PyProof.Rows L2
/-! ### attributes that are set, instances that are made -/
def putFD (f : Str) (d : D) : List (Str × D) → List (Str × D)
  | [] => [(f, d)]
  | (g, x) :: r => if g = f then (g, d) :: r else (g, x) :: putFD f d r
def gFldM (i : Nat) (c f : Str) : Tgt := fun e σ => match e, σ[i]? with
  | .val fl d, some (.mu o (.ins c' fs)) => if c' = c ∧ fs.length < 900 then some (σ.set i (.mu (o && Fl.isOwn (fl, d)) (.ins c (putFD f d fs)))) else none
  | .val fl d, some (.io (.ins c' fs)) => if c' = c ∧ fs.length < 900 then some (σ.set i (.io (.ins c (putFD f d fs)))) else none
  | _, _ => none
def eMake (c : Str) (F : Fn) (ma : M (List Ev)) : M (Bool × D) := ma.bind fun es σ => match ags es σ with
  | some (as, []) => (match F (.io (.ins c []) :: as) with
    | .ok ((_, .non), [d]) => .ok ((false, d), σ)
    | _ => .bad)
  | _ => .bad
def gFld (K : PySem.W.Frag) (to : TE) (f : Str) : TG := fun v σ H Q => to σ H fun x H2 => ∃ a C dx fs, x = .ref a ∧ H2 a = some (.ins C dx fs) ∧ Cls K C ∧ NoAttr K C f ∧ fs.length < 1000 ∧ Q σ (upd H2 a (.ins C dx (putF f v fs)))
theorem pg_fld {X : Cx} {o : Expr} {f : Str} {to : TE} {pos : Pos} (ho : PE X o to) : PG X (.Attribute o f pos) (gFld X.K to f) := by
  refine ⟨fun pins s σ H v u Q I r h => ?_⟩
  rw [assign_Attribute]
  refine wpAny_bind (wpAny_holding (thn (ho.run pins s σ H _ I h) fun ov s1 ⟨x, H1, I1, rx, a, C, dx, fs, ex, ea, c, n, l, q⟩ => ?_))
  subst ex
  obtain rfl : ov = Value.ref a := rx
  refine wpAny_bind (wpAny_standAt (wpAny_bind (wpAny_holding (setattr_ok I1 ea c n l r fun s3 I3 => ?_))))
  exact wpAny_release ⟨σ, _, I3, q⟩
section
variable {K : PySem.W.Frag} {g : Gho} {S S' H H' : Hp} {σr σr' : L2.St} {σ σ' σ0 : List Sv} {W : WX} {Dn : Ends}
theorem RpF.length {G : Addr → Prop} : ∀ {fs : List (Str × D)} {xs : List (Str × V)}, RpF K G S fs xs → xs.length = fs.length
  | [], xs, h => by unfold RpF at h; rw [h]; rfl
  | (k, d) :: fs, xs, h => by
    unfold RpF at h
    obtain ⟨v, vs, e, _, h2⟩ := h
    rw [e, List.length_cons, List.length_cons, RpF.length h2]
theorem RpF.put {G : Addr → Prop} {f : Str} {d : D} {v : V} (hv : Rp K G S d v) : ∀ {fs : List (Str × D)} {xs : List (Str × V)}, RpF K G S fs xs → RpF K G S (putFD f d fs) (putF f v xs)
  | [], xs, h => by
    unfold RpF at h
    subst h
    unfold putFD putF RpF
    exact ⟨v, [], rfl, hv, by unfold RpF; rfl⟩
  | (k, x) :: fs, xs, h => by
    unfold RpF at h
    obtain ⟨u, vs, e, h1, h2⟩ := h
    subst e
    unfold putFD putF
    by_cases q : k = f
    · rw [if_pos q, if_pos q]
      unfold RpF
      exact ⟨v, vs, rfl, hv, h2⟩
    · rw [if_neg q, if_neg q]
      unfold RpF
      exact ⟨u, _, rfl, h1, RpF.put hv h2⟩
theorem own_one {o : Bool} {f : Fl} {d : D} {v : V} (hse : Ex g.Se S) (h : FzOk K g S d v f) : Rp K (gdO g (o && Fl.isOwn (f, d))) S d v := by
  obtain ⟨v1, vs1, e1, h3, _⟩ := gdO_own (o := o) hse h
  cases e1
  exact h3
theorem RpF.and {o b : Bool} {fs : List (Str × D)} {xs : List (Str × V)} (h : RpF K (gdO g o) S fs xs) : RpF K (gdO g (o && b)) S fs xs := by
  cases o with
  | true => cases b with
    | true => exact h
    | false => exact RpF.mono (fun _ _ => trivial) (Ex.refl S) h
  | false => exact h
theorem rg_fld {i : Nat} {c f : Str} (hc : Cls K (He.ga K c)) (hn : NoAttr K (He.ga K c) f) : RefG K [] (gFld K (tVar i) f) (gFldM i c f) := by
  intro g S H σr σ v ev σ' Q r hv q h
  unfold gFldM at q
  split at q
  · rename_i fl d o c' fs hs
    split at q
    · rename_i hcc
      cases q
      obtain ⟨ec, hl⟩ := hcc
      subst ec
      obtain ⟨p, e1, hS, hB, dx, xs, h1, h0, h2⟩ := r.slot i _ hs
      refine ⟨.ref p, e1, p, _, dx, xs, rfl, h1, hc, hn, by rw [h2.length]; omega, ?_⟩
      exact h _ S _ (Ex.refl S) (r.mut ⟨_, hs, rfl, e1⟩ hs rfl ⟨p, rfl, hS, hB, dx, _, upd_same, h0, RpF.put (own_one r.seS hv) h2.and⟩) Leaves.refl
    · cases q
  · rename_i fl d c' fs hs
    split at q
    · rename_i hcc
      cases q
      obtain ⟨ec, hl⟩ := hcc
      subst ec
      obtain ⟨p, e1, hS, hB, hio, dx, xs, h1, h0, h2⟩ := r.slot i _ hs
      refine ⟨.ref p, e1, p, _, dx, xs, rfl, h1, hc, hn, by rw [h2.length]; omega, ?_⟩
      exact h _ S _ (Ex.refl S) (r.mut ⟨_, hs, rfl, e1⟩ hs rfl ⟨p, rfl, hS, hB, hio, dx, _, upd_same, h0, RpF.put (FzOk.any r.seS hv) h2⟩) Leaves.refl
    · cases q
  · cases q
theorem AgsOk.ex : ∀ {vs : List V} {as : List Ag}, AgsOk K S H vs as [] → Ex S S' → AgsOk K S' H' vs as []
  | [], as, h, _ => h
  | v :: vs, as, h, e => by
    rcases h with ⟨d, as', e1, h1, h2⟩ | ⟨d, as', p, ps', _, e2, _⟩
    · exact .inl ⟨d, as', e1, Rp.mono (fun _ x => x) e h1, AgsOk.ex h2 e⟩
    · cases e2
theorem re_make {ta : TA} {ma : M (List Ev)} {F : Fn} {c : Str} (ha : RefA K W ta ma) : RefM K W (StX.tMakeR (He.ga K c) (spF K F) (fun _ _ _ => False) ta) (eMake c F ma) := by
  intro g S H σr σ Q r h
  refine ha g S H σr σ _ r ((Res.bindM h).imp fun es σ1 S1 H1 x1 r1 h1 => fun vs hvs => ?_)
  intro x dx hx hdx hne
  cases q : ags es σ1 with
  | none =>
    simp only [q] at h1
    exact h1.elim
  | some p =>
    obtain ⟨as, is⟩ := p
    simp only [q] at h1
    cases is with
    | cons i is => exact h1.elim
    | nil =>
      obtain ⟨ps, k1, k2, k3, k4⟩ := ags_ok r1 hvs q List.Pairwise.nil
      have ep : ps = [] := List.eq_nil_of_length_eq_zero k2
      subst ep
      have hS1x : S1 x = none := r1.sH.back hx
      have hS1d : S1 dx = none := r1.sH.back hdx
      have ra := r1.alloc (o := .own x) hdx
      have hx2 : upd H1 dx (.own x) x = none := by rw [upd_ne (Ne.symm hne)]; exact hx
      have rb := ra.newH (o := .ins (He.ga K c) dx []) hx2
      have hS2x : upd S1 dx (.own x) x = none := by rw [upd_ne (Ne.symm hne)]; exact hS1x
      refine ⟨upd S1 dx (.own x), .io (.ins c []) :: as, [x], .inr ⟨.ins c [], as, x, [], rfl, rfl, rfl, hS2x, ⟨dx, [], upd_same, upd_same, by unfold RpF; rfl⟩, AgsOk.ex k1 (Ex.new hS1d)⟩, by simp, rb.sH, ?_⟩
      cases hF : F (.io (.ins c []) :: as) with
      | bad =>
        simp only [hF] at h1
        exact h1.elim
      | exc c fs =>
        simp only [hF] at h1
        exact h1.elim
      | ok pr =>
        obtain ⟨⟨f, d0⟩, l⟩ := pr
        simp only [hF] at h1
        cases d0 <;> first | exact h1.elim | skip
        cases l with
        | nil => exact h1.elim
        | cons d l =>
          cases l with
          | cons _ _ => exact h1.elim
          | nil =>
            intro v S' H' hb ho hz
            obtain ⟨b1, b2, b3, b4⟩ := hb
            obtain ⟨d', ds', ed, o1, o2, o3⟩ := ho
            cases ed
            have ev : v = .non := by
              cases f <;> first | exact hz | exact hz.1
            refine ⟨ev, ?_⟩
            have hBx : g.B x = none := r1.bH.back hx
            have r2 : Rel K g S' H' σr σ1 := by
              refine rb.grow b1 b2 (fun a o ha => ?_) (fun a h2 h3 => rb.bH.back (b3 a h2 h3)) (fun i p hp => ?_)
              · refine b4 a o (rb.bH a o ha) fun z => ?_
                rw [List.mem_singleton.mp z] at ha
                rw [hBx] at ha
                cases ha
              · obtain ⟨m1, _, m3⟩ := rb.muP hp
                have np : p ≠ x := fun z => (r1.muP hp).2.2 (by rw [z]; exact hx)
                refine ⟨?_, ?_⟩
                · cases z : S' p with
                  | none => rfl
                  | some o => exact absurd (b3 p (by rw [z]; exact fun w => nomatch w) m1) m3
                · cases z : upd (upd H1 dx (.own x)) x (.ins (He.ga K c) dx []) p with
                  | none => exact absurd z m3
                  | some o => exact b4 p o z fun w => np (List.mem_singleton.mp w)
            exact Res.ret' (σ := σ1) h1 ((Ex.new hS1d).trans b1) r2 x o1 hBx (fun i hi => (r1.muP hi).2.2 hx) o2
end
section
variable {X : Cx} {k j : Nat} {a b c : Expr} {es : List Expr} {pos p q : Pos} {x : Str} {ms : M (List Ev)} {F : Fn} {f : Addr} {fd : FuncData} {ps : List Str}
theorem jg_fld (i : Nat) {cn f x : Str} {px : Pos} (hc : Cls X.K (He.ga X.K cn)) (hn : NoAttr X.K (He.ga X.K cn) f) (hN : X.N[i]? = some x := by rfl) (hv : Vis X.env.scope x := by first | exact Or.inl rfl | exact Or.inr (Or.inl rfl) | exact Or.inr (Or.inr rfl)) (hd : (x == ("__debug__" : Str)) = false := by decide) (hcd : (x == ("__classdict__" : Str)) = false := by decide) :
    JG X [] (.Attribute (.Name x px) f pos) (gFldM i cn f) := jg_of (pg_fld (pe_var hN hv hd hcd)) (rg_fld hc hn)
theorem pe_makeG {C : Addr} {sp : Sp} {t : TA} {E : XK} (M : Mk X.K C f) (F : FnG X.prog X.w X.K X.mg X.base j f fd ps sp) (hb : Binds X.K fd ps []) (hr : RmG (j + 1) X.A) (hg : Gl X x) (hm : X.mg x = some (.ref C)) (ha : PA X (a :: es) t) (hdb : (x == ("__debug__" : Str)) = false)
    (he : starEach (a :: es) X.env = (false, eval a X.env) :: starEach es X.env) (hpl : (backTo pos (starEach es X.env)).any (·.1) = false) : PE X (.Call (.Name x q) (a :: es) [] pos) (StX.tMakeR C sp E t) := by
  refine ⟨fun pins s σ H Q I h => ?_⟩
  refine wpAny_Call_Name_kw (ld_glob I hg hm ?_ hdb)
  refine PySem.W.callWith_K (h₀ := X.base) I.ok.mod.kin M.kp (thn (ha.run pos pins s σ H _ I h) fun us s1 ⟨vs, H1, I1, r, q⟩ => ⟨I1.kIn, ?_⟩) he hpl
  have hq := q (s1.heap.objs.size + 1) s1.heap.objs.size (I1.hok.fresh (Nat.le_succ _)) (I1.hok.fresh (Nat.le_refl _)) (Nat.ne_of_lt (Nat.lt_succ_self _))
  have I2 := Inv.made (C := C) I1
  have r2 : Vals (V.ref (s1.heap.objs.size + 1) :: vs) (Value.ref (s1.heap.objs.size + 1) :: us) := .cons rfl r
  have hl : ((Value.ref (s1.heap.objs.size + 1) :: us) ++ []).length = ps.length := by rw [List.append_nil, ← r2.length]; exact F.len _ _ _ _ hq
  have hbt := hb _ _ I2.kIn hl
  rw [List.append_nil] at hbt
  refine wpAny_call (make_map (f := f) I1.kIn M.makes M.init (beq_iff_eq.mp M.fn) (codeAny_mono (F.run _ X.stack _ _ ⟨Value.ref (s1.heap.objs.size + 1) :: us, []⟩ (Value.ref (s1.heap.objs.size + 1) :: us) _ _ E ⟨hr.r.make C us [], hr.g⟩ (I2.env0.make C us []) hbt r2 hq) fun r s' hq' => ?_))
  cases r with
  | error e => exact hq'.elim
  | ok fl =>
    cases fl with
    | ret u =>
      obtain ⟨v, H', I3, rv, ev, q3⟩ := I2.after hq'
      subst ev
      exact ⟨rv, ⟨V.ref (s1.heap.objs.size + 1), H', I3, rfl, q3⟩⟩
    | next => exact False.elim hq'
    | brk => exact False.elim hq'
    | cont => exact False.elim hq'
theorem jm_make {cn : Str} (hF : DefOk X.prog X.w X.K X.mg X.base j f fd ps F) (M : Mk X.K (He.ga X.K cn) f) (hr : RmG k X.A) (hm : X.mg x = some (.ref (He.ga X.K cn))) (ha : JA X (a :: es) ms) (hj : j + 1 ≤ k := by decide) (hg : Gl X x := by rfl) (hd : (x == ("__debug__" : Str)) = false := by decide)
    (he : starEach (a :: es) X.env = (false, eval a X.env) :: starEach es X.env := by rfl) (hpl : (backTo pos (starEach es X.env)).any (·.1) = false := by rfl) : JM X (.Call (.Name x q) (a :: es) [] pos) (eMake cn F ms) :=
  jm_of (pe_makeG M hF.ok hF.bi (hr.mono hj) hg hm ha hd he hpl) (re_make ra_of)
end
end Uw

set_option Elab.async false
set_option linter.all false
set_option maxRecDepth 100000
set_option maxHeartbeats 2000000
namespace Uw
open PySem PySem.Spec PyProof.Rows L2
/-! ### repr -/
def keyP : Key → Option PyData
  | .inl i => if i.natAbs.log2 < 1920 then some (.int i) else none
  | .inr s => some (.str s)
mutual
def pyR : D → Option PyData
  | .non => some .none
  | .bl b => some (.bool b)
  | .int i => if i.natAbs.log2 < 1920 then some (.int i) else none
  | .str s => some (.str s)
  | .tup ds => match pyRL ds with
    | some ps => some (.tuple ps)
    | none => none
  | .lst ds => match pyRL ds with
    | some ps => some (.list ps)
    | none => none
  | .dic kvs => match pyRK kvs with
    | some ps => some (.dict ps)
    | none => none
  | _ => none
def pyRL : List D → Option (List PyData)
  | [] => some []
  | d :: ds => match pyR d, pyRL ds with
    | some p, some ps => some (p :: ps)
    | _, _ => none
def pyRK : List (Key × D) → Option (List (PyData × PyData))
  | [] => some []
  | (k, d) :: r => match keyP k, pyR d, pyRK r with
    | some q, some p, some ps => some ((q, p) :: ps)
    | _, _, _ => none
end
def isSeq : D → Bool
  | .lst _ => true
  | .tup _ => true
  | _ => false
def reprD (d : D) : Option D := match pyR d with
  | some p => if p.shown.length ≤ 100000 ∧ p.depth ≤ 30 ∧ isSeq d = true then some (.str p.shown) else none
  | none => none
@[irreducible] def dRepr : List D → Option D
  | [d] => reprD d
  | _ => none
section
variable {X : Cx} {pins : List (Addr × Obj)} {σ : L2.St} {H S : Hp} {s : Shared} {G : Addr → Prop}
def Rr (P : Program) (w : World) (h : Heap) (u : Value) (p : PyData) : Prop := ∃ as bs, Reads h u p as ∧ ReadAtMost h p.depth bs ∧ ReprK P w bs h p.depth u p.shown
def RrL (P : Program) (w : World) (h : Heap) (us : List Value) (ps : List PyData) : Prop := ∃ as bs, ReadsAll h us ps as ∧ ReadAtMost h (PyData.depthAll ps) bs ∧ ReprAllK P w bs h (PyData.depthAll ps) us (PyData.shownAll ps)
theorem rr_nil {P : Program} {w : World} {h : Heap} : RrL P w h [] [] := ⟨[], [], .nil, (fun _ h => nomatch h), by simp only [PyData.shownAll]; exact .nil⟩
theorem rr_cons {P : Program} {w : World} {h : Heap} {u : Value} {us : List Value} {p : PyData} {ps : List PyData} (h1 : Rr P w h u p) (h2 : RrL P w h us ps) : RrL P w h (u :: us) (p :: ps) := by
  obtain ⟨as, b1, r1, hb1, k1⟩ := h1
  obtain ⟨as2, b2, r2, hb2, k2⟩ := h2
  refine ⟨as ++ as2, b1 ++ b2, .cons r1 r2, ?_, ?_⟩
  · have e : PyData.depthAll (p :: ps) = max p.depth (PyData.depthAll ps) := by simp only [PyData.depthAll]
    rw [e]
    exact (hb1.mono (Nat.le_max_left _ _)).append (hb2.mono (Nat.le_max_right _ _))
  · simp only [PyData.depthAll, PyData.shownAll]
    exact .cons ((k1.more fun b hb => List.mem_append_left _ hb).level_le (Nat.le_max_left _ _)) (k2.more_le (fun b hb => List.mem_append_right _ hb) (Nat.le_max_right _ _))
theorem rr_key {P : Program} {w : World} {h : Heap} {k : Key} {q : PyData} {u : Value} (hk : keyP k = some q) (r : RelV (kV k) u) (hz : q.shown.length ≤ sizeLine) : Rr P w h u q := by
  cases k with
  | inl i =>
    obtain ⟨t, rfl⟩ := r
    unfold keyP at hk
    simp only at hk
    split at hk
    · rename_i hi
      cases hk
      exact ⟨[], [], .int i t, (fun _ h => nomatch h), by simp only [PyData.shown]; exact .of_is (ReprIs.int t hi) _ _ _⟩
    · cases hk
  | inr x =>
    obtain ⟨t, rfl⟩ := r
    cases hk
    exact ⟨[], [], .str x t, (fun _ h => nomatch h), by simp only [PyData.shown]; exact .of_is (ReprIs.str x t (by simpa only [PyData.shown] using hz)) _ _ _⟩
mutual
theorem rr (I : Inv X pins σ H s) (e : Ex S H) : ∀ {d : D} {v : V} {u : Value} {p : PyData}, Rp X.K G S d v → RelV v u → pyR d = some p → p.shown.length ≤ sizeLine → Rr X.prog X.w s.heap u p
  | .non, v, u, p, h, r, q, _ => by
    unfold Rp at h
    subst h
    obtain rfl : u = .none := r
    unfold pyR at q
    cases q
    exact ⟨[], [], .none, (fun _ h => nomatch h), by simp only [PyData.shown]; exact .of_is ReprIs.none _ _ _⟩
  | .bl b, v, u, p, h, r, q, _ => by
    unfold Rp at h
    subst h
    obtain rfl : u = .bool b := r
    unfold pyR at q
    cases q
    exact ⟨[], [], .bool b, (fun _ h => nomatch h), by simp only [PyData.shown]; exact .of_is (ReprIs.bool b) _ _ _⟩
  | .int i, v, u, p, h, r, q, _ => by
    unfold Rp at h
    subst h
    obtain ⟨t, rfl⟩ := r
    unfold pyR at q
    split at q
    · rename_i hi
      cases q
      exact ⟨[], [], .int i t, (fun _ h => nomatch h), by simp only [PyData.shown]; exact .of_is (ReprIs.int t hi) _ _ _⟩
    · cases q
  | .str x, v, u, p, h, r, q, hz => by
    unfold Rp at h
    subst h
    obtain ⟨t, rfl⟩ := r
    unfold pyR at q
    cases q
    exact ⟨[], [], .str x t, (fun _ h => nomatch h), by simp only [PyData.shown]; exact .of_is (ReprIs.str x t (by simpa only [PyData.shown] using hz)) _ _ _⟩
  | .tup ds, v, u, p, h, r, q, hz => by
    unfold Rp at h
    obtain ⟨a, xs, rfl, h1, h2⟩ := h
    obtain rfl : u = .ref a := r
    unfold pyR at q
    cases z : pyRL ds with
    | none => rw [z] at q; cases q
    | some ps =>
      rw [z] at q
      cases q
      obtain ⟨its, rv, ⟨o, ho, hc, n, hd⟩, _⟩ := I.tuple (ex_t e h1)
      have hz' : (tupleText (PyData.shownAll ps)).length ≤ sizeLine := by simpa only [PyData.shown] using hz
      obtain ⟨as, bs, r1, hb, k1⟩ := rrL I e h2 rv z fun t ht => Nat.le_trans (tupleText_mem_le ht) hz'
      have r2 : Reads s.heap (.ref a) (.tuple ps) as := .tuple ho hc hd (by simpa using r1)
      have hna : a ∉ bs := not_mem_of_deeper r2 (by simp only [PyData.depth]; omega) hb
      refine ⟨as, a :: bs, r2, ReadAtMost.cons r2 (by simp only [PyData.depth]; omega) hb, ?_⟩
      simp only [PyData.depth, PyData.shown]
      exact ReprK.tuple ho hc hd hna (by simpa using k1)
  | .lst ds, v, u, p, h, r, q, hz => by
    unfold Rp at h
    obtain ⟨a, xs, rfl, _, h1, h2⟩ := h
    obtain rfl : u = .ref a := r
    unfold pyR at q
    cases z : pyRL ds with
    | none => rw [z] at q; cases q
    | some ps =>
      rw [z] at q
      cases q
      obtain ⟨its, rv, ⟨o, n, ho, hc, hdn, hd⟩, _⟩ := I.list (sq_of (e _ _ h1))
      have hz' : (listText (PyData.shownAll ps)).length ≤ sizeLine := by simpa only [PyData.shown] using hz
      obtain ⟨as, bs, r1, hb, k1⟩ := rrL I e h2 rv z fun t ht => Nat.le_trans (listText_mem_le ht) hz'
      have r2 : Reads s.heap (.ref a) (.list ps) (a :: as) := .list ho hc hd (by simpa using r1)
      have hna : a ∉ bs := not_mem_of_deeper r2 (by simp only [PyData.depth]; omega) hb
      refine ⟨a :: as, a :: bs, r2, ReadAtMost.cons r2 (by simp only [PyData.depth]; omega) hb, ?_⟩
      simp only [PyData.depth, PyData.shown]
      cases its with
      | nil =>
        cases r1
        simp only [PyData.shownAll, listText_nil]
        exact (ReprK.listEmpty ho hc hd)
      | cons x l => exact ReprK.list ho hc hd hna (by simpa using k1.length_eq) (fun i y ey => k1.item i y (by simpa using ey))
  | .dic kvs, v, u, p, h, r, q, hz => by
    unfold Rp at h
    obtain ⟨a, xs, rfl, _, h1, h2⟩ := h
    obtain rfl : u = .ref a := r
    unfold pyR at q
    cases z : pyRK kvs with
    | none => rw [z] at q; cases q
    | some ps =>
      rw [z] at q
      cases q
      obtain ⟨_, hsys, vs, rel, o, es, n, ho, hx, hd, _, hpr, _⟩ := dk_of I.hok (e _ _ h1)
      have hz' : (dictText (PyData.shownKv ps)).length ≤ sizeLine := by simpa only [PyData.shown] using hz
      obtain ⟨⟨as, b1, r1, hb1, k1⟩, ⟨as2, b2, r2, hb2, k2⟩⟩ := rrK I e h2 rel hpr z (fun t ht => let ⟨p, hp, hl⟩ := PyData.shownKv_key_le ps t ht; Nat.le_trans hl (Nat.le_trans (dictText_mem_le hp) hz')) (fun t ht => let ⟨p, hp, hl⟩ := PyData.shownKv_val_le ps t ht; Nat.le_trans hl (Nat.le_trans (dictText_mem_le hp) hz'))
      have r3 : Reads s.heap (.ref a) (.dict ps) _ := .dict ho hx.1 hd r1 r2
      have hb : ReadAtMost s.heap (PyData.depthKv ps) (b1 ++ b2) := (hb1.mono (PyData.depthAll_keys_le ps)).append (hb2.mono (PyData.depthAll_vals_le ps))
      have hna : a ∉ b1 ++ b2 := not_mem_of_deeper r3 (by simp only [PyData.depth]; omega) hb
      refine ⟨_, a :: (b1 ++ b2), r3, ReadAtMost.cons r3 (by simp only [PyData.depth]; omega) hb, ?_⟩
      simp only [PyData.depth, PyData.shown, PyData.shownKv_eq]
      exact ReprK.dict ho hx.1 hd hsys hna (ReprEntriesK.of_two es.toList _ _
        (k1.more_le (fun b hb => List.mem_append_left _ hb) (PyData.depthAll_keys_le ps)) (k2.more_le (fun b hb => List.mem_append_right _ hb) (PyData.depthAll_vals_le ps)))
  | .dit _, _, _, _, _, _, q, _ => by unfold pyR at q; cases q
  | .ins _ _, _, _, _, _, _, q, _ => by unfold pyR at q; cases q
  | .ty _, _, _, _, _, _, q, _ => by unfold pyR at q; cases q
  | .cls _, _, _, _, _, _, q, _ => by unfold pyR at q; cases q
  | .scr _, _, _, _, _, _, q, _ => by unfold pyR at q; cases q
theorem rrL (I : Inv X pins σ H s) (e : Ex S H) : ∀ {ds : List D} {vs : List V} {us : List Value} {ps : List PyData}, RpL X.K G S ds vs → Vals vs us → pyRL ds = some ps → (∀ t ∈ PyData.shownAll ps, t.length ≤ sizeLine) → RrL X.prog X.w s.heap us ps
  | [], vs, us, ps, h, r, q, _ => by
    unfold RpL at h
    subst h
    cases r
    unfold pyRL at q
    cases q
    exact rr_nil
  | d :: ds, vs, us, ps, h, r, q, hz => by
    unfold RpL at h
    obtain ⟨v, vs', rfl, h1, h2⟩ := h
    cases r with
    | cons r1 r2 =>
      unfold pyRL at q
      split at q
      · rename_i p ps' q1 q2
        cases q
        exact rr_cons (rr I e h1 r1 q1 (hz _ (by simp only [PyData.shownAll]; exact List.mem_cons_self ..))) (rrL I e h2 r2 q2 fun t ht => hz t (by simp only [PyData.shownAll]; exact List.mem_cons_of_mem _ ht))
      · cases q
theorem rrK (I : Inv X pins σ H s) (e : Ex S H) : ∀ {kvs : List (Key × D)} {xs : List (Key × V)} {vs : List (Key × Value)} {es : List DictEntry} {ps : List (PyData × PyData)}, RpK X.K G S kvs xs → KV xs vs → Pairs (mixKind X.prog X.w) es vs → pyRK kvs = some ps →
    (∀ t ∈ PyData.shownAll (ps.map (·.1)), t.length ≤ sizeLine) → (∀ t ∈ PyData.shownAll (ps.map (·.2)), t.length ≤ sizeLine) → RrL X.prog X.w s.heap (es.map (·.key)) (ps.map (·.1)) ∧ RrL X.prog X.w s.heap (es.map (·.val)) (ps.map (·.2))
  | [], xs, vs, es, ps, h, r, pr, q, _, _ => by
    unfold RpK at h
    subst h
    cases r
    unfold pyRK at q
    cases q
    cases es with
    | nil => exact ⟨rr_nil, rr_nil⟩
    | cons _ _ => cases pr
  | (k, d) :: kvs, xs, vs, es, ps, h, r, pr, q, hz1, hz2 => by
    unfold RpK at h
    obtain ⟨v, xs', rfl, h1, h2⟩ := h
    cases r with
    | @cons a b as bs r1 r2 =>
      obtain ⟨k', v'⟩ := b
      cases pr with
      | @cons en _ es _ p1 p2 pr2 =>
        unfold pyRK at q
        split at q
        · rename_i q0 p ps' q1 q2 q3
          cases q
          have rk : RelV (kV k) en.key := by
            have e1 : k = k' := r1.1
            rw [e1]
            exact keyIs_rel p1
          have rv : RelV v en.val := by rw [p2]; exact r1.2
          simp only [List.map_cons, PyData.shownAll] at hz1 hz2
          obtain ⟨i1, i2⟩ := rrK I e h2 r2 pr2 q3 (fun t ht => hz1 t (List.mem_cons_of_mem _ ht)) (fun t ht => hz2 t (List.mem_cons_of_mem _ ht))
          exact ⟨rr_cons (rr_key q1 rk (hz1 _ (List.mem_cons_self ..))) i1, rr_cons (rr I e h1 rv q2 (hz2 _ (List.mem_cons_self ..))) i2⟩
        · cases q
end
/-- repr(x) of a list, a tuple, a dict -/
def rRepr (X : Cx) : List V → Hp → VK → Prop := fun vs H Q => ∃ v S d t, vs = [v] ∧ Ex S H ∧ Tp X.K S H d v ∧ reprD d = some (.str t) ∧ Q (.str t) H
theorem cr_repr (hg : X.A.guards = some []) (hu : X.A.units + 200 < cLine) : CallR X (.builtin "repr") (rRepr X) := by
  intro pins s σ H vs us Q I r h
  obtain ⟨v, S, d, t, rfl, e, hd, hr, q⟩ := h
  unfold reprD at hr
  cases z0 : pyR d with
  | none => rw [z0] at hr; cases hr
  | some p =>
    rw [z0] at hr
    simp only at hr
    split at hr
    · rename_i hb
      cases hr
      have hz : p.shown.length ≤ sizeLine := Nat.le_trans hb.1 (by rw [sizeLine_eq]; decide)
      have hk0 : ∀ b o, s.heap.get? b = some o → s.heap.get? b = some o := fun _ _ e => e
      have fin : ∀ h' u tk, (∀ b o, s.heap.get? b = some o → h'.get? b = some o) → ∃ x t, (Value.str p.shown u = .str x t) ∧ EP X pins σ Q (.str p.shown u) { s with heap := h', toks := tk } := fun h' u tk hk => ⟨_, _, rfl, .str p.shown, H, I.kept (t' := tk) hk, ⟨u, rfl⟩, q⟩
      cases d with
      | lst ds =>
        obtain ⟨a, xs, rfl, h1, h2⟩ := hd
        rw [Vals.ref1 r]
        unfold pyR at z0
        cases z : pyRL ds with
        | none => rw [z] at z0; cases z0
        | some ps =>
          rw [z] at z0
          cases z0
          obtain ⟨its, rv, ⟨o, n, ho, hc, hdn, hdd⟩, _⟩ := I.list (sq_of h1)
          have hz' : (listText (PyData.shownAll ps)).length ≤ sizeLine := by simpa only [PyData.shown] using hz
          obtain ⟨as, bs, r1, hb1, k1⟩ := rrL I e h2 rv z fun t ht => Nat.le_trans (listText_mem_le ht) hz'
          have r2 : Reads s.heap (.ref a) (.list ps) (a :: as) := .list ho hc hdd (by simpa using r1)
          have hna : a ∉ bs := not_mem_of_deeper r2 (by simp only [PyData.depth]; omega) hb1
          have hdp := hb.2.1
          simp only [PyData.depth] at hdp
          simp only [PyData.shown] at fin
          refine call_repr_slot (by omega) ⟨o, ho, hc⟩ F.slot_list_repr.toG ?_
          cases its with
          | nil =>
            cases r1
            simp only [PyData.shownAll, listText_nil] at fin
            exact call_list_repr_empty ⟨o, ho, hc⟩ ho hdd (fin s.heap _ _ fun _ _ e => e)
          | cons x l => exact call_list_reprK ho hc hdd hna (by simpa using k1.length_eq) (fun i y ey => k1.item i y (by simpa using ey)) hg (fun b _ => Clear.nil b) (by show X.A.units + 1 + _ < cLine; omega) hk0 fin hz'
      | tup ds =>
        have hd' : Rp X.K yes S (.tup ds) v := hd
        unfold Rp at hd'
        obtain ⟨a, xs, rfl, h1, h2⟩ := hd'
        rw [Vals.ref1 r]
        unfold pyR at z0
        cases z : pyRL ds with
        | none => rw [z] at z0; cases z0
        | some ps =>
          rw [z] at z0
          cases z0
          obtain ⟨its, rv, ⟨o, ho, hc, n, hdd⟩, _⟩ := I.tuple (ex_t e h1)
          have hz' : (tupleText (PyData.shownAll ps)).length ≤ sizeLine := by simpa only [PyData.shown] using hz
          obtain ⟨as, bs, r1, hb1, k1⟩ := rrL I e h2 rv z fun t ht => Nat.le_trans (tupleText_mem_le ht) hz'
          have r2 : Reads s.heap (.ref a) (.tuple ps) as := .tuple ho hc hdd (by simpa using r1)
          have hna : a ∉ bs := not_mem_of_deeper r2 (by simp only [PyData.depth]; omega) hb1
          have hdp := hb.2.1
          simp only [PyData.depth] at hdp
          simp only [PyData.shown] at fin
          refine call_repr_slot (by omega) ⟨o, ho, hc⟩ F.slot_tuple_repr ?_
          exact call_tuple_reprK ho hc hdd hna (by simpa using k1) hg (fun b _ => Clear.nil b) (by show X.A.units + 1 + _ < cLine; omega) hk0 fin hz'
      | _ => exact (Bool.noConfusion (show false = true from hb.2.2))
    · cases hr
theorem pure_repr : PureA X.K (rRepr X) dRepr := by
  intro S H ds vs d Q e ht hd hQ
  unfold dRepr at hd
  match ds, hd with
  | [d0], hd =>
    obtain ⟨v, vs', ev, t1, ev2⟩ := ht
    cases ev2
    subst ev
    have hd' : reprD d0 = some d := hd
    have : ∃ t, d = .str t := by
      unfold reprD at hd'
      split at hd'
      · split at hd'
        · cases hd'
          exact ⟨_, rfl⟩
        · cases hd'
      · cases hd'
    obtain ⟨t, rfl⟩ := this
    exact ⟨v, S, d0, t, rfl, e, t1, hd', hQ _ (by unfold Rp; rfl)⟩
  | [], hd => cases hd
  | _ :: _ :: _, hd => cases hd
theorem je_repr {k : Nat} {a : Expr} {es : List Expr} {pos q : Pos} {ms : M (List Ev)} (hr : RmG k X.A) (hm : X.mg "repr" = none) (ha : JA X (a :: es) ms) (hg : Gl X "repr" := by rfl) (he : starEach (a :: es) X.env = (false, eval a X.env) :: starEach es X.env := by rfl) (hpl : (backTo pos (starEach es X.env)).any (·.1) = false := by rfl) : JE X (.Call (.Name "repr" q) (a :: es) [] pos) (eCB dRepr ms) :=
  je_bltn (cr_repr hr.g (by have := hr.r.un; omega)) pure_repr hg hm boot_repr ha (by decide) (by decide) he hpl
end
end Uw

set_option Elab.async false
set_option linter.all false
set_option maxRecDepth 100000
set_option maxHeartbeats 2000000
namespace Uw
open PySem PySem.Spec PyProof.Rows L2
/-! ### _law_spoiled: every list within gets a text more -/
def late : V := .str "late9"
mutual
def spD : D → Bool
  | .non => true
  | .bl _ => true
  | .int _ => true
  | .str _ => true
  | .tup ds => spL ds
  | .lst ds => decide (ds.length ≤ 5000) && spL ds
  | _ => false
def spL : List D → Bool
  | [] => true
  | d :: ds => spD d && spL ds
end
mutual
def cntD : D → Nat
  | .tup ds => cntL ds
  | .lst ds => cntL ds + 1
  | _ => 0
def cntL : List D → Nat
  | [] => 0
  | d :: ds => cntD d + cntL ds
end
mutual
def depD : D → Nat
  | .tup ds => depL ds + 1
  | .lst ds => depL ds + 1
  | _ => 0
def depL : List D → Nat
  | [] => 0
  | d :: ds => max (depD d) (depL ds)
end
theorem spL_get : ∀ {ds : List D} {i : Nat} {d : D}, spL ds = true → ds[i]? = some d → spD d = true
  | [], i, d, _, h => by cases h
  | d0 :: ds, 0, d, q, h => by
    cases h
    unfold spL at q
    rw [Bool.and_eq_true] at q
    exact q.1
  | d0 :: ds, i + 1, d, q, h => by
    unfold spL at q
    rw [Bool.and_eq_true] at q
    exact spL_get q.2 h
theorem depL_get : ∀ {ds : List D} {i : Nat} {d : D}, ds[i]? = some d → depD d ≤ depL ds
  | [], i, d, h => by cases h
  | d0 :: ds, 0, d, h => by
    cases h
    unfold depL
    exact Nat.le_max_left _ _
  | d0 :: ds, i + 1, d, h => by
    unfold depL
    exact Nat.le_trans (depL_get (ds := ds) (i := i) (by simpa using h)) (Nat.le_max_right _ _)
theorem cntL_take : ∀ {ds : List D} {i : Nat} {d : D}, ds[i]? = some d → cntL (ds.take (i + 1)) = cntL (ds.take i) + cntD d
  | [], i, d, h => by cases h
  | d0 :: ds, 0, d, h => by
    cases h
    simp [cntL]
  | d0 :: ds, i + 1, d, h => by
    have := cntL_take (ds := ds) (i := i) (by simpa using h)
    rw [List.take_succ_cons, List.take_succ_cons]
    unfold cntL
    rw [this]
    omega
theorem cntL_le : ∀ {ds : List D} {i : Nat}, cntL (ds.take i) ≤ cntL ds
  | [], i => by simp [cntL]
  | d :: ds, 0 => by simp [cntL]
  | d :: ds, i + 1 => by
    rw [List.take_succ_cons]
    unfold cntL
    have := cntL_le (ds := ds) (i := i)
    omega
structure Lt (S : Hp) (G : Addr → Prop) (n : Nat) (H : Hp) : Prop where
  firm : ∀ a o, S a = some o → ¬ (G a ∧ ∃ xs, o = .lst xs) → H a = some o
  lst : ∀ a xs, S a = some (.lst xs) → G a → ∃ m, m ≤ n ∧ H a = some (.lst (xs ++ List.replicate m late))
def Keep (S H H' : Hp) : Prop := ∀ a o, H a = some o → S a = none → H' a = some o
theorem Lt.new {S H : Hp} {G : Addr → Prop} {n : Nat} {p : Addr} {o : HO} (h : Lt S G n H) (hp : H p = none) : Lt S G n (upd H p o) where
  firm := fun a u ha hn => by
    have := h.firm a u ha hn
    rw [upd_ne (ne_of_none this hp)]
    exact this
  lst := fun a xs ha hg => by
    obtain ⟨m, hm, e⟩ := h.lst a xs ha hg
    refine ⟨m, hm, ?_⟩
    rw [upd_ne (ne_of_none e hp)]
    exact e
theorem Keep.new {S H H' : Hp} {p : Addr} {o : HO} (h : Keep S H H') (hp : H' p = none) : Keep S H (upd H' p o) := fun a u ha hs => by
  have := h a u ha hs
  rw [upd_ne (ne_of_none this hp)]
  exact this
theorem Keep.trans {S H H1 H2 : Hp} (h : Keep S H H1) (k : Keep S H1 H2) : Keep S H H2 := fun a o ha hs => k a o (h a o ha hs) hs
theorem Lt.less {S H : Hp} {G : Addr → Prop} {n : Nat} (h : Lt S G n H) : Less S H := fun b o hb hf => h.firm b o hb fun ⟨_, xs, e⟩ => by subst e; exact hf.elim
theorem Lt.of_ex {S H : Hp} {G : Addr → Prop} (h : Ex S H) : Lt S G 0 H where
  firm := fun a o ha _ => h a o ha
  lst := fun a xs ha _ => ⟨0, Nat.le_refl 0, by rw [List.replicate_zero, List.append_nil]; exact h a _ ha⟩
/-- what the def promises, for data of depth below N -/
def spSp (K : PySem.W.Frag) (N : Nat) : Sp := fun vs H Q _ => ∃ S G n d v, vs = [v] ∧ Rp K G S d v ∧ spD d = true ∧ depD d < N ∧ Lt S G n H ∧ n + cntD d ≤ 5000 ∧ ∀ H', Lt S G (n + cntD d) H' → Keep S H H' → Q .non H'
section
variable {K : PySem.W.Frag} {S H : Hp} {G : Addr → Prop} {n : Nat}
theorem tyx_lt {d : D} {v : V} (h : Lt S G n H) (hr : Rp K G S d v) (hd : spD d = true) : ∃ a, tyName d = some a ∧ TyX K H v (.type a) ∧ a ∈ allT := by
  cases d with
  | non => unfold Rp at hr; subst hr; exact ⟨_, rfl, .base .non, by decide⟩
  | bl b => unfold Rp at hr; subst hr; exact ⟨_, rfl, .base (.bl b), by decide⟩
  | int b => unfold Rp at hr; subst hr; exact ⟨_, rfl, .base (.int b), by decide⟩
  | str b => unfold Rp at hr; subst hr; exact ⟨_, rfl, .base (.str b), by decide⟩
  | tup ds =>
    unfold Rp at hr
    obtain ⟨a, xs, rfl, h1, _⟩ := hr
    refine ⟨_, rfl, ?_, by decide⟩
    rcases less_t h.less h1 with h | ⟨o, its, n, h1, h2, _⟩
    · rcases h with h | ⟨o, h⟩
      · exact .base (.tup h)
      · exact .fTuple h
    · exact .kTuple h1 h2
  | lst ds =>
    unfold Rp at hr
    obtain ⟨a, xs, rfl, hg, h1, _⟩ := hr
    obtain ⟨m, _, e⟩ := h.lst a xs h1 hg
    exact ⟨_, rfl, .base (.lst e), by decide⟩
  | _ => cases hd
def tIsi (K : PySem.W.Frag) (t : String) : TT := tB (tCB (rIsi K) (tCons (tVar 0) (tCons (tC (.ty t)) tNil)))
def tIsi2 (K : PySem.W.Frag) : TT := tB (tCB (rIsiT K) (tCons (tVar 0) (tCons (tTup (tysA ["list", "tuple"])) tNil)))
theorem isi_run {σ : L2.St} {v : V} {a t : String} {Q : Bool → Hp → Prop} (h0 : σ[0]? = some (some v)) (ty : TyX K H v (.type a)) (ha : a ∈ allT) (ht : t ∈ allT) (q : Q (subT a t) H) : tIsi K t σ H Q :=
  ⟨v, h0, v, .ty t, .type a, .type t, subT a t, rfl, .ty t, ty, kit_one ha ht, _, rfl, q⟩
def tSp (K : PySem.W.Frag) (R : Sp) : TS := tIfS (tIsi K "dict") tNever (tIfS (tIsi2 K) (tSeq (tFor (iSeq K (tVar 0)) (gName 2) (tDrop (tCallS R (WE W0) (tCons (tVar 2) tNil)))) (tIfS (tIsi K "list") (tDrop (tBM K "list" rAppend (tVar 0) (tCons (tC late) tNil))) tNext)) tNext)
theorem start3 {v : V} : (L2.start (["thing", "key", "part"] : List Str) [v])[0]? = some (some v) ∧ (L2.start (["thing", "key", "part"] : List Str) [v]).length = 3 := ⟨rfl, rfl⟩
theorem loop_run {N B : Nat} {ds : List D} {J : It} {v : V} {H0 H1 : Hp} {σ : L2.St} {Dn : Ends} (h0 : σ[0]? = some (some v)) (hl : σ.length = 3) (hlt : Lt S G n H1) (hk : Keep S H0 H1) (hn : n + cntL ds ≤ 5000)
    (hgo : ∀ (i m' : Nat) (H2 : Hp), m' ≤ n + cntL ds → Lt S G m' H2 → (∃ x d', J.go i H2 ∧ (∀ y H3, J.yld i H2 y H3 → H3 = H2 ∧ y = x) ∧ Rp K G S d' x ∧ spD d' = true ∧ depD d' < N ∧ cntL (ds.take (i + 1)) = cntL (ds.take i) + cntD d' ∧ i < B) ∨ (J.stop i H2 ∧ cntL (ds.take i) = cntL ds))
    (fin : ∀ (σ' : L2.St) (H' : Hp), σ'[0]? = some (some v) → Lt S G (n + cntL ds) H' → Keep S H0 H' → Dn.nx σ' H') :
    ∃ W : Nat → Nat → L2.St → Hp → Prop, (∃ m, W 0 m σ H1) ∧ ∀ i m σ H, W i m σ H →
      (J.stop i H ∧ Dn.nx σ H) ∨ (J.go i H ∧ ∃ N' : L2.St → Hp → Prop, (∀ σ' H', N' σ' H' → ∃ m', m' < m ∧ W (i + 1) m' σ' H') ∧ ∀ x H', J.yld i H x H' → gName 2 x σ H' fun σ2 H2 => tDrop (tCallS (spSp K N) (WE W0) (tCons (tVar 2) tNil)) { Dn with nx := N', ct := N', bk := Dn.nx } σ2 H2) := by
  refine ⟨fun i m σ' H' => m = B - i ∧ σ'[0]? = some (some v) ∧ σ'.length = 3 ∧ Lt S G (n + cntL (ds.take i)) H' ∧ Keep S H0 H', ⟨B, rfl, h0, hl, by simpa [cntL] using hlt, hk⟩, fun i m σ' H' hW => ?_⟩
  obtain ⟨em, w0, wl, wlt, wk⟩ := hW
  have hle : n + cntL (ds.take i) ≤ n + cntL ds := Nat.add_le_add_left cntL_le n
  rcases hgo i _ H' hle wlt with ⟨x, d', g1, g2, g3, g4, g5, g6, g7⟩ | ⟨g1, g2⟩
  · refine .inr ⟨g1, fun σ2 H2 => σ2[0]? = some (some v) ∧ σ2.length = 3 ∧ Lt S G (n + cntL (ds.take (i + 1))) H2 ∧ Keep S H0 H2, fun σ2 H2 h => ⟨B - (i + 1), by omega, rfl, h⟩, fun y H2 hy => ?_⟩
    obtain ⟨rfl, rfl⟩ := g2 y H2 hy
    have l2 : 2 < σ'.length := by rw [wl]; decide
    refine ⟨y, List.getElem?_set_self l2, S, G, n + cntL (ds.take i), d', y, rfl, g3, g4, g5, wlt, ?_, fun H3 hlt3 hk3 => ?_⟩
    · have : cntL (ds.take (i + 1)) ≤ cntL ds := cntL_le
      omega
    · refine ⟨?_, by rw [List.length_set]; exact wl, by rw [g6, ← Nat.add_assoc]; exact hlt3, wk.trans hk3⟩
      rw [List.getElem?_set_ne (by decide)]
      exact w0
  · rw [g2] at wlt
    exact .inl ⟨g1, fin σ' H' w0 wlt wk⟩
theorem spoil_run {N : Nat} {vs : List V} {Q : VK} {E : XK} (h : spSp K (N + 1) vs H Q E) : tSp K (spSp K N) { nx := fun _ H' => Q .non H', rt := Q } (L2.start (["thing", "key", "part"] : List Str) vs) H := by
  obtain ⟨S, G, n, d, v, rfl, hr, hd, hdep, hlt, hn, hQ⟩ := h
  have hs := start3 (v := v)
  generalize L2.start (["thing", "key", "part"] : List Str) [v] = σ at hs
  obtain ⟨h0, hl⟩ := hs
  obtain ⟨a, ea, ty, hal⟩ := tyx_lt hlt hr hd
  refine isi_run h0 ty hal (by decide) ?_
  have e1 : subT a "dict" = false := by
    cases d <;> first | (cases hd; done) | (cases ea; rfl)
  rw [e1, if_neg (by decide)]
  refine ⟨v, h0, ?_⟩
  refine tysA_run ⟨by rw [List.length_map]; exact Nat.le_of_ble_eq_true rfl, fun p hp => ?_⟩
  have hlt1 := hlt.new (o := .tup (["list", "tuple"].map V.ty)) hp
  have hk1 : Keep S H (upd H p (.tup (["list", "tuple"].map V.ty))) := Keep.new (fun _ _ h _ => h) hp
  obtain ⟨a', ea', ty', _⟩ := tyx_lt hlt1 hr hd
  rw [ea] at ea'
  cases ea'
  refine ⟨v, p, ["list", "tuple"].map V.ty, .type a, ["list", "tuple"].map Value.type, (["list", "tuple"].any fun t => subT a t), rfl, upd_same, paired_ty _, ty', kit_any hal (by decide), _, rfl, ?_⟩
  generalize upd H p (.tup (["list", "tuple"].map V.ty)) = H1 at hlt1 hk1 ty'
  have skip : cntD d = 0 → Q .non H1 := fun e => hQ H1 (by rw [e]; exact hlt1) hk1
  cases d with
  | tup ds =>
    cases ea
    have hr' := hr
    unfold Rp at hr'
    obtain ⟨b, xs, rfl, h1, h2⟩ := hr'
    unfold spD at hd
    unfold depD at hdep
    unfold cntD at hn
    unfold cntD at hQ
    refine ⟨.ref b, h0, .inr (.inl ⟨b, xs, rfl, less_t hlt1.less h1, ?_⟩)⟩
    refine loop_run (N := N) (B := xs.length) (ds := ds) h0 hl hlt1 hk1 hn (fun i m' H2 hm' hlt2 => ?_) (fun σ' H' w0 wlt wk => ?_)
    · have hq : SqT K H2 b xs := less_t hlt2.less h1
      cases z : ds[i]? with
      | some d' =>
        obtain ⟨x, x1, x2⟩ := h2.get z
        refine .inl ⟨x, d', ⟨xs, x, hq, x1⟩, fun y H3 hy => ⟨hy.1, ?_⟩, x2, spL_get hd z, by have := depL_get z; omega, cntL_take z, (List.getElem?_eq_some_iff.mp x1).1⟩
        have := hy.2 xs hq
        rw [x1] at this
        exact (Option.some.inj this).symm
      | none =>
        have hi : ds.length ≤ i := List.getElem?_eq_none_iff.mp z
        exact .inr ⟨⟨xs, hq, by rw [h2.length]; exact hi⟩, by rw [List.take_of_length_le hi]⟩
    · obtain ⟨a2, ea2, ty2, hal2⟩ := tyx_lt wlt hr (by unfold spD; exact hd)
      cases ea2
      refine isi_run w0 ty2 hal2 (by decide) ?_
      rw [if_neg (by decide)]
      exact hQ H' wlt wk
  | lst ds =>
    cases ea
    have hr' := hr
    unfold Rp at hr'
    obtain ⟨b, xs, rfl, hg, h1, h2⟩ := hr'
    unfold spD at hd
    rw [Bool.and_eq_true] at hd
    have hz : ds.length ≤ 5000 := of_decide_eq_true hd.1
    unfold depD at hdep
    unfold cntD at hn
    unfold cntD at hQ
    obtain ⟨m0, hm0, e0⟩ := hlt1.lst b xs h1 hg
    refine ⟨.ref b, h0, .inl ⟨b, _, rfl, sq_of e0, ?_⟩⟩
    refine loop_run (N := N) (B := xs.length + 5001) (ds := ds) h0 hl hlt1 hk1 (by omega) (fun i m' H2 hm' hlt2 => ?_) (fun σ' H' w0 wlt wk => ?_)
    · obtain ⟨m, hm, e2⟩ := hlt2.lst b xs h1 hg
      have hq : SqL K H2 b (xs ++ List.replicate m late) := sq_of e2
      cases z : ds[i]? with
      | some d' =>
        obtain ⟨x, x1, x2⟩ := h2.get z
        have hix : i < xs.length := (List.getElem?_eq_some_iff.mp x1).1
        have x3 : (xs ++ List.replicate m late)[i]? = some x := by rw [List.getElem?_append_left hix]; exact x1
        refine .inl ⟨x, d', ⟨_, x, hq, x3⟩, fun y H3 hy => ⟨hy.1, ?_⟩, x2, spL_get hd.2 z, by have := depL_get z; omega, cntL_take z, by omega⟩
        have := hy.2 _ hq
        rw [x3] at this
        exact (Option.some.inj this).symm
      | none =>
        have hi : ds.length ≤ i := List.getElem?_eq_none_iff.mp z
        have hx : xs.length ≤ i := by rw [h2.length]; exact hi
        cases z2 : (xs ++ List.replicate m late)[i]? with
        | none => exact .inr ⟨⟨_, hq, List.getElem?_eq_none_iff.mp z2⟩, by rw [List.take_of_length_le hi]⟩
        | some x =>
          have z3 := z2
          rw [List.getElem?_append_right hx, List.getElem?_replicate] at z3
          split at z3
          · rename_i hlt3
            cases z3
            refine .inl ⟨late, .str "late9", ⟨_, _, hq, z2⟩, fun y H3 hy => ⟨hy.1, ?_⟩, by unfold Rp; rfl, rfl, by unfold depD; omega, by rw [List.take_of_length_le hi, List.take_of_length_le (Nat.le_succ_of_le hi)]; rfl, by omega⟩
            have := hy.2 _ hq
            rw [z2] at this
            exact (Option.some.inj this).symm
          · cases z3
    · obtain ⟨a2, ea2, ty2, hal2⟩ := tyx_lt wlt hr (by unfold spD; rw [Bool.and_eq_true]; exact hd)
      cases ea2
      refine isi_run w0 ty2 hal2 (by decide) ?_
      rw [if_pos (by decide)]
      obtain ⟨m, hm, e2⟩ := wlt.lst b xs h1 hg
      refine ⟨.ref b, w0, .inl ⟨rfl, _, sq_of e2⟩, b, _, late, rfl, rfl, e2, ?_, ?_⟩
      · rw [List.length_append, List.length_replicate, h2.length, sizeLine_eq]
        omega
      · refine hQ _ ⟨fun a o ha hn2 => ?_, fun a ys ha hga => ?_⟩ (fun a o ha hs => ?_)
        · have ne : a ≠ b := fun z => hn2 (by
            subst z
            rw [h1] at ha
            cases ha
            exact ⟨hg, _, rfl⟩)
          rw [upd_ne ne]
          exact wlt.firm a o ha hn2
        · by_cases z : a = b
          · subst z
            rw [h1] at ha
            cases ha
            refine ⟨m + 1, by omega, ?_⟩
            rw [upd_same, List.replicate_succ', List.append_assoc]
          · obtain ⟨m2, hm2, e3⟩ := wlt.lst a ys ha hga
            refine ⟨m2, by omega, ?_⟩
            rw [upd_ne z]
            exact e3
        · have ne : a ≠ b := fun z => by rw [z, h1] at hs; cases hs
          rw [upd_ne ne]
          exact wk a o ha hs
  | non => cases ea; rw [if_neg (by decide)]; exact skip rfl
  | bl _ => cases ea; rw [if_neg (by decide)]; exact skip rfl
  | int _ => cases ea; rw [if_neg (by decide)]; exact skip rfl
  | str _ => cases ea; rw [if_neg (by decide)]; exact skip rfl
  | _ => cases hd
end
end Uw

set_option Elab.async false
set_option linter.all false
set_option maxRecDepth 100000
set_option maxHeartbeats 2000000
namespace Uw
open PySem PySem.Spec PyProof.Rows L2
/-! ### epochs: what stood at their start may be told from what is new -/
def Sv.age : Sv → Sv
  | .und => .und
  | .fz _ d => .fz .old d
  | .mu _ d => .mu (kidsImm d) d
  | .io d => .io d
def Fl.unage : Fl → Fl
  | .old => .any
  | f => f
def Sv.unage : Sv → Sv
  | .fz f d => .fz f.unage d
  | s => s
def Fw.unage : Fw → Fw
  | .ret f d => .ret f.unage d
  | w => w
def frz (i : Nat) (σ : List Sv) : List Sv := match σ[i]? with
  | some (.mu o d) => σ.set i (.fz (flO o) d)
  | _ => σ
def frzAll : List Nat → List Sv → List Sv
  | [], σ => σ
  | i :: js, σ => frzAll js (frz i σ)
def sEpoch (js : List Nat) (m : Sm) : Sm := fun σ => (m ((frzAll js σ).map Sv.age)).bind fun p => .ok (p.1.unage, p.2.map Sv.unage)
/-- what is left of a slot behind the spoiling -/
def Sv.worn : Sv → Option Sv
  | .und => some .und
  | .fz .old d => some (.fz .old d)
  | .fz _ d => some (if hard d = true then .fz .any d else .und)
  | .mu o d => some (if kidsHard d = true then .mu o d else .und)
  | .io d => if kidsHard d = true then some (.io d) else none
def wornAll : List Sv → Option (List Sv)
  | [] => some []
  | s :: σ => match s.worn, wornAll σ with
    | some s', some σ' => some (s' :: σ')
    | _, _ => none
def sSpoil (N : Nat) (m : M Ev) : Sm := (eV m).bind fun e => fun σ => match e, wornAll σ with
  | .val .own d, some σ' => if spD d = true ∧ depD d < N ∧ cntD d ≤ 5000 then .ok (.next, σ') else .bad
  | _, _ => .bad
section
variable (K : PySem.W.Frag) (W : WX)
def ResP (g : Gho) (r : R (Fw × List Sv)) (D : Ends) : Prop :=
  match r with
  | .ok (.next, σ') => ∀ σr' S' H', Rel K g S' H' σr' σ' → D.nx σr' H'
  | .ok (.brk, σ') => ∀ σr' S' H', Rel K g S' H' σr' σ' → D.bk σr' H'
  | .ok (.cont, σ') => ∀ σr' S' H', Rel K g S' H' σr' σ' → D.ct σr' H'
  | .ok (.ret f d, σ') => ∀ v σr' S' H', Rel K g S' H' σr' σ' → FzOk K g S' d v f → D.rt v H'
  | .exc c fs => ∀ σr' S' H' σ' dx xs, Rel K g S' H' σr' σ' → H' dx = some (.xd xs) → RpF K yes S' fs xs → W (.ref (He.ga K c)) (some dx) σr' H'
  | .bad => False
def RefP (t : TS) (m : Sm) : Prop := ∀ g S H σr σ (D : Ends), Rel K g S H σr σ → ResP K W g (m σ) D → t D σr H
def tpOf (m : Sm) : TS := fun D σr H => ∃ g S σ, Rel K g S H σr σ ∧ ResP K W g (m σ) D
end
section
variable {K : PySem.W.Frag} {g : Gho} {S S' H H' : Hp} {σr σr' : L2.St} {σ σ' σ0 : List Sv} {W : WX} {Dn : Ends}
theorem ResP.s {r : R (Fw × List Sv)} (h : ResP K W g r Dn) : ResS K W g S r Dn := by
  cases r with
  | ok p =>
    obtain ⟨f, σ1⟩ := p
    cases f with
    | next => exact fun a b c _ r => h a b c r
    | brk => exact fun a b c _ r => h a b c r
    | cont => exact fun a b c _ r => h a b c r
    | ret f d => exact fun v a b c _ r => h v a b c r
  | exc c fs => exact fun a b c σ' dx xs _ r => h a b c σ' dx xs r
  | bad => exact h
theorem rp_of_s {t : TS} {m : Sm} (h : RefS K W t m) : RefP K W t m := fun g S H σr σ D r q => h g S H σr σ D r q.s
theorem rp_of {m : Sm} : RefP K W (tpOf K W m) m := fun g S _ _ σ _ r h => ⟨g, S, σ, r, h⟩
theorem rp_seq {t u : TS} {a b : Sm} (h1 : RefP K W t a) (h2 : RefP K W u b) : RefP K W (tSeq t u) (sSeq a b) := by
  intro g S H σr σ D r h
  refine h1 g S H σr σ _ r ?_
  have h' : ResP K W g ((a σ).bind fun p => match p.1 with | .next => b p.2 | _ => .ok p) D := h
  cases q : a σ with
  | ok p =>
    obtain ⟨f, σ1⟩ := p
    rw [q] at h'
    cases f with
    | next => exact fun σr' S' H' r' => h2 g S' H' σr' σ1 D r' h'
    | brk => exact h'
    | cont => exact h'
    | ret f d => exact h'
  | exc c fs =>
    rw [q] at h'
    exact h'
  | bad =>
    rw [q] at h'
    exact h'
theorem map_get {f : Sv → Sv} {i : Nat} : (σ.map f)[i]? = (σ[i]?).map f := List.getElem?_map
theorem Rel.frz (r : Rel K g S H σr σ) (i : Nat) : ∃ S', Ex S S' ∧ Rel K g S' H σr (frz i σ) := by
  unfold Uw.frz
  split
  · rename_i o d hs
    obtain ⟨p, S', _, e, r', _⟩ := r.freezeSlot hs
    exact ⟨S', e, r'⟩
  · exact ⟨S, Ex.refl S, r⟩
theorem Rel.frzAll : ∀ {js : List Nat} {S : Hp} {σ : List Sv}, Rel K g S H σr σ → ∃ S', Ex S S' ∧ Rel K g S' H σr (frzAll js σ)
  | [], S, σ, r => ⟨S, Ex.refl S, r⟩
  | j :: js, S, σ, r => by
    obtain ⟨S1, e1, r1⟩ := r.frz j
    obtain ⟨S2, e2, r2⟩ := Rel.frzAll (js := js) r1
    exact ⟨S2, e1.trans e2, r2⟩
theorem mu_map {f : Sv → Sv} (hf : ∀ s, (f s).isMu = s.isMu) {i : Nat} {p : Addr} : MuP σr (σ.map f) i p ↔ MuP σr σ i p := by
  constructor
  · rintro ⟨s, h1, h2, h3⟩
    rw [map_get] at h1
    cases z : σ[i]? with
    | none => rw [z] at h1; cases h1
    | some s' =>
      rw [z] at h1
      cases h1
      exact ⟨s', z, by rw [← hf]; exact h2, h3⟩
  · rintro ⟨s, h1, h2, h3⟩
    exact ⟨f s, by rw [map_get, h1]; rfl, by rw [hf]; exact h2, h3⟩
theorem Rel.age (r : Rel K g S H σr σ) : Rel K { g with Se := S } S H σr (σ.map Sv.age) where
  len := by rw [List.length_map]; exact r.len
  s0e := r.s0e.trans r.seS
  seS := Ex.refl S
  sH := r.sH
  bH := r.bH
  fresh := r.fresh
  slot := fun i s hs => by
    rw [map_get] at hs
    cases z : σ[i]? with
    | none => rw [z] at hs; cases hs
    | some s' =>
      rw [z] at hs
      cases hs
      have q := r.slot i s' z
      cases s' with
      | und => trivial
      | fz f d =>
        obtain ⟨v, e, h⟩ := q
        exact ⟨v, e, FzOk.any r.seS h⟩
      | mu o d =>
        obtain ⟨p, e, a, b, c⟩ := q
        refine ⟨p, e, a, b, ?_⟩
        cases d with
        | lst ds =>
          obtain ⟨xs, x1, x2⟩ := c
          refine ⟨xs, x1, ?_⟩
          unfold gdO
          split
          · rename_i w
            exact RpL.imm w x2
          · exact RpL.mono (fun _ _ => trivial) (Ex.refl S) x2
        | dic ds =>
          obtain ⟨xs, x1, x2⟩ := c
          refine ⟨xs, x1, ?_⟩
          unfold gdO
          split
          · rename_i w
            exact RpK.imm w x2
          · exact RpK.mono (fun _ _ => trivial) (Ex.refl S) x2
        | dit ds =>
          obtain ⟨xs, x1, x2⟩ := c
          refine ⟨xs, x1, ?_⟩
          unfold gdO
          split
          · rename_i w
            exact RpT.imm w x2
          · exact RpT.mono (fun _ _ => trivial) (Ex.refl S) x2
        | ins cc fs =>
          obtain ⟨dx, xs, x1, x0, x2⟩ := c
          exact ⟨dx, xs, x1, x0, RpF.mono (fun _ _ => trivial) (Ex.refl S) x2⟩
        | _ => exact c.elim
      | io d => exact q
  inj := fun i j p h1 h2 => r.inj i j p ((mu_map fun s => by cases s <;> rfl).mp h1) ((mu_map fun s => by cases s <;> rfl).mp h2)
theorem gdO_up {o : Bool} {g : Gho} {S1 : Hp} (h : Ex g.Se S1) : ∀ a, gdO { g with Se := S1 } o a → gdO g o a := fun a ha => by
  unfold gdO at ha ⊢
  cases o with
  | true => exact h.back ha
  | false => trivial
theorem MuAt.up {G G' : Addr → Prop} (hg : ∀ a, G a → G' a) {p : Addr} {d : D} (h : MuAt K G S H p d) : MuAt K G' S H p d := by
  cases d <;> first | exact h.elim | (obtain ⟨xs, h1, h2⟩ := h; refine ⟨xs, h1, ?_⟩; first | exact RpL.mono hg (Ex.refl _) h2 | exact RpK.mono hg (Ex.refl _) h2 | exact RpT.mono hg (Ex.refl _) h2) | (obtain ⟨dx, xs, h1, h2, h3⟩ := h; exact ⟨dx, xs, h1, h2, RpF.mono hg (Ex.refl _) h3⟩)
theorem FzOk.unage {S1 : Hp} (hse : Ex g.Se S1) (e : Ex S1 S) {d : D} {v : V} {f : Fl} (h : FzOk K { g with Se := S1 } S d v f) : FzOk K g S d v f.unage := by
  cases f with
  | any => exact h
  | top =>
    refine ⟨h.1, ?_⟩
    have h2 := h.2
    cases d <;> first | trivial | (obtain ⟨a, e1, x⟩ := h2; exact ⟨a, e1, hse.back x⟩)
  | own => exact Rp.mono (fun a x => hse.back x) (Ex.refl S) h
  | old => exact Rp.mono yes_of e h
theorem Rel.unage {S1 : Hp} (h0 : Ex g.S0 g.Se) (hse : Ex g.Se S1) (r : Rel K { g with Se := S1 } S H σr σ) : Rel K g S H σr (σ.map Sv.unage) where
  len := by rw [List.length_map]; exact r.len
  s0e := h0
  seS := hse.trans r.seS
  sH := r.sH
  bH := r.bH
  fresh := r.fresh
  slot := fun i s hs => by
    rw [map_get] at hs
    cases z : σ[i]? with
    | none => rw [z] at hs; cases hs
    | some s' =>
      rw [z] at hs
      cases hs
      have q := r.slot i s' z
      cases s' with
      | und => trivial
      | fz f d =>
        obtain ⟨v, e, h⟩ := q
        exact ⟨v, e, FzOk.unage hse r.seS h⟩
      | mu o d =>
        obtain ⟨p, e, a, b, c⟩ := q
        exact ⟨p, e, a, b, c.up (gdO_up hse)⟩
      | io d => exact q
  inj := fun i j p h1 h2 => r.inj i j p ((mu_map fun s => by cases s <;> rfl).mp h1) ((mu_map fun s => by cases s <;> rfl).mp h2)
theorem rs_epoch {t : TS} {m : Sm} (js : List Nat) (h : RefP K W t m) : RefS K W t (sEpoch js m) := by
  intro g S H σr σ D r0 hq
  obtain ⟨S1, e1, r1⟩ := r0.frzAll (js := js)
  refine h { g with Se := S1 } S1 H σr ((frzAll js σ).map Sv.age) D r1.age ?_
  have h' : ResS K W g S ((m ((frzAll js σ).map Sv.age)).bind fun p => .ok (p.1.unage, p.2.map Sv.unage)) D := hq
  cases q : m ((frzAll js σ).map Sv.age) with
  | bad => rw [q] at h'; exact h'
  | exc c fs =>
    rw [q] at h'
    exact fun a b c' σ' dx xs r => h' a b c' (σ'.map Sv.unage) dx xs (e1.trans r.seS) (Rel.unage r0.s0e r1.seS r)
  | ok p =>
    obtain ⟨f, σ1⟩ := p
    rw [q] at h'
    cases f with
    | next => exact fun a b c r => h' a b c (e1.trans r.seS) (Rel.unage r0.s0e r1.seS r)
    | brk => exact fun a b c r => h' a b c (e1.trans r.seS) (Rel.unage r0.s0e r1.seS r)
    | cont => exact fun a b c r => h' a b c (e1.trans r.seS) (Rel.unage r0.s0e r1.seS r)
    | ret f d => exact fun v a b c r hf => h' v a b c (e1.trans r.seS) (Rel.unage r0.s0e r1.seS r) (FzOk.unage r1.seS r.seS hf)

open Classical in
/-- what is left of the heap's knowledge behind the spoiling -/
noncomputable def wornS (Se S : Hp) : Hp := fun a => match S a with
  | none => none
  | some o => if Se a ≠ none ∨ firm o then some o else none
theorem wornS_some {Se : Hp} {a : Addr} {o : HO} (h : wornS Se S a = some o) : S a = some o ∧ (Se a ≠ none ∨ firm o) := by
  unfold wornS at h
  cases z : S a with
  | none => rw [z] at h; cases h
  | some u =>
    rw [z] at h
    simp only at h
    split at h
    · rename_i q
      cases h
      exact ⟨rfl, q⟩
    · cases h
theorem wornS_of {Se : Hp} {a : Addr} {o : HO} (h : S a = some o) (q : Se a ≠ none ∨ firm o) : wornS Se S a = some o := by
  unfold wornS
  rw [h]
  simp only
  rw [if_pos q]
theorem hardL_of {ds : List D} (h : kidsHard (.lst ds) = true) : hard.hardL ds = true := h
theorem MuAt.worn {G : Addr → Prop} {p : Addr} {d : D} (hd : kidsHard d = true) (l : Less S S') (hp : H' p = H p) (h : MuAt K G S H p d) : MuAt K G S' H' p d := by
  cases d with
  | lst ds =>
    obtain ⟨xs, h1, h2⟩ := h
    exact ⟨xs, hp.trans h1, RpL.less l hd h2⟩
  | _ => cases hd
theorem worn_get : ∀ {σ σ' : List Sv}, wornAll σ = some σ' → σ'.length = σ.length ∧ ∀ (i : Nat) (s' : Sv), σ'[i]? = some s' → ∃ s, σ[i]? = some s ∧ s.worn = some s'
  | [], σ', h => by cases h; exact ⟨rfl, fun i s' h => by cases h⟩
  | s :: σ, σ', h => by
    unfold wornAll at h
    split at h
    · rename_i s1 σ1 h1 h2
      cases h
      obtain ⟨i1, i2⟩ := worn_get h2
      refine ⟨by rw [List.length_cons, List.length_cons, i1], fun i s' hs => ?_⟩
      cases i with
      | zero =>
        cases hs
        exact ⟨s, rfl, h1⟩
      | succ i => exact i2 i s' hs
    · cases h
theorem worn_mu {s s' : Sv} (h : s.worn = some s') (hm : s'.isMu = true) : s.isMu = true := by
  cases s with
  | und => cases h; cases hm
  | fz f d =>
    cases f with
    | old => cases h; cases hm
    | any => simp only [Sv.worn] at h; cases h; split at hm <;> cases hm
    | top => simp only [Sv.worn] at h; cases h; split at hm <;> cases hm
    | own => simp only [Sv.worn] at h; cases h; split at hm <;> cases hm
  | mu o d => rfl
  | io d => rfl
theorem Rel.worn (r : Rel K g S H σr σ) (hw : wornAll σ = some σ') {n : Nat} (hlt : Lt S g.nu n H') (hk : Keep S H H') : Rel K g (wornS g.Se S) H' σr σ' := by
  obtain ⟨wl, wg⟩ := worn_get hw
  have hse : Ex g.Se (wornS g.Se S) := fun a o ha => wornS_of (r.seS a o ha) (.inl (by rw [ha]; exact fun z => nomatch z))
  have hless : Less S (wornS g.Se S) := fun b o hb hf => wornS_of hb (.inr hf)
  have hsh : Ex (wornS g.Se S) H' := fun a o ha => by
    obtain ⟨h1, h2⟩ := wornS_some ha
    refine hlt.firm a o h1 fun ⟨hn, xs, e⟩ => ?_
    rcases h2 with h2 | h2
    · exact h2 hn
    · subst e
      exact h2
  have mu : ∀ i p, MuP σr σ i p → wornS g.Se S p = none ∧ H' p = H p := fun i p hp => by
    obtain ⟨m1, _, m3⟩ := r.muP hp
    refine ⟨?_, ?_⟩
    · unfold wornS
      rw [m1]
    · cases z : H p with
      | none => exact absurd z m3
      | some o => exact hk p o z m1
  refine ⟨by rw [wl]; exact r.len, r.s0e, hse, hsh, fun a o ha => ?_, fun a h1 h2 => ?_, fun i s' hs => ?_, fun i j p h1 h2 => ?_⟩
  · have h1 := r.bH a o ha
    cases z : S a with
    | none => exact hk a o h1 z
    | some u =>
      have e := r.sH a u z
      rw [h1] at e
      cases e
      refine hlt.firm a o z fun ⟨hn, xs, e⟩ => ?_
      have := r.fresh a (by rw [z]; exact fun w => nomatch w) (r.s0e.back hn)
      rw [this] at ha
      cases ha
  · cases z : wornS g.Se S a with
    | none => exact absurd z h1
    | some o => exact r.fresh a (by rw [(wornS_some z).1]; exact fun w => nomatch w) h2
  · obtain ⟨s, h1, h2⟩ := wg i s' hs
    have q := r.slot i s h1
    cases s with
    | und => cases h2; trivial
    | fz f d =>
      obtain ⟨v, e, hf⟩ := q
      have gen : (if hard d = true then Sv.fz .any d else .und) = s' → SlotOk K g (wornS g.Se S) H' i σr[i]? s' := fun e2 => by
        subst e2
        split
        · rename_i hh
          exact ⟨v, e, Rp.less hless hh (FzOk.any r.seS hf)⟩
        · trivial
      cases f with
      | old => cases h2; exact ⟨v, e, hf⟩
      | any => exact gen (Option.some.inj h2)
      | top => exact gen (Option.some.inj h2)
      | own => exact gen (Option.some.inj h2)
    | mu o d =>
      obtain ⟨p, e, a, b, c⟩ := q
      simp only [Sv.worn] at h2
      have e2 := Option.some.inj h2
      subst e2
      split
      · rename_i hh
        obtain ⟨m1, m2⟩ := mu i p ⟨_, h1, rfl, e⟩
        exact ⟨p, e, m1, b, c.worn hh hless m2⟩
      · trivial
    | io d =>
      obtain ⟨p, e, a, b, x, c⟩ := q
      simp only [Sv.worn] at h2
      split at h2
      · rename_i hh
        cases h2
        obtain ⟨m1, m2⟩ := mu i p ⟨_, h1, rfl, e⟩
        exact ⟨p, e, m1, b, x, c.worn hh hless m2⟩
      · cases h2
  · have go : ∀ k q, MuP σr σ' k q → MuP σr σ k q := fun k q ⟨t, t1, t2, t3⟩ => by
      obtain ⟨s, h1, h2⟩ := wg k t t1
      exact ⟨s, h1, worn_mu h2 t2, t3⟩
    exact r.inj i j p (go i p h1) (go j p h2)
theorem ResP.bind {α : Type} {m : M α} {f : α → Sm} (h : ResP K W g (M.bind m f σ) Dn) : Res K g W S σr (m σ) fun a σ' S' _ => ResP K W g (f a σ') Dn := by
  have h' : ResP K W g ((m σ).bind fun p => f p.1 p.2) Dn := h
  cases q : m σ with
  | ok p =>
    rw [q] at h'
    exact fun S' H' e r => h'
  | exc c fs =>
    rw [q] at h'
    exact fun S' H' σ' dx xs e r => h' σr S' H' σ' dx xs r
  | bad =>
    rw [q] at h'
    exact h'
theorem rp_spoil {te : TE} {m : M Ev} {N : Nat} (he : RefE K W te m) : RefP K W (tDrop (tCallS (spSp K N) (WE W) (tCons te tNil))) (sSpoil N m) := by
  intro g S H σr σ D r h
  refine re_val he g S H σr σ _ r ((ResP.bind (σr := σr) h).imp fun e σ1 S1 H1 x1 r1 h1 => fun v hv => ?_)
  cases e with
  | view i => exact h1.elim
  | val f d =>
    cases f with
    | own =>
      cases hw : wornAll σ1 with
      | none =>
        simp only [hw] at h1
        exact h1.elim
      | some σ2 =>
        simp only [hw] at h1
        split at h1
        · rename_i hc
          refine ⟨S1, g.nu, 0, d, v, rfl, hv, hc.1, hc.2.1, Lt.of_ex r1.sH, by rw [Nat.zero_add]; exact hc.2.2, fun H' hlt hk => ?_⟩
          exact h1 σr _ H' (r1.worn hw hlt hk)
        · exact h1.elim
    | _ => exact h1.elim
end
/-! ### in the derivations -/
section
variable {X : Cx} {k j : Nat} {a b c : Expr} {es : List Expr} {pos p q : Pos} {ma mb mc m : M Ev} {x : Str} {f : Addr} {fd : FuncData} {ps : List Str} {st : Stmt} {rest : List Stmt} {sa sb sm : Sm}
abbrev JP (X : Cx) (st : Stmt) (m : Sm) : Prop := PS X st (tpOf X.K W0 m)
abbrev JPs (X : Cx) (st : List Stmt) (m : Sm) : Prop := PSs X st (tpOf X.K W0 m)
theorem jp_of {t : TS} {m : Sm} (p : PS X st t) (r : RefP X.K W0 t m) : JP X st m := ⟨fun pins s σ H D I ⟨g, S, σ', rl, h⟩ => p.run pins s σ H D I (r g S H σ σ' D rl h)⟩
theorem jps_of {t : TS} {m : Sm} (p : PSs X rest t) (r : RefP X.K W0 t m) : JPs X rest m := ⟨fun pins s σ H D I ⟨g, S, σ', rl, h⟩ => p.run pins s σ H D I (r g S H σ σ' D rl h)⟩
theorem jp_s (h : JS X st sa) : JP X st sa := jp_of h (rp_of_s rs_of)
theorem jps_one (h : JP X st sa) : JPs X [st] sa := jps_of (pss_one h) rp_of
theorem jps_cons (h : JP X st sa) (h2 : JPs X rest sb) : JPs X (st :: rest) (sSeq sa sb) := jps_of (pss_cons h h2) (rp_seq rp_of rp_of)
theorem jss_epoch (js : List Nat) (h : JPs X rest sa) : JSs X rest (sEpoch js sa) := jss_of h (rs_epoch js rp_of)
/-- what the spoiling def promises -/
structure SpOk (P : Program) (w : World) (K : PySem.W.Frag) (mg : Str → Option Value) (base : Heap) (k : Nat) (f : Addr) (fd : FuncData) (ps : List Str) (N : Nat) : Prop where
  ok : FnG P w K mg base k f fd ps (spSp K N)
  bi : Binds K fd ps []
  kp : PySem.W.keepIn K (.ref f) = true
theorem pe_callSp {N : Nat} (hF : SpOk X.prog X.w X.K X.mg X.base j f fd ps N) (hr : RmG k X.A) (hm : X.mg x = some (.ref f)) {t : TA} (ha : PA X (a :: es) t) (hj : j ≤ k) (hg : Gl X x) (hd : (x == ("__debug__" : Str)) = false)
    (he : starEach (a :: es) X.env = (false, eval a X.env) :: starEach es X.env) (hpl : (backTo pos (starEach es X.env)).any (·.1) = false) : PE X (.Call (.Name x q) (a :: es) [] pos) (tCallS (spSp X.K N) (WE W0) t) := by
  refine ⟨fun pins s σ H Q I h => ?_⟩
  refine wpAny_Call_Name_kw (ld_glob I hg hm ?_ hd)
  refine PySem.W.callWith_K (h₀ := X.base) I.ok.mod.kin hF.kp (thn (ha.run pos pins s σ H _ I h) fun us s1 ⟨vs, H1, I1, r, q⟩ => ⟨I1.kIn, ?_⟩) he hpl
  have hl : (us ++ []).length = ps.length := by rw [List.append_nil, ← r.length]; exact hF.ok.len _ _ _ _ q
  have hb := hF.bi s1 us I1.kIn hl
  rw [List.append_nil] at hb
  exact wpAny_call (run_fnG hF.ok (hr.mono hj) I1 hb r q)
theorem jp_spoil {N : Nat} (hF : SpOk X.prog X.w X.K X.mg X.base j f fd ps N) (hr : RmG k X.A) (hm : X.mg x = some (.ref f)) (ha : JE X a ma) (hj : j ≤ k := by omega) (hg : Gl X x := by rfl) (hd : (x == ("__debug__" : Str)) = false := by decide)
    (he : starEach [a] X.env = (false, eval a X.env) :: starEach [] X.env := by rfl) (hs : swapsWith (.Call (.Name x q) [a] [] p) none pos.line X.env = pure false := by rfl) : JP X (.Expr (.Call (.Name x q) [a] [] p) pos) (sSpoil N ma) :=
  jp_of (ps_expr (pe_callSp hF hr hm (pa_cons ha pa_nil he) hj hg hd he (by rfl)) hs) (rp_spoil re_of)
theorem je_v (h : JE X a ma) : JE X a (eV ma) := je_of h (re_val re_of)
end
/-- the def itself, its text given by its parts -/
theorem spoil_def {P : Program} {w : World} {K : PySem.W.Frag} {mg : Str → Option Value} {base : Heap} {qual : Str} {params : Arguments} {body : List Stmt} {scope : Scope} {f : Addr} {fd : FuncData} {x : Str} (F : FunD K x qual params body scope [] [] f fd) (S : FnScope ["thing", "key", "part"] ["thing"] scope)
    (hb : ∀ (kV doc pm : Value) (an : Option Addr) (cdv ct : Value) (us : List Value), us.length = 1 → bindArgs (PySem.W.fnOf x qual params body scope .none kV doc pm an cdv ct) ⟨us, []⟩ = pure ((["thing"] : List Str).zip us))
    (hp : ∀ (k N : Nat) (cdv : Value) (A : Around) (outer : List PySem.Env) (s : Shared) (H : Hp) (E : XK), RmG k (A.deeper (envOfC qual scope s.heap.objs.size f cdv)) → SpOk P w K mg base k f fd ["thing"] N → PSs (cxOf CX0 P w K mg base ["thing", "key", "part"] qual scope f cdv A outer s H E).nox body (tSp K (spSp K N))) :
    ∀ N, SpOk P w K mg base (1 + N) f fd ["thing"] N
  | 0 => ⟨⟨fun vs H Q E ⟨_, _, _, _, _, _, _, _, h, _⟩ => absurd h (Nat.not_lt_zero _), fun A outer s H args us vs Q E _ _ _ _ ⟨_, _, _, _, _, _, _, _, h, _⟩ => absurd h (Nat.not_lt_zero _)⟩, F.bindsN hb, F.kp⟩
  | N + 1 => ⟨fnG_of (k := 1 + N) F S (fun vs H Q E ⟨_, _, _, _, _, e, _⟩ => by rw [e]; rfl) fun cdv A outer s H vs Q E hr h => ⟨_, PSs.nox (hp (1 + N) N cdv A outer s H E hr (spoil_def F S hb hp N)), spoil_run (E := E) h⟩, F.bindsN hb, F.kp⟩
end Uw

set_option Elab.async false
set_option linter.all false
set_option maxRecDepth 100000
set_option maxHeartbeats 2000000
namespace Uw
open PySem PySem.Spec PyProof.Rows L2
/-! ### the law's end: the call of the law where no repr is under way -/
section
variable {P : Program} {w : World} {K : PySem.W.Frag} {mg mb : Str → Option Value} {k : Nat} {fa a : Addr} {fd : FuncData} {x : Str} {sp : Sp} {s₁ : Shared} {vs : List Value} {ns : List Int}
theorem law_core (KX : K.In s₁.heap) (hns : s₁.heap.Ns mainGlobals mg) (hb : s₁.heap.Ns builtinsNs mb) (hbb : ∀ x : Str, x ≠ "__name__" → mb x = bootBuiltins x) (hlim : s₁.heap.NoLimit) (hg : s₁.gens = #[])
    (ha : s₁.heap.get? a = some { cls := .type "list", data := .seq vs.toArray }) (hr : Room k callerA)
    (F : ∀ base : Heap, K.In base → base.Ns mainGlobals mg → FnG P w K mg base k fa fd [x] sp) (hbind : ∀ (s : Shared) (u : Value), BindsTo s fd ⟨[u], []⟩ [(x, u)])
    (hsp : ∀ H : Hp, Only H → SqL K H a (ns.map V.int) → sp [.ref a] H (fun v _ => v = .bl true) fun _ _ _ => False)
    (H : Hp) (hO : Only H) (hS : SqL K H a (ns.map V.int)) (hok : HOk P w H s₁.heap) (hA : ∀ b, H b ≠ none → b = a) (hK : H a ≠ none → K.lookup a = none) :
    codeAny (model P w) callerA (.call (.ref fa) ⟨[.ref a], []⟩) (fun r s' => r = .ok (.ret (.bool true)) ∧ OldK s₁.heap s'.heap ∧ s'.os = s₁.os ∧ AllBare s'.gens) s₁ := by
  have free : ∀ {b : Addr}, b ≠ a → H b = none := fun {b} ne => Classical.byContradiction fun z => ne (hA b z)
  have notDict : ∀ {b : Addr} {o : Obj} {es : Array DictEntry} {ep : Nat}, s₁.heap.get? b = some o → o.data = .dict es ep → H b = none := fun {b o es ep} e d => free fun z => by
    rw [z, ha] at e
    cases e
    cases (show Data.seq vs.toArray _ = Data.dict es ep from d)
  have up : ∀ {b : Addr} {m : Str → Option Value}, s₁.heap.Ns b m → (hidT s₁.heap H).Ns b m := fun ⟨o, es, ep, e, d, r⟩ => ⟨o, es, ep, hidT_get e (notDict e d), d, r⟩
  have KB : K.In (hidT s₁.heap H) := fun b o e => hidT_get (KX b o e) (Classical.byContradiction fun z => by
    have e1 := hA b z
    subst e1
    rw [hK z] at e
    cases e)
  obtain ⟨mc, l1, l2⟩ := hlim
  have e0 : Env0 P w K mg (hidT s₁.heap H) callerA [] s₁ H := ⟨rfl, ⟨KB, up hns, ⟨mb, up hb, hbb⟩, ⟨mc, up l1, l2⟩⟩, fun b o e => of_hidT e, Nat.le_of_eq (hidT_size _ _), trivial, (fun b hb => absurd (show b ∈ ([] : List Addr) from hb) (by simp)), hok, .of_eq hg⟩
  refine codeAny_mono ((F _ KB (up hns)).run callerA [] s₁ H ⟨[.ref a], []⟩ [.ref a] [.ref a] _ _ ⟨hr, rfl⟩ e0 (hbind s₁ (.ref a)) (.cons rfl .nil) (hsp H hO hS)) fun r s' h => ?_
  cases r with
  | error e => exact h.elim
  | ok fl =>
    cases fl with
    | next => exact False.elim h
    | brk => exact False.elim h
    | cont => exact False.elim h
    | ret u =>
      obtain ⟨v, H', os, bare, un, hok', r', q⟩ := h
      obtain rfl : v = .bl true := q
      obtain rfl : u = Value.bool true := r'
      refine ⟨rfl, OldK.of_keep fun b o e => ?_, os, bare⟩
      rcases hO b with z | ⟨ob, xs, z⟩
      · exact un.keep b o e z (fun z => absurd (show b ∈ ([] : List Addr) from z) (by simp)) (by simp)
      · obtain ⟨e1, _⟩ := hok b _ z
        obtain ⟨e2, _⟩ := hok' b _ (un.frzs b ob _ z)
        rw [e] at e1
        cases e1
        exact e2
theorem law_callG (KX : K.In s₁.heap) (hns : s₁.heap.Ns mainGlobals mg) (hb : s₁.heap.Ns builtinsNs mb) (hbb : ∀ x : Str, x ≠ "__name__" → mb x = bootBuiltins x) (hlim : s₁.heap.NoLimit) (hg : s₁.gens = #[])
    (ha : s₁.heap.get? a = some { cls := .type "list", data := .seq vs.toArray }) (hi : IntsAre vs ns) (hl : ns.length ≤ sizeLine) (hr : Room k callerA)
    (F : ∀ base : Heap, K.In base → base.Ns mainGlobals mg → FnG P w K mg base k fa fd [x] sp) (hbind : ∀ (s : Shared) (u : Value), BindsTo s fd ⟨[u], []⟩ [(x, u)])
    (hsp : ∀ H : Hp, Only H → SqL K H a (ns.map V.int) → sp [.ref a] H (fun v _ => v = .bl true) fun _ _ _ => False) :
    codeAny (model P w) callerA (.call (.ref fa) ⟨[.ref a], []⟩) (fun r s' => r = .ok (.ret (.bool true)) ∧ OldK s₁.heap s'.heap ∧ s'.os = s₁.os ∧ AllBare s'.gens) s₁ := by
  have rv := vals_ints hi
  have core := law_core KX hns hb hbb hlim hg ha hr F hbind hsp
  cases hk : K.lookup a with
  | some o =>
    have e := KX a o hk
    rw [ha] at e
    cases e
    exact core (fun _ => none) (fun _ => .inl rfl) (.inr ⟨_, vs.toArray, _, hk, rfl, rfl, rfl, by rw [List.size_toArray, hi.length]; exact hl, by simpa using rv⟩) (fun b u z => nomatch (show (none : Option HO) = some u from z)) (fun b z => absurd rfl z) fun z => absurd rfl z
  | none =>
    have at_a : (fun b => if b = a then some (HO.frz { cls := .type "list", data := .seq vs.toArray } (.lst (ns.map V.int))) else none : Hp) a = some (HO.frz { cls := .type "list", data := .seq vs.toArray } (.lst (ns.map V.int))) := if_pos rfl
    have off : ∀ b, b ≠ a → (fun b => if b = a then some (HO.frz { cls := .type "list", data := .seq vs.toArray } (.lst (ns.map V.int))) else none : Hp) b = none := fun b hb => if_neg hb
    refine core (fun b => if b = a then some (HO.frz { cls := .type "list", data := .seq vs.toArray } (.lst (ns.map V.int))) else none) (fun b => ?_) (.inl (.inr ⟨_, at_a⟩)) (fun b u z => ?_) (fun b z => Classical.byContradiction fun hb => z (off b hb)) fun _ => hk
    · by_cases hb : b = a
      · exact .inr ⟨_, _, by rw [hb]; exact at_a⟩
      · exact .inl (off b hb)
    · by_cases hb : b = a
      · subst hb
        have z' := at_a.symm.trans z
        cases z'
        exact ⟨ha, by rw [List.length_map]; exact hl, vs, _, rv, ha⟩
      · have z' := (off b hb).symm.trans z
        cases z'
end
/-- a law: F gives the written part, the function object, the promise over every base -/
theorem walk_ofG {l : PySem.W.OpenLaw} {n k : Nat} {q : Program} {loose : List Str} {XP : (Str → Option Value) → Heap → Prop} {YP : World → Heap → Prop} {d : DefRec} {x : Str}
    (hn : l.most = some n) (hn2 : n ≤ sizeLine) (hdf : d.params.defaults = []) (hr : Room k callerA)
    (F : ∀ (w : World) (mg : Str → Option Value) (fa : Addr) (h : Heap), YP w h → h.Ns mainGlobals mg → mg d.name = some (.ref fa) →
      ∃ (K : PySem.W.Frag) (fd : FuncData) (sp : Sp), K.In h ∧ (∀ (s : Shared) (u : Value), BindsTo s fd ⟨[u], []⟩ [(x, u)]) ∧
        (∀ (H : Hp) (a : Addr) (ns : List Int), ns.length ≤ n → Only H → SqL K H a (ns.map V.int) → sp [.ref a] H (fun v _ => v = .bl true) fun _ _ _ => False) ∧
        ∀ base : Heap, K.In base → base.Ns mainGlobals mg → FnG l.prog w K mg base k fa fd [x] sp) :
    PySem.W.WalkO q loose XP YP l.row.toRowW d [] (fun f vs => PySem.call f vs) := by
  refine Att.attach_call hn hdf fun w s₀ s₁ mg mb fa o pm cd doc a vs ns G Y ho hd hcd hmg hobj hints hlen hg => ?_
  obtain ⟨K, fd, sp, KX, hb, hsp, hF⟩ := F w mg fa _ Y G.T.g hmg
  exact law_callG KX G.T.g G.T.b G.T.builtins G.T.nolimit hg hobj hints (Nat.le_trans hlen hn2) hr hF hb fun H hO hS => hsp H a ns hlen hO hS
theorem fund_one {K : PySem.W.Frag} {x x' q q' : Str} {p p' : Arguments} {b b' : List Stmt} {sc sc' : Scope} {f : Addr} {fd fd' : FuncData} (F : FunD K x q p b sc [] [] f fd) (F' : FunD K x' q' p' b' sc' [] [] f fd') : fd = fd' := by
  obtain ⟨oc, od, dV, kV, doc, pm, an, cdv, ct, osl, _, lk, _⟩ := F.ex
  obtain ⟨oc', od', dV', kV', doc', pm', an', cdv', ct', osl', _, lk', _⟩ := F'.ex
  rw [lk] at lk'
  have e := Option.some.inj lk'
  injection e with _ _ e3 _
  injection e3
/-- a law whose mirror says true -/
theorem law_sp {K : PySem.W.Frag} {F : Fn} {n : Nat} (h : ∀ ns : List Int, ns.length ≤ n → ∃ f, F [.fz (.scr ns)] = .ok ((f, .bl true), [])) (H : Hp) (a : Addr) (ns : List Int) (hl : ns.length ≤ n) (hS : SqL K H a (ns.map V.int)) : spF K F [.ref a] H (fun v _ => v = .bl true) fun _ _ _ => False := by
  obtain ⟨f, e⟩ := h ns hl
  refine ⟨H, [.fz (.scr ns)], [], .inl ⟨.scr ns, [], rfl, ⟨a, rfl, hS⟩, rfl, rfl⟩, List.Pairwise.nil, Ex.refl H, ?_⟩
  rw [e]
  intro v S' H' hb ho hz
  cases f <;> first | exact hz | exact hz.1
end Uw

set_option Elab.async false
set_option linter.all false
set_option maxRecDepth 100000
set_option maxHeartbeats 0
namespace Uw.K12
open PySem PySem.Spec PyProof.Rows L2 Uw
/-! ### the text -/
abbrev row := PySem.Challenge.pw_underwraps_k12_whole_roots_and_asked_key
def top (i : Nat) : Stmt := row.main.body.getD i (.Pass ⟨0, 0, 0, 0⟩)
abbrev s_is_integer : Stmt := top 5
abbrev N_is_integer : List Str := ["thing"]
abbrev P_is_integer : List Str := ["thing"]
abbrev s_is_number : Stmt := top 6
abbrev N_is_number : List Str := ["thing"]
abbrev P_is_number : List Str := ["thing"]
abbrev s_is_list : Stmt := top 7
abbrev N_is_list : List Str := ["thing"]
abbrev P_is_list : List Str := ["thing"]
abbrev s_is_name : Stmt := top 8
abbrev N_is_name : List Str := ["thing", "sign"]
abbrev P_is_name : List Str := ["thing"]
abbrev s_are_names : Stmt := top 9
abbrev N_are_names : List Str := ["thing", "index", "one"]
abbrev P_are_names : List Str := ["thing"]
abbrev s_check_roles : Stmt := top 20
abbrev N_check_roles : List Str := ["roles"]
abbrev P_check_roles : List Str := ["roles"]
abbrev s_check_labels : Stmt := top 21
abbrev N_check_labels : List Str := ["labels"]
abbrev P_check_labels : List Str := ["labels"]
abbrev s_is_one : Stmt := top 22
abbrev N_is_one : List Str := ["roles", "labels", "thing", "shape", "kind", "name"]
abbrev P_is_one : List Str := ["roles", "labels", "thing"]
abbrev s_checked_permits : Stmt := top 23
abbrev N_checked_permits : List Str := ["roles", "labels", "permits", "found", "index", "one"]
abbrev P_checked_permits : List Str := ["roles", "labels", "permits"]
abbrev s_check_book : Stmt := top 25
abbrev N_check_book : List Str := ["book"]
abbrev P_check_book : List Str := ["book"]
abbrev s_are_roles : Stmt := top 26
abbrev N_are_roles : List Str := ["book", "thing", "one", "other"]
abbrev P_are_roles : List Str := ["book", "thing"]
abbrev s_checked_start : Stmt := top 27
abbrev N_checked_start : List Str := ["book", "start", "index", "thing", "one"]
abbrev P_checked_start : List Str := ["book", "start"]
abbrev s_all_states : Stmt := top 29
abbrev N_all_states : List Str := ["book"]
abbrev P_all_states : List Str := ["book"]
abbrev s_all_moves : Stmt := top 30
abbrev N_all_moves : List Str := ["book", "found", "one", "label"]
abbrev P_all_moves : List Str := ["book"]
abbrev s_is_root : Stmt := top 32
abbrev N_is_root : List Str := ["book", "start", "thing"]
abbrev P_is_root : List Str := ["book", "start", "thing"]
abbrev s_all_roots : Stmt := top 31
abbrev N_all_roots : List Str := ["book", "start", "one"]
abbrev P_all_roots : List Str := ["book", "start"]
abbrev s_first_states_of : Stmt := top 33
abbrev N_first_states_of : List Str := ["start", "root"]
abbrev P_first_states_of : List Str := ["start", "root"]
abbrev s_as_asked : Stmt := top 34
abbrev N_as_asked : List Str := ["book", "start", "thing", "label"]
abbrev P_as_asked : List Str := ["book", "start", "thing"]
abbrev s_states_of : Stmt := top 35
abbrev N_states_of : List Str := ["book"]
abbrev P_states_of : List Str := ["book"]
abbrev s_moves_of : Stmt := top 36
abbrev N_moves_of : List Str := ["book"]
abbrev P_moves_of : List Str := ["book"]
abbrev s_roots_of : Stmt := top 37
abbrev N_roots_of : List Str := ["book", "start"]
abbrev P_roots_of : List Str := ["book", "start"]
abbrev s_checked_root : Stmt := top 38
abbrev N_checked_root : List Str := ["book", "start", "root"]
abbrev P_checked_root : List Str := ["book", "start", "root"]
abbrev s_first_states : Stmt := top 39
abbrev N_first_states : List Str := ["book", "start", "root", "some"]
abbrev P_first_states : List Str := ["book", "start", "root"]
abbrev s_is_asked : Stmt := top 40
abbrev N_is_asked : List Str := ["book", "start", "thing"]
abbrev P_is_asked : List Str := ["book", "start", "thing"]
abbrev s__law_well : Stmt := top 42
abbrev N__law_well : List Str := ["script", "place", "cell", "mixed", "at", "one"]
abbrev P__law_well : List Str := ["script", "place"]
abbrev s__law_draw : Stmt := top 43
abbrev N__law_draw : List Str := ["well", "many", "spread", "digit"]
abbrev P__law_draw : List Str := ["well", "many"]
abbrev s__law_pick : Stmt := top 44
abbrev N__law_pick : List Str := ["well", "some"]
abbrev P__law_pick : List Str := ["well", "some"]
abbrev s__law_mixed : Stmt := top 45
abbrev N__law_mixed : List Str := ["well", "some", "left", "k"]
abbrev P__law_mixed : List Str := ["well", "some"]
abbrev s__law_same : Stmt := top 46
abbrev N__law_same : List Str := ["found", "due", "one", "other"]
abbrev P__law_same : List Str := ["found", "due"]
abbrev s__law_loose : Stmt := top 47
abbrev N__law_loose : List Str := ["well", "thing", "found", "one", "key"]
abbrev P__law_loose : List Str := ["well", "thing"]
abbrev s__law_m_names : Stmt := top 49
abbrev N__law_m_names : List Str := ["well", "many", "some"]
abbrev P__law_m_names : List Str := ["well", "many"]
abbrev s__law_m_ringed : Stmt := top 50
abbrev N__law_m_ringed : List Str := ["well", "roles", "labels", "ring", "label", "mixed", "cut", "found", "at", "one"]
abbrev P__law_m_ringed : List Str := ["well", "roles", "labels"]
abbrev s__law_m_permit : Stmt := top 51
abbrev N__law_m_permit : List Str := ["well", "roles", "labels", "words", "word", "r", "s"]
abbrev P__law_m_permit : List Str := ["well", "roles", "labels", "words"]
abbrev s__law_m_book : Stmt := top 52
abbrev N__law_m_book : List Str := ["well", "many", "labels", "words", "turn", "roles", "found", "one"]
abbrev P__law_m_book : List Str := ["well", "many"]
abbrev s__law_m_start : Stmt := top 53
abbrev N__law_m_start : List Str := ["well", "raw", "found", "turn"]
abbrev P__law_m_start : List Str := ["well", "raw"]
abbrev s__law_m_passed : Stmt := top 54
abbrev N__law_m_passed : List Str := ["well", "raw", "some"]
abbrev P__law_m_passed : List Str := ["well", "raw"]
abbrev s__law_m_states : Stmt := top 55
abbrev N__law_m_states : List Str := ["raw"]
abbrev P__law_m_states : List Str := ["raw"]
abbrev s__law_m_moves : Stmt := top 56
abbrev N__law_m_moves : List Str := ["raw", "found", "label", "one", "same"]
abbrev P__law_m_moves : List Str := ["raw"]
abbrev s__law_m_roots : Stmt := top 57
abbrev N__law_m_roots : List Str := ["raw", "start", "states", "one", "index", "roles"]
abbrev P__law_m_roots : List Str := ["raw", "start"]
abbrev s__law_is_asked : Stmt := top 58
abbrev N__law_is_asked : List Str := ["raw", "start", "thing", "root", "word", "is_root_v", "label"]
abbrev P__law_is_asked : List Str := ["raw", "start", "thing"]
abbrev s__law_near : Stmt := top 59
abbrev N__law_near : List Str := ["well", "raw", "start", "roots", "odds", "found", "odd", "at", "root", "word", "some", "k"]
abbrev P__law_near : List Str := ["well", "raw", "start"]
abbrev s__law_asked_right : Stmt := top 60
abbrev N__law_asked_right : List Str := ["well", "raw", "start", "book", "thing", "told", "handed", "given", "was", "due"]
abbrev P__law_asked_right : List Str := ["well", "raw", "start", "book"]
abbrev s__law_told_right : Stmt := top 61
abbrev N__law_told_right : List Str := ["well", "raw", "start", "book", "turn", "told", "firsts", "given", "roots", "was", "due", "root", "some"]
abbrev P__law_told_right : List Str := ["well", "raw", "start", "book"]
abbrev s_Book_init : Stmt := inClass (top 24) 0
abbrev N_Book_init : List Str := ["self", "roles", "labels", "permits"]
abbrev P_Book_init : List Str := ["self", "roles", "labels", "permits"]
abbrev s_law : Stmt := top 62
abbrev N_law : List Str := ["script", "place", "well", "turn", "raw", "book", "begun", "start", "passed"]
abbrev P_law : List Str := ["script"]
def tab_SHAPES : List (Str × Str) := [("make", "r"), ("bring", "r"), ("show", "r"), ("seal", "r"), ("open", "r"), ("copy", "rr"), ("wrap", "rr"), ("unwrap", "rr"), ("derive", "rxr")]
abbrev s__law_spoiled : Stmt := top 48
/-! ### mirrors -/
def m_is_integer : Sm :=
 (sRet (eAndV (eIsT ["Book"] ["int"] (eVar 0)) (eNotV (eIsT ["Book"] ["bool"] (eVar 0)))))
def F_is_integer : Fn := runX 1 1 m_is_integer
def m_is_number : Sm :=
 (sRet (eAndV (eCall F_is_integer (aCons (eV (eVar 0)) aNil)) (eOp dGe (eVar 0) (eC (.int 0)))))
def F_is_number : Fn := runX 1 1 m_is_number
def m_is_list : Sm :=
 (sRet (eIsT ["Book"] ["list", "tuple"] (eVar 0)))
def F_is_list : Fn := runX 1 1 m_is_list
def m_is_name : Sm :=
 (sSeq (sIf (eOr (eNot (eT (eIsT ["Book"] ["str"] (eVar 0)))) (eNot (eT (eChain dLt dLt (eC (.int 0)) (eCB dLen (aCons (eVar 0) aNil)) (eC (.int 9)))))) (sRet (eC (.bl false))) sSkip)
 (sRet (eAndV (eOp dIn (eGen2 dIx (eVar 0) (eC (.int 0))) (eC (.str "abcdefghijklmnopqrstuvwxyz"))) (eCB dAll (aCons (eFz (eLc [1] (mSeq (eVar 0)) (putV 1) mYes (eOp dIn (eVar 1) (eC (.str "abcdefghijklmnopqrstuvwxyz0123456789"))))) aNil)))))
def F_is_name : Fn := runX 1 2 m_is_name
def m_are_names : Sm :=
 (sSeq (sIf (eOr (eNot (eT (eCall F_is_list (aCons (eV (eVar 0)) aNil)))) (eNot (eT (eCB dAll (aCons (eFz (eLc [2] (mSeq (eVar 0)) (putV 2) mYes (eCall F_is_name (aCons (eV (eVar 2)) aNil)))) aNil))))) (sRet (eC (.bl false))) sSkip)
 (sRet (eCB dAll (aCons (eFz (eLc [1, 2] (mEnum (eVar 0)) (gTupM [(putV 1), (putV 2)]) mYes (eOp dNotIn (eVar 2) (eSl (eVar 0) mNoPart (mPart (eVar 1)))))) aNil))))
def F_are_names : Fn := runX 1 3 m_are_names
def m_check_roles : Sm :=
 (sIf (eOr (eNot (eT (eCall F_are_names (aCons (eV (eVar 0)) aNil)))) (eT (eOp dIn (eC (.str "known")) (eVar 0)))) sBad sSkip)
def F_check_roles : Fn := runX 1 1 m_check_roles
def m_check_labels : Sm :=
 (sIf (eNot (eT (eCall F_are_names (aCons (eV (eVar 0)) aNil)))) sBad sSkip)
def F_check_labels : Fn := runX 1 1 m_check_labels
def m_is_one : Sm :=
 (sSeq (sIf (eOr (eNot (eT (eCall F_is_list (aCons (eV (eVar 2)) aNil)))) (eOr (eT (eOp dEq (eVar 2) (eFz (eLst aNil)))) (eOr (eT (eOp dEq (eVar 2) (eTup aNil))) (eNot (eT (eIsT ["Book"] ["str"] (eGen2 dIx (eVar 2) (eC (.int 0))))))))) (sRet (eC (.bl false))) sSkip)
 (sSeq (sSet 3 (eTabGet tab_SHAPES (eGen2 dIx (eVar 2) (eC (.int 0))) (eC (.str ""))))
 (sSeq (sIf (eOr (eT (eOp dEq (eVar 3) (eC (.str "")))) (eOr (eT (eOp dNe (eCB dLen (aCons (eVar 2) aNil)) (eGen2 dAdd (eCB dLen (aCons (eVar 3) aNil)) (eC (.int 1))))) (eNot (eT (eCB dAll (aCons (eFz (eLc [5] (mSeq (eSl (eVar 2) (mPart (eC (.int 1))) mNoPart)) (putV 5) mYes (eCall F_is_name (aCons (eV (eVar 5)) aNil)))) aNil)))))) (sRet (eC (.bl false))) sSkip)
 (sRet (eCB dAll (aCons (eFz (eLc [4, 5] (mZip (eVar 3) (eSl (eVar 2) (mPart (eC (.int 1))) mNoPart)) (gTupM [(putV 4), (putV 5)]) mYes (eOp dIn (eVar 5) (eIf (eT (eOp dEq (eVar 4) (eC (.str "r")))) (eVar 0) (eVar 1))))) aNil))))))
def F_is_one : Fn := runX 3 6 m_is_one
def m_checked_permits : Sm :=
 (sSeq (sIf (eNot (eT (eCall F_is_list (aCons (eV (eVar 2)) aNil)))) sBad sSkip)
 (sSeq (sSetM 3 (eLst aNil))
 (sSeq (sFor (mEnum (eVar 2)) (gTupM [(putV 4), (putV 5)])
 (sSeq (sIf (eOr (eNot (eT (eCall F_is_one (aCons (eV (eVar 0)) (aCons (eV (eVar 1)) (aCons (eV (eVar 5)) aNil)))))) (eT (eOp dIn (eGenA dTupOf (aCons (eVar 5) aNil)) (eVar 3)))) sBad sSkip)
 (sDrop (eApp 3 (eGenA dTupOf (aCons (eVar 5) aNil))))))
 (sRet (eVar 3)))))
def F_checked_permits : Fn := runX 3 6 m_checked_permits
def m_check_book : Sm :=
 (sIf (eNot (eT (eIsC ["Book"] "Book" (eVar 0)))) sBad sSkip)
def F_check_book : Fn := runX 1 1 m_check_book
def m_are_roles : Sm :=
 (sSeq (sIf (eOr (eNot (eT (eCall F_is_list (aCons (eV (eVar 1)) aNil)))) (eNot (eT (eCB dAll (aCons (eFz (eLc [2] (mSeq (eVar 1)) (putV 2) mYes (eAndV (eIsT ["Book"] ["str"] (eVar 2)) (eOp dIn (eVar 2) (eFld "Book" "own_roles" (eVar 0)))))) aNil))))) (sRet (eC (.bl false))) sSkip)
 (sRet (eCB dAll (aCons (eFz (eLc [2, 3] (mZip (eVar 1) (eSl (eVar 1) (mPart (eC (.int 1))) mNoPart)) (gTupM [(putV 2), (putV 3)]) mYes (eOp dLt (eVar 2) (eVar 3)))) aNil))))
def F_are_roles : Fn := runX 2 4 m_are_roles
def m_checked_start : Sm :=
 (sSeq (sIf (eNot (eT (eCall F_is_list (aCons (eV (eVar 1)) aNil)))) sBad sSkip)
 (sSeq (sFor (mEnum (eVar 1)) (gTupM [(putV 2), (putV 3)])
 (sIf (eNot (eT (eCall F_are_roles (aCons (eV (eVar 0)) (aCons (eV (eVar 3)) aNil))))) sBad sSkip))
 (sRet (eFz (eLc [4] (mSeq (eVar 1)) (putV 4) mYes (eFz (eNew dList (aCons (eVar 4) aNil))))))))
def F_checked_start : Fn := runX 2 5 m_checked_start
def m_all_states : Sm :=
 (sRet (eFz (eNew dSorted (aCons (eFz (eLst (aCons (eC (.str "known")) (aStar (eFld "Book" "own_roles" (eVar 0)) aNil)))) aNil))))
def F_all_states : Fn := runX 1 1 m_all_states
def m_all_moves : Sm :=
 (sSeq (sSetM 1 (eLc [2] (mSeq (eFld "Book" "own_permits" (eVar 0))) (putV 2) (eT (eOp dEq (eGen2 dIx (eVar 2) (eC (.int 0))) (eC (.str "derive")))) (eTup (aCons (eGen2 dIx (eVar 2) (eC (.int 1))) (aCons (eGen2 dIx (eVar 2) (eC (.int 2))) (aCons (eGen2 dIx (eVar 2) (eC (.int 3))) aNil))))))
 (sSeq (sDrop (eExt 1 (eFz (eLc [3] (mSeq (eFld "Book" "own_labels" (eVar 0))) (putV 3) mYes (eTup (aCons (eC (.str "known")) (aCons (eV (eVar 3)) (aCons (eC (.str "known")) aNil))))))))
 (sRet (eFz (eNew dSorted (aCons (eVar 1) aNil))))))
def F_all_moves : Fn := runX 1 4 m_all_moves
def m_is_root : Sm :=
 (sSeq (sIf (eT (eIsT ["Book"] ["str"] (eVar 2))) (sRet (eOrV (eOp dEq (eVar 2) (eC (.str "known"))) (eOp dIn (eTup (aCons (eC (.str "make")) (aCons (eV (eVar 2)) aNil))) (eFld "Book" "own_permits" (eVar 0))))) sSkip)
 (sRet (eAndV (eCall F_is_number (aCons (eV (eVar 2)) aNil)) (eOp dLt (eVar 2) (eCB dLen (aCons (eVar 1) aNil))))))
def F_is_root : Fn := runX 3 3 m_is_root
def m_all_roots : Sm :=
 (sRet (eFz (eLst (aStarR (eCB dLen (aCons (eVar 1) aNil)) (aStar (eFz (eLc [2] (mSeq (eCall F_all_states (aCons (eV (eVar 0)) aNil))) (putV 2) (eT (eCall F_is_root (aCons (eV (eVar 0)) (aCons (eV (eVar 1)) (aCons (eV (eVar 2)) aNil))))) (eV (eVar 2)))) aNil)))))
def F_all_roots : Fn := runX 2 3 m_all_roots
def m_first_states_of : Sm :=
 (sRet (eFz (Uw.M.bind (eT (eIsT ["Book"] ["str"] (eVar 1))) fun b => if b = true then (eLst (aCons (eV (eVar 1)) aNil)) else (eNew dList (aCons (eGen2 dIx (eVar 0) (eVar 1)) aNil)))))
def F_first_states_of : Fn := runX 2 2 m_first_states_of
def m_as_asked : Sm :=
 (sSeq (sIf (eOr (eNot (eT (eCall F_is_list (aCons (eV (eVar 2)) aNil)))) (eOr (eT (eOp dNe (eCB dLen (aCons (eVar 2) aNil)) (eC (.int 2)))) (eOr (eNot (eT (eCall F_is_root (aCons (eV (eVar 0)) (aCons (eV (eVar 1)) (aCons (eGen2 dIx (eVar 2) (eC (.int 0))) aNil)))))) (eNot (eT (eCall F_is_list (aCons (eGen2 dIx (eVar 2) (eC (.int 1))) aNil))))))) (sRet (eC .non)) sSkip)
 (sSeq (sIf (eNot (eT (eCB dAll (aCons (eFz (eLc [3] (mSeq (eGen2 dIx (eVar 2) (eC (.int 1)))) (putV 3) mYes (eAndV (eIsT ["Book"] ["str"] (eVar 3)) (eOp dIn (eVar 3) (eFld "Book" "own_labels" (eVar 0)))))) aNil)))) (sRet (eC .non)) sSkip)
 (sRet (eTup (aCons (eGen2 dIx (eVar 2) (eC (.int 0))) (aCons (eGenA dTupOf (aCons (eGen2 dIx (eVar 2) (eC (.int 1))) aNil)) aNil))))))
def F_as_asked : Fn := runX 3 4 m_as_asked
def m_states_of : Sm :=
 (sSeq (sDrop (eCall F_check_book (aCons (eV (eVar 0)) aNil)))
 (sRet (eCall F_all_states (aCons (eV (eVar 0)) aNil))))
def F_states_of : Fn := runX 1 1 m_states_of
def m_moves_of : Sm :=
 (sSeq (sDrop (eCall F_check_book (aCons (eV (eVar 0)) aNil)))
 (sRet (eCall F_all_moves (aCons (eV (eVar 0)) aNil))))
def F_moves_of : Fn := runX 1 1 m_moves_of
def m_roots_of : Sm :=
 (sSeq (sDrop (eCall F_check_book (aCons (eV (eVar 0)) aNil)))
 (sRet (eCall F_all_roots (aCons (eV (eVar 0)) (aCons (eCall F_checked_start (aCons (eV (eVar 0)) (aCons (eV (eVar 1)) aNil))) aNil)))))
def F_roots_of : Fn := runX 2 2 m_roots_of
def m_checked_root : Sm :=
 (sSeq (sIf (eNot (eT (eCall F_is_root (aCons (eV (eVar 0)) (aCons (eV (eVar 1)) (aCons (eV (eVar 2)) aNil)))))) sBad sSkip)
 (sRet (eVar 2)))
def F_checked_root : Fn := runX 3 3 m_checked_root
def m_first_states : Sm :=
 (sSeq (sDrop (eCall F_check_book (aCons (eV (eVar 0)) aNil)))
 (sSeq (sSet 3 (eCall F_checked_start (aCons (eV (eVar 0)) (aCons (eV (eVar 1)) aNil))))
 (sRet (eCall F_first_states_of (aCons (eV (eVar 3)) (aCons (eCall F_checked_root (aCons (eV (eVar 0)) (aCons (eV (eVar 3)) (aCons (eV (eVar 2)) aNil)))) aNil))))))
def F_first_states : Fn := runX 3 4 m_first_states
def m_is_asked : Sm :=
 (sSeq (sDrop (eCall F_check_book (aCons (eV (eVar 0)) aNil)))
 (sRet (eOp dNotN (eCall F_as_asked (aCons (eV (eVar 0)) (aCons (eCall F_checked_start (aCons (eV (eVar 0)) (aCons (eV (eVar 1)) aNil))) (aCons (eV (eVar 2)) aNil)))) (eC .non))))
def F_is_asked : Fn := runX 3 3 m_is_asked
def m__law_well : Sm :=
 (sSeq (sSet 2 (eIf (eT (eOp dLt (eVar 1) (eCB dLen (aCons (eVar 0) aNil)))) (eGen2 dIx (eVar 0) (eVar 1)) (eGen2 dAdd (eGen2 dAdd (eOp dMod (eCB dInt (aCons (eCB dSum (aCons (eSl (eVar 0) mNoPart (mPart (eC (.int 1)))) aNil)) aNil)) (eC (.int 999983))) (eOp dMul (eC (.int 11)) (eVar 1))) (eC (.int 5)))))
 (sSeq (sSet 3 (eC (.int 0)))
 (sSeq (sFor (mEnum (eVar 0)) (gTupM [(putV 4), (putV 5)])
 (sSet 3 (eOp dMod (eCB dInt (aCons (eGen2 dAdd (eGen2 dAdd (eOp dMul (eVar 3) (eC (.int 131))) (eCB dAbs (aCons (eVar 5) aNil))) (eVar 4)) aNil)) (eC (.int 2147483629)))))
 (sRet (eFz (eLst (aCons (eIf (eT (eOp dGe (eVar 2) (eOp dPow (eC (.int 10)) (eC (.int 18))))) (eVar 2) (eC (.int 0))) (aCons (eGen2 dAdd (eOp dMod (eCB dInt (aCons (eGen2 dAdd (eCB dAbs (aCons (eVar 2) aNil)) (eOp dMul (eC (.int 31)) (eVar 3))) aNil)) (eC (.int 2147483629))) (eOp dMul (eC (.int 17)) (eVar 1))) (aCons (eC (.int 0)) aNil)))))))))
def F__law_well : Fn := runX 2 6 m__law_well
def m__law_draw : Sm :=
 (sSeq (sIf (eT (eOp dGt (eGen2 dIx (eVar 0) (eC (.int 0))) (eC (.int 0)))) (sSeq (sSet 3 (eOp dMod (eCB dInt (aCons (eGen2 dIx (eVar 0) (eC (.int 0))) aNil)) (eVar 1)))
 (sSeq (sSetIx 0 (eC (.int 0)) (eOp dDiv (eGen2 dIx (eVar 0) (eC (.int 0))) (eVar 1)))
 (sRet (eVar 3)))) sSkip)
 (sSeq (sSetIx 0 (eC (.int 2)) (eGen2 dAdd (eGen2 dIx (eVar 0) (eC (.int 2))) (eC (.int 1))))
 (sSeq (sSet 2 (eOp dMod (eOp dPow (eCB dInt (aCons (eGen2 dAdd (eGen2 dAdd (eGen2 dIx (eVar 0) (eC (.int 1))) (eOp dMul (eC (.int 8191)) (eGen2 dIx (eVar 0) (eC (.int 2))))) (eC (.int 65537))) aNil)) (eC (.int 5))) (eC (.int 2147483647))))
 (sRet (eOp dMod (eOp dDiv (eOp dMod (eCB dInt (aCons (eOp dMul (eGen2 dAdd (eVar 2) (eOp dMul (eC (.int 7)) (eGen2 dIx (eVar 0) (eC (.int 2))))) (eC (.int 48271))) aNil)) (eC (.int 2147483629))) (eC (.int 9))) (eVar 1))))))
def F__law_draw : Fn := runX 2 4 m__law_draw
def m__law_pick : Sm :=
 (sRet (eGen2 dIx (eVar 1) (eCall F__law_draw (aCons (eVar 0) (aCons (eCB dLen (aCons (eVar 1) aNil)) aNil)))))
def F__law_pick : Fn := runX 2 2 m__law_pick
def m__law_mixed : Sm :=
 (sSeq (sSetM 2 (eNew dList (aCons (eVar 1) aNil)))
 (sRet (eFz (eLc [3] (mRng1 (eCB dLen (aCons (eVar 2) aNil))) (putV 3) mYes (ePopAt 2 (eCall F__law_draw (aCons (eVar 0) (aCons (eCB dLen (aCons (eVar 2) aNil)) aNil))))))))
def F__law_mixed : Fn := runX 2 4 m__law_mixed
def m__law_same (R : Fn) : Sm :=
 (sSeq (sIf (eT (eIsT ["Book"] ["dict"] (eVar 1))) (sRet (eAndV (eIsT ["Book"] ["dict"] (eVar 0)) (eCall R (aCons (eFz (eItems (eVar 0))) (aCons (eFz (eItems (eVar 1))) aNil))))) sSkip)
 (sSeq (sIf (eT (eIsT ["Book"] ["list", "tuple"] (eVar 1))) (sSeq (sIf (eOr (eT (eOp dNe (eIsT ["Book"] ["list"] (eVar 0)) (eIsT ["Book"] ["list"] (eVar 1)))) (eT (eOp dNe (eIsT ["Book"] ["tuple"] (eVar 0)) (eIsT ["Book"] ["tuple"] (eVar 1))))) (sRet (eC (.bl false))) sSkip)
 (sRet (eAndV (eOp dEq (eCB dLen (aCons (eVar 0) aNil)) (eCB dLen (aCons (eVar 1) aNil))) (eCB dAll (aCons (eFz (eLc [2, 3] (mZip (eVar 0) (eVar 1)) (gTupM [(putV 2), (putV 3)]) mYes (eCall R (aCons (eV (eVar 2)) (aCons (eV (eVar 3)) aNil))))) aNil))))) sSkip)
 (sSeq (sIf (eOr (eT (eIsT ["Book"] ["dict", "list", "tuple"] (eVar 0))) (eT (eOp dNe (eIsT ["Book"] ["bool"] (eVar 0)) (eIsT ["Book"] ["bool"] (eVar 1))))) (sRet (eC (.bl false))) sSkip)
 (sRet (eOp dEq (eVar 0) (eVar 1))))))
def F__law_same : Nat → Fn
  | 0 => fun _ => .bad
  | n + 1 => runX 2 4 (m__law_same (F__law_same n))
def m__law_loose (R : Fn) : Sm :=
 (sSeq (sIf (eT (eIsT ["Book"] ["dict"] (eVar 1))) (sRet (eFz (eDict (eFz (eLc [4] (mSeq (eCall F__law_mixed (aCons (eVar 0) (aCons (eFz (eNew dList (aCons (eVar 1) aNil))) aNil)))) (putV 4) mYes (eTup (aCons (eV (eVar 4)) (aCons (eCall R (aCons (eVar 0) (aCons (eDGet (eVar 1) (eVar 4)) aNil))) aNil)))))))) sSkip)
 (sSeq (sIf (eNot (eT (eIsT ["Book"] ["list", "tuple"] (eVar 1)))) (sRet (eVar 1)) sSkip)
 (sSeq (sSetM 2 (eLc [3] (mSeq (eVar 1)) (putV 3) mYes (eCall R (aCons (eVar 0) (aCons (eV (eVar 3)) aNil)))))
 (sRet (eIf (eT (eOp dEq (eCall F__law_draw (aCons (eVar 0) (aCons (eC (.int 2)) aNil))) (eC (.int 0)))) (eVar 2) (eGenA dTupOf (aCons (eVar 2) aNil)))))))
def F__law_loose : Nat → Fn
  | 0 => fun _ => .bad
  | n + 1 => runX 2 5 (m__law_loose (F__law_loose n))
def m__law_m_names : Sm :=
 (sSeq (sSetM 2 (eLst (aCons (eC (.str "a")) (aCons (eC (.str "kek")) (aCons (eC (.str "knowm")) (aCons (eC (.str "knowz")) (aCons (eC (.str "knownn")) (aCons (eC (.str "z")) (aCons (eC (.str "data")) (aCons (eC (.str "wrap")) (aCons (eC (.str "own")) (aCons (eC (.str "r2")) (aCons (eC (.str "under")) (aCons (eC (.str "copy")) aNil))))))))))))))
 (sRet (eFz (eNew dSorted (aCons (eSl (eCall F__law_mixed (aCons (eVar 0) (aCons (eV (eVar 2)) aNil))) mNoPart (mPart (eVar 1))) aNil)))))
def F__law_m_names : Fn := runX 2 3 m__law_m_names
def m__law_m_ringed : Sm :=
 (sSeq (sAsg (eTup (aCons (eCall F__law_pick (aCons (eVar 0) (aCons (eV (eVar 2)) aNil))) (aCons (eCall F__law_mixed (aCons (eVar 0) (aCons (eV (eVar 1)) aNil))) aNil))) (gTupM [(putV 4), (putV 5)]))
 (sSeq (sParEM 6 7 (eCall F__law_draw (aCons (eVar 0) (aCons (eCB dLen (aCons (eVar 1) aNil)) aNil))) (eLst aNil))
 (sSeq (sFor (mSeq (eFz (eLst (aCons (eSl (eVar 5) mNoPart (mPart (eVar 6))) (aCons (eSl (eVar 5) (mPart (eVar 6)) mNoPart) aNil))))) (putV 3)
 (sDrop (eExt 7 (eFz (eLc [8, 9] (mEnum (eVar 3)) (gTupM [(putV 8), (putV 9)]) mYes (eTup (aCons (eC (.str "derive")) (aCons (eV (eVar 9)) (aCons (eV (eVar 4)) (aCons (eGen2 dIx (eVar 3) (eOp dMod (eGen2 dAdd (eVar 8) (eC (.int 1))) (eCB dLen (aCons (eVar 3) aNil)))) aNil))))))))))
 (sRet (eVar 7)))))
def F__law_m_ringed : Fn := runX 3 10 m__law_m_ringed
def m__law_m_permit : Sm :=
 (sSeq (sPar3 4 5 6 (eCall F__law_pick (aCons (eVar 0) (aCons (eV (eVar 3)) aNil))) (eCall F__law_pick (aCons (eVar 0) (aCons (eV (eVar 1)) aNil))) (eCall F__law_pick (aCons (eVar 0) (aCons (eV (eVar 1)) aNil))))
 (sSeq (sIf (eT (eOp dEq (eVar 4) (eC (.str "derive")))) (sRet (eIf (eT (eOp dNe (eVar 2) (eFz (eLst aNil)))) (eTup (aCons (eC (.str "derive")) (aCons (eV (eVar 5)) (aCons (eCall F__law_pick (aCons (eVar 0) (aCons (eV (eVar 2)) aNil))) (aCons (eV (eVar 6)) aNil))))) (eTup (aCons (eC (.str "make")) (aCons (eV (eVar 5)) aNil))))) sSkip)
 (sRet (eIf (eT (eOp dIn (eVar 4) (eTup (aCons (eC (.str "make")) (aCons (eC (.str "bring")) (aCons (eC (.str "show")) (aCons (eC (.str "seal")) (aCons (eC (.str "open")) aNil)))))))) (eTup (aCons (eV (eVar 4)) (aCons (eV (eVar 5)) aNil))) (eTup (aCons (eV (eVar 4)) (aCons (eV (eVar 5)) (aCons (eV (eVar 6)) aNil))))))))
def F__law_m_permit : Fn := runX 4 7 m__law_m_permit
def m__law_m_book : Sm :=
 (sSeq (sParEM 5 6 (eCall F__law_m_names (aCons (eVar 0) (aCons (eGen2 dAdd (eC (.int 1)) (eCall F__law_draw (aCons (eVar 0) (aCons (eC (.int 6)) aNil)))) aNil))) (eLst aNil))
 (sSeq (sSetM 2 (eNew dSorted (aCons (eSl (eCall F__law_mixed (aCons (eVar 0) (aCons (eFz (eLst (aCons (eC (.str "x")) (aCons (eC (.str "y")) (aCons (eC (.str "known")) (aCons (eC (.str "l9")) aNil)))))) aNil))) mNoPart (mPart (eCall F__law_pick (aCons (eVar 0) (aCons (eFz (eLst (aCons (eC (.int 0)) (aCons (eC (.int 1)) (aCons (eC (.int 1)) (aCons (eC (.int 1)) (aCons (eC (.int 2)) (aCons (eC (.int 2)) (aCons (eC (.int 3)) aNil))))))))) aNil))))) aNil)))
 (sSeq (sSetM 3 (eLst (aCons (eC (.str "make")) (aCons (eC (.str "make")) (aCons (eC (.str "bring")) (aCons (eC (.str "show")) (aCons (eC (.str "copy")) (aCons (eC (.str "wrap")) (aCons (eC (.str "wrap")) (aCons (eC (.str "unwrap")) (aCons (eC (.str "unwrap")) (aCons (eC (.str "seal")) (aCons (eC (.str "open")) (aCons (eC (.str "derive")) (aCons (eC (.str "derive")) aNil)))))))))))))))
 (sSeq (sIf (eAnd (eT (eOp dNe (eVar 2) (eFz (eLst aNil)))) (eT (eOp dEq (eCall F__law_draw (aCons (eVar 0) (aCons (eC (.int 2)) aNil))) (eC (.int 0))))) (sDrop (eExt 6 (eCall F__law_m_ringed (aCons (eVar 0) (aCons (eV (eVar 5)) (aCons (eV (eVar 2)) aNil)))))) sSkip)
 (sSeq (sFor (mRng1 (eVar 1)) (putV 4)
 (sSeq (sSet 7 (eCall F__law_m_permit (aCons (eVar 0) (aCons (eV (eVar 5)) (aCons (eV (eVar 2)) (aCons (eV (eVar 3)) aNil))))))
 (sDrop (eExt 6 (eFz (Uw.M.bind (eT (eOp dNotIn (eVar 7) (eVar 6))) fun b => if b = true then (eLst (aCons (eV (eVar 7)) aNil)) else (eLst aNil)))))))
 (sRet (eTup (aCons (eV (eVar 5)) (aCons (eV (eVar 2)) (aCons (eFz (eNew dSorted (aCons (eVar 6) aNil))) aNil))))))))))
def F__law_m_book : Fn := runX 2 8 m__law_m_book
def m__law_m_start : Sm :=
 (sSeq (sSetM 2 (eLst aNil))
 (sSeq (sFor (mRng1 (eCall F__law_draw (aCons (eVar 0) (aCons (eC (.int 5)) aNil)))) (putV 3)
 (sDrop (eApp 2 (eFz (eNew dSorted (aCons (eSl (eCall F__law_mixed (aCons (eVar 0) (aCons (eGen2 dIx (eVar 1) (eC (.int 0))) aNil))) mNoPart (mPart (eCall F__law_pick (aCons (eVar 0) (aCons (eFz (eLst (aCons (eC (.int 0)) (aCons (eC (.int 1)) (aCons (eC (.int 1)) (aCons (eC (.int 2)) (aCons (eC (.int 3)) aNil))))))) aNil))))) aNil))))))
 (sRet (eVar 2))))
def F__law_m_start : Fn := runX 2 4 m__law_m_start
def m__law_m_passed : Sm :=
 (sRet (eFz (eLc [2] (mSeq (eVar 1)) (putV 2) mYes (eCall (F__law_loose 8) (aCons (eVar 0) (aCons (eCall F__law_mixed (aCons (eVar 0) (aCons (eV (eVar 2)) aNil))) aNil))))))
def F__law_m_passed : Fn := runX 2 3 m__law_m_passed
def m__law_m_states : Sm :=
 (sRet (eFz (eNew dSorted (aCons (eGen2 dAdd (eGen2 dIx (eVar 0) (eC (.int 0))) (eFz (eLst (aCons (eC (.str "known")) aNil)))) aNil))))
def F__law_m_states : Fn := runX 1 1 m__law_m_states
def m__law_m_moves : Sm :=
 (sSeq (sSetM 1 (eLc [2] (mSeq (eGen2 dIx (eVar 0) (eC (.int 1)))) (putV 2) mYes (eTup (aCons (eV (eVar 2)) (aCons (eV (eVar 2)) aNil)))))
 (sRet (eFz (eNew dSorted (aCons (eGen2 dAdd (eFz (eLc [3] (mSeq (eGen2 dIx (eVar 0) (eC (.int 2)))) (putV 3) (eT (eOp dEq (eGen2 dIx (eVar 3) (eC (.int 0))) (eC (.str "derive")))) (eSl (eVar 3) (mPart (eC (.int 1))) mNoPart))) (eFz (eLc [2, 4] (mSeq (eVar 1)) (gTupM [(putV 2), (putV 4)]) mYes (eTup (aCons (eC (.str "known")) (aCons (eV (eVar 2)) (aCons (eC (.str "known")) aNil))))))) aNil)))))
def F__law_m_moves : Fn := runX 1 5 m__law_m_moves
def m__law_m_roots : Sm :=
 (sSeq (sSetM 2 (eLc [3] (mSeq (eCall F__law_m_states (aCons (eV (eVar 0)) aNil))) (putV 3) (eOr (eT (eOp dEq (eVar 3) (eC (.str "known")))) (eT (eOp dIn (eTup (aCons (eC (.str "make")) (aCons (eV (eVar 3)) aNil))) (eGen2 dIx (eVar 0) (eC (.int 2)))))) (eV (eVar 3))))
 (sRet (eGen2 dAdd (eFz (eLc [4, 5] (mEnum (eVar 1)) (gTupM [(putV 4), (putV 5)]) mYes (eTup (aCons (eV (eVar 4)) (aCons (eFz (eNew dList (aCons (eVar 5) aNil))) aNil))))) (eFz (eLc [3] (mSeq (eVar 2)) (putV 3) mYes (eTup (aCons (eV (eVar 3)) (aCons (eFz (eLst (aCons (eV (eVar 3)) aNil))) aNil))))))))
def F__law_m_roots : Fn := runX 2 6 m__law_m_roots
def m__law_is_asked : Sm :=
 (sSeq (sIf (eOr (eNot (eT (eIsT ["Book"] ["list", "tuple"] (eVar 2)))) (eOr (eT (eOp dNe (eCB dLen (aCons (eVar 2) aNil)) (eC (.int 2)))) (eNot (eT (eIsT ["Book"] ["list", "tuple"] (eGen2 dIx (eVar 2) (eC (.int 1)))))))) (sRet (eC (.bl false))) sSkip)
 (sSeq (sAsg (eVar 2) (gTupM [(putV 3), (putV 4)]))
 (sSeq (sIf (eT (eIsT ["Book"] ["str"] (eVar 3))) (sSet 5 (eOrV (eOp dEq (eVar 3) (eC (.str "known"))) (eOp dIn (eTup (aCons (eC (.str "make")) (aCons (eV (eVar 3)) aNil))) (eGen2 dIx (eVar 0) (eC (.int 2)))))) (sSet 5 (eAndV (eIsT ["Book"] ["int"] (eVar 3)) (eAndV (eNotV (eIsT ["Book"] ["bool"] (eVar 3))) (eChain dLe dLt (eC (.int 0)) (eVar 3) (eCB dLen (aCons (eVar 1) aNil)))))))
 (sRet (eAndV (eVar 5) (eCB dAll (aCons (eFz (eLc [6] (mSeq (eVar 4)) (putV 6) mYes (eAndV (eIsT ["Book"] ["str"] (eVar 6)) (eOp dIn (eVar 6) (eGen2 dIx (eVar 0) (eC (.int 1))))))) aNil)))))))
def F__law_is_asked : Fn := runX 3 7 m__law_is_asked
def m__law_near : Sm :=
 (sSeq (sSetM 3 (eLc [8, 10] (mSeq (eCall F__law_m_roots (aCons (eV (eVar 1)) (aCons (eV (eVar 2)) aNil)))) (gTupM [(putV 8), (putV 10)]) mYes (eV (eVar 8))))
 (sSeq (sParEE 8 9 (eCall F__law_pick (aCons (eVar 0) (aCons (eV (eVar 3)) aNil))) (eGenA dTupOf (aCons (eFz (eLc [11] (mRng1 (eIf (eTru (eGen2 dIx (eVar 1) (eC (.int 1)))) (eCall F__law_draw (aCons (eVar 0) (aCons (eC (.int 10)) aNil))) (eC (.int 0)))) (putV 11) mYes (eCall F__law_pick (aCons (eVar 0) (aCons (eGen2 dIx (eVar 1) (eC (.int 1))) aNil))))) aNil)))
 (sSeq (sSet 4 (eGen2 dAdd (eGen2 dIx (eVar 1) (eC (.int 0))) (eFz (eLst (aCons (eCB dLen (aCons (eVar 2) aNil)) (aCons (eUn dNeg (eC (.int 1))) (aCons (eC (.bl true)) (aCons (eC (.bl false)) (aCons (eC .non) (aCons (eC (.str "")) (aCons (eC (.str "Known")) (aCons (eTup (aCons (eV (eVar 8)) aNil)) (aCons (eOp dPow (eC (.int 10)) (eC (.int 30))) (aCons (eC (.str "0")) (aCons (eGen2 dAdd (eGen2 dIx (eGen2 dIx (eVar 1) (eC (.int 0))) (eC (.int 0))) (eC (.str "q"))) aNil)))))))))))))))
 (sSeq (sSetM 5 (eLst (aCons (eTup (aCons (eV (eVar 8)) (aCons (eV (eVar 9)) aNil))) (aCons (eTup (aCons (eCall F__law_pick (aCons (eVar 0) (aCons (eV (eVar 4)) aNil))) (aCons (eV (eVar 9)) aNil))) (aCons (eTup (aCons (eCall F__law_pick (aCons (eVar 0) (aCons (eV (eVar 4)) aNil))) (aCons (eV (eVar 9)) aNil))) (aCons (eTup (aCons (eV (eVar 8)) (aCons (eTup aNil) aNil))) (aCons (eV (eVar 8)) (aCons (eTup (aCons (eV (eVar 8)) aNil)) aNil))))))))
 (sSeq (sSet 6 (eCall F__law_pick (aCons (eVar 0) (aCons (eFz (eLst (aCons (eC (.int 0)) (aCons (eC .non) (aCons (eC (.bl true)) (aCons (eC (.str "")) (aCons (eC (.str "q7")) (aCons (eTup (aCons (eC (.str "x")) aNil)) (aCons (eC (.str "known")) (aCons (eC (.str "x")) aNil)))))))))) aNil))))
 (sSeq (sSet 7 (eCall F__law_draw (aCons (eVar 0) (aCons (eGen2 dAdd (eCB dLen (aCons (eVar 9) aNil)) (eC (.int 1))) aNil))))
 (sSeq (sDrop (eExt 5 (eFz (eLst (aCons (eTup (aCons (eV (eVar 8)) (aCons (eGen2 dAdd (eGen2 dAdd (eSl (eVar 9) mNoPart (mPart (eVar 7))) (eTup (aCons (eV (eVar 6)) aNil))) (eSl (eVar 9) (mPart (eVar 7)) mNoPart)) aNil))) (aCons (eTup (aCons (eV (eVar 8)) (aCons (eC (.str "x")) aNil))) (aCons (eTup (aCons (eV (eVar 8)) (aCons (eC (.str "")) aNil))) (aCons (eTup (aCons (eV (eVar 8)) (aCons (eC .non) aNil))) (aCons (eTup (aCons (eV (eVar 8)) (aCons (eV (eVar 9)) (aCons (eV (eVar 9)) aNil)))) aNil)))))))))
 (sRet (eGen2 dAdd (eVar 5) (eFz (eLst (aCons (eC .non) (aCons (eFz eDNew) (aCons (eFz (eLst aNil)) (aCons (eC (.int 7)) (aCons (eC (.str "known")) (aCons (eTup (aCons (eV (eVar 9)) (aCons (eV (eVar 8)) aNil))) (aCons (eTup (aCons (eC (.str "known")) (aCons (eV (eVar 9)) aNil))) (aCons (eFz (eDOne (eVar 8) (eVar 9))) aNil)))))))))))))))))))
def F__law_near : Fn := runX 3 12 m__law_near
def m__law_asked_right : Sm :=
 (sSeq (sFor (mSeq (eCall F__law_near (aCons (eVar 0) (aCons (eV (eVar 1)) (aCons (eV (eVar 2)) aNil))))) (putV 4)
 (sSeq (sParEE 6 7 (eCall (F__law_loose 8) (aCons (eVar 0) (aCons (eV (eVar 4)) aNil))) (eCall (F__law_loose 8) (aCons (eVar 0) (aCons (eV (eVar 2)) aNil))))
 (sSeq (sParEE 8 9 (eCB dRepr (aCons (eFz (eLst (aCons (eV (eVar 6)) (aCons (eV (eVar 7)) aNil)))) aNil)) (eCall F__law_is_asked (aCons (eV (eVar 1)) (aCons (eV (eVar 2)) (aCons (eV (eVar 4)) aNil)))))
 (sSeq (sSetM 5 (eLst (aCons (eCall F_is_asked (aCons (eV (eVar 3)) (aCons (eV (eVar 7)) (aCons (eV (eVar 6)) aNil)))) (aCons (eCall F_is_asked (aPick [2, 1, 0] 3 (aCons (eV (eVar 6)) (aCons (eV (eVar 7)) (aCons (eV (eVar 3)) aNil))))) aNil))))
 (sIf (eOr (eNot (eT (eCall (F__law_same 8) (aCons (eV (eVar 5)) (aCons (eFz (eLst (aCons (eV (eVar 9)) (aCons (eV (eVar 9)) aNil)))) aNil))))) (eT (eOp dNe (eCB dRepr (aCons (eFz (eLst (aCons (eV (eVar 6)) (aCons (eV (eVar 7)) aNil)))) aNil)) (eVar 8)))) (sRet (eC (.bl false))) sSkip)))))
 (sRet (eOp dIsN (eCall F_is_asked (aCons (eV (eVar 3)) (aCons (eV (eVar 2)) (aCons (eV (eVar 3)) aNil)))) (eC (.bl false)))))
def F__law_asked_right : Fn := runX 4 10 m__law_asked_right
def m__law_told_right : Sm :=
 (sSeq (sAsg (eTup (aCons (eCall (F__law_loose 8) (aCons (eVar 0) (aCons (eV (eVar 2)) aNil))) (aCons (eCall F__law_m_roots (aCons (eV (eVar 1)) (aCons (eV (eVar 2)) aNil))) aNil))) (gTupM [(putV 7), (putV 8)]))
 (sSeq (sParEM 9 10 (eCB dRepr (aCons (eVar 7) aNil)) (eLst (aCons (eCall F__law_m_states (aCons (eV (eVar 1)) aNil)) (aCons (eCall F__law_m_moves (aCons (eV (eVar 1)) aNil)) (aCons (eFz (eLc [11, 12] (mSeq (eVar 8)) (gTupM [(putV 11), (putV 12)]) mYes (eV (eVar 11)))) aNil)))))
 (sSeq (sFor (mRng1 (eC (.int 2))) (putV 4)
 (sEpoch [1, 2, 3, 4, 5, 6, 7, 8, 9, 10, 11, 12] (sSeq (sSetM 5 (eLst (aCons (eCall F_states_of (aCons (eV (eVar 3)) aNil)) (aCons (eCall F_moves_of (aPick [0] 1 (aCons (eV (eVar 3)) aNil))) (aCons (eCall F_roots_of (aCons (eV (eVar 3)) (aCons (eV (eVar 7)) aNil))) aNil)))))
 (sSeq (sSetM 6 (eLc [11, 12] (mSeq (eVar 8)) (gTupM [(putV 11), (putV 12)]) mYes (eCall F_first_states (aCons (eV (eVar 3)) (aCons (eV (eVar 7)) (aCons (eV (eVar 11)) aNil))))))
 (sSeq (sIf (eOr (eNot (eT (eCall (F__law_same 8) (aCons (eV (eVar 5)) (aCons (eV (eVar 10)) aNil))))) (eOr (eNot (eT (eCall (F__law_same 8) (aCons (eV (eVar 6)) (aCons (eFz (eLc [11, 12] (mSeq (eVar 8)) (gTupM [(putV 11), (putV 12)]) mYes (eV (eVar 12)))) aNil))))) (eT (eOp dNe (eCB dRepr (aCons (eVar 7) aNil)) (eVar 9))))) (sRet (eC (.bl false))) sSkip)
 (sSpoil 8 (eFz (eLst (aCons (eV (eVar 5)) (aCons (eV (eVar 6)) aNil))))))))))
 (sSeq (sSetM 5 (eLst (aCons (eCall F_states_of (aPick [0] 1 (aCons (eV (eVar 3)) aNil))) (aCons (eCall F_moves_of (aCons (eV (eVar 3)) aNil)) (aCons (eCall F_roots_of (aPick [1, 0] 2 (aCons (eV (eVar 7)) (aCons (eV (eVar 3)) aNil)))) aNil)))))
 (sSeq (sSetM 6 (eLc [11, 12] (mSeq (eVar 8)) (gTupM [(putV 11), (putV 12)]) mYes (eCall F_first_states (aPick [2, 1, 0] 3 (aCons (eV (eVar 11)) (aCons (eV (eVar 2)) (aCons (eV (eVar 3)) aNil)))))))
 (sRet (eAndV (eCall (F__law_same 8) (aCons (eV (eVar 5)) (aCons (eV (eVar 10)) aNil))) (eCall (F__law_same 8) (aCons (eV (eVar 6)) (aCons (eFz (eLc [11, 12] (mSeq (eVar 8)) (gTupM [(putV 11), (putV 12)]) mYes (eV (eVar 12)))) aNil))))))))))
def F__law_told_right : Fn := runX 4 13 m__law_told_right
def m_Book_init : Sm :=
 (sSeq (sDrop (eCall F_check_roles (aCons (eV (eVar 1)) aNil)))
 (sSeq (sDrop (eCall F_check_labels (aCons (eV (eVar 2)) aNil)))
 (sSeq (sAsg (eFz (eNew dSorted (aCons (eCall F_checked_permits (aCons (eV (eVar 1)) (aCons (eV (eVar 2)) (aCons (eV (eVar 3)) aNil)))) aNil))) (gFldM 0 "Book" "own_permits"))
 (sAsg (eTup (aCons (eFz (eNew dSorted (aCons (eVar 1) aNil))) (aCons (eFz (eNew dSorted (aCons (eVar 2) aNil))) aNil))) (gTupM [(gFldM 0 "Book" "own_roles"), (gFldM 0 "Book" "own_labels")])))))
def F_Book_init : Fn := runX 4 4 m_Book_init
def m_law : Sm :=
 (sSeq (sFor (mRng1 (eC (.int 3))) (putV 1)
 (sSeq (sSetM 2 (eCallN F__law_well (aCons (eV (eVar 0)) (aCons (eV (eVar 1)) aNil))))
 (sFor (mRng1 (eC (.int 4))) (putV 3)
 (sSeq (sSet 4 (eCall F__law_m_book (aCons (eVar 2) (aCons (eCall F__law_draw (aCons (eVar 2) (aCons (eC (.int 22)) aNil))) aNil))))
 (sSeq (sParEE 7 8 (eCall F__law_m_start (aCons (eVar 2) (aCons (eV (eVar 4)) aNil))) (eCall F__law_m_passed (aCons (eVar 2) (aCons (eV (eVar 4)) aNil))))
 (sSeq (sSet 5 (eFz (eMake "Book" F_Book_init (aCons (eGen2 dIx (eVar 8) (eC (.int 0))) (aCons (eGen2 dIx (eVar 8) (eC (.int 1))) (aCons (eGen2 dIx (eVar 8) (eC (.int 2))) aNil))))))
 (sFor (mSeq (eTup (aCons (eV (eVar 7)) (aCons (eCall F__law_m_start (aCons (eVar 2) (aCons (eV (eVar 4)) aNil))) (aCons (eV (eVar 7)) aNil))))) (putV 6)
 (sIf (eOr (eNot (eT (eCall F__law_told_right (aCons (eVar 2) (aCons (eV (eVar 4)) (aCons (eV (eVar 6)) (aCons (eV (eVar 5)) aNil))))))) (eNot (eT (eCall F__law_asked_right (aCons (eVar 2) (aCons (eV (eVar 4)) (aCons (eV (eVar 6)) (aCons (eV (eVar 5)) aNil)))))))) (sRet (eC (.bl false))) sSkip))))))))
 (sRet (eC (.bl true))))
def F_law : Fn := runX 1 9 m_law
/-! ### what is asked of the head -/
structure Env (w : World) (K : PySem.W.Frag) (mg : Str → Option Value) : Prop where
  d_is_integer : ∃ fd, FunD K "is_integer" "is_integer" (defArgs s_is_integer) (defBody s_is_integer) (defScope s_is_integer) [] [] (He.fAd K ("is_integer", none)) fd
  d_is_number : ∃ fd, FunD K "is_number" "is_number" (defArgs s_is_number) (defBody s_is_number) (defScope s_is_number) [] [] (He.fAd K ("is_number", none)) fd
  d_is_list : ∃ fd, FunD K "is_list" "is_list" (defArgs s_is_list) (defBody s_is_list) (defScope s_is_list) [] [] (He.fAd K ("is_list", none)) fd
  d_is_name : ∃ fd, FunD K "is_name" "is_name" (defArgs s_is_name) (defBody s_is_name) (defScope s_is_name) [] [] (He.fAd K ("is_name", none)) fd
  d_are_names : ∃ fd, FunD K "are_names" "are_names" (defArgs s_are_names) (defBody s_are_names) (defScope s_are_names) [] [] (He.fAd K ("are_names", none)) fd
  d_check_roles : ∃ fd, FunD K "check_roles" "check_roles" (defArgs s_check_roles) (defBody s_check_roles) (defScope s_check_roles) [] [] (He.fAd K ("check_roles", none)) fd
  d_check_labels : ∃ fd, FunD K "check_labels" "check_labels" (defArgs s_check_labels) (defBody s_check_labels) (defScope s_check_labels) [] [] (He.fAd K ("check_labels", none)) fd
  d_is_one : ∃ fd, FunD K "is_one" "is_one" (defArgs s_is_one) (defBody s_is_one) (defScope s_is_one) [] [] (He.fAd K ("is_one", none)) fd
  d_checked_permits : ∃ fd, FunD K "checked_permits" "checked_permits" (defArgs s_checked_permits) (defBody s_checked_permits) (defScope s_checked_permits) [] [] (He.fAd K ("checked_permits", none)) fd
  d_check_book : ∃ fd, FunD K "check_book" "check_book" (defArgs s_check_book) (defBody s_check_book) (defScope s_check_book) [] [] (He.fAd K ("check_book", none)) fd
  d_are_roles : ∃ fd, FunD K "are_roles" "are_roles" (defArgs s_are_roles) (defBody s_are_roles) (defScope s_are_roles) [] [] (He.fAd K ("are_roles", none)) fd
  d_checked_start : ∃ fd, FunD K "checked_start" "checked_start" (defArgs s_checked_start) (defBody s_checked_start) (defScope s_checked_start) [] [] (He.fAd K ("checked_start", none)) fd
  d_all_states : ∃ fd, FunD K "all_states" "all_states" (defArgs s_all_states) (defBody s_all_states) (defScope s_all_states) [] [] (He.fAd K ("all_states", none)) fd
  d_all_moves : ∃ fd, FunD K "all_moves" "all_moves" (defArgs s_all_moves) (defBody s_all_moves) (defScope s_all_moves) [] [] (He.fAd K ("all_moves", none)) fd
  d_is_root : ∃ fd, FunD K "is_root" "is_root" (defArgs s_is_root) (defBody s_is_root) (defScope s_is_root) [] [] (He.fAd K ("is_root", none)) fd
  d_all_roots : ∃ fd, FunD K "all_roots" "all_roots" (defArgs s_all_roots) (defBody s_all_roots) (defScope s_all_roots) [] [] (He.fAd K ("all_roots", none)) fd
  d_first_states_of : ∃ fd, FunD K "first_states_of" "first_states_of" (defArgs s_first_states_of) (defBody s_first_states_of) (defScope s_first_states_of) [] [] (He.fAd K ("first_states_of", none)) fd
  d_as_asked : ∃ fd, FunD K "as_asked" "as_asked" (defArgs s_as_asked) (defBody s_as_asked) (defScope s_as_asked) [] [] (He.fAd K ("as_asked", none)) fd
  d_states_of : ∃ fd, FunD K "states_of" "states_of" (defArgs s_states_of) (defBody s_states_of) (defScope s_states_of) [] [] (He.fAd K ("states_of", none)) fd
  d_moves_of : ∃ fd, FunD K "moves_of" "moves_of" (defArgs s_moves_of) (defBody s_moves_of) (defScope s_moves_of) [] [] (He.fAd K ("moves_of", none)) fd
  d_roots_of : ∃ fd, FunD K "roots_of" "roots_of" (defArgs s_roots_of) (defBody s_roots_of) (defScope s_roots_of) [] [] (He.fAd K ("roots_of", none)) fd
  d_checked_root : ∃ fd, FunD K "checked_root" "checked_root" (defArgs s_checked_root) (defBody s_checked_root) (defScope s_checked_root) [] [] (He.fAd K ("checked_root", none)) fd
  d_first_states : ∃ fd, FunD K "first_states" "first_states" (defArgs s_first_states) (defBody s_first_states) (defScope s_first_states) [] [] (He.fAd K ("first_states", none)) fd
  d_is_asked : ∃ fd, FunD K "is_asked" "is_asked" (defArgs s_is_asked) (defBody s_is_asked) (defScope s_is_asked) [] [] (He.fAd K ("is_asked", none)) fd
  d__law_well : ∃ fd, FunD K "_law_well" "_law_well" (defArgs s__law_well) (defBody s__law_well) (defScope s__law_well) [] [] (He.fAd K ("_law_well", none)) fd
  d__law_draw : ∃ fd, FunD K "_law_draw" "_law_draw" (defArgs s__law_draw) (defBody s__law_draw) (defScope s__law_draw) [] [] (He.fAd K ("_law_draw", none)) fd
  d__law_pick : ∃ fd, FunD K "_law_pick" "_law_pick" (defArgs s__law_pick) (defBody s__law_pick) (defScope s__law_pick) [] [] (He.fAd K ("_law_pick", none)) fd
  d__law_mixed : ∃ fd, FunD K "_law_mixed" "_law_mixed" (defArgs s__law_mixed) (defBody s__law_mixed) (defScope s__law_mixed) [] [] (He.fAd K ("_law_mixed", none)) fd
  d__law_same : ∃ fd, FunD K "_law_same" "_law_same" (defArgs s__law_same) (defBody s__law_same) (defScope s__law_same) [] [] (He.fAd K ("_law_same", none)) fd
  d__law_loose : ∃ fd, FunD K "_law_loose" "_law_loose" (defArgs s__law_loose) (defBody s__law_loose) (defScope s__law_loose) [] [] (He.fAd K ("_law_loose", none)) fd
  d__law_m_names : ∃ fd, FunD K "_law_m_names" "_law_m_names" (defArgs s__law_m_names) (defBody s__law_m_names) (defScope s__law_m_names) [] [] (He.fAd K ("_law_m_names", none)) fd
  d__law_m_ringed : ∃ fd, FunD K "_law_m_ringed" "_law_m_ringed" (defArgs s__law_m_ringed) (defBody s__law_m_ringed) (defScope s__law_m_ringed) [] [] (He.fAd K ("_law_m_ringed", none)) fd
  d__law_m_permit : ∃ fd, FunD K "_law_m_permit" "_law_m_permit" (defArgs s__law_m_permit) (defBody s__law_m_permit) (defScope s__law_m_permit) [] [] (He.fAd K ("_law_m_permit", none)) fd
  d__law_m_book : ∃ fd, FunD K "_law_m_book" "_law_m_book" (defArgs s__law_m_book) (defBody s__law_m_book) (defScope s__law_m_book) [] [] (He.fAd K ("_law_m_book", none)) fd
  d__law_m_start : ∃ fd, FunD K "_law_m_start" "_law_m_start" (defArgs s__law_m_start) (defBody s__law_m_start) (defScope s__law_m_start) [] [] (He.fAd K ("_law_m_start", none)) fd
  d__law_m_passed : ∃ fd, FunD K "_law_m_passed" "_law_m_passed" (defArgs s__law_m_passed) (defBody s__law_m_passed) (defScope s__law_m_passed) [] [] (He.fAd K ("_law_m_passed", none)) fd
  d__law_m_states : ∃ fd, FunD K "_law_m_states" "_law_m_states" (defArgs s__law_m_states) (defBody s__law_m_states) (defScope s__law_m_states) [] [] (He.fAd K ("_law_m_states", none)) fd
  d__law_m_moves : ∃ fd, FunD K "_law_m_moves" "_law_m_moves" (defArgs s__law_m_moves) (defBody s__law_m_moves) (defScope s__law_m_moves) [] [] (He.fAd K ("_law_m_moves", none)) fd
  d__law_m_roots : ∃ fd, FunD K "_law_m_roots" "_law_m_roots" (defArgs s__law_m_roots) (defBody s__law_m_roots) (defScope s__law_m_roots) [] [] (He.fAd K ("_law_m_roots", none)) fd
  d__law_is_asked : ∃ fd, FunD K "_law_is_asked" "_law_is_asked" (defArgs s__law_is_asked) (defBody s__law_is_asked) (defScope s__law_is_asked) [] [] (He.fAd K ("_law_is_asked", none)) fd
  d__law_near : ∃ fd, FunD K "_law_near" "_law_near" (defArgs s__law_near) (defBody s__law_near) (defScope s__law_near) [] [] (He.fAd K ("_law_near", none)) fd
  d__law_asked_right : ∃ fd, FunD K "_law_asked_right" "_law_asked_right" (defArgs s__law_asked_right) (defBody s__law_asked_right) (defScope s__law_asked_right) [] [] (He.fAd K ("_law_asked_right", none)) fd
  d__law_told_right : ∃ fd, FunD K "_law_told_right" "_law_told_right" (defArgs s__law_told_right) (defBody s__law_told_right) (defScope s__law_told_right) [] [] (He.fAd K ("_law_told_right", none)) fd
  d_Book_init : ∃ fd, FunD K "__init__" "Book.__init__" (defArgs s_Book_init) (defBody s_Book_init) (defScope s_Book_init) [] [] (He.fAd K ("Book", some "__init__")) fd
  d_law : ∃ fd, FunD K "law" "law" (defArgs s_law) (defBody s_law) (defScope s_law) [] [] (He.fAd K ("law", none)) fd
  d__law_spoiled : ∃ fd, FunD K "_law_spoiled" "_law_spoiled" (defArgs s__law_spoiled) (defBody s__law_spoiled) (defScope s__law_spoiled) [] [] (He.fAd K ("_law_spoiled", none)) fd
  f_Book_own_labels : NoAttr K (He.ga K "Book") "own_labels"
  f_Book_own_permits : NoAttr K (He.ga K "Book") "own_permits"
  f_Book_own_roles : NoAttr K (He.ga K "Book") "own_roles"
  g_Book : mg "Book" = some (.ref (He.ga K "Book"))
  g_SHAPES : mg "SHAPES" = some (.ref (He.ga K "SHAPES"))
  g__law_asked_right : mg "_law_asked_right" = some (.ref (He.ga K "_law_asked_right"))
  g__law_draw : mg "_law_draw" = some (.ref (He.ga K "_law_draw"))
  g__law_is_asked : mg "_law_is_asked" = some (.ref (He.ga K "_law_is_asked"))
  g__law_loose : mg "_law_loose" = some (.ref (He.ga K "_law_loose"))
  g__law_m_book : mg "_law_m_book" = some (.ref (He.ga K "_law_m_book"))
  g__law_m_moves : mg "_law_m_moves" = some (.ref (He.ga K "_law_m_moves"))
  g__law_m_names : mg "_law_m_names" = some (.ref (He.ga K "_law_m_names"))
  g__law_m_passed : mg "_law_m_passed" = some (.ref (He.ga K "_law_m_passed"))
  g__law_m_permit : mg "_law_m_permit" = some (.ref (He.ga K "_law_m_permit"))
  g__law_m_ringed : mg "_law_m_ringed" = some (.ref (He.ga K "_law_m_ringed"))
  g__law_m_roots : mg "_law_m_roots" = some (.ref (He.ga K "_law_m_roots"))
  g__law_m_start : mg "_law_m_start" = some (.ref (He.ga K "_law_m_start"))
  g__law_m_states : mg "_law_m_states" = some (.ref (He.ga K "_law_m_states"))
  g__law_mixed : mg "_law_mixed" = some (.ref (He.ga K "_law_mixed"))
  g__law_near : mg "_law_near" = some (.ref (He.ga K "_law_near"))
  g__law_pick : mg "_law_pick" = some (.ref (He.ga K "_law_pick"))
  g__law_same : mg "_law_same" = some (.ref (He.ga K "_law_same"))
  g__law_spoiled : mg "_law_spoiled" = some (.ref (He.ga K "_law_spoiled"))
  g__law_told_right : mg "_law_told_right" = some (.ref (He.ga K "_law_told_right"))
  g__law_well : mg "_law_well" = some (.ref (He.ga K "_law_well"))
  g_all_moves : mg "all_moves" = some (.ref (He.ga K "all_moves"))
  g_all_roots : mg "all_roots" = some (.ref (He.ga K "all_roots"))
  g_all_states : mg "all_states" = some (.ref (He.ga K "all_states"))
  g_are_names : mg "are_names" = some (.ref (He.ga K "are_names"))
  g_are_roles : mg "are_roles" = some (.ref (He.ga K "are_roles"))
  g_as_asked : mg "as_asked" = some (.ref (He.ga K "as_asked"))
  g_check_book : mg "check_book" = some (.ref (He.ga K "check_book"))
  g_check_labels : mg "check_labels" = some (.ref (He.ga K "check_labels"))
  g_check_roles : mg "check_roles" = some (.ref (He.ga K "check_roles"))
  g_checked_permits : mg "checked_permits" = some (.ref (He.ga K "checked_permits"))
  g_checked_root : mg "checked_root" = some (.ref (He.ga K "checked_root"))
  g_checked_start : mg "checked_start" = some (.ref (He.ga K "checked_start"))
  g_first_states : mg "first_states" = some (.ref (He.ga K "first_states"))
  g_first_states_of : mg "first_states_of" = some (.ref (He.ga K "first_states_of"))
  g_is_asked : mg "is_asked" = some (.ref (He.ga K "is_asked"))
  g_is_integer : mg "is_integer" = some (.ref (He.ga K "is_integer"))
  g_is_list : mg "is_list" = some (.ref (He.ga K "is_list"))
  g_is_name : mg "is_name" = some (.ref (He.ga K "is_name"))
  g_is_number : mg "is_number" = some (.ref (He.ga K "is_number"))
  g_is_one : mg "is_one" = some (.ref (He.ga K "is_one"))
  g_is_root : mg "is_root" = some (.ref (He.ga K "is_root"))
  g_moves_of : mg "moves_of" = some (.ref (He.ga K "moves_of"))
  g_roots_of : mg "roots_of" = some (.ref (He.ga K "roots_of"))
  g_states_of : mg "states_of" = some (.ref (He.ga K "states_of"))
  k1_Book : ∀ t ∈ allT, PySem.W.kitOne K (.type t) (.ref (He.ga K "Book")) = some false
  k2_Book : ∀ c ∈ (["Book"] : List Str), PySem.W.kitOne K (.ref (He.ga K c)) (.ref (He.ga K "Book")) = some (decide (c = ("Book" : Str)))
  mk_Book : Mk K (He.ga K "Book") (He.fAd K ("Book", some "__init__"))
  n_abs : mg "abs" = none
  n_all : mg "all" = none
  n_bool : mg "bool" = none
  n_dict : mg "dict" = none
  n_enumerate : mg "enumerate" = none
  n_int : mg "int" = none
  n_isinstance : mg "isinstance" = none
  n_len : mg "len" = none
  n_list : mg "list" = none
  n_range : mg "range" = none
  n_repr : mg "repr" = none
  n_sorted : mg "sorted" = none
  n_str : mg "str" = none
  n_sum : mg "sum" = none
  n_tuple : mg "tuple" = none
  n_zip : mg "zip" = none
  s_FIRST : ∃ k, mg "FIRST" = some (.str "abcdefghijklmnopqrstuvwxyz" k)
  s_KNOWN : ∃ k, mg "KNOWN" = some (.str "known" k)
  s_LATER : ∃ k, mg "LATER" = some (.str "abcdefghijklmnopqrstuvwxyz0123456789" k)
  t_SHAPES : TabOk K w (He.ga K "SHAPES") tab_SHAPES
  c_Book : Cls K (He.ga K "Book")
  hI : ∀ c ∈ (["Book"] : List Str), InsK K c
section
variable {P : Program} {w : World} {K : PySem.W.Frag} {mg : Str → Option Value} {base : Heap}
theorem sc__law_spoiled : FnScope ["thing", "key", "part"] ["thing"] (defScope s__law_spoiled) := ⟨rfl, rfl, rfl, by decide +kernel, rfl, by decide +kernel, by decide +kernel⟩
theorem pss_nev {X : Cx} {st : List Stmt} : PSs X st tNever := ⟨fun _ _ _ _ _ _ h => h.elim⟩
theorem ok__law_spoiled (E : Env w K mg) (N : Nat) : ∃ fd, FunD K "_law_spoiled" "_law_spoiled" (defArgs s__law_spoiled) (defBody s__law_spoiled) (defScope s__law_spoiled) [] [] (He.fAd K ("_law_spoiled", none)) fd ∧ SpOk P w K mg base (1 + N) (He.fAd K ("_law_spoiled", none)) fd ["thing"] N := by
  obtain ⟨fd, F⟩ := E.d__law_spoiled
  have nd := sc__law_spoiled.nd
  refine ⟨fd, F, spoil_def F sc__law_spoiled (fun _ _ _ _ _ _ us hl => match us, hl with | [_], _ => rfl) (fun k N cdv A outer s H Ex hr IH => ?_) N⟩
  exact pss_one (ps_if (pt_val (pe_callB call_isi rfl E.n_isinstance boot_isinstance (pa_cons (pv 0) (pa_cons (pe_ty rfl E.n_dict boot_dict) pa_nil)))) pss_nev
    (pss_one (ps_if (pt_val (pe_callB call_isiT rfl E.n_isinstance boot_isinstance (pa_cons (pv 0) (pa_cons (pe_tup (pa_tys_cons rfl E.n_list boot_list (pa_tys_cons rfl E.n_tuple boot_tuple pa_nil))) pa_nil))))
      (pss_cons (ps_for PassesOwn.never rfl (pi_seq (pv 0)) (pg_name (i := 2) nd rfl (Or.inl rfl)) (pss_one (ps_expr (pe_callSp IH hr E.g__law_spoiled (pa_cons (pv 2) pa_nil) (by omega) rfl (by decide) rfl rfl))))
        (pss_one (ps_if (pt_val (pe_callB call_isi rfl E.n_isinstance boot_isinstance (pa_cons (pv 0) (pa_cons (pe_ty rfl E.n_list boot_list) pa_nil)))) (pss_one (ps_expr (pe_bm PySem.F.plainAttrs_list PySem.F.slot_list_append PySem.F.type_list_append mt_append (pv 0) (pa_cons pe_str pa_nil)))) pss_nil))) pss_nil)))
theorem kw_first_states_root_start_book {fd : FuncData} (U : FunD K "first_states" "first_states" (defArgs s_first_states) (defBody s_first_states) (defScope s_first_states) [] [] (He.fAd K ("first_states", none)) fd) : KwOk K fd P_first_states ["root", "start", "book"] [2, 1, 0] := by
  obtain ⟨oc, od, dV, kV, doc, pm, an, cdv, ct, osl, rfl, lk, hcd, hD, hK⟩ := U.ex
  intro s ws hl
  rcases hD with ⟨_, rfl⟩ | ⟨e, _⟩
  · exact .of_eq (match ws, hl with | [_, _, _], _ => rfl)
  · exact absurd rfl e
theorem kw_is_asked_thing_start_book {fd : FuncData} (U : FunD K "is_asked" "is_asked" (defArgs s_is_asked) (defBody s_is_asked) (defScope s_is_asked) [] [] (He.fAd K ("is_asked", none)) fd) : KwOk K fd P_is_asked ["thing", "start", "book"] [2, 1, 0] := by
  obtain ⟨oc, od, dV, kV, doc, pm, an, cdv, ct, osl, rfl, lk, hcd, hD, hK⟩ := U.ex
  intro s ws hl
  rcases hD with ⟨_, rfl⟩ | ⟨e, _⟩
  · exact .of_eq (match ws, hl with | [_, _, _], _ => rfl)
  · exact absurd rfl e
theorem kw_moves_of_book {fd : FuncData} (U : FunD K "moves_of" "moves_of" (defArgs s_moves_of) (defBody s_moves_of) (defScope s_moves_of) [] [] (He.fAd K ("moves_of", none)) fd) : KwOk K fd P_moves_of ["book"] [0] := by
  obtain ⟨oc, od, dV, kV, doc, pm, an, cdv, ct, osl, rfl, lk, hcd, hD, hK⟩ := U.ex
  intro s ws hl
  rcases hD with ⟨_, rfl⟩ | ⟨e, _⟩
  · exact .of_eq (match ws, hl with | [_], _ => rfl)
  · exact absurd rfl e
theorem kw_roots_of_start_book {fd : FuncData} (U : FunD K "roots_of" "roots_of" (defArgs s_roots_of) (defBody s_roots_of) (defScope s_roots_of) [] [] (He.fAd K ("roots_of", none)) fd) : KwOk K fd P_roots_of ["start", "book"] [1, 0] := by
  obtain ⟨oc, od, dV, kV, doc, pm, an, cdv, ct, osl, rfl, lk, hcd, hD, hK⟩ := U.ex
  intro s ws hl
  rcases hD with ⟨_, rfl⟩ | ⟨e, _⟩
  · exact .of_eq (match ws, hl with | [_, _], _ => rfl)
  · exact absurd rfl e
theorem kw_states_of_book {fd : FuncData} (U : FunD K "states_of" "states_of" (defArgs s_states_of) (defBody s_states_of) (defScope s_states_of) [] [] (He.fAd K ("states_of", none)) fd) : KwOk K fd P_states_of ["book"] [0] := by
  obtain ⟨oc, od, dV, kV, doc, pm, an, cdv, ct, osl, rfl, lk, hcd, hD, hK⟩ := U.ex
  intro s ws hl
  rcases hD with ⟨_, rfl⟩ | ⟨e, _⟩
  · exact .of_eq (match ws, hl with | [_], _ => rfl)
  · exact absurd rfl e
theorem sc_is_integer : FnScope N_is_integer P_is_integer (defScope s_is_integer) := ⟨rfl, rfl, rfl, by decide +kernel, rfl, by decide +kernel, by decide +kernel⟩
theorem ok_is_integer (E : Env w K mg) : ∃ fd, FunD K "is_integer" "is_integer" (defArgs s_is_integer) (defBody s_is_integer) (defScope s_is_integer) [] [] (He.fAd K ("is_integer", none)) fd ∧ DefOk P w K mg base 1 (He.fAd K ("is_integer", none)) fd P_is_integer F_is_integer := by
  obtain ⟨fd, F⟩ := E.d_is_integer
  have nd := sc_is_integer.nd
  refine ⟨fd, F, def_ok F sc_is_integer (by decide) (fun _ _ _ _ _ _ us hl => match us, hl with | [_], _ => rfl) fun cdv A outer s H Ex hr => ?_⟩
  exact (jss_one (js_ret (je_and (je_isT1 E.n_isinstance (je_var 0) E.n_int boot_int E.hI) (je_one (je_not (je_isT1 E.n_isinstance (je_var 0) E.n_bool boot_bool E.hI))))))
theorem sc_is_number : FnScope N_is_number P_is_number (defScope s_is_number) := ⟨rfl, rfl, rfl, by decide +kernel, rfl, by decide +kernel, by decide +kernel⟩
theorem ok_is_number (E : Env w K mg) : ∃ fd, FunD K "is_number" "is_number" (defArgs s_is_number) (defBody s_is_number) (defScope s_is_number) [] [] (He.fAd K ("is_number", none)) fd ∧ DefOk P w K mg base 2 (He.fAd K ("is_number", none)) fd P_is_number F_is_number := by
  obtain ⟨fd_is_integer, U_is_integer, D_is_integer⟩ := ok_is_integer (P := P) (w := w) (base := base) E
  obtain ⟨fd, F⟩ := E.d_is_number
  have nd := sc_is_number.nd
  refine ⟨fd, F, def_ok F sc_is_number (by decide) (fun _ _ _ _ _ _ us hl => match us, hl with | [_], _ => rfl) fun cdv A outer s H Ex hr => ?_⟩
  exact (jss_one (js_ret (je_and (je_call D_is_integer hr E.g_is_integer (ja_cons (je_v (je_var 0)) ja_nil) (by omega)) (je_one (je_ge (je_var 0) je_int)))))
theorem sc_is_list : FnScope N_is_list P_is_list (defScope s_is_list) := ⟨rfl, rfl, rfl, by decide +kernel, rfl, by decide +kernel, by decide +kernel⟩
theorem ok_is_list (E : Env w K mg) : ∃ fd, FunD K "is_list" "is_list" (defArgs s_is_list) (defBody s_is_list) (defScope s_is_list) [] [] (He.fAd K ("is_list", none)) fd ∧ DefOk P w K mg base 1 (He.fAd K ("is_list", none)) fd P_is_list F_is_list := by
  obtain ⟨fd, F⟩ := E.d_is_list
  have nd := sc_is_list.nd
  refine ⟨fd, F, def_ok F sc_is_list (by decide) (fun _ _ _ _ _ _ us hl => match us, hl with | [_], _ => rfl) fun cdv A outer s H Ex hr => ?_⟩
  exact (jss_one (js_ret (je_isTs E.n_isinstance (je_var 0) (pa_tys_cons rfl E.n_list boot_list (pa_tys_cons rfl E.n_tuple boot_tuple pa_nil)) E.hI)))
theorem sc_is_name : FnScope N_is_name P_is_name (defScope s_is_name) := ⟨rfl, rfl, rfl, by decide +kernel, rfl, by decide +kernel, by decide +kernel⟩
theorem ok_is_name (E : Env w K mg) : ∃ fd, FunD K "is_name" "is_name" (defArgs s_is_name) (defBody s_is_name) (defScope s_is_name) [] [] (He.fAd K ("is_name", none)) fd ∧ DefOk P w K mg base 1 (He.fAd K ("is_name", none)) fd P_is_name F_is_name := by
  obtain ⟨_, h_FIRST⟩ := E.s_FIRST
  obtain ⟨_, h_LATER⟩ := E.s_LATER
  obtain ⟨fd, F⟩ := E.d_is_name
  have nd := sc_is_name.nd
  refine ⟨fd, F, def_ok F sc_is_name (by decide) (fun _ _ _ _ _ _ us hl => match us, hl with | [_], _ => rfl) fun cdv A outer s H Ex hr => ?_⟩
  exact (jss_cons (js_if (jt_w (jw_or (jt_not (jt_val (je_isT1 E.n_isinstance (je_var 0) E.n_str boot_str E.hI))) (jw_or1 (jt_not (jt_ltlt je_int (je_len E.n_len (ja_cons (je_var 0) ja_nil)) je_int))))) (jss_one (js_ret je_bl)) jss_nil)
 (jss_one (js_ret (je_and (je_in hr (je_ix (je_var 0) je_int) (je_gstr rfl h_FIRST)) (je_one (je_all rfl E.n_all (ja_cons (je_fz (jm_lc [("sign", 1)] rfl nd (ji_seq (je_var 0)) (show blkC N_is_name (defScope s_is_name) _ _ = true by decide +kernel) (fun _ _ _ _ _ => (jg_name 1 nd)) (fun _ _ _ _ _ => jts_nil) (fun _ _ _ _ _ => (je_in hr (je_var 1) (je_gstr rfl h_LATER))))) ja_nil)))))))
theorem sc_are_names : FnScope N_are_names P_are_names (defScope s_are_names) := ⟨rfl, rfl, rfl, by decide +kernel, rfl, by decide +kernel, by decide +kernel⟩
theorem ok_are_names (E : Env w K mg) : ∃ fd, FunD K "are_names" "are_names" (defArgs s_are_names) (defBody s_are_names) (defScope s_are_names) [] [] (He.fAd K ("are_names", none)) fd ∧ DefOk P w K mg base 2 (He.fAd K ("are_names", none)) fd P_are_names F_are_names := by
  obtain ⟨fd_is_list, U_is_list, D_is_list⟩ := ok_is_list (P := P) (w := w) (base := base) E
  obtain ⟨fd_is_name, U_is_name, D_is_name⟩ := ok_is_name (P := P) (w := w) (base := base) E
  obtain ⟨fd, F⟩ := E.d_are_names
  have nd := sc_are_names.nd
  refine ⟨fd, F, def_ok F sc_are_names (by decide) (fun _ _ _ _ _ _ us hl => match us, hl with | [_], _ => rfl) fun cdv A outer s H Ex hr => ?_⟩
  exact (jss_cons (js_if (jt_w (jw_or (jt_not (jt_val (je_call D_is_list hr E.g_is_list (ja_cons (je_v (je_var 0)) ja_nil) (by omega)))) (jw_or1 (jt_not (jt_val (je_all rfl E.n_all (ja_cons (je_fz (jm_lc [("one", 2)] rfl nd (ji_seq (je_var 0)) (show blkC N_are_names (defScope s_are_names) _ _ = true by decide +kernel) (fun _ _ _ _ _ => (jg_name 2 nd)) (fun _ _ _ _ _ => jts_nil) (fun _ _ _ _ _ => (je_call D_is_name hr E.g_is_name (ja_cons (je_v (je_var 2)) ja_nil) (by omega))))) ja_nil))))))) (jss_one (js_ret je_bl)) jss_nil)
 (jss_one (js_ret (je_all rfl E.n_all (ja_cons (je_fz (jm_lc [("index", 1), ("one", 2)] rfl nd (ji_enum E.n_enumerate (je_var 0)) (show blkC N_are_names (defScope s_are_names) _ _ = true by decide +kernel) (fun _ _ _ _ _ => (jg_tup rfl (jgs_cons (jg_name 1 nd) (jgs_cons (jg_name 2 nd) jgs_nil)))) (fun _ _ _ _ _ => jts_nil) (fun _ _ _ _ _ => (je_nin hr (je_var 2) (je_sl (je_var 0) jo_none (jo_some (je_var 1))))))) ja_nil)))))
theorem sc_check_roles : FnScope N_check_roles P_check_roles (defScope s_check_roles) := ⟨rfl, rfl, rfl, by decide +kernel, rfl, by decide +kernel, by decide +kernel⟩
theorem ok_check_roles (E : Env w K mg) : ∃ fd, FunD K "check_roles" "check_roles" (defArgs s_check_roles) (defBody s_check_roles) (defScope s_check_roles) [] [] (He.fAd K ("check_roles", none)) fd ∧ DefOk P w K mg base 3 (He.fAd K ("check_roles", none)) fd P_check_roles F_check_roles := by
  obtain ⟨_, h_KNOWN⟩ := E.s_KNOWN
  obtain ⟨fd_are_names, U_are_names, D_are_names⟩ := ok_are_names (P := P) (w := w) (base := base) E
  obtain ⟨fd, F⟩ := E.d_check_roles
  have nd := sc_check_roles.nd
  refine ⟨fd, F, def_ok F sc_check_roles (by decide) (fun _ _ _ _ _ _ us hl => match us, hl with | [_], _ => rfl) fun cdv A outer s H Ex hr => ?_⟩
  exact (jss_one (js_if (jt_w (jw_or (jt_not (jt_val (je_call D_are_names hr E.g_are_names (ja_cons (je_v (je_var 0)) ja_nil) (by omega)))) (jw_or1 (jt_in hr (je_gstr rfl h_KNOWN) (je_var 0))))) (jss_one js_never) jss_nil))
theorem sc_check_labels : FnScope N_check_labels P_check_labels (defScope s_check_labels) := ⟨rfl, rfl, rfl, by decide +kernel, rfl, by decide +kernel, by decide +kernel⟩
theorem ok_check_labels (E : Env w K mg) : ∃ fd, FunD K "check_labels" "check_labels" (defArgs s_check_labels) (defBody s_check_labels) (defScope s_check_labels) [] [] (He.fAd K ("check_labels", none)) fd ∧ DefOk P w K mg base 3 (He.fAd K ("check_labels", none)) fd P_check_labels F_check_labels := by
  obtain ⟨fd_are_names, U_are_names, D_are_names⟩ := ok_are_names (P := P) (w := w) (base := base) E
  obtain ⟨fd, F⟩ := E.d_check_labels
  have nd := sc_check_labels.nd
  refine ⟨fd, F, def_ok F sc_check_labels (by decide) (fun _ _ _ _ _ _ us hl => match us, hl with | [_], _ => rfl) fun cdv A outer s H Ex hr => ?_⟩
  exact (jss_one (js_if (jt_not (jt_val (je_call D_are_names hr E.g_are_names (ja_cons (je_v (je_var 0)) ja_nil) (by omega)))) (jss_one js_never) jss_nil))
theorem sc_is_one : FnScope N_is_one P_is_one (defScope s_is_one) := ⟨rfl, rfl, rfl, by decide +kernel, rfl, by decide +kernel, by decide +kernel⟩
theorem ok_is_one (E : Env w K mg) : ∃ fd, FunD K "is_one" "is_one" (defArgs s_is_one) (defBody s_is_one) (defScope s_is_one) [] [] (He.fAd K ("is_one", none)) fd ∧ DefOk P w K mg base 2 (He.fAd K ("is_one", none)) fd P_is_one F_is_one := by
  obtain ⟨fd_is_list, U_is_list, D_is_list⟩ := ok_is_list (P := P) (w := w) (base := base) E
  obtain ⟨fd_is_name, U_is_name, D_is_name⟩ := ok_is_name (P := P) (w := w) (base := base) E
  obtain ⟨fd, F⟩ := E.d_is_one
  have nd := sc_is_one.nd
  refine ⟨fd, F, def_ok F sc_is_one (by decide) (fun _ _ _ _ _ _ us hl => match us, hl with | [_, _, _], _ => rfl) fun cdv A outer s H Ex hr => ?_⟩
  exact (jss_cons (js_if (jt_w (jw_or (jt_not (jt_val (je_call D_is_list hr E.g_is_list (ja_cons (je_v (je_var 2)) ja_nil) (by omega)))) (jw_or (jt_eq hr (je_var 2) (je_fz (jm_lst ja_nil))) (jw_or (jt_eq hr (je_var 2) (je_tup ja_nil)) (jw_or1 (jt_not (jt_val (je_isT1 E.n_isinstance (je_ix (je_var 2) je_int) E.n_str boot_str E.hI)))))))) (jss_one (js_ret je_bl)) jss_nil)
 (jss_cons (js_set 3 nd (je_tabget E.t_SHAPES E.g_SHAPES (je_ix (je_var 2) je_int) je_str))
 (jss_cons (js_if (jt_w (jw_or (jt_eq hr (je_var 3) je_str) (jw_or (jt_ne hr (je_len E.n_len (ja_cons (je_var 2) ja_nil)) (je_add (je_len E.n_len (ja_cons (je_var 3) ja_nil)) je_int)) (jw_or1 (jt_not (jt_val (je_all rfl E.n_all (ja_cons (je_fz (jm_lc [("name", 5)] rfl nd (ji_seq (je_sl (je_var 2) (jo_some je_int) jo_none)) (show blkC N_is_one (defScope s_is_one) _ _ = true by decide +kernel) (fun _ _ _ _ _ => (jg_name 5 nd)) (fun _ _ _ _ _ => jts_nil) (fun _ _ _ _ _ => (je_call D_is_name hr E.g_is_name (ja_cons (je_v (je_var 5)) ja_nil) (by omega))))) ja_nil)))))))) (jss_one (js_ret je_bl)) jss_nil)
 (jss_one (js_ret (je_all rfl E.n_all (ja_cons (je_fz (jm_lc [("kind", 4), ("name", 5)] rfl nd (ji_zip E.n_zip (je_var 3) (je_sl (je_var 2) (jo_some je_int) jo_none)) (show blkC N_is_one (defScope s_is_one) _ _ = true by decide +kernel) (fun _ _ _ _ _ => (jg_tup rfl (jgs_cons (jg_name 4 nd) (jgs_cons (jg_name 5 nd) jgs_nil)))) (fun _ _ _ _ _ => jts_nil) (fun _ _ _ _ _ => (je_in hr (je_var 5) (je_if (jt_eq hr (je_var 4) je_str) (je_var 0) (je_var 1)))))) ja_nil)))))))
theorem sc_checked_permits : FnScope N_checked_permits P_checked_permits (defScope s_checked_permits) := ⟨rfl, rfl, rfl, by decide +kernel, rfl, by decide +kernel, by decide +kernel⟩
theorem ok_checked_permits (E : Env w K mg) : ∃ fd, FunD K "checked_permits" "checked_permits" (defArgs s_checked_permits) (defBody s_checked_permits) (defScope s_checked_permits) [] [] (He.fAd K ("checked_permits", none)) fd ∧ DefOk P w K mg base 3 (He.fAd K ("checked_permits", none)) fd P_checked_permits F_checked_permits := by
  obtain ⟨fd_is_list, U_is_list, D_is_list⟩ := ok_is_list (P := P) (w := w) (base := base) E
  obtain ⟨fd_is_one, U_is_one, D_is_one⟩ := ok_is_one (P := P) (w := w) (base := base) E
  obtain ⟨fd, F⟩ := E.d_checked_permits
  have nd := sc_checked_permits.nd
  refine ⟨fd, F, def_ok F sc_checked_permits (by decide) (fun _ _ _ _ _ _ us hl => match us, hl with | [_, _, _], _ => rfl) fun cdv A outer s H Ex hr => ?_⟩
  exact (jss_cons (js_if (jt_not (jt_val (je_call D_is_list hr E.g_is_list (ja_cons (je_v (je_var 2)) ja_nil) (by omega)))) (jss_one js_never) jss_nil)
 (jss_cons (js_setM 3 nd (jm_lst ja_nil))
 (jss_cons (js_for PassesOwn.never rfl (ji_enum E.n_enumerate (je_var 2)) (jg_tup rfl (jgs_cons (jg_name 4 nd) (jgs_cons (jg_name 5 nd) jgs_nil)))
 (jss_cons (js_if (jt_w (jw_or (jt_not (jt_val (je_call D_is_one hr E.g_is_one (ja_cons (je_v (je_var 0)) (ja_cons (je_v (je_var 1)) (ja_cons (je_v (je_var 5)) ja_nil))) (by omega)))) (jw_or1 (jt_in hr (je_tuple E.n_tuple (ja_cons (je_var 5) ja_nil)) (je_var 3))))) (jss_one js_never) jss_nil)
 (jss_one (js_expr (je_app 3 (je_tuple E.n_tuple (ja_cons (je_var 5) ja_nil)))))))
 (jss_one (js_ret (je_var 3))))))
theorem sc_check_book : FnScope N_check_book P_check_book (defScope s_check_book) := ⟨rfl, rfl, rfl, by decide +kernel, rfl, by decide +kernel, by decide +kernel⟩
theorem ok_check_book (E : Env w K mg) : ∃ fd, FunD K "check_book" "check_book" (defArgs s_check_book) (defBody s_check_book) (defScope s_check_book) [] [] (He.fAd K ("check_book", none)) fd ∧ DefOk P w K mg base 1 (He.fAd K ("check_book", none)) fd P_check_book F_check_book := by
  obtain ⟨fd, F⟩ := E.d_check_book
  have nd := sc_check_book.nd
  refine ⟨fd, F, def_ok F sc_check_book (by decide) (fun _ _ _ _ _ _ us hl => match us, hl with | [_], _ => rfl) fun cdv A outer s H Ex hr => ?_⟩
  exact (jss_one (js_if (jt_not (jt_val (je_isC E.n_isinstance (je_var 0) E.g_Book E.hI E.k1_Book E.k2_Book))) (jss_one js_never) jss_nil))
theorem sc_are_roles : FnScope N_are_roles P_are_roles (defScope s_are_roles) := ⟨rfl, rfl, rfl, by decide +kernel, rfl, by decide +kernel, by decide +kernel⟩
theorem ok_are_roles (E : Env w K mg) : ∃ fd, FunD K "are_roles" "are_roles" (defArgs s_are_roles) (defBody s_are_roles) (defScope s_are_roles) [] [] (He.fAd K ("are_roles", none)) fd ∧ DefOk P w K mg base 2 (He.fAd K ("are_roles", none)) fd P_are_roles F_are_roles := by
  obtain ⟨fd_is_list, U_is_list, D_is_list⟩ := ok_is_list (P := P) (w := w) (base := base) E
  obtain ⟨fd, F⟩ := E.d_are_roles
  have nd := sc_are_roles.nd
  refine ⟨fd, F, def_ok F sc_are_roles (by decide) (fun _ _ _ _ _ _ us hl => match us, hl with | [_, _], _ => rfl) fun cdv A outer s H Ex hr => ?_⟩
  exact (jss_cons (js_if (jt_w (jw_or (jt_not (jt_val (je_call D_is_list hr E.g_is_list (ja_cons (je_v (je_var 1)) ja_nil) (by omega)))) (jw_or1 (jt_not (jt_val (je_all rfl E.n_all (ja_cons (je_fz (jm_lc [("one", 2)] rfl nd (ji_seq (je_var 1)) (show blkC N_are_roles (defScope s_are_roles) _ _ = true by decide +kernel) (fun _ _ _ _ _ => (jg_name 2 nd)) (fun _ _ _ _ _ => jts_nil) (fun _ _ _ _ _ => (je_and (je_isT1 E.n_isinstance (je_var 2) E.n_str boot_str E.hI) (je_one (je_in hr (je_var 2) (je_fld (je_var 0) E.c_Book E.f_Book_own_roles))))))) ja_nil))))))) (jss_one (js_ret je_bl)) jss_nil)
 (jss_one (js_ret (je_all rfl E.n_all (ja_cons (je_fz (jm_lc [("one", 2), ("other", 3)] rfl nd (ji_zip E.n_zip (je_var 1) (je_sl (je_var 1) (jo_some je_int) jo_none)) (show blkC N_are_roles (defScope s_are_roles) _ _ = true by decide +kernel) (fun _ _ _ _ _ => (jg_tup rfl (jgs_cons (jg_name 2 nd) (jgs_cons (jg_name 3 nd) jgs_nil)))) (fun _ _ _ _ _ => jts_nil) (fun _ _ _ _ _ => (je_lt (je_var 2) (je_var 3))))) ja_nil)))))
theorem sc_checked_start : FnScope N_checked_start P_checked_start (defScope s_checked_start) := ⟨rfl, rfl, rfl, by decide +kernel, rfl, by decide +kernel, by decide +kernel⟩
theorem ok_checked_start (E : Env w K mg) : ∃ fd, FunD K "checked_start" "checked_start" (defArgs s_checked_start) (defBody s_checked_start) (defScope s_checked_start) [] [] (He.fAd K ("checked_start", none)) fd ∧ DefOk P w K mg base 3 (He.fAd K ("checked_start", none)) fd P_checked_start F_checked_start := by
  obtain ⟨fd_is_list, U_is_list, D_is_list⟩ := ok_is_list (P := P) (w := w) (base := base) E
  obtain ⟨fd_are_roles, U_are_roles, D_are_roles⟩ := ok_are_roles (P := P) (w := w) (base := base) E
  obtain ⟨fd, F⟩ := E.d_checked_start
  have nd := sc_checked_start.nd
  refine ⟨fd, F, def_ok F sc_checked_start (by decide) (fun _ _ _ _ _ _ us hl => match us, hl with | [_, _], _ => rfl) fun cdv A outer s H Ex hr => ?_⟩
  exact (jss_cons (js_if (jt_not (jt_val (je_call D_is_list hr E.g_is_list (ja_cons (je_v (je_var 1)) ja_nil) (by omega)))) (jss_one js_never) jss_nil)
 (jss_cons (js_for PassesOwn.never rfl (ji_enum E.n_enumerate (je_var 1)) (jg_tup rfl (jgs_cons (jg_name 2 nd) (jgs_cons (jg_name 3 nd) jgs_nil)))
 (jss_one (js_if (jt_not (jt_val (je_call D_are_roles hr E.g_are_roles (ja_cons (je_v (je_var 0)) (ja_cons (je_v (je_var 3)) ja_nil)) (by omega)))) (jss_one js_never) jss_nil)))
 (jss_one (js_ret (je_fz (jm_lc [("one", 4)] rfl nd (ji_seq (je_var 1)) (show blkC N_checked_start (defScope s_checked_start) _ _ = true by decide +kernel) (fun _ _ _ _ _ => (jg_name 4 nd)) (fun _ _ _ _ _ => jts_nil) (fun _ _ _ _ _ => (je_fz (jm_list rfl E.n_list (ja_cons (je_var 4) ja_nil))))))))))
theorem sc_all_states : FnScope N_all_states P_all_states (defScope s_all_states) := ⟨rfl, rfl, rfl, by decide +kernel, rfl, by decide +kernel, by decide +kernel⟩
theorem ok_all_states (E : Env w K mg) : ∃ fd, FunD K "all_states" "all_states" (defArgs s_all_states) (defBody s_all_states) (defScope s_all_states) [] [] (He.fAd K ("all_states", none)) fd ∧ DefOk P w K mg base 1 (He.fAd K ("all_states", none)) fd P_all_states F_all_states := by
  obtain ⟨_, h_KNOWN⟩ := E.s_KNOWN
  obtain ⟨fd, F⟩ := E.d_all_states
  have nd := sc_all_states.nd
  refine ⟨fd, F, def_ok F sc_all_states (by decide) (fun _ _ _ _ _ _ us hl => match us, hl with | [_], _ => rfl) fun cdv A outer s H Ex hr => ?_⟩
  exact (jss_one (js_ret (je_fz (jm_sorted E.n_sorted (ja_cons (je_fz (jm_lst (ja_cons (je_gstr rfl h_KNOWN) (ja_star (je_fld (je_var 0) E.c_Book E.f_Book_own_roles) ja_nil)))) ja_nil)))))
theorem sc_all_moves : FnScope N_all_moves P_all_moves (defScope s_all_moves) := ⟨rfl, rfl, rfl, by decide +kernel, rfl, by decide +kernel, by decide +kernel⟩
theorem ok_all_moves (E : Env w K mg) : ∃ fd, FunD K "all_moves" "all_moves" (defArgs s_all_moves) (defBody s_all_moves) (defScope s_all_moves) [] [] (He.fAd K ("all_moves", none)) fd ∧ DefOk P w K mg base 1 (He.fAd K ("all_moves", none)) fd P_all_moves F_all_moves := by
  obtain ⟨_, h_KNOWN⟩ := E.s_KNOWN
  obtain ⟨fd, F⟩ := E.d_all_moves
  have nd := sc_all_moves.nd
  refine ⟨fd, F, def_ok F sc_all_moves (by decide) (fun _ _ _ _ _ _ us hl => match us, hl with | [_], _ => rfl) fun cdv A outer s H Ex hr => ?_⟩
  exact (jss_cons (js_setLc 1 [("one", 2)] rfl nd (ji_seq (je_fld (je_var 0) E.c_Book E.f_Book_own_permits)) (show blkC N_all_moves (defScope s_all_moves) _ _ = true by decide +kernel) (fun _ _ _ _ _ => (jg_name 2 nd)) (fun _ _ _ _ _ => (jts_one (jt_eq hr (je_ix (je_var 2) je_int) je_str))) (fun _ _ _ _ _ => (je_tup (ja_cons (je_ix (je_var 2) je_int) (ja_cons (je_ix (je_var 2) je_int) (ja_cons (je_ix (je_var 2) je_int) ja_nil))))) (sw_true rfl rfl rfl (by decide +kernel)))
 (jss_cons (js_expr (je_ext 1 (je_fz (jm_lc [("label", 3)] rfl nd (ji_seq (je_fld (je_var 0) E.c_Book E.f_Book_own_labels)) (show blkC N_all_moves (defScope s_all_moves) _ _ = true by decide +kernel) (fun _ _ _ _ _ => (jg_name 3 nd)) (fun _ _ _ _ _ => jts_nil) (fun _ _ _ _ _ => (je_tup (ja_cons (je_gstr rfl h_KNOWN) (ja_cons (je_v (je_var 3)) (ja_cons (je_gstr rfl h_KNOWN) ja_nil)))))))))
 (jss_one (js_ret (je_fz (jm_sorted E.n_sorted (ja_cons (je_var 1) ja_nil)))))))
theorem sc_is_root : FnScope N_is_root P_is_root (defScope s_is_root) := ⟨rfl, rfl, rfl, by decide +kernel, rfl, by decide +kernel, by decide +kernel⟩
theorem ok_is_root (E : Env w K mg) : ∃ fd, FunD K "is_root" "is_root" (defArgs s_is_root) (defBody s_is_root) (defScope s_is_root) [] [] (He.fAd K ("is_root", none)) fd ∧ DefOk P w K mg base 3 (He.fAd K ("is_root", none)) fd P_is_root F_is_root := by
  obtain ⟨_, h_KNOWN⟩ := E.s_KNOWN
  obtain ⟨fd_is_number, U_is_number, D_is_number⟩ := ok_is_number (P := P) (w := w) (base := base) E
  obtain ⟨fd, F⟩ := E.d_is_root
  have nd := sc_is_root.nd
  refine ⟨fd, F, def_ok F sc_is_root (by decide) (fun _ _ _ _ _ _ us hl => match us, hl with | [_, _, _], _ => rfl) fun cdv A outer s H Ex hr => ?_⟩
  exact (jss_cons (js_if (jt_val (je_isT1 E.n_isinstance (je_var 2) E.n_str boot_str E.hI)) (jss_one (js_ret (je_or (je_eq hr (je_var 2) (je_gstr rfl h_KNOWN)) (je_one (je_in hr (je_tup (ja_cons je_str (ja_cons (je_v (je_var 2)) ja_nil))) (je_fld (je_var 0) E.c_Book E.f_Book_own_permits)))))) jss_nil)
 (jss_one (js_ret (je_and (je_call D_is_number hr E.g_is_number (ja_cons (je_v (je_var 2)) ja_nil) (by omega)) (je_one (je_lt (je_var 2) (je_len E.n_len (ja_cons (je_var 1) ja_nil))))))))
theorem sc_all_roots : FnScope N_all_roots P_all_roots (defScope s_all_roots) := ⟨rfl, rfl, rfl, by decide +kernel, rfl, by decide +kernel, by decide +kernel⟩
theorem ok_all_roots (E : Env w K mg) : ∃ fd, FunD K "all_roots" "all_roots" (defArgs s_all_roots) (defBody s_all_roots) (defScope s_all_roots) [] [] (He.fAd K ("all_roots", none)) fd ∧ DefOk P w K mg base 4 (He.fAd K ("all_roots", none)) fd P_all_roots F_all_roots := by
  obtain ⟨fd_all_states, U_all_states, D_all_states⟩ := ok_all_states (P := P) (w := w) (base := base) E
  obtain ⟨fd_is_root, U_is_root, D_is_root⟩ := ok_is_root (P := P) (w := w) (base := base) E
  obtain ⟨fd, F⟩ := E.d_all_roots
  have nd := sc_all_roots.nd
  refine ⟨fd, F, def_ok F sc_all_roots (by decide) (fun _ _ _ _ _ _ us hl => match us, hl with | [_, _], _ => rfl) fun cdv A outer s H Ex hr => ?_⟩
  exact (jss_one (js_ret (je_fz (jm_lst (ja_starR rfl E.n_range (je_len E.n_len (ja_cons (je_var 1) ja_nil)) (ja_star (je_fz (jm_lc [("one", 2)] rfl nd (ji_seq (je_call D_all_states hr E.g_all_states (ja_cons (je_v (je_var 0)) ja_nil) (by omega))) (show blkC N_all_roots (defScope s_all_roots) _ _ = true by decide +kernel) (fun _ _ _ _ _ => (jg_name 2 nd)) (fun _ _ _ _ _ => (jts_one (jt_val (je_call D_is_root hr E.g_is_root (ja_cons (je_v (je_var 0)) (ja_cons (je_v (je_var 1)) (ja_cons (je_v (je_var 2)) ja_nil))) (by omega))))) (fun _ _ _ _ _ => (je_v (je_var 2))))) ja_nil))))))
theorem sc_first_states_of : FnScope N_first_states_of P_first_states_of (defScope s_first_states_of) := ⟨rfl, rfl, rfl, by decide +kernel, rfl, by decide +kernel, by decide +kernel⟩
theorem ok_first_states_of (E : Env w K mg) : ∃ fd, FunD K "first_states_of" "first_states_of" (defArgs s_first_states_of) (defBody s_first_states_of) (defScope s_first_states_of) [] [] (He.fAd K ("first_states_of", none)) fd ∧ DefOk P w K mg base 1 (He.fAd K ("first_states_of", none)) fd P_first_states_of F_first_states_of := by
  obtain ⟨fd, F⟩ := E.d_first_states_of
  have nd := sc_first_states_of.nd
  refine ⟨fd, F, def_ok F sc_first_states_of (by decide) (fun _ _ _ _ _ _ us hl => match us, hl with | [_, _], _ => rfl) fun cdv A outer s H Ex hr => ?_⟩
  exact (jss_one (js_ret (je_fz (jm_if (jt_val (je_isT1 E.n_isinstance (je_var 1) E.n_str boot_str E.hI)) (jm_lst (ja_cons (je_v (je_var 1)) ja_nil)) (jm_list rfl E.n_list (ja_cons (je_ix (je_var 0) (je_var 1)) ja_nil))))))
theorem sc_as_asked : FnScope N_as_asked P_as_asked (defScope s_as_asked) := ⟨rfl, rfl, rfl, by decide +kernel, rfl, by decide +kernel, by decide +kernel⟩
theorem ok_as_asked (E : Env w K mg) : ∃ fd, FunD K "as_asked" "as_asked" (defArgs s_as_asked) (defBody s_as_asked) (defScope s_as_asked) [] [] (He.fAd K ("as_asked", none)) fd ∧ DefOk P w K mg base 4 (He.fAd K ("as_asked", none)) fd P_as_asked F_as_asked := by
  obtain ⟨fd_is_list, U_is_list, D_is_list⟩ := ok_is_list (P := P) (w := w) (base := base) E
  obtain ⟨fd_is_root, U_is_root, D_is_root⟩ := ok_is_root (P := P) (w := w) (base := base) E
  obtain ⟨fd, F⟩ := E.d_as_asked
  have nd := sc_as_asked.nd
  refine ⟨fd, F, def_ok F sc_as_asked (by decide) (fun _ _ _ _ _ _ us hl => match us, hl with | [_, _, _], _ => rfl) fun cdv A outer s H Ex hr => ?_⟩
  exact (jss_cons (js_if (jt_w (jw_or (jt_not (jt_val (je_call D_is_list hr E.g_is_list (ja_cons (je_v (je_var 2)) ja_nil) (by omega)))) (jw_or (jt_ne hr (je_len E.n_len (ja_cons (je_var 2) ja_nil)) je_int) (jw_or (jt_not (jt_val (je_call D_is_root hr E.g_is_root (ja_cons (je_v (je_var 0)) (ja_cons (je_v (je_var 1)) (ja_cons (je_ix (je_var 2) je_int) ja_nil))) (by omega)))) (jw_or1 (jt_not (jt_val (je_call D_is_list hr E.g_is_list (ja_cons (je_ix (je_var 2) je_int) ja_nil) (by omega))))))))) (jss_one (js_ret je_non)) jss_nil)
 (jss_cons (js_if (jt_not (jt_val (je_all rfl E.n_all (ja_cons (je_fz (jm_lc [("label", 3)] rfl nd (ji_seq (je_ix (je_var 2) je_int)) (show blkC N_as_asked (defScope s_as_asked) _ _ = true by decide +kernel) (fun _ _ _ _ _ => (jg_name 3 nd)) (fun _ _ _ _ _ => jts_nil) (fun _ _ _ _ _ => (je_and (je_isT1 E.n_isinstance (je_var 3) E.n_str boot_str E.hI) (je_one (je_in hr (je_var 3) (je_fld (je_var 0) E.c_Book E.f_Book_own_labels))))))) ja_nil)))) (jss_one (js_ret je_non)) jss_nil)
 (jss_one (js_ret (je_tup (ja_cons (je_ix (je_var 2) je_int) (ja_cons (je_tuple E.n_tuple (ja_cons (je_ix (je_var 2) je_int) ja_nil)) ja_nil)))))))
theorem sc_states_of : FnScope N_states_of P_states_of (defScope s_states_of) := ⟨rfl, rfl, rfl, by decide +kernel, rfl, by decide +kernel, by decide +kernel⟩
theorem ok_states_of (E : Env w K mg) : ∃ fd, FunD K "states_of" "states_of" (defArgs s_states_of) (defBody s_states_of) (defScope s_states_of) [] [] (He.fAd K ("states_of", none)) fd ∧ DefOk P w K mg base 2 (He.fAd K ("states_of", none)) fd P_states_of F_states_of := by
  obtain ⟨fd_check_book, U_check_book, D_check_book⟩ := ok_check_book (P := P) (w := w) (base := base) E
  obtain ⟨fd_all_states, U_all_states, D_all_states⟩ := ok_all_states (P := P) (w := w) (base := base) E
  obtain ⟨fd, F⟩ := E.d_states_of
  have nd := sc_states_of.nd
  refine ⟨fd, F, def_ok F sc_states_of (by decide) (fun _ _ _ _ _ _ us hl => match us, hl with | [_], _ => rfl) fun cdv A outer s H Ex hr => ?_⟩
  exact (jss_cons (js_expr (je_call D_check_book hr E.g_check_book (ja_cons (je_v (je_var 0)) ja_nil) (by omega)))
 (jss_one (js_ret (je_call D_all_states hr E.g_all_states (ja_cons (je_v (je_var 0)) ja_nil) (by omega)))))
theorem sc_moves_of : FnScope N_moves_of P_moves_of (defScope s_moves_of) := ⟨rfl, rfl, rfl, by decide +kernel, rfl, by decide +kernel, by decide +kernel⟩
theorem ok_moves_of (E : Env w K mg) : ∃ fd, FunD K "moves_of" "moves_of" (defArgs s_moves_of) (defBody s_moves_of) (defScope s_moves_of) [] [] (He.fAd K ("moves_of", none)) fd ∧ DefOk P w K mg base 2 (He.fAd K ("moves_of", none)) fd P_moves_of F_moves_of := by
  obtain ⟨fd_check_book, U_check_book, D_check_book⟩ := ok_check_book (P := P) (w := w) (base := base) E
  obtain ⟨fd_all_moves, U_all_moves, D_all_moves⟩ := ok_all_moves (P := P) (w := w) (base := base) E
  obtain ⟨fd, F⟩ := E.d_moves_of
  have nd := sc_moves_of.nd
  refine ⟨fd, F, def_ok F sc_moves_of (by decide) (fun _ _ _ _ _ _ us hl => match us, hl with | [_], _ => rfl) fun cdv A outer s H Ex hr => ?_⟩
  exact (jss_cons (js_expr (je_call D_check_book hr E.g_check_book (ja_cons (je_v (je_var 0)) ja_nil) (by omega)))
 (jss_one (js_ret (je_call D_all_moves hr E.g_all_moves (ja_cons (je_v (je_var 0)) ja_nil) (by omega)))))
theorem sc_roots_of : FnScope N_roots_of P_roots_of (defScope s_roots_of) := ⟨rfl, rfl, rfl, by decide +kernel, rfl, by decide +kernel, by decide +kernel⟩
theorem ok_roots_of (E : Env w K mg) : ∃ fd, FunD K "roots_of" "roots_of" (defArgs s_roots_of) (defBody s_roots_of) (defScope s_roots_of) [] [] (He.fAd K ("roots_of", none)) fd ∧ DefOk P w K mg base 5 (He.fAd K ("roots_of", none)) fd P_roots_of F_roots_of := by
  obtain ⟨fd_check_book, U_check_book, D_check_book⟩ := ok_check_book (P := P) (w := w) (base := base) E
  obtain ⟨fd_all_roots, U_all_roots, D_all_roots⟩ := ok_all_roots (P := P) (w := w) (base := base) E
  obtain ⟨fd_checked_start, U_checked_start, D_checked_start⟩ := ok_checked_start (P := P) (w := w) (base := base) E
  obtain ⟨fd, F⟩ := E.d_roots_of
  have nd := sc_roots_of.nd
  refine ⟨fd, F, def_ok F sc_roots_of (by decide) (fun _ _ _ _ _ _ us hl => match us, hl with | [_, _], _ => rfl) fun cdv A outer s H Ex hr => ?_⟩
  exact (jss_cons (js_expr (je_call D_check_book hr E.g_check_book (ja_cons (je_v (je_var 0)) ja_nil) (by omega)))
 (jss_one (js_ret (je_call D_all_roots hr E.g_all_roots (ja_cons (je_v (je_var 0)) (ja_cons (je_call D_checked_start hr E.g_checked_start (ja_cons (je_v (je_var 0)) (ja_cons (je_v (je_var 1)) ja_nil)) (by omega)) ja_nil)) (by omega)))))
theorem sc_checked_root : FnScope N_checked_root P_checked_root (defScope s_checked_root) := ⟨rfl, rfl, rfl, by decide +kernel, rfl, by decide +kernel, by decide +kernel⟩
theorem ok_checked_root (E : Env w K mg) : ∃ fd, FunD K "checked_root" "checked_root" (defArgs s_checked_root) (defBody s_checked_root) (defScope s_checked_root) [] [] (He.fAd K ("checked_root", none)) fd ∧ DefOk P w K mg base 4 (He.fAd K ("checked_root", none)) fd P_checked_root F_checked_root := by
  obtain ⟨fd_is_root, U_is_root, D_is_root⟩ := ok_is_root (P := P) (w := w) (base := base) E
  obtain ⟨fd, F⟩ := E.d_checked_root
  have nd := sc_checked_root.nd
  refine ⟨fd, F, def_ok F sc_checked_root (by decide) (fun _ _ _ _ _ _ us hl => match us, hl with | [_, _, _], _ => rfl) fun cdv A outer s H Ex hr => ?_⟩
  exact (jss_cons (js_if (jt_not (jt_val (je_call D_is_root hr E.g_is_root (ja_cons (je_v (je_var 0)) (ja_cons (je_v (je_var 1)) (ja_cons (je_v (je_var 2)) ja_nil))) (by omega)))) (jss_one js_never) jss_nil)
 (jss_one (js_ret (je_var 2))))
theorem sc_first_states : FnScope N_first_states P_first_states (defScope s_first_states) := ⟨rfl, rfl, rfl, by decide +kernel, rfl, by decide +kernel, by decide +kernel⟩
theorem ok_first_states (E : Env w K mg) : ∃ fd, FunD K "first_states" "first_states" (defArgs s_first_states) (defBody s_first_states) (defScope s_first_states) [] [] (He.fAd K ("first_states", none)) fd ∧ DefOk P w K mg base 5 (He.fAd K ("first_states", none)) fd P_first_states F_first_states := by
  obtain ⟨fd_check_book, U_check_book, D_check_book⟩ := ok_check_book (P := P) (w := w) (base := base) E
  obtain ⟨fd_checked_start, U_checked_start, D_checked_start⟩ := ok_checked_start (P := P) (w := w) (base := base) E
  obtain ⟨fd_first_states_of, U_first_states_of, D_first_states_of⟩ := ok_first_states_of (P := P) (w := w) (base := base) E
  obtain ⟨fd_checked_root, U_checked_root, D_checked_root⟩ := ok_checked_root (P := P) (w := w) (base := base) E
  obtain ⟨fd, F⟩ := E.d_first_states
  have nd := sc_first_states.nd
  refine ⟨fd, F, def_ok F sc_first_states (by decide) (fun _ _ _ _ _ _ us hl => match us, hl with | [_, _, _], _ => rfl) fun cdv A outer s H Ex hr => ?_⟩
  exact (jss_cons (js_expr (je_call D_check_book hr E.g_check_book (ja_cons (je_v (je_var 0)) ja_nil) (by omega)))
 (jss_cons (js_set 3 nd (je_call D_checked_start hr E.g_checked_start (ja_cons (je_v (je_var 0)) (ja_cons (je_v (je_var 1)) ja_nil)) (by omega)))
 (jss_one (js_ret (je_call D_first_states_of hr E.g_first_states_of (ja_cons (je_v (je_var 3)) (ja_cons (je_call D_checked_root hr E.g_checked_root (ja_cons (je_v (je_var 0)) (ja_cons (je_v (je_var 3)) (ja_cons (je_v (je_var 2)) ja_nil))) (by omega)) ja_nil)) (by omega))))))
theorem sc_is_asked : FnScope N_is_asked P_is_asked (defScope s_is_asked) := ⟨rfl, rfl, rfl, by decide +kernel, rfl, by decide +kernel, by decide +kernel⟩
theorem ok_is_asked (E : Env w K mg) : ∃ fd, FunD K "is_asked" "is_asked" (defArgs s_is_asked) (defBody s_is_asked) (defScope s_is_asked) [] [] (He.fAd K ("is_asked", none)) fd ∧ DefOk P w K mg base 5 (He.fAd K ("is_asked", none)) fd P_is_asked F_is_asked := by
  obtain ⟨fd_check_book, U_check_book, D_check_book⟩ := ok_check_book (P := P) (w := w) (base := base) E
  obtain ⟨fd_as_asked, U_as_asked, D_as_asked⟩ := ok_as_asked (P := P) (w := w) (base := base) E
  obtain ⟨fd_checked_start, U_checked_start, D_checked_start⟩ := ok_checked_start (P := P) (w := w) (base := base) E
  obtain ⟨fd, F⟩ := E.d_is_asked
  have nd := sc_is_asked.nd
  refine ⟨fd, F, def_ok F sc_is_asked (by decide) (fun _ _ _ _ _ _ us hl => match us, hl with | [_, _, _], _ => rfl) fun cdv A outer s H Ex hr => ?_⟩
  exact (jss_cons (js_expr (je_call D_check_book hr E.g_check_book (ja_cons (je_v (je_var 0)) ja_nil) (by omega)))
 (jss_one (js_ret (je_isnt (je_call D_as_asked hr E.g_as_asked (ja_cons (je_v (je_var 0)) (ja_cons (je_call D_checked_start hr E.g_checked_start (ja_cons (je_v (je_var 0)) (ja_cons (je_v (je_var 1)) ja_nil)) (by omega)) (ja_cons (je_v (je_var 2)) ja_nil))) (by omega)) je_non))))
theorem sc__law_well : FnScope N__law_well P__law_well (defScope s__law_well) := ⟨rfl, rfl, rfl, by decide +kernel, rfl, by decide +kernel, by decide +kernel⟩
theorem ok__law_well (E : Env w K mg) : ∃ fd, FunD K "_law_well" "_law_well" (defArgs s__law_well) (defBody s__law_well) (defScope s__law_well) [] [] (He.fAd K ("_law_well", none)) fd ∧ DefOk P w K mg base 1 (He.fAd K ("_law_well", none)) fd P__law_well F__law_well := by
  obtain ⟨fd, F⟩ := E.d__law_well
  have nd := sc__law_well.nd
  refine ⟨fd, F, def_ok F sc__law_well (by decide) (fun _ _ _ _ _ _ us hl => match us, hl with | [_, _], _ => rfl) fun cdv A outer s H Ex hr => ?_⟩
  exact (jss_cons (js_set 2 nd (je_if (jt_lt (je_var 1) (je_len E.n_len (ja_cons (je_var 0) ja_nil))) (je_ix (je_var 0) (je_var 1)) (je_add (je_add (je_mod (je_intC E.n_int (ja_cons (je_sum rfl E.n_sum (ja_cons (je_sl (je_var 0) jo_none (jo_some je_int)) ja_nil)) ja_nil)) je_int) (je_mul je_int (je_var 1))) je_int)))
 (jss_cons (js_set 3 nd je_int)
 (jss_cons (js_for PassesOwn.never rfl (ji_enum E.n_enumerate (je_var 0)) (jg_tup rfl (jgs_cons (jg_name 4 nd) (jgs_cons (jg_name 5 nd) jgs_nil)))
 (jss_one (js_set 3 nd (je_mod (je_intC E.n_int (ja_cons (je_add (je_add (je_mul (je_var 3) je_int) (je_abs E.n_abs (ja_cons (je_var 5) ja_nil))) (je_var 4)) ja_nil)) je_int))))
 (jss_one (js_ret (je_fz (jm_lst (ja_cons (je_if (jt_ge (je_var 2) (je_pow je_int je_int)) (je_var 2) je_int) (ja_cons (je_add (je_mod (je_intC E.n_int (ja_cons (je_add (je_abs E.n_abs (ja_cons (je_var 2) ja_nil)) (je_mul je_int (je_var 3))) ja_nil)) je_int) (je_mul je_int (je_var 1))) (ja_cons je_int ja_nil))))))))))
theorem sc__law_draw : FnScope N__law_draw P__law_draw (defScope s__law_draw) := ⟨rfl, rfl, rfl, by decide +kernel, rfl, by decide +kernel, by decide +kernel⟩
theorem ok__law_draw (E : Env w K mg) : ∃ fd, FunD K "_law_draw" "_law_draw" (defArgs s__law_draw) (defBody s__law_draw) (defScope s__law_draw) [] [] (He.fAd K ("_law_draw", none)) fd ∧ DefOk P w K mg base 1 (He.fAd K ("_law_draw", none)) fd P__law_draw F__law_draw := by
  obtain ⟨fd, F⟩ := E.d__law_draw
  have nd := sc__law_draw.nd
  refine ⟨fd, F, def_ok F sc__law_draw (by decide) (fun _ _ _ _ _ _ us hl => match us, hl with | [_, _], _ => rfl) fun cdv A outer s H Ex hr => ?_⟩
  exact (jss_cons (js_if (jt_gt (je_ix (je_var 0) je_int) je_int) (jss_cons (js_set 3 nd (je_mod (je_intC E.n_int (ja_cons (je_ix (je_var 0) je_int) ja_nil)) (je_var 1)))
 (jss_cons (js_setIx 0 je_int (je_div (je_ix (je_var 0) je_int) (je_var 1)))
 (jss_one (js_ret (je_var 3))))) jss_nil)
 (jss_cons (js_setIx 0 je_int (je_add (je_ix (je_var 0) je_int) je_int))
 (jss_cons (js_set 2 nd (je_mod (je_pow (je_intC E.n_int (ja_cons (je_add (je_add (je_ix (je_var 0) je_int) (je_mul je_int (je_ix (je_var 0) je_int))) je_int) ja_nil)) je_int) je_int))
 (jss_one (js_ret (je_mod (je_div (je_mod (je_intC E.n_int (ja_cons (je_mul (je_add (je_var 2) (je_mul je_int (je_ix (je_var 0) je_int))) je_int) ja_nil)) je_int) je_int) (je_var 1)))))))
theorem sc__law_pick : FnScope N__law_pick P__law_pick (defScope s__law_pick) := ⟨rfl, rfl, rfl, by decide +kernel, rfl, by decide +kernel, by decide +kernel⟩
theorem ok__law_pick (E : Env w K mg) : ∃ fd, FunD K "_law_pick" "_law_pick" (defArgs s__law_pick) (defBody s__law_pick) (defScope s__law_pick) [] [] (He.fAd K ("_law_pick", none)) fd ∧ DefOk P w K mg base 2 (He.fAd K ("_law_pick", none)) fd P__law_pick F__law_pick := by
  obtain ⟨fd__law_draw, U__law_draw, D__law_draw⟩ := ok__law_draw (P := P) (w := w) (base := base) E
  obtain ⟨fd, F⟩ := E.d__law_pick
  have nd := sc__law_pick.nd
  refine ⟨fd, F, def_ok F sc__law_pick (by decide) (fun _ _ _ _ _ _ us hl => match us, hl with | [_, _], _ => rfl) fun cdv A outer s H Ex hr => ?_⟩
  exact (jss_one (js_ret (je_ix (je_var 1) (je_call D__law_draw hr E.g__law_draw (ja_cons (je_var 0) (ja_cons (je_len E.n_len (ja_cons (je_var 1) ja_nil)) ja_nil)) (by omega)))))
theorem sc__law_mixed : FnScope N__law_mixed P__law_mixed (defScope s__law_mixed) := ⟨rfl, rfl, rfl, by decide +kernel, rfl, by decide +kernel, by decide +kernel⟩
theorem ok__law_mixed (E : Env w K mg) : ∃ fd, FunD K "_law_mixed" "_law_mixed" (defArgs s__law_mixed) (defBody s__law_mixed) (defScope s__law_mixed) [] [] (He.fAd K ("_law_mixed", none)) fd ∧ DefOk P w K mg base 2 (He.fAd K ("_law_mixed", none)) fd P__law_mixed F__law_mixed := by
  obtain ⟨fd__law_draw, U__law_draw, D__law_draw⟩ := ok__law_draw (P := P) (w := w) (base := base) E
  obtain ⟨fd, F⟩ := E.d__law_mixed
  have nd := sc__law_mixed.nd
  refine ⟨fd, F, def_ok F sc__law_mixed (by decide) (fun _ _ _ _ _ _ us hl => match us, hl with | [_, _], _ => rfl) fun cdv A outer s H Ex hr => ?_⟩
  exact (jss_cons (js_setM 2 nd (jm_list rfl E.n_list (ja_cons (je_var 1) ja_nil)))
 (jss_one (js_ret (je_fz (jm_lc [("k", 3)] rfl nd (ji_rng1 E.n_range (je_len E.n_len (ja_cons (je_var 2) ja_nil))) (show blkC N__law_mixed (defScope s__law_mixed) _ _ = true by decide +kernel) (fun _ _ _ _ _ => (jg_name 3 nd)) (fun _ _ _ _ _ => jts_nil) (fun _ _ _ _ _ => (je_popAt 2 (je_call D__law_draw hr E.g__law_draw (ja_cons (je_var 0) (ja_cons (je_len E.n_len (ja_cons (je_var 2) ja_nil)) ja_nil)) (by omega)))))))))
theorem sc__law_same : FnScope N__law_same P__law_same (defScope s__law_same) := ⟨rfl, rfl, rfl, by decide +kernel, rfl, by decide +kernel, by decide +kernel⟩
theorem ok__law_same (E : Env w K mg) (n : Nat) : ∃ fd, FunD K "_law_same" "_law_same" (defArgs s__law_same) (defBody s__law_same) (defScope s__law_same) [] [] (He.fAd K ("_law_same", none)) fd ∧ DefOk P w K mg base (1 + n) (He.fAd K ("_law_same", none)) fd P__law_same (F__law_same n) := by
  obtain ⟨fd, F⟩ := E.d__law_same
  have nd := sc__law_same.nd
  refine ⟨fd, F, ?_⟩
  induction n with
  | zero => exact def_bad (F.bindsN (fun _ _ _ _ _ _ us hl => match us, hl with | [_, _], _ => rfl)) F.kp
  | succ n IH =>
    show DefOk P w K mg base (1 + n + 1) _ _ _ _
    refine def_ok F sc__law_same (by decide) (fun _ _ _ _ _ _ us hl => match us, hl with | [_, _], _ => rfl) fun cdv A outer s H Ex hr => ?_
    exact (jss_cons (js_if (jt_val (je_isT1 E.n_isinstance (je_var 1) E.n_dict boot_dict E.hI)) (jss_one (js_ret (je_and (je_isT1 E.n_isinstance (je_var 0) E.n_dict boot_dict E.hI) (je_one (je_call IH hr E.g__law_same (ja_cons (je_fz (jm_items rfl E.n_list (je_var 0))) (ja_cons (je_fz (jm_items rfl E.n_list (je_var 1))) ja_nil)) (by omega)))))) jss_nil)
 (jss_cons (js_if (jt_val (je_isTs E.n_isinstance (je_var 1) (pa_tys_cons rfl E.n_list boot_list (pa_tys_cons rfl E.n_tuple boot_tuple pa_nil)) E.hI)) (jss_cons (js_if (jt_w (jw_or (jt_ne hr (je_isT1 E.n_isinstance (je_var 0) E.n_list boot_list E.hI) (je_isT1 E.n_isinstance (je_var 1) E.n_list boot_list E.hI)) (jw_or1 (jt_ne hr (je_isT1 E.n_isinstance (je_var 0) E.n_tuple boot_tuple E.hI) (je_isT1 E.n_isinstance (je_var 1) E.n_tuple boot_tuple E.hI))))) (jss_one (js_ret je_bl)) jss_nil)
 (jss_one (js_ret (je_and (je_eq hr (je_len E.n_len (ja_cons (je_var 0) ja_nil)) (je_len E.n_len (ja_cons (je_var 1) ja_nil))) (je_one (je_all rfl E.n_all (ja_cons (je_fz (jm_lc [("one", 2), ("other", 3)] rfl nd (ji_zip E.n_zip (je_var 0) (je_var 1)) (show blkC N__law_same (defScope s__law_same) _ _ = true by decide +kernel) (fun _ _ _ _ _ => (jg_tup rfl (jgs_cons (jg_name 2 nd) (jgs_cons (jg_name 3 nd) jgs_nil)))) (fun _ _ _ _ _ => jts_nil) (fun _ _ _ _ _ => (je_call IH hr E.g__law_same (ja_cons (je_v (je_var 2)) (ja_cons (je_v (je_var 3)) ja_nil)) (by omega))))) ja_nil))))))) jss_nil)
 (jss_cons (js_if (jt_w (jw_or (jt_val (je_isTs E.n_isinstance (je_var 0) (pa_tys_cons rfl E.n_dict boot_dict (pa_tys_cons rfl E.n_list boot_list (pa_tys_cons rfl E.n_tuple boot_tuple pa_nil))) E.hI)) (jw_or1 (jt_ne hr (je_isT1 E.n_isinstance (je_var 0) E.n_bool boot_bool E.hI) (je_isT1 E.n_isinstance (je_var 1) E.n_bool boot_bool E.hI))))) (jss_one (js_ret je_bl)) jss_nil)
 (jss_one (js_ret (je_eq hr (je_var 0) (je_var 1)))))))
theorem sc__law_loose : FnScope N__law_loose P__law_loose (defScope s__law_loose) := ⟨rfl, rfl, rfl, by decide +kernel, rfl, by decide +kernel, by decide +kernel⟩
theorem ok__law_loose (E : Env w K mg) (n : Nat) : ∃ fd, FunD K "_law_loose" "_law_loose" (defArgs s__law_loose) (defBody s__law_loose) (defScope s__law_loose) [] [] (He.fAd K ("_law_loose", none)) fd ∧ DefOk P w K mg base (3 + n) (He.fAd K ("_law_loose", none)) fd P__law_loose (F__law_loose n) := by
  obtain ⟨fd__law_mixed, U__law_mixed, D__law_mixed⟩ := ok__law_mixed (P := P) (w := w) (base := base) E
  obtain ⟨fd__law_draw, U__law_draw, D__law_draw⟩ := ok__law_draw (P := P) (w := w) (base := base) E
  obtain ⟨fd, F⟩ := E.d__law_loose
  have nd := sc__law_loose.nd
  refine ⟨fd, F, ?_⟩
  induction n with
  | zero => exact def_bad (F.bindsN (fun _ _ _ _ _ _ us hl => match us, hl with | [_, _], _ => rfl)) F.kp
  | succ n IH =>
    show DefOk P w K mg base (3 + n + 1) _ _ _ _
    refine def_ok F sc__law_loose (by decide) (fun _ _ _ _ _ _ us hl => match us, hl with | [_, _], _ => rfl) fun cdv A outer s H Ex hr => ?_
    exact (jss_cons (js_if (jt_val (je_isT1 E.n_isinstance (je_var 1) E.n_dict boot_dict E.hI)) (jss_one (js_ret (je_fz (jm_dict rfl E.n_dict (je_fz (jm_lc [("key", 4)] rfl nd (ji_seq (je_call D__law_mixed hr E.g__law_mixed (ja_cons (je_var 0) (ja_cons (je_fz (jm_list rfl E.n_list (ja_cons (je_var 1) ja_nil))) ja_nil)) (by omega))) (show blkC N__law_loose (defScope s__law_loose) _ _ = true by decide +kernel) (fun _ _ _ _ _ => (jg_name 4 nd)) (fun _ _ _ _ _ => jts_nil) (fun _ _ _ _ _ => (je_tup (ja_cons (je_v (je_var 4)) (ja_cons (je_call IH hr E.g__law_loose (ja_cons (je_var 0) (ja_cons (je_dget (un1 hr) (je_var 1) (je_var 4)) ja_nil)) (by omega)) ja_nil)))))))))) jss_nil)
 (jss_cons (js_if (jt_not (jt_val (je_isTs E.n_isinstance (je_var 1) (pa_tys_cons rfl E.n_list boot_list (pa_tys_cons rfl E.n_tuple boot_tuple pa_nil)) E.hI))) (jss_one (js_ret (je_var 1))) jss_nil)
 (jss_cons (js_setLc 2 [("one", 3)] rfl nd (ji_seq (je_var 1)) (show blkC N__law_loose (defScope s__law_loose) _ _ = true by decide +kernel) (fun _ _ _ _ _ => (jg_name 3 nd)) (fun _ _ _ _ _ => jts_nil) (fun _ _ _ _ _ => (je_call IH hr E.g__law_loose (ja_cons (je_var 0) (ja_cons (je_v (je_var 3)) ja_nil)) (by omega))) (sw_true rfl rfl rfl (by decide +kernel)))
 (jss_one (js_ret (je_if (jt_eq hr (je_call D__law_draw hr E.g__law_draw (ja_cons (je_var 0) (ja_cons je_int ja_nil)) (by omega)) je_int) (je_var 2) (je_tuple E.n_tuple (ja_cons (je_var 2) ja_nil))))))))
theorem sc__law_m_names : FnScope N__law_m_names P__law_m_names (defScope s__law_m_names) := ⟨rfl, rfl, rfl, by decide +kernel, rfl, by decide +kernel, by decide +kernel⟩
theorem ok__law_m_names (E : Env w K mg) : ∃ fd, FunD K "_law_m_names" "_law_m_names" (defArgs s__law_m_names) (defBody s__law_m_names) (defScope s__law_m_names) [] [] (He.fAd K ("_law_m_names", none)) fd ∧ DefOk P w K mg base 3 (He.fAd K ("_law_m_names", none)) fd P__law_m_names F__law_m_names := by
  obtain ⟨fd__law_mixed, U__law_mixed, D__law_mixed⟩ := ok__law_mixed (P := P) (w := w) (base := base) E
  obtain ⟨fd, F⟩ := E.d__law_m_names
  have nd := sc__law_m_names.nd
  refine ⟨fd, F, def_ok F sc__law_m_names (by decide) (fun _ _ _ _ _ _ us hl => match us, hl with | [_, _], _ => rfl) fun cdv A outer s H Ex hr => ?_⟩
  exact (jss_cons (js_setM 2 nd (jm_lst (ja_cons je_str (ja_cons je_str (ja_cons je_str (ja_cons je_str (ja_cons je_str (ja_cons je_str (ja_cons je_str (ja_cons je_str (ja_cons je_str (ja_cons je_str (ja_cons je_str (ja_cons je_str ja_nil))))))))))))))
 (jss_one (js_ret (je_fz (jm_sorted E.n_sorted (ja_cons (je_sl (je_call D__law_mixed hr E.g__law_mixed (ja_cons (je_var 0) (ja_cons (je_v (je_var 2)) ja_nil)) (by omega)) jo_none (jo_some (je_var 1))) ja_nil))))))
theorem sc__law_m_ringed : FnScope N__law_m_ringed P__law_m_ringed (defScope s__law_m_ringed) := ⟨rfl, rfl, rfl, by decide +kernel, rfl, by decide +kernel, by decide +kernel⟩
theorem ok__law_m_ringed (E : Env w K mg) : ∃ fd, FunD K "_law_m_ringed" "_law_m_ringed" (defArgs s__law_m_ringed) (defBody s__law_m_ringed) (defScope s__law_m_ringed) [] [] (He.fAd K ("_law_m_ringed", none)) fd ∧ DefOk P w K mg base 3 (He.fAd K ("_law_m_ringed", none)) fd P__law_m_ringed F__law_m_ringed := by
  obtain ⟨fd__law_mixed, U__law_mixed, D__law_mixed⟩ := ok__law_mixed (P := P) (w := w) (base := base) E
  obtain ⟨fd__law_pick, U__law_pick, D__law_pick⟩ := ok__law_pick (P := P) (w := w) (base := base) E
  obtain ⟨fd__law_draw, U__law_draw, D__law_draw⟩ := ok__law_draw (P := P) (w := w) (base := base) E
  obtain ⟨fd, F⟩ := E.d__law_m_ringed
  have nd := sc__law_m_ringed.nd
  refine ⟨fd, F, def_ok F sc__law_m_ringed (by decide) (fun _ _ _ _ _ _ us hl => match us, hl with | [_, _, _], _ => rfl) fun cdv A outer s H Ex hr => ?_⟩
  exact (jss_cons (js_asg (je_tup (ja_cons (je_call D__law_pick hr E.g__law_pick (ja_cons (je_var 0) (ja_cons (je_v (je_var 2)) ja_nil)) (by omega)) (ja_cons (je_call D__law_mixed hr E.g__law_mixed (ja_cons (je_var 0) (ja_cons (je_v (je_var 1)) ja_nil)) (by omega)) ja_nil))) (jg_tup rfl (jgs_cons (jg_name 4 nd) (jgs_cons (jg_name 5 nd) jgs_nil))))
 (jss_cons (js_parEM 6 7 rfl nd (je_call D__law_draw hr E.g__law_draw (ja_cons (je_var 0) (ja_cons (je_len E.n_len (ja_cons (je_var 1) ja_nil)) ja_nil)) (by omega)) (jm_lst ja_nil))
 (jss_cons (js_for PassesOwn.never rfl (ji_seq (je_fz (jm_lst (ja_cons (je_sl (je_var 5) jo_none (jo_some (je_var 6))) (ja_cons (je_sl (je_var 5) (jo_some (je_var 6)) jo_none) ja_nil))))) (jg_name 3 nd)
 (jss_one (js_expr (je_ext 7 (je_fz (jm_lc [("at", 8), ("one", 9)] rfl nd (ji_enum E.n_enumerate (je_var 3)) (show blkC N__law_m_ringed (defScope s__law_m_ringed) _ _ = true by decide +kernel) (fun _ _ _ _ _ => (jg_tup rfl (jgs_cons (jg_name 8 nd) (jgs_cons (jg_name 9 nd) jgs_nil)))) (fun _ _ _ _ _ => jts_nil) (fun _ _ _ _ _ => (je_tup (ja_cons je_str (ja_cons (je_v (je_var 9)) (ja_cons (je_v (je_var 4)) (ja_cons (je_ix (je_var 3) (je_mod (je_add (je_var 8) je_int) (je_len E.n_len (ja_cons (je_var 3) ja_nil)))) ja_nil))))))))))))
 (jss_one (js_ret (je_var 7))))))
theorem sc__law_m_permit : FnScope N__law_m_permit P__law_m_permit (defScope s__law_m_permit) := ⟨rfl, rfl, rfl, by decide +kernel, rfl, by decide +kernel, by decide +kernel⟩
theorem ok__law_m_permit (E : Env w K mg) : ∃ fd, FunD K "_law_m_permit" "_law_m_permit" (defArgs s__law_m_permit) (defBody s__law_m_permit) (defScope s__law_m_permit) [] [] (He.fAd K ("_law_m_permit", none)) fd ∧ DefOk P w K mg base 3 (He.fAd K ("_law_m_permit", none)) fd P__law_m_permit F__law_m_permit := by
  obtain ⟨fd__law_pick, U__law_pick, D__law_pick⟩ := ok__law_pick (P := P) (w := w) (base := base) E
  obtain ⟨fd, F⟩ := E.d__law_m_permit
  have nd := sc__law_m_permit.nd
  refine ⟨fd, F, def_ok F sc__law_m_permit (by decide) (fun _ _ _ _ _ _ us hl => match us, hl with | [_, _, _, _], _ => rfl) fun cdv A outer s H Ex hr => ?_⟩
  exact (jss_cons (js_par3 4 5 6 rfl nd (je_call D__law_pick hr E.g__law_pick (ja_cons (je_var 0) (ja_cons (je_v (je_var 3)) ja_nil)) (by omega)) (je_call D__law_pick hr E.g__law_pick (ja_cons (je_var 0) (ja_cons (je_v (je_var 1)) ja_nil)) (by omega)) (je_call D__law_pick hr E.g__law_pick (ja_cons (je_var 0) (ja_cons (je_v (je_var 1)) ja_nil)) (by omega)))
 (jss_cons (js_if (jt_eq hr (je_var 4) je_str) (jss_one (js_ret (je_if (jt_ne hr (je_var 2) (je_fz (jm_lst ja_nil))) (je_tup (ja_cons je_str (ja_cons (je_v (je_var 5)) (ja_cons (je_call D__law_pick hr E.g__law_pick (ja_cons (je_var 0) (ja_cons (je_v (je_var 2)) ja_nil)) (by omega)) (ja_cons (je_v (je_var 6)) ja_nil))))) (je_tup (ja_cons je_str (ja_cons (je_v (je_var 5)) ja_nil)))))) jss_nil)
 (jss_one (js_ret (je_if (jt_in hr (je_var 4) (je_tup (ja_cons je_str (ja_cons je_str (ja_cons je_str (ja_cons je_str (ja_cons je_str ja_nil))))))) (je_tup (ja_cons (je_v (je_var 4)) (ja_cons (je_v (je_var 5)) ja_nil))) (je_tup (ja_cons (je_v (je_var 4)) (ja_cons (je_v (je_var 5)) (ja_cons (je_v (je_var 6)) ja_nil)))))))))
theorem sc__law_m_book : FnScope N__law_m_book P__law_m_book (defScope s__law_m_book) := ⟨rfl, rfl, rfl, by decide +kernel, rfl, by decide +kernel, by decide +kernel⟩
theorem ok__law_m_book (E : Env w K mg) : ∃ fd, FunD K "_law_m_book" "_law_m_book" (defArgs s__law_m_book) (defBody s__law_m_book) (defScope s__law_m_book) [] [] (He.fAd K ("_law_m_book", none)) fd ∧ DefOk P w K mg base 4 (He.fAd K ("_law_m_book", none)) fd P__law_m_book F__law_m_book := by
  obtain ⟨fd__law_m_names, U__law_m_names, D__law_m_names⟩ := ok__law_m_names (P := P) (w := w) (base := base) E
  obtain ⟨fd__law_draw, U__law_draw, D__law_draw⟩ := ok__law_draw (P := P) (w := w) (base := base) E
  obtain ⟨fd__law_mixed, U__law_mixed, D__law_mixed⟩ := ok__law_mixed (P := P) (w := w) (base := base) E
  obtain ⟨fd__law_pick, U__law_pick, D__law_pick⟩ := ok__law_pick (P := P) (w := w) (base := base) E
  obtain ⟨fd__law_m_ringed, U__law_m_ringed, D__law_m_ringed⟩ := ok__law_m_ringed (P := P) (w := w) (base := base) E
  obtain ⟨fd__law_m_permit, U__law_m_permit, D__law_m_permit⟩ := ok__law_m_permit (P := P) (w := w) (base := base) E
  obtain ⟨fd, F⟩ := E.d__law_m_book
  have nd := sc__law_m_book.nd
  refine ⟨fd, F, def_ok F sc__law_m_book (by decide) (fun _ _ _ _ _ _ us hl => match us, hl with | [_, _], _ => rfl) fun cdv A outer s H Ex hr => ?_⟩
  exact (jss_cons (js_parEM 5 6 rfl nd (je_call D__law_m_names hr E.g__law_m_names (ja_cons (je_var 0) (ja_cons (je_add je_int (je_call D__law_draw hr E.g__law_draw (ja_cons (je_var 0) (ja_cons je_int ja_nil)) (by omega))) ja_nil)) (by omega)) (jm_lst ja_nil))
 (jss_cons (js_setM 2 nd (jm_sorted E.n_sorted (ja_cons (je_sl (je_call D__law_mixed hr E.g__law_mixed (ja_cons (je_var 0) (ja_cons (je_fz (jm_lst (ja_cons je_str (ja_cons je_str (ja_cons je_str (ja_cons je_str ja_nil)))))) ja_nil)) (by omega)) jo_none (jo_some (je_call D__law_pick hr E.g__law_pick (ja_cons (je_var 0) (ja_cons (je_fz (jm_lst (ja_cons je_int (ja_cons je_int (ja_cons je_int (ja_cons je_int (ja_cons je_int (ja_cons je_int (ja_cons je_int ja_nil))))))))) ja_nil)) (by omega)))) ja_nil)))
 (jss_cons (js_setM 3 nd (jm_lst (ja_cons je_str (ja_cons je_str (ja_cons je_str (ja_cons je_str (ja_cons je_str (ja_cons je_str (ja_cons je_str (ja_cons je_str (ja_cons je_str (ja_cons je_str (ja_cons je_str (ja_cons je_str (ja_cons je_str ja_nil)))))))))))))))
 (jss_cons (js_if (jt_w (jw_and (jt_ne hr (je_var 2) (je_fz (jm_lst ja_nil))) (jw_and1 (jt_eq hr (je_call D__law_draw hr E.g__law_draw (ja_cons (je_var 0) (ja_cons je_int ja_nil)) (by omega)) je_int)))) (jss_one (js_expr (je_ext 6 (je_call D__law_m_ringed hr E.g__law_m_ringed (ja_cons (je_var 0) (ja_cons (je_v (je_var 5)) (ja_cons (je_v (je_var 2)) ja_nil))) (by omega))))) jss_nil)
 (jss_cons (js_for PassesOwn.never rfl (ji_rng1 E.n_range (je_var 1)) (jg_name 4 nd)
 (jss_cons (js_set 7 nd (je_call D__law_m_permit hr E.g__law_m_permit (ja_cons (je_var 0) (ja_cons (je_v (je_var 5)) (ja_cons (je_v (je_var 2)) (ja_cons (je_v (je_var 3)) ja_nil)))) (by omega)))
 (jss_one (js_expr (je_ext 6 (je_fz (jm_if (jt_nin hr (je_var 7) (je_var 6)) (jm_lst (ja_cons (je_v (je_var 7)) ja_nil)) (jm_lst ja_nil))))))))
 (jss_one (js_ret (je_tup (ja_cons (je_v (je_var 5)) (ja_cons (je_v (je_var 2)) (ja_cons (je_fz (jm_sorted E.n_sorted (ja_cons (je_var 6) ja_nil))) ja_nil)))))))))))
theorem sc__law_m_start : FnScope N__law_m_start P__law_m_start (defScope s__law_m_start) := ⟨rfl, rfl, rfl, by decide +kernel, rfl, by decide +kernel, by decide +kernel⟩
theorem ok__law_m_start (E : Env w K mg) : ∃ fd, FunD K "_law_m_start" "_law_m_start" (defArgs s__law_m_start) (defBody s__law_m_start) (defScope s__law_m_start) [] [] (He.fAd K ("_law_m_start", none)) fd ∧ DefOk P w K mg base 3 (He.fAd K ("_law_m_start", none)) fd P__law_m_start F__law_m_start := by
  obtain ⟨fd__law_draw, U__law_draw, D__law_draw⟩ := ok__law_draw (P := P) (w := w) (base := base) E
  obtain ⟨fd__law_mixed, U__law_mixed, D__law_mixed⟩ := ok__law_mixed (P := P) (w := w) (base := base) E
  obtain ⟨fd__law_pick, U__law_pick, D__law_pick⟩ := ok__law_pick (P := P) (w := w) (base := base) E
  obtain ⟨fd, F⟩ := E.d__law_m_start
  have nd := sc__law_m_start.nd
  refine ⟨fd, F, def_ok F sc__law_m_start (by decide) (fun _ _ _ _ _ _ us hl => match us, hl with | [_, _], _ => rfl) fun cdv A outer s H Ex hr => ?_⟩
  exact (jss_cons (js_setM 2 nd (jm_lst ja_nil))
 (jss_cons (js_for PassesOwn.never rfl (ji_rng1 E.n_range (je_call D__law_draw hr E.g__law_draw (ja_cons (je_var 0) (ja_cons je_int ja_nil)) (by omega))) (jg_name 3 nd)
 (jss_one (js_expr (je_app 2 (je_fz (jm_sorted E.n_sorted (ja_cons (je_sl (je_call D__law_mixed hr E.g__law_mixed (ja_cons (je_var 0) (ja_cons (je_ix (je_var 1) je_int) ja_nil)) (by omega)) jo_none (jo_some (je_call D__law_pick hr E.g__law_pick (ja_cons (je_var 0) (ja_cons (je_fz (jm_lst (ja_cons je_int (ja_cons je_int (ja_cons je_int (ja_cons je_int (ja_cons je_int ja_nil))))))) ja_nil)) (by omega)))) ja_nil)))))))
 (jss_one (js_ret (je_var 2)))))
theorem sc__law_m_passed : FnScope N__law_m_passed P__law_m_passed (defScope s__law_m_passed) := ⟨rfl, rfl, rfl, by decide +kernel, rfl, by decide +kernel, by decide +kernel⟩
theorem ok__law_m_passed (E : Env w K mg) : ∃ fd, FunD K "_law_m_passed" "_law_m_passed" (defArgs s__law_m_passed) (defBody s__law_m_passed) (defScope s__law_m_passed) [] [] (He.fAd K ("_law_m_passed", none)) fd ∧ DefOk P w K mg base 12 (He.fAd K ("_law_m_passed", none)) fd P__law_m_passed F__law_m_passed := by
  obtain ⟨fd__law_loose, U__law_loose, D__law_loose⟩ := ok__law_loose (P := P) (w := w) (base := base) E 8
  obtain ⟨fd__law_mixed, U__law_mixed, D__law_mixed⟩ := ok__law_mixed (P := P) (w := w) (base := base) E
  obtain ⟨fd, F⟩ := E.d__law_m_passed
  have nd := sc__law_m_passed.nd
  refine ⟨fd, F, def_ok F sc__law_m_passed (by decide) (fun _ _ _ _ _ _ us hl => match us, hl with | [_, _], _ => rfl) fun cdv A outer s H Ex hr => ?_⟩
  exact (jss_one (js_ret (je_fz (jm_lc [("some", 2)] rfl nd (ji_seq (je_var 1)) (show blkC N__law_m_passed (defScope s__law_m_passed) _ _ = true by decide +kernel) (fun _ _ _ _ _ => (jg_name 2 nd)) (fun _ _ _ _ _ => jts_nil) (fun _ _ _ _ _ => (je_call D__law_loose hr E.g__law_loose (ja_cons (je_var 0) (ja_cons (je_call D__law_mixed hr E.g__law_mixed (ja_cons (je_var 0) (ja_cons (je_v (je_var 2)) ja_nil)) (by omega)) ja_nil)) (by omega)))))))
theorem sc__law_m_states : FnScope N__law_m_states P__law_m_states (defScope s__law_m_states) := ⟨rfl, rfl, rfl, by decide +kernel, rfl, by decide +kernel, by decide +kernel⟩
theorem ok__law_m_states (E : Env w K mg) : ∃ fd, FunD K "_law_m_states" "_law_m_states" (defArgs s__law_m_states) (defBody s__law_m_states) (defScope s__law_m_states) [] [] (He.fAd K ("_law_m_states", none)) fd ∧ DefOk P w K mg base 1 (He.fAd K ("_law_m_states", none)) fd P__law_m_states F__law_m_states := by
  obtain ⟨fd, F⟩ := E.d__law_m_states
  have nd := sc__law_m_states.nd
  refine ⟨fd, F, def_ok F sc__law_m_states (by decide) (fun _ _ _ _ _ _ us hl => match us, hl with | [_], _ => rfl) fun cdv A outer s H Ex hr => ?_⟩
  exact (jss_one (js_ret (je_fz (jm_sorted E.n_sorted (ja_cons (je_add (je_ix (je_var 0) je_int) (je_fz (jm_lst (ja_cons je_str ja_nil)))) ja_nil)))))
theorem sc__law_m_moves : FnScope N__law_m_moves P__law_m_moves (defScope s__law_m_moves) := ⟨rfl, rfl, rfl, by decide +kernel, rfl, by decide +kernel, by decide +kernel⟩
theorem ok__law_m_moves (E : Env w K mg) : ∃ fd, FunD K "_law_m_moves" "_law_m_moves" (defArgs s__law_m_moves) (defBody s__law_m_moves) (defScope s__law_m_moves) [] [] (He.fAd K ("_law_m_moves", none)) fd ∧ DefOk P w K mg base 1 (He.fAd K ("_law_m_moves", none)) fd P__law_m_moves F__law_m_moves := by
  obtain ⟨fd, F⟩ := E.d__law_m_moves
  have nd := sc__law_m_moves.nd
  refine ⟨fd, F, def_ok F sc__law_m_moves (by decide) (fun _ _ _ _ _ _ us hl => match us, hl with | [_], _ => rfl) fun cdv A outer s H Ex hr => ?_⟩
  exact (jss_cons (js_setLc 1 [("label", 2)] rfl nd (ji_seq (je_ix (je_var 0) je_int)) (show blkC N__law_m_moves (defScope s__law_m_moves) _ _ = true by decide +kernel) (fun _ _ _ _ _ => (jg_name 2 nd)) (fun _ _ _ _ _ => jts_nil) (fun _ _ _ _ _ => (je_tup (ja_cons (je_v (je_var 2)) (ja_cons (je_v (je_var 2)) ja_nil)))) (sw_true rfl rfl rfl (by decide +kernel)))
 (jss_one (js_ret (je_fz (jm_sorted E.n_sorted (ja_cons (je_add (je_fz (jm_lc [("one", 3)] rfl nd (ji_seq (je_ix (je_var 0) je_int)) (show blkC N__law_m_moves (defScope s__law_m_moves) _ _ = true by decide +kernel) (fun _ _ _ _ _ => (jg_name 3 nd)) (fun _ _ _ _ _ => (jts_one (jt_eq hr (je_ix (je_var 3) je_int) je_str))) (fun _ _ _ _ _ => (je_sl (je_var 3) (jo_some je_int) jo_none)))) (je_fz (jm_lc [("label", 2), ("same", 4)] rfl nd (ji_seq (je_var 1)) (show blkC N__law_m_moves (defScope s__law_m_moves) _ _ = true by decide +kernel) (fun _ _ _ _ _ => (jg_tup rfl (jgs_cons (jg_name 2 nd) (jgs_cons (jg_name 4 nd) jgs_nil)))) (fun _ _ _ _ _ => jts_nil) (fun _ _ _ _ _ => (je_tup (ja_cons je_str (ja_cons (je_v (je_var 2)) (ja_cons je_str ja_nil)))))))) ja_nil))))))
theorem sc__law_m_roots : FnScope N__law_m_roots P__law_m_roots (defScope s__law_m_roots) := ⟨rfl, rfl, rfl, by decide +kernel, rfl, by decide +kernel, by decide +kernel⟩
theorem ok__law_m_roots (E : Env w K mg) : ∃ fd, FunD K "_law_m_roots" "_law_m_roots" (defArgs s__law_m_roots) (defBody s__law_m_roots) (defScope s__law_m_roots) [] [] (He.fAd K ("_law_m_roots", none)) fd ∧ DefOk P w K mg base 2 (He.fAd K ("_law_m_roots", none)) fd P__law_m_roots F__law_m_roots := by
  obtain ⟨fd__law_m_states, U__law_m_states, D__law_m_states⟩ := ok__law_m_states (P := P) (w := w) (base := base) E
  obtain ⟨fd, F⟩ := E.d__law_m_roots
  have nd := sc__law_m_roots.nd
  refine ⟨fd, F, def_ok F sc__law_m_roots (by decide) (fun _ _ _ _ _ _ us hl => match us, hl with | [_, _], _ => rfl) fun cdv A outer s H Ex hr => ?_⟩
  exact (jss_cons (js_setLc 2 [("one", 3)] rfl nd (ji_seq (je_call D__law_m_states hr E.g__law_m_states (ja_cons (je_v (je_var 0)) ja_nil) (by omega))) (show blkC N__law_m_roots (defScope s__law_m_roots) _ _ = true by decide +kernel) (fun _ _ _ _ _ => (jg_name 3 nd)) (fun _ _ _ _ _ => (jts_one (jt_w (jw_or (jt_eq hr (je_var 3) je_str) (jw_or1 (jt_in hr (je_tup (ja_cons je_str (ja_cons (je_v (je_var 3)) ja_nil))) (je_ix (je_var 0) je_int))))))) (fun _ _ _ _ _ => (je_v (je_var 3))) (sw_true rfl rfl rfl (by decide +kernel)))
 (jss_one (js_ret (je_add (je_fz (jm_lc [("index", 4), ("roles", 5)] rfl nd (ji_enum E.n_enumerate (je_var 1)) (show blkC N__law_m_roots (defScope s__law_m_roots) _ _ = true by decide +kernel) (fun _ _ _ _ _ => (jg_tup rfl (jgs_cons (jg_name 4 nd) (jgs_cons (jg_name 5 nd) jgs_nil)))) (fun _ _ _ _ _ => jts_nil) (fun _ _ _ _ _ => (je_tup (ja_cons (je_v (je_var 4)) (ja_cons (je_fz (jm_list rfl E.n_list (ja_cons (je_var 5) ja_nil))) ja_nil)))))) (je_fz (jm_lc [("one", 3)] rfl nd (ji_seq (je_var 2)) (show blkC N__law_m_roots (defScope s__law_m_roots) _ _ = true by decide +kernel) (fun _ _ _ _ _ => (jg_name 3 nd)) (fun _ _ _ _ _ => jts_nil) (fun _ _ _ _ _ => (je_tup (ja_cons (je_v (je_var 3)) (ja_cons (je_fz (jm_lst (ja_cons (je_v (je_var 3)) ja_nil))) ja_nil))))))))))
theorem sc__law_is_asked : FnScope N__law_is_asked P__law_is_asked (defScope s__law_is_asked) := ⟨rfl, rfl, rfl, by decide +kernel, rfl, by decide +kernel, by decide +kernel⟩
theorem ok__law_is_asked (E : Env w K mg) : ∃ fd, FunD K "_law_is_asked" "_law_is_asked" (defArgs s__law_is_asked) (defBody s__law_is_asked) (defScope s__law_is_asked) [] [] (He.fAd K ("_law_is_asked", none)) fd ∧ DefOk P w K mg base 1 (He.fAd K ("_law_is_asked", none)) fd P__law_is_asked F__law_is_asked := by
  obtain ⟨fd, F⟩ := E.d__law_is_asked
  have nd := sc__law_is_asked.nd
  refine ⟨fd, F, def_ok F sc__law_is_asked (by decide) (fun _ _ _ _ _ _ us hl => match us, hl with | [_, _, _], _ => rfl) fun cdv A outer s H Ex hr => ?_⟩
  exact (jss_cons (js_if (jt_w (jw_or (jt_not (jt_val (je_isTs E.n_isinstance (je_var 2) (pa_tys_cons rfl E.n_list boot_list (pa_tys_cons rfl E.n_tuple boot_tuple pa_nil)) E.hI))) (jw_or (jt_ne hr (je_len E.n_len (ja_cons (je_var 2) ja_nil)) je_int) (jw_or1 (jt_not (jt_val (je_isTs E.n_isinstance (je_ix (je_var 2) je_int) (pa_tys_cons rfl E.n_list boot_list (pa_tys_cons rfl E.n_tuple boot_tuple pa_nil)) E.hI))))))) (jss_one (js_ret je_bl)) jss_nil)
 (jss_cons (js_asg (je_var 2) (jg_tup rfl (jgs_cons (jg_name 3 nd) (jgs_cons (jg_name 4 nd) jgs_nil))))
 (jss_cons (js_if (jt_val (je_isT1 E.n_isinstance (je_var 3) E.n_str boot_str E.hI)) (jss_one (js_set 5 nd (je_or (je_eq hr (je_var 3) je_str) (je_one (je_in hr (je_tup (ja_cons je_str (ja_cons (je_v (je_var 3)) ja_nil))) (je_ix (je_var 0) je_int)))))) (jss_one (js_set 5 nd (je_and (je_isT1 E.n_isinstance (je_var 3) E.n_int boot_int E.hI) (je_and (je_not (je_isT1 E.n_isinstance (je_var 3) E.n_bool boot_bool E.hI)) (je_one (je_lelt je_int (je_var 3) (je_len E.n_len (ja_cons (je_var 1) ja_nil)))))))))
 (jss_one (js_ret (je_and (je_var 5) (je_one (je_all rfl E.n_all (ja_cons (je_fz (jm_lc [("label", 6)] rfl nd (ji_seq (je_var 4)) (show blkC N__law_is_asked (defScope s__law_is_asked) _ _ = true by decide +kernel) (fun _ _ _ _ _ => (jg_name 6 nd)) (fun _ _ _ _ _ => jts_nil) (fun _ _ _ _ _ => (je_and (je_isT1 E.n_isinstance (je_var 6) E.n_str boot_str E.hI) (je_one (je_in hr (je_var 6) (je_ix (je_var 0) je_int))))))) ja_nil)))))))))
theorem sc__law_near : FnScope N__law_near P__law_near (defScope s__law_near) := ⟨rfl, rfl, rfl, by decide +kernel, rfl, by decide +kernel, by decide +kernel⟩
theorem ok__law_near (E : Env w K mg) : ∃ fd, FunD K "_law_near" "_law_near" (defArgs s__law_near) (defBody s__law_near) (defScope s__law_near) [] [] (He.fAd K ("_law_near", none)) fd ∧ DefOk P w K mg base 3 (He.fAd K ("_law_near", none)) fd P__law_near F__law_near := by
  obtain ⟨fd__law_m_roots, U__law_m_roots, D__law_m_roots⟩ := ok__law_m_roots (P := P) (w := w) (base := base) E
  obtain ⟨fd__law_pick, U__law_pick, D__law_pick⟩ := ok__law_pick (P := P) (w := w) (base := base) E
  obtain ⟨fd__law_draw, U__law_draw, D__law_draw⟩ := ok__law_draw (P := P) (w := w) (base := base) E
  obtain ⟨fd, F⟩ := E.d__law_near
  have nd := sc__law_near.nd
  refine ⟨fd, F, def_ok F sc__law_near (by decide) (fun _ _ _ _ _ _ us hl => match us, hl with | [_, _, _], _ => rfl) fun cdv A outer s H Ex hr => ?_⟩
  exact (jss_cons (js_setLc 3 [("root", 8), ("some", 10)] rfl nd (ji_seq (je_call D__law_m_roots hr E.g__law_m_roots (ja_cons (je_v (je_var 1)) (ja_cons (je_v (je_var 2)) ja_nil)) (by omega))) (show blkC N__law_near (defScope s__law_near) _ _ = true by decide +kernel) (fun _ _ _ _ _ => (jg_tup rfl (jgs_cons (jg_name 8 nd) (jgs_cons (jg_name 10 nd) jgs_nil)))) (fun _ _ _ _ _ => jts_nil) (fun _ _ _ _ _ => (je_v (je_var 8))) (sw_true rfl rfl rfl (by decide +kernel)))
 (jss_cons (js_parEE 8 9 rfl nd (je_call D__law_pick hr E.g__law_pick (ja_cons (je_var 0) (ja_cons (je_v (je_var 3)) ja_nil)) (by omega)) (je_tuple E.n_tuple (ja_cons (je_fz (jm_lc [("k", 11)] rfl nd (ji_rng1 E.n_range (je_if (jt_tru (je_ix (je_var 1) je_int)) (je_call D__law_draw hr E.g__law_draw (ja_cons (je_var 0) (ja_cons je_int ja_nil)) (by omega)) je_int)) (show blkC N__law_near (defScope s__law_near) _ _ = true by decide +kernel) (fun _ _ _ _ _ => (jg_name 11 nd)) (fun _ _ _ _ _ => jts_nil) (fun _ _ _ _ _ => (je_call D__law_pick hr E.g__law_pick (ja_cons (je_var 0) (ja_cons (je_ix (je_var 1) je_int) ja_nil)) (by omega))))) ja_nil)))
 (jss_cons (js_set 4 nd (je_add (je_ix (je_var 1) je_int) (je_fz (jm_lst (ja_cons (je_len E.n_len (ja_cons (je_var 2) ja_nil)) (ja_cons (je_neg je_int) (ja_cons je_bl (ja_cons je_bl (ja_cons je_non (ja_cons je_str (ja_cons je_str (ja_cons (je_tup (ja_cons (je_v (je_var 8)) ja_nil)) (ja_cons (je_pow je_int je_int) (ja_cons je_str (ja_cons (je_add (je_ix (je_ix (je_var 1) je_int) je_int) je_str) ja_nil)))))))))))))))
 (jss_cons (js_setM 5 nd (jm_lst (ja_cons (je_tup (ja_cons (je_v (je_var 8)) (ja_cons (je_v (je_var 9)) ja_nil))) (ja_cons (je_tup (ja_cons (je_call D__law_pick hr E.g__law_pick (ja_cons (je_var 0) (ja_cons (je_v (je_var 4)) ja_nil)) (by omega)) (ja_cons (je_v (je_var 9)) ja_nil))) (ja_cons (je_tup (ja_cons (je_call D__law_pick hr E.g__law_pick (ja_cons (je_var 0) (ja_cons (je_v (je_var 4)) ja_nil)) (by omega)) (ja_cons (je_v (je_var 9)) ja_nil))) (ja_cons (je_tup (ja_cons (je_v (je_var 8)) (ja_cons (je_tup ja_nil) ja_nil))) (ja_cons (je_v (je_var 8)) (ja_cons (je_tup (ja_cons (je_v (je_var 8)) ja_nil)) ja_nil))))))))
 (jss_cons (js_set 6 nd (je_call D__law_pick hr E.g__law_pick (ja_cons (je_var 0) (ja_cons (je_fz (jm_lst (ja_cons je_int (ja_cons je_non (ja_cons je_bl (ja_cons je_str (ja_cons je_str (ja_cons (je_tup (ja_cons je_str ja_nil)) (ja_cons je_str (ja_cons je_str ja_nil)))))))))) ja_nil)) (by omega)))
 (jss_cons (js_set 7 nd (je_call D__law_draw hr E.g__law_draw (ja_cons (je_var 0) (ja_cons (je_add (je_len E.n_len (ja_cons (je_var 9) ja_nil)) je_int) ja_nil)) (by omega)))
 (jss_cons (js_expr (je_ext 5 (je_fz (jm_lst (ja_cons (je_tup (ja_cons (je_v (je_var 8)) (ja_cons (je_add (je_add (je_sl (je_var 9) jo_none (jo_some (je_var 7))) (je_tup (ja_cons (je_v (je_var 6)) ja_nil))) (je_sl (je_var 9) (jo_some (je_var 7)) jo_none)) ja_nil))) (ja_cons (je_tup (ja_cons (je_v (je_var 8)) (ja_cons je_str ja_nil))) (ja_cons (je_tup (ja_cons (je_v (je_var 8)) (ja_cons je_str ja_nil))) (ja_cons (je_tup (ja_cons (je_v (je_var 8)) (ja_cons je_non ja_nil))) (ja_cons (je_tup (ja_cons (je_v (je_var 8)) (ja_cons (je_v (je_var 9)) (ja_cons (je_v (je_var 9)) ja_nil)))) ja_nil)))))))))
 (jss_one (js_ret (je_add (je_var 5) (je_fz (jm_lst (ja_cons je_non (ja_cons (je_fz jm_dnew) (ja_cons (je_fz (jm_lst ja_nil)) (ja_cons je_int (ja_cons je_str (ja_cons (je_tup (ja_cons (je_v (je_var 9)) (ja_cons (je_v (je_var 8)) ja_nil))) (ja_cons (je_tup (ja_cons je_str (ja_cons (je_v (je_var 9)) ja_nil))) (ja_cons (je_fz (jm_done (je_var 8) (je_var 9))) ja_nil))))))))))))))))))))
theorem sc__law_asked_right : FnScope N__law_asked_right P__law_asked_right (defScope s__law_asked_right) := ⟨rfl, rfl, rfl, by decide +kernel, rfl, by decide +kernel, by decide +kernel⟩
theorem ok__law_asked_right (E : Env w K mg) : ∃ fd, FunD K "_law_asked_right" "_law_asked_right" (defArgs s__law_asked_right) (defBody s__law_asked_right) (defScope s__law_asked_right) [] [] (He.fAd K ("_law_asked_right", none)) fd ∧ DefOk P w K mg base 12 (He.fAd K ("_law_asked_right", none)) fd P__law_asked_right F__law_asked_right := by
  obtain ⟨fd__law_near, U__law_near, D__law_near⟩ := ok__law_near (P := P) (w := w) (base := base) E
  obtain ⟨fd__law_loose, U__law_loose, D__law_loose⟩ := ok__law_loose (P := P) (w := w) (base := base) E 8
  obtain ⟨fd__law_is_asked, U__law_is_asked, D__law_is_asked⟩ := ok__law_is_asked (P := P) (w := w) (base := base) E
  obtain ⟨fd_is_asked, U_is_asked, D_is_asked⟩ := ok_is_asked (P := P) (w := w) (base := base) E
  obtain ⟨fd__law_same, U__law_same, D__law_same⟩ := ok__law_same (P := P) (w := w) (base := base) E 8
  have K_is_asked_thing_start_book := kw_is_asked_thing_start_book U_is_asked
  obtain ⟨fd, F⟩ := E.d__law_asked_right
  have nd := sc__law_asked_right.nd
  refine ⟨fd, F, def_ok F sc__law_asked_right (by decide) (fun _ _ _ _ _ _ us hl => match us, hl with | [_, _, _, _], _ => rfl) fun cdv A outer s H Ex hr => ?_⟩
  exact (jss_cons (js_for PassesOwn.never rfl (ji_seq (je_call D__law_near hr E.g__law_near (ja_cons (je_var 0) (ja_cons (je_v (je_var 1)) (ja_cons (je_v (je_var 2)) ja_nil))) (by omega))) (jg_name 4 nd)
 (jss_cons (js_parEE 6 7 rfl nd (je_call D__law_loose hr E.g__law_loose (ja_cons (je_var 0) (ja_cons (je_v (je_var 4)) ja_nil)) (by omega)) (je_call D__law_loose hr E.g__law_loose (ja_cons (je_var 0) (ja_cons (je_v (je_var 2)) ja_nil)) (by omega)))
 (jss_cons (js_parEE 8 9 rfl nd (je_repr hr E.n_repr (ja_cons (je_fz (jm_lst (ja_cons (je_v (je_var 6)) (ja_cons (je_v (je_var 7)) ja_nil)))) ja_nil)) (je_call D__law_is_asked hr E.g__law_is_asked (ja_cons (je_v (je_var 1)) (ja_cons (je_v (je_var 2)) (ja_cons (je_v (je_var 4)) ja_nil))) (by omega)))
 (jss_cons (js_setM 5 nd (jm_lst (ja_cons (je_call D_is_asked hr E.g_is_asked (ja_cons (je_v (je_var 3)) (ja_cons (je_v (je_var 7)) (ja_cons (je_v (je_var 6)) ja_nil))) (by omega)) (ja_cons (je_callK D_is_asked (K_is_asked_thing_start_book) hr E.g_is_asked (jk_cons (je_v (je_var 6)) (jk_cons (je_v (je_var 7)) (jk_cons (je_v (je_var 3)) jk_nil))) (by omega)) ja_nil))))
 (jss_one (js_if (jt_w (jw_or (jt_not (jt_val (je_call D__law_same hr E.g__law_same (ja_cons (je_v (je_var 5)) (ja_cons (je_fz (jm_lst (ja_cons (je_v (je_var 9)) (ja_cons (je_v (je_var 9)) ja_nil)))) ja_nil)) (by omega)))) (jw_or1 (jt_ne hr (je_repr hr E.n_repr (ja_cons (je_fz (jm_lst (ja_cons (je_v (je_var 6)) (ja_cons (je_v (je_var 7)) ja_nil)))) ja_nil)) (je_var 8))))) (jss_one (js_ret je_bl)) jss_nil))))))
 (jss_one (js_ret (je_is (je_call D_is_asked hr E.g_is_asked (ja_cons (je_v (je_var 3)) (ja_cons (je_v (je_var 2)) (ja_cons (je_v (je_var 3)) ja_nil))) (by omega)) je_bl))))
theorem sc__law_told_right : FnScope N__law_told_right P__law_told_right (defScope s__law_told_right) := ⟨rfl, rfl, rfl, by decide +kernel, rfl, by decide +kernel, by decide +kernel⟩
theorem ok__law_told_right (E : Env w K mg) : ∃ fd, FunD K "_law_told_right" "_law_told_right" (defArgs s__law_told_right) (defBody s__law_told_right) (defScope s__law_told_right) [] [] (He.fAd K ("_law_told_right", none)) fd ∧ DefOk P w K mg base 12 (He.fAd K ("_law_told_right", none)) fd P__law_told_right F__law_told_right := by
  obtain ⟨fd__law_m_roots, U__law_m_roots, D__law_m_roots⟩ := ok__law_m_roots (P := P) (w := w) (base := base) E
  obtain ⟨fd__law_loose, U__law_loose, D__law_loose⟩ := ok__law_loose (P := P) (w := w) (base := base) E 8
  obtain ⟨fd__law_m_moves, U__law_m_moves, D__law_m_moves⟩ := ok__law_m_moves (P := P) (w := w) (base := base) E
  obtain ⟨fd__law_m_states, U__law_m_states, D__law_m_states⟩ := ok__law_m_states (P := P) (w := w) (base := base) E
  obtain ⟨fd_roots_of, U_roots_of, D_roots_of⟩ := ok_roots_of (P := P) (w := w) (base := base) E
  obtain ⟨fd_moves_of, U_moves_of, D_moves_of⟩ := ok_moves_of (P := P) (w := w) (base := base) E
  obtain ⟨fd_states_of, U_states_of, D_states_of⟩ := ok_states_of (P := P) (w := w) (base := base) E
  obtain ⟨fd_first_states, U_first_states, D_first_states⟩ := ok_first_states (P := P) (w := w) (base := base) E
  obtain ⟨fd__law_same, U__law_same, D__law_same⟩ := ok__law_same (P := P) (w := w) (base := base) E 8
  obtain ⟨fd__law_spoiled, U__law_spoiled, D__law_spoiled⟩ := ok__law_spoiled (P := P) (w := w) (base := base) E 8
  have K_first_states_root_start_book := kw_first_states_root_start_book U_first_states
  have K_moves_of_book := kw_moves_of_book U_moves_of
  have K_roots_of_start_book := kw_roots_of_start_book U_roots_of
  have K_states_of_book := kw_states_of_book U_states_of
  obtain ⟨fd, F⟩ := E.d__law_told_right
  have nd := sc__law_told_right.nd
  refine ⟨fd, F, def_ok F sc__law_told_right (by decide) (fun _ _ _ _ _ _ us hl => match us, hl with | [_, _, _, _], _ => rfl) fun cdv A outer s H Ex hr => ?_⟩
  exact (jss_cons (js_asg (je_tup (ja_cons (je_call D__law_loose hr E.g__law_loose (ja_cons (je_var 0) (ja_cons (je_v (je_var 2)) ja_nil)) (by omega)) (ja_cons (je_call D__law_m_roots hr E.g__law_m_roots (ja_cons (je_v (je_var 1)) (ja_cons (je_v (je_var 2)) ja_nil)) (by omega)) ja_nil))) (jg_tup rfl (jgs_cons (jg_name 7 nd) (jgs_cons (jg_name 8 nd) jgs_nil))))
 (jss_cons (js_parEM 9 10 rfl nd (je_repr hr E.n_repr (ja_cons (je_var 7) ja_nil)) (jm_lst (ja_cons (je_call D__law_m_states hr E.g__law_m_states (ja_cons (je_v (je_var 1)) ja_nil) (by omega)) (ja_cons (je_call D__law_m_moves hr E.g__law_m_moves (ja_cons (je_v (je_var 1)) ja_nil) (by omega)) (ja_cons (je_fz (jm_lc [("root", 11), ("some", 12)] rfl nd (ji_seq (je_var 8)) (show blkC N__law_told_right (defScope s__law_told_right) _ _ = true by decide +kernel) (fun _ _ _ _ _ => (jg_tup rfl (jgs_cons (jg_name 11 nd) (jgs_cons (jg_name 12 nd) jgs_nil)))) (fun _ _ _ _ _ => jts_nil) (fun _ _ _ _ _ => (je_v (je_var 11))))) ja_nil)))))
 (jss_cons (js_for PassesOwn.never rfl (ji_rng1 E.n_range je_int) (jg_name 4 nd)
 (jss_epoch [1, 2, 3, 4, 5, 6, 7, 8, 9, 10, 11, 12] (jps_cons (jp_s (js_setM 5 nd (jm_lst (ja_cons (je_call D_states_of hr E.g_states_of (ja_cons (je_v (je_var 3)) ja_nil) (by omega)) (ja_cons (je_callK D_moves_of (K_moves_of_book) hr E.g_moves_of (jk_cons (je_v (je_var 3)) jk_nil) (by omega)) (ja_cons (je_call D_roots_of hr E.g_roots_of (ja_cons (je_v (je_var 3)) (ja_cons (je_v (je_var 7)) ja_nil)) (by omega)) ja_nil))))))
 (jps_cons (jp_s (js_setLc 6 [("root", 11), ("some", 12)] rfl nd (ji_seq (je_var 8)) (show blkC N__law_told_right (defScope s__law_told_right) _ _ = true by decide +kernel) (fun _ _ _ _ _ => (jg_tup rfl (jgs_cons (jg_name 11 nd) (jgs_cons (jg_name 12 nd) jgs_nil)))) (fun _ _ _ _ _ => jts_nil) (fun _ _ _ _ _ => (je_call D_first_states hr E.g_first_states (ja_cons (je_v (je_var 3)) (ja_cons (je_v (je_var 7)) (ja_cons (je_v (je_var 11)) ja_nil))) (by omega))) (sw_true rfl rfl rfl (by decide +kernel))))
 (jps_cons (jp_s (js_if (jt_w (jw_or (jt_not (jt_val (je_call D__law_same hr E.g__law_same (ja_cons (je_v (je_var 5)) (ja_cons (je_v (je_var 10)) ja_nil)) (by omega)))) (jw_or (jt_not (jt_val (je_call D__law_same hr E.g__law_same (ja_cons (je_v (je_var 6)) (ja_cons (je_fz (jm_lc [("root", 11), ("some", 12)] rfl nd (ji_seq (je_var 8)) (show blkC N__law_told_right (defScope s__law_told_right) _ _ = true by decide +kernel) (fun _ _ _ _ _ => (jg_tup rfl (jgs_cons (jg_name 11 nd) (jgs_cons (jg_name 12 nd) jgs_nil)))) (fun _ _ _ _ _ => jts_nil) (fun _ _ _ _ _ => (je_v (je_var 12))))) ja_nil)) (by omega)))) (jw_or1 (jt_ne hr (je_repr hr E.n_repr (ja_cons (je_var 7) ja_nil)) (je_var 9)))))) (jss_one (js_ret je_bl)) jss_nil))
 (jps_one (jp_spoil D__law_spoiled hr E.g__law_spoiled (je_fz (jm_lst (ja_cons (je_v (je_var 5)) (ja_cons (je_v (je_var 6)) ja_nil)))))))))))
 (jss_cons (js_setM 5 nd (jm_lst (ja_cons (je_callK D_states_of (K_states_of_book) hr E.g_states_of (jk_cons (je_v (je_var 3)) jk_nil) (by omega)) (ja_cons (je_call D_moves_of hr E.g_moves_of (ja_cons (je_v (je_var 3)) ja_nil) (by omega)) (ja_cons (je_callK D_roots_of (K_roots_of_start_book) hr E.g_roots_of (jk_cons (je_v (je_var 7)) (jk_cons (je_v (je_var 3)) jk_nil)) (by omega)) ja_nil)))))
 (jss_cons (js_setLc 6 [("root", 11), ("some", 12)] rfl nd (ji_seq (je_var 8)) (show blkC N__law_told_right (defScope s__law_told_right) _ _ = true by decide +kernel) (fun _ _ _ _ _ => (jg_tup rfl (jgs_cons (jg_name 11 nd) (jgs_cons (jg_name 12 nd) jgs_nil)))) (fun _ _ _ _ _ => jts_nil) (fun _ _ _ _ _ => (je_callK D_first_states (K_first_states_root_start_book) hr E.g_first_states (jk_cons (je_v (je_var 11)) (jk_cons (je_v (je_var 2)) (jk_cons (je_v (je_var 3)) jk_nil))) (by omega))) (sw_true rfl rfl rfl (by decide +kernel)))
 (jss_one (js_ret (je_and (je_call D__law_same hr E.g__law_same (ja_cons (je_v (je_var 5)) (ja_cons (je_v (je_var 10)) ja_nil)) (by omega)) (je_one (je_call D__law_same hr E.g__law_same (ja_cons (je_v (je_var 6)) (ja_cons (je_fz (jm_lc [("root", 11), ("some", 12)] rfl nd (ji_seq (je_var 8)) (show blkC N__law_told_right (defScope s__law_told_right) _ _ = true by decide +kernel) (fun _ _ _ _ _ => (jg_tup rfl (jgs_cons (jg_name 11 nd) (jgs_cons (jg_name 12 nd) jgs_nil)))) (fun _ _ _ _ _ => jts_nil) (fun _ _ _ _ _ => (je_v (je_var 12))))) ja_nil)) (by omega)))))))))))
theorem sc_Book_init : FnScope N_Book_init P_Book_init (defScope s_Book_init) := ⟨rfl, rfl, rfl, by decide +kernel, rfl, by decide +kernel, by decide +kernel⟩
theorem ok_Book_init (E : Env w K mg) : ∃ fd, FunD K "__init__" "Book.__init__" (defArgs s_Book_init) (defBody s_Book_init) (defScope s_Book_init) [] [] (He.fAd K ("Book", some "__init__")) fd ∧ DefOk P w K mg base 4 (He.fAd K ("Book", some "__init__")) fd P_Book_init F_Book_init := by
  obtain ⟨fd_check_roles, U_check_roles, D_check_roles⟩ := ok_check_roles (P := P) (w := w) (base := base) E
  obtain ⟨fd_check_labels, U_check_labels, D_check_labels⟩ := ok_check_labels (P := P) (w := w) (base := base) E
  obtain ⟨fd_checked_permits, U_checked_permits, D_checked_permits⟩ := ok_checked_permits (P := P) (w := w) (base := base) E
  obtain ⟨fd, F⟩ := E.d_Book_init
  have nd := sc_Book_init.nd
  refine ⟨fd, F, def_ok F sc_Book_init (by decide) (fun _ _ _ _ _ _ us hl => match us, hl with | [_, _, _, _], _ => rfl) fun cdv A outer s H Ex hr => ?_⟩
  exact (jss_cons (js_expr (je_call D_check_roles hr E.g_check_roles (ja_cons (je_v (je_var 1)) ja_nil) (by omega)))
 (jss_cons (js_expr (je_call D_check_labels hr E.g_check_labels (ja_cons (je_v (je_var 2)) ja_nil) (by omega)))
 (jss_cons (js_asg (je_fz (jm_sorted E.n_sorted (ja_cons (je_call D_checked_permits hr E.g_checked_permits (ja_cons (je_v (je_var 1)) (ja_cons (je_v (je_var 2)) (ja_cons (je_v (je_var 3)) ja_nil))) (by omega)) ja_nil))) (jg_fld 0 E.c_Book E.f_Book_own_permits))
 (jss_one (js_asg (je_tup (ja_cons (je_fz (jm_sorted E.n_sorted (ja_cons (je_var 1) ja_nil))) (ja_cons (je_fz (jm_sorted E.n_sorted (ja_cons (je_var 2) ja_nil))) ja_nil))) (jg_tup rfl (jgs_cons (jg_fld 0 E.c_Book E.f_Book_own_roles) (jgs_cons (jg_fld 0 E.c_Book E.f_Book_own_labels) jgs_nil))))))))
theorem sc_law : FnScope N_law P_law (defScope s_law) := ⟨rfl, rfl, rfl, by decide +kernel, rfl, by decide +kernel, by decide +kernel⟩
theorem ok_law (E : Env w K mg) : ∃ fd, FunD K "law" "law" (defArgs s_law) (defBody s_law) (defScope s_law) [] [] (He.fAd K ("law", none)) fd ∧ DefOk P w K mg base 13 (He.fAd K ("law", none)) fd P_law F_law := by
  obtain ⟨fd__law_well, U__law_well, D__law_well⟩ := ok__law_well (P := P) (w := w) (base := base) E
  obtain ⟨fd__law_m_book, U__law_m_book, D__law_m_book⟩ := ok__law_m_book (P := P) (w := w) (base := base) E
  obtain ⟨fd__law_draw, U__law_draw, D__law_draw⟩ := ok__law_draw (P := P) (w := w) (base := base) E
  obtain ⟨fd__law_m_start, U__law_m_start, D__law_m_start⟩ := ok__law_m_start (P := P) (w := w) (base := base) E
  obtain ⟨fd__law_m_passed, U__law_m_passed, D__law_m_passed⟩ := ok__law_m_passed (P := P) (w := w) (base := base) E
  obtain ⟨fd___init_Book, U___init_Book, D_Book_init⟩ := ok_Book_init (P := P) (w := w) (base := base) E
  obtain ⟨fd__law_told_right, U__law_told_right, D__law_told_right⟩ := ok__law_told_right (P := P) (w := w) (base := base) E
  obtain ⟨fd__law_asked_right, U__law_asked_right, D__law_asked_right⟩ := ok__law_asked_right (P := P) (w := w) (base := base) E
  obtain ⟨fd, F⟩ := E.d_law
  have nd := sc_law.nd
  refine ⟨fd, F, def_ok F sc_law (by decide) (fun _ _ _ _ _ _ us hl => match us, hl with | [_], _ => rfl) fun cdv A outer s H Ex hr => ?_⟩
  exact (jss_cons (js_for PassesOwn.never rfl (ji_rng1 E.n_range je_int) (jg_name 1 nd)
 (jss_cons (js_setM 2 nd (jm_callN D__law_well hr E.g__law_well (ja_cons (je_v (je_var 0)) (ja_cons (je_v (je_var 1)) ja_nil)) (by omega)))
 (jss_one (js_for PassesOwn.never rfl (ji_rng1 E.n_range je_int) (jg_name 3 nd)
 (jss_cons (js_set 4 nd (je_call D__law_m_book hr E.g__law_m_book (ja_cons (je_var 2) (ja_cons (je_call D__law_draw hr E.g__law_draw (ja_cons (je_var 2) (ja_cons je_int ja_nil)) (by omega)) ja_nil)) (by omega)))
 (jss_cons (js_parEE 7 8 rfl nd (je_call D__law_m_start hr E.g__law_m_start (ja_cons (je_var 2) (ja_cons (je_v (je_var 4)) ja_nil)) (by omega)) (je_call D__law_m_passed hr E.g__law_m_passed (ja_cons (je_var 2) (ja_cons (je_v (je_var 4)) ja_nil)) (by omega)))
 (jss_cons (js_set 5 nd (je_fz (jm_make D_Book_init E.mk_Book hr E.g_Book (ja_cons (je_ix (je_var 8) je_int) (ja_cons (je_ix (je_var 8) je_int) (ja_cons (je_ix (je_var 8) je_int) ja_nil))) (by omega))))
 (jss_one (js_for PassesOwn.never rfl (ji_seq (je_tup (ja_cons (je_v (je_var 7)) (ja_cons (je_call D__law_m_start hr E.g__law_m_start (ja_cons (je_var 2) (ja_cons (je_v (je_var 4)) ja_nil)) (by omega)) (ja_cons (je_v (je_var 7)) ja_nil))))) (jg_name 6 nd)
 (jss_one (js_if (jt_w (jw_or (jt_not (jt_val (je_call D__law_told_right hr E.g__law_told_right (ja_cons (je_var 2) (ja_cons (je_v (je_var 4)) (ja_cons (je_v (je_var 6)) (ja_cons (je_v (je_var 5)) ja_nil)))) (by omega)))) (jw_or1 (jt_not (jt_val (je_call D__law_asked_right hr E.g__law_asked_right (ja_cons (je_var 2) (ja_cons (je_v (je_var 4)) (ja_cons (je_v (je_var 6)) (ja_cons (je_v (je_var 5)) ja_nil)))) (by omega))))))) (jss_one (js_ret je_bl)) jss_nil)))))))))))
 (jss_one (js_ret je_bl)))
end

end Uw.K12

namespace Uw.K12
open PySem PySem.Spec PyProof.Rows L2 Uw
def dd_is_integer : He.DefD := ⟨("is_integer", none), "is_integer", "is_integer", defArgs s_is_integer, defBody s_is_integer, defScope s_is_integer, [], []⟩
def dd_is_number : He.DefD := ⟨("is_number", none), "is_number", "is_number", defArgs s_is_number, defBody s_is_number, defScope s_is_number, [], []⟩
def dd_is_list : He.DefD := ⟨("is_list", none), "is_list", "is_list", defArgs s_is_list, defBody s_is_list, defScope s_is_list, [], []⟩
def dd_is_name : He.DefD := ⟨("is_name", none), "is_name", "is_name", defArgs s_is_name, defBody s_is_name, defScope s_is_name, [], []⟩
def dd_are_names : He.DefD := ⟨("are_names", none), "are_names", "are_names", defArgs s_are_names, defBody s_are_names, defScope s_are_names, [], []⟩
def dd_check_roles : He.DefD := ⟨("check_roles", none), "check_roles", "check_roles", defArgs s_check_roles, defBody s_check_roles, defScope s_check_roles, [], []⟩
def dd_check_labels : He.DefD := ⟨("check_labels", none), "check_labels", "check_labels", defArgs s_check_labels, defBody s_check_labels, defScope s_check_labels, [], []⟩
def dd_is_one : He.DefD := ⟨("is_one", none), "is_one", "is_one", defArgs s_is_one, defBody s_is_one, defScope s_is_one, [], []⟩
def dd_checked_permits : He.DefD := ⟨("checked_permits", none), "checked_permits", "checked_permits", defArgs s_checked_permits, defBody s_checked_permits, defScope s_checked_permits, [], []⟩
def dd_check_book : He.DefD := ⟨("check_book", none), "check_book", "check_book", defArgs s_check_book, defBody s_check_book, defScope s_check_book, [], []⟩
def dd_are_roles : He.DefD := ⟨("are_roles", none), "are_roles", "are_roles", defArgs s_are_roles, defBody s_are_roles, defScope s_are_roles, [], []⟩
def dd_checked_start : He.DefD := ⟨("checked_start", none), "checked_start", "checked_start", defArgs s_checked_start, defBody s_checked_start, defScope s_checked_start, [], []⟩
def dd_all_states : He.DefD := ⟨("all_states", none), "all_states", "all_states", defArgs s_all_states, defBody s_all_states, defScope s_all_states, [], []⟩
def dd_all_moves : He.DefD := ⟨("all_moves", none), "all_moves", "all_moves", defArgs s_all_moves, defBody s_all_moves, defScope s_all_moves, [], []⟩
def dd_is_root : He.DefD := ⟨("is_root", none), "is_root", "is_root", defArgs s_is_root, defBody s_is_root, defScope s_is_root, [], []⟩
def dd_all_roots : He.DefD := ⟨("all_roots", none), "all_roots", "all_roots", defArgs s_all_roots, defBody s_all_roots, defScope s_all_roots, [], []⟩
def dd_first_states_of : He.DefD := ⟨("first_states_of", none), "first_states_of", "first_states_of", defArgs s_first_states_of, defBody s_first_states_of, defScope s_first_states_of, [], []⟩
def dd_as_asked : He.DefD := ⟨("as_asked", none), "as_asked", "as_asked", defArgs s_as_asked, defBody s_as_asked, defScope s_as_asked, [], []⟩
def dd_states_of : He.DefD := ⟨("states_of", none), "states_of", "states_of", defArgs s_states_of, defBody s_states_of, defScope s_states_of, [], []⟩
def dd_moves_of : He.DefD := ⟨("moves_of", none), "moves_of", "moves_of", defArgs s_moves_of, defBody s_moves_of, defScope s_moves_of, [], []⟩
def dd_roots_of : He.DefD := ⟨("roots_of", none), "roots_of", "roots_of", defArgs s_roots_of, defBody s_roots_of, defScope s_roots_of, [], []⟩
def dd_checked_root : He.DefD := ⟨("checked_root", none), "checked_root", "checked_root", defArgs s_checked_root, defBody s_checked_root, defScope s_checked_root, [], []⟩
def dd_first_states : He.DefD := ⟨("first_states", none), "first_states", "first_states", defArgs s_first_states, defBody s_first_states, defScope s_first_states, [], []⟩
def dd_is_asked : He.DefD := ⟨("is_asked", none), "is_asked", "is_asked", defArgs s_is_asked, defBody s_is_asked, defScope s_is_asked, [], []⟩
def dd__law_well : He.DefD := ⟨("_law_well", none), "_law_well", "_law_well", defArgs s__law_well, defBody s__law_well, defScope s__law_well, [], []⟩
def dd__law_draw : He.DefD := ⟨("_law_draw", none), "_law_draw", "_law_draw", defArgs s__law_draw, defBody s__law_draw, defScope s__law_draw, [], []⟩
def dd__law_pick : He.DefD := ⟨("_law_pick", none), "_law_pick", "_law_pick", defArgs s__law_pick, defBody s__law_pick, defScope s__law_pick, [], []⟩
def dd__law_mixed : He.DefD := ⟨("_law_mixed", none), "_law_mixed", "_law_mixed", defArgs s__law_mixed, defBody s__law_mixed, defScope s__law_mixed, [], []⟩
def dd__law_same : He.DefD := ⟨("_law_same", none), "_law_same", "_law_same", defArgs s__law_same, defBody s__law_same, defScope s__law_same, [], []⟩
def dd__law_loose : He.DefD := ⟨("_law_loose", none), "_law_loose", "_law_loose", defArgs s__law_loose, defBody s__law_loose, defScope s__law_loose, [], []⟩
def dd__law_m_names : He.DefD := ⟨("_law_m_names", none), "_law_m_names", "_law_m_names", defArgs s__law_m_names, defBody s__law_m_names, defScope s__law_m_names, [], []⟩
def dd__law_m_ringed : He.DefD := ⟨("_law_m_ringed", none), "_law_m_ringed", "_law_m_ringed", defArgs s__law_m_ringed, defBody s__law_m_ringed, defScope s__law_m_ringed, [], []⟩
def dd__law_m_permit : He.DefD := ⟨("_law_m_permit", none), "_law_m_permit", "_law_m_permit", defArgs s__law_m_permit, defBody s__law_m_permit, defScope s__law_m_permit, [], []⟩
def dd__law_m_book : He.DefD := ⟨("_law_m_book", none), "_law_m_book", "_law_m_book", defArgs s__law_m_book, defBody s__law_m_book, defScope s__law_m_book, [], []⟩
def dd__law_m_start : He.DefD := ⟨("_law_m_start", none), "_law_m_start", "_law_m_start", defArgs s__law_m_start, defBody s__law_m_start, defScope s__law_m_start, [], []⟩
def dd__law_m_passed : He.DefD := ⟨("_law_m_passed", none), "_law_m_passed", "_law_m_passed", defArgs s__law_m_passed, defBody s__law_m_passed, defScope s__law_m_passed, [], []⟩
def dd__law_m_states : He.DefD := ⟨("_law_m_states", none), "_law_m_states", "_law_m_states", defArgs s__law_m_states, defBody s__law_m_states, defScope s__law_m_states, [], []⟩
def dd__law_m_moves : He.DefD := ⟨("_law_m_moves", none), "_law_m_moves", "_law_m_moves", defArgs s__law_m_moves, defBody s__law_m_moves, defScope s__law_m_moves, [], []⟩
def dd__law_m_roots : He.DefD := ⟨("_law_m_roots", none), "_law_m_roots", "_law_m_roots", defArgs s__law_m_roots, defBody s__law_m_roots, defScope s__law_m_roots, [], []⟩
def dd__law_is_asked : He.DefD := ⟨("_law_is_asked", none), "_law_is_asked", "_law_is_asked", defArgs s__law_is_asked, defBody s__law_is_asked, defScope s__law_is_asked, [], []⟩
def dd__law_near : He.DefD := ⟨("_law_near", none), "_law_near", "_law_near", defArgs s__law_near, defBody s__law_near, defScope s__law_near, [], []⟩
def dd__law_asked_right : He.DefD := ⟨("_law_asked_right", none), "_law_asked_right", "_law_asked_right", defArgs s__law_asked_right, defBody s__law_asked_right, defScope s__law_asked_right, [], []⟩
def dd__law_told_right : He.DefD := ⟨("_law_told_right", none), "_law_told_right", "_law_told_right", defArgs s__law_told_right, defBody s__law_told_right, defScope s__law_told_right, [], []⟩
def dd_Book_init : He.DefD := ⟨("Book", some "__init__"), "__init__", "Book.__init__", defArgs s_Book_init, defBody s_Book_init, defScope s_Book_init, [], []⟩
def dd_law : He.DefD := ⟨("law", none), "law", "law", defArgs s_law, defBody s_law, defScope s_law, [], []⟩
def dd__law_spoiled : He.DefD := ⟨("_law_spoiled", none), "_law_spoiled", "_law_spoiled", defArgs s__law_spoiled, defBody s__law_spoiled, defScope s__law_spoiled, [], []⟩
def hfn0 : List (He.DefD) := [dd_is_integer, dd_is_number, dd_is_list, dd_is_name, dd_are_names, dd_check_roles, dd_check_labels, dd_is_one, dd_checked_permits, dd_check_book, dd_are_roles, dd_checked_start, dd_all_states, dd_all_moves, dd_is_root, dd_all_roots, dd_first_states_of, dd_as_asked, dd_states_of, dd_moves_of, dd_roots_of, dd_checked_root, dd_first_states, dd_is_asked]
def hfn1 : List (He.DefD) := [dd__law_well, dd__law_draw, dd__law_pick, dd__law_mixed, dd__law_same, dd__law_loose, dd__law_m_names, dd__law_m_ringed, dd__law_m_permit, dd__law_m_book, dd__law_m_start, dd__law_m_passed, dd__law_m_states, dd__law_m_moves, dd__law_m_roots, dd__law_is_asked, dd__law_near, dd__law_asked_right, dd__law_told_right, dd_Book_init, dd_law, dd__law_spoiled]
def hfn : List (He.DefD) := hfn0 ++ hfn1
def hfa0 : List (He.Fa) := [.noat "Book" "own_labels", .noat "Book" "own_permits", .noat "Book" "own_roles", .glo "Book", .glo "SHAPES", .glo "_law_asked_right", .glo "_law_draw", .glo "_law_is_asked", .glo "_law_loose", .glo "_law_m_book", .glo "_law_m_moves", .glo "_law_m_names", .glo "_law_m_passed", .glo "_law_m_permit", .glo "_law_m_ringed", .glo "_law_m_roots", .glo "_law_m_start", .glo "_law_m_states", .glo "_law_mixed", .glo "_law_near", .glo "_law_pick", .glo "_law_same", .glo "_law_spoiled", .glo "_law_told_right"]
def hfa1 : List (He.Fa) := [.glo "_law_well", .glo "all_moves", .glo "all_roots", .glo "all_states", .glo "are_names", .glo "are_roles", .glo "as_asked", .glo "check_book", .glo "check_labels", .glo "check_roles", .glo "checked_permits", .glo "checked_root", .glo "checked_start", .glo "first_states", .glo "first_states_of", .glo "is_asked", .glo "is_integer", .glo "is_list", .glo "is_name", .glo "is_number", .glo "is_one", .glo "is_root", .glo "moves_of", .glo "roots_of"]
def hfa2 : List (He.Fa) := [.glo "states_of", .mkr "Book", .free "abs", .free "all", .free "bool", .free "dict", .free "enumerate", .free "int", .free "isinstance", .free "len", .free "list", .free "range", .free "repr", .free "sorted", .free "str", .free "sum", .free "tuple", .free "zip", .str "FIRST" "abcdefghijklmnopqrstuvwxyz", .str "KNOWN" "known", .str "LATER" "abcdefghijklmnopqrstuvwxyz0123456789", .cls "Book", .glo "law"]
def hfa : List (He.Fa) := hfa0 ++ hfa1 ++ hfa2
def hts : List He.Tab := [((fun K => He.ga K "SHAPES"), tab_SHAPES.map (·.1))]
def tabV (K : PySem.W.Frag) (a : Addr) (kvs : List (Str × Str)) : Bool := kvs.all fun q => match PySem.W.nsIn K a q.1 with
  | some (some (.str y _)) => decide (y = q.2)
  | _ => false
theorem tabV_ok {K : PySem.W.Frag} {a : Addr} {kvs : List (Str × Str)} (h : tabV K a kvs = true) : ∀ q ∈ kvs, ∃ t, PySem.W.nsIn K a q.1 = some (some (.str q.2 t)) := fun q hq => by
  have h2 := List.all_eq_true.mp h q hq
  cases e : PySem.W.nsIn K a q.1 with
  | none => rw [e] at h2; cases h2
  | some r =>
    rw [e] at h2
    cases r with
    | none => cases h2
    | some u =>
      cases u <;> first | (cases h2; done) | skip
      rename_i y t
      have e2 : y = q.2 := of_decide_eq_true h2
      exact ⟨t, by rw [e2]⟩
def insB (K : PySem.W.Frag) (c : Str) : Bool := decide (PySem.W.findIn K (.ref (He.ga K c)) "__class__" = some (some (.builtin "object.__class__"))) && (decide (PySem.W.specialIn K (.builtin "object.__class__") "__get__" = some (some (.builtin "getset_descriptor.__get__"))) && (decide (PySem.W.takesIn K (.builtin "object.__class__") = some true) && (decide (PySem.W.mroIn K (He.ga K c) (.type "object") = some true) && allT.all fun t => decide (PySem.W.kitOne K (.ref (He.ga K c)) (.type t) = some false))))
def kinB (K : PySem.W.Frag) (cs : List Str) (c : Str) : Bool := (allT.all fun t => decide (PySem.W.kitOne K (.type t) (.ref (He.ga K c)) = some false)) && cs.all fun c' => decide (PySem.W.kitOne K (.ref (He.ga K c')) (.ref (He.ga K c)) = some (decide (c' = c)))
def lawAt : Nat := 70
def hex (K : PySem.W.Frag) : Bool := (insB K "Book" && (kinB K ["Book"] "Book" && (tabV K (He.ga K "SHAPES") tab_SHAPES && true)))
section
variable {w : World} {K : PySem.W.Frag} {mg : Str → Option Value} {h : Heap}
theorem ins_of {c : Str} (cl : Cls K (He.ga K c)) (b : insB K c = true) : InsK K c := by
  obtain ⟨b1, b⟩ := He.ba b
  obtain ⟨b2, b⟩ := He.ba b
  obtain ⟨b3, b⟩ := He.ba b
  obtain ⟨b4, b5⟩ := He.ba b
  exact ⟨cl, of_decide_eq_true b1, of_decide_eq_true b2, of_decide_eq_true b3, of_decide_eq_true b4, fun t ht => of_decide_eq_true (List.all_eq_true.mp b5 t ht)⟩
theorem env_of (X : K.In h) (G : h.Ns mainGlobals mg) (c : He.SaysX hfa hfn hts [] hex w h K) : Env w K mg := by
  have d := c.t.d

  have m := c.more
  unfold hex at m
  obtain ⟨x0, m⟩ := He.ba m
  obtain ⟨x1, m⟩ := He.ba m
  obtain ⟨x2, m⟩ := He.ba m
  have c_Book := He.cls_ok (d.fact 69 (f := .cls "Book") rfl)
  exact {
    d_is_integer := d.def_ 0 (d := dd_is_integer) rfl
    d_is_number := d.def_ 1 (d := dd_is_number) rfl
    d_is_list := d.def_ 2 (d := dd_is_list) rfl
    d_is_name := d.def_ 3 (d := dd_is_name) rfl
    d_are_names := d.def_ 4 (d := dd_are_names) rfl
    d_check_roles := d.def_ 5 (d := dd_check_roles) rfl
    d_check_labels := d.def_ 6 (d := dd_check_labels) rfl
    d_is_one := d.def_ 7 (d := dd_is_one) rfl
    d_checked_permits := d.def_ 8 (d := dd_checked_permits) rfl
    d_check_book := d.def_ 9 (d := dd_check_book) rfl
    d_are_roles := d.def_ 10 (d := dd_are_roles) rfl
    d_checked_start := d.def_ 11 (d := dd_checked_start) rfl
    d_all_states := d.def_ 12 (d := dd_all_states) rfl
    d_all_moves := d.def_ 13 (d := dd_all_moves) rfl
    d_is_root := d.def_ 14 (d := dd_is_root) rfl
    d_all_roots := d.def_ 15 (d := dd_all_roots) rfl
    d_first_states_of := d.def_ 16 (d := dd_first_states_of) rfl
    d_as_asked := d.def_ 17 (d := dd_as_asked) rfl
    d_states_of := d.def_ 18 (d := dd_states_of) rfl
    d_moves_of := d.def_ 19 (d := dd_moves_of) rfl
    d_roots_of := d.def_ 20 (d := dd_roots_of) rfl
    d_checked_root := d.def_ 21 (d := dd_checked_root) rfl
    d_first_states := d.def_ 22 (d := dd_first_states) rfl
    d_is_asked := d.def_ 23 (d := dd_is_asked) rfl
    d__law_well := d.def_ 24 (d := dd__law_well) rfl
    d__law_draw := d.def_ 25 (d := dd__law_draw) rfl
    d__law_pick := d.def_ 26 (d := dd__law_pick) rfl
    d__law_mixed := d.def_ 27 (d := dd__law_mixed) rfl
    d__law_same := d.def_ 28 (d := dd__law_same) rfl
    d__law_loose := d.def_ 29 (d := dd__law_loose) rfl
    d__law_m_names := d.def_ 30 (d := dd__law_m_names) rfl
    d__law_m_ringed := d.def_ 31 (d := dd__law_m_ringed) rfl
    d__law_m_permit := d.def_ 32 (d := dd__law_m_permit) rfl
    d__law_m_book := d.def_ 33 (d := dd__law_m_book) rfl
    d__law_m_start := d.def_ 34 (d := dd__law_m_start) rfl
    d__law_m_passed := d.def_ 35 (d := dd__law_m_passed) rfl
    d__law_m_states := d.def_ 36 (d := dd__law_m_states) rfl
    d__law_m_moves := d.def_ 37 (d := dd__law_m_moves) rfl
    d__law_m_roots := d.def_ 38 (d := dd__law_m_roots) rfl
    d__law_is_asked := d.def_ 39 (d := dd__law_is_asked) rfl
    d__law_near := d.def_ 40 (d := dd__law_near) rfl
    d__law_asked_right := d.def_ 41 (d := dd__law_asked_right) rfl
    d__law_told_right := d.def_ 42 (d := dd__law_told_right) rfl
    d_Book_init := d.def_ 43 (d := dd_Book_init) rfl
    d_law := d.def_ 44 (d := dd_law) rfl
    d__law_spoiled := d.def_ 45 (d := dd__law_spoiled) rfl
    f_Book_own_labels := He.noat_ok (d.fact 0 (f := .noat "Book" "own_labels") rfl)
    f_Book_own_permits := He.noat_ok (d.fact 1 (f := .noat "Book" "own_permits") rfl)
    f_Book_own_roles := He.noat_ok (d.fact 2 (f := .noat "Book" "own_roles") rfl)
    g_Book := He.glo_ok X G (d.fact 3 (f := .glo "Book") rfl)
    g_SHAPES := He.glo_ok X G (d.fact 4 (f := .glo "SHAPES") rfl)
    g__law_asked_right := He.glo_ok X G (d.fact 5 (f := .glo "_law_asked_right") rfl)
    g__law_draw := He.glo_ok X G (d.fact 6 (f := .glo "_law_draw") rfl)
    g__law_is_asked := He.glo_ok X G (d.fact 7 (f := .glo "_law_is_asked") rfl)
    g__law_loose := He.glo_ok X G (d.fact 8 (f := .glo "_law_loose") rfl)
    g__law_m_book := He.glo_ok X G (d.fact 9 (f := .glo "_law_m_book") rfl)
    g__law_m_moves := He.glo_ok X G (d.fact 10 (f := .glo "_law_m_moves") rfl)
    g__law_m_names := He.glo_ok X G (d.fact 11 (f := .glo "_law_m_names") rfl)
    g__law_m_passed := He.glo_ok X G (d.fact 12 (f := .glo "_law_m_passed") rfl)
    g__law_m_permit := He.glo_ok X G (d.fact 13 (f := .glo "_law_m_permit") rfl)
    g__law_m_ringed := He.glo_ok X G (d.fact 14 (f := .glo "_law_m_ringed") rfl)
    g__law_m_roots := He.glo_ok X G (d.fact 15 (f := .glo "_law_m_roots") rfl)
    g__law_m_start := He.glo_ok X G (d.fact 16 (f := .glo "_law_m_start") rfl)
    g__law_m_states := He.glo_ok X G (d.fact 17 (f := .glo "_law_m_states") rfl)
    g__law_mixed := He.glo_ok X G (d.fact 18 (f := .glo "_law_mixed") rfl)
    g__law_near := He.glo_ok X G (d.fact 19 (f := .glo "_law_near") rfl)
    g__law_pick := He.glo_ok X G (d.fact 20 (f := .glo "_law_pick") rfl)
    g__law_same := He.glo_ok X G (d.fact 21 (f := .glo "_law_same") rfl)
    g__law_spoiled := He.glo_ok X G (d.fact 22 (f := .glo "_law_spoiled") rfl)
    g__law_told_right := He.glo_ok X G (d.fact 23 (f := .glo "_law_told_right") rfl)
    g__law_well := He.glo_ok X G (d.fact 24 (f := .glo "_law_well") rfl)
    g_all_moves := He.glo_ok X G (d.fact 25 (f := .glo "all_moves") rfl)
    g_all_roots := He.glo_ok X G (d.fact 26 (f := .glo "all_roots") rfl)
    g_all_states := He.glo_ok X G (d.fact 27 (f := .glo "all_states") rfl)
    g_are_names := He.glo_ok X G (d.fact 28 (f := .glo "are_names") rfl)
    g_are_roles := He.glo_ok X G (d.fact 29 (f := .glo "are_roles") rfl)
    g_as_asked := He.glo_ok X G (d.fact 30 (f := .glo "as_asked") rfl)
    g_check_book := He.glo_ok X G (d.fact 31 (f := .glo "check_book") rfl)
    g_check_labels := He.glo_ok X G (d.fact 32 (f := .glo "check_labels") rfl)
    g_check_roles := He.glo_ok X G (d.fact 33 (f := .glo "check_roles") rfl)
    g_checked_permits := He.glo_ok X G (d.fact 34 (f := .glo "checked_permits") rfl)
    g_checked_root := He.glo_ok X G (d.fact 35 (f := .glo "checked_root") rfl)
    g_checked_start := He.glo_ok X G (d.fact 36 (f := .glo "checked_start") rfl)
    g_first_states := He.glo_ok X G (d.fact 37 (f := .glo "first_states") rfl)
    g_first_states_of := He.glo_ok X G (d.fact 38 (f := .glo "first_states_of") rfl)
    g_is_asked := He.glo_ok X G (d.fact 39 (f := .glo "is_asked") rfl)
    g_is_integer := He.glo_ok X G (d.fact 40 (f := .glo "is_integer") rfl)
    g_is_list := He.glo_ok X G (d.fact 41 (f := .glo "is_list") rfl)
    g_is_name := He.glo_ok X G (d.fact 42 (f := .glo "is_name") rfl)
    g_is_number := He.glo_ok X G (d.fact 43 (f := .glo "is_number") rfl)
    g_is_one := He.glo_ok X G (d.fact 44 (f := .glo "is_one") rfl)
    g_is_root := He.glo_ok X G (d.fact 45 (f := .glo "is_root") rfl)
    g_moves_of := He.glo_ok X G (d.fact 46 (f := .glo "moves_of") rfl)
    g_roots_of := He.glo_ok X G (d.fact 47 (f := .glo "roots_of") rfl)
    g_states_of := He.glo_ok X G (d.fact 48 (f := .glo "states_of") rfl)
    k1_Book := fun t ht => of_decide_eq_true (List.all_eq_true.mp (He.ba x1).1 t ht)
    k2_Book := fun c hc => of_decide_eq_true (List.all_eq_true.mp (He.ba x1).2 c hc)
    mk_Book := He.mkr_ok (d.fact 49 (f := .mkr "Book") rfl)
    n_abs := He.free_ok X G (d.fact 50 (f := .free "abs") rfl)
    n_all := He.free_ok X G (d.fact 51 (f := .free "all") rfl)
    n_bool := He.free_ok X G (d.fact 52 (f := .free "bool") rfl)
    n_dict := He.free_ok X G (d.fact 53 (f := .free "dict") rfl)
    n_enumerate := He.free_ok X G (d.fact 54 (f := .free "enumerate") rfl)
    n_int := He.free_ok X G (d.fact 55 (f := .free "int") rfl)
    n_isinstance := He.free_ok X G (d.fact 56 (f := .free "isinstance") rfl)
    n_len := He.free_ok X G (d.fact 57 (f := .free "len") rfl)
    n_list := He.free_ok X G (d.fact 58 (f := .free "list") rfl)
    n_range := He.free_ok X G (d.fact 59 (f := .free "range") rfl)
    n_repr := He.free_ok X G (d.fact 60 (f := .free "repr") rfl)
    n_sorted := He.free_ok X G (d.fact 61 (f := .free "sorted") rfl)
    n_str := He.free_ok X G (d.fact 62 (f := .free "str") rfl)
    n_sum := He.free_ok X G (d.fact 63 (f := .free "sum") rfl)
    n_tuple := He.free_ok X G (d.fact 64 (f := .free "tuple") rfl)
    n_zip := He.free_ok X G (d.fact 65 (f := .free "zip") rfl)
    s_FIRST := He.str_ok X G (d.fact 66 (f := .str "FIRST" "abcdefghijklmnopqrstuvwxyz") rfl)
    s_KNOWN := He.str_ok X G (d.fact 67 (f := .str "KNOWN" "known") rfl)
    s_LATER := He.str_ok X G (d.fact 68 (f := .str "LATER" "abcdefghijklmnopqrstuvwxyz0123456789") rfl)
    t_SHAPES := ⟨by have e := congrArg (fun z : He.AlT => z.2[0]?) c.t; exact Option.some.inj e, tabV_ok x2⟩
    c_Book := c_Book
    hI := fun c hc => by
      rw [List.mem_singleton.mp hc]
      exact ins_of c_Book x0 }
end
def hloose0 : List (PySem.Str) := ["_wall", "__name__", "FIRST", "LATER", "KNOWN", "is_integer", "is_number", "is_list", "is_name", "are_names", "WrapError", "BadRoles", "BadLabels", "BadPermits", "BadBook", "BadStart", "BadRoot", "SHAPES", "check_roles", "check_labels", "is_one", "checked_permits", "Book", "check_book"]
def hloose1 : List (PySem.Str) := ["are_roles", "checked_start", "all_states", "all_moves", "all_roots", "is_root", "first_states_of", "as_asked", "states_of", "moves_of", "roots_of", "checked_root", "first_states", "is_asked", "_law_well", "_law_draw", "_law_pick", "_law_mixed", "_law_same", "_law_loose", "_law_spoiled", "_law_m_names", "_law_m_ringed", "_law_m_permit"]
def hloose2 : List (PySem.Str) := ["_law_m_book", "_law_m_start", "_law_m_passed", "_law_m_states", "_law_m_moves", "_law_m_roots", "_law_is_asked", "_law_near", "_law_asked_right", "_law_told_right"]
def hloose : List (PySem.Str) := hloose0 ++ hloose1 ++ hloose2
abbrev R : PySem.W.OpenRow := PySem.W.OpenLaw.row PySem.Challenge.rw_underwraps_k12_whole_roots_and_asked_key
abbrev hk : PySem.W.Hook := He.hookX 4 hfa hfn hts [] hex
def ob (s : PySem.W.SharedT) : He.AlX := He.obsX 4 hfa hfn hts [] hex (HandSHeadRun.getT s)
theorem ob_eq (s : PySem.W.SharedT) : ob s = hk.obs s.abs := He.obsX_eq (HandSHeadRun.getT_eq s)
theorem run (w : World) : HandSHeadRun.RunEq R (PySem.W.view R.prog [62]) hk ob 5000 hloose w := by
  revert w
  refine PySem.W.byRow2 "special-get-raises" ?_ ?_ <;> (intro w os; kernel_rfl)

end Uw.K12

namespace Uw
open PySem PySem.Spec L2
/-! ### the plain law: what mirrors come to -/
@[irreducible] def wp {α : Type} (m : M α) (σ : List Sv) (Q : α → List Sv → Prop) : Prop := ∃ a σ', m σ = .ok (a, σ') ∧ Q a σ'
theorem wp.out {α : Type} {m : M α} {σ : List Sv} {Q : α → List Sv → Prop} (h : wp m σ Q) : ∃ a σ', m σ = .ok (a, σ') ∧ Q a σ' := by
  unfold wp at h
  exact h
theorem wp.inn {α : Type} {m : M α} {σ σ' : List Sv} {Q : α → List Sv → Prop} {a : α} (e : m σ = .ok (a, σ')) (q : Q a σ') : wp m σ Q := by
  unfold wp
  exact ⟨a, σ', e, q⟩
section
variable {α β : Type} {σ : List Sv}
theorem wp_bind {m : M α} {f : α → M β} {Q : β → List Sv → Prop} (h : wp m σ fun a σ' => wp (f a) σ' Q) : wp (M.bind m f) σ Q := by
  obtain ⟨a, σ1, h1, h⟩ := h.out
  obtain ⟨b, σ2, h2, h3⟩ := h.out
  refine wp.inn (a := b) (σ' := σ2) ?_ h3
  show (m σ).bind (fun p => f p.1 p.2) = _
  rw [h1]
  exact h2
theorem wp_ret {a : α} {Q : α → List Sv → Prop} (h : Q a σ) : wp (M.ret a) σ Q := wp.inn rfl h
theorem wp_of {m : M α} {a : α} {σ' : List Sv} {Q : α → List Sv → Prop} (e : m σ = .ok (a, σ')) (h : Q a σ') : wp m σ Q := wp.inn e h
theorem wp_lift {o : Option α} {a : α} {Q : α → List Sv → Prop} (e : o = some a) (h : Q a σ) : wp (lift o) σ Q := wp.inn (a := a) (σ' := σ) (by rw [e]; rfl) h
theorem wp_imp {m : M α} {Q Q' : α → List Sv → Prop} (h : wp m σ Q) (k : ∀ a σ', Q a σ' → Q' a σ') : wp m σ Q' := by
  obtain ⟨a, σ', e, q⟩ := h.out
  exact wp.inn e (k a σ' q)
variable {Q : Ev → List Sv → Prop} {ma mb mc : M Ev} {f : D → D → Option D}
theorem wp_var {i : Nat} {e : Ev} (h : eVar i σ = .ok (e, σ)) (q : Q e σ) : wp (eVar i) σ Q := wp.inn h q
theorem wp_c {d : D} (q : Q (.val .own d) σ) : wp (eC d) σ Q := wp_ret q
theorem wp_op (h : wp ma σ fun a σ1 => wp mb σ1 fun b σ2 => ∃ x y d, look a σ2 = .ok (x, σ2) ∧ look b σ2 = .ok (y, σ2) ∧ f x y = some d ∧ Q (.val .own d) σ2) : wp (eOp f ma mb) σ Q :=
  wp_bind (wp_imp h fun a σ1 h => wp_bind (wp_imp h fun b σ2 ⟨x, y, d, h1, h2, h3, q⟩ => wp_bind (wp_of h1 (wp_bind (wp_of h2 (wp_bind (wp_lift h3 (wp_ret q))))))))
theorem wp_un {g : D → Option D} (h : wp ma σ fun a σ1 => ∃ x d, look a σ1 = .ok (x, σ1) ∧ g x = some d ∧ Q (.val .own d) σ1) : wp (eUn g ma) σ Q :=
  wp_bind (wp_imp h fun a σ1 ⟨x, d, h1, h2, q⟩ => wp_bind (wp_of h1 (wp_bind (wp_lift h2 (wp_ret q)))))
theorem wp_gen2 {f : Fl × D → Fl × D → Option (Fl × D)} (h : wp ma σ fun a σ1 => wp mb σ1 fun b σ2 => ∃ x y d, lookF a σ2 = .ok (x, σ2) ∧ lookF b σ2 = .ok (y, σ2) ∧ f x y = some d ∧ Q (.val d.1 d.2) σ2) : wp (eGen2 f ma mb) σ Q :=
  wp_bind (wp_imp h fun a σ1 h => wp_bind (wp_imp h fun b σ2 ⟨x, y, d, h1, h2, h3, q⟩ => wp_bind (wp_of h1 (wp_bind (wp_of h2 (wp_bind (wp_lift h3 (wp_ret q))))))))
theorem wp_v (h : wp ma σ fun a σ1 => ∃ e σ2, asVal a σ1 = .ok (e, σ2) ∧ Q e σ2) : wp (eV ma) σ Q := wp_bind (wp_imp h fun a σ1 ⟨e, σ2, h1, q⟩ => wp_of h1 q)
theorem wp_test {R : Bool → List Sv → Prop} (h : wp ma σ fun a σ1 => ∃ b, look a σ1 = .ok (.bl b, σ1) ∧ R b σ1) : wp (eT ma) σ R := wp_bind (wp_imp h fun a σ1 ⟨b, h1, q⟩ => wp_bind (wp_of h1 (wp_ret q)))
theorem wp_nil {R : List Ev → List Sv → Prop} (q : R [] σ) : wp aNil σ R := wp_ret q
theorem wp_cons {ms : M (List Ev)} {R : List Ev → List Sv → Prop} (h : wp ma σ fun e σ1 => wp ms σ1 fun es σ2 => R (e :: es) σ2) : wp (aCons ma ms) σ R := wp_bind (wp_imp h fun e σ1 h => wp_bind (wp_imp h fun es σ2 q => wp_ret q))
theorem wp_cb {ms : M (List Ev)} {g : List D → Option D} (h : wp ms σ fun es σ1 => ∃ ds d, lookL es σ1 = .ok (ds, σ1) ∧ g ds = some d ∧ Q (.val .own d) σ1) : wp (eCB g ms) σ Q := wp_bind (wp_imp h fun es σ1 ⟨ds, d, h1, h2, q⟩ => wp_bind (wp_of h1 (wp_bind (wp_lift h2 (wp_ret q)))))
theorem wp_and {ta tb : M Bool} {R : Bool → List Sv → Prop} (h : wp ta σ fun a σ1 => (a = true → wp tb σ1 R) ∧ (a = false → R false σ1)) : wp (eAnd ta tb) σ R := wp_bind (wp_imp h fun a σ1 ⟨h1, h2⟩ => by
  cases a with
  | true => exact h1 rfl
  | false => exact wp_ret (h2 rfl))
theorem wp_or {ta tb : M Bool} {R : Bool → List Sv → Prop} (h : wp ta σ fun a σ1 => (a = false → wp tb σ1 R) ∧ (a = true → R true σ1)) : wp (eOr ta tb) σ R := wp_bind (wp_imp h fun a σ1 ⟨h1, h2⟩ => by
  cases a with
  | false => exact h1 rfl
  | true => exact wp_ret (h2 rfl))
theorem wp_not {ta : M Bool} {R : Bool → List Sv → Prop} (h : wp ta σ fun a σ1 => R (!a) σ1) : wp (eNot ta) σ R := wp_bind (wp_imp h fun a σ1 q => wp_ret q)
theorem wp_if {ta : M Bool} (h : wp ta σ fun a σ1 => (a = true → wp ma σ1 Q) ∧ (a = false → wp mb σ1 Q)) : wp (eIf ta ma mb) σ Q := wp_bind (wp_imp h fun a σ1 ⟨h1, h2⟩ => by
  cases a with
  | true => exact h1 rfl
  | false => exact h2 rfl)
variable {R : Fw → List Sv → Prop} {sa sb : Sm}
theorem wp_seq (h : wp sa σ fun w σ1 => match w with | .next => wp sb σ1 R | w => R w σ1) : wp (sSeq sa sb) σ R := by
  obtain ⟨a, σ1, h1, h2⟩ := h.out
  cases a with
  | next =>
    obtain ⟨b, σ2, h3, q⟩ := wp.out h2
    exact wp.inn (a := b) (σ' := σ2) (by show (sa σ).bind _ = _; rw [h1]; exact h3) q
  | brk => exact wp.inn (σ' := σ1) (by show (sa σ).bind _ = _; rw [h1]; rfl) h2
  | cont => exact wp.inn (σ' := σ1) (by show (sa σ).bind _ = _; rw [h1]; rfl) h2
  | ret f d => exact wp.inn (σ' := σ1) (by show (sa σ).bind _ = _; rw [h1]; rfl) h2
theorem wp_skip (q : R .next σ) : wp sSkip σ R := wp_ret q
theorem wp_sif {ta : M Bool} (h : wp ta σ fun a σ1 => (a = true → wp sa σ1 R) ∧ (a = false → wp sb σ1 R)) : wp (sIf ta sa sb) σ R := wp_bind (wp_imp h fun a σ1 ⟨h1, h2⟩ => by
  cases a with
  | true => exact h1 rfl
  | false => exact h2 rfl)
theorem wp_set {i : Nat} (h : wp (eV ma) σ fun e σ1 => ∃ σ2, putV i e σ1 = some σ2 ∧ R .next σ2) : wp (sSet i ma) σ R := wp_bind (wp_imp h fun e σ1 ⟨σ2, h1, q⟩ => wp_bind (wp_of (a := ()) (σ' := σ2) (by unfold tgt; rw [h1]) (wp_ret q)))
theorem wp_sret (h : wp (eV ma) σ fun e σ1 => ∃ f d, e = .val f d ∧ R (.ret f d) σ1) : wp (sRet ma) σ R := wp_bind (wp_imp h fun e σ1 ⟨f, d, h1, q⟩ => by subst h1; exact wp_ret q)
theorem wp_setIx {i : Nat} {mi : M Ev} (h : wp (eV ma) σ fun e σ1 => ∃ f d, e = .val f d ∧ (∃ t, muL σ1 i = some t) ∧ wp mi σ1 fun ei σ2 => ∃ x σ3, look ei σ2 = .ok (x, σ2) ∧ putIx i f d x σ2 = .ok (.next, σ3) ∧ R .next σ3) : wp (sSetIx i mi ma) σ R :=
  wp_bind (wp_imp h fun e σ1 ⟨f, d, h1, ⟨t, h2⟩, h3⟩ => by
    subst h1
    have z : wp (mi.bind fun ei => (look ei).bind fun x => putIx i f d x) σ1 R := wp_bind (wp_imp h3 fun ei σ2 ⟨x, σ3, h4, h5, q⟩ => wp_bind (wp_of h4 (wp_of h5 q)))
    obtain ⟨a, σ', e1, q⟩ := z.out
    exact wp.inn (a := a) (σ' := σ') (by simp only [h2]; exact e1) q)
end
/-- a def's run -/
@[irreducible] def Runs (F : Fn) (as : List Ag) (Q : Fl → D → List D → Prop) : Prop := ∃ f d l, F as = .ok ((f, d), l) ∧ Q f d l
theorem Runs.out {F : Fn} {as : List Ag} {Q : Fl → D → List D → Prop} (h : Runs F as Q) : ∃ f d l, F as = .ok ((f, d), l) ∧ Q f d l := by
  unfold Runs at h
  exact h
theorem Runs.inn {F : Fn} {as : List Ag} {Q : Fl → D → List D → Prop} {f : Fl} {d : D} {l : List D} (e : F as = .ok ((f, d), l)) (q : Q f d l) : Runs F as Q := by
  unfold Runs
  exact ⟨f, d, l, e, q⟩
theorem runs_of {np n : Nat} {mb : Sm} {as : List Ag} {Q : Fl → D → List D → Prop} (hl : as.length = np) (h : wp mb (entry n as) fun w σ => ∃ f d l, w = .ret f d ∧ outs as σ = some l ∧ Q f d l) : Runs (runX np n mb) as Q := by
  obtain ⟨w, σ, e, f, d, l, ew, ho, q⟩ := h.out
  subst ew
  refine Runs.inn (f := f) (d := d) (l := l) ?_ q
  have e2 : runF n mb as = .ok ((f, d), l) := by
    unfold runF
    rw [e]
    simp only [R.bind, ho]
  unfold runX
  rw [if_pos hl, e2]
theorem wp_call {F : Fn} {ms : M (List Ev)} {σ : List Sv} {Q : Ev → List Sv → Prop} (h : wp ms σ fun es σ1 => ∃ as is, ags es σ1 = some (as, is) ∧ nodupB is = true ∧ Runs F as fun f d l => l.length = is.length ∧ Q (.val (flOut f) d) (putOuts is l σ1)) : wp (eCall F ms) σ Q :=
  wp_bind (wp_imp h fun es σ1 ⟨as, is, h1, h2, hr⟩ => by
    obtain ⟨f, d, l, h3, h4, q⟩ := hr.out
    exact wp.inn (by simp only [h1, h2, h3, if_pos h4]; rfl) q)
section
variable {α β : Type} {σ : List Sv} {Q : Ev → List Sv → Prop} {ma mb mc m : M Ev} {R : Fw → List Sv → Prop} {sa sb body : Sm}
/-! loops -/
theorem wp_forI {t : Tgt} (I : List (Fl × D) → List Sv → Prop) : ∀ {post pre items : List (Fl × D)} {σ : List Sv}, items = pre ++ post → I pre σ →
    (∀ pre fd post σ, items = pre ++ fd :: post → I pre σ → ∃ σ1, t (.val fd.1 fd.2) σ = some σ1 ∧ wp body σ1 fun w σ2 => match w with | .next => I (pre ++ [fd]) σ2 | .cont => I (pre ++ [fd]) σ2 | .brk => R .next σ2 | .ret f d => R (.ret f d) σ2) →
    (∀ σ, I items σ → R .next σ) → wp (forI t body post) σ R
  | [], pre, items, σ, e, h, _, fin => by
    rw [List.append_nil] at e
    subst e
    exact wp_ret (fin σ h)
  | fd :: post, pre, items, σ, e, h, step, fin => by
    obtain ⟨σ1, h1, hw⟩ := step pre fd post σ e h
    obtain ⟨w, σ2, h2, h3⟩ := hw.out
    have e2 : items = (pre ++ [fd]) ++ post := by rw [e, List.append_assoc]; rfl
    have go : ∀ r, (forI t body (fd :: post) σ = r) ↔ ((body σ1).bind fun p => match p.1 with | .next => forI t body post p.2 | .cont => forI t body post p.2 | .brk => Uw.R.ok (Fw.next, p.2) | .ret fl d => .ok (.ret fl d, p.2)) = r := fun r => by
      have : forI t body (fd :: post) σ = ((body σ1).bind fun p => match p.1 with | .next => forI t body post p.2 | .cont => forI t body post p.2 | .brk => Uw.R.ok (Fw.next, p.2) | .ret fl d => .ok (.ret fl d, p.2)) := by
        show ((tgt t (.val fd.1 fd.2) σ).bind _) = _
        unfold tgt
        rw [h1]
        rfl
      rw [this]
    cases w with
    | next =>
      obtain ⟨a, σ3, h4, q⟩ := (wp_forI I e2 h3 step fin).out
      exact wp.inn ((go _).mpr (by rw [h2]; exact h4)) q
    | cont =>
      obtain ⟨a, σ3, h4, q⟩ := (wp_forI I e2 h3 step fin).out
      exact wp.inn ((go _).mpr (by rw [h2]; exact h4)) q
    | brk => exact wp.inn (σ' := σ2) ((go _).mpr (by rw [h2]; rfl)) h3
    | ret f d => exact wp.inn (σ' := σ2) ((go _).mpr (by rw [h2]; rfl)) h3
theorem wp_for {mi : M (List (Fl × D))} {t : Tgt} (I : List (Fl × D) → List (Fl × D) → List Sv → Prop) (hi : wp mi σ fun items σ1 => I items [] σ1 ∧
    (∀ pre fd post σ, items = pre ++ fd :: post → I items pre σ → ∃ σ1, t (.val fd.1 fd.2) σ = some σ1 ∧ wp body σ1 fun w σ2 => match w with | .next => I items (pre ++ [fd]) σ2 | .cont => I items (pre ++ [fd]) σ2 | .brk => R .next σ2 | .ret f d => R (.ret f d) σ2) ∧
    (∀ σ, I items items σ → R .next σ)) : wp (sFor mi t body) σ R :=
  wp_bind (wp_imp hi fun items σ1 ⟨h1, h2, h3⟩ => wp_forI (I items) (pre := []) (items := items) rfl h1 h2 h3)
theorem wp_compL {t : Tgt} {mt : M Bool} {me : M Ev} {vs : List Nat} {Qc : List (Fl × D) → List Sv → Prop} (I : List (Fl × D) → List (Fl × D) → List Sv → Prop) : ∀ {post pre items acc : List (Fl × D)} {σ : List Sv}, items = pre ++ post → I pre acc σ →
    (∀ pre fd post acc σ, items = pre ++ fd :: post → I pre acc σ → ∃ σ1, t (.val fd.1 fd.2) σ = some σ1 ∧ wp mt σ1 fun b σ2 => (b = true → wp (eV me) σ2 fun e σ3 => ∃ f d, e = .val f d ∧ acc.length ≤ 100000 ∧ I (pre ++ [fd]) (acc ++ [(f, d)]) (wipeS σ3 vs)) ∧ (b = false → I (pre ++ [fd]) acc (wipeS σ2 vs))) →
    (∀ acc σ, I items acc σ → Qc acc σ) → wp (compL t mt me vs post acc) σ Qc
  | [], pre, items, acc, σ, e, h, _, fin => by
    rw [List.append_nil] at e
    subst e
    exact wp_ret (fin acc σ h)
  | fd :: post, pre, items, acc, σ, e, h, step, fin => by
    obtain ⟨σ1, h1, h2⟩ := step pre fd post acc σ e h
    have e2 : items = (pre ++ [fd]) ++ post := by rw [e, List.append_assoc]; rfl
    refine wp_bind (wp_of (a := ()) (σ' := σ1) (by unfold tgt; rw [h1]) (wp_bind (wp_imp h2 fun b σ2 ⟨h3, h4⟩ => ?_)))
    cases b with
    | true =>
      rw [if_pos rfl]
      refine wp_bind (wp_imp (h3 rfl) fun ev σ3 ⟨f, d, e3, hz, h5⟩ => ?_)
      subst e3
      exact wp_bind (wp_lift (a := ()) (by rw [if_pos (show sizeB acc.length = true from decide_eq_true hz)]) (wp_bind (wp_of (a := ()) (σ' := wipeS σ3 vs) rfl (wp_compL I e2 h5 step fin))))
    | false =>
      rw [if_neg (by decide)]
      exact wp_bind (wp_of (a := ()) (σ' := wipeS σ2 vs) rfl (wp_compL I e2 (h4 rfl) step fin))
theorem wp_lc {mi : M (List (Fl × D))} {t : Tgt} {mt : M Bool} {me : M Ev} {vs : List Nat} {Qm : Bool × D → List Sv → Prop} (I : List (Fl × D) → List (Fl × D) → List (Fl × D) → List Sv → Prop) (hi : wp mi σ fun items σ0 => keepable vs σ0 = true ∧ I items [] [] (wipeS σ0 vs) ∧
    (∀ pre fd post acc σ, items = pre ++ fd :: post → I items pre acc σ → ∃ σ1, t (.val fd.1 fd.2) σ = some σ1 ∧ wp mt σ1 fun b σ2 => (b = true → wp (eV me) σ2 fun e σ3 => ∃ f d, e = .val f d ∧ acc.length ≤ 100000 ∧ I items (pre ++ [fd]) (acc ++ [(f, d)]) (wipeS σ3 vs)) ∧ (b = false → I items (pre ++ [fd]) acc (wipeS σ2 vs))) ∧
    (∀ acc σ, I items items acc σ → Qm (acc.all Fl.isOwn, .lst (acc.map (·.2))) (backS σ0 σ vs))) : wp (eLc vs mi t mt me) σ Qm :=
  wp_bind (wp_imp hi fun items σ0 ⟨h1, h2, h3, h4⟩ => by
    obtain ⟨acc, σ2, e, q⟩ := (wp_compL (Qc := fun acc σ => Qm (acc.all Fl.isOwn, .lst (acc.map (·.2))) (backS σ0 σ vs)) (I items) (pre := []) (items := items) rfl h2 h3 h4).out
    refine wp.inn ?_ q
    show (if keepable vs σ0 = true then _ else _) = _
    rw [if_pos h1, e])
/-! new things -/
theorem wp_fz {mm : M (Bool × D)} (h : wp mm σ fun od σ1 => Q (.val (flO od.1) od.2) σ1) : wp (eFz mm) σ Q := wp_bind (wp_imp h fun od σ1 q => wp_ret q)
theorem wp_lst {ms : M (List Ev)} {Qm : Bool × D → List Sv → Prop} (h : wp ms σ fun es σ1 => ∃ l, vals es = some l ∧ l.length ≤ 100000 ∧ Qm (l.all Fl.isOwn, .lst (l.map (·.2))) σ1) : wp (eLst ms) σ Qm :=
  wp_bind (wp_imp h fun es σ1 ⟨l, h1, h2, q⟩ => wp_bind (wp_lift h1 (wp_bind (wp_lift (a := ()) (by rw [if_pos (show sizeB l.length = true from decide_eq_true h2)]) (wp_ret q)))))
theorem wp_tup {ms : M (List Ev)} (h : wp ms σ fun es σ1 => ∃ l, vals es = some l ∧ l.length ≤ 100000 ∧ Q (.val (if l.all Fl.isOwn = true then .own else .any) (.tup (l.map (·.2)))) σ1) : wp (eTup ms) σ Q :=
  wp_bind (wp_imp h fun es σ1 ⟨l, h1, h2, q⟩ => wp_bind (wp_lift h1 (wp_bind (wp_lift (a := ()) (by rw [if_pos (show sizeB l.length = true from decide_eq_true h2)]) (wp_ret q)))))
theorem wp_new {ms : M (List Ev)} {g : List D → Option D} {Qm : Bool × D → List Sv → Prop} (h : wp ms σ fun es σ1 => ∃ ds d, lookL es σ1 = .ok (ds, σ1) ∧ g ds = some d ∧ Qm (kidsImm d, d) σ1) : wp (eNew g ms) σ Qm :=
  wp_bind (wp_imp h fun es σ1 ⟨ds, d, h1, h2, q⟩ => wp_bind (wp_of h1 (wp_bind (wp_lift h2 (wp_ret q)))))
theorem wp_genA {ms : M (List Ev)} {g : List (Fl × D) → Option (Fl × D)} (h : wp ms σ fun es σ1 => ∃ ds d, lookFL es σ1 = .ok (ds, σ1) ∧ g ds = some d ∧ Q (.val d.1 d.2) σ1) : wp (eGenA g ms) σ Q :=
  wp_bind (wp_imp h fun es σ1 ⟨ds, d, h1, h2, q⟩ => wp_bind (wp_of h1 (wp_bind (wp_lift h2 (wp_ret q)))))
theorem wp_setM {i : Nat} {mm : M (Bool × D)} (h : wp mm σ fun od σ1 => okSlot σ1 i = true ∧ R .next (σ1.set i (.mu od.1 od.2))) : wp (sSetM i mm) σ R :=
  wp_bind (wp_imp h fun od σ1 ⟨h1, q⟩ => wp_bind (wp_of (a := ()) (σ' := σ1.set i (.mu od.1 od.2)) (by unfold putMu; rw [if_pos h1]) (wp_ret q)))
theorem wp_part {Qo : Option Int → List Sv → Prop} (h : wp ma σ fun e σ1 => ∃ i, look e σ1 = .ok (.int i, σ1) ∧ Qo (some i) σ1) : wp (mPart ma) σ Qo := wp_bind (wp_imp h fun e σ1 ⟨i, h1, q⟩ => wp_bind (wp_of h1 (wp_ret q)))
theorem wp_nopart {Qo : Option Int → List Sv → Prop} (q : Qo none σ) : wp mNoPart σ Qo := wp_ret q
theorem wp_sl {ml mh : M (Option Int)} (h : wp ma σ fun e σ1 => wp ml σ1 fun lo σ2 => wp mh σ2 fun hi σ3 => ∃ x d, lookF e σ3 = .ok (x, σ3) ∧ dSl x lo hi = some d ∧ Q (.val d.1 d.2) σ3) : wp (eSl ma ml mh) σ Q :=
  wp_bind (wp_imp h fun e σ1 h => wp_bind (wp_imp h fun lo σ2 h => wp_bind (wp_imp h fun hi σ3 ⟨x, d, h1, h2, q⟩ => wp_bind (wp_of h1 (wp_bind (wp_lift h2 (wp_ret q)))))))
theorem wp_fld {c f : Str} (h : wp ma σ fun e σ1 => ∃ fl fs d, lookF e σ1 = .ok ((fl, .ins c fs), σ1) ∧ fs.lookup f = some d ∧ Q (.val (flKid fl) d) σ1) : wp (eFld c f ma) σ Q :=
  wp_bind (wp_imp h fun e σ1 ⟨fl, fs, d, h1, h2, q⟩ => wp_bind (wp_of h1 (by
    show wp (if c = c then (lift (fs.lookup f)).bind fun d => M.ret (.val (flKid fl) d) else fun _ => .bad) σ1 Q
    rw [if_pos rfl]
    exact wp_bind (wp_lift h2 (wp_ret q)))))
theorem wp_drop (h : wp ma σ fun _ σ1 => R .next σ1) : wp (sDrop ma) σ R := wp_bind (wp_imp h fun _ σ1 q => wp_ret q)
theorem wp_asg {t : Tgt} (h : wp (eV ma) σ fun e σ1 => ∃ σ2, t e σ1 = some σ2 ∧ R .next σ2) : wp (sAsg ma t) σ R := wp_bind (wp_imp h fun e σ1 ⟨σ2, h1, q⟩ => wp_bind (wp_of (a := ()) (σ' := σ2) (by unfold tgt; rw [h1]) (wp_ret q)))
theorem wp_parEE {i j : Nat} (h : wp (eV ma) σ fun e σ1 => wp (eV mb) σ1 fun e2 σ2 => ∃ σ3 σ4, putV i e σ2 = some σ3 ∧ putV j e2 σ3 = some σ4 ∧ R .next σ4) : wp (sParEE i j ma mb) σ R :=
  wp_bind (wp_imp h fun e σ1 h => wp_bind (wp_imp h fun e2 σ2 ⟨σ3, σ4, h1, h2, q⟩ => wp_bind (wp_of (a := ()) (σ' := σ3) (by unfold putE tgt; rw [h1]) (wp_bind (wp_of (a := ()) (σ' := σ4) (by unfold putE tgt; rw [h2]) (wp_ret q))))))
theorem wp_parEM {i j : Nat} {mm : M (Bool × D)} (h : wp (eV ma) σ fun e σ1 => wp mm σ1 fun od σ2 => ∃ σ3, putV i e σ2 = some σ3 ∧ okSlot σ3 j = true ∧ R .next (σ3.set j (.mu od.1 od.2))) : wp (sParEM i j ma mm) σ R :=
  wp_bind (wp_imp h fun e σ1 h => wp_bind (wp_imp h fun od σ2 ⟨σ3, h1, h2, q⟩ => wp_bind (wp_of (a := ()) (σ' := σ3) (by unfold putE tgt; rw [h1]) (wp_bind (wp_of (a := ()) (σ' := σ3.set j (.mu od.1 od.2)) (by unfold putMu; rw [if_pos h2]) (wp_ret q))))))
theorem wp_par3 {i j k : Nat} (h : wp (eV ma) σ fun e σ1 => wp (eV mb) σ1 fun e2 σ2 => wp (eV mc) σ2 fun e3 σ3 => ∃ σ4 σ5 σ6, putV i e σ3 = some σ4 ∧ putV j e2 σ4 = some σ5 ∧ putV k e3 σ5 = some σ6 ∧ R .next σ6) : wp (sPar3 i j k ma mb mc) σ R :=
  wp_bind (wp_imp h fun e σ1 h => wp_bind (wp_imp h fun e2 σ2 h => wp_bind (wp_imp h fun e3 σ3 ⟨σ4, σ5, σ6, h1, h2, h3, q⟩ => wp_bind (wp_of (a := ()) (σ' := σ4) (by unfold putE tgt; rw [h1]) (wp_bind (wp_of (a := ()) (σ' := σ5) (by unfold putE tgt; rw [h2]) (wp_bind (wp_of (a := ()) (σ' := σ6) (by unfold putE tgt; rw [h3]) (wp_ret q)))))))))
/-! sources -/
variable {Qi : List (Fl × D) → List Sv → Prop}
theorem wp_seqI (h : wp (eV ma) σ fun e σ1 => ∃ f d l, e = .val f d ∧ itemsOf f d = some l ∧ Qi l σ1) : wp (mSeq ma) σ Qi := wp_bind (wp_imp h fun e σ1 ⟨f, d, l, h1, h2, q⟩ => by subst h1; exact wp_lift h2 q)
theorem wp_rng1 (h : wp ma σ fun e σ1 => ∃ n, look e σ1 = .ok (.int n, σ1) ∧ (n < 100000000 ∧ -100000000 < n) ∧ Qi ((List.range n.toNat).map fun (k : Nat) => (Fl.own, D.int (0 + (k : Int)))) σ1) : wp (mRng1 ma) σ Qi := wp_bind (wp_imp h fun e σ1 ⟨n, h1, h2, q⟩ => wp_bind (wp_of h1 (by
  show wp (if n < 100000000 ∧ -100000000 < n then M.ret _ else fun _ => .bad) σ1 Qi
  rw [if_pos h2]
  exact wp_ret q)))
theorem wp_enum (h : wp (eV ma) σ fun e σ1 => ∃ f d l, e = .val f d ∧ itemsOf f d = some l ∧ Qi (numbered 0 l) σ1) : wp (mEnum ma) σ Qi := wp_bind (wp_imp h fun e σ1 ⟨f, d, l, h1, h2, q⟩ => by subst h1; exact wp_bind (wp_lift h2 (wp_ret q)))
theorem wp_zip (h : wp (eV ma) σ fun e σ1 => wp (eV mb) σ1 fun e2 σ2 => ∃ f d l f2 d2 l2, e = .val f d ∧ itemsOf f d = some l ∧ e2 = .val f2 d2 ∧ itemsOf f2 d2 = some l2 ∧ Qi (zipped l l2) σ2) : wp (mZip ma mb) σ Qi :=
  wp_bind (wp_imp h fun e σ1 h => wp_bind (wp_imp h fun e2 σ2 ⟨f, d, l, f2, d2, l2, h1, h2, h3, h4, q⟩ => by subst h1 h3; exact wp_bind (wp_lift h2 (wp_bind (wp_lift h4 (wp_ret q))))))
theorem wp_mutL {i : Nat} {k : Bool → List D → Fl → D → Option (Fl × D × Bool × List D)} (h : (∃ t, muL σ i = some t) ∧ wp (eV ma) σ fun e σ1 => ∃ f d io o ds fr dr o' ds', e = .val f d ∧ muL σ1 i = some (io, o, ds) ∧ k o ds f d = some (fr, dr, o', ds') ∧ Q (.val fr dr) (putL σ1 i io o' ds')) : wp (mutL i ma k) σ Q := by
  obtain ⟨⟨t, ht⟩, h⟩ := h
  obtain ⟨e, σ1, h1, f, d, io, o, ds, fr, dr, o', ds', h2, h3, h4, q⟩ := h.out
  subst h2
  refine wp.inn ?_ q
  unfold mutL
  simp only [ht]
  show ((eV ma σ).bind _) = _
  rw [h1]
  simp only [R.bind, h3, h4]
end
section
variable {α β : Type} {σ : List Sv} {Q : Ev → List Sv → Prop} {ma mb mc m : M Ev} {R : Fw → List Sv → Prop} {sa sb body : Sm} {Qm : Bool × D → List Sv → Prop} {ms : M (List Ev)} {Qa : List Ev → List Sv → Prop}
theorem wp_asB {a : Ev} {b : Bool} {σ1 : List Sv} (h : look a σ1 = .ok (.bl b, σ1)) : asB a σ1 = .ok (b, σ1) := by
  show (look a σ1).bind _ = _
  rw [h]
  rfl
theorem wp_andV (h : wp ma σ fun a σ1 => ∃ b, look a σ1 = .ok (.bl b, σ1) ∧ (b = true → wp mb σ1 Q) ∧ (b = false → Q (.val .own (.bl false)) σ1)) : wp (eAndV ma mb) σ Q :=
  wp_bind (wp_imp h fun a σ1 ⟨b, h1, h2, h3⟩ => wp_bind (wp_of (wp_asB h1) (by
    cases b with
    | true => exact h2 rfl
    | false => exact wp_ret (h3 rfl))))
theorem wp_orV (h : wp ma σ fun a σ1 => ∃ b, look a σ1 = .ok (.bl b, σ1) ∧ (b = false → wp mb σ1 Q) ∧ (b = true → Q (.val .own (.bl true)) σ1)) : wp (eOrV ma mb) σ Q :=
  wp_bind (wp_imp h fun a σ1 ⟨b, h1, h2, h3⟩ => wp_bind (wp_of (wp_asB h1) (by
    cases b with
    | false => exact h2 rfl
    | true => exact wp_ret (h3 rfl))))
theorem wp_notV (h : wp ma σ fun a σ1 => ∃ b, look a σ1 = .ok (.bl b, σ1) ∧ Q (.val .own (.bl (!b))) σ1) : wp (eNotV ma) σ Q :=
  wp_bind (wp_imp h fun a σ1 ⟨b, h1, h2⟩ => wp_bind (wp_of (wp_asB h1) (wp_ret h2)))
theorem wp_chain {f f' : D → D → Option D} (h : wp ma σ fun a σ1 => wp mb σ1 fun b σ2 => ∃ x y c, look a σ2 = .ok (x, σ2) ∧ look b σ2 = .ok (y, σ2) ∧ f x y = some (.bl c) ∧
    (c = true → wp mc σ2 fun z σ3 => ∃ y' z' d, look b σ3 = .ok (y', σ3) ∧ look z σ3 = .ok (z', σ3) ∧ f' y' z' = some d ∧ Q (.val .own d) σ3) ∧ (c = false → Q (.val .own (.bl false)) σ2)) : wp (eChain f f' ma mb mc) σ Q := by
  refine wp_bind (wp_imp h fun a σ1 h => wp_bind (wp_imp h fun b σ2 ⟨x, y, c, h1, h2, h3, h4, h5⟩ => wp_bind (wp_of h1 (wp_bind (wp_of h2 (wp_bind (wp_lift h3 ?_)))))))
  cases c with
  | true => exact wp_bind (wp_imp (h4 rfl) fun z σ3 ⟨y', z', d, k1, k2, k3, q⟩ => wp_bind (wp_of k1 (wp_bind (wp_of k2 (wp_bind (wp_lift k3 (wp_ret q)))))))
  | false => exact wp_ret (h5 rfl)
theorem wp_tru {P : Bool → List Sv → Prop} (h : wp ma σ fun a σ1 => ∃ x b, look a σ1 = .ok (x, σ1) ∧ dTru x = some b ∧ P b σ1) : wp (eTru ma) σ P :=
  wp_bind (wp_imp h fun a σ1 ⟨x, b, h1, h2, q⟩ => wp_bind (wp_of h1 (wp_bind (wp_lift h2 (wp_ret q)))))
theorem wp_star (h : wp (eV ma) σ fun e σ1 => ∃ f ds, (e = .val f (.lst ds) ∨ e = .val f (.tup ds)) ∧ wp ms σ1 fun es σ2 => Qa (evs (ds.map fun d => (flKid f, d)) ++ es) σ2) : wp (aStar ma ms) σ Qa :=
  wp_bind (wp_imp h fun e σ1 ⟨f, ds, h1, h2⟩ => wp_bind (wp_of (a := ds.map fun d => (flKid f, d)) (σ' := σ1) (by rcases h1 with rfl | rfl <;> rfl) (wp_bind (wp_imp h2 fun es σ2 q => wp_ret q))))
theorem wp_starR (h : wp ma σ fun e σ1 => ∃ n, look e σ1 = .ok (.int n, σ1) ∧ (n < 100000 ∧ -100000 < n) ∧ wp ms σ1 fun es σ2 => Qa (((List.range n.toNat).map fun (k : Nat) => Ev.val Fl.own (D.int (k : Int))) ++ es) σ2) : wp (aStarR ma ms) σ Qa :=
  wp_bind (wp_imp h fun e σ1 ⟨n, h1, h2, h3⟩ => wp_bind (wp_of h1 (by
    show wp (if n < 100000 ∧ -100000 < n then _ else _) σ1 Qa
    rw [if_pos h2]
    exact wp_bind (wp_imp h3 fun es σ2 q => wp_ret q))))
theorem wp_mif {ta : M Bool} {mm mn : M (Bool × D)} (h : wp ta σ fun b σ1 => (b = true → wp mm σ1 Qm) ∧ (b = false → wp mn σ1 Qm)) : wp (Uw.M.bind ta fun b => if b = true then mm else mn) σ Qm :=
  wp_bind (wp_imp h fun b σ1 ⟨h1, h2⟩ => by
    cases b with
    | true => exact h1 rfl
    | false => exact h2 rfl)
theorem wp_pick {is : List Nat} {n : Nat} (h : wp ms σ fun es σ1 => es.length = n ∧ Qa (pick is es) σ1) : wp (aPick is n ms) σ Qa :=
  wp_bind (wp_imp h fun es σ1 ⟨h1, q⟩ => by rw [if_pos h1]; exact wp_ret q)
theorem wp_dget (h : wp (eV ma) σ fun e σ1 => wp mb σ1 fun ek σ2 => ∃ f kvs dk k d, e = .val f (.dic kvs) ∧ look ek σ2 = .ok (dk, σ2) ∧ dKey dk = some k ∧ valD kvs k = some d ∧ Q (.val (flGet f) d) σ2) : wp (eDGet ma mb) σ Q :=
  wp_bind (wp_imp h fun e σ1 h => wp_bind (wp_imp h fun ek σ2 ⟨f, kvs, dk, k, d, h1, h2, h3, h4, q⟩ => wp_bind (wp_of h2 (by
    subst h1
    simp only [h3]
    exact wp_bind (wp_lift h4 (wp_ret q))))))
theorem wp_dnew (q : Qm (true, .dic []) σ) : wp eDNew σ Qm := wp_ret q
theorem wp_dict (h : wp (eV ma) σ fun e σ1 => ∃ f ds kvs, e = .val f (.lst ds) ∧ pairsOf ds = some kvs ∧ Qm (Fl.isOwn (f, .lst ds), .dic (mergeD [] kvs)) σ1) : wp (eDict ma) σ Qm :=
  wp_bind (wp_imp h fun e σ1 ⟨f, ds, kvs, h1, h2, q⟩ => by
    subst h1
    exact wp_bind (wp_lift h2 (wp_ret q)))
theorem wp_done (h : wp ma σ fun ek σ1 => ∃ dk k, look ek σ1 = .ok (dk, σ1) ∧ dKey dk = some k ∧ wp (eV mb) σ1 fun e σ2 => ∃ f d, e = .val f d ∧ Qm (Fl.isOwn (f, d), .dic [(k, d)]) σ2) : wp (eDOne ma mb) σ Qm := by
  refine wp_bind (wp_imp h fun ek σ1 ⟨dk, k, h1, h2, h3⟩ => wp_bind (wp_of h1 (wp_bind (wp_imp h3 fun e σ2 ⟨f, d, h4, q⟩ => ?_))))
  subst h4
  simp only [h2]
  exact wp_ret q
theorem wp_callN {F : Fn} (h : wp ms σ fun es σ1 => ∃ as, ags es σ1 = some (as, []) ∧ Runs F as fun f d l => l = [] ∧ (kidsHard d && Fl.isNew f) = true ∧ Qm (true, d) σ1) : wp (eCallN F ms) σ Qm :=
  wp_bind (wp_imp h fun es σ1 ⟨as, h1, hr⟩ => by
    obtain ⟨f, d, l, h3, h4, h5, q⟩ := hr.out
    exact wp.inn (by subst h4; simp only [h1, h3]; rw [if_pos h5]) q)
theorem wp_make {c : Str} {F : Fn} (h : wp ms σ fun es σ1 => ∃ as, ags es σ1 = some (as, []) ∧ Runs F (.io (.ins c []) :: as) fun f d l => d = .non ∧ ∃ x, l = [x] ∧ Qm (false, x) σ1) : wp (eMake c F ms) σ Qm :=
  wp_bind (wp_imp h fun es σ1 ⟨as, h1, hr⟩ => by
    obtain ⟨f, d, l, h3, h4, x, h5, q⟩ := hr.out
    exact wp.inn (by subst h4 h5; simp only [h1, h3]) q)
theorem wp_lcU {mi : M (List (Fl × D))} {t : Tgt} {mt : M Bool} {me : M Ev} {vs : List Nat} (hi : wp mi σ fun items σ0 => keepable vs σ0 = true ∧ wp (compL t mt me vs items []) (wipeS σ0 vs) fun acc σ => Qm (acc.all Fl.isOwn, .lst (acc.map (·.2))) (backS σ0 σ vs)) : wp (eLc vs mi t mt me) σ Qm :=
  wp_bind (wp_imp hi fun items σ0 ⟨h1, hc⟩ => by
    obtain ⟨acc, σ2, e, q⟩ := hc.out
    refine wp.inn ?_ q
    show (if keepable vs σ0 = true then _ else _) = _
    rw [if_pos h1, e])
theorem wp_compN {t : Tgt} {mt : M Bool} {me : M Ev} {vs : List Nat} {acc : List (Fl × D)} {Qc : List (Fl × D) → List Sv → Prop} (q : Qc acc σ) : wp (compL t mt me vs [] acc) σ Qc := wp_ret q
theorem wp_compC {t : Tgt} {mt : M Bool} {me : M Ev} {vs : List Nat} {fd : Fl × D} {post acc : List (Fl × D)} {Qc : List (Fl × D) → List Sv → Prop} (h : ∃ σ1, t (.val fd.1 fd.2) σ = some σ1 ∧ wp mt σ1 fun b σ2 => (b = true → wp (eV me) σ2 fun e σ3 => ∃ f d, e = .val f d ∧ acc.length ≤ 100000 ∧ wp (compL t mt me vs post (acc ++ [(f, d)])) (wipeS σ3 vs) Qc) ∧ (b = false → wp (compL t mt me vs post acc) (wipeS σ2 vs) Qc)) : wp (compL t mt me vs (fd :: post) acc) σ Qc := by
  obtain ⟨σ1, h1, h2⟩ := h
  refine wp_bind (wp_of (a := ()) (σ' := σ1) (by unfold tgt; rw [h1]) (wp_bind (wp_imp h2 fun b σ2 ⟨h3, h4⟩ => ?_)))
  cases b with
  | true =>
    rw [if_pos rfl]
    refine wp_bind (wp_imp (h3 rfl) fun ev σ3 ⟨f, d, e3, hz, h5⟩ => ?_)
    subst e3
    exact wp_bind (wp_lift (a := ()) (by rw [if_pos (show sizeB acc.length = true from decide_eq_true hz)]) (wp_bind (wp_of (a := ()) (σ' := wipeS σ3 vs) rfl h5)))
  | false =>
    rw [if_neg (by decide)]
    exact wp_bind (wp_of (a := ()) (σ' := wipeS σ2 vs) rfl (h4 rfl))
theorem wp_myes {Qb : Bool → List Sv → Prop} (q : Qb true σ) : wp mYes σ Qb := wp_ret q
theorem runs_ofN {np n : Nat} {mb : Sm} {as : List Ag} {Q : Fl → D → List D → Prop} (hl : as.length = np) (h : wp mb (entry n as) fun w σ => w = .next ∧ ∃ l, outs as σ = some l ∧ Q .own .non l) : Runs (runX np n mb) as Q := by
  obtain ⟨w, σ, e, ew, l, ho, q⟩ := h.out
  subst ew
  refine Runs.inn (f := .own) (d := .non) (l := l) ?_ q
  have e2 : runF n mb as = .ok ((.own, .non), l) := by
    unfold runF
    rw [e]
    simp only [R.bind, ho]
  unfold runX
  rw [if_pos hl, e2]
theorem wp_forU {mi : M (List (Fl × D))} {t : Tgt} (h : wp mi σ fun items σ1 => wp (forI t body items) σ1 R) : wp (sFor mi t body) σ R := wp_bind h
theorem wp_forN {t : Tgt} (q : R .next σ) : wp (forI t body []) σ R := wp_ret q
theorem wp_forC {t : Tgt} {fd : Fl × D} {post : List (Fl × D)} (h : ∃ σ1, t (.val fd.1 fd.2) σ = some σ1 ∧ wp body σ1 fun w σ2 => match w with | .next => wp (forI t body post) σ2 R | .cont => wp (forI t body post) σ2 R | .brk => R .next σ2 | .ret f d => R (.ret f d) σ2) : wp (forI t body (fd :: post)) σ R := by
  obtain ⟨σ1, h1, hw⟩ := h
  obtain ⟨w, σ2, h2, h3⟩ := hw.out
  refine wp_bind (wp_of (a := ()) (σ' := σ1) (by unfold tgt; rw [h1]) ?_)
  cases w with
  | next =>
    obtain ⟨a, σ3, h4, q⟩ := wp.out h3
    exact wp.inn (a := a) (σ' := σ3) (by show (body σ1).bind _ = _; rw [h2]; exact h4) q
  | cont =>
    obtain ⟨a, σ3, h4, q⟩ := wp.out h3
    exact wp.inn (a := a) (σ' := σ3) (by show (body σ1).bind _ = _; rw [h2]; exact h4) q
  | brk => exact wp.inn (σ' := σ2) (by show (body σ1).bind _ = _; rw [h2]; rfl) h3
  | ret f d => exact wp.inn (σ' := σ2) (by show (body σ1).bind _ = _; rw [h2]; rfl) h3
end
theorem wp_epoch {js : List Nat} {m : Sm} {σ : List Sv} {R : Fw → List Sv → Prop} (h : wp m ((frzAll js σ).map Sv.age) fun w σ' => R w.unage (σ'.map Sv.unage)) : wp (sEpoch js m) σ R := by
  obtain ⟨w, σ', e, q⟩ := h.out
  exact wp.inn (a := w.unage) (σ' := σ'.map Sv.unage) (by unfold sEpoch; rw [e]; rfl) q
theorem wp_spoil {N : Nat} {m : M Ev} {σ : List Sv} {R : Fw → List Sv → Prop} (h : wp (eV m) σ fun e σ1 => ∃ d σ2, e = .val .own d ∧ wornAll σ1 = some σ2 ∧ (spD d = true ∧ depD d < N ∧ cntD d ≤ 5000) ∧ R .next σ2) : wp (sSpoil N m) σ R :=
  wp_bind (wp_imp h fun e σ1 ⟨d, σ2, h1, h2, h3, q⟩ => wp.inn (a := .next) (σ' := σ2) (by
    subst h1
    simp only [h2]
    rw [if_pos h3]) q)
end Uw

namespace Uw.K12
open PySem PySem.Spec L2 Uw
theorem dMod_ok {a m : Int} (h : 0 < m) : dMod (.int a) (.int m) = some (.int (a % m)) := by
  show (if decide (0 < m) = true then some (D.int (a % m)) else none) = _
  rw [if_pos (decide_eq_true h)]
theorem dDiv_ok {a m : Int} (h : 0 < m) (h2 : m < 1073741824) : dDiv (.int a) (.int m) = some (.int (a / m)) := by
  show (if (decide (0 < m) && decide (m < 1073741824)) = true then some (D.int (a / m)) else none) = _
  rw [if_pos (by rw [decide_eq_true h, decide_eq_true h2]; rfl)]
theorem dMul_l {a m : Int} (h : small64 a = true) : dMul (.int a) (.int m) = some (.int (a * m)) := by
  show (if (small64 a || small64 m) = true then some (D.int (a * m)) else none) = _
  rw [if_pos (by rw [h]; rfl)]
theorem dMul_r {a m : Int} (h : small64 m = true) : dMul (.int a) (.int m) = some (.int (a * m)) := by
  show (if (small64 a || small64 m) = true then some (D.int (a * m)) else none) = _
  rw [if_pos (by rw [h, Bool.or_true])]
theorem dPow_ok {a : Int} {m : Int} (h : a.natAbs < 2 ^ 64) (h0 : 0 ≤ m) (h1 : m ≤ 1000000) : dPow (.int a) (.int m) = some (.int (a ^ m.toNat)) := by
  show (if (decide (0 ≤ m) && decide (m ≤ 1000000) && decide (a.natAbs < 2 ^ 64)) = true then some (D.int (a ^ m.toNat)) else none) = _
  rw [if_pos (by rw [decide_eq_true h0, decide_eq_true h1, decide_eq_true h]; rfl)]
section
variable {σ : List Sv} {Q : Ev → List Sv → Prop} {ma mb : M Ev}
theorem wp_mod (h : wp ma σ fun a σ1 => wp mb σ1 fun b σ2 => ∃ x y, look a σ2 = .ok (.int x, σ2) ∧ look b σ2 = .ok (.int y, σ2) ∧ 0 < y ∧ Q (.val .own (.int (x % y))) σ2) : wp (eOp dMod ma mb) σ Q :=
  wp_op (wp_imp h fun a σ1 h => wp_imp h fun b σ2 ⟨x, y, h1, h2, h3, q⟩ => ⟨_, _, _, h1, h2, dMod_ok h3, q⟩)
theorem wp_div (h : wp ma σ fun a σ1 => wp mb σ1 fun b σ2 => ∃ x y, look a σ2 = .ok (.int x, σ2) ∧ look b σ2 = .ok (.int y, σ2) ∧ (0 < y ∧ y < 1073741824) ∧ Q (.val .own (.int (x / y))) σ2) : wp (eOp dDiv ma mb) σ Q :=
  wp_op (wp_imp h fun a σ1 h => wp_imp h fun b σ2 ⟨x, y, h1, h2, h3, q⟩ => ⟨_, _, _, h1, h2, dDiv_ok h3.1 h3.2, q⟩)
theorem wp_mul (h : wp ma σ fun a σ1 => wp mb σ1 fun b σ2 => ∃ x y, look a σ2 = .ok (.int x, σ2) ∧ look b σ2 = .ok (.int y, σ2) ∧ (small64 x || small64 y) = true ∧ Q (.val .own (.int (x * y))) σ2) : wp (eOp dMul ma mb) σ Q :=
  wp_op (wp_imp h fun a σ1 h => wp_imp h fun b σ2 ⟨x, y, h1, h2, h3, q⟩ => ⟨_, _, _, h1, h2, by show (if (small64 x || small64 y) = true then some (D.int (x * y)) else none) = _; rw [if_pos h3], q⟩)
theorem wp_pow (h : wp ma σ fun a σ1 => wp mb σ1 fun b σ2 => ∃ x y, look a σ2 = .ok (.int x, σ2) ∧ look b σ2 = .ok (.int y, σ2) ∧ (x.natAbs < 2 ^ 64 ∧ 0 ≤ y ∧ y ≤ 1000000) ∧ Q (.val .own (.int (x ^ y.toNat))) σ2) : wp (eOp dPow ma mb) σ Q :=
  wp_op (wp_imp h fun a σ1 h => wp_imp h fun b σ2 ⟨x, y, h1, h2, h3, q⟩ => ⟨_, _, _, h1, h2, dPow_ok h3.1 h3.2.1 h3.2.2, q⟩)
end
/-- one step of a mirror -/
local macro_rules | `(tactic| walk_at "wstep") => `(tactic| first
  | with_reducible refine wp_c ?_ | with_reducible refine wp_mod ?_ | with_reducible refine wp_div ?_ | with_reducible refine wp_mul ?_ | with_reducible refine wp_pow ?_ | with_reducible refine wp_op ?_ | with_reducible refine wp_un ?_ | with_reducible refine wp_gen2 ?_ | with_reducible refine wp_v ?_ | with_reducible refine wp_test ?_ | with_reducible refine wp_nil ?_ | with_reducible refine wp_cons ?_ | with_reducible refine wp_cb ?_ | with_reducible refine wp_and ?_ | with_reducible refine wp_or ?_ | with_reducible refine wp_not ?_ | with_reducible refine wp_if ?_
  | with_reducible refine wp_seq ?_ | with_reducible refine wp_skip ?_ | with_reducible refine wp_sif ?_ | with_reducible refine wp_set ?_ | with_reducible refine wp_sret ?_ | with_reducible refine wp_setIx ?_ | with_reducible refine wp_call ?_
  | refine wp_var rfl ?_
  | refine ⟨_, _, rfl, rfl, by first | decide | omega | exact Bool.or_eq_true_iff.mpr (.inl (by decide)) | exact Bool.or_eq_true_iff.mpr (.inr (by decide)), ?_⟩ | refine ⟨_, _, rfl, rfl, by first | decide | exact ⟨by omega, by omega⟩ | exact ⟨by omega, by decide, by decide⟩, ?_⟩
  | refine ⟨_, _, _, rfl, rfl, rfl, ?_⟩ | refine ⟨_, _, rfl, ⟨_, rfl⟩, ?_⟩ | refine ⟨_, _, rfl, rfl, ?_⟩ | refine ⟨_, rfl, ?_⟩ | refine ⟨_, _, rfl, ?_⟩)
theorem draw_run {a b c m : Int} (ha : 0 ≤ a) (hb : 0 ≤ b) (hb2 : b ≤ 10000000000) (hc : 0 ≤ c) (hc2 : c ≤ 1000000000000) (hm : 0 < m) (hm2 : m < 1073741824) :
    Runs F__law_draw [.io (.lst [.int a, .int b, .int c]), .fz (.int m)] fun f d l => f = .own ∧ ∃ k : Int, d = .int k ∧ 0 ≤ k ∧ k < m ∧ ∃ a' c', l = [.lst [.int a', .int b, .int c']] ∧ 0 ≤ a' ∧ c ≤ c' ∧ c' ≤ c + 1 := by
  refine runs_of rfl ?_
  show wp m__law_draw [.io (.lst [.int a, .int b, .int c]), .fz .old (.int m), .und, .und] _
  unfold m__law_draw
  repeat (walk_at "wstep"; try dsimp only [flKid, putL, List.set, Int.reduceToNat, Bool.false_and, if_true])
  refine ⟨fun hp => ?_, fun hp => ?_⟩
  · repeat (walk_at "wstep"; try dsimp only [flKid, putL, List.set, Int.reduceToNat, Bool.false_and, if_true])
    exact ⟨Int.emod_nonneg _ (by omega), Int.emod_lt_of_pos _ hm, _, _, rfl, Int.ediv_nonneg ha (by omega), by omega, by omega⟩
  · repeat (walk_at "wstep"; try dsimp only [flKid, putL, List.set, Int.reduceToNat, Bool.false_and, if_true])
    exact ⟨Int.emod_nonneg _ (by omega), Int.emod_lt_of_pos _ hm, _, _, rfl, ha, by omega, by omega⟩
theorem Runs.imp {F : Fn} {as : List Ag} {Q Q' : Fl → D → List D → Prop} (h : Runs F as Q) (k : ∀ f d l, Q f d l → Q' f d l) : Runs F as Q' := by
  obtain ⟨f, d, l, e, q⟩ := h.out
  exact Runs.inn e (k f d l q)
/-- one step, then the slots' terms are put in order -/
local macro_rules | `(tactic| walk_at "ws") => `(tactic| ((first
  | with_reducible refine wp_c ?_ | with_reducible refine wp_mod ?_ | with_reducible refine wp_div ?_ | with_reducible refine wp_mul ?_ | with_reducible refine wp_pow ?_ | with_reducible refine wp_op ?_ | with_reducible refine wp_un ?_ | with_reducible refine wp_gen2 ?_ | with_reducible refine wp_v ?_ | with_reducible refine wp_test ?_ | with_reducible refine wp_nil ?_ | with_reducible refine wp_cons ?_ | with_reducible refine wp_cb ?_ | with_reducible refine wp_and ?_ | with_reducible refine wp_or ?_ | with_reducible refine wp_not ?_ | with_reducible refine wp_if ?_
  | with_reducible refine wp_seq ?_ | with_reducible refine wp_skip ?_ | with_reducible refine wp_sif ?_ | with_reducible refine wp_set ?_ | with_reducible refine wp_sret ?_ | with_reducible refine wp_setIx ?_ | with_reducible refine wp_call ?_
  | with_reducible refine wp_fz ?_ | with_reducible refine wp_lst ?_ | with_reducible refine wp_tup ?_ | with_reducible refine wp_new ?_ | with_reducible refine wp_genA ?_ | with_reducible refine wp_setM ?_ | with_reducible refine wp_part ?_ | with_reducible refine wp_nopart ?_ | with_reducible refine wp_sl ?_ | with_reducible refine wp_fld ?_ | with_reducible refine wp_drop ?_ | with_reducible refine wp_asg ?_ | with_reducible refine wp_parEE ?_ | with_reducible refine wp_parEM ?_ | with_reducible refine wp_par3 ?_ | with_reducible refine wp_seqI ?_ | with_reducible refine wp_rng1 ?_ | with_reducible refine wp_enum ?_ | with_reducible refine wp_zip ?_ | with_reducible refine wp_mutL ?_
  | refine wp_var rfl ?_
  | refine ⟨_, _, rfl, rfl, by first | decide | omega | exact Bool.or_eq_true_iff.mpr (.inl (by decide)) | exact Bool.or_eq_true_iff.mpr (.inr (by decide)), ?_⟩ | refine ⟨_, _, rfl, rfl, by first | decide | exact ⟨by omega, by omega⟩ | exact ⟨by omega, by decide, by decide⟩, ?_⟩
  | refine ⟨_, _, _, rfl, rfl, rfl, ?_⟩ | refine ⟨_, _, rfl, ⟨_, rfl⟩, ?_⟩ | refine ⟨_, _, rfl, rfl, ?_⟩ | refine ⟨_, rfl, ?_⟩ | refine ⟨_, _, rfl, ?_⟩ | refine ⟨rfl, ?_⟩); try dsimp only [flKid, putL, List.set, Int.reduceToNat, Bool.false_and, if_true, putOuts, reS, List.getD, Option.getD, List.getElem?_cons_zero, List.getElem?_cons_succ, List.map_cons, List.map_nil]))
/-- a well, of at most n draws -/
@[irreducible] def W3 (n : Int) (d : D) : Prop := ∃ a b c : Int, d = .lst [.int a, .int b, .int c] ∧ 0 ≤ a ∧ 0 ≤ b ∧ b ≤ 10000000000 ∧ 0 ≤ c ∧ c ≤ n
theorem W3.out {n : Int} {d : D} (h : W3 n d) : ∃ a b c : Int, d = .lst [.int a, .int b, .int c] ∧ 0 ≤ a ∧ 0 ≤ b ∧ b ≤ 10000000000 ∧ 0 ≤ c ∧ c ≤ n := by
  unfold W3 at h
  exact h
theorem W3.inn {n a b c : Int} (h1 : 0 ≤ a) (h2 : 0 ≤ b) (h3 : b ≤ 10000000000) (h4 : 0 ≤ c) (h5 : c ≤ n) : W3 n (.lst [.int a, .int b, .int c]) := by
  unfold W3
  exact ⟨a, b, c, rfl, h1, h2, h3, h4, h5⟩
theorem W3.le {n m : Int} {d : D} (h : W3 n d) (k : n ≤ m) : W3 m d := by
  obtain ⟨a, b, c, e, h1, h2, h3, h4, h5⟩ := h.out
  subst e
  exact W3.inn h1 h2 h3 h4 (by omega)
theorem W3.imm {n : Int} {d : D} (h : W3 n d) : kidsImm d = true := by
  obtain ⟨a, b, c, e, _⟩ := h.out
  rw [e]
  rfl
theorem draw_w {n m : Int} {w : D} (hw : W3 n w) (hn : n ≤ 1000000000000) (hm : 0 < m) (hm2 : m < 1073741824) :
    Runs F__law_draw [.io w, .fz (.int m)] fun f d l => f = .own ∧ ∃ k : Int, d = .int k ∧ 0 ≤ k ∧ k < m ∧ ∃ w', l = [w'] ∧ W3 (n + 1) w' := by
  obtain ⟨a, b, c, e, h1, h2, h3, h4, h5⟩ := hw.out
  subst e
  refine Runs.imp (draw_run h1 h2 h3 h4 (by omega) hm hm2) fun f d l ⟨ef, k, ed, k1, k2, a', c', el, q1, q2, q3⟩ => ?_
  exact ⟨ef, k, ed, k1, k2, _, el, W3.inn q1 h2 h3 (by omega) (by omega)⟩
theorem pick_w {n : Int} {w : D} {ds : List D} (hw : W3 n w) (hn : n ≤ 1000000000000) (h0 : ds ≠ []) (hl : ds.length < 1000000) :
    Runs F__law_pick [.io w, .fz (.lst ds)] fun f d l => f = .old ∧ d ∈ ds ∧ ∃ w', l = [w'] ∧ W3 (n + 1) w' := by
  refine runs_of rfl ?_
  show wp m__law_pick [.io w, .fz .old (.lst ds)] _
  unfold m__law_pick
  have hpos : 0 < ds.length := List.length_pos_iff.mpr h0
  repeat walk_at "ws"
  refine Runs.imp (draw_w (m := ds.length) hw hn (by omega) (by omega)) fun f d l ⟨ef, k, ed, k1, k2, w', el, hw'⟩ => ?_
  subst ef ed el
  refine ⟨rfl, ?_⟩
  have hk : k.toNat < ds.length := by omega
  have hix : dIx (.old, .lst ds) (.own, .int k) = some (.old, ds[k.toNat]) := by
    show ((atI ds k).map fun d => (flKid .old, d)) = _
    unfold atI ixN
    rw [if_pos k1, if_pos k2]
    show ((ds[k.toNat]?).map fun d => (flKid .old, d)) = _
    rw [List.getElem?_eq_getElem hk]
    rfl
  refine ⟨_, _, _, rfl, rfl, hix, ?_⟩
  exact ⟨_, _, rfl, _, _, rfl, _, _, _, rfl, rfl, rfl, List.getElem_mem hk, _, rfl, hw'⟩
theorem perm_pop {α : Type} : ∀ {l : List α} {i : Nat} {d : α}, l[i]? = some d → (d :: l.eraseIdx i).Perm l
  | [], i, d, h => by cases h
  | x :: l, 0, d, h => by cases h; exact .refl _
  | x :: l, i + 1, d, h => ((List.Perm.swap x d _).trans ((perm_pop (l := l) (i := i) (by simpa using h)).cons x))
theorem imm_perm {l m : List D} (h : l.Perm m) : immL l = true → immL m = true := by
  induction h with
  | nil => exact id
  | cons x p ih =>
    intro q
    unfold immL at q ⊢
    rw [Bool.and_eq_true] at q ⊢
    exact ⟨q.1, ih q.2⟩
  | swap x y l =>
    intro q
    unfold immL immL at q ⊢
    simp only [Bool.and_eq_true] at q ⊢
    exact ⟨q.2.1, q.1, q.2.2⟩
  | trans p q ih1 ih2 => exact fun z => ih2 (ih1 z)
theorem mixed_w {n : Int} {w : D} {ds : List D} (hw : W3 n w) (hn : n + ds.length ≤ 1000000000000) (hl : ds.length < 100000) (hi : immL ds = true) :
    Runs F__law_mixed [.io w, .fz (.lst ds)] fun f d l => f = .own ∧ ∃ es, d = .lst es ∧ es.Perm ds ∧ ∃ w', l = [w'] ∧ W3 (n + ds.length) w' := by
  refine runs_of rfl ?_
  show wp m__law_mixed [.io w, .fz .old (.lst ds), .und, .und] _
  unfold m__law_mixed
  walk_at "ws"; walk_at "ws"; walk_at "ws"; walk_at "ws"; walk_at "ws"; walk_at "ws"; walk_at "ws"; walk_at "ws"
  rw [show kidsImm (.lst ds) = true from hi]
  walk_at "ws"; walk_at "ws"; walk_at "ws"
  refine wp_lc (I := fun items pre acc σ => items = (List.range ds.length).map (fun (k : Nat) => (Fl.own, D.int (0 + (k : Int)))) ∧ ∃ w' left, σ = [.io w', .fz .old (.lst ds), .mu true (.lst left), .und] ∧ W3 (n + pre.length) w' ∧ (acc.map (·.2) ++ left).Perm ds ∧ left.length + pre.length = ds.length ∧ acc.all Fl.isOwn = true ∧ acc.length = pre.length ∧ immL left = true) ?_
  refine wp_rng1 ?_
  walk_at "ws"; walk_at "ws"; walk_at "ws"; walk_at "ws"
  refine ⟨_, _, rfl, rfl, ?_⟩
  refine ⟨_, rfl, ⟨by omega, by omega⟩, rfl, ⟨by rw [Int.toNat_natCast], w, ds, rfl, by simpa using hw, by simp, by simp, rfl, rfl, hi⟩, ?_, ?_⟩
  · rintro pre fd post acc σ hit ⟨hits, w', left, rfl, hw', hperm, hlen, hown, hal, himm⟩
    refine ⟨_, rfl, ?_⟩
    dsimp only [List.set]
    refine wp_ret ⟨fun _ => ?_, fun h => by cases h⟩
    have hpl : pre.length < ds.length := by
      have := congrArg List.length hit
      rw [Int.toNat_natCast] at this
      simp only [List.length_map, List.length_range, List.length_append, List.length_cons] at this
      omega
    refine wp_v ?_
    refine wp_mutL ⟨⟨_, rfl⟩, ?_⟩
    refine wp_v (wp_call ?_)
    refine wp_cons (wp_var rfl (wp_cons (wp_cb (wp_cons (wp_var rfl (wp_nil ?_))) ) ))
    refine ⟨_, _, rfl, rfl, wp_nil ?_⟩
    refine ⟨_, _, rfl, rfl, ?_⟩
    refine Runs.imp (draw_w (m := left.length) hw' (by omega) (by omega) (by omega)) fun f d l ⟨ef, k, ed, k1, k2, w2, el, hw2⟩ => ?_
    subst ef ed el
    have hk : k.toNat < left.length := by omega
    have hg : left[k.toNat]? = some left[k.toNat] := List.getElem?_eq_getElem hk
    have hkp : kPopAt true left .own (.int k) = some (.own, left[k.toNat], true, left.eraseIdx k.toNat) := by
      simp only [kPopAt, if_pos k1, hg]
      rw [if_pos (show sizeB left.length = true from decide_eq_true (by omega))]
      rfl
    have hsp := perm_pop hg
    have him : imm left[k.toNat] = true ∧ immL (left.eraseIdx k.toNat) = true := by
      have := imm_perm hsp.symm himm
      unfold immL at this
      exact Bool.and_eq_true_iff.mp this
    refine ⟨rfl, _, _, rfl, .own, .int k, false, true, left, _, _, _, _, rfl, rfl, hkp, ?_⟩
    refine ⟨_, _, rfl, .own, left[k.toNat], rfl, by omega, hits, w2, left.eraseIdx k.toNat, rfl, by rw [List.length_append, List.length_singleton]; exact hw2.le (by omega), ?_, ?_, ?_, ?_, him.2⟩
    · rw [List.map_append, List.append_assoc]
      exact (List.Perm.append_left _ hsp).trans hperm
    · rw [List.length_eraseIdx_of_lt hk, List.length_append, List.length_singleton]
      omega
    · rw [List.all_append, hown]
      simp [Fl.isOwn]
    · rw [List.length_append, List.length_append, hal]
      rfl
  · rintro acc σ ⟨hits, w', left, rfl, hw', hperm, hlen, hown, hal, himm⟩
    rw [Int.toNat_natCast, List.length_map, List.length_range] at hw' hlen hal
    have hz : left = [] := List.length_eq_zero_iff.mp (by omega)
    subst hz
    rw [List.append_nil] at hperm
    rw [hown]
    repeat walk_at "ws"
    exact ⟨hperm, _, rfl, hw'⟩
@[irreducible] def freeS (s : Sv) : Prop := s = .und ∨ ∃ f d, s = .fz f d
theorem freeS.out {s : Sv} (h : freeS s) : s = .und ∨ ∃ f d, s = .fz f d := by
  unfold freeS at h
  exact h
theorem free_und : freeS .und := by
  unfold freeS
  exact .inl rfl
theorem free_fz (f : Fl) (d : D) : freeS (.fz f d) := by
  unfold freeS
  exact .inr ⟨f, d, rfl⟩
theorem well_rest {ns : List Int} {p cell : Int} {fl : Fl} (hp : 0 ≤ p) (hp2 : p ≤ 100) {R : Fw → List Sv → Prop}
    (hR : ∀ (σ : List Sv) (d : D), (∃ s3 s4 s5, σ = [.fz .old (.scr ns), .fz .old (.int p), .fz fl (.int cell), s3, s4, s5]) → W3 0 d → R (.ret .own d) σ) :
    wp (sSeq (sSet 3 (eC (.int 0))) (sSeq (sFor (mEnum (eVar 0)) (gTupM [(putV 4), (putV 5)])
 (sSet 3 (eOp dMod (eCB dInt (aCons (eGen2 dAdd (eGen2 dAdd (eOp dMul (eVar 3) (eC (.int 131))) (eCB dAbs (aCons (eVar 5) aNil))) (eVar 4)) aNil)) (eC (.int 2147483629)))))
 (sRet (eFz (eLst (aCons (eIf (eT (eOp dGe (eVar 2) (eOp dPow (eC (.int 10)) (eC (.int 18))))) (eVar 2) (eC (.int 0))) (aCons (eGen2 dAdd (eOp dMod (eCB dInt (aCons (eGen2 dAdd (eCB dAbs (aCons (eVar 2) aNil)) (eOp dMul (eC (.int 31)) (eVar 3))) aNil)) (eC (.int 2147483629))) (eOp dMul (eC (.int 17)) (eVar 1))) (aCons (eC (.int 0)) aNil))))))))
      [.fz .old (.scr ns), .fz .old (.int p), .fz fl (.int cell), .und, .und, .und] R := by
  repeat walk_at "ws"
  refine wp_for (fun items pre σ => items = numbered 0 (ns.map fun n => (Fl.own, D.int n)) ∧ ∃ mx s4 s5, σ = [.fz .old (.scr ns), .fz .old (.int p), .fz fl (.int cell), .fz .own (.int mx), s4, s5] ∧ 0 ≤ mx ∧ mx < 2147483629 ∧ freeS s4 ∧ freeS s5) ?_
  refine wp_enum (wp_v (wp_var rfl ?_))
  refine ⟨_, _, rfl, _, _, _, rfl, rfl, ⟨rfl, 0, .und, .und, rfl, by omega, by omega, free_und, free_und⟩, ?_, ?_⟩
  · rintro pre fd post σ hit ⟨hits, mx, s4, s5, rfl, m1, m2, f4, f5⟩
    have hg : (numbered 0 (ns.map fun n => (Fl.own, D.int n)))[pre.length]? = some fd := by
      rw [hit, List.getElem?_append_right (Nat.le_refl _), Nat.sub_self]
      rfl
    rw [numbered_get, List.getElem?_map] at hg
    cases z : ns[pre.length]? with
    | none => rw [z] at hg; cases hg
    | some x =>
      rw [z] at hg
      cases hg
      have hs : ∀ s, freeS s → (match s with | .io _ => false | _ => true) = true := fun s h => by
        rcases h.out with rfl | ⟨f, d, rfl⟩ <;> rfl
      have ht : gTupM [putV 4, putV 5] (.val (flNew .own) (.tup [.int ((0 + pre.length : Nat) : Int), .int x])) [.fz .old (.scr ns), .fz .old (.int p), .fz fl (.int cell), .fz .own (.int mx), s4, s5] =
          some [.fz .old (.scr ns), .fz .old (.int p), .fz fl (.int cell), .fz .own (.int mx), .fz (flKid (flNew .own)) (.int ((0 + pre.length : Nat) : Int)), .fz (flKid (flNew .own)) (.int x)] := by
        rcases f4.out with rfl | ⟨_, _, rfl⟩ <;> rcases f5.out with rfl | ⟨_, _, rfl⟩ <;> rfl
      refine ⟨_, ht, ?_⟩
      repeat walk_at "ws"
      exact ⟨_, _, _, rfl, Int.emod_nonneg _ (by omega), Int.emod_lt_of_pos _ (by omega), free_fz _ _, free_fz _ _⟩
  · rintro σ ⟨hits, mx, s4, s5, rfl, m1, m2, f4, f5⟩
    repeat walk_at "ws"
    refine ⟨fun hc => ?_, fun hc => ?_⟩
    · have h18 : (10 : Int) ^ 18 ≤ cell := of_decide_eq_true hc
      have h0 : (0 : Int) ≤ cell := Int.le_trans (by decide) h18
      repeat walk_at "ws"
      refine ⟨by simp, _, _, rfl, _, _, rfl, ?_⟩
      have hown : ∀ (f : Fl) (a b : Int), ([(f, D.int a), (Fl.own, D.int b), (Fl.own, D.int 0)] : List (Fl × D)).all Fl.isOwn = true := fun f a b => by simp [Fl.isOwn, imm]
      rw [hown]
      have e1 := Int.emod_nonneg (((if cell < 0 then -cell else cell) + 31 * mx)) (show (2147483629 : Int) ≠ 0 by decide)
      have e2 := Int.emod_lt_of_pos (((if cell < 0 then -cell else cell) + 31 * mx)) (show (0 : Int) < 2147483629 by decide)
      exact hR _ _ ⟨_, _, _, rfl⟩ (W3.inn (by omega) (by omega) (by omega) (by omega) (by omega))
    · repeat walk_at "ws"
      refine ⟨by simp, _, _, rfl, _, _, rfl, ?_⟩
      have hown : ∀ (f : Fl) (a b : Int), ([(f, D.int a), (Fl.own, D.int b), (Fl.own, D.int 0)] : List (Fl × D)).all Fl.isOwn = true := fun f a b => by simp [Fl.isOwn, imm]
      rw [hown]
      have e1 := Int.emod_nonneg (((if cell < 0 then -cell else cell) + 31 * mx)) (show (2147483629 : Int) ≠ 0 by decide)
      have e2 := Int.emod_lt_of_pos (((if cell < 0 then -cell else cell) + 31 * mx)) (show (0 : Int) < 2147483629 by decide)
      exact hR _ _ ⟨_, _, _, rfl⟩ (W3.inn (by omega) (by omega) (by omega) (by omega) (by omega))
theorem intsOf_map : ∀ xs : List Int, intsOf (xs.map D.int) = some xs
  | [] => rfl
  | x :: xs => by
    rw [List.map_cons]
    unfold intsOf
    rw [intsOf_map xs]
    rfl
theorem dSum_map (xs : List Int) : dSum [.lst (xs.map D.int)] = some (.int xs.sum) := by
  unfold dSum
  simp only [intsOf_map]
  rfl
theorem well_w {ns : List Int} {p : Int} (hp : 0 ≤ p) (hp2 : p ≤ 100) (hl : ns.length ≤ 63) :
    Runs F__law_well [.fz (.scr ns), .fz (.int p)] fun f d l => f = .own ∧ l = [] ∧ W3 0 d := by
  refine runs_of rfl ?_
  show wp m__law_well [.fz .old (.scr ns), .fz .old (.int p), .und, .und, .und, .und] _
  unfold m__law_well
  refine wp_seq (wp_set (wp_v (wp_if ?_)))
  repeat walk_at "ws"
  refine ⟨fun hc => ?_, fun hc => ?_⟩
  · have hlt : p < ns.length := of_decide_eq_true hc
    have hk : p.toNat < ns.length := by omega
    have hix : dIx (.old, .scr ns) (.old, .int p) = some (.own, .int ns[p.toNat]) := by
      show ((atI ns p).map fun n => (Fl.own, D.int n)) = _
      unfold atI ixN
      rw [if_pos hp, if_pos hlt]
      show ((ns[p.toNat]?).map fun n => (Fl.own, D.int n)) = _
      rw [List.getElem?_eq_getElem hk]
      rfl
    refine wp_gen2 (wp_var rfl (wp_var rfl ⟨_, _, _, rfl, rfl, hix, ?_⟩))
    refine ⟨_, _, rfl, _, rfl, ?_⟩
    refine well_rest hp hp2 fun σ d ⟨s3, s4, s5, hs⟩ hw => ?_
    subst hs
    exact ⟨_, _, _, rfl, rfl, rfl, rfl, hw⟩
  · repeat walk_at "ws"
    refine ⟨_, _, rfl, dSum_map _, ?_⟩
    walk_at "ws"; walk_at "ws"; walk_at "ws"; walk_at "ws"; walk_at "ws"; walk_at "ws"; walk_at "ws"; walk_at "ws"; walk_at "ws"; walk_at "ws"; walk_at "ws"; walk_at "ws"; walk_at "ws"
    refine well_rest hp hp2 fun σ d ⟨s3, s4, s5, hs⟩ hw => ?_
    subst hs
    exact ⟨_, _, _, rfl, rfl, rfl, rfl, hw⟩
theorem cutD_take {α : Type} (xs : List α) {m : Int} (h : 0 ≤ m) : cutD xs none (some m) = xs.take m.toNat := by
  unfold cutD
  have e1 : HT.sIx xs.length 0 none = 0 := rfl
  have e2 : HT.sIx xs.length xs.length (some m) = min m.toNat xs.length := by
    show (if m < 0 then (m + (xs.length : Int)).toNat else min m.toNat xs.length) = _
    rw [if_neg (by omega)]
  rw [e1, e2, List.drop_zero, Nat.sub_zero, ← List.take_eq_take_min]
def pool : List D := [.str "a", .str "kek", .str "knowm", .str "knowz", .str "knownn", .str "z", .str "data", .str "wrap", .str "own", .str "r2", .str "under", .str "copy"]
theorem imm_strs : ∀ {l : List D}, l.all isStr = true → immL l = true
  | [], _ => rfl
  | d :: l, h => by
    rw [List.all_cons, Bool.and_eq_true] at h
    unfold immL
    rw [imm_strs h.2, Bool.and_true]
    cases d <;> first | rfl | cases h.1
theorem sorted_strs {l : List D} (h : l.all isStr = true) (h2 : l.length < 64) : dSorted [.lst l] = some (.lst (sortD l)) ∧ kidsImm (.lst (sortD l)) = true := by
  refine ⟨?_, imm_perm (sortD_perm l).symm (imm_strs h)⟩
  show (if l.all isStr = true ∧ l.length < 64 then _ else _) = _
  rw [if_pos ⟨h, h2⟩]
theorem names_w {n m : Int} {w : D} (hw : W3 n w) (hn : n ≤ 100000000000) (h0 : 0 ≤ m) (h1 : m ≤ 12) :
    Runs F__law_m_names [.io w, .fz (.int m)] fun f d l => f = .own ∧ ∃ es : List D, d = .lst (sortD (es.take m.toNat)) ∧ es.Perm pool ∧ ∃ w', l = [w'] ∧ W3 (n + 12) w' := by
  refine runs_of rfl ?_
  show wp m__law_m_names [.io w, .fz .old (.int m), .und] _
  unfold m__law_m_names
  refine wp_seq (wp_setM (wp_lst ?_))
  repeat walk_at "ws"
  refine ⟨by decide, rfl, ?_⟩
  repeat walk_at "ws"
  refine Runs.imp (mixed_w (ds := pool) hw (show n + 12 ≤ 1000000000000 by omega) (by decide) rfl) fun f d l ⟨ef, es, ed, hperm, w', el, hw'⟩ => ?_
  subst ef ed el
  refine ⟨rfl, ?_⟩
  walk_at "ws"; walk_at "ws"; walk_at "ws"; walk_at "ws"
  have hall : (es.take m.toNat).all isStr = true := List.all_eq_true.mpr fun x hx => List.all_eq_true.mp (show pool.all isStr = true from rfl) x (hperm.mem_iff.mp (List.mem_of_mem_take hx))
  have hlen : (es.take m.toNat).length < 64 := by
    have := hperm.length_eq
    have e : pool.length = 12 := rfl
    rw [List.length_take]
    omega
  have hs := sorted_strs hall hlen
  refine ⟨_, _, rfl, rfl, ?_⟩
  walk_at "ws"
  refine ⟨_, .lst (sortD (es.take m.toNat)), rfl, ?_, ?_⟩
  · show dSorted [.lst (cutD es none (some m))] = _
    rw [cutD_take es h0]
    exact hs.1
  · rw [hs.2]
    repeat walk_at "ws"
    exact ⟨hperm, w', rfl, hw'⟩
theorem strs_of {l : List D} (h : l.all isStr = true) : ∃ ss : List Str, l = ss.map D.str := by
  induction l with
  | nil => exact ⟨[], rfl⟩
  | cons d l ih =>
    rw [List.all_cons, Bool.and_eq_true] at h
    obtain ⟨ss, e⟩ := ih h.2
    cases d <;> first | (cases h.1; done) | skip
    rename_i s
    exact ⟨s :: ss, by rw [e]; rfl⟩
theorem pyL_strs : ∀ ss : List Str, pyL (ss.map D.str) = some (ss.map PyData.str)
  | [] => rfl
  | s :: ss => by
    rw [List.map_cons]
    unfold pyL
    rw [pyL_strs ss]
    rfl
theorem canLay_strs : ∀ {ss : List Str}, ss.all PyData.strOk = true → PyData.canLayAll0 (ss.map PyData.str) = true
  | [], _ => by simp [PyData.canLayAll0]
  | s :: ss, h => by
    rw [List.all_cons, Bool.and_eq_true] at h
    rw [List.map_cons]
    simp [PyData.canLayAll0, PyData.canLay0, h.1, canLay_strs h.2]
theorem depth_strs : ∀ ss : List Str, PyData.depthAll (ss.map PyData.str) = 0
  | [] => by simp [PyData.depthAll]
  | s :: ss => by
    rw [List.map_cons]
    simp [PyData.depthAll, PyData.depth, depth_strs ss]
theorem pyS_str {s : Str} (h : PyData.strOk s = true) : pyS (.str s) = some (.str s) := by
  have e : py (.str s) = some (.str s) := by unfold py; rfl
  unfold pyS
  rw [e]
  show (if SeqAt.shaped _ = true then _ else _) = _
  rw [if_pos]
  simp [SeqAt.shaped, PyData.canLay0, PyData.depth, h]
theorem pyS_lst {ss : List Str} (h : ss.all PyData.strOk = true) : pyS (.lst (ss.map D.str)) = some (.list (ss.map PyData.str)) := by
  have e : py (.lst (ss.map D.str)) = some (.list (ss.map PyData.str)) := by
    unfold py
    rw [pyL_strs]
    rfl
  unfold pyS
  rw [e]
  show (if SeqAt.shaped _ = true then _ else _) = _
  rw [if_pos]
  simp [SeqAt.shaped, PyData.canLay0, PyData.depth, canLay_strs h, depth_strs]
theorem pyS_tup {ss : List Str} (h : ss.all PyData.strOk = true) : pyS (.tup (ss.map D.str)) = some (.tuple (ss.map PyData.str)) := by
  have e : py (.tup (ss.map D.str)) = some (.tuple (ss.map PyData.str)) := by
    unfold py
    rw [pyL_strs]
    rfl
  unfold pyS
  rw [e]
  show (if SeqAt.shaped _ = true then _ else _) = _
  rw [if_pos]
  simp [SeqAt.shaped, PyData.canLay0, PyData.depth, canLay_strs h, depth_strs]
theorem dEq_str {a b : Str} (ha : PyData.strOk a = true) (hb : PyData.strOk b = true) : dEq (.str a) (.str b) = some (.bl (a == b)) := by
  unfold dEq
  rw [pyS_str ha, pyS_str hb]
  simp [PyData.eqv]
theorem dNe_nil {ss : List Str} (h : ss.all PyData.strOk = true) : dNe (.lst (ss.map D.str)) (.lst []) = some (.bl (!ss.isEmpty)) := by
  unfold dNe
  rw [pyS_lst h, show pyS (.lst []) = some (.list []) from pyS_lst (ss := []) rfl]
  cases ss <;> simp [PyData.eqv, PyData.eqvAll]
theorem eqvAll_strs : ∀ ss ts : List Str, PyData.eqvAll (ss.map PyData.str) (ts.map PyData.str) = decide (ss = ts)
  | [], [] => by simp [PyData.eqvAll]
  | [], _ :: _ => by simp [PyData.eqvAll]
  | _ :: _, [] => by simp [PyData.eqvAll]
  | s :: ss, t :: ts => by
    have ih := eqvAll_strs ss ts
    rw [List.map_cons, List.map_cons]
    simp only [PyData.eqvAll, PyData.eqv, ih]
    by_cases h : s = t <;> by_cases h2 : ss = ts <;> simp [h, h2]
/-- a step, displays too -/
local macro_rules | `(tactic| walk_at "wt") => `(tactic| first | (refine ⟨_, rfl, Nat.le_of_ble_eq_true rfl, ?_⟩; try dsimp only [List.map_cons, List.map_nil]) | walk_at "ws")
local macro_rules | `(tactic| walk_at "wk") => `(tactic| (refine ⟨rfl, _, _, rfl, ?_⟩; walk_at "ws"; walk_at "ws"; walk_at "ws"; walk_at "ws"; walk_at "ws"; walk_at "ws"; walk_at "ws"; walk_at "ws"; walk_at "ws"; walk_at "ws"))
def wordsD : List D := [.str "make", .str "make", .str "bring", .str "show", .str "copy", .str "wrap", .str "wrap", .str "unwrap", .str "unwrap", .str "seal", .str "open", .str "derive", .str "derive"]
inductive PermOk (roles labels : List D) : D → Prop
  | one {w : Str} {r : D} : w ∈ (["make", "bring", "show", "seal", "open"] : List Str) → r ∈ roles → PermOk roles labels (.tup [.str w, r])
  | two {w : Str} {r s : D} : w ∈ (["copy", "wrap", "unwrap"] : List Str) → r ∈ roles → s ∈ roles → PermOk roles labels (.tup [.str w, r, s])
  | der {r l s : D} : r ∈ roles → l ∈ labels → s ∈ roles → PermOk roles labels (.tup [.str "derive", r, l, s])
theorem mem_str {ds : List D} (h : ds.all isStr = true) {d : D} (hd : d ∈ ds) : ∃ s, d = .str s := by
  have := List.all_eq_true.mp h d hd
  cases d <;> first | exact ⟨_, rfl⟩ | cases this
def fiveD : List D := [.str "make", .str "bring", .str "show", .str "seal", .str "open"]
theorem word_key {d : D} (h : d ∈ wordsD) : ∃ b c : Bool, dEq d (.str "derive") = some (.bl b) ∧ dIn d (.tup fiveD) = some (.bl c) ∧ (∃ s, d = .str s) ∧ (b = true → d = .str "derive") ∧
    (b = false → c = true → ∃ s, d = .str s ∧ s ∈ (["make", "bring", "show", "seal", "open"] : List Str)) ∧ (b = false → c = false → ∃ s, d = .str s ∧ s ∈ (["copy", "wrap", "unwrap"] : List Str)) := by
  have q : ∀ s : Str, s ∈ (["make", "bring", "show", "seal", "open", "copy", "wrap", "unwrap", "derive"] : List Str) → ∃ b c : Bool, dEq (.str s) (.str "derive") = some (.bl b) ∧ dIn (.str s) (.tup fiveD) = some (.bl c) ∧ (b = true → s = "derive") ∧
    (b = false → c = true → s ∈ (["make", "bring", "show", "seal", "open"] : List Str)) ∧ (b = false → c = false → s ∈ (["copy", "wrap", "unwrap"] : List Str)) := by
    intro s hs
    have hok : PyData.strOk s = true := List.all_eq_true.mp (show (["make", "bring", "show", "seal", "open", "copy", "wrap", "unwrap", "derive"] : List Str).all PyData.strOk = true by kernel_rfl) s hs
    refine ⟨s == "derive", inV (.str s) (fiveD.map dV), dEq_str hok (by kernel_rfl), ?_, ?_⟩
    · unfold dIn
      show Option.map D.bl (if fiveD.all flatD = true ∧ flatD (.str s) = true then some (inV (dV (.str s)) (fiveD.map dV)) else none) = _
      rw [if_pos ⟨rfl, rfl⟩]
      rfl
    · clear hok
      revert s
      decide +kernel
  have m : ∃ s, d = .str s ∧ s ∈ (["make", "bring", "show", "seal", "open", "copy", "wrap", "unwrap", "derive"] : List Str) := by
    unfold wordsD at h
    simp only [List.mem_cons, List.not_mem_nil, or_false] at h
    rcases h with h | h | h | h | h | h | h | h | h | h | h | h | h <;> exact ⟨_, h, by decide⟩
  obtain ⟨s, rfl, hs⟩ := m
  obtain ⟨b, c, h1, h2, h3, h4, h5⟩ := q s hs
  exact ⟨b, c, h1, h2, ⟨s, rfl⟩, fun z => by rw [h3 z], fun z y => ⟨s, rfl, h4 z y⟩, fun z y => ⟨s, rfl, h5 z y⟩⟩
theorem permit_w {n : Int} {w : D} {roles : List D} {ls : List Str} (hw : W3 n w) (hn : n ≤ 100000000000) (hr : roles.all isStr = true) (hr0 : roles ≠ []) (hrl : roles.length < 100) (hl : ls.all PyData.strOk = true) (hll : ls.length < 100) :
    Runs F__law_m_permit [.io w, .fz (.lst roles), .fz (.lst (ls.map D.str)), .fz (.lst wordsD)] fun f d l => f = .own ∧ PermOk roles (ls.map D.str) d ∧ ∃ w', l = [w'] ∧ W3 (n + 4) w' := by
  refine runs_of rfl ?_
  show wp m__law_m_permit [.io w, .fz .old (.lst roles), .fz .old (.lst (ls.map D.str)), .fz .old (.lst wordsD), .und, .und, .und] _
  unfold m__law_m_permit
  refine wp_seq (wp_par3 ?_)
  walk_at "ws"; walk_at "ws"; walk_at "ws"; walk_at "ws"; walk_at "ws"; walk_at "ws"; walk_at "ws"; walk_at "ws"; walk_at "ws"; walk_at "ws"
  refine Runs.imp (pick_w (ds := wordsD) hw (by omega) (by decide) (by decide)) fun f d l ⟨ef, hwd, w1, el, hw1⟩ => ?_
  subst ef el
  walk_at "wk"
  refine Runs.imp (pick_w (ds := roles) hw1 (by omega) hr0 (by omega)) fun f r l ⟨ef, hr1, w2, el, hw2⟩ => ?_
  subst ef el
  walk_at "wk"
  refine Runs.imp (pick_w (ds := roles) hw2 (by omega) hr0 (by omega)) fun f q l ⟨ef, hq1, w3, el, hw3⟩ => ?_
  subst ef el
  refine ⟨rfl, _, _, rfl, ?_⟩
  obtain ⟨b, c, k1, k2, ⟨wd, ed⟩, k3, k4, k5⟩ := word_key hwd
  subst ed
  obtain ⟨rs, er⟩ := mem_str hr hr1
  obtain ⟨qs, eq⟩ := mem_str hr hq1
  subst er eq
  walk_at "ws"; walk_at "ws"; walk_at "ws"; walk_at "ws"; walk_at "ws"; walk_at "ws"; walk_at "ws"
  refine ⟨_, _, _, rfl, rfl, k1, _, rfl, fun hb => ?_, fun hb => ?_⟩
  · iterate 10 walk_at "wt"
    refine ⟨_, _, _, rfl, rfl, dNe_nil hl, _, rfl, fun hc => ?_, fun hc => ?_⟩
    · iterate 17 walk_at "wt"
      have hl0 : ls.map D.str ≠ [] := fun z => by
        rw [List.map_eq_nil_iff.mp z] at hc
        cases hc
      refine Runs.imp (pick_w (ds := ls.map D.str) hw3 (by omega) hl0 (by rw [List.length_map]; omega)) fun f l1 l ⟨ef, hl1, w4, el, hw4⟩ => ?_
      subst ef el
      obtain ⟨l1s, -, e1⟩ := List.mem_map.mp hl1
      subst e1
      refine ⟨rfl, ?_⟩
      iterate 6 walk_at "wt"
      exact ⟨_, _, rfl, _, _, rfl, _, _, _, rfl, rfl, rfl, .der hr1 hl1 hq1, _, rfl, hw4.le (by omega)⟩
    · iterate 9 walk_at "wt"
      exact ⟨_, _, rfl, _, _, rfl, _, _, _, rfl, rfl, rfl, .one (by decide) hr1, _, rfl, hw3.le (by omega)⟩
  · iterate 20 walk_at "wt"
    refine ⟨_, _, _, rfl, rfl, k2, _, rfl, fun hc => ?_, fun hc => ?_⟩
    · obtain ⟨s, es, hs⟩ := k4 hb hc
      cases es
      iterate 11 walk_at "wt"
      exact ⟨_, _, rfl, _, _, rfl, _, _, _, rfl, rfl, rfl, .one hs hr1, _, rfl, hw3.le (by omega)⟩
    · obtain ⟨s, es, hs⟩ := k5 hb hc
      cases es
      iterate 15 walk_at "wt"
      exact ⟨_, _, rfl, _, _, rfl, _, _, _, rfl, rfl, rfl, .two hs hr1 hq1, _, rfl, hw3.le (by omega)⟩
/-! ### texts, tuples of texts -/
abbrev OkS (ss : List Str) : Prop := ss.all PyData.strOk = true
abbrev OkT (ps : List (List Str)) : Prop := ∀ p ∈ ps, OkS p
def tS (p : List Str) : D := .tup (p.map .str)
def lS (ss : List Str) : D := .lst (ss.map .str)
def lT (ps : List (List Str)) : D := .lst (ps.map tS)
def pT (p : List Str) : PyData := .tuple (p.map .str)
def sq (b : Bool) (ds : List D) : D := if b = true then .lst ds else .tup ds
theorem py_tS (p : List Str) : py (tS p) = some (pT p) := by
  unfold tS py
  rw [pyL_strs]
  rfl
theorem pyL_tS : ∀ ps : List (List Str), pyL (ps.map tS) = some (ps.map pT)
  | [] => rfl
  | p :: ps => by
    rw [List.map_cons]
    unfold pyL
    rw [pyL_tS ps, py_tS]
    rfl
theorem canLay_tS : ∀ {ps : List (List Str)}, OkT ps → PyData.canLayAll0 (ps.map pT) = true
  | [], _ => by simp [PyData.canLayAll0]
  | p :: ps, h => by
    have h1 := canLay_strs (h p (by simp))
    have h2 := canLay_tS (ps := ps) fun q hq => h q (by simp [hq])
    rw [List.map_cons]
    simp [PyData.canLayAll0, PyData.canLay0, pT, h1, h2]
theorem depth_tS : ∀ ps : List (List Str), PyData.depthAll (ps.map pT) ≤ 1
  | [] => by simp [PyData.depthAll]
  | p :: ps => by
    have := depth_tS ps
    rw [List.map_cons]
    simp [PyData.depthAll, PyData.depth, pT, depth_strs]
    omega
theorem pyS_tS {p : List Str} (h : OkS p) : pyS (tS p) = some (pT p) := pyS_tup h
theorem pyS_lT {ps : List (List Str)} (h : OkT ps) : pyS (lT ps) = some (.list (ps.map pT)) := by
  have e : py (lT ps) = some (.list (ps.map pT)) := by
    unfold lT py
    rw [pyL_tS]
    rfl
  unfold pyS
  rw [e]
  show (if SeqAt.shaped _ = true then _ else _) = _
  rw [if_pos]
  have := depth_tS ps
  simp [SeqAt.shaped, PyData.canLay0, PyData.depth, canLay_tS h]
  omega
theorem any_tS (p : List Str) : ∀ ps : List (List Str), ((ps.map pT).any fun z => PyData.eqv z (pT p)) = decide (p ∈ ps)
  | [] => by simp
  | q :: ps => by
    rw [List.map_cons, List.any_cons, any_tS p ps]
    have : PyData.eqv (pT q) (pT p) = decide (q = p) := by
      unfold pT
      simp only [PyData.eqv, eqvAll_strs]
    rw [this]
    by_cases h : q = p
    · simp [h]
    · have h' : ¬ p = q := fun z => h z.symm
      simp [h, h']
theorem any_str (s : Str) : ∀ ss : List Str, ((ss.map PyData.str).any fun z => PyData.eqv z (.str s)) = decide (s ∈ ss)
  | [] => by simp
  | q :: ps => by
    rw [List.map_cons, List.any_cons, any_str s ps]
    by_cases h : q = s
    · simp [h, PyData.eqv]
    · have h' : ¬ s = q := fun z => h z.symm
      simp [h, h', PyData.eqv]
theorem inP_tS {p : List Str} {ps : List (List Str)} (hp : OkS p) (h : OkT ps) : inP (tS p) (lT ps) = some (decide (p ∈ ps)) := by
  have e := pyS_lT h
  unfold lT at e ⊢
  unfold inP
  simp only [pyS_tS hp, e]
  show some (List.any _ _) = _
  rw [any_tS]
theorem dIn_tS {p : List Str} {ps : List (List Str)} (hp : OkS p) (h : OkT ps) : dIn (tS p) (lT ps) = some (.bl (decide (p ∈ ps))) := by
  unfold dIn
  rw [inP_tS hp h]
  rfl
theorem dNotIn_tS {p : List Str} {ps : List (List Str)} (hp : OkS p) (h : OkT ps) : dNotIn (tS p) (lT ps) = some (.bl (!decide (p ∈ ps))) := by
  unfold dNotIn
  rw [inP_tS hp h]
  rfl
theorem inV_str (s : Str) : ∀ ss : List Str, inV (.str s) ((ss.map D.str).map dV) = decide (s ∈ ss)
  | [] => rfl
  | q :: ss => by
    have := inV_str s ss
    unfold inV at this ⊢
    rw [List.map_cons, List.map_cons, List.any_cons, this]
    show ((q == s) || _) = _
    by_cases h : q = s
    · simp [h]
    · have h' : ¬ s = q := fun z => h z.symm
      simp [h, h']
theorem flat_strs (ss : List Str) : (ss.map D.str).all flatD = true := by
  rw [List.all_eq_true]
  intro d hd
  obtain ⟨s, -, rfl⟩ := List.mem_map.mp hd
  rfl
theorem inP_str {s : Str} {ss : List Str} {b : Bool} (hs : PyData.strOk s = true) (h : OkS ss) : inP (.str s) (sq b (ss.map .str)) = some (decide (s ∈ ss)) := by
  cases b with
  | true =>
    show inP (.str s) (.lst (ss.map .str)) = _
    unfold inP
    simp only [pyS_str hs, pyS_lst h]
    show some (List.any _ _) = _
    rw [any_str]
  | false =>
    show inP (.str s) (.tup (ss.map .str)) = _
    unfold inP
    simp only
    rw [if_pos ⟨flat_strs ss, rfl⟩]
    show some (inV (.str s) _) = _
    rw [inV_str]
theorem dIn_str {s : Str} {ss : List Str} {b : Bool} (hs : PyData.strOk s = true) (h : OkS ss) : dIn (.str s) (sq b (ss.map .str)) = some (.bl (decide (s ∈ ss))) := by
  unfold dIn
  rw [inP_str hs h]
  rfl
theorem dNotIn_str {s : Str} {ss : List Str} {b : Bool} (hs : PyData.strOk s = true) (h : OkS ss) : dNotIn (.str s) (sq b (ss.map .str)) = some (.bl (!decide (s ∈ ss))) := by
  unfold dNotIn
  rw [inP_str hs h]
  rfl
theorem dIn_lS {s : Str} {ss : List Str} (hs : PyData.strOk s = true) (h : OkS ss) : dIn (.str s) (lS ss) = some (.bl (decide (s ∈ ss))) := dIn_str (b := true) hs h
theorem dNotIn_lS {s : Str} {ss : List Str} (hs : PyData.strOk s = true) (h : OkS ss) : dNotIn (.str s) (lS ss) = some (.bl (!decide (s ∈ ss))) := dNotIn_str (b := true) hs h
theorem blsOf_map {α : Type} (p : α → Bool) : ∀ l : List α, blsOf (l.map fun x => .bl (p x)) = some (l.map p)
  | [] => rfl
  | x :: l => by
    rw [List.map_cons]
    unfold blsOf
    rw [blsOf_map p l]
    rfl
theorem dAll_map {α : Type} (p : α → Bool) (l : List α) : dAll [.lst (l.map fun x => .bl (p x))] = some (.bl (l.all p)) := by
  show (blsOf _).map _ = _
  rw [blsOf_map]
  show some (D.bl ((l.map p).all id)) = _
  rw [List.all_map]
  rfl
/-! ### comprehensions that leave no trace -/
section
variable {σ : List Sv} {Q : Ev → List Sv → Prop} {me : M Ev} {mi : M (List (Fl × D))} {t : Tgt} {mt : M Bool} {vs : List Nat} {α : Type}
theorem compL_F {σw : List Sv} {h : α → Fl × D} {g : α → Option (Fl × D)} {Qc : List (Fl × D) → List Sv → Prop} : ∀ {l : List α} {acc : List (Fl × D)},
    (∀ x ∈ l, ∃ σ1, t (.val (h x).1 (h x).2) σw = some σ1 ∧ wp mt σ1 fun b σ2 => (b = true → wp (eV me) σ2 fun e σ3 => ∃ f d, e = .val f d ∧ g x = some (f, d) ∧ wipeS σ3 vs = σw) ∧ (b = false → g x = none ∧ wipeS σ2 vs = σw)) →
    acc.length + l.length ≤ 100000 → Qc (acc ++ l.filterMap g) σw → wp (compL t mt me vs (l.map h) acc) σw Qc
  | [], acc, _, _, q => wp_ret (by simpa using q)
  | x :: l, acc, st, hz, q => by
    obtain ⟨σ1, h1, h2⟩ := st x (by simp)
    have st' := fun y (hy : y ∈ l) => st y (by simp [hy])
    rw [List.length_cons] at hz
    refine wp_bind (wp_of (a := ()) (σ' := σ1) (by unfold tgt; rw [h1]) (wp_bind (wp_imp h2 fun b σ2 ⟨h3, h4⟩ => ?_)))
    cases b with
    | true =>
      rw [if_pos rfl]
      refine wp_bind (wp_imp (h3 rfl) fun ev σ3 ⟨f, d, e3, hg, hw⟩ => ?_)
      subst e3
      refine wp_bind (wp_lift (a := ()) (by rw [if_pos (show sizeB acc.length = true from decide_eq_true (by omega))]) (wp_bind (wp_of (a := ()) (σ' := wipeS σ3 vs) rfl ?_)))
      rw [hw]
      refine compL_F st' (by rw [List.length_append, List.length_singleton]; omega) ?_
      rw [List.filterMap_cons, hg] at q
      rw [List.append_assoc]
      exact q
    | false =>
      rw [if_neg (by decide)]
      refine wp_bind (wp_of (a := ()) (σ' := wipeS σ2 vs) rfl ?_)
      obtain ⟨hg, hw⟩ := h4 rfl
      rw [hw]
      refine compL_F st' (by omega) ?_
      rw [List.filterMap_cons, hg] at q
      exact q
theorem wp_lcF {Qm : Bool × D → List Sv → Prop} (hi : wp mi σ fun items σ0 => keepable vs σ0 = true ∧ ∃ (l : List α) (h : α → Fl × D) (g : α → Option (Fl × D)), items = l.map h ∧ l.length ≤ 100000 ∧
    (∀ x ∈ l, ∃ σ1, t (.val (h x).1 (h x).2) (wipeS σ0 vs) = some σ1 ∧ wp mt σ1 fun b σ2 => (b = true → wp (eV me) σ2 fun e σ3 => ∃ f d, e = .val f d ∧ g x = some (f, d) ∧ wipeS σ3 vs = wipeS σ0 vs) ∧ (b = false → g x = none ∧ wipeS σ2 vs = wipeS σ0 vs)) ∧
    Qm ((l.filterMap g).all Fl.isOwn, .lst ((l.filterMap g).map (·.2))) (backS σ0 (wipeS σ0 vs) vs)) : wp (eLc vs mi t mt me) σ Qm :=
  wp_bind (wp_imp hi fun items σ0 ⟨hk, l, h, g, e, hz, st, q⟩ => by
    subst e
    have z : wp (compL t mt me vs (l.map h) []) (wipeS σ0 vs) fun acc σ => Qm (acc.all Fl.isOwn, .lst (acc.map (·.2))) (backS σ0 σ vs) := compL_F st (by simpa using hz) (by rw [List.nil_append]; exact q)
    obtain ⟨acc, σ2, e, q⟩ := z.out
    refine wp.inn ?_ q
    show (if keepable vs σ0 = true then _ else _) = _
    rw [if_pos hk, e])
/-- a comprehension without a condition -/
theorem wp_lcM {Qm : Bool × D → List Sv → Prop} (hi : wp mi σ fun items σ0 => keepable vs σ0 = true ∧ ∃ (l : List α) (h g : α → Fl × D), items = l.map h ∧ l.length ≤ 100000 ∧
    (∀ x ∈ l, ∃ σ1, t (.val (h x).1 (h x).2) (wipeS σ0 vs) = some σ1 ∧ wp (eV me) σ1 fun e σ3 => e = .val (g x).1 (g x).2 ∧ wipeS σ3 vs = wipeS σ0 vs) ∧
    Qm ((l.map g).all Fl.isOwn, .lst (l.map fun x => (g x).2)) (backS σ0 (wipeS σ0 vs) vs)) : wp (eLc vs mi t mYes me) σ Qm :=
  wp_lcF (wp_imp hi fun items σ0 ⟨hk, l, h, g, e, hz, st, q⟩ => ⟨hk, l, h, fun x => some (g x), e, hz, fun x hx => by
    obtain ⟨σ1, h1, h2⟩ := st x hx
    exact ⟨σ1, h1, wp_ret ⟨fun _ => wp_imp h2 fun e σ3 ⟨e1, e2⟩ => ⟨_, _, e1, rfl, e2⟩, fun z => by cases z⟩⟩, by
    have e1 : l.filterMap (fun x => some (g x)) = l.map g := by rw [← List.filterMap_eq_map]; rfl
    rw [e1, List.map_map]
    exact q⟩)
/-- all([..]) -/
theorem wp_allM (hi : wp mi σ fun items σ0 => keepable vs σ0 = true ∧ ∃ (l : List α) (h : α → Fl × D) (p : α → Bool), items = l.map h ∧ l.length ≤ 100000 ∧
    (∀ x ∈ l, ∃ σ1, t (.val (h x).1 (h x).2) (wipeS σ0 vs) = some σ1 ∧ wp (eV me) σ1 fun e σ3 => e = .val .own (.bl (p x)) ∧ wipeS σ3 vs = wipeS σ0 vs) ∧
    Q (.val .own (.bl (l.all p))) (backS σ0 (wipeS σ0 vs) vs)) : wp (eCB dAll (aCons (eFz (eLc vs mi t mYes me)) aNil)) σ Q := by
  refine wp_cb (wp_cons (wp_fz (wp_lcF (wp_imp hi fun items σ0 ⟨hk, l, h, p, e, hz, st, q⟩ => ⟨hk, l, h, fun x => some (.own, .bl (p x)), e, hz, fun x hx => ?_, ?_⟩))))
  · obtain ⟨σ1, h1, h2⟩ := st x hx
    refine ⟨σ1, h1, wp_ret ⟨fun _ => wp_imp h2 fun e σ3 ⟨e1, e2⟩ => ⟨_, _, e1, rfl, e2⟩, fun z => by cases z⟩⟩
  · have e1 : l.filterMap (fun x => some (Fl.own, D.bl (p x))) = l.map fun x => (Fl.own, D.bl (p x)) := by rw [← List.filterMap_eq_map]; rfl
    rw [e1, List.map_map]
    refine wp_nil ⟨_, _, rfl, dAll_map p l, q⟩
end
/-! ### sorting, one level up -/
section
variable {α : Type} (h : α → D)
def insG (x : α) : List α → List α
  | [] => [x]
  | y :: ys => if kLt (h y) (h x) = true then y :: insG x ys else x :: y :: ys
def sortG : List α → List α
  | [] => []
  | x :: xs => insG h x (sortG xs)
variable {h}
theorem insG_map (x : α) : ∀ l : List α, insD (h x) (l.map h) = (insG h x l).map h
  | [] => rfl
  | y :: ys => by
    rw [List.map_cons]
    unfold insD insG
    split
    · rw [List.map_cons, insG_map x ys]
    · rfl
theorem sortG_map : ∀ l : List α, sortD (l.map h) = (sortG h l).map h
  | [] => rfl
  | x :: xs => by
    rw [List.map_cons]
    unfold sortD sortG
    rw [sortG_map xs, insG_map]
theorem insG_perm (x : α) : ∀ l : List α, (insG h x l).Perm (x :: l)
  | [] => .refl _
  | y :: ys => by
    unfold insG
    split
    · exact ((insG_perm x ys).cons y).trans (.swap x y ys)
    · exact .refl _
theorem sortG_perm : ∀ l : List α, (sortG h l).Perm l
  | [] => .refl _
  | x :: xs => (insG_perm x (sortG h xs)).trans ((sortG_perm xs).cons x)
end
theorem str_inj {a b : List Str} (e : a.map D.str = b.map D.str) : a = b := by
  induction a generalizing b with
  | nil => cases b with
    | nil => rfl
    | cons y b => cases e
  | cons x a ih => cases b with
    | nil => cases e
    | cons y b =>
      rw [List.map_cons, List.map_cons] at e
      injection e with e1 e2
      injection e1 with e1
      rw [e1, ih e2]
theorem tS_inj {a b : List Str} (e : tS a = tS b) : a = b := by
  unfold tS at e
  injection e with e
  exact str_inj e
theorem tSs_inj {a b : List (List Str)} (e : a.map tS = b.map tS) : a = b := by
  induction a generalizing b with
  | nil => cases b with
    | nil => rfl
    | cons y b => cases e
  | cons x a ih => cases b with
    | nil => cases e
    | cons y b =>
      rw [List.map_cons, List.map_cons] at e
      injection e with e1 e2
      rw [tS_inj e1, ih e2]
theorem all_str (ss : List Str) : (ss.map D.str).all isStr = true := by
  rw [List.all_eq_true]
  intro d hd
  obtain ⟨s, -, rfl⟩ := List.mem_map.mp hd
  rfl
/-- texts in order -/
abbrev sortS (ss : List Str) : List Str := sortG D.str ss
abbrev sortT (ps : List (List Str)) : List (List Str) := sortG tS ps
theorem sortS_uniq {a b : List Str} (p : a.Perm b) : sortS a = sortS b := by
  refine str_inj ?_
  rw [← sortG_map, ← sortG_map]
  refine sortD_uniq isStr anti_str ((sortD_perm _).trans (p.map _)) (sortD_srt _) (all_str b)
theorem all_tS {ps : List (List Str)} (h : ∀ p ∈ ps, p ≠ []) : (ps.map tS).all isTupS = true := by
  rw [List.all_eq_true]
  intro d hd
  obtain ⟨p, hp, rfl⟩ := List.mem_map.mp hd
  have := h p hp
  cases p with
  | nil => exact absurd rfl this
  | cons s p =>
    show (isStr (.str s) && (p.map D.str).all isStr) = true
    rw [all_str]
    rfl
theorem sortT_uniq {a b : List (List Str)} (p : a.Perm b) (h : ∀ p ∈ b, p ≠ []) : sortT a = sortT b := by
  refine tSs_inj ?_
  rw [← sortG_map, ← sortG_map]
  exact sortD_uniq isTupS anti_tup ((sortD_perm _).trans (p.map _)) (sortD_srt _) (all_tS h)
/-- in order already -/
theorem sortS_idem (a : List Str) : sortS (sortS a) = sortS a := sortS_uniq (sortG_perm a)
theorem dSorted_S {ss : List Str} (h : ss.length < 64) (b : Bool) : dSorted [sq b (ss.map .str)] = some (lS (sortS ss)) := by
  have e : sortD (ss.map D.str) = (sortS ss).map D.str := sortG_map ss
  cases b with
  | true =>
    show (if (ss.map D.str).all isStr = true ∧ (ss.map D.str).length < 64 then _ else _) = _
    rw [if_pos ⟨all_str ss, by rw [List.length_map]; exact h⟩, e]
    rfl
  | false =>
    show (if (ss.map D.str).all isStr = true ∧ (ss.map D.str).length < 64 then _ else _) = _
    rw [if_pos ⟨all_str ss, by rw [List.length_map]; exact h⟩, e]
    rfl
theorem dSorted_T {ps : List (List Str)} (h : ps.length ≤ 10000) (hn : ∀ p ∈ ps, p ≠ []) : dSorted [.lst (ps.map tS)] = some (lT (sortT ps)) := by
  have e : sortD (ps.map tS) = (sortT ps).map tS := sortG_map ps
  show (if (ps.map tS).all isStr = true ∧ (ps.map tS).length < 64 then some (D.lst (sortD (ps.map tS))) else if (ps.map tS).all isInt = true ∧ (ps.map tS).length < 64 then some (D.lst (sortD (ps.map tS))) else if (ps.map tS).all isTupS = true ∧ (ps.map tS).length ≤ 100000 then some (D.lst (sortD (ps.map tS))) else none) = _
  rw [e]
  split
  · rfl
  · split
    · rfl
    · rw [if_pos ⟨all_tS hn, by rw [List.length_map]; omega⟩]
      rfl
theorem imm_tS (p : List Str) : imm (tS p) = true := by
  show immL (p.map D.str) = true
  exact imm_strs (all_str p)
theorem immL_S (ss : List Str) : immL (ss.map D.str) = true := imm_strs (all_str ss)
theorem immL_T : ∀ ps : List (List Str), immL (ps.map tS) = true
  | [] => rfl
  | p :: ps => by
    rw [List.map_cons]
    unfold immL
    rw [imm_tS, immL_T ps]
    rfl
/-- rising: the texts of a sorted list without doubles -/
abbrev Up (ss : List Str) : Prop := ss.Pairwise fun a b => a.cps.toList < b.cps.toList
theorem up_sortS {ss : List Str} (h : ss.Nodup) : Up (sortS ss) := by
  have h1 : SrtD ((sortS ss).map D.str) := by
    rw [← sortG_map]
    exact sortD_srt _
  have h2 : (sortS ss).Nodup := (sortG_perm ss).nodup_iff.mpr h
  replace h1 := List.pairwise_map.mp h1
  refine (h1.and h2).imp fun {a b} ⟨q1, q2⟩ => ?_
  rcases Nat.lt_or_ge 0 0 with z | z
  · omega
  by_cases q3 : kLt (.str a) (.str b) = true
  · rw [klt_str] at q3
    rw [PyProof.Rows.ltCps_eq] at q3
    exact of_decide_eq_true q3
  · have e := anti_str (.str a) (.str b) rfl rfl (by simpa using q3) q1
    injection e with e
    exact absurd e q2
def poolS : List Str := ["a", "kek", "knowm", "knowz", "knownn", "z", "data", "wrap", "own", "r2", "under", "copy"]
def labS : List Str := ["x", "y", "known", "l9"]
def oneS : List Str := ["make", "bring", "show", "seal", "open"]
def twoS : List Str := ["copy", "wrap", "unwrap"]
/-- all texts that come up -/
def voc : List Str := poolS ++ labS ++ oneS ++ twoS ++ (["derive", "", "Known", "0", "q7"] : List Str) ++ (["aq", "kekq", "knowmq", "knowzq", "knownnq", "zq", "dataq", "wrapq", "ownq", "r2q", "underq", "copyq"] : List Str)
theorem voc_ok : ∀ s ∈ voc, PyData.strOk s = true := fun s hs => List.all_eq_true.mp (show voc.all PyData.strOk = true by kernel_rfl) s hs
/-! ### two lists, item by item -/
inductive All2 {α β : Type} (R : α → β → Prop) : List α → List β → Prop
  | nil : All2 R [] []
  | cons {a : α} {b : β} {as : List α} {bs : List β} : R a b → All2 R as bs → All2 R (a :: as) (b :: bs)
theorem All2.length {α β : Type} {R : α → β → Prop} : ∀ {as : List α} {bs : List β}, All2 R as bs → bs.length = as.length
  | _, _, .nil => rfl
  | _, _, .cons _ h => by rw [List.length_cons, List.length_cons, All2.length h]
theorem All2.imp {α β : Type} {R R' : α → β → Prop} : ∀ {as : List α} {bs : List β}, All2 R as bs → (∀ a ∈ as, ∀ b, R a b → R' a b) → All2 R' as bs
  | _, _, .nil, _ => .nil
  | _, _, .cons h t, k => .cons (k _ (by simp) _ h) (All2.imp t fun a ha => k a (by simp [ha]))
theorem All2.snoc {α β : Type} {R : α → β → Prop} {a : α} {b : β} : ∀ {as : List α} {bs : List β}, All2 R as bs → R a b → All2 R (as ++ [a]) (bs ++ [b])
  | _, _, .nil, h => .cons h .nil
  | _, _, .cons h t, k => .cons h (All2.snoc t k)
/-! ### data of few kinds -/
def keyG : Key → Bool
  | .inl i => decide (-1 ≤ i ∧ i ≤ 100)
  | .inr s => voc.contains s
/-- at most k deep, at most m wide, of known texts and small numbers; with dicts of one item if dc -/
def gd (dc : Bool) (m : Nat) : Nat → D → Bool
  | _, .non => true
  | _, .bl _ => true
  | _, .int i => decide (-1 ≤ i ∧ i ≤ 100) || decide (i = 1000000000000000000000000000000)
  | _, .str s => voc.contains s
  | k + 1, .tup ds => decide (ds.length ≤ m) && ds.all (gd dc m k)
  | k + 1, .lst ds => decide (ds.length ≤ m) && ds.all (gd dc m k)
  | k + 1, .dic kvs => dc && decide (kvs.length ≤ 1) && kvs.all fun kv => keyG kv.1 && gd dc m k kv.2
  | _, _ => false
def Lo : Nat → D → D → Prop
  | k + 1, .tup ds, e => ∃ b es, e = sq b es ∧ All2 (Lo k) ds es
  | k + 1, .lst ds, e => ∃ b es, e = sq b es ∧ All2 (Lo k) ds es
  | k + 1, .dic kvs, e => ∃ es, e = .dic es ∧ All2 (fun a b => b.1 = a.1 ∧ Lo k a.2 b.2) kvs es
  | _, d, e => e = d
theorem gd_all {dc : Bool} {m k : Nat} : ∀ {ds es : List D}, All2 (Lo k) ds es → (∀ d e, gd dc m k d = true → Lo k d e → gd dc m k e = true) → ds.all (gd dc m k) = true → es.all (gd dc m k) = true
  | _, _, .nil, _, _ => rfl
  | _, _, .cons h t, k, q => by
    rw [List.all_cons, Bool.and_eq_true] at q ⊢
    exact ⟨k _ _ q.1 h, gd_all t k q.2⟩
theorem gd_sq {dc : Bool} {m k : Nat} {b : Bool} {es : List D} (h1 : es.length ≤ m) (h2 : es.all (gd dc m k) = true) : gd dc m (k + 1) (sq b es) = true := by
  cases b <;> (unfold sq; simp [gd, h1]; simpa using h2)
theorem gd_lo {dc : Bool} {m : Nat} : ∀ {k : Nat} {d e : D}, gd dc m k d = true → Lo k d e → gd dc m k e = true
  | 0, d, e, h, q => by
    have : e = d := by cases d <;> exact q
    rw [this]
    exact h
  | k + 1, d, e, h, q => by
    cases d with
    | tup ds =>
      obtain ⟨b, es, rfl, a⟩ := q
      simp only [gd, Bool.and_eq_true, decide_eq_true_eq] at h
      exact gd_sq (by rw [a.length]; exact h.1) (gd_all a (fun d e => gd_lo) h.2)
    | lst ds =>
      obtain ⟨b, es, rfl, a⟩ := q
      simp only [gd, Bool.and_eq_true, decide_eq_true_eq] at h
      exact gd_sq (by rw [a.length]; exact h.1) (gd_all a (fun d e => gd_lo) h.2)
    | dic kvs =>
      obtain ⟨es, rfl, a⟩ := q
      simp only [gd, Bool.and_eq_true, decide_eq_true_eq] at h ⊢
      refine ⟨⟨h.1.1, by rw [a.length]; exact h.1.2⟩, ?_⟩
      have h2 := h.2
      clear h
      induction a with
      | nil => rfl
      | cons h t ih =>
        rw [List.all_cons, Bool.and_eq_true] at h2 ⊢
        obtain ⟨h21, h22⟩ := h2
        rw [Bool.and_eq_true] at h21 ⊢
        exact ⟨⟨by rw [h.1]; exact h21.1, gd_lo h21.2 h.2⟩, ih h22⟩
    | non => rw [show e = _ from q]; exact h
    | bl b => rw [show e = _ from q]; exact h
    | int i => rw [show e = _ from q]; exact h
    | str s => rw [show e = _ from q]; exact h
    | dit _ => rw [show e = _ from q]; exact h
    | ins _ _ => rw [show e = _ from q]; exact h
    | ty _ => rw [show e = _ from q]; exact h
    | cls _ => rw [show e = _ from q]; exact h
    | scr _ => rw [show e = _ from q]; exact h
/-- lists of texts, of lists of texts -/
def sS (x : Bool × List Str) : D := sq x.1 (x.2.map .str)
theorem lo_strs {k : Nat} {ss : List Str} {es : List D} (h : All2 (Lo k) (ss.map .str) es) : es = ss.map .str := by
  induction ss generalizing es with
  | nil => cases h; rfl
  | cons s ss ih =>
    cases h with
    | cons h t =>
      rw [List.map_cons, ih t]
      have : ∀ {e : D}, Lo k (.str s) e → e = .str s := fun {e} q => by cases k <;> exact q
      rw [this h]
theorem lo_sS {k : Nat} {x : Bool × List Str} {e : D} (h : Lo (k + 1) (sS x) e) : ∃ b, e = sS (b, x.2) := by
  obtain ⟨b, ss⟩ := x
  cases b <;> (obtain ⟨b, es, rfl, a⟩ := h; exact ⟨b, by rw [lo_strs a]; rfl⟩)
theorem lo_SS {k : Nat} {c : Bool} {xs : List (Bool × List Str)} {e : D} (h : Lo (k + 2) (sq c (xs.map sS)) e) : ∃ (b : Bool) (ys : List (Bool × List Str)), e = sq b (ys.map sS) ∧ ys.map (·.2) = xs.map (·.2) := by
  have q : ∀ {xs : List (Bool × List Str)} {es : List D}, All2 (Lo (k + 1)) (xs.map sS) es → ∃ ys : List (Bool × List Str), es = ys.map sS ∧ ys.map (·.2) = xs.map (·.2) := by
    intro xs
    induction xs with
    | nil => intro es h; cases h; exact ⟨[], rfl, rfl⟩
    | cons x xs ih =>
      intro es h
      cases h with
      | cons h t =>
        obtain ⟨b, rfl⟩ := lo_sS h
        obtain ⟨ys, rfl, e2⟩ := ih t
        exact ⟨(b, x.2) :: ys, rfl, by rw [List.map_cons, List.map_cons, e2]⟩
  cases c <;> (obtain ⟨b, es, rfl, a⟩ := h; obtain ⟨ys, rfl, e⟩ := q a; exact ⟨b, ys, rfl, e⟩)
/-- a slot that holds a datum, open or shut -/
@[irreducible] def Holds (s : Sv) (d : D) : Prop := (∃ o, s = .mu o d) ∨ ∃ f, s = .fz f d
theorem Holds.out {s : Sv} {d : D} (h : Holds s d) : (∃ o, s = .mu o d) ∨ ∃ f, s = .fz f d := by
  unfold Holds at h
  exact h
theorem holds_mu (o : Bool) (d : D) : Holds (.mu o d) d := by
  unfold Holds
  exact .inl ⟨o, rfl⟩
theorem holds_fz (f : Fl) (d : D) : Holds (.fz f d) d := by
  unfold Holds
  exact .inr ⟨f, rfl⟩
theorem wp_evH {σ : List Sv} {i : Nat} {s : Sv} {d : D} {Q : Ev → List Sv → Prop} (hs : σ[i]? = some s) (h : Holds s d) (q : ∀ f, Q (.val f d) (σ.set i (.fz f d))) : wp (eV (eVar i)) σ Q := by
  rcases h.out with ⟨o, rfl⟩ | ⟨f, rfl⟩
  · refine wp.inn ?_ (q (flO o))
    show ((eVar i σ).bind _) = _
    have e : eVar i σ = .ok (.view i, σ) := by unfold eVar; simp only [hs]
    rw [e]
    show asVal (.view i) σ = _
    unfold asVal
    simp only [hs]
  · refine wp.inn (a := .val f d) (σ' := σ) ?_ ?_
    · show ((eVar i σ).bind _) = _
      have e : eVar i σ = .ok (.val f d, σ) := by unfold eVar; simp only [hs]
      rw [e]
      rfl
    · have : σ.set i (.fz f d) = σ := by
        refine List.ext_getElem? fun j => ?_
        rw [List.getElem?_set]
        split
        · rename_i e
          subst e
          split
          · exact hs.symm
          · rename_i h2
            rw [List.getElem?_eq_none (by omega)] at hs
            cases hs
        · rfl
      have q2 := q f
      rw [this] at q2
      exact q2
theorem putF {σ : List Sv} {i : Nat} {s : Sv} {f : Fl} {d : D} (hs : σ[i]? = some s) (h : freeS s) : putV i (.val f d) σ = some (σ.set i (.fz f d)) := by
  unfold putV okSlot
  simp only [hs]
  rcases h.out with rfl | ⟨f2, d2, rfl⟩ <;> rfl
/-- a step; displays and the later rules, too -/
local macro_rules | `(tactic| walk_at "wu") => `(tactic| ((first
  | refine ⟨_, rfl, Nat.le_of_ble_eq_true rfl, ?_⟩
  | with_reducible refine wp_evH rfl (by assumption) (fun _ => ?_)
  | with_reducible refine wp_c ?_ | with_reducible refine wp_mod ?_ | with_reducible refine wp_div ?_ | with_reducible refine wp_mul ?_ | with_reducible refine wp_pow ?_ | with_reducible refine wp_op ?_ | with_reducible refine wp_un ?_ | with_reducible refine wp_gen2 ?_ | with_reducible refine wp_v ?_ | with_reducible refine wp_test ?_ | with_reducible refine wp_nil ?_ | with_reducible refine wp_cons ?_ | with_reducible refine wp_cb ?_ | with_reducible refine wp_and ?_ | with_reducible refine wp_or ?_ | with_reducible refine wp_not ?_ | with_reducible refine wp_if ?_ | with_reducible refine wp_seq ?_ | with_reducible refine wp_skip ?_ | with_reducible refine wp_sif ?_ | with_reducible refine wp_set ?_ | with_reducible refine wp_sret ?_ | with_reducible refine wp_setIx ?_ | with_reducible refine wp_call ?_ | with_reducible refine wp_fz ?_ | with_reducible refine wp_lst ?_ | with_reducible refine wp_tup ?_ | with_reducible refine wp_new ?_ | with_reducible refine wp_genA ?_ | with_reducible refine wp_setM ?_ | with_reducible refine wp_part ?_ | with_reducible refine wp_nopart ?_ | with_reducible refine wp_sl ?_ | with_reducible refine wp_fld ?_ | with_reducible refine wp_drop ?_ | with_reducible refine wp_asg ?_ | with_reducible refine wp_parEE ?_ | with_reducible refine wp_parEM ?_ | with_reducible refine wp_par3 ?_ | with_reducible refine wp_seqI ?_ | with_reducible refine wp_rng1 ?_ | with_reducible refine wp_enum ?_ | with_reducible refine wp_zip ?_ | with_reducible refine wp_mutL ?_ | with_reducible refine wp_andV ?_ | with_reducible refine wp_orV ?_ | with_reducible refine wp_notV ?_ | with_reducible refine wp_chain ?_ | with_reducible refine wp_tru ?_ | with_reducible refine wp_mif ?_ | with_reducible refine wp_pick ?_ | with_reducible refine wp_dget ?_ | with_reducible refine wp_dict ?_ | with_reducible refine wp_done ?_ | with_reducible refine wp_callN ?_ | with_reducible refine wp_make ?_ | with_reducible refine wp_dnew ?_ | with_reducible refine wp_myes ?_
  | refine wp_var rfl ?_ | refine ⟨_, putF rfl (by assumption), ?_⟩
  | refine ⟨_, _, _, rfl, rfl, rfl, ?_⟩ | refine ⟨_, _, rfl, ⟨_, rfl⟩, ?_⟩ | refine ⟨_, _, rfl, rfl, ?_⟩ | refine ⟨_, rfl, ?_⟩ | refine ⟨_, _, rfl, ?_⟩ | refine And.intro rfl ?_ | refine And.intro ⟨_, rfl⟩ ?_
  | refine And.intro (by first | decide | omega | exact Bool.or_eq_true_iff.mpr (.inl (by decide)) | exact Bool.or_eq_true_iff.mpr (.inr (by decide)) | exact ⟨by omega, by omega⟩ | exact ⟨by omega, by decide, by decide⟩ | exact Nat.le_of_ble_eq_true rfl) ?_
  | refine And.intro (fun _ => ?_) (fun h => absurd h (by decide)) | refine And.intro (fun h => absurd h (by decide)) (fun _ => ?_) | fail); try dsimp only [flKid, putL, List.set, Int.reduceToNat, Bool.false_and, if_true, putOuts, reS, List.getD, Option.getD, List.getElem?_cons_zero, List.getElem?_cons_succ, List.map_cons, List.map_nil, backS, wipeS]))
local macro_rules | `(tactic| walk_at "wr") => `(tactic| repeat ((fail_if_success (first | (with_reducible show Runs _ _ _) | (with_reducible show wp (eCB dAll (aCons (eFz (eLc _ _ _ _ _)) aNil)) _ _))); walk_at "wu"))
def isAtom : D → Bool
  | .non => true
  | .bl _ => true
  | .int _ => true
  | .str _ => true
  | _ => false
theorem lo_atom {k : Nat} {d : D} (h : isAtom d = true) : Lo k d d := by
  cases k <;> cases d <;> first | rfl | cases h
theorem loose_atom {j : Nat} {n : Int} {w d : D} (hw : W3 n w) (h : isAtom d = true) : Runs (F__law_loose (j + 1)) [.io w, .fz d] fun f r l => r = d ∧ ∃ w', l = [w'] ∧ W3 n w' := by
  refine runs_of rfl ?_
  show wp (m__law_loose (F__law_loose j)) [.io w, .fz .old d, .und, .und, .und] _
  unfold m__law_loose
  cases d <;> first | (cases h; done) | skip
  all_goals
    walk_at "wr"
    exact hw
theorem dEq_int (i j : Int) : dEq (.int i) (.int j) = some (.bl (i == j)) := by
  unfold dEq
  simp [pyS, py, SeqAt.shaped, PyData.canLay0, PyData.depth, PyData.eqv]
theorem dNe_int (i j : Int) : dNe (.int i) (.int j) = some (.bl (!(i == j))) := by
  unfold dNe
  simp [pyS, py, SeqAt.shaped, PyData.canLay0, PyData.depth, PyData.eqv]
theorem dEq_bl (i j : Bool) : dEq (.bl i) (.bl j) = some (.bl (i == j)) := by
  unfold dEq
  simp [pyS, py, SeqAt.shaped, PyData.canLay0, PyData.depth, PyData.eqv]
theorem dNe_bl (i j : Bool) : dNe (.bl i) (.bl j) = some (.bl (!(i == j))) := by
  unfold dNe
  simp [pyS, py, SeqAt.shaped, PyData.canLay0, PyData.depth, PyData.eqv]
theorem dEq_non : dEq .non .non = some (.bl true) := by
  unfold dEq
  simp [pyS, py, SeqAt.shaped, PyData.canLay0, PyData.depth, PyData.eqv]
/-- what a callee does with an item -/
abbrev LooseR (R : Fn) (k : Nat) (c N : Int) (d : D) : Prop := ∀ (n : Int) (w : D), W3 n w → n ≤ N → Runs R [.io w, .fz d] fun f r l => Lo k d r ∧ ∃ w', l = [w'] ∧ W3 (n + c) w'
theorem loose_seq {j k : Nat} {n c N : Int} {w : D} {ds : List D} {b : Bool} (hw : W3 n w) (hc : 0 ≤ c) (hl : ds.length ≤ 100) (hn : n + c * ds.length ≤ N) (hN : N ≤ 200000000000) (ih : ∀ d ∈ ds, LooseR (F__law_loose j) k c N d) :
    Runs (F__law_loose (j + 1)) [.io w, .fz (sq b ds)] fun f r l => Lo (k + 1) (sq b ds) r ∧ ∃ w', l = [w'] ∧ W3 (n + c * ds.length + 1) w' := by
  refine runs_of rfl ?_
  show wp (m__law_loose (F__law_loose j)) [.io w, .fz .old (sq b ds), .und, .und, .und] _
  unfold m__law_loose
  have hlo : ∀ {b' : Bool} {es : List D}, All2 (Lo k) ds es → Lo (k + 1) (sq b ds) (sq b' es) := fun {b' es} a => by cases b <;> exact ⟨b', es, rfl, a⟩
  have main : wp (sSeq (sSetM 2 (eLc [3] (mSeq (eVar 1)) (putV 3) mYes (eCall (F__law_loose j) (aCons (eVar 0) (aCons (eV (eVar 3)) aNil)))))
    (sRet (eIf (eT (eOp dEq (eCall F__law_draw (aCons (eVar 0) (aCons (eC (.int 2)) aNil))) (eC (.int 0)))) (eVar 2) (eGenA dTupOf (aCons (eVar 2) aNil))))) [.io w, .fz .old (sq b ds), .und, .und, .und] fun w1 σ => ∃ f d l, w1 = .ret f d ∧ outs [.io w, .fz (sq b ds)] σ = some l ∧ Lo (k + 1) (sq b ds) d ∧ ∃ w', l = [w'] ∧ W3 (n + c * ds.length + 1) w' := by
    walk_at "wr"
    refine wp_lc (I := fun items pre acc σ => items = ds.map (fun d => (Fl.old, d)) ∧ ∃ w', σ = [.io w', .fz .old (sq b ds), .und, .und, .und] ∧ W3 (n + c * pre.length) w' ∧ All2 (Lo k) (pre.map (·.2)) (acc.map (·.2)) ∧ acc.length = pre.length) ?_
    refine wp_seqI (wp_v (wp_var rfl ?_))
    refine ⟨_, _, rfl, _, _, ds.map (fun d => (Fl.old, d)), rfl, by cases b <;> rfl, rfl, ⟨rfl, w, rfl, by simpa using hw, .nil, rfl⟩, ?_, ?_⟩
    · rintro pre fd post acc σ hit ⟨hits, w', rfl, hw', ha, hal⟩
      have hmem : fd.2 ∈ ds ∧ fd.1 = .old := by
        have : fd ∈ ds.map (fun d => (Fl.old, d)) := by rw [← hits, hit]; simp
        obtain ⟨d, hd, rfl⟩ := List.mem_map.mp this
        exact ⟨hd, rfl⟩
      have hpl : pre.length < ds.length := by
        have := congrArg List.length (hits.symm.trans hit)
        simp only [List.length_map, List.length_append, List.length_cons] at this
        omega
      have hpc : c * (pre.length : Int) ≤ c * ds.length := Int.mul_le_mul_of_nonneg_left (by omega) hc
      refine ⟨_, rfl, ?_⟩
      refine wp_ret ⟨fun _ => ?_, fun h => by cases h⟩
      walk_at "wr"
      refine Runs.imp (ih fd.2 hmem.1 _ w' hw' (by omega)) fun f r l ⟨hr, w2, el, hw2⟩ => ?_
      subst el
      refine ⟨rfl, _, _, rfl, _, _, rfl, by omega, hits, w2, rfl, ?_, ?_, ?_⟩
      · rw [List.length_append, List.length_singleton]
        refine hw2.le (Int.le_of_eq ?_)
        have : c * ((pre.length : Int) + 1) = c * pre.length + c := by rw [Int.mul_add, Int.mul_one]
        push_cast
        omega
      · rw [List.map_append, List.map_append]
        exact ha.snoc hr
      · rw [List.length_append, List.length_append, hal]
        rfl
    · rintro acc σ ⟨hits, w', rfl, hw', ha, hal⟩
      rw [List.length_map] at hw'
      rw [List.map_map] at ha
      have ha : All2 (Lo k) ds (acc.map (·.2)) := by
        have e : (ds.map ((fun x : Fl × D => x.2) ∘ fun d => (Fl.old, d))) = ds := by
          rw [show ((fun x : Fl × D => x.2) ∘ fun d => (Fl.old, d)) = id from rfl, List.map_id]
        rw [e] at ha
        exact ha
      walk_at "wr"
      refine Runs.imp (draw_w (m := 2) hw' (by omega) (by decide) (by decide)) fun f d l ⟨ef, k1, ed, k2, k3, w2, el, hw2⟩ => ?_
      subst ef ed el
      walk_at "wr"
      refine ⟨_, _, _, rfl, rfl, dEq_int _ _, _, rfl, fun hb => ?_, fun hb => ?_⟩
      · walk_at "wr"
        exact ⟨_, _, _, rfl, rfl, hlo (b' := true) ha, _, rfl, hw2⟩
      · walk_at "wr"
        exact ⟨_, _, _, rfl, rfl, hlo (b' := false) ha, _, rfl, hw2⟩
  cases b with
  | true =>
    unfold sq at main ⊢
    repeat (first | exact main | walk_at "wu")
  | false =>
    unfold sq at main ⊢
    repeat (first | exact main | walk_at "wu")
theorem loose_dic0 {j : Nat} {n : Int} {w : D} (hw : W3 n w) (hn : n ≤ 200000000000) : Runs (F__law_loose (j + 1)) [.io w, .fz (.dic [])] fun f r l => r = .dic [] ∧ ∃ w', l = [w'] ∧ W3 n w' := by
  refine runs_of rfl ?_
  show wp (m__law_loose (F__law_loose j)) [.io w, .fz .old (.dic []), .und, .und, .und] _
  unfold m__law_loose
  walk_at "wr"
  refine wp_lc (I := fun items pre acc σ => items = [] ∧ ∃ w', σ = [.io w', .fz .old (.dic []), .und, .und, .und] ∧ W3 n w' ∧ acc = []) ?_
  walk_at "wr"
  refine Runs.imp (mixed_w (ds := []) hw (show n + 0 ≤ 1000000000000 by omega) (by decide) rfl) fun f d l ⟨ef, es, ed, hperm, w', el, hw'⟩ => ?_
  subst ef ed el
  have e : es = [] := hperm.eq_nil
  subst e
  refine ⟨rfl, _, _, rfl, _, _, _, rfl, rfl, rfl, ⟨rfl, w', rfl, hw'.le (by simp), rfl⟩, ?_, ?_⟩
  · rintro pre fd post acc σ hit ⟨hits, -⟩
    rw [hits] at hit
    have := congrArg List.length hit
    simp at this
  · rintro acc σ ⟨hits, w', rfl, hw', rfl⟩
    walk_at "wr"
    refine ⟨_, _, [], rfl, rfl, ?_⟩
    walk_at "wr"
    exact hw'
def kD (k : Key) : D := match k with | .inl i => .int i | .inr s => .str s
theorem dKey_kD (k : Key) : dKey (kD k) = some k := by cases k <;> rfl
theorem loose_dic1 {j k : Nat} {n c N : Int} {w d : D} {key : Key} (hw : W3 n w) (hc : 0 ≤ c) (hn : n + 1 ≤ N) (hN : N ≤ 200000000000) (ih : LooseR (F__law_loose j) k c N d) :
    Runs (F__law_loose (j + 1)) [.io w, .fz (.dic [(key, d)])] fun f r l => Lo (k + 1) (.dic [(key, d)]) r ∧ ∃ w', l = [w'] ∧ W3 (n + 1 + c) w' := by
  refine runs_of rfl ?_
  show wp (m__law_loose (F__law_loose j)) [.io w, .fz .old (.dic [(key, d)]), .und, .und, .und] _
  unfold m__law_loose
  have him : imm (kD key) = true := by cases key <;> rfl
  walk_at "wr"
  refine wp_lc (I := fun items pre acc σ => items = [(.own, kD key)] ∧ ∃ w', σ = [.io w', .fz .old (.dic [(key, d)]), .und, .und, .und] ∧ W3 (n + 1 + c * pre.length) w' ∧ (pre = [] → acc = []) ∧ (pre ≠ [] → ∃ f e, acc = [(f, .tup [kD key, e])] ∧ Lo k d e)) ?_
  walk_at "wr"
  refine Runs.imp (mixed_w (ds := [kD key]) hw (show n + 1 ≤ 1000000000000 by omega) (show 1 < 100000 by decide) (by unfold immL immL; rw [him]; rfl)) fun f x l ⟨ef, es, ed, hperm, w', el, hw'⟩ => ?_
  subst ef ed el
  have e : es = [kD key] := hperm.eq_singleton
  subst e
  refine ⟨rfl, _, _, rfl, _, _, _, rfl, rfl, rfl, ⟨rfl, w', rfl, by simpa using hw', fun _ => rfl, fun h => absurd rfl h⟩, ?_, ?_⟩
  · rintro pre fd post acc σ hit ⟨hits, w', rfl, hw', h1, -⟩
    rw [hits] at hit
    have hpre : pre = [] := by
      have := congrArg List.length hit
      simp only [List.length_cons, List.length_append, List.length_nil] at this
      exact List.length_eq_zero_iff.mp (by omega)
    subst hpre
    rw [List.nil_append] at hit
    injection hit with hit1 hit2
    subst hit1
    have hacc := h1 rfl
    subst hacc
    refine ⟨_, rfl, ?_⟩
    refine wp_ret ⟨fun _ => ?_, fun h => by cases h⟩
    walk_at "wr"
    refine ⟨_, _, _, key, d, rfl, rfl, dKey_kD key, by simp [valD], ?_⟩
    walk_at "wr"
    refine Runs.imp (ih _ w' hw' (by simpa using hn)) fun f r l ⟨hr, w2, el, hw2⟩ => ?_
    subst el
    walk_at "wr"
    refine ⟨hw2.le (by simp), fun h => by simp at h, fun _ => ⟨_, _, rfl, hr⟩⟩
  · rintro acc σ ⟨hits, w', rfl, hw', -, h2⟩
    obtain ⟨f, e, rfl, he⟩ := h2 (by simp)
    walk_at "wr"
    refine ⟨_, _, [(key, e)], rfl, ?_, ?_⟩
    · show pairsOf [.tup [kD key, e]] = _
      unfold pairsOf
      rw [dKey_kD]
      rfl
    · walk_at "wr"
      exact ⟨_, _, _, rfl, rfl, ⟨_, rfl, .cons ⟨rfl, he⟩ .nil⟩, _, rfl, hw'.le (by simp)⟩
theorem pow_le (k : Nat) (h : k ≤ 4) : (62 : Int) ^ k ≤ 14776336 ∧ 1 ≤ (62 : Int) ^ k := by
  have : k = 0 ∨ k = 1 ∨ k = 2 ∨ k = 3 ∨ k = 4 := by omega
  rcases this with rfl | rfl | rfl | rfl | rfl <;> decide
theorem loose_w {m : Nat} (hm : m ≤ 60) : ∀ (k j : Nat) {n : Int} {w d : D}, k ≤ j → k ≤ 4 → W3 n w → n ≤ 200000000000 - 1000000000 * k → gd true m k d = true →
    Runs (F__law_loose (j + 1)) [.io w, .fz d] fun f r l => Lo k d r ∧ ∃ w', l = [w'] ∧ W3 (n + 62 ^ k) w'
  | k, j, n, w, d, hk, hk4, hw, hn, hg => by
    have hp := pow_le k hk4
    have atom : isAtom d = true → Runs (F__law_loose (j + 1)) [.io w, .fz d] fun f r l => Lo k d r ∧ ∃ w', l = [w'] ∧ W3 (n + 62 ^ k) w' := fun h =>
      Runs.imp (loose_atom hw h) fun f r l ⟨e1, w', e2, h3⟩ => ⟨by rw [e1]; exact lo_atom h, w', e2, h3.le (by omega)⟩
    cases k with
    | zero => exact atom (by cases d <;> first | rfl | cases hg)
    | succ k =>
      obtain ⟨j, rfl⟩ : ∃ j', j = j' + 1 := ⟨j - 1, by omega⟩
      have hp0 := pow_le k (by omega)
      have hpp : (62 : Int) ^ (k + 1) = 62 * 62 ^ k := by rw [Int.pow_succ, Int.mul_comm]
      have seq : ∀ (b : Bool) (ds : List D), (decide (ds.length ≤ m) && ds.all (gd true m k)) = true → Runs (F__law_loose (j + 1 + 1)) [.io w, .fz (sq b ds)] fun f r l => Lo (k + 1) (sq b ds) r ∧ ∃ w', l = [w'] ∧ W3 (n + 62 ^ (k + 1)) w' := fun b ds h => by
        rw [Bool.and_eq_true, decide_eq_true_eq] at h
        have hl : (ds.length : Int) ≤ 60 := by omega
        have hm2 : (62 : Int) ^ k * ds.length ≤ 62 ^ k * 60 := Int.mul_le_mul_of_nonneg_left hl (by omega)
        refine Runs.imp (loose_seq (c := 62 ^ k) (N := 200000000000 - 1000000000 * k) hw (by omega) (by omega) (by omega) (by omega) fun d hd n' w' hw' hn' => ?_) fun f r l ⟨e1, w', e2, h3⟩ => ⟨e1, w', e2, h3.le (by omega)⟩
        exact loose_w hm k j (by omega) (by omega) hw' hn' (List.all_eq_true.mp h.2 d hd)
      cases d with
      | tup ds => exact seq false ds hg
      | lst ds => exact seq true ds hg
      | dic kvs =>
        simp only [gd, Bool.and_eq_true, decide_eq_true_eq] at hg
        cases kvs with
        | nil => exact Runs.imp (loose_dic0 hw (by omega)) fun f r l ⟨e1, w', e2, h3⟩ => ⟨by rw [e1]; exact ⟨_, rfl, .nil⟩, w', e2, h3.le (by omega)⟩
        | cons kv kvs =>
          have : kvs = [] := List.length_eq_zero_iff.mp (by have := hg.1.2; rw [List.length_cons] at this; omega)
          subst this
          obtain ⟨key, d⟩ := kv
          refine Runs.imp (loose_dic1 (c := 62 ^ k) (N := 200000000000 - 1000000000 * k) hw (by omega) (by omega) (by omega) fun n' w' hw' hn' => ?_) fun f r l ⟨e1, w', e2, h3⟩ => ⟨e1, w', e2, h3.le (by omega)⟩
          have h2 := hg.2
          rw [List.all_cons, Bool.and_eq_true, Bool.and_eq_true] at h2
          exact loose_w hm k j (by omega) (by omega) hw' hn' h2.1.2
      | non => exact atom rfl
      | bl _ => exact atom rfl
      | int _ => exact atom rfl
      | str _ => exact atom rfl
      | dit _ => cases hg
      | ins _ _ => cases hg
      | ty _ => cases hg
      | cls _ => cases hg
      | scr _ => cases hg
/-! ### the books that are drawn -/
def POk (rs ls : List Str) (p : List Str) : Prop := (∃ w r, p = [w, r] ∧ w ∈ oneS ∧ r ∈ rs) ∨ (∃ w r s, p = [w, r, s] ∧ w ∈ twoS ∧ r ∈ rs ∧ s ∈ rs) ∨ (∃ r l s, p = (["derive", r, l, s] : List Str) ∧ r ∈ rs ∧ l ∈ ls ∧ s ∈ rs)
theorem permOk_s {rs ls : List Str} {d : D} (h : PermOk (rs.map .str) (ls.map .str) d) : ∃ p, d = tS p ∧ POk rs ls p := by
  cases h with
  | one hw hr =>
    obtain ⟨r, hr2, rfl⟩ := List.mem_map.mp hr
    exact ⟨[_, r], rfl, .inl ⟨_, _, rfl, hw, hr2⟩⟩
  | two hw hr hs =>
    obtain ⟨r, hr2, rfl⟩ := List.mem_map.mp hr
    obtain ⟨s, hs2, rfl⟩ := List.mem_map.mp hs
    exact ⟨[_, r, s], rfl, .inr (.inl ⟨_, _, _, rfl, hw, hr2, hs2⟩)⟩
  | der hr hl hs =>
    obtain ⟨r, hr2, rfl⟩ := List.mem_map.mp hr
    obtain ⟨l, hl2, rfl⟩ := List.mem_map.mp hl
    obtain ⟨s, hs2, rfl⟩ := List.mem_map.mp hs
    exact ⟨["derive", r, l, s], rfl, .inr (.inr ⟨_, _, _, rfl, hr2, hl2, hs2⟩)⟩
structure NamesOk (rs ls : List Str) : Prop where
  rsub : ∀ r ∈ rs, r ∈ poolS
  rnd : rs.Nodup
  rsrt : sortS rs = rs
  rne : rs ≠ []
  rlen : rs.length ≤ 6
  lsub : ∀ l ∈ ls, l ∈ labS
  lnd : ls.Nodup
  lsrt : sortS ls = ls
  llen : ls.length ≤ 3
structure RawOk (rs ls : List Str) (ps : List (List Str)) : Prop extends NamesOk rs ls where
  pok : ∀ p ∈ ps, POk rs ls p
  pnd : ps.Nodup
  psrt : sortT ps = ps
  plen : ps.length ≤ 30
theorem pool_voc : ∀ s ∈ poolS, s ∈ voc := by decide +kernel
theorem lab_voc : ∀ s ∈ labS, s ∈ voc := by decide +kernel
theorem one_voc : ∀ s ∈ oneS, s ∈ voc := by decide +kernel
theorem two_voc : ∀ s ∈ twoS, s ∈ voc := by decide +kernel
theorem POk.voc {rs ls p : List Str} (hr : ∀ r ∈ rs, r ∈ poolS) (hl : ∀ l ∈ ls, l ∈ labS) (h : POk rs ls p) : ∀ s ∈ p, s ∈ voc := by
  intro s hs
  rcases h with ⟨w, r, rfl, h1, h2⟩ | ⟨w, r, t, rfl, h1, h2, h3⟩ | ⟨r, l, t, rfl, h1, h2, h3⟩
  · simp only [List.mem_cons, List.not_mem_nil, or_false] at hs
    rcases hs with rfl | rfl
    · exact one_voc _ h1
    · exact pool_voc _ (hr _ h2)
  · simp only [List.mem_cons, List.not_mem_nil, or_false] at hs
    rcases hs with rfl | rfl | rfl
    · exact two_voc _ h1
    · exact pool_voc _ (hr _ h2)
    · exact pool_voc _ (hr _ h3)
  · simp only [List.mem_cons, List.not_mem_nil, or_false] at hs
    rcases hs with rfl | rfl | rfl | rfl
    · decide +kernel
    · exact pool_voc _ (hr _ h1)
    · exact lab_voc _ (hl _ h2)
    · exact pool_voc _ (hr _ h3)
theorem ok_of_voc {ss : List Str} (h : ∀ s ∈ ss, s ∈ voc) : OkS ss := List.all_eq_true.mpr fun s hs => voc_ok s (h s hs)
theorem POk.ok {rs ls p : List Str} (hr : ∀ r ∈ rs, r ∈ poolS) (hl : ∀ l ∈ ls, l ∈ labS) (h : POk rs ls p) : OkS p := ok_of_voc (h.voc hr hl)
theorem POk.ne {rs ls p : List Str} (h : POk rs ls p) : p ≠ [] := by
  rcases h with ⟨w, r, rfl, h1, h2⟩ | ⟨w, r, t, rfl, h1, h2, h3⟩ | ⟨r, l, t, rfl, h1, h2, h3⟩ <;> simp
theorem nodup_str {ss : List Str} : (ss.map D.str).Nodup ↔ ss.Nodup := by
  unfold List.Nodup
  rw [List.pairwise_map]
  exact ⟨fun h => h.imp fun q e => q (by rw [e]), fun h => h.imp fun q e => q (by injection e)⟩
/-- drawn names: sorted, of a pool -/
theorem pick_names {pl : List Str} (hnd : pl.Nodup) {es : List D} (hp : es.Perm (pl.map .str)) (m : Nat) : ∃ ss : List Str, es.take m = ss.map .str ∧ ss.Nodup ∧ (∀ s ∈ ss, s ∈ pl) ∧ ss.length = min m pl.length ∧ sortD (es.take m) = (sortS ss).map .str := by
  have hall : es.all isStr = true := List.all_eq_true.mpr fun x hx => by
    obtain ⟨s, -, rfl⟩ := List.mem_map.mp (hp.mem_iff.mp hx)
    rfl
  obtain ⟨ss, rfl⟩ := strs_of hall
  have hnd2 : (ss.map D.str).Nodup := hp.nodup_iff.mpr (nodup_str.mpr hnd)
  have hsn : ss.Nodup := nodup_str.mp hnd2
  refine ⟨ss.take m, by rw [List.map_take], hsn.sublist (List.take_sublist _ _), fun s hs => ?_, ?_, ?_⟩
  · have : D.str s ∈ pl.map .str := hp.mem_iff.mp (List.mem_map.mpr ⟨s, List.mem_of_mem_take hs, rfl⟩)
    obtain ⟨t, ht, e⟩ := List.mem_map.mp this
    injection e with e
    rw [← e]
    exact ht
  · have := hp.length_eq
    rw [List.length_map, List.length_map] at this
    rw [List.length_take, this]
  · rw [← List.map_take]
    exact sortG_map _
theorem numbered_zip {α : Type} (f : Fl) (g : α → D) : ∀ (xs : List α) (i : Nat), numbered i (xs.map fun s => (f, g s)) = (xs.zipIdx i).map fun x => (flNew f, .tup [.int x.2, g x.1])
  | [], i => rfl
  | x :: xs, i => by
    rw [List.map_cons, List.zipIdx_cons, List.map_cons]
    unfold numbered
    rw [numbered_zip f g xs (i + 1)]
theorem cutD_drop {α : Type} (xs : List α) {m : Int} (h : 0 ≤ m) (h2 : m ≤ xs.length) : cutD xs (some m) none = xs.drop m.toNat := by
  unfold cutD
  have e1 : HT.sIx xs.length xs.length none = xs.length := rfl
  have e2 : HT.sIx xs.length 0 (some m) = min m.toNat xs.length := by
    show (if m < 0 then (m + (xs.length : Int)).toNat else min m.toNat xs.length) = _
    rw [if_neg (by omega)]
  have e3 : min m.toNat xs.length = m.toNat := Nat.min_eq_left (by omega)
  rw [e1, e2, e3, List.take_of_length_le]
  rw [List.length_drop]
  omega
theorem kExt_ok {o : Bool} {ds es : List D} {f : Fl} (h : ds.length + es.length ≤ 100000) : kExt o ds f (.lst es) = some (.own, .non, o && Fl.isOwn (f, .lst es), ds ++ es) := by
  unfold kExt sizeB
  simp only
  rw [if_pos (decide_eq_true h)]
theorem kApp_ok {o : Bool} {ds : List D} {f : Fl} {d : D} (h : ds.length ≤ 100000) : kApp o ds f d = some (.own, .non, o && Fl.isOwn (f, d), ds ++ [d]) := by
  unfold kApp sizeB
  rw [if_pos (decide_eq_true h)]
def ringP (label : Str) (xs : List Str) : List (List Str) := xs.zipIdx.map fun x => ["derive", x.1, label, xs.getD ((x.2 + 1) % xs.length) ""]
theorem ringP_len (label : Str) (xs : List Str) : (ringP label xs).length = xs.length := by
  unfold ringP
  rw [List.length_map, List.length_zipIdx]
theorem ringP_ok {rs ls : List Str} {label : Str} (hl : label ∈ ls) {xs : List Str} (h : ∀ x ∈ xs, x ∈ rs) : ∀ p ∈ ringP label xs, POk rs ls p := by
  intro p hp
  obtain ⟨⟨x, i⟩, hx, rfl⟩ := List.mem_map.mp hp
  have hi : i < xs.length ∧ xs[i]? = some x := by
    have := List.mk_mem_zipIdx_iff_getElem?.mp hx
    exact ⟨(List.getElem?_eq_some_iff.mp this).1, this⟩
  have hm : (i + 1) % xs.length < xs.length := Nat.mod_lt _ (by omega)
  refine .inr (.inr ⟨_, _, _, rfl, h _ (List.mem_of_getElem? hi.2), hl, ?_⟩)
  rw [List.getD_eq_getElem?_getD, List.getElem?_eq_getElem hm]
  exact h _ (List.getElem_mem hm)
theorem ringP_src (label : Str) (xs : List Str) : (ringP label xs).map (fun p => p.getD 1 "") = xs := by
  unfold ringP
  rw [List.map_map]
  have : ((fun p : List Str => p.getD 1 "") ∘ fun x : Str × Nat => (["derive", x.1, label, xs.getD ((x.2 + 1) % xs.length) ""] : List Str)) = Prod.fst := rfl
  rw [this, List.zipIdx_map_fst]
theorem nodup_of_map {α β : Type} (f : α → β) : ∀ {l : List α}, (l.map f).Nodup → l.Nodup
  | [], _ => .nil
  | a :: l, h => by
    rw [List.map_cons, List.nodup_cons] at h
    exact List.nodup_cons.mpr ⟨fun z => h.1 (List.mem_map.mpr ⟨a, z, rfl⟩), nodup_of_map f h.2⟩
theorem ring_ix {xs : List Str} {i : Nat} {f : Fl} (h : i < xs.length) : dIx (f, .lst (xs.map .str)) (.own, .int (((i : Int) + 1) % (xs.length : Int))) = some (flKid f, .str (xs.getD ((i + 1) % xs.length) "")) := by
  have hm : (i + 1) % xs.length < xs.length := Nat.mod_lt _ (by omega)
  have e : (((i : Int) + 1) % (xs.length : Int)) = (((i + 1) % xs.length : Nat) : Int) := by push_cast; rfl
  rw [e]
  show ((atI (xs.map D.str) (((i + 1) % xs.length : Nat) : Int)).map fun d => (flKid f, d)) = _
  unfold atI ixN
  rw [if_pos (by omega), if_pos (by rw [List.length_map]; omega)]
  show (((xs.map D.str)[(i + 1) % xs.length]?).map fun d => (flKid f, d)) = _
  rw [List.getElem?_map, List.getElem?_eq_getElem hm, List.getD_eq_getElem?_getD, List.getElem?_eq_getElem hm]
  rfl
theorem items_sq (f : Fl) (b : Bool) (ds : List D) : itemsOf f (sq b ds) = some (ds.map fun d => (flKid f, d)) := by cases b <;> rfl
theorem items_sqS (f : Fl) (b : Bool) (xs : List Str) : itemsOf f (sq b (xs.map .str)) = some (xs.map fun s => (flKid f, D.str s)) := by
  rw [items_sq, List.map_map]
  rfl
theorem items_lS (f : Fl) (xs : List Str) : itemsOf f (lS xs) = some (xs.map fun s => (flKid f, D.str s)) := items_sqS f true xs
theorem items_lT (f : Fl) (xs : List (List Str)) : itemsOf f (lT xs) = some (xs.map fun p => (flKid f, tS p)) := by
  show some ((xs.map tS).map _) = _
  rw [List.map_map]
  rfl
theorem own_imm {α : Type} {f : Fl} {g : α → D} (h : ∀ x, imm (g x) = true) : ∀ l : List α, (l.map fun x => (f, g x)).all Fl.isOwn = true
  | [] => rfl
  | x :: l => by
    rw [List.map_cons, List.all_cons, own_imm h l, Bool.and_true]
    unfold Fl.isOwn
    rw [h x]
    rfl
/-- one ring's permits -/
theorem ring_w {Q : Bool × D → List Sv → Prop} {w roles labels mixed : D} {cut : Int} {f3 f4 f5 f6 : Fl} {found : Sv} {label : Str} {xs : List Str} (hl : xs.length ≤ 100)
    (q : Q (true, lT (ringP label xs)) [.io w, .fz .old roles, .fz .old labels, .fz f3 (lS xs), .fz f4 (.str label), .fz f5 mixed, .fz f6 (.int cut), found, .und, .und]) :
    wp (eLc [8, 9] (mEnum (eVar 3)) (gTupM [(putV 8), (putV 9)]) mYes (eTup (aCons (eC (.str "derive")) (aCons (eV (eVar 9)) (aCons (eV (eVar 4)) (aCons (eGen2 dIx (eVar 3) (eOp dMod (eGen2 dAdd (eVar 8) (eC (.int 1))) (eCB dLen (aCons (eVar 3) aNil)))) aNil))))))
      [.io w, .fz .old roles, .fz .old labels, .fz f3 (lS xs), .fz f4 (.str label), .fz f5 mixed, .fz f6 (.int cut), found, .und, .und] Q := by
  refine wp_lcM (α := Str × Nat) ?_
  refine wp_enum (wp_v (wp_var rfl ?_))
  refine ⟨_, _, rfl, _, _, xs.map (fun s => (flKid f3, D.str s)), rfl, items_lS _ _, rfl, xs.zipIdx, _, fun x => (.own, tS ["derive", x.1, label, xs.getD ((x.2 + 1) % xs.length) ""]), numbered_zip _ _ _ _, by simp; omega, ?_, ?_⟩
  · rintro ⟨x, i⟩ hx
    have hi : i < xs.length := by
      have := List.mk_mem_zipIdx_iff_getElem?.mp hx
      exact (List.getElem?_eq_some_iff.mp this).1
    refine ⟨_, rfl, ?_⟩
    walk_at "wr"
    refine ⟨by rw [List.length_map]; omega, _, _, _, rfl, rfl, (by rw [List.length_map]; exact ring_ix hi), ?_⟩
    walk_at "wr"
  · have e : (xs.zipIdx.map (fun x => (Fl.own, tS ["derive", x.1, label, xs.getD ((x.2 + 1) % xs.length) ""]))).all Fl.isOwn = true := own_imm (fun x => by exact imm_tS _) _
    rw [e]
    have e2 : D.lst (xs.zipIdx.map fun x => tS ["derive", x.1, label, xs.getD ((x.2 + 1) % xs.length) ""]) = lT (ringP label xs) := by
      unfold lT ringP
      rw [List.map_map]
      rfl
    show Q (true, D.lst (xs.zipIdx.map fun x => tS ["derive", x.1, label, xs.getD ((x.2 + 1) % xs.length) ""])) _
    rw [e2]
    exact q
theorem ringed_w {n : Int} {w : D} {rs ls : List Str} (hw : W3 n w) (hn : n ≤ 100000000000) (N : NamesOk rs ls) (hl : ls ≠ []) :
    Runs F__law_m_ringed [.io w, .fz (lS rs), .fz (lS ls)] fun f d l => ∃ ps, d = lT ps ∧ (∀ p ∈ ps, POk rs ls p) ∧ ps.Nodup ∧ ps.length = rs.length ∧ ∃ w', l = [w'] ∧ W3 (n + 8) w' := by
  refine runs_of rfl ?_
  show wp m__law_m_ringed [.io w, .fz .old (lS rs), .fz .old (lS ls), .und, .und, .und, .und, .und, .und, .und] _
  unfold m__law_m_ringed
  have hr6 := N.rlen
  have hr0 : 0 < rs.length := List.length_pos_iff.mpr N.rne
  walk_at "wr"
  refine Runs.imp (pick_w (ds := ls.map .str) hw (by omega) (by simpa using hl) (by have := N.llen; rw [List.length_map]; omega)) fun f d l ⟨ef, hd, w1, el, hw1⟩ => ?_
  obtain ⟨label, hlab, rfl⟩ := List.mem_map.mp hd
  subst ef el
  walk_at "wr"
  refine Runs.imp (mixed_w (ds := rs.map .str) hw1 (by rw [List.length_map]; omega) (by rw [List.length_map]; omega) (immL_S rs)) fun f d l ⟨ef, es, ed, hperm, w2, el, hw2⟩ => ?_
  obtain ⟨ms, e1, hmn, hms, hml, -⟩ := pick_names N.rnd hperm es.length
  rw [List.take_length] at e1
  subst ef ed el e1
  rw [List.length_map] at hw2
  walk_at "wr"
  rw [List.length_map]
  refine Runs.imp (draw_w (m := rs.length) hw2 (by omega) (by omega) (by omega)) fun f d l ⟨ef, k, ed, k0, k1, w3, el, hw3⟩ => ?_
  subst ef ed el
  have hml' : ms.length = rs.length := by
    have := hperm.length_eq
    rwa [List.length_map, List.length_map] at this
  walk_at "wr"
  refine wp_forU ?_
  walk_at "wr"
  rw [cutD_take _ k0, cutD_drop _ k0 (by rw [List.length_map]; omega), ← List.map_take, ← List.map_drop]
  refine ⟨_, _, _, rfl, rfl, ?_⟩
  refine wp_forC ⟨_, rfl, ?_⟩
  walk_at "wr"
  refine ring_w (xs := ms.take k.toNat) (by rw [List.length_take]; omega) ?_
  walk_at "wu"
  refine ⟨_, _, _, _, _, _, _, _, _, rfl, rfl, kExt_ok (by simp [ringP_len]; omega), ?_⟩
  refine wp_forC ⟨_, rfl, ?_⟩
  walk_at "wr"
  refine ring_w (xs := ms.drop k.toNat) (by rw [List.length_drop]; omega) ?_
  walk_at "wu"
  refine ⟨_, _, _, _, _, _, _, _, _, rfl, rfl, kExt_ok (by simp [ringP_len]; omega), ?_⟩
  refine wp_forN ?_
  walk_at "wr"
  refine ⟨_, _, _, rfl, rfl, ringP label (ms.take k.toNat) ++ ringP label (ms.drop k.toNat), ?_, ?_, ?_, ?_, _, rfl, hw3.le (by omega)⟩
  · show D.lst (([] ++ List.map tS _) ++ List.map tS _) = D.lst (List.map tS _)
    rw [List.nil_append, List.map_append]
  · intro p hp
    rcases List.mem_append.mp hp with hp | hp
    · exact ringP_ok hlab (fun x hx => hms x (List.mem_of_mem_take hx)) p hp
    · exact ringP_ok hlab (fun x hx => hms x (List.mem_of_mem_drop hx)) p hp
  · refine nodup_of_map (fun p => p.getD 1 "") ?_
    rw [List.map_append, ringP_src, ringP_src, List.take_append_drop]
    exact hmn
  · rw [List.length_append, ringP_len, ringP_len, List.length_take, List.length_drop]
    omega
theorem sortS_len (ss : List Str) : (sortS ss).length = ss.length := (sortG_perm ss).length_eq
theorem mem_sortS {ss : List Str} {s : Str} : s ∈ sortS ss ↔ s ∈ ss := (sortG_perm ss).mem_iff
theorem nodup_sortS {ss : List Str} : (sortS ss).Nodup ↔ ss.Nodup := (sortG_perm ss).nodup_iff
theorem names_ok {es : List D} {k : Int} (hp : es.Perm pool) (h0 : 0 ≤ k) (h1 : k < 6) : ∃ rs : List Str, sortD (es.take (1 + k).toNat) = rs.map .str ∧ (∀ r ∈ rs, r ∈ poolS) ∧ rs.Nodup ∧ sortS rs = rs ∧ rs ≠ [] ∧ rs.length ≤ 6 := by
  obtain ⟨ss, e1, hn, hm, hl, e2⟩ := pick_names (pl := poolS) (by decide +kernel) (es := es) hp (1 + k).toNat
  have hl2 : ss.length = (1 + k).toNat := by
    rw [hl]
    have : poolS.length = 12 := rfl
    omega
  refine ⟨sortS ss, e2, fun r hr => hm r (mem_sortS.mp hr), nodup_sortS.mpr hn, sortS_idem ss, fun e => ?_, by rw [sortS_len]; omega⟩
  have := congrArg List.length e
  rw [sortS_len, hl2] at this
  simp only [List.length_nil] at this
  omega
theorem labels_ok {es : List D} {k : Int} (hp : es.Perm (labS.map .str)) (h0 : 0 ≤ k) (h1 : k ≤ 3) : ∃ ls : List Str, sortD (es.take k.toNat) = ls.map .str ∧ (es.take k.toNat).all isStr = true ∧ (es.take k.toNat).length < 64 ∧ (∀ r ∈ ls, r ∈ labS) ∧ ls.Nodup ∧ sortS ls = ls ∧ ls.length ≤ 3 := by
  obtain ⟨ss, e1, hn, hm, hl, e2⟩ := pick_names (pl := labS) (by decide +kernel) (es := es) hp k.toNat
  have hl2 : ss.length ≤ 3 := by
    rw [hl]
    omega
  refine ⟨sortS ss, e2, by rw [e1]; exact all_str ss, by rw [e1, List.length_map]; omega, fun r hr => hm r (mem_sortS.mp hr), nodup_sortS.mpr hn, sortS_idem ss, by rw [sortS_len]; omega⟩
/-- the drawn permits, and the end -/
theorem book_loop {n m M : Int} {w w0 : D} {rs ls : List Str} {ps : List (List Str)} {s2 s3 : Sv} {f5 : Fl} {o : Bool} (N : NamesOk rs ls) (hw : W3 n w) (hn : n ≤ 100000000000 - 500) (hM : n + 100 ≤ M) (hm0 : 0 ≤ m) (hm : m < 22) (hs2 : Holds s2 (lS ls)) (hs3 : Holds s3 (.lst wordsD)) (p1 : ∀ p ∈ ps, POk rs ls p) (p2 : ps.Nodup) (p3 : ps.length ≤ 6) :
    wp (sSeq (sFor (mRng1 (eVar 1)) (putV 4)
 (sSeq (sSet 7 (eCall F__law_m_permit (aCons (eVar 0) (aCons (eV (eVar 5)) (aCons (eV (eVar 2)) (aCons (eV (eVar 3)) aNil))))))
 (sDrop (eExt 6 (eFz (Uw.M.bind (eT (eOp dNotIn (eVar 7) (eVar 6))) fun b => if b = true then (eLst (aCons (eV (eVar 7)) aNil)) else (eLst aNil)))))))
 (sRet (eTup (aCons (eV (eVar 5)) (aCons (eV (eVar 2)) (aCons (eFz (eNew dSorted (aCons (eVar 6) aNil))) aNil))))))
     [.io w, .fz .old (.int m), s2, s3, .und, .fz f5 (lS rs), .mu o (lT ps), .und] fun wd σ => ∃ f d l, wd = .ret f d ∧ outs [.io w0, .fz (.int m)] σ = some l ∧ ∃ rs ls ps, d = .tup [lS rs, lS ls, lT ps] ∧ RawOk rs ls ps ∧ ∃ w', l = [w'] ∧ W3 M w' := by
  have hls : OkS ls := ok_of_voc fun s hs => lab_voc s (N.lsub s hs)
  refine wp_seq (wp_for (fun items pre σ => items.length = m.toNat ∧ ∃ w' s2 s3 s4 s7 o, ∃ ps : List (List Str), ∃ ds, σ = [.io w', .fz .old (.int m), s2, s3, s4, .fz f5 (lS rs), .mu o (.lst ds), s7] ∧ ds = ps.map tS ∧ W3 (n + 4 * pre.length) w' ∧ Holds s2 (lS ls) ∧ Holds s3 (.lst wordsD) ∧ freeS s4 ∧ freeS s7 ∧ (∀ p ∈ ps, POk rs ls p) ∧ ps.Nodup ∧ ps.length ≤ 6 + pre.length) ?_)
  walk_at "wr"
  refine ⟨⟨by simp, w, s2, s3, _, _, o, ps, _, rfl, rfl, by simpa using hw, hs2, hs3, free_und, free_und, p1, p2, p3⟩, ?_, ?_⟩
  · rintro pre fd post σ hit ⟨hits, w', s2, s3, s4, s7, o, ps, ds, rfl, rfl, hw', hs2, hs3, hs4, hs7, p1, p2, p3⟩
    have hpl : pre.length < 22 := by
      have := congrArg List.length hit
      rw [hits] at this
      simp only [List.length_append, List.length_cons] at this
      omega
    walk_at "wr"
    refine Runs.imp (permit_w (roles := rs.map .str) (ls := ls) hw' (by omega) (all_str rs) (by simpa using N.rne) (by have := N.rlen; rw [List.length_map]; omega) hls (by have := N.llen; omega)) fun f d l ⟨ef, hd, w2, el, hw2⟩ => ?_
    obtain ⟨p, rfl, hp⟩ := permOk_s hd
    subst ef el
    walk_at "wr"
    have hpo : OkS p := hp.ok N.rsub N.lsub
    have hps : OkT ps := fun q hq => (p1 q hq).ok N.rsub N.lsub
    refine ⟨_, _, _, rfl, rfl, dNotIn_tS hpo hps, _, rfl, fun hb => ?_, fun hb => ?_⟩
    · walk_at "wr"
      refine ⟨_, _, _, _, _, _, _, _, _, rfl, rfl, kExt_ok (by simp; omega), ?_⟩
      have hnot : p ∉ ps := by simpa using hb
      refine ⟨hits, w2, _, _, _, _, _, ps ++ [p], _, rfl, ?_, ?_, holds_fz _ _, holds_fz _ _, free_fz _ _, free_fz _ _, ?_, ?_, ?_⟩
      · rw [List.map_append]
        rfl
      · exact hw2.le (by rw [List.length_append, List.length_singleton]; push_cast; omega)
      · intro q hq
        rcases List.mem_append.mp hq with hq | hq
        · exact p1 q hq
        · rw [List.mem_singleton.mp hq]
          exact hp
      · exact List.nodup_append.mpr ⟨p2, by simp, fun a ha b hb e => by
          rw [List.mem_singleton.mp hb] at e
          rw [e] at ha
          exact hnot ha⟩
      · rw [List.length_append, List.length_append, List.length_singleton, List.length_singleton]
        omega
    · walk_at "wr"
      refine ⟨_, _, _, _, _, _, _, _, _, rfl, rfl, kExt_ok (by simp; omega), ?_⟩
      refine ⟨hits, w2, _, _, _, _, _, ps, _, rfl, ?_, ?_, holds_fz _ _, holds_fz _ _, free_fz _ _, free_fz _ _, p1, p2, ?_⟩
      · exact List.append_nil _
      · exact hw2.le (by rw [List.length_append, List.length_singleton]; push_cast; omega)
      · rw [List.length_append, List.length_singleton]
        omega
  · rintro σ ⟨hits, w', s2, s3, s4, s7, o, ps, ds, rfl, rfl, hw', hs2, hs3, hs4, hs7, p1, p2, p3⟩
    have hl30 : ps.length ≤ 30 := by omega
    have hne : ∀ p ∈ ps, p ≠ [] := fun p hp => (p1 p hp).ne
    walk_at "wr"
    refine ⟨_, _, rfl, dSorted_T (by omega) hne, ?_⟩
    walk_at "wr"
    refine ⟨_, _, _, rfl, rfl, rs, ls, sortT ps, rfl, ⟨N, fun p hp => p1 p ((sortG_perm ps).mem_iff.mp hp), (sortG_perm ps).nodup_iff.mpr p2, sortT_uniq (sortG_perm ps) hne, by rw [(sortG_perm ps).length_eq]; exact hl30⟩, _, rfl, hw'.le (by omega)⟩
theorem book_w {n m : Int} {w : D} (hw : W3 n w) (hn : n ≤ 100000000000 - 1000) (hm0 : 0 ≤ m) (hm : m < 22) :
    Runs F__law_m_book [.io w, .fz (.int m)] fun f d l => ∃ rs ls ps, d = .tup [lS rs, lS ls, lT ps] ∧ RawOk rs ls ps ∧ ∃ w', l = [w'] ∧ W3 (n + 200) w' := by
  refine runs_of rfl ?_
  show wp m__law_m_book [.io w, .fz .old (.int m), .und, .und, .und, .und, .und, .und] _
  unfold m__law_m_book
  walk_at "wr"
  refine Runs.imp (draw_w (m := 6) hw (by omega) (by omega) (by omega)) fun f d l ⟨ef, k, ed, k0, k1, w1, el, hw1⟩ => ?_
  subst ef ed el
  walk_at "wr"
  refine Runs.imp (names_w (m := 1 + k) hw1 (by omega) (by omega) (by omega)) fun f d l ⟨ef, es, ed, hperm, w2, el, hw2⟩ => ?_
  obtain ⟨rs, e1, r1, r2, r3, r4, r5⟩ := names_ok hperm k0 k1
  rw [e1] at ed
  subst ef ed el
  walk_at "wr"
  refine Runs.imp (mixed_w (ds := labS.map .str) hw2 (by show n + 1 + 12 + 4 ≤ 1000000000000; omega) (by decide) rfl) fun f d l ⟨ef, es2, ed, hperm2, w3, el, hw3⟩ => ?_
  subst ef ed el
  walk_at "wr"
  refine Runs.imp (pick_w (ds := [.int 0, .int 1, .int 1, .int 1, .int 2, .int 2, .int 3]) hw3 (by show n + 1 + 12 + 4 ≤ 1000000000000; omega) (by simp) (by decide)) fun f d l ⟨ef, hd, w4, el, hw4⟩ => ?_
  have hq : ∃ q : Int, d = .int q ∧ 0 ≤ q ∧ q ≤ 3 := by
    simp only [List.mem_cons, List.not_mem_nil, or_false] at hd
    rcases hd with rfl | rfl | rfl | rfl | rfl | rfl | rfl <;> exact ⟨_, rfl, by decide, by decide⟩
  obtain ⟨q, rfl, q0, q1⟩ := hq
  obtain ⟨ls, e2, a1, a2, l1, l2, l3, l4⟩ := labels_ok hperm2 q0 q1
  subst ef el
  walk_at "wr"
  have hls : OkS ls := ok_of_voc fun s hs => lab_voc s (l1 s hs)
  have N : NamesOk rs ls := ⟨r1, r2, r3, r4, r5, l1, l2, l3, l4⟩
  have hD : dSorted [.lst (cutD es2 none (some q))] = some (lS ls) := by
    rw [cutD_take _ q0]
    have := (sorted_strs a1 a2).1
    rw [this, e2]
    rfl
  refine ⟨_, _, rfl, hD, ?_⟩
  walk_at "wr"
  refine ⟨_, _, _, rfl, rfl, dNe_nil hls, _, rfl, fun hc => ?_, fun hc => ?_⟩
  · walk_at "wr"
    refine Runs.imp (draw_w (m := 2) hw4 (by show n + 1 + 12 + 4 + 1 ≤ 1000000000000; omega) (by omega) (by omega)) fun f d l ⟨ef, k2, ed, k20, k21, w5, el, hw5⟩ => ?_
    subst ef ed el
    walk_at "wr"
    refine ⟨_, _, _, rfl, rfl, dEq_int _ _, _, rfl, ?_⟩
    refine ⟨fun hb => ?_, fun hb => ?_⟩
    · have hl0 : ls ≠ [] := fun z => by
        rw [z] at hc
        cases hc
      walk_at "wr"
      refine Runs.imp (ringed_w hw5 (by show n + 1 + 12 + 4 + 1 + 1 ≤ 100000000000; omega) N hl0) fun f d l ⟨ps, ed, p1, p2, p3, w6, el, hw6⟩ => ?_
      subst ed el
      walk_at "wr"
      refine ⟨_, _, _, _, _, _, _, _, _, rfl, rfl, kExt_ok (by simp; omega), ?_⟩
      repeat (first | exact book_loop N hw6 (by show n + 1 + 12 + 4 + 1 + 1 + 8 ≤ _; omega) (by show n + 1 + 12 + 4 + 1 + 1 + 8 + 100 ≤ _; omega) hm0 hm (holds_fz _ _) (holds_mu _ _) p1 p2 (by omega) | walk_at "wu")
    · repeat (first | exact book_loop (ps := []) N hw5 (by show n + 1 + 12 + 4 + 1 + 1 ≤ _; omega) (by show n + 1 + 12 + 4 + 1 + 1 + 100 ≤ _; omega) hm0 hm (holds_mu _ _) (holds_mu _ _) (by simp) (by simp) (by simp) | walk_at "wu")
  · repeat (first | exact book_loop (ps := []) N hw4 (by show n + 1 + 12 + 4 + 1 ≤ _; omega) (by show n + 1 + 12 + 4 + 1 + 100 ≤ _; omega) hm0 hm (holds_mu _ _) (holds_mu _ _) (by simp) (by simp) (by simp) | walk_at "wu")
theorem perm_map {α β : Type} {f : α → β} {es m : List β} (h : es.Perm m) : ∀ {l : List α}, m = l.map f → ∃ xs : List α, xs.Perm l ∧ es = xs.map f := by
  induction h with
  | nil =>
    intro l e
    cases l with
    | nil => exact ⟨[], .refl _, rfl⟩
    | cons a l => cases e
  | cons x p ih =>
    intro l e
    cases l with
    | nil => cases e
    | cons a l =>
      rw [List.map_cons] at e
      injection e with e1 e2
      obtain ⟨xs, hp, e3⟩ := ih e2
      exact ⟨a :: xs, hp.cons a, by rw [List.map_cons, e1, e3]⟩
  | swap x y l' =>
    intro l e
    cases l with
    | nil => cases e
    | cons a l =>
      cases l with
      | nil => cases e
      | cons b l =>
        rw [List.map_cons, List.map_cons] at e
        injection e with e1 e2
        injection e2 with e2 e3
        exact ⟨b :: a :: l, .swap a b l, by rw [List.map_cons, List.map_cons, e1, e2, e3]⟩
  | trans p q ih1 ih2 =>
    intro l e
    obtain ⟨xs, hp, e2⟩ := ih2 e
    obtain ⟨ys, hp2, e3⟩ := ih1 e2
    exact ⟨ys, hp2.trans hp, e3⟩
abbrev rawD (rs ls : List Str) (ps : List (List Str)) : D := .tup [lS rs, lS ls, lT ps]
structure StOk (rs : List Str) (st : List (List Str)) : Prop where
  sub : ∀ s ∈ st, ∀ x ∈ s, x ∈ rs
  up : ∀ s ∈ st, Up s
  len : ∀ s ∈ st, s.length ≤ 3
  n : st.length ≤ 4
theorem start_w {n : Int} {w : D} {rs ls : List Str} {ps : List (List Str)} (hw : W3 n w) (hn : n ≤ 100000000000) (R : RawOk rs ls ps) :
    Runs F__law_m_start [.io w, .fz (rawD rs ls ps)] fun f d l => ∃ st, d = .lst (st.map lS) ∧ StOk rs st ∧ ∃ w', l = [w'] ∧ W3 (n + 40) w' := by
  refine runs_of rfl ?_
  show wp m__law_m_start [.io w, .fz .old (rawD rs ls ps), .und, .und] _
  unfold m__law_m_start
  have hr6 := R.rlen
  walk_at "wr"
  refine wp_for (fun items pre σ => items.length ≤ 4 ∧ ∃ w' s3 o ds, ∃ st : List (List Str), σ = [.io w', .fz .old (rawD rs ls ps), .mu o (.lst ds), s3] ∧ ds = st.map lS ∧ W3 (n + 1 + 7 * pre.length) w' ∧ freeS s3 ∧ (∀ s ∈ st, ∀ x ∈ s, x ∈ rs) ∧ (∀ s ∈ st, Up s) ∧ (∀ s ∈ st, s.length ≤ 3) ∧ st.length = pre.length) ?_
  walk_at "wr"
  refine Runs.imp (draw_w (m := 5) hw (by omega) (by omega) (by omega)) fun f d l ⟨ef, k, ed, k0, k1, w1, el, hw1⟩ => ?_
  subst ef ed el
  walk_at "wr"
  refine ⟨⟨by simp; omega, w1, _, _, _, [], rfl, rfl, by simpa using hw1, free_und, by simp, by simp, by simp, rfl⟩, ?_, ?_⟩
  · rintro pre fd post σ hit ⟨hits, w', s3, o, ds, st, rfl, rfl, hw', hs3, h1, h2, h3, h4⟩
    have hpl : pre.length < 4 := by
      have := congrArg List.length hit
      simp only [List.length_append, List.length_cons] at this
      omega
    walk_at "wr"
    refine Runs.imp (mixed_w (ds := rs.map .str) hw' (by rw [List.length_map]; omega) (by rw [List.length_map]; omega) (immL_S rs)) fun f d l ⟨ef, es, ed, hperm, w2, el, hw2⟩ => ?_
    subst ef ed el
    rw [List.length_map] at hw2
    walk_at "wr"
    refine Runs.imp (pick_w (ds := [.int 0, .int 1, .int 1, .int 2, .int 3]) hw2 (by omega) (by simp) (by decide)) fun f d l ⟨ef, hd, w4, el, hw4⟩ => ?_
    have hq : ∃ q : Int, d = .int q ∧ 0 ≤ q ∧ q ≤ 3 := by
      simp only [List.mem_cons, List.not_mem_nil, or_false] at hd
      rcases hd with rfl | rfl | rfl | rfl | rfl <;> exact ⟨_, rfl, by decide, by decide⟩
    obtain ⟨q, rfl, q0, q1⟩ := hq
    obtain ⟨ss, e1, n1, n2, n3, e2⟩ := pick_names R.rnd hperm q.toNat
    subst ef el
    walk_at "wr"
    have hD : dSorted [.lst (cutD es none (some q))] = some (lS (sortS ss)) := by
      rw [cutD_take _ q0, e1]
      exact dSorted_S (by rw [n3]; omega) true
    refine ⟨_, _, rfl, hD, ?_⟩
    walk_at "wr"
    refine ⟨_, _, _, _, _, _, _, _, _, rfl, rfl, kApp_ok (by rw [List.length_map]; omega), ?_⟩
    refine ⟨hits, w4, _, _, _, st ++ [sortS ss], rfl, ?_, hw4.le ?_, free_fz _ _, ?_, ?_, ?_, ?_⟩
    · rw [List.map_append]
      rfl
    · rw [List.length_append, List.length_singleton]
      push_cast
      omega
    · intro s hs x hx
      rcases List.mem_append.mp hs with hs | hs
      · exact h1 s hs x hx
      · rw [List.mem_singleton.mp hs] at hx
        exact n2 x (mem_sortS.mp hx)
    · intro s hs
      rcases List.mem_append.mp hs with hs | hs
      · exact h2 s hs
      · rw [List.mem_singleton.mp hs]
        exact up_sortS n1
    · intro s hs
      rcases List.mem_append.mp hs with hs | hs
      · exact h3 s hs
      · rw [List.mem_singleton.mp hs, sortS_len, n3]
        omega
    · rw [List.length_append, List.length_append, h4]
      rfl
  · rintro σ ⟨hits, w', s3, o, ds, st, rfl, rfl, hw', hs3, h1, h2, h3, h4⟩
    walk_at "wr"
    exact ⟨_, _, _, rfl, rfl, st, rfl, ⟨h1, h2, h3, by omega⟩, _, rfl, hw'.le (by omega)⟩
theorem POk.len {rs ls p : List Str} (h : POk rs ls p) : p.length ≤ 60 := by
  rcases h with ⟨w, r, rfl, h1, h2⟩ | ⟨w, r, t, rfl, h1, h2, h3⟩ | ⟨r, l, t, rfl, h1, h2, h3⟩ <;> simp
theorem gd_strs {dc : Bool} {m k : Nat} {b : Bool} {ss : List Str} (h : ∀ s ∈ ss, s ∈ voc) (hl : ss.length ≤ m) : gd dc m (k + 1) (sq b (ss.map .str)) = true := by
  refine gd_sq (by rw [List.length_map]; exact hl) (List.all_eq_true.mpr fun d hd => ?_)
  obtain ⟨s, hs, rfl⟩ := List.mem_map.mp hd
  have := List.contains_iff_mem.mpr (h s hs)
  cases k <;> exact this
theorem passed_w {n : Int} {w : D} {rs ls : List Str} {ps : List (List Str)} (hw : W3 n w) (hn : n ≤ 100000000000) (R : RawOk rs ls ps) :
    Runs F__law_m_passed [.io w, .fz (rawD rs ls ps)] fun f d l => ∃ (x1 x2 : Bool × List Str) (b : Bool) (xs : List (Bool × List Str)), d = .lst [sS x1, sS x2, sq b (xs.map sS)] ∧ x1.2.Perm rs ∧ x2.2.Perm ls ∧ (xs.map (·.2)).Perm ps ∧ ∃ w', l = [w'] ∧ W3 (n + 10000) w' := by
  refine runs_of rfl ?_
  show wp m__law_m_passed [.io w, .fz .old (rawD rs ls ps), .und] _
  unfold m__law_m_passed
  have hr6 := R.rlen
  have hl3 := R.llen
  have hp30 := R.plen
  walk_at "wr"
  refine wp_lcU ?_
  walk_at "wr"
  refine wp_compC ⟨_, rfl, ?_⟩
  walk_at "wr"
  refine Runs.imp (mixed_w (ds := rs.map .str) hw (by rw [List.length_map]; omega) (by rw [List.length_map]; omega) (immL_S rs)) fun f d l ⟨ef, es, ed, hperm, w1, el, hw1⟩ => ?_
  obtain ⟨xs, hx, rfl⟩ := perm_map hperm rfl
  subst ef ed el
  rw [List.length_map] at hw1
  walk_at "wr"
  refine Runs.imp (loose_w (m := 60) (by omega) 1 7 (d := sS (true, xs)) (by omega) (by omega) hw1 (by omega) (gd_strs (fun s hs => pool_voc s (R.rsub s (hx.mem_iff.mp hs))) (by rw [hx.length_eq]; omega))) fun f d l ⟨hlo, w2, el, hw2⟩ => ?_
  obtain ⟨b1, rfl⟩ := lo_sS hlo
  subst el
  walk_at "wr"
  refine wp_compC ⟨_, rfl, ?_⟩
  walk_at "wr"
  refine Runs.imp (mixed_w (ds := ls.map .str) hw2 (by rw [List.length_map]; omega) (by rw [List.length_map]; omega) (immL_S ls)) fun f d l ⟨ef, es, ed, hperm2, w3, el, hw3⟩ => ?_
  obtain ⟨ys, hy, rfl⟩ := perm_map hperm2 rfl
  subst ef ed el
  rw [List.length_map] at hw3
  walk_at "wr"
  refine Runs.imp (loose_w (m := 60) (by omega) 1 7 (d := sS (true, ys)) (by omega) (by omega) hw3 (by omega) (gd_strs (fun s hs => lab_voc s (R.lsub s (hy.mem_iff.mp hs))) (by rw [hy.length_eq]; omega))) fun f d l ⟨hlo, w4, el, hw4⟩ => ?_
  obtain ⟨b2, rfl⟩ := lo_sS hlo
  subst el
  walk_at "wr"

  refine wp_compC ⟨_, rfl, ?_⟩
  walk_at "wr"
  refine Runs.imp (mixed_w (ds := ps.map tS) hw4 (by rw [List.length_map]; omega) (by rw [List.length_map]; omega) (immL_T ps)) fun f d l ⟨ef, es, ed, hperm3, w5, el, hw5⟩ => ?_
  obtain ⟨zs, hz, rfl⟩ := perm_map hperm3 rfl
  subst ef ed el
  rw [List.length_map] at hw5
  walk_at "wr"
  have e3 : D.lst (zs.map tS) = sq true ((zs.map fun p => (false, p)).map sS) := by
    rw [List.map_map]
    rfl
  rw [e3]
  refine Runs.imp (loose_w (m := 60) (by omega) 2 7 (d := sq true ((zs.map fun p => (false, p)).map sS)) (by omega) (by omega) hw5 (by omega) (gd_sq (by rw [List.length_map, List.length_map, hz.length_eq]; omega) (List.all_eq_true.mpr fun d hd => by
    rw [List.map_map] at hd
    obtain ⟨p, hp, rfl⟩ := List.mem_map.mp hd
    have hp2 := R.pok p (hz.mem_iff.mp hp)
    exact gd_strs (b := false) (hp2.voc R.rsub R.lsub) hp2.len))) fun f d l ⟨hlo, w6, el, hw6⟩ => ?_
  obtain ⟨b3, vs, rfl, e4⟩ := lo_SS hlo
  subst el
  walk_at "wr"
  refine wp_compN ?_
  walk_at "wr"
  refine ⟨_, _, _, rfl, rfl, (b1, xs), (b2, ys), b3, vs, rfl, hx, hy, ?_, _, rfl, hw6.le (by omega)⟩
  rw [e4, List.map_map]
  exact (show (zs.map ((fun x : Bool × List Str => x.2) ∘ fun p => (false, p))).Perm ps by
    rw [show ((fun x : Bool × List Str => x.2) ∘ fun p : List Str => (false, p)) = id from rfl, List.map_id]
    exact hz)
def isSq : D → Bool
  | .lst _ => true
  | .tup _ => true
  | _ => false
/-- data that isinstance may be asked of -/
def pl : D → Bool
  | .ty _ => false
  | .cls _ => false
  | .scr _ => false
  | .dit _ => false
  | .ins c _ => decide (c = "Book")
  | _ => true
theorem is_list_eq {d : D} (h : pl d = true) : F_is_list [.fz d] = .ok ((.own, .bl (isSq d)), []) := by
  cases d <;> first | (cases h; done) | skip
  all_goals first | rfl | skip
  · rename_i c fs
    obtain rfl : c = "Book" := of_decide_eq_true h
    rfl
theorem is_str_eq {d : D} (h : pl d = true) : isT ["Book"] ["str"] d = some (.bl (isStr d)) := by
  cases d <;> first | (cases h; done) | skip
  all_goals first | rfl | skip
  · rename_i c fs
    obtain rfl : c = "Book" := of_decide_eq_true h
    rfl
theorem name_eq : ∀ s ∈ poolS ++ labS, F_is_name [.fz (.str s)] = .ok ((.own, .bl true), []) := by
  intro s hs
  simp only [poolS, labS, List.cons_append, List.nil_append, List.mem_cons, List.not_mem_nil, or_false] at hs
  rcases hs with rfl | rfl | rfl | rfl | rfl | rfl | rfl | rfl | rfl | rfl | rfl | rfl | rfl | rfl | rfl | rfl <;> kernel_rfl
theorem runs_eq {F : Fn} {as : List Ag} {f : Fl} {d : D} {Q : Fl → D → List D → Prop} (e : F as = .ok ((f, d), [])) (q : Q f d []) : Runs F as Q := Runs.inn e q
theorem dSl_take {f : Fl} {b : Bool} {ds : List D} {i : Int} (h : 0 ≤ i) : ∃ f', dSl (f, sq b ds) none (some i) = some (f', sq b (ds.take i.toNat)) := by
  have e := cutD_take ds h
  cases b with
  | true => exact ⟨_, by show some (flTop f, D.lst (cutD ds none (some i))) = _; rw [e]; rfl⟩
  | false =>
    have q : dSl (f, sq false ds) none (some i) = if HT.sIx ds.length 0 none = 0 ∧ HT.sIx ds.length ds.length (some i) = ds.length then some (f, .tup ds) else some (flNew f, .tup (cutD ds none (some i))) := rfl
    rw [q]
    by_cases c : HT.sIx ds.length 0 none = 0 ∧ HT.sIx ds.length ds.length (some i) = ds.length
    · rw [if_pos c]
      have e2 : HT.sIx ds.length ds.length (some i) = min i.toNat ds.length := by
        show (if i < 0 then (i + (ds.length : Int)).toNat else min i.toNat ds.length) = _
        rw [if_neg (by omega)]
      have : ds.take i.toNat = ds := List.take_of_length_le (by have := c.2; omega)
      rw [this]
      exact ⟨f, rfl⟩
    · rw [if_neg c, e]
      exact ⟨_, rfl⟩
theorem dSl_drop {f : Fl} {b : Bool} {ds : List D} {i : Int} (h : 0 ≤ i) : ∃ f', dSl (f, sq b ds) (some i) none = some (f', sq b (ds.drop i.toNat)) := by
  have e1 : HT.sIx ds.length ds.length none = ds.length := rfl
  have e2 : HT.sIx ds.length 0 (some i) = min i.toNat ds.length := by
    show (if i < 0 then (i + (ds.length : Int)).toNat else min i.toNat ds.length) = _
    rw [if_neg (by omega)]
  have e : cutD ds (some i) none = ds.drop i.toNat := by
    unfold cutD
    rw [e1, e2, List.take_of_length_le (by rw [List.length_drop]; omega)]
    by_cases c : i.toNat ≤ ds.length
    · rw [Nat.min_eq_left c]
    · rw [Nat.min_eq_right (by omega), List.drop_length, List.drop_of_length_le (by omega)]
  cases b with
  | true => exact ⟨_, by show some (flTop f, D.lst (cutD ds (some i) none)) = _; rw [e]; rfl⟩
  | false =>
    have q : dSl (f, sq false ds) (some i) none = if HT.sIx ds.length 0 (some i) = 0 ∧ HT.sIx ds.length ds.length none = ds.length then some (f, .tup ds) else some (flNew f, .tup (cutD ds (some i) none)) := rfl
    rw [q]
    by_cases c : HT.sIx ds.length 0 (some i) = 0 ∧ HT.sIx ds.length ds.length none = ds.length
    · rw [if_pos c]
      have : ds.drop i.toNat = ds := by
        have c1 := c.1
        rw [e2] at c1
        by_cases c2 : i.toNat = 0
        · rw [c2, List.drop_zero]
        · have : ds = [] := List.length_eq_zero_iff.mp (by omega)
          rw [this, List.drop_nil]
      rw [this]
      exact ⟨f, rfl⟩
    · rw [if_neg c, e]
      exact ⟨_, rfl⟩
theorem dSl_takeS {f : Fl} {x : Bool × List Str} {i : Int} (h : 0 ≤ i) : ∃ f', dSl (f, sS x) none (some i) = some (f', sS (x.1, x.2.take i.toNat)) := by
  obtain ⟨f', e⟩ := dSl_take (f := f) (b := x.1) (ds := x.2.map .str) h
  exact ⟨f', by unfold sS; rw [e, List.map_take]⟩
theorem dSl_dropS {f : Fl} {x : Bool × List Str} {i : Int} (h : 0 ≤ i) : ∃ f', dSl (f, sS x) (some i) none = some (f', sS (x.1, x.2.drop i.toNat)) := by
  obtain ⟨f', e⟩ := dSl_drop (f := f) (b := x.1) (ds := x.2.map .str) h
  exact ⟨f', by unfold sS; rw [e, List.map_drop]⟩
theorem not_take {ss : List Str} (hn : ss.Nodup) {i : Nat} {s : Str} (h : ss[i]? = some s) : s ∉ ss.take i := by
  intro z
  obtain ⟨hi, he⟩ := List.getElem?_eq_some_iff.mp h
  have e := List.take_append_drop i ss
  rw [← e, List.drop_eq_getElem_cons hi, he] at hn
  exact (List.nodup_append.mp hn).2.2 s z s (by simp) rfl
theorem take_ok {ss : List Str} (h : OkS ss) (i : Nat) : OkS (ss.take i) := List.all_eq_true.mpr fun s hs => List.all_eq_true.mp h s (List.mem_of_mem_take hs)
def namS : List Str := poolS ++ labS
theorem nam_voc : ∀ s ∈ namS, s ∈ voc := fun s hs => by
  rcases List.mem_append.mp hs with h | h
  · exact pool_voc s h
  · exact lab_voc s h
theorem isSq_sq (b : Bool) (ds : List D) : isSq (sq b ds) = true ∧ pl (sq b ds) = true := by cases b <;> exact ⟨rfl, rfl⟩
theorem is_list_sq (b : Bool) (ds : List D) : F_is_list [.fz (sq b ds)] = .ok ((.own, .bl true), []) := by
  rw [is_list_eq (isSq_sq b ds).2, (isSq_sq b ds).1]
theorem are_names_w {b : Bool} {ss : List Str} (h : ∀ s ∈ ss, s ∈ namS) (hn : ss.Nodup) (hl : ss.length ≤ 100) :
    Runs F_are_names [.fz (sS (b, ss))] fun f r l => f = .own ∧ r = .bl true ∧ l = [] := by
  refine runs_of rfl ?_
  show wp m_are_names [.fz .old (sS (b, ss)), .und, .und] _
  unfold m_are_names
  have hok : OkS ss := ok_of_voc fun s hs => nam_voc s (h s hs)
  walk_at "wr"
  refine runs_eq (is_list_sq b _) ?_
  walk_at "wr"
  refine wp_allM (α := Str) ?_
  refine wp_seqI (wp_v (wp_var rfl ?_))
  refine ⟨_, _, rfl, _, _, _, rfl, items_sqS _ b ss, rfl, ss, _, fun _ => true, rfl, by omega, ?_, ?_⟩
  · intro x hx
    refine ⟨_, rfl, ?_⟩
    walk_at "wr"
    refine runs_eq (name_eq x (h x hx)) ?_
    walk_at "wr"
  · have e : ss.all (fun _ => true) = true := by simp
    rw [e]
    walk_at "wr"
    refine wp_allM (α := Str × Nat) ?_
    refine wp_enum (wp_v (wp_var rfl ?_))
    refine ⟨_, _, rfl, _, _, _, rfl, items_sqS _ b ss, rfl, ss.zipIdx, _, fun x => !decide (x.1 ∈ ss.take x.2), numbered_zip _ _ _ _, by simp; omega, ?_, ?_⟩
    · rintro ⟨x, i⟩ hx
      have hx := List.mk_mem_zipIdx_iff_getElem?.mp hx
      refine ⟨_, rfl, ?_⟩
      walk_at "wr"
      obtain ⟨f', e'⟩ := dSl_takeS (f := .old) (x := (b, ss)) (i := (i : Int)) (by omega)
      refine ⟨_, _, rfl, e', ?_⟩
      refine ⟨_, _, _, rfl, rfl, dNotIn_str (voc_ok x (nam_voc x (h x (List.mem_of_getElem? hx)))) (take_ok hok _), ?_⟩
      walk_at "wr"
    · have e : (ss.zipIdx.all fun x => !decide (x.1 ∈ ss.take x.2)) = true := List.all_eq_true.mpr fun ⟨x, i⟩ hx => by
        have := not_take hn (List.mk_mem_zipIdx_iff_getElem?.mp hx)
        simpa using this
      rw [e]
      walk_at "wr"
theorem dIn_sS {s : Str} {x : Bool × List Str} (hs : PyData.strOk s = true) (h : OkS x.2) : dIn (.str s) (sS x) = some (.bl (decide (s ∈ x.2))) := dIn_str hs h
theorem known_ok : PyData.strOk "known" = true := by kernel_rfl
theorem check_roles_w {x : Bool × List Str} (h : ∀ s ∈ x.2, s ∈ poolS) (hn : x.2.Nodup) (hl : x.2.length ≤ 100) :
    Runs F_check_roles [.fz (sS x)] fun f r l => l = [] := by
  refine runs_ofN rfl ?_
  show wp m_check_roles [.fz .old (sS x)] _
  unfold m_check_roles
  have h2 : ∀ s ∈ x.2, s ∈ namS := fun s hs => List.mem_append_left _ (h s hs)
  have hk : decide (("known" : Str) ∈ x.2) = false := decide_eq_false fun z => absurd (h _ z) (show ¬ ("known" : Str) ∈ poolS by decide +kernel)
  walk_at "wr"
  refine Runs.imp (are_names_w (b := x.1) (ss := x.2) h2 hn hl) fun f r l ⟨e1, e2, e3⟩ => ?_
  subst e1 e2 e3
  walk_at "wr"
  refine ⟨_, _, _, rfl, rfl, dIn_sS known_ok (ok_of_voc fun s hs => pool_voc s (h s hs)), ?_⟩
  rw [hk]
  walk_at "wr"
theorem check_labels_w {x : Bool × List Str} (h : ∀ s ∈ x.2, s ∈ labS) (hn : x.2.Nodup) (hl : x.2.length ≤ 100) :
    Runs F_check_labels [.fz (sS x)] fun f r l => l = [] := by
  refine runs_ofN rfl ?_
  show wp m_check_labels [.fz .old (sS x)] _
  unfold m_check_labels
  have h2 : ∀ s ∈ x.2, s ∈ namS := fun s hs => List.mem_append_right _ (h s hs)
  walk_at "wr"
  refine Runs.imp (are_names_w (b := x.1) (ss := x.2) h2 hn hl) fun f r l ⟨e1, e2, e3⟩ => ?_
  subst e1 e2 e3
  walk_at "wr"
theorem dEq_sS_lst {c : Bool} {p : List Str} (h : OkS p) (h0 : p ≠ []) : dEq (sS (c, p)) (.lst []) = some (.bl false) := by
  have e0 : pyS (.lst []) = some (.list []) := pyS_lst (ss := []) rfl
  cases p with
  | nil => exact absurd rfl h0
  | cons s p =>
    cases c with
    | true =>
      have e1 : pyS (sS (true, s :: p)) = _ := pyS_lst h
      unfold dEq
      rw [e0, e1]
      simp [PyData.eqv, PyData.eqvAll]
    | false =>
      have e1 : pyS (sS (false, s :: p)) = _ := pyS_tup h
      unfold dEq
      rw [e0, e1]
      simp [PyData.eqv, PyData.eqvAll]
theorem dEq_sS_tup {c : Bool} {p : List Str} (h : OkS p) (h0 : p ≠ []) : dEq (sS (c, p)) (.tup []) = some (.bl false) := by
  have e0 : pyS (.tup []) = some (.tuple []) := pyS_tup (ss := []) rfl
  cases p with
  | nil => exact absurd rfl h0
  | cons s p =>
    cases c with
    | true =>
      have e1 : pyS (sS (true, s :: p)) = _ := pyS_lst h
      unfold dEq
      rw [e0, e1]
      simp [PyData.eqv, PyData.eqvAll]
    | false =>
      have e1 : pyS (sS (false, s :: p)) = _ := pyS_tup h
      unfold dEq
      rw [e0, e1]
      simp [PyData.eqv, PyData.eqvAll]
theorem dIx_sq {f g : Fl} {b : Bool} {ds : List D} {i : Int} {d : D} (h : 0 ≤ i) (hd : ds[i.toNat]? = some d) : dIx (f, sq b ds) (g, .int i) = some (flKid f, d) := by
  have hi : i.toNat < ds.length := (List.getElem?_eq_some_iff.mp hd).1
  have e : (atI ds i).map (fun d => (flKid f, d)) = some (flKid f, d) := by
    unfold atI ixN
    rw [if_pos h, if_pos (by omega)]
    show (ds[i.toNat]?).map _ = _
    rw [hd]
    rfl
  cases b <;> exact e
theorem dIx0 {f : Fl} {c : Bool} {w : Str} {p : List Str} : dIx (f, sS (c, w :: p)) (.own, .int 0) = some (flKid f, .str w) := by
  have := dIx_sq (f := f) (g := .own) (b := c) (ds := (w :: p).map .str) (i := 0) (d := .str w) (by omega) (by simp)
  exact this
theorem dLen_sS (x : Bool × List Str) : dLen [sS x] = some (.int x.2.length) := by
  obtain ⟨b, ss⟩ := x
  cases b <;> (show some (D.int ((ss.map D.str).length : Int)) = _; rw [List.length_map])
theorem zipped_map {α β : Type} (f g : Fl) (a : α → D) (b : β → D) : ∀ (xs : List α) (ys : List β), zipped (xs.map fun x => (f, a x)) (ys.map fun y => (g, b y)) = (xs.zip ys).map fun z => (flBoth f g, .tup [a z.1, b z.2])
  | [], ys => rfl
  | x :: xs, [] => rfl
  | x :: xs, y :: ys => by
    rw [List.map_cons, List.map_cons, List.zip_cons_cons, List.map_cons]
    unfold zipped
    rw [zipped_map f g a b xs ys]
theorem dNe_int2 (i j : Int) : dNe (.int i) (.int j) = some (.bl (!(i == j))) := dNe_int i j
/-- one permit, by its word's shape -/
theorem is_one_gen {x1 x2 : Bool × List Str} {c : Bool} {w sh : Str} {ns kinds : List Str} (ht : dTab tab_SHAPES (.str w) (.str "") = some (.str sh)) (hk : itemsOf .own (.str sh) = some (kinds.map fun s => (Fl.own, D.str s)))
    (hsh : dLen [.str sh] = some (.int ns.length)) (hsok : PyData.strOk sh = true) (hs0 : (sh == "") = false) (hw : PyData.strOk w = true) (hn : ∀ s ∈ ns, s ∈ namS) (h1 : OkS x1.2) (h2 : OkS x2.2) (hl : ns.length ≤ 100)
    (hz : ∀ z ∈ kinds.zip ns, PyData.strOk z.1 = true ∧ (z.1 = "r" → z.2 ∈ x1.2) ∧ (z.1 ≠ "r" → z.2 ∈ x2.2)) :
    Runs F_is_one [.fz (sS x1), .fz (sS x2), .fz (sS (c, w :: ns))] fun f r l => f = .own ∧ r = .bl true ∧ l = [] := by
  have hok : OkS (w :: ns) := by
    refine List.all_eq_true.mpr fun s hs => ?_
    rcases List.mem_cons.mp hs with rfl | hs
    · exact hw
    · exact voc_ok _ (nam_voc _ (hn s hs))
  refine runs_of rfl ?_
  show wp m_is_one [.fz .old (sS x1), .fz .old (sS x2), .fz .old (sS (c, w :: ns)), .und, .und, .und] _
  unfold m_is_one
  walk_at "wr"
  refine runs_eq (is_list_sq c _) ?_
  walk_at "wr"
  refine ⟨_, _, _, rfl, rfl, dEq_sS_lst hok (by simp), ?_⟩
  walk_at "wr"
  refine ⟨_, _, _, rfl, rfl, dEq_sS_tup hok (by simp), ?_⟩
  walk_at "wr"
  refine ⟨_, _, _, rfl, rfl, dIx0, ?_⟩
  walk_at "wr"
  refine ⟨_, _, _, rfl, rfl, dIx0, ?_⟩
  walk_at "wr"
  refine ⟨_, _, _, rfl, rfl, ht, ?_⟩
  walk_at "wr"
  refine ⟨_, _, _, rfl, rfl, dEq_str hsok (by kernel_rfl), ?_⟩
  rw [hs0]
  walk_at "wr"
  refine ⟨_, _, rfl, dLen_sS _, ?_⟩
  walk_at "wr"
  refine ⟨_, _, rfl, hsh, ?_⟩
  walk_at "wr"
  refine ⟨_, _, _, rfl, rfl, dNe_int _ _, ?_⟩
  have e0 : (!(((w :: ns).length : Int) == ((ns.length : Int) + 1))) = false := by
    rw [List.length_cons]
    simp
  walk_at "wr"
  refine ⟨fun _ => ?_, fun h => absurd (e0.symm.trans h) (by decide)⟩
  walk_at "wr"
  obtain ⟨f', e'⟩ := dSl_dropS (f := .old) (x := (c, w :: ns)) (i := 1) (by omega)
  refine wp_allM (α := Str) ?_
  refine wp_seqI (wp_v ?_)
  walk_at "wr"
  refine ⟨_, _, rfl, e', ?_⟩
  refine ⟨_, _, rfl, _, _, _, rfl, items_sqS _ c ns, rfl, ns, _, fun _ => true, rfl, by omega, ?_, ?_⟩
  · intro x hx
    refine ⟨_, rfl, ?_⟩
    walk_at "wr"
    refine runs_eq (name_eq x (hn x hx)) ?_
    walk_at "wr"
  · have e : ns.all (fun _ => true) = true := by simp
    rw [e]
    walk_at "wr"
    refine wp_allM (α := Str × Str) ?_
    refine wp_zip (wp_v (wp_var rfl ?_))
    refine ⟨_, _, rfl, wp_v ?_⟩
    walk_at "wr"
    refine ⟨_, _, rfl, e', ?_⟩
    refine ⟨_, _, rfl, _, _, _, _, _, _, rfl, hk, rfl, items_sqS _ c ns, rfl, kinds.zip ns, _, fun z => decide (z.2 ∈ (if (z.1 == "r") = true then x1 else x2).2), zipped_map _ _ _ _ _ _, ?_, ?_, ?_⟩
    · rw [List.length_zip]
      omega
    · rintro ⟨k, s⟩ hks
      obtain ⟨q1, q2, q3⟩ := hz _ hks
      have hs : PyData.strOk s = true := voc_ok _ (nam_voc _ (hn s (List.of_mem_zip hks).2))
      refine ⟨_, rfl, ?_⟩
      walk_at "wr"
      refine ⟨_, _, _, rfl, rfl, dEq_str q1 (by kernel_rfl), _, rfl, fun hb => ?_, fun hb => ?_⟩
      · walk_at "wr"
        refine ⟨_, _, _, rfl, rfl, dIn_sS hs h1, ?_⟩
        walk_at "wr"
        exact ⟨by rw [if_pos hb], rfl⟩
      · walk_at "wr"
        refine ⟨_, _, _, rfl, rfl, dIn_sS hs h2, ?_⟩
        walk_at "wr"
        exact ⟨by rw [if_neg (by rw [hb]; decide)], rfl⟩
    · have e : ((kinds.zip ns).all fun z => decide (z.2 ∈ (if (z.1 == "r") = true then x1 else x2).2)) = true := List.all_eq_true.mpr fun ⟨k, s⟩ hks => by
        obtain ⟨q1, q2, q3⟩ := hz _ hks
        refine decide_eq_true ?_
        by_cases hk : k = "r"
        · rw [if_pos (by rw [hk]; exact beq_self_eq_true _)]
          exact q2 hk
        · rw [if_neg (by simpa using hk)]
          exact q3 hk
      rw [e]
      walk_at "wr"
theorem one_sh : ∀ w ∈ oneS, dTab tab_SHAPES (.str w) (.str "") = some (.str "r") := by
  intro w hw
  simp only [oneS, List.mem_cons, List.not_mem_nil, or_false] at hw
  rcases hw with rfl | rfl | rfl | rfl | rfl <;> kernel_rfl
theorem two_sh : ∀ w ∈ twoS, dTab tab_SHAPES (.str w) (.str "") = some (.str "rr") := by
  intro w hw
  simp only [twoS, List.mem_cons, List.not_mem_nil, or_false] at hw
  rcases hw with rfl | rfl | rfl <;> kernel_rfl
theorem is_one_w {x1 x2 : Bool × List Str} {c : Bool} {p : List Str} (h1 : ∀ s ∈ x1.2, s ∈ poolS) (h2 : ∀ s ∈ x2.2, s ∈ labS) (h : POk x1.2 x2.2 p) :
    Runs F_is_one [.fz (sS x1), .fz (sS x2), .fz (sS (c, p))] fun f r l => f = .own ∧ r = .bl true ∧ l = [] := by
  have o1 : OkS x1.2 := ok_of_voc fun s hs => pool_voc s (h1 s hs)
  have o2 : OkS x2.2 := ok_of_voc fun s hs => lab_voc s (h2 s hs)
  have n1 : ∀ s ∈ x1.2, s ∈ namS := fun s hs => List.mem_append_left _ (h1 s hs)
  have n2 : ∀ s ∈ x2.2, s ∈ namS := fun s hs => List.mem_append_right _ (h2 s hs)
  have kr : PyData.strOk "r" = true := by kernel_rfl
  have kx : PyData.strOk "x" = true := by kernel_rfl
  rcases h with ⟨w, r, rfl, q1, q2⟩ | ⟨w, r, s, rfl, q1, q2, q3⟩ | ⟨r, l, s, rfl, q1, q2, q3⟩
  · refine is_one_gen (sh := "r") (ns := [r]) (kinds := ["r"]) (one_sh w q1) (by kernel_rfl) (by kernel_rfl) (by kernel_rfl) (by decide +kernel) (voc_ok _ (one_voc w q1)) (fun z hz => ?_) o1 o2 (by simp) (fun z hz => ?_)
    · rw [List.mem_singleton.mp hz]
      exact n1 r q2
    · rw [List.mem_singleton.mp hz]
      exact ⟨kr, fun _ => q2, fun h => absurd rfl h⟩
  · refine is_one_gen (sh := "rr") (ns := [r, s]) (kinds := ["r", "r"]) (two_sh w q1) (by kernel_rfl) (by kernel_rfl) (by kernel_rfl) (by decide +kernel) (voc_ok _ (two_voc w q1)) (fun z hz => ?_) o1 o2 (by simp) (fun z hz => ?_)
    · simp only [List.mem_cons, List.not_mem_nil, or_false] at hz
      rcases hz with rfl | rfl
      · exact n1 _ q2
      · exact n1 _ q3
    · simp only [List.zip_cons_cons, List.zip_nil_right, List.mem_cons, List.not_mem_nil, or_false] at hz
      rcases hz with rfl | rfl
      · exact ⟨kr, fun _ => q2, fun h => absurd rfl h⟩
      · exact ⟨kr, fun _ => q3, fun h => absurd rfl h⟩
  · refine is_one_gen (sh := "rxr") (ns := [r, l, s]) (kinds := ["r", "x", "r"]) (by kernel_rfl) (by kernel_rfl) (by kernel_rfl) (by kernel_rfl) (by decide +kernel) (by kernel_rfl) (fun z hz => ?_) o1 o2 (by simp) (fun z hz => ?_)
    · simp only [List.mem_cons, List.not_mem_nil, or_false] at hz
      rcases hz with rfl | rfl | rfl
      · exact n1 _ q1
      · exact n2 _ q2
      · exact n1 _ q3
    · simp only [List.zip_cons_cons, List.zip_nil_right, List.mem_cons, List.not_mem_nil, or_false] at hz
      rcases hz with rfl | rfl | rfl
      · exact ⟨kr, fun _ => q1, fun h => absurd rfl h⟩
      · exact ⟨kx, fun h => absurd h (show ¬ ("x" : Str) = "r" by decide +kernel), fun _ => q2⟩
      · exact ⟨kr, fun _ => q3, fun h => absurd rfl h⟩
theorem dTupOf_sS (f : Fl) (x : Bool × List Str) : ∃ f', dTupOf [(f, sS x)] = some (f', tS x.2) := by
  obtain ⟨b, ss⟩ := x
  cases b <;> exact ⟨_, rfl⟩
theorem checked_permits_w {x1 x2 : Bool × List Str} {b : Bool} {xs : List (Bool × List Str)} (h1 : ∀ s ∈ x1.2, s ∈ poolS) (h2 : ∀ s ∈ x2.2, s ∈ labS) (h : ∀ x ∈ xs, POk x1.2 x2.2 x.2) (hn : (xs.map (·.2)).Nodup) (hl : xs.length ≤ 100) :
    Runs F_checked_permits [.fz (sS x1), .fz (sS x2), .fz (sq b (xs.map sS))] fun f r l => r = lT (xs.map (·.2)) ∧ l = [] := by
  refine runs_of rfl ?_
  show wp m_checked_permits [.fz .old (sS x1), .fz .old (sS x2), .fz .old (sq b (xs.map sS)), .und, .und, .und] _
  unfold m_checked_permits
  walk_at "wr"
  refine runs_eq (is_list_sq b _) ?_
  walk_at "wr"
  refine wp_for (fun items pre σ => items = (xs.zipIdx.map fun x => (flNew .old, D.tup [.int x.2, sS x.1])) ∧ ∃ o s4 s5 ds, σ = [.fz .old (sS x1), .fz .old (sS x2), .fz .old (sq b (xs.map sS)), .mu o (.lst ds), s4, s5] ∧ freeS s4 ∧ freeS s5 ∧ ds = ((xs.take pre.length).map (·.2)).map tS) ?_
  refine wp_enum (wp_v (wp_var rfl ?_))
  have hit0 : itemsOf .old (sq b (xs.map sS)) = some (xs.map fun x => (Fl.old, sS x)) := by
    rw [items_sq, List.map_map]
    rfl
  refine ⟨_, _, rfl, _, _, _, rfl, hit0, ⟨numbered_zip _ _ _ _, _, _, _, _, rfl, free_und, free_und, rfl⟩, ?_, ?_⟩
  · rintro pre fd post σ hit ⟨hits, o, s4, s5, ds, rfl, hs4, hs5, rfl⟩
    have hg : ∃ x, xs[pre.length]? = some x ∧ fd = (flNew .old, D.tup [.int (pre.length : Int), sS x]) := by
      have : (xs.zipIdx.map fun x => (flNew .old, D.tup [.int x.2, sS x.1]))[pre.length]? = some fd := by
        rw [← hits, hit, List.getElem?_append_right (Nat.le_refl _), Nat.sub_self]
        rfl
      rw [List.getElem?_map, List.getElem?_zipIdx] at this
      cases z : xs[pre.length]? with
      | none => rw [z] at this; cases this
      | some x =>
        rw [z] at this
        simp only [Option.map_some, Option.some.injEq, Nat.zero_add] at this
        exact ⟨x, rfl, this.symm⟩
    obtain ⟨x, hx, rfl⟩ := hg
    have hxm := List.mem_of_getElem? hx
    have hpo : OkS x.2 := (h x hxm).ok h1 h2
    refine ⟨[.fz .old (sS x1), .fz .old (sS x2), .fz .old (sq b (xs.map sS)), .mu o (.lst (((xs.take pre.length).map (·.2)).map tS)), .fz (flKid (flNew .old)) (.int pre.length), .fz (flKid (flNew .old)) (sS x)], ?_, ?_⟩
    · show (putV 4 (.val _ _) _).bind _ = _
      rw [putF rfl hs4]
      show (putV 5 (.val _ _) _).bind _ = _
      rw [putF rfl hs5]
      rfl
    · walk_at "wr"
      refine Runs.imp (is_one_w (x1 := x1) (x2 := x2) (c := x.1) (p := x.2) h1 h2 (h x hxm)) fun f r l ⟨e1, e2, e3⟩ => ?_
      subst e1 e2 e3
      walk_at "wr"
      obtain ⟨f', e'⟩ := dTupOf_sS (flKid (flNew .old)) x
      refine ⟨_, _, rfl, e', ?_⟩
      have hot : OkT ((xs.take pre.length).map (·.2)) := fun q hq => by
        obtain ⟨y, hy, rfl⟩ := List.mem_map.mp hq
        exact (h y (List.mem_of_mem_take hy)).ok h1 h2
      walk_at "wr"
      refine ⟨_, _, _, rfl, rfl, dIn_tS hpo hot, ?_⟩
      have hnot : decide (x.2 ∈ (xs.take pre.length).map (·.2)) = false := decide_eq_false fun z => by
        rw [List.map_take] at z
        obtain ⟨hi, he⟩ := List.getElem?_eq_some_iff.mp hx
        have e := List.take_append_drop pre.length (xs.map (·.2))
        rw [← e, List.drop_eq_getElem_cons (by rw [List.length_map]; exact hi)] at hn
        refine (List.nodup_append.mp hn).2.2 x.2 z x.2 ?_ rfl
        rw [List.getElem_map, he]
        exact List.mem_cons_self
      rw [hnot]
      walk_at "wr"
      refine ⟨_, _, rfl, e', ?_⟩
      walk_at "wr"
      refine ⟨_, _, _, _, _, _, _, _, _, rfl, rfl, kApp_ok (by simp; omega), ?_⟩
      refine ⟨hits, _, _, _, _, rfl, free_fz _ _, free_fz _ _, ?_⟩
      rw [List.length_append, List.length_singleton, List.take_add_one, hx, List.map_append, List.map_append]
      rfl
  · rintro σ ⟨hits, o, s4, s5, ds, rfl, hs4, hs5, e⟩
    rw [hits, List.length_map, List.length_zipIdx, List.take_length] at e
    subst e
    walk_at "wr"
abbrev bookD (rs ls : List Str) (ps : List (List Str)) : D := .ins "Book" [("own_permits", lT ps), ("own_roles", lS rs), ("own_labels", lS ls)]
theorem book_init_w {rs ls : List Str} {ps : List (List Str)} {x1 x2 : Bool × List Str} {b : Bool} {xs : List (Bool × List Str)} (R : RawOk rs ls ps) (h1 : x1.2.Perm rs) (h2 : x2.2.Perm ls) (h3 : (xs.map (·.2)).Perm ps) :
    Runs F_Book_init [.io (.ins "Book" []), .fz (sS x1), .fz (sS x2), .fz (sq b (xs.map sS))] fun f r l => r = .non ∧ l = [bookD rs ls ps] := by
  have hr6 := R.rlen
  have hl3 := R.llen
  have hp30 := R.plen
  have l1 := h1.length_eq
  have l2 := h2.length_eq
  have l3 := h3.length_eq
  rw [List.length_map] at l3
  have m1 : ∀ s ∈ x1.2, s ∈ poolS := fun s hs => R.rsub s (h1.mem_iff.mp hs)
  have m2 : ∀ s ∈ x2.2, s ∈ labS := fun s hs => R.lsub s (h2.mem_iff.mp hs)
  have m3 : ∀ x ∈ xs, POk x1.2 x2.2 x.2 := fun x hx => by
    have hp := R.pok x.2 (h3.mem_iff.mp (List.mem_map.mpr ⟨x, hx, rfl⟩))
    rcases hp with ⟨w, r, e, q1, q2⟩ | ⟨w, r, s, e, q1, q2, q3⟩ | ⟨r, l, s, e, q1, q2, q3⟩
    · exact .inl ⟨w, r, e, q1, h1.mem_iff.mpr q2⟩
    · exact .inr (.inl ⟨w, r, s, e, q1, h1.mem_iff.mpr q2, h1.mem_iff.mpr q3⟩)
    · exact .inr (.inr ⟨r, l, s, e, h1.mem_iff.mpr q1, h2.mem_iff.mpr q2, h1.mem_iff.mpr q3⟩)
  refine runs_ofN rfl ?_
  show wp m_Book_init [.io (.ins "Book" []), .fz .old (sS x1), .fz .old (sS x2), .fz .old (sq b (xs.map sS))] _
  unfold m_Book_init
  walk_at "wr"
  refine Runs.imp (check_roles_w (x := x1) m1 (h1.nodup_iff.mpr R.rnd) (by omega)) fun f r l e => ?_
  subst e
  walk_at "wr"
  refine Runs.imp (check_labels_w (x := x2) m2 (h2.nodup_iff.mpr R.lnd) (by omega)) fun f r l e => ?_
  subst e
  walk_at "wr"
  refine Runs.imp (checked_permits_w (x1 := x1) (x2 := x2) (b := b) (xs := xs) m1 m2 m3 (h3.nodup_iff.mpr R.pnd) (by omega)) fun f r l ⟨e1, e2⟩ => ?_
  subst e1 e2
  walk_at "wr"
  have hne : ∀ p ∈ xs.map (·.2), p ≠ [] := fun p hp => by
    obtain ⟨x, hx, rfl⟩ := List.mem_map.mp hp
    exact (m3 x hx).ne
  have e1 : sortT (xs.map (·.2)) = ps := by
    rw [sortT_uniq h3 fun p hp => (R.pok p hp).ne]
    exact R.psrt
  have e2 : sortS x1.2 = rs := by rw [sortS_uniq h1]; exact R.rsrt
  have e3 : sortS x2.2 = ls := by rw [sortS_uniq h2]; exact R.lsrt
  have d1 := dSorted_T (ps := xs.map (·.2)) (by rw [List.length_map]; omega) hne
  have d2 : dSorted [sS x1] = _ := dSorted_S (ss := x1.2) (by omega) x1.1
  have d3 : dSorted [sS x2] = _ := dSorted_S (ss := x2.2) (by omega) x2.1
  rw [e1] at d1
  rw [e2] at d2
  rw [e3] at d3
  refine ⟨_, _, rfl, d1, ?_⟩
  walk_at "wr"
  refine ⟨_, _, rfl, d2, ?_⟩
  walk_at "wr"
  refine ⟨_, _, rfl, d3, ?_⟩
  walk_at "wr"
  rfl
theorem check_book_w (rs ls : List Str) (ps : List (List Str)) : Runs F_check_book [.fz (bookD rs ls ps)] fun f r l => l = [] := by
  refine runs_ofN rfl ?_
  show wp m_check_book [.fz .old (bookD rs ls ps)] _
  unfold m_check_book
  walk_at "wr"
theorem up_zip : ∀ {s : List Str}, Up s → ∀ z ∈ s.zip (s.drop 1), z.1.cps.toList < z.2.cps.toList
  | [], _, z, h => by simp at h
  | [a], _, z, h => by simp at h
  | a :: b :: s, u, z, h => by
    have u' := List.pairwise_cons.mp u
    rw [List.drop_succ_cons, List.drop_zero, List.zip_cons_cons] at h
    rcases List.mem_cons.mp h with rfl | h
    · exact u'.1 b (by simp)
    · exact up_zip (s := b :: s) u'.2 z (by rw [List.drop_succ_cons, List.drop_zero]; exact h)
theorem are_roles_w {rs ls : List Str} {ps : List (List Str)} {x : Bool × List Str} (R : RawOk rs ls ps) (h1 : ∀ s ∈ x.2, s ∈ rs) (h2 : Up x.2) (h3 : x.2.length ≤ 3) :
    Runs F_are_roles [.fz (bookD rs ls ps), .fz (sS x)] fun f r l => f = .own ∧ r = .bl true ∧ l = [] := by
  obtain ⟨c, ss⟩ := x
  have hr : OkS rs := ok_of_voc fun s hs => pool_voc s (R.rsub s hs)
  refine runs_of rfl ?_
  show wp m_are_roles [.fz .old (bookD rs ls ps), .fz .old (sS (c, ss)), .und, .und] _
  unfold m_are_roles
  walk_at "wr"
  refine runs_eq (is_list_sq c _) ?_
  walk_at "wr"
  refine wp_allM (α := Str) ?_
  refine wp_seqI (wp_v (wp_var rfl ?_))
  refine ⟨_, _, rfl, _, _, _, rfl, items_sqS _ c ss, rfl, ss, _, fun s => decide (s ∈ rs), rfl, by show ss.length ≤ _; simp only at h3; omega, ?_, ?_⟩
  · intro s hs
    refine ⟨_, rfl, ?_⟩
    walk_at "wr"
    refine ⟨_, _, _, rfl, rfl, ?_⟩
    refine ⟨_, _, _, rfl, rfl, dIn_lS (voc_ok _ (pool_voc _ (R.rsub _ (h1 s hs)))) hr, ?_⟩
    walk_at "wr"
  · have e : (ss.all fun s => decide (s ∈ rs)) = true := List.all_eq_true.mpr fun s hs => decide_eq_true (h1 s hs)
    rw [e]
    walk_at "wr"
    refine wp_allM (α := Str × Str) ?_
    refine wp_zip (wp_v (wp_var rfl ?_))
    refine ⟨_, _, rfl, wp_v ?_⟩
    walk_at "wr"
    obtain ⟨f', e'⟩ := dSl_dropS (f := .old) (x := (c, ss)) (i := 1) (by omega)
    refine ⟨_, _, rfl, e', ?_⟩
    refine ⟨_, _, rfl, _, _, _, _, _, _, rfl, items_sqS _ c ss, rfl, items_sqS _ c _, rfl, ss.zip (ss.drop 1), _, fun z => decide (z.1.cps.toList < z.2.cps.toList), zipped_map _ _ _ _ _ _, ?_, ?_, ?_⟩
    · rw [List.length_zip]
      simp only at h3
      omega
    · rintro ⟨a, b⟩ hz
      refine ⟨_, rfl, ?_⟩
      walk_at "wr"
    · have e : ((ss.zip (ss.drop 1)).all fun z => decide (z.1.cps.toList < z.2.cps.toList)) = true := List.all_eq_true.mpr fun z hz => decide_eq_true (up_zip h2 z hz)
      rw [e]
      walk_at "wr"
theorem kids_S (ss : List Str) : kidsImm (lS ss) = true := immL_S ss
theorem kids_T (ps : List (List Str)) : kidsImm (lT ps) = true := immL_T ps
theorem dList_sS (x : Bool × List Str) : dList [sS x] = some (lS x.2) := by
  obtain ⟨b, ss⟩ := x
  cases b <;> rfl
theorem own_f {α : Type} {g : α → D} : ∀ l : List α, (l.map fun x => (Fl.own, g x)).all Fl.isOwn = true
  | [] => rfl
  | x :: l => by
    rw [List.map_cons, List.all_cons, own_f l, Bool.and_true]
    unfold Fl.isOwn
    rw [Bool.or_eq_true]
    exact .inr (by cases g x <;> rfl)
theorem checked_start_w {rs ls : List Str} {ps : List (List Str)} {b : Bool} {xs : List (Bool × List Str)} (R : RawOk rs ls ps) (S : StOk rs (xs.map (·.2))) :
    Runs F_checked_start [.fz (bookD rs ls ps), .fz (sq b (xs.map sS))] fun f r l => f = .own ∧ r = .lst ((xs.map (·.2)).map lS) ∧ l = [] := by
  have hn := S.n
  rw [List.length_map] at hn
  refine runs_of rfl ?_
  show wp m_checked_start [.fz .old (bookD rs ls ps), .fz .old (sq b (xs.map sS)), .und, .und, .und] _
  unfold m_checked_start
  have hit0 : itemsOf .old (sq b (xs.map sS)) = some (xs.map fun x => (Fl.old, sS x)) := by
    rw [items_sq, List.map_map]
    rfl
  walk_at "wr"
  refine runs_eq (is_list_sq b _) ?_
  walk_at "wr"
  refine wp_for (fun items pre σ => items = (xs.zipIdx.map fun x => (flNew .old, D.tup [.int x.2, sS x.1])) ∧ ∃ s2 s3, σ = [.fz .old (bookD rs ls ps), .fz .old (sq b (xs.map sS)), s2, s3, .und] ∧ freeS s2 ∧ freeS s3) ?_
  refine wp_enum (wp_v (wp_var rfl ?_))
  refine ⟨_, _, rfl, _, _, _, rfl, hit0, ⟨numbered_zip _ _ _ _, _, _, rfl, free_und, free_und⟩, ?_, ?_⟩
  · rintro pre fd post σ hit ⟨hits, s2, s3, rfl, hs2, hs3⟩
    have hg : ∃ x i, x ∈ xs ∧ fd = (flNew .old, D.tup [.int i, sS x]) := by
      have : fd ∈ (xs.zipIdx.map fun x => (flNew .old, D.tup [.int x.2, sS x.1])) := by rw [← hits, hit]; simp
      obtain ⟨⟨x, i⟩, hx, rfl⟩ := List.mem_map.mp this
      exact ⟨x, i, List.mem_of_getElem? (List.mk_mem_zipIdx_iff_getElem?.mp hx), rfl⟩
    obtain ⟨x, i, hx, rfl⟩ := hg
    have hm : x.2 ∈ xs.map (·.2) := List.mem_map.mpr ⟨x, hx, rfl⟩
    refine ⟨[.fz .old (bookD rs ls ps), .fz .old (sq b (xs.map sS)), .fz (flKid (flNew .old)) (.int i), .fz (flKid (flNew .old)) (sS x), .und], ?_, ?_⟩
    · show (putV 2 (.val _ _) _).bind _ = _
      rw [putF rfl hs2]
      show (putV 3 (.val _ _) _).bind _ = _
      rw [putF rfl hs3]
      rfl
    · walk_at "wr"
      refine Runs.imp (are_roles_w (x := x) R (S.sub _ hm) (S.up _ hm) (S.len _ hm)) fun f r l ⟨e1, e2, e3⟩ => ?_
      subst e1 e2 e3
      walk_at "wr"
      exact ⟨free_fz _ _, free_fz _ _⟩
  · rintro σ ⟨hits, s2, s3, rfl, hs2, hs3⟩
    walk_at "wr"
    refine wp_lcM (α := Bool × List Str) ?_
    refine wp_seqI (wp_v (wp_var rfl ?_))
    refine ⟨_, _, rfl, _, _, _, rfl, hit0, rfl, xs, _, fun x => (.own, lS x.2), rfl, by omega, ?_, ?_⟩
    · intro x hx
      refine ⟨_, rfl, ?_⟩
      walk_at "wr"
      refine ⟨_, _, rfl, dList_sS x, ?_⟩
      rw [kids_S]
      walk_at "wr"
    · rw [own_f]
      walk_at "wr"
      exact ⟨by rw [List.map_map]; rfl, rfl⟩
theorem vals_evs : ∀ l : List (Fl × D), vals (evs l) = some l
  | [] => rfl
  | p :: l => by
    show (vals (evs l)).map _ = _
    rw [vals_evs l]
    rfl
abbrev statesS (rs : List Str) : List Str := sortS ("known" :: rs)
theorem all_states_w {rs ls : List Str} {ps : List (List Str)} (R : RawOk rs ls ps) : Runs F_all_states [.fz (bookD rs ls ps)] fun f r l => f = .own ∧ r = lS (statesS rs) ∧ l = [] := by
  have hr6 := R.rlen
  refine runs_of rfl ?_
  show wp m_all_states [.fz .old (bookD rs ls ps)] _
  unfold m_all_states
  walk_at "wr"
  refine wp_star ?_
  walk_at "wr"
  refine ⟨_, _, _, rfl, rfl, ?_⟩
  walk_at "wr"
  refine ⟨_, _, .inl rfl, ?_⟩
  walk_at "wr"
  rw [List.append_nil]
  have e1 : ∀ (f : Fl) (p : Fl × D) (l : List D), vals (.val p.1 p.2 :: evs (l.map fun d => (f, d))) = some (p :: l.map fun d => (f, d)) := fun f p l => by
    show (vals (evs _)).map _ = _
    rw [vals_evs]
    rfl
  refine ⟨_, e1 _ (.own, .str "known") _, by simp; omega, ?_⟩
  walk_at "wr"
  have e2 : dSorted [.lst (List.map (fun x : Fl × D => x.2) ((Fl.own, D.str "known") :: (rs.map D.str).map fun d => (Fl.old, d)))] = some (lS (statesS rs)) := by
    rw [List.map_cons, List.map_map]
    rw [show ((fun x : Fl × D => x.2) ∘ fun d => (Fl.old, d)) = id from rfl, List.map_id]
    exact dSorted_S (ss := "known" :: rs) (by rw [List.length_cons]; omega) true
  refine ⟨_, _, rfl, e2, ?_⟩
  rw [kids_S]
  walk_at "wr"
theorem not_der1 : ∀ w ∈ oneS, (w == "derive") = false := by decide +kernel
theorem not_der2 : ∀ w ∈ twoS, (w == "derive") = false := by decide +kernel
/-- the moves -/
def derP (p : List Str) : Option (List Str) := if (p.headD "" == "derive") = true then some (p.drop 1) else none
abbrev movesS (ls : List Str) (ps : List (List Str)) : List (List Str) := sortT (ps.filterMap derP ++ ls.map fun l => (["known", l, "known"] : List Str))
theorem der_ne {rs ls : List Str} {ps : List (List Str)} (h : ∀ p ∈ ps, POk rs ls p) : ∀ q ∈ ps.filterMap derP ++ ls.map (fun l => (["known", l, "known"] : List Str)), q ≠ [] := by
  intro q hq
  rcases List.mem_append.mp hq with hq | hq
  · obtain ⟨p, hp, e⟩ := List.mem_filterMap.mp hq
    unfold derP at e
    split at e
    · injection e with e
      rcases h p hp with ⟨w, r, rfl, q1, q2⟩ | ⟨w, r, s, rfl, q1, q2, q3⟩ | ⟨r, l, s, rfl, q1, q2, q3⟩ <;> (rw [← e]; simp)
    · cases e
  · obtain ⟨l, -, rfl⟩ := List.mem_map.mp hq
    simp
theorem all_moves_w {rs ls : List Str} {ps : List (List Str)} (R : RawOk rs ls ps) : Runs F_all_moves [.fz (bookD rs ls ps)] fun f r l => f = .own ∧ r = lT (movesS ls ps) ∧ l = [] := by
  have hp30 := R.plen
  have hl3 := R.llen
  refine runs_of rfl ?_
  show wp m_all_moves [.fz .old (bookD rs ls ps), .und, .und, .und] _
  unfold m_all_moves
  walk_at "wr"
  refine wp_lcF (α := List Str) ?_
  walk_at "wr"
  refine ⟨_, _, _, rfl, rfl, ?_⟩
  refine ⟨_, _, rfl, _, _, _, rfl, items_lT _ ps, rfl, ps, _, fun p => (derP p).map fun q => (.own, tS q), rfl, by omega, ?_, ?_⟩
  · intro p hp
    refine ⟨_, rfl, ?_⟩
    have hk : PyData.strOk "derive" = true := by kernel_rfl
    rcases R.pok p hp with ⟨w, r, rfl, q1, q2⟩ | ⟨w, r, s, rfl, q1, q2, q3⟩ | ⟨r, l, s, rfl, q1, q2, q3⟩
    · have hw : (w == "derive") = false := not_der1 w q1
      walk_at "wr"
      refine ⟨_, _, _, rfl, rfl, dEq_str (voc_ok _ (one_voc _ q1)) hk, ?_⟩
      rw [hw]
      walk_at "wr"
      refine ⟨?_, rfl⟩
      unfold derP
      rw [if_neg (by show ¬ (w == "derive") = true; rw [hw]; decide)]
      rfl
    · have hw : (w == "derive") = false := not_der2 w q1
      walk_at "wr"
      refine ⟨_, _, _, rfl, rfl, dEq_str (voc_ok _ (two_voc _ q1)) hk, ?_⟩
      rw [hw]
      walk_at "wr"
      refine ⟨?_, rfl⟩
      unfold derP
      rw [if_neg (by show ¬ (w == "derive") = true; rw [hw]; decide)]
      rfl
    · walk_at "wr"
      refine ⟨_, _, _, rfl, rfl, dEq_str hk hk, ?_⟩
      rw [show (("derive" : Str) == "derive") = true from beq_self_eq_true _]
      walk_at "wr"
  · have e1 : ps.filterMap (fun p => (derP p).map fun q => (Fl.own, tS q)) = (ps.filterMap derP).map fun q => (Fl.own, tS q) := by rw [List.map_filterMap]
    rw [e1, own_f, List.map_map]
    walk_at "wr"
    refine wp_lcM (α := Str) ?_
    walk_at "wr"
    refine ⟨_, _, _, rfl, rfl, ?_⟩
    refine ⟨_, _, rfl, _, _, _, rfl, items_lS _ ls, rfl, ls, _, fun l => (.own, tS ["known", l, "known"]), rfl, by omega, ?_, ?_⟩
    · intro l hl
      refine ⟨_, rfl, ?_⟩
      walk_at "wr"
    · rw [own_f]
      have hlen : (ps.filterMap derP).length ≤ 30 := Nat.le_trans (List.length_filterMap_le _ _) hp30
      walk_at "wr"
      refine ⟨_, _, _, _, _, _, _, _, _, rfl, rfl, kExt_ok (by rw [List.length_map, List.length_map]; omega), ?_⟩
      walk_at "wr"
      have e3 : dSorted [.lst ((ps.filterMap derP).map ((fun x : Fl × D => x.2) ∘ fun q => (Fl.own, tS q)) ++ ls.map fun l => tS ["known", l, "known"])] = some (lT (movesS ls ps)) := by
        have := dSorted_T (ps := ps.filterMap derP ++ ls.map fun l => (["known", l, "known"] : List Str)) (by rw [List.length_append, List.length_map]; omega) (der_ne R.pok)
        rw [List.map_append, List.map_map] at this
        exact this
      refine ⟨_, _, rfl, e3, ?_⟩
      rw [kids_T]
      walk_at "wr"
/-! ### roots, asked keys -/
def intB (n : Nat) : D → Bool
  | .int i => decide (0 ≤ i) && decide (i < n)
  | _ => false
def rootB (n : Nat) (ps : List (List Str)) : D → Bool
  | .str s => s == "known" || decide ((["make", s] : List Str) ∈ ps)
  | d => intB n d
def seqOf : D → Option (List D)
  | .lst ds => some ds
  | .tup ds => some ds
  | _ => none
def labB (ls : List Str) : D → Bool
  | .str s => decide (s ∈ ls)
  | _ => false
def wordB (ls : List Str) (c : D) : Bool := match seqOf c with
  | some ws => ws.all (labB ls)
  | none => false
def askB (n : Nat) (ps : List (List Str)) (ls : List Str) (d : D) : Bool := match seqOf d with
  | some [a, c] => rootB n ps a && wordB ls c
  | _ => false
def numB : D → Bool
  | .int i => decide (0 ≤ i)
  | _ => false
theorem is_number_eq {d : D} (h : pl d = true) : F_is_number [.fz d] = .ok ((.own, .bl (numB d)), []) := by
  cases d <;> first | (cases h; done) | skip
  all_goals first | rfl | skip
  · rename_i c fs
    obtain rfl : c = "Book" := of_decide_eq_true h
    rfl
structure OkA (d : D) : Prop where
  p : pl d = true
  s : ∀ s, d = .str s → s ∈ voc
theorem gd_okA {dc : Bool} {m k : Nat} {d : D} (h : gd dc m k d = true) : OkA d := by
  cases d with
  | str s => exact ⟨rfl, fun t e => by
      injection e with e
      rw [← e]
      have : voc.contains s = true := by cases k <;> exact h
      exact List.contains_iff_mem.mp this⟩
  | non => exact ⟨rfl, fun s e => by cases e⟩
  | bl _ => exact ⟨rfl, fun s e => by cases e⟩
  | int _ => exact ⟨rfl, fun s e => by cases e⟩
  | tup _ => exact ⟨rfl, fun s e => by cases e⟩
  | lst _ => exact ⟨rfl, fun s e => by cases e⟩
  | dic _ => exact ⟨rfl, fun s e => by cases e⟩
  | dit _ => cases k <;> cases h
  | ins _ _ => cases k <;> cases h
  | ty _ => cases k <;> cases h
  | cls _ => cases k <;> cases h
  | scr _ => cases k <;> cases h
theorem gd_kids {dc : Bool} {m k : Nat} {b : Bool} {ds : List D} (h : gd dc m k (sq b ds) = true) : ∃ k', k = k' + 1 ∧ ds.length ≤ m ∧ ∀ d ∈ ds, gd dc m k' d = true := by
  cases k with
  | zero => cases b <;> cases h
  | succ k =>
    refine ⟨k, rfl, ?_⟩
    have h : (decide (ds.length ≤ m) && ds.all (gd dc m k)) = true := by cases b <;> exact h
    rw [Bool.and_eq_true, decide_eq_true_eq] at h
    exact ⟨h.1, List.all_eq_true.mp h.2⟩
theorem seq_cases (d : D) : (∃ b ds, d = sq b ds ∧ seqOf d = some ds) ∨ (isSq d = false ∧ seqOf d = none) := by
  cases d <;> first | exact .inl ⟨true, _, rfl, rfl⟩ | exact .inl ⟨false, _, rfl, rfl⟩ | exact .inr ⟨rfl, rfl⟩
theorem make_ok {s : Str} (h : s ∈ voc) : OkS ["make", s] := ok_of_voc fun t ht => by
  simp only [List.mem_cons, List.not_mem_nil, or_false] at ht
  rcases ht with rfl | rfl
  · decide +kernel
  · exact h
theorem is_root_w {rs ls : List Str} {ps : List (List Str)} {st : List (List Str)} {d : D} (R : RawOk rs ls ps) (h : OkA d) :
    Runs F_is_root [.fz (bookD rs ls ps), .fz (.lst (st.map lS)), .fz d] fun f r l => f = .own ∧ r = .bl (rootB st.length ps d) ∧ l = [] := by
  have hot : OkT ps := fun p hp => (R.pok p hp).ok R.rsub R.lsub
  refine runs_of rfl ?_
  show wp m_is_root [.fz .old (bookD rs ls ps), .fz .old (.lst (st.map lS)), .fz .old d] _
  unfold m_is_root
  have fin : ∀ {Q : Fw → List Sv → Prop}, Q (.ret .own (.bl (intB st.length d))) [.fz .old (bookD rs ls ps), .fz .old (.lst (st.map lS)), .fz .old d] → wp (sRet (eAndV (eCall F_is_number (aCons (eV (eVar 2)) aNil)) (eOp dLt (eVar 2) (eCB dLen (aCons (eVar 1) aNil))))) [.fz .old (bookD rs ls ps), .fz .old (.lst (st.map lS)), .fz .old d] Q := by
    intro Q q
    walk_at "wr"
    refine runs_eq (is_number_eq h.p) ?_
    refine ⟨rfl, _, rfl, fun hb => ?_, fun hb => ?_⟩
    · cases d <;> first | (cases hb; done) | skip
      rename_i i
      walk_at "wr"
      have e1 : intB st.length (.int i) = decide (i < ((st.map lS).length : Int)) := by
        show (decide (0 ≤ i) && decide (i < (st.length : Int))) = _
        rw [show decide (0 ≤ i) = true from hb, Bool.true_and, List.length_map]
      rw [e1] at q
      exact q
    · have e1 : intB st.length d = false := by
        cases d <;> first | rfl | skip
        rename_i i
        show (decide (0 ≤ i) && decide (i < (st.length : Int))) = _
        rw [show decide (0 ≤ i) = false from hb, Bool.false_and]
      rw [e1] at q
      walk_at "wr"
      exact q
  have oth : isStr d = false → rootB st.length ps d = intB st.length d := fun z => by cases d <;> first | rfl | cases z
  have oth2 : isStr d = false → wp (sSeq (sIf (eT (eIsT ["Book"] ["str"] (eVar 2))) (sRet (eOrV (eOp dEq (eVar 2) (eC (.str "known"))) (eOp dIn (eTup (aCons (eC (.str "make")) (aCons (eV (eVar 2)) aNil))) (eFld "Book" "own_permits" (eVar 0))))) sSkip)
      (sRet (eAndV (eCall F_is_number (aCons (eV (eVar 2)) aNil)) (eOp dLt (eVar 2) (eCB dLen (aCons (eVar 1) aNil)))))) [.fz .old (bookD rs ls ps), .fz .old (.lst (st.map lS)), .fz .old d] fun w σ => ∃ f d_1 l, w = .ret f d_1 ∧ outs [.fz (bookD rs ls ps), .fz (.lst (st.map lS)), .fz d] σ = some l ∧ f = .own ∧ d_1 = .bl (rootB st.length ps d) ∧ l = [] := fun z => by
    have hT := is_str_eq h.p
    rw [z] at hT
    rw [oth z]
    refine wp_seq (wp_sif (wp_test (wp_un (wp_var rfl ⟨_, _, rfl, hT, ?_⟩))))
    repeat (first | exact fin ⟨_, _, _, rfl, rfl, rfl, rfl, rfl⟩ | (refine fin ?_; exact ⟨_, _, _, rfl, rfl, rfl, rfl, rfl⟩) | walk_at "wu")
  cases hz : isStr d with
  | false => exact oth2 hz
  | true =>
    cases d <;> first | (cases hz; done) | skip
    rename_i s
    have hs := h.s s rfl
    walk_at "wr"
    refine ⟨_, _, _, rfl, rfl, dEq_str (voc_ok s hs) known_ok, _, rfl, fun hb => ?_, fun hb => ?_⟩
    · walk_at "wr"
      refine ⟨_, _, _, rfl, rfl, ?_⟩
      refine ⟨_, _, _, rfl, rfl, dIn_tS (p := ["make", s]) (make_ok hs) hot, ?_⟩
      have e : rootB st.length ps (.str s) = decide ((["make", s] : List Str) ∈ ps) := by
        show (s == "known" || decide ((["make", s] : List Str) ∈ ps)) = _
        rw [hb, Bool.false_or]
      rw [e]
      walk_at "wr"
    · have e : rootB st.length ps (.str s) = true := by
        show (s == "known" || decide ((["make", s] : List Str) ∈ ps)) = _
        rw [hb, Bool.true_or]
      rw [e]
      walk_at "wr"
theorem askB_sq {n : Nat} {ps : List (List Str)} {ls : List Str} {b : Bool} {a c : D} : askB n ps ls (sq b [a, c]) = (rootB n ps a && wordB ls c) := by cases b <;> rfl
theorem askB_len {n : Nat} {ps : List (List Str)} {ls : List Str} {b : Bool} {ds : List D} (h : ds.length ≠ 2) : askB n ps ls (sq b ds) = false := by
  have e : ∀ ds : List D, ds.length ≠ 2 → (match some ds with | some [a, c] => rootB n ps a && wordB ls c | _ => false) = false := fun ds h => by
    match ds, h with
    | [], _ => rfl
    | [_], _ => rfl
    | [_, _], h => exact absurd rfl h
    | _ :: _ :: _ :: _, _ => rfl
  cases b <;> exact e ds h
theorem dLen_sq (b : Bool) (ds : List D) : dLen [sq b ds] = some (.int ds.length) := by cases b <;> rfl
theorem dTupOf_sq (f : Fl) (b : Bool) (ds : List D) : ∃ f', dTupOf [(f, sq b ds)] = some (f', .tup ds) := by cases b <;> exact ⟨_, rfl⟩
theorem as_asked_w {rs ls : List Str} {ps : List (List Str)} {st : List (List Str)} {m k : Nat} {d : D} (R : RawOk rs ls ps) (hm : m ≤ 100) (h : gd true m k d = true) :
    Runs F_as_asked [.fz (bookD rs ls ps), .fz (.lst (st.map lS)), .fz d] fun f r l => isNonD r = !askB st.length ps ls d ∧ l = [] := by
  have hls : OkS ls := ok_of_voc fun s hs => lab_voc s (R.lsub s hs)
  refine runs_of rfl ?_
  show wp m_as_asked [.fz .old (bookD rs ls ps), .fz .old (.lst (st.map lS)), .fz .old d, .und] _
  unfold m_as_asked
  rcases seq_cases d with ⟨b, ds, rfl, hsq⟩ | ⟨hsq, hso⟩
  · obtain ⟨k, rfl, hlen, hkids⟩ := gd_kids h
    walk_at "wr"
    refine runs_eq (is_list_sq b _) ?_
    walk_at "wr"
    refine ⟨_, _, rfl, dLen_sq b ds, ?_⟩
    walk_at "wr"
    refine ⟨_, _, _, rfl, rfl, dNe_int _ _, _, rfl, fun hb => ?_, fun hb => ?_⟩
    · have hl2 : ds.length = 2 := by
        simp at hb
        omega
      obtain ⟨a, c, rfl⟩ : ∃ a c, ds = [a, c] := by
        match ds, hl2 with
        | [a, c], _ => exact ⟨a, c, rfl⟩
      have ha := hkids a (by simp)
      have hc := hkids c (by simp)
      rw [askB_sq]
      have i0 : ∀ f : Fl, dIx (f, sq b [a, c]) (.own, .int 0) = some (flKid f, a) := fun f => by cases b <;> rfl
      have i1 : ∀ f : Fl, dIx (f, sq b [a, c]) (.own, .int 1) = some (flKid f, c) := fun f => by cases b <;> rfl
      walk_at "wr"
      refine ⟨_, _, _, rfl, rfl, i0 _, ?_⟩
      walk_at "wr"
      refine Runs.imp (is_root_w (st := st) R (gd_okA ha)) fun f r l ⟨e1, e2, e3⟩ => ?_
      subst e1 e2 e3
      refine ⟨rfl, _, rfl, ?_⟩
      refine ⟨fun hr => ?_, fun hr => ?_⟩
      · rw [Bool.not_eq_false'] at hr
        rw [hr, Bool.true_and]
        walk_at "wr"
        refine ⟨_, _, _, rfl, rfl, i1 _, ?_⟩
        walk_at "wr"
        refine runs_eq (is_list_eq (gd_okA hc).p) ?_
        refine ⟨rfl, _, rfl, ?_⟩
        refine ⟨fun hq => ?_, fun hq => ?_⟩
        · have e : wordB ls c = false := by
            rcases seq_cases c with ⟨b2, ws, rfl, h1⟩ | ⟨h1, h2⟩
            · rw [(isSq_sq b2 ws).1] at hq
              cases hq
            · unfold wordB
              rw [h2]
          rw [e]
          walk_at "wr"
        · rcases seq_cases c with ⟨b2, ws, rfl, h1⟩ | ⟨h1, h2⟩
          · obtain ⟨k2, rfl, hlen2, hkids2⟩ := gd_kids hc
            have ew : wordB ls (sq b2 ws) = ws.all (labB ls) := by
              unfold wordB
              rw [h1]
            rw [ew]
            walk_at "wr"
            refine wp_allM (α := D) ?_
            refine wp_seqI ?_
            walk_at "wr"
            refine ⟨_, _, _, rfl, rfl, i1 _, ?_⟩
            refine ⟨_, _, rfl, _, _, _, rfl, items_sq _ b2 ws, rfl, ws, _, labB ls, rfl, by omega, ?_, ?_⟩
            · intro x hx
              have hxa := gd_okA (hkids2 x hx)
              have hT := is_str_eq hxa.p
              refine ⟨_, rfl, ?_⟩
              refine wp_v (wp_andV (wp_un (wp_var rfl ⟨_, _, rfl, hT, ?_⟩)))
              refine ⟨_, rfl, fun hs => ?_, fun hs => ?_⟩
              · cases x <;> first | (cases hs; done) | skip
                rename_i s
                walk_at "wr"
                refine ⟨_, _, _, rfl, rfl, ?_⟩
                refine ⟨_, _, _, rfl, rfl, dIn_lS (voc_ok _ (hxa.s s rfl)) hls, ?_⟩
                walk_at "wr"
              · have e : labB ls x = false := by cases x <;> first | rfl | cases hs
                rw [e]
                walk_at "wr"
            · walk_at "wr"
              refine ⟨fun hf => ?_, fun hf => ?_⟩
              · rw [hf]
                walk_at "wr"
              · rw [hf]
                obtain ⟨f', e'⟩ := dTupOf_sq (flKid .old) b2 ws
                walk_at "wr"
                refine ⟨_, _, _, rfl, rfl, i0 _, ?_⟩
                walk_at "wr"
                refine ⟨_, _, _, rfl, rfl, i1 _, ?_⟩
                walk_at "wr"
                refine ⟨_, _, rfl, e', ?_⟩
                walk_at "wr"
          · rw [h1] at hq
            cases hq
      · rw [Bool.not_eq_true'] at hr
        rw [hr, Bool.false_and]
        walk_at "wr"
    · have hl2 : ds.length ≠ 2 := by
        simp at hb
        omega
      rw [askB_len hl2]
      walk_at "wr"
  · have e : askB st.length ps ls d = false := by
      unfold askB
      rw [hso]
    walk_at "wr"
    refine runs_eq (is_list_eq (gd_okA h).p) ?_
    rw [hsq, e]
    walk_at "wr"
theorem as_asked_book {rs ls : List Str} {ps : List (List Str)} {st : List (List Str)} : Runs F_as_asked [.fz (bookD rs ls ps), .fz (.lst (st.map lS)), .fz (bookD rs ls ps)] fun f r l => isNonD r = true ∧ l = [] := by
  refine runs_of rfl ?_
  show wp m_as_asked [.fz .old (bookD rs ls ps), .fz .old (.lst (st.map lS)), .fz .old (bookD rs ls ps), .und] _
  unfold m_as_asked
  walk_at "wr"
  refine runs_eq (is_list_eq (d := bookD rs ls ps) (show decide (("Book" : Str) = "Book") = true from decide_eq_true rfl)) ?_
  rw [show isSq (bookD rs ls ps) = false from rfl]
  walk_at "wr"
theorem is_asked_w {rs ls : List Str} {ps : List (List Str)} {b : Bool} {xs : List (Bool × List Str)} {m k : Nat} {d : D} (R : RawOk rs ls ps) (S : StOk rs (xs.map (·.2))) (hm : m ≤ 100) (h : gd true m k d = true) :
    Runs F_is_asked [.fz (bookD rs ls ps), .fz (sq b (xs.map sS)), .fz d] fun f r l => f = .own ∧ r = .bl (askB xs.length ps ls d) ∧ l = [] := by
  refine runs_of rfl ?_
  show wp m_is_asked [.fz .old (bookD rs ls ps), .fz .old (sq b (xs.map sS)), .fz .old d] _
  unfold m_is_asked
  walk_at "wr"
  refine Runs.imp (check_book_w rs ls ps) fun f r l e => ?_
  subst e
  walk_at "wr"
  refine Runs.imp (checked_start_w (b := b) R S) fun f r l ⟨e1, e2, e3⟩ => ?_
  subst e1 e2 e3
  walk_at "wr"
  refine Runs.imp (as_asked_w (st := xs.map (·.2)) R hm h) fun f r l ⟨e1, e2⟩ => ?_
  subst e2
  walk_at "wr"
  rw [List.length_map] at e1
  exact ⟨by rw [e1, Bool.not_not], rfl⟩
theorem is_asked_book {rs ls : List Str} {ps : List (List Str)} {st : List (List Str)} (R : RawOk rs ls ps) (S : StOk rs st) :
    Runs F_is_asked [.fz (bookD rs ls ps), .fz (.lst (st.map lS)), .fz (bookD rs ls ps)] fun f r l => f = .own ∧ r = .bl false ∧ l = [] := by
  have e0 : D.lst (st.map lS) = sq true ((st.map fun s => (true, s)).map sS) := by
    rw [List.map_map]
    rfl
  have e1 : (st.map fun s => (true, s)).map (fun x : Bool × List Str => x.2) = st := by
    rw [List.map_map]
    exact List.map_id _
  refine runs_of rfl ?_
  show wp m_is_asked [.fz .old (bookD rs ls ps), .fz .old (.lst (st.map lS)), .fz .old (bookD rs ls ps)] _
  unfold m_is_asked
  walk_at "wr"
  refine Runs.imp (check_book_w rs ls ps) fun f r l e => ?_
  subst e
  walk_at "wr"
  rw [e0]
  refine Runs.imp (checked_start_w (b := true) (xs := st.map fun s => (true, s)) R (by rw [e1]; exact S)) fun f r l ⟨e1, e2, e3⟩ => ?_
  subst e1 e2 e3
  walk_at "wr"
  refine Runs.imp as_asked_book fun f r l ⟨e1, e2⟩ => ?_
  subst e2
  walk_at "wr"
  exact ⟨by rw [e1]; rfl, rfl⟩
theorem states_sub {rs ls : List Str} {ps : List (List Str)} (R : RawOk rs ls ps) : ∀ s ∈ statesS rs, s ∈ voc := by
  intro s hs
  rcases List.mem_cons.mp (mem_sortS.mp hs) with rfl | hs
  · decide +kernel
  · exact pool_voc _ (R.rsub _ hs)
theorem states_len {rs ls : List Str} {ps : List (List Str)} (R : RawOk rs ls ps) : (statesS rs).length ≤ 7 := by
  have := R.rlen
  rw [sortS_len, List.length_cons]
  omega
/-- the roots that are states -/
abbrev rootS (rs : List Str) (ps : List (List Str)) : List Str := (statesS rs).filter fun s => rootB 0 ps (.str s)
abbrev rootsD (rs : List Str) (ps : List (List Str)) (n : Nat) : List D := (List.range n).map (fun (k : Nat) => D.int (k : Int)) ++ (rootS rs ps).map .str
theorem filterMap_filter {α β : Type} (p : α → Bool) (f : α → β) : ∀ l : List α, l.filterMap (fun x => if p x = true then some (f x) else none) = (l.filter p).map f
  | [] => rfl
  | x :: l => by
    rw [List.filterMap_cons, List.filter_cons]
    cases h : p x with
    | true => simp [filterMap_filter p f l]
    | false => simp [filterMap_filter p f l]
theorem all_roots_w {rs ls : List Str} {ps : List (List Str)} {st : List (List Str)} (R : RawOk rs ls ps) (hn : st.length ≤ 4) :
    Runs F_all_roots [.fz (bookD rs ls ps), .fz (.lst (st.map lS))] fun f r l => f = .own ∧ r = .lst (rootsD rs ps st.length) ∧ l = [] := by
  refine runs_of rfl ?_
  show wp m_all_roots [.fz .old (bookD rs ls ps), .fz .old (.lst (st.map lS)), .und] _
  unfold m_all_roots
  walk_at "wr"
  refine wp_starR ?_
  walk_at "wr"
  refine ⟨by rw [List.length_map]; omega, ?_⟩
  refine wp_star ?_
  walk_at "wr"
  refine wp_lcF (α := Str) ?_
  walk_at "wr"
  refine Runs.imp (all_states_w R) fun f r l ⟨e1, e2, e3⟩ => ?_
  subst e1 e2 e3
  walk_at "wr"
  refine ⟨statesS rs, fun s => (.own, .str s), fun s => if rootB 0 ps (.str s) = true then some (.own, .str s) else none, by rw [List.map_map]; rfl, by have := states_len R; omega, ?_, ?_⟩
  · intro s hs
    refine ⟨_, rfl, ?_⟩
    walk_at "wr"
    refine Runs.imp (is_root_w (st := st) R ⟨rfl, fun t e => by injection e with e; rw [← e]; exact states_sub R s hs⟩) fun f r l ⟨e1, e2, e3⟩ => ?_
    subst e1 e2 e3
    refine ⟨rfl, _, rfl, ?_⟩
    refine ⟨fun hr => ?_, fun hr => ?_⟩
    · walk_at "wr"
      refine ⟨?_, rfl⟩
      exact if_pos hr
    · refine ⟨?_, rfl⟩
      exact if_neg (by rw [show rootB 0 ps (.str s) = rootB st.length ps (.str s) from rfl, hr]; decide)
  · rw [filterMap_filter]
    rw [own_f]
    walk_at "wr"
    refine ⟨_, _, .inl rfl, ?_⟩
    walk_at "wr"
    have ev : ∀ (l : List Nat) (m : List D), vals (l.map (fun (k : Nat) => Ev.val Fl.own (D.int (k : Int))) ++ (evs (m.map fun d => (Fl.own, d)) ++ [])) = some ((l.map fun (k : Nat) => (Fl.own, D.int (k : Int))) ++ m.map fun d => (Fl.own, d)) := fun l m => by
      rw [List.append_nil]
      have : (l.map (fun (k : Nat) => Ev.val Fl.own (D.int (k : Int))) ++ evs (m.map fun d => (Fl.own, d))) = evs ((l.map fun (k : Nat) => (Fl.own, D.int (k : Int))) ++ m.map fun d => (Fl.own, d)) := by
        unfold evs
        rw [List.map_append, List.map_map, List.map_map]
        rfl
      rw [this, vals_evs]
    refine ⟨_, ev _ _, ?_, ?_⟩
    · have h1 : (rootS rs ps).length ≤ 7 := Nat.le_trans (List.length_filter_le _ _) (states_len R)
      simp only [List.length_append, List.length_map, List.length_range]
      show _ + (rootS rs ps).length ≤ _
      omega
    · have e1 : ∀ (l : List Nat) (m : List D), ((l.map fun (k : Nat) => (Fl.own, D.int (k : Int))) ++ m.map fun d => (Fl.own, d)).all Fl.isOwn = true := fun l m => by
        rw [List.all_append, own_f, Bool.true_and]
        exact own_f (g := id) m
      rw [e1]
      walk_at "wr"
      refine ⟨?_, rfl⟩
      simp only [List.map_append, List.map_map, List.length_map, Int.toNat_natCast]
      rfl
/-- the pairs of a root and its first states -/
abbrev rootPairs (rs : List Str) (ps : List (List Str)) (st : List (List Str)) : List (D × D) := st.zipIdx.map (fun x => (.int (x.2 : Int), lS x.1)) ++ (rootS rs ps).map fun s => (.str s, .lst [.str s])
theorem first_states_of_w {st : List (List Str)} {a c : D} (h : (∃ s, a = .str s ∧ c = .lst [.str s]) ∨ ∃ i s, a = .int ((i : Nat) : Int) ∧ st[i]? = some s ∧ c = lS s) :
    Runs F_first_states_of [.fz (.lst (st.map lS)), .fz a] fun f r l => f = .own ∧ r = c ∧ l = [] := by
  refine runs_of rfl ?_
  show wp m_first_states_of [.fz .old (.lst (st.map lS)), .fz .old a] _
  unfold m_first_states_of
  rcases h with ⟨s, rfl, rfl⟩ | ⟨i, s, rfl, hs, rfl⟩
  · walk_at "wr"
  · walk_at "wr"
    have e : ∀ f g : Fl, dIx (f, .lst (st.map lS)) (g, .int (i : Int)) = some (flKid f, lS s) := fun f g => dIx_sq (b := true) (ds := st.map lS) (i := (i : Int)) (by omega) (by rw [Int.toNat_natCast, List.getElem?_map, hs]; rfl)
    refine ⟨_, _, _, rfl, rfl, e _ _, ?_⟩
    walk_at "wr"
    refine ⟨_, _, _, rfl, rfl, ?_, rfl, rfl⟩
    show flO (kidsImm (lS s)) = _
    rw [kids_S]
    rfl
theorem checked_root_w {rs ls : List Str} {ps : List (List Str)} {st : List (List Str)} {d : D} (R : RawOk rs ls ps) (h : OkA d) (hr : rootB st.length ps d = true) :
    Runs F_checked_root [.fz (bookD rs ls ps), .fz (.lst (st.map lS)), .fz d] fun f r l => r = d ∧ l = [] := by
  refine runs_of rfl ?_
  show wp m_checked_root [.fz .old (bookD rs ls ps), .fz .old (.lst (st.map lS)), .fz .old d] _
  unfold m_checked_root
  walk_at "wr"
  refine Runs.imp (is_root_w (st := st) R h) fun f r l ⟨e1, e2, e3⟩ => ?_
  subst e1 e2 e3
  rw [hr]
  walk_at "wr"
theorem states_of_w {rs ls : List Str} {ps : List (List Str)} (R : RawOk rs ls ps) : Runs F_states_of [.fz (bookD rs ls ps)] fun f r l => f = .own ∧ r = lS (statesS rs) ∧ l = [] := by
  refine runs_of rfl ?_
  show wp m_states_of [.fz .old (bookD rs ls ps)] _
  unfold m_states_of
  walk_at "wr"
  refine Runs.imp (check_book_w rs ls ps) fun f r l e => ?_
  subst e
  walk_at "wr"
  refine Runs.imp (all_states_w R) fun f r l ⟨e1, e2, e3⟩ => ?_
  subst e1 e2 e3
  walk_at "wr"
theorem moves_of_w {rs ls : List Str} {ps : List (List Str)} (R : RawOk rs ls ps) : Runs F_moves_of [.fz (bookD rs ls ps)] fun f r l => f = .own ∧ r = lT (movesS ls ps) ∧ l = [] := by
  refine runs_of rfl ?_
  show wp m_moves_of [.fz .old (bookD rs ls ps)] _
  unfold m_moves_of
  walk_at "wr"
  refine Runs.imp (check_book_w rs ls ps) fun f r l e => ?_
  subst e
  walk_at "wr"
  refine Runs.imp (all_moves_w R) fun f r l ⟨e1, e2, e3⟩ => ?_
  subst e1 e2 e3
  walk_at "wr"
theorem roots_of_w {rs ls : List Str} {ps : List (List Str)} {b : Bool} {xs : List (Bool × List Str)} (R : RawOk rs ls ps) (S : StOk rs (xs.map (·.2))) :
    Runs F_roots_of [.fz (bookD rs ls ps), .fz (sq b (xs.map sS))] fun f r l => f = .own ∧ r = .lst (rootsD rs ps xs.length) ∧ l = [] := by
  refine runs_of rfl ?_
  show wp m_roots_of [.fz .old (bookD rs ls ps), .fz .old (sq b (xs.map sS))] _
  unfold m_roots_of
  walk_at "wr"
  refine Runs.imp (check_book_w rs ls ps) fun f r l e => ?_
  subst e
  walk_at "wr"
  refine Runs.imp (checked_start_w (b := b) R S) fun f r l ⟨e1, e2, e3⟩ => ?_
  subst e1 e2 e3
  walk_at "wr"
  refine Runs.imp (all_roots_w (st := xs.map (·.2)) R S.n) fun f r l ⟨e1, e2, e3⟩ => ?_
  subst e1 e2 e3
  walk_at "wr"
  rw [List.length_map]
  exact ⟨rfl, rfl⟩
theorem first_states_w {rs ls : List Str} {ps : List (List Str)} {b : Bool} {xs : List (Bool × List Str)} {a c : D} (R : RawOk rs ls ps) (S : StOk rs (xs.map (·.2))) (h : (a, c) ∈ rootPairs rs ps (xs.map (·.2))) :
    Runs F_first_states [.fz (bookD rs ls ps), .fz (sq b (xs.map sS)), .fz a] fun f r l => f = .own ∧ r = c ∧ l = [] := by
  have h2 : OkA a ∧ rootB (xs.map (·.2)).length ps a = true ∧ ((∃ s, a = .str s ∧ c = .lst [.str s]) ∨ ∃ i s, a = .int ((i : Nat) : Int) ∧ (xs.map (·.2))[i]? = some s ∧ c = lS s) := by
    rcases List.mem_append.mp h with h | h
    · obtain ⟨⟨s, i⟩, hx, e⟩ := List.mem_map.mp h
      injection e with e1 e2
      have hx := List.mk_mem_zipIdx_iff_getElem?.mp hx
      have hi := (List.getElem?_eq_some_iff.mp hx).1
      refine ⟨⟨by rw [← e1]; rfl, fun s e => by rw [← e1] at e; cases e⟩, ?_, .inr ⟨i, s, e1.symm, hx, e2.symm⟩⟩
      rw [← e1]
      show (decide ((0 : Int) ≤ (i : Int)) && decide ((i : Int) < ((xs.map (·.2)).length : Int))) = true
      rw [decide_eq_true (by omega), decide_eq_true (by omega)]
      rfl
    · obtain ⟨s, hs, e⟩ := List.mem_map.mp h
      injection e with e1 e2
      have hs := List.mem_filter.mp hs
      refine ⟨⟨by rw [← e1]; rfl, fun t e => by rw [← e1] at e; injection e with e; rw [← e]; exact states_sub R s hs.1⟩, ?_, .inl ⟨s, e1.symm, e2.symm⟩⟩
      rw [← e1]
      exact hs.2
  obtain ⟨q1, q2, q3⟩ := h2
  refine runs_of rfl ?_
  show wp m_first_states [.fz .old (bookD rs ls ps), .fz .old (sq b (xs.map sS)), .fz .old a, .und] _
  unfold m_first_states
  walk_at "wr"
  refine Runs.imp (check_book_w rs ls ps) fun f r l e => ?_
  subst e
  walk_at "wr"
  refine Runs.imp (checked_start_w (b := b) R S) fun f r l ⟨e1, e2, e3⟩ => ?_
  subst e1 e2 e3
  walk_at "wr"
  refine Runs.imp (checked_root_w (st := xs.map (·.2)) R q1 q2) fun f r l ⟨e1, e2⟩ => ?_
  subst e1 e2
  walk_at "wr"
  refine Runs.imp (first_states_of_w q3) fun f r l ⟨e1, e2, e3⟩ => ?_
  subst e1 e2 e3
  walk_at "wr"
theorem dAdd_lst {f g : Fl} {x y : List D} (h : x.length + y.length ≤ 100000) : dAdd (f, .lst x) (g, .lst y) = some (flTop (flBoth f g), .lst (x ++ y)) := by
  show (if sizeB (x.length + y.length) = true then _ else _) = _
  unfold sizeB
  rw [if_pos (decide_eq_true h)]
theorem m_states_w {rs ls : List Str} {ps : List (List Str)} (R : RawOk rs ls ps) : Runs F__law_m_states [.fz (rawD rs ls ps)] fun f r l => f = .own ∧ r = lS (statesS rs) ∧ l = [] := by
  have hr6 := R.rlen
  refine runs_of rfl ?_
  show wp m__law_m_states [.fz .old (rawD rs ls ps)] _
  unfold m__law_m_states
  walk_at "wr"
  refine ⟨_, _, _, rfl, rfl, dAdd_lst (x := rs.map .str) (y := [.str "known"]) (by rw [List.length_map, List.length_singleton]; omega), ?_⟩
  walk_at "wr"
  have e : dSorted [.lst (rs.map D.str ++ [.str "known"])] = some (lS (statesS rs)) := by
    have := dSorted_S (ss := rs ++ (["known"] : List Str)) (by rw [List.length_append, List.length_singleton]; omega) true
    rw [sortS_uniq (show (rs ++ (["known"] : List Str)).Perm ("known" :: rs) from List.perm_append_singleton _ _), List.map_append] at this
    exact this
  refine ⟨_, _, rfl, e, ?_⟩
  rw [kids_S]
  walk_at "wr"
theorem m_moves_w {rs ls : List Str} {ps : List (List Str)} (R : RawOk rs ls ps) : Runs F__law_m_moves [.fz (rawD rs ls ps)] fun f r l => f = .own ∧ r = lT (movesS ls ps) ∧ l = [] := by
  have hp30 := R.plen
  have hl3 := R.llen
  refine runs_of rfl ?_
  show wp m__law_m_moves [.fz .old (rawD rs ls ps), .und, .und, .und, .und] _
  unfold m__law_m_moves
  walk_at "wr"
  refine wp_lcM (α := Str) ?_
  walk_at "wr"
  refine ⟨ls, fun l => (.old, .str l), fun l => (.own, tS [l, l]), List.map_map, by omega, ?_, ?_⟩
  · intro l hl
    refine ⟨_, rfl, ?_⟩
    walk_at "wr"
  · rw [own_f]
    walk_at "wr"
    refine wp_lcF (α := List Str) ?_
    walk_at "wr"
    refine ⟨ps, fun p => (.old, tS p), fun p => (derP p).map fun q => (.any, tS q), List.map_map, by omega, ?_, ?_⟩
    · intro p hp
      refine ⟨_, rfl, ?_⟩
      have hk : PyData.strOk "derive" = true := by kernel_rfl
      rcases R.pok p hp with ⟨w, r, rfl, q1, q2⟩ | ⟨w, r, s, rfl, q1, q2, q3⟩ | ⟨r, l, s, rfl, q1, q2, q3⟩
      · have hw : (w == "derive") = false := not_der1 w q1
        walk_at "wr"
        refine ⟨_, _, _, rfl, rfl, dEq_str (voc_ok _ (one_voc _ q1)) hk, ?_⟩
        rw [hw]
        walk_at "wr"
        refine ⟨?_, rfl⟩
        unfold derP
        rw [if_neg (by show ¬ (w == "derive") = true; rw [hw]; decide)]
        rfl
      · have hw : (w == "derive") = false := not_der2 w q1
        walk_at "wr"
        refine ⟨_, _, _, rfl, rfl, dEq_str (voc_ok _ (two_voc _ q1)) hk, ?_⟩
        rw [hw]
        walk_at "wr"
        refine ⟨?_, rfl⟩
        unfold derP
        rw [if_neg (by show ¬ (w == "derive") = true; rw [hw]; decide)]
        rfl
      · walk_at "wr"
        refine ⟨_, _, _, rfl, rfl, dEq_str hk hk, ?_⟩
        rw [show (("derive" : Str) == "derive") = true from beq_self_eq_true _]
        walk_at "wr"
    · have e1 : ps.filterMap (fun p => (derP p).map fun q => (Fl.any, tS q)) = (ps.filterMap derP).map fun q => (Fl.any, tS q) := by rw [List.map_filterMap]
      rw [e1, own_imm (fun x => imm_tS x), List.map_map]
      walk_at "wr"
      refine wp_lcM (α := Str) ?_
      walk_at "wr"
      refine ⟨ls, fun l => (.own, tS [l, l]), fun l => (.own, tS ["known", l, "known"]), List.map_map, by omega, ?_, ?_⟩
      · intro l hl
        refine ⟨_, rfl, ?_⟩
        walk_at "wr"
      · rw [own_f]
        have hlen : (ps.filterMap derP).length ≤ 30 := Nat.le_trans (List.length_filterMap_le _ _) hp30
        refine ⟨_, _, _, rfl, rfl, dAdd_lst (by rw [List.length_map, List.length_map]; omega), ?_⟩
        walk_at "wr"
        have e3 : dSorted [.lst ((ps.filterMap derP).map ((fun x : Fl × D => x.2) ∘ fun q => (Fl.any, tS q)) ++ ls.map fun l => tS ["known", l, "known"])] = some (lT (movesS ls ps)) := by
          have := dSorted_T (ps := ps.filterMap derP ++ ls.map fun l => (["known", l, "known"] : List Str)) (by rw [List.length_append, List.length_map]; omega) (der_ne R.pok)
          rw [List.map_append, List.map_map] at this
          exact this
        refine ⟨_, _, rfl, e3, ?_⟩
        rw [kids_T]
        walk_at "wr"
def pairD (x : D × D) : D := .tup [x.1, x.2]
theorem m_roots_w {rs ls : List Str} {ps : List (List Str)} {st : List (List Str)} (R : RawOk rs ls ps) (hn : st.length ≤ 4) :
    Runs F__law_m_roots [.fz (rawD rs ls ps), .fz (.lst (st.map lS))] fun f r l => r = .lst ((rootPairs rs ps st).map pairD) ∧ l = [] := by
  have hot : OkT ps := fun p hp => (R.pok p hp).ok R.rsub R.lsub
  have hs7 := states_len R
  have h7 : (rootS rs ps).length ≤ 7 := Nat.le_trans (List.length_filter_le _ _) hs7
  refine runs_of rfl ?_
  show wp m__law_m_roots [.fz .old (rawD rs ls ps), .fz .old (.lst (st.map lS)), .und, .und, .und, .und] _
  unfold m__law_m_roots
  walk_at "wr"
  refine wp_lcF (α := Str) ?_
  walk_at "wr"
  refine Runs.imp (m_states_w R) fun f r l ⟨e1, e2, e3⟩ => ?_
  subst e1 e2 e3
  walk_at "wr"
  refine ⟨statesS rs, fun s => (.own, .str s), fun s => if rootB 0 ps (.str s) = true then some (.own, .str s) else none, List.map_map, by omega, ?_, ?_⟩
  · intro s hs
    have hv := states_sub R s hs
    refine ⟨_, rfl, ?_⟩
    walk_at "wr"
    refine ⟨_, _, _, rfl, rfl, dEq_str (voc_ok s hv) known_ok, _, rfl, fun hb => ?_, fun hb => ?_⟩
    · walk_at "wr"
      refine ⟨_, _, _, rfl, rfl, dIn_tS (p := ["make", s]) (make_ok hv) hot, _, rfl, fun hc => ?_, fun hc => ?_⟩
      · walk_at "wr"
        refine ⟨if_pos ?_, rfl⟩
        show (s == "known" || decide ((["make", s] : List Str) ∈ ps)) = true
        rw [hb, hc]
        rfl
      · refine ⟨if_neg ?_, rfl⟩
        show ¬ (s == "known" || decide ((["make", s] : List Str) ∈ ps)) = true
        rw [hb, hc]
        decide
    · walk_at "wr"
      refine ⟨if_pos ?_, rfl⟩
      show (s == "known" || decide ((["make", s] : List Str) ∈ ps)) = true
      rw [hb]
      rfl
  · rw [filterMap_filter, own_f, List.map_map]
    walk_at "wr"
    refine wp_lcM (α := List Str × Nat) ?_
    walk_at "wr"
    refine ⟨st.zipIdx, _, fun x => (.own, .tup [.int (x.2 : Int), lS x.1]), by rw [List.map_map]; exact numbered_zip _ _ _ _, by rw [List.length_zipIdx]; omega, ?_, ?_⟩
    · rintro ⟨s, i⟩ hx
      refine ⟨_, rfl, ?_⟩
      walk_at "wr"
      rw [show kidsImm (.lst (s.map .str)) = true from kids_S s]
      exact ⟨rfl, rfl⟩
    · rw [own_f]
      walk_at "wr"
      refine wp_lcM (α := Str) ?_
      walk_at "wr"
      refine ⟨rootS rs ps, _, fun s => (.own, .tup [.str s, .lst [.str s]]), List.map_map, by omega, ?_, ?_⟩
      · intro s hs
        refine ⟨_, rfl, ?_⟩
        walk_at "wr"
      · rw [own_f]
        refine ⟨_, _, _, rfl, rfl, dAdd_lst (by rw [List.length_map, List.length_map, List.length_zipIdx]; omega), ?_⟩
        walk_at "wr"
        refine ⟨_, _, _, rfl, rfl, ?_, rfl⟩
        rw [List.map_append, List.map_map, List.map_map]
        rfl
theorem m_is_asked_w {rs ls : List Str} {ps : List (List Str)} {st : List (List Str)} {m k : Nat} {d : D} (R : RawOk rs ls ps) (hm : m ≤ 100) (h : gd true m k d = true) (hT : ∀ a c, d ≠ .lst [a, c]) :
    Runs F__law_is_asked [.fz (rawD rs ls ps), .fz (.lst (st.map lS)), .fz d] fun f r l => f = .own ∧ r = .bl (askB st.length ps ls d) ∧ l = [] := by
  have hls : OkS ls := ok_of_voc fun s hs => lab_voc s (R.lsub s hs)
  have hot : OkT ps := fun p hp => (R.pok p hp).ok R.rsub R.lsub
  refine runs_of rfl ?_
  show wp m__law_is_asked [.fz .old (rawD rs ls ps), .fz .old (.lst (st.map lS)), .fz .old d, .und, .und, .und, .und] _
  unfold m__law_is_asked
  have isq : ∀ {d : D}, pl d = true → isT ["Book"] ["list", "tuple"] d = some (.bl (isSq d)) := fun {d} h => by
    cases d <;> first | (cases h; done) | skip
    all_goals first | rfl | skip
    rename_i c fs
    obtain rfl : c = "Book" := of_decide_eq_true h
    rfl
  rcases seq_cases d with ⟨b, ds, rfl, hsq⟩ | ⟨hsq, hso⟩
  · obtain ⟨k, rfl, hlen, hkids⟩ := gd_kids h
    have h0 := isq (isSq_sq b ds).2
    rw [(isSq_sq b ds).1] at h0
    refine wp_seq (wp_sif (wp_or (wp_not (wp_test (wp_un (wp_var rfl ⟨_, _, rfl, h0, ?_⟩))))))
    walk_at "wr"
    refine ⟨_, _, rfl, dLen_sq b ds, ?_⟩
    walk_at "wr"
    refine ⟨_, _, _, rfl, rfl, dNe_int _ _, _, rfl, fun hb => ?_, fun hb => ?_⟩
    · have hl2 : ds.length = 2 := by
        simp at hb
        omega
      obtain ⟨a, c, rfl⟩ : ∃ a c, ds = [a, c] := by
        match ds, hl2 with
        | [a, c], _ => exact ⟨a, c, rfl⟩
      have ha := hkids a (by simp)
      have hc := hkids c (by simp)
      rw [askB_sq]
      have i1 : ∀ f : Fl, dIx (f, sq b [a, c]) (.own, .int 1) = some (flKid f, c) := fun f => by cases b <;> rfl
      refine wp_not (wp_test (wp_un (wp_gen2 (wp_var rfl (wp_c ⟨_, _, _, rfl, rfl, i1 _, ⟨_, _, rfl, isq (gd_okA hc).p, ?_⟩⟩)))))
      obtain rfl : b = false := by
        cases b with
        | false => rfl
        | true => exact absurd rfl (hT a c)
      have haA := gd_okA ha
      refine ⟨_, rfl, fun hq => ?_, fun hq => ?_⟩
      · have e : wordB ls c = false := by
          rcases seq_cases c with ⟨b2, ws, rfl, h1⟩ | ⟨h1, h2⟩
          · rw [(isSq_sq b2 ws).1] at hq
            cases hq
          · unfold wordB
            rw [h2]
        rw [e, Bool.and_false]
        walk_at "wr"
      · rcases seq_cases c with ⟨b2, ws, rfl, h1⟩ | ⟨h1, h2⟩
        · obtain ⟨k2, rfl, hlen2, hkids2⟩ := gd_kids hc
          have ew : wordB ls (sq b2 ws) = ws.all (labB ls) := by
            unfold wordB
            rw [h1]
          rw [ew]
          refine wp_skip ?_
          refine wp_seq (wp_asg (wp_v (wp_var rfl ⟨_, _, rfl, _, rfl, ?_⟩)))
          have ende : ∀ (f3 f4 f5 : Fl) (r0 : Bool), r0 = rootB st.length ps a → wp (sRet (eAndV (eVar 5) (eCB dAll (aCons (eFz (eLc [6] (mSeq (eVar 4)) (putV 6) mYes (eAndV (eIsT ["Book"] ["str"] (eVar 6)) (eOp dIn (eVar 6) (eGen2 dIx (eVar 0) (eC (.int 1))))))) aNil)))) [.fz .old (rawD rs ls ps), .fz .old (.lst (st.map lS)), .fz .old (sq false [a, sq b2 ws]), .fz f3 a, .fz f4 (sq b2 ws), .fz f5 (.bl r0), .und] fun w σ => ∃ f d l, w = .ret f d ∧ outs [.fz (rawD rs ls ps), .fz (.lst (st.map lS)), .fz (sq false [a, sq b2 ws])] σ = some l ∧ f = .own ∧ d = .bl (rootB st.length ps a && ws.all (labB ls)) ∧ l = [] := by
            intro f3 f4 f5 r0 er
            subst er
            walk_at "wr"
            refine ⟨fun hr => ?_, fun hr => ?_⟩
            · rw [hr]
              refine wp_allM (α := D) ?_
              refine wp_seqI (wp_v (wp_var rfl ?_))
              refine ⟨_, _, rfl, _, _, _, rfl, items_sq _ b2 ws, rfl, ws, _, labB ls, rfl, by omega, ?_, ?_⟩
              · intro x hx
                have hxa := gd_okA (hkids2 x hx)
                refine ⟨_, rfl, ?_⟩
                refine wp_v (wp_andV (wp_un (wp_var rfl ⟨_, _, rfl, is_str_eq hxa.p, ?_⟩)))
                refine ⟨_, rfl, fun hs => ?_, fun hs => ?_⟩
                · cases x <;> first | (cases hs; done) | skip
                  rename_i s
                  walk_at "wr"
                  refine ⟨_, _, _, rfl, rfl, dIn_lS (voc_ok _ (hxa.s s rfl)) hls, ?_⟩
                  walk_at "wr"
                · have e : labB ls x = false := by cases x <;> first | rfl | cases hs
                  rw [e]
                  walk_at "wr"
              · walk_at "wr"
            · rw [hr, Bool.false_and]
              walk_at "wr"
          refine wp_seq (wp_sif (wp_test (wp_un (wp_var rfl ⟨_, _, rfl, is_str_eq haA.p, ?_⟩))))
          refine ⟨_, rfl, fun hs => ?_, fun hs => ?_⟩
          · cases a <;> first | (cases hs; done) | skip
            rename_i s
            have hv := haA.s s rfl
            walk_at "wr"
            refine ⟨_, _, _, rfl, rfl, dEq_str (voc_ok s hv) known_ok, _, rfl, fun hb => ?_, fun hb => ?_⟩
            · walk_at "wr"
              refine ⟨_, _, _, rfl, rfl, dIn_tS (p := ["make", s]) (make_ok hv) hot, ?_⟩
              repeat (first | (refine ende _ _ _ _ ?_) | walk_at "wu")
              show _ = (s == "known" || decide ((["make", s] : List Str) ∈ ps))
              rw [hb, Bool.false_or]
            · repeat (first | (refine ende _ _ _ _ ?_) | walk_at "wu")
              show _ = (s == "known" || decide ((["make", s] : List Str) ∈ ps))
              rw [hb, Bool.true_or]
          · cases a <;> first | (cases hs; done) | (have hp := haA.p; cases hp; done) | skip
            case int i =>
              walk_at "wr"
              refine ⟨fun hc' => ?_, fun hc' => ?_⟩
              · repeat (first | (refine ende _ _ _ _ ?_) | walk_at "wu")
                show _ = (decide ((0 : Int) ≤ i) && decide (i < (st.length : Int)))
                rw [hc', Bool.true_and, List.length_map]
              · repeat (first | (refine ende _ _ _ _ ?_) | walk_at "wu")
                show _ = (decide ((0 : Int) ≤ i) && decide (i < (st.length : Int)))
                rw [hc', Bool.false_and]
            case ins c' fs =>
              obtain rfl : c' = "Book" := of_decide_eq_true haA.p
              repeat (first | (refine ende _ _ _ _ ?_) | walk_at "wu")
              rfl
            all_goals
              repeat (first | (refine ende _ _ _ _ ?_) | walk_at "wu")
              rfl
        · rw [h1] at hq
          cases hq
    · have hl2 : ds.length ≠ 2 := by
        simp at hb
        omega
      rw [askB_len hl2]
      walk_at "wr"
  · have e : askB st.length ps ls d = false := by
      unfold askB
      rw [hso]
    have h0 := isq (gd_okA h).p
    rw [hsq] at h0
    refine wp_seq (wp_sif (wp_or (wp_not (wp_test (wp_un (wp_var rfl ⟨_, _, rfl, h0, ?_⟩))))))
    rw [e]
    walk_at "wr"
theorem dAdd_tup (f g : Fl) {x y : List D} (h : x.length + y.length ≤ 100000) : ∃ f', dAdd (f, .tup x) (g, .tup y) = some (f', .tup (x ++ y)) := by
  have e : dAdd (f, .tup x) (g, .tup y) = if sizeB (x.length + y.length) = true then (if x.isEmpty = true then some (g, .tup y) else if y.isEmpty = true then some (f, .tup x) else some (flBoth f g, .tup (x ++ y))) else none := rfl
  rw [e]
  unfold sizeB
  rw [if_pos (decide_eq_true h)]
  cases x with
  | nil => exact ⟨g, rfl⟩
  | cons a x =>
    cases y with
    | nil => exact ⟨f, by rw [List.append_nil]; rfl⟩
    | cons b y => exact ⟨_, rfl⟩
theorem add_q : ∀ r ∈ poolS, (∀ f g : Fl, dAdd (f, .str r) (g, .str "q") = some (.own, .str (r ++ "q"))) ∧ (r ++ "q") ∈ voc := by
  intro r hr
  simp only [poolS, List.mem_cons, List.not_mem_nil, or_false] at hr
  rcases hr with rfl | rfl | rfl | rfl | rfl | rfl | rfl | rfl | rfl | rfl | rfl | rfl <;> exact ⟨fun f g => by kernel_rfl, by decide +kernel⟩
structure NearOk (d : D) : Prop where
  g : gd true 10 3 d = true
  t : ∀ a c, d ≠ .lst [a, c]
theorem gd_mono {dc : Bool} {m : Nat} : ∀ {k j : Nat} {d : D}, k ≤ j → gd dc m k d = true → gd dc m j d = true
  | k, j, d, hk, h => by
    cases d with
    | tup ds =>
      cases k with
      | zero => cases h
      | succ k =>
        obtain ⟨j, rfl⟩ : ∃ j', j = j' + 1 := ⟨j - 1, by omega⟩
        simp only [gd, Bool.and_eq_true, List.all_eq_true] at h ⊢
        exact ⟨h.1, fun x hx => gd_mono (by omega) (h.2 x hx)⟩
    | lst ds =>
      cases k with
      | zero => cases h
      | succ k =>
        obtain ⟨j, rfl⟩ : ∃ j', j = j' + 1 := ⟨j - 1, by omega⟩
        simp only [gd, Bool.and_eq_true, List.all_eq_true] at h ⊢
        exact ⟨h.1, fun x hx => gd_mono (by omega) (h.2 x hx)⟩
    | dic kvs =>
      cases k with
      | zero => cases h
      | succ k =>
        obtain ⟨j, rfl⟩ : ∃ j', j = j' + 1 := ⟨j - 1, by omega⟩
        simp only [gd, Bool.and_eq_true, List.all_eq_true] at h ⊢
        exact ⟨h.1, fun x hx => ⟨(h.2 x hx).1, gd_mono (by omega) (h.2 x hx).2⟩⟩
    | non => cases j <;> rfl
    | bl _ => cases j <;> rfl
    | int _ => cases k <;> cases j <;> exact h
    | str _ => cases k <;> cases j <;> exact h
    | dit _ => cases k <;> cases h
    | ins _ _ => cases k <;> cases h
    | ty _ => cases k <;> cases h
    | cls _ => cases k <;> cases h
    | scr _ => cases k <;> cases h
theorem gd_str {dc : Bool} {m k : Nat} {s : Str} (h : s ∈ voc) : gd dc m k (.str s) = true := by
  have := List.contains_iff_mem.mpr h
  cases k <;> exact this
theorem gd_int {dc : Bool} {m k : Nat} {i : Int} (h : -1 ≤ i ∧ i ≤ 100) : gd dc m k (.int i) = true := by
  have : (decide (-1 ≤ i ∧ i ≤ 100) || decide (i = 1000000000000000000000000000000)) = true := by rw [decide_eq_true h]; rfl
  cases k <;> exact this
theorem gd_tup {dc : Bool} {m k : Nat} {ds : List D} (h1 : ds.length ≤ m) (h2 : ∀ d ∈ ds, gd dc m k d = true) : gd dc m (k + 1) (.tup ds) = true := gd_sq (b := false) h1 (List.all_eq_true.mpr h2)
theorem gd_lst {dc : Bool} {m k : Nat} {ds : List D} (h1 : ds.length ≤ m) (h2 : ∀ d ∈ ds, gd dc m k d = true) : gd dc m (k + 1) (.lst ds) = true := gd_sq (b := true) h1 (List.all_eq_true.mpr h2)
/-- a root of the pairs -/
theorem root_ok {rs ls : List Str} {ps st : List (List Str)} (R : RawOk rs ls ps) (hn : st.length ≤ 4) {x : D × D} (h : x ∈ rootPairs rs ps st) : (∃ s, x.1 = .str s ∧ s ∈ voc) ∨ ∃ i : Int, x.1 = .int i ∧ 0 ≤ i ∧ i ≤ 4 := by
  rcases List.mem_append.mp h with h | h
  · obtain ⟨⟨s, i⟩, hx, rfl⟩ := List.mem_map.mp h
    have hx := List.mk_mem_zipIdx_iff_getElem?.mp hx
    have hi := (List.getElem?_eq_some_iff.mp hx).1
    exact .inr ⟨i, rfl, by omega, by omega⟩
  · obtain ⟨s, hs, rfl⟩ := List.mem_map.mp h
    exact .inl ⟨s, rfl, states_sub R s (List.mem_filter.mp hs).1⟩
theorem known_root {rs : List Str} {ps st : List (List Str)} : rootPairs rs ps st ≠ [] := by
  intro e
  have : ("known" : Str) ∈ rootS rs ps := List.mem_filter.mpr ⟨mem_sortS.mpr (by simp), by
    show (("known" : Str) == "known" || decide ((["make", "known"] : List Str) ∈ ps)) = true
    rw [show (("known" : Str) == "known") = true from beq_self_eq_true _]
    rfl⟩
  have h2 := List.append_eq_nil_iff.mp e
  rw [List.map_eq_nil_iff.mp h2.2] at this
  cases this
theorem rootPairs_len {rs ls : List Str} {ps st : List (List Str)} (R : RawOk rs ls ps) (hn : st.length ≤ 4) : (rootPairs rs ps st).length ≤ 11 := by
  have h7 : (rootS rs ps).length ≤ 7 := Nat.le_trans (List.length_filter_le _ _) (states_len R)
  rw [List.length_append, List.length_map, List.length_map, List.length_zipIdx]
  omega
@[irreducible] def WordI (rs ls : List Str) (ps st : List (List Str)) (s3 s8 : Sv) (n : Int) (items pre acc : List (Fl × D)) (σ : List Sv) : Prop := items.length ≤ 9 ∧ (ls = [] → items = []) ∧ ∃ w', ∃ ws : List Str,
  σ = [.io w', .fz .old (rawD rs ls ps), .fz .old (.lst (st.map lS)), s3, .und, .und, .und, .und, s8, .und, .und, .und] ∧ W3 (n + 1 + pre.length) w' ∧ acc.map (·.2) = ws.map D.str ∧ (∀ x ∈ ws, x ∈ ls) ∧ ws.length = pre.length ∧ acc.length = pre.length
theorem WordI.out {rs ls : List Str} {ps st : List (List Str)} {s3 s8 : Sv} {n : Int} {items pre acc : List (Fl × D)} {σ : List Sv} (h : WordI rs ls ps st s3 s8 n items pre acc σ) : items.length ≤ 9 ∧ (ls = [] → items = []) ∧ ∃ w', ∃ ws : List Str,
  σ = [.io w', .fz .old (rawD rs ls ps), .fz .old (.lst (st.map lS)), s3, .und, .und, .und, .und, s8, .und, .und, .und] ∧ W3 (n + 1 + pre.length) w' ∧ acc.map (·.2) = ws.map D.str ∧ (∀ x ∈ ws, x ∈ ls) ∧ ws.length = pre.length ∧ acc.length = pre.length := by
  unfold WordI at h
  exact h
theorem WordI.inn {rs ls : List Str} {ps st : List (List Str)} {s3 s8 : Sv} {n : Int} {items pre acc : List (Fl × D)} {w' : D} {ws : List Str} (h1 : items.length ≤ 9) (h2 : ls = [] → items = []) (h3 : W3 (n + 1 + pre.length) w') (h4 : acc.map (·.2) = ws.map D.str) (h5 : ∀ x ∈ ws, x ∈ ls) (h6 : ws.length = pre.length) (h7 : acc.length = pre.length) :
    WordI rs ls ps st s3 s8 n items pre acc [.io w', .fz .old (rawD rs ls ps), .fz .old (.lst (st.map lS)), s3, .und, .und, .und, .und, s8, .und, .und, .und] := by
  unfold WordI
  exact ⟨h1, h2, w', ws, rfl, h3, h4, h5, h6, h7⟩
theorem word_step {n : Int} {rs ls : List Str} {ps st : List (List Str)} {s3 s8 : Sv} (hn : n ≤ 200000000000) (R : RawOk rs ls ps) (items pre : List (Fl × D)) (fd : Fl × D) (post acc : List (Fl × D)) (σ : List Sv) (hit : items = pre ++ fd :: post) (h : WordI rs ls ps st s3 s8 n items pre acc σ) :
    ∃ σ1, putV 11 (.val fd.1 fd.2) σ = some σ1 ∧ wp mYes σ1 fun b σ2 => (b = true → wp (eV (eCall F__law_pick (aCons (eVar 0) (aCons (eGen2 dIx (eVar 1) (eC (.int 1))) aNil)))) σ2 fun e σ3 => ∃ f d, e = .val f d ∧ acc.length ≤ 100000 ∧ WordI rs ls ps st s3 s8 n items (pre ++ [fd]) (acc ++ [(f, d)]) (wipeS σ3 [11])) ∧ (b = false → WordI rs ls ps st s3 s8 n items (pre ++ [fd]) acc (wipeS σ2 [11])) := by
  obtain ⟨hl9, hne, w', ws, rfl, hw', ha, hm, hwl, hal⟩ := h.out
  have hl3 := R.llen
  have hpl : pre.length < 9 := by
    have := congrArg List.length hit
    simp only [List.length_append, List.length_cons] at this
    omega
  have hl0 : ls ≠ [] := fun z => by
    have := hne z
    rw [this] at hit
    have := congrArg List.length hit
    simp at this
  refine ⟨_, rfl, ?_⟩
  refine wp_myes ⟨fun _ => ?_, fun h => by cases h⟩
  walk_at "wr"
  refine Runs.imp (pick_w (ds := ls.map .str) hw' (by omega) (by simpa using hl0) (by rw [List.length_map]; omega)) fun f2 d l ⟨ef, hd, w1, el, hw1⟩ => ?_
  obtain ⟨x, hx, rfl⟩ := List.mem_map.mp hd
  subst ef el
  walk_at "wr"
  refine (WordI.inn (ws := ws ++ [x]) hl9 hne (hw1.le (by rw [List.length_append, List.length_singleton]; push_cast; omega)) ?_ ?_ ?_ ?_)
  · rw [List.map_append, List.map_append, ha]
    rfl
  · intro y hy
    rcases List.mem_append.mp hy with hy | hy
    · exact hm y hy
    · rw [List.mem_singleton.mp hy]
      exact hx
  · rw [List.length_append, List.length_append, hwl]
    rfl
  · rw [List.length_append, List.length_append, hal]
    rfl
theorem word_w {n : Int} {w : D} {rs ls : List Str} {ps st : List (List Str)} {s3 s8 : Sv} {Q : Bool × D → List Sv → Prop} (hw : W3 n w) (hn : n ≤ 200000000000) (R : RawOk rs ls ps)
    (q : ∀ w' ws o, W3 (n + 10) w' → (∀ x ∈ ws, x ∈ ls) → ws.length ≤ 9 → Q (o, lS ws) [.io w', .fz .old (rawD rs ls ps), .fz .old (.lst (st.map lS)), s3, .und, .und, .und, .und, s8, .und, .und, .und]) :
    wp (eLc [11] (mRng1 (eIf (eTru (eGen2 dIx (eVar 1) (eC (.int 1)))) (eCall F__law_draw (aCons (eVar 0) (aCons (eC (.int 10)) aNil))) (eC (.int 0)))) (putV 11) mYes (eCall F__law_pick (aCons (eVar 0) (aCons (eGen2 dIx (eVar 1) (eC (.int 1))) aNil))))
      [.io w, .fz .old (rawD rs ls ps), .fz .old (.lst (st.map lS)), s3, .und, .und, .und, .und, s8, .und, .und, .und] Q := by
  have fin : ∀ (items acc : List (Fl × D)) (σ : List Sv), WordI rs ls ps st s3 s8 n items items acc σ → ∃ w', σ = [.io w', .fz .old (rawD rs ls ps), .fz .old (.lst (st.map lS)), s3, .und, .und, .und, .und, s8, .und, .und, .und] ∧ Q (acc.all Fl.isOwn, .lst (acc.map (·.2))) [.io w', .fz .old (rawD rs ls ps), .fz .old (.lst (st.map lS)), s3, .und, .und, .und, .und, s8, .und, .und, .und] := by
    intro items acc σ h
    obtain ⟨hl9, hne, w', ws, rfl, hw', ha, hm, hwl, hal⟩ := h.out
    refine ⟨w', rfl, ?_⟩
    rw [ha]
    exact q w' ws _ (hw'.le (by omega)) hm (by omega)
  have ht : dTru (lS ls) = some (!ls.isEmpty) := by
    show some (!(ls.map D.str).isEmpty) = _
    rw [List.isEmpty_map]
  refine wp_lc (I := WordI rs ls ps st s3 s8 n) ?_
  refine wp_rng1 (wp_if (wp_tru ?_))
  walk_at "wr"
  refine ⟨fun hb => ?_, fun hb => ?_⟩
  · walk_at "wr"
    refine Runs.imp (draw_w (m := 10) hw (by omega) (by omega) (by omega)) fun f d l ⟨ef, k, ed, k0, k1, w1, el, hw1⟩ => ?_
    subst ef ed el
    walk_at "wr"
    refine ⟨WordI.inn (ws := []) (by simp; omega) (fun z => by rw [z] at hb; cases hb) (by simpa using hw1) rfl (by simp) rfl rfl, word_step hn R _, fun acc σ h => ?_⟩
    obtain ⟨w', rfl, q'⟩ := fin _ acc σ h
    exact q'
  · walk_at "wr"
    refine ⟨WordI.inn (ws := []) (by simp) (fun _ => rfl) (hw.le (by simp; omega)) rfl (by simp) rfl rfl, word_step hn R _, fun acc σ h => ?_⟩
    obtain ⟨w', rfl, q'⟩ := fin _ acc σ h
    exact q'
def oddsL (rs : List Str) (n : Nat) (a : D) (r1 : Str) : List D := rs.map D.str ++ [D.int (n : Int), .int (-1), .bl true, .bl false, .non, .str "", .str "Known", .tup [a], .int (10 ^ 30), .str "0", .str (r1 ++ "q")]
theorem near_w {n : Int} {w : D} {rs ls : List Str} {ps st : List (List Str)} (hw : W3 n w) (hn : n ≤ 100000000000) (R : RawOk rs ls ps) (S : StOk rs st) :
    Runs F__law_near [.io w, .fz (rawD rs ls ps), .fz (.lst (st.map lS))] fun f r l => ∃ ds, r = .lst ds ∧ (∀ d ∈ ds, NearOk d) ∧ ds.length ≤ 50 ∧ ∃ w', l = [w'] ∧ W3 (n + 20) w' := by
  have hn4 := S.n
  have hl3 := R.llen
  have hr6 := R.rlen
  refine runs_of rfl ?_
  show wp m__law_near [.io w, .fz .old (rawD rs ls ps), .fz .old (.lst (st.map lS)), .und, .und, .und, .und, .und, .und, .und, .und, .und] _
  unfold m__law_near
  walk_at "wr"
  refine wp_lcM (α := D × D) ?_
  walk_at "wr"
  refine Runs.imp (m_roots_w R hn4) fun f r l ⟨e1, e2⟩ => ?_
  subst e1 e2
  walk_at "wr"
  refine ⟨rootPairs rs ps st, fun x => (flKid (flOut f), pairD x), fun x => (flKid (flKid (flOut f)), x.1), List.map_map, by have := rootPairs_len R hn4; omega, ?_, ?_⟩
  · rintro x hx
    refine ⟨_, rfl, ?_⟩
    walk_at "wr"
  · walk_at "wr"
    refine Runs.imp (pick_w (ds := (rootPairs rs ps st).map (·.1)) hw (by omega) (by simpa using known_root) (by have := rootPairs_len R hn4; rw [List.length_map]; omega)) fun f2 root l ⟨ef, hd, w1, el, hw1⟩ => ?_
    subst ef el
    obtain ⟨x, hx, rfl⟩ := List.mem_map.mp hd
    have hroot := root_ok R hn4 hx
    have hrg : ∀ k, gd true 10 k x.1 = true := fun k => by
      rcases hroot with ⟨s, e, hs⟩ | ⟨i, e, h1, h2⟩
      · rw [e]; exact gd_str hs
      · rw [e]; exact gd_int ⟨by omega, by omega⟩
    have hrk : ∃ key, dKey x.1 = some key ∧ keyG key = true := by
      rcases hroot with ⟨s, e, hs⟩ | ⟨i, e, h1, h2⟩
      · rw [e]; exact ⟨_, rfl, List.contains_iff_mem.mpr hs⟩
      · rw [e]; exact ⟨_, rfl, decide_eq_true ⟨by omega, by omega⟩⟩
    obtain ⟨key, hkey, hkeyg⟩ := hrk
    have hr1 : ∃ r1 rs', rs = r1 :: rs' := by
      cases rs with
      | nil => exact absurd rfl R.rne
      | cons r1 rs' => exact ⟨r1, rs', rfl⟩
    obtain ⟨r1, rs', ers⟩ := hr1
    have hr1p : r1 ∈ poolS := R.rsub r1 (by rw [ers]; simp)
    obtain ⟨hadd, haddv⟩ := add_q r1 hr1p
    walk_at "wr"
    refine word_w (s8 := .und) hw1 (by omega) R fun w2 ws o hw2 hm hwl => ?_
    walk_at "wr"
    have i0 : ∀ f g : Fl, dIx (f, lS rs) (g, .int 0) = some (flKid f, .str r1) := fun f g => dIx_sq (b := true) (ds := rs.map .str) (by omega) (by rw [ers]; rfl)
    refine ⟨_, _, _, rfl, rfl, i0 _ _, ?_⟩
    walk_at "wr"
    refine ⟨_, _, _, rfl, rfl, hadd _ _, ?_⟩
    walk_at "wr"
    refine ⟨_, _, _, rfl, rfl, dAdd_lst (by rw [List.length_map]; simp; omega), ?_⟩
    walk_at "wr"
    have hoA : ∀ d ∈ oddsL rs (st.map lS).length x.1 r1, gd true 10 1 d = true := by
      intro d hd
      rcases List.mem_append.mp hd with hd | hd
      · obtain ⟨s, hs, rfl⟩ := List.mem_map.mp hd
        exact gd_str (pool_voc _ (R.rsub s hs))
      · simp only [List.mem_cons, List.not_mem_nil, or_false] at hd
        rcases hd with rfl | rfl | rfl | rfl | rfl | rfl | rfl | rfl | rfl | rfl | rfl
        · exact gd_int (by rw [List.length_map]; omega)
        · exact gd_int (by omega)
        · rfl
        · rfl
        · rfl
        · exact gd_str (by decide +kernel)
        · exact gd_str (by decide +kernel)
        · exact gd_tup (by simp) fun d hd => by rw [List.mem_singleton.mp hd]; exact hrg 0
        · rfl
        · exact gd_str (by decide +kernel)
        · exact gd_str haddv
    have hol : (oddsL rs (st.map lS).length x.1 r1).length ≤ 20 ∧ oddsL rs (st.map lS).length x.1 r1 ≠ [] := by
      unfold oddsL
      exact ⟨by rw [List.length_append, List.length_map]; simp; omega, by simp⟩
    have hws : ∀ (k : Nat), ∀ d ∈ ws.map D.str, gd true 10 k d = true := fun k d hd => by
      obtain ⟨s, hs, rfl⟩ := List.mem_map.mp hd
      exact gd_str (lab_voc _ (R.lsub _ (hm s hs)))
    have hword : ∀ k, gd true 10 (k + 1) (.tup (ws.map .str)) = true := fun k => gd_tup (by rw [List.length_map]; omega) (hws k)
    refine Runs.imp (pick_w (ds := oddsL rs (st.map lS).length x.1 r1) (w := w2) hw2 (by omega) hol.2 (by omega)) fun f3 o1 l ⟨ef, ho1, w3, el, hw3⟩ => ?_
    subst ef el
    walk_at "wr"
    refine Runs.imp (pick_w (ds := oddsL rs (st.map lS).length x.1 r1) (w := w3) hw3 (by omega) hol.2 (by omega)) fun f4 o2 l ⟨ef, ho2, w4, el, hw4⟩ => ?_
    subst ef el
    walk_at "wr"
    refine Runs.imp (pick_w (ds := [.int 0, .non, .bl true, .str "", .str "q7", .tup [.str "x"], .str "known", .str "x"]) (w := w4) hw4 (by omega) (by simp) (by decide)) fun f5 od l ⟨ef, hod, w5, el, hw5⟩ => ?_
    have hodg : gd true 10 1 od = true := by
      simp only [List.mem_cons, List.not_mem_nil, or_false] at hod
      rcases hod with rfl | rfl | rfl | rfl | rfl | rfl | rfl | rfl <;> decide +kernel
    subst ef el
    walk_at "wr"
    have hlw : ((ws.map D.str).length : Int) ≤ 9 := by rw [List.length_map]; omega
    refine Runs.imp (draw_w (m := ((ws.map D.str).length : Int) + 1) hw5 (by omega) (by omega) (by omega)) fun f6 d l ⟨ef, k, ed, k0, k1, w6, el, hw6⟩ => ?_
    subst ef ed el
    walk_at "wr"
    refine ⟨_, _, rfl, (dSl_takeS (x := (false, ws)) k0).choose_spec, ?_⟩
    walk_at "wr"
    refine ⟨_, _, _, rfl, rfl, (dAdd_tup _ _ (by rw [List.length_map, List.length_take]; simp; omega)).choose_spec, ?_⟩
    walk_at "wr"
    refine ⟨_, _, rfl, (dSl_dropS (x := (false, ws)) k0).choose_spec, ?_⟩
    refine ⟨_, _, _, rfl, rfl, (dAdd_tup _ _ (by simp; omega)).choose_spec, ?_⟩
    walk_at "wr"
    refine ⟨_, _, _, _, _, _, _, _, _, rfl, rfl, kExt_ok (Nat.le_of_ble_eq_true rfl), ?_⟩
    walk_at "wr"
    refine ⟨_, _, rfl, hkey, ?_⟩
    walk_at "wr"
    refine ⟨_, _, _, rfl, rfl, [.tup [x.1, .tup (ws.map .str)], .tup [o1, .tup (ws.map .str)], .tup [o2, .tup (ws.map .str)], .tup [x.1, .tup []], x.1, .tup [x.1],
      .tup [x.1, .tup ((ws.take k.toNat).map .str ++ [od] ++ (ws.drop k.toNat).map .str)], .tup [x.1, .str "x"], .tup [x.1, .str ""], .tup [x.1, .non], .tup [x.1, .tup (ws.map .str), .tup (ws.map .str)],
      .non, .dic [], .lst [], .int 7, .str "known", .tup [.tup (ws.map .str), x.1], .tup [.str "known", .tup (ws.map .str)], .dic [(key, .tup (ws.map .str))]], rfl, ?_, by simp, _, rfl, hw6.le (by omega)⟩
    have two : ∀ a b : D, gd true 10 1 a = true → gd true 10 2 b = true → NearOk (.tup [a, b]) := fun a b h1 h2 => ⟨gd_tup (by simp) fun d hd => by
      rcases List.mem_cons.mp hd with rfl | hd
      · exact gd_mono (by omega) h1
      · rw [List.mem_singleton.mp hd]
        exact h2, fun _ _ e => by cases e⟩
    intro d hd
    simp only [List.mem_cons, List.not_mem_nil, or_false] at hd
    rcases hd with rfl | rfl | rfl | rfl | rfl | rfl | rfl | rfl | rfl | rfl | rfl | rfl | rfl | rfl | rfl | rfl | rfl | rfl | rfl
    · exact two _ _ (hrg 1) (hword 1)
    · exact two _ _ (hoA _ ho1) (hword 1)
    · exact two _ _ (hoA _ ho2) (hword 1)
    · exact two _ _ (hrg 1) rfl
    · exact ⟨hrg 3, fun a c e => by
        have := hrg 0
        rw [e] at this
        cases this⟩
    · exact ⟨gd_tup (by simp) fun d hd => by rw [List.mem_singleton.mp hd]; exact hrg 2, fun _ _ e => by cases e⟩
    · refine two _ _ (hrg 1) (gd_tup ?_ fun d hd => ?_)
      · simp
        omega
      · rcases List.mem_append.mp hd with hd | hd
        · rcases List.mem_append.mp hd with hd | hd
          · obtain ⟨s, hs, rfl⟩ := List.mem_map.mp hd
            exact gd_str (lab_voc _ (R.lsub _ (hm s (List.mem_of_mem_take hs))))
          · rw [List.mem_singleton.mp hd]
            exact hodg
        · obtain ⟨s, hs, rfl⟩ := List.mem_map.mp hd
          exact gd_str (lab_voc _ (R.lsub _ (hm s (List.mem_of_mem_drop hs))))
    · exact two _ _ (hrg 1) (gd_str (by decide +kernel))
    · exact two _ _ (hrg 1) (gd_str (by decide +kernel))
    · exact two _ _ (hrg 1) rfl
    · exact ⟨gd_tup (by simp) fun d hd => by
        simp only [List.mem_cons, List.not_mem_nil, or_false] at hd
        rcases hd with rfl | rfl | rfl
        · exact hrg 2
        · exact hword 1
        · exact hword 1, fun _ _ e => by cases e⟩
    · exact ⟨rfl, fun _ _ e => by cases e⟩
    · exact ⟨rfl, fun _ _ e => by cases e⟩
    · exact ⟨rfl, fun _ _ e => by cases e⟩
    · exact ⟨rfl, fun _ _ e => by cases e⟩
    · exact ⟨gd_str (by decide +kernel), fun _ _ e => by cases e⟩
    · exact two _ _ (hword 0) (hrg 2)
    · exact two _ _ (gd_str (by decide +kernel)) (hword 1)
    · exact ⟨by
        have h := hword 1
        simp only [gd, Bool.and_eq_true, List.all_eq_true, decide_eq_true_eq] at h ⊢
        refine ⟨⟨trivial, by simp⟩, fun kv hkv => ?_⟩
        rw [List.mem_singleton.mp hkv]
        exact ⟨hkeyg, by simp only [gd, Bool.and_eq_true, List.all_eq_true, decide_eq_true_eq]; exact h⟩, fun _ _ e => by cases e⟩
theorem zipped_self (f g : Fl) : ∀ xs : List D, zipped (xs.map fun x => (f, x)) (xs.map fun x => (g, x)) = xs.map fun x => (flBoth f g, .tup [x, x])
  | [] => rfl
  | x :: xs => by
    rw [List.map_cons, List.map_cons, List.map_cons]
    unfold zipped
    rw [zipped_self f g xs]
theorem same_seq {j : Nat} {b : Bool} {ds : List D} (hl : ds.length ≤ 1000) (ih : ∀ d ∈ ds, Runs (F__law_same j) [.fz d, .fz d] fun f r l => f = .own ∧ r = .bl true ∧ l = []) :
    Runs (F__law_same (j + 1)) [.fz (sq b ds), .fz (sq b ds)] fun f r l => f = .own ∧ r = .bl true ∧ l = [] := by
  have key : ∀ σ : List Sv, σ = [.fz .old (sq b ds), .fz .old (sq b ds), .und, .und] → wp (sRet (eAndV (eOp dEq (eCB dLen (aCons (eVar 0) aNil)) (eCB dLen (aCons (eVar 1) aNil))) (eCB dAll (aCons (eFz (eLc [2, 3] (mZip (eVar 0) (eVar 1)) (gTupM [(putV 2), (putV 3)]) mYes (eCall (F__law_same j) (aCons (eV (eVar 2)) (aCons (eV (eVar 3)) aNil))))) aNil)))) σ
      fun w σ => ∃ f d l, w = .ret f d ∧ outs [.fz (sq b ds), .fz (sq b ds)] σ = some l ∧ f = .own ∧ d = .bl true ∧ l = [] := by
    rintro σ rfl
    walk_at "wr"
    refine ⟨_, _, rfl, dLen_sq b ds, ?_⟩
    walk_at "wr"
    refine ⟨_, _, rfl, dLen_sq b ds, ?_⟩
    refine ⟨_, _, _, rfl, rfl, dEq_int _ _, ?_⟩
    rw [show ((ds.length : Int) == (ds.length : Int)) = true from beq_self_eq_true _]
    walk_at "wr"
    refine wp_allM (α := D) ?_
    refine wp_zip (wp_v (wp_var rfl ⟨_, _, rfl, wp_v (wp_var rfl ⟨_, _, rfl, _, _, _, _, _, _, rfl, items_sq _ b ds, rfl, items_sq _ b ds, rfl, ds, _, fun _ => true, zipped_self _ _ _, by omega, ?_, ?_⟩)⟩))
    · intro x hx
      refine ⟨_, rfl, ?_⟩
      walk_at "wr"
      refine Runs.imp (ih x hx) fun f r l ⟨e1, e2, e3⟩ => ?_
      subst e1 e2 e3
      walk_at "wr"
    · rw [show ds.all (fun _ => true) = true by simp]
      walk_at "wr"
  refine runs_of rfl ?_
  show wp (m__law_same (F__law_same j)) [.fz .old (sq b ds), .fz .old (sq b ds), .und, .und] _
  unfold m__law_same
  cases b with
  | true =>
    have key := key _ rfl
    unfold sq at key ⊢
    walk_at "wr"
    refine ⟨_, _, _, rfl, rfl, dNe_bl _ _, ?_⟩
    walk_at "wr"
    refine ⟨_, _, _, rfl, rfl, dNe_bl _ _, ?_⟩
    repeat (first | (refine wp_imp key (fun w σ' h => ?_)) | walk_at "wu")
    obtain ⟨f, d, l, rfl, h⟩ := h
    exact ⟨f, d, l, rfl, h⟩
  | false =>
    have key := key _ rfl
    unfold sq at key ⊢
    walk_at "wr"
    refine ⟨_, _, _, rfl, rfl, dNe_bl _ _, ?_⟩
    walk_at "wr"
    refine ⟨_, _, _, rfl, rfl, dNe_bl _ _, ?_⟩
    repeat (first | (refine wp_imp key (fun w σ' h => ?_)) | walk_at "wu")
    obtain ⟨f, d, l, rfl, h⟩ := h
    exact ⟨f, d, l, rfl, h⟩
theorem same_atom {j : Nat} {d : D} (h : isAtom d = true) (hs : ∀ s, d = .str s → PyData.strOk s = true) : Runs (F__law_same (j + 1)) [.fz d, .fz d] fun f r l => f = .own ∧ r = .bl true ∧ l = [] := by
  have hd : dEq d d = some (.bl true) := by
    cases d <;> first | (cases h; done) | skip
    · exact dEq_non
    · rw [dEq_bl, beq_self_eq_true]
    · rw [dEq_int, beq_self_eq_true]
    · rw [dEq_str (hs _ rfl) (hs _ rfl), beq_self_eq_true]
  refine runs_of rfl ?_
  show wp (m__law_same (F__law_same j)) [.fz .old d, .fz .old d, .und, .und] _
  unfold m__law_same
  cases d <;> first | (cases h; done) | skip
  all_goals
    walk_at "wr"
    refine ⟨_, _, _, rfl, rfl, dNe_bl _ _, ?_⟩
    walk_at "wr"
    refine ⟨_, _, _, rfl, rfl, hd, ?_⟩
    walk_at "wr"
theorem same_w {m : Nat} (hm : m ≤ 1000) : ∀ (k j : Nat) {d : D}, k ≤ j → gd false m k d = true → Runs (F__law_same (j + 1)) [.fz d, .fz d] fun f r l => f = .own ∧ r = .bl true ∧ l = []
  | k, j, d, hk, hg => by
    have atom : isAtom d = true → Runs (F__law_same (j + 1)) [.fz d, .fz d] fun f r l => f = .own ∧ r = .bl true ∧ l = [] := fun h => same_atom h fun s e => voc_ok s ((gd_okA hg).s s e)
    rcases seq_cases d with ⟨b, ds, rfl, -⟩ | ⟨h1, h2⟩
    · obtain ⟨k, rfl, hlen, hkids⟩ := gd_kids hg
      obtain ⟨j, rfl⟩ : ∃ j', j = j' + 1 := ⟨j - 1, by omega⟩
      exact same_seq (by omega) fun d hd => same_w hm k j (by omega) (hkids d hd)
    · refine atom ?_
      cases d <;> first | rfl | (cases h1; done) | skip
      all_goals first | (cases k <;> cases hg; done) | skip
/-! ### what repr tells is a text, not too long -/
structure TX (s : Str) (B : Nat) : Prop where
  ok : PyData.strOk s = true
  len : s.length ≤ B
theorem TX.le {s : Str} {B C : Nat} (h : TX s B) (k : B ≤ C) : TX s C := ⟨h.ok, Nat.le_trans h.len k⟩
theorem TX.app {s t : Str} {B C : Nat} (h : TX s B) (k : TX t C) : TX (s ++ t) (B + C) := by
  refine ⟨?_, ?_⟩
  · show (s ++ t).cps.all (· < 0x110000) = true
    rw [PySem.Str.cps_append, Array.all_append]
    rw [show s.cps.all (· < 0x110000) = true from h.ok, show t.cps.all (· < 0x110000) = true from k.ok]
    rfl
  · rw [strLen_append]
    exact Nat.add_le_add h.len k.len
theorem tx_comma : TX (", " : String) 2 := ⟨by kernel_rfl, by decide +kernel⟩
theorem tx_nil : TX ("" : String) 0 := ⟨by kernel_rfl, by decide +kernel⟩
theorem tx_join {B : Nat} : ∀ {ts : List Str}, (∀ t ∈ ts, TX t B) → TX (Str.join ", " ts) (ts.length * (B + 2))
  | [], _ => ⟨by kernel_rfl, Nat.zero_le _⟩
  | [x], h => (h x (by simp)).le (by simp)
  | x :: y :: r, h => by
    have ih := tx_join (ts := y :: r) fun t ht => h t (by simp [ht])
    have e : Str.join ", " (x :: y :: r) = x ++ ", " ++ Str.join ", " (y :: r) := rfl
    rw [e]
    refine (((h x (by simp)).app tx_comma).app ih).le ?_
    simp only [List.length_cons]
    have : (r.length + 1 + 1) * (B + 2) = (r.length + 1) * (B + 2) + (B + 2) := Nat.succ_mul _ _
    omega
theorem tx_from {B : Nat} : ∀ {ts : List Str} {k A : Nat} {acc : Str}, TX acc A → (∀ t ∈ ts, TX t B) → TX (textFrom k acc ts) (A + ts.length * (B + 2))
  | [], k, A, acc, ha, _ => ha.le (by simp)
  | t :: ts, k, A, acc, ha, h => by
    have hs : TX (if k > 0 then ", " else "" : String) 2 := by
      split
      · exact tx_comma
      · exact tx_nil.le (by omega)
    refine (tx_from (k := k + 1) ((ha.app hs).app (h t (by simp))) fun u hu => h u (by simp [hu])).le ?_
    simp only [List.length_cons]
    have : (ts.length + 1) * (B + 2) = ts.length * (B + 2) + (B + 2) := Nat.succ_mul _ _
    omega
theorem tx_list {B : Nat} {ts : List Str} (h : ∀ t ∈ ts, TX t B) : TX (listText ts) (ts.length * (B + 2) + 3) := by
  have h1 : TX ("[" : String) 1 := ⟨by kernel_rfl, by decide +kernel⟩
  have h2 : TX ("]" : String) 1 := ⟨by kernel_rfl, by decide +kernel⟩
  exact ((tx_from h1 h).app h2).le (by omega)
theorem tx_tup {B : Nat} {ts : List Str} (h : ∀ t ∈ ts, TX t B) : TX (tupleText ts) (ts.length * (B + 2) + 3) := by
  have h1 : TX ("(" : String) 1 := ⟨by kernel_rfl, by decide +kernel⟩
  have h2 : TX (if ts.length == 1 then ",)" else ")" : String) 2 := by
    split <;> exact ⟨by kernel_rfl, by decide +kernel⟩
  exact ((h1.app (tx_join h)).app h2).le (by omega)
theorem tx_dict {B : Nat} {ts : List Str} (h : ∀ t ∈ ts, TX t B) : TX (PySem.dictText ts) (ts.length * (B + 2) + 3) := by
  have h1 : TX ("{" : String) 1 := ⟨by kernel_rfl, by decide +kernel⟩
  have h2 : TX ("}" : String) 1 := ⟨by kernel_rfl, by decide +kernel⟩
  exact ((h1.app (tx_join h)).app h2).le (by omega)
def shB : Nat → Nat
  | 0 => 31
  | k + 1 => 10 * (shB k + 2) + 3
theorem shB_ge : ∀ k, 31 ≤ shB k
  | 0 => Nat.le_refl _
  | k + 1 => by
    have := shB_ge k
    show 31 ≤ 10 * (shB k + 2) + 3
    omega
theorem tx_str : ∀ s ∈ voc, TX (reprText s) 31 := by
  intro s hs
  have : voc.all (fun s => PyData.strOk (reprText s) && decide ((reprText s).length ≤ 31)) = true := by kernel_rfl
  have := List.all_eq_true.mp this s hs
  rw [Bool.and_eq_true, decide_eq_true_eq] at this
  exact ⟨this.1, this.2⟩
theorem tx_int {i : Int} (h : (-1 ≤ i ∧ i ≤ 100) ∨ i = 1000000000000000000000000000000) : TX (PyData.int i).shown 31 ∧ i.natAbs.log2 < 1920 := by
  rcases h with ⟨h1, h2⟩ | rfl
  · have hall : (List.range 102).all (fun n => PyData.strOk (PyData.int ((n : Int) - 1)).shown && decide ((PyData.int ((n : Int) - 1)).shown.length ≤ 31) && decide (((n : Int) - 1).natAbs.log2 < 1920)) = true := by decide +kernel
    have := List.all_eq_true.mp hall (i + 1).toNat (List.mem_range.mpr (by omega))
    have e : (((i + 1).toNat : Nat) : Int) - 1 = i := by omega
    rw [e] at this
    simp only [Bool.and_eq_true, decide_eq_true_eq] at this
    exact ⟨⟨this.1.1, this.1.2⟩, this.2⟩
  · exact ⟨⟨by decide +kernel, by decide +kernel⟩, by decide +kernel⟩
theorem tx_key {k : Key} (h : keyG k = true) : ∃ q, keyP k = some q ∧ TX q.shown 31 ∧ q.depth = 0 := by
  cases k with
  | inl i =>
    have hi := tx_int (.inl (of_decide_eq_true h))
    exact ⟨.int i, by unfold keyP; simp only; rw [if_pos hi.2], hi.1, by simp [PyData.depth]⟩
  | inr s => exact ⟨.str s, rfl, by simp only [PyData.shown]; exact tx_str s (List.contains_iff_mem.mp h), by simp [PyData.depth]⟩
theorem shown_all {k : Nat} : ∀ {ds : List D}, (∀ d ∈ ds, ∃ p, pyR d = some p ∧ TX p.shown (shB k) ∧ p.depth ≤ k) → ∃ ps, pyRL ds = some ps ∧ (∀ t ∈ PyData.shownAll ps, TX t (shB k)) ∧ (PyData.shownAll ps).length = ds.length ∧ PyData.depthAll ps ≤ k
  | [], _ => ⟨[], by unfold pyRL; rfl, by simp [PyData.shownAll], by simp [PyData.shownAll], by simp [PyData.depthAll]⟩
  | d :: ds, h => by
    obtain ⟨p, h1, h2, h3⟩ := h d (by simp)
    obtain ⟨ps, h4, h5, h6, h7⟩ := shown_all (ds := ds) fun e he => h e (by simp [he])
    refine ⟨p :: ps, by unfold pyRL; rw [h1, h4], ?_, ?_, ?_⟩
    · intro t ht
      simp only [PyData.shownAll, List.mem_cons] at ht
      rcases ht with rfl | ht
      · exact h2
      · exact h5 t ht
    · simp only [PyData.shownAll, List.length_cons, h6]
    · simp only [PyData.depthAll]
      omega
theorem shown_gd : ∀ (k : Nat) {d : D}, gd true 10 k d = true → ∃ p, pyR d = some p ∧ TX p.shown (shB k) ∧ p.depth ≤ k := by
  intro k
  induction k with
  | zero =>
    intro d h
    cases d with
    | non => exact ⟨.none, by unfold pyR; rfl, by simp only [PyData.shown]; exact ⟨by kernel_rfl, by decide +kernel⟩, by simp [PyData.depth]⟩
    | bl b => exact ⟨.bool b, by unfold pyR; rfl, by simp only [PyData.shown]; cases b <;> exact ⟨by kernel_rfl, by decide +kernel⟩, by simp [PyData.depth]⟩
    | int i =>
      have h : (decide (-1 ≤ i ∧ i ≤ 100) || decide (i = 1000000000000000000000000000000)) = true := h
      rw [Bool.or_eq_true, decide_eq_true_eq, decide_eq_true_eq] at h
      have hi := tx_int h
      exact ⟨.int i, by unfold pyR; rw [if_pos hi.2], hi.1, by simp [PyData.depth]⟩
    | str s => exact ⟨.str s, by unfold pyR; rfl, by simp only [PyData.shown]; exact tx_str s (List.contains_iff_mem.mp h), by simp [PyData.depth]⟩
    | tup _ => cases h
    | lst _ => cases h
    | dic _ => cases h
    | dit _ => cases h
    | ins _ _ => cases h
    | ty _ => cases h
    | cls _ => cases h
    | scr _ => cases h
  | succ k ih =>
    intro d h
    have hge := shB_ge k
    have hsucc : shB (k + 1) = 10 * (shB k + 2) + 3 := rfl
    have bound : ∀ n : Nat, n ≤ 10 → n * (shB k + 2) + 3 ≤ shB (k + 1) := fun n hn => by
      have := Nat.mul_le_mul_right (shB k + 2) hn
      omega
    cases d with
    | tup ds =>
      simp only [gd, Bool.and_eq_true, List.all_eq_true, decide_eq_true_eq] at h
      obtain ⟨ps, h1, h2, h3, h4⟩ := shown_all fun d hd => ih (h.2 d hd)
      refine ⟨.tuple ps, by unfold pyR; simp only [h1], ?_, ?_⟩
      · simp only [PyData.shown]
        exact (tx_tup h2).le (by rw [h3]; exact bound _ h.1)
      · simp only [PyData.depth]
        omega
    | lst ds =>
      simp only [gd, Bool.and_eq_true, List.all_eq_true, decide_eq_true_eq] at h
      obtain ⟨ps, h1, h2, h3, h4⟩ := shown_all fun d hd => ih (h.2 d hd)
      refine ⟨.list ps, by unfold pyR; simp only [h1], ?_, ?_⟩
      · simp only [PyData.shown]
        exact (tx_list h2).le (by rw [h3]; exact bound _ h.1)
      · simp only [PyData.depth]
        omega
    | dic kvs =>
      simp only [gd, Bool.and_eq_true, List.all_eq_true, decide_eq_true_eq] at h
      obtain ⟨⟨-, hlen⟩, hk⟩ := h
      cases kvs with
      | nil => exact ⟨.dict [], by unfold pyR pyRK; rfl, by simp only [PyData.shown, PyData.shownKv]; exact (show TX (PySem.dictText []) 31 from ⟨by kernel_rfl, by decide +kernel⟩).le (by omega), by simp [PyData.depth, PyData.depthKv]⟩
      | cons kv kvs =>
        obtain rfl : kvs = [] := List.length_eq_zero_iff.mp (by rw [List.length_cons] at hlen; omega)
        obtain ⟨key, e⟩ := kv
        have hkv := hk (key, e) (by simp)
        obtain ⟨q, q1, q2, q3⟩ := tx_key hkv.1
        obtain ⟨p, p1, p2, p3⟩ := ih hkv.2
        refine ⟨.dict [(q, p)], by unfold pyR pyRK pyRK; simp only [q1, p1], ?_, ?_⟩
        · simp only [PyData.shown, PyData.shownKv]
          have hc : TX (": " : String) 2 := ⟨by kernel_rfl, by decide +kernel⟩
          refine (tx_dict (B := 31 + 2 + shB k) fun t ht => ?_).le ?_
          · rw [List.mem_singleton.mp ht]
            exact (q2.app hc).app p2
          · simp only [List.length_singleton]
            omega
        · simp only [PyData.depth, PyData.depthKv, q3]
          omega
    | non => exact ⟨.none, by unfold pyR; rfl, by simp only [PyData.shown]; exact (show TX ("None" : String) 31 from ⟨by kernel_rfl, by decide +kernel⟩).le (by omega), by simp [PyData.depth]⟩
    | bl b => exact ⟨.bool b, by unfold pyR; rfl, by simp only [PyData.shown]; cases b <;> exact (show TX _ 31 from ⟨by kernel_rfl, by decide +kernel⟩).le (by omega), by simp [PyData.depth]⟩
    | int i =>
      have h : (decide (-1 ≤ i ∧ i ≤ 100) || decide (i = 1000000000000000000000000000000)) = true := h
      rw [Bool.or_eq_true, decide_eq_true_eq, decide_eq_true_eq] at h
      have hi := tx_int h
      exact ⟨.int i, by unfold pyR; rw [if_pos hi.2], hi.1.le (by omega), by simp [PyData.depth]⟩
    | str s => exact ⟨.str s, by unfold pyR; rfl, by simp only [PyData.shown]; exact (tx_str s (List.contains_iff_mem.mp h)).le (by omega), by simp [PyData.depth]⟩
    | dit _ => cases h
    | ins _ _ => cases h
    | ty _ => cases h
    | cls _ => cases h
    | scr _ => cases h
theorem repr_sq {k : Nat} {b : Bool} {ds : List D} (hk : k ≤ 3) (h : gd true 10 k (sq b ds) = true) : ∃ t, dRepr [sq b ds] = some (.str t) ∧ PyData.strOk t = true := by
  obtain ⟨p, h1, h2, h3⟩ := shown_gd k h
  have hb : shB k ≤ 100000 := by
    have : k = 0 ∨ k = 1 ∨ k = 2 ∨ k = 3 := by omega
    rcases this with rfl | rfl | rfl | rfl <;> decide
  refine ⟨p.shown, ?_, h2.ok⟩
  have hs : isSeq (sq b ds) = true := by cases b <;> rfl
  unfold dRepr
  show reprD (sq b ds) = _
  unfold reprD
  simp only [h1]
  rw [if_pos ⟨Nat.le_trans h2.len hb, by omega, hs⟩]
theorem repr_two {a c : D} (ha : gd true 10 3 a = true) (hc : gd true 10 3 c = true) : ∃ t, dRepr [.lst [a, c]] = some (.str t) ∧ PyData.strOk t = true := by
  obtain ⟨ps, h1, h2, h3, h4⟩ := shown_all (k := 3) (ds := [a, c]) fun d hd => by
    simp only [List.mem_cons, List.not_mem_nil, or_false] at hd
    rcases hd with rfl | rfl
    · exact shown_gd 3 ha
    · exact shown_gd 3 hc
  have ht := tx_list h2
  rw [h3] at ht
  refine ⟨listText (PyData.shownAll ps), ?_, ht.ok⟩
  unfold dRepr
  show reprD (.lst [a, c]) = _
  unfold reprD
  have e : pyR (.lst [a, c]) = some (.list ps) := by unfold pyR; simp only [h1]
  have esh : (PyData.list ps).shown = listText (PyData.shownAll ps) := by simp only [PyData.shown]
  simp only [e]
  rw [if_pos ⟨by rw [esh]; exact Nat.le_trans ht.len (show 2 * (shB 3 + 2) + 3 ≤ 100000 by decide), by simp only [PyData.depth]; omega, rfl⟩, esh]
/-! ### looseness changes no answer -/
theorem rootB_lo {n : Nat} {ps : List (List Str)} {k : Nat} {a e : D} (h : Lo k a e) : rootB n ps e = rootB n ps a := by
  cases k with
  | zero =>
    have : e = a := by cases a <;> exact h
    rw [this]
  | succ k =>
    cases a with
    | tup ds =>
      obtain ⟨b, es, rfl, -⟩ := h
      cases b <;> rfl
    | lst ds =>
      obtain ⟨b, es, rfl, -⟩ := h
      cases b <;> rfl
    | dic kvs =>
      obtain ⟨es, rfl, -⟩ := h
      rfl
    | _ => rw [show e = _ from h]
theorem labB_lo {ls : List Str} {k : Nat} {a e : D} (h : Lo k a e) : labB ls e = labB ls a := by
  cases k with
  | zero =>
    have : e = a := by cases a <;> exact h
    rw [this]
  | succ k =>
    cases a with
    | tup ds =>
      obtain ⟨b, es, rfl, -⟩ := h
      cases b <;> rfl
    | lst ds =>
      obtain ⟨b, es, rfl, -⟩ := h
      cases b <;> rfl
    | dic kvs =>
      obtain ⟨es, rfl, -⟩ := h
      rfl
    | _ => rw [show e = _ from h]
theorem all_lo {ls : List Str} {k : Nat} {ds es : List D} (h : All2 (Lo k) ds es) : es.all (labB ls) = ds.all (labB ls) := by
  induction h with
  | nil => rfl
  | cons h t ih => rw [List.all_cons, List.all_cons, ih, labB_lo h]
theorem wordB_lo {ls : List Str} {k : Nat} {a e : D} (h : Lo k a e) : wordB ls e = wordB ls a := by
  cases k with
  | zero =>
    have : e = a := by cases a <;> exact h
    rw [this]
  | succ k =>
    cases a with
    | tup ds =>
      obtain ⟨b, es, rfl, q⟩ := h
      cases b <;> exact all_lo q
    | lst ds =>
      obtain ⟨b, es, rfl, q⟩ := h
      cases b <;> exact all_lo q
    | dic kvs =>
      obtain ⟨es, rfl, -⟩ := h
      rfl
    | _ => rw [show e = _ from h]
theorem askB_lo {n : Nat} {ps : List (List Str)} {ls : List Str} {k : Nat} {a e : D} (h : Lo k a e) : askB n ps ls e = askB n ps ls a := by
  have q : ∀ {k : Nat} {b b' : Bool} {ds es : List D}, All2 (Lo k) ds es → askB n ps ls (sq b' es) = askB n ps ls (sq b ds) := by
    intro k b b' ds es h
    by_cases c : ds.length = 2
    · match ds, es, h, c with
      | [a, c], _, .cons h1 (.cons h2 .nil), _ => rw [askB_sq, askB_sq, rootB_lo h1, wordB_lo h2]
    · rw [askB_len c, askB_len (by rw [h.length]; exact c)]
  cases k with
  | zero =>
    have : e = a := by cases a <;> exact h
    rw [this]
  | succ k =>
    cases a with
    | tup ds =>
      obtain ⟨b, es, rfl, h⟩ := h
      exact q (b := false) h
    | lst ds =>
      obtain ⟨b, es, rfl, h⟩ := h
      exact q (b := true) h
    | dic kvs =>
      obtain ⟨es, rfl, -⟩ := h
      rfl
    | _ => rw [show e = _ from h]
theorem okF {σ : List Sv} {i : Nat} {s : Sv} (hs : σ[i]? = some s) (h : freeS s) : okSlot σ i = true := by
  unfold okSlot
  simp only [hs]
  rcases h.out with rfl | ⟨f, d, rfl⟩ <;> rfl
theorem dNe_str {a b : Str} (ha : PyData.strOk a = true) (hb : PyData.strOk b = true) : dNe (.str a) (.str b) = some (.bl (!(a == b))) := by
  unfold dNe
  rw [pyS_str ha, pyS_str hb]
  simp [PyData.eqv]
/-- a start as data, and loose -/
theorem start_gd {rs ls : List Str} {ps st : List (List Str)} {dc : Bool} (R : RawOk rs ls ps) (S : StOk rs st) : gd dc 10 2 (.lst (st.map lS)) = true := by
  refine gd_lst (by rw [List.length_map]; have := S.n; omega) fun d hd => ?_
  obtain ⟨s, hs, rfl⟩ := List.mem_map.mp hd
  exact gd_strs (b := true) (fun x hx => pool_voc _ (R.rsub _ (S.sub s hs x hx))) (by have := S.len s hs; omega)
theorem start_sq (st : List (List Str)) : D.lst (st.map lS) = sq true ((st.map fun s => (true, s)).map sS) ∧ (st.map fun s => (true, s)).map (fun x : Bool × List Str => x.2) = st := by
  refine ⟨?_, ?_⟩
  · rw [List.map_map]
    rfl
  · rw [List.map_map]
    exact List.map_id _
theorem start_lo {k : Nat} {st : List (List Str)} {e : D} (h : Lo (k + 2) (.lst (st.map lS)) e) : ∃ (b : Bool) (ys : List (Bool × List Str)), e = sq b (ys.map sS) ∧ ys.map (·.2) = st := by
  rw [(start_sq st).1] at h
  obtain ⟨b, ys, e1, e2⟩ := lo_SS h
  exact ⟨b, ys, e1, by rw [e2]; exact (start_sq st).2⟩
@[irreducible] def AskI (rs ls : List Str) (ps st : List (List Str)) (n : Int) (items pre : List (Fl × D)) (σ : List Sv) : Prop := items.length ≤ 50 ∧ (∀ x ∈ items, NearOk x.2) ∧ ∃ w' s4 s5 s6 s7 s8 s9, σ = [.io w', .fz .old (rawD rs ls ps), .fz .old (.lst (st.map lS)), .fz .old (bookD rs ls ps), s4, s5, s6, s7, s8, s9] ∧ W3 (n + 20 + 250000 * pre.length) w' ∧ freeS s4 ∧ freeS s5 ∧ freeS s6 ∧ freeS s7 ∧ freeS s8 ∧ freeS s9
theorem AskI.out {rs ls : List Str} {ps st : List (List Str)} {n : Int} {items pre : List (Fl × D)} {σ : List Sv} (h : AskI rs ls ps st n items pre σ) : items.length ≤ 50 ∧ (∀ x ∈ items, NearOk x.2) ∧ ∃ w' s4 s5 s6 s7 s8 s9, σ = [.io w', .fz .old (rawD rs ls ps), .fz .old (.lst (st.map lS)), .fz .old (bookD rs ls ps), s4, s5, s6, s7, s8, s9] ∧ W3 (n + 20 + 250000 * pre.length) w' ∧ freeS s4 ∧ freeS s5 ∧ freeS s6 ∧ freeS s7 ∧ freeS s8 ∧ freeS s9 := by
  unfold AskI at h
  exact h
theorem AskI.inn {rs ls : List Str} {ps st : List (List Str)} {n : Int} {items pre : List (Fl × D)} {w' : D} {s4 s5 s6 s7 s8 s9 : Sv} (h1 : items.length ≤ 50) (h2 : ∀ x ∈ items, NearOk x.2) (h3 : W3 (n + 20 + 250000 * pre.length) w') (h4 : freeS s4) (h5 : freeS s5) (h6 : freeS s6) (h7 : freeS s7) (h8 : freeS s8) (h9 : freeS s9) :
    AskI rs ls ps st n items pre [.io w', .fz .old (rawD rs ls ps), .fz .old (.lst (st.map lS)), .fz .old (bookD rs ls ps), s4, s5, s6, s7, s8, s9] := by
  unfold AskI
  exact ⟨h1, h2, _, _, _, _, _, _, _, rfl, h3, h4, h5, h6, h7, h8, h9⟩
theorem asked_right_w {n : Int} {w : D} {rs ls : List Str} {ps st : List (List Str)} (hw : W3 n w) (hn : n ≤ 50000000000) (R : RawOk rs ls ps) (S : StOk rs st) :
    Runs F__law_asked_right [.io w, .fz (rawD rs ls ps), .fz (.lst (st.map lS)), .fz (bookD rs ls ps)] fun f r l => r = .bl true ∧ ∃ w', l = [w'] ∧ W3 (n + 13000000) w' := by
  refine runs_of rfl ?_
  show wp m__law_asked_right [.io w, .fz .old (rawD rs ls ps), .fz .old (.lst (st.map lS)), .fz .old (bookD rs ls ps), .und, .und, .und, .und, .und, .und] _
  unfold m__law_asked_right
  refine wp_seq (wp_for (AskI rs ls ps st n) ?_)
  walk_at "wr"
  refine Runs.imp (near_w hw (by omega) R S) fun f r l ⟨ds, e1, e2, e3, w1, e4, hw1⟩ => ?_
  subst e1 e4
  walk_at "wr"
  refine ⟨_, _, _, rfl, rfl, AskI.inn (by rw [List.length_map]; exact e3) (fun x hx => by obtain ⟨d, hd, rfl⟩ := List.mem_map.mp hx; exact e2 d hd) (hw1.le (by simp)) free_und free_und free_und free_und free_und free_und, ?_, ?_⟩
  · intro pre fd post σ hit hI
    obtain ⟨hlen, hnear, w', s4, s5, s6, s7, s8, s9, rfl, hw', hs4, hs5, hs6, hs7, hs8, hs9⟩ := hI.out
    have hfd : NearOk fd.2 := hnear fd (by rw [hit]; simp)
    have hpl : pre.length < 50 := by
      have := congrArg List.length hit
      simp only [List.length_append, List.length_cons] at this
      omega
    walk_at "wr"
    have p3 : (62 : Int) ^ 3 = 238328 := by decide
    have p2 : (62 : Int) ^ 2 = 3844 := by decide
    refine Runs.imp (loose_w (m := 10) (by omega) 3 7 (by omega) (by omega) hw' (by omega) hfd.g) fun f hd l ⟨hlo, w2, el, hw2⟩ => ?_
    subst el
    walk_at "wr"
    refine Runs.imp (loose_w (m := 10) (by omega) 2 7 (by omega) (by omega) hw2 (by omega) (start_gd R S)) fun f gv l ⟨hlo2, w3, el, hw3⟩ => ?_
    obtain ⟨b, ys, rfl, eys⟩ := start_lo hlo2
    subst el
    have hhg := gd_lo hfd.g hlo
    have hgg := gd_lo (start_gd (dc := true) R S) hlo2
    obtain ⟨t, ht, hto⟩ := repr_two hhg (gd_mono (by omega) hgg)
    have S2 : StOk rs (ys.map (·.2)) := by rw [eys]; exact S
    walk_at "wr"
    refine ⟨_, _, putF rfl hs6, putF rfl hs7, ?_⟩
    walk_at "wr"
    refine ⟨_, _, rfl, ht, ?_⟩
    walk_at "wr"
    refine Runs.imp (m_is_asked_w (st := st) R (by omega) hfd.g hfd.t) fun f r l ⟨e1, e2, e3⟩ => ?_
    subst e1 e2 e3
    walk_at "wr"
    refine ⟨_, _, putF rfl hs8, putF rfl hs9, ?_⟩
    walk_at "wr"
    have eb : askB ys.length ps ls hd = askB st.length ps ls fd.2 := by
      rw [askB_lo hlo, ← eys, List.length_map]
    refine Runs.imp (is_asked_w (b := b) (xs := ys) R S2 (by omega) hhg) fun f r l ⟨e1, e2, e3⟩ => ?_
    rw [eb] at e2
    subst e1 e2 e3
    walk_at "wr"
    refine Runs.imp (is_asked_w (b := b) (xs := ys) R S2 (by omega) hhg) fun f r l ⟨e1, e2, e3⟩ => ?_
    rw [eb] at e2
    subst e1 e2 e3
    walk_at "wr"
    refine ⟨okF rfl hs5, ?_⟩
    walk_at "wr"
    have hb2 : gd false 10 1 (.lst [.bl (askB st.length ps ls fd.2), .bl (askB st.length ps ls fd.2)]) = true := rfl
    refine Runs.imp (same_w (m := 10) (by omega) 1 7 (by omega) hb2) fun f r l ⟨e1, e2, e3⟩ => ?_
    subst e1 e2 e3
    walk_at "wr"
    refine ⟨_, _, rfl, ht, ?_⟩
    walk_at "wr"
    refine ⟨_, _, _, rfl, rfl, dNe_str hto hto, ?_⟩
    rw [beq_self_eq_true]
    walk_at "wr"
    refine AskI.inn hlen hnear (hw3.le ?_) (free_fz _ _) (free_fz _ _) (free_fz _ _) (free_fz _ _) (free_fz _ _) (free_fz _ _)
    rw [List.length_append, List.length_singleton]
    push_cast
    omega
  · intro σ hI
    obtain ⟨hlen, hnear, w', s4, s5, s6, s7, s8, s9, rfl, hw', hs4, hs5, hs6, hs7, hs8, hs9⟩ := hI.out
    walk_at "wr"
    refine Runs.imp (is_asked_book R S) fun f r l ⟨e1, e2, e3⟩ => ?_
    subst e1 e2 e3
    walk_at "wr"
    exact hw'.le (by omega)
theorem W3.hard {n : Int} {d : D} (h : W3 n d) : kidsHard d = true := by
  obtain ⟨a, b, c, e, _⟩ := h.out
  rw [e]
  rfl
theorem worn_io {w : D} {σ σ' : List Sv} (hw : kidsHard w = true) (h : wornAll σ = some σ') : wornAll (.io w :: σ) = some (.io w :: σ') := by
  unfold wornAll
  rw [h]
  have : Sv.worn (.io w) = some (.io w) := by
    show (if kidsHard w = true then some (Sv.io w) else none) = _
    rw [if_pos hw]
  rw [this]
theorem gd_sp {m : Nat} (hm : m ≤ 5000) : ∀ {k : Nat} {d : D}, gd false m k d = true → spD d = true ∧ depD d ≤ k := by
  have all : ∀ {k : Nat} {ds : List D}, (∀ d ∈ ds, spD d = true ∧ depD d ≤ k) → spL ds = true ∧ depL ds ≤ k := by
    intro k ds
    induction ds with
    | nil => intro _; exact ⟨by unfold spL; rfl, by unfold depL; omega⟩
    | cons d ds ih =>
      intro h
      have h1 := h d (by simp)
      have h2 := ih fun e he => h e (by simp [he])
      exact ⟨by unfold spL; rw [h1.1, h2.1]; rfl, by unfold depL; omega⟩
  intro k
  induction k with
  | zero => intro d h; cases d <;> first | (cases h; done) | exact ⟨by unfold spD; rfl, by unfold depD; omega⟩
  | succ k ih =>
    intro d h
    cases d with
    | tup ds =>
      simp only [gd, Bool.and_eq_true, List.all_eq_true, decide_eq_true_eq] at h
      have := all fun d hd => ih (h.2 d hd)
      exact ⟨by unfold spD; exact this.1, by unfold depD; omega⟩
    | lst ds =>
      simp only [gd, Bool.and_eq_true, List.all_eq_true, decide_eq_true_eq] at h
      have := all fun d hd => ih (h.2 d hd)
      exact ⟨by unfold spD; rw [this.1, decide_eq_true (by omega)]; rfl, by unfold depD; omega⟩
    | non => exact ⟨by unfold spD; rfl, by unfold depD; omega⟩
    | bl _ => exact ⟨by unfold spD; rfl, by unfold depD; omega⟩
    | int _ => exact ⟨by unfold spD; rfl, by unfold depD; omega⟩
    | str _ => exact ⟨by unfold spD; rfl, by unfold depD; omega⟩
    | dic _ => cases h
    | dit _ => cases h
    | ins _ _ => cases h
    | ty _ => cases h
    | cls _ => cases h
    | scr _ => cases h
theorem cntL_le_of {c : Nat} : ∀ {ds : List D}, (∀ d ∈ ds, cntD d ≤ c) → cntL ds ≤ c * ds.length
  | [], _ => by unfold cntL; omega
  | d :: ds, h => by
    have h1 := h d (by simp)
    have h2 := cntL_le_of (ds := ds) fun e he => h e (by simp [he])
    unfold cntL
    rw [List.length_cons, Nat.mul_add, Nat.mul_one]
    omega
theorem cnt_strs (ss : List Str) : cntL (ss.map .str) = 0 := by
  have := cntL_le_of (c := 0) (ds := ss.map D.str) fun d hd => by
    obtain ⟨s, -, rfl⟩ := List.mem_map.mp hd
    unfold cntD
    omega
  omega
theorem cnt_lS (ss : List Str) : cntD (lS ss) = 1 := by
  unfold lS cntD
  rw [cnt_strs]
theorem cnt_lT (ps : List (List Str)) : cntD (lT ps) = 1 := by
  have := cntL_le_of (c := 0) (ds := ps.map tS) fun d hd => by
    obtain ⟨s, -, rfl⟩ := List.mem_map.mp hd
    unfold tS cntD
    rw [cnt_strs]
    omega
  unfold lT cntD
  omega
/-- what is due -/
theorem roots_fst (rs : List Str) (ps st : List (List Str)) : (rootPairs rs ps st).map (·.1) = rootsD rs ps st.length := by
  have e : ∀ (xs : List (List Str)) (i : Nat), (xs.zipIdx i).map (fun x => D.int (x.2 : Int)) = (List.range' i xs.length).map (fun (k : Nat) => D.int (k : Int)) := by
    intro xs
    induction xs with
    | nil => intro i; rfl
    | cons x xs ih => intro i; rw [List.zipIdx_cons, List.map_cons, ih, List.length_cons, List.range'_succ, List.map_cons]
  rw [List.map_append, List.map_map, List.map_map]
  have e1 := e st 0
  rw [← List.range_eq_range'] at e1
  exact (congrArg (fun l => l ++ (rootS rs ps).map D.str) e1)
abbrev toldD (rs ls : List Str) (ps st : List (List Str)) : D := .lst [lS (statesS rs), lT (movesS ls ps), .lst (rootsD rs ps st.length)]
abbrev firstsD (rs : List Str) (ps st : List (List Str)) : D := .lst ((rootPairs rs ps st).map (·.2))
theorem moves_voc {rs ls : List Str} {ps : List (List Str)} (R : RawOk rs ls ps) : ∀ q ∈ movesS ls ps, (∀ s ∈ q, s ∈ voc) ∧ q.length ≤ 10 := by
  intro q hq
  have hq := (sortG_perm _).mem_iff.mp hq
  rcases List.mem_append.mp hq with hq | hq
  · obtain ⟨p, hp, e⟩ := List.mem_filterMap.mp hq
    unfold derP at e
    split at e
    · injection e with e
      subst e
      have hp2 := R.pok p hp
      refine ⟨fun s hs => hp2.voc R.rsub R.lsub s (List.mem_of_mem_drop hs), ?_⟩
      rcases hp2 with ⟨w, r, rfl, _⟩ | ⟨w, r, s, rfl, _⟩ | ⟨r, l, s, rfl, _⟩ <;> simp
    · cases e
  · obtain ⟨l, hl, rfl⟩ := List.mem_map.mp hq
    refine ⟨fun s hs => ?_, by simp⟩
    simp only [List.mem_cons, List.not_mem_nil, or_false] at hs
    rcases hs with rfl | rfl | rfl
    · decide +kernel
    · exact lab_voc _ (R.lsub _ hl)
    · decide +kernel
theorem moves_len {rs ls : List Str} {ps : List (List Str)} (R : RawOk rs ls ps) : (movesS ls ps).length ≤ 40 := by
  have h1 := R.plen
  have h2 := R.llen
  have h3 : (ps.filterMap derP).length ≤ ps.length := List.length_filterMap_le _ _
  rw [(sortG_perm _).length_eq, List.length_append, List.length_map]
  omega
theorem told_gd {rs ls : List Str} {ps st : List (List Str)} (R : RawOk rs ls ps) (S : StOk rs st) : gd false 60 3 (toldD rs ls ps st) = true := by
  refine gd_lst (by simp) fun d hd => ?_
  simp only [List.mem_cons, List.not_mem_nil, or_false] at hd
  rcases hd with rfl | rfl | rfl
  · exact gd_strs (b := true) (states_sub R) (by have := states_len R; omega)
  · refine gd_lst (by rw [List.length_map]; have := moves_len R; omega) fun d hd => ?_
    obtain ⟨q, hq, rfl⟩ := List.mem_map.mp hd
    exact gd_strs (b := false) (moves_voc R q hq).1 (by have := (moves_voc R q hq).2; omega)
  · refine gd_lst ?_ fun d hd => ?_
    · have := rootPairs_len R S.n
      rw [← roots_fst, List.length_map]
      omega
    · rw [← roots_fst] at hd
      obtain ⟨x, hx, rfl⟩ := List.mem_map.mp hd
      rcases root_ok R S.n hx with ⟨s, e, hs⟩ | ⟨i, e, h1, h2⟩
      · rw [e]; exact gd_str hs
      · rw [e]; exact gd_int ⟨by omega, by omega⟩
theorem pair_snd {rs ls : List Str} {ps st : List (List Str)} (R : RawOk rs ls ps) (S : StOk rs st) {x : D × D} (h : x ∈ rootPairs rs ps st) : ∃ ss, x.2 = lS ss ∧ (∀ s ∈ ss, s ∈ voc) ∧ ss.length ≤ 3 := by
  rcases List.mem_append.mp h with h | h
  · obtain ⟨⟨s, i⟩, hx, rfl⟩ := List.mem_map.mp h
    have hx := List.mem_of_getElem? (List.mk_mem_zipIdx_iff_getElem?.mp hx)
    exact ⟨s, rfl, fun t ht => pool_voc _ (R.rsub _ (S.sub s hx t ht)), S.len s hx⟩
  · obtain ⟨s, hs, rfl⟩ := List.mem_map.mp h
    exact ⟨[s], rfl, fun t ht => by rw [List.mem_singleton.mp ht]; exact states_sub R s (List.mem_filter.mp hs).1, by simp⟩
theorem firsts_gd {rs ls : List Str} {ps st : List (List Str)} (R : RawOk rs ls ps) (S : StOk rs st) : gd false 60 2 (firstsD rs ps st) = true := by
  refine gd_lst (by rw [List.length_map]; have := rootPairs_len R S.n; omega) fun d hd => ?_
  obtain ⟨x, hx, rfl⟩ := List.mem_map.mp hd
  obtain ⟨ss, e, h1, h2⟩ := pair_snd R S hx
  rw [e]
  exact gd_strs (b := true) h1 (by omega)
theorem spoil_ok {rs ls : List Str} {ps st : List (List Str)} (R : RawOk rs ls ps) (S : StOk rs st) : spD (.lst [toldD rs ls ps st, firstsD rs ps st]) = true ∧ depD (.lst [toldD rs ls ps st, firstsD rs ps st]) < 8 ∧ cntD (.lst [toldD rs ls ps st, firstsD rs ps st]) ≤ 5000 := by
  have g : gd false 60 4 (.lst [toldD rs ls ps st, firstsD rs ps st]) = true := gd_lst (by simp) fun d hd => by
    simp only [List.mem_cons, List.not_mem_nil, or_false] at hd
    rcases hd with rfl | rfl
    · exact told_gd R S
    · exact gd_mono (by omega) (firsts_gd R S)
  have h := gd_sp (by omega) g
  refine ⟨h.1, by omega, ?_⟩
  have c1 : cntL ((rootPairs rs ps st).map (·.2)) ≤ 1 * ((rootPairs rs ps st).map (·.2)).length := cntL_le_of fun d hd => by
    obtain ⟨x, hx, rfl⟩ := List.mem_map.mp hd
    obtain ⟨ss, e, -⟩ := pair_snd R S hx
    rw [e, cnt_lS]
    omega
  have c2 : cntL (rootsD rs ps st.length) ≤ 0 * (rootsD rs ps st.length).length := cntL_le_of fun d hd => by
    rw [← roots_fst] at hd
    obtain ⟨x, hx, rfl⟩ := List.mem_map.mp hd
    rcases root_ok R S.n hx with ⟨s, e, hs⟩ | ⟨i, e, h1, h2⟩ <;> (rw [e]; unfold cntD; omega)
  have c3 := rootPairs_len R S.n
  rw [List.length_map] at c1
  have e1 : cntD (toldD rs ls ps st) = cntD (lS (statesS rs)) + (cntD (lT (movesS ls ps)) + (cntL (rootsD rs ps st.length) + 1 + 0)) + 1 := by
    show cntL _ + 1 = _
    simp only [cntL, cntD]
  have e2 : cntD (.lst [toldD rs ls ps st, firstsD rs ps st]) = cntD (toldD rs ls ps st) + (cntL ((rootPairs rs ps st).map (·.2)) + 1 + 0) + 1 := by
    simp only [cntL, cntD]
  rw [e2, e1, cnt_lS, cnt_lT]
  omega
/-- the slots ahead of each turn -/
@[irreducible] def TolI (rs ls : List Str) (ps st : List (List Str)) (b : Bool) (ys : List (Bool × List Str)) (t : Str) (n : Int) (items pre : List (Fl × D)) (σ : List Sv) : Prop := ∃ w' f1 f2 f3 s4 f7 f8 f9 s10, σ = [.io w', .fz f1 (rawD rs ls ps), .fz f2 (.lst (st.map lS)), .fz f3 (bookD rs ls ps), s4, .und, .und, .fz f7 (sq b (ys.map sS)), .fz f8 (.lst ((rootPairs rs ps st).map pairD)), .fz f9 (.str t), s10, .und, .und] ∧ W3 n w' ∧ freeS s4 ∧ Holds s10 (toldD rs ls ps st)
theorem TolI.out {rs ls : List Str} {ps st : List (List Str)} {b : Bool} {ys : List (Bool × List Str)} {t : Str} {n : Int} {items pre : List (Fl × D)} {σ : List Sv} (h : TolI rs ls ps st b ys t n items pre σ) : ∃ w' f1 f2 f3 s4 f7 f8 f9 s10, σ = [.io w', .fz f1 (rawD rs ls ps), .fz f2 (.lst (st.map lS)), .fz f3 (bookD rs ls ps), s4, .und, .und, .fz f7 (sq b (ys.map sS)), .fz f8 (.lst ((rootPairs rs ps st).map pairD)), .fz f9 (.str t), s10, .und, .und] ∧ W3 n w' ∧ freeS s4 ∧ Holds s10 (toldD rs ls ps st) := by
  unfold TolI at h
  exact h
theorem TolI.inn {rs ls : List Str} {ps st : List (List Str)} {b : Bool} {ys : List (Bool × List Str)} {t : Str} {n : Int} {items pre : List (Fl × D)} {w' : D} {f1 f2 f3 f7 f8 f9 : Fl} {s4 s10 : Sv} (hw : W3 n w') (h4 : freeS s4) (h10 : Holds s10 (toldD rs ls ps st)) :
    TolI rs ls ps st b ys t n items pre [.io w', .fz f1 (rawD rs ls ps), .fz f2 (.lst (st.map lS)), .fz f3 (bookD rs ls ps), s4, .und, .und, .fz f7 (sq b (ys.map sS)), .fz f8 (.lst ((rootPairs rs ps st).map pairD)), .fz f9 (.str t), s10, .und, .und] := by
  unfold TolI
  exact ⟨_, _, _, _, _, _, _, _, _, rfl, hw, h4, h10⟩
theorem aged {rs ls : List Str} {ps st : List (List Str)} {b : Bool} {ys : List (Bool × List Str)} {t : Str} {w' : D} {f1 f2 f3 f4 f7 f8 f9 : Fl} {d4 : D} {s10 : Sv} (h : Holds s10 (toldD rs ls ps st)) :
    (frzAll [1, 2, 3, 4, 5, 6, 7, 8, 9, 10, 11, 12] [.io w', .fz f1 (rawD rs ls ps), .fz f2 (.lst (st.map lS)), .fz f3 (bookD rs ls ps), .fz f4 d4, .und, .und, .fz f7 (sq b (ys.map sS)), .fz f8 (.lst ((rootPairs rs ps st).map pairD)), .fz f9 (.str t), s10, .und, .und]).map Sv.age =
      [.io w', .fz .old (rawD rs ls ps), .fz .old (.lst (st.map lS)), .fz .old (bookD rs ls ps), .fz .old d4, .und, .und, .fz .old (sq b (ys.map sS)), .fz .old (.lst ((rootPairs rs ps st).map pairD)), .fz .old (.str t), .fz .old (toldD rs ls ps st), .und, .und] := by
  rcases h.out with ⟨o, rfl⟩ | ⟨f, rfl⟩ <;> simp [frzAll, frz, Sv.age]
theorem first_states_st {rs ls : List Str} {ps st : List (List Str)} {a c : D} (R : RawOk rs ls ps) (S : StOk rs st) (h : (a, c) ∈ rootPairs rs ps st) :
    Runs F_first_states [.fz (bookD rs ls ps), .fz (.lst (st.map lS)), .fz a] fun f r l => f = .own ∧ r = c ∧ l = [] := by
  rw [(start_sq st).1]
  exact first_states_w R (by rw [(start_sq st).2]; exact S) (by rw [(start_sq st).2]; exact h)
theorem told_right_w {n : Int} {w : D} {rs ls : List Str} {ps st : List (List Str)} (hw : W3 n w) (hn : n ≤ 50000000000) (R : RawOk rs ls ps) (S : StOk rs st) :
    Runs F__law_told_right [.io w, .fz (rawD rs ls ps), .fz (.lst (st.map lS)), .fz (bookD rs ls ps)] fun f r l => r = .bl true ∧ ∃ w', l = [w'] ∧ W3 (n + 4000) w' := by
  have p2 : (62 : Int) ^ 2 = 3844 := by decide
  have h11 := rootPairs_len R S.n
  refine runs_of rfl ?_
  show wp m__law_told_right [.io w, .fz .old (rawD rs ls ps), .fz .old (.lst (st.map lS)), .fz .old (bookD rs ls ps), .und, .und, .und, .und, .und, .und, .und, .und, .und] _
  unfold m__law_told_right
  walk_at "wr"
  refine Runs.imp (loose_w (m := 10) (by omega) 2 7 (by omega) (by omega) hw (by omega) (start_gd R S)) fun fl gv l ⟨hlo2, w1, el, hw1⟩ => ?_
  obtain ⟨b, ys, rfl, eys⟩ := start_lo hlo2
  subst el
  have hgg := gd_lo (start_gd (dc := true) R S) hlo2
  obtain ⟨t, ht, hto⟩ := repr_sq (by omega) hgg
  have S2 : StOk rs (ys.map (·.2)) := by rw [eys]; exact S
  have hyl : ys.length = st.length := by rw [← eys, List.length_map]
  walk_at "wr"
  refine Runs.imp (m_roots_w R S.n) fun f r l ⟨e1, e2⟩ => ?_
  subst e1 e2
  walk_at "wr"
  generalize (if [(flOut fl, sq b (ys.map sS)), (flOut f, D.lst ((rootPairs rs ps st).map pairD))].all Fl.isOwn = true then Fl.own else Fl.any) = f78
  refine ⟨_, _, rfl, ht, ?_⟩
  walk_at "wr"
  refine Runs.imp (m_states_w R) fun f r l ⟨e1, e2, e3⟩ => ?_
  subst e1 e2 e3
  walk_at "wr"
  refine Runs.imp (m_moves_w R) fun f r l ⟨e1, e2, e3⟩ => ?_
  subst e1 e2 e3
  walk_at "wr"
  refine wp_lcM (α := D × D) ?_
  walk_at "wr"
  refine ⟨rootPairs rs ps st, fun x => (flKid (flKid f78), pairD x), fun x => (flKid (flKid (flKid f78)), x.1), List.map_map, by omega, ?_, ?_⟩
  · intro x hx
    refine ⟨_, rfl, ?_⟩
    walk_at "wr"
  · rw [roots_fst]
    walk_at "wr"
    refine wp_for (TolI rs ls ps st b ys t (n + 4000)) ?_
    walk_at "wr"
    refine ⟨TolI.inn (hw1.le (by omega)) free_und (holds_mu _ _), ?_, ?_⟩
    · intro pre fd post σ hit hI
      obtain ⟨w', f1, f2, f3, s4, f7, f8, f9, s10, rfl, hw', hs4, hs10⟩ := hI.out
      refine ⟨_, putF rfl hs4, ?_⟩
      refine wp_epoch ?_
      dsimp only [List.set]
      rw [aged hs10]
      walk_at "wr"
      refine Runs.imp (states_of_w R) fun f r l ⟨e1, e2, e3⟩ => ?_
      subst e1 e2 e3
      walk_at "wr"
      refine Runs.imp (moves_of_w R) fun f r l ⟨e1, e2, e3⟩ => ?_
      subst e1 e2 e3
      walk_at "wr"
      refine Runs.imp (roots_of_w (b := b) R S2) fun f r l ⟨e1, e2, e3⟩ => ?_
      subst e1 e2 e3
      rw [hyl]
      walk_at "wr"
      refine wp_lcM (α := D × D) ?_
      walk_at "wr"
      refine ⟨rootPairs rs ps st, fun x => (.old, pairD x), fun x => (.own, x.2), List.map_map, by omega, ?_, ?_⟩
      · intro x hx
        refine ⟨_, rfl, ?_⟩
        walk_at "wr"
        refine Runs.imp (first_states_w (b := b) (xs := ys) (c := x.2) R S2 (by rw [eys]; exact hx)) fun f r l ⟨e1, e2, e3⟩ => ?_
        subst e1 e2 e3
        walk_at "wr"
      · rw [own_f]
        walk_at "wr"
        refine Runs.imp (same_w (m := 60) (by omega) 3 7 (by omega) (told_gd R S)) fun f r l ⟨e1, e2, e3⟩ => ?_
        subst e1 e2 e3
        walk_at "wr"
        refine wp_lcM (α := D × D) ?_
        walk_at "wr"
        refine ⟨rootPairs rs ps st, fun x => (.old, pairD x), fun x => (.old, x.2), List.map_map, by omega, ?_, ?_⟩
        · intro x hx
          refine ⟨_, rfl, ?_⟩
          walk_at "wr"
        · walk_at "wr"
          refine Runs.imp (same_w (m := 60) (by omega) 2 7 (by omega) (firsts_gd R S)) fun f r l ⟨e1, e2, e3⟩ => ?_
          subst e1 e2 e3
          walk_at "wr"
          refine ⟨_, _, rfl, ht, ?_⟩
          walk_at "wr"
          refine ⟨_, _, _, rfl, rfl, dNe_str hto hto, ?_⟩
          rw [beq_self_eq_true]
          walk_at "wr"
          refine wp_spoil ?_
          walk_at "wr"
          refine ⟨.lst [toldD rs ls ps st, firstsD rs ps st], [.io w', .fz .old (rawD rs ls ps), .fz .old (.lst (st.map lS)), .fz .old (bookD rs ls ps), .fz .old fd.2, .und, .und, .fz .old (sq b (ys.map sS)), .fz .old (.lst ((rootPairs rs ps st).map pairD)), .fz .old (.str t), .fz .old (toldD rs ls ps st), .und, .und], rfl, worn_io hw'.hard rfl, spoil_ok R S, ?_⟩
          exact TolI.inn hw' (free_fz _ _) (holds_fz _ _)
    · intro σ hI
      obtain ⟨w', f1, f2, f3, s4, f7, f8, f9, s10, rfl, hw', hs4, hs10⟩ := hI.out
      walk_at "wr"
      refine Runs.imp (states_of_w R) fun f r l ⟨e1, e2, e3⟩ => ?_
      subst e1 e2 e3
      walk_at "wr"
      refine Runs.imp (moves_of_w R) fun f r l ⟨e1, e2, e3⟩ => ?_
      subst e1 e2 e3
      walk_at "wr"
      refine Runs.imp (roots_of_w (b := b) R S2) fun f r l ⟨e1, e2, e3⟩ => ?_
      subst e1 e2 e3
      rw [hyl]
      walk_at "wr"
      refine wp_lcM (α := D × D) ?_
      walk_at "wr"
      refine ⟨rootPairs rs ps st, fun x => (flKid f8, pairD x), fun x => (.own, x.2), List.map_map, by omega, ?_, ?_⟩
      · intro x hx
        refine ⟨_, rfl, ?_⟩
        walk_at "wr"
        refine Runs.imp (first_states_st (c := x.2) R S hx) fun f r l ⟨e1, e2, e3⟩ => ?_
        subst e1 e2 e3
        walk_at "wr"
      · rw [own_f]
        walk_at "wr"
        refine Runs.imp (same_w (m := 60) (by omega) 3 7 (by omega) (told_gd R S)) fun f r l ⟨e1, e2, e3⟩ => ?_
        subst e1 e2 e3
        walk_at "wr"
        refine wp_lcM (α := D × D) ?_
        walk_at "wr"
        refine ⟨rootPairs rs ps st, fun x => (flKid f8, pairD x), fun x => (flKid (flKid f8), x.2), List.map_map, by omega, ?_, ?_⟩
        · intro x hx
          refine ⟨_, rfl, ?_⟩
          walk_at "wr"
        · walk_at "wr"
          refine Runs.imp (same_w (m := 60) (by omega) 2 7 (by omega) (firsts_gd R S)) fun f r l ⟨e1, e2, e3⟩ => ?_
          subst e1 e2 e3
          walk_at "wr"
          exact hw'
/-- a slot that may be written -/
@[irreducible] def OpenS (s : Sv) : Prop := freeS s ∨ ∃ o d, s = .mu o d
theorem OpenS.ok {σ : List Sv} {i : Nat} {s : Sv} (hs : σ[i]? = some s) (h : OpenS s) : okSlot σ i = true := by
  unfold OpenS at h
  rcases h with h | ⟨o, d, rfl⟩
  · exact okF hs h
  · unfold okSlot
    simp only [hs]
theorem OpenS.mu (o : Bool) (d : D) : OpenS (.mu o d) := by
  unfold OpenS
  exact .inr ⟨o, d, rfl⟩
theorem OpenS.und : OpenS .und := by
  unfold OpenS
  exact .inl free_und
/-- the three starts of one book -/
@[irreducible] def LawI (ns : List Int) (d1 d3 : Sv) (rs ls : List Str) (ps : List (List Str)) (n : Int) (items pre : List (Fl × D)) (σ : List Sv) : Prop :=
  items.length = 3 ∧ (∀ x ∈ items, ∃ st, x.2 = .lst (st.map lS) ∧ StOk rs st) ∧ ∃ w' o f4 f5 s6 s7 s8, σ = [.fz .old (.scr ns), d1, .mu o w', d3, .fz f4 (rawD rs ls ps), .fz f5 (bookD rs ls ps), s6, s7, s8] ∧ W3 (n + 14000000 * pre.length) w' ∧ freeS s6 ∧ freeS s7 ∧ freeS s8
theorem LawI.out {ns : List Int} {d1 d3 : Sv} {rs ls : List Str} {ps : List (List Str)} {n : Int} {items pre : List (Fl × D)} {σ : List Sv} (h : LawI ns d1 d3 rs ls ps n items pre σ) :
  items.length = 3 ∧ (∀ x ∈ items, ∃ st, x.2 = .lst (st.map lS) ∧ StOk rs st) ∧ ∃ w' o f4 f5 s6 s7 s8, σ = [.fz .old (.scr ns), d1, .mu o w', d3, .fz f4 (rawD rs ls ps), .fz f5 (bookD rs ls ps), s6, s7, s8] ∧ W3 (n + 14000000 * pre.length) w' ∧ freeS s6 ∧ freeS s7 ∧ freeS s8 := by
  unfold LawI at h
  exact h
theorem LawI.inn {ns : List Int} {d1 d3 : Sv} {rs ls : List Str} {ps : List (List Str)} {n : Int} {items pre : List (Fl × D)} {w' : D} {o : Bool} {f4 f5 : Fl} {s6 s7 s8 : Sv} (h1 : items.length = 3) (h2 : ∀ x ∈ items, ∃ st, x.2 = .lst (st.map lS) ∧ StOk rs st) (h3 : W3 (n + 14000000 * pre.length) w') (h6 : freeS s6) (h7 : freeS s7) (h8 : freeS s8) :
    LawI ns d1 d3 rs ls ps n items pre [.fz .old (.scr ns), d1, .mu o w', d3, .fz f4 (rawD rs ls ps), .fz f5 (bookD rs ls ps), s6, s7, s8] := by
  unfold LawI
  exact ⟨h1, h2, _, _, _, _, _, _, _, rfl, h3, h6, h7, h8⟩
/-- the turns of one well -/
@[irreducible] def TurnI (ns : List Int) (d1 : Sv) (items pre : List (Fl × D)) (σ : List Sv) : Prop :=
  items.length = 4 ∧ ∃ w' o s3 s4 s5 s6 s7 s8, σ = [.fz .old (.scr ns), d1, .mu o w', s3, s4, s5, s6, s7, s8] ∧ W3 (50000000 * pre.length) w' ∧ freeS s3 ∧ freeS s4 ∧ freeS s5 ∧ freeS s6 ∧ freeS s7 ∧ freeS s8
theorem TurnI.out {ns : List Int} {d1 : Sv} {items pre : List (Fl × D)} {σ : List Sv} (h : TurnI ns d1 items pre σ) :
  items.length = 4 ∧ ∃ w' o s3 s4 s5 s6 s7 s8, σ = [.fz .old (.scr ns), d1, .mu o w', s3, s4, s5, s6, s7, s8] ∧ W3 (50000000 * pre.length) w' ∧ freeS s3 ∧ freeS s4 ∧ freeS s5 ∧ freeS s6 ∧ freeS s7 ∧ freeS s8 := by
  unfold TurnI at h
  exact h
theorem TurnI.inn {ns : List Int} {d1 : Sv} {items pre : List (Fl × D)} {w' : D} {o : Bool} {s3 s4 s5 s6 s7 s8 : Sv} (h1 : items.length = 4) (h2 : W3 (50000000 * pre.length) w') (h3 : freeS s3) (h4 : freeS s4) (h5 : freeS s5) (h6 : freeS s6) (h7 : freeS s7) (h8 : freeS s8) :
    TurnI ns d1 items pre [.fz .old (.scr ns), d1, .mu o w', s3, s4, s5, s6, s7, s8] := by
  unfold TurnI
  exact ⟨h1, _, _, _, _, _, _, _, _, rfl, h2, h3, h4, h5, h6, h7, h8⟩
/-- the wells -/
@[irreducible] def PlaceI (ns : List Int) (items pre : List (Fl × D)) (σ : List Sv) : Prop :=
  (∀ x ∈ items, ∃ p : Int, x.2 = .int p ∧ 0 ≤ p ∧ p ≤ 100) ∧ ∃ s1 s2 s3 s4 s5 s6 s7 s8, σ = [.fz .old (.scr ns), s1, s2, s3, s4, s5, s6, s7, s8] ∧ freeS s1 ∧ OpenS s2 ∧ freeS s3 ∧ freeS s4 ∧ freeS s5 ∧ freeS s6 ∧ freeS s7 ∧ freeS s8
theorem PlaceI.out {ns : List Int} {items pre : List (Fl × D)} {σ : List Sv} (h : PlaceI ns items pre σ) :
  (∀ x ∈ items, ∃ p : Int, x.2 = .int p ∧ 0 ≤ p ∧ p ≤ 100) ∧ ∃ s1 s2 s3 s4 s5 s6 s7 s8, σ = [.fz .old (.scr ns), s1, s2, s3, s4, s5, s6, s7, s8] ∧ freeS s1 ∧ OpenS s2 ∧ freeS s3 ∧ freeS s4 ∧ freeS s5 ∧ freeS s6 ∧ freeS s7 ∧ freeS s8 := by
  unfold PlaceI at h
  exact h
theorem PlaceI.inn {ns : List Int} {items pre : List (Fl × D)} {s1 s2 s3 s4 s5 s6 s7 s8 : Sv} (h0 : ∀ x ∈ items, ∃ p : Int, x.2 = .int p ∧ 0 ≤ p ∧ p ≤ 100) (h1 : freeS s1) (h2 : OpenS s2) (h3 : freeS s3) (h4 : freeS s4) (h5 : freeS s5) (h6 : freeS s6) (h7 : freeS s7) (h8 : freeS s8) :
    PlaceI ns items pre [.fz .old (.scr ns), s1, s2, s3, s4, s5, s6, s7, s8] := by
  unfold PlaceI
  exact ⟨h0, _, _, _, _, _, _, _, _, rfl, h1, h2, h3, h4, h5, h6, h7, h8⟩
theorem law_w (ns : List Int) (h : ns.length ≤ 63) : Runs F_law [.fz (.scr ns)] fun f r l => r = .bl true ∧ l = [] := by
  refine runs_of rfl ?_
  show wp m_law [.fz .old (.scr ns), .und, .und, .und, .und, .und, .und, .und, .und] _
  unfold m_law
  refine wp_seq (wp_for (PlaceI ns) ?_)
  walk_at "wr"
  refine ⟨PlaceI.inn ?_ free_und OpenS.und free_und free_und free_und free_und free_und free_und, ?_, ?_⟩
  · intro x hx
    obtain ⟨k, hk, rfl⟩ := List.mem_map.mp hx
    have := List.mem_range.mp hk
    exact ⟨_, rfl, by omega, by omega⟩
  · intro pre fd post σ hit hI
    obtain ⟨hP, s1, s2, s3, s4, s5, s6, s7, s8, rfl, hs1, hs2, hs3, hs4, hs5, hs6, hs7, hs8⟩ := hI.out
    obtain ⟨p, ep, p0, p1⟩ := hP fd (by rw [hit]; simp)
    obtain ⟨ff, fd⟩ := fd
    dsimp only at ep
    subst ep
    walk_at "wr"
    refine Runs.imp (well_w p0 p1 h) fun f w l ⟨e1, e2, hw⟩ => ?_
    subst e1 e2
    refine ⟨rfl, by rw [hw.hard]; rfl, OpenS.ok rfl hs2, ?_⟩
    refine wp_for (TurnI ns (.fz ff (.int p))) ?_
    walk_at "wr"
    refine ⟨TurnI.inn rfl (hw.le (by simp)) hs3 hs4 hs5 hs6 hs7 hs8, ?_, ?_⟩
    · intro pre2 fd2 post2 σ hit2 hI2
      obtain ⟨hlen, w, o, s3, s4, s5, s6, s7, s8, rfl, hw, hs3, hs4, hs5, hs6, hs7, hs8⟩ := hI2.out
      have hpl : pre2.length < 4 := by
        have := congrArg List.length hit2
        rw [hlen] at this
        simp only [List.length_append, List.length_cons] at this
        omega
      walk_at "wr"
      refine Runs.imp (draw_w (m := 22) hw (by omega) (by omega) (by omega)) fun f d l ⟨ef, k, ed, k0, k1, w1, el, hw1⟩ => ?_
      subst ef ed el
      walk_at "wr"
      refine Runs.imp (book_w hw1 (by omega) k0 k1) fun f d l ⟨rs, ls, ps, ed, R, w2, el, hw2⟩ => ?_
      subst ed el
      walk_at "wr"
      refine Runs.imp (start_w hw2 (by omega) R) fun f d l ⟨st, ed, S, w3, el, hw3⟩ => ?_
      subst ed el
      walk_at "wr"
      refine Runs.imp (passed_w hw3 (by omega) R) fun f d l ⟨x1, x2, b, xs, ed, h1, h2, h3, w4, el, hw4⟩ => ?_
      subst ed el
      walk_at "wr"
      refine ⟨_, _, putF rfl hs7, putF rfl hs8, ?_⟩
      walk_at "wr"
      refine Runs.imp (book_init_w (b := b) R h1 h2 h3) fun f r l ⟨e1, e2⟩ => ?_
      subst e1 e2
      walk_at "wr"
      refine wp_for (LawI ns (.fz ff (.int p)) (.fz fd2.1 fd2.2) rs ls ps (50000000 * pre2.length + 20000)) ?_
      walk_at "wr"
      refine Runs.imp (start_w hw4 (by omega) R) fun f d l ⟨st2, ed, S2, w5, el, hw5⟩ => ?_
      subst ed el
      walk_at "wr"
      refine ⟨_, _, _, rfl, rfl, LawI.inn rfl ?_ (hw5.le (by simp; omega)) hs6 (free_fz _ _) (free_fz _ _), ?_, ?_⟩
      · intro x hx
        simp only [List.map_cons, List.map_nil, List.mem_cons, List.not_mem_nil, or_false] at hx
        rcases hx with rfl | rfl | rfl
        · exact ⟨st, rfl, S⟩
        · exact ⟨st2, rfl, S2⟩
        · exact ⟨st, rfl, S⟩
      · intro pre3 fd3 post3 σ hit3 hI3
        obtain ⟨hlen3, hst, w, o, f4, f5, s6, s7, s8, rfl, hw, hs6, hs7, hs8⟩ := hI3.out
        have hpl3 : pre3.length < 3 := by
          have := congrArg List.length hit3
          rw [hlen3] at this
          simp only [List.length_append, List.length_cons] at this
          omega
        obtain ⟨st3, e3, S3⟩ := hst fd3 (by rw [hit3]; simp)
        obtain ⟨f6, fd3⟩ := fd3
        dsimp only at e3
        subst e3
        walk_at "wr"
        refine Runs.imp (told_right_w hw (by omega) R S3) fun f r l ⟨e1, w6, e2, hw6⟩ => ?_
        subst e1 e2
        walk_at "wr"
        refine Runs.imp (asked_right_w hw6 (by omega) R S3) fun f r l ⟨e1, w7, e2, hw7⟩ => ?_
        subst e1 e2
        walk_at "wr"
        refine LawI.inn hlen3 hst (hw7.le ?_) (free_fz _ _) hs7 hs8
        rw [List.length_append, List.length_singleton]
        push_cast
        omega
      · intro σ hI3
        obtain ⟨hlen3, hst, w, o, f4, f5, s6, s7, s8, rfl, hw, hs6, hs7, hs8⟩ := hI3.out
        rw [hlen3] at hw
        refine TurnI.inn hlen (hw.le ?_) (free_fz _ _) (free_fz _ _) (free_fz _ _) hs6 hs7 hs8
        rw [List.length_append, List.length_singleton]
        push_cast
        omega
    · intro σ hI2
      obtain ⟨hlen, w, o, s3, s4, s5, s6, s7, s8, rfl, hw, hs3, hs4, hs5, hs6, hs7, hs8⟩ := hI2.out
      exact PlaceI.inn hP (free_fz _ _) (OpenS.mu _ _) hs3 hs4 hs5 hs6 hs7 hs8
  · intro σ hI
    obtain ⟨hP, s1, s2, s3, s4, s5, s6, s7, s8, rfl, hs1, hs2, hs3, hs4, hs5, hs6, hs7, hs8⟩ := hI.out
    walk_at "wr"
theorem law_true (ns : List Int) (h : ns.length ≤ 63) : ∃ f, F_law [.fz (.scr ns)] = .ok ((f, .bl true), []) := by
  have := law_w ns h
  obtain ⟨f, d, l, e, e1, e2⟩ := this.out
  subst e1 e2
  exact ⟨f, e⟩
end Uw.K12

set_option Elab.async false
set_option linter.all false
set_option maxRecDepth 100000
set_option maxHeartbeats 0
open PySem PySem.W PySem.Calls PyProof.Rows
theorem PySem.Challenge.cw_underwraps_k12_whole_roots_and_asked_key_holds : PySem.Challenge.rw_underwraps_k12_whole_roots_and_asked_key.Holds := by
  w_on; o_law
  refine HandSHeadRun.head_any (r := OpenLaw.row PySem.Challenge.rw_underwraps_k12_whole_roots_and_asked_key) (q := view (OpenLaw.row PySem.Challenge.rw_underwraps_k12_whole_roots_and_asked_key).prog [62]) (H := Uw.K12.hk) (ob := Uw.K12.ob) (M := 5000) (loose := Uw.K12.hloose) (d := HandSHeadRun.topDef (OpenLaw.row PySem.Challenge.rw_underwraps_k12_whole_roots_and_asked_key).prog 62) (kwd := []) Uw.K12.ob_eq
    (by kernel_rfl) (fun s => by kernel_rfl) Uw.K12.run (by kernel_rfl) (by kernel_rfl) (by kernel_rfl) (by rfl) (by first | assumption | decide +kernel) (by decide +kernel) ⟨rfl, rfl, rfl, rfl, rfl, by decide +kernel⟩ ?hw ?hc
  case hw => w_witness2
  case hc =>
    refine Uw.walk_ofG (l := PySem.Challenge.rw_underwraps_k12_whole_roots_and_asked_key) (n := 63) (k := 13) (x := "script") rfl (by decide) (by kernel_rfl) ⟨rfl, by decide, by decide⟩ ?F
    intro w mg fa h Y G hmg0
    obtain ⟨K, KX, c⟩ := Y
    have hmg : mg ("law" : PySem.Str) = some (.ref fa) := by
      have e : (HandSHeadRun.topDef (OpenLaw.row PySem.Challenge.rw_underwraps_k12_whole_roots_and_asked_key).prog 62).name = ("law" : PySem.Str) := by kernel_rfl
      rw [← e]
      exact hmg0
    have E := Uw.K12.env_of KX G c
    have e := hmg.symm.trans (He.glo_ok KX G (c.t.d.fact Uw.K12.lawAt (f := .glo "law") rfl))
    cases e
    obtain ⟨fd, F⟩ := E.d_law
    refine ⟨K, fd, Uw.spF K Uw.K12.F_law, KX, fun s u => L2.FunD.bindsA (ps := ["script"]) F (fun _ _ _ _ _ _ us hl => match us, hl with | [_], _ => rfl) s [u] rfl, fun H a ns hl hO hS => Uw.law_sp Uw.K12.law_true H a ns hl hS, fun base _ _ => ?_⟩
    obtain ⟨fd2, F2, D⟩ := Uw.K12.ok_law (P := (PySem.Challenge.rw_underwraps_k12_whole_roots_and_asked_key).prog) (w := w) (base := base) E
    rw [Uw.fund_one F F2]
    exact D.ok
