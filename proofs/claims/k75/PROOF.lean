import PyProof.Rows.All
import Wide.All
import OpenK.AllK
import Wide.FinOn
import HandS.ForMost
import HandS.ForExc
import HandS.TryOnly
import HandS.ExcOwn
import HandS.IsInst
import HandS.Wide
import HandS.SortInts
import HandS.Deep
import KE.DataEq
import PyProof.Rows.Walk
import OpenK.KWalk
import PyProof.StrOps2
import HandS.RaiseMore
import HandS.Style
import KE.KRevSl
import HandS.SetKeys
import HandS.Small
import HandS.StrMore
import HandS.FStr
import HandS.ListItems
import HandS.More
import HandS.Dict
import HandS.Zip
import KE.KExcIs
import HandS.ExcInit
import HandS.SortRule
import KE.KSortTupAny
import KE.DataMinMax
import HandS.Defaults
import HandS.Conv
import KE.DataCmp
import KE.SortCalls
import HandS.CallSlots
import HandS.SortKw
import HandS.SetFor
import HandS.Strs
import PyProof.DictMoreH
import HandS.TupLen
import KE.KEqDict
import KE.KDictZip
import PyProof.ListNew
import HandS.DictTup
import KE.DatumOrd
import HandS.Iter
import HandS.Flt
import HandS.DictComp
import KE.KDictLaw
import PySem.Challenge.RW_kinrows_k75_parts_that_fit
set_option Elab.async false
set_option linter.all false
set_option maxRecDepth 100000
/-! DL1: deep values with owners, over the abstract heap: what a value stands for, what a step may touch, environments. -/
namespace DL
open PySem L2

inductive Kd where
  | lst | lok | tup | tok
  | dic (ks : List Key)
  | dit (ks : List (List Key))
  | obj (c : String) (ns : List Str)
  /-- a caught error: its class's name, the names of its fields -/
  | exc (c : String) (ns : List Str)

inductive D where
  | p (v : V)
  | n (o : Bool) (k : Kd) (ch : List D)

mutual
def D.fz : D → D
  | .p v => .p v
  | .n _ k ch => .n false k (fzL ch)
def fzL : List D → List D
  | [] => []
  | d :: ds => d.fz :: fzL ds
end
theorem fzL_map : ∀ ds : List D, fzL ds = ds.map D.fz
  | [] => by simp only [fzL, List.map_nil]
  | d :: ds => by simp only [fzL, List.map_cons, fzL_map ds]

abbrev Sub (G H : Hp) : Prop := ∀ a o, G a = some o → H a = some o

/-- a caught error that is kept: its class, its dict -/
def exK (cls : Value) (dx : Option Addr) (a : Addr) : HO := .ext fun h => ∃ (oe : Obj) (vs : Array Value), h.get? a = some oe ∧ Zc cls dx oe ∧ oe.data = .fields vs
/-- what is kept of the dict -/
def ExcF (G : Hp) (ns : List Str) (vs : List V) : Option Addr → Prop
  | none => ns = [] ∧ vs = []
  | some dd => ns.length = vs.length ∧ G dd = some (.xd (ns.zip vs))
/-- a node that is read -/
def NdF (K : PySem.W.Frag) (G : Hp) (a : Addr) : Kd → List V → Prop
  | .lst, vs => G a = some (.lst vs)
  | .lok, vs => SqL K G a vs
  | .tup, vs => G a = some (.tup vs)
  | .tok, vs => SqT K G a vs
  | .dic ks, vs => ks.length = vs.length ∧ Rd G a (.dK (ks.zip vs))
  | .dit ks, vs => ks.length = vs.length ∧ G a = some (.dT (ks.zip vs))
  | .obj c ns, vs => ns.length = vs.length ∧ ∃ C dx, PySem.W.nsIn K mainGlobals c = some (some (.ref C)) ∧ G a = some (.ins C dx (ns.zip vs))
  | .exc c ns, vs => ∃ (C : Addr) (od : Option Addr), PySem.W.nsIn K mainGlobals c = some (some (.ref C)) ∧ G a = some (exK (.ref C) od a) ∧ ExcF G ns vs od
/-- a node that one slot alone holds -/
def NdO (K : PySem.W.Frag) (H : Hp) (a : Addr) : Kd → List V → Prop
  | .lst, vs => H a = some (.lst vs)
  | .lok, _ => False
  | .tup, _ => False
  | .tok, _ => False
  | .dic ks, vs => ks.length = vs.length ∧ H a = some (.dK (ks.zip vs))
  | .dit ks, vs => ks.length = vs.length ∧ H a = some (.dT (ks.zip vs))
  | .obj c ns, vs => ns.length = vs.length ∧ ∃ C dx, PySem.W.nsIn K mainGlobals c = some (some (.ref C)) ∧ H a = some (.ins C dx (ns.zip vs))
  | .exc _ _, _ => False

theorem Rd.mono {G G' : Hp} {a : Addr} {u : HO} (e : Sub G G') (h : Rd G a u) : Rd G' a u := by
  rcases h with h | ⟨o, h⟩
  · exact .inl (e _ _ h)
  · exact .inr ⟨o, e _ _ h⟩
theorem SqL.mono {K : PySem.W.Frag} {G G' : Hp} {a : Addr} {xs : List V} (e : Sub G G') (h : SqL K G a xs) : SqL K G' a xs := by
  rcases h with h | h
  · exact .inl (Rd.mono e h)
  · exact .inr h
theorem SqT.mono {K : PySem.W.Frag} {G G' : Hp} {a : Addr} {xs : List V} (e : Sub G G') (h : SqT K G a xs) : SqT K G' a xs := by
  rcases h with h | h
  · exact .inl (Rd.mono e h)
  · exact .inr h
theorem ExcF.mono {G G' : Hp} {ns : List Str} {vs : List V} (e : Sub G G') : ∀ {od : Option Addr}, ExcF G ns vs od → ExcF G' ns vs od
  | none, h => h
  | some _, h => ⟨h.1, e _ _ h.2⟩
theorem NdF.mono {K : PySem.W.Frag} {G G' : Hp} {a : Addr} {k : Kd} {vs : List V} (e : Sub G G') (h : NdF K G a k vs) : NdF K G' a k vs := by
  cases k with
  | lst => exact e _ _ h
  | lok => exact SqL.mono e h
  | tup => exact e _ _ h
  | tok => exact SqT.mono e h
  | dic ks => exact ⟨h.1, Rd.mono e h.2⟩
  | dit ks => exact ⟨h.1, e _ _ h.2⟩
  | obj c ns => obtain ⟨h1, C, dx, hc, h2⟩ := h; exact ⟨h1, C, dx, hc, e _ _ h2⟩
  | exc c ns => obtain ⟨C, od, h1, h2, h3⟩ := h; exact ⟨C, od, h1, e _ _ h2, h3.mono e⟩
theorem NdO.there {K : PySem.W.Frag} {H : Hp} {a : Addr} {k : Kd} {vs : List V} (h : NdO K H a k vs) : ∃ o, H a = some o := by
  cases k with
  | lst => exact ⟨_, h⟩
  | lok => exact h.elim
  | tup => exact h.elim
  | tok => exact h.elim
  | dic ks => exact ⟨_, h.2⟩
  | dit ks => exact ⟨_, h.2⟩
  | obj c ns => obtain ⟨h1, C, dx, hc, h2⟩ := h; exact ⟨_, h2⟩
  | exc c ns => exact h.elim
theorem NdO.keep {K : PySem.W.Frag} {H H' : Hp} {a : Addr} {k : Kd} {vs : List V} (h : NdO K H a k vs) (e : ∀ o, H a = some o → H' a = some o) : NdO K H' a k vs := by
  cases k with
  | lst => exact e _ h
  | lok => exact h.elim
  | tup => exact h.elim
  | tok => exact h.elim
  | dic ks => exact ⟨h.1, e _ h.2⟩
  | dit ks => exact ⟨h.1, e _ h.2⟩
  | obj c ns => obtain ⟨h1, C, dx, hc, h2⟩ := h; exact ⟨h1, C, dx, hc, e _ h2⟩
  | exc c ns => exact h.elim
theorem NdO.read {K : PySem.W.Frag} {H : Hp} {a : Addr} {k : Kd} {vs : List V} (h : NdO K H a k vs) : NdF K H a k vs := by
  cases k with
  | lst => exact h
  | lok => exact h.elim
  | tup => exact h.elim
  | tok => exact h.elim
  | dic ks => exact ⟨h.1, .inl h.2⟩
  | dit ks => exact h
  | obj C ns => exact h
  | exc c ns => exact h.elim

mutual
inductive Rp (K : PySem.W.Frag) (G H : Hp) : V → D → List Addr → Prop
  | p (v : V) : Rp K G H v (.p v) []
  | f {a : Addr} {k : Kd} {vs : List V} {ch : List D} {F : List Addr} : NdF K G a k vs → RpL K G H vs ch F → Rp K G H (.ref a) (.n false k ch) F
  | o {a : Addr} {k : Kd} {vs : List V} {ch : List D} {F : List Addr} : G a = none → NdO K H a k vs → a ∉ F → RpL K G H vs ch F → Rp K G H (.ref a) (.n true k ch) (a :: F)
inductive RpL (K : PySem.W.Frag) (G H : Hp) : List V → List D → List Addr → Prop
  | nil : RpL K G H [] [] []
  | cons {v : V} {vs : List V} {d : D} {ds : List D} {F F' : List Addr} : Rp K G H v d F → RpL K G H vs ds F' → (∀ a ∈ F, a ∉ F') → RpL K G H (v :: vs) (d :: ds) (F ++ F')
end

section
variable {K : PySem.W.Frag} {G H G' H' : Hp}
mutual
theorem Rp.mov (hg : Sub G G') : ∀ {v : V} (d : D) {F : List Addr}, Rp K G H v d F → (∀ a ∈ F, ∀ o, G a = none → H a = some o → G' a = none ∧ H' a = some o) → Rp K G' H' v d F
  | _, .p v, _, h, _ => by
    cases h
    exact Rp.p _
  | _, .n ow k ch, _, h, e => by
    cases h with
    | f h1 h2 => exact Rp.f (h1.mono hg) (RpL.mov hg ch h2 e)
    | o h0 h1 h3 h2 =>
      obtain ⟨o, ho⟩ := h1.there
      exact Rp.o (e _ (List.mem_cons_self ..) o h0 ho).1 (h1.keep fun o' ho' => (e _ (List.mem_cons_self ..) o' h0 ho').2) h3
        (RpL.mov hg ch h2 fun a ha => e a (List.mem_cons_of_mem _ ha))
theorem RpL.mov (hg : Sub G G') : ∀ {vs : List V} (ds : List D) {F : List Addr}, RpL K G H vs ds F → (∀ a ∈ F, ∀ o, G a = none → H a = some o → G' a = none ∧ H' a = some o) → RpL K G' H' vs ds F
  | _, [], _, h, _ => by
    cases h
    exact RpL.nil
  | _, d :: ds, _, h, e => by
    cases h with
    | cons h1 h2 h3 => exact RpL.cons (Rp.mov hg d h1 fun a ha => e a (List.mem_append_left _ ha)) (RpL.mov hg ds h2 fun a ha => e a (List.mem_append_right _ ha)) h3
end
mutual
/-- what a slot alone held is shared from now on -/
theorem Rp.froz (hg : Sub G G') : ∀ {v : V} (d : D) {F : List Addr}, Rp K G H v d F → (∀ a ∈ F, G' a = H a) → Rp K G' H v d.fz []
  | _, .p v, _, h, _ => by
    cases h
    simp only [D.fz]
    exact Rp.p _
  | _, .n ow k ch, _, h, e => by
    simp only [D.fz]
    cases h with
    | f h1 h2 => exact Rp.f (h1.mono hg) (RpL.froz hg ch h2 e)
    | o h0 h1 h3 h2 =>
      have e1 : NdO K G' _ k _ := h1.keep fun o ho => (e _ (List.mem_cons_self ..)).trans ho
      exact Rp.f e1.read (RpL.froz hg ch h2 fun a ha => e a (List.mem_cons_of_mem _ ha))
theorem RpL.froz (hg : Sub G G') : ∀ {vs : List V} (ds : List D) {F : List Addr}, RpL K G H vs ds F → (∀ a ∈ F, G' a = H a) → RpL K G' H vs (fzL ds) []
  | _, [], _, h, _ => by
    cases h
    simp only [fzL]
    exact RpL.nil
  | _, d :: ds, _, h, e => by
    simp only [fzL]
    cases h with
    | cons h1 h2 h3 =>
      have := RpL.cons (Rp.froz hg d h1 fun a ha => e a (List.mem_append_left _ ha)) (RpL.froz hg ds h2 fun a ha => e a (List.mem_append_right _ ha)) (by simp)
      simpa using this
end
mutual
theorem Rp.foot : ∀ {v : V} (d : D) {F : List Addr}, Rp K G H v d F → ∀ a ∈ F, G a = none ∧ ∃ o, H a = some o
  | _, .p v, _, h => by
    cases h
    simp
  | _, .n ow k ch, _, h => by
    cases h with
    | f h1 h2 => exact RpL.foot ch h2
    | o h0 h1 h3 h2 =>
      intro a ha
      rcases List.mem_cons.mp ha with e | ha
      · subst e
        exact ⟨h0, h1.there⟩
      · exact RpL.foot ch h2 a ha
theorem RpL.foot : ∀ {vs : List V} (ds : List D) {F : List Addr}, RpL K G H vs ds F → ∀ a ∈ F, G a = none ∧ ∃ o, H a = some o
  | _, [], _, h => by
    cases h
    simp
  | _, d :: ds, _, h => by
    cases h with
    | cons h1 h2 h3 =>
      intro a ha
      rcases List.mem_append.mp ha with ha | ha
      · exact Rp.foot d h1 a ha
      · exact RpL.foot ds h2 a ha
end
end

/-! ### steps -/
/-- P: what is held alone ahead; P': behind -/
structure Stp (G H : Hp) (P : Addr → Prop) (G' H' : Hp) (P' : Addr → Prop) : Prop where
  g : Sub G G'
  h : ∀ a o, H a = some o → ¬ P a → H' a = some o
  n : ∀ a o, H a = some o → G a = none → ¬ P a → G' a = none
  f : ∀ a, P' a → P a ∨ H a = none
theorem Stp.refl (G H : Hp) (P : Addr → Prop) : Stp G H P G H P := ⟨fun _ _ h => h, fun _ _ h _ => h, fun _ _ _ h _ => h, fun _ h => .inl h⟩
theorem Stp.trans {G H G1 H1 G2 H2 : Hp} {P P1 P2 : Addr → Prop} (a : Stp G H P G1 H1 P1) (b : Stp G1 H1 P1 G2 H2 P2) : Stp G H P G2 H2 P2 := by
  have key : ∀ x o, H x = some o → ¬ P x → ¬ P1 x := fun x o e n q => by
    rcases a.f x q with z | z
    · exact n z
    · rw [e] at z; cases z
  refine ⟨fun x o e => b.g x o (a.g x o e), fun x o e n => b.h x o (a.h x o e n) (key x o e n), fun x o e g n => b.n x o (a.h x o e n) (a.n x o e g n) (key x o e n), fun x q => ?_⟩
  rcases b.f x q with z | z
  · exact a.f x z
  · by_cases hp : P x
    · exact .inl hp
    · cases e : H x with
      | none => exact .inr rfl
      | some o =>
        have := a.h x o e hp
        rw [z] at this; cases this
theorem Stp.mono {G H G' H' : Hp} {P P' Q Q' : Addr → Prop} (a : Stp G H P G' H' P') (h : ∀ x, P x → Q x) (h' : ∀ x, Q' x → P' x ∨ Q x) : Stp G H Q G' H' Q' :=
  ⟨a.g, fun x o e n => a.h x o e fun z => n (h x z), fun x o e g n => a.n x o e g fun z => n (h x z), fun x q => by
    rcases h' x q with z | z
    · rcases a.f x z with z | z
      · exact .inl (h x z)
      · exact .inr z
    · exact .inl z⟩
/-- a new object -/
theorem Stp.new {G H : Hp} {P : Addr → Prop} {p : Addr} {o : HO} (h : H p = none) (hs : Sub G H) : Stp G H P G (upd H p o) (fun a => P a ∨ a = p) :=
  ⟨fun _ _ e => e, fun a u e _ => by rw [upd_ne (ne_of_none e h)]; exact e, fun _ _ _ e _ => e, fun a q => by
    rcases q with q | q
    · exact .inl q
    · subst q; exact .inr h⟩
/-- a new object, shared -/
theorem Stp.newG {G H : Hp} {P : Addr → Prop} {p : Addr} {o : HO} (h : H p = none) (hs : Sub G H) : Stp G H P (upd G p o) (upd H p o) P := by
  have hg : G p = none := by
    cases e : G p with
    | none => rfl
    | some u => rw [hs p u e] at h; cases h
  exact ⟨fun a u e => by rw [upd_ne (ne_of_none e hg)]; exact e, fun a u e _ => by rw [upd_ne (ne_of_none e h)]; exact e, fun a u e g _ => by rw [upd_ne (ne_of_none e h)]; exact g, fun a q => .inl q⟩
theorem Sub.upd {G H : Hp} {p : Addr} {o : HO} (h : H p = none) (hs : Sub G H) : Sub G (upd H p o) := fun a u e => by
  rw [upd_ne (ne_of_none (hs a u e) h)]
  exact hs a u e
theorem Sub.updG {G H : Hp} {p : Addr} {o : HO} (h : H p = none) (hs : Sub G H) : Sub (L2.upd G p o) (L2.upd H p o) := fun a u e => by
  by_cases ha : a = p
  · subst ha; rw [upd_same] at e ⊢; exact e
  · rw [upd_ne ha] at e ⊢; exact hs a u e
/-- freezing what is at F -/
def frzH (G H : Hp) (F : List Addr) : Hp := fun a => if a ∈ F then H a else G a
theorem frzH_in {G H : Hp} {F : List Addr} {a : Addr} (h : a ∈ F) : frzH G H F a = H a := if_pos h
theorem frzH_out {G H : Hp} {F : List Addr} {a : Addr} (h : a ∉ F) : frzH G H F a = G a := if_neg h
theorem frzH_sub {G H : Hp} {F : List Addr} (hs : Sub G H) : Sub (frzH G H F) H := fun a o e => by
  by_cases h : a ∈ F
  · rw [frzH_in h] at e; exact e
  · rw [frzH_out h] at e; exact hs a o e
theorem sub_frzH {G H : Hp} {F : List Addr} (hf : ∀ a ∈ F, G a = none) : Sub G (frzH G H F) := fun a o e => by
  by_cases h : a ∈ F
  · rw [hf a h] at e; cases e
  · rw [frzH_out h]; exact e
theorem Stp.frz {G H : Hp} {F : List Addr} {P : Addr → Prop} (hf : ∀ a ∈ F, G a = none) (hp : ∀ a ∈ F, P a) : Stp G H P (frzH G H F) H (fun a => P a ∧ a ∉ F) :=
  ⟨sub_frzH hf, fun _ _ e _ => e, fun a o e g n => by rw [frzH_out fun z => n (hp a z)]; exact g, fun a q => .inl q.1⟩

/-! ### environments -/
inductive Sl where
  /-- nothing is known -/
  | un
  /-- a value -/
  | v (d : D)
  /-- a value handed in that is to be handed back (the name is not stored to) -/
  | w (d : D)
  /-- a part of what another slot holds -/
  | b (i : Nat) (path : List Nat)
abbrev Env := List Sl
def Sl.d? : Sl → Option D
  | .v d => some d
  | .w d => some d
  | _ => none

def D.at : D → List Nat → Option D
  | d, [] => some d
  | .p _, _ :: _ => none
  | .n true _ ch, i :: q => match ch[i]? with
    | some c => D.at c q
    | none => none
  | .n false _ _, _ :: _ => none
/-- P: where the nodes on the way stand -/
def PathV (K : PySem.W.Frag) (H : Hp) (P : Addr → Prop) : V → List Nat → V → Prop
  | x, [], y => x = y
  | x, i :: q, y => ∃ a k vs z, x = .ref a ∧ P a ∧ NdO K H a k vs ∧ vs[i]? = some z ∧ PathV K H P z q y

abbrev Fps := Nat → List Addr
def InF (fp : Fps) (a : Addr) : Prop := ∃ i, a ∈ fp i
/-- slots, pins, what stands behind them -/
structure Mt (K : PySem.W.Frag) (pv : Nat → V) (σ : St) (ρ : Env) (G H : Hp) (fp : Fps) : Prop where
  sub : Sub G H
  len : ρ.length = σ.length
  sl : ∀ (i : Nat) (d : D), ρ[i]? = some (Sl.v d) → ∃ x, σ[i]? = some (some x) ∧ Rp K G H x d (fp i)
  pn : ∀ (i : Nat) (d : D), ρ[i]? = some (Sl.w d) → σ[i]? = some (some (pv i)) ∧ Rp K G H (pv i) d (fp i)
  br : ∀ (i j : Nat) (q : List Nat), ρ[i]? = some (Sl.b j q) → ∃ x y, σ[j]? = some (some x) ∧ σ[i]? = some (some y) ∧ PathV K H (fun a => a ∈ fp j) x q y
  ap : ∀ i j, i ≠ j → ∀ a ∈ fp i, a ∉ fp j
  ft : ∀ i, ∀ a ∈ fp i, G a = none ∧ ∃ o, H a = some o
section
variable {K : PySem.W.Frag} {pv : Nat → V} {σ : St} {ρ : Env} {G H G' H' : Hp} {fp : Fps}
theorem Mt.at (m : Mt K pv σ ρ G H fp) {i : Nat} {s : Sl} {d : D} (h : ρ[i]? = some s) (e : s.d? = some d) : ∃ x, σ[i]? = some (some x) ∧ Rp K G H x d (fp i) := by
  cases s with
  | un => cases e
  | v d' => cases e; exact m.sl i _ h
  | w d' => cases e; exact ⟨_, m.pn i _ h⟩
  | b j q => cases e
theorem PathV.mono {P P' : Addr → Prop} (e : ∀ a o, P a → H a = some o → H' a = some o) (hp : ∀ a, P a → P' a) : ∀ {q : List Nat} {x y : V}, PathV K H P x q y → PathV K H' P' x q y
  | [], _, _, h => h
  | _ :: _, _, _, h => by
    obtain ⟨a, k, vs, z, e1, h0, h1, h2, h3⟩ := h
    exact ⟨a, k, vs, z, e1, hp a h0, h1.keep fun o => e a o h0, h2, PathV.mono e hp h3⟩
/-- what is held alone stands as it stood -/
theorem Mt.move (m : Mt K pv σ ρ G H fp) (hg : Sub G G') (hs : Sub G' H') (h : ∀ a o, InF fp a → H a = some o → H' a = some o) (hn : ∀ a, InF fp a → G' a = none) : Mt K pv σ ρ G' H' fp where
  sub := hs
  len := m.len
  sl := fun i d e => by
    obtain ⟨x, h1, h2⟩ := m.sl i d e
    exact ⟨x, h1, h2.mov hg _ fun a ha o _ ho => ⟨hn a ⟨i, ha⟩, h a o ⟨i, ha⟩ ho⟩⟩
  pn := fun i d e => by
    obtain ⟨h1, h2⟩ := m.pn i d e
    exact ⟨h1, h2.mov hg _ fun a ha o _ ho => ⟨hn a ⟨i, ha⟩, h a o ⟨i, ha⟩ ho⟩⟩
  br := fun i j q e => by
    obtain ⟨x, y, h1, h2, h3⟩ := m.br i j q e
    exact ⟨x, y, h1, h2, h3.mono (fun a o z => h a o ⟨j, z⟩) fun _ z => z⟩
  ap := m.ap
  ft := fun i a ha => ⟨hn a ⟨i, ha⟩, by
    obtain ⟨_, o, h2⟩ := m.ft i a ha
    exact ⟨o, h a o ⟨i, ha⟩ h2⟩⟩
/-- nothing held alone was touched -/
theorem Mt.step {P' : Addr → Prop} (m : Mt K pv σ ρ G H fp) (s : Stp G H (fun _ => False) G' H' P') (hs : Sub G' H') : Mt K pv σ ρ G' H' fp :=
  m.move s.g hs (fun a o _ e => s.h a o e fun z => z) fun a ⟨i, ha⟩ => by
    obtain ⟨h1, o, h2⟩ := m.ft i a ha
    exact s.n a o h2 h1 fun z => z
/-- a value that is held apart from the slots stays -/
theorem Rp.frame {v : V} {d : D} {F : List Addr} {P P' : Addr → Prop} (r : Rp K G H v d F) (s : Stp G H P G' H' P') (hd : ∀ a ∈ F, ¬ P a) : Rp K G' H' v d F ∧ ∀ a ∈ F, ¬ P' a := by
  refine ⟨r.mov s.g _ fun a ha o hg ho => ⟨s.n a o ho hg (hd a ha), s.h a o ho (hd a ha)⟩, fun a ha q => ?_⟩
  rcases s.f a q with z | z
  · exact hd a ha z
  · obtain ⟨_, o, ho⟩ := Rp.foot d r a ha
    rw [ho] at z; cases z
end

/-! ### handles -/
inductive Rv where
  | t (d : D)
  | s (i : Nat)
def RvOk (K : PySem.W.Frag) (σ : St) (G H : Hp) (P : Addr → Prop) (v : V) : Rv → List Addr → Prop
  | .t d, F => Rp K G H v d F ∧ ∀ a ∈ F, ¬ P a
  | .s i, F => σ[i]? = some (some v) ∧ F = []
/-- what a handle stands for -/
def rootD (ρ : Env) (i : Nat) : Option D := match ρ[i]? with
  | some (.v d) => some d
  | some (.w d) => some d
  | _ => none
def slD (ρ : Env) (i : Nat) : Option D := match ρ[i]? with
  | some (.v d) => some d
  | some (.w d) => some d
  | some (.b j q) => (rootD ρ j).bind fun d => d.at q
  | _ => none
def look (ρ : Env) : Rv → Option D
  | .t d => some d
  | .s i => slD ρ i
section
variable {K : PySem.W.Frag} {pv : Nat → V} {σ : St} {ρ : Env} {G H G' H' : Hp} {fp : Fps}
theorem RvOk.frame {v : V} {r : Rv} {F : List Addr} {P P' : Addr → Prop} (h : RvOk K σ G H P v r F) (s : Stp G H P G' H' P') : RvOk K σ G' H' P' v r F := by
  cases r with
  | t d => exact Rp.frame h.1 s h.2
  | s i => exact h
theorem SqL.inj {G : Hp} {a : Addr} {xs : List V} (h : SqL K G a xs) {ys : List V} (h' : G a = some (.lst ys)) : xs = ys ∨ ∃ o, K.lookup a = some o := by
  rcases h with h | ⟨o, _, _, h, _⟩
  · rcases h with h | ⟨o, h⟩
    · rw [h'] at h; cases h; exact .inl rfl
    · rw [h'] at h; cases h
  · exact .inr ⟨o, h⟩
/-- the children's nodes lie within the whole's -/
theorem RpL.get : ∀ {vs : List V} (ds : List D) {F : List Addr} {i : Nat} {d : D}, RpL K G H vs ds F → ds[i]? = some d → ∃ x F', vs[i]? = some x ∧ Rp K G H x d F' ∧ ∀ a ∈ F', a ∈ F
  | _, [], _, _, _, _, e => by simp at e
  | _, c :: cs, _, i, d, h, e => by
    cases h with
    | cons h1 h2 h3 =>
      cases i with
      | zero =>
        simp only [List.getElem?_cons_zero, Option.some.injEq] at e
        subst e
        exact ⟨_, _, by simp only [List.getElem?_cons_zero], h1, fun a ha => List.mem_append_left _ ha⟩
      | succ i =>
        rw [List.getElem?_cons_succ] at e
        obtain ⟨x, F', q1, q2, q3⟩ := RpL.get cs h2 e
        exact ⟨x, F', by rw [List.getElem?_cons_succ]; exact q1, q2, fun a ha => List.mem_append_right _ (q3 a ha)⟩
theorem NdO.inj {a : Addr} {k k' : Kd} {vs ws : List V} (h : NdO K H a k vs) (h' : NdO K H a k' ws) : vs = ws := by
  have zz : ∀ {α : Type} {ks ks' : List α} {vs ws : List V}, ks.length = vs.length → ks'.length = ws.length → ks.zip vs = ks'.zip ws → vs = ws := by
    intro α ks ks' vs ws h1 h2 e
    have e' := congrArg (List.map Prod.snd) e
    rwa [List.map_snd_zip (by omega), List.map_snd_zip (by omega)] at e'
  cases k <;> cases k' <;> simp only [NdO] at h h' <;> first
    | exact h.elim
    | exact h'.elim
    | (rw [h] at h'; cases h'; done)
    | (rw [h] at h'; cases h'; rfl)
    | (rw [h.2] at h'; cases h'; done)
    | (rw [h] at h'; have := h'.2; cases this; done)
    | (have e := h.2.symm.trans h'.2; injection e with e; injection e with e; exact zz h.1 h'.1 e)
    | (have e := h.2.symm.trans h'.2; injection e with e; cases e; done)
    | (obtain ⟨h1, C, dx, hc, h2⟩ := h; obtain ⟨h3, C', dx', hc', h4⟩ := h'; rw [h2] at h4; injection h4 with e; injection e with e1 e2 e3; exact zz h1 h3 e3)
    | (obtain ⟨h1, C, dx, hc, h2⟩ := h; first | (rw [h2] at h'; cases h'; done) | (have := h2.symm.trans h'.2; cases this; done))
    | (obtain ⟨h1, C, dx, hc, h2⟩ := h'; first | (rw [h2] at h; cases h; done) | (have := h2.symm.trans h.2; cases this; done))
theorem Rp.path {P : Addr → Prop} : ∀ {q : List Nat} {x y : V} {d d' : D} {F : List Addr}, Rp K G H x d F → d.at q = some d' → PathV K H P x q y → ∃ F', Rp K G H y d' F' ∧ ∀ a ∈ F', a ∈ F
  | [], x, y, d, d', F, r, e, h => by
    have e1 : d = d' := by
      cases d with
      | p v => simpa [D.at] using e
      | n o k ch => cases o <;> simpa [D.at] using e
    subst e1
    have e2 : x = y := h
    subst e2
    exact ⟨F, r, fun _ z => z⟩
  | i :: q, x, y, .p v, d', F, r, e, h => by simp [D.at] at e
  | i :: q, x, y, .n false k ch, d', F, r, e, h => by simp [D.at] at e
  | i :: q, x, y, .n true k ch, d', F, r, e, h => by
    cases r with
    | o h0 h1 h3 h2 =>
      simp only [D.at] at e
      obtain ⟨a, k', vs', z, e1, _, n1, g1, p1⟩ := h
      injection e1 with e1
      subst e1
      have ev := NdO.inj n1 h1
      subst ev
      cases ec : ch[i]? with
      | none => rw [ec] at e; cases e
      | some c =>
        rw [ec] at e
        obtain ⟨x', F', q1, q2, q3⟩ := RpL.get ch h2 ec
        rw [q1] at g1
        cases g1
        obtain ⟨F2, r2, s2⟩ := Rp.path q2 e p1
        exact ⟨F2, r2, fun a ha => List.mem_cons_of_mem _ (q3 a (s2 a ha))⟩
theorem RpL.len : ∀ {vs : List V} (ds : List D) {F : List Addr}, RpL K G H vs ds F → vs.length = ds.length
  | _, [], _, h => by cases h; rfl
  | _, _ :: ds, _, h => by
    cases h with
    | cons h1 h2 h3 => rw [List.length_cons, List.length_cons, RpL.len ds h2]
end
end DL
/-! DL2: readings over deep values, and how they are readings over the abstract heap. -/
namespace DL
open PySem L2

structure Exn where
  name : String
  f : Option (Str × D) := none

abbrev DE := Env → (Rv → Env → Prop) → (Exn → Env → Prop) → Prop
abbrev DT := Env → (Bool → Env → Prop) → (Exn → Env → Prop) → Prop
abbrev DA := Env → (List Rv → Env → Prop) → (Exn → Env → Prop) → Prop
structure DEnds where
  nx : Env → Prop
  rt : D → Env → Prop
  bk : Env → Prop := fun _ => False
  ct : Env → Prop := fun _ => False
  ex : Exn → Env → Prop := fun _ _ => False
abbrev DS := DEnds → Env → Prop
/-- a target -/
abbrev DG := Rv → Env → (Env → Prop) → Prop
/-- what is walked: its items -/
abbrev DI := Env → (List D → Env → Prop) → (Exn → Env → Prop) → Prop

def ExOk (K : PySem.W.Frag) (cn : String → Addr) (G H : Hp) (x : Exn) (cls : Value) (dx : Option Addr) : Prop :=
  cls = .ref (cn x.name) ∧ match x.f with
    | none => dx = none
    | some (f, d) => ∃ a v, dx = some a ∧ G a = some (.xd [(f, v)]) ∧ Rp K G H v d []

section
variable (K : PySem.W.Frag) (cn : String → Addr)
def PoX (pv : Nat → V) (γ : St) (n : Nat) (G H : Hp) (fp : Fps) (E0 : Exn → Env → Prop) (E : WX) : Prop :=
  ∀ x ρ' cls dx σ' G' H' fp', E0 x ρ' → Stp G H (InF fp) G' H' (InF fp') → Mt K pv (σ' ++ γ) ρ' G' H' fp' → σ'.length = n → ExOk K cn G' H' x cls dx → E cls dx σ' H'
def PoE (pv : Nat → V) (σ γ : St) (G H : Hp) (fp : Fps) (Q0 : Rv → Env → Prop) (Q : VK) : Prop :=
  ∀ r ρ' v G' H' fp' F, Q0 r ρ' → Stp G H (InF fp) G' H' (fun a => InF fp' a ∨ a ∈ F) → Mt K pv (σ ++ γ) ρ' G' H' fp' → RvOk K (σ ++ γ) G' H' (InF fp') v r F → Q v H'
def liftE (E : WX) (t : DE) : TE := fun σ H Q => ∃ pv γ ρ G fp Q0 E0, Mt K pv (σ ++ γ) ρ G H fp ∧ t ρ Q0 E0 ∧ PoE K pv σ γ G H fp Q0 Q ∧ PoX K cn pv γ σ.length G H fp E0 E
def PoT (pv : Nat → V) (σ γ : St) (G H : Hp) (fp : Fps) (Q0 : Bool → Env → Prop) (Q : Bool → Hp → Prop) : Prop :=
  ∀ b ρ' G' H' fp', Q0 b ρ' → Stp G H (InF fp) G' H' (InF fp') → Mt K pv (σ ++ γ) ρ' G' H' fp' → Q b H'
def liftT (E : WX) (t : DT) : TT := fun σ H Q => ∃ pv γ ρ G fp Q0 E0, Mt K pv (σ ++ γ) ρ G H fp ∧ t ρ Q0 E0 ∧ PoT K pv σ γ G H fp Q0 Q ∧ PoX K cn pv γ σ.length G H fp E0 E
/-- several handles: each held apart -/
inductive RvsOk (σ : St) (G H : Hp) : (Addr → Prop) → List V → List Rv → List Addr → Prop
  | nil {P : Addr → Prop} : RvsOk σ G H P [] [] []
  | cons {P : Addr → Prop} {v : V} {vs : List V} {r : Rv} {rs : List Rv} {F F' : List Addr} : RvOk K σ G H P v r F → RvsOk σ G H (fun a => P a ∨ a ∈ F) vs rs F' → RvsOk σ G H P (v :: vs) (r :: rs) (F ++ F')
def PoA (pv : Nat → V) (σ γ : St) (G H : Hp) (fp : Fps) (Q0 : List Rv → Env → Prop) (Q : List V → Hp → Prop) : Prop :=
  ∀ rs ρ' vs G' H' fp' F, Q0 rs ρ' → Stp G H (InF fp) G' H' (fun a => InF fp' a ∨ a ∈ F) → Mt K pv (σ ++ γ) ρ' G' H' fp' → RvsOk K (σ ++ γ) G' H' (InF fp') vs rs F → Q vs H'
def liftA (E : WX) (t : DA) : TA := fun σ H Q => ∃ pv γ ρ G fp Q0 E0, Mt K pv (σ ++ γ) ρ G H fp ∧ t ρ Q0 E0 ∧ PoA K pv σ γ G H fp Q0 Q ∧ PoX K cn pv γ σ.length G H fp E0 E
def PoN (pv : Nat → V) (γ : St) (n : Nat) (G H : Hp) (fp : Fps) (N0 : Env → Prop) (N : St → Hp → Prop) : Prop :=
  ∀ ρ' σ' G' H' fp', N0 ρ' → Stp G H (InF fp) G' H' (InF fp') → Mt K pv (σ' ++ γ) ρ' G' H' fp' → σ'.length = n → N σ' H'
def PoR (pv : Nat → V) (γ : St) (n : Nat) (G H : Hp) (fp : Fps) (R0 : D → Env → Prop) (R : VK) : Prop :=
  ∀ d ρ' v σ' G' H' fp' F, R0 d ρ' → Stp G H (InF fp) G' H' (fun a => InF fp' a ∨ a ∈ F) → Mt K pv (σ' ++ γ) ρ' G' H' fp' → σ'.length = n → Rp K G' H' v d F → (∀ a ∈ F, ¬ InF fp' a) → R v H'
structure PoS (pv : Nat → V) (γ : St) (n : Nat) (G H : Hp) (fp : Fps) (D0 : DEnds) (Dn : Ends) (E : WX) : Prop where
  nx : PoN K pv γ n G H fp D0.nx Dn.nx
  bk : PoN K pv γ n G H fp D0.bk Dn.bk
  ct : PoN K pv γ n G H fp D0.ct Dn.ct
  rt : PoR K pv γ n G H fp D0.rt Dn.rt
  ex : PoX K cn pv γ n G H fp D0.ex E
def liftS (E : WX) (t : DS) : TS := fun Dn σ H => ∃ pv γ ρ G fp D0, Mt K pv (σ ++ γ) ρ G H fp ∧ t D0 ρ ∧ PoS K cn pv γ σ.length G H fp D0 Dn E
end

abbrev JE (X : Cx) (cn : String → Addr) (E : WX) (e : Expr) (t : DE) : Prop := PE X e (liftE X.K cn E t)
abbrev JT (X : Cx) (cn : String → Addr) (E : WX) (e : Expr) (t : DT) : Prop := PT X e (liftT X.K cn E t)
abbrev JW (X : Cx) (cn : String → Addr) (E : WX) (e : Expr) (t : DT) : Prop := PW X e (liftT X.K cn E t)
abbrev JA (X : Cx) (cn : String → Addr) (E : WX) (es : List Expr) (t : DA) : Prop := PA X es (liftA X.K cn E t)
abbrev JS (X : Cx) (cn : String → Addr) (E : WX) (s : Stmt) (t : DS) : Prop := PS X s (liftS X.K cn E t)
abbrev JSs (X : Cx) (cn : String → Addr) (E : WX) (s : List Stmt) (t : DS) : Prop := PSs X s (liftS X.K cn E t)

/-! ### weakening -/
theorem pe_imp {X : Cx} {e : Expr} {t t' : TE} (h : PE X e t) (i : ∀ σ H Q, t' σ H Q → t σ H Q) : PE X e t' := ⟨fun pins s σ H Q I q => h.run pins s σ H Q I (i σ H Q q)⟩
theorem pt_imp {X : Cx} {e : Expr} {t t' : TT} (h : PT X e t) (i : ∀ σ H Q, t' σ H Q → t σ H Q) : PT X e t' := ⟨fun pins s σ H Q I q => h.run pins s σ H Q I (i σ H Q q)⟩
theorem pw_imp {X : Cx} {e : Expr} {t t' : TT} (h : PW X e t) (i : ∀ σ H Q, t' σ H Q → t σ H Q) : PW X e t' := ⟨fun wh pins s σ H Q I q => h.run wh pins s σ H Q I (i σ H Q q)⟩
theorem pa_imp {X : Cx} {es : List Expr} {t t' : TA} (h : PA X es t) (i : ∀ σ H Q, t' σ H Q → t σ H Q) : PA X es t' := ⟨fun pos pins s σ H Q I q => h.run pos pins s σ H Q I (i σ H Q q)⟩
theorem ps_imp {X : Cx} {e : Stmt} {t t' : TS} (h : PS X e t) (i : ∀ D σ H, t' D σ H → t D σ H) : PS X e t' := ⟨fun pins s σ H D I q => h.run pins s σ H D I (i D σ H q)⟩
theorem pss_imp {X : Cx} {e : List Stmt} {t t' : TS} (h : PSs X e t) (i : ∀ D σ H, t' D σ H → t D σ H) : PSs X e t' := ⟨fun pins s σ H D I q => h.run pins s σ H D I (i D σ H q)⟩
theorem Stp.seq {G H G1 H1 G2 H2 : Hp} {P P1 P' P2 P3 : Addr → Prop} (a : Stp G H P G1 H1 P1) (h : ∀ x, P' x → P1 x) (b : Stp G1 H1 P' G2 H2 P2) (h3 : ∀ x, P3 x → P2 x ∨ P1 x) : Stp G H P G2 H2 P3 :=
  a.trans (b.mono h h3)

section
variable {K : PySem.W.Frag} {cn : String → Addr} {pv : Nat → V} {σ γ : St} {n : Nat} {ρ : Env} {G H G' H' : Hp} {fp fp' : Fps} {F : List Addr} {E : WX}
theorem PoX.on {E0 : Exn → Env → Prop} (h : PoX K cn pv γ n G H fp E0 E) (s : Stp G H (InF fp) G' H' (fun a => InF fp' a ∨ a ∈ F)) : PoX K cn pv γ n G' H' fp' E0 E :=
  fun x ρ' cls dx σ' G2 H2 fp2 q s2 m l o => h x ρ' cls dx σ' G2 H2 fp2 q (s.seq (fun _ z => .inl z) s2 fun _ z => .inl z) m l o
theorem PoX.on0 {E0 : Exn → Env → Prop} (h : PoX K cn pv γ n G H fp E0 E) (s : Stp G H (InF fp) G' H' (InF fp')) : PoX K cn pv γ n G' H' fp' E0 E :=
  fun x ρ' cls dx σ' G2 H2 fp2 q s2 m l o => h x ρ' cls dx σ' G2 H2 fp2 q (s.trans s2) m l o
theorem PoN.on {N0 : Env → Prop} {N : St → Hp → Prop} (h : PoN K pv γ n G H fp N0 N) (s : Stp G H (InF fp) G' H' (InF fp')) : PoN K pv γ n G' H' fp' N0 N :=
  fun ρ' σ' G2 H2 fp2 q s2 m l => h ρ' σ' G2 H2 fp2 q (s.trans s2) m l
theorem PoN.on1 {N0 : Env → Prop} {N : St → Hp → Prop} (h : PoN K pv γ n G H fp N0 N) (s : Stp G H (InF fp) G' H' (fun a => InF fp' a ∨ a ∈ F)) : PoN K pv γ n G' H' fp' N0 N :=
  fun ρ' σ' G2 H2 fp2 q s2 m l => h ρ' σ' G2 H2 fp2 q (s.seq (fun _ z => .inl z) s2 fun _ z => .inl z) m l
theorem PoR.on {R0 : D → Env → Prop} {R : VK} (h : PoR K pv γ n G H fp R0 R) (s : Stp G H (InF fp) G' H' (InF fp')) : PoR K pv γ n G' H' fp' R0 R :=
  fun d ρ' v σ' G2 H2 fp2 F q s2 m l => h d ρ' v σ' G2 H2 fp2 F q (s.trans s2) m l
theorem PoR.on1 {R0 : D → Env → Prop} {R : VK} (h : PoR K pv γ n G H fp R0 R) (s : Stp G H (InF fp) G' H' (fun a => InF fp' a ∨ a ∈ F)) : PoR K pv γ n G' H' fp' R0 R :=
  fun d ρ' v σ' G2 H2 fp2 F q s2 m l => h d ρ' v σ' G2 H2 fp2 F q (s.seq (fun _ z => .inl z) s2 fun _ z => .inl z) m l
theorem PoS.on {D0 : DEnds} {Dn : Ends} (h : PoS K cn pv γ n G H fp D0 Dn E) (s : Stp G H (InF fp) G' H' (InF fp')) : PoS K cn pv γ n G' H' fp' D0 Dn E :=
  ⟨h.nx.on s, h.bk.on s, h.ct.on s, h.rt.on s, h.ex.on0 s⟩
theorem PoS.on1 {D0 : DEnds} {Dn : Ends} (h : PoS K cn pv γ n G H fp D0 Dn E) (s : Stp G H (InF fp) G' H' (fun a => InF fp' a ∨ a ∈ F)) : PoS K cn pv γ n G' H' fp' D0 Dn E :=
  ⟨h.nx.on1 s, h.bk.on1 s, h.ct.on1 s, h.rt.on1 s, h.ex.on s⟩

theorem root_ok {i : Nat} {d : D} (m : Mt K pv σ ρ G H fp) (e : rootD ρ i = some d) : ∃ x, σ[i]? = some (some x) ∧ Rp K G H x d (fp i) := by
  unfold rootD at e
  split at e
  · rename_i d0 h
    cases e
    exact m.sl i _ h
  · rename_i d0 h
    cases e
    exact ⟨_, m.pn i _ h⟩
  · cases e
theorem sl_ok {i : Nat} {d : D} (m : Mt K pv σ ρ G H fp) (e : slD ρ i = some d) : ∃ v F0, σ[i]? = some (some v) ∧ Rp K G H v d F0 ∧ ∀ a ∈ F0, InF fp a := by
  unfold slD at e
  split at e
  · rename_i d0 h
    cases e
    obtain ⟨x, h1, h2⟩ := m.sl i _ h
    exact ⟨x, _, h1, h2, fun a ha => ⟨i, ha⟩⟩
  · rename_i d0 h
    cases e
    obtain ⟨h1, h2⟩ := m.pn i _ h
    exact ⟨_, _, h1, h2, fun a ha => ⟨i, ha⟩⟩
  · rename_i j q h
    cases er : rootD ρ j with
    | none => rw [er] at e; cases e
    | some d0 =>
      rw [er] at e
      obtain ⟨x, h1, h2⟩ := root_ok m er
      obtain ⟨x', y, g1, g2, g3⟩ := m.br i j q h
      rw [h1] at g1; cases g1
      obtain ⟨F', r', s'⟩ := Rp.path h2 e g3
      exact ⟨y, F', g2, r', fun a ha => ⟨j, s' a ha⟩⟩
  · cases e
theorem look_ok {r : Rv} {v : V} {d : D} {P : Addr → Prop} (m : Mt K pv σ ρ G H fp) (o : RvOk K σ G H P v r F) (e : look ρ r = some d) : ∃ F0, Rp K G H v d F0 ∧ ∀ a ∈ F0, a ∈ F ∨ InF fp a := by
  cases r with
  | t d' =>
    cases e
    exact ⟨F, o.1, fun a ha => .inl ha⟩
  | s i =>
    obtain ⟨o1, o2⟩ := o
    obtain ⟨v', F0, h1, h2, h3⟩ := sl_ok m (show slD ρ i = some d from e)
    rw [o1] at h1; cases h1
    exact ⟨F0, h2, fun a ha => .inr (h3 a ha)⟩
end

/-! ### names, constants -/
section
variable {X : Cx} {cn : String → Addr} {E : WX}
def dVar (i : Nat) : DE := fun ρ Q _ => (slD ρ i).isSome = true ∧ Q (.s i) ρ
def dC (v : V) : DE := fun ρ Q _ => Q (.t (.p v)) ρ
theorem get_left {σ γ : St} {i : Nat} {x : V} (hi : i < σ.length) (h : (σ ++ γ)[i]? = some (some x)) : σ[i]? = some (some x) := by
  rwa [List.getElem?_append_left hi] at h
theorem stp0 (G H : Hp) (fp : Fps) : Stp G H (InF fp) G H (fun a => InF fp a ∨ a ∈ ([] : List Addr)) := (Stp.refl _ _ _).mono (fun _ z => z) fun _ z => .inl (z.elim id fun q => by cases q)
theorem je_c {e : Expr} {v : V} (h : PE X e (tC v)) : JE X cn E e (dC v) := pe_imp h fun σ H Q ⟨pv, γ, ρ, G, fp, Q0, E0, m, q, po, _⟩ =>
  po _ _ _ G H fp [] q (stp0 G H fp) m ⟨Rp.p v, fun a z => by cases z⟩
theorem je_v {e : Expr} {i : Nat} (hi : i < X.N.length) (h : PE X e (tVar i)) : JE X cn E e (dVar i) := ⟨fun pins s σ H Q I ⟨pv, γ, ρ, G, fp, Q0, E0, m, ⟨q1, q⟩, po, _⟩ => by
  obtain ⟨d, hd⟩ := Option.isSome_iff_exists.mp q1
  obtain ⟨v, F0, h1, h2, h3⟩ := sl_ok m hd
  have hl : i < σ.length := by rw [I.len]; exact hi
  exact h.run pins s σ H Q I ⟨v, get_left hl h1, po _ _ _ G H fp [] q (stp0 G H fp) m ⟨h1, rfl⟩⟩⟩
end
end DL
/-! DL3: operators, tests, arguments, displays, calls. -/
namespace DL
open PySem L2

mutual
def D.isFz : D → Bool
  | .p _ => true
  | .n o _ ch => !o && isFzL ch
def isFzL : List D → Bool
  | [] => true
  | d :: ds => d.isFz && isFzL ds
end
mutual
theorem fz_of : ∀ {d : D}, d.isFz = true → d.fz = d
  | .p _, _ => by simp only [D.fz]
  | .n o k ch, h => by
    simp only [D.isFz, Bool.and_eq_true, Bool.not_eq_true'] at h
    simp only [D.fz, h.1, fzL_of h.2]
theorem fzL_of : ∀ {ds : List D}, isFzL ds = true → fzL ds = ds
  | [], _ => by simp only [fzL]
  | d :: ds, h => by
    simp only [isFzL, Bool.and_eq_true] at h
    simp only [fzL, fz_of h.1, fzL_of h.2]
end
mutual
theorem isFz_fz : ∀ d : D, d.fz.isFz = true
  | .p _ => by simp only [D.fz, D.isFz]
  | .n o k ch => by simp only [D.fz, D.isFz, isFzL_fz ch, Bool.not_false, Bool.and_self]
theorem isFzL_fz : ∀ ds : List D, isFzL (fzL ds) = true
  | [] => by simp only [fzL, isFzL]
  | d :: ds => by simp only [fzL, isFzL, isFz_fz d, isFzL_fz ds, Bool.and_self]
end
section
variable {K : PySem.W.Frag} {G H : Hp}
mutual
theorem Rp.foot0 : ∀ {v : V} (d : D) {F : List Addr}, Rp K G H v d F → d.isFz = true → F = []
  | _, .p v, _, h, _ => by
    cases h
    rfl
  | _, .n ow k ch, _, h, z => by
    simp only [D.isFz, Bool.and_eq_true, Bool.not_eq_true'] at z
    cases h with
    | f h1 h2 => exact RpL.foot0 ch h2 z.2
    | o h0 h1 h3 h2 => cases z.1
theorem RpL.foot0 : ∀ {vs : List V} (ds : List D) {F : List Addr}, RpL K G H vs ds F → isFzL ds = true → F = []
  | _, [], _, h, _ => by
    cases h
    rfl
  | _, d :: ds, _, h, z => by
    simp only [isFzL, Bool.and_eq_true] at z
    cases h with
    | cons h1 h2 h3 => rw [Rp.foot0 d h1 z.1, RpL.foot0 ds h2 z.2]; rfl
end
theorem RpL.app : ∀ {vs ws : List V} {ds es : List D} {F F' : List Addr}, RpL K G H vs ds F → RpL K G H ws es F' → (∀ a ∈ F, a ∉ F') → RpL K G H (vs ++ ws) (ds ++ es) (F ++ F')
  | _, _, [], es, _, _, h, h', _ => by
    cases h
    exact h'
  | _, _, d :: ds, es, _, _, h, h', e => by
    cases h with
    | cons h1 h2 h3 =>
      rw [List.cons_append, List.cons_append, List.append_assoc]
      refine RpL.cons h1 (RpL.app h2 h' fun a ha => e a (List.mem_append_right _ ha)) fun a ha hn => ?_
      rcases List.mem_append.mp hn with hn | hn
      · exact h3 a ha hn
      · exact e a (List.mem_append_left _ ha) hn
theorem RpL.one {v : V} {d : D} {F : List Addr} (h : Rp K G H v d F) : RpL K G H [v] [d] F := by
  have := RpL.cons h RpL.nil (F' := []) (fun _ _ z => by cases z)
  simpa using this
end

/-! ### taking a handle's value -/
def killB (i : Nat) : Env → Env
  | [] => []
  | .b j q :: r => (if j = i then Sl.un else Sl.b j q) :: killB i r
  | s :: r => s :: killB i r
theorem killB_len (i : Nat) : ∀ ρ : Env, (killB i ρ).length = ρ.length
  | [] => rfl
  | .un :: r => by simp only [killB, List.length_cons, killB_len i r]
  | .v _ :: r => by simp only [killB, List.length_cons, killB_len i r]
  | .w _ :: r => by simp only [killB, List.length_cons, killB_len i r]
  | .b _ _ :: r => by simp only [killB, List.length_cons, killB_len i r]
theorem killB_get (i : Nat) : ∀ (ρ : Env) (k : Nat), (killB i ρ)[k]? = (ρ[k]?).map fun s => match s with
    | .b j q => if j = i then Sl.un else Sl.b j q
    | s => s
  | [], k => by simp [killB]
  | s :: r, 0 => by cases s <;> simp [killB]
  | s :: r, k + 1 => by
    have ih := killB_get i r k
    cases s <;> simpa [killB] using ih
theorem killB_of {i j : Nat} {s : Sl} {ρ : Env} (h : (killB i ρ)[j]? = some s) (hn : s ≠ .un) : ρ[j]? = some s ∧ ∀ q, s ≠ .b i q := by
  rw [killB_get] at h
  cases e : ρ[j]? with
  | none => rw [e] at h; cases h
  | some s' =>
    rw [e] at h
    simp only [Option.map_some, Option.some.injEq] at h
    cases s' with
    | un => subst h; exact ⟨rfl, fun q z => by cases z⟩
    | v _ => subst h; exact ⟨rfl, fun q z => by cases z⟩
    | w _ => subst h; exact ⟨rfl, fun q z => by cases z⟩
    | b k q =>
      simp only at h
      split at h
      · exact absurd h.symm hn
      · rename_i hk
        subst h
        exact ⟨rfl, fun q' z => by cases z; exact hk rfl⟩
/-- a value read as a part of another one, handed on, kept: no more held alone -/
def tk (ρ : Env) : Rv → Option (D × Env)
  | .t d => some (d, ρ)
  | .s i => match slD ρ i with
    | some d => if d.isFz = true then some (d, ρ) else match ρ[i]? with
      | some (.v d) => some (d.fz, (killB i ρ).set i (.v d.fz))
      | _ => none
    | none => none
/-- a name stored -/
def stV (ρ : Env) (i : Nat) (d : D) : Option Env := match ρ[i]? with
  | some (.w _) => none
  | some _ => some ((killB i ρ).set i (.v d))
  | none => none
def updF (fp : Fps) (i : Nat) (F : List Addr) : Fps := fun j => if j = i then F else fp j
theorem updF_same {fp : Fps} {i : Nat} {F : List Addr} : updF fp i F i = F := if_pos rfl
theorem updF_ne {fp : Fps} {i j : Nat} {F : List Addr} (h : j ≠ i) : updF fp i F j = fp j := if_neg h
section
variable {K : PySem.W.Frag} {pv : Nat → V} {σ γ : St} {ρ : Env} {G H G' H' : Hp} {fp : Fps} {F : List Addr}
/-- a slot's value frozen -/
theorem Mt.frz {i : Nat} {d : D} (m : Mt K pv σ ρ G H fp) (hi : ρ[i]? = some (Sl.v d)) : Mt K pv σ ((killB i ρ).set i (.v d.fz)) (frzH G H (fp i)) H (updF fp i []) := by
  have hl : i < ρ.length := (List.getElem?_eq_some_iff.mp hi).1
  have hl' : i < (killB i ρ).length := by rw [killB_len]; exact hl
  have hs : Sub G (frzH G H (fp i)) := sub_frzH fun a ha => (m.ft i a ha).1
  have key : ∀ j, j ≠ i → ∀ {x : V} {d : D}, Rp K G H x d (fp j) → Rp K (frzH G H (fp i)) H x d (updF fp i [] j) := fun j hj x d r => by
    rw [updF_ne hj]
    exact r.mov hs _ fun a ha o hg ho => ⟨by rw [frzH_out (m.ap j i hj a ha)]; exact hg, ho⟩
  have gk : ∀ {j : Nat} {s : Sl}, j ≠ i → ((killB i ρ).set i (.v d.fz))[j]? = some s → s ≠ .un → ρ[j]? = some s ∧ ∀ q, s ≠ .b i q := fun {j s} hj h hn => by
    rw [List.getElem?_set_ne (Ne.symm hj)] at h
    exact killB_of h hn
  refine ⟨frzH_sub m.sub, by rw [List.length_set, killB_len]; exact m.len, fun j d' h => ?_, fun j d' h => ?_, fun j k q h => ?_, fun j k hjk a ha => ?_, fun j a ha => ?_⟩
  · by_cases hj : j = i
    · subst hj
      rw [List.getElem?_set_self hl'] at h
      cases h
      obtain ⟨x, h1, h2⟩ := m.sl j d hi
      refine ⟨x, h1, ?_⟩
      rw [updF_same]
      exact h2.froz hs _ fun a ha => frzH_in ha
    · obtain ⟨x, h1, h2⟩ := m.sl j d' (gk hj h (by intro z; cases z)).1
      exact ⟨x, h1, key j hj h2⟩
  · by_cases hj : j = i
    · subst hj
      rw [List.getElem?_set_self hl'] at h
      cases h
    · obtain ⟨h1, h2⟩ := m.pn j d' (gk hj h (by intro z; cases z)).1
      exact ⟨h1, key j hj h2⟩
  · by_cases hj : j = i
    · subst hj
      rw [List.getElem?_set_self hl'] at h
      cases h
    · obtain ⟨g1, g2⟩ := gk hj h (by intro z; cases z)
      obtain ⟨x, y, h1, h2, h3⟩ := m.br j k q g1
      have hk : k ≠ i := fun z => g2 q (by rw [z])
      exact ⟨x, y, h1, h2, by rw [updF_ne hk]; exact h3⟩
  · by_cases hj : j = i
    · subst hj; rw [updF_same] at ha; cases ha
    · rw [updF_ne hj] at ha
      by_cases hk : k = i
      · subst hk; rw [updF_same]; simp
      · rw [updF_ne hk]; exact m.ap j k hjk a ha
  · by_cases hj : j = i
    · subst hj; rw [updF_same] at ha; cases ha
    · rw [updF_ne hj] at ha
      exact ⟨by rw [frzH_out (m.ap j i hj a ha)]; exact (m.ft j a ha).1, (m.ft j a ha).2⟩
/-- a slot's value moved out -/
theorem Mt.out {i : Nat} {d : D} (m : Mt K pv σ ρ G H fp) (hi : ρ[i]? = some (Sl.v d)) : Mt K pv σ ((killB i ρ).set i .un) G H (updF fp i []) := by
  have hl : i < ρ.length := (List.getElem?_eq_some_iff.mp hi).1
  have hl' : i < (killB i ρ).length := by rw [killB_len]; exact hl
  have gk : ∀ {j : Nat} {s : Sl}, j ≠ i → ((killB i ρ).set i .un)[j]? = some s → s ≠ .un → ρ[j]? = some s ∧ ∀ q, s ≠ .b i q := fun {j s} hj h hn => by
    rw [List.getElem?_set_ne (Ne.symm hj)] at h
    exact killB_of h hn
  refine ⟨m.sub, by rw [List.length_set, killB_len]; exact m.len, fun j d' h => ?_, fun j d' h => ?_, fun j k q h => ?_, fun j k hjk a ha => ?_, fun j a ha => ?_⟩
  · by_cases hj : j = i
    · subst hj; rw [List.getElem?_set_self hl'] at h; cases h
    · rw [updF_ne hj]
      exact m.sl j d' (gk hj h (by intro z; cases z)).1
  · by_cases hj : j = i
    · subst hj; rw [List.getElem?_set_self hl'] at h; cases h
    · rw [updF_ne hj]
      exact m.pn j d' (gk hj h (by intro z; cases z)).1
  · by_cases hj : j = i
    · subst hj; rw [List.getElem?_set_self hl'] at h; cases h
    · obtain ⟨g1, g2⟩ := gk hj h (by intro z; cases z)
      obtain ⟨x, y, h1, h2, h3⟩ := m.br j k q g1
      have hk : k ≠ i := fun z => g2 q (by rw [z])
      exact ⟨x, y, h1, h2, by rw [updF_ne hk]; exact h3⟩
  · by_cases hj : j = i
    · subst hj; rw [updF_same] at ha; cases ha
    · rw [updF_ne hj] at ha
      by_cases hk : k = i
      · subst hk; rw [updF_same]; simp
      · rw [updF_ne hk]; exact m.ap j k hjk a ha
  · by_cases hj : j = i
    · subst hj; rw [updF_same] at ha; cases ha
    · rw [updF_ne hj] at ha
      exact m.ft j a ha
theorem InF.updF {fp : Fps} {i : Nat} {F : List Addr} {a : Addr} (h : InF (DL.updF fp i F) a) : InF fp a ∨ a ∈ F := by
  obtain ⟨j, hj⟩ := h
  by_cases e : j = i
  · subst e; rw [updF_same] at hj; exact .inr hj
  · rw [updF_ne e] at hj; exact .inl ⟨j, hj⟩
/-- a value put in a slot -/
theorem Mt.put {i : Nat} {d : D} {ρ' : Env} {x : V} (m : Mt K pv σ ρ G H fp) (hst : stV ρ i d = some ρ') (r : Rp K G H x d F) (hd : ∀ a ∈ F, ¬ InF fp a) : Mt K pv (σ.set i (some x)) ρ' G H (updF fp i F) := by
  have hl : i < ρ.length := by
    unfold stV at hst
    cases e : ρ[i]? with
    | none => rw [e] at hst; cases hst
    | some s => exact (List.getElem?_eq_some_iff.mp e).1
  have e' : ρ' = (killB i ρ).set i (.v d) := by
    unfold stV at hst
    split at hst
    · cases hst
    · cases hst; rfl
    · cases hst
  have hl' : i < (killB i ρ).length := by rw [killB_len]; exact hl
  have hlσ : i < σ.length := by rw [← m.len]; exact hl
  have gk : ∀ {j : Nat} {s : Sl}, j ≠ i → ρ'[j]? = some s → s ≠ .un → ρ[j]? = some s ∧ ∀ q, s ≠ .b i q := fun {j s} hj h hn => by
    rw [e', List.getElem?_set_ne (Ne.symm hj)] at h
    exact killB_of h hn
  refine ⟨m.sub, by rw [e', List.length_set, killB_len, List.length_set]; exact m.len, fun j d' h => ?_, fun j d' h => ?_, fun j k q h => ?_, fun j k hjk a ha => ?_, fun j a ha => ?_⟩
  · by_cases hj : j = i
    · subst hj
      rw [e', List.getElem?_set_self hl'] at h
      cases h
      exact ⟨x, by rw [List.getElem?_set_self hlσ], by rw [updF_same]; exact r⟩
    · rw [updF_ne hj, List.getElem?_set_ne (Ne.symm hj)]
      exact m.sl j d' (gk hj h (by intro z; cases z)).1
  · by_cases hj : j = i
    · subst hj
      rw [e', List.getElem?_set_self hl'] at h
      cases h
    · rw [updF_ne hj, List.getElem?_set_ne (Ne.symm hj)]
      exact m.pn j d' (gk hj h (by intro z; cases z)).1
  · by_cases hj : j = i
    · subst hj
      rw [e', List.getElem?_set_self hl'] at h
      cases h
    · obtain ⟨g1, g2⟩ := gk hj h (by intro z; cases z)
      obtain ⟨x', y, h1, h2, h3⟩ := m.br j k q g1
      have hk : k ≠ i := fun z => g2 q (by rw [z])
      exact ⟨x', y, by rw [List.getElem?_set_ne (Ne.symm hk)]; exact h1, by rw [List.getElem?_set_ne (Ne.symm hj)]; exact h2, by rw [updF_ne hk]; exact h3⟩
  · by_cases hj : j = i
    · subst hj
      rw [updF_same] at ha
      rw [updF_ne (Ne.symm hjk)]
      exact fun z => hd a ha ⟨k, z⟩
    · rw [updF_ne hj] at ha
      by_cases hk : k = i
      · subst hk; rw [updF_same]; exact fun z => hd a z ⟨j, ha⟩
      · rw [updF_ne hk]; exact m.ap j k hjk a ha
  · by_cases hj : j = i
    · subst hj; rw [updF_same] at ha; exact Rp.foot _ r a ha
    · rw [updF_ne hj] at ha
      exact m.ft j a ha
/-- taking: the shared part may grow -/
theorem tk_ok {r : Rv} {v : V} {d : D} {ρ' : Env} {P : Addr → Prop} (m : Mt K pv σ ρ G H fp) (o : RvOk K σ G H P v r F) (hP : ∀ a, InF fp a → P a) (e : tk ρ r = some (d, ρ')) :
    ∃ G' fp', Stp G H (InF fp) G' H (InF fp') ∧ Mt K pv σ ρ' G' H fp' ∧ Rp K G' H v d F ∧ (∀ a, InF fp' a → InF fp a) := by
  cases r with
  | t d' =>
    cases e
    exact ⟨G, fp, Stp.refl _ _ _, m, o.1, fun _ z => z⟩
  | s i =>
    obtain ⟨o1, o2⟩ := o
    subst o2
    unfold tk at e
    simp only at e
    cases es : slD ρ i with
    | none => rw [es] at e; cases e
    | some d0 =>
      rw [es] at e
      simp only at e
      obtain ⟨v', F0, h1, h2, h3⟩ := sl_ok m es
      rw [o1] at h1; cases h1
      split at e
      · rename_i hz
        cases e
        have := Rp.foot0 _ h2 hz
        subst this
        exact ⟨G, fp, Stp.refl _ _ _, m, h2, fun _ z => z⟩
      · split at e
        · rename_i d1 hi
          cases e
          obtain ⟨x, g1, g2⟩ := m.sl i d1 hi
          rw [o1] at g1; cases g1
          refine ⟨frzH G H (fp i), updF fp i [], ?_, m.frz hi, g2.froz (sub_frzH fun a ha => (m.ft i a ha).1) _ fun a ha => frzH_in ha, fun a z => ?_⟩
          · refine (Stp.frz (P := InF fp) (fun a ha => (m.ft i a ha).1) fun a ha => ⟨i, ha⟩).mono (fun _ z => z) fun a z => .inr ?_
            rcases InF.updF z with z | z
            · exact z
            · cases z
          · rcases InF.updF z with z | z
            · exact z
            · cases z
        · cases e
end
end DL
/-! DL4: rules for expressions and tests. -/
namespace DL
open PySem L2

section
variable {K : PySem.W.Frag} {cn : String → Addr} {pv : Nat → V} {σ γ : St} {n : Nat} {ρ : Env} {G H G' H' G2 H2 G3 H3 : Hp} {fp fp' fp2 : Fps} {F : List Addr} {E : WX}
/-- behind a step that only makes new things -/
theorem fin_new {P P2 P3 : Addr → Prop} (m : Mt K pv σ ρ G2 H2 fp2) (s : Stp G H P G2 H2 P2) (h2 : ∀ a, InF fp2 a → P2 a) (s3 : Stp G2 H2 (fun _ => False) G3 H3 P3) (hs : Sub G3 H3) :
    Stp G H P G3 H3 (fun a => InF fp2 a ∨ P3 a) ∧ Mt K pv σ ρ G3 H3 fp2 ∧ ∀ a, P3 a → ¬ InF fp2 a := by
  refine ⟨s.trans (s3.mono (fun _ z => z.elim) fun x z => z.elim (fun z => .inr (h2 x z)) .inl), m.step s3 hs, fun a z q => ?_⟩
  rcases s3.f a z with y | y
  · exact y
  · obtain ⟨j, hj⟩ := q
    obtain ⟨_, o, ho⟩ := m.ft j a hj
    rw [y] at ho; cases ho
end

/-- a two-place operation on deep values -/
abbrev Op2 := D → D → (D → Prop) → Prop
def Fin (K : PySem.W.Frag) (G H : Hp) (Q0 : D → Prop) (Q : VK) : Prop := ∀ z w G' H' F, Q0 z → Stp G H (fun _ => False) G' H' (fun a => a ∈ F) → Sub G' H' → Rp K G' H' w z F → Q w H'
def Sem2 (K : PySem.W.Frag) (rr : R2) (r : Op2) : Prop := ∀ G H v u d e F1 F2 Q0 Q, Sub G H → Rp K G H v d F1 → Rp K G H u e F2 → r d e Q0 → Fin K G H Q0 Q → rr v u H Q
def Sem1 (K : PySem.W.Frag) (rr : V → Hp → VK → Prop) (r : D → (D → Prop) → Prop) : Prop := ∀ G H v d F1 Q0 Q, Sub G H → Rp K G H v d F1 → r d Q0 → Fin K G H Q0 Q → rr v H Q
/-- each for itself -/
abbrev Rps (K : PySem.W.Frag) (G H : Hp) : List V → List D → Prop := Paired fun v d => ∃ F, Rp K G H v d F
def SemL (K : PySem.W.Frag) (rr : List V → Hp → VK → Prop) (r : List D → (D → Prop) → Prop) : Prop := ∀ G H vs ds Q0 Q, Sub G H → Rps K G H vs ds → r ds Q0 → Fin K G H Q0 Q → rr vs H Q

def dOp (r : Op2) (ta tb : DE) : DE := fun ρ Q E => ta ρ (fun x ρ1 => tb ρ1 (fun y ρ2 => ∃ d e, look ρ2 x = some d ∧ look ρ2 y = some e ∧ r d e fun z => Q (.t z) ρ2) E) E
def dUn (r : D → (D → Prop) → Prop) (ta : DE) : DE := fun ρ Q E => ta ρ (fun x ρ1 => ∃ d, look ρ1 x = some d ∧ r d fun z => Q (.t z) ρ1) E
def dTst (ta : DE) : DT := fun ρ Q E => ta ρ (fun x ρ1 => ∃ b, look ρ1 x = some (.p (.bl b)) ∧ Q b ρ1) E
def dAnd (t u : DT) : DT := fun ρ Q E => t ρ (fun b ρ1 => if b = true then u ρ1 Q E else Q false ρ1) E
def dOr (t u : DT) : DT := fun ρ Q E => t ρ (fun b ρ1 => if b = true then Q true ρ1 else u ρ1 Q E) E
def dNot (t : DT) : DT := fun ρ Q E => t ρ (fun b ρ1 => Q (!b) ρ1) E
def dAndV (ta tb : DE) : DE := fun ρ Q E => ta ρ (fun x ρ1 => ∃ b, look ρ1 x = some (.p (.bl b)) ∧ if b = true then tb ρ1 Q E else Q (.t (.p (.bl false))) ρ1) E
def dOrV (ta tb : DE) : DE := fun ρ Q E => ta ρ (fun x ρ1 => ∃ b, look ρ1 x = some (.p (.bl b)) ∧ if b = true then Q (.t (.p (.bl true))) ρ1 else tb ρ1 Q E) E
def dNotV (ta : DE) : DE := fun ρ Q E => ta ρ (fun x ρ1 => ∃ b, look ρ1 x = some (.p (.bl b)) ∧ Q (.t (.p (.bl (!b)))) ρ1) E
def dIf (t : DT) (ta tb : DE) : DE := fun ρ Q E => t ρ (fun b ρ1 => if b = true then ta ρ1 Q E else tb ρ1 Q E) E
def dMv (i : Nat) : DE := fun ρ Q _ => ∃ d, ρ[i]? = some (.v d) ∧ Q (.t d) ((killB i ρ).set i .un)
/-- x < y < z -/
def dChain (r r' : Op2) (ta tb tc : DE) : DE := fun ρ Q E => ta ρ (fun x ρ1 => tb ρ1 (fun y ρ2 => ∃ d e, look ρ2 x = some d ∧ look ρ2 y = some e ∧ r d e fun z => ∃ b, z = .p (.bl b) ∧
  if b = true then tc ρ2 (fun y' ρ3 => ∃ e' e'', look ρ3 y = some e' ∧ look ρ3 y' = some e'' ∧ r' e' e'' fun z => Q (.t z) ρ3) E else Q (.t (.p (.bl false))) ρ2) E) E

section
variable {X : Cx} {cn : String → Addr} {E : WX} {a b c : Expr} {pos : Pos} {ta tb tc : DE} {t u : DT}
/-- a handle's value, as a value of its own, where it is a plain one -/
theorem look_p {K : PySem.W.Frag} {pv : Nat → V} {σ : St} {ρ : Env} {G H : Hp} {fp : Fps} {P : Addr → Prop} {v x : V} {r : Rv} {F : List Addr} (m : Mt K pv σ ρ G H fp) (o : RvOk K σ G H P v r F) (e : look ρ r = some (.p x)) : v = x := by
  obtain ⟨F0, h, _⟩ := look_ok m o e
  cases h
  rfl
theorem opE {rr : R2} {r : Op2} (hs : Sem2 X.K rr r) (σ : St) (H : Hp) (Q : VK) : liftE X.K cn E (dOp r ta tb) σ H Q → tOp rr (liftE X.K cn E ta) (liftE X.K cn E tb) σ H Q := by
  rintro ⟨pv, γ, ρ, G, fp, Q0, E0, m, q, po, px⟩
  refine ⟨pv, γ, ρ, G, fp, _, E0, m, q, fun x ρ1 v G1 H1 fp1 F1 q1 s1 m1 o1 => ?_, px⟩
  refine ⟨pv, γ, ρ1, G1, fp1, _, E0, m1, q1, fun y ρ2 w G2 H2 fp2 F2 q2 s2 m2 o2 => ?_, px.on s1⟩
  obtain ⟨d, e, l1, l2, q2⟩ := q2
  obtain ⟨A, rA, _⟩ := look_ok m2 (o1.frame s2) l1
  obtain ⟨B, rB, _⟩ := look_ok m2 o2 l2
  refine hs G2 H2 v w d e A B _ Q m2.sub rA rB q2 fun z w' G3 H3 Fz qz s3 hs3 rz => ?_
  obtain ⟨f1, f2, f3⟩ := fin_new m2 (s1.seq (fun _ z => .inl z) s2 fun _ z => .inl z) (fun a z => .inl z) s3 hs3
  exact po (.t z) ρ2 w' G3 H3 fp2 Fz qz f1 f2 ⟨rz, f3⟩
theorem je_op {op : Operator} {rr : R2} {r : Op2} (ho : OpR X (binaryOp op) rr) (hs : Sem2 X.K rr r) (ha : JE X cn E a ta) (hb : JE X cn E b tb) : JE X cn E (.BinOp a op b pos) (dOp r ta tb) :=
  pe_imp (pe_op ho ha hb) (opE hs)
theorem je_cmp {op : CmpOp} {rr : R2} {r : Op2} (ho : OpR X (compareOp op) rr) (hs : Sem2 X.K rr r) (ha : JE X cn E a ta) (hb : JE X cn E b tb) (hm : behindInMarks op b = false) : JE X cn E (.Compare a [op] [b] pos) (dOp r ta tb) :=
  pe_imp (pe_cmpR ho ha hb hm) (opE hs)
theorem je_un {op : UnaryOp} {rr : V → Hp → VK → Prop} {r : D → (D → Prop) → Prop} (ho : UnR X (unaryOp op) rr) (hs : Sem1 X.K rr r) (ha : JE X cn E a ta) : JE X cn E (.UnaryOp op a pos) (dUn r ta) :=
  pe_imp (pe_un ho ha) fun σ H Q ⟨pv, γ, ρ, G, fp, Q0, E0, m, q, po, px⟩ => ⟨pv, γ, ρ, G, fp, _, E0, m, q, fun x ρ1 v G1 H1 fp1 F1 ⟨d, l1, q1⟩ s1 m1 o1 => by
    obtain ⟨A, rA, _⟩ := look_ok m1 o1 l1
    refine hs G1 H1 v d A _ Q m1.sub rA q1 fun z w' G3 H3 Fz qz s3 hs3 rz => ?_
    obtain ⟨f1, f2, f3⟩ := fin_new m1 s1 (fun a z => .inl z) s3 hs3
    exact po (.t z) ρ1 w' G3 H3 fp1 Fz qz f1 f2 ⟨rz, f3⟩, px⟩
theorem drop0 {fp : Fps} {P : Addr → Prop} {G H G' H' : Hp} {F : List Addr} (s : Stp G H P G' H' (fun a => InF fp a ∨ a ∈ F)) : Stp G H P G' H' (InF fp) := s.mono (fun _ z => z) fun _ z => .inl (.inl z)
theorem tstE {tt : DE} (σ : St) (H : Hp) (Q : Bool → Hp → Prop) : liftT X.K cn E (dTst tt) σ H Q → liftE X.K cn E tt σ H (fun x H1 => ∃ k, x = .bl k ∧ Q k H1) := by
  rintro ⟨pv, γ, ρ, G, fp, Q0, E0, m, q, po, px⟩
  refine ⟨pv, γ, ρ, G, fp, _, E0, m, q, fun x ρ1 v G1 H1 fp1 F1 ⟨b, l1, q1⟩ s1 m1 o1 => ?_, px⟩
  exact ⟨b, look_p m1 o1 l1, po b ρ1 G1 H1 fp1 q1 (drop0 s1) m1⟩
theorem jt_cmp {op : CmpOp} {rr : R2} {r : Op2} (ho : OpR X (compareOp op) rr) (hs : Sem2 X.K rr r) (ha : JE X cn E a ta) (hb : JE X cn E b tb) (hm : behindInMarks op b = false) : JT X cn E (.Compare a [op] [b] pos) (dTst (dOp r ta tb)) := by
  refine pt_imp (pt_cmpR ho ha hb hm) fun σ H Q h => ?_
  have := tstE σ H Q h
  exact opE hs σ H _ this
theorem jt_val (h : JE X cn E a ta) (he : ∀ whole, isTrue a X.env whole = (do let v ← whole; standAt a.pos; holding [v] (truthy v)) := by intro _; rfl) : JT X cn E a (dTst ta) :=
  pt_imp (pt_val h he) fun σ H Q h => tstE σ H Q h
theorem jw_and1 (h : JT X cn E a t) : JW X cn E (.BoolOp .And [a] pos) t := pw_and1 h
theorem jw_or1 (h : JT X cn E a t) : JW X cn E (.BoolOp .Or [a] pos) t := pw_or1 h
theorem jw_and {rest : List Expr} (ha : JT X cn E a t) (hb : JW X cn E (.BoolOp .And (b :: rest) pos) u) : JW X cn E (.BoolOp .And (a :: b :: rest) pos) (dAnd t u) :=
  pw_imp (pw_and ha hb) fun σ H Q ⟨pv, γ, ρ, G, fp, Q0, E0, m, q, po, px⟩ => ⟨pv, γ, ρ, G, fp, _, E0, m, q, fun b ρ1 G1 H1 fp1 q1 s1 m1 => by
    cases b with
    | true => exact ⟨pv, γ, ρ1, G1, fp1, Q0, E0, m1, q1, fun b2 ρ2 G2 H2 fp2 q2 s2 m2 => po b2 ρ2 G2 H2 fp2 q2 (s1.trans s2) m2, px.on0 s1⟩
    | false => exact po false ρ1 G1 H1 fp1 q1 s1 m1, px⟩
theorem jw_or {rest : List Expr} (ha : JT X cn E a t) (hb : JW X cn E (.BoolOp .Or (b :: rest) pos) u) : JW X cn E (.BoolOp .Or (a :: b :: rest) pos) (dOr t u) :=
  pw_imp (pw_or ha hb) fun σ H Q ⟨pv, γ, ρ, G, fp, Q0, E0, m, q, po, px⟩ => ⟨pv, γ, ρ, G, fp, _, E0, m, q, fun b ρ1 G1 H1 fp1 q1 s1 m1 => by
    cases b with
    | false => exact ⟨pv, γ, ρ1, G1, fp1, Q0, E0, m1, q1, fun b2 ρ2 G2 H2 fp2 q2 s2 m2 => po b2 ρ2 G2 H2 fp2 q2 (s1.trans s2) m2, px.on0 s1⟩
    | true => exact po true ρ1 G1 H1 fp1 q1 s1 m1, px⟩
theorem jw_t (h : JW X cn E a t) : JT X cn E a t := PW.pt h
theorem jt_not (h : JT X cn E a t) : JT X cn E (.UnaryOp .Not a pos) (dNot t) :=
  pt_imp (pt_not h) fun σ H Q ⟨pv, γ, ρ, G, fp, Q0, E0, m, q, po, px⟩ => ⟨pv, γ, ρ, G, fp, _, E0, m, q, fun b ρ1 G1 H1 fp1 q1 s1 m1 => po (!b) ρ1 G1 H1 fp1 q1 s1 m1, px⟩
theorem po_bl {K : PySem.W.Frag} {pv : Nat → V} {σ γ : St} {G H G1 H1 : Hp} {fp fp1 : Fps} {F1 : List Addr} {Q0 : Rv → Env → Prop} {Q : VK} {b : Bool} {ρ1 : Env} (po : PoE K pv σ γ G H fp Q0 Q) (q : Q0 (.t (.p (.bl b))) ρ1) (s1 : Stp G H (InF fp) G1 H1 (fun a => InF fp1 a ∨ a ∈ F1)) (m1 : Mt K pv (σ ++ γ) ρ1 G1 H1 fp1) : Q (.bl b) H1 :=
  po _ _ _ G1 H1 fp1 [] q (s1.mono (fun _ z => z) fun a z => by
    rcases z with z | z
    · exact .inl (.inl z)
    · cases z) m1 ⟨Rp.p _, fun a z => by cases z⟩
theorem je_and {rest : List Expr} (ha : JE X cn E a ta) (hb : JE X cn E (.BoolOp .And (b :: rest) pos) tb) : JE X cn E (.BoolOp .And (a :: b :: rest) pos) (dAndV ta tb) :=
  pe_imp (pe_and ha hb) fun σ H Q ⟨pv, γ, ρ, G, fp, Q0, E0, m, q, po, px⟩ => ⟨pv, γ, ρ, G, fp, _, E0, m, q, fun x ρ1 v G1 H1 fp1 F1 ⟨b, l1, q1⟩ s1 m1 o1 => ⟨b, look_p m1 o1 l1, by
    cases b with
    | true => exact ⟨pv, γ, ρ1, G1, fp1, Q0, E0, m1, q1, fun r2 ρ2 v2 G2 H2 fp2 F2 q2 s2 m2 o2 => po r2 ρ2 v2 G2 H2 fp2 F2 q2 ((drop0 s1).trans s2) m2 o2, px.on s1⟩
    | false => exact po_bl po q1 s1 m1⟩, px⟩
theorem je_one {op} (h : JE X cn E a ta) : JE X cn E (.BoolOp op [a] pos) ta := pe_one h
theorem je_not (h : JE X cn E a ta) : JE X cn E (.UnaryOp .Not a pos) (dNotV ta) :=
  pe_imp (pe_not h) fun σ H Q ⟨pv, γ, ρ, G, fp, Q0, E0, m, q, po, px⟩ => ⟨pv, γ, ρ, G, fp, _, E0, m, q, fun x ρ1 v G1 H1 fp1 F1 ⟨b, l1, q1⟩ s1 m1 o1 => ⟨b, look_p m1 o1 l1, po_bl po q1 s1 m1⟩, px⟩
theorem je_if (hc : JT X cn E c t) (ha : JE X cn E a ta) (hb : JE X cn E b tb) : JE X cn E (.IfExp c a b pos) (dIf t ta tb) :=
  pe_imp (pe_ifExp hc ha hb) fun σ H Q ⟨pv, γ, ρ, G, fp, Q0, E0, m, q, po, px⟩ => ⟨pv, γ, ρ, G, fp, _, E0, m, q, fun k ρ1 G1 H1 fp1 q1 s1 m1 => by
    cases k with
    | true => exact ⟨pv, γ, ρ1, G1, fp1, Q0, E0, m1, q1, fun r2 ρ2 v2 G2 H2 fp2 F2 q2 s2 m2 o2 => po r2 ρ2 v2 G2 H2 fp2 F2 q2 (s1.trans s2) m2 o2, px.on0 s1⟩
    | false => exact ⟨pv, γ, ρ1, G1, fp1, Q0, E0, m1, q1, fun r2 ρ2 v2 G2 H2 fp2 F2 q2 s2 m2 o2 => po r2 ρ2 v2 G2 H2 fp2 F2 q2 (s1.trans s2) m2 o2, px.on0 s1⟩, px⟩
theorem je_mv {i : Nat} (hi : i < X.N.length) (h : PE X a (tVar i)) : JE X cn E a (dMv i) := ⟨fun pins sh σ H Q I ⟨pv, γ, ρ, G, fp, Q0, E0, m, ⟨d, hd, q⟩, po, _⟩ => by
  obtain ⟨v, h1, h2⟩ := m.sl i d hd
  have hl : i < σ.length := by rw [I.len]; exact hi
  have s : Stp G H (InF fp) G H (fun a => InF (updF fp i []) a ∨ a ∈ fp i) := (Stp.refl _ _ _).mono (fun _ z => z) fun x z => .inl (by
    rcases z with z | z
    · rcases InF.updF z with z | z
      · exact z
      · cases z
    · exact ⟨i, z⟩)
  refine h.run pins sh σ H Q I ⟨v, get_left hl h1, po (.t d) _ v G H _ (fp i) q s (m.out hd) ⟨h2, fun a ha z => ?_⟩⟩
  obtain ⟨j, hj⟩ := z
  by_cases e : j = i
  · subst e; rw [updF_same] at hj; cases hj
  · rw [updF_ne e] at hj
    exact m.ap j i e a hj ha⟩
theorem chainE {rr rr' : R2} {r r' : Op2} (hs : Sem2 X.K rr r) (hs' : Sem2 X.K rr' r') (σ : St) (H : Hp) (Q : VK) : liftE X.K cn E (dChain r r' ta tb tc) σ H Q → tChain rr rr' (liftE X.K cn E ta) (liftE X.K cn E tb) (liftE X.K cn E tc) σ H Q := by
  rintro ⟨pv, γ, ρ, G, fp, Q0, E0, m, q, po, px⟩
  refine ⟨pv, γ, ρ, G, fp, _, E0, m, q, fun x ρ1 v G1 H1 fp1 F1 q1 s1 m1 o1 => ?_, px⟩
  refine ⟨pv, γ, ρ1, G1, fp1, _, E0, m1, q1, fun y ρ2 w G2 H2 fp2 F2 q2 s2 m2 o2 => ?_, px.on s1⟩
  obtain ⟨d, e, l1, l2, q2⟩ := q2
  obtain ⟨A, rA, _⟩ := look_ok m2 (o1.frame s2) l1
  obtain ⟨B, rB, _⟩ := look_ok m2 o2 l2
  have s12 := s1.seq (fun _ z => .inl z) s2 (P3 := fun a => InF fp2 a ∨ a ∈ F2) fun _ z => .inl z
  refine hs G2 H2 v w d e A B _ _ m2.sub rA rB q2 fun z w' G3 H3 Fz qz s3 hs3 rz => ?_
  obtain ⟨k, rfl, qz⟩ := qz
  cases rz
  refine ⟨k, rfl, ?_⟩
  obtain ⟨f1, f2, f3⟩ := fin_new m2 s12 (fun a z => .inl z) s3 hs3
  have f1' : Stp G H (InF fp) G3 H3 (InF fp2) := f1.mono (fun _ z => z) fun _ z => .inl (.inl z)
  cases k with
  | false => exact po_bl (F1 := []) po qz f1 f2
  | true =>
    rw [if_pos rfl] at qz ⊢
    have px3 : PoX X.K cn pv γ σ.length G3 H3 fp2 E0 E := px.on0 f1'
    refine ⟨pv, γ, ρ2, G3, fp2, _, E0, f2, qz, fun y' ρ4 w4 G4 H4 fp4 F4 q4 s4 m4 o4 => ?_, px3⟩
    obtain ⟨e', e'', l3, l4, q4⟩ := q4
    have o3 : RvOk X.K (σ ++ γ) G3 H3 (InF fp2) w y F2 := by
      cases y with
      | s i => exact o2
      | t dy =>
        refine ⟨(Rp.frame o2.1 s3 fun _ _ z => z).1, o2.2⟩
    obtain ⟨A4, rA4, _⟩ := look_ok m4 (o3.frame s4) l3
    obtain ⟨B4, rB4, _⟩ := look_ok m4 o4 l4
    refine hs' G4 H4 w w4 e' e'' A4 B4 _ Q m4.sub rA4 rB4 q4 fun z w5 G5 H5 F5 q5 s5 hs5 r5 => ?_
    obtain ⟨g1, g2, g3⟩ := fin_new m4 (f1'.seq (fun _ z => z) s4 (P3 := fun a => InF fp4 a ∨ a ∈ F4) fun _ z => .inl z) (fun a z => .inl z) s5 hs5
    exact po (.t z) ρ4 w5 G5 H5 fp4 F5 q5 g1 g2 ⟨r5, g3⟩
theorem je_chain {op op' : CmpOp} {rr rr' : R2} {r r' : Op2} (ho : OpR X (compareOp op) rr) (ho' : OpR X (compareOp op') rr') (hs : Sem2 X.K rr r) (hs' : Sem2 X.K rr' r') (ha : JE X cn E a ta) (hb : JE X cn E b tb) (hc : JE X cn E c tc)
    (hm : lastMarks [op, op'] [b, c] = false := by with_unfolding_all rfl) : JE X cn E (.Compare a [op, op'] [b, c] pos) (dChain r r' ta tb tc) := pe_imp (pe_chain ho ho' ha hb hc hm) (chainE hs hs')
end
end DL
/-! DL5: arguments, calls of built-ins, displays, small statements. -/
namespace DL
open PySem L2

def dNil : DA := fun ρ Q _ => Q [] ρ
def dCons (ta : DE) (tr : DA) : DA := fun ρ Q E => ta ρ (fun x ρ1 => tr ρ1 (fun xs ρ2 => Q (x :: xs) ρ2) E) E
def lookL (ρ : Env) : List Rv → Option (List D)
  | [] => some []
  | r :: rs => match look ρ r, lookL ρ rs with
    | some d, some ds => some (d :: ds)
    | _, _ => none
/-- all taken, from the left -/
def tkL (ρ : Env) : List Rv → Option (List D × Env)
  | [] => some ([], ρ)
  | r :: rs => match tk ρ r with
    | some (d, ρ1) => match tkL ρ1 rs with
      | some (ds, ρ2) => some (d :: ds, ρ2)
      | none => none
    | none => none
def dCB (r : List D → (D → Prop) → Prop) (t : DA) : DE := fun ρ Q E => t ρ (fun rs ρ1 => ∃ ds, lookL ρ1 rs = some ds ∧ r ds fun z => Q (.t z) ρ1) E
def dLst (t : DA) : DE := fun ρ Q E => t ρ (fun rs ρ1 => ∃ ds ρ2, tkL ρ1 rs = some (ds, ρ2) ∧ ds.length ≤ 100000 ∧ Q (.t (.n true .lst ds)) ρ2) E
def dTup (t : DA) : DE := fun ρ Q E => t ρ (fun rs ρ1 => ∃ ds ρ2, tkL ρ1 rs = some (ds, ρ2) ∧ ds.length ≤ 100000 ∧ Q (.t (.n false .tup ds)) ρ2) E

section
variable {K : PySem.W.Frag} {cn : String → Addr} {pv : Nat → V} {σ γ : St} {n : Nat} {ρ : Env} {G H G' H' G2 H2 G3 H3 : Hp} {fp fp' fp2 : Fps} {E : WX}
theorem RvOk.weak {P P' : Addr → Prop} {v : V} {r : Rv} {F : List Addr} (o : RvOk K σ G H P v r F) (h : ∀ a, P' a → P a) : RvOk K σ G H P' v r F := by
  cases r with
  | t d => exact ⟨o.1, fun a ha z => o.2 a ha (h a z)⟩
  | s i => exact o
theorem RvOk.add {P : Addr → Prop} {v : V} {r : Rv} {F F1 : List Addr} (o : RvOk K σ G H P v r F) (h : ∀ a ∈ F1, a ∉ F) : RvOk K σ G H (fun a => P a ∨ a ∈ F1) v r F := by
  cases r with
  | t d => exact ⟨o.1, fun a ha z => z.elim (o.2 a ha) fun z => h a z ha⟩
  | s i => exact o
theorem RvOk.apart {P : Addr → Prop} {v : V} {r : Rv} {F : List Addr} (o : RvOk K σ G H P v r F) : ∀ a ∈ F, ¬ P a := by
  cases r with
  | t d => exact o.2
  | s i => obtain ⟨_, e⟩ := o; subst e; intro a ha; cases ha
theorem RvsOk.add : ∀ {rs : List Rv} {P P' : Addr → Prop} {vs : List V} {F : List Addr}, RvsOk K σ G H P vs rs F → (∀ a, P' a → P a ∨ a ∉ F) → RvsOk K σ G H P' vs rs F
  | [], _, _, _, _, .nil, _ => .nil
  | r :: rs, P, P', _, _, .cons (F := F0) (F' := F1) h t, e => by
    refine .cons ?_ (RvsOk.add t fun a q => ?_)
    · cases r with
      | t d => exact ⟨h.1, fun a ha z => by
          rcases e a z with y | y
          · exact h.2 a ha y
          · exact y (List.mem_append_left _ ha)⟩
      | s i => exact h
    · rcases q with q | q
      · rcases e a q with y | y
        · exact .inl (.inl y)
        · exact .inr fun z => y (List.mem_append_right _ z)
      · exact .inl (.inr q)
theorem RvsOk.foot : ∀ {rs : List Rv} {P : Addr → Prop} {vs : List V} {F : List Addr}, RvsOk K σ G H P vs rs F → ∀ a ∈ F, ¬ P a
  | [], _, _, _, .nil, _, z => by cases z
  | r :: rs, P, _, _, .cons (F := F0) (F' := F1) h t, a, z => by
    rcases List.mem_append.mp z with z | z
    · exact h.apart a z
    · exact fun q => RvsOk.foot t a z (.inl q)
theorem RvsOk.frame {G' H' : Hp} : ∀ {rs : List Rv} {P P' : Addr → Prop} {vs : List V} {F : List Addr}, RvsOk K σ G H P vs rs F → Stp G H P G' H' P' → RvsOk K σ G' H' P' vs rs F
  | [], _, _, _, _, .nil, _ => .nil
  | r :: rs, P, P', _, _, .cons (F := F0) (F' := F1) h t, s => by
    refine .cons (h.frame s) ?_
    have s' : Stp G H (fun a => P a ∨ a ∈ F0) G' H' (fun a => P' a ∨ a ∈ F0) := s.mono (fun _ z => .inl z) fun _ z => z.elim .inl fun z => .inr (.inr z)
    exact RvsOk.frame t s'
theorem lookL_ok (m : Mt K pv σ ρ G H fp) : ∀ {rs : List Rv} {P : Addr → Prop} {vs : List V} {F : List Addr} {ds : List D}, RvsOk K σ G H P vs rs F → lookL ρ rs = some ds → Rps K G H vs ds
  | [], _, _, _, ds, .nil, e => by
    simp only [lookL, Option.some.injEq] at e
    subst e
    exact .nil
  | r :: rs, P, _, _, ds, .cons h t, e => by
    simp only [lookL] at e
    split at e
    · rename_i d ds' e1 e2
      cases e
      obtain ⟨F0, h1, _⟩ := look_ok m h e1
      exact .cons ⟨F0, h1⟩ (lookL_ok m t e2)
    · cases e
/-- all taken -/
theorem tkL_ok : ∀ {rs : List Rv} {ρ ρ' : Env} {G : Hp} {fp : Fps} {P : Addr → Prop} {vs : List V} {F : List Addr} {ds : List D}, Mt K pv σ ρ G H fp → RvsOk K σ G H P vs rs F → (∀ a, InF fp a → P a) → tkL ρ rs = some (ds, ρ') →
    ∃ G' fp', Stp G H (InF fp) G' H (InF fp') ∧ Mt K pv σ ρ' G' H fp' ∧ RpL K G' H vs ds F ∧ ∀ a, InF fp' a → InF fp a
  | [], ρ, ρ', G, fp, P, _, _, ds, m, .nil, _, e => by
    simp only [tkL, Option.some.injEq, Prod.mk.injEq] at e
    obtain ⟨e1, e2⟩ := e
    subst e1 e2
    exact ⟨G, fp, Stp.refl _ _ _, m, .nil, fun _ z => z⟩
  | r :: rs, ρ, ρ', G, fp, P, _, _, ds, m, .cons (vs := vs1) (F := F0) (F' := F1) h t, hP, e => by
    simp only [tkL] at e
    split at e
    · rename_i d ρ1 e1
      split at e
      · rename_i ds' ρ2 e2
        cases e
        obtain ⟨G1, fp1, s1, m1, r1, i1⟩ := tk_ok m h hP e1
        have t1 : RvsOk K σ G1 H (fun a => InF fp1 a ∨ a ∈ F0) vs1 rs F1 := by
          have s1' : Stp G H (fun a => P a ∨ a ∈ F0) G1 H (fun a => InF fp1 a ∨ a ∈ F0) := s1.mono (fun a z => .inl (hP a z)) fun a z => z.elim .inl fun z => .inr (.inr z)
          exact t.frame s1'
        obtain ⟨G2, fp2, s2, m2, r2, i2⟩ := tkL_ok m1 t1 (fun a z => .inl z) e2
        have dis : ∀ a ∈ F0, ¬ InF fp1 a := fun a ha z => h.apart a ha (hP a (i1 a z))
        refine ⟨G2, fp2, s1.trans s2, m2, .cons (Rp.frame r1 s2 dis).1 r2 fun a ha hb => ?_, fun a z => i1 a (i2 a z)⟩
        exact RvsOk.foot t1 a hb (.inr ha)
      · cases e
    · cases e
end

section
variable {X : Cx} {cn : String → Addr} {E : WX} {e : Expr} {es : List Expr} {pos : Pos} {ta : DE} {t : DA}
theorem ja_nil : JA X cn E [] dNil := pa_imp pa_nil fun σ H Q ⟨pv, γ, ρ, G, fp, Q0, E0, m, q, po, px⟩ => po [] ρ [] G H fp [] q (stp0 G H fp) m .nil
theorem ja_cons (ha : JE X cn E e ta) (hr : JA X cn E es t) (hs : starEach (e :: es) X.env = (false, eval e X.env) :: starEach es X.env := by rfl) : JA X cn E (e :: es) (dCons ta t) := by
  refine pa_imp (pa_cons ha hr hs) ?_
  rintro σ H Q ⟨pv, γ, ρ, G, fp, Q0, E0, m, q, po, px⟩
  refine ⟨pv, γ, ρ, G, fp, _, E0, m, q, fun x ρ1 v G1 H1 fp1 F1 q1 s1 m1 o1 => ?_, px⟩
  refine ⟨pv, γ, ρ1, G1, fp1, _, E0, m1, q1, fun xs ρ2 vs G2 H2 fp2 F2 q2 s2 m2 o2 => ?_, px.on s1⟩
  have o1' := o1.frame s2
  refine po (x :: xs) ρ2 (v :: vs) G2 H2 fp2 (F1 ++ F2) q2 (s1.seq (fun _ z => .inl z) s2 fun a z => ?_) m2 (.cons (o1'.weak fun a z => .inl z) (o2.add fun a z => ?_))
  · rcases z with z | z
    · exact .inl (.inl z)
    · rcases List.mem_append.mp z with z | z
      · exact .inr (.inr z)
      · exact .inl (.inr z)
  · rcases z with z | z
    · exact .inl z
    · exact .inr fun y => o1'.apart a z (.inr y)
theorem je_cb {rr : List V → Hp → VK → Prop} {r : List D → (D → Prop) → Prop} (hs : SemL X.K rr r) (h : PE X e (tCB rr (liftA X.K cn E t))) : JE X cn E e (dCB r t) := by
  refine pe_imp h ?_
  rintro σ H Q ⟨pv, γ, ρ, G, fp, Q0, E0, m, q, po, px⟩
  refine ⟨pv, γ, ρ, G, fp, _, E0, m, q, fun rs ρ1 vs G1 H1 fp1 F1 ⟨ds, l1, q1⟩ s1 m1 o1 => ?_, px⟩
  refine hs G1 H1 vs ds _ Q m1.sub (lookL_ok m1 o1 l1) q1 fun z w G3 H3 F3 qz s3 hs3 rz => ?_
  obtain ⟨f1, f2, f3⟩ := fin_new m1 s1 (fun a z => .inl z) s3 hs3
  exact po (.t z) ρ1 w G3 H3 fp1 F3 qz f1 f2 ⟨rz, f3⟩
theorem size_of {n : Nat} (h : n ≤ 100000) : n ≤ sizeLine := Nat.le_trans h (by decide)
theorem je_lst (h : JA X cn E es t) : JE X cn E (.List es pos) (dLst t) := by
  refine pe_imp (pe_lst h) ?_
  rintro σ H Q ⟨pv, γ, ρ, G, fp, Q0, E0, m, q, po, px⟩
  refine ⟨pv, γ, ρ, G, fp, _, E0, m, q, fun rs ρ1 vs G1 H1 fp1 F1 ⟨ds, ρ2, l1, hz, q1⟩ s1 m1 o1 => ?_, px⟩
  obtain ⟨G2, fp2, s2, m2, r2, i2⟩ := tkL_ok m1 o1 (fun _ z => z) l1
  refine ⟨by rw [r2.len]; exact size_of hz, fun p hp => ?_⟩
  have hGp : G2 p = none := by
    cases e : G2 p with
    | none => rfl
    | some o => rw [m2.sub p o e] at hp; cases hp
  have kF : ∀ a, (∃ o, H1 a = some o) → a ≠ p := fun a ⟨o, ho⟩ z => by rw [z, hp] at ho; cases ho
  have f1 : ∀ a ∈ F1, ∃ o, H1 a = some o := fun a ha => (RpL.foot _ r2 a ha).2
  refine po (.t (.n true .lst ds)) ρ2 (.ref p) G2 (L2.upd H1 p (.lst vs)) fp2 (p :: F1) q1 ?_ (m2.step ⟨fun _ _ z => z, fun a o z _ => by rw [upd_ne (kF a ⟨o, z⟩)]; exact z, fun _ _ _ z _ => z, fun a (z : a = p) => .inr (by rw [z]; exact hp)⟩ (m2.sub.upd hp)) ⟨?_, fun a ha z => ?_⟩
  · refine (s1.trans (s2.mono (P' := InF fp2) (Q' := fun a => InF fp2 a ∨ a ∈ F1) (fun _ z => .inl z) fun a z => z.elim .inl fun z => .inr (.inr z))).trans ⟨fun _ _ z => z, fun a o z _ => by rw [upd_ne (kF a ⟨o, z⟩)]; exact z, fun _ _ _ z _ => z, fun a z => ?_⟩
    rcases z with z | z
    · exact .inl (.inl z)
    · rcases List.mem_cons.mp z with z | z
      · exact .inr (by rw [z]; exact hp)
      · exact .inl (.inr z)
  · refine Rp.o hGp upd_same (fun z => kF p (f1 p z) rfl) (RpL.mov (fun _ _ z => z) _ r2 fun a ha o hg ho => ⟨hg, by rw [upd_ne (kF a (f1 a ha))]; exact ho⟩)
  · rcases List.mem_cons.mp ha with e | ha
    · obtain ⟨j, hj⟩ := z
      exact kF a (m2.ft j a hj).2 e
    · exact RvsOk.foot o1 a ha (i2 a z)
theorem je_tup {k} (h : JA X cn E es t) : JE X cn E (.Tuple es k pos) (dTup t) := by
  refine pe_imp (pe_tup h) ?_
  rintro σ H Q ⟨pv, γ, ρ, G, fp, Q0, E0, m, q, po, px⟩
  refine ⟨pv, γ, ρ, G, fp, _, E0, m, q, fun rs ρ1 vs G1 H1 fp1 F1 ⟨ds, ρ2, l1, hz, q1⟩ s1 m1 o1 => ?_, px⟩
  obtain ⟨G2, fp2, s2, m2, r2, i2⟩ := tkL_ok m1 o1 (fun _ z => z) l1
  refine ⟨by rw [r2.len]; exact size_of hz, fun p hp => ?_⟩
  have hGp : G2 p = none := by
    cases e : G2 p with
    | none => rfl
    | some o => rw [m2.sub p o e] at hp; cases hp
  have kF : ∀ a, (∃ o, H1 a = some o) → a ≠ p := fun a ⟨o, ho⟩ z => by rw [z, hp] at ho; cases ho
  have f1 : ∀ a ∈ F1, ∃ o, H1 a = some o := fun a ha => (RpL.foot _ r2 a ha).2
  have sn : Stp G2 H1 (fun _ => False) (L2.upd G2 p (.tup vs)) (L2.upd H1 p (.tup vs)) (fun _ => False) := Stp.newG hp m2.sub
  refine po (.t (.n false .tup ds)) ρ2 (.ref p) (L2.upd G2 p (.tup vs)) (L2.upd H1 p (.tup vs)) fp2 F1 q1 ?_ (m2.step sn (m2.sub.updG hp)) ⟨?_, fun a ha z => RvsOk.foot o1 a ha (i2 a z)⟩
  · refine (s1.trans (s2.mono (P' := InF fp2) (Q' := fun a => InF fp2 a ∨ a ∈ F1) (fun _ z => .inl z) fun a z => z.elim .inl fun z => .inr (.inr z))).trans (sn.mono (fun _ z => z.elim) fun a z => .inr z)
  · refine Rp.f upd_same (RpL.mov sn.g _ r2 fun a ha o hg ho => ⟨sn.n a o ho hg fun z => z, sn.h a o ho fun z => z⟩)
end

/-! ### statements -/
def dSeq (t u : DS) : DS := fun D ρ => t { D with nx := fun ρ1 => u D ρ1 } ρ
def dNext : DS := fun D ρ => D.nx ρ
def dBreak : DS := fun D ρ => D.bk ρ
def dCont : DS := fun D ρ => D.ct ρ
def dDrop (te : DE) : DS := fun D ρ => te ρ (fun _ ρ1 => D.nx ρ1) D.ex
def dRet (te : DE) : DS := fun D ρ => te ρ (fun r ρ1 => ∃ d ρ2, tk ρ1 r = some (d, ρ2) ∧ D.rt d ρ2) D.ex
def dRetN : DS := fun D ρ => D.rt (.p .non) ρ
def dIfS (c : DT) (t u : DS) : DS := fun D ρ => c ρ (fun b ρ1 => if b = true then t D ρ1 else u D ρ1) D.ex
def dNever : DS := fun _ _ => False
def dAsg (te : DE) (g : DG) : DS := fun D ρ => te ρ (fun r ρ1 => g r ρ1 D.nx) D.ex
def dName (i : Nat) : DG := fun r ρ Q => ∃ d ρ1 ρ2, tk ρ r = some (d, ρ1) ∧ stV ρ1 i d = some ρ2 ∧ Q ρ2

section
variable {X : Cx} {cn : String → Addr} {E : WX} {e c : Expr} {st : Stmt} {rest sa sb : List Stmt} {pos : Pos} {te : DE} {t u : DS} {tc : DT}
theorem jss_nil : JSs X cn E [] dNext := pss_imp pss_nil fun D σ H ⟨pv, γ, ρ, G, fp, D0, m, q, po⟩ => po.nx ρ σ G H fp q (Stp.refl _ _ _) m rfl
theorem jss_cons (h1 : JS X cn E st t) (h2 : JSs X cn E rest u) : JSs X cn E (st :: rest) (dSeq t u) := pss_imp (pss_cons h1 h2) fun D σ H ⟨pv, γ, ρ, G, fp, D0, m, q, po⟩ =>
  ⟨pv, γ, ρ, G, fp, _, m, q, ⟨fun ρ1 σ1 G1 H1 fp1 q1 s1 m1 l1 => ⟨pv, γ, ρ1, G1, fp1, D0, m1, q1, by rw [l1]; exact po.on s1⟩, po.bk, po.ct, po.rt, po.ex⟩⟩
theorem jss_one (h1 : JS X cn E st t) : JSs X cn E [st] t := pss_one h1
theorem js_expr (he : JE X cn E e te) (hs : swapsWith e none pos.line X.env = pure false := by rfl) : JS X cn E (.Expr e pos) (dDrop te) := ps_imp (ps_expr he hs) fun D σ H ⟨pv, γ, ρ, G, fp, D0, m, q, po⟩ =>
  ⟨pv, γ, ρ, G, fp, _, _, m, q, fun r ρ1 v G1 H1 fp1 F1 q1 s1 m1 o1 => po.nx ρ1 σ G1 H1 fp1 q1 (drop0 s1) m1 rfl, po.ex⟩
theorem js_ret (he : JE X cn E e te) : JS X cn E (.Return (some e) pos) (dRet te) := ps_imp (ps_ret he) fun D σ H ⟨pv, γ, ρ, G, fp, D0, m, q, po⟩ =>
  ⟨pv, γ, ρ, G, fp, _, _, m, q, fun r ρ1 v G1 H1 fp1 F1 ⟨d, ρ2, e1, q1⟩ s1 m1 o1 => by
    obtain ⟨G2, fp2, s2, m2, r2, i2⟩ := tk_ok m1 o1 (fun _ z => z) e1
    refine po.rt d ρ2 v σ G2 H1 fp2 F1 q1 (s1.trans (s2.mono (P' := InF fp2) (fun _ z => .inl z) fun a z => z.elim .inl fun z => .inr (.inr z))) m2 rfl r2 fun a ha z => o1.apart a ha (i2 a z), po.ex⟩
theorem js_if (hc : JT X cn E c tc) (ha : JSs X cn E sa t) (hb : JSs X cn E sb u) : JS X cn E (.If c sa sb pos) (dIfS tc t u) := ps_imp (ps_if hc ha hb) fun D σ H ⟨pv, γ, ρ, G, fp, D0, m, q, po⟩ =>
  ⟨pv, γ, ρ, G, fp, _, _, m, q, fun b ρ1 G1 H1 fp1 q1 s1 m1 => by
    cases b with
    | true => exact ⟨pv, γ, ρ1, G1, fp1, D0, m1, q1, po.on s1⟩
    | false => exact ⟨pv, γ, ρ1, G1, fp1, D0, m1, q1, po.on s1⟩, po.ex⟩
/-- a target's rule; S: the slots that it may store to -/
def liftG (K : PySem.W.Frag) (S : List Nat) (g : DG) : TG := fun v σ H Q => ∃ pv γ ρ G fp r F N0, Mt K pv (σ ++ γ) ρ G H fp ∧ RvOk K (σ ++ γ) G H (InF fp) v r F ∧ g r ρ N0 ∧
  ∀ ρ' σ' G' H' fp', N0 ρ' → Stp G H (fun a => InF fp a ∨ a ∈ F) G' H' (InF fp') → Mt K pv (σ' ++ γ) ρ' G' H' fp' → σ'.length = σ.length → (∀ i, i ∉ S → σ'[i]? = σ[i]?) → Q σ' H'
abbrev JG (X : Cx) (S : List Nat) (e : Expr) (g : DG) : Prop := PG X e (liftG X.K S g)
theorem pg_imp {X : Cx} {e : Expr} {t t' : TG} (h : PG X e t) (i : ∀ v σ H Q, t' v σ H Q → t v σ H Q) : PG X e t' := ⟨fun pins s σ H v u Q I r q => h.run pins s σ H v u Q I r (i v σ H Q q)⟩
theorem set_app {σ γ : St} {i : Nat} {x : Option V} (hi : i < σ.length) : (σ ++ γ).set i x = σ.set i x ++ γ := by
  rw [List.set_append_left _ _ hi]
theorem jg_name {i : Nat} (hi : i < X.N.length) (h : PG X e (gName i)) : JG X [i] e (dName i) := ⟨fun pins sh σ H v u Q I r ⟨pv, γ, ρ, G, fp, rv, F, N0, m, o, ⟨d, ρ1, ρ2, e1, e2, q⟩, po⟩ => by
  obtain ⟨G2, fp2, s2, m2, r2, i2⟩ := tk_ok m o (fun _ z => z) e1
  have hl : i < σ.length := by rw [I.len]; exact hi
  have dis : ∀ a ∈ F, ¬ InF fp2 a := fun a ha z => o.apart a ha (i2 a z)
  have m3 := m2.put e2 r2 dis
  rw [set_app hl] at m3
  refine h.run pins sh σ H v u Q I r (po ρ2 _ G2 H _ q (s2.mono (fun _ z => .inl z) fun a z => ?_) m3 (by rw [List.length_set]) fun j hj => List.getElem?_set_ne (fun z => hj (by simp [z])))
  rcases InF.updF z with z | z
  · exact .inl z
  · exact .inr (.inr z)⟩
/-- target = value -/
theorem js_asg {tg : Expr} {S : List Nat} {g : DG} (h : PS X st (tAsg (liftE X.K cn E te) (liftG X.K S g))) : JS X cn E st (dAsg te g) := ps_imp h fun D σ H ⟨pv, γ, ρ, G, fp, D0, m, q, po⟩ =>
  ⟨pv, γ, ρ, G, fp, _, _, m, q, fun r ρ1 v G1 H1 fp1 F1 q1 s1 m1 o1 => ⟨pv, γ, ρ1, G1, fp1, r, F1, D0.nx, m1, o1, q1, fun ρ' σ' G' H' fp' qn s2 m2 l2 _ =>
    po.nx ρ' σ' G' H' fp' qn (s1.trans s2) m2 l2⟩, po.ex⟩
/-- name = value -/
theorem js_set {i : Nat} (hi : i < X.N.length) (h : PS X st (tAsg (liftE X.K cn E te) (gName i))) : JS X cn E st (dAsg te (dName i)) := ⟨fun pins sh σ H D I ⟨pv, γ, ρ, G, fp, D0, m, q, po⟩ => by
  have hl : i < σ.length := by rw [I.len]; exact hi
  refine h.run pins sh σ H D I ⟨pv, γ, ρ, G, fp, _, _, m, q, fun r ρ1 v G1 H1 fp1 F1 ⟨d, ρ2, ρ3, e1, e2, q1⟩ s1 m1 o1 => ?_, po.ex⟩
  obtain ⟨G2, fp2, s2, m2, r2, i2⟩ := tk_ok m1 o1 (fun _ z => z) e1
  have m3 := m2.put e2 r2 fun a ha z => o1.apart a ha (i2 a z)
  rw [set_app hl] at m3
  refine po.nx ρ3 _ G2 H1 _ q1 (s1.trans (s2.mono (P' := InF fp2) (fun _ z => .inl z) fun a z => ?_)) m3 (by rw [List.length_set])
  rcases InF.updF z with z | z
  · exact .inl z
  · exact .inr (.inr z)⟩
end
end DL
/-! DL6: loops, what is walked, comprehensions. -/
namespace DL
open PySem L2

/-- taken and shared -/
def tkF (ρ : Env) (r : Rv) : Option (D × Env) := match tk ρ r with
  | some (d, ρ1) => some (d.fz, ρ1)
  | none => none
section
variable {K : PySem.W.Frag} {cn : String → Addr} {pv : Nat → V} {σ γ : St} {n : Nat} {ρ : Env} {G H G' H' G2 H2 G3 H3 : Hp} {fp fp' fp2 : Fps} {F : List Addr} {E : WX}
/-- freezing what is held apart -/
theorem Mt.frzT (m : Mt K pv σ ρ G H fp) (h : ∀ a ∈ F, G a = none ∧ ¬ InF fp a) : Mt K pv σ ρ (frzH G H F) H fp :=
  m.move (sub_frzH fun a ha => (h a ha).1) (frzH_sub m.sub) (fun _ _ _ z => z) fun a ⟨i, ha⟩ => by
    rw [frzH_out fun z => (h a z).2 ⟨i, ha⟩]
    exact (m.ft i a ha).1
theorem tkF_ok {r : Rv} {v : V} {d : D} {ρ' : Env} {P : Addr → Prop} (m : Mt K pv σ ρ G H fp) (o : RvOk K σ G H P v r F) (hP : ∀ a, InF fp a → P a) (e : tkF ρ r = some (d, ρ')) :
    ∃ G' fp', Stp G H (fun a => InF fp a ∨ a ∈ F) G' H (InF fp') ∧ Mt K pv σ ρ' G' H fp' ∧ Rp K G' H v d [] ∧ ∀ a, InF fp' a → InF fp a := by
  unfold tkF at e
  split at e
  · rename_i d0 ρ1 e1
    cases e
    obtain ⟨G1, fp1, s1, m1, r1, i1⟩ := tk_ok m o hP e1
    have ff : ∀ a ∈ F, G1 a = none ∧ ¬ InF fp1 a := fun a ha => ⟨(Rp.foot _ r1 a ha).1, fun z => o.apart a ha (hP a (i1 a z))⟩
    refine ⟨frzH G1 H F, fp1, ?_, m1.frzT ff, r1.froz (sub_frzH fun a ha => (ff a ha).1) _ fun a ha => frzH_in ha, i1⟩
    refine (s1.mono (fun _ z => .inl z) (Q' := fun a => InF fp1 a ∨ a ∈ F) fun a z => z.elim .inl fun z => .inr (.inr z)).trans ?_
    exact (Stp.frz (P := fun a => InF fp1 a ∨ a ∈ F) (fun a ha => (ff a ha).1) fun a ha => .inr ha).mono (fun _ z => z) fun a z => .inr (.inl z)
  · cases e
end

/-- what an iterator yields -/
def WalksD (K : PySem.W.Frag) (J : It) (items : List D) (G : Hp) : Prop := ∀ G' H', Sub G G' → Sub G' H' →
  (∀ i d, items[i]? = some d → J.go i H' ∧ ∀ x H2, J.yld i H' x H2 → ∃ G2, Stp G' H' (fun _ => False) G2 H2 (fun _ => False) ∧ Sub G2 H2 ∧ Rp K G2 H2 x d []) ∧
  ∀ i, items.length ≤ i → J.stop i H'
def liftI (K : PySem.W.Frag) (cn : String → Addr) (E : WX) (t : DI) : TI := fun σ H R => ∃ pv γ ρ G fp Q0 E0, Mt K pv (σ ++ γ) ρ G H fp ∧ t ρ Q0 E0 ∧
  (∀ items ρ' J G' H' fp', Q0 items ρ' → Stp G H (InF fp) G' H' (InF fp') → Mt K pv (σ ++ γ) ρ' G' H' fp' → WalksD K J items G' → R J H') ∧ PoX K cn pv γ σ.length G H fp E0 E
abbrev JI (X : Cx) (cn : String → Addr) (E : WX) (tg e : Expr) (t : DI) : Prop := PI X tg e (liftI X.K cn E t)
theorem pi_imp {X : Cx} {tg e : Expr} {t t' : TI} (h : PI X tg e t) (i : ∀ σ H R, t' σ H R → t σ H R) : PI X tg e t' := ⟨fun pins s σ H R I q => h.run pins s σ H R I (i σ H R q)⟩

def dLoop (g : DG) (tb : DS) (D : DEnds) : List DL.D → Env → Prop
  | [], ρ => D.nx ρ
  | d :: ds, ρ => g (.t d) ρ fun ρ1 => tb { D with nx := dLoop g tb D ds, ct := dLoop g tb D ds, bk := D.nx } ρ1
def dFor (ti : DI) (g : DG) (tb : DS) : DS := fun D ρ => ti ρ (fun items ρ1 => dLoop g tb D items ρ1) D.ex
def dWhN (c : DT) (tb : DS) (D : DEnds) : Nat → Env → Prop
  | 0, _ => False
  | n + 1, ρ => c ρ (fun b ρ1 => if b = true then tb { D with nx := dWhN c tb D n, ct := dWhN c tb D n, bk := D.nx } ρ1 else D.nx ρ1) D.ex
def dWhile (c : DT) (tb : DS) : DS := fun D ρ => ∃ n, dWhN c tb D n ρ
section
variable {X : Cx} {cn : String → Addr} {E : WX} {c iter tg : Expr} {body : List Stmt} {pos : Pos} {tb : DS} {tc : DT} {ti : DI} {g : DG} {S : List Nat}
theorem js_while (hp : PassesOwn (model X.prog X.w) X.A X.env X.xe) (hc : JT X cn E c tc) (hb : JSs X cn E body tb) : JS X cn E (.While c body [] pos) (dWhile tc tb) := by
  refine ps_imp (ps_while hp hc hb) ?_
  rintro Dn σ H ⟨pv, γ, ρ, G, fp, D0, m, ⟨n, q⟩, po⟩
  refine ⟨fun k σ' H' => ∃ ρ' G' fp', Mt X.K pv (σ' ++ γ) ρ' G' H' fp' ∧ dWhN tc tb D0 k ρ' ∧ PoS X.K cn pv γ σ.length G' H' fp' D0 Dn E ∧ σ'.length = σ.length, ⟨n, ρ, G, fp, m, q, po, rfl⟩, ?_⟩
  rintro k σ1 H1 ⟨ρ1, G1, fp1, m1, q1, po1, l1⟩
  cases k with
  | zero => exact q1.elim
  | succ k =>
    refine ⟨pv, γ, ρ1, G1, fp1, _, D0.ex, m1, q1, fun b ρ2 G2 H2 fp2 q2 s2 m2 => ?_, by rw [l1]; exact po1.ex⟩
    cases b with
    | false => exact po1.nx ρ2 σ1 G2 H2 fp2 q2 s2 m2 l1
    | true =>
      rw [if_pos rfl] at q2 ⊢
      refine ⟨fun σ' H' => ∃ ρ' G' fp', Mt X.K pv (σ' ++ γ) ρ' G' H' fp' ∧ dWhN tc tb D0 k ρ' ∧ PoS X.K cn pv γ σ.length G' H' fp' D0 Dn E ∧ σ'.length = σ.length, fun σ' H' h => ⟨k, Nat.lt_succ_self _, h⟩, ?_⟩
      have po2 := po1.on s2
      refine ⟨pv, γ, ρ2, G2, fp2, _, m2, q2, ?_⟩
      rw [l1]
      exact ⟨fun ρ3 σ3 G3 H3 fp3 q3 s3 m3 l3 => ⟨ρ3, G3, fp3, m3, q3, po2.on s3, l3⟩, po2.nx, fun ρ3 σ3 G3 H3 fp3 q3 s3 m3 l3 => ⟨ρ3, G3, fp3, m3, q3, po2.on s3, l3⟩, po2.rt, po2.ex⟩
/-! ### what is walked -/
def itemsOf : D → Option (List D)
  | .n _ .lst ch => some ch
  | .n _ .lok ch => some ch
  | .n _ .tup ch => some ch
  | .n _ .tok ch => some ch
  | _ => none
def dISeq (te : DE) : DI := fun ρ Q E => te ρ (fun r ρ1 => ∃ d ρ2 ch, tkF ρ1 r = some (d, ρ2) ∧ itemsOf d = some ch ∧ Q ch ρ2) E
theorem RpL.at0 {K : PySem.W.Frag} {G H : Hp} {vs : List V} {ch : List D} (h : RpL K G H vs ch []) {i : Nat} {d : D} (e : ch[i]? = some d) : ∃ x, vs[i]? = some x ∧ Rp K G H x d [] := by
  obtain ⟨x, F, h1, h2, h3⟩ := RpL.get ch h e
  cases F with
  | nil => exact ⟨x, h1, h2⟩
  | cons a _ => cases h3 a (List.mem_cons_self ..)
theorem Rp.mov0 {K : PySem.W.Frag} {G H G' H' : Hp} {v : V} {d : D} (r : Rp K G H v d []) (h : Sub G G') : Rp K G' H' v d [] := r.mov h _ fun a z => by cases z
theorem RpL.mov0 {K : PySem.W.Frag} {G H G' H' : Hp} {vs : List V} {ds : List D} (r : RpL K G H vs ds []) (h : Sub G G') : RpL K G' H' vs ds [] := r.mov h _ fun a z => by cases z
theorem walks_list {K : PySem.W.Frag} {G H : Hp} {a : Addr} {vs : List V} {ch : List D} (h : SqL K G a vs) (r : RpL K G H vs ch []) : WalksD K (Itl K a) ch G := by
  intro G' H' s s'
  have hq : SqL K H' a vs := SqL.mono s' (SqL.mono s h)
  refine ⟨fun i d e => ?_, fun i hi => ⟨vs, hq, by rw [r.len]; exact hi⟩⟩
  obtain ⟨x, h1, h2⟩ := r.at0 e
  refine ⟨⟨vs, x, hq, h1⟩, fun y H2 ⟨e1, hy⟩ => ?_⟩
  subst e1
  have := hy vs hq
  rw [h1] at this; cases this
  exact ⟨G', Stp.refl _ _ _, s', h2.mov0 s⟩
theorem walks_tup {K : PySem.W.Frag} {G H : Hp} {a : Addr} {vs : List V} {ch : List D} (h : SqT K G a vs) (r : RpL K G H vs ch []) : WalksD K (Itt K a) ch G := by
  intro G' H' s s'
  have hq : SqT K H' a vs := SqT.mono s' (SqT.mono s h)
  refine ⟨fun i d e => ?_, fun i hi => ⟨vs, hq, by rw [r.len]; exact hi⟩⟩
  obtain ⟨x, h1, h2⟩ := r.at0 e
  refine ⟨⟨vs, x, hq, h1⟩, fun y H2 ⟨e1, hy⟩ => ?_⟩
  subst e1
  have := hy vs hq
  rw [h1] at this; cases this
  exact ⟨G', Stp.refl _ _ _, s', h2.mov0 s⟩
/-- an iterator of one object, just laid -/
theorem pie_one {pins : List (Addr × Obj)} {σ : St} {H : Hp} {sh : Shared} {J : It} {ob : Obj} {tn : Nat → Heap → Prop} {R : It → Hp → Prop} (I : Inv X pins σ H sh)
    (T : Turn X.prog X.w X.K tg J [sh.heap.objs.size] sh.heap.objs.size tn) (h0 : tn 0 (sh.heap.push ob)) (hR : R J H) : PIE X pins σ tg R (.ref sh.heap.objs.size) { sh with heap := sh.heap.push ob } := by
  have I2 : Inv X pins σ H { sh with heap := sh.heap.push ob } := I.kept (t' := sh.toks) fun _ _ z => Heap.get?_push_of_some _ z
  refine ⟨_, _, tn, J, H, rfl, I2, T, h0, fun b hb => ?_, hR⟩
  rw [List.mem_singleton.mp hb]
  exact I.fpOk (Nat.le_refl _) (I.hok.fresh (Nat.le_refl _))
theorem ji_seq {te : DE} (h : JE X cn E iter te) : JI X cn E tg iter (dISeq te) := by
  refine ⟨fun pins s σ H R I ⟨pv, γ, ρ, G, fp, Q0, E0, m, q, po, px⟩ => ?_⟩
  -- the value's kind decides which rule is taken
  refine thn (h.run pins s σ H (fun v H1 => ∃ J, R J H1 ∧ ∃ a, v = .ref a ∧ ((∃ xs, SqL X.K H1 a xs ∧ J = Itl X.K a) ∨ ∃ xs, SqT X.K H1 a xs ∧ J = Itt X.K a)) I ⟨pv, γ, ρ, G, fp, _, E0, m, q, ?_, px⟩) ?_
  · rintro r ρ1 v G1 H1 fp1 F1 ⟨d, ρ2, ch, e1, e2, q1⟩ s1 m1 o1
    obtain ⟨G2, fp2, s2, m2, r2, i2⟩ := tkF_ok m1 o1 (fun _ z => z) e1
    have s12 := s1.trans s2
    cases r2 with
    | p _ => simp only [itemsOf] at e2; cases e2
    | @f a k vs ch' _ h1 h2 =>
      cases k with
      | lst => simp only [itemsOf, Option.some.injEq] at e2; subst e2; exact ⟨_, po _ ρ2 _ G2 H1 fp2 q1 s12 m2 (walks_list (.inl (.inl h1)) h2), a, rfl, .inl ⟨vs, .inl (.inl (m2.sub _ _ h1)), rfl⟩⟩
      | lok => simp only [itemsOf, Option.some.injEq] at e2; subst e2; exact ⟨_, po _ ρ2 _ G2 H1 fp2 q1 s12 m2 (walks_list h1 h2), a, rfl, .inl ⟨vs, SqL.mono m2.sub h1, rfl⟩⟩
      | tup => simp only [itemsOf, Option.some.injEq] at e2; subst e2; exact ⟨_, po _ ρ2 _ G2 H1 fp2 q1 s12 m2 (walks_tup (.inl (.inl h1)) h2), a, rfl, .inr ⟨vs, .inl (.inl (m2.sub _ _ h1)), rfl⟩⟩
      | tok => simp only [itemsOf, Option.some.injEq] at e2; subst e2; exact ⟨_, po _ ρ2 _ G2 H1 fp2 q1 s12 m2 (walks_tup h1 h2), a, rfl, .inr ⟨vs, SqT.mono m2.sub h1, rfl⟩⟩
      | dic _ => simp only [itemsOf] at e2; cases e2
      | dit _ => simp only [itemsOf] at e2; cases e2
      | obj _ _ => simp only [itemsOf] at e2; cases e2
      | exc _ _ => simp only [itemsOf] at e2; cases e2
  · rintro v s1 ⟨x, H1, I1, r1, J, hR, a, rfl, hq⟩
    cases r1
    rcases hq with ⟨xs, hq, rfl⟩ | ⟨xs, hq, rfl⟩
    · have w := I1.list hq
      exact wpAny_pyIter_list w.choose_spec.2.1.isList (pie_one I1 (turn_list a _) ⟨_, Heap.get?_push_size _ rfl, rfl, rfl⟩ hR)
    · have w := I1.tuple hq
      have w2 : s1.heap.IsTuple a w.choose.toArray := w.choose_spec.2.1
      exact wpAny_pyIter_tuple w2 (pie_one I1 (turn_tuple a _) ⟨_, Heap.get?_push_size _ rfl, rfl, rfl⟩ hR)
end
end DL
/-! DL7: ranges, texts, enumerate, zip walked; list comprehensions. -/
namespace DL
open PySem L2

/-! ### ranges and so on -/
def rngL (lo : Int) (n : Nat) : List D := (List.range n).map fun i => D.p (.int (lo + (i : Nat)))
def dIRng1 (t : DA) : DI := fun ρ Q E => t ρ (fun rs ρ1 => ∃ j : Int, lookL ρ1 rs = some [.p (.int j)] ∧ (-(2 ^ 62) ≤ j ∧ j < 2 ^ 62) ∧ Q (rngL 0 j.toNat) ρ1) E
def dIRng2 (t : DA) : DI := fun ρ Q E => t ρ (fun rs ρ1 => ∃ i j : Int, lookL ρ1 rs = some [.p (.int i), .p (.int j)] ∧ (-(2 ^ 62) ≤ i ∧ i < 2 ^ 62 ∧ -(2 ^ 62) ≤ j ∧ j < 2 ^ 62) ∧ Q (rngL i (j - i).toNat) ρ1) E
def strL (x : Str) : List D := x.cps.toList.map fun c => D.p (.str ⟨#[c]⟩)
def dIStr (te : DE) : DI := fun ρ Q E => te ρ (fun r ρ1 => ∃ x, look ρ1 r = some (.p (.str x)) ∧ Q (strL x) ρ1) E
def enumL : Nat → List D → List D
  | _, [] => []
  | i, d :: ds => .n false .tup [.p (.int (i : Nat)), d] :: enumL (i + 1) ds
def zipL : List D → List D → List D
  | d :: ds, e :: es => .n false .tup [d, e] :: zipL ds es
  | _, _ => []
/-- the arguments' items, shared -/
def tkFL (ρ : Env) : List Rv → Option (List D × Env)
  | [] => some ([], ρ)
  | r :: rs => match tkF ρ r with
    | some (d, ρ1) => match tkFL ρ1 rs with
      | some (ds, ρ2) => some (d :: ds, ρ2)
      | none => none
    | none => none
def listOf : D → Option (List D)
  | .n _ .lst ch => some ch
  | .n _ .lok ch => some ch
  | _ => none
def dIEnum (t : DA) : DI := fun ρ Q E => t ρ (fun rs ρ1 => ∃ d ρ2 ch, tkFL ρ1 rs = some ([d], ρ2) ∧ listOf d = some ch ∧ Q (enumL 0 ch) ρ2) E
def dIZip (t : DA) : DI := fun ρ Q E => t ρ (fun rs ρ1 => ∃ d e ρ2 ch ch', tkFL ρ1 rs = some ([d, e], ρ2) ∧ listOf d = some ch ∧ listOf e = some ch' ∧ Q (zipL ch ch') ρ2) E

section
variable {K : PySem.W.Frag} {cn : String → Addr} {pv : Nat → V} {σ γ : St} {n : Nat} {ρ : Env} {G H G' H' : Hp} {fp fp' : Fps} {E : WX}
theorem tkFL_ok : ∀ {rs : List Rv} {ρ ρ' : Env} {G : Hp} {fp : Fps} {P : Addr → Prop} {vs : List V} {F : List Addr} {ds : List D}, Mt K pv σ ρ G H fp → RvsOk K σ G H P vs rs F → (∀ a, InF fp a → P a) → tkFL ρ rs = some (ds, ρ') →
    ∃ G' fp', Stp G H (fun a => InF fp a ∨ a ∈ F) G' H (InF fp') ∧ Mt K pv σ ρ' G' H fp' ∧ RpL K G' H vs ds [] ∧ ∀ a, InF fp' a → InF fp a
  | [], ρ, ρ', G, fp, P, _, _, ds, m, .nil, _, e => by
    simp only [tkFL, Option.some.injEq, Prod.mk.injEq] at e
    obtain ⟨e1, e2⟩ := e
    subst e1 e2
    exact ⟨G, fp, (Stp.refl G H (InF fp)).mono (fun _ z => .inl z) fun _ z => .inl z, m, .nil, fun _ z => z⟩
  | r :: rs, ρ, ρ', G, fp, P, _, _, ds, m, .cons (vs := vs1) (F := F0) (F' := F1) h t, hP, e => by
    simp only [tkFL] at e
    split at e
    · rename_i d ρ1 e1
      split at e
      · rename_i ds' ρ2 e2
        cases e
        obtain ⟨G1, fp1, s1, m1, r1, i1⟩ := tkF_ok m h hP e1
        have t1 : RvsOk K σ G1 H (InF fp1) vs1 rs F1 := by
          have s1' : Stp G H (fun a => P a ∨ a ∈ F0) G1 H (InF fp1) := s1.mono (fun a z => z.elim (fun z => .inl (hP a z)) .inr) fun a z => .inl z
          exact t.frame s1'
        obtain ⟨G2, fp2, s2, m2, r2, i2⟩ := tkFL_ok m1 t1 (fun a z => z) e2
        refine ⟨G2, fp2, ?_, m2, ?_, fun a z => i1 a (i2 a z)⟩
        · refine (s1.mono (Q := fun a => InF fp a ∨ a ∈ F0 ++ F1) (Q' := fun a => InF fp1 a ∨ a ∈ F0 ++ F1) (fun a z => z.elim .inl fun z => .inr (List.mem_append_left _ z)) fun a z => z.elim .inl fun z => .inr (.inr z)).trans ?_
          exact s2.mono (fun a z => z.elim .inl fun z => .inr (List.mem_append_right _ z)) fun a z => .inl z
        · have := RpL.cons (F := []) (F' := []) (r1.mov0 s2.g) r2 fun a z => by cases z
          exact this
      · cases e
    · cases e
theorem walks_rng (lo : Int) (n : Nat) : WalksD K (Itr lo n) (rngL lo n) G := by
  intro G' H' s s'
  refine ⟨fun i d e => ?_, fun i hi => by
    unfold rngL at hi
    rw [List.length_map, List.length_range] at hi
    exact hi⟩
  unfold rngL at e
  rw [List.getElem?_map] at e
  by_cases hi : i < n
  · rw [List.getElem?_range hi] at e
    cases e
    refine ⟨hi, fun x H2 ⟨e1, e2⟩ => ?_⟩
    subst e1 e2
    exact ⟨G', Stp.refl _ _ _, s', Rp.p _⟩
  · rw [List.getElem?_eq_none (by rw [List.length_range]; omega)] at e
    cases e
theorem walks_str (x : Str) : WalksD K (Its x) (strL x) G := by
  intro G' H' s s'
  refine ⟨fun i d e => ?_, fun i hi => by
    unfold strL at hi
    rw [List.length_map, Array.length_toList] at hi
    exact hi⟩
  unfold strL at e
  rw [List.getElem?_map] at e
  cases hc : x.cps.toList[i]? with
  | none => rw [hc] at e; cases e
  | some c =>
    rw [hc] at e
    cases e
    have hc' : x.cps[i]? = some c := by simpa using hc
    refine ⟨by obtain ⟨h, _⟩ := Array.getElem?_eq_some_iff.mp hc'; exact h, fun y H2 ⟨e1, c', h1, h2⟩ => ?_⟩
    subst e1 h2
    rw [hc'] at h1
    cases h1
    exact ⟨G', Stp.refl _ _ _, s', Rp.p _⟩
theorem sqL_node {a : Addr} {k : Kd} {vs : List V} {ch cs : List D} {o : Bool} (h : NdF K G a k vs) (e : listOf (.n o k ch) = some cs) : SqL K G a vs ∧ cs = ch := by
  cases k with
  | lst => simp only [listOf, Option.some.injEq] at e; exact ⟨.inl (.inl h), e.symm⟩
  | lok => simp only [listOf, Option.some.injEq] at e; exact ⟨h, e.symm⟩
  | tup => simp only [listOf] at e; cases e
  | tok => simp only [listOf] at e; cases e
  | dic _ => simp only [listOf] at e; cases e
  | dit _ => simp only [listOf] at e; cases e
  | obj _ _ => simp only [listOf] at e; cases e
  | exc _ _ => simp only [listOf] at e; cases e
theorem listOf_rp {v : V} {d : D} {cs : List D} (r : Rp K G H v d []) (e : listOf d = some cs) : ∃ a vs, v = .ref a ∧ SqL K G a vs ∧ RpL K G H vs cs [] := by
  cases r with
  | p _ => simp only [listOf] at e; cases e
  | @f a k vs ch _ h1 h2 =>
    obtain ⟨q1, q2⟩ := sqL_node h1 e
    subst q2
    exact ⟨a, vs, rfl, q1, h2⟩
theorem zipL_get : ∀ (ds es : List D) (i : Nat) {d : D}, (zipL ds es)[i]? = some d → ∃ x y, ds[i]? = some x ∧ es[i]? = some y ∧ d = .n false .tup [x, y]
  | [], es, i, d, h => by simp [zipL] at h
  | d0 :: ds, [], i, d, h => by simp [zipL] at h
  | x :: ds, y :: es, 0, d, h => by
    simp only [zipL, List.getElem?_cons_zero, Option.some.injEq] at h
    exact ⟨x, y, rfl, rfl, h.symm⟩
  | x :: ds, y :: es, i + 1, d, h => by
    rw [zipL, List.getElem?_cons_succ] at h
    obtain ⟨a, b, h1, h2, h3⟩ := zipL_get ds es i h
    exact ⟨a, b, by rw [List.getElem?_cons_succ]; exact h1, by rw [List.getElem?_cons_succ]; exact h2, h3⟩
theorem zipL_len : ∀ (ds es : List D), (zipL ds es).length = min ds.length es.length
  | [], es => by simp [zipL]
  | d0 :: ds, [] => by simp [zipL]
  | x :: ds, y :: es => by rw [zipL, List.length_cons, List.length_cons, List.length_cons, zipL_len]; omega
/-- a new tuple of shared things -/
theorem tup2 {x y : V} {d e : D} {T : Addr} (hs : Sub G H) (hT : H T = none) (r1 : Rp K G H x d []) (r2 : Rp K G H y e []) :
    ∃ G2, Stp G H (fun _ => False) G2 (L2.upd H T (.tup [x, y])) (fun _ => False) ∧ Sub G2 (L2.upd H T (.tup [x, y])) ∧ Rp K G2 (L2.upd H T (.tup [x, y])) (.ref T) (.n false .tup [d, e]) [] := by
  have s := Stp.newG (P := fun _ => False) (o := .tup [x, y]) hT hs
  refine ⟨L2.upd G T (.tup [x, y]), s, hs.updG hT, Rp.f upd_same ?_⟩
  have := RpL.cons (F := []) (F' := []) (r1.mov0 s.g) (RpL.one (r2.mov0 (H' := L2.upd H T (.tup [x, y])) s.g)) fun a z => by cases z
  exact this
theorem walks_zip {a b : Addr} {vs ws : List V} {ch cs : List D} (h : SqL K G a vs) (h' : SqL K G b ws) (r : RpL K G H vs ch []) (r' : RpL K G H ws cs []) : WalksD K (Itz K a b) (zipL ch cs) G := by
  intro G' H' s s'
  have hq : SqL K H' a vs := SqL.mono s' (SqL.mono s h)
  have hq' : SqL K H' b ws := SqL.mono s' (SqL.mono s h')
  refine ⟨fun i d e => ?_, fun i hi => ⟨vs, ws, hq, hq', by rw [r.len, r'.len]; rw [zipL_len] at hi; omega⟩⟩
  obtain ⟨d1, d2, g1, g2, g3⟩ := zipL_get ch cs i e
  obtain ⟨x, h1, h2⟩ := r.at0 g1
  obtain ⟨y, h3, h4⟩ := r'.at0 g2
  refine ⟨⟨vs, ws, x, y, hq, hq', h1, h3⟩, fun z H2 ⟨T, x', y', e1, hT, e2, f1, f2⟩ => ?_⟩
  subst e1 e2 g3
  have := f1 vs hq
  rw [h1] at this; cases this
  have := f2 ws hq'
  rw [h3] at this; cases this
  exact tup2 s' hT (h2.mov0 s) (h4.mov0 s)
end
theorem RpL.nil2 {K : PySem.W.Frag} {G H : Hp} {vs : List V} (r : RpL K G H vs [] []) : vs = [] := List.eq_nil_of_length_eq_zero r.len
theorem RpL.cons2 {K : PySem.W.Frag} {G H : Hp} {vs : List V} {d : D} {ds : List D} (r : RpL K G H vs (d :: ds) []) : ∃ x xs, vs = x :: xs ∧ Rp K G H x d [] ∧ RpL K G H xs ds [] := by
  generalize e : ([] : List Addr) = F0 at r
  cases r with
  | @cons v vs' _ _ F1 F2 h1 h2 h3 =>
    have := List.append_eq_nil_iff.mp e.symm
    obtain ⟨rfl, rfl⟩ := this
    exact ⟨v, vs', rfl, h1, h2⟩
section
variable {X : Cx} {cn : String → Addr} {E : WX} {iter tg e : Expr} {t : DA} {te : DE}
theorem look_ps {K : PySem.W.Frag} {pv : Nat → V} {σ : St} {ρ : Env} {G H : Hp} {fp : Fps} : ∀ {P : Addr → Prop} {vs xs : List V} {rs : List Rv} {F : List Addr}, Mt K pv σ ρ G H fp → RvsOk K σ G H P vs rs F → lookL ρ rs = some (xs.map D.p) → vs = xs := by
  intro P vs xs rs F m o e
  have := lookL_ok m o e
  clear o e
  induction xs generalizing vs with
  | nil => cases this; rfl
  | cons x xs ih =>
    rw [List.map_cons] at this
    cases this with
    | cons h t =>
      obtain ⟨_, h⟩ := h
      cases h
      rw [ih t]
theorem ji_rng1 (h : PI X tg iter (iRng1 (liftA X.K cn E t))) : JI X cn E tg iter (dIRng1 t) := pi_imp h fun σ H R ⟨pv, γ, ρ, G, fp, Q0, E0, m, q, po, px⟩ =>
  ⟨pv, γ, ρ, G, fp, _, E0, m, q, fun rs ρ1 vs G1 H1 fp1 F1 ⟨j, l1, hb, q1⟩ s1 m1 o1 => by
    have := look_ps (xs := [.int j]) m1 o1 l1
    exact ⟨j, this, hb.1, hb.2, po _ ρ1 _ G1 H1 fp1 q1 (drop0 s1) m1 (walks_rng 0 j.toNat)⟩, px⟩
theorem ji_str (h : JE X cn E iter te) : JI X cn E tg iter (dIStr te) := pi_imp (pi_str h) fun σ H R ⟨pv, γ, ρ, G, fp, Q0, E0, m, q, po, px⟩ =>
  ⟨pv, γ, ρ, G, fp, _, E0, m, q, fun r ρ1 v G1 H1 fp1 F1 ⟨x, l1, q1⟩ s1 m1 o1 => ⟨x, look_p m1 o1 l1, po _ ρ1 _ G1 H1 fp1 q1 (drop0 s1) m1 (walks_str x)⟩, px⟩
theorem ji_zip (h : PI X tg iter (iZip X.K (liftA X.K cn E t))) : JI X cn E tg iter (dIZip t) := pi_imp h fun σ H R ⟨pv, γ, ρ, G, fp, Q0, E0, m, q, po, px⟩ =>
  ⟨pv, γ, ρ, G, fp, _, E0, m, q, fun rs ρ1 vs G1 H1 fp1 F1 ⟨d, e, ρ2, ch, ch', e1, e2, e3, q1⟩ s1 m1 o1 => by
    obtain ⟨G2, fp2, s2, m2, r2, _⟩ := tkFL_ok m1 o1 (fun _ z => z) e1
    obtain ⟨x, xs, rfl, r3, r4⟩ := r2.cons2
    obtain ⟨y, ys, rfl, r5, r6⟩ := r4.cons2
    have := r6.nil2
    subst this
    obtain ⟨a, ws, rfl, h1, h2⟩ := listOf_rp r3 e2
    obtain ⟨b, us, rfl, h3, h4⟩ := listOf_rp r5 e3
    exact ⟨a, b, ws, us, rfl, SqL.mono m2.sub h1, SqL.mono m2.sub h3, po _ ρ2 _ G2 H1 fp2 q1 (s1.trans s2) m2 (walks_zip h1 h3 h2 h4)⟩, px⟩
end

/-! ### comprehensions -/
def isUn : Option Sl → Bool
  | some .un => true
  | _ => false
def noB (vs : List Nat) : Env → Bool
  | [] => true
  | .b j _ :: r => !vs.contains j && noB vs r
  | _ :: r => noB vs r
def clr (ρ : Env) (vs : List Nat) : Bool := vs.all (fun i => isUn ρ[i]?) && noB vs ρ
def wipeD (ρ : Env) : List Nat → Env
  | [] => ρ
  | i :: r => (killB i (wipeD ρ r)).set i .un
def dTrue : DT := fun ρ Q _ => Q true ρ
def dLcL (g : DG) (tt : DT) (te : DE) (vs : List Nat) (Q : List D → Env → Prop) : List D → Env → List D → Prop
  | [], ρ, acc => Q acc ρ
  | d :: ds, ρ, acc => g (.t d) ρ fun ρ1 => tt ρ1 (fun b ρ2 => if b = true then te ρ2 (fun r ρ3 => ∃ d' ρ4, tk ρ3 r = some (d', ρ4) ∧ acc.length < 100000 ∧ dLcL g tt te vs Q ds (wipeD ρ4 vs) (acc ++ [d'])) (fun _ _ => False)
      else dLcL g tt te vs Q ds (wipeD ρ2 vs) acc) (fun _ _ => False)
def dLc (ti : DI) (g : DG) (tt : DT) (te : DE) (vs : List Nat) : DE := fun ρ Q E => ti ρ (fun items ρ1 => (vs.all fun i => decide (i < ρ1.length)) = true ∧ dLcL g tt te vs (fun ds ρ2 => Q (.t (.n true .lst ds)) ρ2) items (wipeD ρ1 vs) []) E
section
variable {K : PySem.W.Frag} {pv : Nat → V} {σ σ' γ : St} {ρ : Env} {G H : Hp} {fp : Fps}
theorem noB_get {vs : List Nat} : ∀ {ρ : Env} {i j : Nat} {q : List Nat}, noB vs ρ = true → ρ[i]? = some (Sl.b j q) → j ∉ vs
  | [], _, _, _, _, h => by simp at h
  | s :: r, 0, j, q, h, e => by
    simp only [List.getElem?_cons_zero, Option.some.injEq] at e
    subst e
    simp only [noB, Bool.and_eq_true, Bool.not_eq_true'] at h
    intro z
    have := List.contains_iff_mem.mpr z
    rw [h.1] at this; cases this
  | s :: r, i + 1, j, q, h, e => by
    rw [List.getElem?_cons_succ] at e
    refine noB_get (ρ := r) ?_ e
    cases s <;> simp only [noB, Bool.and_eq_true] at h <;> first | exact h.2 | exact h
/-- slots of which nothing is known may hold anything -/
theorem Mt.cong (m : Mt K pv σ ρ G H fp) {vs : List Nat} (hc : clr ρ vs = true) (hl : σ'.length = σ.length) (h : ∀ i, i ∉ vs → σ'[i]? = σ[i]?) : Mt K pv σ' ρ G H fp := by
  simp only [clr, Bool.and_eq_true, List.all_eq_true] at hc
  have nu : ∀ i s, ρ[i]? = some s → s ≠ .un → i ∉ vs := fun i s e n z => by
    have := hc.1 i z
    rw [e] at this
    cases s <;> simp [isUn] at this
    exact n rfl
  refine ⟨m.sub, by rw [hl]; exact m.len, fun i d e => ?_, fun i d e => ?_, fun i j q e => ?_, m.ap, m.ft⟩
  · obtain ⟨x, h1, h2⟩ := m.sl i d e
    exact ⟨x, by rw [h i (nu i _ e (by intro z; cases z))]; exact h1, h2⟩
  · obtain ⟨h1, h2⟩ := m.pn i d e
    exact ⟨by rw [h i (nu i _ e (by intro z; cases z))]; exact h1, h2⟩
  · obtain ⟨x, y, h1, h2, h3⟩ := m.br i j q e
    exact ⟨x, y, by rw [h j (noB_get hc.2 e)]; exact h1, by rw [h i (nu i _ e (by intro z; cases z))]; exact h2, h3⟩
theorem Mt.forget (m : Mt K pv σ ρ G H fp) (i : Nat) : Mt K pv σ ((killB i ρ).set i .un) G H fp := by
  have gk : ∀ {j : Nat} {s : Sl}, ((killB i ρ).set i .un)[j]? = some s → s ≠ .un → ρ[j]? = some s := fun {j s} h hn => by
    by_cases hj : j = i
    · subst hj
      by_cases hl : j < (killB j ρ).length
      · rw [List.getElem?_set_self hl] at h; cases h; exact absurd rfl hn
      · rw [List.getElem?_eq_none (by rw [List.length_set]; omega)] at h; cases h
    · rw [List.getElem?_set_ne (Ne.symm hj)] at h
      exact (killB_of h hn).1
  exact ⟨m.sub, by rw [List.length_set, killB_len]; exact m.len, fun j d h => m.sl j d (gk h (by intro z; cases z)), fun j d h => m.pn j d (gk h (by intro z; cases z)), fun j k q h => m.br j k q (gk h (by intro z; cases z)), m.ap, m.ft⟩
theorem wipeD_len (ρ : Env) : ∀ vs : List Nat, (wipeD ρ vs).length = ρ.length
  | [] => rfl
  | i :: r => by rw [wipeD, List.length_set, killB_len, wipeD_len ρ r]
theorem Mt.wipeD (m : Mt K pv σ ρ G H fp) : ∀ vs : List Nat, Mt K pv σ (DL.wipeD ρ vs) G H fp
  | [] => m
  | i :: r => (Mt.wipeD m r).forget i
theorem noB_of {vs : List Nat} : ∀ {ρ : Env}, (∀ (i j : Nat) (q : List Nat), ρ[i]? = some (Sl.b j q) → j ∉ vs) → noB vs ρ = true
  | [], _ => rfl
  | s :: r, h => by
    have ih : noB vs r = true := noB_of fun i j q e => h (i + 1) j q (by rw [List.getElem?_cons_succ]; exact e)
    cases s with
    | b j q =>
      have := h 0 j q rfl
      simp only [noB, ih, Bool.and_true, Bool.not_eq_true']
      cases e : vs.contains j with
      | false => rfl
      | true => exact absurd (List.contains_iff_mem.mp e) this
    | un => exact ih
    | v _ => exact ih
    | w _ => exact ih
theorem wipeD_get (ρ : Env) : ∀ (vs : List Nat) (k : Nat), k < ρ.length → ((k ∈ vs → (wipeD ρ vs)[k]? = some Sl.un) ∧ ∀ (j : Nat) (q : List Nat), (wipeD ρ vs)[k]? = some (Sl.b j q) → j ∉ vs)
  | [], k, hk => ⟨(fun z => by cases z), (fun j q _ z => by cases z)⟩
  | i :: r, k, hk => by
    obtain ⟨h1, h2⟩ := wipeD_get ρ r k hk
    have hl : ∀ k, k < ρ.length → k < (killB i (wipeD ρ r)).length := fun k h => by rw [killB_len, wipeD_len]; exact h
    rw [wipeD]
    by_cases hki : k = i
    · subst hki
      rw [List.getElem?_set_self (hl k hk)]
      exact ⟨fun _ => rfl, fun j q z => by cases z⟩
    · rw [List.getElem?_set_ne (Ne.symm hki), killB_get]
      refine ⟨fun z => ?_, fun j q z => ?_⟩
      · rcases List.mem_cons.mp z with z | z
        · exact absurd z hki
        · rw [h1 z]; rfl
      · cases e : (wipeD ρ r)[k]? with
        | none => rw [e] at z; cases z
        | some s =>
          rw [e] at z
          simp only [Option.map_some, Option.some.injEq] at z
          cases s with
          | un => cases z
          | v _ => cases z
          | w _ => cases z
          | b j' q' =>
            simp only at z
            split at z
            · cases z
            · rename_i hne
              cases z
              intro y
              rcases List.mem_cons.mp y with y | y
              · exact hne y
              · exact h2 _ _ e y
theorem clr_wipeD (ρ : Env) (vs : List Nat) (h : ∀ i ∈ vs, i < ρ.length) : clr (DL.wipeD ρ vs) vs = true := by
  simp only [clr, Bool.and_eq_true, List.all_eq_true]
  refine ⟨fun i hi => by rw [(wipeD_get ρ vs i (h i hi)).1 hi]; rfl, noB_of fun i j q e => ?_⟩
  have hi : i < ρ.length := by
    have := (List.getElem?_eq_some_iff.mp e).1
    rwa [wipeD_len] at this
  exact (wipeD_get ρ vs i hi).2 j q e
theorem clr_lt {ρ : Env} {vs : List Nat} (h : clr ρ vs = true) : ∀ i ∈ vs, i < ρ.length := fun i hi => by
  simp only [clr, Bool.and_eq_true, List.all_eq_true] at h
  have := h.1 i hi
  cases e : ρ[i]? with
  | none => rw [e] at this; cases this
  | some s => exact (List.getElem?_eq_some_iff.mp e).1
theorem wipe_get {σ : St} {vs : List Nat} {i : Nat} (h : i ∉ vs) : (wipe σ vs)[i]? = σ[i]? := by
  induction vs with
  | nil => rfl
  | cons j r ih =>
    have h1 : j ≠ i := fun z => h (by rw [z]; exact List.mem_cons_self ..)
    rw [wipe, List.getElem?_set_ne h1]
    exact ih fun z => h (List.mem_cons_of_mem _ z)
theorem wipe_in {σ : St} : ∀ {vs : List Nat} {i : Nat}, i ∈ vs → i < σ.length → (wipe σ vs)[i]? = some none
  | [], _, h, _ => by cases h
  | j :: r, i, h, hl => by
    rw [wipe]
    by_cases e : j = i
    · subst e
      exact List.getElem?_set_self (by rw [wipe_length]; exact hl)
    · rw [List.getElem?_set_ne e]
      rcases List.mem_cons.mp h with z | z
      · exact absurd z.symm e
      · exact wipe_in z hl
theorem wipe_eq {σ σ2 : St} {vs : List Nat} (hl : σ2.length = σ.length) (h : ∀ i, i ∉ vs → σ2[i]? = (wipe σ vs)[i]?) : wipe σ2 vs = wipe σ vs := by
  refine List.ext_getElem? fun i => ?_
  by_cases hi : i ∈ vs
  · by_cases hl' : i < σ.length
    · rw [wipe_in hi hl', wipe_in hi (by rw [hl]; exact hl')]
    · rw [List.getElem?_eq_none (by rw [wipe_length]; omega), List.getElem?_eq_none (by rw [wipe_length]; omega)]
  · rw [wipe_get hi]
    exact h i hi
theorem app_get {a b c : St} (hl : a.length = b.length) {i : Nat} (h : a[i]? = b[i]?) : (a ++ c)[i]? = (b ++ c)[i]? := by
  by_cases hi : i < a.length
  · rw [List.getElem?_append_left hi, List.getElem?_append_left (by rw [← hl]; exact hi)]; exact h
  · rw [List.getElem?_append_right (by omega), List.getElem?_append_right (by omega), hl]
end
def WF : WX := fun _ _ _ _ => False
theorem lcE {X : Cx} {cn : String → Addr} {E : WX} {ti : DI} {g : DG} {tt : DT} {te : DE} {vs : List Nat} {σ : St} {H : Hp} {Q : VK} :
    liftE X.K cn E (dLc ti g tt te vs) σ H Q → tLc (liftI X.K cn E ti) (liftG X.K vs g) (liftT X.K cn WF tt) (liftE X.K cn WF te) vs σ H Q := by
  rintro ⟨pv, γ, ρ, G, fp, Q0, E0, m, q, po, px⟩
  refine ⟨pv, γ, ρ, G, fp, _, _, m, q, fun items ρ0 J G0 H0 fp0 ⟨hb0, q0⟩ s0 m00 wk L hL => ?_, px⟩
  have hc0 := clr_wipeD ρ0 vs fun i hi => of_decide_eq_true (List.all_eq_true.mp hb0 i hi)
  have m0 := m00.wipeD vs
  have wl : (wipe σ vs).length = σ.length := wipe_length σ vs
  have toW : ∀ {ρ G H fp}, Mt X.K pv (σ ++ γ) ρ G H fp → clr ρ vs = true → Mt X.K pv (wipe σ vs ++ γ) ρ G H fp := fun m hc =>
    m.cong hc (by rw [List.length_append, List.length_append, wl]) fun i hi => app_get wl (wipe_get hi)
  have ofW : ∀ {ρ G H fp}, Mt X.K pv (wipe σ vs ++ γ) ρ G H fp → clr ρ vs = true → Mt X.K pv (σ ++ γ) ρ G H fp := fun m hc =>
    m.cong hc (by rw [List.length_append, List.length_append, wl]) fun i hi => app_get wl.symm (wipe_get hi).symm
  have hG0 : G0 L = none := by
    cases z : G0 L with
    | none => rfl
    | some o => rw [m0.sub L o z] at hL; cases hL
  have sN : Stp G0 H0 (fun _ => False) G0 (L2.upd H0 L (.lst [])) (fun a => a = L) := ⟨fun _ _ z => z, fun a o z _ => by rw [upd_ne (ne_of_none z hL)]; exact z, fun _ _ _ z _ => z, fun a z => .inr (by rw [z]; exact hL)⟩
  refine ⟨fun i k H' => ∃ ρ' G' fp' accV ds F, k = items.length - i ∧ i ≤ items.length ∧ Sub G0 G' ∧ Mt X.K pv (wipe σ vs ++ γ) ρ' G' H' fp' ∧ clr ρ' vs = true ∧ H' L = some (.lst accV) ∧ G' L = none ∧ L ∉ F ∧ RpL X.K G' H' accV ds F ∧
      (∀ a, a = L ∨ a ∈ F → ¬ InF fp' a) ∧ dLcL g tt te vs (fun ds ρ2 => Q0 (.t (.n true .lst ds)) ρ2) (items.drop i) ρ' ds ∧ Stp G H (InF fp) G' H' (fun a => InF fp' a ∨ a = L ∨ a ∈ F),
    ⟨items.length, _, G0, fp0, [], [], [], by omega, Nat.zero_le _, fun _ _ z => z, toW (m0.step sN (m0.sub.upd hL)) hc0, hc0, upd_same, hG0, by simp, .nil, fun a z y => ?_, q0, ?_⟩, ?_⟩
  · obtain ⟨j, hj⟩ := y
    obtain ⟨_, o, ho⟩ := m0.ft j a hj
    rcases z with z | z
    · rw [z, hL] at ho; cases ho
    · cases z
  · exact s0.trans (sN.mono (fun _ z => z.elim) fun a z => z.elim .inr fun z => z.elim .inl fun z => by cases z)
  rintro i k H1 ⟨ρ1, G1, fp1, accV, ds, F, rfl, hi, sg, m1, hc1, hL1, hG1, hLF, r1, ap1, q1, s1⟩
  obtain ⟨w1, w2⟩ := wk G1 H1 sg m1.sub
  by_cases hlt : i < items.length
  · obtain ⟨go, yl⟩ := w1 i _ (List.getElem?_eq_getElem hlt)
    refine .inr ⟨go, fun H' => ∃ ρ' G' fp' accV ds F, Sub G0 G' ∧ Mt X.K pv (wipe σ vs ++ γ) ρ' G' H' fp' ∧ clr ρ' vs = true ∧ H' L = some (.lst accV) ∧ G' L = none ∧ L ∉ F ∧ RpL X.K G' H' accV ds F ∧
      (∀ a, a = L ∨ a ∈ F → ¬ InF fp' a) ∧ dLcL g tt te vs (fun ds ρ2 => Q0 (.t (.n true .lst ds)) ρ2) (items.drop (i + 1)) ρ' ds ∧ Stp G H (InF fp) G' H' (fun a => InF fp' a ∨ a = L ∨ a ∈ F),
      fun H' ⟨ρ', G', fp', accV, ds, F, z⟩ => ⟨items.length - (i + 1), by omega, ρ', G', fp', accV, ds, F, rfl, hlt, z⟩, fun x H2 hy => ?_⟩
    obtain ⟨G2, s2, hs2, r2⟩ := yl x H2 hy
    rw [List.drop_eq_getElem_cons hlt] at q1
    have m2 := m1.step s2 hs2
    refine ⟨pv, γ, ρ1, G2, fp1, .t items[i], [], _, m2, ⟨r2, fun a z => by cases z⟩, q1, fun ρ3 σ3 G3 H3 fp3 q3 s3 m3 l3 f3 => ?_⟩
    have e3 : wipe σ3 vs = wipe σ vs := wipe_eq (by rw [l3, wl]) f3
    refine ⟨e3, ?_⟩
    have s3' : Stp G2 H2 (InF fp1) G3 H3 (InF fp3) := s3.mono (fun a z => z.elim id fun z => by cases z) fun _ z => .inl z
    refine ⟨pv, γ, ρ3, G3, fp3, _, _, m3, q3, fun b ρ4 G4 H4 fp4 q4 s4 m4 => ?_, fun _ _ _ _ _ _ _ _ z => z.elim⟩
    -- from the turn's start: what was made so far stands
    have back : ∀ {ρ5 G5 H5 fp5}, Mt X.K pv (σ3 ++ γ) ρ5 G5 H5 fp5 → Mt X.K pv (wipe σ vs ++ γ) (DL.wipeD ρ5 vs) G5 H5 fp5 ∧ clr (DL.wipeD ρ5 vs) vs = true := fun {ρ5 G5 H5 fp5} m5 => by
      have hlt5 : ∀ i ∈ vs, i < ρ5.length := fun i hi => by
        have := clr_lt hc1 i hi
        rw [m5.len]
        rw [m1.len] at this
        rw [List.length_append] at this ⊢
        rw [l3]; exact this
      have hc5 := clr_wipeD ρ5 vs hlt5
      refine ⟨(m5.wipeD vs).cong hc5 (by rw [List.length_append, List.length_append, l3]) fun j hj => app_get l3.symm (f3 j hj).symm, hc5⟩
    have s14 : Stp G1 H1 (InF fp1) G4 H4 (InF fp4) := ((s2.mono (fun _ z => z.elim) fun _ z => .inr z : Stp G1 H1 (InF fp1) G2 H2 (InF fp1)).trans s3').trans s4
    have keep : ∀ {G5 H5 P5}, Stp G1 H1 (InF fp1) G5 H5 P5 → H5 L = some (.lst accV) ∧ G5 L = none ∧ RpL X.K G5 H5 accV ds F ∧ ∀ a, a = L ∨ a ∈ F → ¬ P5 a := fun {G5 H5 P5} s5 => by
      have hLn : ¬ InF fp1 L := ap1 L (.inl rfl)
      refine ⟨s5.h L _ hL1 hLn, s5.n L _ hL1 hG1 hLn, r1.mov s5.g _ fun a ha o hg ho => ⟨s5.n a o ho hg (ap1 a (.inr ha)), s5.h a o ho (ap1 a (.inr ha))⟩, fun a z y => ?_⟩
      have ho : ∃ o, H1 a = some o := by
        rcases z with z | z
        · rw [z]; exact ⟨_, hL1⟩
        · exact (RpL.foot _ r1 a z).2
      rcases s5.f a y with u | u
      · exact ap1 a z u
      · obtain ⟨o, ho⟩ := ho
        rw [u] at ho; cases ho
    cases b with
    | false =>
      obtain ⟨k1, k2, k3, k4⟩ := keep s14
      obtain ⟨b1, b2⟩ := back m4
      exact ⟨_, G4, fp4, accV, ds, F, fun a o z => s14.g a o (sg a o z), b1, b2, k1, k2, hLF, k3, k4, q4, s1.trans (s14.mono (fun a z => .inl z) fun a z => z.elim .inl fun z => .inr (.inr z))⟩
    | true =>
      refine ⟨pv, γ, ρ4, G4, fp4, _, _, m4, q4, fun r ρ5 v G5 H5 fp5 F5 ⟨d', ρ6, e6, hz, q6⟩ s5 m5 o5 => ?_, fun _ _ _ _ _ _ _ _ z => z.elim⟩
      obtain ⟨G6, fp6, s6, m6, r6, i6⟩ := tk_ok m5 o5 (fun _ z => z) e6
      have s56 : Stp G4 H4 (InF fp4) G6 H5 (fun a => InF fp6 a ∨ a ∈ F5) := s5.trans (s6.mono (fun _ z => .inl z) fun a z => z.elim .inl fun z => .inr (.inr z))
      have s16 := s14.trans s56
      obtain ⟨k1, k2, k3, k4⟩ := keep s16
      refine ⟨accV, k1, by rw [k3.len]; exact Nat.lt_of_lt_of_le hz (by decide), ?_⟩
      have hLF5 : L ∉ F5 := fun z => k4 L (.inl rfl) (.inr z)
      have dF : ∀ a ∈ F, a ∉ F5 := fun a ha z => k4 a (.inr ha) (.inr z)
      have hLfp : ∀ a, InF fp6 a → a ≠ L := fun a z y => k4 a (.inl y) (.inl z)
      have d5 : ∀ a ∈ F5, ¬ InF fp6 a := fun a ha z => o5.apart a ha (i6 a z)
      have su : Sub G6 (L2.upd H5 L (.lst (accV ++ [v]))) := fun a o z => by
        by_cases e : a = L
        · rw [e, k2] at z; cases z
        · rw [upd_ne e]; exact m6.sub a o z
      have m7 : Mt X.K pv (σ3 ++ γ) ρ6 G6 (L2.upd H5 L (.lst (accV ++ [v]))) fp6 :=
        m6.move (fun _ _ z => z) su (fun a o z e => by rw [upd_ne (hLfp a z)]; exact e) fun a ⟨j, ha⟩ => (m6.ft j a ha).1
      obtain ⟨b1, b2⟩ := back m7
      have rr : RpL X.K G6 (L2.upd H5 L (.lst (accV ++ [v]))) (accV ++ [v]) (ds ++ [d']) (F ++ F5) :=
        RpL.mov (fun _ _ z => z) _ (k3.app (RpL.one r6) dF) fun a ha o hg ho => ⟨hg, by
          rw [upd_ne]
          · exact ho
          · intro z
            subst z
            rcases List.mem_append.mp ha with ha | ha
            · exact hLF ha
            · exact hLF5 ha⟩
      have sU : Stp G6 H5 (fun a => InF fp6 a ∨ a = L ∨ a ∈ F ++ F5) G6 (L2.upd H5 L (.lst (accV ++ [v]))) (fun a => InF fp6 a ∨ a = L ∨ a ∈ F ++ F5) :=
        ⟨fun _ _ z => z, fun a o z n => by rw [upd_ne fun e => n (.inr (.inl e))]; exact z, fun _ _ _ z _ => z, fun _ z => .inl z⟩
      refine ⟨_, G6, fp6, accV ++ [v], ds ++ [d'], F ++ F5, fun a o z => s16.g a o (sg a o z), b1, b2, upd_same, k2, fun z => ?_, rr, fun a z => ?_, q6, ?_⟩
      · rcases List.mem_append.mp z with z | z
        · exact hLF z
        · exact hLF5 z
      · rcases z with z | z
        · exact fun y => hLfp a y z
        · rcases List.mem_append.mp z with z | z
          · exact fun y => k4 a (.inr z) (.inl y)
          · exact d5 a z
      · refine (s1.trans (s16.mono (Q := fun a => InF fp1 a ∨ a = L ∨ a ∈ F) (Q' := fun a => InF fp6 a ∨ a = L ∨ a ∈ F ++ F5) (fun a z => .inl z) fun a z => ?_)).trans sU
        rcases z with z | z | z
        · exact .inl (.inl z)
        · exact .inr (.inr (.inl z))
        · rcases List.mem_append.mp z with z | z
          · exact .inr (.inr (.inr z))
          · exact .inl (.inr z)
  · refine .inl ⟨w2 i (by omega), ?_⟩
    rw [List.drop_of_length_le (by omega)] at q1
    have m' := ofW m1 hc1
    exact po _ ρ1 (.ref L) G1 H1 fp1 (L :: F) q1 (s1.mono (fun _ z => z) fun a z => .inl (z.elim .inl fun z => .inr (List.mem_cons.mp z))) m' ⟨Rp.o hG1 hL1 hLF r1, fun a z => ap1 a (List.mem_cons.mp z)⟩
theorem je_lc {X : Cx} {cn : String → Addr} {E : WX} {e : Expr} {ti : DI} {g : DG} {tt : DT} {te : DE} {vs : List Nat}
    (h : PE X e (tLc (liftI X.K cn E ti) (liftG X.K vs g) (liftT X.K cn WF tt) (liftE X.K cn WF te) vs)) : JE X cn E e (dLc ti g tt te vs) := pe_imp h fun σ H Q q => lcE q
end DL
/-! DL8: defs: their promises over deep values, their calls. -/
namespace DL
open PySem L2

/-- what is handed in, what is wanted of the value and of what was handed in, what of an error -/
abbrev SpD := List D → (D → List D → Prop) → (Exn → List D → Prop) → Prop
def lower (K : PySem.W.Frag) (cn : String → Addr) (s : SpD) : Sp := fun vs H Q E => ∃ G ds F Q0 E0, Sub G H ∧ RpL K G H vs ds F ∧ s ds Q0 E0 ∧
  (∀ r ds' v G' H' Fr F', Q0 r ds' → Stp G H (fun a => a ∈ F) G' H' (fun a => a ∈ Fr ∨ a ∈ F') → Sub G' H' → RpL K G' H' vs ds' F' → Rp K G' H' v r Fr → (∀ a ∈ Fr, a ∉ F') → Q v H') ∧
  (∀ x ds' cls dx G' H' F', E0 x ds' → Stp G H (fun a => a ∈ F) G' H' (fun a => a ∈ F') → Sub G' H' → RpL K G' H' vs ds' F' → ExOk K cn G' H' x cls dx → E cls dx H')

/-! ### a call -/
/-- what a slot holds is handed over -/
def outV (ρ : Env) : Rv → Option (D × Env)
  | .t d => some (d, ρ)
  | .s i => match ρ[i]? with
    | some (.v d) => some (d, (killB i ρ).set i .un)
    | some (.w d) => some (d, (killB i ρ).set i .un)
    | _ => none
/-- .. and handed back -/
def backV (ρ0 ρ : Env) (r : Rv) (d : D) : Option Env := match r with
  | .t _ => some ρ
  | .s i => if (isUn ρ[i]? && noB [i] ρ) = true then match ρ0[i]? with
    | some (.v _) => some (ρ.set i (.v d))
    | some (.w _) => some (ρ.set i (.w d))
    | _ => none
    else none
def argL : List Bool → Env → List Rv → Option (List D × Env)
  | [], ρ, [] => some ([], ρ)
  | true :: ms, ρ, r :: rs => match outV ρ r with
    | some (d, ρ1) => match argL ms ρ1 rs with
      | some (ds, ρ2) => some (d :: ds, ρ2)
      | none => none
    | none => none
  | false :: ms, ρ, r :: rs => match tkF ρ r with
    | some (d, ρ1) => match argL ms ρ1 rs with
      | some (ds, ρ2) => some (d :: ds, ρ2)
      | none => none
    | none => none
  | _, _, _ => none
def backL (ρ0 : Env) : List Bool → Env → List Rv → List D → Option Env
  | [], ρ, [], [] => some ρ
  | true :: ms, ρ, r :: rs, d :: ds => match backV ρ0 ρ r d with
    | some ρ1 => backL ρ0 ms ρ1 rs ds
    | none => none
  | false :: ms, ρ, _ :: rs, _ :: ds => backL ρ0 ms ρ rs ds
  | _, _, _, _ => none
def dCall (ms : List Bool) (s : SpD) (t : DA) : DE := fun ρ Q E => t ρ (fun rs ρ1 => ∃ ds ρ2, argL ms ρ1 rs = some (ds, ρ2) ∧
  s ds (fun res ds' => ∃ ρ3, backL ρ1 ms ρ2 rs ds' = some ρ3 ∧ Q (.t res) ρ3) (fun x ds' => ∃ ρ3, backL ρ1 ms ρ2 rs ds' = some ρ3 ∧ E x ρ3)) E

section
variable {K : PySem.W.Frag} {cn : String → Addr} {pv : Nat → V} {σ γ : St} {n : Nat} {ρ : Env} {G H G' H' : Hp} {fp fp' : Fps} {E : WX}
theorem Mt.outS {i : Nat} {s : Sl} (m : Mt K pv σ ρ G H fp) : Mt K pv σ ((killB i ρ).set i .un) G H (updF fp i []) := by
  have gk : ∀ {j : Nat} {s : Sl}, ((killB i ρ).set i .un)[j]? = some s → s ≠ .un → j ≠ i ∧ ρ[j]? = some s ∧ ∀ q, s ≠ .b i q := fun {j s} h hn => by
    by_cases hj : j = i
    · subst hj
      by_cases hl : j < (killB j ρ).length
      · rw [List.getElem?_set_self hl] at h; cases h; exact absurd rfl hn
      · rw [List.getElem?_eq_none (by rw [List.length_set]; omega)] at h; cases h
    · rw [List.getElem?_set_ne (Ne.symm hj)] at h
      exact ⟨hj, killB_of h hn⟩
  refine ⟨m.sub, by rw [List.length_set, killB_len]; exact m.len, fun j d' h => ?_, fun j d' h => ?_, fun j k q h => ?_, fun j k hjk a ha => ?_, fun j a ha => ?_⟩
  · obtain ⟨hj, h1, _⟩ := gk h (by intro z; cases z)
    rw [updF_ne hj]
    exact m.sl j d' h1
  · obtain ⟨hj, h1, _⟩ := gk h (by intro z; cases z)
    rw [updF_ne hj]
    exact m.pn j d' h1
  · obtain ⟨hj, h1, h2⟩ := gk h (by intro z; cases z)
    obtain ⟨x, y, g1, g2, g3⟩ := m.br j k q h1
    have hk : k ≠ i := fun z => h2 q (by rw [z])
    exact ⟨x, y, g1, g2, by rw [updF_ne hk]; exact g3⟩
  · by_cases hj : j = i
    · subst hj; rw [updF_same] at ha; cases ha
    · rw [updF_ne hj] at ha
      by_cases hk : k = i
      · subst hk; rw [updF_same]; simp
      · rw [updF_ne hk]; exact m.ap j k hjk a ha
  · by_cases hj : j = i
    · subst hj; rw [updF_same] at ha; cases ha
    · rw [updF_ne hj] at ha
      exact m.ft j a ha
theorem outV_ok {r : Rv} {v : V} {d : D} {ρ' : Env} {P : Addr → Prop} {F : List Addr} (m : Mt K pv σ ρ G H fp) (o : RvOk K σ G H P v r F) (hP : ∀ a, InF fp a → P a) (e : outV ρ r = some (d, ρ')) :
    ∃ fp' F', Mt K pv σ ρ' G H fp' ∧ Rp K G H v d F' ∧ (∀ a ∈ F', ¬ InF fp' a) ∧ (∀ a ∈ F', InF fp a ∨ a ∈ F) ∧ ∀ a, InF fp' a → InF fp a := by
  cases r with
  | t d' =>
    cases e
    exact ⟨fp, F, m, o.1, fun a ha z => o.2 a ha (hP a z), fun a ha => .inr ha, fun _ z => z⟩
  | s i =>
    obtain ⟨o1, o2⟩ := o
    have key : ∀ {d0 : D}, (∃ x, σ[i]? = some (some x) ∧ Rp K G H x d0 (fp i)) → d = d0 → ρ' = (killB i ρ).set i .un →
        ∃ fp' F', Mt K pv σ ρ' G H fp' ∧ Rp K G H v d F' ∧ (∀ a ∈ F', ¬ InF fp' a) ∧ (∀ a ∈ F', InF fp a ∨ a ∈ F) ∧ ∀ a, InF fp' a → InF fp a := fun {d0} ⟨x, h1, h2⟩ e1 e2 => by
      subst e1 e2
      rw [o1] at h1; cases h1
      refine ⟨updF fp i [], fp i, m.outS (s := .un), h2, fun a ha z => ?_, fun a ha => .inl ⟨i, ha⟩, fun a z => ?_⟩
      · obtain ⟨j, hj⟩ := z
        by_cases e : j = i
        · subst e; rw [updF_same] at hj; cases hj
        · rw [updF_ne e] at hj; exact m.ap j i e a hj ha
      · rcases InF.updF z with z | z
        · exact z
        · cases z
    unfold outV at e
    simp only at e
    split at e
    · rename_i d0 h
      cases e
      exact key (m.sl i _ h) rfl rfl
    · rename_i d0 h
      cases e
      exact key ⟨_, m.pn i _ h⟩ rfl rfl
    · cases e
/-- the arguments of a call -/
theorem argL_ok : ∀ {ms : List Bool} {rs : List Rv} {ρ ρ' : Env} {G : Hp} {fp : Fps} {P : Addr → Prop} {vs : List V} {F : List Addr} {ds : List D}, Mt K pv σ ρ G H fp → RvsOk K σ G H P vs rs F → (∀ a, InF fp a → P a) → argL ms ρ rs = some (ds, ρ') →
    ∃ G' fp' F', Stp G H (fun a => InF fp a ∨ a ∈ F) G' H (fun a => InF fp' a ∨ a ∈ F') ∧ Mt K pv σ ρ' G' H fp' ∧ RpL K G' H vs ds F' ∧ (∀ a ∈ F', ¬ InF fp' a) ∧ (∀ a ∈ F', InF fp a ∨ a ∈ F) ∧ ∀ a, InF fp' a → InF fp a
  | [], [], ρ, ρ', G, fp, P, _, _, ds, m, .nil, _, e => by
    simp only [argL, Option.some.injEq, Prod.mk.injEq] at e
    obtain ⟨e1, e2⟩ := e
    subst e1 e2
    exact ⟨G, fp, [], (Stp.refl _ _ _), m, .nil, (fun a z => by cases z), (fun a z => by cases z), fun _ z => z⟩
  | true :: ms, r :: rs, ρ, ρ', G, fp, P, _, _, ds, m, .cons (vs := vs1) (F := F0) (F' := F1) h t, hP, e => by
    simp only [argL] at e
    split at e
    · rename_i d ρ1 e1
      split at e
      · rename_i ds' ρ2 e2
        cases e
        obtain ⟨fp1, Fa, m1, r1, a1, b1, i1⟩ := outV_ok m h hP e1
        have t1 : RvsOk K σ G H (fun a => InF fp1 a ∨ a ∈ Fa) vs1 rs F1 := t.add fun a z => .inl (by
          rcases z with z | z
          · exact .inl (hP a (i1 a z))
          · rcases b1 a z with z | z
            · exact .inl (hP a z)
            · exact .inr z)
        obtain ⟨G2, fp2, Fb, s2, m2, r2, a2, b2, i2⟩ := argL_ok m1 t1 (fun a z => .inl z) e2
        have disj : ∀ a ∈ Fa, ¬ (InF fp1 a ∨ a ∈ F1) := fun a ha z => by
          rcases z with z | z
          · exact a1 a ha z
          · exact RvsOk.foot t1 a z (.inr ha)
        obtain ⟨r1', d1'⟩ := Rp.frame r1 s2 disj
        refine ⟨G2, fp2, Fa ++ Fb, ?_, m2, .cons r1' r2 fun a ha hb => d1' a ha (.inr hb), fun a ha z => ?_, fun a ha => ?_, fun a z => i1 a (i2 a z)⟩
        · refine s2.mono (fun a z => ?_) fun a z => ?_
          · rcases z with z | z
            · exact .inl (i1 a z)
            · exact .inr (List.mem_append_right _ z)
          · rcases z with z | z
            · exact .inl (.inl z)
            · rcases List.mem_append.mp z with z | z
              · rcases b1 a z with z | z
                · exact .inr (.inl z)
                · exact .inr (.inr (List.mem_append_left _ z))
              · exact .inl (.inr z)
        · rcases List.mem_append.mp ha with ha | ha
          · exact d1' a ha (.inl z)
          · exact a2 a ha z
        · rcases List.mem_append.mp ha with ha | ha
          · rcases b1 a ha with z | z
            · exact .inl z
            · exact .inr (List.mem_append_left _ z)
          · rcases b2 a ha with z | z
            · exact .inl (i1 a z)
            · exact .inr (List.mem_append_right _ z)
      · cases e
    · cases e
  | false :: ms, r :: rs, ρ, ρ', G, fp, P, _, _, ds, m, .cons (vs := vs1) (F := F0) (F' := F1) h t, hP, e => by
    simp only [argL] at e
    split at e
    · rename_i d ρ1 e1
      split at e
      · rename_i ds' ρ2 e2
        cases e
        obtain ⟨G1, fp1, s1, m1, r1, i1⟩ := tkF_ok m h hP e1
        have t1 : RvsOk K σ G1 H (InF fp1) vs1 rs F1 := by
          have s1' : Stp G H (fun a => P a ∨ a ∈ F0) G1 H (InF fp1) := s1.mono (fun a z => z.elim (fun z => .inl (hP a z)) .inr) fun a z => .inl z
          exact t.frame s1'
        obtain ⟨G2, fp2, Fb, s2, m2, r2, a2, b2, i2⟩ := argL_ok m1 t1 (fun a z => z) e2
        refine ⟨G2, fp2, Fb, ?_, m2, ?_, a2, fun a ha => ?_, fun a z => i1 a (i2 a z)⟩
        · refine (s1.mono (Q := fun a => InF fp a ∨ a ∈ F0 ++ F1) (Q' := fun a => InF fp1 a ∨ a ∈ F0 ++ F1) (fun a z => z.elim .inl fun z => .inr (List.mem_append_left _ z)) fun a z => z.elim .inl fun z => .inr (.inr z)).trans ?_
          exact s2.mono (fun a z => z.elim .inl fun z => .inr (List.mem_append_right _ z)) fun a z => .inl z
        · have := RpL.cons (F := []) (F' := Fb) (r1.mov0 s2.g) r2 fun a z => by cases z
          exact this
        · rcases b2 a ha with z | z
          · exact .inl (i1 a z)
          · exact .inr (List.mem_append_right _ z)
      · cases e
    · cases e
  | [], _ :: _, _, _, _, _, _, _, _, _, _, _, _, e => by simp only [argL] at e; cases e
  | true :: _, [], _, _, _, _, _, _, _, _, _, _, _, e => by simp only [argL] at e; cases e
  | false :: _, [], _, _, _, _, _, _, _, _, _, _, _, e => by simp only [argL] at e; cases e
/-- a value put back where nothing was known -/
theorem Mt.give {i : Nat} {d : D} {s : Sl} {x : V} {F : List Addr} (m : Mt K pv σ ρ G H fp) (hi : ρ[i]? = some Sl.un) (hs : s = .v d ∨ (s = .w d ∧ x = pv i)) (hx : σ[i]? = some (some x)) (r : Rp K G H x d F) (hd : ∀ a ∈ F, ¬ InF fp a) (hb : ∀ (j : Nat) (q : List Nat), ρ[j]? ≠ some (Sl.b i q)) :
    Mt K pv σ (ρ.set i s) G H (updF fp i F) := by
  have hl : i < ρ.length := (List.getElem?_eq_some_iff.mp hi).1
  have gk : ∀ {j : Nat} {s' : Sl}, j ≠ i → (ρ.set i s)[j]? = some s' → ρ[j]? = some s' := fun {j s'} hj h => by
    rwa [List.getElem?_set_ne (Ne.symm hj)] at h
  refine ⟨m.sub, by rw [List.length_set]; exact m.len, fun j d' h => ?_, fun j d' h => ?_, fun j k q h => ?_, fun j k hjk a ha => ?_, fun j a ha => ?_⟩
  · by_cases hj : j = i
    · subst hj
      rw [List.getElem?_set_self hl] at h
      cases h
      rcases hs with hs | ⟨hs, _⟩
      · cases hs; exact ⟨x, hx, by rw [updF_same]; exact r⟩
      · cases hs
    · rw [updF_ne hj]; exact m.sl j d' (gk hj h)
  · by_cases hj : j = i
    · subst hj
      rw [List.getElem?_set_self hl] at h
      cases h
      rcases hs with hs | ⟨hs, e⟩
      · cases hs
      · cases hs; subst e; exact ⟨hx, by rw [updF_same]; exact r⟩
    · rw [updF_ne hj]; exact m.pn j d' (gk hj h)
  · by_cases hj : j = i
    · subst hj
      rw [List.getElem?_set_self hl] at h
      cases h
      rcases hs with hs | ⟨hs, _⟩ <;> cases hs
    · have h' := gk hj h
      obtain ⟨x', y, h1, h2, h3⟩ := m.br j k q h'
      have hk : k ≠ i := fun z => hb j q (by rw [← z]; exact h')
      exact ⟨x', y, h1, h2, by rw [updF_ne hk]; exact h3⟩
  · by_cases hj : j = i
    · subst hj
      rw [updF_same] at ha
      rw [updF_ne (Ne.symm hjk)]
      exact fun z => hd a ha ⟨k, z⟩
    · rw [updF_ne hj] at ha
      by_cases hk : k = i
      · subst hk; rw [updF_same]; exact fun z => hd a z ⟨j, ha⟩
      · rw [updF_ne hk]; exact m.ap j k hjk a ha
  · by_cases hj : j = i
    · subst hj; rw [updF_same] at ha; exact Rp.foot _ r a ha
    · rw [updF_ne hj] at ha
      exact m.ft j a ha
end
section
variable {K : PySem.W.Frag} {cn : String → Addr} {pv : Nat → V} {σ γ : St} {n : Nat} {ρ : Env} {G H G' H' : Hp} {fp fp' : Fps} {E : WX}
theorem isUn_eq {o : Option Sl} (h : isUn o = true) : o = some Sl.un := by
  cases o with
  | none => cases h
  | some s => cases s <;> first | rfl | cases h
theorem backL_ok {ρ0 : Env} {G0 H0 : Hp} {fp0 : Fps} (m0 : Mt K pv σ ρ0 G0 H0 fp0) : ∀ {ms : List Bool} {rs : List Rv} {ρ ρ' : Env} {fp : Fps} {P : Addr → Prop} {vs : List V} {F F0 : List Addr} {ds : List D} {G1 H1 : Hp}, Mt K pv σ ρ G H fp → RvsOk K σ G1 H1 P vs rs F0 → RpL K G H vs ds F → (∀ a ∈ F, ¬ InF fp a) → backL ρ0 ms ρ rs ds = some ρ' →
    ∃ fp', Mt K pv σ ρ' G H fp' ∧ ∀ a, InF fp' a → InF fp a ∨ a ∈ F
  | [], [], ρ, ρ', fp, P, vs, F, F0, ds, _, _, m, o, r, d, e => by
    cases ds with
    | nil =>
      simp only [backL, Option.some.injEq] at e
      subst e
      exact ⟨fp, m, fun a z => .inl z⟩
    | cons _ _ => simp only [backL] at e; cases e
  | true :: ms, .t d0 :: rs, ρ, ρ', fp, P, _, F, _, ds, _, _, m, .cons h t, r, d, e => by
    cases r with
    | cons r1 r2 r3 =>
      simp only [backL, backV] at e
      obtain ⟨fp', m', i'⟩ := backL_ok m0 m t r2 (fun a ha => d a (List.mem_append_right _ ha)) e
      exact ⟨fp', m', fun a z => (i' a z).elim .inl fun z => .inr (List.mem_append_right _ z)⟩
  | true :: ms, .s i :: rs, ρ, ρ', fp, P, _, F, _, ds, _, _, m, .cons (v := v) h t, r, d, e => by
    cases r with
    | @cons _ vs' d1 ds' Fa Fb r1 r2 r3 =>
      simp only [backL] at e
      split at e
      · rename_i ρ1 e1
        unfold backV at e1
        simp only at e1
        split at e1
        · rename_i hc
          simp only [Bool.and_eq_true] at hc
          have hu := isUn_eq hc.1
          have hb : ∀ (j : Nat) (q : List Nat), ρ[j]? ≠ some (Sl.b i q) := fun j q z => noB_get hc.2 z (by simp)
          have hx : σ[i]? = some (some v) := h.1
          have key : ∀ {s : Sl}, ρ1 = ρ.set i s → (s = .v d1 ∨ (s = .w d1 ∧ v = pv i)) → ∃ fp', Mt K pv σ ρ' G H fp' ∧ ∀ a, InF fp' a → InF fp a ∨ a ∈ Fa ++ Fb := fun {s} e2 hs => by
            subst e2
            have m1 := m.give hu hs hx r1 (fun a ha => d a (List.mem_append_left _ ha)) hb
            obtain ⟨fp', m', i'⟩ := backL_ok m0 m1 t r2 (fun a ha z => by
              rcases InF.updF z with z | z
              · exact d a (List.mem_append_right _ ha) z
              · exact r3 a z ha) e
            refine ⟨fp', m', fun a z => ?_⟩
            rcases i' a z with z | z
            · rcases InF.updF z with z | z
              · exact .inl z
              · exact .inr (List.mem_append_left _ z)
            · exact .inr (List.mem_append_right _ z)
          split at e1
          · cases e1; exact key rfl (.inl rfl)
          · rename_i d0 hw
            cases e1
            have := (m0.pn i d0 hw).1
            rw [hx] at this; cases this
            exact key rfl (.inr ⟨rfl, rfl⟩)
          · cases e1
        · cases e1
      · cases e
  | false :: ms, r0 :: rs, ρ, ρ', fp, P, _, F, _, ds, _, _, m, .cons h t, r, d, e => by
    cases r with
    | cons r1 r2 r3 =>
      simp only [backL] at e
      obtain ⟨fp', m', i'⟩ := backL_ok m0 m t r2 (fun a ha => d a (List.mem_append_right _ ha)) e
      exact ⟨fp', m', fun a z => (i' a z).elim .inl fun z => .inr (List.mem_append_right _ z)⟩
  | [], _ :: _, _, _, _, _, _, _, _, _, _, _, _, _, _, _, e => by simp only [backL] at e; cases e
  | true :: _, [], _, _, _, _, _, _, _, _, _, _, _, _, _, _, e => by simp only [backL] at e; cases e
  | false :: _, [], _, _, _, _, _, _, _, _, _, _, _, _, _, _, e => by simp only [backL] at e; cases e
end
/-- the heart of a call: from the arguments' handles to the promise -/
theorem call_go {K : PySem.W.Frag} {cn : String → Addr} {E : WX} {pv : Nat → V} {σ γ : St} {ρ1 : Env} {G H G1 H1 : Hp} {fp fp1 : Fps} {F1 : List Addr} {Q0 : Rv → Env → Prop} {E0 : Exn → Env → Prop} {Q : VK} {ms : List Bool} {s : SpD} {rs : List Rv} {vs : List V}
    (po : PoE K pv σ γ G H fp Q0 Q) (px : PoX K cn pv γ σ.length G H fp E0 E) (s1 : Stp G H (InF fp) G1 H1 (fun a => InF fp1 a ∨ a ∈ F1)) (m1 : Mt K pv (σ ++ γ) ρ1 G1 H1 fp1) (o1 : RvsOk K (σ ++ γ) G1 H1 (InF fp1) vs rs F1)
    (q : ∃ ds ρ2, argL ms ρ1 rs = some (ds, ρ2) ∧ s ds (fun res ds' => ∃ ρ3, backL ρ1 ms ρ2 rs ds' = some ρ3 ∧ Q0 (.t res) ρ3) (fun x ds' => ∃ ρ3, backL ρ1 ms ρ2 rs ds' = some ρ3 ∧ E0 x ρ3)) :
    lower K cn s vs H1 Q (fun c d H' => E c d σ H') := by
  obtain ⟨ds, ρ2, e1, q⟩ := q
  obtain ⟨G2, fp2, F2, s2, m2, r2, a2, b2, i2⟩ := argL_ok m1 o1 (fun _ z => z) e1
  have s12 := s1.trans s2
  refine ⟨G2, ds, F2, _, _, m2.sub, r2, q, ?_, ?_⟩
  · rintro res ds' v G' H' Fr F' ⟨ρ3, e3, q3⟩ s3 hs3 r3 rr d3
    have m2' : Mt K pv (σ ++ γ) ρ2 G' H' fp2 := m2.move s3.g hs3 (fun a o z e => s3.h a o e fun y => a2 a y z) fun a ⟨j, ha⟩ => by
      obtain ⟨h1, o, h2⟩ := m2.ft j a ha
      exact s3.n a o h2 h1 fun y => a2 a y ⟨j, ha⟩
    have nf : ∀ a, (a ∈ Fr ∨ a ∈ F') → ¬ InF fp2 a := fun a z y => by
      rcases s3.f a z with u | u
      · exact a2 a u y
      · obtain ⟨j, ha⟩ := y
        obtain ⟨_, o, h2⟩ := m2.ft j a ha
        rw [u] at h2; cases h2
    obtain ⟨fp3, m3, i3⟩ := backL_ok m1 m2' o1 r3 (fun a ha => nf a (.inr ha)) e3
    refine po (.t res) ρ3 v G' H' fp3 Fr q3 (s12.trans (s3.mono (fun a z => .inr z) fun a z => ?_)) m3 ⟨rr, fun a ha z => ?_⟩
    · rcases z with z | z
      · rcases i3 a z with z | z
        · exact .inr (.inl z)
        · exact .inl (.inr z)
      · exact .inl (.inl z)
    · rcases i3 a z with z | z
      · exact nf a (.inl ha) z
      · exact d3 a ha z
  · rintro x ds' cls dx G' H' F' ⟨ρ3, e3, q3⟩ s3 hs3 r3 ex
    have m2' : Mt K pv (σ ++ γ) ρ2 G' H' fp2 := m2.move s3.g hs3 (fun a o z e => s3.h a o e fun y => a2 a y z) fun a ⟨j, ha⟩ => by
      obtain ⟨h1, o, h2⟩ := m2.ft j a ha
      exact s3.n a o h2 h1 fun y => a2 a y ⟨j, ha⟩
    have nf : ∀ a, a ∈ F' → ¬ InF fp2 a := fun a z y => by
      rcases s3.f a z with u | u
      · exact a2 a u y
      · obtain ⟨j, ha⟩ := y
        obtain ⟨_, o, h2⟩ := m2.ft j a ha
        rw [u] at h2; cases h2
    obtain ⟨fp3, m3, i3⟩ := backL_ok m1 m2' o1 r3 (fun a ha => nf a ha) e3
    refine px x ρ3 cls dx σ G' H' fp3 q3 (s12.trans (s3.mono (fun a z => .inr z) fun a z => ?_)) m3 rfl ex
    rcases i3 a z with z | z
    · exact .inr (.inl z)
    · exact .inl z
theorem je_call {X : Cx} {cn : String → Addr} {E : WX} {e : Expr} {s : SpD} {t : DA} {ms : List Bool}
    (h : PE X e (fun σ H Q => liftA X.K cn E t σ H fun vs H1 => lower X.K cn s vs H1 Q (fun c d H' => E c d σ H'))) : JE X cn E e (dCall ms s t) := by
  refine pe_imp h ?_
  rintro σ H Q ⟨pv, γ, ρ, G, fp, Q0, E0, m, q, po, px⟩
  exact ⟨pv, γ, ρ, G, fp, _, E0, m, q, fun rs ρ1 vs G1 H1 fp1 F1 q1 s1 m1 o1 => call_go po px s1 m1 o1 q1, px⟩

/-! ### a def's promise from its body -/
def initE (n : Nat) (ds : List D) : Env := ds.map (fun d => if d.isFz = true then Sl.v d else Sl.w d) ++ List.replicate (n - ds.length) Sl.un
/-- what was handed in, behind -/
def finL : Nat → List D → Env → Option (List D)
  | _, [], _ => some []
  | i, d :: ds, ρ => match finL (i + 1) ds ρ with
    | some ds' => if d.isFz = true then some (d :: ds') else match ρ[i]? with
      | some (.w d') => some (d' :: ds')
      | _ => none
    | none => none
section
variable {K : PySem.W.Frag} {cn : String → Addr} {G H G' H' : Hp}
/-- the places of what is handed in -/
theorem split_fp : ∀ {vs : List V} (ds : List D) {F : List Addr}, RpL K G H vs ds F → ∃ fp : Fps, (∀ (i : Nat) (d : D), ds[i]? = some d → ∃ x, vs[i]? = some x ∧ Rp K G H x d (fp i)) ∧ (∀ i, ∀ a ∈ fp i, a ∈ F) ∧ (∀ i j, i ≠ j → ∀ a ∈ fp i, a ∉ fp j) ∧ ∀ i, ds.length ≤ i → fp i = []
  | _, [], _, h => by
    cases h
    exact ⟨fun _ => [], (fun i d e => by simp at e), (fun i a z => by cases z), (fun i j _ a z => by cases z), fun _ _ => rfl⟩
  | _, d :: ds, _, h => by
    cases h with
    | @cons v vs' _ _ F0 F1 h1 h2 h3 =>
      obtain ⟨fp, a1, a2, a3, a4⟩ := split_fp ds h2
      refine ⟨fun i => match i with
        | 0 => F0
        | i + 1 => fp i, fun i d' e => ?_, fun i a z => ?_, fun i j hij a z => ?_, fun i hi => ?_⟩
      · cases i with
        | zero =>
          simp only [List.getElem?_cons_zero, Option.some.injEq] at e
          subst e
          exact ⟨v, rfl, h1⟩
        | succ i =>
          rw [List.getElem?_cons_succ] at e
          obtain ⟨x, g1, g2⟩ := a1 i d' e
          exact ⟨x, by rw [List.getElem?_cons_succ]; exact g1, g2⟩
      · cases i with
        | zero => exact List.mem_append_left _ z
        | succ i => exact List.mem_append_right _ (a2 i a z)
      · cases i with
        | zero =>
          cases j with
          | zero => exact absurd rfl hij
          | succ j => exact fun y => h3 a z (a2 j a y)
        | succ i =>
          cases j with
          | zero => exact fun y => h3 a y (a2 i a z)
          | succ j => exact a3 i j (fun e => hij (by rw [e])) a z
      · cases i with
        | zero => simp at hi
        | succ i => exact a4 i (by simpa using hi)
/-- what was handed in, put together again -/
theorem fin_rp {pv : Nat → V} {σ : St} {ρ : Env} {fp : Fps} (m : Mt K pv σ ρ G' H' fp) (hg : Sub G G') : ∀ (k : Nat) (vs : List V) (ds ds' : List D) {F : List Addr}, RpL K G H vs ds F → (∀ i, i < vs.length → vs[i]? = some (pv (k + i))) → finL k ds ρ = some ds' →
    ∃ F', RpL K G' H' vs ds' F' ∧ ∀ a ∈ F', ∃ i, k ≤ i ∧ a ∈ fp i
  | _, _, [], ds', _, h, _, e => by
    cases h
    simp only [finL, Option.some.injEq] at e
    subst e
    exact ⟨[], .nil, fun a z => by cases z⟩
  | k, _, d :: ds, ds', _, h, hv, e => by
    cases h with
    | @cons v vs' _ _ F0 F1 h1 h2 h3 =>
      simp only [finL] at e
      split at e
      · rename_i ds2 e2
        have hv' : ∀ i, i < vs'.length → vs'[i]? = some (pv (k + 1 + i)) := fun i hi => by
          have := hv (i + 1) (by rw [List.length_cons]; omega)
          rw [List.getElem?_cons_succ] at this
          rw [this, show k + (i + 1) = k + 1 + i by omega]
        obtain ⟨F', r', i'⟩ := fin_rp m hg (k + 1) vs' ds ds2 h2 hv' e2
        have i'' : ∀ a ∈ F', ∃ i, k ≤ i ∧ a ∈ fp i := fun a ha => by
          obtain ⟨i, h1, h2⟩ := i' a ha
          exact ⟨i, by omega, h2⟩
        have e0 : v = pv k := by
          have := hv 0 (by rw [List.length_cons]; omega)
          simpa using this
        split at e
        · rename_i hz
          cases e
          have := Rp.foot0 _ h1 hz
          subst this
          exact ⟨[] ++ F', RpL.cons (h1.mov0 hg) r' (fun a z => by cases z), i''⟩
        · split at e
          · rename_i d' hw
            cases e
            obtain ⟨_, g2⟩ := m.pn k d' hw
            rw [← e0] at g2
            refine ⟨fp k ++ F', RpL.cons g2 r' fun a ha hb => ?_, fun a ha => ?_⟩
            · obtain ⟨i, g3, g4⟩ := i' a hb
              exact m.ap k i (by omega) a ha g4
            · rcases List.mem_append.mp ha with ha | ha
              · exact ⟨k, Nat.le_refl _, ha⟩
              · exact i'' a ha
          · cases e
      · cases e
end
theorem start_get {N : List Str} {vs : List V} {i : Nat} {x : V} (h : vs[i]? = some x) : (L2.start N vs)[i]? = some (some x) := by
  unfold L2.start
  have hi : i < vs.length := (List.getElem?_eq_some_iff.mp h).1
  rw [List.getElem?_append_left (by rw [List.length_map]; exact hi), List.getElem?_map, h]
  rfl
theorem init_get {n : Nat} {ds : List D} {i : Nat} {s : Sl} (h : (initE n ds)[i]? = some s) (hn : s ≠ .un) : ∃ d, ds[i]? = some d ∧ s = if d.isFz = true then Sl.v d else Sl.w d := by
  unfold initE at h
  by_cases hi : i < ds.length
  · rw [List.getElem?_append_left (by rw [List.length_map]; exact hi), List.getElem?_map] at h
    cases e : ds[i]? with
    | none => rw [e] at h; cases h
    | some d =>
      rw [e] at h
      cases h
      exact ⟨d, rfl, rfl⟩
  · rw [List.getElem?_append_right (by rw [List.length_map]; omega)] at h
    rw [List.getElem?_replicate] at h
    split at h
    · cases h; exact absurd rfl hn
    · cases h
/-- THE PROMISE: the body's reading over deep values, from the promise's own words -/
theorem def_ok {K : PySem.W.Frag} {cn : String → Addr} {N : List Str} {vs : List V} {H : Hp} {Q : VK} {E : XK} {s : SpD} {t : DS} {n : Nat}
    (hN : N.length = n) (hl : ∀ ds Q0 E0, s ds Q0 E0 → ds.length ≤ n)
    (sem : ∀ ds Q0 E0, s ds Q0 E0 → t { nx := fun ρ => ∃ ds', finL 0 ds ρ = some ds' ∧ Q0 (.p .non) ds', rt := fun d ρ => ∃ ds', finL 0 ds ρ = some ds' ∧ Q0 d ds', ex := fun x ρ => ∃ ds', finL 0 ds ρ = some ds' ∧ E0 x ds' } (initE n ds))
    (h : lower K cn s vs H Q E) : liftS K cn (fun c d _ H' => E c d H') t { nx := fun _ H' => Q .non H', rt := Q } (L2.start N vs) H := by
  obtain ⟨G, ds, F, Q0, E0, hs, r, q, k1, k2⟩ := h
  obtain ⟨fp, a1, a2, a3, a4⟩ := split_fp ds r
  have lv : vs.length = ds.length := r.len
  have ln : ds.length ≤ n := hl ds Q0 E0 q
  have m : Mt K (fun i => (vs[i]?).getD .non) (L2.start N vs ++ []) (initE n ds) G H fp := by
    rw [List.append_nil]
    refine ⟨hs, ?_, fun i d h => ?_, fun i d h => ?_, fun i j q h => ?_, a3, fun i a ha => RpL.foot _ r a (a2 i a ha)⟩
    · unfold initE L2.start
      simp only [List.length_append, List.length_map, List.length_replicate]
      omega
    · obtain ⟨d', h1, h2⟩ := init_get h (by intro z; cases z)
      split at h2
      · cases h2
        obtain ⟨x, g1, g2⟩ := a1 i _ h1
        exact ⟨x, start_get g1, g2⟩
      · cases h2
    · obtain ⟨d', h1, h2⟩ := init_get h (by intro z; cases z)
      split at h2
      · cases h2
      · cases h2
        obtain ⟨x, g1, g2⟩ := a1 i _ h1
        refine ⟨by rw [start_get g1, g1]; rfl, ?_⟩
        rw [g1]; exact g2
    · obtain ⟨d', h1, h2⟩ := init_get h (by intro z; cases z)
      split at h2 <;> cases h2
  have hv : ∀ i, i < vs.length → vs[i]? = some ((fun i => (vs[i]?).getD .non) (0 + i)) := fun i hi => by
    show vs[i]? = some ((vs[0 + i]?).getD .non)
    rw [Nat.zero_add, List.getElem?_eq_getElem hi]; rfl
  have sF : ∀ a, InF fp a → a ∈ F := fun a ⟨i, ha⟩ => a2 i a ha
  have back : ∀ {ds' ρ' σ' G' H'} {fp' : Fps} {P' : Addr → Prop}, finL 0 ds ρ' = some ds' → Stp G H (InF fp) G' H' P' → Mt K (fun i => (vs[i]?).getD .non) (σ' ++ []) ρ' G' H' fp' → ∃ F', RpL K G' H' vs ds' F' ∧ ∀ a ∈ F', InF fp' a := fun e s m => by
    obtain ⟨F', r', i'⟩ := fin_rp m s.g 0 vs ds _ r hv e
    exact ⟨F', r', fun a ha => by
      obtain ⟨i, _, h⟩ := i' a ha
      exact ⟨i, h⟩⟩
  refine ⟨_, [], _, G, fp, _, m, sem ds Q0 E0 q, ⟨?_, fun _ _ _ _ _ z => z.elim, fun _ _ _ _ _ z => z.elim, ?_, ?_⟩⟩
  · rintro ρ' σ' G' H' fp' ⟨ds', e, q'⟩ s' m' l'
    obtain ⟨F', r', i'⟩ := back e s' m'
    exact k1 _ ds' .non G' H' [] F' q' (s'.mono sF fun a z => z.elim (fun z => by cases z) fun z => .inl (i' a z)) m'.sub r' (Rp.p _) fun a z => by cases z
  · rintro d ρ' v σ' G' H' fp' Fr ⟨ds', e, q'⟩ s' m' l' rr dr
    obtain ⟨F', r', i'⟩ := back e s' m'
    exact k1 _ ds' v G' H' Fr F' q' (s'.mono sF fun a z => .inl (z.elim .inr fun z => .inl (i' a z))) m'.sub r' rr fun a ha hb => dr a ha (i' a hb)
  · rintro x ρ' cls dx σ' G' H' fp' ⟨ds', e, q'⟩ s' m' l' ex
    obtain ⟨F', r', i'⟩ := back e s' m'
    exact k2 x ds' cls dx G' H' F' q' (s'.mono sF fun a z => .inl (i' a z)) m'.sub r' ex
end DL
/-! DL9: calls of defs as the text writes them; a def's rule. -/
namespace DL
open PySem L2
open PyProof.Rows (envOfC)

section
variable {X : Cx} {cn : String → Addr} {E : WX} {k : Nat} {f : Addr} {fd : FuncData} {ps ks : List Str} {s : SpD} {x : Str} {p pos : Pos} {e : Expr} {es : List Expr} {kws : List Keyword} {t tk : DA} {ms : List Bool}
abbrev FnD (P : Program) (w : World) (K : PySem.W.Frag) (mg : Str → Option Value) (base : Heap) (cn : String → Addr) (k : Nat) (f : Addr) (fd : FuncData) (ps : List Str) (s : SpD) : Prop :=
  FnOk P w K mg base (L2.CX P w) k f fd ps (lower K cn s)
theorem je_callN (F : FnD X.prog X.w X.K X.mg X.base cn k f fd ps s) (hr : Room k X.A) (hg : Gl X x) (hm : X.mg x = some (.ref f)) (hk : PySem.W.keepIn X.K (.ref f) = true) (hb : Binds X.K fd ps []) (tk : Takes X E)
    (ha : JA X cn E (e :: es) t) (hdb : (x == ("__debug__" : Str)) = false := by decide) (he : starEach (e :: es) X.env = (false, eval e X.env) :: starEach es X.env := by rfl) (hpl : (backTo pos (starEach es X.env)).any (·.1) = false := by rfl) :
    JE X cn E (.Call (.Name x p) (e :: es) [] pos) (dCall ms s t) :=
  je_call (pe_callS (E := fun σ c d H' => E c d σ H') F hr hg hm hk hb (fun σ => passAt tk σ) ha hdb he hpl)
/-- a call without arguments of a def that raises nothing -/
def dCall0 (s : SpD) : DE := fun ρ Q _ => s [] (fun res _ => Q (.t res) ρ) (fun _ _ => False)
theorem je_call0 (F : FnD X.prog X.w X.K X.mg X.base cn k f fd ps s) (hr : Room k X.A) (hg : Gl X x) (hm : X.mg x = some (.ref f)) (hk : PySem.W.keepIn X.K (.ref f) = true) (hb : Binds X.K fd ps [])
    (hdb : (x == ("__debug__" : Str)) = false := by decide) : JE X cn E (.Call (.Name x p) [] [] pos) (dCall0 s) := by
  refine pe_imp (pe_call0 F hr hg hm hk hb .nil (passAll (fun σ => passAt takes0 σ)) hdb) ?_
  rintro σ H Q ⟨pv, γ, ρ, G, fp, Q0, E0, m, q, po, px⟩
  refine ⟨G, [], [], _, _, m.sub, .nil, q, ?_, fun x ds' cls dx G' H' F' z => z.elim⟩
  rintro res ds' v G' H' Fr F' q3 s3 hs3 r3 rr d3
  have hF' : F' = [] := by
    cases r3
    rfl
  subst hF'
  have s3' : Stp G H (fun _ => False) G' H' (fun a => a ∈ Fr) := s3.mono (fun a z => by cases z) fun a z => .inl (.inl z)
  obtain ⟨f1, f2, f3⟩ := fin_new m (Stp.refl G H (InF fp)) (fun a z => z) s3' hs3
  exact po (.t res) ρ v G' H' fp Fr q3 f1 f2 ⟨rr, f3⟩
where
  passAll {X : Cx} {CX : CXT} {E : XK} (h : ∀ σ, PassesAt CX X σ E) : Passes CX X E := fun pins σ H s e s' I c => h σ pins H s e s' I c
end

/-! ### keywords: all that is handed in is shared -/
def dCallK (g : {α : Type} → List α → List α → List α) (s : SpD) (t tk : DA) : DE := fun ρ Q E => t ρ (fun rs ρ1 => ∃ ds ρ2, tkFL ρ1 rs = some (ds, ρ2) ∧ tk ρ2 (fun zs ρ3 => ∃ es ρ4, tkFL ρ3 zs = some (es, ρ4) ∧
  s (g ds es) (fun res _ => Q (.t res) ρ4) (fun x _ => E x ρ4)) E) E
def GOk (g : {α : Type} → List α → List α → List α) : Prop := ∀ {α β : Type} {R : α → β → Prop} {a : List α} {b : List β} {c : List α} {d : List β}, Paired R a b → Paired R c d → Paired R (g a c) (g b d)
abbrev JK (X : Cx) (cn : String → Addr) (E : WX) (kws : List Keyword) (t : DA) : Prop := PK X kws (liftA X.K cn E t)
section
variable {X : Cx} {cn : String → Addr} {E : WX} {k : Nat} {f : Addr} {fd : FuncData} {ps ks : List Str} {s : SpD} {x : Str} {p pos kpos : Pos} {e : Expr} {es : List Expr} {kws : List Keyword} {t tk : DA} {te : DE} {nm : Option Str} {ms : List Bool}
theorem pk_imp {X : Cx} {es : List Keyword} {t t' : TA} (h : PK X es t) (i : ∀ σ H Q, t' σ H Q → t σ H Q) : PK X es t' := ⟨fun pos pins s σ H Q I q => h.run pos pins s σ H Q I (i σ H Q q)⟩
theorem jk_nil : JK X cn E [] dNil := pk_imp pk_nil fun σ H Q ⟨pv, γ, ρ, G, fp, Q0, E0, m, q, po, px⟩ => po [] ρ [] G H fp [] q (stp0 G H fp) m .nil
theorem consA {ta : DE} {t : DA} (σ : St) (H : Hp) (Q : List V → Hp → Prop) : liftA X.K cn E (dCons ta t) σ H Q → tCons (liftE X.K cn E ta) (liftA X.K cn E t) σ H Q := by
  rintro ⟨pv, γ, ρ, G, fp, Q0, E0, m, q, po, px⟩
  refine ⟨pv, γ, ρ, G, fp, _, E0, m, q, fun x ρ1 v G1 H1 fp1 F1 q1 s1 m1 o1 => ?_, px⟩
  refine ⟨pv, γ, ρ1, G1, fp1, _, E0, m1, q1, fun xs ρ2 vs G2 H2 fp2 F2 q2 s2 m2 o2 => ?_, px.on s1⟩
  have o1' := o1.frame s2
  refine po (x :: xs) ρ2 (v :: vs) G2 H2 fp2 (F1 ++ F2) q2 (s1.seq (fun _ z => .inl z) s2 fun a z => ?_) m2 (.cons (o1'.weak fun a z => .inl z) (o2.add fun a z => ?_))
  · rcases z with z | z
    · exact .inl (.inl z)
    · rcases List.mem_append.mp z with z | z
      · exact .inr (.inr z)
      · exact .inl (.inr z)
  · rcases z with z | z
    · exact .inl z
    · exact .inr fun y => o1'.apart a z (.inr y)
theorem jk_cons (ha : JE X cn E e te) (hr : JK X cn E kws t) : JK X cn E (⟨nm, e, kpos⟩ :: kws) (dCons te t) := pk_imp (pk_cons ha hr) fun σ H Q h => consA σ H Q h
theorem RpL.pair {K : PySem.W.Frag} {G H : Hp} : ∀ {vs : List V} (ds : List D), RpL K G H vs ds [] → Paired (fun v d => Rp K G H v d []) vs ds
  | vs, [], h => by rw [h.nil2]; exact .nil
  | vs, d :: ds, h => by
    obtain ⟨x, xs, rfl, h1, h2⟩ := h.cons2
    exact .cons h1 (RpL.pair ds h2)
theorem RpL.of_pair {K : PySem.W.Frag} {G H : Hp} : ∀ {vs : List V} {ds : List D}, Paired (fun v d => Rp K G H v d []) vs ds → RpL K G H vs ds []
  | _, _, .nil => .nil
  | _, _, .cons h t => by
    have := RpL.cons (F := []) (F' := []) h (RpL.of_pair t) fun a z => by cases z
    exact this
/-- a callee at work, the caller's wish at its slots -/
theorem run_kw {CX : CXT} {sp : Sp} {E : XK} {g : List Value → List Value → List Value} {gV : List V → List V → List V} {pins : List (Addr × Obj)} {σ : St} {H : Hp} {sh : Shared} {Q : VK} {us ws : List Value} {vs zs : List V} (F : FnOk X.prog X.w X.K X.mg X.base CX k f fd ps sp)
    (hr : Room k X.A) (hb : KBinds X.K fd ps ks g gV) (hx : PassesAt CX X σ E) (I : Inv X pins σ H sh) (r : Vals vs us) (rz : Vals zs ws) (h : sp (gV vs zs) H Q E) : wpAny (model X.prog X.w) X.A (call (.ref f) us (ks.zip ws)) (EP X pins σ Q) X.xe sh := by
  have rel := hb.rel r rz
  have bound := hb.to sh us ws I.kIn (rel.length.symm.trans (F.len _ _ _ _ h))
  refine wpAny_call (codeAny_mono (F.run X.A X.stack sh H ⟨us, ks.zip ws⟩ (g us ws) (gV vs zs) Q E hr I.env0 bound rel h) ?_)
  rintro (e | fl) s' hq
  · exact hx pins H sh e s' I hq
  · cases fl <;> first | exact I.after hq | exact False.elim hq
theorem kw_go {pv : Nat → V} {σ γ : St} {G H : Hp} {fp : Fps} {Q0 : Rv → Env → Prop} {E0 : Exn → Env → Prop} {Q : VK} {g : {α : Type} → List α → List α → List α} (hg : GOk g) {G1 H1 : Hp} {fp1 : Fps} {vs zs : List V} {ds es : List D} {ρ1 : Env}
    (po : PoE X.K pv σ γ G H fp Q0 Q) (px : PoX X.K cn pv γ σ.length G H fp E0 E) (s1 : Stp G H (InF fp) G1 H1 (InF fp1)) (m1 : Mt X.K pv (σ ++ γ) ρ1 G1 H1 fp1) (r1 : RpL X.K G1 H1 vs ds []) (r2 : RpL X.K G1 H1 zs es [])
    (q : s (g ds es) (fun res _ => Q0 (.t res) ρ1) (fun x _ => E0 x ρ1)) : lower X.K cn s (g vs zs) H1 Q (fun c d H' => E c d σ H') := by
  refine ⟨G1, g ds es, [], _, _, m1.sub, RpL.of_pair (hg (RpL.pair _ r1) (RpL.pair _ r2)), q, ?_, ?_⟩
  · rintro res ds' v G' H' Fr F' q3 s3 hs3 r3 rr d3
    have s3' : Stp G1 H1 (fun _ => False) G' H' (fun a => a ∈ Fr) := s3.mono (fun a z => by cases z) fun a z => .inl (.inl z)
    obtain ⟨f1, f2, f3⟩ := fin_new m1 s1 (fun a z => z) s3' hs3
    exact po (.t res) ρ1 v G' H' fp1 Fr q3 f1 f2 ⟨rr, f3⟩
  · rintro x ds' cls dx G' H' F' q3 s3 hs3 r3 ex
    have s3' : Stp G1 H1 (fun _ => False) G' H' (fun _ => False) := s3.mono (fun a z => by cases z) fun a z => z.elim
    obtain ⟨f1, f2, f3⟩ := fin_new m1 s1 (fun a z => z) s3' hs3
    exact px x ρ1 cls dx σ G' H' fp1 q3 (f1.mono (fun _ z => z) fun _ z => .inl (.inl z)) f2 rfl ex
theorem kb_of {K : PySem.W.Frag} {g : {α : Type} → List α → List α → List α} (hg : GOk g) (h : ∀ (s : Shared) (us ws : List Value), (g us ws).length = ps.length → BindsTo s fd ⟨us, ks.zip ws⟩ (ps.zip (g us ws))) : KBinds K fd ps ks (fun us ws => g us ws) (fun us ws => g us ws) :=
  ⟨fun s us ws _ hl => h s us ws hl, fun r rz => hg r rz⟩
theorem je_callK0 {g : {α : Type} → List α → List α → List α} (hg : GOk g) (F : FnD X.prog X.w X.K X.mg X.base cn k f fd ps s) (hr : Room k X.A) (hgl : Gl X x) (hm : X.mg x = some (.ref f)) (hk : PySem.W.keepIn X.K (.ref f) = true)
    (hb : KBinds X.K fd ps ks (fun us ws => g us ws) (fun us ws => g us ws)) (tks : Takes X E) (hkw : JK X cn E kws tk) (hall : (backToKw pos (keywordEach kws X.env)).all (·.1.isSome) = true := by rfl) (hks : (backToKw pos (keywordEach kws X.env)).filterMap (·.1) = ks := by rfl)
    (hdb : (x == ("__debug__" : Str)) = false := by decide) (hpl : ((backTo pos (starEach [] X.env)).any (·.1) || (backToKw pos (keywordEach kws X.env)).any (·.1.isNone)) = false := by rfl) :
    JE X cn E (.Call (.Name x p) [] kws pos) (dCallK g s dNil tk) := by
  refine ⟨fun pins sh σ H Q I ⟨pv, γ, ρ, G, fp, Q0, E0, m, q, po, px⟩ => ?_⟩
  refine wpAny_Call_Name_kw (ld_glob I hgl hm ?_ hdb)
  obtain ⟨ds, ρ2, e1, q⟩ := q
  simp only [tkFL, Option.some.injEq, Prod.mk.injEq] at e1
  obtain ⟨e1, e2⟩ := e1
  subst e1 e2
  refine PySem.W.callWith_KW0 (h₀ := X.base) I.ok.mod.kin hk hall (thn (hkw.run pos pins sh σ H (fun zs H2 => lower X.K cn s (g [] zs) H2 Q (fun c d H' => E c d σ H')) I ⟨pv, γ, _, G, fp, _, E0, m, q, ?_, px⟩) ?_) hpl
  · rintro rs ρ3 vs G3 H3 fp3 F3 ⟨es', ρ4, e4, q4⟩ s3 m3 o3
    obtain ⟨G4, fp4, s4, m4, r4, _⟩ := tkFL_ok m3 o3 (fun _ z => z) e4
    exact kw_go hg po px (s3.trans s4) m4 .nil r4 q4
  · rintro ws s2 ⟨zs, H2, I2, rz, q2⟩
    refine ⟨I2.kIn, ?_⟩
    rw [hks]
    exact run_kw (us := []) F hr hb (passAt tks σ) I2 .nil rz q2
end

/-! ### a def's rule -/
section
variable {P : Program} {w : World} {K : PySem.W.Frag} {mg : Str → Option Value} {base : Heap} {cn : String → Addr}
theorem lenD {s : SpD} {n : Nat} (h : ∀ ds Q0 E0, s ds Q0 E0 → ds.length = n) : ∀ vs H Q E, lower K cn s vs H Q E → vs.length = n := fun vs H Q E ⟨G, ds, F, Q0, E0, _, r, q, _⟩ => by rw [r.len]; exact h ds Q0 E0 q
/-- the reading of a body keeps the promise -/
def Sem (s : SpD) (t : DS) (n : Nat) : Prop := ∀ ds Q0 E0, s ds Q0 E0 → t { nx := fun ρ => ∃ ds', finL 0 ds ρ = some ds' ∧ Q0 (.p .non) ds', rt := fun d ρ => ∃ ds', finL 0 ds ρ = some ds' ∧ Q0 d ds', ex := fun x ρ => ∃ ds', finL 0 ds ρ = some ds' ∧ E0 x ds' } (initE n ds)
def Ar (s : SpD) (n : Nat) : Prop := ∀ ds Q0 E0, s ds Q0 E0 → ds.length = n
/-- a def keeps its promise: the derivation of its body, the reading of it over deep values -/
theorem def_mk {x qual : Str} {st : Stmt} {f : Addr} {fd : FuncData} {N ps : List Str} {k n : Nat} {s : SpD} {t : DS} (F : Fun K x qual st f fd) (S : FnScope N ps (defScope st)) (hn : ps.length ≤ N.length) (hl : Ar s ps.length)
    (sem : Sem s t n) (hN : N.length = n)
    (der : ∀ (cdv : Value) (A : Around) (outer : List PySem.Env) (s : Shared) (H : Hp) (E : XK), Room k (A.deeper (envOfC qual (defScope st) s.heap.objs.size f cdv)) →
      JSs (cxOf (L2.CX P w) P w K mg base N qual (defScope st) f cdv A outer s H E) cn (fun c d _ H' => E c d H') (defBody st) t) : FnD P w K mg base cn (k + 1) f fd ps s :=
  F.okX S (lenD hl) fun cdv A outer sh H vs Q E hr h => ⟨_, der cdv A outer sh H E hr, def_ok hN (fun ds Q0 E0 q => by rw [hl ds Q0 E0 q, ← hN]; exact hn) sem h⟩
end

theorem lt_of {X : Cx} {i : Nat} (h : (X.N[i]?).isSome = true) : i < X.N.length := by
  cases e : X.N[i]? with
  | none => rw [e] at h; cases h
  | some x => exact (List.getElem?_eq_some_iff.mp e).1
/-- keywords in the parameters' order -/
def gP (p q : Nat) (ix : List Nat) {α : Type} (us ws : List α) : List α := if us.length = p ∧ ws.length = q then ix.flatMap (fun i => (us ++ ws)[i]?.toList) else []
theorem Paired.app {α β : Type} {R : α → β → Prop} : ∀ {a : List α} {b : List β} {c : List α} {d : List β}, Paired R a b → Paired R c d → Paired R (a ++ c) (b ++ d)
  | _, _, _, _, .nil, h => h
  | _, _, _, _, .cons h t, k => .cons h (Paired.app t k)
theorem Paired.getO {α β : Type} {R : α → β → Prop} : ∀ {a : List α} {b : List β} (i : Nat), Paired R a b → Paired R a[i]?.toList b[i]?.toList
  | _, _, _, .nil => by simp; exact .nil
  | _, _, 0, .cons h t => by simp; exact .cons h .nil
  | _, _, i + 1, .cons h t => by simpa using Paired.getO i t
theorem gP_ok {p q : Nat} {ix : List Nat} : GOk (gP p q ix) := by
  intro α β R a b c d h1 h2
  show Paired R (gP p q ix a c) (gP p q ix b d)
  unfold gP
  rw [h1.length, h2.length]
  split
  · have h := Paired.app h1 h2
    clear h1 h2
    induction ix with
    | nil => exact .nil
    | cons i r ih =>
      rw [List.flatMap_cons, List.flatMap_cons]
      exact Paired.app (Paired.getO i h) ih
  · exact .nil
theorem gP_len {p q n : Nat} {ix : List Nat} {α : Type} {us ws : List α} (h : (gP p q ix us ws).length = n + 1) : us.length = p ∧ ws.length = q := by
  unfold gP at h
  split at h
  · assumption
  · cases h
section
variable {α : Type} {l : List α}
theorem ll0 (h : l.length = 0) : l = [] := List.eq_nil_of_length_eq_zero h
theorem ll1 (h : l.length = 1) : ∃ a, l = [a] := List.length_eq_one_iff.mp h
theorem llS {n : Nat} (h : l.length = n + 1) : ∃ a r, l = a :: r ∧ r.length = n := by
  cases l with
  | nil => cases h
  | cons a r => exact ⟨a, r, rfl, by simpa using h⟩
theorem ll2 (h : l.length = 2) : ∃ a b, l = [a, b] := by
  obtain ⟨a, r, rfl, g⟩ := llS h
  obtain ⟨b, rfl⟩ := ll1 g
  exact ⟨a, b, rfl⟩
end
end DL
/-! DL10: operators and built-ins over deep values. -/
namespace DL
open PySem L2

/-! ### short names -/
abbrev D.non : D := .p .non
abbrev D.bl (b : Bool) : D := .p (.bl b)
abbrev D.int (i : Int) : D := .p (.int i)
abbrev D.str (x : Str) : D := .p (.str x)
abbrev D.lst (ds : List D) : D := .n false .lst ds
abbrev D.own (ds : List D) : D := .n true .lst ds
abbrev D.tup (ds : List D) : D := .n false .tup ds

section
variable {K : PySem.W.Frag} {G H : Hp}
theorem Fin.p {Q0 : D → Prop} {Q : VK} {x : V} (h : Fin K G H Q0 Q) (s : Sub G H) (q : Q0 (.p x)) : Q x H :=
  h (.p x) x G H [] q ((Stp.refl _ _ _).mono (fun _ z => z) fun _ z => by cases z) s (Rp.p x)
/-- a new list of shared things -/
theorem Fin.lst {Q0 : D → Prop} {Q : VK} {vs : List V} {ds : List D} {p : Addr} (h : Fin K G H Q0 Q) (s : Sub G H) (r : RpL K G H vs ds []) (hp : H p = none) (q : Q0 (.own ds)) : Q (.ref p) (L2.upd H p (.lst vs)) := by
  have hg : G p = none := by
    cases e : G p with
    | none => rfl
    | some o => rw [s p o e] at hp; cases hp
  refine h (.own ds) (.ref p) G (L2.upd H p (.lst vs)) [p] q ⟨fun _ _ z => z, fun a o z _ => by rw [upd_ne (ne_of_none z hp)]; exact z, fun _ _ _ z _ => z, fun a z => .inr (by rw [List.mem_singleton.mp z]; exact hp)⟩ (s.upd hp) ?_
  exact Rp.o hg upd_same (by simp) (r.mov0 fun _ _ z => z)
/-- a new tuple of shared things -/
theorem Fin.tup {Q0 : D → Prop} {Q : VK} {vs : List V} {ds : List D} {p : Addr} (h : Fin K G H Q0 Q) (s : Sub G H) (r : RpL K G H vs ds []) (hp : H p = none) (q : Q0 (.tup ds)) : Q (.ref p) (L2.upd H p (.tup vs)) := by
  have sn := Stp.newG (P := fun _ => False) (o := .tup vs) hp s
  exact h (.tup ds) (.ref p) _ _ [] q (sn.mono (fun _ z => z) fun _ z => by cases z) (s.updG hp) (Rp.f upd_same (r.mov0 sn.g))
theorem Rp.shared {v : V} {d : D} {F : List Addr} (r : Rp K G H v d F) (h : d.isFz = true) : Rp K G H v d [] := by
  have := Rp.foot0 d r h
  subst this
  exact r
theorem RpL.shared {vs : List V} {ds : List D} {F : List Addr} (r : RpL K G H vs ds F) (h : isFzL ds = true) : RpL K G H vs ds [] := by
  have := RpL.foot0 ds r h
  subst this
  exact r
/-- a list, read -/
theorem Rp.list {v : V} {o : Bool} {ds : List D} {F : List Addr} (s : Sub G H) (r : Rp K G H v (.n o .lst ds) F) : ∃ a vs F', v = .ref a ∧ H a = some (.lst vs) ∧ RpL K G H vs ds F' := by
  cases r with
  | @f a _ vs _ F h1 h2 => exact ⟨a, vs, F, rfl, s _ _ h1, h2⟩
  | @o a _ vs _ F h0 h1 h3 h2 => exact ⟨a, vs, F, rfl, h1, h2⟩
theorem Rp.lok {v : V} {o : Bool} {ds : List D} {F : List Addr} (s : Sub G H) (r : Rp K G H v (.n o .lok ds) F) : ∃ a vs F', v = .ref a ∧ SqL K H a vs ∧ RpL K G H vs ds F' := by
  cases r with
  | @f a _ vs _ F h1 h2 => exact ⟨a, vs, F, rfl, SqL.mono s h1, h2⟩
  | @o a _ vs _ F h0 h1 h3 h2 => exact h1.elim
theorem Rp.tupl {v : V} {o : Bool} {ds : List D} {F : List Addr} (s : Sub G H) (r : Rp K G H v (.n o .tup ds) F) : ∃ a vs F', v = .ref a ∧ H a = some (.tup vs) ∧ RpL K G H vs ds F' := by
  cases r with
  | @f a _ vs _ F h1 h2 => exact ⟨a, vs, F, rfl, s _ _ h1, h2⟩
  | @o a _ vs _ F h0 h1 h3 h2 => exact h1.elim
theorem Rp.tok {v : V} {o : Bool} {ds : List D} {F : List Addr} (s : Sub G H) (r : Rp K G H v (.n o .tok ds) F) : ∃ a vs F', v = .ref a ∧ SqT K H a vs ∧ RpL K G H vs ds F' := by
  cases r with
  | @f a _ vs _ F h1 h2 => exact ⟨a, vs, F, rfl, SqT.mono s h1, h2⟩
  | @o a _ vs _ F h0 h1 h3 h2 => exact h1.elim
theorem tq {H : Hp} {a : Addr} {vs : List V} (h : H a = some (.tup vs)) : SqT K H a vs := .inl (.inl h)
theorem Rp.seq {v : V} {d : D} {cs : List D} {F : List Addr} (s : Sub G H) (r : Rp K G H v d F) (e : itemsOf d = some cs) : ∃ a vs F', v = .ref a ∧ (SqL K H a vs ∨ SqT K H a vs) ∧ RpL K G H vs cs F' := by
  cases d with
  | p _ => simp only [itemsOf] at e; cases e
  | n o k ch =>
    cases k with
    | lst => simp only [itemsOf, Option.some.injEq] at e; subst e; obtain ⟨a, vs, F', h1, h2, h3⟩ := r.list s; exact ⟨a, vs, F', h1, .inl (.inl (.inl h2)), h3⟩
    | lok => simp only [itemsOf, Option.some.injEq] at e; subst e; obtain ⟨a, vs, F', h1, h2, h3⟩ := r.lok s; exact ⟨a, vs, F', h1, .inl h2, h3⟩
    | tup => simp only [itemsOf, Option.some.injEq] at e; subst e; obtain ⟨a, vs, F', h1, h2, h3⟩ := r.tupl s; exact ⟨a, vs, F', h1, .inr (tq h2), h3⟩
    | tok => simp only [itemsOf, Option.some.injEq] at e; subst e; obtain ⟨a, vs, F', h1, h2, h3⟩ := r.tok s; exact ⟨a, vs, F', h1, .inr h2, h3⟩
    | dic _ => simp only [itemsOf] at e; cases e
    | dit _ => simp only [itemsOf] at e; cases e
    | obj _ _ => simp only [itemsOf] at e; cases e
    | exc _ _ => simp only [itemsOf] at e; cases e
theorem Rp.listOf {v : V} {d : D} {cs : List D} {F : List Addr} (s : Sub G H) (r : Rp K G H v d F) (e : listOf d = some cs) : ∃ a vs F', v = .ref a ∧ SqL K H a vs ∧ RpL K G H vs cs F' := by
  cases d with
  | p _ => simp only [DL.listOf] at e; cases e
  | n o k ch =>
    cases k with
    | lst => simp only [DL.listOf, Option.some.injEq] at e; subst e; obtain ⟨a, vs, F', h1, h2, h3⟩ := r.list s; exact ⟨a, vs, F', h1, .inl (.inl h2), h3⟩
    | lok => simp only [DL.listOf, Option.some.injEq] at e; subst e; obtain ⟨a, vs, F', h1, h2, h3⟩ := r.lok s; exact ⟨a, vs, F', h1, h2, h3⟩
    | tup => simp only [DL.listOf] at e; cases e
    | tok => simp only [DL.listOf] at e; cases e
    | dic _ => simp only [DL.listOf] at e; cases e
    | dit _ => simp only [DL.listOf] at e; cases e
    | obj _ _ => simp only [DL.listOf] at e; cases e
    | exc _ _ => simp only [DL.listOf] at e; cases e
theorem RpL.prims {vs xs : List V} {F : List Addr} (r : RpL K G H vs (xs.map D.p) F) : vs = xs := by
  induction xs generalizing vs F with
  | nil => cases r; rfl
  | cons x xs ih =>
    rw [List.map_cons] at r
    cases r with
    | cons h1 h2 h3 =>
      cases h1
      rw [ih h2]
theorem RpL.of_prims : ∀ {xs : List V}, RpL K G H xs (xs.map D.p) []
  | [] => .nil
  | x :: xs => by
    have := RpL.cons (F := []) (F' := []) (Rp.p (K := K) (G := G) (H := H) x) (RpL.of_prims (xs := xs)) fun a z => by cases z
    exact this
end

/-! ### == -/
mutual
def toPy : D → PyData
  | .p .non => .none
  | .p (.bl b) => .bool b
  | .p (.int i) => .int i
  | .p (.str x) => .str x
  | .p _ => .dict []
  | .n _ .lst ch => .list (toPyL ch)
  | .n _ .lok ch => .list (toPyL ch)
  | .n _ .tup ch => .tuple (toPyL ch)
  | .n _ .tok ch => .tuple (toPyL ch)
  | .n _ _ _ => .dict []
def toPyL : List D → List PyData
  | [] => []
  | d :: ds => toPy d :: toPyL ds
end
def eqD (d e : D) : Bool := PyData.eqv (toPy d) (toPy e)
def okD (d : D) : Bool := (toPy d).plain && decide ((toPy d).depth ≤ 64)
section
variable {K : PySem.W.Frag} {G H : Hp}
mutual
theorem Rp.dp (s : Sub G H) : ∀ {v : V} (d : D) {F : List Addr}, Rp K G H v d F → (toPy d).plain = true → Dp K H v (toPy d)
  | _, .p .non, _, h, _ => by cases h; simp only [toPy]; exact Dp.non
  | _, .p (.bl b), _, h, _ => by cases h; simp only [toPy]; exact Dp.bl b
  | _, .p (.int i), _, h, _ => by cases h; simp only [toPy]; exact Dp.int i
  | _, .p (.str x), _, h, _ => by cases h; simp only [toPy]; exact Dp.str x
  | _, .p (.byt x), _, h, c => by simp [toPy, PyData.plain] at c
  | _, .p (.flt x), _, h, c => by simp [toPy, PyData.plain] at c
  | _, .p (.ref x), _, h, c => by simp [toPy, PyData.plain] at c
  | _, .p (.ty x), _, h, c => by simp [toPy, PyData.plain] at c
  | _, .n o .lst ch, _, h, c => by
    obtain ⟨a, vs, F', rfl, h1, h2⟩ := h.list s
    simp only [toPy, PyData.plain] at c ⊢
    exact Dp.lst (.inl (.inl h1)) (RpL.dp s ch h2 c)
  | _, .n o .lok ch, _, h, c => by
    obtain ⟨a, vs, F', rfl, h1, h2⟩ := h.lok s
    simp only [toPy, PyData.plain] at c ⊢
    exact Dp.lst h1 (RpL.dp s ch h2 c)
  | _, .n o .tup ch, _, h, c => by
    obtain ⟨a, vs, F', rfl, h1, h2⟩ := h.tupl s
    simp only [toPy, PyData.plain] at c ⊢
    exact Dp.tup (tq h1) (RpL.dp s ch h2 c)
  | _, .n o .tok ch, _, h, c => by
    obtain ⟨a, vs, F', rfl, h1, h2⟩ := h.tok s
    simp only [toPy, PyData.plain] at c ⊢
    exact Dp.tup h1 (RpL.dp s ch h2 c)
  | _, .n o (.dic _) ch, _, h, c => by simp [toPy, PyData.plain] at c
  | _, .n o (.dit _) ch, _, h, c => by simp [toPy, PyData.plain] at c
  | _, .n o (.obj _ _) ch, _, h, c => by simp [toPy, PyData.plain] at c
  | _, .n o (.exc _ _) ch, _, h, c => by simp [toPy, PyData.plain] at c
theorem RpL.dp (s : Sub G H) : ∀ {vs : List V} (ds : List D) {F : List Addr}, RpL K G H vs ds F → PyData.plainAll (toPyL ds) = true → DpAll K H vs (toPyL ds)
  | _, [], _, h, _ => by cases h; simp only [toPyL]; exact DpAll.nil
  | _, d :: ds, _, h, c => by
    simp only [toPyL, PyData.plainAll, Bool.and_eq_true] at c ⊢
    cases h with
    | cons h1 h2 h3 => exact DpAll.cons (Rp.dp s d h1 c.1) (RpL.dp s ds h2 c.2)
end
theorem Rp.dpO {v : V} {d : D} {F : List Addr} (s : Sub G H) (r : Rp K G H v d F) (h : okD d = true) : Dp K H v (toPy d) := Rp.dp s d r (by unfold okD at h; rw [Bool.and_eq_true] at h; exact h.1)
end
theorem okD_dep {d : D} (h : okD d = true) : (toPy d).plain = true ∧ (toPy d).depth ≤ 64 := by
  unfold okD at h
  rw [Bool.and_eq_true] at h
  exact ⟨h.1, of_decide_eq_true h.2⟩
def qEq : Op2 := fun d e Q => (okD d = true ∧ okD e = true) ∧ Q (.bl (eqD d e))
def qNe : Op2 := fun d e Q => (okD d = true ∧ okD e = true) ∧ Q (.bl (!eqD d e))
/-- plain data -/
def Pl (d : PyData) : Prop := d.plain = true ∧ d.depth ≤ 64
def rEqP (K : PySem.W.Frag) : R2 := fun x y H Q => ∃ d e, Dp K H x d ∧ Dp K H y e ∧ Pl d ∧ Pl e ∧ Q (.bl (PyData.eqv d e)) H
def rNeP (K : PySem.W.Frag) : R2 := fun x y H Q => ∃ d e, Dp K H x d ∧ Dp K H y e ∧ Pl d ∧ Pl e ∧ Q (.bl (!PyData.eqv d e)) H
def inB (neg : Bool) (ds : List PyData) (d : PyData) : Bool := if neg = true then !ds.any (fun y => PyData.eqv y d) else ds.any fun y => PyData.eqv y d
def rInP (K : PySem.W.Frag) (neg : Bool) : R2 := fun x y H Q => ∃ d ds, Dp K H x d ∧ (Dp K H y (.list ds) ∨ Dp K H y (.tuple ds)) ∧ Pl d ∧ PyData.plainAll ds = true ∧ Q (.bl (inB neg ds d)) H
section
variable {X : Cx}
theorem o_eq (hu : X.A.units + 65 < cLine) : OpR X (compareOp .Eq) (rEqP X.K) := by
  intro pins s σ H x y v u Q I rx ry ⟨d, e, hd, he, sd, se, q⟩
  obtain ⟨as, r1⟩ := Dp.reads I d x v hd rx
  obtain ⟨bs, r2⟩ := Dp.reads I e y u he ry
  refine SeqAt.eq_plain r1 r2 sd.1 se.1 ?_ ⟨.bl _, H, I, rfl, q⟩
  have := sd.2
  have := se.2
  omega
theorem o_ne (hu : X.A.units + 65 < cLine) : OpR X (compareOp .NotEq) (rNeP X.K) := by
  intro pins s σ H x y v u Q I rx ry ⟨d, e, hd, he, sd, se, q⟩
  obtain ⟨as, r1⟩ := Dp.reads I d x v hd rx
  obtain ⟨bs, r2⟩ := Dp.reads I e y u he ry
  refine SeqAt.ne_plain r1 r2 sd.1 se.1 ?_ ⟨.bl _, H, I, rfl, q⟩
  have := sd.2
  have := se.2
  omega
theorem o_inP (hu : X.A.units + 65 < cLine) : OpR X (compareOp .In) (rInP X.K false) := by
  intro pins s σ H x y v u Q I rx ry ⟨d, ds, hd, he, sd, se, q⟩
  obtain ⟨as, r1⟩ := Dp.reads I d x v hd rx
  have hr : X.A.units + 1 + min (PyData.depthAll ds) d.depth < cLine := by
    have := sd.2
    omega
  rcases he with he | he
  · obtain ⟨bs, r2⟩ := Dp.reads I _ y u he ry
    exact SeqAt.in_list_data r2 r1 se sd.1 hr ⟨.bl _, H, I, rfl, q⟩
  · obtain ⟨bs, r2⟩ := Dp.reads I _ y u he ry
    exact SeqAt.in_tuple_data r2 r1 se sd.1 hr ⟨.bl _, H, I, rfl, q⟩
end
section
variable {X : Cx}
theorem s_eq {K : PySem.W.Frag} : Sem2 K (rEqP K) qEq := fun G H v u d e F1 F2 Q0 Q s r1 r2 ⟨⟨h1, h2⟩, q⟩ fin => ⟨_, _, r1.dpO s h1, r2.dpO s h2, okD_dep h1, okD_dep h2, fin.p s q⟩
theorem s_ne {K : PySem.W.Frag} : Sem2 K (rNeP K) qNe := fun G H v u d e F1 F2 Q0 Q s r1 r2 ⟨⟨h1, h2⟩, q⟩ fin => ⟨_, _, r1.dpO s h1, r2.dpO s h2, okD_dep h1, okD_dep h2, fin.p s q⟩

/-! ### numbers, order -/
def strLt (x y : Str) : Bool := decide (x.cps.toList < y.cps.toList)
def qCmp (f : Int → Int → Bool) (g : Str → Str → Bool) : Op2
  | .p (.int i), .p (.int j), Q => Q (.bl (f i j))
  | .p (.str x), .p (.str y), Q => Q (.bl (g x y))
  | _, _, _ => False
def qLt : Op2 := qCmp (fun i j => decide (i < j)) fun x y => strLt x y
def qLe : Op2 := qCmp (fun i j => decide (i ≤ j)) fun x y => !strLt y x
def qGt : Op2 := qCmp (fun i j => decide (j < i)) fun x y => strLt y x
def qGe : Op2 := qCmp (fun i j => decide (j ≤ i)) fun x y => !strLt x y
theorem s_cmp {K : PySem.W.Frag} {f : Int → Int → Bool} {g : Str → Str → Bool} : Sem2 K (fun x y H Q => rI0 (fun i j => .bl (f i j)) x y H Q ∨ ∃ i j, x = .str i ∧ y = .str j ∧ Q (.bl (g i j)) H) (qCmp f g) := by
  intro G H v u d e F1 F2 Q0 Q s r1 r2 q fin
  unfold qCmp at q
  split at q
  · cases r1; cases r2; exact .inl ⟨_, _, rfl, rfl, fin.p s q⟩
  · cases r1; cases r2; exact .inr ⟨_, _, rfl, rfl, fin.p s q⟩
  · exact q.elim
theorem o_lt : OpR X (compareOp .Lt) (fun x y H Q => rI0 (fun i j => .bl (decide (i < j))) x y H Q ∨ ∃ i j, x = .str i ∧ y = .str j ∧ Q (.bl (strLt i j)) H) := op_lt.or op_lt_str
theorem o_le : OpR X (compareOp .LtE) (fun x y H Q => rI0 (fun i j => .bl (decide (i ≤ j))) x y H Q ∨ ∃ i j, x = .str i ∧ y = .str j ∧ Q (.bl (!strLt j i)) H) := op_le.or op_le_str
theorem o_gt : OpR X (compareOp .Gt) (fun x y H Q => rI0 (fun i j => .bl (decide (j < i))) x y H Q ∨ ∃ i j, x = .str i ∧ y = .str j ∧ Q (.bl (strLt j i)) H) := op_gt.or op_gt_str
theorem o_ge : OpR X (compareOp .GtE) (fun x y H Q => rI0 (fun i j => .bl (decide (j ≤ i))) x y H Q ∨ ∃ i j, x = .str i ∧ y = .str j ∧ Q (.bl (!strLt i j)) H) := op_ge.or op_ge_str
def qAdd : Op2
  | .p (.int i), .p (.int j), Q => Q (.int (i + j))
  | .p (.str x), .p (.str y), Q => x.length + y.length ≤ 100000 ∧ Q (.str (x ++ y))
  | .n _ .lst xs, .n _ .lst ys, Q => (isFzL xs && isFzL ys) = true ∧ xs.length + ys.length ≤ 100000 ∧ Q (.own (xs ++ ys))
  | .n _ .tup xs, .n _ .tup ys, Q => (isFzL xs && isFzL ys) = true ∧ xs ≠ [] ∧ ys ≠ [] ∧ xs.length + ys.length ≤ 100000 ∧ Q (.tup (xs ++ ys))
  | _, _, _ => False
def rAddD (K : PySem.W.Frag) : R2 := fun x y H Q => (((rI0 (fun i j => .int (i + j)) x y H Q ∨ ∃ i j, x = .str i ∧ y = .str j ∧ i.length + j.length ≤ sizeLine ∧ Q (.str (i ++ j)) H) ∨ rCat x y H Q) ∨ rCatT K x y H Q)
theorem o_add : OpR X (binaryOp .Add) (rAddD X.K) := ((op_add.or op_add_str).or op_cat).or op_catT
theorem s_add {K : PySem.W.Frag} : Sem2 K (rAddD K) qAdd := by
  intro G H v u d e F1 F2 Q0 Q s r1 r2 q fin
  unfold qAdd at q
  split at q
  · cases r1; cases r2; exact .inl (.inl (.inl ⟨_, _, rfl, rfl, fin.p s q⟩))
  · cases r1; cases r2; exact .inl (.inl (.inr ⟨_, _, rfl, rfl, size_of q.1, fin.p s q.2⟩))
  · obtain ⟨q1, q2, q3⟩ := q
    simp only [Bool.and_eq_true] at q1
    obtain ⟨a, vs, F, rfl, h1, h2⟩ := r1.list s
    obtain ⟨b, ws, F', rfl, h3, h4⟩ := r2.list s
    refine .inl (.inr ⟨a, b, vs, ws, rfl, rfl, h1, h3, by rw [h2.len, h4.len]; exact size_of q2, fun p hp => fin.lst s ?_ hp q3⟩)
    have := (h2.shared q1.1).app (h4.shared q1.2) fun a z => by cases z
    exact this
  · obtain ⟨q1, n1, n2, q2, q3⟩ := q
    simp only [Bool.and_eq_true] at q1
    obtain ⟨a, vs, F, rfl, h1, h2⟩ := r1.tupl s
    obtain ⟨b, ws, F', rfl, h3, h4⟩ := r2.tupl s
    have e1 : vs ≠ [] := fun z => n1 (List.eq_nil_of_length_eq_zero (by rw [← h2.len, z]; rfl))
    have e2 : ws ≠ [] := fun z => n2 (List.eq_nil_of_length_eq_zero (by rw [← h4.len, z]; rfl))
    refine .inr ⟨a, b, vs, ws, rfl, rfl, tq h1, tq h3, e1, by rw [h2.len, h4.len]; exact size_of q2, fun z => absurd z e2, fun _ p hp => fin.tup s ?_ hp q3⟩
    have := (h2.shared q1.1).app (h4.shared q1.2) fun a z => by cases z
    exact this
  · exact q.elim
def qI (C : Int → Int → Prop) (g : Int → Int → Int) : Op2
  | .p (.int i), .p (.int j), Q => C i j ∧ Q (.int (g i j))
  | _, _, _ => False
theorem s_I {K : PySem.W.Frag} {C : Int → Int → Prop} {g : Int → Int → Int} : Sem2 K (rI C fun i j => .int (g i j)) (qI C g) := by
  intro G H v u d e F1 F2 Q0 Q s r1 r2 q fin
  unfold qI at q
  split at q
  · cases r1; cases r2; exact ⟨_, _, rfl, rfl, q.1, fin.p s q.2⟩
  · exact q.elim
theorem s_I0 {K : PySem.W.Frag} {g : Int → Int → Int} : Sem2 K (rI0 fun i j => .int (g i j)) (qI (fun _ _ => True) g) := by
  intro G H v u d e F1 F2 Q0 Q s r1 r2 q fin
  unfold qI at q
  split at q
  · cases r1; cases r2; exact ⟨_, _, rfl, rfl, fin.p s q.2⟩
  · exact q.elim
def qSub : Op2 := qI (fun _ _ => True) fun i j => i - j
def qMul : Op2 := qI CMul fun i j => i * j
def qMod : Op2 := qI (fun _ j => 0 < j) fun i j => i % j
def qDiv : Op2 := qI (fun _ j => 0 < j ∧ j < 2 ^ 128) fun i j => i / j
def qPow : Op2 := qI CPow fun i j => i ^ j.toNat
theorem s_div {K : PySem.W.Frag} : Sem2 K (rI CDivW fun i j => .int (i / j)) qDiv := by
  intro G H v u d e F1 F2 Q0 Q s r1 r2 q fin
  unfold qDiv qI at q
  split at q
  · cases r1; cases r2
    obtain ⟨⟨h1, h2⟩, q⟩ := q
    exact ⟨_, _, rfl, rfl, wide_div (b := 128) h1 (by omega) (by decide) (by decide), fin.p s q⟩
  · exact q.elim
def qNeg : D → (D → Prop) → Prop
  | .p (.int i), Q => Q (.int (-i))
  | _, _ => False
theorem s_neg {K : PySem.W.Frag} : Sem1 K (rU fun i => .int (-i)) qNeg := by
  intro G H v d F1 Q0 Q s r1 q fin
  unfold qNeg at q
  split at q
  · cases r1; exact ⟨_, rfl, fin.p s q⟩
  · exact q.elim

/-! ### is None -/
def isNon : D → Bool
  | .p .non => true
  | _ => false
def qIsN : Op2 := fun d e Q => e = .non ∧ Q (.bl (isNon d))
def qNotN : Op2 := fun d e Q => e = .non ∧ Q (.bl (!isNon d))
theorem rp_non {K : PySem.W.Frag} {G H : Hp} {v : V} {d : D} {F : List Addr} (r : Rp K G H v d F) : decide (v = .non) = isNon d := by
  cases r with
  | p v => cases v <;> simp [isNon]
  | f h1 h2 => simp [isNon]
  | o h0 h1 h3 h2 => simp [isNon]
theorem s_notN {K : PySem.W.Frag} : Sem2 K (fun x y H Q => y = .non ∧ Q (.bl (!decide (x = .non))) H) qNotN := by
  intro G H v u d e F1 F2 Q0 Q s r1 r2 ⟨q1, q⟩ fin
  subst q1
  cases r2
  refine ⟨rfl, ?_⟩
  rw [rp_non r1]
  exact fin.p s q

/-! ### in -/
def inD (d : D) (ds : List D) : Bool := ds.any fun e => eqD e d
def seqK : Kd → Bool
  | .lst => true
  | .lok => true
  | .tup => true
  | .tok => true
  | _ => false
def qIn (neg : Bool) : Op2 := fun d e Q => match e with
  | .n _ k ch => (seqK k = true ∧ okD d = true ∧ okD e = true) ∧ Q (.bl (if neg = true then !inD d ch else inD d ch))
  | _ => False
theorem in_any (d : D) : ∀ ch : List D, (toPyL ch).any (fun y => PyData.eqv y (toPy d)) = inD d ch
  | [] => rfl
  | c :: cs => by
    unfold inD
    rw [toPyL, List.any_cons, List.any_cons, in_any d cs]
    rfl
theorem s_in {K : PySem.W.Frag} {neg : Bool} : Sem2 K (rInP K neg) (qIn neg) := by
  intro G H v u d e F1 F2 Q0 Q s r1 r2 q fin
  unfold qIn at q
  split at q
  · rename_i o k ch
    obtain ⟨⟨hk, hd, hc⟩, q⟩ := q
    have hp := r2.dpO s hc
    have hq := (okD_dep hc).1
    have : ∃ ds, ds = toPyL ch ∧ (Dp K H u (.list ds) ∨ Dp K H u (.tuple ds)) ∧ PyData.plainAll ds = true := by
      cases k with
      | lst => rw [toPy] at hp hq; exact ⟨_, rfl, .inl hp, by rwa [PyData.plain] at hq⟩
      | lok => rw [toPy] at hp hq; exact ⟨_, rfl, .inl hp, by rwa [PyData.plain] at hq⟩
      | tup => rw [toPy] at hp hq; exact ⟨_, rfl, .inr hp, by rwa [PyData.plain] at hq⟩
      | tok => rw [toPy] at hp hq; exact ⟨_, rfl, .inr hp, by rwa [PyData.plain] at hq⟩
      | dic _ => cases hk
      | dit _ => cases hk
      | obj _ _ => cases hk
      | exc _ _ => cases hk
    obtain ⟨ds, rfl, h1, h2⟩ := this
    refine ⟨_, _, r1.dpO s hd, h1, okD_dep hd, h2, ?_⟩
    unfold inB
    rw [in_any]
    exact fin.p s q
  · exact q.elim
end

/-! ### subscripts -/
def atD (ds : List D) (i : Int) : Option D := atI ds i
def qIx : Op2 := fun d e Q => match d, e with
  | .n _ .lst ch, .p (.int i) => ∃ c, atI ch i = some c ∧ c.isFz = true ∧ Q c
  | .n _ .lok ch, .p (.int i) => ∃ c, atI ch i = some c ∧ c.isFz = true ∧ Q c
  | .n _ .tup ch, .p (.int i) => ∃ c, atI ch i = some c ∧ c.isFz = true ∧ Q c
  | .n _ .tok ch, .p (.int i) => ∃ c, atI ch i = some c ∧ c.isFz = true ∧ Q c
  | .p (.str x), .p (.int i) => x.length ≤ 100000 ∧ ∃ c, atI x.cps.toList i = some c ∧ Q (.str ⟨#[c]⟩)
  | _, _ => False
theorem RpL.atI {K : PySem.W.Frag} {G H : Hp} {vs : List V} {ch : List D} {F : List Addr} {i : Int} {c : D} (r : RpL K G H vs ch F) (e : L2.atI ch i = some c) (hz : c.isFz = true) : ∃ x, L2.atI vs i = some x ∧ Rp K G H x c [] := by
  unfold L2.atI at e ⊢
  rw [r.len]
  cases hj : ixN ch.length i with
  | none => rw [hj] at e; cases e
  | some j =>
    rw [hj] at e
    obtain ⟨x, F', h1, h2, h3⟩ := RpL.get ch r e
    exact ⟨x, h1, h2.shared hz⟩
theorem Fin.old {K : PySem.W.Frag} {G H : Hp} {Q0 : D → Prop} {Q : VK} {x : V} {d : D} (h : Fin K G H Q0 Q) (s : Sub G H) (r : Rp K G H x d []) (q : Q0 d) : Q x H :=
  h d x G H [] q ((Stp.refl _ _ _).mono (fun _ z => z) fun _ z => by cases z) s r
section
variable {X : Cx} {cn : String → Addr} {E : WX} {a b : Expr} {pos : Pos} {ta tb : DE}
theorem s_ix {K : PySem.W.Frag} : Sem2 K (rIx K) qIx := by
  intro G H v u d e F1 F2 Q0 Q s r1 r2 q fin
  unfold qIx at q
  split at q
  · obtain ⟨c, e1, hz, q⟩ := q
    cases r2
    obtain ⟨a, vs, F', rfl, h1, h2⟩ := r1.list s
    obtain ⟨x, g1, g2⟩ := h2.atI e1 hz
    exact .inl ⟨a, vs, _, x, rfl, rfl, .inl (.inl h1), g1, fin.old s g2 q⟩
  · obtain ⟨c, e1, hz, q⟩ := q
    cases r2
    obtain ⟨a, vs, F', rfl, h1, h2⟩ := r1.lok s
    obtain ⟨x, g1, g2⟩ := h2.atI e1 hz
    exact .inl ⟨a, vs, _, x, rfl, rfl, h1, g1, fin.old s g2 q⟩
  · obtain ⟨c, e1, hz, q⟩ := q
    cases r2
    obtain ⟨a, vs, F', rfl, h1, h2⟩ := r1.tupl s
    obtain ⟨x, g1, g2⟩ := h2.atI e1 hz
    exact .inr (.inl ⟨a, vs, _, x, rfl, rfl, tq h1, g1, fin.old s g2 q⟩)
  · obtain ⟨c, e1, hz, q⟩ := q
    cases r2
    obtain ⟨a, vs, F', rfl, h1, h2⟩ := r1.tok s
    obtain ⟨x, g1, g2⟩ := h2.atI e1 hz
    exact .inr (.inl ⟨a, vs, _, x, rfl, rfl, h1, g1, fin.old s g2 q⟩)
  · obtain ⟨hl, c, e1, q⟩ := q
    cases r1; cases r2
    exact .inr (.inr ⟨_, _, c, rfl, rfl, size_of hl, e1, fin.p s q⟩)
  · exact q.elim
/-! ### slices -/
def dPart (te : DE) : Env → (Option Int → Env → Prop) → (Exn → Env → Prop) → Prop := fun ρ Q E => te ρ (fun r ρ1 => ∃ i, look ρ1 r = some (.p (.int i)) ∧ Q (some i) ρ1) E
def dNoPart : Env → (Option Int → Env → Prop) → (Exn → Env → Prop) → Prop := fun ρ Q _ => Q none ρ
abbrev DO := Env → (Option Int → Env → Prop) → (Exn → Env → Prop) → Prop
def PoO (K : PySem.W.Frag) (pv : Nat → V) (σ γ : St) (G H : Hp) (fp : Fps) (Q0 : Option Int → Env → Prop) (Q : Option Int → Hp → Prop) : Prop :=
  ∀ b ρ' G' H' fp', Q0 b ρ' → Stp G H (InF fp) G' H' (InF fp') → Mt K pv (σ ++ γ) ρ' G' H' fp' → Q b H'
def liftO (K : PySem.W.Frag) (cn : String → Addr) (E : WX) (t : DO) : TO := fun σ H Q => ∃ pv γ ρ G fp Q0 E0, Mt K pv (σ ++ γ) ρ G H fp ∧ t ρ Q0 E0 ∧ PoO K pv σ γ G H fp Q0 Q ∧ PoX K cn pv γ σ.length G H fp E0 E
abbrev JO (X : Cx) (cn : String → Addr) (E : WX) (e : Option Expr) (t : DO) : Prop := PO X e (liftO X.K cn E t)
theorem po_imp {X : Cx} {e : Option Expr} {t t' : TO} (h : PO X e t) (i : ∀ σ H Q, t' σ H Q → t σ H Q) : PO X e t' := ⟨fun pins s σ H Q I q => h.run pins s σ H Q I (i σ H Q q)⟩
theorem jo_none : JO X cn E none dNoPart := po_imp po_none fun σ H Q ⟨pv, γ, ρ, G, fp, Q0, E0, m, q, po, px⟩ => po none ρ G H fp q (Stp.refl _ _ _) m
theorem jo_some {e : Expr} {te : DE} (h : JE X cn E e te) : JO X cn E (some e) (dPart te) := po_imp (po_some h) fun σ H Q ⟨pv, γ, ρ, G, fp, Q0, E0, m, q, po, px⟩ =>
  ⟨pv, γ, ρ, G, fp, _, E0, m, q, fun r ρ1 v G1 H1 fp1 F1 ⟨i, l1, q1⟩ s1 m1 o1 => ⟨i, look_p m1 o1 l1, po (some i) ρ1 G1 H1 fp1 q1 (drop0 s1) m1⟩, px⟩
def cutD {α : Type} (xs : List α) (lo hi : Option Int) : List α := (xs.drop (HT.sIx xs.length 0 lo)).take (HT.sIx xs.length xs.length hi - HT.sIx xs.length 0 lo)
def qCut (lo hi : Option Int) : D → (D → Prop) → Prop
  | .n _ .lst ch, Q => isFzL (cutD ch lo hi) = true ∧ Q (.own (cutD ch lo hi))
  | .n _ .lok ch, Q => isFzL (cutD ch lo hi) = true ∧ Q (.own (cutD ch lo hi))
  | .p (.str x), Q => x.length ≤ 100000 ∧ Q (.str (cutS x lo hi))
  | _, _ => False
def dCut (te : DE) (tl th : DO) : DE := fun ρ Q E => te ρ (fun r ρ1 => tl ρ1 (fun lo ρ2 => th ρ2 (fun hi ρ3 => ∃ d, look ρ3 r = some d ∧ qCut lo hi d fun z => Q (.t z) ρ3) E) E) E
theorem RpL.drop {K : PySem.W.Frag} {G H : Hp} : ∀ {vs : List V} {ds : List D} {F : List Addr} (k : Nat), RpL K G H vs ds F → ∃ F', RpL K G H (vs.drop k) (ds.drop k) F' ∧ ∀ a ∈ F', a ∈ F
  | _, _, F, 0, h => ⟨F, h, fun _ z => z⟩
  | _, [], F, k + 1, h => by cases h; exact ⟨[], .nil, fun _ z => z⟩
  | _, d :: ds, F, k + 1, h => by
    cases h with
    | cons h1 h2 h3 =>
      obtain ⟨F', r, i⟩ := RpL.drop k h2
      exact ⟨F', r, fun a z => List.mem_append_right _ (i a z)⟩
theorem RpL.take {K : PySem.W.Frag} {G H : Hp} : ∀ {vs : List V} {ds : List D} {F : List Addr} (k : Nat), RpL K G H vs ds F → ∃ F', RpL K G H (vs.take k) (ds.take k) F' ∧ ∀ a ∈ F', a ∈ F
  | _, _, F, 0, h => ⟨[], .nil, fun _ z => by cases z⟩
  | _, [], F, k + 1, h => by cases h; exact ⟨[], .nil, fun _ z => z⟩
  | _, d :: ds, _, k + 1, h => by
    cases h with
    | cons h1 h2 h3 =>
      obtain ⟨F', r, i⟩ := RpL.take k h2
      refine ⟨_ ++ F', RpL.cons h1 r fun a z y => h3 a z (i a y), fun a z => ?_⟩
      rcases List.mem_append.mp z with z | z
      · exact List.mem_append_left _ z
      · exact List.mem_append_right _ (i a z)
theorem RpL.cut {K : PySem.W.Frag} {G H : Hp} {vs : List V} {ds : List D} {F : List Addr} (h : RpL K G H vs ds F) (lo hi : Option Int) (z : isFzL (cutD ds lo hi) = true) : RpL K G H (cutV vs lo hi) (cutD ds lo hi) [] := by
  unfold cutV
  unfold cutD at z ⊢
  rw [h.len]
  obtain ⟨F1, r1, _⟩ := h.drop (HT.sIx ds.length 0 lo)
  obtain ⟨F2, r2, _⟩ := r1.take (HT.sIx ds.length ds.length hi - HT.sIx ds.length 0 lo)
  exact r2.shared z
theorem je_cut {lo hi : Option Expr} {p2 : Pos} {tl th : DO} (ha : JE X cn E a ta) (hl : JO X cn E lo tl) (hh : JO X cn E hi th) : JE X cn E (.Subscript a (.Slice lo hi none p2) pos) (dCut ta tl th) := by
  refine pe_imp (pe_slice (sl_list.or sl_str) ha hl hh) ?_
  rintro σ H Q ⟨pv, γ, ρ, G, fp, Q0, E0, m, q, po, px⟩
  refine ⟨pv, γ, ρ, G, fp, _, E0, m, q, fun r ρ1 v G1 H1 fp1 F1 q1 s1 m1 o1 => ?_, px⟩
  refine ⟨pv, γ, ρ1, G1, fp1, _, E0, m1, q1, fun l ρ2 G2 H2 fp2 q2 s2 m2 => ?_, px.on s1⟩
  have o2 := o1.frame s2
  refine ⟨pv, γ, ρ2, G2, fp2, _, E0, m2, q2, fun h ρ3 G3 H3 fp3 ⟨d, l3, q3⟩ s3 m3 => ?_, (px.on s1).on0 s2⟩
  have o3 := o2.frame s3
  obtain ⟨A, rA, _⟩ := look_ok m3 o3 l3
  have s13 : Stp G H (InF fp) G3 H3 (fun a => InF fp3 a ∨ a ∈ F1) := s1.trans ((s2.trans s3).mono (fun _ z => .inl z) fun a z => z.elim .inl fun z => .inr (.inr z))
  have fin : Fin X.K G3 H3 (fun z => Q0 (.t z) ρ3) Q := fun z w' G4 H4 Fz qz s4 hs4 rz => by
    obtain ⟨f1, f2, f3⟩ := fin_new m3 s13 (fun a z => .inl z) s4 hs4
    exact po (.t z) ρ3 w' G4 H4 fp3 Fz qz f1 f2 ⟨rz, f3⟩
  unfold qCut at q3
  split at q3
  · obtain ⟨a', vs, F', rfl, h1, h2⟩ := rA.list m3.sub
    exact .inl ⟨a', vs, rfl, .inl (.inl h1), fun p hp => fin.lst m3.sub (h2.cut l h q3.1) hp q3.2⟩
  · obtain ⟨a', vs, F', rfl, h1, h2⟩ := rA.lok m3.sub
    exact .inl ⟨a', vs, rfl, h1, fun p hp => fin.lst m3.sub (h2.cut l h q3.1) hp q3.2⟩
  · cases rA
    exact .inr ⟨_, rfl, size_of q3.1, fin.p m3.sub q3.2⟩
  · exact q3.elim
end
end DL
/-! DL11: built-ins by name. -/
namespace DL
open PySem L2

abbrev OpL := List D → (D → Prop) → Prop
def lenD? : D → Option Nat
  | .n _ .lst ch => some ch.length
  | .n _ .lok ch => some ch.length
  | .n _ .tup ch => some ch.length
  | .n _ .tok ch => some ch.length
  | .n _ (.dic ks) _ => some ks.length
  | .p (.str x) => if x.length ≤ 100000 then some x.length else none
  | _ => none
def qLen : OpL := fun ds Q => ∃ d n, ds = [d] ∧ lenD? d = some n ∧ Q (.int (n : Nat))
def qList : OpL := fun ds Q => ∃ d ch, ds = [d] ∧ itemsOf d = some ch ∧ isFzL ch = true ∧ Q (.own ch)
def qTuple : OpL := fun ds Q => ∃ d ch, ds = [d] ∧ listOf d = some ch ∧ isFzL ch = true ∧ Q (.tup ch)
def intsOf : List D → Option (List Int)
  | [] => some []
  | .p (.int i) :: r => match intsOf r with
    | some is => some (i :: is)
    | none => none
  | _ => none
theorem intsOf_of (is : List Int) : intsOf (is.map fun i => D.p (.int i)) = some is := by
  induction is with
  | nil => rfl
  | cons i r ih => simp only [List.map_cons, intsOf, ih]
def blsOf : List D → Option (List Bool)
  | [] => some []
  | .p (.bl i) :: r => match blsOf r with
    | some is => some (i :: is)
    | none => none
  | _ => none
theorem blsOf_map : ∀ {ds : List D} {is : List Bool}, blsOf ds = some is → ds = is.map fun i => D.p (.bl i)
  | [], is, h => by simp only [blsOf, Option.some.injEq] at h; subst h; rfl
  | .p (.bl i) :: r, is, h => by
    simp only [blsOf] at h
    split at h
    · rename_i is' e
      cases h
      rw [List.map_cons, blsOf_map e]
    · cases h
  | .p .non :: r, is, h => by simp [blsOf] at h
  | .p (.int _) :: r, is, h => by simp [blsOf] at h
  | .p (.str _) :: r, is, h => by simp [blsOf] at h
  | .p (.byt _) :: r, is, h => by simp [blsOf] at h
  | .p (.flt _) :: r, is, h => by simp [blsOf] at h
  | .p (.ref _) :: r, is, h => by simp [blsOf] at h
  | .p (.ty _) :: r, is, h => by simp [blsOf] at h
  | .n _ _ _ :: r, is, h => by simp [blsOf] at h
theorem blsOf_of (is : List Bool) : blsOf (is.map fun i => D.p (.bl i)) = some is := by
  induction is with
  | nil => rfl
  | cons i r ih => simp only [List.map_cons, blsOf, ih]
def qAll : OpL := fun ds Q => ∃ d ch bs, ds = [d] ∧ listOf d = some ch ∧ blsOf ch = some bs ∧ Q (.bl (bs.all id))
def qAny : OpL := fun ds Q => ∃ d ch bs, ds = [d] ∧ listOf d = some ch ∧ blsOf ch = some bs ∧ Q (.bl (bs.any id))
/-- sorted of ints -/
def qSortI : OpL := fun ds Q => ∃ d ch is, ds = [d] ∧ listOf d = some ch ∧ intsOf ch = some is ∧ is.length ≤ 10000 ∧ ∀ is' : List Int, is'.Perm is → is'.Pairwise (· ≤ ·) → Q (.own (is'.map fun i => .p (.int i)))
def tyN : D → String
  | .p .non => "NoneType"
  | .p (.bl _) => "bool"
  | .p (.int _) => "int"
  | .p (.str _) => "str"
  | .n _ .lst _ => "list"
  | .n _ .lok _ => "list"
  | .n _ .tup _ => "tuple"
  | .n _ .tok _ => "tuple"
  | .n _ (.dic _) _ => "dict"
  | .n _ (.dit _) _ => "dict"
  | _ => "?"
def isiB (a b : String) : Bool := a == b || (a == "bool" && b == "int")
def tyKnown (a : String) : Bool := a == "NoneType" || a == "bool" || a == "int" || a == "str" || a == "list" || a == "tuple" || a == "dict"
def qIsi : OpL := fun ds Q => ∃ d n, ds = [d, .p (.ty n)] ∧ (tyKnown (tyN d) = true ∧ tyKnown n = true ∧ n ≠ "NoneType") ∧ Q (.bl (isiB (tyN d) n))
def qMax2 : OpL := fun ds Q => ∃ i j, ds = [.p (.int i), .p (.int j)] ∧ Q (.int (if j > i then j else i))
def qMin2 : OpL := fun ds Q => ∃ i j, ds = [.p (.int i), .p (.int j)] ∧ Q (.int (if j < i then j else i))
def qInt : OpL := fun ds Q => (∃ i, ds = [.p (.int i)] ∧ Q (.int i)) ∨ ∃ b, ds = [.p (.bl b)] ∧ Q (.int (if b = true then 1 else 0))
section
variable {K : PySem.W.Frag} {X : Cx}
theorem rps1 {G H : Hp} {vs : List V} {d : D} (r : Rps K G H vs [d]) : ∃ v F, vs = [v] ∧ Rp K G H v d F := by
  cases r with
  | cons h t =>
    cases t
    obtain ⟨F, h⟩ := h
    exact ⟨_, F, rfl, h⟩
theorem rps2 {G H : Hp} {vs : List V} {d e : D} (r : Rps K G H vs [d, e]) : ∃ v w F F', vs = [v, w] ∧ Rp K G H v d F ∧ Rp K G H w e F' := by
  cases r with
  | cons h t =>
    obtain ⟨w, F', rfl, h2⟩ := rps1 t
    obtain ⟨F, h⟩ := h
    exact ⟨_, w, F, F', rfl, h, h2⟩
def rLenD (K : PySem.W.Frag) : List V → Hp → VK → Prop := fun xs H Q => (∃ x n, xs = [x] ∧ LenV K x H n ∧ Q (.int n) H) ∨ ∃ a kvs, xs = [.ref a] ∧ Rd H a (.dK kvs) ∧ Q (.int kvs.length) H
theorem call_lenRd {X : Cx} : CallR X (.builtin "len") (fun xs H Q => ∃ a kvs, xs = [V.ref a] ∧ Rd H a (.dK kvs) ∧ Q (.int kvs.length) H) := by
  intro pins s σ H xs us Q I r h
  obtain ⟨a, kvs, rfl, ha, q⟩ := h
  obtain ⟨u, rfl, ru⟩ := vals1 r
  cases ru
  exact d_len I ha fun t s' I' => ⟨.int kvs.length, H, I', ⟨t, rfl⟩, q⟩
theorem o_len : CallR X (.builtin "len") (rLenD X.K) := call_len.or call_lenRd
theorem s_len : SemL X.K (rLenD X.K) qLen := by
  rintro G H vs ds Q0 Q s rs ⟨d, n, rfl, e, q⟩ fin
  obtain ⟨v, F, rfl, r⟩ := rps1 rs
  cases d with
  | p x =>
    cases x with
    | str y =>
      cases r
      simp only [lenD?] at e
      split at e
      · rename_i h
        cases e
        exact .inl ⟨.str y, _, rfl, ⟨size_of h, rfl⟩, fin.p s q⟩
      · cases e
    | non => simp [lenD?] at e
    | bl _ => simp [lenD?] at e
    | int _ => simp [lenD?] at e
    | byt _ => simp [lenD?] at e
    | flt _ => simp [lenD?] at e
    | ref _ => simp [lenD?] at e
    | ty _ => simp [lenD?] at e
  | n o k ch =>
    cases k with
    | lst =>
      simp only [lenD?, Option.some.injEq] at e
      obtain ⟨a, vs, F', rfl, h1, h2⟩ := r.list s
      exact .inl ⟨_, n, rfl, .inl ⟨vs, .inl (.inl h1), by rw [← e]; exact h2.len.symm⟩, fin.p s q⟩
    | lok =>
      simp only [lenD?, Option.some.injEq] at e
      obtain ⟨a, vs, F', rfl, h1, h2⟩ := r.lok s
      exact .inl ⟨_, n, rfl, .inl ⟨vs, h1, by rw [← e]; exact h2.len.symm⟩, fin.p s q⟩
    | tup =>
      simp only [lenD?, Option.some.injEq] at e
      obtain ⟨a, vs, F', rfl, h1, h2⟩ := r.tupl s
      exact .inl ⟨_, n, rfl, .inr ⟨vs, tq h1, by rw [← e]; exact h2.len.symm⟩, fin.p s q⟩
    | tok =>
      simp only [lenD?, Option.some.injEq] at e
      obtain ⟨a, vs, F', rfl, h1, h2⟩ := r.tok s
      exact .inl ⟨_, n, rfl, .inr ⟨vs, h1, by rw [← e]; exact h2.len.symm⟩, fin.p s q⟩
    | dic ks =>
      simp only [lenD?, Option.some.injEq] at e
      have key : ∀ {a : Addr} {vs : List V}, ks.length = vs.length → Rd H a (.dK (ks.zip vs)) → rLenD X.K [.ref a] H Q := fun {a vs} h1 h2 => by
        refine .inr ⟨a, _, rfl, h2, ?_⟩
        rw [List.length_zip, ← h1, Nat.min_self, e]
        exact fin.p s q
      cases r with
      | f h1 h2 => exact key h1.1 (Rd.mono s h1.2)
      | o h0 h1 h3 h2 => exact key h1.1 (.inl h1.2)
    | dit ks => simp [lenD?] at e
    | obj _ _ => simp [lenD?] at e
    | exc _ _ => simp [lenD?] at e
def rListD' (K : PySem.W.Frag) : List V → Hp → VK → Prop := fun xs H Q => ∃ p ys, xs = [.ref p] ∧ (SqL K H p ys ∨ SqT K H p ys) ∧ ∀ l, H l = none → Q (.ref l) (L2.upd H l (.lst ys))
theorem s_list : SemL X.K (rListD' X.K) qList := by
  rintro G H vs ds Q0 Q s rs ⟨d, ch, rfl, e, hz, q⟩ fin
  obtain ⟨v, F, rfl, r⟩ := rps1 rs
  obtain ⟨a, vs, F', rfl, h1, h2⟩ := r.seq s e
  exact ⟨a, vs, rfl, h1, fun p hp => fin.lst s (h2.shared hz) hp q⟩
theorem s_all : SemL X.K (rAll X.K) qAll := by
  rintro G H vs ds Q0 Q s rs ⟨d, ch, bs, rfl, e, eb, q⟩ fin
  obtain ⟨v, F, rfl, r⟩ := rps1 rs
  obtain ⟨a, vs, F', rfl, h1, h2⟩ := r.listOf s e
  have e2 : ch = (bs.map V.bl).map D.p := by rw [blsOf_map eb, List.map_map]; rfl
  subst e2
  have := h2.prims
  subst this
  exact ⟨a, bs, rfl, h1, fin.p s q⟩
theorem s_any : SemL X.K (rAny X.K) qAny := by
  rintro G H vs ds Q0 Q s rs ⟨d, ch, bs, rfl, e, eb, q⟩ fin
  obtain ⟨v, F, rfl, r⟩ := rps1 rs
  obtain ⟨a, vs, F', rfl, h1, h2⟩ := r.listOf s e
  have e2 : ch = (bs.map V.bl).map D.p := by rw [blsOf_map eb, List.map_map]; rfl
  subst e2
  have := h2.prims
  subst this
  exact ⟨a, bs, rfl, h1, fin.p s q⟩
theorem tyx_of {G H : Hp} {v : V} {d : D} {F : List Addr} (s : Sub G H) (r : Rp X.K G H v d F) (hk : tyKnown (tyN d) = true) : TyX X.K H v (.type (tyN d)) := by
  have sl : ∀ {a : Addr} {vs : List V}, SqL X.K H a vs → TyX X.K H (.ref a) (.type "list") := fun h => by
    rcases h with (h | ⟨o, h⟩) | ⟨o, _, _, h, c, _⟩
    · exact .base (.lst h)
    · exact .base (.frz h)
    · exact .kList h c
  have st : ∀ {a : Addr} {vs : List V}, SqT X.K H a vs → TyX X.K H (.ref a) (.type "tuple") := fun h => by
    rcases h with (h | ⟨o, h⟩) | ⟨o, _, _, h, c, _⟩
    · exact .base (.tup h)
    · exact .fTuple h
    · exact .kTuple h c
  cases d with
  | p x =>
    cases x with
    | non => cases r; exact .base .non
    | bl b => cases r; exact .base (.bl b)
    | int i => cases r; exact .base (.int i)
    | str y => cases r; exact .base (.str y)
    | byt _ => simp [tyN, tyKnown] at hk
    | flt _ => simp [tyN, tyKnown] at hk
    | ref _ => simp [tyN, tyKnown] at hk
    | ty _ => simp [tyN, tyKnown] at hk
  | n o k ch =>
    cases k with
    | lst => obtain ⟨a, vs, F', rfl, h1, h2⟩ := r.list s; exact .base (.lst h1)
    | lok => obtain ⟨a, vs, F', rfl, h1, h2⟩ := r.lok s; exact sl h1
    | tup => obtain ⟨a, vs, F', rfl, h1, h2⟩ := r.tupl s; exact st (tq h1)
    | tok => obtain ⟨a, vs, F', rfl, h1, h2⟩ := r.tok s; exact st h1
    | dic ks =>
      cases r with
      | f h1 h2 => exact (Rd.mono s h1.2).elim (fun z => .base (.dK z)) fun ⟨_, z⟩ => .fDict z
      | o h0 h1 h3 h2 => exact .base (.dK h1.2)
    | dit ks =>
      cases r with
      | f h1 h2 => exact .base (.dT (s _ _ h1.2))
      | o h0 h1 h3 h2 => exact .base (.dT h1.2)
    | obj _ _ => simp [tyN, tyKnown] at hk
    | exc _ _ => simp [tyN, tyKnown] at hk
theorem kit_isi {a b : String} (ha : tyKnown a = true) (hb : tyKnown b = true) (hn : b ≠ "NoneType") : kitB a b = some (isiB a b) := by
  simp only [tyKnown, Bool.or_eq_true, beq_iff_eq] at ha hb
  rcases ha with (((((rfl | rfl) | rfl) | rfl) | rfl) | rfl) | rfl <;> rcases hb with (((((rfl | rfl) | rfl) | rfl) | rfl) | rfl) | rfl <;> first | exact absurd rfl hn | decide +kernel
theorem s_isi : SemL X.K (rIsi X.K) qIsi := by
  rintro G H vs ds Q0 Q s rs ⟨d, n, rfl, ⟨h1, h2, h3⟩, q⟩ fin
  obtain ⟨v, w, F, F', rfl, r1, r2⟩ := rps2 rs
  cases r2
  exact ⟨v, _, _, _, _, rfl, .ty n, tyx_of s r1 h1, kit_ty (kit_isi h1 h2 h3), fin.p s q⟩
theorem s_max2 : SemL X.K (fun xs H Q => ∃ i j, xs = [V.int i, V.int j] ∧ Q (.int (if j > i then j else i)) H) qMax2 := by
  rintro G H vs ds Q0 Q s rs ⟨i, j, rfl, q⟩ fin
  obtain ⟨v, w, F, F', rfl, r1, r2⟩ := rps2 rs
  cases r1; cases r2
  exact ⟨i, j, rfl, fin.p s q⟩
end

/-! ### methods: x.append(e) and so on of what one slot holds -/
def tyM (d : D) : String := match d with
  | .p (.str _) => "str"
  | .n _ .lst _ => "list"
  | .n true (.dic _) _ => "dict"
  | .n _ (.dit _) _ => "dict"
  | _ => "?"
/-- what a method makes of a node alone held: its kind and parts behind, its value -/
abbrev OpM := Kd → List D → List D → (Kd → List D → D → Prop) → Prop
def SemM (K : PySem.W.Frag) (rr : V → List V → Hp → VK → Prop) (r : OpM) : Prop := ∀ G H a k vs ch F ws es Fw Q0 Q, Sub G H → G a = none → NdO K H a k vs → RpL K G H vs ch F → a ∉ F → RpL K G H ws es Fw → (∀ b ∈ Fw, b ∉ F ∧ b ≠ a) → r k ch es Q0 →
  (∀ k' ch' res vs' w o' F' Fr, Q0 k' ch' res → NdO K (L2.upd H a o') a k' vs' → RpL K G H vs' ch' F' → Rp K G H w res Fr → (∀ b ∈ F', b ∈ F ∨ b ∈ Fw) → (∀ b ∈ Fr, (b ∈ F ∨ b ∈ Fw) ∧ b ∉ F') → Q w (L2.upd H a o')) → rr (.ref a) ws H Q
/-- a slot's value anew -/
def Sl.re : Sl → D → Sl
  | .w _, d => .w d
  | _, d => .v d
/-- x.m(e, ..): x in slot i -/
def dMut (T : String) (i : Nat) (r : OpM) (t : DA) : DE := fun ρ Q E => (∃ s d, ρ[i]? = some s ∧ s.d? = some d ∧ tyM d = T ∧ (T = "list" ∨ T = "dict")) ∧ t ρ (fun rs ρ1 => ∃ es ρ2 s k ch, tkL ρ1 rs = some (es, ρ2) ∧ ρ2[i]? = some s ∧ s.d? = some (.n true k ch) ∧
  r k ch es fun k' ch' res => Q (.t res) ((killB i ρ2).set i (s.re (.n true k' ch')))) E
section
variable {K : PySem.W.Frag} {pv : Nat → V} {σ : St} {ρ : Env} {G H : Hp} {fp : Fps}
/-- the node in slot i is written -/
theorem Mt.mut {i : Nat} {s : Sl} {a : Addr} {k k' : Kd} {ch ch' : List D} {vs' : List V} {o' : HO} {F F' : List Addr} (m : Mt K pv σ ρ G H fp) (hi : ρ[i]? = some s) (hs : s.d? = some (.n true k ch)) (hσ : σ[i]? = some (some (.ref a))) (hfp : fp i = a :: F) (hF : a ∉ F)
    (hn : NdO K (L2.upd H a o') a k' vs') (r : RpL K G H vs' ch' F') (hd : ∀ b ∈ F', b ∈ F ∨ ¬ InF fp b) (hd' : ∀ b ∈ F', b ≠ a) :
    Mt K pv σ ((killB i ρ).set i (s.re (.n true k' ch'))) G (L2.upd H a o') (updF fp i (a :: F')) := by
  have hG : G a = none := (m.ft i a (by rw [hfp]; exact List.mem_cons_self ..)).1
  have hl : i < ρ.length := (List.getElem?_eq_some_iff.mp hi).1
  have hl' : i < (killB i ρ).length := by rw [killB_len]; exact hl
  have other : ∀ j, j ≠ i → ∀ b ∈ fp j, b ≠ a := fun j hj b hb z => m.ap j i hj b hb (by rw [hfp, z]; exact List.mem_cons_self ..)
  have gk : ∀ {j : Nat} {s0 s' : Sl}, j ≠ i → ((killB i ρ).set i s0)[j]? = some s' → s' ≠ .un → ρ[j]? = some s' ∧ ∀ q, s' ≠ .b i q := fun {j s0 s'} hj h hn => by
    rw [List.getElem?_set_ne (Ne.symm hj)] at h
    exact killB_of h hn
  have up : ∀ {x : V} {d : D} {F0 : List Addr}, Rp K G H x d F0 → (∀ b ∈ F0, b ≠ a) → Rp K G (L2.upd H a o') x d F0 := fun r h => r.mov (fun _ _ z => z) _ fun b hb o hg ho => ⟨hg, by rw [upd_ne (h b hb)]; exact ho⟩
  have upL : RpL K G (L2.upd H a o') vs' ch' F' := r.mov (fun _ _ z => z) _ fun b hb o hg ho => ⟨hg, by rw [upd_ne (hd' b hb)]; exact ho⟩
  have node : Rp K G (L2.upd H a o') (.ref a) (.n true k' ch') (a :: F') := Rp.o hG hn (fun z => hd' a z rfl) upL
  have dF : ∀ b ∈ F', ∀ j, j ≠ i → b ∉ fp j := fun b hb j hj z => by
    rcases hd b hb with y | y
    · exact m.ap i j (Ne.symm hj) b (by rw [hfp]; exact List.mem_cons_of_mem _ y) z
    · exact y ⟨j, z⟩
  refine ⟨fun b o z => ?_, by rw [List.length_set, killB_len]; exact m.len, fun j d' h => ?_, fun j d' h => ?_, fun j l q h => ?_, fun j l hjl b hb => ?_, fun j b hb => ?_⟩
  · by_cases e : b = a
    · rw [e, hG] at z; cases z
    · rw [upd_ne e]; exact m.sub b o z
  · by_cases hj : j = i
    · subst hj
      rw [List.getElem?_set_self hl'] at h
      cases s with
      | un => cases hs
      | b _ _ => cases hs
      | v _ => cases h; exact ⟨_, hσ, by rw [updF_same]; exact node⟩
      | w _ => cases h
    · obtain ⟨x, h1, h2⟩ := m.sl j d' (gk hj h (by intro z; cases z)).1
      exact ⟨x, h1, by rw [updF_ne hj]; exact up h2 (other j hj)⟩
  · by_cases hj : j = i
    · subst hj
      rw [List.getElem?_set_self hl'] at h
      cases s with
      | un => cases hs
      | b _ _ => cases hs
      | v _ => cases h
      | w d0 =>
        cases h
        have e := (m.pn j d0 hi).1
        rw [hσ] at e
        have e' : V.ref a = pv j := Option.some.inj (Option.some.inj e)
        exact ⟨by rw [← e']; exact hσ, by rw [updF_same, ← e']; exact node⟩
    · obtain ⟨h1, h2⟩ := m.pn j d' (gk hj h (by intro z; cases z)).1
      exact ⟨h1, by rw [updF_ne hj]; exact up h2 (other j hj)⟩
  · by_cases hj : j = i
    · subst hj
      rw [List.getElem?_set_self hl'] at h
      cases s with
      | un => cases hs
      | b _ _ => cases hs
      | v _ => cases h
      | w _ => cases h
    · obtain ⟨g1, g2⟩ := gk hj h (by intro z; cases z)
      obtain ⟨x, y, h1, h2, h3⟩ := m.br j l q g1
      have hk : l ≠ i := fun z => g2 q (by rw [z])
      refine ⟨x, y, h1, h2, ?_⟩
      rw [updF_ne hk]
      exact h3.mono (fun b o hb z => by rw [upd_ne (other l hk b hb)]; exact z) fun _ z => z
  · by_cases hj : j = i
    · subst hj
      rw [updF_same] at hb
      rw [updF_ne (Ne.symm hjl)]
      rcases List.mem_cons.mp hb with e | hb
      · subst e; exact fun z => other l (Ne.symm hjl) b z rfl
      · exact dF b hb l (Ne.symm hjl)
    · rw [updF_ne hj] at hb
      by_cases hk : l = i
      · subst hk
        rw [updF_same]
        intro z
        rcases List.mem_cons.mp z with e | z
        · exact other j hj b hb e
        · exact dF b z j hj hb
      · rw [updF_ne hk]; exact m.ap j l hjl b hb
  · by_cases hj : j = i
    · subst hj
      rw [updF_same] at hb
      exact Rp.foot _ node b hb
    · rw [updF_ne hj] at hb
      obtain ⟨h1, o, h2⟩ := m.ft j b hb
      exact ⟨h1, o, by rw [upd_ne (other j hj b hb)]; exact h2⟩
end

section
variable {X : Cx} {cn : String → Addr} {E : WX} {e : Expr} {t : DA} {i : Nat} {T : String}
theorem tyV_of {K : PySem.W.Frag} {G H : Hp} {v : V} {d : D} {F : List Addr} (s : Sub G H) (r : Rp K G H v d F) (h : tyM d = T) (h2 : T = "list" ∨ T = "dict") : tyV K T v H := by
  subst h
  cases d with
  | p x => cases x <;> simp [tyM] at h2
  | n o k ch =>
    cases k with
    | lst => obtain ⟨a, vs, F', rfl, h1, _⟩ := r.list s; exact .inl ⟨rfl, vs, .inl (.inl h1)⟩
    | lok => simp [tyM] at h2
    | tup => simp [tyM] at h2
    | tok => simp [tyM] at h2
    | dic ks =>
      cases r with
      | f h1 _ => simp [tyM] at h2
      | o h0 h1 _ _ => exact .inr (.inr (.inl ⟨rfl, .inl ⟨_, h1.2⟩⟩))
    | dit ks =>
      cases r with
      | f h1 _ => exact .inr (.inr (.inl ⟨rfl, .inr ⟨_, s _ _ h1.2⟩⟩))
      | o h0 h1 _ _ => exact .inr (.inr (.inl ⟨rfl, .inr ⟨_, h1.2⟩⟩))
    | obj _ _ => simp [tyM] at h2
    | exc _ _ => simp [tyM] at h2
theorem mut_go {K : PySem.W.Frag} {pv : Nat → V} {σ γ : St} {ρ1 : Env} {G H G1 H1 : Hp} {fp fp1 : Fps} {F1 : List Addr} {Q0 : Rv → Env → Prop} {Q : VK} {r : OpM} {rr : V → List V → Hp → VK → Prop} {rs : List Rv} {vs : List V} {x : V} (hs : SemM K rr r) (hx : (σ ++ γ)[i]? = some (some x))
    (po : PoE K pv σ γ G H fp Q0 Q) (s1 : Stp G H (InF fp) G1 H1 (fun a => InF fp1 a ∨ a ∈ F1)) (m1 : Mt K pv (σ ++ γ) ρ1 G1 H1 fp1) (o1 : RvsOk K (σ ++ γ) G1 H1 (InF fp1) vs rs F1)
    (q : ∃ es ρ2 s k ch, tkL ρ1 rs = some (es, ρ2) ∧ ρ2[i]? = some s ∧ s.d? = some (.n true k ch) ∧ r k ch es fun k' ch' res => Q0 (.t res) ((killB i ρ2).set i (s.re (.n true k' ch')))) : rr x vs H1 Q := by
  obtain ⟨es, ρ2, s, k, ch, e1, hi, hd, q⟩ := q
  obtain ⟨G2, fp2, s2, m2, r2, i2⟩ := tkL_ok m1 o1 (fun _ z => z) e1
  obtain ⟨x', h1, h2⟩ := m2.at hi hd
  rw [hx] at h1
  cases h1
  have dW : ∀ b ∈ F1, ¬ InF fp2 b := fun b hb z => RvsOk.foot o1 b hb (i2 b z)
  generalize hfp : fp2 i = Fi at h2
  cases h2 with
  | @o a _ ws _ F h0 n1 hF rl =>
    have hai : InF fp2 a := ⟨i, by rw [hfp]; exact List.mem_cons_self ..⟩
    have hFi : ∀ b ∈ F, InF fp2 b := fun b hb => ⟨i, by rw [hfp]; exact List.mem_cons_of_mem _ hb⟩
    refine hs G2 H1 a k ws ch F vs es F1 _ Q m2.sub h0 n1 rl hF r2 (fun b hb => ⟨fun z => dW b hb (hFi b z), fun z => dW b hb (by rw [z]; exact hai)⟩) q ?_
    intro k' ch' res vs' w o' F' Fr q' n' r' rr' d' dr
    have dF' : ∀ b ∈ F', b ≠ a := fun b hb z => by
      rcases d' b hb with y | y
      · exact hF (by rw [← z]; exact y)
      · exact dW b y (by rw [z]; exact hai)
    have m3 := m2.mut hi hd hx hfp hF n' r' (fun b hb => (d' b hb).imp_right fun y => dW b y) dF'
    have dr' : ∀ b ∈ Fr, b ≠ a := fun b hb z => by
      rcases (dr b hb).1 with y | y
      · exact hF (by rw [← z]; exact y)
      · exact dW b y (by rw [z]; exact hai)
    refine po (.t res) _ w G2 (L2.upd H1 a o') _ Fr q' ?_ m3 ⟨rr'.mov (fun _ _ z => z) _ fun b hb o hg ho => ⟨hg, by rw [upd_ne (dr' b hb)]; exact ho⟩, fun b hb z => ?_⟩
    · refine (s1.trans (s2.mono (P' := InF fp2) (Q' := fun a => InF fp2 a ∨ a ∈ F1) (fun _ z => .inl z) fun a z => z.elim .inl fun z => .inr (.inr z))).trans
        ⟨fun _ _ z => z, fun b o z n => by rw [upd_ne fun y => n (by rw [y]; exact .inl hai)]; exact z, fun _ _ _ z _ => z, fun b z => .inl ?_⟩
      rcases z with z | z
      · rcases InF.updF z with z | z
        · exact .inl z
        · rcases List.mem_cons.mp z with y | z
          · rw [y]; exact .inl hai
          · exact (d' b z).imp (hFi b) id
      · exact (dr b z).1.imp (hFi b) id
    · rcases dr b hb with ⟨y, ny⟩
      obtain ⟨j, hj⟩ := z
      by_cases e : j = i
      · subst e
        rw [updF_same] at hj
        rcases List.mem_cons.mp hj with u | u
        · exact dr' b hb u
        · exact ny u
      · rw [updF_ne e] at hj
        rcases y with y | y
        · exact m2.ap j i e b hj (by rw [hfp]; exact List.mem_cons_of_mem _ y)
        · exact dW b y ⟨j, hj⟩
theorem je_mut {r : OpM} {rr : V → List V → Hp → VK → Prop} (hs : SemM X.K rr r) (hi : i < X.N.length) (h : PE X e (tBM X.K T rr (tVar i) (liftA X.K cn E t))) : JE X cn E e (dMut T i r t) := by
  refine ⟨fun pins sh σ H Q I ⟨pv, γ, ρ, G, fp, Q0, E0, m, ⟨⟨s, d, e1, e2, e3, e4⟩, q⟩, po, px⟩ => ?_⟩
  obtain ⟨x, h1, h2⟩ := m.at e1 e2
  have hl : i < σ.length := by rw [I.len]; exact hi
  exact h.run pins sh σ H Q I ⟨x, get_left hl h1, tyV_of m.sub h2 e3 e4, pv, γ, ρ, G, fp, _, E0, m, q, fun rs ρ1 vs G1 H1 fp1 F1 q1 s1 m1 o1 => mut_go hs h1 po s1 m1 o1 q1, px⟩
def mAppend : OpM := fun k ch es Q => ∃ d, k = .lst ∧ es = [d] ∧ ch.length < 100000 ∧ Q .lst (ch ++ [d]) .non
theorem m_append : SemM X.K rAppend mAppend := by
  rintro G H a k vs ch F ws es Fw Q0 Q s hG n r ha rw dw ⟨d, rfl, rfl, hl, q⟩ fin
  cases rw with
  | @cons y ws' _ _ Fa Fb h1 h2 h3 =>
    have e1 : ws' = [] := by cases h2; rfl
    have e2 : Fb = [] := by cases h2; rfl
    subst e1 e2
    refine ⟨a, vs, y, rfl, rfl, n, by rw [r.len]; exact Nat.lt_of_lt_of_le hl (by decide), ?_⟩
    refine fin .lst (ch ++ [d]) .non (vs ++ [y]) .non (.lst (vs ++ [y])) (F ++ Fa) [] q upd_same (r.app (RpL.one h1) fun b hb hb' => (dw b (List.mem_append_left _ hb')).1 hb) (Rp.p _) (fun b hb => ?_) fun b hb => by cases hb
    rcases List.mem_append.mp hb with z | z
    · exact .inl z
    · exact .inr (List.mem_append_left _ z)
end
end DL
/-! DL12: dicts read; targets; more rules. -/
namespace DL
open PySem L2

def keyD : D → Option Key
  | .p (.int i) => some (.inl i)
  | .p (.str x) => some (.inr x)
  | _ => none
def keysD : List D → Option (List Key)
  | [] => some []
  | d :: ds => match keyD d, keysD ds with
    | some k, some ks => some (k :: ks)
    | _, _ => none
def lookK {κ : Type} [DecidableEq κ] : List κ → List D → κ → Option D
  | k :: ks, d :: ds, x => if k = x then some d else lookK ks ds x
  | _, _, _ => none
theorem keyD_rp {K : PySem.W.Frag} {G H : Hp} {v : V} {d : D} {F : List Addr} {k : Key} (r : Rp K G H v d F) (e : keyD d = some k) : v = kV k := by
  cases d with
  | p x =>
    cases r
    cases v <;> simp only [keyD] at e <;> first | (cases e; rfl) | cases e
  | n _ _ _ => simp [keyD] at e
theorem keysD_rp {K : PySem.W.Frag} {G H : Hp} : ∀ {vs : List V} {ds : List D} {F : List Addr} {ks : List Key}, RpL K G H vs ds F → keysD ds = some ks → vs = ks.map kV
  | _, [], _, ks, r, e => by
    simp only [keysD, Option.some.injEq] at e
    subst e
    cases r
    rfl
  | _, d :: ds, _, ks, r, e => by
    simp only [keysD] at e
    split at e
    · rename_i k ks' e1 e2
      cases e
      cases r with
      | cons h1 h2 h3 => rw [keyD_rp h1 e1, keysD_rp h2 e2]; rfl
    · cases e
theorem look_val {K : PySem.W.Frag} {G H : Hp} {κ : Type} [DecidableEq κ] {x : κ} : ∀ {ks : List κ} {vs : List V} {ds : List D} {F : List Addr}, ks.length = vs.length → RpL K G H vs ds F →
    match lookK ks ds x with
    | some d => ∃ y F', valV (ks.zip vs) x = some y ∧ Rp K G H y d F'
    | none => valV (ks.zip vs) x = none
  | [], vs, ds, F, hl, r => by
    have : vs = [] := List.eq_nil_of_length_eq_zero hl.symm
    subst this
    simp only [lookK]
    exact valV_nil
  | k :: ks, [], ds, F, hl, r => by simp at hl
  | k :: ks, v :: vs, ds, F, hl, r => by
    cases r with
    | cons h1 h2 h3 =>
      rw [List.zip_cons_cons]
      by_cases e : k = x
      · simp only [lookK, if_pos e]
        exact ⟨v, _, valV_pos (p := (k, v)) e, h1⟩
      · simp only [lookK, if_neg e]
        rw [valV_neg (p := (k, v)) e]
        exact look_val (by simpa using hl) h2
/-- what a dict holds at a key -/
def dictD : D → D → Option (Option D)
  | .n _ (.dic ks) ch, k => (keyD k).map (lookK ks ch)
  | .n _ (.dit ks) ch, .n _ .tup kc => (keysD kc).map (lookK ks ch)
  | _, _ => none
def OR (K : PySem.W.Frag) (G H : Hp) : Option V → Option D → Prop
  | some y, some c => ∃ F, Rp K G H y c F
  | none, none => True
  | _, _ => False
theorem look_or {K : PySem.W.Frag} {G H : Hp} {κ : Type} [DecidableEq κ] {x : κ} {ks : List κ} {vs : List V} {ds : List D} {F : List Addr} (hl : ks.length = vs.length) (r : RpL K G H vs ds F) : OR K G H (valV (ks.zip vs) x) (lookK ks ds x) := by
  have lv := look_val (x := x) hl r
  cases e : lookK ks ds x with
  | none => rw [e] at lv; simp only at lv; rw [lv]; trivial
  | some c =>
    rw [e] at lv
    obtain ⟨y, F', h1, h2⟩ := lv
    rw [h1]
    exact ⟨F', h2⟩
theorem dict_get {K : PySem.W.Frag} {G H : Hp} {v u : V} {d k : D} {F F' : List Addr} {o : Option D} (s : Sub G H) (r : Rp K G H v d F) (rk : Rp K G H u k F') (e : dictD d k = some o) : ∃ a o', v = .ref a ∧ DGet H a u o' ∧ OR K G H o' o := by
  cases d with
  | p x => simp [dictD] at e
  | n ow kd ch =>
    cases kd with
    | lst => simp [dictD] at e
    | lok => simp [dictD] at e
    | tup => simp [dictD] at e
    | tok => simp [dictD] at e
    | obj _ _ => simp [dictD] at e
    | exc _ _ => simp [dictD] at e
    | dic ks =>
      simp only [dictD, Option.map_eq_some_iff] at e
      obtain ⟨x, ex, rfl⟩ := e
      have := keyD_rp rk ex
      subst this
      cases r with
      | @f a _ vs _ F h1 h2 => exact ⟨a, _, rfl, .inl ⟨_, _, Rd.mono s h1.2, rfl, rfl⟩, look_or h1.1 h2⟩
      | @o a _ vs _ F h0 h1 h3 h2 => exact ⟨a, _, rfl, DGet.k h1.2, look_or h1.1 h2⟩
    | dit ks =>
      cases k with
      | p x => simp [dictD] at e
      | n ow' kd' kc =>
        cases kd' with
        | tup =>
          simp only [dictD, Option.map_eq_some_iff] at e
          obtain ⟨x, ex, rfl⟩ := e
          obtain ⟨b, ws, F2, rfl, h4, h5⟩ := rk.tupl s
          have := keysD_rp h5 ex
          subst this
          cases r with
          | @f a _ vs _ F h1 h2 => exact ⟨a, _, rfl, DGet.t (s _ _ h1.2) h4, look_or h1.1 h2⟩
          | @o a _ vs _ F h0 h1 h3 h2 => exact ⟨a, _, rfl, DGet.t h1.2 h4, look_or h1.1 h2⟩
        | lst => simp [dictD] at e
        | lok => simp [dictD] at e
        | tok => simp [dictD] at e
        | dic _ => simp [dictD] at e
        | dit _ => simp [dictD] at e
        | obj _ _ => simp [dictD] at e
        | exc _ _ => simp [dictD] at e

/-! ### x in y, of lists, tuples, dicts, texts -/
def qInS (neg : Bool) : Op2 := fun d e Q => match e with
  | .p (.str z) => ∃ c, d = .p (.str ⟨#[c]⟩) ∧ Q (.bl (if neg = true then !decide (c ∈ z.cps.toList) else decide (c ∈ z.cps.toList)))
  | .n _ (.dic _) _ => ∃ o, dictD e d = some o ∧ Q (.bl (if neg = true then !o.isSome else o.isSome))
  | .n _ (.dit _) _ => ∃ o, dictD e d = some o ∧ Q (.bl (if neg = true then !o.isSome else o.isSome))
  | _ => qIn neg d e Q
def rInS (K : PySem.W.Frag) (neg : Bool) : R2 := fun x y H Q => (rInP K neg x y H Q ∨ ∃ a o, y = .ref a ∧ DGet H a x o ∧ Q (.bl (if neg = true then !o.isSome else o.isSome)) H) ∨
  ∃ (c : Nat) (z : Str), x = .str ⟨#[c]⟩ ∧ y = .str z ∧ Q (.bl (if neg = true then !decide (c ∈ z.cps.toList) else decide (c ∈ z.cps.toList))) H
section
variable {X : Cx} {cn : String → Addr} {E : WX}
theorem o_din (hu : X.A.units + 1 < cLine) : OpR X (compareOp .In) (fun x y H Q => ∃ a o, y = .ref a ∧ DGet H a x o ∧ Q (.bl (if false = true then !o.isSome else o.isSome)) H) := by
  intro pins s σ H x y v u Q I rx ry ⟨a, o, e, g, q⟩
  subst e
  cases ry
  exact d_in hu I g rx fun s' I' => ⟨.bl o.isSome, H, I', rfl, q⟩
theorem o_in (hu : X.A.units + 65 < cLine) : OpR X (compareOp .In) (rInS X.K false) := ((o_inP hu).or (o_din (by omega))).or op_in_sign
theorem or_some {K : PySem.W.Frag} {G H : Hp} {o : Option V} {o' : Option D} (h : OR K G H o o') : o.isSome = o'.isSome := by
  cases o <;> cases o' <;> first | rfl | cases h
theorem s_inS {K : PySem.W.Frag} {neg : Bool} : Sem2 K (rInS K neg) (qInS neg) := by
  intro G H v u d e F1 F2 Q0 Q s r1 r2 q fin
  unfold qInS at q
  split at q
  · obtain ⟨c, rfl, q⟩ := q
    cases r1; cases r2
    exact .inr ⟨c, _, rfl, rfl, fin.p s q⟩
  · obtain ⟨o, eo, q⟩ := q
    obtain ⟨a, o', rfl, g, h⟩ := dict_get s r2 r1 eo
    refine .inl (.inr ⟨a, o', rfl, g, ?_⟩)
    rw [or_some h]
    exact fin.p s q
  · obtain ⟨o, eo, q⟩ := q
    obtain ⟨a, o', rfl, g, h⟩ := dict_get s r2 r1 eo
    refine .inl (.inr ⟨a, o', rfl, g, ?_⟩)
    rw [or_some h]
    exact fin.p s q
  · exact .inl (.inl (s_in G H v u d e F1 F2 Q0 Q s r1 r2 q fin))

/-! ### x[i] -/
def qIxS : Op2 := fun d e Q => match d with
  | .n _ (.dic _) _ => ∃ c, dictD d e = some (some c) ∧ c.isFz = true ∧ Q c
  | .n _ (.dit _) _ => ∃ c, dictD d e = some (some c) ∧ c.isFz = true ∧ Q c
  | _ => qIx d e Q
def rIxS' (K : PySem.W.Frag) : R2 := fun x y H Q => rIx K x y H Q ∨ ∃ a v, x = .ref a ∧ DGet H a y (some v) ∧ Q v H
theorem ix_dict (hu : X.A.units + 1 < cLine) : IxR X (fun x y H Q => ∃ a v, x = .ref a ∧ DGet H a y (some v) ∧ Q v H) := by
  intro value slice pins s σ H x y v u Q I rx ry ⟨a, w, e, g, q⟩ hs
  subst e
  cases rx
  refine PyProof.Rows.tail_any (T := "dict") (dict_typeIs I g) slot_dict_getitem.lookup (d_getItem hu I g ry fun w' s' I' r' => ⟨w, H, I', r', q⟩) hs
theorem s_ixS {K : PySem.W.Frag} : Sem2 K (rIxS' K) qIxS := by
  intro G H v u d e F1 F2 Q0 Q s r1 r2 q fin
  unfold qIxS at q
  split at q
  · obtain ⟨c, eo, hz, q⟩ := q
    obtain ⟨a, o', rfl, g, h⟩ := dict_get s r1 r2 eo
    cases o' with
    | none => cases h
    | some y =>
      obtain ⟨F, h⟩ := h
      exact .inr ⟨a, y, rfl, g, fin.old s (h.shared hz) q⟩
  · obtain ⟨c, eo, hz, q⟩ := q
    obtain ⟨a, o', rfl, g, h⟩ := dict_get s r1 r2 eo
    cases o' with
    | none => cases h
    | some y =>
      obtain ⟨F, h⟩ := h
      exact .inr ⟨a, y, rfl, g, fin.old s (h.shared hz) q⟩
  · exact .inl (s_ix G H v u d e F1 F2 Q0 Q s r1 r2 q fin)
theorem je_ixS {a b : Expr} {ta tb : DE} {pos : Pos} (hu : X.A.units + 1 < cLine) (ha : JE X cn E a ta) (hb : JE X cn E b tb) (hs : PlainIx b) : JE X cn E (.Subscript a b pos) (dOp qIxS ta tb) :=
  pe_imp (pe_ix (ix_seq.or (ix_dict hu)) ha hb hs) (opE s_ixS)

/-! ### more rules -/
theorem jts_nil : PTs X [] (liftT X.K cn E dTrue) := ⟨fun pins s σ H Q I ⟨pv, γ, ρ, G, fp, Q0, E0, m, q, po, px⟩ => pts_nil.run pins s σ H Q I (po true ρ G H fp q (Stp.refl _ _ _) m)⟩
theorem jts_one {c : Expr} {t : DT} (h : JT X cn E c t) : PTs X [c] (liftT X.K cn E t) := pts_one h
def dAugI (i : Nat) (te : DE) : DS := fun D ρ => (∃ x, slD ρ i = some (.p (.int x))) ∧ te ρ (fun r ρ1 => ∃ x y ρ2, slD ρ1 i = some (.p (.int x)) ∧ look ρ1 r = some (.p (.int y)) ∧ stV ρ1 i (.p (.int (x + y))) = some ρ2 ∧ D.nx ρ2) D.ex
theorem js_augI {i : Nat} {st : Stmt} {te : DE} (hi : i < X.N.length) (h : PS X st (tAug i (liftE X.K cn E te) (ipI fun i j => i + j))) : JS X cn E st (dAugI i te) := ⟨fun pins sh σ H D I ⟨pv, γ, ρ, G, fp, D0, m, ⟨⟨x, e0⟩, q⟩, po⟩ => by
  have hl : i < σ.length := by rw [I.len]; exact hi
  obtain ⟨v, F0, h1, h2, _⟩ := sl_ok m e0
  refine h.run pins sh σ H D I ⟨v, get_left hl h1, pv, γ, ρ, G, fp, _, _, m, q, fun r ρ1 w G1 H1 fp1 F1 ⟨x', y, ρ2, e1, e2, e3, q1⟩ s1 m1 o1 => ?_, po.ex⟩
  obtain ⟨v', F0', h1', h2', _⟩ := sl_ok m1 e1
  rw [h1] at h1'
  cases h1'
  cases h2'
  have ew := look_p m1 o1 e2
  subst ew
  refine ⟨x', y, rfl, rfl, ?_⟩
  have m3 := m1.put e3 (Rp.p _) (F := []) (fun a z => by cases z)
  rw [set_app hl] at m3
  refine po.nx ρ2 _ G1 H1 _ q1 (s1.mono (fun _ z => z) fun a z => .inl (.inl ?_)) m3 (by rw [List.length_set])
  rcases InF.updF z with z | z
  · exact z
  · cases z⟩
theorem js_setLc {i : Nat} {st : Stmt} {ti : DI} {g : DG} {tt : DT} {te : DE} {vs : List Nat} (hi : i < X.N.length)
    (h : PS X st (tAsg (tLc (liftI X.K cn E ti) (liftG X.K vs g) (liftT X.K cn WF tt) (liftE X.K cn WF te) vs) (gName i))) : JS X cn E st (dAsg (dLc ti g tt te vs) (dName i)) :=
  js_set hi (ps_imp h fun D σ H q => lcE q)
theorem cx_no {P : Program} {w : World} {H : Hp} {s : Shared} {e : Value} {s' : Shared} (h : L2.CX P w [] H s (fun _ _ _ => False) e s') : False := by
  obtain ⟨_, _, _, _, _, _, _, _, _, _, _, _, z⟩ := h
  exact z
/-- text * number -/
def qMulS : Op2
  | .p (.int i), .p (.int j), Q => CMul i j ∧ Q (.int (i * j))
  | .p (.str x), .p (.int n), Q => (0 ≤ n ∧ (x.length : Int) * n ≤ 100000 ∧ n ≤ 100000) ∧ Q (.str ⟨(List.replicate n.toNat x.cps.toList).flatten.toArray⟩)
  | _, _, _ => False
def rMulS : R2 := fun x y H Q => rI CMul (fun i j => .int (i * j)) x y H Q ∨ ∃ z n, x = .str z ∧ y = .int n ∧ (0 ≤ n ∧ (z.length : Int) * n ≤ 100000 ∧ n ≤ 100000) ∧ Q (.str ⟨(List.replicate n.toNat z.cps.toList).flatten.toArray⟩) H
theorem s_mul {K : PySem.W.Frag} : Sem2 K rMulS qMulS := by
  intro G H v u d e F1 F2 Q0 Q s r1 r2 q fin
  unfold qMulS at q
  split at q
  · cases r1; cases r2; exact .inl ⟨_, _, rfl, rfl, q.1, fin.p s q.2⟩
  · cases r1; cases r2; exact .inr ⟨_, _, rfl, rfl, q.1, fin.p s q.2⟩
  · exact q.elim
end
end DL
/-! DL13: plain things and what stands for them; running a reading. -/
namespace DL
open PySem L2

/-! ### what stands for a plain thing -/
/-- the truth of p -/
noncomputable def dc (p : Prop) : Bool := @decide p (Classical.propDecidable p)
theorem dc_t {p : Prop} : dc p = true ↔ p := @decide_eq_true_iff p (Classical.propDecidable p)
theorem dc_f {p : Prop} : dc p = false ↔ ¬p := @decide_eq_false_iff_not p (Classical.propDecidable p)
theorem dc_d {p : Prop} [Decidable p] : dc p = decide p := by
  by_cases h : p
  · rw [dc_t.mpr h, decide_eq_true h]
  · rw [dc_f.mpr h, decide_eq_false h]
class Enc (α : Type) where
  en : α → D
  fz : ∀ x, (en x).isFz = true
  lay : ∀ x, (toPy (en x)).plain = true
  dep : Nat
  de : ∀ x, (toPy (en x)).depth ≤ dep
  eq : ∀ x y, eqD (en x) (en y) = true ↔ x = y
open Enc (en)
instance : Enc Int := ⟨fun i => .p (.int i), fun _ => rfl, fun _ => rfl, 0, fun _ => by simp [toPy, PyData.depth], fun x y => by simp [eqD, toPy, PyData.eqv]⟩
instance : Enc Str := ⟨fun i => .p (.str i), fun _ => rfl, fun _ => rfl, 0, fun _ => by simp [toPy, PyData.depth], fun x y => by simp [eqD, toPy, PyData.eqv]⟩
instance : Enc Bool := ⟨fun i => .p (.bl i), fun _ => rfl, fun _ => rfl, 0, fun _ => by simp [toPy, PyData.depth], fun x y => by simp [eqD, toPy, PyData.eqv]⟩
section
variable {α : Type} [Enc α]
theorem fzl_e : ∀ xs : List α, isFzL (xs.map en) = true
  | [] => rfl
  | x :: xs => by rw [List.map_cons, isFzL, Enc.fz, fzl_e xs]; rfl
theorem lay_e : ∀ xs : List α, PyData.plainAll (toPyL (xs.map en)) = true
  | [] => rfl
  | x :: xs => by rw [List.map_cons, toPyL, PyData.plainAll, Enc.lay, lay_e xs]; rfl
theorem dep_e : ∀ xs : List α, PyData.depthAll (toPyL (xs.map en)) ≤ Enc.dep α
  | [] => Nat.zero_le _
  | x :: xs => by
    rw [List.map_cons, toPyL, PyData.depthAll]
    have := dep_e xs
    have := Enc.de x
    omega
theorem eq_e : ∀ xs ys : List α, PyData.eqvAll (toPyL (xs.map en)) (toPyL (ys.map en)) = true ↔ xs = ys
  | [], [] => by simp [toPyL, PyData.eqvAll]
  | [], y :: ys => by simp [toPyL, PyData.eqvAll]
  | x :: xs, [] => by simp [toPyL, PyData.eqvAll]
  | x :: xs, y :: ys => by
    rw [List.map_cons, List.map_cons, toPyL, toPyL, PyData.eqvAll, Bool.and_eq_true, eq_e xs ys, List.cons.injEq]
    exact and_congr_left' (Enc.eq x y)
end
instance {α : Type} [i : Enc α] : Enc (List α) where
  en xs := .n false .lst (xs.map en)
  fz xs := by rw [D.isFz, fzl_e]; rfl
  lay xs := by rw [toPy, PyData.plain, lay_e]
  dep := Enc.dep α + 1
  de xs := by
    rw [toPy, PyData.depth]
    have := dep_e xs
    omega
  eq x y := by
    unfold eqD
    rw [toPy, toPy, PyData.eqv, eq_e, ]
instance {α β : Type} [i : Enc α] [j : Enc β] : Enc (α × β) where
  en x := .n false .tup [en x.1, en x.2]
  fz x := by simp [D.isFz, isFzL, Enc.fz]
  lay x := by simp [toPy, toPyL, PyData.plain, PyData.plainAll, Enc.lay]
  dep := max (Enc.dep α) (Enc.dep β) + 1
  de x := by
    have := Enc.de x.1
    have := Enc.de x.2
    simp only [toPy, toPyL, PyData.depth, PyData.depthAll]
    omega
  eq x y := by
    unfold eqD
    simp only [toPy, toPyL, PyData.eqv, PyData.eqvAll, Bool.and_true, Bool.and_eq_true]
    rw [Prod.ext_iff]
    exact and_congr (Enc.eq x.1 y.1) (Enc.eq x.2 y.2)
/-- a list that one slot alone holds -/
abbrev eo {α : Type} [Enc α] (xs : List α) : D := .n true .lst (xs.map en)
section
variable {α β : Type} [Enc α] [Enc β]
@[simp] theorem fz_e (x : α) : (en x).isFz = true := Enc.fz x
@[simp] theorem fz_eo (xs : List α) : (eo xs).isFz = false := by unfold eo; rw [D.isFz]; rfl
@[simp] theorem fr_e (x : α) : (en x).fz = en x := fz_of (Enc.fz x)
@[simp] theorem fr_eo (xs : List α) : (eo xs).fz = en xs := by
  unfold eo
  rw [D.fz, fzL_of (fzl_e xs)]
  rfl
theorem ok_of {x : α} (h : Enc.dep α ≤ 64) : okD (en x) = true := by
  unfold okD
  rw [Enc.lay, Bool.true_and]
  have := Enc.de x
  exact decide_eq_true (by omega)
theorem py_eo (xs : List α) : toPy (eo xs) = toPy (en xs) := by
  show toPy (.n true .lst _) = toPy (.n false .lst _)
  rw [toPy, toPy]
theorem ok_eo {xs : List α} (h : Enc.dep α + 1 ≤ 64) : okD (eo xs) = true := by
  unfold okD
  rw [py_eo]
  exact ok_of (α := List α) h
theorem eqD_e (x y : α) : eqD (en x) (en y) = dc (x = y) := by
  by_cases h : x = y
  · rw [dc_t.mpr h, (Enc.eq x y).mpr h]
  · rw [dc_f.mpr h]
    cases g : eqD (en x) (en y) with
    | false => rfl
    | true => exact absurd ((Enc.eq x y).mp g) h
@[simp] theorem items_e (xs : List α) : itemsOf (en xs) = some (xs.map en) := rfl
@[simp] theorem items_eo (xs : List α) : itemsOf (eo xs) = some (xs.map en) := rfl
@[simp] theorem list_e (xs : List α) : listOf (en xs) = some (xs.map en) := rfl
@[simp] theorem list_eo (xs : List α) : listOf (eo xs) = some (xs.map en) := rfl
end

theorem hu65_of {k : Nat} {A : Around} (r : Room k A) : A.units + 65 < cLine := by
  have := r.un
  omega

/-! ### running a reading: one lemma for each head -/
section
variable {n : Env → Prop} {rt : D → Env → Prop} {bk ct : Env → Prop} {ex : Exn → Env → Prop} {ρ ρ1 ρ2 : Env} {Q : Rv → Env → Prop} {QT : Bool → Env → Prop} {QA : List Rv → Env → Prop} {QI : List D → Env → Prop} {E : Exn → Env → Prop}
  {t u : DS} {te ta tb tc : DE} {tt tv : DT} {tA : DA} {ti : DI} {g : DG} {r : Op2} {d d' : D} {i j : Nat} {v : V} {x y : Rv} {xs : List Rv}
theorem w_seq (h : t ⟨fun ρ1 => u ⟨n, rt, bk, ct, ex⟩ ρ1, rt, bk, ct, ex⟩ ρ) : dSeq t u ⟨n, rt, bk, ct, ex⟩ ρ := h
theorem w_next (h : n ρ) : dNext ⟨n, rt, bk, ct, ex⟩ ρ := h
theorem w_break (h : bk ρ) : dBreak ⟨n, rt, bk, ct, ex⟩ ρ := h
theorem w_cont (h : ct ρ) : dCont ⟨n, rt, bk, ct, ex⟩ ρ := h
theorem w_drop (h : te ρ (fun _ ρ1 => n ρ1) ex) : dDrop te ⟨n, rt, bk, ct, ex⟩ ρ := h
def retK (r : Rv) (ρ : Env) (k : D → Env → Prop) : Prop := ∃ d ρ2, tk ρ r = some (d, ρ2) ∧ k d ρ2
theorem w_ret (h : te ρ (fun r ρ1 => retK r ρ1 rt) ex) : dRet te ⟨n, rt, bk, ct, ex⟩ ρ := h
theorem w_retT {k : D → Env → Prop} (h : k d ρ) : retK (.t d) ρ k := ⟨d, ρ, rfl, h⟩
theorem w_retS {k : D → Env → Prop} (h0 : slD ρ i = some d) (hz : d.isFz = true) (h : k d ρ) : retK (.s i) ρ k := ⟨d, ρ, by simp only [tk, h0, hz, if_true], h⟩
theorem w_retN (h : rt (.p .non) ρ) : dRetN ⟨n, rt, bk, ct, ex⟩ ρ := h
theorem w_ifS (h : tt ρ (fun b ρ1 => if b = true then t ⟨n, rt, bk, ct, ex⟩ ρ1 else u ⟨n, rt, bk, ct, ex⟩ ρ1) ex) : dIfS tt t u ⟨n, rt, bk, ct, ex⟩ ρ := h
theorem w_asg (h : te ρ (fun r ρ1 => g r ρ1 n) ex) : dAsg te g ⟨n, rt, bk, ct, ex⟩ ρ := h
theorem w_nameT {k : Env → Prop} (h1 : stV ρ i d = some ρ2) (h : k ρ2) : dName i (.t d) ρ k := ⟨d, ρ, ρ2, rfl, h1, h⟩
theorem w_nameS {k : Env → Prop} (h0 : slD ρ j = some d) (hz : d.isFz = true) (h1 : stV ρ i d = some ρ2) (h : k ρ2) : dName i (.s j) ρ k := ⟨d, ρ, ρ2, by simp only [tk, h0, hz, if_true], h1, h⟩
theorem w_for (h : ti ρ (fun items ρ1 => dLoop g t ⟨n, rt, bk, ct, ex⟩ items ρ1) ex) : dFor ti g t ⟨n, rt, bk, ct, ex⟩ ρ := h
theorem w_ifT {p q : Prop} (h : p) : if true = true then p else q := by rw [if_pos rfl]; exact h
theorem w_ifF {p q : Prop} (h : q) : if false = true then p else q := by rw [if_neg (by decide)]; exact h
theorem w_if {b : Bool} {p q : Prop} (h1 : b = true → p) (h2 : b = false → q) : if b = true then p else q := by
  cases b
  · exact w_ifF (h2 rfl)
  · exact w_ifT (h1 rfl)
theorem w_if_f {b : Bool} {p q : Prop} (e : b = false) (h : q) : if b = true then p else q := by subst e; exact w_ifF h
theorem w_if_t {b : Bool} {p q : Prop} (e : b = true) (h : p) : if b = true then p else q := by subst e; exact w_ifT h
theorem w_var (h0 : slD ρ i = some d) (h : Q (.s i) ρ) : dVar i ρ Q E := ⟨by rw [h0]; rfl, h⟩
theorem w_c (h : Q (.t (.p v)) ρ) : dC v ρ Q E := h
theorem w_mv (h0 : ρ[i]? = some (.v d)) (h1 : (killB i ρ).set i .un = ρ2) (h : Q (.t d) ρ2) : dMv i ρ Q E := ⟨d, h0, by rw [h1]; exact h⟩
def opK (r : Op2) (x y : Rv) (ρ : Env) (k : D → Prop) : Prop := ∃ d e, look ρ x = some d ∧ look ρ y = some e ∧ r d e k
theorem w_op (h : ta ρ (fun x ρ1 => tb ρ1 (fun y ρ2 => opK r x y ρ2 fun z => Q (.t z) ρ2) E) E) : dOp r ta tb ρ Q E := h
theorem w_opK {k : D → Prop} (h1 : look ρ x = some d) (h2 : look ρ y = some d') (h : r d d' k) : opK r x y ρ k := ⟨d, d', h1, h2, h⟩
def unK (r : D → (D → Prop) → Prop) (x : Rv) (ρ : Env) (k : D → Prop) : Prop := ∃ d, look ρ x = some d ∧ r d k
theorem w_un {r : D → (D → Prop) → Prop} (h : ta ρ (fun x ρ1 => unK r x ρ1 fun z => Q (.t z) ρ1) E) : dUn r ta ρ Q E := h
theorem w_unK {r : D → (D → Prop) → Prop} {k : D → Prop} (h1 : look ρ x = some d) (h : r d k) : unK r x ρ k := ⟨d, h1, h⟩
def blK (x : Rv) (ρ : Env) (k : Bool → Prop) : Prop := ∃ b, look ρ x = some (.p (.bl b)) ∧ k b
theorem w_blK {k : Bool → Prop} {b : Bool} (h1 : look ρ x = some (.p (.bl b))) (h : k b) : blK x ρ k := ⟨b, h1, h⟩
theorem w_tst (h : ta ρ (fun x ρ1 => blK x ρ1 fun b => QT b ρ1) E) : dTst ta ρ QT E := h
theorem w_and (h : tt ρ (fun b ρ1 => if b = true then tv ρ1 QT E else QT false ρ1) E) : dAnd tt tv ρ QT E := h
theorem w_or (h : tt ρ (fun b ρ1 => if b = true then QT true ρ1 else tv ρ1 QT E) E) : dOr tt tv ρ QT E := h
theorem w_not (h : tt ρ (fun b ρ1 => QT (!b) ρ1) E) : dNot tt ρ QT E := h
theorem w_andV (h : ta ρ (fun x ρ1 => blK x ρ1 fun b => if b = true then tb ρ1 Q E else Q (.t (.p (.bl false))) ρ1) E) : dAndV ta tb ρ Q E := h
theorem w_orV (h : ta ρ (fun x ρ1 => blK x ρ1 fun b => if b = true then Q (.t (.p (.bl true))) ρ1 else tb ρ1 Q E) E) : dOrV ta tb ρ Q E := h
theorem w_notV (h : ta ρ (fun x ρ1 => blK x ρ1 fun b => Q (.t (.p (.bl (!b)))) ρ1) E) : dNotV ta ρ Q E := h
theorem w_ifE (h : tt ρ (fun b ρ1 => if b = true then ta ρ1 Q E else tb ρ1 Q E) E) : dIf tt ta tb ρ Q E := h
theorem w_nil (h : QA [] ρ) : dNil ρ QA E := h
theorem w_cons (h : ta ρ (fun x ρ1 => tA ρ1 (fun xs ρ2 => QA (x :: xs) ρ2) E) E) : dCons ta tA ρ QA E := h
def cbK (r : OpL) (xs : List Rv) (ρ : Env) (k : D → Prop) : Prop := ∃ ds, lookL ρ xs = some ds ∧ r ds k
theorem w_cb {r : OpL} (h : tA ρ (fun rs ρ1 => cbK r rs ρ1 fun z => Q (.t z) ρ1) E) : dCB r tA ρ Q E := h
theorem w_cbK {r : OpL} {k : D → Prop} {ds : List D} (h1 : lookL ρ xs = some ds) (h : r ds k) : cbK r xs ρ k := ⟨ds, h1, h⟩
def mkK (xs : List Rv) (ρ : Env) (k : List D → Env → Prop) : Prop := ∃ ds ρ2, tkL ρ xs = some (ds, ρ2) ∧ ds.length ≤ 100000 ∧ k ds ρ2
theorem w_lst (h : tA ρ (fun rs ρ1 => mkK rs ρ1 fun ds ρ2 => Q (.t (.n true .lst ds)) ρ2) E) : dLst tA ρ Q E := h
theorem w_tup (h : tA ρ (fun rs ρ1 => mkK rs ρ1 fun ds ρ2 => Q (.t (.n false .tup ds)) ρ2) E) : dTup tA ρ Q E := h
theorem w_mkK {k : List D → Env → Prop} {ds : List D} (h1 : tkL ρ xs = some (ds, ρ2)) (h2 : ds.length ≤ 100000) (h : k ds ρ2) : mkK xs ρ k := ⟨ds, ρ2, h1, h2, h⟩
def itK (x : Rv) (ρ : Env) (k : List D → Env → Prop) : Prop := ∃ d ρ2 ch, tkF ρ x = some (d, ρ2) ∧ itemsOf d = some ch ∧ k ch ρ2
theorem w_iseq (h : ta ρ (fun r ρ1 => itK r ρ1 QI) E) : dISeq ta ρ QI E := h
theorem w_itK {k : List D → Env → Prop} {ch : List D} (h1 : tkF ρ x = some (d, ρ2)) (h2 : itemsOf d = some ch) (h : k ch ρ2) : itK x ρ k := ⟨d, ρ2, ch, h1, h2, h⟩
def lcK (ρ : Env) (vs : List Nat) (k : Env → Prop) : Prop := (vs.all fun i => decide (i < ρ.length)) = true ∧ k (wipeD ρ vs)
theorem w_lc {vs : List Nat} (h : ti ρ (fun items ρ1 => lcK ρ1 vs (fun ρ' => dLcL g tt te vs (fun ds ρ2 => Q (.t (.n true .lst ds)) ρ2) items ρ' [])) E) : dLc ti g tt te vs ρ Q E := h
theorem w_lcK {vs : List Nat} {k : Env → Prop} (h1 : (vs.all fun i => decide (i < ρ.length)) = true) (h2 : wipeD ρ vs = ρ2) (h : k ρ2) : lcK ρ vs k := ⟨h1, by rw [h2]; exact h⟩
theorem w_true (h : QT true ρ) : dTrue ρ QT E := h
def caK (ms : List Bool) (xs : List Rv) (ρ : Env) (k : List D → Env → Prop) : Prop := ∃ ds ρ2, argL ms ρ xs = some (ds, ρ2) ∧ k ds ρ2
def baK (ρ0 : Env) (ms : List Bool) (ρ : Env) (xs : List Rv) (ds : List D) (k : Env → Prop) : Prop := ∃ ρ3, backL ρ0 ms ρ xs ds = some ρ3 ∧ k ρ3
theorem w_call {ms : List Bool} {s : SpD} (h : tA ρ (fun rs ρ1 => caK ms rs ρ1 fun ds ρ2 => s ds (fun res ds' => baK ρ1 ms ρ2 rs ds' fun ρ3 => Q (.t res) ρ3) (fun x ds' => baK ρ1 ms ρ2 rs ds' fun ρ3 => E x ρ3)) E) : dCall ms s tA ρ Q E := h
theorem w_caK {ms : List Bool} {k : List D → Env → Prop} {ds : List D} (h1 : argL ms ρ xs = some (ds, ρ2)) (h : k ds ρ2) : caK ms xs ρ k := ⟨ds, ρ2, h1, h⟩
theorem w_baK {ms : List Bool} {k : Env → Prop} {ds : List D} (h1 : backL ρ ms ρ1 xs ds = some ρ2) (h : k ρ2) : baK ρ ms ρ1 xs ds k := ⟨ρ2, h1, h⟩
def lcA (r : Rv) (ρ : Env) (vs : List Nat) (acc : List D) (k : Env → List D → Prop) : Prop := ∃ d' ρ4, tk ρ r = some (d', ρ4) ∧ acc.length < 100000 ∧ k (wipeD ρ4 vs) (acc ++ [d'])
theorem w_lcT {vs : List Nat} {acc : List D} {k : Env → List D → Prop} (hl : acc.length < 100000) (hw : wipeD ρ vs = ρ2) (h : k ρ2 (acc ++ [d])) : lcA (.t d) ρ vs acc k := ⟨d, ρ, rfl, hl, by rw [hw]; exact h⟩
theorem w_lcS {vs : List Nat} {acc : List D} {k : Env → List D → Prop} (h0 : slD ρ i = some d) (hz : d.isFz = true) (hl : acc.length < 100000) (hw : wipeD ρ vs = ρ2) (h : k ρ2 (acc ++ [d])) : lcA (.s i) ρ vs acc k := ⟨d, ρ, by simp only [tk, h0, hz, if_true], hl, by rw [hw]; exact h⟩
/-- a comprehension: for each, whether it is kept and what becomes of it -/
theorem lc_run {α : Type} {vs : List Nat} {f : α → D} {p : α → Bool} {w : α → D} {K : List D → Env → Prop} : ∀ {xs : List α} {acc : List D},
    (∀ a ∈ xs, ∀ (acc : List D) (k k' : Env → List D → Prop), acc.length < 100000 → (p a = true → k ρ (acc ++ [w a])) → (p a = false → k' ρ acc) →
      g (.t (f a)) ρ fun ρ1 => tt ρ1 (fun b ρ2 => if b = true then te ρ2 (fun r ρ3 => lcA r ρ3 vs acc k) (fun _ _ => False) else k' (wipeD ρ2 vs) acc) (fun _ _ => False)) →
    xs.length + acc.length ≤ 100000 → K (acc ++ (xs.filter p).map w) ρ → dLcL g tt te vs K (xs.map f) ρ acc
  | [], acc, _, _, h => by
    rw [List.filter_nil, List.map_nil, List.append_nil] at h
    exact h
  | a :: xs, acc, st, hl, h => by
    rw [List.length_cons] at hl
    rw [List.map_cons, dLcL]
    refine st a (List.mem_cons_self ..) acc _ (fun ρ' acc' => dLcL g tt te vs K (xs.map f) ρ' acc') (by omega) (fun hp => ?_) fun hp => ?_
    · refine lc_run (fun b hb => st b (List.mem_cons_of_mem _ hb)) (by rw [List.length_append, List.length_singleton]; omega) ?_
      rw [List.filter_cons_of_pos hp, List.map_cons] at h
      rw [List.append_assoc]
      exact h
    · refine lc_run (fun b hb => st b (List.mem_cons_of_mem _ hb)) (by omega) ?_
      rw [List.filter_cons_of_neg (by rw [hp]; decide)] at h
      exact h
/-- .. where all are kept -/
theorem lc_all {α : Type} {vs : List Nat} {f : α → D} {w : α → D} {K : List D → Env → Prop} {xs : List α}
    (st : ∀ a ∈ xs, ∀ (acc : List D) (k k' : Env → List D → Prop), acc.length < 100000 → k ρ (acc ++ [w a]) →
      g (.t (f a)) ρ fun ρ1 => tt ρ1 (fun b ρ2 => if b = true then te ρ2 (fun r ρ3 => lcA r ρ3 vs acc k) (fun _ _ => False) else k' (wipeD ρ2 vs) acc) (fun _ _ => False))
    (hl : xs.length ≤ 100000) (h : K (xs.map w) ρ) : dLcL g tt te vs K (xs.map f) ρ [] :=
  lc_run (p := fun _ => true) (fun a ha acc k k' hl h1 h2 => st a ha acc k k' hl (h1 rfl)) (by simpa using hl) (by
    have : xs.filter (fun _ => true) = xs := List.filter_eq_self.mpr fun _ _ => rfl
    rw [this]
    exact h)
end

/-! ### operators -/
section
variable {k : D → Prop} {i j : Int} {a b : Str}
theorem w_addI (h : k (.int (i + j))) : qAdd (.p (.int i)) (.p (.int j)) k := h
theorem w_addS (h0 : a.length + b.length ≤ 100000) (h : k (.str (a ++ b))) : qAdd (.p (.str a)) (.p (.str b)) k := ⟨h0, h⟩
theorem w_subI (h : k (.int (i - j))) : qSub (.p (.int i)) (.p (.int j)) k := ⟨trivial, h⟩
theorem w_mod (h0 : 0 < j) (h : k (.int (i % j))) : qMod (.p (.int i)) (.p (.int j)) k := ⟨h0, h⟩
theorem w_div (h0 : 0 < j ∧ j < 2 ^ 128) (h : k (.int (i / j))) : qDiv (.p (.int i)) (.p (.int j)) k := ⟨h0, h⟩
theorem w_neg (h : k (.int (-i))) : qNeg (.p (.int i)) k := h
theorem w_ltI (h : k (.bl (decide (i < j)))) : qLt (.p (.int i)) (.p (.int j)) k := h
theorem w_leI (h : k (.bl (decide (i ≤ j)))) : qLe (.p (.int i)) (.p (.int j)) k := h
theorem w_gtI (h : k (.bl (decide (j < i)))) : qGt (.p (.int i)) (.p (.int j)) k := h
theorem w_geI (h : k (.bl (decide (j ≤ i)))) : qGe (.p (.int i)) (.p (.int j)) k := h
end
/-! ### the run -/
section
variable {i j : Nat} {d : D} {q : List Nat} {r : Env} {s s' : Sl}
theorem kb_nil : killB i [] = [] := rfl
theorem kb_un : killB i (.un :: r) = .un :: killB i r := rfl
theorem kb_v : killB i (.v d :: r) = .v d :: killB i r := rfl
theorem kb_w : killB i (.w d :: r) = .w d :: killB i r := rfl
theorem kb_b : killB i (.b j q :: r) = (if j = i then Sl.un else .b j q) :: killB i r := rfl
theorem se0 : (s :: r).set 0 s' = s' :: r := rfl
theorem seS : (s :: r).set (i + 1) s' = s :: r.set i s' := rfl
theorem wi0 {ρ : Env} : wipeD ρ [] = ρ := rfl
theorem wiS {ρ : Env} {vs : List Nat} : wipeD ρ (i :: vs) = (killB i (wipeD ρ vs)).set i .un := rfl
end
def okV (ρ : Env) (i : Nat) : Bool := match ρ[i]? with
  | some (.w _) => false
  | some _ => true
  | none => false
theorem stV_v {ρ : Env} {i : Nat} {d : D} (h : okV ρ i = true) : stV ρ i d = some ((killB i ρ).set i (.v d)) := by
  unfold okV at h
  unfold stV
  generalize ρ[i]? = o at h ⊢
  cases o with
  | none => cases h
  | some s =>
    cases s with
    | un => rfl
    | v _ => rfl
    | w _ => cases h
    | b _ _ => rfl
section
variable {k : Env → Prop} {ρ ρ2 : Env} {i j : Nat} {d : D}
theorem w_nT (h0 : okV ρ i = true) (h1 : (killB i ρ).set i (.v d) = ρ2) (h : k ρ2) : dName i (.t d) ρ k := w_nameT (stV_v h0) (by rw [h1]; exact h)
theorem w_nS (hs : slD ρ j = some d) (hz : d.isFz = true) (h0 : okV ρ i = true) (h1 : (killB i ρ).set i (.v d) = ρ2) (h : k ρ2) : dName i (.s j) ρ k := w_nameS hs hz (stV_v h0) (by rw [h1]; exact h)
end
section
variable {k : D → Prop} {ds : List D} {d : D}
theorem w_sortI {ch : List D} {is : List Int} (h1 : listOf d = some ch) (h2 : intsOf ch = some is) (h3 : is.length ≤ 10000) (h : ∀ is' : List Int, is'.Perm is → is'.Pairwise (· ≤ ·) → k (eo is')) : qSortI [d] k := ⟨d, ch, is, rfl, h1, h2, h3, h⟩
theorem w_list {ch : List D} (h1 : itemsOf d = some ch) (h2 : isFzL ch = true) (h : k (.own ch)) : qList [d] k := ⟨d, ch, rfl, h1, h2, h⟩
theorem w_len {n : Nat} (h1 : lenD? d = some n) (h : k (.int (n : Nat))) : qLen [d] k := ⟨d, n, rfl, h1, h⟩
theorem w_all {ch : List D} {bs : List Bool} (h1 : listOf d = some ch) (h2 : blsOf ch = some bs) (h : k (.bl (bs.all id))) : qAll [d] k := ⟨d, ch, bs, rfl, h1, h2, h⟩
theorem w_any {ch : List D} {bs : List Bool} (h1 : listOf d = some ch) (h2 : blsOf ch = some bs) (h : k (.bl (bs.any id))) : qAny [d] k := ⟨d, ch, bs, rfl, h1, h2, h⟩
theorem w_isi {n : String} (h1 : (tyKnown (tyN d) && tyKnown n && n != "NoneType") = true) (h : k (.bl (isiB (tyN d) n))) : qIsi [d, .p (.ty n)] k := by
  simp only [Bool.and_eq_true, bne_iff_ne, ne_eq] at h1
  exact ⟨d, n, rfl, ⟨h1.1.1, h1.1.2, h1.2⟩, h⟩
theorem ints_e (is : List Int) : intsOf (is.map en) = some is := intsOf_of is
theorem bls_e (is : List Bool) : blsOf (is.map en) = some is := blsOf_of is
theorem ints_m {α : Type} (f : α → Int) (xs : List α) : intsOf (xs.map fun x => .p (.int (f x))) = some (xs.map f) := by
  have := intsOf_of (xs.map f)
  rwa [List.map_map] at this
theorem bls_m {α : Type} (f : α → Bool) (xs : List α) : blsOf (xs.map fun x => .p (.bl (f x))) = some (xs.map f) := by
  have := blsOf_of (xs.map f)
  rwa [List.map_map] at this
end

section
variable {ρ ρ1 ρ2 : Env} {Q : Rv → Env → Prop} {QO : Option Int → Env → Prop} {QI : List D → Env → Prop} {E : Exn → Env → Prop} {ta tb tc te : DE} {tA : DA} {r r' : Op2} {x y : Rv} {xs : List Rv} {d d' : D} {i : Nat} {v : V}
def chK (r r' : Op2) (x y : Rv) (ρ : Env) (tc : DE) (Q : Rv → Env → Prop) (E : Exn → Env → Prop) : Prop := ∃ d e, look ρ x = some d ∧ look ρ y = some e ∧ r d e fun z => ∃ b, z = .p (.bl b) ∧
  if b = true then tc ρ (fun y' ρ3 => opK r' y y' ρ3 fun z => Q (.t z) ρ3) E else Q (.t (.p (.bl false))) ρ
theorem w_chain (h : ta ρ (fun x ρ1 => tb ρ1 (fun y ρ2 => chK r r' x y ρ2 tc Q E) E) E) : dChain r r' ta tb tc ρ Q E := h
def isB (k : Bool → Prop) (z : D) : Prop := ∃ b, z = .p (.bl b) ∧ k b
theorem w_isB {k : Bool → Prop} {b : Bool} (h : k b) : isB k (.p (.bl b)) := ⟨b, rfl, h⟩
theorem w_chK (h1 : look ρ x = some d) (h2 : look ρ y = some d') (h : r d d' fun z => isB (fun b => if b = true then tc ρ (fun y' ρ3 => opK r' y y' ρ3 fun z => Q (.t z) ρ3) E else Q (.t (.p (.bl false))) ρ) z) : chK r r' x y ρ tc Q E := ⟨d, d', h1, h2, h⟩
def rg1K (xs : List Rv) (ρ : Env) (k : List D → Env → Prop) : Prop := ∃ j : Int, lookL ρ xs = some [.p (.int j)] ∧ (-(2 ^ 62) ≤ j ∧ j < 2 ^ 62) ∧ k (rngL 0 j.toNat) ρ
theorem w_rng1 (h : tA ρ (fun rs ρ1 => rg1K rs ρ1 QI) E) : dIRng1 tA ρ QI E := h
theorem w_rg1K {k : List D → Env → Prop} {j : Int} (h1 : lookL ρ xs = some [.p (.int j)]) (h2 : -(2 ^ 62) ≤ j ∧ j < 2 ^ 62) (h : k ((List.range j.toNat).map fun i => .p (.int (i : Nat))) ρ) : rg1K xs ρ k := ⟨j, h1, h2, by
  unfold rngL
  simpa only [Int.zero_add] using h⟩
def rg2K (xs : List Rv) (ρ : Env) (k : List D → Env → Prop) : Prop := ∃ i j : Int, lookL ρ xs = some [.p (.int i), .p (.int j)] ∧ (-(2 ^ 62) ≤ i ∧ i < 2 ^ 62 ∧ -(2 ^ 62) ≤ j ∧ j < 2 ^ 62) ∧ k (rngL i (j - i).toNat) ρ
theorem w_rng2 (h : tA ρ (fun rs ρ1 => rg2K rs ρ1 QI) E) : dIRng2 tA ρ QI E := h
theorem w_rg2K {k : List D → Env → Prop} {i j : Int} (h1 : lookL ρ xs = some [.p (.int i), .p (.int j)]) (h2 : -(2 ^ 62) ≤ i ∧ i < 2 ^ 62 ∧ -(2 ^ 62) ≤ j ∧ j < 2 ^ 62) (h : k ((List.range (j - i).toNat).map fun n => .p (.int (i + (n : Nat)))) ρ) : rg2K xs ρ k := ⟨i, j, h1, h2, h⟩
def mu2K (i : Nat) (m : OpM) (xs : List Rv) (ρ : Env) (k : D → Env → Prop) : Prop := ∃ es ρ2 s kd ch, tkL ρ xs = some (es, ρ2) ∧ ρ2[i]? = some s ∧ s.d? = some (.n true kd ch) ∧ m kd ch es fun k' ch' res => k res ((killB i ρ2).set i (s.re (.n true k' ch')))
theorem w_mut {T : String} {m : OpM} (h0 : ∃ s d, ρ[i]? = some s ∧ s.d? = some d ∧ tyM d = T ∧ (T = "list" ∨ T = "dict")) (h : tA ρ (fun rs ρ1 => mu2K i m rs ρ1 fun res ρ3 => Q (.t res) ρ3) E) : dMut T i m tA ρ Q E := ⟨h0, h⟩
/-- append -/
theorem w_appV {k : D → Env → Prop} {ch : List D} {e : D} (h1 : tkL ρ xs = some ([e], ρ2)) (h2 : ρ2[i]? = some (.v (.n true .lst ch))) (h3 : ch.length < 100000) (h4 : (killB i ρ2).set i (.v (.n true .lst (ch ++ [e]))) = ρ1) (h : k .non ρ1) : mu2K i mAppend xs ρ k :=
  ⟨[e], ρ2, _, .lst, ch, h1, h2, rfl, e, rfl, rfl, h3, by
    show k .non ((killB i ρ2).set i (.v (.n true .lst (ch ++ [e]))))
    rw [h4]
    exact h⟩
/-- .. of plain things -/
theorem w_appE {α : Type} {inst : Enc α} {k : D → Env → Prop} {ch : List α} {e : α} (h1 : tkL ρ xs = some ([en e], ρ2)) (h2 : ρ2[i]? = some (.v (eo ch))) (h3 : ch.length < 100000) (h4 : (killB i ρ2).set i (.v (eo (ch ++ [e]))) = ρ1) (h : k .non ρ1) : mu2K i mAppend xs ρ k :=
  w_appV (ch := ch.map en) h1 h2 (by rw [List.length_map]; exact h3) (by
    rw [← h4]
    unfold eo
    rw [List.map_append]
    rfl) h
def cutK (lo hi : Option Int) (x : Rv) (ρ : Env) (k : D → Prop) : Prop := ∃ d, look ρ x = some d ∧ qCut lo hi d k
theorem w_cut {tl th : DO} (h : te ρ (fun r ρ1 => tl ρ1 (fun lo ρ2 => th ρ2 (fun hi ρ3 => cutK lo hi r ρ3 fun z => Q (.t z) ρ3) E) E) E) : dCut te tl th ρ Q E := h
def ptK (x : Rv) (ρ : Env) (k : Option Int → Env → Prop) : Prop := ∃ i, look ρ x = some (.p (.int i)) ∧ k (some i) ρ
theorem w_part (h : te ρ (fun r ρ1 => ptK r ρ1 QO) E) : dPart te ρ QO E := h
theorem w_ptK {k : Option Int → Env → Prop} {j : Int} (h1 : look ρ x = some (.p (.int j))) (h : k (some j) ρ) : ptK x ρ k := ⟨j, h1, h⟩
theorem w_noPart (h : QO none ρ) : dNoPart ρ QO E := h
theorem cutD_map {α β : Type} (f : α → β) (xs : List α) (lo hi : Option Int) : cutD (xs.map f) lo hi = (cutD xs lo hi).map f := by
  unfold cutD
  rw [List.length_map, ← List.map_drop, ← List.map_take]
theorem w_cutE {α : Type} {inst : Enc α} {k : D → Prop} {ys : List α} {lo hi : Option Int} (h1 : look ρ x = some d) (h2 : listOf d = some (ys.map en)) (h : k (eo (cutD ys lo hi))) : cutK lo hi x ρ k := by
  refine ⟨d, h1, ?_⟩
  cases d with
  | p _ => simp [listOf] at h2
  | n o kd ch =>
    cases kd with
    | lst =>
      simp only [listOf, Option.some.injEq] at h2
      subst h2
      refine ⟨?_, ?_⟩
      · rw [cutD_map, fzl_e]
      · rw [cutD_map]; exact h
    | lok =>
      simp only [listOf, Option.some.injEq] at h2
      subst h2
      refine ⟨?_, ?_⟩
      · rw [cutD_map, fzl_e]
      · rw [cutD_map]; exact h
    | tup => simp [listOf] at h2
    | tok => simp [listOf] at h2
    | dic _ => simp [listOf] at h2
    | dit _ => simp [listOf] at h2
    | obj _ _ => simp [listOf] at h2
    | exc _ _ => simp [listOf] at h2
def kwK (xs : List Rv) (ρ : Env) (k : List D → Env → Prop) : Prop := ∃ ds ρ2, tkFL ρ xs = some (ds, ρ2) ∧ k ds ρ2
theorem w_callK {g : {α : Type} → List α → List α → List α} {s : SpD} {tk : DA} (h : tA ρ (fun rs ρ1 => kwK rs ρ1 fun ds ρ2 => tk ρ2 (fun zs ρ3 => kwK zs ρ3 fun es ρ4 => s (g ds es) (fun res _ => Q (.t res) ρ4) (fun x _ => E x ρ4)) E) E) : dCallK g s tA tk ρ Q E := h
theorem w_kwK {k : List D → Env → Prop} {ds : List D} (h1 : tkFL ρ xs = some (ds, ρ2)) (h : k ds ρ2) : kwK xs ρ k := ⟨ds, ρ2, h1, h⟩
/-- x[i] -/
theorem w_ixE {α : Type} {inst : Enc α} {k : D → Prop} {ys : List α} {a : α} {j : Int} (h1 : listOf d = some (ys.map en)) (h2 : atI ys j = some a) (h : k (en a)) : qIxS d (.p (.int j)) k := by
  have e : atI (ys.map (en : α → D)) j = some (en a) := by
    unfold atI at h2 ⊢
    rw [List.length_map]
    cases hj : ixN ys.length j with
    | none => rw [hj] at h2; cases h2
    | some m =>
      rw [hj] at h2
      simp only [Option.bind_some] at h2 ⊢
      rw [List.getElem?_map, h2]
      rfl
  cases d with
  | p _ => simp [listOf] at h1
  | n o kd ch =>
    cases kd with
    | lst =>
      simp only [listOf, Option.some.injEq] at h1
      subst h1
      exact ⟨_, e, Enc.fz a, h⟩
    | lok =>
      simp only [listOf, Option.some.injEq] at h1
      subst h1
      exact ⟨_, e, Enc.fz a, h⟩
    | tup => simp [listOf] at h1
    | tok => simp [listOf] at h1
    | dic _ => simp [listOf] at h1
    | dit _ => simp [listOf] at h1
    | obj _ _ => simp [listOf] at h1
    | exc _ _ => simp [listOf] at h1
theorem at_nat {α : Type} {ys : List α} {m : Nat} {j : Int} (h : j = (m : Nat)) (hl : m < ys.length) : atI ys j = some ys[m] := by
  subst h
  unfold atI ixN
  rw [if_pos (by omega), if_pos (by omega)]
  simp [hl]
theorem at_neg {α : Type} {ys : List α} {m : Nat} {j : Int} (h : j + (ys.length : Nat) = (m : Nat)) (h0 : j < 0) : atI ys j = ys[m]? := by
  unfold atI ixN
  rw [if_neg (by omega), if_pos (by omega), Option.bind_some, h]
  simp
end

section
variable {p q : Prop} {b : Bool}
theorem w_ifNT (h : q) : if (!true) = true then p else q := w_if_f rfl h
theorem w_ifNF (h : p) : if (!false) = true then p else q := w_if_t rfl h
end
theorem w_loopNil {g : DG} {t : DS} {n : Env → Prop} {rt : D → Env → Prop} {bk ct : Env → Prop} {ex : Exn → Env → Prop} {ρ : Env} (h : n ρ) : dLoop g t ⟨n, rt, bk, ct, ex⟩ [] ρ := h
theorem w_lcNil {g : DG} {tt : DT} {te : DE} {vs : List Nat} {K : List D → Env → Prop} {ρ : Env} {acc : List D} (h : K acc ρ) : dLcL g tt te vs K [] ρ acc := h

section
variable {α : Type} [Enc α] {ρ : Env} {k : List D → Env → Prop} {xs : List α} {i : Nat}
theorem w_itO (h : k (xs.map en) ρ) : itK (.t (eo xs)) ρ k := w_itK (d := en xs) (by simp only [tkF, tk, fr_eo]) rfl h
theorem w_itN (h : k (xs.map en) ρ) : itK (.t (en xs)) ρ k := w_itK (d := en xs) (by simp only [tkF, tk, fr_e]) rfl h
omit [Enc α] in
theorem w_itS {inst : Enc α} {d : D} {xs : List α} (h0 : slD ρ i = some d) (hd : d = en xs) (h : k (xs.map en) ρ) : itK (.s i) ρ k := w_itK (d := en xs) (by subst hd; simp only [tkF, tk, h0, fz_e, if_true, fr_e]) rfl h
end
def Fr (s : Sl) : Prop := s = .un ∨ ∃ d, s = .v d
theorem fr_un : Fr .un := .inl rfl
theorem fr_v (d : D) : Fr (.v d) := .inr ⟨d, rfl⟩

/-- a script's list -/
abbrev ek {α : Type} [Enc α] (xs : List α) : D := .n false .lok (xs.map en)
section
variable {α : Type} [Enc α]
theorem fz_ek (xs : List α) : (ek xs).isFz = true := by unfold ek; rw [D.isFz, fzl_e]; rfl
theorem fr_ek (xs : List α) : (ek xs).fz = ek xs := fz_of (fz_ek xs)
theorem py_ek (xs : List α) : toPy (ek xs) = toPy (en xs) := by
  show toPy (.n false .lok _) = toPy (.n false .lst _)
  rw [toPy, toPy]
omit [Enc α] in
theorem eqD_py {inst : Enc α} {a b : D} {x y : α} (h1 : toPy a = toPy (en x)) (h2 : toPy b = toPy (en y)) : eqD a b = dc (x = y) := by
  rw [← eqD_e]
  unfold eqD
  rw [h1, h2]
omit [Enc α] in
theorem w_eqP {inst : Enc α} {k : D → Prop} {a b : D} {x y : α} (h1 : toPy a = toPy (en x)) (h2 : toPy b = toPy (en y)) (hd : Enc.dep α ≤ 64) (h : k (.bl (dc (x = y)))) : qEq a b k := by
  have hx := ok_of (x := x) hd
  have hy := ok_of (x := y) hd
  refine ⟨⟨?_, ?_⟩, ?_⟩
  · unfold okD at hx ⊢; rw [h1]; exact hx
  · unfold okD at hy ⊢; rw [h2]; exact hy
  · rw [eqD_py h1 h2]; exact h
omit [Enc α] in
theorem w_neP {inst : Enc α} {k : D → Prop} {a b : D} {x y : α} (h1 : toPy a = toPy (en x)) (h2 : toPy b = toPy (en y)) (hd : Enc.dep α ≤ 64) (h : k (.bl (!dc (x = y)))) : qNe a b k := by
  have hx := ok_of (x := x) hd
  have hy := ok_of (x := y) hd
  refine ⟨⟨?_, ?_⟩, ?_⟩
  · unfold okD at hx ⊢; rw [h1]; exact hx
  · unfold okD at hy ⊢; rw [h2]; exact hy
  · rw [eqD_py h1 h2]; exact h
omit [Enc α] in
theorem py_nil {inst : Enc α} {o : Bool} : toPy (.n o .lst []) = toPy (en ([] : List α)) := rfl
omit [Enc α] in
theorem w_itK' {inst : Enc α} {ρ : Env} {i : Nat} {k : List D → Env → Prop} {xs : List α} (h0 : slD ρ i = some (ek xs)) (h : k (xs.map en) ρ) : itK (.s i) ρ k := w_itK (d := ek xs) (by simp only [tkF, tk, h0, fz_ek, if_true, fr_ek]) rfl h
omit [Enc α] in
theorem inD_e {inst : Enc α} (x : α) (ys : List α) : inD (en x) (ys.map en) = dc (x ∈ ys) := by
  unfold inD
  rw [List.any_map]
  induction ys with
  | nil => rw [dc_f.mpr (by simp)]; rfl
  | cons y ys ih =>
    rw [List.any_cons, ih, Function.comp, eqD_e]
    by_cases h : y = x
    · subst h
      rw [dc_t.mpr rfl, dc_t.mpr (List.mem_cons_self ..)]; rfl
    · rw [dc_f.mpr h, Bool.false_or]
      by_cases g : x ∈ ys
      · rw [dc_t.mpr g, dc_t.mpr (List.mem_cons_of_mem _ g)]
      · rw [dc_f.mpr g, dc_f.mpr fun z => (List.mem_cons.mp z).elim (fun z => h z.symm) g]
omit [Enc α] in
theorem w_inL {inst : Enc α} {k : D → Prop} {d : D} {x : α} {ys : List α} {neg : Bool} (h1 : listOf d = some (ys.map en)) (hd : Enc.dep α + 1 ≤ 64) (h : k (.bl (if neg = true then !dc (x ∈ ys) else dc (x ∈ ys)))) : qInS neg (en x) d k := by
  have hx := ok_of (x := x) (by omega)
  have hy := ok_of (α := List α) (x := ys) hd
  rw [← inD_e] at h
  cases d with
  | p _ => simp [listOf] at h1
  | n o kd ch =>
    have fin : (kd = .lst ∨ kd = .lok) → ch = ys.map en → qInS neg (en x) (.n o kd ch) k := by
      rintro hk rfl
      have hy' : okD (.n o kd (ys.map en)) = true := by
        rcases hk with rfl | rfl
        · unfold okD at hy ⊢
          have : toPy (.n o .lst (ys.map en)) = toPy (en ys) := by
            show toPy (.n o .lst _) = toPy (.n false .lst _)
            rw [toPy, toPy]
          rw [this]; exact hy
        · unfold okD at hy ⊢
          have : toPy (.n o .lok (ys.map en)) = toPy (en ys) := by
            show toPy (.n o .lok _) = toPy (.n false .lst _)
            rw [toPy, toPy]
          rw [this]; exact hy
      rcases hk with rfl | rfl
      · exact ⟨⟨rfl, hx, hy'⟩, h⟩
      · exact ⟨⟨rfl, hx, hy'⟩, h⟩
    cases kd with
    | lst => exact fin (.inl rfl) (by simpa [listOf] using h1)
    | lok => exact fin (.inr rfl) (by simpa [listOf] using h1)
    | tup => simp [listOf] at h1
    | tok => simp [listOf] at h1
    | dic _ => simp [listOf] at h1
    | dit _ => simp [listOf] at h1
    | obj _ _ => simp [listOf] at h1
    | exc _ _ => simp [listOf] at h1
end

section
variable {ρ ρ1 ρ2 : Env} {ms : List Bool} {rs : List Rv} {ds es : List D} {d d' : D} {i : Nat}
theorem ag_nil : argL [] ρ [] = some ([], ρ) := rfl
theorem ag_fS (h0 : slD ρ i = some d) (hz : d.isFz = true) (h : argL ms ρ rs = some (ds, ρ2)) : argL (false :: ms) ρ (.s i :: rs) = some (d :: ds, ρ2) := by
  simp only [argL, tkF, tk, h0, hz, if_true, fz_of hz, h]
theorem ag_fT (hz : d.fz = d') (h : argL ms ρ rs = some (ds, ρ2)) : argL (false :: ms) ρ (.t d :: rs) = some (d' :: ds, ρ2) := by
  simp only [argL, tkF, tk, hz, h]
theorem ag_tT (h : argL ms ρ rs = some (ds, ρ2)) : argL (true :: ms) ρ (.t d :: rs) = some (d :: ds, ρ2) := by
  simp only [argL, outV, h]
theorem ag_tV (h0 : ρ[i]? = some (.v d)) (h1 : (killB i ρ).set i .un = ρ1) (h : argL ms ρ1 rs = some (ds, ρ2)) : argL (true :: ms) ρ (.s i :: rs) = some (d :: ds, ρ2) := by
  simp only [argL, outV, h0, h1, h]
theorem ag_tW (h0 : ρ[i]? = some (.w d)) (h1 : (killB i ρ).set i .un = ρ1) (h : argL ms ρ1 rs = some (ds, ρ2)) : argL (true :: ms) ρ (.s i :: rs) = some (d :: ds, ρ2) := by
  simp only [argL, outV, h0, h1, h]
theorem ba_nil {ρ0 : Env} : backL ρ0 [] ρ [] [] = some ρ := rfl
theorem ba_f {ρ0 : Env} {r : Rv} (h : backL ρ0 ms ρ rs ds = some ρ2) : backL ρ0 (false :: ms) ρ (r :: rs) (d :: ds) = some ρ2 := h
theorem ba_tT {ρ0 : Env} (h : backL ρ0 ms ρ rs ds = some ρ2) : backL ρ0 (true :: ms) ρ (.t d' :: rs) (d :: ds) = some ρ2 := h
theorem ba_tV {ρ0 : Env} (h0 : (isUn ρ[i]? && noB [i] ρ) = true) (h1 : ρ0[i]? = some (.v d')) (h2 : ρ.set i (.v d) = ρ1) (h : backL ρ0 ms ρ1 rs ds = some ρ2) : backL ρ0 (true :: ms) ρ (.s i :: rs) (d :: ds) = some ρ2 := by
  simp only [backL, backV, h0, h1, if_true, h2, h]
theorem ba_tW {ρ0 : Env} (h0 : (isUn ρ[i]? && noB [i] ρ) = true) (h1 : ρ0[i]? = some (.w d')) (h2 : ρ.set i (.w d) = ρ1) (h : backL ρ0 ms ρ1 rs ds = some ρ2) : backL ρ0 (true :: ms) ρ (.s i :: rs) (d :: ds) = some ρ2 := by
  simp only [backL, backV, h0, h1, if_true, h2, h]
theorem tl_nil : tkL ρ [] = some ([], ρ) := rfl
theorem tl_S (h0 : slD ρ i = some d) (hz : d.isFz = true) (h : tkL ρ rs = some (ds, ρ2)) : tkL ρ (.s i :: rs) = some (d :: ds, ρ2) := by
  simp only [tkL, tk, h0, hz, if_true, h]
theorem tl_T (h : tkL ρ rs = some (ds, ρ2)) : tkL ρ (.t d :: rs) = some (d :: ds, ρ2) := by
  simp only [tkL, tk, h]
theorem tf_nil : tkFL ρ [] = some ([], ρ) := rfl
theorem tf_S (h0 : slD ρ i = some d) (hz : d.isFz = true) (h : tkFL ρ rs = some (ds, ρ2)) : tkFL ρ (.s i :: rs) = some (d :: ds, ρ2) := by
  simp only [tkFL, tkF, tk, h0, hz, if_true, fz_of hz, h]
theorem tf_T (hz : d.fz = d') (h : tkFL ρ rs = some (ds, ρ2)) : tkFL ρ (.t d :: rs) = some (d' :: ds, ρ2) := by
  simp only [tkFL, tkF, tk, hz, h]
/-- an own thing in a slot, shared from now on -/
theorem tl_O (h0 : ρ[i]? = some (.v d)) (hz : d.isFz = false) (hf : d.fz = d') (h1 : (killB i ρ).set i (.v d') = ρ1) (h : tkL ρ1 rs = some (ds, ρ2)) : tkL ρ (.s i :: rs) = some (d' :: ds, ρ2) := by
  have hs : slD ρ i = some d := by simp only [slD, h0]
  simp only [tkL, tk, hs, hz, h0, hf, h1, h, Bool.false_eq_true, if_false]
theorem tf_O (h0 : ρ[i]? = some (.v d)) (hz : d.isFz = false) (hf : d.fz = d') (h1 : (killB i ρ).set i (.v d') = ρ1) (h : tkFL ρ1 rs = some (ds, ρ2)) : tkFL ρ (.s i :: rs) = some (d' :: ds, ρ2) := by
  have hs : slD ρ i = some d := by simp only [slD, h0]
  have hd : d'.fz = d' := by rw [← hf]; exact fz_of (isFz_fz d)
  simp only [tkFL, tkF, tk, hs, hz, h0, hf, h1, h, Bool.false_eq_true, if_false, hd]
theorem ag_fO (h0 : ρ[i]? = some (.v d)) (hz : d.isFz = false) (hf : d.fz = d') (h1 : (killB i ρ).set i (.v d') = ρ1) (h : argL ms ρ1 rs = some (ds, ρ2)) : argL (false :: ms) ρ (.s i :: rs) = some (d' :: ds, ρ2) := by
  have hs : slD ρ i = some d := by simp only [slD, h0]
  have hd : d'.fz = d' := by rw [← hf]; exact fz_of (isFz_fz d)
  simp only [argL, tkF, tk, hs, hz, h0, hf, h1, h, Bool.false_eq_true, if_false, hd]
theorem w_itF {ch : List D} {k : List D → Env → Prop} (h0 : ρ[i]? = some (.v d)) (hz : d.isFz = false) (hf : d.fz = d') (h1 : (killB i ρ).set i (.v d') = ρ1) (h2 : itemsOf d' = some ch) (h : k ch ρ1) : itK (.s i) ρ k := by
  have hs : slD ρ i = some d := by simp only [slD, h0]
  have hd : d'.fz = d' := by rw [← hf]; exact fz_of (isFz_fz d)
  exact w_itK (d := d') (by simp only [tkF, tk, hs, hz, h0, hf, h1, Bool.false_eq_true, if_false, hd]) h2 h
theorem w_nO {k : Env → Prop} {j : Nat} (h0 : ρ[j]? = some (.v d)) (hz : d.isFz = false) (hf : d.fz = d') (h1 : (killB j ρ).set j (.v d') = ρ1) (hk : okV ρ1 i = true) (h2 : (killB i ρ1).set i (.v d') = ρ2) (h : k ρ2) : dName i (.s j) ρ k := by
  have hs : slD ρ j = some d := by simp only [slD, h0]
  refine ⟨d', ρ1, ρ2, by simp only [tk, hs, hz, h0, hf, h1, Bool.false_eq_true, if_false], ?_, h⟩
  rw [stV_v hk, h2]
theorem w_isiT {n : String} {k : D → Prop} (h1 : (tyKnown (tyN d) && tyKnown n && n != "NoneType") = true) (h2 : isiB (tyN d) n = true) (h : k (.bl true)) : qIsi [d, .p (.ty n)] k := w_isi h1 (by rw [h2]; exact h)
theorem w_isiF {n : String} {k : D → Prop} (h1 : (tyKnown (tyN d) && tyKnown n && n != "NoneType") = true) (h2 : isiB (tyN d) n = false) (h : k (.bl false)) : qIsi [d, .p (.ty n)] k := w_isi h1 (by rw [h2]; exact h)
end

section
variable {n : Env → Prop} {rt : D → Env → Prop} {bk ct : Env → Prop} {ex : Exn → Env → Prop} {ρ : Env} {t u : DS}
/-- a statement by itself -/
theorem w_cut1 (I : Env → Prop) (h : ∀ k : Env → Prop, (∀ ρ', I ρ' → k ρ') → t ⟨k, rt, bk, ct, ex⟩ ρ) (h2 : ∀ ρ', I ρ' → u ⟨n, rt, bk, ct, ex⟩ ρ') : dSeq t u ⟨n, rt, bk, ct, ex⟩ ρ := h _ h2
end
theorem at_in {α : Type} {ys : List α} {j : Int} (h0 : 0 ≤ j) (h1 : j < (ys.length : Nat)) : ∃ a, a ∈ ys ∧ atI ys j = some a := by
  have hl : j.toNat < ys.length := by omega
  exact ⟨ys[j.toNat], List.getElem_mem hl, at_nat (by omega) hl⟩
section
variable {ρ : Env} {te : DE} {tt : DT} {g : DG} {α β : Type}
theorem lc_enc [Enc β] {vs : List Nat} {F : α → D} (f : α → β) {K : List D → Env → Prop} {xs : List α}
    (st : ∀ a ∈ xs, ∀ (acc : List D) (k k' : Env → List D → Prop), acc.length < 100000 → k ρ (acc ++ [en (f a)]) →
      g (.t (F a)) ρ fun ρ1 => tt ρ1 (fun b ρ2 => if b = true then te ρ2 (fun r ρ3 => lcA r ρ3 vs acc k) (fun _ _ => False) else k' (wipeD ρ2 vs) acc) (fun _ _ => False))
    (hl : xs.length ≤ 100000) (h : K ((xs.map f).map en) ρ) : dLcL g tt te vs K (xs.map F) ρ [] :=
  lc_all (w := fun a => en (f a)) st hl (by rw [List.map_map] at h; exact h)
theorem lc_fil [Enc β] {vs : List Nat} {F : α → D} (p : α → Bool) (f : α → β) {K : List D → Env → Prop} {xs : List α}
    (st : ∀ a ∈ xs, ∀ (acc : List D) (k k' : Env → List D → Prop), acc.length < 100000 → (p a = true → k ρ (acc ++ [en (f a)])) → (p a = false → k' ρ acc) →
      g (.t (F a)) ρ fun ρ1 => tt ρ1 (fun b ρ2 => if b = true then te ρ2 (fun r ρ3 => lcA r ρ3 vs acc k) (fun _ _ => False) else k' (wipeD ρ2 vs) acc) (fun _ _ => False))
    (hl : xs.length ≤ 100000) (h : K (((xs.filter p).map f).map en) ρ) : dLcL g tt te vs K (xs.map F) ρ [] :=
  lc_run (w := fun a => en (f a)) st (by simpa using hl) (by rw [List.map_map] at h; exact h)
end
end DL
/-! DL14: raise, try, methods of texts, stores at an index. -/
namespace DL
open PySem L2
section
variable {X : Cx} {cn : String → Addr} {E : WX}
def dRaise (nm : String) : DS := fun D ρ => D.ex ⟨nm, none⟩ ρ
theorem js_raise {C : Addr} {bmB : List Value} {B newId initId : String} {x m : Str} {nm : String} {j : Nat} {p p2 pos pos' : Pos} (hc : X.calm = true) (tk : Takes X E) (hC : cn nm = C) (F : ExcBaseFacts B newId initId bmB) (q : PySem.W.excIn X.K C bmB newId = true) (gC : X.mg x = some (.ref C))
    (kC : PySem.W.keepIn X.K (.ref C) = true) (r : Raises X (.ref C)) (hg : Gl X x) (hdb : (x == ("__debug__" : Str)) = false := by decide) :
    JS X cn E (.Raise (some (.Call (.Name x p) [.Constant (.str m) j p2] [] pos)) none pos') (dRaise nm) :=
  ps_imp (ps_raise hc tk (pmk_own F q gC kC r hg hdb)) fun D σ H ⟨pv, γ, ρ, G, fp, D0, m, q, po⟩ =>
    po.ex ⟨nm, none⟩ ρ (.ref C) none σ G H fp q (Stp.refl _ _ _) m rfl ⟨by rw [hC], rfl⟩
/-- try: tb except some class: ts; which of the errors of the body it takes -/
def dTry (ns : List (String × Bool)) (tb ts : DS) : DS := fun D ρ => tb { D with ex := fun x ρ' => match ns.lookup x.name with
  | some true => ts D ρ'
  | some false => D.ex x ρ'
  | none => False } ρ
theorem look_mem {ns : List (String × Bool)} {s : String} {b : Bool} (h : ns.lookup s = some b) : (s, b) ∈ ns := by
  induction ns with
  | nil => cases h
  | cons p ns ih =>
    obtain ⟨a, c⟩ := p
    rw [List.lookup_cons] at h
    split at h
    · rename_i e
      have := beq_iff_eq.mp e
      cases h
      subst this
      exact List.mem_cons_self ..
    · exact List.mem_cons_of_mem _ (ih h)
/-! ### methods of texts -/
def qStr0 (C : Str → Prop) (g : Str → V) : D → (D → Prop) → Prop
  | .p (.str a), Q => C a ∧ Q (.p (g a))
  | _, _ => False
theorem je_m0 {o : Expr} {ta : DE} {C : Str → Prop} {g : Str → V} {id : String} {name : Str} {apos pos : Pos} (slot : Slot "str" name id) (ty : typeOf (.builtin id) = pure (.type "method_descriptor"))
    (rule : MtR X id (fun x xs H Q => ∃ a, x = .str a ∧ xs = [] ∧ C a ∧ Q (g a) H)) (ho : JE X cn E o ta)
    (hbase : attributeBase o name X.env (eval o X.env) = eval o X.env := by rfl) (hline : (apos.endLine == pos.line) = true := by rfl) : JE X cn E (.Call (.Attribute o name apos) [] [] pos) (dUn (qStr0 C g) ta) :=
  pe_imp (pe_m0 slot ty rule ho hbase hline) fun σ H Q ⟨pv, γ, ρ, G, fp, Q0, E0, m, q, po, px⟩ => ⟨pv, γ, ρ, G, fp, _, E0, m, q, fun x ρ1 v G1 H1 fp1 F1 ⟨d, l1, q1⟩ s1 m1 o1 => by
    unfold qStr0 at q1
    split at q1
    · have := look_p m1 o1 l1
      subst this
      obtain ⟨f1, f2, f3⟩ := fin_new m1 s1 (fun a z => .inl z) (Stp.refl G1 H1 (fun _ => False)) m1.sub
      exact ⟨⟨_, rfl⟩, _, rfl, rfl, q1.1, po (.t _) ρ1 _ G1 H1 fp1 [] q1.2 (f1.mono (fun _ z => z) fun a z => .inl (z.elim .inl fun z => by cases z)) f2 ⟨Rp.p _, fun a z => by cases z⟩⟩
    · exact q1.elim, px⟩
def qIsdigit := qStr0 (fun _ => True) fun a => .bl (Txt.isdigit a)
def qIsalpha := qStr0 (fun _ => True) fun a => .bl (Txt.isalpha a)
/-- a method of a text with one argument -/
def dM1 (r : Op2) (ta tb : DE) : DE := fun ρ Q E => ta ρ (fun x ρ1 => (∃ a, look ρ1 x = some (.p (.str a))) ∧ tb ρ1 (fun y ρ2 => ∃ d e, look ρ2 x = some d ∧ look ρ2 y = some e ∧ r d e fun z => Q (.t z) ρ2) E) E
def qJoin : Op2
  | .p (.str a), e, Q => ∃ ys : List Str, itemsOf e = some (ys.map fun y => .p (.str y)) ∧ (ys.map (·.length)).sum + ys.length * a.length ≤ 16777216 ∧ Q (.str (Txt.join a ys))
  | _, _, _ => False
/-! ### x[i] = e -/
theorem RpL.set {K : PySem.W.Frag} {G H : Hp} {y : V} {d : D} {Fw : List Addr} (ry : Rp K G H y d Fw) : ∀ {vs : List V} (ds : List D) {F : List Addr} (j : Nat), RpL K G H vs ds F → (∀ b ∈ Fw, b ∉ F) → ∃ F', RpL K G H (vs.set j y) (ds.set j d) F' ∧ ∀ b ∈ F', b ∈ F ∨ b ∈ Fw
  | _, [], F, j, h, _ => by
    cases h
    exact ⟨[], .nil, fun b z => by cases z⟩
  | _, c :: cs, _, 0, h, dj => by
    cases h with
    | cons h1 h2 h3 =>
      refine ⟨_, RpL.cons ry h2 fun b hb z => dj b hb (List.mem_append_right _ z), fun b z => ?_⟩
      rcases List.mem_append.mp z with z | z
      · exact .inr z
      · exact .inl (List.mem_append_right _ z)
  | _, c :: cs, _, j + 1, h, dj => by
    cases h with
    | cons h1 h2 h3 =>
      obtain ⟨F', r', i'⟩ := RpL.set ry cs j h2 fun b hb z => dj b hb (List.mem_append_right _ z)
      refine ⟨_, RpL.cons h1 r' fun b hb z => ?_, fun b z => ?_⟩
      · rcases i' b z with y | y
        · exact h3 b hb y
        · exact dj b y (List.mem_append_left _ hb)
      · rcases List.mem_append.mp z with z | z
        · exact .inl (List.mem_append_left _ z)
        · exact (i' b z).imp (List.mem_append_right _) id
def mSetL : OpM := fun k ch es Q => ∃ i d j, k = .lst ∧ es = [.p (.int i), d] ∧ ixN ch.length i = some j ∧ Q .lst (ch.set j d) .non
theorem m_setL {K : PySem.W.Frag} : SemM K (fun x xs H Q => ∃ i v, xs = [i, v] ∧ rSetL x i v H (fun H' => Q .non H')) mSetL := by
  rintro G H a k vs ch F ws es Fw Q0 Q s hG n r ha rw dw ⟨i, d, j, rfl, rfl, hj, q⟩ fin
  cases rw with
  | @cons y ws' _ _ Fa Fb h1 h2 h3 =>
    cases h1
    cases h2 with
    | @cons z ws2 _ _ Fc Fd h4 h5 h6 =>
      have e1 : ws2 = [] := by cases h5; rfl
      have e2 : Fd = [] := by cases h5; rfl
      subst e1 e2
      obtain ⟨F', r', i'⟩ := RpL.set h4 ch j r fun b hb z => (dw b (by simp [hb])).1 z
      refine ⟨_, _, rfl, a, vs, i, j, rfl, rfl, n, by rw [r.len]; exact hj, ?_⟩
      refine fin .lst (ch.set j d) .non (vs.set j z) .non (.lst (vs.set j z)) F' [] q upd_same r' (Rp.p _) (fun b hb => ?_) fun b hb => by cases hb
      rcases i' b hb with y | y
      · exact .inl y
      · exact .inr (by simp [y])
/-- x[i] = e: e, then i; x in slot n -/
def dPut (T : String) (n : Nat) (r : OpM) (te ti : DE) : DS := fun D ρ => te ρ (fun x ρ1 => (∃ s d, ρ1[n]? = some s ∧ s.d? = some d ∧ tyM d = T ∧ (T = "list" ∨ T = "dict")) ∧ ti ρ1 (fun y ρ2 => ∃ es ρ3 s k ch, tkL ρ2 [y, x] = some (es, ρ3) ∧ ρ3[n]? = some s ∧ s.d? = some (.n true k ch) ∧
  r k ch es fun k' ch' _ => D.nx ((killB n ρ3).set n (s.re (.n true k' ch')))) D.ex) D.ex
theorem js_put {n : Nat} {st : Stmt} {T : String} {r : OpM} {rr : V → List V → Hp → VK → Prop} {tset : TSet} {te ti : DE} (hi : n < X.N.length) (hs : SemM X.K rr r) (hset : ∀ o i v H Q, rr o [i, v] H (fun _ H' => Q H') → tset o i v H Q)
    (h : PS X st (tAsg (liftE X.K cn E te) (gSub (tVar n) (liftE X.K cn E ti) tset))) : JS X cn E st (dPut T n r te ti) := ⟨fun pins sh σ H D I ⟨pv, γ, ρ, G, fp, D0, m, q, po⟩ => by
  have hl : n < σ.length := by rw [I.len]; exact hi
  refine h.run pins sh σ H D I ⟨pv, γ, ρ, G, fp, _, _, m, q, fun x ρ1 v G1 H1 fp1 F1 ⟨⟨s, d, e1, e2, e3, e4⟩, q1⟩ s1 m1 o1 => ?_, po.ex⟩
  obtain ⟨z, h1, h2⟩ := m1.at e1 e2
  refine ⟨z, get_left hl h1, pv, γ, ρ1, G1, fp1, _, _, m1, q1, fun y ρ2 w G2 H2 fp2 F2 q2 s2 m2 o2 => ?_, po.ex.on s1⟩
  refine hset _ _ _ _ _ ?_
  have o1' := o1.frame s2
  have po2 : PoE X.K pv σ γ G H fp (fun _ ρ' => D0.nx ρ') (fun _ H' => D.nx σ H') := fun r' ρ' v' G' H' fp' F' q' s' m' o' =>
    po.nx ρ' σ G' H' fp' q' (drop0 s') m' rfl
  refine mut_go (F1 := F2 ++ (F1 ++ [])) (Q := fun _ H' => D.nx σ H') (Q0 := fun _ ρ' => D0.nx ρ') hs h1 po2 (s1.seq (fun _ z => .inl z) s2 fun a z => ?_) m2 (.cons o2 (.cons o1' .nil)) q2
  rcases z with z | z
  · exact .inl (.inl z)
  · rcases List.mem_append.mp z with z | z
    · exact .inl (.inr z)
    · exact .inr (.inr (by simpa using z))⟩
end

theorem setL_h : ∀ o i v H Q, (fun x xs H (Q : VK) => ∃ i v, xs = [i, v] ∧ rSetL x i v H (fun H' => Q .non H')) o [i, v] H (fun _ H' => Q H') → rSetL o i v H Q := by
  rintro o i v H Q ⟨i', v', e, q⟩
  cases e
  exact q
theorem hm_nil {α : Type} {P : α → Prop} : ∀ p ∈ ([] : List α), P p := fun p z => by cases z
theorem hm_cons {α : Type} {P : α → Prop} {a : α} {l : List α} (h : P a) (t : ∀ p ∈ l, P p) : ∀ p ∈ a :: l, P p := fun p z => by
  rcases List.mem_cons.mp z with z | z
  · rw [z]; exact h
  · exact t p z
/-- a def that raises nothing: the classes' places don't matter -/
theorem lower_cn {K : PySem.W.Frag} {cn cn' : String → Addr} {S : SpD} (h : ∀ ds Q E, S ds Q E → S ds Q fun _ _ => False) {vs : List V} {H : Hp} {Q : VK} {E : XK} (q : lower K cn' S vs H Q E) : lower K cn S vs H Q E := by
  obtain ⟨G, ds, F, Q0, E0, s, r, q, k1, k2⟩ := q
  exact ⟨G, ds, F, Q0, fun _ _ => False, s, r, h _ _ _ q, k1, fun x ds' cls dx G' H' F' z => z.elim⟩
theorem fn_cn {P : Program} {w : World} {K : PySem.W.Frag} {mg : Str → Option Value} {base : Heap} {cn cn' : String → Addr} {k : Nat} {f : Addr} {fd : FuncData} {ps : List Str} {S : SpD} {CX : CXT} (h : ∀ ds Q E, S ds Q E → S ds Q fun _ _ => False)
    (F : FnOk P w K mg base CX k f fd ps (lower K cn S)) : FnOk P w K mg base CX k f fd ps (lower K cn' S) := F.imp fun vs H Q E q => lower_cn h q
section
variable {X : Cx}
theorem rep_fold (x : Array Nat) : ∀ (n : Nat) (acc : Array Nat), (List.replicate n x).foldl (· ++ ·) acc = (acc.toList ++ (List.replicate n x.toList).flatten).toArray
  | 0, acc => by simp
  | n + 1, acc => by
    rw [List.replicate_succ, List.foldl_cons, rep_fold x n, List.replicate_succ, List.flatten_cons]
    simp
def repS (x : Str) (n : Int) : Str := ⟨(List.replicate n.toNat x.cps.toList).flatten.toArray⟩
theorem o_mulS : OpR X (binaryOp .Mult) (fun x y H Q => ∃ z n, x = .str z ∧ y = .int n ∧ (0 ≤ n ∧ (z.length : Int) * n ≤ 100000 ∧ n ≤ 100000) ∧ Q (.str ⟨(List.replicate n.toNat z.cps.toList).flatten.toArray⟩) H) := by
  intro pins s σ H x y v u Q I rx ry ⟨z, n, e1, e2, ⟨h0, h1, h2⟩, q⟩
  subst e1 e2
  obtain ⟨t, rfl⟩ := rx
  obtain ⟨t', rfl⟩ := ry
  have key : ∀ (z' : Str) (t k : Nat), z' = ⟨(List.replicate n.toNat z.cps.toList).flatten.toArray⟩ → EP X pins σ Q (.str z' t) { s with toks := k } := fun z' t k e => ⟨.str z', H, I.tok k, ⟨t, rfl⟩, by rw [e]; exact q⟩
  have hlen : (z.length : Int) * n.toNat ≤ 100000 := by rw [Int.toNat_of_nonneg h0]; exact h1
  have hnat : z.length * n.toNat ≤ 100000 := by
    have : ((z.length * n.toNat : Nat) : Int) ≤ 100000 := by rw [Int.natCast_mul]; exact hlen
    omega
  have hsl := sizeLine_eq
  refine PySem.P.mul_str ?_ ?_ ?_ ?_
  · rw [decide_eq_false (by omega), decide_eq_false (by omega)]; rfl
  · intro g1 g2 g3
    have : (z.length : Int) ≤ (2 ^ 63 - 1) / n := (Int.le_ediv_iff_mul_le (by omega)).mpr (by omega)
    omega
  · intro g1 g2
    show decide (z.length * n.toNat > sizeLine) = false
    rw [decide_eq_false]
    omega
  · split
    · rename_i h
      have : n = 0 := by omega
      subst this
      exact ⟨by decide, key _ _ _ rfl⟩
    · rename_i hn
      split
      · rename_i h
        rw [Bool.or_eq_true, beq_iff_eq, beq_iff_eq] at h
        refine key z t s.toks ?_
        rcases h with h | h
        · subst h
          show z = ⟨([z.cps.toList].flatten).toArray⟩
          simp
        · have e : z.cps.toList = [] := List.eq_nil_of_length_eq_zero (by rw [Array.length_toList]; exact h)
          have e2 : z.cps = #[] := by
            rw [← Array.toList_inj, e]
          have e3 : (List.replicate n.toNat ([] : List Nat)).flatten = [] := by simp
          rw [e, e3]
          obtain ⟨c⟩ := z
          subst e2
          rfl
      · have e : (List.replicate n.toNat z.cps).foldl (· ++ ·) #[] = (List.replicate n.toNat z.cps.toList).flatten.toArray := by
          rw [rep_fold]
          rfl
        rw [e]
        refine ⟨?_, key _ _ _ rfl⟩
        show (List.replicate n.toNat z.cps.toList).flatten.toArray.size ≤ sizeLine
        rw [List.size_toArray, List.length_flatten, List.map_replicate, List.sum_replicate_nat, Array.length_toList]
        have : n.toNat * z.cps.size = z.length * n.toNat := Nat.mul_comm _ _
        omega
theorem o_mul : OpR X (binaryOp .Mult) rMulS := op_mul.or o_mulS
end

theorem exm_mk {K : PySem.W.Frag} {C C2 : Addr} {b : Bool} (i : PySem.W.isClsIn K C2 = true) (sb : PySem.W.subIn K (.ref C2) (.type "BaseException") = some true) (t : PySem.W.typeIn K (.ref C2) = some (.type "type")) (s : PySem.W.subIn K (.ref C) (.ref C2) = some b) :
    PySem.W.exmOne K (.ref C) (.ref C2) = some b := by
  unfold PySem.W.exmOne
  rw [sb, if_pos (by rfl)]
  unfold PySem.W.kitCls
  unfold PySem.W.isClsIn at i
  simp only [i, t, Bool.true_and]
  rw [if_pos (by rfl)]
  exact s
end DL
/-! DL15: running: errors, texts, while. -/
namespace DL
open PySem L2
open Enc (en)
/-- a sign as a text -/
def sg (c : Nat) : Str := ⟨#[c]⟩
/-- signs as a text -/
def st (l : List Nat) : Str := ⟨l.toArray⟩
theorem st_list (l : List Nat) : (st l).cps.toList = l := by simp [st]
theorem st_len (l : List Nat) : (st l).length = l.length := by
  show (st l).cps.size = _
  simp [st]
theorem str_st (x : Str) : st x.cps.toList = x := by
  obtain ⟨c⟩ := x
  simp [st]
theorem str_len (x : Str) : x.cps.toList.length = x.length := Array.length_toList
section
variable {n : Env → Prop} {rt : D → Env → Prop} {bk ct : Env → Prop} {ex : Exn → Env → Prop} {ρ ρ1 ρ2 : Env} {Q : Rv → Env → Prop} {QT : Bool → Env → Prop} {QA : List Rv → Env → Prop} {QI : List D → Env → Prop} {E : Exn → Env → Prop}
  {t u tb ts : DS} {te ta : DE} {c tt tv : DT} {tA : DA} {ti : DI} {g : DG} {d d' e : D} {i j : Nat} {v : V} {x y : Rv} {xs : List Rv} {nm : String}
theorem w_raise (h : ex ⟨nm, none⟩ ρ) : dRaise nm ⟨n, rt, bk, ct, ex⟩ ρ := h
def trK (ns : List (String × Bool)) (ts : DS) (D : DEnds) (x : Exn) (ρ : Env) : Prop := match ns.lookup x.name with
  | some true => ts D ρ
  | some false => D.ex x ρ
  | none => False
theorem w_try {ns : List (String × Bool)} (h : tb ⟨n, rt, bk, ct, fun x ρ' => trK ns ts ⟨n, rt, bk, ct, ex⟩ x ρ'⟩ ρ) : dTry ns tb ts ⟨n, rt, bk, ct, ex⟩ ρ := h
theorem w_trT {ns : List (String × Bool)} {x : Exn} (h : ns.lookup x.name = some true) (k : ts ⟨n, rt, bk, ct, ex⟩ ρ) : trK ns ts ⟨n, rt, bk, ct, ex⟩ x ρ := by unfold trK; rw [h]; exact k
theorem w_trF {ns : List (String × Bool)} {x : Exn} (h : ns.lookup x.name = some false) (k : ex x ρ) : trK ns ts ⟨n, rt, bk, ct, ex⟩ x ρ := by unfold trK; rw [h]; exact k
theorem whN_run (I : Nat → Env → Prop) (st : ∀ m ρ (k : Env → Prop), I m ρ → (∀ m' ρ', m' < m → I m' ρ' → k ρ') → c ρ (fun b ρ1 => if b = true then tb ⟨k, rt, n, k, ex⟩ ρ1 else n ρ1) ex) : ∀ (N m : Nat) (ρ : Env), m < N → I m ρ → dWhN c tb ⟨n, rt, bk, ct, ex⟩ N ρ
  | 0, m, ρ, h, _ => absurd h (Nat.not_lt_zero _)
  | N + 1, m, ρ, h, hI => st m ρ _ hI fun m' ρ' hm hI' => whN_run I st N m' ρ' (by omega) hI'
/-- a while loop: I m holds ahead of each turn, m falls -/
theorem while_run (I : Nat → Env → Prop) (st : ∀ m ρ (k : Env → Prop), I m ρ → (∀ m' ρ', m' < m → I m' ρ' → k ρ') → c ρ (fun b ρ1 => if b = true then tb ⟨k, rt, n, k, ex⟩ ρ1 else n ρ1) ex) {m : Nat} (h : I m ρ) : dWhile c tb ⟨n, rt, bk, ct, ex⟩ ρ :=
  ⟨m + 1, whN_run I st (m + 1) m ρ (Nat.lt_succ_self _) h⟩
def agK (i : Nat) (r : Rv) (ρ1 : Env) (k : Env → Prop) : Prop := ∃ x y ρ2, slD ρ1 i = some (.p (.int x)) ∧ look ρ1 r = some (.p (.int y)) ∧ stV ρ1 i (.p (.int (x + y))) = some ρ2 ∧ k ρ2
theorem w_augI {p : Int} (h0 : slD ρ i = some (.p (.int p))) (h : te ρ (fun r ρ1 => agK i r ρ1 n) ex) : dAugI i te ⟨n, rt, bk, ct, ex⟩ ρ := ⟨⟨p, h0⟩, h⟩
theorem w_agK {k : Env → Prop} {p q : Int} (h0 : slD ρ i = some (.p (.int p))) (h1 : look ρ x = some (.p (.int q))) (hk : okV ρ i = true) (h2 : (killB i ρ).set i (.v (.p (.int (p + q)))) = ρ2) (h : k ρ2) : agK i x ρ k := ⟨p, q, ρ2, h0, h1, by rw [stV_v hk, h2], h⟩
/-! ### texts -/
section
variable {k : D → Prop} {a b : Str} {m p : Int}
theorem w_ixT {ch : Nat} (hl : a.length ≤ 100000) (h1 : atI a.cps.toList m = some ch) (h : k (.p (.str (sg ch)))) : qIxS (.p (.str a)) (.p (.int m)) k := ⟨hl, ch, h1, h⟩
theorem w_lenS (hl : a.length ≤ 100000) (h : k (.int (a.length : Nat))) : qLen [.p (.str a)] k := ⟨_, a.length, rfl, by simp only [lenD?, hl, if_true], h⟩
theorem lt_sg (x y : Nat) : strLt (sg x) (sg y) = decide (x < y) := by
  unfold strLt sg
  have : ([x] < [y]) ↔ x < y := by
    rw [List.cons_lt_cons_iff]
    simp
  simp [this]
theorem w_leS (h : k (.bl (!strLt b a))) : qLe (.p (.str a)) (.p (.str b)) k := h
theorem w_ltS (h : k (.bl (strLt a b))) : qLt (.p (.str a)) (.p (.str b)) k := h
theorem w_inT {ch : Nat} {neg : Bool} (h : k (.bl (if neg = true then !decide (ch ∈ b.cps.toList) else decide (ch ∈ b.cps.toList)))) : qInS neg (.p (.str (sg ch))) (.p (.str b)) k := ⟨ch, rfl, h⟩
theorem w_inTf {ch : Nat} (h : k (.bl (decide (ch ∈ b.cps.toList)))) : qInS false (.p (.str (sg ch))) (.p (.str b)) k := w_inT h
theorem w_inTt {ch : Nat} (h : k (.bl (!decide (ch ∈ b.cps.toList)))) : qInS true (.p (.str (sg ch))) (.p (.str b)) k := w_inT h
theorem w_in2 {o : Bool} {x y z : Str} {neg : Bool} (h : k (.bl (if neg = true then !dc (x = y ∨ x = z) else dc (x = y ∨ x = z)))) : qInS neg (.p (.str x)) (.n o .tup [.p (.str y), .p (.str z)]) k := by
  refine ⟨⟨rfl, ok_of (x := x) (by decide), rfl⟩, ?_⟩
  have : inD (.p (.str x)) [.p (.str y), .p (.str z)] = dc (x = y ∨ x = z) := by
    have h1 : eqD (.p (.str y)) (.p (.str x)) = dc (y = x) := eqD_e y x
    have h2 : eqD (.p (.str z)) (.p (.str x)) = dc (z = x) := eqD_e z x
    unfold inD
    rw [List.any_cons, List.any_cons, List.any_nil, h1, h2, Bool.or_false]
    by_cases e1 : y = x
    · rw [dc_t.mpr e1, (dc_t (p := x = y ∨ x = z)).mpr (.inl e1.symm)]; rfl
    · by_cases e2 : z = x
      · rw [dc_t.mpr e2, (dc_t (p := x = y ∨ x = z)).mpr (.inr e2.symm), Bool.or_true]
      · rw [dc_f.mpr e1, dc_f.mpr e2, (dc_f (p := x = y ∨ x = z)).mpr fun q => q.elim (fun q => e1 q.symm) fun q => e2 q.symm]; rfl
  rw [this]
  exact h
theorem w_in2f {o : Bool} {x y z : Str} (h : k (.bl (dc (x = y ∨ x = z)))) : qInS false (.p (.str x)) (.n o .tup [.p (.str y), .p (.str z)]) k := w_in2 h
theorem w_in2t {o : Bool} {x y z : Str} (h : k (.bl (!dc (x = y ∨ x = z)))) : qInS true (.p (.str x)) (.n o .tup [.p (.str y), .p (.str z)]) k := w_in2 h
theorem w_inLf {α : Type} {inst : Enc α} {d : D} {x : α} {ys : List α} (h1 : listOf d = some (ys.map en)) (hd : Enc.dep α + 1 ≤ 64) (h : k (.bl (dc (x ∈ ys)))) : qInS false (en x) d k := w_inL h1 hd h
theorem w_inLt {α : Type} {inst : Enc α} {d : D} {x : α} {ys : List α} (h1 : listOf d = some (ys.map en)) (hd : Enc.dep α + 1 ≤ 64) (h : k (.bl (!dc (x ∈ ys)))) : qInS true (en x) d k := w_inL h1 hd h
theorem w_intB {b : Bool} (h : k (.int (if b = true then 1 else 0))) : qInt [.p (.bl b)] k := .inr ⟨b, rfl, h⟩
theorem w_intI (h : k (.int m)) : qInt [.p (.int m)] k := .inl ⟨m, rfl, h⟩
theorem w_mulI (hc : CMul m p) (h : k (.int (m * p))) : qMulS (.p (.int m)) (.p (.int p)) k := ⟨hc, h⟩
theorem w_mulS (h0 : 0 ≤ p ∧ (a.length : Int) * p ≤ 100000 ∧ p ≤ 100000) (h : k (.str (repS a p))) : qMulS (.p (.str a)) (.p (.int p)) k := ⟨h0, h⟩
theorem w_pow (hc : CPow m p) (h : k (.int (m ^ p.toNat))) : qPow (.p (.int m)) (.p (.int p)) k := ⟨hc, h⟩
theorem w_isdigit (h : k (.bl (Txt.isdigit a))) : qIsdigit (.p (.str a)) k := ⟨trivial, h⟩
theorem w_isalpha (h : k (.bl (Txt.isalpha a))) : qIsalpha (.p (.str a)) k := ⟨trivial, h⟩
theorem w_isNn (h : k (.bl true)) : qIsN .non .non k := ⟨rfl, h⟩
theorem w_isN {d : D} (h : k (.bl (isNon d))) : qIsN d .non k := ⟨rfl, h⟩
theorem w_notN {d : D} (h : k (.bl (!isNon d))) : qNotN d .non k := ⟨rfl, h⟩
theorem w_cutT {lo hi : Option Int} (h1 : look ρ x = some (.p (.str a))) (hl : a.length ≤ 100000) (h : k (.str (cutS a lo hi))) : cutK lo hi x ρ k := ⟨_, h1, hl, h⟩
theorem cut_st {l : List Nat} {lo hi : Nat} (h1 : lo ≤ hi) (h2 : hi ≤ l.length) : cutS (st l) (some (lo : Nat)) (some (hi : Nat)) = st ((l.drop lo).take (hi - lo)) := by
  unfold cutS HT.sIx
  rw [st_len, st_list]
  have e1 : ¬ ((lo : Int) < 0) := by omega
  have e2 : ¬ ((hi : Int) < 0) := by omega
  simp only [e1, e2, if_false]
  have e3 : min lo l.length = lo := by omega
  have e4 : min hi l.length = hi := by omega
  simp [st, e3, e4]
end
def isK (x : Rv) (ρ : Env) (k : List D → Env → Prop) : Prop := ∃ a, look ρ x = some (.p (.str a)) ∧ k (strL a) ρ
theorem w_istr (h : te ρ (fun r ρ1 => isK r ρ1 QI) E) : dIStr te ρ QI E := h
theorem w_isK {k : List D → Env → Prop} {a : Str} (h1 : look ρ x = some (.p (.str a))) (h : k (a.cps.toList.map fun c => en (sg c)) ρ) : isK x ρ k := ⟨a, h1, h⟩
def m1K (r : Op2) (x : Rv) (ρ : Env) (tb : DE) (Q : Rv → Env → Prop) (E : Exn → Env → Prop) : Prop := (∃ a, look ρ x = some (.p (.str a))) ∧ tb ρ (fun y ρ2 => opK r x y ρ2 fun z => Q (.t z) ρ2) E
theorem w_m1 {r : Op2} {tb : DE} (h : ta ρ (fun x ρ1 => m1K r x ρ1 tb Q E) E) : dM1 r ta tb ρ Q E := h
theorem w_m1K {r : Op2} {tb : DE} {a : Str} (h1 : look ρ x = some (.p (.str a))) (h : tb ρ (fun y ρ2 => opK r x y ρ2 fun z => Q (.t z) ρ2) E) : m1K r x ρ tb Q E := ⟨⟨a, h1⟩, h⟩
/-! ### stores -/
def puK (T : String) (i : Nat) (r : OpM) (ti : DE) (x : Rv) (ρ : Env) (k : Env → Prop) (E : Exn → Env → Prop) : Prop := (∃ s d, ρ[i]? = some s ∧ s.d? = some d ∧ tyM d = T ∧ (T = "list" ∨ T = "dict")) ∧ ti ρ (fun y ρ2 => mu2K i r [y, x] ρ2 fun _ ρ3 => k ρ3) E
theorem w_put {T : String} {r : OpM} {ti : DE} (h : te ρ (fun x ρ1 => puK T i r ti x ρ1 n ex) ex) : dPut T i r te ti ⟨n, rt, bk, ct, ex⟩ ρ := h
theorem w_puK {T : String} {r : OpM} {ti : DE} {k : Env → Prop} (h0 : ∃ s d, ρ[i]? = some s ∧ s.d? = some d ∧ tyM d = T ∧ (T = "list" ∨ T = "dict")) (h : ti ρ (fun y ρ2 => mu2K i r [y, x] ρ2 fun _ ρ3 => k ρ3) E) : puK T i r ti x ρ k E := ⟨h0, h⟩
end

section
variable {k : D → Prop} {a b : Str} {i j : Int}
theorem w_eqS (h : k (.bl (dc (a = b)))) : qEq (.p (.str a)) (.p (.str b)) k := w_eqP (x := a) (y := b) rfl rfl (by decide) h
theorem w_neS (h : k (.bl (!dc (a = b)))) : qNe (.p (.str a)) (.p (.str b)) k := w_neP (x := a) (y := b) rfl rfl (by decide) h
theorem w_eqI (h : k (.bl (decide (i = j)))) : qEq (.p (.int i)) (.p (.int j)) k := w_eqP (x := i) (y := j) rfl rfl (by decide) (by rw [dc_d]; exact h)
theorem w_neI (h : k (.bl (!decide (i = j)))) : qNe (.p (.int i)) (.p (.int j)) k := w_neP (x := i) (y := j) rfl rfl (by decide) (by rw [dc_d]; exact h)
end

section
variable {k : D → Env → Prop} {ρ ρ1 ρ2 : Env} {xs : List Rv} {i : Nat}
theorem w_appS {ch : List Str} {a : Str} (h1 : tkL ρ xs = some ([.p (.str a)], ρ2)) (h2 : ρ2[i]? = some (.v (.n true .lst (ch.map en)))) (h3 : ch.length < 100000) (h4 : (killB i ρ2).set i (.v (eo (ch ++ [a]))) = ρ1) (h : k .non ρ1) : mu2K i mAppend xs ρ k := w_appE (e := a) h1 h2 h3 h4 h
theorem w_appI {ch : List Int} {a : Int} (h1 : tkL ρ xs = some ([.p (.int a)], ρ2)) (h2 : ρ2[i]? = some (.v (.n true .lst (ch.map en)))) (h3 : ch.length < 100000) (h4 : (killB i ρ2).set i (.v (eo (ch ++ [a]))) = ρ1) (h : k .non ρ1) : mu2K i mAppend xs ρ k := w_appE (e := a) h1 h2 h3 h4 h
end

/-- a slot that holds something, or nothing -/
def fs : Option D → Sl
  | none => .un
  | some d => .v d
theorem kb_fs {i : Nat} {o : Option D} {r : Env} : killB i (fs o :: r) = fs o :: killB i r := by cases o <;> rfl
theorem okV_fs {ρ : Env} {i : Nat} {o : Option D} (h : ρ[i]? = some (fs o)) : okV ρ i = true := by
  unfold okV
  rw [h]
  cases o <;> rfl
end DL
/-! DL16: shared displays, constants that are tuples, str(). -/
namespace DL
open PySem L2
open Enc (en)
section
variable {X : Cx} {cn : String → Addr} {E : WX}
/-- what a display makes, shared from now on -/
def dFz (te : DE) : DE := fun ρ Q E => te ρ (fun r ρ1 => ∃ d ρ2, tkF ρ1 r = some (d, ρ2) ∧ Q (.t d) ρ2) E
theorem je_fz {e : Expr} {te : DE} (h : JE X cn E e te) : JE X cn E e (dFz te) := pe_imp h fun σ H Q ⟨pv, γ, ρ, G, fp, Q0, E0, m, q, po, px⟩ =>
  ⟨pv, γ, ρ, G, fp, _, E0, m, q, fun r ρ1 v G1 H1 fp1 F1 ⟨d, ρ2, e1, q1⟩ s1 m1 o1 => by
    obtain ⟨G2, fp2, s2, m2, r2, i2⟩ := tkF_ok m1 o1 (fun _ z => z) e1
    exact po (.t d) ρ2 v G2 H1 fp2 [] q1 ((s1.trans s2).mono (fun _ z => z) fun a z => .inl (z.elim id fun z => by cases z)) m2 ⟨r2, fun a z => by cases z⟩, px⟩
/-- a thing of the written part -/
def dK (d : D) : DE := fun ρ Q _ => Q (.t d) ρ
def qStr1 : OpL := fun ds Q => (∃ i : Int, ds = [.p (.int i)] ∧ i.natAbs.log2 < 1920 ∧ Q (.str (toString i))) ∨ ∃ a, ds = [.p (.str a)] ∧ Q (.str a)
theorem s_str {K : PySem.W.Frag} : SemL K (fun xs H Q => (∃ i, xs = [.int i] ∧ i.natAbs.log2 < 1920 ∧ Q (.str (toString i)) H) ∨ ∃ a, xs = [.str a] ∧ Q (.str a) H) qStr1 := by
  intro G H vs ds Q0 Q s r q fin
  rcases q with ⟨i, rfl, h, q⟩ | ⟨a, rfl, q⟩
  · obtain ⟨v, F, rfl, h1⟩ := rps1 r
    cases h1
    exact .inl ⟨i, rfl, h, fin.p s q⟩
  · obtain ⟨v, F, rfl, h1⟩ := rps1 r
    cases h1
    exact .inr ⟨a, rfl, fin.p s q⟩
end
/-! ### text[::-1] -/
def qUpper := qStr0 (fun a => a.length ≤ 5592405) fun a => .str (Txt.upper a)
def qRevT : D → (D → Prop) → Prop
  | .p (.str x), Q => x.length ≤ 100000 ∧ Q (.str ⟨x.cps.toList.reverse.toArray⟩)
  | _, _ => False
open PySem.Spec PyProof.Rows in
section
variable {n : Env → Prop} {ρ ρ1 ρ2 : Env} {Q : Rv → Env → Prop} {E : Exn → Env → Prop} {te : DE} {d d' : D} {x : Rv} {i : Nat} {k : Rv → Env → Prop}
def fzK (x : Rv) (ρ : Env) (k : Rv → Env → Prop) : Prop := ∃ d ρ2, tkF ρ x = some (d, ρ2) ∧ k (.t d) ρ2
theorem w_fz (h : te ρ (fun r ρ1 => fzK r ρ1 Q) E) : dFz te ρ Q E := h
theorem w_fzT (h1 : d.fz = d') (h : k (.t d') ρ) : fzK (.t d) ρ k := ⟨d', ρ, by simp only [tkF, tk, h1], h⟩
theorem w_dK (h : Q (.t d) ρ) : dK d ρ Q E := h
theorem w_strI {k : D → Prop} {i : Int} (h0 : i.natAbs.log2 < 1920) (h : k (.str (toString i))) : qStr1 [.p (.int i)] k := .inl ⟨i, rfl, h0, h⟩
theorem w_strS {k : D → Prop} {a : Str} (h : k (.str a)) : qStr1 [.p (.str a)] k := .inr ⟨a, rfl, h⟩
end
theorem w_revT {k : D → Prop} {a : Str} (h0 : a.length ≤ 100000) (h : k (.str ⟨a.cps.toList.reverse.toArray⟩)) : qRevT (.p (.str a)) k := ⟨h0, h⟩
theorem w_upper {k : D → Prop} {a : Str} (h0 : a.length ≤ 5592405) (h : k (.str (Txt.upper a))) : qUpper (.p (.str a)) k := ⟨h0, h⟩
end DL
/-! DL17: dicts made, read, written; methods of lists and texts; f-strings. -/
namespace DL
open PySem L2
section
variable {X : Cx} {cn : String → Addr} {E : WX} {pos apos cpos : Pos}
/-! ### {} -/
def dNewD : DE := fun ρ Q _ => Q (.t (.n true (.dic []) [])) ρ
theorem none_G {G H : Hp} {p : Addr} (s : Sub G H) (h : H p = none) : G p = none := by
  cases e : G p with
  | none => rfl
  | some o => rw [s p o e] at h; cases h
theorem je_newD : JE X cn E (.Dict [] [] pos) dNewD := pe_imp pe_dnewK fun σ H Q ⟨pv, γ, ρ, G, fp, Q0, E0, m, q, po, _⟩ p hp => by
  have s3 : Stp G H (fun _ => False) G (L2.upd H p (.dK [])) (fun a => a ∈ [p]) := (Stp.new hp m.sub).mono (fun _ z => z) fun a z => .inl (.inr (List.mem_singleton.mp z))
  obtain ⟨f1, f2, f3⟩ := fin_new m (Stp.refl G H (InF fp)) (fun a z => z) s3 (m.sub.upd hp)
  exact po _ ρ _ G _ fp [p] q f1 f2 ⟨Rp.o (F := []) (none_G m.sub hp) (vs := []) ⟨rfl, upd_same⟩ (fun z => by cases z) .nil, f3⟩

/-! ### monotone -/
theorem liftE_mono {te : DE} {σ : St} {H : Hp} {Q1 Q2 : VK} (h : liftE X.K cn E te σ H Q1) (i : ∀ v H', Q1 v H' → Q2 v H') : liftE X.K cn E te σ H Q2 := by
  obtain ⟨pv, γ, ρ, G, fp, Q0, E0, m, q, po, px⟩ := h
  exact ⟨pv, γ, ρ, G, fp, Q0, E0, m, q, fun r ρ' v G' H' fp' F a b c d => i _ _ (po r ρ' v G' H' fp' F a b c d), px⟩
theorem args0 {σ : St} {H : Hp} {Q : List V → Hp → Prop} (h : liftA X.K cn E dNil σ H Q) : Q [] H := by
  obtain ⟨pv, γ, ρ, G, fp, Q0, E0, m, q, po, px⟩ := h
  exact po [] ρ [] G H fp [] q (stp0 G H fp) m .nil
theorem args1 {ta : DE} {σ : St} {H : Hp} {Q : List V → Hp → Prop} (h : liftA X.K cn E (dCons ta dNil) σ H Q) : liftE X.K cn E ta σ H fun x H1 => Q [x] H1 :=
  liftE_mono (consA σ H Q h) fun v H' q => args0 q
theorem args2 {ta tb : DE} {σ : St} {H : Hp} {Q : List V → Hp → Prop} (h : liftA X.K cn E (dCons ta (dCons tb dNil)) σ H Q) : liftE X.K cn E ta σ H fun x H1 => liftE X.K cn E tb σ H1 fun y H2 => Q [x, y] H2 :=
  liftE_mono (consA σ H Q h) fun v H' q => args1 q

/-! ### displays with written keys -/
def dDs : List DE → DA
  | [] => dNil
  | t :: r => dCons t (dDs r)
theorem pairs_of : ∀ (L : List (Str × DE)) (σ : St) (H : Hp) (Q' : List V → Hp → Prop) (Q : List (V × V) → Hp → Prop), liftA X.K cn E (dDs (L.map (·.2))) σ H Q' → (∀ vs H', vs.length = L.length → Q' vs H' → Q ((L.map fun p => V.str p.1).zip vs) H') →
    tPairs (L.map fun p => (tC (.str p.1), liftE X.K cn E p.2)) σ H Q
  | [], σ, H, Q', Q, h, i => i [] H rfl (args0 h)
  | (k, t) :: L, σ, H, Q', Q, h, i => by
    refine liftE_mono (consA σ H Q' h) fun v H' q => ?_
    exact pairs_of L σ H' _ _ q fun vs H2 hl q2 => i (v :: vs) H2 (by rw [List.length_cons, List.length_cons, hl]) q2
def dDisp (ks : List Str) (t : DA) : DE := fun ρ Q E => t ρ (fun rs ρ1 => ∃ ds ρ2, tkL ρ1 rs = some (ds, ρ2) ∧ (ks.length = ds.length ∧ ks.length ≤ 15 ∧ ks.Nodup) ∧ Q (.t (.n true (.dic (ks.map .inr)) ds)) ρ2) E
theorem merge_nodup {κ : Type} [DecidableEq κ] : ∀ (more kvs : List (κ × V)), ((kvs ++ more).map (·.1)).Nodup → more.foldl (fun acc kv => putK acc kv.1 kv.2) kvs = kvs ++ more
  | [], kvs, _ => by simp
  | kv :: more, kvs, h => by
    rw [List.foldl_cons]
    have hn : valV kvs kv.1 = none := by
      cases e : valV kvs kv.1 with
      | none => rfl
      | some v =>
        have h2 : (kvs.any fun p => decide (p.1 = kv.1)) = true := by rw [valV_any, e]; rfl
        obtain ⟨p, hp, hk⟩ := List.any_eq_true.mp h2
        have hk := of_decide_eq_true hk
        rw [List.map_append, List.nodup_append] at h
        exact absurd hk (h.2.2 _ (List.mem_map.mpr ⟨p, hp, rfl⟩) _ (List.mem_map.mpr ⟨kv, List.mem_cons_self .., rfl⟩))
    rw [putK_new kv.2 hn, merge_nodup more (kvs ++ [(kv.1, kv.2)]) (by simpa using h)]
    simp
theorem je_disp {keys : List (Option Expr)} {values : List Expr} (L : List (Str × DE)) (h : PPs X pos keys values (L.map fun p => (tC (.str p.1), liftE X.K cn E p.2))) (hall : keys.all (·.isSome) = true) (hl : keys.length = values.length) (h0 : keys ≠ []) (h15 : keys.length ≤ 15) :
    JE X cn E (.Dict keys values pos) (dDisp (L.map (·.1)) (dDs (L.map (·.2)))) := by
  refine pe_imp (pe_disp h hall hl h0 h15) ?_
  rintro σ H Q ⟨pv, γ, ρ, G, fp, Q0, E0, m, q, po, px⟩ p hp
  have hGp := none_G m.sub hp
  have nP : ¬ InF fp p := fun ⟨i, hi⟩ => by
    obtain ⟨_, o, ho⟩ := m.ft i p hi
    rw [hp] at ho; cases ho
  have a0 : Stp G H (InF fp) G (L2.upd H p (.dK [])) (InF fp) := (Stp.new hp m.sub).mono (fun _ z => z) fun a z => .inl (.inl z)
  have m1 : Mt X.K pv (σ ++ γ) ρ G (L2.upd H p (.dK [])) fp := m.step (Stp.new (P := fun _ => False) hp m.sub) (m.sub.upd hp)
  refine pairs_of L σ _ (fun vs H' => vs.length = L.length → H' p = some (.dK []) ∧ ∃ kvs : List (Key × V), (L.map fun p => V.str p.1).zip vs = kvs.map (fun kv => (kV kv.1, kv.2)) ∧ kvs.length ≤ 15 ∧ Q (.ref p) (L2.upd H' p (.dK (mergeK [] kvs)))) _ ⟨pv, γ, ρ, G, fp, _, E0, m1, q, ?_, px.on0 a0⟩ fun vs H' hl q => q hl
  rintro rs ρ1 vs G1 H1 fp1 F1 ⟨ds, ρ2, e1, ⟨c1, c2, c3⟩, q1⟩ s1 m2 o1 hl
  obtain ⟨G2, fp2, s2, m3, r3, i2⟩ := tkL_ok m2 o1 (fun _ z => z) e1
  have hp1 : H1 p = some (.dK []) := s1.h p _ upd_same nP
  have nP1 : ¬ (InF fp1 p ∨ p ∈ F1) := fun z => by
    rcases s1.f p z with y | y
    · exact nP y
    · rw [upd_same] at y; cases y
  have hG1 : G1 p = none := s1.n p _ upd_same hGp nP
  have s2' : Stp G1 H1 (fun a => InF fp1 a ∨ a ∈ F1) G2 H1 (fun a => InF fp2 a ∨ a ∈ F1) := s2.mono (fun _ z => .inl z) fun a z => z.elim (fun z => .inl z) fun z => .inr (.inr z)
  have hG2 : G2 p = none := s2'.n p _ hp1 hG1 nP1
  have T := (a0.trans s1).trans s2'
  have kF : ∀ a ∈ F1, a ≠ p := fun a ha z => nP1 (.inr (z ▸ ha))
  have lv : vs.length = ds.length := r3.len
  refine ⟨hp1, ((L.map (·.1)).map Sum.inr).zip vs, ?_, ?_, ?_⟩
  · rw [List.zip_map_left, List.zip_map_left, List.map_map, List.zip_map_left]
    rw [List.map_map]
    rfl
  · rw [List.length_zip, List.length_map]; omega
  · have em : mergeK [] (((L.map (·.1)).map Sum.inr).zip vs) = ((L.map (·.1)).map Sum.inr).zip vs := by
      unfold mergeK
      rw [merge_nodup _ []]
      · rfl
      · rw [List.nil_append, List.map_fst_zip (by rw [List.length_map]; omega)]
        exact List.Pairwise.map _ (fun a b z y => z (by injection y)) c3
    rw [em]
    have m4 : Mt X.K pv (σ ++ γ) ρ2 G2 (L2.upd H1 p (.dK (((L.map (·.1)).map Sum.inr).zip vs))) fp2 := m3.move (fun _ _ z => z) (fun a o z => by rw [upd_ne (fun y => by rw [y, hG2] at z; cases z)]; exact m3.sub a o z)
      (fun a o z e => by rw [upd_ne (fun y => nP1 (.inl (i2 p (by rw [← y]; exact z))))]; exact e) fun a ⟨i, ha⟩ => (m3.ft i a ha).1
    refine po (.t _) ρ2 (.ref p) G2 _ fp2 (p :: F1) q1 ⟨T.g, fun a o e n => ?_, T.n, fun a z => ?_⟩ m4 ⟨Rp.o hG2 (vs := vs) ⟨by rw [List.length_map]; omega, upd_same⟩ (fun z => kF p z rfl) (RpL.mov (fun _ _ z => z) _ r3 fun a ha o hg ho => ⟨hg, by rw [upd_ne (kF a ha)]; exact ho⟩), fun a ha z => ?_⟩
    · rw [upd_ne (fun y => by rw [y, hp] at e; cases e)]
      exact T.h a o e n
    · rcases z with z | z
      · exact T.f a (.inl z)
      · rcases List.mem_cons.mp z with z | z
        · exact .inr (z ▸ hp)
        · exact T.f a (.inr z)
    · rcases List.mem_cons.mp ha with e | ha
      · exact nP1 (.inl (i2 p (e ▸ z)))
      · exact RvsOk.foot o1 a ha (i2 a z)

/-! ### d.get(k), d.get(k, x) -/
def isDic : D → Bool
  | .n _ (.dic _) _ => true
  | .n _ (.dit _) _ => true
  | _ => false
theorem isD_rp {K : PySem.W.Frag} {G H : Hp} {v : V} {d : D} {F : List Addr} (s : Sub G H) (r : Rp K G H v d F) (h : isDic d = true) : ∃ a, v = .ref a ∧ IsD H a := by
  cases d with
  | p x => simp [isDic] at h
  | n ow kd ch =>
    cases kd with
    | lst => simp [isDic] at h
    | lok => simp [isDic] at h
    | tup => simp [isDic] at h
    | tok => simp [isDic] at h
    | obj _ _ => simp [isDic] at h
    | exc _ _ => simp [isDic] at h
    | dic ks =>
      cases r with
      | f h1 h2 => exact ⟨_, rfl, .inl ⟨_, Rd.mono s h1.2⟩⟩
      | o h0 h1 h3 h2 => exact ⟨_, rfl, .inl ⟨_, .inl h1.2⟩⟩
    | dit ks =>
      cases r with
      | f h1 h2 => exact ⟨_, rfl, .inr ⟨_, .inl (s _ _ h1.2)⟩⟩
      | o h0 h1 h3 h2 => exact ⟨_, rfl, .inr ⟨_, .inl h1.2⟩⟩
def dGet2 (ta tb tc : DE) : DE := fun ρ Q E => ta ρ (fun x ρ1 => (∃ d, look ρ1 x = some d ∧ isDic d = true) ∧ tb ρ1 (fun y ρ2 => tc ρ2 (fun z ρ3 => ∃ d k dz o, look ρ3 x = some d ∧ look ρ3 y = some k ∧ look ρ3 z = some dz ∧ dictD d k = some o ∧ (o.getD dz).isFz = true ∧ Q (.t (o.getD dz)) ρ3) E) E) E
def dGet1 (ta tb : DE) : DE := fun ρ Q E => ta ρ (fun x ρ1 => (∃ d, look ρ1 x = some d ∧ isDic d = true) ∧ tb ρ1 (fun y ρ2 => ∃ d k o, look ρ2 x = some d ∧ look ρ2 y = some k ∧ dictD d k = some o ∧ (o.getD (.p .non)).isFz = true ∧ Q (.t (o.getD (.p .non))) ρ2) E) E
/-! ### d[k] = v, d.setdefault(k, v), d.pop(k), d.pop(k, v): what one slot holds -/
def putKs {κ : Type} [DecidableEq κ] (ks : List κ) (k : κ) : List κ := if k ∈ ks then ks else ks ++ [k]
def putCh {κ : Type} [DecidableEq κ] (ks : List κ) (ch : List D) (k : κ) (d : D) : List D := if k ∈ ks then List.zipWith (fun k' c => if k' = k then d else c) ks ch else ch ++ [d]
def delKs {κ : Type} [DecidableEq κ] (ks : List κ) (k : κ) : List κ := ks.filter fun k' => decide (k' ≠ k)
def delCh {κ : Type} [DecidableEq κ] : List κ → List D → κ → List D
  | k' :: ks, c :: ch, k => if k' = k then delCh ks ch k else c :: delCh ks ch k
  | _, _, _ => []
theorem any_key {κ : Type} [DecidableEq κ] {k : κ} : ∀ {ks : List κ} {vs : List V}, ks.length = vs.length → ((ks.zip vs).any fun kv => decide (kv.1 = k)) = decide (k ∈ ks)
  | [], vs, h => by simp
  | k' :: ks, [], h => by simp at h
  | k' :: ks, v :: vs, h => by
    rw [List.zip_cons_cons, List.any_cons, any_key (by simpa using h)]
    by_cases e : k' = k
    · subst e; simp
    · simp [e, Ne.symm e]
theorem put_zip {κ : Type} [DecidableEq κ] {K : PySem.W.Frag} {G H : Hp} {k : κ} {y : V} {d : D} {ks : List κ} {vs : List V} {ch : List D} {F Fw : List Addr} (hl : ks.length = vs.length) (r : RpL K G H vs ch F) (ry : Rp K G H y d Fw) (hz : d.isFz = true) :
    ∃ vs' F', (putKs ks k).length = vs'.length ∧ putK (ks.zip vs) k y = (putKs ks k).zip vs' ∧ RpL K G H vs' (putCh ks ch k d) F' ∧ ∀ b ∈ F', b ∈ F := by
  have ry := ry.shared hz
  unfold putK putKs putCh
  rw [any_key hl]
  by_cases hk : k ∈ ks
  · simp only [hk, decide_true, if_true]
    have key : ∀ (ks : List κ) (vs : List V) (ch : List D) (F : List Addr), ks.length = vs.length → RpL K G H vs ch F → ∃ vs' F', ks.length = vs'.length ∧ (ks.zip vs).map (fun kv => if kv.1 = k then (kv.1, y) else kv) = ks.zip vs' ∧ RpL K G H vs' (List.zipWith (fun k' c => if k' = k then d else c) ks ch) F' ∧ ∀ b ∈ F', b ∈ F := by
      intro ks
      induction ks with
      | nil =>
        intro vs ch F hl r
        refine ⟨[], [], rfl, by simp, ?_, fun b z => by cases z⟩
        simp only [List.zipWith_nil_left]
        exact .nil
      | cons k' ks ih =>
        intro vs ch F hl r
        cases r with
        | nil => simp at hl
        | cons h1 h2 h3 =>
          obtain ⟨vs', F', g1, g2, g3, g4⟩ := ih _ _ _ (by simpa using hl) h2
          rw [List.zip_cons_cons, List.map_cons, List.zipWith_cons_cons, g2]
          by_cases e : k' = k
          · simp only [e, if_true]
            exact ⟨y :: vs', [] ++ F', by simp [g1], by rw [List.zip_cons_cons], .cons ry g3 (fun a z => by cases z), fun b z => List.mem_append_right _ (g4 b (by simpa using z))⟩
          · simp only [e, if_false]
            exact ⟨_ :: vs', _ ++ F', by simp [g1], by rw [List.zip_cons_cons], .cons h1 g3 (fun a z w => h3 a z (g4 a w)), fun b z => (List.mem_append.mp z).elim (fun z => List.mem_append_left _ z) fun z => List.mem_append_right _ (g4 b z)⟩
    exact key ks vs ch F hl r
  · simp only [hk, decide_false, if_false, Bool.false_eq_true]
    refine ⟨vs ++ [y], F ++ [], by simp [hl], by rw [List.zip_append hl]; rfl, r.app (RpL.one ry) (fun _ _ z => by cases z), fun b z => by simpa using z⟩
def mPutD : OpM := fun k ch es Q => ∃ kd d, es = [kd, d] ∧ d.isFz = true ∧ ch.length < 100000 ∧ match k with
  | .dic ks => ∃ x, keyD kd = some x ∧ Q (.dic (putKs ks x)) (putCh ks ch x d) .non
  | .dit ks => ∃ kc x, kd = .n false .tup kc ∧ keysD kc = some x ∧ Q (.dit (putKs ks x)) (putCh ks ch x d) .non
  | _ => False
def dNewT : DE := fun ρ Q _ => Q (.t (.n true (.dit []) [])) ρ
theorem rl2 {K : PySem.W.Frag} {G H : Hp} {ws : List V} {d e : D} {Fw : List Addr} (r : RpL K G H ws [d, e] Fw) : ∃ y z Fa Fb, ws = [y, z] ∧ Rp K G H y d Fa ∧ Rp K G H z e Fb ∧ (∀ b ∈ Fa, b ∈ Fw ∧ b ∉ Fb) ∧ ∀ b ∈ Fb, b ∈ Fw := by
  cases r with
  | cons h1 h2 h3 =>
    cases h2 with
    | cons h4 h5 h6 =>
      cases h5
      simp only [List.append_nil] at h3
      exact ⟨_, _, _, _, rfl, h1, h4, fun b z => ⟨List.mem_append_left _ z, h3 b z⟩, fun b z => by simp [z]⟩
theorem rl1 {K : PySem.W.Frag} {G H : Hp} {ws : List V} {d : D} {Fw : List Addr} (r : RpL K G H ws [d] Fw) : ∃ y, ws = [y] ∧ Rp K G H y d Fw := by
  cases r with
  | cons h1 h2 h3 =>
    cases h2
    rw [List.append_nil]
    exact ⟨_, rfl, h1⟩
theorem m_putD {K : PySem.W.Frag} : SemM K (fun x xs H Q => ∃ i v, xs = [i, v] ∧ rSetD x i v H (fun H' => Q .non H')) mPutD := by
  rintro G H a k vs ch F ws es Fw Q0 Q s hG n r ha rw dw ⟨kd, d, rfl, hz, hl, q⟩ fin
  obtain ⟨y, z, Fa, Fb, rfl, h1, h2, h3, h4⟩ := rl2 rw
  have len := r.len
  have hs : ch.length < sizeLine := Nat.lt_of_lt_of_le hl (by decide)
  cases k with
  | lst => exact q.elim
  | lok => exact q.elim
  | tup => exact q.elim
  | tok => exact q.elim
  | obj _ _ => exact q.elim
  | exc _ _ => exact q.elim
  | dic ks =>
    obtain ⟨x, ex, q⟩ := q
    have := keyD_rp h1 ex
    subst this
    obtain ⟨vs', F', g1, g2, g3, g4⟩ := put_zip (k := x) n.1 r h2 hz
    refine ⟨_, _, rfl, a, _, rfl, DPut.k n.2 (by rw [List.length_zip, n.1]; omega), ?_⟩
    refine fin _ _ .non vs' .non _ F' [] q ⟨g1, by rw [g2]; exact upd_same⟩ g3 (Rp.p _) (fun b hb => .inl (g4 b hb)) fun b hb => by cases hb
  | dit ks =>
    obtain ⟨kc, x, rfl, ex, q⟩ := q
    obtain ⟨b, us, F2, rfl, h5, h6⟩ := h1.tupl s
    have := keysD_rp h6 ex
    subst this
    obtain ⟨vs', F', g1, g2, g3, g4⟩ := put_zip (k := x) n.1 r h2 hz
    refine ⟨_, _, rfl, a, _, rfl, DPut.t n.2 h5 (by rw [List.length_zip, n.1]; omega), ?_⟩
    refine fin _ _ .non vs' .non _ F' [] q ⟨g1, by rw [g2]; exact upd_same⟩ g3 (Rp.p _) (fun b hb => .inl (g4 b hb)) fun b hb => by cases hb
theorem setD_h : ∀ o i v H Q, (fun x xs H (Q : VK) => ∃ i v, xs = [i, v] ∧ rSetD x i v H (fun H' => Q .non H')) o [i, v] H (fun _ H' => Q H') → rSetD o i v H Q := by
  rintro o i v H Q ⟨i', v', e, q⟩
  cases e
  exact q
/-- a method of a dict in slot i, by its own rule -/
theorem mutD {i : Nat} {t : DA} {r : OpM} {rr : V → List V → Hp → VK → Prop} (hs : SemM X.K rr r) {σ γ : St} {pv : Nat → V} {ρ : Env} {G H : Hp} {fp : Fps} {Q0 : Rv → Env → Prop} {E0 : Exn → Env → Prop} {Q : VK} (hl : i < σ.length) (m : Mt X.K pv (σ ++ γ) ρ G H fp)
    (q : dMut "dict" i r t ρ Q0 E0) (po : PoE X.K pv σ γ G H fp Q0 Q) (px : PoX X.K cn pv γ σ.length G H fp E0 E) : ∃ a, σ[i]? = some (some (.ref a)) ∧ IsD H a ∧ liftA X.K cn E t σ H (fun vs H' => rr (.ref a) vs H' Q) := by
  obtain ⟨⟨s, d, e1, e2, e3, e4⟩, q⟩ := q
  obtain ⟨x, h1, h2⟩ := m.at e1 e2
  have hd : isDic d = true := by
    cases d with
    | p x => cases x <;> simp [tyM] at e3
    | n o k ch => cases o <;> cases k <;> simp [tyM] at e3 <;> rfl
  obtain ⟨a, rfl, hD⟩ := isD_rp m.sub h2 hd
  exact ⟨a, get_left hl h1, hD, pv, γ, ρ, G, fp, _, E0, m, q, fun rs ρ1 vs G1 H1 fp1 F1 q1 s1 m1 o1 => mut_go hs h1 po s1 m1 o1 q1, px⟩
def rSetd : V → List V → Hp → VK → Prop := fun x vs H Q => ∃ (a : Addr) (kvs : List (Key × V)) (k : Key) (y z : V), x = .ref a ∧ vs = [y, z] ∧ H a = some (.dK kvs) ∧ y = kV k ∧ kvs.length < sizeLine ∧ (∀ v, valV kvs k = some v → Q v H) ∧ (valV kvs k = none → Q z (L2.upd H a (.dK (putK kvs k z))))
def mSetd : OpM := fun k ch es Q => ∃ ks kd d x, k = .dic ks ∧ es = [kd, d] ∧ d.isFz = true ∧ ch.length < 100000 ∧ keyD kd = some x ∧ match lookK ks ch x with
  | some c => c.isFz = true ∧ Q (.dic ks) ch c
  | none => Q (.dic (ks ++ [x])) (ch ++ [d]) d
theorem upd_id {H : Hp} {a : Addr} {o : HO} (h : H a = some o) : L2.upd H a o = H := by
  funext b
  by_cases e : b = a
  · rw [e, upd_same, h]
  · rw [upd_ne e]
theorem m_setd {K : PySem.W.Frag} : SemM K rSetd mSetd := by
  rintro G H a k vs ch F ws es Fw Q0 Q s hG n r ha rw dw ⟨ks, kd, d, x, rfl, rfl, hz, hl, ex, q⟩ fin
  obtain ⟨y, z, Fa, Fb, rfl, h1, h2, h3, h4⟩ := rl2 rw
  have := keyD_rp h1 ex
  subst this
  have hs : ch.length < sizeLine := Nat.lt_of_lt_of_le hl (by decide)
  have h2 := h2.shared hz
  have len := r.len
  have lo := look_or (x := x) n.1 r
  have nn := n.2
  refine ⟨a, _, x, _, z, rfl, rfl, n.2, rfl, by rw [List.length_zip, n.1]; omega, fun v hv => ?_, fun hv => ?_⟩
  · cases el : lookK ks ch x with
    | none => rw [hv, el] at lo; cases lo
    | some c =>
      rw [el] at q
      rw [hv, el] at lo
      obtain ⟨Fc, hc⟩ := lo
      have := fin (.dic ks) ch c vs v (.dK (ks.zip vs)) F [] q.2 ⟨n.1, upd_same⟩ r (hc.shared q.1) (fun b z => .inl z) fun b z => by cases z
      rwa [upd_id nn] at this
  · cases el : lookK ks ch x with
    | some c => rw [hv, el] at lo; cases lo
    | none =>
      rw [el] at q
      rw [putK_new _ hv]
      exact fin (.dic (ks ++ [x])) (ch ++ [d]) d (vs ++ [z]) z _ (F ++ []) [] q ⟨by simp [n.1], by rw [upd_same, List.zip_append n.1]; rfl⟩ (r.app (RpL.one h2) fun _ _ z => by cases z) h2 (fun b z => .inl (by simpa using z)) fun b z => by cases z
theorem je_setd {i : Nat} {o e f : Expr} {tb tc : DE} (hi : i < X.N.length) (ho : PE X o (tVar i)) (he : JE X cn E e tb) (hf : JE X cn E f tc) (m : M2 X o "setdefault" apos e f cpos) : JE X cn E (.Call (.Attribute o "setdefault" apos) [e, f] [] cpos) (dMut "dict" i mSetd (dCons tb (dCons tc dNil))) := by
  refine ⟨fun pins sh σ H Q I ⟨pv, γ, ρ, G, fp, Q0, E0, mt, q, po, px⟩ => ?_⟩
  have hl : i < σ.length := by rw [I.len]; exact hi
  obtain ⟨a, h1, h2, h3⟩ := mutD m_setd hl mt q po px
  refine (pe_dsetd ho he hf m).run pins sh σ H Q I ⟨.ref a, h1, a, rfl, h2, liftE_mono (args2 h3) fun y H1 k => liftE_mono k fun z H2 ⟨a', kvs, key, y', z', e1, e2, g1, g2, g3, g4, g5⟩ => ?_⟩
  cases e1
  cases e2
  exact ⟨kvs, key, g1, g2, g3, g4, g5⟩
def rPopD : V → List V → Hp → VK → Prop := fun x vs H Q => ∃ (a : Addr) (kvs : List (Key × V)) (k : Key), x = .ref a ∧ vs = [kV k] ∧ H a = some (.dK kvs) ∧ ∃ v, valV kvs k = some v ∧ Q v (L2.upd H a (.dK (dropK kvs k)))
def rPopD2 : V → List V → Hp → VK → Prop := fun x vs H Q => ∃ (a : Addr) (kvs : List (Key × V)) (k : Key) (z : V), x = .ref a ∧ vs = [kV k, z] ∧ H a = some (.dK kvs) ∧ (∀ v, valV kvs k = some v → Q v (L2.upd H a (.dK (dropK kvs k)))) ∧ (valV kvs k = none → Q z H)
def mPopD : OpM := fun k ch es Q => ∃ ks kd x c, k = .dic ks ∧ es = [kd] ∧ keyD kd = some x ∧ lookK ks ch x = some c ∧ c.isFz = true ∧ Q (.dic (delKs ks x)) (delCh ks ch x) c
def mPopD2 : OpM := fun k ch es Q => ∃ ks kd x d, k = .dic ks ∧ es = [kd, d] ∧ keyD kd = some x ∧ d.isFz = true ∧ match lookK ks ch x with
  | some c => c.isFz = true ∧ Q (.dic (delKs ks x)) (delCh ks ch x) c
  | none => Q (.dic ks) ch d
end
end DL
/-! DL18: methods of lists and texts, dict(..), f-strings. -/
namespace DL
open PySem L2
section
variable {X : Cx} {cn : String → Addr} {E : WX} {pos apos cpos : Pos}
/-! ### lists that one slot holds -/
theorem RpL.erase {K : PySem.W.Frag} {G H : Hp} : ∀ {vs : List V} {ds : List D} {F : List Addr} {k : Nat} {d : D}, RpL K G H vs ds F → ds[k]? = some d → ∃ y F' Fr, vs[k]? = some y ∧ Rp K G H y d Fr ∧ RpL K G H (vs.eraseIdx k) (ds.eraseIdx k) F' ∧ (∀ b ∈ F', b ∈ F) ∧ ∀ b ∈ Fr, b ∈ F ∧ b ∉ F'
  | _, [], _, k, d, h, e => by simp at e
  | _, c :: cs, _, 0, d, .cons h1 h2 h3, e => by
    simp only [List.getElem?_cons_zero, Option.some.injEq] at e
    subst e
    exact ⟨_, _, _, by simp, h1, h2, fun b z => List.mem_append_right _ z, fun b z => ⟨List.mem_append_left _ z, h3 b z⟩⟩
  | _, c :: cs, _, k + 1, d, .cons h1 h2 h3, e => by
    rw [List.getElem?_cons_succ] at e
    obtain ⟨y, F', Fr, g1, g2, g3, g4, g5⟩ := RpL.erase h2 e
    refine ⟨y, _, Fr, by rw [List.getElem?_cons_succ]; exact g1, g2, .cons h1 g3 fun a z w => h3 a z (g4 a w), fun b z => ?_, fun b z => ⟨List.mem_append_right _ (g5 b z).1, fun w => ?_⟩⟩
    · exact (List.mem_append.mp z).elim (fun z => List.mem_append_left _ z) fun z => List.mem_append_right _ (g4 b z)
    · rcases List.mem_append.mp w with w | w
      · exact h3 b w (g5 b z).1
      · exact (g5 b z).2 w
def mPopAt : OpM := fun k ch es Q => ∃ i j d, k = .lst ∧ es = [.p (.int i)] ∧ (-(2 ^ 63) ≤ i ∧ i < 2 ^ 63) ∧ seqIndex? i ch.length = some j ∧ ch[j]? = some d ∧ Q .lst (ch.eraseIdx j) d
theorem m_popAt {K : PySem.W.Frag} : SemM K rPopAt mPopAt := by
  rintro G H a k vs ch F ws es Fw Q0 Q s hG n r ha rw dw ⟨i, j, d, rfl, rfl, ⟨b1, b2⟩, hj, hd, q⟩ fin
  obtain ⟨y, rfl, h1⟩ := rl1 rw
  cases h1
  obtain ⟨z, F', Fr, g1, g2, g3, g4, g5⟩ := r.erase hd
  exact ⟨a, vs, i, j, z, rfl, rfl, n, b1, b2, by rw [r.len]; exact hj, g1, fin .lst _ d (vs.eraseIdx j) z _ F' Fr q upd_same g3 g2 (fun b z => .inl (g4 b z)) fun b z => ⟨.inl (g5 b z).1, (g5 b z).2⟩⟩
def mPop : OpM := fun k ch es Q => ∃ d, k = .lst ∧ es = [] ∧ ch[ch.length - 1]? = some d ∧ Q .lst ch.dropLast d
theorem RpL.ins {K : PySem.W.Frag} {G H : Hp} {y : V} {d : D} {Fw : List Addr} (ry : Rp K G H y d Fw) : ∀ {vs : List V} {ds : List D} {F : List Addr} (k : Nat), RpL K G H vs ds F → (∀ b ∈ Fw, b ∉ F) → ∃ F', RpL K G H (vs.take k ++ [y] ++ vs.drop k) (ds.take k ++ [d] ++ ds.drop k) F' ∧ ∀ b ∈ F', b ∈ F ∨ b ∈ Fw
  | vs, ds, F, 0, h, dj => ⟨_, by simpa using RpL.cons ry h dj, fun b z => (List.mem_append.mp z).elim .inr .inl⟩
  | _, [], _, k + 1, h, dj => by
    cases h
    exact ⟨_, by simpa using RpL.one ry, fun b z => .inr z⟩
  | _, c :: cs, _, k + 1, .cons h1 h2 h3, dj => by
    obtain ⟨F', g1, g2⟩ := RpL.ins ry k h2 fun b z w => dj b z (List.mem_append_right _ w)
    have key := RpL.cons h1 g1 fun a z w => (by
      rcases g2 a w with w | w
      · exact h3 a z w
      · exact dj a w (List.mem_append_left _ z))
    refine ⟨_, by simpa using key, fun b z => ?_⟩
    · rcases List.mem_append.mp z with z | z
      · exact .inl (List.mem_append_left _ z)
      · exact (g2 b z).imp (List.mem_append_right _) id
def mInsert : OpM := fun k ch es Q => ∃ i d, k = .lst ∧ es = [.p (.int i), d] ∧ (0 ≤ i ∧ i < 2 ^ 63 ∧ ch.length < 100000) ∧ Q .lst (ch.take i.toNat ++ [d] ++ ch.drop i.toNat) .non
theorem m_insert {K : PySem.W.Frag} : SemM K (fun x vs H Q => ∃ (l : Addr) (xs : List V) (i : Int) (y : V), x = .ref l ∧ vs = [.int i, y] ∧ H l = some (.lst xs) ∧ xs.length < sizeLine ∧ 0 ≤ i ∧ i < 2 ^ 63 ∧ Q .non (L2.upd H l (.lst (xs.take i.toNat ++ [y] ++ xs.drop i.toNat)))) mInsert := by
  rintro G H a k vs ch F ws es Fw Q0 Q s hG n r ha rw dw ⟨i, d, rfl, rfl, ⟨b1, b2, b3⟩, q⟩ fin
  obtain ⟨y, z, Fa, Fb, rfl, h1, h2, h3, h4⟩ := rl2 rw
  cases h1
  obtain ⟨F', g1, g2⟩ := RpL.ins h2 i.toNat r fun b z => (dw b (h4 b z)).1
  exact ⟨a, vs, i, z, rfl, rfl, n, by rw [r.len]; exact Nat.lt_of_lt_of_le b3 (by decide), b1, b2, fin .lst _ .non _ .non _ F' [] q upd_same g1 (Rp.p _) (fun b z => (g2 b z).imp id (h4 b)) fun b z => by cases z⟩
def mExtend : OpM := fun k ch es Q => ∃ o ch2, k = .lst ∧ es = [.n o .lst ch2] ∧ ch.length + ch2.length ≤ 100000 ∧ Q .lst (ch ++ ch2) .non
theorem m_extend {K : PySem.W.Frag} : SemM K rExtend mExtend := by
  rintro G H a k vs ch F ws es Fw Q0 Q s hG n r ha rw dw ⟨o, ch2, rfl, rfl, b3, q⟩ fin
  obtain ⟨y, rfl, h1⟩ := rl1 rw
  have hl : ∀ zs : List V, zs.length = ch2.length → vs.length + zs.length ≤ sizeLine := fun zs e => by
    rw [r.len, e]; exact Nat.le_trans b3 (by decide)
  cases h1 with
  | f g1 g2 => exact ⟨a, _, vs, _, rfl, rfl, n, s _ _ g1, hl _ g2.len, fin .lst _ .non _ .non _ _ [] q upd_same (r.app g2 fun b z w => (dw b w).1 z) (Rp.p _) (fun b z => (List.mem_append.mp z).imp id id) fun b z => by cases z⟩
  | o g0 g1 g3 g2 => exact ⟨a, _, vs, _, rfl, rfl, n, g1, hl _ g2.len, fin .lst _ .non _ .non _ _ [] q upd_same (r.app g2 fun b z w => (dw b (List.mem_cons_of_mem _ w)).1 z) (Rp.p _) (fun b z => (List.mem_append.mp z).imp id (List.mem_cons_of_mem _)) fun b z => by cases z⟩
def mClear : OpM := fun k ch es Q => k = .lst ∧ es = [] ∧ Q .lst [] .non
/-! ### a method with one argument that only reads -/
def dBM1 (T : String) (r : Op2) (ta tb : DE) : DE := fun ρ Q E => ta ρ (fun x ρ1 => (∃ d, look ρ1 x = some d ∧ tyM d = T ∧ (T = "list" ∨ T = "dict")) ∧ tb ρ1 (fun y ρ2 => ∃ d e, look ρ2 x = some d ∧ look ρ2 y = some e ∧ r d e fun z => Q (.t z) ρ2) E) E
theorem je_bm1 {o e : Expr} {ta tb : DE} {rr : V → List V → Hp → VK → Prop} {q : Op2} {T id : String} {name : Str} (pa : PlainAttrs T) (slot : Slot T name id) (hty : typeOf (.builtin id) = pure (.type "method_descriptor")) (hm : MtR X id rr) (hq : Sem2 X.K (fun x y H Q => rr x [y] H Q) q)
    (ho : JE X cn E o ta) (he : JE X cn E e tb)
    (hbase : attributeBase o name X.env (eval o X.env) = eval o X.env := by rfl)
    (hfew : ((backTo cpos (starEach [e] X.env)).all (fun x => !x.1) && (backToKw cpos (keywordEach [] X.env)).all (fun x => x.1.isSome)
      && decide (([e] : List Expr).length + ([] : List Keyword).length + (if ([] : List Keyword).isEmpty then 0 else 1) < 30)) = true := by rfl)
    (hline : (apos.endLine == cpos.line) = true := by rfl) (hs : starEach [e] X.env = (false, eval e X.env) :: starEach [] X.env := by rfl) (hplain : (backTo cpos (starEach [] X.env)).any (·.1) = false := by rfl) :
    JE X cn E (.Call (.Attribute o name apos) [e] [] cpos) (dBM1 T q ta tb) := by
  refine pe_imp (pe_bm pa slot hty hm ho (ja_cons he ja_nil hs) hbase hfew hline hs hplain) ?_
  rintro σ H Q ⟨pv, γ, ρ, G, fp, Q0, E0, m, q0, po, px⟩
  refine ⟨pv, γ, ρ, G, fp, _, E0, m, q0, fun x ρ1 v G1 H1 fp1 F1 q1 s1 m1 o1 => ?_, px⟩
  obtain ⟨⟨d, l1, h1, h2⟩, q1⟩ := q1
  obtain ⟨A0, rA0, _⟩ := look_ok m1 o1 l1
  refine ⟨tyV_of m1.sub rA0 h1 h2, ?_⟩
  refine ⟨pv, γ, ρ1, G1, fp1, fun rs ρ2 => match rs with | [y] => ∃ d e, look ρ2 x = some d ∧ look ρ2 y = some e ∧ q d e fun z => Q0 (.t z) ρ2 | _ => False, E0, m1, q1, fun rs ρ2 vs G2 H2 fp2 F2 q2 s2 m2 o2 => ?_, px.on s1⟩
  · obtain ⟨y, rfl⟩ : ∃ y, rs = [y] := by
      match rs, q2 with
      | [y], _ => exact ⟨y, rfl⟩
    obtain ⟨d, e, l1, l2, q2⟩ := q2
    obtain ⟨w, rfl⟩ : ∃ w, vs = [w] := by
      cases o2 with
      | cons a b => cases b; exact ⟨_, rfl⟩
    have o3 : RvOk X.K (σ ++ γ) G2 H2 (InF fp2) w y F2 := by
      cases o2 with
      | cons a b => cases b; rw [List.append_nil]; exact a
    obtain ⟨A, rA, _⟩ := look_ok m2 (o1.frame s2) l1
    obtain ⟨B, rB, _⟩ := look_ok m2 o3 l2
    refine hq G2 H2 v w d e A B _ Q m2.sub rA rB q2 fun z w' G3 H3 Fz qz s3 hs3 rz => ?_
    obtain ⟨f1, f2, f3⟩ := fin_new m2 (s1.seq (fun _ z => .inl z) s2 fun _ z => .inl z) (fun a z => .inl z) s3 hs3
    exact po (.t z) ρ2 w' G3 H3 fp2 Fz qz f1 f2 ⟨rz, f3⟩
/-! ### xs.index(y), flat items -/
def qIndex : Op2 := fun d e Q => ∃ (vs : List V) (y : V) (j : Nat), listOf d = some (vs.map D.p) ∧ e = .p y ∧ (flatV y && vs.all flatV) = true ∧ vs.findIdx? (fun z => eqV z y) = some j ∧ Q (.int (j : Nat))
theorem s_index {K : PySem.W.Frag} : Sem2 K (fun x y H Q => rIndex K x [y] H Q) qIndex := by
  rintro G H v u d e F1 F2 Q0 Q s r1 r2 ⟨vs, y, j, hl, rfl, hf, hj, q⟩ fin
  cases r2
  rw [Bool.and_eq_true] at hf
  obtain ⟨a, ws, F', rfl, h1, h2⟩ := r1.listOf s hl
  have e0 := h2.prims
  subst e0
  obtain ⟨h3, h4, h5⟩ := List.findIdx?_eq_some_iff_getElem.mp hj
  refine ⟨a, _, _, j, _, rfl, rfl, h1, hf.1, hf.2, List.getElem?_eq_getElem h3, h4, fun m z' hm hz => ?_, fin.p s q⟩
  obtain ⟨h6, h7⟩ := List.getElem?_eq_some_iff.mp hz
  have := h5 m hm
  rw [h7] at this
  simpa using this

/-! ### dict(pairs), dict(d) -/
def keyE : Key → D
  | .inl i => .p (.int i)
  | .inr x => .p (.str x)
def mergeD : List (Key × D) → List Key → List D → List Key × List D
  | [], ks, ch => (ks, ch)
  | (k, d) :: r, ks, ch => mergeD r (putKs ks k) (putCh ks ch k d)
def qDict : OpL := fun ds Q => (∃ d ch kvs, ds = [d] ∧ listOf d = some ch ∧ ch = kvs.map (fun kv => .n false .tup [keyE kv.1, kv.2]) ∧ isFzL (kvs.map (·.2)) = true ∧ kvs.length ≤ 100000 ∧ Q (.n true (.dic (mergeD kvs [] []).1) (mergeD kvs [] []).2)) ∨
  ∃ o ks ch, ds = [.n o (.dic ks) ch] ∧ isFzL ch = true ∧ Q (.n true (.dic ks) ch)
/-! ### f'..' -/
def dFmt (te : DE) : DE := fun ρ Q E => te ρ (fun r ρ1 => ∃ d, look ρ1 r = some d ∧ ((∃ y : Str, d = .p (.str y) ∧ y.length ≤ 100000 ∧ Q (.t (.p (.str y))) ρ1) ∨ ∃ i : Int, d = .p (.int i) ∧ i.natAbs.log2 < 1920 ∧ Q (.t (.p (.str (toString i)))) ρ1)) E
def dJl : List DE → Str → Env → (Str → Env → Prop) → (Exn → Env → Prop) → Prop
  | [], acc, ρ, Q, _ => Q acc ρ
  | t :: ts, acc, ρ, Q, E => t ρ (fun r ρ1 => ∃ y : Str, look ρ1 r = some (.p (.str y)) ∧ (acc ++ y).length ≤ 100000 ∧ dJl ts (acc ++ y) ρ1 Q E) E
def dJs (ts : List DE) : DE := fun ρ Q E => dJl ts Str.empty ρ (fun out ρ1 => Q (.t (.p (.str out))) ρ1) E
/-! ### texts -/
def qZfill : Op2
  | .p (.str a), .p (.int i), Q => PadOk i = true ∧ Q (.str (Txt.zfill a i))
  | _, _, _ => False
def qFind : Op2
  | .p (.str a), .p (.str b), Q => Q (.int (Txt.find a b))
  | _, _, _ => False
def qSplit : Op2
  | .p (.str a), .p (.str b), Q => (b.length == 0) = false ∧ a.length ≤ 100000 ∧ Q (.own ((Txt.split a b).map fun y => .p (.str y)))
  | _, _, _ => False
/-! ### tuple(x) -/
end
end DL
/-! DL19: slots forgotten; loops over what they use up; slots that are parts of what others hold. -/
namespace DL
open PySem L2
/-! ### forgetting -/
def dThenW (t : DS) (vs : List Nat) : DS := fun D ρ => t { D with nx := fun ρ1 => D.nx (wipeD ρ1 vs) } ρ
section
variable {X : Cx} {cn : String → Addr} {E : WX} {pos apos cpos : Pos}
theorem PoN.wipe {K : PySem.W.Frag} {pv : Nat → V} {γ : St} {n : Nat} {G H : Hp} {fp : Fps} {N0 : Env → Prop} {N : St → Hp → Prop} {vs : List Nat} (h : PoN K pv γ n G H fp N0 N) : PoN K pv γ n G H fp (fun ρ => N0 (wipeD ρ vs)) N :=
  fun ρ' σ' G' H' fp' q s m l => h _ σ' G' H' fp' q s (m.wipeD vs) l
theorem js_wipe {st : Stmt} {t : DS} {vs : List Nat} (h : JS X cn E st t) : JS X cn E st (dThenW t vs) := ps_imp h fun D σ H ⟨pv, γ, ρ, G, fp, D0, m, q, po⟩ => ⟨pv, γ, ρ, G, fp, _, m, q, po.nx.wipe, po.bk, po.ct, po.rt, po.ex⟩
def dLoopW (g : DG) (tb : DS) (vs : List Nat) (D : DEnds) : List DL.D → Env → Prop
  | [], ρ => D.nx ρ
  | d :: ds, ρ => g (.t d) ρ fun ρ1 => tb { D with nx := fun ρ2 => dLoopW g tb vs D ds (wipeD ρ2 vs), ct := fun ρ2 => dLoopW g tb vs D ds (wipeD ρ2 vs), bk := fun ρ2 => D.nx (wipeD ρ2 vs) } ρ1
def dForW (ti : DI) (g : DG) (tb : DS) (vs : List Nat) : DS := fun D ρ => ti ρ (fun items ρ1 => dLoopW g tb vs D items (wipeD ρ1 vs)) D.ex
def dWhNW (c : DT) (tb : DS) (vs : List Nat) (D : DEnds) : Nat → Env → Prop
  | 0, _ => False
  | n + 1, ρ => c ρ (fun b ρ1 => if b = true then tb { D with nx := fun ρ2 => dWhNW c tb vs D n (wipeD ρ2 vs), ct := fun ρ2 => dWhNW c tb vs D n (wipeD ρ2 vs), bk := fun ρ2 => D.nx (wipeD ρ2 vs) } ρ1 else D.nx ρ1) D.ex
def dWhileW (c : DT) (tb : DS) (vs : List Nat) : DS := fun D ρ => ∃ n, dWhNW c tb vs D n (wipeD ρ vs)
variable {c iter tg : Expr} {body : List Stmt} {tb : DS} {tc : DT} {ti : DI} {g : DG} {S : List Nat} {vs : List Nat}
theorem js_whileW (hp : PassesOwn (model X.prog X.w) X.A X.env X.xe) (hc : JT X cn E c tc) (hb : JSs X cn E body tb) : JS X cn E (.While c body [] pos) (dWhileW tc tb vs) := by
  refine ps_imp (ps_while hp hc hb) ?_
  rintro Dn σ H ⟨pv, γ, ρ, G, fp, D0, m, ⟨n, q⟩, po⟩
  refine ⟨fun k σ' H' => ∃ ρ' G' fp', Mt X.K pv (σ' ++ γ) ρ' G' H' fp' ∧ dWhNW tc tb vs D0 k ρ' ∧ PoS X.K cn pv γ σ.length G' H' fp' D0 Dn E ∧ σ'.length = σ.length, ⟨n, _, G, fp, m.wipeD vs, q, po, rfl⟩, ?_⟩
  rintro k σ1 H1 ⟨ρ1, G1, fp1, m1, q1, po1, l1⟩
  cases k with
  | zero => exact q1.elim
  | succ k =>
    refine ⟨pv, γ, ρ1, G1, fp1, _, D0.ex, m1, q1, fun b ρ2 G2 H2 fp2 q2 s2 m2 => ?_, by rw [l1]; exact po1.ex⟩
    cases b with
    | false => exact po1.nx ρ2 σ1 G2 H2 fp2 q2 s2 m2 l1
    | true =>
      rw [if_pos rfl] at q2 ⊢
      refine ⟨fun σ' H' => ∃ ρ' G' fp', Mt X.K pv (σ' ++ γ) ρ' G' H' fp' ∧ dWhNW tc tb vs D0 k ρ' ∧ PoS X.K cn pv γ σ.length G' H' fp' D0 Dn E ∧ σ'.length = σ.length, fun σ' H' h => ⟨k, Nat.lt_succ_self _, h⟩, ?_⟩
      have po2 := po1.on s2
      refine ⟨pv, γ, ρ2, G2, fp2, _, m2, q2, ?_⟩
      rw [l1]
      exact ⟨fun ρ3 σ3 G3 H3 fp3 q3 s3 m3 l3 => ⟨_, G3, fp3, m3.wipeD vs, q3, po2.on s3, l3⟩, po2.nx.wipe, fun ρ3 σ3 G3 H3 fp3 q3 s3 m3 l3 => ⟨_, G3, fp3, m3.wipeD vs, q3, po2.on s3, l3⟩, po2.rt, po2.ex⟩
theorem js_forW (hp : PassesOwn (model X.prog X.w) X.A X.env X.xe) (hc : X.calm = true) (hi : JI X cn E tg iter ti) (hg : JG X S tg g) (hb : JSs X cn E body tb)
    (hs : ∀ x, foldedSetIterable iter X.env x = pure x := by intro _; rfl) : JS X cn E (.For tg iter body [] pos) (dForW ti g tb vs) := by
  refine ps_imp (ps_for hp hc hi hg hb hs) ?_
  rintro Dn σ H ⟨pv, γ, ρ, G, fp, D0, m, q, po⟩
  refine ⟨pv, γ, ρ, G, fp, _, _, m, q, fun items ρ0 J G0 H0 fp0 q0 s0 m0 wk => ?_, po.ex⟩
  refine ⟨fun i k σ' H' => ∃ ρ' G' fp', k = items.length - i ∧ i ≤ items.length ∧ Sub G0 G' ∧ Mt X.K pv (σ' ++ γ) ρ' G' H' fp' ∧ dLoopW g tb vs D0 (items.drop i) ρ' ∧ PoS X.K cn pv γ σ.length G' H' fp' D0 Dn E ∧ σ'.length = σ.length,
    ⟨items.length, _, G0, fp0, by omega, Nat.zero_le _, fun _ _ z => z, m0.wipeD vs, q0, po.on s0, rfl⟩, ?_⟩
  rintro i k σ1 H1 ⟨ρ1, G1, fp1, rfl, hi, sg, m1, q1, po1, l1⟩
  obtain ⟨w1, w2⟩ := wk G1 H1 sg m1.sub
  by_cases hlt : i < items.length
  · have hd : items[i]? = some items[i] := List.getElem?_eq_getElem hlt
    obtain ⟨go, yl⟩ := w1 i _ hd
    refine .inr ⟨go, fun σ' H' => ∃ ρ' G' fp', Sub G0 G' ∧ Mt X.K pv (σ' ++ γ) ρ' G' H' fp' ∧ dLoopW g tb vs D0 (items.drop (i + 1)) ρ' ∧ PoS X.K cn pv γ σ.length G' H' fp' D0 Dn E ∧ σ'.length = σ.length,
      fun σ' H' ⟨ρ', G', fp', a, b, c, d, e⟩ => ⟨items.length - (i + 1), by omega, ρ', G', fp', rfl, hlt, a, b, c, d, e⟩, fun x H2 hy => ?_⟩
    obtain ⟨G2, s2, hs2, r2⟩ := yl x H2 hy
    rw [List.drop_eq_getElem_cons hlt] at q1
    have m2 := m1.step s2 hs2
    have po2 := po1.on (s2.mono (fun _ z => z.elim) fun _ z => .inr z : Stp G1 H1 (InF fp1) G2 H2 (InF fp1))
    refine ⟨pv, γ, ρ1, G2, fp1, .t items[i], [], _, m2, ⟨r2, fun a z => by cases z⟩, q1, fun ρ3 σ3 G3 H3 fp3 q3 s3 m3 l3 _ => ?_⟩
    have s3' : Stp G2 H2 (InF fp1) G3 H3 (InF fp3) := s3.mono (fun a z => z.elim id fun z => by cases z) fun _ z => .inl z
    have po3 := po2.on s3'
    refine ⟨pv, γ, ρ3, G3, fp3, _, m3, q3, ?_⟩
    rw [l3, l1]
    have sg3 : Sub G0 G3 := fun a o z => s3.g a o (s2.g a o (sg a o z))
    have fin : PoN X.K pv γ σ.length G3 H3 fp3 (fun ρ2 => dLoopW g tb vs D0 (items.drop (i + 1)) (wipeD ρ2 vs)) (fun σ' H' => ∃ ρ' G' fp', Sub G0 G' ∧ Mt X.K pv (σ' ++ γ) ρ' G' H' fp' ∧ dLoopW g tb vs D0 (items.drop (i + 1)) ρ' ∧ PoS X.K cn pv γ σ.length G' H' fp' D0 Dn E ∧ σ'.length = σ.length) :=
      fun ρ4 σ4 G4 H4 fp4 q4 s4 m4 l4 => ⟨_, G4, fp4, fun a o z => s4.g a o (sg3 a o z), m4.wipeD vs, q4, po3.on s4, l4⟩
    exact ⟨fin, po3.nx.wipe, fin, po3.rt, po3.ex⟩
  · refine .inl ⟨w2 i (by omega), ?_⟩
    rw [List.drop_of_length_le (by omega)] at q1
    exact po1.nx ρ1 σ1 G1 H1 fp1 q1 (Stp.refl _ _ _) m1 l1

/-! ### for x in xs, xs used up: each item is x's own -/
def dForC (i : Nat) (g : DG) (tb : DS) (vs : List Nat) : DS := fun D ρ => ∃ ch, ρ[i]? = some (.v (.n true .lst ch)) ∧ dLoopW g tb vs D ch (wipeD ((killB i ρ).set i .un) vs)
theorem RpL.uncons {K : PySem.W.Frag} {G H : Hp} {vs : List V} {d : D} {ds : List D} {F : List Addr} (h : RpL K G H vs (d :: ds) F) : ∃ v vs' F1 F2, vs = v :: vs' ∧ F = F1 ++ F2 ∧ Rp K G H v d F1 ∧ RpL K G H vs' ds F2 ∧ ∀ a ∈ F1, a ∉ F2 := by
  cases h with
  | cons h1 h2 h3 => exact ⟨_, _, _, _, rfl, rfl, h1, h2, h3⟩
theorem RpL.frame {K : PySem.W.Frag} {G H G' H' : Hp} {vs : List V} {ds : List D} {F : List Addr} {P P' : Addr → Prop} (r : RpL K G H vs ds F) (s : Stp G H P G' H' P') (hd : ∀ a ∈ F, ¬ P a) : RpL K G' H' vs ds F ∧ ∀ a ∈ F, ¬ P' a := by
  have hf := RpL.foot ds r
  refine ⟨r.mov s.g _ fun a ha o hg ho => ⟨s.n a o ho hg (hd a ha), s.h a o ho (hd a ha)⟩, fun a ha q => ?_⟩
  rcases s.f a q with z | z
  · exact hd a ha z
  · obtain ⟨_, o, ho⟩ := hf a ha
    rw [z] at ho; cases ho
end
end DL
/-! DL20: slots that are parts of what other slots hold. -/
namespace DL
open PySem L2
/-- a part of a value anew -/
def D.put : D → List Nat → D → D
  | _, [], e => e
  | .p v, _ :: _, _ => .p v
  | .n o k ch, i :: q, e => .n o k (match ch[i]? with
    | some c => ch.set i (D.put c q e)
    | none => ch)
section
variable {K : PySem.W.Frag} {G H H' : Hp}
theorem RpL.focus : ∀ {vs : List V} {ds : List D} {F : List Addr} {i : Nat} {c : D} {z : V}, RpL K G H vs ds F → ds[i]? = some c → vs[i]? = some z →
    ∃ Fi, Rp K G H z c Fi ∧ (∀ a ∈ Fi, a ∈ F) ∧ ∀ (H' : Hp) (c' : D) (Fi' : List Addr), (∀ b o, b ∈ F → b ∉ Fi → H b = some o → H' b = some o) → Rp K G H' z c' Fi' → (∀ b ∈ Fi', b ∈ Fi ∨ b ∉ F) → ∃ F2, RpL K G H' vs (ds.set i c') F2 ∧ (∀ b ∈ F2, (b ∈ F ∧ b ∉ Fi) ∨ b ∈ Fi') ∧ ∀ b ∈ Fi', b ∈ F2
  | _, [], _, i, c, z, h, e, _ => by simp at e
  | _, d :: ds, _, 0, c, z, h, e, ez => by
    obtain ⟨v, vs', F1, F2, rfl, rfl, h1, h2, h3⟩ := h.uncons
    simp only [List.getElem?_cons_zero, Option.some.injEq] at e ez
    subst e ez
    refine ⟨F1, h1, fun a ha => List.mem_append_left _ ha, fun H' c' Fi' hh r hd => ?_⟩
    rw [List.set_cons_zero]
    have h2' : RpL K G H' vs' ds F2 := h2.mov (fun _ _ z => z) _ fun a ha o hg ho => ⟨hg, hh a o (List.mem_append_right _ ha) (fun z => h3 a z ha) ho⟩
    refine ⟨Fi' ++ F2, .cons r h2' fun a ha hb => ?_, fun b hb => ?_, fun b hb => List.mem_append_left _ hb⟩
    · rcases hd a ha with z | z
      · exact h3 a z hb
      · exact z (List.mem_append_right _ hb)
    · rcases List.mem_append.mp hb with z | z
      · exact .inr z
      · exact .inl ⟨List.mem_append_right _ z, fun y => h3 b y z⟩
  | _, d :: ds, _, i + 1, c, z, h, e, ez => by
    obtain ⟨v, vs', F1, F2, rfl, rfl, h1, h2, h3⟩ := h.uncons
    rw [List.getElem?_cons_succ] at e ez
    obtain ⟨Fi, g1, g2, g3⟩ := RpL.focus h2 e ez
    refine ⟨Fi, g1, fun a ha => List.mem_append_right _ (g2 a ha), fun H' c' Fi' hh r hd => ?_⟩
    rw [List.set_cons_succ]
    obtain ⟨F3, k1, k2, k3⟩ := g3 H' c' Fi' (fun b o hb => hh b o (List.mem_append_right _ hb)) r fun b hb => (hd b hb).imp id fun z y => z (List.mem_append_right _ y)
    have h1' : Rp K G H' v d F1 := h1.mov (fun _ _ z => z) _ fun a ha o hg ho => ⟨hg, hh a o (List.mem_append_left _ ha) (fun z => h3 a ha (g2 a z)) ho⟩
    refine ⟨F1 ++ F3, .cons h1' k1 fun a ha hb => ?_, fun b hb => ?_, fun b hb => List.mem_append_right _ (k3 b hb)⟩
    · rcases k2 a hb with z | z
      · exact h3 a ha z.1
      · rcases hd a z with y | y
        · exact h3 a ha (g2 a y)
        · exact y (List.mem_append_left _ ha)
    · rcases List.mem_append.mp hb with z | z
      · exact .inl ⟨List.mem_append_left _ z, fun y => h3 b z (g2 b y)⟩
      · exact (k2 b z).imp (fun y => ⟨List.mem_append_right _ y.1, y.2⟩) id
theorem Rp.focus {P : Addr → Prop} : ∀ {q : List Nat} {x y : V} {d : D} {k : Kd} {ch : List D} {F : List Addr}, Rp K G H x d F → d.at q = some (.n true k ch) → PathV K H P x q y →
    ∃ a vs Fc, y = .ref a ∧ a ∈ F ∧ G a = none ∧ NdO K H a k vs ∧ a ∉ Fc ∧ RpL K G H vs ch Fc ∧ (∀ b ∈ Fc, b ∈ F) ∧
      ∀ (H' : Hp) (k' : Kd) (vs' : List V) (ch' : List D) (F' : List Addr), (∀ b o, b ∈ F → b ≠ a → b ∉ Fc → H b = some o → H' b = some o) → NdO K H' a k' vs' → RpL K G H' vs' ch' F' → (∀ b ∈ F', b ≠ a ∧ (b ∈ Fc ∨ b ∉ F)) →
        ∃ F2, Rp K G H' x (d.put q (.n true k' ch')) F2 ∧ (∀ b ∈ F2, (b ∈ F ∧ b ∉ Fc) ∨ b ∈ F') ∧ (∀ b ∈ F', b ∈ F2) ∧ a ∈ F2 ∧ PathV K H' (fun b => b ∈ F2) x q y
  | [], x, y, d, k, ch, F, r, e, h => by
    have e1 : d = .n true k ch := by
      cases d with
      | p v => simp [D.at] at e
      | n o k0 ch0 => cases o <;> simpa [D.at] using e
    subst e1
    have e2 : x = y := h
    subst e2
    cases r with
    | @o a _ vs _ Fc h0 h1 h3 h2 =>
      refine ⟨a, vs, Fc, rfl, List.mem_cons_self .., h0, h1, h3, h2, fun b hb => List.mem_cons_of_mem _ hb, fun H' k' vs' ch' F' hh hn hr hd => ?_⟩
      refine ⟨a :: F', Rp.o h0 hn (fun z => (hd a z).1 rfl) hr, fun b hb => ?_, fun b hb => List.mem_cons_of_mem _ hb, List.mem_cons_self .., rfl⟩
      rcases List.mem_cons.mp hb with z | z
      · exact .inl ⟨z ▸ List.mem_cons_self .., fun y => h3 (z ▸ y)⟩
      · exact .inr z
  | i :: q, x, y, .p v, k, ch, F, r, e, h => by simp [D.at] at e
  | i :: q, x, y, .n false k0 ch0, k, ch, F, r, e, h => by simp [D.at] at e
  | i :: q, x, y, .n true k0 ch0, k, ch, F, r, e, h => by
    cases r with
    | @o a0 _ vs0 _ F0 h0 h1 h3 h2 =>
      simp only [D.at] at e
      obtain ⟨a', k', vs', z, e1, _, n1, g1, p1⟩ := h
      injection e1 with e1
      subst e1
      have ev := NdO.inj n1 h1
      subst ev
      cases ec : ch0[i]? with
      | none => rw [ec] at e; cases e
      | some c =>
        rw [ec] at e
        obtain ⟨Fi, q1, q2, q3⟩ := RpL.focus h2 ec g1
        obtain ⟨a, vs, Fc, rfl, ha, hg, hn, hac, hrl, hfc, step⟩ := Rp.focus q1 e p1
        have aF : a ∈ F0 := q2 a ha
        have ne0 : a0 ≠ a := fun z => h3 (z ▸ aF)
        refine ⟨a, vs, Fc, rfl, List.mem_cons_of_mem _ aF, hg, hn, hac, hrl, fun b hb => List.mem_cons_of_mem _ (q2 b (hfc b hb)), fun H' k2 vs2 ch2 F' hh hn2 hr2 hd2 => ?_⟩
        obtain ⟨F2, r2, i2, j2, a2, p2⟩ := step H' k2 vs2 ch2 F' (fun b o hb => hh b o (List.mem_cons_of_mem _ (q2 b hb))) hn2 hr2 fun b hb => ⟨(hd2 b hb).1, (hd2 b hb).2.imp id fun z y => z (List.mem_cons_of_mem _ (q2 b y))⟩
        have dF2 : ∀ b ∈ F2, b ∈ Fi ∨ b ∉ F0 := fun b hb => by
          rcases i2 b hb with z | z
          · exact .inl z.1
          · rcases (hd2 b z).2 with y | y
            · exact .inl (hfc b y)
            · exact .inr fun w => y (List.mem_cons_of_mem _ w)
        obtain ⟨F3, r3, i3, j3⟩ := q3 H' _ F2 (fun b o hb hn => hh b o (List.mem_cons_of_mem _ hb) (fun z => hn (z ▸ ha)) fun z => hn (hfc b z)) r2 dF2
        have e0 : ∀ o, H a0 = some o → H' a0 = some o := fun o ho => hh a0 o (List.mem_cons_self ..) ne0 (fun z => h3 (q2 a0 (hfc a0 z))) ho
        have n0 : NdO K H' a0 k0 _ := h1.keep e0
        have n1' : NdO K H' a0 k' _ := n1.keep e0
        have hn0 : a0 ∉ F3 := fun z => by
          rcases i3 a0 z with y | y
          · exact h3 y.1
          · rcases i2 a0 y with w | w
            · exact h3 (q2 a0 w.1)
            · rcases (hd2 a0 w).2 with v | v
              · exact h3 (q2 a0 (hfc a0 v))
              · exact v (List.mem_cons_self ..)
        have ep : (D.n true k0 ch0).put (i :: q) (.n true k2 ch2) = .n true k0 (ch0.set i (c.put q (.n true k2 ch2))) := by
          simp only [D.put, ec]
        rw [ep]
        refine ⟨a0 :: F3, Rp.o h0 n0 hn0 r3, fun b hb => ?_, fun b hb => List.mem_cons_of_mem _ (j3 b (j2 b hb)), List.mem_cons_of_mem _ (j3 a a2), ⟨a0, k', _, z, rfl, List.mem_cons_self .., n1', g1, p2.mono (fun _ _ _ z => z) fun b hb => List.mem_cons_of_mem _ (j3 b hb)⟩⟩
        rcases List.mem_cons.mp hb with w | w
        · exact .inl ⟨w ▸ List.mem_cons_self .., fun z => h3 (q2 a0 (hfc a0 (w ▸ z)))⟩
        · rcases i3 b w with y | y
          · exact .inl ⟨List.mem_cons_of_mem _ y.1, fun z => y.2 (hfc b z)⟩
          · exact (i2 b y).imp (fun v => ⟨List.mem_cons_of_mem _ (q2 b v.1), v.2⟩) id
end

section
variable {K : PySem.W.Frag} {pv : Nat → V} {σ : St} {ρ : Env} {G H H' : Hp} {fp : Fps}
/-- what stands in a slot is changed within -/
theorem Mt.mutG {i : Nat} {s : Sl} {x : V} {d d' : D} {F2 : List Addr} (m : Mt K pv σ ρ G H fp) (hi : ρ[i]? = some s) (hs : s.d? = some d) (hσ : σ[i]? = some (some x))
    (hh : ∀ b o, b ∉ fp i → H b = some o → H' b = some o) (r : Rp K G H' x d' F2) (hd : ∀ b ∈ F2, b ∈ fp i ∨ ¬ InF fp b) :
    Mt K pv σ ((killB i ρ).set i (s.re d')) G H' (updF fp i F2) := by
  have hl : i < ρ.length := (List.getElem?_eq_some_iff.mp hi).1
  have hl' : i < (killB i ρ).length := by rw [killB_len]; exact hl
  have other : ∀ j, j ≠ i → ∀ b ∈ fp j, b ∉ fp i := fun j hj b hb => m.ap j i hj b hb
  have gk : ∀ {j : Nat} {s0 s' : Sl}, j ≠ i → ((killB i ρ).set i s0)[j]? = some s' → s' ≠ .un → ρ[j]? = some s' ∧ ∀ q, s' ≠ .b i q := fun {j s0 s'} hj h hn => by
    rw [List.getElem?_set_ne (Ne.symm hj)] at h
    exact killB_of h hn
  have up : ∀ {x : V} {d : D} {F0 : List Addr}, Rp K G H x d F0 → (∀ b ∈ F0, b ∉ fp i) → Rp K G H' x d F0 := fun r h => r.mov (fun _ _ z => z) _ fun b hb o hg ho => ⟨hg, hh b o (h b hb) ho⟩
  have dF : ∀ b ∈ F2, ∀ j, j ≠ i → b ∉ fp j := fun b hb j hj z => by
    rcases hd b hb with y | y
    · exact m.ap i j (Ne.symm hj) b y z
    · exact y ⟨j, z⟩
  refine ⟨fun b o z => ?_, by rw [List.length_set, killB_len]; exact m.len, fun j d' h => ?_, fun j d' h => ?_, fun j l q h => ?_, fun j l hjl b hb => ?_, fun j b hb => ?_⟩
  · exact hh b o (fun y => by rw [(m.ft i b y).1] at z; cases z) (m.sub b o z)
  · by_cases hj : j = i
    · subst hj
      rw [List.getElem?_set_self hl'] at h
      cases s with
      | un => cases hs
      | b _ _ => cases hs
      | v _ => cases h; exact ⟨_, hσ, by rw [updF_same]; exact r⟩
      | w _ => cases h
    · obtain ⟨x, h1, h2⟩ := m.sl j d' (gk hj h (by intro z; cases z)).1
      exact ⟨x, h1, by rw [updF_ne hj]; exact up h2 (other j hj)⟩
  · by_cases hj : j = i
    · subst hj
      rw [List.getElem?_set_self hl'] at h
      cases s with
      | un => cases hs
      | b _ _ => cases hs
      | v _ => cases h
      | w d0 =>
        cases h
        have e := (m.pn j d0 hi).1
        rw [hσ] at e
        have e' : x = pv j := Option.some.inj (Option.some.inj e)
        exact ⟨by rw [← e']; exact hσ, by rw [updF_same, ← e']; exact r⟩
    · obtain ⟨h1, h2⟩ := m.pn j d' (gk hj h (by intro z; cases z)).1
      exact ⟨h1, by rw [updF_ne hj]; exact up h2 (other j hj)⟩
  · by_cases hj : j = i
    · subst hj
      rw [List.getElem?_set_self hl'] at h
      cases s with
      | un => cases hs
      | b _ _ => cases hs
      | v _ => cases h
      | w _ => cases h
    · obtain ⟨g1, g2⟩ := gk hj h (by intro z; cases z)
      obtain ⟨x, y, h1, h2, h3⟩ := m.br j l q g1
      have hk : l ≠ i := fun z => g2 q (by rw [z])
      refine ⟨x, y, h1, h2, ?_⟩
      rw [updF_ne hk]
      exact h3.mono (fun b o hb z => hh b o (other l hk b hb) z) fun _ z => z
  · by_cases hj : j = i
    · subst hj
      rw [updF_same] at hb
      rw [updF_ne (Ne.symm hjl)]
      exact dF b hb l (Ne.symm hjl)
    · rw [updF_ne hj] at hb
      by_cases hk : l = i
      · subst hk
        rw [updF_same]
        exact fun z => dF b z j hj hb
      · rw [updF_ne hk]; exact m.ap j l hjl b hb
  · by_cases hj : j = i
    · subst hj
      rw [updF_same] at hb
      exact Rp.foot _ r b hb
    · rw [updF_ne hj] at hb
      obtain ⟨h1, o, h2⟩ := m.ft j b hb
      exact ⟨h1, o, hh b o (other j hj b hb) h2⟩
/-- a slot known as a part of what another one holds -/
theorem Mt.setB {i j : Nat} {q : List Nat} {x y : V} (m : Mt K pv σ ρ G H fp) (hi : i < ρ.length) (hx : σ[j]? = some (some x)) (hy : σ[i]? = some (some y)) (h : PathV K H (fun a => a ∈ fp j) x q y) : Mt K pv σ (ρ.set i (.b j q)) G H fp := by
  refine ⟨m.sub, by rw [List.length_set]; exact m.len, fun k d e => ?_, fun k d e => ?_, fun k l q' e => ?_, m.ap, m.ft⟩
  · by_cases hk : k = i
    · subst hk; rw [List.getElem?_set_self hi] at e; cases e
    · rw [List.getElem?_set_ne (Ne.symm hk)] at e; exact m.sl k d e
  · by_cases hk : k = i
    · subst hk; rw [List.getElem?_set_self hi] at e; cases e
    · rw [List.getElem?_set_ne (Ne.symm hk)] at e; exact m.pn k d e
  · by_cases hk : k = i
    · subst hk
      rw [List.getElem?_set_self hi] at e
      cases e
      exact ⟨x, y, hx, hy, h⟩
    · rw [List.getElem?_set_ne (Ne.symm hk)] at e; exact m.br k l q' e
end
section
variable {X : Cx} {cn : String → Addr} {E : WX} {pos apos cpos : Pos} {i j : Nat}
/-- x = y[e]: x stands for a part of what slot j holds -/
def dBor (i j : Nat) (te : DE) : DS := fun D ρ => (∃ s d, ρ[j]? = some s ∧ s.d? = some d) ∧ te ρ (fun r ρ1 => ∃ n s ch m k' ch', look ρ1 r = some (.p (.int n)) ∧ ρ1[j]? = some s ∧ s.d? = some (.n true .lst ch) ∧ ixN ch.length n = some m ∧ ch[m]? = some (.n true k' ch') ∧ okV ρ1 i = true ∧
  D.nx ((killB i ρ1).set i (.b j [m]))) D.ex
theorem okV_lt {ρ : Env} (h : okV ρ i = true) : i < ρ.length := by
  unfold okV at h
  split at h <;> first | (rename_i e; exact (List.getElem?_eq_some_iff.mp e).1) | cases h
theorem js_bor {st : Stmt} {te : DE} (hi : i < X.N.length) (hj : j < X.N.length) (hij : (i == j) = false) (h : PS X st (tAsg (tOp (rIx X.K) (tVar j) (liftE X.K cn E te)) (gName i))) : JS X cn E st (dBor i j te) := ⟨fun pins sh σ H D I ⟨pv, γ, ρ, G, fp, D0, m, ⟨⟨s, d, e1, e2⟩, q⟩, po⟩ => by
  have hli : i < σ.length := by rw [I.len]; exact hi
  have hlj : j < σ.length := by rw [I.len]; exact hj
  obtain ⟨x, h1, h2⟩ := m.at e1 e2
  refine h.run pins sh σ H D I ⟨x, get_left hlj h1, pv, γ, ρ, G, fp, _, _, m, q, fun r ρ1 w G1 H1 fp1 F1 ⟨n, s', ch, k, k', ch', l1, g1, g2, g3, g4, g5, q1⟩ s1 m1 o1 => ?_, po.ex⟩
  have := look_p m1 o1 l1
  subst this
  obtain ⟨x', h3, h4⟩ := m1.at g1 g2
  rw [h1] at h3
  cases h3
  generalize hF : fp1 j = Fj at h4
  cases h4 with
  | @o a _ vs _ F n0 n1 n2 n3 =>
    obtain ⟨y, F', r1, r2, r3⟩ := RpL.get ch n3 g4
    refine .inl ⟨a, vs, n, y, rfl, rfl, .inl (.inl n1), ?_, ?_⟩
    · unfold L2.atI
      rw [n3.len, g3]
      exact r1
    have hk := okV_lt g5
    have mf := m1.forget i
    have hc : clr ((killB i ρ1).set i .un) [i] = true := clr_wipeD ρ1 [i] fun z hz => by rw [List.mem_singleton.mp hz]; exact hk
    have ml : ∀ b, b ≠ i → ((σ ++ γ).set i (some y))[b]? = (σ ++ γ)[b]? := fun b hb => List.getElem?_set_ne (Ne.symm hb)
    have mc := mf.cong (σ' := (σ ++ γ).set i (some y)) hc (by rw [List.length_set]) fun b hb => ml b fun z => hb (by simp [z])
    have hji : j ≠ i := fun z => by rw [z, beq_self_eq_true] at hij; cases hij
    have mb := mc.setB (i := i) (j := j) (q := [k]) (x := .ref a) (y := y) (by rw [List.length_set, killB_len]; exact hk) (by rw [ml j hji]; exact h1) (by rw [List.getElem?_set_self (by rw [List.length_append]; omega)]) ⟨a, .lst, vs, y, rfl, by rw [hF]; exact List.mem_cons_self .., n1, r1, rfl⟩
    rw [List.set_set, set_app hli] at mb
    exact po.nx _ _ G1 H1 fp1 q1 (drop0 s1) mb (by rw [List.length_set])⟩
/-- x.m(e, ..): x in slot i, a part of what another one holds -/
def dMutB (T : String) (i : Nat) (r : OpM) (t : DA) : DE := fun ρ Q E => (∃ d, slD ρ i = some d ∧ tyM d = T ∧ (T = "list" ∨ T = "dict")) ∧ t ρ (fun rs ρ1 => ∃ es ρ2 j q s root k ch, tkL ρ1 rs = some (es, ρ2) ∧ ρ2[i]? = some (Sl.b j q) ∧ ρ2[j]? = some s ∧ s.d? = some root ∧ root.at q = some (.n true k ch) ∧
  r k ch es fun k' ch' res => Q (.t res) (((killB j ρ2).set j (s.re (root.put q (.n true k' ch')))).set i (.b j q))) E
theorem mutB_go {K : PySem.W.Frag} {pv : Nat → V} {σ γ : St} {ρ1 : Env} {G H G1 H1 : Hp} {fp fp1 : Fps} {F1 : List Addr} {Q0 : Rv → Env → Prop} {Q : VK} {r : OpM} {rr : V → List V → Hp → VK → Prop} {rs : List Rv} {vs : List V} {y : V} (hs : SemM K rr r) (hy : (σ ++ γ)[i]? = some (some y))
    (po : PoE K pv σ γ G H fp Q0 Q) (s1 : Stp G H (InF fp) G1 H1 (fun a => InF fp1 a ∨ a ∈ F1)) (m1 : Mt K pv (σ ++ γ) ρ1 G1 H1 fp1) (o1 : RvsOk K (σ ++ γ) G1 H1 (InF fp1) vs rs F1)
    (q : ∃ es ρ2 j q s root k ch, tkL ρ1 rs = some (es, ρ2) ∧ ρ2[i]? = some (Sl.b j q) ∧ ρ2[j]? = some s ∧ s.d? = some root ∧ root.at q = some (.n true k ch) ∧ r k ch es fun k' ch' res => Q0 (.t res) (((killB j ρ2).set j (s.re (root.put q (.n true k' ch')))).set i (.b j q))) : rr y vs H1 Q := by
  obtain ⟨es, ρ2, j, pq, s, root, k, ch, e1, hi, hj, hd, hat, q⟩ := q
  obtain ⟨G2, fp2, s2, m2, r2, i2⟩ := tkL_ok m1 o1 (fun _ z => z) e1
  obtain ⟨x, h1, h2⟩ := m2.at hj hd
  obtain ⟨x', y', g1, g2, g3⟩ := m2.br i j pq hi
  rw [h1] at g1
  cases g1
  rw [hy] at g2
  cases g2
  have hji : j ≠ i := fun z => by
    subst z
    rw [hi] at hj
    cases hj
    cases hd
  have dW : ∀ b ∈ F1, ¬ InF fp2 b := fun b hb z => RvsOk.foot o1 b hb (i2 b z)
  obtain ⟨a, us, Fc, rfl, ha, hg, hn, hac, hrl, hfc, step⟩ := Rp.focus h2 hat g3
  have hai : InF fp2 a := ⟨j, ha⟩
  have hFi : ∀ b ∈ Fc, InF fp2 b := fun b hb => ⟨j, hfc b hb⟩
  refine hs G2 H1 a k us ch Fc vs es F1 _ Q m2.sub hg hn hrl hac r2 (fun b hb => ⟨fun z => dW b hb (hFi b z), fun z => dW b hb (by rw [z]; exact hai)⟩) q ?_
  intro k' ch' res vs' w o' F' Fr q' n' r' rr' d' dr
  have dF' : ∀ b ∈ F', b ≠ a := fun b hb z => by
    rcases d' b hb with y | y
    · exact hac (by rw [← z]; exact y)
    · exact dW b y (by rw [z]; exact hai)
  have r'' : RpL K G2 (L2.upd H1 a o') vs' ch' F' := r'.mov (fun _ _ z => z) _ fun b hb o hg ho => ⟨hg, by rw [upd_ne (dF' b hb)]; exact ho⟩
  obtain ⟨F2, t1, t2, t3, t4, t5⟩ := step (L2.upd H1 a o') k' vs' ch' F' (fun b o _ hne _ ho => by rw [upd_ne hne]; exact ho) n' r'' fun b hb => ⟨dF' b hb, (d' b hb).imp id fun z y => dW b z ⟨j, y⟩⟩
  have dF2 : ∀ b ∈ F2, b ∈ fp2 j ∨ ¬ InF fp2 b := fun b hb => by
    rcases t2 b hb with z | z
    · exact .inl z.1
    · rcases d' b z with y | y
      · exact .inl (hfc b y)
      · exact .inr (dW b y)
  have m3 := m2.mutG (H' := L2.upd H1 a o') (d' := root.put pq (.n true k' ch')) hj hd h1 (fun b o hb ho => by rw [upd_ne fun z => hb (by rw [z]; exact ha)]; exact ho) t1 dF2
  have hlen : i < ρ2.length := (List.getElem?_eq_some_iff.mp hi).1
  have m4 := m3.setB (i := i) (j := j) (q := pq) (by rw [List.length_set, killB_len]; exact hlen) h1 hy (by rw [updF_same]; exact t5)
  have dr' : ∀ b ∈ Fr, b ≠ a := fun b hb z => by
    rcases (dr b hb).1 with y | y
    · exact hac (by rw [← z]; exact y)
    · exact dW b y (by rw [z]; exact hai)
  refine po (.t res) _ w G2 (L2.upd H1 a o') _ Fr q' ?_ m4 ⟨rr'.mov (fun _ _ z => z) _ fun b hb o hg ho => ⟨hg, by rw [upd_ne (dr' b hb)]; exact ho⟩, fun b hb z => ?_⟩
  · refine (s1.trans (s2.mono (P' := InF fp2) (Q' := fun a => InF fp2 a ∨ a ∈ F1) (fun _ z => .inl z) fun a z => z.elim .inl fun z => .inr (.inr z))).trans
      ⟨fun _ _ z => z, fun b o z n => by rw [upd_ne fun y => n (by rw [y]; exact .inl hai)]; exact z, fun _ _ _ z _ => z, fun b z => .inl ?_⟩
    rcases z with z | z
    · rcases InF.updF z with z | z
      · exact .inl z
      · rcases t2 b z with y | y
        · exact .inl ⟨j, y.1⟩
        · exact (d' b y).imp (hFi b) id
    · exact (dr b z).1.imp (hFi b) id
  · rcases dr b hb with ⟨y, ny⟩
    obtain ⟨l, hl⟩ := z
    by_cases e : l = j
    · subst e
      rw [updF_same] at hl
      rcases t2 b hl with u | u
      · rcases y with y | y
        · exact u.2 y
        · exact dW b y ⟨l, u.1⟩
      · exact ny u
    · rw [updF_ne e] at hl
      rcases y with y | y
      · exact m2.ap l j e b hl (hfc b y)
      · exact dW b y ⟨l, hl⟩
theorem slD_ty {K : PySem.W.Frag} {pv : Nat → V} {σ : St} {ρ : Env} {G H : Hp} {fp : Fps} {T : String} {d : DL.D} (m : Mt K pv σ ρ G H fp) (h : slD ρ i = some d) (h1 : tyM d = T) (h2 : T = "list" ∨ T = "dict") : ∃ v, σ[i]? = some (some v) ∧ tyV K T v H := by
  obtain ⟨v, F0, g1, g2, _⟩ := sl_ok m h
  exact ⟨v, g1, tyV_of m.sub g2 h1 h2⟩
theorem je_mutB {e : Expr} {t : DA} {T : String} {r : OpM} {rr : V → List V → Hp → VK → Prop} (hs : SemM X.K rr r) (hi : i < X.N.length) (h : PE X e (tBM X.K T rr (tVar i) (liftA X.K cn E t))) : JE X cn E e (dMutB T i r t) := by
  refine ⟨fun pins sh σ H Q I ⟨pv, γ, ρ, G, fp, Q0, E0, m, ⟨⟨d, e2, e3, e4⟩, q⟩, po, px⟩ => ?_⟩
  obtain ⟨x, h1, h2⟩ := slD_ty m e2 e3 e4
  have hl : i < σ.length := by rw [I.len]; exact hi
  exact h.run pins sh σ H Q I ⟨x, get_left hl h1, h2, pv, γ, ρ, G, fp, _, E0, m, q, fun rs ρ1 vs G1 H1 fp1 F1 q1 s1 m1 o1 => mutB_go hs h1 po s1 m1 o1 q1, px⟩
/-! ### x[e] = .. as a target -/
/-- what is stored within slot n: itself, or where it is a part of another one -/
def mutK (n : Nat) (r : OpM) (rs : List Rv) (ρ : Env) (Q : Env → Prop) : Prop :=
  (∃ es ρ2 s k ch, tkL ρ rs = some (es, ρ2) ∧ ρ2[n]? = some s ∧ s.d? = some (.n true k ch) ∧ r k ch es fun k' ch' _ => Q ((killB n ρ2).set n (s.re (.n true k' ch')))) ∨
  ∃ es ρ2 j q s root k ch, tkL ρ rs = some (es, ρ2) ∧ ρ2[n]? = some (Sl.b j q) ∧ ρ2[j]? = some s ∧ s.d? = some root ∧ root.at q = some (.n true k ch) ∧ r k ch es fun k' ch' _ => Q (((killB j ρ2).set j (s.re (root.put q (.n true k' ch')))).set n (.b j q))
def dGSub (T : String) (n : Nat) (r : OpM) (ti : DE) : DG := fun x ρ Q => (∃ d, slD ρ n = some d ∧ tyM d = T ∧ (T = "list" ∨ T = "dict")) ∧ ti ρ (fun y ρ1 => mutK n r [y, x] ρ1 Q) (fun _ _ => False)
theorem jg_sub {n : Nat} {S : List Nat} {e : Expr} {T : String} {r : OpM} {rr : V → List V → Hp → VK → Prop} {tset : TSet} {ti : DE} (hi : n < X.N.length) (hs : SemM X.K rr r) (hset : ∀ o i v H Q, rr o [i, v] H (fun _ H' => Q H') → tset o i v H Q)
    (h : PG X e (gSub (tVar n) (liftE X.K cn WF ti) tset)) : JG X S e (dGSub T n r ti) := ⟨fun pins sh σ H v u Q I rv ⟨pv, γ, ρ, G, fp, x, F, N0, m, o, ⟨⟨d, e2, e3, e4⟩, q⟩, po⟩ => by
  have hl : n < σ.length := by rw [I.len]; exact hi
  obtain ⟨z, h1, _⟩ := slD_ty m e2 e3 e4
  refine h.run pins sh σ H v u Q I rv ⟨z, get_left hl h1, pv, γ, ρ, G, fp, _, fun _ _ => False, m, q, fun y ρ2 w G2 H2 fp2 F2 q2 s2 m2 o2 => ?_, fun x ρ' cls dx σ' G' H' fp' q => q.elim⟩
  refine hset _ _ _ _ _ ?_
  have o1' := o.frame s2
  let fpX : Fps := fun k => if k = 0 then fp 0 ++ F else fp k
  have hX : ∀ a, InF fpX a ↔ InF fp a ∨ a ∈ F := fun a => by
    constructor
    · rintro ⟨k, hk⟩
      by_cases e : k = 0
      · simp only [fpX, e, if_true] at hk
        exact (List.mem_append.mp hk).imp (fun z => ⟨0, z⟩) id
      · simp only [fpX, e, if_false] at hk
        exact .inl ⟨k, hk⟩
    · rintro (⟨k, hk⟩ | hk)
      · by_cases e : k = 0
        · refine ⟨0, ?_⟩
          simp only [fpX, if_true]
          exact List.mem_append_left _ (e ▸ hk)
        · refine ⟨k, ?_⟩
          simp only [fpX, e, if_false]
          exact hk
      · refine ⟨0, ?_⟩
        simp only [fpX, if_true]
        exact List.mem_append_right _ hk
  have po2 : PoE X.K pv σ γ G H fpX (fun _ ρ' => N0 ρ') (fun _ H' => Q σ H') := fun r' ρ' v' G' H' fp' F' q' s' m' o' =>
    po ρ' σ G' H' fp' q' (s'.mono (fun a z => (hX a).mp z) fun a z => .inl (.inl z)) m' rfl fun _ _ => rfl
  have s0 : Stp G H (InF fpX) G2 H2 (fun a => InF fp2 a ∨ a ∈ F2 ++ (F ++ [])) := s2.mono (fun a z => (hX a).mpr (.inl z)) fun a z => by
    rcases z with z | z
    · exact .inl (.inl z)
    · rcases List.mem_append.mp z with z | z
      · exact .inl (.inr z)
      · exact .inr ((hX a).mpr (.inr (by simpa using z)))
  have oo : RvsOk X.K (σ ++ γ) G2 H2 (InF fp2) [w, v] [y, x] (F2 ++ (F ++ [])) := .cons o2 (.cons o1' .nil)
  rcases q2 with q2 | q2
  · exact mut_go (F1 := F2 ++ (F ++ [])) (Q := fun _ H' => Q σ H') (Q0 := fun _ ρ' => N0 ρ') hs h1 po2 s0 m2 oo q2
  · exact mutB_go (F1 := F2 ++ (F ++ [])) (Q := fun _ H' => Q σ H') (Q0 := fun _ ρ' => N0 ρ') hs h1 po2 s0 m2 oo q2⟩
end
end DL
/-! DL21: targets that are tuples; what is never reached. -/
namespace DL
open PySem L2
abbrev DGs := List D → Env → (Env → Prop) → Prop
def dGNil : DGs := fun ds ρ Q => ds = [] ∧ Q ρ
def dGCons (g : DG) (gs : DGs) : DGs := fun ds ρ Q => match ds with
  | d :: ds => g (.t d) ρ fun ρ1 => gs ds ρ1 Q
  | [] => False
def dGTup (n : Nat) (gs : DGs) : DG := fun r ρ Q => ∃ d ρ1 ch, tkF ρ r = some (d, ρ1) ∧ itemsOf d = some ch ∧ ch.length = n ∧ gs ch ρ1 Q
def liftGs (K : PySem.W.Frag) (S : List Nat) (gs : DGs) : TGs := fun vs σ H Q => ∃ pv γ ρ G fp ds N0, Mt K pv (σ ++ γ) ρ G H fp ∧ RpL K G H vs ds [] ∧ gs ds ρ N0 ∧
  ∀ ρ' σ' G' H' fp', N0 ρ' → Stp G H (InF fp) G' H' (InF fp') → Mt K pv (σ' ++ γ) ρ' G' H' fp' → σ'.length = σ.length → (∀ i, i ∉ S → σ'[i]? = σ[i]?) → Q σ' H'
abbrev JGs (X : Cx) (S : List Nat) (es : List Expr) (gs : DGs) : Prop := PGs X es (liftGs X.K S gs)
section
variable {X : Cx} {cn : String → Addr} {E : WX} {pos : Pos} {S S' : List Nat} {e : Expr} {es : List Expr} {g : DG} {gs : DGs}
theorem pgs_imp {t t' : TGs} (h : PGs X es t) (i : ∀ vs σ H Q, t' vs σ H Q → t vs σ H Q) : PGs X es t' := ⟨fun pins s σ H vs us Q I r q => h.run pins s σ H vs us Q I r (i vs σ H Q q)⟩
theorem jg_mono (h : JG X S e g) (hs : ∀ i ∈ S, i ∈ S') : JG X S' e g := pg_imp h fun v σ H Q ⟨pv, γ, ρ, G, fp, r, F, N0, m, o, q, po⟩ =>
  ⟨pv, γ, ρ, G, fp, r, F, N0, m, o, q, fun ρ' σ' G' H' fp' a b c d e => po ρ' σ' G' H' fp' a b c d fun i hi => e i fun z => hi (hs i z)⟩
theorem jgs_nil : JGs X S [] dGNil := pgs_imp pgs_nil fun vs σ H Q ⟨pv, γ, ρ, G, fp, ds, N0, m, o, ⟨e, q⟩, po⟩ => by
  subst e
  exact ⟨RpL.nil2 o, po ρ σ G H fp q (Stp.refl _ _ _) m rfl fun _ _ => rfl⟩
theorem jgs_cons (h1 : JG X S e g) (h2 : JGs X S es gs) (hs : (assignEach (e :: es) X.env).map (·.2) = assign e X.env :: (assignEach es X.env).map (·.2) := by rfl) : JGs X S (e :: es) (dGCons g gs) := by
  refine pgs_imp (pgs_cons h1 h2 hs) ?_
  rintro vs σ H Q ⟨pv, γ, ρ, G, fp, ds, N0, m, o, q, po⟩
  cases ds with
  | nil => exact q.elim
  | cons d ds =>
    obtain ⟨x, xs, rfl, r1, r2⟩ := RpL.cons2 o
    refine ⟨x, xs, rfl, pv, γ, ρ, G, fp, .t d, [], _, m, ⟨r1, fun a z => by cases z⟩, q, fun ρ1 σ1 G1 H1 fp1 q1 s1 m1 l1 k1 => ?_⟩
    have s1' : Stp G H (InF fp) G1 H1 (InF fp1) := s1.mono (fun a z => z.elim id fun z => by cases z) fun _ z => .inl z
    refine ⟨pv, γ, ρ1, G1, fp1, ds, N0, m1, r2.mov s1.g _ (fun a z => by cases z), q1, fun ρ2 σ2 G2 H2 fp2 q2 s2 m2 l2 k2 => po ρ2 σ2 G2 H2 fp2 q2 (s1'.trans s2) m2 (l2.trans l1) fun i hi => (k2 i hi).trans (k1 i hi)⟩
theorem pg_alt {t t' : TG} (h : PG X e t) (h' : PG X e t') : PG X e (fun v σ H Q => t v σ H Q ∨ t' v σ H Q) := ⟨fun pins s σ H v u Q I r q => q.elim (h.run pins s σ H v u Q I r) (h'.run pins s σ H v u Q I r)⟩
theorem jg_tup {k n : Nat} (hc : X.calm = true) (h : JGs X S es gs) (hn : (assignEach es X.env).length = n := by rfl) (hst : (assignEach es X.env).findIdx? (·.1) = none := by rfl) : JG X S (.Tuple es k pos) (dGTup n gs) := by
  refine pg_imp (pg_alt (pg_tup hc h hn hst) (pg_lst hc h hn hst)) ?_
  rintro v σ H Q ⟨pv, γ, ρ, G, fp, r, F, N0, m, o, ⟨d, ρ1, ch, e1, e2, e3, q⟩, po⟩
  obtain ⟨G2, fp2, s2, m2, r2, i2⟩ := tkF_ok m o (fun _ z => z) e1
  have lift : ∀ vs, RpL X.K G2 H vs ch [] → liftGs X.K S gs vs σ H Q := fun vs hr => ⟨pv, γ, ρ1, G2, fp2, ch, N0, m2, hr, q, fun ρ' σ' G' H' fp' q' s' m' l' k' => po ρ' σ' G' H' fp' q' (s2.trans s') m' l' k'⟩
  cases r2 with
  | p _ => simp only [itemsOf] at e2; cases e2
  | @f a kd vs ch' _ h1 h2 =>
    have hl := h2.len
    cases kd with
    | lst => simp only [itemsOf, Option.some.injEq] at e2; subst e2; exact .inr ⟨a, vs, rfl, .inl (.inl (m2.sub _ _ h1)), by omega, lift vs h2⟩
    | lok => simp only [itemsOf, Option.some.injEq] at e2; subst e2; exact .inr ⟨a, vs, rfl, SqL.mono m2.sub h1, by omega, lift vs h2⟩
    | tup => simp only [itemsOf, Option.some.injEq] at e2; subst e2; exact .inl ⟨a, vs, rfl, .inl (.inl (m2.sub _ _ h1)), by omega, lift vs h2⟩
    | tok => simp only [itemsOf, Option.some.injEq] at e2; subst e2; exact .inl ⟨a, vs, rfl, SqT.mono m2.sub h1, by omega, lift vs h2⟩
    | dic _ => simp only [itemsOf] at e2; cases e2
    | dit _ => simp only [itemsOf] at e2; cases e2
    | obj _ _ => simp only [itemsOf] at e2; cases e2
    | exc _ _ => simp only [itemsOf] at e2; cases e2
/-! ### list(d.items()) -/
def keyOf : List Key → List D → List D
  | k :: ks, d :: ds => .n false .tup [keyE k, d] :: keyOf ks ds
  | _, _ => []
def dListItems (te : DE) : DE := fun ρ Q E => te ρ (fun r ρ1 => ∃ o ks ch, look ρ1 r = some (.n o (.dic ks) ch) ∧ isFzL ch = true ∧ Q (.t (.n true .lst (keyOf ks ch))) ρ1) E
end
end DL
/-! DL22: running: dicts, what is written, loops that forget, targets. -/
namespace DL
open PySem L2
open Enc (en)
/-! ### dicts of plain things -/
class KeyE (κ : Type) [Enc κ] where
  key : κ → Key
  inj : ∀ a b, key a = key b → a = b
  kd : ∀ a, keyD (en a) = some (key a)
instance : KeyE Int := ⟨.inl, fun _ _ h => by injection h, fun _ => rfl⟩
instance : KeyE Str := ⟨.inr, fun _ _ h => by injection h, fun _ => rfl⟩
section
variable {κ β : Type} [DecidableEq κ]
def aget : List (κ × β) → κ → Option β
  | [], _ => none
  | p :: r, k => if p.1 = k then some p.2 else aget r k
def aput (kv : List (κ × β)) (k : κ) (v : β) : List (κ × β) := if k ∈ kv.map (·.1) then kv.map fun p => (p.1, if p.1 = k then v else p.2) else kv ++ [(k, v)]
def adel (kv : List (κ × β)) (k : κ) : List (κ × β) := kv.filter fun p => decide (p.1 ≠ k)
theorem aget_none {kv : List (κ × β)} {k : κ} : aget kv k = none ↔ k ∉ kv.map (·.1) := by
  induction kv with
  | nil => simp [aget]
  | cons p r ih =>
    by_cases h : p.1 = k
    · simp [aget, h]
    · simp only [aget, h, if_false, ih, List.map_cons, List.mem_cons, not_or]
      exact ⟨fun z => ⟨fun y => h y.symm, z⟩, fun z => z.2⟩
end
section
variable {κ β : Type} [DecidableEq κ] [Enc κ] [KeyE κ] [Enc β]
/-- a dict -/
abbrev dE (o : Bool) (kv : List (κ × β)) : D := .n o (.dic (kv.map fun p => KeyE.key p.1)) (kv.map fun p => en p.2)
theorem key_eq {a b : κ} : KeyE.key a = KeyE.key b ↔ a = b := ⟨KeyE.inj a b, fun h => by rw [h]⟩
theorem lookK_e (kv : List (κ × β)) (k : κ) : lookK (kv.map fun p => KeyE.key p.1) (kv.map fun p => (en p.2 : D)) (KeyE.key k) = (aget kv k).map en := by
  induction kv with
  | nil => rfl
  | cons p r ih =>
    rw [List.map_cons, List.map_cons, lookK, aget, ih]
    by_cases e : p.1 = k
    · simp [e]
    · simp [e, key_eq]
theorem mem_key {kv : List (κ × β)} {k : κ} : KeyE.key k ∈ (kv.map fun p => KeyE.key p.1) ↔ k ∈ kv.map (·.1) := by
  simp only [List.mem_map, key_eq]
theorem dictD_e {o : Bool} (kv : List (κ × β)) (k : κ) : dictD (dE o kv) (en k) = some ((aget kv k).map en) := by
  show (keyD (en k)).map _ = _
  rw [KeyE.kd, Option.map_some, lookK_e]
theorem put_e (kv : List (κ × β)) (k : κ) (v : β) : putKs (kv.map fun p => KeyE.key p.1) (KeyE.key k) = ((aput kv k v).map fun p => KeyE.key p.1) ∧ putCh (kv.map fun p => KeyE.key p.1) (kv.map fun p => (en p.2 : D)) (KeyE.key k) (en v) = (aput kv k v).map fun p => en p.2 := by
  unfold putKs putCh aput
  simp only [mem_key]
  by_cases h : k ∈ kv.map (·.1)
  · simp only [h, if_true]
    refine ⟨by rw [List.map_map]; rfl, ?_⟩
    rw [List.zipWith_map, List.zipWith_self, List.map_map]
    refine List.map_congr_left fun p _ => ?_
    simp only [key_eq, Function.comp]
    by_cases e : p.1 = k <;> simp [e]
  · simp only [h, if_false]
    exact ⟨by rw [List.map_append]; rfl, by rw [List.map_append]; rfl⟩
theorem fz_dE (kv : List (κ × β)) : (dE false kv).isFz = true := by
  have : (kv.map fun p => (en p.2 : D)) = (kv.map (·.2)).map en := by rw [List.map_map]; rfl
  show (!false && isFzL _) = true
  rw [this, fzl_e]
  rfl
end

/-! ### what is written -/
section
variable {n : Env → Prop} {rt : D → Env → Prop} {bk ct : Env → Prop} {ex : Exn → Env → Prop} {ρ ρ1 ρ2 : Env} {Q : Rv → Env → Prop} {QI : List D → Env → Prop} {E : Exn → Env → Prop}
  {t tb : DS} {te ta tc tt : DE} {tA : DA} {c : DT} {ti : DI} {g : DG} {gs : DGs} {d d' e : D} {ds es ch ch' : List D} {i j : Nat} {x y z : Rv} {xs : List Rv} {T : String} {m : OpM} {kd k' : Kd} {s : Sl} {res : D} {k : D → Env → Prop} {vs : List Nat}
def muE (i : Nat) (ρ2 : Env) (s : Sl) (k' : Kd) (ch' : List D) (res : D) (k : D → Env → Prop) : Prop := k res ((killB i ρ2).set i (s.re (.n true k' ch')))
theorem w_mu (h1 : tkL ρ xs = some (es, ρ2)) (h2 : ρ2[i]? = some s) (h3 : s.d? = some (.n true kd ch)) (h : m kd ch es fun k' ch' res => muE i ρ2 s k' ch' res k) : mu2K i m xs ρ k := ⟨es, ρ2, s, kd, ch, h1, h2, h3, h⟩
theorem w_muV (h1 : (killB i ρ2).set i (.v (.n true k' ch')) = ρ1) (h : k res ρ1) : muE i ρ2 (.v d) k' ch' res k := by subst h1; exact h
theorem w_muW (h1 : (killB i ρ2).set i (.w (.n true k' ch')) = ρ1) (h : k res ρ1) : muE i ρ2 (.w d) k' ch' res k := by subst h1; exact h
/-- of a slot that is a part of another one -/
def muB (i : Nat) (m : OpM) (xs : List Rv) (ρ : Env) (k : D → Env → Prop) : Prop := ∃ es ρ2 j q s root kd ch, tkL ρ xs = some (es, ρ2) ∧ ρ2[i]? = some (Sl.b j q) ∧ ρ2[j]? = some s ∧ s.d? = some root ∧ root.at q = some (.n true kd ch) ∧
  m kd ch es fun k' ch' res => k res (((killB j ρ2).set j (s.re (root.put q (.n true k' ch')))).set i (.b j q))
theorem w_mutB (h0 : ∃ d, slD ρ i = some d ∧ tyM d = T ∧ (T = "list" ∨ T = "dict")) (h : tA ρ (fun rs ρ1 => muB i m rs ρ1 fun res ρ3 => Q (.t res) ρ3) E) : dMutB T i m tA ρ Q E := ⟨h0, h⟩
/-- own rows in an own list -/
abbrev eoo {α : Type} [Enc α] (rows : List (List α)) : D := .n true .lst (rows.map eo)
def mbE (i : Nat) (ρ2 : Env) (j m : Nat) (root : D) (k' : Kd) (ch' : List D) (res : D) (k : D → Env → Prop) : Prop := k res (((killB j ρ2).set j (.v (root.put [m] (.n true k' ch')))).set i (.b j [m]))
theorem oo_at {α : Type} [Enc α] {rows : List (List α)} {row : List α} {p : Nat} (h : rows[p]? = some row) : (eoo rows).at [p] = some (eo row) := by
  simp only [eoo, D.at, List.getElem?_map, h, Option.map_some]
theorem oo_put {α : Type} [Enc α] {rows : List (List α)} {row row' : List α} {p : Nat} (h : rows[p]? = some row) : (eoo rows).put [p] (eo row') = eoo (rows.set p row') := by
  simp only [eoo, D.put, List.getElem?_map, h, Option.map_some, List.map_set]
theorem sl_oo {α : Type} {inst : Enc α} {rows : List (List α)} {row : List α} {p : Nat} (h1 : ρ[i]? = some (.b j [p])) (h2 : ρ[j]? = some (.v (eoo rows))) (h3 : rows[p]? = some row) : slD ρ i = some (eo row) := by
  have : rootD ρ j = some (eoo rows) := by simp only [rootD, h2]
  simp only [slD, h1, this, Option.bind_some]
  exact oo_at h3
theorem w_muB {α : Type} {inst : Enc α} {rows : List (List α)} {row : List α} {p : Nat} (h1 : tkL ρ xs = some (es, ρ2)) (h2 : ρ2[i]? = some (.b j [p])) (h3 : ρ2[j]? = some (.v (eoo rows))) (h4 : rows[p]? = some row) (h : m .lst (row.map en) es fun k' ch' res => mbE i ρ2 j p (eoo rows) k' ch' res k) : muB i m xs ρ k :=
  ⟨es, ρ2, j, [p], _, eoo rows, .lst, row.map en, h1, h2, h3, rfl, oo_at h4, h⟩
theorem w_mbE {α : Type} {inst : Enc α} {rows : List (List α)} {row row' : List α} {p : Nat} (h4 : rows[p]? = some row) (h1 : ((killB j ρ2).set j (.v (eoo (rows.set p row')))).set i (.b j [p]) = ρ1) (h : k res ρ1) : mbE i ρ2 j p (eoo rows) .lst (row'.map en) res k := by
  subst h1
  unfold mbE
  have e := oo_put (row' := row') h4
  unfold eo at e
  rw [e]
  exact h
/-! the methods, of plain things -/
section
variable {α : Type} {inst : Enc α} {xs' : List α} {a : α} {K : Kd → List D → D → Prop} {p : Int} {l : Nat}
theorem m_appE (h1 : xs'.length < 100000) (h : K .lst ((xs' ++ [a]).map en) .non) : mAppend .lst (xs'.map en) [en a] K := ⟨_, rfl, rfl, by rw [List.length_map]; exact h1, by rw [List.map_append] at h; exact h⟩
theorem m_setE (h1 : ixN xs'.length p = some l) (h : K .lst ((xs'.set l a).map en) .non) : mSetL .lst (xs'.map en) [.p (.int p), en a] K := ⟨p, _, l, rfl, rfl, by rw [List.length_map]; exact h1, by rw [List.map_set] at h; exact h⟩
theorem m_insE (h1 : 0 ≤ p ∧ p < 2 ^ 63 ∧ xs'.length < 100000) (h : K .lst ((xs'.take p.toNat ++ [a] ++ xs'.drop p.toNat).map en) .non) : mInsert .lst (xs'.map en) [.p (.int p), en a] K := ⟨p, _, rfl, rfl, by rw [List.length_map]; exact h1, by
  rw [List.map_append, List.map_append, List.map_take, List.map_drop] at h; exact h⟩
theorem eraseIdx_map' {α β : Type} (f : α → β) : ∀ (l : List α) (n : Nat), (l.map f).eraseIdx n = (l.eraseIdx n).map f
  | [], _ => rfl
  | a :: l, 0 => rfl
  | a :: l, n + 1 => by simp [eraseIdx_map' f l n]
theorem m_popE {y : α} (h1 : p = (l : Nat)) (h2 : xs'[l]? = some y) (hb : l < 100000) (h : K .lst ((xs'.eraseIdx l).map en) (en y)) : mPopAt .lst (xs'.map en) [.p (.int p)] K := by
  have hl := (List.getElem?_eq_some_iff.mp h2).1
  subst h1
  refine ⟨_, l, en y, rfl, rfl, ⟨by omega, by omega⟩, ?_, by rw [List.getElem?_map, h2]; rfl, by rw [eraseIdx_map']; exact h⟩
  unfold seqIndex?
  rw [List.length_map]
  simp
  omega
theorem m_extE {o : Bool} {ys : List α} (h1 : xs'.length + ys.length ≤ 100000) (h : K .lst ((xs' ++ ys).map en) .non) : mExtend .lst (xs'.map en) [.n o .lst (ys.map en)] K := ⟨o, _, rfl, rfl, by rw [List.length_map, List.length_map]; exact h1, by rw [List.map_append] at h; exact h⟩
theorem m_clrE (h : K .lst (([] : List α).map en) .non) : mClear .lst (xs'.map en) [] K := ⟨rfl, rfl, h⟩
end
section
variable {κ β : Type} {i0 : DecidableEq κ} {i1 : Enc κ} {i2 : KeyE κ} {i3 : Enc β} {kv : List (κ × β)} {a : κ} {b : β} {K : Kd → List D → D → Prop}
theorem m_putE (h1 : kv.length < 100000) (h : K (.dic ((aput kv a b).map fun p => KeyE.key p.1)) ((aput kv a b).map fun p => en p.2) .non) : mPutD (.dic (kv.map fun p => KeyE.key p.1)) (kv.map fun p => en p.2) [en a, en b] K := by
  refine ⟨_, _, rfl, Enc.fz b, by rw [List.length_map]; exact h1, KeyE.key a, KeyE.kd a, ?_⟩
  obtain ⟨e1, e2⟩ := put_e kv a b
  rw [e1, e2]
  exact h
theorem m_setdE (h1 : kv.length < 100000) (h : (∀ v, aget kv a = some v → K (.dic (kv.map fun p => KeyE.key p.1)) (kv.map fun p => en p.2) (en v)) ∧ (aget kv a = none → K (.dic ((kv ++ [(a, b)]).map fun p => KeyE.key p.1)) ((kv ++ [(a, b)]).map fun p => en p.2) (en b))) : mSetd (.dic (kv.map fun p => KeyE.key p.1)) (kv.map fun p => en p.2) [en a, en b] K := by
  refine ⟨_, _, _, KeyE.key a, rfl, rfl, Enc.fz b, by rw [List.length_map]; exact h1, KeyE.kd a, ?_⟩
  rw [lookK_e]
  cases e : aget kv a with
  | some v => exact ⟨Enc.fz v, h.1 v e⟩
  | none =>
    have := h.2 e
    rw [List.map_append, List.map_append] at this
    exact this
theorem w_newD (h : Q (.t (.n true (.dic []) [])) ρ) : dNewD ρ Q E := h
def isDK (x : Rv) (ρ : Env) (p : Prop) : Prop := (∃ d, look ρ x = some d ∧ isDic d = true) ∧ p
theorem w_isDK {p : Prop} (h1 : look ρ x = some d) (h2 : isDic d = true) (h : p) : isDK x ρ p := ⟨⟨d, h1, h2⟩, h⟩
def g2K (x y z : Rv) (ρ : Env) (k : D → Prop) : Prop := ∃ d k' dz o, look ρ x = some d ∧ look ρ y = some k' ∧ look ρ z = some dz ∧ dictD d k' = some o ∧ (o.getD dz).isFz = true ∧ k (o.getD dz)
theorem w_get2 (h : ta ρ (fun x ρ1 => isDK x ρ1 (tt ρ1 (fun y ρ2 => tc ρ2 (fun z ρ3 => g2K x y z ρ3 fun d => Q (.t d) ρ3) E) E)) E) : dGet2 ta tt tc ρ Q E := h
theorem w_g2E {o : Bool} {dz : D} {k : D → Prop} (h1 : look ρ x = some (.n o (.dic (kv.map fun p => KeyE.key p.1)) (kv.map fun p => en p.2))) (h2 : look ρ y = some (en a)) (h3 : look ρ z = some dz) (hz : dz.isFz = true) (h : k (((aget kv a).map en).getD dz)) : g2K x y z ρ k := by
  refine ⟨_, _, _, _, h1, h2, h3, dictD_e kv a, ?_, h⟩
  cases aget kv a with
  | none => exact hz
  | some v => exact Enc.fz v
theorem w_ixD {o : Bool} {k : D → Prop} (h1 : aget kv a = some b) (h : k (en b)) : qIxS (.n o (.dic (kv.map fun p => KeyE.key p.1)) (kv.map fun p => en p.2)) (en a) k := ⟨en b, by rw [dictD_e, h1]; rfl, Enc.fz b, h⟩
theorem w_inD {o : Bool} {neg : Bool} {k : D → Prop} (h : k (.bl (if neg = true then !decide (a ∈ kv.map (·.1)) else decide (a ∈ kv.map (·.1))))) : qInS neg (en a) (.n o (.dic (kv.map fun p => KeyE.key p.1)) (kv.map fun p => en p.2)) k := by
  refine ⟨_, dictD_e kv a, ?_⟩
  have : ((aget kv a).map (en : β → D)).isSome = decide (a ∈ kv.map (·.1)) := by
    cases e : aget kv a with
    | none => simp only [Option.map_none, Option.isSome_none]; rw [decide_eq_false (aget_none.mp e)]
    | some v => simp only [Option.map_some, Option.isSome_some]; rw [decide_eq_true (by
        apply Classical.byContradiction
        intro z
        rw [aget_none.mpr z] at e
        cases e)]
  rw [this]
  exact h
theorem w_inDf {o : Bool} {k : D → Prop} (h : k (.bl (decide (a ∈ kv.map (·.1))))) : qInS false (en a) (.n o (.dic (kv.map fun p => KeyE.key p.1)) (kv.map fun p => en p.2)) k := w_inD h
theorem w_inDt {o : Bool} {k : D → Prop} (h : k (.bl (!decide (a ∈ kv.map (·.1))))) : qInS true (en a) (.n o (.dic (kv.map fun p => KeyE.key p.1)) (kv.map fun p => en p.2)) k := w_inD h
end
/-- a display with written keys -/
def dpK (ks : List Str) (xs : List Rv) (ρ : Env) (k : D → Env → Prop) : Prop := ∃ ds ρ2, tkL ρ xs = some (ds, ρ2) ∧ (ks.length = ds.length ∧ ks.length ≤ 15 ∧ ks.Nodup) ∧ k (.n true (.dic (ks.map .inr)) ds) ρ2
theorem w_disp {ks : List Str} (h : tA ρ (fun rs ρ1 => dpK ks rs ρ1 fun d ρ2 => Q (.t d) ρ2) E) : dDisp ks tA ρ Q E := h
theorem w_dpK {ks : List Str} (h1 : tkL ρ xs = some (ds, ρ2)) (h2 : ks.length = ds.length ∧ ks.length ≤ 15 ∧ ks.Nodup) (h : k (.n true (.dic (ks.map .inr)) ds) ρ2) : dpK ks xs ρ k := ⟨ds, ρ2, h1, h2, h⟩
theorem w_dsN {QA : List Rv → Env → Prop} (h : dNil ρ QA E) : dDs [] ρ QA E := h
theorem w_dsC {QA : List Rv → Env → Prop} {ts : List DE} (h : dCons te (dDs ts) ρ QA E) : dDs (te :: ts) ρ QA E := h
/-- a dict with written keys, read -/
theorem w_ixR {o : Bool} {ks : List Key} {q : Str} {k : D → Prop} (h1 : lookK ks ch (.inr q) = some d) (hz : d.isFz = true) (h : k d) : qIxS (.n o (.dic ks) ch) (.p (.str q)) k := ⟨d, by show (some (lookK ks ch (.inr q))) = _; rw [h1], hz, h⟩
/-- .. written -/
theorem m_putR {ks : List Key} {q : Str} {K : Kd → List D → D → Prop} (hz : e.isFz = true) (hl : ch.length < 100000) (h1 : putKs ks (.inr q) = ks) (h2 : putCh ks ch (.inr q) e = ch') (h : K (.dic ks) ch' .non) : mPutD (.dic ks) ch [.p (.str q), e] K :=
  ⟨_, _, rfl, hz, hl, .inr q, rfl, by rw [h1, h2]; exact h⟩

/-! ### targets -/
theorem w_gnil {q : Env → Prop} (h : q ρ) : dGNil [] ρ q := ⟨rfl, h⟩
theorem w_gcons {q : Env → Prop} (h : g (.t d) ρ fun ρ1 => gs ds ρ1 q) : dGCons g gs (d :: ds) ρ q := h
theorem w_gtT {q : Env → Prop} {N : Nat} (h1 : d.fz = d') (h2 : itemsOf d' = some ds) (h3 : ds.length = N) (h : gs ds ρ q) : dGTup N gs (.t d) ρ q := ⟨d', ρ, ds, by simp only [tkF, tk, h1], h2, h3, h⟩
theorem w_gtS {q : Env → Prop} {N : Nat} (h0 : slD ρ i = some d) (hz : d.isFz = true) (h2 : itemsOf d = some ds) (h3 : ds.length = N) (h : gs ds ρ q) : dGTup N gs (.s i) ρ q := ⟨d, ρ, ds, by simp only [tkF, tk, h0, hz, if_true, fz_of hz], h2, h3, h⟩
def gsK (T : String) (i : Nat) (ρ : Env) (p : Prop) : Prop := (∃ d, slD ρ i = some d ∧ tyM d = T ∧ (T = "list" ∨ T = "dict")) ∧ p
theorem w_gsub {q : Env → Prop} (h : gsK T i ρ (te ρ (fun y ρ1 => mutK i m [y, x] ρ1 q) (fun _ _ => False))) : dGSub T i m te x ρ q := h
theorem w_gsK {p : Prop} (h0 : ∃ d, slD ρ i = some d ∧ tyM d = T ∧ (T = "list" ∨ T = "dict")) (h : p) : gsK T i ρ p := ⟨h0, h⟩
theorem w_mkB {q : Env → Prop} (h : muB i m xs ρ fun _ ρ1 => q ρ1) : mutK i m xs ρ q := .inr h
/-! ### loops -/
def wpK (ρ : Env) (vs : List Nat) (n : Env → Prop) : Prop := n (wipeD ρ vs)
theorem w_wipe (h : t ⟨fun ρ1 => wpK ρ1 vs n, rt, bk, ct, ex⟩ ρ) : dThenW t vs ⟨n, rt, bk, ct, ex⟩ ρ := h
theorem w_wpK (h1 : wipeD ρ vs = ρ1) (h : n ρ1) : wpK ρ vs n := by
  unfold wpK
  rw [h1]; exact h
theorem w_forW (h : ti ρ (fun items ρ1 => wpK ρ1 vs (dLoopW g tb vs ⟨n, rt, bk, ct, ex⟩ items)) ex) : dForW ti g tb vs ⟨n, rt, bk, ct, ex⟩ ρ := h
theorem w_forC (h1 : ρ[i]? = some (.v (.n true .lst ch))) (h2 : wipeD ((killB i ρ).set i .un) vs = ρ1) (h : dLoopW g tb vs ⟨n, rt, bk, ct, ex⟩ ch ρ1) : dForC i g tb vs ⟨n, rt, bk, ct, ex⟩ ρ := ⟨ch, h1, by rw [h2]; exact h⟩
def boK (i j : Nat) (r : Rv) (ρ1 : Env) (n : Env → Prop) : Prop := ∃ p s ch m k' ch', look ρ1 r = some (.p (.int p)) ∧ ρ1[j]? = some s ∧ s.d? = some (.n true .lst ch) ∧ ixN ch.length p = some m ∧ ch[m]? = some (.n true k' ch') ∧ okV ρ1 i = true ∧ n ((killB i ρ1).set i (.b j [m]))
theorem w_bor (h : (∃ s d, ρ[j]? = some s ∧ s.d? = some d) ∧ te ρ (fun r ρ1 => boK i j r ρ1 n) ex) : dBor i j te ⟨n, rt, bk, ct, ex⟩ ρ := h
theorem w_boK {α : Type} {inst : Enc α} {rows : List (List α)} {row : List α} {p : Int} {l : Nat} (h1 : look ρ x = some (.p (.int p))) (h2 : ρ[j]? = some (.v (eoo rows))) (h3 : p = (l : Nat)) (h4 : rows[l]? = some row) (h5 : okV ρ i = true) (h6 : (killB i ρ).set i (.b j [l]) = ρ1) (h : n ρ1) : boK i j x ρ n := by
  have hl := (List.getElem?_eq_some_iff.mp h4).1
  refine ⟨p, _, _, l, .lst, row.map en, h1, h2, rfl, ?_, by rw [List.getElem?_map, h4]; rfl, h5, by rw [h6]; exact h⟩
  subst h3
  unfold ixN
  rw [List.length_map, if_pos (by omega), if_pos (by omega)]
  simp
/-- an invariant -/
theorem lw_inv {α σ : Type} {F : α → D} {items : List α} (shape : σ → Env) (P : List α → σ → Prop) (s0 : σ) (h0 : P items s0)
    (step : ∀ a rest s, P (a :: rest) s → ∀ k : Env → Prop, (∀ s' ρ', P rest s' → wipeD ρ' vs = shape s' → k ρ') → g (.t (F a)) (shape s) fun ρ1 => tb ⟨k, rt, fun ρ2 => n (wipeD ρ2 vs), k, ex⟩ ρ1)
    (fin : ∀ s, P [] s → n (shape s)) : dLoopW g tb vs ⟨n, rt, bk, ct, ex⟩ (items.map F) (shape s0) := by
  induction items generalizing s0 with
  | nil => exact fin s0 h0
  | cons a rest ih => exact step a rest s0 h0 _ fun s' ρ' hp e => by rw [e]; exact ih s' hp
theorem lw_nil (h : n ρ) : dLoopW g tb vs ⟨n, rt, bk, ct, ex⟩ [] ρ := h
theorem whNW_run {σ : Type} (shape : σ → Env) (P : Nat → σ → Prop) (st : ∀ m s (k : Env → Prop), P m s → (∀ m' s' ρ', m' < m → P m' s' → wipeD ρ' vs = shape s' → k ρ') → c (shape s) (fun b ρ1 => if b = true then tb ⟨k, rt, fun ρ2 => n (wipeD ρ2 vs), k, ex⟩ ρ1 else n ρ1) ex) :
    ∀ (N m : Nat) (s : σ), m < N → P m s → dWhNW c tb vs ⟨n, rt, bk, ct, ex⟩ N (shape s)
  | 0, m, s, h, _ => absurd h (Nat.not_lt_zero _)
  | N + 1, m, s, h, hI => st m s _ hI fun m' s' ρ' hm hI' e => by rw [e]; exact whNW_run shape P st N m' s' (by omega) hI'
theorem whW_run {σ : Type} (shape : σ → Env) (P : Nat → σ → Prop) {m : Nat} {s : σ} (h : P m s) (h1 : wipeD ρ vs = shape s)
    (st : ∀ m s (k : Env → Prop), P m s → (∀ m' s' ρ', m' < m → P m' s' → wipeD ρ' vs = shape s' → k ρ') → c (shape s) (fun b ρ1 => if b = true then tb ⟨k, rt, fun ρ2 => n (wipeD ρ2 vs), k, ex⟩ ρ1 else n ρ1) ex) : dWhileW c tb vs ⟨n, rt, bk, ct, ex⟩ ρ :=
  ⟨m + 1, by rw [h1]; exact whNW_run shape P st (m + 1) m s (Nat.lt_succ_self _) h⟩
/-! ### zip, enumerate -/
def zK (xs : List Rv) (ρ : Env) (k : List D → Env → Prop) : Prop := ∃ d e ρ2 ch ch', tkFL ρ xs = some ([d, e], ρ2) ∧ listOf d = some ch ∧ listOf e = some ch' ∧ k (zipL ch ch') ρ2
theorem w_zip (h : tA ρ (fun rs ρ1 => zK rs ρ1 QI) E) : dIZip tA ρ QI E := h
theorem zipL_e {α β : Type} [Enc α] [Enc β] : ∀ (us : List α) (ws : List β), zipL (us.map en) (ws.map en) = (us.zip ws).map en
  | [], ws => by simp [zipL]
  | u :: us, [] => by simp [zipL]
  | u :: us, w :: ws => by rw [List.map_cons, List.map_cons, zipL, zipL_e, List.zip_cons_cons, List.map_cons]; rfl
theorem w_zK {α β : Type} {i1 : Enc α} {i2 : Enc β} {us : List α} {ws : List β} {k : List D → Env → Prop} (h1 : tkFL ρ xs = some ([d, e], ρ2)) (h2 : listOf d = some (us.map en)) (h3 : listOf e = some (ws.map en)) (h : k ((us.zip ws).map en) ρ2) : zK xs ρ k := ⟨d, e, ρ2, _, _, h1, h2, h3, by rw [zipL_e]; exact h⟩
def enK (xs : List Rv) (ρ : Env) (k : List D → Env → Prop) : Prop := ∃ d ρ2 ch, tkFL ρ xs = some ([d], ρ2) ∧ listOf d = some ch ∧ k (enumL 0 ch) ρ2
theorem w_enum (h : tA ρ (fun rs ρ1 => enK rs ρ1 QI) E) : dIEnum tA ρ QI E := h
theorem enumL_e {α : Type} [Enc α] : ∀ (us : List α) (l : Nat), enumL l (us.map en) = (us.zipIdx l).map fun p => en ((p.2 : Int), p.1)
  | [], l => rfl
  | u :: us, l => by rw [List.map_cons, enumL, enumL_e, List.zipIdx_cons, List.map_cons]; rfl
theorem w_enK {α : Type} {i1 : Enc α} {us : List α} {k : List D → Env → Prop} (h1 : tkFL ρ xs = some ([d], ρ2)) (h2 : listOf d = some (us.map en)) (h : k (us.zipIdx.map fun p => en ((p.2 : Int), p.1)) ρ2) : enK xs ρ k := ⟨d, ρ2, _, h1, h2, by rw [enumL_e]; exact h⟩
/-! ### f'..', methods of texts -/
theorem w_js {ts : List DE} (h : dJl ts Str.empty ρ (fun out ρ1 => Q (.t (.p (.str out))) ρ1) E) : dJs ts ρ Q E := h
theorem w_jlN {acc : Str} {q : Str → Env → Prop} (h : q acc ρ) : dJl [] acc ρ q E := h
def jlK (ts : List DE) (acc : Str) (r : Rv) (ρ1 : Env) (q : Str → Env → Prop) (E : Exn → Env → Prop) : Prop := ∃ y : Str, look ρ1 r = some (.p (.str y)) ∧ (acc ++ y).length ≤ 100000 ∧ dJl ts (acc ++ y) ρ1 q E
theorem w_jlC {ts : List DE} {acc : Str} {q : Str → Env → Prop} (h : te ρ (fun r ρ1 => jlK ts acc r ρ1 q E) E) : dJl (te :: ts) acc ρ q E := h
theorem w_jlK {ts : List DE} {acc y : Str} {q : Str → Env → Prop} (h1 : look ρ x = some (.p (.str y))) (h2 : (acc ++ y).length ≤ 100000) (h : dJl ts (acc ++ y) ρ q E) : jlK ts acc x ρ q E := ⟨y, h1, h2, h⟩
def fmK (r : Rv) (ρ1 : Env) (q : Rv → Env → Prop) : Prop := ∃ d, look ρ1 r = some d ∧ ((∃ y : Str, d = .p (.str y) ∧ y.length ≤ 100000 ∧ q (.t (.p (.str y))) ρ1) ∨ ∃ i : Int, d = .p (.int i) ∧ i.natAbs.log2 < 1920 ∧ q (.t (.p (.str (toString i)))) ρ1)
theorem w_fmt (h : te ρ (fun r ρ1 => fmK r ρ1 Q) E) : dFmt te ρ Q E := h
theorem w_fmS {y : Str} (h1 : look ρ x = some (.p (.str y))) (h2 : y.length ≤ 100000) (h : Q (.t (.p (.str y))) ρ) : fmK x ρ Q := ⟨_, h1, .inl ⟨y, rfl, h2, h⟩⟩
theorem w_fmI {y : Int} (h1 : look ρ x = some (.p (.int y))) (h2 : y.natAbs.log2 < 1920) (h : Q (.t (.p (.str (toString y)))) ρ) : fmK x ρ Q := ⟨_, h1, .inr ⟨y, rfl, h2, h⟩⟩
theorem w_zfill {a : Str} {p : Int} {k : D → Prop} (h1 : PadOk p = true) (h : k (.str (Txt.zfill a p))) : qZfill (.p (.str a)) (.p (.int p)) k := ⟨h1, h⟩
def bmK (T : String) (x : Rv) (ρ1 : Env) (p : Prop) : Prop := (∃ d, look ρ1 x = some d ∧ tyM d = T ∧ (T = "list" ∨ T = "dict")) ∧ p
theorem w_bm1 {r : Op2} (h : ta ρ (fun x ρ1 => bmK T x ρ1 (tt ρ1 (fun y ρ2 => opK r x y ρ2 fun z => Q (.t z) ρ2) E)) E) : dBM1 T r ta tt ρ Q E := h
theorem w_bmK {p : Prop} (h0 : ∃ d, look ρ x = some d ∧ tyM d = T ∧ (T = "list" ∨ T = "dict")) (h : p) : bmK T x ρ p := ⟨h0, h⟩
theorem w_index {us : List Str} {u : Str} {k : D → Prop} (h1 : listOf d = some (us.map en)) (hm : u ∈ us) (h : k (en ((us.idxOf u : Nat) : Int))) : qIndex d (.p (.str u)) k := by
  refine ⟨us.map V.str, .str u, us.idxOf u, by rw [h1, List.map_map]; rfl, rfl, ?_, ?_, h⟩
  · simp [flatV]
  · rw [List.findIdx?_map]
    have e : (fun z => eqV z (.str u)) ∘ V.str = (· == u) := by funext z; rfl
    rw [e]
    show List.findIdx? (· == u) us = some (us.findIdx (· == u))
    rw [List.findIdx?_eq_some_iff_findIdx_eq]
    exact ⟨List.findIdx_lt_length_of_exists ⟨u, hm, by simp⟩, rfl⟩
end
end DL
/-! DL23: lending: what is only read stays its holder's own. -/
namespace DL
open PySem L2
open Enc (en)
mutual
/-- nothing within is shared -/
def D.ownd : D → Bool
  | .p _ => true
  | .n o _ ch => o && ownL ch
def ownL : List D → Bool
  | [] => true
  | d :: ds => d.ownd && ownL ds
end
section
variable {K : PySem.W.Frag} {G H G' H' : Hp}
mutual
theorem Rp.own : ∀ {v : V} (d : D) {F : List Addr}, Rp K G H v d F → d.ownd = true → (∀ a, G a = none → G' a = none) → Rp K G' H v d F
  | _, .p v, _, h, _, _ => by
    cases h
    exact Rp.p _
  | _, .n ow k ch, _, h, e, hg => by
    simp only [D.ownd, Bool.and_eq_true] at e
    cases h with
    | f h1 h2 => cases e.1
    | o h0 h1 h3 h2 => exact Rp.o (hg _ h0) h1 h3 (RpL.own ch h2 e.2 hg)
theorem RpL.own : ∀ {vs : List V} (ds : List D) {F : List Addr}, RpL K G H vs ds F → ownL ds = true → (∀ a, G a = none → G' a = none) → RpL K G' H vs ds F
  | _, [], _, h, _, _ => by
    cases h
    exact RpL.nil
  | _, d :: ds, _, h, e, hg => by
    simp only [ownL, Bool.and_eq_true] at e
    cases h with
    | cons h1 h2 h3 => exact RpL.cons (Rp.own d h1 e.1 hg) (RpL.own ds h2 e.2 hg) h3
end
end
def Sl.fz : Sl → Sl
  | .v d => .v d.fz
  | .w d => .v d.fz
  | _ => .un
def frzE (ρ : Env) : Env := ρ.map Sl.fz
def dLend (te : DE) : DE := fun ρ Q _ => te (frzE ρ) (fun r _ => ∃ d, r = .t d ∧ d.ownd = true ∧ Q (.t d) ρ) (fun _ _ => False)
section
variable {K : PySem.W.Frag} {pv : Nat → V} {σ : St} {ρ : Env} {G H : Hp} {fp : Fps}
open Classical in
noncomputable def frzP (G H : Hp) (P : Addr → Prop) : Hp := fun a => if P a then H a else G a
theorem Mt.lend (m : Mt K pv σ ρ G H fp) : Mt K pv σ (frzE ρ) (frzP G H (InF fp)) H (fun _ => []) := by
  have sg : Sub G (frzP G H (InF fp)) := fun a o e => by
    unfold frzP
    split
    · rename_i h
      obtain ⟨i, hi⟩ := h
      rw [(m.ft i a hi).1] at e; cases e
    · exact e
  have ss : Sub (frzP G H (InF fp)) H := fun a o e => by
    unfold frzP at e
    split at e
    · exact e
    · exact m.sub a o e
  have get : ∀ (i : Nat) (d : D), (frzE ρ)[i]? = some (Sl.v d) → ∃ d0, (ρ[i]? = some (Sl.v d0) ∨ ρ[i]? = some (Sl.w d0)) ∧ d = d0.fz := fun i d e => by
    unfold frzE at e
    rw [List.getElem?_map] at e
    cases h : ρ[i]? with
    | none => rw [h] at e; cases e
    | some s =>
      rw [h] at e
      cases s with
      | un => cases e
      | b j q => cases e
      | v d0 => cases e; exact ⟨d0, .inl rfl, rfl⟩
      | w d0 => cases e; exact ⟨d0, .inr rfl, rfl⟩
  have no : ∀ (i : Nat) (s : Sl), (frzE ρ)[i]? = some s → (∃ d, s = .v d) ∨ s = .un := fun i s e => by
    unfold frzE at e
    rw [List.getElem?_map] at e
    cases h : ρ[i]? with
    | none => rw [h] at e; cases e
    | some s0 =>
      rw [h] at e
      cases s0 with
      | un => cases e; exact .inr rfl
      | b j q => cases e; exact .inr rfl
      | v d0 => cases e; exact .inl ⟨_, rfl⟩
      | w d0 => cases e; exact .inl ⟨_, rfl⟩
  refine ⟨ss, by unfold frzE; rw [List.length_map]; exact m.len, fun i d e => ?_, fun i d e => ?_, fun i j q e => ?_, fun _ _ _ a z => (by cases z), fun _ a z => (by cases z)⟩
  · obtain ⟨d0, h, rfl⟩ := get i d e
    obtain ⟨x, h1, h2⟩ : ∃ x, σ[i]? = some (some x) ∧ Rp K G H x d0 (fp i) := by
      rcases h with h | h
      · exact m.sl i d0 h
      · exact ⟨_, m.pn i d0 h⟩
    refine ⟨x, h1, h2.froz sg _ fun a ha => ?_⟩
    unfold frzP
    rw [if_pos ⟨i, ha⟩]
  · rcases no i _ e with ⟨_, z⟩ | z <;> cases z
  · rcases no i _ e with ⟨_, z⟩ | z <;> cases z
end
section
variable {X : Cx} {cn : String → Addr} {E : WX} {pos : Pos} {e : Expr} {te : DE}
theorem je_lend (h : JE X cn E e te) : JE X cn E e (dLend te) := by
  refine pe_imp h ?_
  rintro σ H Q ⟨pv, γ, ρ, G, fp, Q0, E0, m, q, po, px⟩
  have m' : ∀ H', (∀ a o, H a = some o → H' a = some o) → Mt X.K pv (σ ++ γ) ρ G H' fp := fun H' hh => m.move (fun _ _ z => z) (fun a o z => hh a o (m.sub a o z)) (fun a o _ z => hh a o z) fun a ⟨i, hi⟩ => (m.ft i a hi).1
  have nf : ∀ a, ¬ InF (fun _ => []) a := fun a ⟨i, hi⟩ => by cases hi
  refine ⟨pv, γ, frzE ρ, frzP G H (InF fp), fun _ => [], _, _, m.lend, q, ?_, ?_⟩
  · rintro r ρ1 v G1 H1 fp1 F1 ⟨d, rfl, hd, q1⟩ s1 m1 ⟨o1, o2⟩
    have hh : ∀ a o, H a = some o → H1 a = some o := fun a o e => s1.h a o e (nf a)
    have hF : ∀ a ∈ F1, H a = none := fun a ha => (s1.f a (.inr ha)).elim (fun z => absurd z (nf a)) id
    have hg : ∀ a, G1 a = none → G a = none := fun a e => by
      cases hga : G a with
      | none => rfl
      | some o =>
        have : frzP G H (InF fp) a = some o := by
          unfold frzP
          split
          · exact m.sub a o hga
          · exact hga
        rw [s1.g a o this] at e; cases e
    refine po (.t d) ρ v G H1 fp F1 q1 ⟨fun _ _ z => z, fun a o e _ => hh a o e, fun _ _ _ z _ => z, fun a z => z.elim .inl fun z => .inr (hF a z)⟩ (m' H1 hh) ⟨Rp.own d o1 hd hg, fun a ha ⟨i, hi⟩ => ?_⟩
    obtain ⟨_, o, ho⟩ := m.ft i a hi
    rw [hF a ha] at ho; cases ho
  · exact fun x ρ1 cls dx σ1 G1 H1 fp1 q1 => q1.elim
/-- a name whose value is shared from now on -/
def dFzS (i : Nat) : DE := fun ρ Q _ => ∃ d, ρ[i]? = some (.v d) ∧ Q (.s i) ((killB i ρ).set i (.v d.fz))
theorem je_fzS {i : Nat} (hi : i < X.N.length) (h : PE X e (tVar i)) : JE X cn E e (dFzS i) := ⟨fun pins sh σ H Q I ⟨pv, γ, ρ, G, fp, Q0, E0, m, ⟨d, hd, q⟩, po, _⟩ => by
  obtain ⟨v, h1, h2⟩ := m.sl i d hd
  have hl : i < σ.length := by rw [I.len]; exact hi
  have hG : ∀ a ∈ fp i, G a = none := fun a ha => (m.ft i a ha).1
  refine h.run pins sh σ H Q I ⟨v, get_left hl h1, po (.s i) _ v _ H _ [] q ((Stp.frz (P := InF fp) hG fun a ha => ⟨i, ha⟩).mono (fun _ z => z) fun a z => ?_) (m.frz hd) ⟨h1, rfl⟩⟩
  rcases z with ⟨j, hj⟩ | z
  · by_cases e : j = i
    · subst e; rw [updF_same] at hj; cases hj
    · rw [updF_ne e] at hj; exact .inl ⟨⟨j, hj⟩, fun z => m.ap j i e a hj z⟩
  · cases z⟩
end
section
variable {ρ ρ1 : Env} {Q : Rv → Env → Prop} {E : Exn → Env → Prop} {te : DE} {d : D} {i : Nat} {g : DG} {tt : DT} {vs : List Nat}
def ldK (r : Rv) (ρ : Env) (Q : Rv → Env → Prop) : Prop := ∃ d, r = .t d ∧ d.ownd = true ∧ Q (.t d) ρ
theorem w_lend (h1 : frzE ρ = ρ1) (h : te ρ1 (fun r _ => ldK r ρ Q) (fun _ _ => False)) : dLend te ρ Q E := by
  subst h1; exact h
theorem w_ldK (h1 : d.ownd = true) (h : Q (.t d) ρ) : ldK (.t d) ρ Q := ⟨d, rfl, h1, h⟩
theorem w_fzS {d' : D} (h0 : ρ[i]? = some (.v d)) (h2 : d.fz = d') (h1 : (killB i ρ).set i (.v d') = ρ1) (h : Q (.s i) ρ1) : dFzS i ρ Q E := ⟨d, h0, by rw [h2, h1]; exact h⟩
theorem fe_nil : frzE [] = [] := rfl
theorem fe_un {r : Env} : frzE (.un :: r) = .un :: frzE r := rfl
theorem fe_b {r : Env} {j : Nat} {q : List Nat} : frzE (.b j q :: r) = .un :: frzE r := rfl
theorem fe_v {r : Env} : frzE (.v d :: r) = .v d.fz :: frzE r := rfl
theorem fe_w {r : Env} : frzE (.w d :: r) = .v d.fz :: frzE r := rfl
/-- a comprehension whose turns change slots -/
theorem lc_inv {α σ : Type} {F : α → D} {K : List D → Env → Prop} (shape : σ → Env) (P : List α → List D → σ → Prop) : ∀ {items : List α} {acc : List D} {s0 : σ}, P items acc s0 → items.length + acc.length ≤ 100000 →
    (∀ a rest acc s, P (a :: rest) acc s → acc.length < 100000 → ∀ k : Env → List D → Prop, (∀ s' acc', acc'.length ≤ acc.length + 1 → P rest acc' s' → k (shape s') acc') →
      g (.t (F a)) (shape s) fun ρ1 => tt ρ1 (fun b ρ2 => if b = true then te ρ2 (fun r ρ3 => lcA r ρ3 vs acc k) (fun _ _ => False) else k (wipeD ρ2 vs) acc) (fun _ _ => False)) →
    (∀ acc s, P [] acc s → K acc (shape s)) → dLcL g tt te vs K (items.map F) (shape s0) acc
  | [], acc, s0, h, _, _, fin => fin acc s0 h
  | a :: rest, acc, s0, h, hl, st, fin => by
    rw [List.length_cons] at hl
    exact st a rest acc s0 h (by omega) (fun ρ' acc' => dLcL g tt te vs K (rest.map F) ρ' acc') fun s' acc' hle hp => lc_inv shape P hp (by omega) st fin
end
theorem own_e {α : Type} [Enc α] {xs : List α} (h : ∀ x : α, (en x : D).ownd = true) : (eo xs).ownd = true := by
  have : ∀ xs : List α, ownL (xs.map en) = true := by
    intro xs
    induction xs with
    | nil => rfl
    | cons x xs ih => rw [List.map_cons, ownL, h, ih]; rfl
  show (true && ownL _) = true
  rw [this]; rfl
theorem own_oo {α : Type} [Enc α] {xs : List (List α)} (h : ∀ x : α, (en x : D).ownd = true) : (eoo xs).ownd = true := by
  have : ∀ xs : List (List α), ownL (xs.map eo) = true := by
    intro xs
    induction xs with
    | nil => rfl
    | cons x xs ih => rw [List.map_cons, ownL, own_e h, ih]; rfl
  show (true && ownL _) = true
  rw [this]; rfl
end DL
/-! DL24: targets; zip of lists or of tuples -/
namespace DL
open PySem L2
section
variable {X : Cx} {cn : String → Addr} {E : WX} {st : Stmt} {te : DE}
theorem js_asg2 {S : List Nat} {g : DG} (h : PS X st (tAsg (liftE X.K cn E te) (liftG X.K S g))) : JS X cn E st (dAsg te g) := js_asg (tg := .Name Str.empty ⟨0, 0, 0, 0⟩) h
end
def tupOf : D → Option (List D)
  | .n _ .tup ch => some ch
  | .n _ .tok ch => some ch
  | _ => none
def zipOf (d e : D) (ch ch' : List D) : Prop := (listOf d = some ch ∧ listOf e = some ch') ∨ (tupOf d = some ch ∧ tupOf e = some ch')
def dIZipA (t : DA) : DI := fun ρ Q E => t ρ (fun rs ρ1 => ∃ d e ρ2 ch ch', tkFL ρ1 rs = some ([d, e], ρ2) ∧ zipOf d e ch ch' ∧ Q (zipL ch ch') ρ2) E
section
variable {K : PySem.W.Frag} {G H : Hp}
end
section
variable {X : Cx} {cn : String → Addr} {E : WX} {iter tg e : Expr} {t : DA} {te : DE}
end
def zAK (xs : List Rv) (ρ : Env) (k : List D → Env → Prop) : Prop := ∃ d e ρ2 ch ch', tkFL ρ xs = some ([d, e], ρ2) ∧ zipOf d e ch ch' ∧ k (zipL ch ch') ρ2
section
variable {ρ ρ2 : Env} {tA : DA} {QI : List D → Env → Prop} {E : Exn → Env → Prop} {xs : List Rv} {d e : D}
theorem w_zipA (h : tA ρ (fun rs ρ1 => zAK rs ρ1 QI) E) : dIZipA tA ρ QI E := h
end
end DL
/-! DL25: caught errors that are kept; what class they are of; their fields; errors with a field. -/
namespace DL
open PySem L2

section
variable {X : Cx} {pins : List (Addr × Obj)} {σ : St} {H : Hp} {s : Shared} {a : Addr} {o : HO}
end

/-- j = i, of names -/
def tKeep (i j : Nat) : TS := fun D σ H => ∃ v, σ[i]? = some (some v) ∧ D.nx (σ.set j (some v)) H
/-- what the clause 'except c as n: x = n' wishes of an error of the body: it is kept -/
def wKeep (K : PySem.W.Frag) (c : Value) (i j : Nat) (Wout : WX) (D : Ends) : WX := fun cls d σ H =>
  ∃ b, PySem.W.exmOne K cls c = some b ∧ (b = true → ∀ a, H a = none → i ≠ j ∧ i < σ.length ∧ D.nx (((σ.set i (some (.ref a))).set j (some (.ref a))).set i none) (upd H a (exK cls d a))) ∧ (b = false → Wout cls d σ H)
section
variable {X : Cx} {x n : Str} {c : Value} {i j : Nat} {body suite : List Stmt} {b₀ : Stmt} {np pos pos' : Pos} {tb : WX → TS} {Wout : WX}
end
end DL
/-! DL26: readings of kept errors: try .. except C as e: x = e, isinstance(x, C), x.f. -/
namespace DL
open PySem L2

/-- an error as a value -/
def excD (x : Exn) : D := match x.f with
  | none => .n false (.exc x.name []) []
  | some (f, d) => .n false (.exc x.name [f]) [d]
/-- try: tb except some class as n (slot i): slot j = n -/
def dTryK (ns : List (String × Bool)) (i j : Nat) (tb : DS) : DS := fun D ρ => tb { D with ex := fun x ρ' => match ns.lookup x.name with
  | some true => ∃ ρ2, stV ((killB i ρ').set i .un) j (excD x) = some ρ2 ∧ clr ρ2 [i] = true ∧ D.nx ρ2
  | some false => D.ex x ρ'
  | none => False } ρ
section
variable {X : Cx} {cn : String → Addr} {E : WX}
end

/-! ### isinstance of a kept error -/
structure ExcD (K : PySem.W.Frag) (D : Addr) : Prop where
  hcl : (PySem.W.clsIn K D).isSome = true
  hga : PySem.W.findIn K (.ref D) "__getattribute__" = some (some (.builtin "BaseException.__getattribute__"))
  hgt : PySem.W.findIn K (.ref D) "__getattr__" = some none
  hsub : PySem.W.subIn K (.ref D) (.type "BaseException") = some true
  ha : PySem.W.findIn K (.ref D) "__class__" = some (some (.builtin "object.__class__"))
  hn : PySem.W.specialIn K (.builtin "object.__class__") "__get__" = some (some (.builtin "getset_descriptor.__get__"))
  ht : PySem.W.takesIn K (.builtin "object.__class__") = some true
  hm : PySem.W.mroIn K D (.type "object") = some true
def rIsX (K : PySem.W.Frag) (c : V) (cv : Value) : List V → Hp → VK → Prop := fun xs H Q => ∃ x b, xs = [x, c] ∧ ((x = .non ∧ PySem.W.kitOne K (.type "NoneType") cv = some b) ∨
  ∃ a D od, x = .ref a ∧ H a = some (exK (.ref D) od a) ∧ (∀ dd, od = some dd → ∃ fs, H dd = some (.xd fs)) ∧ ExcD K D ∧ PySem.W.kitOne K (.ref D) cv = some b) ∧ Q (.bl b) H
def isX (tbl : List (String × Bool)) : D → Option Bool
  | .n false (.exc c _) _ => tbl.lookup c
  | .p .non => some false
  | _ => none
/-- isinstance(te, a class) -/
def dIsX (tbl : List (String × Bool)) (te : DE) : DE := fun ρ Q E => te ρ (fun r ρ1 => ∃ d b, look ρ1 r = some d ∧ isX tbl d = some b ∧ Q (.t (.p (.bl b))) ρ1) E
def qIsX (tbl : List (String × Bool)) (c : V) : OpL := fun ds Q => ∃ d b, ds = [d, .p c] ∧ isX tbl d = some b ∧ Q (.p (.bl b))
section
variable {X : Cx} {cn : String → Addr} {E : WX} {tbl : List (String × Bool)} {c : V} {cv : Value}
/-! ### x.f of a kept error -/
def tXk (K : PySem.W.Frag) (n : Str) (te : TE) : TE := fun σ H Q => te σ H fun x H1 => ∃ a D dd fs v, x = .ref a ∧ H1 a = some (exK (.ref D) (some dd) a) ∧ H1 dd = some (.xd fs) ∧ fs.lookup n = some v ∧ ExcD K D ∧ PySem.W.hasDictIn K D = true ∧ PySem.W.findIn K (.ref D) n = some none ∧ Q v H1
def fldX (cls : List String) (n : Str) : D → Option V
  | .n false (.exc c ns) ch => if cls.contains c = true then (match ns, ch with
    | [f], [.p v] => if f = n then some v else none
    | _, _ => none) else none
  | _ => none
/-- te.n, of an error of one of some classes -/
def dFld (cls : List String) (n : Str) (te : DE) : DE := fun ρ Q E => te ρ (fun r ρ1 => ∃ d v, look ρ1 r = some d ∧ fldX cls n d = some v ∧ Q (.t (.p v)) ρ1) E
end
end DL
/-! DL27: raise C(e), C's own __init__ keeping one field. -/
namespace DL
open PySem L2 PyProof.Rows

/-- the n-th statement of a class's body -/
def bodyAt (n : Nat) (s : Stmt) : Stmt := match s with
  | .ClassDef _ _ _ b _ _ _ _ _ _ _ => b.getD n (.Pass ⟨0, 0, 0, 0⟩)
  | s => s
/-- what __init__ does: the field is stored, in a new dict -/
def spInit (f : Str) (K : PySem.W.Frag) : Sp := fun vs H Q _ => ∃ a w C, vs = [.ref a, w] ∧ OexC K C ∧ PySem.W.findIn K (.ref C) f = some none ∧ H a = some (exo a C none) ∧
  ∀ dx, H dx = none → dx ≠ a → Q .non (L2.upd (L2.upd H dx (exd dx [(f, w)])) a (exo a C (some dx)))
def dRaiseF (nm : String) (f : Str) (te : DE) : DS := fun D ρ => te ρ (fun r ρ1 => ∃ v, look ρ1 r = some (.p v) ∧ D.ex ⟨nm, some (f, .p v)⟩ ρ1) D.ex
section
variable {X : Cx} {cn : String → Addr} {E : WX}
end
/-- isinstance over one own class, by the classes' order -/
theorem kit_mk {K : PySem.W.Frag} {t : Value} {C : Addr} {b : Bool} (hne : (t == Value.ref C) = false) (h1 : PySem.W.isClsIn K C = true) (h2 : PySem.W.typeIn K (.ref C) = some (.type "type")) (h3 : PySem.W.subIn K t (.ref C) = some b) : PySem.W.kitOne K t (.ref C) = some b := by
  have h5 : ((PySem.W.clsIn K C).isSome && PySem.W.typeIn K (.ref C) == some (.type "type")) = true := by
    rw [show (PySem.W.clsIn K C).isSome = true from h1, h2]; rfl
  unfold PySem.W.kitOne
  rw [if_neg (by rw [hne]; decide)]
  show (if ((PySem.W.clsIn K C).isSome && PySem.W.typeIn K (.ref C) == some (.type "type")) = true then PySem.W.subIn K t (.ref C) else none) = some b
  rw [if_pos h5]
  exact h3
theorem kit_bt {K : PySem.W.Frag} {D : Addr} {T : String} {b : Bool} (h1 : PySem.W.kitMeta T = true) (h3 : PySem.W.subIn K (.ref D) (.type T) = some b) : PySem.W.kitOne K (.ref D) (.type T) = some b := by
  unfold PySem.W.kitOne
  rw [if_neg (by simp)]
  show (if PySem.W.kitMeta T = true then PySem.W.subIn K (.ref D) (.type T) else none) = some b
  rw [if_pos h1]
  exact h3
theorem kit_self {K : PySem.W.Frag} {C : Addr} : PySem.W.kitOne K (.ref C) (.ref C) = some true := by
  unfold PySem.W.kitOne
  rw [if_pos (by simp)]
end DL
/-! DL28: running lemmas for kept errors. -/
namespace DL
open PySem L2
open Enc (en)
section
variable {n : Env → Prop} {rt : D → Env → Prop} {bk ct : Env → Prop} {ex : Exn → Env → Prop} {ρ ρ1 ρ2 : Env} {Q : Rv → Env → Prop} {E : Exn → Env → Prop} {tb : DS} {te : DE} {d : D} {i j : Nat} {v : V} {x : Rv} {nm : String} {f : Str}
def tyK (ns : List (String × Bool)) (i j : Nat) (n : Env → Prop) (ex : Exn → Env → Prop) (x : Exn) (ρ : Env) : Prop := match ns.lookup x.name with
  | some true => ∃ ρ2, stV ((killB i ρ).set i .un) j (excD x) = some ρ2 ∧ clr ρ2 [i] = true ∧ n ρ2
  | some false => ex x ρ
  | none => False
theorem w_tryK {ns : List (String × Bool)} (h : tb ⟨n, rt, bk, ct, fun x ρ' => tyK ns i j n ex x ρ'⟩ ρ) : dTryK ns i j tb ⟨n, rt, bk, ct, ex⟩ ρ := h
theorem w_tyT {ns : List (String × Bool)} {x : Exn} (h : ns.lookup x.name = some true) (h1 : (killB i ρ).set i .un = ρ1) (h0 : okV ρ1 j = true) (h2 : (killB j ρ1).set j (.v (excD x)) = ρ2) (hc : clr ρ2 [i] = true) (k : n ρ2) : tyK ns i j n ex x ρ := by
  unfold tyK; rw [h]; exact ⟨ρ2, by rw [h1, stV_v h0, h2], hc, k⟩
theorem w_tyF {ns : List (String × Bool)} {x : Exn} (h : ns.lookup x.name = some false) (k : ex x ρ) : tyK ns i j n ex x ρ := by unfold tyK; rw [h]; exact k
def rfK (nm : String) (f : Str) (ex : Exn → Env → Prop) (r : Rv) (ρ : Env) : Prop := ∃ v, look ρ r = some (.p v) ∧ ex ⟨nm, some (f, .p v)⟩ ρ
theorem w_raiseF (h : te ρ (fun r ρ1 => rfK nm f ex r ρ1) ex) : dRaiseF nm f te ⟨n, rt, bk, ct, ex⟩ ρ := h
theorem w_rfK (h0 : look ρ x = some (.p v)) (h : ex ⟨nm, some (f, .p v)⟩ ρ) : rfK nm f ex x ρ := ⟨v, h0, h⟩
def ixK (tbl : List (String × Bool)) (Q : Rv → Env → Prop) (r : Rv) (ρ : Env) : Prop := ∃ d b, look ρ r = some d ∧ isX tbl d = some b ∧ Q (.t (.p (.bl b))) ρ
theorem w_isX {tbl : List (String × Bool)} (h : te ρ (fun r ρ1 => ixK tbl Q r ρ1) E) : dIsX tbl te ρ Q E := h
theorem w_ixK {tbl : List (String × Bool)} {b : Bool} (h0 : look ρ x = some d) (h1 : isX tbl d = some b) (h : Q (.t (.p (.bl b))) ρ) : ixK tbl Q x ρ := ⟨d, b, h0, h1, h⟩
def fdK (cls : List String) (f : Str) (Q : Rv → Env → Prop) (r : Rv) (ρ : Env) : Prop := ∃ d v, look ρ r = some d ∧ fldX cls f d = some v ∧ Q (.t (.p v)) ρ
theorem w_fld {cls : List String} (h : te ρ (fun r ρ1 => fdK cls f Q r ρ1) E) : dFld cls f te ρ Q E := h
theorem w_fdK {cls : List String} (h0 : look ρ x = some d) (h1 : fldX cls f d = some v) (h : Q (.t (.p v)) ρ) : fdK cls f Q x ρ := ⟨d, v, h0, h1, h⟩
end
end DL
/-! DL29: comprehensions whose element may raise: the error is noted at the def's frame, the block's names go, it goes on. -/
namespace DL
open PySem PySem.Spec L2 PyProof.Rows

/-- the frame that a context runs in -/
structure Rt (X : Cx) (e0 : PySem.Env) (os : List PySem.Env) (L : Addr) : Prop where
  st : X.stack = e0 :: os
  fr : e0.frame = some L
  ef : X.env.frame = some L
/-- an error in the air of X, noted at no frame or at L -/
def XF (X : Cx) (L : Addr) (W : WX) (u : Value) (s' : Shared) : Prop :=
  ∃ (a : Addr) (B : Heap) (sI : Shared) (pins : List (Addr × Obj)) (σ : L2.St) (H : Hp) (cls : Value) (d : Option Addr), u = .ref a ∧ L2.Inv X pins σ H sI ∧
    (∀ b o, sI.heap.get? b = some o → b ∉ frs X.stack → B.get? b = some o) ∧ sI.heap.UpToSlots s'.heap ∧ Sky B X.stack a (Zc cls d) L s'.heap ∧ H a = none ∧ s'.os = sI.os ∧ AllBare s'.gens ∧ W cls d σ H
def TakesF (X : Cx) (W : WX) : Prop := ∃ e0 os L, Rt X e0 os L ∧ ∀ u s', XF X L W u s' → X.xe u s'
theorem TakesF.at {X : Cx} {W : WX} (tk : TakesF X W) (σ : L2.St) : PassesAt (L2.CX X.prog X.w) X σ (WE W σ) := by
  obtain ⟨e0, os, L, r, tk⟩ := tk
  intro pins H s u s' I c
  have c0 := c
  obtain ⟨a1, B1, H1, cls1, d1, rfl, ⟨_, _, _, oe1, vs1, T1, oT1, ts1, f1, f2, f3, f4, f5, f6, f7, f8, f9⟩, _⟩ := c
  obtain ⟨a, B, sI, pn, σ2, H2, cls, d, ea, I2, nb, up, sky, na, ho, hg, w⟩ := XE.of_call (W := W) I (fun _ _ _ h => h) c0
  have ea' : a1 = a := by injection ea
  subst ea'
  refine tk _ _ ⟨a1, B, sI, pn, σ2, H2, cls, d, rfl, I2, nb, up, ?_, na, ho, hg, w⟩
  rcases sky with ⟨_, _, _, oe, vs, g1, g2, g3, g4⟩ | fl | ⟨_, _, _, oe, vs, T, oT, ts, g1, g2, g3, g4, g5, g6, g7, g8, g9⟩
  · obtain rfl := Option.some.inj (f1.symm.trans g1)
    rw [f3] at g3
    cases g3
    rw [f4] at g4; cases g4
  · exact .inr (.inl fl)
  · obtain rfl := Option.some.inj (f1.symm.trans g1)
    rw [f3] at g3
    cases g3
    rw [f4] at g4
    cases g4
    obtain rfl := Option.some.inj (f7.symm.trans g7)
    rw [f8] at g8
    cases g8
    rw [f9] at g9
    cases g9
/-- what a block's error does: its names go, it is passed on -/
def errP (M : Model) (A : Around) (E : Value → Shared → Prop) (fr : Option Addr) (x : Value) (C : Addr) (s' : Shared) : Prop :=
  ∃ m, s'.heap.Ns C m ∧ ∀ h', Heap.SameBut C s'.heap h' → ∀ cenv : PySem.Env, cenv.locals = C → cenv.frame = fr →
    wpAny M A (passOn "comprehension.variables-let-go" x cenv : PySem.Sem Value) (fun _ _ => False) E { s' with heap := h' }
def cPost (M : Model) (A : Around) (E : Value → Shared → Prop) (Q : Value → Shared → Prop) (acc : Value) (C : Addr) (fr : Option Addr) (r : Result) (s' : Shared) : Prop := match r with
  | .ok _ => ∃ m, s'.heap.Ns C m ∧ ∀ h', Heap.SameBut C s'.heap h' → Q acc { s' with heap := h' }
  | .error x => errP M A E fr x C s'
end DL
/-! DL30: the rule of such a comprehension. -/
namespace DL
open PySem PySem.Spec L2 PyProof.Rows

section
variable {X : Cx} {pins : List (Addr × Obj)} {σ : L2.St} {H3 : Hp} {s3 : Shared} {W : WX} {e0 : PySem.Env} {os : List PySem.Env} {L : Addr} {scope : Scope} {ce : PySem.Env} {fp : List Addr} {xe : Value → Shared → Prop}
/-- a comprehension: te's wish about errors is the context's, at the slots as they were -/
def tLcX (W : WX) (wi : TI) (g : TG) (tt : TT) (te : WX → TE) (vs : List Nat) : TE := fun σ H Q => tLc wi g tt (te fun cls d _ H' => W cls d σ H') vs σ H Q
end
end DL
/-! DL31: readings of comprehensions whose element may raise; calls in them. -/
namespace DL
open PySem L2

/-- nothing is known of the slots any more -/
def unE (ρ : Env) : Env := ρ.map fun _ => Sl.un
theorem Mt.none {K : PySem.W.Frag} {pv : Nat → V} {σ σ' : St} {ρ : Env} {G H : Hp} {fp : Fps} (m : Mt K pv σ ρ G H fp) (hl : σ'.length = σ.length) : Mt K pv σ' (unE ρ) G H (fun _ => []) := by
  have no : ∀ i s, (unE ρ)[i]? = some s → s = Sl.un := fun i s e => by
    unfold unE at e
    rw [List.getElem?_map] at e
    cases h : ρ[i]? with
    | none => rw [h] at e; cases e
    | some y => rw [h] at e; cases e; rfl
  refine ⟨m.sub, by unfold unE; rw [List.length_map, hl]; exact m.len, fun i d e => ?_, fun i d e => ?_, fun i j q e => ?_, fun _ _ _ _ z => (by cases z), fun _ _ z => (by cases z)⟩
  · cases no _ _ e
  · cases no _ _ e
  · cases no _ _ e
def dLcLX (g : DG) (tt : DT) (te : DE) (vs : List Nat) (Q : List D → Env → Prop) (E : Exn → Env → Prop) : List D → Env → List D → Prop
  | [], ρ, acc => Q acc ρ
  | d :: ds, ρ, acc => g (.t d) ρ fun ρ1 => tt ρ1 (fun b ρ2 => if b = true then te ρ2 (fun r ρ3 => ∃ d' ρ4, tk ρ3 r = some (d', ρ4) ∧ acc.length < 100000 ∧ dLcLX g tt te vs Q E ds (wipeD ρ4 vs) (acc ++ [d'])) (fun x ρ5 => E x (unE ρ5))
      else dLcLX g tt te vs Q E ds (wipeD ρ2 vs) acc) (fun _ _ => False)
def dLcX (ti : DI) (g : DG) (tt : DT) (te : DE) (vs : List Nat) : DE := fun ρ Q E => ti ρ (fun items ρ1 => (vs.all fun i => decide (i < ρ1.length)) = true ∧ dLcLX g tt te vs (fun ds ρ2 => Q (.t (.n true .lst ds)) ρ2) E items (wipeD ρ1 vs) []) E
section
variable {ρ ρ1 : Env} {Q : Rv → Env → Prop} {E : Exn → Env → Prop} {te : DE} {ti : DI} {g : DG} {tt : DT} {vs : List Nat}
theorem w_lcX (h : ti ρ (fun items ρ1 => lcK ρ1 vs (fun ρ' => dLcLX g tt te vs (fun ds ρ2 => Q (.t (.n true .lst ds)) ρ2) E items ρ' [])) E) : dLcX ti g tt te vs ρ Q E := h
end
end DL
/-! DL32: a list some times over. -/
namespace DL
open PySem L2
def qRepL : Op2
  | .n _ .lst ch, .p (.int n), Q => isFzL ch = true ∧ (-(2 ^ 63) ≤ n ∧ n < 2 ^ 63) ∧ n.toNat * ch.length ≤ 100000 ∧ Q (.own (List.replicate n.toNat ch).flatten)
  | _, _, _ => False
theorem RpL.rep {K : PySem.W.Frag} {G H : Hp} {vs : List V} {ch : List D} (r : RpL K G H vs ch []) : ∀ n, RpL K G H (List.replicate n vs).flatten (List.replicate n ch).flatten []
  | 0 => .nil
  | n + 1 => by
    rw [List.replicate_succ, List.replicate_succ, List.flatten_cons, List.flatten_cons]
    have := r.app (RpL.rep r n) fun a z => by cases z
    simpa using this
theorem s_repL {K : PySem.W.Frag} : Sem2 K rRep qRepL := by
  intro G H v u d e F1 F2 Q0 Q s r1 r2 q fin
  unfold qRepL at q
  split at q
  · rename_i o ch n
    obtain ⟨q1, hn, q2, q3⟩ := q
    obtain ⟨a, vs, F, rfl, h1, h2⟩ := r1.list s
    cases r2
    have hl := h2.len
    exact ⟨a, n, vs, rfl, rfl, h1, hn.1, hn.2, by rw [hl, Nat.mul_comm]; exact size_of q2, fun p hp => fin.lst s ((h2.shared q1).rep _) hp q3⟩
  · exact q.elim
section
variable {k : D → Prop} {o : Bool} {ch : List D} {n : Int}
theorem w_repL (h1 : isFzL ch = true) (h0 : -(2 ^ 63) ≤ n ∧ n < 2 ^ 63) (h2 : n.toNat * ch.length ≤ 100000) (h : k (.own (List.replicate n.toNat ch).flatten)) : qRepL (.n o .lst ch) (.p (.int n)) k := ⟨h1, h0, h2, h⟩
end
end DL
/-! DL33: x, y = e, e a tuple with parts of its own. -/
namespace DL
open PySem L2
def dUnp (te : DE) (i j : Nat) : DS := fun D ρ => te ρ (fun r ρ1 => ∃ d1 d2 ρ2 ρ3, r = .t (.n false .tup [d1, d2]) ∧ stV ρ1 i d1 = some ρ2 ∧ stV ρ2 j d2 = some ρ3 ∧ D.nx ρ3) D.ex
section
variable {X : Cx} {cn : String → Addr} {E : WX} {st : Stmt} {te : DE}
end
section
variable {n : Env → Prop} {rt : D → Env → Prop} {bk ct : Env → Prop} {ex : Exn → Env → Prop} {ρ ρ1 ρ2 : Env} {te : DE} {i j : Nat} {d1 d2 : D}
def upK (i j : Nat) (n : Env → Prop) (r : Rv) (ρ1 : Env) : Prop := ∃ d1 d2 ρ2 ρ3, r = .t (.n false .tup [d1, d2]) ∧ stV ρ1 i d1 = some ρ2 ∧ stV ρ2 j d2 = some ρ3 ∧ n ρ3
theorem w_unp (h : te ρ (fun r ρ1 => upK i j n r ρ1) ex) : dUnp te i j ⟨n, rt, bk, ct, ex⟩ ρ := h
theorem w_upK (h0 : okV ρ i = true) (h1 : (killB i ρ).set i (.v d1) = ρ1) (h2 : okV ρ1 j = true) (h3 : (killB j ρ1).set j (.v d2) = ρ2) (h : n ρ2) : upK i j n (.t (.n false .tup [d1, d2])) ρ :=
  ⟨d1, d2, ρ1, ρ2, rfl, by rw [stV_v h0, h1], by rw [stV_v h2, h3], h⟩
end
end DL
/-! DL34: sorted of tuples of ints and texts, xs[::-1]. -/
namespace DL
open PySem L2
abbrev Itm := Int ⊕ Str
def Itm.v : Itm → V
  | .inl i => .int i
  | .inr x => .str x
def Itm.k : Itm → Int ⊕ List Nat
  | .inl i => .inl i
  | .inr x => .inr x.cps.toList
def Itm.b : Itm → Bool
  | .inl _ => false
  | .inr _ => true
/-- as tuples of such compare -/
def ltI (a b : List Itm) : Bool := PyProof.Rows.lexLt PyProof.Rows.itemOrd (a.map Itm.k) (b.map Itm.k)
/-- a tuple of the heap with such items -/
def TupAt (h : Heap) (v : Value) (is : List Itm) : Prop := ∃ t o us n, v = .ref t ∧ h.get? t = some o ∧ o.cls = .type "tuple" ∧ o.data = .seq (List.toArray us) n ∧ Vals (is.map Itm.v) us
theorem tupItems_of {shape : Nat → Bool} : ∀ {is : List Itm} {us : List Value} {i : Nat}, Vals (is.map Itm.v) us → (∀ j x, is[j]? = some x → shape (i + j) = Itm.b x) → PyProof.Rows.tupItems shape i us = some (is.map Itm.k)
  | [], _, _, .nil, _ => rfl
  | x :: is, _, i, .cons r t, h => by
    have h0 := h 0 x rfl
    have ih := tupItems_of (shape := shape) (i := i + 1) t fun j y e => by
      have := h (j + 1) y (by simpa using e)
      rwa [show i + 1 + j = i + (j + 1) by omega]
    cases x with
    | inl n =>
      obtain ⟨k, rfl⟩ := r
      have h0' : shape i = false := h0
      simp only [PyProof.Rows.tupItems, h0', Bool.false_eq_true, if_false, ih, Option.map_some, List.map_cons, Itm.k]
    | inr z =>
      obtain ⟨k, rfl⟩ := r
      have h0' : shape i = true := h0
      simp only [PyProof.Rows.tupItems, h0', if_true, ih, Option.map_some, List.map_cons, Itm.k]
theorem TupAt.keeps {h h' : Heap} {v : Value} {is : List Itm} (x : TupAt h v is) (k : ∀ b o, h.get? b = some o → o.cls = .type "tuple" → h'.get? b = some o) : TupAt h' v is := by
  obtain ⟨t, o, us, n, e, ho, hc, hd, r⟩ := x
  exact ⟨t, o, us, n, e, k _ _ ho hc, hc, hd, r⟩
theorem shape_of {sh : List Bool} {is : List Itm} (e : is.map Itm.b = sh) : ∀ j x, is[j]? = some x → (fun i => sh.getD i false) (0 + j) = Itm.b x := by
  intro j x h
  subst e
  simp [List.getD_eq_getElem?_getD, List.getElem?_map, h]
section
variable {prog : Program} {w : World} {A : Around} {E : Value → Shared → Prop} {s : Shared}
open PyProof.Rows
theorem TupAt.key {h : Heap} {v : Value} {is : List Itm} {sh : List Bool} (x : TupAt h v is) (e : is.map Itm.b = sh) : tupKey h (fun i => sh.getD i false) v = some (is.map Itm.k) := by
  obtain ⟨t, o, us, n, rfl, ho, hc, hd, r⟩ := x
  unfold tupKey
  simp only [ho, hd]
  exact tupItems_of r (shape_of e)
end
/-- sorted(xs), xs a list of tuples of ints and texts, alike place by place -/
def rSortedT (K : PySem.W.Frag) : List V → Hp → VK → Prop := fun vs H Q => ∃ (a : Addr) (xs : List V) (k : V → List Itm) (b : Bool) (sh : List Bool), vs = [V.ref a] ∧ SqL K H a xs ∧ (∀ x ∈ xs, ∃ t, x = V.ref t ∧ H t = some (.tup ((k x).map Itm.v)) ∧ (k x).map Itm.b = b :: sh) ∧
  ∀ ys p, SrtO.Srtd (fun x y => ltI (k x) (k y)) ys → ys.Perm xs → H p = none → Q (.ref p) (L2.upd H p (.lst ys))
section
variable {X : Cx}
end
/-- a tuple of such items -/
def itD (is : List Itm) : D := .tup (is.map fun i => .p i.v)
/-- sorted of tuples of ints and texts -/
def qSortT : OpL := fun ds Q => ∃ (d : D) (ch : List D) (xs : List (List Itm)) (b : Bool) (sh : List Bool), ds = [d] ∧ listOf d = some ch ∧ ch = xs.map itD ∧ (∀ x ∈ xs, x.map Itm.b = b :: sh) ∧ ∀ ys : List (List Itm), ys.Perm xs → ys.Pairwise (fun a b => ltI b a = false) → Q (.own (ys.map itD))
def unI : V → Itm
  | .int i => .inl i
  | .str x => .inr x
  | _ => .inl 0
def kG (G : Hp) : V → List Itm
  | .ref t => match G t with
    | some (.tup ws) => ws.map unI
    | _ => []
  | _ => []
section
variable {K : PySem.W.Frag} {G H : Hp}
end
section
variable {X : Cx} {cn : String → Addr} {E : WX}
/-- xs[::-1] -/
def qRevL : D → (D → Prop) → Prop := fun d Q => ∃ ch, listOf d = some ch ∧ isFzL ch = true ∧ Q (.own ch.reverse)
/-! ### for the run -/
end
end DL
/-! DL35: a slot frozen ahead of a statement. -/
namespace DL
open PySem L2
/-- what slot i holds is shared from here on -/
def dFrz (i : Nat) (t : DS) : DS := fun D ρ => ∃ d, ρ[i]? = some (.v d) ∧ t D ((killB i ρ).set i (.v d.fz))
section
variable {X : Cx} {cn : String → Addr} {E : WX}
theorem js_frz {i : Nat} {st : Stmt} {t : DS} (h : JS X cn E st t) : JS X cn E st (dFrz i t) :=
  ps_imp h fun Dn σ H ⟨pv, γ, ρ, G, fp, D0, m, ⟨d, hd, q⟩, po⟩ => by
    refine ⟨pv, γ, _, frzH G H (fp i), updF fp i [], D0, m.frz hd, q, po.on ?_⟩
    refine (Stp.frz (P := InF fp) (fun a ha => (m.ft i a ha).1) fun a ha => ⟨i, ha⟩).mono (fun _ z => z) fun a z => .inr ?_
    rcases InF.updF z with z | z
    · exact z
    · cases z
end
theorem w_frz {i : Nat} {t : DS} {D : DEnds} {ρ ρ1 : Env} {d d' : DL.D} (h0 : ρ[i]? = some (.v d)) (h2 : d.fz = d') (h1 : (killB i ρ).set i (.v d') = ρ1) (h : t D ρ1) : dFrz i t D ρ := ⟨d, h0, by rw [h2, h1]; exact h⟩
end DL
/-! DL36: {k: v}, k a text that is told by an expression. -/
namespace DL
open PySem L2
def dDisp1 (t : DA) : DE := fun ρ Q E => t ρ (fun rs ρ1 => ∃ k d ρ2, tkL ρ1 rs = some ([.p (.str k), d], ρ2) ∧ Q (.t (.n true (.dic [.inr k]) [d])) ρ2) E
section
variable {X : Cx} {cn : String → Addr} {E : WX} {pos : Pos} {e f : Expr} {ta tb : DE}
end
section
variable {ρ ρ2 : Env} {Q : Rv → Env → Prop} {E : Exn → Env → Prop} {t : DA} {xs : List Rv}
def dp1K (xs : List Rv) (ρ1 : Env) (Q : Rv → Env → Prop) : Prop := ∃ k d ρ2, tkL ρ1 xs = some ([.p (.str k), d], ρ2) ∧ Q (.t (.n true (.dic [.inr k]) [d])) ρ2
theorem w_disp1 (h : t ρ (fun rs ρ1 => dp1K rs ρ1 Q) E) : dDisp1 t ρ Q E := h
theorem w_dp1K {k : Str} {d : D} (h1 : tkL ρ xs = some ([.p (.str k), d], ρ2)) (h : Q (.t (.n true (.dic [.inr k]) [d])) ρ2) : dp1K xs ρ Q := ⟨k, d, ρ2, h1, h⟩
end
end DL
/-! DL37: enumerate(zip(a, b)): the pair that zip gave last may still be held. -/
namespace DL
open PySem L2 PyProof.Rows
section
variable {prog : Program} {w : World} {A : Around} {E : Value → Shared → Prop} {s : Shared}
abbrev zo (v : Value) (b : Bool) (ti tq : Addr) : Obj := { cls := .type "zip", dict := none, data := .fields #[v, .bool b, .bool false, .ref ti, .ref tq], slots := #[] }
def zv (v : Value) : Prop := v = .none ∨ ∃ T : Addr, v = rawInt T
open AutoSeq1 (wpAny_loadPart') in
end
/-- the lists at a and b, both items and the index in new tuples -/
def Itez (K : PySem.W.Frag) (a b : Addr) : It :=
  ⟨fun i H => ∃ (xs ys : List V) (x y : V), SqL K H a xs ∧ SqL K H b ys ∧ xs[i]? = some x ∧ ys[i]? = some y,
    fun i H v H' => ∃ T U x y, v = .ref U ∧ H T = none ∧ (upd H T (.tup [x, y])) U = none ∧ H' = upd (upd H T (.tup [x, y])) U (.tup [.int (i : Nat), .ref T]) ∧ (∀ xs, SqL K H a xs → xs[i]? = some x) ∧ ∀ ys, SqL K H b ys → ys[i]? = some y,
    fun i H => ∃ xs ys : List V, SqL K H a xs ∧ SqL K H b ys ∧ (xs.length ≤ i ∨ ys.length ≤ i)⟩
def iEZ (K : PySem.W.Frag) (ta : TA) : TI := fun σ H R => ta σ H fun vs H1 => ∃ a b xs ys, vs = [.ref a, .ref b] ∧ SqL K H1 a xs ∧ SqL K H1 b ys ∧ R (Itez K a b) H1
/-! ### over deep values -/
def dIEZ (t : DA) : DI := fun ρ Q E => t ρ (fun rs ρ1 => ∃ d e ρ2 ch ch', tkFL ρ1 rs = some ([d, e], ρ2) ∧ listOf d = some ch ∧ listOf e = some ch' ∧ Q (enumL 0 (zipL ch ch')) ρ2) E
section
variable {X : Cx} {cn : String → Addr} {E : WX} {iter tg : Expr} {t : DA}
end
def ezK (xs : List Rv) (ρ : Env) (k : List D → Env → Prop) : Prop := ∃ d e ρ2 ch ch', tkFL ρ xs = some ([d, e], ρ2) ∧ listOf d = some ch ∧ listOf e = some ch' ∧ k (enumL 0 (zipL ch ch')) ρ2
section
variable {ρ ρ2 : Env} {tA : DA} {QI : List D → Env → Prop} {E : Exn → Env → Prop} {xs : List Rv} {d e : D}
theorem w_ez (h : tA ρ (fun rs ρ1 => ezK rs ρ1 QI) E) : dIEZ tA ρ QI E := h
theorem w_ezK {k : List D → Env → Prop} {ch ch' : List D} (h1 : tkFL ρ xs = some ([d, e], ρ2)) (h2 : listOf d = some ch) (h3 : listOf e = some ch') (h : k (enumL 0 (zipL ch ch')) ρ2) : ezK xs ρ k := ⟨d, e, ρ2, ch, ch', h1, h2, h3, h⟩
end
end DL
/-! DL38: max and min of data that can be compared; defs with defaults. -/
namespace DL
open PySem L2 PyProof.Rows PySem.W
section
variable {prog : Program} {w : World} {A : Around} {E : Value → Shared → Prop} {s : Shared}
end
section
variable {X : Cx}
/-- max(x, y) -/
def rMaxP (K : PySem.W.Frag) : List V → Hp → VK → Prop := fun vs H Q => ∃ x y d e, vs = [x, y] ∧ Dp K H x d ∧ Dp K H y e ∧ AlikeAll [d, e] ∧ PyData.depthAll [d, e] ≤ 60 ∧ Q (if dataLt d e = true then y else x) H
/-! ### min, max of a list -/
def rMinL (K : PySem.W.Frag) : List V → Hp → VK → Prop := fun vs H Q => ∃ a xs ds, vs = [.ref a] ∧ SqL K H a xs ∧ DpAll K H xs ds ∧ AlikeAll ds ∧ ds ≠ [] ∧ PyData.depthAll ds ≤ 60 ∧
  ∀ i x, i < xs.length → i = argBest (fun i j => dataLt (ds.getD i .none) (ds.getD j .none)) (xs.length - 1) → xs[i]? = some x → Q x H
def rMaxL (K : PySem.W.Frag) : List V → Hp → VK → Prop := fun vs H Q => ∃ a xs ds, vs = [.ref a] ∧ SqL K H a xs ∧ DpAll K H xs ds ∧ AlikeAll ds ∧ ds ≠ [] ∧ PyData.depthAll ds ≤ 60 ∧
  ∀ i x, i < xs.length → i = argBest (fun i j => dataLt (ds.getD j .none) (ds.getD i .none)) (xs.length - 1) → xs[i]? = some x → Q x H
end
/-! ### over deep values -/
def ltD (d e : D) : Bool := dataLt (toPy d) (toPy e)
def qMaxP : OpL := fun ds Q => ∃ d e, ds = [d, e] ∧ ((d.isFz = true ∧ e.isFz = true) ∧ ((toPy d).plain = true ∧ (toPy e).plain = true)) ∧ AlikeAll [toPy d, toPy e] ∧ PyData.depthAll [toPy d, toPy e] ≤ 60 ∧ Q (if ltD d e = true then e else d)
def qMinL : OpL := fun ds Q => ∃ d ch, ds = [d] ∧ listOf d = some ch ∧ isFzL ch = true ∧ PyData.plainAll (toPyL ch) = true ∧ AlikeAll (toPyL ch) ∧ ch ≠ [] ∧ PyData.depthAll (toPyL ch) ≤ 60 ∧
  ∀ i c, i = argBest (fun i j => dataLt ((toPyL ch).getD i .none) ((toPyL ch).getD j .none)) (ch.length - 1) → ch[i]? = some c → Q c
def qMaxL : OpL := fun ds Q => ∃ d ch, ds = [d] ∧ listOf d = some ch ∧ isFzL ch = true ∧ PyData.plainAll (toPyL ch) = true ∧ AlikeAll (toPyL ch) ∧ ch ≠ [] ∧ PyData.depthAll (toPyL ch) ≤ 60 ∧
  ∀ i c, i = argBest (fun i j => dataLt ((toPyL ch).getD j .none) ((toPyL ch).getD i .none)) (ch.length - 1) → ch[i]? = some c → Q c
section
variable {X : Cx}
end
/-! ### pairs of numbers -/
/-! ### defs with defaults -/
section
variable {P : Program} {w : World} {K : PySem.W.Frag} {mg : Str → Option Value} {base : Heap} {cn : String → Addr}
abbrev FunDf (K : PySem.W.Frag) (x qual : Str) (st : Stmt) (dvs : List V) (f : Addr) (fd : FuncData) : Prop := FunD K x qual (defArgs st) (defBody st) (defScope st) dvs [] f fd
end
end DL
/-! DL39: list(range(..)) as a value. -/
namespace DL
open PySem L2
def dLRg1 (ta : DE) : DE := fun ρ Q E => ta ρ (fun x ρ1 => ∃ j, look ρ1 x = some (.p (.int j)) ∧ RgOk 0 j ∧ Q (.t (.own (rngL 0 j.toNat))) ρ1) E
def dLRg2 (ta tb : DE) : DE := fun ρ Q E => ta ρ (fun x ρ1 => tb ρ1 (fun y ρ2 => ∃ i j, look ρ2 x = some (.p (.int i)) ∧ look ρ2 y = some (.p (.int j)) ∧ RgOk i j ∧ Q (.t (.own (rngL i (j - i).toNat))) ρ2) E) E
theorem rp_rg {K : PySem.W.Frag} {G H : Hp} (i j : Int) : RpL K G H (rgV i j) (rngL i (j - i).toNat) [] := by
  have e : rngL i (j - i).toNat = (rgV i j).map D.p := by
    unfold rngL rgV
    rw [List.map_map]
    rfl
  rw [e]
  exact RpL.of_prims
section
variable {X : Cx} {cn : String → Addr} {E : WX} {a b : Expr} {ta tb : DE} {p pos p' pos' : Pos}
theorem je_lrg1 (hc : X.calm = true) (hg : Gl X "range") (hm : X.mg "range" = none) (hg' : Gl X "list") (hm' : X.mg "list" = none) (ha : JE X cn E a ta)
    (na : starEach [a] X.env = (false, eval a X.env) :: starEach [] X.env := by rfl)
    (nr : starEach [.Call (.Name "range" p) [a] [] pos] X.env = (false, eval (.Call (.Name "range" p) [a] [] pos) X.env) :: starEach [] X.env := by rfl) :
    JE X cn E (.Call (.Name "list" p') [.Call (.Name "range" p) [a] [] pos] [] pos') (dLRg1 ta) := by
  refine pe_imp (pe_listRg hc hg' hm' (prg_1 hg hm ha na) nr) ?_
  rintro σ H Q ⟨pv, γ, ρ, G, fp, Q0, E0, m, q0, po, px⟩
  refine ⟨pv, γ, ρ, G, fp, _, E0, m, q0, fun x ρ1 v G1 H1 fp1 F1 q1 s1 m1 o1 => ?_, px⟩
  obtain ⟨j, l1, hr, q1⟩ := q1
  have e1 := look_p m1 o1 l1
  subst e1
  refine ⟨j, rfl, hr, fun r hr0 => ?_⟩
  have fin : Fin X.K G1 H1 (fun z => Q0 (.t z) ρ1) Q := fun z w' G3 H3 Fz qz s3 hs3 rz => by
    obtain ⟨f1, f2, f3⟩ := fin_new m1 s1 (fun a z => .inl z) s3 hs3
    exact po (.t z) ρ1 w' G3 H3 fp1 Fz qz f1 f2 ⟨rz, f3⟩
  have := rp_rg (K := X.K) (G := G1) (H := H1) 0 j
  rw [Int.sub_zero] at this
  exact fin.lst m1.sub this hr0 q1
end
section
variable {ρ : Env} {ta tb : DE} {Q : Rv → Env → Prop} {E : Exn → Env → Prop} {x y : Rv}
def lr1K (x : Rv) (ρ : Env) (Q : Rv → Env → Prop) : Prop := ∃ j, look ρ x = some (.p (.int j)) ∧ RgOk 0 j ∧ Q (.t (.own (rngL 0 j.toNat))) ρ
def lr2K (x y : Rv) (ρ : Env) (Q : Rv → Env → Prop) : Prop := ∃ i j, look ρ x = some (.p (.int i)) ∧ look ρ y = some (.p (.int j)) ∧ RgOk i j ∧ Q (.t (.own (rngL i (j - i).toNat))) ρ
theorem w_lrg1 (h : ta ρ (fun x ρ1 => lr1K x ρ1 Q) E) : dLRg1 ta ρ Q E := h
theorem w_lrg2 (h : ta ρ (fun x ρ1 => tb ρ1 (fun y ρ2 => lr2K x y ρ2 Q) E) E) : dLRg2 ta tb ρ Q E := h
theorem w_lr1K {j : Int} (h1 : look ρ x = some (.p (.int j))) (h2 : j ≤ 16777216 ∧ 0 ≤ j) (h : Q (.t (eo ((List.range j.toNat).map fun k => ((k : Nat) : Int)))) ρ) : lr1K x ρ Q := ⟨j, h1, RgOk.of_le (Int.le_refl _) h2.1 (by omega) h2.2, by
  have e : (D.own (rngL 0 j.toNat) : D) = eo ((List.range j.toNat).map fun k => ((k : Nat) : Int)) := by
    unfold eo rngL
    rw [List.map_map]
    congr 1
    refine List.map_congr_left fun k _ => ?_
    show D.p _ = D.p _
    rw [Int.zero_add]
  rw [e]; exact h⟩
theorem w_lr2K {i j : Int} (h1 : look ρ x = some (.p (.int i))) (h2 : look ρ y = some (.p (.int j))) (h3 : -16777216 ≤ i ∧ i ≤ 16777216 ∧ -16777216 ≤ j ∧ j ≤ 16777216 ∧ j - i ≤ 16777216) (h : Q (.t (eo ((List.range (j - i).toNat).map fun k => i + ((k : Nat) : Int)))) ρ) : lr2K x y ρ Q :=
  ⟨i, j, h1, h2, ⟨by omega, by omega, by omega, by omega, by omega⟩, by
  have e : (D.own (rngL i (j - i).toNat) : D) = eo ((List.range (j - i).toNat).map fun k => i + ((k : Nat) : Int)) := by
    unfold eo rngL
    rw [List.map_map]
    rfl
  rw [e]; exact h⟩
end
theorem w_max2 {i j : Int} {k : D → Prop} (h : k (.int (max i j))) : qMax2 [.p (.int i), .p (.int j)] k := ⟨i, j, rfl, by
  have e : (if j > i then j else i) = max i j := by
    by_cases c : j > i
    · rw [if_pos c]; omega
    · rw [if_neg c]; omega
  rw [e]; exact h⟩
end DL
/-! DL40: calls by keywords of defs with defaults. -/
namespace DL
open PySem L2
def dCallD (g : {α : Type} → List α → List α → List α) (dvs : List V) (s : SpD) (t tk : DA) : DE := fun ρ Q E => t ρ (fun rs ρ1 => ∃ ds ρ2, tkFL ρ1 rs = some (ds, ρ2) ∧ tk ρ2 (fun zs ρ3 => ∃ es ρ4, tkFL ρ3 zs = some (es, ρ4) ∧
  s (g ds es ++ dvs.map D.p) (fun res _ => Q (.t res) ρ4) (fun x _ => E x ρ4)) E) E
section
variable {X : Cx} {cn : String → Addr} {E : WX} {k : Nat} {f : Addr} {fd : FuncData} {ps ks : List Str} {s : SpD} {x : Str} {p pos kpos : Pos} {e : Expr} {es : List Expr} {kws : List Keyword} {t tk : DA} {dvs : List V}
end
section
variable {ρ : Env} {Q : Rv → Env → Prop} {E : Exn → Env → Prop} {tA : DA}
end
end DL
/-! DL41: < of tuples. -/
namespace DL
open PySem L2 PyProof.Rows PySem.W
section
variable {X : Cx}
def rLtP (K : PySem.W.Frag) : R2 := fun x y H Q => ∃ d e, Dp K H x d ∧ Dp K H y e ∧ alike d e = true ∧ d ≠ .none ∧ min d.depth e.depth ≤ 60 ∧ Q (.bl (dataLt d e)) H
end
/-- < of tuples -/
def qLtT : Op2 := fun d e Q => ((toPy d).plain = true ∧ (toPy e).plain = true) ∧ alike (toPy d) (toPy e) = true ∧ toPy d ≠ .none ∧ min (toPy d).depth (toPy e).depth ≤ 60 ∧ Q (.bl (ltD d e))
def Itm.py : Itm → PyData
  | .inl i => .int i
  | .inr x => .str x
theorem Itm.toks (x : Itm) : keyToks x.py = [x.k] := by cases x <;> rfl
end DL
/-! DL42: x[i][k] = e, the inner list being x's own; i, k are slots. -/
namespace DL
open PySem L2
section
end
section
variable {X : Cx} {cn : String → Addr} {E : WX}
/-- x[i][k] = e: x, i, k are slots, the list x[i] is x's own -/
def dPut2 (n i kk : Nat) (r : OpM) (te : DE) : DS := fun D ρ => te ρ (fun x ρ1 => ∃ a b s0 rc m k0 ch0, ρ1[i]? = some (.v (.p (.int a))) ∧ ρ1[kk]? = some (.v (.p (.int b))) ∧ ρ1[n]? = some s0 ∧ s0.d? = some (.n true .lst rc) ∧ ixN rc.length a = some m ∧ rc[m]? = some (.n true k0 ch0) ∧
  ∃ es ρ2 s root rc' k ch, tkL ρ1 [.s kk, x] = some (es, ρ2) ∧ ρ2[n]? = some s ∧ s.d? = some root ∧ root = .n true .lst rc' ∧ root.at [m] = some (.n true k ch) ∧ r k ch es fun k' ch' _ => D.nx ((killB n ρ2).set n (s.re (root.put [m] (.n true k' ch'))))) D.ex
/-- the running lemma -/
def p2K (n i kk : Nat) (r : OpM) (x : Rv) (ρ1 : Env) (k : Env → Prop) : Prop := ∃ a b s0 rc m k0 ch0, ρ1[i]? = some (.v (.p (.int a))) ∧ ρ1[kk]? = some (.v (.p (.int b))) ∧ ρ1[n]? = some s0 ∧ s0.d? = some (.n true .lst rc) ∧ ixN rc.length a = some m ∧ rc[m]? = some (.n true k0 ch0) ∧
  ∃ es ρ2 s root rc' kd ch, tkL ρ1 [.s kk, x] = some (es, ρ2) ∧ ρ2[n]? = some s ∧ s.d? = some root ∧ root = .n true .lst rc' ∧ root.at [m] = some (.n true kd ch) ∧ r kd ch es fun k' ch' _ => k ((killB n ρ2).set n (s.re (root.put [m] (.n true k' ch'))))
end
end DL
/-! DL43: sorted of any data that can be compared. -/
namespace DL
open PySem L2 PyProof.Rows PySem.W
section
variable {X : Cx}
/-- sorted(xs): is: the places of the items, in their new order -/
def rSortedD (K : PySem.W.Frag) : List V → Hp → VK → Prop := fun vs H Q => ∃ (a : Addr) (xs : List V) (ds : List PyData), vs = [V.ref a] ∧ SqL K H a xs ∧ DpAll K H xs ds ∧ (∀ d ∈ ds, ∀ e ∈ ds, alike d e = true) ∧ Sortable ds ∧ PyData.depthAll ds ≤ 60 ∧
  ∀ (is : List Nat) p, is.Perm (List.range xs.length) → is.Pairwise (fun i j => dataLt (ds.getD j .none) (ds.getD i .none) = false) → H p = none → Q (.ref p) (L2.upd H p (.lst (is.map fun i => xs.getD i .non)))
end
/-! ### over deep values -/
def qSortD : OpL := fun ds Q => ∃ d ch, ds = [d] ∧ listOf d = some ch ∧ isFzL ch = true ∧ PyData.plainAll (toPyL ch) = true ∧ (∀ d ∈ toPyL ch, ∀ e ∈ toPyL ch, alike d e = true) ∧ Sortable (toPyL ch) ∧ PyData.depthAll (toPyL ch) ≤ 60 ∧
  ∀ is : List Nat, is.Perm (List.range ch.length) → is.Pairwise (fun i j => dataLt ((toPyL ch).getD j .none) ((toPyL ch).getD i .none) = false) → Q (.own (is.map fun i => ch.getD i (.p .non)))
section
variable {X : Cx}
end
end DL
/-! DL44: triples; dicts whose keys are tuples. -/
namespace DL
open PySem L2
open Enc (en)
/-- a tuple of three -/
structure T3 (α β γ : Type) where
  a : α
  b : β
  c : γ
instance {α β γ : Type} [Enc α] [Enc β] [Enc γ] : Enc (T3 α β γ) := ⟨fun x => .n false .tup [en x.a, en x.b, en x.c], fun x => by simp [D.isFz, isFzL, Enc.fz], fun x => by simp [toPy, toPyL, PyData.plain, PyData.plainAll, Enc.lay], max (Enc.dep α) (max (Enc.dep β) (Enc.dep γ)) + 1, fun x => by
  have := Enc.de x.a
  have := Enc.de x.b
  have := Enc.de x.c
  simp only [toPy, toPyL, PyData.depth, PyData.depthAll]
  omega, fun x y => by
  obtain ⟨a, b, c⟩ := x
  obtain ⟨a', b', c'⟩ := y
  unfold eqD
  simp only [toPy, toPyL, PyData.eqv, PyData.eqvAll, Bool.and_true, Bool.and_eq_true, T3.mk.injEq]
  exact and_congr (Enc.eq a a') (and_congr (Enc.eq b b') (Enc.eq c c'))⟩
instance {α β γ : Type} [DecidableEq α] [DecidableEq β] [DecidableEq γ] : DecidableEq (T3 α β γ) := fun x y => decidable_of_iff (x.a = y.a ∧ x.b = y.b ∧ x.c = y.c) (by cases x; cases y; simp)
class KeyT (κ : Type) [Enc κ] where
  key : κ → List Key
  inj : ∀ a b, key a = key b → a = b
  kd : ∀ a, ∃ kc, (en a : D) = .n false .tup kc ∧ keysD kc = some (key a)
instance {α β : Type} [Enc α] [Enc β] [KeyE α] [KeyE β] : KeyT (α × β) := ⟨fun x => [KeyE.key x.1, KeyE.key x.2], fun x y h => by
  simp only [List.cons.injEq, and_true] at h
  exact Prod.ext (KeyE.inj _ _ h.1) (KeyE.inj _ _ h.2), fun x => ⟨_, rfl, by simp only [keysD, KeyE.kd]⟩⟩
instance {α β γ : Type} [Enc α] [Enc β] [Enc γ] [KeyE α] [KeyE β] [KeyE γ] : KeyT (T3 α β γ) := ⟨fun x => [KeyE.key x.a, KeyE.key x.b, KeyE.key x.c], fun x y h => by
  obtain ⟨a, b, c⟩ := x
  obtain ⟨a', b', c'⟩ := y
  simp only [List.cons.injEq, and_true] at h
  rw [KeyE.inj _ _ h.1, KeyE.inj _ _ h.2.1, KeyE.inj _ _ h.2.2], fun x => ⟨_, rfl, by simp only [keysD, KeyE.kd]⟩⟩
section
variable {κ β : Type} [DecidableEq κ] [Enc κ] [KeyT κ] [Enc β]
abbrev dT (o : Bool) (kv : List (κ × β)) : D := .n o (.dit (kv.map fun p => KeyT.key p.1)) (kv.map fun p => en p.2)
end
section
variable {κ β : Type} {i0 : DecidableEq κ} {i1 : Enc κ} {i2 : KeyT κ} {i3 : Enc β} {kv : List (κ × β)} {a : κ} {b : β} {K : Kd → List D → D → Prop} {ρ : Env} {x y z : Rv}
end
end DL
/-! DL45: one step of a run by its head symbol. -/
namespace DL
open PySem L2
open Enc (en)
class St1 (p : Prop) (q : outParam Prop) : Prop where
  go : q → p
/-! ### slots -/
class Gt (ρ : Env) (i : Nat) (s : outParam Sl) : Prop where
  h : ρ[i]? = some s
section
variable {s s' : Sl} {r ρ ρ' ρ1 ρ2 : Env} {i j : Nat} {d d' e : D} {x y : Rv} {xs : List Rv} {ds ch : List D} {k k' : Kd} {o : Bool}
instance gt0 : Gt (s :: r) 0 s := ⟨rfl⟩
instance gtS [g : Gt r i s] : Gt (s' :: r) (i + 1) s := ⟨by rw [List.getElem?_cons_succ]; exact g.h⟩
class SlV (s : Sl) (d : outParam D) : Prop where
  h : s.d? = some d
instance slv_v : SlV (.v d) d := ⟨rfl⟩
instance slv_w : SlV (.w d) d := ⟨rfl⟩
theorem slD_of [g : Gt ρ i s] [h : SlV s d] : slD ρ i = some d := by
  have e := h.h
  unfold slD
  rw [g.h]
  cases s with
  | un => cases e
  | v d0 => exact e
  | w d0 => exact e
  | b _ _ => cases e
class Lk (ρ : Env) (x : Rv) (d : outParam D) : Prop where
  h : look ρ x = some d
instance lk_t : Lk ρ (.t d) d := ⟨rfl⟩
instance lk_s [Gt ρ i s] [SlV s d] : Lk ρ (.s i) d := ⟨slD_of⟩
class LkL (ρ : Env) (xs : List Rv) (ds : outParam (List D)) : Prop where
  h : lookL ρ xs = some ds
instance lkl0 : LkL ρ [] [] := ⟨rfl⟩
instance lklS [a : Lk ρ x d] [b : LkL ρ xs ds] : LkL ρ (x :: xs) (d :: ds) := ⟨by simp only [lookL, a.h, b.h]⟩
/-! ### shared values -/
class Fz (d : D) : Prop where
  h : d.isFz = true
class FzL (ds : List D) : Prop where
  h : isFzL ds = true
instance fz_p {v : V} : Fz (.p v) := ⟨rfl⟩
instance fz_en {α : Type} [Enc α] {x : α} : Fz (en x) := ⟨Enc.fz x⟩
instance fzl_0 : FzL [] := ⟨rfl⟩
instance fzl_S [a : Fz d] [b : FzL ds] : FzL (d :: ds) := ⟨by rw [isFzL, a.h, b.h]; rfl⟩
instance fzl_m {α : Type} [Enc α] {xs : List α} : FzL (xs.map en) := ⟨fzl_e xs⟩
instance fz_n [a : FzL ch] : Fz (.n false k ch) := ⟨by rw [D.isFz, a.h]; rfl⟩
/-- what a value is, shared -/
class Frz (d : D) (d' : outParam D) : Prop where
  h : d.fz = d'
instance (priority := 500) frz_z [a : Fz d] : Frz d d := ⟨fz_of a.h⟩
instance (priority := 2000) frz_o {α : Type} [Enc α] {xs : List α} : Frz (.n true .lst (xs.map en)) (en xs) := ⟨fr_eo xs⟩
instance (priority := 2000) frz_z0 : Frz (.n true .lst []) (.n false .lst []) := ⟨rfl⟩
/-! ### slots written -/
class Nb (ρ : Env) : Prop where
  h : ∀ i, killB i ρ = ρ
instance nb0 : Nb [] := ⟨fun _ => rfl⟩
instance nb_un [a : Nb r] : Nb (.un :: r) := ⟨fun i => by rw [kb_un, a.h]⟩
instance nb_v [a : Nb r] : Nb (.v d :: r) := ⟨fun i => by rw [kb_v, a.h]⟩
instance nb_w [a : Nb r] : Nb (.w d :: r) := ⟨fun i => by rw [kb_w, a.h]⟩
/-- ρ with another slot i -/
class Set1 (ρ : Env) (i : Nat) (s : Sl) (ρ' : outParam Env) : Prop where
  h : ρ.set i s = ρ'
instance set1_0 : Set1 (s' :: r) 0 s (s :: r) := ⟨rfl⟩
instance set1_S [a : Set1 r i s ρ'] : Set1 (s' :: r) (i + 1) s (s' :: ρ') := ⟨by rw [List.set_cons_succ, a.h]⟩
class Kst (ρ : Env) (i : Nat) (s : Sl) (ρ' : outParam Env) : Prop where
  h : (killB i ρ).set i s = ρ'
instance kst [a : Nb ρ] [b : Set1 ρ i s ρ'] : Kst ρ i s ρ' := ⟨by rw [a.h, b.h]⟩
class Wp (ρ : Env) (vs : List Nat) (ρ' : outParam Env) : Prop where
  h : wipeD ρ vs = ρ'
instance wp0 : Wp ρ [] ρ := ⟨rfl⟩
instance wpS {vs : List Nat} [a : Wp ρ vs ρ1] [b : Kst ρ1 i .un ρ2] : Wp ρ (i :: vs) ρ2 := ⟨by rw [wipeD, a.h, b.h]⟩
/-- a slot that may be stored to -/
class Free1 (s : Sl) : Prop where
  h : ∀ d, s ≠ .w d
instance free_un : Free1 .un := ⟨fun _ z => by cases z⟩
instance free_v : Free1 (.v d) := ⟨fun _ z => by cases z⟩
class StV (ρ : Env) (i : Nat) (d : D) (ρ' : outParam Env) : Prop where
  h : stV ρ i d = some ρ'
instance stv [g : Gt ρ i s] [f : Free1 s] [a : Kst ρ i (.v d) ρ'] : StV ρ i d ρ' := ⟨by
  unfold stV
  rw [g.h]
  cases s with
  | un => show some _ = _; rw [a.h]
  | v _ => show some _ = _; rw [a.h]
  | w d => exact absurd rfl (f.h d)
  | b _ _ => show some _ = _; rw [a.h]⟩
/-! ### what is taken -/
class Few (n : Nat) (ds : List D) : Prop where
  h : ds.length ≤ n
instance few0 {n : Nat} : Few n [] := ⟨Nat.zero_le _⟩
instance fewS {n : Nat} [a : Few n ds] : Few (n + 1) (d :: ds) := ⟨Nat.succ_le_succ a.h⟩
class TkL (ρ : Env) (xs : List Rv) (ds : outParam (List D)) (ρ' : outParam Env) : Prop where
  h : tkL ρ xs = some (ds, ρ')
instance tkl0 : TkL ρ [] [] ρ := ⟨rfl⟩
instance tklT [a : TkL ρ xs ds ρ'] : TkL ρ (.t d :: xs) (d :: ds) ρ' := ⟨tl_T a.h⟩
instance tklS [Gt ρ i s] [SlV s d] [z : Fz d] [a : TkL ρ xs ds ρ'] : TkL ρ (.s i :: xs) (d :: ds) ρ' := ⟨tl_S slD_of z.h a.h⟩
class TkF (ρ : Env) (xs : List Rv) (ds : outParam (List D)) (ρ' : outParam Env) : Prop where
  h : tkFL ρ xs = some (ds, ρ')
instance tkf0 : TkF ρ [] [] ρ := ⟨rfl⟩
instance tkfT [f : Frz d d'] [a : TkF ρ xs ds ρ'] : TkF ρ (.t d :: xs) (d' :: ds) ρ' := ⟨tf_T f.h a.h⟩
instance tkfS [Gt ρ i s] [SlV s d] [z : Fz d] [a : TkF ρ xs ds ρ'] : TkF ρ (.s i :: xs) (d :: ds) ρ' := ⟨tf_S slD_of z.h a.h⟩
class Arg (ms : List Bool) (ρ : Env) (xs : List Rv) (ds : outParam (List D)) (ρ' : outParam Env) : Prop where
  h : argL ms ρ xs = some (ds, ρ')
variable {ms : List Bool}
instance arg0 : Arg [] ρ [] [] ρ := ⟨rfl⟩
instance argfS [Gt ρ i s] [SlV s d] [z : Fz d] [a : Arg ms ρ xs ds ρ'] : Arg (false :: ms) ρ (.s i :: xs) (d :: ds) ρ' := ⟨ag_fS slD_of z.h a.h⟩
instance argfT [f : Frz d d'] [a : Arg ms ρ xs ds ρ'] : Arg (false :: ms) ρ (.t d :: xs) (d' :: ds) ρ' := ⟨ag_fT f.h a.h⟩
instance argtT [a : Arg ms ρ xs ds ρ'] : Arg (true :: ms) ρ (.t d :: xs) (d :: ds) ρ' := ⟨ag_tT a.h⟩
instance argtS [g : Gt ρ i s] [h : SlV s d] [b : Kst ρ i .un ρ1] [a : Arg ms ρ1 xs ds ρ'] : Arg (true :: ms) ρ (.s i :: xs) (d :: ds) ρ' := ⟨by
  have e := h.h
  have g := g.h
  cases s with
  | un => cases e
  | v _ => cases e; exact ag_tV g b.h a.h
  | w _ => cases e; exact ag_tW g b.h a.h
  | b _ _ => cases e⟩
class Bak (ρ0 : Env) (ms : List Bool) (ρ : Env) (xs : List Rv) (ds : List D) (ρ' : outParam Env) : Prop where
  h : backL ρ0 ms ρ xs ds = some ρ'
instance bak0 {ρ0 : Env} : Bak ρ0 [] ρ [] [] ρ := ⟨rfl⟩
instance bakf {ρ0 : Env} [a : Bak ρ0 ms ρ xs ds ρ'] : Bak ρ0 (false :: ms) ρ (x :: xs) (d :: ds) ρ' := ⟨ba_f a.h⟩
instance baktT {ρ0 : Env} [a : Bak ρ0 ms ρ xs ds ρ'] : Bak ρ0 (true :: ms) ρ (.t d' :: xs) (d :: ds) ρ' := ⟨ba_tT a.h⟩
theorem noB_of_nb [a : Nb ρ] {vs : List Nat} : noB vs ρ = true := by
  have h := a.h
  clear a
  refine noB_of fun i j q e => ?_
  intro hj
  have := h j
  have e2 : (killB j ρ)[i]? = some (Sl.b j q) := by rw [this]; exact e
  rw [killB_get, e] at e2
  simp only [Option.map_some, if_true] at e2
  cases e2
instance baktV {ρ0 : Env} [g : Gt ρ0 i (.v d')] [u : Gt ρ i .un] [n : Nb ρ] [b : Set1 ρ i (.v d) ρ1] [a : Bak ρ0 ms ρ1 xs ds ρ'] : Bak ρ0 (true :: ms) ρ (.s i :: xs) (d :: ds) ρ' :=
  ⟨ba_tV (by rw [u.h, noB_of_nb]; rfl) g.h b.h a.h⟩
instance baktW {ρ0 : Env} [g : Gt ρ0 i (.w d')] [u : Gt ρ i .un] [n : Nb ρ] [b : Set1 ρ i (.w d) ρ1] [a : Bak ρ0 ms ρ1 xs ds ρ'] : Bak ρ0 (true :: ms) ρ (.s i :: xs) (d :: ds) ρ' :=
  ⟨ba_tW (by rw [u.h, noB_of_nb]; rfl) g.h b.h a.h⟩
class Itm0 (d : D) (ch : outParam (List D)) : Prop where
  h : itemsOf d = some ch
instance itm_l : Itm0 (.n o .lst ch) ch := ⟨rfl⟩
instance itm_k : Itm0 (.n o .lok ch) ch := ⟨rfl⟩
instance itm_e {α : Type} [Enc α] {xs : List α} : Itm0 (en xs) (xs.map en) := ⟨rfl⟩
end
/-! ### steps with looks -/
section
variable {ρ ρ' ρ1 ρ2 : Env} {i j : Nat} {s s' : Sl} {d d' e : D} {x y : Rv} {xs : List Rv} {ds ch : List D} {ms : List Bool} {vs : List Nat} {Q : Rv → Env → Prop} {E : Exn → Env → Prop} {v : V}
instance s_var [Gt ρ i s] [SlV s d] : St1 (dVar i ρ Q E) (Q (.s i) ρ) := ⟨w_var slD_of⟩
instance s_opK {r : Op2} {k : D → Prop} [a : Lk ρ x d] [b : Lk ρ y e] : St1 (opK r x y ρ k) (r d e k) := ⟨w_opK a.h b.h⟩
instance s_unK {r : D → (D → Prop) → Prop} {k : D → Prop} [a : Lk ρ x d] : St1 (unK r x ρ k) (r d k) := ⟨w_unK a.h⟩
instance s_blK {k : Bool → Prop} {b : Bool} [a : Lk ρ x (.p (.bl b))] : St1 (blK x ρ k) (k b) := ⟨w_blK a.h⟩
instance s_cbK {r : OpL} {k : D → Prop} [a : LkL ρ xs ds] : St1 (cbK r xs ρ k) (r ds k) := ⟨w_cbK a.h⟩
instance s_retS {k : D → Env → Prop} [Gt ρ i s] [SlV s d] [z : Fz d] : St1 (retK (.s i) ρ k) (k d ρ) := ⟨w_retS slD_of z.h⟩
instance s_nT {k : Env → Prop} [a : StV ρ i d ρ'] : St1 (dName i (.t d) ρ k) (k ρ') := ⟨w_nameT a.h⟩
instance s_nS {k : Env → Prop} [Gt ρ j s] [SlV s d] [z : Fz d] [a : StV ρ i d ρ'] : St1 (dName i (.s j) ρ k) (k ρ') := ⟨w_nameS slD_of z.h a.h⟩
instance s_mkK {k : List D → Env → Prop} [a : TkL ρ xs ds ρ'] [f : Few 60 ds] : St1 (mkK xs ρ k) (k ds ρ') := ⟨w_mkK a.h (Nat.le_trans f.h (by decide))⟩
instance s_caK {k : List D → Env → Prop} [a : Arg ms ρ xs ds ρ'] : St1 (caK ms xs ρ k) (k ds ρ') := ⟨w_caK a.h⟩
instance s_baK {ρ0 : Env} {k : Env → Prop} [a : Bak ρ0 ms ρ xs ds ρ'] : St1 (baK ρ0 ms ρ xs ds k) (k ρ') := ⟨w_baK a.h⟩
instance s_kwK {k : List D → Env → Prop} [a : TkF ρ xs ds ρ'] : St1 (kwK xs ρ k) (k ds ρ') := ⟨w_kwK a.h⟩
instance s_wpK {n : Env → Prop} [a : Wp ρ vs ρ'] : St1 (wpK ρ vs n) (n ρ') := ⟨w_wpK a.h⟩
instance s_mv [g : Gt ρ i (.v d)] [a : Kst ρ i .un ρ'] : St1 (dMv i ρ Q E) (Q (.t d) ρ') := ⟨w_mv g.h a.h⟩
instance (priority := 900) s_itS {k : List D → Env → Prop} [Gt ρ i s] [SlV s d] [z : Fz d] [a : Itm0 d ch] : St1 (itK (.s i) ρ k) (k ch ρ) := ⟨w_itK (d := d) (ρ2 := ρ) (by
  have h0 : slD ρ i = some d := slD_of
  simp only [tkF, tk, h0, z.h, if_true, fz_of z.h]) a.h⟩
end
section
variable {n : Env → Prop} {rt : D → Env → Prop} {bk ct : Env → Prop} {ex : Exn → Env → Prop} {ρ ρ1 ρ2 : Env} {Q : Rv → Env → Prop} {QT : Bool → Env → Prop} {QA : List Rv → Env → Prop} {QI : List D → Env → Prop} {E : Exn → Env → Prop} {t u : DS} {te ta tb tc : DE} {tt tv : DT} {tA : DA} {ti : DI} {g : DG} {r : Op2} {d d' : D} {i j : Nat} {v : V} {x y : Rv} {xs : List Rv}
instance (priority := 2990) i_w_asg  : St1 (dAsg te g ⟨n, rt, bk, ct, ex⟩ ρ) (te ρ (fun r ρ1 => g r ρ1 n) ex) := ⟨w_asg⟩
end
section
variable {n : Env → Prop} {rt : D → Env → Prop} {bk ct : Env → Prop} {ex : Exn → Env → Prop} {ρ ρ1 ρ2 : Env} {Q : Rv → Env → Prop} {QT : Bool → Env → Prop} {QA : List Rv → Env → Prop} {QI : List D → Env → Prop} {E : Exn → Env → Prop} {t u : DS} {te ta tb tc : DE} {tt tv : DT} {tA : DA} {ti : DI} {g : DG} {r : Op2} {d d' : D} {i j : Nat} {v : V} {x y : Rv} {xs : List Rv}
instance (priority := 2980) i_w_next  : St1 (dNext ⟨n, rt, bk, ct, ex⟩ ρ) (n ρ) := ⟨w_next⟩
end
section
variable {n : Env → Prop} {rt : D → Env → Prop} {bk ct : Env → Prop} {ex : Exn → Env → Prop} {ρ ρ1 ρ2 : Env} {Q : Rv → Env → Prop} {QT : Bool → Env → Prop} {QA : List Rv → Env → Prop} {QI : List D → Env → Prop} {E : Exn → Env → Prop} {t u : DS} {te ta tb tc : DE} {tt tv : DT} {tA : DA} {ti : DI} {g : DG} {r : Op2} {d d' : D} {i j : Nat} {v : V} {x y : Rv} {xs : List Rv}
instance (priority := 2970) i_w_drop  : St1 (dDrop te ⟨n, rt, bk, ct, ex⟩ ρ) (te ρ (fun _ ρ1 => n ρ1) ex) := ⟨w_drop⟩
end
section
variable {n : Env → Prop} {rt : D → Env → Prop} {bk ct : Env → Prop} {ex : Exn → Env → Prop} {ρ ρ1 ρ2 : Env} {Q : Rv → Env → Prop} {QT : Bool → Env → Prop} {QA : List Rv → Env → Prop} {QI : List D → Env → Prop} {E : Exn → Env → Prop} {t u : DS} {te ta tb tc : DE} {tt tv : DT} {tA : DA} {ti : DI} {g : DG} {r : Op2} {d d' : D} {i j : Nat} {v : V} {x y : Rv} {xs : List Rv}
instance (priority := 2960) i_w_ret  : St1 (dRet te ⟨n, rt, bk, ct, ex⟩ ρ) (te ρ (fun r ρ1 => retK r ρ1 rt) ex) := ⟨w_ret⟩
end
section
variable {n : Env → Prop} {rt : D → Env → Prop} {bk ct : Env → Prop} {ex : Exn → Env → Prop} {ρ ρ1 ρ2 : Env} {Q : Rv → Env → Prop} {QT : Bool → Env → Prop} {QA : List Rv → Env → Prop} {QI : List D → Env → Prop} {E : Exn → Env → Prop} {t u : DS} {te ta tb tc : DE} {tt tv : DT} {tA : DA} {ti : DI} {g : DG} {r : Op2} {d d' : D} {i j : Nat} {v : V} {x y : Rv} {xs : List Rv}
instance (priority := 2950) i_w_retN  : St1 (dRetN ⟨n, rt, bk, ct, ex⟩ ρ) (rt (.p .non) ρ) := ⟨w_retN⟩
end
section
variable {n : Env → Prop} {rt : D → Env → Prop} {bk ct : Env → Prop} {ex : Exn → Env → Prop} {ρ ρ1 ρ2 : Env} {Q : Rv → Env → Prop} {QT : Bool → Env → Prop} {QA : List Rv → Env → Prop} {QI : List D → Env → Prop} {E : Exn → Env → Prop} {t u : DS} {te ta tb tc : DE} {tt tv : DT} {tA : DA} {ti : DI} {g : DG} {r : Op2} {d d' : D} {i j : Nat} {v : V} {x y : Rv} {xs : List Rv}
instance (priority := 2940) i_w_ifS  : St1 (dIfS tt t u ⟨n, rt, bk, ct, ex⟩ ρ) (tt ρ (fun b ρ1 => if b = true then t ⟨n, rt, bk, ct, ex⟩ ρ1 else u ⟨n, rt, bk, ct, ex⟩ ρ1) ex) := ⟨w_ifS⟩
end
section
variable {n : Env → Prop} {rt : D → Env → Prop} {bk ct : Env → Prop} {ex : Exn → Env → Prop} {ρ ρ1 ρ2 : Env} {Q : Rv → Env → Prop} {QT : Bool → Env → Prop} {QA : List Rv → Env → Prop} {QI : List D → Env → Prop} {E : Exn → Env → Prop} {t u : DS} {te ta tb tc : DE} {tt tv : DT} {tA : DA} {ti : DI} {g : DG} {r : Op2} {d d' : D} {i j : Nat} {v : V} {x y : Rv} {xs : List Rv}
instance (priority := 2930) i_w_for  : St1 (dFor ti g t ⟨n, rt, bk, ct, ex⟩ ρ) (ti ρ (fun items ρ1 => dLoop g t ⟨n, rt, bk, ct, ex⟩ items ρ1) ex) := ⟨w_for⟩
end
section
variable {n : Env → Prop} {rt : D → Env → Prop} {bk ct : Env → Prop} {ex : Exn → Env → Prop} {ρ ρ1 ρ2 : Env} {Q : Rv → Env → Prop} {QT : Bool → Env → Prop} {QA : List Rv → Env → Prop} {QI : List D → Env → Prop} {E : Exn → Env → Prop} {t u : DS} {te ta tb tc : DE} {tt tv : DT} {tA : DA} {ti : DI} {g : DG} {r : Op2} {d d' : D} {i j : Nat} {v : V} {x y : Rv} {xs : List Rv}
instance (priority := 2920) i_w_break  : St1 (dBreak ⟨n, rt, bk, ct, ex⟩ ρ) (bk ρ) := ⟨w_break⟩
end
section
variable {n : Env → Prop} {rt : D → Env → Prop} {bk ct : Env → Prop} {ex : Exn → Env → Prop} {ρ ρ1 ρ2 : Env} {Q : Rv → Env → Prop} {QT : Bool → Env → Prop} {QA : List Rv → Env → Prop} {QI : List D → Env → Prop} {E : Exn → Env → Prop} {t u : DS} {te ta tb tc : DE} {tt tv : DT} {tA : DA} {ti : DI} {g : DG} {r : Op2} {d d' : D} {i j : Nat} {v : V} {x y : Rv} {xs : List Rv}
instance (priority := 2910) i_w_cont  : St1 (dCont ⟨n, rt, bk, ct, ex⟩ ρ) (ct ρ) := ⟨w_cont⟩
end
section
variable {n : Env → Prop} {rt : D → Env → Prop} {bk ct : Env → Prop} {ex : Exn → Env → Prop} {ρ ρ1 ρ2 : Env} {Q : Rv → Env → Prop} {E : Exn → Env → Prop} {tb : DS} {te : DE} {d : D} {i j : Nat} {v : V} {x : Rv} {nm : String} {f : Str}
instance (priority := 2900) i_w_isX {tbl : List (String × Bool)} : St1 (dIsX tbl te ρ Q E) (te ρ (fun r ρ1 => ixK tbl Q r ρ1) E) := ⟨w_isX⟩
end
section
variable {n : Env → Prop} {rt : D → Env → Prop} {bk ct : Env → Prop} {ex : Exn → Env → Prop} {ρ ρ1 ρ2 : Env} {Q : Rv → Env → Prop} {E : Exn → Env → Prop} {tb : DS} {te : DE} {d : D} {i j : Nat} {v : V} {x : Rv} {nm : String} {f : Str}
instance (priority := 2890) i_w_fld {cls : List String} : St1 (dFld cls f te ρ Q E) (te ρ (fun r ρ1 => fdK cls f Q r ρ1) E) := ⟨w_fld⟩
end
section
variable {n : Env → Prop} {rt : D → Env → Prop} {bk ct : Env → Prop} {ex : Exn → Env → Prop} {ρ ρ1 ρ2 : Env} {Q : Rv → Env → Prop} {E : Exn → Env → Prop} {tb : DS} {te : DE} {d : D} {i j : Nat} {v : V} {x : Rv} {nm : String} {f : Str}
instance (priority := 2880) i_w_raiseF  : St1 (dRaiseF nm f te ⟨n, rt, bk, ct, ex⟩ ρ) (te ρ (fun r ρ1 => rfK nm f ex r ρ1) ex) := ⟨w_raiseF⟩
end
section
variable {n : Env → Prop} {rt : D → Env → Prop} {bk ct : Env → Prop} {ex : Exn → Env → Prop} {ρ ρ1 ρ2 : Env} {Q : Rv → Env → Prop} {E : Exn → Env → Prop} {tb : DS} {te : DE} {d : D} {i j : Nat} {v : V} {x : Rv} {nm : String} {f : Str}
instance (priority := 2870) i_w_tryK {ns : List (String × Bool)} : St1 (dTryK ns i j tb ⟨n, rt, bk, ct, ex⟩ ρ) (tb ⟨n, rt, bk, ct, fun x ρ' => tyK ns i j n ex x ρ'⟩ ρ) := ⟨w_tryK⟩
end
section
variable {n : Env → Prop} {rt : D → Env → Prop} {bk ct : Env → Prop} {ex : Exn → Env → Prop} {ρ ρ1 ρ2 : Env} {te : DE} {i j : Nat} {d1 d2 : D}
instance (priority := 2860) i_w_unp  : St1 (dUnp te i j ⟨n, rt, bk, ct, ex⟩ ρ) (te ρ (fun r ρ1 => upK i j n r ρ1) ex) := ⟨w_unp⟩
end
section
variable {n : Env → Prop} {rt : D → Env → Prop} {bk ct : Env → Prop} {ex : Exn → Env → Prop} {ρ ρ1 ρ2 : Env} {Q : Rv → Env → Prop} {QT : Bool → Env → Prop} {QA : List Rv → Env → Prop} {QI : List D → Env → Prop} {E : Exn → Env → Prop} {t u : DS} {te ta tb tc : DE} {tt tv : DT} {tA : DA} {ti : DI} {g : DG} {r : Op2} {d d' : D} {i j : Nat} {v : V} {x y : Rv} {xs : List Rv}
instance (priority := 2850) i_w_c  : St1 (dC v ρ Q E) (Q (.t (.p v)) ρ) := ⟨w_c⟩
end
section
variable {n : Env → Prop} {rt : D → Env → Prop} {bk ct : Env → Prop} {ex : Exn → Env → Prop} {ρ ρ1 ρ2 : Env} {Q : Rv → Env → Prop} {QT : Bool → Env → Prop} {QA : List Rv → Env → Prop} {QI : List D → Env → Prop} {E : Exn → Env → Prop} {t u : DS} {te ta tb tc : DE} {tt tv : DT} {tA : DA} {ti : DI} {g : DG} {r : Op2} {d d' : D} {i j : Nat} {v : V} {x y : Rv} {xs : List Rv}
instance (priority := 2840) i_w_op  : St1 (dOp r ta tb ρ Q E) (ta ρ (fun x ρ1 => tb ρ1 (fun y ρ2 => opK r x y ρ2 fun z => Q (.t z) ρ2) E) E) := ⟨w_op⟩
end
section
variable {n : Env → Prop} {rt : D → Env → Prop} {bk ct : Env → Prop} {ex : Exn → Env → Prop} {ρ ρ1 ρ2 : Env} {Q : Rv → Env → Prop} {QT : Bool → Env → Prop} {QA : List Rv → Env → Prop} {QI : List D → Env → Prop} {E : Exn → Env → Prop} {t u : DS} {te ta tb tc : DE} {tt tv : DT} {tA : DA} {ti : DI} {g : DG} {r : Op2} {d d' : D} {i j : Nat} {v : V} {x y : Rv} {xs : List Rv}
instance (priority := 2830) i_w_nil  : St1 (dNil ρ QA E) (QA [] ρ) := ⟨w_nil⟩
end
section
variable {n : Env → Prop} {rt : D → Env → Prop} {bk ct : Env → Prop} {ex : Exn → Env → Prop} {ρ ρ1 ρ2 : Env} {Q : Rv → Env → Prop} {QT : Bool → Env → Prop} {QA : List Rv → Env → Prop} {QI : List D → Env → Prop} {E : Exn → Env → Prop} {t u : DS} {te ta tb tc : DE} {tt tv : DT} {tA : DA} {ti : DI} {g : DG} {r : Op2} {d d' : D} {i j : Nat} {v : V} {x y : Rv} {xs : List Rv}
instance (priority := 2820) i_w_cons  : St1 (dCons ta tA ρ QA E) (ta ρ (fun x ρ1 => tA ρ1 (fun xs ρ2 => QA (x :: xs) ρ2) E) E) := ⟨w_cons⟩
end
section
variable {n : Env → Prop} {rt : D → Env → Prop} {bk ct : Env → Prop} {ex : Exn → Env → Prop} {ρ ρ1 ρ2 : Env} {Q : Rv → Env → Prop} {QT : Bool → Env → Prop} {QA : List Rv → Env → Prop} {QI : List D → Env → Prop} {E : Exn → Env → Prop} {t u : DS} {te ta tb tc : DE} {tt tv : DT} {tA : DA} {ti : DI} {g : DG} {r : Op2} {d d' : D} {i j : Nat} {v : V} {x y : Rv} {xs : List Rv}
instance (priority := 2810) i_w_cb {r : OpL} : St1 (dCB r tA ρ Q E) (tA ρ (fun rs ρ1 => cbK r rs ρ1 fun z => Q (.t z) ρ1) E) := ⟨w_cb⟩
end
section
variable {n : Env → Prop} {rt : D → Env → Prop} {bk ct : Env → Prop} {ex : Exn → Env → Prop} {ρ ρ1 ρ2 : Env} {Q : Rv → Env → Prop} {QT : Bool → Env → Prop} {QA : List Rv → Env → Prop} {QI : List D → Env → Prop} {E : Exn → Env → Prop} {t u : DS} {te ta tb tc : DE} {tt tv : DT} {tA : DA} {ti : DI} {g : DG} {r : Op2} {d d' : D} {i j : Nat} {v : V} {x y : Rv} {xs : List Rv}
instance (priority := 2800) i_w_lst  : St1 (dLst tA ρ Q E) (tA ρ (fun rs ρ1 => mkK rs ρ1 fun ds ρ2 => Q (.t (.n true .lst ds)) ρ2) E) := ⟨w_lst⟩
end
section
variable {n : Env → Prop} {rt : D → Env → Prop} {bk ct : Env → Prop} {ex : Exn → Env → Prop} {ρ ρ1 ρ2 : Env} {Q : Rv → Env → Prop} {QT : Bool → Env → Prop} {QA : List Rv → Env → Prop} {QI : List D → Env → Prop} {E : Exn → Env → Prop} {t u : DS} {te ta tb tc : DE} {tt tv : DT} {tA : DA} {ti : DI} {g : DG} {r : Op2} {d d' : D} {i j : Nat} {v : V} {x y : Rv} {xs : List Rv}
instance (priority := 2790) i_w_tup  : St1 (dTup tA ρ Q E) (tA ρ (fun rs ρ1 => mkK rs ρ1 fun ds ρ2 => Q (.t (.n false .tup ds)) ρ2) E) := ⟨w_tup⟩
end
section
variable {n : Env → Prop} {rt : D → Env → Prop} {bk ct : Env → Prop} {ex : Exn → Env → Prop} {ρ ρ1 ρ2 : Env} {Q : Rv → Env → Prop} {QT : Bool → Env → Prop} {QA : List Rv → Env → Prop} {QI : List D → Env → Prop} {E : Exn → Env → Prop} {t u : DS} {te ta tb tc : DE} {tt tv : DT} {tA : DA} {ti : DI} {g : DG} {r : Op2} {d d' : D} {i j : Nat} {v : V} {x y : Rv} {xs : List Rv}
instance (priority := 2780) i_w_iseq  : St1 (dISeq ta ρ QI E) (ta ρ (fun r ρ1 => itK r ρ1 QI) E) := ⟨w_iseq⟩
end
section
variable {α : Type} [Enc α] {ρ : Env} {k : List D → Env → Prop} {xs : List α} {i : Nat}
instance (priority := 2770) i_w_itO  : St1 (itK (.t (eo xs)) ρ k) (k (xs.map en) ρ) := ⟨w_itO⟩
end
section
variable {α : Type} [Enc α] {ρ : Env} {k : List D → Env → Prop} {xs : List α} {i : Nat}
instance (priority := 2760) i_w_itN  : St1 (itK (.t (en xs)) ρ k) (k (xs.map en) ρ) := ⟨w_itN⟩
end
section
variable {n : Env → Prop} {rt : D → Env → Prop} {bk ct : Env → Prop} {ex : Exn → Env → Prop} {ρ ρ1 ρ2 : Env} {Q : Rv → Env → Prop} {QT : Bool → Env → Prop} {QA : List Rv → Env → Prop} {QI : List D → Env → Prop} {E : Exn → Env → Prop} {t u : DS} {te ta tb tc : DE} {tt tv : DT} {tA : DA} {ti : DI} {g : DG} {r : Op2} {d d' : D} {i j : Nat} {v : V} {x y : Rv} {xs : List Rv}
instance (priority := 2750) i_w_lc {vs : List Nat} : St1 (dLc ti g tt te vs ρ Q E) (ti ρ (fun items ρ1 => lcK ρ1 vs (fun ρ' => dLcL g tt te vs (fun ds ρ2 => Q (.t (.n true .lst ds)) ρ2) items ρ' [])) E) := ⟨w_lc⟩
end
section
variable {ρ ρ1 : Env} {Q : Rv → Env → Prop} {E : Exn → Env → Prop} {te : DE} {ti : DI} {g : DG} {tt : DT} {vs : List Nat}
instance (priority := 2740) i_w_lcX  : St1 (dLcX ti g tt te vs ρ Q E) (ti ρ (fun items ρ1 => lcK ρ1 vs (fun ρ' => dLcLX g tt te vs (fun ds ρ2 => Q (.t (.n true .lst ds)) ρ2) E items ρ' [])) E) := ⟨w_lcX⟩
end
section
variable {n : Env → Prop} {rt : D → Env → Prop} {bk ct : Env → Prop} {ex : Exn → Env → Prop} {ρ ρ1 ρ2 : Env} {Q : Rv → Env → Prop} {QT : Bool → Env → Prop} {QA : List Rv → Env → Prop} {QI : List D → Env → Prop} {E : Exn → Env → Prop} {t u : DS} {te ta tb tc : DE} {tt tv : DT} {tA : DA} {ti : DI} {g : DG} {r : Op2} {d d' : D} {i j : Nat} {v : V} {x y : Rv} {xs : List Rv}
instance (priority := 2730) i_w_true  : St1 (dTrue ρ QT E) (QT true ρ) := ⟨w_true⟩
end
section
variable {n : Env → Prop} {rt : D → Env → Prop} {bk ct : Env → Prop} {ex : Exn → Env → Prop} {ρ ρ1 ρ2 : Env} {Q : Rv → Env → Prop} {QT : Bool → Env → Prop} {QA : List Rv → Env → Prop} {QI : List D → Env → Prop} {E : Exn → Env → Prop} {t u : DS} {te ta tb tc : DE} {tt tv : DT} {tA : DA} {ti : DI} {g : DG} {r : Op2} {d d' : D} {i j : Nat} {v : V} {x y : Rv} {xs : List Rv}
instance (priority := 2720) i_w_ifT {p q : Prop} : St1 (if true = true then p else q) (p) := ⟨w_ifT⟩
end
section
variable {n : Env → Prop} {rt : D → Env → Prop} {bk ct : Env → Prop} {ex : Exn → Env → Prop} {ρ ρ1 ρ2 : Env} {Q : Rv → Env → Prop} {QT : Bool → Env → Prop} {QA : List Rv → Env → Prop} {QI : List D → Env → Prop} {E : Exn → Env → Prop} {t u : DS} {te ta tb tc : DE} {tt tv : DT} {tA : DA} {ti : DI} {g : DG} {r : Op2} {d d' : D} {i j : Nat} {v : V} {x y : Rv} {xs : List Rv}
instance (priority := 2710) i_w_ifF {p q : Prop} : St1 (if false = true then p else q) (q) := ⟨w_ifF⟩
end
section
variable {p q : Prop} {b : Bool}
instance (priority := 2700) i_w_ifNT  : St1 (if (!true) = true then p else q) (q) := ⟨w_ifNT⟩
end
section
variable {p q : Prop} {b : Bool}
instance (priority := 2690) i_w_ifNF  : St1 (if (!false) = true then p else q) (p) := ⟨w_ifNF⟩
end
section
variable {n : Env → Prop} {rt : D → Env → Prop} {bk ct : Env → Prop} {ex : Exn → Env → Prop} {ρ ρ1 ρ2 : Env} {Q : Rv → Env → Prop} {QT : Bool → Env → Prop} {QA : List Rv → Env → Prop} {QI : List D → Env → Prop} {E : Exn → Env → Prop} {t u : DS} {te ta tb tc : DE} {tt tv : DT} {tA : DA} {ti : DI} {g : DG} {r : Op2} {d d' : D} {i j : Nat} {v : V} {x y : Rv} {xs : List Rv}
instance (priority := 2680) i_w_retT {k : D → Env → Prop} : St1 (retK (.t d) ρ k) (k d ρ) := ⟨w_retT⟩
end
section
variable {n : Env → Prop} {rt : D → Env → Prop} {bk ct : Env → Prop} {ex : Exn → Env → Prop} {ρ ρ1 ρ2 : Env} {Q : Rv → Env → Prop} {QT : Bool → Env → Prop} {QA : List Rv → Env → Prop} {QI : List D → Env → Prop} {E : Exn → Env → Prop} {t u : DS} {te ta tb tc : DE} {tt tv : DT} {tA : DA} {ti : DI} {g : DG} {r : Op2} {d d' : D} {i j : Nat} {v : V} {x y : Rv} {xs : List Rv}
instance (priority := 2670) i_w_un {r : D → (D → Prop) → Prop} : St1 (dUn r ta ρ Q E) (ta ρ (fun x ρ1 => unK r x ρ1 fun z => Q (.t z) ρ1) E) := ⟨w_un⟩
end
section
variable {n : Env → Prop} {rt : D → Env → Prop} {bk ct : Env → Prop} {ex : Exn → Env → Prop} {ρ ρ1 ρ2 : Env} {Q : Rv → Env → Prop} {QT : Bool → Env → Prop} {QA : List Rv → Env → Prop} {QI : List D → Env → Prop} {E : Exn → Env → Prop} {t u : DS} {te ta tb tc : DE} {tt tv : DT} {tA : DA} {ti : DI} {g : DG} {r : Op2} {d d' : D} {i j : Nat} {v : V} {x y : Rv} {xs : List Rv}
instance (priority := 2660) i_w_tst  : St1 (dTst ta ρ QT E) (ta ρ (fun x ρ1 => blK x ρ1 fun b => QT b ρ1) E) := ⟨w_tst⟩
end
section
variable {n : Env → Prop} {rt : D → Env → Prop} {bk ct : Env → Prop} {ex : Exn → Env → Prop} {ρ ρ1 ρ2 : Env} {Q : Rv → Env → Prop} {QT : Bool → Env → Prop} {QA : List Rv → Env → Prop} {QI : List D → Env → Prop} {E : Exn → Env → Prop} {t u : DS} {te ta tb tc : DE} {tt tv : DT} {tA : DA} {ti : DI} {g : DG} {r : Op2} {d d' : D} {i j : Nat} {v : V} {x y : Rv} {xs : List Rv}
instance (priority := 2650) i_w_and  : St1 (dAnd tt tv ρ QT E) (tt ρ (fun b ρ1 => if b = true then tv ρ1 QT E else QT false ρ1) E) := ⟨w_and⟩
end
section
variable {n : Env → Prop} {rt : D → Env → Prop} {bk ct : Env → Prop} {ex : Exn → Env → Prop} {ρ ρ1 ρ2 : Env} {Q : Rv → Env → Prop} {QT : Bool → Env → Prop} {QA : List Rv → Env → Prop} {QI : List D → Env → Prop} {E : Exn → Env → Prop} {t u : DS} {te ta tb tc : DE} {tt tv : DT} {tA : DA} {ti : DI} {g : DG} {r : Op2} {d d' : D} {i j : Nat} {v : V} {x y : Rv} {xs : List Rv}
instance (priority := 2640) i_w_or  : St1 (dOr tt tv ρ QT E) (tt ρ (fun b ρ1 => if b = true then QT true ρ1 else tv ρ1 QT E) E) := ⟨w_or⟩
end
section
variable {n : Env → Prop} {rt : D → Env → Prop} {bk ct : Env → Prop} {ex : Exn → Env → Prop} {ρ ρ1 ρ2 : Env} {Q : Rv → Env → Prop} {QT : Bool → Env → Prop} {QA : List Rv → Env → Prop} {QI : List D → Env → Prop} {E : Exn → Env → Prop} {t u : DS} {te ta tb tc : DE} {tt tv : DT} {tA : DA} {ti : DI} {g : DG} {r : Op2} {d d' : D} {i j : Nat} {v : V} {x y : Rv} {xs : List Rv}
instance (priority := 2630) i_w_not  : St1 (dNot tt ρ QT E) (tt ρ (fun b ρ1 => QT (!b) ρ1) E) := ⟨w_not⟩
end
section
variable {n : Env → Prop} {rt : D → Env → Prop} {bk ct : Env → Prop} {ex : Exn → Env → Prop} {ρ ρ1 ρ2 : Env} {Q : Rv → Env → Prop} {QT : Bool → Env → Prop} {QA : List Rv → Env → Prop} {QI : List D → Env → Prop} {E : Exn → Env → Prop} {t u : DS} {te ta tb tc : DE} {tt tv : DT} {tA : DA} {ti : DI} {g : DG} {r : Op2} {d d' : D} {i j : Nat} {v : V} {x y : Rv} {xs : List Rv}
instance (priority := 2620) i_w_andV  : St1 (dAndV ta tb ρ Q E) (ta ρ (fun x ρ1 => blK x ρ1 fun b => if b = true then tb ρ1 Q E else Q (.t (.p (.bl false))) ρ1) E) := ⟨w_andV⟩
end
section
variable {n : Env → Prop} {rt : D → Env → Prop} {bk ct : Env → Prop} {ex : Exn → Env → Prop} {ρ ρ1 ρ2 : Env} {Q : Rv → Env → Prop} {QT : Bool → Env → Prop} {QA : List Rv → Env → Prop} {QI : List D → Env → Prop} {E : Exn → Env → Prop} {t u : DS} {te ta tb tc : DE} {tt tv : DT} {tA : DA} {ti : DI} {g : DG} {r : Op2} {d d' : D} {i j : Nat} {v : V} {x y : Rv} {xs : List Rv}
instance (priority := 2610) i_w_orV  : St1 (dOrV ta tb ρ Q E) (ta ρ (fun x ρ1 => blK x ρ1 fun b => if b = true then Q (.t (.p (.bl true))) ρ1 else tb ρ1 Q E) E) := ⟨w_orV⟩
end
section
variable {n : Env → Prop} {rt : D → Env → Prop} {bk ct : Env → Prop} {ex : Exn → Env → Prop} {ρ ρ1 ρ2 : Env} {Q : Rv → Env → Prop} {QT : Bool → Env → Prop} {QA : List Rv → Env → Prop} {QI : List D → Env → Prop} {E : Exn → Env → Prop} {t u : DS} {te ta tb tc : DE} {tt tv : DT} {tA : DA} {ti : DI} {g : DG} {r : Op2} {d d' : D} {i j : Nat} {v : V} {x y : Rv} {xs : List Rv}
instance (priority := 2600) i_w_notV  : St1 (dNotV ta ρ Q E) (ta ρ (fun x ρ1 => blK x ρ1 fun b => Q (.t (.p (.bl (!b)))) ρ1) E) := ⟨w_notV⟩
end
section
variable {n : Env → Prop} {rt : D → Env → Prop} {bk ct : Env → Prop} {ex : Exn → Env → Prop} {ρ ρ1 ρ2 : Env} {Q : Rv → Env → Prop} {QT : Bool → Env → Prop} {QA : List Rv → Env → Prop} {QI : List D → Env → Prop} {E : Exn → Env → Prop} {t u : DS} {te ta tb tc : DE} {tt tv : DT} {tA : DA} {ti : DI} {g : DG} {r : Op2} {d d' : D} {i j : Nat} {v : V} {x y : Rv} {xs : List Rv}
instance (priority := 2590) i_w_ifE  : St1 (dIf tt ta tb ρ Q E) (tt ρ (fun b ρ1 => if b = true then ta ρ1 Q E else tb ρ1 Q E) E) := ⟨w_ifE⟩
end
section
variable {ρ ρ1 ρ2 : Env} {Q : Rv → Env → Prop} {QO : Option Int → Env → Prop} {QI : List D → Env → Prop} {E : Exn → Env → Prop} {ta tb tc te : DE} {tA : DA} {r r' : Op2} {x y : Rv} {xs : List Rv} {d d' : D} {i : Nat} {v : V}
instance (priority := 2580) i_w_chain  : St1 (dChain r r' ta tb tc ρ Q E) (ta ρ (fun x ρ1 => tb ρ1 (fun y ρ2 => chK r r' x y ρ2 tc Q E) E) E) := ⟨w_chain⟩
end
section
variable {ρ ρ1 ρ2 : Env} {Q : Rv → Env → Prop} {QO : Option Int → Env → Prop} {QI : List D → Env → Prop} {E : Exn → Env → Prop} {ta tb tc te : DE} {tA : DA} {r r' : Op2} {x y : Rv} {xs : List Rv} {d d' : D} {i : Nat} {v : V}
instance (priority := 2570) i_w_isB {k : Bool → Prop} {b : Bool} : St1 (isB k (.p (.bl b))) (k b) := ⟨w_isB⟩
end
section
variable {k : D → Prop} {i j : Int} {a b : Str}
instance (priority := 2560) i_w_addI  : St1 (qAdd (.p (.int i)) (.p (.int j)) k) (k (.int (i + j))) := ⟨w_addI⟩
end
section
variable {k : D → Prop} {i j : Int} {a b : Str}
instance (priority := 2550) i_w_subI  : St1 (qSub (.p (.int i)) (.p (.int j)) k) (k (.int (i - j))) := ⟨w_subI⟩
end
section
variable {k : D → Prop} {i j : Int} {a b : Str}
instance (priority := 2540) i_w_neg  : St1 (qNeg (.p (.int i)) k) (k (.int (-i))) := ⟨w_neg⟩
end
section
variable {k : D → Prop} {i j : Int} {a b : Str}
instance (priority := 2530) i_w_ltI  : St1 (qLt (.p (.int i)) (.p (.int j)) k) (k (.bl (decide (i < j)))) := ⟨w_ltI⟩
end
section
variable {k : D → Prop} {i j : Int} {a b : Str}
instance (priority := 2520) i_w_leI  : St1 (qLe (.p (.int i)) (.p (.int j)) k) (k (.bl (decide (i ≤ j)))) := ⟨w_leI⟩
end
section
variable {k : D → Prop} {i j : Int} {a b : Str}
instance (priority := 2510) i_w_gtI  : St1 (qGt (.p (.int i)) (.p (.int j)) k) (k (.bl (decide (j < i)))) := ⟨w_gtI⟩
end
section
variable {k : D → Prop} {i j : Int} {a b : Str}
instance (priority := 2500) i_w_geI  : St1 (qGe (.p (.int i)) (.p (.int j)) k) (k (.bl (decide (j ≤ i)))) := ⟨w_geI⟩
end
section
variable {k : D → Prop} {a b : Str} {i j : Int}
instance (priority := 2490) i_w_eqS  : St1 (qEq (.p (.str a)) (.p (.str b)) k) (k (.bl (dc (a = b)))) := ⟨w_eqS⟩
end
section
variable {k : D → Prop} {a b : Str} {i j : Int}
instance (priority := 2480) i_w_neS  : St1 (qNe (.p (.str a)) (.p (.str b)) k) (k (.bl (!dc (a = b)))) := ⟨w_neS⟩
end
section
variable {k : D → Prop} {a b : Str} {i j : Int}
instance (priority := 2470) i_w_eqI  : St1 (qEq (.p (.int i)) (.p (.int j)) k) (k (.bl (decide (i = j)))) := ⟨w_eqI⟩
end
section
variable {k : D → Prop} {a b : Str} {i j : Int}
instance (priority := 2460) i_w_neI  : St1 (qNe (.p (.int i)) (.p (.int j)) k) (k (.bl (!decide (i = j)))) := ⟨w_neI⟩
end
section
variable {n : Env → Prop} {rt : D → Env → Prop} {bk ct : Env → Prop} {ex : Exn → Env → Prop} {ρ ρ1 ρ2 : Env} {Q : Rv → Env → Prop} {QT : Bool → Env → Prop} {QA : List Rv → Env → Prop} {QI : List D → Env → Prop} {E : Exn → Env → Prop} {t u : DS} {te ta tb tc : DE} {tt tv : DT} {tA : DA} {ti : DI} {g : DG} {r : Op2} {d d' : D} {i j : Nat} {v : V} {x y : Rv} {xs : List Rv}
instance (priority := 2450) i_w_call {ms : List Bool} {s : SpD} : St1 (dCall ms s tA ρ Q E) (tA ρ (fun rs ρ1 => caK ms rs ρ1 fun ds ρ2 => s ds (fun res ds' => baK ρ1 ms ρ2 rs ds' fun ρ3 => Q (.t res) ρ3) (fun x ds' => baK ρ1 ms ρ2 rs ds' fun ρ3 => E x ρ3)) E) := ⟨w_call⟩
end
section
variable {ρ ρ1 ρ2 : Env} {Q : Rv → Env → Prop} {QO : Option Int → Env → Prop} {QI : List D → Env → Prop} {E : Exn → Env → Prop} {ta tb tc te : DE} {tA : DA} {r r' : Op2} {x y : Rv} {xs : List Rv} {d d' : D} {i : Nat} {v : V}
instance (priority := 2440) i_w_callK {g : {α : Type} → List α → List α → List α} {s : SpD} {tk : DA} : St1 (dCallK g s tA tk ρ Q E) (tA ρ (fun rs ρ1 => kwK rs ρ1 fun ds ρ2 => tk ρ2 (fun zs ρ3 => kwK zs ρ3 fun es ρ4 => s (g ds es) (fun res _ => Q (.t res) ρ4) (fun x _ => E x ρ4)) E) E) := ⟨w_callK⟩
end
section
variable {ρ ρ1 ρ2 : Env} {Q : Rv → Env → Prop} {QO : Option Int → Env → Prop} {QI : List D → Env → Prop} {E : Exn → Env → Prop} {ta tb tc te : DE} {tA : DA} {r r' : Op2} {x y : Rv} {xs : List Rv} {d d' : D} {i : Nat} {v : V}
instance (priority := 2430) i_w_rng1  : St1 (dIRng1 tA ρ QI E) (tA ρ (fun rs ρ1 => rg1K rs ρ1 QI) E) := ⟨w_rng1⟩
end
section
variable {ρ ρ1 ρ2 : Env} {Q : Rv → Env → Prop} {QO : Option Int → Env → Prop} {QI : List D → Env → Prop} {E : Exn → Env → Prop} {ta tb tc te : DE} {tA : DA} {r r' : Op2} {x y : Rv} {xs : List Rv} {d d' : D} {i : Nat} {v : V}
instance (priority := 2420) i_w_rng2  : St1 (dIRng2 tA ρ QI E) (tA ρ (fun rs ρ1 => rg2K rs ρ1 QI) E) := ⟨w_rng2⟩
end
section
variable {ρ ρ1 ρ2 : Env} {Q : Rv → Env → Prop} {QO : Option Int → Env → Prop} {QI : List D → Env → Prop} {E : Exn → Env → Prop} {ta tb tc te : DE} {tA : DA} {r r' : Op2} {x y : Rv} {xs : List Rv} {d d' : D} {i : Nat} {v : V}
instance (priority := 2410) i_w_cut {tl th : DO} : St1 (dCut te tl th ρ Q E) (te ρ (fun r ρ1 => tl ρ1 (fun lo ρ2 => th ρ2 (fun hi ρ3 => cutK lo hi r ρ3 fun z => Q (.t z) ρ3) E) E) E) := ⟨w_cut⟩
end
section
variable {ρ ρ1 ρ2 : Env} {Q : Rv → Env → Prop} {QO : Option Int → Env → Prop} {QI : List D → Env → Prop} {E : Exn → Env → Prop} {ta tb tc te : DE} {tA : DA} {r r' : Op2} {x y : Rv} {xs : List Rv} {d d' : D} {i : Nat} {v : V}
instance (priority := 2400) i_w_part  : St1 (dPart te ρ QO E) (te ρ (fun r ρ1 => ptK r ρ1 QO) E) := ⟨w_part⟩
end
section
variable {ρ ρ1 ρ2 : Env} {Q : Rv → Env → Prop} {QO : Option Int → Env → Prop} {QI : List D → Env → Prop} {E : Exn → Env → Prop} {ta tb tc te : DE} {tA : DA} {r r' : Op2} {x y : Rv} {xs : List Rv} {d d' : D} {i : Nat} {v : V}
instance (priority := 2390) i_w_noPart  : St1 (dNoPart ρ QO E) (QO none ρ) := ⟨w_noPart⟩
end
section
variable {n : Env → Prop} {ρ ρ1 ρ2 : Env} {Q : Rv → Env → Prop} {E : Exn → Env → Prop} {te : DE} {d d' : D} {x : Rv} {i : Nat} {k : Rv → Env → Prop}
instance (priority := 2380) i_w_fz  : St1 (dFz te ρ Q E) (te ρ (fun r ρ1 => fzK r ρ1 Q) E) := ⟨w_fz⟩
end
section
variable {n : Env → Prop} {ρ ρ1 ρ2 : Env} {Q : Rv → Env → Prop} {E : Exn → Env → Prop} {te : DE} {d d' : D} {x : Rv} {i : Nat} {k : Rv → Env → Prop}
instance (priority := 2370) i_w_dK  : St1 (dK d ρ Q E) (Q (.t d) ρ) := ⟨w_dK⟩
end
section
variable {n : Env → Prop} {ρ ρ1 ρ2 : Env} {Q : Rv → Env → Prop} {E : Exn → Env → Prop} {te : DE} {d d' : D} {x : Rv} {i : Nat} {k : Rv → Env → Prop}
instance (priority := 2360) i_w_strS {k : D → Prop} {a : Str} : St1 (qStr1 [.p (.str a)] k) (k (.str a)) := ⟨w_strS⟩
end
section
variable {n : Env → Prop} {rt : D → Env → Prop} {bk ct : Env → Prop} {ex : Exn → Env → Prop} {ρ ρ1 ρ2 : Env} {Q : Rv → Env → Prop} {QT : Bool → Env → Prop} {QA : List Rv → Env → Prop} {QI : List D → Env → Prop} {E : Exn → Env → Prop} {t u tb ts : DS} {te ta : DE} {c tt tv : DT} {tA : DA} {ti : DI} {g : DG} {d d' e : D} {i j : Nat} {v : V} {x y : Rv} {xs : List Rv} {nm : String}
instance (priority := 2350) i_w_raise  : St1 (dRaise nm ⟨n, rt, bk, ct, ex⟩ ρ) (ex ⟨nm, none⟩ ρ) := ⟨w_raise⟩
end
section
variable {n : Env → Prop} {rt : D → Env → Prop} {bk ct : Env → Prop} {ex : Exn → Env → Prop} {ρ ρ1 ρ2 : Env} {Q : Rv → Env → Prop} {QT : Bool → Env → Prop} {QA : List Rv → Env → Prop} {QI : List D → Env → Prop} {E : Exn → Env → Prop} {t u tb ts : DS} {te ta : DE} {c tt tv : DT} {tA : DA} {ti : DI} {g : DG} {d d' e : D} {i j : Nat} {v : V} {x y : Rv} {xs : List Rv} {nm : String}
instance (priority := 2340) i_w_try {ns : List (String × Bool)} : St1 (dTry ns tb ts ⟨n, rt, bk, ct, ex⟩ ρ) (tb ⟨n, rt, bk, ct, fun x ρ' => trK ns ts ⟨n, rt, bk, ct, ex⟩ x ρ'⟩ ρ) := ⟨w_try⟩
end
section
variable {n : Env → Prop} {rt : D → Env → Prop} {bk ct : Env → Prop} {ex : Exn → Env → Prop} {ρ ρ1 ρ2 : Env} {Q : Rv → Env → Prop} {QT : Bool → Env → Prop} {QA : List Rv → Env → Prop} {QI : List D → Env → Prop} {E : Exn → Env → Prop} {t u tb ts : DS} {te ta : DE} {c tt tv : DT} {tA : DA} {ti : DI} {g : DG} {d d' e : D} {i j : Nat} {v : V} {x y : Rv} {xs : List Rv} {nm : String}
variable {k : D → Prop} {a b : Str} {m p : Int}
instance (priority := 2330) i_w_leS  : St1 (qLe (.p (.str a)) (.p (.str b)) k) (k (.bl (!strLt b a))) := ⟨w_leS⟩
end
section
variable {n : Env → Prop} {rt : D → Env → Prop} {bk ct : Env → Prop} {ex : Exn → Env → Prop} {ρ ρ1 ρ2 : Env} {Q : Rv → Env → Prop} {QT : Bool → Env → Prop} {QA : List Rv → Env → Prop} {QI : List D → Env → Prop} {E : Exn → Env → Prop} {t u tb ts : DS} {te ta : DE} {c tt tv : DT} {tA : DA} {ti : DI} {g : DG} {d d' e : D} {i j : Nat} {v : V} {x y : Rv} {xs : List Rv} {nm : String}
variable {k : D → Prop} {a b : Str} {m p : Int}
instance (priority := 2320) i_w_ltS  : St1 (qLt (.p (.str a)) (.p (.str b)) k) (k (.bl (strLt a b))) := ⟨w_ltS⟩
end
section
variable {n : Env → Prop} {rt : D → Env → Prop} {bk ct : Env → Prop} {ex : Exn → Env → Prop} {ρ ρ1 ρ2 : Env} {Q : Rv → Env → Prop} {QT : Bool → Env → Prop} {QA : List Rv → Env → Prop} {QI : List D → Env → Prop} {E : Exn → Env → Prop} {t u tb ts : DS} {te ta : DE} {c tt tv : DT} {tA : DA} {ti : DI} {g : DG} {d d' e : D} {i j : Nat} {v : V} {x y : Rv} {xs : List Rv} {nm : String}
variable {k : D → Prop} {a b : Str} {m p : Int}
instance (priority := 2310) i_w_inTf {ch : Nat} : St1 (qInS false (.p (.str (sg ch))) (.p (.str b)) k) (k (.bl (decide (ch ∈ b.cps.toList)))) := ⟨w_inTf⟩
end
section
variable {n : Env → Prop} {rt : D → Env → Prop} {bk ct : Env → Prop} {ex : Exn → Env → Prop} {ρ ρ1 ρ2 : Env} {Q : Rv → Env → Prop} {QT : Bool → Env → Prop} {QA : List Rv → Env → Prop} {QI : List D → Env → Prop} {E : Exn → Env → Prop} {t u tb ts : DS} {te ta : DE} {c tt tv : DT} {tA : DA} {ti : DI} {g : DG} {d d' e : D} {i j : Nat} {v : V} {x y : Rv} {xs : List Rv} {nm : String}
variable {k : D → Prop} {a b : Str} {m p : Int}
instance (priority := 2300) i_w_inTt {ch : Nat} : St1 (qInS true (.p (.str (sg ch))) (.p (.str b)) k) (k (.bl (!decide (ch ∈ b.cps.toList)))) := ⟨w_inTt⟩
end
section
variable {n : Env → Prop} {rt : D → Env → Prop} {bk ct : Env → Prop} {ex : Exn → Env → Prop} {ρ ρ1 ρ2 : Env} {Q : Rv → Env → Prop} {QT : Bool → Env → Prop} {QA : List Rv → Env → Prop} {QI : List D → Env → Prop} {E : Exn → Env → Prop} {t u tb ts : DS} {te ta : DE} {c tt tv : DT} {tA : DA} {ti : DI} {g : DG} {d d' e : D} {i j : Nat} {v : V} {x y : Rv} {xs : List Rv} {nm : String}
variable {k : D → Prop} {a b : Str} {m p : Int}
instance (priority := 2290) i_w_in2f {o : Bool} {x y z : Str} : St1 (qInS false (.p (.str x)) (.n o .tup [.p (.str y), .p (.str z)]) k) (k (.bl (dc (x = y ∨ x = z)))) := ⟨w_in2f⟩
end
section
variable {n : Env → Prop} {rt : D → Env → Prop} {bk ct : Env → Prop} {ex : Exn → Env → Prop} {ρ ρ1 ρ2 : Env} {Q : Rv → Env → Prop} {QT : Bool → Env → Prop} {QA : List Rv → Env → Prop} {QI : List D → Env → Prop} {E : Exn → Env → Prop} {t u tb ts : DS} {te ta : DE} {c tt tv : DT} {tA : DA} {ti : DI} {g : DG} {d d' e : D} {i j : Nat} {v : V} {x y : Rv} {xs : List Rv} {nm : String}
variable {k : D → Prop} {a b : Str} {m p : Int}
instance (priority := 2280) i_w_in2t {o : Bool} {x y z : Str} : St1 (qInS true (.p (.str x)) (.n o .tup [.p (.str y), .p (.str z)]) k) (k (.bl (!dc (x = y ∨ x = z)))) := ⟨w_in2t⟩
end
section
variable {n : Env → Prop} {rt : D → Env → Prop} {bk ct : Env → Prop} {ex : Exn → Env → Prop} {ρ ρ1 ρ2 : Env} {Q : Rv → Env → Prop} {QT : Bool → Env → Prop} {QA : List Rv → Env → Prop} {QI : List D → Env → Prop} {E : Exn → Env → Prop} {t u tb ts : DS} {te ta : DE} {c tt tv : DT} {tA : DA} {ti : DI} {g : DG} {d d' e : D} {i j : Nat} {v : V} {x y : Rv} {xs : List Rv} {nm : String}
variable {k : D → Prop} {a b : Str} {m p : Int}
instance (priority := 2270) i_w_intB {b : Bool} : St1 (qInt [.p (.bl b)] k) (k (.int (if b = true then 1 else 0))) := ⟨w_intB⟩
end
section
variable {n : Env → Prop} {rt : D → Env → Prop} {bk ct : Env → Prop} {ex : Exn → Env → Prop} {ρ ρ1 ρ2 : Env} {Q : Rv → Env → Prop} {QT : Bool → Env → Prop} {QA : List Rv → Env → Prop} {QI : List D → Env → Prop} {E : Exn → Env → Prop} {t u tb ts : DS} {te ta : DE} {c tt tv : DT} {tA : DA} {ti : DI} {g : DG} {d d' e : D} {i j : Nat} {v : V} {x y : Rv} {xs : List Rv} {nm : String}
variable {k : D → Prop} {a b : Str} {m p : Int}
instance (priority := 2260) i_w_intI  : St1 (qInt [.p (.int m)] k) (k (.int m)) := ⟨w_intI⟩
end
section
variable {n : Env → Prop} {rt : D → Env → Prop} {bk ct : Env → Prop} {ex : Exn → Env → Prop} {ρ ρ1 ρ2 : Env} {Q : Rv → Env → Prop} {QT : Bool → Env → Prop} {QA : List Rv → Env → Prop} {QI : List D → Env → Prop} {E : Exn → Env → Prop} {t u tb ts : DS} {te ta : DE} {c tt tv : DT} {tA : DA} {ti : DI} {g : DG} {d d' e : D} {i j : Nat} {v : V} {x y : Rv} {xs : List Rv} {nm : String}
variable {k : D → Prop} {a b : Str} {m p : Int}
instance (priority := 2250) i_w_isdigit  : St1 (qIsdigit (.p (.str a)) k) (k (.bl (Txt.isdigit a))) := ⟨w_isdigit⟩
end
section
variable {n : Env → Prop} {rt : D → Env → Prop} {bk ct : Env → Prop} {ex : Exn → Env → Prop} {ρ ρ1 ρ2 : Env} {Q : Rv → Env → Prop} {QT : Bool → Env → Prop} {QA : List Rv → Env → Prop} {QI : List D → Env → Prop} {E : Exn → Env → Prop} {t u tb ts : DS} {te ta : DE} {c tt tv : DT} {tA : DA} {ti : DI} {g : DG} {d d' e : D} {i j : Nat} {v : V} {x y : Rv} {xs : List Rv} {nm : String}
variable {k : D → Prop} {a b : Str} {m p : Int}
instance (priority := 2240) i_w_isalpha  : St1 (qIsalpha (.p (.str a)) k) (k (.bl (Txt.isalpha a))) := ⟨w_isalpha⟩
end
section
variable {n : Env → Prop} {rt : D → Env → Prop} {bk ct : Env → Prop} {ex : Exn → Env → Prop} {ρ ρ1 ρ2 : Env} {Q : Rv → Env → Prop} {QT : Bool → Env → Prop} {QA : List Rv → Env → Prop} {QI : List D → Env → Prop} {E : Exn → Env → Prop} {t u tb ts : DS} {te ta : DE} {c tt tv : DT} {tA : DA} {ti : DI} {g : DG} {d d' e : D} {i j : Nat} {v : V} {x y : Rv} {xs : List Rv} {nm : String}
variable {k : D → Prop} {a b : Str} {m p : Int}
instance (priority := 2230) i_w_isNn  : St1 (qIsN .non .non k) (k (.bl true)) := ⟨w_isNn⟩
end
section
variable {n : Env → Prop} {rt : D → Env → Prop} {bk ct : Env → Prop} {ex : Exn → Env → Prop} {ρ ρ1 ρ2 : Env} {Q : Rv → Env → Prop} {QT : Bool → Env → Prop} {QA : List Rv → Env → Prop} {QI : List D → Env → Prop} {E : Exn → Env → Prop} {t u tb ts : DS} {te ta : DE} {c tt tv : DT} {tA : DA} {ti : DI} {g : DG} {d d' e : D} {i j : Nat} {v : V} {x y : Rv} {xs : List Rv} {nm : String}
variable {k : D → Prop} {a b : Str} {m p : Int}
instance (priority := 2220) i_w_isN {d : D} : St1 (qIsN d .non k) (k (.bl (isNon d))) := ⟨w_isN⟩
end
section
variable {n : Env → Prop} {rt : D → Env → Prop} {bk ct : Env → Prop} {ex : Exn → Env → Prop} {ρ ρ1 ρ2 : Env} {Q : Rv → Env → Prop} {QT : Bool → Env → Prop} {QA : List Rv → Env → Prop} {QI : List D → Env → Prop} {E : Exn → Env → Prop} {t u tb ts : DS} {te ta : DE} {c tt tv : DT} {tA : DA} {ti : DI} {g : DG} {d d' e : D} {i j : Nat} {v : V} {x y : Rv} {xs : List Rv} {nm : String}
variable {k : D → Prop} {a b : Str} {m p : Int}
instance (priority := 2210) i_w_notN {d : D} : St1 (qNotN d .non k) (k (.bl (!isNon d))) := ⟨w_notN⟩
end
section
variable {n : Env → Prop} {rt : D → Env → Prop} {bk ct : Env → Prop} {ex : Exn → Env → Prop} {ρ ρ1 ρ2 : Env} {Q : Rv → Env → Prop} {QT : Bool → Env → Prop} {QA : List Rv → Env → Prop} {QI : List D → Env → Prop} {E : Exn → Env → Prop} {t u tb ts : DS} {te ta : DE} {c tt tv : DT} {tA : DA} {ti : DI} {g : DG} {d d' e : D} {i j : Nat} {v : V} {x y : Rv} {xs : List Rv} {nm : String}
instance (priority := 2200) i_w_istr  : St1 (dIStr te ρ QI E) (te ρ (fun r ρ1 => isK r ρ1 QI) E) := ⟨w_istr⟩
end
section
variable {n : Env → Prop} {rt : D → Env → Prop} {bk ct : Env → Prop} {ex : Exn → Env → Prop} {ρ ρ1 ρ2 : Env} {Q : Rv → Env → Prop} {QT : Bool → Env → Prop} {QA : List Rv → Env → Prop} {QI : List D → Env → Prop} {E : Exn → Env → Prop} {t u tb ts : DS} {te ta : DE} {c tt tv : DT} {tA : DA} {ti : DI} {g : DG} {d d' e : D} {i j : Nat} {v : V} {x y : Rv} {xs : List Rv} {nm : String}
instance (priority := 2190) i_w_m1 {r : Op2} {tb : DE} : St1 (dM1 r ta tb ρ Q E) (ta ρ (fun x ρ1 => m1K r x ρ1 tb Q E) E) := ⟨w_m1⟩
end
section
variable {n : Env → Prop} {rt : D → Env → Prop} {bk ct : Env → Prop} {ex : Exn → Env → Prop} {ρ ρ1 ρ2 : Env} {Q : Rv → Env → Prop} {QT : Bool → Env → Prop} {QA : List Rv → Env → Prop} {QI : List D → Env → Prop} {E : Exn → Env → Prop} {t u tb ts : DS} {te ta : DE} {c tt tv : DT} {tA : DA} {ti : DI} {g : DG} {d d' e : D} {i j : Nat} {v : V} {x y : Rv} {xs : List Rv} {nm : String}
instance (priority := 2180) i_w_put {T : String} {r : OpM} {ti : DE} : St1 (dPut T i r te ti ⟨n, rt, bk, ct, ex⟩ ρ) (te ρ (fun x ρ1 => puK T i r ti x ρ1 n ex) ex) := ⟨w_put⟩
end
section

instance (priority := 2170) i_w_loopNil {g : DG} {t : DS} {n : Env → Prop} {rt : D → Env → Prop} {bk ct : Env → Prop} {ex : Exn → Env → Prop} {ρ : Env} : St1 (dLoop g t ⟨n, rt, bk, ct, ex⟩ [] ρ) (n ρ) := ⟨w_loopNil⟩
end
section

instance (priority := 2160) i_w_lcNil {g : DG} {tt : DT} {te : DE} {vs : List Nat} {K : List D → Env → Prop} {ρ : Env} {acc : List D} : St1 (dLcL g tt te vs K [] ρ acc) (K acc ρ) := ⟨w_lcNil⟩
end
section
variable {n : Env → Prop} {rt : D → Env → Prop} {bk ct : Env → Prop} {ex : Exn → Env → Prop} {ρ ρ1 ρ2 : Env} {Q : Rv → Env → Prop} {QI : List D → Env → Prop} {E : Exn → Env → Prop} {t tb : DS} {te ta tc tt : DE} {tA : DA} {c : DT} {ti : DI} {g : DG} {gs : DGs} {d d' e : D} {ds es ch ch' : List D} {i j : Nat} {x y z : Rv} {xs : List Rv} {T : String} {m : OpM} {kd k' : Kd} {s : Sl} {res : D} {k : D → Env → Prop} {vs : List Nat}
instance (priority := 2150) i_lw_nil  : St1 (dLoopW g tb vs ⟨n, rt, bk, ct, ex⟩ [] ρ) (n ρ) := ⟨lw_nil⟩
end
section
variable {n : Env → Prop} {rt : D → Env → Prop} {bk ct : Env → Prop} {ex : Exn → Env → Prop} {ρ ρ1 ρ2 : Env} {Q : Rv → Env → Prop} {QI : List D → Env → Prop} {E : Exn → Env → Prop} {t tb : DS} {te ta tc tt : DE} {tA : DA} {c : DT} {ti : DI} {g : DG} {gs : DGs} {d d' e : D} {ds es ch ch' : List D} {i j : Nat} {x y z : Rv} {xs : List Rv} {T : String} {m : OpM} {kd k' : Kd} {s : Sl} {res : D} {k : D → Env → Prop} {vs : List Nat}
instance (priority := 2140) i_w_wipe  : St1 (dThenW t vs ⟨n, rt, bk, ct, ex⟩ ρ) (t ⟨fun ρ1 => wpK ρ1 vs n, rt, bk, ct, ex⟩ ρ) := ⟨w_wipe⟩
end
section
variable {n : Env → Prop} {rt : D → Env → Prop} {bk ct : Env → Prop} {ex : Exn → Env → Prop} {ρ ρ1 ρ2 : Env} {Q : Rv → Env → Prop} {QI : List D → Env → Prop} {E : Exn → Env → Prop} {t tb : DS} {te ta tc tt : DE} {tA : DA} {c : DT} {ti : DI} {g : DG} {gs : DGs} {d d' e : D} {ds es ch ch' : List D} {i j : Nat} {x y z : Rv} {xs : List Rv} {T : String} {m : OpM} {kd k' : Kd} {s : Sl} {res : D} {k : D → Env → Prop} {vs : List Nat}
instance (priority := 2130) i_w_forW  : St1 (dForW ti g tb vs ⟨n, rt, bk, ct, ex⟩ ρ) (ti ρ (fun items ρ1 => wpK ρ1 vs (dLoopW g tb vs ⟨n, rt, bk, ct, ex⟩ items)) ex) := ⟨w_forW⟩
end
section
variable {n : Env → Prop} {rt : D → Env → Prop} {bk ct : Env → Prop} {ex : Exn → Env → Prop} {ρ ρ1 ρ2 : Env} {Q : Rv → Env → Prop} {QI : List D → Env → Prop} {E : Exn → Env → Prop} {t tb : DS} {te ta tc tt : DE} {tA : DA} {c : DT} {ti : DI} {g : DG} {gs : DGs} {d d' e : D} {ds es ch ch' : List D} {i j : Nat} {x y z : Rv} {xs : List Rv} {T : String} {m : OpM} {kd k' : Kd} {s : Sl} {res : D} {k : D → Env → Prop} {vs : List Nat}
variable {α : Type} {inst : Enc α} {xs' : List α} {a : α} {K : Kd → List D → D → Prop} {p : Int} {l : Nat}
instance (priority := 2120) i_m_clrE  : St1 (mClear .lst (xs'.map en) [] K) (K .lst (([] : List α).map en) .non) := ⟨m_clrE⟩
end
section
variable {n : Env → Prop} {rt : D → Env → Prop} {bk ct : Env → Prop} {ex : Exn → Env → Prop} {ρ ρ1 ρ2 : Env} {Q : Rv → Env → Prop} {QI : List D → Env → Prop} {E : Exn → Env → Prop} {t tb : DS} {te ta tc tt : DE} {tA : DA} {c : DT} {ti : DI} {g : DG} {gs : DGs} {d d' e : D} {ds es ch ch' : List D} {i j : Nat} {x y z : Rv} {xs : List Rv} {T : String} {m : OpM} {kd k' : Kd} {s : Sl} {res : D} {k : D → Env → Prop} {vs : List Nat}
variable {κ β : Type} {i0 : DecidableEq κ} {i1 : Enc κ} {i2 : KeyE κ} {i3 : Enc β} {kv : List (κ × β)} {a : κ} {b : β} {K : Kd → List D → D → Prop}
instance (priority := 2110) i_w_newD  : St1 (dNewD ρ Q E) (Q (.t (.n true (.dic []) [])) ρ) := ⟨w_newD⟩
end
section
variable {n : Env → Prop} {rt : D → Env → Prop} {bk ct : Env → Prop} {ex : Exn → Env → Prop} {ρ ρ1 ρ2 : Env} {Q : Rv → Env → Prop} {QI : List D → Env → Prop} {E : Exn → Env → Prop} {t tb : DS} {te ta tc tt : DE} {tA : DA} {c : DT} {ti : DI} {g : DG} {gs : DGs} {d d' e : D} {ds es ch ch' : List D} {i j : Nat} {x y z : Rv} {xs : List Rv} {T : String} {m : OpM} {kd k' : Kd} {s : Sl} {res : D} {k : D → Env → Prop} {vs : List Nat}
variable {κ β : Type} {i0 : DecidableEq κ} {i1 : Enc κ} {i2 : KeyE κ} {i3 : Enc β} {kv : List (κ × β)} {a : κ} {b : β} {K : Kd → List D → D → Prop}
instance (priority := 2100) i_w_get2  : St1 (dGet2 ta tt tc ρ Q E) (ta ρ (fun x ρ1 => isDK x ρ1 (tt ρ1 (fun y ρ2 => tc ρ2 (fun z ρ3 => g2K x y z ρ3 fun d => Q (.t d) ρ3) E) E)) E) := ⟨w_get2⟩
end
section
variable {n : Env → Prop} {rt : D → Env → Prop} {bk ct : Env → Prop} {ex : Exn → Env → Prop} {ρ ρ1 ρ2 : Env} {Q : Rv → Env → Prop} {QI : List D → Env → Prop} {E : Exn → Env → Prop} {t tb : DS} {te ta tc tt : DE} {tA : DA} {c : DT} {ti : DI} {g : DG} {gs : DGs} {d d' e : D} {ds es ch ch' : List D} {i j : Nat} {x y z : Rv} {xs : List Rv} {T : String} {m : OpM} {kd k' : Kd} {s : Sl} {res : D} {k : D → Env → Prop} {vs : List Nat}
instance (priority := 2070) i_w_disp {ks : List Str} : St1 (dDisp ks tA ρ Q E) (tA ρ (fun rs ρ1 => dpK ks rs ρ1 fun d ρ2 => Q (.t d) ρ2) E) := ⟨w_disp⟩
end
section
variable {n : Env → Prop} {rt : D → Env → Prop} {bk ct : Env → Prop} {ex : Exn → Env → Prop} {ρ ρ1 ρ2 : Env} {Q : Rv → Env → Prop} {QI : List D → Env → Prop} {E : Exn → Env → Prop} {t tb : DS} {te ta tc tt : DE} {tA : DA} {c : DT} {ti : DI} {g : DG} {gs : DGs} {d d' e : D} {ds es ch ch' : List D} {i j : Nat} {x y z : Rv} {xs : List Rv} {T : String} {m : OpM} {kd k' : Kd} {s : Sl} {res : D} {k : D → Env → Prop} {vs : List Nat}
instance (priority := 2060) i_w_dsN {QA : List Rv → Env → Prop} : St1 (dDs [] ρ QA E) (dNil ρ QA E) := ⟨w_dsN⟩
end
section
variable {n : Env → Prop} {rt : D → Env → Prop} {bk ct : Env → Prop} {ex : Exn → Env → Prop} {ρ ρ1 ρ2 : Env} {Q : Rv → Env → Prop} {QI : List D → Env → Prop} {E : Exn → Env → Prop} {t tb : DS} {te ta tc tt : DE} {tA : DA} {c : DT} {ti : DI} {g : DG} {gs : DGs} {d d' e : D} {ds es ch ch' : List D} {i j : Nat} {x y z : Rv} {xs : List Rv} {T : String} {m : OpM} {kd k' : Kd} {s : Sl} {res : D} {k : D → Env → Prop} {vs : List Nat}
instance (priority := 2050) i_w_dsC {QA : List Rv → Env → Prop} {ts : List DE} : St1 (dDs (te :: ts) ρ QA E) (dCons te (dDs ts) ρ QA E) := ⟨w_dsC⟩
end
section
variable {n : Env → Prop} {rt : D → Env → Prop} {bk ct : Env → Prop} {ex : Exn → Env → Prop} {ρ ρ1 ρ2 : Env} {Q : Rv → Env → Prop} {QI : List D → Env → Prop} {E : Exn → Env → Prop} {t tb : DS} {te ta tc tt : DE} {tA : DA} {c : DT} {ti : DI} {g : DG} {gs : DGs} {d d' e : D} {ds es ch ch' : List D} {i j : Nat} {x y z : Rv} {xs : List Rv} {T : String} {m : OpM} {kd k' : Kd} {s : Sl} {res : D} {k : D → Env → Prop} {vs : List Nat}
instance (priority := 2040) i_w_gnil {q : Env → Prop} : St1 (dGNil [] ρ q) (q ρ) := ⟨w_gnil⟩
end
section
variable {n : Env → Prop} {rt : D → Env → Prop} {bk ct : Env → Prop} {ex : Exn → Env → Prop} {ρ ρ1 ρ2 : Env} {Q : Rv → Env → Prop} {QI : List D → Env → Prop} {E : Exn → Env → Prop} {t tb : DS} {te ta tc tt : DE} {tA : DA} {c : DT} {ti : DI} {g : DG} {gs : DGs} {d d' e : D} {ds es ch ch' : List D} {i j : Nat} {x y z : Rv} {xs : List Rv} {T : String} {m : OpM} {kd k' : Kd} {s : Sl} {res : D} {k : D → Env → Prop} {vs : List Nat}
instance (priority := 2030) i_w_gcons {q : Env → Prop} : St1 (dGCons g gs (d :: ds) ρ q) (g (.t d) ρ fun ρ1 => gs ds ρ1 q) := ⟨w_gcons⟩
end
section
variable {n : Env → Prop} {rt : D → Env → Prop} {bk ct : Env → Prop} {ex : Exn → Env → Prop} {ρ ρ1 ρ2 : Env} {Q : Rv → Env → Prop} {QI : List D → Env → Prop} {E : Exn → Env → Prop} {t tb : DS} {te ta tc tt : DE} {tA : DA} {c : DT} {ti : DI} {g : DG} {gs : DGs} {d d' e : D} {ds es ch ch' : List D} {i j : Nat} {x y z : Rv} {xs : List Rv} {T : String} {m : OpM} {kd k' : Kd} {s : Sl} {res : D} {k : D → Env → Prop} {vs : List Nat}
instance (priority := 2020) i_w_gsub {q : Env → Prop} : St1 (dGSub T i m te x ρ q) (gsK T i ρ (te ρ (fun y ρ1 => mutK i m [y, x] ρ1 q) (fun _ _ => False))) := ⟨w_gsub⟩
end
section
variable {n : Env → Prop} {rt : D → Env → Prop} {bk ct : Env → Prop} {ex : Exn → Env → Prop} {ρ ρ1 ρ2 : Env} {Q : Rv → Env → Prop} {QI : List D → Env → Prop} {E : Exn → Env → Prop} {t tb : DS} {te ta tc tt : DE} {tA : DA} {c : DT} {ti : DI} {g : DG} {gs : DGs} {d d' e : D} {ds es ch ch' : List D} {i j : Nat} {x y z : Rv} {xs : List Rv} {T : String} {m : OpM} {kd k' : Kd} {s : Sl} {res : D} {k : D → Env → Prop} {vs : List Nat}
instance (priority := 2010) i_w_zip  : St1 (dIZip tA ρ QI E) (tA ρ (fun rs ρ1 => zK rs ρ1 QI) E) := ⟨w_zip⟩
end
section
variable {ρ ρ2 : Env} {tA : DA} {QI : List D → Env → Prop} {E : Exn → Env → Prop} {xs : List Rv} {d e : D}
instance (priority := 2000) i_w_zipA  : St1 (dIZipA tA ρ QI E) (tA ρ (fun rs ρ1 => zAK rs ρ1 QI) E) := ⟨w_zipA⟩
end
section
variable {ρ ρ2 : Env} {tA : DA} {QI : List D → Env → Prop} {E : Exn → Env → Prop} {xs : List Rv} {d e : D}
instance (priority := 1990) i_w_ez  : St1 (dIEZ tA ρ QI E) (tA ρ (fun rs ρ1 => ezK rs ρ1 QI) E) := ⟨w_ez⟩
end
section
variable {ρ : Env} {ta tb : DE} {Q : Rv → Env → Prop} {E : Exn → Env → Prop} {x y : Rv}
instance (priority := 1980) i_w_lrg1  : St1 (dLRg1 ta ρ Q E) (ta ρ (fun x ρ1 => lr1K x ρ1 Q) E) := ⟨w_lrg1⟩
end
section
variable {ρ : Env} {ta tb : DE} {Q : Rv → Env → Prop} {E : Exn → Env → Prop} {x y : Rv}
instance (priority := 1970) i_w_lrg2  : St1 (dLRg2 ta tb ρ Q E) (ta ρ (fun x ρ1 => tb ρ1 (fun y ρ2 => lr2K x y ρ2 Q) E) E) := ⟨w_lrg2⟩
end
section
variable {n : Env → Prop} {rt : D → Env → Prop} {bk ct : Env → Prop} {ex : Exn → Env → Prop} {ρ ρ1 ρ2 : Env} {Q : Rv → Env → Prop} {QI : List D → Env → Prop} {E : Exn → Env → Prop} {t tb : DS} {te ta tc tt : DE} {tA : DA} {c : DT} {ti : DI} {g : DG} {gs : DGs} {d d' e : D} {ds es ch ch' : List D} {i j : Nat} {x y z : Rv} {xs : List Rv} {T : String} {m : OpM} {kd k' : Kd} {s : Sl} {res : D} {k : D → Env → Prop} {vs : List Nat}
instance (priority := 1960) i_w_enum  : St1 (dIEnum tA ρ QI E) (tA ρ (fun rs ρ1 => enK rs ρ1 QI) E) := ⟨w_enum⟩
end
section
variable {n : Env → Prop} {rt : D → Env → Prop} {bk ct : Env → Prop} {ex : Exn → Env → Prop} {ρ ρ1 ρ2 : Env} {Q : Rv → Env → Prop} {QI : List D → Env → Prop} {E : Exn → Env → Prop} {t tb : DS} {te ta tc tt : DE} {tA : DA} {c : DT} {ti : DI} {g : DG} {gs : DGs} {d d' e : D} {ds es ch ch' : List D} {i j : Nat} {x y z : Rv} {xs : List Rv} {T : String} {m : OpM} {kd k' : Kd} {s : Sl} {res : D} {k : D → Env → Prop} {vs : List Nat}
instance (priority := 1950) i_w_js {ts : List DE} : St1 (dJs ts ρ Q E) (dJl ts Str.empty ρ (fun out ρ1 => Q (.t (.p (.str out))) ρ1) E) := ⟨w_js⟩
end
section
variable {n : Env → Prop} {rt : D → Env → Prop} {bk ct : Env → Prop} {ex : Exn → Env → Prop} {ρ ρ1 ρ2 : Env} {Q : Rv → Env → Prop} {QI : List D → Env → Prop} {E : Exn → Env → Prop} {t tb : DS} {te ta tc tt : DE} {tA : DA} {c : DT} {ti : DI} {g : DG} {gs : DGs} {d d' e : D} {ds es ch ch' : List D} {i j : Nat} {x y z : Rv} {xs : List Rv} {T : String} {m : OpM} {kd k' : Kd} {s : Sl} {res : D} {k : D → Env → Prop} {vs : List Nat}
instance (priority := 1940) i_w_jlN {acc : Str} {q : Str → Env → Prop} : St1 (dJl [] acc ρ q E) (q acc ρ) := ⟨w_jlN⟩
end
section
variable {n : Env → Prop} {rt : D → Env → Prop} {bk ct : Env → Prop} {ex : Exn → Env → Prop} {ρ ρ1 ρ2 : Env} {Q : Rv → Env → Prop} {QI : List D → Env → Prop} {E : Exn → Env → Prop} {t tb : DS} {te ta tc tt : DE} {tA : DA} {c : DT} {ti : DI} {g : DG} {gs : DGs} {d d' e : D} {ds es ch ch' : List D} {i j : Nat} {x y z : Rv} {xs : List Rv} {T : String} {m : OpM} {kd k' : Kd} {s : Sl} {res : D} {k : D → Env → Prop} {vs : List Nat}
instance (priority := 1930) i_w_jlC {ts : List DE} {acc : Str} {q : Str → Env → Prop} : St1 (dJl (te :: ts) acc ρ q E) (te ρ (fun r ρ1 => jlK ts acc r ρ1 q E) E) := ⟨w_jlC⟩
end
section
variable {n : Env → Prop} {rt : D → Env → Prop} {bk ct : Env → Prop} {ex : Exn → Env → Prop} {ρ ρ1 ρ2 : Env} {Q : Rv → Env → Prop} {QI : List D → Env → Prop} {E : Exn → Env → Prop} {t tb : DS} {te ta tc tt : DE} {tA : DA} {c : DT} {ti : DI} {g : DG} {gs : DGs} {d d' e : D} {ds es ch ch' : List D} {i j : Nat} {x y z : Rv} {xs : List Rv} {T : String} {m : OpM} {kd k' : Kd} {s : Sl} {res : D} {k : D → Env → Prop} {vs : List Nat}
instance (priority := 1920) i_w_fmt  : St1 (dFmt te ρ Q E) (te ρ (fun r ρ1 => fmK r ρ1 Q) E) := ⟨w_fmt⟩
end
section
variable {n : Env → Prop} {rt : D → Env → Prop} {bk ct : Env → Prop} {ex : Exn → Env → Prop} {ρ ρ1 ρ2 : Env} {Q : Rv → Env → Prop} {QI : List D → Env → Prop} {E : Exn → Env → Prop} {t tb : DS} {te ta tc tt : DE} {tA : DA} {c : DT} {ti : DI} {g : DG} {gs : DGs} {d d' e : D} {ds es ch ch' : List D} {i j : Nat} {x y z : Rv} {xs : List Rv} {T : String} {m : OpM} {kd k' : Kd} {s : Sl} {res : D} {k : D → Env → Prop} {vs : List Nat}
instance (priority := 1910) i_w_bm1 {r : Op2} : St1 (dBM1 T r ta tt ρ Q E) (ta ρ (fun x ρ1 => bmK T x ρ1 (tt ρ1 (fun y ρ2 => opK r x y ρ2 fun z => Q (.t z) ρ2) E)) E) := ⟨w_bm1⟩
end
section
variable {ρ ρ2 : Env} {Q : Rv → Env → Prop} {E : Exn → Env → Prop} {t : DA} {xs : List Rv}
instance (priority := 1900) i_w_disp1  : St1 (dDisp1 t ρ Q E) (t ρ (fun rs ρ1 => dp1K rs ρ1 Q) E) := ⟨w_disp1⟩
end
section
variable {ρ : Env} {gs : DGs} {q : Env → Prop}
instance s_gt2 {α β : Type} [Enc α] [Enc β] {a : α} {b : β} : St1 (dGTup 2 gs (.t (en (a, b))) ρ q) (gs [en a, en b] ρ q) := ⟨fun h => w_gtT (d' := en (a, b)) (Frz.h (d := en (a, b))) rfl rfl h⟩
instance s_gt3 {α β γ : Type} [Enc α] [Enc β] [Enc γ] {a : α} {b : β} {c : γ} : St1 (dGTup 3 gs (.t (en (T3.mk a b c))) ρ q) (gs [en a, en b, en c] ρ q) := ⟨fun h => w_gtT (d' := en (T3.mk a b c)) (Frz.h (d := en (T3.mk a b c))) rfl rfl h⟩
end
/-! ### the rest by groups -/
class Al0 (p : Prop) : Prop where
  go : p → p
instance al_ixK {a0 a1 a2 a3} : Al0 (ixK a0 a1 a2 a3) := ⟨fun z => z⟩
instance al_fdK {a0 a1 a2 a3 a4} : Al0 (fdK a0 a1 a2 a3 a4) := ⟨fun z => z⟩
instance al_rfK {a0 a1 a2 a3 a4} : Al0 (rfK a0 a1 a2 a3 a4) := ⟨fun z => z⟩
instance al_tyK {a0 a1 a2 a3 a4 a5 a6} : Al0 (tyK a0 a1 a2 a3 a4 a5 a6) := ⟨fun z => z⟩
instance al_upK {a0 a1 a2 a3 a4} : Al0 (upK a0 a1 a2 a3 a4) := ⟨fun z => z⟩
instance al_qRepL {a0 a1 a2} : Al0 (qRepL a0 a1 a2) := ⟨fun z => z⟩
instance al_dVar {a0 a1 a2 a3} : Al0 (dVar a0 a1 a2 a3) := ⟨fun z => z⟩
instance al_opK {a0 a1 a2 a3 a4} : Al0 (opK a0 a1 a2 a3 a4) := ⟨fun z => z⟩
instance al_dName {a0 a1 a2 a3} : Al0 (dName a0 a1 a2 a3) := ⟨fun z => z⟩
class Al1 (p : Prop) : Prop where
  go : p → p
instance al_cbK {a0 a1 a2 a3} : Al1 (cbK a0 a1 a2 a3) := ⟨fun z => z⟩
instance al_mkK {a0 a1 a2} : Al1 (mkK a0 a1 a2) := ⟨fun z => z⟩
instance al_itK {a0 a1 a2} : Al1 (itK a0 a1 a2) := ⟨fun z => z⟩
instance al_lcK {a0 a1 a2} : Al1 (lcK a0 a1 a2) := ⟨fun z => z⟩
instance al_lcA {a0 a1 a2 a3 a4} : Al1 (lcA a0 a1 a2 a3 a4) := ⟨fun z => z⟩
instance al_retK {a0 a1 a2} : Al1 (retK a0 a1 a2) := ⟨fun z => z⟩
class Al2 (p : Prop) : Prop where
  go : p → p
instance al_dMv {a0 a1 a2 a3} : Al2 (dMv a0 a1 a2 a3) := ⟨fun z => z⟩
instance al_unK {a0 a1 a2 a3} : Al2 (unK a0 a1 a2 a3) := ⟨fun z => z⟩
instance al_blK {a0 a1 a2} : Al2 (blK a0 a1 a2) := ⟨fun z => z⟩
instance al_chK {a0 a1 a2 a3 a4 a5 a6 a7} : Al2 (chK a0 a1 a2 a3 a4 a5 a6 a7) := ⟨fun z => z⟩
instance al_qAdd {a0 a1 a2} : Al2 (qAdd a0 a1 a2) := ⟨fun z => z⟩
instance al_qMod {a0 a1 a2} : Al2 (qMod a0 a1 a2) := ⟨fun z => z⟩
instance al_qDiv {a0 a1 a2} : Al2 (qDiv a0 a1 a2) := ⟨fun z => z⟩
instance al_qEq {a0 a1 a2} : Al2 (qEq a0 a1 a2) := ⟨fun z => z⟩
instance al_qNe {a0 a1 a2} : Al2 (qNe a0 a1 a2) := ⟨fun z => z⟩
class Al3 (p : Prop) : Prop where
  go : p → p
instance al_qInS {a0 a1 a2 a3} : Al3 (qInS a0 a1 a2 a3) := ⟨fun z => z⟩
instance al_caK {a0 a1 a2 a3} : Al3 (caK a0 a1 a2 a3) := ⟨fun z => z⟩
instance al_baK {a0 a1 a2 a3 a4 a5} : Al3 (baK a0 a1 a2 a3 a4 a5) := ⟨fun z => z⟩
instance al_kwK {a0 a1 a2} : Al3 (kwK a0 a1 a2) := ⟨fun z => z⟩
instance al_qList {a0 a1} : Al3 (qList a0 a1) := ⟨fun z => z⟩
class Al4 (p : Prop) : Prop where
  go : p → p
instance al_qLen {a0 a1} : Al4 (qLen a0 a1) := ⟨fun z => z⟩
instance al_qAll {a0 a1} : Al4 (qAll a0 a1) := ⟨fun z => z⟩
instance al_qAny {a0 a1} : Al4 (qAny a0 a1) := ⟨fun z => z⟩
instance al_qIsi {a0 a1} : Al4 (qIsi a0 a1) := ⟨fun z => z⟩
instance al_qSortI {a0 a1} : Al4 (qSortI a0 a1) := ⟨fun z => z⟩
instance al_rg1K {a0 a1 a2} : Al4 (rg1K a0 a1 a2) := ⟨fun z => z⟩
instance al_rg2K {a0 a1 a2} : Al4 (rg2K a0 a1 a2) := ⟨fun z => z⟩
instance al_dMut {a0 a1 a2 a3 a4 a5 a6} : Al4 (dMut a0 a1 a2 a3 a4 a5 a6) := ⟨fun z => z⟩
instance al_mu2K {a0 a1 a2 a3 a4} : Al4 (mu2K a0 a1 a2 a3 a4) := ⟨fun z => z⟩
class Al5 (p : Prop) : Prop where
  go : p → p
instance al_ptK {a0 a1 a2} : Al5 (ptK a0 a1 a2) := ⟨fun z => z⟩
instance al_cutK {a0 a1 a2 a3 a4} : Al5 (cutK a0 a1 a2 a3 a4) := ⟨fun z => z⟩
instance al_qUpper {a0 a1} : Al5 (qUpper a0 a1) := ⟨fun z => z⟩
instance al_qRevT {a0 a1} : Al5 (qRevT a0 a1) := ⟨fun z => z⟩
instance al_fzK {a0 a1 a2} : Al5 (fzK a0 a1 a2) := ⟨fun z => z⟩
instance al_qStr1 {a0 a1} : Al5 (qStr1 a0 a1) := ⟨fun z => z⟩
instance al_trK {a0 a1 a2 a3 a4} : Al5 (trK a0 a1 a2 a3 a4) := ⟨fun z => z⟩
instance al_dAugI {a0 a1 a2 a3} : Al5 (dAugI a0 a1 a2 a3) := ⟨fun z => z⟩
instance al_agK {a0 a1 a2 a3} : Al5 (agK a0 a1 a2 a3) := ⟨fun z => z⟩
class Al6 (p : Prop) : Prop where
  go : p → p
instance al_qMulS {a0 a1 a2} : Al6 (qMulS a0 a1 a2) := ⟨fun z => z⟩
instance al_qPow {a0 a1 a2} : Al6 (qPow a0 a1 a2) := ⟨fun z => z⟩
instance al_isK {a0 a1 a2} : Al6 (isK a0 a1 a2) := ⟨fun z => z⟩
instance al_m1K {a0 a1 a2 a3 a4 a5} : Al6 (m1K a0 a1 a2 a3 a4 a5) := ⟨fun z => z⟩
instance al_puK {a0 a1 a2 a3 a4 a5 a6 a7} : Al6 (puK a0 a1 a2 a3 a4 a5 a6 a7) := ⟨fun z => z⟩
instance al_wpK {a0 a1 a2} : Al6 (wpK a0 a1 a2) := ⟨fun z => z⟩
instance al_dForC {a0 a1 a2 a3 a4 a5} : Al6 (dForC a0 a1 a2 a3 a4 a5) := ⟨fun z => z⟩
instance al_muE {a0 a1 a2 a3 a4 a5 a6} : Al6 (muE a0 a1 a2 a3 a4 a5 a6) := ⟨fun z => z⟩
instance al_mbE {a0 a1 a2 a3 a4 a5 a6 a7 a8} : Al6 (mbE a0 a1 a2 a3 a4 a5 a6 a7 a8) := ⟨fun z => z⟩
instance al_mAppend {a0 a1 a2 a3} : Al6 (mAppend a0 a1 a2 a3) := ⟨fun z => z⟩
class Al7 (p : Prop) : Prop where
  go : p → p
instance al_mInsert {a0 a1 a2 a3} : Al7 (mInsert a0 a1 a2 a3) := ⟨fun z => z⟩
instance al_mExtend {a0 a1 a2 a3} : Al7 (mExtend a0 a1 a2 a3) := ⟨fun z => z⟩
instance al_mPutD {a0 a1 a2 a3} : Al7 (mPutD a0 a1 a2 a3) := ⟨fun z => z⟩
instance al_muB {a0 a1 a2 a3 a4} : Al7 (muB a0 a1 a2 a3 a4) := ⟨fun z => z⟩
instance al_dMutB {a0 a1 a2 a3 a4 a5 a6} : Al7 (dMutB a0 a1 a2 a3 a4 a5 a6) := ⟨fun z => z⟩
instance al_isDK {a0 a1 a2} : Al7 (isDK a0 a1 a2) := ⟨fun z => z⟩
instance al_g2K {a0 a1 a2 a3 a4} : Al7 (g2K a0 a1 a2 a3 a4) := ⟨fun z => z⟩
instance al_dpK {a0 a1 a2 a3} : Al7 (dpK a0 a1 a2 a3) := ⟨fun z => z⟩
instance al_dGTup {a0 a1 a2 a3 a4} : Al7 (dGTup a0 a1 a2 a3 a4) := ⟨fun z => z⟩
instance al_gsK {a0 a1 a2 a3} : Al7 (gsK a0 a1 a2 a3) := ⟨fun z => z⟩
instance al_zK {a0 a1 a2} : Al7 (zK a0 a1 a2) := ⟨fun z => z⟩
class Al8 (p : Prop) : Prop where
  go : p → p
instance al_ezK {a0 a1 a2} : Al8 (ezK a0 a1 a2) := ⟨fun z => z⟩
instance al_lr1K {a0 a1 a2} : Al8 (lr1K a0 a1 a2) := ⟨fun z => z⟩
instance al_lr2K {a0 a1 a2 a3} : Al8 (lr2K a0 a1 a2 a3) := ⟨fun z => z⟩
instance al_enK {a0 a1 a2} : Al8 (enK a0 a1 a2) := ⟨fun z => z⟩
instance al_jlK {a0 a1 a2 a3 a4 a5} : Al8 (jlK a0 a1 a2 a3 a4 a5) := ⟨fun z => z⟩
instance al_fmK {a0 a1 a2} : Al8 (fmK a0 a1 a2) := ⟨fun z => z⟩
instance al_bmK {a0 a1 a2 a3} : Al8 (bmK a0 a1 a2 a3) := ⟨fun z => z⟩
instance al_dLend {a0 a1 a2 a3} : Al8 (dLend a0 a1 a2 a3) := ⟨fun z => z⟩
instance al_ldK {a0 a1 a2} : Al8 (ldK a0 a1 a2) := ⟨fun z => z⟩
instance al_dFzS {a0 a1 a2 a3} : Al8 (dFzS a0 a1 a2 a3) := ⟨fun z => z⟩
instance al_dp1K {a0 a1 a2} : Al8 (dp1K a0 a1 a2) := ⟨fun z => z⟩
class Al9 (p : Prop) : Prop where
  go : p → p
instance al_dFrz {a0 a1 a2 a3} : Al9 (dFrz a0 a1 a2 a3) := ⟨fun z => z⟩
class Al10 (p : Prop) : Prop where
  go : p → p
instance al_dAsg {a0 a1 a2 a3} : Al10 (dAsg a0 a1 a2 a3) := ⟨fun z => z⟩
instance al_dNext {a0 a1} : Al10 (dNext a0 a1) := ⟨fun z => z⟩
instance al_dDrop {a0 a1 a2} : Al10 (dDrop a0 a1 a2) := ⟨fun z => z⟩
instance al_dRet {a0 a1 a2} : Al10 (dRet a0 a1 a2) := ⟨fun z => z⟩
instance al_dRetN {a0 a1} : Al10 (dRetN a0 a1) := ⟨fun z => z⟩
instance al_dIfS {a0 a1 a2 a3 a4} : Al10 (dIfS a0 a1 a2 a3 a4) := ⟨fun z => z⟩
instance al_dFor {a0 a1 a2 a3 a4} : Al10 (dFor a0 a1 a2 a3 a4) := ⟨fun z => z⟩
instance al_dBreak {a0 a1} : Al10 (dBreak a0 a1) := ⟨fun z => z⟩
instance al_dCont {a0 a1} : Al10 (dCont a0 a1) := ⟨fun z => z⟩
instance al_dIsX {a0 a1 a2 a3 a4} : Al10 (dIsX a0 a1 a2 a3 a4) := ⟨fun z => z⟩
instance al_dFld {a0 a1 a2 a3 a4 a5} : Al10 (dFld a0 a1 a2 a3 a4 a5) := ⟨fun z => z⟩
instance al_dRaiseF {a0 a1 a2 a3 a4} : Al10 (dRaiseF a0 a1 a2 a3 a4) := ⟨fun z => z⟩
instance al_dTryK {a0 a1 a2 a3 a4 a5} : Al10 (dTryK a0 a1 a2 a3 a4 a5) := ⟨fun z => z⟩
instance al_dUnp {a0 a1 a2 a3 a4} : Al10 (dUnp a0 a1 a2 a3 a4) := ⟨fun z => z⟩
instance al_dC {a0 a1 a2 a3} : Al10 (dC a0 a1 a2 a3) := ⟨fun z => z⟩
instance al_dOp {a0 a1 a2 a3 a4 a5} : Al10 (dOp a0 a1 a2 a3 a4 a5) := ⟨fun z => z⟩
instance al_dNil {a0 a1 a2} : Al10 (dNil a0 a1 a2) := ⟨fun z => z⟩
instance al_dCons {a0 a1 a2 a3 a4} : Al10 (dCons a0 a1 a2 a3 a4) := ⟨fun z => z⟩
instance al_dCB {a0 a1 a2 a3 a4} : Al10 (dCB a0 a1 a2 a3 a4) := ⟨fun z => z⟩
instance al_dLst {a0 a1 a2 a3} : Al10 (dLst a0 a1 a2 a3) := ⟨fun z => z⟩
instance al_dTup {a0 a1 a2 a3} : Al10 (dTup a0 a1 a2 a3) := ⟨fun z => z⟩
instance al_dISeq {a0 a1 a2 a3} : Al10 (dISeq a0 a1 a2 a3) := ⟨fun z => z⟩
instance al_dLc {a0 a1 a2 a3 a4 a5 a6 a7} : Al10 (dLc a0 a1 a2 a3 a4 a5 a6 a7) := ⟨fun z => z⟩
class Al11 (p : Prop) : Prop where
  go : p → p
instance al_dLcX {a0 a1 a2 a3 a4 a5 a6 a7} : Al11 (dLcX a0 a1 a2 a3 a4 a5 a6 a7) := ⟨fun z => z⟩
instance al_dTrue {a0 a1 a2} : Al11 (dTrue a0 a1 a2) := ⟨fun z => z⟩
instance al_dUn {a0 a1 a2 a3 a4} : Al11 (dUn a0 a1 a2 a3 a4) := ⟨fun z => z⟩
instance al_dTst {a0 a1 a2 a3} : Al11 (dTst a0 a1 a2 a3) := ⟨fun z => z⟩
instance al_dAnd {a0 a1 a2 a3 a4} : Al11 (dAnd a0 a1 a2 a3 a4) := ⟨fun z => z⟩
instance al_dOr {a0 a1 a2 a3 a4} : Al11 (dOr a0 a1 a2 a3 a4) := ⟨fun z => z⟩
instance al_dNot {a0 a1 a2 a3} : Al11 (dNot a0 a1 a2 a3) := ⟨fun z => z⟩
instance al_dAndV {a0 a1 a2 a3 a4} : Al11 (dAndV a0 a1 a2 a3 a4) := ⟨fun z => z⟩
instance al_dOrV {a0 a1 a2 a3 a4} : Al11 (dOrV a0 a1 a2 a3 a4) := ⟨fun z => z⟩
instance al_dNotV {a0 a1 a2 a3} : Al11 (dNotV a0 a1 a2 a3) := ⟨fun z => z⟩
instance al_dIf {a0 a1 a2 a3 a4 a5} : Al11 (dIf a0 a1 a2 a3 a4 a5) := ⟨fun z => z⟩
instance al_dChain {a0 a1 a2 a3 a4 a5 a6 a7} : Al11 (dChain a0 a1 a2 a3 a4 a5 a6 a7) := ⟨fun z => z⟩
instance al_isB {a0 a1} : Al11 (isB a0 a1) := ⟨fun z => z⟩
instance al_qSub {a0 a1 a2} : Al11 (qSub a0 a1 a2) := ⟨fun z => z⟩
instance al_qNeg {a0 a1} : Al11 (qNeg a0 a1) := ⟨fun z => z⟩
instance al_qLt {a0 a1 a2} : Al11 (qLt a0 a1 a2) := ⟨fun z => z⟩
instance al_qLe {a0 a1 a2} : Al11 (qLe a0 a1 a2) := ⟨fun z => z⟩
instance al_qGt {a0 a1 a2} : Al11 (qGt a0 a1 a2) := ⟨fun z => z⟩
instance al_qGe {a0 a1 a2} : Al11 (qGe a0 a1 a2) := ⟨fun z => z⟩
instance al_dCall {a0 a1 a2 a3 a4 a5} : Al11 (dCall a0 a1 a2 a3 a4 a5) := ⟨fun z => z⟩
instance al_dCallK {a0 a1 a2 a3 a4 a5 a6} : Al11 (dCallK a0 a1 a2 a3 a4 a5 a6) := ⟨fun z => z⟩
class Al12 (p : Prop) : Prop where
  go : p → p
instance al_dIRng1 {a0 a1 a2 a3} : Al12 (dIRng1 a0 a1 a2 a3) := ⟨fun z => z⟩
instance al_dIRng2 {a0 a1 a2 a3} : Al12 (dIRng2 a0 a1 a2 a3) := ⟨fun z => z⟩
instance al_dCut {a0 a1 a2 a3 a4 a5} : Al12 (dCut a0 a1 a2 a3 a4 a5) := ⟨fun z => z⟩
instance al_dPart {a0 a1 a2 a3} : Al12 (dPart a0 a1 a2 a3) := ⟨fun z => z⟩
instance al_dNoPart {a0 a1 a2} : Al12 (dNoPart a0 a1 a2) := ⟨fun z => z⟩
instance al_dFz {a0 a1 a2 a3} : Al12 (dFz a0 a1 a2 a3) := ⟨fun z => z⟩
instance al_dK {a0 a1 a2 a3} : Al12 (dK a0 a1 a2 a3) := ⟨fun z => z⟩
instance al_dRaise {a0 a1 a2} : Al12 (dRaise a0 a1 a2) := ⟨fun z => z⟩
instance al_dTry {a0 a1 a2 a3 a4} : Al12 (dTry a0 a1 a2 a3 a4) := ⟨fun z => z⟩
instance al_qInt {a0 a1} : Al12 (qInt a0 a1) := ⟨fun z => z⟩
instance al_qIsdigit {a0 a1} : Al12 (qIsdigit a0 a1) := ⟨fun z => z⟩
instance al_qIsalpha {a0 a1} : Al12 (qIsalpha a0 a1) := ⟨fun z => z⟩
instance al_qIsN {a0 a1 a2} : Al12 (qIsN a0 a1 a2) := ⟨fun z => z⟩
instance al_qNotN {a0 a1 a2} : Al12 (qNotN a0 a1 a2) := ⟨fun z => z⟩
instance al_dIStr {a0 a1 a2 a3} : Al12 (dIStr a0 a1 a2 a3) := ⟨fun z => z⟩
instance al_dM1 {a0 a1 a2 a3 a4 a5} : Al12 (dM1 a0 a1 a2 a3 a4 a5) := ⟨fun z => z⟩
instance al_dPut {a0 a1 a2 a3 a4 a5 a6} : Al12 (dPut a0 a1 a2 a3 a4 a5 a6) := ⟨fun z => z⟩
instance al_dLoop {a0 a1 a2 a3 a4} : Al12 (dLoop a0 a1 a2 a3 a4) := ⟨fun z => z⟩
instance al_dLcL {a0 a1 a2 a3 a4 a5 a6 a7} : Al12 (dLcL a0 a1 a2 a3 a4 a5 a6 a7) := ⟨fun z => z⟩
instance al_dLoopW {a0 a1 a2 a3 a4 a5} : Al12 (dLoopW a0 a1 a2 a3 a4 a5) := ⟨fun z => z⟩
instance al_dThenW {a0 a1 a2 a3} : Al12 (dThenW a0 a1 a2 a3) := ⟨fun z => z⟩
class Al13 (p : Prop) : Prop where
  go : p → p
instance al_dForW {a0 a1 a2 a3 a4 a5} : Al13 (dForW a0 a1 a2 a3 a4 a5) := ⟨fun z => z⟩
instance al_mClear {a0 a1 a2 a3} : Al13 (mClear a0 a1 a2 a3) := ⟨fun z => z⟩
instance al_dNewD {a0 a1 a2} : Al13 (dNewD a0 a1 a2) := ⟨fun z => z⟩
instance al_dGet2 {a0 a1 a2 a3 a4 a5} : Al13 (dGet2 a0 a1 a2 a3 a4 a5) := ⟨fun z => z⟩
instance al_dDisp {a0 a1 a2 a3 a4} : Al13 (dDisp a0 a1 a2 a3 a4) := ⟨fun z => z⟩
instance al_dDs {a0 a1 a2 a3} : Al13 (dDs a0 a1 a2 a3) := ⟨fun z => z⟩
instance al_dGNil {a0 a1 a2} : Al13 (dGNil a0 a1 a2) := ⟨fun z => z⟩
instance al_dGCons {a0 a1 a2 a3 a4} : Al13 (dGCons a0 a1 a2 a3 a4) := ⟨fun z => z⟩
instance al_dGSub {a0 a1 a2 a3 a4 a5 a6} : Al13 (dGSub a0 a1 a2 a3 a4 a5 a6) := ⟨fun z => z⟩
instance al_dIZip {a0 a1 a2 a3} : Al13 (dIZip a0 a1 a2 a3) := ⟨fun z => z⟩
instance al_dIZipA {a0 a1 a2 a3} : Al13 (dIZipA a0 a1 a2 a3) := ⟨fun z => z⟩
instance al_dIEZ {a0 a1 a2 a3} : Al13 (dIEZ a0 a1 a2 a3) := ⟨fun z => z⟩
instance al_dLRg1 {a0 a1 a2 a3} : Al13 (dLRg1 a0 a1 a2 a3) := ⟨fun z => z⟩
instance al_dLRg2 {a0 a1 a2 a3 a4} : Al13 (dLRg2 a0 a1 a2 a3 a4) := ⟨fun z => z⟩
instance al_dIEnum {a0 a1 a2 a3} : Al13 (dIEnum a0 a1 a2 a3) := ⟨fun z => z⟩
instance al_dJs {a0 a1 a2 a3} : Al13 (dJs a0 a1 a2 a3) := ⟨fun z => z⟩
instance al_dJl {a0 a1 a2 a3 a4} : Al13 (dJl a0 a1 a2 a3 a4) := ⟨fun z => z⟩
instance al_dFmt {a0 a1 a2 a3} : Al13 (dFmt a0 a1 a2 a3) := ⟨fun z => z⟩
instance al_dBM1 {a0 a1 a2 a3 a4 a5 a6} : Al13 (dBM1 a0 a1 a2 a3 a4 a5 a6) := ⟨fun z => z⟩
instance al_dDisp1 {a0 a1 a2 a3} : Al13 (dDisp1 a0 a1 a2 a3) := ⟨fun z => z⟩
end DL
/-! DL46: list(d.items()). -/
namespace DL
open PySem L2
open Enc (en)
def itsD (ks : List Key) (ch : List D) : List D := (ks.zip ch).map fun kv => .n false .tup [keyE kv.1, kv.2]
def dItemsL (te : DE) : DE := fun ρ Q E => te ρ (fun x ρ1 => ∃ ks ch, look ρ1 x = some (.n true (.dic ks) ch) ∧ isFzL ch = true ∧ Q (.t (.n true .lst (itsD ks ch))) ρ1) E
section
variable {X : Cx} {cn : String → Addr} {E : WX} {e : Expr} {te : DE} {p apos cpos pos : Pos}
end
section
variable {ρ : Env} {te : DE} {Q : Rv → Env → Prop} {E : Exn → Env → Prop} {x : Rv}
def itlK (x : Rv) (ρ : Env) (Q : Rv → Env → Prop) : Prop := ∃ ks ch, look ρ x = some (.n true (.dic ks) ch) ∧ isFzL ch = true ∧ Q (.t (.n true .lst (itsD ks ch))) ρ
instance i_itemsL : St1 (dItemsL te ρ Q E) (te ρ (fun x ρ1 => itlK x ρ1 Q) E) := ⟨fun h => h⟩
end
end DL
/-! DL47: objects that one slot alone holds: their fields, their methods, how they are made. -/
namespace DL
open PySem L2
open Enc (en)
/-! ### fields -/
def putNs : List Str → Str → List Str
  | [], f => [f]
  | g :: ns, f => if g = f then g :: ns else g :: putNs ns f
def putFs {α : Type} : List Str → List α → Str → α → List α
  | [], _, _, y => [y]
  | _ :: _, [], _, _ => []
  | g :: ns, x :: vs, f, y => if g = f then y :: vs else x :: putFs ns vs f y
/-- where a field stands -/
def fldN : List Str → Str → Option Nat
  | [], _ => none
  | g :: ns, f => if g = f then some 0 else (fldN ns f).map (· + 1)
/-- a class whose objects have plain fields -/
structure ClsD (K : PySem.W.Frag) (c : String) : Prop where
  ex : ∃ C, PySem.W.nsIn K mainGlobals c = some (some (.ref C)) ∧ Cls K C
def NoF (K : PySem.W.Frag) (c : String) (f : Str) : Prop := ∃ C, PySem.W.nsIn K mainGlobals c = some (some (.ref C)) ∧ NoAttr K C f
/-! ### x.f = e -/
def mSetF (c : String) (f : Str) : OpM := fun k ch es Q => ∃ ns d, k = .obj c ns ∧ es = [d] ∧ ns.length < 1000 ∧ Q (.obj c (putNs ns f)) (putFs ns ch f d) .non
def rSetF (K : PySem.W.Frag) (f : Str) : V → List V → Hp → VK → Prop := fun x ys H Q => ∃ a C dx fs y, x = .ref a ∧ ys = [y] ∧ H a = some (.ins C dx fs) ∧ Cls K C ∧ NoAttr K C f ∧ fs.length < 1000 ∧ Q .non (L2.upd H a (.ins C dx (putF f y fs)))
section
variable {X : Cx} {cn : String → Addr} {E : WX}
def dSetF (i : Nat) (r : OpM) (te : DE) : DS := fun D ρ => te ρ (fun x ρ1 => (∃ s d, ρ1[i]? = some s ∧ s.d? = some d) ∧ ∃ es ρ2 s k ch, tkL ρ1 [x] = some (es, ρ2) ∧ ρ2[i]? = some s ∧ s.d? = some (.n true k ch) ∧ r k ch es fun k' ch' _ => D.nx ((killB i ρ2).set i (s.re (.n true k' ch')))) D.ex
end
/-! ### reading an own dict of an own object: names alone -/
section
variable {X : Cx} {cn : String → Addr} {E : WX} {K : PySem.W.Frag}
/-- the own dict in a field -/
def ofld (ρ : Env) (i : Nat) (c : String) (f : Str) : Option (Nat × D) := match ρ[i]? with
  | some s => match s.d? with
    | some (.n true (.obj c' ns) ch) => if c' = c then (fldN ns f).bind fun m => (ch[m]?).map fun d => (m, d) else none
    | _ => none
  | none => none
/-- self.f.get(j, k) -/
def dFGet (c : String) (f : Str) (i j k : Nat) : DE := fun ρ Q _ => ∃ m d dj dk o, ofld ρ i c f = some (m, d) ∧ isDic d = true ∧ slD ρ j = some dj ∧ slD ρ k = some dk ∧ dictD d dj = some o ∧ (o.getD dk).isFz = true ∧ Q (.t (o.getD dk)) ρ
/-- an operation on a field and a name -/
def dFOp (c : String) (f : Str) (r : Op2) (i j : Nat) : DE := fun ρ Q _ => ∃ m d dj, ofld ρ i c f = some (m, d) ∧ slD ρ j = some dj ∧ r d dj fun z => Q (.t z) ρ
/-- an operation on a name and a field -/
def dOpF (c : String) (f : Str) (r : Op2) (j i : Nat) : DE := fun ρ Q _ => ∃ m d dj, ofld ρ i c f = some (m, d) ∧ slD ρ j = some dj ∧ r dj d fun z => Q (.t z) ρ
/-! ### self.f[k] = e -/
theorem mutF_go {pv : Nat → V} {σ γ : St} {ρ1 : Env} {G H G1 H1 : Hp} {fp fp1 : Fps} {F1 : List Addr} {Q0 : Rv → Env → Prop} {Q : VK} {r : OpM} {rr : V → List V → Hp → VK → Prop} {rs : List Rv} {vs : List V} {y : V} {j m : Nat} {a0 : Addr} {k0 : Kd} {us0 : List V} (hs : SemM K rr r) (hx : (σ ++ γ)[j]? = some (some (.ref a0))) (hn0 : NdO K H1 a0 k0 us0) (hy0 : us0[m]? = some y)
    (po : PoE K pv σ γ G H fp Q0 Q) (s1 : Stp G H (InF fp) G1 H1 (fun a => InF fp1 a ∨ a ∈ F1)) (m1 : Mt K pv (σ ++ γ) ρ1 G1 H1 fp1) (o1 : RvsOk K (σ ++ γ) G1 H1 (InF fp1) vs rs F1)
    (q : ∃ es ρ2 s root k1 rc k ch, tkL ρ1 rs = some (es, ρ2) ∧ ρ2[j]? = some s ∧ s.d? = some root ∧ root = .n true k1 rc ∧ root.at [m] = some (.n true k ch) ∧ r k ch es fun k' ch' res => Q0 (.t res) ((killB j ρ2).set j (s.re (root.put [m] (.n true k' ch'))))) : rr y vs H1 Q := by
  obtain ⟨es, ρ2, s, root, k1, rc, k, ch, e1, hj, hd, hroot, hat, q⟩ := q
  obtain ⟨G2, fp2, s2, m2, r2, i2⟩ := tkL_ok m1 o1 (fun _ z => z) e1
  obtain ⟨x, h1, h2⟩ := m2.at hj hd
  have hxx : x = .ref a0 := by
    rw [hx] at h1
    exact (Option.some.inj (Option.some.inj h1)).symm
  subst hxx
  have g3 : PathV K H1 (fun b => b ∈ fp2 j) (.ref a0) [m] y := by
    rw [hroot] at h2
    generalize hF : fp2 j = Fj at h2
    cases h2 with
    | @o a _ vs' _ F n0 n1 n2 n3 => exact ⟨a0, k0, us0, y, rfl, by show a0 ∈ a0 :: _; exact List.mem_cons_self .., hn0, hy0, rfl⟩
  have dW : ∀ b ∈ F1, ¬ InF fp2 b := fun b hb z => RvsOk.foot o1 b hb (i2 b z)
  obtain ⟨a, us, Fc, rfl, ha, hg, hn, hac, hrl, hfc, step⟩ := Rp.focus h2 hat g3
  have hai : InF fp2 a := ⟨j, ha⟩
  have hFi : ∀ b ∈ Fc, InF fp2 b := fun b hb => ⟨j, hfc b hb⟩
  refine hs G2 H1 a k us ch Fc vs es F1 _ Q m2.sub hg hn hrl hac r2 (fun b hb => ⟨fun z => dW b hb (hFi b z), fun z => dW b hb (by rw [z]; exact hai)⟩) q ?_
  intro k' ch' res vs' w o' F' Fr q' n' r' rr' d' dr
  have dF' : ∀ b ∈ F', b ≠ a := fun b hb z => by
    rcases d' b hb with y | y
    · exact hac (by rw [← z]; exact y)
    · exact dW b y (by rw [z]; exact hai)
  have r'' : RpL K G2 (L2.upd H1 a o') vs' ch' F' := r'.mov (fun _ _ z => z) _ fun b hb o hg ho => ⟨hg, by rw [upd_ne (dF' b hb)]; exact ho⟩
  obtain ⟨F2, t1, t2, t3, t4, t5⟩ := step (L2.upd H1 a o') k' vs' ch' F' (fun b o _ hne _ ho => by rw [upd_ne hne]; exact ho) n' r'' fun b hb => ⟨dF' b hb, (d' b hb).imp id fun z y => dW b z ⟨j, y⟩⟩
  have dF2 : ∀ b ∈ F2, b ∈ fp2 j ∨ ¬ InF fp2 b := fun b hb => by
    rcases t2 b hb with z | z
    · exact .inl z.1
    · rcases d' b z with y | y
      · exact .inl (hfc b y)
      · exact .inr (dW b y)
  have m3 := m2.mutG (H' := L2.upd H1 a o') (d' := root.put [m] (.n true k' ch')) hj hd h1 (fun b o hb ho => by rw [upd_ne fun z => hb (by rw [z]; exact ha)]; exact ho) t1 dF2
  have dr' : ∀ b ∈ Fr, b ≠ a := fun b hb z => by
    rcases (dr b hb).1 with y | y
    · exact hac (by rw [← z]; exact y)
    · exact dW b y (by rw [z]; exact hai)
  refine po (.t res) _ w G2 (L2.upd H1 a o') _ Fr q' ?_ m3 ⟨rr'.mov (fun _ _ z => z) _ fun b hb o hg ho => ⟨hg, by rw [upd_ne (dr' b hb)]; exact ho⟩, fun b hb z => ?_⟩
  · refine (s1.trans (s2.mono (P' := InF fp2) (Q' := fun a => InF fp2 a ∨ a ∈ F1) (fun _ z => .inl z) fun a z => z.elim .inl fun z => .inr (.inr z))).trans
      ⟨fun _ _ z => z, fun b o z n => by rw [upd_ne fun y => n (by rw [y]; exact .inl hai)]; exact z, fun _ _ _ z _ => z, fun b z => .inl ?_⟩
    rcases z with z | z
    · rcases InF.updF z with z | z
      · exact .inl z
      · rcases t2 b z with y | y
        · exact .inl ⟨j, y.1⟩
        · exact (d' b y).imp (hFi b) id
    · exact (dr b z).1.imp (hFi b) id
  · rcases dr b hb with ⟨y, ny⟩
    obtain ⟨l, hl⟩ := z
    by_cases e : l = j
    · subst e
      rw [updF_same] at hl
      rcases t2 b hl with u | u
      · rcases y with y | y
        · exact u.2 y
        · exact dW b y ⟨l, u.1⟩
      · exact ny u
    · rw [updF_ne e] at hl
      rcases y with y | y
      · exact m2.ap l j e b hl (hfc b y)
      · exact dW b y ⟨l, hl⟩
/-- self.f[k] = e -/
def dFPut (c : String) (f : Str) (r : OpM) (i kk : Nat) (te : DE) : DS := fun D ρ => te ρ (fun x ρ1 => ∃ m d dk, ofld ρ1 i c f = some (m, d) ∧ slD ρ1 kk = some dk ∧
  ∃ es ρ2 s root k1 rc k ch, tkL ρ1 [.s kk, x] = some (es, ρ2) ∧ ρ2[i]? = some s ∧ s.d? = some root ∧ root = .n true k1 rc ∧ root.at [m] = some (.n true k ch) ∧ r k ch es fun k' ch' _ => D.nx ((killB i ρ2).set i (s.re (root.put [m] (.n true k' ch'))))) D.ex
/-! ### self.m(e, ..) -/
def dMeth (c : String) (nm : Str) (ms : List Bool) (s : SpD) (i : Nat) (t : DA) : DE := fun ρ Q E => (∃ s0 ns ch, ρ[i]? = some s0 ∧ s0.d? = some (.n true (.obj c ns) ch) ∧ fldN ns nm = none) ∧ t ρ (fun rs ρ1 => ∃ ds ρ2, argL (true :: ms) ρ1 (.s i :: rs) = some (ds, ρ2) ∧
  s ds (fun res ds' => ∃ ρ3, backL ρ1 (true :: ms) ρ2 (.s i :: rs) ds' = some ρ3 ∧ Q (.t res) ρ3) (fun x ds' => ∃ ρ3, backL ρ1 (true :: ms) ρ2 (.s i :: rs) ds' = some ρ3 ∧ E x ρ3)) E
/-! ### C() -/
def dMake0 (c : String) (s : SpD) : DE := fun ρ Q _ => s [.n true (.obj c []) []] (fun res ds' => res = .p .non ∧ ∃ d, ds' = [d] ∧ Q (.t d) ρ) (fun _ _ => False)
end
end DL
/-! DL48: running lemmas for objects; min of one or two. -/
namespace DL
open PySem L2
open Enc (en)
section
variable {n : Env → Prop} {rt : D → Env → Prop} {bk ct : Env → Prop} {ex : Exn → Env → Prop} {ρ ρ1 ρ2 ρ3 : Env} {Q : Rv → Env → Prop} {E : Exn → Env → Prop} {te : DE} {tA : DA} {d d1 : D} {i j kk m : Nat} {x : Rv} {c : String} {f : Str} {r : OpM} {k : Env → Prop} {s s1 : Sl}
def sfK (i : Nat) (r : OpM) (x : Rv) (ρ1 : Env) (k : Env → Prop) : Prop := (∃ s d, ρ1[i]? = some s ∧ s.d? = some d) ∧ ∃ es ρ2 s kd ch, tkL ρ1 [x] = some (es, ρ2) ∧ ρ2[i]? = some s ∧ s.d? = some (.n true kd ch) ∧ r kd ch es fun k' ch' _ => k ((killB i ρ2).set i (s.re (.n true k' ch')))
instance i_setF : St1 (dSetF i r te ⟨n, rt, bk, ct, ex⟩ ρ) (te ρ (fun x ρ1 => sfK i r x ρ1 n) ex) := ⟨fun h => h⟩
def fpK (c : String) (f : Str) (r : OpM) (i kk : Nat) (x : Rv) (ρ1 : Env) (k : Env → Prop) : Prop := ∃ m d dk, ofld ρ1 i c f = some (m, d) ∧ slD ρ1 kk = some dk ∧
  ∃ es ρ2 s root k1 rc kd ch, tkL ρ1 [.s kk, x] = some (es, ρ2) ∧ ρ2[i]? = some s ∧ s.d? = some root ∧ root = .n true k1 rc ∧ root.at [m] = some (.n true kd ch) ∧ r kd ch es fun k' ch' _ => k ((killB i ρ2).set i (s.re (root.put [m] (.n true k' ch'))))
instance i_fput : St1 (dFPut c f r i kk te ⟨n, rt, bk, ct, ex⟩ ρ) (te ρ (fun x ρ1 => fpK c f r i kk x ρ1 n) ex) := ⟨fun h => h⟩
instance i_make0 {sp : SpD} : St1 (dMake0 c sp ρ Q E) (sp [.n true (.obj c []) []] (fun res ds' => res = .p .non ∧ ∃ d, ds' = [d] ∧ Q (.t d) ρ) (fun _ _ => False)) := ⟨fun h => h⟩
end
/-! ### min of some -/
def leP (a b : Int × Int) : Prop := a.1 ≤ b.1 ∧ (a.1 = b.1 → a.2 ≤ b.2)
end DL
/-! DL49: a walk over an own list that stays its slot's own: the slot is pinned while it is walked. -/
namespace DL
open PySem L2
open Enc (en)
def pvAt (pv : Nat → V) (i : Nat) (x : V) : Nat → V := fun j => if j = i then x else pv j
def unpin (i : Nat) (ρ : Env) : Env := match ρ[i]? with
  | some (.w d) => ρ.set i (.v d)
  | _ => ρ
section
variable {K : PySem.W.Frag} {pv : Nat → V} {σ : St} {ρ : Env} {G H : Hp} {fp : Fps} {i : Nat} {d : D} {x : V}
theorem unpin_w (h : ρ[i]? = some (.w d)) : unpin i ρ = ρ.set i (.v d) := by
  unfold unpin
  rw [h]
theorem set_get {s s' : Sl} {j : Nat} (h : (ρ.set i s)[j]? = some s') : (j = i ∧ s' = s) ∨ (j ≠ i ∧ ρ[j]? = some s') := by
  rw [List.getElem?_set] at h
  by_cases e : i = j
  · rw [if_pos e] at h
    split at h
    · exact .inl ⟨e.symm, (Option.some.inj h).symm⟩
    · cases h
  · rw [if_neg e] at h
    exact .inr ⟨fun z => e z.symm, h⟩
theorem Mt.pin (m : Mt K pv σ ρ G H fp) (h : ρ[i]? = some (.v d)) (hx : σ[i]? = some (some x)) : Mt K (pvAt pv i x) σ (ρ.set i (.w d)) G H fp where
  sub := m.sub
  len := by rw [List.length_set]; exact m.len
  sl := fun j d' e => by
    rcases set_get e with ⟨_, z⟩ | ⟨_, z⟩
    · cases z
    · exact m.sl j d' z
  pn := fun j d' e => by
    unfold pvAt
    rcases set_get e with ⟨rfl, z⟩ | ⟨n, z⟩
    · cases z
      rw [if_pos rfl]
      obtain ⟨y, h1, h2⟩ := m.sl j d h
      rw [hx] at h1
      cases h1
      exact ⟨hx, h2⟩
    · rw [if_neg n]
      exact m.pn j d' z
  br := fun j k q e => by
    rcases set_get e with ⟨_, z⟩ | ⟨_, z⟩
    · cases z
    · exact m.br j k q z
  ap := m.ap
  ft := m.ft
theorem Mt.unpin (m : Mt K (pvAt pv i x) σ ρ G H fp) : Mt K pv σ (DL.unpin i ρ) G H fp := by
  have other : ∀ j, j ≠ i → pvAt pv i x j = pv j := fun j n => if_neg n
  by_cases hw : ∃ d, ρ[i]? = some (.w d)
  · obtain ⟨d, hw⟩ := hw
    rw [unpin_w hw]
    refine ⟨m.sub, by rw [List.length_set]; exact m.len, fun j d' e => ?_, fun j d' e => ?_, fun j k q e => ?_, m.ap, m.ft⟩
    · rcases set_get e with ⟨rfl, z⟩ | ⟨_, z⟩
      · cases z
        obtain ⟨h1, h2⟩ := m.pn j d hw
        exact ⟨_, h1, h2⟩
      · exact m.sl j d' z
    · rcases set_get e with ⟨_, z⟩ | ⟨n, z⟩
      · cases z
      · have := m.pn j d' z
        rw [other j n] at this
        exact this
    · rcases set_get e with ⟨_, z⟩ | ⟨_, z⟩
      · cases z
      · exact m.br j k q z
  · have e : DL.unpin i ρ = ρ := by
      unfold DL.unpin
      split
      · rename_i d hd
        exact absurd ⟨d, hd⟩ hw
      · rfl
    rw [e]
    refine ⟨m.sub, m.len, m.sl, fun j d' z => ?_, m.br, m.ap, m.ft⟩
    by_cases n : j = i
    · subst n
      exact absurd ⟨d', z⟩ hw
    · have := m.pn j d' z
      rw [other j n] at this
      exact this
end
def dLoopL (i : Nat) (ch : List D) (g : DG) (tb : DS) (vs : List Nat) (D : DEnds) : List DL.D → Env → Prop
  | [], ρ => ρ[i]? = some (.w (.n true .lst ch)) ∧ D.nx (ρ.set i (.v (.n true .lst ch)))
  | d :: ds, ρ => ρ[i]? = some (.w (.n true .lst ch)) ∧ g (.t d) ρ fun ρ1 => tb { nx := fun ρ2 => dLoopL i ch g tb vs D ds (wipeD ρ2 vs), ct := fun ρ2 => dLoopL i ch g tb vs D ds (wipeD ρ2 vs), bk := fun ρ2 => D.nx (unpin i (wipeD ρ2 vs)), rt := fun d ρ2 => D.rt d (unpin i ρ2), ex := fun x ρ2 => D.ex x (unpin i ρ2) } ρ1
/-- for x in xs: xs is the slot's own, and stays -/
def dForL (i : Nat) (g : DG) (tb : DS) (vs : List Nat) : DS := fun D ρ => ∃ ch, ρ[i]? = some (.v (.n true .lst ch)) ∧ isFzL ch = true ∧ dLoopL i ch g tb vs D ch (wipeD (ρ.set i (.w (.n true .lst ch))) vs)
section
variable {X : Cx} {cn : String → Addr} {E : WX} {pos : Pos} {tg iter : Expr} {body : List Stmt} {tb : DS} {g : DG} {S vs : List Nat}
end
/-! ### runs -/
section
variable {n : Env → Prop} {rt : D → Env → Prop} {bk ct : Env → Prop} {ex : Exn → Env → Prop} {ρ ρ1 : Env} {i : Nat} {ch : List D} {g : DG} {tb : DS} {vs : List Nat}
end
end DL
/-! DL50: a, b = x, y of plain names (no pair is made); `x in self.f` as a test. -/
namespace DL
open PySem L2
open Enc (en)
def dPar (i j : Nat) (t : DA) : DS := fun D ρ => t ρ (fun rs ρ1 => ∃ d1 d2 ρ2 ρ3 ρ4, tkL ρ1 rs = some ([d1, d2], ρ2) ∧ stV ρ2 i d1 = some ρ3 ∧ stV ρ3 j d2 = some ρ4 ∧ D.nx ρ4) D.ex
section
variable {X : Cx} {cn : String → Addr} {E : WX} {st : Stmt} {t : DA}
end
section
variable {X : Cx} {cn : String → Addr} {E : WX}
end
section
variable {n : Env → Prop} {rt : D → Env → Prop} {bk ct : Env → Prop} {ex : Exn → Env → Prop} {ρ ρ1 ρ2 ρ3 : Env} {tA : DA} {i j : Nat} {d1 d2 : D} {rs : List Rv}
def parK (i j : Nat) (n : Env → Prop) (rs : List Rv) (ρ1 : Env) : Prop := ∃ d1 d2 ρ2 ρ3 ρ4, tkL ρ1 rs = some ([d1, d2], ρ2) ∧ stV ρ2 i d1 = some ρ3 ∧ stV ρ3 j d2 = some ρ4 ∧ n ρ4
instance i_par : St1 (dPar i j tA ⟨n, rt, bk, ct, ex⟩ ρ) (tA ρ (fun rs ρ1 => parK i j n rs ρ1) ex) := ⟨fun h => h⟩
instance i_parK {ρ4 : Env} [a : TkL ρ1 rs [d1, d2] ρ2] [b : StV ρ2 i d1 ρ3] [c : StV ρ3 j d2 ρ4] : St1 (parK i j n rs ρ1) (n ρ4) := ⟨fun h => ⟨d1, d2, ρ2, ρ3, ρ4, a.h, b.h, c.h, h⟩⟩
end
end DL
/-! DL51: x[i][e] = v: the part x[i] is held by a slot more while e is looked at. -/
namespace DL
open PySem L2
open Enc (en)
def bOk (n : Nat) (ρ : Env) : Bool := ρ.all fun | .b j _ => decide (j < n) | _ => true
section
variable {K : PySem.W.Frag} {pv : Nat → V} {σ : St} {ρ : Env} {G H : Hp} {fp : Fps}
theorem bOk_get {n i j : Nat} {q : List Nat} (h : bOk n ρ = true) (e : ρ[i]? = some (.b j q)) : j < n := by
  have := List.all_eq_true.mp h _ (List.mem_of_getElem? e)
  exact of_decide_eq_true this
theorem Mt.trunc {y : Option V} {s : Sl} (m : Mt K pv (σ ++ [y]) (ρ ++ [s]) G H fp) (h : bOk ρ.length ρ = true) : Mt K pv σ ρ G H fp := by
  have hl : ρ.length = σ.length := by
    have := m.len
    rw [List.length_append, List.length_append, List.length_singleton, List.length_singleton] at this
    omega
  have up : ∀ {i : Nat} {t : Sl}, ρ[i]? = some t → (ρ ++ [s])[i]? = some t := fun {i t} e => by
    rw [List.getElem?_append_left (List.getElem?_eq_some_iff.mp e).1]
    exact e
  have dn : ∀ {i : Nat}, i < ρ.length → (σ ++ [y])[i]? = σ[i]? := fun {i} e => List.getElem?_append_left (by omega)
  have lt : ∀ {i : Nat} {t : Sl}, ρ[i]? = some t → i < ρ.length := fun e => (List.getElem?_eq_some_iff.mp e).1
  refine ⟨m.sub, hl, fun i d e => ?_, fun i d e => ?_, fun i j q e => ?_, m.ap, m.ft⟩
  · obtain ⟨x, h1, h2⟩ := m.sl i d (up e)
    rw [dn (lt e)] at h1
    exact ⟨x, h1, h2⟩
  · obtain ⟨h1, h2⟩ := m.pn i d (up e)
    rw [dn (lt e)] at h1
    exact ⟨h1, h2⟩
  · obtain ⟨x, z, h1, h2, h3⟩ := m.br i j q (up e)
    rw [dn (bOk_get h e)] at h1
    rw [dn (lt e)] at h2
    exact ⟨x, z, h1, h2, h3⟩
theorem Mt.push {n : Nat} {q : List Nat} {x y : V} (m : Mt K pv σ ρ G H fp) (hx : σ[n]? = some (some x)) (hp : PathV K H (fun a => a ∈ fp n) x q y) : Mt K pv (σ ++ [some y]) (ρ ++ [.b n q]) G H fp := by
  have hl := m.len
  have cut : ∀ {i : Nat} {t : Sl}, (ρ ++ [.b n q])[i]? = some t → ρ[i]? = some t ∨ (i = ρ.length ∧ t = .b n q) := fun {i t} e => by
    by_cases c : i < ρ.length
    · rw [List.getElem?_append_left c] at e
      exact .inl e
    · rw [List.getElem?_append_right (by omega)] at e
      by_cases c2 : i - ρ.length = 0
      · rw [c2] at e
        exact .inr ⟨by omega, (Option.some.inj e).symm⟩
      · rw [List.getElem?_eq_none (by rw [List.length_singleton]; omega)] at e
        cases e
  have up : ∀ {i : Nat} {z : Option V}, σ[i]? = some z → (σ ++ [some y])[i]? = some z := fun {i z} e => by
    rw [List.getElem?_append_left (List.getElem?_eq_some_iff.mp e).1]
    exact e
  refine ⟨m.sub, by rw [List.length_append, List.length_append, hl]; rfl, fun i d e => ?_, fun i d e => ?_, fun i j p e => ?_, m.ap, m.ft⟩
  · rcases cut e with e | ⟨_, e⟩
    · obtain ⟨x, h1, h2⟩ := m.sl i d e
      exact ⟨x, up h1, h2⟩
    · cases e
  · rcases cut e with e | ⟨_, e⟩
    · obtain ⟨h1, h2⟩ := m.pn i d e
      exact ⟨up h1, h2⟩
    · cases e
  · rcases cut e with e | ⟨hi, e⟩
    · obtain ⟨x, z, h1, h2, h3⟩ := m.br i j p e
      exact ⟨x, z, up h1, up h2, h3⟩
    · cases e
      refine ⟨x, y, up hx, ?_, hp⟩
      rw [List.getElem?_append_right (by omega), hi, hl, Nat.sub_self]
      rfl
end
section
variable {X : Cx} {cn : String → Addr} {E : WX}
def dPut2E (n i : Nat) (r : OpM) (tk te : DE) : DS := fun D ρ => te ρ (fun x ρ1 => ∃ a s0 rc m k0 ch0, ρ1[i]? = some (.v (.p (.int a))) ∧ ρ1[n]? = some s0 ∧ s0.d? = some (.n true .lst rc) ∧ ixN rc.length a = some m ∧ rc[m]? = some (.n true k0 ch0) ∧
  tk (ρ1 ++ [.b n [m]]) (fun xk ρ2 => ρ2[ρ1.length]? = some (.b n [m]) ∧ ∃ es ρ3 s root rc' k ch, tkL ρ2 [xk, x] = some (es, ρ3) ∧ ρ3[n]? = some s ∧ s.d? = some root ∧ root = .n true .lst rc' ∧ root.at [m] = some (.n true k ch) ∧
    r k ch es fun k' ch' _ => ∃ ρ4 s4, (killB n ρ3).set n (s.re (root.put [m] (.n true k' ch'))) = ρ4 ++ [s4] ∧ bOk ρ4.length ρ4 = true ∧ D.nx ρ4) (fun _ _ => False)) D.ex
/-! ### runs -/
def p2F (n m L : Nat) (r : OpM) (x xk : Rv) (ρ2 : Env) (nx : Env → Prop) : Prop := ρ2[L]? = some (.b n [m]) ∧ ∃ es ρ3 s root rc' k ch, tkL ρ2 [xk, x] = some (es, ρ3) ∧ ρ3[n]? = some s ∧ s.d? = some root ∧ root = .n true .lst rc' ∧ root.at [m] = some (.n true k ch) ∧
    r k ch es fun k' ch' _ => ∃ ρ4 s4, (killB n ρ3).set n (s.re (root.put [m] (.n true k' ch'))) = ρ4 ++ [s4] ∧ bOk ρ4.length ρ4 = true ∧ nx ρ4
def p2E (n i : Nat) (r : OpM) (tk : DE) (x : Rv) (ρ1 : Env) (nx : Env → Prop) : Prop := ∃ a s0 rc m k0 ch0, ρ1[i]? = some (.v (.p (.int a))) ∧ ρ1[n]? = some s0 ∧ s0.d? = some (.n true .lst rc) ∧ ixN rc.length a = some m ∧ rc[m]? = some (.n true k0 ch0) ∧
  tk (ρ1 ++ [.b n [m]]) (fun xk ρ2 => p2F n m ρ1.length r x xk ρ2 nx) (fun _ _ => False)
instance i_put2E {n i : Nat} {r : OpM} {te tk : DE} {ρ : Env} {nx : Env → Prop} {rt : D → Env → Prop} {bk ct : Env → Prop} {ex : Exn → Env → Prop} : St1 (dPut2E n i r tk te ⟨nx, rt, bk, ct, ex⟩ ρ) (te ρ (fun x ρ1 => p2E n i r tk x ρ1 nx) ex) := ⟨fun h => h⟩
theorem ixN_nat {l a : Nat} (h : a < l) : ixN l (a : Int) = some a := by
  unfold ixN
  rw [if_pos (by omega), if_pos (by omega)]
  rfl
end
/-! ### a test that only reads -/
def dLendT (tt : DT) : DT := fun ρ Q _ => tt (frzE ρ) (fun b _ => Q b ρ) (fun _ _ => False)
section
variable {X : Cx} {cn : String → Addr} {E : WX} {e : Expr} {tt : DT}
end
end DL
/-! DL52: f(a, ..), the last parameters by their defaults. -/
namespace DL
open PySem L2
def dApC (dvs : List V) (t : DA) : DA := fun ρ Q E => t ρ (fun rs ρ1 => Q (rs ++ dvs.map fun v => .t (.p v)) ρ1) E
section
variable {K : PySem.W.Frag} {σ : St} {G H : Hp}
end
section
variable {X : Cx} {cn : String → Addr} {E : WX} {k : Nat} {f : Addr} {fd : FuncData} {ps : List Str} {s : SpD} {x : Str} {p pos : Pos} {e : Expr} {es : List Expr} {t : DA} {ms : List Bool} {dvs : List V}
end
section
variable {QA : List Rv → Env → Prop} {E : Exn → Env → Prop} {ρ : Env} {t : DA} {dvs : List V}
instance i_apC : St1 (dApC dvs t ρ QA E) (t ρ (fun rs ρ1 => QA (rs ++ dvs.map fun v => .t (.p v)) ρ1) E) := ⟨fun h => h⟩
end
end DL
/-! DL53: sum, max with a default, len(set(xs)) of whole numbers. -/
namespace DL
open PySem L2
open Enc (en)
/-! ### sum -/
def qSum : OpL := fun ds Q => ∃ d ch ns, ds = [d] ∧ listOf d = some ch ∧ intsOf ch = some ns ∧ Q (.p (.int ns.sum))
/-! ### max(xs, default=d) -/
def maxZ (e : Int) : List Int → Int
  | [] => e
  | n :: r => r.foldl max n
def rMaxDf (K : PySem.W.Frag) : List V → List V → Hp → VK → Prop := fun vs zs H Q => ∃ a ns d, vs = [.ref a] ∧ zs = [.int d] ∧ SqL K H a (ns.map V.int) ∧ Q (.int (maxZ d ns)) H
section
variable {X : Cx}
/-- max(xs, default=0) -/
def rMax0 (K : PySem.W.Frag) : List V → Hp → VK → Prop := fun vs H Q => rMaxDf K vs [.int 0] H Q
def qMax0 : OpL := fun ds Q => ∃ d ch ns, ds = [d] ∧ listOf d = some ch ∧ intsOf ch = some ns ∧ Q (.p (.int (maxZ 0 ns)))
end
/-! ### len(set(xs)) -/
def nubI (ns : List Int) : List Int := PyProof.Rows.firstMet (fun i => ns.getD i 0) ns.length
section
open PyProof.Rows
end
section
open PySem.Spec PyProof.Rows
variable {X : Cx} {cn : String → Addr} {E : WX}
def tLenSetJ (K : PySem.W.Frag) (ta : TE) : TE := fun σ H Q => ta σ H fun x H1 => ∃ (l : Addr) (ns : List Int), x = .ref l ∧ SqL K H1 l (ns.map V.int) ∧ ns.length ≤ 4000 ∧ Q (.int ((nubI ns).length : Nat)) H1
def dLenSet (ta : DE) : DE := fun ρ Q E => ta ρ (fun x ρ1 => ∃ d ch ns, look ρ1 x = some d ∧ listOf d = some ch ∧ intsOf ch = some ns ∧ ns.length ≤ 4000 ∧ Q (.t (.p (.int ((nubI ns).length : Nat)))) ρ1) E
end
section
variable {ρ : Env} {ta : DE} {Q : Rv → Env → Prop} {E : Exn → Env → Prop} {x : Rv}
def lsK (x : Rv) (ρ : Env) (Q : Rv → Env → Prop) : Prop := ∃ d ch ns, look ρ x = some d ∧ listOf d = some ch ∧ intsOf ch = some ns ∧ ns.length ≤ 4000 ∧ Q (.t (.p (.int ((nubI ns).length : Nat)))) ρ
end
end DL
/-! DL54: setdefault of a dict whose keys are tuples; a dict whose keys may be either. -/
namespace DL
open PySem L2
open Enc (en)
section
open PySem.Spec PyProof.Rows
variable {X : Cx} {pins : List (Addr × Obj)} {σ : L2.St} {H : Hp} {s : Shared} {a b : Addr} {r : Value} {d : V} {k : List Key} {A : Around} {E : Value → Shared → Prop}
end
def rSetdT : V → List V → Hp → VK → Prop := fun x vs H Q => ∃ (a : Addr) (kvs : List (List Key × V)) (k : List Key) (b : Addr) (z : V), x = .ref a ∧ vs = [.ref b, z] ∧ H a = some (.dT kvs) ∧ H b = some (.tup (k.map kV)) ∧ kvs.length < sizeLine ∧ (∀ v, valV kvs k = some v → Q v H) ∧ (valV kvs k = none → Q z (L2.upd H a (.dT (putK kvs k z))))
def rSetd2 : V → List V → Hp → VK → Prop := fun x vs H Q => rSetd x vs H Q ∨ rSetdT x vs H Q
def mSetdT : OpM := fun k ch es Q => ∃ ks kc d x, k = .dit ks ∧ es = [.n false .tup kc, d] ∧ d.isFz = true ∧ ch.length < 100000 ∧ keysD kc = some x ∧ match lookK ks ch x with
  | some c => c.isFz = true ∧ Q (.dit ks) ch c
  | none => Q (.dit (ks ++ [x])) (ch ++ [d]) d
def mSetd2 : OpM := fun k ch es Q => mSetd k ch es Q ∨ mSetdT k ch es Q
section
open PySem.Spec PyProof.Rows
variable {X : Cx} {cn : String → Addr} {E : WX} {apos cpos pos : Pos}
def tDSetd2 (td ty tx : TE) : TE := fun σ H Q => td σ H fun x H1 => ∃ a, x = .ref a ∧ IsD H1 a ∧ ty σ H1 fun y H2 => tx σ H2 fun z H3 => rSetd2 (.ref a) [y, z] H3 Q
/-- an empty dict, its keys of either kind -/
def dNewX : DE := fun ρ Q E => dNewD ρ Q E ∨ dNewT ρ Q E
end
section
variable {κ β : Type} {i0 : DecidableEq κ} {i1 : Enc κ} {i3 : Enc β} {kv : List (κ × β)} {a : κ} {b : β} {K : Kd → List D → D → Prop}
end
/-! ### len of a dict, its keys of either kind -/
def rLen2 (K : PySem.W.Frag) : List V → Hp → VK → Prop := fun xs H Q => rLenD K xs H Q ∨ rLenT xs H Q
def qLen2 : OpL := fun ds Q => qLen ds Q ∨ ∃ o ks ch, ds = [.n o (.dit ks) ch] ∧ Q (.p (.int (ks.length : Nat)))
end DL
/-! DL55: a, b, c = x, y, z of plain names. -/
namespace DL
open PySem L2
open Enc (en)
def dPar3 (i j l : Nat) (t : DA) : DS := fun D ρ => t ρ (fun rs ρ1 => ∃ d1 d2 d3 ρ2 ρ3 ρ4 ρ5, tkL ρ1 rs = some ([d1, d2, d3], ρ2) ∧ stV ρ2 i d1 = some ρ3 ∧ stV ρ3 j d2 = some ρ4 ∧ stV ρ4 l d3 = some ρ5 ∧ D.nx ρ5) D.ex
section
variable {X : Cx} {cn : String → Addr} {E : WX} {st : Stmt} {t : DA}
end
section
variable {n : Env → Prop} {rt : D → Env → Prop} {bk ct : Env → Prop} {ex : Exn → Env → Prop} {ρ ρ1 ρ2 ρ3 ρ4 : Env} {tA : DA} {i j l : Nat} {d1 d2 d3 : D} {rs : List Rv}
def parK3 (i j l : Nat) (n : Env → Prop) (rs : List Rv) (ρ1 : Env) : Prop := ∃ d1 d2 d3 ρ2 ρ3 ρ4 ρ5, tkL ρ1 rs = some ([d1, d2, d3], ρ2) ∧ stV ρ2 i d1 = some ρ3 ∧ stV ρ3 j d2 = some ρ4 ∧ stV ρ4 l d3 = some ρ5 ∧ n ρ5
instance i_par3 : St1 (dPar3 i j l tA ⟨n, rt, bk, ct, ex⟩ ρ) (tA ρ (fun rs ρ1 => parK3 i j l n rs ρ1) ex) := ⟨fun h => h⟩
instance i_parK3 {ρ5 : Env} [a : TkL ρ1 rs [d1, d2, d3] ρ2] [b : StV ρ2 i d1 ρ3] [c : StV ρ3 j d2 ρ4] [e : StV ρ4 l d3 ρ5] : St1 (parK3 i j l n rs ρ1) (n ρ5) := ⟨fun h => ⟨d1, d2, d3, ρ2, ρ3, ρ4, ρ5, a.h, b.h, c.h, e.h, h⟩⟩
end
end DL
/-! DL56: xs.count(y) of plain data. -/
namespace DL
open PySem L2
open Enc (en)
section
open PySem.Spec PyProof.Rows
variable {X : Cx}
def rCntP (K : PySem.W.Frag) : V → List V → Hp → VK → Prop := fun x xs H Q => ∃ (p : Addr) (vs : List V) (y : V) (ds : List PyData) (d : PyData), x = .ref p ∧ xs = [y] ∧ SqL K H p vs ∧ DpAll K H vs ds ∧ Dp K H y d ∧ (PyData.plainAll ds = true ∧ d.plain = true) ∧ d.depth ≤ 60 ∧ Q (.int ((ds.countP fun z => PyData.eqv z d) : Nat)) H
end
def qCount : Op2 := fun d e Q => ∃ ch, listOf d = some ch ∧ (PyData.plainAll (toPyL ch) = true ∧ (toPy e).plain = true) ∧ (toPy e).depth ≤ 60 ∧ Q (.p (.int (((toPyL ch).countP fun z => PyData.eqv z (toPy e)) : Nat)))
section
variable {α : Type} {inst : Enc α}
end
end DL
/-! DL57: a walk over a list that is the slot's own, the items too: each is, while it is looked at, known as the list's part; x[i] taken out of a slot that is forgotten. -/
namespace DL
open PySem L2
open Enc (en)
/-- r items are left of n -/
def dLoopB (i j n : Nat) (tb : DS) (vs : List Nat) (D : DEnds) : Nat → Env → Prop
  | 0, ρ => (∃ ch, ρ[i]? = some (.w (.n true .lst ch)) ∧ ch.length = n) ∧ D.nx ρ
  | r + 1, ρ => ∃ ch kd cc, ρ[i]? = some (.w (.n true .lst ch)) ∧ ch.length = n ∧ ch[n - (r + 1)]? = some (.n true kd cc) ∧ okV ρ j = true ∧
    tb { nx := fun ρ2 => dLoopB i j n tb vs D r (wipeD ρ2 vs), ct := fun ρ2 => dLoopB i j n tb vs D r (wipeD ρ2 vs), bk := fun ρ2 => D.nx (wipeD ρ2 vs), rt := D.rt, ex := D.ex } ((killB j ρ).set j (.b i [n - (r + 1)]))
/-- for x in xs: xs is handed in and handed back, x is a part of it -/
def dForB (i j : Nat) (tb : DS) (vs : List Nat) : DS := fun D ρ => ∃ ch, ρ[i]? = some (.w (.n true .lst ch)) ∧ dLoopB i j ch.length tb vs D ch.length (wipeD ρ vs)
section
variable {X : Cx} {cn : String → Addr} {E : WX} {pos : Pos} {tg iter : Expr} {body : List Stmt} {tb : DS} {vs : List Nat}
end
/-! ### x[i], the slot being forgotten -/
def dIxM (j : Nat) (i : Int) : DE := fun ρ Q _ => ∃ o k ch d, ρ[j]? = some (.v (.n o k ch)) ∧ (k = .lst ∨ k = .tup) ∧ L2.atI ch i = some d ∧ Q (.t d) ((killB j ρ).set j .un)
section
variable {X : Cx} {cn : String → Addr} {E : WX} {a : Expr}
end
/-! ### runs -/
section
variable {n : Env → Prop} {rt : D → Env → Prop} {bk ct : Env → Prop} {ex : Exn → Env → Prop} {ρ ρ1 : Env} {i j : Nat} {ch : List D} {tb : DS} {vs : List Nat} {Q : Rv → Env → Prop} {E : Exn → Env → Prop}
end
end DL
/-! DL58: != of lists of two, the second of each a dict with nothing in it. -/
namespace DL
open PySem L2
open Enc (en)
/-- the same, or lists of two, the second of each a dict with nothing in it -/
def qNeX : Op2 := fun d e Q => ((okD d = true ∧ okD e = true) ∧ Q (.bl (!eqD d e))) ∨ ∃ o o' u u' a b, d = .n o .lst [a, .n u (.dic []) []] ∧ e = .n o' .lst [b, .n u' (.dic []) []] ∧ okD a = true ∧ okD b = true ∧ Q (.bl (!eqD a b))
def rNeX (K : PySem.W.Frag) : R2 := fun x y H Q => rNeP K x y H Q ∨ ∃ p p' v v' c c' d e, x = .ref p ∧ y = .ref p' ∧ H p = some (.lst [v, .ref c]) ∧ H p' = some (.lst [v', .ref c']) ∧ Rd H c (.dK []) ∧ Rd H c' (.dK []) ∧ Dp K H v d ∧ Dp K H v' e ∧ Pl d ∧ Pl e ∧ Q (.bl (!PyData.eqv d e)) H
section
variable {X : Cx}
end
theorem eqD_refl {d : D} (h : okD d = true) : eqD d d = true := by
  unfold okD at h
  rw [Bool.and_eq_true] at h
  exact SeqAt.eqv_refl_plain _ h.1
end DL
/-! DL59: x is True, x is not True; x in a dict whose keys are tuples, as a test. -/
namespace DL
open PySem L2
open Enc (en)
def qIsB : Op2 := fun d e Q => ∃ a b, d = .p (.bl a) ∧ e = .p (.bl b) ∧ Q (.bl (decide (a = b)))
def qNotB : Op2 := fun d e Q => ∃ a b, d = .p (.bl a) ∧ e = .p (.bl b) ∧ Q (.bl (!decide (a = b)))
end DL
/-! DL60: list(zip(a, b)) of two lists as a value. -/
namespace ZL
open PySem PySem.W PySem.Calls PyProof.Rows PyProof.V PySem.Spec
theorem nolen : typeLookup (.type "zip") "__len__" = pure none := by rw [typeLookup_type, builtinLookup_eq_fast]; kernel_rfl
theorem nohint : typeLookup (.type "zip") "__length_hint__" = pure none := by rw [typeLookup_type, builtinLookup_eq_fast]; kernel_rfl
/-- the zip object ahead of its turn i; S: the list that is being filled -/
def St (z TI TO i1 i2 l1 l2 S : Addr) (xs ys : Array Value) (i : Nat) (h : Heap) : Prop :=
  IsPair h TI (.ref i1) (.ref i2) ∧ h.IsListIter i1 l1 i ∧ h.IsListIter i2 l2 i ∧ h.IsList l1 xs ∧ h.IsList l2 ys ∧
  ((IsZip h z TI TO .none ∧ ∃ a b, IsPair h TO a b) ∨ ∃ T f oT, IsZipHeld h z TI TO T f ∧ h.get? T = some oT ∧ T ≠ z ∧ T ≠ i1 ∧ T ≠ i2 ∧ T ≠ S)
section
variable {z TI TO i1 i2 l1 l2 S : Addr} {xs ys : Array Value}
theorem St.keep {i : Nat} {h h' : Heap} (n : z < S ∧ TI < S ∧ TO < S ∧ i1 < S ∧ i2 < S ∧ l1 < S ∧ l2 < S) (st : St z TI TO i1 i2 l1 l2 S xs ys i h) (hk : ∀ b o, b ≠ S → h.get? b = some o → h'.get? b = some o) : St z TI TO i1 i2 l1 l2 S xs ys i h' := by
  obtain ⟨dz, dTI, dTO, di1, di2, dl1, dl2⟩ := n
  obtain ⟨hTI, h1, h2, hl1, hl2, hz⟩ := st
  refine ⟨hk _ _ (Nat.ne_of_lt dTI) hTI, h1.at fun o e => hk _ o (Nat.ne_of_lt di1) e, h2.at fun o e => hk _ o (Nat.ne_of_lt di2) e, hl1.at fun o e => hk _ o (Nat.ne_of_lt dl1) e, hl2.at fun o e => hk _ o (Nat.ne_of_lt dl2) e, ?_⟩
  rcases hz with ⟨hz, a, b, hTO⟩ | ⟨T, f, oT, hz, hT, r1, r2, r3, r4⟩
  · exact .inl ⟨hk _ _ (Nat.ne_of_lt dz) hz, a, b, hk _ _ (Nat.ne_of_lt dTO) hTO⟩
  · exact .inr ⟨T, f, oT, hk _ _ (Nat.ne_of_lt dz) hz, hk _ _ r4 hT, r1, r2, r3, r4⟩
variable {prog : Program} {w : World} {A : Around} {E : Value → Shared → Prop} {s : Shared}
theorem type_of {i : Nat} {s : Shared} (st : St z TI TO i1 i2 l1 l2 S xs ys i s.heap) : s.TypeIs (.ref z) "zip" := by
  obtain ⟨-, -, -, -, -, ⟨hz, -⟩ | ⟨T, f, oT, hz, -⟩⟩ := st
  · exact ⟨_, hz, rfl⟩
  · exact ⟨_, hz, rfl⟩
theorem item {i : Nat} {x y : Value} {Q : Option Value → Shared → Prop} (D : ZipApart z TI TO i1 i2 l1 l2) (st : St z TI TO i1 i2 l1 l2 S xs ys i s.heap) (hS : S < s.heap.objs.size) (ex : xs[i]? = some x) (ey : ys[i]? = some y)
    (hQ : ∀ h', St z TI TO i1 i2 l1 l2 S xs ys (i + 1) h' → IsPair h' s.heap.objs.size x y → (∀ c o, c ≠ z → c ≠ TO → c ≠ i1 → c ≠ i2 → s.heap.get? c = some o → h'.get? c = some o) → Q (some (.ref s.heap.objs.size)) { s with heap := h' }) :
    wpAny (model prog w) A (pyNext (.ref z)) Q E s := by
  obtain ⟨hTI, h1, h2, hl1, hl2, hz⟩ := st
  have lt : ∀ {c o}, s.heap.get? c = some o → s.heap.objs.size ≠ c := fun e => Nat.ne_of_gt (Heap.lt_size e)
  have n1 : s.heap.objs.size ≠ i1 := let ⟨_, e, _⟩ := h1; lt e
  have n2 : s.heap.objs.size ≠ i2 := let ⟨_, e, _⟩ := h2; lt e
  rcases hz with ⟨hz, a, b, hTO⟩ | ⟨T, f, oT, hz, hT, r1, r2, r3, r4⟩
  · refine wpAny_pyNext_zip_item D hz hTI hTO h1 h2 hl1 hl2 ex ey fun h' a1 a2 a3 a4 a5 a6 hk => ?_
    exact hQ h' ⟨hk _ _ D.TIz D.TITO D.TIi1 D.TIi2 hTI, a3, a4, hl1.at fun o e => hk _ o D.l1z D.l1TO D.l1i1 D.l1i2 e, hl2.at fun o e => hk _ o D.l2z D.l2TO D.l2i1 D.l2i2 e,
      .inr ⟨s.heap.objs.size, false, _, a1, a5, lt hz, n1, n2, Nat.ne_of_gt hS⟩⟩ a5 fun c o q1 q2 q3 q4 e => hk c o q1 q2 q3 q4 e
  · refine wpAny_pyNext_zip_item_held D hz hT hTI h1 h2 hl1 hl2 ex ey fun h' a1 a3 a4 a5 a6 hk => ?_
    exact hQ h' ⟨hk _ _ D.TIz D.TIi1 D.TIi2 hTI, a3, a4, hl1.at fun o e => hk _ o D.l1z D.l1i1 D.l1i2 e, hl2.at fun o e => hk _ o D.l2z D.l2i1 D.l2i2 e,
      .inr ⟨T, true, oT, a1, hk _ _ r1 r2 r3 hT, r1, r2, r3, r4⟩⟩ a5 fun c o q1 q2 q3 q4 e => hk c o q1 q3 q4 e
theorem fin_ {i : Nat} {Q : Option Value → Shared → Prop} (hh : A.handled = none) (D : ZipApart z TI TO i1 i2 l1 l2) (st : St z TI TO i1 i2 l1 l2 S xs ys i s.heap) (hend : xs[i]? = none ∨ ys[i]? = none)
    (hQ : ∀ h', (∀ c o, c ≠ z → c ≠ TO → c ≠ i1 → c ≠ i2 → s.heap.get? c = some o → h'.get? c = some o) → Q none { s with heap := h' }) : wpAny (model prog w) A (pyNext (.ref z)) Q E s := by
  obtain ⟨hTI, h1, h2, hl1, hl2, hz⟩ := st
  rcases hz with ⟨hz, a, b, hTO⟩ | ⟨T, f, oT, hz, hT, r1, r2, r3, r4⟩
  · exact wpAny_pyNext_zip_end hh D hz hTI hTO h1 h2 hl1 hl2 hend fun h' hk => hQ h' fun c o q1 q2 q3 q4 e => hk c o q1 q2 q3 q4 e
  · exact wpAny_pyNext_zip_end_held hh D hz hT hTI h1 h2 hl1 hl2 hend fun h' hk => hQ h' fun c o q1 q2 q3 q4 e => hk c o q1 q3 q4 e
/-- the tuples made so far -/
structure Made (S : Addr) (xs ys : Array Value) (h : Heap) (as : List Addr) : Prop where
  rise : as.Pairwise (· < ·)
  above : ∀ a ∈ as, S < a
  pairs : ∀ (j : Nat) (a : Addr), as[j]? = some a → ∃ x y, xs[j]? = some x ∧ ys[j]? = some y ∧ IsPair h a x y
theorem Made.there {h : Heap} {as : List Addr} (g : Made S xs ys h as) {a : Addr} (ha : a ∈ as) : a < h.objs.size := by
  obtain ⟨j, hj⟩ := List.getElem?_of_mem ha
  obtain ⟨x, y, -, -, e⟩ := g.pairs j a hj
  exact Heap.lt_size e
variable {R : Result → Shared → Prop}
theorem loop (hh : A.handled = none) (D : ZipApart z TI TO i1 i2 l1 l2) (n : z < S ∧ TI < S ∧ TO < S ∧ i1 < S ∧ i2 < S ∧ l1 < S ∧ l2 < S) (hn : min xs.size ys.size ≤ sizeLine) (res : Value) {h₁ : Heap}
    (hR : ∀ h' tk acc c as, (∀ b o, b ≠ S → b ≠ z → b ≠ TO → b ≠ i1 → b ≠ i2 → h₁.get? b = some o → h'.get? b = some o) → h'.get? S = some { cls := .type "list", dict := none, data := .seq acc c, slots := #[] } → as.length = min xs.size ys.size → Made S xs ys h' as →
      acc.toList = as.map Value.ref → R (.ok (.ret res)) { s with heap := h', toks := tk }) :
    ∀ (k i : Nat) (h : Heap) (tk c : Nat) (acc : Array Value) (as : List Addr), min xs.size ys.size - i = k → i ≤ min xs.size ys.size → St z TI TO i1 i2 l1 l2 S xs ys i h → (∀ b o, b ≠ S → b ≠ z → b ≠ TO → b ≠ i1 → b ≠ i2 → h₁.get? b = some o → h.get? b = some o) →
      h.get? S = some { cls := .type "list", dict := none, data := .seq acc c, slots := #[] } → acc.toList = as.map Value.ref → as.length = i → Made S xs ys h as →
      codeAny (model prog w) A (.builtin "list.extend.loop" ⟨[.ref S, .ref z, res], []⟩) R { s with heap := h, toks := tk } := by
  obtain ⟨dz, dTI, dTO, di1, di2, dl1, dl2⟩ := id n
  intro k
  induction k with
  | zero =>
    intro i h tk c acc as hk hi hst hkeep hS hacc hal hG
    refine codeAny_builtin PySem.F.entry_extend_loop ?_
    rw [Around.under_plainId PySem.F.plain_extend_loop _]
    show wpAny _ A.in1 (pyNext (.ref z) >>= _) _ _ _
    have hend : xs[i]? = none ∨ ys[i]? = none := by
      rcases Nat.le_total xs.size ys.size with q | q
      · exact .inl (Array.getElem?_eq_none (by omega))
      · exact .inr (Array.getElem?_eq_none (by omega))
    refine wpAny_bind (fin_ (s := { s with heap := h, toks := tk }) (A := A.in1) hh D hst hend fun h' he => ?_)
    refine wpAny_pure (hR h' tk acc c as (fun b o q0 q1 q2 q3 q4 e => he b o q1 q2 q3 q4 (hkeep b o q0 q1 q2 q3 q4 e)) (he S _ (Nat.ne_of_gt dz) (Nat.ne_of_gt dTO) (Nat.ne_of_gt di1) (Nat.ne_of_gt di2) hS) (by omega) ⟨hG.rise, hG.above, fun j a hj => ?_⟩ hacc)
    obtain ⟨x, y, e1, e2, e3⟩ := hG.pairs j a hj
    have := hG.above a (List.mem_of_getElem? hj)
    exact ⟨x, y, e1, e2, he a _ (Nat.ne_of_gt (Nat.lt_trans dz this)) (Nat.ne_of_gt (Nat.lt_trans dTO this)) (Nat.ne_of_gt (Nat.lt_trans di1 this)) (Nat.ne_of_gt (Nat.lt_trans di2 this)) e3⟩
  | succ k ih =>
    intro i h tk c acc as hk hi hst hkeep hS hacc hal hG
    have hlt : i < min xs.size ys.size := by omega
    have hsz : acc.size = i := by rw [← Array.length_toList, hacc, List.length_map, hal]
    have ex := Array.getElem?_eq_getElem (xs := xs) (i := i) (by omega)
    have ey := Array.getElem?_eq_getElem (xs := ys) (i := i) (by omega)
    have hSl : S < h.objs.size := Heap.lt_size hS
    refine codeAny_builtin PySem.F.entry_extend_loop ?_
    rw [Around.under_plainId PySem.F.plain_extend_loop _]
    show wpAny _ A.in1 (pyNext (.ref z) >>= _) _ _ _
    refine wpAny_bind (item (s := { s with heap := h, toks := tk }) D hst hSl ex ey fun h' hst' ht hkp => ?_)
    dsimp only at ht hkp ⊢
    have hS' := hkp S _ (Nat.ne_of_gt dz) (Nat.ne_of_gt dTO) (Nat.ne_of_gt di1) (Nat.ne_of_gt di2) hS
    have up : ∀ b o, b ≠ S → h'.get? b = some o → (h'.update S (Obj.mapSeq (·.push (Value.ref h.objs.size)))).get? b = some o := fun b o hb e => (Heap.get?_update_other _ _ (Ne.symm hb)).trans e
    show wpAny _ A.in1 (updateSeq S (·.push (Value.ref h.objs.size)) >>= _) _ _ _
    refine wpAny_bind ?_
    refine wpAny_updateSeq hS' rfl (wpAny_pure ⟨plainId_quiet PySem.F.plain_extend_loop _, ih (i + 1) _ tk _ (acc.push (Value.ref h.objs.size)) (as ++ [h.objs.size]) (by omega) hlt (hst'.keep n up)
      (fun b o q0 q1 q2 q3 q4 e => up b o q0 (hkp b o q1 q2 q3 q4 (hkeep b o q0 q1 q2 q3 q4 e))) (Heap.get?_update_self _ hS' rfl) (by rw [Array.toList_push, hacc, List.map_append]; rfl) (by rw [List.length_append, hal]; rfl) ⟨?_, ?_, ?_⟩⟩) (by rw [hsz]; omega) (by show (acc.push (Value.ref h.objs.size)).size ≤ sizeLine + 1; rw [Array.size_push, hsz]; omega)
    · refine List.pairwise_append.mpr ⟨hG.rise, List.pairwise_singleton _ _, fun a ha b hb => ?_⟩
      rw [List.mem_singleton.mp hb]
      exact hG.there ha
    · intro a ha
      rcases List.mem_append.mp ha with ha | ha
      · exact hG.above a ha
      · rw [List.mem_singleton.mp ha]; exact hSl
    · intro j b hj
      rcases Nat.lt_trichotomy j as.length with q | q | q
      · rw [List.getElem?_append_left q] at hj
        obtain ⟨x, y, e1, e2, e3⟩ := hG.pairs j b hj
        have hb := hG.above b (List.mem_of_getElem? hj)
        exact ⟨x, y, e1, e2, up b _ (Nat.ne_of_gt hb) (hkp b _ (Nat.ne_of_gt (Nat.lt_trans dz hb)) (Nat.ne_of_gt (Nat.lt_trans dTO hb)) (Nat.ne_of_gt (Nat.lt_trans di1 hb)) (Nat.ne_of_gt (Nat.lt_trans di2 hb)) e3)⟩
      · subst q
        have hb : h.objs.size = b := by simpa using hj
        subst hb
        exact ⟨_, _, by rw [hal]; exact ex, by rw [hal]; exact ey, up _ _ (Nat.ne_of_gt hSl) ht⟩
      · have hnone : (as ++ [h.objs.size])[j]? = none := List.getElem?_eq_none (by rw [List.length_append, List.length_singleton]; omega)
        rw [hnone] at hj; cases hj
theorem extend (hh : A.handled = none) (D : ZipApart z TI TO i1 i2 l1 l2) (n : z < S ∧ TI < S ∧ TO < S ∧ i1 < S ∧ i2 < S ∧ l1 < S ∧ l2 < S) (hn : min xs.size ys.size ≤ sizeLine) (res : Value) (c₀ : Nat) (st : St z TI TO i1 i2 l1 l2 S xs ys 0 s.heap)
    (hz : IsZip s.heap z TI TO .none) (hS : s.heap.get? S = some { cls := .type "list", data := .seq #[] c₀ })
    (hR : ∀ h' tk acc c as, (∀ b o, b ≠ S → b ≠ z → b ≠ TO → b ≠ i1 → b ≠ i2 → s.heap.get? b = some o → h'.get? b = some o) → h'.get? S = some { cls := .type "list", dict := none, data := .seq acc c, slots := #[] } → as.length = min xs.size ys.size → Made S xs ys h' as →
      acc.toList = as.map Value.ref → R (.ok (.ret res)) { s with heap := h', toks := tk }) :
    wpAny (model prog w) A.in1 (Builtin.List.listExtendWith (.ref S) (.ref z) res)
      (fun fin s' => match fin with | .done f => R (.ok f) s' | .again c' => c'.quiet = true ∧ codeAny (model prog w) A c' R s') (fun e s' => R (.error e) s') s := by
  have hSI : S ≠ z := Nat.ne_of_gt n.1
  have hT := type_of st
  unfold Builtin.List.listExtendWith
  refine wpAny_bind (wpAny_typeOf hT ?_)
  have h1 : Builtin.List.listSameRef (.ref S) (.ref z) = false := by simp [Builtin.List.listSameRef, hSI]
  have h2 : (Value.type "zip" == Value.type "list") = false := by decide
  have h3 : (Value.type "zip" == Value.type "tuple") = false := by decide
  simp only [h1, h2, h3, Bool.or_false, Bool.false_eq_true, if_false]
  refine wpAny_bind (wpAny_pyIter_zip hz ?_)
  refine wpAny_bind (wpAny_holding ?_)
  unfold Builtin.List.listLengthHint
  refine wpAny_bind (wpAny_specialOf hT nolen ?_)
  show wpAny _ A.in1 (specialOf (Value.ref z) (Str.ofString "__length_hint__") >>= _) _ _ _
  refine wpAny_bind (wpAny_specialOf hT nohint ?_)
  refine wpAny_pure ?_
  show wpAny _ A.in1 (rule "list.extend.makes-room" >>= fun _ => Builtin.List.listTouch (.ref S) >>= fun _ =>
    again (.builtin "list.extend.loop" ⟨[.ref S, .ref z, res], []⟩)) _ _ _
  refine wpAny_bind (wpAny_rule ?_)
  refine wpAny_bind ?_
  show wpAny _ A.in1 (updateSeq S (·.push .none) >>= fun _ => updateSeq S (·.pop)) _ _ _
  refine wpAny_bind (wpAny_updateSeq hS rfl ?_)
  have hS₂ := Heap.get?_update_self (Obj.mapSeq (·.push Value.none)) hS rfl
  refine wpAny_updateSeq (hz := by seq_fits) hS₂ rfl ?_
  have hS₃ := Heap.get?_update_self (Obj.mapSeq (·.pop)) hS₂ rfl
  have oth : ∀ b o, b ≠ S → s.heap.get? b = some o → ((s.heap.update S (Obj.mapSeq (·.push Value.none))).update S (Obj.mapSeq (·.pop))).get? b = some o :=
    fun b o hb e => (Heap.get?_update_other _ _ (Ne.symm hb)).trans ((Heap.get?_update_other _ _ (Ne.symm hb)).trans e)
  exact wpAny_pure ⟨plainId_quiet PySem.F.plain_extend_loop _, loop hh D n hn res hR _ 0 _ s.toks _ _ [] rfl (Nat.zero_le _) (st.keep n oth) (fun b o q0 _ _ _ _ e => oth b o q0 e) hS₃ rfl rfl ⟨List.Pairwise.nil, (fun _ h => nomatch h), fun j a h => by simp at h⟩⟩
theorem init (hh : A.handled = none) (D : ZipApart z TI TO i1 i2 l1 l2) (n : z < S ∧ TI < S ∧ TO < S ∧ i1 < S ∧ i2 < S ∧ l1 < S ∧ l2 < S) (hn : min xs.size ys.size ≤ sizeLine) (st : St z TI TO i1 i2 l1 l2 S xs ys 0 s.heap)
    (hz : IsZip s.heap z TI TO .none) (hS : s.heap.get? S = some { cls := .type "list", data := .seq #[] })
    (hR : ∀ h' tk acc c as, (∀ b o, b ≠ S → b ≠ z → b ≠ TO → b ≠ i1 → b ≠ i2 → s.heap.get? b = some o → h'.get? b = some o) → h'.get? S = some { cls := .type "list", dict := none, data := .seq acc c, slots := #[] } → as.length = min xs.size ys.size → Made S xs ys h' as →
      acc.toList = as.map Value.ref → R (.ok (.ret .none)) { s with heap := h', toks := tk }) :
    wpAny (model prog w) A.in1 (Builtin.«list.__init__» ⟨[.ref S, .ref z], []⟩)
      (fun fin s' => match fin with | .done f => R (.ok f) s' | .again c' => c'.quiet = true ∧ codeAny (model prog w) A c' R s') (fun e s' => R (.error e) s') s := by
  show wpAny _ A.in1 (do let old ← Builtin.List.listItems (.ref S); Builtin.List.listUpdate (.ref S) (fun _ => #[]); letGo old.toList.reverse; Builtin.List.listExtendWith (.ref S) (.ref z) .none) _ _ s
  refine wpAny_bind ?_
  unfold Builtin.List.listItems
  refine wpAny_bind (wpAny_seqItems hS rfl (wpAny_pure ?_))
  show wpAny _ A.in1 (updateSeq S (fun _ => #[]) >>= fun _ => letGo (#[] : Array Value).toList.reverse >>= fun _ => Builtin.List.listExtendWith (.ref S) (.ref z) .none) _ _ s
  refine wpAny_bind (wpAny_updateSeq hS rfl ?_)
  have hS₂ := Heap.get?_update_self (Obj.mapSeq (fun _ => (#[] : Array Value))) hS rfl
  have oth : ∀ b o, b ≠ S → s.heap.get? b = some o → (s.heap.update S (Obj.mapSeq (fun _ => (#[] : Array Value)))).get? b = some o :=
    fun b o hb e => (Heap.get?_update_other _ _ (Ne.symm hb)).trans e
  refine wpAny_bind (wpAny_letGo ?_)
  exact extend hh D n hn .none _ (st.keep n oth) (oth _ _ (Nat.ne_of_lt n.1) hz) hS₂ fun h' tk acc c as hk hS' hl hG hacc => hR h' tk acc c as (fun b o q0 q1 q2 q3 q4 e => hk b o q0 q1 q2 q3 q4 (oth b o q0 e)) hS' hl hG hacc
end
section
variable {z TI TO i1 i2 l1 l2 : Addr} {xs ys : Array Value} {prog : Program} {w : World} {A : Around} {E : Value → Shared → Prop} {s : Shared}
theorem call {Q : Value → Shared → Prop} (hh : A.handled = none) (D : ZipApart z TI TO i1 i2 l1 l2) (hn : min xs.size ys.size ≤ sizeLine) (hz : IsZip s.heap z TI TO .none) (hTI : IsPair s.heap TI (.ref i1) (.ref i2)) (hTO : ∃ a b, IsPair s.heap TO a b)
    (h1 : s.heap.IsListIter i1 l1 0) (h2 : s.heap.IsListIter i2 l2 0) (hl1 : s.heap.IsList l1 xs) (hl2 : s.heap.IsList l2 ys)
    (hQ : ∀ h' tk acc c as, (∀ b o, b ≠ z → b ≠ TO → b ≠ i1 → b ≠ i2 → s.heap.get? b = some o → h'.get? b = some o) → h'.get? s.heap.objs.size = some { cls := .type "list", dict := none, data := .seq acc c, slots := #[] } → as.length = min xs.size ys.size →
      Made s.heap.objs.size xs ys h' as → acc.toList = as.map Value.ref → Q (.ref s.heap.objs.size) { s with heap := h', toks := tk }) :
    wpAny (model prog w) A (PySem.call (.type "list") [.ref z]) Q E s := by
  have n : z < s.heap.objs.size ∧ TI < s.heap.objs.size ∧ TO < s.heap.objs.size ∧ i1 < s.heap.objs.size ∧ i2 < s.heap.objs.size ∧ l1 < s.heap.objs.size ∧ l2 < s.heap.objs.size :=
    ⟨Heap.lt_size hz, Heap.lt_size hTI, (let ⟨_, _, e⟩ := hTO; Heap.lt_size e), (let ⟨_, e, _⟩ := h1; Heap.lt_size e), (let ⟨_, e, _⟩ := h2; Heap.lt_size e), (let ⟨_, e, _⟩ := hl1; Heap.lt_size e), (let ⟨_, e, _⟩ := hl2; Heap.lt_size e)⟩
  refine callType_codes (Q₁ := fun obj s₁ => obj = .ref s.heap.objs.size ∧ s₁ = { s with heap := s.heap.push { cls := .type "list", data := .seq #[] } }) PySem.F.called_list (PySem.F.typeCall_list_1 _) PySem.F.entry_list_init
    (code_list_new _ ⟨rfl, rfl⟩) fun obj s₁ h₁ => ?_
  obtain ⟨rfl, rfl⟩ := h₁
  have hS : (s.heap.push { cls := .type "list", data := .seq #[] }).get? s.heap.objs.size = some { cls := .type "list", data := .seq #[] } := Heap.get?_push_size _ rfl
  have up : ∀ b o, s.heap.get? b = some o → (s.heap.push { cls := .type "list", data := .seq #[] }).get? b = some o := fun b o e => Heap.get?_push_of_some _ e
  have st : St z TI TO i1 i2 l1 l2 s.heap.objs.size xs ys 0 s.heap := ⟨hTI, h1, h2, hl1, hl2, .inl ⟨hz, hTO⟩⟩
  refine ⟨⟨_, hS, rfl⟩, PySem.F.args_list_init_2 _ _, init (A := A.in1) hh D n hn (st.keep n fun b o _ e => up b o e) (up _ _ hz) hS fun h' tk acc c as hk hS' hl hG hacc => ?_⟩
  exact ⟨rfl, hQ h' tk acc c as (fun b o q1 q2 q3 q4 e => hk b o (Nat.ne_of_lt (Heap.lt_size e)) q1 q2 q3 q4 (up b o e)) hS' hl hG hacc⟩
end
end ZL
namespace L2
open PySem PySem.W PySem.Calls PyProof.Rows PyProof.V PySem.Spec
variable {X : Cx} {e e2 : Expr} {ta : TA} {p pos p' pos' : Pos}
def ZipPost (X : Cx) (pins : List (Addr × Obj)) (σ : St) (R : Addr → Addr → List V → List V → Hp → Prop) (v : Value) (s : Shared) : Prop :=
  ∃ (z TI TO i1 i2 a b : Addr) (its its2 : List Value) (xs ys : List V) (H1 : Hp), v = .ref z ∧ ZipApart z TI TO i1 i2 a b ∧ IsZip s.heap z TI TO .none ∧ IsPair s.heap TI (.ref i1) (.ref i2) ∧ (∃ x y, IsPair s.heap TO x y) ∧ s.heap.IsListIter i1 a 0 ∧ s.heap.IsListIter i2 b 0 ∧
    s.heap.IsList a its.toArray ∧ s.heap.IsList b its2.toArray ∧ Vals xs its ∧ Vals ys its2 ∧ xs.length ≤ sizeLine ∧ Inv X pins σ H1 s ∧ (∀ c ∈ [z, TO, i1, i2], FpOk X pins H1 c) ∧ R a b xs ys H1
/-- the new pairs -/
def PairsAt (H1 H2 : Hp) (as : List Addr) (xs ys : List V) : Prop := as.length = min xs.length ys.length ∧ ∀ (j : Nat) (c : Addr), as[j]? = some c → H1 c = none ∧ ∃ x y, xs[j]? = some x ∧ ys[j]? = some y ∧ H2 c = some (.tup [x, y])
def tLstZip (K : PySem.W.Frag) (ta : TA) : TE := fun σ H Q => ta σ H fun vs H1 => ∃ a b xs ys, vs = [.ref a, .ref b] ∧ SqL K H1 a xs ∧ SqL K H1 b ys ∧
  ∀ H2 as q, (∀ c o, H1 c = some o → H2 c = some o) → PairsAt H1 H2 as xs ys → H1 q = none → H2 q = some (.lst (as.map V.ref)) → Q (.ref q) H2
end L2
namespace DL
open PySem L2
open Enc (en)
def dLZip (t : DA) : DE := fun ρ Q E => t ρ (fun rs ρ1 => ∃ d e ρ2 ch ch', tkFL ρ1 rs = some ([d, e], ρ2) ∧ listOf d = some ch ∧ listOf e = some ch' ∧ Q (.t (.own (zipL ch ch'))) ρ2) E
section
variable {X : Cx} {cn : String → Addr} {E : WX} {a b : Expr} {t : DA} {p pos p' pos' : Pos}
open Classical in
end
section
variable {ρ : Env} {t : DA} {Q : Rv → Env → Prop} {E : Exn → Env → Prop}
/-- the pairs as a new list -/
def lzK (xs : List Rv) (ρ : Env) (Q : Rv → Env → Prop) : Prop := ∃ d e ρ2 ch ch', tkFL ρ xs = some ([d, e], ρ2) ∧ listOf d = some ch ∧ listOf e = some ch' ∧ Q (.t (.own (zipL ch ch'))) ρ2
end
end DL
/-! DL61: e.f, a field of an object (own or shared) that is itself shared, as a value. -/
namespace DL
open PySem L2
open Enc (en)
/-- the field of an object -/
def fldD (c : String) (f : Str) : D → Option D
  | .n _ (.obj c' ns) ch => if c' = c then (fldN ns f).bind fun m => ch[m]? else none
  | _ => none
def dOF (c : String) (f : Str) (te : DE) : DE := fun ρ Q E => te ρ (fun x ρ1 => ∃ d0 d, look ρ1 x = some d0 ∧ fldD c f d0 = some d ∧ d.isFz = true ∧ Q (.t d) ρ1) E
section
variable {X : Cx} {cn : String → Addr} {E : WX} {o : Expr} {te : DE} {c : String} {f : Str} {pos : Pos}
end
section
variable {ρ : Env} {te : DE} {c : String} {f : Str} {Q : Rv → Env → Prop} {E : Exn → Env → Prop}
def ofK (c : String) (f : Str) (x : Rv) (ρ : Env) (Q : Rv → Env → Prop) : Prop := ∃ d0 d, look ρ x = some d0 ∧ fldD c f d0 = some d ∧ d.isFz = true ∧ Q (.t d) ρ
end
end DL
/-! DL62: e.m(e1, ..), a method of a shared object. -/
namespace DL
open PySem L2
open Enc (en)
def isObjD (c : String) (nm : Str) : D → Bool
  | .n _ (.obj c' ns) _ => decide (c' = c) && (fldN ns nm).isNone
  | _ => false
def dMethF (c : String) (nm : Str) (ms : List Bool) (s : SpD) (te : DE) (t : DA) : DE := fun ρ Q E => te ρ (fun x ρ0 => (∃ d, look ρ0 x = some d ∧ isObjD c nm d = true) ∧ t ρ0 (fun rs ρ1 => ∃ ds ρ2, argL (false :: ms) ρ1 (x :: rs) = some (ds, ρ2) ∧
  s ds (fun res ds' => ∃ ρ3, backL ρ1 (false :: ms) ρ2 (x :: rs) ds' = some ρ3 ∧ Q (.t res) ρ3) (fun u ds' => ∃ ρ3, backL ρ1 (false :: ms) ρ2 (x :: rs) ds' = some ρ3 ∧ E u ρ3)) E) E
section
variable {X : Cx} {cn : String → Addr} {E : WX}
end
section
variable {ρ : Env} {te : DE} {t : DA} {c : String} {nm : Str} {ms : List Bool} {s : SpD} {Q : Rv → Env → Prop} {E : Exn → Env → Prop}
/-- the object is looked at, then the arguments -/
def mfK (c : String) (nm : Str) (ms : List Bool) (s : SpD) (x : Rv) (ρ0 : Env) (t : DA) (Q : Rv → Env → Prop) (E : Exn → Env → Prop) : Prop := (∃ d, look ρ0 x = some d ∧ isObjD c nm d = true) ∧ t ρ0 (fun rs ρ1 => caK (false :: ms) (x :: rs) ρ1 fun ds ρ2 => s ds (fun res ds' => baK ρ1 (false :: ms) ρ2 (x :: rs) ds' fun ρ3 => Q (.t res) ρ3) (fun u ds' => baK ρ1 (false :: ms) ρ2 (x :: rs) ds' fun ρ3 => E u ρ3)) E
end
end DL
/-! DL63: C(e1, ..), the arguments shared. -/
namespace DL
open PySem L2
open Enc (en)
section
variable {X : Cx} {cn : String → Addr} {E : WX}
def dMakeF (c : String) (s : SpD) (t : DA) : DE := fun ρ Q E => t ρ (fun rs ρ1 => ∃ ds ρ2, tkFL ρ1 rs = some (ds, ρ2) ∧ s (.n true (.obj c []) [] :: ds) (fun res ds' => res = .p .non ∧ ∃ d dr, ds' = d :: dr ∧ isFzL dr = true ∧ Q (.t d) ρ2) (fun _ _ => False)) E
end
section
variable {ρ : Env} {t : DA} {c : String} {s : SpD} {Q : Rv → Env → Prop} {E : Exn → Env → Prop}
def mkFK (c : String) (s : SpD) (rs : List Rv) (ρ1 : Env) (Q : Rv → Env → Prop) : Prop := ∃ ds ρ2, tkFL ρ1 rs = some (ds, ρ2) ∧ s (.n true (.obj c []) [] :: ds) (fun res ds' => res = .p .non ∧ ∃ d dr, ds' = d :: dr ∧ isFzL dr = true ∧ Q (.t d) ρ2) (fun _ _ => False)
end
end DL
/-! DL64: abs(i); x.f.pop(), a method without arguments of an own part of an own object. -/
namespace DL
open PySem L2
open Enc (en)
def qAbs : OpL := fun ds Q => ∃ i : Int, ds = [.p (.int i)] ∧ Q (.p (.int (if i < 0 then -i else i)))
section
variable {X : Cx} {cn : String → Addr} {E : WX} {e : Expr} {c : String} {f : Str} {T : String}
def dMutF0 (c : String) (f : Str) (T : String) (i : Nat) (r : OpM) : DE := fun ρ Q E => ∃ m d, ofld ρ i c f = some (m, d) ∧ tyM d = T ∧ (T = "list" ∨ T = "dict") ∧
  ∃ s root k1 rc k ch, ρ[i]? = some s ∧ s.d? = some root ∧ root = .n true k1 rc ∧ root.at [m] = some (.n true k ch) ∧ r k ch [] fun k' ch' res => Q (.t res) ((killB i ρ).set i (s.re (root.put [m] (.n true k' ch'))))
end
end DL
/-! DL65: x.m() of an own object; x.f.append((x.g, x.h)). -/
namespace DL
open PySem L2
open Enc (en)
section
variable {X : Cx} {cn : String → Addr} {E : WX}
/-- x.f.append((x.g, x.h)), x own, x.f own, x.g and x.h shared -/
def dPushF (c : String) (f g h : Str) (i : Nat) : DE := fun ρ Q E => ∃ m d mg dg mh dh, ofld ρ i c f = some (m, d) ∧ ofld ρ i c g = some (mg, dg) ∧ ofld ρ i c h = some (mh, dh) ∧ dg.isFz = true ∧ dh.isFz = true ∧
  ∃ s root k1 rc ch, ρ[i]? = some s ∧ s.d? = some root ∧ root = .n true k1 rc ∧ root.at [m] = some (.n true .lst ch) ∧ d = .n true .lst ch ∧ ch.length < 100000 ∧ Q (.t (.p .non)) ((killB i ρ).set i (s.re (root.put [m] (.n true .lst (ch ++ [.n false .tup [dg, dh]])))))
end
end DL
/-! DL66: C(e1, ..) and C(), the last parameters by their defaults. -/
namespace DL
open PySem L2
open Enc (en)
section
variable {X : Cx} {cn : String → Addr} {E : WX}
def dMakeFD (c : String) (dvs : List V) (s : SpD) (t : DA) : DE := fun ρ Q E => t ρ (fun rs ρ1 => ∃ ds ρ2, tkFL ρ1 rs = some (ds, ρ2) ∧ s (.n true (.obj c []) [] :: (ds ++ dvs.map D.p)) (fun res ds' => res = .p .non ∧ ∃ d dr, ds' = d :: dr ∧ isFzL dr = true ∧ Q (.t d) ρ2) (fun _ _ => False)) E
def dMake0D (c : String) (dvs : List V) (s : SpD) : DE := fun ρ Q _ => s (.n true (.obj c []) [] :: dvs.map D.p) (fun res ds' => res = .p .non ∧ ∃ d dr, ds' = d :: dr ∧ isFzL dr = true ∧ Q (.t d) ρ) (fun _ _ => False)
end
section
variable {ρ : Env} {t : DA} {c : String} {dvs : List V} {s : SpD} {Q : Rv → Env → Prop} {E : Exn → Env → Prop}
def mkDK (c : String) (dvs : List V) (s : SpD) (rs : List Rv) (ρ1 : Env) (Q : Rv → Env → Prop) : Prop := ∃ ds ρ2, tkFL ρ1 rs = some (ds, ρ2) ∧ s (.n true (.obj c []) [] :: (ds ++ dvs.map D.p)) (fun res ds' => res = .p .non ∧ ∃ d dr, ds' = d :: dr ∧ isFzL dr = true ∧ Q (.t d) ρ2) (fun _ _ => False)
end
end DL
/-! DL67: e.m(e1, ..), e a new own list or dict that is forgotten behind it. -/
namespace DL
open PySem L2
open Enc (en)
section
variable {X : Cx} {cn : String → Addr} {E : WX} {e : Expr} {T : String}
def dMutT (T : String) (r : OpM) (te : DE) (t : DA) : DE := fun ρ Q E => te ρ (fun x ρ1 => (∃ k ch, x = .t (.n true k ch) ∧ tyM (.n true k ch) = T ∧ (T = "list" ∨ T = "dict")) ∧ t ρ1 (fun rs ρ2 => ∃ k ch es ρ3, x = .t (.n true k ch) ∧ tkL ρ2 rs = some (es, ρ3) ∧ r k ch es fun _ _ res => res.isFz = true ∧ Q (.t res) ρ3) E) E
end
end DL
/-! DL68: x.m(e1, ..), the last parameters by their defaults. -/
namespace DL
open PySem L2
open Enc (en)
section
variable {X : Cx} {cn : String → Addr} {E : WX}
end
end DL
/-! DL69: x["s"][k] = e, an own dict (or list) in an own dict. -/
namespace DL
open PySem L2
open Enc (en)
def keyN : List Key → Key → Option Nat
  | [], _ => none
  | g :: ks, f => if g = f then some 0 else (keyN ks f).map (· + 1)
section
variable {X : Cx} {cn : String → Addr} {E : WX}
def dPutK (n : Nat) (key : Str) (r : OpM) (kk : Nat) (te : DE) : DS := fun D ρ => te ρ (fun x ρ1 => ∃ s0 ks rc m dk, ρ1[n]? = some s0 ∧ s0.d? = some (.n true (.dic ks) rc) ∧ keyN ks (.inr key) = some m ∧ slD ρ1 kk = some dk ∧
  ∃ es ρ2 s root k1 rc k ch, tkL ρ1 [.s kk, x] = some (es, ρ2) ∧ ρ2[n]? = some s ∧ s.d? = some root ∧ root = .n true k1 rc ∧ root.at [m] = some (.n true k ch) ∧ r k ch es fun k' ch' _ => D.nx ((killB n ρ2).set n (s.re (root.put [m] (.n true k' ch'))))) D.ex
end
end DL
/-! DL70: min of things that are ordered data. -/
namespace DL
open PySem L2 PyProof.Rows PySem.W
open Enc (en)
section
variable {α : Type} [DecidableEq α] [DatumOrd α]
end
end DL
/-! DL71: range with a step of -1; max of three whole numbers. -/
namespace DL
open PySem L2
open Enc (en)
def rngD (hi : Int) (n : Nat) : List D := (List.range n).map fun i => D.p (.int (hi - (i : Nat)))
def dIRngD (t : DA) : DI := fun ρ Q E => t ρ (fun rs ρ1 => ∃ i j : Int, lookL ρ1 rs = some [.p (.int i), .p (.int j), .p (.int (-1))] ∧ (-(2 ^ 62) ≤ i ∧ i < 2 ^ 62 ∧ -(2 ^ 62) ≤ j ∧ j < 2 ^ 62) ∧ Q (rngD i (i - j).toNat) ρ1) E
section
variable {K : PySem.W.Frag} {X : Cx} {cn : String → Addr} {E : WX} {tg iter : Expr} {t : DA} {G : Hp}
end
def qMax3 : OpL := fun ds Q => ∃ i j k : Int, ds = [.p (.int i), .p (.int j), .p (.int k)] ∧ Q (.int (max (max i j) k))
section
variable {X : Cx}
end
section
variable {ρ ρ1 : Env} {QI : List D → Env → Prop} {E : Exn → Env → Prop} {tA : DA} {xs : List Rv}
def rgDK (xs : List Rv) (ρ : Env) (k : List D → Env → Prop) : Prop := ∃ i j : Int, lookL ρ xs = some [.p (.int i), .p (.int j), .p (.int (-1))] ∧ (-(2 ^ 62) ≤ i ∧ i < 2 ^ 62 ∧ -(2 ^ 62) ≤ j ∧ j < 2 ^ 62) ∧ k (rngD i (i - j).toNat) ρ
end
end DL
/-! DL72: len(set(xs)) of texts, however many. -/
namespace DL
open PySem PySem.Spec
/-- each thing once, as they come -/
def nubS {α : Type} [DecidableEq α] : List α → List α → List α
  | acc, [] => acc
  | acc, x :: r => if x ∈ acc then nubS acc r else nubS (acc ++ [x]) r
def nubT {α : Type} [DecidableEq α] (xs : List α) : List α := nubS [] xs
section
variable {α : Type} [DecidableEq α]
end
section
variable {P : Program} {w : World} {A : Around} {R : Result → Shared → Prop} {it : Addr} {fp wr : List Addr} {G : Array GenState → Array GenState → Prop} {n : Nat} {V1 : Nat → Value → Prop} {St : Nat → Shared → Prop}
/-- the set of the texts met so far -/
def SetTx (P : Program) (w : World) (h : Heap) (S : Addr) (ys : List Str) : Prop := h.SetOf (PySem.strKind P w) S (fun u => decide (u ∈ nubT ys)) (nubT ys).length
theorem SetTx.old {h h' : Heap} {S : Addr} {ys : List Str} (q : SetTx P w h S ys) (k : ∀ o, h.get? S = some o → h'.get? S = some o) : SetTx P w h' S ys := by
  obtain ⟨o, a, b, c, e, more⟩ := q
  exact ⟨o, a, b, c, k o e, more⟩
end
section
variable {P : Program} {w : World} {A : Around} {E : Value → Shared → Prop} {s : Shared}
abbrev set0 (led : Bool) : Obj := { cls := .type "set", dict := none, data := .set #[] 0 (.fresh 0 0 led) }
end
section
open L2 PyProof.Rows
open Enc (en)
variable {X : Cx} {cn : String → Addr} {E : WX}
def tLenTx (K : PySem.W.Frag) (ta : TE) : TE := fun σ H Q => ta σ H fun x H1 => ∃ (l : Addr) (xs : List Str), x = .ref l ∧ SqL K H1 l (xs.map V.str) ∧ xs.length ≤ 4000 ∧ Q (.int ((nubT xs).length : Nat)) H1
def dLenTx (ta : DE) : DE := fun ρ Q E => ta ρ (fun x ρ1 => ∃ (d : D) (xs : List Str), look ρ1 x = some d ∧ listOf d = some (xs.map en) ∧ xs.length ≤ 4000 ∧ Q (.t (.p (.int ((nubT xs).length : Nat)))) ρ1) E
end
section
open Enc (en)
variable {ρ : Env} {ta : DE} {Q : Rv → Env → Prop} {E : Exn → Env → Prop} {x : Rv}
def ltxK (x : Rv) (ρ : Env) (Q : Rv → Env → Prop) : Prop := ∃ (d : D) (xs : List Str), look ρ x = some d ∧ listOf d = some (xs.map en) ∧ xs.length ≤ 4000 ∧ Q (.t (.p (.int ((nubT xs).length : Nat)))) ρ
end
end DL
/-! DL73: a dict's keys walked: the dict is locked meanwhile. -/
namespace DL
open PySem L2
open Enc (en)

/-! ### a world in which one dict is locked -/
structure Chg (K : PySem.W.Frag) (G H G' H' : Hp) : Prop where
  nd : ∀ b k vs, NdF K G b k vs → NdF K G' b k vs
  xd : ∀ b vs, G b = some (.xd vs) → G' b = some (.xd vs)
  no : ∀ b, G b = none → G' b = none
  ow : ∀ b o, G b = none → H b = some o → H' b = some o
section
variable {K : PySem.W.Frag} {G H G' H' : Hp}
mutual
theorem Rp.chg (c : Chg K G H G' H') : ∀ {v : V} (d : D) {F : List Addr}, Rp K G H v d F → Rp K G' H' v d F
  | _, .p v, _, h => by
    cases h
    exact Rp.p _
  | _, .n ow k ch, _, h => by
    cases h with
    | f h1 h2 => exact Rp.f (c.nd _ _ _ h1) (RpL.chg c ch h2)
    | o h0 h1 h3 h2 => exact Rp.o (c.no _ h0) (h1.keep fun o ho => c.ow _ o h0 ho) h3 (RpL.chg c ch h2)
theorem RpL.chg (c : Chg K G H G' H') : ∀ {vs : List V} (ds : List D) {F : List Addr}, RpL K G H vs ds F → RpL K G' H' vs ds F
  | _, [], _, h => by
    cases h
    exact RpL.nil
  | _, d :: ds, _, h => by
    cases h with
    | cons h1 h2 h3 => exact RpL.cons (Rp.chg c d h1) (RpL.chg c ds h2) h3
end
theorem Mt.chg {pv : Nat → V} {σ : St} {ρ : Env} {fp : Fps} (m : Mt K pv σ ρ G H fp) (c : Chg K G H G' H') (s : Sub G' H') : Mt K pv σ ρ G' H' fp where
  sub := s
  len := m.len
  sl := fun i d e => by
    obtain ⟨x, h1, h2⟩ := m.sl i d e
    exact ⟨x, h1, h2.chg c⟩
  pn := fun i d e => by
    obtain ⟨h1, h2⟩ := m.pn i d e
    exact ⟨h1, h2.chg c⟩
  br := fun i j q e => by
    obtain ⟨x, y, h1, h2, h3⟩ := m.br i j q e
    exact ⟨x, y, h1, h2, h3.mono (fun a o z => c.ow a o (m.ft j a z).1) fun _ z => z⟩
  ap := m.ap
  ft := fun i a ha => ⟨c.no a (m.ft i a ha).1, by
    obtain ⟨h0, o, h2⟩ := m.ft i a ha
    exact ⟨o, c.ow a o h0 h2⟩⟩
theorem ExOk.chg {cn : String → Addr} {x : Exn} {cls : Value} {dx : Option Addr} (c : Chg K G H G' H') (h : ExOk K cn G H x cls dx) : ExOk K cn G' H' x cls dx := by
  obtain ⟨h1, h2⟩ := h
  refine ⟨h1, ?_⟩
  cases hf : x.f with
  | none => rw [hf] at h2; exact h2
  | some fd =>
    obtain ⟨f, d⟩ := fd
    rw [hf] at h2
    obtain ⟨a, v, e1, e2, e3⟩ := h2
    exact ⟨a, v, e1, c.xd _ _ e2, e3.chg c⟩
end

/-! ### errors that leave a locked world -/
def lockW (X : Cx) (W : WX) : WX := fun c d σ H => W c d σ H ∨ ∃ a od u, H a = some (.frz od u) ∧ (∀ o' u', X.H_0 a ≠ some (.frz o' u')) ∧ W c d σ (L2.upd H a u)
/-! ### what runs while the dict in slot i is locked -/
/-- the dict in slot i is not open -/
def LkS (σ : St) (i : Nat) (H : Hp) : Prop := ∀ a kvs, σ[i]? = some (some (.ref a)) → H a ≠ some (.dK kvs)
def dLk (i : Nat) (t : DS) : DS := fun D ρ => (∃ ks ch, slD ρ i = some (.n false (.dic ks) ch)) ∧ t D ρ
def dLkE (i : Nat) (t : DE) : DE := fun ρ Q E => (∃ ks ch, slD ρ i = some (.n false (.dic ks) ch)) ∧ t ρ Q E
section
variable {X : Cx} {cn : String → Addr} {E : WX}
section
variable {pv : Nat → V} {σ γ : St} {n : Nat} {ρ : Env} {G H : Hp} {fp : Fps} {a : Addr} {od : Obj} {kvs : List (Key × V)}
end
/-! ### the keys -/
def dIKey (i : Nat) : DI := fun ρ Q _ => ∃ ks ch, slD ρ i = some (.n false (.dic ks) ch) ∧ Q (ks.map keyE) ρ
/-- for k in <the dict in slot i> -/
def dForK (i : Nat) (g : DG) (tb : DS) (vs : List Nat) : DS := dLk i (dForW (dIKey i) g tb vs)
/-- [.. for k in <the dict in slot i>] -/
def dLcK (i : Nat) (g : DG) (tt : DT) (te : DE) (vs : List Nat) : DE := dLkE i (dLc (dIKey i) g tt te vs)
/-- a slot's value is shared from now on -/
def dFzI (i : Nat) (t : DS) : DS := fun D ρ => ∃ d, ρ[i]? = some (.v d) ∧ t D ((killB i ρ).set i (.v d.fz))
end
/-! ### list(d) -/
def dLKeys (t : DA) : DE := fun ρ Q E => t ρ (fun rs ρ1 => ∃ r ks ch, rs = [r] ∧ look ρ1 r = some (.n true (.dic ks) ch) ∧ Q (.t (.n true .lst (ks.map keyE))) ρ1) E
section
variable {X : Cx} {cn : String → Addr} {E : WX} {e : Expr} {t : DA} {p pos : Pos}
end
/-! ### d == e, of the same keys in the same order -/
def eqDs : List D → List D → Bool
  | [], [] => true
  | a :: r, b :: s => okD a && okD b && eqD a b && eqDs r s
  | _, _ => false
def qEqDD : Op2 := fun d e Q => qEq d e Q ∨ ∃ o o' ks ch ch', d = .n o (.dic ks) ch ∧ e = .n o' (.dic ks) ch' ∧ ks.Nodup ∧ eqDs ch ch' = true ∧ Q (.bl true)
def rEqDD (K : PySem.W.Frag) : R2 := fun x y H Q => rEqP K x y H Q ∨ ∃ a b ks ls, x = .ref a ∧ y = .ref b ∧ Rd H a (.dK ks) ∧ Rd H b (.dK ls) ∧ ks.length = ls.length ∧
  (∀ p ∈ ks, ∃ y d e, valV ls p.1 = some y ∧ Dp K H p.2 d ∧ Dp K H y e ∧ Pl d ∧ Pl e ∧ PyData.eqv d e = true) ∧ Q (.bl true) H
/-! ### running -/
section
variable {n : Env → Prop} {rt : D → Env → Prop} {bk ct : Env → Prop} {ex : Exn → Env → Prop} {ρ ρ1 : Env} {Q : Rv → Env → Prop} {E : Exn → Env → Prop} {i j : Nat} {g : DG} {tb t : DS} {vs : List Nat} {tt : DT} {te : DE} {k : Env → Prop} {d d' : D} {tA : DA}
  {κ β : Type} {i1 : Enc κ} {i2 : KeyE κ} {i3 : Enc β} {kv : List (κ × β)}
def lksK (rs : List Rv) (ρ : Env) (Q : Rv → Env → Prop) : Prop := ∃ r ks ch, rs = [r] ∧ look ρ r = some (.n true (.dic ks) ch) ∧ Q (.t (.n true .lst (ks.map keyE))) ρ
end
end DL
/-! DL74: x[i].m(e, ..), the inner list being x's own (the slot is hidden while the arguments run); a + b of lists that are used up. -/
namespace DL
open PySem L2
open Enc (en)
theorem RvsOk.out {K : PySem.W.Frag} {σ : St} {G H : Hp} {D' : Addr → Prop} : ∀ {rs : List Rv} {P : Addr → Prop} {vs : List V} {F : List Addr}, RvsOk K σ G H P vs rs F → (∀ a ∈ F, ¬ D' a) → RvsOk K σ G H (fun a => P a ∨ D' a) vs rs F
  | [], _, _, _, .nil, _ => .nil
  | r :: rs, P, _, _, .cons (F := F0) (F' := F1) h t, hd => by
    refine .cons ?_ ?_
    · cases r with
      | t d => exact ⟨h.1, fun a ha z => z.elim (h.2 a ha) (hd a (List.mem_append_left _ ha))⟩
      | s i => exact h
    · have := RvsOk.out (D' := D') t fun a ha => hd a (List.mem_append_right _ ha)
      have e : (fun a => (P a ∨ a ∈ F0) ∨ D' a) = fun a => (P a ∨ D' a) ∨ a ∈ F0 := by
        funext a
        exact propext ⟨fun z => z.elim (fun z => z.elim (fun z => .inl (.inl z)) .inr) fun z => .inl (.inr z), fun z => z.elim (fun z => z.elim (fun z => .inl (.inl z)) .inr) fun z => .inl (.inr z)⟩
      rw [e] at this
      exact this
section
variable {X : Cx} {cn : String → Addr} {E : WX}
/-- x[i].m(e, ..): x in slot n an own list of own lists; ix: the index -/
def dMutP (n : Nat) (ix : Env → Option Int) (r : OpM) (tA : DA) : DE := fun ρ Q E => ∃ rc a m ch0, ρ[n]? = some (.v (.n true .lst rc)) ∧ ix ρ = some a ∧ ixN rc.length a = some m ∧ rc[m]? = some (.n true .lst ch0) ∧
  tA ((killB n ρ).set n .un) (fun rs ρ1 => ∃ ρ1', stV ρ1 n (.n true .lst rc) = some ρ1' ∧ ∃ es ρ2 s root rc' k ch, tkL ρ1' rs = some (es, ρ2) ∧ ρ2[n]? = some s ∧ s.d? = some root ∧ root = .n true .lst rc' ∧ root.at [m] = some (.n true k ch) ∧
    r k ch es fun k' ch' res => Q (.t res) ((killB n ρ2).set n (s.re (root.put [m] (.n true k' ch'))))) (fun _ _ => False)
def ixC (c : Int) : Env → Option Int := fun _ => some c
def ixS (i : Nat) : Env → Option Int := fun ρ => match slD ρ i with
  | some (.p (.int a)) => some a
  | _ => none
/-! ### a + b of own lists that are used up -/
def dAddM (ta tb : DE) : DE := fun ρ Q E => ta ρ (fun x ρ1 => tb ρ1 (fun y ρ2 => ∃ xs ys, x = .t (.n true .lst xs) ∧ y = .t (.n true .lst ys) ∧ xs.length + ys.length ≤ 100000 ∧ Q (.t (.n true .lst (xs ++ ys))) ρ2) E) E
end
/-! ### running -/
section
variable {ρ ρ1 ρ2 ρ3 : Env} {Q : Rv → Env → Prop} {E : Exn → Env → Prop} {n : Nat} {ix : Env → Option Int} {r : OpM} {tA : DA} {xs : List Rv} {ta tb : DE} {x y : Rv}
/-- behind the arguments -/
def mpK (n m : Nat) (r : OpM) (d : D) (rs : List Rv) (ρ1 : Env) (Q : Rv → Env → Prop) : Prop := ∃ ρ1', stV ρ1 n d = some ρ1' ∧ ∃ es ρ2 s root rc' k ch, tkL ρ1' rs = some (es, ρ2) ∧ ρ2[n]? = some s ∧ s.d? = some root ∧ root = .n true .lst rc' ∧ root.at [m] = some (.n true k ch) ∧
    r k ch es fun k' ch' res => Q (.t res) ((killB n ρ2).set n (s.re (root.put [m] (.n true k' ch'))))
def adK (x y : Rv) (ρ : Env) (Q : Rv → Env → Prop) : Prop := ∃ xs ys, x = .t (.n true .lst xs) ∧ y = .t (.n true .lst ys) ∧ xs.length + ys.length ≤ 100000 ∧ Q (.t (.n true .lst (xs ++ ys))) ρ
end
end DL
/-! DL75: x[i:j] = ys, ys a new list. -/
namespace L2
open PySem PySem.Spec PyProof.Rows
/-- a target that is a part of a list -/
def gSlc (to : TE) (tl th : TO) (r : Int → Int → V → V → Hp → (Hp → Prop) → Prop) : TG := fun v σ H N => to σ H fun x H1 => tl σ H1 fun l H2 => th σ H2 fun u H3 => ∃ i j, l = some i ∧ u = some j ∧ r i j x v H3 (N σ)
def rSlc (i j : Int) (x v : V) (H : Hp) (Q : Hp → Prop) : Prop := ∃ a b xs ys, x = .ref a ∧ v = .ref b ∧ H a = some (.lst xs) ∧ H b = some (.lst ys) ∧ a ≠ b ∧ 0 ≤ i ∧ i ≤ j ∧ j ≤ xs.length ∧ xs.length + ys.length ≤ sizeLine ∧ Q (upd H a (.lst (xs.take i.toNat ++ ys ++ xs.drop j.toNat)))
end L2
namespace DL
open PySem L2
open Enc (en)
def mSlc (i j : Int) : OpM := fun k ch es Q => ∃ ds, k = .lst ∧ es = [.n true .lst ds] ∧ 0 ≤ i ∧ i ≤ j ∧ j ≤ ch.length ∧ ch.length + ds.length ≤ 100000 ∧ Q .lst (ch.take i.toNat ++ ds ++ ch.drop j.toNat) .non
theorem RpL.split {K : PySem.W.Frag} {G H : Hp} : ∀ {vs : List V} {ds : List D} {F : List Addr} (i j : Nat), i ≤ j → RpL K G H vs ds F → ∃ F1 F2, RpL K G H (vs.take i) (ds.take i) F1 ∧ RpL K G H (vs.drop j) (ds.drop j) F2 ∧ (∀ a ∈ F1, a ∈ F) ∧ (∀ a ∈ F2, a ∈ F) ∧ ∀ a ∈ F1, a ∉ F2
  | _, ds, F, 0, j, _, h => by
    obtain ⟨F2, r2, s2⟩ := h.drop j
    exact ⟨[], F2, .nil, r2, (fun a z => by cases z), s2, (fun a z => by cases z)⟩
  | _, [], _, i + 1, j, _, h => by
    cases h
    exact ⟨[], [], by simp only [List.take_nil]; exact .nil, by simp only [List.drop_nil]; exact .nil, (fun a z => by cases z), (fun a z => by cases z), (fun a z => by cases z)⟩
  | _, d :: ds, _, i + 1, 0, hij, h => by omega
  | _, d :: ds, _, i + 1, j + 1, hij, h => by
    cases h with
    | @cons v vs _ _ Fa Fb h1 h2 h3 =>
      obtain ⟨F1, F2, r1, r2, s1, s2, dd⟩ := RpL.split i j (by omega) h2
      refine ⟨Fa ++ F1, F2, ?_, r2, fun a z => ?_, fun a z => List.mem_append_right _ (s2 a z), fun a z => ?_⟩
      · rw [List.take_succ_cons, List.take_succ_cons]
        exact .cons h1 r1 fun a z y => h3 a z (s1 a y)
      · rcases List.mem_append.mp z with z | z
        · exact List.mem_append_left _ z
        · exact List.mem_append_right _ (s1 a z)
      · rcases List.mem_append.mp z with z | z
        · exact fun y => h3 a z (s2 a y)
        · exact dd a z
def dPutS (n : Nat) (te : DE) (tl th : DO) : DS := fun D ρ => te ρ (fun x ρ1 => (∃ s d, ρ1[n]? = some s ∧ s.d? = some d) ∧ tl ρ1 (fun l ρ2 => th ρ2 (fun h ρ3 => ∃ i j, l = some i ∧ h = some j ∧ ∃ es ρ4 s k ch, tkL ρ3 [x] = some (es, ρ4) ∧ ρ4[n]? = some s ∧ s.d? = some (.n true k ch) ∧
  mSlc i j k ch es fun k' ch' _ => D.nx ((killB n ρ4).set n (s.re (.n true k' ch')))) D.ex) D.ex) D.ex
section
variable {X : Cx} {cn : String → Addr} {E : WX}
end
section
variable {ρ ρ1 ρ2 ρ3 : Env} {nx : Env → Prop} {rt : D → Env → Prop} {bk ct : Env → Prop} {ex : Exn → Env → Prop} {n : Nat} {te : DE} {tl th : DO} {x : Rv}
def psK (n : Nat) (tl th : DO) (x : Rv) (ρ1 : Env) (nx : Env → Prop) (ex : Exn → Env → Prop) : Prop := (∃ s d, ρ1[n]? = some s ∧ s.d? = some d) ∧ tl ρ1 (fun l ρ2 => th ρ2 (fun h ρ3 => ∃ i j, l = some i ∧ h = some j ∧ ∃ es ρ4 s k ch, tkL ρ3 [x] = some (es, ρ4) ∧ ρ4[n]? = some s ∧ s.d? = some (.n true k ch) ∧
  mSlc i j k ch es fun k' ch' _ => nx ((killB n ρ4).set n (s.re (.n true k' ch')))) ex) ex
def psK2 (n : Nat) (x : Rv) (l u : Option Int) (ρ3 : Env) (nx : Env → Prop) : Prop := ∃ i j, l = some i ∧ u = some j ∧ ∃ es ρ4 s k ch, tkL ρ3 [x] = some (es, ρ4) ∧ ρ4[n]? = some s ∧ s.d? = some (.n true k ch) ∧
  mSlc i j k ch es fun k' ch' _ => nx ((killB n ρ4).set n (s.re (.n true k' ch')))
end
end DL
/-! DL76: try .. except C as e: a suite that asks what class e is of (errors without fields). -/
namespace DL
open PySem L2
open Enc (en)
/-- behind the suite slot i is forgotten -/
def enH (i : Nat) (n : Env → Prop) (ρ : Env) : Prop := ∃ ρ4, (killB i ρ).set i .un = ρ4 ∧ clr ρ4 [i] = true ∧ n ρ4
/-- try: tb except some class as n (slot i): ts -/
def dTryH (ns : List (String × Bool)) (i : Nat) (tb : DS) (ts : Addr → String → DS) : DS := fun D ρ => tb { D with ex := fun x ρ' => match ns.lookup x.name with
  | some true => x.f = none ∧ ∀ a : Addr, ∃ ρ2, stV ((killB i ρ').set i .un) i (.p (.ref a)) = some ρ2 ∧ ts a x.name { nx := fun ρ3 => enH i D.nx ρ3, rt := fun _ _ => False } ρ2
  | some false => D.ex x ρ'
  | none => False } ρ
/-- nothing leaves -/
def noX : WX := fun _ _ _ _ => False
section
variable {X : Cx} {cn : String → Addr} {E : WX}
theorem js_tryH {x n : Str} {c : Value} {i : Nat} {body suite : List Stmt} {b₀ : Stmt} {np pos pos' : Pos} {tb : DS} {ts : Addr → String → DS} {ns : List (String × Bool)} (hs : X.stack = X.env :: X.outer) (hf : X.env.frame = some X.env.locals) (hN : X.N.Nodup) (hi : X.N[i]? = some n)
    (hln : X.env.kindOf n = some .local) (hc : Names X x c) (tk : Takes X E)
    (hm : ∀ p ∈ ns, PySem.W.exmOne X.K (.ref (cn p.1)) c = some p.2)
    (hb : ∀ (W : WX) (pn : List (Addr × Obj)) (xe : Value → Shared → Prop), Takes (X.tr pn xe) W → PassesOwn (model X.prog X.w) X.A X.env xe → JSs (X.tr pn xe) cn W body tb)
    (hsu : ∀ (a : Addr) (oe : Obj) (nm : String) (pn : List (Addr × Obj)), (nm, true) ∈ ns → Zc (.ref (cn nm)) none oe → (∃ vs, oe.data = .fields vs) → JSs (X.suite a ((a, oe) :: pn)) cn noX (b₀ :: suite) (ts a nm)) :
    JS X cn E (.Try body [.ExceptHandler (some (.Name x np)) (some n) (b₀ :: suite) pos'] [] [] pos) (dTryH ns i tb ts) := by
  refine ⟨fun pins sh σ H D I ⟨pv, γ, ρ, G, fp, D0, m, q, po⟩ => ?_⟩
  have hi' : i < X.N.length := (List.getElem?_eq_some_iff.mp hi).1
  have hlσ : X.N.length = σ.length := I.len.symm
  refine (ps_try_as (tb := fun W => liftS X.K cn W tb) (ts := fun a cls d Dn σ H => ∃ nm, (nm, true) ∈ ns ∧ cls = .ref (cn nm) ∧ d = none ∧ liftS X.K cn noX (ts a nm) Dn σ H) hs hf hN hi hln hc tk hb fun a oe cls d pn hz hd => ⟨fun pins s σ H D I ⟨nm, h1, h2, h3, h4⟩ => by
    subst h2 h3
    exact (hsu a oe nm pn h1 hz hd).run pins s σ H D I h4⟩).run pins sh σ H D I ?_
  refine ⟨pv, γ, ρ, G, fp, _, m, q, po.nx, po.bk, po.ct, po.rt, ?_⟩
  rintro y ρ' cls dx σ' G' H' fp' q' s' m' l' ex
  revert q'
  simp only
  split
  · rename_i e
    rintro ⟨e0, q'⟩
    refine ⟨true, by rw [ex.1]; exact hm _ (look_mem e), fun _ a na => ?_, fun z => by cases z⟩
    obtain ⟨ρ2, e2, q'⟩ := q' a
    have hdx : dx = none := by
      have := ex.2
      rw [e0] at this
      exact this
    refine ⟨y.name, look_mem e, ex.1, hdx, pv, γ, ρ2, G', updF fp' i [], _, ?_, q', ?_⟩
    · have m1 := (m'.forget i).put e2 (Rp.p (.ref a)) fun b hb => by cases hb
      have hlt : i < σ'.length := by omega
      rw [show (σ' ++ γ).set i (some (.ref a)) = σ'.set i (some (.ref a)) ++ γ from List.set_append_left _ _ hlt] at m1
      exact m1
    · have su : ∀ b, InF (updF fp' i []) b → InF fp' b := fun b z => by
        rcases InF.updF z with y | y
        · exact y
        · cases y
      refine ⟨fun ρ3 σ3 G3 H3 fp3 ⟨ρ4, e4, ec, q3⟩ s3 m3 l3 => ?_, fun _ _ _ _ _ z => z.elim, fun _ _ _ _ _ z => z.elim, fun _ _ _ _ _ _ _ _ z => z.elim, fun _ _ _ _ _ _ _ _ z => z.elim⟩
      rw [List.length_set] at l3
      have m4 := m3.forget i
      rw [e4] at m4
      have m5 := m4.cong (σ' := σ3.set i none ++ γ) ec (by simp) fun k hk => by
        have hk' : i ≠ k := fun z => hk (by simp [z])
        by_cases hkl : k < σ3.length
        · rw [List.getElem?_append_left (by rw [List.length_set]; exact hkl), List.getElem?_set_ne hk', List.getElem?_append_left hkl]
        · rw [List.getElem?_append_right (by rw [List.length_set]; omega), List.length_set, List.getElem?_append_right (by omega)]
      exact po.nx ρ4 _ _ _ _ q3 (s'.trans (s3.mono (Q := InF fp') (Q' := InF fp3) (fun b z => su b z) fun b z => .inl z)) m5 (by rw [List.length_set, l3]; exact l')
  · rename_i e
    intro q'
    refine ⟨false, ?_, fun z => (by cases z), fun _ => po.ex y ρ' cls dx σ' G' H' fp' q' s' m' l' ex⟩
    rw [ex.1]; exact hm _ (look_mem e)
  · intro q'; exact q'.elim
end
/-- isinstance of the error that a suite holds -/
def rIsH (a : Addr) (c : V) (b : Bool) : List V → Hp → VK → Prop := fun xs H Q => xs = [.ref a, c] ∧ Q (.bl b) H
theorem call_isH {X : Cx} {c : V} {cv : Value} {a D : Addr} {oe : Obj} {b : Bool} (kc : ClsV c cv) (hp : (a, oe) ∈ X.pn) (hz : Zc (.ref D) none oe) (hd : ∃ vs, oe.data = .fields vs) (T : ExcD X.K D) (e : PySem.W.kitOne X.K (.ref D) cv = some b) : CallR X (.builtin "isinstance") (rIsH a c b) := by
  rintro pins s σ H xs us Q I r ⟨rfl, q⟩
  obtain ⟨u1, u2, rfl, r1, r2⟩ := vals2 r
  obtain rfl := kc.eq r2
  cases (show u1 = Value.ref a from r1)
  obtain ⟨h1, _⟩ := I.pin (a, oe) (List.mem_append_left _ hp)
  have hno : PySem.W.notCls oe = true := by obtain ⟨vs, hd⟩ := hd; unfold PySem.W.notCls; rw [hd] <;> rfl
  have J : PySem.W.InstAt s.heap a oe D none := ⟨h1, hz.1, hno, by rw [hz.2]; trivial⟩
  exact PySem.W.kia_one (PySem.W.kitx_exc T.hcl T.hga T.hgt T.hsub T.ha T.hn T.ht T.hm) I.kIn J e (fun z => nomatch z) fun tk => ⟨.bl b, H, I.tok tk, rfl, q⟩
/-- isinstance(n, a class), n the error that the suite holds -/
def dIsH (tbl : List (String × Bool)) (i : Nat) (a : Addr) (nm : String) : DE := fun ρ Q _ => ∃ b, ρ[i]? = some (.v (.p (.ref a))) ∧ tbl.lookup nm = some b ∧ Q (.t (.p (.bl b))) ρ
section
variable {X : Cx} {cn : String → Addr} {E : WX} {tbl : List (String × Bool)} {c : V} {cv : Value}
theorem je_isH {e : Expr} {i : Nat} {a : Addr} {nm : String} {oe : Obj} (hi : i < X.N.length) (kc : ClsV c cv) (hp : (a, oe) ∈ X.pn) (hz : Zc (.ref (cn nm)) none oe) (hd : ∃ vs, oe.data = .fields vs)
    (ht : ∀ p ∈ tbl, ExcD X.K (cn p.1) ∧ PySem.W.kitOne X.K (.ref (cn p.1)) cv = some p.2)
    (h : ∀ b, CallR X (.builtin "isinstance") (rIsH a c b) → PE X e (tCB (rIsH a c b) (tCons (tVar i) (tCons (tC c) tNil)))) : JE X cn E e (dIsH tbl i a nm) := by
  refine ⟨fun pins s σ H Q I ⟨pv, γ, ρ, G, fp, Q0, E0, m, ⟨b, h0, hb, q⟩, po, px⟩ => ?_⟩
  obtain ⟨t1, t2⟩ := ht _ (look_mem hb)
  have hl : i < σ.length := by rw [I.len]; exact hi
  obtain ⟨z, h1, h2⟩ := m.at h0 rfl
  generalize fp i = F0 at h2
  cases h2
  have h1 := get_left hl h1
  refine (h b (call_isH kc hp hz hd t1 t2)).run pins s σ H Q I ⟨_, h1, rfl, ?_⟩
  obtain ⟨f1, f2, f3⟩ := fin_new m (Stp.refl G H (InF fp)) (fun a z => z) (Stp.refl G H (fun _ => False)) m.sub
  exact po (.t _) ρ _ G H fp [] q (f1.mono (fun _ z => z) fun a z => .inl (z.elim .inl fun z => by cases z)) f2 ⟨Rp.p _, fun a z => by cases z⟩
end
section
variable {n : Env → Prop} {rt : D → Env → Prop} {bk ct : Env → Prop} {ex : Exn → Env → Prop} {ρ ρ1 : Env} {Q : Rv → Env → Prop} {E : Exn → Env → Prop} {tb : DS} {i : Nat} {ts : Addr → String → DS}
def tyH (ns : List (String × Bool)) (i : Nat) (ts : Addr → String → DS) (n : Env → Prop) (ex : Exn → Env → Prop) (x : Exn) (ρ : Env) : Prop := match ns.lookup x.name with
  | some true => x.f = none ∧ ∀ a : Addr, ∃ ρ2, stV ((killB i ρ).set i .un) i (.p (.ref a)) = some ρ2 ∧ ts a x.name ⟨fun ρ3 => enH i n ρ3, fun _ _ => False, fun _ => False, fun _ => False, fun _ _ => False⟩ ρ2
  | some false => ex x ρ
  | none => False
theorem w_tryH {ns : List (String × Bool)} (h : tb ⟨n, rt, bk, ct, fun x ρ' => tyH ns i ts n ex x ρ'⟩ ρ) : dTryH ns i tb ts ⟨n, rt, bk, ct, ex⟩ ρ := h
theorem w_tyH {ns : List (String × Bool)} {x : Exn} (h : ns.lookup x.name = some true) (hf : x.f = none) (h1 : (killB i ρ).set i .un = ρ1) (h0 : okV ρ1 i = true) (k : ∀ a : Addr, ts a x.name ⟨fun ρ3 => enH i n ρ3, fun _ _ => False, fun _ => False, fun _ => False, fun _ _ => False⟩ ((killB i ρ1).set i (.v (.p (.ref a))))) : tyH ns i ts n ex x ρ := by
  unfold tyH; rw [h]; exact ⟨hf, fun a => ⟨_, by rw [h1, stV_v h0], k a⟩⟩
theorem w_enH (h1 : (killB i ρ).set i .un = ρ1) (hc : clr ρ1 [i] = true) (k : n ρ1) : enH i n ρ := ⟨_, h1, hc, k⟩
theorem w_isH {tbl : List (String × Bool)} {a : Addr} {nm : String} {b : Bool} (h0 : ρ[i]? = some (.v (.p (.ref a)))) (h1 : tbl.lookup nm = some b) (h : Q (.t (.p (.bl b))) ρ) : dIsH tbl i a nm ρ Q E := ⟨b, h0, h1, h⟩
end
end DL
/-! DL77: x[i].m(e, ..), the inner list being x's own; the arguments may read x. -/
namespace DL
open PySem L2
open Enc (en)
section
variable {X : Cx} {cn : String → Addr} {E : WX}
/-- x[i].m(e, ..): x in slot n an own list of own lists; ix: the index; the part is held by a slot more while the arguments run -/
def dMutG (n : Nat) (ix : Env → Option Int) (r : OpM) (tA : DA) : DE := fun ρ Q E => ∃ s0 rc a m ch0, ρ[n]? = some s0 ∧ s0.d? = some (.n true .lst rc) ∧ ix ρ = some a ∧ ixN rc.length a = some m ∧ rc[m]? = some (.n true .lst ch0) ∧
  tA (ρ ++ [.b n [m]]) (fun rs ρ2 => ρ2[ρ.length]? = some (.b n [m]) ∧ ∃ es ρ3 s root rc' k ch, tkL ρ2 rs = some (es, ρ3) ∧ ρ3[n]? = some s ∧ s.d? = some root ∧ root = .n true .lst rc' ∧ root.at [m] = some (.n true k ch) ∧
    r k ch es fun k' ch' res => ∃ ρ4 s4, (killB n ρ3).set n (s.re (root.put [m] (.n true k' ch'))) = ρ4 ++ [s4] ∧ bOk ρ4.length ρ4 = true ∧ Q (.t res) ρ4) (fun _ _ => False)
/-- behind it the slot more is gone -/
def gQ (Q0 : Rv → Env → Prop) : Rv → Env → Prop
  | .t d, ρ' => ∃ ρ4 s4, ρ' = ρ4 ++ [s4] ∧ bOk ρ4.length ρ4 = true ∧ Q0 (.t d) ρ4
  | .s _, _ => False
theorem je_mutG {n : Nat} {ix : Env → Option Int} {ti : TE} {e : Expr} {tA : DA} {r : OpM} {rr : V → List V → Hp → VK → Prop} (hs : SemM X.K rr r) (hn : n < X.N.length)
    (hix : ∀ pv γ ρ G fp σ H a, Mt X.K pv (σ ++ γ) ρ G H fp → ix ρ = some a → σ.length = X.N.length → ∀ Q : VK, Q (.int a) H → ti σ H Q)
    (h : PE X e (tBM X.K "list" rr (tOp (rIx X.K) (tVar n) ti) (liftA X.K cn E tA))) : JE X cn E e (dMutG n ix r tA) := ⟨fun pins sh σ H Q I ⟨pv, γ, ρ, G, fp, Q0, E0, m, ⟨s0, rc, a, mm, ch0, e0, e1, e2, e3, e4, q⟩, po, px⟩ => by
  have hln : n < σ.length := by rw [I.len]; exact hn
  obtain ⟨z, h1, h2⟩ := m.at e0 e1
  generalize hF : fp n = Fn at h2
  cases h2 with
  | @o a0 _ us _ F n0 n1 n2 n3 =>
    obtain ⟨y, F', r1, r2, r3⟩ := RpL.get rc n3 e4
    have hty : tyV X.K "list" y H := tyV_of m.sub r2 (show tyM (.n true .lst ch0) = "list" from rfl) (.inl rfl)
    refine h.run pins sh σ H Q I ⟨.ref a0, get_left hln h1, ?_⟩
    refine hix pv γ ρ G fp σ H a m e2 I.len _ ?_
    refine .inl ⟨a0, us, a, y, rfl, rfl, .inl (.inl n1), ?_, ?_⟩
    · unfold L2.atI
      rw [n3.len, e3]
      exact r1
    have m1' : Mt X.K pv (σ ++ (γ ++ [some y])) (ρ ++ [.b n [mm]]) G H fp := by
      rw [← List.append_assoc]
      exact m.push h1 ⟨a0, .lst, us, y, rfl, by rw [hF]; exact List.mem_cons_self .., n1, r1, rfl⟩
    refine ⟨hty, pv, γ ++ [some y], ρ ++ [.b n [mm]], G, fp, _, fun _ _ => False, m1', q, fun rs ρ2 vs G2 H2 fp2 F2 ⟨eb, q2⟩ s2 m2 o2 => ?_, fun _ _ _ _ _ _ _ _ z => z.elim⟩
    have hml := m.len
    obtain ⟨x2, y2, b1, b2, b3⟩ := m2.br _ _ _ eb
    obtain ⟨a2, k2, us2, z2, p1, p2, p3, p4, p5⟩ := b3
    have p5 : z2 = y2 := p5
    subst p5
    have hy : z2 = y := by
      rw [hml, ← List.append_assoc, List.getElem?_append_right (Nat.le_refl _), Nat.sub_self] at b2
      exact (Option.some.inj (Option.some.inj b2)).symm
    subst hy
    subst p1
    have po2 : PoE X.K pv σ (γ ++ [some z2]) G H fp (gQ Q0) Q := fun r' ρ' v' G' H' fp' F' hq s' m' o' => by
      cases r' with
      | s _ => exact hq.elim
      | t res =>
      obtain ⟨ρ4, s4, e5, hb, q'⟩ := hq
      rw [← List.append_assoc, e5] at m'
      exact po (.t res) ρ4 v' G' H' fp' F' q' s' (m'.trunc hb) o'
    obtain ⟨es, ρ3, s, root, rc', k, ch, w1, w2, w3, w4, w5, w6⟩ := q2
    refine mutF_go (F1 := F2) (Q := Q) (Q0 := gQ Q0) (m := mm) hs b1 p3 p4 po2 s2 m2 o2 ⟨es, ρ3, s, root, .lst, rc', k, ch, w1, w2, w3, w4, w5, w6⟩⟩
theorem je_mutGs {n i : Nat} {e : Expr} {tA : DA} {r : OpM} {rr : V → List V → Hp → VK → Prop} (hs : SemM X.K rr r) (hn : n < X.N.length) (hi : i < X.N.length)
    (h : PE X e (tBM X.K "list" rr (tOp (rIx X.K) (tVar n) (tVar i)) (liftA X.K cn E tA))) : JE X cn E e (dMutG n (ixS i) r tA) :=
  je_mutG hs hn (fun pv γ ρ G fp σ H a m e1 hl Q q => by
    unfold ixS at e1
    split at e1
    · rename_i b hb
      cases e1
      obtain ⟨v, F0, h1, h2, _⟩ := sl_ok m hb
      cases h2
      exact ⟨_, get_left (by rw [hl]; exact hi) h1, q⟩
    · cases e1) h
end
/-! ### running -/
section
variable {ρ ρ1 ρ2 ρ3 ρ4 : Env} {Q : Rv → Env → Prop} {E : Exn → Env → Prop} {n : Nat} {ix : Env → Option Int} {r : OpM} {tA : DA} {xs : List Rv}
/-- behind the arguments -/
def mgK (n m L : Nat) (r : OpM) (rs : List Rv) (ρ2 : Env) (Q : Rv → Env → Prop) : Prop := ρ2[L]? = some (.b n [m]) ∧ ∃ es ρ3 s root rc' k ch, tkL ρ2 rs = some (es, ρ3) ∧ ρ3[n]? = some s ∧ s.d? = some root ∧ root = .n true .lst rc' ∧ root.at [m] = some (.n true k ch) ∧
    r k ch es fun k' ch' res => ∃ ρ4 s4, (killB n ρ3).set n (s.re (root.put [m] (.n true k' ch'))) = ρ4 ++ [s4] ∧ bOk ρ4.length ρ4 = true ∧ Q (.t res) ρ4
theorem w_mutG {α : Type} [Enc α] {rows : List (List α)} {row : List α} {a : Nat} (h0 : ρ[n]? = some (.v (eoo rows))) (h1 : ix ρ = some (a : Int)) (h2 : rows[a]? = some row) (h3 : ρ ++ [.b n [a]] = ρ1) (h : tA ρ1 (fun rs ρ2 => mgK n a ρ.length r rs ρ2 Q) (fun _ _ => False)) : dMutG n ix r tA ρ Q E := by
  subst h3
  have hal : a < rows.length := (List.getElem?_eq_some_iff.mp h2).1
  refine ⟨_, rows.map eo, (a : Int), a, row.map en, h0, rfl, h1, ?_, by rw [List.getElem?_map, h2]; rfl, h⟩
  unfold ixN
  rw [List.length_map, if_pos (by omega), if_pos (by omega)]
  rfl
/-- the inner list changed to any items -/
theorem w_mgD {α : Type} [Enc α] {rows : List (List α)} {row : List α} {m L : Nat} {res : D} {es ch' : List D} {s4 : Sl} (hL : ρ2[L]? = some (.b n [m])) (h1 : tkL ρ2 xs = some (es, ρ3)) (h2 : ρ3[n]? = some (.v (eoo rows))) (h3 : rows[m]? = some row) (h4 : ∀ K : Kd → List D → D → Prop, K .lst ch' res → r .lst (row.map en) es K)
    (h5 : (killB n ρ3).set n (.v (.n true .lst ((rows.map eo).set m (.n true .lst ch')))) = ρ4 ++ [s4]) (hk : bOk ρ4.length ρ4 = true) (h : Q (.t res) ρ4) : mgK n m L r xs ρ2 Q := by
  refine ⟨hL, es, ρ3, _, eoo rows, rows.map eo, .lst, row.map en, h1, h2, rfl, rfl, oo_at h3, h4 _ ⟨ρ4, s4, ?_, hk, h⟩⟩
  have hp : (eoo rows).put [m] (.n true .lst ch') = .n true .lst ((rows.map eo).set m (.n true .lst ch')) := by
    simp only [eoo, D.put, List.getElem?_map, h3, Option.map_some]
  rw [hp]
  exact h5
end
end DL
namespace Lw
open PySem L2 DL
section
open Enc (en)
local macro_rules | `(tactic| walk_at "ty") => `(tactic| first | exact ⟨_, _, rfl, rfl, rfl, by decide⟩ | exact ⟨_, _, rfl, rfl, rfl, .inr rfl⟩)
local macro_rules | `(tactic| walk_at "t1") => `(tactic| first | exact ⟨_, rfl, rfl, by decide⟩ | exact ⟨_, sl_oo rfl rfl (by assumption), rfl, by decide⟩)
local macro_rules | `(tactic| walk_at "le") => `(tactic| (simp only [fe_nil, fe_un, fe_b, fe_v, fe_w, fr_e, fr_eo, fr_ek]; first | done | exact rfl))
local macro_rules | `(tactic| walk_at "ow") => `(tactic| first | exact rfl | exact own_oo (fun _ => rfl) | exact own_e (fun _ => rfl))
local macro_rules | `(tactic| walk_at "ok") => `(tactic| first | exact ok_of (by decide) | exact ok_eo (by decide) | rfl | decide)
local macro_rules | `(tactic| walk_at "py") => `(tactic| first | exact py_nil | exact py_eo _ | exact py_ek _ | exact rfl)
local macro_rules | `(tactic| walk_at "g0") => `(tactic| first
      | ((with_reducible_and_instances apply w_ixK); (· walk_at "rf"); (· rfl))
      | ((with_reducible_and_instances apply w_fdK); (· walk_at "rf"); (· rfl))
      | ((with_reducible_and_instances apply w_rfK); (· walk_at "rf"))
      | ((with_reducible_and_instances apply w_tyT); (· rfl); (· walk_at "ne"); (· first | exact rfl | exact okV_fs rfl); (· walk_at "ne"); (· rfl))
      | ((with_reducible_and_instances apply w_tyF); (· rfl))
      | ((with_reducible_and_instances apply w_upK); (· first | exact rfl | exact okV_fs rfl); (· walk_at "ne"); (· first | exact rfl | exact okV_fs rfl); (· walk_at "ne"))
      | ((with_reducible_and_instances apply w_repL); (· rfl); (· decide); (· decide))
      | ((with_reducible_and_instances apply w_var); (· walk_at "rf"))
      | ((with_reducible_and_instances apply w_opK); (· walk_at "rf"); (· walk_at "rf"))
      | ((with_reducible_and_instances apply w_nT); (· first | exact rfl | exact okV_fs rfl); (· walk_at "ne"))
      | ((with_reducible_and_instances apply w_nO); (· walk_at "rf"); (· walk_at "nz"); (· walk_at "fr"); (· walk_at "ne"); (· first | exact rfl | exact okV_fs rfl); (· walk_at "ne"))
      | ((with_reducible_and_instances apply w_nS); (· walk_at "rf"); (· walk_at "fz"); (· first | exact rfl | exact okV_fs rfl); (· walk_at "ne")))
local macro_rules | `(tactic| walk_at "g1") => `(tactic| first
      | ((with_reducible_and_instances apply w_cbK); (· walk_at "rf"))
      | ((with_reducible_and_instances apply w_mkK); (· walk_at "tk"); (· walk_at "bd"))
      | (with_reducible_and_instances apply w_itO)
      | (with_reducible_and_instances apply w_itN)
      | ((with_reducible_and_instances apply w_itK'); (· walk_at "rf"))
      | ((with_reducible_and_instances apply w_itS); (· walk_at "rf"); (· walk_at "rf"))
      | ((with_reducible_and_instances apply w_itF); (· walk_at "rf"); (· walk_at "nz"); (· walk_at "fr"); (· walk_at "ne"); (· walk_at "rf"))
      | ((with_reducible_and_instances apply w_itK); (· walk_at "rf"); (· walk_at "rf"))
      | ((with_reducible_and_instances apply w_lcK); (· walk_at "rf"); (· walk_at "ne"))
      | ((with_reducible_and_instances apply w_lcT); (· assumption); (· walk_at "ne"))
      | ((with_reducible_and_instances apply w_lcS); (· walk_at "rf"); (· walk_at "fz"); (· assumption); (· walk_at "ne"))
      | (with_reducible_and_instances apply w_retT)
      | ((with_reducible_and_instances apply w_retS); (· walk_at "rf"); (· walk_at "fz")))
local macro_rules | `(tactic| walk_at "g2") => `(tactic| first
      | ((with_reducible_and_instances apply w_mv); (· walk_at "rf"); (· walk_at "ne"))
      | ((with_reducible_and_instances apply w_unK); (· walk_at "rf"))
      | ((with_reducible_and_instances apply w_blK); (· walk_at "rf"))
      | ((with_reducible_and_instances apply w_chK); (· walk_at "rf"); (· walk_at "rf"))
      | (with_reducible_and_instances apply w_addI)
      | ((with_reducible_and_instances apply w_addS); (· first | omega | assumption))
      | ((with_reducible_and_instances apply w_mod); (· omega))
      | ((with_reducible_and_instances apply w_div); (· omega))
      | (with_reducible_and_instances apply w_eqS)
      | (with_reducible_and_instances apply w_eqI)
      | ((with_reducible_and_instances apply w_eqP); (· walk_at "py"); (· walk_at "py"); (· decide))
      | (with_reducible_and_instances apply w_neS)
      | (with_reducible_and_instances apply w_neI)
      | ((with_reducible_and_instances apply w_neP); (· walk_at "py"); (· walk_at "py"); (· decide)))
local macro_rules | `(tactic| walk_at "g3") => `(tactic| first
      | ((with_reducible_and_instances apply w_inLf); (· walk_at "rf"); (· decide))
      | ((with_reducible_and_instances apply w_inLt); (· walk_at "rf"); (· decide))
      | (with_reducible_and_instances apply w_inTf)
      | (with_reducible_and_instances apply w_inTt)
      | (with_reducible_and_instances apply w_in2f)
      | (with_reducible_and_instances apply w_in2t)
      | (with_reducible_and_instances apply w_inDf)
      | (with_reducible_and_instances apply w_inDt)
      | ((with_reducible_and_instances apply w_caK); (· walk_at "tk"))
      | ((with_reducible_and_instances apply w_baK); (· walk_at "tk"))
      | ((with_reducible_and_instances apply w_kwK); (· walk_at "tk"))
      | ((with_reducible_and_instances apply w_list); (· walk_at "rf"); (· first | exact rfl | exact fzl_e _)))
local macro_rules | `(tactic| walk_at "g4") => `(tactic| first
      | ((with_reducible_and_instances apply w_len); (· walk_at "rf"))
      | ((with_reducible_and_instances apply w_lenS); (· walk_at "bd"))
      | ((with_reducible_and_instances apply w_all); (· walk_at "rf"); (· first | exact bls_e _ | exact rfl | exact bls_m _ _))
      | ((with_reducible_and_instances apply w_any); (· walk_at "rf"); (· first | exact bls_e _ | exact rfl | exact bls_m _ _))
      | ((with_reducible_and_instances apply w_isiT); (· walk_at "rf"); (· walk_at "rf"))
      | ((with_reducible_and_instances apply w_isiF); (· walk_at "rf"); (· walk_at "rf"))
      | ((with_reducible_and_instances apply w_sortI); (· walk_at "rf"); (· first | exact ints_e _ | exact ints_m _ _); (· walk_at "bd"); intro _ _ _)
      | ((with_reducible_and_instances apply w_rg1K); (· walk_at "rf"); (· walk_at "bd"))
      | ((with_reducible_and_instances apply w_rg2K); (· walk_at "rf"); (· walk_at "bd"))
      | ((with_reducible_and_instances apply w_mut); (· exact ⟨_, _, rfl, rfl, rfl, by decide⟩))
      | ((with_reducible_and_instances apply w_appE); (· walk_at "tk"); (· walk_at "rf"); (· walk_at "bd"); (· walk_at "ne"))
      | ((with_reducible_and_instances apply w_appS); (· walk_at "tk"); (· walk_at "rf"); (· walk_at "bd"); (· walk_at "ne"))
      | ((with_reducible_and_instances apply w_appI); (· walk_at "tk"); (· walk_at "rf"); (· walk_at "bd"); (· walk_at "ne"))
      | ((with_reducible_and_instances apply w_appV); (· walk_at "tk"); (· walk_at "rf"); (· walk_at "bd"); (· walk_at "ne"))
      | ((with_reducible_and_instances apply w_mu); (· walk_at "tk"); (· walk_at "rf"); (· walk_at "rf")))
local macro_rules | `(tactic| walk_at "g5") => `(tactic| first
      | ((with_reducible_and_instances apply w_ptK); (· walk_at "rf"))
      | ((with_reducible_and_instances apply w_cutE); (· walk_at "rf"); (· walk_at "rf"))
      | ((with_reducible_and_instances apply w_cutT); (· walk_at "rf"); (· walk_at "bd"))
      | ((with_reducible_and_instances apply w_upper); (· omega))
      | ((with_reducible_and_instances apply w_revT); (· omega))
      | ((with_reducible_and_instances apply w_fzT); (· walk_at "fr"))
      | ((with_reducible_and_instances apply w_strI); (· first | omega | assumption))
      | (with_reducible_and_instances apply w_strS)
      | ((with_reducible_and_instances apply w_trT); (· walk_at "rf"))
      | ((with_reducible_and_instances apply w_trF); (· walk_at "rf"))
      | ((with_reducible_and_instances apply w_augI); (· walk_at "rf"))
      | ((with_reducible_and_instances apply w_agK); (· walk_at "rf"); (· walk_at "rf"); (· walk_at "rf"); (· walk_at "ne")))
local macro_rules | `(tactic| walk_at "g6") => `(tactic| first
      | ((with_reducible_and_instances apply w_mulI); (· first | exact Or.inr (by omega) | exact Or.inl (by omega)))
      | ((with_reducible_and_instances apply w_mulS); (· first | omega | assumption))
      | ((with_reducible_and_instances apply w_pow); (· first | omega | assumption | exact ⟨by omega, by omega, by omega⟩))
      | ((with_reducible_and_instances apply w_isK); (· walk_at "rf"))
      | ((with_reducible_and_instances apply w_m1K); (· walk_at "rf"))
      | ((with_reducible_and_instances apply w_puK); (· exact ⟨_, _, rfl, rfl, rfl, by decide⟩))
      | ((with_reducible_and_instances apply w_wpK); (· walk_at "ne"))
      | ((with_reducible_and_instances apply w_forC); (· walk_at "rf"); (· walk_at "ne"))
      | ((with_reducible_and_instances apply w_muV); (· walk_at "ne"))
      | ((with_reducible_and_instances apply w_muW); (· walk_at "ne"))
      | ((with_reducible_and_instances apply w_mbE); (· assumption); (· walk_at "ne"))
      | ((with_reducible_and_instances apply m_appE); (· walk_at "bd")))
local macro_rules | `(tactic| walk_at "g7") => `(tactic| first
      | ((with_reducible_and_instances apply m_insE); (· walk_at "bd"))
      | ((with_reducible_and_instances apply m_extE); (· walk_at "bd"))
      | ((with_reducible_and_instances apply m_putE); (· walk_at "bd"))
      | ((with_reducible_and_instances apply w_muB); (· walk_at "tk"); (· walk_at "rf"); (· walk_at "rf"); (· assumption))
      | ((with_reducible_and_instances apply w_mutB); (· walk_at "t1"))
      | ((with_reducible_and_instances apply w_isDK); (· walk_at "rf"); (· walk_at "rf"))
      | ((with_reducible_and_instances apply w_g2E); (· walk_at "rf"); (· walk_at "rf"); (· walk_at "rf"); (· first | exact rfl | exact fz_e _))
      | ((with_reducible_and_instances apply w_dpK); (· walk_at "tk"); (· exact ⟨rfl, by decide, by decide +kernel⟩))
      | ((with_reducible_and_instances apply w_gtT); (· walk_at "fr"); (· exact rfl); (· exact rfl))
      | ((with_reducible_and_instances apply w_gtS); (· walk_at "rf"); (· walk_at "fz"); (· exact rfl); (· exact rfl))
      | ((with_reducible_and_instances apply w_gsK); (· walk_at "t1"))
      | ((with_reducible_and_instances apply w_zK); (· walk_at "tk"); (· exact rfl); (· exact rfl)))
local macro_rules | `(tactic| walk_at "g8") => `(tactic| first
      | ((with_reducible_and_instances apply w_ezK); (· walk_at "tk"); (· exact rfl); (· exact rfl))
      | ((with_reducible_and_instances apply w_lr1K); (· walk_at "rf"); (· omega))
      | ((with_reducible_and_instances apply w_lr2K); (· walk_at "rf"); (· walk_at "rf"); (· walk_at "bd"))
      | ((with_reducible_and_instances apply w_enK); (· walk_at "tk"); (· exact rfl))
      | ((with_reducible_and_instances apply w_jlK); (· walk_at "rf"); (· first | omega | assumption))
      | ((with_reducible_and_instances apply w_fmS); (· walk_at "rf"); (· first | omega | assumption))
      | ((with_reducible_and_instances apply w_fmI); (· walk_at "rf"); (· first | omega | assumption))
      | ((with_reducible_and_instances apply w_bmK); (· walk_at "t1"))
      | ((with_reducible_and_instances apply w_lend); (· walk_at "le"))
      | ((with_reducible_and_instances apply w_ldK); (· walk_at "ow"))
      | ((with_reducible_and_instances apply w_fzS); (· walk_at "rf"); (· walk_at "fr"); (· walk_at "ne"))
      | ((with_reducible_and_instances apply w_dp1K); (· walk_at "tk")))
local macro_rules | `(tactic| walk_at "g9") => `(tactic| first
      | ((with_reducible_and_instances apply w_frz); (· walk_at "rf"); (· walk_at "fr"); (· walk_at "ne")))
local macro_rules | `(tactic| walk_at "g10") => `(tactic| first
      | (with_reducible_and_instances apply w_asg)
      | (with_reducible_and_instances apply w_next)
      | (with_reducible_and_instances apply w_drop)
      | (with_reducible_and_instances apply w_ret)
      | (with_reducible_and_instances apply w_retN)
      | (with_reducible_and_instances apply w_ifS)
      | (with_reducible_and_instances apply w_for)
      | (with_reducible_and_instances apply w_break)
      | (with_reducible_and_instances apply w_cont)
      | (with_reducible_and_instances apply w_isX)
      | (with_reducible_and_instances apply w_fld)
      | (with_reducible_and_instances apply w_raiseF)
      | (with_reducible_and_instances apply w_tryK)
      | (with_reducible_and_instances apply w_unp)
      | (with_reducible_and_instances apply w_c)
      | (with_reducible_and_instances apply w_op)
      | (with_reducible_and_instances apply w_nil)
      | (with_reducible_and_instances apply w_cons)
      | (with_reducible_and_instances apply w_cb)
      | (with_reducible_and_instances apply w_lst)
      | (with_reducible_and_instances apply w_tup)
      | (with_reducible_and_instances apply w_iseq)
      | (with_reducible_and_instances apply w_lc))
local macro_rules | `(tactic| walk_at "g11") => `(tactic| first
      | (with_reducible_and_instances apply w_lcX)
      | (with_reducible_and_instances apply w_true)
      | (with_reducible_and_instances apply w_un)
      | (with_reducible_and_instances apply w_tst)
      | (with_reducible_and_instances apply w_and)
      | (with_reducible_and_instances apply w_or)
      | (with_reducible_and_instances apply w_not)
      | (with_reducible_and_instances apply w_andV)
      | (with_reducible_and_instances apply w_orV)
      | (with_reducible_and_instances apply w_notV)
      | (with_reducible_and_instances apply w_ifE)
      | (with_reducible_and_instances apply w_chain)
      | (with_reducible_and_instances apply w_isB)
      | (with_reducible_and_instances apply w_subI)
      | (with_reducible_and_instances apply w_neg)
      | (with_reducible_and_instances apply w_ltI)
      | (with_reducible_and_instances apply w_ltS)
      | (with_reducible_and_instances apply w_leI)
      | (with_reducible_and_instances apply w_leS)
      | (with_reducible_and_instances apply w_gtI)
      | (with_reducible_and_instances apply w_geI)
      | (with_reducible_and_instances apply w_call)
      | (with_reducible_and_instances apply w_callK))
local macro_rules | `(tactic| walk_at "g12") => `(tactic| first
      | (with_reducible_and_instances apply w_rng1)
      | (with_reducible_and_instances apply w_rng2)
      | (with_reducible_and_instances apply w_cut)
      | (with_reducible_and_instances apply w_part)
      | (with_reducible_and_instances apply w_noPart)
      | (with_reducible_and_instances apply w_fz)
      | (with_reducible_and_instances apply w_dK)
      | (with_reducible_and_instances apply w_raise)
      | (with_reducible_and_instances apply w_try)
      | (with_reducible_and_instances apply w_intB)
      | (with_reducible_and_instances apply w_intI)
      | (with_reducible_and_instances apply w_isdigit)
      | (with_reducible_and_instances apply w_isalpha)
      | (with_reducible_and_instances apply w_isNn)
      | (with_reducible_and_instances apply w_isN)
      | (with_reducible_and_instances apply w_notN)
      | (with_reducible_and_instances apply w_istr)
      | (with_reducible_and_instances apply w_m1)
      | (with_reducible_and_instances apply w_put)
      | (with_reducible_and_instances apply w_loopNil)
      | (with_reducible_and_instances apply w_lcNil)
      | (with_reducible_and_instances apply lw_nil)
      | (with_reducible_and_instances apply w_wipe))
local macro_rules | `(tactic| walk_at "g13") => `(tactic| first
      | (with_reducible_and_instances apply w_forW)
      | (with_reducible_and_instances apply m_clrE)
      | (with_reducible_and_instances apply w_newD)
      | (with_reducible_and_instances apply w_get2)
      | (with_reducible_and_instances apply w_disp)
      | (with_reducible_and_instances apply w_dsN)
      | (with_reducible_and_instances apply w_dsC)
      | (with_reducible_and_instances apply w_gnil)
      | (with_reducible_and_instances apply w_gcons)
      | (with_reducible_and_instances apply w_gsub)
      | (with_reducible_and_instances apply w_zip)
      | (with_reducible_and_instances apply w_zipA)
      | (with_reducible_and_instances apply w_ez)
      | (with_reducible_and_instances apply w_lrg1)
      | (with_reducible_and_instances apply w_lrg2)
      | (with_reducible_and_instances apply w_enum)
      | (with_reducible_and_instances apply w_js)
      | (with_reducible_and_instances apply w_jlN)
      | (with_reducible_and_instances apply w_jlC)
      | (with_reducible_and_instances apply w_fmt)
      | (with_reducible_and_instances apply w_bm1)
      | (with_reducible_and_instances apply w_disp1))
local macro_rules | `(tactic| walk_at "d1") => `(tactic| first | (refine St1.go ?_) | (with_reducible_and_instances apply w_seq) | walk_at "d0")
local macro_rules | `(tactic| walk_at "dn") => `(tactic| repeat (first | (refine St1.go ?_) | walk_at "d0"))
local macro_rules | `(tactic| walk_at "st") => `(tactic| ((with_reducible_and_instances apply w_seq); repeat (first | (refine St1.go ?_) | walk_at "d0")))
local macro_rules | `(tactic| walk_at "br") => `(tactic| repeat' (first | (refine St1.go ?_) | (with_reducible_and_instances apply w_seq) | walk_at "d0" | refine w_if (fun _ => ?_) (fun _ => ?_)))
local macro_rules | `(tactic| walk_at "lc") => `(tactic| (refine lc_all ?_ ?_ ?_; (· intro a ha acc k k' hl hk; walk_at "dg"; exact hk); (· walk_at "bd")))
local macro_rules | `(tactic| walk_at "in") => `(tactic| (simp only [initE, finL, fz_e, fz_eo, fz_ek, if_true, if_false, Bool.false_eq_true, List.map_cons, List.map_nil, List.length_cons, List.length_nil, Nat.zero_add, Nat.reduceAdd, Nat.reduceSub, List.replicate_succ, List.replicate_zero, List.cons_append, List.nil_append, Option.some.injEq, exists_eq_left']))
local macro_rules | `(tactic| walk_at "bd") => `(tactic| first | omega | (simp only [List.length_map, List.length_range, List.length_cons, List.length_nil]; omega) | (simp; omega))
local macro_rules | `(tactic| walk_at "tk") => `(tactic| first
  | exact ag_nil | exact ba_nil | exact tl_nil | exact tf_nil
  | ((with_reducible_and_instances apply ag_fS); (· walk_at "rf"); (· walk_at "fz"); (· walk_at "tk")) | ((with_reducible_and_instances apply ag_fT); (· walk_at "fr"); (· walk_at "tk")) | ((with_reducible_and_instances apply ag_tT); walk_at "tk")
  | ((with_reducible_and_instances apply ag_tV); (· walk_at "rf"); (· walk_at "ne"); (· walk_at "tk")) | ((with_reducible_and_instances apply ag_tW); (· walk_at "rf"); (· walk_at "ne"); (· walk_at "tk"))
  | ((with_reducible_and_instances apply ag_fO); (· walk_at "rf"); (· walk_at "nz"); (· walk_at "fr"); (· walk_at "ne"); (· walk_at "tk"))
  | ((with_reducible_and_instances apply ba_f); walk_at "tk") | ((with_reducible_and_instances apply ba_tT); walk_at "tk") | ((with_reducible_and_instances apply ba_tV); (· walk_at "rf"); (· walk_at "rf"); (· walk_at "ne"); (· walk_at "tk")) | ((with_reducible_and_instances apply ba_tW); (· walk_at "rf"); (· walk_at "rf"); (· walk_at "ne"); (· walk_at "tk"))
  | ((with_reducible_and_instances apply tl_S); (· walk_at "rf"); (· walk_at "fz"); (· walk_at "tk")) | ((with_reducible_and_instances apply tl_T); walk_at "tk")
  | ((with_reducible_and_instances apply tl_O); (· walk_at "rf"); (· walk_at "nz"); (· walk_at "fr"); (· walk_at "ne"); (· walk_at "tk"))
  | ((with_reducible_and_instances apply tf_S); (· walk_at "rf"); (· walk_at "fz"); (· walk_at "tk")) | ((with_reducible_and_instances apply tf_T); (· walk_at "fr"); (· walk_at "tk"))
  | ((with_reducible_and_instances apply tf_O); (· walk_at "rf"); (· walk_at "nz"); (· walk_at "fr"); (· walk_at "ne"); (· walk_at "tk")))
local macro_rules | `(tactic| walk_at "ne") => `(tactic| (simp only [kb_nil, kb_un, kb_v, kb_w, kb_b, kb_fs, se0, seS, wi0, wiS]; first | done | exact rfl))
local macro_rules | `(tactic| walk_at "fr") => `(tactic| first | exact fr_e _ | exact fr_eo _ | exact fr_ek _ | assumption | exact rfl | (simp only [D.fz, fzL]; exact rfl))
local macro_rules | `(tactic| walk_at "nz") => `(tactic| first | exact rfl | exact fz_eo _)
local macro_rules | `(tactic| walk_at "fz") => `(tactic| first | exact rfl | exact fz_e _ | exact fz_ek _ | assumption | (simp only [fz_e, D.isFz]; done))
local macro_rules | `(tactic| walk_at "rf") => `(tactic| first | exact rfl | exact sl_oo rfl rfl (by assumption))
local macro_rules | `(tactic| walk_at "d0") => `(tactic| first | (refine Al0.go ?_; walk_at "g0") | (refine Al1.go ?_; walk_at "g1") | (refine Al2.go ?_; walk_at "g2") | (refine Al3.go ?_; walk_at "g3") | (refine Al4.go ?_; walk_at "g4") | (refine Al5.go ?_; walk_at "g5") | (refine Al6.go ?_; walk_at "g6") | (refine Al7.go ?_; walk_at "g7") | (refine Al8.go ?_; walk_at "g8") | (refine Al9.go ?_; walk_at "g9") | (refine Al10.go ?_; walk_at "g10") | (refine Al11.go ?_; walk_at "g11") | (refine Al12.go ?_; walk_at "g12") | (refine Al13.go ?_; walk_at "g13"))
local macro_rules | `(tactic| walk_at "dg") => `(tactic| repeat (first | (refine St1.go ?_) | (with_reducible_and_instances apply w_seq) | walk_at "d0"))
open Enc (en)
def pcB (c : Nat) : Bool := decide (32 ≤ c) && decide (c ≤ 126)
def plB (x : Str) : Bool := x.cps.toList.all pcB
def digB (c : Nat) : Bool := decide (48 ≤ c) && decide (c ≤ 57)
def letB (c : Nat) : Bool := (decide (65 ≤ c) && decide (c ≤ 90)) || (decide (97 ≤ c) && decide (c ≤ 122)) || c == 95
/-- sorts: 0 blank, 1 figure, 2 letter, 3 sign -/
def sortN (c : Nat) : Nat := if c = 32 then 0 else if digB c then 1 else if letB c then 2 else 3
def sortS : Nat → Str
  | 0 => "blank"
  | 1 => "figure"
  | 2 => "letter"
  | _ => "sign"
/-- what belongs to a word that a sign of sort k began -/
def goesB (k : Nat) (c : Nat) : Bool := (k == 2 && (sortN c == 2 || sortN c == 1)) || (k == 1 && sortN c == 1)
theorem drop_lt {p : Nat → Bool} (l : List Nat) : (l.dropWhile p).length ≤ l.length := (List.dropWhile_suffix p).length_le
/-- the words of a text -/
def wordsL : List Nat → List (List Nat)
  | [] => []
  | c :: r => if c = 32 then wordsL r else (c :: r.takeWhile (goesB (sortN c))) :: wordsL (r.dropWhile (goesB (sortN c)))
termination_by l => l.length
decreasing_by
  · simp
  · have := drop_lt (p := goesB (sortN c)) r
    simp
    omega
def wordsF (x : Str) : List Str := (wordsL x.cps.toList).map st
/-- the words, or that there are too many, too long -/
def rowB (ws : List Str) : Bool := decide (ws.length ≤ 30) && ws.all fun w => decide (w.length ≤ 20)
def bad : Exn := ⟨"BadRow", none⟩
/-- a thing that is no text -/
def Oth (d : D) : Prop := (tyKnown (tyN d) = true ∧ (tyN d == "str") = false) ∧ d.isFz = true ∧ okD d = true
def S_is_plain : SpD := fun ds Q _ => ∃ d : D, ds = [d] ∧ ((∃ x : Str, d = en x ∧ x.length ≤ 100000 ∧ Q (en (plB x)) ds) ∨ (Oth d ∧ Q (en false) ds))
def S_sort_of : SpD := fun ds Q _ => ∃ c : Nat, ds = [en (sg c)] ∧ pcB c = true ∧ Q (en (sortS (sortN c))) ds
def S_end_of : SpD := fun ds Q _ => ∃ (x : Str) (a : Nat) (c : Nat) (r : List Nat), ds = [en x, en (a : Int)] ∧ plB x = true ∧ x.length ≤ 100000 ∧ x.cps.toList.drop a = c :: r ∧ Q (en ((a + 1 + (r.takeWhile (goesB (sortN c))).length : Nat) : Int)) ds
def S_parts_of : SpD := fun ds Q _ => ∃ x : Str, ds = [en x] ∧ plB x = true ∧ x.length ≤ 100000 ∧ Q (eo (wordsF x)) ds
/-- a word -/
noncomputable def wordB (x : Str) : Bool := plB x && (decide (x.length ≤ 20) && dc (wordsF x = [x]))
noncomputable def nameB (x : Str) : Bool := wordB x && decide (sortN (x.cps.toList.headD 32) = 2)
def keptL : List Str := ["and", "def", "do", "else", "end", "for", "if", "in", "not", "or", "return", "use", "while"]
noncomputable def freeB (x : Str) : Bool := nameB x && !dc (x ∈ keptL)
def S_is_word : SpD := fun ds Q _ => ∃ d : D, ds = [d] ∧ ((∃ x : Str, d = en x ∧ x.length ≤ 100000 ∧ Q (en (wordB x)) ds) ∨ (Oth d ∧ Q (en false) ds))
def S_is_name : SpD := fun ds Q _ => ∃ d : D, ds = [d] ∧ ((∃ x : Str, d = en x ∧ x.length ≤ 100000 ∧ Q (en (nameB x)) ds) ∨ (Oth d ∧ Q (en false) ds))
def S_is_free : SpD := fun ds Q _ => ∃ d : D, ds = [d] ∧ ((∃ x : Str, d = en x ∧ x.length ≤ 100000 ∧ Q (en (freeB x)) ds) ∨ (Oth d ∧ Q (en false) ds))
def S_law_kept : SpD := fun ds Q _ => ds = [] ∧ Q (eo keptL) ds
/-! k06 .. k16: words, stretches, draws -/
/-- a word or a number -/
inductive It where
  | w (x : Str)
  | h (i : Int)
instance : Enc It := ⟨fun | .w x => .p (.str x) | .h i => .p (.int i), fun x => by cases x <;> rfl, fun x => by cases x <;> rfl, 0, fun x => by cases x <;> simp [toPy, PyData.depth], fun x y => by cases x <;> cases y <;> simp [eqD, toPy, PyData.eqv]⟩
/-- what draws are taken from -/
structure St where
  ns : List Int
  a : Int
  r : Int
  t : Int
  m : Int
def St.d (s : St) : D := .n true (.dic [.inr "cells", .inr "at", .inr "rest", .inr "turn", .inr "more"]) [ek s.ns, en s.a, en s.r, en s.t, en s.m]
def St.ok (s : St) : Prop := s.ns.length ≤ 63 ∧ 0 ≤ s.a ∧ 0 ≤ s.t ∧ 0 ≤ s.m ∧ s.m < 2147483647
theorem fz_st (s : St) : s.d.isFz = false := rfl
def S_law_begun : SpD := fun ds Q _ => ∃ ns : List Int, ds = [ek ns] ∧ ns.length ≤ 63 ∧ ∀ s : St, s.ok → Q s.d ds
def S_law_take : SpD := fun ds Q _ => ∃ (s : St) (m : Int), ds = [s.d, en m] ∧ s.ok ∧ (0 < m ∧ m < 2 ^ 128) ∧ ∀ (k : Nat) (s' : St), s'.ok → (k : Int) < m → Q (en (k : Int)) [s'.d, en m]
def S_law_free : SpD := fun ds Q _ => ∃ x : Str, ds = [en x] ∧ wordB x = true ∧ Q (en (freeB x)) ds
/-- a free name -/
def Fn (x : Str) : Prop := freeB x = true
/-- names that are used: the kept ones first -/
def Used (u : List Str) : Prop := ∃ us, u = keptL ++ us ∧ u.length ≤ 5000 ∧ (∀ x ∈ us, Fn x) ∧ u.Nodup
def S_law_name : SpD := fun ds Q _ => ∃ (s : St) (u : List Str), ds = [s.d, eo u] ∧ s.ok ∧ Used u ∧ u.length ≤ 1000 ∧ ∀ (s' : St) (x : Str), s'.ok → Fn x → x ∉ u → Q (en x) [s'.d, eo (u ++ [x])]
/-- so many names more -/
def More (u : List Str) (n : Nat) (xs u' : List Str) : Prop := xs.length = n ∧ u' = u ++ xs ∧ (∀ x ∈ xs, Fn x) ∧ xs.Nodup ∧ ∀ x ∈ xs, x ∉ u
def S_law_names : SpD := fun ds Q _ => ∃ (s : St) (u : List Str), ds = [s.d, eo u] ∧ s.ok ∧ Used u ∧ u.length ≤ 900 ∧ ∀ (s' : St) (n : Nat) (xs : List Str), s'.ok → 0 < n → n ≤ 8 → More u n xs (u ++ xs) → Q (eo xs) [s'.d, eo (u ++ xs)]
/-- words -/
def Ws (ws : List Str) : Prop := ws.length ≤ 100 ∧ ∀ w ∈ ws, wordB w = true
/-- a stretch -/
def Sx (rows : List (List Str)) : Prop := rows.length ≤ 100 ∧ ∀ r ∈ rows, Ws r
def S_law_word : SpD := fun ds Q _ => ∃ (s : St) (xs : List Str), ds = [s.d, en xs] ∧ s.ok ∧ (0 < xs.length ∧ xs.length ≤ 1000) ∧ (∀ x ∈ xs, Fn x) ∧ ∀ (s' : St) (x : Str), s'.ok → wordB x = true → (freeB x = true → x ∈ xs) → Q (en x) [s'.d, en xs]
def S_law_stretch : SpD := fun ds Q _ => ∃ (s : St) (xs : List Str) (n : Nat), ds = [s.d, en xs, en (n : Int)] ∧ s.ok ∧ (0 < xs.length ∧ xs.length ≤ 1000) ∧ (∀ x ∈ xs, Fn x) ∧ n ≤ 20 ∧ ∀ (s' : St) (rows : List (List Str)), s'.ok → rows.length = n → (∀ r ∈ rows, r.length ≤ 6 ∧ ∀ w ∈ r, wordB w = true ∧ (freeB w = true → w ∈ xs)) → Q (eoo rows) [s'.d, en xs, en (n : Int)]
def copyF (kv : List (Str × Str)) (rows : List (List Str)) : List (List Str) := rows.map fun r => r.map fun w => (aget kv w).getD w
def S_law_copy : SpD := fun ds Q _ => ∃ (rows : List (List Str)) (kv : List (Str × Str)), ds = [en rows, dE false kv] ∧ Sx rows ∧ Q (eoo (copyF kv rows)) ds
/-- a one-to-one way from names -/
def Way (xs : List Str) (kv : List (Str × Str)) : Prop := kv.map (·.1) = xs ∧ (kv.map (·.2)).Nodup ∧ ∀ p ∈ kv, Fn p.2
def S_law_ways : SpD := fun ds Q _ => ∃ (s : St) (xs u : List Str), ds = [s.d, en xs, eo u] ∧ s.ok ∧ Used u ∧ u.length ≤ 900 ∧ xs.length ≤ 500 ∧ xs.Nodup ∧ (∀ x ∈ xs, Fn x ∧ x ∈ u) ∧ ∀ (s' : St) (kv : List (Str × Str)) (us : List Str), s'.ok → Way xs kv → us.length ≤ 3 → Used (u ++ us) → (∀ p ∈ kv, p.2 ∈ u ++ us) → Q (dE true kv) [s'.d, en xs, eo (u ++ us)]
def S_law_spoilt : SpD := fun ds Q _ => ∃ (P : Str → Prop) (s : St) (rows : List (List Str)) (xs : List Str), ds = [s.d, en rows, en xs] ∧ s.ok ∧ ((∀ w, P w → wordB w = true) ∧ ∀ w, wordB w = true → (freeB w = true → w ∈ xs) → P w) ∧ (rows.length ≤ 90 ∧ ∀ r ∈ rows, r.length ≤ 90 ∧ ∀ w ∈ r, P w) ∧ (0 < xs.length ∧ xs.length ≤ 1000) ∧ (∀ x ∈ xs, Fn x) ∧
  ∀ (s' : St) (d : D) (rows' : List (List Str)), s'.ok → d.fz = en rows' → d.isFz = false → rows'.length ≤ rows.length + 1 → (∀ b, (∀ r ∈ rows, r.length ≤ b) → ∀ r ∈ rows', r.length ≤ b + 3) → (∀ r ∈ rows', ∀ w ∈ r, P w) → Q d [s'.d, en rows, en xs]
/-- marks: each name by its first coming -/
noncomputable def wSt (z : List Str × List It) (w : Str) : List Str × List It :=
  let seen := if freeB w = true ∧ w ∉ z.1 then z.1 ++ [w] else z.1
  (seen, z.2 ++ [if freeB w = true then .h (seen.idxOf w) else .w w])
noncomputable def rSt (z : List Str × List (List It)) (r : List Str) : List Str × List (List It) :=
  let y := r.foldl wSt (z.1, [])
  (y.1, z.2 ++ [y.2])
noncomputable def markF (rows : List (List Str)) : List (List It) := (rows.foldl rSt ([], [])).2
def S_mark : SpD := fun ds Q _ => ∃ rows : List (List Str), ds = [en rows] ∧ Sx rows ∧ Q (eoo (markF rows)) ds
def S_law_mark : SpD := fun ds Q _ => ∃ rows : List (List Str), ds = [en rows] ∧ Sx rows ∧ Q (eoo (markF rows)) ds
/-- twins, by looking at each two places -/
def prs (one other : List (List Str)) : List (Str × Str) := (one.zip other).flatMap fun p => p.1.zip p.2
def Tw (one other : List (List Str)) : Prop := one.map List.length = other.map List.length ∧ (∀ p ∈ prs one other, (freeB p.1 = true ∧ freeB p.2 = true) ∨ p.1 = p.2) ∧
  ∀ p ∈ prs one other, ∀ q ∈ prs one other, freeB p.1 = true → freeB p.2 = true → freeB q.1 = true → freeB q.2 = true → (p.1 = q.1 ↔ p.2 = q.2)
def S_law_twins : SpD := fun ds Q _ => ∃ one other : List (List Str), ds = [en one, en other] ∧ Sx one ∧ Sx other ∧ Q (en (dc (Tw one other))) ds
theorem use_take {s : St} {m : Int} {Q : D → List D → Prop} {E : Exn → List D → Prop} (hs : s.ok) (hm : 0 < m ∧ m < 2 ^ 128) (h : ∀ (k : Nat) (s' : St), s'.ok → (k : Int) < m → Q (en (k : Int)) [s'.d, en m]) : S_law_take [s.d, en m] Q E := ⟨s, m, rfl, hs, hm, h⟩
theorem use_free {x : Str} {Q : D → List D → Prop} {E : Exn → List D → Prop} (hx : wordB x = true) (h : Q (en (freeB x)) [en x]) : S_law_free [en x] Q E := ⟨x, rfl, hx, h⟩
theorem use_kept {Q : D → List D → Prop} {E : Exn → List D → Prop} (h : Q (eo keptL) []) : S_law_kept [] Q E := ⟨rfl, h⟩
theorem w_lenM {α : Type} {f : α → D} {xs : List α} {o : Bool} {k : D → Prop} (h : k (.int (xs.length : Nat))) : qLen [.n o .lst (xs.map f)] k := ⟨_, xs.length, rfl, by simp [lenD?], h⟩
theorem w_ixN {α : Type} {inst : Enc α} {d : D} {k : D → Prop} {ys : List α} {m : Nat} (h1 : listOf d = some (ys.map en)) (hl : m < ys.length) (h : ∀ a, a ∈ ys → ys[m]? = some a → k (en a)) : qIxS d (.p (.int (m : Nat))) k := w_ixE h1 (at_nat rfl hl) (h _ (List.getElem_mem hl) (List.getElem?_eq_getElem hl))
theorem w_ixTN {x : Str} {k : D → Prop} {m : Nat} (hl : x.length ≤ 100000) (h0 : m < x.length) (h : ∀ c, x.cps.toList[m]? = some c → k (en (sg c))) : qIxS (.p (.str x)) (.p (.int (m : Nat))) k := by
  have h0 : m < x.cps.toList.length := by rw [str_len]; exact h0
  exact w_ixT hl (at_nat rfl h0) (h _ (List.getElem?_eq_getElem h0))
theorem w_ixAny {k : D → Prop} {o : Bool} {ch : List D} {i : Int} (h0 : 0 ≤ i ∧ i < (ch.length : Nat)) (h : ∀ c ∈ ch, c.isFz = true ∧ k c) : qIxS (.n o .lst ch) (.p (.int i)) k := by
  have hl : i.toNat < ch.length := by omega
  have e : atI ch i = some ch[i.toNat] := at_nat (by omega) hl
  exact ⟨_, e, (h _ (List.getElem_mem hl)).1, (h _ (List.getElem_mem hl)).2⟩
theorem fr_oo {α : Type} [Enc α] (rows : List (List α)) : (eoo rows).fz = en rows := by
  unfold eoo
  rw [D.fz, fzL_map, List.map_map]
  show D.n false .lst _ = D.n false .lst _
  congr 1
  refine List.map_congr_left fun r _ => ?_
  exact fr_eo r
theorem fr_dE {κ β : Type} [DecidableEq κ] [Enc κ] [KeyE κ] [Enc β] (kv : List (κ × β)) : (dE true kv).fz = dE false kv := by
  have : (kv.map fun p => (en p.2 : D)) = (kv.map (·.2)).map en := by rw [List.map_map]; rfl
  unfold dE
  rw [D.fz, this, fzL_of (fzl_e _)]
theorem w_call0 {s : SpD} {ρ : DL.Env} {Q : Rv → DL.Env → Prop} {E : Exn → DL.Env → Prop} (h : s [] (fun res _ => Q (.t res) ρ) (fun _ _ => False)) : dCall0 s ρ Q E := h
theorem cutS_len (x : Str) (lo hi : Option Int) : (cutS x lo hi).length ≤ x.length := by
  rw [← str_len, ← str_len x]
  unfold cutS
  simp
  omega
theorem app_listS (a b : Str) : (a ++ b).cps.toList = a.cps.toList ++ b.cps.toList := by
  show (a.cps ++ b.cps).toList = _
  simp
theorem app_lenS (a b : Str) : (a ++ b).length = a.length + b.length := by rw [← str_len, app_listS, List.length_append, str_len, str_len]
theorem lg_ok {i : Int} (h : 0 ≤ i ∧ i < 2 ^ 128) : i.natAbs.log2 < 1920 := by
  obtain ⟨n, rfl⟩ := Int.eq_ofNat_of_zero_le h.1
  have hn : n < 2 ^ 128 := by omega
  rw [Int.natAbs_natCast]
  by_cases hz : n = 0
  · subst hz; decide
  · exact (Nat.log2_lt hz).mpr (Nat.lt_of_lt_of_le hn (Nat.pow_le_pow_right (by decide) (by decide)))
theorem w_addN {a b : Str} {k : D → Prop} (h0 : a.length + b.length ≤ 100000) (h : ∀ z : Str, z = a ++ b → z.length = a.length + b.length → k (en z)) : qAdd (.p (.str a)) (.p (.str b)) k := w_addS h0 (h _ rfl (app_lenS a b))
theorem w_cutN {a : Str} {x : Rv} {ρ : DL.Env} {k : D → Prop} {lo hi : Option Int} (h1 : look ρ x = some (.p (.str a))) (hl : a.length ≤ 100000) (h : ∀ z : Str, z = cutS a lo hi → z.length ≤ a.length → k (en z)) : cutK lo hi x ρ k := w_cutT h1 hl (h _ rfl (cutS_len a lo hi))
theorem w_ixTS {x : Str} {k : D → Prop} {m : Nat} (hl : x.length ≤ 100000) (h0 : m < x.length) (h : ∀ (c : Nat) (y : Str), x.cps.toList[m]? = some c → y = sg c → y.length = 1 → k (en y)) : qIxS (.p (.str x)) (.p (.int (m : Nat))) k := w_ixTN hl h0 fun c hc => h c _ hc rfl rfl
theorem w_addLE {α : Type} {inst : Enc α} {o o' : Bool} {xs ys : List α} {k : D → Prop} (h0 : xs.length + ys.length ≤ 100000) (h : k (eo (xs ++ ys))) : qAdd (.n o .lst (xs.map en)) (.n o' .lst (ys.map en)) k := ⟨by rw [fzl_e, fzl_e]; rfl, by rw [List.length_map, List.length_map]; exact h0, by
  unfold eo at h
  rw [List.map_append] at h
  exact h⟩
theorem w_fmN {x : Rv} {ρ : DL.Env} {Q : Rv → DL.Env → Prop} {y : Int} (h1 : look ρ x = some (.p (.int y))) (h2 : 0 ≤ y ∧ y < 2 ^ 128) (h : Q (.t (.p (.str (Str.ofString (toString y))))) ρ) : fmK x ρ Q := w_fmI h1 (lg_ok h2) h
theorem fr_p (v : V) : (D.p v).fz = .p v := by simp only [D.fz]
theorem len_empty : (Str.empty : Str).length = 0 := rfl
theorem len_us : (Str.ofString "_").length = 1 := by decide +kernel
section
variable {n : DL.Env → Prop} {rt : D → DL.Env → Prop} {bk ct : DL.Env → Prop} {ex : Exn → DL.Env → Prop} {g : DG} {tt : DT} {te : DE} {tb : DS} {vs : List Nat} {ρ : DL.Env}
theorem lc_inv2 {α σ : Type} {F : α → D} {K : List D → DL.Env → Prop} (shape : σ → DL.Env) (P : List α → List D → σ → Prop) {items : List α} {acc : List D} (s0 : σ) (e : ρ = shape s0) (h : P items acc s0) (hl : items.length + acc.length ≤ 100000)
    (st : ∀ a rest acc s, P (a :: rest) acc s → acc.length < 100000 → ∀ k : DL.Env → List D → Prop, (∀ s' acc', acc'.length ≤ acc.length + 1 → P rest acc' s' → k (shape s') acc') →
      g (.t (F a)) (shape s) fun ρ1 => tt ρ1 (fun b ρ2 => if b = true then te ρ2 (fun r ρ3 => lcA r ρ3 vs acc k) (fun _ _ => False) else k (wipeD ρ2 vs) acc) (fun _ _ => False))
    (fin : ∀ acc s, P [] acc s → K acc (shape s)) : dLcL g tt te vs K (items.map F) ρ acc := by
  subst e
  exact lc_inv shape P h hl st fin
theorem lw_inv2 {α σ : Type} {F : α → D} {items : List α} (shape : σ → DL.Env) (P : List α → σ → Prop) (s0 : σ) (e : ρ = shape s0) (h0 : P items s0)
    (step : ∀ a rest s, P (a :: rest) s → ∀ k : DL.Env → Prop, (∀ s' ρ', P rest s' → wipeD ρ' vs = shape s' → k ρ') → g (.t (F a)) (shape s) fun ρ1 => tb ⟨k, rt, fun ρ2 => n (wipeD ρ2 vs), k, ex⟩ ρ1)
    (fin : ∀ s, P [] s → n (shape s)) : dLoopW g tb vs ⟨n, rt, bk, ct, ex⟩ (items.map F) ρ := by
  subst e
  exact lw_inv shape P s0 h0 step fin
end
theorem w_strN {i : Int} {k : D → Prop} (h0 : 0 ≤ i ∧ i < 2 ^ 128) (h : ∀ z : Str, z = Str.ofString (toString i) → k (en z)) : qStr1 [.p (.int i)] k := w_strI (lg_ok h0) (h _ rfl)
theorem pad_ok {p : Int} (h : 0 ≤ p ∧ p ≤ 1000) : PadOk p = true := by
  have key : ∀ i : Fin 1001, PadOk (i.val : Int) = true := by decide +kernel
  have := key ⟨p.toNat, by omega⟩
  rwa [show ((p.toNat : Nat) : Int) = p by omega] at this
theorem w_zfillN {a : Str} {p : Int} {k : D → Prop} (h1 : 0 ≤ p ∧ p ≤ 1000) (h : ∀ z : Str, z = Txt.zfill a p → k (en z)) : qZfill (.p (.str a)) (.p (.int p)) k := w_zfill (pad_ok h1) (h _ rfl)
theorem m_popN {α : Type} {inst : Enc α} {xs' : List α} {K : Kd → List D → D → Prop} {l : Nat} (hl : l < xs'.length ∧ xs'.length ≤ 100000) (h : ∀ y, y ∈ xs' → xs'[l]? = some y → K .lst ((xs'.eraseIdx l).map en) (en y)) : mPopAt .lst (xs'.map en) [.p (.int (l : Nat))] K :=
  m_popE rfl (List.getElem?_eq_getElem hl.1) (by omega) (h _ (List.getElem_mem hl.1) (List.getElem?_eq_getElem hl.1))
/-! forms: rows of words and holes -/
abbrev Fo := List (List It)
noncomputable instance : DecidableEq It := fun a b => Classical.propDecidable (a = b)
def holeB : It → Bool
  | .h _ => true
  | .w _ => false
/-- words and holes, the holes numbered as they first come, so many ahead -/
noncomputable def frmB : Int → List It → Bool
  | _, [] => true
  | m, .h i :: r => (decide (0 ≤ i) && decide (i ≤ m)) && frmB (max m (i + 1)) r
  | m, .w x :: r => wordB x && frmB m r
def tabB (f : Fo) : Bool := decide (f.length ≤ 60) && f.all fun r => decide (r.length ≤ 30)
noncomputable def formB (f : Fo) : Bool := tabB f && frmB 0 f.flatten
/-- rows that may be handed in -/
def Fb (f : Fo) : Prop := f.length ≤ 4000 ∧ f.flatten.length ≤ 4000 ∧ ∀ x, It.w x ∈ f.flatten → x.length ≤ 100000
/-- the items that holes become -/
noncomputable def ledF : List It → List It → List It → Option (List It)
  | acc, .h i :: r, o :: s => match acc[i.toNat]? with
    | some y => if y = o then ledF acc r s else none
    | none => ledF (acc ++ [o]) r s
  | acc, .w x :: r, o :: s => if It.w x = o then ledF acc r s else none
  | acc, _, _ => some acc
def shp (f : Fo) : List Int := f.map fun r => (r.length : Int)
noncomputable def ledO (f g : Fo) : Option (List It) := if shp f = shp g then ledF [] f.flatten g.flatten else none
def badForm : Exn := ⟨"BadForm", none⟩
def S_is_hole : SpD := fun ds Q _ => ∃ d, ds = [d] ∧ d.isFz = true ∧ tyKnown (tyN d) = true ∧ Q (en (tyN d == "int")) ds
def S_is_table : SpD := fun ds Q _ => ∃ f : Fo, ds = [en f] ∧ Fb f ∧ Q (en (tabB f)) ds
def S_items_of : SpD := fun ds Q _ => ∃ f : Fo, ds = [en f] ∧ Fb f ∧ Q (eo f.flatten) ds
def S_is_form : SpD := fun ds Q _ => ∃ f : Fo, ds = [en f] ∧ Fb f ∧ Q (en (formB f)) ds
def S_need_form : SpD := fun ds Q E => ∃ f : Fo, ds = [en f] ∧ Fb f ∧ (formB f = true → Q (.p .non) ds) ∧ (formB f = false → E badForm ds)
def S_shape_of : SpD := fun ds Q _ => ∃ f : Fo, ds = [en f] ∧ Fb f ∧ Q (eo (shp f)) ds
def S_led_by : SpD := fun ds Q _ => ∃ xs ys : List It, ds = [en xs, en ys] ∧ (xs.length = ys.length ∧ xs.length ≤ 5000) ∧ frmB 0 xs = true ∧ (ledF [] xs ys = none → Q (.p .non) ds) ∧ ∀ zs, ledF [] xs ys = some zs → Q (eo zs) ds
def S_fillings : SpD := fun ds Q E => ∃ f g : Fo, ds = [en f, en g] ∧ Fb f ∧ Fb g ∧ (formB f = false → E badForm ds) ∧ (formB f = true → (ledO f g = none → Q (.p .non) ds) ∧ ∀ zs, ledO f g = some zs → Q (eo zs) ds)
def S_led : SpD := fun ds Q E => ∃ f g : Fo, ds = [en f, en g] ∧ Fb f ∧ Fb g ∧ (formB f = true ∧ formB g = true ∧ (ledO f g = none → Q (.p .non) ds) ∧ ∀ zs, ledO f g = some zs → Q (eo zs) ds)
theorem use_hole {t : It} {Q : D → List D → Prop} {E : Exn → List D → Prop} (h : Q (en (holeB t)) [en t]) : S_is_hole [en t] Q E := ⟨_, rfl, Enc.fz t, by cases t <;> rfl, by cases t <;> exact h⟩
theorem use_holeH {i : Int} {Q : D → List D → Prop} {E : Exn → List D → Prop} (h : Q (en true) [en (It.h i)]) : S_is_hole [en (It.h i)] Q E := ⟨_, rfl, rfl, rfl, h⟩
theorem use_holeW {x : Str} {Q : D → List D → Prop} {E : Exn → List D → Prop} (h : Q (en false) [en (It.w x)]) : S_is_hole [en (It.w x)] Q E := ⟨_, rfl, rfl, rfl, h⟩
theorem use_items {f : Fo} {Q : D → List D → Prop} {E : Exn → List D → Prop} (hf : Fb f) (h : Q (eo f.flatten) [en f]) : S_items_of [en f] Q E := ⟨f, rfl, hf, h⟩
theorem use_shape {f : Fo} {Q : D → List D → Prop} {E : Exn → List D → Prop} (hf : Fb f) (h : Q (eo (shp f)) [en f]) : S_shape_of [en f] Q E := ⟨f, rfl, hf, h⟩
theorem shp_len : ∀ {f g : Fo}, shp f = shp g → f.flatten.length = g.flatten.length
  | [], [], _ => rfl
  | [], _ :: _, h => by simp [shp] at h
  | _ :: _, [], h => by simp [shp] at h
  | r :: f, s :: g, h => by
    unfold shp at h
    simp only [List.map_cons, List.cons.injEq] at h
    have := shp_len (f := f) (g := g) h.2
    rw [List.flatten_cons, List.flatten_cons, List.length_append, List.length_append, this]
    omega
/-- so many holes, if they come in order -/
def cntF : Nat → List It → Nat
  | m, [] => m
  | m, .h i :: r => cntF (max m (i.toNat + 1)) r
  | m, .w _ :: r => cntF m r
/-- what is put for holes -/
def putI (zs : List It) : It → It
  | .h i => (zs[i.toNat]?).getD (.h i)
  | .w x => .w x
/-! forms: filling -/
def badFill : Exn := ⟨"BadFilling", none⟩
/-- a thing whose kind is known, a text of it not too long -/
def Kn (d : D) : Prop := d.isFz = true ∧ tyKnown (tyN d) = true ∧ okD d = true ∧ ∀ x : Str, d = en x → x.length ≤ 100000
noncomputable def wordD (d : D) : Bool := match d with
  | .p (.str x) => wordB x
  | _ => false
def S_many_holes : SpD := fun ds Q _ => ∃ f : Fo, ds = [en f] ∧ Fb f ∧ formB f = true ∧ Q (en (cntF 0 f.flatten : Int)) ds
def S_holes_of : SpD := fun ds Q E => ∃ f : Fo, ds = [en f] ∧ Fb f ∧ (formB f = false → E badForm ds) ∧ (formB f = true → Q (en (cntF 0 f.flatten : Int)) ds)
def S_put_in_holes : SpD := fun ds Q _ => ∃ (f : Fo) (zs : List It), ds = [en f, en zs] ∧ Fb f ∧ (∀ r ∈ f, ∀ i, It.h i ∈ r → 0 ≤ i ∧ i < (zs.length : Nat)) ∧ Q (eoo (f.map fun r => r.map (putI zs))) ds
/-- things to fill a form with: a list of things, or no list -/
def S_filled : SpD := fun ds Q E => ∃ (f : Fo) (d : D), ds = [en f, d] ∧ Fb f ∧ formB f = true ∧
  ((∃ ch, d = .n false .lst ch ∧ ch.length ≤ 100000 ∧ (∀ c ∈ ch, Kn c) ∧ ((ch.length = cntF 0 f.flatten ∧ ∀ c ∈ ch, wordD c = true) → ∀ us : List Str, d = en us → Q (eoo (f.map fun r => r.map (putI (us.map .w)))) ds) ∧ (¬ (ch.length = cntF 0 f.flatten ∧ ∀ c ∈ ch, wordD c = true) → E badFill ds)) ∨
   (d.isFz = true ∧ tyKnown (tyN d) = true ∧ (tyN d == "list") = false ∧ E badFill ds))
/-! draws of k75 .. k81, k86, k98 (more 23, 40014) -/
abbrev S_law_begunx : SpD := S_law_begun
abbrev S_law_takex : SpD := S_law_take
/-! k75, k77 .. k81, k86: words, pools, names -/
def S_law_wordg : SpD := fun ds Q _ => ∃ s : St, ds = [s.d] ∧ s.ok ∧ ∀ (s' : St) (x : Str), s'.ok → wordB x = true → Q (en x) [s'.d]
def S_law_poolg : SpD := fun ds Q _ => ∃ s : St, ds = [s.d] ∧ s.ok ∧ ∀ (s' : St) (xs : List Str), s'.ok → 0 < xs.length → xs.length ≤ 9 → (∀ x ∈ xs, wordB x = true) → Q (eo xs) [s'.d]
def S_law_nameg : SpD := fun ds Q _ => ∃ (s : St) (xs : List Str), ds = [s.d, en xs] ∧ s.ok ∧ xs.length ≤ 1000 ∧ (∀ x ∈ xs, wordB x = true) ∧ ∀ (s' : St) (x : Str), s'.ok → Fn x → Q (en x) [s'.d, en xs]
def S_law_unlike : SpD := fun ds Q _ => ∃ (s : St) (xs ns : List Str), ds = [s.d, en xs, en ns] ∧ s.ok ∧ xs.length ≤ 1000 ∧ (∀ x ∈ xs, wordB x = true) ∧ ns.length ≤ 39 ∧ ∀ (s' : St) (x : Str), s'.ok → Fn x → x ∉ ns → Q (en x) [s'.d, en xs, en ns]
/-! k79, k86: forms filled by the law, copies, items -/
def S_law_putg : SpD := fun ds Q _ => ∃ (f : Fo) (zs : List It), ds = [en f, en zs] ∧ Fb f ∧ (∀ r ∈ f, ∀ i, It.h i ∈ r → 0 ≤ i ∧ i < (zs.length : Nat)) ∧ Q (eoo (f.map fun r => r.map (putI zs))) ds
def S_law_copyg : SpD := fun ds Q _ => ∃ f : Fo, ds = [en f] ∧ Fb f ∧ Q (eoo f) ds
/-- an item that may come next, and how many holes came by then -/
def ItN (xs : List Str) (a b : Nat) (t : It) (a' : Nat) : Prop := (∃ x ∈ xs, t = .w x ∧ a' = a) ∨ ∃ i : Nat, t = .h (i : Int) ∧ i ≤ a ∧ i < b ∧ a' = max a (i + 1)
def S_law_item : SpD := fun ds Q _ => ∃ (s : St) (xs : List Str) (a b : Nat), ds = [s.d, en xs, eo [(a : Int), (b : Int)]] ∧ s.ok ∧ (0 < xs.length ∧ xs.length ≤ 1000) ∧ (a ≤ 1000 ∧ b ≤ 1000) ∧ ∀ (s' : St) (t : It) (a' : Nat), s'.ok → ItN xs a b t a' → Q (en t) [s'.d, en xs, eo [(a' : Int), (b : Int)]]
def S_law_all : SpD := fun ds Q _ => ∃ fs : List Fo, ds = [en fs] ∧ fs.length ≤ 100 ∧ (∀ f ∈ fs, Fb f ∧ f.length ≤ 400) ∧ Q (eoo fs.flatten) ds
/-! a record of four: name, rows, what these come to, how many holes -/
structure T4 (α β γ δ : Type) where
  a : α
  b : β
  c : γ
  d : δ
instance {α β γ δ : Type} [Enc α] [Enc β] [Enc γ] [Enc δ] : Enc (T4 α β γ δ) := ⟨fun x => .n false .tup [en x.a, en x.b, en x.c, en x.d], fun x => by simp [D.isFz, isFzL, Enc.fz], fun x => by simp [toPy, toPyL, PyData.plain, PyData.plainAll, Enc.lay], max (Enc.dep α) (max (Enc.dep β) (max (Enc.dep γ) (Enc.dep δ))) + 1, fun x => by
  have := Enc.de x.a
  have := Enc.de x.b
  have := Enc.de x.c
  have := Enc.de x.d
  simp only [toPy, toPyL, PyData.depth, PyData.depthAll]
  omega, fun x y => by
  obtain ⟨a, b, c, d⟩ := x
  obtain ⟨a', b', c', d'⟩ := y
  unfold eqD
  simp only [toPy, toPyL, PyData.eqv, PyData.eqvAll, Bool.and_true, Bool.and_eq_true, T4.mk.injEq]
  exact and_congr (Enc.eq a a') (and_congr (Enc.eq b b') (and_congr (Enc.eq c c') (Enc.eq d d')))⟩
/-- a form that was made: its name, its rows, all rows that these come to, so many holes -/
abbrev Mde := T4 Str Fo Fo Int
theorem w_m1 {x : Mde} {k : D → Prop} (h : k (en x.b)) : qIxS (en x) (.p (.int 1)) k := ⟨en x.b, rfl, Enc.fz x.b, h⟩
def S_law_forms : SpD := fun ds Q _ => ∃ (s : St) (ms : List Mde), ds = [s.d, en ms] ∧ s.ok ∧ ms.length ≤ 100 ∧ (ms.map (·.a)).Nodup ∧ ∀ (s' : St) (kv : List (Str × Fo)), s'.ok → kv.Perm (ms.map fun m => (m.a, m.b)) → Q (dE true kv) [s'.d, en ms]
/-! the program's folds: calls laid out -/
abbrev Bk := List (Str × Fo)
abbrev Rwt := List (List Str)
def badCall : Exn := ⟨"BadCall", none⟩
def noForm (w : Str) : Exn := ⟨"NoForm", some ("name", .p (.str w))⟩
def ringX (w : Str) : Exn := ⟨"Ring", some ("name", .p (.str w))⟩
def tooMany : Exn := ⟨"TooMany", none⟩
def itX : It → Str
  | .w x => x
  | .h _ => Str.empty
noncomputable def callH (within : List Str) (w : Str) (r : List Str) (f : Fo) : Except Exn Rwt := if w ∈ within then .error (ringX w) else if r.length = cntF 0 f.flatten then .ok (f.map fun row => row.map fun t => itX (putI (r.map .w) t)) else .error badFill
noncomputable def callG (kv : Bk) (within : List Str) (w : Str) (r : List Str) : Except Exn Rwt := if freeB w = true then (aget kv w).elim (.error (noForm w)) (callH within w r) else .error badCall
/-- the rows that a call stands for -/
noncomputable def callF (kv : Bk) (within : List Str) : List Str → Except Exn Rwt
  | _ :: w :: r => callG kv within w r
  | _ => .error badCall
/-- what comes of it -/
def Out {α : Type} (c : Except Exn α) (E : Exn → Prop) (Q : α → Prop) : Prop := match c with
  | .error e => E e
  | .ok x => Q x
/-- forms that may be laid -/
def Bok (kv : Bk) : Prop := kv.length ≤ 100 ∧ (kv.map (·.1)).Nodup ∧ ∀ p ∈ kv, Fb p.2 ∧ formB p.2 = true
def Txs (r : List Str) : Prop := r.length ≤ 1000 ∧ ∀ x ∈ r, x.length ≤ 1000
def S_rows_called : SpD := fun ds Q E => ∃ (row : List Str) (kv : Bk) (within : List Str), ds = [en row, dE false kv, en within] ∧ Txs row ∧ Bok kv ∧ within.length ≤ 1000 ∧ Out (callF kv within row) (fun e => E e ds) fun rows => ∀ d : D, d.fz = en rows → Q d ds
noncomputable def layL (g : Rwt → List Str → Except Exn Rwt) : Rwt → Rwt → Except Exn Rwt
  | [], found => .ok found
  | row :: rest, found => match g found row with
    | .error e => .error e
    | .ok found' => layL g rest found'
noncomputable def layC (kv : Bk) (within : List Str) (next : List Str → Rwt → Rwt → Except Exn Rwt) (found : Rwt) (row : List Str) : Except Exn Rwt :=
  if row.take 1 = [Str.ofString "use"] then match callF kv within row with
    | .error e => .error e
    | .ok rows => next (within ++ [row.getD 1 Str.empty]) rows found
  else if found.length = 400 then .error tooMany else .ok (found ++ [row])
/-- rows laid out behind those found -/
noncomputable def layX : Nat → Bk → List Str → Rwt → Rwt → Except Exn Rwt
  | 0, _, _, _, _ => .error tooMany
  | k + 1, kv, within, rows, found => layL (layC kv within (layX k kv)) rows found
def S_lay_out : Nat → SpD
  | 0 => fun _ _ _ => False
  | k + 1 => fun ds Q E => ∃ (rows : Rwt) (kv : Bk) (within : List Str) (found : Rwt), ds = [en rows, dE false kv, en within, eoo found] ∧ (rows.length ≤ 4000 ∧ ∀ r ∈ rows, Txs r) ∧ Bok kv ∧ (within.Nodup ∧ ∀ w ∈ within, w ∈ kv.map (·.1)) ∧ kv.length ≤ within.length + k ∧ found.length ≤ 400 ∧
    Out (layX (k + 1) kv within rows found) (fun e => ∀ out : Rwt, E e [en rows, dE false kv, en within, eoo out]) fun out => Q (.p .non) [en rows, dE false kv, en within, eoo out]
def noRows : Exn := ⟨"NoRows", none⟩
def S_need_forms : SpD := fun ds Q E => ∃ kv : Bk, ds = [dE false kv] ∧ kv.length ≤ 100 ∧ (kv.map (·.1)).Nodup ∧ (∀ p ∈ kv, Fb p.2) ∧ ((∃ p ∈ kv, formB p.2 = false) → E badForm ds) ∧ ((∀ p ∈ kv, formB p.2 = true) → ((∃ p ∈ kv, p.2 = []) → E noRows ds) ∧ ((∀ p ∈ kv, p.2 ≠ []) → Q (.p .non) ds))
def S_unfold : SpD := fun ds Q E => ∃ (rows : Rwt) (kv : Bk), ds = [en rows, dE false kv] ∧ (rows.length ≤ 4000 ∧ ∀ r ∈ rows, Txs r) ∧ Bok kv ∧ kv.length ≤ 31 ∧ (∀ p ∈ kv, p.2 ≠ []) ∧ Out (layX 32 kv [] rows []) (fun e => E e ds) fun out => Q (eoo out) ds
/-! k75, k77, k78: forms and stretches drawn, fillings looked for -/
/-- items that come one behind the other -/
def ItsN (xs : List Str) (b : Nat) : Nat → List It → Nat → Prop
  | a, [], a' => a' = a
  | a, t :: r, a' => ∃ a1, ItN xs a b t a1 ∧ ItsN xs b a1 r a'
/-- what items are -/
def Gd (xs : List Str) (d : Nat) (t : It) : Prop := (∃ x ∈ xs, t = .w x) ∨ ∃ i : Nat, t = .h (i : Int) ∧ i < d
def S_law_words : SpD := fun ds Q _ => ∃ (s : St) (xs : List Str) (n : Nat), ds = [s.d, en xs, en (n : Int)] ∧ s.ok ∧ (0 < xs.length ∧ xs.length ≤ 1000) ∧ n ≤ 100 ∧ ∀ (s' : St) (ws : List Str), s'.ok → ws.length = n → (∀ w ∈ ws, w ∈ xs) → Q (eo ws) [s'.d, en xs, en (n : Int)]
def S_law_form : SpD := fun ds Q _ => ∃ (s : St) (xs : List Str) (n : Nat), ds = [s.d, en xs, en (n : Int)] ∧ s.ok ∧ (0 < xs.length ∧ xs.length ≤ 1000) ∧ n ≤ 4 ∧ ∀ (s' : St) (f : Fo) (h : Nat), s'.ok → f.length = n → (∀ r ∈ f, r.length ≤ 5) → ItsN xs 1000 0 f.flatten h → Q (en (f, (h : Int))) [s'.d, en xs, en (n : Int)]
def S_law_spoiltg : SpD := fun ds Q _ => ∃ (s : St) (rows : List (List Str)) (xs : List Str), ds = [s.d, en rows, en xs] ∧ s.ok ∧ (rows.length ≤ 90 ∧ ∀ r ∈ rows, r.length ≤ 90) ∧ (0 < xs.length ∧ xs.length ≤ 1000) ∧
  ∀ (s' : St) (d : D) (rows' : List (List Str)), s'.ok → d.fz = en rows' → d.isFz = false → rows'.length ≤ rows.length + 1 → (∀ r ∈ rows', (r.length ≤ 3 ∨ ∃ r0 ∈ rows, r.length ≤ r0.length + 1) ∧ ∀ w ∈ r, w ∈ xs ∨ ∃ r0 ∈ rows, w ∈ r0) → Q d [s'.d, en rows, en xs]
def S_law_stretchg : SpD := fun ds Q _ => ∃ (s : St) (xs : List Str) (f : Fo) (h : Nat), ds = [s.d, en xs, en f, en (h : Int)] ∧ s.ok ∧ (0 < xs.length ∧ xs.length ≤ 1000) ∧ (∀ x ∈ xs, wordB x = true) ∧ f.length ≤ 4 ∧ h ≤ 60 ∧ (∀ r ∈ f, r.length ≤ 29 ∧ ∀ t ∈ r, Gd xs h t) ∧
  ∀ (s' : St) (rows : List (List Str)), s'.ok → rows.length ≤ 60 → (∀ r ∈ rows, r.length ≤ 30 ∧ ∀ w ∈ r, w ∈ xs) → Q (eo rows) [s'.d, en xs, en f, en (h : Int)]
def S_law_filling : SpD := fun ds Q _ => ∃ f g : Fo, ds = [en f, en g] ∧ Fb f ∧ Fb g ∧ frmB 0 f.flatten = true ∧ (ledO f g = none → Q (.p .non) ds) ∧ ∀ zs, ledO f g = some zs → Q (eo zs) ds
def S_law_opened : SpD := fun ds Q _ => ∃ (s : St) (rows : List (List Str)) (m : Nat), ds = [s.d, en rows, en (m : Int)] ∧ s.ok ∧ (rows.length ≤ 60 ∧ ∀ r ∈ rows, r.length ≤ 30) ∧ m ≤ 60 ∧
  ∀ (s' : St) (f : Fo) (h : Nat), s'.ok → f.length = rows.length → (∀ r ∈ f, r.length ≤ 30) → ItsN rows.flatten 1000 0 f.flatten h → h ≤ m → Q (eoo f) [s'.d, en rows, en (m : Int)]
/-! the program's folds: parts given way to calls -/
def wideX : Exn := ⟨"Wide", none⟩
def badName : Exn := ⟨"BadName", none⟩
def noPlaceF : Exn := ⟨"NoPlace", none⟩
def overlapX : Exn := ⟨"Overlap", none⟩
def noFit : Exn := ⟨"NoFit", none⟩
def spotB (l : Int) (d : D) : Bool := match d with
  | .p (.int i) => decide (0 ≤ i) && decide (i ≤ l)
  | _ => false
def S_is_spot : SpD := fun ds Q _ => ∃ (d : D) (l : Int), ds = [d, en l] ∧ d.isFz = true ∧ tyKnown (tyN d) = true ∧ Q (en (spotB l d)) ds
/-- what is handed as a name, and whether it is a free one -/
def NmO (d : D) (b : Bool) : Prop := (∃ x : Str, d = en x ∧ x.length ≤ 100000 ∧ b = freeB x) ∨ (Oth d ∧ b = false)
def numD (d : D) : Int := match d with
  | .p (.int i) => i
  | _ => 0
def gapB (n : Nat) : List Int → Bool
  | a :: b :: r => decide (a + n ≤ b) && gapB n (b :: r)
  | _ => true
/-- the first refusal that is due, or none -/
def NF (g f : Fo) (sp : List D) (b : Bool) (E : Exn → Prop) (Q : Prop) : Prop :=
  (formB f = false → E badForm) ∧ (formB f = true → (f = [] → E noRows) ∧ (f ≠ [] → (28 < cntF 0 f.flatten → E wideX) ∧ (cntF 0 f.flatten ≤ 28 → (b = false → E badName) ∧ (b = true →
    ((sp.all (spotB ((g.length : Int) - (f.length : Int)))) = false → E noPlaceF) ∧ ((sp.all (spotB ((g.length : Int) - (f.length : Int)))) = true → (gapB f.length (sp.map numD) = false → E overlapX) ∧ (gapB f.length (sp.map numD) = true → Q))))))
def FoldIn (g f : Fo) (sp : List D) (nm : D) (b : Bool) : Prop := Fb g ∧ Fb f ∧ (sp.length ≤ 1000 ∧ ∀ d ∈ sp, d.isFz = true ∧ tyKnown (tyN d) = true) ∧ NmO nm b
def S_need_fold : SpD := fun ds Q E => ∃ (g f : Fo) (sp : List D) (nm : D) (b : Bool), ds = [en g, .n false .lst sp, nm, en f] ∧ FoldIn g f sp nm b ∧ NF g f sp b (fun e => E e ds) (Q (.p .non) ds)
def useI (x : Str) (zs : List It) : List It := [It.w (Str.ofString "use"), It.w x] ++ zs
/-- rows from a place on, calls for parts -/
noncomputable def foldF (g f : Fo) (x : Str) : Nat → List Nat → Except Exn Fo
  | k, [] => .ok (g.drop k)
  | k, p :: ps => match ledO f ((g.drop p).take f.length) with
    | none => .error noFit
    | some zs => match foldF g f x (p + f.length) ps with
      | .error e => .error e
      | .ok r => .ok ((g.drop k).take (p - k) ++ [useI x zs] ++ r)
def S_fold : SpD := fun ds Q E => ∃ (g f : Fo) (sp : List D) (nm : D) (b : Bool), ds = [en g, .n false .lst sp, nm, en f] ∧ FoldIn g f sp nm b ∧ (g.length ≤ 200 ∧ sp.length ≤ 200) ∧ NF g f sp b (fun e => E e ds) (∀ x : Str, nm = en x → Out (foldF g f x 0 (sp.map fun d => (numD d).toNat)) (fun e => E e ds) fun out => Q (eoo out) ds)
/-! forms, and what is handed in as forms but is none -/
def RoI (r : D) : Prop := r.isFz = true ∧ tyKnown (tyN r) = true ∧ ((∃ c, r = .n false .lst c ∧ c.length ≤ 4000 ∧ ∀ t ∈ c, Kn t) ∨ (tyN r == "list") = false)
def FoI (d : D) : Prop := d.isFz = true ∧ tyKnown (tyN d) = true ∧ ((∃ ch, d = .n false .lst ch ∧ ch.length ≤ 4000 ∧ ∀ r ∈ ch, RoI r) ∨ (tyN d == "list") = false)
def chL : D → List D
  | .n _ .lst ch => ch
  | _ => []
def rowD (r : D) : Bool := (tyN r == "list") && decide ((chL r).length ≤ 30)
def tabD (d : D) : Bool := (tyN d == "list") && (decide ((chL d).length ≤ 60) && (chL d).all rowD)
def itemsD (d : D) : List D := ((chL d).map chL).flatten
noncomputable def frmD : Int → List D → Bool
  | _, [] => true
  | m, .p (.int i) :: r => (decide (0 ≤ i) && decide (i ≤ m)) && frmD (max m (i + 1)) r
  | m, .p (.str x) :: r => wordB x && frmD m r
  | _, _ :: _ => false
noncomputable def fmB (d : D) : Bool := tabD d && frmD 0 (itemsD d)
def S_is_tablex : SpD := fun ds Q _ => ∃ d : D, ds = [d] ∧ FoI d ∧ Q (en (tabD d)) ds
def S_items_ofx : SpD := fun ds Q _ => ∃ d : D, ds = [d] ∧ FoI d ∧ tabD d = true ∧ Q (.own (itemsD d)) ds
def S_is_formx : SpD := fun ds Q _ => ∃ d : D, ds = [d] ∧ FoI d ∧ Q (en (fmB d)) ds
def S_need_formx : SpD := fun ds Q E => ∃ d : D, ds = [d] ∧ FoI d ∧ (fmB d = true → Q (.p .non) ds) ∧ (fmB d = false → E badForm ds)
/-! what is no form, drawn from a form -/
/-- what is handed in as a form, but is none -/
def OddF (d : D) : Prop := FoI d ∧ fmB d = false
def S_law_odd : SpD := fun ds Q _ => ∃ (s : St) (xs : List Str) (f : Fo) (h : Nat), ds = [s.d, en f, en (h : Int)] ∧ s.ok ∧ (f.length ≤ 4 ∧ ∀ r ∈ f, r.length ≤ 30) ∧ (∀ x ∈ xs, wordB x = true) ∧ h ≤ 1000 ∧ ItsN xs 1000 0 f.flatten h ∧ ∀ (s' : St) (d : D), s'.ok → OddF d.fz → Q d [s'.d, en f, en (h : Int)]
/-! k75 -/
def S_is_fit : SpD := fun ds Q _ => ∃ g f : Fo, ds = [en g, en f] ∧ Fb g ∧ Fb f ∧ tabB g = true ∧ tabB f = true ∧ frmB 0 f.flatten = true ∧ Q (en ((ledO f g).isSome)) ds
/-- where parts begin that fit -/
noncomputable def places (f g : Fo) : List Nat := (List.range ((g.length : Int) - (f.length : Int) + 1).toNat).filter fun p => (ledO f ((g.drop p).take f.length)).isSome
def S_fitting : SpD := fun ds Q E => ∃ (g : Fo) (d : D), ds = [en g, d] ∧ (g.length ≤ 60 ∧ ∀ r ∈ g, r.length ≤ 30) ∧ Fb g ∧ FoI d ∧ (fmB d = false → E badForm ds) ∧ (fmB d = true → ∃ f : Fo, d = en f ∧ Fb f ∧ (f = [] → E noRows ds) ∧ (f ≠ [] → Q (eo ((places f g).map fun p : Nat => (p : Int))) ds))
def refT (a b : Bool) : D := .n false .tup [.p (.bl a), .p (.bl b), .p (.bl true), .n false .tup [.p (.bl false), .p (.bl false), .p (.bl false)]]
def S_law_asked : SpD := fun ds Q _ => ∃ (g : Fo) (d : D), ds = [en g, d] ∧ (g.length ≤ 60 ∧ ∀ r ∈ g, r.length ≤ 30) ∧ Fb g ∧ FoI d ∧ (fmB d = false → Q (refT true false) ds) ∧ (fmB d = true → ∃ f : Fo, d = en f ∧ Fb f ∧ (f = [] → Q (refT false true) ds) ∧ (f ≠ [] → Q (eo ((places f g).map fun p : Nat => (p : Int))) ds))
def S_law : SpD := fun ds Q _ => ∃ ns : List Int, ds = [ek ns] ∧ ns.length ≤ 63 ∧ ∀ ds', Q (.p (.bl true)) ds'
abbrev g_0_form_stretch_fitting {α : Type} (us ws : List α) : List α := gP 0 2 [1, 0] us ws
/- is_plain: thing; N = 2: 0 thing 1 sign -/
def t_is_plain : DS := (dRet (dAndV (dCB qIsi (dCons (dVar 0) (dCons (dC (.ty "str")) dNil))) (dCB qAll (dCons (dLc (dIStr (dVar 0)) (dName 1) dTrue (dChain qLe qLe (dC (.str " ")) (dVar 1) (dC (.str "~"))) [1]) dNil))))
/- sort_of: sign; N = 1: 0 sign -/
def t_sort_of : DS := (dSeq (dIfS (dTst (dOp qEq (dVar 0) (dC (.str " ")))) (dRet (dC (.str "blank"))) dNext)
    (dSeq (dIfS (dTst (dUn qIsdigit (dVar 0))) (dRet (dC (.str "figure"))) dNext)
    (dSeq (dIfS (dOr (dTst (dUn qIsalpha (dVar 0))) (dTst (dOp qEq (dVar 0) (dC (.str "_"))))) (dRet (dC (.str "letter"))) dNext)
    (dRet (dC (.str "sign"))))))
/- end_of: text, at; N = 4: 0 text 1 at 2 sort 3 end -/
def t_end_of : DS := (dSeq (dAsg (dCall [false] S_sort_of (dCons (dOp qIxS (dVar 0) (dVar 1)) dNil)) (dName 2))
    (dSeq (dAsg (dOp qAdd (dVar 1) (dC (.int 1))) (dName 3))
    (dSeq (dIfS (dTst (dOp qEq (dVar 2) (dC (.str "letter")))) (dWhile (dAnd (dTst (dOp qLt (dVar 3) (dCB qLen (dCons (dVar 0) dNil)))) (dTst (dOp (qInS false) (dCall [false] S_sort_of (dCons (dOp qIxS (dVar 0) (dVar 3)) dNil)) (dTup (dCons (dC (.str "letter")) (dCons (dC (.str "figure")) dNil)))))) (dAugI 3 (dC (.int 1)))) (dIfS (dTst (dOp qEq (dVar 2) (dC (.str "figure")))) (dWhile (dAnd (dTst (dOp qLt (dVar 3) (dCB qLen (dCons (dVar 0) dNil)))) (dTst (dOp qEq (dCall [false] S_sort_of (dCons (dOp qIxS (dVar 0) (dVar 3)) dNil)) (dC (.str "figure"))))) (dAugI 3 (dC (.int 1)))) dNext))
    (dRet (dMv 3)))))
/- parts_of: text; N = 4: 0 text 1 found 2 at 3 end -/
def t_parts_of : DS := (dSeq (dAsg (dLst dNil) (dName 1))
    (dSeq (dAsg (dC (.int 0)) (dName 2))
    (dSeq (dWhile (dTst (dOp qLt (dVar 2) (dCB qLen (dCons (dVar 0) dNil)))) (dSeq (dAsg (dCall [false, false] S_end_of (dCons (dVar 0) (dCons (dVar 2) dNil))) (dName 3))
    (dSeq (dIfS (dTst (dOp qNe (dOp qIxS (dVar 0) (dVar 2)) (dC (.str " ")))) (dDrop (dMut "list" 1 mAppend (dCons (dCut (dVar 0) (dPart (dVar 2)) (dPart (dVar 3))) dNil))) dNext)
    (dAsg (dVar 3) (dName 2)))))
    (dRet (dMv 1)))))
/- is_word: thing; N = 1: 0 thing -/
def t_is_word : DS := (dRet (dAndV (dCall [false] S_is_plain (dCons (dVar 0) dNil)) (dAndV (dOp qLe (dCB qLen (dCons (dVar 0) dNil)) (dC (.int 20))) (dOp qEq (dCall [false] S_parts_of (dCons (dVar 0) dNil)) (dLst (dCons (dVar 0) dNil))))))
/- is_hole: item; N = 1: 0 item -/
def t_is_hole : DS := (dRet (dAndV (dCB qIsi (dCons (dVar 0) (dCons (dC (.ty "int")) dNil))) (dNotV (dCB qIsi (dCons (dVar 0) (dCons (dC (.ty "bool")) dNil))))))
/- is_table: thing; N = 2: 0 thing 1 row -/
def t_is_tablex : DS := (dSeq (dIfS (dOr (dNot (dTst (dCB qIsi (dCons (dVar 0) (dCons (dC (.ty "list")) dNil))))) (dTst (dOp qGt (dCB qLen (dCons (dVar 0) dNil)) (dC (.int 60))))) (dRet (dC (.bl false))) dNext)
    (dRet (dCB qAll (dCons (dLc (dISeq (dVar 0)) (dName 1) dTrue (dAndV (dCB qIsi (dCons (dVar 1) (dCons (dC (.ty "list")) dNil))) (dOp qLe (dCB qLen (dCons (dVar 1) dNil)) (dC (.int 30)))) [1]) dNil))))
/- items_of: rows; N = 3: 0 rows 1 found 2 row -/
def t_items_ofx : DS := (dSeq (dAsg (dLst dNil) (dName 1))
    (dSeq (dForW (dISeq (dVar 0)) (dName 2) (dDrop (dMut "list" 1 mExtend (dCons (dVar 2) dNil))) [2])
    (dRet (dMv 1))))
/- is_form: thing; N = 3: 0 thing 1 many 2 item -/
def t_is_formx : DS := (dSeq (dIfS (dNot (dTst (dCall [false] S_is_tablex (dCons (dVar 0) dNil)))) (dRet (dC (.bl false))) dNext)
    (dSeq (dAsg (dC (.int 0)) (dName 1))
    (dSeq (dForW (dISeq (dCall [false] S_items_ofx (dCons (dVar 0) dNil))) (dName 2) (dIfS (dTst (dCall [false] S_is_hole (dCons (dVar 2) dNil))) (dSeq (dIfS (dOr (dTst (dOp qLt (dVar 2) (dC (.int 0)))) (dTst (dOp qGt (dVar 2) (dVar 1)))) (dRet (dC (.bl false))) dNext)
    (dAsg (dCB qMax2 (dCons (dVar 1) (dCons (dOp qAdd (dVar 2) (dC (.int 1))) dNil))) (dName 1))) (dIfS (dNot (dTst (dCall [false] S_is_word (dCons (dVar 2) dNil)))) (dRet (dC (.bl false))) dNext)) [2])
    (dRet (dC (.bl true))))))
/- need_form: thing; N = 1: 0 thing -/
def t_need_formx : DS := (dIfS (dNot (dTst (dCall [false] S_is_formx (dCons (dVar 0) dNil)))) (dRaise "BadForm") dNext)
/- shape_of: rows; N = 2: 0 rows 1 row -/
def t_shape_of : DS := (dRet (dLc (dISeq (dVar 0)) (dName 1) dTrue (dCB qLen (dCons (dVar 1) dNil)) [1]))
/- led_by: items, others; N = 6: 0 items 1 others 2 found 3 item 4 other 5 k -/
def t_led_by : DS := (dSeq (dAsg dNewD (dName 2))
    (dSeq (dForW (dIZip (dCons (dVar 0) (dCons (dVar 1) dNil))) (dGTup 2 (dGCons (dName 3) (dGCons (dName 4) dGNil))) (dIfS (dTst (dCall [false] S_is_hole (dCons (dVar 3) dNil))) (dIfS (dTst (dOp qNe (dMut "dict" 2 mSetd (dCons (dVar 3) (dCons (dVar 4) dNil))) (dVar 4))) (dRet (dC .non)) dNext) (dIfS (dTst (dOp qNe (dVar 3) (dVar 4))) (dRet (dC .non)) dNext)) [3, 4])
    (dRet (dLc (dIRng1 (dCons (dCB qLen (dCons (dVar 2) dNil)) dNil)) (dName 5) dTrue (dOp qIxS (dVar 2) (dVar 5)) [5]))))
/- is_fit: part, form; N = 2: 0 part 1 form -/
def t_is_fit : DS := (dRet (dAndV (dOp qEq (dCall [false] S_shape_of (dCons (dVar 0) dNil)) (dCall [false] S_shape_of (dCons (dVar 1) dNil))) (dOp qNotN (dCall [false, false] S_led_by (dCons (dCall [false] S_items_ofx (dCons (dVar 1) dNil)) (dCons (dCall [false] S_items_ofx (dCons (dVar 0) dNil)) dNil))) (dC .non))))
/- fitting: stretch, form; N = 4: 0 stretch 1 form 2 last 3 at -/
def t_fitting : DS := (dSeq (dDrop (dCall [false] S_need_formx (dCons (dVar 1) dNil)))
    (dSeq (dIfS (dTst (dOp qEq (dCB qLen (dCons (dVar 1) dNil)) (dC (.int 0)))) (dRaise "NoRows") dNext)
    (dSeq (dAsg (dOp qSub (dCB qLen (dCons (dVar 0) dNil)) (dCB qLen (dCons (dVar 1) dNil))) (dName 2))
    (dRet (dLc (dIRng1 (dCons (dOp qAdd (dVar 2) (dC (.int 1))) dNil)) (dName 3) (dTst (dCall [false, false] S_is_fit (dCons (dCut (dVar 0) (dPart (dVar 3)) (dPart (dOp qAdd (dVar 3) (dCB qLen (dCons (dVar 1) dNil))))) (dCons (dVar 1) dNil)))) (dVar 3) [3])))))
/- _law_begun: _law_script; N = 1: 0 _law_script -/
def t_law_begunx : DS := (dRet (dDisp ["cells", "at", "rest", "turn", "more"] (dDs [(dVar 0), (dC (.int 0)), (dC (.int 0)), (dC (.int 0)), (dC (.int 23))])))
/- _law_take: _law_state, _law_many; N = 5: 0 _law_state 1 _law_many 2 _law_cells 3 _law_found 4 _law_cell -/
def t_law_takex : DS := (dSeq (dAsg (dOp qIxS (dVar 0) (dC (.str "cells"))) (dName 2))
    (dSeq (dWhileW (dAnd (dTst (dOp qLt (dOp qIxS (dVar 0) (dC (.str "rest"))) (dC (.int 2)))) (dTst (dOp qLt (dOp qIxS (dVar 0) (dC (.str "at"))) (dCB qLen (dCons (dVar 2) dNil))))) (dSeq (dIfS (dTst (dOp qGe (dOp qIxS (dVar 2) (dOp qIxS (dVar 0) (dC (.str "at")))) (dOp qPow (dC (.int 10)) (dC (.int 18))))) (dPut "dict" 0 mPutD (dOp qIxS (dVar 2) (dOp qIxS (dVar 0) (dC (.str "at")))) (dC (.str "rest"))) dNext)
    (dPut "dict" 0 mPutD (dOp qAdd (dOp qIxS (dVar 0) (dC (.str "at"))) (dC (.int 1))) (dC (.str "at")))) [3, 4])
    (dSeq (dIfS (dTst (dOp qGt (dOp qIxS (dVar 0) (dC (.str "rest"))) (dC (.int 1)))) (dSeq (dAsg (dOp qMod (dOp qIxS (dVar 0) (dC (.str "rest"))) (dVar 1)) (dName 3))
    (dSeq (dPut "dict" 0 mPutD (dOp qDiv (dOp qIxS (dVar 0) (dC (.str "rest"))) (dVar 1)) (dC (.str "rest")))
    (dRet (dMv 3)))) dNext)
    (dSeq (dAsg (dC (.int 0)) (dName 4))
    (dSeq (dIfS (dTst (dOp qGt (dCB qLen (dCons (dVar 2) dNil)) (dC (.int 0)))) (dAsg (dOp qIxS (dVar 2) (dOp qMod (dOp qIxS (dVar 0) (dC (.str "turn"))) (dCB qLen (dCons (dVar 2) dNil)))) (dName 4)) dNext)
    (dSeq (dPut "dict" 0 mPutD (dOp qAdd (dOp qIxS (dVar 0) (dC (.str "turn"))) (dC (.int 1))) (dC (.str "turn")))
    (dSeq (dPut "dict" 0 mPutD (dOp qMod (dOp qAdd (dOp qAdd (dOp qMulS (dOp qIxS (dVar 0) (dC (.str "more"))) (dC (.int 40014))) (dVar 4)) (dOp qMulS (dC (.int 7919)) (dOp qIxS (dVar 0) (dC (.str "turn"))))) (dC (.int 2147483563))) (dC (.str "more")))
    (dRet (dOp qMod (dOp qMod (dOp qAdd (dOp qMulS (dOp qIxS (dVar 0) (dC (.str "more"))) (dOp qIxS (dVar 0) (dC (.str "more")))) (dOp qMulS (dC (.int 69621)) (dOp qIxS (dVar 0) (dC (.str "more"))))) (dC (.int 2147483629))) (dVar 1))))))))))
/- _law_kept: ; N = 0:  -/
def t_law_kept : DS := (dRet (dLst (dCons (dC (.str "and")) (dCons (dC (.str "def")) (dCons (dC (.str "do")) (dCons (dC (.str "else")) (dCons (dC (.str "end")) (dCons (dC (.str "for")) (dCons (dC (.str "if")) (dCons (dC (.str "in")) (dCons (dC (.str "not")) (dCons (dC (.str "or")) (dCons (dC (.str "return")) (dCons (dC (.str "use")) (dCons (dC (.str "while")) dNil)))))))))))))))
/- _law_word: _law_state; N = 6: 0 _law_state 1 _law_some 2 _law_signs 3 _law_way 4 _law_word_here 5 _law_k -/
def t_law_wordg : DS := (dSeq (dAsg (dC (.str "abcdefghijklmnopqrstuvwxyz_ABCDEFGHIJKLMNOPQRSTUVWXYZ0123456789")) (dName 1))
    (dSeq (dAsg (dC (.str "!\"#$&'()*+,-./:;<=>?\x40[\\]^`{|}~")) (dName 2))
    (dSeq (dAsg (dCall [true, false] S_law_takex (dCons (dVar 0) (dCons (dC (.int 6)) dNil))) (dName 3))
    (dSeq (dIfS (dTst (dOp qEq (dVar 3) (dC (.int 0)))) (dRet (dOp qIxS (dCall0 S_law_kept) (dCall [true, false] S_law_takex (dCons (dVar 0) (dCons (dC (.int 13)) dNil))))) dNext)
    (dSeq (dIfS (dTst (dOp qEq (dVar 3) (dC (.int 1)))) (dRet (dCB qStr1 (dCons (dCall [true, false] S_law_takex (dCons (dVar 0) (dCons (dOp qIxS (dLst (dCons (dC (.int 9)) (dCons (dC (.int 100)) (dCons (dOp qPow (dC (.int 10)) (dC (.int 20))) dNil)))) (dCall [true, false] S_law_takex (dCons (dVar 0) (dCons (dC (.int 3)) dNil)))) dNil))) dNil))) dNext)
    (dSeq (dIfS (dTst (dOp qEq (dVar 3) (dC (.int 2)))) (dRet (dOp qIxS (dVar 2) (dCall [true, false] S_law_takex (dCons (dVar 0) (dCons (dCB qLen (dCons (dVar 2) dNil)) dNil))))) dNext)
    (dSeq (dAsg (dOp qIxS (dVar 1) (dCall [true, false] S_law_takex (dCons (dVar 0) (dCons (dC (.int 53)) dNil)))) (dName 4))
    (dSeq (dForW (dIRng1 (dCons (dOp qIxS (dLst (dCons (dC (.int 0)) (dCons (dC (.int 0)) (dCons (dC (.int 1)) (dCons (dC (.int 2)) (dCons (dC (.int 4)) (dCons (dC (.int 19)) dNil))))))) (dCall [true, false] S_law_takex (dCons (dVar 0) (dCons (dC (.int 6)) dNil)))) dNil)) (dName 5) (dAsg (dOp qAdd (dVar 4) (dOp qIxS (dVar 1) (dCall [true, false] S_law_takex (dCons (dVar 0) (dCons (dC (.int 63)) dNil))))) (dName 4)) [2, 3, 5])
    (dRet (dMv 4))))))))))
/- _law_pool: _law_state; N = 3: 0 _law_state 1 _law_found 2 _law_k -/
def t_law_poolg : DS := (dSeq (dAsg (dLst (dCons (dCall [true] S_law_wordg (dCons (dVar 0) dNil)) dNil)) (dName 1))
    (dSeq (dForW (dIRng1 (dCons (dCall [true, false] S_law_takex (dCons (dVar 0) (dCons (dC (.int 5)) dNil))) dNil)) (dName 2) (dSeq (dIfS (dAnd (dTst (dOp qEq (dCall [true, false] S_law_takex (dCons (dVar 0) (dCons (dC (.int 3)) dNil))) (dC (.int 0)))) (dTst (dUn qIsalpha (dOp qIxS (dOp qIxS (dVar 1) (dUn qNeg (dC (.int 1)))) (dC (.int 0)))))) (dDrop (dMut "list" 1 mAppend (dCons (dOp qAdd (dCut (dOp qIxS (dVar 1) (dUn qNeg (dC (.int 1)))) dNoPart (dPart (dC (.int 19)))) (dOp qIxS (dLst (dCons (dC (.str "")) (dCons (dC (.str "_")) (dCons (dC (.str "7")) (dCons (dC (.str "d")) dNil))))) (dCall [true, false] S_law_takex (dCons (dVar 0) (dCons (dC (.int 4)) dNil))))) dNil))) dNext)
    (dDrop (dMut "list" 1 mAppend (dCons (dCall [true] S_law_wordg (dCons (dVar 0) dNil)) dNil)))) [2])
    (dRet (dMv 1))))
/- _law_words: _law_state, _law_pool_here, _law_many; N = 4: 0 _law_state 1 _law_pool_here 2 _law_many 3 _law_k -/
def t_law_words : DS := (dRet (dLc (dIRng1 (dCons (dVar 2) dNil)) (dName 3) dTrue (dOp qIxS (dVar 1) (dCall [true, false] S_law_takex (dCons (dVar 0) (dCons (dCB qLen (dCons (dVar 1) dNil)) dNil)))) [3]))
/- _law_form: _law_state, _law_pool_here, _law_many; N = 9: 0 _law_state 1 _law_pool_here 2 _law_many 3 _law_found 4 _law_holes 5 _law_k 6 _law_row 7 _law_j 8 _law_item -/
def t_law_form : DS := (dSeq (dAsg (dLst dNil) (dName 3))
    (dSeq (dAsg (dC (.int 0)) (dName 4))
    (dSeq (dForW (dIRng1 (dCons (dVar 2) dNil)) (dName 5) (dSeq (dAsg (dLst dNil) (dName 6))
    (dSeq (dForW (dIRng1 (dCons (dCall [true, false] S_law_takex (dCons (dVar 0) (dCons (dC (.int 6)) dNil))) dNil)) (dName 7) (dSeq (dAsg (dOp qIxS (dVar 1) (dCall [true, false] S_law_takex (dCons (dVar 0) (dCons (dCB qLen (dCons (dVar 1) dNil)) dNil)))) (dName 8))
    (dSeq (dIfS (dTst (dOp qEq (dCall [true, false] S_law_takex (dCons (dVar 0) (dCons (dC (.int 2)) dNil))) (dC (.int 0)))) (dSeq (dAsg (dCall [true, false] S_law_takex (dCons (dVar 0) (dCons (dOp qAdd (dVar 4) (dC (.int 1))) dNil))) (dName 8))
    (dAsg (dCB qMax2 (dCons (dVar 4) (dCons (dOp qAdd (dVar 8) (dC (.int 1))) dNil))) (dName 4))) dNext)
    (dDrop (dMut "list" 6 mAppend (dCons (dVar 8) dNil))))) [5, 7, 8])
    (dDrop (dMut "list" 3 mAppend (dCons (dMv 6) dNil))))) [5, 6, 7, 8])
    (dRet (dTup (dCons (dVar 3) (dCons (dVar 4) dNil)))))))
/- _law_put: _law_shape, _law_items; N = 4: 0 _law_shape 1 _law_items 2 _law_row 3 _law_item -/
def t_law_putg : DS := (dRet (dLc (dISeq (dVar 0)) (dName 2) dTrue (dLc (dISeq (dVar 2)) (dName 3) dTrue (dIf (dTst (dCB qIsi (dCons (dVar 3) (dCons (dC (.ty "int")) dNil)))) (dOp qIxS (dVar 1) (dVar 3)) (dVar 3)) [3]) [2]))
/- _law_spoilt: _law_state, _law_rows, _law_pool_here; N = 8: 0 _law_state 1 _law_rows 2 _law_pool_here 3 _law_way 4 _law_found 5 _law_at 6 _law_row 7 _law_k -/
def t_law_spoiltg : DS := (dSeq (dAsg (dCall [true, false] S_law_takex (dCons (dVar 0) (dCons (dC (.int 6)) dNil))) (dName 3))
    (dSeq (dAsg (dLc (dISeq (dVar 1)) (dName 6) dTrue (dCB qList (dCons (dVar 6) dNil)) [6]) (dName 4))
    (dSeq (dAsg (dCall [true, false] S_law_takex (dCons (dVar 0) (dCons (dOp qAdd (dCB qLen (dCons (dVar 4) dNil)) (dC (.int 1))) dNil))) (dName 5))
    (dSeq (dIfS (dTst (dOp qEq (dVar 3) (dC (.int 0)))) (dDrop (dMut "list" 4 mInsert (dCons (dVar 5) (dCons (dCall [true, false, false] S_law_words (dCons (dVar 0) (dCons (dVar 2) (dCons (dCall [true, false] S_law_takex (dCons (dVar 0) (dCons (dC (.int 4)) dNil))) dNil)))) dNil)))) dNext)
    (dSeq (dIfS (dOr (dTst (dOp qEq (dVar 3) (dC (.int 0)))) (dTst (dOp qEq (dVar 5) (dCB qLen (dCons (dVar 4) dNil))))) (dRet (dMv 4)) dNext)
    (dSeq (dIfS (dTst (dOp qEq (dVar 3) (dC (.int 1)))) (dRet (dOp qAdd (dCut (dFzS 4) dNoPart (dPart (dVar 5))) (dCut (dFzS 4) (dPart (dOp qAdd (dVar 5) (dC (.int 1)))) dNoPart))) dNext)
    (dSeq (dBor 6 4 (dVar 5))
    (dSeq (dAsg (dCall [true, false] S_law_takex (dCons (dVar 0) (dCons (dOp qAdd (dCB qLen (dCons (dVar 6) dNil)) (dC (.int 1))) dNil))) (dName 7))
    (dSeq (dIfS (dTst (dOp qEq (dVar 3) (dC (.int 2)))) (dDrop (dMutB "list" 6 mInsert (dCons (dVar 7) (dCons (dOp qIxS (dVar 2) (dCall [true, false] S_law_takex (dCons (dVar 0) (dCons (dCB qLen (dCons (dVar 2) dNil)) dNil)))) dNil)))) (dIfS (dAnd (dTst (dOp qEq (dVar 3) (dC (.int 3)))) (dTst (dOp qLt (dVar 7) (dCB qLen (dCons (dVar 6) dNil))))) (dDrop (dMutB "list" 6 mPopAt (dCons (dVar 7) dNil))) (dIfS (dTst (dOp qLt (dVar 7) (dCB qLen (dCons (dVar 6) dNil)))) (dAsg (dOp qIxS (dVar 2) (dCall [true, false] S_law_takex (dCons (dVar 0) (dCons (dCB qLen (dCons (dVar 2) dNil)) dNil)))) (dGSub "list" 6 mSetL (dVar 7))) dNext)))
    (dRet (dMv 4)))))))))))
/- _law_stretch: _law_state, _law_pool_here, _law_shape, _law_holes; N = 9: 0 _law_state 1 _law_pool_here 2 _law_shape 3 _law_holes 4 _law_found 5 _law_most 6 _law_k 7 _law_way 8 _law_piece -/
def t_law_stretchg : DS := (dSeq (dAsg (dLst dNil) (dName 4))
    (dSeq (dAsg (dOp qIxS (dLst (dCons (dFz (dCall [true, false] S_law_takex (dCons (dVar 0) (dCons (dC (.int 5)) dNil)))) (dCons (dOp qAdd (dC (.int 1)) (dCall [true, false] S_law_takex (dCons (dVar 0) (dCons (dC (.int 9)) dNil)))) (dCons (dOp qDiv (dC (.int 60)) (dCB qMax2 (dCons (dC (.int 1)) (dCons (dCB qLen (dCons (dVar 2) dNil)) dNil)))) dNil)))) (dCall [true, false] S_law_takex (dCons (dVar 0) (dCons (dC (.int 3)) dNil)))) (dName 5))
    (dSeq (dForW (dIRng1 (dCons (dVar 5) dNil)) (dName 6) (dSeq (dAsg (dCall [true, false] S_law_takex (dCons (dVar 0) (dCons (dC (.int 5)) dNil))) (dName 7))
    (dSeq (dAsg (dFz (dCall [false, false] S_law_putg (dCons (dVar 2) (dCons (dCall [true, false, false] S_law_words (dCons (dVar 0) (dCons (dVar 1) (dCons (dVar 3) dNil)))) dNil)))) (dName 8))
    (dSeq (dIfS (dTst (dOp qEq (dVar 7) (dC (.int 0)))) (dAsg (dFz (dLst (dCons (dCall [true, false, false] S_law_words (dCons (dVar 0) (dCons (dVar 1) (dCons (dCall [true, false] S_law_takex (dCons (dVar 0) (dCons (dC (.int 5)) dNil))) dNil)))) dNil))) (dName 8)) (dIfS (dTst (dOp qEq (dVar 7) (dC (.int 1)))) (dAsg (dFz (dCall [true, false, false] S_law_spoiltg (dCons (dVar 0) (dCons (dVar 8) (dCons (dVar 1) dNil))))) (dName 8)) dNext))
    (dAsg (dOp qAdd (dVar 4) (dVar 8)) (dName 4))))) [5, 6, 7, 8])
    (dRet (dCut (dVar 4) dNoPart (dPart (dC (.int 60))))))))
/- _law_filling: _law_shape, _law_part; N = 8: 0 _law_shape 1 _law_part 2 _law_held 3 _law_row 4 _law_words_here 5 _law_item 6 _law_word_here 7 _law_k -/
def t_law_filling : DS := (dSeq (dIfS (dTst (dOp qNe (dLc (dISeq (dVar 0)) (dName 3) dTrue (dCB qLen (dCons (dVar 3) dNil)) [3]) (dLc (dISeq (dVar 1)) (dName 3) dTrue (dCB qLen (dCons (dVar 3) dNil)) [3]))) (dRet (dC .non)) dNext)
    (dSeq (dAsg dNewD (dName 2))
    (dSeq (dForW (dIZip (dCons (dVar 0) (dCons (dVar 1) dNil))) (dGTup 2 (dGCons (dName 3) (dGCons (dName 4) dGNil))) (dForW (dIZip (dCons (dVar 3) (dCons (dVar 4) dNil))) (dGTup 2 (dGCons (dName 5) (dGCons (dName 6) dGNil))) (dSeq (dIfS (dAnd (dTst (dCB qIsi (dCons (dVar 5) (dCons (dC (.ty "int")) dNil)))) (dTst (dOp qNe (dMut "dict" 2 mSetd (dCons (dVar 5) (dCons (dVar 6) dNil))) (dVar 6)))) (dRet (dC .non)) dNext)
    (dIfS (dAnd (dNot (dTst (dCB qIsi (dCons (dVar 5) (dCons (dC (.ty "int")) dNil))))) (dTst (dOp qNe (dVar 5) (dVar 6)))) (dRet (dC .non)) dNext)) [3, 4, 5, 6]) [3, 4, 5, 6])
    (dRet (dLc (dIRng1 (dCons (dCB qLen (dCons (dVar 2) dNil)) dNil)) (dName 7) dTrue (dOp qIxS (dVar 2) (dVar 7)) [7])))))
/- _law_odd: _law_state, _law_shape, _law_holes; N = 10: 0 _law_state 1 _law_shape 2 _law_holes 3 _law_way 4 _law_found 5 _law_at 6 _law_some 7 _law_item 8 _law_row 9 _law_k -/
def t_law_odd : DS := (dSeq (dAsg (dCall [true, false] S_law_takex (dCons (dVar 0) (dCons (dC (.int 6)) dNil))) (dName 3))
    (dSeq (dAsg (dLc (dISeq (dVar 1)) (dName 8) dTrue (dCB qList (dCons (dVar 8) dNil)) [8]) (dName 4))
    (dSeq (dAsg (dCall [true, false] S_law_takex (dCons (dVar 0) (dCons (dOp qAdd (dCB qLen (dCons (dVar 4) dNil)) (dC (.int 1))) dNil))) (dName 5))
    (dSeq (dIfS (dTst (dOp qEq (dVar 3) (dC (.int 0)))) (dRet (dOp qIxS (dLst (dCons (dC .non) (dCons (dC (.int 5)) (dCons (dC (.str "ab")) (dCons (dC (.bl true)) (dCons (dTup dNil) (dCons (dFz dNewD) (dCons (dTup (dCons (dFz (dLst (dCons (dC (.str "a")) dNil))) dNil)) dNil)))))))) (dCall [true, false] S_law_takex (dCons (dVar 0) (dCons (dC (.int 7)) dNil))))) dNext)
    (dSeq (dIfS (dTst (dOp qEq (dVar 3) (dC (.int 1)))) (dFrz 4 (dRet (dOp qAdd (dOp qAdd (dCut (dVar 4) dNoPart (dPart (dVar 5))) (dLst (dCons (dOp qIxS (dLst (dCons (dC .non) (dCons (dC (.str "ab")) (dCons (dTup (dCons (dC (.str "a")) dNil)) (dCons (dC (.int 3)) (dCons (dFz dNewD) dNil)))))) (dCall [true, false] S_law_takex (dCons (dVar 0) (dCons (dC (.int 5)) dNil)))) dNil))) (dCut (dVar 4) (dPart (dVar 5)) dNoPart)))) dNext)
    (dSeq (dIfS (dAnd (dTst (dOp qEq (dVar 3) (dC (.int 2)))) (dTst (dOp qEq (dCall [true, false] S_law_takex (dCons (dVar 0) (dCons (dC (.int 2)) dNil))) (dC (.int 0))))) (dRet (dLc (dIRng1 (dCons (dC (.int 61)) dNil)) (dName 9) dTrue (dFz (dLst (dCons (dC (.str "a")) dNil))) [9])) dNext)
    (dSeq (dIfS (dTst (dOp qEq (dVar 3) (dC (.int 2)))) (dFrz 4 (dRet (dOp qAdd (dOp qAdd (dCut (dVar 4) dNoPart (dPart (dVar 5))) (dFz (dLst (dCons (dOp qRepL (dFz (dLst (dCons (dC (.str "a")) dNil))) (dC (.int 31))) dNil)))) (dCut (dVar 4) (dPart (dVar 5)) dNoPart)))) dNext)
    (dSeq (dIfS (dAnd (dTst (dOp qEq (dVar 3) (dC (.int 3)))) (dTst (dOp qGt (dVar 2) (dC (.int 1))))) (dFrz 4 (dRet (dLc (dISeq (dVar 4)) (dName 8) dTrue (dLc (dISeq (dVar 8)) (dName 7) dTrue (dIf (dTst (dOp (qInS false) (dVar 7) (dTup (dCons (dC (.int 0)) (dCons (dC (.int 1)) dNil))))) (dOp qSub (dC (.int 1)) (dVar 7)) (dVar 7)) [7]) [8]))) dNext)
    (dSeq (dAsg (dLst (dCons (dC (.bl true)) (dCons (dC (.bl false)) (dCons (dUn qNeg (dC (.int 1))) (dCons (dOp qAdd (dVar 2) (dC (.int 1))) (dCons (dC .non) (dCons (dC (.str "")) (dCons (dC (.str "a b")) (dCons (dC (.str "12ab")) (dCons (dC (.str "\t")) (dCons (dOp qMulS (dC (.str "a")) (dC (.int 21))) (dCons (dOp qMulS (dC (.str "7")) (dC (.int 21))) (dCons (dFz (dLst (dCons (dC (.str "a")) dNil))) (dCons (dC (.str "++")) (dCons (dC (.str "a ")) dNil))))))))))))))) (dName 6))
    (dSeq (dAsg (dOp qIxS (dOp qAdd (dVar 6) (dLst (dCons (dOp qPow (dC (.int 10)) (dC (.int 20))) (dCons (dOp qAdd (dVar 2) (dC (.int 2))) (dCons (dUn qNeg (dOp qPow (dC (.int 10)) (dC (.int 9)))) (dCons (dC (.str " a")) dNil)))))) (dCall [true, false] S_law_takex (dCons (dVar 0) (dCons (dC (.int 18)) dNil)))) (dName 7))
    (dSeq (dIfS (dTst (dOp qEq (dVar 5) (dCB qLen (dCons (dVar 4) dNil)))) (dDrop (dMut "list" 4 mAppend (dCons (dLst dNil) dNil))) dNext)
    (dSeq (dDrop (dMutG 4 (ixS 5) mInsert (dCons (dCall [true, false] S_law_takex (dCons (dVar 0) (dCons (dOp qAdd (dLend (dCB qLen (dCons (dOp qIxS (dVar 4) (dVar 5)) dNil))) (dC (.int 1))) dNil))) (dCons (dVar 7) dNil))))
    (dRet (dMv 4))))))))))))))
/- _law_opened: _law_state, _law_rows, _law_most; N = 9: 0 _law_state 1 _law_rows 2 _law_most 3 _law_found 4 _law_held 5 _law_row 6 _law_made 7 _law_word_here 8 _law_way -/
def t_law_opened : DS := (dSeq (dAsg (dLst dNil) (dName 3))
    (dSeq (dAsg (dLst dNil) (dName 4))
    (dSeq (dForW (dISeq (dVar 1)) (dName 5) (dSeq (dAsg (dLst dNil) (dName 6))
    (dSeq (dForW (dISeq (dVar 5)) (dName 7) (dSeq (dAsg (dCall [true, false] S_law_takex (dCons (dVar 0) (dCons (dC (.int 4)) dNil))) (dName 8))
    (dIfS (dAnd (dTst (dOp qEq (dVar 8) (dC (.int 0)))) (dTst (dOp qLt (dCB qLen (dCons (dVar 4) dNil)) (dVar 2)))) (dSeq (dDrop (dMut "list" 4 mAppend (dCons (dVar 7) dNil)))
    (dDrop (dMut "list" 6 mAppend (dCons (dOp qSub (dCB qLen (dCons (dVar 4) dNil)) (dC (.int 1))) dNil)))) (dIfS (dAnd (dTst (dOp qEq (dVar 8) (dC (.int 1)))) (dTst (dOp (qInS false) (dVar 7) (dVar 4)))) (dDrop (dMut "list" 6 mAppend (dCons (dBM1 "list" qIndex (dVar 4) (dVar 7)) dNil))) (dDrop (dMut "list" 6 mAppend (dCons (dVar 7) dNil)))))) [5, 7, 8])
    (dDrop (dMut "list" 3 mAppend (dCons (dMv 6) dNil))))) [5, 6, 7, 8])
    (dRet (dMv 3)))))
/- _law_copy: _law_rows; N = 2: 0 _law_rows 1 _law_row -/
def t_law_copyg : DS := (dRet (dLc (dISeq (dVar 0)) (dName 1) dTrue (dCB qList (dCons (dVar 1) dNil)) [1]))
/- _law_asked: _law_lines, _law_shape; N = 5: 0 _law_lines 1 _law_shape 2 _law_found 3 e 4 _law_some -/
def t_law_asked : DS := (dSeq (dThenW (dTryH [("BadForm", true), ("NoRows", true)] 3 (dAsg (dCallK g_0_form_stretch_fitting S_fitting dNil (dCons (dVar 1) (dCons (dVar 0) dNil))) (dName 2)) (fun a nm => (dSeq (dAsg (dTup (dCons (dIsH [("BadForm", false), ("NoRows", false)] 3 a nm) (dCons (dIsH [("BadForm", false), ("NoRows", false)] 3 a nm) (dCons (dIsH [("BadForm", false), ("NoRows", false)] 3 a nm) dNil)))) (dName 4))
    (dAsg (dTup (dCons (dIsH [("BadForm", true), ("NoRows", false)] 3 a nm) (dCons (dIsH [("BadForm", false), ("NoRows", true)] 3 a nm) (dCons (dIsH [("BadForm", true), ("NoRows", true)] 3 a nm) (dCons (dVar 4) dNil))))) (dName 2))))) [3, 4])
    (dRet (dMv 2)))
/- law: _law_script; N = 13: 0 _law_script 1 _law_state 2 _law_way 3 _law_pool_here 4 _law_many 5 _law_shape 6 _law_holes 7 _law_lines 8 _law_odd_here 9 _law_handed 10 _law_found 11 _law_due 12 _law_at -/
def t_law : DS := (dSeq (dAsg (dCall [false] S_law_begunx (dCons (dVar 0) dNil)) (dName 1))
    (dSeq (dAsg (dCall [true, false] S_law_takex (dCons (dVar 1) (dCons (dC (.int 8)) dNil))) (dName 2))
    (dSeq (dAsg (dCall [true] S_law_poolg (dCons (dVar 1) dNil)) (dName 3))
    (dSeq (dAsg (dOp qIxS (dLst (dCons (dC (.int 1)) (dCons (dOp qAdd (dC (.int 1)) (dCall [true, false] S_law_takex (dCons (dVar 1) (dCons (dC (.int 4)) dNil)))) (dCons (dFz (dCall [true, false] S_law_takex (dCons (dVar 1) (dCons (dC (.int 3)) dNil)))) dNil)))) (dCall [true, false] S_law_takex (dCons (dVar 1) (dCons (dC (.int 3)) dNil)))) (dName 4))
    (dSeq (dAsg (dCall [true, false, false] S_law_form (dCons (dVar 1) (dCons (dVar 3) (dCons (dVar 4) dNil)))) (dGTup 2 (dGCons (dName 5) (dGCons (dName 6) dGNil))))
    (dSeq (dIfS (dTst (dOp qEq (dVar 2) (dC (.int 3)))) (dSeq (dAsg (dC (.int 29)) (dName 6))
    (dAsg (dLst (dCons (dLRg1 (dC (.int 29))) dNil)) (dName 5))) dNext)
    (dSeq (dFrz 5 (dAsg (dCall [true, false, false, false] S_law_stretchg (dCons (dVar 1) (dCons (dVar 3) (dCons (dVar 5) (dCons (dVar 6) dNil))))) (dName 7)))
    (dSeq (dIfS (dTst (dOp qEq (dVar 2) (dC (.int 1)))) (dSeq (dAsg (dCall [true, false, false] S_law_odd (dCons (dVar 1) (dCons (dVar 5) (dCons (dVar 6) dNil)))) (dName 8))
    (dRet (dOp qEq (dCall [false, false] S_law_asked (dCons (dCall [false] S_law_copyg (dCons (dVar 7) dNil)) (dCons (dVar 8) dNil))) (dTup (dCons (dC (.bl true)) (dCons (dC (.bl false)) (dCons (dC (.bl true)) (dCons (dTup (dCons (dC (.bl false)) (dCons (dC (.bl false)) (dCons (dC (.bl false)) dNil)))) dNil)))))))) dNext)
    (dSeq (dIfS (dTst (dOp qEq (dVar 2) (dC (.int 2)))) (dAsg (dCall [true, false, false] S_law_opened (dCons (dVar 1) (dCons (dCut (dVar 7) (dPart (dCall [true, false] S_law_takex (dCons (dVar 1) (dCons (dOp qAdd (dCB qLen (dCons (dVar 7) dNil)) (dC (.int 1))) dNil)))) dNoPart) (dCons (dOp qIxS (dLst (dCons (dC (.int 28)) (dCons (dC (.int 60)) dNil))) (dCall [true, false] S_law_takex (dCons (dVar 1) (dCons (dC (.int 2)) dNil)))) dNil)))) (dName 5)) dNext)
    (dSeq (dFrz 5 (dAsg (dFz (dLst (dCons (dCall [false] S_law_copyg (dCons (dVar 7) dNil)) (dCons (dCall [false] S_law_copyg (dCons (dVar 5) dNil)) dNil)))) (dName 9)))
    (dSeq (dAsg (dCall [false, false] S_law_asked (dCons (dOp qIxS (dVar 9) (dC (.int 0))) (dCons (dOp qIxS (dVar 9) (dC (.int 1))) dNil))) (dName 10))
    (dSeq (dIfS (dTst (dOp qEq (dVar 5) (dLst dNil))) (dRet (dOp qEq (dVar 10) (dTup (dCons (dC (.bl false)) (dCons (dC (.bl true)) (dCons (dC (.bl true)) (dCons (dTup (dCons (dC (.bl false)) (dCons (dC (.bl false)) (dCons (dC (.bl false)) dNil)))) dNil))))))) dNext)
    (dSeq (dAsg (dLc (dIRng1 (dCons (dCB qLen (dCons (dVar 7) dNil)) dNil)) (dName 12) (dTst (dOp qNotN (dCall [false, false] S_law_filling (dCons (dVar 5) (dCons (dCut (dVar 7) (dPart (dVar 12)) (dPart (dOp qAdd (dVar 12) (dCB qLen (dCons (dVar 5) dNil))))) dNil))) (dC .non))) (dVar 12) [12]) (dName 11))
    (dSeq (dIfS (dOr (dTst (dOp qNe (dVar 10) (dVar 11))) (dTst (dLend (dCB qAny (dCons (dLc (dISeq (dVar 10)) (dName 12) dTrue (dCB qIsi (dCons (dVar 12) (dCons (dC (.ty "bool")) dNil))) [12]) dNil))))) (dRet (dC (.bl false))) dNext)
    (dSeq (dDrop (dMut "list" 10 mAppend (dCons (dC (.int 0)) dNil)))
    (dRet (dOp qEq (dVar 9) (dLst (dCons (dVar 7) (dCons (dVar 5) dNil))))))))))))))))))))
theorem le_a (c : Nat) : (!strLt (sg c) " ") = decide (32 ≤ c) := by
  rw [show ((" " : Str)) = sg 32 from rfl, lt_sg]
  by_cases h : c < 32 <;> simp [h] <;> omega
theorem le_b (c : Nat) : (!strLt "~" (sg c)) = decide (c ≤ 126) := by
  rw [show (("~" : Str)) = sg 126 from rfl, lt_sg]
  by_cases h : 126 < c <;> simp [h] <;> omega
theorem pc_lt {c : Nat} (h : pcB c = true) : c < 127 := by
  simp [pcB] at h
  omega
theorem dig_all : ∀ c : Fin 127, pcB c = true → Txt.isdigit (sg c) = digB c := by decide +kernel
theorem alp_all : ∀ c : Fin 127, pcB c = true → (Txt.isalpha (sg c) || c.val == 95) = letB c := by decide +kernel
theorem dig_c {c : Nat} (h : pcB c = true) : Txt.isdigit (sg c) = digB c := dig_all ⟨c, pc_lt h⟩ h
theorem alp_c {c : Nat} (h : pcB c = true) : (Txt.isalpha (sg c) || c == 95) = letB c := alp_all ⟨c, pc_lt h⟩ h
theorem sg_eq {a b : Nat} : sg a = sg b ↔ a = b := ⟨fun h => by simpa [sg] using h, fun h => by rw [h]⟩
theorem oth_isi {d : D} (h : Oth d) : isiB (tyN d) "str" = false := by
  unfold isiB
  rw [h.1.2]
  simp
theorem sem_is_plain : Sem S_is_plain t_is_plain 2 := by
  rintro _ Q0 E0 ⟨d, rfl, ⟨x, rfl, hl, hq⟩ | ⟨ho, hq⟩⟩
  rotate_left
  · have hz := ho.2.1
    simp only [initE, finL, hz, if_true, List.map_cons, List.map_nil, List.length_cons, List.length_nil, Nat.zero_add, Nat.reduceAdd, Nat.reduceSub, List.replicate_succ, List.replicate_zero, List.cons_append, List.nil_append, Option.some.injEq, exists_eq_left']
    unfold t_is_plain
    walk_at "dg"
    refine w_isiF (by rw [ho.1.1]; rfl) (oth_isi ho) ?_
    walk_at "dg"
    exact hq
  walk_at "in"
  unfold t_is_plain
  walk_at "dg"
  refine lc_enc (fun c => pcB c) ?_ ?_ ?_
  · intro c hc acc k k' hn hk
    walk_at "dg"
    rw [le_a]
    unfold pcB at hk
    refine w_if (fun hb => ?_) fun hb => ?_
    · rw [hb, Bool.true_and] at hk
      walk_at "dg"
      rw [le_b]
      exact hk
    · rw [hb, Bool.false_and] at hk
      walk_at "dg"
      exact hk
  · rw [str_len]; exact hl
  walk_at "dg"
  have : ((List.map (fun c => pcB c) x.cps.toList).all id) = plB x := by
    unfold plB
    rw [List.all_map]
    rfl
  rw [this]
  exact hq
theorem sem_sort_of : Sem S_sort_of t_sort_of 1 := by
  rintro _ Q0 E0 ⟨c, rfl, hc, hq⟩
  walk_at "in"
  unfold t_sort_of
  walk_at "dg"
  unfold sortN at hq
  refine w_if (fun hb => ?_) fun hb => ?_
  · have hb : c = 32 := sg_eq.mp (dc_t.mp hb)
    rw [if_pos hb] at hq
    walk_at "dg"
    exact hq
  have hb : ¬ c = 32 := fun z => dc_f.mp hb (sg_eq.mpr z)
  rw [if_neg hb] at hq
  walk_at "dg"
  rw [dig_c hc]
  refine w_if (fun hb => ?_) fun hb => ?_
  · rw [if_pos hb] at hq
    walk_at "dg"
    exact hq
  rw [if_neg (by rw [hb]; decide)] at hq
  walk_at "dg"
  have ha := alp_c hc
  refine w_if (fun hb => ?_) fun hb => ?_
  · rw [hb, Bool.true_or] at ha
    rw [if_pos ha.symm] at hq
    walk_at "dg"
    exact hq
  rw [hb, Bool.false_or] at ha
  walk_at "dg"
  refine w_if (fun hb => ?_) fun hb => ?_
  · have hb : c = 95 := sg_eq.mp (dc_t.mp hb)
    rw [hb] at ha
    rw [hb, if_pos (show letB 95 = true from rfl)] at hq
    walk_at "dg"
    rw [hb]
    exact hq
  · have hb : ¬ c = 95 := fun z => dc_f.mp hb (sg_eq.mpr z)
    rw [beq_eq_false_iff_ne.mpr hb] at ha
    rw [if_neg (by rw [← ha]; decide)] at hq
    walk_at "dg"
    exact hq
theorem sort_le (c : Nat) : sortN c ≤ 3 := by
  unfold sortN
  split
  · omega
  split
  · omega
  split <;> omega
theorem sS (n : Nat) (h : n ≤ 3) : (sortS n = "letter" ↔ n = 2) ∧ (sortS n = "figure" ↔ n = 1) ∧ (sortS n = "blank" ↔ n = 0) := by
  rcases n with _ | _ | _ | n
  · exact ⟨by decide, by decide, by decide⟩
  · exact ⟨by decide, by decide, by decide⟩
  · exact ⟨by decide, by decide, by decide⟩
  · have : n = 0 := by omega
    subst this
    exact ⟨by decide, by decide, by decide⟩
theorem goes2 (c : Nat) : dc (sortS (sortN c) = "letter" ∨ sortS (sortN c) = "figure") = goesB 2 c := by
  obtain ⟨h1, h2, _⟩ := sS (sortN c) (sort_le c)
  unfold goesB
  by_cases g : sortN c = 2 ∨ sortN c = 1
  · rw [dc_t.mpr (g.imp h1.mpr h2.mpr)]
    rcases g with g | g <;> rw [g] <;> rfl
  · rw [dc_f.mpr fun z => g (z.imp h1.mp h2.mp)]
    rw [beq_eq_false_iff_ne.mpr fun z => g (.inl z), beq_eq_false_iff_ne.mpr fun z => g (.inr z)]
    rfl
theorem goes1 (c : Nat) : dc (sortS (sortN c) = "figure") = goesB 1 c := by
  obtain ⟨h1, h2, _⟩ := sS (sortN c) (sort_le c)
  unfold goesB
  by_cases g : sortN c = 1
  · rw [dc_t.mpr (h2.mpr g), g]; rfl
  · rw [dc_f.mpr fun z => g (h2.mp z), beq_eq_false_iff_ne.mpr g]
    rfl
theorem goes0 {k : Nat} (h : k ≠ 1) (h2 : k ≠ 2) (c : Nat) : goesB k c = false := by
  unfold goesB
  rw [beq_eq_false_iff_ne.mpr h, beq_eq_false_iff_ne.mpr h2]
  rfl
theorem tw0 {p : Nat → Bool} (h : ∀ c, p c = false) (l : List Nat) : l.takeWhile p = [] ∧ l.dropWhile p = l := by
  cases l with
  | nil => exact ⟨rfl, rfl⟩
  | cons c r => rw [List.takeWhile_cons, List.dropWhile_cons, h c]; exact ⟨rfl, rfl⟩
theorem pl_in {x : Str} (h : plB x = true) {c : Nat} (hc : c ∈ x.cps.toList) : pcB c = true := List.all_eq_true.mp h c hc
theorem drop_at {l : List Nat} {a : Nat} {c : Nat} {r : List Nat} (h : l.drop a = c :: r) : a < l.length ∧ atI l (a : Nat) = some c ∧ l.drop (a + 1) = r ∧ c ∈ l := by
  have h1 : a < l.length := by
    apply Classical.byContradiction
    intro z
    rw [List.drop_of_length_le (by omega)] at h
    cases h
  have h2 := List.drop_eq_getElem_cons h1
  rw [h] at h2
  injection h2 with h3 h4
  refine ⟨h1, ?_, h4.symm, ?_⟩
  · rw [at_nat rfl h1, h3]
  · rw [h3]; exact List.getElem_mem h1
theorem sem_end_of : Sem S_end_of t_end_of 4 := by
  rintro _ Q0 E0 ⟨x, a, c, r, rfl, hp, hl, hd, hq⟩
  walk_at "in"
  unfold t_end_of
  obtain ⟨h1, h2, h3, h4⟩ := drop_at hd
  rw [str_len] at h1
  have hpc := pl_in hp h4
  have hlr : r.length = x.length - (a + 1) := by rw [← h3, List.length_drop, str_len]
  walk_at "dg"
  refine w_ixT hl h2 ?_
  walk_at "dg"
  refine ⟨c, rfl, hpc, ?_⟩
  walk_at "dg"
  have loop : ∀ (k : Nat) (tst : DT) (kn : DL.Env → Prop) (rt : D → DL.Env → Prop) (bk ct : DL.Env → Prop) (ex : Exn → DL.Env → Prop),
      (∀ (c' : Nat) (j : Nat) (QT : Bool → DL.Env → Prop), pcB c' = true → atI x.cps.toList ((a + 1 + j : Nat) : Int) = some c' → QT (goesB k c') [.v (en x), .v (en (a : Int)), .v (en (sortS (sortN c))), .v (en ((a + 1 + j : Nat) : Int))] →
        tst [.v (en x), .v (en (a : Int)), .v (en (sortS (sortN c))), .v (en ((a + 1 + j : Nat) : Int))] QT ex) →
      kn [.v (en x), .v (en (a : Int)), .v (en (sortS (sortN c))), .v (en ((a + 1 + (r.takeWhile (goesB k)).length : Nat) : Int))] →
      dWhile (dAnd (dTst (dOp qLt (dVar 3) (dCB qLen (dCons (dVar 0) dNil)))) tst) (dAugI 3 (dC (.int 1))) ⟨kn, rt, bk, ct, ex⟩ [.v (en x), .v (en (a : Int)), .v (en (sortS (sortN c))), .v (en ((a : Int) + 1))] := by
    intro k tst kn rt bk ct ex ht hk
    refine while_run (fun m ρ => ∃ j, ρ = [.v (en x), .v (en (a : Int)), .v (en (sortS (sortN c))), .v (en ((a + 1 + j : Nat) : Int))] ∧ m = (r.drop j).length ∧ (r.takeWhile (goesB k)).length = j + ((r.drop j).takeWhile (goesB k)).length) ?_ (m := r.length) ⟨0, rfl, by simp, by simp⟩
    rintro m _ K ⟨j, rfl, hm, hj⟩ hK
    walk_at "dg"
    cases e : r.drop j with
    | nil =>
      refine w_if_f ?_ ?_
      · rw [decide_eq_false_iff_not]
        have : r.length ≤ j := List.drop_eq_nil_iff.mp e
        omega
      · rw [e] at hj
        walk_at "dg"
        rw [hj] at hk
        exact hk
    | cons c' r' =>
      have ed : x.cps.toList.drop (a + 1 + j) = c' :: r' := by rw [← List.drop_drop, h3, e]
      obtain ⟨g1, g2, g3, g4⟩ := drop_at ed
      rw [str_len] at g1
      refine w_if_t (decide_eq_true (by omega)) ?_
      refine ht c' j _ (pl_in hp g4) g2 ?_
      refine w_if (fun hb => ?_) fun hb => ?_
      · walk_at "dg"
        refine hK (r.drop (j + 1)).length _ ?_ ⟨j + 1, rfl, rfl, ?_⟩
        · rw [hm, List.length_drop, List.length_drop]
          have : j < r.length := by
            have := congrArg List.length e
            rw [List.length_drop, List.length_cons] at this
            omega
          omega
        · have e2 : r.drop (j + 1) = r' := by rw [← List.drop_drop, e]; rfl
          rw [hj, e, e2, List.takeWhile_cons, if_pos hb, List.length_cons]
          omega
      · rw [e, List.takeWhile_cons, if_neg (by rw [hb]; decide)] at hj
        simp only [List.length_nil, Nat.add_zero] at hj
        rw [hj] at hk
        exact hk
  obtain ⟨s1, s2, s3⟩ := sS (sortN c) (sort_le c)
  refine w_if (fun hb => ?_) fun hb => ?_
  · have hb := s1.mp (dc_t.mp hb)
    refine loop 2 _ _ _ _ _ _ ?_ ?_
    · intro c' j QT g1 g2 g3
      walk_at "dg"
      refine w_ixT hl g2 ?_
      walk_at "dg"
      refine ⟨c', rfl, g1, ?_⟩
      walk_at "dg"
      rw [goes2]
      exact g3
    · walk_at "dg"
      rw [hb] at hq
      exact hq
  have hb : sortN c ≠ 2 := fun z => dc_f.mp hb (s1.mpr z)
  walk_at "dg"
  refine w_if (fun hb2 => ?_) fun hb2 => ?_
  · have hb2 := s2.mp (dc_t.mp hb2)
    refine loop 1 _ _ _ _ _ _ ?_ ?_
    · intro c' j QT g1 g2 g3
      walk_at "dg"
      refine w_ixT hl g2 ?_
      walk_at "dg"
      refine ⟨c', rfl, g1, ?_⟩
      walk_at "dg"
      rw [goes1]
      exact g3
    · walk_at "dg"
      rw [hb2] at hq
      exact hq
  have hb2 : sortN c ≠ 1 := fun z => dc_f.mp hb2 (s2.mpr z)
  walk_at "dg"
  rw [(tw0 (goes0 hb2 hb) r).1] at hq
  exact hq
theorem wordsL_nil : wordsL [] = [] := by rw [wordsL]
theorem wordsL_cons (c : Nat) (r : List Nat) : wordsL (c :: r) = if c = 32 then wordsL r else (c :: r.takeWhile (goesB (sortN c))) :: wordsL (r.dropWhile (goesB (sortN c))) := by rw [wordsL]
theorem sort32 : sortN 32 = 0 := rfl
theorem drop_tw (p : Nat → Bool) (l : List Nat) : l.drop (l.takeWhile p).length = l.dropWhile p := by
  induction l with
  | nil => rfl
  | cons c r ih =>
    rw [List.takeWhile_cons, List.dropWhile_cons]
    split
    · exact ih
    · rfl
theorem take_tw (p : Nat → Bool) (l : List Nat) : l.take (l.takeWhile p).length = l.takeWhile p := by
  induction l with
  | nil => rfl
  | cons c r ih =>
    rw [List.takeWhile_cons]
    split
    · rw [List.length_cons, List.take_succ_cons, ih]
    · rfl
theorem tw_le (p : Nat → Bool) (l : List Nat) : (l.takeWhile p).length ≤ l.length := (List.takeWhile_prefix p).length_le
theorem wordsL_len : ∀ (n : Nat) (l : List Nat), l.length ≤ n → (wordsL l).length ≤ l.length
  | _, [], _ => by rw [wordsL_nil]; exact Nat.le_refl _
  | n + 1, c :: r, h => by
    rw [wordsL_cons]
    rw [List.length_cons] at h ⊢
    have hd := drop_lt (p := goesB (sortN c)) r
    split
    · have := wordsL_len n r (by omega)
      omega
    · rw [List.length_cons]
      have := wordsL_len n (r.dropWhile (goesB (sortN c))) (by omega)
      omega
theorem sem_parts_of : Sem S_parts_of t_parts_of 4 := by
  rintro _ Q0 E0 ⟨x, rfl, hp, hl, hq⟩
  walk_at "in"
  unfold t_parts_of
  walk_at "dg"
  refine while_run (fun m ρ => ∃ (a : Nat) (acc : List Str) (s : Sl), ρ = [.v (en x), .v (eo acc), .v (en (a : Int)), s] ∧ Fr s ∧ m = (x.cps.toList.drop a).length ∧ acc ++ (wordsL (x.cps.toList.drop a)).map st = wordsF x ∧ acc.length ≤ a ∧ a ≤ x.length) ?_ (m := x.cps.toList.length) ⟨0, [], .un, rfl, fr_un, rfl, rfl, Nat.le_refl _, Nat.zero_le _⟩
  rintro m _ k ⟨a, acc, s, rfl, hs, hm, he, hn, ha⟩ hk
  have both : ∀ s, Fr s → _ := fun s hs => hs
  cases e : x.cps.toList.drop a with
  | nil =>
    rw [e, wordsL_nil, List.map_nil, List.append_nil] at he
    have : x.cps.toList.length ≤ a := List.drop_eq_nil_iff.mp e
    rw [str_len] at this
    rcases hs with rfl | ⟨d, rfl⟩
    all_goals
      walk_at "dg"
      refine w_if_f (decide_eq_false (by omega)) ?_
      walk_at "dg"
      rw [he]
      exact hq
  | cons c r =>
    obtain ⟨h1, h2, h3, h4⟩ := drop_at e
    rw [str_len] at h1
    have hpc := pl_in hp h4
    have hlr : r.length = x.length - (a + 1) := by rw [← h3, List.length_drop, str_len]
    have htw := tw_le (goesB (sortN c)) r
    rw [e, wordsL_cons] at he
    rcases hs with rfl | ⟨d, rfl⟩
    all_goals
      walk_at "dg"
      refine w_if_t (decide_eq_true (by omega)) ?_
      walk_at "dg"
      refine ⟨x, a, c, r, rfl, hp, hl, e, ?_⟩
      walk_at "dg"
      refine w_ixT hl h2 ?_
      walk_at "dg"
      refine w_if (fun hb => ?_) fun hb => ?_
      · have hb : ¬ c = 32 := fun z => by
          rw [Bool.not_eq_true', dc_f] at hb
          exact hb (sg_eq.mpr z)
        rw [if_neg hb] at he
        have hw : cutS x (some (a : Int)) (some ((a + 1 + (r.takeWhile (goesB (sortN c))).length : Nat) : Int)) = st (c :: r.takeWhile (goesB (sortN c))) := by
          rw [← str_st x, cut_st (by omega) (by rw [str_len]; omega), e]
          congr 1
          rw [show a + 1 + (r.takeWhile (goesB (sortN c))).length - a = (r.takeWhile (goesB (sortN c))).length + 1 by omega, List.take_succ_cons, take_tw]
        walk_at "dg"
        rw [hw]
        refine hk (x.cps.toList.drop (a + 1 + (r.takeWhile (goesB (sortN c))).length)).length _ ?_ ⟨a + 1 + (r.takeWhile (goesB (sortN c))).length, acc ++ [st (c :: r.takeWhile (goesB (sortN c)))], _, rfl, fr_v _, rfl, ?_, ?_, ?_⟩
        · rw [hm, List.length_drop, List.length_drop, str_len]; omega
        · rw [← he, ← List.drop_drop, h3, drop_tw, List.map_cons, List.append_assoc]
          rfl
        · rw [List.length_append, List.length_singleton]; omega
        · omega
      · have hb : c = 32 := by
          rw [Bool.not_eq_false', dc_t] at hb
          exact sg_eq.mp hb
        rw [if_pos hb] at he
        have h0 : (r.takeWhile (goesB (sortN c))).length = 0 := by
          rw [hb, sort32, (tw0 (goes0 (by decide) (by decide)) r).1]
          rfl
        walk_at "dg"
        refine hk (x.cps.toList.drop (a + 1 + (r.takeWhile (goesB (sortN c))).length)).length _ ?_ ⟨a + 1 + (r.takeWhile (goesB (sortN c))).length, acc, _, rfl, fr_v _, rfl, ?_, ?_, ?_⟩
        · rw [hm, List.length_drop, List.length_drop, str_len]; omega
        · rw [h0, Nat.add_zero, h3]; exact he
        · omega
        · omega
theorem word_le {x : Str} {w : Str} (h : w ∈ wordsF x) : w.length ≤ x.length := by
  obtain ⟨l, hl, rfl⟩ := List.mem_map.mp h
  rw [st_len, ← str_len]
  clear h
  generalize x.cps.toList = xs at hl
  have : ∀ (n : Nat) (xs : List Nat), xs.length ≤ n → l ∈ wordsL xs → l.length ≤ xs.length := by
    intro n
    induction n with
    | zero =>
      intro xs h hl
      have : xs = [] := List.eq_nil_of_length_eq_zero (by omega)
      subst this
      rw [wordsL_nil] at hl
      cases hl
    | succ n ih =>
      intro xs h hl
      cases xs with
      | nil => rw [wordsL_nil] at hl; cases hl
      | cons c r =>
        rw [wordsL_cons] at hl
        rw [List.length_cons] at h ⊢
        have hd := drop_lt (p := goesB (sortN c)) r
        have ht := tw_le (goesB (sortN c)) r
        split at hl
        · have := ih r (by omega) hl
          omega
        · rcases List.mem_cons.mp hl with rfl | hl
          · rw [List.length_cons]; omega
          · have := ih _ (by omega) hl
            omega
  exact this _ xs (Nat.le_refl _) hl
theorem tw_all {p : Nat → Bool} {l : List Nat} (h : ∀ c ∈ l, p c = true) : l.takeWhile p = l ∧ l.dropWhile p = [] := by
  induction l with
  | nil => exact ⟨rfl, rfl⟩
  | cons c r ih =>
    obtain ⟨h1, h2⟩ := ih fun x hx => h x (List.mem_cons_of_mem _ hx)
    have hc := h c (List.mem_cons_self ..)
    rw [List.takeWhile_cons, List.dropWhile_cons, hc]
    exact ⟨by simp [h1], h2⟩
/-- a word of a text is a word, of its signs -/
theorem word_word : ∀ (n : Nat) (l w : List Nat), l.length ≤ n → w ∈ wordsL l → wordsL w = [w] ∧ ∀ c ∈ w, c ∈ l
  | 0, l, w, h, hw => by
    have : l = [] := List.eq_nil_of_length_eq_zero (by omega)
    subst this
    rw [wordsL_nil] at hw
    cases hw
  | n + 1, [], w, h, hw => by
    rw [wordsL_nil] at hw
    cases hw
  | n + 1, c :: r, w, h, hw => by
    rw [wordsL_cons] at hw
    rw [List.length_cons] at h
    have hd := drop_lt (p := goesB (sortN c)) r
    split at hw
    · obtain ⟨g1, g2⟩ := word_word n r w (by omega) hw
      exact ⟨g1, fun x hx => List.mem_cons_of_mem _ (g2 x hx)⟩
    · rename_i hc
      rcases List.mem_cons.mp hw with rfl | hw
      · refine ⟨?_, fun x hx => ?_⟩
        · rw [wordsL_cons, if_neg hc]
          have : ∀ x ∈ r.takeWhile (goesB (sortN c)), goesB (sortN c) x = true := fun x hx => List.all_eq_true.mp List.all_takeWhile x hx
          obtain ⟨t1, t2⟩ := tw_all this
          rw [t1, t2, wordsL_nil]
        · rcases List.mem_cons.mp hx with rfl | hx
          · exact List.mem_cons_self ..
          · exact List.mem_cons_of_mem _ ((List.takeWhile_prefix _).subset hx)
      · obtain ⟨g1, g2⟩ := word_word n _ w (by omega) hw
        exact ⟨g1, fun x hx => List.mem_cons_of_mem _ ((List.dropWhile_suffix _).subset (g2 x hx))⟩
theorem word_goes {c : Nat} {r : List Nat} (h : wordsL (c :: r) = [c :: r]) : c ≠ 32 ∧ ∀ x ∈ r, goesB (sortN c) x = true := by
  rw [wordsL_cons] at h
  split at h
  · exfalso
    rename_i hc
    have h1 := wordsL_len r.length r (Nat.le_refl _)
    obtain ⟨_, g⟩ := word_word r.length r (c :: r) (Nat.le_refl _) (by rw [h]; exact List.mem_singleton.mpr rfl)
    have h2 : (c :: r).length ≤ r.length := by
      have := word_le (x := st r) (w := st (c :: r)) (by unfold wordsF; rw [st_list, h]; exact List.mem_singleton.mpr rfl)
      rw [st_len, st_len] at this
      exact this
    rw [List.length_cons] at h2
    omega
  · rename_i hc
    injection h with h1 h2
    injection h1 with _ h1
    exact ⟨hc, fun x hx => by
      rw [← h1] at hx
      exact List.all_eq_true.mp List.all_takeWhile x hx⟩
/-- one sign of a text -/
def pick (x : Str) (i n : Int) : Nat := x.cps.toList.getD (i % n).toNat 0
theorem pl_sg {c : Nat} (h : pcB c = true) : plB (sg c) = true := by
  unfold plB sg
  simp [h]
theorem sem_is_word : Sem S_is_word t_is_word 1 := by
  rintro _ Q0 E0 ⟨d, rfl, ⟨x, rfl, hl, hq⟩ | ⟨ho, hq⟩⟩
  rotate_left
  · have hz := ho.2.1
    simp only [initE, finL, hz, if_true, List.map_cons, List.map_nil, List.length_cons, List.length_nil, Nat.zero_add, Nat.reduceAdd, Nat.reduceSub, List.replicate_succ, List.replicate_zero, List.cons_append, List.nil_append, Option.some.injEq, exists_eq_left']
    unfold t_is_word
    walk_at "dg"
    refine ⟨_, rfl, .inr ⟨ho, ?_⟩⟩
    walk_at "dg"
    exact hq
  walk_at "in"
  unfold t_is_word
  walk_at "dg"
  refine ⟨_, rfl, .inl ⟨x, rfl, hl, ?_⟩⟩
  unfold wordB at hq
  walk_at "dg"
  refine w_if (fun hp => ?_) fun hp => ?_
  · rw [hp, Bool.true_and] at hq
    walk_at "dg"
    refine w_if (fun hb => ?_) fun hb => ?_
    · walk_at "dg"
      refine ⟨x, rfl, hp, hl, ?_⟩
      walk_at "dg"
      refine w_eqP (x := wordsF x) (y := [x]) (py_eo _) rfl (by decide) ?_
      walk_at "dg"
      have hb : x.length ≤ 20 := by
        have := of_decide_eq_true hb
        omega
      rw [decide_eq_true hb, Bool.true_and] at hq
      exact hq
    · walk_at "dg"
      have hb : ¬ x.length ≤ 20 := by
        have := of_decide_eq_false hb
        omega
      rw [decide_eq_false hb, Bool.false_and] at hq
      exact hq
  · rw [hp, Bool.false_and] at hq
    walk_at "dg"
    exact hq
theorem word_head {x : Str} (h : wordB x = true) : ∃ c r, x.cps.toList = c :: r ∧ pcB c = true ∧ plB x = true ∧ x.length ≤ 20 := by
  unfold wordB at h
  rw [Bool.and_eq_true, Bool.and_eq_true] at h
  obtain ⟨h1, h2, h3⟩ := h
  have h3 := dc_t.mp h3
  cases e : x.cps.toList with
  | nil =>
    unfold wordsF at h3
    rw [e, wordsL_nil] at h3
    cases h3
  | cons c r => exact ⟨c, r, rfl, pl_in h1 (by rw [e]; exact List.mem_cons_self ..), h1, of_decide_eq_true h2⟩
theorem sem_law_kept : Sem S_law_kept t_law_kept 0 := by
  rintro _ Q0 E0 ⟨rfl, hq⟩
  walk_at "in"
  unfold t_law_kept
  walk_at "dg"
  exact hq
local macro_rules | `(tactic| walk_at "in") => `(tactic| (simp only [initE, finL, fz_st, fz_e, fz_eo, fz_ek, fz_dE, if_true, if_false, Bool.false_eq_true, List.map_cons, List.map_nil, List.length_cons, List.length_nil, Nat.zero_add, Nat.reduceAdd, Nat.reduceSub, List.replicate_succ, List.replicate_zero, List.cons_append, List.nil_append, Option.some.injEq, exists_eq_left']))
local macro_rules | `(tactic| walk_at "fr") => `(tactic| first | exact fr_p _ | exact fr_oo _ | exact fr_dE _)
local macro_rules | `(tactic| walk_at "d0") => `(tactic| first
  | (with_reducible_and_instances apply w_lenM)
  | ((with_reducible_and_instances apply use_take); (· assumption); (· walk_at "bd"); intro _ _ _ _)
  | ((with_reducible_and_instances apply use_free); (· assumption))
  | (with_reducible_and_instances apply w_call0) | (with_reducible_and_instances apply use_kept)
  | ((with_reducible_and_instances apply w_ixN); (· exact rfl); (· walk_at "bd"); intro _ _ _)
  | ((with_reducible_and_instances apply w_ixTS); (· omega); (· omega); intro _ _ _ _ _)
  | ((with_reducible_and_instances apply w_addN); (· omega); intro _ _ _)
  | ((with_reducible_and_instances apply w_cutN); (· walk_at "rf"); (· omega); intro _ _ _)
  | ((with_reducible_and_instances apply w_strN); (· omega); intro _ _) | ((with_reducible_and_instances apply w_zfillN); (· omega); intro _ _)
  | ((with_reducible_and_instances apply m_popN); (· walk_at "bd"); intro _ _ _)
  | ((with_reducible_and_instances apply w_addLE); (· walk_at "bd"))
  | ((with_reducible_and_instances apply w_jlK); (· walk_at "rf"); (· simp only [app_lenS, len_empty, len_us]; omega))
  | ((with_reducible_and_instances apply w_lenS); (· omega))
  | ((with_reducible_and_instances apply w_fmN); (· walk_at "rf"); (· omega)))
abbrev KS : List Key := [.inr "cells", .inr "at", .inr "rest", .inr "turn", .inr "more"]
theorem lk_cells {v1 v2 v3 v4 v5 : D} : lookK KS [v1, v2, v3, v4, v5] (.inr "cells") = some v1 := by rfl
theorem lk_at {v1 v2 v3 v4 v5 : D} : lookK KS [v1, v2, v3, v4, v5] (.inr "at") = some v2 := by rfl
theorem lk_rest {v1 v2 v3 v4 v5 : D} : lookK KS [v1, v2, v3, v4, v5] (.inr "rest") = some v3 := by rfl
theorem lk_turn {v1 v2 v3 v4 v5 : D} : lookK KS [v1, v2, v3, v4, v5] (.inr "turn") = some v4 := by rfl
theorem lk_more {v1 v2 v3 v4 v5 : D} : lookK KS [v1, v2, v3, v4, v5] (.inr "more") = some v5 := by rfl
theorem pk_at : putKs KS (.inr "at" : Key) = KS := by rfl
theorem pk_rest : putKs KS (.inr "rest" : Key) = KS := by rfl
theorem pk_turn : putKs KS (.inr "turn" : Key) = KS := by rfl
theorem pk_more : putKs KS (.inr "more" : Key) = KS := by rfl
theorem pc_at {v1 v2 v3 v4 v5 v : D} : putCh KS [v1, v2, v3, v4, v5] (.inr "at" : Key) v = [v1, v, v3, v4, v5] := by rfl
theorem pc_rest {v1 v2 v3 v4 v5 v : D} : putCh KS [v1, v2, v3, v4, v5] (.inr "rest" : Key) v = [v1, v2, v, v4, v5] := by rfl
theorem pc_turn {v1 v2 v3 v4 v5 v : D} : putCh KS [v1, v2, v3, v4, v5] (.inr "turn" : Key) v = [v1, v2, v3, v, v5] := by rfl
theorem pc_more {v1 v2 v3 v4 v5 v : D} : putCh KS [v1, v2, v3, v4, v5] (.inr "more" : Key) v = [v1, v2, v3, v4, v] := by rfl
section
local macro_rules | `(tactic| walk_at "d0") => `(tactic| first | ((with_reducible_and_instances apply w_ixR); (· first | exact lk_cells | exact lk_at | exact lk_rest | exact lk_turn | exact lk_more); (· first | exact rfl | exact fz_ek _); ) | ((with_reducible_and_instances apply m_putR); (· exact rfl); (· exact (by decide : 5 < 100000)); (· first | exact pk_at | exact pk_rest | exact pk_turn | exact pk_more); (· first | exact pc_at | exact pc_rest | exact pc_turn | exact pc_more)))
end
theorem letter2 {c : Nat} (h : pcB c = true) : letB c = decide (sortN c = 2) := by
  have key : ∀ c : Fin 127, pcB c = true → letB c = decide (sortN c = 2) := by decide +kernel
  exact key ⟨c, pc_lt h⟩ h
/-! names -/
def Nl (x : Str) : Prop := ∃ c r, x.cps.toList = c :: r ∧ letB c = true ∧ ∀ d ∈ r, (letB d || digB d) = true
theorem let_pc {c : Nat} (h : (letB c || digB c) = true) : pcB c = true := by
  unfold letB digB at h
  unfold pcB
  simp only [Bool.or_eq_true, Bool.and_eq_true, decide_eq_true_eq, beq_iff_eq] at h ⊢
  omega
theorem goes_2 {d : Nat} (h : (letB d || digB d) = true) : goesB 2 d = true := by
  have hp := let_pc h
  have key : ∀ c : Fin 127, (letB c || digB c) = true → goesB 2 c = true := by decide +kernel
  exact key ⟨d, pc_lt hp⟩ h
theorem nl_pl {x : Str} (h : Nl x) : plB x = true ∧ 0 < x.length := by
  obtain ⟨c, r, e, h1, h2⟩ := h
  refine ⟨?_, by rw [← str_len, e]; simp⟩
  unfold plB
  rw [e, List.all_cons, let_pc (by rw [h1]; rfl), Bool.true_and, List.all_eq_true]
  exact fun d hd => let_pc (h2 d hd)
theorem nl_name {x : Str} (h : Nl x) (hl : x.length ≤ 20) : nameB x = true := by
  have hp := (nl_pl h).1
  obtain ⟨c, r, e, h1, h2⟩ := h
  have hc := let_pc (c := c) (by rw [h1]; rfl)
  have s2 : sortN c = 2 := by
    have := letter2 hc
    rw [h1] at this
    exact of_decide_eq_true this.symm
  have hw : wordsF x = [x] := by
    unfold wordsF
    rw [e, wordsL_cons, s2]
    have h3 : r.takeWhile (goesB 2) = r ∧ r.dropWhile (goesB 2) = [] := tw_all fun d hd => goes_2 (h2 d hd)
    rw [h3.1, h3.2, wordsL_nil, if_neg (by intro z; rw [z] at s2; cases s2)]
    rw [← e]
    show [st x.cps.toList] = [x]
    rw [str_st]
  unfold nameB wordB
  rw [hp, dc_t.mpr hw, decide_eq_true hl, e]
  show (true && (true && true) && decide (sortN c = 2)) = true
  rw [s2]; rfl
theorem word_len {x : Str} (h : wordB x = true) : x.length ≤ 20 ∧ 0 < x.length := by
  obtain ⟨c, r, e, _, _, hl⟩ := word_head h
  exact ⟨hl, by rw [← str_len, e]; simp⟩
theorem name_nl {x : Str} (h : nameB x = true) : Nl x := by
  have hw : wordB x = true := by unfold nameB at h; rw [Bool.and_eq_true] at h; exact h.1
  obtain ⟨c, r, e, hc, hp, hl⟩ := word_head hw
  have s2 : sortN c = 2 := by
    unfold nameB at h
    rw [Bool.and_eq_true, e] at h
    exact of_decide_eq_true h.2
  refine ⟨c, r, e, by rw [letter2 hc, s2]; rfl, fun d hd => ?_⟩
  have h3 : wordsL (c :: r) = [c :: r] := by
    unfold wordB at hw
    rw [Bool.and_eq_true, Bool.and_eq_true] at hw
    have := dc_t.mp hw.2.2
    unfold wordsF at this
    rw [e] at this
    cases g : wordsL (c :: r) with
    | nil => rw [g] at this; cases this
    | cons y ys =>
      rw [g] at this
      injection this with t1 t2
      have t2 : ys = [] := by simpa using t2
      have t1 : y = c :: r := by
        have := congrArg (fun z : Str => z.cps.toList) t1
        simp only [st_list] at this
        rw [this, e]
      rw [t1, t2]
  have h4 := (word_goes h3).2 d hd
  rw [s2] at h4
  have hd' : pcB d = true := pl_in hp (by rw [e]; exact List.mem_cons_of_mem _ hd)
  have key : ∀ c : Fin 127, pcB c = true → goesB 2 c = true → (letB c || digB c) = true := by decide +kernel
  exact key ⟨d, pc_lt hd'⟩ hd' h4
theorem used_nl {u : List Str} (h : Used u) {x : Str} (hx : x ∈ u) : Nl x ∧ x.length ≤ 20 := by
  obtain ⟨us, rfl, _, h2, _⟩ := h
  have hn : nameB x = true := by
    rcases List.mem_append.mp hx with z | z
    · have key : ∀ x ∈ keptL, Nl x ∧ x.length ≤ 20 := by
        have k2 : (keptL.all fun x => match x.cps.toList with | [] => false | c :: r => letB c && (r.all fun d => letB d || digB d) && decide (x.length ≤ 20)) = true := by decide +kernel
        intro x hx
        have := List.all_eq_true.mp k2 x hx
        cases e : x.cps.toList with
        | nil => rw [e] at this; cases this
        | cons c r =>
          rw [e] at this
          simp only [Bool.and_eq_true, List.all_eq_true, decide_eq_true_eq] at this
          exact ⟨⟨c, r, e, this.1.1, this.1.2⟩, this.2⟩
      exact nl_name (key x z).1 (key x z).2
    · have := h2 x z
      unfold Fn freeB at this
      rw [Bool.and_eq_true] at this
      exact this.1
  have hw : wordB x = true := by unfold nameB at hn; rw [Bool.and_eq_true] at hn; exact hn.1
  exact ⟨name_nl hn, (word_len hw).1⟩

/-! draws of names -/
def someS : Str := "abcdefghijklmnopqrstuvwxyz_ABCDEFGHIJKLMNOPQRSTUVWXYZ0123456789"
theorem some_len : someS.length = 63 := by decide +kernel
theorem some_at {k : Nat} {c : Nat} (h : someS.cps.toList[k]? = some c) : (letB c || digB c) = true ∧ (k < 53 → letB c = true) := by
  have key : ∀ k : Fin 63, (match someS.cps.toList[k.val]? with | some c => (letB c || digB c) && (decide (53 ≤ k.val) || letB c) | none => false) = true := by decide +kernel
  have hk : k < 63 := by
    have := (List.getElem?_eq_some_iff.mp h).1
    rw [str_len, some_len] at this
    exact this
  have := key ⟨k, hk⟩
  simp only [h, Bool.and_eq_true] at this
  exact ⟨this.1, fun z => by
    have h2 := this.2
    rw [decide_eq_false (by omega), Bool.false_or] at h2
    exact h2⟩
theorem nl_sg {c : Nat} (h : letB c = true) : Nl (sg c) := ⟨c, [], rfl, h, fun _ z => by cases z⟩
theorem app_list' (a b : Str) : (a ++ b).cps.toList = a.cps.toList ++ b.cps.toList := by
  show (a.cps ++ b.cps).toList = _
  simp
theorem nl_app {a b : Str} (h : Nl a) (hb : ∀ d ∈ b.cps.toList, (letB d || digB d) = true) : Nl (a ++ b) := by
  obtain ⟨c, r, e, h1, h2⟩ := h
  refine ⟨c, r ++ b.cps.toList, by rw [app_list', e]; rfl, h1, fun d hd => ?_⟩
  rcases List.mem_append.mp hd with z | z
  · exact h2 d z
  · exact hb d z
def valS (x : Str) : Nat := x.cps.toList.foldl (fun n c => n * 10 + (c - 48)) 0
def candF (x : Str) (k : Nat) : Str := ((Str.empty ++ cutS x none (some 15)) ++ Str.ofString "_") ++ Str.ofString (toString (k : Int))
theorem cut_take (x : Str) {v : Int} (h : 0 ≤ v) : (cutS x none (some v)).cps.toList = x.cps.toList.take v.toNat := by
  unfold cutS HT.sIx
  have : ¬ v < 0 := by omega
  simp only [this, if_false, List.drop_zero, Nat.sub_zero]
  rw [← str_len]
  by_cases g : v.toNat ≤ x.cps.toList.length
  · rw [Nat.min_eq_left g]
  · rw [Nat.min_eq_right (by omega), List.take_of_length_le (Nat.le_refl _), List.take_of_length_le (by omega)]
theorem kept_word : ∀ x ∈ keptL, wordB x = true ∧ freeB x = false := by
  intro x hx
  have hU : Used keptL := ⟨[], by simp, by decide, fun _ z => (by cases z), by decide +kernel⟩
  obtain ⟨h1, h2⟩ := used_nl hU hx
  have h3 := nl_name h1 h2
  refine ⟨by unfold nameB at h3; rw [Bool.and_eq_true] at h3; exact h3.1, ?_⟩
  unfold freeB
  rw [dc_t.mpr hx]
  simp
theorem dig_word {x : Str} (h0 : 0 < x.length) (hl : x.length ≤ 20) (h : ∀ d ∈ x.cps.toList, digB d = true) : wordB x = true ∧ freeB x = false := by
  cases e : x.cps.toList with
  | nil => rw [← str_len, e] at h0; cases h0
  | cons c r =>
    rw [e] at h
    have hc := h c (List.mem_cons_self ..)
    have pc : ∀ d, digB d = true → pcB d = true ∧ goesB 1 d = true ∧ sortN d = 1 := by
      intro d hd
      have hp : pcB d = true := let_pc (by rw [hd]; simp)
      have key : ∀ c : Fin 127, digB c = true → goesB 1 c = true ∧ sortN c = 1 := by decide +kernel
      exact ⟨hp, key ⟨d, pc_lt hp⟩ hd⟩
    have hp : plB x = true := by
      unfold plB
      rw [e, List.all_eq_true]
      exact fun d hd => (pc d (h d hd)).1
    have s1 := (pc c hc).2.2
    have hw : wordsF x = [x] := by
      unfold wordsF
      rw [e, wordsL_cons, s1]
      have h3 : r.takeWhile (goesB 1) = r ∧ r.dropWhile (goesB 1) = [] := tw_all fun d hd => (pc d (h d (List.mem_cons_of_mem _ hd))).2.1
      rw [h3.1, h3.2, wordsL_nil, if_neg (by intro z; rw [z] at s1; cases s1), ← e]
      show [st x.cps.toList] = [x]
      rw [str_st]
    have hB : wordB x = true := by
      unfold wordB
      rw [hp, dc_t.mpr hw, decide_eq_true hl]; rfl
    refine ⟨hB, ?_⟩
    unfold freeB nameB
    rw [e]
    show (wordB x && decide (sortN c = 2) && _) = false
    rw [s1]
    simp
def signS : Str := "!\"#$&'()*+,-./:;<=>?\x40[\\]^`{|}~"
theorem sign_len : signS.length = 30 := by decide +kernel
theorem sign_word {k c : Nat} (h : signS.cps.toList[k]? = some c) : wordB (sg c) = true ∧ freeB (sg c) = false := by
  have key : (signS.cps.toList.all fun c => pcB c && decide (sortN c = 3) && !decide (c = 32)) = true := by decide +kernel
  have := List.all_eq_true.mp key c (List.mem_of_getElem? h)
  simp only [Bool.and_eq_true, decide_eq_true_eq, Bool.not_eq_true', decide_eq_false_iff_not] at this
  obtain ⟨⟨h1, h2⟩, h3⟩ := this
  have hw : wordsF (sg c) = [sg c] := by
    unfold wordsF
    show (wordsL [c]).map st = _
    rw [wordsL_cons, if_neg h3]
    simp [wordsL_nil, sg, st]
  refine ⟨?_, ?_⟩
  · unfold wordB
    rw [pl_sg h1, dc_t.mpr hw]
    rfl
  · unfold freeB nameB
    show (wordB (sg c) && decide (sortN c = 2) && _) = false
    rw [h2]
    simp
def okP (p : Str × Str) : Prop := (freeB p.1 = true ∧ freeB p.2 = true) ∨ p.1 = p.2
noncomputable def tieB (p : Str × Str) : Bool := freeB p.1 && freeB p.2
def fl (z : List (List Str × List Str)) : List (Str × Str) := z.flatMap fun p => p.1.zip p.2
/-- the numbers of names -/
def kvN (seen : List Str) : List (Str × Int) := seen.zipIdx.map fun p => (p.1, (p.2 : Int))
theorem m_insM {α : Type} {F : α → D} {xs' : List α} {a : α} {p : Int} {K : Kd → List D → D → Prop} (h1 : 0 ≤ p ∧ p < 2 ^ 63 ∧ xs'.length < 100000) (h : K .lst ((xs'.take p.toNat ++ [a] ++ xs'.drop p.toNat).map F) .non) : mInsert .lst (xs'.map F) [.p (.int p), F a] K := ⟨p, _, rfl, rfl, by rw [List.length_map]; exact h1, by
  rw [List.map_append, List.map_append, List.map_take, List.map_drop] at h; exact h⟩
theorem cutD_len {α : Type} (xs : List α) (lo hi : Option Int) : (cutD xs lo hi).length ≤ xs.length := by
  unfold cutD
  rw [List.length_take, List.length_drop]
  omega
theorem cutD_mem {α : Type} {xs : List α} {lo hi : Option Int} {r : α} (h : r ∈ cutD xs lo hi) : r ∈ xs := List.mem_of_mem_drop (List.mem_of_mem_take h)
theorem cutD_hi {α : Type} {xs : List α} {l : Nat} (h : l ≤ xs.length) : cutD xs none (some (l : Int)) = xs.take l := by
  unfold cutD HT.sIx
  have e1 : ¬ ((l : Int) < 0) := by omega
  simp only [e1, if_false, List.drop_zero, Nat.sub_zero]
  congr 1
  omega
theorem cutD_lo {α : Type} {xs : List α} {l : Nat} (h : l ≤ xs.length) : cutD xs (some ((l : Int) + 1)) none = xs.drop (l + 1) := by
  unfold cutD HT.sIx
  have e1 : ¬ ((l : Int) + 1 < 0) := by omega
  simp only [e1, if_false]
  have e2 : min ((l : Int) + 1).toNat xs.length = min (l + 1) xs.length := by congr 1
  rw [e2]
  by_cases g : l + 1 ≤ xs.length
  · rw [Nat.min_eq_left g, List.take_of_length_le (by rw [List.length_drop]; omega)]
  · rw [Nat.min_eq_right (by omega), List.drop_eq_nil_of_le (Nat.le_refl _), List.drop_eq_nil_of_le (by omega)]
    simp
theorem lkL1 {ρ : DL.Env} {i : Nat} {d : D} (h : slD ρ i = some d) : lookL ρ [.s i] = some [d] := by
  have h : look ρ (.s i) = some d := h
  unfold lookL
  rw [h]
  rfl
theorem lkS {ρ : DL.Env} {i : Nat} {d : D} (h : slD ρ i = some d) : look ρ (.s i) = some d := h
theorem ixN_nat {n l : Nat} (h : l < n) : ixN n (l : Int) = some l := by
  unfold ixN
  have e1 : ¬ ((l : Int) < 0) := by omega
  simp [e1, h]
section
local macro_rules | `(tactic| walk_at "rf") => `(tactic| first | exact lkL1 (sl_oo rfl rfl (by assumption)) | exact lkS (sl_oo rfl rfl (by assumption)))
local macro_rules | `(tactic| walk_at "ne") => `(tactic| (simp only [kb_nil, kb_un, kb_v, kb_w, kb_b, kb_fs, se0, seS, wi0, wiS, show ((3 : Nat) = 0) = False from by decide, show ((3 : Nat) = 6) = False from by decide, show ((3 : Nat) = 7) = False from by decide, show ((3 : Nat) = 8) = False from by decide, if_false, if_true]; first | done | exact rfl))
set_option maxHeartbeats 4000000 in
end
noncomputable def nxS (s : List Str) (w : Str) : List Str := if freeB w = true ∧ w ∉ s then s ++ [w] else s
noncomputable def itS (s : List Str) (w : Str) : It := if freeB w = true then .h (((nxS s w).idxOf w : Nat) : Int) else .w w
noncomputable def mwF : List Str → List Str → List It
  | _, [] => []
  | s, w :: r => itS s w :: mwF (nxS s w) r
noncomputable def mrF : List Str → List (List Str) → List (List It)
  | _, [] => []
  | s, r :: rows => mwF s r :: mrF (r.foldl nxS s) rows
def tieP (p : Str × Str) : Prop := freeB p.1 = true ∧ freeB p.2 = true
def Qf (s t u v : List Str) : Prop := (∀ p ∈ u.zip v, tieP p ∨ p.1 = p.2) ∧ ∀ p ∈ s.zip t ++ u.zip v, ∀ q ∈ u.zip v, tieP p → tieP q → (p.1 = q.1 ↔ p.2 = q.2)
local macro_rules | `(tactic| walk_at "d0") => `(tactic| first
  | (with_reducible_and_instances apply use_holeH) | (with_reducible_and_instances apply use_holeW)
  | (with_reducible_and_instances apply use_hole)
  | ((with_reducible_and_instances apply use_items); (· assumption))
  | ((with_reducible_and_instances apply use_shape); (· assumption)))
/-! forms -/
theorem sem_is_hole : Sem S_is_hole t_is_hole 1 := by
  rintro _ Q0 E0 ⟨d, rfl, hz, hk, hq⟩
  simp only [initE, finL, hz, if_true, List.map_cons, List.map_nil, List.length_cons, List.length_nil, Nat.zero_add, Nat.reduceAdd, Nat.reduceSub, List.replicate_succ, List.replicate_zero, List.cons_append, List.nil_append, Option.some.injEq, exists_eq_left']
  unfold t_is_hole
  walk_at "dg"
  by_cases hi : tyN d = "int"
  · rw [hi] at hq
    refine w_isiT (by rw [hi]; rfl) (by rw [hi]; rfl) ?_
    walk_at "dg"
    refine w_isiF (by rw [hi]; rfl) (by rw [hi]; rfl) ?_
    walk_at "dg"
    exact hq
  · have hn : (tyN d == "int") = false := by simpa using hi
    rw [hn] at hq
    by_cases hb : tyN d = "bool"
    · refine w_isiT (by rw [hb]; rfl) (by rw [hb]; rfl) ?_
      walk_at "dg"
      refine w_isiT (by rw [hb]; rfl) (by rw [hb]; rfl) ?_
      walk_at "dg"
      exact hq
    · refine w_isiF (by rw [hk]; rfl) (by unfold isiB; simp [hi, hb]) ?_
      walk_at "dg"
      exact hq
theorem max_if (m i : Int) : (if i + 1 > m then i + 1 else m) = max m (i + 1) := by
  split <;> omega
theorem sem_shape_of : Sem S_shape_of t_shape_of 2 := by
  rintro _ Q0 E0 ⟨f, rfl, hf, hq⟩
  have hl := hf.1
  walk_at "in"
  unfold t_shape_of
  walk_at "dg"
  refine lc_enc (fun r : List It => (r.length : Int)) ?_ (by omega) ?_
  · intro r hr acc k k' hn hk
    walk_at "dg"
    exact hk
  walk_at "dg"
  exact hq
/-- a dict of the holes' items -/
def kvH (acc : List It) : List (Int × It) := acc.zipIdx.map fun p => ((p.2 : Int), p.1)
theorem kvH_add (acc : List It) (o : It) : kvH (acc ++ [o]) = kvH acc ++ [((acc.length : Int), o)] := by
  unfold kvH
  rw [List.zipIdx_append, List.map_append]
  simp
theorem kvH_len (acc : List It) : (kvH acc).length = acc.length := by unfold kvH; simp
theorem kvH_go : ∀ (acc : List It) (n i : Nat), aget ((acc.zipIdx n).map fun p => ((p.2 : Int), p.1)) (i : Int) = if n ≤ i then acc[i - n]? else none
  | [], n, i => by simp [aget]
  | x :: acc, n, i => by
    rw [List.zipIdx_cons, List.map_cons]
    have ih := kvH_go acc (n + 1) i
    show (if ((n : Nat) : Int) = i then some x else aget ((acc.zipIdx (n + 1)).map fun p => ((p.2 : Int), p.1)) i) = _
    by_cases e : n = i
    · subst e; simp
    · rw [if_neg (by omega), ih]
      by_cases h : n ≤ i
      · rw [if_pos (by omega), if_pos h, show i - n = (i - (n + 1)) + 1 by omega, List.getElem?_cons_succ]
      · rw [if_neg (by omega), if_neg h]
theorem kvH_get (acc : List It) (i : Nat) : aget (kvH acc) (i : Int) = acc[i]? := by
  have := kvH_go acc 0 i
  rw [if_pos (Nat.zero_le _), Nat.sub_zero] at this
  exact this
theorem sem_led_by : Sem S_led_by t_led_by 6 := by
  rintro _ Q0 E0 ⟨xs, ys, rfl, ⟨h1, h2⟩, h3, hn, hs⟩
  walk_at "in"
  unfold t_led_by
  walk_at "dg"
  refine lw_inv2 (fun z : List It => [.v (en xs), .v (en ys), .v (dE true (kvH z)), .un, .un, .un]) (fun rest z => frmB z.length (rest.map (·.1)) = true ∧ ledF z (rest.map (·.1)) (rest.map (·.2)) = ledF [] xs ys ∧ z.length + rest.length ≤ 5000) [] rfl ⟨by rw [List.map_fst_zip (by omega)]; exact h3, by rw [List.map_fst_zip (by omega), List.map_snd_zip (by omega)], by rw [List.length_zip]; simp; omega⟩ ?_ ?_
  · rintro ⟨t, o⟩ rest z ⟨g1, g2, g3⟩ k hk
    rw [List.length_cons] at g3
    rw [List.map_cons] at g1
    rw [List.map_cons, List.map_cons] at g2
    dsimp only at g1 g2
    cases t with
    | h i =>
      rw [frmB] at g1
      rw [ledF] at g2
      simp only [Bool.and_eq_true, decide_eq_true_eq] at g1
      obtain ⟨⟨c1, c2⟩, g1⟩ := g1
      obtain ⟨i, rfl⟩ := Int.eq_ofNat_of_zero_le c1
      rw [Int.toNat_natCast] at g2
      walk_at "dg"
      refine m_setdE (i0 := by infer_instance) (kv := kvH z) (a := (i : Int)) (b := o) (by rw [kvH_len]; omega) ⟨fun v hv => ?_, fun hv => ?_⟩
      · rw [kvH_get] at hv
        rw [hv] at g2
        dsimp only at g2
        have hl : i < z.length := (List.getElem?_eq_some_iff.mp hv).1
        rw [show max (z.length : Int) ((i : Int) + 1) = (z.length : Nat) by omega] at g1
        walk_at "dg"
        refine w_if (fun c => ?_) fun c => ?_
        · walk_at "dg"
          have c : ¬ v = o := dc_f.mp (by simpa using c)
          rw [if_neg c] at g2
          exact hn g2.symm
        · have c : v = o := dc_t.mp (by simpa using c)
          rw [if_pos c] at g2
          walk_at "dg"
          exact hk z _ ⟨g1, g2, by omega⟩ rfl
      · rw [kvH_get] at hv
        rw [hv] at g2
        dsimp only at g2
        have hl : z.length ≤ i := List.getElem?_eq_none_iff.mp hv
        have e : i = z.length := by omega
        rw [show max (z.length : Int) ((i : Int) + 1) = ((z ++ [o]).length : Nat) by rw [List.length_append, List.length_singleton]; omega] at g1
        walk_at "dg"
        refine w_if_f (by simp [dc_t]) ?_
        walk_at "dg"
        refine hk (z ++ [o]) _ ⟨g1, g2, by rw [List.length_append, List.length_singleton]; omega⟩ ?_
        rw [kvH_add, ← e]
        rfl
    | w x =>
      rw [frmB] at g1
      rw [ledF] at g2
      simp only [Bool.and_eq_true] at g1
      walk_at "dg"
      refine w_if (fun c => ?_) fun c => ?_
      · walk_at "dg"
        have c : ¬ It.w x = o := dc_f.mp (by simpa using c)
        rw [if_neg c] at g2
        exact hn g2.symm
      · have c : It.w x = o := dc_t.mp (by simpa using c)
        rw [if_pos c] at g2
        walk_at "dg"
        exact hk z _ ⟨g1.2, g2, by omega⟩ rfl
  · rintro z ⟨g1, g2, g3⟩
    have e : ledF z [] [] = some z := by unfold ledF; rfl
    rw [List.map_nil, List.map_nil, e] at g2
    walk_at "dg"
    rw [List.length_map, kvH_len]
    walk_at "dg"
    rw [Int.toNat_natCast]
    have hz : z.length ≤ 5000 := by omega
    refine lc_all (w := fun i : Nat => en ((z[i]?).getD (.h 0))) ?_ (by rw [List.length_range]; omega) ?_
    · intro i hi acc k k' hn hk
      have hi := List.mem_range.mp hi
      walk_at "dg"
      refine w_ixD (i0 := by infer_instance) (kv := kvH z) (a := (i : Int)) (b := z[i]) (by rw [kvH_get, List.getElem?_eq_getElem hi]) ?_
      walk_at "dg"
      rw [List.getElem?_eq_getElem hi] at hk
      exact hk
    have e2 : ((List.range z.length).map fun i : Nat => (en ((z[i]?).getD (.h 0)) : D)) = z.map en := by
      refine List.ext_getElem (by simp) fun i h1 h2 => ?_
      simp only [List.length_map, List.length_range] at h1
      simp [List.getElem?_eq_getElem h1]
    rw [e2]
    walk_at "dg"
    exact hs z g2.symm
def hlI : It → Option Int
  | .h i => some i
  | .w _ => none
theorem en_w (us : List Str) : (en (us.map It.w) : D) = en us := by
  show D.n false .lst ((us.map It.w).map en) = D.n false .lst (us.map en)
  rw [List.map_map]
  rfl
/-! forms: filling -/
theorem flat_le {f : Fo} {r : List It} (h : r ∈ f) : r.length ≤ f.flatten.length := by
  obtain ⟨a, b, rfl⟩ := List.append_of_mem h
  simp only [List.flatten_append, List.flatten_cons, List.length_append]
  omega
theorem lc_raw {g : DG} {tt : DT} {te : DE} {ρ : DL.Env} {vs : List Nat} {w : D → D} {K : List D → DL.Env → Prop} {xs : List D}
    (st : ∀ a ∈ xs, ∀ (acc : List D) (k k' : DL.Env → List D → Prop), acc.length < 100000 → k ρ (acc ++ [w a]) → g (.t a) ρ fun ρ1 => tt ρ1 (fun b ρ2 => if b = true then te ρ2 (fun r ρ3 => lcA r ρ3 vs acc k) (fun _ _ => False) else k' (wipeD ρ2 vs) acc) (fun _ _ => False))
    (hl : xs.length ≤ 100000) (h : K (xs.map w) ρ) : dLcL g tt te vs K xs ρ [] := by
  have := lc_all (f := fun a : D => a) (w := w) (xs := xs) st hl h
  rwa [List.map_id'] at this
section
local macro_rules | `(tactic| walk_at "d0") => `(tactic| first | ((with_reducible_and_instances apply w_ixR); (· first | exact lk_cells | exact lk_at | exact lk_rest | exact lk_turn | exact lk_more); (· first | exact rfl | exact fz_ek _); ) | ((with_reducible_and_instances apply m_putR); (· exact rfl); (· exact (by decide : 5 < 100000)); (· first | exact pk_at | exact pk_rest | exact pk_turn | exact pk_more); (· first | exact pc_at | exact pc_rest | exact pc_turn | exact pc_more)))
theorem sem_law_begunx : Sem S_law_begunx t_law_begunx 1 := by
  rintro _ Q0 E0 ⟨ns, rfl, hl, hq⟩
  walk_at "in"
  unfold t_law_begunx
  walk_at "dg"
  exact hq ⟨ns, 0, 0, 0, 23⟩ ⟨hl, Int.le_refl 0, Int.le_refl 0, by show (0 : Int) ≤ 23; decide, by show (23 : Int) < _; decide⟩
theorem sem_law_takex : Sem S_law_takex t_law_takex 5 := by
  rintro _ Q0 E0 ⟨⟨ns, a, r, t, m⟩, b, rfl, ⟨h1, h2, h3, h4, h5⟩, ⟨hb0, hb1⟩, hq⟩
  dsimp only at h1 h2 h3 h4 h5
  walk_at "in"
  unfold t_law_takex St.d
  walk_at "st"
  refine w_cut1 (fun ρ => ∃ a r : Int, 0 ≤ a ∧ ρ = [.w (St.d ⟨ns, a, r, t, m⟩), .v (en b), .v (ek ns), .un, .un]) ?_ ?_
  · intro K0 hK0
    refine whW_run (fun s : Int × Int => [.w (St.d ⟨ns, s.1, s.2, t, m⟩), .v (en b), .v (ek ns), .un, .un]) (fun k s => 0 ≤ s.1 ∧ k = (ns.length - s.1).toNat) (s := (a, r)) ⟨h2, rfl⟩ rfl ?_
    rintro k ⟨a, r⟩ K ⟨ha, hk⟩ hK
    unfold St.d
    dsimp only at ha hk ⊢
    walk_at "dg"
    refine w_if (fun c1 => ?_) fun c1 => ?_
    · walk_at "dg"
      refine w_if (fun c2 => ?_) fun c2 => ?_
      · have c2 := of_decide_eq_true c2
        rw [List.length_map] at c2
        walk_at "dg"
        obtain ⟨x, hx1, hx2⟩ := at_in (ys := ns) (j := a) ha c2
        refine w_ixE rfl hx2 ?_
        walk_at "dg"
        refine w_if (fun c3 => ?_) fun c3 => ?_
        · walk_at "dg"
          refine w_ixE rfl hx2 ?_
          walk_at "dg"
          refine hK (k - 1) (a + 1, x) _ (by omega) ⟨by dsimp only; omega, by dsimp only; omega⟩ ?_
          rfl
        · walk_at "dg"
          refine hK (k - 1) (a + 1, r) _ (by omega) ⟨by dsimp only; omega, by dsimp only; omega⟩ ?_
          rfl
      · walk_at "dg"
        exact hK0 _ ⟨a, r, ha, rfl⟩
    · walk_at "dg"
      exact hK0 _ ⟨a, r, ha, rfl⟩
  rintro _ ⟨a, r, ha, rfl⟩
  unfold St.d
  walk_at "dg"
  refine w_if (fun c1 => ?_) fun c1 => ?_
  · have c1 := of_decide_eq_true c1
    walk_at "dg"
    have e1 := Int.emod_nonneg r (show b ≠ 0 by omega)
    have e2 := Int.emod_lt_of_pos r hb0
    have := hq (r % b).toNat ⟨ns, a, r / b, t, m⟩ ⟨h1, ha, h3, h4, h5⟩ (by omega)
    rw [Int.toNat_of_nonneg e1] at this
    exact ⟨_, rfl, this⟩
  · walk_at "d1"
    walk_at "st"
    refine w_cut1 (fun ρ => ∃ c : Int, ρ = [.w (St.d ⟨ns, a, r, t, m⟩), .v (en b), .v (ek ns), .un, .v (en c)]) ?_ ?_
    · intro K0 hK0
      walk_at "dg"
      refine w_if (fun c2 => ?_) fun c2 => ?_
      · have c2 := of_decide_eq_true c2
        rw [List.length_map] at c2
        walk_at "dg"
        have e1 := Int.emod_nonneg t (show (ns.length : Int) ≠ 0 by omega)
        have e2 := Int.emod_lt_of_pos t (show (0 : Int) < ns.length by omega)
        obtain ⟨x, hx1, hx2⟩ := at_in (ys := ns) (j := t % (ns.length : Int)) e1 e2
        refine w_mod (by rw [List.length_map]; omega) ?_
        rw [List.length_map]
        walk_at "dg"
        refine w_ixE rfl hx2 ?_
        walk_at "dg"
        exact hK0 _ ⟨x, rfl⟩
      · walk_at "dg"
        exact hK0 _ ⟨0, rfl⟩
    rintro _ ⟨c, rfl⟩
    unfold St.d
    walk_at "dg"
    have e1 := Int.emod_nonneg (m * 40014 + c + 7919 * (t + 1)) (show (2147483563 : Int) ≠ 0 by decide)
    have e2 := Int.emod_lt_of_pos (m * 40014 + c + 7919 * (t + 1)) (show (0 : Int) < 2147483563 by decide)
    generalize (m * 40014 + c + 7919 * (t + 1)) % 2147483563 = m' at *
    generalize (m' * m' + 69621 * m') % 2147483629 = y
    have e3 := Int.emod_nonneg y (show b ≠ 0 by omega)
    have e4 := Int.emod_lt_of_pos y hb0
    have := hq (y % b).toNat ⟨ns, a, r, t + 1, m'⟩ ⟨h1, ha, by dsimp only; omega, e1, by dsimp only; omega⟩ (by omega)
    rw [Int.toNat_of_nonneg e3] at this
    exact ⟨_, rfl, this⟩
end
def candX (x : Str) (k : Nat) : Str := (cutS x none (some 15) ++ Str.ofString "_") ++ Str.ofString (toString (k : Int))
theorem num_wordF {n : Nat} (hn : n < 10 ^ 20) : wordB (Str.ofString (toString (n : Int))) = true ∧ freeB (Str.ofString (toString (n : Int))) = false := by
  have eL : (Str.ofString (toString (n : Int))).cps.toList = TL.numL n := TL.tl_num n
  refine dig_word ?_ ?_ fun d hd => ?_
  · rw [← str_len, eL]
    exact List.length_pos_iff.mpr (TL.numL_ne n)
  · rw [← str_len, eL]; exact TL.numL_len (by decide) (by omega)
  · rw [eL] at hd
    have := TL.numL_digits n d hd
    unfold digB
    simp
    omega
theorem sem_law_wordg : Sem S_law_wordg t_law_wordg 6 := by
  rintro _ Q0 E0 ⟨s, rfl, hs, hq⟩
  walk_at "in"
  unfold t_law_wordg
  have hS := some_len
  have hA := @some_at
  unfold someS at hS hA
  generalize Str.ofString "abcdefghijklmnopqrstuvwxyz_ABCDEFGHIJKLMNOPQRSTUVWXYZ0123456789" = S at hS hA ⊢
  have hS' := sign_len
  have hA' := @sign_word
  unfold signS at hS' hA'
  generalize Str.ofString "!\"#$&'()*+,-./:;<=>?\x40[\\]^`{|}~" = S' at hS' hA' ⊢
  walk_at "dg"
  rename_i w s1 hs1 hw
  refine w_if (fun c1 => ?_) fun c1 => ?_
  · walk_at "dg"
    refine w_ixN (ys := keptL) rfl (by show _ < 13; omega) fun x hx hg => ?_
    walk_at "dg"
    exact ⟨_, rfl, hq _ x (by assumption) (kept_word x hx).1⟩
  walk_at "dg"
  refine w_if (fun c2 => ?_) fun c2 => ?_
  · walk_at "dg"
    rename_i k2 s2 hs2 hk2
    obtain ⟨j, hj1, hj2⟩ := at_in (ys := [(9 : Int), 100, 10 ^ Int.toNat 20]) (j := (k2 : Int)) (by omega) (by simp; omega)
    refine w_ixE (ys := [9, 100, 10 ^ Int.toNat 20]) rfl hj2 ?_
    have p20 : (10 : Int) ^ Int.toNat 20 = 100000000000000000000 := by decide
    have hj : 0 < j ∧ j ≤ 100000000000000000000 := by
      simp only [List.mem_cons, List.not_mem_nil, or_false] at hj1
      rw [p20] at hj1
      omega
    clear hj1 hj2
    walk_at "dg"
    rename_i k3 s3 hs3 hk3 z ez
    have p20n : (10 : Nat) ^ 20 = 100000000000000000000 := by decide
    have := (num_wordF (n := k3) (by rw [p20n]; omega)).1
    rw [← ez] at this
    exact ⟨_, rfl, hq _ _ hs3 this⟩
  walk_at "dg"
  refine w_if (fun c3 => ?_) fun c3 => ?_
  · walk_at "dg"
    rename_i k2 s2 hs2 hk2 c y hc ey ly
    exact ⟨_, rfl, hq _ _ hs2 (by rw [ey]; exact (hA' hc).1)⟩
  walk_at "dg"
  rename_i k0 s0 hs0 hk0 c0 y0 hc0 ey0 ly0 k2 s2 hs2 hk2
  obtain ⟨j, hj1, hj2⟩ := at_in (ys := [(0 : Int), 0, 1, 2, 4, 19]) (j := (k2 : Int)) (by omega) (by simp; omega)
  refine w_ixE (ys := [0, 0, 1, 2, 4, 19]) rfl hj2 ?_
  have hj : 0 ≤ j ∧ j ≤ 19 := by simp at hj1; omega
  walk_at "dg"
  refine lw_inv2 (F := fun i : Nat => .p (.int (i : Nat))) (fun z : St × Str => [.w z.1.d, .v (en S), .un, .un, .v (en z.2), .un]) (fun rest z => z.1.ok ∧ Nl z.2 ∧ z.2.length + rest.length ≤ 20) (s2, y0) rfl ⟨hs2, by rw [ey0]; exact nl_sg ((hA hc0).2 (by omega)), by rw [List.length_range]; dsimp only; omega⟩ ?_ ?_
  · rintro i rest ⟨sa, x⟩ ⟨ha, hn, hl⟩ k hk
    rw [List.length_cons] at hl
    dsimp only at ha hn hl ⊢
    walk_at "dg"
    rename_i k4 s4 hs4 hk4 c y hc ey ly z2 ez2 lz2
    refine hk (s4, z2) _ ⟨hs4, ?_, by dsimp only; omega⟩ rfl
    dsimp only
    rw [ez2, ey]
    exact nl_app hn fun d hd => by
      have : d = c := by simpa [sg] using hd
      rw [this]; exact (hA hc).1
  rintro ⟨s', x⟩ ⟨hs', hn, hl⟩
  rw [List.length_nil] at hl
  dsimp only at hs' hn hl ⊢
  walk_at "dg"
  have hw := nl_name hn (by omega)
  unfold nameB at hw
  rw [Bool.and_eq_true] at hw
  exact ⟨_, rfl, hq s' x hs' hw.1⟩
theorem use_wordg {s : St} {Q : D → List D → Prop} {E : Exn → List D → Prop} (hs : s.ok) (h : ∀ (s' : St) (x : Str), s'.ok → wordB x = true → Q (en x) [s'.d]) : S_law_wordg [s.d] Q E := ⟨s, rfl, hs, h⟩
theorem sem_law_poolg : Sem S_law_poolg t_law_poolg 3 := by
  rintro _ Q0 E0 ⟨s, rfl, hs, hq⟩
  walk_at "in"
  unfold t_law_poolg
  walk_at "dg"
  refine use_wordg hs fun s1 x1 hs1 hx1 => ?_
  walk_at "dg"
  rename_i k0 s2 hs2 hk0
  refine lw_inv2 (F := fun i : Nat => .p (.int (i : Nat))) (fun z : St × List Str => [.w z.1.d, .v (eo z.2), .un]) (fun rest z => z.1.ok ∧ 0 < z.2.length ∧ z.2.length + 2 * rest.length ≤ 9 ∧ ∀ x ∈ z.2, wordB x = true) (s2, [x1]) rfl ⟨hs2, Nat.succ_pos _, by rw [List.length_range]; show 1 + _ ≤ _; omega, fun x hx => by rw [List.mem_singleton.mp hx]; exact hx1⟩ ?_ ?_
  · rintro i rest ⟨s, xs⟩ ⟨g1, g2, g3, g4⟩ K hK
    dsimp only at g1 g2 g3 g4 ⊢
    rw [List.length_cons] at g3
    have add : ∀ {xs : List Str} {y : Str}, (∀ x ∈ xs, wordB x = true) → wordB y = true → ∀ x ∈ xs ++ [y], wordB x = true := fun h hy x hx => by
      rcases List.mem_append.mp hx with z | z
      · exact h x z
      · rw [List.mem_singleton.mp z]; exact hy
    walk_at "dn"
    refine w_cut1 (fun ρ => ∃ (s : St) (ys : List Str), s.ok ∧ 0 < ys.length ∧ ys.length ≤ xs.length + 1 ∧ (∀ x ∈ ys, wordB x = true) ∧ ρ = [.w s.d, .v (eo ys), .v (.p (.int (i : Nat)))]) ?_ ?_
    · intro K2 hK2
      walk_at "dg"
      rename_i k2 s2 hs2 hk2
      refine w_if (fun c1 => ?_) fun c1 => ?_
      · obtain ⟨w, hw⟩ : ∃ w, xs.getLast? = some w := ⟨_, List.getLast?_eq_some_getLast (List.length_pos_iff.mp g2)⟩
        have hwm : w ∈ xs := List.mem_of_getLast? hw
        have hww := g4 w hwm
        obtain ⟨c, r, e, hc, hp, hlw⟩ := word_head hww
        have hat : atI w.cps.toList 0 = some c := by rw [e]; exact at_nat (ys := c :: r) (m := 0) rfl (by simp)
        have hat2 : atI xs (-1) = some w := by
          rw [at_neg (m := xs.length - 1) (by omega) (by decide), ← hw, List.getLast?_eq_getElem?]
        walk_at "dg"
        refine w_ixE (ys := xs) (j := -1) rfl hat2 ?_
        walk_at "dg"
        refine w_ixT (by omega) hat ?_
        walk_at "dg"
        refine w_if (fun c2 => ?_) fun c2 => ?_
        · have hN : Nl w := by
            refine name_nl ?_
            unfold nameB
            rw [hww, e]
            show (true && decide (sortN c = 2)) = true
            rw [← letter2 hc, ← alp_c hc, c2]
            rfl
          have h0 := (nl_pl hN).2
          walk_at "dg"
          refine w_ixE (ys := xs) (j := -1) rfl hat2 ?_
          walk_at "dg"
          rename_i z ez lz k3 s3 hs3 hk3
          have hz : Nl z ∧ z.length ≤ 19 := by
            have e1 : z.cps.toList = w.cps.toList.take 19 := by rw [ez]; exact cut_take w (by decide)
            refine ⟨?_, by rw [← str_len, e1, List.length_take]; omega⟩
            obtain ⟨c, r, e, h1, h2⟩ := hN
            exact ⟨c, r.take 18, by rw [e1, e]; rfl, h1, fun d hd => h2 d (List.mem_of_mem_take hd)⟩
          refine w_ixN (ys := [Str.ofString "", Str.ofString "_", Str.ofString "7", Str.ofString "d"]) rfl (by show _ < 4; omega) fun y hy hg => ?_
          have hy1 : y.length ≤ 1 ∧ ∀ d ∈ y.cps.toList, (letB d || digB d) = true := by
            have key : ∀ y ∈ [Str.ofString "", Str.ofString "_", Str.ofString "7", Str.ofString "d"], y.length ≤ 1 ∧ ∀ d ∈ y.cps.toList, (letB d || digB d) = true := by decide +kernel
            exact key y hy
          have hz2 := hz.2
          have hy2 := hy1.1
          walk_at "dg"
          rename_i u eu lu
          have hu : wordB u = true := by
            have := nl_name (x := u) (by rw [eu]; exact nl_app hz.1 hy1.2) (by omega)
            unfold nameB at this
            rw [Bool.and_eq_true] at this
            exact this.1
          refine hK2 _ ⟨s3, xs ++ [u], hs3, by rw [List.length_append]; omega, by rw [List.length_append, List.length_singleton]; omega, add g4 hu, ?_⟩
          rfl
        · walk_at "dg"
          exact hK2 _ ⟨s2, xs, hs2, g2, by omega, g4, rfl⟩
      · walk_at "dg"
        exact hK2 _ ⟨s2, xs, hs2, g2, by omega, g4, rfl⟩
    rintro _ ⟨s3, ys, hs3, h1, h2, h3, rfl⟩
    walk_at "dg"
    refine use_wordg hs3 fun s4 x4 hs4 hx4 => ?_
    walk_at "dg"
    exact hK (s4, ys ++ [x4]) _ ⟨hs4, by rw [List.length_append]; omega, by rw [List.length_append, List.length_singleton]; omega, add h3 hx4⟩ rfl
  · rintro ⟨s, xs⟩ ⟨g1, g2, g3, g4⟩
    dsimp only at g1 g2 g3 g4 ⊢
    walk_at "dg"
    exact ⟨_, rfl, hq s xs g1 g2 (by simp only [List.length_nil] at g3; omega) g4⟩
theorem sem_law_putg : Sem S_law_putg t_law_putg 4 := by
  rintro _ Q0 E0 ⟨f, zs, rfl, hf, hh, hq⟩
  have hl := hf.1
  have hl2 := hf.2.1
  walk_at "in"
  unfold t_law_putg
  walk_at "dg"
  refine lc_all (w := fun r : List It => eo (r.map (putI zs))) ?_ (by omega) ?_
  · intro r hr acc k k' hn hk
    have hrl := flat_le hr
    walk_at "dg"
    refine lc_enc (fun t : It => putI zs t) ?_ (by omega) ?_
    · intro t ht acc2 k2 k3 hn2 hk2
      cases t with
      | h i =>
        obtain ⟨i0, i1⟩ := hh r hr i ht
        obtain ⟨i, rfl⟩ := Int.eq_ofNat_of_zero_le i0
        have hil : i < zs.length := by omega
        walk_at "dg"
        rename_i a ha hga
        have e : putI zs (.h (i : Int)) = a := by
          show (zs[(i : Int).toNat]?).getD _ = _
          rw [Int.toNat_natCast, hga]
          rfl
        rw [e] at hk2
        exact hk2
      | w x =>
        walk_at "dg"
        exact hk2
    walk_at "dg"
    exact hk
  walk_at "dg"
  rw [show (f.map fun r : List It => (eo (r.map (putI zs)) : D)) = (f.map fun r => r.map (putI zs)).map eo by rw [List.map_map]; rfl]
  exact hq
theorem sem_law_copyg : Sem S_law_copyg t_law_copyg 2 := by
  rintro _ Q0 E0 ⟨f, rfl, hf, hq⟩
  have hl := hf.1
  walk_at "in"
  unfold t_law_copyg
  walk_at "dg"
  refine lc_all (w := fun r : List It => (eo r : D)) ?_ (by omega) ?_
  · intro r hr acc k k' hn hk
    walk_at "dg"
    exact hk
  walk_at "dg"
  exact hq
theorem cut_fromF {α : Type} {xs : List α} {l : Nat} (h : l ≤ xs.length) : cutD xs (some (l : Int)) none = xs.drop l := by
  unfold cutD HT.sIx
  have e1 : ¬ ((l : Int) < 0) := by omega
  simp only [e1, if_false]
  have e2 : min (l : Int).toNat xs.length = l := by omega
  rw [e2]
  exact List.take_of_length_le (by rw [List.length_drop]; omega)
theorem frm_wd : ∀ {xs : List It} {m : Int} {x : Str}, frmB m xs = true → It.w x ∈ xs → wordB x = true
  | [], _, _, _, h => by cases h
  | .w y :: r, m, x, hf, h => by
    rw [frmB, Bool.and_eq_true] at hf
    rcases List.mem_cons.mp h with e | h
    · injection e with e
      rw [e]; exact hf.1
    · exact frm_wd hf.2 h
  | .h i :: r, m, x, hf, h => by
    rw [frmB, Bool.and_eq_true] at hf
    exact frm_wd hf.2 (by simpa using h)
theorem fz_dEo {κ β : Type} [DecidableEq κ] [Enc κ] [KeyE κ] [Enc β] (kv : List (κ × β)) : (dE false kv).isFz = true := by
  have : (kv.map fun p => (en p.2 : D)) = (kv.map (·.2)).map en := by rw [List.map_map]; rfl
  unfold dE
  rw [D.isFz, this, fzl_e]
  rfl
local macro_rules | `(tactic| walk_at "fz") => `(tactic| exact fz_dEo _)
theorem its_snoc {xs : List Str} {b : Nat} {t : It} {a1 a2 : Nat} : ∀ {zs : List It} {a : Nat}, ItsN xs b a zs a1 → ItN xs a1 b t a2 → ItsN xs b a (zs ++ [t]) a2
  | [], a, h, h2 => by
    have h : a1 = a := h
    subst h
    exact ⟨a2, h2, rfl⟩
  | z :: zs, a, ⟨c, h1, h2⟩, h3 => ⟨c, h1, its_snoc h2 h3⟩
theorem its_cnt {xs : List Str} {b : Nat} : ∀ {zs : List It} {a a' : Nat}, ItsN xs b a zs a' → a' ≤ a + zs.length
  | [], a, a', e => by
    have e : a' = a := e
    omega
  | t :: r, a, a', ⟨a1, h1, h2⟩ => by
    have h3 : a1 ≤ a + 1 := by
      rcases h1 with ⟨x, hx, _, e⟩ | ⟨i, _, i1, i2, e⟩ <;> omega
    have := its_cnt h2
    rw [List.length_cons]
    omega
theorem Gd.mono {xs : List Str} {d d' : Nat} {t : It} (h : Gd xs d t) (hd : d ≤ d') : Gd xs d' t := h.elim .inl fun ⟨i, e, hi⟩ => .inr ⟨i, e, by omega⟩
theorem it_le {xs : List Str} {b a a1 : Nat} {t : It} (h : ItN xs a b t a1) : a ≤ a1 ∧ Gd xs a1 t := by
  rcases h with ⟨x, hx, e, e2⟩ | ⟨i, e, h1, h2, e2⟩
  · exact ⟨by omega, .inl ⟨x, hx, e⟩⟩
  · exact ⟨by omega, .inr ⟨i, e, by omega⟩⟩
theorem its_good {xs : List Str} {b : Nat} : ∀ {zs : List It} {a a' : Nat}, ItsN xs b a zs a' → a ≤ a' ∧ ∀ t ∈ zs, Gd xs a' t
  | [], a, a', e => ⟨by have e : a' = a := e; omega, fun t h => by cases h⟩
  | z :: zs, a, a', ⟨a1, h1, h2⟩ => by
    obtain ⟨q1, q2⟩ := it_le h1
    obtain ⟨q3, q4⟩ := its_good h2
    refine ⟨by omega, fun t ht => ?_⟩
    rcases List.mem_cons.mp ht with e | ht
    · rw [e]; exact q2.mono q3
    · exact q4 t ht
theorem put_at {zs : List It} {i : Nat} (h : i < zs.length) : putI zs (.h (i : Int)) = zs[i] := by
  show (zs[(i : Int).toNat]?).getD _ = _
  rw [Int.toNat_natCast, List.getElem?_eq_getElem h]
  rfl
theorem cnt_its {xs : List Str} {b : Nat} : ∀ {zs : List It} {a a' : Nat} (rest : List It), ItsN xs b a zs a' → cntF a (zs ++ rest) = cntF a' rest
  | [], a, a', rest, e => by
    have e : a' = a := e
    rw [e]; rfl
  | t :: zs, a, a', rest, ⟨a1, h1, h2⟩ => by
    rw [List.cons_append]
    rcases h1 with ⟨x, _, rfl, e⟩ | ⟨i, rfl, _, _, e⟩
    · rw [cntF, ← e]
      exact cnt_its rest h2
    · rw [cntF, Int.toNat_natCast, ← e]
      exact cnt_its rest h2
theorem frm_its {xs : List Str} {b : Nat} (hw : ∀ x ∈ xs, wordB x = true) : ∀ {zs : List It} {a a' : Nat} (rest : List It), ItsN xs b a zs a' → frmB (a : Int) (zs ++ rest) = frmB (a' : Int) rest
  | [], a, a', rest, e => by
    have e : a' = a := e
    rw [e]; rfl
  | t :: zs, a, a', rest, ⟨a1, h1, h2⟩ => by
    rw [List.cons_append]
    rcases h1 with ⟨x, hx, rfl, e⟩ | ⟨i, rfl, hi, _, e⟩
    · rw [frmB, hw x hx, Bool.true_and, ← e]
      exact frm_its hw rest h2
    · rw [frmB, decide_eq_true (by omega), decide_eq_true (by omega), Bool.true_and, Bool.true_and, show max (a : Int) ((i : Int) + 1) = (a1 : Int) by omega]
      exact frm_its hw rest h2
theorem its_frm {xs : List Str} {b : Nat} {zs : List It} {h : Nat} (hw : ∀ x ∈ xs, wordB x = true) (hz : ItsN xs b 0 zs h) : frmB 0 zs = true ∧ cntF 0 zs = h := by
  have h1 := frm_its hw [] hz
  have h2 := cnt_its [] hz
  rw [List.append_nil] at h1 h2
  exact ⟨h1, h2⟩
theorem flat_max : ∀ (n : Nat) (f : Fo), (∀ r ∈ f, r.length ≤ n) → f.flatten.length ≤ n * f.length
  | n, [], _ => by simp
  | n, r :: f, h => by
    have := h r (List.mem_cons_self ..)
    have := flat_max n f fun r hr => h r (List.mem_cons_of_mem _ hr)
    rw [List.flatten_cons, List.length_append, List.length_cons, Nat.mul_add]
    omega
theorem eo_addI {α : Type} [Enc α] (xs : List α) (x : α) : (D.n true Kd.lst (xs.map en ++ [en x]) : D) = eo (xs ++ [x]) := by
  unfold eo
  rw [List.map_append]
  rfl
theorem eoo_addI {α : Type} [Enc α] (xs : List (List α)) (x : List α) : (D.n true Kd.lst (xs.map eo ++ [eo x]) : D) = eoo (xs ++ [x]) := by
  unfold eoo
  rw [List.map_append]
  rfl
theorem sem_law_words : Sem S_law_words t_law_words 4 := by
  rintro _ Q0 E0 ⟨s, xs, n, rfl, hs, ⟨h1, h2⟩, hn, hq⟩
  walk_at "in"
  unfold t_law_words
  walk_at "dg"
  refine lc_inv2 (F := fun i : Nat => .p (.int (i : Nat))) (fun s : St => [.w s.d, .v (en xs), .v (en (n : Int)), .un]) (fun rest acc s => s.ok ∧ ∃ ws : List Str, acc = ws.map en ∧ ws.length + rest.length = n ∧ ∀ w ∈ ws, w ∈ xs) s rfl ⟨hs, [], rfl, by rw [List.length_range]; show 0 + _ = _; omega, fun _ h => (by cases h)⟩ (by rw [List.length_range]; show _ + 0 ≤ _; omega) ?_ ?_
  · rintro i rest acc s ⟨g1, ws, rfl, g2, g3⟩ hacc K hK
    rw [List.length_cons] at g2
    walk_at "dg"
    rename_i k s2 hs2 hk w hw gw
    refine hK s2 _ (by rw [List.length_append, List.length_singleton]; exact Nat.le_refl _) ⟨hs2, ws ++ [w], by rw [List.map_append]; rfl, by rw [List.length_append, List.length_singleton]; omega, fun y hy => ?_⟩
    rcases List.mem_append.mp hy with z | z
    · exact g3 y z
    · rw [List.mem_singleton.mp z]; exact hw
  · rintro acc s ⟨g1, ws, rfl, g2, g3⟩
    rw [List.length_nil] at g2
    walk_at "dg"
    exact ⟨_, rfl, hq s ws g1 g2 g3⟩
theorem sem_law_form : Sem S_law_form t_law_form 9 := by
  rintro _ Q0 E0 ⟨s, xs, n, rfl, hs, ⟨h1, h2⟩, hn, hq⟩
  walk_at "in"
  unfold t_law_form
  walk_at "dg"
  refine lw_inv2 (F := fun i : Nat => .p (.int (i : Nat))) (fun z : St × Fo × Nat => [.w z.1.d, .v (en xs), .v (en (n : Int)), .v (eoo z.2.1), .v (en (z.2.2 : Int)), .un, .un, .un, .un]) (fun rest z => z.1.ok ∧ z.2.1.length + rest.length = n ∧ (∀ r ∈ z.2.1, r.length ≤ 5) ∧ ItsN xs 1000 0 z.2.1.flatten z.2.2) (s, [], 0) rfl ⟨hs, by simp, fun _ h => (by cases h), rfl⟩ ?_ ?_
  · rintro i rest ⟨s, f, h⟩ ⟨g1, g2, g3, g4⟩ K hK
    dsimp only at g1 g2 g3 g4 ⊢
    rw [List.length_cons] at g2
    have hc := its_cnt g4
    have hm := flat_max 5 f g3
    walk_at "dg"
    rename_i k1 s1 hs1 hk1
    refine lw_inv2 (F := fun i : Nat => .p (.int (i : Nat))) (fun z : St × List It × Nat => [.w z.1.d, .v (en xs), .v (en (n : Int)), .v (eoo f), .v (en (z.2.2 : Int)), .un, .v (eo z.2.1), .un, .un]) (fun rest z => z.1.ok ∧ z.2.1.length + rest.length = k1 ∧ ItsN xs 1000 0 (f.flatten ++ z.2.1) z.2.2) (s1, [], h) rfl ⟨hs1, by simp, by rw [List.append_nil]; exact g4⟩ ?_ ?_
    · rintro j rest2 ⟨s, r, h⟩ ⟨q1, q2, q3⟩ K2 hK2
      dsimp only at q1 q2 q3 ⊢
      rw [List.length_cons] at q2
      have hc2 := its_cnt q3
      rw [List.length_append] at hc2
      walk_at "dg"
      rename_i k2 s2 hs2 hk2 w hw gw k3 s3 hs3 hk3
      refine w_if (fun c => ?_) fun c => ?_
      · walk_at "dg"
        rename_i k4 s4 hs4 hk4
        refine w_max2 (i := (h : Int)) (j := (k4 : Int) + 1) ?_
        rw [show max (h : Int) ((k4 : Int) + 1) = ((max h (k4 + 1) : Nat) : Int) by omega]
        walk_at "dg"
        refine hK2 (s4, r ++ [It.h (k4 : Int)], max h (k4 + 1)) _ ⟨hs4, by dsimp only; rw [List.length_append, List.length_singleton]; omega, by rw [← List.append_assoc]; exact its_snoc q3 (.inr ⟨k4, rfl, by omega, by omega, rfl⟩)⟩ ?_
        dsimp only
        rw [← eo_addI]
        rfl
      · walk_at "dg"
        refine hK2 (s3, r ++ [It.w w], h) _ ⟨hs3, by dsimp only; rw [List.length_append, List.length_singleton]; omega, by rw [← List.append_assoc]; exact its_snoc q3 (.inl ⟨w, hw, rfl, rfl⟩)⟩ ?_
        dsimp only
        rw [← eo_addI]
        rfl
    · rintro ⟨s, r, h⟩ ⟨q1, q2, q3⟩
      dsimp only at q1 q2 q3 ⊢
      rw [List.length_nil] at q2
      walk_at "dg"
      refine hK (s, f ++ [r], h) _ ⟨q1, by dsimp only; rw [List.length_append, List.length_singleton]; omega, fun r' hr' => ?_, by rw [List.flatten_append, List.flatten_cons, List.flatten_nil, List.append_nil]; exact q3⟩ ?_
      · rcases List.mem_append.mp hr' with z | z
        · exact g3 r' z
        · rw [List.mem_singleton.mp z]; omega
      · dsimp only
        rw [← eoo_addI]
        rfl
  · rintro ⟨s, f, h⟩ ⟨g1, g2, g3, g4⟩
    dsimp only at g1 g2 g3 g4 ⊢
    rw [List.length_nil] at g2
    walk_at "dg"
    exact ⟨_, rfl, hq s f h g1 (by omega) g3 g4⟩
section
local macro_rules | `(tactic| walk_at "rf") => `(tactic| first | exact lkL1 (sl_oo rfl rfl (by assumption)) | exact lkS (sl_oo rfl rfl (by assumption)))
local macro_rules | `(tactic| walk_at "ne") => `(tactic| (simp only [kb_nil, kb_un, kb_v, kb_w, kb_b, kb_fs, se0, seS, wi0, wiS, show ((4 : Nat) = 0) = False from by decide, show ((4 : Nat) = 3) = False from by decide, show ((4 : Nat) = 6) = False from by decide, show ((4 : Nat) = 7) = False from by decide, show ((4 : Nat) = 8) = False from by decide, if_false, if_true]; first | done | exact rfl))
set_option maxHeartbeats 4000000 in
theorem sem_law_spoiltg : Sem S_law_spoiltg t_law_spoiltg 8 := by
  rintro _ Q0 E0 ⟨s, rows, xs, rfl, hs, ⟨hl, hr⟩, ⟨hx0, hx1⟩, hq⟩
  walk_at "in"
  unfold t_law_spoiltg
  walk_at "dg"
  rename_i k0 s0 hs0 hk0
  have e0 : D.n true .lst (rows.map fun r : List Str => (eo r : D)) = eoo rows := rfl
  refine lc_all (w := fun r : List Str => eo r) ?_ (by omega) ?_
  · intro r hr' acc k k' hn hk
    have := hr r hr'
    walk_at "dg"
    exact hk
  rw [e0]
  walk_at "dg"
  rename_i l s1 hs1 hl1
  have hl1 : l ≤ rows.length := by omega
  have old : ∀ r ∈ rows, (r.length ≤ 3 ∨ ∃ r0 ∈ rows, r.length ≤ r0.length + 1) ∧ ∀ w ∈ r, w ∈ xs ∨ ∃ r0 ∈ rows, w ∈ r0 := fun r z => ⟨.inr ⟨r, z, by omega⟩, fun w hw => .inr ⟨r, z, hw⟩⟩
  refine w_if (fun c0 => ?_) fun c0 => ?_
  · walk_at "dg"
    rename_i k2 s2 hs2 hk2
    refine ⟨s2, xs, k2, rfl, hs2, ⟨hx0, hx1⟩, by omega, fun s3 ws hs3 hwl hws => ?_⟩
    walk_at "dg"
    refine m_insM (F := eo) (xs' := rows) (a := ws) (by omega) ?_
    refine w_muV rfl ?_
    walk_at "dg"
    refine w_if_t c0 ?_
    walk_at "dg"
    refine ⟨_, rfl, hq s3 _ (rows.take (l : Int).toNat ++ [ws] ++ rows.drop (l : Int).toNat) hs3 (fr_oo _) rfl ?_ fun r z => ?_⟩
    · simp only [List.length_append, List.length_take, List.length_drop, List.length_singleton]; omega
    · rcases List.mem_append.mp z with z | z
      · rcases List.mem_append.mp z with z | z
        · exact old r (List.mem_of_mem_take z)
        · rw [List.mem_singleton.mp z]; exact ⟨.inl (by omega), fun w hw => .inl (hws w hw)⟩
      · exact old r (List.mem_of_mem_drop z)
  walk_at "dg"
  refine w_if_f c0 ?_
  walk_at "dg"
  refine w_if (fun c1 => ?_) fun c1 => ?_
  · walk_at "dg"
    exact ⟨_, rfl, hq s1 _ rows hs1 (fr_oo _) rfl (by omega) old⟩
  walk_at "dg"
  refine w_if (fun c2 => ?_) fun c2 => ?_
  · walk_at "dg"
    refine w_addLE (o := true) (o' := true) (by have := cutD_len rows none (some (l : Int)); have := cutD_len rows (some ((l : Int) + 1)) none; omega) ?_
    walk_at "dg"
    refine ⟨_, rfl, hq s1 _ _ hs1 (fr_eo _) rfl ?_ fun r z => ?_⟩
    · rw [List.length_append, cutD_hi (by omega), cutD_lo (by omega)]
      simp only [List.length_take, List.length_drop]
      omega
    · rcases List.mem_append.mp z with z | z
      · exact old r (cutD_mem z)
      · exact old r (cutD_mem z)
  walk_at "dg"
  have hlt : l < rows.length := by
    have : l ≠ rows.length := fun z => by rw [z] at c1; simp at c1
    omega
  obtain ⟨row, hrow⟩ : ∃ row, rows[l]? = some row := ⟨_, List.getElem?_eq_getElem hlt⟩
  have hmem : row ∈ rows := List.mem_of_getElem? hrow
  have hb1 := hr row hmem
  refine w_bor ⟨⟨_, _, rfl, rfl⟩, ?_⟩
  walk_at "dg"
  refine w_boK (rows := rows) (row := row) (p := (l : Int)) (l := l) rfl rfl rfl hrow rfl (by walk_at "ne") ?_
  walk_at "dg"
  rename_i ki s2 hs2 hki
  have hset : ∀ (s' : St) (r' : List Str), s'.ok → r'.length ≤ row.length + 1 → (∀ w ∈ r', w ∈ xs ∨ w ∈ row) → Q0 (eoo (rows.set l r')) [s'.d, en rows, en xs] := fun s' r' h1 h2 h3 => by
    refine hq s' _ (rows.set l r') h1 (fr_oo _) rfl (by rw [List.length_set]; omega) fun r z => ?_
    rcases List.mem_or_eq_of_mem_set z with z | z
    · exact old r z
    · rw [z]; exact ⟨.inr ⟨row, hmem, by omega⟩, fun w hw => (h3 w hw).imp id fun q => ⟨row, hmem, q⟩⟩
  refine w_if (fun c3 => ?_) fun c3 => ?_
  · walk_at "dg"
    rename_i k4 s4 hs4 hk4 w hw gw
    refine ⟨_, rfl, hset s4 _ hs4 ?_ fun y z => ?_⟩
    · simp only [List.length_append, List.length_take, List.length_drop, List.length_singleton]; omega
    · rcases List.mem_append.mp z with z | z
      · rcases List.mem_append.mp z with z | z
        · exact .inr (List.mem_of_mem_take z)
        · rw [List.mem_singleton.mp z]; exact .inl hw
      · exact .inr (List.mem_of_mem_drop z)
  walk_at "dg"
  refine w_if (fun c4 => ?_) fun c4 => ?_
  · walk_at "dg"
    refine w_if (fun c5 => ?_) fun c5 => ?_
    · have c5 : ki < row.length := by have := of_decide_eq_true c5; omega
      walk_at "dg"
      exact ⟨_, rfl, hset s2 _ hs2 (by have := List.length_eraseIdx_le row ki; omega) fun y z => .inr (List.mem_of_mem_eraseIdx z)⟩
    · walk_at "dg"
      refine w_if_f c5 ?_
      walk_at "dg"
      exact ⟨_, rfl, hq s2 _ rows hs2 (fr_oo _) rfl (by omega) old⟩
  walk_at "dg"
  refine w_if (fun c5 => ?_) fun c5 => ?_
  · have c5 : ki < row.length := by have := of_decide_eq_true c5; omega
    walk_at "dg"
    rename_i k4 s4 hs4 hk4 w hw gw
    refine w_mkB ?_
    walk_at "dg"
    refine m_setE (ixN_nat c5) ?_
    walk_at "dg"
    refine ⟨_, rfl, hset s4 _ hs4 (by rw [List.length_set]; omega) fun y z => ?_⟩
    rcases List.mem_or_eq_of_mem_set z with z | z
    · exact .inr z
    · rw [z]; exact .inl hw
  walk_at "dg"
  refine ⟨_, rfl, hq s2 _ rows hs2 (fr_oo _) rfl (by omega) old⟩
end
--@@
/-- forms filled with words -/
def fillT (zs : List Str) (t : It) : Str := match putI (zs.map .w) t with
  | .w x => x
  | .h _ => Str.empty
def fillR (zs : List Str) (r : List It) : List Str := r.map (fillT zs)
def fillF (zs : List Str) (f : Fo) : List (List Str) := f.map (fillR zs)
theorem fill_at {zs : List Str} {i : Nat} (h : i < zs.length) : fillT zs (.h (i : Int)) = zs[i] := by
  unfold fillT
  rw [put_at (by rw [List.length_map]; exact h), List.getElem_map]
theorem fill_en {xs zs : List Str} {h : Nat} {f : Fo} (hh : h ≤ zs.length) (hg : ∀ r ∈ f, ∀ t ∈ r, Gd xs h t) : (en (f.map fun r => r.map (putI (zs.map .w))) : D) = en (fillF zs f) := by
  show D.n false .lst ((f.map fun r => r.map (putI (zs.map .w))).map en) = D.n false .lst ((fillF zs f).map en)
  unfold fillF
  rw [List.map_map, List.map_map]
  congr 1
  refine List.map_congr_left fun r hr => ?_
  show D.n false .lst ((r.map (putI (zs.map .w))).map en) = D.n false .lst ((r.map (fillT zs)).map en)
  rw [List.map_map, List.map_map]
  congr 1
  refine List.map_congr_left fun t ht => ?_
  rcases hg r hr t ht with ⟨x, _, rfl⟩ | ⟨i, rfl, hi⟩
  · rfl
  · show en (putI (zs.map .w) (.h (i : Int))) = en (fillT zs (.h (i : Int)))
    rw [fill_at (by omega), put_at (by rw [List.length_map]; omega), List.getElem_map]
    rfl
theorem fill_in {xs zs : List Str} {h : Nat} {t : It} (hh : h ≤ zs.length) (hz : ∀ z ∈ zs, z ∈ xs) (hg : Gd xs h t) : fillT zs t ∈ xs := by
  rcases hg with ⟨x, hx, rfl⟩ | ⟨i, rfl, hi⟩
  · exact hx
  · rw [fill_at (by omega)]
    exact hz _ (List.getElem_mem _)
theorem cutD_hi60 {α : Type} (xs : List α) (l : Nat) : cutD xs none (some (l : Int)) = xs.take l := by
  unfold cutD HT.sIx
  have e1 : ¬ ((l : Int) < 0) := by omega
  simp only [e1, if_false, List.drop_zero, Nat.sub_zero]
  rw [show min (l : Int).toNat xs.length = min l xs.length by congr 1]
  rcases Nat.le_total l xs.length with z | z
  · rw [Nat.min_eq_left z]
  · rw [Nat.min_eq_right z, List.take_of_length_le (Nat.le_refl _), List.take_of_length_le z]
theorem sem_law_stretchg : Sem S_law_stretchg t_law_stretchg 9 := by
  rintro _ Q0 E0 ⟨s, xs, f, h, rfl, hs, ⟨hx0, hx1⟩, hxw, hf, hh, hg, hq⟩
  have hfl := flat_max 29 f fun r hr => (hg r hr).1
  have hfb : Fb f := ⟨by omega, by omega, fun x hx => by
    obtain ⟨r, hr, ht⟩ := List.mem_flatten.mp hx
    rcases (hg r hr).2 _ ht with ⟨y, hy, e⟩ | ⟨i, e, _⟩
    · injection e with e
      rw [e]
      obtain ⟨_, _, _, _, _, hl⟩ := word_head (hxw y hy)
      omega
    · cases e⟩
  walk_at "in"
  unfold t_law_stretchg
  walk_at "dg"
  rename_i k1 s1 hs1 hk1 k2 s2 hs2 hk2
  refine w_max2 (i := 1) (j := ((f.length : Nat) : Int)) ?_
  obtain ⟨m, hm1, hm2⟩ : ∃ m : Nat, max (1 : Int) (f.length : Int) = (m : Int) ∧ 1 ≤ m := ⟨max 1 f.length, by omega, by omega⟩
  rw [hm1]
  walk_at "dg"
  rename_i k3 s3 hs3 hk3
  have hdiv : (60 : Int) / (m : Int) ≤ 60 := Int.ediv_le_self _ (by omega)
  have hdiv0 : 0 ≤ (60 : Int) / (m : Int) := Int.ediv_nonneg (by omega) (by omega)
  refine w_ixN (ys := [(k1 : Int), 1 + (k2 : Int), 60 / (m : Int)]) rfl (by simp only [List.length_cons, List.length_nil]; omega) fun v hv gv => ?_
  obtain ⟨n, rfl, hn⟩ : ∃ n : Nat, v = (n : Int) ∧ n ≤ 60 := by
    have : v = k1 ∨ v = 1 + (k2 : Int) ∨ v = 60 / (m : Int) := by simpa using hv
    refine ⟨v.toNat, ?_, ?_⟩
    · rcases this with e | e | e <;> omega
    · rcases this with e | e | e <;> omega
  walk_at "dg"
  refine lw_inv2 (F := fun i : Nat => .p (.int (i : Nat))) (fun z : St × List (List Str) => [.w z.1.d, .v (en xs), .v (en f), .v (en (h : Int)), .v (eo z.2), .un, .un, .un, .un]) (fun rest z => z.1.ok ∧ z.2.length + 5 * rest.length ≤ 300 ∧ ∀ r ∈ z.2, r.length ≤ 30 ∧ ∀ w ∈ r, w ∈ xs) (s3, []) rfl ⟨hs3, by show 0 + 5 * _ ≤ 300; rw [List.length_range]; omega, fun _ h => (by cases h)⟩ ?_ ?_
  · rintro i rest ⟨s, rows⟩ ⟨g1, g2, g3⟩ K hK
    dsimp only at g1 g2 g3 ⊢
    rw [List.length_cons] at g2
    walk_at "dg"
    rename_i k4 s4 hs4 hk4
    refine ⟨s4, xs, h, rfl, hs4, ⟨hx0, hx1⟩, by omega, fun s5 zs hs5 hzl hzs => ?_⟩
    walk_at "dg"
    refine ⟨f, zs.map .w, by rw [en_w], hfb, fun r hr i hi => ?_, ?_⟩
    · rcases (hg r hr).2 _ hi with ⟨y, hy, e⟩ | ⟨j, e, hj⟩
      · cases e
      · injection e with e
        rw [List.length_map]
        omega
    walk_at "dg"
    rw [fill_en (xs := xs) (h := h) (by omega) fun r hr => (hg r hr).2]
    have hpl : (fillF zs f).length ≤ 4 := by unfold fillF; rw [List.length_map]; exact hf
    have hpr : ∀ r ∈ fillF zs f, r.length ≤ 29 ∧ ∀ w ∈ r, w ∈ xs := fun r hr => by
      unfold fillF at hr
      obtain ⟨r0, hr0, rfl⟩ := List.mem_map.mp hr
      refine ⟨by unfold fillR; rw [List.length_map]; exact (hg r0 hr0).1, fun w hw => ?_⟩
      unfold fillR at hw
      obtain ⟨t, ht, rfl⟩ := List.mem_map.mp hw
      exact fill_in (by omega) hzs ((hg r0 hr0).2 t ht)
    generalize fillF zs f = piece at hpl hpr
    have fin : ∀ (s' : St) (piece' : List (List Str)), s'.ok → piece'.length ≤ 5 → (∀ r ∈ piece', r.length ≤ 30 ∧ ∀ w ∈ r, w ∈ xs) → ∀ ρ' : DL.Env, wipeD ρ' [5, 6, 7, 8] = [.w s'.d, .v (en xs), .v (en f), .v (en (h : Int)), .v (eo (rows ++ piece')), .un, .un, .un, .un] → K ρ' := fun s' piece' h1 h2 h3 ρ' e => by
      refine hK (s', rows ++ piece') ρ' ⟨h1, by dsimp only; rw [List.length_append]; omega, fun r hr => ?_⟩ e
      rcases List.mem_append.mp hr with z | z
      · exact g3 r z
      · exact h3 r z
    refine w_if (fun c1 => ?_) fun c1 => ?_
    · walk_at "dg"
      rename_i k6 s6 hs6 hk6
      refine ⟨s6, xs, k6, rfl, hs6, ⟨hx0, hx1⟩, by omega, fun s7 ws hs7 hwl hws => ?_⟩
      walk_at "dg"
      rw [show (D.n true Kd.lst [eo ws]).fz = (en [ws] : D) from fr_oo [ws]]
      refine w_addLE (xs := rows) (ys := [ws]) (by rw [List.length_singleton]; omega) ?_
      walk_at "dg"
      exact fin s7 [ws] hs7 (by simp) (fun r hr => by
        rw [List.mem_singleton.mp hr]
        exact ⟨by omega, hws⟩) _ (by walk_at "ne")
    · walk_at "dg"
      refine w_if (fun c2 => ?_) fun c2 => ?_
      · walk_at "dg"
        refine ⟨s5, piece, xs, rfl, hs5, ⟨by omega, fun r hr => by have := (hpr r hr).1; omega⟩, ⟨hx0, hx1⟩, fun s7 d rows' hs7 hd hd2 hl hr => ?_⟩
        walk_at "dg"
        exact fin s7 rows' hs7 (by omega) (fun r hr' => by
          obtain ⟨q1, q2⟩ := hr r hr'
          refine ⟨?_, fun w hw => ?_⟩
          · rcases q1 with q1 | ⟨r0, q1, q3⟩
            · omega
            · have := (hpr r0 q1).1
              omega
          · rcases q2 w hw with z | ⟨r0, z1, z2⟩
            · exact z
            · exact (hpr r0 z1).2 w z2) _ (by walk_at "ne")
      · walk_at "dg"
        exact fin s5 piece hs5 (by omega) (fun r hr => ⟨by have := (hpr r hr).1; omega, (hpr r hr).2⟩) _ (by walk_at "ne")
  · rintro ⟨s, rows⟩ ⟨g1, g2, g3⟩
    dsimp only at g1 g2 g3 ⊢
    walk_at "dg"
    refine ⟨_, rfl, hq s _ g1 ?_ fun r hr => g3 r (cutD_mem hr)⟩
    rw [show (60 : Int) = ((60 : Nat) : Int) from rfl, cutD_hi60]
    rw [List.length_take]
    omega
theorem shp_zip : ∀ {f g : Fo}, shp f = shp g → f.length = g.length ∧ ∀ p ∈ f.zip g, p.1.length = p.2.length
  | [], [], _ => ⟨rfl, fun p h => by cases h⟩
  | [], _ :: _, h => by simp [shp] at h
  | _ :: _, [], h => by simp [shp] at h
  | r :: f, s :: g, h => by
    unfold shp at h
    simp only [List.map_cons, List.cons.injEq] at h
    obtain ⟨h1, h2⟩ := shp_zip (f := f) (g := g) h.2
    refine ⟨by rw [List.length_cons, List.length_cons, h1], fun p hp => ?_⟩
    rw [List.zip_cons_cons] at hp
    rcases List.mem_cons.mp hp with e | hp
    · rw [e]
      have := h.1
      dsimp only
      omega
    · exact h2 p hp
theorem sem_law_filling : Sem S_law_filling t_law_filling 8 := by
  rintro _ Q0 E0 ⟨f, g, rfl, hf, hg, hfr, hn, hs⟩
  have hf1 := hf.1
  have hf2 := hf.2.1
  have hg1 := hg.1
  have hg2 := hg.2.1
  walk_at "in"
  unfold t_law_filling
  walk_at "dg"
  refine lc_enc (fun r : List It => (r.length : Int)) ?_ (by omega) ?_
  · intro r hr acc k k' hn hk
    walk_at "dg"
    exact hk
  walk_at "dg"
  refine lc_enc (fun r : List It => (r.length : Int)) ?_ (by omega) ?_
  · intro r hr acc k k' hn hk
    walk_at "dg"
    exact hk
  walk_at "dg"
  refine w_if (fun c => ?_) fun c => ?_
  · walk_at "dg"
    refine hn ?_
    unfold ledO
    rw [if_neg]
    intro z
    unfold shp at z
    rw [dc_t.mpr z] at c
    cases c
  have hsh : shp f = shp g := by
    unfold shp
    exact dc_t.mp (by simpa using c)
  obtain ⟨hl, hpl⟩ := shp_zip hsh
  have hO : ledO f g = ledF [] f.flatten g.flatten := by
    unfold ledO
    rw [if_pos hsh]
  rw [hO] at hn hs
  walk_at "dg"
  refine lw_inv2 (F := fun p : List It × List It => en p) (fun z : List It => [.v (en f), .v (en g), .v (dE true (kvH z)), .un, .un, .un, .un, .un]) (fun rest z => frmB z.length (rest.map (·.1)).flatten = true ∧ ledF z (rest.map (·.1)).flatten (rest.map (·.2)).flatten = ledF [] f.flatten g.flatten ∧ z.length + (rest.map (·.1)).flatten.length ≤ 4000 ∧ ∀ p ∈ rest, p.1.length = p.2.length) [] rfl ⟨by rw [List.map_fst_zip (by omega)]; exact hfr, by rw [List.map_fst_zip (by omega), List.map_snd_zip (by omega)], by rw [List.map_fst_zip (by omega)]; simp only [List.length_nil]; omega, hpl⟩ ?_ ?_
  · rintro ⟨r, s⟩ rest z ⟨g1, g2, g3, g4⟩ K hK
    have hrs := g4 (r, s) (List.mem_cons_self ..)
    rw [List.map_cons, List.flatten_cons] at g1 g3
    rw [List.map_cons, List.flatten_cons, List.map_cons, List.flatten_cons] at g2
    dsimp only at g1 g2 g3 hrs
    rw [List.length_append] at g3
    walk_at "dg"
    refine lw_inv2 (F := fun p : It × It => en p) (fun z : List It => [.v (en f), .v (en g), .v (dE true (kvH z)), .un, .un, .un, .un, .un]) (fun rest2 z => frmB z.length (rest2.map (·.1) ++ (rest.map (·.1)).flatten) = true ∧ ledF z (rest2.map (·.1) ++ (rest.map (·.1)).flatten) (rest2.map (·.2) ++ (rest.map (·.2)).flatten) = ledF [] f.flatten g.flatten ∧ z.length + rest2.length + (rest.map (·.1)).flatten.length ≤ 4000) z rfl ⟨by rw [List.map_fst_zip (by omega)]; exact g1, by rw [List.map_fst_zip (by omega), List.map_snd_zip (by omega)]; exact g2, by rw [List.length_zip]; omega⟩ ?_ ?_
    · rintro ⟨t, o⟩ rest2 z ⟨q1, q2, q3⟩ K2 hK2
      rw [List.length_cons] at q3
      rw [List.map_cons, List.cons_append] at q1
      rw [List.map_cons, List.map_cons, List.cons_append, List.cons_append] at q2
      dsimp only at q1 q2
      cases t with
      | h i =>
        rw [frmB] at q1
        rw [ledF] at q2
        simp only [Bool.and_eq_true, decide_eq_true_eq] at q1
        obtain ⟨⟨c1, c2⟩, q1⟩ := q1
        obtain ⟨i, rfl⟩ := Int.eq_ofNat_of_zero_le c1
        rw [Int.toNat_natCast] at q2
        walk_at "dg"
        refine m_setdE (i0 := by infer_instance) (kv := kvH z) (a := (i : Int)) (b := o) (by rw [kvH_len]; omega) ⟨fun v hv => ?_, fun hv => ?_⟩
        · rw [kvH_get] at hv
          rw [hv] at q2
          dsimp only at q2
          have hl : i < z.length := (List.getElem?_eq_some_iff.mp hv).1
          rw [show max (z.length : Int) ((i : Int) + 1) = (z.length : Nat) by omega] at q1
          walk_at "dg"
          refine w_if (fun c => ?_) fun c => ?_
          · walk_at "dg"
            have c : ¬ v = o := dc_f.mp (by simpa using c)
            rw [if_neg c] at q2
            exact hn q2.symm
          · have c : v = o := dc_t.mp (by simpa using c)
            rw [if_pos c] at q2
            walk_at "dg"
            exact hK2 z _ ⟨q1, q2, by omega⟩ rfl
        · rw [kvH_get] at hv
          rw [hv] at q2
          dsimp only at q2
          have hl : z.length ≤ i := List.getElem?_eq_none_iff.mp hv
          have e : i = z.length := by omega
          rw [show max (z.length : Int) ((i : Int) + 1) = ((z ++ [o]).length : Nat) by rw [List.length_append, List.length_singleton]; omega] at q1
          walk_at "dg"
          refine w_if_f (by simp [dc_t]) ?_
          walk_at "dg"
          refine hK2 (z ++ [o]) _ ⟨q1, q2, by rw [List.length_append, List.length_singleton]; omega⟩ ?_
          rw [kvH_add, ← e]
          rfl
      | w x =>
        rw [frmB] at q1
        rw [ledF] at q2
        simp only [Bool.and_eq_true] at q1
        walk_at "dg"
        refine w_if (fun c => ?_) fun c => ?_
        · walk_at "dg"
          have c : ¬ It.w x = o := dc_f.mp (by simpa using c)
          rw [if_neg c] at q2
          exact hn q2.symm
        · have c : It.w x = o := dc_t.mp (by simpa using c)
          rw [if_pos c] at q2
          walk_at "dg"
          exact hK2 z _ ⟨q1.2, q2, by omega⟩ rfl
    · rintro z ⟨q1, q2, q3⟩
      rw [List.map_nil, List.nil_append] at q1
      rw [List.map_nil, List.map_nil, List.nil_append, List.nil_append] at q2
      walk_at "dg"
      exact hK z _ ⟨q1, q2, by rw [List.length_nil] at q3; omega, fun p hp => g4 p (List.mem_cons_of_mem _ hp)⟩ rfl
  · rintro z ⟨g1, g2, g3, _⟩
    have e : ledF z [] [] = some z := by unfold ledF; rfl
    rw [List.map_nil, List.map_nil, List.flatten_nil, e] at g2
    walk_at "dg"
    rw [List.length_map, kvH_len]
    walk_at "dg"
    rw [Int.toNat_natCast]
    have hz : z.length ≤ 5000 := by omega
    refine lc_all (w := fun i : Nat => en ((z[i]?).getD (.h 0))) ?_ (by rw [List.length_range]; omega) ?_
    · intro i hi acc k k' hn hk
      have hi := List.mem_range.mp hi
      walk_at "dg"
      refine w_ixD (i0 := by infer_instance) (kv := kvH z) (a := (i : Int)) (b := z[i]) (by rw [kvH_get, List.getElem?_eq_getElem hi]) ?_
      walk_at "dg"
      rw [List.getElem?_eq_getElem hi] at hk
      exact hk
    have e2 : (List.range z.length).map (fun i : Nat => (en ((z[i]?).getD (.h 0)) : D)) = z.map en := by
      refine List.ext_getElem (by simp) fun i h1 h2 => ?_
      rw [List.length_map, List.length_range] at h1
      rw [List.getElem_map, List.getElem_map, List.getElem_range, List.getElem?_eq_getElem h1]
      rfl
    rw [e2]
    walk_at "dg"
    exact hs z g2.symm
theorem sem_law_opened : Sem S_law_opened t_law_opened 9 := by
  rintro _ Q0 E0 ⟨s, rows, m, rfl, hs, ⟨hl, hr⟩, hm, hq⟩
  walk_at "in"
  unfold t_law_opened
  walk_at "dg"
  refine lw_inv2 (F := fun r : List Str => en r) (fun z : St × Fo × List Str => [.w z.1.d, .v (en rows), .v (en (m : Int)), .v (eoo z.2.1), .v (eo z.2.2), .un, .un, .un, .un]) (fun rest z => z.1.ok ∧ z.2.1.length + rest.length = rows.length ∧ (∀ r ∈ z.2.1, r.length ≤ 30) ∧ ItsN rows.flatten 1000 0 z.2.1.flatten z.2.2.length ∧ z.2.2.length ≤ m ∧ ∀ r ∈ rest, r ∈ rows) (s, [], []) rfl ⟨hs, by simp, fun _ h => (by cases h), rfl, Nat.zero_le _, fun _ h => h⟩ ?_ ?_
  · rintro row rest ⟨s, f, held⟩ ⟨g1, g2, g3, g4, g5, g6⟩ K hK
    dsimp only at g1 g2 g3 g4 g5 ⊢
    rw [List.length_cons] at g2
    have hrow := g6 row (List.mem_cons_self ..)
    have hr30 := hr row hrow
    walk_at "dg"
    refine lw_inv2 (F := fun x : Str => en x) (fun z : St × List It × List Str => [.w z.1.d, .v (en rows), .v (en (m : Int)), .v (eoo f), .v (eo z.2.2), .un, .v (eo z.2.1), .un, .un]) (fun rest2 z => z.1.ok ∧ z.2.1.length + rest2.length = row.length ∧ ItsN rows.flatten 1000 0 (f.flatten ++ z.2.1) z.2.2.length ∧ z.2.2.length ≤ m ∧ ∀ x ∈ rest2, x ∈ row) (s, [], held) rfl ⟨g1, by simp, by rw [List.append_nil]; exact g4, g5, fun _ h => h⟩ ?_ ?_
    · rintro x rest2 ⟨s, r, held⟩ ⟨q1, q2, q3, q4, q5⟩ K2 hK2
      dsimp only at q1 q2 q3 q4 ⊢
      rw [List.length_cons] at q2
      have hx : x ∈ rows.flatten := List.mem_flatten.mpr ⟨row, hrow, q5 x (List.mem_cons_self ..)⟩
      have q5' := fun y hy => q5 y (List.mem_cons_of_mem _ hy)
      walk_at "dg"
      rename_i k s2 hs2 hk
      have asw : ∀ ρ' : DL.Env, wipeD ρ' [5, 7, 8] = [.w s2.d, .v (en rows), .v (en (m : Int)), .v (eoo f), .v (eo held), .un, .v (eo (r ++ [It.w x])), .un, .un] → K2 ρ' := fun ρ' e => hK2 (s2, r ++ [It.w x], held) ρ' ⟨hs2, by dsimp only; rw [List.length_append, List.length_singleton]; omega, by rw [← List.append_assoc]; exact its_snoc q3 (.inl ⟨x, hx, rfl, rfl⟩), q4, q5'⟩ e
      refine w_if (fun c1 => ?_) fun c1 => ?_
      · have c1 := of_decide_eq_true c1
        walk_at "dg"
        refine w_if (fun c2 => ?_) fun c2 => ?_
        · have c2 := of_decide_eq_true c2
          walk_at "dg"
          rw [show ((held ++ [x]).length : Int) - 1 = (held.length : Int) by rw [List.length_append, List.length_singleton]; omega]
          have hc := its_cnt q3
          refine hK2 (s2, r ++ [It.h (held.length : Int)], held ++ [x]) _ ⟨hs2, by dsimp only; rw [List.length_append, List.length_singleton]; omega, ?_, by dsimp only; rw [List.length_append, List.length_singleton]; omega, q5'⟩ ?_
          · dsimp only
            rw [← List.append_assoc, List.length_append, List.length_singleton]
            exact its_snoc q3 (.inr ⟨held.length, rfl, Nat.le_refl _, by omega, by omega⟩)
          · dsimp only
            rw [← eo_addI r]
            rfl
        · walk_at "dg"
          refine w_if_f (decide_eq_false (by omega)) ?_
          walk_at "dg"
          exact asw _ (by rw [← eo_addI]; rfl)
      · walk_at "dg"
        refine w_if (fun c2 => ?_) fun c2 => ?_
        · walk_at "dg"
          refine w_if (fun c3 => ?_) fun c3 => ?_
          · have c3 : x ∈ held := dc_t.mp c3
            walk_at "dg"
            refine w_index (us := held) (by rfl) c3 ?_
            walk_at "dg"
            have hi : held.idxOf x < held.length := List.idxOf_lt_length_iff.mpr c3
            refine hK2 (s2, r ++ [It.h ((held.idxOf x : Nat) : Int)], held) _ ⟨hs2, by dsimp only; rw [List.length_append, List.length_singleton]; omega, ?_, q4, q5'⟩ ?_
            · dsimp only
              rw [← List.append_assoc]
              exact its_snoc q3 (.inr ⟨held.idxOf x, rfl, by omega, by omega, by omega⟩)
            · dsimp only
              rw [← eo_addI]
              rfl
          · walk_at "dg"
            exact asw _ (by rw [← eo_addI]; rfl)
        · walk_at "dg"
          exact asw _ (by rw [← eo_addI]; rfl)
    · rintro ⟨s, r, held⟩ ⟨q1, q2, q3, q4, _⟩
      dsimp only at q1 q2 q3 q4 ⊢
      rw [List.length_nil] at q2
      walk_at "dg"
      refine hK (s, f ++ [r], held) _ ⟨q1, by dsimp only; rw [List.length_append, List.length_singleton]; omega, fun r' hr' => ?_, by rw [List.flatten_append, List.flatten_cons, List.flatten_nil, List.append_nil]; exact q3, q4, fun r hr => g6 r (List.mem_cons_of_mem _ hr)⟩ ?_
      · rcases List.mem_append.mp hr' with z | z
        · exact g3 r' z
        · rw [List.mem_singleton.mp z]; omega
      · dsimp only
        rw [← eoo_addI]
        rfl
  · rintro ⟨s, f, held⟩ ⟨g1, g2, g3, g4, g5, g6⟩
    dsimp only at g1 g2 g3 g4 g5 ⊢
    rw [List.length_nil] at g2
    walk_at "dg"
    exact ⟨_, rfl, hq s f held.length g1 g2 g3 g4 g5⟩
theorem NF.mono {g f : Fo} {sp : List D} {b : Bool} {E E' : Exn → Prop} {Q Q' : Prop} (h : NF g f sp b E Q) (hE : ∀ e, E e → E' e) (hQ : formB f = true → f ≠ [] → b = true → sp.all (spotB ((g.length : Int) - (f.length : Int))) = true → gapB f.length (sp.map numD) = true → Q → Q') : NF g f sp b E' Q' := by
  refine ⟨fun c => hE _ (h.1 c), fun c => ⟨fun c1 => hE _ ((h.2 c).1 c1), fun c1 => ⟨fun c2 => hE _ (((h.2 c).2 c1).1 c2), fun c2 => ⟨fun c3 => hE _ ((((h.2 c).2 c1).2 c2).1 c3), fun c3 => ?_⟩⟩⟩⟩
  have h3 := (((h.2 c).2 c1).2 c2).2 c3
  exact ⟨fun c4 => hE _ (h3.1 c4), fun c4 => ⟨fun c5 => hE _ ((h3.2 c4).1 c5), fun c5 => hQ c c1 c3 c4 c5 ((h3.2 c4).2 c5)⟩⟩
theorem cutD_mid {α : Type} {xs : List α} {k p : Nat} : cutD xs (some (k : Int)) (some (p : Int)) = (xs.drop k).take (p - k) := by
  unfold cutD HT.sIx
  have e1 : ¬ ((k : Int) < 0) := by omega
  have e2 : ¬ ((p : Int) < 0) := by omega
  simp only [e1, e2, if_false]
  rw [show min (k : Int).toNat xs.length = min k xs.length by congr 1, show min (p : Int).toNat xs.length = min p xs.length by congr 1]
  rcases Nat.le_total k xs.length with z | z
  · rw [Nat.min_eq_left z]
    rcases Nat.le_total p xs.length with y | y
    · rw [Nat.min_eq_left y]
    · rw [Nat.min_eq_right y, List.take_of_length_le (by rw [List.length_drop]; omega), List.take_of_length_le (by rw [List.length_drop]; omega)]
  · rw [Nat.min_eq_right z, List.drop_of_length_le (Nat.le_refl _), List.drop_of_length_le z]
    simp
def preX (out : Fo) : Except Exn Fo → Except Exn Fo
  | .error e => .error e
  | .ok r => .ok (out ++ r)
theorem fb_part {g : Fo} {k n : Nat} (h : Fb g) : Fb ((g.drop k).take n) := by
  obtain ⟨h1, h2, h3⟩ := h
  have hs : ((g.drop k).take n).flatten.length ≤ g.flatten.length := by
    have e : g = g.take k ++ ((g.drop k).take n ++ (g.drop k).drop n) := by rw [List.take_append_drop, List.take_append_drop]
    have := congrArg (fun l : Fo => l.flatten.length) e
    simp only [List.flatten_append, List.length_append] at this
    omega
  refine ⟨by rw [List.length_take, List.length_drop]; omega, by omega, fun x hx => h3 x ?_⟩
  obtain ⟨r, hr, ht⟩ := List.mem_flatten.mp hx
  exact List.mem_flatten.mpr ⟨r, List.mem_of_mem_drop (List.mem_of_mem_take hr), ht⟩
theorem led_len {f g : Fo} (h : (ledO f g).isSome = true) : f.length = g.length := by
  unfold ledO at h
  by_cases c : shp f = shp g
  · exact (shp_zip c).1
  · rw [if_neg c] at h; cases h
/-! forms, and what is none -/
theorem lw_raw {σ : Type} {g : DG} {tb : DS} {vs : List Nat} {n : DL.Env → Prop} {rt : D → DL.Env → Prop} {bk ct : DL.Env → Prop} {ex : Exn → DL.Env → Prop} {ρ : DL.Env} {items : List D} (shape : σ → DL.Env) (P : List D → σ → Prop) (s0 : σ) (e : ρ = shape s0) (h0 : P items s0)
    (step : ∀ a rest s, P (a :: rest) s → ∀ k : DL.Env → Prop, (∀ s' ρ', P rest s' → wipeD ρ' vs = shape s' → k ρ') → g (.t a) (shape s) fun ρ1 => tb ⟨k, rt, fun ρ2 => n (wipeD ρ2 vs), k, ex⟩ ρ1)
    (fin : ∀ s, P [] s → n (shape s)) : dLoopW g tb vs ⟨n, rt, bk, ct, ex⟩ items ρ := by
  have := lw_inv2 (F := fun r : D => r) (items := items) shape P s0 e h0 step fin (bk := bk) (ct := ct)
  rwa [List.map_id'] at this
theorem foi_tab {d : D} (h : FoI d) (ht : tabD d = true) : ∃ ch, d = .n false .lst ch ∧ ch.length ≤ 60 ∧ ∀ r ∈ ch, r.isFz = true ∧ ∃ c, r = .n false .lst c ∧ c.length ≤ 30 ∧ ∀ t ∈ c, Kn t := by
  unfold tabD at ht
  simp only [Bool.and_eq_true, List.all_eq_true, decide_eq_true_eq] at ht
  obtain ⟨t1, t2, t3⟩ := ht
  obtain ⟨_, _, ⟨ch, rfl, h1, h2⟩ | h3⟩ := h
  · refine ⟨ch, rfl, t2, fun r hr => ?_⟩
    have t4 := t3 r hr
    unfold rowD at t4
    rw [Bool.and_eq_true, decide_eq_true_eq] at t4
    obtain ⟨q1, _, ⟨c, rfl, q2, q3⟩ | q4⟩ := h2 r hr
    · exact ⟨q1, c, rfl, t4.2, q3⟩
    · rw [t4.1] at q4; cases q4
  · rw [t1] at h3; cases h3
theorem sem_is_tablex : Sem S_is_tablex t_is_tablex 2 := by
  rintro _ Q0 E0 ⟨d, rfl, ⟨hz, hk, hd⟩, hq⟩
  simp only [initE, finL, hz, if_true, List.map_cons, List.map_nil, List.length_cons, List.length_nil, Nat.zero_add, Nat.reduceAdd, Nat.reduceSub, List.replicate_succ, List.replicate_zero, List.cons_append, List.nil_append, Option.some.injEq, exists_eq_left']
  unfold t_is_tablex
  walk_at "dg"
  rcases hd with ⟨ch, rfl, h1, h2⟩ | hl
  · refine w_isiT (by rfl) (by rfl) ?_
    walk_at "dg"
    refine w_if (fun c => ?_) fun c => ?_
    · have c := of_decide_eq_true c
      have ht : tabD (.n false .lst ch) = false := by
        unfold tabD
        rw [decide_eq_false (show ¬ (chL (.n false .lst ch)).length ≤ 60 by show ¬ ch.length ≤ 60; omega)]
        simp
      rw [ht] at hq
      walk_at "dg"
      exact hq
    · have c := of_decide_eq_false c
      walk_at "dg"
      refine w_itK (d := .n false .lst ch) (by simp only [tkF, tk, slD, List.getElem?_cons_zero, List.getElem?_cons_succ, hz, if_true]; rw [fz_of hz]) rfl ?_
      walk_at "dg"
      refine lc_raw (w := fun d : D => en (rowD d)) ?_ (by omega) ?_
      · intro r hr acc k k' hn hk
        obtain ⟨q1, q2, ⟨c1, rfl, q3, q4⟩ | q3⟩ := h2 r hr
        · walk_at "dg"
          have e : rowD (.n false .lst c1) = decide ((c1.length : Int) ≤ 30) := by
            show ("list" == "list" && decide (c1.length ≤ 30)) = _
            rw [show ("list" == "list") = true by decide, Bool.true_and, decide_eq_decide]
            omega
          rw [e] at hk
          exact hk
        · have e : rowD r = false := by unfold rowD; rw [q3]; rfl
          rw [e] at hk
          walk_at "dg"
          refine w_isiF (by rw [q2]; rfl) (by unfold isiB; rw [q3]; simp) ?_
          walk_at "dg"
          exact hk
      rw [show ch.map (fun d : D => (en (rowD d) : D)) = (ch.map rowD).map en by rw [List.map_map]; rfl]
      walk_at "dg"
      have e : tabD (.n false .lst ch) = (ch.map rowD).all id := by
        unfold tabD
        rw [decide_eq_true (show (chL (.n false .lst ch)).length ≤ 60 by show ch.length ≤ 60; omega), List.all_map]
        rfl
      rw [e] at hq
      exact hq
  · have ht : tabD d = false := by unfold tabD; rw [hl]; rfl
    rw [ht] at hq
    refine w_isiF (by rw [hk]; rfl) (by unfold isiB; rw [hl]; simp) ?_
    walk_at "dg"
    exact hq
theorem sem_items_ofx : Sem S_items_ofx t_items_ofx 3 := by
  rintro _ Q0 E0 ⟨d, rfl, hI, ht, hq⟩
  have hz := hI.1
  obtain ⟨ch, rfl, h1, h2⟩ := foi_tab hI ht
  simp only [initE, finL, hz, if_true, List.map_cons, List.map_nil, List.length_cons, List.length_nil, Nat.zero_add, Nat.reduceAdd, Nat.reduceSub, List.replicate_succ, List.replicate_zero, List.cons_append, List.nil_append, Option.some.injEq, exists_eq_left']
  unfold t_items_ofx
  walk_at "dg"
  refine w_itK (d := .n false .lst ch) (by simp only [tkF, tk, slD, List.getElem?_cons_zero, List.getElem?_cons_succ, hz, if_true]; rw [fz_of hz]) rfl ?_
  walk_at "dg"
  refine lw_raw (fun z : List D => [.v (.n false .lst ch), .v (.own z), .un]) (fun rest z => z ++ (rest.map chL).flatten = itemsD (.n false .lst ch) ∧ (z.length + 30 * rest.length ≤ 1800) ∧ ∀ r ∈ rest, r ∈ ch) [] rfl ⟨rfl, by simp; omega, fun r h => h⟩ ?_ ?_
  · rintro r rest z ⟨g1, g2, g3⟩ k hk
    rw [List.length_cons] at g2
    obtain ⟨q1, c, rfl, q2, q3⟩ := h2 r (g3 r (List.mem_cons_self ..))
    walk_at "dg"
    refine ⟨false, c, rfl, rfl, by omega, ?_⟩
    walk_at "dg"
    refine hk (z ++ c) _ ⟨by rw [List.append_assoc]; exact g1, by rw [List.length_append]; omega, fun r hr => g3 r (List.mem_cons_of_mem _ hr)⟩ rfl
  · rintro z ⟨g1, g2, g3⟩
    walk_at "dg"
    rw [List.map_nil, List.flatten_nil, List.append_nil] at g1
    rw [g1]
    exact hq
theorem int_of {d : D} (h : tyN d = "int") : ∃ i, d = .p (.int i) := by
  cases d with
  | p v => cases v <;> first | exact ⟨_, rfl⟩ | (exfalso; revert h; simp [tyN])
  | n o k ch => exfalso; cases k <;> (revert h; simp [tyN])
theorem str_of {d : D} (h : tyN d = "str") : ∃ x, d = .p (.str x) := by
  cases d with
  | p v => cases v <;> first | exact ⟨_, rfl⟩ | (exfalso; revert h; simp [tyN])
  | n o k ch => exfalso; cases k <;> (revert h; simp [tyN])
theorem frm_oth {d : D} {m : Int} {r : List D} (h1 : (tyN d == "int") = false) (h2 : (tyN d == "str") = false) : frmD m (d :: r) = false := by
  cases d with
  | p v => cases v <;> first | rfl | (exfalso; revert h1; simp [tyN]; done) | (exfalso; revert h2; simp [tyN]; done)
  | n o k ch => rfl
theorem kn_items {d : D} (h : FoI d) (ht : tabD d = true) : (itemsD d).length ≤ 1800 ∧ ∀ t ∈ itemsD d, Kn t := by
  obtain ⟨ch, rfl, h1, h2⟩ := foi_tab h ht
  have hl : ∀ ch : List D, (∀ r ∈ ch, r.isFz = true ∧ ∃ c, r = .n false .lst c ∧ c.length ≤ 30 ∧ ∀ t ∈ c, Kn t) → ((ch.map chL).flatten).length ≤ 30 * ch.length ∧ ∀ t ∈ (ch.map chL).flatten, Kn t := by
    intro ch
    induction ch with
    | nil => exact fun _ => ⟨Nat.le_refl _, fun t ht => by cases ht⟩
    | cons r ch ih =>
      intro h
      obtain ⟨i1, i2⟩ := ih fun q hq => h q (List.mem_cons_of_mem _ hq)
      obtain ⟨_, c, rfl, k1, k2⟩ := h r (List.mem_cons_self ..)
      rw [List.map_cons, List.flatten_cons]
      refine ⟨?_, fun t ht => ?_⟩
      · show (c ++ _).length ≤ _
        rw [List.length_append, List.length_cons]
        omega
      · rcases List.mem_append.mp ht with ht | ht
        · exact k2 t ht
        · exact i2 t ht
  obtain ⟨q1, q2⟩ := hl ch h2
  exact ⟨Nat.le_trans q1 (by omega), q2⟩
theorem fzl_all : ∀ {ch : List D}, (∀ c ∈ ch, c.isFz = true) → isFzL ch = true
  | [], _ => rfl
  | c :: ch, h => by rw [isFzL, h c (List.mem_cons_self ..), fzl_all fun q hq => h q (List.mem_cons_of_mem _ hq)]; rfl
theorem sem_is_formx : Sem S_is_formx t_is_formx 3 := by
  rintro _ Q0 E0 ⟨d, rfl, hI, hq⟩
  have hz := hI.1
  simp only [initE, finL, hz, if_true, List.map_cons, List.map_nil, List.length_cons, List.length_nil, Nat.zero_add, Nat.reduceAdd, Nat.reduceSub, List.replicate_succ, List.replicate_zero, List.cons_append, List.nil_append, Option.some.injEq, exists_eq_left']
  unfold t_is_formx
  walk_at "dg"
  refine ⟨d, rfl, hI, ?_⟩
  walk_at "dg"
  unfold fmB at hq
  refine w_if (fun c => ?_) fun c => ?_
  · have c : tabD d = false := by simpa using c
    rw [c] at hq
    walk_at "dg"
    exact hq
  have c : tabD d = true := by simpa using c
  obtain ⟨hil, hik⟩ := kn_items hI c
  rw [c, Bool.true_and] at hq
  walk_at "dg"
  refine ⟨d, rfl, hI, c, ?_⟩
  walk_at "dg"
  rw [fzL_of (fzl_all fun t ht => (hik t ht).1)]
  refine lw_raw (fun m : Int => [.v d, .v (en m), .un]) (fun rest m => frmD m rest = frmD 0 (itemsD d) ∧ ∀ t ∈ rest, Kn t) 0 rfl ⟨rfl, hik⟩ ?_ ?_
  · rintro t rest m ⟨h1, h2⟩ k hk
    obtain ⟨t1, t2, t3, t4⟩ := h2 t (List.mem_cons_self ..)
    walk_at "dg"
    refine ⟨t, rfl, t1, t2, ?_⟩
    walk_at "dg"
    by_cases hi : tyN t = "int"
    · obtain ⟨i, rfl⟩ := int_of hi
      refine w_if_t (by rfl) ?_
      walk_at "dg"
      refine w_if (fun c1 => ?_) fun c1 => ?_
      · walk_at "dg"
        have c1 := of_decide_eq_true c1
        have : frmD m (.p (.int i) :: rest) = false := by unfold frmD; rw [decide_eq_false (by omega)]; rfl
        rw [← h1, this] at hq
        exact hq
      walk_at "dg"
      refine w_if (fun c2 => ?_) fun c2 => ?_
      · walk_at "dg"
        have c2 := of_decide_eq_true c2
        have : frmD m (.p (.int i) :: rest) = false := by unfold frmD; rw [decide_eq_false (show ¬ i ≤ m by omega), Bool.and_false]; rfl
        rw [← h1, this] at hq
        exact hq
      walk_at "dg"
      have c1 := of_decide_eq_false c1
      have c2 := of_decide_eq_false c2
      have e : frmD m (.p (.int i) :: rest) = frmD (max m (i + 1)) rest := by
        rw [frmD, decide_eq_true (by omega), decide_eq_true (by omega)]
        rfl
      refine ⟨m, i + 1, rfl, ?_⟩
      rw [max_if]
      walk_at "dg"
      exact hk _ _ ⟨by rw [← e]; exact h1, fun x hx => h2 x (List.mem_cons_of_mem _ hx)⟩ rfl
    · have hi : (tyN t == "int") = false := by simpa using hi
      refine w_if_f hi ?_
      walk_at "dg"
      by_cases hs : tyN t = "str"
      · obtain ⟨x, rfl⟩ := str_of hs
        refine ⟨_, rfl, .inl ⟨x, rfl, t4 x rfl, ?_⟩⟩
        walk_at "dg"
        rw [frmD] at h1
        refine w_if (fun c1 => ?_) fun c1 => ?_
        · have c1 : wordB x = false := by simpa using c1
          rw [c1] at h1
          rw [← h1] at hq
          walk_at "dg"
          exact hq
        · have c1 : wordB x = true := by simpa using c1
          rw [c1, Bool.true_and] at h1
          walk_at "dg"
          exact hk m _ ⟨h1, fun x hx => h2 x (List.mem_cons_of_mem _ hx)⟩ rfl
      · have hs : (tyN t == "str") = false := by simpa using hs
        refine ⟨_, rfl, .inr ⟨⟨⟨t2, hs⟩, t1, t3⟩, ?_⟩⟩
        walk_at "dg"
        rw [frm_oth hi hs] at h1
        rw [← h1] at hq
        exact hq
  · rintro m ⟨h1, h2⟩
    walk_at "dg"
    rw [← h1] at hq
    exact hq
theorem sem_need_formx : Sem S_need_formx t_need_formx 1 := by
  rintro _ Q0 E0 ⟨d, rfl, hI, hq, he⟩
  have hz := hI.1
  simp only [initE, finL, hz, if_true, List.map_cons, List.map_nil, List.length_cons, List.length_nil, Nat.zero_add, Nat.reduceAdd, Nat.reduceSub, List.replicate_succ, List.replicate_zero, List.cons_append, List.nil_append, Option.some.injEq, exists_eq_left']
  unfold t_need_formx
  walk_at "dg"
  refine ⟨d, rfl, hI, ?_⟩
  walk_at "dg"
  refine w_if (fun c => ?_) fun c => ?_
  · have c : fmB d = false := by simpa using c
    walk_at "dg"
    exact he c
  · have c : fmB d = true := by simpa using c
    walk_at "dg"
    exact hq c
/-! what is no form -/
theorem foi_list {ch : List D} (hl : ch.length ≤ 4000) (h : ∀ r ∈ ch, RoI r) : FoI (.n false .lst ch) := ⟨by
  rw [D.isFz, fzl_all fun r hr => (h r hr).1]
  rfl, rfl, .inl ⟨ch, rfl, hl, h⟩⟩
theorem kn_it {t : It} (h : ∀ x, t = .w x → x.length ≤ 100000) : Kn (en t : D) := by
  refine ⟨Enc.fz t, by cases t <;> rfl, ok_of (by decide), fun x e => ?_⟩
  cases t with
  | w y =>
    have e : D.p (V.str y) = D.p (V.str x) := e
    cases e
    exact h _ rfl
  | h i =>
    have e : D.p (V.int i) = D.p (V.str x) := e
    cases e
theorem roi_list {c : List D} (hl : c.length ≤ 4000) (h : ∀ t ∈ c, Kn t) : RoI (.n false .lst c) := ⟨by
  rw [D.isFz, fzl_all fun r hr => (h r hr).1]
  rfl, rfl, .inl ⟨c, rfl, hl, h⟩⟩
theorem roi_row {r : List It} (hl : r.length ≤ 4000) (h : ∀ x, It.w x ∈ r → x.length ≤ 100000) : RoI (en r : D) := roi_list (by rw [List.length_map]; exact hl) fun t ht => by
  obtain ⟨u, hu, rfl⟩ := List.mem_map.mp ht
  exact kn_it fun x e => h x (e ▸ hu)
theorem foi_fo {f : Fo} (h : Fb f) : FoI (en f : D) := foi_list (by rw [List.length_map]; exact h.1) fun r hr => by
  obtain ⟨q, hq, rfl⟩ := List.mem_map.mp hr
  exact roi_row (by have := flat_le hq; have := h.2.1; omega) fun x hx => h.2.2 x (List.mem_flatten.mpr ⟨q, hq, hx⟩)
theorem frm_fo : ∀ (l : List It) (m : Int), frmD m (l.map en) = frmB m l
  | [], _ => rfl
  | .h i :: r, m => by
    rw [List.map_cons, frmB, ← frm_fo r]
    rfl
  | .w x :: r, m => by
    rw [List.map_cons, frmB, ← frm_fo r]
    rfl
theorem items_fo (f : Fo) : itemsD (en f) = f.flatten.map en := by
  show ((f.map en).map chL).flatten = _
  rw [List.map_map, List.map_flatten]
  rfl
theorem fm_fo (f : Fo) : fmB (en f : D) = formB f := by
  unfold fmB formB
  rw [items_fo, frm_fo]
  congr 1
  show (true && (decide ((f.map en).length ≤ 60) && (f.map (en : List It → D)).all rowD)) = _
  rw [Bool.true_and, List.length_map, List.all_map]
  unfold tabB
  congr 1
  refine congrArg f.all (funext fun r => ?_)
  show (true && decide ((r.map (en : It → D)).length ≤ 30)) = _
  rw [Bool.true_and, List.length_map]
/-- refused wherever it comes -/
theorem frm_bad {h : Nat} {r : List D} (hb : ∀ m : Int, 0 ≤ m → m ≤ h → frmD m r = false) : ∀ (l : List It) (m : Int), 0 ≤ m → m ≤ h → (∀ i, It.h i ∈ l → i + 1 ≤ h) → frmD m (l.map en ++ r) = false
  | [], m, h0, h1, _ => hb m h0 h1
  | .h i :: l, m, h0, h1, h2 => by
    have := h2 i (List.mem_cons_self ..)
    show ((decide (0 ≤ i) && decide (i ≤ m)) && frmD (max m (i + 1)) (l.map en ++ r)) = false
    rw [frm_bad hb l (max m (i + 1)) (by omega) (by omega) fun j hj => h2 j (List.mem_cons_of_mem _ hj), Bool.and_false]
  | .w x :: l, m, h0, h1, h2 => by
    show (wordB x && frmD m (l.map en ++ r)) = false
    rw [frm_bad hb l m h0 h1 fun j hj => h2 j (List.mem_cons_of_mem _ hj), Bool.and_false]
/-- the first two holes exchanged -/
def swI : It → It
  | .h i => if i = 0 ∨ i = 1 then .h (1 - i) else .h i
  | t => t
theorem frm_sw {xs : List Str} {b : Nat} : ∀ (l : List It) (h : Nat), 0 < h → ItsN xs b 0 l h → frmB 0 (l.map swI) = false
  | [], h, h0, e => by
    have e : h = 0 := e
    omega
  | t :: l, h, h0, ⟨a1, h1, h2⟩ => by
    rcases h1 with ⟨x, _, rfl, rfl⟩ | ⟨i, rfl, hi, _, rfl⟩
    · show (wordB x && frmB 0 (l.map swI)) = false
      rw [frm_sw l h h0 h2, Bool.and_false]
    · obtain rfl : i = 0 := by omega
      rfl
theorem w_addLD {o o' : Bool} {xs ys : List D} {k : D → Prop} (hx : isFzL xs = true) (hy : isFzL ys = true) (hl : xs.length + ys.length ≤ 100000) (h : k (.own (xs ++ ys))) : qAdd (.n o .lst xs) (.n o' .lst ys) k := ⟨by rw [hx, hy]; rfl, hl, h⟩
theorem own_fz {ch : List D} (h : isFzL ch = true) : (D.own ch).fz = .n false .lst ch := by
  show D.n false .lst (fzL ch) = _
  rw [fzL_of h]
theorem fzl_app {a b : List D} (ha : isFzL a = true) (hb : isFzL b = true) : isFzL (a ++ b) = true := by
  induction a with
  | nil => exact hb
  | cons x a ih =>
    rw [isFzL, Bool.and_eq_true] at ha
    rw [List.cons_append, isFzL, ha.1, ih ha.2]
    rfl
theorem roi_oth {c : D} (h1 : c.isFz = true) (h2 : tyKnown (tyN c) = true) (h3 : (tyN c == "list") = false) : RoI c := ⟨h1, h2, .inr h3⟩
theorem odd_oth {c : D} (h1 : c.isFz = true) (h2 : tyKnown (tyN c) = true) (h3 : (tyN c == "list") = false) : OddF c := ⟨⟨h1, h2, .inr h3⟩, by unfold fmB tabD; rw [h3]; rfl⟩
theorem odd_tab {ch : List D} (h : ∀ r ∈ ch, RoI r) (hl : ch.length ≤ 4000) (ht : 60 < ch.length ∨ ∃ r ∈ ch, rowD r = false) : OddF (.n false .lst ch) := by
  refine ⟨foi_list hl h, ?_⟩
  unfold fmB
  have : tabD (.n false .lst ch) = false := by
    show (true && (decide (ch.length ≤ 60) && ch.all rowD)) = false
    rcases ht with ht | ⟨r, hr, ht⟩
    · rw [decide_eq_false (by omega)]
      rfl
    · have : ch.all rowD = false := List.all_eq_false.mpr ⟨r, hr, by rw [ht]; simp⟩
      rw [this, Bool.and_false]
      rfl
  rw [this]
  rfl
theorem odd_item {h : Nat} {A B : Fo} {u v : List It} {bad : D} (hl : A.length + B.length ≤ 50) (hr : ∀ r ∈ A ++ [u ++ v] ++ B, r.length ≤ 50 ∧ ∀ x, It.w x ∈ r → x.length ≤ 100000) (hh : ∀ r ∈ A ++ [u], ∀ i, It.h i ∈ r → i + 1 ≤ h) (hb : Kn bad) (hbad : ∀ (m : Int) (r : List D), 0 ≤ m → m ≤ h → frmD m (bad :: r) = false) :
    OddF (.n false .lst (A.map en ++ [.n false .lst (u.map en ++ [bad] ++ v.map en)] ++ B.map en)) := by
  have hrow : ∀ r : List It, r.length ≤ 50 ∧ (∀ x, It.w x ∈ r → x.length ≤ 100000) → RoI (en r : D) := fun r ⟨h1, h2⟩ => roi_row (by omega) h2
  obtain ⟨hu1, hu2⟩ := hr (u ++ v) (by simp)
  rw [List.length_append] at hu1
  refine ⟨foi_list (by simp only [List.length_append, List.length_map, List.length_singleton]; omega) fun r hr' => ?_, ?_⟩
  · rcases List.mem_append.mp hr' with hr' | hr'
    · rcases List.mem_append.mp hr' with hr' | hr'
      · obtain ⟨q, hq, rfl⟩ := List.mem_map.mp hr'
        exact hrow q (hr q (by simp [hq]))
      · rw [List.mem_singleton.mp hr']
        refine roi_list (by simp only [List.length_append, List.length_map, List.length_singleton]; omega) fun t ht => ?_
        rcases List.mem_append.mp ht with ht | ht
        · rcases List.mem_append.mp ht with ht | ht
          · obtain ⟨q, hq, rfl⟩ := List.mem_map.mp ht
            exact kn_it fun x e => hu2 x (by rw [← e]; exact List.mem_append_left _ hq)
          · rw [List.mem_singleton.mp ht]; exact hb
        · obtain ⟨q, hq, rfl⟩ := List.mem_map.mp ht
          exact kn_it fun x e => hu2 x (by rw [← e]; exact List.mem_append_right _ hq)
    · obtain ⟨q, hq, rfl⟩ := List.mem_map.mp hr'
      exact hrow q (hr q (by simp [hq]))
  · unfold fmB
    have e : itemsD (.n false .lst (A.map en ++ [.n false .lst (u.map en ++ [bad] ++ v.map en)] ++ B.map en)) = (A.flatten ++ u).map en ++ (bad :: (v.map en ++ (B.map (fun r => r.map en)).flatten)) := by
      show ((A.map en ++ [D.n false .lst (u.map en ++ [bad] ++ v.map en)] ++ B.map en).map chL).flatten = _
      have eA : ∀ A : Fo, (A.map (en : List It → D)).map chL = A.map fun r => r.map en := fun A => by
        rw [List.map_map]
        rfl
      rw [List.map_append, List.map_append, List.flatten_append, List.flatten_append, eA, eA]
      show (A.map fun r => r.map en).flatten ++ ([u.map en ++ [bad] ++ v.map en] : List (List D)).flatten ++ _ = _
      rw [List.map_append, List.map_flatten]
      simp
    rw [e, frm_bad (h := h) (fun m h0 h1 => hbad m _ h0 h1) _ 0 (by omega) (by omega) fun i hi => by
      rcases List.mem_append.mp hi with hi | hi
      · obtain ⟨r, hr1, hi⟩ := List.mem_flatten.mp hi
        exact hh r (by simp [hr1]) i hi
      · exact hh u (by simp) i hi, Bool.and_false]
theorem w_ifC {tt : DT} {t u : DS} {n : DL.Env → Prop} {rt : D → DL.Env → Prop} {bk ct : DL.Env → Prop} {ex : Exn → DL.Env → Prop} {ρ : DL.Env} (A B : Prop) (h : ∀ k : Bool → DL.Env → Prop, (A → k true ρ) → (B → k false ρ) → tt ρ k ex) (h1 : A → t ⟨n, rt, bk, ct, ex⟩ ρ) (h2 : B → u ⟨n, rt, bk, ct, ex⟩ ρ) : dIfS tt t u ⟨n, rt, bk, ct, ex⟩ ρ :=
  w_ifS (h _ (fun a => by rw [if_pos rfl]; exact h1 a) fun b => by rw [if_neg (by decide)]; exact h2 b)
theorem fzl_m : ∀ l : List D, fzL l = l.map D.fz
  | [] => rfl
  | d :: l => by rw [fzL, fzl_m l]; rfl
theorem w_in2E {α : Type} {inst : Enc α} {o : Bool} {x y z : α} {neg : Bool} {k : D → Prop} (hd : Enc.dep α ≤ 60) (h : k (.bl (if neg = true then !dc (x = y ∨ x = z) else dc (x = y ∨ x = z)))) : qInS neg (en x) (.n o .tup [en y, en z]) k := by
  have h3 : okD (.n o .tup [en y, en z]) = true := by
    have := Enc.de y
    have := Enc.de z
    unfold okD
    simp only [toPy, toPyL, PyData.depth, PyData.depthAll, PyData.plain, PyData.plainAll, Enc.lay, Bool.and_true, Bool.true_and]
    exact decide_eq_true (by omega)
  refine ⟨⟨rfl, ok_of (x := x) (by omega), h3⟩, ?_⟩
  have : inD (en x) [en y, en z] = dc (x = y ∨ x = z) := by
    have h1 : eqD (en y) (en x) = dc (y = x) := eqD_e y x
    have h2 : eqD (en z) (en x) = dc (z = x) := eqD_e z x
    unfold inD
    rw [List.any_cons, List.any_cons, List.any_nil, h1, h2, Bool.or_false]
    by_cases e1 : y = x
    · rw [dc_t.mpr e1, (dc_t (p := x = y ∨ x = z)).mpr (.inl e1.symm)]; rfl
    · by_cases e2 : z = x
      · rw [dc_t.mpr e2, (dc_t (p := x = y ∨ x = z)).mpr (.inr e2.symm), Bool.or_true]
      · rw [dc_f.mpr e1, dc_f.mpr e2, (dc_f (p := x = y ∨ x = z)).mpr fun q => q.elim (fun q => e1 q.symm) fun q => e2 q.symm]; rfl
  rw [this]
  exact h
theorem sw_h {i : Int} : swI (.h i) = if i = 0 ∨ i = 1 then .h (1 - i) else .h i := rfl
theorem word_all {x : Str} (h : wordB x = true) : ∃ c r, x.cps.toList = c :: r ∧ c ≠ 32 ∧ r.all (goesB (sortN c)) = true ∧ pcB c = true ∧ x.length ≤ 20 := by
  obtain ⟨c, r, e, h1, h2, h3⟩ := word_head h
  unfold wordB at h
  rw [Bool.and_eq_true, Bool.and_eq_true] at h
  have hw := dc_t.mp h.2.2
  unfold wordsF at hw
  rw [e, wordsL_cons] at hw
  by_cases hc : c = 32
  · rw [if_pos hc] at hw
    cases hl : wordsL r with
    | nil => rw [hl] at hw; cases hw
    | cons w ws =>
      rw [hl, List.map_cons] at hw
      injection hw with hw1 hw2
      have hm := word_le (x := st r) (w := st w) (by unfold wordsF; rw [st_list, hl]; exact List.mem_cons_self ..)
      rw [st_len, st_len] at hm
      have := congrArg (fun y : Str => y.cps.toList.length) hw1
      rw [e] at this
      have e2 : (st w).cps.toList = w := by simp [st]
      rw [e2, List.length_cons] at this
      omega
  · rw [if_neg hc, List.map_cons] at hw
    injection hw with hw1 hw2
    have e2 : (st (c :: r.takeWhile (goesB (sortN c)))).cps.toList = c :: r.takeWhile (goesB (sortN c)) := by simp [st]
    have := congrArg (fun y : Str => y.cps.toList) hw1
    rw [e2, e] at this
    injection this with _ this
    refine ⟨c, r, e, hc, ?_, h1, h3⟩
    rw [← this]
    exact List.all_takeWhile
theorem no_word {x : Str} {c : Nat} {r : List Nat} (e : x.cps.toList = c :: r) (h : (c != 32 && r.all (goesB (sortN c)) && pcB c && decide (r.length ≤ 19)) = false) : wordB x = false := by
  cases hw : wordB x with
  | false => rfl
  | true =>
    obtain ⟨c', r', e', h1, h2, h3, h4⟩ := word_all hw
    rw [e] at e'
    injection e' with e1 e2
    subst e1 e2
    have hl : r.length ≤ 19 := by
      have := congrArg List.length e
      rw [str_len, List.length_cons] at this
      omega
    rw [h2, h3, decide_eq_true hl, show (c != 32) = true by simpa using h1] at h
    cases h
--@@
theorem sem_law_odd : Sem S_law_odd t_law_odd 10 := by
  rintro _ Q0 E0 ⟨s, xs, f, h, rfl, hs, ⟨hfl, hfr⟩, hw, hh, hI, hq⟩
  have hrl : ∀ r ∈ f, r.length ≤ 30 := hfr
  walk_at "in"
  unfold t_law_odd
  walk_at "dg"
  rename_i k1 s1 hs1 hk1
  refine lc_all (w := fun r : List It => eo r) ?_ (by omega) ?_
  · intro r hr acc k k' hn hk
    have := hrl r hr
    walk_at "dg"
    exact hk
  rw [show (f.map fun r => (eo r : D)) = f.map eo from rfl]
  walk_at "dg"
  rename_i k2 s2 hs2 hk2
  have hz0 : k2 ≤ f.length := by omega
  refine w_if (fun c1 => ?_) fun c1 => ?_
  · walk_at "dg"
    rename_i k3 s3 hs3 hk3
    refine w_ixAny ⟨by omega, by show (k3 : Int) < 7; omega⟩ fun c hc => ?_
    have hO : OddF c := by
      simp only [List.mem_cons, List.not_mem_nil, or_false] at hc
      rcases hc with rfl | rfl | rfl | rfl | rfl | rfl | rfl <;> exact odd_oth (by rfl) (by rfl) (by rfl)
    refine ⟨hO.1.1, ?_⟩
    walk_at "dg"
    refine ⟨_, rfl, hq s3 c hs3 (by rw [fz_of hO.1.1]; exact hO)⟩
  walk_at "dg"
  have hf30 : ∀ r ∈ f, r.length ≤ 50 ∧ ∀ x, It.w x ∈ r → x.length ≤ 100000 := fun r hr => ⟨by have := hrl r hr; omega, fun x hx => by
    obtain ⟨_, _, _, _, _, hl⟩ := word_head (frm_wd (its_frm hw hI).1 (List.mem_flatten.mpr ⟨r, hr, hx⟩))
    omega⟩
  have hroi : ∀ r ∈ f, RoI (en r : D) := fun r hr => roi_row (by have := hrl r hr; omega) (hf30 r hr).2
  have hcl := cutD_len f none (some (k2 : Int))
  have hcl2 := cutD_len f (some (k2 : Int)) none
  have hmk : ∀ (c : D), RoI c → rowD c = false → OddF (D.own ((cutD f none (some (k2 : Int))).map en ++ [c] ++ (cutD f (some (k2 : Int)) none).map en)).fz := fun c hc hr => by
    have hall : ∀ r ∈ (cutD f none (some (k2 : Int))).map en ++ [c] ++ (cutD f (some (k2 : Int)) none).map en, RoI r := fun r hr => by
      rcases List.mem_append.mp hr with hr | hr
      · rcases List.mem_append.mp hr with hr | hr
        · obtain ⟨q, hq, rfl⟩ := List.mem_map.mp hr
          exact hroi q (cutD_mem hq)
        · rw [List.mem_singleton.mp hr]; exact hc
      · obtain ⟨q, hq, rfl⟩ := List.mem_map.mp hr
        exact hroi q (cutD_mem hq)
    rw [own_fz (fzl_all fun r hr => (hall r hr).1)]
    exact odd_tab hall (by simp only [List.length_append, List.length_map, List.length_singleton]; omega) (.inr ⟨c, by simp, hr⟩)
  refine w_if (fun c2 => ?_) fun c2 => ?_
  · walk_at "dg"
    rename_i k3 s3 hs3 hk3
    refine w_ixAny ⟨by omega, by show (k3 : Int) < 5; omega⟩ fun c hc => ?_
    have hO : RoI c ∧ rowD c = false := by
      simp only [List.mem_cons, List.not_mem_nil, or_false] at hc
      rcases hc with rfl | rfl | rfl | rfl | rfl <;> exact ⟨roi_oth (by rfl) (by rfl) (by rfl), by rfl⟩
    obtain ⟨hc1, hc2⟩ := hO
    refine ⟨hc1.1, ?_⟩
    walk_at "dg"
    refine w_addLD (fzl_e _) (by rw [isFzL, hc1.1]; rfl) (by simp only [List.length_map, List.length_singleton]; omega) ?_
    walk_at "dg"
    refine w_addLD (fzl_app (fzl_e _) (by rw [isFzL, hc1.1]; rfl)) (fzl_e _) (by simp only [List.length_append, List.length_map, List.length_singleton]; omega) ?_
    walk_at "dg"
    exact ⟨_, rfl, hq s3 _ hs3 (hmk c hc1 hc2)⟩
  walk_at "dg"
  refine w_if (fun c3 => ?_) fun c3 => ?_
  · have c3 := of_decide_eq_true c3
    obtain rfl : k1 = 2 := by omega
    walk_at "dg"
    rename_i k3 s3 hs3 hk3
    refine w_if (fun c4 => ?_) fun c4 => ?_
    · walk_at "dg"
      refine lc_all (w := fun _ : Nat => (en [Str.ofString "a"] : D)) ?_ (by simp) ?_
      · intro r hr acc k k' hn hk
        walk_at "dg"
        exact hk
      walk_at "dg"
      have ha : RoI (en [Str.ofString "a"] : D) := roi_row (r := [It.w (Str.ofString "a")]) (by decide) fun x hx => by
        rw [List.mem_singleton] at hx
        cases hx
        decide
      have hall : ∀ r ∈ (List.range (61 : Int).toNat).map (fun _ : Nat => (en [Str.ofString "a"] : D)), RoI r := fun r hr => by
        obtain ⟨_, _, rfl⟩ := List.mem_map.mp hr
        exact ha
      refine ⟨_, rfl, hq s3 _ hs3 ?_⟩
      rw [own_fz (fzl_all fun r hr => (hall r hr).1)]
      exact odd_tab hall (by simp) (.inl (by simp))
    · walk_at "dg"
      refine w_if_t (by rfl) ?_
      walk_at "dg"
      show qRepL (D.n false Kd.lst [D.p (V.str (Str.ofString "a"))]) (D.p (V.int 31)) _
      refine w_repL (by rfl) ⟨by omega, by omega⟩ (by decide) ?_
      walk_at "dg"
      have e31 : (D.n true Kd.lst [D.own (List.replicate (Int.toNat 31) [D.p (V.str (Str.ofString "a"))]).flatten]).fz = D.n false Kd.lst [(en (List.replicate 31 (It.w (Str.ofString "a"))) : D)] := by
        rfl
      rw [e31]
      have hc1 : RoI (en (List.replicate 31 (It.w (Str.ofString "a"))) : D) := roi_row (by decide) fun x hx => by
        have := List.eq_of_mem_replicate hx
        cases this
        decide
      refine w_addLD (fzl_e _) (by rw [isFzL, hc1.1]; rfl) (by simp only [List.length_map, List.length_singleton]; omega) ?_
      walk_at "dg"
      refine w_addLD (fzl_app (fzl_e _) (by rw [isFzL, hc1.1]; rfl)) (fzl_e _) (by simp only [List.length_append, List.length_map, List.length_singleton]; omega) ?_
      walk_at "dg"
      exact ⟨_, rfl, hq s3 _ hs3 (hmk _ hc1 (by rfl))⟩
  · walk_at "dg"
    refine w_if (fun c5 => ?_) fun c5 => ?_
    · have c5 := of_decide_eq_true c5
      have c3 := of_decide_eq_false c3
      omega
    walk_at "dn"
    refine w_ifC (k1 = 3 ∧ 1 < h) True (fun k h1 h2 => ?_) (fun ⟨c6, c7⟩ => ?_) (fun _ => ?_)
    · walk_at "dg"
      refine w_if (fun c6 => ?_) fun c6 => ?_
      · have c6 := of_decide_eq_true c6
        walk_at "dg"
        generalize hc : decide (1 < (h : Int)) = c
        cases c with
        | true =>
          have hc := of_decide_eq_true hc
          exact h1 ⟨by omega, by omega⟩
        | false => exact h2 trivial
      · walk_at "dg"
        exact h2 trivial
    · walk_at "dg"
      refine lc_all (w := fun r : List It => (eo (r.map swI) : D)) ?_ (by omega) ?_
      · intro r hr acc kk kk2 hnn hn
        have := hrl r hr
        walk_at "dg"
        refine lc_all (w := fun t : It => (en (swI t) : D)) ?_ (by omega) ?_
        · intro t ht acc2 k3 k3' hn2 hk2
          walk_at "dg"
          refine w_in2E (inst := (inferInstance : Enc It)) (y := It.h 0) (z := It.h 1) (by decide) ?_
          walk_at "dg"
          cases t with
          | w x =>
            refine w_if_f (dc_f.mpr fun z => by rcases z with z | z <;> cases z) ?_
            walk_at "dg"
            exact hk2
          | h i =>
            rw [sw_h] at hk2
            by_cases hi : i = 0 ∨ i = 1
            · rw [if_pos hi] at hk2
              refine w_if_t (dc_t.mpr (hi.imp (fun e => by rw [e]) fun e => by rw [e])) ?_
              walk_at "dg"
              exact hk2
            · rw [if_neg hi] at hk2
              refine w_if_f (dc_f.mpr fun z => hi (z.imp (fun e => by cases e; rfl) fun e => by cases e; rfl)) ?_
              walk_at "dg"
              exact hk2
        · walk_at "dg"
          rw [show r.map (fun t : It => (en (swI t) : D)) = (r.map swI).map en by rw [List.map_map]; rfl]
          exact hn
      · walk_at "dg"
        dsimp only
        refine ⟨_, rfl, hq s2 _ hs2 ?_⟩
        rw [show (f.map fun r : List It => (eo (r.map swI) : D)) = (f.map fun r => r.map swI).map eo by rw [List.map_map]; rfl, fr_oo (f.map fun r => r.map swI)]
        have hfb : Fb (f.map fun r => r.map swI) := by
          have hfm := flat_max 30 f hrl
          refine ⟨by rw [List.length_map]; omega, ?_, fun x hx => ?_⟩
          · rw [show (f.map fun r => r.map swI).flatten = f.flatten.map swI by rw [List.map_flatten], List.length_map]
            omega
          · rw [show (f.map fun r => r.map swI).flatten = f.flatten.map swI by rw [List.map_flatten]] at hx
            obtain ⟨t, ht, e⟩ := List.mem_map.mp hx
            cases t with
            | w y =>
              obtain ⟨r, hr, ht⟩ := List.mem_flatten.mp ht
              cases e
              exact (hf30 r hr).2 _ ht
            | h i =>
              rw [sw_h] at e
              split at e <;> cases e
        refine ⟨foi_fo hfb, ?_⟩
        rw [fm_fo]
        unfold formB
        rw [show (f.map fun r => r.map swI).flatten = f.flatten.map swI by rw [List.map_flatten], frm_sw _ h (by omega) hI, Bool.and_false]
    · walk_at "dg"
      refine w_mulS ⟨by omega, by decide, by omega⟩ ?_
      walk_at "dg"
      refine w_mulS ⟨by omega, by decide, by omega⟩ ?_
      walk_at "dg"
      refine w_addLD (by rfl) (by rfl) (by simp only [List.length_cons, List.length_nil]; omega) ?_
      walk_at "dg"
      rename_i k3 s3 hs3 hk3
      refine w_ixAny ⟨by omega, by show (k3 : Int) < 18; omega⟩ fun c hc => ?_
      have hO : Kn c ∧ ∀ (m : Int) (r : List D), 0 ≤ m → m ≤ h → frmD m (c :: r) = false := by
        simp only [List.cons_append, List.nil_append, List.mem_cons, List.not_mem_nil, or_false] at hc
        have hint : ∀ j : Int, j < 0 ∨ (h : Int) < j → Kn (D.p (.int j)) ∧ ∀ (m : Int) (r : List D), 0 ≤ m → m ≤ h → frmD m (D.p (.int j) :: r) = false := fun j hj => ⟨⟨rfl, rfl, rfl, fun x e => by cases e⟩, fun m r h0 h1 => by
          show ((decide (0 ≤ j) && decide (j ≤ m)) && _) = false
          rcases hj with hj | hj
          · rw [decide_eq_false (by omega)]; rfl
          · rw [decide_eq_false (show ¬ j ≤ m by omega), Bool.and_false]; rfl⟩
        have hstr : ∀ x : Str, wordB x = false → x.length ≤ 100 → Kn (D.p (.str x)) ∧ ∀ (m : Int) (r : List D), 0 ≤ m → m ≤ h → frmD m (D.p (.str x) :: r) = false := fun x hx hxl => ⟨⟨rfl, rfl, rfl, fun y e => by cases e; omega⟩, fun m r h0 h1 => by
          show (wordB x && _) = false
          rw [hx]; rfl⟩
        rcases hc with rfl | rfl | rfl | rfl | rfl | rfl | rfl | rfl | rfl | rfl | rfl | rfl | rfl | rfl | rfl | rfl | rfl | rfl
        · exact ⟨⟨rfl, rfl, rfl, fun x e => by cases e⟩, fun m r _ _ => rfl⟩
        · exact ⟨⟨rfl, rfl, rfl, fun x e => by cases e⟩, fun m r _ _ => rfl⟩
        · exact hint _ (.inl (by omega))
        · exact hint _ (.inr (by omega))
        · exact ⟨⟨rfl, rfl, rfl, fun x e => by cases e⟩, fun m r _ _ => rfl⟩
        · exact hstr _ (by unfold wordB; rw [show wordsF (Str.ofString "") = [] by unfold wordsF; rw [show (Str.ofString "").cps.toList = [] by decide +kernel, wordsL_nil]; rfl, dc_f.mpr (by simp)]; simp) (by decide +kernel)
        · exact hstr _ (no_word (c := 97) (r := [32, 98]) (by decide +kernel) (by decide)) (by decide +kernel)
        · exact hstr _ (no_word (c := 49) (r := [50, 97, 98]) (by decide +kernel) (by decide)) (by decide +kernel)
        · exact hstr _ (no_word (c := 9) (r := []) (by decide +kernel) (by decide)) (by decide +kernel)
        · exact hstr _ (no_word (c := 97) (r := List.replicate 20 97) (by decide +kernel) (by decide)) (by decide +kernel)
        · exact hstr _ (no_word (c := 55) (r := List.replicate 20 55) (by decide +kernel) (by decide)) (by decide +kernel)
        · exact ⟨⟨rfl, rfl, rfl, fun x e => by cases e⟩, fun m r _ _ => rfl⟩
        · exact hstr _ (no_word (c := 43) (r := [43]) (by decide +kernel) (by decide)) (by decide +kernel)
        · exact hstr _ (no_word (c := 97) (r := [32]) (by decide +kernel) (by decide)) (by decide +kernel)
        · exact hint _ (.inr (by show (h : Int) < 10 ^ 20; omega))
        · exact hint _ (.inr (by omega))
        · exact hint _ (.inl (by show -(10 ^ 9 : Int) < 0; omega))
        · exact hstr _ (no_word (c := 32) (r := [97]) (by decide +kernel) (by decide)) (by decide +kernel)
      obtain ⟨hc1, hc2⟩ := hO
      refine ⟨hc1.1, ?_⟩
      walk_at "dn"
      refine w_cut1 (fun ρ => ∃ (g : Fo) (d6 : D), k2 < g.length ∧ g.length ≤ 5 ∧ (∀ r ∈ g, r ∈ f ∨ r = []) ∧ ρ = [.w s3.d, .v (en f), .v (en (h : Int)), .v (en (k1 : Int)), .v (eoo g), .v (en (k2 : Int)), .v d6, .v c, .un, .un]) (fun K hK => ?_) ?_
      · walk_at "dg"
        refine w_if (fun c8 => ?_) fun c8 => ?_
        · have c8 := of_decide_eq_true c8
          walk_at "dg"
          refine hK _ ⟨f ++ [[]], _, by rw [List.length_append, List.length_singleton]; omega, by rw [List.length_append, List.length_singleton]; omega, fun r hr => ?_, by unfold eoo; rw [List.map_append]; rfl⟩
          rcases List.mem_append.mp hr with hr | hr
          · exact .inl hr
          · exact .inr (List.mem_singleton.mp hr)
        · have c8 := of_decide_eq_false c8
          walk_at "dg"
          exact hK _ ⟨f, _, by omega, by omega, fun r hr => .inl hr, rfl⟩
      · rintro _ ⟨g, d6, hg1, hg2, hg3, rfl⟩
        walk_at "dg"
        have hgk : g[k2]? = some g[k2] := List.getElem?_eq_getElem hg1
        have hgl : ∀ r ∈ g, r.length ≤ 30 ∧ ∀ x, It.w x ∈ r → x.length ≤ 100000 := fun r hr => by
          rcases hg3 r hr with hr | rfl
          · exact ⟨hrl r hr, (hf30 r hr).2⟩
          · exact ⟨by simp, fun x hx => by cases hx⟩
        have hgk2 := (hgl _ (List.getElem_mem hg1)).1
        refine w_mutG (rows := g) (row := g[k2]) (a := k2) (ρ1 := [.w s3.d, .v (en f), .v (en (h : Int)), .v (en (k1 : Int)), .v (eoo g), .v (en (k2 : Int)), .v d6, .v c, .un, .un, .b 4 [k2]]) rfl rfl hgk rfl ?_
        walk_at "dg"
        rw [fr_oo]
        refine w_ixN (ys := g) rfl hg1 fun r hr gr => ?_
        obtain rfl : g[k2] = r := Option.some.inj (hgk.symm.trans gr)
        walk_at "dg"
        rename_i k4 s4 hs4 hk4
        refine w_mgD (row := g[k2]) (es := [.p (.int (k4 : Int)), c]) (ch' := (g[k2].take k4).map en ++ [c] ++ (g[k2].drop k4).map en) (res := .p .non) (ρ3 := [.w s4.d, .v (en f), .v (en (h : Int)), .v (en (k1 : Int)), .v (eoo g), .v (en (k2 : Int)), .v d6, .v c, .un, .un, .b 4 [k2]]) (ρ4 := [.w s4.d, .v (en f), .v (en (h : Int)), .v (en (k1 : Int)), .v (.n true .lst ((g.map eo).set k2 (.n true .lst ((g[k2].take k4).map en ++ [c] ++ (g[k2].drop k4).map en)))), .v (en (k2 : Int)), .v d6, .v c, .un, .un]) (s4 := .un) rfl (by simp [tkL, tk, slD, hc1.1]; rfl) rfl hgk (fun K hK => ⟨(k4 : Int), c, rfl, rfl, ⟨by omega, by omega, by rw [List.length_map]; omega⟩, by rw [Int.toNat_natCast, ← List.map_take, ← List.map_drop]; exact hK⟩) (by simp [killB]) rfl ?_
        walk_at "dg"
        refine ⟨_, rfl, hq s4 _ hs4 ?_⟩
        have hc' : isFzL ((g[k2].take k4).map en ++ [c] ++ (g[k2].drop k4).map en) = true := fzl_app (fzl_app (fzl_e _) (by rw [isFzL, hc1.1]; rfl)) (fzl_e _)
        have e : (D.n true Kd.lst ((g.map eo).set k2 (D.n true Kd.lst ((g[k2].take k4).map en ++ [c] ++ (g[k2].drop k4).map en)))).fz = D.n false .lst ((g.take k2).map en ++ [D.n false .lst ((g[k2].take k4).map en ++ [c] ++ (g[k2].drop k4).map en)] ++ (g.drop (k2 + 1)).map en) := by
          show D.n false .lst (fzL _) = _
          rw [fzl_m, List.set_eq_take_append_cons_drop, if_pos (by rw [List.length_map]; exact hg1), List.map_append, List.map_cons, ← List.map_take, ← List.map_drop, List.map_map, List.map_map]
          have e1 : ∀ l : Fo, l.map (D.fz ∘ eo) = l.map (en : List It → D) := fun l => List.map_congr_left fun r _ => fr_eo r
          rw [e1, e1]
          have e2 : (D.n true Kd.lst ((g[k2].take k4).map en ++ [c] ++ (g[k2].drop k4).map en)).fz = D.n false .lst ((g[k2].take k4).map en ++ [c] ++ (g[k2].drop k4).map en) := own_fz hc'
          rw [e2]
          simp only [List.append_assoc, List.singleton_append]
        rw [e]
        have hho : ∀ r ∈ g, ∀ i, It.h i ∈ r → i + 1 ≤ h := fun r hr i hi => by
          rcases hg3 r hr with hr | rfl
          · rcases (its_good hI).2 _ (List.mem_flatten.mpr ⟨r, hr, hi⟩) with ⟨_, _, e⟩ | ⟨j, e, hj⟩
            · cases e
            · cases e
              omega
          · cases hi
        refine odd_item (h := h) (by rw [List.length_take, List.length_drop]; omega) (fun r hr => ?_) (fun r hr i hi => ?_) hc1 hc2
        · rcases List.mem_append.mp hr with hr | hr
          · rcases List.mem_append.mp hr with hr | hr
            · have := hgl r (List.mem_of_mem_take hr)
              exact ⟨by omega, this.2⟩
            · rw [List.mem_singleton.mp hr, List.take_append_drop]
              have := hgl _ (List.getElem_mem hg1)
              exact ⟨by omega, this.2⟩
          · have := hgl r (List.mem_of_mem_drop hr)
            exact ⟨by omega, this.2⟩
        · rcases List.mem_append.mp hr with hr | hr
          · exact hho r (List.mem_of_mem_take hr) i hi
          · rw [List.mem_singleton.mp hr] at hi
            exact hho _ (List.getElem_mem hg1) i (List.mem_of_mem_take hi)
open Enc (en)
theorem cut_part {α : Type} {g : List α} {p n : Nat} : cutD g (some (p : Int)) (some ((p : Int) + (n : Int))) = (g.drop p).take n := by
  rw [show (p : Int) + (n : Int) = ((p + n : Nat) : Int) by omega, cutD_mid, show p + n - p = n by omega]
theorem items_eo (f : Fo) : (D.own (itemsD (en f)) : D) = eo f.flatten := by rw [items_fo]
theorem tab_fo {f : Fo} (h : tabB f = true) : tabD (en f) = true := by
  show (true && (decide ((f.map en).length ≤ 60) && (f.map (en : List It → D)).all rowD)) = _
  unfold tabB at h
  rw [Bool.true_and, List.length_map, List.all_map, ← h]
  congr 1
  refine congrArg f.all (funext fun r => ?_)
  show (true && decide ((r.map (en : It → D)).length ≤ 30)) = _
  rw [Bool.true_and, List.length_map]
theorem sem_is_fit : Sem S_is_fit t_is_fit 2 := by
  rintro _ Q0 E0 ⟨g, f, rfl, hg, hf, htg, htf, hfr, hq⟩
  have hf2 := hf.2.1
  walk_at "in"
  unfold t_is_fit
  walk_at "dg"
  unfold ledO at hq
  refine w_if (fun c1 => ?_) fun c1 => ?_
  · have c1 : shp f = shp g := (dc_t.mp c1).symm
    rw [if_pos c1] at hq
    walk_at "dg"
    refine ⟨en f, rfl, foi_fo hf, tab_fo htf, ?_⟩
    rw [items_eo]
    walk_at "dg"
    refine ⟨en g, rfl, foi_fo hg, tab_fo htg, ?_⟩
    rw [items_eo]
    walk_at "dg"
    refine ⟨f.flatten, g.flatten, rfl, ⟨shp_len c1, by omega⟩, hfr, fun z => ?_, fun zs z => ?_⟩
    · rw [z] at hq
      walk_at "dg"
      exact hq
    · rw [z] at hq
      walk_at "dg"
      exact hq
  · have c1 : ¬ shp f = shp g := fun z => (dc_f.mp c1) z.symm
    rw [if_neg c1] at hq
    walk_at "dg"
    exact hq
theorem sem_fitting : Sem S_fitting t_fitting 4 := by
  rintro _ Q0 E0 ⟨g, d, rfl, ⟨hgl, hgr⟩, hg, hI, he, hq⟩
  have hz := hI.1
  simp only [initE, finL, hz, fz_e, if_true, List.map_cons, List.map_nil, List.length_cons, List.length_nil, Nat.zero_add, Nat.reduceAdd, Nat.reduceSub, List.replicate_succ, List.replicate_zero, List.cons_append, List.nil_append, Option.some.injEq, exists_eq_left']
  unfold t_fitting
  walk_at "dg"
  refine ⟨d, rfl, hI, fun c => ?_, fun c => (by walk_at "dg"; exact he c)⟩
  obtain ⟨f, rfl, hf, hn, hs⟩ := hq c
  rw [fm_fo] at c
  have c2 := c
  unfold formB at c2
  simp only [Bool.and_eq_true] at c2
  obtain ⟨htf, hfr⟩ := c2
  walk_at "dg"
  refine w_if (fun c1 => ?_) fun c1 => ?_
  · have c1 := of_decide_eq_true c1
    walk_at "dg"
    exact hn (List.eq_nil_of_length_eq_zero (by omega))
  · have c1 := of_decide_eq_false c1
    have hfl : f.length ≤ 60 := by
      unfold tabB at htf
      rw [Bool.and_eq_true] at htf
      exact of_decide_eq_true htf.1
    walk_at "dg"
    refine lc_fil (fun p : Nat => (ledO f ((g.drop p).take f.length)).isSome) (fun p : Nat => (p : Int)) ?_ (by rw [List.length_range]; omega) ?_
    · intro p hp acc k k' hn hk1 hk2
      have hp := List.mem_range.mp hp
      walk_at "dg"
      rw [cut_part]
      have hcl : ((g.drop p).take f.length).length ≤ 60 := by rw [List.length_take, List.length_drop]; omega
      have htg : tabB ((g.drop p).take f.length) = true := by
        unfold tabB
        rw [decide_eq_true hcl, Bool.true_and, List.all_eq_true]
        exact fun r hr => decide_eq_true (hgr r (List.mem_of_mem_drop (List.mem_of_mem_take hr)))
      refine ⟨_, f, rfl, fb_part hg, hf, htg, htf, hfr, ?_⟩
      walk_at "dg"
      refine w_if (fun c3 => ?_) fun c3 => ?_
      · walk_at "dg"
        exact hk1 c3
      · walk_at "dg"
        exact hk2 c3
    · walk_at "dg"
      exact hs fun z => c1 (by rw [z]; rfl)
theorem w_tyG {n : DL.Env → Prop} {ex : Exn → DL.Env → Prop} {ρ ρ1 : DL.Env} {ρ2 : Addr → DL.Env} {i : Nat} {ts : Addr → String → DS} {ns : List (String × Bool)} {x : Exn} (h : ns.lookup x.name = some true) (hf : x.f = none) (h1 : (killB i ρ).set i .un = ρ1) (h0 : okV ρ1 i = true)
    (h2 : ∀ a : Addr, (killB i ρ1).set i (.v (.p (.ref a))) = ρ2 a) (k : ∀ a : Addr, ts a x.name ⟨fun ρ3 => enH i n ρ3, fun _ _ => False, fun _ => False, fun _ => False, fun _ _ => False⟩ (ρ2 a)) : tyH ns i ts n ex x ρ := w_tyH h hf h1 h0 fun a => by rw [h2 a]; exact k a
theorem sem_law_asked : Sem S_law_asked t_law_asked 5 := by
  rintro _ Q0 E0 ⟨g, d, rfl, ⟨hgl, hgr⟩, hg, hI, he, hq⟩
  have hz := hI.1
  simp only [initE, finL, hz, fz_e, if_true, List.map_cons, List.map_nil, List.length_cons, List.length_nil, Nat.zero_add, Nat.reduceAdd, Nat.reduceSub, List.replicate_succ, List.replicate_zero, List.cons_append, List.nil_append, Option.some.injEq, exists_eq_left']
  unfold t_law_asked
  walk_at "dg"
  refine w_tryH ?_
  walk_at "dg"
  refine ⟨g, d, rfl, ⟨hgl, hgr⟩, hg, hI, fun c => ?_, fun c => ?_⟩
  · have h0 := he c
    walk_at "dg"
    refine w_tyG rfl rfl (by walk_at "ne") rfl (ρ2 := fun a => [.v (en g), .v d, .un, .v (.p (.ref a)), .un]) (fun a => rfl) fun a => ?_
    walk_at "dg"
    repeat (refine w_isH rfl rfl ?_; walk_at "dg")
    refine w_enH (by walk_at "ne") rfl ?_
    walk_at "dg"
    exact h0
  · obtain ⟨f, rfl, hf, hn, hs⟩ := hq c
    refine ⟨f, rfl, hf, fun z => ?_, fun z => ?_⟩
    · have h0 := hn z
      walk_at "dg"
      refine w_tyG rfl rfl (by walk_at "ne") rfl (ρ2 := fun a => [.v (en g), .v (en f), .un, .v (.p (.ref a)), .un]) (fun a => rfl) fun a => ?_
      walk_at "dg"
      repeat (refine w_isH rfl rfl ?_; walk_at "dg")
      refine w_enH (by walk_at "ne") rfl ?_
      walk_at "dg"
      exact h0
    · have h0 := hs z
      walk_at "dg"
      exact h0
theorem its_rng {xs : List Str} : ∀ (n a : Nat), a + n ≤ 1000 → ItsN xs 1000 a ((List.range' a n).map fun i : Nat => It.h (i : Int)) (a + n)
  | 0, a, _ => rfl
  | n + 1, a, h => by
    rw [List.range'_succ, List.map_cons]
    refine ⟨a + 1, .inr ⟨a, rfl, Nat.le_refl _, by omega, by omega⟩, ?_⟩
    have := its_rng n (a + 1) (by omega) (xs := xs)
    rw [show a + (n + 1) = a + 1 + n by omega]
    exact this
/-- a form that may be folded -/
def Gf (f : Fo) : Prop := (0 < f.length ∧ f.length ≤ 60) ∧ formB f = true ∧ cntF 0 f.flatten ≤ 28 ∧ Fb f ∧ frmB 0 f.flatten = true
theorem gb_of {xs : List Str} {f : Fo} {h : Nat} (hw : ∀ x ∈ xs, wordB x = true) (h0 : f.length ≤ 60) (hr : ∀ r ∈ f, r.length ≤ 30) (hI : ItsN xs 1000 0 f.flatten h) : Fb f ∧ formB f = true := by
  obtain ⟨h1, h2⟩ := its_frm hw hI
  have hl := flat_max 30 f hr
  refine ⟨⟨by omega, by omega, fun x hx => ?_⟩, ?_⟩
  · obtain ⟨_, _, _, _, _, hl⟩ := word_head (frm_wd h1 hx)
    omega
  · unfold formB tabB
    rw [h1, Bool.and_true, Bool.and_eq_true, List.all_eq_true]
    exact ⟨decide_eq_true (by omega), fun r hr' => decide_eq_true (hr r hr')⟩
theorem rng_eo (n : Nat) : (eo ((List.range n).map fun k : Nat => (k : Int)) : D) = eo ((List.range' 0 n).map fun i : Nat => It.h (i : Int)) := by
  rw [List.range'_eq_map_range]
  unfold eo
  simp only [List.map_map]
  congr 1
  exact List.map_congr_left fun k _ => by
    show (en (k : Int) : D) = en (It.h ((0 + k : Nat) : Int))
    rw [Nat.zero_add]
    rfl
theorem gs_of {rows : List (List Str)} {us : List Str} (huw : ∀ x ∈ us, wordB x = true) (hl60 : rows.length ≤ 60) (hrw : ∀ r ∈ rows, r.length ≤ 30 ∧ ∀ w ∈ r, w ∈ us) : ∃ g : Fo, g = rows.map (fun r => r.map It.w) ∧ (en rows : D) = en g ∧ (g.length ≤ 60 ∧ ∀ r ∈ g, r.length ≤ 30) ∧ Fb g := by
  refine ⟨_, rfl, ?_, ⟨by rw [List.length_map]; exact hl60, ?_⟩, ?_⟩
  · exact congrArg (fun l : List D => D.n false Kd.lst l) (by
      show rows.map en = (rows.map fun r => r.map It.w).map en
      rw [List.map_map]
      exact List.map_congr_left fun r _ => (en_w r).symm)
  · intro r hr
    obtain ⟨q, hq', rfl⟩ := List.mem_map.mp hr
    rw [List.length_map]
    exact (hrw q hq').1
  · have hm : ∀ r ∈ rows.map (fun r => r.map It.w), r.length ≤ 30 := fun r hr => by
      obtain ⟨q, hq', rfl⟩ := List.mem_map.mp hr
      rw [List.length_map]
      exact (hrw q hq').1
    have := flat_max 30 _ hm
    rw [List.length_map] at this
    refine ⟨by rw [List.length_map]; omega, by omega, fun y hy => ?_⟩
    obtain ⟨r, hr, hy⟩ := List.mem_flatten.mp hy
    obtain ⟨q, hq', rfl⟩ := List.mem_map.mp hr
    obtain ⟨z, hz, hzy⟩ := List.mem_map.mp hy
    obtain ⟨_, _, _, _, _, hl⟩ := word_head (huw z ((hrw q hq').2 z hz))
    cases hzy
    omega
theorem w_refq {a b : Bool} {k : D → Prop} (h : k (.p (.bl true))) : qEq (refT a b) (refT a b) k := by
  have ho : okD (refT a b) = true := by cases a <;> cases b <;> decide
  refine ⟨⟨ho, ho⟩, ?_⟩
  rw [eqD_refl ho]
  exact h
--@@
theorem sem_law : Sem S_law t_law 13 := by
  rintro _ Q0 E0 ⟨ns, rfl, hn, hq⟩
  walk_at "in"
  unfold t_law
  walk_at "dg"
  refine ⟨ns, rfl, hn, fun s0 hs0 => ?_⟩
  walk_at "dg"
  rename_i k1 s1 hs1 hk1
  refine ⟨s1, rfl, hs1, fun s2 us hs2 hu0 hu1 huw => ?_⟩
  walk_at "dg"
  rename_i k2 s3 hs3 hk2 k3 s4 hs4 hk3 k4 s5 hs5 hk4
  refine w_ixN (ys := [(1 : Int), 1 + (k2 : Int), (k3 : Int)]) (by rfl) (by simp only [List.length_cons, List.length_nil]; omega) fun v hv gv => ?_
  obtain ⟨n, rfl, hn4⟩ : ∃ n : Nat, v = (n : Int) ∧ n ≤ 4 := by
    rcases (show v = 1 ∨ v = 1 + (k2 : Int) ∨ v = (k3 : Int) by simpa using hv) with e | e | e
    · exact ⟨1, e, by omega⟩
    · exact ⟨1 + k2, by omega, by omega⟩
    · exact ⟨k3, by omega, by omega⟩
  walk_at "dg"
  refine ⟨s5, us, n, rfl, hs5, ⟨hu0, by omega⟩, hn4, fun s6 f h hs6 hfl hr hI => ?_⟩
  have hcn := its_cnt hI
  have hfm := flat_max 5 f hr
  walk_at "dn"
  refine w_cut1 (fun ρ => ∃ (f : Fo) (d5 : D) (h : Nat), d5.fz = en f ∧ (f.length ≤ 4 ∧ h ≤ 29 ∧ (∀ r ∈ f, r.length ≤ 29) ∧ ItsN us 1000 0 f.flatten h) ∧ ρ = [.v (ek ns), .v s6.d, .v (en (k1 : Int)), .v (en us), .v (en (n : Int)), .v d5, .v (en (h : Int)), .un, .un, .un, .un, .un, .un]) (fun K hK => ?_) ?_
  · walk_at "dg"
    refine w_if (fun c => ?_) fun c => ?_
    · walk_at "dg"
      rw [show Int.toNat 29 = 29 from rfl, rng_eo]
      refine hK _ ⟨[(List.range' 0 29).map fun i : Nat => It.h (i : Int)], _, 29, fr_oo _, ⟨by simp, Nat.le_refl _, fun r hr' => ?_, ?_⟩, rfl⟩
      · rw [List.mem_singleton.mp hr', List.length_map, List.length_range']
        omega
      · rw [List.flatten_cons, List.flatten_nil, List.append_nil]
        exact its_rng 29 0 (by omega)
    · walk_at "dg"
      exact hK _ ⟨f, _, h, fr_e _, ⟨by omega, by omega, fun r hr' => by have := hr r hr'; omega, hI⟩, rfl⟩
  · clear hI hcn hfm hfl hr
    rintro _ ⟨f, d5, h, hd5, ⟨hf4, hh, hrl, hI⟩, rfl⟩
    have hgd := (its_good hI).2
    obtain ⟨hfr, hct⟩ := its_frm huw hI
    walk_at "dg"
    refine ⟨s6, us, f, h, by rfl, hs6, ⟨hu0, by omega⟩, huw, hf4, by omega, fun r hr => ⟨hrl r hr, fun t ht => hgd t (List.mem_flatten.mpr ⟨r, hr, ht⟩)⟩, fun s7 rows hs7 hl60 hrw => ?_⟩
    obtain ⟨g, eg, hge, hg60, hgb⟩ := gs_of huw hl60 hrw
    walk_at "dn"
    refine w_ifC (k1 = 1) True (fun k h1 h2 => ?_) (fun c => ?_) (fun _ => ?_)
    · walk_at "dg"
      generalize hc : decide ((k1 : Int) = 1) = c
      cases c with
      | true =>
        have hc := of_decide_eq_true hc
        exact h1 (by omega)
      | false => exact h2 trivial
    · walk_at "dg"
      refine ⟨s7, us, f, h, rfl, hs7, ⟨hf4, fun r hr => by have := hrl r hr; omega⟩, huw, by omega, hI, fun s8 d hs8 hd => ?_⟩
      walk_at "dg"
      rw [hge]
      refine ⟨g, rfl, hgb, ?_⟩
      walk_at "dg"
      have ea : argL [false, false] [.v (ek ns), .v s8.d, .v (en (k1 : Int)), .v (en us), .v (en (n : Int)), .v (en f), .v (en (h : Int)), .v (en g), .v d, .un, .un, .un, .un] [.t (eoo g), .s 8] = some ([en g, d.fz], [.v (ek ns), .v s8.d, .v (en (k1 : Int)), .v (en us), .v (en (n : Int)), .v (en f), .v (en (h : Int)), .v (en g), .v d.fz, .un, .un, .un, .un]) := by
        cases hz : d.isFz with
        | true =>
          rw [fz_of hz]
          simp [argL, tkF, tk, slD, hz, fr_oo]
          exact fz_of hz
        | false =>
          simp [argL, tkF, tk, slD, hz, fr_oo, killB]
          exact fz_of hd.1.1
      refine ⟨_, _, ea, ?_⟩
      refine ⟨g, d.fz, rfl, hg60, hgb, hd.1, fun _ => ?_, fun c => by rw [hd.2] at c; cases c⟩
      walk_at "dg"
      show qEq (refT true false) (refT true false) _
      refine w_refq ?_
      walk_at "dg"
      exact hq _
    walk_at "dn"
    have hG0 : Fb f ∧ formB f = true := gb_of huw (by omega) (fun r hr => by have := hrl r hr; omega) hI
    refine w_cut1 (fun ρ => ∃ (s : St) (f : Fo) (d5 : D), s.ok ∧ d5.fz = en f ∧ (Fb f ∧ formB f = true) ∧ ρ = [.v (ek ns), .v s.d, .v (en (k1 : Int)), .v (en us), .v (en (n : Int)), .v d5, .v (en (h : Int)), .v (eo rows), .un, .un, .un, .un, .un]) (fun K hK => ?_) ?_
    · walk_at "dg"
      refine w_if (fun c => ?_) fun c => ?_
      · walk_at "dg"
        rename_i k8 s8 hs8 hk8 k9 s9 hs9 hk9
        refine w_ixN (ys := [(28 : Int), 60]) rfl (by simp only [List.length_cons, List.length_nil]; omega) fun v2 hv2 gv2 => ?_
        obtain ⟨m, rfl, hm⟩ : ∃ m : Nat, v2 = (m : Int) ∧ m ≤ 60 := by
          rcases (show v2 = 28 ∨ v2 = 60 by simpa using hv2) with e | e
          · exact ⟨28, e, by omega⟩
          · exact ⟨60, e, by omega⟩
        walk_at "dg"
        rw [cut_fromF (show k8 ≤ rows.length by omega)]
        refine ⟨s9, rows.drop k8, m, rfl, hs9, ⟨by rw [List.length_drop]; omega, fun r hr => (hrw r (List.mem_of_mem_drop hr)).1⟩, hm, fun s10 f' h' hs10 hfl' hr' hI' hh' => ?_⟩
        rw [List.length_drop] at hfl'
        walk_at "dg"
        refine hK _ ⟨s10, f', _, hs10, fr_oo _, gb_of (xs := (rows.drop k8).flatten) (fun x hx => ?_) (by omega) hr' hI', rfl⟩
        obtain ⟨r, hr, hx⟩ := List.mem_flatten.mp hx
        exact huw x ((hrw r (List.mem_of_mem_drop hr)).2 x hx)
      · walk_at "dg"
        exact hK _ ⟨s7, f, _, hs7, fr_e _, hG0, rfl⟩
    · clear hI hct hfr hgd hrl hf4 hh hd5 hG0
      rintro _ ⟨s8, f, d5, hs8, hd5, ⟨hfb, hff⟩, rfl⟩
      walk_at "dg"
      rw [hge]
      refine ⟨g, rfl, hgb, ?_⟩
      walk_at "dg"
      refine ⟨f, rfl, hfb, ?_⟩
      walk_at "dg"
      have eH : (D.n true Kd.lst [eoo g, eoo f]).fz = (en [g, f] : D) := by
        show D.n false Kd.lst [(eoo g).fz, (eoo f).fz] = _
        rw [fr_oo, fr_oo]
        rfl
      rw [eH]
      walk_at "dg"
      rename_i ga ga1 ga2 fa fa1 fa2
      cases ga2
      cases fa2
      refine ⟨g, en f, rfl, hg60, hgb, foi_fo hfb, fun c => (by rw [fm_fo, hff] at c; cases c), fun _ => ⟨f, rfl, hfb, fun z => ?_, fun z => ?_⟩⟩
      · walk_at "dg"
        refine w_if_t (dc_t.mpr z) ?_
        walk_at "dg"
        show qEq (refT false true) (refT false true) _
        refine w_refq ?_
        walk_at "dg"
        exact hq _
      · have hff2 := hff
        unfold formB at hff2
        simp only [Bool.and_eq_true] at hff2
        have hfl : f.length ≤ 60 := by
          have := hff2.1
          unfold tabB at this
          rw [Bool.and_eq_true] at this
          exact of_decide_eq_true this.1
        have hf0 : 0 < f.length := List.length_pos_iff.mpr z
        have hg61 := hg60.1
        walk_at "dg"
        refine w_if_f (dc_f.mpr z) ?_
        walk_at "dg"
        refine lc_fil (fun p : Nat => (ledO f ((g.drop p).take f.length)).isSome) (fun p : Nat => (p : Int)) ?_ (by rw [List.length_range]; omega) ?_
        · intro p hp acc k k' hn hk1 hk2
          have hp := List.mem_range.mp hp
          walk_at "dg"
          rw [cut_part]
          refine ⟨f, _, rfl, hfb, fb_part hgb, hff2.2, fun hN => ?_, fun zs hS => ?_⟩
          · walk_at "dg"
            refine w_if_f rfl ?_
            exact hk2 (by rw [hN]; rfl)
          · walk_at "dg"
            refine w_if_t rfl ?_
            walk_at "dg"
            exact hk1 (by rw [hS]; rfl)
        have ePl : ((List.range g.length).filter fun p => (ledO f ((g.drop p).take f.length)).isSome) = places f g := by
          unfold places
          have : ∀ (m n : Nat) (P : Nat → Bool), m ≤ n → (∀ p, m ≤ p → p < n → P p = false) → (List.range n).filter P = (List.range m).filter P := fun m n P h1 h2 => by
            induction n with
            | zero => rw [show m = 0 by omega]
            | succ n ih =>
              by_cases c : m = n + 1
              · rw [c]
              · rw [List.range_succ, List.filter_append, ih (by omega) fun p q1 q2 => h2 p q1 (by omega), List.filter_cons, h2 n (by omega) (by omega)]
                simp
          refine this _ _ _ (by omega) fun p q1 q2 => ?_
          cases hS : (ledO f ((g.drop p).take f.length)).isSome with
          | false => rfl
          | true =>
            have := led_len hS
            rw [List.length_take, List.length_drop] at this
            omega
        rw [Int.toNat_natCast, ePl]
        have hpl : (places f g).length ≤ 61 := by
          unfold places
          have := List.length_filter_le (fun p => (ledO f ((g.drop p).take f.length)).isSome) (List.range ((g.length : Int) - (f.length : Int) + 1).toNat)
          rw [List.length_range] at this
          omega
        walk_at "dg"
        refine w_if_f (by rw [dc_t.mpr rfl]; rfl) ?_
        walk_at "dg"
        refine lc_enc (fun _ : Int => false) ?_ (by rw [List.length_map]; omega) ?_
        · intro i hi acc k k' hn hk
          walk_at "dg"
          exact hk
        walk_at "dg"
        refine w_if_f (by rw [List.any_eq_false]; intro b hb; obtain ⟨_, _, rfl⟩ := List.mem_map.mp hb; simp) ?_
        have hpl2 : ((places f g).map fun p : Nat => (p : Int)).length ≤ 61 := by rw [List.length_map]; exact hpl
        walk_at "dg"
        refine w_eqP (x := [g, f]) (y := [g, f]) rfl (by show toPy (.n true .lst [en g, en f]) = toPy (.n false .lst [en g, en f]); rw [toPy, toPy]) (by decide) ?_
        rw [dc_t.mpr rfl]
        walk_at "dg"
        exact hq _
theorem len_is_plain : Ar S_is_plain 1 := by
  first
    | (rintro _ _ _ ⟨rfl, _⟩; rfl)
    | (rintro _ _ _ ⟨_, rfl, _⟩; rfl)
    | (rintro _ _ _ ⟨_, _, rfl, _⟩; rfl)
    | (rintro _ _ _ ⟨_, _, _, rfl, _⟩; rfl)
    | (rintro _ _ _ ⟨_, _, _, _, rfl, _⟩; rfl)
    | (rintro _ _ _ ⟨_, _, _, _, _, rfl, _⟩; rfl)
    | (rintro _ _ _ ⟨_, _, _, _, _, _, rfl, _⟩; rfl)
    | (rintro _ _ _ ⟨_, _, _, _, _, _, _, rfl, _⟩; rfl)
    | (rintro _ _ _ ⟨_, _, _, _, _, _, _, _, rfl, _⟩; rfl)
theorem len_sort_of : Ar S_sort_of 1 := by
  first
    | (rintro _ _ _ ⟨rfl, _⟩; rfl)
    | (rintro _ _ _ ⟨_, rfl, _⟩; rfl)
    | (rintro _ _ _ ⟨_, _, rfl, _⟩; rfl)
    | (rintro _ _ _ ⟨_, _, _, rfl, _⟩; rfl)
    | (rintro _ _ _ ⟨_, _, _, _, rfl, _⟩; rfl)
    | (rintro _ _ _ ⟨_, _, _, _, _, rfl, _⟩; rfl)
    | (rintro _ _ _ ⟨_, _, _, _, _, _, rfl, _⟩; rfl)
    | (rintro _ _ _ ⟨_, _, _, _, _, _, _, rfl, _⟩; rfl)
    | (rintro _ _ _ ⟨_, _, _, _, _, _, _, _, rfl, _⟩; rfl)
theorem len_end_of : Ar S_end_of 2 := by
  first
    | (rintro _ _ _ ⟨rfl, _⟩; rfl)
    | (rintro _ _ _ ⟨_, rfl, _⟩; rfl)
    | (rintro _ _ _ ⟨_, _, rfl, _⟩; rfl)
    | (rintro _ _ _ ⟨_, _, _, rfl, _⟩; rfl)
    | (rintro _ _ _ ⟨_, _, _, _, rfl, _⟩; rfl)
    | (rintro _ _ _ ⟨_, _, _, _, _, rfl, _⟩; rfl)
    | (rintro _ _ _ ⟨_, _, _, _, _, _, rfl, _⟩; rfl)
    | (rintro _ _ _ ⟨_, _, _, _, _, _, _, rfl, _⟩; rfl)
    | (rintro _ _ _ ⟨_, _, _, _, _, _, _, _, rfl, _⟩; rfl)
theorem len_parts_of : Ar S_parts_of 1 := by
  first
    | (rintro _ _ _ ⟨rfl, _⟩; rfl)
    | (rintro _ _ _ ⟨_, rfl, _⟩; rfl)
    | (rintro _ _ _ ⟨_, _, rfl, _⟩; rfl)
    | (rintro _ _ _ ⟨_, _, _, rfl, _⟩; rfl)
    | (rintro _ _ _ ⟨_, _, _, _, rfl, _⟩; rfl)
    | (rintro _ _ _ ⟨_, _, _, _, _, rfl, _⟩; rfl)
    | (rintro _ _ _ ⟨_, _, _, _, _, _, rfl, _⟩; rfl)
    | (rintro _ _ _ ⟨_, _, _, _, _, _, _, rfl, _⟩; rfl)
    | (rintro _ _ _ ⟨_, _, _, _, _, _, _, _, rfl, _⟩; rfl)
theorem len_is_word : Ar S_is_word 1 := by
  first
    | (rintro _ _ _ ⟨rfl, _⟩; rfl)
    | (rintro _ _ _ ⟨_, rfl, _⟩; rfl)
    | (rintro _ _ _ ⟨_, _, rfl, _⟩; rfl)
    | (rintro _ _ _ ⟨_, _, _, rfl, _⟩; rfl)
    | (rintro _ _ _ ⟨_, _, _, _, rfl, _⟩; rfl)
    | (rintro _ _ _ ⟨_, _, _, _, _, rfl, _⟩; rfl)
    | (rintro _ _ _ ⟨_, _, _, _, _, _, rfl, _⟩; rfl)
    | (rintro _ _ _ ⟨_, _, _, _, _, _, _, rfl, _⟩; rfl)
    | (rintro _ _ _ ⟨_, _, _, _, _, _, _, _, rfl, _⟩; rfl)
theorem len_is_hole : Ar S_is_hole 1 := by
  first
    | (rintro _ _ _ ⟨rfl, _⟩; rfl)
    | (rintro _ _ _ ⟨_, rfl, _⟩; rfl)
    | (rintro _ _ _ ⟨_, _, rfl, _⟩; rfl)
    | (rintro _ _ _ ⟨_, _, _, rfl, _⟩; rfl)
    | (rintro _ _ _ ⟨_, _, _, _, rfl, _⟩; rfl)
    | (rintro _ _ _ ⟨_, _, _, _, _, rfl, _⟩; rfl)
    | (rintro _ _ _ ⟨_, _, _, _, _, _, rfl, _⟩; rfl)
    | (rintro _ _ _ ⟨_, _, _, _, _, _, _, rfl, _⟩; rfl)
    | (rintro _ _ _ ⟨_, _, _, _, _, _, _, _, rfl, _⟩; rfl)
theorem len_is_tablex : Ar S_is_tablex 1 := by
  first
    | (rintro _ _ _ ⟨rfl, _⟩; rfl)
    | (rintro _ _ _ ⟨_, rfl, _⟩; rfl)
    | (rintro _ _ _ ⟨_, _, rfl, _⟩; rfl)
    | (rintro _ _ _ ⟨_, _, _, rfl, _⟩; rfl)
    | (rintro _ _ _ ⟨_, _, _, _, rfl, _⟩; rfl)
    | (rintro _ _ _ ⟨_, _, _, _, _, rfl, _⟩; rfl)
    | (rintro _ _ _ ⟨_, _, _, _, _, _, rfl, _⟩; rfl)
    | (rintro _ _ _ ⟨_, _, _, _, _, _, _, rfl, _⟩; rfl)
    | (rintro _ _ _ ⟨_, _, _, _, _, _, _, _, rfl, _⟩; rfl)
theorem len_items_ofx : Ar S_items_ofx 1 := by
  first
    | (rintro _ _ _ ⟨rfl, _⟩; rfl)
    | (rintro _ _ _ ⟨_, rfl, _⟩; rfl)
    | (rintro _ _ _ ⟨_, _, rfl, _⟩; rfl)
    | (rintro _ _ _ ⟨_, _, _, rfl, _⟩; rfl)
    | (rintro _ _ _ ⟨_, _, _, _, rfl, _⟩; rfl)
    | (rintro _ _ _ ⟨_, _, _, _, _, rfl, _⟩; rfl)
    | (rintro _ _ _ ⟨_, _, _, _, _, _, rfl, _⟩; rfl)
    | (rintro _ _ _ ⟨_, _, _, _, _, _, _, rfl, _⟩; rfl)
    | (rintro _ _ _ ⟨_, _, _, _, _, _, _, _, rfl, _⟩; rfl)
theorem len_is_formx : Ar S_is_formx 1 := by
  first
    | (rintro _ _ _ ⟨rfl, _⟩; rfl)
    | (rintro _ _ _ ⟨_, rfl, _⟩; rfl)
    | (rintro _ _ _ ⟨_, _, rfl, _⟩; rfl)
    | (rintro _ _ _ ⟨_, _, _, rfl, _⟩; rfl)
    | (rintro _ _ _ ⟨_, _, _, _, rfl, _⟩; rfl)
    | (rintro _ _ _ ⟨_, _, _, _, _, rfl, _⟩; rfl)
    | (rintro _ _ _ ⟨_, _, _, _, _, _, rfl, _⟩; rfl)
    | (rintro _ _ _ ⟨_, _, _, _, _, _, _, rfl, _⟩; rfl)
    | (rintro _ _ _ ⟨_, _, _, _, _, _, _, _, rfl, _⟩; rfl)
theorem len_need_formx : Ar S_need_formx 1 := by
  first
    | (rintro _ _ _ ⟨rfl, _⟩; rfl)
    | (rintro _ _ _ ⟨_, rfl, _⟩; rfl)
    | (rintro _ _ _ ⟨_, _, rfl, _⟩; rfl)
    | (rintro _ _ _ ⟨_, _, _, rfl, _⟩; rfl)
    | (rintro _ _ _ ⟨_, _, _, _, rfl, _⟩; rfl)
    | (rintro _ _ _ ⟨_, _, _, _, _, rfl, _⟩; rfl)
    | (rintro _ _ _ ⟨_, _, _, _, _, _, rfl, _⟩; rfl)
    | (rintro _ _ _ ⟨_, _, _, _, _, _, _, rfl, _⟩; rfl)
    | (rintro _ _ _ ⟨_, _, _, _, _, _, _, _, rfl, _⟩; rfl)
theorem len_shape_of : Ar S_shape_of 1 := by
  first
    | (rintro _ _ _ ⟨rfl, _⟩; rfl)
    | (rintro _ _ _ ⟨_, rfl, _⟩; rfl)
    | (rintro _ _ _ ⟨_, _, rfl, _⟩; rfl)
    | (rintro _ _ _ ⟨_, _, _, rfl, _⟩; rfl)
    | (rintro _ _ _ ⟨_, _, _, _, rfl, _⟩; rfl)
    | (rintro _ _ _ ⟨_, _, _, _, _, rfl, _⟩; rfl)
    | (rintro _ _ _ ⟨_, _, _, _, _, _, rfl, _⟩; rfl)
    | (rintro _ _ _ ⟨_, _, _, _, _, _, _, rfl, _⟩; rfl)
    | (rintro _ _ _ ⟨_, _, _, _, _, _, _, _, rfl, _⟩; rfl)
theorem len_led_by : Ar S_led_by 2 := by
  first
    | (rintro _ _ _ ⟨rfl, _⟩; rfl)
    | (rintro _ _ _ ⟨_, rfl, _⟩; rfl)
    | (rintro _ _ _ ⟨_, _, rfl, _⟩; rfl)
    | (rintro _ _ _ ⟨_, _, _, rfl, _⟩; rfl)
    | (rintro _ _ _ ⟨_, _, _, _, rfl, _⟩; rfl)
    | (rintro _ _ _ ⟨_, _, _, _, _, rfl, _⟩; rfl)
    | (rintro _ _ _ ⟨_, _, _, _, _, _, rfl, _⟩; rfl)
    | (rintro _ _ _ ⟨_, _, _, _, _, _, _, rfl, _⟩; rfl)
    | (rintro _ _ _ ⟨_, _, _, _, _, _, _, _, rfl, _⟩; rfl)
theorem len_is_fit : Ar S_is_fit 2 := by
  first
    | (rintro _ _ _ ⟨rfl, _⟩; rfl)
    | (rintro _ _ _ ⟨_, rfl, _⟩; rfl)
    | (rintro _ _ _ ⟨_, _, rfl, _⟩; rfl)
    | (rintro _ _ _ ⟨_, _, _, rfl, _⟩; rfl)
    | (rintro _ _ _ ⟨_, _, _, _, rfl, _⟩; rfl)
    | (rintro _ _ _ ⟨_, _, _, _, _, rfl, _⟩; rfl)
    | (rintro _ _ _ ⟨_, _, _, _, _, _, rfl, _⟩; rfl)
    | (rintro _ _ _ ⟨_, _, _, _, _, _, _, rfl, _⟩; rfl)
    | (rintro _ _ _ ⟨_, _, _, _, _, _, _, _, rfl, _⟩; rfl)
theorem len_fitting : Ar S_fitting 2 := by
  first
    | (rintro _ _ _ ⟨rfl, _⟩; rfl)
    | (rintro _ _ _ ⟨_, rfl, _⟩; rfl)
    | (rintro _ _ _ ⟨_, _, rfl, _⟩; rfl)
    | (rintro _ _ _ ⟨_, _, _, rfl, _⟩; rfl)
    | (rintro _ _ _ ⟨_, _, _, _, rfl, _⟩; rfl)
    | (rintro _ _ _ ⟨_, _, _, _, _, rfl, _⟩; rfl)
    | (rintro _ _ _ ⟨_, _, _, _, _, _, rfl, _⟩; rfl)
    | (rintro _ _ _ ⟨_, _, _, _, _, _, _, rfl, _⟩; rfl)
    | (rintro _ _ _ ⟨_, _, _, _, _, _, _, _, rfl, _⟩; rfl)
theorem len_law_begunx : Ar S_law_begunx 1 := by
  first
    | (rintro _ _ _ ⟨rfl, _⟩; rfl)
    | (rintro _ _ _ ⟨_, rfl, _⟩; rfl)
    | (rintro _ _ _ ⟨_, _, rfl, _⟩; rfl)
    | (rintro _ _ _ ⟨_, _, _, rfl, _⟩; rfl)
    | (rintro _ _ _ ⟨_, _, _, _, rfl, _⟩; rfl)
    | (rintro _ _ _ ⟨_, _, _, _, _, rfl, _⟩; rfl)
    | (rintro _ _ _ ⟨_, _, _, _, _, _, rfl, _⟩; rfl)
    | (rintro _ _ _ ⟨_, _, _, _, _, _, _, rfl, _⟩; rfl)
    | (rintro _ _ _ ⟨_, _, _, _, _, _, _, _, rfl, _⟩; rfl)
theorem len_law_takex : Ar S_law_takex 2 := by
  first
    | (rintro _ _ _ ⟨rfl, _⟩; rfl)
    | (rintro _ _ _ ⟨_, rfl, _⟩; rfl)
    | (rintro _ _ _ ⟨_, _, rfl, _⟩; rfl)
    | (rintro _ _ _ ⟨_, _, _, rfl, _⟩; rfl)
    | (rintro _ _ _ ⟨_, _, _, _, rfl, _⟩; rfl)
    | (rintro _ _ _ ⟨_, _, _, _, _, rfl, _⟩; rfl)
    | (rintro _ _ _ ⟨_, _, _, _, _, _, rfl, _⟩; rfl)
    | (rintro _ _ _ ⟨_, _, _, _, _, _, _, rfl, _⟩; rfl)
    | (rintro _ _ _ ⟨_, _, _, _, _, _, _, _, rfl, _⟩; rfl)
theorem len_law_kept : Ar S_law_kept 0 := by
  first
    | (rintro _ _ _ ⟨rfl, _⟩; rfl)
    | (rintro _ _ _ ⟨_, rfl, _⟩; rfl)
    | (rintro _ _ _ ⟨_, _, rfl, _⟩; rfl)
    | (rintro _ _ _ ⟨_, _, _, rfl, _⟩; rfl)
    | (rintro _ _ _ ⟨_, _, _, _, rfl, _⟩; rfl)
    | (rintro _ _ _ ⟨_, _, _, _, _, rfl, _⟩; rfl)
    | (rintro _ _ _ ⟨_, _, _, _, _, _, rfl, _⟩; rfl)
    | (rintro _ _ _ ⟨_, _, _, _, _, _, _, rfl, _⟩; rfl)
    | (rintro _ _ _ ⟨_, _, _, _, _, _, _, _, rfl, _⟩; rfl)
theorem len_law_wordg : Ar S_law_wordg 1 := by
  first
    | (rintro _ _ _ ⟨rfl, _⟩; rfl)
    | (rintro _ _ _ ⟨_, rfl, _⟩; rfl)
    | (rintro _ _ _ ⟨_, _, rfl, _⟩; rfl)
    | (rintro _ _ _ ⟨_, _, _, rfl, _⟩; rfl)
    | (rintro _ _ _ ⟨_, _, _, _, rfl, _⟩; rfl)
    | (rintro _ _ _ ⟨_, _, _, _, _, rfl, _⟩; rfl)
    | (rintro _ _ _ ⟨_, _, _, _, _, _, rfl, _⟩; rfl)
    | (rintro _ _ _ ⟨_, _, _, _, _, _, _, rfl, _⟩; rfl)
    | (rintro _ _ _ ⟨_, _, _, _, _, _, _, _, rfl, _⟩; rfl)
theorem len_law_poolg : Ar S_law_poolg 1 := by
  first
    | (rintro _ _ _ ⟨rfl, _⟩; rfl)
    | (rintro _ _ _ ⟨_, rfl, _⟩; rfl)
    | (rintro _ _ _ ⟨_, _, rfl, _⟩; rfl)
    | (rintro _ _ _ ⟨_, _, _, rfl, _⟩; rfl)
    | (rintro _ _ _ ⟨_, _, _, _, rfl, _⟩; rfl)
    | (rintro _ _ _ ⟨_, _, _, _, _, rfl, _⟩; rfl)
    | (rintro _ _ _ ⟨_, _, _, _, _, _, rfl, _⟩; rfl)
    | (rintro _ _ _ ⟨_, _, _, _, _, _, _, rfl, _⟩; rfl)
    | (rintro _ _ _ ⟨_, _, _, _, _, _, _, _, rfl, _⟩; rfl)
theorem len_law_words : Ar S_law_words 3 := by
  first
    | (rintro _ _ _ ⟨rfl, _⟩; rfl)
    | (rintro _ _ _ ⟨_, rfl, _⟩; rfl)
    | (rintro _ _ _ ⟨_, _, rfl, _⟩; rfl)
    | (rintro _ _ _ ⟨_, _, _, rfl, _⟩; rfl)
    | (rintro _ _ _ ⟨_, _, _, _, rfl, _⟩; rfl)
    | (rintro _ _ _ ⟨_, _, _, _, _, rfl, _⟩; rfl)
    | (rintro _ _ _ ⟨_, _, _, _, _, _, rfl, _⟩; rfl)
    | (rintro _ _ _ ⟨_, _, _, _, _, _, _, rfl, _⟩; rfl)
    | (rintro _ _ _ ⟨_, _, _, _, _, _, _, _, rfl, _⟩; rfl)
theorem len_law_form : Ar S_law_form 3 := by
  first
    | (rintro _ _ _ ⟨rfl, _⟩; rfl)
    | (rintro _ _ _ ⟨_, rfl, _⟩; rfl)
    | (rintro _ _ _ ⟨_, _, rfl, _⟩; rfl)
    | (rintro _ _ _ ⟨_, _, _, rfl, _⟩; rfl)
    | (rintro _ _ _ ⟨_, _, _, _, rfl, _⟩; rfl)
    | (rintro _ _ _ ⟨_, _, _, _, _, rfl, _⟩; rfl)
    | (rintro _ _ _ ⟨_, _, _, _, _, _, rfl, _⟩; rfl)
    | (rintro _ _ _ ⟨_, _, _, _, _, _, _, rfl, _⟩; rfl)
    | (rintro _ _ _ ⟨_, _, _, _, _, _, _, _, rfl, _⟩; rfl)
theorem len_law_putg : Ar S_law_putg 2 := by
  first
    | (rintro _ _ _ ⟨rfl, _⟩; rfl)
    | (rintro _ _ _ ⟨_, rfl, _⟩; rfl)
    | (rintro _ _ _ ⟨_, _, rfl, _⟩; rfl)
    | (rintro _ _ _ ⟨_, _, _, rfl, _⟩; rfl)
    | (rintro _ _ _ ⟨_, _, _, _, rfl, _⟩; rfl)
    | (rintro _ _ _ ⟨_, _, _, _, _, rfl, _⟩; rfl)
    | (rintro _ _ _ ⟨_, _, _, _, _, _, rfl, _⟩; rfl)
    | (rintro _ _ _ ⟨_, _, _, _, _, _, _, rfl, _⟩; rfl)
    | (rintro _ _ _ ⟨_, _, _, _, _, _, _, _, rfl, _⟩; rfl)
theorem len_law_spoiltg : Ar S_law_spoiltg 3 := by
  first
    | (rintro _ _ _ ⟨rfl, _⟩; rfl)
    | (rintro _ _ _ ⟨_, rfl, _⟩; rfl)
    | (rintro _ _ _ ⟨_, _, rfl, _⟩; rfl)
    | (rintro _ _ _ ⟨_, _, _, rfl, _⟩; rfl)
    | (rintro _ _ _ ⟨_, _, _, _, rfl, _⟩; rfl)
    | (rintro _ _ _ ⟨_, _, _, _, _, rfl, _⟩; rfl)
    | (rintro _ _ _ ⟨_, _, _, _, _, _, rfl, _⟩; rfl)
    | (rintro _ _ _ ⟨_, _, _, _, _, _, _, rfl, _⟩; rfl)
    | (rintro _ _ _ ⟨_, _, _, _, _, _, _, _, rfl, _⟩; rfl)
theorem len_law_stretchg : Ar S_law_stretchg 4 := by
  first
    | (rintro _ _ _ ⟨rfl, _⟩; rfl)
    | (rintro _ _ _ ⟨_, rfl, _⟩; rfl)
    | (rintro _ _ _ ⟨_, _, rfl, _⟩; rfl)
    | (rintro _ _ _ ⟨_, _, _, rfl, _⟩; rfl)
    | (rintro _ _ _ ⟨_, _, _, _, rfl, _⟩; rfl)
    | (rintro _ _ _ ⟨_, _, _, _, _, rfl, _⟩; rfl)
    | (rintro _ _ _ ⟨_, _, _, _, _, _, rfl, _⟩; rfl)
    | (rintro _ _ _ ⟨_, _, _, _, _, _, _, rfl, _⟩; rfl)
    | (rintro _ _ _ ⟨_, _, _, _, _, _, _, _, rfl, _⟩; rfl)
theorem len_law_filling : Ar S_law_filling 2 := by
  first
    | (rintro _ _ _ ⟨rfl, _⟩; rfl)
    | (rintro _ _ _ ⟨_, rfl, _⟩; rfl)
    | (rintro _ _ _ ⟨_, _, rfl, _⟩; rfl)
    | (rintro _ _ _ ⟨_, _, _, rfl, _⟩; rfl)
    | (rintro _ _ _ ⟨_, _, _, _, rfl, _⟩; rfl)
    | (rintro _ _ _ ⟨_, _, _, _, _, rfl, _⟩; rfl)
    | (rintro _ _ _ ⟨_, _, _, _, _, _, rfl, _⟩; rfl)
    | (rintro _ _ _ ⟨_, _, _, _, _, _, _, rfl, _⟩; rfl)
    | (rintro _ _ _ ⟨_, _, _, _, _, _, _, _, rfl, _⟩; rfl)
theorem len_law_odd : Ar S_law_odd 3 := by
  first
    | (rintro _ _ _ ⟨rfl, _⟩; rfl)
    | (rintro _ _ _ ⟨_, rfl, _⟩; rfl)
    | (rintro _ _ _ ⟨_, _, rfl, _⟩; rfl)
    | (rintro _ _ _ ⟨_, _, _, rfl, _⟩; rfl)
    | (rintro _ _ _ ⟨_, _, _, _, rfl, _⟩; rfl)
    | (rintro _ _ _ ⟨_, _, _, _, _, rfl, _⟩; rfl)
    | (rintro _ _ _ ⟨_, _, _, _, _, _, rfl, _⟩; rfl)
    | (rintro _ _ _ ⟨_, _, _, _, _, _, _, rfl, _⟩; rfl)
    | (rintro _ _ _ ⟨_, _, _, _, _, _, _, _, rfl, _⟩; rfl)
theorem len_law_opened : Ar S_law_opened 3 := by
  first
    | (rintro _ _ _ ⟨rfl, _⟩; rfl)
    | (rintro _ _ _ ⟨_, rfl, _⟩; rfl)
    | (rintro _ _ _ ⟨_, _, rfl, _⟩; rfl)
    | (rintro _ _ _ ⟨_, _, _, rfl, _⟩; rfl)
    | (rintro _ _ _ ⟨_, _, _, _, rfl, _⟩; rfl)
    | (rintro _ _ _ ⟨_, _, _, _, _, rfl, _⟩; rfl)
    | (rintro _ _ _ ⟨_, _, _, _, _, _, rfl, _⟩; rfl)
    | (rintro _ _ _ ⟨_, _, _, _, _, _, _, rfl, _⟩; rfl)
    | (rintro _ _ _ ⟨_, _, _, _, _, _, _, _, rfl, _⟩; rfl)
theorem len_law_copyg : Ar S_law_copyg 1 := by
  first
    | (rintro _ _ _ ⟨rfl, _⟩; rfl)
    | (rintro _ _ _ ⟨_, rfl, _⟩; rfl)
    | (rintro _ _ _ ⟨_, _, rfl, _⟩; rfl)
    | (rintro _ _ _ ⟨_, _, _, rfl, _⟩; rfl)
    | (rintro _ _ _ ⟨_, _, _, _, rfl, _⟩; rfl)
    | (rintro _ _ _ ⟨_, _, _, _, _, rfl, _⟩; rfl)
    | (rintro _ _ _ ⟨_, _, _, _, _, _, rfl, _⟩; rfl)
    | (rintro _ _ _ ⟨_, _, _, _, _, _, _, rfl, _⟩; rfl)
    | (rintro _ _ _ ⟨_, _, _, _, _, _, _, _, rfl, _⟩; rfl)
theorem len_law_asked : Ar S_law_asked 2 := by
  first
    | (rintro _ _ _ ⟨rfl, _⟩; rfl)
    | (rintro _ _ _ ⟨_, rfl, _⟩; rfl)
    | (rintro _ _ _ ⟨_, _, rfl, _⟩; rfl)
    | (rintro _ _ _ ⟨_, _, _, rfl, _⟩; rfl)
    | (rintro _ _ _ ⟨_, _, _, _, rfl, _⟩; rfl)
    | (rintro _ _ _ ⟨_, _, _, _, _, rfl, _⟩; rfl)
    | (rintro _ _ _ ⟨_, _, _, _, _, _, rfl, _⟩; rfl)
    | (rintro _ _ _ ⟨_, _, _, _, _, _, _, rfl, _⟩; rfl)
    | (rintro _ _ _ ⟨_, _, _, _, _, _, _, _, rfl, _⟩; rfl)
theorem len_law : Ar S_law 1 := by
  first
    | (rintro _ _ _ ⟨rfl, _⟩; rfl)
    | (rintro _ _ _ ⟨_, rfl, _⟩; rfl)
    | (rintro _ _ _ ⟨_, _, rfl, _⟩; rfl)
    | (rintro _ _ _ ⟨_, _, _, rfl, _⟩; rfl)
    | (rintro _ _ _ ⟨_, _, _, _, rfl, _⟩; rfl)
    | (rintro _ _ _ ⟨_, _, _, _, _, rfl, _⟩; rfl)
    | (rintro _ _ _ ⟨_, _, _, _, _, _, rfl, _⟩; rfl)
    | (rintro _ _ _ ⟨_, _, _, _, _, _, _, rfl, _⟩; rfl)
    | (rintro _ _ _ ⟨_, _, _, _, _, _, _, _, rfl, _⟩; rfl)
end
open PyProof.Rows
def topS (i : Nat) : Stmt := PySem.Challenge.pw_kinrows_k75_parts_that_fit.main.body.getD i (.Pass ⟨0, 0, 0, 0⟩)
abbrev s_is_plain : Stmt := topS 9
theorem sc_is_plain : FnScope ["thing", "sign"] ["thing"] (defScope s_is_plain) := ⟨rfl, rfl, rfl, by decide +kernel, rfl, by decide +kernel, by decide +kernel⟩
abbrev s_sort_of : Stmt := topS 10
theorem sc_sort_of : FnScope ["sign"] ["sign"] (defScope s_sort_of) := ⟨rfl, rfl, rfl, by decide +kernel, rfl, by decide +kernel, by decide +kernel⟩
abbrev s_end_of : Stmt := topS 11
theorem sc_end_of : FnScope ["text", "at", "sort", "end"] ["text", "at"] (defScope s_end_of) := ⟨rfl, rfl, rfl, by decide +kernel, rfl, by decide +kernel, by decide +kernel⟩
abbrev s_parts_of : Stmt := topS 12
theorem sc_parts_of : FnScope ["text", "found", "at", "end"] ["text"] (defScope s_parts_of) := ⟨rfl, rfl, rfl, by decide +kernel, rfl, by decide +kernel, by decide +kernel⟩
abbrev s_is_word : Stmt := topS 13
theorem sc_is_word : FnScope ["thing"] ["thing"] (defScope s_is_word) := ⟨rfl, rfl, rfl, by decide +kernel, rfl, by decide +kernel, by decide +kernel⟩
abbrev s_is_hole : Stmt := topS 17
theorem sc_is_hole : FnScope ["item"] ["item"] (defScope s_is_hole) := ⟨rfl, rfl, rfl, by decide +kernel, rfl, by decide +kernel, by decide +kernel⟩
abbrev s_is_tablex : Stmt := topS 18
theorem sc_is_tablex : FnScope ["thing", "row"] ["thing"] (defScope s_is_tablex) := ⟨rfl, rfl, rfl, by decide +kernel, rfl, by decide +kernel, by decide +kernel⟩
abbrev s_items_ofx : Stmt := topS 19
theorem sc_items_ofx : FnScope ["rows", "found", "row"] ["rows"] (defScope s_items_ofx) := ⟨rfl, rfl, rfl, by decide +kernel, rfl, by decide +kernel, by decide +kernel⟩
abbrev s_is_formx : Stmt := topS 20
theorem sc_is_formx : FnScope ["thing", "many", "item"] ["thing"] (defScope s_is_formx) := ⟨rfl, rfl, rfl, by decide +kernel, rfl, by decide +kernel, by decide +kernel⟩
abbrev s_need_formx : Stmt := topS 21
theorem sc_need_formx : FnScope ["thing"] ["thing"] (defScope s_need_formx) := ⟨rfl, rfl, rfl, by decide +kernel, rfl, by decide +kernel, by decide +kernel⟩
abbrev s_shape_of : Stmt := topS 22
theorem sc_shape_of : FnScope ["rows", "row"] ["rows"] (defScope s_shape_of) := ⟨rfl, rfl, rfl, by decide +kernel, rfl, by decide +kernel, by decide +kernel⟩
abbrev s_led_by : Stmt := topS 23
theorem sc_led_by : FnScope ["items", "others", "found", "item", "other", "k"] ["items", "others"] (defScope s_led_by) := ⟨rfl, rfl, rfl, by decide +kernel, rfl, by decide +kernel, by decide +kernel⟩
abbrev s_is_fit : Stmt := topS 25
theorem sc_is_fit : FnScope ["part", "form"] ["part", "form"] (defScope s_is_fit) := ⟨rfl, rfl, rfl, by decide +kernel, rfl, by decide +kernel, by decide +kernel⟩
abbrev s_fitting : Stmt := topS 26
theorem sc_fitting : FnScope ["stretch", "form", "last", "at"] ["stretch", "form"] (defScope s_fitting) := ⟨rfl, rfl, rfl, by decide +kernel, rfl, by decide +kernel, by decide +kernel⟩
abbrev s_law_begunx : Stmt := topS 28
theorem sc_law_begunx : FnScope ["_law_script"] ["_law_script"] (defScope s_law_begunx) := ⟨rfl, rfl, rfl, by decide +kernel, rfl, by decide +kernel, by decide +kernel⟩
abbrev s_law_takex : Stmt := topS 29
theorem sc_law_takex : FnScope ["_law_state", "_law_many", "_law_cells", "_law_found", "_law_cell"] ["_law_state", "_law_many"] (defScope s_law_takex) := ⟨rfl, rfl, rfl, by decide +kernel, rfl, by decide +kernel, by decide +kernel⟩
abbrev s_law_kept : Stmt := topS 30
theorem sc_law_kept : FnScope [] [] (defScope s_law_kept) := ⟨rfl, rfl, rfl, by decide +kernel, rfl, by decide +kernel, by decide +kernel⟩
abbrev s_law_wordg : Stmt := topS 31
theorem sc_law_wordg : FnScope ["_law_state", "_law_some", "_law_signs", "_law_way", "_law_word_here", "_law_k"] ["_law_state"] (defScope s_law_wordg) := ⟨rfl, rfl, rfl, by decide +kernel, rfl, by decide +kernel, by decide +kernel⟩
abbrev s_law_poolg : Stmt := topS 32
theorem sc_law_poolg : FnScope ["_law_state", "_law_found", "_law_k"] ["_law_state"] (defScope s_law_poolg) := ⟨rfl, rfl, rfl, by decide +kernel, rfl, by decide +kernel, by decide +kernel⟩
abbrev s_law_words : Stmt := topS 33
theorem sc_law_words : FnScope ["_law_state", "_law_pool_here", "_law_many", "_law_k"] ["_law_state", "_law_pool_here", "_law_many"] (defScope s_law_words) := ⟨rfl, rfl, rfl, by decide +kernel, rfl, by decide +kernel, by decide +kernel⟩
abbrev s_law_form : Stmt := topS 34
theorem sc_law_form : FnScope ["_law_state", "_law_pool_here", "_law_many", "_law_found", "_law_holes", "_law_k", "_law_row", "_law_j", "_law_item"] ["_law_state", "_law_pool_here", "_law_many"] (defScope s_law_form) := ⟨rfl, rfl, rfl, by decide +kernel, rfl, by decide +kernel, by decide +kernel⟩
abbrev s_law_putg : Stmt := topS 35
theorem sc_law_putg : FnScope ["_law_shape", "_law_items", "_law_row", "_law_item"] ["_law_shape", "_law_items"] (defScope s_law_putg) := ⟨rfl, rfl, rfl, by decide +kernel, rfl, by decide +kernel, by decide +kernel⟩
abbrev s_law_spoiltg : Stmt := topS 36
theorem sc_law_spoiltg : FnScope ["_law_state", "_law_rows", "_law_pool_here", "_law_way", "_law_found", "_law_at", "_law_row", "_law_k"] ["_law_state", "_law_rows", "_law_pool_here"] (defScope s_law_spoiltg) := ⟨rfl, rfl, rfl, by decide +kernel, rfl, by decide +kernel, by decide +kernel⟩
abbrev s_law_stretchg : Stmt := topS 37
theorem sc_law_stretchg : FnScope ["_law_state", "_law_pool_here", "_law_shape", "_law_holes", "_law_found", "_law_most", "_law_k", "_law_way", "_law_piece"] ["_law_state", "_law_pool_here", "_law_shape", "_law_holes"] (defScope s_law_stretchg) := ⟨rfl, rfl, rfl, by decide +kernel, rfl, by decide +kernel, by decide +kernel⟩
abbrev s_law_filling : Stmt := topS 38
theorem sc_law_filling : FnScope ["_law_shape", "_law_part", "_law_held", "_law_row", "_law_words_here", "_law_item", "_law_word_here", "_law_k"] ["_law_shape", "_law_part"] (defScope s_law_filling) := ⟨rfl, rfl, rfl, by decide +kernel, rfl, by decide +kernel, by decide +kernel⟩
abbrev s_law_odd : Stmt := topS 39
theorem sc_law_odd : FnScope ["_law_state", "_law_shape", "_law_holes", "_law_way", "_law_found", "_law_at", "_law_some", "_law_item", "_law_row", "_law_k"] ["_law_state", "_law_shape", "_law_holes"] (defScope s_law_odd) := ⟨rfl, rfl, rfl, by decide +kernel, rfl, by decide +kernel, by decide +kernel⟩
abbrev s_law_opened : Stmt := topS 40
theorem sc_law_opened : FnScope ["_law_state", "_law_rows", "_law_most", "_law_found", "_law_held", "_law_row", "_law_made", "_law_word_here", "_law_way"] ["_law_state", "_law_rows", "_law_most"] (defScope s_law_opened) := ⟨rfl, rfl, rfl, by decide +kernel, rfl, by decide +kernel, by decide +kernel⟩
abbrev s_law_copyg : Stmt := topS 41
theorem sc_law_copyg : FnScope ["_law_rows", "_law_row"] ["_law_rows"] (defScope s_law_copyg) := ⟨rfl, rfl, rfl, by decide +kernel, rfl, by decide +kernel, by decide +kernel⟩
abbrev s_law_asked : Stmt := topS 42
theorem sc_law_asked : FnScope ["_law_lines", "_law_shape", "_law_found", "e", "_law_some"] ["_law_lines", "_law_shape"] (defScope s_law_asked) := ⟨rfl, rfl, rfl, by decide +kernel, rfl, by decide +kernel, by decide +kernel⟩
abbrev s_law : Stmt := topS 43
theorem sc_law : FnScope ["_law_script", "_law_state", "_law_way", "_law_pool_here", "_law_many", "_law_shape", "_law_holes", "_law_lines", "_law_odd_here", "_law_handed", "_law_found", "_law_due", "_law_at"] ["_law_script"] (defScope s_law) := ⟨rfl, rfl, rfl, by decide +kernel, rfl, by decide +kernel, by decide +kernel⟩
theorem g_0_form_stretch_fitting_ok : GOk (@g_0_form_stretch_fitting) := gP_ok
set_option maxHeartbeats 0
set_option synthInstance.maxHeartbeats 0
structure Txt (K : PySem.W.Frag) (mg : Str → Option Value) (cn : String → Addr) where
  f_is_plain : Addr
  fd_is_plain : FuncData
  F_is_plain : Fun K "is_plain" "is_plain" s_is_plain f_is_plain fd_is_plain
  m_is_plain : mg "is_plain" = some (.ref f_is_plain)
  b_is_plain : Binds K fd_is_plain ["thing"] []
  f_sort_of : Addr
  fd_sort_of : FuncData
  F_sort_of : Fun K "sort_of" "sort_of" s_sort_of f_sort_of fd_sort_of
  m_sort_of : mg "sort_of" = some (.ref f_sort_of)
  b_sort_of : Binds K fd_sort_of ["sign"] []
  f_end_of : Addr
  fd_end_of : FuncData
  F_end_of : Fun K "end_of" "end_of" s_end_of f_end_of fd_end_of
  m_end_of : mg "end_of" = some (.ref f_end_of)
  b_end_of : Binds K fd_end_of ["text", "at"] []
  f_parts_of : Addr
  fd_parts_of : FuncData
  F_parts_of : Fun K "parts_of" "parts_of" s_parts_of f_parts_of fd_parts_of
  m_parts_of : mg "parts_of" = some (.ref f_parts_of)
  b_parts_of : Binds K fd_parts_of ["text"] []
  f_is_word : Addr
  fd_is_word : FuncData
  F_is_word : Fun K "is_word" "is_word" s_is_word f_is_word fd_is_word
  m_is_word : mg "is_word" = some (.ref f_is_word)
  b_is_word : Binds K fd_is_word ["thing"] []
  f_is_hole : Addr
  fd_is_hole : FuncData
  F_is_hole : Fun K "is_hole" "is_hole" s_is_hole f_is_hole fd_is_hole
  m_is_hole : mg "is_hole" = some (.ref f_is_hole)
  b_is_hole : Binds K fd_is_hole ["item"] []
  f_is_tablex : Addr
  fd_is_tablex : FuncData
  F_is_tablex : Fun K "is_table" "is_table" s_is_tablex f_is_tablex fd_is_tablex
  m_is_tablex : mg "is_table" = some (.ref f_is_tablex)
  b_is_tablex : Binds K fd_is_tablex ["thing"] []
  f_items_ofx : Addr
  fd_items_ofx : FuncData
  F_items_ofx : Fun K "items_of" "items_of" s_items_ofx f_items_ofx fd_items_ofx
  m_items_ofx : mg "items_of" = some (.ref f_items_ofx)
  b_items_ofx : Binds K fd_items_ofx ["rows"] []
  f_is_formx : Addr
  fd_is_formx : FuncData
  F_is_formx : Fun K "is_form" "is_form" s_is_formx f_is_formx fd_is_formx
  m_is_formx : mg "is_form" = some (.ref f_is_formx)
  b_is_formx : Binds K fd_is_formx ["thing"] []
  f_need_formx : Addr
  fd_need_formx : FuncData
  F_need_formx : Fun K "need_form" "need_form" s_need_formx f_need_formx fd_need_formx
  m_need_formx : mg "need_form" = some (.ref f_need_formx)
  b_need_formx : Binds K fd_need_formx ["thing"] []
  f_shape_of : Addr
  fd_shape_of : FuncData
  F_shape_of : Fun K "shape_of" "shape_of" s_shape_of f_shape_of fd_shape_of
  m_shape_of : mg "shape_of" = some (.ref f_shape_of)
  b_shape_of : Binds K fd_shape_of ["rows"] []
  f_led_by : Addr
  fd_led_by : FuncData
  F_led_by : Fun K "led_by" "led_by" s_led_by f_led_by fd_led_by
  m_led_by : mg "led_by" = some (.ref f_led_by)
  b_led_by : Binds K fd_led_by ["items", "others"] []
  f_is_fit : Addr
  fd_is_fit : FuncData
  F_is_fit : Fun K "is_fit" "is_fit" s_is_fit f_is_fit fd_is_fit
  m_is_fit : mg "is_fit" = some (.ref f_is_fit)
  b_is_fit : Binds K fd_is_fit ["part", "form"] []
  f_fitting : Addr
  fd_fitting : FuncData
  F_fitting : Fun K "fitting" "fitting" s_fitting f_fitting fd_fitting
  m_fitting : mg "fitting" = some (.ref f_fitting)
  b_fitting : Binds K fd_fitting ["stretch", "form"] []
  f_law_begunx : Addr
  fd_law_begunx : FuncData
  F_law_begunx : Fun K "_law_begun" "_law_begun" s_law_begunx f_law_begunx fd_law_begunx
  m_law_begunx : mg "_law_begun" = some (.ref f_law_begunx)
  b_law_begunx : Binds K fd_law_begunx ["_law_script"] []
  f_law_takex : Addr
  fd_law_takex : FuncData
  F_law_takex : Fun K "_law_take" "_law_take" s_law_takex f_law_takex fd_law_takex
  m_law_takex : mg "_law_take" = some (.ref f_law_takex)
  b_law_takex : Binds K fd_law_takex ["_law_state", "_law_many"] []
  f_law_kept : Addr
  fd_law_kept : FuncData
  F_law_kept : Fun K "_law_kept" "_law_kept" s_law_kept f_law_kept fd_law_kept
  m_law_kept : mg "_law_kept" = some (.ref f_law_kept)
  b_law_kept : Binds K fd_law_kept [] []
  f_law_wordg : Addr
  fd_law_wordg : FuncData
  F_law_wordg : Fun K "_law_word" "_law_word" s_law_wordg f_law_wordg fd_law_wordg
  m_law_wordg : mg "_law_word" = some (.ref f_law_wordg)
  b_law_wordg : Binds K fd_law_wordg ["_law_state"] []
  f_law_poolg : Addr
  fd_law_poolg : FuncData
  F_law_poolg : Fun K "_law_pool" "_law_pool" s_law_poolg f_law_poolg fd_law_poolg
  m_law_poolg : mg "_law_pool" = some (.ref f_law_poolg)
  b_law_poolg : Binds K fd_law_poolg ["_law_state"] []
  f_law_words : Addr
  fd_law_words : FuncData
  F_law_words : Fun K "_law_words" "_law_words" s_law_words f_law_words fd_law_words
  m_law_words : mg "_law_words" = some (.ref f_law_words)
  b_law_words : Binds K fd_law_words ["_law_state", "_law_pool_here", "_law_many"] []
  f_law_form : Addr
  fd_law_form : FuncData
  F_law_form : Fun K "_law_form" "_law_form" s_law_form f_law_form fd_law_form
  m_law_form : mg "_law_form" = some (.ref f_law_form)
  b_law_form : Binds K fd_law_form ["_law_state", "_law_pool_here", "_law_many"] []
  f_law_putg : Addr
  fd_law_putg : FuncData
  F_law_putg : Fun K "_law_put" "_law_put" s_law_putg f_law_putg fd_law_putg
  m_law_putg : mg "_law_put" = some (.ref f_law_putg)
  b_law_putg : Binds K fd_law_putg ["_law_shape", "_law_items"] []
  f_law_spoiltg : Addr
  fd_law_spoiltg : FuncData
  F_law_spoiltg : Fun K "_law_spoilt" "_law_spoilt" s_law_spoiltg f_law_spoiltg fd_law_spoiltg
  m_law_spoiltg : mg "_law_spoilt" = some (.ref f_law_spoiltg)
  b_law_spoiltg : Binds K fd_law_spoiltg ["_law_state", "_law_rows", "_law_pool_here"] []
  f_law_stretchg : Addr
  fd_law_stretchg : FuncData
  F_law_stretchg : Fun K "_law_stretch" "_law_stretch" s_law_stretchg f_law_stretchg fd_law_stretchg
  m_law_stretchg : mg "_law_stretch" = some (.ref f_law_stretchg)
  b_law_stretchg : Binds K fd_law_stretchg ["_law_state", "_law_pool_here", "_law_shape", "_law_holes"] []
  f_law_filling : Addr
  fd_law_filling : FuncData
  F_law_filling : Fun K "_law_filling" "_law_filling" s_law_filling f_law_filling fd_law_filling
  m_law_filling : mg "_law_filling" = some (.ref f_law_filling)
  b_law_filling : Binds K fd_law_filling ["_law_shape", "_law_part"] []
  f_law_odd : Addr
  fd_law_odd : FuncData
  F_law_odd : Fun K "_law_odd" "_law_odd" s_law_odd f_law_odd fd_law_odd
  m_law_odd : mg "_law_odd" = some (.ref f_law_odd)
  b_law_odd : Binds K fd_law_odd ["_law_state", "_law_shape", "_law_holes"] []
  f_law_opened : Addr
  fd_law_opened : FuncData
  F_law_opened : Fun K "_law_opened" "_law_opened" s_law_opened f_law_opened fd_law_opened
  m_law_opened : mg "_law_opened" = some (.ref f_law_opened)
  b_law_opened : Binds K fd_law_opened ["_law_state", "_law_rows", "_law_most"] []
  f_law_copyg : Addr
  fd_law_copyg : FuncData
  F_law_copyg : Fun K "_law_copy" "_law_copy" s_law_copyg f_law_copyg fd_law_copyg
  m_law_copyg : mg "_law_copy" = some (.ref f_law_copyg)
  b_law_copyg : Binds K fd_law_copyg ["_law_rows"] []
  f_law_asked : Addr
  fd_law_asked : FuncData
  F_law_asked : Fun K "_law_asked" "_law_asked" s_law_asked f_law_asked fd_law_asked
  m_law_asked : mg "_law_asked" = some (.ref f_law_asked)
  b_law_asked : Binds K fd_law_asked ["_law_lines", "_law_shape"] []
  f_law : Addr
  fd_law : FuncData
  F_law : Fun K "law" "law" s_law f_law fd_law
  m_law : mg "law" = some (.ref f_law)
  b_law : Binds K fd_law ["_law_script"] []
  g_0_form_stretch_fitting : KBinds K fd_fitting ["stretch", "form"] ["form", "stretch"] (fun us ws => g_0_form_stretch_fitting us ws) (fun us ws => g_0_form_stretch_fitting us ws)
  n_ValueError : mg "ValueError" = none
  n_all : mg "all" = none
  n_any : mg "any" = none
  n_bool : mg "bool" = none
  n_int : mg "int" = none
  n_isinstance : mg "isinstance" = none
  n_len : mg "len" = none
  n_list : mg "list" = none
  n_max : mg "max" = none
  n_range : mg "range" = none
  n_str : mg "str" = none
  n_zip : mg "zip" = none
  t_LONGEST : Nat
  k_LONGEST : mg "LONGEST" = some (.int 20 t_LONGEST)
  t_MOST_ITEMS : Nat
  k_MOST_ITEMS : mg "MOST_ITEMS" = some (.int 30 t_MOST_ITEMS)
  t_MOST_ROWS : Nat
  k_MOST_ROWS : mg "MOST_ROWS" = some (.int 60 t_MOST_ROWS)
  C_BadForm : Addr
  c_BadForm : cn "BadForm" = C_BadForm
  g_BadForm : mg "BadForm" = some (.ref C_BadForm)
  kc_BadForm : PySem.W.keepIn K (.ref C_BadForm) = true
  sb_BadForm : PySem.W.subIn K (.ref C_BadForm) (.type "BaseException") = some true
  ty_BadForm : PySem.W.typeIn K (.ref C_BadForm) = some (.type "type")
  C_KinError : Addr
  c_KinError : cn "KinError" = C_KinError
  g_KinError : mg "KinError" = some (.ref C_KinError)
  kc_KinError : PySem.W.keepIn K (.ref C_KinError) = true
  sb_KinError : PySem.W.subIn K (.ref C_KinError) (.type "BaseException") = some true
  ty_KinError : PySem.W.typeIn K (.ref C_KinError) = some (.type "type")
  C_NoRows : Addr
  c_NoRows : cn "NoRows" = C_NoRows
  g_NoRows : mg "NoRows" = some (.ref C_NoRows)
  kc_NoRows : PySem.W.keepIn K (.ref C_NoRows) = true
  sb_NoRows : PySem.W.subIn K (.ref C_NoRows) (.type "BaseException") = some true
  ty_NoRows : PySem.W.typeIn K (.ref C_NoRows) = some (.type "type")
  x_BadForm : PySem.W.excIn K C_BadForm [.type "ValueError", .type "Exception", .type "BaseException", .type "object"] "ValueError.__new__" = true
  x_KinError : PySem.W.excIn K C_KinError [.type "ValueError", .type "Exception", .type "BaseException", .type "object"] "ValueError.__new__" = true
  x_NoRows : PySem.W.excIn K C_NoRows [.type "ValueError", .type "Exception", .type "BaseException", .type "object"] "ValueError.__new__" = true
  e_BadForm_KinError : PySem.W.exmOne K (.ref C_BadForm) (.ref C_KinError) = some true
  e_NoRows_KinError : PySem.W.exmOne K (.ref C_NoRows) (.ref C_KinError) = some true
  ng_BadForm : PySem.W.nsIn K mainGlobals "BadForm" = some (some (.ref C_BadForm))
  ng_NoRows : PySem.W.nsIn K mainGlobals "NoRows" = some (some (.ref C_NoRows))
  xd_BadForm : ExcD K C_BadForm
  xd_NoRows : ExcD K C_NoRows
  C_BadFilling : Addr
  g_BadFilling : mg "BadFilling" = some (.ref C_BadFilling)
  C_NoFit : Addr
  g_NoFit : mg "NoFit" = some (.ref C_NoFit)
  C_Shape : Addr
  g_Shape : mg "Shape" = some (.ref C_Shape)
  kq_BadFilling : PySem.W.kitOne K (.type "NoneType") (.ref C_BadFilling) = some false ∧ PySem.W.kitOne K (.ref C_BadForm) (.ref C_BadFilling) = some false ∧ PySem.W.kitOne K (.ref C_NoRows) (.ref C_BadFilling) = some false
  kq_BadForm : PySem.W.kitOne K (.type "NoneType") (.ref C_BadForm) = some false ∧ PySem.W.kitOne K (.ref C_BadForm) (.ref C_BadForm) = some true ∧ PySem.W.kitOne K (.ref C_NoRows) (.ref C_BadForm) = some false
  kq_NoFit : PySem.W.kitOne K (.type "NoneType") (.ref C_NoFit) = some false ∧ PySem.W.kitOne K (.ref C_BadForm) (.ref C_NoFit) = some false ∧ PySem.W.kitOne K (.ref C_NoRows) (.ref C_NoFit) = some false
  kq_NoRows : PySem.W.kitOne K (.type "NoneType") (.ref C_NoRows) = some false ∧ PySem.W.kitOne K (.ref C_BadForm) (.ref C_NoRows) = some false ∧ PySem.W.kitOne K (.ref C_NoRows) (.ref C_NoRows) = some true
  kq_Shape : PySem.W.kitOne K (.type "NoneType") (.ref C_Shape) = some false ∧ PySem.W.kitOne K (.ref C_BadForm) (.ref C_Shape) = some false ∧ PySem.W.kitOne K (.ref C_NoRows) (.ref C_Shape) = some false
  kq_ValueError : PySem.W.kitOne K (.type "NoneType") (.type "ValueError") = some false ∧ PySem.W.kitOne K (.ref C_BadForm) (.type "ValueError") = some true ∧ PySem.W.kitOne K (.ref C_NoRows) (.type "ValueError") = some true
section
variable {P : Program} {w : World} {K : PySem.W.Frag} {mg : Str → Option Value} {base : Heap} {cn : String → Addr}
theorem ok_is_plain (T : Txt K mg cn)  : FnD P w K mg base cn 1 T.f_is_plain T.fd_is_plain ["thing"] S_is_plain := by
  refine def_mk T.F_is_plain sc_is_plain (by decide) len_is_plain sem_is_plain rfl fun cdv A outer s H E hr => ?_
  have hu65 := hu65_of hr
  have hu1 := hu_of hr
  have tks := takes_of (X := cxOf (L2.CX P w) P w K mg base ["thing", "sign"] "is_plain" (defScope s_is_plain) T.f_is_plain cdv A outer s H E) rfl rfl rfl rfl
  exact (jss_one (js_ret (je_and (je_cb s_isi (pe_callB call_isi (by rfl) T.n_isinstance (by decide +kernel) (ja_cons (je_v (lt_of rfl) (pv 0)) (ja_cons (je_c (pe_bltn (v := .ty "str") (by rfl) T.n_str (by decide +kernel) rfl)) ja_nil)))) (je_one (je_cb s_all (pe_callB (cr_all rfl) (by rfl) T.n_all (by decide +kernel) (ja_cons (je_lc (pe_lc (own := [("sign", 1)]) rfl sc_is_plain.nd (ji_str (je_v (lt_of rfl) (pv 0))) (blkOk_by (N := ["thing", "sign"]) (sc := (defScope s_is_plain)) (by decide +kernel)) (fun _ _ _ _ _ => (jg_name (lt_of rfl) (pg_name (i := 1) sc_is_plain.nd rfl (by first | exact Or.inl rfl | exact Or.inr rfl)))) (fun _ _ _ _ _ => jts_nil) (fun _ _ _ _ _ => (je_chain o_le o_le s_cmp s_cmp (je_c pe_str) (je_v (lt_of rfl) (pv 1)) (je_c pe_str))))) ja_nil)))))))
theorem ok_sort_of (T : Txt K mg cn)  : FnD P w K mg base cn 1 T.f_sort_of T.fd_sort_of ["sign"] S_sort_of := by
  refine def_mk T.F_sort_of sc_sort_of (by decide) len_sort_of sem_sort_of rfl fun cdv A outer s H E hr => ?_
  have hu65 := hu65_of hr
  have hu1 := hu_of hr
  have tks := takes_of (X := cxOf (L2.CX P w) P w K mg base ["sign"] "sort_of" (defScope s_sort_of) T.f_sort_of cdv A outer s H E) rfl rfl rfl rfl
  exact (jss_cons (js_if (jt_cmp (o_eq hu65) s_eq (je_v (lt_of rfl) (pv 0)) (je_c pe_str) (nomark _)) (jss_one (js_ret (je_c pe_str))) jss_nil)
    (jss_cons (js_if (jt_val (je_m0 PySem.F.slot_str_isdigit PySem.F.type_str_isdigit mt_isdigit (je_v (lt_of rfl) (pv 0)))) (jss_one (js_ret (je_c pe_str))) jss_nil)
    (jss_cons (js_if (jw_t (jw_or (jt_val (je_m0 PySem.F.slot_str_isalpha PySem.F.type_str_isalpha mt_isalpha (je_v (lt_of rfl) (pv 0)))) (jw_or1 (jt_cmp (o_eq hu65) s_eq (je_v (lt_of rfl) (pv 0)) (je_c pe_str) (nomark _))))) (jss_one (js_ret (je_c pe_str))) jss_nil)
    (jss_one (js_ret (je_c pe_str))))))
theorem ok_end_of (T : Txt K mg cn) (G_sort_of : FnD P w K mg base cn 1 T.f_sort_of T.fd_sort_of ["sign"] S_sort_of) : FnD P w K mg base cn 2 T.f_end_of T.fd_end_of ["text", "at"] S_end_of := by
  refine def_mk T.F_end_of sc_end_of (by decide) len_end_of sem_end_of rfl fun cdv A outer s H E hr => ?_
  have hu65 := hu65_of hr
  have hu1 := hu_of hr
  have tks := takes_of (X := cxOf (L2.CX P w) P w K mg base ["text", "at", "sort", "end"] "end_of" (defScope s_end_of) T.f_end_of cdv A outer s H E) rfl rfl rfl rfl
  exact (jss_cons (js_set (i := 2) (lt_of rfl) (ps_set sc_end_of.nd rfl (by first | exact Or.inl rfl | exact Or.inr rfl) (je_callN (ms := [false]) (G_sort_of.mono (by decide)) hr (by rfl) T.m_sort_of T.F_sort_of.kp T.b_sort_of tks (ja_cons (je_ixS hu1 (je_v (lt_of rfl) (pv 0)) (je_v (lt_of rfl) (pv 1)) (fun _ _ => rfl)) ja_nil))))
    (jss_cons (js_set (i := 3) (lt_of rfl) (ps_set sc_end_of.nd rfl (by first | exact Or.inl rfl | exact Or.inr rfl) (je_op o_add s_add (je_v (lt_of rfl) (pv 1)) (je_c pe_int))))
    (jss_cons (js_if (jt_cmp (o_eq hu65) s_eq (je_v (lt_of rfl) (pv 2)) (je_c pe_str) (nomark _)) (jss_one (js_while (passes_of rfl) (jw_t (jw_and (jt_cmp o_lt s_cmp (je_v (lt_of rfl) (pv 3)) (je_cb s_len (pe_callB o_len (by rfl) T.n_len boot_len (ja_cons (je_v (lt_of rfl) (pv 0)) ja_nil))) (nomark _)) (jw_and1 (jt_cmp (o_in hu65) s_inS (je_callN (ms := [false]) (G_sort_of.mono (by decide)) hr (by rfl) T.m_sort_of T.F_sort_of.kp T.b_sort_of tks (ja_cons (je_ixS hu1 (je_v (lt_of rfl) (pv 0)) (je_v (lt_of rfl) (pv 3)) (fun _ _ => rfl)) ja_nil)) (je_tup (ja_cons (je_c pe_str) (ja_cons (je_c pe_str) ja_nil))) (by rfl))))) (jss_one (js_augI (lt_of rfl) (ps_aug (i := 3) sc_end_of.nd rfl (by first | exact Or.inl rfl | exact Or.inr rfl) (je_c pe_int) ip_add))))) (jss_one (js_if (jt_cmp (o_eq hu65) s_eq (je_v (lt_of rfl) (pv 2)) (je_c pe_str) (nomark _)) (jss_one (js_while (passes_of rfl) (jw_t (jw_and (jt_cmp o_lt s_cmp (je_v (lt_of rfl) (pv 3)) (je_cb s_len (pe_callB o_len (by rfl) T.n_len boot_len (ja_cons (je_v (lt_of rfl) (pv 0)) ja_nil))) (nomark _)) (jw_and1 (jt_cmp (o_eq hu65) s_eq (je_callN (ms := [false]) (G_sort_of.mono (by decide)) hr (by rfl) T.m_sort_of T.F_sort_of.kp T.b_sort_of tks (ja_cons (je_ixS hu1 (je_v (lt_of rfl) (pv 0)) (je_v (lt_of rfl) (pv 3)) (fun _ _ => rfl)) ja_nil)) (je_c pe_str) (nomark _))))) (jss_one (js_augI (lt_of rfl) (ps_aug (i := 3) sc_end_of.nd rfl (by first | exact Or.inl rfl | exact Or.inr rfl) (je_c pe_int) ip_add))))) jss_nil)))
    (jss_one (js_ret (je_mv (lt_of rfl) (pv 3)))))))
theorem ok_parts_of (T : Txt K mg cn) (G_end_of : FnD P w K mg base cn 2 T.f_end_of T.fd_end_of ["text", "at"] S_end_of) : FnD P w K mg base cn 3 T.f_parts_of T.fd_parts_of ["text"] S_parts_of := by
  refine def_mk T.F_parts_of sc_parts_of (by decide) len_parts_of sem_parts_of rfl fun cdv A outer s H E hr => ?_
  have hu65 := hu65_of hr
  have hu1 := hu_of hr
  have tks := takes_of (X := cxOf (L2.CX P w) P w K mg base ["text", "found", "at", "end"] "parts_of" (defScope s_parts_of) T.f_parts_of cdv A outer s H E) rfl rfl rfl rfl
  exact (jss_cons (js_set (i := 1) (lt_of rfl) (ps_set sc_parts_of.nd rfl (by first | exact Or.inl rfl | exact Or.inr rfl) (je_lst ja_nil)))
    (jss_cons (js_set (i := 2) (lt_of rfl) (ps_set sc_parts_of.nd rfl (by first | exact Or.inl rfl | exact Or.inr rfl) (je_c pe_int)))
    (jss_cons (js_while (passes_of rfl) (jt_cmp o_lt s_cmp (je_v (lt_of rfl) (pv 2)) (je_cb s_len (pe_callB o_len (by rfl) T.n_len boot_len (ja_cons (je_v (lt_of rfl) (pv 0)) ja_nil))) (nomark _)) (jss_cons (js_set (i := 3) (lt_of rfl) (ps_set sc_parts_of.nd rfl (by first | exact Or.inl rfl | exact Or.inr rfl) (je_callN (ms := [false, false]) (G_end_of.mono (by decide)) hr (by rfl) T.m_end_of T.F_end_of.kp T.b_end_of tks (ja_cons (je_v (lt_of rfl) (pv 0)) (ja_cons (je_v (lt_of rfl) (pv 2)) ja_nil)))))
    (jss_cons (js_if (jt_cmp (o_ne hu65) s_ne (je_ixS hu1 (je_v (lt_of rfl) (pv 0)) (je_v (lt_of rfl) (pv 2)) (fun _ _ => rfl)) (je_c pe_str) (nomark _)) (jss_one (js_expr (je_mut m_append (lt_of rfl) (pe_bm PySem.F.plainAttrs_list PySem.F.slot_list_append PySem.F.type_list_append mt_append (pv 1) (ja_cons (je_cut (je_v (lt_of rfl) (pv 0)) (jo_some (je_v (lt_of rfl) (pv 2))) (jo_some (je_v (lt_of rfl) (pv 3)))) ja_nil))))) jss_nil)
    (jss_one (js_set (i := 2) (lt_of rfl) (ps_set sc_parts_of.nd rfl (by first | exact Or.inl rfl | exact Or.inr rfl) (je_v (lt_of rfl) (pv 3))))))))
    (jss_one (js_ret (je_mv (lt_of rfl) (pv 1)))))))
theorem ok_is_word (T : Txt K mg cn) (G_is_plain : FnD P w K mg base cn 1 T.f_is_plain T.fd_is_plain ["thing"] S_is_plain) (G_parts_of : FnD P w K mg base cn 3 T.f_parts_of T.fd_parts_of ["text"] S_parts_of) : FnD P w K mg base cn 4 T.f_is_word T.fd_is_word ["thing"] S_is_word := by
  refine def_mk T.F_is_word sc_is_word (by decide) len_is_word sem_is_word rfl fun cdv A outer s H E hr => ?_
  have hu65 := hu65_of hr
  have hu1 := hu_of hr
  have tks := takes_of (X := cxOf (L2.CX P w) P w K mg base ["thing"] "is_word" (defScope s_is_word) T.f_is_word cdv A outer s H E) rfl rfl rfl rfl
  exact (jss_one (js_ret (je_and (je_callN (ms := [false]) (G_is_plain.mono (by decide)) hr (by rfl) T.m_is_plain T.F_is_plain.kp T.b_is_plain tks (ja_cons (je_v (lt_of rfl) (pv 0)) ja_nil)) (je_and (je_cmp o_le s_cmp (je_cb s_len (pe_callB o_len (by rfl) T.n_len boot_len (ja_cons (je_v (lt_of rfl) (pv 0)) ja_nil))) (je_c (pe_glob (by rfl) T.k_LONGEST ⟨_, rfl⟩)) (nomark _)) (je_one (je_cmp (o_eq hu65) s_eq (je_callN (ms := [false]) (G_parts_of.mono (by decide)) hr (by rfl) T.m_parts_of T.F_parts_of.kp T.b_parts_of tks (ja_cons (je_v (lt_of rfl) (pv 0)) ja_nil)) (je_lst (ja_cons (je_v (lt_of rfl) (pv 0)) ja_nil)) (nomark _)))))))
theorem ok_is_hole (T : Txt K mg cn)  : FnD P w K mg base cn 1 T.f_is_hole T.fd_is_hole ["item"] S_is_hole := by
  refine def_mk T.F_is_hole sc_is_hole (by decide) len_is_hole sem_is_hole rfl fun cdv A outer s H E hr => ?_
  have hu65 := hu65_of hr
  have hu1 := hu_of hr
  have tks := takes_of (X := cxOf (L2.CX P w) P w K mg base ["item"] "is_hole" (defScope s_is_hole) T.f_is_hole cdv A outer s H E) rfl rfl rfl rfl
  exact (jss_one (js_ret (je_and (je_cb s_isi (pe_callB call_isi (by rfl) T.n_isinstance (by decide +kernel) (ja_cons (je_v (lt_of rfl) (pv 0)) (ja_cons (je_c (pe_bltn (v := .ty "int") (by rfl) T.n_int (by decide +kernel) rfl)) ja_nil)))) (je_one (je_not (je_cb s_isi (pe_callB call_isi (by rfl) T.n_isinstance (by decide +kernel) (ja_cons (je_v (lt_of rfl) (pv 0)) (ja_cons (je_c (pe_bltn (v := .ty "bool") (by rfl) T.n_bool (by decide +kernel) rfl)) ja_nil)))))))))
theorem ok_is_tablex (T : Txt K mg cn)  : FnD P w K mg base cn 1 T.f_is_tablex T.fd_is_tablex ["thing"] S_is_tablex := by
  refine def_mk T.F_is_tablex sc_is_tablex (by decide) len_is_tablex sem_is_tablex rfl fun cdv A outer s H E hr => ?_
  have hu65 := hu65_of hr
  have hu1 := hu_of hr
  have tks := takes_of (X := cxOf (L2.CX P w) P w K mg base ["thing", "row"] "is_table" (defScope s_is_tablex) T.f_is_tablex cdv A outer s H E) rfl rfl rfl rfl
  exact (jss_cons (js_if (jw_t (jw_or (jt_not (jt_val (je_cb s_isi (pe_callB call_isi (by rfl) T.n_isinstance (by decide +kernel) (ja_cons (je_v (lt_of rfl) (pv 0)) (ja_cons (je_c (pe_bltn (v := .ty "list") (by rfl) T.n_list (by decide +kernel) rfl)) ja_nil)))))) (jw_or1 (jt_cmp o_gt s_cmp (je_cb s_len (pe_callB o_len (by rfl) T.n_len boot_len (ja_cons (je_v (lt_of rfl) (pv 0)) ja_nil))) (je_c (pe_glob (by rfl) T.k_MOST_ROWS ⟨_, rfl⟩)) (nomark _))))) (jss_one (js_ret (je_c pe_bl))) jss_nil)
    (jss_one (js_ret (je_cb s_all (pe_callB (cr_all rfl) (by rfl) T.n_all (by decide +kernel) (ja_cons (je_lc (pe_lc (own := [("row", 1)]) rfl sc_is_tablex.nd (ji_seq (je_v (lt_of rfl) (pv 0))) (blkOk_by (N := ["thing", "row"]) (sc := (defScope s_is_tablex)) (by decide +kernel)) (fun _ _ _ _ _ => (jg_name (lt_of rfl) (pg_name (i := 1) sc_is_tablex.nd rfl (by first | exact Or.inl rfl | exact Or.inr rfl)))) (fun _ _ _ _ _ => jts_nil) (fun _ _ _ _ _ => (je_and (je_cb s_isi (pe_callB call_isi (by rfl) T.n_isinstance (by decide +kernel) (ja_cons (je_v (lt_of rfl) (pv 1)) (ja_cons (je_c (pe_bltn (v := .ty "list") (by rfl) T.n_list (by decide +kernel) rfl)) ja_nil)))) (je_one (je_cmp o_le s_cmp (je_cb s_len (pe_callB o_len (by rfl) T.n_len boot_len (ja_cons (je_v (lt_of rfl) (pv 1)) ja_nil))) (je_c (pe_glob (by rfl) T.k_MOST_ITEMS ⟨_, rfl⟩)) (nomark _))))))) ja_nil))))))
theorem ok_items_ofx (T : Txt K mg cn)  : FnD P w K mg base cn 1 T.f_items_ofx T.fd_items_ofx ["rows"] S_items_ofx := by
  refine def_mk T.F_items_ofx sc_items_ofx (by decide) len_items_ofx sem_items_ofx rfl fun cdv A outer s H E hr => ?_
  have hu65 := hu65_of hr
  have hu1 := hu_of hr
  have tks := takes_of (X := cxOf (L2.CX P w) P w K mg base ["rows", "found", "row"] "items_of" (defScope s_items_ofx) T.f_items_ofx cdv A outer s H E) rfl rfl rfl rfl
  exact (jss_cons (js_set (i := 1) (lt_of rfl) (ps_set sc_items_ofx.nd rfl (by first | exact Or.inl rfl | exact Or.inr rfl) (je_lst ja_nil)))
    (jss_cons (js_forW (vs := [2]) (passes_of rfl) rfl (ji_seq (je_v (lt_of rfl) (pv 0))) (jg_name (lt_of rfl) (pg_name (i := 2) sc_items_ofx.nd rfl (by first | exact Or.inl rfl | exact Or.inr rfl))) (jss_one (js_expr (je_mut m_extend (lt_of rfl) (pe_bm PySem.F.plainAttrs_list PySem.F.slot_list_extend PySem.F.type_list_extend mt_extend (pv 1) (ja_cons (je_v (lt_of rfl) (pv 2)) ja_nil))))))
    (jss_one (js_ret (je_mv (lt_of rfl) (pv 1))))))
theorem ok_is_formx (T : Txt K mg cn) (G_items_ofx : FnD P w K mg base cn 1 T.f_items_ofx T.fd_items_ofx ["rows"] S_items_ofx) (G_is_tablex : FnD P w K mg base cn 1 T.f_is_tablex T.fd_is_tablex ["thing"] S_is_tablex) (G_is_hole : FnD P w K mg base cn 1 T.f_is_hole T.fd_is_hole ["item"] S_is_hole) (G_is_word : FnD P w K mg base cn 4 T.f_is_word T.fd_is_word ["thing"] S_is_word) : FnD P w K mg base cn 5 T.f_is_formx T.fd_is_formx ["thing"] S_is_formx := by
  refine def_mk T.F_is_formx sc_is_formx (by decide) len_is_formx sem_is_formx rfl fun cdv A outer s H E hr => ?_
  have hu65 := hu65_of hr
  have hu1 := hu_of hr
  have tks := takes_of (X := cxOf (L2.CX P w) P w K mg base ["thing", "many", "item"] "is_form" (defScope s_is_formx) T.f_is_formx cdv A outer s H E) rfl rfl rfl rfl
  exact (jss_cons (js_if (jt_not (jt_val (je_callN (ms := [false]) (G_is_tablex.mono (by decide)) hr (by rfl) T.m_is_tablex T.F_is_tablex.kp T.b_is_tablex tks (ja_cons (je_v (lt_of rfl) (pv 0)) ja_nil)))) (jss_one (js_ret (je_c pe_bl))) jss_nil)
    (jss_cons (js_set (i := 1) (lt_of rfl) (ps_set sc_is_formx.nd rfl (by first | exact Or.inl rfl | exact Or.inr rfl) (je_c pe_int)))
    (jss_cons (js_forW (vs := [2]) (passes_of rfl) rfl (ji_seq (je_callN (ms := [false]) (G_items_ofx.mono (by decide)) hr (by rfl) T.m_items_ofx T.F_items_ofx.kp T.b_items_ofx tks (ja_cons (je_v (lt_of rfl) (pv 0)) ja_nil))) (jg_name (lt_of rfl) (pg_name (i := 2) sc_is_formx.nd rfl (by first | exact Or.inl rfl | exact Or.inr rfl))) (jss_one (js_if (jt_val (je_callN (ms := [false]) (G_is_hole.mono (by decide)) hr (by rfl) T.m_is_hole T.F_is_hole.kp T.b_is_hole tks (ja_cons (je_v (lt_of rfl) (pv 2)) ja_nil))) (jss_cons (js_if (jw_t (jw_or (jt_cmp o_lt s_cmp (je_v (lt_of rfl) (pv 2)) (je_c pe_int) (nomark _)) (jw_or1 (jt_cmp o_gt s_cmp (je_v (lt_of rfl) (pv 2)) (je_v (lt_of rfl) (pv 1)) (nomark _))))) (jss_one (js_ret (je_c pe_bl))) jss_nil)
    (jss_one (js_set (i := 1) (lt_of rfl) (ps_set sc_is_formx.nd rfl (by first | exact Or.inl rfl | exact Or.inr rfl) (je_cb s_max2 (pe_callB (call_max2 rfl) (by rfl) T.n_max (by decide +kernel) (ja_cons (je_v (lt_of rfl) (pv 1)) (ja_cons (je_op o_add s_add (je_v (lt_of rfl) (pv 2)) (je_c pe_int)) ja_nil)))))))) (jss_one (js_if (jt_not (jt_val (je_callN (ms := [false]) (G_is_word.mono (by decide)) hr (by rfl) T.m_is_word T.F_is_word.kp T.b_is_word tks (ja_cons (je_v (lt_of rfl) (pv 2)) ja_nil)))) (jss_one (js_ret (je_c pe_bl))) jss_nil)))))
    (jss_one (js_ret (je_c pe_bl))))))
theorem ok_need_formx (T : Txt K mg cn) (G_is_formx : FnD P w K mg base cn 5 T.f_is_formx T.fd_is_formx ["thing"] S_is_formx) : FnD P w K mg base cn 6 T.f_need_formx T.fd_need_formx ["thing"] S_need_formx := by
  refine def_mk T.F_need_formx sc_need_formx (by decide) len_need_formx sem_need_formx rfl fun cdv A outer s H E hr => ?_
  have hu65 := hu65_of hr
  have hu1 := hu_of hr
  have tks := takes_of (X := cxOf (L2.CX P w) P w K mg base ["thing"] "need_form" (defScope s_need_formx) T.f_need_formx cdv A outer s H E) rfl rfl rfl rfl
  exact (jss_one (js_if (jt_not (jt_val (je_callN (ms := [false]) (G_is_formx.mono (by decide)) hr (by rfl) T.m_is_formx T.F_is_formx.kp T.b_is_formx tks (ja_cons (je_v (lt_of rfl) (pv 0)) ja_nil)))) (jss_one (js_raise rfl tks T.c_BadForm PySem.F.excBase_ValueError T.x_BadForm T.g_BadForm T.kc_BadForm (raises_own T.sb_BadForm T.ty_BadForm) (by rfl))) jss_nil))
theorem ok_shape_of (T : Txt K mg cn)  : FnD P w K mg base cn 1 T.f_shape_of T.fd_shape_of ["rows"] S_shape_of := by
  refine def_mk T.F_shape_of sc_shape_of (by decide) len_shape_of sem_shape_of rfl fun cdv A outer s H E hr => ?_
  have hu65 := hu65_of hr
  have hu1 := hu_of hr
  have tks := takes_of (X := cxOf (L2.CX P w) P w K mg base ["rows", "row"] "shape_of" (defScope s_shape_of) T.f_shape_of cdv A outer s H E) rfl rfl rfl rfl
  exact (jss_one (js_ret (je_lc (pe_lc (own := [("row", 1)]) rfl sc_shape_of.nd (ji_seq (je_v (lt_of rfl) (pv 0))) (blkOk_by (N := ["rows", "row"]) (sc := (defScope s_shape_of)) (by decide +kernel)) (fun _ _ _ _ _ => (jg_name (lt_of rfl) (pg_name (i := 1) sc_shape_of.nd rfl (by first | exact Or.inl rfl | exact Or.inr rfl)))) (fun _ _ _ _ _ => jts_nil) (fun _ _ _ _ _ => (je_cb s_len (pe_callB o_len (by rfl) T.n_len boot_len (ja_cons (je_v (lt_of rfl) (pv 1)) ja_nil))))))))
theorem ok_led_by (T : Txt K mg cn) (G_is_hole : FnD P w K mg base cn 1 T.f_is_hole T.fd_is_hole ["item"] S_is_hole) : FnD P w K mg base cn 2 T.f_led_by T.fd_led_by ["items", "others"] S_led_by := by
  refine def_mk T.F_led_by sc_led_by (by decide) len_led_by sem_led_by rfl fun cdv A outer s H E hr => ?_
  have hu65 := hu65_of hr
  have hu1 := hu_of hr
  have tks := takes_of (X := cxOf (L2.CX P w) P w K mg base ["items", "others", "found", "item", "other", "k"] "led_by" (defScope s_led_by) T.f_led_by cdv A outer s H E) rfl rfl rfl rfl
  exact (jss_cons (js_set (i := 2) (lt_of rfl) (ps_set sc_led_by.nd rfl (by first | exact Or.inl rfl | exact Or.inr rfl) je_newD))
    (jss_cons (js_forW (vs := [3, 4]) (passes_of rfl) rfl (ji_zip (pi_zip (by rfl) T.n_zip (ja_cons (je_v (lt_of rfl) (pv 0)) (ja_cons (je_v (lt_of rfl) (pv 1)) ja_nil)))) (jg_tup (S := [3, 4]) (n := 2) rfl (jgs_cons (jg_mono (S' := [3, 4]) (jg_name (lt_of rfl) (pg_name (i := 3) sc_led_by.nd rfl (by first | exact Or.inl rfl | exact Or.inr rfl))) (by decide)) (jgs_cons (jg_mono (S' := [3, 4]) (jg_name (lt_of rfl) (pg_name (i := 4) sc_led_by.nd rfl (by first | exact Or.inl rfl | exact Or.inr rfl))) (by decide)) jgs_nil))) (jss_one (js_if (jt_val (je_callN (ms := [false]) (G_is_hole.mono (by decide)) hr (by rfl) T.m_is_hole T.F_is_hole.kp T.b_is_hole tks (ja_cons (je_v (lt_of rfl) (pv 3)) ja_nil))) (jss_one (js_if (jt_cmp (o_ne hu65) s_ne (je_setd (lt_of rfl) (pv 2) (je_v (lt_of rfl) (pv 3)) (je_v (lt_of rfl) (pv 4)) ⟨rfl, rfl, rfl, rfl⟩) (je_v (lt_of rfl) (pv 4)) (nomark _)) (jss_one (js_ret (je_c pe_non))) jss_nil)) (jss_one (js_if (jt_cmp (o_ne hu65) s_ne (je_v (lt_of rfl) (pv 3)) (je_v (lt_of rfl) (pv 4)) (nomark _)) (jss_one (js_ret (je_c pe_non))) jss_nil)))))
    (jss_one (js_ret (je_lc (pe_lc (own := [("k", 5)]) rfl sc_led_by.nd (ji_rng1 (pi_range1 (by rfl) T.n_range (ja_cons (je_cb s_len (pe_callB o_len (by rfl) T.n_len boot_len (ja_cons (je_v (lt_of rfl) (pv 2)) ja_nil))) ja_nil))) (blkOk_by (N := ["items", "others", "found", "item", "other", "k"]) (sc := (defScope s_led_by)) (by decide +kernel)) (fun _ _ _ _ _ => (jg_name (lt_of rfl) (pg_name (i := 5) sc_led_by.nd rfl (by first | exact Or.inl rfl | exact Or.inr rfl)))) (fun _ _ _ _ _ => jts_nil) (fun _ _ _ _ _ => (je_ixS hu1 (je_v (lt_of rfl) (pv 2)) (je_v (lt_of rfl) (pv 5)) (fun _ _ => rfl)))))))))
theorem ok_is_fit (T : Txt K mg cn) (G_shape_of : FnD P w K mg base cn 1 T.f_shape_of T.fd_shape_of ["rows"] S_shape_of) (G_led_by : FnD P w K mg base cn 2 T.f_led_by T.fd_led_by ["items", "others"] S_led_by) (G_items_ofx : FnD P w K mg base cn 1 T.f_items_ofx T.fd_items_ofx ["rows"] S_items_ofx) : FnD P w K mg base cn 3 T.f_is_fit T.fd_is_fit ["part", "form"] S_is_fit := by
  refine def_mk T.F_is_fit sc_is_fit (by decide) len_is_fit sem_is_fit rfl fun cdv A outer s H E hr => ?_
  have hu65 := hu65_of hr
  have hu1 := hu_of hr
  have tks := takes_of (X := cxOf (L2.CX P w) P w K mg base ["part", "form"] "is_fit" (defScope s_is_fit) T.f_is_fit cdv A outer s H E) rfl rfl rfl rfl
  exact (jss_one (js_ret (je_and (je_cmp (o_eq hu65) s_eq (je_callN (ms := [false]) (G_shape_of.mono (by decide)) hr (by rfl) T.m_shape_of T.F_shape_of.kp T.b_shape_of tks (ja_cons (je_v (lt_of rfl) (pv 0)) ja_nil)) (je_callN (ms := [false]) (G_shape_of.mono (by decide)) hr (by rfl) T.m_shape_of T.F_shape_of.kp T.b_shape_of tks (ja_cons (je_v (lt_of rfl) (pv 1)) ja_nil)) (nomark _)) (je_one (je_cmp op_notN s_notN (je_callN (ms := [false, false]) (G_led_by.mono (by decide)) hr (by rfl) T.m_led_by T.F_led_by.kp T.b_led_by tks (ja_cons (je_callN (ms := [false]) (G_items_ofx.mono (by decide)) hr (by rfl) T.m_items_ofx T.F_items_ofx.kp T.b_items_ofx tks (ja_cons (je_v (lt_of rfl) (pv 1)) ja_nil)) (ja_cons (je_callN (ms := [false]) (G_items_ofx.mono (by decide)) hr (by rfl) T.m_items_ofx T.F_items_ofx.kp T.b_items_ofx tks (ja_cons (je_v (lt_of rfl) (pv 0)) ja_nil)) ja_nil))) (je_c pe_non) (nomark _))))))
theorem ok_fitting (T : Txt K mg cn) (G_need_formx : FnD P w K mg base cn 6 T.f_need_formx T.fd_need_formx ["thing"] S_need_formx) (G_is_fit : FnD P w K mg base cn 3 T.f_is_fit T.fd_is_fit ["part", "form"] S_is_fit) : FnD P w K mg base cn 7 T.f_fitting T.fd_fitting ["stretch", "form"] S_fitting := by
  refine def_mk T.F_fitting sc_fitting (by decide) len_fitting sem_fitting rfl fun cdv A outer s H E hr => ?_
  have hu65 := hu65_of hr
  have hu1 := hu_of hr
  have tks := takes_of (X := cxOf (L2.CX P w) P w K mg base ["stretch", "form", "last", "at"] "fitting" (defScope s_fitting) T.f_fitting cdv A outer s H E) rfl rfl rfl rfl
  exact (jss_cons (js_expr (je_callN (ms := [false]) (G_need_formx.mono (by decide)) hr (by rfl) T.m_need_formx T.F_need_formx.kp T.b_need_formx tks (ja_cons (je_v (lt_of rfl) (pv 1)) ja_nil)))
    (jss_cons (js_if (jt_cmp (o_eq hu65) s_eq (je_cb s_len (pe_callB o_len (by rfl) T.n_len boot_len (ja_cons (je_v (lt_of rfl) (pv 1)) ja_nil))) (je_c pe_int) (nomark _)) (jss_one (js_raise rfl tks T.c_NoRows PySem.F.excBase_ValueError T.x_NoRows T.g_NoRows T.kc_NoRows (raises_own T.sb_NoRows T.ty_NoRows) (by rfl))) jss_nil)
    (jss_cons (js_set (i := 2) (lt_of rfl) (ps_set sc_fitting.nd rfl (by first | exact Or.inl rfl | exact Or.inr rfl) (je_op op_sub s_I0 (je_cb s_len (pe_callB o_len (by rfl) T.n_len boot_len (ja_cons (je_v (lt_of rfl) (pv 0)) ja_nil))) (je_cb s_len (pe_callB o_len (by rfl) T.n_len boot_len (ja_cons (je_v (lt_of rfl) (pv 1)) ja_nil))))))
    (jss_one (js_ret (je_lc (pe_lc (own := [("at", 3)]) rfl sc_fitting.nd (ji_rng1 (pi_range1 (by rfl) T.n_range (ja_cons (je_op o_add s_add (je_v (lt_of rfl) (pv 2)) (je_c pe_int)) ja_nil))) (blkOk_by (N := ["stretch", "form", "last", "at"]) (sc := (defScope s_fitting)) (by decide +kernel)) (fun _ _ _ _ _ => (jg_name (lt_of rfl) (pg_name (i := 3) sc_fitting.nd rfl (by first | exact Or.inl rfl | exact Or.inr rfl)))) (fun _ _ _ _ _ => (jts_one (jt_val (je_callN (ms := [false, false]) (G_is_fit.mono (by decide)) hr (by rfl) T.m_is_fit T.F_is_fit.kp T.b_is_fit takes0 (ja_cons (je_cut (je_v (lt_of rfl) (pv 0)) (jo_some (je_v (lt_of rfl) (pv 3))) (jo_some (je_op o_add s_add (je_v (lt_of rfl) (pv 3)) (je_cb s_len (pe_callB o_len (by rfl) T.n_len boot_len (ja_cons (je_v (lt_of rfl) (pv 1)) ja_nil)))))) (ja_cons (je_v (lt_of rfl) (pv 1)) ja_nil)))))) (fun _ _ _ _ _ => (je_v (lt_of rfl) (pv 3))))))))))
theorem ok_law_begunx (T : Txt K mg cn)  : FnD P w K mg base cn 1 T.f_law_begunx T.fd_law_begunx ["_law_script"] S_law_begunx := by
  refine def_mk T.F_law_begunx sc_law_begunx (by decide) len_law_begunx sem_law_begunx rfl fun cdv A outer s H E hr => ?_
  have hu65 := hu65_of hr
  have hu1 := hu_of hr
  have tks := takes_of (X := cxOf (L2.CX P w) P w K mg base ["_law_script"] "_law_begun" (defScope s_law_begunx) T.f_law_begunx cdv A outer s H E) rfl rfl rfl rfl
  exact (jss_one (js_ret (je_disp [("cells", (dVar 0)), ("at", (dC (.int 0))), ("rest", (dC (.int 0))), ("turn", (dC (.int 0))), ("more", (dC (.int 23)))] (pps_cons pe_str (je_v (lt_of rfl) (pv 0)) (pps_cons pe_str (je_c pe_int) (pps_cons pe_str (je_c pe_int) (pps_cons pe_str (je_c pe_int) (pps_cons pe_str (je_c pe_int) pps_nil))))) rfl rfl (by simp) (by decide))))
theorem ok_law_takex (T : Txt K mg cn)  : FnD P w K mg base cn 1 T.f_law_takex T.fd_law_takex ["_law_state", "_law_many"] S_law_takex := by
  refine def_mk T.F_law_takex sc_law_takex (by decide) len_law_takex sem_law_takex rfl fun cdv A outer s H E hr => ?_
  have hu65 := hu65_of hr
  have hu1 := hu_of hr
  have tks := takes_of (X := cxOf (L2.CX P w) P w K mg base ["_law_state", "_law_many", "_law_cells", "_law_found", "_law_cell"] "_law_take" (defScope s_law_takex) T.f_law_takex cdv A outer s H E) rfl rfl rfl rfl
  exact (jss_cons (js_set (i := 2) (lt_of rfl) (ps_set sc_law_takex.nd rfl (by first | exact Or.inl rfl | exact Or.inr rfl) (je_ixS hu1 (je_v (lt_of rfl) (pv 0)) (je_c pe_str) (fun _ _ => rfl))))
    (jss_cons (js_whileW (vs := [3, 4]) (passes_of rfl) (jw_t (jw_and (jt_cmp o_lt s_cmp (je_ixS hu1 (je_v (lt_of rfl) (pv 0)) (je_c pe_str) (fun _ _ => rfl)) (je_c pe_int) (nomark _)) (jw_and1 (jt_cmp o_lt s_cmp (je_ixS hu1 (je_v (lt_of rfl) (pv 0)) (je_c pe_str) (fun _ _ => rfl)) (je_cb s_len (pe_callB o_len (by rfl) T.n_len boot_len (ja_cons (je_v (lt_of rfl) (pv 2)) ja_nil))) (nomark _))))) (jss_cons (js_if (jt_cmp o_ge s_cmp (je_ixS hu1 (je_v (lt_of rfl) (pv 2)) (je_ixS hu1 (je_v (lt_of rfl) (pv 0)) (je_c pe_str) (fun _ _ => rfl)) (fun _ _ => rfl)) (je_op op_pow s_I (je_c pe_int) (je_c pe_int)) (nomark _)) (jss_one (js_put (lt_of rfl) m_putD setD_h (ps_asg (je_ixS hu1 (je_v (lt_of rfl) (pv 2)) (je_ixS hu1 (je_v (lt_of rfl) (pv 0)) (je_c pe_str) (fun _ _ => rfl)) (fun _ _ => rfl)) (pg_sub (pv 0) (je_c pe_str) (set_dict hu1))))) jss_nil)
    (jss_one (js_put (lt_of rfl) m_putD setD_h (ps_asg (je_op o_add s_add (je_ixS hu1 (je_v (lt_of rfl) (pv 0)) (je_c pe_str) (fun _ _ => rfl)) (je_c pe_int)) (pg_sub (pv 0) (je_c pe_str) (set_dict hu1)))))))
    (jss_cons (js_if (jt_cmp o_gt s_cmp (je_ixS hu1 (je_v (lt_of rfl) (pv 0)) (je_c pe_str) (fun _ _ => rfl)) (je_c pe_int) (nomark _)) (jss_cons (js_set (i := 3) (lt_of rfl) (ps_set sc_law_takex.nd rfl (by first | exact Or.inl rfl | exact Or.inr rfl) (je_op op_mod s_I (je_ixS hu1 (je_v (lt_of rfl) (pv 0)) (je_c pe_str) (fun _ _ => rfl)) (je_v (lt_of rfl) (pv 1)))))
    (jss_cons (js_put (lt_of rfl) m_putD setD_h (ps_asg (je_op op_fdivW s_div (je_ixS hu1 (je_v (lt_of rfl) (pv 0)) (je_c pe_str) (fun _ _ => rfl)) (je_v (lt_of rfl) (pv 1))) (pg_sub (pv 0) (je_c pe_str) (set_dict hu1))))
    (jss_one (js_ret (je_mv (lt_of rfl) (pv 3)))))) jss_nil)
    (jss_cons (js_set (i := 4) (lt_of rfl) (ps_set sc_law_takex.nd rfl (by first | exact Or.inl rfl | exact Or.inr rfl) (je_c pe_int)))
    (jss_cons (js_if (jt_cmp o_gt s_cmp (je_cb s_len (pe_callB o_len (by rfl) T.n_len boot_len (ja_cons (je_v (lt_of rfl) (pv 2)) ja_nil))) (je_c pe_int) (nomark _)) (jss_one (js_set (i := 4) (lt_of rfl) (ps_set sc_law_takex.nd rfl (by first | exact Or.inl rfl | exact Or.inr rfl) (je_ixS hu1 (je_v (lt_of rfl) (pv 2)) (je_op op_mod s_I (je_ixS hu1 (je_v (lt_of rfl) (pv 0)) (je_c pe_str) (fun _ _ => rfl)) (je_cb s_len (pe_callB o_len (by rfl) T.n_len boot_len (ja_cons (je_v (lt_of rfl) (pv 2)) ja_nil)))) (fun _ _ => rfl))))) jss_nil)
    (jss_cons (js_put (lt_of rfl) m_putD setD_h (ps_asg (je_op o_add s_add (je_ixS hu1 (je_v (lt_of rfl) (pv 0)) (je_c pe_str) (fun _ _ => rfl)) (je_c pe_int)) (pg_sub (pv 0) (je_c pe_str) (set_dict hu1))))
    (jss_cons (js_put (lt_of rfl) m_putD setD_h (ps_asg (je_op op_mod s_I (je_op o_add s_add (je_op o_add s_add (je_op o_mul s_mul (je_ixS hu1 (je_v (lt_of rfl) (pv 0)) (je_c pe_str) (fun _ _ => rfl)) (je_c pe_int)) (je_v (lt_of rfl) (pv 4))) (je_op o_mul s_mul (je_c pe_int) (je_ixS hu1 (je_v (lt_of rfl) (pv 0)) (je_c pe_str) (fun _ _ => rfl)))) (je_c pe_int)) (pg_sub (pv 0) (je_c pe_str) (set_dict hu1))))
    (jss_one (js_ret (je_op op_mod s_I (je_op op_mod s_I (je_op o_add s_add (je_op o_mul s_mul (je_ixS hu1 (je_v (lt_of rfl) (pv 0)) (je_c pe_str) (fun _ _ => rfl)) (je_ixS hu1 (je_v (lt_of rfl) (pv 0)) (je_c pe_str) (fun _ _ => rfl))) (je_op o_mul s_mul (je_c pe_int) (je_ixS hu1 (je_v (lt_of rfl) (pv 0)) (je_c pe_str) (fun _ _ => rfl)))) (je_c pe_int)) (je_v (lt_of rfl) (pv 1))))))))))))
theorem ok_law_kept (T : Txt K mg cn)  : FnD P w K mg base cn 1 T.f_law_kept T.fd_law_kept [] S_law_kept := by
  refine def_mk T.F_law_kept sc_law_kept (by decide) len_law_kept sem_law_kept rfl fun cdv A outer s H E hr => ?_
  have hu65 := hu65_of hr
  have hu1 := hu_of hr
  have tks := takes_of (X := cxOf (L2.CX P w) P w K mg base [] "_law_kept" (defScope s_law_kept) T.f_law_kept cdv A outer s H E) rfl rfl rfl rfl
  exact (jss_one (js_ret (je_lst (ja_cons (je_c pe_str) (ja_cons (je_c pe_str) (ja_cons (je_c pe_str) (ja_cons (je_c pe_str) (ja_cons (je_c pe_str) (ja_cons (je_c pe_str) (ja_cons (je_c pe_str) (ja_cons (je_c pe_str) (ja_cons (je_c pe_str) (ja_cons (je_c pe_str) (ja_cons (je_c pe_str) (ja_cons (je_c pe_str) (ja_cons (je_c pe_str) ja_nil))))))))))))))))
theorem ok_law_wordg (T : Txt K mg cn) (G_law_takex : FnD P w K mg base cn 1 T.f_law_takex T.fd_law_takex ["_law_state", "_law_many"] S_law_takex) (G_law_kept : FnD P w K mg base cn 1 T.f_law_kept T.fd_law_kept [] S_law_kept) : FnD P w K mg base cn 2 T.f_law_wordg T.fd_law_wordg ["_law_state"] S_law_wordg := by
  refine def_mk T.F_law_wordg sc_law_wordg (by decide) len_law_wordg sem_law_wordg rfl fun cdv A outer s H E hr => ?_
  have hu65 := hu65_of hr
  have hu1 := hu_of hr
  have tks := takes_of (X := cxOf (L2.CX P w) P w K mg base ["_law_state", "_law_some", "_law_signs", "_law_way", "_law_word_here", "_law_k"] "_law_word" (defScope s_law_wordg) T.f_law_wordg cdv A outer s H E) rfl rfl rfl rfl
  exact (jss_cons (js_set (i := 1) (lt_of rfl) (ps_set sc_law_wordg.nd rfl (by first | exact Or.inl rfl | exact Or.inr rfl) (je_c pe_str)))
    (jss_cons (js_set (i := 2) (lt_of rfl) (ps_set sc_law_wordg.nd rfl (by first | exact Or.inl rfl | exact Or.inr rfl) (je_c pe_str)))
    (jss_cons (js_set (i := 3) (lt_of rfl) (ps_set sc_law_wordg.nd rfl (by first | exact Or.inl rfl | exact Or.inr rfl) (je_callN (ms := [true, false]) (G_law_takex.mono (by decide)) hr (by rfl) T.m_law_takex T.F_law_takex.kp T.b_law_takex tks (ja_cons (je_v (lt_of rfl) (pv 0)) (ja_cons (je_c pe_int) ja_nil)))))
    (jss_cons (js_if (jt_cmp (o_eq hu65) s_eq (je_v (lt_of rfl) (pv 3)) (je_c pe_int) (nomark _)) (jss_one (js_ret (je_ixS hu1 (je_call0 (G_law_kept.mono (by decide)) hr (by rfl) T.m_law_kept T.F_law_kept.kp T.b_law_kept) (je_callN (ms := [true, false]) (G_law_takex.mono (by decide)) hr (by rfl) T.m_law_takex T.F_law_takex.kp T.b_law_takex tks (ja_cons (je_v (lt_of rfl) (pv 0)) (ja_cons (je_c pe_int) ja_nil))) (fun _ _ => rfl)))) jss_nil)
    (jss_cons (js_if (jt_cmp (o_eq hu65) s_eq (je_v (lt_of rfl) (pv 3)) (je_c pe_int) (nomark _)) (jss_one (js_ret (je_cb s_str (pe_callTy (call_str_int.or SkE.call_str_str) (by rfl) T.n_str (by decide +kernel) (ja_cons (je_callN (ms := [true, false]) (G_law_takex.mono (by decide)) hr (by rfl) T.m_law_takex T.F_law_takex.kp T.b_law_takex tks (ja_cons (je_v (lt_of rfl) (pv 0)) (ja_cons (je_ixS hu1 (je_lst (ja_cons (je_c pe_int) (ja_cons (je_c pe_int) (ja_cons (je_op op_pow s_I (je_c pe_int) (je_c pe_int)) ja_nil)))) (je_callN (ms := [true, false]) (G_law_takex.mono (by decide)) hr (by rfl) T.m_law_takex T.F_law_takex.kp T.b_law_takex tks (ja_cons (je_v (lt_of rfl) (pv 0)) (ja_cons (je_c pe_int) ja_nil))) (fun _ _ => rfl)) ja_nil))) ja_nil))))) jss_nil)
    (jss_cons (js_if (jt_cmp (o_eq hu65) s_eq (je_v (lt_of rfl) (pv 3)) (je_c pe_int) (nomark _)) (jss_one (js_ret (je_ixS hu1 (je_v (lt_of rfl) (pv 2)) (je_callN (ms := [true, false]) (G_law_takex.mono (by decide)) hr (by rfl) T.m_law_takex T.F_law_takex.kp T.b_law_takex tks (ja_cons (je_v (lt_of rfl) (pv 0)) (ja_cons (je_cb s_len (pe_callB o_len (by rfl) T.n_len boot_len (ja_cons (je_v (lt_of rfl) (pv 2)) ja_nil))) ja_nil))) (fun _ _ => rfl)))) jss_nil)
    (jss_cons (js_set (i := 4) (lt_of rfl) (ps_set sc_law_wordg.nd rfl (by first | exact Or.inl rfl | exact Or.inr rfl) (je_ixS hu1 (je_v (lt_of rfl) (pv 1)) (je_callN (ms := [true, false]) (G_law_takex.mono (by decide)) hr (by rfl) T.m_law_takex T.F_law_takex.kp T.b_law_takex tks (ja_cons (je_v (lt_of rfl) (pv 0)) (ja_cons (je_c pe_int) ja_nil))) (fun _ _ => rfl))))
    (jss_cons (js_forW (vs := [2, 3, 5]) (passes_of rfl) rfl (ji_rng1 (pi_range1 (by rfl) T.n_range (ja_cons (je_ixS hu1 (je_lst (ja_cons (je_c pe_int) (ja_cons (je_c pe_int) (ja_cons (je_c pe_int) (ja_cons (je_c pe_int) (ja_cons (je_c pe_int) (ja_cons (je_c pe_int) ja_nil))))))) (je_callN (ms := [true, false]) (G_law_takex.mono (by decide)) hr (by rfl) T.m_law_takex T.F_law_takex.kp T.b_law_takex tks (ja_cons (je_v (lt_of rfl) (pv 0)) (ja_cons (je_c pe_int) ja_nil))) (fun _ _ => rfl)) ja_nil))) (jg_name (lt_of rfl) (pg_name (i := 5) sc_law_wordg.nd rfl (by first | exact Or.inl rfl | exact Or.inr rfl))) (jss_one (js_set (i := 4) (lt_of rfl) (ps_set sc_law_wordg.nd rfl (by first | exact Or.inl rfl | exact Or.inr rfl) (je_op o_add s_add (je_v (lt_of rfl) (pv 4)) (je_ixS hu1 (je_v (lt_of rfl) (pv 1)) (je_callN (ms := [true, false]) (G_law_takex.mono (by decide)) hr (by rfl) T.m_law_takex T.F_law_takex.kp T.b_law_takex tks (ja_cons (je_v (lt_of rfl) (pv 0)) (ja_cons (je_c pe_int) ja_nil))) (fun _ _ => rfl)))))))
    (jss_one (js_ret (je_mv (lt_of rfl) (pv 4))))))))))))
theorem ok_law_poolg (T : Txt K mg cn) (G_law_wordg : FnD P w K mg base cn 2 T.f_law_wordg T.fd_law_wordg ["_law_state"] S_law_wordg) (G_law_takex : FnD P w K mg base cn 1 T.f_law_takex T.fd_law_takex ["_law_state", "_law_many"] S_law_takex) : FnD P w K mg base cn 3 T.f_law_poolg T.fd_law_poolg ["_law_state"] S_law_poolg := by
  refine def_mk T.F_law_poolg sc_law_poolg (by decide) len_law_poolg sem_law_poolg rfl fun cdv A outer s H E hr => ?_
  have hu65 := hu65_of hr
  have hu1 := hu_of hr
  have tks := takes_of (X := cxOf (L2.CX P w) P w K mg base ["_law_state", "_law_found", "_law_k"] "_law_pool" (defScope s_law_poolg) T.f_law_poolg cdv A outer s H E) rfl rfl rfl rfl
  exact (jss_cons (js_set (i := 1) (lt_of rfl) (ps_set sc_law_poolg.nd rfl (by first | exact Or.inl rfl | exact Or.inr rfl) (je_lst (ja_cons (je_callN (ms := [true]) (G_law_wordg.mono (by decide)) hr (by rfl) T.m_law_wordg T.F_law_wordg.kp T.b_law_wordg tks (ja_cons (je_v (lt_of rfl) (pv 0)) ja_nil)) ja_nil))))
    (jss_cons (js_forW (vs := [2]) (passes_of rfl) rfl (ji_rng1 (pi_range1 (by rfl) T.n_range (ja_cons (je_callN (ms := [true, false]) (G_law_takex.mono (by decide)) hr (by rfl) T.m_law_takex T.F_law_takex.kp T.b_law_takex tks (ja_cons (je_v (lt_of rfl) (pv 0)) (ja_cons (je_c pe_int) ja_nil))) ja_nil))) (jg_name (lt_of rfl) (pg_name (i := 2) sc_law_poolg.nd rfl (by first | exact Or.inl rfl | exact Or.inr rfl))) (jss_cons (js_if (jw_t (jw_and (jt_cmp (o_eq hu65) s_eq (je_callN (ms := [true, false]) (G_law_takex.mono (by decide)) hr (by rfl) T.m_law_takex T.F_law_takex.kp T.b_law_takex tks (ja_cons (je_v (lt_of rfl) (pv 0)) (ja_cons (je_c pe_int) ja_nil))) (je_c pe_int) (nomark _)) (jw_and1 (jt_val (je_m0 PySem.F.slot_str_isalpha PySem.F.type_str_isalpha mt_isalpha (je_ixS hu1 (je_ixS hu1 (je_v (lt_of rfl) (pv 1)) (je_un un_neg s_neg (je_c pe_int)) (fun _ _ => rfl)) (je_c pe_int) (fun _ _ => rfl))))))) (jss_one (js_expr (je_mut m_append (lt_of rfl) (pe_bm PySem.F.plainAttrs_list PySem.F.slot_list_append PySem.F.type_list_append mt_append (pv 1) (ja_cons (je_op o_add s_add (je_cut (je_ixS hu1 (je_v (lt_of rfl) (pv 1)) (je_un un_neg s_neg (je_c pe_int)) (fun _ _ => rfl)) jo_none (jo_some (je_c pe_int))) (je_ixS hu1 (je_lst (ja_cons (je_c pe_str) (ja_cons (je_c pe_str) (ja_cons (je_c pe_str) (ja_cons (je_c pe_str) ja_nil))))) (je_callN (ms := [true, false]) (G_law_takex.mono (by decide)) hr (by rfl) T.m_law_takex T.F_law_takex.kp T.b_law_takex tks (ja_cons (je_v (lt_of rfl) (pv 0)) (ja_cons (je_c pe_int) ja_nil))) (fun _ _ => rfl))) ja_nil))))) jss_nil)
    (jss_one (js_expr (je_mut m_append (lt_of rfl) (pe_bm PySem.F.plainAttrs_list PySem.F.slot_list_append PySem.F.type_list_append mt_append (pv 1) (ja_cons (je_callN (ms := [true]) (G_law_wordg.mono (by decide)) hr (by rfl) T.m_law_wordg T.F_law_wordg.kp T.b_law_wordg tks (ja_cons (je_v (lt_of rfl) (pv 0)) ja_nil)) ja_nil)))))))
    (jss_one (js_ret (je_mv (lt_of rfl) (pv 1))))))
theorem ok_law_words (T : Txt K mg cn) (G_law_takex : FnD P w K mg base cn 1 T.f_law_takex T.fd_law_takex ["_law_state", "_law_many"] S_law_takex) : FnD P w K mg base cn 2 T.f_law_words T.fd_law_words ["_law_state", "_law_pool_here", "_law_many"] S_law_words := by
  refine def_mk T.F_law_words sc_law_words (by decide) len_law_words sem_law_words rfl fun cdv A outer s H E hr => ?_
  have hu65 := hu65_of hr
  have hu1 := hu_of hr
  have tks := takes_of (X := cxOf (L2.CX P w) P w K mg base ["_law_state", "_law_pool_here", "_law_many", "_law_k"] "_law_words" (defScope s_law_words) T.f_law_words cdv A outer s H E) rfl rfl rfl rfl
  exact (jss_one (js_ret (je_lc (pe_lc (own := [("_law_k", 3)]) rfl sc_law_words.nd (ji_rng1 (pi_range1 (by rfl) T.n_range (ja_cons (je_v (lt_of rfl) (pv 2)) ja_nil))) (blkOk_by (N := ["_law_state", "_law_pool_here", "_law_many", "_law_k"]) (sc := (defScope s_law_words)) (by decide +kernel)) (fun _ _ _ _ _ => (jg_name (lt_of rfl) (pg_name (i := 3) sc_law_words.nd rfl (by first | exact Or.inl rfl | exact Or.inr rfl)))) (fun _ _ _ _ _ => jts_nil) (fun _ _ _ _ _ => (je_ixS hu1 (je_v (lt_of rfl) (pv 1)) (je_callN (ms := [true, false]) (G_law_takex.mono (by decide)) hr (by rfl) T.m_law_takex T.F_law_takex.kp T.b_law_takex takes0 (ja_cons (je_v (lt_of rfl) (pv 0)) (ja_cons (je_cb s_len (pe_callB o_len (by rfl) T.n_len boot_len (ja_cons (je_v (lt_of rfl) (pv 1)) ja_nil))) ja_nil))) (fun _ _ => rfl)))))))
theorem ok_law_form (T : Txt K mg cn) (G_law_takex : FnD P w K mg base cn 1 T.f_law_takex T.fd_law_takex ["_law_state", "_law_many"] S_law_takex) : FnD P w K mg base cn 2 T.f_law_form T.fd_law_form ["_law_state", "_law_pool_here", "_law_many"] S_law_form := by
  refine def_mk T.F_law_form sc_law_form (by decide) len_law_form sem_law_form rfl fun cdv A outer s H E hr => ?_
  have hu65 := hu65_of hr
  have hu1 := hu_of hr
  have tks := takes_of (X := cxOf (L2.CX P w) P w K mg base ["_law_state", "_law_pool_here", "_law_many", "_law_found", "_law_holes", "_law_k", "_law_row", "_law_j", "_law_item"] "_law_form" (defScope s_law_form) T.f_law_form cdv A outer s H E) rfl rfl rfl rfl
  exact (jss_cons (js_set (i := 3) (lt_of rfl) (ps_set sc_law_form.nd rfl (by first | exact Or.inl rfl | exact Or.inr rfl) (je_lst ja_nil)))
    (jss_cons (js_set (i := 4) (lt_of rfl) (ps_set sc_law_form.nd rfl (by first | exact Or.inl rfl | exact Or.inr rfl) (je_c pe_int)))
    (jss_cons (js_forW (vs := [5, 6, 7, 8]) (passes_of rfl) rfl (ji_rng1 (pi_range1 (by rfl) T.n_range (ja_cons (je_v (lt_of rfl) (pv 2)) ja_nil))) (jg_name (lt_of rfl) (pg_name (i := 5) sc_law_form.nd rfl (by first | exact Or.inl rfl | exact Or.inr rfl))) (jss_cons (js_set (i := 6) (lt_of rfl) (ps_set sc_law_form.nd rfl (by first | exact Or.inl rfl | exact Or.inr rfl) (je_lst ja_nil)))
    (jss_cons (js_forW (vs := [5, 7, 8]) (passes_of rfl) rfl (ji_rng1 (pi_range1 (by rfl) T.n_range (ja_cons (je_callN (ms := [true, false]) (G_law_takex.mono (by decide)) hr (by rfl) T.m_law_takex T.F_law_takex.kp T.b_law_takex tks (ja_cons (je_v (lt_of rfl) (pv 0)) (ja_cons (je_c pe_int) ja_nil))) ja_nil))) (jg_name (lt_of rfl) (pg_name (i := 7) sc_law_form.nd rfl (by first | exact Or.inl rfl | exact Or.inr rfl))) (jss_cons (js_set (i := 8) (lt_of rfl) (ps_set sc_law_form.nd rfl (by first | exact Or.inl rfl | exact Or.inr rfl) (je_ixS hu1 (je_v (lt_of rfl) (pv 1)) (je_callN (ms := [true, false]) (G_law_takex.mono (by decide)) hr (by rfl) T.m_law_takex T.F_law_takex.kp T.b_law_takex tks (ja_cons (je_v (lt_of rfl) (pv 0)) (ja_cons (je_cb s_len (pe_callB o_len (by rfl) T.n_len boot_len (ja_cons (je_v (lt_of rfl) (pv 1)) ja_nil))) ja_nil))) (fun _ _ => rfl))))
    (jss_cons (js_if (jt_cmp (o_eq hu65) s_eq (je_callN (ms := [true, false]) (G_law_takex.mono (by decide)) hr (by rfl) T.m_law_takex T.F_law_takex.kp T.b_law_takex tks (ja_cons (je_v (lt_of rfl) (pv 0)) (ja_cons (je_c pe_int) ja_nil))) (je_c pe_int) (nomark _)) (jss_cons (js_set (i := 8) (lt_of rfl) (ps_set sc_law_form.nd rfl (by first | exact Or.inl rfl | exact Or.inr rfl) (je_callN (ms := [true, false]) (G_law_takex.mono (by decide)) hr (by rfl) T.m_law_takex T.F_law_takex.kp T.b_law_takex tks (ja_cons (je_v (lt_of rfl) (pv 0)) (ja_cons (je_op o_add s_add (je_v (lt_of rfl) (pv 4)) (je_c pe_int)) ja_nil)))))
    (jss_one (js_set (i := 4) (lt_of rfl) (ps_set sc_law_form.nd rfl (by first | exact Or.inl rfl | exact Or.inr rfl) (je_cb s_max2 (pe_callB (call_max2 rfl) (by rfl) T.n_max (by decide +kernel) (ja_cons (je_v (lt_of rfl) (pv 4)) (ja_cons (je_op o_add s_add (je_v (lt_of rfl) (pv 8)) (je_c pe_int)) ja_nil)))))))) jss_nil)
    (jss_one (js_expr (je_mut m_append (lt_of rfl) (pe_bm PySem.F.plainAttrs_list PySem.F.slot_list_append PySem.F.type_list_append mt_append (pv 6) (ja_cons (je_v (lt_of rfl) (pv 8)) ja_nil))))))))
    (jss_one (js_expr (je_mut m_append (lt_of rfl) (pe_bm PySem.F.plainAttrs_list PySem.F.slot_list_append PySem.F.type_list_append mt_append (pv 3) (ja_cons (je_mv (lt_of rfl) (pv 6)) ja_nil))))))))
    (jss_one (js_ret (je_tup (ja_cons (je_v (lt_of rfl) (pv 3)) (ja_cons (je_v (lt_of rfl) (pv 4)) ja_nil))))))))
theorem ok_law_putg (T : Txt K mg cn)  : FnD P w K mg base cn 1 T.f_law_putg T.fd_law_putg ["_law_shape", "_law_items"] S_law_putg := by
  refine def_mk T.F_law_putg sc_law_putg (by decide) len_law_putg sem_law_putg rfl fun cdv A outer s H E hr => ?_
  have hu65 := hu65_of hr
  have hu1 := hu_of hr
  have tks := takes_of (X := cxOf (L2.CX P w) P w K mg base ["_law_shape", "_law_items", "_law_row", "_law_item"] "_law_put" (defScope s_law_putg) T.f_law_putg cdv A outer s H E) rfl rfl rfl rfl
  exact (jss_one (js_ret (je_lc (pe_lc (own := [("_law_row", 2)]) rfl sc_law_putg.nd (ji_seq (je_v (lt_of rfl) (pv 0))) (blkOk_by (N := ["_law_shape", "_law_items", "_law_row", "_law_item"]) (sc := (defScope s_law_putg)) (by decide +kernel)) (fun _ _ _ _ _ => (jg_name (lt_of rfl) (pg_name (i := 2) sc_law_putg.nd rfl (by first | exact Or.inl rfl | exact Or.inr rfl)))) (fun _ _ _ _ _ => jts_nil) (fun _ _ _ _ _ => (je_lc (pe_lc (own := [("_law_item", 3)]) rfl sc_law_putg.nd (ji_seq (je_v (lt_of rfl) (pv 2))) (blkOk_by (N := ["_law_shape", "_law_items", "_law_row", "_law_item"]) (sc := ((relS _ (defScope s_law_putg)))) (by decide +kernel)) (fun _ _ _ _ _ => (jg_name (lt_of rfl) (pg_name (i := 3) sc_law_putg.nd rfl (by first | exact Or.inl rfl | exact Or.inr rfl)))) (fun _ _ _ _ _ => jts_nil) (fun _ _ _ _ _ => (je_if (jt_val (je_cb s_isi (pe_callB call_isi (by rfl) T.n_isinstance (by decide +kernel) (ja_cons (je_v (lt_of rfl) (pv 3)) (ja_cons (je_c (pe_bltn (v := .ty "int") (by rfl) T.n_int (by decide +kernel) rfl)) ja_nil))))) (je_ixS hu1 (je_v (lt_of rfl) (pv 1)) (je_v (lt_of rfl) (pv 3)) (fun _ _ => rfl)) (je_v (lt_of rfl) (pv 3)))))))))))
theorem ok_law_spoiltg (T : Txt K mg cn) (G_law_takex : FnD P w K mg base cn 1 T.f_law_takex T.fd_law_takex ["_law_state", "_law_many"] S_law_takex) (G_law_words : FnD P w K mg base cn 2 T.f_law_words T.fd_law_words ["_law_state", "_law_pool_here", "_law_many"] S_law_words) : FnD P w K mg base cn 3 T.f_law_spoiltg T.fd_law_spoiltg ["_law_state", "_law_rows", "_law_pool_here"] S_law_spoiltg := by
  refine def_mk T.F_law_spoiltg sc_law_spoiltg (by decide) len_law_spoiltg sem_law_spoiltg rfl fun cdv A outer s H E hr => ?_
  have hu65 := hu65_of hr
  have hu1 := hu_of hr
  have tks := takes_of (X := cxOf (L2.CX P w) P w K mg base ["_law_state", "_law_rows", "_law_pool_here", "_law_way", "_law_found", "_law_at", "_law_row", "_law_k"] "_law_spoilt" (defScope s_law_spoiltg) T.f_law_spoiltg cdv A outer s H E) rfl rfl rfl rfl
  exact (jss_cons (js_set (i := 3) (lt_of rfl) (ps_set sc_law_spoiltg.nd rfl (by first | exact Or.inl rfl | exact Or.inr rfl) (je_callN (ms := [true, false]) (G_law_takex.mono (by decide)) hr (by rfl) T.m_law_takex T.F_law_takex.kp T.b_law_takex tks (ja_cons (je_v (lt_of rfl) (pv 0)) (ja_cons (je_c pe_int) ja_nil)))))
    (jss_cons (js_setLc (i := 4) (lt_of rfl) (ps_setLc (i := 4) (own := [("_law_row", 6)]) rfl sc_law_spoiltg.nd rfl rfl (sw_true rfl rfl rfl (by decide +kernel)) (ji_seq (je_v (lt_of rfl) (pv 1))) (blkOk_by (N := ["_law_state", "_law_rows", "_law_pool_here", "_law_way", "_law_found", "_law_at", "_law_row", "_law_k"]) (sc := (defScope s_law_spoiltg)) (by decide +kernel)) (fun _ _ _ _ _ => (jg_name (lt_of rfl) (pg_name (i := 6) sc_law_spoiltg.nd rfl (by first | exact Or.inl rfl | exact Or.inr rfl)))) (fun _ _ _ _ _ => jts_nil) (fun _ _ _ _ _ => (je_cb s_list (pe_callTy call_list_of (by rfl) T.n_list (by decide +kernel) (ja_cons (je_v (lt_of rfl) (pv 6)) ja_nil))))))
    (jss_cons (js_set (i := 5) (lt_of rfl) (ps_set sc_law_spoiltg.nd rfl (by first | exact Or.inl rfl | exact Or.inr rfl) (je_callN (ms := [true, false]) (G_law_takex.mono (by decide)) hr (by rfl) T.m_law_takex T.F_law_takex.kp T.b_law_takex tks (ja_cons (je_v (lt_of rfl) (pv 0)) (ja_cons (je_op o_add s_add (je_cb s_len (pe_callB o_len (by rfl) T.n_len boot_len (ja_cons (je_v (lt_of rfl) (pv 4)) ja_nil))) (je_c pe_int)) ja_nil)))))
    (jss_cons (js_if (jt_cmp (o_eq hu65) s_eq (je_v (lt_of rfl) (pv 3)) (je_c pe_int) (nomark _)) (jss_one (js_expr (je_mut m_insert (lt_of rfl) (pe_bm PySem.F.plainAttrs_list PySem.F.slot_list_insert PySem.F.type_list_insert mt_insert (pv 4) (ja_cons (je_v (lt_of rfl) (pv 5)) (ja_cons (je_callN (ms := [true, false, false]) (G_law_words.mono (by decide)) hr (by rfl) T.m_law_words T.F_law_words.kp T.b_law_words tks (ja_cons (je_v (lt_of rfl) (pv 0)) (ja_cons (je_v (lt_of rfl) (pv 2)) (ja_cons (je_callN (ms := [true, false]) (G_law_takex.mono (by decide)) hr (by rfl) T.m_law_takex T.F_law_takex.kp T.b_law_takex tks (ja_cons (je_v (lt_of rfl) (pv 0)) (ja_cons (je_c pe_int) ja_nil))) ja_nil)))) ja_nil)))))) jss_nil)
    (jss_cons (js_if (jw_t (jw_or (jt_cmp (o_eq hu65) s_eq (je_v (lt_of rfl) (pv 3)) (je_c pe_int) (nomark _)) (jw_or1 (jt_cmp (o_eq hu65) s_eq (je_v (lt_of rfl) (pv 5)) (je_cb s_len (pe_callB o_len (by rfl) T.n_len boot_len (ja_cons (je_v (lt_of rfl) (pv 4)) ja_nil))) (nomark _))))) (jss_one (js_ret (je_mv (lt_of rfl) (pv 4)))) jss_nil)
    (jss_cons (js_if (jt_cmp (o_eq hu65) s_eq (je_v (lt_of rfl) (pv 3)) (je_c pe_int) (nomark _)) (jss_one (js_ret (je_op o_add s_add (je_cut (je_fzS (lt_of rfl) (pv 4)) jo_none (jo_some (je_v (lt_of rfl) (pv 5)))) (je_cut (je_fzS (lt_of rfl) (pv 4)) (jo_some (je_op o_add s_add (je_v (lt_of rfl) (pv 5)) (je_c pe_int))) jo_none)))) jss_nil)
    (jss_cons (js_bor (lt_of rfl) (lt_of rfl) rfl (ps_set sc_law_spoiltg.nd rfl (by first | exact Or.inl rfl | exact Or.inr rfl) (pe_ix ix_seq (pv 4) (je_v (lt_of rfl) (pv 5)) (fun _ _ => rfl))))
    (jss_cons (js_set (i := 7) (lt_of rfl) (ps_set sc_law_spoiltg.nd rfl (by first | exact Or.inl rfl | exact Or.inr rfl) (je_callN (ms := [true, false]) (G_law_takex.mono (by decide)) hr (by rfl) T.m_law_takex T.F_law_takex.kp T.b_law_takex tks (ja_cons (je_v (lt_of rfl) (pv 0)) (ja_cons (je_op o_add s_add (je_cb s_len (pe_callB o_len (by rfl) T.n_len boot_len (ja_cons (je_v (lt_of rfl) (pv 6)) ja_nil))) (je_c pe_int)) ja_nil)))))
    (jss_cons (js_if (jt_cmp (o_eq hu65) s_eq (je_v (lt_of rfl) (pv 3)) (je_c pe_int) (nomark _)) (jss_one (js_expr (je_mutB m_insert (lt_of rfl) (pe_bm PySem.F.plainAttrs_list PySem.F.slot_list_insert PySem.F.type_list_insert mt_insert (pv 6) (ja_cons (je_v (lt_of rfl) (pv 7)) (ja_cons (je_ixS hu1 (je_v (lt_of rfl) (pv 2)) (je_callN (ms := [true, false]) (G_law_takex.mono (by decide)) hr (by rfl) T.m_law_takex T.F_law_takex.kp T.b_law_takex tks (ja_cons (je_v (lt_of rfl) (pv 0)) (ja_cons (je_cb s_len (pe_callB o_len (by rfl) T.n_len boot_len (ja_cons (je_v (lt_of rfl) (pv 2)) ja_nil))) ja_nil))) (fun _ _ => rfl)) ja_nil)))))) (jss_one (js_if (jw_t (jw_and (jt_cmp (o_eq hu65) s_eq (je_v (lt_of rfl) (pv 3)) (je_c pe_int) (nomark _)) (jw_and1 (jt_cmp o_lt s_cmp (je_v (lt_of rfl) (pv 7)) (je_cb s_len (pe_callB o_len (by rfl) T.n_len boot_len (ja_cons (je_v (lt_of rfl) (pv 6)) ja_nil))) (nomark _))))) (jss_one (js_expr (je_mutB m_popAt (lt_of rfl) (pe_bm PySem.F.plainAttrs_list PySem.F.slot_list_pop PySem.F.type_list_pop mt_popAt (pv 6) (ja_cons (je_v (lt_of rfl) (pv 7)) ja_nil))))) (jss_one (js_if (jt_cmp o_lt s_cmp (je_v (lt_of rfl) (pv 7)) (je_cb s_len (pe_callB o_len (by rfl) T.n_len boot_len (ja_cons (je_v (lt_of rfl) (pv 6)) ja_nil))) (nomark _)) (jss_one (js_asg2 (ps_asg (je_ixS hu1 (je_v (lt_of rfl) (pv 2)) (je_callN (ms := [true, false]) (G_law_takex.mono (by decide)) hr (by rfl) T.m_law_takex T.F_law_takex.kp T.b_law_takex tks (ja_cons (je_v (lt_of rfl) (pv 0)) (ja_cons (je_cb s_len (pe_callB o_len (by rfl) T.n_len boot_len (ja_cons (je_v (lt_of rfl) (pv 2)) ja_nil))) ja_nil))) (fun _ _ => rfl)) (jg_sub (cn := cn) (S := []) (lt_of rfl) m_setL setL_h (pg_sub (pv 6) (je_v (lt_of rfl) (pv 7)) set_list))))) jss_nil)))))
    (jss_one (js_ret (je_mv (lt_of rfl) (pv 4)))))))))))))
theorem ok_law_stretchg (T : Txt K mg cn) (G_law_takex : FnD P w K mg base cn 1 T.f_law_takex T.fd_law_takex ["_law_state", "_law_many"] S_law_takex) (G_law_putg : FnD P w K mg base cn 1 T.f_law_putg T.fd_law_putg ["_law_shape", "_law_items"] S_law_putg) (G_law_words : FnD P w K mg base cn 2 T.f_law_words T.fd_law_words ["_law_state", "_law_pool_here", "_law_many"] S_law_words) (G_law_spoiltg : FnD P w K mg base cn 3 T.f_law_spoiltg T.fd_law_spoiltg ["_law_state", "_law_rows", "_law_pool_here"] S_law_spoiltg) : FnD P w K mg base cn 4 T.f_law_stretchg T.fd_law_stretchg ["_law_state", "_law_pool_here", "_law_shape", "_law_holes"] S_law_stretchg := by
  refine def_mk T.F_law_stretchg sc_law_stretchg (by decide) len_law_stretchg sem_law_stretchg rfl fun cdv A outer s H E hr => ?_
  have hu65 := hu65_of hr
  have hu1 := hu_of hr
  have tks := takes_of (X := cxOf (L2.CX P w) P w K mg base ["_law_state", "_law_pool_here", "_law_shape", "_law_holes", "_law_found", "_law_most", "_law_k", "_law_way", "_law_piece"] "_law_stretch" (defScope s_law_stretchg) T.f_law_stretchg cdv A outer s H E) rfl rfl rfl rfl
  exact (jss_cons (js_set (i := 4) (lt_of rfl) (ps_set sc_law_stretchg.nd rfl (by first | exact Or.inl rfl | exact Or.inr rfl) (je_lst ja_nil)))
    (jss_cons (js_set (i := 5) (lt_of rfl) (ps_set sc_law_stretchg.nd rfl (by first | exact Or.inl rfl | exact Or.inr rfl) (je_ixS hu1 (je_lst (ja_cons (je_fz (je_callN (ms := [true, false]) (G_law_takex.mono (by decide)) hr (by rfl) T.m_law_takex T.F_law_takex.kp T.b_law_takex tks (ja_cons (je_v (lt_of rfl) (pv 0)) (ja_cons (je_c pe_int) ja_nil)))) (ja_cons (je_op o_add s_add (je_c pe_int) (je_callN (ms := [true, false]) (G_law_takex.mono (by decide)) hr (by rfl) T.m_law_takex T.F_law_takex.kp T.b_law_takex tks (ja_cons (je_v (lt_of rfl) (pv 0)) (ja_cons (je_c pe_int) ja_nil)))) (ja_cons (je_op op_fdivW s_div (je_c pe_int) (je_cb s_max2 (pe_callB (call_max2 rfl) (by rfl) T.n_max (by decide +kernel) (ja_cons (je_c pe_int) (ja_cons (je_cb s_len (pe_callB o_len (by rfl) T.n_len boot_len (ja_cons (je_v (lt_of rfl) (pv 2)) ja_nil))) ja_nil))))) ja_nil)))) (je_callN (ms := [true, false]) (G_law_takex.mono (by decide)) hr (by rfl) T.m_law_takex T.F_law_takex.kp T.b_law_takex tks (ja_cons (je_v (lt_of rfl) (pv 0)) (ja_cons (je_c pe_int) ja_nil))) (fun _ _ => rfl))))
    (jss_cons (js_forW (vs := [5, 6, 7, 8]) (passes_of rfl) rfl (ji_rng1 (pi_range1 (by rfl) T.n_range (ja_cons (je_v (lt_of rfl) (pv 5)) ja_nil))) (jg_name (lt_of rfl) (pg_name (i := 6) sc_law_stretchg.nd rfl (by first | exact Or.inl rfl | exact Or.inr rfl))) (jss_cons (js_set (i := 7) (lt_of rfl) (ps_set sc_law_stretchg.nd rfl (by first | exact Or.inl rfl | exact Or.inr rfl) (je_callN (ms := [true, false]) (G_law_takex.mono (by decide)) hr (by rfl) T.m_law_takex T.F_law_takex.kp T.b_law_takex tks (ja_cons (je_v (lt_of rfl) (pv 0)) (ja_cons (je_c pe_int) ja_nil)))))
    (jss_cons (js_set (i := 8) (lt_of rfl) (ps_set sc_law_stretchg.nd rfl (by first | exact Or.inl rfl | exact Or.inr rfl) (je_fz (je_callN (ms := [false, false]) (G_law_putg.mono (by decide)) hr (by rfl) T.m_law_putg T.F_law_putg.kp T.b_law_putg tks (ja_cons (je_v (lt_of rfl) (pv 2)) (ja_cons (je_callN (ms := [true, false, false]) (G_law_words.mono (by decide)) hr (by rfl) T.m_law_words T.F_law_words.kp T.b_law_words tks (ja_cons (je_v (lt_of rfl) (pv 0)) (ja_cons (je_v (lt_of rfl) (pv 1)) (ja_cons (je_v (lt_of rfl) (pv 3)) ja_nil)))) ja_nil))))))
    (jss_cons (js_if (jt_cmp (o_eq hu65) s_eq (je_v (lt_of rfl) (pv 7)) (je_c pe_int) (nomark _)) (jss_one (js_set (i := 8) (lt_of rfl) (ps_set sc_law_stretchg.nd rfl (by first | exact Or.inl rfl | exact Or.inr rfl) (je_fz (je_lst (ja_cons (je_callN (ms := [true, false, false]) (G_law_words.mono (by decide)) hr (by rfl) T.m_law_words T.F_law_words.kp T.b_law_words tks (ja_cons (je_v (lt_of rfl) (pv 0)) (ja_cons (je_v (lt_of rfl) (pv 1)) (ja_cons (je_callN (ms := [true, false]) (G_law_takex.mono (by decide)) hr (by rfl) T.m_law_takex T.F_law_takex.kp T.b_law_takex tks (ja_cons (je_v (lt_of rfl) (pv 0)) (ja_cons (je_c pe_int) ja_nil))) ja_nil)))) ja_nil)))))) (jss_one (js_if (jt_cmp (o_eq hu65) s_eq (je_v (lt_of rfl) (pv 7)) (je_c pe_int) (nomark _)) (jss_one (js_set (i := 8) (lt_of rfl) (ps_set sc_law_stretchg.nd rfl (by first | exact Or.inl rfl | exact Or.inr rfl) (je_fz (je_callN (ms := [true, false, false]) (G_law_spoiltg.mono (by decide)) hr (by rfl) T.m_law_spoiltg T.F_law_spoiltg.kp T.b_law_spoiltg tks (ja_cons (je_v (lt_of rfl) (pv 0)) (ja_cons (je_v (lt_of rfl) (pv 8)) (ja_cons (je_v (lt_of rfl) (pv 1)) ja_nil)))))))) jss_nil)))
    (jss_one (js_set (i := 4) (lt_of rfl) (ps_set sc_law_stretchg.nd rfl (by first | exact Or.inl rfl | exact Or.inr rfl) (je_op o_add s_add (je_v (lt_of rfl) (pv 4)) (je_v (lt_of rfl) (pv 8))))))))))
    (jss_one (js_ret (je_cut (je_v (lt_of rfl) (pv 4)) jo_none (jo_some (je_c pe_int))))))))
theorem ok_law_filling (T : Txt K mg cn)  : FnD P w K mg base cn 1 T.f_law_filling T.fd_law_filling ["_law_shape", "_law_part"] S_law_filling := by
  refine def_mk T.F_law_filling sc_law_filling (by decide) len_law_filling sem_law_filling rfl fun cdv A outer s H E hr => ?_
  have hu65 := hu65_of hr
  have hu1 := hu_of hr
  have tks := takes_of (X := cxOf (L2.CX P w) P w K mg base ["_law_shape", "_law_part", "_law_held", "_law_row", "_law_words_here", "_law_item", "_law_word_here", "_law_k"] "_law_filling" (defScope s_law_filling) T.f_law_filling cdv A outer s H E) rfl rfl rfl rfl
  exact (jss_cons (js_if (jt_cmp (o_ne hu65) s_ne (je_lc (pe_lc (own := [("_law_row", 3)]) rfl sc_law_filling.nd (ji_seq (je_v (lt_of rfl) (pv 0))) (blkOk_by (N := ["_law_shape", "_law_part", "_law_held", "_law_row", "_law_words_here", "_law_item", "_law_word_here", "_law_k"]) (sc := (defScope s_law_filling)) (by decide +kernel)) (fun _ _ _ _ _ => (jg_name (lt_of rfl) (pg_name (i := 3) sc_law_filling.nd rfl (by first | exact Or.inl rfl | exact Or.inr rfl)))) (fun _ _ _ _ _ => jts_nil) (fun _ _ _ _ _ => (je_cb s_len (pe_callB o_len (by rfl) T.n_len boot_len (ja_cons (je_v (lt_of rfl) (pv 3)) ja_nil)))))) (je_lc (pe_lc (own := [("_law_row", 3)]) rfl sc_law_filling.nd (ji_seq (je_v (lt_of rfl) (pv 1))) (blkOk_by (N := ["_law_shape", "_law_part", "_law_held", "_law_row", "_law_words_here", "_law_item", "_law_word_here", "_law_k"]) (sc := (defScope s_law_filling)) (by decide +kernel)) (fun _ _ _ _ _ => (jg_name (lt_of rfl) (pg_name (i := 3) sc_law_filling.nd rfl (by first | exact Or.inl rfl | exact Or.inr rfl)))) (fun _ _ _ _ _ => jts_nil) (fun _ _ _ _ _ => (je_cb s_len (pe_callB o_len (by rfl) T.n_len boot_len (ja_cons (je_v (lt_of rfl) (pv 3)) ja_nil)))))) (nomark _)) (jss_one (js_ret (je_c pe_non))) jss_nil)
    (jss_cons (js_set (i := 2) (lt_of rfl) (ps_set sc_law_filling.nd rfl (by first | exact Or.inl rfl | exact Or.inr rfl) je_newD))
    (jss_cons (js_forW (vs := [3, 4, 5, 6]) (passes_of rfl) rfl (ji_zip (pi_zip (by rfl) T.n_zip (ja_cons (je_v (lt_of rfl) (pv 0)) (ja_cons (je_v (lt_of rfl) (pv 1)) ja_nil)))) (jg_tup (S := [3, 4]) (n := 2) rfl (jgs_cons (jg_mono (S' := [3, 4]) (jg_name (lt_of rfl) (pg_name (i := 3) sc_law_filling.nd rfl (by first | exact Or.inl rfl | exact Or.inr rfl))) (by decide)) (jgs_cons (jg_mono (S' := [3, 4]) (jg_name (lt_of rfl) (pg_name (i := 4) sc_law_filling.nd rfl (by first | exact Or.inl rfl | exact Or.inr rfl))) (by decide)) jgs_nil))) (jss_one (js_forW (vs := [3, 4, 5, 6]) (passes_of rfl) rfl (ji_zip (pi_zip (by rfl) T.n_zip (ja_cons (je_v (lt_of rfl) (pv 3)) (ja_cons (je_v (lt_of rfl) (pv 4)) ja_nil)))) (jg_tup (S := [5, 6]) (n := 2) rfl (jgs_cons (jg_mono (S' := [5, 6]) (jg_name (lt_of rfl) (pg_name (i := 5) sc_law_filling.nd rfl (by first | exact Or.inl rfl | exact Or.inr rfl))) (by decide)) (jgs_cons (jg_mono (S' := [5, 6]) (jg_name (lt_of rfl) (pg_name (i := 6) sc_law_filling.nd rfl (by first | exact Or.inl rfl | exact Or.inr rfl))) (by decide)) jgs_nil))) (jss_cons (js_if (jw_t (jw_and (jt_val (je_cb s_isi (pe_callB call_isi (by rfl) T.n_isinstance (by decide +kernel) (ja_cons (je_v (lt_of rfl) (pv 5)) (ja_cons (je_c (pe_bltn (v := .ty "int") (by rfl) T.n_int (by decide +kernel) rfl)) ja_nil))))) (jw_and1 (jt_cmp (o_ne hu65) s_ne (je_setd (lt_of rfl) (pv 2) (je_v (lt_of rfl) (pv 5)) (je_v (lt_of rfl) (pv 6)) ⟨rfl, rfl, rfl, rfl⟩) (je_v (lt_of rfl) (pv 6)) (nomark _))))) (jss_one (js_ret (je_c pe_non))) jss_nil)
    (jss_one (js_if (jw_t (jw_and (jt_not (jt_val (je_cb s_isi (pe_callB call_isi (by rfl) T.n_isinstance (by decide +kernel) (ja_cons (je_v (lt_of rfl) (pv 5)) (ja_cons (je_c (pe_bltn (v := .ty "int") (by rfl) T.n_int (by decide +kernel) rfl)) ja_nil)))))) (jw_and1 (jt_cmp (o_ne hu65) s_ne (je_v (lt_of rfl) (pv 5)) (je_v (lt_of rfl) (pv 6)) (nomark _))))) (jss_one (js_ret (je_c pe_non))) jss_nil))))))
    (jss_one (js_ret (je_lc (pe_lc (own := [("_law_k", 7)]) rfl sc_law_filling.nd (ji_rng1 (pi_range1 (by rfl) T.n_range (ja_cons (je_cb s_len (pe_callB o_len (by rfl) T.n_len boot_len (ja_cons (je_v (lt_of rfl) (pv 2)) ja_nil))) ja_nil))) (blkOk_by (N := ["_law_shape", "_law_part", "_law_held", "_law_row", "_law_words_here", "_law_item", "_law_word_here", "_law_k"]) (sc := (defScope s_law_filling)) (by decide +kernel)) (fun _ _ _ _ _ => (jg_name (lt_of rfl) (pg_name (i := 7) sc_law_filling.nd rfl (by first | exact Or.inl rfl | exact Or.inr rfl)))) (fun _ _ _ _ _ => jts_nil) (fun _ _ _ _ _ => (je_ixS hu1 (je_v (lt_of rfl) (pv 2)) (je_v (lt_of rfl) (pv 7)) (fun _ _ => rfl))))))))))
theorem ok_law_odd (T : Txt K mg cn) (G_law_takex : FnD P w K mg base cn 1 T.f_law_takex T.fd_law_takex ["_law_state", "_law_many"] S_law_takex) : FnD P w K mg base cn 2 T.f_law_odd T.fd_law_odd ["_law_state", "_law_shape", "_law_holes"] S_law_odd := by
  refine def_mk T.F_law_odd sc_law_odd (by decide) len_law_odd sem_law_odd rfl fun cdv A outer s H E hr => ?_
  have hu65 := hu65_of hr
  have hu1 := hu_of hr
  have tks := takes_of (X := cxOf (L2.CX P w) P w K mg base ["_law_state", "_law_shape", "_law_holes", "_law_way", "_law_found", "_law_at", "_law_some", "_law_item", "_law_row", "_law_k"] "_law_odd" (defScope s_law_odd) T.f_law_odd cdv A outer s H E) rfl rfl rfl rfl
  exact (jss_cons (js_set (i := 3) (lt_of rfl) (ps_set sc_law_odd.nd rfl (by first | exact Or.inl rfl | exact Or.inr rfl) (je_callN (ms := [true, false]) (G_law_takex.mono (by decide)) hr (by rfl) T.m_law_takex T.F_law_takex.kp T.b_law_takex tks (ja_cons (je_v (lt_of rfl) (pv 0)) (ja_cons (je_c pe_int) ja_nil)))))
    (jss_cons (js_setLc (i := 4) (lt_of rfl) (ps_setLc (i := 4) (own := [("_law_row", 8)]) rfl sc_law_odd.nd rfl rfl (sw_true rfl rfl rfl (by decide +kernel)) (ji_seq (je_v (lt_of rfl) (pv 1))) (blkOk_by (N := ["_law_state", "_law_shape", "_law_holes", "_law_way", "_law_found", "_law_at", "_law_some", "_law_item", "_law_row", "_law_k"]) (sc := (defScope s_law_odd)) (by decide +kernel)) (fun _ _ _ _ _ => (jg_name (lt_of rfl) (pg_name (i := 8) sc_law_odd.nd rfl (by first | exact Or.inl rfl | exact Or.inr rfl)))) (fun _ _ _ _ _ => jts_nil) (fun _ _ _ _ _ => (je_cb s_list (pe_callTy call_list_of (by rfl) T.n_list (by decide +kernel) (ja_cons (je_v (lt_of rfl) (pv 8)) ja_nil))))))
    (jss_cons (js_set (i := 5) (lt_of rfl) (ps_set sc_law_odd.nd rfl (by first | exact Or.inl rfl | exact Or.inr rfl) (je_callN (ms := [true, false]) (G_law_takex.mono (by decide)) hr (by rfl) T.m_law_takex T.F_law_takex.kp T.b_law_takex tks (ja_cons (je_v (lt_of rfl) (pv 0)) (ja_cons (je_op o_add s_add (je_cb s_len (pe_callB o_len (by rfl) T.n_len boot_len (ja_cons (je_v (lt_of rfl) (pv 4)) ja_nil))) (je_c pe_int)) ja_nil)))))
    (jss_cons (js_if (jt_cmp (o_eq hu65) s_eq (je_v (lt_of rfl) (pv 3)) (je_c pe_int) (nomark _)) (jss_one (js_ret (je_ixS hu1 (je_lst (ja_cons (je_c pe_non) (ja_cons (je_c pe_int) (ja_cons (je_c pe_str) (ja_cons (je_c pe_bl) (ja_cons (je_tup ja_nil) (ja_cons (je_fz je_newD) (ja_cons (je_tup (ja_cons (je_fz (je_lst (ja_cons (je_c pe_str) ja_nil))) ja_nil)) ja_nil)))))))) (je_callN (ms := [true, false]) (G_law_takex.mono (by decide)) hr (by rfl) T.m_law_takex T.F_law_takex.kp T.b_law_takex tks (ja_cons (je_v (lt_of rfl) (pv 0)) (ja_cons (je_c pe_int) ja_nil))) (fun _ _ => rfl)))) jss_nil)
    (jss_cons (js_if (jt_cmp (o_eq hu65) s_eq (je_v (lt_of rfl) (pv 3)) (je_c pe_int) (nomark _)) (jss_one (js_frz (js_ret (je_op o_add s_add (je_op o_add s_add (je_cut (je_v (lt_of rfl) (pv 4)) jo_none (jo_some (je_v (lt_of rfl) (pv 5)))) (je_lst (ja_cons (je_ixS hu1 (je_lst (ja_cons (je_c pe_non) (ja_cons (je_c pe_str) (ja_cons (je_tup (ja_cons (je_c pe_str) ja_nil)) (ja_cons (je_c pe_int) (ja_cons (je_fz je_newD) ja_nil)))))) (je_callN (ms := [true, false]) (G_law_takex.mono (by decide)) hr (by rfl) T.m_law_takex T.F_law_takex.kp T.b_law_takex tks (ja_cons (je_v (lt_of rfl) (pv 0)) (ja_cons (je_c pe_int) ja_nil))) (fun _ _ => rfl)) ja_nil))) (je_cut (je_v (lt_of rfl) (pv 4)) (jo_some (je_v (lt_of rfl) (pv 5))) jo_none))))) jss_nil)
    (jss_cons (js_if (jw_t (jw_and (jt_cmp (o_eq hu65) s_eq (je_v (lt_of rfl) (pv 3)) (je_c pe_int) (nomark _)) (jw_and1 (jt_cmp (o_eq hu65) s_eq (je_callN (ms := [true, false]) (G_law_takex.mono (by decide)) hr (by rfl) T.m_law_takex T.F_law_takex.kp T.b_law_takex tks (ja_cons (je_v (lt_of rfl) (pv 0)) (ja_cons (je_c pe_int) ja_nil))) (je_c pe_int) (nomark _))))) (jss_one (js_ret (je_lc (pe_lc (own := [("_law_k", 9)]) rfl sc_law_odd.nd (ji_rng1 (pi_range1 (by rfl) T.n_range (ja_cons (je_c pe_int) ja_nil))) (blkOk_by (N := ["_law_state", "_law_shape", "_law_holes", "_law_way", "_law_found", "_law_at", "_law_some", "_law_item", "_law_row", "_law_k"]) (sc := (defScope s_law_odd)) (by decide +kernel)) (fun _ _ _ _ _ => (jg_name (lt_of rfl) (pg_name (i := 9) sc_law_odd.nd rfl (by first | exact Or.inl rfl | exact Or.inr rfl)))) (fun _ _ _ _ _ => jts_nil) (fun _ _ _ _ _ => (je_fz (je_lst (ja_cons (je_c pe_str) ja_nil)))))))) jss_nil)
    (jss_cons (js_if (jt_cmp (o_eq hu65) s_eq (je_v (lt_of rfl) (pv 3)) (je_c pe_int) (nomark _)) (jss_one (js_frz (js_ret (je_op o_add s_add (je_op o_add s_add (je_cut (je_v (lt_of rfl) (pv 4)) jo_none (jo_some (je_v (lt_of rfl) (pv 5)))) (je_fz (je_lst (ja_cons (je_op op_rep s_repL (je_fz (je_lst (ja_cons (je_c pe_str) ja_nil))) (je_c pe_int)) ja_nil)))) (je_cut (je_v (lt_of rfl) (pv 4)) (jo_some (je_v (lt_of rfl) (pv 5))) jo_none))))) jss_nil)
    (jss_cons (js_if (jw_t (jw_and (jt_cmp (o_eq hu65) s_eq (je_v (lt_of rfl) (pv 3)) (je_c pe_int) (nomark _)) (jw_and1 (jt_cmp o_gt s_cmp (je_v (lt_of rfl) (pv 2)) (je_c pe_int) (nomark _))))) (jss_one (js_frz (js_ret (je_lc (pe_lc (own := [("_law_row", 8)]) rfl sc_law_odd.nd (ji_seq (je_v (lt_of rfl) (pv 4))) (blkOk_by (N := ["_law_state", "_law_shape", "_law_holes", "_law_way", "_law_found", "_law_at", "_law_some", "_law_item", "_law_row", "_law_k"]) (sc := (defScope s_law_odd)) (by decide +kernel)) (fun _ _ _ _ _ => (jg_name (lt_of rfl) (pg_name (i := 8) sc_law_odd.nd rfl (by first | exact Or.inl rfl | exact Or.inr rfl)))) (fun _ _ _ _ _ => jts_nil) (fun _ _ _ _ _ => (je_lc (pe_lc (own := [("_law_item", 7)]) rfl sc_law_odd.nd (ji_seq (je_v (lt_of rfl) (pv 8))) (blkOk_by (N := ["_law_state", "_law_shape", "_law_holes", "_law_way", "_law_found", "_law_at", "_law_some", "_law_item", "_law_row", "_law_k"]) (sc := ((relS _ (defScope s_law_odd)))) (by decide +kernel)) (fun _ _ _ _ _ => (jg_name (lt_of rfl) (pg_name (i := 7) sc_law_odd.nd rfl (by first | exact Or.inl rfl | exact Or.inr rfl)))) (fun _ _ _ _ _ => jts_nil) (fun _ _ _ _ _ => (je_if (jt_cmp (o_in hu65) s_inS (je_v (lt_of rfl) (pv 7)) (je_tup (ja_cons (je_c pe_int) (ja_cons (je_c pe_int) ja_nil))) (by rfl)) (je_op op_sub s_I0 (je_c pe_int) (je_v (lt_of rfl) (pv 7))) (je_v (lt_of rfl) (pv 7)))))))))))) jss_nil)
    (jss_cons (js_set (i := 6) (lt_of rfl) (ps_set sc_law_odd.nd rfl (by first | exact Or.inl rfl | exact Or.inr rfl) (je_lst (ja_cons (je_c pe_bl) (ja_cons (je_c pe_bl) (ja_cons (je_un un_neg s_neg (je_c pe_int)) (ja_cons (je_op o_add s_add (je_v (lt_of rfl) (pv 2)) (je_c pe_int)) (ja_cons (je_c pe_non) (ja_cons (je_c pe_str) (ja_cons (je_c pe_str) (ja_cons (je_c pe_str) (ja_cons (je_c pe_str) (ja_cons (je_op o_mul s_mul (je_c pe_str) (je_c pe_int)) (ja_cons (je_op o_mul s_mul (je_c pe_str) (je_c pe_int)) (ja_cons (je_fz (je_lst (ja_cons (je_c pe_str) ja_nil))) (ja_cons (je_c pe_str) (ja_cons (je_c pe_str) ja_nil)))))))))))))))))
    (jss_cons (js_set (i := 7) (lt_of rfl) (ps_set sc_law_odd.nd rfl (by first | exact Or.inl rfl | exact Or.inr rfl) (je_ixS hu1 (je_op o_add s_add (je_v (lt_of rfl) (pv 6)) (je_lst (ja_cons (je_op op_pow s_I (je_c pe_int) (je_c pe_int)) (ja_cons (je_op o_add s_add (je_v (lt_of rfl) (pv 2)) (je_c pe_int)) (ja_cons (je_un un_neg s_neg (je_op op_pow s_I (je_c pe_int) (je_c pe_int))) (ja_cons (je_c pe_str) ja_nil)))))) (je_callN (ms := [true, false]) (G_law_takex.mono (by decide)) hr (by rfl) T.m_law_takex T.F_law_takex.kp T.b_law_takex tks (ja_cons (je_v (lt_of rfl) (pv 0)) (ja_cons (je_c pe_int) ja_nil))) (fun _ _ => rfl))))
    (jss_cons (js_if (jt_cmp (o_eq hu65) s_eq (je_v (lt_of rfl) (pv 5)) (je_cb s_len (pe_callB o_len (by rfl) T.n_len boot_len (ja_cons (je_v (lt_of rfl) (pv 4)) ja_nil))) (nomark _)) (jss_one (js_expr (je_mut m_append (lt_of rfl) (pe_bm PySem.F.plainAttrs_list PySem.F.slot_list_append PySem.F.type_list_append mt_append (pv 4) (ja_cons (je_lst ja_nil) ja_nil))))) jss_nil)
    (jss_cons (js_expr (je_mutGs m_insert (lt_of rfl) (lt_of rfl) (pe_bm PySem.F.plainAttrs_list PySem.F.slot_list_insert PySem.F.type_list_insert mt_insert (pe_ix ix_seq (pv 4) (pv 5) (fun _ _ => rfl)) (ja_cons (je_callN (ms := [true, false]) (G_law_takex.mono (by decide)) hr (by rfl) T.m_law_takex T.F_law_takex.kp T.b_law_takex tks (ja_cons (je_v (lt_of rfl) (pv 0)) (ja_cons (je_op o_add s_add (je_lend (je_cb s_len (pe_callB o_len (by rfl) T.n_len boot_len (ja_cons (je_ixS hu1 (je_v (lt_of rfl) (pv 4)) (je_v (lt_of rfl) (pv 5)) (fun _ _ => rfl)) ja_nil)))) (je_c pe_int)) ja_nil))) (ja_cons (je_v (lt_of rfl) (pv 7)) ja_nil)))))
    (jss_one (js_ret (je_mv (lt_of rfl) (pv 4))))))))))))))))
theorem ok_law_opened (T : Txt K mg cn) (G_law_takex : FnD P w K mg base cn 1 T.f_law_takex T.fd_law_takex ["_law_state", "_law_many"] S_law_takex) : FnD P w K mg base cn 2 T.f_law_opened T.fd_law_opened ["_law_state", "_law_rows", "_law_most"] S_law_opened := by
  refine def_mk T.F_law_opened sc_law_opened (by decide) len_law_opened sem_law_opened rfl fun cdv A outer s H E hr => ?_
  have hu65 := hu65_of hr
  have hu1 := hu_of hr
  have tks := takes_of (X := cxOf (L2.CX P w) P w K mg base ["_law_state", "_law_rows", "_law_most", "_law_found", "_law_held", "_law_row", "_law_made", "_law_word_here", "_law_way"] "_law_opened" (defScope s_law_opened) T.f_law_opened cdv A outer s H E) rfl rfl rfl rfl
  exact (jss_cons (js_set (i := 3) (lt_of rfl) (ps_set sc_law_opened.nd rfl (by first | exact Or.inl rfl | exact Or.inr rfl) (je_lst ja_nil)))
    (jss_cons (js_set (i := 4) (lt_of rfl) (ps_set sc_law_opened.nd rfl (by first | exact Or.inl rfl | exact Or.inr rfl) (je_lst ja_nil)))
    (jss_cons (js_forW (vs := [5, 6, 7, 8]) (passes_of rfl) rfl (ji_seq (je_v (lt_of rfl) (pv 1))) (jg_name (lt_of rfl) (pg_name (i := 5) sc_law_opened.nd rfl (by first | exact Or.inl rfl | exact Or.inr rfl))) (jss_cons (js_set (i := 6) (lt_of rfl) (ps_set sc_law_opened.nd rfl (by first | exact Or.inl rfl | exact Or.inr rfl) (je_lst ja_nil)))
    (jss_cons (js_forW (vs := [5, 7, 8]) (passes_of rfl) rfl (ji_seq (je_v (lt_of rfl) (pv 5))) (jg_name (lt_of rfl) (pg_name (i := 7) sc_law_opened.nd rfl (by first | exact Or.inl rfl | exact Or.inr rfl))) (jss_cons (js_set (i := 8) (lt_of rfl) (ps_set sc_law_opened.nd rfl (by first | exact Or.inl rfl | exact Or.inr rfl) (je_callN (ms := [true, false]) (G_law_takex.mono (by decide)) hr (by rfl) T.m_law_takex T.F_law_takex.kp T.b_law_takex tks (ja_cons (je_v (lt_of rfl) (pv 0)) (ja_cons (je_c pe_int) ja_nil)))))
    (jss_one (js_if (jw_t (jw_and (jt_cmp (o_eq hu65) s_eq (je_v (lt_of rfl) (pv 8)) (je_c pe_int) (nomark _)) (jw_and1 (jt_cmp o_lt s_cmp (je_cb s_len (pe_callB o_len (by rfl) T.n_len boot_len (ja_cons (je_v (lt_of rfl) (pv 4)) ja_nil))) (je_v (lt_of rfl) (pv 2)) (nomark _))))) (jss_cons (js_expr (je_mut m_append (lt_of rfl) (pe_bm PySem.F.plainAttrs_list PySem.F.slot_list_append PySem.F.type_list_append mt_append (pv 4) (ja_cons (je_v (lt_of rfl) (pv 7)) ja_nil))))
    (jss_one (js_expr (je_mut m_append (lt_of rfl) (pe_bm PySem.F.plainAttrs_list PySem.F.slot_list_append PySem.F.type_list_append mt_append (pv 6) (ja_cons (je_op op_sub s_I0 (je_cb s_len (pe_callB o_len (by rfl) T.n_len boot_len (ja_cons (je_v (lt_of rfl) (pv 4)) ja_nil))) (je_c pe_int)) ja_nil)))))) (jss_one (js_if (jw_t (jw_and (jt_cmp (o_eq hu65) s_eq (je_v (lt_of rfl) (pv 8)) (je_c pe_int) (nomark _)) (jw_and1 (jt_cmp (o_in hu65) s_inS (je_v (lt_of rfl) (pv 7)) (je_v (lt_of rfl) (pv 4)) (by rfl))))) (jss_one (js_expr (je_mut m_append (lt_of rfl) (pe_bm PySem.F.plainAttrs_list PySem.F.slot_list_append PySem.F.type_list_append mt_append (pv 6) (ja_cons (je_bm1 PySem.F.plainAttrs_list PySem.F.slot_list_index PySem.F.type_list_index mt_index s_index (je_v (lt_of rfl) (pv 4)) (je_v (lt_of rfl) (pv 7))) ja_nil))))) (jss_one (js_expr (je_mut m_append (lt_of rfl) (pe_bm PySem.F.plainAttrs_list PySem.F.slot_list_append PySem.F.type_list_append mt_append (pv 6) (ja_cons (je_v (lt_of rfl) (pv 7)) ja_nil)))))))))))
    (jss_one (js_expr (je_mut m_append (lt_of rfl) (pe_bm PySem.F.plainAttrs_list PySem.F.slot_list_append PySem.F.type_list_append mt_append (pv 3) (ja_cons (je_mv (lt_of rfl) (pv 6)) ja_nil))))))))
    (jss_one (js_ret (je_mv (lt_of rfl) (pv 3)))))))
theorem ok_law_copyg (T : Txt K mg cn)  : FnD P w K mg base cn 1 T.f_law_copyg T.fd_law_copyg ["_law_rows"] S_law_copyg := by
  refine def_mk T.F_law_copyg sc_law_copyg (by decide) len_law_copyg sem_law_copyg rfl fun cdv A outer s H E hr => ?_
  have hu65 := hu65_of hr
  have hu1 := hu_of hr
  have tks := takes_of (X := cxOf (L2.CX P w) P w K mg base ["_law_rows", "_law_row"] "_law_copy" (defScope s_law_copyg) T.f_law_copyg cdv A outer s H E) rfl rfl rfl rfl
  exact (jss_one (js_ret (je_lc (pe_lc (own := [("_law_row", 1)]) rfl sc_law_copyg.nd (ji_seq (je_v (lt_of rfl) (pv 0))) (blkOk_by (N := ["_law_rows", "_law_row"]) (sc := (defScope s_law_copyg)) (by decide +kernel)) (fun _ _ _ _ _ => (jg_name (lt_of rfl) (pg_name (i := 1) sc_law_copyg.nd rfl (by first | exact Or.inl rfl | exact Or.inr rfl)))) (fun _ _ _ _ _ => jts_nil) (fun _ _ _ _ _ => (je_cb s_list (pe_callTy call_list_of (by rfl) T.n_list (by decide +kernel) (ja_cons (je_v (lt_of rfl) (pv 1)) ja_nil))))))))
theorem ok_law_asked (T : Txt K mg cn) (G_fitting : FnD P w K mg base cn 7 T.f_fitting T.fd_fitting ["stretch", "form"] S_fitting) : FnD P w K mg base cn 8 T.f_law_asked T.fd_law_asked ["_law_lines", "_law_shape"] S_law_asked := by
  refine def_mk T.F_law_asked sc_law_asked (by decide) len_law_asked sem_law_asked rfl fun cdv A outer s H E hr => ?_
  have hu65 := hu65_of hr
  have hu1 := hu_of hr
  have tks := takes_of (X := cxOf (L2.CX P w) P w K mg base ["_law_lines", "_law_shape", "_law_found", "e", "_law_some"] "_law_asked" (defScope s_law_asked) T.f_law_asked cdv A outer s H E) rfl rfl rfl rfl
  exact (jss_cons (js_wipe (vs := [3, 4]) (js_tryH rfl rfl sc_law_asked.nd rfl rfl ⟨by rfl, by decide, .inl T.g_KinError⟩ tks (hm_cons (by rw [T.c_BadForm]; exact T.e_BadForm_KinError) (hm_cons (by rw [T.c_NoRows]; exact T.e_NoRows_KinError) hm_nil)) (fun W pn xe tks _ => (jss_one (js_set (i := 2) (lt_of rfl) (ps_set sc_law_asked.nd rfl (by first | exact Or.inl rfl | exact Or.inr rfl) (je_callK0 g_0_form_stretch_fitting_ok (G_fitting.mono (by decide)) hr (by rfl) T.m_fitting T.F_fitting.kp T.g_0_form_stretch_fitting tks (jk_cons (je_v (lt_of rfl) (pv 1)) (jk_cons (je_v (lt_of rfl) (pv 0)) jk_nil))))))) (fun a oe nm pn _ hz hd => (jss_cons (js_set (i := 4) (lt_of rfl) (ps_set sc_law_asked.nd rfl (by first | exact Or.inl rfl | exact Or.inr rfl) (je_tup (ja_cons (je_isH (lt_of rfl) (.own T.C_BadFilling) (List.mem_cons_self ..) hz hd (hm_cons ⟨by rw [T.c_BadForm]; exact T.xd_BadForm, by rw [T.c_BadForm]; exact T.kq_BadFilling.2.1⟩ (hm_cons ⟨by rw [T.c_NoRows]; exact T.xd_NoRows, by rw [T.c_NoRows]; exact T.kq_BadFilling.2.2⟩ hm_nil)) (fun b cr => pe_callB cr (by rfl) T.n_isinstance (by decide +kernel) (pa_cons (pv 3) (pa_cons (pe_glob (by rfl) T.g_BadFilling rfl) pa_nil)))) (ja_cons (je_isH (lt_of rfl) (.own T.C_NoFit) (List.mem_cons_self ..) hz hd (hm_cons ⟨by rw [T.c_BadForm]; exact T.xd_BadForm, by rw [T.c_BadForm]; exact T.kq_NoFit.2.1⟩ (hm_cons ⟨by rw [T.c_NoRows]; exact T.xd_NoRows, by rw [T.c_NoRows]; exact T.kq_NoFit.2.2⟩ hm_nil)) (fun b cr => pe_callB cr (by rfl) T.n_isinstance (by decide +kernel) (pa_cons (pv 3) (pa_cons (pe_glob (by rfl) T.g_NoFit rfl) pa_nil)))) (ja_cons (je_isH (lt_of rfl) (.own T.C_Shape) (List.mem_cons_self ..) hz hd (hm_cons ⟨by rw [T.c_BadForm]; exact T.xd_BadForm, by rw [T.c_BadForm]; exact T.kq_Shape.2.1⟩ (hm_cons ⟨by rw [T.c_NoRows]; exact T.xd_NoRows, by rw [T.c_NoRows]; exact T.kq_Shape.2.2⟩ hm_nil)) (fun b cr => pe_callB cr (by rfl) T.n_isinstance (by decide +kernel) (pa_cons (pv 3) (pa_cons (pe_glob (by rfl) T.g_Shape rfl) pa_nil)))) ja_nil))))))
    (jss_one (js_set (i := 2) (lt_of rfl) (ps_set sc_law_asked.nd rfl (by first | exact Or.inl rfl | exact Or.inr rfl) (je_tup (ja_cons (je_isH (lt_of rfl) (.own T.C_BadForm) (List.mem_cons_self ..) hz hd (hm_cons ⟨by rw [T.c_BadForm]; exact T.xd_BadForm, by rw [T.c_BadForm]; exact T.kq_BadForm.2.1⟩ (hm_cons ⟨by rw [T.c_NoRows]; exact T.xd_NoRows, by rw [T.c_NoRows]; exact T.kq_BadForm.2.2⟩ hm_nil)) (fun b cr => pe_callB cr (by rfl) T.n_isinstance (by decide +kernel) (pa_cons (pv 3) (pa_cons (pe_glob (by rfl) T.g_BadForm rfl) pa_nil)))) (ja_cons (je_isH (lt_of rfl) (.own T.C_NoRows) (List.mem_cons_self ..) hz hd (hm_cons ⟨by rw [T.c_BadForm]; exact T.xd_BadForm, by rw [T.c_BadForm]; exact T.kq_NoRows.2.1⟩ (hm_cons ⟨by rw [T.c_NoRows]; exact T.xd_NoRows, by rw [T.c_NoRows]; exact T.kq_NoRows.2.2⟩ hm_nil)) (fun b cr => pe_callB cr (by rfl) T.n_isinstance (by decide +kernel) (pa_cons (pv 3) (pa_cons (pe_glob (by rfl) T.g_NoRows rfl) pa_nil)))) (ja_cons (je_isH (lt_of rfl) (.ty "ValueError") (List.mem_cons_self ..) hz hd (hm_cons ⟨by rw [T.c_BadForm]; exact T.xd_BadForm, by rw [T.c_BadForm]; exact T.kq_ValueError.2.1⟩ (hm_cons ⟨by rw [T.c_NoRows]; exact T.xd_NoRows, by rw [T.c_NoRows]; exact T.kq_ValueError.2.2⟩ hm_nil)) (fun b cr => pe_callB cr (by rfl) T.n_isinstance (by decide +kernel) (pa_cons (pv 3) (pa_cons (pe_bltn (v := .ty "ValueError") (by rfl) T.n_ValueError (by decide +kernel) rfl) pa_nil)))) (ja_cons (je_v (lt_of rfl) (pv 4)) ja_nil))))))))))))
    (jss_one (js_ret (je_mv (lt_of rfl) (pv 2)))))
theorem ok_law (T : Txt K mg cn) (G_law_begunx : FnD P w K mg base cn 1 T.f_law_begunx T.fd_law_begunx ["_law_script"] S_law_begunx) (G_law_takex : FnD P w K mg base cn 1 T.f_law_takex T.fd_law_takex ["_law_state", "_law_many"] S_law_takex) (G_law_poolg : FnD P w K mg base cn 3 T.f_law_poolg T.fd_law_poolg ["_law_state"] S_law_poolg) (G_law_form : FnD P w K mg base cn 2 T.f_law_form T.fd_law_form ["_law_state", "_law_pool_here", "_law_many"] S_law_form) (G_law_stretchg : FnD P w K mg base cn 4 T.f_law_stretchg T.fd_law_stretchg ["_law_state", "_law_pool_here", "_law_shape", "_law_holes"] S_law_stretchg) (G_law_asked : FnD P w K mg base cn 8 T.f_law_asked T.fd_law_asked ["_law_lines", "_law_shape"] S_law_asked) (G_law_odd : FnD P w K mg base cn 2 T.f_law_odd T.fd_law_odd ["_law_state", "_law_shape", "_law_holes"] S_law_odd) (G_law_opened : FnD P w K mg base cn 2 T.f_law_opened T.fd_law_opened ["_law_state", "_law_rows", "_law_most"] S_law_opened) (G_law_copyg : FnD P w K mg base cn 1 T.f_law_copyg T.fd_law_copyg ["_law_rows"] S_law_copyg) (G_law_filling : FnD P w K mg base cn 1 T.f_law_filling T.fd_law_filling ["_law_shape", "_law_part"] S_law_filling) : FnD P w K mg base cn 9 T.f_law T.fd_law ["_law_script"] S_law := by
  refine def_mk T.F_law sc_law (by decide) len_law sem_law rfl fun cdv A outer s H E hr => ?_
  have hu65 := hu65_of hr
  have hu1 := hu_of hr
  have tks := takes_of (X := cxOf (L2.CX P w) P w K mg base ["_law_script", "_law_state", "_law_way", "_law_pool_here", "_law_many", "_law_shape", "_law_holes", "_law_lines", "_law_odd_here", "_law_handed", "_law_found", "_law_due", "_law_at"] "law" (defScope s_law) T.f_law cdv A outer s H E) rfl rfl rfl rfl
  exact (jss_cons (js_set (i := 1) (lt_of rfl) (ps_set sc_law.nd rfl (by first | exact Or.inl rfl | exact Or.inr rfl) (je_callN (ms := [false]) (G_law_begunx.mono (by decide)) hr (by rfl) T.m_law_begunx T.F_law_begunx.kp T.b_law_begunx tks (ja_cons (je_v (lt_of rfl) (pv 0)) ja_nil))))
    (jss_cons (js_set (i := 2) (lt_of rfl) (ps_set sc_law.nd rfl (by first | exact Or.inl rfl | exact Or.inr rfl) (je_callN (ms := [true, false]) (G_law_takex.mono (by decide)) hr (by rfl) T.m_law_takex T.F_law_takex.kp T.b_law_takex tks (ja_cons (je_v (lt_of rfl) (pv 1)) (ja_cons (je_c pe_int) ja_nil)))))
    (jss_cons (js_set (i := 3) (lt_of rfl) (ps_set sc_law.nd rfl (by first | exact Or.inl rfl | exact Or.inr rfl) (je_callN (ms := [true]) (G_law_poolg.mono (by decide)) hr (by rfl) T.m_law_poolg T.F_law_poolg.kp T.b_law_poolg tks (ja_cons (je_v (lt_of rfl) (pv 1)) ja_nil))))
    (jss_cons (js_set (i := 4) (lt_of rfl) (ps_set sc_law.nd rfl (by first | exact Or.inl rfl | exact Or.inr rfl) (je_ixS hu1 (je_lst (ja_cons (je_c pe_int) (ja_cons (je_op o_add s_add (je_c pe_int) (je_callN (ms := [true, false]) (G_law_takex.mono (by decide)) hr (by rfl) T.m_law_takex T.F_law_takex.kp T.b_law_takex tks (ja_cons (je_v (lt_of rfl) (pv 1)) (ja_cons (je_c pe_int) ja_nil)))) (ja_cons (je_fz (je_callN (ms := [true, false]) (G_law_takex.mono (by decide)) hr (by rfl) T.m_law_takex T.F_law_takex.kp T.b_law_takex tks (ja_cons (je_v (lt_of rfl) (pv 1)) (ja_cons (je_c pe_int) ja_nil)))) ja_nil)))) (je_callN (ms := [true, false]) (G_law_takex.mono (by decide)) hr (by rfl) T.m_law_takex T.F_law_takex.kp T.b_law_takex tks (ja_cons (je_v (lt_of rfl) (pv 1)) (ja_cons (je_c pe_int) ja_nil))) (fun _ _ => rfl))))
    (jss_cons (js_asg2 (ps_asg (je_callN (ms := [true, false, false]) (G_law_form.mono (by decide)) hr (by rfl) T.m_law_form T.F_law_form.kp T.b_law_form tks (ja_cons (je_v (lt_of rfl) (pv 1)) (ja_cons (je_v (lt_of rfl) (pv 3)) (ja_cons (je_v (lt_of rfl) (pv 4)) ja_nil)))) (jg_tup (S := [5, 6]) (n := 2) rfl (jgs_cons (jg_mono (S' := [5, 6]) (jg_name (lt_of rfl) (pg_name (i := 5) sc_law.nd rfl (by first | exact Or.inl rfl | exact Or.inr rfl))) (by decide)) (jgs_cons (jg_mono (S' := [5, 6]) (jg_name (lt_of rfl) (pg_name (i := 6) sc_law.nd rfl (by first | exact Or.inl rfl | exact Or.inr rfl))) (by decide)) jgs_nil)))))
    (jss_cons (js_if (jt_cmp (o_eq hu65) s_eq (je_v (lt_of rfl) (pv 2)) (je_c pe_int) (nomark _)) (jss_cons (js_set (i := 6) (lt_of rfl) (ps_set sc_law.nd rfl (by first | exact Or.inl rfl | exact Or.inr rfl) (je_c pe_int)))
    (jss_one (js_set (i := 5) (lt_of rfl) (ps_set sc_law.nd rfl (by first | exact Or.inl rfl | exact Or.inr rfl) (je_lst (ja_cons (je_lrg1 rfl (by rfl) T.n_range (by rfl) T.n_list (je_c pe_int)) ja_nil)))))) jss_nil)
    (jss_cons (js_frz (js_set (i := 7) (lt_of rfl) (ps_set sc_law.nd rfl (by first | exact Or.inl rfl | exact Or.inr rfl) (je_callN (ms := [true, false, false, false]) (G_law_stretchg.mono (by decide)) hr (by rfl) T.m_law_stretchg T.F_law_stretchg.kp T.b_law_stretchg tks (ja_cons (je_v (lt_of rfl) (pv 1)) (ja_cons (je_v (lt_of rfl) (pv 3)) (ja_cons (je_v (lt_of rfl) (pv 5)) (ja_cons (je_v (lt_of rfl) (pv 6)) ja_nil))))))))
    (jss_cons (js_if (jt_cmp (o_eq hu65) s_eq (je_v (lt_of rfl) (pv 2)) (je_c pe_int) (nomark _)) (jss_cons (js_set (i := 8) (lt_of rfl) (ps_set sc_law.nd rfl (by first | exact Or.inl rfl | exact Or.inr rfl) (je_callN (ms := [true, false, false]) (G_law_odd.mono (by decide)) hr (by rfl) T.m_law_odd T.F_law_odd.kp T.b_law_odd tks (ja_cons (je_v (lt_of rfl) (pv 1)) (ja_cons (je_v (lt_of rfl) (pv 5)) (ja_cons (je_v (lt_of rfl) (pv 6)) ja_nil))))))
    (jss_one (js_ret (je_cmp (o_eq hu65) s_eq (je_callN (ms := [false, false]) (G_law_asked.mono (by decide)) hr (by rfl) T.m_law_asked T.F_law_asked.kp T.b_law_asked tks (ja_cons (je_callN (ms := [false]) (G_law_copyg.mono (by decide)) hr (by rfl) T.m_law_copyg T.F_law_copyg.kp T.b_law_copyg tks (ja_cons (je_v (lt_of rfl) (pv 7)) ja_nil)) (ja_cons (je_v (lt_of rfl) (pv 8)) ja_nil))) (je_tup (ja_cons (je_c pe_bl) (ja_cons (je_c pe_bl) (ja_cons (je_c pe_bl) (ja_cons (je_tup (ja_cons (je_c pe_bl) (ja_cons (je_c pe_bl) (ja_cons (je_c pe_bl) ja_nil)))) ja_nil))))) (nomark _))))) jss_nil)
    (jss_cons (js_if (jt_cmp (o_eq hu65) s_eq (je_v (lt_of rfl) (pv 2)) (je_c pe_int) (nomark _)) (jss_one (js_set (i := 5) (lt_of rfl) (ps_set sc_law.nd rfl (by first | exact Or.inl rfl | exact Or.inr rfl) (je_callN (ms := [true, false, false]) (G_law_opened.mono (by decide)) hr (by rfl) T.m_law_opened T.F_law_opened.kp T.b_law_opened tks (ja_cons (je_v (lt_of rfl) (pv 1)) (ja_cons (je_cut (je_v (lt_of rfl) (pv 7)) (jo_some (je_callN (ms := [true, false]) (G_law_takex.mono (by decide)) hr (by rfl) T.m_law_takex T.F_law_takex.kp T.b_law_takex tks (ja_cons (je_v (lt_of rfl) (pv 1)) (ja_cons (je_op o_add s_add (je_cb s_len (pe_callB o_len (by rfl) T.n_len boot_len (ja_cons (je_v (lt_of rfl) (pv 7)) ja_nil))) (je_c pe_int)) ja_nil)))) jo_none) (ja_cons (je_ixS hu1 (je_lst (ja_cons (je_c pe_int) (ja_cons (je_c pe_int) ja_nil))) (je_callN (ms := [true, false]) (G_law_takex.mono (by decide)) hr (by rfl) T.m_law_takex T.F_law_takex.kp T.b_law_takex tks (ja_cons (je_v (lt_of rfl) (pv 1)) (ja_cons (je_c pe_int) ja_nil))) (fun _ _ => rfl)) ja_nil))))))) jss_nil)
    (jss_cons (js_frz (js_set (i := 9) (lt_of rfl) (ps_set sc_law.nd rfl (by first | exact Or.inl rfl | exact Or.inr rfl) (je_fz (je_lst (ja_cons (je_callN (ms := [false]) (G_law_copyg.mono (by decide)) hr (by rfl) T.m_law_copyg T.F_law_copyg.kp T.b_law_copyg tks (ja_cons (je_v (lt_of rfl) (pv 7)) ja_nil)) (ja_cons (je_callN (ms := [false]) (G_law_copyg.mono (by decide)) hr (by rfl) T.m_law_copyg T.F_law_copyg.kp T.b_law_copyg tks (ja_cons (je_v (lt_of rfl) (pv 5)) ja_nil)) ja_nil)))))))
    (jss_cons (js_set (i := 10) (lt_of rfl) (ps_set sc_law.nd rfl (by first | exact Or.inl rfl | exact Or.inr rfl) (je_callN (ms := [false, false]) (G_law_asked.mono (by decide)) hr (by rfl) T.m_law_asked T.F_law_asked.kp T.b_law_asked tks (ja_cons (je_ixS hu1 (je_v (lt_of rfl) (pv 9)) (je_c pe_int) (fun _ _ => rfl)) (ja_cons (je_ixS hu1 (je_v (lt_of rfl) (pv 9)) (je_c pe_int) (fun _ _ => rfl)) ja_nil)))))
    (jss_cons (js_if (jt_cmp (o_eq hu65) s_eq (je_v (lt_of rfl) (pv 5)) (je_lst ja_nil) (nomark _)) (jss_one (js_ret (je_cmp (o_eq hu65) s_eq (je_v (lt_of rfl) (pv 10)) (je_tup (ja_cons (je_c pe_bl) (ja_cons (je_c pe_bl) (ja_cons (je_c pe_bl) (ja_cons (je_tup (ja_cons (je_c pe_bl) (ja_cons (je_c pe_bl) (ja_cons (je_c pe_bl) ja_nil)))) ja_nil))))) (nomark _)))) jss_nil)
    (jss_cons (js_setLc (i := 11) (lt_of rfl) (ps_setLc (i := 11) (own := [("_law_at", 12)]) rfl sc_law.nd rfl rfl (sw_true rfl rfl rfl (by decide +kernel)) (ji_rng1 (pi_range1 (by rfl) T.n_range (ja_cons (je_cb s_len (pe_callB o_len (by rfl) T.n_len boot_len (ja_cons (je_v (lt_of rfl) (pv 7)) ja_nil))) ja_nil))) (blkOk_by (N := ["_law_script", "_law_state", "_law_way", "_law_pool_here", "_law_many", "_law_shape", "_law_holes", "_law_lines", "_law_odd_here", "_law_handed", "_law_found", "_law_due", "_law_at"]) (sc := (defScope s_law)) (by decide +kernel)) (fun _ _ _ _ _ => (jg_name (lt_of rfl) (pg_name (i := 12) sc_law.nd rfl (by first | exact Or.inl rfl | exact Or.inr rfl)))) (fun _ _ _ _ _ => (jts_one (jt_cmp op_notN s_notN (je_callN (ms := [false, false]) (G_law_filling.mono (by decide)) hr (by rfl) T.m_law_filling T.F_law_filling.kp T.b_law_filling takes0 (ja_cons (je_v (lt_of rfl) (pv 5)) (ja_cons (je_cut (je_v (lt_of rfl) (pv 7)) (jo_some (je_v (lt_of rfl) (pv 12))) (jo_some (je_op o_add s_add (je_v (lt_of rfl) (pv 12)) (je_cb s_len (pe_callB o_len (by rfl) T.n_len boot_len (ja_cons (je_v (lt_of rfl) (pv 5)) ja_nil)))))) ja_nil))) (je_c pe_non) (nomark _)))) (fun _ _ _ _ _ => (je_v (lt_of rfl) (pv 12)))))
    (jss_cons (js_if (jw_t (jw_or (jt_cmp (o_ne hu65) s_ne (je_v (lt_of rfl) (pv 10)) (je_v (lt_of rfl) (pv 11)) (nomark _)) (jw_or1 (jt_val (je_lend (je_cb s_any (pe_callB (cr_any rfl) (by rfl) T.n_any (by decide +kernel) (ja_cons (je_lc (pe_lc (own := [("_law_at", 12)]) rfl sc_law.nd (ji_seq (je_v (lt_of rfl) (pv 10))) (blkOk_by (N := ["_law_script", "_law_state", "_law_way", "_law_pool_here", "_law_many", "_law_shape", "_law_holes", "_law_lines", "_law_odd_here", "_law_handed", "_law_found", "_law_due", "_law_at"]) (sc := (defScope s_law)) (by decide +kernel)) (fun _ _ _ _ _ => (jg_name (lt_of rfl) (pg_name (i := 12) sc_law.nd rfl (by first | exact Or.inl rfl | exact Or.inr rfl)))) (fun _ _ _ _ _ => jts_nil) (fun _ _ _ _ _ => (je_cb s_isi (pe_callB call_isi (by rfl) T.n_isinstance (by decide +kernel) (ja_cons (je_v (lt_of rfl) (pv 12)) (ja_cons (je_c (pe_bltn (v := .ty "bool") (by rfl) T.n_bool (by decide +kernel) rfl)) ja_nil))))))) ja_nil)))))))) (jss_one (js_ret (je_c pe_bl))) jss_nil)
    (jss_cons (js_expr (je_mut m_append (lt_of rfl) (pe_bm PySem.F.plainAttrs_list PySem.F.slot_list_append PySem.F.type_list_append mt_append (pv 10) (ja_cons (je_c pe_int) ja_nil))))
    (jss_one (js_ret (je_cmp (o_eq hu65) s_eq (je_v (lt_of rfl) (pv 9)) (je_lst (ja_cons (je_v (lt_of rfl) (pv 7)) (ja_cons (je_v (lt_of rfl) (pv 5)) ja_nil))) (nomark _)))))))))))))))))))
end
theorem all_mk {l : PySem.W.OpenLaw} {w : World} {K : PySem.W.Frag} {h : Heap} {mg : Str → Option Value} {fa : Addr} (X : K.In h) (G : h.Ns mainGlobals mg) (hfa : mg "law" = some (.ref fa))
    {f_is_plain : Addr} {od_is_plain an_is_plain : Option Addr} {sl_is_plain : Array (Option Value)} {oc_is_plain kV_is_plain dc_is_plain pm_is_plain cd_is_plain ct_is_plain : Value}
    {f_sort_of : Addr} {od_sort_of an_sort_of : Option Addr} {sl_sort_of : Array (Option Value)} {oc_sort_of kV_sort_of dc_sort_of pm_sort_of cd_sort_of ct_sort_of : Value}
    {f_end_of : Addr} {od_end_of an_end_of : Option Addr} {sl_end_of : Array (Option Value)} {oc_end_of kV_end_of dc_end_of pm_end_of cd_end_of ct_end_of : Value}
    {f_parts_of : Addr} {od_parts_of an_parts_of : Option Addr} {sl_parts_of : Array (Option Value)} {oc_parts_of kV_parts_of dc_parts_of pm_parts_of cd_parts_of ct_parts_of : Value}
    {f_is_word : Addr} {od_is_word an_is_word : Option Addr} {sl_is_word : Array (Option Value)} {oc_is_word kV_is_word dc_is_word pm_is_word cd_is_word ct_is_word : Value}
    {f_is_hole : Addr} {od_is_hole an_is_hole : Option Addr} {sl_is_hole : Array (Option Value)} {oc_is_hole kV_is_hole dc_is_hole pm_is_hole cd_is_hole ct_is_hole : Value}
    {f_is_tablex : Addr} {od_is_tablex an_is_tablex : Option Addr} {sl_is_tablex : Array (Option Value)} {oc_is_tablex kV_is_tablex dc_is_tablex pm_is_tablex cd_is_tablex ct_is_tablex : Value}
    {f_items_ofx : Addr} {od_items_ofx an_items_ofx : Option Addr} {sl_items_ofx : Array (Option Value)} {oc_items_ofx kV_items_ofx dc_items_ofx pm_items_ofx cd_items_ofx ct_items_ofx : Value}
    {f_is_formx : Addr} {od_is_formx an_is_formx : Option Addr} {sl_is_formx : Array (Option Value)} {oc_is_formx kV_is_formx dc_is_formx pm_is_formx cd_is_formx ct_is_formx : Value}
    {f_need_formx : Addr} {od_need_formx an_need_formx : Option Addr} {sl_need_formx : Array (Option Value)} {oc_need_formx kV_need_formx dc_need_formx pm_need_formx cd_need_formx ct_need_formx : Value}
    {f_shape_of : Addr} {od_shape_of an_shape_of : Option Addr} {sl_shape_of : Array (Option Value)} {oc_shape_of kV_shape_of dc_shape_of pm_shape_of cd_shape_of ct_shape_of : Value}
    {f_led_by : Addr} {od_led_by an_led_by : Option Addr} {sl_led_by : Array (Option Value)} {oc_led_by kV_led_by dc_led_by pm_led_by cd_led_by ct_led_by : Value}
    {f_is_fit : Addr} {od_is_fit an_is_fit : Option Addr} {sl_is_fit : Array (Option Value)} {oc_is_fit kV_is_fit dc_is_fit pm_is_fit cd_is_fit ct_is_fit : Value}
    {f_fitting : Addr} {od_fitting an_fitting : Option Addr} {sl_fitting : Array (Option Value)} {oc_fitting kV_fitting dc_fitting pm_fitting cd_fitting ct_fitting : Value}
    {f_law_begunx : Addr} {od_law_begunx an_law_begunx : Option Addr} {sl_law_begunx : Array (Option Value)} {oc_law_begunx kV_law_begunx dc_law_begunx pm_law_begunx cd_law_begunx ct_law_begunx : Value}
    {f_law_takex : Addr} {od_law_takex an_law_takex : Option Addr} {sl_law_takex : Array (Option Value)} {oc_law_takex kV_law_takex dc_law_takex pm_law_takex cd_law_takex ct_law_takex : Value}
    {f_law_kept : Addr} {od_law_kept an_law_kept : Option Addr} {sl_law_kept : Array (Option Value)} {oc_law_kept kV_law_kept dc_law_kept pm_law_kept cd_law_kept ct_law_kept : Value}
    {f_law_wordg : Addr} {od_law_wordg an_law_wordg : Option Addr} {sl_law_wordg : Array (Option Value)} {oc_law_wordg kV_law_wordg dc_law_wordg pm_law_wordg cd_law_wordg ct_law_wordg : Value}
    {f_law_poolg : Addr} {od_law_poolg an_law_poolg : Option Addr} {sl_law_poolg : Array (Option Value)} {oc_law_poolg kV_law_poolg dc_law_poolg pm_law_poolg cd_law_poolg ct_law_poolg : Value}
    {f_law_words : Addr} {od_law_words an_law_words : Option Addr} {sl_law_words : Array (Option Value)} {oc_law_words kV_law_words dc_law_words pm_law_words cd_law_words ct_law_words : Value}
    {f_law_form : Addr} {od_law_form an_law_form : Option Addr} {sl_law_form : Array (Option Value)} {oc_law_form kV_law_form dc_law_form pm_law_form cd_law_form ct_law_form : Value}
    {f_law_putg : Addr} {od_law_putg an_law_putg : Option Addr} {sl_law_putg : Array (Option Value)} {oc_law_putg kV_law_putg dc_law_putg pm_law_putg cd_law_putg ct_law_putg : Value}
    {f_law_spoiltg : Addr} {od_law_spoiltg an_law_spoiltg : Option Addr} {sl_law_spoiltg : Array (Option Value)} {oc_law_spoiltg kV_law_spoiltg dc_law_spoiltg pm_law_spoiltg cd_law_spoiltg ct_law_spoiltg : Value}
    {f_law_stretchg : Addr} {od_law_stretchg an_law_stretchg : Option Addr} {sl_law_stretchg : Array (Option Value)} {oc_law_stretchg kV_law_stretchg dc_law_stretchg pm_law_stretchg cd_law_stretchg ct_law_stretchg : Value}
    {f_law_filling : Addr} {od_law_filling an_law_filling : Option Addr} {sl_law_filling : Array (Option Value)} {oc_law_filling kV_law_filling dc_law_filling pm_law_filling cd_law_filling ct_law_filling : Value}
    {f_law_odd : Addr} {od_law_odd an_law_odd : Option Addr} {sl_law_odd : Array (Option Value)} {oc_law_odd kV_law_odd dc_law_odd pm_law_odd cd_law_odd ct_law_odd : Value}
    {f_law_opened : Addr} {od_law_opened an_law_opened : Option Addr} {sl_law_opened : Array (Option Value)} {oc_law_opened kV_law_opened dc_law_opened pm_law_opened cd_law_opened ct_law_opened : Value}
    {f_law_copyg : Addr} {od_law_copyg an_law_copyg : Option Addr} {sl_law_copyg : Array (Option Value)} {oc_law_copyg kV_law_copyg dc_law_copyg pm_law_copyg cd_law_copyg ct_law_copyg : Value}
    {f_law_asked : Addr} {od_law_asked an_law_asked : Option Addr} {sl_law_asked : Array (Option Value)} {oc_law_asked kV_law_asked dc_law_asked pm_law_asked cd_law_asked ct_law_asked : Value}
    {f_law : Addr} {od_law an_law : Option Addr} {sl_law : Array (Option Value)} {oc_law kV_law dc_law pm_law cd_law ct_law : Value}
    (a_is_plain : PySem.W.nsIn K mainGlobals "is_plain" = some (some (.ref f_is_plain))) (l_is_plain : K.lookup f_is_plain = some ⟨oc_is_plain, od_is_plain, .func (PySem.W.fnOf "is_plain" "is_plain" (defArgs s_is_plain) (defBody s_is_plain) (defScope s_is_plain) .none kV_is_plain dc_is_plain pm_is_plain an_is_plain cd_is_plain ct_is_plain), sl_is_plain⟩) (c_is_plain : PySem.W.codeIn K cd_is_plain "is_plain" = true) (k_is_plain : PySem.W.keepIn K (.ref f_is_plain) = true)
    (a_sort_of : PySem.W.nsIn K mainGlobals "sort_of" = some (some (.ref f_sort_of))) (l_sort_of : K.lookup f_sort_of = some ⟨oc_sort_of, od_sort_of, .func (PySem.W.fnOf "sort_of" "sort_of" (defArgs s_sort_of) (defBody s_sort_of) (defScope s_sort_of) .none kV_sort_of dc_sort_of pm_sort_of an_sort_of cd_sort_of ct_sort_of), sl_sort_of⟩) (c_sort_of : PySem.W.codeIn K cd_sort_of "sort_of" = true) (k_sort_of : PySem.W.keepIn K (.ref f_sort_of) = true)
    (a_end_of : PySem.W.nsIn K mainGlobals "end_of" = some (some (.ref f_end_of))) (l_end_of : K.lookup f_end_of = some ⟨oc_end_of, od_end_of, .func (PySem.W.fnOf "end_of" "end_of" (defArgs s_end_of) (defBody s_end_of) (defScope s_end_of) .none kV_end_of dc_end_of pm_end_of an_end_of cd_end_of ct_end_of), sl_end_of⟩) (c_end_of : PySem.W.codeIn K cd_end_of "end_of" = true) (k_end_of : PySem.W.keepIn K (.ref f_end_of) = true)
    (a_parts_of : PySem.W.nsIn K mainGlobals "parts_of" = some (some (.ref f_parts_of))) (l_parts_of : K.lookup f_parts_of = some ⟨oc_parts_of, od_parts_of, .func (PySem.W.fnOf "parts_of" "parts_of" (defArgs s_parts_of) (defBody s_parts_of) (defScope s_parts_of) .none kV_parts_of dc_parts_of pm_parts_of an_parts_of cd_parts_of ct_parts_of), sl_parts_of⟩) (c_parts_of : PySem.W.codeIn K cd_parts_of "parts_of" = true) (k_parts_of : PySem.W.keepIn K (.ref f_parts_of) = true)
    (a_is_word : PySem.W.nsIn K mainGlobals "is_word" = some (some (.ref f_is_word))) (l_is_word : K.lookup f_is_word = some ⟨oc_is_word, od_is_word, .func (PySem.W.fnOf "is_word" "is_word" (defArgs s_is_word) (defBody s_is_word) (defScope s_is_word) .none kV_is_word dc_is_word pm_is_word an_is_word cd_is_word ct_is_word), sl_is_word⟩) (c_is_word : PySem.W.codeIn K cd_is_word "is_word" = true) (k_is_word : PySem.W.keepIn K (.ref f_is_word) = true)
    (a_is_hole : PySem.W.nsIn K mainGlobals "is_hole" = some (some (.ref f_is_hole))) (l_is_hole : K.lookup f_is_hole = some ⟨oc_is_hole, od_is_hole, .func (PySem.W.fnOf "is_hole" "is_hole" (defArgs s_is_hole) (defBody s_is_hole) (defScope s_is_hole) .none kV_is_hole dc_is_hole pm_is_hole an_is_hole cd_is_hole ct_is_hole), sl_is_hole⟩) (c_is_hole : PySem.W.codeIn K cd_is_hole "is_hole" = true) (k_is_hole : PySem.W.keepIn K (.ref f_is_hole) = true)
    (a_is_tablex : PySem.W.nsIn K mainGlobals "is_table" = some (some (.ref f_is_tablex))) (l_is_tablex : K.lookup f_is_tablex = some ⟨oc_is_tablex, od_is_tablex, .func (PySem.W.fnOf "is_table" "is_table" (defArgs s_is_tablex) (defBody s_is_tablex) (defScope s_is_tablex) .none kV_is_tablex dc_is_tablex pm_is_tablex an_is_tablex cd_is_tablex ct_is_tablex), sl_is_tablex⟩) (c_is_tablex : PySem.W.codeIn K cd_is_tablex "is_table" = true) (k_is_tablex : PySem.W.keepIn K (.ref f_is_tablex) = true)
    (a_items_ofx : PySem.W.nsIn K mainGlobals "items_of" = some (some (.ref f_items_ofx))) (l_items_ofx : K.lookup f_items_ofx = some ⟨oc_items_ofx, od_items_ofx, .func (PySem.W.fnOf "items_of" "items_of" (defArgs s_items_ofx) (defBody s_items_ofx) (defScope s_items_ofx) .none kV_items_ofx dc_items_ofx pm_items_ofx an_items_ofx cd_items_ofx ct_items_ofx), sl_items_ofx⟩) (c_items_ofx : PySem.W.codeIn K cd_items_ofx "items_of" = true) (k_items_ofx : PySem.W.keepIn K (.ref f_items_ofx) = true)
    (a_is_formx : PySem.W.nsIn K mainGlobals "is_form" = some (some (.ref f_is_formx))) (l_is_formx : K.lookup f_is_formx = some ⟨oc_is_formx, od_is_formx, .func (PySem.W.fnOf "is_form" "is_form" (defArgs s_is_formx) (defBody s_is_formx) (defScope s_is_formx) .none kV_is_formx dc_is_formx pm_is_formx an_is_formx cd_is_formx ct_is_formx), sl_is_formx⟩) (c_is_formx : PySem.W.codeIn K cd_is_formx "is_form" = true) (k_is_formx : PySem.W.keepIn K (.ref f_is_formx) = true)
    (a_need_formx : PySem.W.nsIn K mainGlobals "need_form" = some (some (.ref f_need_formx))) (l_need_formx : K.lookup f_need_formx = some ⟨oc_need_formx, od_need_formx, .func (PySem.W.fnOf "need_form" "need_form" (defArgs s_need_formx) (defBody s_need_formx) (defScope s_need_formx) .none kV_need_formx dc_need_formx pm_need_formx an_need_formx cd_need_formx ct_need_formx), sl_need_formx⟩) (c_need_formx : PySem.W.codeIn K cd_need_formx "need_form" = true) (k_need_formx : PySem.W.keepIn K (.ref f_need_formx) = true)
    (a_shape_of : PySem.W.nsIn K mainGlobals "shape_of" = some (some (.ref f_shape_of))) (l_shape_of : K.lookup f_shape_of = some ⟨oc_shape_of, od_shape_of, .func (PySem.W.fnOf "shape_of" "shape_of" (defArgs s_shape_of) (defBody s_shape_of) (defScope s_shape_of) .none kV_shape_of dc_shape_of pm_shape_of an_shape_of cd_shape_of ct_shape_of), sl_shape_of⟩) (c_shape_of : PySem.W.codeIn K cd_shape_of "shape_of" = true) (k_shape_of : PySem.W.keepIn K (.ref f_shape_of) = true)
    (a_led_by : PySem.W.nsIn K mainGlobals "led_by" = some (some (.ref f_led_by))) (l_led_by : K.lookup f_led_by = some ⟨oc_led_by, od_led_by, .func (PySem.W.fnOf "led_by" "led_by" (defArgs s_led_by) (defBody s_led_by) (defScope s_led_by) .none kV_led_by dc_led_by pm_led_by an_led_by cd_led_by ct_led_by), sl_led_by⟩) (c_led_by : PySem.W.codeIn K cd_led_by "led_by" = true) (k_led_by : PySem.W.keepIn K (.ref f_led_by) = true)
    (a_is_fit : PySem.W.nsIn K mainGlobals "is_fit" = some (some (.ref f_is_fit))) (l_is_fit : K.lookup f_is_fit = some ⟨oc_is_fit, od_is_fit, .func (PySem.W.fnOf "is_fit" "is_fit" (defArgs s_is_fit) (defBody s_is_fit) (defScope s_is_fit) .none kV_is_fit dc_is_fit pm_is_fit an_is_fit cd_is_fit ct_is_fit), sl_is_fit⟩) (c_is_fit : PySem.W.codeIn K cd_is_fit "is_fit" = true) (k_is_fit : PySem.W.keepIn K (.ref f_is_fit) = true)
    (a_fitting : PySem.W.nsIn K mainGlobals "fitting" = some (some (.ref f_fitting))) (l_fitting : K.lookup f_fitting = some ⟨oc_fitting, od_fitting, .func (PySem.W.fnOf "fitting" "fitting" (defArgs s_fitting) (defBody s_fitting) (defScope s_fitting) .none kV_fitting dc_fitting pm_fitting an_fitting cd_fitting ct_fitting), sl_fitting⟩) (c_fitting : PySem.W.codeIn K cd_fitting "fitting" = true) (k_fitting : PySem.W.keepIn K (.ref f_fitting) = true)
    (a_law_begunx : PySem.W.nsIn K mainGlobals "_law_begun" = some (some (.ref f_law_begunx))) (l_law_begunx : K.lookup f_law_begunx = some ⟨oc_law_begunx, od_law_begunx, .func (PySem.W.fnOf "_law_begun" "_law_begun" (defArgs s_law_begunx) (defBody s_law_begunx) (defScope s_law_begunx) .none kV_law_begunx dc_law_begunx pm_law_begunx an_law_begunx cd_law_begunx ct_law_begunx), sl_law_begunx⟩) (c_law_begunx : PySem.W.codeIn K cd_law_begunx "_law_begun" = true) (k_law_begunx : PySem.W.keepIn K (.ref f_law_begunx) = true)
    (a_law_takex : PySem.W.nsIn K mainGlobals "_law_take" = some (some (.ref f_law_takex))) (l_law_takex : K.lookup f_law_takex = some ⟨oc_law_takex, od_law_takex, .func (PySem.W.fnOf "_law_take" "_law_take" (defArgs s_law_takex) (defBody s_law_takex) (defScope s_law_takex) .none kV_law_takex dc_law_takex pm_law_takex an_law_takex cd_law_takex ct_law_takex), sl_law_takex⟩) (c_law_takex : PySem.W.codeIn K cd_law_takex "_law_take" = true) (k_law_takex : PySem.W.keepIn K (.ref f_law_takex) = true)
    (a_law_kept : PySem.W.nsIn K mainGlobals "_law_kept" = some (some (.ref f_law_kept))) (l_law_kept : K.lookup f_law_kept = some ⟨oc_law_kept, od_law_kept, .func (PySem.W.fnOf "_law_kept" "_law_kept" (defArgs s_law_kept) (defBody s_law_kept) (defScope s_law_kept) .none kV_law_kept dc_law_kept pm_law_kept an_law_kept cd_law_kept ct_law_kept), sl_law_kept⟩) (c_law_kept : PySem.W.codeIn K cd_law_kept "_law_kept" = true) (k_law_kept : PySem.W.keepIn K (.ref f_law_kept) = true)
    (a_law_wordg : PySem.W.nsIn K mainGlobals "_law_word" = some (some (.ref f_law_wordg))) (l_law_wordg : K.lookup f_law_wordg = some ⟨oc_law_wordg, od_law_wordg, .func (PySem.W.fnOf "_law_word" "_law_word" (defArgs s_law_wordg) (defBody s_law_wordg) (defScope s_law_wordg) .none kV_law_wordg dc_law_wordg pm_law_wordg an_law_wordg cd_law_wordg ct_law_wordg), sl_law_wordg⟩) (c_law_wordg : PySem.W.codeIn K cd_law_wordg "_law_word" = true) (k_law_wordg : PySem.W.keepIn K (.ref f_law_wordg) = true)
    (a_law_poolg : PySem.W.nsIn K mainGlobals "_law_pool" = some (some (.ref f_law_poolg))) (l_law_poolg : K.lookup f_law_poolg = some ⟨oc_law_poolg, od_law_poolg, .func (PySem.W.fnOf "_law_pool" "_law_pool" (defArgs s_law_poolg) (defBody s_law_poolg) (defScope s_law_poolg) .none kV_law_poolg dc_law_poolg pm_law_poolg an_law_poolg cd_law_poolg ct_law_poolg), sl_law_poolg⟩) (c_law_poolg : PySem.W.codeIn K cd_law_poolg "_law_pool" = true) (k_law_poolg : PySem.W.keepIn K (.ref f_law_poolg) = true)
    (a_law_words : PySem.W.nsIn K mainGlobals "_law_words" = some (some (.ref f_law_words))) (l_law_words : K.lookup f_law_words = some ⟨oc_law_words, od_law_words, .func (PySem.W.fnOf "_law_words" "_law_words" (defArgs s_law_words) (defBody s_law_words) (defScope s_law_words) .none kV_law_words dc_law_words pm_law_words an_law_words cd_law_words ct_law_words), sl_law_words⟩) (c_law_words : PySem.W.codeIn K cd_law_words "_law_words" = true) (k_law_words : PySem.W.keepIn K (.ref f_law_words) = true)
    (a_law_form : PySem.W.nsIn K mainGlobals "_law_form" = some (some (.ref f_law_form))) (l_law_form : K.lookup f_law_form = some ⟨oc_law_form, od_law_form, .func (PySem.W.fnOf "_law_form" "_law_form" (defArgs s_law_form) (defBody s_law_form) (defScope s_law_form) .none kV_law_form dc_law_form pm_law_form an_law_form cd_law_form ct_law_form), sl_law_form⟩) (c_law_form : PySem.W.codeIn K cd_law_form "_law_form" = true) (k_law_form : PySem.W.keepIn K (.ref f_law_form) = true)
    (a_law_putg : PySem.W.nsIn K mainGlobals "_law_put" = some (some (.ref f_law_putg))) (l_law_putg : K.lookup f_law_putg = some ⟨oc_law_putg, od_law_putg, .func (PySem.W.fnOf "_law_put" "_law_put" (defArgs s_law_putg) (defBody s_law_putg) (defScope s_law_putg) .none kV_law_putg dc_law_putg pm_law_putg an_law_putg cd_law_putg ct_law_putg), sl_law_putg⟩) (c_law_putg : PySem.W.codeIn K cd_law_putg "_law_put" = true) (k_law_putg : PySem.W.keepIn K (.ref f_law_putg) = true)
    (a_law_spoiltg : PySem.W.nsIn K mainGlobals "_law_spoilt" = some (some (.ref f_law_spoiltg))) (l_law_spoiltg : K.lookup f_law_spoiltg = some ⟨oc_law_spoiltg, od_law_spoiltg, .func (PySem.W.fnOf "_law_spoilt" "_law_spoilt" (defArgs s_law_spoiltg) (defBody s_law_spoiltg) (defScope s_law_spoiltg) .none kV_law_spoiltg dc_law_spoiltg pm_law_spoiltg an_law_spoiltg cd_law_spoiltg ct_law_spoiltg), sl_law_spoiltg⟩) (c_law_spoiltg : PySem.W.codeIn K cd_law_spoiltg "_law_spoilt" = true) (k_law_spoiltg : PySem.W.keepIn K (.ref f_law_spoiltg) = true)
    (a_law_stretchg : PySem.W.nsIn K mainGlobals "_law_stretch" = some (some (.ref f_law_stretchg))) (l_law_stretchg : K.lookup f_law_stretchg = some ⟨oc_law_stretchg, od_law_stretchg, .func (PySem.W.fnOf "_law_stretch" "_law_stretch" (defArgs s_law_stretchg) (defBody s_law_stretchg) (defScope s_law_stretchg) .none kV_law_stretchg dc_law_stretchg pm_law_stretchg an_law_stretchg cd_law_stretchg ct_law_stretchg), sl_law_stretchg⟩) (c_law_stretchg : PySem.W.codeIn K cd_law_stretchg "_law_stretch" = true) (k_law_stretchg : PySem.W.keepIn K (.ref f_law_stretchg) = true)
    (a_law_filling : PySem.W.nsIn K mainGlobals "_law_filling" = some (some (.ref f_law_filling))) (l_law_filling : K.lookup f_law_filling = some ⟨oc_law_filling, od_law_filling, .func (PySem.W.fnOf "_law_filling" "_law_filling" (defArgs s_law_filling) (defBody s_law_filling) (defScope s_law_filling) .none kV_law_filling dc_law_filling pm_law_filling an_law_filling cd_law_filling ct_law_filling), sl_law_filling⟩) (c_law_filling : PySem.W.codeIn K cd_law_filling "_law_filling" = true) (k_law_filling : PySem.W.keepIn K (.ref f_law_filling) = true)
    (a_law_odd : PySem.W.nsIn K mainGlobals "_law_odd" = some (some (.ref f_law_odd))) (l_law_odd : K.lookup f_law_odd = some ⟨oc_law_odd, od_law_odd, .func (PySem.W.fnOf "_law_odd" "_law_odd" (defArgs s_law_odd) (defBody s_law_odd) (defScope s_law_odd) .none kV_law_odd dc_law_odd pm_law_odd an_law_odd cd_law_odd ct_law_odd), sl_law_odd⟩) (c_law_odd : PySem.W.codeIn K cd_law_odd "_law_odd" = true) (k_law_odd : PySem.W.keepIn K (.ref f_law_odd) = true)
    (a_law_opened : PySem.W.nsIn K mainGlobals "_law_opened" = some (some (.ref f_law_opened))) (l_law_opened : K.lookup f_law_opened = some ⟨oc_law_opened, od_law_opened, .func (PySem.W.fnOf "_law_opened" "_law_opened" (defArgs s_law_opened) (defBody s_law_opened) (defScope s_law_opened) .none kV_law_opened dc_law_opened pm_law_opened an_law_opened cd_law_opened ct_law_opened), sl_law_opened⟩) (c_law_opened : PySem.W.codeIn K cd_law_opened "_law_opened" = true) (k_law_opened : PySem.W.keepIn K (.ref f_law_opened) = true)
    (a_law_copyg : PySem.W.nsIn K mainGlobals "_law_copy" = some (some (.ref f_law_copyg))) (l_law_copyg : K.lookup f_law_copyg = some ⟨oc_law_copyg, od_law_copyg, .func (PySem.W.fnOf "_law_copy" "_law_copy" (defArgs s_law_copyg) (defBody s_law_copyg) (defScope s_law_copyg) .none kV_law_copyg dc_law_copyg pm_law_copyg an_law_copyg cd_law_copyg ct_law_copyg), sl_law_copyg⟩) (c_law_copyg : PySem.W.codeIn K cd_law_copyg "_law_copy" = true) (k_law_copyg : PySem.W.keepIn K (.ref f_law_copyg) = true)
    (a_law_asked : PySem.W.nsIn K mainGlobals "_law_asked" = some (some (.ref f_law_asked))) (l_law_asked : K.lookup f_law_asked = some ⟨oc_law_asked, od_law_asked, .func (PySem.W.fnOf "_law_asked" "_law_asked" (defArgs s_law_asked) (defBody s_law_asked) (defScope s_law_asked) .none kV_law_asked dc_law_asked pm_law_asked an_law_asked cd_law_asked ct_law_asked), sl_law_asked⟩) (c_law_asked : PySem.W.codeIn K cd_law_asked "_law_asked" = true) (k_law_asked : PySem.W.keepIn K (.ref f_law_asked) = true)
    (a_law : PySem.W.nsIn K mainGlobals "law" = some (some (.ref f_law))) (l_law : K.lookup f_law = some ⟨oc_law, od_law, .func (PySem.W.fnOf "law" "law" (defArgs s_law) (defBody s_law) (defScope s_law) .none kV_law dc_law pm_law an_law cd_law ct_law), sl_law⟩) (c_law : PySem.W.codeIn K cd_law "law" = true) (k_law : PySem.W.keepIn K (.ref f_law) = true)
    (z_ValueError : PySem.W.nsIn K mainGlobals "ValueError" = some none)
    (z_all : PySem.W.nsIn K mainGlobals "all" = some none)
    (z_any : PySem.W.nsIn K mainGlobals "any" = some none)
    (z_bool : PySem.W.nsIn K mainGlobals "bool" = some none)
    (z_int : PySem.W.nsIn K mainGlobals "int" = some none)
    (z_isinstance : PySem.W.nsIn K mainGlobals "isinstance" = some none)
    (z_len : PySem.W.nsIn K mainGlobals "len" = some none)
    (z_list : PySem.W.nsIn K mainGlobals "list" = some none)
    (z_max : PySem.W.nsIn K mainGlobals "max" = some none)
    (z_range : PySem.W.nsIn K mainGlobals "range" = some none)
    (z_str : PySem.W.nsIn K mainGlobals "str" = some none)
    (z_zip : PySem.W.nsIn K mainGlobals "zip" = some none)
    {t_LONGEST : Nat} (q_LONGEST : PySem.W.nsIn K mainGlobals "LONGEST" = some (some (.int 20 t_LONGEST)))
    {t_MOST_ITEMS : Nat} (q_MOST_ITEMS : PySem.W.nsIn K mainGlobals "MOST_ITEMS" = some (some (.int 30 t_MOST_ITEMS)))
    {t_MOST_ROWS : Nat} (q_MOST_ROWS : PySem.W.nsIn K mainGlobals "MOST_ROWS" = some (some (.int 60 t_MOST_ROWS)))
    {C_BadForm : Addr} (ag_BadForm : PySem.W.nsIn K mainGlobals "BadForm" = some (some (.ref C_BadForm))) (ak_BadForm : PySem.W.keepIn K (.ref C_BadForm) = true) (ab_BadForm : PySem.W.subIn K (.ref C_BadForm) (.type "BaseException") = some true) (at_BadForm : PySem.W.typeIn K (.ref C_BadForm) = some (.type "type"))
    (ax_BadForm : PySem.W.excIn K C_BadForm [.type "ValueError", .type "Exception", .type "BaseException", .type "object"] "ValueError.__new__" = true)
    {C_KinError : Addr} (ag_KinError : PySem.W.nsIn K mainGlobals "KinError" = some (some (.ref C_KinError))) (ak_KinError : PySem.W.keepIn K (.ref C_KinError) = true) (ab_KinError : PySem.W.subIn K (.ref C_KinError) (.type "BaseException") = some true) (at_KinError : PySem.W.typeIn K (.ref C_KinError) = some (.type "type"))
    (ax_KinError : PySem.W.excIn K C_KinError [.type "ValueError", .type "Exception", .type "BaseException", .type "object"] "ValueError.__new__" = true)
    {C_NoRows : Addr} (ag_NoRows : PySem.W.nsIn K mainGlobals "NoRows" = some (some (.ref C_NoRows))) (ak_NoRows : PySem.W.keepIn K (.ref C_NoRows) = true) (ab_NoRows : PySem.W.subIn K (.ref C_NoRows) (.type "BaseException") = some true) (at_NoRows : PySem.W.typeIn K (.ref C_NoRows) = some (.type "type"))
    (ax_NoRows : PySem.W.excIn K C_NoRows [.type "ValueError", .type "Exception", .type "BaseException", .type "object"] "ValueError.__new__" = true)
    (xs0 : PySem.W.specialIn K (.builtin "object.__class__") "__get__" = some (some (.builtin "getset_descriptor.__get__"))) (xs1 : PySem.W.takesIn K (.builtin "object.__class__") = some true)
    (xi_BadForm : PySem.W.isClsIn K C_BadForm = true) (xga_BadForm : PySem.W.findIn K (.ref C_BadForm) "__getattribute__" = some (some (.builtin "BaseException.__getattribute__"))) (xgt_BadForm : PySem.W.findIn K (.ref C_BadForm) "__getattr__" = some none) (xha_BadForm : PySem.W.findIn K (.ref C_BadForm) "__class__" = some (some (.builtin "object.__class__"))) (xhm_BadForm : PySem.W.mroIn K C_BadForm (.type "object") = some true)
    (xi_NoRows : PySem.W.isClsIn K C_NoRows = true) (xga_NoRows : PySem.W.findIn K (.ref C_NoRows) "__getattribute__" = some (some (.builtin "BaseException.__getattribute__"))) (xgt_NoRows : PySem.W.findIn K (.ref C_NoRows) "__getattr__" = some none) (xha_NoRows : PySem.W.findIn K (.ref C_NoRows) "__class__" = some (some (.builtin "object.__class__"))) (xhm_NoRows : PySem.W.mroIn K C_NoRows (.type "object") = some true)
    {C_BadFilling : Addr} (ag_BadFilling : PySem.W.nsIn K mainGlobals "BadFilling" = some (some (.ref C_BadFilling))) (at_BadFilling : PySem.W.typeIn K (.ref C_BadFilling) = some (.type "type"))
    {C_NoFit : Addr} (ag_NoFit : PySem.W.nsIn K mainGlobals "NoFit" = some (some (.ref C_NoFit))) (at_NoFit : PySem.W.typeIn K (.ref C_NoFit) = some (.type "type"))
    {C_Shape : Addr} (ag_Shape : PySem.W.nsIn K mainGlobals "Shape" = some (some (.ref C_Shape))) (at_Shape : PySem.W.typeIn K (.ref C_Shape) = some (.type "type"))
    (ki_BadFilling : PySem.W.isClsIn K C_BadFilling = true)
    (ki_BadForm : PySem.W.isClsIn K C_BadForm = true)
    (ki_NoFit : PySem.W.isClsIn K C_NoFit = true)
    (ki_NoRows : PySem.W.isClsIn K C_NoRows = true)
    (ki_Shape : PySem.W.isClsIn K C_Shape = true)
    (ks_BadFilling : PySem.W.subIn K (.type "NoneType") (.ref C_BadFilling) = some false)
    (ks_BadForm : PySem.W.subIn K (.type "NoneType") (.ref C_BadForm) = some false)
    (ks_NoFit : PySem.W.subIn K (.type "NoneType") (.ref C_NoFit) = some false)
    (ks_NoRows : PySem.W.subIn K (.type "NoneType") (.ref C_NoRows) = some false)
    (ks_Shape : PySem.W.subIn K (.type "NoneType") (.ref C_Shape) = some false)
    (kz_BadForm_BadFilling : PySem.W.subIn K (.ref C_BadForm) (.ref C_BadFilling) = some false) (kd_BadForm_BadFilling : (Value.ref C_BadForm == Value.ref C_BadFilling) = false)
    (kz_BadForm_NoFit : PySem.W.subIn K (.ref C_BadForm) (.ref C_NoFit) = some false) (kd_BadForm_NoFit : (Value.ref C_BadForm == Value.ref C_NoFit) = false)
    (kz_BadForm_NoRows : PySem.W.subIn K (.ref C_BadForm) (.ref C_NoRows) = some false) (kd_BadForm_NoRows : (Value.ref C_BadForm == Value.ref C_NoRows) = false)
    (kz_BadForm_Shape : PySem.W.subIn K (.ref C_BadForm) (.ref C_Shape) = some false) (kd_BadForm_Shape : (Value.ref C_BadForm == Value.ref C_Shape) = false)
    (kz_BadForm_ValueError : PySem.W.subIn K (.ref C_BadForm) (.type "ValueError") = some true)
    (kz_NoRows_BadFilling : PySem.W.subIn K (.ref C_NoRows) (.ref C_BadFilling) = some false) (kd_NoRows_BadFilling : (Value.ref C_NoRows == Value.ref C_BadFilling) = false)
    (kz_NoRows_BadForm : PySem.W.subIn K (.ref C_NoRows) (.ref C_BadForm) = some false) (kd_NoRows_BadForm : (Value.ref C_NoRows == Value.ref C_BadForm) = false)
    (kz_NoRows_NoFit : PySem.W.subIn K (.ref C_NoRows) (.ref C_NoFit) = some false) (kd_NoRows_NoFit : (Value.ref C_NoRows == Value.ref C_NoFit) = false)
    (kz_NoRows_Shape : PySem.W.subIn K (.ref C_NoRows) (.ref C_Shape) = some false) (kd_NoRows_Shape : (Value.ref C_NoRows == Value.ref C_Shape) = false)
    (kz_NoRows_ValueError : PySem.W.subIn K (.ref C_NoRows) (.type "ValueError") = some true)
    (ai_KinError : PySem.W.isClsIn K C_KinError = true)
    (ae_BadForm_KinError : PySem.W.subIn K (.ref C_BadForm) (.ref C_KinError) = some true)
    (ae_NoRows_KinError : PySem.W.subIn K (.ref C_NoRows) (.ref C_KinError) = some true) :
    ∃ fd : FuncData, (∀ (s : Shared) (v : Value), BindsTo s fd ⟨[v], []⟩ [("_law_script", v)]) ∧ ∀ base : Heap, K.In base → base.Ns mainGlobals mg → FnOk l.prog w K mg base (L2.CX l.prog w) 9 fa fd ["_law_script"] (lower K (fun _ => 0) S_law) := by
  have e := hfa.symm.trans (PySem.W.mg_of X G a_law)
  have e : f_law = fa := by
    injection e with e
    injection e with e
    exact e.symm
  subst e
  have F_is_plain := fun_mk (st := s_is_plain) l_is_plain c_is_plain k_is_plain
  have b_is_plain := F_is_plain.binds (ps := ["thing"]) fun _ _ _ _ _ _ us hl => match us, hl with | [_], _ => rfl
  have F_sort_of := fun_mk (st := s_sort_of) l_sort_of c_sort_of k_sort_of
  have b_sort_of := F_sort_of.binds (ps := ["sign"]) fun _ _ _ _ _ _ us hl => match us, hl with | [_], _ => rfl
  have F_end_of := fun_mk (st := s_end_of) l_end_of c_end_of k_end_of
  have b_end_of := F_end_of.binds (ps := ["text", "at"]) fun _ _ _ _ _ _ us hl => match us, hl with | [_, _], _ => rfl
  have F_parts_of := fun_mk (st := s_parts_of) l_parts_of c_parts_of k_parts_of
  have b_parts_of := F_parts_of.binds (ps := ["text"]) fun _ _ _ _ _ _ us hl => match us, hl with | [_], _ => rfl
  have F_is_word := fun_mk (st := s_is_word) l_is_word c_is_word k_is_word
  have b_is_word := F_is_word.binds (ps := ["thing"]) fun _ _ _ _ _ _ us hl => match us, hl with | [_], _ => rfl
  have F_is_hole := fun_mk (st := s_is_hole) l_is_hole c_is_hole k_is_hole
  have b_is_hole := F_is_hole.binds (ps := ["item"]) fun _ _ _ _ _ _ us hl => match us, hl with | [_], _ => rfl
  have F_is_tablex := fun_mk (st := s_is_tablex) l_is_tablex c_is_tablex k_is_tablex
  have b_is_tablex := F_is_tablex.binds (ps := ["thing"]) fun _ _ _ _ _ _ us hl => match us, hl with | [_], _ => rfl
  have F_items_ofx := fun_mk (st := s_items_ofx) l_items_ofx c_items_ofx k_items_ofx
  have b_items_ofx := F_items_ofx.binds (ps := ["rows"]) fun _ _ _ _ _ _ us hl => match us, hl with | [_], _ => rfl
  have F_is_formx := fun_mk (st := s_is_formx) l_is_formx c_is_formx k_is_formx
  have b_is_formx := F_is_formx.binds (ps := ["thing"]) fun _ _ _ _ _ _ us hl => match us, hl with | [_], _ => rfl
  have F_need_formx := fun_mk (st := s_need_formx) l_need_formx c_need_formx k_need_formx
  have b_need_formx := F_need_formx.binds (ps := ["thing"]) fun _ _ _ _ _ _ us hl => match us, hl with | [_], _ => rfl
  have F_shape_of := fun_mk (st := s_shape_of) l_shape_of c_shape_of k_shape_of
  have b_shape_of := F_shape_of.binds (ps := ["rows"]) fun _ _ _ _ _ _ us hl => match us, hl with | [_], _ => rfl
  have F_led_by := fun_mk (st := s_led_by) l_led_by c_led_by k_led_by
  have b_led_by := F_led_by.binds (ps := ["items", "others"]) fun _ _ _ _ _ _ us hl => match us, hl with | [_, _], _ => rfl
  have F_is_fit := fun_mk (st := s_is_fit) l_is_fit c_is_fit k_is_fit
  have b_is_fit := F_is_fit.binds (ps := ["part", "form"]) fun _ _ _ _ _ _ us hl => match us, hl with | [_, _], _ => rfl
  have F_fitting := fun_mk (st := s_fitting) l_fitting c_fitting k_fitting
  have b_fitting := F_fitting.binds (ps := ["stretch", "form"]) fun _ _ _ _ _ _ us hl => match us, hl with | [_, _], _ => rfl
  have F_law_begunx := fun_mk (st := s_law_begunx) l_law_begunx c_law_begunx k_law_begunx
  have b_law_begunx := F_law_begunx.binds (ps := ["_law_script"]) fun _ _ _ _ _ _ us hl => match us, hl with | [_], _ => rfl
  have F_law_takex := fun_mk (st := s_law_takex) l_law_takex c_law_takex k_law_takex
  have b_law_takex := F_law_takex.binds (ps := ["_law_state", "_law_many"]) fun _ _ _ _ _ _ us hl => match us, hl with | [_, _], _ => rfl
  have F_law_kept := fun_mk (st := s_law_kept) l_law_kept c_law_kept k_law_kept
  have b_law_kept := F_law_kept.binds (ps := []) fun _ _ _ _ _ _ us hl => match us, hl with | [], _ => rfl
  have F_law_wordg := fun_mk (st := s_law_wordg) l_law_wordg c_law_wordg k_law_wordg
  have b_law_wordg := F_law_wordg.binds (ps := ["_law_state"]) fun _ _ _ _ _ _ us hl => match us, hl with | [_], _ => rfl
  have F_law_poolg := fun_mk (st := s_law_poolg) l_law_poolg c_law_poolg k_law_poolg
  have b_law_poolg := F_law_poolg.binds (ps := ["_law_state"]) fun _ _ _ _ _ _ us hl => match us, hl with | [_], _ => rfl
  have F_law_words := fun_mk (st := s_law_words) l_law_words c_law_words k_law_words
  have b_law_words := F_law_words.binds (ps := ["_law_state", "_law_pool_here", "_law_many"]) fun _ _ _ _ _ _ us hl => match us, hl with | [_, _, _], _ => rfl
  have F_law_form := fun_mk (st := s_law_form) l_law_form c_law_form k_law_form
  have b_law_form := F_law_form.binds (ps := ["_law_state", "_law_pool_here", "_law_many"]) fun _ _ _ _ _ _ us hl => match us, hl with | [_, _, _], _ => rfl
  have F_law_putg := fun_mk (st := s_law_putg) l_law_putg c_law_putg k_law_putg
  have b_law_putg := F_law_putg.binds (ps := ["_law_shape", "_law_items"]) fun _ _ _ _ _ _ us hl => match us, hl with | [_, _], _ => rfl
  have F_law_spoiltg := fun_mk (st := s_law_spoiltg) l_law_spoiltg c_law_spoiltg k_law_spoiltg
  have b_law_spoiltg := F_law_spoiltg.binds (ps := ["_law_state", "_law_rows", "_law_pool_here"]) fun _ _ _ _ _ _ us hl => match us, hl with | [_, _, _], _ => rfl
  have F_law_stretchg := fun_mk (st := s_law_stretchg) l_law_stretchg c_law_stretchg k_law_stretchg
  have b_law_stretchg := F_law_stretchg.binds (ps := ["_law_state", "_law_pool_here", "_law_shape", "_law_holes"]) fun _ _ _ _ _ _ us hl => match us, hl with | [_, _, _, _], _ => rfl
  have F_law_filling := fun_mk (st := s_law_filling) l_law_filling c_law_filling k_law_filling
  have b_law_filling := F_law_filling.binds (ps := ["_law_shape", "_law_part"]) fun _ _ _ _ _ _ us hl => match us, hl with | [_, _], _ => rfl
  have F_law_odd := fun_mk (st := s_law_odd) l_law_odd c_law_odd k_law_odd
  have b_law_odd := F_law_odd.binds (ps := ["_law_state", "_law_shape", "_law_holes"]) fun _ _ _ _ _ _ us hl => match us, hl with | [_, _, _], _ => rfl
  have F_law_opened := fun_mk (st := s_law_opened) l_law_opened c_law_opened k_law_opened
  have b_law_opened := F_law_opened.binds (ps := ["_law_state", "_law_rows", "_law_most"]) fun _ _ _ _ _ _ us hl => match us, hl with | [_, _, _], _ => rfl
  have F_law_copyg := fun_mk (st := s_law_copyg) l_law_copyg c_law_copyg k_law_copyg
  have b_law_copyg := F_law_copyg.binds (ps := ["_law_rows"]) fun _ _ _ _ _ _ us hl => match us, hl with | [_], _ => rfl
  have F_law_asked := fun_mk (st := s_law_asked) l_law_asked c_law_asked k_law_asked
  have b_law_asked := F_law_asked.binds (ps := ["_law_lines", "_law_shape"]) fun _ _ _ _ _ _ us hl => match us, hl with | [_, _], _ => rfl
  have F_law := fun_mk (st := s_law) l_law c_law k_law
  have b_law := F_law.binds (ps := ["_law_script"]) fun _ _ _ _ _ _ us hl => match us, hl with | [_], _ => rfl
  have T : { T : Txt K mg (fun s => (List.lookup s [("BadForm", C_BadForm), ("KinError", C_KinError), ("NoRows", C_NoRows)]).getD 0) // T.f_law = f_law ∧ T.fd_law = PySem.W.fnOf "law" "law" (defArgs s_law) (defBody s_law) (defScope s_law) .none kV_law dc_law pm_law an_law cd_law ct_law } := ⟨{ f_is_plain := f_is_plain, fd_is_plain := _, F_is_plain := F_is_plain, m_is_plain := PySem.W.mg_of X G a_is_plain, b_is_plain := b_is_plain, f_sort_of := f_sort_of, fd_sort_of := _, F_sort_of := F_sort_of, m_sort_of := PySem.W.mg_of X G a_sort_of, b_sort_of := b_sort_of, f_end_of := f_end_of, fd_end_of := _, F_end_of := F_end_of, m_end_of := PySem.W.mg_of X G a_end_of, b_end_of := b_end_of, f_parts_of := f_parts_of, fd_parts_of := _, F_parts_of := F_parts_of, m_parts_of := PySem.W.mg_of X G a_parts_of, b_parts_of := b_parts_of, f_is_word := f_is_word, fd_is_word := _, F_is_word := F_is_word, m_is_word := PySem.W.mg_of X G a_is_word, b_is_word := b_is_word, f_is_hole := f_is_hole, fd_is_hole := _, F_is_hole := F_is_hole, m_is_hole := PySem.W.mg_of X G a_is_hole, b_is_hole := b_is_hole, f_is_tablex := f_is_tablex, fd_is_tablex := _, F_is_tablex := F_is_tablex, m_is_tablex := PySem.W.mg_of X G a_is_tablex, b_is_tablex := b_is_tablex, f_items_ofx := f_items_ofx, fd_items_ofx := _, F_items_ofx := F_items_ofx, m_items_ofx := PySem.W.mg_of X G a_items_ofx, b_items_ofx := b_items_ofx, f_is_formx := f_is_formx, fd_is_formx := _, F_is_formx := F_is_formx, m_is_formx := PySem.W.mg_of X G a_is_formx, b_is_formx := b_is_formx, f_need_formx := f_need_formx, fd_need_formx := _, F_need_formx := F_need_formx, m_need_formx := PySem.W.mg_of X G a_need_formx, b_need_formx := b_need_formx, f_shape_of := f_shape_of, fd_shape_of := _, F_shape_of := F_shape_of, m_shape_of := PySem.W.mg_of X G a_shape_of, b_shape_of := b_shape_of, f_led_by := f_led_by, fd_led_by := _, F_led_by := F_led_by, m_led_by := PySem.W.mg_of X G a_led_by, b_led_by := b_led_by, f_is_fit := f_is_fit, fd_is_fit := _, F_is_fit := F_is_fit, m_is_fit := PySem.W.mg_of X G a_is_fit, b_is_fit := b_is_fit, f_fitting := f_fitting, fd_fitting := _, F_fitting := F_fitting, m_fitting := PySem.W.mg_of X G a_fitting, b_fitting := b_fitting, f_law_begunx := f_law_begunx, fd_law_begunx := _, F_law_begunx := F_law_begunx, m_law_begunx := PySem.W.mg_of X G a_law_begunx, b_law_begunx := b_law_begunx, f_law_takex := f_law_takex, fd_law_takex := _, F_law_takex := F_law_takex, m_law_takex := PySem.W.mg_of X G a_law_takex, b_law_takex := b_law_takex, f_law_kept := f_law_kept, fd_law_kept := _, F_law_kept := F_law_kept, m_law_kept := PySem.W.mg_of X G a_law_kept, b_law_kept := b_law_kept, f_law_wordg := f_law_wordg, fd_law_wordg := _, F_law_wordg := F_law_wordg, m_law_wordg := PySem.W.mg_of X G a_law_wordg, b_law_wordg := b_law_wordg, f_law_poolg := f_law_poolg, fd_law_poolg := _, F_law_poolg := F_law_poolg, m_law_poolg := PySem.W.mg_of X G a_law_poolg, b_law_poolg := b_law_poolg, f_law_words := f_law_words, fd_law_words := _, F_law_words := F_law_words, m_law_words := PySem.W.mg_of X G a_law_words, b_law_words := b_law_words, f_law_form := f_law_form, fd_law_form := _, F_law_form := F_law_form, m_law_form := PySem.W.mg_of X G a_law_form, b_law_form := b_law_form, f_law_putg := f_law_putg, fd_law_putg := _, F_law_putg := F_law_putg, m_law_putg := PySem.W.mg_of X G a_law_putg, b_law_putg := b_law_putg, f_law_spoiltg := f_law_spoiltg, fd_law_spoiltg := _, F_law_spoiltg := F_law_spoiltg, m_law_spoiltg := PySem.W.mg_of X G a_law_spoiltg, b_law_spoiltg := b_law_spoiltg, f_law_stretchg := f_law_stretchg, fd_law_stretchg := _, F_law_stretchg := F_law_stretchg, m_law_stretchg := PySem.W.mg_of X G a_law_stretchg, b_law_stretchg := b_law_stretchg, f_law_filling := f_law_filling, fd_law_filling := _, F_law_filling := F_law_filling, m_law_filling := PySem.W.mg_of X G a_law_filling, b_law_filling := b_law_filling, f_law_odd := f_law_odd, fd_law_odd := _, F_law_odd := F_law_odd, m_law_odd := PySem.W.mg_of X G a_law_odd, b_law_odd := b_law_odd, f_law_opened := f_law_opened, fd_law_opened := _, F_law_opened := F_law_opened, m_law_opened := PySem.W.mg_of X G a_law_opened, b_law_opened := b_law_opened, f_law_copyg := f_law_copyg, fd_law_copyg := _, F_law_copyg := F_law_copyg, m_law_copyg := PySem.W.mg_of X G a_law_copyg, b_law_copyg := b_law_copyg, f_law_asked := f_law_asked, fd_law_asked := _, F_law_asked := F_law_asked, m_law_asked := PySem.W.mg_of X G a_law_asked, b_law_asked := b_law_asked, f_law := f_law, fd_law := _, F_law := F_law, m_law := PySem.W.mg_of X G a_law, b_law := b_law, g_0_form_stretch_fitting := kb_of g_0_form_stretch_fitting_ok (fun s us ws hl => by have hh := gP_len hl; obtain rfl := ll0 hh.1; obtain ⟨b0, b1, rfl⟩ := ll2 hh.2; exact BindsTo.of_eq rfl), n_ValueError := PySem.W.mg_none_of X G z_ValueError, n_all := PySem.W.mg_none_of X G z_all, n_any := PySem.W.mg_none_of X G z_any, n_bool := PySem.W.mg_none_of X G z_bool, n_int := PySem.W.mg_none_of X G z_int, n_isinstance := PySem.W.mg_none_of X G z_isinstance, n_len := PySem.W.mg_none_of X G z_len, n_list := PySem.W.mg_none_of X G z_list, n_max := PySem.W.mg_none_of X G z_max, n_range := PySem.W.mg_none_of X G z_range, n_str := PySem.W.mg_none_of X G z_str, n_zip := PySem.W.mg_none_of X G z_zip, t_LONGEST := t_LONGEST, k_LONGEST := PySem.W.mg_of X G q_LONGEST, t_MOST_ITEMS := t_MOST_ITEMS, k_MOST_ITEMS := PySem.W.mg_of X G q_MOST_ITEMS, t_MOST_ROWS := t_MOST_ROWS, k_MOST_ROWS := PySem.W.mg_of X G q_MOST_ROWS, C_BadForm := C_BadForm, c_BadForm := rfl, g_BadForm := PySem.W.mg_of X G ag_BadForm, kc_BadForm := ak_BadForm, sb_BadForm := ab_BadForm, ty_BadForm := at_BadForm, x_BadForm := ax_BadForm, C_KinError := C_KinError, c_KinError := rfl, g_KinError := PySem.W.mg_of X G ag_KinError, kc_KinError := ak_KinError, sb_KinError := ab_KinError, ty_KinError := at_KinError, x_KinError := ax_KinError, C_NoRows := C_NoRows, c_NoRows := rfl, g_NoRows := PySem.W.mg_of X G ag_NoRows, kc_NoRows := ak_NoRows, sb_NoRows := ab_NoRows, ty_NoRows := at_NoRows, x_NoRows := ax_NoRows, e_BadForm_KinError := exm_mk ai_KinError ab_KinError at_KinError ae_BadForm_KinError, e_NoRows_KinError := exm_mk ai_KinError ab_KinError at_KinError ae_NoRows_KinError, ng_BadForm := ag_BadForm, ng_NoRows := ag_NoRows, xd_BadForm := ⟨xi_BadForm, xga_BadForm, xgt_BadForm, ab_BadForm, xha_BadForm, xs0, xs1, xhm_BadForm⟩, xd_NoRows := ⟨xi_NoRows, xga_NoRows, xgt_NoRows, ab_NoRows, xha_NoRows, xs0, xs1, xhm_NoRows⟩, C_BadFilling := C_BadFilling, g_BadFilling := PySem.W.mg_of X G ag_BadFilling, C_NoFit := C_NoFit, g_NoFit := PySem.W.mg_of X G ag_NoFit, C_Shape := C_Shape, g_Shape := PySem.W.mg_of X G ag_Shape, kq_BadFilling := ⟨kit_mk rfl ki_BadFilling at_BadFilling ks_BadFilling, kit_mk kd_BadForm_BadFilling ki_BadFilling at_BadFilling kz_BadForm_BadFilling, kit_mk kd_NoRows_BadFilling ki_BadFilling at_BadFilling kz_NoRows_BadFilling⟩, kq_BadForm := ⟨kit_mk rfl ki_BadForm at_BadForm ks_BadForm, kit_self, kit_mk kd_NoRows_BadForm ki_BadForm at_BadForm kz_NoRows_BadForm⟩, kq_NoFit := ⟨kit_mk rfl ki_NoFit at_NoFit ks_NoFit, kit_mk kd_BadForm_NoFit ki_NoFit at_NoFit kz_BadForm_NoFit, kit_mk kd_NoRows_NoFit ki_NoFit at_NoFit kz_NoRows_NoFit⟩, kq_NoRows := ⟨kit_mk rfl ki_NoRows at_NoRows ks_NoRows, kit_mk kd_BadForm_NoRows ki_NoRows at_NoRows kz_BadForm_NoRows, kit_self⟩, kq_Shape := ⟨kit_mk rfl ki_Shape at_Shape ks_Shape, kit_mk kd_BadForm_Shape ki_Shape at_Shape kz_BadForm_Shape, kit_mk kd_NoRows_Shape ki_Shape at_Shape kz_NoRows_Shape⟩, kq_ValueError := ⟨kit_ty (by decide +kernel), kit_bt (by decide +kernel) kz_BadForm_ValueError, kit_bt (by decide +kernel) kz_NoRows_ValueError⟩ }, rfl, rfl⟩
  obtain ⟨T, e1, e2⟩ := T
  refine ⟨PySem.W.fnOf "law" "law" (defArgs s_law) (defBody s_law) (defScope s_law) .none kV_law dc_law pm_law an_law cd_law ct_law, fun s v => .of_eq rfl, fun base _ _ => ?_⟩
  rw [← e1, ← e2]
  have G_is_plain := ok_is_plain (P := l.prog) (w := w) (base := base) (cn := (fun s => (List.lookup s [("BadForm", C_BadForm), ("KinError", C_KinError), ("NoRows", C_NoRows)]).getD 0)) T 
  have G_sort_of := ok_sort_of (P := l.prog) (w := w) (base := base) (cn := (fun s => (List.lookup s [("BadForm", C_BadForm), ("KinError", C_KinError), ("NoRows", C_NoRows)]).getD 0)) T 
  have G_end_of := ok_end_of (P := l.prog) (w := w) (base := base) (cn := (fun s => (List.lookup s [("BadForm", C_BadForm), ("KinError", C_KinError), ("NoRows", C_NoRows)]).getD 0)) T G_sort_of
  have G_parts_of := ok_parts_of (P := l.prog) (w := w) (base := base) (cn := (fun s => (List.lookup s [("BadForm", C_BadForm), ("KinError", C_KinError), ("NoRows", C_NoRows)]).getD 0)) T G_end_of
  have G_is_word := ok_is_word (P := l.prog) (w := w) (base := base) (cn := (fun s => (List.lookup s [("BadForm", C_BadForm), ("KinError", C_KinError), ("NoRows", C_NoRows)]).getD 0)) T G_is_plain G_parts_of
  have G_is_hole := ok_is_hole (P := l.prog) (w := w) (base := base) (cn := (fun s => (List.lookup s [("BadForm", C_BadForm), ("KinError", C_KinError), ("NoRows", C_NoRows)]).getD 0)) T 
  have G_is_tablex := ok_is_tablex (P := l.prog) (w := w) (base := base) (cn := (fun s => (List.lookup s [("BadForm", C_BadForm), ("KinError", C_KinError), ("NoRows", C_NoRows)]).getD 0)) T 
  have G_items_ofx := ok_items_ofx (P := l.prog) (w := w) (base := base) (cn := (fun s => (List.lookup s [("BadForm", C_BadForm), ("KinError", C_KinError), ("NoRows", C_NoRows)]).getD 0)) T 
  have G_is_formx := ok_is_formx (P := l.prog) (w := w) (base := base) (cn := (fun s => (List.lookup s [("BadForm", C_BadForm), ("KinError", C_KinError), ("NoRows", C_NoRows)]).getD 0)) T G_items_ofx G_is_tablex G_is_hole G_is_word
  have G_need_formx := ok_need_formx (P := l.prog) (w := w) (base := base) (cn := (fun s => (List.lookup s [("BadForm", C_BadForm), ("KinError", C_KinError), ("NoRows", C_NoRows)]).getD 0)) T G_is_formx
  have G_shape_of := ok_shape_of (P := l.prog) (w := w) (base := base) (cn := (fun s => (List.lookup s [("BadForm", C_BadForm), ("KinError", C_KinError), ("NoRows", C_NoRows)]).getD 0)) T 
  have G_led_by := ok_led_by (P := l.prog) (w := w) (base := base) (cn := (fun s => (List.lookup s [("BadForm", C_BadForm), ("KinError", C_KinError), ("NoRows", C_NoRows)]).getD 0)) T G_is_hole
  have G_is_fit := ok_is_fit (P := l.prog) (w := w) (base := base) (cn := (fun s => (List.lookup s [("BadForm", C_BadForm), ("KinError", C_KinError), ("NoRows", C_NoRows)]).getD 0)) T G_shape_of G_led_by G_items_ofx
  have G_fitting := ok_fitting (P := l.prog) (w := w) (base := base) (cn := (fun s => (List.lookup s [("BadForm", C_BadForm), ("KinError", C_KinError), ("NoRows", C_NoRows)]).getD 0)) T G_need_formx G_is_fit
  have G_law_begunx := ok_law_begunx (P := l.prog) (w := w) (base := base) (cn := (fun s => (List.lookup s [("BadForm", C_BadForm), ("KinError", C_KinError), ("NoRows", C_NoRows)]).getD 0)) T 
  have G_law_takex := ok_law_takex (P := l.prog) (w := w) (base := base) (cn := (fun s => (List.lookup s [("BadForm", C_BadForm), ("KinError", C_KinError), ("NoRows", C_NoRows)]).getD 0)) T 
  have G_law_kept := ok_law_kept (P := l.prog) (w := w) (base := base) (cn := (fun s => (List.lookup s [("BadForm", C_BadForm), ("KinError", C_KinError), ("NoRows", C_NoRows)]).getD 0)) T 
  have G_law_wordg := ok_law_wordg (P := l.prog) (w := w) (base := base) (cn := (fun s => (List.lookup s [("BadForm", C_BadForm), ("KinError", C_KinError), ("NoRows", C_NoRows)]).getD 0)) T G_law_takex G_law_kept
  have G_law_poolg := ok_law_poolg (P := l.prog) (w := w) (base := base) (cn := (fun s => (List.lookup s [("BadForm", C_BadForm), ("KinError", C_KinError), ("NoRows", C_NoRows)]).getD 0)) T G_law_wordg G_law_takex
  have G_law_words := ok_law_words (P := l.prog) (w := w) (base := base) (cn := (fun s => (List.lookup s [("BadForm", C_BadForm), ("KinError", C_KinError), ("NoRows", C_NoRows)]).getD 0)) T G_law_takex
  have G_law_form := ok_law_form (P := l.prog) (w := w) (base := base) (cn := (fun s => (List.lookup s [("BadForm", C_BadForm), ("KinError", C_KinError), ("NoRows", C_NoRows)]).getD 0)) T G_law_takex
  have G_law_putg := ok_law_putg (P := l.prog) (w := w) (base := base) (cn := (fun s => (List.lookup s [("BadForm", C_BadForm), ("KinError", C_KinError), ("NoRows", C_NoRows)]).getD 0)) T 
  have G_law_spoiltg := ok_law_spoiltg (P := l.prog) (w := w) (base := base) (cn := (fun s => (List.lookup s [("BadForm", C_BadForm), ("KinError", C_KinError), ("NoRows", C_NoRows)]).getD 0)) T G_law_takex G_law_words
  have G_law_stretchg := ok_law_stretchg (P := l.prog) (w := w) (base := base) (cn := (fun s => (List.lookup s [("BadForm", C_BadForm), ("KinError", C_KinError), ("NoRows", C_NoRows)]).getD 0)) T G_law_takex G_law_putg G_law_words G_law_spoiltg
  have G_law_filling := ok_law_filling (P := l.prog) (w := w) (base := base) (cn := (fun s => (List.lookup s [("BadForm", C_BadForm), ("KinError", C_KinError), ("NoRows", C_NoRows)]).getD 0)) T 
  have G_law_odd := ok_law_odd (P := l.prog) (w := w) (base := base) (cn := (fun s => (List.lookup s [("BadForm", C_BadForm), ("KinError", C_KinError), ("NoRows", C_NoRows)]).getD 0)) T G_law_takex
  have G_law_opened := ok_law_opened (P := l.prog) (w := w) (base := base) (cn := (fun s => (List.lookup s [("BadForm", C_BadForm), ("KinError", C_KinError), ("NoRows", C_NoRows)]).getD 0)) T G_law_takex
  have G_law_copyg := ok_law_copyg (P := l.prog) (w := w) (base := base) (cn := (fun s => (List.lookup s [("BadForm", C_BadForm), ("KinError", C_KinError), ("NoRows", C_NoRows)]).getD 0)) T 
  have G_law_asked := ok_law_asked (P := l.prog) (w := w) (base := base) (cn := (fun s => (List.lookup s [("BadForm", C_BadForm), ("KinError", C_KinError), ("NoRows", C_NoRows)]).getD 0)) T G_fitting
  have G_law := ok_law (P := l.prog) (w := w) (base := base) (cn := (fun s => (List.lookup s [("BadForm", C_BadForm), ("KinError", C_KinError), ("NoRows", C_NoRows)]).getD 0)) T G_law_begunx G_law_takex G_law_poolg G_law_form G_law_stretchg G_law_asked G_law_odd G_law_opened G_law_copyg G_law_filling
  exact fn_cn (fun _ _ _ q => q) G_law
theorem walk_end {K : PySem.W.Frag} {cn : String → Addr} {H : Hp} {a : Addr} {ns : List Int} (hn : ns.length ≤ 63) (hs : SqL K H a (ns.map V.int)) : lower K cn S_law [.ref a] H (fun v _ => v = .bl true) (fun _ _ _ => False) := by
  refine ⟨H, [.n false .lok (ns.map fun i => .p (.int i))], [], fun r _ => r = .p (.bl true), fun _ _ => False, fun _ _ z => z, RpL.one (Rp.f hs ?_), ⟨ns, rfl, hn, fun _ => rfl⟩, ?_, fun x ds' cls dx G' H' F' z => z.elim⟩
  · have := RpL.of_prims (K := K) (G := H) (H := H) (xs := ns.map V.int)
    rwa [List.map_map] at this
  · rintro r ds' v G' H' Fr F' rfl _ _ _ rr _
    cases rr
    rfl
end Lw
open PySem PySem.W PyProof.Rows
set_option maxRecDepth 100000 in
set_option maxHeartbeats 0 in
theorem PySem.Challenge.cw_kinrows_k75_parts_that_fit_holds : PySem.Challenge.rw_kinrows_k75_parts_that_fit.Holds := by
  w_on; o_law; k_head; (case hw => w_witness2)
  k_fill
  refine L2.walk_of (l := PySem.Challenge.rw_kinrows_k75_parts_that_fit) (n := 63) (k := 9) (x := "_law_script") (CX := fun w => L2.CX PySem.Challenge.rw_kinrows_k75_parts_that_fit.prog w) (sp := fun w => DL.lower _ (fun _ => 0) Lw.S_law) rfl (by decide) rfl ⟨rfl, by decide, by decide⟩ (fun w h Y => PySem.W.kIn_of Y) ?F (fun _ _ a ns hl _ hS => Lw.walk_end hl hS) (fun _ _ _ _ _ h => DL.cx_no h)
  case F =>
    intro w mg fa h KX G hmg
    refine' Lw.all_mk KX G hmg ?a_is_plain ?l_is_plain ?c_is_plain ?k_is_plain ?a_sort_of ?l_sort_of ?c_sort_of ?k_sort_of ?a_end_of ?l_end_of ?c_end_of ?k_end_of ?a_parts_of ?l_parts_of ?c_parts_of ?k_parts_of ?a_is_word ?l_is_word ?c_is_word ?k_is_word ?a_is_hole ?l_is_hole ?c_is_hole ?k_is_hole ?a_is_tablex ?l_is_tablex ?c_is_tablex ?k_is_tablex ?a_items_ofx ?l_items_ofx ?c_items_ofx ?k_items_ofx ?a_is_formx ?l_is_formx ?c_is_formx ?k_is_formx ?a_need_formx ?l_need_formx ?c_need_formx ?k_need_formx ?a_shape_of ?l_shape_of ?c_shape_of ?k_shape_of ?a_led_by ?l_led_by ?c_led_by ?k_led_by ?a_is_fit ?l_is_fit ?c_is_fit ?k_is_fit ?a_fitting ?l_fitting ?c_fitting ?k_fitting ?a_law_begunx ?l_law_begunx ?c_law_begunx ?k_law_begunx ?a_law_takex ?l_law_takex ?c_law_takex ?k_law_takex ?a_law_kept ?l_law_kept ?c_law_kept ?k_law_kept ?a_law_wordg ?l_law_wordg ?c_law_wordg ?k_law_wordg ?a_law_poolg ?l_law_poolg ?c_law_poolg ?k_law_poolg ?a_law_words ?l_law_words ?c_law_words ?k_law_words ?a_law_form ?l_law_form ?c_law_form ?k_law_form ?a_law_putg ?l_law_putg ?c_law_putg ?k_law_putg ?a_law_spoiltg ?l_law_spoiltg ?c_law_spoiltg ?k_law_spoiltg ?a_law_stretchg ?l_law_stretchg ?c_law_stretchg ?k_law_stretchg ?a_law_filling ?l_law_filling ?c_law_filling ?k_law_filling ?a_law_odd ?l_law_odd ?c_law_odd ?k_law_odd ?a_law_opened ?l_law_opened ?c_law_opened ?k_law_opened ?a_law_copyg ?l_law_copyg ?c_law_copyg ?k_law_copyg ?a_law_asked ?l_law_asked ?c_law_asked ?k_law_asked ?a_law ?l_law ?c_law ?k_law ?z_ValueError ?z_all ?z_any ?z_bool ?z_int ?z_isinstance ?z_len ?z_list ?z_max ?z_range ?z_str ?z_zip ?q_LONGEST ?q_MOST_ITEMS ?q_MOST_ROWS ?ag_BadForm ?ak_BadForm ?ab_BadForm ?at_BadForm ?ax_BadForm ?ag_KinError ?ak_KinError ?ab_KinError ?at_KinError ?ax_KinError ?ag_NoRows ?ak_NoRows ?ab_NoRows ?at_NoRows ?ax_NoRows ?xs0 ?xs1 ?xi_BadForm ?xga_BadForm ?xgt_BadForm ?xha_BadForm ?xhm_BadForm ?xi_NoRows ?xga_NoRows ?xgt_NoRows ?xha_NoRows ?xhm_NoRows ?ag_BadFilling ?at_BadFilling ?ag_NoFit ?at_NoFit ?ag_Shape ?at_Shape ?ki_BadFilling ?ki_BadForm ?ki_NoFit ?ki_NoRows ?ki_Shape ?ks_BadFilling ?ks_BadForm ?ks_NoFit ?ks_NoRows ?ks_Shape ?kz_BadForm_BadFilling ?kd_BadForm_BadFilling ?kz_BadForm_NoFit ?kd_BadForm_NoFit ?kz_BadForm_NoRows ?kd_BadForm_NoRows ?kz_BadForm_Shape ?kd_BadForm_Shape ?kz_BadForm_ValueError ?kz_NoRows_BadFilling ?kd_NoRows_BadFilling ?kz_NoRows_BadForm ?kd_NoRows_BadForm ?kz_NoRows_NoFit ?kd_NoRows_NoFit ?kz_NoRows_Shape ?kd_NoRows_Shape ?kz_NoRows_ValueError ?ai_KinError ?ae_BadForm_KinError ?ae_NoRows_KinError
    (case a_is_plain => k_is); (case l_is_plain => k_is); (case c_is_plain => k_is); (case k_is_plain => k_is); (case a_sort_of => k_is); (case l_sort_of => k_is); (case c_sort_of => k_is); (case k_sort_of => k_is); (case a_end_of => k_is); (case l_end_of => k_is); (case c_end_of => k_is); (case k_end_of => k_is); (case a_parts_of => k_is); (case l_parts_of => k_is); (case c_parts_of => k_is); (case k_parts_of => k_is); (case a_is_word => k_is); (case l_is_word => k_is); (case c_is_word => k_is); (case k_is_word => k_is); (case a_is_hole => k_is); (case l_is_hole => k_is); (case c_is_hole => k_is); (case k_is_hole => k_is); (case a_is_tablex => k_is); (case l_is_tablex => k_is); (case c_is_tablex => k_is); (case k_is_tablex => k_is); (case a_items_ofx => k_is); (case l_items_ofx => k_is); (case c_items_ofx => k_is); (case k_items_ofx => k_is); (case a_is_formx => k_is); (case l_is_formx => k_is); (case c_is_formx => k_is); (case k_is_formx => k_is); (case a_need_formx => k_is); (case l_need_formx => k_is); (case c_need_formx => k_is); (case k_need_formx => k_is); (case a_shape_of => k_is); (case l_shape_of => k_is); (case c_shape_of => k_is); (case k_shape_of => k_is); (case a_led_by => k_is); (case l_led_by => k_is); (case c_led_by => k_is); (case k_led_by => k_is); (case a_is_fit => k_is); (case l_is_fit => k_is); (case c_is_fit => k_is); (case k_is_fit => k_is); (case a_fitting => k_is); (case l_fitting => k_is); (case c_fitting => k_is); (case k_fitting => k_is); (case a_law_begunx => k_is); (case l_law_begunx => k_is); (case c_law_begunx => k_is); (case k_law_begunx => k_is); (case a_law_takex => k_is); (case l_law_takex => k_is); (case c_law_takex => k_is); (case k_law_takex => k_is); (case a_law_kept => k_is); (case l_law_kept => k_is); (case c_law_kept => k_is); (case k_law_kept => k_is); (case a_law_wordg => k_is); (case l_law_wordg => k_is); (case c_law_wordg => k_is); (case k_law_wordg => k_is); (case a_law_poolg => k_is); (case l_law_poolg => k_is); (case c_law_poolg => k_is); (case k_law_poolg => k_is); (case a_law_words => k_is); (case l_law_words => k_is); (case c_law_words => k_is); (case k_law_words => k_is); (case a_law_form => k_is); (case l_law_form => k_is); (case c_law_form => k_is); (case k_law_form => k_is); (case a_law_putg => k_is); (case l_law_putg => k_is); (case c_law_putg => k_is); (case k_law_putg => k_is); (case a_law_spoiltg => k_is); (case l_law_spoiltg => k_is); (case c_law_spoiltg => k_is); (case k_law_spoiltg => k_is); (case a_law_stretchg => k_is); (case l_law_stretchg => k_is); (case c_law_stretchg => k_is); (case k_law_stretchg => k_is); (case a_law_filling => k_is); (case l_law_filling => k_is); (case c_law_filling => k_is); (case k_law_filling => k_is); (case a_law_odd => k_is); (case l_law_odd => k_is); (case c_law_odd => k_is); (case k_law_odd => k_is); (case a_law_opened => k_is); (case l_law_opened => k_is); (case c_law_opened => k_is); (case k_law_opened => k_is); (case a_law_copyg => k_is); (case l_law_copyg => k_is); (case c_law_copyg => k_is); (case k_law_copyg => k_is); (case a_law_asked => k_is); (case l_law_asked => k_is); (case c_law_asked => k_is); (case k_law_asked => k_is); (case a_law => k_is); (case l_law => k_is); (case c_law => k_is); (case k_law => k_is); (case z_ValueError => k_is); (case z_all => k_is); (case z_any => k_is); (case z_bool => k_is); (case z_int => k_is); (case z_isinstance => k_is); (case z_len => k_is); (case z_list => k_is); (case z_max => k_is); (case z_range => k_is); (case z_str => k_is); (case z_zip => k_is); (case q_LONGEST => k_is); (case q_MOST_ITEMS => k_is); (case q_MOST_ROWS => k_is); (case ag_BadForm => k_is); (case ak_BadForm => k_is); (case ab_BadForm => k_is); (case at_BadForm => k_is); (case ax_BadForm => k_exc); (case ag_KinError => k_is); (case ak_KinError => k_is); (case ab_KinError => k_is); (case at_KinError => k_is); (case ax_KinError => k_exc); (case ag_NoRows => k_is); (case ak_NoRows => k_is); (case ab_NoRows => k_is); (case at_NoRows => k_is); (case ax_NoRows => k_exc); (case xs0 => k_is); (case xs1 => k_is); (case xi_BadForm => k_is); (case xga_BadForm => k_is); (case xgt_BadForm => k_is); (case xha_BadForm => k_is); (case xhm_BadForm => k_is); (case xi_NoRows => k_is); (case xga_NoRows => k_is); (case xgt_NoRows => k_is); (case xha_NoRows => k_is); (case xhm_NoRows => k_is); (case ag_BadFilling => k_is); (case at_BadFilling => k_is); (case ag_NoFit => k_is); (case at_NoFit => k_is); (case ag_Shape => k_is); (case at_Shape => k_is); (case ki_BadFilling => k_is); (case ki_BadForm => k_is); (case ki_NoFit => k_is); (case ki_NoRows => k_is); (case ki_Shape => k_is); (case ks_BadFilling => k_is); (case ks_BadForm => k_is); (case ks_NoFit => k_is); (case ks_NoRows => k_is); (case ks_Shape => k_is); (case kz_BadForm_BadFilling => k_is); (case kd_BadForm_BadFilling => decide); (case kz_BadForm_NoFit => k_is); (case kd_BadForm_NoFit => decide); (case kz_BadForm_NoRows => k_is); (case kd_BadForm_NoRows => decide); (case kz_BadForm_Shape => k_is); (case kd_BadForm_Shape => decide); (case kz_BadForm_ValueError => k_is); (case kz_NoRows_BadFilling => k_is); (case kd_NoRows_BadFilling => decide); (case kz_NoRows_BadForm => k_is); (case kd_NoRows_BadForm => decide); (case kz_NoRows_NoFit => k_is); (case kd_NoRows_NoFit => decide); (case kz_NoRows_Shape => k_is); (case kd_NoRows_Shape => decide); (case kz_NoRows_ValueError => k_is); (case ai_KinError => k_is); (case ae_BadForm_KinError => k_is); (case ae_NoRows_KinError => k_is)
#print axioms PySem.Challenge.cw_kinrows_k75_parts_that_fit_holds
