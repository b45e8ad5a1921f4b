import PyProof.Rows.All
import Wide.All
import OpenK.AllK
import Wide.FinOn
import HandS.ForMost
import HandS.ForExc
import HandS.TryOnly
import HandS.ExcOwn
import HandS.IsInst
import HandS.Wide
import HandS.SortInts
import HandS.Deep
import KE.DataEq
import PyProof.Rows.Walk
import OpenK.KWalk
import PyProof.StrOps2
import HandS.RaiseMore
import HandS.Style
import KE.KRevSl
import HandS.SetKeys
import HandS.Small
import HandS.StrMore
import HandS.FStr
import HandS.ListItems
import HandS.More
import HandS.Dict
import HandS.Zip
import KE.KExcIs
import HandS.ExcInit
import HandS.SortRule
import KE.KSortTupAny
import KE.DataMinMax
import HandS.Defaults
import HandS.Conv
import KE.DataCmp
import KE.SortCalls
import HandS.CallSlots
import HandS.SortKw
import HandS.SetFor
import HandS.Strs
import PyProof.DictMoreH
import HandS.TupLen
import KE.KEqDict
import KE.KDictZip
import PyProof.ListNew
import HandS.DictTup
import KE.DatumOrd
import HandS.Iter
import HandS.Flt
import HandS.DictComp
import KE.KDictLaw
import HandS.TupAny
import PySem.Challenge.RW_kinrows_k27_whole_long_copies
set_option Elab.async false
set_option linter.all false
set_option maxRecDepth 100000
/-! DL1: deep values with owners, over the abstract heap: what a value stands for, what a step may touch, environments. -/
namespace DL
open PySem L2

inductive Kd where
  | lst | lok | tup | tok
  | dic (ks : List Key)
  | dit (ks : List (List Key))
  | obj (c : String) (ns : List Str)
  /-- a caught error: its class's name, the names of its fields -/
  | exc (c : String) (ns : List Str)

inductive D where
  | p (v : V)
  | n (o : Bool) (k : Kd) (ch : List D)

mutual
def D.fz : D → D
  | .p v => .p v
  | .n _ k ch => .n false k (fzL ch)
def fzL : List D → List D
  | [] => []
  | d :: ds => d.fz :: fzL ds
end
theorem fzL_map : ∀ ds : List D, fzL ds = ds.map D.fz
  | [] => by simp only [fzL, List.map_nil]
  | d :: ds => by simp only [fzL, List.map_cons, fzL_map ds]

abbrev Sub (G H : Hp) : Prop := ∀ a o, G a = some o → H a = some o

/-- a caught error that is kept: its class, its dict -/
def exK (cls : Value) (dx : Option Addr) (a : Addr) : HO := .ext fun h => ∃ (oe : Obj) (vs : Array Value), h.get? a = some oe ∧ Zc cls dx oe ∧ oe.data = .fields vs
/-- what is kept of the dict -/
def ExcF (G : Hp) (ns : List Str) (vs : List V) : Option Addr → Prop
  | none => ns = [] ∧ vs = []
  | some dd => ns.length = vs.length ∧ G dd = some (.xd (ns.zip vs))
/-- a node that is read -/
def NdF (K : PySem.W.Frag) (G : Hp) (a : Addr) : Kd → List V → Prop
  | .lst, vs => G a = some (.lst vs)
  | .lok, vs => SqL K G a vs
  | .tup, vs => G a = some (.tup vs)
  | .tok, vs => SqT K G a vs
  | .dic ks, vs => ks.length = vs.length ∧ Rd G a (.dK (ks.zip vs))
  | .dit ks, vs => ks.length = vs.length ∧ G a = some (.dT (ks.zip vs))
  | .obj c ns, vs => ns.length = vs.length ∧ ∃ C dx, PySem.W.nsIn K mainGlobals c = some (some (.ref C)) ∧ G a = some (.ins C dx (ns.zip vs))
  | .exc c ns, vs => ∃ (C : Addr) (od : Option Addr), PySem.W.nsIn K mainGlobals c = some (some (.ref C)) ∧ G a = some (exK (.ref C) od a) ∧ ExcF G ns vs od
/-- a node that one slot alone holds -/
def NdO (K : PySem.W.Frag) (H : Hp) (a : Addr) : Kd → List V → Prop
  | .lst, vs => H a = some (.lst vs)
  | .lok, _ => False
  | .tup, _ => False
  | .tok, _ => False
  | .dic ks, vs => ks.length = vs.length ∧ H a = some (.dK (ks.zip vs))
  | .dit ks, vs => ks.length = vs.length ∧ H a = some (.dT (ks.zip vs))
  | .obj c ns, vs => ns.length = vs.length ∧ ∃ C dx, PySem.W.nsIn K mainGlobals c = some (some (.ref C)) ∧ H a = some (.ins C dx (ns.zip vs))
  | .exc _ _, _ => False

theorem Rd.mono {G G' : Hp} {a : Addr} {u : HO} (e : Sub G G') (h : Rd G a u) : Rd G' a u := by
  rcases h with h | ⟨o, h⟩
  · exact .inl (e _ _ h)
  · exact .inr ⟨o, e _ _ h⟩
theorem SqL.mono {K : PySem.W.Frag} {G G' : Hp} {a : Addr} {xs : List V} (e : Sub G G') (h : SqL K G a xs) : SqL K G' a xs := by
  rcases h with h | h
  · exact .inl (Rd.mono e h)
  · exact .inr h
theorem SqT.mono {K : PySem.W.Frag} {G G' : Hp} {a : Addr} {xs : List V} (e : Sub G G') (h : SqT K G a xs) : SqT K G' a xs := by
  rcases h with h | h
  · exact .inl (Rd.mono e h)
  · exact .inr h
theorem ExcF.mono {G G' : Hp} {ns : List Str} {vs : List V} (e : Sub G G') : ∀ {od : Option Addr}, ExcF G ns vs od → ExcF G' ns vs od
  | none, h => h
  | some _, h => ⟨h.1, e _ _ h.2⟩
theorem NdF.mono {K : PySem.W.Frag} {G G' : Hp} {a : Addr} {k : Kd} {vs : List V} (e : Sub G G') (h : NdF K G a k vs) : NdF K G' a k vs := by
  cases k with
  | lst => exact e _ _ h
  | lok => exact SqL.mono e h
  | tup => exact e _ _ h
  | tok => exact SqT.mono e h
  | dic ks => exact ⟨h.1, Rd.mono e h.2⟩
  | dit ks => exact ⟨h.1, e _ _ h.2⟩
  | obj c ns => obtain ⟨h1, C, dx, hc, h2⟩ := h; exact ⟨h1, C, dx, hc, e _ _ h2⟩
  | exc c ns => obtain ⟨C, od, h1, h2, h3⟩ := h; exact ⟨C, od, h1, e _ _ h2, h3.mono e⟩
theorem NdO.there {K : PySem.W.Frag} {H : Hp} {a : Addr} {k : Kd} {vs : List V} (h : NdO K H a k vs) : ∃ o, H a = some o := by
  cases k with
  | lst => exact ⟨_, h⟩
  | lok => exact h.elim
  | tup => exact h.elim
  | tok => exact h.elim
  | dic ks => exact ⟨_, h.2⟩
  | dit ks => exact ⟨_, h.2⟩
  | obj c ns => obtain ⟨h1, C, dx, hc, h2⟩ := h; exact ⟨_, h2⟩
  | exc c ns => exact h.elim
theorem NdO.keep {K : PySem.W.Frag} {H H' : Hp} {a : Addr} {k : Kd} {vs : List V} (h : NdO K H a k vs) (e : ∀ o, H a = some o → H' a = some o) : NdO K H' a k vs := by
  cases k with
  | lst => exact e _ h
  | lok => exact h.elim
  | tup => exact h.elim
  | tok => exact h.elim
  | dic ks => exact ⟨h.1, e _ h.2⟩
  | dit ks => exact ⟨h.1, e _ h.2⟩
  | obj c ns => obtain ⟨h1, C, dx, hc, h2⟩ := h; exact ⟨h1, C, dx, hc, e _ h2⟩
  | exc c ns => exact h.elim
theorem NdO.read {K : PySem.W.Frag} {H : Hp} {a : Addr} {k : Kd} {vs : List V} (h : NdO K H a k vs) : NdF K H a k vs := by
  cases k with
  | lst => exact h
  | lok => exact h.elim
  | tup => exact h.elim
  | tok => exact h.elim
  | dic ks => exact ⟨h.1, .inl h.2⟩
  | dit ks => exact h
  | obj C ns => exact h
  | exc c ns => exact h.elim

mutual
inductive Rp (K : PySem.W.Frag) (G H : Hp) : V → D → List Addr → Prop
  | p (v : V) : Rp K G H v (.p v) []
  | f {a : Addr} {k : Kd} {vs : List V} {ch : List D} {F : List Addr} : NdF K G a k vs → RpL K G H vs ch F → Rp K G H (.ref a) (.n false k ch) F
  | o {a : Addr} {k : Kd} {vs : List V} {ch : List D} {F : List Addr} : G a = none → NdO K H a k vs → a ∉ F → RpL K G H vs ch F → Rp K G H (.ref a) (.n true k ch) (a :: F)
inductive RpL (K : PySem.W.Frag) (G H : Hp) : List V → List D → List Addr → Prop
  | nil : RpL K G H [] [] []
  | cons {v : V} {vs : List V} {d : D} {ds : List D} {F F' : List Addr} : Rp K G H v d F → RpL K G H vs ds F' → (∀ a ∈ F, a ∉ F') → RpL K G H (v :: vs) (d :: ds) (F ++ F')
end

section
variable {K : PySem.W.Frag} {G H G' H' : Hp}
mutual
theorem Rp.mov (hg : Sub G G') : ∀ {v : V} (d : D) {F : List Addr}, Rp K G H v d F → (∀ a ∈ F, ∀ o, G a = none → H a = some o → G' a = none ∧ H' a = some o) → Rp K G' H' v d F
  | _, .p v, _, h, _ => by
    cases h
    exact Rp.p _
  | _, .n ow k ch, _, h, e => by
    cases h with
    | f h1 h2 => exact Rp.f (h1.mono hg) (RpL.mov hg ch h2 e)
    | o h0 h1 h3 h2 =>
      obtain ⟨o, ho⟩ := h1.there
      exact Rp.o (e _ (List.mem_cons_self ..) o h0 ho).1 (h1.keep fun o' ho' => (e _ (List.mem_cons_self ..) o' h0 ho').2) h3
        (RpL.mov hg ch h2 fun a ha => e a (List.mem_cons_of_mem _ ha))
theorem RpL.mov (hg : Sub G G') : ∀ {vs : List V} (ds : List D) {F : List Addr}, RpL K G H vs ds F → (∀ a ∈ F, ∀ o, G a = none → H a = some o → G' a = none ∧ H' a = some o) → RpL K G' H' vs ds F
  | _, [], _, h, _ => by
    cases h
    exact RpL.nil
  | _, d :: ds, _, h, e => by
    cases h with
    | cons h1 h2 h3 => exact RpL.cons (Rp.mov hg d h1 fun a ha => e a (List.mem_append_left _ ha)) (RpL.mov hg ds h2 fun a ha => e a (List.mem_append_right _ ha)) h3
end
mutual
/-- what a slot alone held is shared from now on -/
theorem Rp.froz (hg : Sub G G') : ∀ {v : V} (d : D) {F : List Addr}, Rp K G H v d F → (∀ a ∈ F, G' a = H a) → Rp K G' H v d.fz []
  | _, .p v, _, h, _ => by
    cases h
    simp only [D.fz]
    exact Rp.p _
  | _, .n ow k ch, _, h, e => by
    simp only [D.fz]
    cases h with
    | f h1 h2 => exact Rp.f (h1.mono hg) (RpL.froz hg ch h2 e)
    | o h0 h1 h3 h2 =>
      have e1 : NdO K G' _ k _ := h1.keep fun o ho => (e _ (List.mem_cons_self ..)).trans ho
      exact Rp.f e1.read (RpL.froz hg ch h2 fun a ha => e a (List.mem_cons_of_mem _ ha))
theorem RpL.froz (hg : Sub G G') : ∀ {vs : List V} (ds : List D) {F : List Addr}, RpL K G H vs ds F → (∀ a ∈ F, G' a = H a) → RpL K G' H vs (fzL ds) []
  | _, [], _, h, _ => by
    cases h
    simp only [fzL]
    exact RpL.nil
  | _, d :: ds, _, h, e => by
    simp only [fzL]
    cases h with
    | cons h1 h2 h3 =>
      have := RpL.cons (Rp.froz hg d h1 fun a ha => e a (List.mem_append_left _ ha)) (RpL.froz hg ds h2 fun a ha => e a (List.mem_append_right _ ha)) (by simp)
      simpa using this
end
mutual
theorem Rp.foot : ∀ {v : V} (d : D) {F : List Addr}, Rp K G H v d F → ∀ a ∈ F, G a = none ∧ ∃ o, H a = some o
  | _, .p v, _, h => by
    cases h
    simp
  | _, .n ow k ch, _, h => by
    cases h with
    | f h1 h2 => exact RpL.foot ch h2
    | o h0 h1 h3 h2 =>
      intro a ha
      rcases List.mem_cons.mp ha with e | ha
      · subst e
        exact ⟨h0, h1.there⟩
      · exact RpL.foot ch h2 a ha
theorem RpL.foot : ∀ {vs : List V} (ds : List D) {F : List Addr}, RpL K G H vs ds F → ∀ a ∈ F, G a = none ∧ ∃ o, H a = some o
  | _, [], _, h => by
    cases h
    simp
  | _, d :: ds, _, h => by
    cases h with
    | cons h1 h2 h3 =>
      intro a ha
      rcases List.mem_append.mp ha with ha | ha
      · exact Rp.foot d h1 a ha
      · exact RpL.foot ds h2 a ha
end
end

/-! ### steps -/
/-- P: what is held alone ahead; P': behind -/
structure Stp (G H : Hp) (P : Addr → Prop) (G' H' : Hp) (P' : Addr → Prop) : Prop where
  g : Sub G G'
  h : ∀ a o, H a = some o → ¬ P a → H' a = some o
  n : ∀ a o, H a = some o → G a = none → ¬ P a → G' a = none
  f : ∀ a, P' a → P a ∨ H a = none
theorem Stp.refl (G H : Hp) (P : Addr → Prop) : Stp G H P G H P := ⟨fun _ _ h => h, fun _ _ h _ => h, fun _ _ _ h _ => h, fun _ h => .inl h⟩
theorem Stp.trans {G H G1 H1 G2 H2 : Hp} {P P1 P2 : Addr → Prop} (a : Stp G H P G1 H1 P1) (b : Stp G1 H1 P1 G2 H2 P2) : Stp G H P G2 H2 P2 := by
  have key : ∀ x o, H x = some o → ¬ P x → ¬ P1 x := fun x o e n q => by
    rcases a.f x q with z | z
    · exact n z
    · rw [e] at z; cases z
  refine ⟨fun x o e => b.g x o (a.g x o e), fun x o e n => b.h x o (a.h x o e n) (key x o e n), fun x o e g n => b.n x o (a.h x o e n) (a.n x o e g n) (key x o e n), fun x q => ?_⟩
  rcases b.f x q with z | z
  · exact a.f x z
  · by_cases hp : P x
    · exact .inl hp
    · cases e : H x with
      | none => exact .inr rfl
      | some o =>
        have := a.h x o e hp
        rw [z] at this; cases this
theorem Stp.mono {G H G' H' : Hp} {P P' Q Q' : Addr → Prop} (a : Stp G H P G' H' P') (h : ∀ x, P x → Q x) (h' : ∀ x, Q' x → P' x ∨ Q x) : Stp G H Q G' H' Q' :=
  ⟨a.g, fun x o e n => a.h x o e fun z => n (h x z), fun x o e g n => a.n x o e g fun z => n (h x z), fun x q => by
    rcases h' x q with z | z
    · rcases a.f x z with z | z
      · exact .inl (h x z)
      · exact .inr z
    · exact .inl z⟩
/-- a new object -/
theorem Stp.new {G H : Hp} {P : Addr → Prop} {p : Addr} {o : HO} (h : H p = none) (hs : Sub G H) : Stp G H P G (upd H p o) (fun a => P a ∨ a = p) :=
  ⟨fun _ _ e => e, fun a u e _ => by rw [upd_ne (ne_of_none e h)]; exact e, fun _ _ _ e _ => e, fun a q => by
    rcases q with q | q
    · exact .inl q
    · subst q; exact .inr h⟩
/-- a new object, shared -/
theorem Stp.newG {G H : Hp} {P : Addr → Prop} {p : Addr} {o : HO} (h : H p = none) (hs : Sub G H) : Stp G H P (upd G p o) (upd H p o) P := by
  have hg : G p = none := by
    cases e : G p with
    | none => rfl
    | some u => rw [hs p u e] at h; cases h
  exact ⟨fun a u e => by rw [upd_ne (ne_of_none e hg)]; exact e, fun a u e _ => by rw [upd_ne (ne_of_none e h)]; exact e, fun a u e g _ => by rw [upd_ne (ne_of_none e h)]; exact g, fun a q => .inl q⟩
theorem Sub.upd {G H : Hp} {p : Addr} {o : HO} (h : H p = none) (hs : Sub G H) : Sub G (upd H p o) := fun a u e => by
  rw [upd_ne (ne_of_none (hs a u e) h)]
  exact hs a u e
theorem Sub.updG {G H : Hp} {p : Addr} {o : HO} (h : H p = none) (hs : Sub G H) : Sub (L2.upd G p o) (L2.upd H p o) := fun a u e => by
  by_cases ha : a = p
  · subst ha; rw [upd_same] at e ⊢; exact e
  · rw [upd_ne ha] at e ⊢; exact hs a u e
/-- freezing what is at F -/
def frzH (G H : Hp) (F : List Addr) : Hp := fun a => if a ∈ F then H a else G a
theorem frzH_in {G H : Hp} {F : List Addr} {a : Addr} (h : a ∈ F) : frzH G H F a = H a := if_pos h
theorem frzH_out {G H : Hp} {F : List Addr} {a : Addr} (h : a ∉ F) : frzH G H F a = G a := if_neg h
theorem frzH_sub {G H : Hp} {F : List Addr} (hs : Sub G H) : Sub (frzH G H F) H := fun a o e => by
  by_cases h : a ∈ F
  · rw [frzH_in h] at e; exact e
  · rw [frzH_out h] at e; exact hs a o e
theorem sub_frzH {G H : Hp} {F : List Addr} (hf : ∀ a ∈ F, G a = none) : Sub G (frzH G H F) := fun a o e => by
  by_cases h : a ∈ F
  · rw [hf a h] at e; cases e
  · rw [frzH_out h]; exact e
theorem Stp.frz {G H : Hp} {F : List Addr} {P : Addr → Prop} (hf : ∀ a ∈ F, G a = none) (hp : ∀ a ∈ F, P a) : Stp G H P (frzH G H F) H (fun a => P a ∧ a ∉ F) :=
  ⟨sub_frzH hf, fun _ _ e _ => e, fun a o e g n => by rw [frzH_out fun z => n (hp a z)]; exact g, fun a q => .inl q.1⟩

/-! ### environments -/
inductive Sl where
  /-- nothing is known -/
  | un
  /-- a value -/
  | v (d : D)
  /-- a value handed in that is to be handed back (the name is not stored to) -/
  | w (d : D)
  /-- a part of what another slot holds -/
  | b (i : Nat) (path : List Nat)
abbrev Env := List Sl
def Sl.d? : Sl → Option D
  | .v d => some d
  | .w d => some d
  | _ => none

def D.at : D → List Nat → Option D
  | d, [] => some d
  | .p _, _ :: _ => none
  | .n true _ ch, i :: q => match ch[i]? with
    | some c => D.at c q
    | none => none
  | .n false _ _, _ :: _ => none
/-- P: where the nodes on the way stand -/
def PathV (K : PySem.W.Frag) (H : Hp) (P : Addr → Prop) : V → List Nat → V → Prop
  | x, [], y => x = y
  | x, i :: q, y => ∃ a k vs z, x = .ref a ∧ P a ∧ NdO K H a k vs ∧ vs[i]? = some z ∧ PathV K H P z q y

abbrev Fps := Nat → List Addr
def InF (fp : Fps) (a : Addr) : Prop := ∃ i, a ∈ fp i
/-- slots, pins, what stands behind them -/
structure Mt (K : PySem.W.Frag) (pv : Nat → V) (σ : St) (ρ : Env) (G H : Hp) (fp : Fps) : Prop where
  sub : Sub G H
  len : ρ.length = σ.length
  sl : ∀ (i : Nat) (d : D), ρ[i]? = some (Sl.v d) → ∃ x, σ[i]? = some (some x) ∧ Rp K G H x d (fp i)
  pn : ∀ (i : Nat) (d : D), ρ[i]? = some (Sl.w d) → σ[i]? = some (some (pv i)) ∧ Rp K G H (pv i) d (fp i)
  br : ∀ (i j : Nat) (q : List Nat), ρ[i]? = some (Sl.b j q) → ∃ x y, σ[j]? = some (some x) ∧ σ[i]? = some (some y) ∧ PathV K H (fun a => a ∈ fp j) x q y
  ap : ∀ i j, i ≠ j → ∀ a ∈ fp i, a ∉ fp j
  ft : ∀ i, ∀ a ∈ fp i, G a = none ∧ ∃ o, H a = some o
section
variable {K : PySem.W.Frag} {pv : Nat → V} {σ : St} {ρ : Env} {G H G' H' : Hp} {fp : Fps}
theorem Mt.at (m : Mt K pv σ ρ G H fp) {i : Nat} {s : Sl} {d : D} (h : ρ[i]? = some s) (e : s.d? = some d) : ∃ x, σ[i]? = some (some x) ∧ Rp K G H x d (fp i) := by
  cases s with
  | un => cases e
  | v d' => cases e; exact m.sl i _ h
  | w d' => cases e; exact ⟨_, m.pn i _ h⟩
  | b j q => cases e
theorem PathV.mono {P P' : Addr → Prop} (e : ∀ a o, P a → H a = some o → H' a = some o) (hp : ∀ a, P a → P' a) : ∀ {q : List Nat} {x y : V}, PathV K H P x q y → PathV K H' P' x q y
  | [], _, _, h => h
  | _ :: _, _, _, h => by
    obtain ⟨a, k, vs, z, e1, h0, h1, h2, h3⟩ := h
    exact ⟨a, k, vs, z, e1, hp a h0, h1.keep fun o => e a o h0, h2, PathV.mono e hp h3⟩
/-- what is held alone stands as it stood -/
theorem Mt.move (m : Mt K pv σ ρ G H fp) (hg : Sub G G') (hs : Sub G' H') (h : ∀ a o, InF fp a → H a = some o → H' a = some o) (hn : ∀ a, InF fp a → G' a = none) : Mt K pv σ ρ G' H' fp where
  sub := hs
  len := m.len
  sl := fun i d e => by
    obtain ⟨x, h1, h2⟩ := m.sl i d e
    exact ⟨x, h1, h2.mov hg _ fun a ha o _ ho => ⟨hn a ⟨i, ha⟩, h a o ⟨i, ha⟩ ho⟩⟩
  pn := fun i d e => by
    obtain ⟨h1, h2⟩ := m.pn i d e
    exact ⟨h1, h2.mov hg _ fun a ha o _ ho => ⟨hn a ⟨i, ha⟩, h a o ⟨i, ha⟩ ho⟩⟩
  br := fun i j q e => by
    obtain ⟨x, y, h1, h2, h3⟩ := m.br i j q e
    exact ⟨x, y, h1, h2, h3.mono (fun a o z => h a o ⟨j, z⟩) fun _ z => z⟩
  ap := m.ap
  ft := fun i a ha => ⟨hn a ⟨i, ha⟩, by
    obtain ⟨_, o, h2⟩ := m.ft i a ha
    exact ⟨o, h a o ⟨i, ha⟩ h2⟩⟩
/-- nothing held alone was touched -/
theorem Mt.step {P' : Addr → Prop} (m : Mt K pv σ ρ G H fp) (s : Stp G H (fun _ => False) G' H' P') (hs : Sub G' H') : Mt K pv σ ρ G' H' fp :=
  m.move s.g hs (fun a o _ e => s.h a o e fun z => z) fun a ⟨i, ha⟩ => by
    obtain ⟨h1, o, h2⟩ := m.ft i a ha
    exact s.n a o h2 h1 fun z => z
/-- a value that is held apart from the slots stays -/
theorem Rp.frame {v : V} {d : D} {F : List Addr} {P P' : Addr → Prop} (r : Rp K G H v d F) (s : Stp G H P G' H' P') (hd : ∀ a ∈ F, ¬ P a) : Rp K G' H' v d F ∧ ∀ a ∈ F, ¬ P' a := by
  refine ⟨r.mov s.g _ fun a ha o hg ho => ⟨s.n a o ho hg (hd a ha), s.h a o ho (hd a ha)⟩, fun a ha q => ?_⟩
  rcases s.f a q with z | z
  · exact hd a ha z
  · obtain ⟨_, o, ho⟩ := Rp.foot d r a ha
    rw [ho] at z; cases z
end

/-! ### handles -/
inductive Rv where
  | t (d : D)
  | s (i : Nat)
def RvOk (K : PySem.W.Frag) (σ : St) (G H : Hp) (P : Addr → Prop) (v : V) : Rv → List Addr → Prop
  | .t d, F => Rp K G H v d F ∧ ∀ a ∈ F, ¬ P a
  | .s i, F => σ[i]? = some (some v) ∧ F = []
/-- what a handle stands for -/
def rootD (ρ : Env) (i : Nat) : Option D := match ρ[i]? with
  | some (.v d) => some d
  | some (.w d) => some d
  | _ => none
def slD (ρ : Env) (i : Nat) : Option D := match ρ[i]? with
  | some (.v d) => some d
  | some (.w d) => some d
  | some (.b j q) => (rootD ρ j).bind fun d => d.at q
  | _ => none
def look (ρ : Env) : Rv → Option D
  | .t d => some d
  | .s i => slD ρ i
section
variable {K : PySem.W.Frag} {pv : Nat → V} {σ : St} {ρ : Env} {G H G' H' : Hp} {fp : Fps}
theorem RvOk.frame {v : V} {r : Rv} {F : List Addr} {P P' : Addr → Prop} (h : RvOk K σ G H P v r F) (s : Stp G H P G' H' P') : RvOk K σ G' H' P' v r F := by
  cases r with
  | t d => exact Rp.frame h.1 s h.2
  | s i => exact h
theorem SqL.inj {G : Hp} {a : Addr} {xs : List V} (h : SqL K G a xs) {ys : List V} (h' : G a = some (.lst ys)) : xs = ys ∨ ∃ o, K.lookup a = some o := by
  rcases h with h | ⟨o, _, _, h, _⟩
  · rcases h with h | ⟨o, h⟩
    · rw [h'] at h; cases h; exact .inl rfl
    · rw [h'] at h; cases h
  · exact .inr ⟨o, h⟩
/-- the children's nodes lie within the whole's -/
theorem RpL.get : ∀ {vs : List V} (ds : List D) {F : List Addr} {i : Nat} {d : D}, RpL K G H vs ds F → ds[i]? = some d → ∃ x F', vs[i]? = some x ∧ Rp K G H x d F' ∧ ∀ a ∈ F', a ∈ F
  | _, [], _, _, _, _, e => by simp at e
  | _, c :: cs, _, i, d, h, e => by
    cases h with
    | cons h1 h2 h3 =>
      cases i with
      | zero =>
        simp only [List.getElem?_cons_zero, Option.some.injEq] at e
        subst e
        exact ⟨_, _, by simp only [List.getElem?_cons_zero], h1, fun a ha => List.mem_append_left _ ha⟩
      | succ i =>
        rw [List.getElem?_cons_succ] at e
        obtain ⟨x, F', q1, q2, q3⟩ := RpL.get cs h2 e
        exact ⟨x, F', by rw [List.getElem?_cons_succ]; exact q1, q2, fun a ha => List.mem_append_right _ (q3 a ha)⟩
theorem NdO.inj {a : Addr} {k k' : Kd} {vs ws : List V} (h : NdO K H a k vs) (h' : NdO K H a k' ws) : vs = ws := by
  have zz : ∀ {α : Type} {ks ks' : List α} {vs ws : List V}, ks.length = vs.length → ks'.length = ws.length → ks.zip vs = ks'.zip ws → vs = ws := by
    intro α ks ks' vs ws h1 h2 e
    have e' := congrArg (List.map Prod.snd) e
    rwa [List.map_snd_zip (by omega), List.map_snd_zip (by omega)] at e'
  cases k <;> cases k' <;> simp only [NdO] at h h' <;> first
    | exact h.elim
    | exact h'.elim
    | (rw [h] at h'; cases h'; done)
    | (rw [h] at h'; cases h'; rfl)
    | (rw [h.2] at h'; cases h'; done)
    | (rw [h] at h'; have := h'.2; cases this; done)
    | (have e := h.2.symm.trans h'.2; injection e with e; injection e with e; exact zz h.1 h'.1 e)
    | (have e := h.2.symm.trans h'.2; injection e with e; cases e; done)
    | (obtain ⟨h1, C, dx, hc, h2⟩ := h; obtain ⟨h3, C', dx', hc', h4⟩ := h'; rw [h2] at h4; injection h4 with e; injection e with e1 e2 e3; exact zz h1 h3 e3)
    | (obtain ⟨h1, C, dx, hc, h2⟩ := h; first | (rw [h2] at h'; cases h'; done) | (have := h2.symm.trans h'.2; cases this; done))
    | (obtain ⟨h1, C, dx, hc, h2⟩ := h'; first | (rw [h2] at h; cases h; done) | (have := h2.symm.trans h.2; cases this; done))
theorem Rp.path {P : Addr → Prop} : ∀ {q : List Nat} {x y : V} {d d' : D} {F : List Addr}, Rp K G H x d F → d.at q = some d' → PathV K H P x q y → ∃ F', Rp K G H y d' F' ∧ ∀ a ∈ F', a ∈ F
  | [], x, y, d, d', F, r, e, h => by
    have e1 : d = d' := by
      cases d with
      | p v => simpa [D.at] using e
      | n o k ch => cases o <;> simpa [D.at] using e
    subst e1
    have e2 : x = y := h
    subst e2
    exact ⟨F, r, fun _ z => z⟩
  | i :: q, x, y, .p v, d', F, r, e, h => by simp [D.at] at e
  | i :: q, x, y, .n false k ch, d', F, r, e, h => by simp [D.at] at e
  | i :: q, x, y, .n true k ch, d', F, r, e, h => by
    cases r with
    | o h0 h1 h3 h2 =>
      simp only [D.at] at e
      obtain ⟨a, k', vs', z, e1, _, n1, g1, p1⟩ := h
      injection e1 with e1
      subst e1
      have ev := NdO.inj n1 h1
      subst ev
      cases ec : ch[i]? with
      | none => rw [ec] at e; cases e
      | some c =>
        rw [ec] at e
        obtain ⟨x', F', q1, q2, q3⟩ := RpL.get ch h2 ec
        rw [q1] at g1
        cases g1
        obtain ⟨F2, r2, s2⟩ := Rp.path q2 e p1
        exact ⟨F2, r2, fun a ha => List.mem_cons_of_mem _ (q3 a (s2 a ha))⟩
theorem RpL.len : ∀ {vs : List V} (ds : List D) {F : List Addr}, RpL K G H vs ds F → vs.length = ds.length
  | _, [], _, h => by cases h; rfl
  | _, _ :: ds, _, h => by
    cases h with
    | cons h1 h2 h3 => rw [List.length_cons, List.length_cons, RpL.len ds h2]
end
end DL
/-! DL2: readings over deep values, and how they are readings over the abstract heap. -/
namespace DL
open PySem L2

structure Exn where
  name : String
  f : Option (Str × D) := none

abbrev DE := Env → (Rv → Env → Prop) → (Exn → Env → Prop) → Prop
abbrev DT := Env → (Bool → Env → Prop) → (Exn → Env → Prop) → Prop
abbrev DA := Env → (List Rv → Env → Prop) → (Exn → Env → Prop) → Prop
structure DEnds where
  nx : Env → Prop
  rt : D → Env → Prop
  bk : Env → Prop := fun _ => False
  ct : Env → Prop := fun _ => False
  ex : Exn → Env → Prop := fun _ _ => False
abbrev DS := DEnds → Env → Prop
/-- a target -/
abbrev DG := Rv → Env → (Env → Prop) → Prop
/-- what is walked: its items -/
abbrev DI := Env → (List D → Env → Prop) → (Exn → Env → Prop) → Prop

def ExOk (K : PySem.W.Frag) (cn : String → Addr) (G H : Hp) (x : Exn) (cls : Value) (dx : Option Addr) : Prop :=
  cls = .ref (cn x.name) ∧ match x.f with
    | none => dx = none
    | some (f, d) => ∃ a v, dx = some a ∧ G a = some (.xd [(f, v)]) ∧ Rp K G H v d []

section
variable (K : PySem.W.Frag) (cn : String → Addr)
def PoX (pv : Nat → V) (γ : St) (n : Nat) (G H : Hp) (fp : Fps) (E0 : Exn → Env → Prop) (E : WX) : Prop :=
  ∀ x ρ' cls dx σ' G' H' fp', E0 x ρ' → Stp G H (InF fp) G' H' (InF fp') → Mt K pv (σ' ++ γ) ρ' G' H' fp' → σ'.length = n → ExOk K cn G' H' x cls dx → E cls dx σ' H'
def PoE (pv : Nat → V) (σ γ : St) (G H : Hp) (fp : Fps) (Q0 : Rv → Env → Prop) (Q : VK) : Prop :=
  ∀ r ρ' v G' H' fp' F, Q0 r ρ' → Stp G H (InF fp) G' H' (fun a => InF fp' a ∨ a ∈ F) → Mt K pv (σ ++ γ) ρ' G' H' fp' → RvOk K (σ ++ γ) G' H' (InF fp') v r F → Q v H'
def liftE (E : WX) (t : DE) : TE := fun σ H Q => ∃ pv γ ρ G fp Q0 E0, Mt K pv (σ ++ γ) ρ G H fp ∧ t ρ Q0 E0 ∧ PoE K pv σ γ G H fp Q0 Q ∧ PoX K cn pv γ σ.length G H fp E0 E
def PoT (pv : Nat → V) (σ γ : St) (G H : Hp) (fp : Fps) (Q0 : Bool → Env → Prop) (Q : Bool → Hp → Prop) : Prop :=
  ∀ b ρ' G' H' fp', Q0 b ρ' → Stp G H (InF fp) G' H' (InF fp') → Mt K pv (σ ++ γ) ρ' G' H' fp' → Q b H'
def liftT (E : WX) (t : DT) : TT := fun σ H Q => ∃ pv γ ρ G fp Q0 E0, Mt K pv (σ ++ γ) ρ G H fp ∧ t ρ Q0 E0 ∧ PoT K pv σ γ G H fp Q0 Q ∧ PoX K cn pv γ σ.length G H fp E0 E
/-- several handles: each held apart -/
inductive RvsOk (σ : St) (G H : Hp) : (Addr → Prop) → List V → List Rv → List Addr → Prop
  | nil {P : Addr → Prop} : RvsOk σ G H P [] [] []
  | cons {P : Addr → Prop} {v : V} {vs : List V} {r : Rv} {rs : List Rv} {F F' : List Addr} : RvOk K σ G H P v r F → RvsOk σ G H (fun a => P a ∨ a ∈ F) vs rs F' → RvsOk σ G H P (v :: vs) (r :: rs) (F ++ F')
def PoA (pv : Nat → V) (σ γ : St) (G H : Hp) (fp : Fps) (Q0 : List Rv → Env → Prop) (Q : List V → Hp → Prop) : Prop :=
  ∀ rs ρ' vs G' H' fp' F, Q0 rs ρ' → Stp G H (InF fp) G' H' (fun a => InF fp' a ∨ a ∈ F) → Mt K pv (σ ++ γ) ρ' G' H' fp' → RvsOk K (σ ++ γ) G' H' (InF fp') vs rs F → Q vs H'
def liftA (E : WX) (t : DA) : TA := fun σ H Q => ∃ pv γ ρ G fp Q0 E0, Mt K pv (σ ++ γ) ρ G H fp ∧ t ρ Q0 E0 ∧ PoA K pv σ γ G H fp Q0 Q ∧ PoX K cn pv γ σ.length G H fp E0 E
def PoN (pv : Nat → V) (γ : St) (n : Nat) (G H : Hp) (fp : Fps) (N0 : Env → Prop) (N : St → Hp → Prop) : Prop :=
  ∀ ρ' σ' G' H' fp', N0 ρ' → Stp G H (InF fp) G' H' (InF fp') → Mt K pv (σ' ++ γ) ρ' G' H' fp' → σ'.length = n → N σ' H'
def PoR (pv : Nat → V) (γ : St) (n : Nat) (G H : Hp) (fp : Fps) (R0 : D → Env → Prop) (R : VK) : Prop :=
  ∀ d ρ' v σ' G' H' fp' F, R0 d ρ' → Stp G H (InF fp) G' H' (fun a => InF fp' a ∨ a ∈ F) → Mt K pv (σ' ++ γ) ρ' G' H' fp' → σ'.length = n → Rp K G' H' v d F → (∀ a ∈ F, ¬ InF fp' a) → R v H'
structure PoS (pv : Nat → V) (γ : St) (n : Nat) (G H : Hp) (fp : Fps) (D0 : DEnds) (Dn : Ends) (E : WX) : Prop where
  nx : PoN K pv γ n G H fp D0.nx Dn.nx
  bk : PoN K pv γ n G H fp D0.bk Dn.bk
  ct : PoN K pv γ n G H fp D0.ct Dn.ct
  rt : PoR K pv γ n G H fp D0.rt Dn.rt
  ex : PoX K cn pv γ n G H fp D0.ex E
def liftS (E : WX) (t : DS) : TS := fun Dn σ H => ∃ pv γ ρ G fp D0, Mt K pv (σ ++ γ) ρ G H fp ∧ t D0 ρ ∧ PoS K cn pv γ σ.length G H fp D0 Dn E
end

abbrev JE (X : Cx) (cn : String → Addr) (E : WX) (e : Expr) (t : DE) : Prop := PE X e (liftE X.K cn E t)
abbrev JT (X : Cx) (cn : String → Addr) (E : WX) (e : Expr) (t : DT) : Prop := PT X e (liftT X.K cn E t)
abbrev JW (X : Cx) (cn : String → Addr) (E : WX) (e : Expr) (t : DT) : Prop := PW X e (liftT X.K cn E t)
abbrev JA (X : Cx) (cn : String → Addr) (E : WX) (es : List Expr) (t : DA) : Prop := PA X es (liftA X.K cn E t)
abbrev JS (X : Cx) (cn : String → Addr) (E : WX) (s : Stmt) (t : DS) : Prop := PS X s (liftS X.K cn E t)
abbrev JSs (X : Cx) (cn : String → Addr) (E : WX) (s : List Stmt) (t : DS) : Prop := PSs X s (liftS X.K cn E t)

/-! ### weakening -/
theorem pe_imp {X : Cx} {e : Expr} {t t' : TE} (h : PE X e t) (i : ∀ σ H Q, t' σ H Q → t σ H Q) : PE X e t' := ⟨fun pins s σ H Q I q => h.run pins s σ H Q I (i σ H Q q)⟩
theorem pt_imp {X : Cx} {e : Expr} {t t' : TT} (h : PT X e t) (i : ∀ σ H Q, t' σ H Q → t σ H Q) : PT X e t' := ⟨fun pins s σ H Q I q => h.run pins s σ H Q I (i σ H Q q)⟩
theorem pw_imp {X : Cx} {e : Expr} {t t' : TT} (h : PW X e t) (i : ∀ σ H Q, t' σ H Q → t σ H Q) : PW X e t' := ⟨fun wh pins s σ H Q I q => h.run wh pins s σ H Q I (i σ H Q q)⟩
theorem pa_imp {X : Cx} {es : List Expr} {t t' : TA} (h : PA X es t) (i : ∀ σ H Q, t' σ H Q → t σ H Q) : PA X es t' := ⟨fun pos pins s σ H Q I q => h.run pos pins s σ H Q I (i σ H Q q)⟩
theorem ps_imp {X : Cx} {e : Stmt} {t t' : TS} (h : PS X e t) (i : ∀ D σ H, t' D σ H → t D σ H) : PS X e t' := ⟨fun pins s σ H D I q => h.run pins s σ H D I (i D σ H q)⟩
theorem pss_imp {X : Cx} {e : List Stmt} {t t' : TS} (h : PSs X e t) (i : ∀ D σ H, t' D σ H → t D σ H) : PSs X e t' := ⟨fun pins s σ H D I q => h.run pins s σ H D I (i D σ H q)⟩
theorem Stp.seq {G H G1 H1 G2 H2 : Hp} {P P1 P' P2 P3 : Addr → Prop} (a : Stp G H P G1 H1 P1) (h : ∀ x, P' x → P1 x) (b : Stp G1 H1 P' G2 H2 P2) (h3 : ∀ x, P3 x → P2 x ∨ P1 x) : Stp G H P G2 H2 P3 :=
  a.trans (b.mono h h3)

section
variable {K : PySem.W.Frag} {cn : String → Addr} {pv : Nat → V} {σ γ : St} {n : Nat} {ρ : Env} {G H G' H' : Hp} {fp fp' : Fps} {F : List Addr} {E : WX}
theorem PoX.on {E0 : Exn → Env → Prop} (h : PoX K cn pv γ n G H fp E0 E) (s : Stp G H (InF fp) G' H' (fun a => InF fp' a ∨ a ∈ F)) : PoX K cn pv γ n G' H' fp' E0 E :=
  fun x ρ' cls dx σ' G2 H2 fp2 q s2 m l o => h x ρ' cls dx σ' G2 H2 fp2 q (s.seq (fun _ z => .inl z) s2 fun _ z => .inl z) m l o
theorem PoX.on0 {E0 : Exn → Env → Prop} (h : PoX K cn pv γ n G H fp E0 E) (s : Stp G H (InF fp) G' H' (InF fp')) : PoX K cn pv γ n G' H' fp' E0 E :=
  fun x ρ' cls dx σ' G2 H2 fp2 q s2 m l o => h x ρ' cls dx σ' G2 H2 fp2 q (s.trans s2) m l o
theorem PoN.on {N0 : Env → Prop} {N : St → Hp → Prop} (h : PoN K pv γ n G H fp N0 N) (s : Stp G H (InF fp) G' H' (InF fp')) : PoN K pv γ n G' H' fp' N0 N :=
  fun ρ' σ' G2 H2 fp2 q s2 m l => h ρ' σ' G2 H2 fp2 q (s.trans s2) m l
theorem PoN.on1 {N0 : Env → Prop} {N : St → Hp → Prop} (h : PoN K pv γ n G H fp N0 N) (s : Stp G H (InF fp) G' H' (fun a => InF fp' a ∨ a ∈ F)) : PoN K pv γ n G' H' fp' N0 N :=
  fun ρ' σ' G2 H2 fp2 q s2 m l => h ρ' σ' G2 H2 fp2 q (s.seq (fun _ z => .inl z) s2 fun _ z => .inl z) m l
theorem PoR.on {R0 : D → Env → Prop} {R : VK} (h : PoR K pv γ n G H fp R0 R) (s : Stp G H (InF fp) G' H' (InF fp')) : PoR K pv γ n G' H' fp' R0 R :=
  fun d ρ' v σ' G2 H2 fp2 F q s2 m l => h d ρ' v σ' G2 H2 fp2 F q (s.trans s2) m l
theorem PoR.on1 {R0 : D → Env → Prop} {R : VK} (h : PoR K pv γ n G H fp R0 R) (s : Stp G H (InF fp) G' H' (fun a => InF fp' a ∨ a ∈ F)) : PoR K pv γ n G' H' fp' R0 R :=
  fun d ρ' v σ' G2 H2 fp2 F q s2 m l => h d ρ' v σ' G2 H2 fp2 F q (s.seq (fun _ z => .inl z) s2 fun _ z => .inl z) m l
theorem PoS.on {D0 : DEnds} {Dn : Ends} (h : PoS K cn pv γ n G H fp D0 Dn E) (s : Stp G H (InF fp) G' H' (InF fp')) : PoS K cn pv γ n G' H' fp' D0 Dn E :=
  ⟨h.nx.on s, h.bk.on s, h.ct.on s, h.rt.on s, h.ex.on0 s⟩
theorem PoS.on1 {D0 : DEnds} {Dn : Ends} (h : PoS K cn pv γ n G H fp D0 Dn E) (s : Stp G H (InF fp) G' H' (fun a => InF fp' a ∨ a ∈ F)) : PoS K cn pv γ n G' H' fp' D0 Dn E :=
  ⟨h.nx.on1 s, h.bk.on1 s, h.ct.on1 s, h.rt.on1 s, h.ex.on s⟩

theorem root_ok {i : Nat} {d : D} (m : Mt K pv σ ρ G H fp) (e : rootD ρ i = some d) : ∃ x, σ[i]? = some (some x) ∧ Rp K G H x d (fp i) := by
  unfold rootD at e
  split at e
  · rename_i d0 h
    cases e
    exact m.sl i _ h
  · rename_i d0 h
    cases e
    exact ⟨_, m.pn i _ h⟩
  · cases e
theorem sl_ok {i : Nat} {d : D} (m : Mt K pv σ ρ G H fp) (e : slD ρ i = some d) : ∃ v F0, σ[i]? = some (some v) ∧ Rp K G H v d F0 ∧ ∀ a ∈ F0, InF fp a := by
  unfold slD at e
  split at e
  · rename_i d0 h
    cases e
    obtain ⟨x, h1, h2⟩ := m.sl i _ h
    exact ⟨x, _, h1, h2, fun a ha => ⟨i, ha⟩⟩
  · rename_i d0 h
    cases e
    obtain ⟨h1, h2⟩ := m.pn i _ h
    exact ⟨_, _, h1, h2, fun a ha => ⟨i, ha⟩⟩
  · rename_i j q h
    cases er : rootD ρ j with
    | none => rw [er] at e; cases e
    | some d0 =>
      rw [er] at e
      obtain ⟨x, h1, h2⟩ := root_ok m er
      obtain ⟨x', y, g1, g2, g3⟩ := m.br i j q h
      rw [h1] at g1; cases g1
      obtain ⟨F', r', s'⟩ := Rp.path h2 e g3
      exact ⟨y, F', g2, r', fun a ha => ⟨j, s' a ha⟩⟩
  · cases e
theorem look_ok {r : Rv} {v : V} {d : D} {P : Addr → Prop} (m : Mt K pv σ ρ G H fp) (o : RvOk K σ G H P v r F) (e : look ρ r = some d) : ∃ F0, Rp K G H v d F0 ∧ ∀ a ∈ F0, a ∈ F ∨ InF fp a := by
  cases r with
  | t d' =>
    cases e
    exact ⟨F, o.1, fun a ha => .inl ha⟩
  | s i =>
    obtain ⟨o1, o2⟩ := o
    obtain ⟨v', F0, h1, h2, h3⟩ := sl_ok m (show slD ρ i = some d from e)
    rw [o1] at h1; cases h1
    exact ⟨F0, h2, fun a ha => .inr (h3 a ha)⟩
end

/-! ### names, constants -/
section
variable {X : Cx} {cn : String → Addr} {E : WX}
def dVar (i : Nat) : DE := fun ρ Q _ => (slD ρ i).isSome = true ∧ Q (.s i) ρ
def dC (v : V) : DE := fun ρ Q _ => Q (.t (.p v)) ρ
theorem get_left {σ γ : St} {i : Nat} {x : V} (hi : i < σ.length) (h : (σ ++ γ)[i]? = some (some x)) : σ[i]? = some (some x) := by
  rwa [List.getElem?_append_left hi] at h
theorem stp0 (G H : Hp) (fp : Fps) : Stp G H (InF fp) G H (fun a => InF fp a ∨ a ∈ ([] : List Addr)) := (Stp.refl _ _ _).mono (fun _ z => z) fun _ z => .inl (z.elim id fun q => by cases q)
theorem je_c {e : Expr} {v : V} (h : PE X e (tC v)) : JE X cn E e (dC v) := pe_imp h fun σ H Q ⟨pv, γ, ρ, G, fp, Q0, E0, m, q, po, _⟩ =>
  po _ _ _ G H fp [] q (stp0 G H fp) m ⟨Rp.p v, fun a z => by cases z⟩
theorem je_v {e : Expr} {i : Nat} (hi : i < X.N.length) (h : PE X e (tVar i)) : JE X cn E e (dVar i) := ⟨fun pins s σ H Q I ⟨pv, γ, ρ, G, fp, Q0, E0, m, ⟨q1, q⟩, po, _⟩ => by
  obtain ⟨d, hd⟩ := Option.isSome_iff_exists.mp q1
  obtain ⟨v, F0, h1, h2, h3⟩ := sl_ok m hd
  have hl : i < σ.length := by rw [I.len]; exact hi
  exact h.run pins s σ H Q I ⟨v, get_left hl h1, po _ _ _ G H fp [] q (stp0 G H fp) m ⟨h1, rfl⟩⟩⟩
end
end DL
/-! DL3: operators, tests, arguments, displays, calls. -/
namespace DL
open PySem L2

mutual
def D.isFz : D → Bool
  | .p _ => true
  | .n o _ ch => !o && isFzL ch
def isFzL : List D → Bool
  | [] => true
  | d :: ds => d.isFz && isFzL ds
end
mutual
theorem fz_of : ∀ {d : D}, d.isFz = true → d.fz = d
  | .p _, _ => by simp only [D.fz]
  | .n o k ch, h => by
    simp only [D.isFz, Bool.and_eq_true, Bool.not_eq_true'] at h
    simp only [D.fz, h.1, fzL_of h.2]
theorem fzL_of : ∀ {ds : List D}, isFzL ds = true → fzL ds = ds
  | [], _ => by simp only [fzL]
  | d :: ds, h => by
    simp only [isFzL, Bool.and_eq_true] at h
    simp only [fzL, fz_of h.1, fzL_of h.2]
end
mutual
theorem isFz_fz : ∀ d : D, d.fz.isFz = true
  | .p _ => by simp only [D.fz, D.isFz]
  | .n o k ch => by simp only [D.fz, D.isFz, isFzL_fz ch, Bool.not_false, Bool.and_self]
theorem isFzL_fz : ∀ ds : List D, isFzL (fzL ds) = true
  | [] => by simp only [fzL, isFzL]
  | d :: ds => by simp only [fzL, isFzL, isFz_fz d, isFzL_fz ds, Bool.and_self]
end
theorem isFzL_all : ∀ ds : List D, isFzL ds = ds.all D.isFz
  | [] => by simp only [isFzL, List.all_nil]
  | d :: ds => by simp only [isFzL, List.all_cons, isFzL_all ds]
section
variable {K : PySem.W.Frag} {G H : Hp}
mutual
theorem Rp.foot0 : ∀ {v : V} (d : D) {F : List Addr}, Rp K G H v d F → d.isFz = true → F = []
  | _, .p v, _, h, _ => by
    cases h
    rfl
  | _, .n ow k ch, _, h, z => by
    simp only [D.isFz, Bool.and_eq_true, Bool.not_eq_true'] at z
    cases h with
    | f h1 h2 => exact RpL.foot0 ch h2 z.2
    | o h0 h1 h3 h2 => cases z.1
theorem RpL.foot0 : ∀ {vs : List V} (ds : List D) {F : List Addr}, RpL K G H vs ds F → isFzL ds = true → F = []
  | _, [], _, h, _ => by
    cases h
    rfl
  | _, d :: ds, _, h, z => by
    simp only [isFzL, Bool.and_eq_true] at z
    cases h with
    | cons h1 h2 h3 => rw [Rp.foot0 d h1 z.1, RpL.foot0 ds h2 z.2]; rfl
end
theorem RpL.app : ∀ {vs ws : List V} {ds es : List D} {F F' : List Addr}, RpL K G H vs ds F → RpL K G H ws es F' → (∀ a ∈ F, a ∉ F') → RpL K G H (vs ++ ws) (ds ++ es) (F ++ F')
  | _, _, [], es, _, _, h, h', _ => by
    cases h
    exact h'
  | _, _, d :: ds, es, _, _, h, h', e => by
    cases h with
    | cons h1 h2 h3 =>
      rw [List.cons_append, List.cons_append, List.append_assoc]
      refine RpL.cons h1 (RpL.app h2 h' fun a ha => e a (List.mem_append_right _ ha)) fun a ha hn => ?_
      rcases List.mem_append.mp hn with hn | hn
      · exact h3 a ha hn
      · exact e a (List.mem_append_left _ ha) hn
theorem RpL.one {v : V} {d : D} {F : List Addr} (h : Rp K G H v d F) : RpL K G H [v] [d] F := by
  have := RpL.cons h RpL.nil (F' := []) (fun _ _ z => by cases z)
  simpa using this
end

/-! ### taking a handle's value -/
def killB (i : Nat) : Env → Env
  | [] => []
  | .b j q :: r => (if j = i then Sl.un else Sl.b j q) :: killB i r
  | s :: r => s :: killB i r
theorem killB_len (i : Nat) : ∀ ρ : Env, (killB i ρ).length = ρ.length
  | [] => rfl
  | .un :: r => by simp only [killB, List.length_cons, killB_len i r]
  | .v _ :: r => by simp only [killB, List.length_cons, killB_len i r]
  | .w _ :: r => by simp only [killB, List.length_cons, killB_len i r]
  | .b _ _ :: r => by simp only [killB, List.length_cons, killB_len i r]
theorem killB_get (i : Nat) : ∀ (ρ : Env) (k : Nat), (killB i ρ)[k]? = (ρ[k]?).map fun s => match s with
    | .b j q => if j = i then Sl.un else Sl.b j q
    | s => s
  | [], k => by simp [killB]
  | s :: r, 0 => by cases s <;> simp [killB]
  | s :: r, k + 1 => by
    have ih := killB_get i r k
    cases s <;> simpa [killB] using ih
theorem killB_of {i j : Nat} {s : Sl} {ρ : Env} (h : (killB i ρ)[j]? = some s) (hn : s ≠ .un) : ρ[j]? = some s ∧ ∀ q, s ≠ .b i q := by
  rw [killB_get] at h
  cases e : ρ[j]? with
  | none => rw [e] at h; cases h
  | some s' =>
    rw [e] at h
    simp only [Option.map_some, Option.some.injEq] at h
    cases s' with
    | un => subst h; exact ⟨rfl, fun q z => by cases z⟩
    | v _ => subst h; exact ⟨rfl, fun q z => by cases z⟩
    | w _ => subst h; exact ⟨rfl, fun q z => by cases z⟩
    | b k q =>
      simp only at h
      split at h
      · exact absurd h.symm hn
      · rename_i hk
        subst h
        exact ⟨rfl, fun q' z => by cases z; exact hk rfl⟩
/-- a value read as a part of another one, handed on, kept: no more held alone -/
def tk (ρ : Env) : Rv → Option (D × Env)
  | .t d => some (d, ρ)
  | .s i => match slD ρ i with
    | some d => if d.isFz = true then some (d, ρ) else match ρ[i]? with
      | some (.v d) => some (d.fz, (killB i ρ).set i (.v d.fz))
      | _ => none
    | none => none
/-- a name stored -/
def stV (ρ : Env) (i : Nat) (d : D) : Option Env := match ρ[i]? with
  | some (.w _) => none
  | some _ => some ((killB i ρ).set i (.v d))
  | none => none
def updF (fp : Fps) (i : Nat) (F : List Addr) : Fps := fun j => if j = i then F else fp j
theorem updF_same {fp : Fps} {i : Nat} {F : List Addr} : updF fp i F i = F := if_pos rfl
theorem updF_ne {fp : Fps} {i j : Nat} {F : List Addr} (h : j ≠ i) : updF fp i F j = fp j := if_neg h
section
variable {K : PySem.W.Frag} {pv : Nat → V} {σ γ : St} {ρ : Env} {G H G' H' : Hp} {fp : Fps} {F : List Addr}
/-- a slot's value frozen -/
theorem Mt.frz {i : Nat} {d : D} (m : Mt K pv σ ρ G H fp) (hi : ρ[i]? = some (Sl.v d)) : Mt K pv σ ((killB i ρ).set i (.v d.fz)) (frzH G H (fp i)) H (updF fp i []) := by
  have hl : i < ρ.length := (List.getElem?_eq_some_iff.mp hi).1
  have hl' : i < (killB i ρ).length := by rw [killB_len]; exact hl
  have hs : Sub G (frzH G H (fp i)) := sub_frzH fun a ha => (m.ft i a ha).1
  have key : ∀ j, j ≠ i → ∀ {x : V} {d : D}, Rp K G H x d (fp j) → Rp K (frzH G H (fp i)) H x d (updF fp i [] j) := fun j hj x d r => by
    rw [updF_ne hj]
    exact r.mov hs _ fun a ha o hg ho => ⟨by rw [frzH_out (m.ap j i hj a ha)]; exact hg, ho⟩
  have gk : ∀ {j : Nat} {s : Sl}, j ≠ i → ((killB i ρ).set i (.v d.fz))[j]? = some s → s ≠ .un → ρ[j]? = some s ∧ ∀ q, s ≠ .b i q := fun {j s} hj h hn => by
    rw [List.getElem?_set_ne (Ne.symm hj)] at h
    exact killB_of h hn
  refine ⟨frzH_sub m.sub, by rw [List.length_set, killB_len]; exact m.len, fun j d' h => ?_, fun j d' h => ?_, fun j k q h => ?_, fun j k hjk a ha => ?_, fun j a ha => ?_⟩
  · by_cases hj : j = i
    · subst hj
      rw [List.getElem?_set_self hl'] at h
      cases h
      obtain ⟨x, h1, h2⟩ := m.sl j d hi
      refine ⟨x, h1, ?_⟩
      rw [updF_same]
      exact h2.froz hs _ fun a ha => frzH_in ha
    · obtain ⟨x, h1, h2⟩ := m.sl j d' (gk hj h (by intro z; cases z)).1
      exact ⟨x, h1, key j hj h2⟩
  · by_cases hj : j = i
    · subst hj
      rw [List.getElem?_set_self hl'] at h
      cases h
    · obtain ⟨h1, h2⟩ := m.pn j d' (gk hj h (by intro z; cases z)).1
      exact ⟨h1, key j hj h2⟩
  · by_cases hj : j = i
    · subst hj
      rw [List.getElem?_set_self hl'] at h
      cases h
    · obtain ⟨g1, g2⟩ := gk hj h (by intro z; cases z)
      obtain ⟨x, y, h1, h2, h3⟩ := m.br j k q g1
      have hk : k ≠ i := fun z => g2 q (by rw [z])
      exact ⟨x, y, h1, h2, by rw [updF_ne hk]; exact h3⟩
  · by_cases hj : j = i
    · subst hj; rw [updF_same] at ha; cases ha
    · rw [updF_ne hj] at ha
      by_cases hk : k = i
      · subst hk; rw [updF_same]; simp
      · rw [updF_ne hk]; exact m.ap j k hjk a ha
  · by_cases hj : j = i
    · subst hj; rw [updF_same] at ha; cases ha
    · rw [updF_ne hj] at ha
      exact ⟨by rw [frzH_out (m.ap j i hj a ha)]; exact (m.ft j a ha).1, (m.ft j a ha).2⟩
/-- a slot's value moved out -/
theorem Mt.out {i : Nat} {d : D} (m : Mt K pv σ ρ G H fp) (hi : ρ[i]? = some (Sl.v d)) : Mt K pv σ ((killB i ρ).set i .un) G H (updF fp i []) := by
  have hl : i < ρ.length := (List.getElem?_eq_some_iff.mp hi).1
  have hl' : i < (killB i ρ).length := by rw [killB_len]; exact hl
  have gk : ∀ {j : Nat} {s : Sl}, j ≠ i → ((killB i ρ).set i .un)[j]? = some s → s ≠ .un → ρ[j]? = some s ∧ ∀ q, s ≠ .b i q := fun {j s} hj h hn => by
    rw [List.getElem?_set_ne (Ne.symm hj)] at h
    exact killB_of h hn
  refine ⟨m.sub, by rw [List.length_set, killB_len]; exact m.len, fun j d' h => ?_, fun j d' h => ?_, fun j k q h => ?_, fun j k hjk a ha => ?_, fun j a ha => ?_⟩
  · by_cases hj : j = i
    · subst hj; rw [List.getElem?_set_self hl'] at h; cases h
    · rw [updF_ne hj]
      exact m.sl j d' (gk hj h (by intro z; cases z)).1
  · by_cases hj : j = i
    · subst hj; rw [List.getElem?_set_self hl'] at h; cases h
    · rw [updF_ne hj]
      exact m.pn j d' (gk hj h (by intro z; cases z)).1
  · by_cases hj : j = i
    · subst hj; rw [List.getElem?_set_self hl'] at h; cases h
    · obtain ⟨g1, g2⟩ := gk hj h (by intro z; cases z)
      obtain ⟨x, y, h1, h2, h3⟩ := m.br j k q g1
      have hk : k ≠ i := fun z => g2 q (by rw [z])
      exact ⟨x, y, h1, h2, by rw [updF_ne hk]; exact h3⟩
  · by_cases hj : j = i
    · subst hj; rw [updF_same] at ha; cases ha
    · rw [updF_ne hj] at ha
      by_cases hk : k = i
      · subst hk; rw [updF_same]; simp
      · rw [updF_ne hk]; exact m.ap j k hjk a ha
  · by_cases hj : j = i
    · subst hj; rw [updF_same] at ha; cases ha
    · rw [updF_ne hj] at ha
      exact m.ft j a ha
theorem InF.updF {fp : Fps} {i : Nat} {F : List Addr} {a : Addr} (h : InF (DL.updF fp i F) a) : InF fp a ∨ a ∈ F := by
  obtain ⟨j, hj⟩ := h
  by_cases e : j = i
  · subst e; rw [updF_same] at hj; exact .inr hj
  · rw [updF_ne e] at hj; exact .inl ⟨j, hj⟩
/-- a value put in a slot -/
theorem Mt.put {i : Nat} {d : D} {ρ' : Env} {x : V} (m : Mt K pv σ ρ G H fp) (hst : stV ρ i d = some ρ') (r : Rp K G H x d F) (hd : ∀ a ∈ F, ¬ InF fp a) : Mt K pv (σ.set i (some x)) ρ' G H (updF fp i F) := by
  have hl : i < ρ.length := by
    unfold stV at hst
    cases e : ρ[i]? with
    | none => rw [e] at hst; cases hst
    | some s => exact (List.getElem?_eq_some_iff.mp e).1
  have e' : ρ' = (killB i ρ).set i (.v d) := by
    unfold stV at hst
    split at hst
    · cases hst
    · cases hst; rfl
    · cases hst
  have hl' : i < (killB i ρ).length := by rw [killB_len]; exact hl
  have hlσ : i < σ.length := by rw [← m.len]; exact hl
  have gk : ∀ {j : Nat} {s : Sl}, j ≠ i → ρ'[j]? = some s → s ≠ .un → ρ[j]? = some s ∧ ∀ q, s ≠ .b i q := fun {j s} hj h hn => by
    rw [e', List.getElem?_set_ne (Ne.symm hj)] at h
    exact killB_of h hn
  refine ⟨m.sub, by rw [e', List.length_set, killB_len, List.length_set]; exact m.len, fun j d' h => ?_, fun j d' h => ?_, fun j k q h => ?_, fun j k hjk a ha => ?_, fun j a ha => ?_⟩
  · by_cases hj : j = i
    · subst hj
      rw [e', List.getElem?_set_self hl'] at h
      cases h
      exact ⟨x, by rw [List.getElem?_set_self hlσ], by rw [updF_same]; exact r⟩
    · rw [updF_ne hj, List.getElem?_set_ne (Ne.symm hj)]
      exact m.sl j d' (gk hj h (by intro z; cases z)).1
  · by_cases hj : j = i
    · subst hj
      rw [e', List.getElem?_set_self hl'] at h
      cases h
    · rw [updF_ne hj, List.getElem?_set_ne (Ne.symm hj)]
      exact m.pn j d' (gk hj h (by intro z; cases z)).1
  · by_cases hj : j = i
    · subst hj
      rw [e', List.getElem?_set_self hl'] at h
      cases h
    · obtain ⟨g1, g2⟩ := gk hj h (by intro z; cases z)
      obtain ⟨x', y, h1, h2, h3⟩ := m.br j k q g1
      have hk : k ≠ i := fun z => g2 q (by rw [z])
      exact ⟨x', y, by rw [List.getElem?_set_ne (Ne.symm hk)]; exact h1, by rw [List.getElem?_set_ne (Ne.symm hj)]; exact h2, by rw [updF_ne hk]; exact h3⟩
  · by_cases hj : j = i
    · subst hj
      rw [updF_same] at ha
      rw [updF_ne (Ne.symm hjk)]
      exact fun z => hd a ha ⟨k, z⟩
    · rw [updF_ne hj] at ha
      by_cases hk : k = i
      · subst hk; rw [updF_same]; exact fun z => hd a z ⟨j, ha⟩
      · rw [updF_ne hk]; exact m.ap j k hjk a ha
  · by_cases hj : j = i
    · subst hj; rw [updF_same] at ha; exact Rp.foot _ r a ha
    · rw [updF_ne hj] at ha
      exact m.ft j a ha
/-- taking: the shared part may grow -/
theorem tk_ok {r : Rv} {v : V} {d : D} {ρ' : Env} {P : Addr → Prop} (m : Mt K pv σ ρ G H fp) (o : RvOk K σ G H P v r F) (hP : ∀ a, InF fp a → P a) (e : tk ρ r = some (d, ρ')) :
    ∃ G' fp', Stp G H (InF fp) G' H (InF fp') ∧ Mt K pv σ ρ' G' H fp' ∧ Rp K G' H v d F ∧ (∀ a, InF fp' a → InF fp a) := by
  cases r with
  | t d' =>
    cases e
    exact ⟨G, fp, Stp.refl _ _ _, m, o.1, fun _ z => z⟩
  | s i =>
    obtain ⟨o1, o2⟩ := o
    subst o2
    unfold tk at e
    simp only at e
    cases es : slD ρ i with
    | none => rw [es] at e; cases e
    | some d0 =>
      rw [es] at e
      simp only at e
      obtain ⟨v', F0, h1, h2, h3⟩ := sl_ok m es
      rw [o1] at h1; cases h1
      split at e
      · rename_i hz
        cases e
        have := Rp.foot0 _ h2 hz
        subst this
        exact ⟨G, fp, Stp.refl _ _ _, m, h2, fun _ z => z⟩
      · split at e
        · rename_i d1 hi
          cases e
          obtain ⟨x, g1, g2⟩ := m.sl i d1 hi
          rw [o1] at g1; cases g1
          refine ⟨frzH G H (fp i), updF fp i [], ?_, m.frz hi, g2.froz (sub_frzH fun a ha => (m.ft i a ha).1) _ fun a ha => frzH_in ha, fun a z => ?_⟩
          · refine (Stp.frz (P := InF fp) (fun a ha => (m.ft i a ha).1) fun a ha => ⟨i, ha⟩).mono (fun _ z => z) fun a z => .inr ?_
            rcases InF.updF z with z | z
            · exact z
            · cases z
          · rcases InF.updF z with z | z
            · exact z
            · cases z
        · cases e
end
end DL
/-! DL4: rules for expressions and tests. -/
namespace DL
open PySem L2

section
variable {K : PySem.W.Frag} {cn : String → Addr} {pv : Nat → V} {σ γ : St} {n : Nat} {ρ : Env} {G H G' H' G2 H2 G3 H3 : Hp} {fp fp' fp2 : Fps} {F : List Addr} {E : WX}
/-- behind a step that only makes new things -/
theorem fin_new {P P2 P3 : Addr → Prop} (m : Mt K pv σ ρ G2 H2 fp2) (s : Stp G H P G2 H2 P2) (h2 : ∀ a, InF fp2 a → P2 a) (s3 : Stp G2 H2 (fun _ => False) G3 H3 P3) (hs : Sub G3 H3) :
    Stp G H P G3 H3 (fun a => InF fp2 a ∨ P3 a) ∧ Mt K pv σ ρ G3 H3 fp2 ∧ ∀ a, P3 a → ¬ InF fp2 a := by
  refine ⟨s.trans (s3.mono (fun _ z => z.elim) fun x z => z.elim (fun z => .inr (h2 x z)) .inl), m.step s3 hs, fun a z q => ?_⟩
  rcases s3.f a z with y | y
  · exact y
  · obtain ⟨j, hj⟩ := q
    obtain ⟨_, o, ho⟩ := m.ft j a hj
    rw [y] at ho; cases ho
end

/-- a two-place operation on deep values -/
abbrev Op2 := D → D → (D → Prop) → Prop
def Fin (K : PySem.W.Frag) (G H : Hp) (Q0 : D → Prop) (Q : VK) : Prop := ∀ z w G' H' F, Q0 z → Stp G H (fun _ => False) G' H' (fun a => a ∈ F) → Sub G' H' → Rp K G' H' w z F → Q w H'
def Sem2 (K : PySem.W.Frag) (rr : R2) (r : Op2) : Prop := ∀ G H v u d e F1 F2 Q0 Q, Sub G H → Rp K G H v d F1 → Rp K G H u e F2 → r d e Q0 → Fin K G H Q0 Q → rr v u H Q
def Sem1 (K : PySem.W.Frag) (rr : V → Hp → VK → Prop) (r : D → (D → Prop) → Prop) : Prop := ∀ G H v d F1 Q0 Q, Sub G H → Rp K G H v d F1 → r d Q0 → Fin K G H Q0 Q → rr v H Q
/-- each for itself -/
abbrev Rps (K : PySem.W.Frag) (G H : Hp) : List V → List D → Prop := Paired fun v d => ∃ F, Rp K G H v d F
def SemL (K : PySem.W.Frag) (rr : List V → Hp → VK → Prop) (r : List D → (D → Prop) → Prop) : Prop := ∀ G H vs ds Q0 Q, Sub G H → Rps K G H vs ds → r ds Q0 → Fin K G H Q0 Q → rr vs H Q

def dOp (r : Op2) (ta tb : DE) : DE := fun ρ Q E => ta ρ (fun x ρ1 => tb ρ1 (fun y ρ2 => ∃ d e, look ρ2 x = some d ∧ look ρ2 y = some e ∧ r d e fun z => Q (.t z) ρ2) E) E
def dUn (r : D → (D → Prop) → Prop) (ta : DE) : DE := fun ρ Q E => ta ρ (fun x ρ1 => ∃ d, look ρ1 x = some d ∧ r d fun z => Q (.t z) ρ1) E
def dTst (ta : DE) : DT := fun ρ Q E => ta ρ (fun x ρ1 => ∃ b, look ρ1 x = some (.p (.bl b)) ∧ Q b ρ1) E
def dAnd (t u : DT) : DT := fun ρ Q E => t ρ (fun b ρ1 => if b = true then u ρ1 Q E else Q false ρ1) E
def dOr (t u : DT) : DT := fun ρ Q E => t ρ (fun b ρ1 => if b = true then Q true ρ1 else u ρ1 Q E) E
def dNot (t : DT) : DT := fun ρ Q E => t ρ (fun b ρ1 => Q (!b) ρ1) E
def dAndV (ta tb : DE) : DE := fun ρ Q E => ta ρ (fun x ρ1 => ∃ b, look ρ1 x = some (.p (.bl b)) ∧ if b = true then tb ρ1 Q E else Q (.t (.p (.bl false))) ρ1) E
def dOrV (ta tb : DE) : DE := fun ρ Q E => ta ρ (fun x ρ1 => ∃ b, look ρ1 x = some (.p (.bl b)) ∧ if b = true then Q (.t (.p (.bl true))) ρ1 else tb ρ1 Q E) E
def dNotV (ta : DE) : DE := fun ρ Q E => ta ρ (fun x ρ1 => ∃ b, look ρ1 x = some (.p (.bl b)) ∧ Q (.t (.p (.bl (!b)))) ρ1) E
def dIf (t : DT) (ta tb : DE) : DE := fun ρ Q E => t ρ (fun b ρ1 => if b = true then ta ρ1 Q E else tb ρ1 Q E) E
def dMv (i : Nat) : DE := fun ρ Q _ => ∃ d, ρ[i]? = some (.v d) ∧ Q (.t d) ((killB i ρ).set i .un)
/-- x < y < z -/
def dChain (r r' : Op2) (ta tb tc : DE) : DE := fun ρ Q E => ta ρ (fun x ρ1 => tb ρ1 (fun y ρ2 => ∃ d e, look ρ2 x = some d ∧ look ρ2 y = some e ∧ r d e fun z => ∃ b, z = .p (.bl b) ∧
  if b = true then tc ρ2 (fun y' ρ3 => ∃ e' e'', look ρ3 y = some e' ∧ look ρ3 y' = some e'' ∧ r' e' e'' fun z => Q (.t z) ρ3) E else Q (.t (.p (.bl false))) ρ2) E) E

section
variable {X : Cx} {cn : String → Addr} {E : WX} {a b c : Expr} {pos : Pos} {ta tb tc : DE} {t u : DT}
/-- a handle's value, as a value of its own, where it is a plain one -/
theorem look_p {K : PySem.W.Frag} {pv : Nat → V} {σ : St} {ρ : Env} {G H : Hp} {fp : Fps} {P : Addr → Prop} {v x : V} {r : Rv} {F : List Addr} (m : Mt K pv σ ρ G H fp) (o : RvOk K σ G H P v r F) (e : look ρ r = some (.p x)) : v = x := by
  obtain ⟨F0, h, _⟩ := look_ok m o e
  cases h
  rfl
theorem opE {rr : R2} {r : Op2} (hs : Sem2 X.K rr r) (σ : St) (H : Hp) (Q : VK) : liftE X.K cn E (dOp r ta tb) σ H Q → tOp rr (liftE X.K cn E ta) (liftE X.K cn E tb) σ H Q := by
  rintro ⟨pv, γ, ρ, G, fp, Q0, E0, m, q, po, px⟩
  refine ⟨pv, γ, ρ, G, fp, _, E0, m, q, fun x ρ1 v G1 H1 fp1 F1 q1 s1 m1 o1 => ?_, px⟩
  refine ⟨pv, γ, ρ1, G1, fp1, _, E0, m1, q1, fun y ρ2 w G2 H2 fp2 F2 q2 s2 m2 o2 => ?_, px.on s1⟩
  obtain ⟨d, e, l1, l2, q2⟩ := q2
  obtain ⟨A, rA, _⟩ := look_ok m2 (o1.frame s2) l1
  obtain ⟨B, rB, _⟩ := look_ok m2 o2 l2
  refine hs G2 H2 v w d e A B _ Q m2.sub rA rB q2 fun z w' G3 H3 Fz qz s3 hs3 rz => ?_
  obtain ⟨f1, f2, f3⟩ := fin_new m2 (s1.seq (fun _ z => .inl z) s2 fun _ z => .inl z) (fun a z => .inl z) s3 hs3
  exact po (.t z) ρ2 w' G3 H3 fp2 Fz qz f1 f2 ⟨rz, f3⟩
theorem je_op {op : Operator} {rr : R2} {r : Op2} (ho : OpR X (binaryOp op) rr) (hs : Sem2 X.K rr r) (ha : JE X cn E a ta) (hb : JE X cn E b tb) : JE X cn E (.BinOp a op b pos) (dOp r ta tb) :=
  pe_imp (pe_op ho ha hb) (opE hs)
theorem je_cmp {op : CmpOp} {rr : R2} {r : Op2} (ho : OpR X (compareOp op) rr) (hs : Sem2 X.K rr r) (ha : JE X cn E a ta) (hb : JE X cn E b tb) (hm : behindInMarks op b = false) : JE X cn E (.Compare a [op] [b] pos) (dOp r ta tb) :=
  pe_imp (pe_cmpR ho ha hb hm) (opE hs)
theorem je_un {op : UnaryOp} {rr : V → Hp → VK → Prop} {r : D → (D → Prop) → Prop} (ho : UnR X (unaryOp op) rr) (hs : Sem1 X.K rr r) (ha : JE X cn E a ta) : JE X cn E (.UnaryOp op a pos) (dUn r ta) :=
  pe_imp (pe_un ho ha) fun σ H Q ⟨pv, γ, ρ, G, fp, Q0, E0, m, q, po, px⟩ => ⟨pv, γ, ρ, G, fp, _, E0, m, q, fun x ρ1 v G1 H1 fp1 F1 ⟨d, l1, q1⟩ s1 m1 o1 => by
    obtain ⟨A, rA, _⟩ := look_ok m1 o1 l1
    refine hs G1 H1 v d A _ Q m1.sub rA q1 fun z w' G3 H3 Fz qz s3 hs3 rz => ?_
    obtain ⟨f1, f2, f3⟩ := fin_new m1 s1 (fun a z => .inl z) s3 hs3
    exact po (.t z) ρ1 w' G3 H3 fp1 Fz qz f1 f2 ⟨rz, f3⟩, px⟩
theorem drop0 {fp : Fps} {P : Addr → Prop} {G H G' H' : Hp} {F : List Addr} (s : Stp G H P G' H' (fun a => InF fp a ∨ a ∈ F)) : Stp G H P G' H' (InF fp) := s.mono (fun _ z => z) fun _ z => .inl (.inl z)
theorem tstE {tt : DE} (σ : St) (H : Hp) (Q : Bool → Hp → Prop) : liftT X.K cn E (dTst tt) σ H Q → liftE X.K cn E tt σ H (fun x H1 => ∃ k, x = .bl k ∧ Q k H1) := by
  rintro ⟨pv, γ, ρ, G, fp, Q0, E0, m, q, po, px⟩
  refine ⟨pv, γ, ρ, G, fp, _, E0, m, q, fun x ρ1 v G1 H1 fp1 F1 ⟨b, l1, q1⟩ s1 m1 o1 => ?_, px⟩
  exact ⟨b, look_p m1 o1 l1, po b ρ1 G1 H1 fp1 q1 (drop0 s1) m1⟩
theorem jt_cmp {op : CmpOp} {rr : R2} {r : Op2} (ho : OpR X (compareOp op) rr) (hs : Sem2 X.K rr r) (ha : JE X cn E a ta) (hb : JE X cn E b tb) (hm : behindInMarks op b = false) : JT X cn E (.Compare a [op] [b] pos) (dTst (dOp r ta tb)) := by
  refine pt_imp (pt_cmpR ho ha hb hm) fun σ H Q h => ?_
  have := tstE σ H Q h
  exact opE hs σ H _ this
theorem jt_val (h : JE X cn E a ta) (he : ∀ whole, isTrue a X.env whole = (do let v ← whole; standAt a.pos; holding [v] (truthy v)) := by intro _; rfl) : JT X cn E a (dTst ta) :=
  pt_imp (pt_val h he) fun σ H Q h => tstE σ H Q h
theorem jw_and1 (h : JT X cn E a t) : JW X cn E (.BoolOp .And [a] pos) t := pw_and1 h
theorem jw_or1 (h : JT X cn E a t) : JW X cn E (.BoolOp .Or [a] pos) t := pw_or1 h
theorem jw_and {rest : List Expr} (ha : JT X cn E a t) (hb : JW X cn E (.BoolOp .And (b :: rest) pos) u) : JW X cn E (.BoolOp .And (a :: b :: rest) pos) (dAnd t u) :=
  pw_imp (pw_and ha hb) fun σ H Q ⟨pv, γ, ρ, G, fp, Q0, E0, m, q, po, px⟩ => ⟨pv, γ, ρ, G, fp, _, E0, m, q, fun b ρ1 G1 H1 fp1 q1 s1 m1 => by
    cases b with
    | true => exact ⟨pv, γ, ρ1, G1, fp1, Q0, E0, m1, q1, fun b2 ρ2 G2 H2 fp2 q2 s2 m2 => po b2 ρ2 G2 H2 fp2 q2 (s1.trans s2) m2, px.on0 s1⟩
    | false => exact po false ρ1 G1 H1 fp1 q1 s1 m1, px⟩
theorem jw_or {rest : List Expr} (ha : JT X cn E a t) (hb : JW X cn E (.BoolOp .Or (b :: rest) pos) u) : JW X cn E (.BoolOp .Or (a :: b :: rest) pos) (dOr t u) :=
  pw_imp (pw_or ha hb) fun σ H Q ⟨pv, γ, ρ, G, fp, Q0, E0, m, q, po, px⟩ => ⟨pv, γ, ρ, G, fp, _, E0, m, q, fun b ρ1 G1 H1 fp1 q1 s1 m1 => by
    cases b with
    | false => exact ⟨pv, γ, ρ1, G1, fp1, Q0, E0, m1, q1, fun b2 ρ2 G2 H2 fp2 q2 s2 m2 => po b2 ρ2 G2 H2 fp2 q2 (s1.trans s2) m2, px.on0 s1⟩
    | true => exact po true ρ1 G1 H1 fp1 q1 s1 m1, px⟩
theorem jw_t (h : JW X cn E a t) : JT X cn E a t := PW.pt h
theorem jt_not (h : JT X cn E a t) : JT X cn E (.UnaryOp .Not a pos) (dNot t) :=
  pt_imp (pt_not h) fun σ H Q ⟨pv, γ, ρ, G, fp, Q0, E0, m, q, po, px⟩ => ⟨pv, γ, ρ, G, fp, _, E0, m, q, fun b ρ1 G1 H1 fp1 q1 s1 m1 => po (!b) ρ1 G1 H1 fp1 q1 s1 m1, px⟩
theorem po_bl {K : PySem.W.Frag} {pv : Nat → V} {σ γ : St} {G H G1 H1 : Hp} {fp fp1 : Fps} {F1 : List Addr} {Q0 : Rv → Env → Prop} {Q : VK} {b : Bool} {ρ1 : Env} (po : PoE K pv σ γ G H fp Q0 Q) (q : Q0 (.t (.p (.bl b))) ρ1) (s1 : Stp G H (InF fp) G1 H1 (fun a => InF fp1 a ∨ a ∈ F1)) (m1 : Mt K pv (σ ++ γ) ρ1 G1 H1 fp1) : Q (.bl b) H1 :=
  po _ _ _ G1 H1 fp1 [] q (s1.mono (fun _ z => z) fun a z => by
    rcases z with z | z
    · exact .inl (.inl z)
    · cases z) m1 ⟨Rp.p _, fun a z => by cases z⟩
theorem je_and {rest : List Expr} (ha : JE X cn E a ta) (hb : JE X cn E (.BoolOp .And (b :: rest) pos) tb) : JE X cn E (.BoolOp .And (a :: b :: rest) pos) (dAndV ta tb) :=
  pe_imp (pe_and ha hb) fun σ H Q ⟨pv, γ, ρ, G, fp, Q0, E0, m, q, po, px⟩ => ⟨pv, γ, ρ, G, fp, _, E0, m, q, fun x ρ1 v G1 H1 fp1 F1 ⟨b, l1, q1⟩ s1 m1 o1 => ⟨b, look_p m1 o1 l1, by
    cases b with
    | true => exact ⟨pv, γ, ρ1, G1, fp1, Q0, E0, m1, q1, fun r2 ρ2 v2 G2 H2 fp2 F2 q2 s2 m2 o2 => po r2 ρ2 v2 G2 H2 fp2 F2 q2 ((drop0 s1).trans s2) m2 o2, px.on s1⟩
    | false => exact po_bl po q1 s1 m1⟩, px⟩
theorem je_one {op} (h : JE X cn E a ta) : JE X cn E (.BoolOp op [a] pos) ta := pe_one h
theorem je_not (h : JE X cn E a ta) : JE X cn E (.UnaryOp .Not a pos) (dNotV ta) :=
  pe_imp (pe_not h) fun σ H Q ⟨pv, γ, ρ, G, fp, Q0, E0, m, q, po, px⟩ => ⟨pv, γ, ρ, G, fp, _, E0, m, q, fun x ρ1 v G1 H1 fp1 F1 ⟨b, l1, q1⟩ s1 m1 o1 => ⟨b, look_p m1 o1 l1, po_bl po q1 s1 m1⟩, px⟩
theorem je_mv {i : Nat} (hi : i < X.N.length) (h : PE X a (tVar i)) : JE X cn E a (dMv i) := ⟨fun pins sh σ H Q I ⟨pv, γ, ρ, G, fp, Q0, E0, m, ⟨d, hd, q⟩, po, _⟩ => by
  obtain ⟨v, h1, h2⟩ := m.sl i d hd
  have hl : i < σ.length := by rw [I.len]; exact hi
  have s : Stp G H (InF fp) G H (fun a => InF (updF fp i []) a ∨ a ∈ fp i) := (Stp.refl _ _ _).mono (fun _ z => z) fun x z => .inl (by
    rcases z with z | z
    · rcases InF.updF z with z | z
      · exact z
      · cases z
    · exact ⟨i, z⟩)
  refine h.run pins sh σ H Q I ⟨v, get_left hl h1, po (.t d) _ v G H _ (fp i) q s (m.out hd) ⟨h2, fun a ha z => ?_⟩⟩
  obtain ⟨j, hj⟩ := z
  by_cases e : j = i
  · subst e; rw [updF_same] at hj; cases hj
  · rw [updF_ne e] at hj
    exact m.ap j i e a hj ha⟩
theorem chainE {rr rr' : R2} {r r' : Op2} (hs : Sem2 X.K rr r) (hs' : Sem2 X.K rr' r') (σ : St) (H : Hp) (Q : VK) : liftE X.K cn E (dChain r r' ta tb tc) σ H Q → tChain rr rr' (liftE X.K cn E ta) (liftE X.K cn E tb) (liftE X.K cn E tc) σ H Q := by
  rintro ⟨pv, γ, ρ, G, fp, Q0, E0, m, q, po, px⟩
  refine ⟨pv, γ, ρ, G, fp, _, E0, m, q, fun x ρ1 v G1 H1 fp1 F1 q1 s1 m1 o1 => ?_, px⟩
  refine ⟨pv, γ, ρ1, G1, fp1, _, E0, m1, q1, fun y ρ2 w G2 H2 fp2 F2 q2 s2 m2 o2 => ?_, px.on s1⟩
  obtain ⟨d, e, l1, l2, q2⟩ := q2
  obtain ⟨A, rA, _⟩ := look_ok m2 (o1.frame s2) l1
  obtain ⟨B, rB, _⟩ := look_ok m2 o2 l2
  have s12 := s1.seq (fun _ z => .inl z) s2 (P3 := fun a => InF fp2 a ∨ a ∈ F2) fun _ z => .inl z
  refine hs G2 H2 v w d e A B _ _ m2.sub rA rB q2 fun z w' G3 H3 Fz qz s3 hs3 rz => ?_
  obtain ⟨k, rfl, qz⟩ := qz
  cases rz
  refine ⟨k, rfl, ?_⟩
  obtain ⟨f1, f2, f3⟩ := fin_new m2 s12 (fun a z => .inl z) s3 hs3
  have f1' : Stp G H (InF fp) G3 H3 (InF fp2) := f1.mono (fun _ z => z) fun _ z => .inl (.inl z)
  cases k with
  | false => exact po_bl (F1 := []) po qz f1 f2
  | true =>
    rw [if_pos rfl] at qz ⊢
    have px3 : PoX X.K cn pv γ σ.length G3 H3 fp2 E0 E := px.on0 f1'
    refine ⟨pv, γ, ρ2, G3, fp2, _, E0, f2, qz, fun y' ρ4 w4 G4 H4 fp4 F4 q4 s4 m4 o4 => ?_, px3⟩
    obtain ⟨e', e'', l3, l4, q4⟩ := q4
    have o3 : RvOk X.K (σ ++ γ) G3 H3 (InF fp2) w y F2 := by
      cases y with
      | s i => exact o2
      | t dy =>
        refine ⟨(Rp.frame o2.1 s3 fun _ _ z => z).1, o2.2⟩
    obtain ⟨A4, rA4, _⟩ := look_ok m4 (o3.frame s4) l3
    obtain ⟨B4, rB4, _⟩ := look_ok m4 o4 l4
    refine hs' G4 H4 w w4 e' e'' A4 B4 _ Q m4.sub rA4 rB4 q4 fun z w5 G5 H5 F5 q5 s5 hs5 r5 => ?_
    obtain ⟨g1, g2, g3⟩ := fin_new m4 (f1'.seq (fun _ z => z) s4 (P3 := fun a => InF fp4 a ∨ a ∈ F4) fun _ z => .inl z) (fun a z => .inl z) s5 hs5
    exact po (.t z) ρ4 w5 G5 H5 fp4 F5 q5 g1 g2 ⟨r5, g3⟩
theorem je_chain {op op' : CmpOp} {rr rr' : R2} {r r' : Op2} (ho : OpR X (compareOp op) rr) (ho' : OpR X (compareOp op') rr') (hs : Sem2 X.K rr r) (hs' : Sem2 X.K rr' r') (ha : JE X cn E a ta) (hb : JE X cn E b tb) (hc : JE X cn E c tc)
    (hm : lastMarks [op, op'] [b, c] = false := by with_unfolding_all rfl) : JE X cn E (.Compare a [op, op'] [b, c] pos) (dChain r r' ta tb tc) := pe_imp (pe_chain ho ho' ha hb hc hm) (chainE hs hs')
end
end DL
/-! DL5: arguments, calls of built-ins, displays, small statements. -/
namespace DL
open PySem L2

def dNil : DA := fun ρ Q _ => Q [] ρ
def dCons (ta : DE) (tr : DA) : DA := fun ρ Q E => ta ρ (fun x ρ1 => tr ρ1 (fun xs ρ2 => Q (x :: xs) ρ2) E) E
def lookL (ρ : Env) : List Rv → Option (List D)
  | [] => some []
  | r :: rs => match look ρ r, lookL ρ rs with
    | some d, some ds => some (d :: ds)
    | _, _ => none
/-- all taken, from the left -/
def tkL (ρ : Env) : List Rv → Option (List D × Env)
  | [] => some ([], ρ)
  | r :: rs => match tk ρ r with
    | some (d, ρ1) => match tkL ρ1 rs with
      | some (ds, ρ2) => some (d :: ds, ρ2)
      | none => none
    | none => none
def dCB (r : List D → (D → Prop) → Prop) (t : DA) : DE := fun ρ Q E => t ρ (fun rs ρ1 => ∃ ds, lookL ρ1 rs = some ds ∧ r ds fun z => Q (.t z) ρ1) E
def dLst (t : DA) : DE := fun ρ Q E => t ρ (fun rs ρ1 => ∃ ds ρ2, tkL ρ1 rs = some (ds, ρ2) ∧ ds.length ≤ 100000 ∧ Q (.t (.n true .lst ds)) ρ2) E
def dTup (t : DA) : DE := fun ρ Q E => t ρ (fun rs ρ1 => ∃ ds ρ2, tkL ρ1 rs = some (ds, ρ2) ∧ ds.length ≤ 100000 ∧ Q (.t (.n false .tup ds)) ρ2) E

section
variable {K : PySem.W.Frag} {cn : String → Addr} {pv : Nat → V} {σ γ : St} {n : Nat} {ρ : Env} {G H G' H' G2 H2 G3 H3 : Hp} {fp fp' fp2 : Fps} {E : WX}
theorem RvOk.weak {P P' : Addr → Prop} {v : V} {r : Rv} {F : List Addr} (o : RvOk K σ G H P v r F) (h : ∀ a, P' a → P a) : RvOk K σ G H P' v r F := by
  cases r with
  | t d => exact ⟨o.1, fun a ha z => o.2 a ha (h a z)⟩
  | s i => exact o
theorem RvOk.add {P : Addr → Prop} {v : V} {r : Rv} {F F1 : List Addr} (o : RvOk K σ G H P v r F) (h : ∀ a ∈ F1, a ∉ F) : RvOk K σ G H (fun a => P a ∨ a ∈ F1) v r F := by
  cases r with
  | t d => exact ⟨o.1, fun a ha z => z.elim (o.2 a ha) fun z => h a z ha⟩
  | s i => exact o
theorem RvOk.apart {P : Addr → Prop} {v : V} {r : Rv} {F : List Addr} (o : RvOk K σ G H P v r F) : ∀ a ∈ F, ¬ P a := by
  cases r with
  | t d => exact o.2
  | s i => obtain ⟨_, e⟩ := o; subst e; intro a ha; cases ha
theorem RvsOk.add : ∀ {rs : List Rv} {P P' : Addr → Prop} {vs : List V} {F : List Addr}, RvsOk K σ G H P vs rs F → (∀ a, P' a → P a ∨ a ∉ F) → RvsOk K σ G H P' vs rs F
  | [], _, _, _, _, .nil, _ => .nil
  | r :: rs, P, P', _, _, .cons (F := F0) (F' := F1) h t, e => by
    refine .cons ?_ (RvsOk.add t fun a q => ?_)
    · cases r with
      | t d => exact ⟨h.1, fun a ha z => by
          rcases e a z with y | y
          · exact h.2 a ha y
          · exact y (List.mem_append_left _ ha)⟩
      | s i => exact h
    · rcases q with q | q
      · rcases e a q with y | y
        · exact .inl (.inl y)
        · exact .inr fun z => y (List.mem_append_right _ z)
      · exact .inl (.inr q)
theorem RvsOk.foot : ∀ {rs : List Rv} {P : Addr → Prop} {vs : List V} {F : List Addr}, RvsOk K σ G H P vs rs F → ∀ a ∈ F, ¬ P a
  | [], _, _, _, .nil, _, z => by cases z
  | r :: rs, P, _, _, .cons (F := F0) (F' := F1) h t, a, z => by
    rcases List.mem_append.mp z with z | z
    · exact h.apart a z
    · exact fun q => RvsOk.foot t a z (.inl q)
theorem RvsOk.frame {G' H' : Hp} : ∀ {rs : List Rv} {P P' : Addr → Prop} {vs : List V} {F : List Addr}, RvsOk K σ G H P vs rs F → Stp G H P G' H' P' → RvsOk K σ G' H' P' vs rs F
  | [], _, _, _, _, .nil, _ => .nil
  | r :: rs, P, P', _, _, .cons (F := F0) (F' := F1) h t, s => by
    refine .cons (h.frame s) ?_
    have s' : Stp G H (fun a => P a ∨ a ∈ F0) G' H' (fun a => P' a ∨ a ∈ F0) := s.mono (fun _ z => .inl z) fun _ z => z.elim .inl fun z => .inr (.inr z)
    exact RvsOk.frame t s'
theorem lookL_ok (m : Mt K pv σ ρ G H fp) : ∀ {rs : List Rv} {P : Addr → Prop} {vs : List V} {F : List Addr} {ds : List D}, RvsOk K σ G H P vs rs F → lookL ρ rs = some ds → Rps K G H vs ds
  | [], _, _, _, ds, .nil, e => by
    simp only [lookL, Option.some.injEq] at e
    subst e
    exact .nil
  | r :: rs, P, _, _, ds, .cons h t, e => by
    simp only [lookL] at e
    split at e
    · rename_i d ds' e1 e2
      cases e
      obtain ⟨F0, h1, _⟩ := look_ok m h e1
      exact .cons ⟨F0, h1⟩ (lookL_ok m t e2)
    · cases e
/-- all taken -/
theorem tkL_ok : ∀ {rs : List Rv} {ρ ρ' : Env} {G : Hp} {fp : Fps} {P : Addr → Prop} {vs : List V} {F : List Addr} {ds : List D}, Mt K pv σ ρ G H fp → RvsOk K σ G H P vs rs F → (∀ a, InF fp a → P a) → tkL ρ rs = some (ds, ρ') →
    ∃ G' fp', Stp G H (InF fp) G' H (InF fp') ∧ Mt K pv σ ρ' G' H fp' ∧ RpL K G' H vs ds F ∧ ∀ a, InF fp' a → InF fp a
  | [], ρ, ρ', G, fp, P, _, _, ds, m, .nil, _, e => by
    simp only [tkL, Option.some.injEq, Prod.mk.injEq] at e
    obtain ⟨e1, e2⟩ := e
    subst e1 e2
    exact ⟨G, fp, Stp.refl _ _ _, m, .nil, fun _ z => z⟩
  | r :: rs, ρ, ρ', G, fp, P, _, _, ds, m, .cons (vs := vs1) (F := F0) (F' := F1) h t, hP, e => by
    simp only [tkL] at e
    split at e
    · rename_i d ρ1 e1
      split at e
      · rename_i ds' ρ2 e2
        cases e
        obtain ⟨G1, fp1, s1, m1, r1, i1⟩ := tk_ok m h hP e1
        have t1 : RvsOk K σ G1 H (fun a => InF fp1 a ∨ a ∈ F0) vs1 rs F1 := by
          have s1' : Stp G H (fun a => P a ∨ a ∈ F0) G1 H (fun a => InF fp1 a ∨ a ∈ F0) := s1.mono (fun a z => .inl (hP a z)) fun a z => z.elim .inl fun z => .inr (.inr z)
          exact t.frame s1'
        obtain ⟨G2, fp2, s2, m2, r2, i2⟩ := tkL_ok m1 t1 (fun a z => .inl z) e2
        have dis : ∀ a ∈ F0, ¬ InF fp1 a := fun a ha z => h.apart a ha (hP a (i1 a z))
        refine ⟨G2, fp2, s1.trans s2, m2, .cons (Rp.frame r1 s2 dis).1 r2 fun a ha hb => ?_, fun a z => i1 a (i2 a z)⟩
        exact RvsOk.foot t1 a hb (.inr ha)
      · cases e
    · cases e
end

section
variable {X : Cx} {cn : String → Addr} {E : WX} {e : Expr} {es : List Expr} {pos : Pos} {ta : DE} {t : DA}
theorem ja_nil : JA X cn E [] dNil := pa_imp pa_nil fun σ H Q ⟨pv, γ, ρ, G, fp, Q0, E0, m, q, po, px⟩ => po [] ρ [] G H fp [] q (stp0 G H fp) m .nil
theorem ja_cons (ha : JE X cn E e ta) (hr : JA X cn E es t) (hs : starEach (e :: es) X.env = (false, eval e X.env) :: starEach es X.env := by rfl) : JA X cn E (e :: es) (dCons ta t) := by
  refine pa_imp (pa_cons ha hr hs) ?_
  rintro σ H Q ⟨pv, γ, ρ, G, fp, Q0, E0, m, q, po, px⟩
  refine ⟨pv, γ, ρ, G, fp, _, E0, m, q, fun x ρ1 v G1 H1 fp1 F1 q1 s1 m1 o1 => ?_, px⟩
  refine ⟨pv, γ, ρ1, G1, fp1, _, E0, m1, q1, fun xs ρ2 vs G2 H2 fp2 F2 q2 s2 m2 o2 => ?_, px.on s1⟩
  have o1' := o1.frame s2
  refine po (x :: xs) ρ2 (v :: vs) G2 H2 fp2 (F1 ++ F2) q2 (s1.seq (fun _ z => .inl z) s2 fun a z => ?_) m2 (.cons (o1'.weak fun a z => .inl z) (o2.add fun a z => ?_))
  · rcases z with z | z
    · exact .inl (.inl z)
    · rcases List.mem_append.mp z with z | z
      · exact .inr (.inr z)
      · exact .inl (.inr z)
  · rcases z with z | z
    · exact .inl z
    · exact .inr fun y => o1'.apart a z (.inr y)
theorem je_cb {rr : List V → Hp → VK → Prop} {r : List D → (D → Prop) → Prop} (hs : SemL X.K rr r) (h : PE X e (tCB rr (liftA X.K cn E t))) : JE X cn E e (dCB r t) := by
  refine pe_imp h ?_
  rintro σ H Q ⟨pv, γ, ρ, G, fp, Q0, E0, m, q, po, px⟩
  refine ⟨pv, γ, ρ, G, fp, _, E0, m, q, fun rs ρ1 vs G1 H1 fp1 F1 ⟨ds, l1, q1⟩ s1 m1 o1 => ?_, px⟩
  refine hs G1 H1 vs ds _ Q m1.sub (lookL_ok m1 o1 l1) q1 fun z w G3 H3 F3 qz s3 hs3 rz => ?_
  obtain ⟨f1, f2, f3⟩ := fin_new m1 s1 (fun a z => .inl z) s3 hs3
  exact po (.t z) ρ1 w G3 H3 fp1 F3 qz f1 f2 ⟨rz, f3⟩
theorem size_of {n : Nat} (h : n ≤ 100000) : n ≤ sizeLine := Nat.le_trans h (by decide)
theorem je_lst (h : JA X cn E es t) : JE X cn E (.List es pos) (dLst t) := by
  refine pe_imp (pe_lst h) ?_
  rintro σ H Q ⟨pv, γ, ρ, G, fp, Q0, E0, m, q, po, px⟩
  refine ⟨pv, γ, ρ, G, fp, _, E0, m, q, fun rs ρ1 vs G1 H1 fp1 F1 ⟨ds, ρ2, l1, hz, q1⟩ s1 m1 o1 => ?_, px⟩
  obtain ⟨G2, fp2, s2, m2, r2, i2⟩ := tkL_ok m1 o1 (fun _ z => z) l1
  refine ⟨by rw [r2.len]; exact size_of hz, fun p hp => ?_⟩
  have hGp : G2 p = none := by
    cases e : G2 p with
    | none => rfl
    | some o => rw [m2.sub p o e] at hp; cases hp
  have kF : ∀ a, (∃ o, H1 a = some o) → a ≠ p := fun a ⟨o, ho⟩ z => by rw [z, hp] at ho; cases ho
  have f1 : ∀ a ∈ F1, ∃ o, H1 a = some o := fun a ha => (RpL.foot _ r2 a ha).2
  refine po (.t (.n true .lst ds)) ρ2 (.ref p) G2 (L2.upd H1 p (.lst vs)) fp2 (p :: F1) q1 ?_ (m2.step ⟨fun _ _ z => z, fun a o z _ => by rw [upd_ne (kF a ⟨o, z⟩)]; exact z, fun _ _ _ z _ => z, fun a (z : a = p) => .inr (by rw [z]; exact hp)⟩ (m2.sub.upd hp)) ⟨?_, fun a ha z => ?_⟩
  · refine (s1.trans (s2.mono (P' := InF fp2) (Q' := fun a => InF fp2 a ∨ a ∈ F1) (fun _ z => .inl z) fun a z => z.elim .inl fun z => .inr (.inr z))).trans ⟨fun _ _ z => z, fun a o z _ => by rw [upd_ne (kF a ⟨o, z⟩)]; exact z, fun _ _ _ z _ => z, fun a z => ?_⟩
    rcases z with z | z
    · exact .inl (.inl z)
    · rcases List.mem_cons.mp z with z | z
      · exact .inr (by rw [z]; exact hp)
      · exact .inl (.inr z)
  · refine Rp.o hGp upd_same (fun z => kF p (f1 p z) rfl) (RpL.mov (fun _ _ z => z) _ r2 fun a ha o hg ho => ⟨hg, by rw [upd_ne (kF a (f1 a ha))]; exact ho⟩)
  · rcases List.mem_cons.mp ha with e | ha
    · obtain ⟨j, hj⟩ := z
      exact kF a (m2.ft j a hj).2 e
    · exact RvsOk.foot o1 a ha (i2 a z)
theorem je_tup {k} (h : JA X cn E es t) : JE X cn E (.Tuple es k pos) (dTup t) := by
  refine pe_imp (pe_tup h) ?_
  rintro σ H Q ⟨pv, γ, ρ, G, fp, Q0, E0, m, q, po, px⟩
  refine ⟨pv, γ, ρ, G, fp, _, E0, m, q, fun rs ρ1 vs G1 H1 fp1 F1 ⟨ds, ρ2, l1, hz, q1⟩ s1 m1 o1 => ?_, px⟩
  obtain ⟨G2, fp2, s2, m2, r2, i2⟩ := tkL_ok m1 o1 (fun _ z => z) l1
  refine ⟨by rw [r2.len]; exact size_of hz, fun p hp => ?_⟩
  have hGp : G2 p = none := by
    cases e : G2 p with
    | none => rfl
    | some o => rw [m2.sub p o e] at hp; cases hp
  have kF : ∀ a, (∃ o, H1 a = some o) → a ≠ p := fun a ⟨o, ho⟩ z => by rw [z, hp] at ho; cases ho
  have f1 : ∀ a ∈ F1, ∃ o, H1 a = some o := fun a ha => (RpL.foot _ r2 a ha).2
  have sn : Stp G2 H1 (fun _ => False) (L2.upd G2 p (.tup vs)) (L2.upd H1 p (.tup vs)) (fun _ => False) := Stp.newG hp m2.sub
  refine po (.t (.n false .tup ds)) ρ2 (.ref p) (L2.upd G2 p (.tup vs)) (L2.upd H1 p (.tup vs)) fp2 F1 q1 ?_ (m2.step sn (m2.sub.updG hp)) ⟨?_, fun a ha z => RvsOk.foot o1 a ha (i2 a z)⟩
  · refine (s1.trans (s2.mono (P' := InF fp2) (Q' := fun a => InF fp2 a ∨ a ∈ F1) (fun _ z => .inl z) fun a z => z.elim .inl fun z => .inr (.inr z))).trans (sn.mono (fun _ z => z.elim) fun a z => .inr z)
  · refine Rp.f upd_same (RpL.mov sn.g _ r2 fun a ha o hg ho => ⟨sn.n a o ho hg fun z => z, sn.h a o ho fun z => z⟩)
end

/-! ### statements -/
def dSeq (t u : DS) : DS := fun D ρ => t { D with nx := fun ρ1 => u D ρ1 } ρ
def dNext : DS := fun D ρ => D.nx ρ
def dBreak : DS := fun D ρ => D.bk ρ
def dCont : DS := fun D ρ => D.ct ρ
def dDrop (te : DE) : DS := fun D ρ => te ρ (fun _ ρ1 => D.nx ρ1) D.ex
def dRet (te : DE) : DS := fun D ρ => te ρ (fun r ρ1 => ∃ d ρ2, tk ρ1 r = some (d, ρ2) ∧ D.rt d ρ2) D.ex
def dRetN : DS := fun D ρ => D.rt (.p .non) ρ
def dIfS (c : DT) (t u : DS) : DS := fun D ρ => c ρ (fun b ρ1 => if b = true then t D ρ1 else u D ρ1) D.ex
def dNever : DS := fun _ _ => False
def dAsg (te : DE) (g : DG) : DS := fun D ρ => te ρ (fun r ρ1 => g r ρ1 D.nx) D.ex
def dName (i : Nat) : DG := fun r ρ Q => ∃ d ρ1 ρ2, tk ρ r = some (d, ρ1) ∧ stV ρ1 i d = some ρ2 ∧ Q ρ2

section
variable {X : Cx} {cn : String → Addr} {E : WX} {e c : Expr} {st : Stmt} {rest sa sb : List Stmt} {pos : Pos} {te : DE} {t u : DS} {tc : DT}
theorem jss_nil : JSs X cn E [] dNext := pss_imp pss_nil fun D σ H ⟨pv, γ, ρ, G, fp, D0, m, q, po⟩ => po.nx ρ σ G H fp q (Stp.refl _ _ _) m rfl
theorem jss_cons (h1 : JS X cn E st t) (h2 : JSs X cn E rest u) : JSs X cn E (st :: rest) (dSeq t u) := pss_imp (pss_cons h1 h2) fun D σ H ⟨pv, γ, ρ, G, fp, D0, m, q, po⟩ =>
  ⟨pv, γ, ρ, G, fp, _, m, q, ⟨fun ρ1 σ1 G1 H1 fp1 q1 s1 m1 l1 => ⟨pv, γ, ρ1, G1, fp1, D0, m1, q1, by rw [l1]; exact po.on s1⟩, po.bk, po.ct, po.rt, po.ex⟩⟩
theorem jss_one (h1 : JS X cn E st t) : JSs X cn E [st] t := pss_one h1
theorem jss_never : JSs X cn E sa dNever := pss_imp pss_never fun D σ H ⟨pv, γ, ρ, G, fp, D0, m, q, po⟩ => q
theorem js_expr (he : JE X cn E e te) (hs : swapsWith e none pos.line X.env = pure false := by rfl) : JS X cn E (.Expr e pos) (dDrop te) := ps_imp (ps_expr he hs) fun D σ H ⟨pv, γ, ρ, G, fp, D0, m, q, po⟩ =>
  ⟨pv, γ, ρ, G, fp, _, _, m, q, fun r ρ1 v G1 H1 fp1 F1 q1 s1 m1 o1 => po.nx ρ1 σ G1 H1 fp1 q1 (drop0 s1) m1 rfl, po.ex⟩
theorem js_ret (he : JE X cn E e te) : JS X cn E (.Return (some e) pos) (dRet te) := ps_imp (ps_ret he) fun D σ H ⟨pv, γ, ρ, G, fp, D0, m, q, po⟩ =>
  ⟨pv, γ, ρ, G, fp, _, _, m, q, fun r ρ1 v G1 H1 fp1 F1 ⟨d, ρ2, e1, q1⟩ s1 m1 o1 => by
    obtain ⟨G2, fp2, s2, m2, r2, i2⟩ := tk_ok m1 o1 (fun _ z => z) e1
    refine po.rt d ρ2 v σ G2 H1 fp2 F1 q1 (s1.trans (s2.mono (P' := InF fp2) (fun _ z => .inl z) fun a z => z.elim .inl fun z => .inr (.inr z))) m2 rfl r2 fun a ha z => o1.apart a ha (i2 a z), po.ex⟩
theorem js_if (hc : JT X cn E c tc) (ha : JSs X cn E sa t) (hb : JSs X cn E sb u) : JS X cn E (.If c sa sb pos) (dIfS tc t u) := ps_imp (ps_if hc ha hb) fun D σ H ⟨pv, γ, ρ, G, fp, D0, m, q, po⟩ =>
  ⟨pv, γ, ρ, G, fp, _, _, m, q, fun b ρ1 G1 H1 fp1 q1 s1 m1 => by
    cases b with
    | true => exact ⟨pv, γ, ρ1, G1, fp1, D0, m1, q1, po.on s1⟩
    | false => exact ⟨pv, γ, ρ1, G1, fp1, D0, m1, q1, po.on s1⟩, po.ex⟩
/-- a target's rule; S: the slots that it may store to -/
def liftG (K : PySem.W.Frag) (S : List Nat) (g : DG) : TG := fun v σ H Q => ∃ pv γ ρ G fp r F N0, Mt K pv (σ ++ γ) ρ G H fp ∧ RvOk K (σ ++ γ) G H (InF fp) v r F ∧ g r ρ N0 ∧
  ∀ ρ' σ' G' H' fp', N0 ρ' → Stp G H (fun a => InF fp a ∨ a ∈ F) G' H' (InF fp') → Mt K pv (σ' ++ γ) ρ' G' H' fp' → σ'.length = σ.length → (∀ i, i ∉ S → σ'[i]? = σ[i]?) → Q σ' H'
abbrev JG (X : Cx) (S : List Nat) (e : Expr) (g : DG) : Prop := PG X e (liftG X.K S g)
theorem pg_imp {X : Cx} {e : Expr} {t t' : TG} (h : PG X e t) (i : ∀ v σ H Q, t' v σ H Q → t v σ H Q) : PG X e t' := ⟨fun pins s σ H v u Q I r q => h.run pins s σ H v u Q I r (i v σ H Q q)⟩
theorem set_app {σ γ : St} {i : Nat} {x : Option V} (hi : i < σ.length) : (σ ++ γ).set i x = σ.set i x ++ γ := by
  rw [List.set_append_left _ _ hi]
theorem jg_name {i : Nat} (hi : i < X.N.length) (h : PG X e (gName i)) : JG X [i] e (dName i) := ⟨fun pins sh σ H v u Q I r ⟨pv, γ, ρ, G, fp, rv, F, N0, m, o, ⟨d, ρ1, ρ2, e1, e2, q⟩, po⟩ => by
  obtain ⟨G2, fp2, s2, m2, r2, i2⟩ := tk_ok m o (fun _ z => z) e1
  have hl : i < σ.length := by rw [I.len]; exact hi
  have dis : ∀ a ∈ F, ¬ InF fp2 a := fun a ha z => o.apart a ha (i2 a z)
  have m3 := m2.put e2 r2 dis
  rw [set_app hl] at m3
  refine h.run pins sh σ H v u Q I r (po ρ2 _ G2 H _ q (s2.mono (fun _ z => .inl z) fun a z => ?_) m3 (by rw [List.length_set]) fun j hj => List.getElem?_set_ne (fun z => hj (by simp [z])))
  rcases InF.updF z with z | z
  · exact .inl z
  · exact .inr (.inr z)⟩
/-- name = value -/
theorem js_set {i : Nat} (hi : i < X.N.length) (h : PS X st (tAsg (liftE X.K cn E te) (gName i))) : JS X cn E st (dAsg te (dName i)) := ⟨fun pins sh σ H D I ⟨pv, γ, ρ, G, fp, D0, m, q, po⟩ => by
  have hl : i < σ.length := by rw [I.len]; exact hi
  refine h.run pins sh σ H D I ⟨pv, γ, ρ, G, fp, _, _, m, q, fun r ρ1 v G1 H1 fp1 F1 ⟨d, ρ2, ρ3, e1, e2, q1⟩ s1 m1 o1 => ?_, po.ex⟩
  obtain ⟨G2, fp2, s2, m2, r2, i2⟩ := tk_ok m1 o1 (fun _ z => z) e1
  have m3 := m2.put e2 r2 fun a ha z => o1.apart a ha (i2 a z)
  rw [set_app hl] at m3
  refine po.nx ρ3 _ G2 H1 _ q1 (s1.trans (s2.mono (P' := InF fp2) (fun _ z => .inl z) fun a z => ?_)) m3 (by rw [List.length_set])
  rcases InF.updF z with z | z
  · exact .inl z
  · exact .inr (.inr z)⟩
end
end DL
/-! DL6: loops, what is walked, comprehensions. -/
namespace DL
open PySem L2

/-- taken and shared -/
def tkF (ρ : Env) (r : Rv) : Option (D × Env) := match tk ρ r with
  | some (d, ρ1) => some (d.fz, ρ1)
  | none => none
section
variable {K : PySem.W.Frag} {cn : String → Addr} {pv : Nat → V} {σ γ : St} {n : Nat} {ρ : Env} {G H G' H' G2 H2 G3 H3 : Hp} {fp fp' fp2 : Fps} {F : List Addr} {E : WX}
/-- freezing what is held apart -/
theorem Mt.frzT (m : Mt K pv σ ρ G H fp) (h : ∀ a ∈ F, G a = none ∧ ¬ InF fp a) : Mt K pv σ ρ (frzH G H F) H fp :=
  m.move (sub_frzH fun a ha => (h a ha).1) (frzH_sub m.sub) (fun _ _ _ z => z) fun a ⟨i, ha⟩ => by
    rw [frzH_out fun z => (h a z).2 ⟨i, ha⟩]
    exact (m.ft i a ha).1
theorem tkF_ok {r : Rv} {v : V} {d : D} {ρ' : Env} {P : Addr → Prop} (m : Mt K pv σ ρ G H fp) (o : RvOk K σ G H P v r F) (hP : ∀ a, InF fp a → P a) (e : tkF ρ r = some (d, ρ')) :
    ∃ G' fp', Stp G H (fun a => InF fp a ∨ a ∈ F) G' H (InF fp') ∧ Mt K pv σ ρ' G' H fp' ∧ Rp K G' H v d [] ∧ ∀ a, InF fp' a → InF fp a := by
  unfold tkF at e
  split at e
  · rename_i d0 ρ1 e1
    cases e
    obtain ⟨G1, fp1, s1, m1, r1, i1⟩ := tk_ok m o hP e1
    have ff : ∀ a ∈ F, G1 a = none ∧ ¬ InF fp1 a := fun a ha => ⟨(Rp.foot _ r1 a ha).1, fun z => o.apart a ha (hP a (i1 a z))⟩
    refine ⟨frzH G1 H F, fp1, ?_, m1.frzT ff, r1.froz (sub_frzH fun a ha => (ff a ha).1) _ fun a ha => frzH_in ha, i1⟩
    refine (s1.mono (fun _ z => .inl z) (Q' := fun a => InF fp1 a ∨ a ∈ F) fun a z => z.elim .inl fun z => .inr (.inr z)).trans ?_
    exact (Stp.frz (P := fun a => InF fp1 a ∨ a ∈ F) (fun a ha => (ff a ha).1) fun a ha => .inr ha).mono (fun _ z => z) fun a z => .inr (.inl z)
  · cases e
end

/-- what an iterator yields -/
def WalksD (K : PySem.W.Frag) (J : It) (items : List D) (G : Hp) : Prop := ∀ G' H', Sub G G' → Sub G' H' →
  (∀ i d, items[i]? = some d → J.go i H' ∧ ∀ x H2, J.yld i H' x H2 → ∃ G2, Stp G' H' (fun _ => False) G2 H2 (fun _ => False) ∧ Sub G2 H2 ∧ Rp K G2 H2 x d []) ∧
  ∀ i, items.length ≤ i → J.stop i H'
def liftI (K : PySem.W.Frag) (cn : String → Addr) (E : WX) (t : DI) : TI := fun σ H R => ∃ pv γ ρ G fp Q0 E0, Mt K pv (σ ++ γ) ρ G H fp ∧ t ρ Q0 E0 ∧
  (∀ items ρ' J G' H' fp', Q0 items ρ' → Stp G H (InF fp) G' H' (InF fp') → Mt K pv (σ ++ γ) ρ' G' H' fp' → WalksD K J items G' → R J H') ∧ PoX K cn pv γ σ.length G H fp E0 E
abbrev JI (X : Cx) (cn : String → Addr) (E : WX) (tg e : Expr) (t : DI) : Prop := PI X tg e (liftI X.K cn E t)
theorem pi_imp {X : Cx} {tg e : Expr} {t t' : TI} (h : PI X tg e t) (i : ∀ σ H R, t' σ H R → t σ H R) : PI X tg e t' := ⟨fun pins s σ H R I q => h.run pins s σ H R I (i σ H R q)⟩

def dLoop (g : DG) (tb : DS) (D : DEnds) : List DL.D → Env → Prop
  | [], ρ => D.nx ρ
  | d :: ds, ρ => g (.t d) ρ fun ρ1 => tb { D with nx := dLoop g tb D ds, ct := dLoop g tb D ds, bk := D.nx } ρ1
def dFor (ti : DI) (g : DG) (tb : DS) : DS := fun D ρ => ti ρ (fun items ρ1 => dLoop g tb D items ρ1) D.ex
def dWhN (c : DT) (tb : DS) (D : DEnds) : Nat → Env → Prop
  | 0, _ => False
  | n + 1, ρ => c ρ (fun b ρ1 => if b = true then tb { D with nx := dWhN c tb D n, ct := dWhN c tb D n, bk := D.nx } ρ1 else D.nx ρ1) D.ex
def dWhile (c : DT) (tb : DS) : DS := fun D ρ => ∃ n, dWhN c tb D n ρ
section
variable {X : Cx} {cn : String → Addr} {E : WX} {c iter tg : Expr} {body : List Stmt} {pos : Pos} {tb : DS} {tc : DT} {ti : DI} {g : DG} {S : List Nat}
theorem js_while (hp : PassesOwn (model X.prog X.w) X.A X.env X.xe) (hc : JT X cn E c tc) (hb : JSs X cn E body tb) : JS X cn E (.While c body [] pos) (dWhile tc tb) := by
  refine ps_imp (ps_while hp hc hb) ?_
  rintro Dn σ H ⟨pv, γ, ρ, G, fp, D0, m, ⟨n, q⟩, po⟩
  refine ⟨fun k σ' H' => ∃ ρ' G' fp', Mt X.K pv (σ' ++ γ) ρ' G' H' fp' ∧ dWhN tc tb D0 k ρ' ∧ PoS X.K cn pv γ σ.length G' H' fp' D0 Dn E ∧ σ'.length = σ.length, ⟨n, ρ, G, fp, m, q, po, rfl⟩, ?_⟩
  rintro k σ1 H1 ⟨ρ1, G1, fp1, m1, q1, po1, l1⟩
  cases k with
  | zero => exact q1.elim
  | succ k =>
    refine ⟨pv, γ, ρ1, G1, fp1, _, D0.ex, m1, q1, fun b ρ2 G2 H2 fp2 q2 s2 m2 => ?_, by rw [l1]; exact po1.ex⟩
    cases b with
    | false => exact po1.nx ρ2 σ1 G2 H2 fp2 q2 s2 m2 l1
    | true =>
      rw [if_pos rfl] at q2 ⊢
      refine ⟨fun σ' H' => ∃ ρ' G' fp', Mt X.K pv (σ' ++ γ) ρ' G' H' fp' ∧ dWhN tc tb D0 k ρ' ∧ PoS X.K cn pv γ σ.length G' H' fp' D0 Dn E ∧ σ'.length = σ.length, fun σ' H' h => ⟨k, Nat.lt_succ_self _, h⟩, ?_⟩
      have po2 := po1.on s2
      refine ⟨pv, γ, ρ2, G2, fp2, _, m2, q2, ?_⟩
      rw [l1]
      exact ⟨fun ρ3 σ3 G3 H3 fp3 q3 s3 m3 l3 => ⟨ρ3, G3, fp3, m3, q3, po2.on s3, l3⟩, po2.nx, fun ρ3 σ3 G3 H3 fp3 q3 s3 m3 l3 => ⟨ρ3, G3, fp3, m3, q3, po2.on s3, l3⟩, po2.rt, po2.ex⟩
/-! ### what is walked -/
def itemsOf : D → Option (List D)
  | .n _ .lst ch => some ch
  | .n _ .lok ch => some ch
  | .n _ .tup ch => some ch
  | .n _ .tok ch => some ch
  | _ => none
def dISeq (te : DE) : DI := fun ρ Q E => te ρ (fun r ρ1 => ∃ d ρ2 ch, tkF ρ1 r = some (d, ρ2) ∧ itemsOf d = some ch ∧ Q ch ρ2) E
theorem RpL.at0 {K : PySem.W.Frag} {G H : Hp} {vs : List V} {ch : List D} (h : RpL K G H vs ch []) {i : Nat} {d : D} (e : ch[i]? = some d) : ∃ x, vs[i]? = some x ∧ Rp K G H x d [] := by
  obtain ⟨x, F, h1, h2, h3⟩ := RpL.get ch h e
  cases F with
  | nil => exact ⟨x, h1, h2⟩
  | cons a _ => cases h3 a (List.mem_cons_self ..)
theorem Rp.mov0 {K : PySem.W.Frag} {G H G' H' : Hp} {v : V} {d : D} (r : Rp K G H v d []) (h : Sub G G') : Rp K G' H' v d [] := r.mov h _ fun a z => by cases z
theorem RpL.mov0 {K : PySem.W.Frag} {G H G' H' : Hp} {vs : List V} {ds : List D} (r : RpL K G H vs ds []) (h : Sub G G') : RpL K G' H' vs ds [] := r.mov h _ fun a z => by cases z
theorem walks_list {K : PySem.W.Frag} {G H : Hp} {a : Addr} {vs : List V} {ch : List D} (h : SqL K G a vs) (r : RpL K G H vs ch []) : WalksD K (Itl K a) ch G := by
  intro G' H' s s'
  have hq : SqL K H' a vs := SqL.mono s' (SqL.mono s h)
  refine ⟨fun i d e => ?_, fun i hi => ⟨vs, hq, by rw [r.len]; exact hi⟩⟩
  obtain ⟨x, h1, h2⟩ := r.at0 e
  refine ⟨⟨vs, x, hq, h1⟩, fun y H2 ⟨e1, hy⟩ => ?_⟩
  subst e1
  have := hy vs hq
  rw [h1] at this; cases this
  exact ⟨G', Stp.refl _ _ _, s', h2.mov0 s⟩
theorem walks_tup {K : PySem.W.Frag} {G H : Hp} {a : Addr} {vs : List V} {ch : List D} (h : SqT K G a vs) (r : RpL K G H vs ch []) : WalksD K (Itt K a) ch G := by
  intro G' H' s s'
  have hq : SqT K H' a vs := SqT.mono s' (SqT.mono s h)
  refine ⟨fun i d e => ?_, fun i hi => ⟨vs, hq, by rw [r.len]; exact hi⟩⟩
  obtain ⟨x, h1, h2⟩ := r.at0 e
  refine ⟨⟨vs, x, hq, h1⟩, fun y H2 ⟨e1, hy⟩ => ?_⟩
  subst e1
  have := hy vs hq
  rw [h1] at this; cases this
  exact ⟨G', Stp.refl _ _ _, s', h2.mov0 s⟩
/-- an iterator of one object, just laid -/
theorem pie_one {pins : List (Addr × Obj)} {σ : St} {H : Hp} {sh : Shared} {J : It} {ob : Obj} {tn : Nat → Heap → Prop} {R : It → Hp → Prop} (I : Inv X pins σ H sh)
    (T : Turn X.prog X.w X.K tg J [sh.heap.objs.size] sh.heap.objs.size tn) (h0 : tn 0 (sh.heap.push ob)) (hR : R J H) : PIE X pins σ tg R (.ref sh.heap.objs.size) { sh with heap := sh.heap.push ob } := by
  have I2 : Inv X pins σ H { sh with heap := sh.heap.push ob } := I.kept (t' := sh.toks) fun _ _ z => Heap.get?_push_of_some _ z
  refine ⟨_, _, tn, J, H, rfl, I2, T, h0, fun b hb => ?_, hR⟩
  rw [List.mem_singleton.mp hb]
  exact I.fpOk (Nat.le_refl _) (I.hok.fresh (Nat.le_refl _))
theorem ji_seq {te : DE} (h : JE X cn E iter te) : JI X cn E tg iter (dISeq te) := by
  refine ⟨fun pins s σ H R I ⟨pv, γ, ρ, G, fp, Q0, E0, m, q, po, px⟩ => ?_⟩
  -- the value's kind decides which rule is taken
  refine thn (h.run pins s σ H (fun v H1 => ∃ J, R J H1 ∧ ∃ a, v = .ref a ∧ ((∃ xs, SqL X.K H1 a xs ∧ J = Itl X.K a) ∨ ∃ xs, SqT X.K H1 a xs ∧ J = Itt X.K a)) I ⟨pv, γ, ρ, G, fp, _, E0, m, q, ?_, px⟩) ?_
  · rintro r ρ1 v G1 H1 fp1 F1 ⟨d, ρ2, ch, e1, e2, q1⟩ s1 m1 o1
    obtain ⟨G2, fp2, s2, m2, r2, i2⟩ := tkF_ok m1 o1 (fun _ z => z) e1
    have s12 := s1.trans s2
    cases r2 with
    | p _ => simp only [itemsOf] at e2; cases e2
    | @f a k vs ch' _ h1 h2 =>
      cases k with
      | lst => simp only [itemsOf, Option.some.injEq] at e2; subst e2; exact ⟨_, po _ ρ2 _ G2 H1 fp2 q1 s12 m2 (walks_list (.inl (.inl h1)) h2), a, rfl, .inl ⟨vs, .inl (.inl (m2.sub _ _ h1)), rfl⟩⟩
      | lok => simp only [itemsOf, Option.some.injEq] at e2; subst e2; exact ⟨_, po _ ρ2 _ G2 H1 fp2 q1 s12 m2 (walks_list h1 h2), a, rfl, .inl ⟨vs, SqL.mono m2.sub h1, rfl⟩⟩
      | tup => simp only [itemsOf, Option.some.injEq] at e2; subst e2; exact ⟨_, po _ ρ2 _ G2 H1 fp2 q1 s12 m2 (walks_tup (.inl (.inl h1)) h2), a, rfl, .inr ⟨vs, .inl (.inl (m2.sub _ _ h1)), rfl⟩⟩
      | tok => simp only [itemsOf, Option.some.injEq] at e2; subst e2; exact ⟨_, po _ ρ2 _ G2 H1 fp2 q1 s12 m2 (walks_tup h1 h2), a, rfl, .inr ⟨vs, SqT.mono m2.sub h1, rfl⟩⟩
      | dic _ => simp only [itemsOf] at e2; cases e2
      | dit _ => simp only [itemsOf] at e2; cases e2
      | obj _ _ => simp only [itemsOf] at e2; cases e2
      | exc _ _ => simp only [itemsOf] at e2; cases e2
  · rintro v s1 ⟨x, H1, I1, r1, J, hR, a, rfl, hq⟩
    cases r1
    rcases hq with ⟨xs, hq, rfl⟩ | ⟨xs, hq, rfl⟩
    · have w := I1.list hq
      exact wpAny_pyIter_list w.choose_spec.2.1.isList (pie_one I1 (turn_list a _) ⟨_, Heap.get?_push_size _ rfl, rfl, rfl⟩ hR)
    · have w := I1.tuple hq
      have w2 : s1.heap.IsTuple a w.choose.toArray := w.choose_spec.2.1
      exact wpAny_pyIter_tuple w2 (pie_one I1 (turn_tuple a _) ⟨_, Heap.get?_push_size _ rfl, rfl, rfl⟩ hR)
end
end DL
/-! DL7: ranges, texts, enumerate, zip walked; list comprehensions. -/
namespace DL
open PySem L2

/-! ### ranges and so on -/
def rngL (lo : Int) (n : Nat) : List D := (List.range n).map fun i => D.p (.int (lo + (i : Nat)))
def dIRng1 (t : DA) : DI := fun ρ Q E => t ρ (fun rs ρ1 => ∃ j : Int, lookL ρ1 rs = some [.p (.int j)] ∧ (-(2 ^ 62) ≤ j ∧ j < 2 ^ 62) ∧ Q (rngL 0 j.toNat) ρ1) E
def dIRng2 (t : DA) : DI := fun ρ Q E => t ρ (fun rs ρ1 => ∃ i j : Int, lookL ρ1 rs = some [.p (.int i), .p (.int j)] ∧ (-(2 ^ 62) ≤ i ∧ i < 2 ^ 62 ∧ -(2 ^ 62) ≤ j ∧ j < 2 ^ 62) ∧ Q (rngL i (j - i).toNat) ρ1) E
def strL (x : Str) : List D := x.cps.toList.map fun c => D.p (.str ⟨#[c]⟩)
def dIStr (te : DE) : DI := fun ρ Q E => te ρ (fun r ρ1 => ∃ x, look ρ1 r = some (.p (.str x)) ∧ Q (strL x) ρ1) E
def enumL : Nat → List D → List D
  | _, [] => []
  | i, d :: ds => .n false .tup [.p (.int (i : Nat)), d] :: enumL (i + 1) ds
def zipL : List D → List D → List D
  | d :: ds, e :: es => .n false .tup [d, e] :: zipL ds es
  | _, _ => []
/-- the arguments' items, shared -/
def tkFL (ρ : Env) : List Rv → Option (List D × Env)
  | [] => some ([], ρ)
  | r :: rs => match tkF ρ r with
    | some (d, ρ1) => match tkFL ρ1 rs with
      | some (ds, ρ2) => some (d :: ds, ρ2)
      | none => none
    | none => none
def listOf : D → Option (List D)
  | .n _ .lst ch => some ch
  | .n _ .lok ch => some ch
  | _ => none
def dIEnum (t : DA) : DI := fun ρ Q E => t ρ (fun rs ρ1 => ∃ d ρ2 ch, tkFL ρ1 rs = some ([d], ρ2) ∧ listOf d = some ch ∧ Q (enumL 0 ch) ρ2) E
def dIZip (t : DA) : DI := fun ρ Q E => t ρ (fun rs ρ1 => ∃ d e ρ2 ch ch', tkFL ρ1 rs = some ([d, e], ρ2) ∧ listOf d = some ch ∧ listOf e = some ch' ∧ Q (zipL ch ch') ρ2) E

section
variable {K : PySem.W.Frag} {cn : String → Addr} {pv : Nat → V} {σ γ : St} {n : Nat} {ρ : Env} {G H G' H' : Hp} {fp fp' : Fps} {E : WX}
theorem tkFL_ok : ∀ {rs : List Rv} {ρ ρ' : Env} {G : Hp} {fp : Fps} {P : Addr → Prop} {vs : List V} {F : List Addr} {ds : List D}, Mt K pv σ ρ G H fp → RvsOk K σ G H P vs rs F → (∀ a, InF fp a → P a) → tkFL ρ rs = some (ds, ρ') →
    ∃ G' fp', Stp G H (fun a => InF fp a ∨ a ∈ F) G' H (InF fp') ∧ Mt K pv σ ρ' G' H fp' ∧ RpL K G' H vs ds [] ∧ ∀ a, InF fp' a → InF fp a
  | [], ρ, ρ', G, fp, P, _, _, ds, m, .nil, _, e => by
    simp only [tkFL, Option.some.injEq, Prod.mk.injEq] at e
    obtain ⟨e1, e2⟩ := e
    subst e1 e2
    exact ⟨G, fp, (Stp.refl G H (InF fp)).mono (fun _ z => .inl z) fun _ z => .inl z, m, .nil, fun _ z => z⟩
  | r :: rs, ρ, ρ', G, fp, P, _, _, ds, m, .cons (vs := vs1) (F := F0) (F' := F1) h t, hP, e => by
    simp only [tkFL] at e
    split at e
    · rename_i d ρ1 e1
      split at e
      · rename_i ds' ρ2 e2
        cases e
        obtain ⟨G1, fp1, s1, m1, r1, i1⟩ := tkF_ok m h hP e1
        have t1 : RvsOk K σ G1 H (InF fp1) vs1 rs F1 := by
          have s1' : Stp G H (fun a => P a ∨ a ∈ F0) G1 H (InF fp1) := s1.mono (fun a z => z.elim (fun z => .inl (hP a z)) .inr) fun a z => .inl z
          exact t.frame s1'
        obtain ⟨G2, fp2, s2, m2, r2, i2⟩ := tkFL_ok m1 t1 (fun a z => z) e2
        refine ⟨G2, fp2, ?_, m2, ?_, fun a z => i1 a (i2 a z)⟩
        · refine (s1.mono (Q := fun a => InF fp a ∨ a ∈ F0 ++ F1) (Q' := fun a => InF fp1 a ∨ a ∈ F0 ++ F1) (fun a z => z.elim .inl fun z => .inr (List.mem_append_left _ z)) fun a z => z.elim .inl fun z => .inr (.inr z)).trans ?_
          exact s2.mono (fun a z => z.elim .inl fun z => .inr (List.mem_append_right _ z)) fun a z => .inl z
        · have := RpL.cons (F := []) (F' := []) (r1.mov0 s2.g) r2 fun a z => by cases z
          exact this
      · cases e
    · cases e
theorem walks_rng (lo : Int) (n : Nat) : WalksD K (Itr lo n) (rngL lo n) G := by
  intro G' H' s s'
  refine ⟨fun i d e => ?_, fun i hi => by
    unfold rngL at hi
    rw [List.length_map, List.length_range] at hi
    exact hi⟩
  unfold rngL at e
  rw [List.getElem?_map] at e
  by_cases hi : i < n
  · rw [List.getElem?_range hi] at e
    cases e
    refine ⟨hi, fun x H2 ⟨e1, e2⟩ => ?_⟩
    subst e1 e2
    exact ⟨G', Stp.refl _ _ _, s', Rp.p _⟩
  · rw [List.getElem?_eq_none (by rw [List.length_range]; omega)] at e
    cases e
theorem walks_str (x : Str) : WalksD K (Its x) (strL x) G := by
  intro G' H' s s'
  refine ⟨fun i d e => ?_, fun i hi => by
    unfold strL at hi
    rw [List.length_map, Array.length_toList] at hi
    exact hi⟩
  unfold strL at e
  rw [List.getElem?_map] at e
  cases hc : x.cps.toList[i]? with
  | none => rw [hc] at e; cases e
  | some c =>
    rw [hc] at e
    cases e
    have hc' : x.cps[i]? = some c := by simpa using hc
    refine ⟨by obtain ⟨h, _⟩ := Array.getElem?_eq_some_iff.mp hc'; exact h, fun y H2 ⟨e1, c', h1, h2⟩ => ?_⟩
    subst e1 h2
    rw [hc'] at h1
    cases h1
    exact ⟨G', Stp.refl _ _ _, s', Rp.p _⟩
theorem sqL_node {a : Addr} {k : Kd} {vs : List V} {ch cs : List D} {o : Bool} (h : NdF K G a k vs) (e : listOf (.n o k ch) = some cs) : SqL K G a vs ∧ cs = ch := by
  cases k with
  | lst => simp only [listOf, Option.some.injEq] at e; exact ⟨.inl (.inl h), e.symm⟩
  | lok => simp only [listOf, Option.some.injEq] at e; exact ⟨h, e.symm⟩
  | tup => simp only [listOf] at e; cases e
  | tok => simp only [listOf] at e; cases e
  | dic _ => simp only [listOf] at e; cases e
  | dit _ => simp only [listOf] at e; cases e
  | obj _ _ => simp only [listOf] at e; cases e
  | exc _ _ => simp only [listOf] at e; cases e
theorem listOf_rp {v : V} {d : D} {cs : List D} (r : Rp K G H v d []) (e : listOf d = some cs) : ∃ a vs, v = .ref a ∧ SqL K G a vs ∧ RpL K G H vs cs [] := by
  cases r with
  | p _ => simp only [listOf] at e; cases e
  | @f a k vs ch _ h1 h2 =>
    obtain ⟨q1, q2⟩ := sqL_node h1 e
    subst q2
    exact ⟨a, vs, rfl, q1, h2⟩
theorem enumL_len : ∀ (i : Nat) (ds : List D), (enumL i ds).length = ds.length
  | _, [] => rfl
  | i, _ :: ds => by rw [enumL, List.length_cons, List.length_cons, enumL_len]
theorem enumL_get : ∀ (k : Nat) (ds : List D) (i : Nat) {d : D}, (enumL k ds)[i]? = some d → ∃ e, ds[i]? = some e ∧ d = .n false .tup [.p (.int ((k + i : Nat) : Int)), e]
  | _, [], i, _, h => by simp [enumL] at h
  | k, e :: ds, 0, d, h => by
    simp only [enumL, List.getElem?_cons_zero, Option.some.injEq] at h
    exact ⟨e, rfl, by rw [← h, Nat.add_zero]⟩
  | k, e :: ds, i + 1, d, h => by
    rw [enumL, List.getElem?_cons_succ] at h
    obtain ⟨e', h1, h2⟩ := enumL_get (k + 1) ds i h
    exact ⟨e', by rw [List.getElem?_cons_succ]; exact h1, by rw [h2, show k + 1 + i = k + (i + 1) by omega]⟩
theorem zipL_get : ∀ (ds es : List D) (i : Nat) {d : D}, (zipL ds es)[i]? = some d → ∃ x y, ds[i]? = some x ∧ es[i]? = some y ∧ d = .n false .tup [x, y]
  | [], es, i, d, h => by simp [zipL] at h
  | d0 :: ds, [], i, d, h => by simp [zipL] at h
  | x :: ds, y :: es, 0, d, h => by
    simp only [zipL, List.getElem?_cons_zero, Option.some.injEq] at h
    exact ⟨x, y, rfl, rfl, h.symm⟩
  | x :: ds, y :: es, i + 1, d, h => by
    rw [zipL, List.getElem?_cons_succ] at h
    obtain ⟨a, b, h1, h2, h3⟩ := zipL_get ds es i h
    exact ⟨a, b, by rw [List.getElem?_cons_succ]; exact h1, by rw [List.getElem?_cons_succ]; exact h2, h3⟩
theorem zipL_len : ∀ (ds es : List D), (zipL ds es).length = min ds.length es.length
  | [], es => by simp [zipL]
  | d0 :: ds, [] => by simp [zipL]
  | x :: ds, y :: es => by rw [zipL, List.length_cons, List.length_cons, List.length_cons, zipL_len]; omega
/-- a new tuple of shared things -/
theorem tup2 {x y : V} {d e : D} {T : Addr} (hs : Sub G H) (hT : H T = none) (r1 : Rp K G H x d []) (r2 : Rp K G H y e []) :
    ∃ G2, Stp G H (fun _ => False) G2 (L2.upd H T (.tup [x, y])) (fun _ => False) ∧ Sub G2 (L2.upd H T (.tup [x, y])) ∧ Rp K G2 (L2.upd H T (.tup [x, y])) (.ref T) (.n false .tup [d, e]) [] := by
  have s := Stp.newG (P := fun _ => False) (o := .tup [x, y]) hT hs
  refine ⟨L2.upd G T (.tup [x, y]), s, hs.updG hT, Rp.f upd_same ?_⟩
  have := RpL.cons (F := []) (F' := []) (r1.mov0 s.g) (RpL.one (r2.mov0 (H' := L2.upd H T (.tup [x, y])) s.g)) fun a z => by cases z
  exact this
theorem walks_enum {a : Addr} {vs : List V} {ch : List D} (h : SqL K G a vs) (r : RpL K G H vs ch []) : WalksD K (Ite K a) (enumL 0 ch) G := by
  intro G' H' s s'
  have hq : SqL K H' a vs := SqL.mono s' (SqL.mono s h)
  refine ⟨fun i d e => ?_, fun i hi => ⟨vs, hq, by rw [r.len]; rw [enumL_len] at hi; exact hi⟩⟩
  obtain ⟨e', g1, g2⟩ := enumL_get 0 ch i e
  obtain ⟨x, h1, h2⟩ := r.at0 g1
  refine ⟨⟨vs, x, hq, h1⟩, fun y H2 ⟨T, z, e1, hT, e2, hy⟩ => ?_⟩
  subst e1 e2 g2
  have := hy vs hq
  rw [h1] at this; cases this
  have := tup2 (x := V.int (i : Nat)) (d := .p (.int (i : Nat))) s' hT (Rp.p (K := K) (G := G') (H := H') _) (h2.mov0 s)
  rw [Nat.zero_add]
  exact this
theorem walks_zip {a b : Addr} {vs ws : List V} {ch cs : List D} (h : SqL K G a vs) (h' : SqL K G b ws) (r : RpL K G H vs ch []) (r' : RpL K G H ws cs []) : WalksD K (Itz K a b) (zipL ch cs) G := by
  intro G' H' s s'
  have hq : SqL K H' a vs := SqL.mono s' (SqL.mono s h)
  have hq' : SqL K H' b ws := SqL.mono s' (SqL.mono s h')
  refine ⟨fun i d e => ?_, fun i hi => ⟨vs, ws, hq, hq', by rw [r.len, r'.len]; rw [zipL_len] at hi; omega⟩⟩
  obtain ⟨d1, d2, g1, g2, g3⟩ := zipL_get ch cs i e
  obtain ⟨x, h1, h2⟩ := r.at0 g1
  obtain ⟨y, h3, h4⟩ := r'.at0 g2
  refine ⟨⟨vs, ws, x, y, hq, hq', h1, h3⟩, fun z H2 ⟨T, x', y', e1, hT, e2, f1, f2⟩ => ?_⟩
  subst e1 e2 g3
  have := f1 vs hq
  rw [h1] at this; cases this
  have := f2 ws hq'
  rw [h3] at this; cases this
  exact tup2 s' hT (h2.mov0 s) (h4.mov0 s)
end
theorem RpL.nil2 {K : PySem.W.Frag} {G H : Hp} {vs : List V} (r : RpL K G H vs [] []) : vs = [] := List.eq_nil_of_length_eq_zero r.len
theorem RpL.cons2 {K : PySem.W.Frag} {G H : Hp} {vs : List V} {d : D} {ds : List D} (r : RpL K G H vs (d :: ds) []) : ∃ x xs, vs = x :: xs ∧ Rp K G H x d [] ∧ RpL K G H xs ds [] := by
  generalize e : ([] : List Addr) = F0 at r
  cases r with
  | @cons v vs' _ _ F1 F2 h1 h2 h3 =>
    have := List.append_eq_nil_iff.mp e.symm
    obtain ⟨rfl, rfl⟩ := this
    exact ⟨v, vs', rfl, h1, h2⟩
section
variable {X : Cx} {cn : String → Addr} {E : WX} {iter tg e : Expr} {t : DA} {te : DE}
theorem look_ps {K : PySem.W.Frag} {pv : Nat → V} {σ : St} {ρ : Env} {G H : Hp} {fp : Fps} : ∀ {P : Addr → Prop} {vs xs : List V} {rs : List Rv} {F : List Addr}, Mt K pv σ ρ G H fp → RvsOk K σ G H P vs rs F → lookL ρ rs = some (xs.map D.p) → vs = xs := by
  intro P vs xs rs F m o e
  have := lookL_ok m o e
  clear o e
  induction xs generalizing vs with
  | nil => cases this; rfl
  | cons x xs ih =>
    rw [List.map_cons] at this
    cases this with
    | cons h t =>
      obtain ⟨_, h⟩ := h
      cases h
      rw [ih t]
theorem ji_rng1 (h : PI X tg iter (iRng1 (liftA X.K cn E t))) : JI X cn E tg iter (dIRng1 t) := pi_imp h fun σ H R ⟨pv, γ, ρ, G, fp, Q0, E0, m, q, po, px⟩ =>
  ⟨pv, γ, ρ, G, fp, _, E0, m, q, fun rs ρ1 vs G1 H1 fp1 F1 ⟨j, l1, hb, q1⟩ s1 m1 o1 => by
    have := look_ps (xs := [.int j]) m1 o1 l1
    exact ⟨j, this, hb.1, hb.2, po _ ρ1 _ G1 H1 fp1 q1 (drop0 s1) m1 (walks_rng 0 j.toNat)⟩, px⟩
theorem ji_rng2 (h : PI X tg iter (iRng2 (liftA X.K cn E t))) : JI X cn E tg iter (dIRng2 t) := pi_imp h fun σ H R ⟨pv, γ, ρ, G, fp, Q0, E0, m, q, po, px⟩ =>
  ⟨pv, γ, ρ, G, fp, _, E0, m, q, fun rs ρ1 vs G1 H1 fp1 F1 ⟨i, j, l1, hb, q1⟩ s1 m1 o1 => by
    have := look_ps (xs := [.int i, .int j]) m1 o1 l1
    exact ⟨i, j, this, hb, po _ ρ1 _ G1 H1 fp1 q1 (drop0 s1) m1 (walks_rng i (j - i).toNat)⟩, px⟩
theorem ji_str (h : JE X cn E iter te) : JI X cn E tg iter (dIStr te) := pi_imp (pi_str h) fun σ H R ⟨pv, γ, ρ, G, fp, Q0, E0, m, q, po, px⟩ =>
  ⟨pv, γ, ρ, G, fp, _, E0, m, q, fun r ρ1 v G1 H1 fp1 F1 ⟨x, l1, q1⟩ s1 m1 o1 => ⟨x, look_p m1 o1 l1, po _ ρ1 _ G1 H1 fp1 q1 (drop0 s1) m1 (walks_str x)⟩, px⟩
theorem ji_enum (h : PI X tg iter (iEnum X.K (liftA X.K cn E t))) : JI X cn E tg iter (dIEnum t) := pi_imp h fun σ H R ⟨pv, γ, ρ, G, fp, Q0, E0, m, q, po, px⟩ =>
  ⟨pv, γ, ρ, G, fp, _, E0, m, q, fun rs ρ1 vs G1 H1 fp1 F1 ⟨d, ρ2, ch, e1, e2, q1⟩ s1 m1 o1 => by
    obtain ⟨G2, fp2, s2, m2, r2, _⟩ := tkFL_ok m1 o1 (fun _ z => z) e1
    obtain ⟨x, xs, rfl, r3, r4⟩ := r2.cons2
    have := r4.nil2
    subst this
    obtain ⟨a, ws, rfl, h1, h2⟩ := listOf_rp r3 e2
    exact ⟨a, ws, rfl, SqL.mono m2.sub h1, po _ ρ2 _ G2 H1 fp2 q1 (s1.trans s2) m2 (walks_enum h1 h2)⟩, px⟩
theorem ji_zip (h : PI X tg iter (iZip X.K (liftA X.K cn E t))) : JI X cn E tg iter (dIZip t) := pi_imp h fun σ H R ⟨pv, γ, ρ, G, fp, Q0, E0, m, q, po, px⟩ =>
  ⟨pv, γ, ρ, G, fp, _, E0, m, q, fun rs ρ1 vs G1 H1 fp1 F1 ⟨d, e, ρ2, ch, ch', e1, e2, e3, q1⟩ s1 m1 o1 => by
    obtain ⟨G2, fp2, s2, m2, r2, _⟩ := tkFL_ok m1 o1 (fun _ z => z) e1
    obtain ⟨x, xs, rfl, r3, r4⟩ := r2.cons2
    obtain ⟨y, ys, rfl, r5, r6⟩ := r4.cons2
    have := r6.nil2
    subst this
    obtain ⟨a, ws, rfl, h1, h2⟩ := listOf_rp r3 e2
    obtain ⟨b, us, rfl, h3, h4⟩ := listOf_rp r5 e3
    exact ⟨a, b, ws, us, rfl, SqL.mono m2.sub h1, SqL.mono m2.sub h3, po _ ρ2 _ G2 H1 fp2 q1 (s1.trans s2) m2 (walks_zip h1 h3 h2 h4)⟩, px⟩
end

/-! ### comprehensions -/
def isUn : Option Sl → Bool
  | some .un => true
  | _ => false
def noB (vs : List Nat) : Env → Bool
  | [] => true
  | .b j _ :: r => !vs.contains j && noB vs r
  | _ :: r => noB vs r
def clr (ρ : Env) (vs : List Nat) : Bool := vs.all (fun i => isUn ρ[i]?) && noB vs ρ
def wipeD (ρ : Env) : List Nat → Env
  | [] => ρ
  | i :: r => (killB i (wipeD ρ r)).set i .un
def dTrue : DT := fun ρ Q _ => Q true ρ
def dLcL (g : DG) (tt : DT) (te : DE) (vs : List Nat) (Q : List D → Env → Prop) : List D → Env → List D → Prop
  | [], ρ, acc => Q acc ρ
  | d :: ds, ρ, acc => g (.t d) ρ fun ρ1 => tt ρ1 (fun b ρ2 => if b = true then te ρ2 (fun r ρ3 => ∃ d' ρ4, tk ρ3 r = some (d', ρ4) ∧ acc.length < 100000 ∧ dLcL g tt te vs Q ds (wipeD ρ4 vs) (acc ++ [d'])) (fun _ _ => False)
      else dLcL g tt te vs Q ds (wipeD ρ2 vs) acc) (fun _ _ => False)
def dLc (ti : DI) (g : DG) (tt : DT) (te : DE) (vs : List Nat) : DE := fun ρ Q E => ti ρ (fun items ρ1 => (vs.all fun i => decide (i < ρ1.length)) = true ∧ dLcL g tt te vs (fun ds ρ2 => Q (.t (.n true .lst ds)) ρ2) items (wipeD ρ1 vs) []) E
section
variable {K : PySem.W.Frag} {pv : Nat → V} {σ σ' γ : St} {ρ : Env} {G H : Hp} {fp : Fps}
theorem noB_get {vs : List Nat} : ∀ {ρ : Env} {i j : Nat} {q : List Nat}, noB vs ρ = true → ρ[i]? = some (Sl.b j q) → j ∉ vs
  | [], _, _, _, _, h => by simp at h
  | s :: r, 0, j, q, h, e => by
    simp only [List.getElem?_cons_zero, Option.some.injEq] at e
    subst e
    simp only [noB, Bool.and_eq_true, Bool.not_eq_true'] at h
    intro z
    have := List.contains_iff_mem.mpr z
    rw [h.1] at this; cases this
  | s :: r, i + 1, j, q, h, e => by
    rw [List.getElem?_cons_succ] at e
    refine noB_get (ρ := r) ?_ e
    cases s <;> simp only [noB, Bool.and_eq_true] at h <;> first | exact h.2 | exact h
/-- slots of which nothing is known may hold anything -/
theorem Mt.cong (m : Mt K pv σ ρ G H fp) {vs : List Nat} (hc : clr ρ vs = true) (hl : σ'.length = σ.length) (h : ∀ i, i ∉ vs → σ'[i]? = σ[i]?) : Mt K pv σ' ρ G H fp := by
  simp only [clr, Bool.and_eq_true, List.all_eq_true] at hc
  have nu : ∀ i s, ρ[i]? = some s → s ≠ .un → i ∉ vs := fun i s e n z => by
    have := hc.1 i z
    rw [e] at this
    cases s <;> simp [isUn] at this
    exact n rfl
  refine ⟨m.sub, by rw [hl]; exact m.len, fun i d e => ?_, fun i d e => ?_, fun i j q e => ?_, m.ap, m.ft⟩
  · obtain ⟨x, h1, h2⟩ := m.sl i d e
    exact ⟨x, by rw [h i (nu i _ e (by intro z; cases z))]; exact h1, h2⟩
  · obtain ⟨h1, h2⟩ := m.pn i d e
    exact ⟨by rw [h i (nu i _ e (by intro z; cases z))]; exact h1, h2⟩
  · obtain ⟨x, y, h1, h2, h3⟩ := m.br i j q e
    exact ⟨x, y, by rw [h j (noB_get hc.2 e)]; exact h1, by rw [h i (nu i _ e (by intro z; cases z))]; exact h2, h3⟩
theorem Mt.forget (m : Mt K pv σ ρ G H fp) (i : Nat) : Mt K pv σ ((killB i ρ).set i .un) G H fp := by
  have gk : ∀ {j : Nat} {s : Sl}, ((killB i ρ).set i .un)[j]? = some s → s ≠ .un → ρ[j]? = some s := fun {j s} h hn => by
    by_cases hj : j = i
    · subst hj
      by_cases hl : j < (killB j ρ).length
      · rw [List.getElem?_set_self hl] at h; cases h; exact absurd rfl hn
      · rw [List.getElem?_eq_none (by rw [List.length_set]; omega)] at h; cases h
    · rw [List.getElem?_set_ne (Ne.symm hj)] at h
      exact (killB_of h hn).1
  exact ⟨m.sub, by rw [List.length_set, killB_len]; exact m.len, fun j d h => m.sl j d (gk h (by intro z; cases z)), fun j d h => m.pn j d (gk h (by intro z; cases z)), fun j k q h => m.br j k q (gk h (by intro z; cases z)), m.ap, m.ft⟩
theorem wipeD_len (ρ : Env) : ∀ vs : List Nat, (wipeD ρ vs).length = ρ.length
  | [] => rfl
  | i :: r => by rw [wipeD, List.length_set, killB_len, wipeD_len ρ r]
theorem Mt.wipeD (m : Mt K pv σ ρ G H fp) : ∀ vs : List Nat, Mt K pv σ (DL.wipeD ρ vs) G H fp
  | [] => m
  | i :: r => (Mt.wipeD m r).forget i
theorem noB_of {vs : List Nat} : ∀ {ρ : Env}, (∀ (i j : Nat) (q : List Nat), ρ[i]? = some (Sl.b j q) → j ∉ vs) → noB vs ρ = true
  | [], _ => rfl
  | s :: r, h => by
    have ih : noB vs r = true := noB_of fun i j q e => h (i + 1) j q (by rw [List.getElem?_cons_succ]; exact e)
    cases s with
    | b j q =>
      have := h 0 j q rfl
      simp only [noB, ih, Bool.and_true, Bool.not_eq_true']
      cases e : vs.contains j with
      | false => rfl
      | true => exact absurd (List.contains_iff_mem.mp e) this
    | un => exact ih
    | v _ => exact ih
    | w _ => exact ih
theorem wipeD_get (ρ : Env) : ∀ (vs : List Nat) (k : Nat), k < ρ.length → ((k ∈ vs → (wipeD ρ vs)[k]? = some Sl.un) ∧ ∀ (j : Nat) (q : List Nat), (wipeD ρ vs)[k]? = some (Sl.b j q) → j ∉ vs)
  | [], k, hk => ⟨(fun z => by cases z), (fun j q _ z => by cases z)⟩
  | i :: r, k, hk => by
    obtain ⟨h1, h2⟩ := wipeD_get ρ r k hk
    have hl : ∀ k, k < ρ.length → k < (killB i (wipeD ρ r)).length := fun k h => by rw [killB_len, wipeD_len]; exact h
    rw [wipeD]
    by_cases hki : k = i
    · subst hki
      rw [List.getElem?_set_self (hl k hk)]
      exact ⟨fun _ => rfl, fun j q z => by cases z⟩
    · rw [List.getElem?_set_ne (Ne.symm hki), killB_get]
      refine ⟨fun z => ?_, fun j q z => ?_⟩
      · rcases List.mem_cons.mp z with z | z
        · exact absurd z hki
        · rw [h1 z]; rfl
      · cases e : (wipeD ρ r)[k]? with
        | none => rw [e] at z; cases z
        | some s =>
          rw [e] at z
          simp only [Option.map_some, Option.some.injEq] at z
          cases s with
          | un => cases z
          | v _ => cases z
          | w _ => cases z
          | b j' q' =>
            simp only at z
            split at z
            · cases z
            · rename_i hne
              cases z
              intro y
              rcases List.mem_cons.mp y with y | y
              · exact hne y
              · exact h2 _ _ e y
theorem clr_wipeD (ρ : Env) (vs : List Nat) (h : ∀ i ∈ vs, i < ρ.length) : clr (DL.wipeD ρ vs) vs = true := by
  simp only [clr, Bool.and_eq_true, List.all_eq_true]
  refine ⟨fun i hi => by rw [(wipeD_get ρ vs i (h i hi)).1 hi]; rfl, noB_of fun i j q e => ?_⟩
  have hi : i < ρ.length := by
    have := (List.getElem?_eq_some_iff.mp e).1
    rwa [wipeD_len] at this
  exact (wipeD_get ρ vs i hi).2 j q e
theorem clr_lt {ρ : Env} {vs : List Nat} (h : clr ρ vs = true) : ∀ i ∈ vs, i < ρ.length := fun i hi => by
  simp only [clr, Bool.and_eq_true, List.all_eq_true] at h
  have := h.1 i hi
  cases e : ρ[i]? with
  | none => rw [e] at this; cases this
  | some s => exact (List.getElem?_eq_some_iff.mp e).1
theorem wipe_get {σ : St} {vs : List Nat} {i : Nat} (h : i ∉ vs) : (wipe σ vs)[i]? = σ[i]? := by
  induction vs with
  | nil => rfl
  | cons j r ih =>
    have h1 : j ≠ i := fun z => h (by rw [z]; exact List.mem_cons_self ..)
    rw [wipe, List.getElem?_set_ne h1]
    exact ih fun z => h (List.mem_cons_of_mem _ z)
theorem wipe_in {σ : St} : ∀ {vs : List Nat} {i : Nat}, i ∈ vs → i < σ.length → (wipe σ vs)[i]? = some none
  | [], _, h, _ => by cases h
  | j :: r, i, h, hl => by
    rw [wipe]
    by_cases e : j = i
    · subst e
      exact List.getElem?_set_self (by rw [wipe_length]; exact hl)
    · rw [List.getElem?_set_ne e]
      rcases List.mem_cons.mp h with z | z
      · exact absurd z.symm e
      · exact wipe_in z hl
theorem wipe_eq {σ σ2 : St} {vs : List Nat} (hl : σ2.length = σ.length) (h : ∀ i, i ∉ vs → σ2[i]? = (wipe σ vs)[i]?) : wipe σ2 vs = wipe σ vs := by
  refine List.ext_getElem? fun i => ?_
  by_cases hi : i ∈ vs
  · by_cases hl' : i < σ.length
    · rw [wipe_in hi hl', wipe_in hi (by rw [hl]; exact hl')]
    · rw [List.getElem?_eq_none (by rw [wipe_length]; omega), List.getElem?_eq_none (by rw [wipe_length]; omega)]
  · rw [wipe_get hi]
    exact h i hi
theorem app_get {a b c : St} (hl : a.length = b.length) {i : Nat} (h : a[i]? = b[i]?) : (a ++ c)[i]? = (b ++ c)[i]? := by
  by_cases hi : i < a.length
  · rw [List.getElem?_append_left hi, List.getElem?_append_left (by rw [← hl]; exact hi)]; exact h
  · rw [List.getElem?_append_right (by omega), List.getElem?_append_right (by omega), hl]
end
def WF : WX := fun _ _ _ _ => False
theorem lcE {X : Cx} {cn : String → Addr} {E : WX} {ti : DI} {g : DG} {tt : DT} {te : DE} {vs : List Nat} {σ : St} {H : Hp} {Q : VK} :
    liftE X.K cn E (dLc ti g tt te vs) σ H Q → tLc (liftI X.K cn E ti) (liftG X.K vs g) (liftT X.K cn WF tt) (liftE X.K cn WF te) vs σ H Q := by
  rintro ⟨pv, γ, ρ, G, fp, Q0, E0, m, q, po, px⟩
  refine ⟨pv, γ, ρ, G, fp, _, _, m, q, fun items ρ0 J G0 H0 fp0 ⟨hb0, q0⟩ s0 m00 wk L hL => ?_, px⟩
  have hc0 := clr_wipeD ρ0 vs fun i hi => of_decide_eq_true (List.all_eq_true.mp hb0 i hi)
  have m0 := m00.wipeD vs
  have wl : (wipe σ vs).length = σ.length := wipe_length σ vs
  have toW : ∀ {ρ G H fp}, Mt X.K pv (σ ++ γ) ρ G H fp → clr ρ vs = true → Mt X.K pv (wipe σ vs ++ γ) ρ G H fp := fun m hc =>
    m.cong hc (by rw [List.length_append, List.length_append, wl]) fun i hi => app_get wl (wipe_get hi)
  have ofW : ∀ {ρ G H fp}, Mt X.K pv (wipe σ vs ++ γ) ρ G H fp → clr ρ vs = true → Mt X.K pv (σ ++ γ) ρ G H fp := fun m hc =>
    m.cong hc (by rw [List.length_append, List.length_append, wl]) fun i hi => app_get wl.symm (wipe_get hi).symm
  have hG0 : G0 L = none := by
    cases z : G0 L with
    | none => rfl
    | some o => rw [m0.sub L o z] at hL; cases hL
  have sN : Stp G0 H0 (fun _ => False) G0 (L2.upd H0 L (.lst [])) (fun a => a = L) := ⟨fun _ _ z => z, fun a o z _ => by rw [upd_ne (ne_of_none z hL)]; exact z, fun _ _ _ z _ => z, fun a z => .inr (by rw [z]; exact hL)⟩
  refine ⟨fun i k H' => ∃ ρ' G' fp' accV ds F, k = items.length - i ∧ i ≤ items.length ∧ Sub G0 G' ∧ Mt X.K pv (wipe σ vs ++ γ) ρ' G' H' fp' ∧ clr ρ' vs = true ∧ H' L = some (.lst accV) ∧ G' L = none ∧ L ∉ F ∧ RpL X.K G' H' accV ds F ∧
      (∀ a, a = L ∨ a ∈ F → ¬ InF fp' a) ∧ dLcL g tt te vs (fun ds ρ2 => Q0 (.t (.n true .lst ds)) ρ2) (items.drop i) ρ' ds ∧ Stp G H (InF fp) G' H' (fun a => InF fp' a ∨ a = L ∨ a ∈ F),
    ⟨items.length, _, G0, fp0, [], [], [], by omega, Nat.zero_le _, fun _ _ z => z, toW (m0.step sN (m0.sub.upd hL)) hc0, hc0, upd_same, hG0, by simp, .nil, fun a z y => ?_, q0, ?_⟩, ?_⟩
  · obtain ⟨j, hj⟩ := y
    obtain ⟨_, o, ho⟩ := m0.ft j a hj
    rcases z with z | z
    · rw [z, hL] at ho; cases ho
    · cases z
  · exact s0.trans (sN.mono (fun _ z => z.elim) fun a z => z.elim .inr fun z => z.elim .inl fun z => by cases z)
  rintro i k H1 ⟨ρ1, G1, fp1, accV, ds, F, rfl, hi, sg, m1, hc1, hL1, hG1, hLF, r1, ap1, q1, s1⟩
  obtain ⟨w1, w2⟩ := wk G1 H1 sg m1.sub
  by_cases hlt : i < items.length
  · obtain ⟨go, yl⟩ := w1 i _ (List.getElem?_eq_getElem hlt)
    refine .inr ⟨go, fun H' => ∃ ρ' G' fp' accV ds F, Sub G0 G' ∧ Mt X.K pv (wipe σ vs ++ γ) ρ' G' H' fp' ∧ clr ρ' vs = true ∧ H' L = some (.lst accV) ∧ G' L = none ∧ L ∉ F ∧ RpL X.K G' H' accV ds F ∧
      (∀ a, a = L ∨ a ∈ F → ¬ InF fp' a) ∧ dLcL g tt te vs (fun ds ρ2 => Q0 (.t (.n true .lst ds)) ρ2) (items.drop (i + 1)) ρ' ds ∧ Stp G H (InF fp) G' H' (fun a => InF fp' a ∨ a = L ∨ a ∈ F),
      fun H' ⟨ρ', G', fp', accV, ds, F, z⟩ => ⟨items.length - (i + 1), by omega, ρ', G', fp', accV, ds, F, rfl, hlt, z⟩, fun x H2 hy => ?_⟩
    obtain ⟨G2, s2, hs2, r2⟩ := yl x H2 hy
    rw [List.drop_eq_getElem_cons hlt] at q1
    have m2 := m1.step s2 hs2
    refine ⟨pv, γ, ρ1, G2, fp1, .t items[i], [], _, m2, ⟨r2, fun a z => by cases z⟩, q1, fun ρ3 σ3 G3 H3 fp3 q3 s3 m3 l3 f3 => ?_⟩
    have e3 : wipe σ3 vs = wipe σ vs := wipe_eq (by rw [l3, wl]) f3
    refine ⟨e3, ?_⟩
    have s3' : Stp G2 H2 (InF fp1) G3 H3 (InF fp3) := s3.mono (fun a z => z.elim id fun z => by cases z) fun _ z => .inl z
    refine ⟨pv, γ, ρ3, G3, fp3, _, _, m3, q3, fun b ρ4 G4 H4 fp4 q4 s4 m4 => ?_, fun _ _ _ _ _ _ _ _ z => z.elim⟩
    -- from the turn's start: what was made so far stands
    have back : ∀ {ρ5 G5 H5 fp5}, Mt X.K pv (σ3 ++ γ) ρ5 G5 H5 fp5 → Mt X.K pv (wipe σ vs ++ γ) (DL.wipeD ρ5 vs) G5 H5 fp5 ∧ clr (DL.wipeD ρ5 vs) vs = true := fun {ρ5 G5 H5 fp5} m5 => by
      have hlt5 : ∀ i ∈ vs, i < ρ5.length := fun i hi => by
        have := clr_lt hc1 i hi
        rw [m5.len]
        rw [m1.len] at this
        rw [List.length_append] at this ⊢
        rw [l3]; exact this
      have hc5 := clr_wipeD ρ5 vs hlt5
      refine ⟨(m5.wipeD vs).cong hc5 (by rw [List.length_append, List.length_append, l3]) fun j hj => app_get l3.symm (f3 j hj).symm, hc5⟩
    have s14 : Stp G1 H1 (InF fp1) G4 H4 (InF fp4) := ((s2.mono (fun _ z => z.elim) fun _ z => .inr z : Stp G1 H1 (InF fp1) G2 H2 (InF fp1)).trans s3').trans s4
    have keep : ∀ {G5 H5 P5}, Stp G1 H1 (InF fp1) G5 H5 P5 → H5 L = some (.lst accV) ∧ G5 L = none ∧ RpL X.K G5 H5 accV ds F ∧ ∀ a, a = L ∨ a ∈ F → ¬ P5 a := fun {G5 H5 P5} s5 => by
      have hLn : ¬ InF fp1 L := ap1 L (.inl rfl)
      refine ⟨s5.h L _ hL1 hLn, s5.n L _ hL1 hG1 hLn, r1.mov s5.g _ fun a ha o hg ho => ⟨s5.n a o ho hg (ap1 a (.inr ha)), s5.h a o ho (ap1 a (.inr ha))⟩, fun a z y => ?_⟩
      have ho : ∃ o, H1 a = some o := by
        rcases z with z | z
        · rw [z]; exact ⟨_, hL1⟩
        · exact (RpL.foot _ r1 a z).2
      rcases s5.f a y with u | u
      · exact ap1 a z u
      · obtain ⟨o, ho⟩ := ho
        rw [u] at ho; cases ho
    cases b with
    | false =>
      obtain ⟨k1, k2, k3, k4⟩ := keep s14
      obtain ⟨b1, b2⟩ := back m4
      exact ⟨_, G4, fp4, accV, ds, F, fun a o z => s14.g a o (sg a o z), b1, b2, k1, k2, hLF, k3, k4, q4, s1.trans (s14.mono (fun a z => .inl z) fun a z => z.elim .inl fun z => .inr (.inr z))⟩
    | true =>
      refine ⟨pv, γ, ρ4, G4, fp4, _, _, m4, q4, fun r ρ5 v G5 H5 fp5 F5 ⟨d', ρ6, e6, hz, q6⟩ s5 m5 o5 => ?_, fun _ _ _ _ _ _ _ _ z => z.elim⟩
      obtain ⟨G6, fp6, s6, m6, r6, i6⟩ := tk_ok m5 o5 (fun _ z => z) e6
      have s56 : Stp G4 H4 (InF fp4) G6 H5 (fun a => InF fp6 a ∨ a ∈ F5) := s5.trans (s6.mono (fun _ z => .inl z) fun a z => z.elim .inl fun z => .inr (.inr z))
      have s16 := s14.trans s56
      obtain ⟨k1, k2, k3, k4⟩ := keep s16
      refine ⟨accV, k1, by rw [k3.len]; exact Nat.lt_of_lt_of_le hz (by decide), ?_⟩
      have hLF5 : L ∉ F5 := fun z => k4 L (.inl rfl) (.inr z)
      have dF : ∀ a ∈ F, a ∉ F5 := fun a ha z => k4 a (.inr ha) (.inr z)
      have hLfp : ∀ a, InF fp6 a → a ≠ L := fun a z y => k4 a (.inl y) (.inl z)
      have d5 : ∀ a ∈ F5, ¬ InF fp6 a := fun a ha z => o5.apart a ha (i6 a z)
      have su : Sub G6 (L2.upd H5 L (.lst (accV ++ [v]))) := fun a o z => by
        by_cases e : a = L
        · rw [e, k2] at z; cases z
        · rw [upd_ne e]; exact m6.sub a o z
      have m7 : Mt X.K pv (σ3 ++ γ) ρ6 G6 (L2.upd H5 L (.lst (accV ++ [v]))) fp6 :=
        m6.move (fun _ _ z => z) su (fun a o z e => by rw [upd_ne (hLfp a z)]; exact e) fun a ⟨j, ha⟩ => (m6.ft j a ha).1
      obtain ⟨b1, b2⟩ := back m7
      have rr : RpL X.K G6 (L2.upd H5 L (.lst (accV ++ [v]))) (accV ++ [v]) (ds ++ [d']) (F ++ F5) :=
        RpL.mov (fun _ _ z => z) _ (k3.app (RpL.one r6) dF) fun a ha o hg ho => ⟨hg, by
          rw [upd_ne]
          · exact ho
          · intro z
            subst z
            rcases List.mem_append.mp ha with ha | ha
            · exact hLF ha
            · exact hLF5 ha⟩
      have sU : Stp G6 H5 (fun a => InF fp6 a ∨ a = L ∨ a ∈ F ++ F5) G6 (L2.upd H5 L (.lst (accV ++ [v]))) (fun a => InF fp6 a ∨ a = L ∨ a ∈ F ++ F5) :=
        ⟨fun _ _ z => z, fun a o z n => by rw [upd_ne fun e => n (.inr (.inl e))]; exact z, fun _ _ _ z _ => z, fun _ z => .inl z⟩
      refine ⟨_, G6, fp6, accV ++ [v], ds ++ [d'], F ++ F5, fun a o z => s16.g a o (sg a o z), b1, b2, upd_same, k2, fun z => ?_, rr, fun a z => ?_, q6, ?_⟩
      · rcases List.mem_append.mp z with z | z
        · exact hLF z
        · exact hLF5 z
      · rcases z with z | z
        · exact fun y => hLfp a y z
        · rcases List.mem_append.mp z with z | z
          · exact fun y => k4 a (.inr z) (.inl y)
          · exact d5 a z
      · refine (s1.trans (s16.mono (Q := fun a => InF fp1 a ∨ a = L ∨ a ∈ F) (Q' := fun a => InF fp6 a ∨ a = L ∨ a ∈ F ++ F5) (fun a z => .inl z) fun a z => ?_)).trans sU
        rcases z with z | z | z
        · exact .inl (.inl z)
        · exact .inr (.inr (.inl z))
        · rcases List.mem_append.mp z with z | z
          · exact .inr (.inr (.inr z))
          · exact .inl (.inr z)
  · refine .inl ⟨w2 i (by omega), ?_⟩
    rw [List.drop_of_length_le (by omega)] at q1
    have m' := ofW m1 hc1
    exact po _ ρ1 (.ref L) G1 H1 fp1 (L :: F) q1 (s1.mono (fun _ z => z) fun a z => .inl (z.elim .inl fun z => .inr (List.mem_cons.mp z))) m' ⟨Rp.o hG1 hL1 hLF r1, fun a z => ap1 a (List.mem_cons.mp z)⟩
theorem je_lc {X : Cx} {cn : String → Addr} {E : WX} {e : Expr} {ti : DI} {g : DG} {tt : DT} {te : DE} {vs : List Nat}
    (h : PE X e (tLc (liftI X.K cn E ti) (liftG X.K vs g) (liftT X.K cn WF tt) (liftE X.K cn WF te) vs)) : JE X cn E e (dLc ti g tt te vs) := pe_imp h fun σ H Q q => lcE q
end DL
/-! DL8: defs: their promises over deep values, their calls. -/
namespace DL
open PySem L2

/-- what is handed in, what is wanted of the value and of what was handed in, what of an error -/
abbrev SpD := List D → (D → List D → Prop) → (Exn → List D → Prop) → Prop
def lower (K : PySem.W.Frag) (cn : String → Addr) (s : SpD) : Sp := fun vs H Q E => ∃ G ds F Q0 E0, Sub G H ∧ RpL K G H vs ds F ∧ s ds Q0 E0 ∧
  (∀ r ds' v G' H' Fr F', Q0 r ds' → Stp G H (fun a => a ∈ F) G' H' (fun a => a ∈ Fr ∨ a ∈ F') → Sub G' H' → RpL K G' H' vs ds' F' → Rp K G' H' v r Fr → (∀ a ∈ Fr, a ∉ F') → Q v H') ∧
  (∀ x ds' cls dx G' H' F', E0 x ds' → Stp G H (fun a => a ∈ F) G' H' (fun a => a ∈ F') → Sub G' H' → RpL K G' H' vs ds' F' → ExOk K cn G' H' x cls dx → E cls dx H')

/-! ### a call -/
/-- what a slot holds is handed over -/
def outV (ρ : Env) : Rv → Option (D × Env)
  | .t d => some (d, ρ)
  | .s i => match ρ[i]? with
    | some (.v d) => some (d, (killB i ρ).set i .un)
    | some (.w d) => some (d, (killB i ρ).set i .un)
    | _ => none
/-- .. and handed back -/
def backV (ρ0 ρ : Env) (r : Rv) (d : D) : Option Env := match r with
  | .t _ => some ρ
  | .s i => if (isUn ρ[i]? && noB [i] ρ) = true then match ρ0[i]? with
    | some (.v _) => some (ρ.set i (.v d))
    | some (.w _) => some (ρ.set i (.w d))
    | _ => none
    else none
def argL : List Bool → Env → List Rv → Option (List D × Env)
  | [], ρ, [] => some ([], ρ)
  | true :: ms, ρ, r :: rs => match outV ρ r with
    | some (d, ρ1) => match argL ms ρ1 rs with
      | some (ds, ρ2) => some (d :: ds, ρ2)
      | none => none
    | none => none
  | false :: ms, ρ, r :: rs => match tkF ρ r with
    | some (d, ρ1) => match argL ms ρ1 rs with
      | some (ds, ρ2) => some (d :: ds, ρ2)
      | none => none
    | none => none
  | _, _, _ => none
def backL (ρ0 : Env) : List Bool → Env → List Rv → List D → Option Env
  | [], ρ, [], [] => some ρ
  | true :: ms, ρ, r :: rs, d :: ds => match backV ρ0 ρ r d with
    | some ρ1 => backL ρ0 ms ρ1 rs ds
    | none => none
  | false :: ms, ρ, _ :: rs, _ :: ds => backL ρ0 ms ρ rs ds
  | _, _, _, _ => none
def dCall (ms : List Bool) (s : SpD) (t : DA) : DE := fun ρ Q E => t ρ (fun rs ρ1 => ∃ ds ρ2, argL ms ρ1 rs = some (ds, ρ2) ∧
  s ds (fun res ds' => ∃ ρ3, backL ρ1 ms ρ2 rs ds' = some ρ3 ∧ Q (.t res) ρ3) (fun x ds' => ∃ ρ3, backL ρ1 ms ρ2 rs ds' = some ρ3 ∧ E x ρ3)) E

section
variable {K : PySem.W.Frag} {cn : String → Addr} {pv : Nat → V} {σ γ : St} {n : Nat} {ρ : Env} {G H G' H' : Hp} {fp fp' : Fps} {E : WX}
theorem Mt.outS {i : Nat} {s : Sl} (m : Mt K pv σ ρ G H fp) : Mt K pv σ ((killB i ρ).set i .un) G H (updF fp i []) := by
  have gk : ∀ {j : Nat} {s : Sl}, ((killB i ρ).set i .un)[j]? = some s → s ≠ .un → j ≠ i ∧ ρ[j]? = some s ∧ ∀ q, s ≠ .b i q := fun {j s} h hn => by
    by_cases hj : j = i
    · subst hj
      by_cases hl : j < (killB j ρ).length
      · rw [List.getElem?_set_self hl] at h; cases h; exact absurd rfl hn
      · rw [List.getElem?_eq_none (by rw [List.length_set]; omega)] at h; cases h
    · rw [List.getElem?_set_ne (Ne.symm hj)] at h
      exact ⟨hj, killB_of h hn⟩
  refine ⟨m.sub, by rw [List.length_set, killB_len]; exact m.len, fun j d' h => ?_, fun j d' h => ?_, fun j k q h => ?_, fun j k hjk a ha => ?_, fun j a ha => ?_⟩
  · obtain ⟨hj, h1, _⟩ := gk h (by intro z; cases z)
    rw [updF_ne hj]
    exact m.sl j d' h1
  · obtain ⟨hj, h1, _⟩ := gk h (by intro z; cases z)
    rw [updF_ne hj]
    exact m.pn j d' h1
  · obtain ⟨hj, h1, h2⟩ := gk h (by intro z; cases z)
    obtain ⟨x, y, g1, g2, g3⟩ := m.br j k q h1
    have hk : k ≠ i := fun z => h2 q (by rw [z])
    exact ⟨x, y, g1, g2, by rw [updF_ne hk]; exact g3⟩
  · by_cases hj : j = i
    · subst hj; rw [updF_same] at ha; cases ha
    · rw [updF_ne hj] at ha
      by_cases hk : k = i
      · subst hk; rw [updF_same]; simp
      · rw [updF_ne hk]; exact m.ap j k hjk a ha
  · by_cases hj : j = i
    · subst hj; rw [updF_same] at ha; cases ha
    · rw [updF_ne hj] at ha
      exact m.ft j a ha
theorem outV_ok {r : Rv} {v : V} {d : D} {ρ' : Env} {P : Addr → Prop} {F : List Addr} (m : Mt K pv σ ρ G H fp) (o : RvOk K σ G H P v r F) (hP : ∀ a, InF fp a → P a) (e : outV ρ r = some (d, ρ')) :
    ∃ fp' F', Mt K pv σ ρ' G H fp' ∧ Rp K G H v d F' ∧ (∀ a ∈ F', ¬ InF fp' a) ∧ (∀ a ∈ F', InF fp a ∨ a ∈ F) ∧ ∀ a, InF fp' a → InF fp a := by
  cases r with
  | t d' =>
    cases e
    exact ⟨fp, F, m, o.1, fun a ha z => o.2 a ha (hP a z), fun a ha => .inr ha, fun _ z => z⟩
  | s i =>
    obtain ⟨o1, o2⟩ := o
    have key : ∀ {d0 : D}, (∃ x, σ[i]? = some (some x) ∧ Rp K G H x d0 (fp i)) → d = d0 → ρ' = (killB i ρ).set i .un →
        ∃ fp' F', Mt K pv σ ρ' G H fp' ∧ Rp K G H v d F' ∧ (∀ a ∈ F', ¬ InF fp' a) ∧ (∀ a ∈ F', InF fp a ∨ a ∈ F) ∧ ∀ a, InF fp' a → InF fp a := fun {d0} ⟨x, h1, h2⟩ e1 e2 => by
      subst e1 e2
      rw [o1] at h1; cases h1
      refine ⟨updF fp i [], fp i, m.outS (s := .un), h2, fun a ha z => ?_, fun a ha => .inl ⟨i, ha⟩, fun a z => ?_⟩
      · obtain ⟨j, hj⟩ := z
        by_cases e : j = i
        · subst e; rw [updF_same] at hj; cases hj
        · rw [updF_ne e] at hj; exact m.ap j i e a hj ha
      · rcases InF.updF z with z | z
        · exact z
        · cases z
    unfold outV at e
    simp only at e
    split at e
    · rename_i d0 h
      cases e
      exact key (m.sl i _ h) rfl rfl
    · rename_i d0 h
      cases e
      exact key ⟨_, m.pn i _ h⟩ rfl rfl
    · cases e
/-- the arguments of a call -/
theorem argL_ok : ∀ {ms : List Bool} {rs : List Rv} {ρ ρ' : Env} {G : Hp} {fp : Fps} {P : Addr → Prop} {vs : List V} {F : List Addr} {ds : List D}, Mt K pv σ ρ G H fp → RvsOk K σ G H P vs rs F → (∀ a, InF fp a → P a) → argL ms ρ rs = some (ds, ρ') →
    ∃ G' fp' F', Stp G H (fun a => InF fp a ∨ a ∈ F) G' H (fun a => InF fp' a ∨ a ∈ F') ∧ Mt K pv σ ρ' G' H fp' ∧ RpL K G' H vs ds F' ∧ (∀ a ∈ F', ¬ InF fp' a) ∧ (∀ a ∈ F', InF fp a ∨ a ∈ F) ∧ ∀ a, InF fp' a → InF fp a
  | [], [], ρ, ρ', G, fp, P, _, _, ds, m, .nil, _, e => by
    simp only [argL, Option.some.injEq, Prod.mk.injEq] at e
    obtain ⟨e1, e2⟩ := e
    subst e1 e2
    exact ⟨G, fp, [], (Stp.refl _ _ _), m, .nil, (fun a z => by cases z), (fun a z => by cases z), fun _ z => z⟩
  | true :: ms, r :: rs, ρ, ρ', G, fp, P, _, _, ds, m, .cons (vs := vs1) (F := F0) (F' := F1) h t, hP, e => by
    simp only [argL] at e
    split at e
    · rename_i d ρ1 e1
      split at e
      · rename_i ds' ρ2 e2
        cases e
        obtain ⟨fp1, Fa, m1, r1, a1, b1, i1⟩ := outV_ok m h hP e1
        have t1 : RvsOk K σ G H (fun a => InF fp1 a ∨ a ∈ Fa) vs1 rs F1 := t.add fun a z => .inl (by
          rcases z with z | z
          · exact .inl (hP a (i1 a z))
          · rcases b1 a z with z | z
            · exact .inl (hP a z)
            · exact .inr z)
        obtain ⟨G2, fp2, Fb, s2, m2, r2, a2, b2, i2⟩ := argL_ok m1 t1 (fun a z => .inl z) e2
        have disj : ∀ a ∈ Fa, ¬ (InF fp1 a ∨ a ∈ F1) := fun a ha z => by
          rcases z with z | z
          · exact a1 a ha z
          · exact RvsOk.foot t1 a z (.inr ha)
        obtain ⟨r1', d1'⟩ := Rp.frame r1 s2 disj
        refine ⟨G2, fp2, Fa ++ Fb, ?_, m2, .cons r1' r2 fun a ha hb => d1' a ha (.inr hb), fun a ha z => ?_, fun a ha => ?_, fun a z => i1 a (i2 a z)⟩
        · refine s2.mono (fun a z => ?_) fun a z => ?_
          · rcases z with z | z
            · exact .inl (i1 a z)
            · exact .inr (List.mem_append_right _ z)
          · rcases z with z | z
            · exact .inl (.inl z)
            · rcases List.mem_append.mp z with z | z
              · rcases b1 a z with z | z
                · exact .inr (.inl z)
                · exact .inr (.inr (List.mem_append_left _ z))
              · exact .inl (.inr z)
        · rcases List.mem_append.mp ha with ha | ha
          · exact d1' a ha (.inl z)
          · exact a2 a ha z
        · rcases List.mem_append.mp ha with ha | ha
          · rcases b1 a ha with z | z
            · exact .inl z
            · exact .inr (List.mem_append_left _ z)
          · rcases b2 a ha with z | z
            · exact .inl (i1 a z)
            · exact .inr (List.mem_append_right _ z)
      · cases e
    · cases e
  | false :: ms, r :: rs, ρ, ρ', G, fp, P, _, _, ds, m, .cons (vs := vs1) (F := F0) (F' := F1) h t, hP, e => by
    simp only [argL] at e
    split at e
    · rename_i d ρ1 e1
      split at e
      · rename_i ds' ρ2 e2
        cases e
        obtain ⟨G1, fp1, s1, m1, r1, i1⟩ := tkF_ok m h hP e1
        have t1 : RvsOk K σ G1 H (InF fp1) vs1 rs F1 := by
          have s1' : Stp G H (fun a => P a ∨ a ∈ F0) G1 H (InF fp1) := s1.mono (fun a z => z.elim (fun z => .inl (hP a z)) .inr) fun a z => .inl z
          exact t.frame s1'
        obtain ⟨G2, fp2, Fb, s2, m2, r2, a2, b2, i2⟩ := argL_ok m1 t1 (fun a z => z) e2
        refine ⟨G2, fp2, Fb, ?_, m2, ?_, a2, fun a ha => ?_, fun a z => i1 a (i2 a z)⟩
        · refine (s1.mono (Q := fun a => InF fp a ∨ a ∈ F0 ++ F1) (Q' := fun a => InF fp1 a ∨ a ∈ F0 ++ F1) (fun a z => z.elim .inl fun z => .inr (List.mem_append_left _ z)) fun a z => z.elim .inl fun z => .inr (.inr z)).trans ?_
          exact s2.mono (fun a z => z.elim .inl fun z => .inr (List.mem_append_right _ z)) fun a z => .inl z
        · have := RpL.cons (F := []) (F' := Fb) (r1.mov0 s2.g) r2 fun a z => by cases z
          exact this
        · rcases b2 a ha with z | z
          · exact .inl (i1 a z)
          · exact .inr (List.mem_append_right _ z)
      · cases e
    · cases e
  | [], _ :: _, _, _, _, _, _, _, _, _, _, _, _, e => by simp only [argL] at e; cases e
  | true :: _, [], _, _, _, _, _, _, _, _, _, _, _, e => by simp only [argL] at e; cases e
  | false :: _, [], _, _, _, _, _, _, _, _, _, _, _, e => by simp only [argL] at e; cases e
/-- a value put back where nothing was known -/
theorem Mt.give {i : Nat} {d : D} {s : Sl} {x : V} {F : List Addr} (m : Mt K pv σ ρ G H fp) (hi : ρ[i]? = some Sl.un) (hs : s = .v d ∨ (s = .w d ∧ x = pv i)) (hx : σ[i]? = some (some x)) (r : Rp K G H x d F) (hd : ∀ a ∈ F, ¬ InF fp a) (hb : ∀ (j : Nat) (q : List Nat), ρ[j]? ≠ some (Sl.b i q)) :
    Mt K pv σ (ρ.set i s) G H (updF fp i F) := by
  have hl : i < ρ.length := (List.getElem?_eq_some_iff.mp hi).1
  have gk : ∀ {j : Nat} {s' : Sl}, j ≠ i → (ρ.set i s)[j]? = some s' → ρ[j]? = some s' := fun {j s'} hj h => by
    rwa [List.getElem?_set_ne (Ne.symm hj)] at h
  refine ⟨m.sub, by rw [List.length_set]; exact m.len, fun j d' h => ?_, fun j d' h => ?_, fun j k q h => ?_, fun j k hjk a ha => ?_, fun j a ha => ?_⟩
  · by_cases hj : j = i
    · subst hj
      rw [List.getElem?_set_self hl] at h
      cases h
      rcases hs with hs | ⟨hs, _⟩
      · cases hs; exact ⟨x, hx, by rw [updF_same]; exact r⟩
      · cases hs
    · rw [updF_ne hj]; exact m.sl j d' (gk hj h)
  · by_cases hj : j = i
    · subst hj
      rw [List.getElem?_set_self hl] at h
      cases h
      rcases hs with hs | ⟨hs, e⟩
      · cases hs
      · cases hs; subst e; exact ⟨hx, by rw [updF_same]; exact r⟩
    · rw [updF_ne hj]; exact m.pn j d' (gk hj h)
  · by_cases hj : j = i
    · subst hj
      rw [List.getElem?_set_self hl] at h
      cases h
      rcases hs with hs | ⟨hs, _⟩ <;> cases hs
    · have h' := gk hj h
      obtain ⟨x', y, h1, h2, h3⟩ := m.br j k q h'
      have hk : k ≠ i := fun z => hb j q (by rw [← z]; exact h')
      exact ⟨x', y, h1, h2, by rw [updF_ne hk]; exact h3⟩
  · by_cases hj : j = i
    · subst hj
      rw [updF_same] at ha
      rw [updF_ne (Ne.symm hjk)]
      exact fun z => hd a ha ⟨k, z⟩
    · rw [updF_ne hj] at ha
      by_cases hk : k = i
      · subst hk; rw [updF_same]; exact fun z => hd a z ⟨j, ha⟩
      · rw [updF_ne hk]; exact m.ap j k hjk a ha
  · by_cases hj : j = i
    · subst hj; rw [updF_same] at ha; exact Rp.foot _ r a ha
    · rw [updF_ne hj] at ha
      exact m.ft j a ha
end
section
variable {K : PySem.W.Frag} {cn : String → Addr} {pv : Nat → V} {σ γ : St} {n : Nat} {ρ : Env} {G H G' H' : Hp} {fp fp' : Fps} {E : WX}
theorem isUn_eq {o : Option Sl} (h : isUn o = true) : o = some Sl.un := by
  cases o with
  | none => cases h
  | some s => cases s <;> first | rfl | cases h
theorem backL_ok {ρ0 : Env} {G0 H0 : Hp} {fp0 : Fps} (m0 : Mt K pv σ ρ0 G0 H0 fp0) : ∀ {ms : List Bool} {rs : List Rv} {ρ ρ' : Env} {fp : Fps} {P : Addr → Prop} {vs : List V} {F F0 : List Addr} {ds : List D} {G1 H1 : Hp}, Mt K pv σ ρ G H fp → RvsOk K σ G1 H1 P vs rs F0 → RpL K G H vs ds F → (∀ a ∈ F, ¬ InF fp a) → backL ρ0 ms ρ rs ds = some ρ' →
    ∃ fp', Mt K pv σ ρ' G H fp' ∧ ∀ a, InF fp' a → InF fp a ∨ a ∈ F
  | [], [], ρ, ρ', fp, P, vs, F, F0, ds, _, _, m, o, r, d, e => by
    cases ds with
    | nil =>
      simp only [backL, Option.some.injEq] at e
      subst e
      exact ⟨fp, m, fun a z => .inl z⟩
    | cons _ _ => simp only [backL] at e; cases e
  | true :: ms, .t d0 :: rs, ρ, ρ', fp, P, _, F, _, ds, _, _, m, .cons h t, r, d, e => by
    cases r with
    | cons r1 r2 r3 =>
      simp only [backL, backV] at e
      obtain ⟨fp', m', i'⟩ := backL_ok m0 m t r2 (fun a ha => d a (List.mem_append_right _ ha)) e
      exact ⟨fp', m', fun a z => (i' a z).elim .inl fun z => .inr (List.mem_append_right _ z)⟩
  | true :: ms, .s i :: rs, ρ, ρ', fp, P, _, F, _, ds, _, _, m, .cons (v := v) h t, r, d, e => by
    cases r with
    | @cons _ vs' d1 ds' Fa Fb r1 r2 r3 =>
      simp only [backL] at e
      split at e
      · rename_i ρ1 e1
        unfold backV at e1
        simp only at e1
        split at e1
        · rename_i hc
          simp only [Bool.and_eq_true] at hc
          have hu := isUn_eq hc.1
          have hb : ∀ (j : Nat) (q : List Nat), ρ[j]? ≠ some (Sl.b i q) := fun j q z => noB_get hc.2 z (by simp)
          have hx : σ[i]? = some (some v) := h.1
          have key : ∀ {s : Sl}, ρ1 = ρ.set i s → (s = .v d1 ∨ (s = .w d1 ∧ v = pv i)) → ∃ fp', Mt K pv σ ρ' G H fp' ∧ ∀ a, InF fp' a → InF fp a ∨ a ∈ Fa ++ Fb := fun {s} e2 hs => by
            subst e2
            have m1 := m.give hu hs hx r1 (fun a ha => d a (List.mem_append_left _ ha)) hb
            obtain ⟨fp', m', i'⟩ := backL_ok m0 m1 t r2 (fun a ha z => by
              rcases InF.updF z with z | z
              · exact d a (List.mem_append_right _ ha) z
              · exact r3 a z ha) e
            refine ⟨fp', m', fun a z => ?_⟩
            rcases i' a z with z | z
            · rcases InF.updF z with z | z
              · exact .inl z
              · exact .inr (List.mem_append_left _ z)
            · exact .inr (List.mem_append_right _ z)
          split at e1
          · cases e1; exact key rfl (.inl rfl)
          · rename_i d0 hw
            cases e1
            have := (m0.pn i d0 hw).1
            rw [hx] at this; cases this
            exact key rfl (.inr ⟨rfl, rfl⟩)
          · cases e1
        · cases e1
      · cases e
  | false :: ms, r0 :: rs, ρ, ρ', fp, P, _, F, _, ds, _, _, m, .cons h t, r, d, e => by
    cases r with
    | cons r1 r2 r3 =>
      simp only [backL] at e
      obtain ⟨fp', m', i'⟩ := backL_ok m0 m t r2 (fun a ha => d a (List.mem_append_right _ ha)) e
      exact ⟨fp', m', fun a z => (i' a z).elim .inl fun z => .inr (List.mem_append_right _ z)⟩
  | [], _ :: _, _, _, _, _, _, _, _, _, _, _, _, _, _, _, e => by simp only [backL] at e; cases e
  | true :: _, [], _, _, _, _, _, _, _, _, _, _, _, _, _, _, e => by simp only [backL] at e; cases e
  | false :: _, [], _, _, _, _, _, _, _, _, _, _, _, _, _, _, e => by simp only [backL] at e; cases e
end
/-- the heart of a call: from the arguments' handles to the promise -/
theorem call_go {K : PySem.W.Frag} {cn : String → Addr} {E : WX} {pv : Nat → V} {σ γ : St} {ρ1 : Env} {G H G1 H1 : Hp} {fp fp1 : Fps} {F1 : List Addr} {Q0 : Rv → Env → Prop} {E0 : Exn → Env → Prop} {Q : VK} {ms : List Bool} {s : SpD} {rs : List Rv} {vs : List V}
    (po : PoE K pv σ γ G H fp Q0 Q) (px : PoX K cn pv γ σ.length G H fp E0 E) (s1 : Stp G H (InF fp) G1 H1 (fun a => InF fp1 a ∨ a ∈ F1)) (m1 : Mt K pv (σ ++ γ) ρ1 G1 H1 fp1) (o1 : RvsOk K (σ ++ γ) G1 H1 (InF fp1) vs rs F1)
    (q : ∃ ds ρ2, argL ms ρ1 rs = some (ds, ρ2) ∧ s ds (fun res ds' => ∃ ρ3, backL ρ1 ms ρ2 rs ds' = some ρ3 ∧ Q0 (.t res) ρ3) (fun x ds' => ∃ ρ3, backL ρ1 ms ρ2 rs ds' = some ρ3 ∧ E0 x ρ3)) :
    lower K cn s vs H1 Q (fun c d H' => E c d σ H') := by
  obtain ⟨ds, ρ2, e1, q⟩ := q
  obtain ⟨G2, fp2, F2, s2, m2, r2, a2, b2, i2⟩ := argL_ok m1 o1 (fun _ z => z) e1
  have s12 := s1.trans s2
  refine ⟨G2, ds, F2, _, _, m2.sub, r2, q, ?_, ?_⟩
  · rintro res ds' v G' H' Fr F' ⟨ρ3, e3, q3⟩ s3 hs3 r3 rr d3
    have m2' : Mt K pv (σ ++ γ) ρ2 G' H' fp2 := m2.move s3.g hs3 (fun a o z e => s3.h a o e fun y => a2 a y z) fun a ⟨j, ha⟩ => by
      obtain ⟨h1, o, h2⟩ := m2.ft j a ha
      exact s3.n a o h2 h1 fun y => a2 a y ⟨j, ha⟩
    have nf : ∀ a, (a ∈ Fr ∨ a ∈ F') → ¬ InF fp2 a := fun a z y => by
      rcases s3.f a z with u | u
      · exact a2 a u y
      · obtain ⟨j, ha⟩ := y
        obtain ⟨_, o, h2⟩ := m2.ft j a ha
        rw [u] at h2; cases h2
    obtain ⟨fp3, m3, i3⟩ := backL_ok m1 m2' o1 r3 (fun a ha => nf a (.inr ha)) e3
    refine po (.t res) ρ3 v G' H' fp3 Fr q3 (s12.trans (s3.mono (fun a z => .inr z) fun a z => ?_)) m3 ⟨rr, fun a ha z => ?_⟩
    · rcases z with z | z
      · rcases i3 a z with z | z
        · exact .inr (.inl z)
        · exact .inl (.inr z)
      · exact .inl (.inl z)
    · rcases i3 a z with z | z
      · exact nf a (.inl ha) z
      · exact d3 a ha z
  · rintro x ds' cls dx G' H' F' ⟨ρ3, e3, q3⟩ s3 hs3 r3 ex
    have m2' : Mt K pv (σ ++ γ) ρ2 G' H' fp2 := m2.move s3.g hs3 (fun a o z e => s3.h a o e fun y => a2 a y z) fun a ⟨j, ha⟩ => by
      obtain ⟨h1, o, h2⟩ := m2.ft j a ha
      exact s3.n a o h2 h1 fun y => a2 a y ⟨j, ha⟩
    have nf : ∀ a, a ∈ F' → ¬ InF fp2 a := fun a z y => by
      rcases s3.f a z with u | u
      · exact a2 a u y
      · obtain ⟨j, ha⟩ := y
        obtain ⟨_, o, h2⟩ := m2.ft j a ha
        rw [u] at h2; cases h2
    obtain ⟨fp3, m3, i3⟩ := backL_ok m1 m2' o1 r3 (fun a ha => nf a ha) e3
    refine px x ρ3 cls dx σ G' H' fp3 q3 (s12.trans (s3.mono (fun a z => .inr z) fun a z => ?_)) m3 rfl ex
    rcases i3 a z with z | z
    · exact .inr (.inl z)
    · exact .inl z
theorem je_call {X : Cx} {cn : String → Addr} {E : WX} {e : Expr} {s : SpD} {t : DA} {ms : List Bool}
    (h : PE X e (fun σ H Q => liftA X.K cn E t σ H fun vs H1 => lower X.K cn s vs H1 Q (fun c d H' => E c d σ H'))) : JE X cn E e (dCall ms s t) := by
  refine pe_imp h ?_
  rintro σ H Q ⟨pv, γ, ρ, G, fp, Q0, E0, m, q, po, px⟩
  exact ⟨pv, γ, ρ, G, fp, _, E0, m, q, fun rs ρ1 vs G1 H1 fp1 F1 q1 s1 m1 o1 => call_go po px s1 m1 o1 q1, px⟩

/-! ### a def's promise from its body -/
def initE (n : Nat) (ds : List D) : Env := ds.map (fun d => if d.isFz = true then Sl.v d else Sl.w d) ++ List.replicate (n - ds.length) Sl.un
/-- what was handed in, behind -/
def finL : Nat → List D → Env → Option (List D)
  | _, [], _ => some []
  | i, d :: ds, ρ => match finL (i + 1) ds ρ with
    | some ds' => if d.isFz = true then some (d :: ds') else match ρ[i]? with
      | some (.w d') => some (d' :: ds')
      | _ => none
    | none => none
section
variable {K : PySem.W.Frag} {cn : String → Addr} {G H G' H' : Hp}
/-- the places of what is handed in -/
theorem split_fp : ∀ {vs : List V} (ds : List D) {F : List Addr}, RpL K G H vs ds F → ∃ fp : Fps, (∀ (i : Nat) (d : D), ds[i]? = some d → ∃ x, vs[i]? = some x ∧ Rp K G H x d (fp i)) ∧ (∀ i, ∀ a ∈ fp i, a ∈ F) ∧ (∀ i j, i ≠ j → ∀ a ∈ fp i, a ∉ fp j) ∧ ∀ i, ds.length ≤ i → fp i = []
  | _, [], _, h => by
    cases h
    exact ⟨fun _ => [], (fun i d e => by simp at e), (fun i a z => by cases z), (fun i j _ a z => by cases z), fun _ _ => rfl⟩
  | _, d :: ds, _, h => by
    cases h with
    | @cons v vs' _ _ F0 F1 h1 h2 h3 =>
      obtain ⟨fp, a1, a2, a3, a4⟩ := split_fp ds h2
      refine ⟨fun i => match i with
        | 0 => F0
        | i + 1 => fp i, fun i d' e => ?_, fun i a z => ?_, fun i j hij a z => ?_, fun i hi => ?_⟩
      · cases i with
        | zero =>
          simp only [List.getElem?_cons_zero, Option.some.injEq] at e
          subst e
          exact ⟨v, rfl, h1⟩
        | succ i =>
          rw [List.getElem?_cons_succ] at e
          obtain ⟨x, g1, g2⟩ := a1 i d' e
          exact ⟨x, by rw [List.getElem?_cons_succ]; exact g1, g2⟩
      · cases i with
        | zero => exact List.mem_append_left _ z
        | succ i => exact List.mem_append_right _ (a2 i a z)
      · cases i with
        | zero =>
          cases j with
          | zero => exact absurd rfl hij
          | succ j => exact fun y => h3 a z (a2 j a y)
        | succ i =>
          cases j with
          | zero => exact fun y => h3 a y (a2 i a z)
          | succ j => exact a3 i j (fun e => hij (by rw [e])) a z
      · cases i with
        | zero => simp at hi
        | succ i => exact a4 i (by simpa using hi)
/-- what was handed in, put together again -/
theorem fin_rp {pv : Nat → V} {σ : St} {ρ : Env} {fp : Fps} (m : Mt K pv σ ρ G' H' fp) (hg : Sub G G') : ∀ (k : Nat) (vs : List V) (ds ds' : List D) {F : List Addr}, RpL K G H vs ds F → (∀ i, i < vs.length → vs[i]? = some (pv (k + i))) → finL k ds ρ = some ds' →
    ∃ F', RpL K G' H' vs ds' F' ∧ ∀ a ∈ F', ∃ i, k ≤ i ∧ a ∈ fp i
  | _, _, [], ds', _, h, _, e => by
    cases h
    simp only [finL, Option.some.injEq] at e
    subst e
    exact ⟨[], .nil, fun a z => by cases z⟩
  | k, _, d :: ds, ds', _, h, hv, e => by
    cases h with
    | @cons v vs' _ _ F0 F1 h1 h2 h3 =>
      simp only [finL] at e
      split at e
      · rename_i ds2 e2
        have hv' : ∀ i, i < vs'.length → vs'[i]? = some (pv (k + 1 + i)) := fun i hi => by
          have := hv (i + 1) (by rw [List.length_cons]; omega)
          rw [List.getElem?_cons_succ] at this
          rw [this, show k + (i + 1) = k + 1 + i by omega]
        obtain ⟨F', r', i'⟩ := fin_rp m hg (k + 1) vs' ds ds2 h2 hv' e2
        have i'' : ∀ a ∈ F', ∃ i, k ≤ i ∧ a ∈ fp i := fun a ha => by
          obtain ⟨i, h1, h2⟩ := i' a ha
          exact ⟨i, by omega, h2⟩
        have e0 : v = pv k := by
          have := hv 0 (by rw [List.length_cons]; omega)
          simpa using this
        split at e
        · rename_i hz
          cases e
          have := Rp.foot0 _ h1 hz
          subst this
          exact ⟨[] ++ F', RpL.cons (h1.mov0 hg) r' (fun a z => by cases z), i''⟩
        · split at e
          · rename_i d' hw
            cases e
            obtain ⟨_, g2⟩ := m.pn k d' hw
            rw [← e0] at g2
            refine ⟨fp k ++ F', RpL.cons g2 r' fun a ha hb => ?_, fun a ha => ?_⟩
            · obtain ⟨i, g3, g4⟩ := i' a hb
              exact m.ap k i (by omega) a ha g4
            · rcases List.mem_append.mp ha with ha | ha
              · exact ⟨k, Nat.le_refl _, ha⟩
              · exact i'' a ha
          · cases e
      · cases e
end
theorem start_get {N : List Str} {vs : List V} {i : Nat} {x : V} (h : vs[i]? = some x) : (L2.start N vs)[i]? = some (some x) := by
  unfold L2.start
  have hi : i < vs.length := (List.getElem?_eq_some_iff.mp h).1
  rw [List.getElem?_append_left (by rw [List.length_map]; exact hi), List.getElem?_map, h]
  rfl
theorem init_get {n : Nat} {ds : List D} {i : Nat} {s : Sl} (h : (initE n ds)[i]? = some s) (hn : s ≠ .un) : ∃ d, ds[i]? = some d ∧ s = if d.isFz = true then Sl.v d else Sl.w d := by
  unfold initE at h
  by_cases hi : i < ds.length
  · rw [List.getElem?_append_left (by rw [List.length_map]; exact hi), List.getElem?_map] at h
    cases e : ds[i]? with
    | none => rw [e] at h; cases h
    | some d =>
      rw [e] at h
      cases h
      exact ⟨d, rfl, rfl⟩
  · rw [List.getElem?_append_right (by rw [List.length_map]; omega)] at h
    rw [List.getElem?_replicate] at h
    split at h
    · cases h; exact absurd rfl hn
    · cases h
/-- THE PROMISE: the body's reading over deep values, from the promise's own words -/
theorem def_ok {K : PySem.W.Frag} {cn : String → Addr} {N : List Str} {vs : List V} {H : Hp} {Q : VK} {E : XK} {s : SpD} {t : DS} {n : Nat}
    (hN : N.length = n) (hl : ∀ ds Q0 E0, s ds Q0 E0 → ds.length ≤ n)
    (sem : ∀ ds Q0 E0, s ds Q0 E0 → t { nx := fun ρ => ∃ ds', finL 0 ds ρ = some ds' ∧ Q0 (.p .non) ds', rt := fun d ρ => ∃ ds', finL 0 ds ρ = some ds' ∧ Q0 d ds', ex := fun x ρ => ∃ ds', finL 0 ds ρ = some ds' ∧ E0 x ds' } (initE n ds))
    (h : lower K cn s vs H Q E) : liftS K cn (fun c d _ H' => E c d H') t { nx := fun _ H' => Q .non H', rt := Q } (L2.start N vs) H := by
  obtain ⟨G, ds, F, Q0, E0, hs, r, q, k1, k2⟩ := h
  obtain ⟨fp, a1, a2, a3, a4⟩ := split_fp ds r
  have lv : vs.length = ds.length := r.len
  have ln : ds.length ≤ n := hl ds Q0 E0 q
  have m : Mt K (fun i => (vs[i]?).getD .non) (L2.start N vs ++ []) (initE n ds) G H fp := by
    rw [List.append_nil]
    refine ⟨hs, ?_, fun i d h => ?_, fun i d h => ?_, fun i j q h => ?_, a3, fun i a ha => RpL.foot _ r a (a2 i a ha)⟩
    · unfold initE L2.start
      simp only [List.length_append, List.length_map, List.length_replicate]
      omega
    · obtain ⟨d', h1, h2⟩ := init_get h (by intro z; cases z)
      split at h2
      · cases h2
        obtain ⟨x, g1, g2⟩ := a1 i _ h1
        exact ⟨x, start_get g1, g2⟩
      · cases h2
    · obtain ⟨d', h1, h2⟩ := init_get h (by intro z; cases z)
      split at h2
      · cases h2
      · cases h2
        obtain ⟨x, g1, g2⟩ := a1 i _ h1
        refine ⟨by rw [start_get g1, g1]; rfl, ?_⟩
        rw [g1]; exact g2
    · obtain ⟨d', h1, h2⟩ := init_get h (by intro z; cases z)
      split at h2 <;> cases h2
  have hv : ∀ i, i < vs.length → vs[i]? = some ((fun i => (vs[i]?).getD .non) (0 + i)) := fun i hi => by
    show vs[i]? = some ((vs[0 + i]?).getD .non)
    rw [Nat.zero_add, List.getElem?_eq_getElem hi]; rfl
  have sF : ∀ a, InF fp a → a ∈ F := fun a ⟨i, ha⟩ => a2 i a ha
  have back : ∀ {ds' ρ' σ' G' H'} {fp' : Fps} {P' : Addr → Prop}, finL 0 ds ρ' = some ds' → Stp G H (InF fp) G' H' P' → Mt K (fun i => (vs[i]?).getD .non) (σ' ++ []) ρ' G' H' fp' → ∃ F', RpL K G' H' vs ds' F' ∧ ∀ a ∈ F', InF fp' a := fun e s m => by
    obtain ⟨F', r', i'⟩ := fin_rp m s.g 0 vs ds _ r hv e
    exact ⟨F', r', fun a ha => by
      obtain ⟨i, _, h⟩ := i' a ha
      exact ⟨i, h⟩⟩
  refine ⟨_, [], _, G, fp, _, m, sem ds Q0 E0 q, ⟨?_, fun _ _ _ _ _ z => z.elim, fun _ _ _ _ _ z => z.elim, ?_, ?_⟩⟩
  · rintro ρ' σ' G' H' fp' ⟨ds', e, q'⟩ s' m' l'
    obtain ⟨F', r', i'⟩ := back e s' m'
    exact k1 _ ds' .non G' H' [] F' q' (s'.mono sF fun a z => z.elim (fun z => by cases z) fun z => .inl (i' a z)) m'.sub r' (Rp.p _) fun a z => by cases z
  · rintro d ρ' v σ' G' H' fp' Fr ⟨ds', e, q'⟩ s' m' l' rr dr
    obtain ⟨F', r', i'⟩ := back e s' m'
    exact k1 _ ds' v G' H' Fr F' q' (s'.mono sF fun a z => .inl (z.elim .inr fun z => .inl (i' a z))) m'.sub r' rr fun a ha hb => dr a ha (i' a hb)
  · rintro x ρ' cls dx σ' G' H' fp' ⟨ds', e, q'⟩ s' m' l' ex
    obtain ⟨F', r', i'⟩ := back e s' m'
    exact k2 x ds' cls dx G' H' F' q' (s'.mono sF fun a z => .inl (i' a z)) m'.sub r' ex
end DL
/-! DL9: calls of defs as the text writes them; a def's rule. -/
namespace DL
open PySem L2
open PyProof.Rows (envOfC)

section
variable {X : Cx} {cn : String → Addr} {E : WX} {k : Nat} {f : Addr} {fd : FuncData} {ps ks : List Str} {s : SpD} {x : Str} {p pos : Pos} {e : Expr} {es : List Expr} {kws : List Keyword} {t tk : DA} {ms : List Bool}
abbrev FnD (P : Program) (w : World) (K : PySem.W.Frag) (mg : Str → Option Value) (base : Heap) (cn : String → Addr) (k : Nat) (f : Addr) (fd : FuncData) (ps : List Str) (s : SpD) : Prop :=
  FnOk P w K mg base (L2.CX P w) k f fd ps (lower K cn s)
theorem je_callN (F : FnD X.prog X.w X.K X.mg X.base cn k f fd ps s) (hr : Room k X.A) (hg : Gl X x) (hm : X.mg x = some (.ref f)) (hk : PySem.W.keepIn X.K (.ref f) = true) (hb : Binds X.K fd ps []) (tk : Takes X E)
    (ha : JA X cn E (e :: es) t) (hdb : (x == ("__debug__" : Str)) = false := by decide) (he : starEach (e :: es) X.env = (false, eval e X.env) :: starEach es X.env := by rfl) (hpl : (backTo pos (starEach es X.env)).any (·.1) = false := by rfl) :
    JE X cn E (.Call (.Name x p) (e :: es) [] pos) (dCall ms s t) :=
  je_call (pe_callS (E := fun σ c d H' => E c d σ H') F hr hg hm hk hb (fun σ => passAt tk σ) ha hdb he hpl)
/-- a call without arguments of a def that raises nothing -/
def dCall0 (s : SpD) : DE := fun ρ Q _ => s [] (fun res _ => Q (.t res) ρ) (fun _ _ => False)
theorem je_call0 (F : FnD X.prog X.w X.K X.mg X.base cn k f fd ps s) (hr : Room k X.A) (hg : Gl X x) (hm : X.mg x = some (.ref f)) (hk : PySem.W.keepIn X.K (.ref f) = true) (hb : Binds X.K fd ps [])
    (hdb : (x == ("__debug__" : Str)) = false := by decide) : JE X cn E (.Call (.Name x p) [] [] pos) (dCall0 s) := by
  refine pe_imp (pe_call0 F hr hg hm hk hb .nil (passAll (fun σ => passAt takes0 σ)) hdb) ?_
  rintro σ H Q ⟨pv, γ, ρ, G, fp, Q0, E0, m, q, po, px⟩
  refine ⟨G, [], [], _, _, m.sub, .nil, q, ?_, fun x ds' cls dx G' H' F' z => z.elim⟩
  rintro res ds' v G' H' Fr F' q3 s3 hs3 r3 rr d3
  have hF' : F' = [] := by
    cases r3
    rfl
  subst hF'
  have s3' : Stp G H (fun _ => False) G' H' (fun a => a ∈ Fr) := s3.mono (fun a z => by cases z) fun a z => .inl (.inl z)
  obtain ⟨f1, f2, f3⟩ := fin_new m (Stp.refl G H (InF fp)) (fun a z => z) s3' hs3
  exact po (.t res) ρ v G' H' fp Fr q3 f1 f2 ⟨rr, f3⟩
where
  passAll {X : Cx} {CX : CXT} {E : XK} (h : ∀ σ, PassesAt CX X σ E) : Passes CX X E := fun pins σ H s e s' I c => h σ pins H s e s' I c
end

/-! ### keywords: all that is handed in is shared -/
def dCallK (g : {α : Type} → List α → List α → List α) (s : SpD) (t tk : DA) : DE := fun ρ Q E => t ρ (fun rs ρ1 => ∃ ds ρ2, tkFL ρ1 rs = some (ds, ρ2) ∧ tk ρ2 (fun zs ρ3 => ∃ es ρ4, tkFL ρ3 zs = some (es, ρ4) ∧
  s (g ds es) (fun res _ => Q (.t res) ρ4) (fun x _ => E x ρ4)) E) E
def GOk (g : {α : Type} → List α → List α → List α) : Prop := ∀ {α β : Type} {R : α → β → Prop} {a : List α} {b : List β} {c : List α} {d : List β}, Paired R a b → Paired R c d → Paired R (g a c) (g b d)
abbrev JK (X : Cx) (cn : String → Addr) (E : WX) (kws : List Keyword) (t : DA) : Prop := PK X kws (liftA X.K cn E t)
section
variable {X : Cx} {cn : String → Addr} {E : WX} {k : Nat} {f : Addr} {fd : FuncData} {ps ks : List Str} {s : SpD} {x : Str} {p pos kpos : Pos} {e : Expr} {es : List Expr} {kws : List Keyword} {t tk : DA} {te : DE} {nm : Option Str} {ms : List Bool}
theorem consA {ta : DE} {t : DA} (σ : St) (H : Hp) (Q : List V → Hp → Prop) : liftA X.K cn E (dCons ta t) σ H Q → tCons (liftE X.K cn E ta) (liftA X.K cn E t) σ H Q := by
  rintro ⟨pv, γ, ρ, G, fp, Q0, E0, m, q, po, px⟩
  refine ⟨pv, γ, ρ, G, fp, _, E0, m, q, fun x ρ1 v G1 H1 fp1 F1 q1 s1 m1 o1 => ?_, px⟩
  refine ⟨pv, γ, ρ1, G1, fp1, _, E0, m1, q1, fun xs ρ2 vs G2 H2 fp2 F2 q2 s2 m2 o2 => ?_, px.on s1⟩
  have o1' := o1.frame s2
  refine po (x :: xs) ρ2 (v :: vs) G2 H2 fp2 (F1 ++ F2) q2 (s1.seq (fun _ z => .inl z) s2 fun a z => ?_) m2 (.cons (o1'.weak fun a z => .inl z) (o2.add fun a z => ?_))
  · rcases z with z | z
    · exact .inl (.inl z)
    · rcases List.mem_append.mp z with z | z
      · exact .inr (.inr z)
      · exact .inl (.inr z)
  · rcases z with z | z
    · exact .inl z
    · exact .inr fun y => o1'.apart a z (.inr y)
theorem RpL.pair {K : PySem.W.Frag} {G H : Hp} : ∀ {vs : List V} (ds : List D), RpL K G H vs ds [] → Paired (fun v d => Rp K G H v d []) vs ds
  | vs, [], h => by rw [h.nil2]; exact .nil
  | vs, d :: ds, h => by
    obtain ⟨x, xs, rfl, h1, h2⟩ := h.cons2
    exact .cons h1 (RpL.pair ds h2)
end

/-! ### a def's rule -/
section
variable {P : Program} {w : World} {K : PySem.W.Frag} {mg : Str → Option Value} {base : Heap} {cn : String → Addr}
theorem lenD {s : SpD} {n : Nat} (h : ∀ ds Q0 E0, s ds Q0 E0 → ds.length = n) : ∀ vs H Q E, lower K cn s vs H Q E → vs.length = n := fun vs H Q E ⟨G, ds, F, Q0, E0, _, r, q, _⟩ => by rw [r.len]; exact h ds Q0 E0 q
/-- the reading of a body keeps the promise -/
def Sem (s : SpD) (t : DS) (n : Nat) : Prop := ∀ ds Q0 E0, s ds Q0 E0 → t { nx := fun ρ => ∃ ds', finL 0 ds ρ = some ds' ∧ Q0 (.p .non) ds', rt := fun d ρ => ∃ ds', finL 0 ds ρ = some ds' ∧ Q0 d ds', ex := fun x ρ => ∃ ds', finL 0 ds ρ = some ds' ∧ E0 x ds' } (initE n ds)
def Ar (s : SpD) (n : Nat) : Prop := ∀ ds Q0 E0, s ds Q0 E0 → ds.length = n
/-- a def keeps its promise: the derivation of its body, the reading of it over deep values -/
theorem def_mk {x qual : Str} {st : Stmt} {f : Addr} {fd : FuncData} {N ps : List Str} {k n : Nat} {s : SpD} {t : DS} (F : Fun K x qual st f fd) (S : FnScope N ps (defScope st)) (hn : ps.length ≤ N.length) (hl : Ar s ps.length)
    (sem : Sem s t n) (hN : N.length = n)
    (der : ∀ (cdv : Value) (A : Around) (outer : List PySem.Env) (s : Shared) (H : Hp) (E : XK), Room k (A.deeper (envOfC qual (defScope st) s.heap.objs.size f cdv)) →
      JSs (cxOf (L2.CX P w) P w K mg base N qual (defScope st) f cdv A outer s H E) cn (fun c d _ H' => E c d H') (defBody st) t) : FnD P w K mg base cn (k + 1) f fd ps s :=
  F.okX S (lenD hl) fun cdv A outer sh H vs Q E hr h => ⟨_, der cdv A outer sh H E hr, def_ok hN (fun ds Q0 E0 q => by rw [hl ds Q0 E0 q, ← hN]; exact hn) sem h⟩
end

theorem lt_of {X : Cx} {i : Nat} (h : (X.N[i]?).isSome = true) : i < X.N.length := by
  cases e : X.N[i]? with
  | none => rw [e] at h; cases h
  | some x => exact (List.getElem?_eq_some_iff.mp e).1
/-- keywords in the parameters' order -/
def gP (p q : Nat) (ix : List Nat) {α : Type} (us ws : List α) : List α := if us.length = p ∧ ws.length = q then ix.flatMap (fun i => (us ++ ws)[i]?.toList) else []
theorem Paired.app {α β : Type} {R : α → β → Prop} : ∀ {a : List α} {b : List β} {c : List α} {d : List β}, Paired R a b → Paired R c d → Paired R (a ++ c) (b ++ d)
  | _, _, _, _, .nil, h => h
  | _, _, _, _, .cons h t, k => .cons h (Paired.app t k)
section
variable {α : Type} {l : List α}
end
end DL
/-! DL10: operators and built-ins over deep values. -/
namespace DL
open PySem L2

/-! ### short names -/
abbrev D.non : D := .p .non
abbrev D.bl (b : Bool) : D := .p (.bl b)
abbrev D.int (i : Int) : D := .p (.int i)
abbrev D.str (x : Str) : D := .p (.str x)
abbrev D.lst (ds : List D) : D := .n false .lst ds
abbrev D.own (ds : List D) : D := .n true .lst ds
abbrev D.tup (ds : List D) : D := .n false .tup ds

section
variable {K : PySem.W.Frag} {G H : Hp}
theorem Fin.p {Q0 : D → Prop} {Q : VK} {x : V} (h : Fin K G H Q0 Q) (s : Sub G H) (q : Q0 (.p x)) : Q x H :=
  h (.p x) x G H [] q ((Stp.refl _ _ _).mono (fun _ z => z) fun _ z => by cases z) s (Rp.p x)
/-- a new list of shared things -/
theorem Fin.lst {Q0 : D → Prop} {Q : VK} {vs : List V} {ds : List D} {p : Addr} (h : Fin K G H Q0 Q) (s : Sub G H) (r : RpL K G H vs ds []) (hp : H p = none) (q : Q0 (.own ds)) : Q (.ref p) (L2.upd H p (.lst vs)) := by
  have hg : G p = none := by
    cases e : G p with
    | none => rfl
    | some o => rw [s p o e] at hp; cases hp
  refine h (.own ds) (.ref p) G (L2.upd H p (.lst vs)) [p] q ⟨fun _ _ z => z, fun a o z _ => by rw [upd_ne (ne_of_none z hp)]; exact z, fun _ _ _ z _ => z, fun a z => .inr (by rw [List.mem_singleton.mp z]; exact hp)⟩ (s.upd hp) ?_
  exact Rp.o hg upd_same (by simp) (r.mov0 fun _ _ z => z)
/-- a new tuple of shared things -/
theorem Fin.tup {Q0 : D → Prop} {Q : VK} {vs : List V} {ds : List D} {p : Addr} (h : Fin K G H Q0 Q) (s : Sub G H) (r : RpL K G H vs ds []) (hp : H p = none) (q : Q0 (.tup ds)) : Q (.ref p) (L2.upd H p (.tup vs)) := by
  have sn := Stp.newG (P := fun _ => False) (o := .tup vs) hp s
  exact h (.tup ds) (.ref p) _ _ [] q (sn.mono (fun _ z => z) fun _ z => by cases z) (s.updG hp) (Rp.f upd_same (r.mov0 sn.g))
theorem Rp.shared {v : V} {d : D} {F : List Addr} (r : Rp K G H v d F) (h : d.isFz = true) : Rp K G H v d [] := by
  have := Rp.foot0 d r h
  subst this
  exact r
theorem RpL.shared {vs : List V} {ds : List D} {F : List Addr} (r : RpL K G H vs ds F) (h : isFzL ds = true) : RpL K G H vs ds [] := by
  have := RpL.foot0 ds r h
  subst this
  exact r
/-- a list, read -/
theorem Rp.list {v : V} {o : Bool} {ds : List D} {F : List Addr} (s : Sub G H) (r : Rp K G H v (.n o .lst ds) F) : ∃ a vs F', v = .ref a ∧ H a = some (.lst vs) ∧ RpL K G H vs ds F' := by
  cases r with
  | @f a _ vs _ F h1 h2 => exact ⟨a, vs, F, rfl, s _ _ h1, h2⟩
  | @o a _ vs _ F h0 h1 h3 h2 => exact ⟨a, vs, F, rfl, h1, h2⟩
theorem Rp.lok {v : V} {o : Bool} {ds : List D} {F : List Addr} (s : Sub G H) (r : Rp K G H v (.n o .lok ds) F) : ∃ a vs F', v = .ref a ∧ SqL K H a vs ∧ RpL K G H vs ds F' := by
  cases r with
  | @f a _ vs _ F h1 h2 => exact ⟨a, vs, F, rfl, SqL.mono s h1, h2⟩
  | @o a _ vs _ F h0 h1 h3 h2 => exact h1.elim
theorem Rp.tupl {v : V} {o : Bool} {ds : List D} {F : List Addr} (s : Sub G H) (r : Rp K G H v (.n o .tup ds) F) : ∃ a vs F', v = .ref a ∧ H a = some (.tup vs) ∧ RpL K G H vs ds F' := by
  cases r with
  | @f a _ vs _ F h1 h2 => exact ⟨a, vs, F, rfl, s _ _ h1, h2⟩
  | @o a _ vs _ F h0 h1 h3 h2 => exact h1.elim
theorem Rp.tok {v : V} {o : Bool} {ds : List D} {F : List Addr} (s : Sub G H) (r : Rp K G H v (.n o .tok ds) F) : ∃ a vs F', v = .ref a ∧ SqT K H a vs ∧ RpL K G H vs ds F' := by
  cases r with
  | @f a _ vs _ F h1 h2 => exact ⟨a, vs, F, rfl, SqT.mono s h1, h2⟩
  | @o a _ vs _ F h0 h1 h3 h2 => exact h1.elim
theorem tq {H : Hp} {a : Addr} {vs : List V} (h : H a = some (.tup vs)) : SqT K H a vs := .inl (.inl h)
theorem Rp.seq {v : V} {d : D} {cs : List D} {F : List Addr} (s : Sub G H) (r : Rp K G H v d F) (e : itemsOf d = some cs) : ∃ a vs F', v = .ref a ∧ (SqL K H a vs ∨ SqT K H a vs) ∧ RpL K G H vs cs F' := by
  cases d with
  | p _ => simp only [itemsOf] at e; cases e
  | n o k ch =>
    cases k with
    | lst => simp only [itemsOf, Option.some.injEq] at e; subst e; obtain ⟨a, vs, F', h1, h2, h3⟩ := r.list s; exact ⟨a, vs, F', h1, .inl (.inl (.inl h2)), h3⟩
    | lok => simp only [itemsOf, Option.some.injEq] at e; subst e; obtain ⟨a, vs, F', h1, h2, h3⟩ := r.lok s; exact ⟨a, vs, F', h1, .inl h2, h3⟩
    | tup => simp only [itemsOf, Option.some.injEq] at e; subst e; obtain ⟨a, vs, F', h1, h2, h3⟩ := r.tupl s; exact ⟨a, vs, F', h1, .inr (tq h2), h3⟩
    | tok => simp only [itemsOf, Option.some.injEq] at e; subst e; obtain ⟨a, vs, F', h1, h2, h3⟩ := r.tok s; exact ⟨a, vs, F', h1, .inr h2, h3⟩
    | dic _ => simp only [itemsOf] at e; cases e
    | dit _ => simp only [itemsOf] at e; cases e
    | obj _ _ => simp only [itemsOf] at e; cases e
    | exc _ _ => simp only [itemsOf] at e; cases e
theorem Rp.listOf {v : V} {d : D} {cs : List D} {F : List Addr} (s : Sub G H) (r : Rp K G H v d F) (e : listOf d = some cs) : ∃ a vs F', v = .ref a ∧ SqL K H a vs ∧ RpL K G H vs cs F' := by
  cases d with
  | p _ => simp only [DL.listOf] at e; cases e
  | n o k ch =>
    cases k with
    | lst => simp only [DL.listOf, Option.some.injEq] at e; subst e; obtain ⟨a, vs, F', h1, h2, h3⟩ := r.list s; exact ⟨a, vs, F', h1, .inl (.inl h2), h3⟩
    | lok => simp only [DL.listOf, Option.some.injEq] at e; subst e; obtain ⟨a, vs, F', h1, h2, h3⟩ := r.lok s; exact ⟨a, vs, F', h1, h2, h3⟩
    | tup => simp only [DL.listOf] at e; cases e
    | tok => simp only [DL.listOf] at e; cases e
    | dic _ => simp only [DL.listOf] at e; cases e
    | dit _ => simp only [DL.listOf] at e; cases e
    | obj _ _ => simp only [DL.listOf] at e; cases e
    | exc _ _ => simp only [DL.listOf] at e; cases e
theorem RpL.prims {vs xs : List V} {F : List Addr} (r : RpL K G H vs (xs.map D.p) F) : vs = xs := by
  induction xs generalizing vs F with
  | nil => cases r; rfl
  | cons x xs ih =>
    rw [List.map_cons] at r
    cases r with
    | cons h1 h2 h3 =>
      cases h1
      rw [ih h2]
theorem RpL.of_prims : ∀ {xs : List V}, RpL K G H xs (xs.map D.p) []
  | [] => .nil
  | x :: xs => by
    have := RpL.cons (F := []) (F' := []) (Rp.p (K := K) (G := G) (H := H) x) (RpL.of_prims (xs := xs)) fun a z => by cases z
    exact this
end

/-! ### == -/
mutual
def toPy : D → PyData
  | .p .non => .none
  | .p (.bl b) => .bool b
  | .p (.int i) => .int i
  | .p (.str x) => .str x
  | .p _ => .dict []
  | .n _ .lst ch => .list (toPyL ch)
  | .n _ .lok ch => .list (toPyL ch)
  | .n _ .tup ch => .tuple (toPyL ch)
  | .n _ .tok ch => .tuple (toPyL ch)
  | .n _ _ _ => .dict []
def toPyL : List D → List PyData
  | [] => []
  | d :: ds => toPy d :: toPyL ds
end
def eqD (d e : D) : Bool := PyData.eqv (toPy d) (toPy e)
def okD (d : D) : Bool := (toPy d).plain && decide ((toPy d).depth ≤ 64)
section
variable {K : PySem.W.Frag} {G H : Hp}
mutual
theorem Rp.dp (s : Sub G H) : ∀ {v : V} (d : D) {F : List Addr}, Rp K G H v d F → (toPy d).plain = true → Dp K H v (toPy d)
  | _, .p .non, _, h, _ => by cases h; simp only [toPy]; exact Dp.non
  | _, .p (.bl b), _, h, _ => by cases h; simp only [toPy]; exact Dp.bl b
  | _, .p (.int i), _, h, _ => by cases h; simp only [toPy]; exact Dp.int i
  | _, .p (.str x), _, h, _ => by cases h; simp only [toPy]; exact Dp.str x
  | _, .p (.byt x), _, h, c => by simp [toPy, PyData.plain] at c
  | _, .p (.flt x), _, h, c => by simp [toPy, PyData.plain] at c
  | _, .p (.ref x), _, h, c => by simp [toPy, PyData.plain] at c
  | _, .p (.ty x), _, h, c => by simp [toPy, PyData.plain] at c
  | _, .n o .lst ch, _, h, c => by
    obtain ⟨a, vs, F', rfl, h1, h2⟩ := h.list s
    simp only [toPy, PyData.plain] at c ⊢
    exact Dp.lst (.inl (.inl h1)) (RpL.dp s ch h2 c)
  | _, .n o .lok ch, _, h, c => by
    obtain ⟨a, vs, F', rfl, h1, h2⟩ := h.lok s
    simp only [toPy, PyData.plain] at c ⊢
    exact Dp.lst h1 (RpL.dp s ch h2 c)
  | _, .n o .tup ch, _, h, c => by
    obtain ⟨a, vs, F', rfl, h1, h2⟩ := h.tupl s
    simp only [toPy, PyData.plain] at c ⊢
    exact Dp.tup (tq h1) (RpL.dp s ch h2 c)
  | _, .n o .tok ch, _, h, c => by
    obtain ⟨a, vs, F', rfl, h1, h2⟩ := h.tok s
    simp only [toPy, PyData.plain] at c ⊢
    exact Dp.tup h1 (RpL.dp s ch h2 c)
  | _, .n o (.dic _) ch, _, h, c => by simp [toPy, PyData.plain] at c
  | _, .n o (.dit _) ch, _, h, c => by simp [toPy, PyData.plain] at c
  | _, .n o (.obj _ _) ch, _, h, c => by simp [toPy, PyData.plain] at c
  | _, .n o (.exc _ _) ch, _, h, c => by simp [toPy, PyData.plain] at c
theorem RpL.dp (s : Sub G H) : ∀ {vs : List V} (ds : List D) {F : List Addr}, RpL K G H vs ds F → PyData.plainAll (toPyL ds) = true → DpAll K H vs (toPyL ds)
  | _, [], _, h, _ => by cases h; simp only [toPyL]; exact DpAll.nil
  | _, d :: ds, _, h, c => by
    simp only [toPyL, PyData.plainAll, Bool.and_eq_true] at c ⊢
    cases h with
    | cons h1 h2 h3 => exact DpAll.cons (Rp.dp s d h1 c.1) (RpL.dp s ds h2 c.2)
end
theorem Rp.dpO {v : V} {d : D} {F : List Addr} (s : Sub G H) (r : Rp K G H v d F) (h : okD d = true) : Dp K H v (toPy d) := Rp.dp s d r (by unfold okD at h; rw [Bool.and_eq_true] at h; exact h.1)
end
theorem okD_dep {d : D} (h : okD d = true) : (toPy d).plain = true ∧ (toPy d).depth ≤ 64 := by
  unfold okD at h
  rw [Bool.and_eq_true] at h
  exact ⟨h.1, of_decide_eq_true h.2⟩
def qEq : Op2 := fun d e Q => (okD d = true ∧ okD e = true) ∧ Q (.bl (eqD d e))
def qNe : Op2 := fun d e Q => (okD d = true ∧ okD e = true) ∧ Q (.bl (!eqD d e))
/-- plain data -/
def Pl (d : PyData) : Prop := d.plain = true ∧ d.depth ≤ 64
def rEqP (K : PySem.W.Frag) : R2 := fun x y H Q => ∃ d e, Dp K H x d ∧ Dp K H y e ∧ Pl d ∧ Pl e ∧ Q (.bl (PyData.eqv d e)) H
def rNeP (K : PySem.W.Frag) : R2 := fun x y H Q => ∃ d e, Dp K H x d ∧ Dp K H y e ∧ Pl d ∧ Pl e ∧ Q (.bl (!PyData.eqv d e)) H
def inB (neg : Bool) (ds : List PyData) (d : PyData) : Bool := if neg = true then !ds.any (fun y => PyData.eqv y d) else ds.any fun y => PyData.eqv y d
def rInP (K : PySem.W.Frag) (neg : Bool) : R2 := fun x y H Q => ∃ d ds, Dp K H x d ∧ (Dp K H y (.list ds) ∨ Dp K H y (.tuple ds)) ∧ Pl d ∧ PyData.plainAll ds = true ∧ Q (.bl (inB neg ds d)) H
section
variable {X : Cx}
theorem o_eq (hu : X.A.units + 65 < cLine) : OpR X (compareOp .Eq) (rEqP X.K) := by
  intro pins s σ H x y v u Q I rx ry ⟨d, e, hd, he, sd, se, q⟩
  obtain ⟨as, r1⟩ := Dp.reads I d x v hd rx
  obtain ⟨bs, r2⟩ := Dp.reads I e y u he ry
  refine SeqAt.eq_plain r1 r2 sd.1 se.1 ?_ ⟨.bl _, H, I, rfl, q⟩
  have := sd.2
  have := se.2
  omega
theorem o_ne (hu : X.A.units + 65 < cLine) : OpR X (compareOp .NotEq) (rNeP X.K) := by
  intro pins s σ H x y v u Q I rx ry ⟨d, e, hd, he, sd, se, q⟩
  obtain ⟨as, r1⟩ := Dp.reads I d x v hd rx
  obtain ⟨bs, r2⟩ := Dp.reads I e y u he ry
  refine SeqAt.ne_plain r1 r2 sd.1 se.1 ?_ ⟨.bl _, H, I, rfl, q⟩
  have := sd.2
  have := se.2
  omega
theorem o_inP (hu : X.A.units + 65 < cLine) : OpR X (compareOp .In) (rInP X.K false) := by
  intro pins s σ H x y v u Q I rx ry ⟨d, ds, hd, he, sd, se, q⟩
  obtain ⟨as, r1⟩ := Dp.reads I d x v hd rx
  have hr : X.A.units + 1 + min (PyData.depthAll ds) d.depth < cLine := by
    have := sd.2
    omega
  rcases he with he | he
  · obtain ⟨bs, r2⟩ := Dp.reads I _ y u he ry
    exact SeqAt.in_list_data r2 r1 se sd.1 hr ⟨.bl _, H, I, rfl, q⟩
  · obtain ⟨bs, r2⟩ := Dp.reads I _ y u he ry
    exact SeqAt.in_tuple_data r2 r1 se sd.1 hr ⟨.bl _, H, I, rfl, q⟩
theorem o_ninP (hu : X.A.units + 65 < cLine) : OpR X (compareOp .NotIn) (rInP X.K true) := by
  intro pins s σ H x y v u Q I rx ry ⟨d, ds, hd, he, sd, se, q⟩
  obtain ⟨as, r1⟩ := Dp.reads I d x v hd rx
  have hr : X.A.units + 1 + min (PyData.depthAll ds) d.depth < cLine := by
    have := sd.2
    omega
  rcases he with he | he
  · obtain ⟨bs, r2⟩ := Dp.reads I _ y u he ry
    exact SeqAt.notIn_list_data r2 r1 se sd.1 hr ⟨.bl _, H, I, rfl, q⟩
  · obtain ⟨bs, r2⟩ := Dp.reads I _ y u he ry
    exact SeqAt.notIn_tuple_data r2 r1 se sd.1 hr ⟨.bl _, H, I, rfl, q⟩
end
section
variable {X : Cx}
theorem s_eq {K : PySem.W.Frag} : Sem2 K (rEqP K) qEq := fun G H v u d e F1 F2 Q0 Q s r1 r2 ⟨⟨h1, h2⟩, q⟩ fin => ⟨_, _, r1.dpO s h1, r2.dpO s h2, okD_dep h1, okD_dep h2, fin.p s q⟩
theorem s_ne {K : PySem.W.Frag} : Sem2 K (rNeP K) qNe := fun G H v u d e F1 F2 Q0 Q s r1 r2 ⟨⟨h1, h2⟩, q⟩ fin => ⟨_, _, r1.dpO s h1, r2.dpO s h2, okD_dep h1, okD_dep h2, fin.p s q⟩

/-! ### numbers, order -/
def strLt (x y : Str) : Bool := decide (x.cps.toList < y.cps.toList)
def qCmp (f : Int → Int → Bool) (g : Str → Str → Bool) : Op2
  | .p (.int i), .p (.int j), Q => Q (.bl (f i j))
  | .p (.str x), .p (.str y), Q => Q (.bl (g x y))
  | _, _, _ => False
def qLt : Op2 := qCmp (fun i j => decide (i < j)) fun x y => strLt x y
def qLe : Op2 := qCmp (fun i j => decide (i ≤ j)) fun x y => !strLt y x
def qGt : Op2 := qCmp (fun i j => decide (j < i)) fun x y => strLt y x
def qGe : Op2 := qCmp (fun i j => decide (j ≤ i)) fun x y => !strLt x y
theorem s_cmp {K : PySem.W.Frag} {f : Int → Int → Bool} {g : Str → Str → Bool} : Sem2 K (fun x y H Q => rI0 (fun i j => .bl (f i j)) x y H Q ∨ ∃ i j, x = .str i ∧ y = .str j ∧ Q (.bl (g i j)) H) (qCmp f g) := by
  intro G H v u d e F1 F2 Q0 Q s r1 r2 q fin
  unfold qCmp at q
  split at q
  · cases r1; cases r2; exact .inl ⟨_, _, rfl, rfl, fin.p s q⟩
  · cases r1; cases r2; exact .inr ⟨_, _, rfl, rfl, fin.p s q⟩
  · exact q.elim
theorem o_lt : OpR X (compareOp .Lt) (fun x y H Q => rI0 (fun i j => .bl (decide (i < j))) x y H Q ∨ ∃ i j, x = .str i ∧ y = .str j ∧ Q (.bl (strLt i j)) H) := op_lt.or op_lt_str
theorem o_le : OpR X (compareOp .LtE) (fun x y H Q => rI0 (fun i j => .bl (decide (i ≤ j))) x y H Q ∨ ∃ i j, x = .str i ∧ y = .str j ∧ Q (.bl (!strLt j i)) H) := op_le.or op_le_str
theorem o_gt : OpR X (compareOp .Gt) (fun x y H Q => rI0 (fun i j => .bl (decide (j < i))) x y H Q ∨ ∃ i j, x = .str i ∧ y = .str j ∧ Q (.bl (strLt j i)) H) := op_gt.or op_gt_str
theorem o_ge : OpR X (compareOp .GtE) (fun x y H Q => rI0 (fun i j => .bl (decide (j ≤ i))) x y H Q ∨ ∃ i j, x = .str i ∧ y = .str j ∧ Q (.bl (!strLt i j)) H) := op_ge.or op_ge_str
def qAdd : Op2
  | .p (.int i), .p (.int j), Q => Q (.int (i + j))
  | .p (.str x), .p (.str y), Q => x.length + y.length ≤ 100000 ∧ Q (.str (x ++ y))
  | .n _ .lst xs, .n _ .lst ys, Q => (isFzL xs && isFzL ys) = true ∧ xs.length + ys.length ≤ 100000 ∧ Q (.own (xs ++ ys))
  | .n _ .tup xs, .n _ .tup ys, Q => (isFzL xs && isFzL ys) = true ∧ xs ≠ [] ∧ ys ≠ [] ∧ xs.length + ys.length ≤ 100000 ∧ Q (.tup (xs ++ ys))
  | _, _, _ => False
def rAddD (K : PySem.W.Frag) : R2 := fun x y H Q => (((rI0 (fun i j => .int (i + j)) x y H Q ∨ ∃ i j, x = .str i ∧ y = .str j ∧ i.length + j.length ≤ sizeLine ∧ Q (.str (i ++ j)) H) ∨ rCat x y H Q) ∨ rCatT K x y H Q)
theorem o_add : OpR X (binaryOp .Add) (rAddD X.K) := ((op_add.or op_add_str).or op_cat).or op_catT
theorem s_add {K : PySem.W.Frag} : Sem2 K (rAddD K) qAdd := by
  intro G H v u d e F1 F2 Q0 Q s r1 r2 q fin
  unfold qAdd at q
  split at q
  · cases r1; cases r2; exact .inl (.inl (.inl ⟨_, _, rfl, rfl, fin.p s q⟩))
  · cases r1; cases r2; exact .inl (.inl (.inr ⟨_, _, rfl, rfl, size_of q.1, fin.p s q.2⟩))
  · obtain ⟨q1, q2, q3⟩ := q
    simp only [Bool.and_eq_true] at q1
    obtain ⟨a, vs, F, rfl, h1, h2⟩ := r1.list s
    obtain ⟨b, ws, F', rfl, h3, h4⟩ := r2.list s
    refine .inl (.inr ⟨a, b, vs, ws, rfl, rfl, h1, h3, by rw [h2.len, h4.len]; exact size_of q2, fun p hp => fin.lst s ?_ hp q3⟩)
    have := (h2.shared q1.1).app (h4.shared q1.2) fun a z => by cases z
    exact this
  · obtain ⟨q1, n1, n2, q2, q3⟩ := q
    simp only [Bool.and_eq_true] at q1
    obtain ⟨a, vs, F, rfl, h1, h2⟩ := r1.tupl s
    obtain ⟨b, ws, F', rfl, h3, h4⟩ := r2.tupl s
    have e1 : vs ≠ [] := fun z => n1 (List.eq_nil_of_length_eq_zero (by rw [← h2.len, z]; rfl))
    have e2 : ws ≠ [] := fun z => n2 (List.eq_nil_of_length_eq_zero (by rw [← h4.len, z]; rfl))
    refine .inr ⟨a, b, vs, ws, rfl, rfl, tq h1, tq h3, e1, by rw [h2.len, h4.len]; exact size_of q2, fun z => absurd z e2, fun _ p hp => fin.tup s ?_ hp q3⟩
    have := (h2.shared q1.1).app (h4.shared q1.2) fun a z => by cases z
    exact this
  · exact q.elim
def qI (C : Int → Int → Prop) (g : Int → Int → Int) : Op2
  | .p (.int i), .p (.int j), Q => C i j ∧ Q (.int (g i j))
  | _, _, _ => False
theorem s_I {K : PySem.W.Frag} {C : Int → Int → Prop} {g : Int → Int → Int} : Sem2 K (rI C fun i j => .int (g i j)) (qI C g) := by
  intro G H v u d e F1 F2 Q0 Q s r1 r2 q fin
  unfold qI at q
  split at q
  · cases r1; cases r2; exact ⟨_, _, rfl, rfl, q.1, fin.p s q.2⟩
  · exact q.elim
theorem s_I0 {K : PySem.W.Frag} {g : Int → Int → Int} : Sem2 K (rI0 fun i j => .int (g i j)) (qI (fun _ _ => True) g) := by
  intro G H v u d e F1 F2 Q0 Q s r1 r2 q fin
  unfold qI at q
  split at q
  · cases r1; cases r2; exact ⟨_, _, rfl, rfl, fin.p s q.2⟩
  · exact q.elim
def qSub : Op2 := qI (fun _ _ => True) fun i j => i - j
def qMul : Op2 := qI CMul fun i j => i * j
def qMod : Op2 := qI (fun _ j => 0 < j) fun i j => i % j
def qDiv : Op2 := qI (fun _ j => 0 < j ∧ j < 2 ^ 128) fun i j => i / j
def qPow : Op2 := qI CPow fun i j => i ^ j.toNat
theorem s_div {K : PySem.W.Frag} : Sem2 K (rI CDivW fun i j => .int (i / j)) qDiv := by
  intro G H v u d e F1 F2 Q0 Q s r1 r2 q fin
  unfold qDiv qI at q
  split at q
  · cases r1; cases r2
    obtain ⟨⟨h1, h2⟩, q⟩ := q
    exact ⟨_, _, rfl, rfl, wide_div (b := 128) h1 (by omega) (by decide) (by decide), fin.p s q⟩
  · exact q.elim
def qNeg : D → (D → Prop) → Prop
  | .p (.int i), Q => Q (.int (-i))
  | _, _ => False
theorem s_neg {K : PySem.W.Frag} : Sem1 K (rU fun i => .int (-i)) qNeg := by
  intro G H v d F1 Q0 Q s r1 q fin
  unfold qNeg at q
  split at q
  · cases r1; exact ⟨_, rfl, fin.p s q⟩
  · exact q.elim

/-! ### is None -/
def isNon : D → Bool
  | .p .non => true
  | _ => false
def qIsN : Op2 := fun d e Q => e = .non ∧ Q (.bl (isNon d))
def qNotN : Op2 := fun d e Q => e = .non ∧ Q (.bl (!isNon d))
theorem rp_non {K : PySem.W.Frag} {G H : Hp} {v : V} {d : D} {F : List Addr} (r : Rp K G H v d F) : decide (v = .non) = isNon d := by
  cases r with
  | p v => cases v <;> simp [isNon]
  | f h1 h2 => simp [isNon]
  | o h0 h1 h3 h2 => simp [isNon]
theorem s_isN {K : PySem.W.Frag} : Sem2 K (fun x y H Q => y = .non ∧ Q (.bl (decide (x = .non))) H) qIsN := by
  intro G H v u d e F1 F2 Q0 Q s r1 r2 ⟨q1, q⟩ fin
  subst q1
  cases r2
  refine ⟨rfl, ?_⟩
  rw [rp_non r1]
  exact fin.p s q
/-! ### in -/
def inD (d : D) (ds : List D) : Bool := ds.any fun e => eqD e d
def seqK : Kd → Bool
  | .lst => true
  | .lok => true
  | .tup => true
  | .tok => true
  | _ => false
def qIn (neg : Bool) : Op2 := fun d e Q => match e with
  | .n _ k ch => (seqK k = true ∧ okD d = true ∧ okD e = true) ∧ Q (.bl (if neg = true then !inD d ch else inD d ch))
  | _ => False
theorem in_any (d : D) : ∀ ch : List D, (toPyL ch).any (fun y => PyData.eqv y (toPy d)) = inD d ch
  | [] => rfl
  | c :: cs => by
    unfold inD
    rw [toPyL, List.any_cons, List.any_cons, in_any d cs]
    rfl
theorem s_in {K : PySem.W.Frag} {neg : Bool} : Sem2 K (rInP K neg) (qIn neg) := by
  intro G H v u d e F1 F2 Q0 Q s r1 r2 q fin
  unfold qIn at q
  split at q
  · rename_i o k ch
    obtain ⟨⟨hk, hd, hc⟩, q⟩ := q
    have hp := r2.dpO s hc
    have hq := (okD_dep hc).1
    have : ∃ ds, ds = toPyL ch ∧ (Dp K H u (.list ds) ∨ Dp K H u (.tuple ds)) ∧ PyData.plainAll ds = true := by
      cases k with
      | lst => rw [toPy] at hp hq; exact ⟨_, rfl, .inl hp, by rwa [PyData.plain] at hq⟩
      | lok => rw [toPy] at hp hq; exact ⟨_, rfl, .inl hp, by rwa [PyData.plain] at hq⟩
      | tup => rw [toPy] at hp hq; exact ⟨_, rfl, .inr hp, by rwa [PyData.plain] at hq⟩
      | tok => rw [toPy] at hp hq; exact ⟨_, rfl, .inr hp, by rwa [PyData.plain] at hq⟩
      | dic _ => cases hk
      | dit _ => cases hk
      | obj _ _ => cases hk
      | exc _ _ => cases hk
    obtain ⟨ds, rfl, h1, h2⟩ := this
    refine ⟨_, _, r1.dpO s hd, h1, okD_dep hd, h2, ?_⟩
    unfold inB
    rw [in_any]
    exact fin.p s q
  · exact q.elim
end

/-! ### subscripts -/
def atD (ds : List D) (i : Int) : Option D := atI ds i
def qIx : Op2 := fun d e Q => match d, e with
  | .n _ .lst ch, .p (.int i) => ∃ c, atI ch i = some c ∧ c.isFz = true ∧ Q c
  | .n _ .lok ch, .p (.int i) => ∃ c, atI ch i = some c ∧ c.isFz = true ∧ Q c
  | .n _ .tup ch, .p (.int i) => ∃ c, atI ch i = some c ∧ c.isFz = true ∧ Q c
  | .n _ .tok ch, .p (.int i) => ∃ c, atI ch i = some c ∧ c.isFz = true ∧ Q c
  | .p (.str x), .p (.int i) => x.length ≤ 100000 ∧ ∃ c, atI x.cps.toList i = some c ∧ Q (.str ⟨#[c]⟩)
  | _, _ => False
theorem RpL.atI {K : PySem.W.Frag} {G H : Hp} {vs : List V} {ch : List D} {F : List Addr} {i : Int} {c : D} (r : RpL K G H vs ch F) (e : L2.atI ch i = some c) (hz : c.isFz = true) : ∃ x, L2.atI vs i = some x ∧ Rp K G H x c [] := by
  unfold L2.atI at e ⊢
  rw [r.len]
  cases hj : ixN ch.length i with
  | none => rw [hj] at e; cases e
  | some j =>
    rw [hj] at e
    obtain ⟨x, F', h1, h2, h3⟩ := RpL.get ch r e
    exact ⟨x, h1, h2.shared hz⟩
theorem Fin.old {K : PySem.W.Frag} {G H : Hp} {Q0 : D → Prop} {Q : VK} {x : V} {d : D} (h : Fin K G H Q0 Q) (s : Sub G H) (r : Rp K G H x d []) (q : Q0 d) : Q x H :=
  h d x G H [] q ((Stp.refl _ _ _).mono (fun _ z => z) fun _ z => by cases z) s r
section
variable {X : Cx} {cn : String → Addr} {E : WX} {a b : Expr} {pos : Pos} {ta tb : DE}
theorem s_ix {K : PySem.W.Frag} : Sem2 K (rIx K) qIx := by
  intro G H v u d e F1 F2 Q0 Q s r1 r2 q fin
  unfold qIx at q
  split at q
  · obtain ⟨c, e1, hz, q⟩ := q
    cases r2
    obtain ⟨a, vs, F', rfl, h1, h2⟩ := r1.list s
    obtain ⟨x, g1, g2⟩ := h2.atI e1 hz
    exact .inl ⟨a, vs, _, x, rfl, rfl, .inl (.inl h1), g1, fin.old s g2 q⟩
  · obtain ⟨c, e1, hz, q⟩ := q
    cases r2
    obtain ⟨a, vs, F', rfl, h1, h2⟩ := r1.lok s
    obtain ⟨x, g1, g2⟩ := h2.atI e1 hz
    exact .inl ⟨a, vs, _, x, rfl, rfl, h1, g1, fin.old s g2 q⟩
  · obtain ⟨c, e1, hz, q⟩ := q
    cases r2
    obtain ⟨a, vs, F', rfl, h1, h2⟩ := r1.tupl s
    obtain ⟨x, g1, g2⟩ := h2.atI e1 hz
    exact .inr (.inl ⟨a, vs, _, x, rfl, rfl, tq h1, g1, fin.old s g2 q⟩)
  · obtain ⟨c, e1, hz, q⟩ := q
    cases r2
    obtain ⟨a, vs, F', rfl, h1, h2⟩ := r1.tok s
    obtain ⟨x, g1, g2⟩ := h2.atI e1 hz
    exact .inr (.inl ⟨a, vs, _, x, rfl, rfl, h1, g1, fin.old s g2 q⟩)
  · obtain ⟨hl, c, e1, q⟩ := q
    cases r1; cases r2
    exact .inr (.inr ⟨_, _, c, rfl, rfl, size_of hl, e1, fin.p s q⟩)
  · exact q.elim
/-! ### slices -/
def dPart (te : DE) : Env → (Option Int → Env → Prop) → (Exn → Env → Prop) → Prop := fun ρ Q E => te ρ (fun r ρ1 => ∃ i, look ρ1 r = some (.p (.int i)) ∧ Q (some i) ρ1) E
def dNoPart : Env → (Option Int → Env → Prop) → (Exn → Env → Prop) → Prop := fun ρ Q _ => Q none ρ
abbrev DO := Env → (Option Int → Env → Prop) → (Exn → Env → Prop) → Prop
def PoO (K : PySem.W.Frag) (pv : Nat → V) (σ γ : St) (G H : Hp) (fp : Fps) (Q0 : Option Int → Env → Prop) (Q : Option Int → Hp → Prop) : Prop :=
  ∀ b ρ' G' H' fp', Q0 b ρ' → Stp G H (InF fp) G' H' (InF fp') → Mt K pv (σ ++ γ) ρ' G' H' fp' → Q b H'
def liftO (K : PySem.W.Frag) (cn : String → Addr) (E : WX) (t : DO) : TO := fun σ H Q => ∃ pv γ ρ G fp Q0 E0, Mt K pv (σ ++ γ) ρ G H fp ∧ t ρ Q0 E0 ∧ PoO K pv σ γ G H fp Q0 Q ∧ PoX K cn pv γ σ.length G H fp E0 E
abbrev JO (X : Cx) (cn : String → Addr) (E : WX) (e : Option Expr) (t : DO) : Prop := PO X e (liftO X.K cn E t)
theorem po_imp {X : Cx} {e : Option Expr} {t t' : TO} (h : PO X e t) (i : ∀ σ H Q, t' σ H Q → t σ H Q) : PO X e t' := ⟨fun pins s σ H Q I q => h.run pins s σ H Q I (i σ H Q q)⟩
theorem jo_none : JO X cn E none dNoPart := po_imp po_none fun σ H Q ⟨pv, γ, ρ, G, fp, Q0, E0, m, q, po, px⟩ => po none ρ G H fp q (Stp.refl _ _ _) m
theorem jo_some {e : Expr} {te : DE} (h : JE X cn E e te) : JO X cn E (some e) (dPart te) := po_imp (po_some h) fun σ H Q ⟨pv, γ, ρ, G, fp, Q0, E0, m, q, po, px⟩ =>
  ⟨pv, γ, ρ, G, fp, _, E0, m, q, fun r ρ1 v G1 H1 fp1 F1 ⟨i, l1, q1⟩ s1 m1 o1 => ⟨i, look_p m1 o1 l1, po (some i) ρ1 G1 H1 fp1 q1 (drop0 s1) m1⟩, px⟩
def cutD {α : Type} (xs : List α) (lo hi : Option Int) : List α := (xs.drop (HT.sIx xs.length 0 lo)).take (HT.sIx xs.length xs.length hi - HT.sIx xs.length 0 lo)
def qCut (lo hi : Option Int) : D → (D → Prop) → Prop
  | .n _ .lst ch, Q => isFzL (cutD ch lo hi) = true ∧ Q (.own (cutD ch lo hi))
  | .n _ .lok ch, Q => isFzL (cutD ch lo hi) = true ∧ Q (.own (cutD ch lo hi))
  | .p (.str x), Q => x.length ≤ 100000 ∧ Q (.str (cutS x lo hi))
  | _, _ => False
def dCut (te : DE) (tl th : DO) : DE := fun ρ Q E => te ρ (fun r ρ1 => tl ρ1 (fun lo ρ2 => th ρ2 (fun hi ρ3 => ∃ d, look ρ3 r = some d ∧ qCut lo hi d fun z => Q (.t z) ρ3) E) E) E
theorem RpL.drop {K : PySem.W.Frag} {G H : Hp} : ∀ {vs : List V} {ds : List D} {F : List Addr} (k : Nat), RpL K G H vs ds F → ∃ F', RpL K G H (vs.drop k) (ds.drop k) F' ∧ ∀ a ∈ F', a ∈ F
  | _, _, F, 0, h => ⟨F, h, fun _ z => z⟩
  | _, [], F, k + 1, h => by cases h; exact ⟨[], .nil, fun _ z => z⟩
  | _, d :: ds, F, k + 1, h => by
    cases h with
    | cons h1 h2 h3 =>
      obtain ⟨F', r, i⟩ := RpL.drop k h2
      exact ⟨F', r, fun a z => List.mem_append_right _ (i a z)⟩
theorem RpL.take {K : PySem.W.Frag} {G H : Hp} : ∀ {vs : List V} {ds : List D} {F : List Addr} (k : Nat), RpL K G H vs ds F → ∃ F', RpL K G H (vs.take k) (ds.take k) F' ∧ ∀ a ∈ F', a ∈ F
  | _, _, F, 0, h => ⟨[], .nil, fun _ z => by cases z⟩
  | _, [], F, k + 1, h => by cases h; exact ⟨[], .nil, fun _ z => z⟩
  | _, d :: ds, _, k + 1, h => by
    cases h with
    | cons h1 h2 h3 =>
      obtain ⟨F', r, i⟩ := RpL.take k h2
      refine ⟨_ ++ F', RpL.cons h1 r fun a z y => h3 a z (i a y), fun a z => ?_⟩
      rcases List.mem_append.mp z with z | z
      · exact List.mem_append_left _ z
      · exact List.mem_append_right _ (i a z)
theorem RpL.cut {K : PySem.W.Frag} {G H : Hp} {vs : List V} {ds : List D} {F : List Addr} (h : RpL K G H vs ds F) (lo hi : Option Int) (z : isFzL (cutD ds lo hi) = true) : RpL K G H (cutV vs lo hi) (cutD ds lo hi) [] := by
  unfold cutV
  unfold cutD at z ⊢
  rw [h.len]
  obtain ⟨F1, r1, _⟩ := h.drop (HT.sIx ds.length 0 lo)
  obtain ⟨F2, r2, _⟩ := r1.take (HT.sIx ds.length ds.length hi - HT.sIx ds.length 0 lo)
  exact r2.shared z
theorem je_cut {lo hi : Option Expr} {p2 : Pos} {tl th : DO} (ha : JE X cn E a ta) (hl : JO X cn E lo tl) (hh : JO X cn E hi th) : JE X cn E (.Subscript a (.Slice lo hi none p2) pos) (dCut ta tl th) := by
  refine pe_imp (pe_slice (sl_list.or sl_str) ha hl hh) ?_
  rintro σ H Q ⟨pv, γ, ρ, G, fp, Q0, E0, m, q, po, px⟩
  refine ⟨pv, γ, ρ, G, fp, _, E0, m, q, fun r ρ1 v G1 H1 fp1 F1 q1 s1 m1 o1 => ?_, px⟩
  refine ⟨pv, γ, ρ1, G1, fp1, _, E0, m1, q1, fun l ρ2 G2 H2 fp2 q2 s2 m2 => ?_, px.on s1⟩
  have o2 := o1.frame s2
  refine ⟨pv, γ, ρ2, G2, fp2, _, E0, m2, q2, fun h ρ3 G3 H3 fp3 ⟨d, l3, q3⟩ s3 m3 => ?_, (px.on s1).on0 s2⟩
  have o3 := o2.frame s3
  obtain ⟨A, rA, _⟩ := look_ok m3 o3 l3
  have s13 : Stp G H (InF fp) G3 H3 (fun a => InF fp3 a ∨ a ∈ F1) := s1.trans ((s2.trans s3).mono (fun _ z => .inl z) fun a z => z.elim .inl fun z => .inr (.inr z))
  have fin : Fin X.K G3 H3 (fun z => Q0 (.t z) ρ3) Q := fun z w' G4 H4 Fz qz s4 hs4 rz => by
    obtain ⟨f1, f2, f3⟩ := fin_new m3 s13 (fun a z => .inl z) s4 hs4
    exact po (.t z) ρ3 w' G4 H4 fp3 Fz qz f1 f2 ⟨rz, f3⟩
  unfold qCut at q3
  split at q3
  · obtain ⟨a', vs, F', rfl, h1, h2⟩ := rA.list m3.sub
    exact .inl ⟨a', vs, rfl, .inl (.inl h1), fun p hp => fin.lst m3.sub (h2.cut l h q3.1) hp q3.2⟩
  · obtain ⟨a', vs, F', rfl, h1, h2⟩ := rA.lok m3.sub
    exact .inl ⟨a', vs, rfl, h1, fun p hp => fin.lst m3.sub (h2.cut l h q3.1) hp q3.2⟩
  · cases rA
    exact .inr ⟨_, rfl, size_of q3.1, fin.p m3.sub q3.2⟩
  · exact q3.elim
end
end DL
/-! DL11: built-ins by name. -/
namespace DL
open PySem L2

abbrev OpL := List D → (D → Prop) → Prop
def lenD? : D → Option Nat
  | .n _ .lst ch => some ch.length
  | .n _ .lok ch => some ch.length
  | .n _ .tup ch => some ch.length
  | .n _ .tok ch => some ch.length
  | .n _ (.dic ks) _ => some ks.length
  | .p (.str x) => if x.length ≤ 100000 then some x.length else none
  | _ => none
def qLen : OpL := fun ds Q => ∃ d n, ds = [d] ∧ lenD? d = some n ∧ Q (.int (n : Nat))
def qList : OpL := fun ds Q => ∃ d ch, ds = [d] ∧ itemsOf d = some ch ∧ isFzL ch = true ∧ Q (.own ch)
def qTuple : OpL := fun ds Q => ∃ d ch, ds = [d] ∧ listOf d = some ch ∧ isFzL ch = true ∧ Q (.tup ch)
def intsOf : List D → Option (List Int)
  | [] => some []
  | .p (.int i) :: r => match intsOf r with
    | some is => some (i :: is)
    | none => none
  | _ => none
theorem intsOf_of (is : List Int) : intsOf (is.map fun i => D.p (.int i)) = some is := by
  induction is with
  | nil => rfl
  | cons i r ih => simp only [List.map_cons, intsOf, ih]
def blsOf : List D → Option (List Bool)
  | [] => some []
  | .p (.bl i) :: r => match blsOf r with
    | some is => some (i :: is)
    | none => none
  | _ => none
theorem blsOf_map : ∀ {ds : List D} {is : List Bool}, blsOf ds = some is → ds = is.map fun i => D.p (.bl i)
  | [], is, h => by simp only [blsOf, Option.some.injEq] at h; subst h; rfl
  | .p (.bl i) :: r, is, h => by
    simp only [blsOf] at h
    split at h
    · rename_i is' e
      cases h
      rw [List.map_cons, blsOf_map e]
    · cases h
  | .p .non :: r, is, h => by simp [blsOf] at h
  | .p (.int _) :: r, is, h => by simp [blsOf] at h
  | .p (.str _) :: r, is, h => by simp [blsOf] at h
  | .p (.byt _) :: r, is, h => by simp [blsOf] at h
  | .p (.flt _) :: r, is, h => by simp [blsOf] at h
  | .p (.ref _) :: r, is, h => by simp [blsOf] at h
  | .p (.ty _) :: r, is, h => by simp [blsOf] at h
  | .n _ _ _ :: r, is, h => by simp [blsOf] at h
theorem blsOf_of (is : List Bool) : blsOf (is.map fun i => D.p (.bl i)) = some is := by
  induction is with
  | nil => rfl
  | cons i r ih => simp only [List.map_cons, blsOf, ih]
def qAll : OpL := fun ds Q => ∃ d ch bs, ds = [d] ∧ listOf d = some ch ∧ blsOf ch = some bs ∧ Q (.bl (bs.all id))
def qAny : OpL := fun ds Q => ∃ d ch bs, ds = [d] ∧ listOf d = some ch ∧ blsOf ch = some bs ∧ Q (.bl (bs.any id))
/-- sorted of ints -/
def qSortI : OpL := fun ds Q => ∃ d ch is, ds = [d] ∧ listOf d = some ch ∧ intsOf ch = some is ∧ is.length ≤ 10000 ∧ ∀ is' : List Int, is'.Perm is → is'.Pairwise (· ≤ ·) → Q (.own (is'.map fun i => .p (.int i)))
def tyN : D → String
  | .p .non => "NoneType"
  | .p (.bl _) => "bool"
  | .p (.int _) => "int"
  | .p (.str _) => "str"
  | .n _ .lst _ => "list"
  | .n _ .lok _ => "list"
  | .n _ .tup _ => "tuple"
  | .n _ .tok _ => "tuple"
  | .n _ (.dic _) _ => "dict"
  | .n _ (.dit _) _ => "dict"
  | _ => "?"
def isiB (a b : String) : Bool := a == b || (a == "bool" && b == "int")
def tyKnown (a : String) : Bool := a == "NoneType" || a == "bool" || a == "int" || a == "str" || a == "list" || a == "tuple" || a == "dict"
def qIsi : OpL := fun ds Q => ∃ d n, ds = [d, .p (.ty n)] ∧ (tyKnown (tyN d) = true ∧ tyKnown n = true ∧ n ≠ "NoneType") ∧ Q (.bl (isiB (tyN d) n))
def qMax2 : OpL := fun ds Q => ∃ i j, ds = [.p (.int i), .p (.int j)] ∧ Q (.int (if j > i then j else i))
def qMin2 : OpL := fun ds Q => ∃ i j, ds = [.p (.int i), .p (.int j)] ∧ Q (.int (if j < i then j else i))
def qInt : OpL := fun ds Q => (∃ i, ds = [.p (.int i)] ∧ Q (.int i)) ∨ ∃ b, ds = [.p (.bl b)] ∧ Q (.int (if b = true then 1 else 0))
section
variable {K : PySem.W.Frag} {X : Cx}
theorem rps1 {G H : Hp} {vs : List V} {d : D} (r : Rps K G H vs [d]) : ∃ v F, vs = [v] ∧ Rp K G H v d F := by
  cases r with
  | cons h t =>
    cases t
    obtain ⟨F, h⟩ := h
    exact ⟨_, F, rfl, h⟩
theorem rps2 {G H : Hp} {vs : List V} {d e : D} (r : Rps K G H vs [d, e]) : ∃ v w F F', vs = [v, w] ∧ Rp K G H v d F ∧ Rp K G H w e F' := by
  cases r with
  | cons h t =>
    obtain ⟨w, F', rfl, h2⟩ := rps1 t
    obtain ⟨F, h⟩ := h
    exact ⟨_, w, F, F', rfl, h, h2⟩
def rLenD (K : PySem.W.Frag) : List V → Hp → VK → Prop := fun xs H Q => (∃ x n, xs = [x] ∧ LenV K x H n ∧ Q (.int n) H) ∨ ∃ a kvs, xs = [.ref a] ∧ Rd H a (.dK kvs) ∧ Q (.int kvs.length) H
theorem call_lenRd {X : Cx} : CallR X (.builtin "len") (fun xs H Q => ∃ a kvs, xs = [V.ref a] ∧ Rd H a (.dK kvs) ∧ Q (.int kvs.length) H) := by
  intro pins s σ H xs us Q I r h
  obtain ⟨a, kvs, rfl, ha, q⟩ := h
  obtain ⟨u, rfl, ru⟩ := vals1 r
  cases ru
  exact d_len I ha fun t s' I' => ⟨.int kvs.length, H, I', ⟨t, rfl⟩, q⟩
theorem o_len : CallR X (.builtin "len") (rLenD X.K) := call_len.or call_lenRd
theorem s_len : SemL X.K (rLenD X.K) qLen := by
  rintro G H vs ds Q0 Q s rs ⟨d, n, rfl, e, q⟩ fin
  obtain ⟨v, F, rfl, r⟩ := rps1 rs
  cases d with
  | p x =>
    cases x with
    | str y =>
      cases r
      simp only [lenD?] at e
      split at e
      · rename_i h
        cases e
        exact .inl ⟨.str y, _, rfl, ⟨size_of h, rfl⟩, fin.p s q⟩
      · cases e
    | non => simp [lenD?] at e
    | bl _ => simp [lenD?] at e
    | int _ => simp [lenD?] at e
    | byt _ => simp [lenD?] at e
    | flt _ => simp [lenD?] at e
    | ref _ => simp [lenD?] at e
    | ty _ => simp [lenD?] at e
  | n o k ch =>
    cases k with
    | lst =>
      simp only [lenD?, Option.some.injEq] at e
      obtain ⟨a, vs, F', rfl, h1, h2⟩ := r.list s
      exact .inl ⟨_, n, rfl, .inl ⟨vs, .inl (.inl h1), by rw [← e]; exact h2.len.symm⟩, fin.p s q⟩
    | lok =>
      simp only [lenD?, Option.some.injEq] at e
      obtain ⟨a, vs, F', rfl, h1, h2⟩ := r.lok s
      exact .inl ⟨_, n, rfl, .inl ⟨vs, h1, by rw [← e]; exact h2.len.symm⟩, fin.p s q⟩
    | tup =>
      simp only [lenD?, Option.some.injEq] at e
      obtain ⟨a, vs, F', rfl, h1, h2⟩ := r.tupl s
      exact .inl ⟨_, n, rfl, .inr ⟨vs, tq h1, by rw [← e]; exact h2.len.symm⟩, fin.p s q⟩
    | tok =>
      simp only [lenD?, Option.some.injEq] at e
      obtain ⟨a, vs, F', rfl, h1, h2⟩ := r.tok s
      exact .inl ⟨_, n, rfl, .inr ⟨vs, h1, by rw [← e]; exact h2.len.symm⟩, fin.p s q⟩
    | dic ks =>
      simp only [lenD?, Option.some.injEq] at e
      have key : ∀ {a : Addr} {vs : List V}, ks.length = vs.length → Rd H a (.dK (ks.zip vs)) → rLenD X.K [.ref a] H Q := fun {a vs} h1 h2 => by
        refine .inr ⟨a, _, rfl, h2, ?_⟩
        rw [List.length_zip, ← h1, Nat.min_self, e]
        exact fin.p s q
      cases r with
      | f h1 h2 => exact key h1.1 (Rd.mono s h1.2)
      | o h0 h1 h3 h2 => exact key h1.1 (.inl h1.2)
    | dit ks => simp [lenD?] at e
    | obj _ _ => simp [lenD?] at e
    | exc _ _ => simp [lenD?] at e
def rListD' (K : PySem.W.Frag) : List V → Hp → VK → Prop := fun xs H Q => ∃ p ys, xs = [.ref p] ∧ (SqL K H p ys ∨ SqT K H p ys) ∧ ∀ l, H l = none → Q (.ref l) (L2.upd H l (.lst ys))
theorem s_list : SemL X.K (rListD' X.K) qList := by
  rintro G H vs ds Q0 Q s rs ⟨d, ch, rfl, e, hz, q⟩ fin
  obtain ⟨v, F, rfl, r⟩ := rps1 rs
  obtain ⟨a, vs, F', rfl, h1, h2⟩ := r.seq s e
  exact ⟨a, vs, rfl, h1, fun p hp => fin.lst s (h2.shared hz) hp q⟩
theorem s_all : SemL X.K (rAll X.K) qAll := by
  rintro G H vs ds Q0 Q s rs ⟨d, ch, bs, rfl, e, eb, q⟩ fin
  obtain ⟨v, F, rfl, r⟩ := rps1 rs
  obtain ⟨a, vs, F', rfl, h1, h2⟩ := r.listOf s e
  have e2 : ch = (bs.map V.bl).map D.p := by rw [blsOf_map eb, List.map_map]; rfl
  subst e2
  have := h2.prims
  subst this
  exact ⟨a, bs, rfl, h1, fin.p s q⟩
theorem tyx_of {G H : Hp} {v : V} {d : D} {F : List Addr} (s : Sub G H) (r : Rp X.K G H v d F) (hk : tyKnown (tyN d) = true) : TyX X.K H v (.type (tyN d)) := by
  have sl : ∀ {a : Addr} {vs : List V}, SqL X.K H a vs → TyX X.K H (.ref a) (.type "list") := fun h => by
    rcases h with (h | ⟨o, h⟩) | ⟨o, _, _, h, c, _⟩
    · exact .base (.lst h)
    · exact .base (.frz h)
    · exact .kList h c
  have st : ∀ {a : Addr} {vs : List V}, SqT X.K H a vs → TyX X.K H (.ref a) (.type "tuple") := fun h => by
    rcases h with (h | ⟨o, h⟩) | ⟨o, _, _, h, c, _⟩
    · exact .base (.tup h)
    · exact .fTuple h
    · exact .kTuple h c
  cases d with
  | p x =>
    cases x with
    | non => cases r; exact .base .non
    | bl b => cases r; exact .base (.bl b)
    | int i => cases r; exact .base (.int i)
    | str y => cases r; exact .base (.str y)
    | byt _ => simp [tyN, tyKnown] at hk
    | flt _ => simp [tyN, tyKnown] at hk
    | ref _ => simp [tyN, tyKnown] at hk
    | ty _ => simp [tyN, tyKnown] at hk
  | n o k ch =>
    cases k with
    | lst => obtain ⟨a, vs, F', rfl, h1, h2⟩ := r.list s; exact .base (.lst h1)
    | lok => obtain ⟨a, vs, F', rfl, h1, h2⟩ := r.lok s; exact sl h1
    | tup => obtain ⟨a, vs, F', rfl, h1, h2⟩ := r.tupl s; exact st (tq h1)
    | tok => obtain ⟨a, vs, F', rfl, h1, h2⟩ := r.tok s; exact st h1
    | dic ks =>
      cases r with
      | f h1 h2 => exact (Rd.mono s h1.2).elim (fun z => .base (.dK z)) fun ⟨_, z⟩ => .fDict z
      | o h0 h1 h3 h2 => exact .base (.dK h1.2)
    | dit ks =>
      cases r with
      | f h1 h2 => exact .base (.dT (s _ _ h1.2))
      | o h0 h1 h3 h2 => exact .base (.dT h1.2)
    | obj _ _ => simp [tyN, tyKnown] at hk
    | exc _ _ => simp [tyN, tyKnown] at hk
theorem kit_isi {a b : String} (ha : tyKnown a = true) (hb : tyKnown b = true) (hn : b ≠ "NoneType") : kitB a b = some (isiB a b) := by
  simp only [tyKnown, Bool.or_eq_true, beq_iff_eq] at ha hb
  rcases ha with (((((rfl | rfl) | rfl) | rfl) | rfl) | rfl) | rfl <;> rcases hb with (((((rfl | rfl) | rfl) | rfl) | rfl) | rfl) | rfl <;> first | exact absurd rfl hn | decide +kernel
theorem s_isi : SemL X.K (rIsi X.K) qIsi := by
  rintro G H vs ds Q0 Q s rs ⟨d, n, rfl, ⟨h1, h2, h3⟩, q⟩ fin
  obtain ⟨v, w, F, F', rfl, r1, r2⟩ := rps2 rs
  cases r2
  exact ⟨v, _, _, _, _, rfl, .ty n, tyx_of s r1 h1, kit_ty (kit_isi h1 h2 h3), fin.p s q⟩
theorem s_max2 : SemL X.K (fun xs H Q => ∃ i j, xs = [V.int i, V.int j] ∧ Q (.int (if j > i then j else i)) H) qMax2 := by
  rintro G H vs ds Q0 Q s rs ⟨i, j, rfl, q⟩ fin
  obtain ⟨v, w, F, F', rfl, r1, r2⟩ := rps2 rs
  cases r1; cases r2
  exact ⟨i, j, rfl, fin.p s q⟩
theorem s_min2 : SemL X.K (fun xs H Q => ∃ i j, xs = [V.int i, V.int j] ∧ Q (.int (if j < i then j else i)) H) qMin2 := by
  rintro G H vs ds Q0 Q s rs ⟨i, j, rfl, q⟩ fin
  obtain ⟨v, w, F, F', rfl, r1, r2⟩ := rps2 rs
  cases r1; cases r2
  exact ⟨i, j, rfl, fin.p s q⟩
end

/-! ### methods: x.append(e) and so on of what one slot holds -/
def tyM (d : D) : String := match d with
  | .p (.str _) => "str"
  | .n _ .lst _ => "list"
  | .n true (.dic _) _ => "dict"
  | .n _ (.dit _) _ => "dict"
  | _ => "?"
/-- what a method makes of a node alone held: its kind and parts behind, its value -/
abbrev OpM := Kd → List D → List D → (Kd → List D → D → Prop) → Prop
def SemM (K : PySem.W.Frag) (rr : V → List V → Hp → VK → Prop) (r : OpM) : Prop := ∀ G H a k vs ch F ws es Fw Q0 Q, Sub G H → G a = none → NdO K H a k vs → RpL K G H vs ch F → a ∉ F → RpL K G H ws es Fw → (∀ b ∈ Fw, b ∉ F ∧ b ≠ a) → r k ch es Q0 →
  (∀ k' ch' res vs' w o' F' Fr, Q0 k' ch' res → NdO K (L2.upd H a o') a k' vs' → RpL K G H vs' ch' F' → Rp K G H w res Fr → (∀ b ∈ F', b ∈ F ∨ b ∈ Fw) → (∀ b ∈ Fr, (b ∈ F ∨ b ∈ Fw) ∧ b ∉ F') → Q w (L2.upd H a o')) → rr (.ref a) ws H Q
/-- a slot's value anew -/
def Sl.re : Sl → D → Sl
  | .w _, d => .w d
  | _, d => .v d
/-- x.m(e, ..): x in slot i -/
def dMut (T : String) (i : Nat) (r : OpM) (t : DA) : DE := fun ρ Q E => (∃ s d, ρ[i]? = some s ∧ s.d? = some d ∧ tyM d = T ∧ (T = "list" ∨ T = "dict")) ∧ t ρ (fun rs ρ1 => ∃ es ρ2 s k ch, tkL ρ1 rs = some (es, ρ2) ∧ ρ2[i]? = some s ∧ s.d? = some (.n true k ch) ∧
  r k ch es fun k' ch' res => Q (.t res) ((killB i ρ2).set i (s.re (.n true k' ch')))) E
section
variable {K : PySem.W.Frag} {pv : Nat → V} {σ : St} {ρ : Env} {G H : Hp} {fp : Fps}
/-- the node in slot i is written -/
theorem Mt.mut {i : Nat} {s : Sl} {a : Addr} {k k' : Kd} {ch ch' : List D} {vs' : List V} {o' : HO} {F F' : List Addr} (m : Mt K pv σ ρ G H fp) (hi : ρ[i]? = some s) (hs : s.d? = some (.n true k ch)) (hσ : σ[i]? = some (some (.ref a))) (hfp : fp i = a :: F) (hF : a ∉ F)
    (hn : NdO K (L2.upd H a o') a k' vs') (r : RpL K G H vs' ch' F') (hd : ∀ b ∈ F', b ∈ F ∨ ¬ InF fp b) (hd' : ∀ b ∈ F', b ≠ a) :
    Mt K pv σ ((killB i ρ).set i (s.re (.n true k' ch'))) G (L2.upd H a o') (updF fp i (a :: F')) := by
  have hG : G a = none := (m.ft i a (by rw [hfp]; exact List.mem_cons_self ..)).1
  have hl : i < ρ.length := (List.getElem?_eq_some_iff.mp hi).1
  have hl' : i < (killB i ρ).length := by rw [killB_len]; exact hl
  have other : ∀ j, j ≠ i → ∀ b ∈ fp j, b ≠ a := fun j hj b hb z => m.ap j i hj b hb (by rw [hfp, z]; exact List.mem_cons_self ..)
  have gk : ∀ {j : Nat} {s0 s' : Sl}, j ≠ i → ((killB i ρ).set i s0)[j]? = some s' → s' ≠ .un → ρ[j]? = some s' ∧ ∀ q, s' ≠ .b i q := fun {j s0 s'} hj h hn => by
    rw [List.getElem?_set_ne (Ne.symm hj)] at h
    exact killB_of h hn
  have up : ∀ {x : V} {d : D} {F0 : List Addr}, Rp K G H x d F0 → (∀ b ∈ F0, b ≠ a) → Rp K G (L2.upd H a o') x d F0 := fun r h => r.mov (fun _ _ z => z) _ fun b hb o hg ho => ⟨hg, by rw [upd_ne (h b hb)]; exact ho⟩
  have upL : RpL K G (L2.upd H a o') vs' ch' F' := r.mov (fun _ _ z => z) _ fun b hb o hg ho => ⟨hg, by rw [upd_ne (hd' b hb)]; exact ho⟩
  have node : Rp K G (L2.upd H a o') (.ref a) (.n true k' ch') (a :: F') := Rp.o hG hn (fun z => hd' a z rfl) upL
  have dF : ∀ b ∈ F', ∀ j, j ≠ i → b ∉ fp j := fun b hb j hj z => by
    rcases hd b hb with y | y
    · exact m.ap i j (Ne.symm hj) b (by rw [hfp]; exact List.mem_cons_of_mem _ y) z
    · exact y ⟨j, z⟩
  refine ⟨fun b o z => ?_, by rw [List.length_set, killB_len]; exact m.len, fun j d' h => ?_, fun j d' h => ?_, fun j l q h => ?_, fun j l hjl b hb => ?_, fun j b hb => ?_⟩
  · by_cases e : b = a
    · rw [e, hG] at z; cases z
    · rw [upd_ne e]; exact m.sub b o z
  · by_cases hj : j = i
    · subst hj
      rw [List.getElem?_set_self hl'] at h
      cases s with
      | un => cases hs
      | b _ _ => cases hs
      | v _ => cases h; exact ⟨_, hσ, by rw [updF_same]; exact node⟩
      | w _ => cases h
    · obtain ⟨x, h1, h2⟩ := m.sl j d' (gk hj h (by intro z; cases z)).1
      exact ⟨x, h1, by rw [updF_ne hj]; exact up h2 (other j hj)⟩
  · by_cases hj : j = i
    · subst hj
      rw [List.getElem?_set_self hl'] at h
      cases s with
      | un => cases hs
      | b _ _ => cases hs
      | v _ => cases h
      | w d0 =>
        cases h
        have e := (m.pn j d0 hi).1
        rw [hσ] at e
        have e' : V.ref a = pv j := Option.some.inj (Option.some.inj e)
        exact ⟨by rw [← e']; exact hσ, by rw [updF_same, ← e']; exact node⟩
    · obtain ⟨h1, h2⟩ := m.pn j d' (gk hj h (by intro z; cases z)).1
      exact ⟨h1, by rw [updF_ne hj]; exact up h2 (other j hj)⟩
  · by_cases hj : j = i
    · subst hj
      rw [List.getElem?_set_self hl'] at h
      cases s with
      | un => cases hs
      | b _ _ => cases hs
      | v _ => cases h
      | w _ => cases h
    · obtain ⟨g1, g2⟩ := gk hj h (by intro z; cases z)
      obtain ⟨x, y, h1, h2, h3⟩ := m.br j l q g1
      have hk : l ≠ i := fun z => g2 q (by rw [z])
      refine ⟨x, y, h1, h2, ?_⟩
      rw [updF_ne hk]
      exact h3.mono (fun b o hb z => by rw [upd_ne (other l hk b hb)]; exact z) fun _ z => z
  · by_cases hj : j = i
    · subst hj
      rw [updF_same] at hb
      rw [updF_ne (Ne.symm hjl)]
      rcases List.mem_cons.mp hb with e | hb
      · subst e; exact fun z => other l (Ne.symm hjl) b z rfl
      · exact dF b hb l (Ne.symm hjl)
    · rw [updF_ne hj] at hb
      by_cases hk : l = i
      · subst hk
        rw [updF_same]
        intro z
        rcases List.mem_cons.mp z with e | z
        · exact other j hj b hb e
        · exact dF b z j hj hb
      · rw [updF_ne hk]; exact m.ap j l hjl b hb
  · by_cases hj : j = i
    · subst hj
      rw [updF_same] at hb
      exact Rp.foot _ node b hb
    · rw [updF_ne hj] at hb
      obtain ⟨h1, o, h2⟩ := m.ft j b hb
      exact ⟨h1, o, by rw [upd_ne (other j hj b hb)]; exact h2⟩
end

section
variable {X : Cx} {cn : String → Addr} {E : WX} {e : Expr} {t : DA} {i : Nat} {T : String}
theorem tyV_of {K : PySem.W.Frag} {G H : Hp} {v : V} {d : D} {F : List Addr} (s : Sub G H) (r : Rp K G H v d F) (h : tyM d = T) (h2 : T = "list" ∨ T = "dict") : tyV K T v H := by
  subst h
  cases d with
  | p x => cases x <;> simp [tyM] at h2
  | n o k ch =>
    cases k with
    | lst => obtain ⟨a, vs, F', rfl, h1, _⟩ := r.list s; exact .inl ⟨rfl, vs, .inl (.inl h1)⟩
    | lok => simp [tyM] at h2
    | tup => simp [tyM] at h2
    | tok => simp [tyM] at h2
    | dic ks =>
      cases r with
      | f h1 _ => simp [tyM] at h2
      | o h0 h1 _ _ => exact .inr (.inr (.inl ⟨rfl, .inl ⟨_, h1.2⟩⟩))
    | dit ks =>
      cases r with
      | f h1 _ => exact .inr (.inr (.inl ⟨rfl, .inr ⟨_, s _ _ h1.2⟩⟩))
      | o h0 h1 _ _ => exact .inr (.inr (.inl ⟨rfl, .inr ⟨_, h1.2⟩⟩))
    | obj _ _ => simp [tyM] at h2
    | exc _ _ => simp [tyM] at h2
theorem mut_go {K : PySem.W.Frag} {pv : Nat → V} {σ γ : St} {ρ1 : Env} {G H G1 H1 : Hp} {fp fp1 : Fps} {F1 : List Addr} {Q0 : Rv → Env → Prop} {Q : VK} {r : OpM} {rr : V → List V → Hp → VK → Prop} {rs : List Rv} {vs : List V} {x : V} (hs : SemM K rr r) (hx : (σ ++ γ)[i]? = some (some x))
    (po : PoE K pv σ γ G H fp Q0 Q) (s1 : Stp G H (InF fp) G1 H1 (fun a => InF fp1 a ∨ a ∈ F1)) (m1 : Mt K pv (σ ++ γ) ρ1 G1 H1 fp1) (o1 : RvsOk K (σ ++ γ) G1 H1 (InF fp1) vs rs F1)
    (q : ∃ es ρ2 s k ch, tkL ρ1 rs = some (es, ρ2) ∧ ρ2[i]? = some s ∧ s.d? = some (.n true k ch) ∧ r k ch es fun k' ch' res => Q0 (.t res) ((killB i ρ2).set i (s.re (.n true k' ch')))) : rr x vs H1 Q := by
  obtain ⟨es, ρ2, s, k, ch, e1, hi, hd, q⟩ := q
  obtain ⟨G2, fp2, s2, m2, r2, i2⟩ := tkL_ok m1 o1 (fun _ z => z) e1
  obtain ⟨x', h1, h2⟩ := m2.at hi hd
  rw [hx] at h1
  cases h1
  have dW : ∀ b ∈ F1, ¬ InF fp2 b := fun b hb z => RvsOk.foot o1 b hb (i2 b z)
  generalize hfp : fp2 i = Fi at h2
  cases h2 with
  | @o a _ ws _ F h0 n1 hF rl =>
    have hai : InF fp2 a := ⟨i, by rw [hfp]; exact List.mem_cons_self ..⟩
    have hFi : ∀ b ∈ F, InF fp2 b := fun b hb => ⟨i, by rw [hfp]; exact List.mem_cons_of_mem _ hb⟩
    refine hs G2 H1 a k ws ch F vs es F1 _ Q m2.sub h0 n1 rl hF r2 (fun b hb => ⟨fun z => dW b hb (hFi b z), fun z => dW b hb (by rw [z]; exact hai)⟩) q ?_
    intro k' ch' res vs' w o' F' Fr q' n' r' rr' d' dr
    have dF' : ∀ b ∈ F', b ≠ a := fun b hb z => by
      rcases d' b hb with y | y
      · exact hF (by rw [← z]; exact y)
      · exact dW b y (by rw [z]; exact hai)
    have m3 := m2.mut hi hd hx hfp hF n' r' (fun b hb => (d' b hb).imp_right fun y => dW b y) dF'
    have dr' : ∀ b ∈ Fr, b ≠ a := fun b hb z => by
      rcases (dr b hb).1 with y | y
      · exact hF (by rw [← z]; exact y)
      · exact dW b y (by rw [z]; exact hai)
    refine po (.t res) _ w G2 (L2.upd H1 a o') _ Fr q' ?_ m3 ⟨rr'.mov (fun _ _ z => z) _ fun b hb o hg ho => ⟨hg, by rw [upd_ne (dr' b hb)]; exact ho⟩, fun b hb z => ?_⟩
    · refine (s1.trans (s2.mono (P' := InF fp2) (Q' := fun a => InF fp2 a ∨ a ∈ F1) (fun _ z => .inl z) fun a z => z.elim .inl fun z => .inr (.inr z))).trans
        ⟨fun _ _ z => z, fun b o z n => by rw [upd_ne fun y => n (by rw [y]; exact .inl hai)]; exact z, fun _ _ _ z _ => z, fun b z => .inl ?_⟩
      rcases z with z | z
      · rcases InF.updF z with z | z
        · exact .inl z
        · rcases List.mem_cons.mp z with y | z
          · rw [y]; exact .inl hai
          · exact (d' b z).imp (hFi b) id
      · exact (dr b z).1.imp (hFi b) id
    · rcases dr b hb with ⟨y, ny⟩
      obtain ⟨j, hj⟩ := z
      by_cases e : j = i
      · subst e
        rw [updF_same] at hj
        rcases List.mem_cons.mp hj with u | u
        · exact dr' b hb u
        · exact ny u
      · rw [updF_ne e] at hj
        rcases y with y | y
        · exact m2.ap j i e b hj (by rw [hfp]; exact List.mem_cons_of_mem _ y)
        · exact dW b y ⟨j, hj⟩
theorem je_mut {r : OpM} {rr : V → List V → Hp → VK → Prop} (hs : SemM X.K rr r) (hi : i < X.N.length) (h : PE X e (tBM X.K T rr (tVar i) (liftA X.K cn E t))) : JE X cn E e (dMut T i r t) := by
  refine ⟨fun pins sh σ H Q I ⟨pv, γ, ρ, G, fp, Q0, E0, m, ⟨⟨s, d, e1, e2, e3, e4⟩, q⟩, po, px⟩ => ?_⟩
  obtain ⟨x, h1, h2⟩ := m.at e1 e2
  have hl : i < σ.length := by rw [I.len]; exact hi
  exact h.run pins sh σ H Q I ⟨x, get_left hl h1, tyV_of m.sub h2 e3 e4, pv, γ, ρ, G, fp, _, E0, m, q, fun rs ρ1 vs G1 H1 fp1 F1 q1 s1 m1 o1 => mut_go hs h1 po s1 m1 o1 q1, px⟩
def mAppend : OpM := fun k ch es Q => ∃ d, k = .lst ∧ es = [d] ∧ ch.length < 100000 ∧ Q .lst (ch ++ [d]) .non
theorem m_append : SemM X.K rAppend mAppend := by
  rintro G H a k vs ch F ws es Fw Q0 Q s hG n r ha rw dw ⟨d, rfl, rfl, hl, q⟩ fin
  cases rw with
  | @cons y ws' _ _ Fa Fb h1 h2 h3 =>
    have e1 : ws' = [] := by cases h2; rfl
    have e2 : Fb = [] := by cases h2; rfl
    subst e1 e2
    refine ⟨a, vs, y, rfl, rfl, n, by rw [r.len]; exact Nat.lt_of_lt_of_le hl (by decide), ?_⟩
    refine fin .lst (ch ++ [d]) .non (vs ++ [y]) .non (.lst (vs ++ [y])) (F ++ Fa) [] q upd_same (r.app (RpL.one h1) fun b hb hb' => (dw b (List.mem_append_left _ hb')).1 hb) (Rp.p _) (fun b hb => ?_) fun b hb => by cases hb
    rcases List.mem_append.mp hb with z | z
    · exact .inl z
    · exact .inr (List.mem_append_left _ z)
end
end DL
/-! DL12: dicts read; targets; more rules. -/
namespace DL
open PySem L2

def keyD : D → Option Key
  | .p (.int i) => some (.inl i)
  | .p (.str x) => some (.inr x)
  | _ => none
def keysD : List D → Option (List Key)
  | [] => some []
  | d :: ds => match keyD d, keysD ds with
    | some k, some ks => some (k :: ks)
    | _, _ => none
def lookK {κ : Type} [DecidableEq κ] : List κ → List D → κ → Option D
  | k :: ks, d :: ds, x => if k = x then some d else lookK ks ds x
  | _, _, _ => none
theorem keyD_rp {K : PySem.W.Frag} {G H : Hp} {v : V} {d : D} {F : List Addr} {k : Key} (r : Rp K G H v d F) (e : keyD d = some k) : v = kV k := by
  cases d with
  | p x =>
    cases r
    cases v <;> simp only [keyD] at e <;> first | (cases e; rfl) | cases e
  | n _ _ _ => simp [keyD] at e
theorem keysD_rp {K : PySem.W.Frag} {G H : Hp} : ∀ {vs : List V} {ds : List D} {F : List Addr} {ks : List Key}, RpL K G H vs ds F → keysD ds = some ks → vs = ks.map kV
  | _, [], _, ks, r, e => by
    simp only [keysD, Option.some.injEq] at e
    subst e
    cases r
    rfl
  | _, d :: ds, _, ks, r, e => by
    simp only [keysD] at e
    split at e
    · rename_i k ks' e1 e2
      cases e
      cases r with
      | cons h1 h2 h3 => rw [keyD_rp h1 e1, keysD_rp h2 e2]; rfl
    · cases e
theorem look_val {K : PySem.W.Frag} {G H : Hp} {κ : Type} [DecidableEq κ] {x : κ} : ∀ {ks : List κ} {vs : List V} {ds : List D} {F : List Addr}, ks.length = vs.length → RpL K G H vs ds F →
    match lookK ks ds x with
    | some d => ∃ y F', valV (ks.zip vs) x = some y ∧ Rp K G H y d F'
    | none => valV (ks.zip vs) x = none
  | [], vs, ds, F, hl, r => by
    have : vs = [] := List.eq_nil_of_length_eq_zero hl.symm
    subst this
    simp only [lookK]
    exact valV_nil
  | k :: ks, [], ds, F, hl, r => by simp at hl
  | k :: ks, v :: vs, ds, F, hl, r => by
    cases r with
    | cons h1 h2 h3 =>
      rw [List.zip_cons_cons]
      by_cases e : k = x
      · simp only [lookK, if_pos e]
        exact ⟨v, _, valV_pos (p := (k, v)) e, h1⟩
      · simp only [lookK, if_neg e]
        rw [valV_neg (p := (k, v)) e]
        exact look_val (by simpa using hl) h2
/-- what a dict holds at a key -/
def dictD : D → D → Option (Option D)
  | .n _ (.dic ks) ch, k => (keyD k).map (lookK ks ch)
  | .n _ (.dit ks) ch, .n _ .tup kc => (keysD kc).map (lookK ks ch)
  | _, _ => none
def OR (K : PySem.W.Frag) (G H : Hp) : Option V → Option D → Prop
  | some y, some c => ∃ F, Rp K G H y c F
  | none, none => True
  | _, _ => False
theorem look_or {K : PySem.W.Frag} {G H : Hp} {κ : Type} [DecidableEq κ] {x : κ} {ks : List κ} {vs : List V} {ds : List D} {F : List Addr} (hl : ks.length = vs.length) (r : RpL K G H vs ds F) : OR K G H (valV (ks.zip vs) x) (lookK ks ds x) := by
  have lv := look_val (x := x) hl r
  cases e : lookK ks ds x with
  | none => rw [e] at lv; simp only at lv; rw [lv]; trivial
  | some c =>
    rw [e] at lv
    obtain ⟨y, F', h1, h2⟩ := lv
    rw [h1]
    exact ⟨F', h2⟩
theorem dict_get {K : PySem.W.Frag} {G H : Hp} {v u : V} {d k : D} {F F' : List Addr} {o : Option D} (s : Sub G H) (r : Rp K G H v d F) (rk : Rp K G H u k F') (e : dictD d k = some o) : ∃ a o', v = .ref a ∧ DGet H a u o' ∧ OR K G H o' o := by
  cases d with
  | p x => simp [dictD] at e
  | n ow kd ch =>
    cases kd with
    | lst => simp [dictD] at e
    | lok => simp [dictD] at e
    | tup => simp [dictD] at e
    | tok => simp [dictD] at e
    | obj _ _ => simp [dictD] at e
    | exc _ _ => simp [dictD] at e
    | dic ks =>
      simp only [dictD, Option.map_eq_some_iff] at e
      obtain ⟨x, ex, rfl⟩ := e
      have := keyD_rp rk ex
      subst this
      cases r with
      | @f a _ vs _ F h1 h2 => exact ⟨a, _, rfl, .inl ⟨_, _, Rd.mono s h1.2, rfl, rfl⟩, look_or h1.1 h2⟩
      | @o a _ vs _ F h0 h1 h3 h2 => exact ⟨a, _, rfl, DGet.k h1.2, look_or h1.1 h2⟩
    | dit ks =>
      cases k with
      | p x => simp [dictD] at e
      | n ow' kd' kc =>
        cases kd' with
        | tup =>
          simp only [dictD, Option.map_eq_some_iff] at e
          obtain ⟨x, ex, rfl⟩ := e
          obtain ⟨b, ws, F2, rfl, h4, h5⟩ := rk.tupl s
          have := keysD_rp h5 ex
          subst this
          cases r with
          | @f a _ vs _ F h1 h2 => exact ⟨a, _, rfl, DGet.t (s _ _ h1.2) h4, look_or h1.1 h2⟩
          | @o a _ vs _ F h0 h1 h3 h2 => exact ⟨a, _, rfl, DGet.t h1.2 h4, look_or h1.1 h2⟩
        | lst => simp [dictD] at e
        | lok => simp [dictD] at e
        | tok => simp [dictD] at e
        | dic _ => simp [dictD] at e
        | dit _ => simp [dictD] at e
        | obj _ _ => simp [dictD] at e
        | exc _ _ => simp [dictD] at e

/-! ### x in y, of lists, tuples, dicts, texts -/
def qInS (neg : Bool) : Op2 := fun d e Q => match e with
  | .p (.str z) => ∃ c, d = .p (.str ⟨#[c]⟩) ∧ Q (.bl (if neg = true then !decide (c ∈ z.cps.toList) else decide (c ∈ z.cps.toList)))
  | .n _ (.dic _) _ => ∃ o, dictD e d = some o ∧ Q (.bl (if neg = true then !o.isSome else o.isSome))
  | .n _ (.dit _) _ => ∃ o, dictD e d = some o ∧ Q (.bl (if neg = true then !o.isSome else o.isSome))
  | _ => qIn neg d e Q
def rInS (K : PySem.W.Frag) (neg : Bool) : R2 := fun x y H Q => (rInP K neg x y H Q ∨ ∃ a o, y = .ref a ∧ DGet H a x o ∧ Q (.bl (if neg = true then !o.isSome else o.isSome)) H) ∨
  ∃ (c : Nat) (z : Str), x = .str ⟨#[c]⟩ ∧ y = .str z ∧ Q (.bl (if neg = true then !decide (c ∈ z.cps.toList) else decide (c ∈ z.cps.toList))) H
section
variable {X : Cx} {cn : String → Addr} {E : WX}
theorem o_din (hu : X.A.units + 1 < cLine) : OpR X (compareOp .In) (fun x y H Q => ∃ a o, y = .ref a ∧ DGet H a x o ∧ Q (.bl (if false = true then !o.isSome else o.isSome)) H) := by
  intro pins s σ H x y v u Q I rx ry ⟨a, o, e, g, q⟩
  subst e
  cases ry
  exact d_in hu I g rx fun s' I' => ⟨.bl o.isSome, H, I', rfl, q⟩
theorem o_dnin (hu : X.A.units + 1 < cLine) : OpR X (compareOp .NotIn) (fun x y H Q => ∃ a o, y = .ref a ∧ DGet H a x o ∧ Q (.bl (if true = true then !o.isSome else o.isSome)) H) := by
  intro pins s σ H x y v u Q I rx ry ⟨a, o, e, g, q⟩
  subst e
  cases ry
  exact d_notIn hu I g rx fun s' I' => ⟨.bl (!o.isSome), H, I', rfl, q⟩
theorem o_in (hu : X.A.units + 65 < cLine) : OpR X (compareOp .In) (rInS X.K false) := ((o_inP hu).or (o_din (by omega))).or op_in_sign
theorem o_nin (hu : X.A.units + 65 < cLine) : OpR X (compareOp .NotIn) (rInS X.K true) := ((o_ninP hu).or (o_dnin (by omega))).or op_notIn_sign
theorem or_some {K : PySem.W.Frag} {G H : Hp} {o : Option V} {o' : Option D} (h : OR K G H o o') : o.isSome = o'.isSome := by
  cases o <;> cases o' <;> first | rfl | cases h
theorem s_inS {K : PySem.W.Frag} {neg : Bool} : Sem2 K (rInS K neg) (qInS neg) := by
  intro G H v u d e F1 F2 Q0 Q s r1 r2 q fin
  unfold qInS at q
  split at q
  · obtain ⟨c, rfl, q⟩ := q
    cases r1; cases r2
    exact .inr ⟨c, _, rfl, rfl, fin.p s q⟩
  · obtain ⟨o, eo, q⟩ := q
    obtain ⟨a, o', rfl, g, h⟩ := dict_get s r2 r1 eo
    refine .inl (.inr ⟨a, o', rfl, g, ?_⟩)
    rw [or_some h]
    exact fin.p s q
  · obtain ⟨o, eo, q⟩ := q
    obtain ⟨a, o', rfl, g, h⟩ := dict_get s r2 r1 eo
    refine .inl (.inr ⟨a, o', rfl, g, ?_⟩)
    rw [or_some h]
    exact fin.p s q
  · exact .inl (.inl (s_in G H v u d e F1 F2 Q0 Q s r1 r2 q fin))

/-! ### x[i] -/
def qIxS : Op2 := fun d e Q => match d with
  | .n _ (.dic _) _ => ∃ c, dictD d e = some (some c) ∧ c.isFz = true ∧ Q c
  | .n _ (.dit _) _ => ∃ c, dictD d e = some (some c) ∧ c.isFz = true ∧ Q c
  | _ => qIx d e Q
def rIxS' (K : PySem.W.Frag) : R2 := fun x y H Q => rIx K x y H Q ∨ ∃ a v, x = .ref a ∧ DGet H a y (some v) ∧ Q v H
theorem ix_dict (hu : X.A.units + 1 < cLine) : IxR X (fun x y H Q => ∃ a v, x = .ref a ∧ DGet H a y (some v) ∧ Q v H) := by
  intro value slice pins s σ H x y v u Q I rx ry ⟨a, w, e, g, q⟩ hs
  subst e
  cases rx
  refine PyProof.Rows.tail_any (T := "dict") (dict_typeIs I g) slot_dict_getitem.lookup (d_getItem hu I g ry fun w' s' I' r' => ⟨w, H, I', r', q⟩) hs
theorem s_ixS {K : PySem.W.Frag} : Sem2 K (rIxS' K) qIxS := by
  intro G H v u d e F1 F2 Q0 Q s r1 r2 q fin
  unfold qIxS at q
  split at q
  · obtain ⟨c, eo, hz, q⟩ := q
    obtain ⟨a, o', rfl, g, h⟩ := dict_get s r1 r2 eo
    cases o' with
    | none => cases h
    | some y =>
      obtain ⟨F, h⟩ := h
      exact .inr ⟨a, y, rfl, g, fin.old s (h.shared hz) q⟩
  · obtain ⟨c, eo, hz, q⟩ := q
    obtain ⟨a, o', rfl, g, h⟩ := dict_get s r1 r2 eo
    cases o' with
    | none => cases h
    | some y =>
      obtain ⟨F, h⟩ := h
      exact .inr ⟨a, y, rfl, g, fin.old s (h.shared hz) q⟩
  · exact .inl (s_ix G H v u d e F1 F2 Q0 Q s r1 r2 q fin)
theorem je_ixS {a b : Expr} {ta tb : DE} {pos : Pos} (hu : X.A.units + 1 < cLine) (ha : JE X cn E a ta) (hb : JE X cn E b tb) (hs : PlainIx b) : JE X cn E (.Subscript a b pos) (dOp qIxS ta tb) :=
  pe_imp (pe_ix (ix_seq.or (ix_dict hu)) ha hb hs) (opE s_ixS)

/-! ### more rules -/
theorem jts_nil : PTs X [] (liftT X.K cn E dTrue) := ⟨fun pins s σ H Q I ⟨pv, γ, ρ, G, fp, Q0, E0, m, q, po, px⟩ => pts_nil.run pins s σ H Q I (po true ρ G H fp q (Stp.refl _ _ _) m)⟩
theorem jts_one {c : Expr} {t : DT} (h : JT X cn E c t) : PTs X [c] (liftT X.K cn E t) := pts_one h
def dAugI (i : Nat) (te : DE) : DS := fun D ρ => (∃ x, slD ρ i = some (.p (.int x))) ∧ te ρ (fun r ρ1 => ∃ x y ρ2, slD ρ1 i = some (.p (.int x)) ∧ look ρ1 r = some (.p (.int y)) ∧ stV ρ1 i (.p (.int (x + y))) = some ρ2 ∧ D.nx ρ2) D.ex
theorem js_augI {i : Nat} {st : Stmt} {te : DE} (hi : i < X.N.length) (h : PS X st (tAug i (liftE X.K cn E te) (ipI fun i j => i + j))) : JS X cn E st (dAugI i te) := ⟨fun pins sh σ H D I ⟨pv, γ, ρ, G, fp, D0, m, ⟨⟨x, e0⟩, q⟩, po⟩ => by
  have hl : i < σ.length := by rw [I.len]; exact hi
  obtain ⟨v, F0, h1, h2, _⟩ := sl_ok m e0
  refine h.run pins sh σ H D I ⟨v, get_left hl h1, pv, γ, ρ, G, fp, _, _, m, q, fun r ρ1 w G1 H1 fp1 F1 ⟨x', y, ρ2, e1, e2, e3, q1⟩ s1 m1 o1 => ?_, po.ex⟩
  obtain ⟨v', F0', h1', h2', _⟩ := sl_ok m1 e1
  rw [h1] at h1'
  cases h1'
  cases h2'
  have ew := look_p m1 o1 e2
  subst ew
  refine ⟨x', y, rfl, rfl, ?_⟩
  have m3 := m1.put e3 (Rp.p _) (F := []) (fun a z => by cases z)
  rw [set_app hl] at m3
  refine po.nx ρ2 _ G1 H1 _ q1 (s1.mono (fun _ z => z) fun a z => .inl (.inl ?_)) m3 (by rw [List.length_set])
  rcases InF.updF z with z | z
  · exact z
  · cases z⟩
theorem js_setLc {i : Nat} {st : Stmt} {ti : DI} {g : DG} {tt : DT} {te : DE} {vs : List Nat} (hi : i < X.N.length)
    (h : PS X st (tAsg (tLc (liftI X.K cn E ti) (liftG X.K vs g) (liftT X.K cn WF tt) (liftE X.K cn WF te) vs) (gName i))) : JS X cn E st (dAsg (dLc ti g tt te vs) (dName i)) :=
  js_set hi (ps_imp h fun D σ H q => lcE q)
theorem cx_no {P : Program} {w : World} {H : Hp} {s : Shared} {e : Value} {s' : Shared} (h : L2.CX P w [] H s (fun _ _ _ => False) e s') : False := by
  obtain ⟨_, _, _, _, _, _, _, _, _, _, _, _, z⟩ := h
  exact z
/-- text * number -/
def qMulS : Op2
  | .p (.int i), .p (.int j), Q => CMul i j ∧ Q (.int (i * j))
  | .p (.str x), .p (.int n), Q => (0 ≤ n ∧ (x.length : Int) * n ≤ 100000 ∧ n ≤ 100000) ∧ Q (.str ⟨(List.replicate n.toNat x.cps.toList).flatten.toArray⟩)
  | _, _, _ => False
def rMulS : R2 := fun x y H Q => rI CMul (fun i j => .int (i * j)) x y H Q ∨ ∃ z n, x = .str z ∧ y = .int n ∧ (0 ≤ n ∧ (z.length : Int) * n ≤ 100000 ∧ n ≤ 100000) ∧ Q (.str ⟨(List.replicate n.toNat z.cps.toList).flatten.toArray⟩) H
theorem s_mul {K : PySem.W.Frag} : Sem2 K rMulS qMulS := by
  intro G H v u d e F1 F2 Q0 Q s r1 r2 q fin
  unfold qMulS at q
  split at q
  · cases r1; cases r2; exact .inl ⟨_, _, rfl, rfl, q.1, fin.p s q.2⟩
  · cases r1; cases r2; exact .inr ⟨_, _, rfl, rfl, q.1, fin.p s q.2⟩
  · exact q.elim
end
end DL
/-! DL13: plain things and what stands for them; running a reading. -/
namespace DL
open PySem L2

/-! ### what stands for a plain thing -/
/-- the truth of p -/
noncomputable def dc (p : Prop) : Bool := @decide p (Classical.propDecidable p)
theorem dc_t {p : Prop} : dc p = true ↔ p := @decide_eq_true_iff p (Classical.propDecidable p)
theorem dc_f {p : Prop} : dc p = false ↔ ¬p := @decide_eq_false_iff_not p (Classical.propDecidable p)
theorem dc_d {p : Prop} [Decidable p] : dc p = decide p := by
  by_cases h : p
  · rw [dc_t.mpr h, decide_eq_true h]
  · rw [dc_f.mpr h, decide_eq_false h]
class Enc (α : Type) where
  en : α → D
  fz : ∀ x, (en x).isFz = true
  lay : ∀ x, (toPy (en x)).plain = true
  dep : Nat
  de : ∀ x, (toPy (en x)).depth ≤ dep
  eq : ∀ x y, eqD (en x) (en y) = true ↔ x = y
open Enc (en)
instance : Enc Int := ⟨fun i => .p (.int i), fun _ => rfl, fun _ => rfl, 0, fun _ => by simp [toPy, PyData.depth], fun x y => by simp [eqD, toPy, PyData.eqv]⟩
instance : Enc Str := ⟨fun i => .p (.str i), fun _ => rfl, fun _ => rfl, 0, fun _ => by simp [toPy, PyData.depth], fun x y => by simp [eqD, toPy, PyData.eqv]⟩
instance : Enc Bool := ⟨fun i => .p (.bl i), fun _ => rfl, fun _ => rfl, 0, fun _ => by simp [toPy, PyData.depth], fun x y => by simp [eqD, toPy, PyData.eqv]⟩
section
variable {α : Type} [Enc α]
theorem fzl_e : ∀ xs : List α, isFzL (xs.map en) = true
  | [] => rfl
  | x :: xs => by rw [List.map_cons, isFzL, Enc.fz, fzl_e xs]; rfl
theorem lay_e : ∀ xs : List α, PyData.plainAll (toPyL (xs.map en)) = true
  | [] => rfl
  | x :: xs => by rw [List.map_cons, toPyL, PyData.plainAll, Enc.lay, lay_e xs]; rfl
theorem dep_e : ∀ xs : List α, PyData.depthAll (toPyL (xs.map en)) ≤ Enc.dep α
  | [] => Nat.zero_le _
  | x :: xs => by
    rw [List.map_cons, toPyL, PyData.depthAll]
    have := dep_e xs
    have := Enc.de x
    omega
theorem eq_e : ∀ xs ys : List α, PyData.eqvAll (toPyL (xs.map en)) (toPyL (ys.map en)) = true ↔ xs = ys
  | [], [] => by simp [toPyL, PyData.eqvAll]
  | [], y :: ys => by simp [toPyL, PyData.eqvAll]
  | x :: xs, [] => by simp [toPyL, PyData.eqvAll]
  | x :: xs, y :: ys => by
    rw [List.map_cons, List.map_cons, toPyL, toPyL, PyData.eqvAll, Bool.and_eq_true, eq_e xs ys, List.cons.injEq]
    exact and_congr_left' (Enc.eq x y)
end
instance {α : Type} [i : Enc α] : Enc (List α) where
  en xs := .n false .lst (xs.map en)
  fz xs := by rw [D.isFz, fzl_e]; rfl
  lay xs := by rw [toPy, PyData.plain, lay_e]
  dep := Enc.dep α + 1
  de xs := by
    rw [toPy, PyData.depth]
    have := dep_e xs
    omega
  eq x y := by
    unfold eqD
    rw [toPy, toPy, PyData.eqv, eq_e, ]
instance {α β : Type} [i : Enc α] [j : Enc β] : Enc (α × β) where
  en x := .n false .tup [en x.1, en x.2]
  fz x := by simp [D.isFz, isFzL, Enc.fz]
  lay x := by simp [toPy, toPyL, PyData.plain, PyData.plainAll, Enc.lay]
  dep := max (Enc.dep α) (Enc.dep β) + 1
  de x := by
    have := Enc.de x.1
    have := Enc.de x.2
    simp only [toPy, toPyL, PyData.depth, PyData.depthAll]
    omega
  eq x y := by
    unfold eqD
    simp only [toPy, toPyL, PyData.eqv, PyData.eqvAll, Bool.and_true, Bool.and_eq_true]
    rw [Prod.ext_iff]
    exact and_congr (Enc.eq x.1 y.1) (Enc.eq x.2 y.2)
/-- a list that one slot alone holds -/
abbrev eo {α : Type} [Enc α] (xs : List α) : D := .n true .lst (xs.map en)
section
variable {α β : Type} [Enc α] [Enc β]
@[simp] theorem fz_e (x : α) : (en x).isFz = true := Enc.fz x
@[simp] theorem fz_eo (xs : List α) : (eo xs).isFz = false := by unfold eo; rw [D.isFz]; rfl
@[simp] theorem fr_e (x : α) : (en x).fz = en x := fz_of (Enc.fz x)
@[simp] theorem fr_eo (xs : List α) : (eo xs).fz = en xs := by
  unfold eo
  rw [D.fz, fzL_of (fzl_e xs)]
  rfl
theorem ok_of {x : α} (h : Enc.dep α ≤ 64) : okD (en x) = true := by
  unfold okD
  rw [Enc.lay, Bool.true_and]
  have := Enc.de x
  exact decide_eq_true (by omega)
theorem py_eo (xs : List α) : toPy (eo xs) = toPy (en xs) := by
  show toPy (.n true .lst _) = toPy (.n false .lst _)
  rw [toPy, toPy]
theorem ok_eo {xs : List α} (h : Enc.dep α + 1 ≤ 64) : okD (eo xs) = true := by
  unfold okD
  rw [py_eo]
  exact ok_of (α := List α) h
theorem eqD_e (x y : α) : eqD (en x) (en y) = dc (x = y) := by
  by_cases h : x = y
  · rw [dc_t.mpr h, (Enc.eq x y).mpr h]
  · rw [dc_f.mpr h]
    cases g : eqD (en x) (en y) with
    | false => rfl
    | true => exact absurd ((Enc.eq x y).mp g) h
@[simp] theorem items_e (xs : List α) : itemsOf (en xs) = some (xs.map en) := rfl
@[simp] theorem items_eo (xs : List α) : itemsOf (eo xs) = some (xs.map en) := rfl
@[simp] theorem list_e (xs : List α) : listOf (en xs) = some (xs.map en) := rfl
@[simp] theorem list_eo (xs : List α) : listOf (eo xs) = some (xs.map en) := rfl
end

theorem hu65_of {k : Nat} {A : Around} (r : Room k A) : A.units + 65 < cLine := by
  have := r.un
  omega

/-! ### running a reading: one lemma for each head -/
section
variable {n : Env → Prop} {rt : D → Env → Prop} {bk ct : Env → Prop} {ex : Exn → Env → Prop} {ρ ρ1 ρ2 : Env} {Q : Rv → Env → Prop} {QT : Bool → Env → Prop} {QA : List Rv → Env → Prop} {QI : List D → Env → Prop} {E : Exn → Env → Prop}
  {t u : DS} {te ta tb tc : DE} {tt tv : DT} {tA : DA} {ti : DI} {g : DG} {r : Op2} {d d' : D} {i j : Nat} {v : V} {x y : Rv} {xs : List Rv}
theorem w_seq (h : t ⟨fun ρ1 => u ⟨n, rt, bk, ct, ex⟩ ρ1, rt, bk, ct, ex⟩ ρ) : dSeq t u ⟨n, rt, bk, ct, ex⟩ ρ := h
theorem w_next (h : n ρ) : dNext ⟨n, rt, bk, ct, ex⟩ ρ := h
theorem w_break (h : bk ρ) : dBreak ⟨n, rt, bk, ct, ex⟩ ρ := h
theorem w_cont (h : ct ρ) : dCont ⟨n, rt, bk, ct, ex⟩ ρ := h
theorem w_drop (h : te ρ (fun _ ρ1 => n ρ1) ex) : dDrop te ⟨n, rt, bk, ct, ex⟩ ρ := h
def retK (r : Rv) (ρ : Env) (k : D → Env → Prop) : Prop := ∃ d ρ2, tk ρ r = some (d, ρ2) ∧ k d ρ2
theorem w_ret (h : te ρ (fun r ρ1 => retK r ρ1 rt) ex) : dRet te ⟨n, rt, bk, ct, ex⟩ ρ := h
theorem w_retT {k : D → Env → Prop} (h : k d ρ) : retK (.t d) ρ k := ⟨d, ρ, rfl, h⟩
theorem w_retS {k : D → Env → Prop} (h0 : slD ρ i = some d) (hz : d.isFz = true) (h : k d ρ) : retK (.s i) ρ k := ⟨d, ρ, by simp only [tk, h0, hz, if_true], h⟩
theorem w_retN (h : rt (.p .non) ρ) : dRetN ⟨n, rt, bk, ct, ex⟩ ρ := h
theorem w_ifS (h : tt ρ (fun b ρ1 => if b = true then t ⟨n, rt, bk, ct, ex⟩ ρ1 else u ⟨n, rt, bk, ct, ex⟩ ρ1) ex) : dIfS tt t u ⟨n, rt, bk, ct, ex⟩ ρ := h
theorem w_asg (h : te ρ (fun r ρ1 => g r ρ1 n) ex) : dAsg te g ⟨n, rt, bk, ct, ex⟩ ρ := h
theorem w_nameT {k : Env → Prop} (h1 : stV ρ i d = some ρ2) (h : k ρ2) : dName i (.t d) ρ k := ⟨d, ρ, ρ2, rfl, h1, h⟩
theorem w_nameS {k : Env → Prop} (h0 : slD ρ j = some d) (hz : d.isFz = true) (h1 : stV ρ i d = some ρ2) (h : k ρ2) : dName i (.s j) ρ k := ⟨d, ρ, ρ2, by simp only [tk, h0, hz, if_true], h1, h⟩
theorem w_for (h : ti ρ (fun items ρ1 => dLoop g t ⟨n, rt, bk, ct, ex⟩ items ρ1) ex) : dFor ti g t ⟨n, rt, bk, ct, ex⟩ ρ := h
theorem w_ifT {p q : Prop} (h : p) : if true = true then p else q := by rw [if_pos rfl]; exact h
theorem w_ifF {p q : Prop} (h : q) : if false = true then p else q := by rw [if_neg (by decide)]; exact h
theorem w_if {b : Bool} {p q : Prop} (h1 : b = true → p) (h2 : b = false → q) : if b = true then p else q := by
  cases b
  · exact w_ifF (h2 rfl)
  · exact w_ifT (h1 rfl)
theorem w_if_f {b : Bool} {p q : Prop} (e : b = false) (h : q) : if b = true then p else q := by subst e; exact w_ifF h
theorem w_if_t {b : Bool} {p q : Prop} (e : b = true) (h : p) : if b = true then p else q := by subst e; exact w_ifT h
theorem w_var (h0 : slD ρ i = some d) (h : Q (.s i) ρ) : dVar i ρ Q E := ⟨by rw [h0]; rfl, h⟩
theorem w_c (h : Q (.t (.p v)) ρ) : dC v ρ Q E := h
theorem w_mv (h0 : ρ[i]? = some (.v d)) (h1 : (killB i ρ).set i .un = ρ2) (h : Q (.t d) ρ2) : dMv i ρ Q E := ⟨d, h0, by rw [h1]; exact h⟩
def opK (r : Op2) (x y : Rv) (ρ : Env) (k : D → Prop) : Prop := ∃ d e, look ρ x = some d ∧ look ρ y = some e ∧ r d e k
theorem w_op (h : ta ρ (fun x ρ1 => tb ρ1 (fun y ρ2 => opK r x y ρ2 fun z => Q (.t z) ρ2) E) E) : dOp r ta tb ρ Q E := h
theorem w_opK {k : D → Prop} (h1 : look ρ x = some d) (h2 : look ρ y = some d') (h : r d d' k) : opK r x y ρ k := ⟨d, d', h1, h2, h⟩
def unK (r : D → (D → Prop) → Prop) (x : Rv) (ρ : Env) (k : D → Prop) : Prop := ∃ d, look ρ x = some d ∧ r d k
theorem w_un {r : D → (D → Prop) → Prop} (h : ta ρ (fun x ρ1 => unK r x ρ1 fun z => Q (.t z) ρ1) E) : dUn r ta ρ Q E := h
theorem w_unK {r : D → (D → Prop) → Prop} {k : D → Prop} (h1 : look ρ x = some d) (h : r d k) : unK r x ρ k := ⟨d, h1, h⟩
def blK (x : Rv) (ρ : Env) (k : Bool → Prop) : Prop := ∃ b, look ρ x = some (.p (.bl b)) ∧ k b
theorem w_blK {k : Bool → Prop} {b : Bool} (h1 : look ρ x = some (.p (.bl b))) (h : k b) : blK x ρ k := ⟨b, h1, h⟩
theorem w_tst (h : ta ρ (fun x ρ1 => blK x ρ1 fun b => QT b ρ1) E) : dTst ta ρ QT E := h
theorem w_and (h : tt ρ (fun b ρ1 => if b = true then tv ρ1 QT E else QT false ρ1) E) : dAnd tt tv ρ QT E := h
theorem w_or (h : tt ρ (fun b ρ1 => if b = true then QT true ρ1 else tv ρ1 QT E) E) : dOr tt tv ρ QT E := h
theorem w_not (h : tt ρ (fun b ρ1 => QT (!b) ρ1) E) : dNot tt ρ QT E := h
theorem w_andV (h : ta ρ (fun x ρ1 => blK x ρ1 fun b => if b = true then tb ρ1 Q E else Q (.t (.p (.bl false))) ρ1) E) : dAndV ta tb ρ Q E := h
theorem w_orV (h : ta ρ (fun x ρ1 => blK x ρ1 fun b => if b = true then Q (.t (.p (.bl true))) ρ1 else tb ρ1 Q E) E) : dOrV ta tb ρ Q E := h
theorem w_notV (h : ta ρ (fun x ρ1 => blK x ρ1 fun b => Q (.t (.p (.bl (!b)))) ρ1) E) : dNotV ta ρ Q E := h
theorem w_ifE (h : tt ρ (fun b ρ1 => if b = true then ta ρ1 Q E else tb ρ1 Q E) E) : dIf tt ta tb ρ Q E := h
theorem w_nil (h : QA [] ρ) : dNil ρ QA E := h
theorem w_cons (h : ta ρ (fun x ρ1 => tA ρ1 (fun xs ρ2 => QA (x :: xs) ρ2) E) E) : dCons ta tA ρ QA E := h
def cbK (r : OpL) (xs : List Rv) (ρ : Env) (k : D → Prop) : Prop := ∃ ds, lookL ρ xs = some ds ∧ r ds k
theorem w_cb {r : OpL} (h : tA ρ (fun rs ρ1 => cbK r rs ρ1 fun z => Q (.t z) ρ1) E) : dCB r tA ρ Q E := h
theorem w_cbK {r : OpL} {k : D → Prop} {ds : List D} (h1 : lookL ρ xs = some ds) (h : r ds k) : cbK r xs ρ k := ⟨ds, h1, h⟩
def mkK (xs : List Rv) (ρ : Env) (k : List D → Env → Prop) : Prop := ∃ ds ρ2, tkL ρ xs = some (ds, ρ2) ∧ ds.length ≤ 100000 ∧ k ds ρ2
theorem w_lst (h : tA ρ (fun rs ρ1 => mkK rs ρ1 fun ds ρ2 => Q (.t (.n true .lst ds)) ρ2) E) : dLst tA ρ Q E := h
theorem w_tup (h : tA ρ (fun rs ρ1 => mkK rs ρ1 fun ds ρ2 => Q (.t (.n false .tup ds)) ρ2) E) : dTup tA ρ Q E := h
theorem w_mkK {k : List D → Env → Prop} {ds : List D} (h1 : tkL ρ xs = some (ds, ρ2)) (h2 : ds.length ≤ 100000) (h : k ds ρ2) : mkK xs ρ k := ⟨ds, ρ2, h1, h2, h⟩
def itK (x : Rv) (ρ : Env) (k : List D → Env → Prop) : Prop := ∃ d ρ2 ch, tkF ρ x = some (d, ρ2) ∧ itemsOf d = some ch ∧ k ch ρ2
theorem w_iseq (h : ta ρ (fun r ρ1 => itK r ρ1 QI) E) : dISeq ta ρ QI E := h
theorem w_itK {k : List D → Env → Prop} {ch : List D} (h1 : tkF ρ x = some (d, ρ2)) (h2 : itemsOf d = some ch) (h : k ch ρ2) : itK x ρ k := ⟨d, ρ2, ch, h1, h2, h⟩
def lcK (ρ : Env) (vs : List Nat) (k : Env → Prop) : Prop := (vs.all fun i => decide (i < ρ.length)) = true ∧ k (wipeD ρ vs)
theorem w_lc {vs : List Nat} (h : ti ρ (fun items ρ1 => lcK ρ1 vs (fun ρ' => dLcL g tt te vs (fun ds ρ2 => Q (.t (.n true .lst ds)) ρ2) items ρ' [])) E) : dLc ti g tt te vs ρ Q E := h
theorem w_lcK {vs : List Nat} {k : Env → Prop} (h1 : (vs.all fun i => decide (i < ρ.length)) = true) (h2 : wipeD ρ vs = ρ2) (h : k ρ2) : lcK ρ vs k := ⟨h1, by rw [h2]; exact h⟩
theorem w_true (h : QT true ρ) : dTrue ρ QT E := h
def caK (ms : List Bool) (xs : List Rv) (ρ : Env) (k : List D → Env → Prop) : Prop := ∃ ds ρ2, argL ms ρ xs = some (ds, ρ2) ∧ k ds ρ2
def baK (ρ0 : Env) (ms : List Bool) (ρ : Env) (xs : List Rv) (ds : List D) (k : Env → Prop) : Prop := ∃ ρ3, backL ρ0 ms ρ xs ds = some ρ3 ∧ k ρ3
theorem w_call {ms : List Bool} {s : SpD} (h : tA ρ (fun rs ρ1 => caK ms rs ρ1 fun ds ρ2 => s ds (fun res ds' => baK ρ1 ms ρ2 rs ds' fun ρ3 => Q (.t res) ρ3) (fun x ds' => baK ρ1 ms ρ2 rs ds' fun ρ3 => E x ρ3)) E) : dCall ms s tA ρ Q E := h
theorem w_caK {ms : List Bool} {k : List D → Env → Prop} {ds : List D} (h1 : argL ms ρ xs = some (ds, ρ2)) (h : k ds ρ2) : caK ms xs ρ k := ⟨ds, ρ2, h1, h⟩
theorem w_baK {ms : List Bool} {k : Env → Prop} {ds : List D} (h1 : backL ρ ms ρ1 xs ds = some ρ2) (h : k ρ2) : baK ρ ms ρ1 xs ds k := ⟨ρ2, h1, h⟩
def lcA (r : Rv) (ρ : Env) (vs : List Nat) (acc : List D) (k : Env → List D → Prop) : Prop := ∃ d' ρ4, tk ρ r = some (d', ρ4) ∧ acc.length < 100000 ∧ k (wipeD ρ4 vs) (acc ++ [d'])
theorem w_lcT {vs : List Nat} {acc : List D} {k : Env → List D → Prop} (hl : acc.length < 100000) (hw : wipeD ρ vs = ρ2) (h : k ρ2 (acc ++ [d])) : lcA (.t d) ρ vs acc k := ⟨d, ρ, rfl, hl, by rw [hw]; exact h⟩
theorem w_lcS {vs : List Nat} {acc : List D} {k : Env → List D → Prop} (h0 : slD ρ i = some d) (hz : d.isFz = true) (hl : acc.length < 100000) (hw : wipeD ρ vs = ρ2) (h : k ρ2 (acc ++ [d])) : lcA (.s i) ρ vs acc k := ⟨d, ρ, by simp only [tk, h0, hz, if_true], hl, by rw [hw]; exact h⟩
/-- a comprehension: for each, whether it is kept and what becomes of it -/
theorem lc_run {α : Type} {vs : List Nat} {f : α → D} {p : α → Bool} {w : α → D} {K : List D → Env → Prop} : ∀ {xs : List α} {acc : List D},
    (∀ a ∈ xs, ∀ (acc : List D) (k k' : Env → List D → Prop), acc.length < 100000 → (p a = true → k ρ (acc ++ [w a])) → (p a = false → k' ρ acc) →
      g (.t (f a)) ρ fun ρ1 => tt ρ1 (fun b ρ2 => if b = true then te ρ2 (fun r ρ3 => lcA r ρ3 vs acc k) (fun _ _ => False) else k' (wipeD ρ2 vs) acc) (fun _ _ => False)) →
    xs.length + acc.length ≤ 100000 → K (acc ++ (xs.filter p).map w) ρ → dLcL g tt te vs K (xs.map f) ρ acc
  | [], acc, _, _, h => by
    rw [List.filter_nil, List.map_nil, List.append_nil] at h
    exact h
  | a :: xs, acc, st, hl, h => by
    rw [List.length_cons] at hl
    rw [List.map_cons, dLcL]
    refine st a (List.mem_cons_self ..) acc _ (fun ρ' acc' => dLcL g tt te vs K (xs.map f) ρ' acc') (by omega) (fun hp => ?_) fun hp => ?_
    · refine lc_run (fun b hb => st b (List.mem_cons_of_mem _ hb)) (by rw [List.length_append, List.length_singleton]; omega) ?_
      rw [List.filter_cons_of_pos hp, List.map_cons] at h
      rw [List.append_assoc]
      exact h
    · refine lc_run (fun b hb => st b (List.mem_cons_of_mem _ hb)) (by omega) ?_
      rw [List.filter_cons_of_neg (by rw [hp]; decide)] at h
      exact h
/-- .. where all are kept -/
theorem lc_all {α : Type} {vs : List Nat} {f : α → D} {w : α → D} {K : List D → Env → Prop} {xs : List α}
    (st : ∀ a ∈ xs, ∀ (acc : List D) (k k' : Env → List D → Prop), acc.length < 100000 → k ρ (acc ++ [w a]) →
      g (.t (f a)) ρ fun ρ1 => tt ρ1 (fun b ρ2 => if b = true then te ρ2 (fun r ρ3 => lcA r ρ3 vs acc k) (fun _ _ => False) else k' (wipeD ρ2 vs) acc) (fun _ _ => False))
    (hl : xs.length ≤ 100000) (h : K (xs.map w) ρ) : dLcL g tt te vs K (xs.map f) ρ [] :=
  lc_run (p := fun _ => true) (fun a ha acc k k' hl h1 h2 => st a ha acc k k' hl (h1 rfl)) (by simpa using hl) (by
    have : xs.filter (fun _ => true) = xs := List.filter_eq_self.mpr fun _ _ => rfl
    rw [this]
    exact h)
end

/-! ### operators -/
section
variable {k : D → Prop} {i j : Int} {a b : Str}
theorem w_addI (h : k (.int (i + j))) : qAdd (.p (.int i)) (.p (.int j)) k := h
theorem w_addS (h0 : a.length + b.length ≤ 100000) (h : k (.str (a ++ b))) : qAdd (.p (.str a)) (.p (.str b)) k := ⟨h0, h⟩
theorem w_subI (h : k (.int (i - j))) : qSub (.p (.int i)) (.p (.int j)) k := ⟨trivial, h⟩
theorem w_mod (h0 : 0 < j) (h : k (.int (i % j))) : qMod (.p (.int i)) (.p (.int j)) k := ⟨h0, h⟩
theorem w_div (h0 : 0 < j ∧ j < 2 ^ 128) (h : k (.int (i / j))) : qDiv (.p (.int i)) (.p (.int j)) k := ⟨h0, h⟩
theorem w_neg (h : k (.int (-i))) : qNeg (.p (.int i)) k := h
theorem w_ltI (h : k (.bl (decide (i < j)))) : qLt (.p (.int i)) (.p (.int j)) k := h
theorem w_leI (h : k (.bl (decide (i ≤ j)))) : qLe (.p (.int i)) (.p (.int j)) k := h
theorem w_gtI (h : k (.bl (decide (j < i)))) : qGt (.p (.int i)) (.p (.int j)) k := h
theorem w_geI (h : k (.bl (decide (j ≤ i)))) : qGe (.p (.int i)) (.p (.int j)) k := h
end
/-! ### the run -/
section
variable {i j : Nat} {d : D} {q : List Nat} {r : Env} {s s' : Sl}
theorem kb_nil : killB i [] = [] := rfl
theorem kb_un : killB i (.un :: r) = .un :: killB i r := rfl
theorem kb_v : killB i (.v d :: r) = .v d :: killB i r := rfl
theorem kb_w : killB i (.w d :: r) = .w d :: killB i r := rfl
theorem kb_b : killB i (.b j q :: r) = (if j = i then Sl.un else .b j q) :: killB i r := rfl
theorem se0 : (s :: r).set 0 s' = s' :: r := rfl
theorem seS : (s :: r).set (i + 1) s' = s :: r.set i s' := rfl
theorem wi0 {ρ : Env} : wipeD ρ [] = ρ := rfl
theorem wiS {ρ : Env} {vs : List Nat} : wipeD ρ (i :: vs) = (killB i (wipeD ρ vs)).set i .un := rfl
end
def okV (ρ : Env) (i : Nat) : Bool := match ρ[i]? with
  | some (.w _) => false
  | some _ => true
  | none => false
theorem stV_v {ρ : Env} {i : Nat} {d : D} (h : okV ρ i = true) : stV ρ i d = some ((killB i ρ).set i (.v d)) := by
  unfold okV at h
  unfold stV
  generalize ρ[i]? = o at h ⊢
  cases o with
  | none => cases h
  | some s =>
    cases s with
    | un => rfl
    | v _ => rfl
    | w _ => cases h
    | b _ _ => rfl
section
variable {k : Env → Prop} {ρ ρ2 : Env} {i j : Nat} {d : D}
theorem w_nT (h0 : okV ρ i = true) (h1 : (killB i ρ).set i (.v d) = ρ2) (h : k ρ2) : dName i (.t d) ρ k := w_nameT (stV_v h0) (by rw [h1]; exact h)
theorem w_nS (hs : slD ρ j = some d) (hz : d.isFz = true) (h0 : okV ρ i = true) (h1 : (killB i ρ).set i (.v d) = ρ2) (h : k ρ2) : dName i (.s j) ρ k := w_nameS hs hz (stV_v h0) (by rw [h1]; exact h)
end
section
variable {k : D → Prop} {ds : List D} {d : D}
theorem w_sortI {ch : List D} {is : List Int} (h1 : listOf d = some ch) (h2 : intsOf ch = some is) (h3 : is.length ≤ 10000) (h : ∀ is' : List Int, is'.Perm is → is'.Pairwise (· ≤ ·) → k (eo is')) : qSortI [d] k := ⟨d, ch, is, rfl, h1, h2, h3, h⟩
theorem w_list {ch : List D} (h1 : itemsOf d = some ch) (h2 : isFzL ch = true) (h : k (.own ch)) : qList [d] k := ⟨d, ch, rfl, h1, h2, h⟩
theorem w_len {n : Nat} (h1 : lenD? d = some n) (h : k (.int (n : Nat))) : qLen [d] k := ⟨d, n, rfl, h1, h⟩
theorem w_all {ch : List D} {bs : List Bool} (h1 : listOf d = some ch) (h2 : blsOf ch = some bs) (h : k (.bl (bs.all id))) : qAll [d] k := ⟨d, ch, bs, rfl, h1, h2, h⟩
theorem w_any {ch : List D} {bs : List Bool} (h1 : listOf d = some ch) (h2 : blsOf ch = some bs) (h : k (.bl (bs.any id))) : qAny [d] k := ⟨d, ch, bs, rfl, h1, h2, h⟩
theorem w_isi {n : String} (h1 : (tyKnown (tyN d) && tyKnown n && n != "NoneType") = true) (h : k (.bl (isiB (tyN d) n))) : qIsi [d, .p (.ty n)] k := by
  simp only [Bool.and_eq_true, bne_iff_ne, ne_eq] at h1
  exact ⟨d, n, rfl, ⟨h1.1.1, h1.1.2, h1.2⟩, h⟩
theorem ints_e (is : List Int) : intsOf (is.map en) = some is := intsOf_of is
theorem bls_e (is : List Bool) : blsOf (is.map en) = some is := blsOf_of is
theorem ints_m {α : Type} (f : α → Int) (xs : List α) : intsOf (xs.map fun x => .p (.int (f x))) = some (xs.map f) := by
  have := intsOf_of (xs.map f)
  rwa [List.map_map] at this
theorem bls_m {α : Type} (f : α → Bool) (xs : List α) : blsOf (xs.map fun x => .p (.bl (f x))) = some (xs.map f) := by
  have := blsOf_of (xs.map f)
  rwa [List.map_map] at this
end

section
variable {ρ ρ1 ρ2 : Env} {Q : Rv → Env → Prop} {QO : Option Int → Env → Prop} {QI : List D → Env → Prop} {E : Exn → Env → Prop} {ta tb tc te : DE} {tA : DA} {r r' : Op2} {x y : Rv} {xs : List Rv} {d d' : D} {i : Nat} {v : V}
def chK (r r' : Op2) (x y : Rv) (ρ : Env) (tc : DE) (Q : Rv → Env → Prop) (E : Exn → Env → Prop) : Prop := ∃ d e, look ρ x = some d ∧ look ρ y = some e ∧ r d e fun z => ∃ b, z = .p (.bl b) ∧
  if b = true then tc ρ (fun y' ρ3 => opK r' y y' ρ3 fun z => Q (.t z) ρ3) E else Q (.t (.p (.bl false))) ρ
theorem w_chain (h : ta ρ (fun x ρ1 => tb ρ1 (fun y ρ2 => chK r r' x y ρ2 tc Q E) E) E) : dChain r r' ta tb tc ρ Q E := h
def isB (k : Bool → Prop) (z : D) : Prop := ∃ b, z = .p (.bl b) ∧ k b
theorem w_isB {k : Bool → Prop} {b : Bool} (h : k b) : isB k (.p (.bl b)) := ⟨b, rfl, h⟩
theorem w_chK (h1 : look ρ x = some d) (h2 : look ρ y = some d') (h : r d d' fun z => isB (fun b => if b = true then tc ρ (fun y' ρ3 => opK r' y y' ρ3 fun z => Q (.t z) ρ3) E else Q (.t (.p (.bl false))) ρ) z) : chK r r' x y ρ tc Q E := ⟨d, d', h1, h2, h⟩
def rg1K (xs : List Rv) (ρ : Env) (k : List D → Env → Prop) : Prop := ∃ j : Int, lookL ρ xs = some [.p (.int j)] ∧ (-(2 ^ 62) ≤ j ∧ j < 2 ^ 62) ∧ k (rngL 0 j.toNat) ρ
theorem w_rng1 (h : tA ρ (fun rs ρ1 => rg1K rs ρ1 QI) E) : dIRng1 tA ρ QI E := h
theorem w_rg1K {k : List D → Env → Prop} {j : Int} (h1 : lookL ρ xs = some [.p (.int j)]) (h2 : -(2 ^ 62) ≤ j ∧ j < 2 ^ 62) (h : k ((List.range j.toNat).map fun i => .p (.int (i : Nat))) ρ) : rg1K xs ρ k := ⟨j, h1, h2, by
  unfold rngL
  simpa only [Int.zero_add] using h⟩
def rg2K (xs : List Rv) (ρ : Env) (k : List D → Env → Prop) : Prop := ∃ i j : Int, lookL ρ xs = some [.p (.int i), .p (.int j)] ∧ (-(2 ^ 62) ≤ i ∧ i < 2 ^ 62 ∧ -(2 ^ 62) ≤ j ∧ j < 2 ^ 62) ∧ k (rngL i (j - i).toNat) ρ
theorem w_rng2 (h : tA ρ (fun rs ρ1 => rg2K rs ρ1 QI) E) : dIRng2 tA ρ QI E := h
theorem w_rg2K {k : List D → Env → Prop} {i j : Int} (h1 : lookL ρ xs = some [.p (.int i), .p (.int j)]) (h2 : -(2 ^ 62) ≤ i ∧ i < 2 ^ 62 ∧ -(2 ^ 62) ≤ j ∧ j < 2 ^ 62) (h : k ((List.range (j - i).toNat).map fun n => .p (.int (i + (n : Nat)))) ρ) : rg2K xs ρ k := ⟨i, j, h1, h2, h⟩
def mu2K (i : Nat) (m : OpM) (xs : List Rv) (ρ : Env) (k : D → Env → Prop) : Prop := ∃ es ρ2 s kd ch, tkL ρ xs = some (es, ρ2) ∧ ρ2[i]? = some s ∧ s.d? = some (.n true kd ch) ∧ m kd ch es fun k' ch' res => k res ((killB i ρ2).set i (s.re (.n true k' ch')))
theorem w_mut {T : String} {m : OpM} (h0 : ∃ s d, ρ[i]? = some s ∧ s.d? = some d ∧ tyM d = T ∧ (T = "list" ∨ T = "dict")) (h : tA ρ (fun rs ρ1 => mu2K i m rs ρ1 fun res ρ3 => Q (.t res) ρ3) E) : dMut T i m tA ρ Q E := ⟨h0, h⟩
/-- append -/
theorem w_appV {k : D → Env → Prop} {ch : List D} {e : D} (h1 : tkL ρ xs = some ([e], ρ2)) (h2 : ρ2[i]? = some (.v (.n true .lst ch))) (h3 : ch.length < 100000) (h4 : (killB i ρ2).set i (.v (.n true .lst (ch ++ [e]))) = ρ1) (h : k .non ρ1) : mu2K i mAppend xs ρ k :=
  ⟨[e], ρ2, _, .lst, ch, h1, h2, rfl, e, rfl, rfl, h3, by
    show k .non ((killB i ρ2).set i (.v (.n true .lst (ch ++ [e]))))
    rw [h4]
    exact h⟩
/-- .. of plain things -/
theorem w_appE {α : Type} {inst : Enc α} {k : D → Env → Prop} {ch : List α} {e : α} (h1 : tkL ρ xs = some ([en e], ρ2)) (h2 : ρ2[i]? = some (.v (eo ch))) (h3 : ch.length < 100000) (h4 : (killB i ρ2).set i (.v (eo (ch ++ [e]))) = ρ1) (h : k .non ρ1) : mu2K i mAppend xs ρ k :=
  w_appV (ch := ch.map en) h1 h2 (by rw [List.length_map]; exact h3) (by
    rw [← h4]
    unfold eo
    rw [List.map_append]
    rfl) h
def cutK (lo hi : Option Int) (x : Rv) (ρ : Env) (k : D → Prop) : Prop := ∃ d, look ρ x = some d ∧ qCut lo hi d k
theorem w_cut {tl th : DO} (h : te ρ (fun r ρ1 => tl ρ1 (fun lo ρ2 => th ρ2 (fun hi ρ3 => cutK lo hi r ρ3 fun z => Q (.t z) ρ3) E) E) E) : dCut te tl th ρ Q E := h
def ptK (x : Rv) (ρ : Env) (k : Option Int → Env → Prop) : Prop := ∃ i, look ρ x = some (.p (.int i)) ∧ k (some i) ρ
theorem w_part (h : te ρ (fun r ρ1 => ptK r ρ1 QO) E) : dPart te ρ QO E := h
theorem w_ptK {k : Option Int → Env → Prop} {j : Int} (h1 : look ρ x = some (.p (.int j))) (h : k (some j) ρ) : ptK x ρ k := ⟨j, h1, h⟩
theorem w_noPart (h : QO none ρ) : dNoPart ρ QO E := h
theorem cutD_map {α β : Type} (f : α → β) (xs : List α) (lo hi : Option Int) : cutD (xs.map f) lo hi = (cutD xs lo hi).map f := by
  unfold cutD
  rw [List.length_map, ← List.map_drop, ← List.map_take]
theorem w_cutE {α : Type} {inst : Enc α} {k : D → Prop} {ys : List α} {lo hi : Option Int} (h1 : look ρ x = some d) (h2 : listOf d = some (ys.map en)) (h : k (eo (cutD ys lo hi))) : cutK lo hi x ρ k := by
  refine ⟨d, h1, ?_⟩
  cases d with
  | p _ => simp [listOf] at h2
  | n o kd ch =>
    cases kd with
    | lst =>
      simp only [listOf, Option.some.injEq] at h2
      subst h2
      refine ⟨?_, ?_⟩
      · rw [cutD_map, fzl_e]
      · rw [cutD_map]; exact h
    | lok =>
      simp only [listOf, Option.some.injEq] at h2
      subst h2
      refine ⟨?_, ?_⟩
      · rw [cutD_map, fzl_e]
      · rw [cutD_map]; exact h
    | tup => simp [listOf] at h2
    | tok => simp [listOf] at h2
    | dic _ => simp [listOf] at h2
    | dit _ => simp [listOf] at h2
    | obj _ _ => simp [listOf] at h2
    | exc _ _ => simp [listOf] at h2
def kwK (xs : List Rv) (ρ : Env) (k : List D → Env → Prop) : Prop := ∃ ds ρ2, tkFL ρ xs = some (ds, ρ2) ∧ k ds ρ2
theorem w_callK {g : {α : Type} → List α → List α → List α} {s : SpD} {tk : DA} (h : tA ρ (fun rs ρ1 => kwK rs ρ1 fun ds ρ2 => tk ρ2 (fun zs ρ3 => kwK zs ρ3 fun es ρ4 => s (g ds es) (fun res _ => Q (.t res) ρ4) (fun x _ => E x ρ4)) E) E) : dCallK g s tA tk ρ Q E := h
theorem w_kwK {k : List D → Env → Prop} {ds : List D} (h1 : tkFL ρ xs = some (ds, ρ2)) (h : k ds ρ2) : kwK xs ρ k := ⟨ds, ρ2, h1, h⟩
/-- x[i] -/
theorem w_ixE {α : Type} {inst : Enc α} {k : D → Prop} {ys : List α} {a : α} {j : Int} (h1 : listOf d = some (ys.map en)) (h2 : atI ys j = some a) (h : k (en a)) : qIxS d (.p (.int j)) k := by
  have e : atI (ys.map (en : α → D)) j = some (en a) := by
    unfold atI at h2 ⊢
    rw [List.length_map]
    cases hj : ixN ys.length j with
    | none => rw [hj] at h2; cases h2
    | some m =>
      rw [hj] at h2
      simp only [Option.bind_some] at h2 ⊢
      rw [List.getElem?_map, h2]
      rfl
  cases d with
  | p _ => simp [listOf] at h1
  | n o kd ch =>
    cases kd with
    | lst =>
      simp only [listOf, Option.some.injEq] at h1
      subst h1
      exact ⟨_, e, Enc.fz a, h⟩
    | lok =>
      simp only [listOf, Option.some.injEq] at h1
      subst h1
      exact ⟨_, e, Enc.fz a, h⟩
    | tup => simp [listOf] at h1
    | tok => simp [listOf] at h1
    | dic _ => simp [listOf] at h1
    | dit _ => simp [listOf] at h1
    | obj _ _ => simp [listOf] at h1
    | exc _ _ => simp [listOf] at h1
theorem at_nat {α : Type} {ys : List α} {m : Nat} {j : Int} (h : j = (m : Nat)) (hl : m < ys.length) : atI ys j = some ys[m] := by
  subst h
  unfold atI ixN
  rw [if_pos (by omega), if_pos (by omega)]
  simp [hl]
end

section
variable {p q : Prop} {b : Bool}
theorem w_ifNT (h : q) : if (!true) = true then p else q := w_if_f rfl h
theorem w_ifNF (h : p) : if (!false) = true then p else q := w_if_t rfl h
end
theorem w_loopNil {g : DG} {t : DS} {n : Env → Prop} {rt : D → Env → Prop} {bk ct : Env → Prop} {ex : Exn → Env → Prop} {ρ : Env} (h : n ρ) : dLoop g t ⟨n, rt, bk, ct, ex⟩ [] ρ := h
theorem w_lcNil {g : DG} {tt : DT} {te : DE} {vs : List Nat} {K : List D → Env → Prop} {ρ : Env} {acc : List D} (h : K acc ρ) : dLcL g tt te vs K [] ρ acc := h

section
variable {α : Type} [Enc α] {ρ : Env} {k : List D → Env → Prop} {xs : List α} {i : Nat}
theorem w_itO (h : k (xs.map en) ρ) : itK (.t (eo xs)) ρ k := w_itK (d := en xs) (by simp only [tkF, tk, fr_eo]) rfl h
theorem w_itN (h : k (xs.map en) ρ) : itK (.t (en xs)) ρ k := w_itK (d := en xs) (by simp only [tkF, tk, fr_e]) rfl h
omit [Enc α] in
theorem w_itS {inst : Enc α} {d : D} {xs : List α} (h0 : slD ρ i = some d) (hd : d = en xs) (h : k (xs.map en) ρ) : itK (.s i) ρ k := w_itK (d := en xs) (by subst hd; simp only [tkF, tk, h0, fz_e, if_true, fr_e]) rfl h
end
def Fr (s : Sl) : Prop := s = .un ∨ ∃ d, s = .v d
theorem fr_un : Fr .un := .inl rfl
theorem fr_v (d : D) : Fr (.v d) := .inr ⟨d, rfl⟩

/-- a script's list -/
abbrev ek {α : Type} [Enc α] (xs : List α) : D := .n false .lok (xs.map en)
section
variable {α : Type} [Enc α]
theorem fz_ek (xs : List α) : (ek xs).isFz = true := by unfold ek; rw [D.isFz, fzl_e]; rfl
theorem fr_ek (xs : List α) : (ek xs).fz = ek xs := fz_of (fz_ek xs)
theorem py_ek (xs : List α) : toPy (ek xs) = toPy (en xs) := by
  show toPy (.n false .lok _) = toPy (.n false .lst _)
  rw [toPy, toPy]
omit [Enc α] in
theorem eqD_py {inst : Enc α} {a b : D} {x y : α} (h1 : toPy a = toPy (en x)) (h2 : toPy b = toPy (en y)) : eqD a b = dc (x = y) := by
  rw [← eqD_e]
  unfold eqD
  rw [h1, h2]
omit [Enc α] in
theorem w_eqP {inst : Enc α} {k : D → Prop} {a b : D} {x y : α} (h1 : toPy a = toPy (en x)) (h2 : toPy b = toPy (en y)) (hd : Enc.dep α ≤ 64) (h : k (.bl (dc (x = y)))) : qEq a b k := by
  have hx := ok_of (x := x) hd
  have hy := ok_of (x := y) hd
  refine ⟨⟨?_, ?_⟩, ?_⟩
  · unfold okD at hx ⊢; rw [h1]; exact hx
  · unfold okD at hy ⊢; rw [h2]; exact hy
  · rw [eqD_py h1 h2]; exact h
omit [Enc α] in
theorem w_neP {inst : Enc α} {k : D → Prop} {a b : D} {x y : α} (h1 : toPy a = toPy (en x)) (h2 : toPy b = toPy (en y)) (hd : Enc.dep α ≤ 64) (h : k (.bl (!dc (x = y)))) : qNe a b k := by
  have hx := ok_of (x := x) hd
  have hy := ok_of (x := y) hd
  refine ⟨⟨?_, ?_⟩, ?_⟩
  · unfold okD at hx ⊢; rw [h1]; exact hx
  · unfold okD at hy ⊢; rw [h2]; exact hy
  · rw [eqD_py h1 h2]; exact h
omit [Enc α] in
theorem py_nil {inst : Enc α} {o : Bool} : toPy (.n o .lst []) = toPy (en ([] : List α)) := rfl
omit [Enc α] in
theorem w_itK' {inst : Enc α} {ρ : Env} {i : Nat} {k : List D → Env → Prop} {xs : List α} (h0 : slD ρ i = some (ek xs)) (h : k (xs.map en) ρ) : itK (.s i) ρ k := w_itK (d := ek xs) (by simp only [tkF, tk, h0, fz_ek, if_true, fr_ek]) rfl h
omit [Enc α] in
theorem inD_e {inst : Enc α} (x : α) (ys : List α) : inD (en x) (ys.map en) = dc (x ∈ ys) := by
  unfold inD
  rw [List.any_map]
  induction ys with
  | nil => rw [dc_f.mpr (by simp)]; rfl
  | cons y ys ih =>
    rw [List.any_cons, ih, Function.comp, eqD_e]
    by_cases h : y = x
    · subst h
      rw [dc_t.mpr rfl, dc_t.mpr (List.mem_cons_self ..)]; rfl
    · rw [dc_f.mpr h, Bool.false_or]
      by_cases g : x ∈ ys
      · rw [dc_t.mpr g, dc_t.mpr (List.mem_cons_of_mem _ g)]
      · rw [dc_f.mpr g, dc_f.mpr fun z => (List.mem_cons.mp z).elim (fun z => h z.symm) g]
omit [Enc α] in
theorem w_inL {inst : Enc α} {k : D → Prop} {d : D} {x : α} {ys : List α} {neg : Bool} (h1 : listOf d = some (ys.map en)) (hd : Enc.dep α + 1 ≤ 64) (h : k (.bl (if neg = true then !dc (x ∈ ys) else dc (x ∈ ys)))) : qInS neg (en x) d k := by
  have hx := ok_of (x := x) (by omega)
  have hy := ok_of (α := List α) (x := ys) hd
  rw [← inD_e] at h
  cases d with
  | p _ => simp [listOf] at h1
  | n o kd ch =>
    have fin : (kd = .lst ∨ kd = .lok) → ch = ys.map en → qInS neg (en x) (.n o kd ch) k := by
      rintro hk rfl
      have hy' : okD (.n o kd (ys.map en)) = true := by
        rcases hk with rfl | rfl
        · unfold okD at hy ⊢
          have : toPy (.n o .lst (ys.map en)) = toPy (en ys) := by
            show toPy (.n o .lst _) = toPy (.n false .lst _)
            rw [toPy, toPy]
          rw [this]; exact hy
        · unfold okD at hy ⊢
          have : toPy (.n o .lok (ys.map en)) = toPy (en ys) := by
            show toPy (.n o .lok _) = toPy (.n false .lst _)
            rw [toPy, toPy]
          rw [this]; exact hy
      rcases hk with rfl | rfl
      · exact ⟨⟨rfl, hx, hy'⟩, h⟩
      · exact ⟨⟨rfl, hx, hy'⟩, h⟩
    cases kd with
    | lst => exact fin (.inl rfl) (by simpa [listOf] using h1)
    | lok => exact fin (.inr rfl) (by simpa [listOf] using h1)
    | tup => simp [listOf] at h1
    | tok => simp [listOf] at h1
    | dic _ => simp [listOf] at h1
    | dit _ => simp [listOf] at h1
    | obj _ _ => simp [listOf] at h1
    | exc _ _ => simp [listOf] at h1
end

section
variable {ρ ρ1 ρ2 : Env} {ms : List Bool} {rs : List Rv} {ds es : List D} {d d' : D} {i : Nat}
theorem ag_nil : argL [] ρ [] = some ([], ρ) := rfl
theorem ag_fS (h0 : slD ρ i = some d) (hz : d.isFz = true) (h : argL ms ρ rs = some (ds, ρ2)) : argL (false :: ms) ρ (.s i :: rs) = some (d :: ds, ρ2) := by
  simp only [argL, tkF, tk, h0, hz, if_true, fz_of hz, h]
theorem ag_fT (hz : d.fz = d') (h : argL ms ρ rs = some (ds, ρ2)) : argL (false :: ms) ρ (.t d :: rs) = some (d' :: ds, ρ2) := by
  simp only [argL, tkF, tk, hz, h]
theorem ag_tT (h : argL ms ρ rs = some (ds, ρ2)) : argL (true :: ms) ρ (.t d :: rs) = some (d :: ds, ρ2) := by
  simp only [argL, outV, h]
theorem ag_tV (h0 : ρ[i]? = some (.v d)) (h1 : (killB i ρ).set i .un = ρ1) (h : argL ms ρ1 rs = some (ds, ρ2)) : argL (true :: ms) ρ (.s i :: rs) = some (d :: ds, ρ2) := by
  simp only [argL, outV, h0, h1, h]
theorem ag_tW (h0 : ρ[i]? = some (.w d)) (h1 : (killB i ρ).set i .un = ρ1) (h : argL ms ρ1 rs = some (ds, ρ2)) : argL (true :: ms) ρ (.s i :: rs) = some (d :: ds, ρ2) := by
  simp only [argL, outV, h0, h1, h]
theorem ba_nil {ρ0 : Env} : backL ρ0 [] ρ [] [] = some ρ := rfl
theorem ba_f {ρ0 : Env} {r : Rv} (h : backL ρ0 ms ρ rs ds = some ρ2) : backL ρ0 (false :: ms) ρ (r :: rs) (d :: ds) = some ρ2 := h
theorem ba_tT {ρ0 : Env} (h : backL ρ0 ms ρ rs ds = some ρ2) : backL ρ0 (true :: ms) ρ (.t d' :: rs) (d :: ds) = some ρ2 := h
theorem ba_tV {ρ0 : Env} (h0 : (isUn ρ[i]? && noB [i] ρ) = true) (h1 : ρ0[i]? = some (.v d')) (h2 : ρ.set i (.v d) = ρ1) (h : backL ρ0 ms ρ1 rs ds = some ρ2) : backL ρ0 (true :: ms) ρ (.s i :: rs) (d :: ds) = some ρ2 := by
  simp only [backL, backV, h0, h1, if_true, h2, h]
theorem ba_tW {ρ0 : Env} (h0 : (isUn ρ[i]? && noB [i] ρ) = true) (h1 : ρ0[i]? = some (.w d')) (h2 : ρ.set i (.w d) = ρ1) (h : backL ρ0 ms ρ1 rs ds = some ρ2) : backL ρ0 (true :: ms) ρ (.s i :: rs) (d :: ds) = some ρ2 := by
  simp only [backL, backV, h0, h1, if_true, h2, h]
theorem tl_nil : tkL ρ [] = some ([], ρ) := rfl
theorem tl_S (h0 : slD ρ i = some d) (hz : d.isFz = true) (h : tkL ρ rs = some (ds, ρ2)) : tkL ρ (.s i :: rs) = some (d :: ds, ρ2) := by
  simp only [tkL, tk, h0, hz, if_true, h]
theorem tl_T (h : tkL ρ rs = some (ds, ρ2)) : tkL ρ (.t d :: rs) = some (d :: ds, ρ2) := by
  simp only [tkL, tk, h]
theorem tf_nil : tkFL ρ [] = some ([], ρ) := rfl
theorem tf_S (h0 : slD ρ i = some d) (hz : d.isFz = true) (h : tkFL ρ rs = some (ds, ρ2)) : tkFL ρ (.s i :: rs) = some (d :: ds, ρ2) := by
  simp only [tkFL, tkF, tk, h0, hz, if_true, fz_of hz, h]
theorem tf_T (hz : d.fz = d') (h : tkFL ρ rs = some (ds, ρ2)) : tkFL ρ (.t d :: rs) = some (d' :: ds, ρ2) := by
  simp only [tkFL, tkF, tk, hz, h]
/-- an own thing in a slot, shared from now on -/
theorem tl_O (h0 : ρ[i]? = some (.v d)) (hz : d.isFz = false) (hf : d.fz = d') (h1 : (killB i ρ).set i (.v d') = ρ1) (h : tkL ρ1 rs = some (ds, ρ2)) : tkL ρ (.s i :: rs) = some (d' :: ds, ρ2) := by
  have hs : slD ρ i = some d := by simp only [slD, h0]
  simp only [tkL, tk, hs, hz, h0, hf, h1, h, Bool.false_eq_true, if_false]
theorem tf_O (h0 : ρ[i]? = some (.v d)) (hz : d.isFz = false) (hf : d.fz = d') (h1 : (killB i ρ).set i (.v d') = ρ1) (h : tkFL ρ1 rs = some (ds, ρ2)) : tkFL ρ (.s i :: rs) = some (d' :: ds, ρ2) := by
  have hs : slD ρ i = some d := by simp only [slD, h0]
  have hd : d'.fz = d' := by rw [← hf]; exact fz_of (isFz_fz d)
  simp only [tkFL, tkF, tk, hs, hz, h0, hf, h1, h, Bool.false_eq_true, if_false, hd]
theorem ag_fO (h0 : ρ[i]? = some (.v d)) (hz : d.isFz = false) (hf : d.fz = d') (h1 : (killB i ρ).set i (.v d') = ρ1) (h : argL ms ρ1 rs = some (ds, ρ2)) : argL (false :: ms) ρ (.s i :: rs) = some (d' :: ds, ρ2) := by
  have hs : slD ρ i = some d := by simp only [slD, h0]
  have hd : d'.fz = d' := by rw [← hf]; exact fz_of (isFz_fz d)
  simp only [argL, tkF, tk, hs, hz, h0, hf, h1, h, Bool.false_eq_true, if_false, hd]
theorem w_itF {ch : List D} {k : List D → Env → Prop} (h0 : ρ[i]? = some (.v d)) (hz : d.isFz = false) (hf : d.fz = d') (h1 : (killB i ρ).set i (.v d') = ρ1) (h2 : itemsOf d' = some ch) (h : k ch ρ1) : itK (.s i) ρ k := by
  have hs : slD ρ i = some d := by simp only [slD, h0]
  have hd : d'.fz = d' := by rw [← hf]; exact fz_of (isFz_fz d)
  exact w_itK (d := d') (by simp only [tkF, tk, hs, hz, h0, hf, h1, Bool.false_eq_true, if_false, hd]) h2 h
theorem w_nO {k : Env → Prop} {j : Nat} (h0 : ρ[j]? = some (.v d)) (hz : d.isFz = false) (hf : d.fz = d') (h1 : (killB j ρ).set j (.v d') = ρ1) (hk : okV ρ1 i = true) (h2 : (killB i ρ1).set i (.v d') = ρ2) (h : k ρ2) : dName i (.s j) ρ k := by
  have hs : slD ρ j = some d := by simp only [slD, h0]
  refine ⟨d', ρ1, ρ2, by simp only [tk, hs, hz, h0, hf, h1, Bool.false_eq_true, if_false], ?_, h⟩
  rw [stV_v hk, h2]
theorem w_isiT {n : String} {k : D → Prop} (h1 : (tyKnown (tyN d) && tyKnown n && n != "NoneType") = true) (h2 : isiB (tyN d) n = true) (h : k (.bl true)) : qIsi [d, .p (.ty n)] k := w_isi h1 (by rw [h2]; exact h)
theorem w_isiF {n : String} {k : D → Prop} (h1 : (tyKnown (tyN d) && tyKnown n && n != "NoneType") = true) (h2 : isiB (tyN d) n = false) (h : k (.bl false)) : qIsi [d, .p (.ty n)] k := w_isi h1 (by rw [h2]; exact h)
end

section
variable {n : Env → Prop} {rt : D → Env → Prop} {bk ct : Env → Prop} {ex : Exn → Env → Prop} {ρ : Env} {t u : DS}
/-- a statement by itself -/
theorem w_cut1 (I : Env → Prop) (h : ∀ k : Env → Prop, (∀ ρ', I ρ' → k ρ') → t ⟨k, rt, bk, ct, ex⟩ ρ) (h2 : ∀ ρ', I ρ' → u ⟨n, rt, bk, ct, ex⟩ ρ') : dSeq t u ⟨n, rt, bk, ct, ex⟩ ρ := h _ h2
end
theorem at_in {α : Type} {ys : List α} {j : Int} (h0 : 0 ≤ j) (h1 : j < (ys.length : Nat)) : ∃ a, a ∈ ys ∧ atI ys j = some a := by
  have hl : j.toNat < ys.length := by omega
  exact ⟨ys[j.toNat], List.getElem_mem hl, at_nat (by omega) hl⟩
section
variable {ρ : Env} {te : DE} {tt : DT} {g : DG} {α β : Type}
theorem lc_enc [Enc β] {vs : List Nat} {F : α → D} (f : α → β) {K : List D → Env → Prop} {xs : List α}
    (st : ∀ a ∈ xs, ∀ (acc : List D) (k k' : Env → List D → Prop), acc.length < 100000 → k ρ (acc ++ [en (f a)]) →
      g (.t (F a)) ρ fun ρ1 => tt ρ1 (fun b ρ2 => if b = true then te ρ2 (fun r ρ3 => lcA r ρ3 vs acc k) (fun _ _ => False) else k' (wipeD ρ2 vs) acc) (fun _ _ => False))
    (hl : xs.length ≤ 100000) (h : K ((xs.map f).map en) ρ) : dLcL g tt te vs K (xs.map F) ρ [] :=
  lc_all (w := fun a => en (f a)) st hl (by rw [List.map_map] at h; exact h)
theorem lc_fil [Enc β] {vs : List Nat} {F : α → D} (p : α → Bool) (f : α → β) {K : List D → Env → Prop} {xs : List α}
    (st : ∀ a ∈ xs, ∀ (acc : List D) (k k' : Env → List D → Prop), acc.length < 100000 → (p a = true → k ρ (acc ++ [en (f a)])) → (p a = false → k' ρ acc) →
      g (.t (F a)) ρ fun ρ1 => tt ρ1 (fun b ρ2 => if b = true then te ρ2 (fun r ρ3 => lcA r ρ3 vs acc k) (fun _ _ => False) else k' (wipeD ρ2 vs) acc) (fun _ _ => False))
    (hl : xs.length ≤ 100000) (h : K (((xs.filter p).map f).map en) ρ) : dLcL g tt te vs K (xs.map F) ρ [] :=
  lc_run (w := fun a => en (f a)) st (by simpa using hl) (by rw [List.map_map] at h; exact h)
end
end DL
/-! DL14: raise, try, methods of texts, stores at an index. -/
namespace DL
open PySem L2
section
variable {X : Cx} {cn : String → Addr} {E : WX}
def dRaise (nm : String) : DS := fun D ρ => D.ex ⟨nm, none⟩ ρ
/-- try: tb except some class: ts; which of the errors of the body it takes -/
def dTry (ns : List (String × Bool)) (tb ts : DS) : DS := fun D ρ => tb { D with ex := fun x ρ' => match ns.lookup x.name with
  | some true => ts D ρ'
  | some false => D.ex x ρ'
  | none => False } ρ
theorem look_mem {ns : List (String × Bool)} {s : String} {b : Bool} (h : ns.lookup s = some b) : (s, b) ∈ ns := by
  induction ns with
  | nil => cases h
  | cons p ns ih =>
    obtain ⟨a, c⟩ := p
    rw [List.lookup_cons] at h
    split at h
    · rename_i e
      have := beq_iff_eq.mp e
      cases h
      subst this
      exact List.mem_cons_self ..
    · exact List.mem_cons_of_mem _ (ih h)
/-! ### methods of texts -/
def qStr0 (C : Str → Prop) (g : Str → V) : D → (D → Prop) → Prop
  | .p (.str a), Q => C a ∧ Q (.p (g a))
  | _, _ => False
theorem je_m0 {o : Expr} {ta : DE} {C : Str → Prop} {g : Str → V} {id : String} {name : Str} {apos pos : Pos} (slot : Slot "str" name id) (ty : typeOf (.builtin id) = pure (.type "method_descriptor"))
    (rule : MtR X id (fun x xs H Q => ∃ a, x = .str a ∧ xs = [] ∧ C a ∧ Q (g a) H)) (ho : JE X cn E o ta)
    (hbase : attributeBase o name X.env (eval o X.env) = eval o X.env := by rfl) (hline : (apos.endLine == pos.line) = true := by rfl) : JE X cn E (.Call (.Attribute o name apos) [] [] pos) (dUn (qStr0 C g) ta) :=
  pe_imp (pe_m0 slot ty rule ho hbase hline) fun σ H Q ⟨pv, γ, ρ, G, fp, Q0, E0, m, q, po, px⟩ => ⟨pv, γ, ρ, G, fp, _, E0, m, q, fun x ρ1 v G1 H1 fp1 F1 ⟨d, l1, q1⟩ s1 m1 o1 => by
    unfold qStr0 at q1
    split at q1
    · have := look_p m1 o1 l1
      subst this
      obtain ⟨f1, f2, f3⟩ := fin_new m1 s1 (fun a z => .inl z) (Stp.refl G1 H1 (fun _ => False)) m1.sub
      exact ⟨⟨_, rfl⟩, _, rfl, rfl, q1.1, po (.t _) ρ1 _ G1 H1 fp1 [] q1.2 (f1.mono (fun _ z => z) fun a z => .inl (z.elim .inl fun z => by cases z)) f2 ⟨Rp.p _, fun a z => by cases z⟩⟩
    · exact q1.elim, px⟩
def qIsdigit := qStr0 (fun _ => True) fun a => .bl (Txt.isdigit a)
def qIsalpha := qStr0 (fun _ => True) fun a => .bl (Txt.isalpha a)
/-- a method of a text with one argument -/
def dM1 (r : Op2) (ta tb : DE) : DE := fun ρ Q E => ta ρ (fun x ρ1 => (∃ a, look ρ1 x = some (.p (.str a))) ∧ tb ρ1 (fun y ρ2 => ∃ d e, look ρ2 x = some d ∧ look ρ2 y = some e ∧ r d e fun z => Q (.t z) ρ2) E) E
def qJoin : Op2
  | .p (.str a), e, Q => ∃ ys : List Str, itemsOf e = some (ys.map fun y => .p (.str y)) ∧ (ys.map (·.length)).sum + ys.length * a.length ≤ 16777216 ∧ Q (.str (Txt.join a ys))
  | _, _, _ => False
/-! ### x[i] = e -/
theorem RpL.set {K : PySem.W.Frag} {G H : Hp} {y : V} {d : D} {Fw : List Addr} (ry : Rp K G H y d Fw) : ∀ {vs : List V} (ds : List D) {F : List Addr} (j : Nat), RpL K G H vs ds F → (∀ b ∈ Fw, b ∉ F) → ∃ F', RpL K G H (vs.set j y) (ds.set j d) F' ∧ ∀ b ∈ F', b ∈ F ∨ b ∈ Fw
  | _, [], F, j, h, _ => by
    cases h
    exact ⟨[], .nil, fun b z => by cases z⟩
  | _, c :: cs, _, 0, h, dj => by
    cases h with
    | cons h1 h2 h3 =>
      refine ⟨_, RpL.cons ry h2 fun b hb z => dj b hb (List.mem_append_right _ z), fun b z => ?_⟩
      rcases List.mem_append.mp z with z | z
      · exact .inr z
      · exact .inl (List.mem_append_right _ z)
  | _, c :: cs, _, j + 1, h, dj => by
    cases h with
    | cons h1 h2 h3 =>
      obtain ⟨F', r', i'⟩ := RpL.set ry cs j h2 fun b hb z => dj b hb (List.mem_append_right _ z)
      refine ⟨_, RpL.cons h1 r' fun b hb z => ?_, fun b z => ?_⟩
      · rcases i' b z with y | y
        · exact h3 b hb y
        · exact dj b y (List.mem_append_left _ hb)
      · rcases List.mem_append.mp z with z | z
        · exact .inl (List.mem_append_left _ z)
        · exact (i' b z).imp (List.mem_append_right _) id
def mSetL : OpM := fun k ch es Q => ∃ i d j, k = .lst ∧ es = [.p (.int i), d] ∧ ixN ch.length i = some j ∧ Q .lst (ch.set j d) .non
theorem m_setL {K : PySem.W.Frag} : SemM K (fun x xs H Q => ∃ i v, xs = [i, v] ∧ rSetL x i v H (fun H' => Q .non H')) mSetL := by
  rintro G H a k vs ch F ws es Fw Q0 Q s hG n r ha rw dw ⟨i, d, j, rfl, rfl, hj, q⟩ fin
  cases rw with
  | @cons y ws' _ _ Fa Fb h1 h2 h3 =>
    cases h1
    cases h2 with
    | @cons z ws2 _ _ Fc Fd h4 h5 h6 =>
      have e1 : ws2 = [] := by cases h5; rfl
      have e2 : Fd = [] := by cases h5; rfl
      subst e1 e2
      obtain ⟨F', r', i'⟩ := RpL.set h4 ch j r fun b hb z => (dw b (by simp [hb])).1 z
      refine ⟨_, _, rfl, a, vs, i, j, rfl, rfl, n, by rw [r.len]; exact hj, ?_⟩
      refine fin .lst (ch.set j d) .non (vs.set j z) .non (.lst (vs.set j z)) F' [] q upd_same r' (Rp.p _) (fun b hb => ?_) fun b hb => by cases hb
      rcases i' b hb with y | y
      · exact .inl y
      · exact .inr (by simp [y])
/-- x[i] = e: e, then i; x in slot n -/
def dPut (T : String) (n : Nat) (r : OpM) (te ti : DE) : DS := fun D ρ => te ρ (fun x ρ1 => (∃ s d, ρ1[n]? = some s ∧ s.d? = some d ∧ tyM d = T ∧ (T = "list" ∨ T = "dict")) ∧ ti ρ1 (fun y ρ2 => ∃ es ρ3 s k ch, tkL ρ2 [y, x] = some (es, ρ3) ∧ ρ3[n]? = some s ∧ s.d? = some (.n true k ch) ∧
  r k ch es fun k' ch' _ => D.nx ((killB n ρ3).set n (s.re (.n true k' ch')))) D.ex) D.ex
theorem js_put {n : Nat} {st : Stmt} {T : String} {r : OpM} {rr : V → List V → Hp → VK → Prop} {tset : TSet} {te ti : DE} (hi : n < X.N.length) (hs : SemM X.K rr r) (hset : ∀ o i v H Q, rr o [i, v] H (fun _ H' => Q H') → tset o i v H Q)
    (h : PS X st (tAsg (liftE X.K cn E te) (gSub (tVar n) (liftE X.K cn E ti) tset))) : JS X cn E st (dPut T n r te ti) := ⟨fun pins sh σ H D I ⟨pv, γ, ρ, G, fp, D0, m, q, po⟩ => by
  have hl : n < σ.length := by rw [I.len]; exact hi
  refine h.run pins sh σ H D I ⟨pv, γ, ρ, G, fp, _, _, m, q, fun x ρ1 v G1 H1 fp1 F1 ⟨⟨s, d, e1, e2, e3, e4⟩, q1⟩ s1 m1 o1 => ?_, po.ex⟩
  obtain ⟨z, h1, h2⟩ := m1.at e1 e2
  refine ⟨z, get_left hl h1, pv, γ, ρ1, G1, fp1, _, _, m1, q1, fun y ρ2 w G2 H2 fp2 F2 q2 s2 m2 o2 => ?_, po.ex.on s1⟩
  refine hset _ _ _ _ _ ?_
  have o1' := o1.frame s2
  have po2 : PoE X.K pv σ γ G H fp (fun _ ρ' => D0.nx ρ') (fun _ H' => D.nx σ H') := fun r' ρ' v' G' H' fp' F' q' s' m' o' =>
    po.nx ρ' σ G' H' fp' q' (drop0 s') m' rfl
  refine mut_go (F1 := F2 ++ (F1 ++ [])) (Q := fun _ H' => D.nx σ H') (Q0 := fun _ ρ' => D0.nx ρ') hs h1 po2 (s1.seq (fun _ z => .inl z) s2 fun a z => ?_) m2 (.cons o2 (.cons o1' .nil)) q2
  rcases z with z | z
  · exact .inl (.inl z)
  · rcases List.mem_append.mp z with z | z
    · exact .inl (.inr z)
    · exact .inr (.inr (by simpa using z))⟩
end

theorem setL_h : ∀ o i v H Q, (fun x xs H (Q : VK) => ∃ i v, xs = [i, v] ∧ rSetL x i v H (fun H' => Q .non H')) o [i, v] H (fun _ H' => Q H') → rSetL o i v H Q := by
  rintro o i v H Q ⟨i', v', e, q⟩
  cases e
  exact q
/-- a def that raises nothing: the classes' places don't matter -/
theorem lower_cn {K : PySem.W.Frag} {cn cn' : String → Addr} {S : SpD} (h : ∀ ds Q E, S ds Q E → S ds Q fun _ _ => False) {vs : List V} {H : Hp} {Q : VK} {E : XK} (q : lower K cn' S vs H Q E) : lower K cn S vs H Q E := by
  obtain ⟨G, ds, F, Q0, E0, s, r, q, k1, k2⟩ := q
  exact ⟨G, ds, F, Q0, fun _ _ => False, s, r, h _ _ _ q, k1, fun x ds' cls dx G' H' F' z => z.elim⟩
theorem fn_cn {P : Program} {w : World} {K : PySem.W.Frag} {mg : Str → Option Value} {base : Heap} {cn cn' : String → Addr} {k : Nat} {f : Addr} {fd : FuncData} {ps : List Str} {S : SpD} {CX : CXT} (h : ∀ ds Q E, S ds Q E → S ds Q fun _ _ => False)
    (F : FnOk P w K mg base CX k f fd ps (lower K cn S)) : FnOk P w K mg base CX k f fd ps (lower K cn' S) := F.imp fun vs H Q E q => lower_cn h q
section
variable {X : Cx}
theorem rep_fold (x : Array Nat) : ∀ (n : Nat) (acc : Array Nat), (List.replicate n x).foldl (· ++ ·) acc = (acc.toList ++ (List.replicate n x.toList).flatten).toArray
  | 0, acc => by simp
  | n + 1, acc => by
    rw [List.replicate_succ, List.foldl_cons, rep_fold x n, List.replicate_succ, List.flatten_cons]
    simp
def repS (x : Str) (n : Int) : Str := ⟨(List.replicate n.toNat x.cps.toList).flatten.toArray⟩
theorem o_mulS : OpR X (binaryOp .Mult) (fun x y H Q => ∃ z n, x = .str z ∧ y = .int n ∧ (0 ≤ n ∧ (z.length : Int) * n ≤ 100000 ∧ n ≤ 100000) ∧ Q (.str ⟨(List.replicate n.toNat z.cps.toList).flatten.toArray⟩) H) := by
  intro pins s σ H x y v u Q I rx ry ⟨z, n, e1, e2, ⟨h0, h1, h2⟩, q⟩
  subst e1 e2
  obtain ⟨t, rfl⟩ := rx
  obtain ⟨t', rfl⟩ := ry
  have key : ∀ (z' : Str) (t k : Nat), z' = ⟨(List.replicate n.toNat z.cps.toList).flatten.toArray⟩ → EP X pins σ Q (.str z' t) { s with toks := k } := fun z' t k e => ⟨.str z', H, I.tok k, ⟨t, rfl⟩, by rw [e]; exact q⟩
  have hlen : (z.length : Int) * n.toNat ≤ 100000 := by rw [Int.toNat_of_nonneg h0]; exact h1
  have hnat : z.length * n.toNat ≤ 100000 := by
    have : ((z.length * n.toNat : Nat) : Int) ≤ 100000 := by rw [Int.natCast_mul]; exact hlen
    omega
  have hsl := sizeLine_eq
  refine PySem.P.mul_str ?_ ?_ ?_ ?_
  · rw [decide_eq_false (by omega), decide_eq_false (by omega)]; rfl
  · intro g1 g2 g3
    have : (z.length : Int) ≤ (2 ^ 63 - 1) / n := (Int.le_ediv_iff_mul_le (by omega)).mpr (by omega)
    omega
  · intro g1 g2
    show decide (z.length * n.toNat > sizeLine) = false
    rw [decide_eq_false]
    omega
  · split
    · rename_i h
      have : n = 0 := by omega
      subst this
      exact ⟨by decide, key _ _ _ rfl⟩
    · rename_i hn
      split
      · rename_i h
        rw [Bool.or_eq_true, beq_iff_eq, beq_iff_eq] at h
        refine key z t s.toks ?_
        rcases h with h | h
        · subst h
          show z = ⟨([z.cps.toList].flatten).toArray⟩
          simp
        · have e : z.cps.toList = [] := List.eq_nil_of_length_eq_zero (by rw [Array.length_toList]; exact h)
          have e2 : z.cps = #[] := by
            rw [← Array.toList_inj, e]
          have e3 : (List.replicate n.toNat ([] : List Nat)).flatten = [] := by simp
          rw [e, e3]
          obtain ⟨c⟩ := z
          subst e2
          rfl
      · have e : (List.replicate n.toNat z.cps).foldl (· ++ ·) #[] = (List.replicate n.toNat z.cps.toList).flatten.toArray := by
          rw [rep_fold]
          rfl
        rw [e]
        refine ⟨?_, key _ _ _ rfl⟩
        show (List.replicate n.toNat z.cps.toList).flatten.toArray.size ≤ sizeLine
        rw [List.size_toArray, List.length_flatten, List.map_replicate, List.sum_replicate_nat, Array.length_toList]
        have : n.toNat * z.cps.size = z.length * n.toNat := Nat.mul_comm _ _
        omega
theorem o_mul : OpR X (binaryOp .Mult) rMulS := op_mul.or o_mulS
end

end DL
/-! DL15: running: errors, texts, while. -/
namespace DL
open PySem L2
open Enc (en)
/-- a sign as a text -/
def sg (c : Nat) : Str := ⟨#[c]⟩
/-- signs as a text -/
def st (l : List Nat) : Str := ⟨l.toArray⟩
theorem st_list (l : List Nat) : (st l).cps.toList = l := by simp [st]
theorem st_len (l : List Nat) : (st l).length = l.length := by
  show (st l).cps.size = _
  simp [st]
theorem str_st (x : Str) : st x.cps.toList = x := by
  obtain ⟨c⟩ := x
  simp [st]
theorem str_len (x : Str) : x.cps.toList.length = x.length := Array.length_toList
section
variable {n : Env → Prop} {rt : D → Env → Prop} {bk ct : Env → Prop} {ex : Exn → Env → Prop} {ρ ρ1 ρ2 : Env} {Q : Rv → Env → Prop} {QT : Bool → Env → Prop} {QA : List Rv → Env → Prop} {QI : List D → Env → Prop} {E : Exn → Env → Prop}
  {t u tb ts : DS} {te ta : DE} {c tt tv : DT} {tA : DA} {ti : DI} {g : DG} {d d' e : D} {i j : Nat} {v : V} {x y : Rv} {xs : List Rv} {nm : String}
theorem w_raise (h : ex ⟨nm, none⟩ ρ) : dRaise nm ⟨n, rt, bk, ct, ex⟩ ρ := h
def trK (ns : List (String × Bool)) (ts : DS) (D : DEnds) (x : Exn) (ρ : Env) : Prop := match ns.lookup x.name with
  | some true => ts D ρ
  | some false => D.ex x ρ
  | none => False
theorem w_try {ns : List (String × Bool)} (h : tb ⟨n, rt, bk, ct, fun x ρ' => trK ns ts ⟨n, rt, bk, ct, ex⟩ x ρ'⟩ ρ) : dTry ns tb ts ⟨n, rt, bk, ct, ex⟩ ρ := h
theorem w_trT {ns : List (String × Bool)} {x : Exn} (h : ns.lookup x.name = some true) (k : ts ⟨n, rt, bk, ct, ex⟩ ρ) : trK ns ts ⟨n, rt, bk, ct, ex⟩ x ρ := by unfold trK; rw [h]; exact k
theorem w_trF {ns : List (String × Bool)} {x : Exn} (h : ns.lookup x.name = some false) (k : ex x ρ) : trK ns ts ⟨n, rt, bk, ct, ex⟩ x ρ := by unfold trK; rw [h]; exact k
theorem whN_run (I : Nat → Env → Prop) (st : ∀ m ρ (k : Env → Prop), I m ρ → (∀ m' ρ', m' < m → I m' ρ' → k ρ') → c ρ (fun b ρ1 => if b = true then tb ⟨k, rt, n, k, ex⟩ ρ1 else n ρ1) ex) : ∀ (N m : Nat) (ρ : Env), m < N → I m ρ → dWhN c tb ⟨n, rt, bk, ct, ex⟩ N ρ
  | 0, m, ρ, h, _ => absurd h (Nat.not_lt_zero _)
  | N + 1, m, ρ, h, hI => st m ρ _ hI fun m' ρ' hm hI' => whN_run I st N m' ρ' (by omega) hI'
/-- a while loop: I m holds ahead of each turn, m falls -/
theorem while_run (I : Nat → Env → Prop) (st : ∀ m ρ (k : Env → Prop), I m ρ → (∀ m' ρ', m' < m → I m' ρ' → k ρ') → c ρ (fun b ρ1 => if b = true then tb ⟨k, rt, n, k, ex⟩ ρ1 else n ρ1) ex) {m : Nat} (h : I m ρ) : dWhile c tb ⟨n, rt, bk, ct, ex⟩ ρ :=
  ⟨m + 1, whN_run I st (m + 1) m ρ (Nat.lt_succ_self _) h⟩
def agK (i : Nat) (r : Rv) (ρ1 : Env) (k : Env → Prop) : Prop := ∃ x y ρ2, slD ρ1 i = some (.p (.int x)) ∧ look ρ1 r = some (.p (.int y)) ∧ stV ρ1 i (.p (.int (x + y))) = some ρ2 ∧ k ρ2
theorem w_augI {p : Int} (h0 : slD ρ i = some (.p (.int p))) (h : te ρ (fun r ρ1 => agK i r ρ1 n) ex) : dAugI i te ⟨n, rt, bk, ct, ex⟩ ρ := ⟨⟨p, h0⟩, h⟩
theorem w_agK {k : Env → Prop} {p q : Int} (h0 : slD ρ i = some (.p (.int p))) (h1 : look ρ x = some (.p (.int q))) (hk : okV ρ i = true) (h2 : (killB i ρ).set i (.v (.p (.int (p + q)))) = ρ2) (h : k ρ2) : agK i x ρ k := ⟨p, q, ρ2, h0, h1, by rw [stV_v hk, h2], h⟩
/-! ### texts -/
section
variable {k : D → Prop} {a b : Str} {m p : Int}
theorem w_ixT {ch : Nat} (hl : a.length ≤ 100000) (h1 : atI a.cps.toList m = some ch) (h : k (.p (.str (sg ch)))) : qIxS (.p (.str a)) (.p (.int m)) k := ⟨hl, ch, h1, h⟩
theorem w_lenS (hl : a.length ≤ 100000) (h : k (.int (a.length : Nat))) : qLen [.p (.str a)] k := ⟨_, a.length, rfl, by simp only [lenD?, hl, if_true], h⟩
theorem lt_sg (x y : Nat) : strLt (sg x) (sg y) = decide (x < y) := by
  unfold strLt sg
  have : ([x] < [y]) ↔ x < y := by
    rw [List.cons_lt_cons_iff]
    simp
  simp [this]
theorem w_leS (h : k (.bl (!strLt b a))) : qLe (.p (.str a)) (.p (.str b)) k := h
theorem w_ltS (h : k (.bl (strLt a b))) : qLt (.p (.str a)) (.p (.str b)) k := h
theorem w_inT {ch : Nat} {neg : Bool} (h : k (.bl (if neg = true then !decide (ch ∈ b.cps.toList) else decide (ch ∈ b.cps.toList)))) : qInS neg (.p (.str (sg ch))) (.p (.str b)) k := ⟨ch, rfl, h⟩
theorem w_inTf {ch : Nat} (h : k (.bl (decide (ch ∈ b.cps.toList)))) : qInS false (.p (.str (sg ch))) (.p (.str b)) k := w_inT h
theorem w_inTt {ch : Nat} (h : k (.bl (!decide (ch ∈ b.cps.toList)))) : qInS true (.p (.str (sg ch))) (.p (.str b)) k := w_inT h
theorem w_in2 {o : Bool} {x y z : Str} {neg : Bool} (h : k (.bl (if neg = true then !dc (x = y ∨ x = z) else dc (x = y ∨ x = z)))) : qInS neg (.p (.str x)) (.n o .tup [.p (.str y), .p (.str z)]) k := by
  refine ⟨⟨rfl, ok_of (x := x) (by decide), rfl⟩, ?_⟩
  have : inD (.p (.str x)) [.p (.str y), .p (.str z)] = dc (x = y ∨ x = z) := by
    have h1 : eqD (.p (.str y)) (.p (.str x)) = dc (y = x) := eqD_e y x
    have h2 : eqD (.p (.str z)) (.p (.str x)) = dc (z = x) := eqD_e z x
    unfold inD
    rw [List.any_cons, List.any_cons, List.any_nil, h1, h2, Bool.or_false]
    by_cases e1 : y = x
    · rw [dc_t.mpr e1, (dc_t (p := x = y ∨ x = z)).mpr (.inl e1.symm)]; rfl
    · by_cases e2 : z = x
      · rw [dc_t.mpr e2, (dc_t (p := x = y ∨ x = z)).mpr (.inr e2.symm), Bool.or_true]
      · rw [dc_f.mpr e1, dc_f.mpr e2, (dc_f (p := x = y ∨ x = z)).mpr fun q => q.elim (fun q => e1 q.symm) fun q => e2 q.symm]; rfl
  rw [this]
  exact h
theorem w_in2f {o : Bool} {x y z : Str} (h : k (.bl (dc (x = y ∨ x = z)))) : qInS false (.p (.str x)) (.n o .tup [.p (.str y), .p (.str z)]) k := w_in2 h
theorem w_in2t {o : Bool} {x y z : Str} (h : k (.bl (!dc (x = y ∨ x = z)))) : qInS true (.p (.str x)) (.n o .tup [.p (.str y), .p (.str z)]) k := w_in2 h
theorem w_inLf {α : Type} {inst : Enc α} {d : D} {x : α} {ys : List α} (h1 : listOf d = some (ys.map en)) (hd : Enc.dep α + 1 ≤ 64) (h : k (.bl (dc (x ∈ ys)))) : qInS false (en x) d k := w_inL h1 hd h
theorem w_inLt {α : Type} {inst : Enc α} {d : D} {x : α} {ys : List α} (h1 : listOf d = some (ys.map en)) (hd : Enc.dep α + 1 ≤ 64) (h : k (.bl (!dc (x ∈ ys)))) : qInS true (en x) d k := w_inL h1 hd h
theorem w_intB {b : Bool} (h : k (.int (if b = true then 1 else 0))) : qInt [.p (.bl b)] k := .inr ⟨b, rfl, h⟩
theorem w_intI (h : k (.int m)) : qInt [.p (.int m)] k := .inl ⟨m, rfl, h⟩
theorem w_mulI (hc : CMul m p) (h : k (.int (m * p))) : qMulS (.p (.int m)) (.p (.int p)) k := ⟨hc, h⟩
theorem w_mulS (h0 : 0 ≤ p ∧ (a.length : Int) * p ≤ 100000 ∧ p ≤ 100000) (h : k (.str (repS a p))) : qMulS (.p (.str a)) (.p (.int p)) k := ⟨h0, h⟩
theorem w_pow (hc : CPow m p) (h : k (.int (m ^ p.toNat))) : qPow (.p (.int m)) (.p (.int p)) k := ⟨hc, h⟩
theorem w_isdigit (h : k (.bl (Txt.isdigit a))) : qIsdigit (.p (.str a)) k := ⟨trivial, h⟩
theorem w_isalpha (h : k (.bl (Txt.isalpha a))) : qIsalpha (.p (.str a)) k := ⟨trivial, h⟩
theorem w_isNn (h : k (.bl true)) : qIsN .non .non k := ⟨rfl, h⟩
theorem w_isN {d : D} (h : k (.bl (isNon d))) : qIsN d .non k := ⟨rfl, h⟩
theorem w_notN {d : D} (h : k (.bl (!isNon d))) : qNotN d .non k := ⟨rfl, h⟩
theorem w_cutT {lo hi : Option Int} (h1 : look ρ x = some (.p (.str a))) (hl : a.length ≤ 100000) (h : k (.str (cutS a lo hi))) : cutK lo hi x ρ k := ⟨_, h1, hl, h⟩
theorem cut_st {l : List Nat} {lo hi : Nat} (h1 : lo ≤ hi) (h2 : hi ≤ l.length) : cutS (st l) (some (lo : Nat)) (some (hi : Nat)) = st ((l.drop lo).take (hi - lo)) := by
  unfold cutS HT.sIx
  rw [st_len, st_list]
  have e1 : ¬ ((lo : Int) < 0) := by omega
  have e2 : ¬ ((hi : Int) < 0) := by omega
  simp only [e1, e2, if_false]
  have e3 : min lo l.length = lo := by omega
  have e4 : min hi l.length = hi := by omega
  simp [st, e3, e4]
end
def isK (x : Rv) (ρ : Env) (k : List D → Env → Prop) : Prop := ∃ a, look ρ x = some (.p (.str a)) ∧ k (strL a) ρ
theorem w_istr (h : te ρ (fun r ρ1 => isK r ρ1 QI) E) : dIStr te ρ QI E := h
theorem w_isK {k : List D → Env → Prop} {a : Str} (h1 : look ρ x = some (.p (.str a))) (h : k (a.cps.toList.map fun c => en (sg c)) ρ) : isK x ρ k := ⟨a, h1, h⟩
def m1K (r : Op2) (x : Rv) (ρ : Env) (tb : DE) (Q : Rv → Env → Prop) (E : Exn → Env → Prop) : Prop := (∃ a, look ρ x = some (.p (.str a))) ∧ tb ρ (fun y ρ2 => opK r x y ρ2 fun z => Q (.t z) ρ2) E
theorem w_m1 {r : Op2} {tb : DE} (h : ta ρ (fun x ρ1 => m1K r x ρ1 tb Q E) E) : dM1 r ta tb ρ Q E := h
theorem w_m1K {r : Op2} {tb : DE} {a : Str} (h1 : look ρ x = some (.p (.str a))) (h : tb ρ (fun y ρ2 => opK r x y ρ2 fun z => Q (.t z) ρ2) E) : m1K r x ρ tb Q E := ⟨⟨a, h1⟩, h⟩
/-! ### stores -/
def puK (T : String) (i : Nat) (r : OpM) (ti : DE) (x : Rv) (ρ : Env) (k : Env → Prop) (E : Exn → Env → Prop) : Prop := (∃ s d, ρ[i]? = some s ∧ s.d? = some d ∧ tyM d = T ∧ (T = "list" ∨ T = "dict")) ∧ ti ρ (fun y ρ2 => mu2K i r [y, x] ρ2 fun _ ρ3 => k ρ3) E
theorem w_put {T : String} {r : OpM} {ti : DE} (h : te ρ (fun x ρ1 => puK T i r ti x ρ1 n ex) ex) : dPut T i r te ti ⟨n, rt, bk, ct, ex⟩ ρ := h
theorem w_puK {T : String} {r : OpM} {ti : DE} {k : Env → Prop} (h0 : ∃ s d, ρ[i]? = some s ∧ s.d? = some d ∧ tyM d = T ∧ (T = "list" ∨ T = "dict")) (h : ti ρ (fun y ρ2 => mu2K i r [y, x] ρ2 fun _ ρ3 => k ρ3) E) : puK T i r ti x ρ k E := ⟨h0, h⟩
end

section
variable {k : D → Prop} {a b : Str} {i j : Int}
theorem w_eqS (h : k (.bl (dc (a = b)))) : qEq (.p (.str a)) (.p (.str b)) k := w_eqP (x := a) (y := b) rfl rfl (by decide) h
theorem w_neS (h : k (.bl (!dc (a = b)))) : qNe (.p (.str a)) (.p (.str b)) k := w_neP (x := a) (y := b) rfl rfl (by decide) h
theorem w_eqI (h : k (.bl (decide (i = j)))) : qEq (.p (.int i)) (.p (.int j)) k := w_eqP (x := i) (y := j) rfl rfl (by decide) (by rw [dc_d]; exact h)
theorem w_neI (h : k (.bl (!decide (i = j)))) : qNe (.p (.int i)) (.p (.int j)) k := w_neP (x := i) (y := j) rfl rfl (by decide) (by rw [dc_d]; exact h)
end

section
variable {k : D → Env → Prop} {ρ ρ1 ρ2 : Env} {xs : List Rv} {i : Nat}
theorem w_appS {ch : List Str} {a : Str} (h1 : tkL ρ xs = some ([.p (.str a)], ρ2)) (h2 : ρ2[i]? = some (.v (.n true .lst (ch.map en)))) (h3 : ch.length < 100000) (h4 : (killB i ρ2).set i (.v (eo (ch ++ [a]))) = ρ1) (h : k .non ρ1) : mu2K i mAppend xs ρ k := w_appE (e := a) h1 h2 h3 h4 h
theorem w_appI {ch : List Int} {a : Int} (h1 : tkL ρ xs = some ([.p (.int a)], ρ2)) (h2 : ρ2[i]? = some (.v (.n true .lst (ch.map en)))) (h3 : ch.length < 100000) (h4 : (killB i ρ2).set i (.v (eo (ch ++ [a]))) = ρ1) (h : k .non ρ1) : mu2K i mAppend xs ρ k := w_appE (e := a) h1 h2 h3 h4 h
end

/-- a slot that holds something, or nothing -/
def fs : Option D → Sl
  | none => .un
  | some d => .v d
theorem kb_fs {i : Nat} {o : Option D} {r : Env} : killB i (fs o :: r) = fs o :: killB i r := by cases o <;> rfl
theorem okV_fs {ρ : Env} {i : Nat} {o : Option D} (h : ρ[i]? = some (fs o)) : okV ρ i = true := by
  unfold okV
  rw [h]
  cases o <;> rfl
end DL
/-! DL16: shared displays, constants that are tuples, str(). -/
namespace DL
open PySem L2
open Enc (en)
section
variable {X : Cx} {cn : String → Addr} {E : WX}
/-- what a display makes, shared from now on -/
def dFz (te : DE) : DE := fun ρ Q E => te ρ (fun r ρ1 => ∃ d ρ2, tkF ρ1 r = some (d, ρ2) ∧ Q (.t d) ρ2) E
theorem je_fz {e : Expr} {te : DE} (h : JE X cn E e te) : JE X cn E e (dFz te) := pe_imp h fun σ H Q ⟨pv, γ, ρ, G, fp, Q0, E0, m, q, po, px⟩ =>
  ⟨pv, γ, ρ, G, fp, _, E0, m, q, fun r ρ1 v G1 H1 fp1 F1 ⟨d, ρ2, e1, q1⟩ s1 m1 o1 => by
    obtain ⟨G2, fp2, s2, m2, r2, i2⟩ := tkF_ok m1 o1 (fun _ z => z) e1
    exact po (.t d) ρ2 v G2 H1 fp2 [] q1 ((s1.trans s2).mono (fun _ z => z) fun a z => .inl (z.elim id fun z => by cases z)) m2 ⟨r2, fun a z => by cases z⟩, px⟩
/-- a thing of the written part -/
def dK (d : D) : DE := fun ρ Q _ => Q (.t d) ρ
theorem je_kt {e : Expr} {a : Addr} {vs : List V} (h : PE X e (tC (.ref a))) (hk : ∀ H, SqT X.K H a vs) : JE X cn E e (dK (.n false .tok (vs.map D.p))) := pe_imp h fun σ H Q ⟨pv, γ, ρ, G, fp, Q0, E0, m, q, po, _⟩ =>
  po _ _ _ G H fp [] q (stp0 G H fp) m ⟨Rp.f (hk G) RpL.of_prims, fun a z => by cases z⟩
theorem sqt_k {K : PySem.W.Frag} {H : Hp} {a : Addr} {vs : List V} {its : Array Value} {n : Nat} {od : Option Addr} {sl : Array (Option Value)} (h : K.lookup a = some ⟨.type "tuple", od, .seq its n, sl⟩) (hz : its.size ≤ sizeLine) (r : Vals vs its.toList) : SqT K H a vs := .inr ⟨_, its, n, h, rfl, rfl, hz, r⟩
def qStr1 : OpL := fun ds Q => (∃ i : Int, ds = [.p (.int i)] ∧ i.natAbs.log2 < 1920 ∧ Q (.str (toString i))) ∨ ∃ a, ds = [.p (.str a)] ∧ Q (.str a)
end
/-! ### text[::-1] -/
def qUpper := qStr0 (fun a => a.length ≤ 5592405) fun a => .str (Txt.upper a)
def qRevT : D → (D → Prop) → Prop
  | .p (.str x), Q => x.length ≤ 100000 ∧ Q (.str ⟨x.cps.toList.reverse.toArray⟩)
  | _, _ => False
open PySem.Spec PyProof.Rows in
section
variable {n : Env → Prop} {ρ ρ1 ρ2 : Env} {Q : Rv → Env → Prop} {E : Exn → Env → Prop} {te : DE} {d d' : D} {x : Rv} {i : Nat} {k : Rv → Env → Prop}
def fzK (x : Rv) (ρ : Env) (k : Rv → Env → Prop) : Prop := ∃ d ρ2, tkF ρ x = some (d, ρ2) ∧ k (.t d) ρ2
theorem w_fz (h : te ρ (fun r ρ1 => fzK r ρ1 Q) E) : dFz te ρ Q E := h
theorem w_fzT (h1 : d.fz = d') (h : k (.t d') ρ) : fzK (.t d) ρ k := ⟨d', ρ, by simp only [tkF, tk, h1], h⟩
theorem w_dK (h : Q (.t d) ρ) : dK d ρ Q E := h
theorem w_strI {k : D → Prop} {i : Int} (h0 : i.natAbs.log2 < 1920) (h : k (.str (toString i))) : qStr1 [.p (.int i)] k := .inl ⟨i, rfl, h0, h⟩
theorem w_strS {k : D → Prop} {a : Str} (h : k (.str a)) : qStr1 [.p (.str a)] k := .inr ⟨a, rfl, h⟩
end
theorem w_revT {k : D → Prop} {a : Str} (h0 : a.length ≤ 100000) (h : k (.str ⟨a.cps.toList.reverse.toArray⟩)) : qRevT (.p (.str a)) k := ⟨h0, h⟩
theorem w_inTok {k : D → Prop} {o : Bool} {x : Str} {ys : List Str} {neg : Bool} (h : k (.bl (if neg = true then !dc (x ∈ ys) else dc (x ∈ ys)))) : qInS neg (.p (.str x)) (.n o .tok (ys.map en)) k := by
  rw [← inD_e] at h
  refine ⟨⟨rfl, ok_of (x := x) (by decide), ?_⟩, h⟩
  unfold okD
  rw [toPy, PyData.plain, PyData.depth, lay_e, Bool.true_and]
  have := dep_e ys
  have e : Enc.dep Str = 0 := rfl
  exact decide_eq_true (by omega)
theorem w_upper {k : D → Prop} {a : Str} (h0 : a.length ≤ 5592405) (h : k (.str (Txt.upper a))) : qUpper (.p (.str a)) k := ⟨h0, h⟩
end DL
/-! DL17: dicts made, read, written; methods of lists and texts; f-strings. -/
namespace DL
open PySem L2
section
variable {X : Cx} {cn : String → Addr} {E : WX} {pos apos cpos : Pos}
/-! ### {} -/
def dNewD : DE := fun ρ Q _ => Q (.t (.n true (.dic []) [])) ρ
theorem none_G {G H : Hp} {p : Addr} (s : Sub G H) (h : H p = none) : G p = none := by
  cases e : G p with
  | none => rfl
  | some o => rw [s p o e] at h; cases h
theorem je_newD : JE X cn E (.Dict [] [] pos) dNewD := pe_imp pe_dnewK fun σ H Q ⟨pv, γ, ρ, G, fp, Q0, E0, m, q, po, _⟩ p hp => by
  have s3 : Stp G H (fun _ => False) G (L2.upd H p (.dK [])) (fun a => a ∈ [p]) := (Stp.new hp m.sub).mono (fun _ z => z) fun a z => .inl (.inr (List.mem_singleton.mp z))
  obtain ⟨f1, f2, f3⟩ := fin_new m (Stp.refl G H (InF fp)) (fun a z => z) s3 (m.sub.upd hp)
  exact po _ ρ _ G _ fp [p] q f1 f2 ⟨Rp.o (F := []) (none_G m.sub hp) (vs := []) ⟨rfl, upd_same⟩ (fun z => by cases z) .nil, f3⟩

/-! ### monotone -/
theorem liftE_mono {te : DE} {σ : St} {H : Hp} {Q1 Q2 : VK} (h : liftE X.K cn E te σ H Q1) (i : ∀ v H', Q1 v H' → Q2 v H') : liftE X.K cn E te σ H Q2 := by
  obtain ⟨pv, γ, ρ, G, fp, Q0, E0, m, q, po, px⟩ := h
  exact ⟨pv, γ, ρ, G, fp, Q0, E0, m, q, fun r ρ' v G' H' fp' F a b c d => i _ _ (po r ρ' v G' H' fp' F a b c d), px⟩
theorem args0 {σ : St} {H : Hp} {Q : List V → Hp → Prop} (h : liftA X.K cn E dNil σ H Q) : Q [] H := by
  obtain ⟨pv, γ, ρ, G, fp, Q0, E0, m, q, po, px⟩ := h
  exact po [] ρ [] G H fp [] q (stp0 G H fp) m .nil
/-! ### displays with written keys -/
def dDs : List DE → DA
  | [] => dNil
  | t :: r => dCons t (dDs r)
theorem pairs_of : ∀ (L : List (Str × DE)) (σ : St) (H : Hp) (Q' : List V → Hp → Prop) (Q : List (V × V) → Hp → Prop), liftA X.K cn E (dDs (L.map (·.2))) σ H Q' → (∀ vs H', vs.length = L.length → Q' vs H' → Q ((L.map fun p => V.str p.1).zip vs) H') →
    tPairs (L.map fun p => (tC (.str p.1), liftE X.K cn E p.2)) σ H Q
  | [], σ, H, Q', Q, h, i => i [] H rfl (args0 h)
  | (k, t) :: L, σ, H, Q', Q, h, i => by
    refine liftE_mono (consA σ H Q' h) fun v H' q => ?_
    exact pairs_of L σ H' _ _ q fun vs H2 hl q2 => i (v :: vs) H2 (by rw [List.length_cons, List.length_cons, hl]) q2
def dDisp (ks : List Str) (t : DA) : DE := fun ρ Q E => t ρ (fun rs ρ1 => ∃ ds ρ2, tkL ρ1 rs = some (ds, ρ2) ∧ (ks.length = ds.length ∧ ks.length ≤ 15 ∧ ks.Nodup) ∧ Q (.t (.n true (.dic (ks.map .inr)) ds)) ρ2) E
theorem merge_nodup {κ : Type} [DecidableEq κ] : ∀ (more kvs : List (κ × V)), ((kvs ++ more).map (·.1)).Nodup → more.foldl (fun acc kv => putK acc kv.1 kv.2) kvs = kvs ++ more
  | [], kvs, _ => by simp
  | kv :: more, kvs, h => by
    rw [List.foldl_cons]
    have hn : valV kvs kv.1 = none := by
      cases e : valV kvs kv.1 with
      | none => rfl
      | some v =>
        have h2 : (kvs.any fun p => decide (p.1 = kv.1)) = true := by rw [valV_any, e]; rfl
        obtain ⟨p, hp, hk⟩ := List.any_eq_true.mp h2
        have hk := of_decide_eq_true hk
        rw [List.map_append, List.nodup_append] at h
        exact absurd hk (h.2.2 _ (List.mem_map.mpr ⟨p, hp, rfl⟩) _ (List.mem_map.mpr ⟨kv, List.mem_cons_self .., rfl⟩))
    rw [putK_new kv.2 hn, merge_nodup more (kvs ++ [(kv.1, kv.2)]) (by simpa using h)]
    simp
theorem je_disp {keys : List (Option Expr)} {values : List Expr} (L : List (Str × DE)) (h : PPs X pos keys values (L.map fun p => (tC (.str p.1), liftE X.K cn E p.2))) (hall : keys.all (·.isSome) = true) (hl : keys.length = values.length) (h0 : keys ≠ []) (h15 : keys.length ≤ 15) :
    JE X cn E (.Dict keys values pos) (dDisp (L.map (·.1)) (dDs (L.map (·.2)))) := by
  refine pe_imp (pe_disp h hall hl h0 h15) ?_
  rintro σ H Q ⟨pv, γ, ρ, G, fp, Q0, E0, m, q, po, px⟩ p hp
  have hGp := none_G m.sub hp
  have nP : ¬ InF fp p := fun ⟨i, hi⟩ => by
    obtain ⟨_, o, ho⟩ := m.ft i p hi
    rw [hp] at ho; cases ho
  have a0 : Stp G H (InF fp) G (L2.upd H p (.dK [])) (InF fp) := (Stp.new hp m.sub).mono (fun _ z => z) fun a z => .inl (.inl z)
  have m1 : Mt X.K pv (σ ++ γ) ρ G (L2.upd H p (.dK [])) fp := m.step (Stp.new (P := fun _ => False) hp m.sub) (m.sub.upd hp)
  refine pairs_of L σ _ (fun vs H' => vs.length = L.length → H' p = some (.dK []) ∧ ∃ kvs : List (Key × V), (L.map fun p => V.str p.1).zip vs = kvs.map (fun kv => (kV kv.1, kv.2)) ∧ kvs.length ≤ 15 ∧ Q (.ref p) (L2.upd H' p (.dK (mergeK [] kvs)))) _ ⟨pv, γ, ρ, G, fp, _, E0, m1, q, ?_, px.on0 a0⟩ fun vs H' hl q => q hl
  rintro rs ρ1 vs G1 H1 fp1 F1 ⟨ds, ρ2, e1, ⟨c1, c2, c3⟩, q1⟩ s1 m2 o1 hl
  obtain ⟨G2, fp2, s2, m3, r3, i2⟩ := tkL_ok m2 o1 (fun _ z => z) e1
  have hp1 : H1 p = some (.dK []) := s1.h p _ upd_same nP
  have nP1 : ¬ (InF fp1 p ∨ p ∈ F1) := fun z => by
    rcases s1.f p z with y | y
    · exact nP y
    · rw [upd_same] at y; cases y
  have hG1 : G1 p = none := s1.n p _ upd_same hGp nP
  have s2' : Stp G1 H1 (fun a => InF fp1 a ∨ a ∈ F1) G2 H1 (fun a => InF fp2 a ∨ a ∈ F1) := s2.mono (fun _ z => .inl z) fun a z => z.elim (fun z => .inl z) fun z => .inr (.inr z)
  have hG2 : G2 p = none := s2'.n p _ hp1 hG1 nP1
  have T := (a0.trans s1).trans s2'
  have kF : ∀ a ∈ F1, a ≠ p := fun a ha z => nP1 (.inr (z ▸ ha))
  have lv : vs.length = ds.length := r3.len
  refine ⟨hp1, ((L.map (·.1)).map Sum.inr).zip vs, ?_, ?_, ?_⟩
  · rw [List.zip_map_left, List.zip_map_left, List.map_map, List.zip_map_left]
    rw [List.map_map]
    rfl
  · rw [List.length_zip, List.length_map]; omega
  · have em : mergeK [] (((L.map (·.1)).map Sum.inr).zip vs) = ((L.map (·.1)).map Sum.inr).zip vs := by
      unfold mergeK
      rw [merge_nodup _ []]
      · rfl
      · rw [List.nil_append, List.map_fst_zip (by rw [List.length_map]; omega)]
        exact List.Pairwise.map _ (fun a b z y => z (by injection y)) c3
    rw [em]
    have m4 : Mt X.K pv (σ ++ γ) ρ2 G2 (L2.upd H1 p (.dK (((L.map (·.1)).map Sum.inr).zip vs))) fp2 := m3.move (fun _ _ z => z) (fun a o z => by rw [upd_ne (fun y => by rw [y, hG2] at z; cases z)]; exact m3.sub a o z)
      (fun a o z e => by rw [upd_ne (fun y => nP1 (.inl (i2 p (by rw [← y]; exact z))))]; exact e) fun a ⟨i, ha⟩ => (m3.ft i a ha).1
    refine po (.t _) ρ2 (.ref p) G2 _ fp2 (p :: F1) q1 ⟨T.g, fun a o e n => ?_, T.n, fun a z => ?_⟩ m4 ⟨Rp.o hG2 (vs := vs) ⟨by rw [List.length_map]; omega, upd_same⟩ (fun z => kF p z rfl) (RpL.mov (fun _ _ z => z) _ r3 fun a ha o hg ho => ⟨hg, by rw [upd_ne (kF a ha)]; exact ho⟩), fun a ha z => ?_⟩
    · rw [upd_ne (fun y => by rw [y, hp] at e; cases e)]
      exact T.h a o e n
    · rcases z with z | z
      · exact T.f a (.inl z)
      · rcases List.mem_cons.mp z with z | z
        · exact .inr (z ▸ hp)
        · exact T.f a (.inr z)
    · rcases List.mem_cons.mp ha with e | ha
      · exact nP1 (.inl (i2 p (e ▸ z)))
      · exact RvsOk.foot o1 a ha (i2 a z)

/-! ### d.get(k), d.get(k, x) -/
def isDic : D → Bool
  | .n _ (.dic _) _ => true
  | .n _ (.dit _) _ => true
  | _ => false
theorem isD_rp {K : PySem.W.Frag} {G H : Hp} {v : V} {d : D} {F : List Addr} (s : Sub G H) (r : Rp K G H v d F) (h : isDic d = true) : ∃ a, v = .ref a ∧ IsD H a := by
  cases d with
  | p x => simp [isDic] at h
  | n ow kd ch =>
    cases kd with
    | lst => simp [isDic] at h
    | lok => simp [isDic] at h
    | tup => simp [isDic] at h
    | tok => simp [isDic] at h
    | obj _ _ => simp [isDic] at h
    | exc _ _ => simp [isDic] at h
    | dic ks =>
      cases r with
      | f h1 h2 => exact ⟨_, rfl, .inl ⟨_, Rd.mono s h1.2⟩⟩
      | o h0 h1 h3 h2 => exact ⟨_, rfl, .inl ⟨_, .inl h1.2⟩⟩
    | dit ks =>
      cases r with
      | f h1 h2 => exact ⟨_, rfl, .inr ⟨_, .inl (s _ _ h1.2)⟩⟩
      | o h0 h1 h3 h2 => exact ⟨_, rfl, .inr ⟨_, .inl h1.2⟩⟩
def dGet2 (ta tb tc : DE) : DE := fun ρ Q E => ta ρ (fun x ρ1 => (∃ d, look ρ1 x = some d ∧ isDic d = true) ∧ tb ρ1 (fun y ρ2 => tc ρ2 (fun z ρ3 => ∃ d k dz o, look ρ3 x = some d ∧ look ρ3 y = some k ∧ look ρ3 z = some dz ∧ dictD d k = some o ∧ (o.getD dz).isFz = true ∧ Q (.t (o.getD dz)) ρ3) E) E) E
def dGet1 (ta tb : DE) : DE := fun ρ Q E => ta ρ (fun x ρ1 => (∃ d, look ρ1 x = some d ∧ isDic d = true) ∧ tb ρ1 (fun y ρ2 => ∃ d k o, look ρ2 x = some d ∧ look ρ2 y = some k ∧ dictD d k = some o ∧ (o.getD (.p .non)).isFz = true ∧ Q (.t (o.getD (.p .non))) ρ2) E) E
theorem je_get2 {o e f : Expr} {ta tb tc : DE} (hu : X.A.units + 1 < cLine) (ho : JE X cn E o ta) (he : JE X cn E e tb) (hf : JE X cn E f tc) (m : M2 X o "get" apos e f cpos) : JE X cn E (.Call (.Attribute o "get" apos) [e, f] [] cpos) (dGet2 ta tb tc) := by
  refine pe_imp (pe_dget2 hu ho he hf m) ?_
  rintro σ H Q ⟨pv, γ, ρ, G, fp, Q0, E0, m, q, po, px⟩
  refine ⟨pv, γ, ρ, G, fp, _, E0, m, q, fun x ρ1 v G1 H1 fp1 F1 ⟨⟨d, l1, hd⟩, q1⟩ s1 m1 o1 => ?_, px⟩
  obtain ⟨A1, rA1, _⟩ := look_ok m1 o1 l1
  obtain ⟨a, rfl, hD⟩ := isD_rp m1.sub rA1 hd
  refine ⟨a, rfl, hD, pv, γ, ρ1, G1, fp1, _, E0, m1, q1, fun y ρ2 w G2 H2 fp2 F2 q2 s2 m2 o2 => ?_, px.on s1⟩
  have s12 := s1.seq (fun _ z => .inl z) s2 (P3 := fun a => InF fp2 a ∨ a ∈ F2) fun _ z => .inl z
  refine ⟨pv, γ, ρ2, G2, fp2, _, E0, m2, q2, fun z ρ3 u G3 H3 fp3 F3 ⟨d', k, dz, o, l3, l4, l5, e3, hz, q3⟩ s3 m3 o3 => ?_, px.on s12⟩
  have s13 := s12.seq (fun _ z => .inl z) s3 (P3 := fun a => InF fp3 a ∨ a ∈ F3) fun _ z => .inl z
  obtain ⟨A, rA, _⟩ := look_ok m3 (((o1.frame s2).weak fun a z => .inl z).frame s3) l3
  obtain ⟨B, rB, _⟩ := look_ok m3 (o2.frame s3) l4
  obtain ⟨C, rC, _⟩ := look_ok m3 o3 l5
  obtain ⟨a', o', ea, g, h⟩ := dict_get m3.sub rA rB e3
  cases ea
  refine ⟨o', g, ?_⟩
  obtain ⟨F, rF⟩ : ∃ F, Rp X.K G3 H3 (o'.getD u) (o.getD dz) F := by
    cases o' <;> cases o <;> first | exact ⟨_, rC⟩ | exact h | cases h
  have rF := rF.shared hz
  exact po _ ρ3 _ G3 H3 fp3 [] q3 (s13.mono (fun _ z => z) fun a z => .inl (z.elim .inl fun z => by cases z)) m3 ⟨rF, fun a z => by cases z⟩
/-! ### d[k] = v, d.setdefault(k, v), d.pop(k), d.pop(k, v): what one slot holds -/
def putKs {κ : Type} [DecidableEq κ] (ks : List κ) (k : κ) : List κ := if k ∈ ks then ks else ks ++ [k]
def putCh {κ : Type} [DecidableEq κ] (ks : List κ) (ch : List D) (k : κ) (d : D) : List D := if k ∈ ks then List.zipWith (fun k' c => if k' = k then d else c) ks ch else ch ++ [d]
def delKs {κ : Type} [DecidableEq κ] (ks : List κ) (k : κ) : List κ := ks.filter fun k' => decide (k' ≠ k)
def delCh {κ : Type} [DecidableEq κ] : List κ → List D → κ → List D
  | k' :: ks, c :: ch, k => if k' = k then delCh ks ch k else c :: delCh ks ch k
  | _, _, _ => []
theorem any_key {κ : Type} [DecidableEq κ] {k : κ} : ∀ {ks : List κ} {vs : List V}, ks.length = vs.length → ((ks.zip vs).any fun kv => decide (kv.1 = k)) = decide (k ∈ ks)
  | [], vs, h => by simp
  | k' :: ks, [], h => by simp at h
  | k' :: ks, v :: vs, h => by
    rw [List.zip_cons_cons, List.any_cons, any_key (by simpa using h)]
    by_cases e : k' = k
    · subst e; simp
    · simp [e, Ne.symm e]
theorem put_zip {κ : Type} [DecidableEq κ] {K : PySem.W.Frag} {G H : Hp} {k : κ} {y : V} {d : D} {ks : List κ} {vs : List V} {ch : List D} {F Fw : List Addr} (hl : ks.length = vs.length) (r : RpL K G H vs ch F) (ry : Rp K G H y d Fw) (hz : d.isFz = true) :
    ∃ vs' F', (putKs ks k).length = vs'.length ∧ putK (ks.zip vs) k y = (putKs ks k).zip vs' ∧ RpL K G H vs' (putCh ks ch k d) F' ∧ ∀ b ∈ F', b ∈ F := by
  have ry := ry.shared hz
  unfold putK putKs putCh
  rw [any_key hl]
  by_cases hk : k ∈ ks
  · simp only [hk, decide_true, if_true]
    have key : ∀ (ks : List κ) (vs : List V) (ch : List D) (F : List Addr), ks.length = vs.length → RpL K G H vs ch F → ∃ vs' F', ks.length = vs'.length ∧ (ks.zip vs).map (fun kv => if kv.1 = k then (kv.1, y) else kv) = ks.zip vs' ∧ RpL K G H vs' (List.zipWith (fun k' c => if k' = k then d else c) ks ch) F' ∧ ∀ b ∈ F', b ∈ F := by
      intro ks
      induction ks with
      | nil =>
        intro vs ch F hl r
        refine ⟨[], [], rfl, by simp, ?_, fun b z => by cases z⟩
        simp only [List.zipWith_nil_left]
        exact .nil
      | cons k' ks ih =>
        intro vs ch F hl r
        cases r with
        | nil => simp at hl
        | cons h1 h2 h3 =>
          obtain ⟨vs', F', g1, g2, g3, g4⟩ := ih _ _ _ (by simpa using hl) h2
          rw [List.zip_cons_cons, List.map_cons, List.zipWith_cons_cons, g2]
          by_cases e : k' = k
          · simp only [e, if_true]
            exact ⟨y :: vs', [] ++ F', by simp [g1], by rw [List.zip_cons_cons], .cons ry g3 (fun a z => by cases z), fun b z => List.mem_append_right _ (g4 b (by simpa using z))⟩
          · simp only [e, if_false]
            exact ⟨_ :: vs', _ ++ F', by simp [g1], by rw [List.zip_cons_cons], .cons h1 g3 (fun a z w => h3 a z (g4 a w)), fun b z => (List.mem_append.mp z).elim (fun z => List.mem_append_left _ z) fun z => List.mem_append_right _ (g4 b z)⟩
    exact key ks vs ch F hl r
  · simp only [hk, decide_false, if_false, Bool.false_eq_true]
    refine ⟨vs ++ [y], F ++ [], by simp [hl], by rw [List.zip_append hl]; rfl, r.app (RpL.one ry) (fun _ _ z => by cases z), fun b z => by simpa using z⟩
def mPutD : OpM := fun k ch es Q => ∃ kd d, es = [kd, d] ∧ d.isFz = true ∧ ch.length < 100000 ∧ match k with
  | .dic ks => ∃ x, keyD kd = some x ∧ Q (.dic (putKs ks x)) (putCh ks ch x d) .non
  | .dit ks => ∃ kc x, kd = .n false .tup kc ∧ keysD kc = some x ∧ Q (.dit (putKs ks x)) (putCh ks ch x d) .non
  | _ => False
def dNewT : DE := fun ρ Q _ => Q (.t (.n true (.dit []) [])) ρ
theorem rl2 {K : PySem.W.Frag} {G H : Hp} {ws : List V} {d e : D} {Fw : List Addr} (r : RpL K G H ws [d, e] Fw) : ∃ y z Fa Fb, ws = [y, z] ∧ Rp K G H y d Fa ∧ Rp K G H z e Fb ∧ (∀ b ∈ Fa, b ∈ Fw ∧ b ∉ Fb) ∧ ∀ b ∈ Fb, b ∈ Fw := by
  cases r with
  | cons h1 h2 h3 =>
    cases h2 with
    | cons h4 h5 h6 =>
      cases h5
      simp only [List.append_nil] at h3
      exact ⟨_, _, _, _, rfl, h1, h4, fun b z => ⟨List.mem_append_left _ z, h3 b z⟩, fun b z => by simp [z]⟩
theorem rl1 {K : PySem.W.Frag} {G H : Hp} {ws : List V} {d : D} {Fw : List Addr} (r : RpL K G H ws [d] Fw) : ∃ y, ws = [y] ∧ Rp K G H y d Fw := by
  cases r with
  | cons h1 h2 h3 =>
    cases h2
    rw [List.append_nil]
    exact ⟨_, rfl, h1⟩
theorem m_putD {K : PySem.W.Frag} : SemM K (fun x xs H Q => ∃ i v, xs = [i, v] ∧ rSetD x i v H (fun H' => Q .non H')) mPutD := by
  rintro G H a k vs ch F ws es Fw Q0 Q s hG n r ha rw dw ⟨kd, d, rfl, hz, hl, q⟩ fin
  obtain ⟨y, z, Fa, Fb, rfl, h1, h2, h3, h4⟩ := rl2 rw
  have len := r.len
  have hs : ch.length < sizeLine := Nat.lt_of_lt_of_le hl (by decide)
  cases k with
  | lst => exact q.elim
  | lok => exact q.elim
  | tup => exact q.elim
  | tok => exact q.elim
  | obj _ _ => exact q.elim
  | exc _ _ => exact q.elim
  | dic ks =>
    obtain ⟨x, ex, q⟩ := q
    have := keyD_rp h1 ex
    subst this
    obtain ⟨vs', F', g1, g2, g3, g4⟩ := put_zip (k := x) n.1 r h2 hz
    refine ⟨_, _, rfl, a, _, rfl, DPut.k n.2 (by rw [List.length_zip, n.1]; omega), ?_⟩
    refine fin _ _ .non vs' .non _ F' [] q ⟨g1, by rw [g2]; exact upd_same⟩ g3 (Rp.p _) (fun b hb => .inl (g4 b hb)) fun b hb => by cases hb
  | dit ks =>
    obtain ⟨kc, x, rfl, ex, q⟩ := q
    obtain ⟨b, us, F2, rfl, h5, h6⟩ := h1.tupl s
    have := keysD_rp h6 ex
    subst this
    obtain ⟨vs', F', g1, g2, g3, g4⟩ := put_zip (k := x) n.1 r h2 hz
    refine ⟨_, _, rfl, a, _, rfl, DPut.t n.2 h5 (by rw [List.length_zip, n.1]; omega), ?_⟩
    refine fin _ _ .non vs' .non _ F' [] q ⟨g1, by rw [g2]; exact upd_same⟩ g3 (Rp.p _) (fun b hb => .inl (g4 b hb)) fun b hb => by cases hb
theorem setD_h : ∀ o i v H Q, (fun x xs H (Q : VK) => ∃ i v, xs = [i, v] ∧ rSetD x i v H (fun H' => Q .non H')) o [i, v] H (fun _ H' => Q H') → rSetD o i v H Q := by
  rintro o i v H Q ⟨i', v', e, q⟩
  cases e
  exact q
def rSetd : V → List V → Hp → VK → Prop := fun x vs H Q => ∃ (a : Addr) (kvs : List (Key × V)) (k : Key) (y z : V), x = .ref a ∧ vs = [y, z] ∧ H a = some (.dK kvs) ∧ y = kV k ∧ kvs.length < sizeLine ∧ (∀ v, valV kvs k = some v → Q v H) ∧ (valV kvs k = none → Q z (L2.upd H a (.dK (putK kvs k z))))
def mSetd : OpM := fun k ch es Q => ∃ ks kd d x, k = .dic ks ∧ es = [kd, d] ∧ d.isFz = true ∧ ch.length < 100000 ∧ keyD kd = some x ∧ match lookK ks ch x with
  | some c => c.isFz = true ∧ Q (.dic ks) ch c
  | none => Q (.dic (ks ++ [x])) (ch ++ [d]) d
def rPopD : V → List V → Hp → VK → Prop := fun x vs H Q => ∃ (a : Addr) (kvs : List (Key × V)) (k : Key), x = .ref a ∧ vs = [kV k] ∧ H a = some (.dK kvs) ∧ ∃ v, valV kvs k = some v ∧ Q v (L2.upd H a (.dK (dropK kvs k)))
def rPopD2 : V → List V → Hp → VK → Prop := fun x vs H Q => ∃ (a : Addr) (kvs : List (Key × V)) (k : Key) (z : V), x = .ref a ∧ vs = [kV k, z] ∧ H a = some (.dK kvs) ∧ (∀ v, valV kvs k = some v → Q v (L2.upd H a (.dK (dropK kvs k)))) ∧ (valV kvs k = none → Q z H)
def mPopD : OpM := fun k ch es Q => ∃ ks kd x c, k = .dic ks ∧ es = [kd] ∧ keyD kd = some x ∧ lookK ks ch x = some c ∧ c.isFz = true ∧ Q (.dic (delKs ks x)) (delCh ks ch x) c
def mPopD2 : OpM := fun k ch es Q => ∃ ks kd x d, k = .dic ks ∧ es = [kd, d] ∧ keyD kd = some x ∧ d.isFz = true ∧ match lookK ks ch x with
  | some c => c.isFz = true ∧ Q (.dic (delKs ks x)) (delCh ks ch x) c
  | none => Q (.dic ks) ch d
end
end DL
/-! DL18: methods of lists and texts, dict(..), f-strings. -/
namespace DL
open PySem L2
section
variable {X : Cx} {cn : String → Addr} {E : WX} {pos apos cpos : Pos}
/-! ### lists that one slot holds -/
theorem RpL.erase {K : PySem.W.Frag} {G H : Hp} : ∀ {vs : List V} {ds : List D} {F : List Addr} {k : Nat} {d : D}, RpL K G H vs ds F → ds[k]? = some d → ∃ y F' Fr, vs[k]? = some y ∧ Rp K G H y d Fr ∧ RpL K G H (vs.eraseIdx k) (ds.eraseIdx k) F' ∧ (∀ b ∈ F', b ∈ F) ∧ ∀ b ∈ Fr, b ∈ F ∧ b ∉ F'
  | _, [], _, k, d, h, e => by simp at e
  | _, c :: cs, _, 0, d, .cons h1 h2 h3, e => by
    simp only [List.getElem?_cons_zero, Option.some.injEq] at e
    subst e
    exact ⟨_, _, _, by simp, h1, h2, fun b z => List.mem_append_right _ z, fun b z => ⟨List.mem_append_left _ z, h3 b z⟩⟩
  | _, c :: cs, _, k + 1, d, .cons h1 h2 h3, e => by
    rw [List.getElem?_cons_succ] at e
    obtain ⟨y, F', Fr, g1, g2, g3, g4, g5⟩ := RpL.erase h2 e
    refine ⟨y, _, Fr, by rw [List.getElem?_cons_succ]; exact g1, g2, .cons h1 g3 fun a z w => h3 a z (g4 a w), fun b z => ?_, fun b z => ⟨List.mem_append_right _ (g5 b z).1, fun w => ?_⟩⟩
    · exact (List.mem_append.mp z).elim (fun z => List.mem_append_left _ z) fun z => List.mem_append_right _ (g4 b z)
    · rcases List.mem_append.mp w with w | w
      · exact h3 b w (g5 b z).1
      · exact (g5 b z).2 w
def mPopAt : OpM := fun k ch es Q => ∃ i j d, k = .lst ∧ es = [.p (.int i)] ∧ (-(2 ^ 63) ≤ i ∧ i < 2 ^ 63) ∧ seqIndex? i ch.length = some j ∧ ch[j]? = some d ∧ Q .lst (ch.eraseIdx j) d
theorem m_popAt {K : PySem.W.Frag} : SemM K rPopAt mPopAt := by
  rintro G H a k vs ch F ws es Fw Q0 Q s hG n r ha rw dw ⟨i, j, d, rfl, rfl, ⟨b1, b2⟩, hj, hd, q⟩ fin
  obtain ⟨y, rfl, h1⟩ := rl1 rw
  cases h1
  obtain ⟨z, F', Fr, g1, g2, g3, g4, g5⟩ := r.erase hd
  exact ⟨a, vs, i, j, z, rfl, rfl, n, b1, b2, by rw [r.len]; exact hj, g1, fin .lst _ d (vs.eraseIdx j) z _ F' Fr q upd_same g3 g2 (fun b z => .inl (g4 b z)) fun b z => ⟨.inl (g5 b z).1, (g5 b z).2⟩⟩
def mPop : OpM := fun k ch es Q => ∃ d, k = .lst ∧ es = [] ∧ ch[ch.length - 1]? = some d ∧ Q .lst ch.dropLast d
theorem RpL.ins {K : PySem.W.Frag} {G H : Hp} {y : V} {d : D} {Fw : List Addr} (ry : Rp K G H y d Fw) : ∀ {vs : List V} {ds : List D} {F : List Addr} (k : Nat), RpL K G H vs ds F → (∀ b ∈ Fw, b ∉ F) → ∃ F', RpL K G H (vs.take k ++ [y] ++ vs.drop k) (ds.take k ++ [d] ++ ds.drop k) F' ∧ ∀ b ∈ F', b ∈ F ∨ b ∈ Fw
  | vs, ds, F, 0, h, dj => ⟨_, by simpa using RpL.cons ry h dj, fun b z => (List.mem_append.mp z).elim .inr .inl⟩
  | _, [], _, k + 1, h, dj => by
    cases h
    exact ⟨_, by simpa using RpL.one ry, fun b z => .inr z⟩
  | _, c :: cs, _, k + 1, .cons h1 h2 h3, dj => by
    obtain ⟨F', g1, g2⟩ := RpL.ins ry k h2 fun b z w => dj b z (List.mem_append_right _ w)
    have key := RpL.cons h1 g1 fun a z w => (by
      rcases g2 a w with w | w
      · exact h3 a z w
      · exact dj a w (List.mem_append_left _ z))
    refine ⟨_, by simpa using key, fun b z => ?_⟩
    · rcases List.mem_append.mp z with z | z
      · exact .inl (List.mem_append_left _ z)
      · exact (g2 b z).imp (List.mem_append_right _) id
def mInsert : OpM := fun k ch es Q => ∃ i d, k = .lst ∧ es = [.p (.int i), d] ∧ (0 ≤ i ∧ i < 2 ^ 63 ∧ ch.length < 100000) ∧ Q .lst (ch.take i.toNat ++ [d] ++ ch.drop i.toNat) .non
def mExtend : OpM := fun k ch es Q => ∃ o ch2, k = .lst ∧ es = [.n o .lst ch2] ∧ ch.length + ch2.length ≤ 100000 ∧ Q .lst (ch ++ ch2) .non
theorem m_extend {K : PySem.W.Frag} : SemM K rExtend mExtend := by
  rintro G H a k vs ch F ws es Fw Q0 Q s hG n r ha rw dw ⟨o, ch2, rfl, rfl, b3, q⟩ fin
  obtain ⟨y, rfl, h1⟩ := rl1 rw
  have hl : ∀ zs : List V, zs.length = ch2.length → vs.length + zs.length ≤ sizeLine := fun zs e => by
    rw [r.len, e]; exact Nat.le_trans b3 (by decide)
  cases h1 with
  | f g1 g2 => exact ⟨a, _, vs, _, rfl, rfl, n, s _ _ g1, hl _ g2.len, fin .lst _ .non _ .non _ _ [] q upd_same (r.app g2 fun b z w => (dw b w).1 z) (Rp.p _) (fun b z => (List.mem_append.mp z).imp id id) fun b z => by cases z⟩
  | o g0 g1 g3 g2 => exact ⟨a, _, vs, _, rfl, rfl, n, g1, hl _ g2.len, fin .lst _ .non _ .non _ _ [] q upd_same (r.app g2 fun b z w => (dw b (List.mem_cons_of_mem _ w)).1 z) (Rp.p _) (fun b z => (List.mem_append.mp z).imp id (List.mem_cons_of_mem _)) fun b z => by cases z⟩
def mClear : OpM := fun k ch es Q => k = .lst ∧ es = [] ∧ Q .lst [] .non
/-! ### a method with one argument that only reads -/
def dBM1 (T : String) (r : Op2) (ta tb : DE) : DE := fun ρ Q E => ta ρ (fun x ρ1 => (∃ d, look ρ1 x = some d ∧ tyM d = T ∧ (T = "list" ∨ T = "dict")) ∧ tb ρ1 (fun y ρ2 => ∃ d e, look ρ2 x = some d ∧ look ρ2 y = some e ∧ r d e fun z => Q (.t z) ρ2) E) E
/-! ### xs.index(y), flat items -/
def qIndex : Op2 := fun d e Q => ∃ (vs : List V) (y : V) (j : Nat), listOf d = some (vs.map D.p) ∧ e = .p y ∧ (flatV y && vs.all flatV) = true ∧ vs.findIdx? (fun z => eqV z y) = some j ∧ Q (.int (j : Nat))
/-! ### dict(pairs), dict(d) -/
def keyE : Key → D
  | .inl i => .p (.int i)
  | .inr x => .p (.str x)
def mergeD : List (Key × D) → List Key → List D → List Key × List D
  | [], ks, ch => (ks, ch)
  | (k, d) :: r, ks, ch => mergeD r (putKs ks k) (putCh ks ch k d)
def qDict : OpL := fun ds Q => (∃ d ch kvs, ds = [d] ∧ listOf d = some ch ∧ ch = kvs.map (fun kv => .n false .tup [keyE kv.1, kv.2]) ∧ isFzL (kvs.map (·.2)) = true ∧ kvs.length ≤ 100000 ∧ Q (.n true (.dic (mergeD kvs [] []).1) (mergeD kvs [] []).2)) ∨
  ∃ o ks ch, ds = [.n o (.dic ks) ch] ∧ isFzL ch = true ∧ Q (.n true (.dic ks) ch)
/-! ### f'..' -/
def dFmt (te : DE) : DE := fun ρ Q E => te ρ (fun r ρ1 => ∃ d, look ρ1 r = some d ∧ ((∃ y : Str, d = .p (.str y) ∧ y.length ≤ 100000 ∧ Q (.t (.p (.str y))) ρ1) ∨ ∃ i : Int, d = .p (.int i) ∧ i.natAbs.log2 < 1920 ∧ Q (.t (.p (.str (toString i)))) ρ1)) E
theorem je_fmt {e : Expr} {te : DE} (he : JE X cn E e te) : JE X cn E (.FormattedValue e (-1) none pos) (dFmt te) := by
  refine pe_imp (pe_fmt he) ?_
  rintro σ H Q ⟨pv, γ, ρ, G, fp, Q0, E0, m, q0, po, px⟩
  refine ⟨pv, γ, ρ, G, fp, _, E0, m, q0, fun x ρ1 v G1 H1 fp1 F1 ⟨d, l1, q1⟩ s1 m1 o1 => ?_, px⟩
  have key : ∀ y : Str, Q0 (.t (.p (.str y))) ρ1 → Q (.str y) H1 := fun y q => po (.t _) ρ1 _ G1 H1 fp1 [] q (s1.mono (fun _ z => z) fun a z => .inl (z.elim .inl fun z => by cases z)) m1 ⟨Rp.p _, fun a z => by cases z⟩
  rcases q1 with ⟨y, rfl, h, q⟩ | ⟨i, rfl, h, q⟩
  · exact .inl ⟨y, look_p m1 o1 l1, size_of h, key _ q⟩
  · exact .inr ⟨i, look_p m1 o1 l1, h, key _ q⟩
def dJl : List DE → Str → Env → (Str → Env → Prop) → (Exn → Env → Prop) → Prop
  | [], acc, ρ, Q, _ => Q acc ρ
  | t :: ts, acc, ρ, Q, E => t ρ (fun r ρ1 => ∃ y : Str, look ρ1 r = some (.p (.str y)) ∧ (acc ++ y).length ≤ 100000 ∧ dJl ts (acc ++ y) ρ1 Q E) E
def dJs (ts : List DE) : DE := fun ρ Q E => dJl ts Str.empty ρ (fun out ρ1 => Q (.t (.p (.str out))) ρ1) E
theorem js_run {pv : Nat → V} {σ γ : St} {G0 H0 : Hp} {fp0 : Fps} {Q0 : Rv → Env → Prop} {E0 : Exn → Env → Prop} {Q : VK} (po : PoE X.K pv σ γ G0 H0 fp0 Q0 Q) (px : PoX X.K cn pv γ σ.length G0 H0 fp0 E0 E) : ∀ (ts : List DE) (acc : Str) (ρ : Env) (G H : Hp) (fp : Fps), Stp G0 H0 (InF fp0) G H (InF fp) → Mt X.K pv (σ ++ γ) ρ G H fp →
    dJl ts acc ρ (fun out ρ1 => Q0 (.t (.p (.str out))) ρ1) E0 → tJs (ts.map (liftE X.K cn E)) acc σ H (fun out H1 => Q (.str out) H1)
  | [], acc, ρ, G, H, fp, s, m, q => po (.t _) ρ _ G H fp [] q (s.mono (fun _ z => z) fun a z => .inl (z.elim id fun z => by cases z)) m ⟨Rp.p _, fun a z => by cases z⟩
  | t :: ts, acc, ρ, G, H, fp, s, m, q => ⟨pv, γ, ρ, G, fp, _, E0, m, q, fun r ρ1 v G1 H1 fp1 F1 ⟨y, l1, hl, q1⟩ s1 m1 o1 => ⟨y, look_p m1 o1 l1, size_of hl, js_run po px ts _ ρ1 G1 H1 fp1 (s.trans (drop0 s1)) m1 q1⟩, px.on0 s⟩
theorem je_js {v1 v2 : Expr} {rest : List Expr} {ts : List DE} (h : PJ X (v1 :: v2 :: rest) (ts.map (liftE X.K cn E))) : JE X cn E (.JoinedStr (v1 :: v2 :: rest) pos) (dJs ts) := by
  refine pe_imp (pe_joined h) ?_
  rintro σ H Q ⟨pv, γ, ρ, G, fp, Q0, E0, m, q0, po, px⟩
  exact js_run po px ts _ ρ G H fp (Stp.refl _ _ _) m q0
/-! ### texts -/
def qZfill : Op2
  | .p (.str a), .p (.int i), Q => PadOk i = true ∧ Q (.str (Txt.zfill a i))
  | _, _, _ => False
def qFind : Op2
  | .p (.str a), .p (.str b), Q => Q (.int (Txt.find a b))
  | _, _, _ => False
def qSplit : Op2
  | .p (.str a), .p (.str b), Q => (b.length == 0) = false ∧ a.length ≤ 100000 ∧ Q (.own ((Txt.split a b).map fun y => .p (.str y)))
  | _, _, _ => False
/-! ### tuple(x) -/
end
end DL
/-! DL19: slots forgotten; loops over what they use up; slots that are parts of what others hold. -/
namespace DL
open PySem L2
/-! ### forgetting -/
def dThenW (t : DS) (vs : List Nat) : DS := fun D ρ => t { D with nx := fun ρ1 => D.nx (wipeD ρ1 vs) } ρ
section
variable {X : Cx} {cn : String → Addr} {E : WX} {pos apos cpos : Pos}
theorem PoN.wipe {K : PySem.W.Frag} {pv : Nat → V} {γ : St} {n : Nat} {G H : Hp} {fp : Fps} {N0 : Env → Prop} {N : St → Hp → Prop} {vs : List Nat} (h : PoN K pv γ n G H fp N0 N) : PoN K pv γ n G H fp (fun ρ => N0 (wipeD ρ vs)) N :=
  fun ρ' σ' G' H' fp' q s m l => h _ σ' G' H' fp' q s (m.wipeD vs) l
theorem js_wipe {st : Stmt} {t : DS} {vs : List Nat} (h : JS X cn E st t) : JS X cn E st (dThenW t vs) := ps_imp h fun D σ H ⟨pv, γ, ρ, G, fp, D0, m, q, po⟩ => ⟨pv, γ, ρ, G, fp, _, m, q, po.nx.wipe, po.bk, po.ct, po.rt, po.ex⟩
def dLoopW (g : DG) (tb : DS) (vs : List Nat) (D : DEnds) : List DL.D → Env → Prop
  | [], ρ => D.nx ρ
  | d :: ds, ρ => g (.t d) ρ fun ρ1 => tb { D with nx := fun ρ2 => dLoopW g tb vs D ds (wipeD ρ2 vs), ct := fun ρ2 => dLoopW g tb vs D ds (wipeD ρ2 vs), bk := fun ρ2 => D.nx (wipeD ρ2 vs) } ρ1
def dForW (ti : DI) (g : DG) (tb : DS) (vs : List Nat) : DS := fun D ρ => ti ρ (fun items ρ1 => dLoopW g tb vs D items (wipeD ρ1 vs)) D.ex
def dWhNW (c : DT) (tb : DS) (vs : List Nat) (D : DEnds) : Nat → Env → Prop
  | 0, _ => False
  | n + 1, ρ => c ρ (fun b ρ1 => if b = true then tb { D with nx := fun ρ2 => dWhNW c tb vs D n (wipeD ρ2 vs), ct := fun ρ2 => dWhNW c tb vs D n (wipeD ρ2 vs), bk := fun ρ2 => D.nx (wipeD ρ2 vs) } ρ1 else D.nx ρ1) D.ex
def dWhileW (c : DT) (tb : DS) (vs : List Nat) : DS := fun D ρ => ∃ n, dWhNW c tb vs D n (wipeD ρ vs)
variable {c iter tg : Expr} {body : List Stmt} {tb : DS} {tc : DT} {ti : DI} {g : DG} {S : List Nat} {vs : List Nat}
theorem js_whileW (hp : PassesOwn (model X.prog X.w) X.A X.env X.xe) (hc : JT X cn E c tc) (hb : JSs X cn E body tb) : JS X cn E (.While c body [] pos) (dWhileW tc tb vs) := by
  refine ps_imp (ps_while hp hc hb) ?_
  rintro Dn σ H ⟨pv, γ, ρ, G, fp, D0, m, ⟨n, q⟩, po⟩
  refine ⟨fun k σ' H' => ∃ ρ' G' fp', Mt X.K pv (σ' ++ γ) ρ' G' H' fp' ∧ dWhNW tc tb vs D0 k ρ' ∧ PoS X.K cn pv γ σ.length G' H' fp' D0 Dn E ∧ σ'.length = σ.length, ⟨n, _, G, fp, m.wipeD vs, q, po, rfl⟩, ?_⟩
  rintro k σ1 H1 ⟨ρ1, G1, fp1, m1, q1, po1, l1⟩
  cases k with
  | zero => exact q1.elim
  | succ k =>
    refine ⟨pv, γ, ρ1, G1, fp1, _, D0.ex, m1, q1, fun b ρ2 G2 H2 fp2 q2 s2 m2 => ?_, by rw [l1]; exact po1.ex⟩
    cases b with
    | false => exact po1.nx ρ2 σ1 G2 H2 fp2 q2 s2 m2 l1
    | true =>
      rw [if_pos rfl] at q2 ⊢
      refine ⟨fun σ' H' => ∃ ρ' G' fp', Mt X.K pv (σ' ++ γ) ρ' G' H' fp' ∧ dWhNW tc tb vs D0 k ρ' ∧ PoS X.K cn pv γ σ.length G' H' fp' D0 Dn E ∧ σ'.length = σ.length, fun σ' H' h => ⟨k, Nat.lt_succ_self _, h⟩, ?_⟩
      have po2 := po1.on s2
      refine ⟨pv, γ, ρ2, G2, fp2, _, m2, q2, ?_⟩
      rw [l1]
      exact ⟨fun ρ3 σ3 G3 H3 fp3 q3 s3 m3 l3 => ⟨_, G3, fp3, m3.wipeD vs, q3, po2.on s3, l3⟩, po2.nx.wipe, fun ρ3 σ3 G3 H3 fp3 q3 s3 m3 l3 => ⟨_, G3, fp3, m3.wipeD vs, q3, po2.on s3, l3⟩, po2.rt, po2.ex⟩
theorem js_forW (hp : PassesOwn (model X.prog X.w) X.A X.env X.xe) (hc : X.calm = true) (hi : JI X cn E tg iter ti) (hg : JG X S tg g) (hb : JSs X cn E body tb)
    (hs : ∀ x, foldedSetIterable iter X.env x = pure x := by intro _; rfl) : JS X cn E (.For tg iter body [] pos) (dForW ti g tb vs) := by
  refine ps_imp (ps_for hp hc hi hg hb hs) ?_
  rintro Dn σ H ⟨pv, γ, ρ, G, fp, D0, m, q, po⟩
  refine ⟨pv, γ, ρ, G, fp, _, _, m, q, fun items ρ0 J G0 H0 fp0 q0 s0 m0 wk => ?_, po.ex⟩
  refine ⟨fun i k σ' H' => ∃ ρ' G' fp', k = items.length - i ∧ i ≤ items.length ∧ Sub G0 G' ∧ Mt X.K pv (σ' ++ γ) ρ' G' H' fp' ∧ dLoopW g tb vs D0 (items.drop i) ρ' ∧ PoS X.K cn pv γ σ.length G' H' fp' D0 Dn E ∧ σ'.length = σ.length,
    ⟨items.length, _, G0, fp0, by omega, Nat.zero_le _, fun _ _ z => z, m0.wipeD vs, q0, po.on s0, rfl⟩, ?_⟩
  rintro i k σ1 H1 ⟨ρ1, G1, fp1, rfl, hi, sg, m1, q1, po1, l1⟩
  obtain ⟨w1, w2⟩ := wk G1 H1 sg m1.sub
  by_cases hlt : i < items.length
  · have hd : items[i]? = some items[i] := List.getElem?_eq_getElem hlt
    obtain ⟨go, yl⟩ := w1 i _ hd
    refine .inr ⟨go, fun σ' H' => ∃ ρ' G' fp', Sub G0 G' ∧ Mt X.K pv (σ' ++ γ) ρ' G' H' fp' ∧ dLoopW g tb vs D0 (items.drop (i + 1)) ρ' ∧ PoS X.K cn pv γ σ.length G' H' fp' D0 Dn E ∧ σ'.length = σ.length,
      fun σ' H' ⟨ρ', G', fp', a, b, c, d, e⟩ => ⟨items.length - (i + 1), by omega, ρ', G', fp', rfl, hlt, a, b, c, d, e⟩, fun x H2 hy => ?_⟩
    obtain ⟨G2, s2, hs2, r2⟩ := yl x H2 hy
    rw [List.drop_eq_getElem_cons hlt] at q1
    have m2 := m1.step s2 hs2
    have po2 := po1.on (s2.mono (fun _ z => z.elim) fun _ z => .inr z : Stp G1 H1 (InF fp1) G2 H2 (InF fp1))
    refine ⟨pv, γ, ρ1, G2, fp1, .t items[i], [], _, m2, ⟨r2, fun a z => by cases z⟩, q1, fun ρ3 σ3 G3 H3 fp3 q3 s3 m3 l3 _ => ?_⟩
    have s3' : Stp G2 H2 (InF fp1) G3 H3 (InF fp3) := s3.mono (fun a z => z.elim id fun z => by cases z) fun _ z => .inl z
    have po3 := po2.on s3'
    refine ⟨pv, γ, ρ3, G3, fp3, _, m3, q3, ?_⟩
    rw [l3, l1]
    have sg3 : Sub G0 G3 := fun a o z => s3.g a o (s2.g a o (sg a o z))
    have fin : PoN X.K pv γ σ.length G3 H3 fp3 (fun ρ2 => dLoopW g tb vs D0 (items.drop (i + 1)) (wipeD ρ2 vs)) (fun σ' H' => ∃ ρ' G' fp', Sub G0 G' ∧ Mt X.K pv (σ' ++ γ) ρ' G' H' fp' ∧ dLoopW g tb vs D0 (items.drop (i + 1)) ρ' ∧ PoS X.K cn pv γ σ.length G' H' fp' D0 Dn E ∧ σ'.length = σ.length) :=
      fun ρ4 σ4 G4 H4 fp4 q4 s4 m4 l4 => ⟨_, G4, fp4, fun a o z => s4.g a o (sg3 a o z), m4.wipeD vs, q4, po3.on s4, l4⟩
    exact ⟨fin, po3.nx.wipe, fin, po3.rt, po3.ex⟩
  · refine .inl ⟨w2 i (by omega), ?_⟩
    rw [List.drop_of_length_le (by omega)] at q1
    exact po1.nx ρ1 σ1 G1 H1 fp1 q1 (Stp.refl _ _ _) m1 l1

/-! ### for x in xs, xs used up: each item is x's own -/
def dForC (i : Nat) (g : DG) (tb : DS) (vs : List Nat) : DS := fun D ρ => ∃ ch, ρ[i]? = some (.v (.n true .lst ch)) ∧ dLoopW g tb vs D ch (wipeD ((killB i ρ).set i .un) vs)
theorem RpL.uncons {K : PySem.W.Frag} {G H : Hp} {vs : List V} {d : D} {ds : List D} {F : List Addr} (h : RpL K G H vs (d :: ds) F) : ∃ v vs' F1 F2, vs = v :: vs' ∧ F = F1 ++ F2 ∧ Rp K G H v d F1 ∧ RpL K G H vs' ds F2 ∧ ∀ a ∈ F1, a ∉ F2 := by
  cases h with
  | cons h1 h2 h3 => exact ⟨_, _, _, _, rfl, rfl, h1, h2, h3⟩
theorem RpL.frame {K : PySem.W.Frag} {G H G' H' : Hp} {vs : List V} {ds : List D} {F : List Addr} {P P' : Addr → Prop} (r : RpL K G H vs ds F) (s : Stp G H P G' H' P') (hd : ∀ a ∈ F, ¬ P a) : RpL K G' H' vs ds F ∧ ∀ a ∈ F, ¬ P' a := by
  have hf := RpL.foot ds r
  refine ⟨r.mov s.g _ fun a ha o hg ho => ⟨s.n a o ho hg (hd a ha), s.h a o ho (hd a ha)⟩, fun a ha q => ?_⟩
  rcases s.f a q with z | z
  · exact hd a ha z
  · obtain ⟨_, o, ho⟩ := hf a ha
    rw [z] at ho; cases ho
end
end DL
/-! DL20: slots that are parts of what other slots hold. -/
namespace DL
open PySem L2
/-- a part of a value anew -/
def D.put : D → List Nat → D → D
  | _, [], e => e
  | .p v, _ :: _, _ => .p v
  | .n o k ch, i :: q, e => .n o k (match ch[i]? with
    | some c => ch.set i (D.put c q e)
    | none => ch)
section
variable {K : PySem.W.Frag} {G H H' : Hp}
theorem RpL.focus : ∀ {vs : List V} {ds : List D} {F : List Addr} {i : Nat} {c : D} {z : V}, RpL K G H vs ds F → ds[i]? = some c → vs[i]? = some z →
    ∃ Fi, Rp K G H z c Fi ∧ (∀ a ∈ Fi, a ∈ F) ∧ ∀ (H' : Hp) (c' : D) (Fi' : List Addr), (∀ b o, b ∈ F → b ∉ Fi → H b = some o → H' b = some o) → Rp K G H' z c' Fi' → (∀ b ∈ Fi', b ∈ Fi ∨ b ∉ F) → ∃ F2, RpL K G H' vs (ds.set i c') F2 ∧ (∀ b ∈ F2, (b ∈ F ∧ b ∉ Fi) ∨ b ∈ Fi') ∧ ∀ b ∈ Fi', b ∈ F2
  | _, [], _, i, c, z, h, e, _ => by simp at e
  | _, d :: ds, _, 0, c, z, h, e, ez => by
    obtain ⟨v, vs', F1, F2, rfl, rfl, h1, h2, h3⟩ := h.uncons
    simp only [List.getElem?_cons_zero, Option.some.injEq] at e ez
    subst e ez
    refine ⟨F1, h1, fun a ha => List.mem_append_left _ ha, fun H' c' Fi' hh r hd => ?_⟩
    rw [List.set_cons_zero]
    have h2' : RpL K G H' vs' ds F2 := h2.mov (fun _ _ z => z) _ fun a ha o hg ho => ⟨hg, hh a o (List.mem_append_right _ ha) (fun z => h3 a z ha) ho⟩
    refine ⟨Fi' ++ F2, .cons r h2' fun a ha hb => ?_, fun b hb => ?_, fun b hb => List.mem_append_left _ hb⟩
    · rcases hd a ha with z | z
      · exact h3 a z hb
      · exact z (List.mem_append_right _ hb)
    · rcases List.mem_append.mp hb with z | z
      · exact .inr z
      · exact .inl ⟨List.mem_append_right _ z, fun y => h3 b y z⟩
  | _, d :: ds, _, i + 1, c, z, h, e, ez => by
    obtain ⟨v, vs', F1, F2, rfl, rfl, h1, h2, h3⟩ := h.uncons
    rw [List.getElem?_cons_succ] at e ez
    obtain ⟨Fi, g1, g2, g3⟩ := RpL.focus h2 e ez
    refine ⟨Fi, g1, fun a ha => List.mem_append_right _ (g2 a ha), fun H' c' Fi' hh r hd => ?_⟩
    rw [List.set_cons_succ]
    obtain ⟨F3, k1, k2, k3⟩ := g3 H' c' Fi' (fun b o hb => hh b o (List.mem_append_right _ hb)) r fun b hb => (hd b hb).imp id fun z y => z (List.mem_append_right _ y)
    have h1' : Rp K G H' v d F1 := h1.mov (fun _ _ z => z) _ fun a ha o hg ho => ⟨hg, hh a o (List.mem_append_left _ ha) (fun z => h3 a ha (g2 a z)) ho⟩
    refine ⟨F1 ++ F3, .cons h1' k1 fun a ha hb => ?_, fun b hb => ?_, fun b hb => List.mem_append_right _ (k3 b hb)⟩
    · rcases k2 a hb with z | z
      · exact h3 a ha z.1
      · rcases hd a z with y | y
        · exact h3 a ha (g2 a y)
        · exact y (List.mem_append_left _ ha)
    · rcases List.mem_append.mp hb with z | z
      · exact .inl ⟨List.mem_append_left _ z, fun y => h3 b z (g2 b y)⟩
      · exact (k2 b z).imp (fun y => ⟨List.mem_append_right _ y.1, y.2⟩) id
theorem Rp.focus {P : Addr → Prop} : ∀ {q : List Nat} {x y : V} {d : D} {k : Kd} {ch : List D} {F : List Addr}, Rp K G H x d F → d.at q = some (.n true k ch) → PathV K H P x q y →
    ∃ a vs Fc, y = .ref a ∧ a ∈ F ∧ G a = none ∧ NdO K H a k vs ∧ a ∉ Fc ∧ RpL K G H vs ch Fc ∧ (∀ b ∈ Fc, b ∈ F) ∧
      ∀ (H' : Hp) (k' : Kd) (vs' : List V) (ch' : List D) (F' : List Addr), (∀ b o, b ∈ F → b ≠ a → b ∉ Fc → H b = some o → H' b = some o) → NdO K H' a k' vs' → RpL K G H' vs' ch' F' → (∀ b ∈ F', b ≠ a ∧ (b ∈ Fc ∨ b ∉ F)) →
        ∃ F2, Rp K G H' x (d.put q (.n true k' ch')) F2 ∧ (∀ b ∈ F2, (b ∈ F ∧ b ∉ Fc) ∨ b ∈ F') ∧ (∀ b ∈ F', b ∈ F2) ∧ a ∈ F2 ∧ PathV K H' (fun b => b ∈ F2) x q y
  | [], x, y, d, k, ch, F, r, e, h => by
    have e1 : d = .n true k ch := by
      cases d with
      | p v => simp [D.at] at e
      | n o k0 ch0 => cases o <;> simpa [D.at] using e
    subst e1
    have e2 : x = y := h
    subst e2
    cases r with
    | @o a _ vs _ Fc h0 h1 h3 h2 =>
      refine ⟨a, vs, Fc, rfl, List.mem_cons_self .., h0, h1, h3, h2, fun b hb => List.mem_cons_of_mem _ hb, fun H' k' vs' ch' F' hh hn hr hd => ?_⟩
      refine ⟨a :: F', Rp.o h0 hn (fun z => (hd a z).1 rfl) hr, fun b hb => ?_, fun b hb => List.mem_cons_of_mem _ hb, List.mem_cons_self .., rfl⟩
      rcases List.mem_cons.mp hb with z | z
      · exact .inl ⟨z ▸ List.mem_cons_self .., fun y => h3 (z ▸ y)⟩
      · exact .inr z
  | i :: q, x, y, .p v, k, ch, F, r, e, h => by simp [D.at] at e
  | i :: q, x, y, .n false k0 ch0, k, ch, F, r, e, h => by simp [D.at] at e
  | i :: q, x, y, .n true k0 ch0, k, ch, F, r, e, h => by
    cases r with
    | @o a0 _ vs0 _ F0 h0 h1 h3 h2 =>
      simp only [D.at] at e
      obtain ⟨a', k', vs', z, e1, _, n1, g1, p1⟩ := h
      injection e1 with e1
      subst e1
      have ev := NdO.inj n1 h1
      subst ev
      cases ec : ch0[i]? with
      | none => rw [ec] at e; cases e
      | some c =>
        rw [ec] at e
        obtain ⟨Fi, q1, q2, q3⟩ := RpL.focus h2 ec g1
        obtain ⟨a, vs, Fc, rfl, ha, hg, hn, hac, hrl, hfc, step⟩ := Rp.focus q1 e p1
        have aF : a ∈ F0 := q2 a ha
        have ne0 : a0 ≠ a := fun z => h3 (z ▸ aF)
        refine ⟨a, vs, Fc, rfl, List.mem_cons_of_mem _ aF, hg, hn, hac, hrl, fun b hb => List.mem_cons_of_mem _ (q2 b (hfc b hb)), fun H' k2 vs2 ch2 F' hh hn2 hr2 hd2 => ?_⟩
        obtain ⟨F2, r2, i2, j2, a2, p2⟩ := step H' k2 vs2 ch2 F' (fun b o hb => hh b o (List.mem_cons_of_mem _ (q2 b hb))) hn2 hr2 fun b hb => ⟨(hd2 b hb).1, (hd2 b hb).2.imp id fun z y => z (List.mem_cons_of_mem _ (q2 b y))⟩
        have dF2 : ∀ b ∈ F2, b ∈ Fi ∨ b ∉ F0 := fun b hb => by
          rcases i2 b hb with z | z
          · exact .inl z.1
          · rcases (hd2 b z).2 with y | y
            · exact .inl (hfc b y)
            · exact .inr fun w => y (List.mem_cons_of_mem _ w)
        obtain ⟨F3, r3, i3, j3⟩ := q3 H' _ F2 (fun b o hb hn => hh b o (List.mem_cons_of_mem _ hb) (fun z => hn (z ▸ ha)) fun z => hn (hfc b z)) r2 dF2
        have e0 : ∀ o, H a0 = some o → H' a0 = some o := fun o ho => hh a0 o (List.mem_cons_self ..) ne0 (fun z => h3 (q2 a0 (hfc a0 z))) ho
        have n0 : NdO K H' a0 k0 _ := h1.keep e0
        have n1' : NdO K H' a0 k' _ := n1.keep e0
        have hn0 : a0 ∉ F3 := fun z => by
          rcases i3 a0 z with y | y
          · exact h3 y.1
          · rcases i2 a0 y with w | w
            · exact h3 (q2 a0 w.1)
            · rcases (hd2 a0 w).2 with v | v
              · exact h3 (q2 a0 (hfc a0 v))
              · exact v (List.mem_cons_self ..)
        have ep : (D.n true k0 ch0).put (i :: q) (.n true k2 ch2) = .n true k0 (ch0.set i (c.put q (.n true k2 ch2))) := by
          simp only [D.put, ec]
        rw [ep]
        refine ⟨a0 :: F3, Rp.o h0 n0 hn0 r3, fun b hb => ?_, fun b hb => List.mem_cons_of_mem _ (j3 b (j2 b hb)), List.mem_cons_of_mem _ (j3 a a2), ⟨a0, k', _, z, rfl, List.mem_cons_self .., n1', g1, p2.mono (fun _ _ _ z => z) fun b hb => List.mem_cons_of_mem _ (j3 b hb)⟩⟩
        rcases List.mem_cons.mp hb with w | w
        · exact .inl ⟨w ▸ List.mem_cons_self .., fun z => h3 (q2 a0 (hfc a0 (w ▸ z)))⟩
        · rcases i3 b w with y | y
          · exact .inl ⟨List.mem_cons_of_mem _ y.1, fun z => y.2 (hfc b z)⟩
          · exact (i2 b y).imp (fun v => ⟨List.mem_cons_of_mem _ (q2 b v.1), v.2⟩) id
end

section
variable {K : PySem.W.Frag} {pv : Nat → V} {σ : St} {ρ : Env} {G H H' : Hp} {fp : Fps}
/-- what stands in a slot is changed within -/
theorem Mt.mutG {i : Nat} {s : Sl} {x : V} {d d' : D} {F2 : List Addr} (m : Mt K pv σ ρ G H fp) (hi : ρ[i]? = some s) (hs : s.d? = some d) (hσ : σ[i]? = some (some x))
    (hh : ∀ b o, b ∉ fp i → H b = some o → H' b = some o) (r : Rp K G H' x d' F2) (hd : ∀ b ∈ F2, b ∈ fp i ∨ ¬ InF fp b) :
    Mt K pv σ ((killB i ρ).set i (s.re d')) G H' (updF fp i F2) := by
  have hl : i < ρ.length := (List.getElem?_eq_some_iff.mp hi).1
  have hl' : i < (killB i ρ).length := by rw [killB_len]; exact hl
  have other : ∀ j, j ≠ i → ∀ b ∈ fp j, b ∉ fp i := fun j hj b hb => m.ap j i hj b hb
  have gk : ∀ {j : Nat} {s0 s' : Sl}, j ≠ i → ((killB i ρ).set i s0)[j]? = some s' → s' ≠ .un → ρ[j]? = some s' ∧ ∀ q, s' ≠ .b i q := fun {j s0 s'} hj h hn => by
    rw [List.getElem?_set_ne (Ne.symm hj)] at h
    exact killB_of h hn
  have up : ∀ {x : V} {d : D} {F0 : List Addr}, Rp K G H x d F0 → (∀ b ∈ F0, b ∉ fp i) → Rp K G H' x d F0 := fun r h => r.mov (fun _ _ z => z) _ fun b hb o hg ho => ⟨hg, hh b o (h b hb) ho⟩
  have dF : ∀ b ∈ F2, ∀ j, j ≠ i → b ∉ fp j := fun b hb j hj z => by
    rcases hd b hb with y | y
    · exact m.ap i j (Ne.symm hj) b y z
    · exact y ⟨j, z⟩
  refine ⟨fun b o z => ?_, by rw [List.length_set, killB_len]; exact m.len, fun j d' h => ?_, fun j d' h => ?_, fun j l q h => ?_, fun j l hjl b hb => ?_, fun j b hb => ?_⟩
  · exact hh b o (fun y => by rw [(m.ft i b y).1] at z; cases z) (m.sub b o z)
  · by_cases hj : j = i
    · subst hj
      rw [List.getElem?_set_self hl'] at h
      cases s with
      | un => cases hs
      | b _ _ => cases hs
      | v _ => cases h; exact ⟨_, hσ, by rw [updF_same]; exact r⟩
      | w _ => cases h
    · obtain ⟨x, h1, h2⟩ := m.sl j d' (gk hj h (by intro z; cases z)).1
      exact ⟨x, h1, by rw [updF_ne hj]; exact up h2 (other j hj)⟩
  · by_cases hj : j = i
    · subst hj
      rw [List.getElem?_set_self hl'] at h
      cases s with
      | un => cases hs
      | b _ _ => cases hs
      | v _ => cases h
      | w d0 =>
        cases h
        have e := (m.pn j d0 hi).1
        rw [hσ] at e
        have e' : x = pv j := Option.some.inj (Option.some.inj e)
        exact ⟨by rw [← e']; exact hσ, by rw [updF_same, ← e']; exact r⟩
    · obtain ⟨h1, h2⟩ := m.pn j d' (gk hj h (by intro z; cases z)).1
      exact ⟨h1, by rw [updF_ne hj]; exact up h2 (other j hj)⟩
  · by_cases hj : j = i
    · subst hj
      rw [List.getElem?_set_self hl'] at h
      cases s with
      | un => cases hs
      | b _ _ => cases hs
      | v _ => cases h
      | w _ => cases h
    · obtain ⟨g1, g2⟩ := gk hj h (by intro z; cases z)
      obtain ⟨x, y, h1, h2, h3⟩ := m.br j l q g1
      have hk : l ≠ i := fun z => g2 q (by rw [z])
      refine ⟨x, y, h1, h2, ?_⟩
      rw [updF_ne hk]
      exact h3.mono (fun b o hb z => hh b o (other l hk b hb) z) fun _ z => z
  · by_cases hj : j = i
    · subst hj
      rw [updF_same] at hb
      rw [updF_ne (Ne.symm hjl)]
      exact dF b hb l (Ne.symm hjl)
    · rw [updF_ne hj] at hb
      by_cases hk : l = i
      · subst hk
        rw [updF_same]
        exact fun z => dF b z j hj hb
      · rw [updF_ne hk]; exact m.ap j l hjl b hb
  · by_cases hj : j = i
    · subst hj
      rw [updF_same] at hb
      exact Rp.foot _ r b hb
    · rw [updF_ne hj] at hb
      obtain ⟨h1, o, h2⟩ := m.ft j b hb
      exact ⟨h1, o, hh b o (other j hj b hb) h2⟩
end
section
variable {X : Cx} {cn : String → Addr} {E : WX} {pos apos cpos : Pos} {i j : Nat}
/-- x = y[e]: x stands for a part of what slot j holds -/
def dBor (i j : Nat) (te : DE) : DS := fun D ρ => (∃ s d, ρ[j]? = some s ∧ s.d? = some d) ∧ te ρ (fun r ρ1 => ∃ n s ch m k' ch', look ρ1 r = some (.p (.int n)) ∧ ρ1[j]? = some s ∧ s.d? = some (.n true .lst ch) ∧ ixN ch.length n = some m ∧ ch[m]? = some (.n true k' ch') ∧ okV ρ1 i = true ∧
  D.nx ((killB i ρ1).set i (.b j [m]))) D.ex
/-- x.m(e, ..): x in slot i, a part of what another one holds -/
def dMutB (T : String) (i : Nat) (r : OpM) (t : DA) : DE := fun ρ Q E => (∃ d, slD ρ i = some d ∧ tyM d = T ∧ (T = "list" ∨ T = "dict")) ∧ t ρ (fun rs ρ1 => ∃ es ρ2 j q s root k ch, tkL ρ1 rs = some (es, ρ2) ∧ ρ2[i]? = some (Sl.b j q) ∧ ρ2[j]? = some s ∧ s.d? = some root ∧ root.at q = some (.n true k ch) ∧
  r k ch es fun k' ch' res => Q (.t res) (((killB j ρ2).set j (s.re (root.put q (.n true k' ch')))).set i (.b j q))) E
/-! ### x[e] = .. as a target -/
/-- what is stored within slot n: itself, or where it is a part of another one -/
def mutK (n : Nat) (r : OpM) (rs : List Rv) (ρ : Env) (Q : Env → Prop) : Prop :=
  (∃ es ρ2 s k ch, tkL ρ rs = some (es, ρ2) ∧ ρ2[n]? = some s ∧ s.d? = some (.n true k ch) ∧ r k ch es fun k' ch' _ => Q ((killB n ρ2).set n (s.re (.n true k' ch')))) ∨
  ∃ es ρ2 j q s root k ch, tkL ρ rs = some (es, ρ2) ∧ ρ2[n]? = some (Sl.b j q) ∧ ρ2[j]? = some s ∧ s.d? = some root ∧ root.at q = some (.n true k ch) ∧ r k ch es fun k' ch' _ => Q (((killB j ρ2).set j (s.re (root.put q (.n true k' ch')))).set n (.b j q))
def dGSub (T : String) (n : Nat) (r : OpM) (ti : DE) : DG := fun x ρ Q => (∃ d, slD ρ n = some d ∧ tyM d = T ∧ (T = "list" ∨ T = "dict")) ∧ ti ρ (fun y ρ1 => mutK n r [y, x] ρ1 Q) (fun _ _ => False)
end
end DL
/-! DL21: targets that are tuples; what is never reached. -/
namespace DL
open PySem L2
abbrev DGs := List D → Env → (Env → Prop) → Prop
def dGNil : DGs := fun ds ρ Q => ds = [] ∧ Q ρ
def dGCons (g : DG) (gs : DGs) : DGs := fun ds ρ Q => match ds with
  | d :: ds => g (.t d) ρ fun ρ1 => gs ds ρ1 Q
  | [] => False
def dGTup (n : Nat) (gs : DGs) : DG := fun r ρ Q => ∃ d ρ1 ch, tkF ρ r = some (d, ρ1) ∧ itemsOf d = some ch ∧ ch.length = n ∧ gs ch ρ1 Q
def liftGs (K : PySem.W.Frag) (S : List Nat) (gs : DGs) : TGs := fun vs σ H Q => ∃ pv γ ρ G fp ds N0, Mt K pv (σ ++ γ) ρ G H fp ∧ RpL K G H vs ds [] ∧ gs ds ρ N0 ∧
  ∀ ρ' σ' G' H' fp', N0 ρ' → Stp G H (InF fp) G' H' (InF fp') → Mt K pv (σ' ++ γ) ρ' G' H' fp' → σ'.length = σ.length → (∀ i, i ∉ S → σ'[i]? = σ[i]?) → Q σ' H'
abbrev JGs (X : Cx) (S : List Nat) (es : List Expr) (gs : DGs) : Prop := PGs X es (liftGs X.K S gs)
section
variable {X : Cx} {cn : String → Addr} {E : WX} {pos : Pos} {S S' : List Nat} {e : Expr} {es : List Expr} {g : DG} {gs : DGs}
theorem pgs_imp {t t' : TGs} (h : PGs X es t) (i : ∀ vs σ H Q, t' vs σ H Q → t vs σ H Q) : PGs X es t' := ⟨fun pins s σ H vs us Q I r q => h.run pins s σ H vs us Q I r (i vs σ H Q q)⟩
theorem jg_mono (h : JG X S e g) (hs : ∀ i ∈ S, i ∈ S') : JG X S' e g := pg_imp h fun v σ H Q ⟨pv, γ, ρ, G, fp, r, F, N0, m, o, q, po⟩ =>
  ⟨pv, γ, ρ, G, fp, r, F, N0, m, o, q, fun ρ' σ' G' H' fp' a b c d e => po ρ' σ' G' H' fp' a b c d fun i hi => e i fun z => hi (hs i z)⟩
theorem jgs_nil : JGs X S [] dGNil := pgs_imp pgs_nil fun vs σ H Q ⟨pv, γ, ρ, G, fp, ds, N0, m, o, ⟨e, q⟩, po⟩ => by
  subst e
  exact ⟨RpL.nil2 o, po ρ σ G H fp q (Stp.refl _ _ _) m rfl fun _ _ => rfl⟩
theorem jgs_cons (h1 : JG X S e g) (h2 : JGs X S es gs) (hs : (assignEach (e :: es) X.env).map (·.2) = assign e X.env :: (assignEach es X.env).map (·.2) := by rfl) : JGs X S (e :: es) (dGCons g gs) := by
  refine pgs_imp (pgs_cons h1 h2 hs) ?_
  rintro vs σ H Q ⟨pv, γ, ρ, G, fp, ds, N0, m, o, q, po⟩
  cases ds with
  | nil => exact q.elim
  | cons d ds =>
    obtain ⟨x, xs, rfl, r1, r2⟩ := RpL.cons2 o
    refine ⟨x, xs, rfl, pv, γ, ρ, G, fp, .t d, [], _, m, ⟨r1, fun a z => by cases z⟩, q, fun ρ1 σ1 G1 H1 fp1 q1 s1 m1 l1 k1 => ?_⟩
    have s1' : Stp G H (InF fp) G1 H1 (InF fp1) := s1.mono (fun a z => z.elim id fun z => by cases z) fun _ z => .inl z
    refine ⟨pv, γ, ρ1, G1, fp1, ds, N0, m1, r2.mov s1.g _ (fun a z => by cases z), q1, fun ρ2 σ2 G2 H2 fp2 q2 s2 m2 l2 k2 => po ρ2 σ2 G2 H2 fp2 q2 (s1'.trans s2) m2 (l2.trans l1) fun i hi => (k2 i hi).trans (k1 i hi)⟩
theorem pg_alt {t t' : TG} (h : PG X e t) (h' : PG X e t') : PG X e (fun v σ H Q => t v σ H Q ∨ t' v σ H Q) := ⟨fun pins s σ H v u Q I r q => q.elim (h.run pins s σ H v u Q I r) (h'.run pins s σ H v u Q I r)⟩
theorem jg_tup {k n : Nat} (hc : X.calm = true) (h : JGs X S es gs) (hn : (assignEach es X.env).length = n := by rfl) (hst : (assignEach es X.env).findIdx? (·.1) = none := by rfl) : JG X S (.Tuple es k pos) (dGTup n gs) := by
  refine pg_imp (pg_alt (pg_tup hc h hn hst) (pg_lst hc h hn hst)) ?_
  rintro v σ H Q ⟨pv, γ, ρ, G, fp, r, F, N0, m, o, ⟨d, ρ1, ch, e1, e2, e3, q⟩, po⟩
  obtain ⟨G2, fp2, s2, m2, r2, i2⟩ := tkF_ok m o (fun _ z => z) e1
  have lift : ∀ vs, RpL X.K G2 H vs ch [] → liftGs X.K S gs vs σ H Q := fun vs hr => ⟨pv, γ, ρ1, G2, fp2, ch, N0, m2, hr, q, fun ρ' σ' G' H' fp' q' s' m' l' k' => po ρ' σ' G' H' fp' q' (s2.trans s') m' l' k'⟩
  cases r2 with
  | p _ => simp only [itemsOf] at e2; cases e2
  | @f a kd vs ch' _ h1 h2 =>
    have hl := h2.len
    cases kd with
    | lst => simp only [itemsOf, Option.some.injEq] at e2; subst e2; exact .inr ⟨a, vs, rfl, .inl (.inl (m2.sub _ _ h1)), by omega, lift vs h2⟩
    | lok => simp only [itemsOf, Option.some.injEq] at e2; subst e2; exact .inr ⟨a, vs, rfl, SqL.mono m2.sub h1, by omega, lift vs h2⟩
    | tup => simp only [itemsOf, Option.some.injEq] at e2; subst e2; exact .inl ⟨a, vs, rfl, .inl (.inl (m2.sub _ _ h1)), by omega, lift vs h2⟩
    | tok => simp only [itemsOf, Option.some.injEq] at e2; subst e2; exact .inl ⟨a, vs, rfl, SqT.mono m2.sub h1, by omega, lift vs h2⟩
    | dic _ => simp only [itemsOf] at e2; cases e2
    | dit _ => simp only [itemsOf] at e2; cases e2
    | obj _ _ => simp only [itemsOf] at e2; cases e2
    | exc _ _ => simp only [itemsOf] at e2; cases e2
/-! ### list(d.items()) -/
def keyOf : List Key → List D → List D
  | k :: ks, d :: ds => .n false .tup [keyE k, d] :: keyOf ks ds
  | _, _ => []
def dListItems (te : DE) : DE := fun ρ Q E => te ρ (fun r ρ1 => ∃ o ks ch, look ρ1 r = some (.n o (.dic ks) ch) ∧ isFzL ch = true ∧ Q (.t (.n true .lst (keyOf ks ch))) ρ1) E
end
end DL
/-! DL22: running: dicts, what is written, loops that forget, targets. -/
namespace DL
open PySem L2
open Enc (en)
/-! ### dicts of plain things -/
class KeyE (κ : Type) [Enc κ] where
  key : κ → Key
  inj : ∀ a b, key a = key b → a = b
  kd : ∀ a, keyD (en a) = some (key a)
instance : KeyE Int := ⟨.inl, fun _ _ h => by injection h, fun _ => rfl⟩
instance : KeyE Str := ⟨.inr, fun _ _ h => by injection h, fun _ => rfl⟩
section
variable {κ β : Type} [DecidableEq κ]
def aget : List (κ × β) → κ → Option β
  | [], _ => none
  | p :: r, k => if p.1 = k then some p.2 else aget r k
def aput (kv : List (κ × β)) (k : κ) (v : β) : List (κ × β) := if k ∈ kv.map (·.1) then kv.map fun p => (p.1, if p.1 = k then v else p.2) else kv ++ [(k, v)]
def adel (kv : List (κ × β)) (k : κ) : List (κ × β) := kv.filter fun p => decide (p.1 ≠ k)
theorem aget_none {kv : List (κ × β)} {k : κ} : aget kv k = none ↔ k ∉ kv.map (·.1) := by
  induction kv with
  | nil => simp [aget]
  | cons p r ih =>
    by_cases h : p.1 = k
    · simp [aget, h]
    · simp only [aget, h, if_false, ih, List.map_cons, List.mem_cons, not_or]
      exact ⟨fun z => ⟨fun y => h y.symm, z⟩, fun z => z.2⟩
theorem aget_mem {kv : List (κ × β)} {k : κ} {v : β} (h : aget kv k = some v) : (k, v) ∈ kv := by
  induction kv with
  | nil => simp [aget] at h
  | cons p r ih =>
    by_cases e : p.1 = k
    · simp only [aget, e, if_true, Option.some.injEq] at h
      subst e h
      exact List.mem_cons_self ..
    · simp only [aget, e, if_false] at h
      exact List.mem_cons_of_mem _ (ih h)
theorem aget_app (kv kv' : List (κ × β)) (k : κ) : aget (kv ++ kv') k = (aget kv k).or (aget kv' k) := by
  induction kv with
  | nil => simp [aget]
  | cons p r ih =>
    by_cases e : p.1 = k
    · simp [aget, e]
    · simp [aget, e, ih]
theorem aget_put (kv : List (κ × β)) (k j : κ) (v : β) : aget (aput kv k v) j = if j = k then some v else aget kv j := by
  unfold aput
  by_cases hk : k ∈ kv.map (·.1)
  · simp only [hk, if_true]
    induction kv with
    | nil => simp at hk
    | cons p r ih =>
      rw [List.map_cons]
      by_cases e : p.1 = j
      · subst e
        by_cases e2 : p.1 = k
        · simp [aget, e2]
        · simp [aget, e2]
      · simp only [aget, e, if_false]
        by_cases hr : k ∈ r.map (·.1)
        · exact ih hr
        · have hpk : p.1 = k := by
            rcases List.mem_cons.mp hk with z | z
            · exact z.symm
            · exact absurd z hr
          have hj : j ≠ k := fun z => e (by rw [z, hpk])
          simp only [hj, if_false]
          have : (r.map fun p => (p.1, if p.1 = k then v else p.2)) = r := by
            have : ∀ q ∈ r, (fun p : κ × β => (p.1, if p.1 = k then v else p.2)) q = q := fun q hq => by
              have : q.1 ≠ k := fun z => hr (List.mem_map.mpr ⟨q, hq, z⟩)
              simp [this]
            rw [List.map_congr_left this, List.map_id']
          rw [this]
  · simp only [hk, if_false, aget_app]
    by_cases e : j = k
    · subst e
      rw [aget_none.mpr hk]
      simp [aget]
    · simp [aget, Ne.symm e, e]
theorem aput_len (kv : List (κ × β)) (k : κ) (v : β) : (aput kv k v).length ≤ kv.length + 1 := by
  unfold aput
  split <;> simp
end
section
variable {κ β : Type} [DecidableEq κ] [Enc κ] [KeyE κ] [Enc β]
/-- a dict -/
abbrev dE (o : Bool) (kv : List (κ × β)) : D := .n o (.dic (kv.map fun p => KeyE.key p.1)) (kv.map fun p => en p.2)
theorem key_eq {a b : κ} : KeyE.key a = KeyE.key b ↔ a = b := ⟨KeyE.inj a b, fun h => by rw [h]⟩
theorem lookK_e (kv : List (κ × β)) (k : κ) : lookK (kv.map fun p => KeyE.key p.1) (kv.map fun p => (en p.2 : D)) (KeyE.key k) = (aget kv k).map en := by
  induction kv with
  | nil => rfl
  | cons p r ih =>
    rw [List.map_cons, List.map_cons, lookK, aget, ih]
    by_cases e : p.1 = k
    · simp [e]
    · simp [e, key_eq]
theorem mem_key {kv : List (κ × β)} {k : κ} : KeyE.key k ∈ (kv.map fun p => KeyE.key p.1) ↔ k ∈ kv.map (·.1) := by
  simp only [List.mem_map, key_eq]
theorem dictD_e {o : Bool} (kv : List (κ × β)) (k : κ) : dictD (dE o kv) (en k) = some ((aget kv k).map en) := by
  show (keyD (en k)).map _ = _
  rw [KeyE.kd, Option.map_some, lookK_e]
theorem put_e (kv : List (κ × β)) (k : κ) (v : β) : putKs (kv.map fun p => KeyE.key p.1) (KeyE.key k) = ((aput kv k v).map fun p => KeyE.key p.1) ∧ putCh (kv.map fun p => KeyE.key p.1) (kv.map fun p => (en p.2 : D)) (KeyE.key k) (en v) = (aput kv k v).map fun p => en p.2 := by
  unfold putKs putCh aput
  simp only [mem_key]
  by_cases h : k ∈ kv.map (·.1)
  · simp only [h, if_true]
    refine ⟨by rw [List.map_map]; rfl, ?_⟩
    rw [List.zipWith_map, List.zipWith_self, List.map_map]
    refine List.map_congr_left fun p _ => ?_
    simp only [key_eq, Function.comp]
    by_cases e : p.1 = k <;> simp [e]
  · simp only [h, if_false]
    exact ⟨by rw [List.map_append]; rfl, by rw [List.map_append]; rfl⟩
theorem fz_dE (kv : List (κ × β)) : (dE false kv).isFz = true := by
  have : (kv.map fun p => (en p.2 : D)) = (kv.map (·.2)).map en := by rw [List.map_map]; rfl
  show (!false && isFzL _) = true
  rw [this, fzl_e]
  rfl
end

/-! ### what is written -/
section
variable {n : Env → Prop} {rt : D → Env → Prop} {bk ct : Env → Prop} {ex : Exn → Env → Prop} {ρ ρ1 ρ2 : Env} {Q : Rv → Env → Prop} {QI : List D → Env → Prop} {E : Exn → Env → Prop}
  {t tb : DS} {te ta tc tt : DE} {tA : DA} {c : DT} {ti : DI} {g : DG} {gs : DGs} {d d' e : D} {ds es ch ch' : List D} {i j : Nat} {x y z : Rv} {xs : List Rv} {T : String} {m : OpM} {kd k' : Kd} {s : Sl} {res : D} {k : D → Env → Prop} {vs : List Nat}
def muE (i : Nat) (ρ2 : Env) (s : Sl) (k' : Kd) (ch' : List D) (res : D) (k : D → Env → Prop) : Prop := k res ((killB i ρ2).set i (s.re (.n true k' ch')))
theorem w_mu (h1 : tkL ρ xs = some (es, ρ2)) (h2 : ρ2[i]? = some s) (h3 : s.d? = some (.n true kd ch)) (h : m kd ch es fun k' ch' res => muE i ρ2 s k' ch' res k) : mu2K i m xs ρ k := ⟨es, ρ2, s, kd, ch, h1, h2, h3, h⟩
theorem w_muV (h1 : (killB i ρ2).set i (.v (.n true k' ch')) = ρ1) (h : k res ρ1) : muE i ρ2 (.v d) k' ch' res k := by subst h1; exact h
theorem w_muW (h1 : (killB i ρ2).set i (.w (.n true k' ch')) = ρ1) (h : k res ρ1) : muE i ρ2 (.w d) k' ch' res k := by subst h1; exact h
/-- of a slot that is a part of another one -/
def muB (i : Nat) (m : OpM) (xs : List Rv) (ρ : Env) (k : D → Env → Prop) : Prop := ∃ es ρ2 j q s root kd ch, tkL ρ xs = some (es, ρ2) ∧ ρ2[i]? = some (Sl.b j q) ∧ ρ2[j]? = some s ∧ s.d? = some root ∧ root.at q = some (.n true kd ch) ∧
  m kd ch es fun k' ch' res => k res (((killB j ρ2).set j (s.re (root.put q (.n true k' ch')))).set i (.b j q))
theorem w_mutB (h0 : ∃ d, slD ρ i = some d ∧ tyM d = T ∧ (T = "list" ∨ T = "dict")) (h : tA ρ (fun rs ρ1 => muB i m rs ρ1 fun res ρ3 => Q (.t res) ρ3) E) : dMutB T i m tA ρ Q E := ⟨h0, h⟩
/-- own rows in an own list -/
abbrev eoo {α : Type} [Enc α] (rows : List (List α)) : D := .n true .lst (rows.map eo)
def mbE (i : Nat) (ρ2 : Env) (j m : Nat) (root : D) (k' : Kd) (ch' : List D) (res : D) (k : D → Env → Prop) : Prop := k res (((killB j ρ2).set j (.v (root.put [m] (.n true k' ch')))).set i (.b j [m]))
theorem oo_at {α : Type} [Enc α] {rows : List (List α)} {row : List α} {p : Nat} (h : rows[p]? = some row) : (eoo rows).at [p] = some (eo row) := by
  simp only [eoo, D.at, List.getElem?_map, h, Option.map_some]
theorem oo_put {α : Type} [Enc α] {rows : List (List α)} {row row' : List α} {p : Nat} (h : rows[p]? = some row) : (eoo rows).put [p] (eo row') = eoo (rows.set p row') := by
  simp only [eoo, D.put, List.getElem?_map, h, Option.map_some, List.map_set]
theorem sl_oo {α : Type} {inst : Enc α} {rows : List (List α)} {row : List α} {p : Nat} (h1 : ρ[i]? = some (.b j [p])) (h2 : ρ[j]? = some (.v (eoo rows))) (h3 : rows[p]? = some row) : slD ρ i = some (eo row) := by
  have : rootD ρ j = some (eoo rows) := by simp only [rootD, h2]
  simp only [slD, h1, this, Option.bind_some]
  exact oo_at h3
theorem w_muB {α : Type} {inst : Enc α} {rows : List (List α)} {row : List α} {p : Nat} (h1 : tkL ρ xs = some (es, ρ2)) (h2 : ρ2[i]? = some (.b j [p])) (h3 : ρ2[j]? = some (.v (eoo rows))) (h4 : rows[p]? = some row) (h : m .lst (row.map en) es fun k' ch' res => mbE i ρ2 j p (eoo rows) k' ch' res k) : muB i m xs ρ k :=
  ⟨es, ρ2, j, [p], _, eoo rows, .lst, row.map en, h1, h2, h3, rfl, oo_at h4, h⟩
theorem w_mbE {α : Type} {inst : Enc α} {rows : List (List α)} {row row' : List α} {p : Nat} (h4 : rows[p]? = some row) (h1 : ((killB j ρ2).set j (.v (eoo (rows.set p row')))).set i (.b j [p]) = ρ1) (h : k res ρ1) : mbE i ρ2 j p (eoo rows) .lst (row'.map en) res k := by
  subst h1
  unfold mbE
  have e := oo_put (row' := row') h4
  unfold eo at e
  rw [e]
  exact h
/-! the methods, of plain things -/
section
variable {α : Type} {inst : Enc α} {xs' : List α} {a : α} {K : Kd → List D → D → Prop} {p : Int} {l : Nat}
theorem m_appE (h1 : xs'.length < 100000) (h : K .lst ((xs' ++ [a]).map en) .non) : mAppend .lst (xs'.map en) [en a] K := ⟨_, rfl, rfl, by rw [List.length_map]; exact h1, by rw [List.map_append] at h; exact h⟩
theorem m_setE (h1 : ixN xs'.length p = some l) (h : K .lst ((xs'.set l a).map en) .non) : mSetL .lst (xs'.map en) [.p (.int p), en a] K := ⟨p, _, l, rfl, rfl, by rw [List.length_map]; exact h1, by rw [List.map_set] at h; exact h⟩
theorem m_insE (h1 : 0 ≤ p ∧ p < 2 ^ 63 ∧ xs'.length < 100000) (h : K .lst ((xs'.take p.toNat ++ [a] ++ xs'.drop p.toNat).map en) .non) : mInsert .lst (xs'.map en) [.p (.int p), en a] K := ⟨p, _, rfl, rfl, by rw [List.length_map]; exact h1, by
  rw [List.map_append, List.map_append, List.map_take, List.map_drop] at h; exact h⟩
theorem eraseIdx_map' {α β : Type} (f : α → β) : ∀ (l : List α) (n : Nat), (l.map f).eraseIdx n = (l.eraseIdx n).map f
  | [], _ => rfl
  | a :: l, 0 => rfl
  | a :: l, n + 1 => by simp [eraseIdx_map' f l n]
theorem m_popE {y : α} (h1 : p = (l : Nat)) (h2 : xs'[l]? = some y) (hb : l < 100000) (h : K .lst ((xs'.eraseIdx l).map en) (en y)) : mPopAt .lst (xs'.map en) [.p (.int p)] K := by
  have hl := (List.getElem?_eq_some_iff.mp h2).1
  subst h1
  refine ⟨_, l, en y, rfl, rfl, ⟨by omega, by omega⟩, ?_, by rw [List.getElem?_map, h2]; rfl, by rw [eraseIdx_map']; exact h⟩
  unfold seqIndex?
  rw [List.length_map]
  simp
  omega
theorem m_extE {o : Bool} {ys : List α} (h1 : xs'.length + ys.length ≤ 100000) (h : K .lst ((xs' ++ ys).map en) .non) : mExtend .lst (xs'.map en) [.n o .lst (ys.map en)] K := ⟨o, _, rfl, rfl, by rw [List.length_map, List.length_map]; exact h1, by rw [List.map_append] at h; exact h⟩
theorem m_clrE (h : K .lst (([] : List α).map en) .non) : mClear .lst (xs'.map en) [] K := ⟨rfl, rfl, h⟩
end
section
variable {κ β : Type} {i0 : DecidableEq κ} {i1 : Enc κ} {i2 : KeyE κ} {i3 : Enc β} {kv : List (κ × β)} {a : κ} {b : β} {K : Kd → List D → D → Prop}
theorem m_putE (h1 : kv.length < 100000) (h : K (.dic ((aput kv a b).map fun p => KeyE.key p.1)) ((aput kv a b).map fun p => en p.2) .non) : mPutD (.dic (kv.map fun p => KeyE.key p.1)) (kv.map fun p => en p.2) [en a, en b] K := by
  refine ⟨_, _, rfl, Enc.fz b, by rw [List.length_map]; exact h1, KeyE.key a, KeyE.kd a, ?_⟩
  obtain ⟨e1, e2⟩ := put_e kv a b
  rw [e1, e2]
  exact h
theorem w_newD (h : Q (.t (.n true (.dic []) [])) ρ) : dNewD ρ Q E := h
def isDK (x : Rv) (ρ : Env) (p : Prop) : Prop := (∃ d, look ρ x = some d ∧ isDic d = true) ∧ p
theorem w_isDK {p : Prop} (h1 : look ρ x = some d) (h2 : isDic d = true) (h : p) : isDK x ρ p := ⟨⟨d, h1, h2⟩, h⟩
def g2K (x y z : Rv) (ρ : Env) (k : D → Prop) : Prop := ∃ d k' dz o, look ρ x = some d ∧ look ρ y = some k' ∧ look ρ z = some dz ∧ dictD d k' = some o ∧ (o.getD dz).isFz = true ∧ k (o.getD dz)
theorem w_get2 (h : ta ρ (fun x ρ1 => isDK x ρ1 (tt ρ1 (fun y ρ2 => tc ρ2 (fun z ρ3 => g2K x y z ρ3 fun d => Q (.t d) ρ3) E) E)) E) : dGet2 ta tt tc ρ Q E := h
theorem w_g2E {o : Bool} {dz : D} {k : D → Prop} (h1 : look ρ x = some (.n o (.dic (kv.map fun p => KeyE.key p.1)) (kv.map fun p => en p.2))) (h2 : look ρ y = some (en a)) (h3 : look ρ z = some dz) (hz : dz.isFz = true) (h : k (((aget kv a).map en).getD dz)) : g2K x y z ρ k := by
  refine ⟨_, _, _, _, h1, h2, h3, dictD_e kv a, ?_, h⟩
  cases aget kv a with
  | none => exact hz
  | some v => exact Enc.fz v
theorem w_ixD {o : Bool} {k : D → Prop} (h1 : aget kv a = some b) (h : k (en b)) : qIxS (.n o (.dic (kv.map fun p => KeyE.key p.1)) (kv.map fun p => en p.2)) (en a) k := ⟨en b, by rw [dictD_e, h1]; rfl, Enc.fz b, h⟩
theorem w_inD {o : Bool} {neg : Bool} {k : D → Prop} (h : k (.bl (if neg = true then !decide (a ∈ kv.map (·.1)) else decide (a ∈ kv.map (·.1))))) : qInS neg (en a) (.n o (.dic (kv.map fun p => KeyE.key p.1)) (kv.map fun p => en p.2)) k := by
  refine ⟨_, dictD_e kv a, ?_⟩
  have : ((aget kv a).map (en : β → D)).isSome = decide (a ∈ kv.map (·.1)) := by
    cases e : aget kv a with
    | none => simp only [Option.map_none, Option.isSome_none]; rw [decide_eq_false (aget_none.mp e)]
    | some v => simp only [Option.map_some, Option.isSome_some]; rw [decide_eq_true (by
        apply Classical.byContradiction
        intro z
        rw [aget_none.mpr z] at e
        cases e)]
  rw [this]
  exact h
theorem w_inDf {o : Bool} {k : D → Prop} (h : k (.bl (decide (a ∈ kv.map (·.1))))) : qInS false (en a) (.n o (.dic (kv.map fun p => KeyE.key p.1)) (kv.map fun p => en p.2)) k := w_inD h
theorem w_inDt {o : Bool} {k : D → Prop} (h : k (.bl (!decide (a ∈ kv.map (·.1))))) : qInS true (en a) (.n o (.dic (kv.map fun p => KeyE.key p.1)) (kv.map fun p => en p.2)) k := w_inD h
end
/-- a display with written keys -/
def dpK (ks : List Str) (xs : List Rv) (ρ : Env) (k : D → Env → Prop) : Prop := ∃ ds ρ2, tkL ρ xs = some (ds, ρ2) ∧ (ks.length = ds.length ∧ ks.length ≤ 15 ∧ ks.Nodup) ∧ k (.n true (.dic (ks.map .inr)) ds) ρ2
theorem w_disp {ks : List Str} (h : tA ρ (fun rs ρ1 => dpK ks rs ρ1 fun d ρ2 => Q (.t d) ρ2) E) : dDisp ks tA ρ Q E := h
theorem w_dpK {ks : List Str} (h1 : tkL ρ xs = some (ds, ρ2)) (h2 : ks.length = ds.length ∧ ks.length ≤ 15 ∧ ks.Nodup) (h : k (.n true (.dic (ks.map .inr)) ds) ρ2) : dpK ks xs ρ k := ⟨ds, ρ2, h1, h2, h⟩
theorem w_dsN {QA : List Rv → Env → Prop} (h : dNil ρ QA E) : dDs [] ρ QA E := h
theorem w_dsC {QA : List Rv → Env → Prop} {ts : List DE} (h : dCons te (dDs ts) ρ QA E) : dDs (te :: ts) ρ QA E := h
/-- a dict with written keys, read -/
theorem w_ixR {o : Bool} {ks : List Key} {q : Str} {k : D → Prop} (h1 : lookK ks ch (.inr q) = some d) (hz : d.isFz = true) (h : k d) : qIxS (.n o (.dic ks) ch) (.p (.str q)) k := ⟨d, by show (some (lookK ks ch (.inr q))) = _; rw [h1], hz, h⟩
/-- .. written -/
theorem m_putR {ks : List Key} {q : Str} {K : Kd → List D → D → Prop} (hz : e.isFz = true) (hl : ch.length < 100000) (h1 : putKs ks (.inr q) = ks) (h2 : putCh ks ch (.inr q) e = ch') (h : K (.dic ks) ch' .non) : mPutD (.dic ks) ch [.p (.str q), e] K :=
  ⟨_, _, rfl, hz, hl, .inr q, rfl, by rw [h1, h2]; exact h⟩

/-! ### targets -/
theorem w_gnil {q : Env → Prop} (h : q ρ) : dGNil [] ρ q := ⟨rfl, h⟩
theorem w_gcons {q : Env → Prop} (h : g (.t d) ρ fun ρ1 => gs ds ρ1 q) : dGCons g gs (d :: ds) ρ q := h
theorem w_gtT {q : Env → Prop} {N : Nat} (h1 : d.fz = d') (h2 : itemsOf d' = some ds) (h3 : ds.length = N) (h : gs ds ρ q) : dGTup N gs (.t d) ρ q := ⟨d', ρ, ds, by simp only [tkF, tk, h1], h2, h3, h⟩
theorem w_gtS {q : Env → Prop} {N : Nat} (h0 : slD ρ i = some d) (hz : d.isFz = true) (h2 : itemsOf d = some ds) (h3 : ds.length = N) (h : gs ds ρ q) : dGTup N gs (.s i) ρ q := ⟨d, ρ, ds, by simp only [tkF, tk, h0, hz, if_true, fz_of hz], h2, h3, h⟩
def gsK (T : String) (i : Nat) (ρ : Env) (p : Prop) : Prop := (∃ d, slD ρ i = some d ∧ tyM d = T ∧ (T = "list" ∨ T = "dict")) ∧ p
theorem w_gsub {q : Env → Prop} (h : gsK T i ρ (te ρ (fun y ρ1 => mutK i m [y, x] ρ1 q) (fun _ _ => False))) : dGSub T i m te x ρ q := h
theorem w_gsK {p : Prop} (h0 : ∃ d, slD ρ i = some d ∧ tyM d = T ∧ (T = "list" ∨ T = "dict")) (h : p) : gsK T i ρ p := ⟨h0, h⟩
/-! ### loops -/
def wpK (ρ : Env) (vs : List Nat) (n : Env → Prop) : Prop := n (wipeD ρ vs)
theorem w_wipe (h : t ⟨fun ρ1 => wpK ρ1 vs n, rt, bk, ct, ex⟩ ρ) : dThenW t vs ⟨n, rt, bk, ct, ex⟩ ρ := h
theorem w_wpK (h1 : wipeD ρ vs = ρ1) (h : n ρ1) : wpK ρ vs n := by
  unfold wpK
  rw [h1]; exact h
theorem w_forW (h : ti ρ (fun items ρ1 => wpK ρ1 vs (dLoopW g tb vs ⟨n, rt, bk, ct, ex⟩ items)) ex) : dForW ti g tb vs ⟨n, rt, bk, ct, ex⟩ ρ := h
theorem w_forC (h1 : ρ[i]? = some (.v (.n true .lst ch))) (h2 : wipeD ((killB i ρ).set i .un) vs = ρ1) (h : dLoopW g tb vs ⟨n, rt, bk, ct, ex⟩ ch ρ1) : dForC i g tb vs ⟨n, rt, bk, ct, ex⟩ ρ := ⟨ch, h1, by rw [h2]; exact h⟩
def boK (i j : Nat) (r : Rv) (ρ1 : Env) (n : Env → Prop) : Prop := ∃ p s ch m k' ch', look ρ1 r = some (.p (.int p)) ∧ ρ1[j]? = some s ∧ s.d? = some (.n true .lst ch) ∧ ixN ch.length p = some m ∧ ch[m]? = some (.n true k' ch') ∧ okV ρ1 i = true ∧ n ((killB i ρ1).set i (.b j [m]))
/-- an invariant -/
theorem lw_inv {α σ : Type} {F : α → D} {items : List α} (shape : σ → Env) (P : List α → σ → Prop) (s0 : σ) (h0 : P items s0)
    (step : ∀ a rest s, P (a :: rest) s → ∀ k : Env → Prop, (∀ s' ρ', P rest s' → wipeD ρ' vs = shape s' → k ρ') → g (.t (F a)) (shape s) fun ρ1 => tb ⟨k, rt, fun ρ2 => n (wipeD ρ2 vs), k, ex⟩ ρ1)
    (fin : ∀ s, P [] s → n (shape s)) : dLoopW g tb vs ⟨n, rt, bk, ct, ex⟩ (items.map F) (shape s0) := by
  induction items generalizing s0 with
  | nil => exact fin s0 h0
  | cons a rest ih => exact step a rest s0 h0 _ fun s' ρ' hp e => by rw [e]; exact ih s' hp
theorem lw_nil (h : n ρ) : dLoopW g tb vs ⟨n, rt, bk, ct, ex⟩ [] ρ := h
theorem whNW_run {σ : Type} (shape : σ → Env) (P : Nat → σ → Prop) (st : ∀ m s (k : Env → Prop), P m s → (∀ m' s' ρ', m' < m → P m' s' → wipeD ρ' vs = shape s' → k ρ') → c (shape s) (fun b ρ1 => if b = true then tb ⟨k, rt, fun ρ2 => n (wipeD ρ2 vs), k, ex⟩ ρ1 else n ρ1) ex) :
    ∀ (N m : Nat) (s : σ), m < N → P m s → dWhNW c tb vs ⟨n, rt, bk, ct, ex⟩ N (shape s)
  | 0, m, s, h, _ => absurd h (Nat.not_lt_zero _)
  | N + 1, m, s, h, hI => st m s _ hI fun m' s' ρ' hm hI' e => by rw [e]; exact whNW_run shape P st N m' s' (by omega) hI'
theorem whW_run {σ : Type} (shape : σ → Env) (P : Nat → σ → Prop) {m : Nat} {s : σ} (h : P m s) (h1 : wipeD ρ vs = shape s)
    (st : ∀ m s (k : Env → Prop), P m s → (∀ m' s' ρ', m' < m → P m' s' → wipeD ρ' vs = shape s' → k ρ') → c (shape s) (fun b ρ1 => if b = true then tb ⟨k, rt, fun ρ2 => n (wipeD ρ2 vs), k, ex⟩ ρ1 else n ρ1) ex) : dWhileW c tb vs ⟨n, rt, bk, ct, ex⟩ ρ :=
  ⟨m + 1, by rw [h1]; exact whNW_run shape P st (m + 1) m s (Nat.lt_succ_self _) h⟩
/-! ### zip, enumerate -/
def zK (xs : List Rv) (ρ : Env) (k : List D → Env → Prop) : Prop := ∃ d e ρ2 ch ch', tkFL ρ xs = some ([d, e], ρ2) ∧ listOf d = some ch ∧ listOf e = some ch' ∧ k (zipL ch ch') ρ2
theorem w_zip (h : tA ρ (fun rs ρ1 => zK rs ρ1 QI) E) : dIZip tA ρ QI E := h
theorem zipL_e {α β : Type} [Enc α] [Enc β] : ∀ (us : List α) (ws : List β), zipL (us.map en) (ws.map en) = (us.zip ws).map en
  | [], ws => by simp [zipL]
  | u :: us, [] => by simp [zipL]
  | u :: us, w :: ws => by rw [List.map_cons, List.map_cons, zipL, zipL_e, List.zip_cons_cons, List.map_cons]; rfl
theorem w_zK {α β : Type} {i1 : Enc α} {i2 : Enc β} {us : List α} {ws : List β} {k : List D → Env → Prop} (h1 : tkFL ρ xs = some ([d, e], ρ2)) (h2 : listOf d = some (us.map en)) (h3 : listOf e = some (ws.map en)) (h : k ((us.zip ws).map en) ρ2) : zK xs ρ k := ⟨d, e, ρ2, _, _, h1, h2, h3, by rw [zipL_e]; exact h⟩
def enK (xs : List Rv) (ρ : Env) (k : List D → Env → Prop) : Prop := ∃ d ρ2 ch, tkFL ρ xs = some ([d], ρ2) ∧ listOf d = some ch ∧ k (enumL 0 ch) ρ2
theorem w_enum (h : tA ρ (fun rs ρ1 => enK rs ρ1 QI) E) : dIEnum tA ρ QI E := h
theorem enumL_e {α : Type} [Enc α] : ∀ (us : List α) (l : Nat), enumL l (us.map en) = (us.zipIdx l).map fun p => en ((p.2 : Int), p.1)
  | [], l => rfl
  | u :: us, l => by rw [List.map_cons, enumL, enumL_e, List.zipIdx_cons, List.map_cons]; rfl
theorem w_enK {α : Type} {i1 : Enc α} {us : List α} {k : List D → Env → Prop} (h1 : tkFL ρ xs = some ([d], ρ2)) (h2 : listOf d = some (us.map en)) (h : k (us.zipIdx.map fun p => en ((p.2 : Int), p.1)) ρ2) : enK xs ρ k := ⟨d, ρ2, _, h1, h2, by rw [enumL_e]; exact h⟩
/-! ### f'..', methods of texts -/
theorem w_js {ts : List DE} (h : dJl ts Str.empty ρ (fun out ρ1 => Q (.t (.p (.str out))) ρ1) E) : dJs ts ρ Q E := h
theorem w_jlN {acc : Str} {q : Str → Env → Prop} (h : q acc ρ) : dJl [] acc ρ q E := h
def jlK (ts : List DE) (acc : Str) (r : Rv) (ρ1 : Env) (q : Str → Env → Prop) (E : Exn → Env → Prop) : Prop := ∃ y : Str, look ρ1 r = some (.p (.str y)) ∧ (acc ++ y).length ≤ 100000 ∧ dJl ts (acc ++ y) ρ1 q E
theorem w_jlC {ts : List DE} {acc : Str} {q : Str → Env → Prop} (h : te ρ (fun r ρ1 => jlK ts acc r ρ1 q E) E) : dJl (te :: ts) acc ρ q E := h
theorem w_jlK {ts : List DE} {acc y : Str} {q : Str → Env → Prop} (h1 : look ρ x = some (.p (.str y))) (h2 : (acc ++ y).length ≤ 100000) (h : dJl ts (acc ++ y) ρ q E) : jlK ts acc x ρ q E := ⟨y, h1, h2, h⟩
def fmK (r : Rv) (ρ1 : Env) (q : Rv → Env → Prop) : Prop := ∃ d, look ρ1 r = some d ∧ ((∃ y : Str, d = .p (.str y) ∧ y.length ≤ 100000 ∧ q (.t (.p (.str y))) ρ1) ∨ ∃ i : Int, d = .p (.int i) ∧ i.natAbs.log2 < 1920 ∧ q (.t (.p (.str (toString i)))) ρ1)
theorem w_fmt (h : te ρ (fun r ρ1 => fmK r ρ1 Q) E) : dFmt te ρ Q E := h
theorem w_fmS {y : Str} (h1 : look ρ x = some (.p (.str y))) (h2 : y.length ≤ 100000) (h : Q (.t (.p (.str y))) ρ) : fmK x ρ Q := ⟨_, h1, .inl ⟨y, rfl, h2, h⟩⟩
theorem w_fmI {y : Int} (h1 : look ρ x = some (.p (.int y))) (h2 : y.natAbs.log2 < 1920) (h : Q (.t (.p (.str (toString y)))) ρ) : fmK x ρ Q := ⟨_, h1, .inr ⟨y, rfl, h2, h⟩⟩
theorem w_zfill {a : Str} {p : Int} {k : D → Prop} (h1 : PadOk p = true) (h : k (.str (Txt.zfill a p))) : qZfill (.p (.str a)) (.p (.int p)) k := ⟨h1, h⟩
def bmK (T : String) (x : Rv) (ρ1 : Env) (p : Prop) : Prop := (∃ d, look ρ1 x = some d ∧ tyM d = T ∧ (T = "list" ∨ T = "dict")) ∧ p
theorem w_bm1 {r : Op2} (h : ta ρ (fun x ρ1 => bmK T x ρ1 (tt ρ1 (fun y ρ2 => opK r x y ρ2 fun z => Q (.t z) ρ2) E)) E) : dBM1 T r ta tt ρ Q E := h
theorem w_bmK {p : Prop} (h0 : ∃ d, look ρ x = some d ∧ tyM d = T ∧ (T = "list" ∨ T = "dict")) (h : p) : bmK T x ρ p := ⟨h0, h⟩
end
end DL
/-! DL23: lending: what is only read stays its holder's own. -/
namespace DL
open PySem L2
open Enc (en)
mutual
/-- nothing within is shared -/
def D.ownd : D → Bool
  | .p _ => true
  | .n o _ ch => o && ownL ch
def ownL : List D → Bool
  | [] => true
  | d :: ds => d.ownd && ownL ds
end
section
variable {K : PySem.W.Frag} {G H G' H' : Hp}
mutual
theorem Rp.own : ∀ {v : V} (d : D) {F : List Addr}, Rp K G H v d F → d.ownd = true → (∀ a, G a = none → G' a = none) → Rp K G' H v d F
  | _, .p v, _, h, _, _ => by
    cases h
    exact Rp.p _
  | _, .n ow k ch, _, h, e, hg => by
    simp only [D.ownd, Bool.and_eq_true] at e
    cases h with
    | f h1 h2 => cases e.1
    | o h0 h1 h3 h2 => exact Rp.o (hg _ h0) h1 h3 (RpL.own ch h2 e.2 hg)
theorem RpL.own : ∀ {vs : List V} (ds : List D) {F : List Addr}, RpL K G H vs ds F → ownL ds = true → (∀ a, G a = none → G' a = none) → RpL K G' H vs ds F
  | _, [], _, h, _, _ => by
    cases h
    exact RpL.nil
  | _, d :: ds, _, h, e, hg => by
    simp only [ownL, Bool.and_eq_true] at e
    cases h with
    | cons h1 h2 h3 => exact RpL.cons (Rp.own d h1 e.1 hg) (RpL.own ds h2 e.2 hg) h3
end
end
def Sl.fz : Sl → Sl
  | .v d => .v d.fz
  | .w d => .v d.fz
  | _ => .un
def frzE (ρ : Env) : Env := ρ.map Sl.fz
def dLend (te : DE) : DE := fun ρ Q _ => te (frzE ρ) (fun r _ => ∃ d, r = .t d ∧ d.ownd = true ∧ Q (.t d) ρ) (fun _ _ => False)
section
variable {K : PySem.W.Frag} {pv : Nat → V} {σ : St} {ρ : Env} {G H : Hp} {fp : Fps}
open Classical in
noncomputable def frzP (G H : Hp) (P : Addr → Prop) : Hp := fun a => if P a then H a else G a
theorem Mt.lend (m : Mt K pv σ ρ G H fp) : Mt K pv σ (frzE ρ) (frzP G H (InF fp)) H (fun _ => []) := by
  have sg : Sub G (frzP G H (InF fp)) := fun a o e => by
    unfold frzP
    split
    · rename_i h
      obtain ⟨i, hi⟩ := h
      rw [(m.ft i a hi).1] at e; cases e
    · exact e
  have ss : Sub (frzP G H (InF fp)) H := fun a o e => by
    unfold frzP at e
    split at e
    · exact e
    · exact m.sub a o e
  have get : ∀ (i : Nat) (d : D), (frzE ρ)[i]? = some (Sl.v d) → ∃ d0, (ρ[i]? = some (Sl.v d0) ∨ ρ[i]? = some (Sl.w d0)) ∧ d = d0.fz := fun i d e => by
    unfold frzE at e
    rw [List.getElem?_map] at e
    cases h : ρ[i]? with
    | none => rw [h] at e; cases e
    | some s =>
      rw [h] at e
      cases s with
      | un => cases e
      | b j q => cases e
      | v d0 => cases e; exact ⟨d0, .inl rfl, rfl⟩
      | w d0 => cases e; exact ⟨d0, .inr rfl, rfl⟩
  have no : ∀ (i : Nat) (s : Sl), (frzE ρ)[i]? = some s → (∃ d, s = .v d) ∨ s = .un := fun i s e => by
    unfold frzE at e
    rw [List.getElem?_map] at e
    cases h : ρ[i]? with
    | none => rw [h] at e; cases e
    | some s0 =>
      rw [h] at e
      cases s0 with
      | un => cases e; exact .inr rfl
      | b j q => cases e; exact .inr rfl
      | v d0 => cases e; exact .inl ⟨_, rfl⟩
      | w d0 => cases e; exact .inl ⟨_, rfl⟩
  refine ⟨ss, by unfold frzE; rw [List.length_map]; exact m.len, fun i d e => ?_, fun i d e => ?_, fun i j q e => ?_, fun _ _ _ a z => (by cases z), fun _ a z => (by cases z)⟩
  · obtain ⟨d0, h, rfl⟩ := get i d e
    obtain ⟨x, h1, h2⟩ : ∃ x, σ[i]? = some (some x) ∧ Rp K G H x d0 (fp i) := by
      rcases h with h | h
      · exact m.sl i d0 h
      · exact ⟨_, m.pn i d0 h⟩
    refine ⟨x, h1, h2.froz sg _ fun a ha => ?_⟩
    unfold frzP
    rw [if_pos ⟨i, ha⟩]
  · rcases no i _ e with ⟨_, z⟩ | z <;> cases z
  · rcases no i _ e with ⟨_, z⟩ | z <;> cases z
end
section
variable {X : Cx} {cn : String → Addr} {E : WX} {pos : Pos} {e : Expr} {te : DE}
theorem je_lend (h : JE X cn E e te) : JE X cn E e (dLend te) := by
  refine pe_imp h ?_
  rintro σ H Q ⟨pv, γ, ρ, G, fp, Q0, E0, m, q, po, px⟩
  have m' : ∀ H', (∀ a o, H a = some o → H' a = some o) → Mt X.K pv (σ ++ γ) ρ G H' fp := fun H' hh => m.move (fun _ _ z => z) (fun a o z => hh a o (m.sub a o z)) (fun a o _ z => hh a o z) fun a ⟨i, hi⟩ => (m.ft i a hi).1
  have nf : ∀ a, ¬ InF (fun _ => []) a := fun a ⟨i, hi⟩ => by cases hi
  refine ⟨pv, γ, frzE ρ, frzP G H (InF fp), fun _ => [], _, _, m.lend, q, ?_, ?_⟩
  · rintro r ρ1 v G1 H1 fp1 F1 ⟨d, rfl, hd, q1⟩ s1 m1 ⟨o1, o2⟩
    have hh : ∀ a o, H a = some o → H1 a = some o := fun a o e => s1.h a o e (nf a)
    have hF : ∀ a ∈ F1, H a = none := fun a ha => (s1.f a (.inr ha)).elim (fun z => absurd z (nf a)) id
    have hg : ∀ a, G1 a = none → G a = none := fun a e => by
      cases hga : G a with
      | none => rfl
      | some o =>
        have : frzP G H (InF fp) a = some o := by
          unfold frzP
          split
          · exact m.sub a o hga
          · exact hga
        rw [s1.g a o this] at e; cases e
    refine po (.t d) ρ v G H1 fp F1 q1 ⟨fun _ _ z => z, fun a o e _ => hh a o e, fun _ _ _ z _ => z, fun a z => z.elim .inl fun z => .inr (hF a z)⟩ (m' H1 hh) ⟨Rp.own d o1 hd hg, fun a ha ⟨i, hi⟩ => ?_⟩
    obtain ⟨_, o, ho⟩ := m.ft i a hi
    rw [hF a ha] at ho; cases ho
  · exact fun x ρ1 cls dx σ1 G1 H1 fp1 q1 => q1.elim
/-- a name whose value is shared from now on -/
def dFzS (i : Nat) : DE := fun ρ Q _ => ∃ d, ρ[i]? = some (.v d) ∧ Q (.s i) ((killB i ρ).set i (.v d.fz))
end
section
variable {ρ ρ1 : Env} {Q : Rv → Env → Prop} {E : Exn → Env → Prop} {te : DE} {d : D} {i : Nat} {g : DG} {tt : DT} {vs : List Nat}
def ldK (r : Rv) (ρ : Env) (Q : Rv → Env → Prop) : Prop := ∃ d, r = .t d ∧ d.ownd = true ∧ Q (.t d) ρ
theorem w_lend (h1 : frzE ρ = ρ1) (h : te ρ1 (fun r _ => ldK r ρ Q) (fun _ _ => False)) : dLend te ρ Q E := by
  subst h1; exact h
theorem w_ldK (h1 : d.ownd = true) (h : Q (.t d) ρ) : ldK (.t d) ρ Q := ⟨d, rfl, h1, h⟩
theorem w_fzS {d' : D} (h0 : ρ[i]? = some (.v d)) (h2 : d.fz = d') (h1 : (killB i ρ).set i (.v d') = ρ1) (h : Q (.s i) ρ1) : dFzS i ρ Q E := ⟨d, h0, by rw [h2, h1]; exact h⟩
theorem fe_nil : frzE [] = [] := rfl
theorem fe_un {r : Env} : frzE (.un :: r) = .un :: frzE r := rfl
theorem fe_b {r : Env} {j : Nat} {q : List Nat} : frzE (.b j q :: r) = .un :: frzE r := rfl
theorem fe_v {r : Env} : frzE (.v d :: r) = .v d.fz :: frzE r := rfl
theorem fe_w {r : Env} : frzE (.w d :: r) = .v d.fz :: frzE r := rfl
/-- a comprehension whose turns change slots -/
theorem lc_inv {α σ : Type} {F : α → D} {K : List D → Env → Prop} (shape : σ → Env) (P : List α → List D → σ → Prop) : ∀ {items : List α} {acc : List D} {s0 : σ}, P items acc s0 → items.length + acc.length ≤ 100000 →
    (∀ a rest acc s, P (a :: rest) acc s → acc.length < 100000 → ∀ k : Env → List D → Prop, (∀ s' acc', acc'.length ≤ acc.length + 1 → P rest acc' s' → k (shape s') acc') →
      g (.t (F a)) (shape s) fun ρ1 => tt ρ1 (fun b ρ2 => if b = true then te ρ2 (fun r ρ3 => lcA r ρ3 vs acc k) (fun _ _ => False) else k (wipeD ρ2 vs) acc) (fun _ _ => False)) →
    (∀ acc s, P [] acc s → K acc (shape s)) → dLcL g tt te vs K (items.map F) (shape s0) acc
  | [], acc, s0, h, _, _, fin => fin acc s0 h
  | a :: rest, acc, s0, h, hl, st, fin => by
    rw [List.length_cons] at hl
    exact st a rest acc s0 h (by omega) (fun ρ' acc' => dLcL g tt te vs K (rest.map F) ρ' acc') fun s' acc' hle hp => lc_inv shape P hp (by omega) st fin
end
theorem own_e {α : Type} [Enc α] {xs : List α} (h : ∀ x : α, (en x : D).ownd = true) : (eo xs).ownd = true := by
  have : ∀ xs : List α, ownL (xs.map en) = true := by
    intro xs
    induction xs with
    | nil => rfl
    | cons x xs ih => rw [List.map_cons, ownL, h, ih]; rfl
  show (true && ownL _) = true
  rw [this]; rfl
theorem own_oo {α : Type} [Enc α] {xs : List (List α)} (h : ∀ x : α, (en x : D).ownd = true) : (eoo xs).ownd = true := by
  have : ∀ xs : List (List α), ownL (xs.map eo) = true := by
    intro xs
    induction xs with
    | nil => rfl
    | cons x xs ih => rw [List.map_cons, ownL, own_e h, ih]; rfl
  show (true && ownL _) = true
  rw [this]; rfl
end DL
/-! DL24: targets; zip of lists or of tuples -/
namespace DL
open PySem L2
section
variable {X : Cx} {cn : String → Addr} {E : WX} {st : Stmt} {te : DE}
end
def tupOf : D → Option (List D)
  | .n _ .tup ch => some ch
  | .n _ .tok ch => some ch
  | _ => none
def zipOf (d e : D) (ch ch' : List D) : Prop := (listOf d = some ch ∧ listOf e = some ch') ∨ (tupOf d = some ch ∧ tupOf e = some ch')
def dIZipA (t : DA) : DI := fun ρ Q E => t ρ (fun rs ρ1 => ∃ d e ρ2 ch ch', tkFL ρ1 rs = some ([d, e], ρ2) ∧ zipOf d e ch ch' ∧ Q (zipL ch ch') ρ2) E
section
variable {K : PySem.W.Frag} {G H : Hp}
theorem tupOf_rp {v : V} {d : D} {cs : List D} (r : Rp K G H v d []) (e : tupOf d = some cs) : ∃ a vs, v = .ref a ∧ SqT K G a vs ∧ RpL K G H vs cs [] := by
  cases r with
  | p _ => simp only [tupOf] at e; cases e
  | @f a k vs ch _ h1 h2 =>
    cases k with
    | tup => simp only [tupOf, Option.some.injEq] at e; subst e; exact ⟨a, vs, rfl, tq h1, h2⟩
    | tok => simp only [tupOf, Option.some.injEq] at e; subst e; exact ⟨a, vs, rfl, h1, h2⟩
    | _ => simp only [tupOf] at e; cases e
theorem walks_zipT {a b : Addr} {vs ws : List V} {ch cs : List D} (h : SqT K G a vs) (h' : SqT K G b ws) (r : RpL K G H vs ch []) (r' : RpL K G H ws cs []) : WalksD K (RZ.ItzT K a b) (zipL ch cs) G := by
  intro G' H' s s'
  have hq : SqT K H' a vs := SqT.mono s' (SqT.mono s h)
  have hq' : SqT K H' b ws := SqT.mono s' (SqT.mono s h')
  refine ⟨fun i d e => ?_, fun i hi => ⟨vs, ws, hq, hq', by rw [r.len, r'.len]; rw [zipL_len] at hi; omega⟩⟩
  obtain ⟨d1, d2, g1, g2, g3⟩ := zipL_get ch cs i e
  obtain ⟨x, h1, h2⟩ := r.at0 g1
  obtain ⟨y, h3, h4⟩ := r'.at0 g2
  refine ⟨⟨vs, ws, x, y, hq, hq', h1, h3⟩, fun z H2 ⟨T, x', y', e1, hT, e2, f1, f2⟩ => ?_⟩
  subst e1 e2 g3
  have := f1 vs hq
  rw [h1] at this; cases this
  have := f2 ws hq'
  rw [h3] at this; cases this
  exact tup2 s' hT (h2.mov0 s) (h4.mov0 s)
end
section
variable {X : Cx} {cn : String → Addr} {E : WX} {iter tg e : Expr} {t : DA} {te : DE}
theorem ji_zipA (h : PI X tg iter (RZ.iZipA X.K (liftA X.K cn E t))) : JI X cn E tg iter (dIZipA t) := pi_imp h fun σ H R ⟨pv, γ, ρ, G, fp, Q0, E0, m, q, po, px⟩ =>
  ⟨pv, γ, ρ, G, fp, _, E0, m, q, fun rs ρ1 vs G1 H1 fp1 F1 ⟨d, e, ρ2, ch, ch', e1, e2, q1⟩ s1 m1 o1 => by
    obtain ⟨G2, fp2, s2, m2, r2, _⟩ := tkFL_ok m1 o1 (fun _ z => z) e1
    obtain ⟨x, xs, rfl, r3, r4⟩ := r2.cons2
    obtain ⟨y, ys, rfl, r5, r6⟩ := r4.cons2
    have := r6.nil2
    subst this
    rcases e2 with ⟨e2, e3⟩ | ⟨e2, e3⟩
    · obtain ⟨a, ws, rfl, h1, h2⟩ := listOf_rp r3 e2
      obtain ⟨b, us, rfl, h3, h4⟩ := listOf_rp r5 e3
      exact ⟨a, b, ws, us, rfl, .inl ⟨SqL.mono m2.sub h1, SqL.mono m2.sub h3, po _ ρ2 _ G2 H1 fp2 q1 (s1.trans s2) m2 (walks_zip h1 h3 h2 h4)⟩⟩
    · obtain ⟨a, ws, rfl, h1, h2⟩ := tupOf_rp r3 e2
      obtain ⟨b, us, rfl, h3, h4⟩ := tupOf_rp r5 e3
      exact ⟨a, b, ws, us, rfl, .inr ⟨SqT.mono m2.sub h1, SqT.mono m2.sub h3, po _ ρ2 _ G2 H1 fp2 q1 (s1.trans s2) m2 (walks_zipT h1 h3 h2 h4)⟩⟩, px⟩
end
def zAK (xs : List Rv) (ρ : Env) (k : List D → Env → Prop) : Prop := ∃ d e ρ2 ch ch', tkFL ρ xs = some ([d, e], ρ2) ∧ zipOf d e ch ch' ∧ k (zipL ch ch') ρ2
section
variable {ρ ρ2 : Env} {tA : DA} {QI : List D → Env → Prop} {E : Exn → Env → Prop} {xs : List Rv} {d e : D}
theorem w_zipA (h : tA ρ (fun rs ρ1 => zAK rs ρ1 QI) E) : dIZipA tA ρ QI E := h
theorem w_zAK {k : List D → Env → Prop} {ch ch' : List D} (h1 : tkFL ρ xs = some ([d, e], ρ2)) (h2 : zipOf d e ch ch') (h : k (zipL ch ch') ρ2) : zAK xs ρ k := ⟨d, e, ρ2, ch, ch', h1, h2, h⟩
end
end DL
/-! DL25: caught errors that are kept; what class they are of; their fields; errors with a field. -/
namespace DL
open PySem L2

section
variable {X : Cx} {pins : List (Addr × Obj)} {σ : St} {H : Hp} {s : Shared} {a : Addr} {o : HO}
end

/-- j = i, of names -/
def tKeep (i j : Nat) : TS := fun D σ H => ∃ v, σ[i]? = some (some v) ∧ D.nx (σ.set j (some v)) H
/-- what the clause 'except c as n: x = n' wishes of an error of the body: it is kept -/
def wKeep (K : PySem.W.Frag) (c : Value) (i j : Nat) (Wout : WX) (D : Ends) : WX := fun cls d σ H =>
  ∃ b, PySem.W.exmOne K cls c = some b ∧ (b = true → ∀ a, H a = none → i ≠ j ∧ i < σ.length ∧ D.nx (((σ.set i (some (.ref a))).set j (some (.ref a))).set i none) (upd H a (exK cls d a))) ∧ (b = false → Wout cls d σ H)
section
variable {X : Cx} {x n : Str} {c : Value} {i j : Nat} {body suite : List Stmt} {b₀ : Stmt} {np pos pos' : Pos} {tb : WX → TS} {Wout : WX}
end
end DL
/-! DL26: readings of kept errors: try .. except C as e: x = e, isinstance(x, C), x.f. -/
namespace DL
open PySem L2

/-- an error as a value -/
def excD (x : Exn) : D := match x.f with
  | none => .n false (.exc x.name []) []
  | some (f, d) => .n false (.exc x.name [f]) [d]
/-- try: tb except some class as n (slot i): slot j = n -/
def dTryK (ns : List (String × Bool)) (i j : Nat) (tb : DS) : DS := fun D ρ => tb { D with ex := fun x ρ' => match ns.lookup x.name with
  | some true => ∃ ρ2, stV ((killB i ρ').set i .un) j (excD x) = some ρ2 ∧ clr ρ2 [i] = true ∧ D.nx ρ2
  | some false => D.ex x ρ'
  | none => False } ρ
section
variable {X : Cx} {cn : String → Addr} {E : WX}
end

/-! ### isinstance of a kept error -/
structure ExcD (K : PySem.W.Frag) (D : Addr) : Prop where
  hcl : (PySem.W.clsIn K D).isSome = true
  hga : PySem.W.findIn K (.ref D) "__getattribute__" = some (some (.builtin "BaseException.__getattribute__"))
  hgt : PySem.W.findIn K (.ref D) "__getattr__" = some none
  hsub : PySem.W.subIn K (.ref D) (.type "BaseException") = some true
  ha : PySem.W.findIn K (.ref D) "__class__" = some (some (.builtin "object.__class__"))
  hn : PySem.W.specialIn K (.builtin "object.__class__") "__get__" = some (some (.builtin "getset_descriptor.__get__"))
  ht : PySem.W.takesIn K (.builtin "object.__class__") = some true
  hm : PySem.W.mroIn K D (.type "object") = some true
def rIsX (K : PySem.W.Frag) (c : V) (cv : Value) : List V → Hp → VK → Prop := fun xs H Q => ∃ x b, xs = [x, c] ∧ ((x = .non ∧ PySem.W.kitOne K (.type "NoneType") cv = some b) ∨
  ∃ a D od, x = .ref a ∧ H a = some (exK (.ref D) od a) ∧ (∀ dd, od = some dd → ∃ fs, H dd = some (.xd fs)) ∧ ExcD K D ∧ PySem.W.kitOne K (.ref D) cv = some b) ∧ Q (.bl b) H
def isX (tbl : List (String × Bool)) : D → Option Bool
  | .n false (.exc c _) _ => tbl.lookup c
  | .p .non => some false
  | _ => none
/-- isinstance(te, a class) -/
def dIsX (tbl : List (String × Bool)) (te : DE) : DE := fun ρ Q E => te ρ (fun r ρ1 => ∃ d b, look ρ1 r = some d ∧ isX tbl d = some b ∧ Q (.t (.p (.bl b))) ρ1) E
def qIsX (tbl : List (String × Bool)) (c : V) : OpL := fun ds Q => ∃ d b, ds = [d, .p c] ∧ isX tbl d = some b ∧ Q (.p (.bl b))
section
variable {X : Cx} {cn : String → Addr} {E : WX} {tbl : List (String × Bool)} {c : V} {cv : Value}
/-! ### x.f of a kept error -/
def tXk (K : PySem.W.Frag) (n : Str) (te : TE) : TE := fun σ H Q => te σ H fun x H1 => ∃ a D dd fs v, x = .ref a ∧ H1 a = some (exK (.ref D) (some dd) a) ∧ H1 dd = some (.xd fs) ∧ fs.lookup n = some v ∧ ExcD K D ∧ PySem.W.hasDictIn K D = true ∧ PySem.W.findIn K (.ref D) n = some none ∧ Q v H1
def fldX (cls : List String) (n : Str) : D → Option V
  | .n false (.exc c ns) ch => if cls.contains c = true then (match ns, ch with
    | [f], [.p v] => if f = n then some v else none
    | _, _ => none) else none
  | _ => none
/-- te.n, of an error of one of some classes -/
def dFld (cls : List String) (n : Str) (te : DE) : DE := fun ρ Q E => te ρ (fun r ρ1 => ∃ d v, look ρ1 r = some d ∧ fldX cls n d = some v ∧ Q (.t (.p v)) ρ1) E
end
end DL
/-! DL27: raise C(e), C's own __init__ keeping one field. -/
namespace DL
open PySem L2 PyProof.Rows

/-- the n-th statement of a class's body -/
def bodyAt (n : Nat) (s : Stmt) : Stmt := match s with
  | .ClassDef _ _ _ b _ _ _ _ _ _ _ => b.getD n (.Pass ⟨0, 0, 0, 0⟩)
  | s => s
/-- what __init__ does: the field is stored, in a new dict -/
def spInit (f : Str) (K : PySem.W.Frag) : Sp := fun vs H Q _ => ∃ a w C, vs = [.ref a, w] ∧ OexC K C ∧ PySem.W.findIn K (.ref C) f = some none ∧ H a = some (exo a C none) ∧
  ∀ dx, H dx = none → dx ≠ a → Q .non (L2.upd (L2.upd H dx (exd dx [(f, w)])) a (exo a C (some dx)))
def dRaiseF (nm : String) (f : Str) (te : DE) : DS := fun D ρ => te ρ (fun r ρ1 => ∃ v, look ρ1 r = some (.p v) ∧ D.ex ⟨nm, some (f, .p v)⟩ ρ1) D.ex
section
variable {X : Cx} {cn : String → Addr} {E : WX}
end
end DL
/-! DL28: running lemmas for kept errors. -/
namespace DL
open PySem L2
open Enc (en)
section
variable {n : Env → Prop} {rt : D → Env → Prop} {bk ct : Env → Prop} {ex : Exn → Env → Prop} {ρ ρ1 ρ2 : Env} {Q : Rv → Env → Prop} {E : Exn → Env → Prop} {tb : DS} {te : DE} {d : D} {i j : Nat} {v : V} {x : Rv} {nm : String} {f : Str}
def tyK (ns : List (String × Bool)) (i j : Nat) (n : Env → Prop) (ex : Exn → Env → Prop) (x : Exn) (ρ : Env) : Prop := match ns.lookup x.name with
  | some true => ∃ ρ2, stV ((killB i ρ).set i .un) j (excD x) = some ρ2 ∧ clr ρ2 [i] = true ∧ n ρ2
  | some false => ex x ρ
  | none => False
theorem w_tryK {ns : List (String × Bool)} (h : tb ⟨n, rt, bk, ct, fun x ρ' => tyK ns i j n ex x ρ'⟩ ρ) : dTryK ns i j tb ⟨n, rt, bk, ct, ex⟩ ρ := h
theorem w_tyT {ns : List (String × Bool)} {x : Exn} (h : ns.lookup x.name = some true) (h1 : (killB i ρ).set i .un = ρ1) (h0 : okV ρ1 j = true) (h2 : (killB j ρ1).set j (.v (excD x)) = ρ2) (hc : clr ρ2 [i] = true) (k : n ρ2) : tyK ns i j n ex x ρ := by
  unfold tyK; rw [h]; exact ⟨ρ2, by rw [h1, stV_v h0, h2], hc, k⟩
theorem w_tyF {ns : List (String × Bool)} {x : Exn} (h : ns.lookup x.name = some false) (k : ex x ρ) : tyK ns i j n ex x ρ := by unfold tyK; rw [h]; exact k
def rfK (nm : String) (f : Str) (ex : Exn → Env → Prop) (r : Rv) (ρ : Env) : Prop := ∃ v, look ρ r = some (.p v) ∧ ex ⟨nm, some (f, .p v)⟩ ρ
theorem w_raiseF (h : te ρ (fun r ρ1 => rfK nm f ex r ρ1) ex) : dRaiseF nm f te ⟨n, rt, bk, ct, ex⟩ ρ := h
theorem w_rfK (h0 : look ρ x = some (.p v)) (h : ex ⟨nm, some (f, .p v)⟩ ρ) : rfK nm f ex x ρ := ⟨v, h0, h⟩
def ixK (tbl : List (String × Bool)) (Q : Rv → Env → Prop) (r : Rv) (ρ : Env) : Prop := ∃ d b, look ρ r = some d ∧ isX tbl d = some b ∧ Q (.t (.p (.bl b))) ρ
theorem w_isX {tbl : List (String × Bool)} (h : te ρ (fun r ρ1 => ixK tbl Q r ρ1) E) : dIsX tbl te ρ Q E := h
theorem w_ixK {tbl : List (String × Bool)} {b : Bool} (h0 : look ρ x = some d) (h1 : isX tbl d = some b) (h : Q (.t (.p (.bl b))) ρ) : ixK tbl Q x ρ := ⟨d, b, h0, h1, h⟩
def fdK (cls : List String) (f : Str) (Q : Rv → Env → Prop) (r : Rv) (ρ : Env) : Prop := ∃ d v, look ρ r = some d ∧ fldX cls f d = some v ∧ Q (.t (.p v)) ρ
theorem w_fld {cls : List String} (h : te ρ (fun r ρ1 => fdK cls f Q r ρ1) E) : dFld cls f te ρ Q E := h
theorem w_fdK {cls : List String} (h0 : look ρ x = some d) (h1 : fldX cls f d = some v) (h : Q (.t (.p v)) ρ) : fdK cls f Q x ρ := ⟨d, v, h0, h1, h⟩
end
end DL
/-! DL29: comprehensions whose element may raise: the error is noted at the def's frame, the block's names go, it goes on. -/
namespace DL
open PySem PySem.Spec L2 PyProof.Rows

/-- the frame that a context runs in -/
structure Rt (X : Cx) (e0 : PySem.Env) (os : List PySem.Env) (L : Addr) : Prop where
  st : X.stack = e0 :: os
  fr : e0.frame = some L
  ef : X.env.frame = some L
/-- an error in the air of X, noted at no frame or at L -/
def XF (X : Cx) (L : Addr) (W : WX) (u : Value) (s' : Shared) : Prop :=
  ∃ (a : Addr) (B : Heap) (sI : Shared) (pins : List (Addr × Obj)) (σ : L2.St) (H : Hp) (cls : Value) (d : Option Addr), u = .ref a ∧ L2.Inv X pins σ H sI ∧
    (∀ b o, sI.heap.get? b = some o → b ∉ frs X.stack → B.get? b = some o) ∧ sI.heap.UpToSlots s'.heap ∧ Sky B X.stack a (Zc cls d) L s'.heap ∧ H a = none ∧ s'.os = sI.os ∧ AllBare s'.gens ∧ W cls d σ H
def TakesF (X : Cx) (W : WX) : Prop := ∃ e0 os L, Rt X e0 os L ∧ ∀ u s', XF X L W u s' → X.xe u s'
theorem TakesF.at {X : Cx} {W : WX} (tk : TakesF X W) (σ : L2.St) : PassesAt (L2.CX X.prog X.w) X σ (WE W σ) := by
  obtain ⟨e0, os, L, r, tk⟩ := tk
  intro pins H s u s' I c
  have c0 := c
  obtain ⟨a1, B1, H1, cls1, d1, rfl, ⟨_, _, _, oe1, vs1, T1, oT1, ts1, f1, f2, f3, f4, f5, f6, f7, f8, f9⟩, _⟩ := c
  obtain ⟨a, B, sI, pn, σ2, H2, cls, d, ea, I2, nb, up, sky, na, ho, hg, w⟩ := XE.of_call (W := W) I (fun _ _ _ h => h) c0
  have ea' : a1 = a := by injection ea
  subst ea'
  refine tk _ _ ⟨a1, B, sI, pn, σ2, H2, cls, d, rfl, I2, nb, up, ?_, na, ho, hg, w⟩
  rcases sky with ⟨_, _, _, oe, vs, g1, g2, g3, g4⟩ | fl | ⟨_, _, _, oe, vs, T, oT, ts, g1, g2, g3, g4, g5, g6, g7, g8, g9⟩
  · obtain rfl := Option.some.inj (f1.symm.trans g1)
    rw [f3] at g3
    cases g3
    rw [f4] at g4; cases g4
  · exact .inr (.inl fl)
  · obtain rfl := Option.some.inj (f1.symm.trans g1)
    rw [f3] at g3
    cases g3
    rw [f4] at g4
    cases g4
    obtain rfl := Option.some.inj (f7.symm.trans g7)
    rw [f8] at g8
    cases g8
    rw [f9] at g9
    cases g9
/-- what a block's error does: its names go, it is passed on -/
def errP (M : Model) (A : Around) (E : Value → Shared → Prop) (fr : Option Addr) (x : Value) (C : Addr) (s' : Shared) : Prop :=
  ∃ m, s'.heap.Ns C m ∧ ∀ h', Heap.SameBut C s'.heap h' → ∀ cenv : PySem.Env, cenv.locals = C → cenv.frame = fr →
    wpAny M A (passOn "comprehension.variables-let-go" x cenv : PySem.Sem Value) (fun _ _ => False) E { s' with heap := h' }
def cPost (M : Model) (A : Around) (E : Value → Shared → Prop) (Q : Value → Shared → Prop) (acc : Value) (C : Addr) (fr : Option Addr) (r : Result) (s' : Shared) : Prop := match r with
  | .ok _ => ∃ m, s'.heap.Ns C m ∧ ∀ h', Heap.SameBut C s'.heap h' → Q acc { s' with heap := h' }
  | .error x => errP M A E fr x C s'
end DL
/-! DL30: the rule of such a comprehension. -/
namespace DL
open PySem PySem.Spec L2 PyProof.Rows

section
variable {X : Cx} {pins : List (Addr × Obj)} {σ : L2.St} {H3 : Hp} {s3 : Shared} {W : WX} {e0 : PySem.Env} {os : List PySem.Env} {L : Addr} {scope : Scope} {ce : PySem.Env} {fp : List Addr} {xe : Value → Shared → Prop}
/-- a comprehension: te's wish about errors is the context's, at the slots as they were -/
def tLcX (W : WX) (wi : TI) (g : TG) (tt : TT) (te : WX → TE) (vs : List Nat) : TE := fun σ H Q => tLc wi g tt (te fun cls d _ H' => W cls d σ H') vs σ H Q
end
end DL
/-! DL31: readings of comprehensions whose element may raise; calls in them. -/
namespace DL
open PySem L2

/-- nothing is known of the slots any more -/
def unE (ρ : Env) : Env := ρ.map fun _ => Sl.un
theorem Mt.none {K : PySem.W.Frag} {pv : Nat → V} {σ σ' : St} {ρ : Env} {G H : Hp} {fp : Fps} (m : Mt K pv σ ρ G H fp) (hl : σ'.length = σ.length) : Mt K pv σ' (unE ρ) G H (fun _ => []) := by
  have no : ∀ i s, (unE ρ)[i]? = some s → s = Sl.un := fun i s e => by
    unfold unE at e
    rw [List.getElem?_map] at e
    cases h : ρ[i]? with
    | none => rw [h] at e; cases e
    | some y => rw [h] at e; cases e; rfl
  refine ⟨m.sub, by unfold unE; rw [List.length_map, hl]; exact m.len, fun i d e => ?_, fun i d e => ?_, fun i j q e => ?_, fun _ _ _ _ z => (by cases z), fun _ _ z => (by cases z)⟩
  · cases no _ _ e
  · cases no _ _ e
  · cases no _ _ e
def dLcLX (g : DG) (tt : DT) (te : DE) (vs : List Nat) (Q : List D → Env → Prop) (E : Exn → Env → Prop) : List D → Env → List D → Prop
  | [], ρ, acc => Q acc ρ
  | d :: ds, ρ, acc => g (.t d) ρ fun ρ1 => tt ρ1 (fun b ρ2 => if b = true then te ρ2 (fun r ρ3 => ∃ d' ρ4, tk ρ3 r = some (d', ρ4) ∧ acc.length < 100000 ∧ dLcLX g tt te vs Q E ds (wipeD ρ4 vs) (acc ++ [d'])) (fun x ρ5 => E x (unE ρ5))
      else dLcLX g tt te vs Q E ds (wipeD ρ2 vs) acc) (fun _ _ => False)
def dLcX (ti : DI) (g : DG) (tt : DT) (te : DE) (vs : List Nat) : DE := fun ρ Q E => ti ρ (fun items ρ1 => (vs.all fun i => decide (i < ρ1.length)) = true ∧ dLcLX g tt te vs (fun ds ρ2 => Q (.t (.n true .lst ds)) ρ2) E items (wipeD ρ1 vs) []) E
section
variable {ρ ρ1 : Env} {Q : Rv → Env → Prop} {E : Exn → Env → Prop} {te : DE} {ti : DI} {g : DG} {tt : DT} {vs : List Nat}
theorem w_lcX (h : ti ρ (fun items ρ1 => lcK ρ1 vs (fun ρ' => dLcLX g tt te vs (fun ds ρ2 => Q (.t (.n true .lst ds)) ρ2) E items ρ' [])) E) : dLcX ti g tt te vs ρ Q E := h
end
end DL
/-! DL32: a list some times over. -/
namespace DL
open PySem L2
def qRepL : Op2
  | .n _ .lst ch, .p (.int n), Q => isFzL ch = true ∧ (-(2 ^ 63) ≤ n ∧ n < 2 ^ 63) ∧ n.toNat * ch.length ≤ 100000 ∧ Q (.own (List.replicate n.toNat ch).flatten)
  | _, _, _ => False
theorem RpL.rep {K : PySem.W.Frag} {G H : Hp} {vs : List V} {ch : List D} (r : RpL K G H vs ch []) : ∀ n, RpL K G H (List.replicate n vs).flatten (List.replicate n ch).flatten []
  | 0 => .nil
  | n + 1 => by
    rw [List.replicate_succ, List.replicate_succ, List.flatten_cons, List.flatten_cons]
    have := r.app (RpL.rep r n) fun a z => by cases z
    simpa using this
theorem s_repL {K : PySem.W.Frag} : Sem2 K rRep qRepL := by
  intro G H v u d e F1 F2 Q0 Q s r1 r2 q fin
  unfold qRepL at q
  split at q
  · rename_i o ch n
    obtain ⟨q1, hn, q2, q3⟩ := q
    obtain ⟨a, vs, F, rfl, h1, h2⟩ := r1.list s
    cases r2
    have hl := h2.len
    exact ⟨a, n, vs, rfl, rfl, h1, hn.1, hn.2, by rw [hl, Nat.mul_comm]; exact size_of q2, fun p hp => fin.lst s ((h2.shared q1).rep _) hp q3⟩
  · exact q.elim
section
variable {k : D → Prop} {o : Bool} {ch : List D} {n : Int}
theorem w_repL (h1 : isFzL ch = true) (h0 : -(2 ^ 63) ≤ n ∧ n < 2 ^ 63) (h2 : n.toNat * ch.length ≤ 100000) (h : k (.own (List.replicate n.toNat ch).flatten)) : qRepL (.n o .lst ch) (.p (.int n)) k := ⟨h1, h0, h2, h⟩
end
end DL
/-! DL33: x, y = e, e a tuple with parts of its own. -/
namespace DL
open PySem L2
def dUnp (te : DE) (i j : Nat) : DS := fun D ρ => te ρ (fun r ρ1 => ∃ d1 d2 ρ2 ρ3, r = .t (.n false .tup [d1, d2]) ∧ stV ρ1 i d1 = some ρ2 ∧ stV ρ2 j d2 = some ρ3 ∧ D.nx ρ3) D.ex
section
variable {X : Cx} {cn : String → Addr} {E : WX} {st : Stmt} {te : DE}
end
section
variable {n : Env → Prop} {rt : D → Env → Prop} {bk ct : Env → Prop} {ex : Exn → Env → Prop} {ρ ρ1 ρ2 : Env} {te : DE} {i j : Nat} {d1 d2 : D}
def upK (i j : Nat) (n : Env → Prop) (r : Rv) (ρ1 : Env) : Prop := ∃ d1 d2 ρ2 ρ3, r = .t (.n false .tup [d1, d2]) ∧ stV ρ1 i d1 = some ρ2 ∧ stV ρ2 j d2 = some ρ3 ∧ n ρ3
theorem w_unp (h : te ρ (fun r ρ1 => upK i j n r ρ1) ex) : dUnp te i j ⟨n, rt, bk, ct, ex⟩ ρ := h
theorem w_upK (h0 : okV ρ i = true) (h1 : (killB i ρ).set i (.v d1) = ρ1) (h2 : okV ρ1 j = true) (h3 : (killB j ρ1).set j (.v d2) = ρ2) (h : n ρ2) : upK i j n (.t (.n false .tup [d1, d2])) ρ :=
  ⟨d1, d2, ρ1, ρ2, rfl, by rw [stV_v h0, h1], by rw [stV_v h2, h3], h⟩
end
end DL
/-! DL34: sorted of tuples of ints and texts, xs[::-1]. -/
namespace DL
open PySem L2
abbrev Itm := Int ⊕ Str
def Itm.v : Itm → V
  | .inl i => .int i
  | .inr x => .str x
def Itm.k : Itm → Int ⊕ List Nat
  | .inl i => .inl i
  | .inr x => .inr x.cps.toList
def Itm.b : Itm → Bool
  | .inl _ => false
  | .inr _ => true
/-- as tuples of such compare -/
def ltI (a b : List Itm) : Bool := PyProof.Rows.lexLt PyProof.Rows.itemOrd (a.map Itm.k) (b.map Itm.k)
theorem ltI_swo {α : Type} (k : α → List Itm) : SrtO.Swo fun x y => ltI (k x) (k y) := by
  refine ⟨fun x y h => ?_, fun x y z h1 h2 => ?_⟩
  · cases e : ltI (k y) (k x) with
    | false => rfl
    | true =>
      have := PyProof.Rows.lex_trans _ _ _ h e
      rw [PyProof.Rows.lex_irrefl] at this
      cases this
  · cases e : ltI (k z) (k x) with
    | false => rfl
    | true =>
      rcases PyProof.Rows.lex_negTrans _ (((k y)).map Itm.k) _ e with h | h
      · have h2' : ltI (k z) (k y) = false := h2
        unfold ltI at h2'
        rw [h2'] at h; cases h
      · have h1' : ltI (k y) (k x) = false := h1
        unfold ltI at h1'
        rw [h1'] at h; cases h
theorem itm_inj {x y : Itm} (h : Itm.k x = Itm.k y) : x = y := by
  cases x <;> cases y <;> simp only [Itm.k, Sum.inl.injEq, Sum.inr.injEq, reduceCtorEq] at h
  · rw [h]
  · rename_i a b
    have : a.cps = b.cps := Array.toList_inj.mp h
    cases a; cases b
    simp only at this
    rw [this]
theorem itms_inj : ∀ {a b : List Itm}, a.map Itm.k = b.map Itm.k → a = b
  | [], [], _ => rfl
  | [], _ :: _, h => by cases h
  | _ :: _, [], h => by cases h
  | x :: a, y :: b, h => by
    simp only [List.map_cons, List.cons.injEq] at h
    rw [itm_inj h.1, itms_inj h.2]
theorem ltI_total {a b : List Itm} (h1 : ltI a b = false) (h2 : ltI b a = false) : a = b := itms_inj (PyProof.Rows.lex_total _ _ h1 h2)
/-- a tuple of the heap with such items -/
def TupAt (h : Heap) (v : Value) (is : List Itm) : Prop := ∃ t o us n, v = .ref t ∧ h.get? t = some o ∧ o.cls = .type "tuple" ∧ o.data = .seq (List.toArray us) n ∧ Vals (is.map Itm.v) us
theorem tupItems_of {shape : Nat → Bool} : ∀ {is : List Itm} {us : List Value} {i : Nat}, Vals (is.map Itm.v) us → (∀ j x, is[j]? = some x → shape (i + j) = Itm.b x) → PyProof.Rows.tupItems shape i us = some (is.map Itm.k)
  | [], _, _, .nil, _ => rfl
  | x :: is, _, i, .cons r t, h => by
    have h0 := h 0 x rfl
    have ih := tupItems_of (shape := shape) (i := i + 1) t fun j y e => by
      have := h (j + 1) y (by simpa using e)
      rwa [show i + 1 + j = i + (j + 1) by omega]
    cases x with
    | inl n =>
      obtain ⟨k, rfl⟩ := r
      have h0' : shape i = false := h0
      simp only [PyProof.Rows.tupItems, h0', Bool.false_eq_true, if_false, ih, Option.map_some, List.map_cons, Itm.k]
    | inr z =>
      obtain ⟨k, rfl⟩ := r
      have h0' : shape i = true := h0
      simp only [PyProof.Rows.tupItems, h0', if_true, ih, Option.map_some, List.map_cons, Itm.k]
theorem TupAt.keeps {h h' : Heap} {v : Value} {is : List Itm} (x : TupAt h v is) (k : ∀ b o, h.get? b = some o → o.cls = .type "tuple" → h'.get? b = some o) : TupAt h' v is := by
  obtain ⟨t, o, us, n, e, ho, hc, hd, r⟩ := x
  exact ⟨t, o, us, n, e, k _ _ ho hc, hc, hd, r⟩
theorem shape_of {sh : List Bool} {is : List Itm} (e : is.map Itm.b = sh) : ∀ j x, is[j]? = some x → (fun i => sh.getD i false) (0 + j) = Itm.b x := by
  intro j x h
  subst e
  simp [List.getD_eq_getElem?_getD, List.getElem?_map, h]
section
variable {prog : Program} {w : World} {A : Around} {E : Value → Shared → Prop} {s : Shared}
open PyProof.Rows
theorem TupAt.key {h : Heap} {v : Value} {is : List Itm} {sh : List Bool} (x : TupAt h v is) (e : is.map Itm.b = sh) : tupKey h (fun i => sh.getD i false) v = some (is.map Itm.k) := by
  obtain ⟨t, o, us, n, rfl, ho, hc, hd, r⟩ := x
  unfold tupKey
  simp only [ho, hd]
  exact tupItems_of r (shape_of e)
theorem tups_cmp {vs : List Value} {k : Value → List Itm} {sh : List Bool} (hp : ∀ v ∈ vs, TupAt s.heap v (k v) ∧ (k v).map Itm.b = sh) : SrtO.Cmp prog w A s (tuples' true) (fun p => p.1 ∈ vs) (SrtO.lt2 fun v u => ltI (k v) (k u)) := by
  intro p q hm hm'
  obtain ⟨h1, e1⟩ := hp _ hm
  obtain ⟨h2, e2⟩ := hp _ hm'
  exact tup_ltAt true A _ p.1 q.1 _ _ (h1.key e1) (h2.key e2) ⟨rfl, rfl⟩
theorem tups_of {h : Heap} {k : Value → List Itm} {b : Bool} {sh : List Bool} : ∀ {vs : List Value}, (∀ v ∈ vs, TupAt h v (k v) ∧ (k v).map Itm.b = b :: sh) → ∃ fs, fs.length = vs.length ∧ TupsOf h (fun i => (b :: sh).getD i false) vs fs
  | [], _ => ⟨[], rfl, .nil⟩
  | v :: vs, hh => by
    obtain ⟨fs, hl, ht⟩ := tups_of fun u hu => hh u (List.mem_cons_of_mem _ hu)
    obtain ⟨⟨t, o, us, n, e, ho, hc, hd, r⟩, e2⟩ := hh v List.mem_cons_self
    cases ek : k v with
    | nil => rw [ek] at e2; cases e2
    | cons x is =>
      rw [ek] at e2 r
      simp only [List.map_cons, List.cons.injEq] at e2
      rw [List.map_cons] at r
      cases r with
      | @cons _ u _ us' r0 rr =>
        refine ⟨u :: fs, by simp [hl], .cons ⟨t, o, _, n, e, ho, hc, hd, by simp, fun z => ?_, fun z => ?_⟩ ht⟩
        · have z' : b = false := z
          rw [z'] at e2
          cases x with
          | inl i => obtain ⟨q, rfl⟩ := r0; exact ⟨_, _, rfl⟩
          | inr i => cases e2.1
        · have z' : b = true := z
          rw [z'] at e2
          cases x with
          | inl i => cases e2.1
          | inr i => obtain ⟨q, rfl⟩ := r0; exact ⟨_, _, rfl⟩
theorem tups_sortable {a : Addr} {vs : List Value} {k : Value → List Itm} {b : Bool} {sh : List Bool} (h0 : 0 < vs.length) (hp : ∀ v ∈ vs, TupAt s.heap v (k v) ∧ (k v).map Itm.b = b :: sh) (ha : ∀ o, s.heap.get? a = some o → o.cls ≠ .type "tuple") : SrtO.SortableO prog w A s a vs fun v u => ltI (k v) (k u) := by
  intro h' keep
  have hp' : ∀ v ∈ vs, TupAt h' v (k v) ∧ (k v).map Itm.b = b :: sh := fun v hm => ⟨(hp v hm).1.keeps fun b o e c => keep b o (fun z => by subst z; exact ha o e c) e, (hp v hm).2⟩
  obtain ⟨fs, hl, ht⟩ := tups_of hp'
  exact ⟨tuples' true, fun Q E hq => tup_kind (by omega) ht hq, tups_cmp hp'⟩
theorem sorted_tups {l : Addr} {vs : List Value} {k : Value → List Itm} {b : Bool} {sh : List Bool} {Q : Value → Shared → Prop} (hl : s.heap.IsList l vs.toArray) (hz : vs.length ≤ sizeLine) (hp : ∀ v ∈ vs, TupAt s.heap v (k v) ∧ (k v).map Itm.b = b :: sh)
    (h : ∀ (h' : Heap) (d : Addr) (out : List Value), SrtO.Srtd (fun v u => ltI (k v) (k u)) out → SrtO.Stb (fun v u => ltI (k v) (k u)) out vs → (∀ b o, s.heap.get? b = some o → h'.get? b = some o) → s.heap.objs.size ≤ d → (∃ n, h'.get? d = some (seqObj "list" out.toArray n)) → Q (.ref d) { s with heap := h' }) :
    wpAny (model prog w) A (call (.builtin "sorted") [.ref l]) Q E s := by
  refine SrtO.sorted_ord (ltI_swo k) hl hz (fun h2 h₁ a ha kk => ?_) fun out hs hb => ?_
  · refine tups_sortable (s := { s with heap := h₁ }) (by omega) (fun v hm => ⟨(hp v hm).1.keeps fun b o e _ => (kk b o e).2, (hp v hm).2⟩) fun o e => ?_
    have e' : some o = some (seqObj "list" vs.toArray 0) := e.symm.trans ha
    cases e'
    intro c
    exact absurd (Value.type.inj c) (by decide)
  · exact h _ _ out hs hb (fun b o e => sortedAll_old e) (Nat.le_succ _) (sortedAll_at s.heap vs out.toArray)
end
/-- sorted(xs), xs a list of tuples of ints and texts, alike place by place -/
def rSortedT (K : PySem.W.Frag) : List V → Hp → VK → Prop := fun vs H Q => ∃ (a : Addr) (xs : List V) (k : V → List Itm) (b : Bool) (sh : List Bool), vs = [V.ref a] ∧ SqL K H a xs ∧ (∀ x ∈ xs, ∃ t, x = V.ref t ∧ H t = some (.tup ((k x).map Itm.v)) ∧ (k x).map Itm.b = b :: sh) ∧
  ∀ ys p, SrtO.Srtd (fun x y => ltI (k x) (k y)) ys → ys.Perm xs → H p = none → Q (.ref p) (L2.upd H p (.lst ys))
section
variable {X : Cx}
theorem cr_sortedT : CallR X (.builtin "sorted") (rSortedT X.K) := by
  intro pins s σ H vs us Q I r h
  obtain ⟨a, xs, k, b, sh, rfl, hs, hx, q⟩ := h
  obtain ⟨its, rv, hl, hz⟩ := I.list hs
  obtain ⟨u, rfl, ru⟩ := vals1 r
  obtain rfl : u = Value.ref a := ru
  obtain ⟨e1, e2⟩ := refs_back rv fun x m => by
    obtain ⟨t, e, _⟩ := hx x m
    exact ⟨t, e⟩
  refine sorted_tups (k := fun u => k (L2.backV u)) (b := b) (sh := sh) hl.isList (by rw [← rv.length]; exact hz) (fun v hv => ?_) fun h' d out h1 h2 kp hd hn => ?_
  · obtain ⟨t, rfl⟩ := e2 v hv
    have hm : V.ref t ∈ xs := by rw [e1]; exact List.mem_map.mpr ⟨_, hv, rfl⟩
    obtain ⟨t', e, ht, hb⟩ := hx _ hm
    cases e
    obtain ⟨_, its2, r2, o, ho, hc, n, hd⟩ := I.hok _ _ ht
    exact ⟨⟨t, o, its2, n, rfl, ho, hc, hd, r2⟩, hb⟩
  · have h3 : ∀ u ∈ out, ∃ a, u = Value.ref a := fun u hu => e2 u (h2.perm.mem_iff.mp hu)
    obtain ⟨n, hn⟩ := hn
    have hb : (out.map L2.backV).Perm xs := by
      rw [e1]
      exact h2.perm.map L2.backV
    refine ⟨.ref d, L2.upd H d (.lst (out.map L2.backV)), I.laid (t' := s.toks) kp hd ⟨?_, out, n, vals_back h3, hn⟩, rfl, q _ d (SrtO.srtd_map (lt := fun x y => ltI (k x) (k y)) h1) hb (I.hok.fresh hd)⟩
    rw [hb.length_eq]
    exact hz
end
/-- a tuple of such items -/
def itD (is : List Itm) : D := .tup (is.map fun i => .p i.v)
/-- sorted of tuples of ints and texts -/
def qSortT : OpL := fun ds Q => ∃ (d : D) (ch : List D) (xs : List (List Itm)) (b : Bool) (sh : List Bool), ds = [d] ∧ listOf d = some ch ∧ ch = xs.map itD ∧ (∀ x ∈ xs, x.map Itm.b = b :: sh) ∧ ∀ ys : List (List Itm), ys.Perm xs → ys.Pairwise (fun a b => ltI b a = false) → Q (.own (ys.map itD))
def unI : V → Itm
  | .int i => .inl i
  | .str x => .inr x
  | _ => .inl 0
def kG (G : Hp) : V → List Itm
  | .ref t => match G t with
    | some (.tup ws) => ws.map unI
    | _ => []
  | _ => []
theorem un_v (is : List Itm) : (is.map Itm.v).map unI = is := by
  rw [List.map_map]
  conv => rhs; rw [← List.map_id is]
  exact List.map_congr_left fun x _ => by cases x <;> rfl
section
variable {K : PySem.W.Frag} {G H : Hp}
theorem keys_of : ∀ {vs : List V} {xs : List (List Itm)} {F : List Addr}, RpL K G H vs (xs.map itD) F → (∀ v ∈ vs, ∃ t, v = .ref t ∧ G t = some (.tup ((kG G v).map Itm.v))) ∧ vs.map (kG G) = xs
  | _, [], _, .nil => ⟨fun _ z => (by cases z), rfl⟩
  | _, x :: xs, _, .cons h1 h2 h3 => by
    obtain ⟨g1, g2⟩ := keys_of h2
    unfold itD at h1
    cases h1 with
    | @f a _ ws _ F0 k1 k2 =>
      have e : ws = x.map Itm.v := by
        have : (x.map fun i => D.p i.v) = (x.map Itm.v).map D.p := by rw [List.map_map]; rfl
        rw [this] at k2
        exact k2.prims
      subst e
      have k1' : G a = some (.tup (x.map Itm.v)) := k1
      have ek : kG G (.ref a) = x := by
        simp only [kG, k1']
        exact un_v x
      refine ⟨fun v hv => ?_, by rw [List.map_cons, ek, g2]⟩
      rcases List.mem_cons.mp hv with z | z
      · subst z; exact ⟨a, rfl, by rw [ek]; exact k1'⟩
      · exact g1 v z
theorem rp_keys : ∀ {vs : List V}, (∀ v ∈ vs, ∃ t, v = .ref t ∧ G t = some (.tup ((kG G v).map Itm.v))) → RpL K G H vs ((vs.map (kG G)).map itD) []
  | [], _ => .nil
  | v :: vs, h => by
    obtain ⟨t, e, g⟩ := h v List.mem_cons_self
    have r : Rp K G H v (itD (kG G v)) [] := by
      rw [e] at g ⊢
      refine Rp.f (vs := (kG G (.ref t)).map Itm.v) g ?_
      have : ((kG G (.ref t)).map fun i => D.p i.v) = ((kG G (.ref t)).map Itm.v).map D.p := by rw [List.map_map]; rfl
      rw [this]
      exact RpL.of_prims
    have := RpL.cons r (rp_keys (vs := vs) fun u hu => h u (List.mem_cons_of_mem _ hu)) fun a z => by cases z
    exact this
end
section
variable {X : Cx} {cn : String → Addr} {E : WX}
theorem s_sortT : SemL X.K (rSortedT X.K) qSortT := by
  rintro G H vs ds Q0 Q s rs ⟨d, ch, xs, b, sh, rfl, e, rfl, hb, q⟩ fin
  obtain ⟨v, F, rfl, r⟩ := rps1 rs
  obtain ⟨a, vs, F', rfl, h1, h2⟩ := r.listOf s e
  obtain ⟨g1, g2⟩ := keys_of h2
  refine ⟨a, vs, kG G, b, sh, rfl, h1, fun x hx => ?_, fun ys p hs hp hn => ?_⟩
  · obtain ⟨t, e1, e2⟩ := g1 x hx
    refine ⟨t, e1, s _ _ e2, hb _ ?_⟩
    rw [← g2]
    exact List.mem_map.mpr ⟨x, hx, rfl⟩
  · refine fin.lst s (rp_keys fun v hv => g1 v (hp.mem_iff.mp hv)) hn (q _ ?_ ?_)
    · rw [← g2]; exact hp.map _
    · exact List.pairwise_map.mpr hs
/-- xs[::-1] -/
def qRevL : D → (D → Prop) → Prop := fun d Q => ∃ ch, listOf d = some ch ∧ isFzL ch = true ∧ Q (.own ch.reverse)
/-! ### for the run -/
theorem perm_of_map {α β : Type} {K : α → β} (hi : ∀ x y, K x = K y → x = y) {zs xs : List α} (h : (zs.map K).Perm (xs.map K)) : zs.Perm xs := by
  classical
  rw [List.perm_iff_count]
  intro a
  have := (List.perm_iff_count.mp h) (K a)
  have ce : ∀ l : List α, (l.map K).count (K a) = l.count a := fun l => by
    induction l with
    | nil => rfl
    | cons x l ih =>
      rw [List.map_cons, List.count_cons, List.count_cons, ih]
      by_cases z : x = a
      · simp [z]
      · have : K x ≠ K a := fun y => z (hi _ _ y)
        simp [z, this]
  rwa [ce, ce] at this
theorem w_sortT {α : Type} {d : D} {F : α → D} {K : α → List Itm} {xs : List α} {b : Bool} {sh : List Bool} {k : D → Prop} (h1 : listOf d = some (xs.map F)) (hF : ∀ x, F x = itD (K x)) (hb : ∀ x ∈ xs, (K x).map Itm.b = b :: sh) (h : ∀ ys : List α, ys.Perm xs → ys.Pairwise (fun a b => ltI (K b) (K a) = false) → k (.own (ys.map F))) (hi : ∀ x y, K x = K y → x = y) : qSortT [d] k := by
  refine ⟨d, _, xs.map K, b, sh, rfl, h1, ?_, ?_, fun ys hp hs => ?_⟩
  · rw [List.map_map]
    exact List.map_congr_left fun x _ => hF x
  · intro x hx
    obtain ⟨y, hy, rfl⟩ := List.mem_map.mp hx
    exact hb y hy
  · have key : ∀ ys : List (List Itm), (∀ y ∈ ys, ∃ x, K x = y) → ∃ zs : List α, zs.map K = ys := by
      intro ys
      induction ys with
      | nil => intro _; exact ⟨[], rfl⟩
      | cons y ys ih =>
        intro hh
        obtain ⟨zs, hz⟩ := ih fun u hu => hh u (List.mem_cons_of_mem _ hu)
        obtain ⟨x, hx⟩ := hh y List.mem_cons_self
        exact ⟨x :: zs, by rw [List.map_cons, hx, hz]⟩
    obtain ⟨zs, hz⟩ := key ys fun y hy => by
      obtain ⟨x, _, hx⟩ := List.mem_map.mp (hp.mem_iff.mp hy)
      exact ⟨x, hx⟩
    subst hz
    have := h zs (perm_of_map hi hp) (List.pairwise_map.mp hs)
    rwa [show (zs.map K).map itD = zs.map F by rw [List.map_map]; exact List.map_congr_left fun x _ => (hF x).symm]
/-- two sorted lists of the same things are one -/
theorem sort_uniq {α : Type} {K : α → List Itm} (hi : ∀ x y, K x = K y → x = y) : ∀ {ys zs : List α}, ys.Perm zs → ys.Pairwise (fun a b => ltI (K b) (K a) = false) → zs.Pairwise (fun a b => ltI (K b) (K a) = false) → ys = zs
  | [], zs, h, _, _ => (List.nil_perm.mp h).symm
  | y :: ys, zs, h, h1, h2 => by
    cases zs with
    | nil => exact absurd h.length_eq (by simp)
    | cons z zs =>
      have e : y = z := by
        have a1 := (List.pairwise_cons.mp h1).1
        have a2 := (List.pairwise_cons.mp h2).1
        have m1 : y ∈ z :: zs := h.mem_iff.mp List.mem_cons_self
        have m2 : z ∈ y :: ys := h.mem_iff.mpr List.mem_cons_self
        rcases List.mem_cons.mp m1 with e | m1
        · exact e
        · rcases List.mem_cons.mp m2 with e | m2
          · exact e.symm
          · exact hi _ _ (ltI_total (a2 _ m1) (a1 _ m2))
      subst e
      rw [sort_uniq hi ((List.perm_cons y).mp h) (List.pairwise_cons.mp h1).2 (List.pairwise_cons.mp h2).2]
end
end DL
/-! DL35: a slot frozen ahead of a statement. -/
namespace DL
open PySem L2
/-- what slot i holds is shared from here on -/
def dFrz (i : Nat) (t : DS) : DS := fun D ρ => ∃ d, ρ[i]? = some (.v d) ∧ t D ((killB i ρ).set i (.v d.fz))
section
variable {X : Cx} {cn : String → Addr} {E : WX}
end
theorem w_frz {i : Nat} {t : DS} {D : DEnds} {ρ ρ1 : Env} {d d' : DL.D} (h0 : ρ[i]? = some (.v d)) (h2 : d.fz = d') (h1 : (killB i ρ).set i (.v d') = ρ1) (h : t D ρ1) : dFrz i t D ρ := ⟨d, h0, by rw [h2, h1]; exact h⟩
end DL
/-! DL36: {k: v}, k a text that is told by an expression. -/
namespace DL
open PySem L2
def dDisp1 (t : DA) : DE := fun ρ Q E => t ρ (fun rs ρ1 => ∃ k d ρ2, tkL ρ1 rs = some ([.p (.str k), d], ρ2) ∧ Q (.t (.n true (.dic [.inr k]) [d])) ρ2) E
section
variable {X : Cx} {cn : String → Addr} {E : WX} {pos : Pos} {e f : Expr} {ta tb : DE}
end
section
variable {ρ ρ2 : Env} {Q : Rv → Env → Prop} {E : Exn → Env → Prop} {t : DA} {xs : List Rv}
def dp1K (xs : List Rv) (ρ1 : Env) (Q : Rv → Env → Prop) : Prop := ∃ k d ρ2, tkL ρ1 xs = some ([.p (.str k), d], ρ2) ∧ Q (.t (.n true (.dic [.inr k]) [d])) ρ2
theorem w_disp1 (h : t ρ (fun rs ρ1 => dp1K rs ρ1 Q) E) : dDisp1 t ρ Q E := h
theorem w_dp1K {k : Str} {d : D} (h1 : tkL ρ xs = some ([.p (.str k), d], ρ2)) (h : Q (.t (.n true (.dic [.inr k]) [d])) ρ2) : dp1K xs ρ Q := ⟨k, d, ρ2, h1, h⟩
end
end DL
/-! DL37: enumerate(zip(a, b)): the pair that zip gave last may still be held. -/
namespace DL
open PySem L2 PyProof.Rows
section
variable {prog : Program} {w : World} {A : Around} {E : Value → Shared → Prop} {s : Shared}
abbrev zo (v : Value) (b : Bool) (ti tq : Addr) : Obj := { cls := .type "zip", dict := none, data := .fields #[v, .bool b, .bool false, .ref ti, .ref tq], slots := #[] }
def zv (v : Value) : Prop := v = .none ∨ ∃ T : Addr, v = rawInt T
theorem ask_alive {a : Addr} {R : Option Obj → Shared → Prop} (h : R (s.heap.get? a) s) : wpAny (model prog w) A (loadIfAlive a) R E s := fun _ _ _ => h
theorem zown {z ti tq : Addr} {v : Value} {b : Bool} {R : Bool → Shared → Prop} (g0 : s.heap.get? z = some (zo v b ti tq)) (gv : zv v) (q1 : R true s)
    (q2 : ∀ h', h'.get? z = some (zo v true ti tq) → Heap.SameBut z s.heap h' → R false { s with heap := h' }) : wpAny (model prog w) A (Builtin.SmallTypes.ownedTupleIsFree (.ref z)) R E s := by
  unfold Builtin.SmallTypes.ownedTupleIsFree
  refine wpAny_bind (wpAny_field g0 rfl (x := v) rfl ?_)
  rcases gv with rfl | ⟨T, rfl⟩
  · exact wpAny_pure q1
  show wpAny _ _ (loadIfAlive ((T : Int).toNat) >>= _) _ _ _
  refine wpAny_bind (ask_alive ?_)
  cases s.heap.get? ((T : Int).toNat) with
  | none => exact wpAny_pure q1
  | some ob =>
    simp only [Option.isNone_some, Bool.false_eq_true, if_false]
    refine wpAny_bind (wpAny_field g0 rfl (x := .bool b) rfl ?_)
    cases b with
    | true =>
      rw [if_neg (show ¬ ((Value.bool true != Value.bool true) = true) from Bool.false_ne_true)]
      exact wpAny_pure (q2 _ g0 (Heap.SameBut.refl ..))
    | false =>
      rw [if_pos (show (Value.bool false != Value.bool true) = true from rfl)]
      exact wpAny_bind (wpAny_setField_rec g0 (by simp) fun h1 u1 u2 => wpAny_pure (q2 h1 u1 u2))
/-- zip's next pair, whatever became of the last one -/
theorem znext {z ti tq i1 i2 l1 l2 : Addr} {j1 j2 : Nat} {v : Value} {b : Bool} {xs ys : Array Value} {x y : Value} {R : Value → Shared → Prop} (D : ZipApart z ti tq i1 i2 l1 l2)
    (g0 : s.heap.get? z = some (zo v b ti tq)) (gv : zv v) (gi : IsPair s.heap ti (.ref i1) (.ref i2)) (go : ∃ p q, IsPair s.heap tq p q) (c1 : s.heap.IsListIter i1 l1 j1) (c2 : s.heap.IsListIter i2 l2 j2)
    (a1 : s.heap.IsList l1 xs) (a2 : s.heap.IsList l2 ys) (e1 : xs[j1]? = some x) (e2 : ys[j2]? = some y)
    (k : ∀ h' v' b', h'.get? z = some (zo v' b' ti tq) → zv v' → (∃ p q, IsPair h' tq p q) → h'.IsListIter i1 l1 (j1 + 1) → h'.IsListIter i2 l2 (j2 + 1) → IsPair h' s.heap.objs.size x y → h'.objs.size = s.heap.objs.size + 1 →
      (∀ c o, c ≠ z → c ≠ tq → c ≠ i1 → c ≠ i2 → s.heap.get? c = some o → h'.get? c = some o) → R (.ref s.heap.objs.size) { s with heap := h' }) :
    wpAny (model prog w) A (Builtin.«zip.__next__» ⟨[.ref z], []⟩) (fun r t => ∃ u, r = .done (.ret u) ∧ R u t) E s := by
  obtain ⟨p, q, go⟩ := go
  show wpAny _ _ (field (.ref z) 2 >>= _) _ _ _
  refine wpAny_bind (wpAny_field g0 rfl (x := .bool false) rfl ?_)
  show wpAny _ _ (field (.ref z) 3 >>= _) _ _ _
  refine wpAny_bind (wpAny_field g0 rfl (x := .ref ti) rfl ?_)
  refine wpAny_bind (wpAny_seqItems gi rfl ?_)
  show wpAny _ _ (Builtin.SmallTypes.ownedTupleIsFree (.ref z) >>= _) _ _ _
  refine wpAny_bind (zown g0 gv ?_ fun h1 g1 m1 => ?_)
  · simp only [if_true]
    refine wpAny_bind (wpAny_rule ?_)
    refine wpAny_bind (wpAny_field g0 rfl (x := .ref tq) rfl ?_)
    refine wpAny_bind (wpAny_setField_rec g0 (by simp) fun h1 g1 m1 => ?_)
    replace g1 : h1.get? z = some (zo .ellipsis b ti tq) := g1
    refine wpAny_bind ?_
    simp only [List.zipIdx_cons, List.zipIdx_nil, List.forIn_cons, List.forIn_nil]
    refine wpAny_bind (wpAny_bind (wpAny_onRaise ?_))
    show wpAny _ _ (Builtin.SmallTypes.nextOf (.ref i1) >>= _) _ _ _
    refine wpAny_bind (wpAny_nextOf_list_item (c1.extBut m1.extBut D.i1z) (a1.extBut m1.extBut D.l1z) e1 fun h2 d2 m2 => wpAny_pure ?_)
    have o2 : IsPair h2 tq p q := m2.extBut _ _ D.TOi1 (m1.extBut _ _ D.TOz go)
    refine wpAny_bind (wpAny_seqItems o2 rfl ?_)
    refine wpAny_bind (wpAny_updateSeq_pair o2 fun h3 o3 m3 => ?_)
    replace o3 : IsPair h3 tq x q := o3
    refine wpAny_bind (wpAny_letGo (wpAny_pure ?_))
    refine wpAny_bind (wpAny_bind (wpAny_onRaise ?_))
    show wpAny _ _ (Builtin.SmallTypes.nextOf (.ref i2) >>= _) _ _ _
    refine wpAny_bind (wpAny_nextOf_list_item (((c2.extBut m1.extBut D.i2z).extBut m2.extBut D.i12.symm).extBut m3.extBut D.TOi2.symm) (((a2.extBut m1.extBut D.l2z).extBut m2.extBut D.l2i1).extBut m3.extBut D.l2TO) e2 fun h4 d4 m4 => wpAny_pure ?_)
    have o4 : IsPair h4 tq x q := m4.extBut _ _ D.TOi2 o3
    refine wpAny_bind (wpAny_seqItems o4 rfl ?_)
    refine wpAny_bind (wpAny_updateSeq_pair o4 fun h5 o5 m5 => ?_)
    replace o5 : IsPair h5 tq x y := o5
    refine wpAny_bind (wpAny_letGo (wpAny_pure (wpAny_pure ?_)))
    refine wpAny_bind (wpAny_seqItems o5 rfl ?_)
    refine wpAny_bind (wpAny_newTuple ?_)
    have sz : h5.objs.size = s.heap.objs.size := by rw [m5.1, m4.1, m3.1, m2.1, m1.1]
    have g5 : h5.get? z = some (zo .ellipsis b ti tq) := m5.extBut _ _ D.TOz.symm (m4.extBut _ _ D.i2z.symm (m3.extBut _ _ D.TOz.symm (m2.extBut _ _ D.i1z.symm g1)))
    have k5 : ∀ c o, c ≠ z → c ≠ tq → c ≠ i1 → c ≠ i2 → s.heap.get? c = some o → h5.get? c = some o := fun c o n1 n2 n3 n4 e => m5.extBut _ _ n2 (m4.extBut _ _ n4 (m3.extBut _ _ n2 (m2.extBut _ _ n3 (m1.extBut _ _ n1 e))))
    have d5 : h5.IsListIter i1 l1 (j1 + 1) := ((d2.extBut m3.extBut D.TOi1.symm).extBut m4.extBut D.i12).extBut m5.extBut D.TOi1.symm
    have d5' : h5.IsListIter i2 l2 (j2 + 1) := d4.extBut m5.extBut D.TOi2.symm
    have zl : z < h5.objs.size := Heap.lt_size g5
    show wpAny _ _ (Builtin.SmallTypes.ownedTupleHandOut (.ref z) (.ref h5.objs.size) >>= _) _ _ _
    refine wpAny_bind ?_
    unfold Builtin.SmallTypes.ownedTupleHandOut
    have g6 : (h5.push { cls := .type "tuple", data := .seq #[x, y] }).get? z = some (zo .ellipsis b ti tq) := Heap.get?_push_of_some _ g5
    refine wpAny_bind (wpAny_setField_rec g6 (by simp) fun h7 g7 m7 => ?_)
    replace g7 : h7.get? z = some (zo (rawInt h5.objs.size) b ti tq) := g7
    refine wpAny_setField_rec g7 (by simp) fun h8 g8 m8 => ?_
    replace g8 : h8.get? z = some (zo (rawInt h5.objs.size) false ti tq) := g8
    have up : ∀ c o, c ≠ z → h5.get? c = some o → h8.get? c = some o := fun c o n1 e => m8.extBut _ _ n1 (m7.extBut _ _ n1 (Heap.get?_push_of_some _ e))
    have t8 : IsPair h8 h5.objs.size x y := m8.extBut _ _ (Nat.ne_of_gt zl) (m7.extBut _ _ (Nat.ne_of_gt zl) (Heap.get?_push_size _ rfl))
    have s8 : h8.objs.size = h5.objs.size + 1 := by rw [m8.1, m7.1, Heap.size_push]
    rw [sz] at g8 t8 s8
    refine wpAny_pure ⟨_, rfl, ?_⟩
    show R (.ref h5.objs.size) _
    rw [sz]
    exact k h8 _ _ g8 (.inr ⟨_, rfl⟩) ⟨_, _, up _ _ D.TOz o5⟩ (d5.at fun o e => up _ o D.i1z e) (d5'.at fun o e => up _ o D.i2z e) t8 s8 fun c o n1 n2 n3 n4 e => up c o n1 (k5 c o n1 n2 n3 n4 e)
  · simp only [Bool.false_eq_true, if_false]
    refine wpAny_bind ?_
    rw [← Array.forIn_toList]
    simp only [List.forIn_cons, List.forIn_nil]
    refine wpAny_bind (wpAny_bind (wpAny_holding ?_))
    show wpAny _ _ (Builtin.SmallTypes.nextOf (.ref i1) >>= _) _ _ _
    refine wpAny_bind (wpAny_nextOf_list_item (s := { s with heap := h1 }) (c1.extBut m1.extBut D.i1z) (a1.extBut m1.extBut D.l1z) e1 fun h2 d2 m2 => wpAny_pure ?_)
    refine wpAny_pure ?_
    refine wpAny_bind (wpAny_bind (wpAny_holding ?_))
    show wpAny _ _ (Builtin.SmallTypes.nextOf (.ref i2) >>= _) _ _ _
    refine wpAny_bind (wpAny_nextOf_list_item (s := { s with heap := h2 }) ((c2.extBut m1.extBut D.i2z).extBut m2.extBut D.i12.symm) ((a2.extBut m1.extBut D.l2z).extBut m2.extBut D.l2i1) e2 fun h3 d3 m3 => wpAny_pure ?_)
    refine wpAny_pure (wpAny_pure ?_)
    show wpAny _ _ (newTuple [x, y] >>= _) _ _ _
    refine wpAny_bind (wpAny_newTuple ?_)
    have sz : h3.objs.size = s.heap.objs.size := by rw [m3.1, m2.1, m1.1]
    have g3 : h3.get? z = some (zo v true ti tq) := m3.extBut _ _ D.i2z.symm (m2.extBut _ _ D.i1z.symm g1)
    have k3 : ∀ c o, c ≠ z → c ≠ i1 → c ≠ i2 → s.heap.get? c = some o → h3.get? c = some o := fun c o n1 n2 n3 e => m3.extBut _ _ n3 (m2.extBut _ _ n2 (m1.extBut _ _ n1 e))
    have d3' : h3.IsListIter i1 l1 (j1 + 1) := d2.extBut m3.extBut D.i12
    refine wpAny_pure ⟨_, rfl, ?_⟩
    show R (.ref h3.objs.size) _
    have hp : IsPair (h3.push { cls := .type "tuple", data := .seq #[x, y] }) h3.objs.size x y := Heap.get?_push_size _ rfl
    have hs : (h3.push { cls := .type "tuple", data := .seq #[x, y] }).objs.size = h3.objs.size + 1 := Heap.size_push ..
    rw [sz] at hp hs ⊢
    exact k _ _ _ (Heap.get?_push_of_some _ g3) gv ⟨_, _, Heap.get?_push_of_some _ (k3 _ _ D.TOz D.TOi1 D.TOi2 go)⟩ (d3'.at fun o e => Heap.get?_push_of_some _ e) (d3.at fun o e => Heap.get?_push_of_some _ e) hp hs
      fun c o n1 n2 n3 n4 e => Heap.get?_push_of_some _ (k3 c o n1 n3 n4 e)
/-- .. its end -/
theorem zend {z ti tq i1 i2 l1 l2 : Addr} {j1 j2 : Nat} {v : Value} {b : Bool} {xs ys : Array Value} {R : PySem.Fin → Shared → Prop} (ah : A.handled = none) (D : ZipApart z ti tq i1 i2 l1 l2)
    (g0 : s.heap.get? z = some (zo v b ti tq)) (gv : zv v) (gi : IsPair s.heap ti (.ref i1) (.ref i2)) (go : ∃ p q, IsPair s.heap tq p q) (c1 : s.heap.IsListIter i1 l1 j1) (c2 : s.heap.IsListIter i2 l2 j2)
    (a1 : s.heap.IsList l1 xs) (a2 : s.heap.IsList l2 ys) (en : xs[j1]? = none ∨ ys[j2]? = none)
    (k : ∀ h' e, (∀ c o, c ≠ z → c ≠ tq → c ≠ i1 → c ≠ i2 → s.heap.get? c = some o → h'.get? c = some o) → (∃ o, h'.get? e = some o ∧ o.cls = .type "StopIteration") → E (.ref e) { s with heap := h' }) :
    wpAny (model prog w) A (Builtin.«zip.__next__» ⟨[.ref z], []⟩) R E s := by
  obtain ⟨p, q, go⟩ := go
  show wpAny _ _ (field (.ref z) 2 >>= _) _ _ _
  refine wpAny_bind (wpAny_field g0 rfl (x := .bool false) rfl ?_)
  show wpAny _ _ (field (.ref z) 3 >>= _) _ _ _
  refine wpAny_bind (wpAny_field g0 rfl (x := .ref ti) rfl ?_)
  refine wpAny_bind (wpAny_seqItems gi rfl ?_)
  show wpAny _ _ (Builtin.SmallTypes.ownedTupleIsFree (.ref z) >>= _) _ _ _
  refine wpAny_bind (zown g0 gv ?_ fun h1 g1 m1 => ?_)
  · simp only [if_true]
    refine wpAny_bind (wpAny_rule ?_)
    refine wpAny_bind (wpAny_field g0 rfl (x := .ref tq) rfl ?_)
    refine wpAny_bind (wpAny_setField_rec g0 (by simp) fun h1 g1 m1 => ?_)
    replace g1 : h1.get? z = some (zo .ellipsis b ti tq) := g1
    refine wpAny_bind ?_
    simp only [List.zipIdx_cons, List.zipIdx_nil, List.forIn_cons, List.forIn_nil]
    refine wpAny_bind (wpAny_bind (wpAny_onRaise ?_))
    show wpAny _ _ (Builtin.SmallTypes.nextOf (.ref i1) >>= _) _ _ _
    cases ex : xs[j1]? with
    | none =>
      refine wpAny_bind (wpAny_nextOf_list_end ah (c1.extBut m1.extBut D.i1z) (a1.extBut m1.extBut D.l1z) ex fun h2 e m2 he => ?_)
      obtain ⟨oe, u1, u2⟩ := he
      have g2 : h2.get? z = some (zo .ellipsis b ti tq) := m2 _ _ D.i1z.symm g1
      have ne : e ≠ z := fun c => by subst c; rw [g2] at u1; cases u1; simp at u2
      refine wpAny_setField_rec g2 (by simp) fun h3 _ m3 => k h3 e (fun c o n1 _ n3 _ f => m3.extBut _ _ n1 (m2 _ _ n3 (m1.extBut _ _ n1 f))) ⟨oe, m3.extBut _ _ ne u1, u2⟩
    | some x =>
      have ey : ys[j2]? = none := by
        rcases en with h | h
        · rw [ex] at h; cases h
        · exact h
      refine wpAny_bind (wpAny_nextOf_list_item (c1.extBut m1.extBut D.i1z) (a1.extBut m1.extBut D.l1z) ex fun h2 d2 m2 => wpAny_pure ?_)
      have o2 : IsPair h2 tq p q := m2.extBut _ _ D.TOi1 (m1.extBut _ _ D.TOz go)
      refine wpAny_bind (wpAny_seqItems o2 rfl ?_)
      refine wpAny_bind (wpAny_updateSeq_pair o2 fun h3 o3 m3 => ?_)
      refine wpAny_bind (wpAny_letGo (wpAny_pure ?_))
      refine wpAny_bind (wpAny_bind (wpAny_onRaise ?_))
      show wpAny _ _ (Builtin.SmallTypes.nextOf (.ref i2) >>= _) _ _ _
      refine wpAny_bind (wpAny_nextOf_list_end ah (((c2.extBut m1.extBut D.i2z).extBut m2.extBut D.i12.symm).extBut m3.extBut D.TOi2.symm) (((a2.extBut m1.extBut D.l2z).extBut m2.extBut D.l2i1).extBut m3.extBut D.l2TO) ey fun h4 e m4 he => ?_)
      obtain ⟨oe, u1, u2⟩ := he
      have g4 : h4.get? z = some (zo .ellipsis b ti tq) := m4 _ _ D.i2z.symm (m3.extBut _ _ D.TOz.symm (m2.extBut _ _ D.i1z.symm g1))
      have ne : e ≠ z := fun c => by subst c; rw [g4] at u1; cases u1; simp at u2
      refine wpAny_setField_rec g4 (by simp) fun h5 _ m5 => k h5 e (fun c o n1 n2 n3 n4 f => m5.extBut _ _ n1 (m4 _ _ n4 (m3.extBut _ _ n2 (m2.extBut _ _ n3 (m1.extBut _ _ n1 f))))) ⟨oe, m5.extBut _ _ ne u1, u2⟩
  · simp only [Bool.false_eq_true, if_false]
    refine wpAny_bind ?_
    rw [← Array.forIn_toList]
    simp only [List.forIn_cons, List.forIn_nil]
    refine wpAny_bind (wpAny_bind (wpAny_holding ?_))
    show wpAny _ _ (Builtin.SmallTypes.nextOf (.ref i1) >>= _) _ _ _
    cases ex : xs[j1]? with
    | none =>
      refine wpAny_bind (wpAny_nextOf_list_end (s := { s with heap := h1 }) ah (c1.extBut m1.extBut D.i1z) (a1.extBut m1.extBut D.l1z) ex fun h2 e m2 he => ?_)
      exact k h2 e (fun c o n1 _ n3 _ f => m2 _ _ n3 (m1.extBut _ _ n1 f)) he
    | some x =>
      have ey : ys[j2]? = none := by
        rcases en with h | h
        · rw [ex] at h; cases h
        · exact h
      refine wpAny_bind (wpAny_nextOf_list_item (s := { s with heap := h1 }) (c1.extBut m1.extBut D.i1z) (a1.extBut m1.extBut D.l1z) ex fun h2 d2 m2 => wpAny_pure ?_)
      refine wpAny_pure ?_
      refine wpAny_bind (wpAny_bind (wpAny_holding ?_))
      show wpAny _ _ (Builtin.SmallTypes.nextOf (.ref i2) >>= _) _ _ _
      refine wpAny_bind (wpAny_nextOf_list_end (s := { s with heap := h2 }) ah ((c2.extBut m1.extBut D.i2z).extBut m2.extBut D.i12.symm) ((a2.extBut m1.extBut D.l2z).extBut m2.extBut D.l2i1) ey fun h3 e m3 he => ?_)
      exact k h3 e (fun c o n1 _ n3 n4 f => m3 _ _ n4 (m2.extBut _ _ n3 (m1.extBut _ _ n1 f))) he
theorem znextOf {z ti tq i1 i2 l1 l2 : Addr} {j1 j2 : Nat} {v : Value} {b : Bool} {xs ys : Array Value} {x y : Value} {R : Value → Shared → Prop} (D : ZipApart z ti tq i1 i2 l1 l2)
    (g0 : s.heap.get? z = some (zo v b ti tq)) (gv : zv v) (gi : IsPair s.heap ti (.ref i1) (.ref i2)) (go : ∃ p q, IsPair s.heap tq p q) (c1 : s.heap.IsListIter i1 l1 j1) (c2 : s.heap.IsListIter i2 l2 j2)
    (a1 : s.heap.IsList l1 xs) (a2 : s.heap.IsList l2 ys) (e1 : xs[j1]? = some x) (e2 : ys[j2]? = some y)
    (k : ∀ h' v' b', h'.get? z = some (zo v' b' ti tq) → zv v' → (∃ p q, IsPair h' tq p q) → h'.IsListIter i1 l1 (j1 + 1) → h'.IsListIter i2 l2 (j2 + 1) → IsPair h' s.heap.objs.size x y → h'.objs.size = s.heap.objs.size + 1 →
      (∀ c o, c ≠ z → c ≠ tq → c ≠ i1 → c ≠ i2 → s.heap.get? c = some o → h'.get? c = some o) → R (.ref s.heap.objs.size) { s with heap := h' }) :
    wpAny (model prog w) A (Builtin.SmallTypes.nextOf (.ref z)) R E s := by
  have ht : s.TypeIs (.ref z) "zip" := ⟨_, g0, rfl⟩
  unfold Builtin.SmallTypes.nextOf
  refine wpAny_bind (wpAny_callSpecial?_slot (name := Str.ofString "__next__") ht F.slot_zip_next (wpAny_call_entry F.slot_zip_next ht F.entry_zip_next ?_ (F.args_zip_next_1 _)))
  exact znext D g0 gv gi go c1 c2 a1 a2 e1 e2 fun h' v' b' q1 q2 q3 q4 q5 q6 q7 q8 => wpAny_pure (k h' v' b' q1 q2 q3 q4 q5 q6 q7 q8)
theorem zendOf {z ti tq i1 i2 l1 l2 : Addr} {j1 j2 : Nat} {v : Value} {b : Bool} {xs ys : Array Value} {R : Value → Shared → Prop} (ah : A.handled = none) (D : ZipApart z ti tq i1 i2 l1 l2)
    (g0 : s.heap.get? z = some (zo v b ti tq)) (gv : zv v) (gi : IsPair s.heap ti (.ref i1) (.ref i2)) (go : ∃ p q, IsPair s.heap tq p q) (c1 : s.heap.IsListIter i1 l1 j1) (c2 : s.heap.IsListIter i2 l2 j2)
    (a1 : s.heap.IsList l1 xs) (a2 : s.heap.IsList l2 ys) (en : xs[j1]? = none ∨ ys[j2]? = none)
    (k : ∀ h' e, (∀ c o, c ≠ z → c ≠ tq → c ≠ i1 → c ≠ i2 → s.heap.get? c = some o → h'.get? c = some o) → (∃ o, h'.get? e = some o ∧ o.cls = .type "StopIteration") → E (.ref e) { s with heap := h' }) :
    wpAny (model prog w) A (Builtin.SmallTypes.nextOf (.ref z)) R E s := by
  have ht : s.TypeIs (.ref z) "zip" := ⟨_, g0, rfl⟩
  unfold Builtin.SmallTypes.nextOf
  refine wpAny_bind (wpAny_callSpecial?_slot (name := Str.ofString "__next__") ht F.slot_zip_next (wpAny_call_entry F.slot_zip_next ht F.entry_zip_next ?_ (F.args_zip_next_1 _)))
  exact zend ah D g0 gv gi go c1 c2 a1 a2 en k
/-- enumerate's next tuple, over a zip -/
theorem eznext {e z ti tq i1 i2 l1 l2 : Addr} {c : Int} {j1 j2 : Nat} {v old : Value} {b : Bool} {xs ys : Array Value} {x y : Value} {R : Option Value → Shared → Prop} (D : ZipApart z ti tq i1 i2 l1 l2)
    (he : IsEnum s.heap e z c old) (ne : e ≠ z ∧ e ≠ ti ∧ e ≠ tq ∧ e ≠ i1 ∧ e ≠ i2)
    (g0 : s.heap.get? z = some (zo v b ti tq)) (gv : zv v) (gi : IsPair s.heap ti (.ref i1) (.ref i2)) (go : ∃ p q, IsPair s.heap tq p q) (c1 : s.heap.IsListIter i1 l1 j1) (c2 : s.heap.IsListIter i2 l2 j2)
    (a1 : s.heap.IsList l1 xs) (a2 : s.heap.IsList l2 ys) (e1 : xs[j1]? = some x) (e2 : ys[j2]? = some y)
    (k : ∀ h1 h' v' b' tk, IsPair h1 s.heap.objs.size x y → h1.objs.size = s.heap.objs.size + 1 → (∀ c o, c ≠ z → c ≠ tq → c ≠ i1 → c ≠ i2 → s.heap.get? c = some o → h1.get? c = some o) →
      h'.get? z = some (zo v' b' ti tq) → zv v' → (∃ p q, IsPair h' tq p q) → h'.IsListIter i1 l1 (j1 + 1) → h'.IsListIter i2 l2 (j2 + 1) → IsEnumOut h' e z (c + 1) (.ref s.heap.objs.size) (s.heap.objs.size + 1) →
      IsPair h' (s.heap.objs.size + 1) (.int c tk) (.ref s.heap.objs.size) → (∀ a o, a ≠ e → h1.get? a = some o → h'.get? a = some o) → R (some (.ref (s.heap.objs.size + 1))) { s with heap := h', toks := tk + 1 }) :
    wpAny (model prog w) A (pyNext (.ref e)) R E s := by
  have ht : s.TypeIs (.ref e) "enumerate" := ⟨_, he, rfl⟩
  unfold pyNext
  refine wpAny_bind (wpAny_attempt (wpAny_callSpecial?_slot (name := Str.ofString "__next__") ht F.slot_enumerate_next (wpAny_call_entry F.slot_enumerate_next ht F.entry_enumerate_next ?_ (F.args_enumerate_next_1 _))))
  obtain ⟨hp, gn, dr, tk, os⟩ := s
  show wpAny _ _ (field (.ref e) 2 >>= _) _ _ _
  refine wpAny_bind (wpAny_field he rfl (x := .ref z) rfl ?_)
  refine wpAny_bind (znextOf D g0 gv gi go c1 c2 a1 a2 e1 e2 fun h1 v' b' q1 q2 q3 q4 q5 q6 q7 q8 => ?_)
  have he1 : IsEnum h1 e z c old := q8 _ _ ne.1 ne.2.2.1 ne.2.2.2.1 ne.2.2.2.2 he
  show wpAny _ _ (field (.ref e) 3 >>= _) _ _ ⟨h1, gn, dr, tk, os⟩
  refine wpAny_bind (wpAny_field he1 rfl (x := rawInt c) rfl ?_)
  show wpAny _ _ (field (.ref e) 4 >>= _) _ _ ⟨h1, gn, dr, tk, os⟩
  refine wpAny_bind (wpAny_field he1 rfl (x := .none) rfl ?_)
  show wpAny _ _ (mkInt c >>= _) _ _ ⟨h1, gn, dr, tk, os⟩
  refine wpAny_bind (wpAny_mkInt ?_)
  show wpAny _ _ (setField (.ref e) 3 (rawInt (c + 1)) >>= _) _ _ ⟨h1, gn, dr, tk + 1, os⟩
  refine wpAny_bind (wpAny_setField_rec he1 (by simp) fun h2 he2 m2 => ?_)
  replace m2 : Heap.SameBut e h1 h2 := m2
  replace he2 : IsEnum h2 e z (c + 1) old := he2
  show wpAny _ _ (setField (.ref e) 4 .none >>= _) _ _ ⟨h2, gn, dr, tk + 1, os⟩
  refine wpAny_bind (wpAny_setField_rec he2 (by simp) fun h3 he3 m3 => ?_)
  replace m3 : Heap.SameBut e h2 h3 := m3
  replace he3 : IsEnum h3 e z (c + 1) old := he3
  show wpAny _ _ (newTuple [.int c tk, .ref hp.objs.size] >>= _) _ _ ⟨h3, gn, dr, tk + 1, os⟩
  refine wpAny_bind (wpAny_newTuple ?_)
  have he4 : IsEnum (h3.push { cls := .type "tuple", data := .seq #[.int c tk, .ref hp.objs.size] }) e z (c + 1) old := Heap.get?_push_of_some _ he3
  generalize eh4 : h3.push { cls := .type "tuple", data := .seq #[.int c tk, .ref hp.objs.size] } = h4 at he4
  have sz : h3.objs.size = hp.objs.size + 1 := by rw [m3.1, m2.1, q7]
  have el : e < hp.objs.size := Heap.lt_size he
  have t4 : IsPair h4 (hp.objs.size + 1) (.int c tk) (.ref hp.objs.size) := by rw [← eh4, ← sz]; exact Heap.get?_push_size _ rfl
  have k4 : ∀ a o, a ≠ e → h1.get? a = some o → h4.get? a = some o := fun a o n hb => by
    rw [← eh4]; exact Heap.get?_push_of_some _ (m3.extBut a o n (m2.extBut a o n hb))
  show wpAny _ _ (Builtin.SmallTypes.ownedTupleIsFree (.ref e) >>= _) _ _ ⟨h4, gn, dr, tk + 1, os⟩
  rw [sz]
  refine wpAny_bind ?_
  unfold Builtin.SmallTypes.ownedTupleIsFree
  refine wpAny_bind (wpAny_field he4 rfl (x := .none) rfl (wpAny_pure ?_))
  simp only [if_true]
  refine wpAny_bind (wpAny_rule ?_)
  refine wpAny_bind (wpAny_field he4 rfl (x := old) rfl ?_)
  refine wpAny_bind (wpAny_setField_rec he4 (by simp) fun h5 he5 m5 => ?_)
  replace m5 : Heap.SameBut e h4 h5 := m5
  replace he5 : IsEnum h5 e z (c + 1) (.ref hp.objs.size) := he5
  show wpAny _ _ (Builtin.SmallTypes.ownedTupleHandOut (.ref e) (.ref (hp.objs.size + 1)) >>= _) _ _ ⟨h5, gn, dr, tk + 1, os⟩
  refine wpAny_bind ?_
  unfold Builtin.SmallTypes.ownedTupleHandOut
  refine wpAny_bind (wpAny_setField_rec he5 (by simp) fun h6 he6 m6 => ?_)
  replace m6 : Heap.SameBut e h5 h6 := m6
  replace he6 : IsEnumOut h6 e z (c + 1) (.ref hp.objs.size) (hp.objs.size + 1) := he6
  refine wpAny_setField_rec he6 (by simp) fun h7 he7 m7 => ?_
  replace m7 : Heap.SameBut e h6 h7 := m7
  replace he7 : IsEnumOut h7 e z (c + 1) (.ref hp.objs.size) (hp.objs.size + 1) := he7
  have k7 : ∀ a o, a ≠ e → h4.get? a = some o → h7.get? a = some o := fun a o n hb => m7.extBut a o n (m6.extBut a o n (m5.extBut a o n hb))
  obtain ⟨p, q, q3⟩ := q3
  refine wpAny_bind (wpAny_letGo (wpAny_pure ⟨_, rfl, wpAny_pure ?_⟩))
  exact k h1 h7 v' b' tk q6 q7 q8 (k7 _ _ ne.1.symm (k4 _ _ ne.1.symm q1)) q2 ⟨_, _, k7 _ _ ne.2.2.1.symm (k4 _ _ ne.2.2.1.symm q3)⟩ (q4.at fun o u => k7 _ o ne.2.2.2.1.symm (k4 _ o ne.2.2.2.1.symm u))
    (q5.at fun o u => k7 _ o ne.2.2.2.2.symm (k4 _ o ne.2.2.2.2.symm u)) he7 (k7 _ _ (Nat.ne_of_gt (Nat.lt_succ_of_lt el)) t4) fun a o n u => k7 a o n (k4 a o n u)
theorem ezend {e z ti tq i1 i2 l1 l2 : Addr} {c : Int} {j1 j2 : Nat} {v old : Value} {b : Bool} {xs ys : Array Value} {R : Option Value → Shared → Prop} (ah : A.handled = none) (D : ZipApart z ti tq i1 i2 l1 l2)
    (he : IsEnum s.heap e z c old)
    (g0 : s.heap.get? z = some (zo v b ti tq)) (gv : zv v) (gi : IsPair s.heap ti (.ref i1) (.ref i2)) (go : ∃ p q, IsPair s.heap tq p q) (c1 : s.heap.IsListIter i1 l1 j1) (c2 : s.heap.IsListIter i2 l2 j2)
    (a1 : s.heap.IsList l1 xs) (a2 : s.heap.IsList l2 ys) (en : xs[j1]? = none ∨ ys[j2]? = none)
    (k : ∀ h', (∀ c o, c ≠ z → c ≠ tq → c ≠ i1 → c ≠ i2 → s.heap.get? c = some o → h'.get? c = some o) → R none { s with heap := h' }) :
    wpAny (model prog w) A (pyNext (.ref e)) R E s := by
  have ht : s.TypeIs (.ref e) "enumerate" := ⟨_, he, rfl⟩
  unfold pyNext
  refine wpAny_bind (wpAny_attempt (wpAny_callSpecial?_slot (name := Str.ofString "__next__") ht F.slot_enumerate_next (wpAny_call_entry F.slot_enumerate_next ht F.entry_enumerate_next ?_ (F.args_enumerate_next_1 _))))
  show wpAny _ _ (field (.ref e) 2 >>= _) _ _ _
  refine wpAny_bind (wpAny_field he rfl (x := .ref z) rfl ?_)
  refine wpAny_bind (zendOf ah D g0 gv gi go c1 c2 a1 a2 en fun h' x q1 q2 => ?_)
  obtain ⟨o, ho, hc⟩ := q2
  exact wpAny_bind (wpAny_isInstance (T := "StopIteration") (b := true) ⟨o, ho, hc⟩ isSubtype_stop (wpAny_pure (k _ q1)))
open AutoSeq1 (wpAny_loadPart') in
theorem meets_ez (z ti tq : Addr) : Meets (Builtin.«enumerate.__new__» ⟨[.type "enumerate", .ref z], []⟩) (fun _ R s => IsZip s.heap z ti tq .none ∧
    R (.ok (.ret (.ref s.heap.objs.size))) { s with heap := s.heap.push { cls := .type "enumerate", data := .fields #[.none, .bool false, .ref z, rawInt 0, .none, .none] } }) :=
  .of_wp fun prog w A R s h => by
    obtain ⟨hp, gn, dr, tk, os⟩ := s
    obtain ⟨hl, h⟩ := h
    have hsub := sub_enumerate
    have hL : IsZip (Shared.heap ⟨hp, gn, dr, tk, os⟩) z ti tq .none := hl
    wp_walk using wpAny_loadPart' hl
    refine wpAny_stack_any fun st => wpAny_pure ?_
    split
    · rename_i c _ _ _ _ _
      cases (c == Value.type "enumerate")
      · wp_walk using wpAny_loadPart' hl, wpAny_pyIter_zip hL
        exact ⟨_, rfl, h⟩
      · wp_walk using wpAny_loadPart' hl, wpAny_pyIter_zip hL
        exact ⟨_, rfl, h⟩
    · wp_walk using wpAny_loadPart' hl, wpAny_pyIter_zip hL
      exact ⟨_, rfl, h⟩
theorem call_ez {z ti tq : Addr} {R : Value → Shared → Prop} (g : IsZip s.heap z ti tq .none)
    (k : ∀ h', IsEnum h' s.heap.objs.size z 0 .none → (∀ b o, s.heap.get? b = some o → h'.get? b = some o) → R (.ref s.heap.objs.size) { s with heap := h' }) : wpAny (model prog w) A (call (.type "enumerate") [.ref z]) R E s := by
  refine callType_new F.called_enumerate (by decide) (F.typeCall_enumerate_1 _) (F.newCall_enumerate_1 _) (fun obj => F.args_object_init_2 obj _) F.entry_enumerate_new (meets_ez z ti tq) ⟨g, ?_⟩
  have he : IsEnum (s.heap.push { cls := .type "enumerate", data := .fields #[.none, .bool false, .ref z, rawInt 0, .none, .none] }) s.heap.objs.size z 0 .none := Heap.get?_push_size _ rfl
  exact ⟨⟨_, he, rfl⟩, k _ he fun b o x => Heap.get?_push_of_some _ x⟩
end
/-- the lists at a and b, both items and the index in new tuples -/
def Itez (K : PySem.W.Frag) (a b : Addr) : It :=
  ⟨fun i H => ∃ (xs ys : List V) (x y : V), SqL K H a xs ∧ SqL K H b ys ∧ xs[i]? = some x ∧ ys[i]? = some y,
    fun i H v H' => ∃ T U x y, v = .ref U ∧ H T = none ∧ (upd H T (.tup [x, y])) U = none ∧ H' = upd (upd H T (.tup [x, y])) U (.tup [.int (i : Nat), .ref T]) ∧ (∀ xs, SqL K H a xs → xs[i]? = some x) ∧ ∀ ys, SqL K H b ys → ys[i]? = some y,
    fun i H => ∃ xs ys : List V, SqL K H a xs ∧ SqL K H b ys ∧ (xs.length ≤ i ∨ ys.length ≤ i)⟩
theorem turn_ez {P : Program} {w : World} {K : PySem.W.Frag} {elts : List Expr} {kk : Nat} {tpos : Pos} {a b e z ti tq i1 i2 : Addr} (D : ZipApart z ti tq i1 i2 a b) (ne : e ≠ z ∧ e ≠ ti ∧ e ≠ tq ∧ e ≠ i1 ∧ e ≠ i2) :
    Turn P w K (.Tuple elts kk tpos) (Itez K a b) [e, z, ti, tq, i1, i2] e (fun i h => (∃ old, IsEnum h e z ((i : Nat) : Int) old) ∧ (∃ v b, h.get? z = some (zo v b ti tq) ∧ zv v) ∧ IsPair h ti (.ref i1) (.ref i2) ∧ (∃ x y, IsPair h tq x y) ∧ h.IsListIter i1 a i ∧ h.IsListIter i2 b i) where
  mem := by simp
  obj := fun i h st c hc => by
    obtain ⟨⟨old, he⟩, ⟨v, f, hz, _⟩, gi, ⟨x, y, go⟩, ⟨o1, u1, _, d1⟩, ⟨o2, u2, _, d2⟩⟩ := st
    have e' : c = e ∨ c = z ∨ c = ti ∨ c = tq ∨ c = i1 ∨ c = i2 := by simpa using hc
    rcases e' with q | q | q | q | q | q <;> rw [q]
    · exact ⟨_, he, fun v q => nomatch q⟩
    · exact ⟨_, hz, fun v q => nomatch q⟩
    · exact ⟨_, gi, fun v q => nomatch q⟩
    · exact ⟨_, go, fun v q => nomatch q⟩
    · exact ⟨o1, u1, fun v q => by rw [d1] at q; cases q⟩
    · exact ⟨o2, u2, fun v q => by rw [d2] at q; cases q⟩
  keep := fun i h h' st k => by
    obtain ⟨⟨old, he⟩, ⟨v, f, hz, gv⟩, gi, ⟨x, y, go⟩, h1, h2⟩ := st
    exact ⟨⟨old, k e (by simp) _ he⟩, ⟨v, f, k z (by simp) _ hz, gv⟩, k ti (by simp) _ gi, ⟨x, y, k tq (by simp) _ go⟩, h1.at fun o q => k i1 (by simp) o q, h2.at fun o q => k i2 (by simp) o q⟩
  item := by
    intro X hP hw hK hc i pins s σ H E I hf st hg
    subst hP hw hK
    obtain ⟨⟨old, he⟩, ⟨v, f, hz, gv⟩, gi, go, h1, h2⟩ := st
    obtain ⟨xs, ys, x, y, hqx, hqy, hx, hy⟩ := hg
    obtain ⟨its, rv, p, _⟩ := I.list hqx
    obtain ⟨its2, rv2, p2, _⟩ := I.list hqy
    obtain ⟨u, hu, ru⟩ := rv.get hx
    obtain ⟨u2, hu2, ru2⟩ := rv2.get hy
    have zl : z < s.heap.objs.size := Heap.lt_size hz
    have el : e < s.heap.objs.size := Heap.lt_size he
    refine eznext D he ne hz gv gi go h1 h2 p.isList p2.isList (x := u) (y := u2) (by simpa using hu) (by simpa using hu2) fun hm h' v' b' tk q1 q2 q3 q4 q5 q6 q7 q8 q9 q10 q11 => ?_
    refine ⟨_, rfl, wpAny_letOwnedTupleGo_enum (s := { s with heap := h', toks := tk + 1 }) q9 fun h'' he' sb => ?_⟩
    have up : ∀ a o, a ≠ e → hm.get? a = some o → h''.get? a = some o := fun a o n r => (sb.2 a n).trans (q11 a o n r)
    have t1 : IsPair hm s.heap.objs.size u u2 := q1
    have t2 : IsPair h'' (s.heap.objs.size + 1) (.int i tk) (.ref s.heap.objs.size) := (sb.2 _ (Nat.ne_of_gt (Nat.lt_succ_of_lt el))).trans q10
    have new1 : ObjOk X.prog X.w (upd H s.heap.objs.size (.tup [x, y])) hm s.heap.objs.size (.tup [x, y]) := ⟨by show 2 ≤ sizeLine; decide, [u, u2], .cons ru (.cons ru2 .nil), ⟨_, t1, rfl, _, rfl⟩⟩
    have I1 : Inv X pins σ (upd H s.heap.objs.size (.tup [x, y])) { s with heap := hm, toks := s.toks } :=
      I.turnedNew (ch := [e, z, ti, tq, i1, i2]) (fun c o hb r => q3 c o (fun z => hb (by simp [z])) (fun z => hb (by simp [z])) (fun z => hb (by simp [z])) (fun z => hb (by simp [z])) r) hf (Nat.le_refl _) new1
    have lt : ∀ c ∈ [e, z, ti, tq, i1, i2], c < s.heap.objs.size := fun c hcm => by
      have e' : c = e ∨ c = z ∨ c = ti ∨ c = tq ∨ c = i1 ∨ c = i2 := by simpa using hcm
      obtain ⟨_, _, go⟩ := go
      rcases e' with q | q | q | q | q | q <;> rw [q]
      · exact el
      · exact zl
      · exact Heap.lt_size gi
      · exact Heap.lt_size go
      · obtain ⟨_, e1, _⟩ := h1; exact Heap.lt_size e1
      · obtain ⟨_, e2, _⟩ := h2; exact Heap.lt_size e2
    have hf1 : ∀ c ∈ [e, z, ti, tq, i1, i2], FpOk X pins (upd H s.heap.objs.size (.tup [x, y])) c := fun c hcm => by
      refine ⟨?_, (hf c hcm).2⟩
      rw [upd_ne (Nat.ne_of_lt (lt c hcm))]
      exact (hf c hcm).1
    have new2 : ObjOk X.prog X.w (upd (upd H s.heap.objs.size (.tup [x, y])) (s.heap.objs.size + 1) (.tup [.int (i : Nat), .ref s.heap.objs.size])) h'' (s.heap.objs.size + 1) (.tup [.int (i : Nat), .ref s.heap.objs.size]) :=
      ⟨by show 2 ≤ sizeLine; decide, [.int i tk, .ref s.heap.objs.size], .cons ⟨_, rfl⟩ (.cons rfl .nil), ⟨_, t2, rfl, _, rfl⟩⟩
    have I2 := I1.turnedNew (t' := tk + 1) (h' := h'') (ch := [e, z, ti, tq, i1, i2]) (fun c o hb r => up c o (fun z => hb (by simp [z])) r) hf1 (T := s.heap.objs.size + 1) (by show hm.objs.size ≤ _; rw [q2]; exact Nat.le_refl _) new2
    refine ⟨.ref (s.heap.objs.size + 1), _, I2, rfl, ⟨_, _, x, y, rfl, I.hok.fresh (Nat.le_refl _), ?_, rfl, fun l hl => by rw [I.list_inj hl hqx]; exact hx, fun l hl => by rw [I.list_inj hl hqy]; exact hy⟩, ⟨⟨.ref s.heap.objs.size, ?_⟩, ⟨v', b', ?_, q5⟩, ?_, ?_, ?_, ?_⟩, fun c hcm => ?_⟩
    · rw [upd_ne (Nat.succ_ne_self _)]
      exact I.hok.fresh (Nat.le_succ _)
    · have e1 : ((i + 1 : Nat) : Int) = (i : Int) + 1 := by omega
      rw [e1]; exact he'
    · exact (sb.2 _ ne.1.symm).trans q4
    · exact up _ _ ne.2.1.symm (q3 _ _ D.TIz D.TITO D.TIi1 D.TIi2 gi)
    · obtain ⟨p, q, q6⟩ := q6
      exact ⟨p, q, (sb.2 _ ne.2.2.1.symm).trans q6⟩
    · exact q7.at fun o r => (sb.2 _ ne.2.2.2.1.symm).trans r
    · exact q8.at fun o r => (sb.2 _ ne.2.2.2.2.symm).trans r
    · have hlt := lt c hcm
      rw [upd_ne (Nat.ne_of_lt (Nat.lt_succ_of_lt hlt)), upd_ne (Nat.ne_of_lt hlt)]
      exact (hf c hcm).1
  done := by
    intro X hP hw hK hc i pins s σ H E I hf st hg
    subst hP hw hK
    obtain ⟨⟨old, he⟩, ⟨v, f, hz, gv⟩, gi, go, h1, h2⟩ := st
    obtain ⟨xs, ys, hqx, hqy, hend⟩ := hg
    obtain ⟨its, rv, p, _⟩ := I.list hqx
    obtain ⟨its2, rv2, p2, _⟩ := I.list hqy
    have l1 := rv.length
    have l2 := rv2.length
    have hd : its.toArray[i]? = none ∨ its2.toArray[i]? = none := by
      rcases hend with q | q
      · exact .inl (by simp; omega)
      · exact .inr (by simp; omega)
    exact ezend (I.ok.hd hc) D he hz gv gi go h1 h2 p.isList p2.isList hd fun h' hk => ⟨rfl, I.turnedL (t' := s.toks) (ch := [e, z, ti, tq, i1, i2]) (fun c o hb q => hk c o (fun z => hb (by simp [z])) (fun z => hb (by simp [z])) (fun z => hb (by simp [z])) (fun z => hb (by simp [z])) q) hf⟩
  self := fun A i s Q E st h => let ⟨⟨_, he⟩, _⟩ := st; wpAny_pyIter_enum he h
def iEZ (K : PySem.W.Frag) (ta : TA) : TI := fun σ H R => ta σ H fun vs H1 => ∃ a b xs ys, vs = [.ref a, .ref b] ∧ SqL K H1 a xs ∧ SqL K H1 b ys ∧ R (Itez K a b) H1
theorem pi_ez {X : Cx} {e e2 : Expr} {ta : TA} {p pos p' pos' tpos : Pos} {elts : List Expr} {kk : Nat} (hg : Gl X "zip") (hm : X.mg "zip" = none) (hg' : Gl X "enumerate") (hm' : X.mg "enumerate" = none) (ha : PA X [e, e2] ta)
    (hs : starEach [e, e2] X.env = (false, eval e X.env) :: starEach [e2] X.env := by rfl) (hpl : (backTo pos (starEach [e2] X.env)).any (·.1) = false := by rfl)
    (hs' : starEach [.Call (.Name "zip" p) [e, e2] [] pos] X.env = [(false, eval (.Call (.Name "zip" p) [e, e2] [] pos) X.env)] := by rfl) :
    PI X (.Tuple elts kk tpos) (.Call (.Name "enumerate" p') [.Call (.Name "zip" p) [e, e2] [] pos] [] pos') (iEZ X.K ta) := by
  refine ⟨fun pins s σ H R I h => ?_⟩
  refine Call_ (ld_blt I hg' hm' boot_enumerate (PyProof.Rows.callWith_type1 ?_ hs' rfl))
  rw [hs']
  refine Calls.spliced_cons ?_
  refine Call_ (ld_blt I hg hm PyProof.Rows.boot_zip (PyProof.Rows.callWith_type1 (thn (ha.run pos pins s σ H _ I h) fun us s1 ⟨vs, H1, I1, r1, q1⟩ => ?_) hs hpl))
  obtain ⟨a, b, xs, ys, ex, hqx, hqy, q⟩ := q1
  subst ex
  cases r1 with
  | cons r rr =>
    cases rr with
    | cons r' rr =>
      cases rr
      cases r
      cases r'
      obtain ⟨its, rv, p1, _⟩ := I1.list hqx
      obtain ⟨its2, rv2, p2, _⟩ := I1.list hqy
      have la : a < s1.heap.objs.size := p1.lt
      have lb : b < s1.heap.objs.size := p2.lt
      refine call_zip_2 p1.isList p2.isList fun h' hz hTI hTO h1 h2 hsz hk => Calls.spliced_nil ?_
      refine call_ez (s := { s1 with heap := h' }) hz fun h'' he hk' => wpAny_pyIter_enum he ?_
      have I2 : Inv X pins σ H1 { s1 with heap := h'' } := I1.kept (t' := s1.toks) fun b o u => hk' b o (hk b o u)
      have hE : h'.objs.size = s1.heap.objs.size + 5 := hsz
      replace he : IsEnum h'' h'.objs.size (s1.heap.objs.size + 4) 0 .none := he
      rw [hE] at he
      have n5 : ∀ j, j < 5 → s1.heap.objs.size + 5 ≠ s1.heap.objs.size + j := fun j hj z => absurd (Nat.add_left_cancel z) (Nat.ne_of_gt hj)
      show PIE X pins σ _ R (.ref h'.objs.size) _
      rw [hE]
      refine ⟨s1.heap.objs.size + 5, [s1.heap.objs.size + 5, s1.heap.objs.size + 4, s1.heap.objs.size + 2, s1.heap.objs.size + 3, s1.heap.objs.size, s1.heap.objs.size + 1], _, _, H1, rfl, I2, turn_ez (PySem.W.ktu_apart s1.heap.objs.size a b la lb) ⟨n5 4 (by decide), n5 2 (by decide), n5 3 (by decide), n5 0 (by decide), n5 1 (by decide)⟩, ⟨⟨.none, he⟩, ⟨_, _, hk' _ _ hz, .inl rfl⟩, hk' _ _ hTI, ⟨_, _, hk' _ _ hTO⟩, h1.at fun o u => hk' _ _ u, h2.at fun o u => hk' _ _ u⟩, fun c hcm => ?_, q⟩
      have e' : c = s1.heap.objs.size + 5 ∨ c = s1.heap.objs.size + 4 ∨ c = s1.heap.objs.size + 2 ∨ c = s1.heap.objs.size + 3 ∨ c = s1.heap.objs.size ∨ c = s1.heap.objs.size + 1 := by simpa using hcm
      have hle : s1.heap.objs.size ≤ c := by
        rcases e' with z | z | z | z | z | z <;> rw [z] <;> first | exact Nat.le_add_right _ _ | exact Nat.le_refl _
      exact I1.fpOk hle (I1.hok.fresh hle)
/-! ### over deep values -/
def dIEZ (t : DA) : DI := fun ρ Q E => t ρ (fun rs ρ1 => ∃ d e ρ2 ch ch', tkFL ρ1 rs = some ([d, e], ρ2) ∧ listOf d = some ch ∧ listOf e = some ch' ∧ Q (enumL 0 (zipL ch ch')) ρ2) E
theorem walks_ez {K : PySem.W.Frag} {G H : Hp} {a b : Addr} {vs ws : List V} {ch cs : List D} (h : SqL K G a vs) (h' : SqL K G b ws) (r : RpL K G H vs ch []) (r' : RpL K G H ws cs []) : WalksD K (Itez K a b) (enumL 0 (zipL ch cs)) G := by
  intro G' H' s s'
  have hq : SqL K H' a vs := SqL.mono s' (SqL.mono s h)
  have hq' : SqL K H' b ws := SqL.mono s' (SqL.mono s h')
  refine ⟨fun i d e => ?_, fun i hi => ⟨vs, ws, hq, hq', by rw [r.len, r'.len]; rw [enumL_len, zipL_len] at hi; omega⟩⟩
  obtain ⟨dz, w1, w2⟩ := enumL_get 0 _ i e
  obtain ⟨d1, d2, g1, g2, g3⟩ := zipL_get ch cs i w1
  obtain ⟨x, h1, h2⟩ := r.at0 g1
  obtain ⟨y, h3, h4⟩ := r'.at0 g2
  refine ⟨⟨vs, ws, x, y, hq, hq', h1, h3⟩, fun z H2 ⟨T, U, x', y', e1, hT, hU, e2, f1, f2⟩ => ?_⟩
  subst e1 e2 g3 w2
  have := f1 vs hq
  rw [h1] at this; cases this
  have := f2 ws hq'
  rw [h3] at this; cases this
  obtain ⟨G2, a1, a2, a3⟩ := tup2 (K := K) s' hT (h2.mov0 s) (h4.mov0 s)
  obtain ⟨G3, b1, b2, b3⟩ := tup2 (K := K) (x := V.int (i : Nat)) (d := .p (.int (i : Nat))) a2 hU (Rp.p (K := K) (G := G2) (H := _) _) a3
  rw [Nat.zero_add]
  exact ⟨G3, a1.trans b1, b2, b3⟩
section
variable {X : Cx} {cn : String → Addr} {E : WX} {iter tg : Expr} {t : DA}
theorem ji_ez (h : PI X tg iter (iEZ X.K (liftA X.K cn E t))) : JI X cn E tg iter (dIEZ t) := pi_imp h fun σ H R ⟨pv, γ, ρ, G, fp, Q0, E0, m, q, po, px⟩ =>
  ⟨pv, γ, ρ, G, fp, _, E0, m, q, fun rs ρ1 vs G1 H1 fp1 F1 ⟨d, e, ρ2, ch, ch', e1, e2, e3, q1⟩ s1 m1 o1 => by
    obtain ⟨G2, fp2, s2, m2, r2, _⟩ := tkFL_ok m1 o1 (fun _ z => z) e1
    obtain ⟨x, xs, rfl, r3, r4⟩ := r2.cons2
    obtain ⟨y, ys, rfl, r5, r6⟩ := r4.cons2
    have := r6.nil2
    subst this
    obtain ⟨a, ws, rfl, h1, h2⟩ := listOf_rp r3 e2
    obtain ⟨b, us, rfl, h3, h4⟩ := listOf_rp r5 e3
    exact ⟨a, b, ws, us, rfl, SqL.mono m2.sub h1, SqL.mono m2.sub h3, po _ ρ2 _ G2 H1 fp2 q1 (s1.trans s2) m2 (walks_ez h1 h3 h2 h4)⟩, px⟩
end
def ezK (xs : List Rv) (ρ : Env) (k : List D → Env → Prop) : Prop := ∃ d e ρ2 ch ch', tkFL ρ xs = some ([d, e], ρ2) ∧ listOf d = some ch ∧ listOf e = some ch' ∧ k (enumL 0 (zipL ch ch')) ρ2
section
variable {ρ ρ2 : Env} {tA : DA} {QI : List D → Env → Prop} {E : Exn → Env → Prop} {xs : List Rv} {d e : D}
theorem w_ez (h : tA ρ (fun rs ρ1 => ezK rs ρ1 QI) E) : dIEZ tA ρ QI E := h
theorem w_ezK {k : List D → Env → Prop} {ch ch' : List D} (h1 : tkFL ρ xs = some ([d, e], ρ2)) (h2 : listOf d = some ch) (h3 : listOf e = some ch') (h : k (enumL 0 (zipL ch ch')) ρ2) : ezK xs ρ k := ⟨d, e, ρ2, ch, ch', h1, h2, h3, h⟩
end
end DL
/-! DL38: max and min of data that can be compared; defs with defaults. -/
namespace DL
open PySem L2 PyProof.Rows PySem.W
section
variable {prog : Program} {w : World} {A : Around} {E : Value → Shared → Prop} {s : Shared}
/-- max(a, b) of values that stand in the heap -/
theorem max_pairH {a b : Value} {R : Value → Shared → Prop}
    (h : wpAny (model prog w) A.in1 (pyIter (.ref s.heap.objs.size)) (fun it s2 => ∃ I fp wr G n P St H bt, it = .ref I ∧ WalksS prog w A.in1 I fp wr G n P St ∧ St 0 s2 ∧ (∀ b ∈ fp, b < s2.heap.objs.size) ∧ 0 < n ∧
      (∀ b o, H.get? b = some o → b ∉ wr) ∧ (∀ b o, H.get? b = some o → s2.heap.get? b = some o) ∧ CmpIn prog w A.in1 .Gt H P bt ∧ ∀ v s', P (argBest bt (n - 1)) v → Moved wr G s2 s' → R v s') E
      { s with heap := s.heap.push { cls := .type "tuple", data := .seq #[a, b] } }) : wpAny (model prog w) A (call (.builtin "max") [a, b]) R E s := by
  have nm : (toString "max" ++ toString ".loop" : String) = "max.loop" := by decide
  refine call_function_tree F.kind_max F.plain_max F.entry_max (F.args_max2 _ _) ?_
  show wpAny _ A.in1 (Builtin.Builtins.bindParams "max" ["key", "default"] 0 ⟨[], []⟩ >>= _) _ _ s
  refine wpAny_bind (wpAny_of_eq (show Builtin.Builtins.bindParams "max" ["key", "default"] 0 ⟨[], []⟩ = pure [none, none] from rfl) ?_)
  show wpAny _ A.in1 (newTuple [a, b] >>= _) _ _ s
  refine wpAny_bind (wpAny_newObj_type ?_)
  refine wpAny_bind (wpAny_mono h (fun it s2 h2 => ?_) fun _ _ e => e)
  obtain ⟨I, fp, wr, G, n, P, St, H, bt, rfl, W, g0, gf, gn, gw, gk, gc, gq⟩ := h2
  refine wpAny_bind (wpAny_newObj_type ?_)
  have nf : s2.heap.objs.size ∉ fp := fun hm => Nat.lt_irrefl _ (gf _ hm)
  rw [nm]
  refine wpAny_pure ⟨plainId_quiet F.plain_max_loop _, codeAny_max_loop_firstH W H gw bt gc s2.heap.objs.size nf (fresh_in gk) _ gn (fun b o e => Heap.get?_push_of_some _ (gk b o e)) (W.frame 0 s2 _ s2.toks g0 (Nat.le_refl _) fun b _ o e => Heap.get?_push_of_some _ e) (Heap.get?_push_size _ rfl) fun v s' hP hm => ?_⟩
  exact gq v s' hP (Moved.drop_new (tk := s2.toks) hm (Nat.le_refl _))
theorem al2 {d e : PyData} (h1 : alike d e = true) (h2 : alike e d = true) (h3 : alike d d = true) (h4 : alike e e = true) (n1 : d ≠ .none) (n2 : e ≠ .none) : AlikeAll [d, e] := by
  refine ⟨fun x hx y hy => ?_, fun x hx => ?_⟩
  · simp only [List.mem_cons, List.not_mem_nil, or_false] at hx hy
    rcases hx with rfl | rfl <;> rcases hy with rfl | rfl <;> assumption
  · simp only [List.mem_cons, List.not_mem_nil, or_false] at hx
    rcases hx with rfl | rfl <;> assumption
theorem best1 (bt : Nat → Nat → Bool) : argBest bt 1 = bif bt 1 0 then 1 else 0 := by
  show (if bt (0 + 1) 0 = true then 0 + 1 else 0) = _
  cases bt 1 0 <;> rfl
theorem max_pair {a b : Value} {d e : PyData} {as bs : List Addr} {R : Value → Shared → Prop} (ah : A.handled = none) (ra : Reads s.heap a d as) (rb : Reads s.heap b e bs) (hA : AlikeAll [d, e]) (hu : A.units + 1 + PyData.depthAll [d, e] < cLine)
    (k : ∀ h' tk, (∀ b o, s.heap.get? b = some o → h'.get? b = some o) → R (if dataLt d e = true then b else a) { s with heap := h', toks := tk }) : wpAny (model prog w) A (call (.builtin "max") [a, b]) R E s := by
  have up : ∀ {ob : Obj}, ∀ b o, s.heap.get? b = some o → (s.heap.push ob).get? b = some o := fun b o e => Heap.get?_push_of_some _ e
  have hT : (s.heap.push { cls := .type "tuple", data := .seq #[a, b] }).IsTuple s.heap.objs.size #[a, b] := ⟨_, Heap.get?_push_size _ rfl, rfl, 0, rfl⟩
  refine max_pairH (iter_tupleW (A := A.in1) (s := { s with heap := s.heap.push { cls := .type "tuple", data := .seq #[a, b] } }) ah hT fun s2 e2 W st gf gw gk => ?_)
  have hr : ReadsAll (s.heap.push { cls := .type "tuple", data := .seq #[a, b] }) [a, b] [d, e] (as ++ (bs ++ [])) := .cons (reads_keeps up ra) (.cons (reads_keeps up rb) .nil)
  refine ⟨_, _, _, _, _, _, _, s.heap.push { cls := .type "tuple", data := .seq #[a, b] }, _, rfl, W, st, gf, by show 0 < 2; decide, gw, gk, cmpIn_gt (A := A.in1) (s := { s with heap := s.heap.push { cls := .type "tuple", data := .seq #[a, b] } }) (vs := #[a, b]) hr hA (by show A.units + 1 + _ < _; exact hu), fun v s' hP m => ?_⟩
  obtain ⟨h', tk, rfl, kp⟩ := moved_old e2 rfl m
  have := k h' tk fun b o e => kp b o (up b o e)
  have hv : v = if dataLt d e = true then b else a := by
    have hP : #[a, b][argBest (fun i j => dataLt ([d, e].getD j .none) ([d, e].getD i .none)) 1]? = some v := hP
    rw [best1] at hP
    have e0 : dataLt ([d, e].getD 0 .none) ([d, e].getD 1 .none) = dataLt d e := rfl
    rw [e0] at hP
    cases c : dataLt d e with
    | true => rw [c] at hP; exact (Option.some.inj hP).symm
    | false => rw [c] at hP; exact (Option.some.inj hP).symm
  rw [hv]
  exact this
end
section
variable {X : Cx}
/-- max(x, y) -/
def rMaxP (K : PySem.W.Frag) : List V → Hp → VK → Prop := fun vs H Q => ∃ x y d e, vs = [x, y] ∧ Dp K H x d ∧ Dp K H y e ∧ AlikeAll [d, e] ∧ PyData.depthAll [d, e] ≤ 60 ∧ Q (if dataLt d e = true then y else x) H
theorem call_maxP (hc : X.calm = true) (hu : X.A.units + 65 < cLine) : CallR X (.builtin "max") (rMaxP X.K) := by
  intro pins s σ H xs us Q I r h
  obtain ⟨x, y, d, e, rfl, h1, h2, hA, hl, q⟩ := h
  obtain ⟨u, w', rfl, r1, r2⟩ := vals2 r
  obtain ⟨as, ra⟩ := Dp.reads I d x u h1 r1
  obtain ⟨bs, rb⟩ := Dp.reads I e y w' h2 r2
  refine max_pair (I.ok.hd hc) ra rb hA (by omega) fun h' tk k => ⟨_, H, I.kept k, ?_, q⟩
  cases dataLt d e
  · exact r1
  · exact r2
/-! ### min, max of a list -/
def rMinL (K : PySem.W.Frag) : List V → Hp → VK → Prop := fun vs H Q => ∃ a xs ds, vs = [.ref a] ∧ SqL K H a xs ∧ DpAll K H xs ds ∧ AlikeAll ds ∧ ds ≠ [] ∧ PyData.depthAll ds ≤ 60 ∧
  ∀ i x, i < xs.length → i = argBest (fun i j => dataLt (ds.getD i .none) (ds.getD j .none)) (xs.length - 1) → xs[i]? = some x → Q x H
def rMaxL (K : PySem.W.Frag) : List V → Hp → VK → Prop := fun vs H Q => ∃ a xs ds, vs = [.ref a] ∧ SqL K H a xs ∧ DpAll K H xs ds ∧ AlikeAll ds ∧ ds ≠ [] ∧ PyData.depthAll ds ≤ 60 ∧
  ∀ i x, i < xs.length → i = argBest (fun i j => dataLt (ds.getD j .none) (ds.getD i .none)) (xs.length - 1) → xs[i]? = some x → Q x H
end
/-! ### over deep values -/
def ltD (d e : D) : Bool := dataLt (toPy d) (toPy e)
def qMaxP : OpL := fun ds Q => ∃ d e, ds = [d, e] ∧ ((d.isFz = true ∧ e.isFz = true) ∧ ((toPy d).plain = true ∧ (toPy e).plain = true)) ∧ AlikeAll [toPy d, toPy e] ∧ PyData.depthAll [toPy d, toPy e] ≤ 60 ∧ Q (if ltD d e = true then e else d)
def qMinL : OpL := fun ds Q => ∃ d ch, ds = [d] ∧ listOf d = some ch ∧ isFzL ch = true ∧ PyData.plainAll (toPyL ch) = true ∧ AlikeAll (toPyL ch) ∧ ch ≠ [] ∧ PyData.depthAll (toPyL ch) ≤ 60 ∧
  ∀ i c, i = argBest (fun i j => dataLt ((toPyL ch).getD i .none) ((toPyL ch).getD j .none)) (ch.length - 1) → ch[i]? = some c → Q c
def qMaxL : OpL := fun ds Q => ∃ d ch, ds = [d] ∧ listOf d = some ch ∧ isFzL ch = true ∧ PyData.plainAll (toPyL ch) = true ∧ AlikeAll (toPyL ch) ∧ ch ≠ [] ∧ PyData.depthAll (toPyL ch) ≤ 60 ∧
  ∀ i c, i = argBest (fun i j => dataLt ((toPyL ch).getD j .none) ((toPyL ch).getD i .none)) (ch.length - 1) → ch[i]? = some c → Q c
section
variable {X : Cx}
theorem s_maxP : SemL X.K (rMaxP X.K) qMaxP := by
  rintro G H vs ds Q0 Q s rs ⟨d, e, rfl, ⟨⟨f1, f2⟩, p1, p2⟩, hA, hl, q⟩ fin
  obtain ⟨v, w, F, F', rfl, r1, r2⟩ := rps2 rs
  refine ⟨v, w, toPy d, toPy e, rfl, Rp.dp s d r1 p1, Rp.dp s e r2 p2, hA, hl, ?_⟩
  have r1' := r1.shared f1
  have r2' := r2.shared f2
  unfold ltD at q
  cases c : dataLt (toPy d) (toPy e) with
  | true => rw [c] at q; exact fin _ _ G H [] q ((Stp.refl G H _).mono (fun _ z => z) fun a z => by cases z) s r2'
  | false => rw [c] at q; exact fin _ _ G H [] q ((Stp.refl G H _).mono (fun _ z => z) fun a z => by cases z) s r1'
end
/-! ### pairs of numbers -/
theorem py_pair (a b : Int) : toPy (Enc.en (a, b) : D) = .tuple [.int a, .int b] := rfl
theorem ltD_pair {a b c d : Int} : (ltD (Enc.en (a, b)) (Enc.en (c, d)) = true → a ≤ c ∧ (a = c → b < d)) ∧ (ltD (Enc.en (a, b)) (Enc.en (c, d)) = false → c ≤ a ∧ (a = c → d ≤ b)) := by
  unfold ltD
  have e1 : alike (PyData.int a) (.int c) = true := rfl
  have e2 : alike (PyData.int b) (.int d) = true := rfl
  rw [py_pair, py_pair, dataLt_tuple]
  by_cases h : a = c
  · subst h
    rw [dataLt_all_yes e1 (by simp [PyData.eqv])]
    by_cases g : b = d
    · subst g
      rw [dataLt_all_yes e2 (by simp [PyData.eqv])]
      have : PyProof.Rows.lexLt itemOrd (keyToksAll []) (keyToksAll []) = false := by decide
      rw [this]
      exact ⟨fun z => (by cases z), fun _ => ⟨Int.le_refl _, fun _ => Int.le_refl _⟩⟩
    · rw [dataLt_all_no e2 (by simp [PyData.eqv]; exact g), dataLt_int]
      exact ⟨fun z => ⟨Int.le_refl _, fun _ => of_decide_eq_true z⟩, fun z => ⟨Int.le_refl _, fun _ => by have := of_decide_eq_false z; omega⟩⟩
  · rw [dataLt_all_no e1 (by simp [PyData.eqv]; exact h), dataLt_int]
    exact ⟨fun z => by have := of_decide_eq_true z; exact ⟨by omega, fun e => absurd e h⟩, fun z => by have := of_decide_eq_false z; exact ⟨by omega, fun e => absurd e h⟩⟩
theorem w_maxP {a b c d : Int} {k : D → Prop} (h : ∀ x : Int × Int, (x = (a, b) ∨ x = (c, d)) → (a ≤ x.1 ∧ (a = x.1 → b ≤ x.2)) → (c ≤ x.1 ∧ (c = x.1 → d ≤ x.2)) → k (Enc.en x)) : qMaxP [Enc.en (a, b), Enc.en (c, d)] k := by
  have al : ∀ {x y : Int × Int}, alike (toPy (Enc.en x)) (toPy (Enc.en y)) = true := fun {x y} => rfl
  refine ⟨_, _, rfl, ⟨⟨rfl, rfl⟩, rfl, rfl⟩, al2 al al al al (by rw [py_pair]; simp) (by rw [py_pair]; simp), by rw [py_pair, py_pair]; simp [PyData.depthAll, PyData.depth], ?_⟩
  have := @ltD_pair a b c d
  cases e : ltD (Enc.en (a, b)) (Enc.en (c, d)) with
  | true => exact h (c, d) (.inr rfl) ⟨(this.1 e).1, fun w => Int.le_of_lt ((this.1 e).2 w)⟩ ⟨Int.le_refl _, fun _ => Int.le_refl _⟩
  | false => exact h (a, b) (.inl rfl) ⟨Int.le_refl _, fun _ => Int.le_refl _⟩ ⟨(this.2 e).1, fun w => (this.2 e).2 w.symm⟩
/-! ### defs with defaults -/
section
variable {P : Program} {w : World} {K : PySem.W.Frag} {mg : Str → Option Value} {base : Heap} {cn : String → Addr}
abbrev FunDf (K : PySem.W.Frag) (x qual : Str) (st : Stmt) (dvs : List V) (f : Addr) (fd : FuncData) : Prop := FunD K x qual (defArgs st) (defBody st) (defScope st) dvs [] f fd
theorem fun_mkD {x qual : Str} {st : Stmt} {f T : Addr} {oc : Value} {od an : Option Addr} {osl : Array (Option Value)} {kV doc pm cdv ct : Value} {dvs : List V} {o : Obj} {its : List Value} {n : Nat}
    (l : K.lookup f = some ⟨oc, od, .func (PySem.W.fnOf x qual (defArgs st) (defBody st) (defScope st) (.ref T) kV doc pm an cdv ct), osl⟩) (lT : K.lookup T = some o) (dT : o.data = .seq its.toArray n) (r : Vals dvs its) (hd : dvs ≠ [])
    (c : PySem.W.codeIn K cdv qual = true) (k : PySem.W.keepIn K (.ref f) = true) : FunDf K x qual st dvs f (PySem.W.fnOf x qual (defArgs st) (defBody st) (defScope st) (.ref T) kV doc pm an cdv ct) :=
  ⟨⟨oc, od, .ref T, kV, doc, pm, an, cdv, ct, osl, rfl, l, c, .inr ⟨hd, T, o, its, n, rfl, lT, dT, r⟩, .inl rfl⟩, k⟩
theorem bindsD {x qual : Str} {st : Stmt} {dvs : List V} {f : Addr} {fd : FuncData} {ps : List Str} (F : FunDf K x qual st dvs f fd) (hd : dvs ≠ [])
    (h : ∀ (T : Addr) (kV doc pm : Value) (an : Option Addr) (cdv ct : Value) (us its : List Value), us.length = ps.length → its.length = dvs.length →
      ∃ k, bindArgs (PySem.W.fnOf x qual (defArgs st) (defBody st) (defScope st) (.ref T) kV doc pm an cdv ct) ⟨us, []⟩ = seqItems? (.ref T) >>= k ∧ k (some its.toArray) = pure (ps.zip (us ++ its.drop dvs.length))) : Binds K fd ps [] := by
  obtain ⟨ds, r, b⟩ := F.binds1 ps.length dvs.length hd (by omega) h
  rw [List.drop_eq_nil_of_le (Nat.le_refl _)] at r
  cases r
  exact b
theorem def_mkD {x qual : Str} {st : Stmt} {dvs : List V} {f : Addr} {fd : FuncData} {N ps : List Str} {k n : Nat} {s : SpD} {t : DS} (F : FunDf K x qual st dvs f fd) (S : FnScope N ps (defScope st)) (hn : ps.length ≤ N.length) (hl : Ar s ps.length)
    (sem : Sem s t n) (hN : N.length = n)
    (der : ∀ (cdv : Value) (A : Around) (outer : List PySem.Env) (s : Shared) (H : Hp) (E : XK), Room k (A.deeper (envOfC qual (defScope st) s.heap.objs.size f cdv)) →
      JSs (cxOf (L2.CX P w) P w K mg base N qual (defScope st) f cdv A outer s H E) cn (fun c d _ H' => E c d H') (defBody st) t) : FnD P w K mg base cn (k + 1) f fd ps s :=
  F.ok S (lenD hl) fun cdv A outer sh H vs Q E hr h => ⟨_, der cdv A outer sh H E hr, def_ok hN (fun ds Q0 E0 q => by rw [hl ds Q0 E0 q, ← hN]; exact hn) sem h⟩
end
end DL
/-! DL39: list(range(..)) as a value. -/
namespace DL
open PySem L2
def dLRg1 (ta : DE) : DE := fun ρ Q E => ta ρ (fun x ρ1 => ∃ j, look ρ1 x = some (.p (.int j)) ∧ RgOk 0 j ∧ Q (.t (.own (rngL 0 j.toNat))) ρ1) E
def dLRg2 (ta tb : DE) : DE := fun ρ Q E => ta ρ (fun x ρ1 => tb ρ1 (fun y ρ2 => ∃ i j, look ρ2 x = some (.p (.int i)) ∧ look ρ2 y = some (.p (.int j)) ∧ RgOk i j ∧ Q (.t (.own (rngL i (j - i).toNat))) ρ2) E) E
theorem rp_rg {K : PySem.W.Frag} {G H : Hp} (i j : Int) : RpL K G H (rgV i j) (rngL i (j - i).toNat) [] := by
  have e : rngL i (j - i).toNat = (rgV i j).map D.p := by
    unfold rngL rgV
    rw [List.map_map]
    rfl
  rw [e]
  exact RpL.of_prims
section
variable {X : Cx} {cn : String → Addr} {E : WX} {a b : Expr} {ta tb : DE} {p pos p' pos' : Pos}
theorem je_lrg2 (hc : X.calm = true) (hg : Gl X "range") (hm : X.mg "range" = none) (hg' : Gl X "list") (hm' : X.mg "list" = none) (ha : JE X cn E a ta) (hb : JE X cn E b tb)
    (na : starEach [a, b] X.env = (false, eval a X.env) :: starEach [b] X.env := by rfl) (nb : starEach [b] X.env = (false, eval b X.env) :: starEach [] X.env := by rfl) (hp : (backTo pos (starEach [b] X.env)).any (·.1) = false := by rfl)
    (nr : starEach [.Call (.Name "range" p) [a, b] [] pos] X.env = (false, eval (.Call (.Name "range" p) [a, b] [] pos) X.env) :: starEach [] X.env := by rfl) :
    JE X cn E (.Call (.Name "list" p') [.Call (.Name "range" p) [a, b] [] pos] [] pos') (dLRg2 ta tb) := by
  refine pe_imp (pe_listRg hc hg' hm' (prg_2 hg hm ha hb na nb hp) nr) ?_
  rintro σ H Q ⟨pv, γ, ρ, G, fp, Q0, E0, m, q0, po, px⟩
  refine ⟨pv, γ, ρ, G, fp, _, E0, m, q0, fun x ρ1 v G1 H1 fp1 F1 q1 s1 m1 o1 => ?_, px⟩
  refine ⟨pv, γ, ρ1, G1, fp1, _, E0, m1, q1, fun y ρ2 w G2 H2 fp2 F2 q2 s2 m2 o2 => ?_, px.on s1⟩
  obtain ⟨i, j, l1, l2, hr, q2⟩ := q2
  have e1 := look_p m2 (o1.frame s2) l1
  have e2 := look_p m2 o2 l2
  subst e1 e2
  refine ⟨i, j, rfl, rfl, hr, fun r hr0 => ?_⟩
  have fin : Fin X.K G2 H2 (fun z => Q0 (.t z) ρ2) Q := fun z w' G3 H3 Fz qz s3 hs3 rz => by
    obtain ⟨f1, f2, f3⟩ := fin_new m2 (s1.seq (fun _ z => .inl z) s2 fun _ z => .inl z) (fun a z => .inl z) s3 hs3
    exact po (.t z) ρ2 w' G3 H3 fp2 Fz qz f1 f2 ⟨rz, f3⟩
  exact fin.lst m2.sub (rp_rg i j) hr0 q2
end
section
variable {ρ : Env} {ta tb : DE} {Q : Rv → Env → Prop} {E : Exn → Env → Prop} {x y : Rv}
def lr1K (x : Rv) (ρ : Env) (Q : Rv → Env → Prop) : Prop := ∃ j, look ρ x = some (.p (.int j)) ∧ RgOk 0 j ∧ Q (.t (.own (rngL 0 j.toNat))) ρ
def lr2K (x y : Rv) (ρ : Env) (Q : Rv → Env → Prop) : Prop := ∃ i j, look ρ x = some (.p (.int i)) ∧ look ρ y = some (.p (.int j)) ∧ RgOk i j ∧ Q (.t (.own (rngL i (j - i).toNat))) ρ
theorem w_lrg1 (h : ta ρ (fun x ρ1 => lr1K x ρ1 Q) E) : dLRg1 ta ρ Q E := h
theorem w_lrg2 (h : ta ρ (fun x ρ1 => tb ρ1 (fun y ρ2 => lr2K x y ρ2 Q) E) E) : dLRg2 ta tb ρ Q E := h
theorem w_lr1K {j : Int} (h1 : look ρ x = some (.p (.int j))) (h2 : j ≤ 16777216 ∧ 0 ≤ j) (h : Q (.t (eo ((List.range j.toNat).map fun k => ((k : Nat) : Int)))) ρ) : lr1K x ρ Q := ⟨j, h1, RgOk.of_le (Int.le_refl _) h2.1 (by omega) h2.2, by
  have e : (D.own (rngL 0 j.toNat) : D) = eo ((List.range j.toNat).map fun k => ((k : Nat) : Int)) := by
    unfold eo rngL
    rw [List.map_map]
    congr 1
    refine List.map_congr_left fun k _ => ?_
    show D.p _ = D.p _
    rw [Int.zero_add]
  rw [e]; exact h⟩
theorem w_lr2K {i j : Int} (h1 : look ρ x = some (.p (.int i))) (h2 : look ρ y = some (.p (.int j))) (h3 : -16777216 ≤ i ∧ i ≤ 16777216 ∧ -16777216 ≤ j ∧ j ≤ 16777216 ∧ j - i ≤ 16777216) (h : Q (.t (eo ((List.range (j - i).toNat).map fun k => i + ((k : Nat) : Int)))) ρ) : lr2K x y ρ Q :=
  ⟨i, j, h1, h2, ⟨by omega, by omega, by omega, by omega, by omega⟩, by
  have e : (D.own (rngL i (j - i).toNat) : D) = eo ((List.range (j - i).toNat).map fun k => i + ((k : Nat) : Int)) := by
    unfold eo rngL
    rw [List.map_map]
    rfl
  rw [e]; exact h⟩
end
theorem w_max2 {i j : Int} {k : D → Prop} (h : k (.int (max i j))) : qMax2 [.p (.int i), .p (.int j)] k := ⟨i, j, rfl, by
  have e : (if j > i then j else i) = max i j := by
    by_cases c : j > i
    · rw [if_pos c]; omega
    · rw [if_neg c]; omega
  rw [e]; exact h⟩
theorem w_min2 {i j : Int} {k : D → Prop} (h : k (.int (min i j))) : qMin2 [.p (.int i), .p (.int j)] k := ⟨i, j, rfl, by
  have e : (if j < i then j else i) = min i j := by
    by_cases c : j < i
    · rw [if_pos c]; omega
    · rw [if_neg c]; omega
  rw [e]; exact h⟩
end DL
/-! DL40: calls by keywords of defs with defaults. -/
namespace DL
open PySem L2
def dCallD (g : {α : Type} → List α → List α → List α) (dvs : List V) (s : SpD) (t tk : DA) : DE := fun ρ Q E => t ρ (fun rs ρ1 => ∃ ds ρ2, tkFL ρ1 rs = some (ds, ρ2) ∧ tk ρ2 (fun zs ρ3 => ∃ es ρ4, tkFL ρ3 zs = some (es, ρ4) ∧
  s (g ds es ++ dvs.map D.p) (fun res _ => Q (.t res) ρ4) (fun x _ => E x ρ4)) E) E
section
variable {X : Cx} {cn : String → Addr} {E : WX} {k : Nat} {f : Addr} {fd : FuncData} {ps ks : List Str} {s : SpD} {x : Str} {p pos kpos : Pos} {e : Expr} {es : List Expr} {kws : List Keyword} {t tk : DA} {dvs : List V}
end
section
variable {ρ : Env} {Q : Rv → Env → Prop} {E : Exn → Env → Prop} {tA : DA}
end
end DL
/-! DL41: < of tuples. -/
namespace DL
open PySem L2 PyProof.Rows PySem.W
section
variable {X : Cx}
def rLtP (K : PySem.W.Frag) : R2 := fun x y H Q => ∃ d e, Dp K H x d ∧ Dp K H y e ∧ alike d e = true ∧ d ≠ .none ∧ min d.depth e.depth ≤ 60 ∧ Q (.bl (dataLt d e)) H
end
/-- < of tuples -/
def qLtT : Op2 := fun d e Q => ((toPy d).plain = true ∧ (toPy e).plain = true) ∧ alike (toPy d) (toPy e) = true ∧ toPy d ≠ .none ∧ min (toPy d).depth (toPy e).depth ≤ 60 ∧ Q (.bl (ltD d e))
def Itm.py : Itm → PyData
  | .inl i => .int i
  | .inr x => .str x
theorem Itm.toks (x : Itm) : keyToks x.py = [x.k] := by cases x <;> rfl
end DL
/-! DL42: x[i][k] = e, the inner list being x's own; i, k are slots. -/
namespace DL
open PySem L2
section
theorem mutP_go {K : PySem.W.Frag} {pv : Nat → V} {σ γ : St} {ρ1 : Env} {G H G1 H1 : Hp} {fp fp1 : Fps} {F1 : List Addr} {Q0 : Rv → Env → Prop} {Q : VK} {r : OpM} {rr : V → List V → Hp → VK → Prop} {rs : List Rv} {vs : List V} {y : V} {j m : Nat} {a0 : Addr} {us0 : List V} (hs : SemM K rr r) (hx : (σ ++ γ)[j]? = some (some (.ref a0))) (hn0 : H1 a0 = some (.lst us0)) (hy0 : us0[m]? = some y)
    (po : PoE K pv σ γ G H fp Q0 Q) (s1 : Stp G H (InF fp) G1 H1 (fun a => InF fp1 a ∨ a ∈ F1)) (m1 : Mt K pv (σ ++ γ) ρ1 G1 H1 fp1) (o1 : RvsOk K (σ ++ γ) G1 H1 (InF fp1) vs rs F1)
    (q : ∃ es ρ2 s root rc k ch, tkL ρ1 rs = some (es, ρ2) ∧ ρ2[j]? = some s ∧ s.d? = some root ∧ root = .n true .lst rc ∧ root.at [m] = some (.n true k ch) ∧ r k ch es fun k' ch' res => Q0 (.t res) ((killB j ρ2).set j (s.re (root.put [m] (.n true k' ch'))))) : rr y vs H1 Q := by
  obtain ⟨es, ρ2, s, root, rc, k, ch, e1, hj, hd, hroot, hat, q⟩ := q
  obtain ⟨G2, fp2, s2, m2, r2, i2⟩ := tkL_ok m1 o1 (fun _ z => z) e1
  obtain ⟨x, h1, h2⟩ := m2.at hj hd
  have hxx : x = .ref a0 := by
    rw [hx] at h1
    exact (Option.some.inj (Option.some.inj h1)).symm
  subst hxx
  have g3 : PathV K H1 (fun b => b ∈ fp2 j) (.ref a0) [m] y := by
    rw [hroot] at h2
    generalize hF : fp2 j = Fj at h2
    cases h2 with
    | @o a _ vs' _ F n0 n1 n2 n3 => exact ⟨a0, .lst, us0, y, rfl, by show a0 ∈ a0 :: _; exact List.mem_cons_self .., hn0, hy0, rfl⟩
  have dW : ∀ b ∈ F1, ¬ InF fp2 b := fun b hb z => RvsOk.foot o1 b hb (i2 b z)
  obtain ⟨a, us, Fc, rfl, ha, hg, hn, hac, hrl, hfc, step⟩ := Rp.focus h2 hat g3
  have hai : InF fp2 a := ⟨j, ha⟩
  have hFi : ∀ b ∈ Fc, InF fp2 b := fun b hb => ⟨j, hfc b hb⟩
  refine hs G2 H1 a k us ch Fc vs es F1 _ Q m2.sub hg hn hrl hac r2 (fun b hb => ⟨fun z => dW b hb (hFi b z), fun z => dW b hb (by rw [z]; exact hai)⟩) q ?_
  intro k' ch' res vs' w o' F' Fr q' n' r' rr' d' dr
  have dF' : ∀ b ∈ F', b ≠ a := fun b hb z => by
    rcases d' b hb with y | y
    · exact hac (by rw [← z]; exact y)
    · exact dW b y (by rw [z]; exact hai)
  have r'' : RpL K G2 (L2.upd H1 a o') vs' ch' F' := r'.mov (fun _ _ z => z) _ fun b hb o hg ho => ⟨hg, by rw [upd_ne (dF' b hb)]; exact ho⟩
  obtain ⟨F2, t1, t2, t3, t4, t5⟩ := step (L2.upd H1 a o') k' vs' ch' F' (fun b o _ hne _ ho => by rw [upd_ne hne]; exact ho) n' r'' fun b hb => ⟨dF' b hb, (d' b hb).imp id fun z y => dW b z ⟨j, y⟩⟩
  have dF2 : ∀ b ∈ F2, b ∈ fp2 j ∨ ¬ InF fp2 b := fun b hb => by
    rcases t2 b hb with z | z
    · exact .inl z.1
    · rcases d' b z with y | y
      · exact .inl (hfc b y)
      · exact .inr (dW b y)
  have m3 := m2.mutG (H' := L2.upd H1 a o') (d' := root.put [m] (.n true k' ch')) hj hd h1 (fun b o hb ho => by rw [upd_ne fun z => hb (by rw [z]; exact ha)]; exact ho) t1 dF2
  have dr' : ∀ b ∈ Fr, b ≠ a := fun b hb z => by
    rcases (dr b hb).1 with y | y
    · exact hac (by rw [← z]; exact y)
    · exact dW b y (by rw [z]; exact hai)
  refine po (.t res) _ w G2 (L2.upd H1 a o') _ Fr q' ?_ m3 ⟨rr'.mov (fun _ _ z => z) _ fun b hb o hg ho => ⟨hg, by rw [upd_ne (dr' b hb)]; exact ho⟩, fun b hb z => ?_⟩
  · refine (s1.trans (s2.mono (P' := InF fp2) (Q' := fun a => InF fp2 a ∨ a ∈ F1) (fun _ z => .inl z) fun a z => z.elim .inl fun z => .inr (.inr z))).trans
      ⟨fun _ _ z => z, fun b o z n => by rw [upd_ne fun y => n (by rw [y]; exact .inl hai)]; exact z, fun _ _ _ z _ => z, fun b z => .inl ?_⟩
    rcases z with z | z
    · rcases InF.updF z with z | z
      · exact .inl z
      · rcases t2 b z with y | y
        · exact .inl ⟨j, y.1⟩
        · exact (d' b y).imp (hFi b) id
    · exact (dr b z).1.imp (hFi b) id
  · rcases dr b hb with ⟨y, ny⟩
    obtain ⟨l, hl⟩ := z
    by_cases e : l = j
    · subst e
      rw [updF_same] at hl
      rcases t2 b hl with u | u
      · rcases y with y | y
        · exact u.2 y
        · exact dW b y ⟨l, u.1⟩
      · exact ny u
    · rw [updF_ne e] at hl
      rcases y with y | y
      · exact m2.ap l j e b hl (hfc b y)
      · exact dW b y ⟨l, hl⟩
end
section
variable {X : Cx} {cn : String → Addr} {E : WX}
/-- x[i][k] = e: x, i, k are slots, the list x[i] is x's own -/
def dPut2 (n i kk : Nat) (r : OpM) (te : DE) : DS := fun D ρ => te ρ (fun x ρ1 => ∃ a b s0 rc m k0 ch0, ρ1[i]? = some (.v (.p (.int a))) ∧ ρ1[kk]? = some (.v (.p (.int b))) ∧ ρ1[n]? = some s0 ∧ s0.d? = some (.n true .lst rc) ∧ ixN rc.length a = some m ∧ rc[m]? = some (.n true k0 ch0) ∧
  ∃ es ρ2 s root rc' k ch, tkL ρ1 [.s kk, x] = some (es, ρ2) ∧ ρ2[n]? = some s ∧ s.d? = some root ∧ root = .n true .lst rc' ∧ root.at [m] = some (.n true k ch) ∧ r k ch es fun k' ch' _ => D.nx ((killB n ρ2).set n (s.re (root.put [m] (.n true k' ch'))))) D.ex
theorem js_put2 {n i kk : Nat} {st : Stmt} {r : OpM} {rr : V → List V → Hp → VK → Prop} {tset : TSet} {te : DE} (hn : n < X.N.length) (hi : i < X.N.length) (hk : kk < X.N.length) (hs : SemM X.K rr r) (hset : ∀ o i v H Q, rr o [i, v] H (fun _ H' => Q H') → tset o i v H Q)
    (h : PS X st (tAsg (liftE X.K cn E te) (gSub (tOp (rIx X.K) (tVar n) (tVar i)) (tVar kk) tset))) : JS X cn E st (dPut2 n i kk r te) := ⟨fun pins sh σ H D I ⟨pv, γ, ρ, G, fp, D0, m, q, po⟩ => by
  have hln : n < σ.length := by rw [I.len]; exact hn
  have hli : i < σ.length := by rw [I.len]; exact hi
  have hlk : kk < σ.length := by rw [I.len]; exact hk
  refine h.run pins sh σ H D I ⟨pv, γ, ρ, G, fp, _, _, m, q, fun x ρ1 v G1 H1 fp1 F1 ⟨a, b, s0, rc, mm, k0, ch0, ei, ek, e1, e2, e3, e4, q1⟩ s1 m1 o1 => ?_, po.ex⟩
  obtain ⟨z, h1, h2⟩ := m1.at e1 e2
  obtain ⟨vi, h3, h4⟩ := m1.at ei rfl
  obtain rfl : vi = .int a := by
    generalize fp1 i = Fi at h4
    cases h4
    rfl
  obtain ⟨vk, h5, h6⟩ := m1.at ek rfl
  obtain rfl : vk = .int b := by
    generalize fp1 kk = Fi at h6
    cases h6
    rfl
  generalize hF : fp1 n = Fn at h2
  cases h2 with
  | @o a0 _ us _ F n0 n1 n2 n3 =>
    obtain ⟨y, F', r1, r2, r3⟩ := RpL.get rc n3 e4
    refine ⟨.ref a0, get_left hln h1, .int a, get_left hli h3, .inl ⟨a0, us, a, y, rfl, rfl, .inl (.inl n1), ?_, ?_⟩⟩
    · unfold L2.atI
      rw [n3.len, e3]
      exact r1
    refine ⟨.int b, get_left hlk h5, ?_⟩
    refine hset _ _ _ _ _ ?_
    have po2 : PoE X.K pv σ γ G H fp (fun _ ρ' => D0.nx ρ') (fun _ H' => D.nx σ H') := fun r' ρ' v' G' H' fp' F' q' s' m' o' =>
      po.nx ρ' σ G' H' fp' q' (drop0 s') m' rfl
    have o1' : RvOk X.K (σ ++ γ) G1 H1 (fun a => InF fp1 a ∨ a ∈ ([] : List Addr)) v x F1 := by
      cases x with
      | t d => exact ⟨o1.1, fun a ha w => o1.2 a ha (w.elim id fun z => by cases z)⟩
      | s l => exact o1
    have o0 : RvOk X.K (σ ++ γ) G1 H1 (InF fp1) (.int b) (.s kk) [] := ⟨h5, rfl⟩
    have ok : RvsOk X.K (σ ++ γ) G1 H1 (InF fp1) [.int b, v] [.s kk, x] ([] ++ (F1 ++ [])) := .cons o0 (.cons o1' .nil)
    rw [List.nil_append, List.append_nil] at ok
    exact mutP_go (F1 := F1) (Q := fun _ H' => D.nx σ H') (Q0 := fun _ ρ' => D0.nx ρ') (m := mm) hs h1 n1 r1 po2 s1 m1 ok q1⟩
/-- the running lemma -/
def p2K (n i kk : Nat) (r : OpM) (x : Rv) (ρ1 : Env) (k : Env → Prop) : Prop := ∃ a b s0 rc m k0 ch0, ρ1[i]? = some (.v (.p (.int a))) ∧ ρ1[kk]? = some (.v (.p (.int b))) ∧ ρ1[n]? = some s0 ∧ s0.d? = some (.n true .lst rc) ∧ ixN rc.length a = some m ∧ rc[m]? = some (.n true k0 ch0) ∧
  ∃ es ρ2 s root rc' kd ch, tkL ρ1 [.s kk, x] = some (es, ρ2) ∧ ρ2[n]? = some s ∧ s.d? = some root ∧ root = .n true .lst rc' ∧ root.at [m] = some (.n true kd ch) ∧ r kd ch es fun k' ch' _ => k ((killB n ρ2).set n (s.re (root.put [m] (.n true k' ch'))))
theorem w_put2 {n i kk : Nat} {r : OpM} {te : DE} {ρ : Env} {nx : Env → Prop} {rt : D → Env → Prop} {bk ct : Env → Prop} {ex : Exn → Env → Prop} (h : te ρ (fun x ρ1 => p2K n i kk r x ρ1 nx) ex) : dPut2 n i kk r te ⟨nx, rt, bk, ct, ex⟩ ρ := h
theorem w_p2 {α : Type} [Enc α] {n i kk a b : Nat} {rows : List (List α)} {row : List α} {w : α} {x : Rv} {ρ1 ρ2 ρ3 : Env} {k : Env → Prop} (hn : ρ1[n]? = some (.v (eoo rows))) (hi : ρ1[i]? = some (.v (Enc.en (a : Int)))) (hk : ρ1[kk]? = some (.v (Enc.en (b : Int))))
    (ha : rows[a]? = some row) (hb : b < row.length) (ht : tkL ρ1 [.s kk, x] = some ([Enc.en (b : Int), Enc.en w], ρ2)) (hn2 : ρ2[n]? = some (.v (eoo rows))) (he : (killB n ρ2).set n (.v (eoo (rows.set a (row.set b w)))) = ρ3) (h : k ρ3) : p2K n i kk mSetL x ρ1 k := by
  have hal : a < rows.length := (List.getElem?_eq_some_iff.mp ha).1
  have ia : ∀ {l a : Nat}, a < l → ixN l (a : Int) = some a := fun {l a} h => by
    unfold ixN
    rw [if_pos (by omega), if_pos (by omega)]
    rfl
  refine ⟨(a : Int), (b : Int), _, rows.map eo, a, .lst, row.map Enc.en, hi, hk, hn, rfl, by rw [List.length_map]; exact ia hal, by rw [List.getElem?_map, ha]; rfl, _, ρ2, _, eoo rows, rows.map eo, .lst, row.map Enc.en, ht, hn2, rfl, rfl, oo_at ha, (b : Int), Enc.en w, b, rfl, rfl, by rw [List.length_map]; exact ia hb, ?_⟩
  have e : (eoo rows).put [a] (.n true .lst ((row.map Enc.en).set b (Enc.en w))) = eoo (rows.set a (row.set b w)) := by
    have hp := oo_put (row' := row.set b w) ha
    rw [← hp]
    unfold eo
    rw [List.map_set]
  show k ((killB n ρ2).set n (.v ((eoo rows).put [a] _)))
  rw [e, he]
  exact h
end
end DL
/-! DL43: sorted of any data that can be compared. -/
namespace DL
open PySem L2 PyProof.Rows PySem.W
section
variable {X : Cx}
/-- sorted(xs): is: the places of the items, in their new order -/
def rSortedD (K : PySem.W.Frag) : List V → Hp → VK → Prop := fun vs H Q => ∃ (a : Addr) (xs : List V) (ds : List PyData), vs = [V.ref a] ∧ SqL K H a xs ∧ DpAll K H xs ds ∧ (∀ d ∈ ds, ∀ e ∈ ds, alike d e = true) ∧ Sortable ds ∧ PyData.depthAll ds ≤ 60 ∧
  ∀ (is : List Nat) p, is.Perm (List.range xs.length) → is.Pairwise (fun i j => dataLt (ds.getD j .none) (ds.getD i .none) = false) → H p = none → Q (.ref p) (L2.upd H p (.lst (is.map fun i => xs.getD i .non)))
end
/-! ### over deep values -/
def qSortD : OpL := fun ds Q => ∃ d ch, ds = [d] ∧ listOf d = some ch ∧ isFzL ch = true ∧ PyData.plainAll (toPyL ch) = true ∧ (∀ d ∈ toPyL ch, ∀ e ∈ toPyL ch, alike d e = true) ∧ Sortable (toPyL ch) ∧ PyData.depthAll (toPyL ch) ≤ 60 ∧
  ∀ is : List Nat, is.Perm (List.range ch.length) → is.Pairwise (fun i j => dataLt ((toPyL ch).getD j .none) ((toPyL ch).getD i .none) = false) → Q (.own (is.map fun i => ch.getD i (.p .non)))
section
variable {X : Cx}
end
end DL
/-! DL44: triples; dicts whose keys are tuples. -/
namespace DL
open PySem L2
open Enc (en)
/-- a tuple of three -/
structure T3 (α β γ : Type) where
  a : α
  b : β
  c : γ
instance {α β γ : Type} [Enc α] [Enc β] [Enc γ] : Enc (T3 α β γ) := ⟨fun x => .n false .tup [en x.a, en x.b, en x.c], fun x => by simp [D.isFz, isFzL, Enc.fz], fun x => by simp [toPy, toPyL, PyData.plain, PyData.plainAll, Enc.lay], max (Enc.dep α) (max (Enc.dep β) (Enc.dep γ)) + 1, fun x => by
  have := Enc.de x.a
  have := Enc.de x.b
  have := Enc.de x.c
  simp only [toPy, toPyL, PyData.depth, PyData.depthAll]
  omega, fun x y => by
  obtain ⟨a, b, c⟩ := x
  obtain ⟨a', b', c'⟩ := y
  unfold eqD
  simp only [toPy, toPyL, PyData.eqv, PyData.eqvAll, Bool.and_true, Bool.and_eq_true, T3.mk.injEq]
  exact and_congr (Enc.eq a a') (and_congr (Enc.eq b b') (Enc.eq c c'))⟩
instance {α β γ : Type} [DecidableEq α] [DecidableEq β] [DecidableEq γ] : DecidableEq (T3 α β γ) := fun x y => decidable_of_iff (x.a = y.a ∧ x.b = y.b ∧ x.c = y.c) (by cases x; cases y; simp)
class KeyT (κ : Type) [Enc κ] where
  key : κ → List Key
  inj : ∀ a b, key a = key b → a = b
  kd : ∀ a, ∃ kc, (en a : D) = .n false .tup kc ∧ keysD kc = some (key a)
instance {α β : Type} [Enc α] [Enc β] [KeyE α] [KeyE β] : KeyT (α × β) := ⟨fun x => [KeyE.key x.1, KeyE.key x.2], fun x y h => by
  simp only [List.cons.injEq, and_true] at h
  exact Prod.ext (KeyE.inj _ _ h.1) (KeyE.inj _ _ h.2), fun x => ⟨_, rfl, by simp only [keysD, KeyE.kd]⟩⟩
instance {α β γ : Type} [Enc α] [Enc β] [Enc γ] [KeyE α] [KeyE β] [KeyE γ] : KeyT (T3 α β γ) := ⟨fun x => [KeyE.key x.a, KeyE.key x.b, KeyE.key x.c], fun x y h => by
  obtain ⟨a, b, c⟩ := x
  obtain ⟨a', b', c'⟩ := y
  simp only [List.cons.injEq, and_true] at h
  rw [KeyE.inj _ _ h.1, KeyE.inj _ _ h.2.1, KeyE.inj _ _ h.2.2], fun x => ⟨_, rfl, by simp only [keysD, KeyE.kd]⟩⟩
section
variable {κ β : Type} [DecidableEq κ] [Enc κ] [KeyT κ] [Enc β]
abbrev dT (o : Bool) (kv : List (κ × β)) : D := .n o (.dit (kv.map fun p => KeyT.key p.1)) (kv.map fun p => en p.2)
end
section
variable {κ β : Type} {i0 : DecidableEq κ} {i1 : Enc κ} {i2 : KeyT κ} {i3 : Enc β} {kv : List (κ × β)} {a : κ} {b : β} {K : Kd → List D → D → Prop} {ρ : Env} {x y z : Rv}
end
end DL
/-! DL45: one step of a run by its head symbol. -/
namespace DL
open PySem L2
open Enc (en)
class St1 (p : Prop) (q : outParam Prop) : Prop where
  go : q → p
/-! ### slots -/
class Gt (ρ : Env) (i : Nat) (s : outParam Sl) : Prop where
  h : ρ[i]? = some s
section
variable {s s' : Sl} {r ρ ρ' ρ1 ρ2 : Env} {i j : Nat} {d d' e : D} {x y : Rv} {xs : List Rv} {ds ch : List D} {k k' : Kd} {o : Bool}
instance gt0 : Gt (s :: r) 0 s := ⟨rfl⟩
instance gtS [g : Gt r i s] : Gt (s' :: r) (i + 1) s := ⟨by rw [List.getElem?_cons_succ]; exact g.h⟩
class SlV (s : Sl) (d : outParam D) : Prop where
  h : s.d? = some d
instance slv_v : SlV (.v d) d := ⟨rfl⟩
instance slv_w : SlV (.w d) d := ⟨rfl⟩
theorem slD_of [g : Gt ρ i s] [h : SlV s d] : slD ρ i = some d := by
  have e := h.h
  unfold slD
  rw [g.h]
  cases s with
  | un => cases e
  | v d0 => exact e
  | w d0 => exact e
  | b _ _ => cases e
class Lk (ρ : Env) (x : Rv) (d : outParam D) : Prop where
  h : look ρ x = some d
instance lk_t : Lk ρ (.t d) d := ⟨rfl⟩
instance lk_s [Gt ρ i s] [SlV s d] : Lk ρ (.s i) d := ⟨slD_of⟩
class LkL (ρ : Env) (xs : List Rv) (ds : outParam (List D)) : Prop where
  h : lookL ρ xs = some ds
instance lkl0 : LkL ρ [] [] := ⟨rfl⟩
instance lklS [a : Lk ρ x d] [b : LkL ρ xs ds] : LkL ρ (x :: xs) (d :: ds) := ⟨by simp only [lookL, a.h, b.h]⟩
/-! ### shared values -/
class Fz (d : D) : Prop where
  h : d.isFz = true
class FzL (ds : List D) : Prop where
  h : isFzL ds = true
instance fz_p {v : V} : Fz (.p v) := ⟨rfl⟩
instance fz_en {α : Type} [Enc α] {x : α} : Fz (en x) := ⟨Enc.fz x⟩
instance fzl_0 : FzL [] := ⟨rfl⟩
instance fzl_S [a : Fz d] [b : FzL ds] : FzL (d :: ds) := ⟨by rw [isFzL, a.h, b.h]; rfl⟩
instance fzl_m {α : Type} [Enc α] {xs : List α} : FzL (xs.map en) := ⟨fzl_e xs⟩
instance fz_n [a : FzL ch] : Fz (.n false k ch) := ⟨by rw [D.isFz, a.h]; rfl⟩
/-- what a value is, shared -/
class Frz (d : D) (d' : outParam D) : Prop where
  h : d.fz = d'
instance (priority := 500) frz_z [a : Fz d] : Frz d d := ⟨fz_of a.h⟩
instance (priority := 2000) frz_o {α : Type} [Enc α] {xs : List α} : Frz (.n true .lst (xs.map en)) (en xs) := ⟨fr_eo xs⟩
instance (priority := 2000) frz_z0 : Frz (.n true .lst []) (.n false .lst []) := ⟨rfl⟩
/-! ### slots written -/
class Nb (ρ : Env) : Prop where
  h : ∀ i, killB i ρ = ρ
instance nb0 : Nb [] := ⟨fun _ => rfl⟩
instance nb_un [a : Nb r] : Nb (.un :: r) := ⟨fun i => by rw [kb_un, a.h]⟩
instance nb_v [a : Nb r] : Nb (.v d :: r) := ⟨fun i => by rw [kb_v, a.h]⟩
instance nb_w [a : Nb r] : Nb (.w d :: r) := ⟨fun i => by rw [kb_w, a.h]⟩
/-- ρ with another slot i -/
class Set1 (ρ : Env) (i : Nat) (s : Sl) (ρ' : outParam Env) : Prop where
  h : ρ.set i s = ρ'
instance set1_0 : Set1 (s' :: r) 0 s (s :: r) := ⟨rfl⟩
instance set1_S [a : Set1 r i s ρ'] : Set1 (s' :: r) (i + 1) s (s' :: ρ') := ⟨by rw [List.set_cons_succ, a.h]⟩
class Kst (ρ : Env) (i : Nat) (s : Sl) (ρ' : outParam Env) : Prop where
  h : (killB i ρ).set i s = ρ'
instance kst [a : Nb ρ] [b : Set1 ρ i s ρ'] : Kst ρ i s ρ' := ⟨by rw [a.h, b.h]⟩
class Wp (ρ : Env) (vs : List Nat) (ρ' : outParam Env) : Prop where
  h : wipeD ρ vs = ρ'
instance wp0 : Wp ρ [] ρ := ⟨rfl⟩
instance wpS {vs : List Nat} [a : Wp ρ vs ρ1] [b : Kst ρ1 i .un ρ2] : Wp ρ (i :: vs) ρ2 := ⟨by rw [wipeD, a.h, b.h]⟩
/-- a slot that may be stored to -/
class Free1 (s : Sl) : Prop where
  h : ∀ d, s ≠ .w d
instance free_un : Free1 .un := ⟨fun _ z => by cases z⟩
instance free_v : Free1 (.v d) := ⟨fun _ z => by cases z⟩
class StV (ρ : Env) (i : Nat) (d : D) (ρ' : outParam Env) : Prop where
  h : stV ρ i d = some ρ'
instance stv [g : Gt ρ i s] [f : Free1 s] [a : Kst ρ i (.v d) ρ'] : StV ρ i d ρ' := ⟨by
  unfold stV
  rw [g.h]
  cases s with
  | un => show some _ = _; rw [a.h]
  | v _ => show some _ = _; rw [a.h]
  | w d => exact absurd rfl (f.h d)
  | b _ _ => show some _ = _; rw [a.h]⟩
/-! ### what is taken -/
class Few (n : Nat) (ds : List D) : Prop where
  h : ds.length ≤ n
instance few0 {n : Nat} : Few n [] := ⟨Nat.zero_le _⟩
instance fewS {n : Nat} [a : Few n ds] : Few (n + 1) (d :: ds) := ⟨Nat.succ_le_succ a.h⟩
class TkL (ρ : Env) (xs : List Rv) (ds : outParam (List D)) (ρ' : outParam Env) : Prop where
  h : tkL ρ xs = some (ds, ρ')
instance tkl0 : TkL ρ [] [] ρ := ⟨rfl⟩
instance tklT [a : TkL ρ xs ds ρ'] : TkL ρ (.t d :: xs) (d :: ds) ρ' := ⟨tl_T a.h⟩
instance tklS [Gt ρ i s] [SlV s d] [z : Fz d] [a : TkL ρ xs ds ρ'] : TkL ρ (.s i :: xs) (d :: ds) ρ' := ⟨tl_S slD_of z.h a.h⟩
class TkF (ρ : Env) (xs : List Rv) (ds : outParam (List D)) (ρ' : outParam Env) : Prop where
  h : tkFL ρ xs = some (ds, ρ')
instance tkf0 : TkF ρ [] [] ρ := ⟨rfl⟩
instance tkfT [f : Frz d d'] [a : TkF ρ xs ds ρ'] : TkF ρ (.t d :: xs) (d' :: ds) ρ' := ⟨tf_T f.h a.h⟩
instance tkfS [Gt ρ i s] [SlV s d] [z : Fz d] [a : TkF ρ xs ds ρ'] : TkF ρ (.s i :: xs) (d :: ds) ρ' := ⟨tf_S slD_of z.h a.h⟩
class Arg (ms : List Bool) (ρ : Env) (xs : List Rv) (ds : outParam (List D)) (ρ' : outParam Env) : Prop where
  h : argL ms ρ xs = some (ds, ρ')
variable {ms : List Bool}
instance arg0 : Arg [] ρ [] [] ρ := ⟨rfl⟩
instance argfS [Gt ρ i s] [SlV s d] [z : Fz d] [a : Arg ms ρ xs ds ρ'] : Arg (false :: ms) ρ (.s i :: xs) (d :: ds) ρ' := ⟨ag_fS slD_of z.h a.h⟩
instance argfT [f : Frz d d'] [a : Arg ms ρ xs ds ρ'] : Arg (false :: ms) ρ (.t d :: xs) (d' :: ds) ρ' := ⟨ag_fT f.h a.h⟩
instance argtT [a : Arg ms ρ xs ds ρ'] : Arg (true :: ms) ρ (.t d :: xs) (d :: ds) ρ' := ⟨ag_tT a.h⟩
instance argtS [g : Gt ρ i s] [h : SlV s d] [b : Kst ρ i .un ρ1] [a : Arg ms ρ1 xs ds ρ'] : Arg (true :: ms) ρ (.s i :: xs) (d :: ds) ρ' := ⟨by
  have e := h.h
  have g := g.h
  cases s with
  | un => cases e
  | v _ => cases e; exact ag_tV g b.h a.h
  | w _ => cases e; exact ag_tW g b.h a.h
  | b _ _ => cases e⟩
class Bak (ρ0 : Env) (ms : List Bool) (ρ : Env) (xs : List Rv) (ds : List D) (ρ' : outParam Env) : Prop where
  h : backL ρ0 ms ρ xs ds = some ρ'
instance bak0 {ρ0 : Env} : Bak ρ0 [] ρ [] [] ρ := ⟨rfl⟩
instance bakf {ρ0 : Env} [a : Bak ρ0 ms ρ xs ds ρ'] : Bak ρ0 (false :: ms) ρ (x :: xs) (d :: ds) ρ' := ⟨ba_f a.h⟩
instance baktT {ρ0 : Env} [a : Bak ρ0 ms ρ xs ds ρ'] : Bak ρ0 (true :: ms) ρ (.t d' :: xs) (d :: ds) ρ' := ⟨ba_tT a.h⟩
theorem noB_of_nb [a : Nb ρ] {vs : List Nat} : noB vs ρ = true := by
  have h := a.h
  clear a
  refine noB_of fun i j q e => ?_
  intro hj
  have := h j
  have e2 : (killB j ρ)[i]? = some (Sl.b j q) := by rw [this]; exact e
  rw [killB_get, e] at e2
  simp only [Option.map_some, if_true] at e2
  cases e2
instance baktV {ρ0 : Env} [g : Gt ρ0 i (.v d')] [u : Gt ρ i .un] [n : Nb ρ] [b : Set1 ρ i (.v d) ρ1] [a : Bak ρ0 ms ρ1 xs ds ρ'] : Bak ρ0 (true :: ms) ρ (.s i :: xs) (d :: ds) ρ' :=
  ⟨ba_tV (by rw [u.h, noB_of_nb]; rfl) g.h b.h a.h⟩
instance baktW {ρ0 : Env} [g : Gt ρ0 i (.w d')] [u : Gt ρ i .un] [n : Nb ρ] [b : Set1 ρ i (.w d) ρ1] [a : Bak ρ0 ms ρ1 xs ds ρ'] : Bak ρ0 (true :: ms) ρ (.s i :: xs) (d :: ds) ρ' :=
  ⟨ba_tW (by rw [u.h, noB_of_nb]; rfl) g.h b.h a.h⟩
class Itm0 (d : D) (ch : outParam (List D)) : Prop where
  h : itemsOf d = some ch
instance itm_l : Itm0 (.n o .lst ch) ch := ⟨rfl⟩
instance itm_k : Itm0 (.n o .lok ch) ch := ⟨rfl⟩
instance itm_e {α : Type} [Enc α] {xs : List α} : Itm0 (en xs) (xs.map en) := ⟨rfl⟩
end
/-! ### steps with looks -/
section
variable {ρ ρ' ρ1 ρ2 : Env} {i j : Nat} {s s' : Sl} {d d' e : D} {x y : Rv} {xs : List Rv} {ds ch : List D} {ms : List Bool} {vs : List Nat} {Q : Rv → Env → Prop} {E : Exn → Env → Prop} {v : V}
instance s_var [Gt ρ i s] [SlV s d] : St1 (dVar i ρ Q E) (Q (.s i) ρ) := ⟨w_var slD_of⟩
instance s_opK {r : Op2} {k : D → Prop} [a : Lk ρ x d] [b : Lk ρ y e] : St1 (opK r x y ρ k) (r d e k) := ⟨w_opK a.h b.h⟩
instance s_unK {r : D → (D → Prop) → Prop} {k : D → Prop} [a : Lk ρ x d] : St1 (unK r x ρ k) (r d k) := ⟨w_unK a.h⟩
instance s_blK {k : Bool → Prop} {b : Bool} [a : Lk ρ x (.p (.bl b))] : St1 (blK x ρ k) (k b) := ⟨w_blK a.h⟩
instance s_cbK {r : OpL} {k : D → Prop} [a : LkL ρ xs ds] : St1 (cbK r xs ρ k) (r ds k) := ⟨w_cbK a.h⟩
instance s_retS {k : D → Env → Prop} [Gt ρ i s] [SlV s d] [z : Fz d] : St1 (retK (.s i) ρ k) (k d ρ) := ⟨w_retS slD_of z.h⟩
instance s_nT {k : Env → Prop} [a : StV ρ i d ρ'] : St1 (dName i (.t d) ρ k) (k ρ') := ⟨w_nameT a.h⟩
instance s_nS {k : Env → Prop} [Gt ρ j s] [SlV s d] [z : Fz d] [a : StV ρ i d ρ'] : St1 (dName i (.s j) ρ k) (k ρ') := ⟨w_nameS slD_of z.h a.h⟩
instance s_mkK {k : List D → Env → Prop} [a : TkL ρ xs ds ρ'] [f : Few 60 ds] : St1 (mkK xs ρ k) (k ds ρ') := ⟨w_mkK a.h (Nat.le_trans f.h (by decide))⟩
instance s_caK {k : List D → Env → Prop} [a : Arg ms ρ xs ds ρ'] : St1 (caK ms xs ρ k) (k ds ρ') := ⟨w_caK a.h⟩
instance s_baK {ρ0 : Env} {k : Env → Prop} [a : Bak ρ0 ms ρ xs ds ρ'] : St1 (baK ρ0 ms ρ xs ds k) (k ρ') := ⟨w_baK a.h⟩
instance s_kwK {k : List D → Env → Prop} [a : TkF ρ xs ds ρ'] : St1 (kwK xs ρ k) (k ds ρ') := ⟨w_kwK a.h⟩
instance s_wpK {n : Env → Prop} [a : Wp ρ vs ρ'] : St1 (wpK ρ vs n) (n ρ') := ⟨w_wpK a.h⟩
instance s_mv [g : Gt ρ i (.v d)] [a : Kst ρ i .un ρ'] : St1 (dMv i ρ Q E) (Q (.t d) ρ') := ⟨w_mv g.h a.h⟩
instance (priority := 900) s_itS {k : List D → Env → Prop} [Gt ρ i s] [SlV s d] [z : Fz d] [a : Itm0 d ch] : St1 (itK (.s i) ρ k) (k ch ρ) := ⟨w_itK (d := d) (ρ2 := ρ) (by
  have h0 : slD ρ i = some d := slD_of
  simp only [tkF, tk, h0, z.h, if_true, fz_of z.h]) a.h⟩
end
section
variable {n : Env → Prop} {rt : D → Env → Prop} {bk ct : Env → Prop} {ex : Exn → Env → Prop} {ρ ρ1 ρ2 : Env} {Q : Rv → Env → Prop} {QT : Bool → Env → Prop} {QA : List Rv → Env → Prop} {QI : List D → Env → Prop} {E : Exn → Env → Prop} {t u : DS} {te ta tb tc : DE} {tt tv : DT} {tA : DA} {ti : DI} {g : DG} {r : Op2} {d d' : D} {i j : Nat} {v : V} {x y : Rv} {xs : List Rv}
instance (priority := 2990) i_w_asg  : St1 (dAsg te g ⟨n, rt, bk, ct, ex⟩ ρ) (te ρ (fun r ρ1 => g r ρ1 n) ex) := ⟨w_asg⟩
end
section
variable {n : Env → Prop} {rt : D → Env → Prop} {bk ct : Env → Prop} {ex : Exn → Env → Prop} {ρ ρ1 ρ2 : Env} {Q : Rv → Env → Prop} {QT : Bool → Env → Prop} {QA : List Rv → Env → Prop} {QI : List D → Env → Prop} {E : Exn → Env → Prop} {t u : DS} {te ta tb tc : DE} {tt tv : DT} {tA : DA} {ti : DI} {g : DG} {r : Op2} {d d' : D} {i j : Nat} {v : V} {x y : Rv} {xs : List Rv}
instance (priority := 2980) i_w_next  : St1 (dNext ⟨n, rt, bk, ct, ex⟩ ρ) (n ρ) := ⟨w_next⟩
end
section
variable {n : Env → Prop} {rt : D → Env → Prop} {bk ct : Env → Prop} {ex : Exn → Env → Prop} {ρ ρ1 ρ2 : Env} {Q : Rv → Env → Prop} {QT : Bool → Env → Prop} {QA : List Rv → Env → Prop} {QI : List D → Env → Prop} {E : Exn → Env → Prop} {t u : DS} {te ta tb tc : DE} {tt tv : DT} {tA : DA} {ti : DI} {g : DG} {r : Op2} {d d' : D} {i j : Nat} {v : V} {x y : Rv} {xs : List Rv}
instance (priority := 2970) i_w_drop  : St1 (dDrop te ⟨n, rt, bk, ct, ex⟩ ρ) (te ρ (fun _ ρ1 => n ρ1) ex) := ⟨w_drop⟩
end
section
variable {n : Env → Prop} {rt : D → Env → Prop} {bk ct : Env → Prop} {ex : Exn → Env → Prop} {ρ ρ1 ρ2 : Env} {Q : Rv → Env → Prop} {QT : Bool → Env → Prop} {QA : List Rv → Env → Prop} {QI : List D → Env → Prop} {E : Exn → Env → Prop} {t u : DS} {te ta tb tc : DE} {tt tv : DT} {tA : DA} {ti : DI} {g : DG} {r : Op2} {d d' : D} {i j : Nat} {v : V} {x y : Rv} {xs : List Rv}
instance (priority := 2960) i_w_ret  : St1 (dRet te ⟨n, rt, bk, ct, ex⟩ ρ) (te ρ (fun r ρ1 => retK r ρ1 rt) ex) := ⟨w_ret⟩
end
section
variable {n : Env → Prop} {rt : D → Env → Prop} {bk ct : Env → Prop} {ex : Exn → Env → Prop} {ρ ρ1 ρ2 : Env} {Q : Rv → Env → Prop} {QT : Bool → Env → Prop} {QA : List Rv → Env → Prop} {QI : List D → Env → Prop} {E : Exn → Env → Prop} {t u : DS} {te ta tb tc : DE} {tt tv : DT} {tA : DA} {ti : DI} {g : DG} {r : Op2} {d d' : D} {i j : Nat} {v : V} {x y : Rv} {xs : List Rv}
instance (priority := 2950) i_w_retN  : St1 (dRetN ⟨n, rt, bk, ct, ex⟩ ρ) (rt (.p .non) ρ) := ⟨w_retN⟩
end
section
variable {n : Env → Prop} {rt : D → Env → Prop} {bk ct : Env → Prop} {ex : Exn → Env → Prop} {ρ ρ1 ρ2 : Env} {Q : Rv → Env → Prop} {QT : Bool → Env → Prop} {QA : List Rv → Env → Prop} {QI : List D → Env → Prop} {E : Exn → Env → Prop} {t u : DS} {te ta tb tc : DE} {tt tv : DT} {tA : DA} {ti : DI} {g : DG} {r : Op2} {d d' : D} {i j : Nat} {v : V} {x y : Rv} {xs : List Rv}
instance (priority := 2940) i_w_ifS  : St1 (dIfS tt t u ⟨n, rt, bk, ct, ex⟩ ρ) (tt ρ (fun b ρ1 => if b = true then t ⟨n, rt, bk, ct, ex⟩ ρ1 else u ⟨n, rt, bk, ct, ex⟩ ρ1) ex) := ⟨w_ifS⟩
end
section
variable {n : Env → Prop} {rt : D → Env → Prop} {bk ct : Env → Prop} {ex : Exn → Env → Prop} {ρ ρ1 ρ2 : Env} {Q : Rv → Env → Prop} {QT : Bool → Env → Prop} {QA : List Rv → Env → Prop} {QI : List D → Env → Prop} {E : Exn → Env → Prop} {t u : DS} {te ta tb tc : DE} {tt tv : DT} {tA : DA} {ti : DI} {g : DG} {r : Op2} {d d' : D} {i j : Nat} {v : V} {x y : Rv} {xs : List Rv}
instance (priority := 2930) i_w_for  : St1 (dFor ti g t ⟨n, rt, bk, ct, ex⟩ ρ) (ti ρ (fun items ρ1 => dLoop g t ⟨n, rt, bk, ct, ex⟩ items ρ1) ex) := ⟨w_for⟩
end
section
variable {n : Env → Prop} {rt : D → Env → Prop} {bk ct : Env → Prop} {ex : Exn → Env → Prop} {ρ ρ1 ρ2 : Env} {Q : Rv → Env → Prop} {QT : Bool → Env → Prop} {QA : List Rv → Env → Prop} {QI : List D → Env → Prop} {E : Exn → Env → Prop} {t u : DS} {te ta tb tc : DE} {tt tv : DT} {tA : DA} {ti : DI} {g : DG} {r : Op2} {d d' : D} {i j : Nat} {v : V} {x y : Rv} {xs : List Rv}
instance (priority := 2920) i_w_break  : St1 (dBreak ⟨n, rt, bk, ct, ex⟩ ρ) (bk ρ) := ⟨w_break⟩
end
section
variable {n : Env → Prop} {rt : D → Env → Prop} {bk ct : Env → Prop} {ex : Exn → Env → Prop} {ρ ρ1 ρ2 : Env} {Q : Rv → Env → Prop} {QT : Bool → Env → Prop} {QA : List Rv → Env → Prop} {QI : List D → Env → Prop} {E : Exn → Env → Prop} {t u : DS} {te ta tb tc : DE} {tt tv : DT} {tA : DA} {ti : DI} {g : DG} {r : Op2} {d d' : D} {i j : Nat} {v : V} {x y : Rv} {xs : List Rv}
instance (priority := 2910) i_w_cont  : St1 (dCont ⟨n, rt, bk, ct, ex⟩ ρ) (ct ρ) := ⟨w_cont⟩
end
section
variable {n : Env → Prop} {rt : D → Env → Prop} {bk ct : Env → Prop} {ex : Exn → Env → Prop} {ρ ρ1 ρ2 : Env} {Q : Rv → Env → Prop} {E : Exn → Env → Prop} {tb : DS} {te : DE} {d : D} {i j : Nat} {v : V} {x : Rv} {nm : String} {f : Str}
instance (priority := 2900) i_w_isX {tbl : List (String × Bool)} : St1 (dIsX tbl te ρ Q E) (te ρ (fun r ρ1 => ixK tbl Q r ρ1) E) := ⟨w_isX⟩
end
section
variable {n : Env → Prop} {rt : D → Env → Prop} {bk ct : Env → Prop} {ex : Exn → Env → Prop} {ρ ρ1 ρ2 : Env} {Q : Rv → Env → Prop} {E : Exn → Env → Prop} {tb : DS} {te : DE} {d : D} {i j : Nat} {v : V} {x : Rv} {nm : String} {f : Str}
instance (priority := 2890) i_w_fld {cls : List String} : St1 (dFld cls f te ρ Q E) (te ρ (fun r ρ1 => fdK cls f Q r ρ1) E) := ⟨w_fld⟩
end
section
variable {n : Env → Prop} {rt : D → Env → Prop} {bk ct : Env → Prop} {ex : Exn → Env → Prop} {ρ ρ1 ρ2 : Env} {Q : Rv → Env → Prop} {E : Exn → Env → Prop} {tb : DS} {te : DE} {d : D} {i j : Nat} {v : V} {x : Rv} {nm : String} {f : Str}
instance (priority := 2880) i_w_raiseF  : St1 (dRaiseF nm f te ⟨n, rt, bk, ct, ex⟩ ρ) (te ρ (fun r ρ1 => rfK nm f ex r ρ1) ex) := ⟨w_raiseF⟩
end
section
variable {n : Env → Prop} {rt : D → Env → Prop} {bk ct : Env → Prop} {ex : Exn → Env → Prop} {ρ ρ1 ρ2 : Env} {Q : Rv → Env → Prop} {E : Exn → Env → Prop} {tb : DS} {te : DE} {d : D} {i j : Nat} {v : V} {x : Rv} {nm : String} {f : Str}
instance (priority := 2870) i_w_tryK {ns : List (String × Bool)} : St1 (dTryK ns i j tb ⟨n, rt, bk, ct, ex⟩ ρ) (tb ⟨n, rt, bk, ct, fun x ρ' => tyK ns i j n ex x ρ'⟩ ρ) := ⟨w_tryK⟩
end
section
variable {n : Env → Prop} {rt : D → Env → Prop} {bk ct : Env → Prop} {ex : Exn → Env → Prop} {ρ ρ1 ρ2 : Env} {te : DE} {i j : Nat} {d1 d2 : D}
instance (priority := 2860) i_w_unp  : St1 (dUnp te i j ⟨n, rt, bk, ct, ex⟩ ρ) (te ρ (fun r ρ1 => upK i j n r ρ1) ex) := ⟨w_unp⟩
end
section
variable {n : Env → Prop} {rt : D → Env → Prop} {bk ct : Env → Prop} {ex : Exn → Env → Prop} {ρ ρ1 ρ2 : Env} {Q : Rv → Env → Prop} {QT : Bool → Env → Prop} {QA : List Rv → Env → Prop} {QI : List D → Env → Prop} {E : Exn → Env → Prop} {t u : DS} {te ta tb tc : DE} {tt tv : DT} {tA : DA} {ti : DI} {g : DG} {r : Op2} {d d' : D} {i j : Nat} {v : V} {x y : Rv} {xs : List Rv}
instance (priority := 2850) i_w_c  : St1 (dC v ρ Q E) (Q (.t (.p v)) ρ) := ⟨w_c⟩
end
section
variable {n : Env → Prop} {rt : D → Env → Prop} {bk ct : Env → Prop} {ex : Exn → Env → Prop} {ρ ρ1 ρ2 : Env} {Q : Rv → Env → Prop} {QT : Bool → Env → Prop} {QA : List Rv → Env → Prop} {QI : List D → Env → Prop} {E : Exn → Env → Prop} {t u : DS} {te ta tb tc : DE} {tt tv : DT} {tA : DA} {ti : DI} {g : DG} {r : Op2} {d d' : D} {i j : Nat} {v : V} {x y : Rv} {xs : List Rv}
instance (priority := 2840) i_w_op  : St1 (dOp r ta tb ρ Q E) (ta ρ (fun x ρ1 => tb ρ1 (fun y ρ2 => opK r x y ρ2 fun z => Q (.t z) ρ2) E) E) := ⟨w_op⟩
end
section
variable {n : Env → Prop} {rt : D → Env → Prop} {bk ct : Env → Prop} {ex : Exn → Env → Prop} {ρ ρ1 ρ2 : Env} {Q : Rv → Env → Prop} {QT : Bool → Env → Prop} {QA : List Rv → Env → Prop} {QI : List D → Env → Prop} {E : Exn → Env → Prop} {t u : DS} {te ta tb tc : DE} {tt tv : DT} {tA : DA} {ti : DI} {g : DG} {r : Op2} {d d' : D} {i j : Nat} {v : V} {x y : Rv} {xs : List Rv}
instance (priority := 2830) i_w_nil  : St1 (dNil ρ QA E) (QA [] ρ) := ⟨w_nil⟩
end
section
variable {n : Env → Prop} {rt : D → Env → Prop} {bk ct : Env → Prop} {ex : Exn → Env → Prop} {ρ ρ1 ρ2 : Env} {Q : Rv → Env → Prop} {QT : Bool → Env → Prop} {QA : List Rv → Env → Prop} {QI : List D → Env → Prop} {E : Exn → Env → Prop} {t u : DS} {te ta tb tc : DE} {tt tv : DT} {tA : DA} {ti : DI} {g : DG} {r : Op2} {d d' : D} {i j : Nat} {v : V} {x y : Rv} {xs : List Rv}
instance (priority := 2820) i_w_cons  : St1 (dCons ta tA ρ QA E) (ta ρ (fun x ρ1 => tA ρ1 (fun xs ρ2 => QA (x :: xs) ρ2) E) E) := ⟨w_cons⟩
end
section
variable {n : Env → Prop} {rt : D → Env → Prop} {bk ct : Env → Prop} {ex : Exn → Env → Prop} {ρ ρ1 ρ2 : Env} {Q : Rv → Env → Prop} {QT : Bool → Env → Prop} {QA : List Rv → Env → Prop} {QI : List D → Env → Prop} {E : Exn → Env → Prop} {t u : DS} {te ta tb tc : DE} {tt tv : DT} {tA : DA} {ti : DI} {g : DG} {r : Op2} {d d' : D} {i j : Nat} {v : V} {x y : Rv} {xs : List Rv}
instance (priority := 2810) i_w_cb {r : OpL} : St1 (dCB r tA ρ Q E) (tA ρ (fun rs ρ1 => cbK r rs ρ1 fun z => Q (.t z) ρ1) E) := ⟨w_cb⟩
end
section
variable {n : Env → Prop} {rt : D → Env → Prop} {bk ct : Env → Prop} {ex : Exn → Env → Prop} {ρ ρ1 ρ2 : Env} {Q : Rv → Env → Prop} {QT : Bool → Env → Prop} {QA : List Rv → Env → Prop} {QI : List D → Env → Prop} {E : Exn → Env → Prop} {t u : DS} {te ta tb tc : DE} {tt tv : DT} {tA : DA} {ti : DI} {g : DG} {r : Op2} {d d' : D} {i j : Nat} {v : V} {x y : Rv} {xs : List Rv}
instance (priority := 2800) i_w_lst  : St1 (dLst tA ρ Q E) (tA ρ (fun rs ρ1 => mkK rs ρ1 fun ds ρ2 => Q (.t (.n true .lst ds)) ρ2) E) := ⟨w_lst⟩
end
section
variable {n : Env → Prop} {rt : D → Env → Prop} {bk ct : Env → Prop} {ex : Exn → Env → Prop} {ρ ρ1 ρ2 : Env} {Q : Rv → Env → Prop} {QT : Bool → Env → Prop} {QA : List Rv → Env → Prop} {QI : List D → Env → Prop} {E : Exn → Env → Prop} {t u : DS} {te ta tb tc : DE} {tt tv : DT} {tA : DA} {ti : DI} {g : DG} {r : Op2} {d d' : D} {i j : Nat} {v : V} {x y : Rv} {xs : List Rv}
instance (priority := 2790) i_w_tup  : St1 (dTup tA ρ Q E) (tA ρ (fun rs ρ1 => mkK rs ρ1 fun ds ρ2 => Q (.t (.n false .tup ds)) ρ2) E) := ⟨w_tup⟩
end
section
variable {n : Env → Prop} {rt : D → Env → Prop} {bk ct : Env → Prop} {ex : Exn → Env → Prop} {ρ ρ1 ρ2 : Env} {Q : Rv → Env → Prop} {QT : Bool → Env → Prop} {QA : List Rv → Env → Prop} {QI : List D → Env → Prop} {E : Exn → Env → Prop} {t u : DS} {te ta tb tc : DE} {tt tv : DT} {tA : DA} {ti : DI} {g : DG} {r : Op2} {d d' : D} {i j : Nat} {v : V} {x y : Rv} {xs : List Rv}
instance (priority := 2780) i_w_iseq  : St1 (dISeq ta ρ QI E) (ta ρ (fun r ρ1 => itK r ρ1 QI) E) := ⟨w_iseq⟩
end
section
variable {α : Type} [Enc α] {ρ : Env} {k : List D → Env → Prop} {xs : List α} {i : Nat}
instance (priority := 2770) i_w_itO  : St1 (itK (.t (eo xs)) ρ k) (k (xs.map en) ρ) := ⟨w_itO⟩
end
section
variable {α : Type} [Enc α] {ρ : Env} {k : List D → Env → Prop} {xs : List α} {i : Nat}
instance (priority := 2760) i_w_itN  : St1 (itK (.t (en xs)) ρ k) (k (xs.map en) ρ) := ⟨w_itN⟩
end
section
variable {n : Env → Prop} {rt : D → Env → Prop} {bk ct : Env → Prop} {ex : Exn → Env → Prop} {ρ ρ1 ρ2 : Env} {Q : Rv → Env → Prop} {QT : Bool → Env → Prop} {QA : List Rv → Env → Prop} {QI : List D → Env → Prop} {E : Exn → Env → Prop} {t u : DS} {te ta tb tc : DE} {tt tv : DT} {tA : DA} {ti : DI} {g : DG} {r : Op2} {d d' : D} {i j : Nat} {v : V} {x y : Rv} {xs : List Rv}
instance (priority := 2750) i_w_lc {vs : List Nat} : St1 (dLc ti g tt te vs ρ Q E) (ti ρ (fun items ρ1 => lcK ρ1 vs (fun ρ' => dLcL g tt te vs (fun ds ρ2 => Q (.t (.n true .lst ds)) ρ2) items ρ' [])) E) := ⟨w_lc⟩
end
section
variable {ρ ρ1 : Env} {Q : Rv → Env → Prop} {E : Exn → Env → Prop} {te : DE} {ti : DI} {g : DG} {tt : DT} {vs : List Nat}
instance (priority := 2740) i_w_lcX  : St1 (dLcX ti g tt te vs ρ Q E) (ti ρ (fun items ρ1 => lcK ρ1 vs (fun ρ' => dLcLX g tt te vs (fun ds ρ2 => Q (.t (.n true .lst ds)) ρ2) E items ρ' [])) E) := ⟨w_lcX⟩
end
section
variable {n : Env → Prop} {rt : D → Env → Prop} {bk ct : Env → Prop} {ex : Exn → Env → Prop} {ρ ρ1 ρ2 : Env} {Q : Rv → Env → Prop} {QT : Bool → Env → Prop} {QA : List Rv → Env → Prop} {QI : List D → Env → Prop} {E : Exn → Env → Prop} {t u : DS} {te ta tb tc : DE} {tt tv : DT} {tA : DA} {ti : DI} {g : DG} {r : Op2} {d d' : D} {i j : Nat} {v : V} {x y : Rv} {xs : List Rv}
instance (priority := 2730) i_w_true  : St1 (dTrue ρ QT E) (QT true ρ) := ⟨w_true⟩
end
section
variable {n : Env → Prop} {rt : D → Env → Prop} {bk ct : Env → Prop} {ex : Exn → Env → Prop} {ρ ρ1 ρ2 : Env} {Q : Rv → Env → Prop} {QT : Bool → Env → Prop} {QA : List Rv → Env → Prop} {QI : List D → Env → Prop} {E : Exn → Env → Prop} {t u : DS} {te ta tb tc : DE} {tt tv : DT} {tA : DA} {ti : DI} {g : DG} {r : Op2} {d d' : D} {i j : Nat} {v : V} {x y : Rv} {xs : List Rv}
instance (priority := 2720) i_w_ifT {p q : Prop} : St1 (if true = true then p else q) (p) := ⟨w_ifT⟩
end
section
variable {n : Env → Prop} {rt : D → Env → Prop} {bk ct : Env → Prop} {ex : Exn → Env → Prop} {ρ ρ1 ρ2 : Env} {Q : Rv → Env → Prop} {QT : Bool → Env → Prop} {QA : List Rv → Env → Prop} {QI : List D → Env → Prop} {E : Exn → Env → Prop} {t u : DS} {te ta tb tc : DE} {tt tv : DT} {tA : DA} {ti : DI} {g : DG} {r : Op2} {d d' : D} {i j : Nat} {v : V} {x y : Rv} {xs : List Rv}
instance (priority := 2710) i_w_ifF {p q : Prop} : St1 (if false = true then p else q) (q) := ⟨w_ifF⟩
end
section
variable {p q : Prop} {b : Bool}
instance (priority := 2700) i_w_ifNT  : St1 (if (!true) = true then p else q) (q) := ⟨w_ifNT⟩
end
section
variable {p q : Prop} {b : Bool}
instance (priority := 2690) i_w_ifNF  : St1 (if (!false) = true then p else q) (p) := ⟨w_ifNF⟩
end
section
variable {n : Env → Prop} {rt : D → Env → Prop} {bk ct : Env → Prop} {ex : Exn → Env → Prop} {ρ ρ1 ρ2 : Env} {Q : Rv → Env → Prop} {QT : Bool → Env → Prop} {QA : List Rv → Env → Prop} {QI : List D → Env → Prop} {E : Exn → Env → Prop} {t u : DS} {te ta tb tc : DE} {tt tv : DT} {tA : DA} {ti : DI} {g : DG} {r : Op2} {d d' : D} {i j : Nat} {v : V} {x y : Rv} {xs : List Rv}
instance (priority := 2680) i_w_retT {k : D → Env → Prop} : St1 (retK (.t d) ρ k) (k d ρ) := ⟨w_retT⟩
end
section
variable {n : Env → Prop} {rt : D → Env → Prop} {bk ct : Env → Prop} {ex : Exn → Env → Prop} {ρ ρ1 ρ2 : Env} {Q : Rv → Env → Prop} {QT : Bool → Env → Prop} {QA : List Rv → Env → Prop} {QI : List D → Env → Prop} {E : Exn → Env → Prop} {t u : DS} {te ta tb tc : DE} {tt tv : DT} {tA : DA} {ti : DI} {g : DG} {r : Op2} {d d' : D} {i j : Nat} {v : V} {x y : Rv} {xs : List Rv}
instance (priority := 2670) i_w_un {r : D → (D → Prop) → Prop} : St1 (dUn r ta ρ Q E) (ta ρ (fun x ρ1 => unK r x ρ1 fun z => Q (.t z) ρ1) E) := ⟨w_un⟩
end
section
variable {n : Env → Prop} {rt : D → Env → Prop} {bk ct : Env → Prop} {ex : Exn → Env → Prop} {ρ ρ1 ρ2 : Env} {Q : Rv → Env → Prop} {QT : Bool → Env → Prop} {QA : List Rv → Env → Prop} {QI : List D → Env → Prop} {E : Exn → Env → Prop} {t u : DS} {te ta tb tc : DE} {tt tv : DT} {tA : DA} {ti : DI} {g : DG} {r : Op2} {d d' : D} {i j : Nat} {v : V} {x y : Rv} {xs : List Rv}
instance (priority := 2660) i_w_tst  : St1 (dTst ta ρ QT E) (ta ρ (fun x ρ1 => blK x ρ1 fun b => QT b ρ1) E) := ⟨w_tst⟩
end
section
variable {n : Env → Prop} {rt : D → Env → Prop} {bk ct : Env → Prop} {ex : Exn → Env → Prop} {ρ ρ1 ρ2 : Env} {Q : Rv → Env → Prop} {QT : Bool → Env → Prop} {QA : List Rv → Env → Prop} {QI : List D → Env → Prop} {E : Exn → Env → Prop} {t u : DS} {te ta tb tc : DE} {tt tv : DT} {tA : DA} {ti : DI} {g : DG} {r : Op2} {d d' : D} {i j : Nat} {v : V} {x y : Rv} {xs : List Rv}
instance (priority := 2650) i_w_and  : St1 (dAnd tt tv ρ QT E) (tt ρ (fun b ρ1 => if b = true then tv ρ1 QT E else QT false ρ1) E) := ⟨w_and⟩
end
section
variable {n : Env → Prop} {rt : D → Env → Prop} {bk ct : Env → Prop} {ex : Exn → Env → Prop} {ρ ρ1 ρ2 : Env} {Q : Rv → Env → Prop} {QT : Bool → Env → Prop} {QA : List Rv → Env → Prop} {QI : List D → Env → Prop} {E : Exn → Env → Prop} {t u : DS} {te ta tb tc : DE} {tt tv : DT} {tA : DA} {ti : DI} {g : DG} {r : Op2} {d d' : D} {i j : Nat} {v : V} {x y : Rv} {xs : List Rv}
instance (priority := 2640) i_w_or  : St1 (dOr tt tv ρ QT E) (tt ρ (fun b ρ1 => if b = true then QT true ρ1 else tv ρ1 QT E) E) := ⟨w_or⟩
end
section
variable {n : Env → Prop} {rt : D → Env → Prop} {bk ct : Env → Prop} {ex : Exn → Env → Prop} {ρ ρ1 ρ2 : Env} {Q : Rv → Env → Prop} {QT : Bool → Env → Prop} {QA : List Rv → Env → Prop} {QI : List D → Env → Prop} {E : Exn → Env → Prop} {t u : DS} {te ta tb tc : DE} {tt tv : DT} {tA : DA} {ti : DI} {g : DG} {r : Op2} {d d' : D} {i j : Nat} {v : V} {x y : Rv} {xs : List Rv}
instance (priority := 2630) i_w_not  : St1 (dNot tt ρ QT E) (tt ρ (fun b ρ1 => QT (!b) ρ1) E) := ⟨w_not⟩
end
section
variable {n : Env → Prop} {rt : D → Env → Prop} {bk ct : Env → Prop} {ex : Exn → Env → Prop} {ρ ρ1 ρ2 : Env} {Q : Rv → Env → Prop} {QT : Bool → Env → Prop} {QA : List Rv → Env → Prop} {QI : List D → Env → Prop} {E : Exn → Env → Prop} {t u : DS} {te ta tb tc : DE} {tt tv : DT} {tA : DA} {ti : DI} {g : DG} {r : Op2} {d d' : D} {i j : Nat} {v : V} {x y : Rv} {xs : List Rv}
instance (priority := 2620) i_w_andV  : St1 (dAndV ta tb ρ Q E) (ta ρ (fun x ρ1 => blK x ρ1 fun b => if b = true then tb ρ1 Q E else Q (.t (.p (.bl false))) ρ1) E) := ⟨w_andV⟩
end
section
variable {n : Env → Prop} {rt : D → Env → Prop} {bk ct : Env → Prop} {ex : Exn → Env → Prop} {ρ ρ1 ρ2 : Env} {Q : Rv → Env → Prop} {QT : Bool → Env → Prop} {QA : List Rv → Env → Prop} {QI : List D → Env → Prop} {E : Exn → Env → Prop} {t u : DS} {te ta tb tc : DE} {tt tv : DT} {tA : DA} {ti : DI} {g : DG} {r : Op2} {d d' : D} {i j : Nat} {v : V} {x y : Rv} {xs : List Rv}
instance (priority := 2610) i_w_orV  : St1 (dOrV ta tb ρ Q E) (ta ρ (fun x ρ1 => blK x ρ1 fun b => if b = true then Q (.t (.p (.bl true))) ρ1 else tb ρ1 Q E) E) := ⟨w_orV⟩
end
section
variable {n : Env → Prop} {rt : D → Env → Prop} {bk ct : Env → Prop} {ex : Exn → Env → Prop} {ρ ρ1 ρ2 : Env} {Q : Rv → Env → Prop} {QT : Bool → Env → Prop} {QA : List Rv → Env → Prop} {QI : List D → Env → Prop} {E : Exn → Env → Prop} {t u : DS} {te ta tb tc : DE} {tt tv : DT} {tA : DA} {ti : DI} {g : DG} {r : Op2} {d d' : D} {i j : Nat} {v : V} {x y : Rv} {xs : List Rv}
instance (priority := 2600) i_w_notV  : St1 (dNotV ta ρ Q E) (ta ρ (fun x ρ1 => blK x ρ1 fun b => Q (.t (.p (.bl (!b)))) ρ1) E) := ⟨w_notV⟩
end
section
variable {n : Env → Prop} {rt : D → Env → Prop} {bk ct : Env → Prop} {ex : Exn → Env → Prop} {ρ ρ1 ρ2 : Env} {Q : Rv → Env → Prop} {QT : Bool → Env → Prop} {QA : List Rv → Env → Prop} {QI : List D → Env → Prop} {E : Exn → Env → Prop} {t u : DS} {te ta tb tc : DE} {tt tv : DT} {tA : DA} {ti : DI} {g : DG} {r : Op2} {d d' : D} {i j : Nat} {v : V} {x y : Rv} {xs : List Rv}
instance (priority := 2590) i_w_ifE  : St1 (dIf tt ta tb ρ Q E) (tt ρ (fun b ρ1 => if b = true then ta ρ1 Q E else tb ρ1 Q E) E) := ⟨w_ifE⟩
end
section
variable {ρ ρ1 ρ2 : Env} {Q : Rv → Env → Prop} {QO : Option Int → Env → Prop} {QI : List D → Env → Prop} {E : Exn → Env → Prop} {ta tb tc te : DE} {tA : DA} {r r' : Op2} {x y : Rv} {xs : List Rv} {d d' : D} {i : Nat} {v : V}
instance (priority := 2580) i_w_chain  : St1 (dChain r r' ta tb tc ρ Q E) (ta ρ (fun x ρ1 => tb ρ1 (fun y ρ2 => chK r r' x y ρ2 tc Q E) E) E) := ⟨w_chain⟩
end
section
variable {ρ ρ1 ρ2 : Env} {Q : Rv → Env → Prop} {QO : Option Int → Env → Prop} {QI : List D → Env → Prop} {E : Exn → Env → Prop} {ta tb tc te : DE} {tA : DA} {r r' : Op2} {x y : Rv} {xs : List Rv} {d d' : D} {i : Nat} {v : V}
instance (priority := 2570) i_w_isB {k : Bool → Prop} {b : Bool} : St1 (isB k (.p (.bl b))) (k b) := ⟨w_isB⟩
end
section
variable {k : D → Prop} {i j : Int} {a b : Str}
instance (priority := 2560) i_w_addI  : St1 (qAdd (.p (.int i)) (.p (.int j)) k) (k (.int (i + j))) := ⟨w_addI⟩
end
section
variable {k : D → Prop} {i j : Int} {a b : Str}
instance (priority := 2550) i_w_subI  : St1 (qSub (.p (.int i)) (.p (.int j)) k) (k (.int (i - j))) := ⟨w_subI⟩
end
section
variable {k : D → Prop} {i j : Int} {a b : Str}
instance (priority := 2540) i_w_neg  : St1 (qNeg (.p (.int i)) k) (k (.int (-i))) := ⟨w_neg⟩
end
section
variable {k : D → Prop} {i j : Int} {a b : Str}
instance (priority := 2530) i_w_ltI  : St1 (qLt (.p (.int i)) (.p (.int j)) k) (k (.bl (decide (i < j)))) := ⟨w_ltI⟩
end
section
variable {k : D → Prop} {i j : Int} {a b : Str}
instance (priority := 2520) i_w_leI  : St1 (qLe (.p (.int i)) (.p (.int j)) k) (k (.bl (decide (i ≤ j)))) := ⟨w_leI⟩
end
section
variable {k : D → Prop} {i j : Int} {a b : Str}
instance (priority := 2510) i_w_gtI  : St1 (qGt (.p (.int i)) (.p (.int j)) k) (k (.bl (decide (j < i)))) := ⟨w_gtI⟩
end
section
variable {k : D → Prop} {i j : Int} {a b : Str}
instance (priority := 2500) i_w_geI  : St1 (qGe (.p (.int i)) (.p (.int j)) k) (k (.bl (decide (j ≤ i)))) := ⟨w_geI⟩
end
section
variable {k : D → Prop} {a b : Str} {i j : Int}
instance (priority := 2490) i_w_eqS  : St1 (qEq (.p (.str a)) (.p (.str b)) k) (k (.bl (dc (a = b)))) := ⟨w_eqS⟩
end
section
variable {k : D → Prop} {a b : Str} {i j : Int}
instance (priority := 2480) i_w_neS  : St1 (qNe (.p (.str a)) (.p (.str b)) k) (k (.bl (!dc (a = b)))) := ⟨w_neS⟩
end
section
variable {k : D → Prop} {a b : Str} {i j : Int}
instance (priority := 2470) i_w_eqI  : St1 (qEq (.p (.int i)) (.p (.int j)) k) (k (.bl (decide (i = j)))) := ⟨w_eqI⟩
end
section
variable {k : D → Prop} {a b : Str} {i j : Int}
instance (priority := 2460) i_w_neI  : St1 (qNe (.p (.int i)) (.p (.int j)) k) (k (.bl (!decide (i = j)))) := ⟨w_neI⟩
end
section
variable {n : Env → Prop} {rt : D → Env → Prop} {bk ct : Env → Prop} {ex : Exn → Env → Prop} {ρ ρ1 ρ2 : Env} {Q : Rv → Env → Prop} {QT : Bool → Env → Prop} {QA : List Rv → Env → Prop} {QI : List D → Env → Prop} {E : Exn → Env → Prop} {t u : DS} {te ta tb tc : DE} {tt tv : DT} {tA : DA} {ti : DI} {g : DG} {r : Op2} {d d' : D} {i j : Nat} {v : V} {x y : Rv} {xs : List Rv}
instance (priority := 2450) i_w_call {ms : List Bool} {s : SpD} : St1 (dCall ms s tA ρ Q E) (tA ρ (fun rs ρ1 => caK ms rs ρ1 fun ds ρ2 => s ds (fun res ds' => baK ρ1 ms ρ2 rs ds' fun ρ3 => Q (.t res) ρ3) (fun x ds' => baK ρ1 ms ρ2 rs ds' fun ρ3 => E x ρ3)) E) := ⟨w_call⟩
end
section
variable {ρ ρ1 ρ2 : Env} {Q : Rv → Env → Prop} {QO : Option Int → Env → Prop} {QI : List D → Env → Prop} {E : Exn → Env → Prop} {ta tb tc te : DE} {tA : DA} {r r' : Op2} {x y : Rv} {xs : List Rv} {d d' : D} {i : Nat} {v : V}
instance (priority := 2440) i_w_callK {g : {α : Type} → List α → List α → List α} {s : SpD} {tk : DA} : St1 (dCallK g s tA tk ρ Q E) (tA ρ (fun rs ρ1 => kwK rs ρ1 fun ds ρ2 => tk ρ2 (fun zs ρ3 => kwK zs ρ3 fun es ρ4 => s (g ds es) (fun res _ => Q (.t res) ρ4) (fun x _ => E x ρ4)) E) E) := ⟨w_callK⟩
end
section
variable {ρ ρ1 ρ2 : Env} {Q : Rv → Env → Prop} {QO : Option Int → Env → Prop} {QI : List D → Env → Prop} {E : Exn → Env → Prop} {ta tb tc te : DE} {tA : DA} {r r' : Op2} {x y : Rv} {xs : List Rv} {d d' : D} {i : Nat} {v : V}
instance (priority := 2430) i_w_rng1  : St1 (dIRng1 tA ρ QI E) (tA ρ (fun rs ρ1 => rg1K rs ρ1 QI) E) := ⟨w_rng1⟩
end
section
variable {ρ ρ1 ρ2 : Env} {Q : Rv → Env → Prop} {QO : Option Int → Env → Prop} {QI : List D → Env → Prop} {E : Exn → Env → Prop} {ta tb tc te : DE} {tA : DA} {r r' : Op2} {x y : Rv} {xs : List Rv} {d d' : D} {i : Nat} {v : V}
instance (priority := 2420) i_w_rng2  : St1 (dIRng2 tA ρ QI E) (tA ρ (fun rs ρ1 => rg2K rs ρ1 QI) E) := ⟨w_rng2⟩
end
section
variable {ρ ρ1 ρ2 : Env} {Q : Rv → Env → Prop} {QO : Option Int → Env → Prop} {QI : List D → Env → Prop} {E : Exn → Env → Prop} {ta tb tc te : DE} {tA : DA} {r r' : Op2} {x y : Rv} {xs : List Rv} {d d' : D} {i : Nat} {v : V}
instance (priority := 2410) i_w_cut {tl th : DO} : St1 (dCut te tl th ρ Q E) (te ρ (fun r ρ1 => tl ρ1 (fun lo ρ2 => th ρ2 (fun hi ρ3 => cutK lo hi r ρ3 fun z => Q (.t z) ρ3) E) E) E) := ⟨w_cut⟩
end
section
variable {ρ ρ1 ρ2 : Env} {Q : Rv → Env → Prop} {QO : Option Int → Env → Prop} {QI : List D → Env → Prop} {E : Exn → Env → Prop} {ta tb tc te : DE} {tA : DA} {r r' : Op2} {x y : Rv} {xs : List Rv} {d d' : D} {i : Nat} {v : V}
instance (priority := 2400) i_w_part  : St1 (dPart te ρ QO E) (te ρ (fun r ρ1 => ptK r ρ1 QO) E) := ⟨w_part⟩
end
section
variable {ρ ρ1 ρ2 : Env} {Q : Rv → Env → Prop} {QO : Option Int → Env → Prop} {QI : List D → Env → Prop} {E : Exn → Env → Prop} {ta tb tc te : DE} {tA : DA} {r r' : Op2} {x y : Rv} {xs : List Rv} {d d' : D} {i : Nat} {v : V}
instance (priority := 2390) i_w_noPart  : St1 (dNoPart ρ QO E) (QO none ρ) := ⟨w_noPart⟩
end
section
variable {n : Env → Prop} {ρ ρ1 ρ2 : Env} {Q : Rv → Env → Prop} {E : Exn → Env → Prop} {te : DE} {d d' : D} {x : Rv} {i : Nat} {k : Rv → Env → Prop}
instance (priority := 2380) i_w_fz  : St1 (dFz te ρ Q E) (te ρ (fun r ρ1 => fzK r ρ1 Q) E) := ⟨w_fz⟩
end
section
variable {n : Env → Prop} {ρ ρ1 ρ2 : Env} {Q : Rv → Env → Prop} {E : Exn → Env → Prop} {te : DE} {d d' : D} {x : Rv} {i : Nat} {k : Rv → Env → Prop}
instance (priority := 2370) i_w_dK  : St1 (dK d ρ Q E) (Q (.t d) ρ) := ⟨w_dK⟩
end
section
variable {n : Env → Prop} {ρ ρ1 ρ2 : Env} {Q : Rv → Env → Prop} {E : Exn → Env → Prop} {te : DE} {d d' : D} {x : Rv} {i : Nat} {k : Rv → Env → Prop}
instance (priority := 2360) i_w_strS {k : D → Prop} {a : Str} : St1 (qStr1 [.p (.str a)] k) (k (.str a)) := ⟨w_strS⟩
end
section
variable {n : Env → Prop} {rt : D → Env → Prop} {bk ct : Env → Prop} {ex : Exn → Env → Prop} {ρ ρ1 ρ2 : Env} {Q : Rv → Env → Prop} {QT : Bool → Env → Prop} {QA : List Rv → Env → Prop} {QI : List D → Env → Prop} {E : Exn → Env → Prop} {t u tb ts : DS} {te ta : DE} {c tt tv : DT} {tA : DA} {ti : DI} {g : DG} {d d' e : D} {i j : Nat} {v : V} {x y : Rv} {xs : List Rv} {nm : String}
instance (priority := 2350) i_w_raise  : St1 (dRaise nm ⟨n, rt, bk, ct, ex⟩ ρ) (ex ⟨nm, none⟩ ρ) := ⟨w_raise⟩
end
section
variable {n : Env → Prop} {rt : D → Env → Prop} {bk ct : Env → Prop} {ex : Exn → Env → Prop} {ρ ρ1 ρ2 : Env} {Q : Rv → Env → Prop} {QT : Bool → Env → Prop} {QA : List Rv → Env → Prop} {QI : List D → Env → Prop} {E : Exn → Env → Prop} {t u tb ts : DS} {te ta : DE} {c tt tv : DT} {tA : DA} {ti : DI} {g : DG} {d d' e : D} {i j : Nat} {v : V} {x y : Rv} {xs : List Rv} {nm : String}
instance (priority := 2340) i_w_try {ns : List (String × Bool)} : St1 (dTry ns tb ts ⟨n, rt, bk, ct, ex⟩ ρ) (tb ⟨n, rt, bk, ct, fun x ρ' => trK ns ts ⟨n, rt, bk, ct, ex⟩ x ρ'⟩ ρ) := ⟨w_try⟩
end
section
variable {n : Env → Prop} {rt : D → Env → Prop} {bk ct : Env → Prop} {ex : Exn → Env → Prop} {ρ ρ1 ρ2 : Env} {Q : Rv → Env → Prop} {QT : Bool → Env → Prop} {QA : List Rv → Env → Prop} {QI : List D → Env → Prop} {E : Exn → Env → Prop} {t u tb ts : DS} {te ta : DE} {c tt tv : DT} {tA : DA} {ti : DI} {g : DG} {d d' e : D} {i j : Nat} {v : V} {x y : Rv} {xs : List Rv} {nm : String}
variable {k : D → Prop} {a b : Str} {m p : Int}
instance (priority := 2330) i_w_leS  : St1 (qLe (.p (.str a)) (.p (.str b)) k) (k (.bl (!strLt b a))) := ⟨w_leS⟩
end
section
variable {n : Env → Prop} {rt : D → Env → Prop} {bk ct : Env → Prop} {ex : Exn → Env → Prop} {ρ ρ1 ρ2 : Env} {Q : Rv → Env → Prop} {QT : Bool → Env → Prop} {QA : List Rv → Env → Prop} {QI : List D → Env → Prop} {E : Exn → Env → Prop} {t u tb ts : DS} {te ta : DE} {c tt tv : DT} {tA : DA} {ti : DI} {g : DG} {d d' e : D} {i j : Nat} {v : V} {x y : Rv} {xs : List Rv} {nm : String}
variable {k : D → Prop} {a b : Str} {m p : Int}
instance (priority := 2320) i_w_ltS  : St1 (qLt (.p (.str a)) (.p (.str b)) k) (k (.bl (strLt a b))) := ⟨w_ltS⟩
end
section
variable {n : Env → Prop} {rt : D → Env → Prop} {bk ct : Env → Prop} {ex : Exn → Env → Prop} {ρ ρ1 ρ2 : Env} {Q : Rv → Env → Prop} {QT : Bool → Env → Prop} {QA : List Rv → Env → Prop} {QI : List D → Env → Prop} {E : Exn → Env → Prop} {t u tb ts : DS} {te ta : DE} {c tt tv : DT} {tA : DA} {ti : DI} {g : DG} {d d' e : D} {i j : Nat} {v : V} {x y : Rv} {xs : List Rv} {nm : String}
variable {k : D → Prop} {a b : Str} {m p : Int}
instance (priority := 2310) i_w_inTf {ch : Nat} : St1 (qInS false (.p (.str (sg ch))) (.p (.str b)) k) (k (.bl (decide (ch ∈ b.cps.toList)))) := ⟨w_inTf⟩
end
section
variable {n : Env → Prop} {rt : D → Env → Prop} {bk ct : Env → Prop} {ex : Exn → Env → Prop} {ρ ρ1 ρ2 : Env} {Q : Rv → Env → Prop} {QT : Bool → Env → Prop} {QA : List Rv → Env → Prop} {QI : List D → Env → Prop} {E : Exn → Env → Prop} {t u tb ts : DS} {te ta : DE} {c tt tv : DT} {tA : DA} {ti : DI} {g : DG} {d d' e : D} {i j : Nat} {v : V} {x y : Rv} {xs : List Rv} {nm : String}
variable {k : D → Prop} {a b : Str} {m p : Int}
instance (priority := 2300) i_w_inTt {ch : Nat} : St1 (qInS true (.p (.str (sg ch))) (.p (.str b)) k) (k (.bl (!decide (ch ∈ b.cps.toList)))) := ⟨w_inTt⟩
end
section
variable {n : Env → Prop} {rt : D → Env → Prop} {bk ct : Env → Prop} {ex : Exn → Env → Prop} {ρ ρ1 ρ2 : Env} {Q : Rv → Env → Prop} {QT : Bool → Env → Prop} {QA : List Rv → Env → Prop} {QI : List D → Env → Prop} {E : Exn → Env → Prop} {t u tb ts : DS} {te ta : DE} {c tt tv : DT} {tA : DA} {ti : DI} {g : DG} {d d' e : D} {i j : Nat} {v : V} {x y : Rv} {xs : List Rv} {nm : String}
variable {k : D → Prop} {a b : Str} {m p : Int}
instance (priority := 2290) i_w_in2f {o : Bool} {x y z : Str} : St1 (qInS false (.p (.str x)) (.n o .tup [.p (.str y), .p (.str z)]) k) (k (.bl (dc (x = y ∨ x = z)))) := ⟨w_in2f⟩
end
section
variable {n : Env → Prop} {rt : D → Env → Prop} {bk ct : Env → Prop} {ex : Exn → Env → Prop} {ρ ρ1 ρ2 : Env} {Q : Rv → Env → Prop} {QT : Bool → Env → Prop} {QA : List Rv → Env → Prop} {QI : List D → Env → Prop} {E : Exn → Env → Prop} {t u tb ts : DS} {te ta : DE} {c tt tv : DT} {tA : DA} {ti : DI} {g : DG} {d d' e : D} {i j : Nat} {v : V} {x y : Rv} {xs : List Rv} {nm : String}
variable {k : D → Prop} {a b : Str} {m p : Int}
instance (priority := 2280) i_w_in2t {o : Bool} {x y z : Str} : St1 (qInS true (.p (.str x)) (.n o .tup [.p (.str y), .p (.str z)]) k) (k (.bl (!dc (x = y ∨ x = z)))) := ⟨w_in2t⟩
end
section
variable {n : Env → Prop} {rt : D → Env → Prop} {bk ct : Env → Prop} {ex : Exn → Env → Prop} {ρ ρ1 ρ2 : Env} {Q : Rv → Env → Prop} {QT : Bool → Env → Prop} {QA : List Rv → Env → Prop} {QI : List D → Env → Prop} {E : Exn → Env → Prop} {t u tb ts : DS} {te ta : DE} {c tt tv : DT} {tA : DA} {ti : DI} {g : DG} {d d' e : D} {i j : Nat} {v : V} {x y : Rv} {xs : List Rv} {nm : String}
variable {k : D → Prop} {a b : Str} {m p : Int}
instance (priority := 2270) i_w_intB {b : Bool} : St1 (qInt [.p (.bl b)] k) (k (.int (if b = true then 1 else 0))) := ⟨w_intB⟩
end
section
variable {n : Env → Prop} {rt : D → Env → Prop} {bk ct : Env → Prop} {ex : Exn → Env → Prop} {ρ ρ1 ρ2 : Env} {Q : Rv → Env → Prop} {QT : Bool → Env → Prop} {QA : List Rv → Env → Prop} {QI : List D → Env → Prop} {E : Exn → Env → Prop} {t u tb ts : DS} {te ta : DE} {c tt tv : DT} {tA : DA} {ti : DI} {g : DG} {d d' e : D} {i j : Nat} {v : V} {x y : Rv} {xs : List Rv} {nm : String}
variable {k : D → Prop} {a b : Str} {m p : Int}
instance (priority := 2260) i_w_intI  : St1 (qInt [.p (.int m)] k) (k (.int m)) := ⟨w_intI⟩
end
section
variable {n : Env → Prop} {rt : D → Env → Prop} {bk ct : Env → Prop} {ex : Exn → Env → Prop} {ρ ρ1 ρ2 : Env} {Q : Rv → Env → Prop} {QT : Bool → Env → Prop} {QA : List Rv → Env → Prop} {QI : List D → Env → Prop} {E : Exn → Env → Prop} {t u tb ts : DS} {te ta : DE} {c tt tv : DT} {tA : DA} {ti : DI} {g : DG} {d d' e : D} {i j : Nat} {v : V} {x y : Rv} {xs : List Rv} {nm : String}
variable {k : D → Prop} {a b : Str} {m p : Int}
instance (priority := 2250) i_w_isdigit  : St1 (qIsdigit (.p (.str a)) k) (k (.bl (Txt.isdigit a))) := ⟨w_isdigit⟩
end
section
variable {n : Env → Prop} {rt : D → Env → Prop} {bk ct : Env → Prop} {ex : Exn → Env → Prop} {ρ ρ1 ρ2 : Env} {Q : Rv → Env → Prop} {QT : Bool → Env → Prop} {QA : List Rv → Env → Prop} {QI : List D → Env → Prop} {E : Exn → Env → Prop} {t u tb ts : DS} {te ta : DE} {c tt tv : DT} {tA : DA} {ti : DI} {g : DG} {d d' e : D} {i j : Nat} {v : V} {x y : Rv} {xs : List Rv} {nm : String}
variable {k : D → Prop} {a b : Str} {m p : Int}
instance (priority := 2240) i_w_isalpha  : St1 (qIsalpha (.p (.str a)) k) (k (.bl (Txt.isalpha a))) := ⟨w_isalpha⟩
end
section
variable {n : Env → Prop} {rt : D → Env → Prop} {bk ct : Env → Prop} {ex : Exn → Env → Prop} {ρ ρ1 ρ2 : Env} {Q : Rv → Env → Prop} {QT : Bool → Env → Prop} {QA : List Rv → Env → Prop} {QI : List D → Env → Prop} {E : Exn → Env → Prop} {t u tb ts : DS} {te ta : DE} {c tt tv : DT} {tA : DA} {ti : DI} {g : DG} {d d' e : D} {i j : Nat} {v : V} {x y : Rv} {xs : List Rv} {nm : String}
variable {k : D → Prop} {a b : Str} {m p : Int}
instance (priority := 2230) i_w_isNn  : St1 (qIsN .non .non k) (k (.bl true)) := ⟨w_isNn⟩
end
section
variable {n : Env → Prop} {rt : D → Env → Prop} {bk ct : Env → Prop} {ex : Exn → Env → Prop} {ρ ρ1 ρ2 : Env} {Q : Rv → Env → Prop} {QT : Bool → Env → Prop} {QA : List Rv → Env → Prop} {QI : List D → Env → Prop} {E : Exn → Env → Prop} {t u tb ts : DS} {te ta : DE} {c tt tv : DT} {tA : DA} {ti : DI} {g : DG} {d d' e : D} {i j : Nat} {v : V} {x y : Rv} {xs : List Rv} {nm : String}
variable {k : D → Prop} {a b : Str} {m p : Int}
instance (priority := 2220) i_w_isN {d : D} : St1 (qIsN d .non k) (k (.bl (isNon d))) := ⟨w_isN⟩
end
section
variable {n : Env → Prop} {rt : D → Env → Prop} {bk ct : Env → Prop} {ex : Exn → Env → Prop} {ρ ρ1 ρ2 : Env} {Q : Rv → Env → Prop} {QT : Bool → Env → Prop} {QA : List Rv → Env → Prop} {QI : List D → Env → Prop} {E : Exn → Env → Prop} {t u tb ts : DS} {te ta : DE} {c tt tv : DT} {tA : DA} {ti : DI} {g : DG} {d d' e : D} {i j : Nat} {v : V} {x y : Rv} {xs : List Rv} {nm : String}
variable {k : D → Prop} {a b : Str} {m p : Int}
instance (priority := 2210) i_w_notN {d : D} : St1 (qNotN d .non k) (k (.bl (!isNon d))) := ⟨w_notN⟩
end
section
variable {n : Env → Prop} {rt : D → Env → Prop} {bk ct : Env → Prop} {ex : Exn → Env → Prop} {ρ ρ1 ρ2 : Env} {Q : Rv → Env → Prop} {QT : Bool → Env → Prop} {QA : List Rv → Env → Prop} {QI : List D → Env → Prop} {E : Exn → Env → Prop} {t u tb ts : DS} {te ta : DE} {c tt tv : DT} {tA : DA} {ti : DI} {g : DG} {d d' e : D} {i j : Nat} {v : V} {x y : Rv} {xs : List Rv} {nm : String}
instance (priority := 2200) i_w_istr  : St1 (dIStr te ρ QI E) (te ρ (fun r ρ1 => isK r ρ1 QI) E) := ⟨w_istr⟩
end
section
variable {n : Env → Prop} {rt : D → Env → Prop} {bk ct : Env → Prop} {ex : Exn → Env → Prop} {ρ ρ1 ρ2 : Env} {Q : Rv → Env → Prop} {QT : Bool → Env → Prop} {QA : List Rv → Env → Prop} {QI : List D → Env → Prop} {E : Exn → Env → Prop} {t u tb ts : DS} {te ta : DE} {c tt tv : DT} {tA : DA} {ti : DI} {g : DG} {d d' e : D} {i j : Nat} {v : V} {x y : Rv} {xs : List Rv} {nm : String}
instance (priority := 2190) i_w_m1 {r : Op2} {tb : DE} : St1 (dM1 r ta tb ρ Q E) (ta ρ (fun x ρ1 => m1K r x ρ1 tb Q E) E) := ⟨w_m1⟩
end
section
variable {n : Env → Prop} {rt : D → Env → Prop} {bk ct : Env → Prop} {ex : Exn → Env → Prop} {ρ ρ1 ρ2 : Env} {Q : Rv → Env → Prop} {QT : Bool → Env → Prop} {QA : List Rv → Env → Prop} {QI : List D → Env → Prop} {E : Exn → Env → Prop} {t u tb ts : DS} {te ta : DE} {c tt tv : DT} {tA : DA} {ti : DI} {g : DG} {d d' e : D} {i j : Nat} {v : V} {x y : Rv} {xs : List Rv} {nm : String}
instance (priority := 2180) i_w_put {T : String} {r : OpM} {ti : DE} : St1 (dPut T i r te ti ⟨n, rt, bk, ct, ex⟩ ρ) (te ρ (fun x ρ1 => puK T i r ti x ρ1 n ex) ex) := ⟨w_put⟩
end
section

instance (priority := 2170) i_w_loopNil {g : DG} {t : DS} {n : Env → Prop} {rt : D → Env → Prop} {bk ct : Env → Prop} {ex : Exn → Env → Prop} {ρ : Env} : St1 (dLoop g t ⟨n, rt, bk, ct, ex⟩ [] ρ) (n ρ) := ⟨w_loopNil⟩
end
section

instance (priority := 2160) i_w_lcNil {g : DG} {tt : DT} {te : DE} {vs : List Nat} {K : List D → Env → Prop} {ρ : Env} {acc : List D} : St1 (dLcL g tt te vs K [] ρ acc) (K acc ρ) := ⟨w_lcNil⟩
end
section
variable {n : Env → Prop} {rt : D → Env → Prop} {bk ct : Env → Prop} {ex : Exn → Env → Prop} {ρ ρ1 ρ2 : Env} {Q : Rv → Env → Prop} {QI : List D → Env → Prop} {E : Exn → Env → Prop} {t tb : DS} {te ta tc tt : DE} {tA : DA} {c : DT} {ti : DI} {g : DG} {gs : DGs} {d d' e : D} {ds es ch ch' : List D} {i j : Nat} {x y z : Rv} {xs : List Rv} {T : String} {m : OpM} {kd k' : Kd} {s : Sl} {res : D} {k : D → Env → Prop} {vs : List Nat}
instance (priority := 2150) i_lw_nil  : St1 (dLoopW g tb vs ⟨n, rt, bk, ct, ex⟩ [] ρ) (n ρ) := ⟨lw_nil⟩
end
section
variable {n : Env → Prop} {rt : D → Env → Prop} {bk ct : Env → Prop} {ex : Exn → Env → Prop} {ρ ρ1 ρ2 : Env} {Q : Rv → Env → Prop} {QI : List D → Env → Prop} {E : Exn → Env → Prop} {t tb : DS} {te ta tc tt : DE} {tA : DA} {c : DT} {ti : DI} {g : DG} {gs : DGs} {d d' e : D} {ds es ch ch' : List D} {i j : Nat} {x y z : Rv} {xs : List Rv} {T : String} {m : OpM} {kd k' : Kd} {s : Sl} {res : D} {k : D → Env → Prop} {vs : List Nat}
instance (priority := 2140) i_w_wipe  : St1 (dThenW t vs ⟨n, rt, bk, ct, ex⟩ ρ) (t ⟨fun ρ1 => wpK ρ1 vs n, rt, bk, ct, ex⟩ ρ) := ⟨w_wipe⟩
end
section
variable {n : Env → Prop} {rt : D → Env → Prop} {bk ct : Env → Prop} {ex : Exn → Env → Prop} {ρ ρ1 ρ2 : Env} {Q : Rv → Env → Prop} {QI : List D → Env → Prop} {E : Exn → Env → Prop} {t tb : DS} {te ta tc tt : DE} {tA : DA} {c : DT} {ti : DI} {g : DG} {gs : DGs} {d d' e : D} {ds es ch ch' : List D} {i j : Nat} {x y z : Rv} {xs : List Rv} {T : String} {m : OpM} {kd k' : Kd} {s : Sl} {res : D} {k : D → Env → Prop} {vs : List Nat}
instance (priority := 2130) i_w_forW  : St1 (dForW ti g tb vs ⟨n, rt, bk, ct, ex⟩ ρ) (ti ρ (fun items ρ1 => wpK ρ1 vs (dLoopW g tb vs ⟨n, rt, bk, ct, ex⟩ items)) ex) := ⟨w_forW⟩
end
section
variable {n : Env → Prop} {rt : D → Env → Prop} {bk ct : Env → Prop} {ex : Exn → Env → Prop} {ρ ρ1 ρ2 : Env} {Q : Rv → Env → Prop} {QI : List D → Env → Prop} {E : Exn → Env → Prop} {t tb : DS} {te ta tc tt : DE} {tA : DA} {c : DT} {ti : DI} {g : DG} {gs : DGs} {d d' e : D} {ds es ch ch' : List D} {i j : Nat} {x y z : Rv} {xs : List Rv} {T : String} {m : OpM} {kd k' : Kd} {s : Sl} {res : D} {k : D → Env → Prop} {vs : List Nat}
variable {α : Type} {inst : Enc α} {xs' : List α} {a : α} {K : Kd → List D → D → Prop} {p : Int} {l : Nat}
instance (priority := 2120) i_m_clrE  : St1 (mClear .lst (xs'.map en) [] K) (K .lst (([] : List α).map en) .non) := ⟨m_clrE⟩
end
section
variable {n : Env → Prop} {rt : D → Env → Prop} {bk ct : Env → Prop} {ex : Exn → Env → Prop} {ρ ρ1 ρ2 : Env} {Q : Rv → Env → Prop} {QI : List D → Env → Prop} {E : Exn → Env → Prop} {t tb : DS} {te ta tc tt : DE} {tA : DA} {c : DT} {ti : DI} {g : DG} {gs : DGs} {d d' e : D} {ds es ch ch' : List D} {i j : Nat} {x y z : Rv} {xs : List Rv} {T : String} {m : OpM} {kd k' : Kd} {s : Sl} {res : D} {k : D → Env → Prop} {vs : List Nat}
variable {κ β : Type} {i0 : DecidableEq κ} {i1 : Enc κ} {i2 : KeyE κ} {i3 : Enc β} {kv : List (κ × β)} {a : κ} {b : β} {K : Kd → List D → D → Prop}
instance (priority := 2110) i_w_newD  : St1 (dNewD ρ Q E) (Q (.t (.n true (.dic []) [])) ρ) := ⟨w_newD⟩
end
section
variable {n : Env → Prop} {rt : D → Env → Prop} {bk ct : Env → Prop} {ex : Exn → Env → Prop} {ρ ρ1 ρ2 : Env} {Q : Rv → Env → Prop} {QI : List D → Env → Prop} {E : Exn → Env → Prop} {t tb : DS} {te ta tc tt : DE} {tA : DA} {c : DT} {ti : DI} {g : DG} {gs : DGs} {d d' e : D} {ds es ch ch' : List D} {i j : Nat} {x y z : Rv} {xs : List Rv} {T : String} {m : OpM} {kd k' : Kd} {s : Sl} {res : D} {k : D → Env → Prop} {vs : List Nat}
variable {κ β : Type} {i0 : DecidableEq κ} {i1 : Enc κ} {i2 : KeyE κ} {i3 : Enc β} {kv : List (κ × β)} {a : κ} {b : β} {K : Kd → List D → D → Prop}
instance (priority := 2100) i_w_get2  : St1 (dGet2 ta tt tc ρ Q E) (ta ρ (fun x ρ1 => isDK x ρ1 (tt ρ1 (fun y ρ2 => tc ρ2 (fun z ρ3 => g2K x y z ρ3 fun d => Q (.t d) ρ3) E) E)) E) := ⟨w_get2⟩
end
section
variable {n : Env → Prop} {rt : D → Env → Prop} {bk ct : Env → Prop} {ex : Exn → Env → Prop} {ρ ρ1 ρ2 : Env} {Q : Rv → Env → Prop} {QI : List D → Env → Prop} {E : Exn → Env → Prop} {t tb : DS} {te ta tc tt : DE} {tA : DA} {c : DT} {ti : DI} {g : DG} {gs : DGs} {d d' e : D} {ds es ch ch' : List D} {i j : Nat} {x y z : Rv} {xs : List Rv} {T : String} {m : OpM} {kd k' : Kd} {s : Sl} {res : D} {k : D → Env → Prop} {vs : List Nat}
instance (priority := 2070) i_w_disp {ks : List Str} : St1 (dDisp ks tA ρ Q E) (tA ρ (fun rs ρ1 => dpK ks rs ρ1 fun d ρ2 => Q (.t d) ρ2) E) := ⟨w_disp⟩
end
section
variable {n : Env → Prop} {rt : D → Env → Prop} {bk ct : Env → Prop} {ex : Exn → Env → Prop} {ρ ρ1 ρ2 : Env} {Q : Rv → Env → Prop} {QI : List D → Env → Prop} {E : Exn → Env → Prop} {t tb : DS} {te ta tc tt : DE} {tA : DA} {c : DT} {ti : DI} {g : DG} {gs : DGs} {d d' e : D} {ds es ch ch' : List D} {i j : Nat} {x y z : Rv} {xs : List Rv} {T : String} {m : OpM} {kd k' : Kd} {s : Sl} {res : D} {k : D → Env → Prop} {vs : List Nat}
instance (priority := 2060) i_w_dsN {QA : List Rv → Env → Prop} : St1 (dDs [] ρ QA E) (dNil ρ QA E) := ⟨w_dsN⟩
end
section
variable {n : Env → Prop} {rt : D → Env → Prop} {bk ct : Env → Prop} {ex : Exn → Env → Prop} {ρ ρ1 ρ2 : Env} {Q : Rv → Env → Prop} {QI : List D → Env → Prop} {E : Exn → Env → Prop} {t tb : DS} {te ta tc tt : DE} {tA : DA} {c : DT} {ti : DI} {g : DG} {gs : DGs} {d d' e : D} {ds es ch ch' : List D} {i j : Nat} {x y z : Rv} {xs : List Rv} {T : String} {m : OpM} {kd k' : Kd} {s : Sl} {res : D} {k : D → Env → Prop} {vs : List Nat}
instance (priority := 2050) i_w_dsC {QA : List Rv → Env → Prop} {ts : List DE} : St1 (dDs (te :: ts) ρ QA E) (dCons te (dDs ts) ρ QA E) := ⟨w_dsC⟩
end
section
variable {n : Env → Prop} {rt : D → Env → Prop} {bk ct : Env → Prop} {ex : Exn → Env → Prop} {ρ ρ1 ρ2 : Env} {Q : Rv → Env → Prop} {QI : List D → Env → Prop} {E : Exn → Env → Prop} {t tb : DS} {te ta tc tt : DE} {tA : DA} {c : DT} {ti : DI} {g : DG} {gs : DGs} {d d' e : D} {ds es ch ch' : List D} {i j : Nat} {x y z : Rv} {xs : List Rv} {T : String} {m : OpM} {kd k' : Kd} {s : Sl} {res : D} {k : D → Env → Prop} {vs : List Nat}
instance (priority := 2040) i_w_gnil {q : Env → Prop} : St1 (dGNil [] ρ q) (q ρ) := ⟨w_gnil⟩
end
section
variable {n : Env → Prop} {rt : D → Env → Prop} {bk ct : Env → Prop} {ex : Exn → Env → Prop} {ρ ρ1 ρ2 : Env} {Q : Rv → Env → Prop} {QI : List D → Env → Prop} {E : Exn → Env → Prop} {t tb : DS} {te ta tc tt : DE} {tA : DA} {c : DT} {ti : DI} {g : DG} {gs : DGs} {d d' e : D} {ds es ch ch' : List D} {i j : Nat} {x y z : Rv} {xs : List Rv} {T : String} {m : OpM} {kd k' : Kd} {s : Sl} {res : D} {k : D → Env → Prop} {vs : List Nat}
instance (priority := 2030) i_w_gcons {q : Env → Prop} : St1 (dGCons g gs (d :: ds) ρ q) (g (.t d) ρ fun ρ1 => gs ds ρ1 q) := ⟨w_gcons⟩
end
section
variable {n : Env → Prop} {rt : D → Env → Prop} {bk ct : Env → Prop} {ex : Exn → Env → Prop} {ρ ρ1 ρ2 : Env} {Q : Rv → Env → Prop} {QI : List D → Env → Prop} {E : Exn → Env → Prop} {t tb : DS} {te ta tc tt : DE} {tA : DA} {c : DT} {ti : DI} {g : DG} {gs : DGs} {d d' e : D} {ds es ch ch' : List D} {i j : Nat} {x y z : Rv} {xs : List Rv} {T : String} {m : OpM} {kd k' : Kd} {s : Sl} {res : D} {k : D → Env → Prop} {vs : List Nat}
instance (priority := 2020) i_w_gsub {q : Env → Prop} : St1 (dGSub T i m te x ρ q) (gsK T i ρ (te ρ (fun y ρ1 => mutK i m [y, x] ρ1 q) (fun _ _ => False))) := ⟨w_gsub⟩
end
section
variable {n : Env → Prop} {rt : D → Env → Prop} {bk ct : Env → Prop} {ex : Exn → Env → Prop} {ρ ρ1 ρ2 : Env} {Q : Rv → Env → Prop} {QI : List D → Env → Prop} {E : Exn → Env → Prop} {t tb : DS} {te ta tc tt : DE} {tA : DA} {c : DT} {ti : DI} {g : DG} {gs : DGs} {d d' e : D} {ds es ch ch' : List D} {i j : Nat} {x y z : Rv} {xs : List Rv} {T : String} {m : OpM} {kd k' : Kd} {s : Sl} {res : D} {k : D → Env → Prop} {vs : List Nat}
instance (priority := 2010) i_w_zip  : St1 (dIZip tA ρ QI E) (tA ρ (fun rs ρ1 => zK rs ρ1 QI) E) := ⟨w_zip⟩
end
section
variable {ρ ρ2 : Env} {tA : DA} {QI : List D → Env → Prop} {E : Exn → Env → Prop} {xs : List Rv} {d e : D}
instance (priority := 2000) i_w_zipA  : St1 (dIZipA tA ρ QI E) (tA ρ (fun rs ρ1 => zAK rs ρ1 QI) E) := ⟨w_zipA⟩
end
section
variable {ρ ρ2 : Env} {tA : DA} {QI : List D → Env → Prop} {E : Exn → Env → Prop} {xs : List Rv} {d e : D}
instance (priority := 1990) i_w_ez  : St1 (dIEZ tA ρ QI E) (tA ρ (fun rs ρ1 => ezK rs ρ1 QI) E) := ⟨w_ez⟩
end
section
variable {ρ : Env} {ta tb : DE} {Q : Rv → Env → Prop} {E : Exn → Env → Prop} {x y : Rv}
instance (priority := 1980) i_w_lrg1  : St1 (dLRg1 ta ρ Q E) (ta ρ (fun x ρ1 => lr1K x ρ1 Q) E) := ⟨w_lrg1⟩
end
section
variable {ρ : Env} {ta tb : DE} {Q : Rv → Env → Prop} {E : Exn → Env → Prop} {x y : Rv}
instance (priority := 1970) i_w_lrg2  : St1 (dLRg2 ta tb ρ Q E) (ta ρ (fun x ρ1 => tb ρ1 (fun y ρ2 => lr2K x y ρ2 Q) E) E) := ⟨w_lrg2⟩
end
section
variable {n : Env → Prop} {rt : D → Env → Prop} {bk ct : Env → Prop} {ex : Exn → Env → Prop} {ρ ρ1 ρ2 : Env} {Q : Rv → Env → Prop} {QI : List D → Env → Prop} {E : Exn → Env → Prop} {t tb : DS} {te ta tc tt : DE} {tA : DA} {c : DT} {ti : DI} {g : DG} {gs : DGs} {d d' e : D} {ds es ch ch' : List D} {i j : Nat} {x y z : Rv} {xs : List Rv} {T : String} {m : OpM} {kd k' : Kd} {s : Sl} {res : D} {k : D → Env → Prop} {vs : List Nat}
instance (priority := 1960) i_w_enum  : St1 (dIEnum tA ρ QI E) (tA ρ (fun rs ρ1 => enK rs ρ1 QI) E) := ⟨w_enum⟩
end
section
variable {n : Env → Prop} {rt : D → Env → Prop} {bk ct : Env → Prop} {ex : Exn → Env → Prop} {ρ ρ1 ρ2 : Env} {Q : Rv → Env → Prop} {QI : List D → Env → Prop} {E : Exn → Env → Prop} {t tb : DS} {te ta tc tt : DE} {tA : DA} {c : DT} {ti : DI} {g : DG} {gs : DGs} {d d' e : D} {ds es ch ch' : List D} {i j : Nat} {x y z : Rv} {xs : List Rv} {T : String} {m : OpM} {kd k' : Kd} {s : Sl} {res : D} {k : D → Env → Prop} {vs : List Nat}
instance (priority := 1950) i_w_js {ts : List DE} : St1 (dJs ts ρ Q E) (dJl ts Str.empty ρ (fun out ρ1 => Q (.t (.p (.str out))) ρ1) E) := ⟨w_js⟩
end
section
variable {n : Env → Prop} {rt : D → Env → Prop} {bk ct : Env → Prop} {ex : Exn → Env → Prop} {ρ ρ1 ρ2 : Env} {Q : Rv → Env → Prop} {QI : List D → Env → Prop} {E : Exn → Env → Prop} {t tb : DS} {te ta tc tt : DE} {tA : DA} {c : DT} {ti : DI} {g : DG} {gs : DGs} {d d' e : D} {ds es ch ch' : List D} {i j : Nat} {x y z : Rv} {xs : List Rv} {T : String} {m : OpM} {kd k' : Kd} {s : Sl} {res : D} {k : D → Env → Prop} {vs : List Nat}
instance (priority := 1940) i_w_jlN {acc : Str} {q : Str → Env → Prop} : St1 (dJl [] acc ρ q E) (q acc ρ) := ⟨w_jlN⟩
end
section
variable {n : Env → Prop} {rt : D → Env → Prop} {bk ct : Env → Prop} {ex : Exn → Env → Prop} {ρ ρ1 ρ2 : Env} {Q : Rv → Env → Prop} {QI : List D → Env → Prop} {E : Exn → Env → Prop} {t tb : DS} {te ta tc tt : DE} {tA : DA} {c : DT} {ti : DI} {g : DG} {gs : DGs} {d d' e : D} {ds es ch ch' : List D} {i j : Nat} {x y z : Rv} {xs : List Rv} {T : String} {m : OpM} {kd k' : Kd} {s : Sl} {res : D} {k : D → Env → Prop} {vs : List Nat}
instance (priority := 1930) i_w_jlC {ts : List DE} {acc : Str} {q : Str → Env → Prop} : St1 (dJl (te :: ts) acc ρ q E) (te ρ (fun r ρ1 => jlK ts acc r ρ1 q E) E) := ⟨w_jlC⟩
end
section
variable {n : Env → Prop} {rt : D → Env → Prop} {bk ct : Env → Prop} {ex : Exn → Env → Prop} {ρ ρ1 ρ2 : Env} {Q : Rv → Env → Prop} {QI : List D → Env → Prop} {E : Exn → Env → Prop} {t tb : DS} {te ta tc tt : DE} {tA : DA} {c : DT} {ti : DI} {g : DG} {gs : DGs} {d d' e : D} {ds es ch ch' : List D} {i j : Nat} {x y z : Rv} {xs : List Rv} {T : String} {m : OpM} {kd k' : Kd} {s : Sl} {res : D} {k : D → Env → Prop} {vs : List Nat}
instance (priority := 1920) i_w_fmt  : St1 (dFmt te ρ Q E) (te ρ (fun r ρ1 => fmK r ρ1 Q) E) := ⟨w_fmt⟩
end
section
variable {n : Env → Prop} {rt : D → Env → Prop} {bk ct : Env → Prop} {ex : Exn → Env → Prop} {ρ ρ1 ρ2 : Env} {Q : Rv → Env → Prop} {QI : List D → Env → Prop} {E : Exn → Env → Prop} {t tb : DS} {te ta tc tt : DE} {tA : DA} {c : DT} {ti : DI} {g : DG} {gs : DGs} {d d' e : D} {ds es ch ch' : List D} {i j : Nat} {x y z : Rv} {xs : List Rv} {T : String} {m : OpM} {kd k' : Kd} {s : Sl} {res : D} {k : D → Env → Prop} {vs : List Nat}
instance (priority := 1910) i_w_bm1 {r : Op2} : St1 (dBM1 T r ta tt ρ Q E) (ta ρ (fun x ρ1 => bmK T x ρ1 (tt ρ1 (fun y ρ2 => opK r x y ρ2 fun z => Q (.t z) ρ2) E)) E) := ⟨w_bm1⟩
end
section
variable {ρ ρ2 : Env} {Q : Rv → Env → Prop} {E : Exn → Env → Prop} {t : DA} {xs : List Rv}
instance (priority := 1900) i_w_disp1  : St1 (dDisp1 t ρ Q E) (t ρ (fun rs ρ1 => dp1K rs ρ1 Q) E) := ⟨w_disp1⟩
end
section
variable {ρ : Env} {gs : DGs} {q : Env → Prop}
instance s_gt2 {α β : Type} [Enc α] [Enc β] {a : α} {b : β} : St1 (dGTup 2 gs (.t (en (a, b))) ρ q) (gs [en a, en b] ρ q) := ⟨fun h => w_gtT (d' := en (a, b)) (Frz.h (d := en (a, b))) rfl rfl h⟩
instance s_gt3 {α β γ : Type} [Enc α] [Enc β] [Enc γ] {a : α} {b : β} {c : γ} : St1 (dGTup 3 gs (.t (en (T3.mk a b c))) ρ q) (gs [en a, en b, en c] ρ q) := ⟨fun h => w_gtT (d' := en (T3.mk a b c)) (Frz.h (d := en (T3.mk a b c))) rfl rfl h⟩
end
/-! ### the rest by groups -/
class Al0 (p : Prop) : Prop where
  go : p → p
instance al_ixK {a0 a1 a2 a3} : Al0 (ixK a0 a1 a2 a3) := ⟨fun z => z⟩
instance al_fdK {a0 a1 a2 a3 a4} : Al0 (fdK a0 a1 a2 a3 a4) := ⟨fun z => z⟩
instance al_rfK {a0 a1 a2 a3 a4} : Al0 (rfK a0 a1 a2 a3 a4) := ⟨fun z => z⟩
instance al_tyK {a0 a1 a2 a3 a4 a5 a6} : Al0 (tyK a0 a1 a2 a3 a4 a5 a6) := ⟨fun z => z⟩
instance al_upK {a0 a1 a2 a3 a4} : Al0 (upK a0 a1 a2 a3 a4) := ⟨fun z => z⟩
instance al_qRepL {a0 a1 a2} : Al0 (qRepL a0 a1 a2) := ⟨fun z => z⟩
instance al_dVar {a0 a1 a2 a3} : Al0 (dVar a0 a1 a2 a3) := ⟨fun z => z⟩
instance al_opK {a0 a1 a2 a3 a4} : Al0 (opK a0 a1 a2 a3 a4) := ⟨fun z => z⟩
instance al_dName {a0 a1 a2 a3} : Al0 (dName a0 a1 a2 a3) := ⟨fun z => z⟩
class Al1 (p : Prop) : Prop where
  go : p → p
instance al_cbK {a0 a1 a2 a3} : Al1 (cbK a0 a1 a2 a3) := ⟨fun z => z⟩
instance al_mkK {a0 a1 a2} : Al1 (mkK a0 a1 a2) := ⟨fun z => z⟩
instance al_itK {a0 a1 a2} : Al1 (itK a0 a1 a2) := ⟨fun z => z⟩
instance al_lcK {a0 a1 a2} : Al1 (lcK a0 a1 a2) := ⟨fun z => z⟩
instance al_lcA {a0 a1 a2 a3 a4} : Al1 (lcA a0 a1 a2 a3 a4) := ⟨fun z => z⟩
instance al_retK {a0 a1 a2} : Al1 (retK a0 a1 a2) := ⟨fun z => z⟩
class Al2 (p : Prop) : Prop where
  go : p → p
instance al_dMv {a0 a1 a2 a3} : Al2 (dMv a0 a1 a2 a3) := ⟨fun z => z⟩
instance al_unK {a0 a1 a2 a3} : Al2 (unK a0 a1 a2 a3) := ⟨fun z => z⟩
instance al_blK {a0 a1 a2} : Al2 (blK a0 a1 a2) := ⟨fun z => z⟩
instance al_chK {a0 a1 a2 a3 a4 a5 a6 a7} : Al2 (chK a0 a1 a2 a3 a4 a5 a6 a7) := ⟨fun z => z⟩
instance al_qAdd {a0 a1 a2} : Al2 (qAdd a0 a1 a2) := ⟨fun z => z⟩
instance al_qMod {a0 a1 a2} : Al2 (qMod a0 a1 a2) := ⟨fun z => z⟩
instance al_qDiv {a0 a1 a2} : Al2 (qDiv a0 a1 a2) := ⟨fun z => z⟩
instance al_qEq {a0 a1 a2} : Al2 (qEq a0 a1 a2) := ⟨fun z => z⟩
instance al_qNe {a0 a1 a2} : Al2 (qNe a0 a1 a2) := ⟨fun z => z⟩
class Al3 (p : Prop) : Prop where
  go : p → p
instance al_qInS {a0 a1 a2 a3} : Al3 (qInS a0 a1 a2 a3) := ⟨fun z => z⟩
instance al_caK {a0 a1 a2 a3} : Al3 (caK a0 a1 a2 a3) := ⟨fun z => z⟩
instance al_baK {a0 a1 a2 a3 a4 a5} : Al3 (baK a0 a1 a2 a3 a4 a5) := ⟨fun z => z⟩
instance al_kwK {a0 a1 a2} : Al3 (kwK a0 a1 a2) := ⟨fun z => z⟩
instance al_qList {a0 a1} : Al3 (qList a0 a1) := ⟨fun z => z⟩
class Al4 (p : Prop) : Prop where
  go : p → p
instance al_qLen {a0 a1} : Al4 (qLen a0 a1) := ⟨fun z => z⟩
instance al_qAll {a0 a1} : Al4 (qAll a0 a1) := ⟨fun z => z⟩
instance al_qAny {a0 a1} : Al4 (qAny a0 a1) := ⟨fun z => z⟩
instance al_qIsi {a0 a1} : Al4 (qIsi a0 a1) := ⟨fun z => z⟩
instance al_qSortI {a0 a1} : Al4 (qSortI a0 a1) := ⟨fun z => z⟩
instance al_rg1K {a0 a1 a2} : Al4 (rg1K a0 a1 a2) := ⟨fun z => z⟩
instance al_rg2K {a0 a1 a2} : Al4 (rg2K a0 a1 a2) := ⟨fun z => z⟩
instance al_dMut {a0 a1 a2 a3 a4 a5 a6} : Al4 (dMut a0 a1 a2 a3 a4 a5 a6) := ⟨fun z => z⟩
instance al_mu2K {a0 a1 a2 a3 a4} : Al4 (mu2K a0 a1 a2 a3 a4) := ⟨fun z => z⟩
class Al5 (p : Prop) : Prop where
  go : p → p
instance al_ptK {a0 a1 a2} : Al5 (ptK a0 a1 a2) := ⟨fun z => z⟩
instance al_cutK {a0 a1 a2 a3 a4} : Al5 (cutK a0 a1 a2 a3 a4) := ⟨fun z => z⟩
instance al_qUpper {a0 a1} : Al5 (qUpper a0 a1) := ⟨fun z => z⟩
instance al_qRevT {a0 a1} : Al5 (qRevT a0 a1) := ⟨fun z => z⟩
instance al_fzK {a0 a1 a2} : Al5 (fzK a0 a1 a2) := ⟨fun z => z⟩
instance al_qStr1 {a0 a1} : Al5 (qStr1 a0 a1) := ⟨fun z => z⟩
instance al_trK {a0 a1 a2 a3 a4} : Al5 (trK a0 a1 a2 a3 a4) := ⟨fun z => z⟩
instance al_dAugI {a0 a1 a2 a3} : Al5 (dAugI a0 a1 a2 a3) := ⟨fun z => z⟩
instance al_agK {a0 a1 a2 a3} : Al5 (agK a0 a1 a2 a3) := ⟨fun z => z⟩
class Al6 (p : Prop) : Prop where
  go : p → p
instance al_qMulS {a0 a1 a2} : Al6 (qMulS a0 a1 a2) := ⟨fun z => z⟩
instance al_qPow {a0 a1 a2} : Al6 (qPow a0 a1 a2) := ⟨fun z => z⟩
instance al_isK {a0 a1 a2} : Al6 (isK a0 a1 a2) := ⟨fun z => z⟩
instance al_m1K {a0 a1 a2 a3 a4 a5} : Al6 (m1K a0 a1 a2 a3 a4 a5) := ⟨fun z => z⟩
instance al_puK {a0 a1 a2 a3 a4 a5 a6 a7} : Al6 (puK a0 a1 a2 a3 a4 a5 a6 a7) := ⟨fun z => z⟩
instance al_wpK {a0 a1 a2} : Al6 (wpK a0 a1 a2) := ⟨fun z => z⟩
instance al_dForC {a0 a1 a2 a3 a4 a5} : Al6 (dForC a0 a1 a2 a3 a4 a5) := ⟨fun z => z⟩
instance al_muE {a0 a1 a2 a3 a4 a5 a6} : Al6 (muE a0 a1 a2 a3 a4 a5 a6) := ⟨fun z => z⟩
instance al_mbE {a0 a1 a2 a3 a4 a5 a6 a7 a8} : Al6 (mbE a0 a1 a2 a3 a4 a5 a6 a7 a8) := ⟨fun z => z⟩
instance al_mAppend {a0 a1 a2 a3} : Al6 (mAppend a0 a1 a2 a3) := ⟨fun z => z⟩
class Al7 (p : Prop) : Prop where
  go : p → p
instance al_mInsert {a0 a1 a2 a3} : Al7 (mInsert a0 a1 a2 a3) := ⟨fun z => z⟩
instance al_mExtend {a0 a1 a2 a3} : Al7 (mExtend a0 a1 a2 a3) := ⟨fun z => z⟩
instance al_mPutD {a0 a1 a2 a3} : Al7 (mPutD a0 a1 a2 a3) := ⟨fun z => z⟩
instance al_muB {a0 a1 a2 a3 a4} : Al7 (muB a0 a1 a2 a3 a4) := ⟨fun z => z⟩
instance al_dMutB {a0 a1 a2 a3 a4 a5 a6} : Al7 (dMutB a0 a1 a2 a3 a4 a5 a6) := ⟨fun z => z⟩
instance al_isDK {a0 a1 a2} : Al7 (isDK a0 a1 a2) := ⟨fun z => z⟩
instance al_g2K {a0 a1 a2 a3 a4} : Al7 (g2K a0 a1 a2 a3 a4) := ⟨fun z => z⟩
instance al_dpK {a0 a1 a2 a3} : Al7 (dpK a0 a1 a2 a3) := ⟨fun z => z⟩
instance al_dGTup {a0 a1 a2 a3 a4} : Al7 (dGTup a0 a1 a2 a3 a4) := ⟨fun z => z⟩
instance al_gsK {a0 a1 a2 a3} : Al7 (gsK a0 a1 a2 a3) := ⟨fun z => z⟩
instance al_zK {a0 a1 a2} : Al7 (zK a0 a1 a2) := ⟨fun z => z⟩
class Al8 (p : Prop) : Prop where
  go : p → p
instance al_ezK {a0 a1 a2} : Al8 (ezK a0 a1 a2) := ⟨fun z => z⟩
instance al_lr1K {a0 a1 a2} : Al8 (lr1K a0 a1 a2) := ⟨fun z => z⟩
instance al_lr2K {a0 a1 a2 a3} : Al8 (lr2K a0 a1 a2 a3) := ⟨fun z => z⟩
instance al_enK {a0 a1 a2} : Al8 (enK a0 a1 a2) := ⟨fun z => z⟩
instance al_jlK {a0 a1 a2 a3 a4 a5} : Al8 (jlK a0 a1 a2 a3 a4 a5) := ⟨fun z => z⟩
instance al_fmK {a0 a1 a2} : Al8 (fmK a0 a1 a2) := ⟨fun z => z⟩
instance al_bmK {a0 a1 a2 a3} : Al8 (bmK a0 a1 a2 a3) := ⟨fun z => z⟩
instance al_dLend {a0 a1 a2 a3} : Al8 (dLend a0 a1 a2 a3) := ⟨fun z => z⟩
instance al_ldK {a0 a1 a2} : Al8 (ldK a0 a1 a2) := ⟨fun z => z⟩
instance al_dFzS {a0 a1 a2 a3} : Al8 (dFzS a0 a1 a2 a3) := ⟨fun z => z⟩
instance al_dp1K {a0 a1 a2} : Al8 (dp1K a0 a1 a2) := ⟨fun z => z⟩
class Al9 (p : Prop) : Prop where
  go : p → p
instance al_dFrz {a0 a1 a2 a3} : Al9 (dFrz a0 a1 a2 a3) := ⟨fun z => z⟩
class Al10 (p : Prop) : Prop where
  go : p → p
instance al_dAsg {a0 a1 a2 a3} : Al10 (dAsg a0 a1 a2 a3) := ⟨fun z => z⟩
instance al_dNext {a0 a1} : Al10 (dNext a0 a1) := ⟨fun z => z⟩
instance al_dDrop {a0 a1 a2} : Al10 (dDrop a0 a1 a2) := ⟨fun z => z⟩
instance al_dRet {a0 a1 a2} : Al10 (dRet a0 a1 a2) := ⟨fun z => z⟩
instance al_dRetN {a0 a1} : Al10 (dRetN a0 a1) := ⟨fun z => z⟩
instance al_dIfS {a0 a1 a2 a3 a4} : Al10 (dIfS a0 a1 a2 a3 a4) := ⟨fun z => z⟩
instance al_dFor {a0 a1 a2 a3 a4} : Al10 (dFor a0 a1 a2 a3 a4) := ⟨fun z => z⟩
instance al_dBreak {a0 a1} : Al10 (dBreak a0 a1) := ⟨fun z => z⟩
instance al_dCont {a0 a1} : Al10 (dCont a0 a1) := ⟨fun z => z⟩
instance al_dIsX {a0 a1 a2 a3 a4} : Al10 (dIsX a0 a1 a2 a3 a4) := ⟨fun z => z⟩
instance al_dFld {a0 a1 a2 a3 a4 a5} : Al10 (dFld a0 a1 a2 a3 a4 a5) := ⟨fun z => z⟩
instance al_dRaiseF {a0 a1 a2 a3 a4} : Al10 (dRaiseF a0 a1 a2 a3 a4) := ⟨fun z => z⟩
instance al_dTryK {a0 a1 a2 a3 a4 a5} : Al10 (dTryK a0 a1 a2 a3 a4 a5) := ⟨fun z => z⟩
instance al_dUnp {a0 a1 a2 a3 a4} : Al10 (dUnp a0 a1 a2 a3 a4) := ⟨fun z => z⟩
instance al_dC {a0 a1 a2 a3} : Al10 (dC a0 a1 a2 a3) := ⟨fun z => z⟩
instance al_dOp {a0 a1 a2 a3 a4 a5} : Al10 (dOp a0 a1 a2 a3 a4 a5) := ⟨fun z => z⟩
instance al_dNil {a0 a1 a2} : Al10 (dNil a0 a1 a2) := ⟨fun z => z⟩
instance al_dCons {a0 a1 a2 a3 a4} : Al10 (dCons a0 a1 a2 a3 a4) := ⟨fun z => z⟩
instance al_dCB {a0 a1 a2 a3 a4} : Al10 (dCB a0 a1 a2 a3 a4) := ⟨fun z => z⟩
instance al_dLst {a0 a1 a2 a3} : Al10 (dLst a0 a1 a2 a3) := ⟨fun z => z⟩
instance al_dTup {a0 a1 a2 a3} : Al10 (dTup a0 a1 a2 a3) := ⟨fun z => z⟩
instance al_dISeq {a0 a1 a2 a3} : Al10 (dISeq a0 a1 a2 a3) := ⟨fun z => z⟩
instance al_dLc {a0 a1 a2 a3 a4 a5 a6 a7} : Al10 (dLc a0 a1 a2 a3 a4 a5 a6 a7) := ⟨fun z => z⟩
class Al11 (p : Prop) : Prop where
  go : p → p
instance al_dLcX {a0 a1 a2 a3 a4 a5 a6 a7} : Al11 (dLcX a0 a1 a2 a3 a4 a5 a6 a7) := ⟨fun z => z⟩
instance al_dTrue {a0 a1 a2} : Al11 (dTrue a0 a1 a2) := ⟨fun z => z⟩
instance al_dUn {a0 a1 a2 a3 a4} : Al11 (dUn a0 a1 a2 a3 a4) := ⟨fun z => z⟩
instance al_dTst {a0 a1 a2 a3} : Al11 (dTst a0 a1 a2 a3) := ⟨fun z => z⟩
instance al_dAnd {a0 a1 a2 a3 a4} : Al11 (dAnd a0 a1 a2 a3 a4) := ⟨fun z => z⟩
instance al_dOr {a0 a1 a2 a3 a4} : Al11 (dOr a0 a1 a2 a3 a4) := ⟨fun z => z⟩
instance al_dNot {a0 a1 a2 a3} : Al11 (dNot a0 a1 a2 a3) := ⟨fun z => z⟩
instance al_dAndV {a0 a1 a2 a3 a4} : Al11 (dAndV a0 a1 a2 a3 a4) := ⟨fun z => z⟩
instance al_dOrV {a0 a1 a2 a3 a4} : Al11 (dOrV a0 a1 a2 a3 a4) := ⟨fun z => z⟩
instance al_dNotV {a0 a1 a2 a3} : Al11 (dNotV a0 a1 a2 a3) := ⟨fun z => z⟩
instance al_dIf {a0 a1 a2 a3 a4 a5} : Al11 (dIf a0 a1 a2 a3 a4 a5) := ⟨fun z => z⟩
instance al_dChain {a0 a1 a2 a3 a4 a5 a6 a7} : Al11 (dChain a0 a1 a2 a3 a4 a5 a6 a7) := ⟨fun z => z⟩
instance al_isB {a0 a1} : Al11 (isB a0 a1) := ⟨fun z => z⟩
instance al_qSub {a0 a1 a2} : Al11 (qSub a0 a1 a2) := ⟨fun z => z⟩
instance al_qNeg {a0 a1} : Al11 (qNeg a0 a1) := ⟨fun z => z⟩
instance al_qLt {a0 a1 a2} : Al11 (qLt a0 a1 a2) := ⟨fun z => z⟩
instance al_qLe {a0 a1 a2} : Al11 (qLe a0 a1 a2) := ⟨fun z => z⟩
instance al_qGt {a0 a1 a2} : Al11 (qGt a0 a1 a2) := ⟨fun z => z⟩
instance al_qGe {a0 a1 a2} : Al11 (qGe a0 a1 a2) := ⟨fun z => z⟩
instance al_dCall {a0 a1 a2 a3 a4 a5} : Al11 (dCall a0 a1 a2 a3 a4 a5) := ⟨fun z => z⟩
instance al_dCallK {a0 a1 a2 a3 a4 a5 a6} : Al11 (dCallK a0 a1 a2 a3 a4 a5 a6) := ⟨fun z => z⟩
class Al12 (p : Prop) : Prop where
  go : p → p
instance al_dIRng1 {a0 a1 a2 a3} : Al12 (dIRng1 a0 a1 a2 a3) := ⟨fun z => z⟩
instance al_dIRng2 {a0 a1 a2 a3} : Al12 (dIRng2 a0 a1 a2 a3) := ⟨fun z => z⟩
instance al_dCut {a0 a1 a2 a3 a4 a5} : Al12 (dCut a0 a1 a2 a3 a4 a5) := ⟨fun z => z⟩
instance al_dPart {a0 a1 a2 a3} : Al12 (dPart a0 a1 a2 a3) := ⟨fun z => z⟩
instance al_dNoPart {a0 a1 a2} : Al12 (dNoPart a0 a1 a2) := ⟨fun z => z⟩
instance al_dFz {a0 a1 a2 a3} : Al12 (dFz a0 a1 a2 a3) := ⟨fun z => z⟩
instance al_dK {a0 a1 a2 a3} : Al12 (dK a0 a1 a2 a3) := ⟨fun z => z⟩
instance al_dRaise {a0 a1 a2} : Al12 (dRaise a0 a1 a2) := ⟨fun z => z⟩
instance al_dTry {a0 a1 a2 a3 a4} : Al12 (dTry a0 a1 a2 a3 a4) := ⟨fun z => z⟩
instance al_qInt {a0 a1} : Al12 (qInt a0 a1) := ⟨fun z => z⟩
instance al_qIsdigit {a0 a1} : Al12 (qIsdigit a0 a1) := ⟨fun z => z⟩
instance al_qIsalpha {a0 a1} : Al12 (qIsalpha a0 a1) := ⟨fun z => z⟩
instance al_qIsN {a0 a1 a2} : Al12 (qIsN a0 a1 a2) := ⟨fun z => z⟩
instance al_qNotN {a0 a1 a2} : Al12 (qNotN a0 a1 a2) := ⟨fun z => z⟩
instance al_dIStr {a0 a1 a2 a3} : Al12 (dIStr a0 a1 a2 a3) := ⟨fun z => z⟩
instance al_dM1 {a0 a1 a2 a3 a4 a5} : Al12 (dM1 a0 a1 a2 a3 a4 a5) := ⟨fun z => z⟩
instance al_dPut {a0 a1 a2 a3 a4 a5 a6} : Al12 (dPut a0 a1 a2 a3 a4 a5 a6) := ⟨fun z => z⟩
instance al_dLoop {a0 a1 a2 a3 a4} : Al12 (dLoop a0 a1 a2 a3 a4) := ⟨fun z => z⟩
instance al_dLcL {a0 a1 a2 a3 a4 a5 a6 a7} : Al12 (dLcL a0 a1 a2 a3 a4 a5 a6 a7) := ⟨fun z => z⟩
instance al_dLoopW {a0 a1 a2 a3 a4 a5} : Al12 (dLoopW a0 a1 a2 a3 a4 a5) := ⟨fun z => z⟩
instance al_dThenW {a0 a1 a2 a3} : Al12 (dThenW a0 a1 a2 a3) := ⟨fun z => z⟩
class Al13 (p : Prop) : Prop where
  go : p → p
instance al_dForW {a0 a1 a2 a3 a4 a5} : Al13 (dForW a0 a1 a2 a3 a4 a5) := ⟨fun z => z⟩
instance al_mClear {a0 a1 a2 a3} : Al13 (mClear a0 a1 a2 a3) := ⟨fun z => z⟩
instance al_dNewD {a0 a1 a2} : Al13 (dNewD a0 a1 a2) := ⟨fun z => z⟩
instance al_dGet2 {a0 a1 a2 a3 a4 a5} : Al13 (dGet2 a0 a1 a2 a3 a4 a5) := ⟨fun z => z⟩
instance al_dDisp {a0 a1 a2 a3 a4} : Al13 (dDisp a0 a1 a2 a3 a4) := ⟨fun z => z⟩
instance al_dDs {a0 a1 a2 a3} : Al13 (dDs a0 a1 a2 a3) := ⟨fun z => z⟩
instance al_dGNil {a0 a1 a2} : Al13 (dGNil a0 a1 a2) := ⟨fun z => z⟩
instance al_dGCons {a0 a1 a2 a3 a4} : Al13 (dGCons a0 a1 a2 a3 a4) := ⟨fun z => z⟩
instance al_dGSub {a0 a1 a2 a3 a4 a5 a6} : Al13 (dGSub a0 a1 a2 a3 a4 a5 a6) := ⟨fun z => z⟩
instance al_dIZip {a0 a1 a2 a3} : Al13 (dIZip a0 a1 a2 a3) := ⟨fun z => z⟩
instance al_dIZipA {a0 a1 a2 a3} : Al13 (dIZipA a0 a1 a2 a3) := ⟨fun z => z⟩
instance al_dIEZ {a0 a1 a2 a3} : Al13 (dIEZ a0 a1 a2 a3) := ⟨fun z => z⟩
instance al_dLRg1 {a0 a1 a2 a3} : Al13 (dLRg1 a0 a1 a2 a3) := ⟨fun z => z⟩
instance al_dLRg2 {a0 a1 a2 a3 a4} : Al13 (dLRg2 a0 a1 a2 a3 a4) := ⟨fun z => z⟩
instance al_dIEnum {a0 a1 a2 a3} : Al13 (dIEnum a0 a1 a2 a3) := ⟨fun z => z⟩
instance al_dJs {a0 a1 a2 a3} : Al13 (dJs a0 a1 a2 a3) := ⟨fun z => z⟩
instance al_dJl {a0 a1 a2 a3 a4} : Al13 (dJl a0 a1 a2 a3 a4) := ⟨fun z => z⟩
instance al_dFmt {a0 a1 a2 a3} : Al13 (dFmt a0 a1 a2 a3) := ⟨fun z => z⟩
instance al_dBM1 {a0 a1 a2 a3 a4 a5 a6} : Al13 (dBM1 a0 a1 a2 a3 a4 a5 a6) := ⟨fun z => z⟩
instance al_dDisp1 {a0 a1 a2 a3} : Al13 (dDisp1 a0 a1 a2 a3) := ⟨fun z => z⟩
end DL
/-! DL46: list(d.items()). -/
namespace DL
open PySem L2
open Enc (en)
def itsD (ks : List Key) (ch : List D) : List D := (ks.zip ch).map fun kv => .n false .tup [keyE kv.1, kv.2]
def dItemsL (te : DE) : DE := fun ρ Q E => te ρ (fun x ρ1 => ∃ ks ch, look ρ1 x = some (.n true (.dic ks) ch) ∧ isFzL ch = true ∧ Q (.t (.n true .lst (itsD ks ch))) ρ1) E
section
variable {X : Cx} {cn : String → Addr} {E : WX} {e : Expr} {te : DE} {p apos cpos pos : Pos}
end
section
variable {ρ : Env} {te : DE} {Q : Rv → Env → Prop} {E : Exn → Env → Prop} {x : Rv}
def itlK (x : Rv) (ρ : Env) (Q : Rv → Env → Prop) : Prop := ∃ ks ch, look ρ x = some (.n true (.dic ks) ch) ∧ isFzL ch = true ∧ Q (.t (.n true .lst (itsD ks ch))) ρ
instance i_itemsL : St1 (dItemsL te ρ Q E) (te ρ (fun x ρ1 => itlK x ρ1 Q) E) := ⟨fun h => h⟩
end
end DL
/-! DL47: objects that one slot alone holds: their fields, their methods, how they are made. -/
namespace DL
open PySem L2
open Enc (en)
/-! ### fields -/
def putNs : List Str → Str → List Str
  | [], f => [f]
  | g :: ns, f => if g = f then g :: ns else g :: putNs ns f
def putFs {α : Type} : List Str → List α → Str → α → List α
  | [], _, _, y => [y]
  | _ :: _, [], _, _ => []
  | g :: ns, x :: vs, f, y => if g = f then y :: vs else x :: putFs ns vs f y
/-- where a field stands -/
def fldN : List Str → Str → Option Nat
  | [], _ => none
  | g :: ns, f => if g = f then some 0 else (fldN ns f).map (· + 1)
/-- a class whose objects have plain fields -/
structure ClsD (K : PySem.W.Frag) (c : String) : Prop where
  ex : ∃ C, PySem.W.nsIn K mainGlobals c = some (some (.ref C)) ∧ Cls K C
def NoF (K : PySem.W.Frag) (c : String) (f : Str) : Prop := ∃ C, PySem.W.nsIn K mainGlobals c = some (some (.ref C)) ∧ NoAttr K C f
/-! ### x.f = e -/
def mSetF (c : String) (f : Str) : OpM := fun k ch es Q => ∃ ns d, k = .obj c ns ∧ es = [d] ∧ ns.length < 1000 ∧ Q (.obj c (putNs ns f)) (putFs ns ch f d) .non
def rSetF (K : PySem.W.Frag) (f : Str) : V → List V → Hp → VK → Prop := fun x ys H Q => ∃ a C dx fs y, x = .ref a ∧ ys = [y] ∧ H a = some (.ins C dx fs) ∧ Cls K C ∧ NoAttr K C f ∧ fs.length < 1000 ∧ Q .non (L2.upd H a (.ins C dx (putF f y fs)))
section
variable {X : Cx} {cn : String → Addr} {E : WX}
def dSetF (i : Nat) (r : OpM) (te : DE) : DS := fun D ρ => te ρ (fun x ρ1 => (∃ s d, ρ1[i]? = some s ∧ s.d? = some d) ∧ ∃ es ρ2 s k ch, tkL ρ1 [x] = some (es, ρ2) ∧ ρ2[i]? = some s ∧ s.d? = some (.n true k ch) ∧ r k ch es fun k' ch' _ => D.nx ((killB i ρ2).set i (s.re (.n true k' ch')))) D.ex
end
/-! ### reading an own dict of an own object: names alone -/
section
variable {X : Cx} {cn : String → Addr} {E : WX} {K : PySem.W.Frag}
/-- the own dict in a field -/
def ofld (ρ : Env) (i : Nat) (c : String) (f : Str) : Option (Nat × D) := match ρ[i]? with
  | some s => match s.d? with
    | some (.n true (.obj c' ns) ch) => if c' = c then (fldN ns f).bind fun m => (ch[m]?).map fun d => (m, d) else none
    | _ => none
  | none => none
/-- self.f.get(j, k) -/
def dFGet (c : String) (f : Str) (i j k : Nat) : DE := fun ρ Q _ => ∃ m d dj dk o, ofld ρ i c f = some (m, d) ∧ isDic d = true ∧ slD ρ j = some dj ∧ slD ρ k = some dk ∧ dictD d dj = some o ∧ (o.getD dk).isFz = true ∧ Q (.t (o.getD dk)) ρ
/-- an operation on a field and a name -/
def dFOp (c : String) (f : Str) (r : Op2) (i j : Nat) : DE := fun ρ Q _ => ∃ m d dj, ofld ρ i c f = some (m, d) ∧ slD ρ j = some dj ∧ r d dj fun z => Q (.t z) ρ
/-- an operation on a name and a field -/
def dOpF (c : String) (f : Str) (r : Op2) (j i : Nat) : DE := fun ρ Q _ => ∃ m d dj, ofld ρ i c f = some (m, d) ∧ slD ρ j = some dj ∧ r dj d fun z => Q (.t z) ρ
/-! ### self.f[k] = e -/
/-- self.f[k] = e -/
def dFPut (c : String) (f : Str) (r : OpM) (i kk : Nat) (te : DE) : DS := fun D ρ => te ρ (fun x ρ1 => ∃ m d dk, ofld ρ1 i c f = some (m, d) ∧ slD ρ1 kk = some dk ∧
  ∃ es ρ2 s root k1 rc k ch, tkL ρ1 [.s kk, x] = some (es, ρ2) ∧ ρ2[i]? = some s ∧ s.d? = some root ∧ root = .n true k1 rc ∧ root.at [m] = some (.n true k ch) ∧ r k ch es fun k' ch' _ => D.nx ((killB i ρ2).set i (s.re (root.put [m] (.n true k' ch'))))) D.ex
/-! ### self.m(e, ..) -/
def dMeth (c : String) (nm : Str) (ms : List Bool) (s : SpD) (i : Nat) (t : DA) : DE := fun ρ Q E => (∃ s0 ns ch, ρ[i]? = some s0 ∧ s0.d? = some (.n true (.obj c ns) ch) ∧ fldN ns nm = none) ∧ t ρ (fun rs ρ1 => ∃ ds ρ2, argL (true :: ms) ρ1 (.s i :: rs) = some (ds, ρ2) ∧
  s ds (fun res ds' => ∃ ρ3, backL ρ1 (true :: ms) ρ2 (.s i :: rs) ds' = some ρ3 ∧ Q (.t res) ρ3) (fun x ds' => ∃ ρ3, backL ρ1 (true :: ms) ρ2 (.s i :: rs) ds' = some ρ3 ∧ E x ρ3)) E
/-! ### C() -/
def dMake0 (c : String) (s : SpD) : DE := fun ρ Q _ => s [.n true (.obj c []) []] (fun res ds' => res = .p .non ∧ ∃ d, ds' = [d] ∧ Q (.t d) ρ) (fun _ _ => False)
end
end DL
/-! DL48: running lemmas for objects; min of one or two. -/
namespace DL
open PySem L2
open Enc (en)
section
variable {n : Env → Prop} {rt : D → Env → Prop} {bk ct : Env → Prop} {ex : Exn → Env → Prop} {ρ ρ1 ρ2 ρ3 : Env} {Q : Rv → Env → Prop} {E : Exn → Env → Prop} {te : DE} {tA : DA} {d d1 : D} {i j kk m : Nat} {x : Rv} {c : String} {f : Str} {r : OpM} {k : Env → Prop} {s s1 : Sl}
def sfK (i : Nat) (r : OpM) (x : Rv) (ρ1 : Env) (k : Env → Prop) : Prop := (∃ s d, ρ1[i]? = some s ∧ s.d? = some d) ∧ ∃ es ρ2 s kd ch, tkL ρ1 [x] = some (es, ρ2) ∧ ρ2[i]? = some s ∧ s.d? = some (.n true kd ch) ∧ r kd ch es fun k' ch' _ => k ((killB i ρ2).set i (s.re (.n true k' ch')))
instance i_setF : St1 (dSetF i r te ⟨n, rt, bk, ct, ex⟩ ρ) (te ρ (fun x ρ1 => sfK i r x ρ1 n) ex) := ⟨fun h => h⟩
def fpK (c : String) (f : Str) (r : OpM) (i kk : Nat) (x : Rv) (ρ1 : Env) (k : Env → Prop) : Prop := ∃ m d dk, ofld ρ1 i c f = some (m, d) ∧ slD ρ1 kk = some dk ∧
  ∃ es ρ2 s root k1 rc kd ch, tkL ρ1 [.s kk, x] = some (es, ρ2) ∧ ρ2[i]? = some s ∧ s.d? = some root ∧ root = .n true k1 rc ∧ root.at [m] = some (.n true kd ch) ∧ r kd ch es fun k' ch' _ => k ((killB i ρ2).set i (s.re (root.put [m] (.n true k' ch'))))
instance i_fput : St1 (dFPut c f r i kk te ⟨n, rt, bk, ct, ex⟩ ρ) (te ρ (fun x ρ1 => fpK c f r i kk x ρ1 n) ex) := ⟨fun h => h⟩
instance i_make0 {sp : SpD} : St1 (dMake0 c sp ρ Q E) (sp [.n true (.obj c []) []] (fun res ds' => res = .p .non ∧ ∃ d, ds' = [d] ∧ Q (.t d) ρ) (fun _ _ => False)) := ⟨fun h => h⟩
end
/-! ### min of some -/
def leP (a b : Int × Int) : Prop := a.1 ≤ b.1 ∧ (a.1 = b.1 → a.2 ≤ b.2)
end DL
/-! DL49: a walk over an own list that stays its slot's own: the slot is pinned while it is walked. -/
namespace DL
open PySem L2
open Enc (en)
def pvAt (pv : Nat → V) (i : Nat) (x : V) : Nat → V := fun j => if j = i then x else pv j
def unpin (i : Nat) (ρ : Env) : Env := match ρ[i]? with
  | some (.w d) => ρ.set i (.v d)
  | _ => ρ
section
variable {K : PySem.W.Frag} {pv : Nat → V} {σ : St} {ρ : Env} {G H : Hp} {fp : Fps} {i : Nat} {d : D} {x : V}
theorem unpin_w (h : ρ[i]? = some (.w d)) : unpin i ρ = ρ.set i (.v d) := by
  unfold unpin
  rw [h]
theorem set_get {s s' : Sl} {j : Nat} (h : (ρ.set i s)[j]? = some s') : (j = i ∧ s' = s) ∨ (j ≠ i ∧ ρ[j]? = some s') := by
  rw [List.getElem?_set] at h
  by_cases e : i = j
  · rw [if_pos e] at h
    split at h
    · exact .inl ⟨e.symm, (Option.some.inj h).symm⟩
    · cases h
  · rw [if_neg e] at h
    exact .inr ⟨fun z => e z.symm, h⟩
theorem Mt.unpin (m : Mt K (pvAt pv i x) σ ρ G H fp) : Mt K pv σ (DL.unpin i ρ) G H fp := by
  have other : ∀ j, j ≠ i → pvAt pv i x j = pv j := fun j n => if_neg n
  by_cases hw : ∃ d, ρ[i]? = some (.w d)
  · obtain ⟨d, hw⟩ := hw
    rw [unpin_w hw]
    refine ⟨m.sub, by rw [List.length_set]; exact m.len, fun j d' e => ?_, fun j d' e => ?_, fun j k q e => ?_, m.ap, m.ft⟩
    · rcases set_get e with ⟨rfl, z⟩ | ⟨_, z⟩
      · cases z
        obtain ⟨h1, h2⟩ := m.pn j d hw
        exact ⟨_, h1, h2⟩
      · exact m.sl j d' z
    · rcases set_get e with ⟨_, z⟩ | ⟨n, z⟩
      · cases z
      · have := m.pn j d' z
        rw [other j n] at this
        exact this
    · rcases set_get e with ⟨_, z⟩ | ⟨_, z⟩
      · cases z
      · exact m.br j k q z
  · have e : DL.unpin i ρ = ρ := by
      unfold DL.unpin
      split
      · rename_i d hd
        exact absurd ⟨d, hd⟩ hw
      · rfl
    rw [e]
    refine ⟨m.sub, m.len, m.sl, fun j d' z => ?_, m.br, m.ap, m.ft⟩
    by_cases n : j = i
    · subst n
      exact absurd ⟨d', z⟩ hw
    · have := m.pn j d' z
      rw [other j n] at this
      exact this
end
def dLoopL (i : Nat) (ch : List D) (g : DG) (tb : DS) (vs : List Nat) (D : DEnds) : List DL.D → Env → Prop
  | [], ρ => ρ[i]? = some (.w (.n true .lst ch)) ∧ D.nx (ρ.set i (.v (.n true .lst ch)))
  | d :: ds, ρ => ρ[i]? = some (.w (.n true .lst ch)) ∧ g (.t d) ρ fun ρ1 => tb { nx := fun ρ2 => dLoopL i ch g tb vs D ds (wipeD ρ2 vs), ct := fun ρ2 => dLoopL i ch g tb vs D ds (wipeD ρ2 vs), bk := fun ρ2 => D.nx (unpin i (wipeD ρ2 vs)), rt := fun d ρ2 => D.rt d (unpin i ρ2), ex := fun x ρ2 => D.ex x (unpin i ρ2) } ρ1
/-- for x in xs: xs is the slot's own, and stays -/
def dForL (i : Nat) (g : DG) (tb : DS) (vs : List Nat) : DS := fun D ρ => ∃ ch, ρ[i]? = some (.v (.n true .lst ch)) ∧ isFzL ch = true ∧ dLoopL i ch g tb vs D ch (wipeD (ρ.set i (.w (.n true .lst ch))) vs)
section
variable {X : Cx} {cn : String → Addr} {E : WX} {pos : Pos} {tg iter : Expr} {body : List Stmt} {tb : DS} {g : DG} {S vs : List Nat}
end
/-! ### runs -/
section
variable {n : Env → Prop} {rt : D → Env → Prop} {bk ct : Env → Prop} {ex : Exn → Env → Prop} {ρ ρ1 : Env} {i : Nat} {ch : List D} {g : DG} {tb : DS} {vs : List Nat}
end
end DL
/-! DL50: a, b = x, y of plain names (no pair is made); `x in self.f` as a test. -/
namespace DL
open PySem L2
open Enc (en)
def dPar (i j : Nat) (t : DA) : DS := fun D ρ => t ρ (fun rs ρ1 => ∃ d1 d2 ρ2 ρ3 ρ4, tkL ρ1 rs = some ([d1, d2], ρ2) ∧ stV ρ2 i d1 = some ρ3 ∧ stV ρ3 j d2 = some ρ4 ∧ D.nx ρ4) D.ex
section
variable {X : Cx} {cn : String → Addr} {E : WX} {st : Stmt} {t : DA}
end
section
variable {X : Cx} {cn : String → Addr} {E : WX}
end
section
variable {n : Env → Prop} {rt : D → Env → Prop} {bk ct : Env → Prop} {ex : Exn → Env → Prop} {ρ ρ1 ρ2 ρ3 : Env} {tA : DA} {i j : Nat} {d1 d2 : D} {rs : List Rv}
def parK (i j : Nat) (n : Env → Prop) (rs : List Rv) (ρ1 : Env) : Prop := ∃ d1 d2 ρ2 ρ3 ρ4, tkL ρ1 rs = some ([d1, d2], ρ2) ∧ stV ρ2 i d1 = some ρ3 ∧ stV ρ3 j d2 = some ρ4 ∧ n ρ4
instance i_par : St1 (dPar i j tA ⟨n, rt, bk, ct, ex⟩ ρ) (tA ρ (fun rs ρ1 => parK i j n rs ρ1) ex) := ⟨fun h => h⟩
instance i_parK {ρ4 : Env} [a : TkL ρ1 rs [d1, d2] ρ2] [b : StV ρ2 i d1 ρ3] [c : StV ρ3 j d2 ρ4] : St1 (parK i j n rs ρ1) (n ρ4) := ⟨fun h => ⟨d1, d2, ρ2, ρ3, ρ4, a.h, b.h, c.h, h⟩⟩
end
end DL
/-! DL51: x[i][e] = v: the part x[i] is held by a slot more while e is looked at. -/
namespace DL
open PySem L2
open Enc (en)
def bOk (n : Nat) (ρ : Env) : Bool := ρ.all fun | .b j _ => decide (j < n) | _ => true
section
variable {K : PySem.W.Frag} {pv : Nat → V} {σ : St} {ρ : Env} {G H : Hp} {fp : Fps}
theorem Mt.push {n : Nat} {q : List Nat} {x y : V} (m : Mt K pv σ ρ G H fp) (hx : σ[n]? = some (some x)) (hp : PathV K H (fun a => a ∈ fp n) x q y) : Mt K pv (σ ++ [some y]) (ρ ++ [.b n q]) G H fp := by
  have hl := m.len
  have cut : ∀ {i : Nat} {t : Sl}, (ρ ++ [.b n q])[i]? = some t → ρ[i]? = some t ∨ (i = ρ.length ∧ t = .b n q) := fun {i t} e => by
    by_cases c : i < ρ.length
    · rw [List.getElem?_append_left c] at e
      exact .inl e
    · rw [List.getElem?_append_right (by omega)] at e
      by_cases c2 : i - ρ.length = 0
      · rw [c2] at e
        exact .inr ⟨by omega, (Option.some.inj e).symm⟩
      · rw [List.getElem?_eq_none (by rw [List.length_singleton]; omega)] at e
        cases e
  have up : ∀ {i : Nat} {z : Option V}, σ[i]? = some z → (σ ++ [some y])[i]? = some z := fun {i z} e => by
    rw [List.getElem?_append_left (List.getElem?_eq_some_iff.mp e).1]
    exact e
  refine ⟨m.sub, by rw [List.length_append, List.length_append, hl]; rfl, fun i d e => ?_, fun i d e => ?_, fun i j p e => ?_, m.ap, m.ft⟩
  · rcases cut e with e | ⟨_, e⟩
    · obtain ⟨x, h1, h2⟩ := m.sl i d e
      exact ⟨x, up h1, h2⟩
    · cases e
  · rcases cut e with e | ⟨_, e⟩
    · obtain ⟨h1, h2⟩ := m.pn i d e
      exact ⟨up h1, h2⟩
    · cases e
  · rcases cut e with e | ⟨hi, e⟩
    · obtain ⟨x, z, h1, h2, h3⟩ := m.br i j p e
      exact ⟨x, z, up h1, up h2, h3⟩
    · cases e
      refine ⟨x, y, up hx, ?_, hp⟩
      rw [List.getElem?_append_right (by omega), hi, hl, Nat.sub_self]
      rfl
end
section
variable {X : Cx} {cn : String → Addr} {E : WX}
def dPut2E (n i : Nat) (r : OpM) (tk te : DE) : DS := fun D ρ => te ρ (fun x ρ1 => ∃ a s0 rc m k0 ch0, ρ1[i]? = some (.v (.p (.int a))) ∧ ρ1[n]? = some s0 ∧ s0.d? = some (.n true .lst rc) ∧ ixN rc.length a = some m ∧ rc[m]? = some (.n true k0 ch0) ∧
  tk (ρ1 ++ [.b n [m]]) (fun xk ρ2 => ρ2[ρ1.length]? = some (.b n [m]) ∧ ∃ es ρ3 s root rc' k ch, tkL ρ2 [xk, x] = some (es, ρ3) ∧ ρ3[n]? = some s ∧ s.d? = some root ∧ root = .n true .lst rc' ∧ root.at [m] = some (.n true k ch) ∧
    r k ch es fun k' ch' _ => ∃ ρ4 s4, (killB n ρ3).set n (s.re (root.put [m] (.n true k' ch'))) = ρ4 ++ [s4] ∧ bOk ρ4.length ρ4 = true ∧ D.nx ρ4) (fun _ _ => False)) D.ex
/-! ### runs -/
def p2F (n m L : Nat) (r : OpM) (x xk : Rv) (ρ2 : Env) (nx : Env → Prop) : Prop := ρ2[L]? = some (.b n [m]) ∧ ∃ es ρ3 s root rc' k ch, tkL ρ2 [xk, x] = some (es, ρ3) ∧ ρ3[n]? = some s ∧ s.d? = some root ∧ root = .n true .lst rc' ∧ root.at [m] = some (.n true k ch) ∧
    r k ch es fun k' ch' _ => ∃ ρ4 s4, (killB n ρ3).set n (s.re (root.put [m] (.n true k' ch'))) = ρ4 ++ [s4] ∧ bOk ρ4.length ρ4 = true ∧ nx ρ4
def p2E (n i : Nat) (r : OpM) (tk : DE) (x : Rv) (ρ1 : Env) (nx : Env → Prop) : Prop := ∃ a s0 rc m k0 ch0, ρ1[i]? = some (.v (.p (.int a))) ∧ ρ1[n]? = some s0 ∧ s0.d? = some (.n true .lst rc) ∧ ixN rc.length a = some m ∧ rc[m]? = some (.n true k0 ch0) ∧
  tk (ρ1 ++ [.b n [m]]) (fun xk ρ2 => p2F n m ρ1.length r x xk ρ2 nx) (fun _ _ => False)
instance i_put2E {n i : Nat} {r : OpM} {te tk : DE} {ρ : Env} {nx : Env → Prop} {rt : D → Env → Prop} {bk ct : Env → Prop} {ex : Exn → Env → Prop} : St1 (dPut2E n i r tk te ⟨nx, rt, bk, ct, ex⟩ ρ) (te ρ (fun x ρ1 => p2E n i r tk x ρ1 nx) ex) := ⟨fun h => h⟩
theorem ixN_nat {l a : Nat} (h : a < l) : ixN l (a : Int) = some a := by
  unfold ixN
  rw [if_pos (by omega), if_pos (by omega)]
  rfl
end
/-! ### a test that only reads -/
def dLendT (tt : DT) : DT := fun ρ Q _ => tt (frzE ρ) (fun b _ => Q b ρ) (fun _ _ => False)
section
variable {X : Cx} {cn : String → Addr} {E : WX} {e : Expr} {tt : DT}
end
end DL
/-! DL52: f(a, ..), the last parameters by their defaults. -/
namespace DL
open PySem L2
def dApC (dvs : List V) (t : DA) : DA := fun ρ Q E => t ρ (fun rs ρ1 => Q (rs ++ dvs.map fun v => .t (.p v)) ρ1) E
section
variable {K : PySem.W.Frag} {σ : St} {G H : Hp}
end
section
variable {X : Cx} {cn : String → Addr} {E : WX} {k : Nat} {f : Addr} {fd : FuncData} {ps : List Str} {s : SpD} {x : Str} {p pos : Pos} {e : Expr} {es : List Expr} {t : DA} {ms : List Bool} {dvs : List V}
end
section
variable {QA : List Rv → Env → Prop} {E : Exn → Env → Prop} {ρ : Env} {t : DA} {dvs : List V}
instance i_apC : St1 (dApC dvs t ρ QA E) (t ρ (fun rs ρ1 => QA (rs ++ dvs.map fun v => .t (.p v)) ρ1) E) := ⟨fun h => h⟩
end
end DL
/-! DL53: sum, max with a default, len(set(xs)) of whole numbers. -/
namespace DL
open PySem L2
open Enc (en)
/-! ### sum -/
def qSum : OpL := fun ds Q => ∃ d ch ns, ds = [d] ∧ listOf d = some ch ∧ intsOf ch = some ns ∧ Q (.p (.int ns.sum))
/-! ### max(xs, default=d) -/
def maxZ (e : Int) : List Int → Int
  | [] => e
  | n :: r => r.foldl max n
def rMaxDf (K : PySem.W.Frag) : List V → List V → Hp → VK → Prop := fun vs zs H Q => ∃ a ns d, vs = [.ref a] ∧ zs = [.int d] ∧ SqL K H a (ns.map V.int) ∧ Q (.int (maxZ d ns)) H
section
variable {X : Cx}
/-- max(xs, default=0) -/
def rMax0 (K : PySem.W.Frag) : List V → Hp → VK → Prop := fun vs H Q => rMaxDf K vs [.int 0] H Q
def qMax0 : OpL := fun ds Q => ∃ d ch ns, ds = [d] ∧ listOf d = some ch ∧ intsOf ch = some ns ∧ Q (.p (.int (maxZ 0 ns)))
end
/-! ### len(set(xs)) -/
def nubI (ns : List Int) : List Int := PyProof.Rows.firstMet (fun i => ns.getD i 0) ns.length
section
open PyProof.Rows
end
section
open PySem.Spec PyProof.Rows
variable {X : Cx} {cn : String → Addr} {E : WX}
def tLenSetJ (K : PySem.W.Frag) (ta : TE) : TE := fun σ H Q => ta σ H fun x H1 => ∃ (l : Addr) (ns : List Int), x = .ref l ∧ SqL K H1 l (ns.map V.int) ∧ ns.length ≤ 4000 ∧ Q (.int ((nubI ns).length : Nat)) H1
def dLenSet (ta : DE) : DE := fun ρ Q E => ta ρ (fun x ρ1 => ∃ d ch ns, look ρ1 x = some d ∧ listOf d = some ch ∧ intsOf ch = some ns ∧ ns.length ≤ 4000 ∧ Q (.t (.p (.int ((nubI ns).length : Nat)))) ρ1) E
end
section
variable {ρ : Env} {ta : DE} {Q : Rv → Env → Prop} {E : Exn → Env → Prop} {x : Rv}
def lsK (x : Rv) (ρ : Env) (Q : Rv → Env → Prop) : Prop := ∃ d ch ns, look ρ x = some d ∧ listOf d = some ch ∧ intsOf ch = some ns ∧ ns.length ≤ 4000 ∧ Q (.t (.p (.int ((nubI ns).length : Nat)))) ρ
end
end DL
/-! DL54: setdefault of a dict whose keys are tuples; a dict whose keys may be either. -/
namespace DL
open PySem L2
open Enc (en)
section
open PySem.Spec PyProof.Rows
variable {X : Cx} {pins : List (Addr × Obj)} {σ : L2.St} {H : Hp} {s : Shared} {a b : Addr} {r : Value} {d : V} {k : List Key} {A : Around} {E : Value → Shared → Prop}
end
def rSetdT : V → List V → Hp → VK → Prop := fun x vs H Q => ∃ (a : Addr) (kvs : List (List Key × V)) (k : List Key) (b : Addr) (z : V), x = .ref a ∧ vs = [.ref b, z] ∧ H a = some (.dT kvs) ∧ H b = some (.tup (k.map kV)) ∧ kvs.length < sizeLine ∧ (∀ v, valV kvs k = some v → Q v H) ∧ (valV kvs k = none → Q z (L2.upd H a (.dT (putK kvs k z))))
def rSetd2 : V → List V → Hp → VK → Prop := fun x vs H Q => rSetd x vs H Q ∨ rSetdT x vs H Q
def mSetdT : OpM := fun k ch es Q => ∃ ks kc d x, k = .dit ks ∧ es = [.n false .tup kc, d] ∧ d.isFz = true ∧ ch.length < 100000 ∧ keysD kc = some x ∧ match lookK ks ch x with
  | some c => c.isFz = true ∧ Q (.dit ks) ch c
  | none => Q (.dit (ks ++ [x])) (ch ++ [d]) d
def mSetd2 : OpM := fun k ch es Q => mSetd k ch es Q ∨ mSetdT k ch es Q
section
open PySem.Spec PyProof.Rows
variable {X : Cx} {cn : String → Addr} {E : WX} {apos cpos pos : Pos}
def tDSetd2 (td ty tx : TE) : TE := fun σ H Q => td σ H fun x H1 => ∃ a, x = .ref a ∧ IsD H1 a ∧ ty σ H1 fun y H2 => tx σ H2 fun z H3 => rSetd2 (.ref a) [y, z] H3 Q
/-- an empty dict, its keys of either kind -/
def dNewX : DE := fun ρ Q E => dNewD ρ Q E ∨ dNewT ρ Q E
end
section
variable {κ β : Type} {i0 : DecidableEq κ} {i1 : Enc κ} {i3 : Enc β} {kv : List (κ × β)} {a : κ} {b : β} {K : Kd → List D → D → Prop}
end
/-! ### len of a dict, its keys of either kind -/
def rLen2 (K : PySem.W.Frag) : List V → Hp → VK → Prop := fun xs H Q => rLenD K xs H Q ∨ rLenT xs H Q
def qLen2 : OpL := fun ds Q => qLen ds Q ∨ ∃ o ks ch, ds = [.n o (.dit ks) ch] ∧ Q (.p (.int (ks.length : Nat)))
end DL
/-! DL55: a, b, c = x, y, z of plain names. -/
namespace DL
open PySem L2
open Enc (en)
def dPar3 (i j l : Nat) (t : DA) : DS := fun D ρ => t ρ (fun rs ρ1 => ∃ d1 d2 d3 ρ2 ρ3 ρ4 ρ5, tkL ρ1 rs = some ([d1, d2, d3], ρ2) ∧ stV ρ2 i d1 = some ρ3 ∧ stV ρ3 j d2 = some ρ4 ∧ stV ρ4 l d3 = some ρ5 ∧ D.nx ρ5) D.ex
section
variable {X : Cx} {cn : String → Addr} {E : WX} {st : Stmt} {t : DA}
end
section
variable {n : Env → Prop} {rt : D → Env → Prop} {bk ct : Env → Prop} {ex : Exn → Env → Prop} {ρ ρ1 ρ2 ρ3 ρ4 : Env} {tA : DA} {i j l : Nat} {d1 d2 d3 : D} {rs : List Rv}
def parK3 (i j l : Nat) (n : Env → Prop) (rs : List Rv) (ρ1 : Env) : Prop := ∃ d1 d2 d3 ρ2 ρ3 ρ4 ρ5, tkL ρ1 rs = some ([d1, d2, d3], ρ2) ∧ stV ρ2 i d1 = some ρ3 ∧ stV ρ3 j d2 = some ρ4 ∧ stV ρ4 l d3 = some ρ5 ∧ n ρ5
instance i_par3 : St1 (dPar3 i j l tA ⟨n, rt, bk, ct, ex⟩ ρ) (tA ρ (fun rs ρ1 => parK3 i j l n rs ρ1) ex) := ⟨fun h => h⟩
instance i_parK3 {ρ5 : Env} [a : TkL ρ1 rs [d1, d2, d3] ρ2] [b : StV ρ2 i d1 ρ3] [c : StV ρ3 j d2 ρ4] [e : StV ρ4 l d3 ρ5] : St1 (parK3 i j l n rs ρ1) (n ρ5) := ⟨fun h => ⟨d1, d2, d3, ρ2, ρ3, ρ4, ρ5, a.h, b.h, c.h, e.h, h⟩⟩
end
end DL
/-! DL56: xs.count(y) of plain data. -/
namespace DL
open PySem L2
open Enc (en)
section
open PySem.Spec PyProof.Rows
variable {X : Cx}
def rCntP (K : PySem.W.Frag) : V → List V → Hp → VK → Prop := fun x xs H Q => ∃ (p : Addr) (vs : List V) (y : V) (ds : List PyData) (d : PyData), x = .ref p ∧ xs = [y] ∧ SqL K H p vs ∧ DpAll K H vs ds ∧ Dp K H y d ∧ (PyData.plainAll ds = true ∧ d.plain = true) ∧ d.depth ≤ 60 ∧ Q (.int ((ds.countP fun z => PyData.eqv z d) : Nat)) H
end
def qCount : Op2 := fun d e Q => ∃ ch, listOf d = some ch ∧ (PyData.plainAll (toPyL ch) = true ∧ (toPy e).plain = true) ∧ (toPy e).depth ≤ 60 ∧ Q (.p (.int (((toPyL ch).countP fun z => PyData.eqv z (toPy e)) : Nat)))
section
variable {α : Type} {inst : Enc α}
end
end DL
/-! DL57: a walk over a list that is the slot's own, the items too: each is, while it is looked at, known as the list's part; x[i] taken out of a slot that is forgotten. -/
namespace DL
open PySem L2
open Enc (en)
/-- r items are left of n -/
def dLoopB (i j n : Nat) (tb : DS) (vs : List Nat) (D : DEnds) : Nat → Env → Prop
  | 0, ρ => (∃ ch, ρ[i]? = some (.w (.n true .lst ch)) ∧ ch.length = n) ∧ D.nx ρ
  | r + 1, ρ => ∃ ch kd cc, ρ[i]? = some (.w (.n true .lst ch)) ∧ ch.length = n ∧ ch[n - (r + 1)]? = some (.n true kd cc) ∧ okV ρ j = true ∧
    tb { nx := fun ρ2 => dLoopB i j n tb vs D r (wipeD ρ2 vs), ct := fun ρ2 => dLoopB i j n tb vs D r (wipeD ρ2 vs), bk := fun ρ2 => D.nx (wipeD ρ2 vs), rt := D.rt, ex := D.ex } ((killB j ρ).set j (.b i [n - (r + 1)]))
/-- for x in xs: xs is handed in and handed back, x is a part of it -/
def dForB (i j : Nat) (tb : DS) (vs : List Nat) : DS := fun D ρ => ∃ ch, ρ[i]? = some (.w (.n true .lst ch)) ∧ dLoopB i j ch.length tb vs D ch.length (wipeD ρ vs)
section
variable {X : Cx} {cn : String → Addr} {E : WX} {pos : Pos} {tg iter : Expr} {body : List Stmt} {tb : DS} {vs : List Nat}
end
/-! ### x[i], the slot being forgotten -/
def dIxM (j : Nat) (i : Int) : DE := fun ρ Q _ => ∃ o k ch d, ρ[j]? = some (.v (.n o k ch)) ∧ (k = .lst ∨ k = .tup) ∧ L2.atI ch i = some d ∧ Q (.t d) ((killB j ρ).set j .un)
section
variable {X : Cx} {cn : String → Addr} {E : WX} {a : Expr}
end
/-! ### runs -/
section
variable {n : Env → Prop} {rt : D → Env → Prop} {bk ct : Env → Prop} {ex : Exn → Env → Prop} {ρ ρ1 : Env} {i j : Nat} {ch : List D} {tb : DS} {vs : List Nat} {Q : Rv → Env → Prop} {E : Exn → Env → Prop}
end
end DL
/-! DL58: != of lists of two, the second of each a dict with nothing in it. -/
namespace DL
open PySem L2
open Enc (en)
/-- the same, or lists of two, the second of each a dict with nothing in it -/
def qNeX : Op2 := fun d e Q => ((okD d = true ∧ okD e = true) ∧ Q (.bl (!eqD d e))) ∨ ∃ o o' u u' a b, d = .n o .lst [a, .n u (.dic []) []] ∧ e = .n o' .lst [b, .n u' (.dic []) []] ∧ okD a = true ∧ okD b = true ∧ Q (.bl (!eqD a b))
def rNeX (K : PySem.W.Frag) : R2 := fun x y H Q => rNeP K x y H Q ∨ ∃ p p' v v' c c' d e, x = .ref p ∧ y = .ref p' ∧ H p = some (.lst [v, .ref c]) ∧ H p' = some (.lst [v', .ref c']) ∧ Rd H c (.dK []) ∧ Rd H c' (.dK []) ∧ Dp K H v d ∧ Dp K H v' e ∧ Pl d ∧ Pl e ∧ Q (.bl (!PyData.eqv d e)) H
section
variable {X : Cx}
end
end DL
/-! DL59: x is True, x is not True; x in a dict whose keys are tuples, as a test. -/
namespace DL
open PySem L2
open Enc (en)
def qIsB : Op2 := fun d e Q => ∃ a b, d = .p (.bl a) ∧ e = .p (.bl b) ∧ Q (.bl (decide (a = b)))
def qNotB : Op2 := fun d e Q => ∃ a b, d = .p (.bl a) ∧ e = .p (.bl b) ∧ Q (.bl (!decide (a = b)))
end DL
/-! DL60: list(zip(a, b)) of two lists as a value. -/
namespace ZL
open PySem PySem.W PySem.Calls PyProof.Rows PyProof.V PySem.Spec
theorem nolen : typeLookup (.type "zip") "__len__" = pure none := by rw [typeLookup_type, builtinLookup_eq_fast]; kernel_rfl
theorem nohint : typeLookup (.type "zip") "__length_hint__" = pure none := by rw [typeLookup_type, builtinLookup_eq_fast]; kernel_rfl
/-- the zip object ahead of its turn i; S: the list that is being filled -/
def St (z TI TO i1 i2 l1 l2 S : Addr) (xs ys : Array Value) (i : Nat) (h : Heap) : Prop :=
  IsPair h TI (.ref i1) (.ref i2) ∧ h.IsListIter i1 l1 i ∧ h.IsListIter i2 l2 i ∧ h.IsList l1 xs ∧ h.IsList l2 ys ∧
  ((IsZip h z TI TO .none ∧ ∃ a b, IsPair h TO a b) ∨ ∃ T f oT, IsZipHeld h z TI TO T f ∧ h.get? T = some oT ∧ T ≠ z ∧ T ≠ i1 ∧ T ≠ i2 ∧ T ≠ S)
section
variable {z TI TO i1 i2 l1 l2 S : Addr} {xs ys : Array Value}
theorem St.keep {i : Nat} {h h' : Heap} (n : z < S ∧ TI < S ∧ TO < S ∧ i1 < S ∧ i2 < S ∧ l1 < S ∧ l2 < S) (st : St z TI TO i1 i2 l1 l2 S xs ys i h) (hk : ∀ b o, b ≠ S → h.get? b = some o → h'.get? b = some o) : St z TI TO i1 i2 l1 l2 S xs ys i h' := by
  obtain ⟨dz, dTI, dTO, di1, di2, dl1, dl2⟩ := n
  obtain ⟨hTI, h1, h2, hl1, hl2, hz⟩ := st
  refine ⟨hk _ _ (Nat.ne_of_lt dTI) hTI, h1.at fun o e => hk _ o (Nat.ne_of_lt di1) e, h2.at fun o e => hk _ o (Nat.ne_of_lt di2) e, hl1.at fun o e => hk _ o (Nat.ne_of_lt dl1) e, hl2.at fun o e => hk _ o (Nat.ne_of_lt dl2) e, ?_⟩
  rcases hz with ⟨hz, a, b, hTO⟩ | ⟨T, f, oT, hz, hT, r1, r2, r3, r4⟩
  · exact .inl ⟨hk _ _ (Nat.ne_of_lt dz) hz, a, b, hk _ _ (Nat.ne_of_lt dTO) hTO⟩
  · exact .inr ⟨T, f, oT, hk _ _ (Nat.ne_of_lt dz) hz, hk _ _ r4 hT, r1, r2, r3, r4⟩
variable {prog : Program} {w : World} {A : Around} {E : Value → Shared → Prop} {s : Shared}
theorem type_of {i : Nat} {s : Shared} (st : St z TI TO i1 i2 l1 l2 S xs ys i s.heap) : s.TypeIs (.ref z) "zip" := by
  obtain ⟨-, -, -, -, -, ⟨hz, -⟩ | ⟨T, f, oT, hz, -⟩⟩ := st
  · exact ⟨_, hz, rfl⟩
  · exact ⟨_, hz, rfl⟩
theorem item {i : Nat} {x y : Value} {Q : Option Value → Shared → Prop} (D : ZipApart z TI TO i1 i2 l1 l2) (st : St z TI TO i1 i2 l1 l2 S xs ys i s.heap) (hS : S < s.heap.objs.size) (ex : xs[i]? = some x) (ey : ys[i]? = some y)
    (hQ : ∀ h', St z TI TO i1 i2 l1 l2 S xs ys (i + 1) h' → IsPair h' s.heap.objs.size x y → (∀ c o, c ≠ z → c ≠ TO → c ≠ i1 → c ≠ i2 → s.heap.get? c = some o → h'.get? c = some o) → Q (some (.ref s.heap.objs.size)) { s with heap := h' }) :
    wpAny (model prog w) A (pyNext (.ref z)) Q E s := by
  obtain ⟨hTI, h1, h2, hl1, hl2, hz⟩ := st
  have lt : ∀ {c o}, s.heap.get? c = some o → s.heap.objs.size ≠ c := fun e => Nat.ne_of_gt (Heap.lt_size e)
  have n1 : s.heap.objs.size ≠ i1 := let ⟨_, e, _⟩ := h1; lt e
  have n2 : s.heap.objs.size ≠ i2 := let ⟨_, e, _⟩ := h2; lt e
  rcases hz with ⟨hz, a, b, hTO⟩ | ⟨T, f, oT, hz, hT, r1, r2, r3, r4⟩
  · refine wpAny_pyNext_zip_item D hz hTI hTO h1 h2 hl1 hl2 ex ey fun h' a1 a2 a3 a4 a5 a6 hk => ?_
    exact hQ h' ⟨hk _ _ D.TIz D.TITO D.TIi1 D.TIi2 hTI, a3, a4, hl1.at fun o e => hk _ o D.l1z D.l1TO D.l1i1 D.l1i2 e, hl2.at fun o e => hk _ o D.l2z D.l2TO D.l2i1 D.l2i2 e,
      .inr ⟨s.heap.objs.size, false, _, a1, a5, lt hz, n1, n2, Nat.ne_of_gt hS⟩⟩ a5 fun c o q1 q2 q3 q4 e => hk c o q1 q2 q3 q4 e
  · refine wpAny_pyNext_zip_item_held D hz hT hTI h1 h2 hl1 hl2 ex ey fun h' a1 a3 a4 a5 a6 hk => ?_
    exact hQ h' ⟨hk _ _ D.TIz D.TIi1 D.TIi2 hTI, a3, a4, hl1.at fun o e => hk _ o D.l1z D.l1i1 D.l1i2 e, hl2.at fun o e => hk _ o D.l2z D.l2i1 D.l2i2 e,
      .inr ⟨T, true, oT, a1, hk _ _ r1 r2 r3 hT, r1, r2, r3, r4⟩⟩ a5 fun c o q1 q2 q3 q4 e => hk c o q1 q3 q4 e
theorem fin_ {i : Nat} {Q : Option Value → Shared → Prop} (hh : A.handled = none) (D : ZipApart z TI TO i1 i2 l1 l2) (st : St z TI TO i1 i2 l1 l2 S xs ys i s.heap) (hend : xs[i]? = none ∨ ys[i]? = none)
    (hQ : ∀ h', (∀ c o, c ≠ z → c ≠ TO → c ≠ i1 → c ≠ i2 → s.heap.get? c = some o → h'.get? c = some o) → Q none { s with heap := h' }) : wpAny (model prog w) A (pyNext (.ref z)) Q E s := by
  obtain ⟨hTI, h1, h2, hl1, hl2, hz⟩ := st
  rcases hz with ⟨hz, a, b, hTO⟩ | ⟨T, f, oT, hz, hT, r1, r2, r3, r4⟩
  · exact wpAny_pyNext_zip_end hh D hz hTI hTO h1 h2 hl1 hl2 hend fun h' hk => hQ h' fun c o q1 q2 q3 q4 e => hk c o q1 q2 q3 q4 e
  · exact wpAny_pyNext_zip_end_held hh D hz hT hTI h1 h2 hl1 hl2 hend fun h' hk => hQ h' fun c o q1 q2 q3 q4 e => hk c o q1 q3 q4 e
/-- the tuples made so far -/
structure Made (S : Addr) (xs ys : Array Value) (h : Heap) (as : List Addr) : Prop where
  rise : as.Pairwise (· < ·)
  above : ∀ a ∈ as, S < a
  pairs : ∀ (j : Nat) (a : Addr), as[j]? = some a → ∃ x y, xs[j]? = some x ∧ ys[j]? = some y ∧ IsPair h a x y
theorem Made.there {h : Heap} {as : List Addr} (g : Made S xs ys h as) {a : Addr} (ha : a ∈ as) : a < h.objs.size := by
  obtain ⟨j, hj⟩ := List.getElem?_of_mem ha
  obtain ⟨x, y, -, -, e⟩ := g.pairs j a hj
  exact Heap.lt_size e
variable {R : Result → Shared → Prop}
theorem loop (hh : A.handled = none) (D : ZipApart z TI TO i1 i2 l1 l2) (n : z < S ∧ TI < S ∧ TO < S ∧ i1 < S ∧ i2 < S ∧ l1 < S ∧ l2 < S) (hn : min xs.size ys.size ≤ sizeLine) (res : Value) {h₁ : Heap}
    (hR : ∀ h' tk acc c as, (∀ b o, b ≠ S → b ≠ z → b ≠ TO → b ≠ i1 → b ≠ i2 → h₁.get? b = some o → h'.get? b = some o) → h'.get? S = some { cls := .type "list", dict := none, data := .seq acc c, slots := #[] } → as.length = min xs.size ys.size → Made S xs ys h' as →
      acc.toList = as.map Value.ref → R (.ok (.ret res)) { s with heap := h', toks := tk }) :
    ∀ (k i : Nat) (h : Heap) (tk c : Nat) (acc : Array Value) (as : List Addr), min xs.size ys.size - i = k → i ≤ min xs.size ys.size → St z TI TO i1 i2 l1 l2 S xs ys i h → (∀ b o, b ≠ S → b ≠ z → b ≠ TO → b ≠ i1 → b ≠ i2 → h₁.get? b = some o → h.get? b = some o) →
      h.get? S = some { cls := .type "list", dict := none, data := .seq acc c, slots := #[] } → acc.toList = as.map Value.ref → as.length = i → Made S xs ys h as →
      codeAny (model prog w) A (.builtin "list.extend.loop" ⟨[.ref S, .ref z, res], []⟩) R { s with heap := h, toks := tk } := by
  obtain ⟨dz, dTI, dTO, di1, di2, dl1, dl2⟩ := id n
  intro k
  induction k with
  | zero =>
    intro i h tk c acc as hk hi hst hkeep hS hacc hal hG
    refine codeAny_builtin PySem.F.entry_extend_loop ?_
    rw [Around.under_plainId PySem.F.plain_extend_loop _]
    show wpAny _ A.in1 (pyNext (.ref z) >>= _) _ _ _
    have hend : xs[i]? = none ∨ ys[i]? = none := by
      rcases Nat.le_total xs.size ys.size with q | q
      · exact .inl (Array.getElem?_eq_none (by omega))
      · exact .inr (Array.getElem?_eq_none (by omega))
    refine wpAny_bind (fin_ (s := { s with heap := h, toks := tk }) (A := A.in1) hh D hst hend fun h' he => ?_)
    refine wpAny_pure (hR h' tk acc c as (fun b o q0 q1 q2 q3 q4 e => he b o q1 q2 q3 q4 (hkeep b o q0 q1 q2 q3 q4 e)) (he S _ (Nat.ne_of_gt dz) (Nat.ne_of_gt dTO) (Nat.ne_of_gt di1) (Nat.ne_of_gt di2) hS) (by omega) ⟨hG.rise, hG.above, fun j a hj => ?_⟩ hacc)
    obtain ⟨x, y, e1, e2, e3⟩ := hG.pairs j a hj
    have := hG.above a (List.mem_of_getElem? hj)
    exact ⟨x, y, e1, e2, he a _ (Nat.ne_of_gt (Nat.lt_trans dz this)) (Nat.ne_of_gt (Nat.lt_trans dTO this)) (Nat.ne_of_gt (Nat.lt_trans di1 this)) (Nat.ne_of_gt (Nat.lt_trans di2 this)) e3⟩
  | succ k ih =>
    intro i h tk c acc as hk hi hst hkeep hS hacc hal hG
    have hlt : i < min xs.size ys.size := by omega
    have hsz : acc.size = i := by rw [← Array.length_toList, hacc, List.length_map, hal]
    have ex := Array.getElem?_eq_getElem (xs := xs) (i := i) (by omega)
    have ey := Array.getElem?_eq_getElem (xs := ys) (i := i) (by omega)
    have hSl : S < h.objs.size := Heap.lt_size hS
    refine codeAny_builtin PySem.F.entry_extend_loop ?_
    rw [Around.under_plainId PySem.F.plain_extend_loop _]
    show wpAny _ A.in1 (pyNext (.ref z) >>= _) _ _ _
    refine wpAny_bind (item (s := { s with heap := h, toks := tk }) D hst hSl ex ey fun h' hst' ht hkp => ?_)
    dsimp only at ht hkp ⊢
    have hS' := hkp S _ (Nat.ne_of_gt dz) (Nat.ne_of_gt dTO) (Nat.ne_of_gt di1) (Nat.ne_of_gt di2) hS
    have up : ∀ b o, b ≠ S → h'.get? b = some o → (h'.update S (Obj.mapSeq (·.push (Value.ref h.objs.size)))).get? b = some o := fun b o hb e => (Heap.get?_update_other _ _ (Ne.symm hb)).trans e
    show wpAny _ A.in1 (updateSeq S (·.push (Value.ref h.objs.size)) >>= _) _ _ _
    refine wpAny_bind ?_
    refine wpAny_updateSeq hS' rfl (wpAny_pure ⟨plainId_quiet PySem.F.plain_extend_loop _, ih (i + 1) _ tk _ (acc.push (Value.ref h.objs.size)) (as ++ [h.objs.size]) (by omega) hlt (hst'.keep n up)
      (fun b o q0 q1 q2 q3 q4 e => up b o q0 (hkp b o q1 q2 q3 q4 (hkeep b o q0 q1 q2 q3 q4 e))) (Heap.get?_update_self _ hS' rfl) (by rw [Array.toList_push, hacc, List.map_append]; rfl) (by rw [List.length_append, hal]; rfl) ⟨?_, ?_, ?_⟩⟩) (by rw [hsz]; omega) (by show (acc.push (Value.ref h.objs.size)).size ≤ sizeLine + 1; rw [Array.size_push, hsz]; omega)
    · refine List.pairwise_append.mpr ⟨hG.rise, List.pairwise_singleton _ _, fun a ha b hb => ?_⟩
      rw [List.mem_singleton.mp hb]
      exact hG.there ha
    · intro a ha
      rcases List.mem_append.mp ha with ha | ha
      · exact hG.above a ha
      · rw [List.mem_singleton.mp ha]; exact hSl
    · intro j b hj
      rcases Nat.lt_trichotomy j as.length with q | q | q
      · rw [List.getElem?_append_left q] at hj
        obtain ⟨x, y, e1, e2, e3⟩ := hG.pairs j b hj
        have hb := hG.above b (List.mem_of_getElem? hj)
        exact ⟨x, y, e1, e2, up b _ (Nat.ne_of_gt hb) (hkp b _ (Nat.ne_of_gt (Nat.lt_trans dz hb)) (Nat.ne_of_gt (Nat.lt_trans dTO hb)) (Nat.ne_of_gt (Nat.lt_trans di1 hb)) (Nat.ne_of_gt (Nat.lt_trans di2 hb)) e3)⟩
      · subst q
        have hb : h.objs.size = b := by simpa using hj
        subst hb
        exact ⟨_, _, by rw [hal]; exact ex, by rw [hal]; exact ey, up _ _ (Nat.ne_of_gt hSl) ht⟩
      · have hnone : (as ++ [h.objs.size])[j]? = none := List.getElem?_eq_none (by rw [List.length_append, List.length_singleton]; omega)
        rw [hnone] at hj; cases hj
theorem extend (hh : A.handled = none) (D : ZipApart z TI TO i1 i2 l1 l2) (n : z < S ∧ TI < S ∧ TO < S ∧ i1 < S ∧ i2 < S ∧ l1 < S ∧ l2 < S) (hn : min xs.size ys.size ≤ sizeLine) (res : Value) (c₀ : Nat) (st : St z TI TO i1 i2 l1 l2 S xs ys 0 s.heap)
    (hz : IsZip s.heap z TI TO .none) (hS : s.heap.get? S = some { cls := .type "list", data := .seq #[] c₀ })
    (hR : ∀ h' tk acc c as, (∀ b o, b ≠ S → b ≠ z → b ≠ TO → b ≠ i1 → b ≠ i2 → s.heap.get? b = some o → h'.get? b = some o) → h'.get? S = some { cls := .type "list", dict := none, data := .seq acc c, slots := #[] } → as.length = min xs.size ys.size → Made S xs ys h' as →
      acc.toList = as.map Value.ref → R (.ok (.ret res)) { s with heap := h', toks := tk }) :
    wpAny (model prog w) A.in1 (Builtin.List.listExtendWith (.ref S) (.ref z) res)
      (fun fin s' => match fin with | .done f => R (.ok f) s' | .again c' => c'.quiet = true ∧ codeAny (model prog w) A c' R s') (fun e s' => R (.error e) s') s := by
  have hSI : S ≠ z := Nat.ne_of_gt n.1
  have hT := type_of st
  unfold Builtin.List.listExtendWith
  refine wpAny_bind (wpAny_typeOf hT ?_)
  have h1 : Builtin.List.listSameRef (.ref S) (.ref z) = false := by simp [Builtin.List.listSameRef, hSI]
  have h2 : (Value.type "zip" == Value.type "list") = false := by decide
  have h3 : (Value.type "zip" == Value.type "tuple") = false := by decide
  simp only [h1, h2, h3, Bool.or_false, Bool.false_eq_true, if_false]
  refine wpAny_bind (wpAny_pyIter_zip hz ?_)
  refine wpAny_bind (wpAny_holding ?_)
  unfold Builtin.List.listLengthHint
  refine wpAny_bind (wpAny_specialOf hT nolen ?_)
  show wpAny _ A.in1 (specialOf (Value.ref z) (Str.ofString "__length_hint__") >>= _) _ _ _
  refine wpAny_bind (wpAny_specialOf hT nohint ?_)
  refine wpAny_pure ?_
  show wpAny _ A.in1 (rule "list.extend.makes-room" >>= fun _ => Builtin.List.listTouch (.ref S) >>= fun _ =>
    again (.builtin "list.extend.loop" ⟨[.ref S, .ref z, res], []⟩)) _ _ _
  refine wpAny_bind (wpAny_rule ?_)
  refine wpAny_bind ?_
  show wpAny _ A.in1 (updateSeq S (·.push .none) >>= fun _ => updateSeq S (·.pop)) _ _ _
  refine wpAny_bind (wpAny_updateSeq hS rfl ?_)
  have hS₂ := Heap.get?_update_self (Obj.mapSeq (·.push Value.none)) hS rfl
  refine wpAny_updateSeq (hz := by seq_fits) hS₂ rfl ?_
  have hS₃ := Heap.get?_update_self (Obj.mapSeq (·.pop)) hS₂ rfl
  have oth : ∀ b o, b ≠ S → s.heap.get? b = some o → ((s.heap.update S (Obj.mapSeq (·.push Value.none))).update S (Obj.mapSeq (·.pop))).get? b = some o :=
    fun b o hb e => (Heap.get?_update_other _ _ (Ne.symm hb)).trans ((Heap.get?_update_other _ _ (Ne.symm hb)).trans e)
  exact wpAny_pure ⟨plainId_quiet PySem.F.plain_extend_loop _, loop hh D n hn res hR _ 0 _ s.toks _ _ [] rfl (Nat.zero_le _) (st.keep n oth) (fun b o q0 _ _ _ _ e => oth b o q0 e) hS₃ rfl rfl ⟨List.Pairwise.nil, (fun _ h => nomatch h), fun j a h => by simp at h⟩⟩
theorem init (hh : A.handled = none) (D : ZipApart z TI TO i1 i2 l1 l2) (n : z < S ∧ TI < S ∧ TO < S ∧ i1 < S ∧ i2 < S ∧ l1 < S ∧ l2 < S) (hn : min xs.size ys.size ≤ sizeLine) (st : St z TI TO i1 i2 l1 l2 S xs ys 0 s.heap)
    (hz : IsZip s.heap z TI TO .none) (hS : s.heap.get? S = some { cls := .type "list", data := .seq #[] })
    (hR : ∀ h' tk acc c as, (∀ b o, b ≠ S → b ≠ z → b ≠ TO → b ≠ i1 → b ≠ i2 → s.heap.get? b = some o → h'.get? b = some o) → h'.get? S = some { cls := .type "list", dict := none, data := .seq acc c, slots := #[] } → as.length = min xs.size ys.size → Made S xs ys h' as →
      acc.toList = as.map Value.ref → R (.ok (.ret .none)) { s with heap := h', toks := tk }) :
    wpAny (model prog w) A.in1 (Builtin.«list.__init__» ⟨[.ref S, .ref z], []⟩)
      (fun fin s' => match fin with | .done f => R (.ok f) s' | .again c' => c'.quiet = true ∧ codeAny (model prog w) A c' R s') (fun e s' => R (.error e) s') s := by
  show wpAny _ A.in1 (do let old ← Builtin.List.listItems (.ref S); Builtin.List.listUpdate (.ref S) (fun _ => #[]); letGo old.toList.reverse; Builtin.List.listExtendWith (.ref S) (.ref z) .none) _ _ s
  refine wpAny_bind ?_
  unfold Builtin.List.listItems
  refine wpAny_bind (wpAny_seqItems hS rfl (wpAny_pure ?_))
  show wpAny _ A.in1 (updateSeq S (fun _ => #[]) >>= fun _ => letGo (#[] : Array Value).toList.reverse >>= fun _ => Builtin.List.listExtendWith (.ref S) (.ref z) .none) _ _ s
  refine wpAny_bind (wpAny_updateSeq hS rfl ?_)
  have hS₂ := Heap.get?_update_self (Obj.mapSeq (fun _ => (#[] : Array Value))) hS rfl
  have oth : ∀ b o, b ≠ S → s.heap.get? b = some o → (s.heap.update S (Obj.mapSeq (fun _ => (#[] : Array Value)))).get? b = some o :=
    fun b o hb e => (Heap.get?_update_other _ _ (Ne.symm hb)).trans e
  refine wpAny_bind (wpAny_letGo ?_)
  exact extend hh D n hn .none _ (st.keep n oth) (oth _ _ (Nat.ne_of_lt n.1) hz) hS₂ fun h' tk acc c as hk hS' hl hG hacc => hR h' tk acc c as (fun b o q0 q1 q2 q3 q4 e => hk b o q0 q1 q2 q3 q4 (oth b o q0 e)) hS' hl hG hacc
end
section
variable {z TI TO i1 i2 l1 l2 : Addr} {xs ys : Array Value} {prog : Program} {w : World} {A : Around} {E : Value → Shared → Prop} {s : Shared}
theorem call {Q : Value → Shared → Prop} (hh : A.handled = none) (D : ZipApart z TI TO i1 i2 l1 l2) (hn : min xs.size ys.size ≤ sizeLine) (hz : IsZip s.heap z TI TO .none) (hTI : IsPair s.heap TI (.ref i1) (.ref i2)) (hTO : ∃ a b, IsPair s.heap TO a b)
    (h1 : s.heap.IsListIter i1 l1 0) (h2 : s.heap.IsListIter i2 l2 0) (hl1 : s.heap.IsList l1 xs) (hl2 : s.heap.IsList l2 ys)
    (hQ : ∀ h' tk acc c as, (∀ b o, b ≠ z → b ≠ TO → b ≠ i1 → b ≠ i2 → s.heap.get? b = some o → h'.get? b = some o) → h'.get? s.heap.objs.size = some { cls := .type "list", dict := none, data := .seq acc c, slots := #[] } → as.length = min xs.size ys.size →
      Made s.heap.objs.size xs ys h' as → acc.toList = as.map Value.ref → Q (.ref s.heap.objs.size) { s with heap := h', toks := tk }) :
    wpAny (model prog w) A (PySem.call (.type "list") [.ref z]) Q E s := by
  have n : z < s.heap.objs.size ∧ TI < s.heap.objs.size ∧ TO < s.heap.objs.size ∧ i1 < s.heap.objs.size ∧ i2 < s.heap.objs.size ∧ l1 < s.heap.objs.size ∧ l2 < s.heap.objs.size :=
    ⟨Heap.lt_size hz, Heap.lt_size hTI, (let ⟨_, _, e⟩ := hTO; Heap.lt_size e), (let ⟨_, e, _⟩ := h1; Heap.lt_size e), (let ⟨_, e, _⟩ := h2; Heap.lt_size e), (let ⟨_, e, _⟩ := hl1; Heap.lt_size e), (let ⟨_, e, _⟩ := hl2; Heap.lt_size e)⟩
  refine callType_codes (Q₁ := fun obj s₁ => obj = .ref s.heap.objs.size ∧ s₁ = { s with heap := s.heap.push { cls := .type "list", data := .seq #[] } }) PySem.F.called_list (PySem.F.typeCall_list_1 _) PySem.F.entry_list_init
    (code_list_new _ ⟨rfl, rfl⟩) fun obj s₁ h₁ => ?_
  obtain ⟨rfl, rfl⟩ := h₁
  have hS : (s.heap.push { cls := .type "list", data := .seq #[] }).get? s.heap.objs.size = some { cls := .type "list", data := .seq #[] } := Heap.get?_push_size _ rfl
  have up : ∀ b o, s.heap.get? b = some o → (s.heap.push { cls := .type "list", data := .seq #[] }).get? b = some o := fun b o e => Heap.get?_push_of_some _ e
  have st : St z TI TO i1 i2 l1 l2 s.heap.objs.size xs ys 0 s.heap := ⟨hTI, h1, h2, hl1, hl2, .inl ⟨hz, hTO⟩⟩
  refine ⟨⟨_, hS, rfl⟩, PySem.F.args_list_init_2 _ _, init (A := A.in1) hh D n hn (st.keep n fun b o _ e => up b o e) (up _ _ hz) hS fun h' tk acc c as hk hS' hl hG hacc => ?_⟩
  exact ⟨rfl, hQ h' tk acc c as (fun b o q1 q2 q3 q4 e => hk b o (Nat.ne_of_lt (Heap.lt_size e)) q1 q2 q3 q4 (up b o e)) hS' hl hG hacc⟩
end
end ZL
namespace L2
open PySem PySem.W PySem.Calls PyProof.Rows PyProof.V PySem.Spec
variable {X : Cx} {e e2 : Expr} {ta : TA} {p pos p' pos' : Pos}
def ZipPost (X : Cx) (pins : List (Addr × Obj)) (σ : St) (R : Addr → Addr → List V → List V → Hp → Prop) (v : Value) (s : Shared) : Prop :=
  ∃ (z TI TO i1 i2 a b : Addr) (its its2 : List Value) (xs ys : List V) (H1 : Hp), v = .ref z ∧ ZipApart z TI TO i1 i2 a b ∧ IsZip s.heap z TI TO .none ∧ IsPair s.heap TI (.ref i1) (.ref i2) ∧ (∃ x y, IsPair s.heap TO x y) ∧ s.heap.IsListIter i1 a 0 ∧ s.heap.IsListIter i2 b 0 ∧
    s.heap.IsList a its.toArray ∧ s.heap.IsList b its2.toArray ∧ Vals xs its ∧ Vals ys its2 ∧ xs.length ≤ sizeLine ∧ Inv X pins σ H1 s ∧ (∀ c ∈ [z, TO, i1, i2], FpOk X pins H1 c) ∧ R a b xs ys H1
/-- the new pairs -/
def PairsAt (H1 H2 : Hp) (as : List Addr) (xs ys : List V) : Prop := as.length = min xs.length ys.length ∧ ∀ (j : Nat) (c : Addr), as[j]? = some c → H1 c = none ∧ ∃ x y, xs[j]? = some x ∧ ys[j]? = some y ∧ H2 c = some (.tup [x, y])
def tLstZip (K : PySem.W.Frag) (ta : TA) : TE := fun σ H Q => ta σ H fun vs H1 => ∃ a b xs ys, vs = [.ref a, .ref b] ∧ SqL K H1 a xs ∧ SqL K H1 b ys ∧
  ∀ H2 as q, (∀ c o, H1 c = some o → H2 c = some o) → PairsAt H1 H2 as xs ys → H1 q = none → H2 q = some (.lst (as.map V.ref)) → Q (.ref q) H2
end L2
namespace DL
open PySem L2
open Enc (en)
def dLZip (t : DA) : DE := fun ρ Q E => t ρ (fun rs ρ1 => ∃ d e ρ2 ch ch', tkFL ρ1 rs = some ([d, e], ρ2) ∧ listOf d = some ch ∧ listOf e = some ch' ∧ Q (.t (.own (zipL ch ch'))) ρ2) E
section
variable {X : Cx} {cn : String → Addr} {E : WX} {a b : Expr} {t : DA} {p pos p' pos' : Pos}
open Classical in
end
section
variable {ρ : Env} {t : DA} {Q : Rv → Env → Prop} {E : Exn → Env → Prop}
/-- the pairs as a new list -/
def lzK (xs : List Rv) (ρ : Env) (Q : Rv → Env → Prop) : Prop := ∃ d e ρ2 ch ch', tkFL ρ xs = some ([d, e], ρ2) ∧ listOf d = some ch ∧ listOf e = some ch' ∧ Q (.t (.own (zipL ch ch'))) ρ2
end
end DL
/-! DL61: e.f, a field of an object (own or shared) that is itself shared, as a value. -/
namespace DL
open PySem L2
open Enc (en)
/-- the field of an object -/
def fldD (c : String) (f : Str) : D → Option D
  | .n _ (.obj c' ns) ch => if c' = c then (fldN ns f).bind fun m => ch[m]? else none
  | _ => none
def dOF (c : String) (f : Str) (te : DE) : DE := fun ρ Q E => te ρ (fun x ρ1 => ∃ d0 d, look ρ1 x = some d0 ∧ fldD c f d0 = some d ∧ d.isFz = true ∧ Q (.t d) ρ1) E
section
variable {X : Cx} {cn : String → Addr} {E : WX} {o : Expr} {te : DE} {c : String} {f : Str} {pos : Pos}
end
section
variable {ρ : Env} {te : DE} {c : String} {f : Str} {Q : Rv → Env → Prop} {E : Exn → Env → Prop}
def ofK (c : String) (f : Str) (x : Rv) (ρ : Env) (Q : Rv → Env → Prop) : Prop := ∃ d0 d, look ρ x = some d0 ∧ fldD c f d0 = some d ∧ d.isFz = true ∧ Q (.t d) ρ
end
end DL
/-! DL62: e.m(e1, ..), a method of a shared object. -/
namespace DL
open PySem L2
open Enc (en)
def isObjD (c : String) (nm : Str) : D → Bool
  | .n _ (.obj c' ns) _ => decide (c' = c) && (fldN ns nm).isNone
  | _ => false
def dMethF (c : String) (nm : Str) (ms : List Bool) (s : SpD) (te : DE) (t : DA) : DE := fun ρ Q E => te ρ (fun x ρ0 => (∃ d, look ρ0 x = some d ∧ isObjD c nm d = true) ∧ t ρ0 (fun rs ρ1 => ∃ ds ρ2, argL (false :: ms) ρ1 (x :: rs) = some (ds, ρ2) ∧
  s ds (fun res ds' => ∃ ρ3, backL ρ1 (false :: ms) ρ2 (x :: rs) ds' = some ρ3 ∧ Q (.t res) ρ3) (fun u ds' => ∃ ρ3, backL ρ1 (false :: ms) ρ2 (x :: rs) ds' = some ρ3 ∧ E u ρ3)) E) E
section
variable {X : Cx} {cn : String → Addr} {E : WX}
end
section
variable {ρ : Env} {te : DE} {t : DA} {c : String} {nm : Str} {ms : List Bool} {s : SpD} {Q : Rv → Env → Prop} {E : Exn → Env → Prop}
/-- the object is looked at, then the arguments -/
def mfK (c : String) (nm : Str) (ms : List Bool) (s : SpD) (x : Rv) (ρ0 : Env) (t : DA) (Q : Rv → Env → Prop) (E : Exn → Env → Prop) : Prop := (∃ d, look ρ0 x = some d ∧ isObjD c nm d = true) ∧ t ρ0 (fun rs ρ1 => caK (false :: ms) (x :: rs) ρ1 fun ds ρ2 => s ds (fun res ds' => baK ρ1 (false :: ms) ρ2 (x :: rs) ds' fun ρ3 => Q (.t res) ρ3) (fun u ds' => baK ρ1 (false :: ms) ρ2 (x :: rs) ds' fun ρ3 => E u ρ3)) E
end
end DL
/-! DL63: C(e1, ..), the arguments shared. -/
namespace DL
open PySem L2
open Enc (en)
section
variable {X : Cx} {cn : String → Addr} {E : WX}
def dMakeF (c : String) (s : SpD) (t : DA) : DE := fun ρ Q E => t ρ (fun rs ρ1 => ∃ ds ρ2, tkFL ρ1 rs = some (ds, ρ2) ∧ s (.n true (.obj c []) [] :: ds) (fun res ds' => res = .p .non ∧ ∃ d dr, ds' = d :: dr ∧ isFzL dr = true ∧ Q (.t d) ρ2) (fun _ _ => False)) E
end
section
variable {ρ : Env} {t : DA} {c : String} {s : SpD} {Q : Rv → Env → Prop} {E : Exn → Env → Prop}
def mkFK (c : String) (s : SpD) (rs : List Rv) (ρ1 : Env) (Q : Rv → Env → Prop) : Prop := ∃ ds ρ2, tkFL ρ1 rs = some (ds, ρ2) ∧ s (.n true (.obj c []) [] :: ds) (fun res ds' => res = .p .non ∧ ∃ d dr, ds' = d :: dr ∧ isFzL dr = true ∧ Q (.t d) ρ2) (fun _ _ => False)
end
end DL
/-! DL64: abs(i); x.f.pop(), a method without arguments of an own part of an own object. -/
namespace DL
open PySem L2
open Enc (en)
def qAbs : OpL := fun ds Q => ∃ i : Int, ds = [.p (.int i)] ∧ Q (.p (.int (if i < 0 then -i else i)))
section
variable {X : Cx} {cn : String → Addr} {E : WX} {e : Expr} {c : String} {f : Str} {T : String}
def dMutF0 (c : String) (f : Str) (T : String) (i : Nat) (r : OpM) : DE := fun ρ Q E => ∃ m d, ofld ρ i c f = some (m, d) ∧ tyM d = T ∧ (T = "list" ∨ T = "dict") ∧
  ∃ s root k1 rc k ch, ρ[i]? = some s ∧ s.d? = some root ∧ root = .n true k1 rc ∧ root.at [m] = some (.n true k ch) ∧ r k ch [] fun k' ch' res => Q (.t res) ((killB i ρ).set i (s.re (root.put [m] (.n true k' ch'))))
end
end DL
/-! DL65: x.m() of an own object; x.f.append((x.g, x.h)). -/
namespace DL
open PySem L2
open Enc (en)
section
variable {X : Cx} {cn : String → Addr} {E : WX}
/-- x.f.append((x.g, x.h)), x own, x.f own, x.g and x.h shared -/
def dPushF (c : String) (f g h : Str) (i : Nat) : DE := fun ρ Q E => ∃ m d mg dg mh dh, ofld ρ i c f = some (m, d) ∧ ofld ρ i c g = some (mg, dg) ∧ ofld ρ i c h = some (mh, dh) ∧ dg.isFz = true ∧ dh.isFz = true ∧
  ∃ s root k1 rc ch, ρ[i]? = some s ∧ s.d? = some root ∧ root = .n true k1 rc ∧ root.at [m] = some (.n true .lst ch) ∧ d = .n true .lst ch ∧ ch.length < 100000 ∧ Q (.t (.p .non)) ((killB i ρ).set i (s.re (root.put [m] (.n true .lst (ch ++ [.n false .tup [dg, dh]])))))
end
end DL
/-! DL66: C(e1, ..) and C(), the last parameters by their defaults. -/
namespace DL
open PySem L2
open Enc (en)
section
variable {X : Cx} {cn : String → Addr} {E : WX}
def dMakeFD (c : String) (dvs : List V) (s : SpD) (t : DA) : DE := fun ρ Q E => t ρ (fun rs ρ1 => ∃ ds ρ2, tkFL ρ1 rs = some (ds, ρ2) ∧ s (.n true (.obj c []) [] :: (ds ++ dvs.map D.p)) (fun res ds' => res = .p .non ∧ ∃ d dr, ds' = d :: dr ∧ isFzL dr = true ∧ Q (.t d) ρ2) (fun _ _ => False)) E
def dMake0D (c : String) (dvs : List V) (s : SpD) : DE := fun ρ Q _ => s (.n true (.obj c []) [] :: dvs.map D.p) (fun res ds' => res = .p .non ∧ ∃ d dr, ds' = d :: dr ∧ isFzL dr = true ∧ Q (.t d) ρ) (fun _ _ => False)
end
section
variable {ρ : Env} {t : DA} {c : String} {dvs : List V} {s : SpD} {Q : Rv → Env → Prop} {E : Exn → Env → Prop}
def mkDK (c : String) (dvs : List V) (s : SpD) (rs : List Rv) (ρ1 : Env) (Q : Rv → Env → Prop) : Prop := ∃ ds ρ2, tkFL ρ1 rs = some (ds, ρ2) ∧ s (.n true (.obj c []) [] :: (ds ++ dvs.map D.p)) (fun res ds' => res = .p .non ∧ ∃ d dr, ds' = d :: dr ∧ isFzL dr = true ∧ Q (.t d) ρ2) (fun _ _ => False)
end
end DL
/-! DL67: e.m(e1, ..), e a new own list or dict that is forgotten behind it. -/
namespace DL
open PySem L2
open Enc (en)
section
variable {X : Cx} {cn : String → Addr} {E : WX} {e : Expr} {T : String}
def dMutT (T : String) (r : OpM) (te : DE) (t : DA) : DE := fun ρ Q E => te ρ (fun x ρ1 => (∃ k ch, x = .t (.n true k ch) ∧ tyM (.n true k ch) = T ∧ (T = "list" ∨ T = "dict")) ∧ t ρ1 (fun rs ρ2 => ∃ k ch es ρ3, x = .t (.n true k ch) ∧ tkL ρ2 rs = some (es, ρ3) ∧ r k ch es fun _ _ res => res.isFz = true ∧ Q (.t res) ρ3) E) E
end
end DL
/-! DL68: x.m(e1, ..), the last parameters by their defaults. -/
namespace DL
open PySem L2
open Enc (en)
section
variable {X : Cx} {cn : String → Addr} {E : WX}
end
end DL
/-! DL69: x["s"][k] = e, an own dict (or list) in an own dict. -/
namespace DL
open PySem L2
open Enc (en)
def keyN : List Key → Key → Option Nat
  | [], _ => none
  | g :: ks, f => if g = f then some 0 else (keyN ks f).map (· + 1)
section
variable {X : Cx} {cn : String → Addr} {E : WX}
def dPutK (n : Nat) (key : Str) (r : OpM) (kk : Nat) (te : DE) : DS := fun D ρ => te ρ (fun x ρ1 => ∃ s0 ks rc m dk, ρ1[n]? = some s0 ∧ s0.d? = some (.n true (.dic ks) rc) ∧ keyN ks (.inr key) = some m ∧ slD ρ1 kk = some dk ∧
  ∃ es ρ2 s root k1 rc k ch, tkL ρ1 [.s kk, x] = some (es, ρ2) ∧ ρ2[n]? = some s ∧ s.d? = some root ∧ root = .n true k1 rc ∧ root.at [m] = some (.n true k ch) ∧ r k ch es fun k' ch' _ => D.nx ((killB n ρ2).set n (s.re (root.put [m] (.n true k' ch'))))) D.ex
end
end DL
/-! DL70: min of things that are ordered data. -/
namespace DL
open PySem L2 PyProof.Rows PySem.W
open Enc (en)
section
variable {α : Type} [DecidableEq α] [DatumOrd α]
end
end DL
/-! DL71: range with a step of -1; max of three whole numbers. -/
namespace DL
open PySem L2
open Enc (en)
def rngD (hi : Int) (n : Nat) : List D := (List.range n).map fun i => D.p (.int (hi - (i : Nat)))
def dIRngD (t : DA) : DI := fun ρ Q E => t ρ (fun rs ρ1 => ∃ i j : Int, lookL ρ1 rs = some [.p (.int i), .p (.int j), .p (.int (-1))] ∧ (-(2 ^ 62) ≤ i ∧ i < 2 ^ 62 ∧ -(2 ^ 62) ≤ j ∧ j < 2 ^ 62) ∧ Q (rngD i (i - j).toNat) ρ1) E
section
variable {K : PySem.W.Frag} {X : Cx} {cn : String → Addr} {E : WX} {tg iter : Expr} {t : DA} {G : Hp}
end
def qMax3 : OpL := fun ds Q => ∃ i j k : Int, ds = [.p (.int i), .p (.int j), .p (.int k)] ∧ Q (.int (max (max i j) k))
section
variable {X : Cx}
end
section
variable {ρ ρ1 : Env} {QI : List D → Env → Prop} {E : Exn → Env → Prop} {tA : DA} {xs : List Rv}
def rgDK (xs : List Rv) (ρ : Env) (k : List D → Env → Prop) : Prop := ∃ i j : Int, lookL ρ xs = some [.p (.int i), .p (.int j), .p (.int (-1))] ∧ (-(2 ^ 62) ≤ i ∧ i < 2 ^ 62 ∧ -(2 ^ 62) ≤ j ∧ j < 2 ^ 62) ∧ k (rngD i (i - j).toNat) ρ
end
end DL
/-! DL72: len(set(xs)) of texts, however many. -/
namespace DL
open PySem PySem.Spec
/-- each thing once, as they come -/
def nubS {α : Type} [DecidableEq α] : List α → List α → List α
  | acc, [] => acc
  | acc, x :: r => if x ∈ acc then nubS acc r else nubS (acc ++ [x]) r
def nubT {α : Type} [DecidableEq α] (xs : List α) : List α := nubS [] xs
section
variable {α : Type} [DecidableEq α]
end
section
variable {P : Program} {w : World} {A : Around} {R : Result → Shared → Prop} {it : Addr} {fp wr : List Addr} {G : Array GenState → Array GenState → Prop} {n : Nat} {V1 : Nat → Value → Prop} {St : Nat → Shared → Prop}
/-- the set of the texts met so far -/
def SetTx (P : Program) (w : World) (h : Heap) (S : Addr) (ys : List Str) : Prop := h.SetOf (PySem.strKind P w) S (fun u => decide (u ∈ nubT ys)) (nubT ys).length
theorem SetTx.old {h h' : Heap} {S : Addr} {ys : List Str} (q : SetTx P w h S ys) (k : ∀ o, h.get? S = some o → h'.get? S = some o) : SetTx P w h' S ys := by
  obtain ⟨o, a, b, c, e, more⟩ := q
  exact ⟨o, a, b, c, k o e, more⟩
end
section
variable {P : Program} {w : World} {A : Around} {E : Value → Shared → Prop} {s : Shared}
abbrev set0 (led : Bool) : Obj := { cls := .type "set", dict := none, data := .set #[] 0 (.fresh 0 0 led) }
end
section
open L2 PyProof.Rows
open Enc (en)
variable {X : Cx} {cn : String → Addr} {E : WX}
def tLenTx (K : PySem.W.Frag) (ta : TE) : TE := fun σ H Q => ta σ H fun x H1 => ∃ (l : Addr) (xs : List Str), x = .ref l ∧ SqL K H1 l (xs.map V.str) ∧ xs.length ≤ 4000 ∧ Q (.int ((nubT xs).length : Nat)) H1
def dLenTx (ta : DE) : DE := fun ρ Q E => ta ρ (fun x ρ1 => ∃ (d : D) (xs : List Str), look ρ1 x = some d ∧ listOf d = some (xs.map en) ∧ xs.length ≤ 4000 ∧ Q (.t (.p (.int ((nubT xs).length : Nat)))) ρ1) E
end
section
open Enc (en)
variable {ρ : Env} {ta : DE} {Q : Rv → Env → Prop} {E : Exn → Env → Prop} {x : Rv}
def ltxK (x : Rv) (ρ : Env) (Q : Rv → Env → Prop) : Prop := ∃ (d : D) (xs : List Str), look ρ x = some d ∧ listOf d = some (xs.map en) ∧ xs.length ≤ 4000 ∧ Q (.t (.p (.int ((nubT xs).length : Nat)))) ρ
end
end DL
/-! DL73: a dict's keys walked: the dict is locked meanwhile. -/
namespace DL
open PySem L2
open Enc (en)

/-! ### a world in which one dict is locked -/
structure Chg (K : PySem.W.Frag) (G H G' H' : Hp) : Prop where
  nd : ∀ b k vs, NdF K G b k vs → NdF K G' b k vs
  xd : ∀ b vs, G b = some (.xd vs) → G' b = some (.xd vs)
  no : ∀ b, G b = none → G' b = none
  ow : ∀ b o, G b = none → H b = some o → H' b = some o
section
variable {K : PySem.W.Frag} {G H G' H' : Hp}
mutual
theorem Rp.chg (c : Chg K G H G' H') : ∀ {v : V} (d : D) {F : List Addr}, Rp K G H v d F → Rp K G' H' v d F
  | _, .p v, _, h => by
    cases h
    exact Rp.p _
  | _, .n ow k ch, _, h => by
    cases h with
    | f h1 h2 => exact Rp.f (c.nd _ _ _ h1) (RpL.chg c ch h2)
    | o h0 h1 h3 h2 => exact Rp.o (c.no _ h0) (h1.keep fun o ho => c.ow _ o h0 ho) h3 (RpL.chg c ch h2)
theorem RpL.chg (c : Chg K G H G' H') : ∀ {vs : List V} (ds : List D) {F : List Addr}, RpL K G H vs ds F → RpL K G' H' vs ds F
  | _, [], _, h => by
    cases h
    exact RpL.nil
  | _, d :: ds, _, h => by
    cases h with
    | cons h1 h2 h3 => exact RpL.cons (Rp.chg c d h1) (RpL.chg c ds h2) h3
end
theorem Mt.chg {pv : Nat → V} {σ : St} {ρ : Env} {fp : Fps} (m : Mt K pv σ ρ G H fp) (c : Chg K G H G' H') (s : Sub G' H') : Mt K pv σ ρ G' H' fp where
  sub := s
  len := m.len
  sl := fun i d e => by
    obtain ⟨x, h1, h2⟩ := m.sl i d e
    exact ⟨x, h1, h2.chg c⟩
  pn := fun i d e => by
    obtain ⟨h1, h2⟩ := m.pn i d e
    exact ⟨h1, h2.chg c⟩
  br := fun i j q e => by
    obtain ⟨x, y, h1, h2, h3⟩ := m.br i j q e
    exact ⟨x, y, h1, h2, h3.mono (fun a o z => c.ow a o (m.ft j a z).1) fun _ z => z⟩
  ap := m.ap
  ft := fun i a ha => ⟨c.no a (m.ft i a ha).1, by
    obtain ⟨h0, o, h2⟩ := m.ft i a ha
    exact ⟨o, c.ow a o h0 h2⟩⟩
theorem ExOk.chg {cn : String → Addr} {x : Exn} {cls : Value} {dx : Option Addr} (c : Chg K G H G' H') (h : ExOk K cn G H x cls dx) : ExOk K cn G' H' x cls dx := by
  obtain ⟨h1, h2⟩ := h
  refine ⟨h1, ?_⟩
  cases hf : x.f with
  | none => rw [hf] at h2; exact h2
  | some fd =>
    obtain ⟨f, d⟩ := fd
    rw [hf] at h2
    obtain ⟨a, v, e1, e2, e3⟩ := h2
    exact ⟨a, v, e1, c.xd _ _ e2, e3.chg c⟩
end

/-! ### errors that leave a locked world -/
def lockW (X : Cx) (W : WX) : WX := fun c d σ H => W c d σ H ∨ ∃ a od u, H a = some (.frz od u) ∧ (∀ o' u', X.H_0 a ≠ some (.frz o' u')) ∧ W c d σ (L2.upd H a u)
/-! ### what runs while the dict in slot i is locked -/
/-- the dict in slot i is not open -/
def LkS (σ : St) (i : Nat) (H : Hp) : Prop := ∀ a kvs, σ[i]? = some (some (.ref a)) → H a ≠ some (.dK kvs)
def dLk (i : Nat) (t : DS) : DS := fun D ρ => (∃ ks ch, slD ρ i = some (.n false (.dic ks) ch)) ∧ t D ρ
def dLkE (i : Nat) (t : DE) : DE := fun ρ Q E => (∃ ks ch, slD ρ i = some (.n false (.dic ks) ch)) ∧ t ρ Q E
section
variable {X : Cx} {cn : String → Addr} {E : WX}
section
variable {pv : Nat → V} {σ γ : St} {n : Nat} {ρ : Env} {G H : Hp} {fp : Fps} {a : Addr} {od : Obj} {kvs : List (Key × V)}
end
/-! ### the keys -/
def dIKey (i : Nat) : DI := fun ρ Q _ => ∃ ks ch, slD ρ i = some (.n false (.dic ks) ch) ∧ Q (ks.map keyE) ρ
/-- for k in <the dict in slot i> -/
def dForK (i : Nat) (g : DG) (tb : DS) (vs : List Nat) : DS := dLk i (dForW (dIKey i) g tb vs)
/-- [.. for k in <the dict in slot i>] -/
def dLcK (i : Nat) (g : DG) (tt : DT) (te : DE) (vs : List Nat) : DE := dLkE i (dLc (dIKey i) g tt te vs)
/-- a slot's value is shared from now on -/
def dFzI (i : Nat) (t : DS) : DS := fun D ρ => ∃ d, ρ[i]? = some (.v d) ∧ t D ((killB i ρ).set i (.v d.fz))
end
/-! ### list(d) -/
def dLKeys (t : DA) : DE := fun ρ Q E => t ρ (fun rs ρ1 => ∃ r ks ch, rs = [r] ∧ look ρ1 r = some (.n true (.dic ks) ch) ∧ Q (.t (.n true .lst (ks.map keyE))) ρ1) E
section
variable {X : Cx} {cn : String → Addr} {E : WX} {e : Expr} {t : DA} {p pos : Pos}
end
/-! ### d == e, of the same keys in the same order -/
def eqDs : List D → List D → Bool
  | [], [] => true
  | a :: r, b :: s => okD a && okD b && eqD a b && eqDs r s
  | _, _ => false
def qEqDD : Op2 := fun d e Q => qEq d e Q ∨ ∃ o o' ks ch ch', d = .n o (.dic ks) ch ∧ e = .n o' (.dic ks) ch' ∧ ks.Nodup ∧ eqDs ch ch' = true ∧ Q (.bl true)
def rEqDD (K : PySem.W.Frag) : R2 := fun x y H Q => rEqP K x y H Q ∨ ∃ a b ks ls, x = .ref a ∧ y = .ref b ∧ Rd H a (.dK ks) ∧ Rd H b (.dK ls) ∧ ks.length = ls.length ∧
  (∀ p ∈ ks, ∃ y d e, valV ls p.1 = some y ∧ Dp K H p.2 d ∧ Dp K H y e ∧ Pl d ∧ Pl e ∧ PyData.eqv d e = true) ∧ Q (.bl true) H
/-! ### running -/
section
variable {n : Env → Prop} {rt : D → Env → Prop} {bk ct : Env → Prop} {ex : Exn → Env → Prop} {ρ ρ1 : Env} {Q : Rv → Env → Prop} {E : Exn → Env → Prop} {i j : Nat} {g : DG} {tb t : DS} {vs : List Nat} {tt : DT} {te : DE} {k : Env → Prop} {d d' : D} {tA : DA}
  {κ β : Type} {i1 : Enc κ} {i2 : KeyE κ} {i3 : Enc β} {kv : List (κ × β)}
def lksK (rs : List Rv) (ρ : Env) (Q : Rv → Env → Prop) : Prop := ∃ r ks ch, rs = [r] ∧ look ρ r = some (.n true (.dic ks) ch) ∧ Q (.t (.n true .lst (ks.map keyE))) ρ
end
end DL
/-! DL74: x[i].m(e, ..), the inner list being x's own (the slot is hidden while the arguments run); a + b of lists that are used up. -/
namespace DL
open PySem L2
open Enc (en)
theorem RvsOk.out {K : PySem.W.Frag} {σ : St} {G H : Hp} {D' : Addr → Prop} : ∀ {rs : List Rv} {P : Addr → Prop} {vs : List V} {F : List Addr}, RvsOk K σ G H P vs rs F → (∀ a ∈ F, ¬ D' a) → RvsOk K σ G H (fun a => P a ∨ D' a) vs rs F
  | [], _, _, _, .nil, _ => .nil
  | r :: rs, P, _, _, .cons (F := F0) (F' := F1) h t, hd => by
    refine .cons ?_ ?_
    · cases r with
      | t d => exact ⟨h.1, fun a ha z => z.elim (h.2 a ha) (hd a (List.mem_append_left _ ha))⟩
      | s i => exact h
    · have := RvsOk.out (D' := D') t fun a ha => hd a (List.mem_append_right _ ha)
      have e : (fun a => (P a ∨ a ∈ F0) ∨ D' a) = fun a => (P a ∨ D' a) ∨ a ∈ F0 := by
        funext a
        exact propext ⟨fun z => z.elim (fun z => z.elim (fun z => .inl (.inl z)) .inr) fun z => .inl (.inr z), fun z => z.elim (fun z => z.elim (fun z => .inl (.inl z)) .inr) fun z => .inl (.inr z)⟩
      rw [e] at this
      exact this
section
variable {X : Cx} {cn : String → Addr} {E : WX}
/-- x[i].m(e, ..): x in slot n an own list of own lists; ix: the index -/
def dMutP (n : Nat) (ix : Env → Option Int) (r : OpM) (tA : DA) : DE := fun ρ Q E => ∃ rc a m ch0, ρ[n]? = some (.v (.n true .lst rc)) ∧ ix ρ = some a ∧ ixN rc.length a = some m ∧ rc[m]? = some (.n true .lst ch0) ∧
  tA ((killB n ρ).set n .un) (fun rs ρ1 => ∃ ρ1', stV ρ1 n (.n true .lst rc) = some ρ1' ∧ ∃ es ρ2 s root rc' k ch, tkL ρ1' rs = some (es, ρ2) ∧ ρ2[n]? = some s ∧ s.d? = some root ∧ root = .n true .lst rc' ∧ root.at [m] = some (.n true k ch) ∧
    r k ch es fun k' ch' res => Q (.t res) ((killB n ρ2).set n (s.re (root.put [m] (.n true k' ch'))))) (fun _ _ => False)
def ixC (c : Int) : Env → Option Int := fun _ => some c
def ixS (i : Nat) : Env → Option Int := fun ρ => match slD ρ i with
  | some (.p (.int a)) => some a
  | _ => none
/-! ### a + b of own lists that are used up -/
def dAddM (ta tb : DE) : DE := fun ρ Q E => ta ρ (fun x ρ1 => tb ρ1 (fun y ρ2 => ∃ xs ys, x = .t (.n true .lst xs) ∧ y = .t (.n true .lst ys) ∧ xs.length + ys.length ≤ 100000 ∧ Q (.t (.n true .lst (xs ++ ys))) ρ2) E) E
end
/-! ### running -/
section
variable {ρ ρ1 ρ2 ρ3 : Env} {Q : Rv → Env → Prop} {E : Exn → Env → Prop} {n : Nat} {ix : Env → Option Int} {r : OpM} {tA : DA} {xs : List Rv} {ta tb : DE} {x y : Rv}
/-- behind the arguments -/
def mpK (n m : Nat) (r : OpM) (d : D) (rs : List Rv) (ρ1 : Env) (Q : Rv → Env → Prop) : Prop := ∃ ρ1', stV ρ1 n d = some ρ1' ∧ ∃ es ρ2 s root rc' k ch, tkL ρ1' rs = some (es, ρ2) ∧ ρ2[n]? = some s ∧ s.d? = some root ∧ root = .n true .lst rc' ∧ root.at [m] = some (.n true k ch) ∧
    r k ch es fun k' ch' res => Q (.t res) ((killB n ρ2).set n (s.re (root.put [m] (.n true k' ch'))))
def adK (x y : Rv) (ρ : Env) (Q : Rv → Env → Prop) : Prop := ∃ xs ys, x = .t (.n true .lst xs) ∧ y = .t (.n true .lst ys) ∧ xs.length + ys.length ≤ 100000 ∧ Q (.t (.n true .lst (xs ++ ys))) ρ
end
end DL
/-! DL75: x[i:j] = ys, ys a new list. -/
namespace L2
open PySem PySem.Spec PyProof.Rows
/-- a target that is a part of a list -/
def gSlc (to : TE) (tl th : TO) (r : Int → Int → V → V → Hp → (Hp → Prop) → Prop) : TG := fun v σ H N => to σ H fun x H1 => tl σ H1 fun l H2 => th σ H2 fun u H3 => ∃ i j, l = some i ∧ u = some j ∧ r i j x v H3 (N σ)
def rSlc (i j : Int) (x v : V) (H : Hp) (Q : Hp → Prop) : Prop := ∃ a b xs ys, x = .ref a ∧ v = .ref b ∧ H a = some (.lst xs) ∧ H b = some (.lst ys) ∧ a ≠ b ∧ 0 ≤ i ∧ i ≤ j ∧ j ≤ xs.length ∧ xs.length + ys.length ≤ sizeLine ∧ Q (upd H a (.lst (xs.take i.toNat ++ ys ++ xs.drop j.toNat)))
end L2
namespace DL
open PySem L2
open Enc (en)
def mSlc (i j : Int) : OpM := fun k ch es Q => ∃ ds, k = .lst ∧ es = [.n true .lst ds] ∧ 0 ≤ i ∧ i ≤ j ∧ j ≤ ch.length ∧ ch.length + ds.length ≤ 100000 ∧ Q .lst (ch.take i.toNat ++ ds ++ ch.drop j.toNat) .non
theorem RpL.split {K : PySem.W.Frag} {G H : Hp} : ∀ {vs : List V} {ds : List D} {F : List Addr} (i j : Nat), i ≤ j → RpL K G H vs ds F → ∃ F1 F2, RpL K G H (vs.take i) (ds.take i) F1 ∧ RpL K G H (vs.drop j) (ds.drop j) F2 ∧ (∀ a ∈ F1, a ∈ F) ∧ (∀ a ∈ F2, a ∈ F) ∧ ∀ a ∈ F1, a ∉ F2
  | _, ds, F, 0, j, _, h => by
    obtain ⟨F2, r2, s2⟩ := h.drop j
    exact ⟨[], F2, .nil, r2, (fun a z => by cases z), s2, (fun a z => by cases z)⟩
  | _, [], _, i + 1, j, _, h => by
    cases h
    exact ⟨[], [], by simp only [List.take_nil]; exact .nil, by simp only [List.drop_nil]; exact .nil, (fun a z => by cases z), (fun a z => by cases z), (fun a z => by cases z)⟩
  | _, d :: ds, _, i + 1, 0, hij, h => by omega
  | _, d :: ds, _, i + 1, j + 1, hij, h => by
    cases h with
    | @cons v vs _ _ Fa Fb h1 h2 h3 =>
      obtain ⟨F1, F2, r1, r2, s1, s2, dd⟩ := RpL.split i j (by omega) h2
      refine ⟨Fa ++ F1, F2, ?_, r2, fun a z => ?_, fun a z => List.mem_append_right _ (s2 a z), fun a z => ?_⟩
      · rw [List.take_succ_cons, List.take_succ_cons]
        exact .cons h1 r1 fun a z y => h3 a z (s1 a y)
      · rcases List.mem_append.mp z with z | z
        · exact List.mem_append_left _ z
        · exact List.mem_append_right _ (s1 a z)
      · rcases List.mem_append.mp z with z | z
        · exact fun y => h3 a z (s2 a y)
        · exact dd a z
def dPutS (n : Nat) (te : DE) (tl th : DO) : DS := fun D ρ => te ρ (fun x ρ1 => (∃ s d, ρ1[n]? = some s ∧ s.d? = some d) ∧ tl ρ1 (fun l ρ2 => th ρ2 (fun h ρ3 => ∃ i j, l = some i ∧ h = some j ∧ ∃ es ρ4 s k ch, tkL ρ3 [x] = some (es, ρ4) ∧ ρ4[n]? = some s ∧ s.d? = some (.n true k ch) ∧
  mSlc i j k ch es fun k' ch' _ => D.nx ((killB n ρ4).set n (s.re (.n true k' ch')))) D.ex) D.ex) D.ex
section
variable {X : Cx} {cn : String → Addr} {E : WX}
end
section
variable {ρ ρ1 ρ2 ρ3 : Env} {nx : Env → Prop} {rt : D → Env → Prop} {bk ct : Env → Prop} {ex : Exn → Env → Prop} {n : Nat} {te : DE} {tl th : DO} {x : Rv}
def psK (n : Nat) (tl th : DO) (x : Rv) (ρ1 : Env) (nx : Env → Prop) (ex : Exn → Env → Prop) : Prop := (∃ s d, ρ1[n]? = some s ∧ s.d? = some d) ∧ tl ρ1 (fun l ρ2 => th ρ2 (fun h ρ3 => ∃ i j, l = some i ∧ h = some j ∧ ∃ es ρ4 s k ch, tkL ρ3 [x] = some (es, ρ4) ∧ ρ4[n]? = some s ∧ s.d? = some (.n true k ch) ∧
  mSlc i j k ch es fun k' ch' _ => nx ((killB n ρ4).set n (s.re (.n true k' ch')))) ex) ex
def psK2 (n : Nat) (x : Rv) (l u : Option Int) (ρ3 : Env) (nx : Env → Prop) : Prop := ∃ i j, l = some i ∧ u = some j ∧ ∃ es ρ4 s k ch, tkL ρ3 [x] = some (es, ρ4) ∧ ρ4[n]? = some s ∧ s.d? = some (.n true k ch) ∧
  mSlc i j k ch es fun k' ch' _ => nx ((killB n ρ4).set n (s.re (.n true k' ch')))
end
end DL
/-! DL76: try .. except C as e: a suite that asks what class e is of (errors without fields). -/
namespace DL
open PySem L2
open Enc (en)
/-- behind the suite slot i is forgotten -/
def enH (i : Nat) (n : Env → Prop) (ρ : Env) : Prop := ∃ ρ4, (killB i ρ).set i .un = ρ4 ∧ clr ρ4 [i] = true ∧ n ρ4
/-- try: tb except some class as n (slot i): ts -/
def dTryH (ns : List (String × Bool)) (i : Nat) (tb : DS) (ts : Addr → String → DS) : DS := fun D ρ => tb { D with ex := fun x ρ' => match ns.lookup x.name with
  | some true => x.f = none ∧ ∀ a : Addr, ∃ ρ2, stV ((killB i ρ').set i .un) i (.p (.ref a)) = some ρ2 ∧ ts a x.name { nx := fun ρ3 => enH i D.nx ρ3, rt := fun _ _ => False } ρ2
  | some false => D.ex x ρ'
  | none => False } ρ
/-- nothing leaves -/
def noX : WX := fun _ _ _ _ => False
section
variable {X : Cx} {cn : String → Addr} {E : WX}
end
/-- isinstance of the error that a suite holds -/
def rIsH (a : Addr) (c : V) (b : Bool) : List V → Hp → VK → Prop := fun xs H Q => xs = [.ref a, c] ∧ Q (.bl b) H
/-- isinstance(n, a class), n the error that the suite holds -/
def dIsH (tbl : List (String × Bool)) (i : Nat) (a : Addr) (nm : String) : DE := fun ρ Q _ => ∃ b, ρ[i]? = some (.v (.p (.ref a))) ∧ tbl.lookup nm = some b ∧ Q (.t (.p (.bl b))) ρ
section
variable {X : Cx} {cn : String → Addr} {E : WX} {tbl : List (String × Bool)} {c : V} {cv : Value}
end
section
variable {n : Env → Prop} {rt : D → Env → Prop} {bk ct : Env → Prop} {ex : Exn → Env → Prop} {ρ ρ1 : Env} {Q : Rv → Env → Prop} {E : Exn → Env → Prop} {tb : DS} {i : Nat} {ts : Addr → String → DS}
def tyH (ns : List (String × Bool)) (i : Nat) (ts : Addr → String → DS) (n : Env → Prop) (ex : Exn → Env → Prop) (x : Exn) (ρ : Env) : Prop := match ns.lookup x.name with
  | some true => x.f = none ∧ ∀ a : Addr, ∃ ρ2, stV ((killB i ρ).set i .un) i (.p (.ref a)) = some ρ2 ∧ ts a x.name ⟨fun ρ3 => enH i n ρ3, fun _ _ => False, fun _ => False, fun _ => False, fun _ _ => False⟩ ρ2
  | some false => ex x ρ
  | none => False
end
end DL
/-! DL77: x[i].m(e, ..), the inner list being x's own; the arguments may read x. -/
namespace DL
open PySem L2
open Enc (en)
section
variable {X : Cx} {cn : String → Addr} {E : WX}
/-- x[i].m(e, ..): x in slot n an own list of own lists; ix: the index; the part is held by a slot more while the arguments run -/
def dMutG (n : Nat) (ix : Env → Option Int) (r : OpM) (tA : DA) : DE := fun ρ Q E => ∃ s0 rc a m ch0, ρ[n]? = some s0 ∧ s0.d? = some (.n true .lst rc) ∧ ix ρ = some a ∧ ixN rc.length a = some m ∧ rc[m]? = some (.n true .lst ch0) ∧
  tA (ρ ++ [.b n [m]]) (fun rs ρ2 => ρ2[ρ.length]? = some (.b n [m]) ∧ ∃ es ρ3 s root rc' k ch, tkL ρ2 rs = some (es, ρ3) ∧ ρ3[n]? = some s ∧ s.d? = some root ∧ root = .n true .lst rc' ∧ root.at [m] = some (.n true k ch) ∧
    r k ch es fun k' ch' res => ∃ ρ4 s4, (killB n ρ3).set n (s.re (root.put [m] (.n true k' ch'))) = ρ4 ++ [s4] ∧ bOk ρ4.length ρ4 = true ∧ Q (.t res) ρ4) (fun _ _ => False)
/-- behind it the slot more is gone -/
def gQ (Q0 : Rv → Env → Prop) : Rv → Env → Prop
  | .t d, ρ' => ∃ ρ4 s4, ρ' = ρ4 ++ [s4] ∧ bOk ρ4.length ρ4 = true ∧ Q0 (.t d) ρ4
  | .s _, _ => False
end
/-! ### running -/
section
variable {ρ ρ1 ρ2 ρ3 ρ4 : Env} {Q : Rv → Env → Prop} {E : Exn → Env → Prop} {n : Nat} {ix : Env → Option Int} {r : OpM} {tA : DA} {xs : List Rv}
/-- behind the arguments -/
def mgK (n m L : Nat) (r : OpM) (rs : List Rv) (ρ2 : Env) (Q : Rv → Env → Prop) : Prop := ρ2[L]? = some (.b n [m]) ∧ ∃ es ρ3 s root rc' k ch, tkL ρ2 rs = some (es, ρ3) ∧ ρ3[n]? = some s ∧ s.d? = some root ∧ root = .n true .lst rc' ∧ root.at [m] = some (.n true k ch) ∧
    r k ch es fun k' ch' res => ∃ ρ4 s4, (killB n ρ3).set n (s.re (root.put [m] (.n true k' ch'))) = ρ4 ++ [s4] ∧ bOk ρ4.length ρ4 = true ∧ Q (.t res) ρ4
end
end DL
/-! DL78: try .. except C as e: .. except D as e: ..; the error is tracked while a suite runs, so that the suite may ask of its class and fields. -/
namespace DL
open PySem L2
section
variable {X : Cx} {pins : List (Addr × Obj)} {σ : St} {H : Hp} {s : Shared} {a : Addr}
end
/-- what handlers wish of an error of the body -/
def wTr (K : PySem.W.Frag) (Wout : WX) (D : Ends) : List (Value × Nat × (Addr → Value → Option Addr → TS)) → WX
  | [] => Wout
  | (c, i, ts) :: r => fun cls d σ H => ∃ b, PySem.W.exmOne K cls c = some b ∧ (b = true → ∀ a, H a = none → ts a cls d { nx := fun σ' H' => D.nx (σ'.set i none) H', rt := D.rt, bk := fun σ' H' => D.bk (σ'.set i none) H', ct := fun σ' H' => D.ct (σ'.set i none) H' } (σ.set i (some (.ref a))) (upd H a (exK cls d a))) ∧
      (b = false → wTr K Wout D r cls d σ H)
inductive HdsT (X : Cx) : List ExceptHandler → List (Value × Nat × (Addr → Value → Option Addr → TS)) → Prop
  | nil : HdsT X [] []
  | cons {x n : Str} {c : Value} {i : Nat} {ts : Addr → Value → Option Addr → TS} {b₀ : Stmt} {suite : List Stmt} {np pos' : Pos} {hds : List ExceptHandler} {l : List (Value × Nat × (Addr → Value → Option Addr → TS))} (hc : Names X x c) (hi : X.N[i]? = some n) (hln : X.env.kindOf n = some .local)
      (hsu : ∀ (a : Addr) (cls : Value) (d : Option Addr) (pn : List (Addr × Obj)), PSs (X.suite a pn) (b₀ :: suite) (ts a cls d)) (r : HdsT X hds l) :
      HdsT X (.ExceptHandler (some (.Name x np)) (some n) (b₀ :: suite) pos' :: hds) ((c, i, ts) :: l)
section
variable {X : Cx} {body : List Stmt} {h₀ : ExceptHandler} {hds : List ExceptHandler} {l : List (Value × Nat × (Addr → Value → Option Addr → TS))} {pos : Pos} {tb : WX → TS} {Wout : WX}
end
/-- which handler takes an error -/
def exT (D : DEnds) : List (List (String × Bool) × Nat × DS) → Exn → Env → Prop
  | [] => D.ex
  | (ns, i, ts) :: r => fun x ρ => match ns.lookup x.name with
    | some true => ∃ ρ2, stV ((killB i ρ).set i .un) i (excD x) = some ρ2 ∧ ts { nx := fun ρ3 => enH i D.nx ρ3, rt := fun _ _ => False } ρ2
    | some false => exT D r x ρ
    | none => False
/-- try: tb except some classes as a slot: .. -/
def dTryT (hs : List (List (String × Bool) × Nat × DS)) (tb : DS) : DS := fun D ρ => tb { D with ex := exT D hs } ρ
inductive HdsJ (X : Cx) (cn : String → Addr) : List ExceptHandler → List (List (String × Bool) × Nat × DS) → Prop
  | nil : HdsJ X cn [] []
  | cons {x n : Str} {c : Value} {i : Nat} {ns : List (String × Bool)} {ts : DS} {b₀ : Stmt} {suite : List Stmt} {np pos' : Pos} {hds : List ExceptHandler} {l : List (List (String × Bool) × Nat × DS)} (hc : Names X x c) (hi : X.N[i]? = some n) (hln : X.env.kindOf n = some .local)
      (hm : ∀ p ∈ ns, PySem.W.exmOne X.K (.ref (cn p.1)) c = some p.2 ∧ PySem.W.nsIn X.K mainGlobals p.1 = some (some (.ref (cn p.1))))
      (hsu : ∀ (a : Addr) (pn : List (Addr × Obj)), JSs (X.suite a pn) cn noX (b₀ :: suite) ts) (r : HdsJ X cn hds l) :
      HdsJ X cn (.ExceptHandler (some (.Name x np)) (some n) (b₀ :: suite) pos' :: hds) ((ns, i, ts) :: l)
section
variable {X : Cx} {cn : String → Addr} {E : WX}
theorem HdsJ.go {hh : List ExceptHandler} {hs : List (List (String × Bool) × Nat × DS)} (hj : HdsJ X cn hh hs) : ∃ l, HdsT X hh l ∧ ∀ (pv : Nat → V) (γ : St) (G H : Hp) (fp : Fps) (D0 : DEnds) (D : Ends), PoS X.K cn pv γ X.N.length G H fp D0 D E →
    ∀ (y : Exn) (ρ' : Env) (cls : Value) (dx : Option Addr) (σ' : St) (G' H' : Hp) (fp' : Fps), Stp G H (InF fp) G' H' (InF fp') → Mt X.K pv (σ' ++ γ) ρ' G' H' fp' → σ'.length = X.N.length → ExOk X.K cn G' H' y cls dx → exT D0 hs y ρ' → wTr X.K E D l cls dx σ' H' := by
   induction hj with
   | nil => exact ⟨[], .nil, fun pv γ G H fp D0 D po y ρ' cls dx σ' G' H' fp' s' m' l' ex q' => po.ex y ρ' cls dx σ' G' H' fp' q' s' m' l' ex⟩
   | @cons x n c i ns ts b₀ suite np pos' hds' l hc hi hln hm hsu r ih =>
     have hi' : i < X.N.length := (List.getElem?_eq_some_iff.mp hi).1
     obtain ⟨l0, ih1, ih2⟩ := ih
     refine ⟨(c, i, fun _ _ _ => liftS X.K cn noX ts) :: l0, .cons hc hi hln (fun a _ _ pn => hsu a pn) ih1, fun pv γ G H fp D0 D po y ρ' cls dx σ' G' H' fp' s' m' l' ex => ?_⟩
     rw [exT]
     dsimp only
     split
     · rename_i e
       rintro ⟨ρ2, e2, q'⟩
       obtain ⟨k1, k2⟩ := hm _ (look_mem e)
       refine ⟨true, by rw [ex.1]; exact k1, fun _ a na => ?_, fun z => by cases z⟩
       have sn : Stp G' H' (fun _ => False) (L2.upd G' a (exK cls dx a)) (L2.upd H' a (exK cls dx a)) (fun _ => False) := Stp.newG na m'.sub
       have m1 := (m'.step sn (m'.sub.updG na)).forget i
       have gn : ∀ b o, G' b = some o → L2.upd G' a (exK cls dx a) b = some o := sn.g
       have rr : Rp X.K (L2.upd G' a (exK cls dx a)) (L2.upd H' a (exK cls dx a)) (.ref a) (excD y) [] := by
         obtain ⟨c1, c2⟩ := ex
         obtain ⟨yn, yf⟩ := y
         subst c1
         cases yf with
         | none =>
           simp only at c2
           subst c2
           exact Rp.f ⟨cn yn, none, k2, upd_same, rfl, rfl⟩ .nil
         | some p =>
           obtain ⟨f, d⟩ := p
           simp only at c2
           obtain ⟨dd, v, rfl, g1, g2⟩ := c2
           refine Rp.f (vs := [v]) ⟨cn yn, some dd, k2, upd_same, rfl, gn _ _ g1⟩ ?_
           exact RpL.one (g2.mov sn.g _ fun b hb => by cases hb)
       have m2 := m1.put e2 rr fun b hb => by cases hb
       have hlt : i < σ'.length := by omega
       rw [show (σ' ++ γ).set i (some (.ref a)) = σ'.set i (some (.ref a)) ++ γ from List.set_append_left _ _ hlt] at m2
       refine ⟨pv, γ, ρ2, _, updF fp' i [], _, m2, q', ?_⟩
       have su : ∀ b, InF (updF fp' i []) b → InF fp' b := fun b z => by
         rcases InF.updF z with y | y
         · exact y
         · cases y
       refine ⟨fun ρ3 σ3 G3 H3 fp3 ⟨ρ4, e4, ec, q3⟩ s3 m3 l3 => ?_, fun _ _ _ _ _ z => z.elim, fun _ _ _ _ _ z => z.elim, fun _ _ _ _ _ _ _ _ z => z.elim, fun _ _ _ _ _ _ _ _ z => z.elim⟩
       rw [List.length_set] at l3
       have m4 := m3.forget i
       rw [e4] at m4
       have m5 := m4.cong (σ' := σ3.set i none ++ γ) ec (by simp) fun k hk => by
         have hk' : i ≠ k := fun z => hk (by simp [z])
         by_cases hkl : k < σ3.length
         · rw [List.getElem?_append_left (by rw [List.length_set]; exact hkl), List.getElem?_set_ne hk', List.getElem?_append_left hkl]
         · rw [List.getElem?_append_right (by rw [List.length_set]; omega), List.length_set, List.getElem?_append_right (by omega)]
       have s4 : Stp G' H' (InF fp') G3 H3 (InF fp3) := (sn.mono (Q := InF fp') (Q' := InF fp') (fun _ z => z.elim) fun b z => .inr z).trans (s3.mono (Q := InF fp') (Q' := InF fp3) (fun b z => su b z) fun b z => .inl z)
       exact po.nx ρ4 _ _ _ _ q3 (s'.trans s4) m5 (by rw [List.length_set, l3]; exact l')
     · rename_i e
       intro q'
       refine ⟨false, ?_, fun z => (by cases z), fun _ => ih2 pv γ G H fp D0 D po y ρ' cls dx σ' G' H' fp' s' m' l' ex q'⟩
       rw [ex.1]; exact (hm _ (look_mem e)).1
     · intro q'; exact q'.elim
end
/-! ### running -/
section
variable {n : Env → Prop} {rt : D → Env → Prop} {bk ct : Env → Prop} {ex : Exn → Env → Prop} {ρ ρ1 ρ2 : Env} {tb ts : DS} {i : Nat} {hs : List (List (String × Bool) × Nat × DS)}
def tyT (n : Env → Prop) (ex : Exn → Env → Prop) : List (List (String × Bool) × Nat × DS) → Exn → Env → Prop
  | [] => ex
  | (ns, i, ts) :: r => fun x ρ => match ns.lookup x.name with
    | some true => ∃ ρ2, stV ((killB i ρ).set i .un) i (excD x) = some ρ2 ∧ ts ⟨fun ρ3 => enH i n ρ3, fun _ _ => False, fun _ => False, fun _ => False, fun _ _ => False⟩ ρ2
    | some false => tyT n ex r x ρ
    | none => False
end
end DL
/-! DL79: an own dict that is read as a shared one for a while. -/
namespace DL
open PySem L2
open Enc (en)
def Kd.ndc : Kd → Bool
  | .dic _ => false
  | _ => true
mutual
/-- no shared dict within -/
def D.ndc : D → Bool
  | .p _ => true
  | .n o k ch => (o || k.ndc) && ndcL ch
def ndcL : List D → Bool
  | [] => true
  | d :: ds => d.ndc && ndcL ds
end
def Sl.ndc : Sl → Bool
  | .v d => d.ndc
  | .w d => d.ndc
  | _ => true
/-- .. in all slots but one -/
def ndcE : Nat → Env → Bool
  | _, [] => true
  | 0, _ :: r => r.all Sl.ndc
  | i + 1, s :: r => s.ndc && ndcE i r
open Classical in
noncomputable def drp (G : Hp) (a : Addr) : Hp := fun b => if b = a then none else G b
theorem drp_ne {G : Hp} {a b : Addr} (h : b ≠ a) : drp G a b = G b := if_neg h
theorem drp_self {G : Hp} {a : Addr} : drp G a a = none := if_pos rfl
section
variable {K : PySem.W.Frag} {G H : Hp} {a : Addr} {kvs : List (Key × V)}
theorem drp_of (ha : G a = some (.dK kvs)) {b : Addr} {u : HO} (e : G b = some u) (h : u ≠ .dK kvs) : drp G a b = some u := by
  rw [drp_ne fun z => by rw [z, ha] at e; cases e; exact h rfl]
  exact e
theorem drp_none {b : Addr} (e : G b = none) : drp G a b = none := by
  by_cases h : b = a
  · subst h; exact drp_self
  · rw [drp_ne h]; exact e
theorem NdF.shut (ha : G a = some (.dK kvs)) {k : Kd} (hk : k.ndc = true) {b : Addr} {vs : List V} (h : NdF K G b k vs) : NdF K (drp G a) b k vs := by
  cases k with
  | lst => exact drp_of ha h fun z => by cases z
  | lok =>
    rcases h with (h | ⟨u, h⟩) | h
    · exact .inl (.inl (drp_of ha h fun z => by cases z))
    · exact .inl (.inr ⟨u, drp_of ha h fun z => by cases z⟩)
    · exact .inr h
  | tup => exact drp_of ha h fun z => by cases z
  | tok =>
    rcases h with (h | ⟨u, h⟩) | h
    · exact .inl (.inl (drp_of ha h fun z => by cases z))
    · exact .inl (.inr ⟨u, drp_of ha h fun z => by cases z⟩)
    · exact .inr h
  | dic ks => cases hk
  | dit ks => exact ⟨h.1, drp_of ha h.2 fun z => by cases z⟩
  | obj c ns =>
    obtain ⟨q1, C, dx, q2, q3⟩ := h
    exact ⟨q1, C, dx, q2, drp_of ha q3 fun z => by cases z⟩
  | exc c ns =>
    obtain ⟨C, od, q1, q2, q3⟩ := h
    refine ⟨C, od, q1, drp_of ha q2 (fun z => by cases z), ?_⟩
    cases od with
    | none => exact q3
    | some dd => exact ⟨q3.1, drp_of ha q3.2 fun z => by cases z⟩
mutual
theorem Rp.shut (ha : G a = some (.dK kvs)) : ∀ {v : V} (d : D) {F : List Addr}, Rp K G H v d F → d.ndc = true → Rp K (drp G a) H v d F
  | _, .p v, _, h, _ => by
    cases h
    exact Rp.p _
  | _, .n ow k ch, _, h, e => by
    simp only [D.ndc, Bool.and_eq_true] at e
    cases h with
    | f h1 h2 => exact Rp.f (h1.shut ha (by simpa using e.1)) (RpL.shut ha ch h2 e.2)
    | o h0 h1 h3 h2 => exact Rp.o (drp_none h0) h1 h3 (RpL.shut ha ch h2 e.2)
theorem RpL.shut (ha : G a = some (.dK kvs)) : ∀ {vs : List V} (ds : List D) {F : List Addr}, RpL K G H vs ds F → ndcL ds = true → RpL K (drp G a) H vs ds F
  | _, [], _, h, _ => by
    cases h
    exact RpL.nil
  | _, d :: ds, _, h, e => by
    simp only [ndcL, Bool.and_eq_true] at e
    cases h with
    | cons h1 h2 h3 => exact RpL.cons (Rp.shut ha d h1 e.1) (RpL.shut ha ds h2 e.2) h3
end
theorem Mt.shut {pv : Nat → V} {σ : St} {ρ : Env} {fp : Fps} (m : Mt K pv σ ρ G H fp) (ha : G a = some (.dK kvs)) (hn : ∀ (j : Nat) (s : Sl), ρ[j]? = some s → s.ndc = true) : Mt K pv σ ρ (drp G a) H fp where
  sub := fun b o e => by
    by_cases h : b = a
    · subst h; rw [drp_self] at e; cases e
    · rw [drp_ne h] at e; exact m.sub b o e
  len := m.len
  sl := fun i d e => by
    obtain ⟨x, h1, h2⟩ := m.sl i d e
    exact ⟨x, h1, h2.shut ha _ (hn i _ e)⟩
  pn := fun i d e => by
    obtain ⟨h1, h2⟩ := m.pn i d e
    exact ⟨h1, h2.shut ha _ (hn i _ e)⟩
  br := m.br
  ap := m.ap
  ft := fun i b hb => ⟨drp_none (m.ft i b hb).1, (m.ft i b hb).2⟩
end
/-- what goes on behind -/
def hdN (i : Nat) (ks : List Key) (ch : List D) (n : Env → Prop) (ρ : Env) : Prop := ρ[i]? = some (.w (.n false (.dic ks) ch)) ∧ ndcE i ρ = true ∧ ∃ ρ2, stV ((killB i ρ).set i .un) i (.n true (.dic ks) ch) = some ρ2 ∧ n ρ2
def dHold (i : Nat) (t : DS) : DS := fun D ρ => ∃ ks ch, ρ[i]? = some (.v (.n true (.dic ks) ch)) ∧ (isFzL ch = true ∧ ndcL ch = true) ∧ t ⟨hdN i ks ch D.nx, fun _ _ => False, fun _ => False, fun _ => False, fun _ _ => False⟩ ((killB i ρ).set i (.w (.n false (.dic ks) ch)))
def dHoldE (i : Nat) (te : DE) : DE := fun ρ Q _ => ∃ ks ch, ρ[i]? = some (.v (.n true (.dic ks) ch)) ∧ (isFzL ch = true ∧ ndcL ch = true) ∧ te ((killB i ρ).set i (.w (.n false (.dic ks) ch))) (fun r ρ' => ∃ d, r = .t d ∧ d.ndc = true ∧ hdN i ks ch (Q (.t d)) ρ') (fun _ _ => False)
section
variable {X : Cx} {cn : String → Addr} {E : WX}
end
/-! ### running -/
mutual
theorem ndc_plain : ∀ d : D, (toPy d).plain = true → d.ndc = true
  | .p _, _ => rfl
  | .n o .lst ch, h => by
    simp only [toPy, PyData.plain] at h
    rw [D.ndc, ndcL_plain ch h]; cases o <;> rfl
  | .n o .lok ch, h => by
    simp only [toPy, PyData.plain] at h
    rw [D.ndc, ndcL_plain ch h]; cases o <;> rfl
  | .n o .tup ch, h => by
    simp only [toPy, PyData.plain] at h
    rw [D.ndc, ndcL_plain ch h]; cases o <;> rfl
  | .n o .tok ch, h => by
    simp only [toPy, PyData.plain] at h
    rw [D.ndc, ndcL_plain ch h]; cases o <;> rfl
  | .n o (.dic ks) ch, h => by simp [toPy, PyData.plain] at h
  | .n o (.dit ks) ch, h => by simp [toPy, PyData.plain] at h
  | .n o (.obj c ns) ch, h => by simp [toPy, PyData.plain] at h
  | .n o (.exc c ns) ch, h => by simp [toPy, PyData.plain] at h
theorem ndcL_plain : ∀ ds : List D, PyData.plainAll (toPyL ds) = true → ndcL ds = true
  | [], _ => rfl
  | d :: ds, h => by
    simp only [toPyL, PyData.plainAll, Bool.and_eq_true] at h
    rw [ndcL, ndc_plain d h.1, ndcL_plain ds h.2]; rfl
end
section
variable {α : Type} [Enc α]
end
section
variable {n : Env → Prop} {rt : D → Env → Prop} {bk ct : Env → Prop} {ex : Exn → Env → Prop} {ρ ρ1 ρ2 : Env} {Q : Rv → Env → Prop} {E : Exn → Env → Prop} {i : Nat} {t : DS} {te : DE} {d : D}
  {κ β : Type} {i1 : Enc κ} {i2 : KeyE κ} {i3 : Enc β} {kv : List (κ × β)}
/-- .. of a dict of plain things -/
def hdE {κ β : Type} [Enc κ] [KeyE κ] [Enc β] (i : Nat) (kv : List (κ × β)) (n : Env → Prop) (ρ : Env) : Prop := hdN i (kv.map fun p => KeyE.key p.1) (kv.map fun p => en p.2) n ρ
def hdQ {κ β : Type} [Enc κ] [KeyE κ] [Enc β] (i : Nat) (kv : List (κ × β)) (Q : Rv → Env → Prop) (r : Rv) (ρ : Env) : Prop := ∃ d, r = .t d ∧ d.ndc = true ∧ hdE i kv (Q (.t d)) ρ
end
end DL
/-! DL80: tuple + tuple, the first one perhaps empty. -/
namespace DL
open PySem L2
open Enc (en)
def qAddA : Op2 := fun d e Q => qAdd d e Q ∨ ∃ o o' ys, d = .n o .tup [] ∧ e = .n o' .tup ys ∧ (isFzL ys = true ∧ ys.length ≤ 100000) ∧ Q (.tup ys)
def rAddA (K : PySem.W.Frag) : R2 := fun x y H Q => rAddD K x y H Q ∨ rCatA K x y H Q
section
variable {α : Type} {inst : Enc α} {o o' : Bool} {xs ys : List α} {k : D → Prop}
end
end DL
/-! DL81: == of dicts, a value of which may be a list with empty dicts among its rows, or an empty dict. -/
namespace DL
open PySem L2
open Enc (en)
def isE : D → Bool
  | .n _ (.dic []) [] => true
  | _ => false
def okS (d : D) : Bool := (toPy d).plain && decide ((toPy d).depth ≤ 60)
def leafS (d e : D) : Bool := (okS d && okS e && eqD d e) || (isE d && isE e)
def leafL : List D → List D → Bool
  | [], [] => true
  | a :: r, b :: s => leafS a b && leafL r s
  | _, _ => false
def rowsS : D → D → Bool
  | .n _ .lst ch, .n _ .lst ch' => leafL ch ch'
  | _, _ => false
def sameS (d e : D) : Bool := leafS d e || rowsS d e
def sameL : List D → List D → Bool
  | [], [] => true
  | a :: r, b :: s => sameS a b && sameL r s
  | _, _ => false
def LeafR (K : PySem.W.Frag) (H : Hp) (x y : V) : Prop := (∃ d e, Dp K H x d ∧ Dp K H y e ∧ (d.plain = true ∧ d.depth ≤ 60) ∧ (e.plain = true ∧ e.depth ≤ 60) ∧ PyData.eqv d e = true) ∨ ∃ c c', x = .ref c ∧ y = .ref c' ∧ Rd H c (.dK []) ∧ Rd H c' (.dK [])
inductive LeafRs (K : PySem.W.Frag) (H : Hp) : List V → List V → Prop
  | nil : LeafRs K H [] []
  | cons {x y : V} {xs ys : List V} : LeafR K H x y → LeafRs K H xs ys → LeafRs K H (x :: xs) (y :: ys)
def SameR (K : PySem.W.Frag) (H : Hp) (x y : V) : Prop := LeafR K H x y ∨ ∃ p p' vs vs', x = .ref p ∧ y = .ref p' ∧ H p = some (.lst vs) ∧ H p' = some (.lst vs') ∧ LeafRs K H vs vs'
def qEqDO : Op2 := fun d e Q => qEqDD d e Q ∨ ∃ o o' ks ch ch', d = .n o (.dic ks) ch ∧ e = .n o' (.dic ks) ch' ∧ ks.Nodup ∧ sameL ch ch' = true ∧ Q (.bl true)
def rEqDO (K : PySem.W.Frag) : R2 := fun x y H Q => rEqDD K x y H Q ∨ ∃ a b ks ls, x = .ref a ∧ y = .ref b ∧ Rd H a (.dK ks) ∧ Rd H b (.dK ls) ∧ ks.length = ls.length ∧
  (∀ p ∈ ks, ∃ y, valV ls p.1 = some y ∧ SameR K H p.2 y) ∧ Q (.bl true) H
section
variable {X : Cx} {pins : List (Addr × Obj)} {σ : St} {H : Hp} {s : Shared}
end
section
variable {K : PySem.W.Frag} {G H : Hp}
end
end DL
/-! DL82: min(x, y) of data that can be compared; of texts. -/
namespace DL
open PySem L2 PyProof.Rows PySem.W
open Enc (en)
section
variable {prog : Program} {w : World} {A : Around} {E : Value → Shared → Prop} {s : Shared}
theorem min_pairH {a b : Value} {R : Value → Shared → Prop}
    (h : wpAny (model prog w) A.in1 (pyIter (.ref s.heap.objs.size)) (fun it s2 => ∃ I fp wr G n P St H bt, it = .ref I ∧ WalksS prog w A.in1 I fp wr G n P St ∧ St 0 s2 ∧ (∀ b ∈ fp, b < s2.heap.objs.size) ∧ 0 < n ∧
      (∀ b o, H.get? b = some o → b ∉ wr) ∧ (∀ b o, H.get? b = some o → s2.heap.get? b = some o) ∧ CmpIn prog w A.in1 .Lt H P bt ∧ ∀ v s', P (argBest bt (n - 1)) v → Moved wr G s2 s' → R v s') E
      { s with heap := s.heap.push { cls := .type "tuple", data := .seq #[a, b] } }) : wpAny (model prog w) A (call (.builtin "min") [a, b]) R E s := by
  have nm : (toString "min" ++ toString ".loop" : String) = "min.loop" := by decide
  refine call_function_tree F.kind_min F.plain_min F.entry_min (F.args_min2 _ _) ?_
  show wpAny _ A.in1 (Builtin.Builtins.bindParams "min" ["key", "default"] 0 ⟨[], []⟩ >>= _) _ _ s
  refine wpAny_bind (wpAny_of_eq (show Builtin.Builtins.bindParams "min" ["key", "default"] 0 ⟨[], []⟩ = pure [none, none] from rfl) ?_)
  show wpAny _ A.in1 (newTuple [a, b] >>= _) _ _ s
  refine wpAny_bind (wpAny_newObj_type ?_)
  refine wpAny_bind (wpAny_mono h (fun it s2 h2 => ?_) fun _ _ e => e)
  obtain ⟨I, fp, wr, G, n, P, St, H, bt, rfl, W, g0, gf, gn, gw, gk, gc, gq⟩ := h2
  refine wpAny_bind (wpAny_newObj_type ?_)
  have nf : s2.heap.objs.size ∉ fp := fun hm => Nat.lt_irrefl _ (gf _ hm)
  rw [nm]
  refine wpAny_pure ⟨plainId_quiet F.plain_min_loop _, codeAny_min_loop_firstH W H gw bt gc s2.heap.objs.size nf (fresh_in gk) _ gn (fun b o e => Heap.get?_push_of_some _ (gk b o e)) (W.frame 0 s2 _ s2.toks g0 (Nat.le_refl _) fun b _ o e => Heap.get?_push_of_some _ e) (Heap.get?_push_size _ rfl) fun v s' hP hm => ?_⟩
  exact gq v s' hP (Moved.drop_new (tk := s2.toks) hm (Nat.le_refl _))
theorem min_pair {a b : Value} {d e : PyData} {as bs : List Addr} {R : Value → Shared → Prop} (ah : A.handled = none) (ra : Reads s.heap a d as) (rb : Reads s.heap b e bs) (hA : AlikeAll [d, e]) (hu : A.units + 1 + PyData.depthAll [d, e] < cLine)
    (k : ∀ h' tk, (∀ b o, s.heap.get? b = some o → h'.get? b = some o) → R (if dataLt e d = true then b else a) { s with heap := h', toks := tk }) : wpAny (model prog w) A (call (.builtin "min") [a, b]) R E s := by
  have up : ∀ {ob : Obj}, ∀ b o, s.heap.get? b = some o → (s.heap.push ob).get? b = some o := fun b o e => Heap.get?_push_of_some _ e
  have hT : (s.heap.push { cls := .type "tuple", data := .seq #[a, b] }).IsTuple s.heap.objs.size #[a, b] := ⟨_, Heap.get?_push_size _ rfl, rfl, 0, rfl⟩
  refine min_pairH (iter_tupleW (A := A.in1) (s := { s with heap := s.heap.push { cls := .type "tuple", data := .seq #[a, b] } }) ah hT fun s2 e2 W st gf gw gk => ?_)
  have hr : ReadsAll (s.heap.push { cls := .type "tuple", data := .seq #[a, b] }) [a, b] [d, e] (as ++ (bs ++ [])) := .cons (reads_keeps up ra) (.cons (reads_keeps up rb) .nil)
  refine ⟨_, _, _, _, _, _, _, s.heap.push { cls := .type "tuple", data := .seq #[a, b] }, _, rfl, W, st, gf, by show 0 < 2; decide, gw, gk, cmpIn_lt (A := A.in1) (s := { s with heap := s.heap.push { cls := .type "tuple", data := .seq #[a, b] } }) (vs := #[a, b]) hr hA (by show A.units + 1 + _ < _; exact hu), fun v s' hP m => ?_⟩
  obtain ⟨h', tk, rfl, kp⟩ := moved_old e2 rfl m
  have := k h' tk fun b o e => kp b o (up b o e)
  have hv : v = if dataLt e d = true then b else a := by
    have hP : #[a, b][argBest (fun i j => dataLt ([d, e].getD i .none) ([d, e].getD j .none)) 1]? = some v := hP
    rw [best1] at hP
    have e0 : dataLt ([d, e].getD 1 .none) ([d, e].getD 0 .none) = dataLt e d := rfl
    rw [e0] at hP
    cases c : dataLt e d with
    | true => rw [c] at hP; exact (Option.some.inj hP).symm
    | false => rw [c] at hP; exact (Option.some.inj hP).symm
  rw [hv]
  exact this
end
section
variable {X : Cx}
def rMinP (K : PySem.W.Frag) : List V → Hp → VK → Prop := fun vs H Q => ∃ x y d e, vs = [x, y] ∧ Dp K H x d ∧ Dp K H y e ∧ AlikeAll [d, e] ∧ PyData.depthAll [d, e] ≤ 60 ∧ Q (if dataLt e d = true then y else x) H
theorem call_minP (hc : X.calm = true) (hu : X.A.units + 65 < cLine) : CallR X (.builtin "min") (rMinP X.K) := by
  intro pins s σ H xs us Q I r h
  obtain ⟨x, y, d, e, rfl, h1, h2, hA, hl, q⟩ := h
  obtain ⟨u, w', rfl, r1, r2⟩ := vals2 r
  obtain ⟨as, ra⟩ := Dp.reads I d x u h1 r1
  obtain ⟨bs, rb⟩ := Dp.reads I e y w' h2 r2
  refine min_pair (I.ok.hd hc) ra rb hA (by omega) fun h' tk k => ⟨_, H, I.kept k, ?_, q⟩
  cases dataLt e d
  · exact r1
  · exact r2
def qMinP : OpL := fun ds Q => ∃ d e, ds = [d, e] ∧ ((d.isFz = true ∧ e.isFz = true) ∧ ((toPy d).plain = true ∧ (toPy e).plain = true)) ∧ AlikeAll [toPy d, toPy e] ∧ PyData.depthAll [toPy d, toPy e] ≤ 60 ∧ Q (if ltD e d = true then e else d)
theorem s_minP : SemL X.K (rMinP X.K) qMinP := by
  rintro G H vs ds Q0 Q s rs ⟨d, e, rfl, ⟨⟨f1, f2⟩, p1, p2⟩, hA, hl, q⟩ fin
  obtain ⟨v, w, F, F', rfl, r1, r2⟩ := rps2 rs
  refine ⟨v, w, toPy d, toPy e, rfl, Rp.dp s d r1 p1, Rp.dp s e r2 p2, hA, hl, ?_⟩
  have r1' := r1.shared f1
  have r2' := r2.shared f2
  unfold ltD at q
  cases c : dataLt (toPy e) (toPy d) with
  | true => rw [c] at q; exact fin _ _ G H [] q ((Stp.refl G H _).mono (fun _ z => z) fun a z => by cases z) s r2'
  | false => rw [c] at q; exact fin _ _ G H [] q ((Stp.refl G H _).mono (fun _ z => z) fun a z => by cases z) s r1'
end
theorem ltD_str (a b : Str) : ltD (en a) (en b) = strLt a b := dataLt_str a b
theorem al_str {a b : Str} : AlikeAll [toPy (en a : D), toPy (en b : D)] := al2 rfl rfl rfl rfl (fun z => by cases z) (fun z => by cases z)
theorem dp_str {a b : Str} : PyData.depthAll [toPy (en a : D), toPy (en b : D)] ≤ 60 := by
  show PyData.depthAll [.str a, .str b] ≤ 60
  simp [PyData.depthAll, PyData.depth]
theorem w_minS {a b : Str} {k : D → Prop} (h : k (en (if strLt b a = true then b else a))) : qMinP [en a, en b] k := by
  refine ⟨_, _, rfl, ⟨⟨rfl, rfl⟩, rfl, rfl⟩, al_str, dp_str, ?_⟩
  rw [ltD_str]
  cases c : strLt b a with
  | true => rw [c] at h; exact h
  | false => rw [c] at h; exact h
theorem w_maxS {a b : Str} {k : D → Prop} (h : k (en (if strLt a b = true then b else a))) : qMaxP [en a, en b] k := by
  refine ⟨_, _, rfl, ⟨⟨rfl, rfl⟩, rfl, rfl⟩, al_str, dp_str, ?_⟩
  rw [ltD_str]
  cases c : strLt a b with
  | true => rw [c] at h; exact h
  | false => rw [c] at h; exact h
end DL
namespace Lw
open PySem L2 DL
section
open Enc (en)
local macro_rules | `(tactic| walk_at "ty") => `(tactic| first | exact ⟨_, _, rfl, rfl, rfl, by decide⟩ | exact ⟨_, _, rfl, rfl, rfl, .inr rfl⟩)
local macro_rules | `(tactic| walk_at "t1") => `(tactic| first | exact ⟨_, rfl, rfl, by decide⟩ | exact ⟨_, sl_oo rfl rfl (by assumption), rfl, by decide⟩)
local macro_rules | `(tactic| walk_at "le") => `(tactic| (simp only [fe_nil, fe_un, fe_b, fe_v, fe_w, fr_e, fr_eo, fr_ek]; first | done | exact rfl))
local macro_rules | `(tactic| walk_at "ow") => `(tactic| first | exact rfl | exact own_oo (fun _ => rfl) | exact own_e (fun _ => rfl))
local macro_rules | `(tactic| walk_at "ok") => `(tactic| first | exact ok_of (by decide) | exact ok_eo (by decide) | rfl | decide)
local macro_rules | `(tactic| walk_at "py") => `(tactic| first | exact py_nil | exact py_eo _ | exact py_ek _ | exact rfl)
local macro_rules | `(tactic| walk_at "g0") => `(tactic| first
      | ((with_reducible_and_instances apply w_ixK); (· walk_at "rf"); (· rfl))
      | ((with_reducible_and_instances apply w_fdK); (· walk_at "rf"); (· rfl))
      | ((with_reducible_and_instances apply w_rfK); (· walk_at "rf"))
      | ((with_reducible_and_instances apply w_tyT); (· rfl); (· walk_at "ne"); (· first | exact rfl | exact okV_fs rfl); (· walk_at "ne"); (· rfl))
      | ((with_reducible_and_instances apply w_tyF); (· rfl))
      | ((with_reducible_and_instances apply w_upK); (· first | exact rfl | exact okV_fs rfl); (· walk_at "ne"); (· first | exact rfl | exact okV_fs rfl); (· walk_at "ne"))
      | ((with_reducible_and_instances apply w_repL); (· rfl); (· decide); (· decide))
      | ((with_reducible_and_instances apply w_var); (· walk_at "rf"))
      | ((with_reducible_and_instances apply w_opK); (· walk_at "rf"); (· walk_at "rf"))
      | ((with_reducible_and_instances apply w_nT); (· first | exact rfl | exact okV_fs rfl); (· walk_at "ne"))
      | ((with_reducible_and_instances apply w_nO); (· walk_at "rf"); (· walk_at "nz"); (· walk_at "fr"); (· walk_at "ne"); (· first | exact rfl | exact okV_fs rfl); (· walk_at "ne"))
      | ((with_reducible_and_instances apply w_nS); (· walk_at "rf"); (· walk_at "fz"); (· first | exact rfl | exact okV_fs rfl); (· walk_at "ne")))
local macro_rules | `(tactic| walk_at "g1") => `(tactic| first
      | ((with_reducible_and_instances apply w_cbK); (· walk_at "rf"))
      | ((with_reducible_and_instances apply w_mkK); (· walk_at "tk"); (· walk_at "bd"))
      | (with_reducible_and_instances apply w_itO)
      | (with_reducible_and_instances apply w_itN)
      | ((with_reducible_and_instances apply w_itK'); (· walk_at "rf"))
      | ((with_reducible_and_instances apply w_itS); (· walk_at "rf"); (· walk_at "rf"))
      | ((with_reducible_and_instances apply w_itF); (· walk_at "rf"); (· walk_at "nz"); (· walk_at "fr"); (· walk_at "ne"); (· walk_at "rf"))
      | ((with_reducible_and_instances apply w_itK); (· walk_at "rf"); (· walk_at "rf"))
      | ((with_reducible_and_instances apply w_lcK); (· walk_at "rf"); (· walk_at "ne"))
      | ((with_reducible_and_instances apply w_lcT); (· assumption); (· walk_at "ne"))
      | ((with_reducible_and_instances apply w_lcS); (· walk_at "rf"); (· walk_at "fz"); (· assumption); (· walk_at "ne"))
      | (with_reducible_and_instances apply w_retT)
      | ((with_reducible_and_instances apply w_retS); (· walk_at "rf"); (· walk_at "fz")))
local macro_rules | `(tactic| walk_at "g2") => `(tactic| first
      | ((with_reducible_and_instances apply w_mv); (· walk_at "rf"); (· walk_at "ne"))
      | ((with_reducible_and_instances apply w_unK); (· walk_at "rf"))
      | ((with_reducible_and_instances apply w_blK); (· walk_at "rf"))
      | ((with_reducible_and_instances apply w_chK); (· walk_at "rf"); (· walk_at "rf"))
      | (with_reducible_and_instances apply w_addI)
      | ((with_reducible_and_instances apply w_addS); (· first | omega | assumption))
      | ((with_reducible_and_instances apply w_mod); (· omega))
      | ((with_reducible_and_instances apply w_div); (· omega))
      | (with_reducible_and_instances apply w_eqS)
      | (with_reducible_and_instances apply w_eqI)
      | ((with_reducible_and_instances apply w_eqP); (· walk_at "py"); (· walk_at "py"); (· decide))
      | (with_reducible_and_instances apply w_neS)
      | (with_reducible_and_instances apply w_neI)
      | ((with_reducible_and_instances apply w_neP); (· walk_at "py"); (· walk_at "py"); (· decide)))
local macro_rules | `(tactic| walk_at "g3") => `(tactic| first
      | ((with_reducible_and_instances apply w_inLf); (· walk_at "rf"); (· decide))
      | ((with_reducible_and_instances apply w_inLt); (· walk_at "rf"); (· decide))
      | (with_reducible_and_instances apply w_inTf)
      | (with_reducible_and_instances apply w_inTt)
      | (with_reducible_and_instances apply w_in2f)
      | (with_reducible_and_instances apply w_in2t)
      | (with_reducible_and_instances apply w_inDf)
      | (with_reducible_and_instances apply w_inDt)
      | ((with_reducible_and_instances apply w_caK); (· walk_at "tk"))
      | ((with_reducible_and_instances apply w_baK); (· walk_at "tk"))
      | ((with_reducible_and_instances apply w_kwK); (· walk_at "tk"))
      | ((with_reducible_and_instances apply w_list); (· walk_at "rf"); (· first | exact rfl | exact fzl_e _)))
local macro_rules | `(tactic| walk_at "g4") => `(tactic| first
      | ((with_reducible_and_instances apply w_len); (· walk_at "rf"))
      | ((with_reducible_and_instances apply w_lenS); (· walk_at "bd"))
      | ((with_reducible_and_instances apply w_all); (· walk_at "rf"); (· first | exact bls_e _ | exact rfl | exact bls_m _ _))
      | ((with_reducible_and_instances apply w_any); (· walk_at "rf"); (· first | exact bls_e _ | exact rfl | exact bls_m _ _))
      | ((with_reducible_and_instances apply w_isiT); (· walk_at "rf"); (· walk_at "rf"))
      | ((with_reducible_and_instances apply w_isiF); (· walk_at "rf"); (· walk_at "rf"))
      | ((with_reducible_and_instances apply w_sortI); (· walk_at "rf"); (· first | exact ints_e _ | exact ints_m _ _); (· walk_at "bd"); intro _ _ _)
      | ((with_reducible_and_instances apply w_rg1K); (· walk_at "rf"); (· walk_at "bd"))
      | ((with_reducible_and_instances apply w_rg2K); (· walk_at "rf"); (· walk_at "bd"))
      | ((with_reducible_and_instances apply w_mut); (· exact ⟨_, _, rfl, rfl, rfl, by decide⟩))
      | ((with_reducible_and_instances apply w_appE); (· walk_at "tk"); (· walk_at "rf"); (· walk_at "bd"); (· walk_at "ne"))
      | ((with_reducible_and_instances apply w_appS); (· walk_at "tk"); (· walk_at "rf"); (· walk_at "bd"); (· walk_at "ne"))
      | ((with_reducible_and_instances apply w_appI); (· walk_at "tk"); (· walk_at "rf"); (· walk_at "bd"); (· walk_at "ne"))
      | ((with_reducible_and_instances apply w_appV); (· walk_at "tk"); (· walk_at "rf"); (· walk_at "bd"); (· walk_at "ne"))
      | ((with_reducible_and_instances apply w_mu); (· walk_at "tk"); (· walk_at "rf"); (· walk_at "rf")))
local macro_rules | `(tactic| walk_at "g5") => `(tactic| first
      | ((with_reducible_and_instances apply w_ptK); (· walk_at "rf"))
      | ((with_reducible_and_instances apply w_cutE); (· walk_at "rf"); (· walk_at "rf"))
      | ((with_reducible_and_instances apply w_cutT); (· walk_at "rf"); (· walk_at "bd"))
      | ((with_reducible_and_instances apply w_upper); (· omega))
      | ((with_reducible_and_instances apply w_revT); (· omega))
      | ((with_reducible_and_instances apply w_fzT); (· walk_at "fr"))
      | ((with_reducible_and_instances apply w_strI); (· first | omega | assumption))
      | (with_reducible_and_instances apply w_strS)
      | ((with_reducible_and_instances apply w_trT); (· walk_at "rf"))
      | ((with_reducible_and_instances apply w_trF); (· walk_at "rf"))
      | ((with_reducible_and_instances apply w_augI); (· walk_at "rf"))
      | ((with_reducible_and_instances apply w_agK); (· walk_at "rf"); (· walk_at "rf"); (· walk_at "rf"); (· walk_at "ne")))
local macro_rules | `(tactic| walk_at "g6") => `(tactic| first
      | ((with_reducible_and_instances apply w_mulI); (· first | exact Or.inr (by omega) | exact Or.inl (by omega)))
      | ((with_reducible_and_instances apply w_mulS); (· first | omega | assumption))
      | ((with_reducible_and_instances apply w_pow); (· first | omega | assumption | exact ⟨by omega, by omega, by omega⟩))
      | ((with_reducible_and_instances apply w_isK); (· walk_at "rf"))
      | ((with_reducible_and_instances apply w_m1K); (· walk_at "rf"))
      | ((with_reducible_and_instances apply w_puK); (· exact ⟨_, _, rfl, rfl, rfl, by decide⟩))
      | ((with_reducible_and_instances apply w_wpK); (· walk_at "ne"))
      | ((with_reducible_and_instances apply w_forC); (· walk_at "rf"); (· walk_at "ne"))
      | ((with_reducible_and_instances apply w_muV); (· walk_at "ne"))
      | ((with_reducible_and_instances apply w_muW); (· walk_at "ne"))
      | ((with_reducible_and_instances apply w_mbE); (· assumption); (· walk_at "ne"))
      | ((with_reducible_and_instances apply m_appE); (· walk_at "bd")))
local macro_rules | `(tactic| walk_at "g7") => `(tactic| first
      | ((with_reducible_and_instances apply m_insE); (· walk_at "bd"))
      | ((with_reducible_and_instances apply m_extE); (· walk_at "bd"))
      | ((with_reducible_and_instances apply m_putE); (· walk_at "bd"))
      | ((with_reducible_and_instances apply w_muB); (· walk_at "tk"); (· walk_at "rf"); (· walk_at "rf"); (· assumption))
      | ((with_reducible_and_instances apply w_mutB); (· walk_at "t1"))
      | ((with_reducible_and_instances apply w_isDK); (· walk_at "rf"); (· walk_at "rf"))
      | ((with_reducible_and_instances apply w_g2E); (· walk_at "rf"); (· walk_at "rf"); (· walk_at "rf"); (· first | exact rfl | exact fz_e _))
      | ((with_reducible_and_instances apply w_dpK); (· walk_at "tk"); (· exact ⟨rfl, by decide, by decide +kernel⟩))
      | ((with_reducible_and_instances apply w_gtT); (· walk_at "fr"); (· exact rfl); (· exact rfl))
      | ((with_reducible_and_instances apply w_gtS); (· walk_at "rf"); (· walk_at "fz"); (· exact rfl); (· exact rfl))
      | ((with_reducible_and_instances apply w_gsK); (· walk_at "t1"))
      | ((with_reducible_and_instances apply w_zK); (· walk_at "tk"); (· exact rfl); (· exact rfl)))
local macro_rules | `(tactic| walk_at "g8") => `(tactic| first
      | ((with_reducible_and_instances apply w_ezK); (· walk_at "tk"); (· exact rfl); (· exact rfl))
      | ((with_reducible_and_instances apply w_lr1K); (· walk_at "rf"); (· omega))
      | ((with_reducible_and_instances apply w_lr2K); (· walk_at "rf"); (· walk_at "rf"); (· walk_at "bd"))
      | ((with_reducible_and_instances apply w_enK); (· walk_at "tk"); (· exact rfl))
      | ((with_reducible_and_instances apply w_jlK); (· walk_at "rf"); (· first | omega | assumption))
      | ((with_reducible_and_instances apply w_fmS); (· walk_at "rf"); (· first | omega | assumption))
      | ((with_reducible_and_instances apply w_fmI); (· walk_at "rf"); (· first | omega | assumption))
      | ((with_reducible_and_instances apply w_bmK); (· walk_at "t1"))
      | ((with_reducible_and_instances apply w_lend); (· walk_at "le"))
      | ((with_reducible_and_instances apply w_ldK); (· walk_at "ow"))
      | ((with_reducible_and_instances apply w_fzS); (· walk_at "rf"); (· walk_at "fr"); (· walk_at "ne"))
      | ((with_reducible_and_instances apply w_dp1K); (· walk_at "tk")))
local macro_rules | `(tactic| walk_at "g9") => `(tactic| first
      | ((with_reducible_and_instances apply w_frz); (· walk_at "rf"); (· walk_at "fr"); (· walk_at "ne")))
local macro_rules | `(tactic| walk_at "g10") => `(tactic| first
      | (with_reducible_and_instances apply w_asg)
      | (with_reducible_and_instances apply w_next)
      | (with_reducible_and_instances apply w_drop)
      | (with_reducible_and_instances apply w_ret)
      | (with_reducible_and_instances apply w_retN)
      | (with_reducible_and_instances apply w_ifS)
      | (with_reducible_and_instances apply w_for)
      | (with_reducible_and_instances apply w_break)
      | (with_reducible_and_instances apply w_cont)
      | (with_reducible_and_instances apply w_isX)
      | (with_reducible_and_instances apply w_fld)
      | (with_reducible_and_instances apply w_raiseF)
      | (with_reducible_and_instances apply w_tryK)
      | (with_reducible_and_instances apply w_unp)
      | (with_reducible_and_instances apply w_c)
      | (with_reducible_and_instances apply w_op)
      | (with_reducible_and_instances apply w_nil)
      | (with_reducible_and_instances apply w_cons)
      | (with_reducible_and_instances apply w_cb)
      | (with_reducible_and_instances apply w_lst)
      | (with_reducible_and_instances apply w_tup)
      | (with_reducible_and_instances apply w_iseq)
      | (with_reducible_and_instances apply w_lc))
local macro_rules | `(tactic| walk_at "g11") => `(tactic| first
      | (with_reducible_and_instances apply w_lcX)
      | (with_reducible_and_instances apply w_true)
      | (with_reducible_and_instances apply w_un)
      | (with_reducible_and_instances apply w_tst)
      | (with_reducible_and_instances apply w_and)
      | (with_reducible_and_instances apply w_or)
      | (with_reducible_and_instances apply w_not)
      | (with_reducible_and_instances apply w_andV)
      | (with_reducible_and_instances apply w_orV)
      | (with_reducible_and_instances apply w_notV)
      | (with_reducible_and_instances apply w_ifE)
      | (with_reducible_and_instances apply w_chain)
      | (with_reducible_and_instances apply w_isB)
      | (with_reducible_and_instances apply w_subI)
      | (with_reducible_and_instances apply w_neg)
      | (with_reducible_and_instances apply w_ltI)
      | (with_reducible_and_instances apply w_ltS)
      | (with_reducible_and_instances apply w_leI)
      | (with_reducible_and_instances apply w_leS)
      | (with_reducible_and_instances apply w_gtI)
      | (with_reducible_and_instances apply w_geI)
      | (with_reducible_and_instances apply w_call)
      | (with_reducible_and_instances apply w_callK))
local macro_rules | `(tactic| walk_at "g12") => `(tactic| first
      | (with_reducible_and_instances apply w_rng1)
      | (with_reducible_and_instances apply w_rng2)
      | (with_reducible_and_instances apply w_cut)
      | (with_reducible_and_instances apply w_part)
      | (with_reducible_and_instances apply w_noPart)
      | (with_reducible_and_instances apply w_fz)
      | (with_reducible_and_instances apply w_dK)
      | (with_reducible_and_instances apply w_raise)
      | (with_reducible_and_instances apply w_try)
      | (with_reducible_and_instances apply w_intB)
      | (with_reducible_and_instances apply w_intI)
      | (with_reducible_and_instances apply w_isdigit)
      | (with_reducible_and_instances apply w_isalpha)
      | (with_reducible_and_instances apply w_isNn)
      | (with_reducible_and_instances apply w_isN)
      | (with_reducible_and_instances apply w_notN)
      | (with_reducible_and_instances apply w_istr)
      | (with_reducible_and_instances apply w_m1)
      | (with_reducible_and_instances apply w_put)
      | (with_reducible_and_instances apply w_loopNil)
      | (with_reducible_and_instances apply w_lcNil)
      | (with_reducible_and_instances apply lw_nil)
      | (with_reducible_and_instances apply w_wipe))
local macro_rules | `(tactic| walk_at "g13") => `(tactic| first
      | (with_reducible_and_instances apply w_forW)
      | (with_reducible_and_instances apply m_clrE)
      | (with_reducible_and_instances apply w_newD)
      | (with_reducible_and_instances apply w_get2)
      | (with_reducible_and_instances apply w_disp)
      | (with_reducible_and_instances apply w_dsN)
      | (with_reducible_and_instances apply w_dsC)
      | (with_reducible_and_instances apply w_gnil)
      | (with_reducible_and_instances apply w_gcons)
      | (with_reducible_and_instances apply w_gsub)
      | (with_reducible_and_instances apply w_zip)
      | (with_reducible_and_instances apply w_zipA)
      | (with_reducible_and_instances apply w_ez)
      | (with_reducible_and_instances apply w_lrg1)
      | (with_reducible_and_instances apply w_lrg2)
      | (with_reducible_and_instances apply w_enum)
      | (with_reducible_and_instances apply w_js)
      | (with_reducible_and_instances apply w_jlN)
      | (with_reducible_and_instances apply w_jlC)
      | (with_reducible_and_instances apply w_fmt)
      | (with_reducible_and_instances apply w_bm1)
      | (with_reducible_and_instances apply w_disp1))
local macro_rules | `(tactic| walk_at "d1") => `(tactic| first | (refine St1.go ?_) | (with_reducible_and_instances apply w_seq) | walk_at "d0")
local macro_rules | `(tactic| walk_at "dn") => `(tactic| repeat (first | (refine St1.go ?_) | walk_at "d0"))
local macro_rules | `(tactic| walk_at "st") => `(tactic| ((with_reducible_and_instances apply w_seq); repeat (first | (refine St1.go ?_) | walk_at "d0")))
local macro_rules | `(tactic| walk_at "br") => `(tactic| repeat' (first | (refine St1.go ?_) | (with_reducible_and_instances apply w_seq) | walk_at "d0" | refine w_if (fun _ => ?_) (fun _ => ?_)))
local macro_rules | `(tactic| walk_at "lc") => `(tactic| (refine lc_all ?_ ?_ ?_; (· intro a ha acc k k' hl hk; walk_at "dg"; exact hk); (· walk_at "bd")))
local macro_rules | `(tactic| walk_at "in") => `(tactic| (simp only [initE, finL, fz_e, fz_eo, fz_ek, if_true, if_false, Bool.false_eq_true, List.map_cons, List.map_nil, List.length_cons, List.length_nil, Nat.zero_add, Nat.reduceAdd, Nat.reduceSub, List.replicate_succ, List.replicate_zero, List.cons_append, List.nil_append, Option.some.injEq, exists_eq_left']))
local macro_rules | `(tactic| walk_at "bd") => `(tactic| first | omega | (simp only [List.length_map, List.length_range, List.length_cons, List.length_nil]; omega) | (simp; omega))
local macro_rules | `(tactic| walk_at "tk") => `(tactic| first
  | exact ag_nil | exact ba_nil | exact tl_nil | exact tf_nil
  | ((with_reducible_and_instances apply ag_fS); (· walk_at "rf"); (· walk_at "fz"); (· walk_at "tk")) | ((with_reducible_and_instances apply ag_fT); (· walk_at "fr"); (· walk_at "tk")) | ((with_reducible_and_instances apply ag_tT); walk_at "tk")
  | ((with_reducible_and_instances apply ag_tV); (· walk_at "rf"); (· walk_at "ne"); (· walk_at "tk")) | ((with_reducible_and_instances apply ag_tW); (· walk_at "rf"); (· walk_at "ne"); (· walk_at "tk"))
  | ((with_reducible_and_instances apply ag_fO); (· walk_at "rf"); (· walk_at "nz"); (· walk_at "fr"); (· walk_at "ne"); (· walk_at "tk"))
  | ((with_reducible_and_instances apply ba_f); walk_at "tk") | ((with_reducible_and_instances apply ba_tT); walk_at "tk") | ((with_reducible_and_instances apply ba_tV); (· walk_at "rf"); (· walk_at "rf"); (· walk_at "ne"); (· walk_at "tk")) | ((with_reducible_and_instances apply ba_tW); (· walk_at "rf"); (· walk_at "rf"); (· walk_at "ne"); (· walk_at "tk"))
  | ((with_reducible_and_instances apply tl_S); (· walk_at "rf"); (· walk_at "fz"); (· walk_at "tk")) | ((with_reducible_and_instances apply tl_T); walk_at "tk")
  | ((with_reducible_and_instances apply tl_O); (· walk_at "rf"); (· walk_at "nz"); (· walk_at "fr"); (· walk_at "ne"); (· walk_at "tk"))
  | ((with_reducible_and_instances apply tf_S); (· walk_at "rf"); (· walk_at "fz"); (· walk_at "tk")) | ((with_reducible_and_instances apply tf_T); (· walk_at "fr"); (· walk_at "tk"))
  | ((with_reducible_and_instances apply tf_O); (· walk_at "rf"); (· walk_at "nz"); (· walk_at "fr"); (· walk_at "ne"); (· walk_at "tk")))
local macro_rules | `(tactic| walk_at "ne") => `(tactic| (simp only [kb_nil, kb_un, kb_v, kb_w, kb_b, kb_fs, se0, seS, wi0, wiS]; first | done | exact rfl))
local macro_rules | `(tactic| walk_at "fr") => `(tactic| first | exact fr_e _ | exact fr_eo _ | exact fr_ek _ | assumption | exact rfl | (simp only [D.fz, fzL]; exact rfl))
local macro_rules | `(tactic| walk_at "nz") => `(tactic| first | exact rfl | exact fz_eo _)
local macro_rules | `(tactic| walk_at "fz") => `(tactic| first | exact rfl | exact fz_e _ | exact fz_ek _ | assumption | (simp only [fz_e, D.isFz]; done))
local macro_rules | `(tactic| walk_at "rf") => `(tactic| first | exact rfl | exact sl_oo rfl rfl (by assumption))
local macro_rules | `(tactic| walk_at "d0") => `(tactic| first | (refine Al0.go ?_; walk_at "g0") | (refine Al1.go ?_; walk_at "g1") | (refine Al2.go ?_; walk_at "g2") | (refine Al3.go ?_; walk_at "g3") | (refine Al4.go ?_; walk_at "g4") | (refine Al5.go ?_; walk_at "g5") | (refine Al6.go ?_; walk_at "g6") | (refine Al7.go ?_; walk_at "g7") | (refine Al8.go ?_; walk_at "g8") | (refine Al9.go ?_; walk_at "g9") | (refine Al10.go ?_; walk_at "g10") | (refine Al11.go ?_; walk_at "g11") | (refine Al12.go ?_; walk_at "g12") | (refine Al13.go ?_; walk_at "g13"))
local macro_rules | `(tactic| walk_at "dg") => `(tactic| repeat (first | (refine St1.go ?_) | (with_reducible_and_instances apply w_seq) | walk_at "d0"))
open Enc (en)
def pcB (c : Nat) : Bool := decide (32 ≤ c) && decide (c ≤ 126)
def plB (x : Str) : Bool := x.cps.toList.all pcB
def digB (c : Nat) : Bool := decide (48 ≤ c) && decide (c ≤ 57)
def letB (c : Nat) : Bool := (decide (65 ≤ c) && decide (c ≤ 90)) || (decide (97 ≤ c) && decide (c ≤ 122)) || c == 95
/-- sorts: 0 blank, 1 figure, 2 letter, 3 sign -/
def sortN (c : Nat) : Nat := if c = 32 then 0 else if digB c then 1 else if letB c then 2 else 3
def sortS : Nat → Str
  | 0 => "blank"
  | 1 => "figure"
  | 2 => "letter"
  | _ => "sign"
/-- what belongs to a word that a sign of sort k began -/
def goesB (k : Nat) (c : Nat) : Bool := (k == 2 && (sortN c == 2 || sortN c == 1)) || (k == 1 && sortN c == 1)
theorem drop_lt {p : Nat → Bool} (l : List Nat) : (l.dropWhile p).length ≤ l.length := (List.dropWhile_suffix p).length_le
/-- the words of a text -/
def wordsL : List Nat → List (List Nat)
  | [] => []
  | c :: r => if c = 32 then wordsL r else (c :: r.takeWhile (goesB (sortN c))) :: wordsL (r.dropWhile (goesB (sortN c)))
termination_by l => l.length
decreasing_by
  · simp
  · have := drop_lt (p := goesB (sortN c)) r
    simp
    omega
def wordsF (x : Str) : List Str := (wordsL x.cps.toList).map st
/-- the words, or that there are too many, too long -/
def rowB (ws : List Str) : Bool := decide (ws.length ≤ 30) && ws.all fun w => decide (w.length ≤ 20)
def bad : Exn := ⟨"BadRow", none⟩
/-- a thing that is no text -/
def Oth (d : D) : Prop := (tyKnown (tyN d) = true ∧ (tyN d == "str") = false) ∧ d.isFz = true ∧ okD d = true
def S_is_plain : SpD := fun ds Q _ => ∃ d : D, ds = [d] ∧ ((∃ x : Str, d = en x ∧ x.length ≤ 100000 ∧ Q (en (plB x)) ds) ∨ (Oth d ∧ Q (en false) ds))
def S_sort_of : SpD := fun ds Q _ => ∃ c : Nat, ds = [en (sg c)] ∧ pcB c = true ∧ Q (en (sortS (sortN c))) ds
def S_end_of : SpD := fun ds Q _ => ∃ (x : Str) (a : Nat) (c : Nat) (r : List Nat), ds = [en x, en (a : Int)] ∧ plB x = true ∧ x.length ≤ 100000 ∧ x.cps.toList.drop a = c :: r ∧ Q (en ((a + 1 + (r.takeWhile (goesB (sortN c))).length : Nat) : Int)) ds
def S_parts_of : SpD := fun ds Q _ => ∃ x : Str, ds = [en x] ∧ plB x = true ∧ x.length ≤ 100000 ∧ Q (eo (wordsF x)) ds
/-- a word -/
noncomputable def wordB (x : Str) : Bool := plB x && (decide (x.length ≤ 20) && dc (wordsF x = [x]))
noncomputable def nameB (x : Str) : Bool := wordB x && decide (sortN (x.cps.toList.headD 32) = 2)
def keptL : List Str := ["and", "def", "do", "else", "end", "for", "if", "in", "not", "or", "return", "use", "while"]
noncomputable def freeB (x : Str) : Bool := nameB x && !dc (x ∈ keptL)
def S_is_word : SpD := fun ds Q _ => ∃ d : D, ds = [d] ∧ ((∃ x : Str, d = en x ∧ x.length ≤ 100000 ∧ Q (en (wordB x)) ds) ∨ (Oth d ∧ Q (en false) ds))
def S_is_name : SpD := fun ds Q _ => ∃ d : D, ds = [d] ∧ ((∃ x : Str, d = en x ∧ x.length ≤ 100000 ∧ Q (en (nameB x)) ds) ∨ (Oth d ∧ Q (en false) ds))
def S_is_free : SpD := fun ds Q _ => ∃ d : D, ds = [d] ∧ ((∃ x : Str, d = en x ∧ x.length ≤ 100000 ∧ Q (en (freeB x)) ds) ∨ (Oth d ∧ Q (en false) ds))
def S_law_kept : SpD := fun ds Q _ => ds = [] ∧ Q (eo keptL) ds
/-! k06 .. k16: words, stretches, draws -/
/-- a word or a number -/
inductive It where
  | w (x : Str)
  | h (i : Int)
instance : Enc It := ⟨fun | .w x => .p (.str x) | .h i => .p (.int i), fun x => by cases x <;> rfl, fun x => by cases x <;> rfl, 0, fun x => by cases x <;> simp [toPy, PyData.depth], fun x y => by cases x <;> cases y <;> simp [eqD, toPy, PyData.eqv]⟩
/-- what draws are taken from -/
structure St where
  ns : List Int
  a : Int
  r : Int
  t : Int
  m : Int
def St.d (s : St) : D := .n true (.dic [.inr "cells", .inr "at", .inr "rest", .inr "turn", .inr "more"]) [ek s.ns, en s.a, en s.r, en s.t, en s.m]
def St.ok (s : St) : Prop := s.ns.length ≤ 63 ∧ 0 ≤ s.a ∧ 0 ≤ s.t ∧ 0 ≤ s.m ∧ s.m < 2147483647
theorem fz_st (s : St) : s.d.isFz = false := rfl
def S_law_begun : SpD := fun ds Q _ => ∃ ns : List Int, ds = [ek ns] ∧ ns.length ≤ 63 ∧ ∀ s : St, s.ok → Q s.d ds
def S_law_take : SpD := fun ds Q _ => ∃ (s : St) (m : Int), ds = [s.d, en m] ∧ s.ok ∧ (0 < m ∧ m < 2 ^ 128) ∧ ∀ (k : Nat) (s' : St), s'.ok → (k : Int) < m → Q (en (k : Int)) [s'.d, en m]
def S_law_free : SpD := fun ds Q _ => ∃ x : Str, ds = [en x] ∧ wordB x = true ∧ Q (en (freeB x)) ds
/-- a free name -/
def Fn (x : Str) : Prop := freeB x = true
/-- names that are used: the kept ones first -/
def Used (u : List Str) : Prop := ∃ us, u = keptL ++ us ∧ u.length ≤ 5000 ∧ (∀ x ∈ us, Fn x) ∧ u.Nodup
def S_law_name : SpD := fun ds Q _ => ∃ (s : St) (u : List Str), ds = [s.d, eo u] ∧ s.ok ∧ Used u ∧ u.length ≤ 1000 ∧ ∀ (s' : St) (x : Str), s'.ok → Fn x → x ∉ u → Q (en x) [s'.d, eo (u ++ [x])]
/-- so many names more -/
def More (u : List Str) (n : Nat) (xs u' : List Str) : Prop := xs.length = n ∧ u' = u ++ xs ∧ (∀ x ∈ xs, Fn x) ∧ xs.Nodup ∧ ∀ x ∈ xs, x ∉ u
def S_law_names : SpD := fun ds Q _ => ∃ (s : St) (u : List Str), ds = [s.d, eo u] ∧ s.ok ∧ Used u ∧ u.length ≤ 900 ∧ ∀ (s' : St) (n : Nat) (xs : List Str), s'.ok → 0 < n → n ≤ 8 → More u n xs (u ++ xs) → Q (eo xs) [s'.d, eo (u ++ xs)]
/-- words -/
def Ws (ws : List Str) : Prop := ws.length ≤ 100 ∧ ∀ w ∈ ws, wordB w = true
/-- a stretch -/
def Sx (rows : List (List Str)) : Prop := rows.length ≤ 100 ∧ ∀ r ∈ rows, Ws r
def S_law_word : SpD := fun ds Q _ => ∃ (s : St) (xs : List Str), ds = [s.d, en xs] ∧ s.ok ∧ (0 < xs.length ∧ xs.length ≤ 1000) ∧ (∀ x ∈ xs, Fn x) ∧ ∀ (s' : St) (x : Str), s'.ok → wordB x = true → (freeB x = true → x ∈ xs) → Q (en x) [s'.d, en xs]
def S_law_stretch : SpD := fun ds Q _ => ∃ (s : St) (xs : List Str) (n : Nat), ds = [s.d, en xs, en (n : Int)] ∧ s.ok ∧ (0 < xs.length ∧ xs.length ≤ 1000) ∧ (∀ x ∈ xs, Fn x) ∧ n ≤ 20 ∧ ∀ (s' : St) (rows : List (List Str)), s'.ok → rows.length = n → (∀ r ∈ rows, r.length ≤ 6 ∧ ∀ w ∈ r, wordB w = true ∧ (freeB w = true → w ∈ xs)) → Q (eoo rows) [s'.d, en xs, en (n : Int)]
def copyF (kv : List (Str × Str)) (rows : List (List Str)) : List (List Str) := rows.map fun r => r.map fun w => (aget kv w).getD w
def S_law_copy : SpD := fun ds Q _ => ∃ (rows : List (List Str)) (kv : List (Str × Str)), ds = [en rows, dE false kv] ∧ Sx rows ∧ Q (eoo (copyF kv rows)) ds
/-- a one-to-one way from names -/
def Way (xs : List Str) (kv : List (Str × Str)) : Prop := kv.map (·.1) = xs ∧ (kv.map (·.2)).Nodup ∧ ∀ p ∈ kv, Fn p.2
def S_law_ways : SpD := fun ds Q _ => ∃ (s : St) (xs u : List Str), ds = [s.d, en xs, eo u] ∧ s.ok ∧ Used u ∧ u.length ≤ 900 ∧ xs.length ≤ 500 ∧ xs.Nodup ∧ (∀ x ∈ xs, Fn x ∧ x ∈ u) ∧ ∀ (s' : St) (kv : List (Str × Str)) (us : List Str), s'.ok → Way xs kv → us.length ≤ 3 → Used (u ++ us) → (∀ p ∈ kv, p.2 ∈ u ++ us) → Q (dE true kv) [s'.d, en xs, eo (u ++ us)]
def S_law_spoilt : SpD := fun ds Q _ => ∃ (P : Str → Prop) (s : St) (rows : List (List Str)) (xs : List Str), ds = [s.d, en rows, en xs] ∧ s.ok ∧ ((∀ w, P w → wordB w = true) ∧ ∀ w, wordB w = true → (freeB w = true → w ∈ xs) → P w) ∧ (rows.length ≤ 90 ∧ ∀ r ∈ rows, r.length ≤ 90 ∧ ∀ w ∈ r, P w) ∧ (0 < xs.length ∧ xs.length ≤ 1000) ∧ (∀ x ∈ xs, Fn x) ∧
  ∀ (s' : St) (d : D) (rows' : List (List Str)), s'.ok → d.fz = en rows' → d.isFz = false → rows'.length ≤ rows.length + 1 → (∀ b, (∀ r ∈ rows, r.length ≤ b) → ∀ r ∈ rows', r.length ≤ b + 3) → (∀ r ∈ rows', ∀ w ∈ r, P w) → Q d [s'.d, en rows, en xs]
/-- marks: each name by its first coming -/
noncomputable def wSt (z : List Str × List It) (w : Str) : List Str × List It :=
  let seen := if freeB w = true ∧ w ∉ z.1 then z.1 ++ [w] else z.1
  (seen, z.2 ++ [if freeB w = true then .h (seen.idxOf w) else .w w])
noncomputable def rSt (z : List Str × List (List It)) (r : List Str) : List Str × List (List It) :=
  let y := r.foldl wSt (z.1, [])
  (y.1, z.2 ++ [y.2])
noncomputable def markF (rows : List (List Str)) : List (List It) := (rows.foldl rSt ([], [])).2
def S_mark : SpD := fun ds Q _ => ∃ rows : List (List Str), ds = [en rows] ∧ Sx rows ∧ Q (eoo (markF rows)) ds
def S_law_mark : SpD := fun ds Q _ => ∃ rows : List (List Str), ds = [en rows] ∧ Sx rows ∧ Q (eoo (markF rows)) ds
/-- twins, by looking at each two places -/
def prs (one other : List (List Str)) : List (Str × Str) := (one.zip other).flatMap fun p => p.1.zip p.2
def Tw (one other : List (List Str)) : Prop := one.map List.length = other.map List.length ∧ (∀ p ∈ prs one other, (freeB p.1 = true ∧ freeB p.2 = true) ∨ p.1 = p.2) ∧
  ∀ p ∈ prs one other, ∀ q ∈ prs one other, freeB p.1 = true → freeB p.2 = true → freeB q.1 = true → freeB q.2 = true → (p.1 = q.1 ↔ p.2 = q.2)
def S_law_twins : SpD := fun ds Q _ => ∃ one other : List (List Str), ds = [en one, en other] ∧ Sx one ∧ Sx other ∧ Q (en (dc (Tw one other))) ds
theorem use_take {s : St} {m : Int} {Q : D → List D → Prop} {E : Exn → List D → Prop} (hs : s.ok) (hm : 0 < m ∧ m < 2 ^ 128) (h : ∀ (k : Nat) (s' : St), s'.ok → (k : Int) < m → Q (en (k : Int)) [s'.d, en m]) : S_law_take [s.d, en m] Q E := ⟨s, m, rfl, hs, hm, h⟩
theorem use_free {x : Str} {Q : D → List D → Prop} {E : Exn → List D → Prop} (hx : wordB x = true) (h : Q (en (freeB x)) [en x]) : S_law_free [en x] Q E := ⟨x, rfl, hx, h⟩
theorem use_kept {Q : D → List D → Prop} {E : Exn → List D → Prop} (h : Q (eo keptL) []) : S_law_kept [] Q E := ⟨rfl, h⟩
theorem w_lenM {α : Type} {f : α → D} {xs : List α} {o : Bool} {k : D → Prop} (h : k (.int (xs.length : Nat))) : qLen [.n o .lst (xs.map f)] k := ⟨_, xs.length, rfl, by simp [lenD?], h⟩
theorem w_ixN {α : Type} {inst : Enc α} {d : D} {k : D → Prop} {ys : List α} {m : Nat} (h1 : listOf d = some (ys.map en)) (hl : m < ys.length) (h : ∀ a, a ∈ ys → ys[m]? = some a → k (en a)) : qIxS d (.p (.int (m : Nat))) k := w_ixE h1 (at_nat rfl hl) (h _ (List.getElem_mem hl) (List.getElem?_eq_getElem hl))
theorem w_ixTN {x : Str} {k : D → Prop} {m : Nat} (hl : x.length ≤ 100000) (h0 : m < x.length) (h : ∀ c, x.cps.toList[m]? = some c → k (en (sg c))) : qIxS (.p (.str x)) (.p (.int (m : Nat))) k := by
  have h0 : m < x.cps.toList.length := by rw [str_len]; exact h0
  exact w_ixT hl (at_nat rfl h0) (h _ (List.getElem?_eq_getElem h0))
theorem fr_oo {α : Type} [Enc α] (rows : List (List α)) : (eoo rows).fz = en rows := by
  unfold eoo
  rw [D.fz, fzL_map, List.map_map]
  show D.n false .lst _ = D.n false .lst _
  congr 1
  refine List.map_congr_left fun r _ => ?_
  exact fr_eo r
theorem fr_dE {κ β : Type} [DecidableEq κ] [Enc κ] [KeyE κ] [Enc β] (kv : List (κ × β)) : (dE true kv).fz = dE false kv := by
  have : (kv.map fun p => (en p.2 : D)) = (kv.map (·.2)).map en := by rw [List.map_map]; rfl
  unfold dE
  rw [D.fz, this, fzL_of (fzl_e _)]
theorem w_call0 {s : SpD} {ρ : DL.Env} {Q : Rv → DL.Env → Prop} {E : Exn → DL.Env → Prop} (h : s [] (fun res _ => Q (.t res) ρ) (fun _ _ => False)) : dCall0 s ρ Q E := h
theorem cutS_len (x : Str) (lo hi : Option Int) : (cutS x lo hi).length ≤ x.length := by
  rw [← str_len, ← str_len x]
  unfold cutS
  simp
  omega
theorem app_listS (a b : Str) : (a ++ b).cps.toList = a.cps.toList ++ b.cps.toList := by
  show (a.cps ++ b.cps).toList = _
  simp
theorem app_lenS (a b : Str) : (a ++ b).length = a.length + b.length := by rw [← str_len, app_listS, List.length_append, str_len, str_len]
theorem lg_ok {i : Int} (h : 0 ≤ i ∧ i < 2 ^ 128) : i.natAbs.log2 < 1920 := by
  obtain ⟨n, rfl⟩ := Int.eq_ofNat_of_zero_le h.1
  have hn : n < 2 ^ 128 := by omega
  rw [Int.natAbs_natCast]
  by_cases hz : n = 0
  · subst hz; decide
  · exact (Nat.log2_lt hz).mpr (Nat.lt_of_lt_of_le hn (Nat.pow_le_pow_right (by decide) (by decide)))
theorem w_addN {a b : Str} {k : D → Prop} (h0 : a.length + b.length ≤ 100000) (h : ∀ z : Str, z = a ++ b → z.length = a.length + b.length → k (en z)) : qAdd (.p (.str a)) (.p (.str b)) k := w_addS h0 (h _ rfl (app_lenS a b))
theorem w_cutN {a : Str} {x : Rv} {ρ : DL.Env} {k : D → Prop} {lo hi : Option Int} (h1 : look ρ x = some (.p (.str a))) (hl : a.length ≤ 100000) (h : ∀ z : Str, z = cutS a lo hi → z.length ≤ a.length → k (en z)) : cutK lo hi x ρ k := w_cutT h1 hl (h _ rfl (cutS_len a lo hi))
theorem w_ixTS {x : Str} {k : D → Prop} {m : Nat} (hl : x.length ≤ 100000) (h0 : m < x.length) (h : ∀ (c : Nat) (y : Str), x.cps.toList[m]? = some c → y = sg c → y.length = 1 → k (en y)) : qIxS (.p (.str x)) (.p (.int (m : Nat))) k := w_ixTN hl h0 fun c hc => h c _ hc rfl rfl
theorem w_addLE {α : Type} {inst : Enc α} {o o' : Bool} {xs ys : List α} {k : D → Prop} (h0 : xs.length + ys.length ≤ 100000) (h : k (eo (xs ++ ys))) : qAdd (.n o .lst (xs.map en)) (.n o' .lst (ys.map en)) k := ⟨by rw [fzl_e, fzl_e]; rfl, by rw [List.length_map, List.length_map]; exact h0, by
  unfold eo at h
  rw [List.map_append] at h
  exact h⟩
theorem w_fmN {x : Rv} {ρ : DL.Env} {Q : Rv → DL.Env → Prop} {y : Int} (h1 : look ρ x = some (.p (.int y))) (h2 : 0 ≤ y ∧ y < 2 ^ 128) (h : Q (.t (.p (.str (Str.ofString (toString y))))) ρ) : fmK x ρ Q := w_fmI h1 (lg_ok h2) h
theorem fr_p (v : V) : (D.p v).fz = .p v := by simp only [D.fz]
theorem len_empty : (Str.empty : Str).length = 0 := rfl
theorem len_us : (Str.ofString "_").length = 1 := by decide +kernel
section
variable {n : DL.Env → Prop} {rt : D → DL.Env → Prop} {bk ct : DL.Env → Prop} {ex : Exn → DL.Env → Prop} {g : DG} {tt : DT} {te : DE} {tb : DS} {vs : List Nat} {ρ : DL.Env}
theorem lc_inv2 {α σ : Type} {F : α → D} {K : List D → DL.Env → Prop} (shape : σ → DL.Env) (P : List α → List D → σ → Prop) {items : List α} {acc : List D} (s0 : σ) (e : ρ = shape s0) (h : P items acc s0) (hl : items.length + acc.length ≤ 100000)
    (st : ∀ a rest acc s, P (a :: rest) acc s → acc.length < 100000 → ∀ k : DL.Env → List D → Prop, (∀ s' acc', acc'.length ≤ acc.length + 1 → P rest acc' s' → k (shape s') acc') →
      g (.t (F a)) (shape s) fun ρ1 => tt ρ1 (fun b ρ2 => if b = true then te ρ2 (fun r ρ3 => lcA r ρ3 vs acc k) (fun _ _ => False) else k (wipeD ρ2 vs) acc) (fun _ _ => False))
    (fin : ∀ acc s, P [] acc s → K acc (shape s)) : dLcL g tt te vs K (items.map F) ρ acc := by
  subst e
  exact lc_inv shape P h hl st fin
theorem lw_inv2 {α σ : Type} {F : α → D} {items : List α} (shape : σ → DL.Env) (P : List α → σ → Prop) (s0 : σ) (e : ρ = shape s0) (h0 : P items s0)
    (step : ∀ a rest s, P (a :: rest) s → ∀ k : DL.Env → Prop, (∀ s' ρ', P rest s' → wipeD ρ' vs = shape s' → k ρ') → g (.t (F a)) (shape s) fun ρ1 => tb ⟨k, rt, fun ρ2 => n (wipeD ρ2 vs), k, ex⟩ ρ1)
    (fin : ∀ s, P [] s → n (shape s)) : dLoopW g tb vs ⟨n, rt, bk, ct, ex⟩ (items.map F) ρ := by
  subst e
  exact lw_inv shape P s0 h0 step fin
end
theorem w_strN {i : Int} {k : D → Prop} (h0 : 0 ≤ i ∧ i < 2 ^ 128) (h : ∀ z : Str, z = Str.ofString (toString i) → k (en z)) : qStr1 [.p (.int i)] k := w_strI (lg_ok h0) (h _ rfl)
theorem pad_ok {p : Int} (h : 0 ≤ p ∧ p ≤ 1000) : PadOk p = true := by
  have key : ∀ i : Fin 1001, PadOk (i.val : Int) = true := by decide +kernel
  have := key ⟨p.toNat, by omega⟩
  rwa [show ((p.toNat : Nat) : Int) = p by omega] at this
theorem w_zfillN {a : Str} {p : Int} {k : D → Prop} (h1 : 0 ≤ p ∧ p ≤ 1000) (h : ∀ z : Str, z = Txt.zfill a p → k (en z)) : qZfill (.p (.str a)) (.p (.int p)) k := w_zfill (pad_ok h1) (h _ rfl)
theorem m_popN {α : Type} {inst : Enc α} {xs' : List α} {K : Kd → List D → D → Prop} {l : Nat} (hl : l < xs'.length ∧ xs'.length ≤ 100000) (h : ∀ y, y ∈ xs' → xs'[l]? = some y → K .lst ((xs'.eraseIdx l).map en) (en y)) : mPopAt .lst (xs'.map en) [.p (.int (l : Nat))] K :=
  m_popE rfl (List.getElem?_eq_getElem hl.1) (by omega) (h _ (List.getElem_mem hl.1) (List.getElem?_eq_getElem hl.1))
theorem getD_en {α : Type} [Enc α] (o : Option α) (x : α) : (o.map en).getD (en x : D) = en (o.getD x) := by cases o <;> rfl
/-- things that are alike if they are one: lists, tuples, None, numbers, texts -/
def Gd : Nat → D → Prop
  | 0, _ => False
  | n + 1, d => (∃ k ch, (k = Kd.lst ∨ k = Kd.tup) ∧ d = .n false k ch ∧ ch.length ≤ 100000 ∧ ∀ c ∈ ch, Gd n c) ∨ d = .non ∨ (∃ i, d = .int i) ∨ ∃ x, d = .str x
def S_law_same : Nat → SpD
  | 0 => fun _ _ _ => False
  | n + 1 => fun ds Q _ => ∃ d : D, ds = [d, d] ∧ Gd (n + 1) d ∧ Q (en true) ds
theorem gd_str (n : Nat) (x : Str) : Gd (n + 1) (en x) := .inr (.inr (.inr ⟨x, rfl⟩))
theorem gd_int (n : Nat) (x : Int) : Gd (n + 1) (en x) := .inr (.inr (.inl ⟨x, rfl⟩))
theorem gd_lst {α : Type} [Enc α] {n : Nat} {xs : List α} (hl : xs.length ≤ 100000) (h : ∀ x ∈ xs, Gd n (en x)) : Gd (n + 1) (en xs) := .inl ⟨.lst, xs.map en, .inl rfl, rfl, by rw [List.length_map]; exact hl, fun c hc => by
  obtain ⟨x, hx, rfl⟩ := List.mem_map.mp hc
  exact h x hx⟩
/-! k20 .. k36: files of rows, twins, families -/
abbrev Rows := List (List Str)
abbrev Fs := List (Str × Rows)
/-- rows of words, few and short -/
def Rb (b c : Nat) (rows : Rows) : Prop := rows.length ≤ b ∧ ∀ r ∈ rows, r.length ≤ c ∧ ∀ w ∈ r, wordB w = true
def Fok (b : Nat) (fs : Fs) : Prop := (fs.map (·.1)).Nodup ∧ ∀ f ∈ fs, wordB f.1 = true ∧ Rb b 9 f.2
def S_law_row : SpD := fun ds Q _ => ∃ (s : St) (base : Rows) (kv : List (Str × Str)), ds = [s.d, en base, dE false kv] ∧ s.ok ∧ (0 < base.length ∧ base.length ≤ 10) ∧ (∀ r ∈ base, r.length ≤ 3 ∧ ∀ w ∈ r, wordB w = true) ∧ (∀ p ∈ kv, wordB p.2 = true) ∧
  ∀ (s' : St) (r : List Str), s'.ok → r.length ≤ 3 → (∀ w ∈ r, wordB w = true) → (∀ w ∈ r, ∃ b ∈ base, ∃ v ∈ b, w = (aget kv v).getD v) → Q (eo r) [s'.d, en base, dE false kv]
def S_law_files : SpD := fun ds Q _ => ∃ (s : St) (n most : Nat), ds = [s.d, en (n : Int), en (most : Int)] ∧ s.ok ∧ n ≤ 12 ∧ most ≤ 60 ∧ ∀ (s' : St) (fs : Fs) (us : List Str), s'.ok → fs.length = n → Fok (most + 2) fs → 0 < us.length → us.length ≤ 5 + 3 * n → (∀ x ∈ us, Fn x) → (keptL ++ us).Nodup → (∀ f ∈ fs, ∀ r ∈ f.2, ∀ w ∈ r, freeB w = true → w ∈ us) → Q (.n false .tup [eo fs, eo (keptL ++ us)]) [s'.d, en (n : Int), en (most : Int)]
/-- a thing that is asked of its kind -/
def Thg (d : D) : Prop := tyKnown (tyN d) = true ∧ d.isFz = true
def wholeB : D → Bool
  | .p (.int _) => true
  | _ => false
def S_is_whole : SpD := fun ds Q _ => ∃ d : D, ds = [d] ∧ Thg d ∧ Q (en (wholeB d)) ds
/-- a part of some rows -/
def part (rows : Rows) (i m : Nat) : Rows := (rows.drop i).take m
def placeOk (rows : Rows) (a b : D) : Prop := ∃ i m : Nat, a = en (i : Int) ∧ b = en (m : Int) ∧ 1 ≤ m ∧ i + m ≤ rows.length
def S_stretch_of : SpD := fun ds Q E => ∃ (fs : Fs) (n : Nat) (t a b : D), ds = [en fs, t, a, b] ∧ fs.length ≤ 20 ∧ n ≤ 90 ∧ Fok n fs ∧ Thg t ∧ Thg a ∧ Thg b ∧ ((∀ f ∈ fs, t ≠ en f.1) → E ⟨"NoTitle", none⟩ ds) ∧ (∀ f ∈ fs, t = en f.1 → ¬ placeOk f.2 a b → E ⟨"NoPlace", none⟩ ds) ∧
  ∀ f ∈ fs, ∀ i m : Nat, t = en f.1 → a = en (i : Int) → b = en (m : Int) → 1 ≤ m → i + m ≤ f.2.length → Q (eo (part f.2 i m)) ds
/-- where some rows' twins stand in a file -/
noncomputable def ats (one : Rows) (m : Nat) (rows : Rows) : List Nat := (List.range (rows.length + 1 - m)).filter fun at_ => dc (Tw one (part rows at_ m))
/-- where some rows' twins stand, file by file -/
noncomputable def famF (fs : Fs) (one : Rows) (m : Nat) : List (Str × Int) := fs.flatMap fun f => (ats one m f.2).map fun (at_ : Nat) => (f.1, (at_ : Int))
def itF (p : Str × Int) : List Itm := [.inr p.1, .inl p.2]
abbrev Rising (ys : List (Str × Int)) : Prop := ys.Pairwise fun a b => ltI (itF b) (itF a) = false
def S_family : SpD := fun ds Q E => ∃ (fs : Fs) (n : Nat) (t a b : D), ds = [en fs, t, a, b] ∧ fs.length ≤ 20 ∧ n ≤ 90 ∧ Fok n fs ∧ Thg t ∧ Thg a ∧ Thg b ∧ ((∀ f ∈ fs, t ≠ en f.1) → E ⟨"NoTitle", none⟩ ds) ∧ (∀ f ∈ fs, t = en f.1 → ¬ placeOk f.2 a b → E ⟨"NoPlace", none⟩ ds) ∧
  ∀ f ∈ fs, ∀ i m : Nat, t = en f.1 → a = en (i : Int) → b = en (m : Int) → 1 ≤ m → i + m ≤ f.2.length → ∀ ys, ys.Perm (famF fs (part f.2 i m) m) → Rising ys → Q (eo ys) ds
def S_law_family : SpD := fun ds Q _ => ∃ (fs : Fs) (n : Nat) (f : Str × Rows) (i m : Nat), ds = [en fs, en f.1, en (i : Int), en (m : Int)] ∧ fs.length ≤ 20 ∧ n ≤ 90 ∧ Fok n fs ∧ f ∈ fs ∧ 1 ≤ m ∧ i + m ≤ f.2.length ∧ ∀ ys, ys.Perm (famF fs (part f.2 i m) m) → Rising ys → Q (eo ys) ds
def hnd (f : Str × Rows) : D := .n false .tup [en f.1, eoo f.2]
theorem hnd_fz (fs : Fs) : (D.n true .lst (fs.map hnd)).fz = en fs := by
  simp only [D.fz, fzL_map, List.map_map]
  rw [show (en fs : D) = .n false .lst (fs.map en) from rfl]
  congr 1
  refine List.map_congr_left fun f _ => ?_
  show (D.n false .tup [en f.1, eoo f.2]).fz = en f
  rw [D.fz, fzL, fzL, fzL, fr_e, fr_oo]
  rfl
def S_law_handed : SpD := fun ds Q _ => ∃ fs : Fs, ds = [en fs] ∧ fs.length ≤ 20 ∧ (∀ f ∈ fs, f.2.length ≤ 100 ∧ ∀ r ∈ f.2, r.length ≤ 100) ∧ Q (.n true .lst (fs.map hnd)) ds
theorem fz_dEg {κ β : Type} [DecidableEq κ] [Enc κ] [KeyE κ] [Enc β] (kv : List (κ × β)) : (dE false kv).isFz = true := by
  unfold dE
  simp only [D.isFz, isFzL_all, Bool.not_false, Bool.true_and, List.all_eq_true]
  intro d hd
  obtain ⟨x, hx, rfl⟩ := List.mem_map.mp hd
  exact Enc.fz _
/-! k20 .. k27, k32 .. k35: greatest pairs -/
section
variable (z : Nat → List (Str × Str)) (ln : Nat → Prop) (s0 : Nat)
/-- the places from row s on that come ahead of (e, k) -/
def Wk (s e k : Nat) (q : Str × Str) : Prop := ∃ i j, s ≤ i ∧ (i < e ∨ (i = e ∧ j < k)) ∧ (z i)[j]? = some q
def Cn (W : Str × Str → Prop) : Prop := (∀ q, W q → (freeB q.1 = true ∧ freeB q.2 = true) ∨ q.1 = q.2) ∧ ∀ p q, W p → W q → (freeB p.1 = true ∧ freeB p.2 = true) → (freeB q.1 = true ∧ freeB q.2 = true) → (p.1 = q.1 ↔ p.2 = q.2)
/-- rows s .. e - 1 can stand beside one another -/
def OkW (s e : Nat) : Prop := (∀ i, s ≤ i → i < e → ln i) ∧ Cn (Wk z s e 0)
def Bef (e k i j : Nat) : Prop := s0 ≤ i ∧ (i < e ∨ (i = e ∧ j < k))
def le2 (i j i' j' : Nat) : Prop := i < i' ∨ (i = i' ∧ j ≤ j')
/-- where each name came last -/
def LI (f : Str × Str → Str) (e k : Nat) (L : List (Str × (Int × Int))) : Prop := ∀ a, (aget L a = none → ∀ i j q, Bef s0 e k i j → (z i)[j]? = some q → (freeB q.1 = true ∧ freeB q.2 = true) → f q ≠ a) ∧
  ∀ v, aget L a = some v → ∃ i j q, v = (((i : Nat) : Int), ((j : Nat) : Int)) ∧ Bef s0 e k i j ∧ (z i)[j]? = some q ∧ (freeB q.1 = true ∧ freeB q.2 = true) ∧ f q = a ∧ ∀ i' j' q', Bef s0 e k i' j' → (z i')[j']? = some q' → (freeB q'.1 = true ∧ freeB q'.2 = true) → f q' = a → le2 i' j' i j
end
noncomputable def kn (r : List Str) : List (Str × Bool) := r.map fun w => (w, freeB w)
noncomputable def knF (rows : Rows) : List (List (Str × Bool)) := rows.map kn
def S_known : SpD := fun ds Q _ => ∃ rows : Rows, ds = [en rows] ∧ Sx rows ∧ Q (eoo (knF rows)) ds
def S_least_start : SpD := fun ds Q _ => ∃ (z : Nat → List (Str × Str)) (ln : Nat → Prop) (s0 e : Nat) (r r' : List Str) (L B : List (Str × (Int × Int))), ds = [en (e : Int), en (kn r), en (kn r'), dE true L, dE true B] ∧ z e = r.zip r' ∧ (ln e ↔ r.length = r'.length) ∧ Ws r ∧ Ws r' ∧ e ≤ 900 ∧ s0 ≤ e ∧
  (L.length ≤ 100 * e ∧ B.length ≤ 100 * e) ∧ LI z s0 (·.1) e 0 L ∧ LI z s0 (·.2) e 0 B ∧
  ∀ (m : Nat) (L' B' : List (Str × (Int × Int))), m ≤ e + 1 → (∀ s, s0 ≤ s → s ≤ e → OkW z ln s e → (OkW z ln s (e + 1) ↔ m ≤ s)) → LI z s0 (·.1) (e + 1) 0 L' → LI z s0 (·.2) (e + 1) 0 B' → (L'.length ≤ L.length + 100 ∧ B'.length ≤ B.length + 100) → Q (en (m : Int)) [en (e : Int), en (kn r), en (kn r'), dE true L', dE true B']
/-- how the rows of two stretches stand beside one another, so far on -/
def zz (one two : Rows) (far : Int) (i : Nat) : List (Str × Str) := (one.getD i []).zip (two.getD ((i : Int) + far).toNat [])
def lz (one two : Rows) (far : Int) (i : Nat) : Prop := (one.getD i []).length = (two.getD ((i : Int) + far).toNat []).length
def s0F (far : Int) : Nat := (max 0 (-far)).toNat
def endF (one two : Rows) (far : Int) : Nat := (min (one.length : Int) ((two.length : Int) - far)).toNat
def OkF (one two : Rows) (far : Int) (s e : Nat) : Prop := OkW (zz one two far) (lz one two far) s e
/-- the greatest stretches whose twins stand so far on -/
def RunP (one two : Rows) (far : Int) (p : Nat × Nat) : Prop := 1 ≤ p.2 ∧ s0F far ≤ p.1 ∧ p.1 + p.2 ≤ endF one two far ∧ OkF one two far p.1 (p.1 + p.2) ∧ (p.1 = s0F far ∨ ¬ OkF one two far (p.1 - 1) (p.1 + p.2)) ∧ (p.1 + p.2 = endF one two far ∨ ¬ OkF one two far p.1 (p.1 + p.2 + 1))
def inN (p : Nat × Nat) : Int × Int := ((p.1 : Int), (p.2 : Int))
def S_runs : SpD := fun ds Q _ => ∃ (one two : Rows) (far : Int), ds = [en (knF one), en (knF two), en far] ∧ Sx one ∧ Sx two ∧ (-200 ≤ far ∧ far ≤ 200) ∧ ∀ ys : List (Nat × Nat), ys.Nodup → (∀ p, p ∈ ys ↔ RunP one two far p) → ys.length ≤ one.length → Q (eo (ys.map inN)) ds
/-- a pair of stretches -/
structure P5 where
  t : Str
  i : Int
  u : Str
  j : Int
  m : Int
instance : Enc P5 := ⟨fun p => .n false .tup [en p.t, en p.i, en p.u, en p.j, en p.m], fun _ => rfl, fun _ => rfl, 1, fun _ => by simp [toPy, toPyL, PyData.depth, PyData.depthAll, en], fun x y => by
  obtain ⟨a, b, c, d, e⟩ := x
  obtain ⟨a', b', c', d', e'⟩ := y
  simp only [eqD, toPy, toPyL, PyData.eqv, PyData.eqvAll, Bool.and_true, Bool.and_eq_true, P5.mk.injEq]
  exact and_congr (Enc.eq a a') (and_congr (Enc.eq b b') (and_congr (Enc.eq c c') (and_congr (Enc.eq d d') (Enc.eq e e'))))⟩
def itP (p : P5) : List Itm := [.inr p.t, .inl p.i, .inr p.u, .inl p.j, .inl p.m]
theorem itP_inj : ∀ x y, itP x = itP y → x = y := by
  rintro ⟨a, b, c, d, e⟩ ⟨a', b', c', d', e'⟩ h
  simp only [itP, List.cons.injEq, Sum.inr.injEq, Sum.inl.injEq, and_true] at h
  obtain ⟨rfl, rfl, rfl, rfl, rfl⟩ := h
  rfl
abbrev Rising5 (ys : List P5) : Prop := ys.Pairwise fun a b => ltI (itP b) (itP a) = false
def S_pairs_of : SpD := fun ds Q _ => ∃ (t u : Str) (one two : Rows) (fars : List Int) (least : Nat), ds = [en t, en (knF one), en u, en (knF two), en fars, en (least : Int)] ∧ Sx one ∧ Sx two ∧ (fars.Nodup ∧ fars.length ≤ 300 ∧ ∀ far ∈ fars, -200 ≤ far ∧ far ≤ 200) ∧
  ∀ zs : List P5, zs.Nodup → (∀ p, p ∈ zs ↔ ∃ far ∈ fars, ∃ q : Nat × Nat, RunP one two far q ∧ least ≤ q.2 ∧ p = ⟨t, (q.1 : Int), u, (q.1 : Int) + far, (q.2 : Int)⟩) → zs.length ≤ fars.length * one.length → Q (eo zs) ds
/-- as many rows as are twins from two places on -/
def MostP (one : Rows) (i : Nat) (two : Rows) (j m : Nat) : Prop := i + m ≤ one.length ∧ j + m ≤ two.length ∧ Tw (part one i m) (part two j m) ∧ (i + m = one.length ∨ j + m = two.length ∨ ¬ Tw (part one i (m + 1)) (part two j (m + 1)))
def AhdP (one : Rows) (i : Nat) (two : Rows) (j m : Nat) : Prop := 0 < i ∧ 0 < j ∧ Tw (part one (i - 1) (m + 1)) (part two (j - 1) (m + 1))
def Grt (t : Str) (one : Rows) (u : Str) (two : Rows) (p : P5) : Prop := p.t = t ∧ p.u = u ∧ ∃ i j m : Nat, p.i = i ∧ p.j = j ∧ p.m = m ∧ 1 ≤ m ∧ MostP one i two j m ∧ ¬ AhdP one i two j m ∧ (t ≠ u ∨ i < j)
/-- a greatest pair of some files -/
def Due (fs : Fs) (least : Nat) (p : P5) : Prop := ∃ f ∈ fs, ∃ g ∈ fs, (f.1 = g.1 ∨ strLt f.1 g.1 = true) ∧ Grt f.1 f.2 g.1 g.2 p ∧ (least : Int) ≤ p.m
def Few (n b : Nat) : Prop := n * n * (2 * b * b) ≤ 90000
def S_pairs : SpD := fun ds Q _ => ∃ (fs : Fs) (b least : Nat), ds = [en fs, en (least : Int)] ∧ (fs.length ≤ 20 ∧ b ≤ 90 ∧ Few fs.length b) ∧ Fok b fs ∧ ∀ zs : List P5, zs.Nodup → (∀ p, p ∈ zs ↔ Due fs least p) → Rising5 zs → zs.length ≤ 90000 → Q (eo zs) ds
def S_law_most : SpD := fun ds Q _ => ∃ (one two : Rows) (i j : Nat), ds = [en one, en (i : Int), en two, en (j : Int)] ∧ Sx one ∧ Sx two ∧ i ≤ one.length ∧ j ≤ two.length ∧ ∀ m : Nat, MostP one i two j m → Q (en (m : Int)) ds
def S_law_ahead : SpD := fun ds Q _ => ∃ (one two : Rows) (i j m : Nat), ds = [en one, en (i : Int), en two, en (j : Int), en (m : Int)] ∧ Sx one ∧ Sx two ∧ i + m ≤ one.length ∧ j + m ≤ two.length ∧ Q (en (dc (AhdP one i two j m))) ds
def S_law_due_of : SpD := fun ds Q _ => ∃ (t u : Str) (one two : Rows), ds = [en t, en one, en u, en two] ∧ (t.length ≤ 100 ∧ u.length ≤ 100) ∧ Sx one ∧ Sx two ∧ ∀ zs : List P5, zs.Nodup → (∀ p, p ∈ zs ↔ Grt t one u two p) → zs.length ≤ one.length * two.length → Q (eo zs) ds
def S_law_due : SpD := fun ds Q _ => ∃ (fs : Fs) (b least : Nat), ds = [en fs, en (least : Int)] ∧ (fs.length ≤ 20 ∧ b ≤ 90 ∧ Few fs.length b) ∧ Fok b fs ∧ ∀ zs : List P5, zs.Nodup → (∀ p, p ∈ zs ↔ Due fs least p) → Rising5 zs → zs.length ≤ 90000 → Q (eo zs) ds
/-! k27: two long files, side by side -/
def Fr2 (rows : Rows) : Prop := ∀ r ∈ rows, (1 ≤ r.length ∧ r.length ≤ 2) ∧ ∀ w ∈ r, Fn w
def S_law_rows : SpD := fun ds Q _ => ∃ (s : St) (u : List Str), ds = [s.d, eo u] ∧ s.ok ∧ Used u ∧ u.length ≤ 800 ∧ ∀ (s' : St) (rows : Rows) (us : List Str), s'.ok → (18 ≤ rows.length ∧ rows.length ≤ 33) → Fr2 rows → us.length ≤ 9 → Used (u ++ us) → Q (eo rows) [s'.d, eo (u ++ us)]
def S_law_copied : SpD := fun ds Q _ => ∃ (s : St) (rows : Rows) (u : List Str), ds = [s.d, en rows, eo u] ∧ s.ok ∧ (18 ≤ rows.length ∧ rows.length ≤ 33) ∧ Fr2 rows ∧ Used u ∧ u.length ≤ 900 ∧ ∀ (s' : St) (copy : Rows) (us : List Str), s'.ok → copy.map List.length = rows.map List.length → Fr2 copy → Q (eoo copy) [s'.d, en rows, eo (u ++ us)]
def S_law_end : SpD := fun ds Q _ => ∃ (one two : Rows) (first : Nat), ds = [en one, en two, en (first : Int)] ∧ Fr2 one ∧ Fr2 two ∧ one.map List.length = two.map List.length ∧ one.length ≤ 33 ∧ first < one.length ∧ ∀ m, MostP one first two first m → Q (en ((first + m : Nat) : Int)) ds
def S_law : SpD := fun ds Q _ => ∃ ns : List Int, ds = [.n false .lok (ns.map fun i => .p (.int i))] ∧ ns.length ≤ 63 ∧ ∀ ds', Q (.p (.bl true)) ds'
/- is_plain: thing; N = 2: 0 thing 1 sign -/
def t_is_plain : DS := (dRet (dAndV (dCB qIsi (dCons (dVar 0) (dCons (dC (.ty "str")) dNil))) (dCB qAll (dCons (dLc (dIStr (dVar 0)) (dName 1) dTrue (dChain qLe qLe (dC (.str " ")) (dVar 1) (dC (.str "~"))) [1]) dNil))))
/- sort_of: sign; N = 1: 0 sign -/
def t_sort_of : DS := (dSeq (dIfS (dTst (dOp qEq (dVar 0) (dC (.str " ")))) (dRet (dC (.str "blank"))) dNext)
    (dSeq (dIfS (dTst (dUn qIsdigit (dVar 0))) (dRet (dC (.str "figure"))) dNext)
    (dSeq (dIfS (dOr (dTst (dUn qIsalpha (dVar 0))) (dTst (dOp qEq (dVar 0) (dC (.str "_"))))) (dRet (dC (.str "letter"))) dNext)
    (dRet (dC (.str "sign"))))))
/- end_of: text, at; N = 4: 0 text 1 at 2 sort 3 end -/
def t_end_of : DS := (dSeq (dAsg (dCall [false] S_sort_of (dCons (dOp qIxS (dVar 0) (dVar 1)) dNil)) (dName 2))
    (dSeq (dAsg (dOp qAdd (dVar 1) (dC (.int 1))) (dName 3))
    (dSeq (dIfS (dTst (dOp qEq (dVar 2) (dC (.str "letter")))) (dWhile (dAnd (dTst (dOp qLt (dVar 3) (dCB qLen (dCons (dVar 0) dNil)))) (dTst (dOp (qInS false) (dCall [false] S_sort_of (dCons (dOp qIxS (dVar 0) (dVar 3)) dNil)) (dTup (dCons (dC (.str "letter")) (dCons (dC (.str "figure")) dNil)))))) (dAugI 3 (dC (.int 1)))) (dIfS (dTst (dOp qEq (dVar 2) (dC (.str "figure")))) (dWhile (dAnd (dTst (dOp qLt (dVar 3) (dCB qLen (dCons (dVar 0) dNil)))) (dTst (dOp qEq (dCall [false] S_sort_of (dCons (dOp qIxS (dVar 0) (dVar 3)) dNil)) (dC (.str "figure"))))) (dAugI 3 (dC (.int 1)))) dNext))
    (dRet (dMv 3)))))
/- parts_of: text; N = 4: 0 text 1 found 2 at 3 end -/
def t_parts_of : DS := (dSeq (dAsg (dLst dNil) (dName 1))
    (dSeq (dAsg (dC (.int 0)) (dName 2))
    (dSeq (dWhile (dTst (dOp qLt (dVar 2) (dCB qLen (dCons (dVar 0) dNil)))) (dSeq (dAsg (dCall [false, false] S_end_of (dCons (dVar 0) (dCons (dVar 2) dNil))) (dName 3))
    (dSeq (dIfS (dTst (dOp qNe (dOp qIxS (dVar 0) (dVar 2)) (dC (.str " ")))) (dDrop (dMut "list" 1 mAppend (dCons (dCut (dVar 0) (dPart (dVar 2)) (dPart (dVar 3))) dNil))) dNext)
    (dAsg (dVar 3) (dName 2)))))
    (dRet (dMv 1)))))
/- is_word: thing; N = 1: 0 thing -/
def t_is_word : DS := (dRet (dAndV (dCall [false] S_is_plain (dCons (dVar 0) dNil)) (dAndV (dOp qLe (dCB qLen (dCons (dVar 0) dNil)) (dC (.int 20))) (dOp qEq (dCall [false] S_parts_of (dCons (dVar 0) dNil)) (dLst (dCons (dVar 0) dNil))))))
/- is_name: thing; N = 1: 0 thing -/
def t_is_name : DS := (dRet (dAndV (dCall [false] S_is_word (dCons (dVar 0) dNil)) (dOp qEq (dCall [false] S_sort_of (dCons (dOp qIxS (dVar 0) (dC (.int 0))) dNil)) (dC (.str "letter")))))
/- is_free: thing; N = 1: 0 thing -/
def t_is_free : DS := (dRet (dAndV (dCall [false] S_is_name (dCons (dVar 0) dNil)) (dOp (qInS true) (dVar 0) (dK (.n false .tok ([.str "and", .str "def", .str "do", .str "else", .str "end", .str "for", .str "if", .str "in", .str "not", .str "or", .str "return", .str "use", .str "while"].map D.p))))))
/- known: stretch; N = 3: 0 stretch 1 row 2 word -/
def t_known : DS := (dRet (dLc (dISeq (dVar 0)) (dName 1) dTrue (dLc (dISeq (dVar 1)) (dName 2) dTrue (dTup (dCons (dVar 2) (dCons (dCall [false] S_is_free (dCons (dVar 2) dNil)) dNil))) [2]) [1]))
/- least_start: at, row, other, last, back; N = 13: 0 at 1 row 2 other 3 last 4 back 5 start 6 k 7 old 8 free 9 new 10 loose 11 here 12 there -/
def t_least_start : DS := (dSeq (dAsg (dC (.int 0)) (dName 5))
    (dSeq (dForW (dIEZ (dCons (dVar 1) (dCons (dVar 2) dNil))) (dGTup 2 (dGCons (dName 6) (dGCons (dGTup 2 (dGCons (dGTup 2 (dGCons (dName 7) (dGCons (dName 8) dGNil))) (dGCons (dGTup 2 (dGCons (dName 9) (dGCons (dName 10) dGNil))) dGNil))) dGNil))) (dThenW (dIfS (dAnd (dTst (dVar 8)) (dTst (dVar 10))) (dSeq (dAsg (dGet2 (dVar 3) (dVar 7) (dTup (dCons (dUn qNeg (dC (.int 1))) (dCons (dC (.int 0)) dNil)))) (dName 11))
    (dSeq (dAsg (dGet2 (dVar 4) (dVar 9) (dTup (dCons (dUn qNeg (dC (.int 1))) (dCons (dC (.int 0)) dNil)))) (dName 12))
    (dSeq (dIfS (dTst (dOp qNe (dVar 11) (dVar 12))) (dAsg (dCB qMax2 (dCons (dVar 5) (dCons (dOp qAdd (dOp qIxS (dCB qMaxP (dCons (dVar 11) (dCons (dVar 12) dNil))) (dC (.int 0))) (dC (.int 1))) dNil))) (dName 5)) dNext)
    (dSeq (dPut "dict" 3 mPutD (dTup (dCons (dVar 0) (dCons (dVar 6) dNil))) (dVar 7))
    (dPut "dict" 4 mPutD (dTup (dCons (dVar 0) (dCons (dVar 6) dNil))) (dVar 9)))))) (dIfS (dTst (dOp qNe (dVar 7) (dVar 9))) (dAsg (dOp qAdd (dVar 0) (dC (.int 1))) (dName 5)) dNext)) [11, 12]) [6, 7, 8, 9, 10, 11, 12])
    (dSeq (dIfS (dTst (dOp qNe (dCB qLen (dCons (dVar 1) dNil)) (dCB qLen (dCons (dVar 2) dNil)))) (dAsg (dOp qAdd (dVar 0) (dC (.int 1))) (dName 5)) dNext)
    (dRet (dMv 5)))))
/- runs: one, other, far; N = 10: 0 one 1 other 2 far 3 last 4 back 5 start 6 end 7 found 8 at 9 begin -/
def t_runs : DS := (dSeq (dAsg dNewD (dName 3))
    (dSeq (dAsg dNewD (dName 4))
    (dSeq (dAsg (dCB qMax2 (dCons (dC (.int 0)) (dCons (dOp qSub (dC (.int 0)) (dVar 2)) dNil))) (dName 5))
    (dSeq (dAsg (dCB qMin2 (dCons (dCB qLen (dCons (dVar 0) dNil)) (dCons (dOp qSub (dCB qLen (dCons (dVar 1) dNil)) (dVar 2)) dNil))) (dName 6))
    (dSeq (dAsg (dLst dNil) (dName 7))
    (dSeq (dForW (dIRng2 (dCons (dVar 5) (dCons (dVar 6) dNil))) (dName 8) (dSeq (dAsg (dCB qMax2 (dCons (dVar 5) (dCons (dCall [false, false, false, true, true] S_least_start (dCons (dVar 8) (dCons (dOp qIxS (dVar 0) (dVar 8)) (dCons (dOp qIxS (dVar 1) (dOp qAdd (dVar 8) (dVar 2))) (dCons (dVar 3) (dCons (dVar 4) dNil)))))) dNil))) (dName 9))
    (dSeq (dIfS (dAnd (dTst (dOp qGt (dVar 9) (dVar 5))) (dTst (dOp qGt (dVar 8) (dVar 5)))) (dDrop (dMut "list" 7 mAppend (dCons (dTup (dCons (dVar 5) (dCons (dOp qSub (dVar 8) (dVar 5)) dNil))) dNil))) dNext)
    (dAsg (dVar 9) (dName 5)))) [8, 9])
    (dSeq (dIfS (dTst (dOp qGt (dVar 6) (dVar 5))) (dDrop (dMut "list" 7 mAppend (dCons (dTup (dCons (dVar 5) (dCons (dOp qSub (dVar 6) (dVar 5)) dNil))) dNil))) dNext)
    (dRet (dMv 7)))))))))
/- pairs_of: title, one, other, two, fars, least; N = 10: 0 title 1 one 2 other 3 two 4 fars 5 least 6 found 7 far 8 first 9 many -/
def t_pairs_of : DS := (dSeq (dAsg (dLst dNil) (dName 6))
    (dSeq (dForW (dISeq (dVar 4)) (dName 7) (dForW (dISeq (dCall [false, false, false] S_runs (dCons (dVar 1) (dCons (dVar 3) (dCons (dVar 7) dNil))))) (dGTup 2 (dGCons (dName 8) (dGCons (dName 9) dGNil))) (dIfS (dTst (dOp qGe (dVar 9) (dVar 5))) (dDrop (dMut "list" 6 mAppend (dCons (dTup (dCons (dVar 0) (dCons (dVar 8) (dCons (dVar 2) (dCons (dOp qAdd (dVar 8) (dVar 7)) (dCons (dVar 9) dNil)))))) dNil))) dNext) [8, 9]) [7, 8, 9])
    (dRet (dMv 6))))
/- pairs: files, least; N = 9: 0 files 1 least 2 rows 3 found 4 title 5 one 6 other 7 two 8 stretch -/
def t_pairs : DS := (dSeq (dAsg (dLc (dISeq (dVar 0)) (dGTup 2 (dGCons (dName 4) (dGCons (dName 8) dGNil))) dTrue (dTup (dCons (dVar 4) (dCons (dCall [false] S_known (dCons (dVar 8) dNil)) dNil))) [4, 8]) (dName 2))
    (dSeq (dAsg (dLst dNil) (dName 3))
    (dSeq (dForW (dISeq (dVar 2)) (dGTup 2 (dGCons (dName 4) (dGCons (dName 5) dGNil))) (dForW (dISeq (dVar 2)) (dGTup 2 (dGCons (dName 6) (dGCons (dName 7) dGNil))) (dSeq (dIfS (dTst (dOp qEq (dVar 4) (dVar 6))) (dDrop (dMut "list" 3 mExtend (dCons (dCall [false, false, false, false, false, false] S_pairs_of (dCons (dVar 4) (dCons (dVar 5) (dCons (dVar 6) (dCons (dVar 7) (dCons (dLRg2 (dC (.int 1)) (dCB qLen (dCons (dVar 7) dNil))) (dCons (dVar 1) dNil))))))) dNil))) dNext)
    (dIfS (dTst (dOp qLt (dVar 4) (dVar 6))) (dDrop (dMut "list" 3 mExtend (dCons (dCall [false, false, false, false, false, false] S_pairs_of (dCons (dVar 4) (dCons (dVar 5) (dCons (dVar 6) (dCons (dVar 7) (dCons (dLRg2 (dOp qSub (dC (.int 1)) (dCB qLen (dCons (dVar 5) dNil))) (dCB qLen (dCons (dVar 7) dNil))) (dCons (dVar 1) dNil))))))) dNil))) dNext)) [6, 7]) [4, 5, 6, 7])
    (dRet (dCB qSortT (dCons (dVar 3) dNil))))))
/- _law_begun: _law_script; N = 1: 0 _law_script -/
def t_law_begun : DS := (dRet (dDisp ["cells", "at", "rest", "turn", "more"] (dDs [(dVar 0), (dC (.int 0)), (dC (.int 0)), (dC (.int 0)), (dC (.int 17))])))
/- _law_take: _law_state, _law_many; N = 5: 0 _law_state 1 _law_many 2 _law_cells 3 _law_found 4 _law_cell -/
def t_law_take : DS := (dSeq (dAsg (dOp qIxS (dVar 0) (dC (.str "cells"))) (dName 2))
    (dSeq (dWhileW (dAnd (dTst (dOp qLt (dOp qIxS (dVar 0) (dC (.str "rest"))) (dC (.int 2)))) (dTst (dOp qLt (dOp qIxS (dVar 0) (dC (.str "at"))) (dCB qLen (dCons (dVar 2) dNil))))) (dSeq (dIfS (dTst (dOp qGe (dOp qIxS (dVar 2) (dOp qIxS (dVar 0) (dC (.str "at")))) (dOp qPow (dC (.int 10)) (dC (.int 18))))) (dPut "dict" 0 mPutD (dOp qIxS (dVar 2) (dOp qIxS (dVar 0) (dC (.str "at")))) (dC (.str "rest"))) dNext)
    (dPut "dict" 0 mPutD (dOp qAdd (dOp qIxS (dVar 0) (dC (.str "at"))) (dC (.int 1))) (dC (.str "at")))) [3, 4])
    (dSeq (dIfS (dTst (dOp qGt (dOp qIxS (dVar 0) (dC (.str "rest"))) (dC (.int 1)))) (dSeq (dAsg (dOp qMod (dOp qIxS (dVar 0) (dC (.str "rest"))) (dVar 1)) (dName 3))
    (dSeq (dPut "dict" 0 mPutD (dOp qDiv (dOp qIxS (dVar 0) (dC (.str "rest"))) (dVar 1)) (dC (.str "rest")))
    (dRet (dMv 3)))) dNext)
    (dSeq (dAsg (dC (.int 0)) (dName 4))
    (dSeq (dIfS (dTst (dOp qGt (dCB qLen (dCons (dVar 2) dNil)) (dC (.int 0)))) (dAsg (dOp qIxS (dVar 2) (dOp qMod (dOp qIxS (dVar 0) (dC (.str "turn"))) (dCB qLen (dCons (dVar 2) dNil)))) (dName 4)) dNext)
    (dSeq (dPut "dict" 0 mPutD (dOp qAdd (dOp qIxS (dVar 0) (dC (.str "turn"))) (dC (.int 1))) (dC (.str "turn")))
    (dSeq (dPut "dict" 0 mPutD (dOp qMod (dOp qAdd (dOp qAdd (dOp qMulS (dOp qIxS (dVar 0) (dC (.str "more"))) (dC (.int 48271))) (dVar 4)) (dOp qIxS (dVar 0) (dC (.str "turn")))) (dC (.int 2147483647))) (dC (.str "more")))
    (dRet (dOp qMod (dOp qMod (dOp qAdd (dOp qMulS (dOp qIxS (dVar 0) (dC (.str "more"))) (dOp qIxS (dVar 0) (dC (.str "more")))) (dOp qMulS (dC (.int 16807)) (dOp qIxS (dVar 0) (dC (.str "more"))))) (dC (.int 2147483629))) (dVar 1))))))))))
/- _law_kept: ; N = 0:  -/
def t_law_kept : DS := (dRet (dLst (dCons (dC (.str "and")) (dCons (dC (.str "def")) (dCons (dC (.str "do")) (dCons (dC (.str "else")) (dCons (dC (.str "end")) (dCons (dC (.str "for")) (dCons (dC (.str "if")) (dCons (dC (.str "in")) (dCons (dC (.str "not")) (dCons (dC (.str "or")) (dCons (dC (.str "return")) (dCons (dC (.str "use")) (dCons (dC (.str "while")) dNil)))))))))))))))
/- _law_name: _law_state, _law_used; N = 7: 0 _law_state 1 _law_used 2 _law_some 3 _law_word 4 _law_at 5 _law_k 6 _law_one -/
def t_law_name : DS := (dSeq (dAsg (dC (.str "abcdefghijklmnopqrstuvwxyz_ABCDEFGHIJKLMNOPQRSTUVWXYZ0123456789")) (dName 2))
    (dSeq (dAsg (dOp qIxS (dVar 2) (dCall [true, false] S_law_take (dCons (dVar 0) (dCons (dC (.int 53)) dNil)))) (dName 3))
    (dSeq (dThenW (dIfS (dTst (dOp qEq (dCall [true, false] S_law_take (dCons (dVar 0) (dCons (dC (.int 3)) dNil))) (dC (.int 0)))) (dSeq (dAsg (dOp qIxS (dVar 1) (dCall [true, false] S_law_take (dCons (dVar 0) (dCons (dCB qLen (dCons (dVar 1) dNil)) dNil)))) (dName 3))
    (dSeq (dAsg (dCall [true, false] S_law_take (dCons (dVar 0) (dCons (dCB qLen (dCons (dVar 3) dNil)) dNil))) (dName 4))
    (dAsg (dOp qAdd (dOp qAdd (dCut (dVar 3) dNoPart (dPart (dVar 4))) (dOp qIxS (dVar 2) (dCall [true, false] S_law_take (dCons (dVar 0) (dCons (dC (.int 53)) dNil))))) (dCut (dVar 3) (dPart (dOp qAdd (dVar 4) (dCall [true, false] S_law_take (dCons (dVar 0) (dCons (dC (.int 2)) dNil))))) dNoPart)) (dName 3)))) (dForW (dIRng1 (dCons (dOp qIxS (dLst (dCons (dC (.int 0)) (dCons (dC (.int 0)) (dCons (dC (.int 1)) (dCons (dC (.int 2)) (dCons (dC (.int 3)) (dCons (dC (.int 5)) (dCons (dC (.int 9)) (dCons (dC (.int 19)) dNil))))))))) (dCall [true, false] S_law_take (dCons (dVar 0) (dCons (dC (.int 8)) dNil)))) dNil)) (dName 5) (dAsg (dOp qAdd (dVar 3) (dOp qIxS (dVar 2) (dCall [true, false] S_law_take (dCons (dVar 0) (dCons (dC (.int 63)) dNil))))) (dName 3)) [4, 5])) [4, 5])
    (dSeq (dIfS (dOr (dTst (dOp (qInS false) (dVar 3) (dVar 1))) (dTst (dOp qGt (dCB qLen (dCons (dVar 3) dNil)) (dC (.int 20))))) (dAsg (dOp qIxS (dLc (dISeq (dLc (dIRng1 (dCons (dOp qAdd (dCB qLen (dCons (dVar 1) dNil)) (dC (.int 1))) dNil)) (dName 5) dTrue (dJs [(dFmt (dCut (dVar 3) dNoPart (dPart (dC (.int 15))))), (dC (.str "_")), (dFmt (dVar 5))]) [5])) (dName 6) (dTst (dOp (qInS true) (dVar 6) (dVar 1))) (dVar 6) [6]) (dC (.int 0))) (dName 3)) dNext)
    (dSeq (dDrop (dMut "list" 1 mAppend (dCons (dVar 3) dNil)))
    (dRet (dMv 3)))))))
/- _law_same: _law_found, _law_due; N = 4: 0 _law_found 1 _law_due 2 _law_one 3 _law_other -/
def t_law_same : SpD → DS := fun S => (dSeq (dIfS (dTst (dCB qIsi (dCons (dVar 1) (dCons (dC (.ty "list")) dNil)))) (dSeq (dIfS (dOr (dNot (dTst (dCB qIsi (dCons (dVar 0) (dCons (dC (.ty "list")) dNil))))) (dTst (dOp qNe (dCB qLen (dCons (dVar 0) dNil)) (dCB qLen (dCons (dVar 1) dNil))))) (dRet (dC (.bl false))) dNext)
    (dRet (dCB qAll (dCons (dLc (dIZipA (dCons (dVar 0) (dCons (dVar 1) dNil))) (dGTup 2 (dGCons (dName 2) (dGCons (dName 3) dGNil))) dTrue (dCall [false, false] S (dCons (dVar 2) (dCons (dVar 3) dNil))) [2, 3]) dNil)))) dNext)
    (dSeq (dIfS (dTst (dCB qIsi (dCons (dVar 1) (dCons (dC (.ty "tuple")) dNil)))) (dSeq (dIfS (dOr (dNot (dTst (dCB qIsi (dCons (dVar 0) (dCons (dC (.ty "tuple")) dNil))))) (dTst (dOp qNe (dCB qLen (dCons (dVar 0) dNil)) (dCB qLen (dCons (dVar 1) dNil))))) (dRet (dC (.bl false))) dNext)
    (dRet (dCB qAll (dCons (dLc (dIZipA (dCons (dVar 0) (dCons (dVar 1) dNil))) (dGTup 2 (dGCons (dName 2) (dGCons (dName 3) dGNil))) dTrue (dCall [false, false] S (dCons (dVar 2) (dCons (dVar 3) dNil))) [2, 3]) dNil)))) dNext)
    (dSeq (dIfS (dTst (dOp qIsN (dVar 1) (dC .non))) (dRet (dOp qIsN (dVar 0) (dC .non))) dNext)
    (dSeq (dIfS (dTst (dCB qIsi (dCons (dVar 1) (dCons (dC (.ty "int")) dNil)))) (dRet (dAndV (dCB qIsi (dCons (dVar 0) (dCons (dC (.ty "int")) dNil))) (dAndV (dNotV (dCB qIsi (dCons (dVar 0) (dCons (dC (.ty "bool")) dNil)))) (dOp qEq (dVar 0) (dVar 1))))) dNext)
    (dRet (dAndV (dCB qIsi (dCons (dVar 0) (dCons (dC (.ty "str")) dNil))) (dOp qEq (dVar 0) (dVar 1))))))))
/- _law_rows: _law_state, _law_used; N = 13: 0 _law_state 1 _law_used 2 _law_many 3 _law_few 4 _law_wide 5 _law_some 6 _law_first 7 _law_second 8 _law_stem 9 _law_rows_here 10 _law_at 11 _law_row 12 _law_k -/
def t_law_rows : DS := (dSeq (dAsg (dOp qAdd (dC (.int 18)) (dCall [true, false] S_law_take (dCons (dVar 0) (dCons (dC (.int 16)) dNil)))) (dName 2))
    (dSeq (dAsg (dCall [true, false] S_law_take (dCons (dVar 0) (dCons (dC (.int 2)) dNil))) (dName 3))
    (dSeq (dAsg (dCall [true, false] S_law_take (dCons (dVar 0) (dCons (dC (.int 2)) dNil))) (dName 4))
    (dSeq (dAsg (dLst dNil) (dName 5))
    (dSeq (dIfS (dTst (dOp qEq (dVar 3) (dC (.int 1)))) (dAsg (dLc (dIRng1 (dCons (dOp qAdd (dC (.int 2)) (dCall [true, false] S_law_take (dCons (dVar 0) (dCons (dC (.int 6)) dNil)))) dNil)) (dName 12) dTrue (dCall [true, true] S_law_name (dCons (dVar 0) (dCons (dVar 1) dNil))) [12]) (dName 5)) dNext)
    (dSeq (dAsg (dCall [true, false] S_law_take (dCons (dVar 0) (dCons (dVar 2) dNil))) (dName 6))
    (dSeq (dAsg (dCall [true, false] S_law_take (dCons (dVar 0) (dCons (dVar 2) dNil))) (dName 7))
    (dSeq (dAsg (dCut (dCall [true, true] S_law_name (dCons (dVar 0) (dCons (dVar 1) dNil))) dNoPart (dPart (dC (.int 15)))) (dName 8))
    (dSeq (dAsg (dLst dNil) (dName 9))
    (dSeq (dForW (dIRng1 (dCons (dVar 2) dNil)) (dName 10) (dSeq (dAsg (dLst (dCons (dJs [(dFmt (dVar 8)), (dC (.str "_")), (dFmt (dVar 10))]) dNil)) (dName 11))
    (dSeq (dIfS (dTst (dOp qEq (dVar 3) (dC (.int 1)))) (dAsg (dLc (dIRng1 (dCons (dOp qAdd (dC (.int 1)) (dOp qMulS (dVar 4) (dCall [true, false] S_law_take (dCons (dVar 0) (dCons (dC (.int 2)) dNil))))) dNil)) (dName 12) dTrue (dOp qIxS (dVar 5) (dCall [true, false] S_law_take (dCons (dVar 0) (dCons (dCB qLen (dCons (dVar 5) dNil)) dNil)))) [12]) (dName 11)) dNext)
    (dDrop (dMut "list" 9 mAppend (dCons (dVar 11) dNil))))) [2, 10, 11])
    (dSeq (dIfS (dTst (dOp qEq (dVar 3) (dC (.int 0)))) (dPut "list" 9 mSetL (dFz (dOp qAdd (dCut (dOp qIxS (dVar 9) (dVar 6)) dNoPart dNoPart) (dOp qRepL (dLst (dCons (dJs [(dFmt (dVar 8)), (dC (.str "__"))]) dNil)) (dVar 4)))) (dVar 7)) dNext)
    (dRet (dMv 9)))))))))))))
/- _law_copied: _law_state, _law_rows_here, _law_used; N = 12: 0 _law_state 1 _law_rows_here 2 _law_used 3 _law_names 4 _law_row 5 _law_stem 6 _law_some 7 _law_ways 8 _law_name_here 9 _law_found 10 _law_at 11 _law_k -/
def t_law_copied : DS := (dSeq (dAsg (dLst dNil) (dName 3))
    (dSeq (dForW (dISeq (dVar 1)) (dName 4) (dAsg (dOp qAdd (dVar 3) (dLc (dIEnum (dCons (dVar 4) dNil)) (dGTup 2 (dGCons (dName 11) (dGCons (dName 8) dGNil))) (dAnd (dTst (dOp (qInS true) (dVar 8) (dVar 3))) (dTst (dOp (qInS true) (dVar 8) (dCut (dVar 4) dNoPart (dPart (dVar 11)))))) (dVar 8) [11, 8])) (dName 3)) [4, 5, 6, 7, 8, 9, 10, 11])
    (dSeq (dAsg (dCut (dCall [true, true] S_law_name (dCons (dVar 0) (dCons (dVar 2) dNil))) dNoPart (dPart (dC (.int 15)))) (dName 5))
    (dSeq (dAsg (dLc (dIRng1 (dCons (dCB qLen (dCons (dVar 3) dNil)) dNil)) (dName 11) dTrue (dJs [(dFmt (dVar 5)), (dC (.str "_")), (dFmt (dVar 11)), (dC (.str "_"))]) [11]) (dName 6))
    (dSeq (dIfS (dTst (dOp qEq (dCall [true, false] S_law_take (dCons (dVar 0) (dCons (dC (.int 2)) dNil))) (dC (.int 0)))) (dAsg (dCB qList (dCons (dVar 3) dNil)) (dName 6)) dNext)
    (dSeq (dAsg dNewD (dName 7))
    (dSeq (dForW (dISeq (dVar 3)) (dName 8) (dPut "dict" 7 mPutD (dFz (dMut "list" 6 mPopAt (dCons (dCall [true, false] S_law_take (dCons (dVar 0) (dCons (dCB qLen (dCons (dVar 6) dNil)) dNil))) dNil))) (dVar 8)) [4, 5, 8, 9, 10, 11])
    (dSeq (dAsg (dLc (dISeq (dVar 1)) (dName 4) dTrue (dLc (dISeq (dVar 4)) (dName 8) dTrue (dOp qIxS (dVar 7) (dVar 8)) [8]) [4]) (dName 9))
    (dSeq (dAsg (dCall [true, false] S_law_take (dCons (dVar 0) (dCons (dCB qLen (dCons (dVar 9) dNil)) dNil))) (dName 10))
    (dSeq (dAsg (dCall [true, false] S_law_take (dCons (dVar 0) (dCons (dLend (dCB qLen (dCons (dOp qIxS (dVar 9) (dVar 10)) dNil))) dNil))) (dName 11))
    (dSeq (dIfS (dTst (dOp qGt (dCall [true, false] S_law_take (dCons (dVar 0) (dCons (dC (.int 4)) dNil))) (dC (.int 0)))) (dPut2 9 10 11 mSetL (dOp qIxS (dVar 7) (dOp qIxS (dVar 3) (dCall [true, false] S_law_take (dCons (dVar 0) (dCons (dCB qLen (dCons (dVar 3) dNil)) dNil)))))) dNext)
    (dRet (dMv 9)))))))))))))
/- _law_end: _law_one, _law_other, _law_first; N = 8: 0 _law_one 1 _law_other 2 _law_first 3 _law_forth 4 _law_back 5 _law_at 6 _law_a 7 _law_b -/
def t_law_end : DS := (dSeq (dAsg dNewD (dName 3))
    (dSeq (dAsg dNewD (dName 4))
    (dSeq (dForW (dIRng2 (dCons (dVar 2) (dCons (dCB qLen (dCons (dVar 0) dNil)) dNil))) (dName 5) (dSeq (dIfS (dTst (dOp qNe (dCB qLen (dCons (dOp qIxS (dVar 0) (dVar 5)) dNil)) (dCB qLen (dCons (dOp qIxS (dVar 1) (dVar 5)) dNil)))) (dRet (dMv 5)) dNext)
    (dForW (dIZip (dCons (dOp qIxS (dVar 0) (dVar 5)) (dCons (dOp qIxS (dVar 1) (dVar 5)) dNil))) (dGTup 2 (dGCons (dName 6) (dGCons (dName 7) dGNil))) (dSeq (dIfS (dOr (dTst (dOp qNe (dGet2 (dVar 3) (dVar 6) (dVar 7)) (dVar 7))) (dTst (dOp qNe (dGet2 (dVar 4) (dVar 7) (dVar 6)) (dVar 6)))) (dRet (dMv 5)) dNext)
    (dSeq (dPut "dict" 3 mPutD (dVar 7) (dVar 6))
    (dPut "dict" 4 mPutD (dVar 6) (dVar 7)))) [6, 7])) [5, 6, 7])
    (dRet (dCB qLen (dCons (dVar 0) dNil))))))
/- law: _law_script; N = 16: 0 _law_script 1 _law_state 2 _law_least 3 _law_used 4 _law_titles 5 _law_rows_here 6 _law_copied_here 7 _law_one 8 _law_other 9 _law_found 10 _law_due 11 _law_last 12 _law_first 13 _law_end_here 14 _law_told 15 _law_row -/
def t_law : DS := (dSeq (dAsg (dCall [false] S_law_begun (dCons (dVar 0) dNil)) (dName 1))
    (dSeq (dAsg (dOp qAdd (dC (.int 1)) (dCall [true, false] S_law_take (dCons (dVar 1) (dCons (dC (.int 4)) dNil)))) (dName 2))
    (dSeq (dAsg (dCall0 S_law_kept) (dName 3))
    (dSeq (dAsg (dCall0 S_law_kept) (dName 4))
    (dSeq (dAsg (dCall [true, true] S_law_rows (dCons (dVar 1) (dCons (dVar 3) dNil))) (dName 5))
    (dSeq (dAsg (dCall [true, false, true] S_law_copied (dCons (dVar 1) (dCons (dVar 5) (dCons (dVar 3) dNil)))) (dName 6))
    (dSeq (dAsg (dCall [true, true] S_law_name (dCons (dVar 1) (dCons (dVar 4) dNil))) (dName 7))
    (dSeq (dAsg (dCall [true, true] S_law_name (dCons (dVar 1) (dCons (dVar 4) dNil))) (dName 8))
    (dSeq (dAsg (dCall [false, false] S_pairs (dCons (dLst (dCons (dTup (dCons (dVar 7) (dCons (dLc (dISeq (dVar 5)) (dName 15) dTrue (dCB qList (dCons (dVar 15) dNil)) [15]) dNil))) (dCons (dTup (dCons (dVar 8) (dCons (dLc (dISeq (dVar 6)) (dName 15) dTrue (dCB qList (dCons (dVar 15) dNil)) [15]) dNil))) dNil))) (dCons (dVar 2) dNil))) (dName 9))
    (dSeq (dAsg (dLst dNil) (dName 10))
    (dSeq (dAsg (dC (.int 0)) (dName 11))
    (dSeq (dForW (dIRng1 (dCons (dCB qLen (dCons (dVar 5) dNil)) dNil)) (dName 12) (dSeq (dAsg (dCall [false, false, false] S_law_end (dCons (dVar 5) (dCons (dVar 6) (dCons (dVar 12) dNil)))) (dName 13))
    (dSeq (dIfS (dAnd (dTst (dOp qGt (dVar 13) (dVar 11))) (dTst (dOp qGe (dOp qSub (dVar 13) (dVar 12)) (dVar 2)))) (dDrop (dMut "list" 10 mAppend (dCons (dTup (dCons (dCB qMinP (dCons (dVar 7) (dCons (dVar 8) dNil))) (dCons (dVar 12) (dCons (dCB qMaxP (dCons (dVar 7) (dCons (dVar 8) dNil))) (dCons (dVar 12) (dCons (dOp qSub (dVar 13) (dVar 12)) dNil)))))) dNil))) dNext)
    (dAsg (dCB qMax2 (dCons (dVar 11) (dCons (dVar 13) dNil))) (dName 11)))) [1, 3, 4, 12, 13])
    (dRet (dCall [false, false] (S_law_same 5) (dCons (dLc (dISeq (dVar 9)) (dName 14) (dAnd (dTst (dOp qNe (dOp qIxS (dVar 14) (dC (.int 0))) (dOp qIxS (dVar 14) (dC (.int 2))))) (dTst (dOp qEq (dOp qIxS (dVar 14) (dC (.int 1))) (dOp qIxS (dVar 14) (dC (.int 3)))))) (dVar 14) [14]) (dCons (dVar 10) dNil))))))))))))))))
theorem le_a (c : Nat) : (!strLt (sg c) " ") = decide (32 ≤ c) := by
  rw [show ((" " : Str)) = sg 32 from rfl, lt_sg]
  by_cases h : c < 32 <;> simp [h] <;> omega
theorem le_b (c : Nat) : (!strLt "~" (sg c)) = decide (c ≤ 126) := by
  rw [show (("~" : Str)) = sg 126 from rfl, lt_sg]
  by_cases h : 126 < c <;> simp [h] <;> omega
theorem pc_lt {c : Nat} (h : pcB c = true) : c < 127 := by
  simp [pcB] at h
  omega
theorem dig_all : ∀ c : Fin 127, pcB c = true → Txt.isdigit (sg c) = digB c := by decide +kernel
theorem alp_all : ∀ c : Fin 127, pcB c = true → (Txt.isalpha (sg c) || c.val == 95) = letB c := by decide +kernel
theorem dig_c {c : Nat} (h : pcB c = true) : Txt.isdigit (sg c) = digB c := dig_all ⟨c, pc_lt h⟩ h
theorem alp_c {c : Nat} (h : pcB c = true) : (Txt.isalpha (sg c) || c == 95) = letB c := alp_all ⟨c, pc_lt h⟩ h
theorem sg_eq {a b : Nat} : sg a = sg b ↔ a = b := ⟨fun h => by simpa [sg] using h, fun h => by rw [h]⟩
theorem oth_isi {d : D} (h : Oth d) : isiB (tyN d) "str" = false := by
  unfold isiB
  rw [h.1.2]
  simp
theorem sem_is_plain : Sem S_is_plain t_is_plain 2 := by
  rintro _ Q0 E0 ⟨d, rfl, ⟨x, rfl, hl, hq⟩ | ⟨ho, hq⟩⟩
  rotate_left
  · have hz := ho.2.1
    simp only [initE, finL, hz, if_true, List.map_cons, List.map_nil, List.length_cons, List.length_nil, Nat.zero_add, Nat.reduceAdd, Nat.reduceSub, List.replicate_succ, List.replicate_zero, List.cons_append, List.nil_append, Option.some.injEq, exists_eq_left']
    unfold t_is_plain
    walk_at "dg"
    refine w_isiF (by rw [ho.1.1]; rfl) (oth_isi ho) ?_
    walk_at "dg"
    exact hq
  walk_at "in"
  unfold t_is_plain
  walk_at "dg"
  refine lc_enc (fun c => pcB c) ?_ ?_ ?_
  · intro c hc acc k k' hn hk
    walk_at "dg"
    rw [le_a]
    unfold pcB at hk
    refine w_if (fun hb => ?_) fun hb => ?_
    · rw [hb, Bool.true_and] at hk
      walk_at "dg"
      rw [le_b]
      exact hk
    · rw [hb, Bool.false_and] at hk
      walk_at "dg"
      exact hk
  · rw [str_len]; exact hl
  walk_at "dg"
  have : ((List.map (fun c => pcB c) x.cps.toList).all id) = plB x := by
    unfold plB
    rw [List.all_map]
    rfl
  rw [this]
  exact hq
theorem sem_sort_of : Sem S_sort_of t_sort_of 1 := by
  rintro _ Q0 E0 ⟨c, rfl, hc, hq⟩
  walk_at "in"
  unfold t_sort_of
  walk_at "dg"
  unfold sortN at hq
  refine w_if (fun hb => ?_) fun hb => ?_
  · have hb : c = 32 := sg_eq.mp (dc_t.mp hb)
    rw [if_pos hb] at hq
    walk_at "dg"
    exact hq
  have hb : ¬ c = 32 := fun z => dc_f.mp hb (sg_eq.mpr z)
  rw [if_neg hb] at hq
  walk_at "dg"
  rw [dig_c hc]
  refine w_if (fun hb => ?_) fun hb => ?_
  · rw [if_pos hb] at hq
    walk_at "dg"
    exact hq
  rw [if_neg (by rw [hb]; decide)] at hq
  walk_at "dg"
  have ha := alp_c hc
  refine w_if (fun hb => ?_) fun hb => ?_
  · rw [hb, Bool.true_or] at ha
    rw [if_pos ha.symm] at hq
    walk_at "dg"
    exact hq
  rw [hb, Bool.false_or] at ha
  walk_at "dg"
  refine w_if (fun hb => ?_) fun hb => ?_
  · have hb : c = 95 := sg_eq.mp (dc_t.mp hb)
    rw [hb] at ha
    rw [hb, if_pos (show letB 95 = true from rfl)] at hq
    walk_at "dg"
    rw [hb]
    exact hq
  · have hb : ¬ c = 95 := fun z => dc_f.mp hb (sg_eq.mpr z)
    rw [beq_eq_false_iff_ne.mpr hb] at ha
    rw [if_neg (by rw [← ha]; decide)] at hq
    walk_at "dg"
    exact hq
theorem sort_le (c : Nat) : sortN c ≤ 3 := by
  unfold sortN
  split
  · omega
  split
  · omega
  split <;> omega
theorem sS (n : Nat) (h : n ≤ 3) : (sortS n = "letter" ↔ n = 2) ∧ (sortS n = "figure" ↔ n = 1) ∧ (sortS n = "blank" ↔ n = 0) := by
  rcases n with _ | _ | _ | n
  · exact ⟨by decide, by decide, by decide⟩
  · exact ⟨by decide, by decide, by decide⟩
  · exact ⟨by decide, by decide, by decide⟩
  · have : n = 0 := by omega
    subst this
    exact ⟨by decide, by decide, by decide⟩
theorem goes2 (c : Nat) : dc (sortS (sortN c) = "letter" ∨ sortS (sortN c) = "figure") = goesB 2 c := by
  obtain ⟨h1, h2, _⟩ := sS (sortN c) (sort_le c)
  unfold goesB
  by_cases g : sortN c = 2 ∨ sortN c = 1
  · rw [dc_t.mpr (g.imp h1.mpr h2.mpr)]
    rcases g with g | g <;> rw [g] <;> rfl
  · rw [dc_f.mpr fun z => g (z.imp h1.mp h2.mp)]
    rw [beq_eq_false_iff_ne.mpr fun z => g (.inl z), beq_eq_false_iff_ne.mpr fun z => g (.inr z)]
    rfl
theorem goes1 (c : Nat) : dc (sortS (sortN c) = "figure") = goesB 1 c := by
  obtain ⟨h1, h2, _⟩ := sS (sortN c) (sort_le c)
  unfold goesB
  by_cases g : sortN c = 1
  · rw [dc_t.mpr (h2.mpr g), g]; rfl
  · rw [dc_f.mpr fun z => g (h2.mp z), beq_eq_false_iff_ne.mpr g]
    rfl
theorem goes0 {k : Nat} (h : k ≠ 1) (h2 : k ≠ 2) (c : Nat) : goesB k c = false := by
  unfold goesB
  rw [beq_eq_false_iff_ne.mpr h, beq_eq_false_iff_ne.mpr h2]
  rfl
theorem tw0 {p : Nat → Bool} (h : ∀ c, p c = false) (l : List Nat) : l.takeWhile p = [] ∧ l.dropWhile p = l := by
  cases l with
  | nil => exact ⟨rfl, rfl⟩
  | cons c r => rw [List.takeWhile_cons, List.dropWhile_cons, h c]; exact ⟨rfl, rfl⟩
theorem pl_in {x : Str} (h : plB x = true) {c : Nat} (hc : c ∈ x.cps.toList) : pcB c = true := List.all_eq_true.mp h c hc
theorem drop_at {l : List Nat} {a : Nat} {c : Nat} {r : List Nat} (h : l.drop a = c :: r) : a < l.length ∧ atI l (a : Nat) = some c ∧ l.drop (a + 1) = r ∧ c ∈ l := by
  have h1 : a < l.length := by
    apply Classical.byContradiction
    intro z
    rw [List.drop_of_length_le (by omega)] at h
    cases h
  have h2 := List.drop_eq_getElem_cons h1
  rw [h] at h2
  injection h2 with h3 h4
  refine ⟨h1, ?_, h4.symm, ?_⟩
  · rw [at_nat rfl h1, h3]
  · rw [h3]; exact List.getElem_mem h1
theorem sem_end_of : Sem S_end_of t_end_of 4 := by
  rintro _ Q0 E0 ⟨x, a, c, r, rfl, hp, hl, hd, hq⟩
  walk_at "in"
  unfold t_end_of
  obtain ⟨h1, h2, h3, h4⟩ := drop_at hd
  rw [str_len] at h1
  have hpc := pl_in hp h4
  have hlr : r.length = x.length - (a + 1) := by rw [← h3, List.length_drop, str_len]
  walk_at "dg"
  refine w_ixT hl h2 ?_
  walk_at "dg"
  refine ⟨c, rfl, hpc, ?_⟩
  walk_at "dg"
  have loop : ∀ (k : Nat) (tst : DT) (kn : DL.Env → Prop) (rt : D → DL.Env → Prop) (bk ct : DL.Env → Prop) (ex : Exn → DL.Env → Prop),
      (∀ (c' : Nat) (j : Nat) (QT : Bool → DL.Env → Prop), pcB c' = true → atI x.cps.toList ((a + 1 + j : Nat) : Int) = some c' → QT (goesB k c') [.v (en x), .v (en (a : Int)), .v (en (sortS (sortN c))), .v (en ((a + 1 + j : Nat) : Int))] →
        tst [.v (en x), .v (en (a : Int)), .v (en (sortS (sortN c))), .v (en ((a + 1 + j : Nat) : Int))] QT ex) →
      kn [.v (en x), .v (en (a : Int)), .v (en (sortS (sortN c))), .v (en ((a + 1 + (r.takeWhile (goesB k)).length : Nat) : Int))] →
      dWhile (dAnd (dTst (dOp qLt (dVar 3) (dCB qLen (dCons (dVar 0) dNil)))) tst) (dAugI 3 (dC (.int 1))) ⟨kn, rt, bk, ct, ex⟩ [.v (en x), .v (en (a : Int)), .v (en (sortS (sortN c))), .v (en ((a : Int) + 1))] := by
    intro k tst kn rt bk ct ex ht hk
    refine while_run (fun m ρ => ∃ j, ρ = [.v (en x), .v (en (a : Int)), .v (en (sortS (sortN c))), .v (en ((a + 1 + j : Nat) : Int))] ∧ m = (r.drop j).length ∧ (r.takeWhile (goesB k)).length = j + ((r.drop j).takeWhile (goesB k)).length) ?_ (m := r.length) ⟨0, rfl, by simp, by simp⟩
    rintro m _ K ⟨j, rfl, hm, hj⟩ hK
    walk_at "dg"
    cases e : r.drop j with
    | nil =>
      refine w_if_f ?_ ?_
      · rw [decide_eq_false_iff_not]
        have : r.length ≤ j := List.drop_eq_nil_iff.mp e
        omega
      · rw [e] at hj
        walk_at "dg"
        rw [hj] at hk
        exact hk
    | cons c' r' =>
      have ed : x.cps.toList.drop (a + 1 + j) = c' :: r' := by rw [← List.drop_drop, h3, e]
      obtain ⟨g1, g2, g3, g4⟩ := drop_at ed
      rw [str_len] at g1
      refine w_if_t (decide_eq_true (by omega)) ?_
      refine ht c' j _ (pl_in hp g4) g2 ?_
      refine w_if (fun hb => ?_) fun hb => ?_
      · walk_at "dg"
        refine hK (r.drop (j + 1)).length _ ?_ ⟨j + 1, rfl, rfl, ?_⟩
        · rw [hm, List.length_drop, List.length_drop]
          have : j < r.length := by
            have := congrArg List.length e
            rw [List.length_drop, List.length_cons] at this
            omega
          omega
        · have e2 : r.drop (j + 1) = r' := by rw [← List.drop_drop, e]; rfl
          rw [hj, e, e2, List.takeWhile_cons, if_pos hb, List.length_cons]
          omega
      · rw [e, List.takeWhile_cons, if_neg (by rw [hb]; decide)] at hj
        simp only [List.length_nil, Nat.add_zero] at hj
        rw [hj] at hk
        exact hk
  obtain ⟨s1, s2, s3⟩ := sS (sortN c) (sort_le c)
  refine w_if (fun hb => ?_) fun hb => ?_
  · have hb := s1.mp (dc_t.mp hb)
    refine loop 2 _ _ _ _ _ _ ?_ ?_
    · intro c' j QT g1 g2 g3
      walk_at "dg"
      refine w_ixT hl g2 ?_
      walk_at "dg"
      refine ⟨c', rfl, g1, ?_⟩
      walk_at "dg"
      rw [goes2]
      exact g3
    · walk_at "dg"
      rw [hb] at hq
      exact hq
  have hb : sortN c ≠ 2 := fun z => dc_f.mp hb (s1.mpr z)
  walk_at "dg"
  refine w_if (fun hb2 => ?_) fun hb2 => ?_
  · have hb2 := s2.mp (dc_t.mp hb2)
    refine loop 1 _ _ _ _ _ _ ?_ ?_
    · intro c' j QT g1 g2 g3
      walk_at "dg"
      refine w_ixT hl g2 ?_
      walk_at "dg"
      refine ⟨c', rfl, g1, ?_⟩
      walk_at "dg"
      rw [goes1]
      exact g3
    · walk_at "dg"
      rw [hb2] at hq
      exact hq
  have hb2 : sortN c ≠ 1 := fun z => dc_f.mp hb2 (s2.mpr z)
  walk_at "dg"
  rw [(tw0 (goes0 hb2 hb) r).1] at hq
  exact hq
theorem wordsL_nil : wordsL [] = [] := by rw [wordsL]
theorem wordsL_cons (c : Nat) (r : List Nat) : wordsL (c :: r) = if c = 32 then wordsL r else (c :: r.takeWhile (goesB (sortN c))) :: wordsL (r.dropWhile (goesB (sortN c))) := by rw [wordsL]
theorem sort32 : sortN 32 = 0 := rfl
theorem drop_tw (p : Nat → Bool) (l : List Nat) : l.drop (l.takeWhile p).length = l.dropWhile p := by
  induction l with
  | nil => rfl
  | cons c r ih =>
    rw [List.takeWhile_cons, List.dropWhile_cons]
    split
    · exact ih
    · rfl
theorem take_tw (p : Nat → Bool) (l : List Nat) : l.take (l.takeWhile p).length = l.takeWhile p := by
  induction l with
  | nil => rfl
  | cons c r ih =>
    rw [List.takeWhile_cons]
    split
    · rw [List.length_cons, List.take_succ_cons, ih]
    · rfl
theorem tw_le (p : Nat → Bool) (l : List Nat) : (l.takeWhile p).length ≤ l.length := (List.takeWhile_prefix p).length_le
theorem wordsL_len : ∀ (n : Nat) (l : List Nat), l.length ≤ n → (wordsL l).length ≤ l.length
  | _, [], _ => by rw [wordsL_nil]; exact Nat.le_refl _
  | n + 1, c :: r, h => by
    rw [wordsL_cons]
    rw [List.length_cons] at h ⊢
    have hd := drop_lt (p := goesB (sortN c)) r
    split
    · have := wordsL_len n r (by omega)
      omega
    · rw [List.length_cons]
      have := wordsL_len n (r.dropWhile (goesB (sortN c))) (by omega)
      omega
theorem sem_parts_of : Sem S_parts_of t_parts_of 4 := by
  rintro _ Q0 E0 ⟨x, rfl, hp, hl, hq⟩
  walk_at "in"
  unfold t_parts_of
  walk_at "dg"
  refine while_run (fun m ρ => ∃ (a : Nat) (acc : List Str) (s : Sl), ρ = [.v (en x), .v (eo acc), .v (en (a : Int)), s] ∧ Fr s ∧ m = (x.cps.toList.drop a).length ∧ acc ++ (wordsL (x.cps.toList.drop a)).map st = wordsF x ∧ acc.length ≤ a ∧ a ≤ x.length) ?_ (m := x.cps.toList.length) ⟨0, [], .un, rfl, fr_un, rfl, rfl, Nat.le_refl _, Nat.zero_le _⟩
  rintro m _ k ⟨a, acc, s, rfl, hs, hm, he, hn, ha⟩ hk
  have both : ∀ s, Fr s → _ := fun s hs => hs
  cases e : x.cps.toList.drop a with
  | nil =>
    rw [e, wordsL_nil, List.map_nil, List.append_nil] at he
    have : x.cps.toList.length ≤ a := List.drop_eq_nil_iff.mp e
    rw [str_len] at this
    rcases hs with rfl | ⟨d, rfl⟩
    all_goals
      walk_at "dg"
      refine w_if_f (decide_eq_false (by omega)) ?_
      walk_at "dg"
      rw [he]
      exact hq
  | cons c r =>
    obtain ⟨h1, h2, h3, h4⟩ := drop_at e
    rw [str_len] at h1
    have hpc := pl_in hp h4
    have hlr : r.length = x.length - (a + 1) := by rw [← h3, List.length_drop, str_len]
    have htw := tw_le (goesB (sortN c)) r
    rw [e, wordsL_cons] at he
    rcases hs with rfl | ⟨d, rfl⟩
    all_goals
      walk_at "dg"
      refine w_if_t (decide_eq_true (by omega)) ?_
      walk_at "dg"
      refine ⟨x, a, c, r, rfl, hp, hl, e, ?_⟩
      walk_at "dg"
      refine w_ixT hl h2 ?_
      walk_at "dg"
      refine w_if (fun hb => ?_) fun hb => ?_
      · have hb : ¬ c = 32 := fun z => by
          rw [Bool.not_eq_true', dc_f] at hb
          exact hb (sg_eq.mpr z)
        rw [if_neg hb] at he
        have hw : cutS x (some (a : Int)) (some ((a + 1 + (r.takeWhile (goesB (sortN c))).length : Nat) : Int)) = st (c :: r.takeWhile (goesB (sortN c))) := by
          rw [← str_st x, cut_st (by omega) (by rw [str_len]; omega), e]
          congr 1
          rw [show a + 1 + (r.takeWhile (goesB (sortN c))).length - a = (r.takeWhile (goesB (sortN c))).length + 1 by omega, List.take_succ_cons, take_tw]
        walk_at "dg"
        rw [hw]
        refine hk (x.cps.toList.drop (a + 1 + (r.takeWhile (goesB (sortN c))).length)).length _ ?_ ⟨a + 1 + (r.takeWhile (goesB (sortN c))).length, acc ++ [st (c :: r.takeWhile (goesB (sortN c)))], _, rfl, fr_v _, rfl, ?_, ?_, ?_⟩
        · rw [hm, List.length_drop, List.length_drop, str_len]; omega
        · rw [← he, ← List.drop_drop, h3, drop_tw, List.map_cons, List.append_assoc]
          rfl
        · rw [List.length_append, List.length_singleton]; omega
        · omega
      · have hb : c = 32 := by
          rw [Bool.not_eq_false', dc_t] at hb
          exact sg_eq.mp hb
        rw [if_pos hb] at he
        have h0 : (r.takeWhile (goesB (sortN c))).length = 0 := by
          rw [hb, sort32, (tw0 (goes0 (by decide) (by decide)) r).1]
          rfl
        walk_at "dg"
        refine hk (x.cps.toList.drop (a + 1 + (r.takeWhile (goesB (sortN c))).length)).length _ ?_ ⟨a + 1 + (r.takeWhile (goesB (sortN c))).length, acc, _, rfl, fr_v _, rfl, ?_, ?_, ?_⟩
        · rw [hm, List.length_drop, List.length_drop, str_len]; omega
        · rw [h0, Nat.add_zero, h3]; exact he
        · omega
        · omega
theorem word_le {x : Str} {w : Str} (h : w ∈ wordsF x) : w.length ≤ x.length := by
  obtain ⟨l, hl, rfl⟩ := List.mem_map.mp h
  rw [st_len, ← str_len]
  clear h
  generalize x.cps.toList = xs at hl
  have : ∀ (n : Nat) (xs : List Nat), xs.length ≤ n → l ∈ wordsL xs → l.length ≤ xs.length := by
    intro n
    induction n with
    | zero =>
      intro xs h hl
      have : xs = [] := List.eq_nil_of_length_eq_zero (by omega)
      subst this
      rw [wordsL_nil] at hl
      cases hl
    | succ n ih =>
      intro xs h hl
      cases xs with
      | nil => rw [wordsL_nil] at hl; cases hl
      | cons c r =>
        rw [wordsL_cons] at hl
        rw [List.length_cons] at h ⊢
        have hd := drop_lt (p := goesB (sortN c)) r
        have ht := tw_le (goesB (sortN c)) r
        split at hl
        · have := ih r (by omega) hl
          omega
        · rcases List.mem_cons.mp hl with rfl | hl
          · rw [List.length_cons]; omega
          · have := ih _ (by omega) hl
            omega
  exact this _ xs (Nat.le_refl _) hl
theorem tw_all {p : Nat → Bool} {l : List Nat} (h : ∀ c ∈ l, p c = true) : l.takeWhile p = l ∧ l.dropWhile p = [] := by
  induction l with
  | nil => exact ⟨rfl, rfl⟩
  | cons c r ih =>
    obtain ⟨h1, h2⟩ := ih fun x hx => h x (List.mem_cons_of_mem _ hx)
    have hc := h c (List.mem_cons_self ..)
    rw [List.takeWhile_cons, List.dropWhile_cons, hc]
    exact ⟨by simp [h1], h2⟩
/-- a word of a text is a word, of its signs -/
theorem word_word : ∀ (n : Nat) (l w : List Nat), l.length ≤ n → w ∈ wordsL l → wordsL w = [w] ∧ ∀ c ∈ w, c ∈ l
  | 0, l, w, h, hw => by
    have : l = [] := List.eq_nil_of_length_eq_zero (by omega)
    subst this
    rw [wordsL_nil] at hw
    cases hw
  | n + 1, [], w, h, hw => by
    rw [wordsL_nil] at hw
    cases hw
  | n + 1, c :: r, w, h, hw => by
    rw [wordsL_cons] at hw
    rw [List.length_cons] at h
    have hd := drop_lt (p := goesB (sortN c)) r
    split at hw
    · obtain ⟨g1, g2⟩ := word_word n r w (by omega) hw
      exact ⟨g1, fun x hx => List.mem_cons_of_mem _ (g2 x hx)⟩
    · rename_i hc
      rcases List.mem_cons.mp hw with rfl | hw
      · refine ⟨?_, fun x hx => ?_⟩
        · rw [wordsL_cons, if_neg hc]
          have : ∀ x ∈ r.takeWhile (goesB (sortN c)), goesB (sortN c) x = true := fun x hx => List.all_eq_true.mp List.all_takeWhile x hx
          obtain ⟨t1, t2⟩ := tw_all this
          rw [t1, t2, wordsL_nil]
        · rcases List.mem_cons.mp hx with rfl | hx
          · exact List.mem_cons_self ..
          · exact List.mem_cons_of_mem _ ((List.takeWhile_prefix _).subset hx)
      · obtain ⟨g1, g2⟩ := word_word n _ w (by omega) hw
        exact ⟨g1, fun x hx => List.mem_cons_of_mem _ ((List.dropWhile_suffix _).subset (g2 x hx))⟩
theorem word_goes {c : Nat} {r : List Nat} (h : wordsL (c :: r) = [c :: r]) : c ≠ 32 ∧ ∀ x ∈ r, goesB (sortN c) x = true := by
  rw [wordsL_cons] at h
  split at h
  · exfalso
    rename_i hc
    have h1 := wordsL_len r.length r (Nat.le_refl _)
    obtain ⟨_, g⟩ := word_word r.length r (c :: r) (Nat.le_refl _) (by rw [h]; exact List.mem_singleton.mpr rfl)
    have h2 : (c :: r).length ≤ r.length := by
      have := word_le (x := st r) (w := st (c :: r)) (by unfold wordsF; rw [st_list, h]; exact List.mem_singleton.mpr rfl)
      rw [st_len, st_len] at this
      exact this
    rw [List.length_cons] at h2
    omega
  · rename_i hc
    injection h with h1 h2
    injection h1 with _ h1
    exact ⟨hc, fun x hx => by
      rw [← h1] at hx
      exact List.all_eq_true.mp List.all_takeWhile x hx⟩
/-- one sign of a text -/
def pick (x : Str) (i n : Int) : Nat := x.cps.toList.getD (i % n).toNat 0
theorem sem_is_word : Sem S_is_word t_is_word 1 := by
  rintro _ Q0 E0 ⟨d, rfl, ⟨x, rfl, hl, hq⟩ | ⟨ho, hq⟩⟩
  rotate_left
  · have hz := ho.2.1
    simp only [initE, finL, hz, if_true, List.map_cons, List.map_nil, List.length_cons, List.length_nil, Nat.zero_add, Nat.reduceAdd, Nat.reduceSub, List.replicate_succ, List.replicate_zero, List.cons_append, List.nil_append, Option.some.injEq, exists_eq_left']
    unfold t_is_word
    walk_at "dg"
    refine ⟨_, rfl, .inr ⟨ho, ?_⟩⟩
    walk_at "dg"
    exact hq
  walk_at "in"
  unfold t_is_word
  walk_at "dg"
  refine ⟨_, rfl, .inl ⟨x, rfl, hl, ?_⟩⟩
  unfold wordB at hq
  walk_at "dg"
  refine w_if (fun hp => ?_) fun hp => ?_
  · rw [hp, Bool.true_and] at hq
    walk_at "dg"
    refine w_if (fun hb => ?_) fun hb => ?_
    · walk_at "dg"
      refine ⟨x, rfl, hp, hl, ?_⟩
      walk_at "dg"
      refine w_eqP (x := wordsF x) (y := [x]) (py_eo _) rfl (by decide) ?_
      walk_at "dg"
      have hb : x.length ≤ 20 := by
        have := of_decide_eq_true hb
        omega
      rw [decide_eq_true hb, Bool.true_and] at hq
      exact hq
    · walk_at "dg"
      have hb : ¬ x.length ≤ 20 := by
        have := of_decide_eq_false hb
        omega
      rw [decide_eq_false hb, Bool.false_and] at hq
      exact hq
  · rw [hp, Bool.false_and] at hq
    walk_at "dg"
    exact hq
theorem word_head {x : Str} (h : wordB x = true) : ∃ c r, x.cps.toList = c :: r ∧ pcB c = true ∧ plB x = true ∧ x.length ≤ 20 := by
  unfold wordB at h
  rw [Bool.and_eq_true, Bool.and_eq_true] at h
  obtain ⟨h1, h2, h3⟩ := h
  have h3 := dc_t.mp h3
  cases e : x.cps.toList with
  | nil =>
    unfold wordsF at h3
    rw [e, wordsL_nil] at h3
    cases h3
  | cons c r => exact ⟨c, r, rfl, pl_in h1 (by rw [e]; exact List.mem_cons_self ..), h1, of_decide_eq_true h2⟩
theorem letter_d (c : Nat) : dc (sortS (sortN c) = "letter") = decide (sortN c = 2) := by
  obtain ⟨h1, _⟩ := sS (sortN c) (sort_le c)
  by_cases g : sortN c = 2
  · rw [dc_t.mpr (h1.mpr g), decide_eq_true g]
  · rw [dc_f.mpr fun z => g (h1.mp z), decide_eq_false g]
theorem sem_is_name : Sem S_is_name t_is_name 1 := by
  rintro _ Q0 E0 ⟨d, rfl, ⟨x, rfl, hl, hq⟩ | ⟨ho, hq⟩⟩
  rotate_left
  · have hz := ho.2.1
    simp only [initE, finL, hz, if_true, List.map_cons, List.map_nil, List.length_cons, List.length_nil, Nat.zero_add, Nat.reduceAdd, Nat.reduceSub, List.replicate_succ, List.replicate_zero, List.cons_append, List.nil_append, Option.some.injEq, exists_eq_left']
    unfold t_is_name
    walk_at "dg"
    refine ⟨_, rfl, .inr ⟨ho, ?_⟩⟩
    walk_at "dg"
    exact hq
  walk_at "in"
  unfold t_is_name
  walk_at "dg"
  refine ⟨_, rfl, .inl ⟨x, rfl, hl, ?_⟩⟩
  unfold nameB at hq
  walk_at "dg"
  refine w_if (fun hp => ?_) fun hp => ?_
  · rw [hp, Bool.true_and] at hq
    obtain ⟨c, r, e, hc, _, _⟩ := word_head hp
    rw [e] at hq
    walk_at "dg"
    refine w_ixT hl (ch := c) (by rw [e]; exact at_nat (ys := c :: r) (m := 0) rfl (by simp)) ?_
    walk_at "dg"
    refine ⟨c, rfl, hc, ?_⟩
    walk_at "dg"
    rw [letter_d]
    exact hq
  · rw [hp, Bool.false_and] at hq
    walk_at "dg"
    exact hq
theorem sem_is_free : Sem S_is_free t_is_free 1 := by
  rintro _ Q0 E0 ⟨d, rfl, ⟨x, rfl, hl, hq⟩ | ⟨ho, hq⟩⟩
  rotate_left
  · have hz := ho.2.1
    simp only [initE, finL, hz, if_true, List.map_cons, List.map_nil, List.length_cons, List.length_nil, Nat.zero_add, Nat.reduceAdd, Nat.reduceSub, List.replicate_succ, List.replicate_zero, List.cons_append, List.nil_append, Option.some.injEq, exists_eq_left']
    unfold t_is_free
    walk_at "dg"
    refine ⟨_, rfl, .inr ⟨ho, ?_⟩⟩
    walk_at "dg"
    exact hq
  walk_at "in"
  unfold t_is_free
  walk_at "dg"
  refine ⟨_, rfl, .inl ⟨x, rfl, hl, ?_⟩⟩
  unfold freeB at hq
  walk_at "dg"
  refine w_if (fun hp => ?_) fun hp => ?_
  · rw [hp, Bool.true_and] at hq
    walk_at "dg"
    refine w_inTok (ys := keptL) ?_
    walk_at "dg"
    exact hq
  · rw [hp, Bool.false_and] at hq
    walk_at "dg"
    exact hq
theorem sem_law_kept : Sem S_law_kept t_law_kept 0 := by
  rintro _ Q0 E0 ⟨rfl, hq⟩
  walk_at "in"
  unfold t_law_kept
  walk_at "dg"
  exact hq
local macro_rules | `(tactic| walk_at "in") => `(tactic| (simp only [initE, finL, fz_st, fz_e, fz_eo, fz_ek, fz_dE, if_true, if_false, Bool.false_eq_true, List.map_cons, List.map_nil, List.length_cons, List.length_nil, Nat.zero_add, Nat.reduceAdd, Nat.reduceSub, List.replicate_succ, List.replicate_zero, List.cons_append, List.nil_append, Option.some.injEq, exists_eq_left']))
local macro_rules | `(tactic| walk_at "fr") => `(tactic| first | exact fr_p _ | exact fr_oo _ | exact fr_dE _)
local macro_rules | `(tactic| walk_at "d0") => `(tactic| first
  | (with_reducible_and_instances apply w_lenM)
  | ((with_reducible_and_instances apply use_take); (· assumption); (· walk_at "bd"); intro _ _ _ _)
  | ((with_reducible_and_instances apply use_free); (· assumption))
  | (with_reducible_and_instances apply w_call0) | (with_reducible_and_instances apply use_kept)
  | ((with_reducible_and_instances apply w_ixN); (· exact rfl); (· walk_at "bd"); intro _ _ _)
  | ((with_reducible_and_instances apply w_ixTS); (· omega); (· omega); intro _ _ _ _ _)
  | ((with_reducible_and_instances apply w_addN); (· omega); intro _ _ _)
  | ((with_reducible_and_instances apply w_cutN); (· walk_at "rf"); (· omega); intro _ _ _)
  | ((with_reducible_and_instances apply w_strN); (· omega); intro _ _) | ((with_reducible_and_instances apply w_zfillN); (· omega); intro _ _)
  | ((with_reducible_and_instances apply m_popN); (· walk_at "bd"); intro _ _ _)
  | ((with_reducible_and_instances apply w_addLE); (· walk_at "bd"))
  | ((with_reducible_and_instances apply w_jlK); (· walk_at "rf"); (· simp only [app_lenS, len_empty, len_us]; omega))
  | ((with_reducible_and_instances apply w_lenS); (· omega))
  | ((with_reducible_and_instances apply w_fmN); (· walk_at "rf"); (· omega)))
abbrev KS : List Key := [.inr "cells", .inr "at", .inr "rest", .inr "turn", .inr "more"]
theorem lk_cells {v1 v2 v3 v4 v5 : D} : lookK KS [v1, v2, v3, v4, v5] (.inr "cells") = some v1 := by rfl
theorem lk_at {v1 v2 v3 v4 v5 : D} : lookK KS [v1, v2, v3, v4, v5] (.inr "at") = some v2 := by rfl
theorem lk_rest {v1 v2 v3 v4 v5 : D} : lookK KS [v1, v2, v3, v4, v5] (.inr "rest") = some v3 := by rfl
theorem lk_turn {v1 v2 v3 v4 v5 : D} : lookK KS [v1, v2, v3, v4, v5] (.inr "turn") = some v4 := by rfl
theorem lk_more {v1 v2 v3 v4 v5 : D} : lookK KS [v1, v2, v3, v4, v5] (.inr "more") = some v5 := by rfl
theorem pk_at : putKs KS (.inr "at" : Key) = KS := by rfl
theorem pk_rest : putKs KS (.inr "rest" : Key) = KS := by rfl
theorem pk_turn : putKs KS (.inr "turn" : Key) = KS := by rfl
theorem pk_more : putKs KS (.inr "more" : Key) = KS := by rfl
theorem pc_at {v1 v2 v3 v4 v5 v : D} : putCh KS [v1, v2, v3, v4, v5] (.inr "at" : Key) v = [v1, v, v3, v4, v5] := by rfl
theorem pc_rest {v1 v2 v3 v4 v5 v : D} : putCh KS [v1, v2, v3, v4, v5] (.inr "rest" : Key) v = [v1, v2, v, v4, v5] := by rfl
theorem pc_turn {v1 v2 v3 v4 v5 v : D} : putCh KS [v1, v2, v3, v4, v5] (.inr "turn" : Key) v = [v1, v2, v3, v, v5] := by rfl
theorem pc_more {v1 v2 v3 v4 v5 v : D} : putCh KS [v1, v2, v3, v4, v5] (.inr "more" : Key) v = [v1, v2, v3, v4, v] := by rfl
section
local macro_rules | `(tactic| walk_at "d0") => `(tactic| first | ((with_reducible_and_instances apply w_ixR); (· first | exact lk_cells | exact lk_at | exact lk_rest | exact lk_turn | exact lk_more); (· first | exact rfl | exact fz_ek _); ) | ((with_reducible_and_instances apply m_putR); (· exact rfl); (· exact (by decide : 5 < 100000)); (· first | exact pk_at | exact pk_rest | exact pk_turn | exact pk_more); (· first | exact pc_at | exact pc_rest | exact pc_turn | exact pc_more)))
theorem sem_law_begun : Sem S_law_begun t_law_begun 1 := by
  rintro _ Q0 E0 ⟨ns, rfl, hl, hq⟩
  walk_at "in"
  unfold t_law_begun
  walk_at "dg"
  exact hq ⟨ns, 0, 0, 0, 17⟩ ⟨hl, Int.le_refl 0, Int.le_refl 0, by show (0 : Int) ≤ 17; decide, by show (17 : Int) < _; decide⟩
theorem sem_law_take : Sem S_law_take t_law_take 5 := by
  rintro _ Q0 E0 ⟨⟨ns, a, r, t, m⟩, b, rfl, ⟨h1, h2, h3, h4, h5⟩, ⟨hb0, hb1⟩, hq⟩
  dsimp only at h1 h2 h3 h4 h5
  walk_at "in"
  unfold t_law_take St.d
  walk_at "st"
  refine w_cut1 (fun ρ => ∃ a r : Int, 0 ≤ a ∧ ρ = [.w (St.d ⟨ns, a, r, t, m⟩), .v (en b), .v (ek ns), .un, .un]) ?_ ?_
  · intro K0 hK0
    refine whW_run (fun s : Int × Int => [.w (St.d ⟨ns, s.1, s.2, t, m⟩), .v (en b), .v (ek ns), .un, .un]) (fun k s => 0 ≤ s.1 ∧ k = (ns.length - s.1).toNat) (s := (a, r)) ⟨h2, rfl⟩ rfl ?_
    rintro k ⟨a, r⟩ K ⟨ha, hk⟩ hK
    unfold St.d
    dsimp only at ha hk ⊢
    walk_at "dg"
    refine w_if (fun c1 => ?_) fun c1 => ?_
    · walk_at "dg"
      refine w_if (fun c2 => ?_) fun c2 => ?_
      · have c2 := of_decide_eq_true c2
        rw [List.length_map] at c2
        walk_at "dg"
        obtain ⟨x, hx1, hx2⟩ := at_in (ys := ns) (j := a) ha c2
        refine w_ixE rfl hx2 ?_
        walk_at "dg"
        refine w_if (fun c3 => ?_) fun c3 => ?_
        · walk_at "dg"
          refine w_ixE rfl hx2 ?_
          walk_at "dg"
          refine hK (k - 1) (a + 1, x) _ (by omega) ⟨by dsimp only; omega, by dsimp only; omega⟩ ?_
          rfl
        · walk_at "dg"
          refine hK (k - 1) (a + 1, r) _ (by omega) ⟨by dsimp only; omega, by dsimp only; omega⟩ ?_
          rfl
      · walk_at "dg"
        exact hK0 _ ⟨a, r, ha, rfl⟩
    · walk_at "dg"
      exact hK0 _ ⟨a, r, ha, rfl⟩
  rintro _ ⟨a, r, ha, rfl⟩
  unfold St.d
  walk_at "dg"
  refine w_if (fun c1 => ?_) fun c1 => ?_
  · have c1 := of_decide_eq_true c1
    walk_at "dg"
    have e1 := Int.emod_nonneg r (show b ≠ 0 by omega)
    have e2 := Int.emod_lt_of_pos r hb0
    have := hq (r % b).toNat ⟨ns, a, r / b, t, m⟩ ⟨h1, ha, h3, h4, h5⟩ (by omega)
    rw [Int.toNat_of_nonneg e1] at this
    exact ⟨_, rfl, this⟩
  · walk_at "d1"
    walk_at "st"
    refine w_cut1 (fun ρ => ∃ c : Int, ρ = [.w (St.d ⟨ns, a, r, t, m⟩), .v (en b), .v (ek ns), .un, .v (en c)]) ?_ ?_
    · intro K0 hK0
      walk_at "dg"
      refine w_if (fun c2 => ?_) fun c2 => ?_
      · have c2 := of_decide_eq_true c2
        rw [List.length_map] at c2
        walk_at "dg"
        have e1 := Int.emod_nonneg t (show (ns.length : Int) ≠ 0 by omega)
        have e2 := Int.emod_lt_of_pos t (show (0 : Int) < ns.length by omega)
        obtain ⟨x, hx1, hx2⟩ := at_in (ys := ns) (j := t % (ns.length : Int)) e1 e2
        refine w_mod (by rw [List.length_map]; omega) ?_
        rw [List.length_map]
        walk_at "dg"
        refine w_ixE rfl hx2 ?_
        walk_at "dg"
        exact hK0 _ ⟨x, rfl⟩
      · walk_at "dg"
        exact hK0 _ ⟨0, rfl⟩
    rintro _ ⟨c, rfl⟩
    unfold St.d
    walk_at "dg"
    have e1 := Int.emod_nonneg (m * 48271 + c + (t + 1)) (show (2147483647 : Int) ≠ 0 by decide)
    have e2 := Int.emod_lt_of_pos (m * 48271 + c + (t + 1)) (show (0 : Int) < 2147483647 by decide)
    generalize (m * 48271 + c + (t + 1)) % 2147483647 = m' at *
    generalize (m' * m' + 16807 * m') % 2147483629 = y
    have e3 := Int.emod_nonneg y (show b ≠ 0 by omega)
    have e4 := Int.emod_lt_of_pos y hb0
    have := hq (y % b).toNat ⟨ns, a, r, t + 1, m'⟩ ⟨h1, ha, by dsimp only; omega, e1, e2⟩ (by omega)
    rw [Int.toNat_of_nonneg e3] at this
    exact ⟨_, rfl, this⟩
end
theorem letter2 {c : Nat} (h : pcB c = true) : letB c = decide (sortN c = 2) := by
  have key : ∀ c : Fin 127, pcB c = true → letB c = decide (sortN c = 2) := by decide +kernel
  exact key ⟨c, pc_lt h⟩ h
/-! names -/
def Nl (x : Str) : Prop := ∃ c r, x.cps.toList = c :: r ∧ letB c = true ∧ ∀ d ∈ r, (letB d || digB d) = true
theorem let_pc {c : Nat} (h : (letB c || digB c) = true) : pcB c = true := by
  unfold letB digB at h
  unfold pcB
  simp only [Bool.or_eq_true, Bool.and_eq_true, decide_eq_true_eq, beq_iff_eq] at h ⊢
  omega
theorem goes_2 {d : Nat} (h : (letB d || digB d) = true) : goesB 2 d = true := by
  have hp := let_pc h
  have key : ∀ c : Fin 127, (letB c || digB c) = true → goesB 2 c = true := by decide +kernel
  exact key ⟨d, pc_lt hp⟩ h
theorem nl_pl {x : Str} (h : Nl x) : plB x = true ∧ 0 < x.length := by
  obtain ⟨c, r, e, h1, h2⟩ := h
  refine ⟨?_, by rw [← str_len, e]; simp⟩
  unfold plB
  rw [e, List.all_cons, let_pc (by rw [h1]; rfl), Bool.true_and, List.all_eq_true]
  exact fun d hd => let_pc (h2 d hd)
theorem nl_name {x : Str} (h : Nl x) (hl : x.length ≤ 20) : nameB x = true := by
  have hp := (nl_pl h).1
  obtain ⟨c, r, e, h1, h2⟩ := h
  have hc := let_pc (c := c) (by rw [h1]; rfl)
  have s2 : sortN c = 2 := by
    have := letter2 hc
    rw [h1] at this
    exact of_decide_eq_true this.symm
  have hw : wordsF x = [x] := by
    unfold wordsF
    rw [e, wordsL_cons, s2]
    have h3 : r.takeWhile (goesB 2) = r ∧ r.dropWhile (goesB 2) = [] := tw_all fun d hd => goes_2 (h2 d hd)
    rw [h3.1, h3.2, wordsL_nil, if_neg (by intro z; rw [z] at s2; cases s2)]
    rw [← e]
    show [st x.cps.toList] = [x]
    rw [str_st]
  unfold nameB wordB
  rw [hp, dc_t.mpr hw, decide_eq_true hl, e]
  show (true && (true && true) && decide (sortN c = 2)) = true
  rw [s2]; rfl
theorem nl_free {x : Str} (h : Nl x) (hl : x.length ≤ 20) (hk : x ∉ keptL) : Fn x := by
  unfold Fn freeB
  rw [nl_name h hl, dc_f.mpr hk]; rfl
theorem free_word {x : Str} (h : Fn x) : wordB x = true := by
  unfold Fn freeB nameB at h
  simp only [Bool.and_eq_true] at h
  exact h.1.1
theorem word_len {x : Str} (h : wordB x = true) : x.length ≤ 20 ∧ 0 < x.length := by
  obtain ⟨c, r, e, _, _, hl⟩ := word_head h
  exact ⟨hl, by rw [← str_len, e]; simp⟩
theorem name_nl {x : Str} (h : nameB x = true) : Nl x := by
  have hw : wordB x = true := by unfold nameB at h; rw [Bool.and_eq_true] at h; exact h.1
  obtain ⟨c, r, e, hc, hp, hl⟩ := word_head hw
  have s2 : sortN c = 2 := by
    unfold nameB at h
    rw [Bool.and_eq_true, e] at h
    exact of_decide_eq_true h.2
  refine ⟨c, r, e, by rw [letter2 hc, s2]; rfl, fun d hd => ?_⟩
  have h3 : wordsL (c :: r) = [c :: r] := by
    unfold wordB at hw
    rw [Bool.and_eq_true, Bool.and_eq_true] at hw
    have := dc_t.mp hw.2.2
    unfold wordsF at this
    rw [e] at this
    cases g : wordsL (c :: r) with
    | nil => rw [g] at this; cases this
    | cons y ys =>
      rw [g] at this
      injection this with t1 t2
      have t2 : ys = [] := by simpa using t2
      have t1 : y = c :: r := by
        have := congrArg (fun z : Str => z.cps.toList) t1
        simp only [st_list] at this
        rw [this, e]
      rw [t1, t2]
  have h4 := (word_goes h3).2 d hd
  rw [s2] at h4
  have hd' : pcB d = true := pl_in hp (by rw [e]; exact List.mem_cons_of_mem _ hd)
  have key : ∀ c : Fin 127, pcB c = true → goesB 2 c = true → (letB c || digB c) = true := by decide +kernel
  exact key ⟨d, pc_lt hd'⟩ hd' h4
theorem used_nl {u : List Str} (h : Used u) {x : Str} (hx : x ∈ u) : Nl x ∧ x.length ≤ 20 := by
  obtain ⟨us, rfl, _, h2, _⟩ := h
  have hn : nameB x = true := by
    rcases List.mem_append.mp hx with z | z
    · have key : ∀ x ∈ keptL, Nl x ∧ x.length ≤ 20 := by
        have k2 : (keptL.all fun x => match x.cps.toList with | [] => false | c :: r => letB c && (r.all fun d => letB d || digB d) && decide (x.length ≤ 20)) = true := by decide +kernel
        intro x hx
        have := List.all_eq_true.mp k2 x hx
        cases e : x.cps.toList with
        | nil => rw [e] at this; cases this
        | cons c r =>
          rw [e] at this
          simp only [Bool.and_eq_true, List.all_eq_true, decide_eq_true_eq] at this
          exact ⟨⟨c, r, e, this.1.1, this.1.2⟩, this.2⟩
      exact nl_name (key x z).1 (key x z).2
    · have := h2 x z
      unfold Fn freeB at this
      rw [Bool.and_eq_true] at this
      exact this.1
  have hw : wordB x = true := by unfold nameB at hn; rw [Bool.and_eq_true] at hn; exact hn.1
  exact ⟨name_nl hn, (word_len hw).1⟩

/-! draws of names -/
def someS : Str := "abcdefghijklmnopqrstuvwxyz_ABCDEFGHIJKLMNOPQRSTUVWXYZ0123456789"
theorem some_len : someS.length = 63 := by decide +kernel
theorem some_at {k : Nat} {c : Nat} (h : someS.cps.toList[k]? = some c) : (letB c || digB c) = true ∧ (k < 53 → letB c = true) := by
  have key : ∀ k : Fin 63, (match someS.cps.toList[k.val]? with | some c => (letB c || digB c) && (decide (53 ≤ k.val) || letB c) | none => false) = true := by decide +kernel
  have hk : k < 63 := by
    have := (List.getElem?_eq_some_iff.mp h).1
    rw [str_len, some_len] at this
    exact this
  have := key ⟨k, hk⟩
  simp only [h, Bool.and_eq_true] at this
  exact ⟨this.1, fun z => by
    have h2 := this.2
    rw [decide_eq_false (by omega), Bool.false_or] at h2
    exact h2⟩
theorem nl_sg {c : Nat} (h : letB c = true) : Nl (sg c) := ⟨c, [], rfl, h, fun _ z => by cases z⟩
theorem app_list' (a b : Str) : (a ++ b).cps.toList = a.cps.toList ++ b.cps.toList := by
  show (a.cps ++ b.cps).toList = _
  simp
theorem nl_app {a b : Str} (h : Nl a) (hb : ∀ d ∈ b.cps.toList, (letB d || digB d) = true) : Nl (a ++ b) := by
  obtain ⟨c, r, e, h1, h2⟩ := h
  refine ⟨c, r ++ b.cps.toList, by rw [app_list', e]; rfl, h1, fun d hd => ?_⟩
  rcases List.mem_append.mp hd with z | z
  · exact h2 d z
  · exact hb d z
theorem nl_all {x : Str} (h : Nl x) : ∀ d ∈ x.cps.toList, (letB d || digB d) = true := by
  obtain ⟨c, r, e, h1, h2⟩ := h
  intro d hd
  rw [e] at hd
  rcases List.mem_cons.mp hd with rfl | z
  · rw [h1]; rfl
  · exact h2 d z
def valS (x : Str) : Nat := x.cps.toList.foldl (fun n c => n * 10 + (c - 48)) 0
theorem num4 {k : Nat} (h : k ≤ 1000) : (Str.ofString (toString (k : Int))).length ≤ 4 ∧ (∀ d ∈ (Str.ofString (toString (k : Int))).cps.toList, (letB d || digB d) = true) ∧ valS (Str.ofString (toString (k : Int))) = k := by
  have key : ∀ k : Fin 1001, (decide ((Str.ofString (toString (k.val : Int))).length ≤ 4) && ((Str.ofString (toString (k.val : Int))).cps.toList.all fun d => letB d || digB d) && decide (valS (Str.ofString (toString (k.val : Int))) = k.val)) = true := by decide +kernel
  have := key ⟨k, by omega⟩
  simp only [Bool.and_eq_true, decide_eq_true_eq, List.all_eq_true] at this
  exact ⟨this.1.1, this.1.2, this.2⟩
theorem pigeon {α : Type} [DecidableEq α] : ∀ (l u : List α), l.Nodup → (∀ x ∈ l, x ∈ u) → l.length ≤ u.length
  | [], u, _, _ => Nat.zero_le _
  | x :: l, u, h, hs => by
    rw [List.nodup_cons] at h
    have hx := hs x (List.mem_cons_self ..)
    have := pigeon l (u.erase x) h.2 fun y hy => (List.mem_erase_of_ne (fun z => h.1 (by rw [← z]; exact hy))).mpr (hs y (List.mem_cons_of_mem _ hy))
    rw [List.length_erase_of_mem hx] at this
    have h0 : 0 < u.length := List.length_pos_of_mem hx
    rw [List.length_cons]
    omega
def candF (x : Str) (k : Nat) : Str := ((Str.empty ++ cutS x none (some 15)) ++ Str.ofString "_") ++ Str.ofString (toString (k : Int))
theorem cut_take (x : Str) {v : Int} (h : 0 ≤ v) : (cutS x none (some v)).cps.toList = x.cps.toList.take v.toNat := by
  unfold cutS HT.sIx
  have : ¬ v < 0 := by omega
  simp only [this, if_false, List.drop_zero, Nat.sub_zero]
  rw [← str_len]
  by_cases g : v.toNat ≤ x.cps.toList.length
  · rw [Nat.min_eq_left g]
  · rw [Nat.min_eq_right (by omega), List.take_of_length_le (Nat.le_refl _), List.take_of_length_le (by omega)]
theorem cut_drop (x : Str) {v : Int} (h : 0 ≤ v) : (cutS x (some v) none).cps.toList = x.cps.toList.drop v.toNat := by
  unfold cutS HT.sIx
  have : ¬ v < 0 := by omega
  simp only [this, if_false]
  rw [← str_len]
  by_cases g : v.toNat ≤ x.cps.toList.length
  · rw [Nat.min_eq_left g, List.take_of_length_le (by simp)]
  · rw [Nat.min_eq_right (by omega), List.drop_of_length_le (Nat.le_refl _), List.drop_of_length_le (by omega)]
    simp
theorem nl_mid {x y : Str} {k j : Nat} {c : Nat} (h : Nl x) (hc : letB c = true) (e : y.cps.toList = x.cps.toList.take k ++ c :: x.cps.toList.drop j) : Nl y := by
  have ha := nl_all h
  obtain ⟨c0, r0, e0, h1, h2⟩ := h
  cases k with
  | zero => exact ⟨c, _, by rw [e]; rfl, hc, fun d hd => ha d (List.mem_of_mem_drop hd)⟩
  | succ k =>
    rw [e0, List.take_succ_cons, List.cons_append] at e
    refine ⟨c0, _, e, h1, fun d hd => ?_⟩
    rcases List.mem_append.mp hd with z | z
    · exact h2 d (List.mem_of_mem_take z)
    · rcases List.mem_cons.mp z with rfl | z
      · rw [hc]; rfl
      · exact ha d (by rw [e0]; exact List.mem_of_mem_drop z)
theorem cand_ok {x : Str} {k : Nat} (h : Nl x) (hk : k ≤ 1000) : Nl (candF x k) ∧ (candF x k).length ≤ 20 := by
  obtain ⟨n1, n2, _⟩ := num4 hk
  have e1 : (cutS x none (some 15)).cps.toList = x.cps.toList.take 15 := cut_take x (by decide)
  have l1 : (cutS x none (some 15)).length ≤ 15 := by rw [← str_len, e1, List.length_take]; omega
  have ne : Nl (Str.empty ++ cutS x none (some 15)) := by
    obtain ⟨c, r, e, h1, h2⟩ := h
    refine ⟨c, r.take 14, ?_, h1, fun d hd => h2 d (List.mem_of_mem_take hd)⟩
    rw [app_listS, e1, e]
    rfl
  refine ⟨nl_app (nl_app ne ?_) n2, ?_⟩
  · have : (Str.ofString "_").cps.toList = [95] := by decide +kernel
    rw [this]
    intro d hd
    rw [List.mem_singleton.mp hd]
    decide
  · unfold candF
    rw [app_lenS, app_lenS, app_lenS]
    have e2 : (Str.empty : Str).length = 0 := rfl
    have e3 : (Str.ofString "_").length = 1 := by decide +kernel
    omega
theorem cand_inj {x : Str} {a b : Nat} (ha : a ≤ 1000) (hb : b ≤ 1000) (h : candF x a = candF x b) : a = b := by
  unfold candF at h
  have e := congrArg (fun z : Str => z.cps.toList) h
  simp only [app_listS (((Str.empty ++ cutS x none (some 15)) ++ Str.ofString "_"))] at e
  have e := List.append_cancel_left e
  have e2 : Str.ofString (toString (a : Int)) = Str.ofString (toString (b : Int)) := by
    rw [← str_st (Str.ofString (toString (a : Int))), e, str_st]
  have := congrArg valS e2
  rwa [(num4 ha).2.2, (num4 hb).2.2] at this
theorem cand_new {x : Str} {u : List Str} (hu : u.length ≤ 1000) : ((List.range (u.length + 1)).map (candF x)).filter (fun y => !dc (y ∈ u)) ≠ [] := by
  intro z
  have hs : ∀ y ∈ (List.range (u.length + 1)).map (candF x), y ∈ u := fun y hy => by
    apply Classical.byContradiction
    intro g
    have : y ∈ ((List.range (u.length + 1)).map (candF x)).filter (fun y => !dc (y ∈ u)) := List.mem_filter.mpr ⟨hy, by rw [dc_f.mpr g]; rfl⟩
    rw [z] at this
    cases this
  have hn : ((List.range (u.length + 1)).map (candF x)).Nodup := by
    refine List.Pairwise.map (R := fun a b => a ≠ b ∧ a ≤ 1000 ∧ b ≤ 1000) _ (fun a b h e => h.1 (cand_inj h.2.1 h.2.2 e)) ?_
    have h1 : (List.range (u.length + 1)).Pairwise (· ≠ ·) := List.nodup_range
    rw [List.pairwise_iff_getElem] at h1 ⊢
    intro i j hi hj hij
    refine ⟨h1 i j hi hj hij, ?_, ?_⟩
    · rw [List.getElem_range]; rw [List.length_range] at hi; omega
    · rw [List.getElem_range]; rw [List.length_range] at hj; omega
  have := pigeon _ u hn hs
  rw [List.length_map, List.length_range] at this
  omega
theorem used_len {u : List Str} (h : Used u) : 13 ≤ u.length := by
  obtain ⟨us, rfl, _⟩ := h
  have : keptL.length = 13 := rfl
  rw [List.length_append]
  omega
theorem used_kept {u : List Str} (h : Used u) {x : Str} (hx : x ∉ u) : x ∉ keptL := by
  obtain ⟨us, rfl, _⟩ := h
  exact fun z => hx (List.mem_append_left _ z)
theorem sem_law_name : Sem S_law_name t_law_name 7 := by
  rintro _ Q0 E0 ⟨s, u, rfl, hs, hU, hul, hq⟩
  have hu := used_len hU
  walk_at "in"
  unfold t_law_name
  have hS := some_len
  have hA := @some_at
  unfold someS at hS hA
  generalize Str.ofString "abcdefghijklmnopqrstuvwxyz_ABCDEFGHIJKLMNOPQRSTUVWXYZ0123456789" = S at hS hA ⊢
  walk_at "st"
  walk_at "st"
  rename_i k0 s0 hs0 hk0 c0 y0 hc0 ey0 hy0
  refine w_cut1 (fun ρ => ∃ (s' : St) (x : Str), s'.ok ∧ Nl x ∧ x.length ≤ 21 ∧ ρ = [.w s'.d, .w (eo u), .v (en S), .v (en x), .un, .un, .un]) ?_ ?_
  · intro K hK
    walk_at "dg"
    rename_i k1 s1 hs1 hk1
    refine w_if (fun c1 => ?_) fun c1 => ?_
    · walk_at "dg"
      rename_i k2 s2 hs2 hk2 x hx hg
      obtain ⟨hn, hl⟩ := used_nl hU hx
      have h0 := (nl_pl hn).2
      walk_at "dg"
      rename_i k3 s3 hs3 hk3 z1 ez1 lz1 k4 s4 hs4 hk4 c y hc ey ly z2 ez2 lz2 k5 s5 hs5 hk5 z3 ez3 lz3 z4 ez4 lz4
      have eL : z4.cps.toList = x.cps.toList.take k3 ++ c :: x.cps.toList.drop ((k3 : Int) + (k5 : Int)).toNat := by
        rw [ez4, ez2, ez1, ez3, ey, app_listS, app_listS, cut_take x (by omega), cut_drop x (by omega), Int.toNat_natCast]
        simp [sg]
      have eN : z4.length ≤ 21 := by
        rw [← str_len, eL, List.length_append, List.length_cons, List.length_take, List.length_drop, str_len]
        omega
      exact hK _ ⟨s5, z4, hs5, nl_mid hn ((hA hc).2 (by omega)) eL, eN, rfl⟩
    · walk_at "dg"
      rename_i k2 s2 hs2 hk2
      obtain ⟨j, hj1, hj2⟩ := at_in (ys := [(0 : Int), 0, 1, 2, 3, 5, 9, 19]) (j := (k2 : Int)) (by omega) (by simp; omega)
      refine w_ixE (ys := [0, 0, 1, 2, 3, 5, 9, 19]) rfl hj2 ?_
      have hj : 0 ≤ j ∧ j ≤ 19 := by simp at hj1; omega
      walk_at "dg"
      refine lw_inv (fun z : St × Str => [.w z.1.d, .w (eo u), .v (en S), .v (en z.2), .un, .un, .un]) (fun rest z => z.1.ok ∧ Nl z.2 ∧ z.2.length + rest.length ≤ 20) (s2, y0) ⟨hs2, by rw [ey0]; exact nl_sg ((hA hc0).2 (by omega)), by rw [List.length_range]; dsimp only; omega⟩ ?_ ?_
      · rintro i rest ⟨sa, x⟩ ⟨ha, hn, hl⟩ k hk
        rw [List.length_cons] at hl
        dsimp only at ha hn hl ⊢
        walk_at "dg"
        rename_i k4 s4 hs4 hk4 c y hc ey ly z2 ez2 lz2
        refine hk (s4, z2) _ ⟨hs4, ?_, by dsimp only; omega⟩ rfl
        dsimp only
        rw [ez2, ey]
        exact nl_app hn fun d hd => by
          have : d = c := by simpa [sg] using hd
          rw [this]; exact (hA hc).1
      · rintro ⟨sa, x⟩ ⟨ha, hn, hl⟩
        rw [List.length_nil] at hl
        dsimp only at ha hn hl ⊢
        walk_at "dg"
        exact hK _ ⟨sa, x, ha, hn, by omega, rfl⟩
  rintro _ ⟨s', x, hs', hn, hl, rfl⟩
  have h0 := (nl_pl hn).2
  refine w_cut1 (fun ρ => ∃ (x : Str), Fn x ∧ x ∉ u ∧ ρ = [.w s'.d, .w (eo u), .v (en S), .v (en x), .un, .un, .un]) ?_ ?_
  · intro K hK
    have mk : ∀ K' : DL.Env → Prop, (∀ y, Fn y → y ∉ u → K' [.w s'.d, .w (eo u), .v (en S), .v (en y), .un, .un, .un]) → ∀ (rt : D → DL.Env → Prop) (bk ct : DL.Env → Prop) (ex : Exn → DL.Env → Prop),
        dAsg (dOp qIxS (dLc (dISeq (dLc (dIRng1 (dCons (dOp qAdd (dCB qLen (dCons (dVar 1) dNil)) (dC (.int 1))) dNil)) (dName 5) dTrue (dJs [(dFmt (dCut (dVar 3) dNoPart (dPart (dC (.int 15))))), (dC (.str "_")), (dFmt (dVar 5))]) [5])) (dName 6) (dTst (dOp (qInS true) (dVar 6) (dVar 1))) (dVar 6) [6]) (dC (.int 0))) (dName 3) ⟨K', rt, bk, ct, ex⟩ [.w s'.d, .w (eo u), .v (en S), .v (en x), .un, .un, .un] := by
      intro K' hK' rt bk ct ex
      walk_at "dg"
      refine lc_enc (candF x) ?_ ?_ ?_
      · intro k hk acc k1 k2 hacc hgo
        have hk : k < u.length + 1 := by rw [List.mem_range] at hk; omega
        walk_at "dg"
        rename_i z ez lz
        have lz := (num4 (k := k) (by omega)).1
        walk_at "dg"
        rw [ez]
        exact hgo
      · rw [List.length_range]; omega
      have er : ((u.length : Int) + 1).toNat = u.length + 1 := by omega
      rw [er]
      walk_at "dg"
      refine lc_fil (fun y => !dc (y ∈ u)) (fun y => y) ?_ ?_ ?_
      · intro y hy acc k1 k2 hacc h1 h2
        walk_at "dg"
        refine w_if (fun c1 => ?_) fun c1 => ?_
        · walk_at "dg"
          exact h1 c1
        · exact h2 c1
      · rw [List.length_map, List.length_range]; omega
      have ne := cand_new (x := x) hul
      rw [List.map_id']
      generalize hL : ((List.range (u.length + 1)).map (candF x)).filter (fun y => !dc (y ∈ u)) = L at ne ⊢
      have hpos : 0 < L.length := List.length_pos_iff.mpr ne
      walk_at "dg"
      rename_i y hyL hg
      rw [← hL] at hyL
      obtain ⟨hy1, hy2⟩ := List.mem_filter.mp hyL
      obtain ⟨k, hk, rfl⟩ := List.mem_map.mp hy1
      rw [List.mem_range] at hk
      have hyu : candF x k ∉ u := dc_f.mp (by simpa using hy2)
      obtain ⟨n1, n2⟩ := cand_ok (k := k) hn (by omega)
      exact hK' _ (nl_free n1 n2 (used_kept hU hyu)) hyu
    walk_at "dg"
    refine w_if (fun c1 => ?_) fun c1 => ?_
    · exact mk _ (fun y h1 h2 => hK _ ⟨y, h1, h2, rfl⟩) _ _ _ _
    · walk_at "dg"
      refine w_if (fun c2 => ?_) fun c2 => ?_
      · exact mk _ (fun y h1 h2 => hK _ ⟨y, h1, h2, rfl⟩) _ _ _ _
      · walk_at "dg"
        have c1 := dc_f.mp c1
        have c2 := of_decide_eq_false c2
        exact hK _ ⟨x, nl_free hn (by omega) (used_kept hU c1), c1, rfl⟩
  rintro _ ⟨x, hf, hx, rfl⟩
  walk_at "dg"
  exact ⟨_, rfl, hq s' x hs' hf hx⟩

theorem used_add {u : List Str} (h : Used u) {x : Str} (hf : Fn x) (hx : x ∉ u) (hl : u.length < 5000) : Used (u ++ [x]) := by
  obtain ⟨us, rfl, h1, h2, h3⟩ := h
  refine ⟨us ++ [x], by rw [List.append_assoc], by rw [List.length_append, List.length_singleton]; omega, fun y hy => ?_, ?_⟩
  · rcases List.mem_append.mp hy with z | z
    · exact h2 y z
    · rw [List.mem_singleton.mp z]; exact hf
  · rw [List.nodup_append]
    exact ⟨h3, by simp, fun a ha b hb => by rw [List.mem_singleton.mp hb]; exact fun z => hx (z ▸ ha)⟩
theorem use_name {s : St} {u : List Str} {Q : D → List D → Prop} {E : Exn → List D → Prop} (hs : s.ok) (hU : Used u) (hl : u.length ≤ 1000) (h : ∀ (s' : St) (x : Str), s'.ok → Fn x → x ∉ u → Q (en x) [s'.d, eo (u ++ [x])]) : S_law_name [s.d, eo u] Q E := ⟨s, u, rfl, hs, hU, hl, h⟩
def signS : Str := "!\"#$&'()*+,-./:;<=>?\x40[\\]^`{|}~"
def okP (p : Str × Str) : Prop := (freeB p.1 = true ∧ freeB p.2 = true) ∨ p.1 = p.2
noncomputable def tieB (p : Str × Str) : Bool := freeB p.1 && freeB p.2
def fl (z : List (List Str × List Str)) : List (Str × Str) := z.flatMap fun p => p.1.zip p.2
/-- the numbers of names -/
def kvN (seen : List Str) : List (Str × Int) := seen.zipIdx.map fun p => (p.1, (p.2 : Int))
theorem cutD_hi {α : Type} {xs : List α} {l : Nat} (h : l ≤ xs.length) : cutD xs none (some (l : Int)) = xs.take l := by
  unfold cutD HT.sIx
  have e1 : ¬ ((l : Int) < 0) := by omega
  simp only [e1, if_false, List.drop_zero, Nat.sub_zero]
  congr 1
  omega
theorem lkL1 {ρ : DL.Env} {i : Nat} {d : D} (h : slD ρ i = some d) : lookL ρ [.s i] = some [d] := by
  have h : look ρ (.s i) = some d := h
  unfold lookL
  rw [h]
  rfl
theorem lkS {ρ : DL.Env} {i : Nat} {d : D} (h : slD ρ i = some d) : look ρ (.s i) = some d := h
theorem ixN_nat {n l : Nat} (h : l < n) : ixN n (l : Int) = some l := by
  unfold ixN
  have e1 : ¬ ((l : Int) < 0) := by omega
  simp [e1, h]
section
local macro_rules | `(tactic| walk_at "rf") => `(tactic| first | exact lkL1 (sl_oo rfl rfl (by assumption)) | exact lkS (sl_oo rfl rfl (by assumption)))
local macro_rules | `(tactic| walk_at "ne") => `(tactic| (simp only [kb_nil, kb_un, kb_v, kb_w, kb_b, kb_fs, se0, seS, wi0, wiS, show ((3 : Nat) = 0) = False from by decide, show ((3 : Nat) = 6) = False from by decide, show ((3 : Nat) = 7) = False from by decide, show ((3 : Nat) = 8) = False from by decide, if_false, if_true]; first | done | exact rfl))
set_option maxHeartbeats 4000000 in
end
noncomputable def nxS (s : List Str) (w : Str) : List Str := if freeB w = true ∧ w ∉ s then s ++ [w] else s
noncomputable def itS (s : List Str) (w : Str) : It := if freeB w = true then .h (((nxS s w).idxOf w : Nat) : Int) else .w w
noncomputable def mwF : List Str → List Str → List It
  | _, [] => []
  | s, w :: r => itS s w :: mwF (nxS s w) r
noncomputable def mrF : List Str → List (List Str) → List (List It)
  | _, [] => []
  | s, r :: rows => mwF s r :: mrF (r.foldl nxS s) rows
theorem wSt_eq (s : List Str) (ms : List It) (w : Str) : wSt (s, ms) w = (nxS s w, ms ++ [itS s w]) := rfl
theorem fold_w : ∀ (r : List Str) (s : List Str) (ms : List It), r.foldl wSt (s, ms) = (r.foldl nxS s, ms ++ mwF s r)
  | [], s, ms => by simp [mwF]
  | w :: r, s, ms => by rw [List.foldl_cons, wSt_eq, fold_w r, List.foldl_cons, mwF, List.append_assoc]; rfl
theorem fold_r : ∀ (rows : List (List Str)) (s : List Str) (f : List (List It)), (rows.foldl rSt (s, f)).2 = f ++ mrF s rows
  | [], s, f => by simp [mrF]
  | r :: rows, s, f => by
    have e : rSt (s, f) r = (r.foldl nxS s, f ++ [mwF s r]) := by
      unfold rSt
      dsimp only
      rw [fold_w]
      simp
    rw [List.foldl_cons, e, fold_r rows, mrF, List.append_assoc]
    rfl
theorem markF_eq (rows : List (List Str)) : markF rows = mrF [] rows := by unfold markF; rw [fold_r]; rfl
theorem mwF_len : ∀ (r s : List Str), (mwF s r).length = r.length
  | [], s => rfl
  | w :: r, s => by rw [mwF, List.length_cons, List.length_cons, mwF_len r]
theorem mrF_len : ∀ (rows : List (List Str)) (s : List Str), (mrF s rows).map List.length = rows.map List.length
  | [], s => rfl
  | r :: rows, s => by rw [mrF, List.map_cons, List.map_cons, mrF_len rows, mwF_len]
theorem mwF_app : ∀ (u v s : List Str), mwF s (u ++ v) = mwF s u ++ mwF (u.foldl nxS s) v
  | [], v, s => rfl
  | w :: u, v, s => by rw [List.cons_append, mwF, mwF_app u, mwF, List.foldl_cons]; rfl
theorem flat_mr : ∀ (one other : List (List Str)) (s t : List Str), one.map List.length = other.map List.length → (mrF s one = mrF t other ↔ mwF s one.flatten = mwF t other.flatten)
  | [], [], s, t, _ => by simp [mrF, mwF]
  | [], _ :: _, s, t, h => by simp at h
  | _ :: _, [], s, t, h => by simp at h
  | r :: one, b :: other, s, t, h => by
    simp only [List.map_cons, List.cons.injEq] at h
    have ih := flat_mr one other (r.foldl nxS s) (b.foldl nxS t) h.2
    rw [mrF, mrF, List.flatten_cons, List.flatten_cons, mwF_app, mwF_app, List.cons.injEq, ih]
    constructor
    · rintro ⟨h1, h2⟩
      rw [h1, h2]
    · intro z
      exact List.append_inj z (by rw [mwF_len, mwF_len]; exact h.1)
theorem flat_prs : ∀ (one other : List (List Str)), one.map List.length = other.map List.length → prs one other = one.flatten.zip other.flatten
  | [], [], _ => rfl
  | [], _ :: _, h => by simp at h
  | _ :: _, [], h => by simp at h
  | r :: one, b :: other, h => by
    simp only [List.map_cons, List.cons.injEq] at h
    have ih := flat_prs one other h.2
    rw [List.flatten_cons, List.flatten_cons, List.zip_append h.1, ← ih]
    unfold prs
    rw [List.zip_cons_cons, List.flatMap_cons]
theorem idx_app (a : Str) : ∀ s : List Str, a ∉ s → (s ++ [a]).idxOf a = s.idxOf a
  | [], _ => by simp
  | x :: s, h => by
    have h1 : (x == a) = false := by simpa using fun z : x = a => h (z ▸ List.mem_cons_self ..)
    rw [List.cons_append, List.idxOf_cons, List.idxOf_cons, h1, idx_app a s fun z => h (List.mem_cons_of_mem _ z)]
theorem idx_nx (s : List Str) (a : Str) : (nxS s a).idxOf a = s.idxOf a ∨ freeB a = false := by
  unfold nxS
  split
  · rename_i h; exact .inl (idx_app a s h.2)
  · exact .inl rfl
theorem idx_eq (a b : Str) : ∀ s t : List Str, s.length = t.length → s.Nodup → t.Nodup → (s.idxOf a = t.idxOf b ↔ ∀ p ∈ s.zip t, (p.1 = a ↔ p.2 = b))
  | [], [], _, _, _ => by simp
  | [], _ :: _, h, _, _ => by simp at h
  | _ :: _, [], h, _, _ => by simp at h
  | x :: s, y :: t, h, hs, ht => by
    rw [List.nodup_cons] at hs ht
    have ih := idx_eq a b s t (by simpa using h) hs.2 ht.2
    rw [List.idxOf_cons, List.idxOf_cons, List.zip_cons_cons]
    by_cases e1 : x = a
    · have e1' : (x == a) = true := by simpa using e1
      by_cases e2 : y = b
      · have e2' : (y == b) = true := by simpa using e2
        rw [e1', e2']
        simp only [cond_true, true_iff]
        intro p hp
        rcases List.mem_cons.mp hp with z | z
        · rw [z]; exact ⟨fun _ => e2, fun _ => e1⟩
        · have := List.of_mem_zip (a := p.1) (b := p.2) z
          exact ⟨fun w => (hs.1 (by rw [e1, ← w]; exact this.1)).elim, fun w => (ht.1 (by rw [e2, ← w]; exact this.2)).elim⟩
      · have e2' : (y == b) = false := by simpa using e2
        rw [e1', e2']
        simp only [cond_true, cond_false]
        constructor
        · intro z; omega
        · intro z; exact (e2 ((z (x, y) (List.mem_cons_self ..)).mp e1)).elim
    · have e1' : (x == a) = false := by simpa using e1
      by_cases e2 : y = b
      · have e2' : (y == b) = true := by simpa using e2
        rw [e1', e2']
        simp only [cond_true, cond_false]
        constructor
        · intro z; omega
        · intro z; exact (e1 ((z (x, y) (List.mem_cons_self ..)).mpr e2)).elim
      · have e2' : (y == b) = false := by simpa using e2
        rw [e1', e2']
        simp only [cond_false, Nat.add_right_cancel_iff]
        rw [ih]
        constructor
        · intro z p hp
          rcases List.mem_cons.mp hp with w | w
          · rw [w]; exact ⟨fun q => (e1 q).elim, fun q => (e2 q).elim⟩
          · exact z p w
        · intro z p hp
          exact z p (List.mem_cons_of_mem _ hp)
def tieP (p : Str × Str) : Prop := freeB p.1 = true ∧ freeB p.2 = true
def Qf (s t u v : List Str) : Prop := (∀ p ∈ u.zip v, tieP p ∨ p.1 = p.2) ∧ ∀ p ∈ s.zip t ++ u.zip v, ∀ q ∈ u.zip v, tieP p → tieP q → (p.1 = q.1 ↔ p.2 = q.2)
theorem flat_iff : ∀ (u v s t : List Str), u.length = v.length → s.length = t.length → s.Nodup → t.Nodup → (∀ x ∈ s, Fn x) → (∀ x ∈ t, Fn x) → (mwF s u = mwF t v ↔ Qf s t u v)
  | [], [], s, t, _, _, _, _, _, _ => by simp [mwF, Qf]
  | [], _ :: _, s, t, h, _, _, _, _, _ => by simp at h
  | _ :: _, [], s, t, h, _, _, _, _, _ => by simp at h
  | a :: u, b :: v, s, t, h, hl, hs, ht, fs, ft => by
    have h : u.length = v.length := by simpa using h
    rw [mwF, mwF, List.cons.injEq]
    by_cases ha : freeB a = true
    · by_cases hb : freeB b = true
      · have eI : itS s a = itS t b ↔ ∀ p ∈ s.zip t, (p.1 = a ↔ p.2 = b) := by
          rw [← idx_eq a b s t hl hs ht]
          unfold itS
          rw [if_pos ha, if_pos hb]
          have i1 : (nxS s a).idxOf a = s.idxOf a := (idx_nx s a).resolve_right (by rw [ha]; simp)
          have i2 : (nxS t b).idxOf b = t.idxOf b := (idx_nx t b).resolve_right (by rw [hb]; simp)
          rw [i1, i2]
          constructor
          · intro z; injection z with z; omega
          · intro z; rw [z]
        rw [eI]
        -- the next seen lists
        have key : (∀ p ∈ s.zip t, (p.1 = a ↔ p.2 = b)) → (nxS s a).length = (nxS t b).length ∧ ∀ p, p ∈ (nxS s a).zip (nxS t b) ↔ (p ∈ s.zip t ∨ p = (a, b)) := by
          intro z
          have hidx := (idx_eq a b s t hl hs ht).mpr z
          by_cases ma : a ∈ s
          · have mb : b ∈ t := by
              have : t.idxOf b < t.length := by rw [← hidx, ← hl]; exact List.idxOf_lt_length_iff.mpr ma
              exact List.idxOf_lt_length_iff.mp this
            have ea : nxS s a = s := by unfold nxS; rw [if_neg fun w => w.2 ma]
            have eb : nxS t b = t := by unfold nxS; rw [if_neg fun w => w.2 mb]
            rw [ea, eb]
            refine ⟨hl, fun p => ⟨.inl, fun w => ?_⟩⟩
            rcases w with w | w
            · exact w
            · have l1 := List.idxOf_lt_length_iff.mpr ma
              have l2 := List.idxOf_lt_length_iff.mpr mb
              have l3 : s.idxOf a < (s.zip t).length := by rw [List.length_zip]; omega
              have : (s.zip t)[s.idxOf a] = (a, b) := by
                rw [List.getElem_zip, List.getElem_idxOf l1]
                have : t[s.idxOf a]'(by omega) = b := by
                  have := List.getElem_idxOf l2
                  simpa only [hidx] using this
                rw [this]
              rw [w, ← this]
              exact List.getElem_mem _
          · have mb : b ∉ t := fun w => by
              have : s.idxOf a < s.length := by rw [hidx, hl]; exact List.idxOf_lt_length_iff.mpr w
              exact ma (List.idxOf_lt_length_iff.mp this)
            have ea : nxS s a = s ++ [a] := by unfold nxS; rw [if_pos ⟨ha, ma⟩]
            have eb : nxS t b = t ++ [b] := by unfold nxS; rw [if_pos ⟨hb, mb⟩]
            rw [ea, eb, List.zip_append hl]
            exact ⟨by simp [hl], fun p => by simp⟩
        have nn : ∀ (s : List Str) (a : Str), freeB a = true → s.Nodup → (∀ x ∈ s, Fn x) → (nxS s a).Nodup ∧ ∀ x ∈ nxS s a, Fn x := by
          intro s a ha hs fs
          unfold nxS
          split
          · rename_i w
            refine ⟨List.nodup_append.mpr ⟨hs, by simp, fun x hx y hy e => w.2 (by rw [← List.mem_singleton.mp hy, ← e]; exact hx)⟩, fun x hx => ?_⟩
            rcases List.mem_append.mp hx with y | y
            · exact fs x y
            · rw [List.mem_singleton.mp y]; exact ha
          · exact ⟨hs, fs⟩
        have na := nn s a ha hs fs
        have nb := nn t b hb ht ft
        constructor
        · rintro ⟨z1, z2⟩
          obtain ⟨k1, k2⟩ := key z1
          have z2 := (flat_iff u v _ _ h k1 na.1 nb.1 na.2 nb.2).mp z2
          refine ⟨fun p hp => ?_, fun p hp q hq tp tq => ?_⟩
          · rw [List.zip_cons_cons] at hp
            rcases List.mem_cons.mp hp with w | w
            · rw [w]; exact .inl ⟨ha, hb⟩
            · exact z2.1 p w
          · rw [List.zip_cons_cons] at hp hq
            have hp : p ∈ s.zip t ∨ p = (a, b) ∨ p ∈ u.zip v := by simpa using hp
            rcases List.mem_cons.mp hq with w | w
            · rw [w]
              rcases hp with hp | hp | hp
              · exact z1 p hp
              · rw [hp]; simp
              · have := z2.2 (a, b) (List.mem_append_left _ ((k2 _).mpr (.inr rfl))) p hp ⟨ha, hb⟩ tp
                exact ⟨fun e => (this.mp e.symm).symm, fun e => (this.mpr e.symm).symm⟩
            · rcases hp with hp | hp | hp
              · exact z2.2 p (List.mem_append_left _ ((k2 _).mpr (.inl hp))) q w tp tq
              · exact z2.2 p (List.mem_append_left _ ((k2 _).mpr (.inr hp))) q w tp tq
              · exact z2.2 p (List.mem_append_right _ hp) q w tp tq
        · rintro ⟨z1, z2⟩
          rw [List.zip_cons_cons] at z1 z2
          have y1 : ∀ p ∈ s.zip t, (p.1 = a ↔ p.2 = b) := fun p hp => z2 p (List.mem_append_left _ hp) (a, b) (List.mem_cons_self ..) ⟨fs _ (List.of_mem_zip (a := p.1) (b := p.2) hp).1, ft _ (List.of_mem_zip (a := p.1) (b := p.2) hp).2⟩ ⟨ha, hb⟩
          obtain ⟨k1, k2⟩ := key y1
          refine ⟨y1, (flat_iff u v _ _ h k1 na.1 nb.1 na.2 nb.2).mpr ⟨fun p hp => z1 p (List.mem_cons_of_mem _ hp), fun p hp q hq tp tq => ?_⟩⟩
          refine z2 p ?_ q (List.mem_cons_of_mem _ hq) tp tq
          rcases List.mem_append.mp hp with w | w
          · rcases (k2 p).mp w with w | w
            · exact List.mem_append_left _ w
            · rw [w]; exact List.mem_append_right _ (List.mem_cons_self ..)
          · exact List.mem_append_right _ (List.mem_cons_of_mem _ w)
      · constructor
        · rintro ⟨z, _⟩
          unfold itS at z
          rw [if_pos ha, if_neg hb] at z
          cases z
        · rintro ⟨z, _⟩
          rcases z (a, b) (by rw [List.zip_cons_cons]; exact List.mem_cons_self ..) with w | w
          · exact (hb w.2).elim
          · have w : a = b := w
            rw [w] at ha
            exact (hb ha).elim
    · by_cases hb : freeB b = true
      · constructor
        · rintro ⟨z, _⟩
          unfold itS at z
          rw [if_neg ha, if_pos hb] at z
          cases z
        · rintro ⟨z, _⟩
          rcases z (a, b) (by rw [List.zip_cons_cons]; exact List.mem_cons_self ..) with w | w
          · exact (ha w.1).elim
          · have w : a = b := w
            rw [w] at ha
            exact (ha hb).elim
      · have ea : nxS s a = s := by unfold nxS; rw [if_neg fun w => ha w.1]
        have eb : nxS t b = t := by unfold nxS; rw [if_neg fun w => hb w.1]
        have ei : itS s a = itS t b ↔ a = b := by
          unfold itS
          rw [if_neg ha, if_neg hb]
          exact ⟨fun z => by injection z, fun z => by rw [z]⟩
        rw [ea, eb, ei, flat_iff u v s t h hl hs ht fs ft]
        have nt : ¬ tieP (a, b) := fun w => ha w.1
        constructor
        · rintro ⟨z1, z2, z3⟩
          refine ⟨fun p hp => ?_, fun p hp q hq tp tq => ?_⟩
          · rw [List.zip_cons_cons] at hp
            rcases List.mem_cons.mp hp with w | w
            · rw [w]; exact .inr z1
            · exact z2 p w
          · rw [List.zip_cons_cons] at hp hq
            have hp : p ∈ s.zip t ∨ p = (a, b) ∨ p ∈ u.zip v := by simpa using hp
            rcases List.mem_cons.mp hq with w | w
            · exact (nt (w ▸ tq)).elim
            · rcases hp with hp | hp | hp
              · exact z3 p (List.mem_append_left _ hp) q w tp tq
              · exact (nt (hp ▸ tp)).elim
              · exact z3 p (List.mem_append_right _ hp) q w tp tq
        · rintro ⟨z1, z2⟩
          rw [List.zip_cons_cons] at z1 z2
          refine ⟨?_, fun p hp => z1 p (List.mem_cons_of_mem _ hp), fun p hp q hq tp tq => z2 p ?_ q (List.mem_cons_of_mem _ hq) tp tq⟩
          · rcases z1 (a, b) (List.mem_cons_self ..) with w | w
            · exact (nt w).elim
            · exact w
          · rcases List.mem_append.mp hp with w | w
            · exact List.mem_append_left _ w
            · exact List.mem_append_right _ (List.mem_cons_of_mem _ w)
theorem mark_tw (one other : List (List Str)) : markF one = markF other ↔ Tw one other := by
  rw [markF_eq, markF_eq]
  by_cases hs : one.map List.length = other.map List.length
  · have hfl : one.flatten.length = other.flatten.length := by rw [List.length_flatten, List.length_flatten, hs]
    rw [flat_mr one other [] [] hs, flat_iff _ _ [] [] hfl rfl List.nodup_nil List.nodup_nil (fun _ z => by cases z) fun _ z => by cases z]
    unfold Tw Qf
    rw [flat_prs one other hs]
    simp only [List.zip_nil_left, List.nil_append]
    exact ⟨fun z => ⟨hs, z.1, fun p hp q hq a b c d => z.2 p hp q hq ⟨a, b⟩ ⟨c, d⟩⟩, fun z => ⟨z.2.1, fun p hp q hq a b => z.2.2 p hp q hq a.1 a.2 b.1 b.2⟩⟩
  · constructor
    · intro z
      have := congrArg (List.map List.length) z
      rw [mrF_len, mrF_len] at this
      exact (hs this).elim
    · intro z; exact (hs z.1).elim
theorem gd_fz : ∀ (n : Nat) (d : D), Gd n d → d.isFz = true
  | 0, d, h => h.elim
  | n + 1, d, h => by
    rcases h with ⟨k, ch, hk, rfl, _, hc⟩ | rfl | ⟨i, rfl⟩ | ⟨x, rfl⟩
    · rw [D.isFz, isFzL_all, List.all_eq_true.mpr fun c hc' => gd_fz n c (hc c hc')]; rfl
    · rfl
    · rfl
    · rfl
theorem zipL_self : ∀ ch : List D, zipL ch ch = ch.map fun c => D.n false .tup [c, c]
  | [] => rfl
  | c :: ch => by rw [zipL, zipL_self ch]; rfl
theorem sem_law_same : ∀ m, Sem (S_law_same (m + 1)) (t_law_same (S_law_same m)) 4 := by
  rintro m _ Q0 E0 ⟨d, rfl, hg, hq⟩
  have hz := gd_fz _ _ hg
  simp only [initE, finL, hz, if_true, List.map_cons, List.map_nil, List.length_cons, List.length_nil, Nat.zero_add, Nat.reduceAdd, Nat.reduceSub, List.replicate_succ, List.replicate_zero, List.cons_append, List.nil_append, Option.some.injEq, exists_eq_left']
  unfold t_law_same
  have items : ∀ (ch : List D), ch.length ≤ 100000 → (∀ c ∈ ch, Gd m c) → ∀ (K : List D → DL.Env → Prop), K ((ch.map fun _ => true).map en) [.v d, .v d, .un, .un] →
      dLcL (dGTup 2 (dGCons (dName 2) (dGCons (dName 3) dGNil))) dTrue (dCall [false, false] (S_law_same m) (dCons (dVar 2) (dCons (dVar 3) dNil))) [2, 3] K (zipL ch ch) [.v d, .v d, .un, .un] [] := by
    intro ch hl hc K hK
    rw [zipL_self]
    refine lc_enc (fun _ => true) ?_ hl hK
    intro c hcc acc k k' hn hk
    have hzc := gd_fz _ _ (hc c hcc)
    have fzc : c.fz = c := fz_of hzc
    have ft : (D.n false .tup [c, c]).fz = D.n false .tup [c, c] := by simp [D.fz, fzL, fzc]
    refine w_gtT ft rfl rfl ?_
    walk_at "dg"
    cases m with
    | zero => exact (hc c hcc).elim
    | succ m =>
      refine ⟨c, rfl, hc c hcc, ?_⟩
      walk_at "dg"
      exact hk
  have alls : ∀ ch : List D, ((ch.map fun _ => true).all id) = true := fun ch => by simp
  rcases hg with ⟨k, ch, hk, rfl, hl, hc⟩ | rfl | ⟨i, rfl⟩ | ⟨x, rfl⟩
  · rcases hk with rfl | rfl
    · walk_at "dg"
      refine w_if_f (by simp) ?_
      walk_at "dg"
      refine w_zAK (by walk_at "tk") (.inl ⟨rfl, rfl⟩) ?_
      walk_at "dg"
      refine items ch hl hc _ ?_
      walk_at "dg"
      rw [alls]
      exact hq
    · walk_at "dg"
      refine w_if_f (by simp) ?_
      walk_at "dg"
      refine w_zAK (by walk_at "tk") (.inr ⟨rfl, rfl⟩) ?_
      walk_at "dg"
      refine items ch hl hc _ ?_
      walk_at "dg"
      rw [alls]
      exact hq
  · walk_at "dg"
    exact hq
  · walk_at "dg"
    refine w_if_f rfl ?_
    walk_at "dg"
    have e : (D.bl (decide (i = i))) = en true := by rw [decide_eq_true rfl]; rfl
    rw [← e] at hq
    exact hq
  · walk_at "dg"
    refine w_if_f rfl ?_
    walk_at "dg"
    rw [dc_t.mpr rfl]
    exact hq
local macro_rules | `(tactic| walk_at "fz") => `(tactic| first | exact fz_dEg _)
local macro_rules | `(tactic| walk_at "fr") => `(tactic| first | exact hnd_fz _)
open Enc (en)
theorem tw_put {fo : List (Str × Str)} {ts : List (Str × Str)} {x y : Str} (h : ∀ a b, aget fo a = some b ↔ (a, b) ∈ ts) (e : (aget fo x).getD y = y) : ∀ a b, aget (aput fo x y) a = some b ↔ (a, b) ∈ ts ++ [(x, y)] := by
  intro a b
  rw [aget_put, List.mem_append, List.mem_singleton, Prod.mk.injEq]
  by_cases z : a = x
  · subst z
    rw [if_pos rfl, Option.some.injEq]
    constructor
    · intro z; exact .inr ⟨rfl, z.symm⟩
    · rintro (z | z)
      · rw [(h a b).mpr z] at e; exact e.symm
      · exact z.2.symm
  · rw [if_neg z, h]
    exact ⟨.inl, fun w => w.elim id fun w => absurd w.1 z⟩
--@@
open Enc (en)
local macro_rules | `(tactic| walk_at "d0") => `(tactic| first | (with_reducible_and_instances apply w_max2) | (with_reducible_and_instances apply w_min2))
theorem lx_of {i j i' j' : Nat} (h : ((i : Int), (j : Int)) = ((i' : Int), (j' : Int))) : i = i' ∧ j = j' := by
  simp only [Prod.mk.injEq] at h
  omega
section
variable {z : Nat → List (Str × Str)} {ln : Nat → Prop} {s0 e k s : Nat} {p : Str × Str}
theorem wk_succ (hp : (z e)[k]? = some p) (hs : s ≤ e) (q : Str × Str) : Wk z s e (k + 1) q ↔ Wk z s e k q ∨ q = p := by
  unfold Wk
  constructor
  · rintro ⟨i, j, h1, h2, h3⟩
    by_cases c : i = e ∧ j = k
    · obtain ⟨rfl, rfl⟩ := c
      rw [hp] at h3
      exact .inr (Option.some.inj h3).symm
    · exact .inl ⟨i, j, h1, by omega, h3⟩
  · rintro (⟨i, j, h1, h2, h3⟩ | rfl)
    · exact ⟨i, j, h1, by omega, h3⟩
    · exact ⟨e, k, hs, by omega, hp⟩
theorem wk_end (q : Str × Str) : Wk z s (e + 1) 0 q ↔ Wk z s e (z e).length q := by
  unfold Wk
  constructor
  · rintro ⟨i, j, h1, h2, h3⟩
    refine ⟨i, j, h1, ?_, h3⟩
    by_cases c : i = e
    · subst c
      have := (List.getElem?_eq_some_iff.mp h3).1
      omega
    · omega
  · rintro ⟨i, j, h1, h2, h3⟩
    exact ⟨i, j, h1, by omega, h3⟩
theorem cn_congr {W W' : Str × Str → Prop} (h : ∀ q, W q ↔ W' q) : Cn W ↔ Cn W' := by
  have : W = W' := funext fun q => propext (h q)
  rw [this]
/-- one pair more -/
theorem cn_add {W W' : Str × Str → Prop} (h : ∀ q, W' q ↔ W q ∨ q = p) (hC : Cn W) : Cn W' ↔ ((freeB p.1 = true ∧ freeB p.2 = true) ∨ p.1 = p.2) ∧ ((freeB p.1 = true ∧ freeB p.2 = true) → ∀ q, W q → (freeB q.1 = true ∧ freeB q.2 = true) → (p.1 = q.1 ↔ p.2 = q.2)) := by
  constructor
  · rintro ⟨h1, h2⟩
    exact ⟨h1 p ((h p).mpr (.inr rfl)), fun t q hq tq => h2 p q ((h p).mpr (.inr rfl)) ((h q).mpr (.inl hq)) t tq⟩
  · rintro ⟨h1, h2⟩
    refine ⟨fun q hq => ?_, fun x y hx hy tx ty => ?_⟩
    · rcases (h q).mp hq with w | rfl
      · exact hC.1 q w
      · exact h1
    · rcases (h x).mp hx with wx | rfl <;> rcases (h y).mp hy with wy | rfl
      · exact hC.2 x y wx wy tx ty
      · have := h2 ty x wx tx
        exact ⟨fun u => (this.mp u.symm).symm, fun u => (this.mpr u.symm).symm⟩
      · exact h2 tx y wy ty
      · exact ⟨fun _ => rfl, fun _ => rfl⟩
theorem cn_less {W W' : Str × Str → Prop} (h : ∀ q, W q → W' q) (hC : Cn W') : Cn W := ⟨fun q hq => hC.1 q (h q hq), fun p q hp hq => hC.2 p q (h p hp) (h q hq)⟩
theorem wk_mono {k' : Nat} (h : k ≤ k') {q : Str × Str} : Wk z s e k q → Wk z s e k' q := fun ⟨i, j, h1, h2, h3⟩ => ⟨i, j, h1, by omega, h3⟩
theorem okw_mono {e' : Nat} (h : e ≤ e') : OkW z ln s e' → OkW z ln s e := fun ⟨h1, h2⟩ => ⟨fun i a b => h1 i a (by omega), cn_less (fun q ⟨i, j, a, b, c⟩ => ⟨i, j, a, by omega, c⟩) h2⟩
theorem okw_nil (h : e ≤ s) : OkW z ln s e := ⟨fun i a b => by omega, fun q ⟨i, j, a, b, c⟩ => by omega, fun p q ⟨i, j, a, b, c⟩ => by omega⟩
theorem okw_end (hs : s ≤ e) : OkW z ln s (e + 1) ↔ OkW z ln s e ∧ ln e ∧ Cn (Wk z s e (z e).length) := by
  constructor
  · intro h
    exact ⟨okw_mono (Nat.le_succ _) h, h.1 e hs (Nat.lt_succ_self _), (cn_congr wk_end).mp h.2⟩
  · rintro ⟨h1, h2, h3⟩
    refine ⟨fun i a b => ?_, (cn_congr wk_end).mpr h3⟩
    by_cases c : i = e
    · subst c; exact h2
    · exact h1.1 i a (by omega)
/-- names that came: the pair p at (e, k) -/
theorem ls_tie {L B : List (Str × (Int × Int))} (hp : (z e)[k]? = some p) (ht : freeB p.1 = true ∧ freeB p.2 = true) (hL : LI z s0 (·.1) e k L) (hB : LI z s0 (·.2) e k B) {here there x : Int × Int} (eh : (aget L p.1).getD (-1, 0) = here) (et : (aget B p.2).getD (-1, 0) = there)
    (hx : (x = here ∨ x = there) ∧ (here.1 ≤ x.1 ∧ (here.1 = x.1 → here.2 ≤ x.2)) ∧ there.1 ≤ x.1 ∧ (there.1 = x.1 → there.2 ≤ x.2)) (hs : s0 ≤ s) (hse : s ≤ e) (hC : Cn (Wk z s e k)) :
    Cn (Wk z s e (k + 1)) ↔ (here = there ∨ x.1 < (s : Int)) := by
  rw [cn_add (wk_succ hp hse) hC]
  have key : (((freeB p.1 = true ∧ freeB p.2 = true) ∨ p.1 = p.2) ∧ ((freeB p.1 = true ∧ freeB p.2 = true) → ∀ q, Wk z s e k q → (freeB q.1 = true ∧ freeB q.2 = true) → (p.1 = q.1 ↔ p.2 = q.2))) ↔ ∀ q, Wk z s e k q → (freeB q.1 = true ∧ freeB q.2 = true) → (p.1 = q.1 ↔ p.2 = q.2) := ⟨fun h => h.2 ht, fun h => ⟨.inl ht, fun _ => h⟩⟩
  rw [key]
  have bef : ∀ {i j : Nat}, s ≤ i → (i < e ∨ (i = e ∧ j < k)) → Bef s0 e k i j := fun h1 h2 => ⟨by omega, h2⟩
  -- what is known of each name
  have fL : ∀ q, Wk z s e k q → (freeB q.1 = true ∧ freeB q.2 = true) → q.1 = p.1 → (s : Int) ≤ here.1 := by
    rintro q ⟨i, j, h1, h2, h3⟩ tq eq
    cases ea : aget L p.1 with
    | none => exact absurd eq ((hL p.1).1 ea i j q (bef h1 h2) h3 tq)
    | some v =>
      obtain ⟨i', j', q', rfl, b1, b2, b3, b4, b5⟩ := (hL p.1).2 v ea
      have := b5 i j q (bef h1 h2) h3 tq eq
      rw [ea] at eh
      rw [← eh]
      show (s : Int) ≤ (i' : Int)
      unfold le2 at this
      omega
  have fB : ∀ q, Wk z s e k q → (freeB q.1 = true ∧ freeB q.2 = true) → q.2 = p.2 → (s : Int) ≤ there.1 := by
    rintro q ⟨i, j, h1, h2, h3⟩ tq eq
    cases ea : aget B p.2 with
    | none => exact absurd eq ((hB p.2).1 ea i j q (bef h1 h2) h3 tq)
    | some v =>
      obtain ⟨i', j', q', rfl, b1, b2, b3, b4, b5⟩ := (hB p.2).2 v ea
      have := b5 i j q (bef h1 h2) h3 tq eq
      rw [ea] at et
      rw [← et]
      show (s : Int) ≤ (i' : Int)
      unfold le2 at this
      omega
  have gL : (s : Int) ≤ here.1 → ∃ (i j : Nat) (q : Str × Str), here = ((i : Int), (j : Int)) ∧ s ≤ i ∧ (i < e ∨ (i = e ∧ j < k)) ∧ (z i)[j]? = some q ∧ (freeB q.1 = true ∧ freeB q.2 = true) ∧ q.1 = p.1 ∧ ∀ i' j' q', Bef s0 e k i' j' → (z i')[j']? = some q' → (freeB q'.1 = true ∧ freeB q'.2 = true) → q'.1 = p.1 → le2 i' j' i j := by
    intro h
    cases ea : aget L p.1 with
    | none => rw [ea] at eh; rw [← eh] at h; exact absurd h (by show ¬ (s : Int) ≤ -1; omega)
    | some v =>
      obtain ⟨i', j', q', rfl, b1, b2, b3, b4, b5⟩ := (hL p.1).2 v ea
      rw [ea] at eh
      rw [← eh] at h
      have h : (s : Int) ≤ (i' : Int) := h
      exact ⟨i', j', q', eh.symm, by omega, b1.2, b2, b3, b4, b5⟩
  have gB : (s : Int) ≤ there.1 → ∃ (i j : Nat) (q : Str × Str), there = ((i : Int), (j : Int)) ∧ s ≤ i ∧ (i < e ∨ (i = e ∧ j < k)) ∧ (z i)[j]? = some q ∧ (freeB q.1 = true ∧ freeB q.2 = true) ∧ q.2 = p.2 ∧ ∀ i' j' q', Bef s0 e k i' j' → (z i')[j']? = some q' → (freeB q'.1 = true ∧ freeB q'.2 = true) → q'.2 = p.2 → le2 i' j' i j := by
    intro h
    cases ea : aget B p.2 with
    | none => rw [ea] at et; rw [← et] at h; exact absurd h (by show ¬ (s : Int) ≤ -1; omega)
    | some v =>
      obtain ⟨i', j', q', rfl, b1, b2, b3, b4, b5⟩ := (hB p.2).2 v ea
      rw [ea] at et
      rw [← et] at h
      have h : (s : Int) ≤ (i' : Int) := h
      exact ⟨i', j', q', et.symm, by omega, b1.2, b2, b3, b4, b5⟩
  constructor
  · intro h
    refine Classical.byContradiction fun c => ?_
    have c1 : here ≠ there := fun w => c (.inl w)
    have c2 : (s : Int) ≤ x.1 := by
      have : ¬ x.1 < (s : Int) := fun w => c (.inr w)
      omega
    rcases hx.1 with hxe | hxe
    · rw [hxe] at c2
      obtain ⟨i, j, q, e1, e2, e3, e4, e5, e6, e7⟩ := gL c2
      have hq : p.2 = q.2 := (h q ⟨i, j, e2, e3, e4⟩ e5).mp e6.symm
      have := fB q ⟨i, j, e2, e3, e4⟩ e5 hq.symm
      obtain ⟨i', j', q', f1, f2, f3, f4, f5, f6, f7⟩ := gB this
      have l := f7 i j q (bef e2 e3) e4 e5 hq.symm
      have l2 := hx.2.2
      rw [hxe, e1, f1] at l2
      refine c1 ?_
      rw [e1, f1]
      unfold le2 at l
      simp only at l2
      rw [show i = i' by omega, show j = j' by omega]
    · rw [hxe] at c2
      obtain ⟨i, j, q, e1, e2, e3, e4, e5, e6, e7⟩ := gB c2
      have hq : p.1 = q.1 := (h q ⟨i, j, e2, e3, e4⟩ e5).mpr e6.symm
      have := fL q ⟨i, j, e2, e3, e4⟩ e5 hq.symm
      obtain ⟨i', j', q', f1, f2, f3, f4, f5, f6, f7⟩ := gL this
      have l := f7 i j q (bef e2 e3) e4 e5 hq.symm
      have l2 := hx.2.1
      rw [hxe, e1, f1] at l2
      refine c1 ?_
      rw [e1, f1]
      unfold le2 at l
      simp only at l2
      rw [show i = i' by omega, show j = j' by omega]
  · intro h q hq tq
    by_cases cs : (s : Int) ≤ here.1
    · rcases h with h | h
      · obtain ⟨i, j, w, e1, e2, e3, e4, e5, e6, e7⟩ := gL cs
        obtain ⟨i', j', w', f1, f2, f3, f4, f5, f6, f7⟩ := gB (h ▸ cs)
        rw [e1, f1] at h
        obtain ⟨rfl, rfl⟩ := lx_of h
        rw [e4] at f4
        obtain rfl := Option.some.inj f4
        have := hC.2 w q ⟨i, j, e2, e3, e4⟩ hq e5 tq
        rw [e6, f6] at this
        exact this
      · have := hx.2.1.1
        omega
    · have n1 : p.1 ≠ q.1 := fun w => cs (fL q hq tq w.symm)
      have n2 : p.2 ≠ q.2 := fun w => by
        have := fB q hq tq w.symm
        rcases h with h | h
        · rw [h] at cs; exact cs this
        · have := hx.2.2.1
          omega
      exact ⟨fun w => absurd w n1, fun w => absurd w n2⟩
/-- .. and where it came last from then on -/
theorem li_put {f : Str × Str → Str} {L : List (Str × (Int × Int))} (hp : (z e)[k]? = some p) (ht : freeB p.1 = true ∧ freeB p.2 = true) (h0 : s0 ≤ e) (hL : LI z s0 f e k L) : LI z s0 f e (k + 1) (aput L (f p) ((e : Int), (k : Int))) := by
  have up : ∀ {i j : Nat}, Bef s0 e (k + 1) i j → Bef s0 e k i j ∨ (i = e ∧ j = k) := fun {i j} ⟨h1, h2⟩ => by
    by_cases c : i = e ∧ j = k
    · exact .inr c
    · exact .inl ⟨h1, by omega⟩
  have dn : ∀ {i j : Nat}, Bef s0 e k i j → Bef s0 e (k + 1) i j := fun {i j} ⟨h1, h2⟩ => ⟨h1, by omega⟩
  intro a
  rw [aget_put]
  by_cases c : a = f p
  · rw [if_pos c]
    refine ⟨fun w => (by cases w), fun v hv => ?_⟩
    obtain rfl := Option.some.inj hv
    refine ⟨e, k, p, rfl, ⟨h0, by omega⟩, hp, ht, c.symm, fun i' j' q' b _ _ _ => ?_⟩
    unfold le2
    have := b.2
    omega
  · rw [if_neg c]
    refine ⟨fun w i j q b h3 tq => ?_, fun v hv => ?_⟩
    · rcases up b with b | ⟨rfl, rfl⟩
      · exact (hL a).1 w i j q b h3 tq
      · rw [hp] at h3
        obtain rfl := Option.some.inj h3
        exact fun u => c u.symm
    · obtain ⟨i, j, q, e1, b, e2, e3, e4, e5⟩ := (hL a).2 v hv
      refine ⟨i, j, q, e1, dn b, e2, e3, e4, fun i' j' q' b' h3 tq eq => ?_⟩
      rcases up b' with b' | ⟨rfl, rfl⟩
      · exact e5 i' j' q' b' h3 tq eq
      · rw [hp] at h3
        obtain rfl := Option.some.inj h3
        exact absurd eq.symm c
/-- a pair that is none of names -/
theorem li_skip {f : Str × Str → Str} {L : List (Str × (Int × Int))} (hp : (z e)[k]? = some p) (ht : ¬ (freeB p.1 = true ∧ freeB p.2 = true)) (hL : LI z s0 f e k L) : LI z s0 f e (k + 1) L := by
  have up : ∀ {i j : Nat}, Bef s0 e (k + 1) i j → Bef s0 e k i j ∨ (i = e ∧ j = k) := fun {i j} ⟨h1, h2⟩ => by
    by_cases c : i = e ∧ j = k
    · exact .inr c
    · exact .inl ⟨h1, by omega⟩
  intro a
  refine ⟨fun w i j q b h3 tq => ?_, fun v hv => ?_⟩
  · rcases up b with b | ⟨rfl, rfl⟩
    · exact (hL a).1 w i j q b h3 tq
    · rw [hp] at h3
      obtain rfl := Option.some.inj h3
      exact absurd tq ht
  · obtain ⟨i, j, q, e1, b, e2, e3, e4, e5⟩ := (hL a).2 v hv
    refine ⟨i, j, q, e1, ⟨b.1, by have := b.2; omega⟩, e2, e3, e4, fun i' j' q' b' h3 tq eq => ?_⟩
    rcases up b' with b' | ⟨rfl, rfl⟩
    · exact e5 i' j' q' b' h3 tq eq
    · rw [hp] at h3
      obtain rfl := Option.some.inj h3
      exact absurd tq ht
theorem ls_skip (hp : (z e)[k]? = some p) (ht : ¬ (freeB p.1 = true ∧ freeB p.2 = true)) (hse : s ≤ e) (hC : Cn (Wk z s e k)) : Cn (Wk z s e (k + 1)) ↔ p.1 = p.2 := by
  rw [cn_add (wk_succ hp hse) hC]
  exact ⟨fun h => h.1.resolve_left ht, fun h => ⟨.inr h, fun w => absurd w ht⟩⟩
theorem li_end {f : Str × Str → Str} {L : List (Str × (Int × Int))} (hL : LI z s0 f e (z e).length L) : LI z s0 f (e + 1) 0 L := by
  have eb : ∀ {i j : Nat} {q : Str × Str}, (z i)[j]? = some q → (Bef s0 (e + 1) 0 i j ↔ Bef s0 e (z e).length i j) := fun {i j q} h => by
    unfold Bef
    constructor
    · rintro ⟨h1, h2⟩
      refine ⟨h1, ?_⟩
      by_cases c : i = e
      · subst c
        have := (List.getElem?_eq_some_iff.mp h).1
        omega
      · omega
    · rintro ⟨h1, h2⟩
      exact ⟨h1, by omega⟩
  intro a
  refine ⟨fun w i j q b h3 tq => (hL a).1 w i j q ((eb h3).mp b) h3 tq, fun v hv => ?_⟩
  obtain ⟨i, j, q, e1, b, e2, e3, e4, e5⟩ := (hL a).2 v hv
  exact ⟨i, j, q, e1, (eb e2).mpr b, e2, e3, e4, fun i' j' q' b' h3 => e5 i' j' q' ((eb h3).mp b') h3⟩
end
theorem fz_dEo {κ β : Type} [DecidableEq κ] [Enc κ] [KeyE κ] [Enc β] (kv : List (κ × β)) : (dE true kv).isFz = false := rfl
theorem kn_len (r : List Str) : (kn r).length = r.length := List.length_map _
theorem sem_known : Sem S_known t_known 3 := by
  rintro _ Q0 E0 ⟨rows, rfl, ⟨h1, h2⟩, hq⟩
  walk_at "in"
  unfold t_known
  walk_at "dg"
  refine lc_all (w := fun r : List Str => eo (kn r)) ?_ (by omega) ?_
  · intro r hr acc k k' hn hk
    obtain ⟨hl, hw⟩ := h2 r hr
    walk_at "dg"
    refine lc_enc (fun w => (w, freeB w)) ?_ (by omega) ?_
    · intro w hw' acc2 k2 k2' hn2 hk2
      have := word_len (hw w hw')
      walk_at "dg"
      refine ⟨_, rfl, .inl ⟨w, rfl, by omega, ?_⟩⟩
      walk_at "dg"
      exact hk2
    walk_at "dg"
    exact hk
  walk_at "dg"
  have e : (rows.map fun r => (eo (kn r) : D)) = (knF rows).map eo := by
    unfold knF
    rw [List.map_map]
    rfl
  rw [e]
  exact hq
noncomputable def ezD (x : (Str × Str) × Nat) : D := Enc.en (((x.2 : Nat) : Int), ((x.1.1, freeB x.1.1), (x.1.2, freeB x.1.2)))
theorem ez_items : ∀ (r r' : List Str) (i : Nat), enumL i (zipL ((kn r).map Enc.en) ((kn r').map Enc.en)) = ((r.zip r').zipIdx i).map ezD
  | [], _, _ => by simp [kn, zipL, enumL]
  | _ :: _, [], _ => by simp [kn, zipL, enumL]
  | a :: r, b :: r', i => by
    have ih := ez_items r r' (i + 1)
    unfold kn at ih ⊢
    rw [List.map_cons, List.map_cons, List.map_cons, List.map_cons, zipL, enumL, ih, List.zip_cons_cons, List.zipIdx_cons, List.map_cons]
    rfl
theorem li_bd {z : Nat → List (Str × Str)} {s0 e k : Nat} {f : Str × Str → Str} {L : List (Str × (Int × Int))} (h : LI z s0 f e k L) (a : Str) : -1 ≤ ((aget L a).getD (-1, 0)).1 ∧ ((aget L a).getD (-1, 0)).1 ≤ e := by
  cases ea : aget L a with
  | none => exact ⟨by show (-1 : Int) ≤ -1; omega, by show (-1 : Int) ≤ e; omega⟩
  | some v =>
    obtain ⟨i, j, q, rfl, b, _⟩ := (h a).2 v ea
    have := b.2
    exact ⟨by show (-1 : Int) ≤ (i : Int); omega, by show (i : Int) ≤ e; omega⟩
theorem getD_pr (o : Option (Int × Int)) (i j : Int) : (o.map Enc.en).getD (D.n false .tup [.p (.int i), .p (.int j)]) = (Enc.en (o.getD (i, j)) : D) := getD_en o (i, j)
theorem sem_least_start : Sem S_least_start t_least_start 13 := by
  rintro _ Q0 E0 ⟨z, ln, s0, e, r, r', L, B, rfl, ez, el, hr, hr', he, h0, ⟨hLl, hBl⟩, hL, hB, hq⟩
  have hrl := hr.1
  have hrl' := hr'.1
  walk_at "in"
  simp only [fz_dEo, if_false, Bool.false_eq_true]
  unfold t_least_start
  walk_at "dg"
  rw [ez_items]
  have hzl : (r.zip r').length ≤ 100 := by rw [List.length_zip]; omega
  refine lw_inv2 (fun y : Nat × List (Str × (Int × Int)) × List (Str × (Int × Int)) => [.v (Enc.en (e : Int)), .v (Enc.en (kn r)), .v (Enc.en (kn r')), .w (dE true y.2.1), .w (dE true y.2.2), .v (Enc.en (y.1 : Int)), .un, .un, .un, .un, .un, .un, .un])
    (fun rest y => ∃ done, (r.zip r').zipIdx 0 = done ++ rest ∧ LI z s0 (·.1) e done.length y.2.1 ∧ LI z s0 (·.2) e done.length y.2.2 ∧ (∀ s, s0 ≤ s → s ≤ e → OkW z ln s e → (Cn (Wk z s e done.length) ↔ y.1 ≤ s)) ∧ y.1 ≤ e + 1 ∧ y.2.1.length + rest.length ≤ L.length + 100 ∧ y.2.2.length + rest.length ≤ B.length + 100) (0, L, B) rfl
    ⟨[], rfl, hL, hB, fun s _ _ h => ⟨fun _ => Nat.zero_le _, fun _ => h.2⟩, Nat.zero_le _, by rw [List.length_zipIdx]; dsimp only; omega, by rw [List.length_zipIdx]; dsimp only; omega⟩ ?_ ?_
  · rintro ⟨⟨a, b⟩, i⟩ rest ⟨m, L1, B1⟩ ⟨done, g1, g2, g3, g4, g5, g6, g7⟩ K hK
    rw [List.length_cons] at g6 g7
    dsimp only at g2 g3 g4 g5 g6 g7 ⊢
    have hx : ((r.zip r').zipIdx 0)[done.length]? = some ((a, b), i) := by rw [g1]; simp
    rw [List.getElem?_zipIdx] at hx
    obtain ⟨p, hp, ep⟩ := Option.map_eq_some_iff.mp hx
    simp only [Prod.mk.injEq, Nat.zero_add] at ep
    obtain ⟨rfl, rfl⟩ := ep
    rw [← ez] at hp
    unfold ezD
    have kc : ∀ {s : Nat}, Cn (Wk z s e (done.length + 1)) → Cn (Wk z s e done.length) := fun h => cn_less (fun q => wk_mono (Nat.le_succ _)) h
    have sk1 : ¬ (freeB a = true ∧ freeB b = true) → a = b → ∀ ρ', wipeD ρ' [6, 7, 8, 9, 10, 11, 12] = [.v (Enc.en (e : Int)), .v (Enc.en (kn r)), .v (Enc.en (kn r')), .w (dE true L1), .w (dE true B1), .v (Enc.en (m : Int)), .un, .un, .un, .un, .un, .un, .un] → K ρ' := fun ht hab ρ' hr => by
      refine hK (m, L1, B1) ρ' ⟨done ++ [((a, b), done.length)], by rw [g1, List.append_assoc]; rfl, ?_, ?_, fun s hs hse hok => ?_, g5, by dsimp only; omega, by dsimp only; omega⟩ hr
      · rw [List.length_append]; exact li_skip hp ht g2
      · rw [List.length_append]; exact li_skip hp ht g3
      · rw [List.length_append]
        exact ⟨fun h => (g4 s hs hse hok).mp (kc h), fun h => (ls_skip hp ht hse ((g4 s hs hse hok).mpr h)).mpr hab⟩
    have sk2 : ¬ (freeB a = true ∧ freeB b = true) → a ≠ b → ∀ ρ', wipeD ρ' [6, 7, 8, 9, 10, 11, 12] = [.v (Enc.en (e : Int)), .v (Enc.en (kn r)), .v (Enc.en (kn r')), .w (dE true L1), .w (dE true B1), .v (Enc.en ((e + 1 : Nat) : Int)), .un, .un, .un, .un, .un, .un, .un] → K ρ' := fun ht hab ρ' hr => by
      refine hK (e + 1, L1, B1) ρ' ⟨done ++ [((a, b), done.length)], by rw [g1, List.append_assoc]; rfl, ?_, ?_, fun s hs hse hok => ?_, Nat.le_refl _, by dsimp only; omega, by dsimp only; omega⟩ hr
      · rw [List.length_append]; exact li_skip hp ht g2
      · rw [List.length_append]; exact li_skip hp ht g3
      · rw [List.length_append]
        exact ⟨fun h => absurd ((ls_skip hp ht hse (kc h)).mp h) hab, fun h => by have h : e + 1 ≤ s := h; omega⟩
    walk_at "dg"
    refine w_if (fun c1 => ?_) fun c1 => ?_
    · walk_at "dg"
      refine w_if (fun c2 => ?_) fun c2 => ?_
      · walk_at "dg"
        rw [getD_pr, getD_pr]
        walk_at "dg"
        generalize eh : (aget L1 a).getD (-1, 0) = here
        generalize et : (aget B1 b).getD (-1, 0) = there
        have bh : -1 ≤ here.1 ∧ here.1 ≤ e := by rw [← eh]; exact li_bd g2 a
        have bt : -1 ≤ there.1 ∧ there.1 ≤ e := by rw [← et]; exact li_bd g3 b
        obtain ⟨h1, h2⟩ := here
        obtain ⟨t1, t2⟩ := there
        have el1 := aput_len L1 a (((e : Nat) : Int), ((done.length : Nat) : Int))
        have el2 := aput_len B1 b (((e : Nat) : Int), ((done.length : Nat) : Int))
        have n1 := li_put (f := (·.1)) hp ⟨c1, c2⟩ h0 g2
        have n2 := li_put (f := (·.2)) hp ⟨c1, c2⟩ h0 g3
        refine w_if (fun c3 => ?_) fun c3 => ?_
        · have c3 : (h1, h2) ≠ (t1, t2) := dc_f.mp (by simpa using c3)
          walk_at "dg"
          refine w_maxP fun x hx hx1 hx2 => ?_
          walk_at "dg"
          refine ⟨Enc.en x.1, rfl, Enc.fz _, ?_⟩
          have hb : -1 ≤ x.1 ∧ x.1 ≤ e := by
            rcases hx with rfl | rfl
            · exact bh
            · exact bt
          walk_at "dg"
          refine m_putE (i0 := inferInstance) (b := (((e : Nat) : Int), ((done.length : Nat) : Int))) (by omega) ?_
          walk_at "dg"
          refine m_putE (i0 := inferInstance) (b := (((e : Nat) : Int), ((done.length : Nat) : Int))) (by omega) ?_
          walk_at "dg"
          have em : max (m : Int) (x.1 + 1) = (((max (m : Int) (x.1 + 1)).toNat : Nat) : Int) := by omega
          generalize (max (m : Int) (x.1 + 1)).toNat = m' at em
          refine hK (m', aput L1 a (((e : Nat) : Int), ((done.length : Nat) : Int)), aput B1 b (((e : Nat) : Int), ((done.length : Nat) : Int))) _ ⟨done ++ [((a, b), done.length)], by rw [g1, List.append_assoc]; rfl, ?_, ?_, fun s hs hse hok => ?_, ?_, ?_, ?_⟩ ?_
          · rw [List.length_append]; exact n1
          · rw [List.length_append]; exact n2
          · rw [List.length_append]
            have hx' : (x = (h1, h2) ∨ x = (t1, t2)) ∧ (h1 ≤ x.1 ∧ (h1 = x.1 → h2 ≤ x.2)) ∧ t1 ≤ x.1 ∧ (t1 = x.1 → t2 ≤ x.2) := ⟨hx, hx1, hx2⟩
            constructor
            · intro h
              have w1 := (g4 s hs hse hok).mp (kc h)
              have w2 := ((ls_tie hp ⟨c1, c2⟩ g2 g3 eh et hx' hs hse (kc h)).mp h).resolve_left c3
              show m' ≤ s
              omega
            · intro h
              have h : m' ≤ s := h
              have w1 := (g4 s hs hse hok).mpr (by omega)
              exact (ls_tie hp ⟨c1, c2⟩ g2 g3 eh et hx' hs hse w1).mpr (.inr (by omega))
          · show m' ≤ e + 1
            omega
          · dsimp only; omega
          · dsimp only; omega
          · rw [em]
            walk_at "ne"
        · have c3 : (h1, h2) = (t1, t2) := dc_t.mp (by simpa using c3)
          walk_at "dg"
          refine m_putE (i0 := inferInstance) (b := (((e : Nat) : Int), ((done.length : Nat) : Int))) (by omega) ?_
          walk_at "dg"
          refine m_putE (i0 := inferInstance) (b := (((e : Nat) : Int), ((done.length : Nat) : Int))) (by omega) ?_
          walk_at "dg"
          refine hK (m, aput L1 a (((e : Nat) : Int), ((done.length : Nat) : Int)), aput B1 b (((e : Nat) : Int), ((done.length : Nat) : Int))) _ ⟨done ++ [((a, b), done.length)], by rw [g1, List.append_assoc]; rfl, ?_, ?_, fun s hs hse hok => ?_, g5, ?_, ?_⟩ ?_
          · rw [List.length_append]; exact n1
          · rw [List.length_append]; exact n2
          · rw [List.length_append]
            have hx' : (((h1, h2) : Int × Int) = (h1, h2) ∨ (h1, h2) = (t1, t2)) ∧ (h1 ≤ ((h1, h2) : Int × Int).1 ∧ (h1 = ((h1, h2) : Int × Int).1 → h2 ≤ ((h1, h2) : Int × Int).2)) ∧ t1 ≤ ((h1, h2) : Int × Int).1 ∧ (t1 = ((h1, h2) : Int × Int).1 → t2 ≤ ((h1, h2) : Int × Int).2) := by
              simp only [Prod.mk.injEq] at c3
              refine ⟨.inl rfl, ⟨Int.le_refl _, fun _ => Int.le_refl _⟩, by show t1 ≤ h1; omega, fun _ => by show t2 ≤ h2; omega⟩
            exact ⟨fun h => (g4 s hs hse hok).mp (kc h), fun h => (ls_tie hp ⟨c1, c2⟩ g2 g3 eh et hx' hs hse ((g4 s hs hse hok).mpr h)).mpr (.inl c3)⟩
          · dsimp only; omega
          · dsimp only; omega
          · walk_at "ne"
      · walk_at "dg"
        have ht : ¬ (freeB a = true ∧ freeB b = true) := fun w => by rw [w.2] at c2; cases c2
        refine w_if (fun c3 => ?_) fun c3 => ?_
        · walk_at "dg"
          exact sk2 ht (dc_f.mp (by simpa using c3)) _ (by walk_at "ne")
        · walk_at "dg"
          exact sk1 ht (dc_t.mp (by simpa using c3)) _ (by walk_at "ne")
    · walk_at "dg"
      have ht : ¬ (freeB a = true ∧ freeB b = true) := fun w => by rw [w.1] at c1; cases c1
      refine w_if (fun c3 => ?_) fun c3 => ?_
      · walk_at "dg"
        exact sk2 ht (dc_f.mp (by simpa using c3)) _ (by walk_at "ne")
      · walk_at "dg"
        exact sk1 ht (dc_t.mp (by simpa using c3)) _ (by walk_at "ne")
  · rintro ⟨m, L1, B1⟩ ⟨done, g1, g2, g3, g4, g5, g6, g7⟩
    rw [List.append_nil] at g1
    have hd : done.length = (z e).length := by rw [← g1, ez, List.length_zipIdx]
    rw [hd] at g2 g3 g4
    dsimp only at g2 g3 g4 g5 g6 g7 ⊢
    walk_at "dg"
    rw [kn_len, kn_len]
    refine w_if (fun c => ?_) fun c => ?_
    · walk_at "dg"
      have hn : ¬ ln e := fun w => by
        have := el.mp w
        rw [this] at c
        simp at c
      exact ⟨_, rfl, hq (e + 1) L1 B1 (Nat.le_refl _) (fun s hs hse hok => ⟨fun h => absurd ((okw_end hse).mp h).2.1 hn, fun h => by omega⟩) (li_end g2) (li_end g3) ⟨by simp only [List.length_nil] at g6; omega, by simp only [List.length_nil] at g7; omega⟩⟩
    · walk_at "dg"
      have hn : ln e := el.mpr (by
        have : ((r.length : Nat) : Int) = (r'.length : Nat) := by simpa using c
        omega)
      exact ⟨_, rfl, hq m L1 B1 g5 (fun s hs hse hok => by
        rw [okw_end hse]
        exact ⟨fun h => (g4 s hs hse hok).mp h.2.2, fun h => ⟨hok, hn, (g4 s hs hse hok).mpr h⟩⟩) (li_end g2) (li_end g3) ⟨by simp only [List.length_nil] at g6; omega, by simp only [List.length_nil] at g7; omega⟩⟩
theorem knF_len (rows : Rows) : (knF rows).length = rows.length := List.length_map _
theorem knF_at {rows : Rows} {i : Nat} {r : List Str} (h : rows[i]? = some r) : (knF rows)[i]? = some (kn r) := by
  unfold knF
  rw [List.getElem?_map, h]
  rfl
/-- .. those that end ahead of row e -/
def RunAt (one two : Rows) (far : Int) (e : Nat) (p : Nat × Nat) : Prop := 1 ≤ p.2 ∧ s0F far ≤ p.1 ∧ p.1 + p.2 < e ∧ OkF one two far p.1 (p.1 + p.2) ∧ (p.1 = s0F far ∨ ¬ OkF one two far (p.1 - 1) (p.1 + p.2)) ∧ ¬ OkF one two far p.1 (p.1 + p.2 + 1)
theorem run_step {one two : Rows} {far : Int} {e a b : Nat} (h0 : s0F far ≤ a) (h1 : a ≤ e) (ha : ∀ s, s0F far ≤ s → s ≤ e → (OkF one two far s e ↔ a ≤ s)) (hb : ∀ s, s0F far ≤ s → s ≤ e + 1 → (OkF one two far s (e + 1) ↔ b ≤ s)) (p : Nat × Nat) :
    RunAt one two far (e + 1) p ↔ RunAt one two far e p ∨ (p = (a, e - a) ∧ a < e ∧ a < b) := by
  obtain ⟨s, m⟩ := p
  unfold RunAt
  constructor
  · rintro ⟨q1, q2, q3, q4, q5, q6⟩
    dsimp only at q1 q2 q3 q4 q5 q6
    by_cases c : s + m < e
    · exact .inl ⟨q1, q2, c, q4, q5, q6⟩
    · right
      have ce : s + m = e := by omega
      rw [ce] at q4 q5 q6
      have w1 := (ha s q2 (by omega)).mp q4
      have w2 : s ≤ a := by
        rcases q5 with z | z
        · omega
        · by_cases y : s = s0F far
          · omega
          · have : ¬ a ≤ s - 1 := fun w => z ((ha (s - 1) (by omega) (by omega)).mpr w)
            omega
      have w3 : ¬ b ≤ s := fun w => q6 ((hb s q2 (by omega)).mpr w)
      refine ⟨by rw [Prod.mk.injEq]; omega, by omega, by omega⟩
  · rintro (⟨q1, q2, q3, q4, q5, q6⟩ | ⟨q, q2, q3⟩)
    · exact ⟨q1, q2, by omega, q4, q5, q6⟩
    · rw [Prod.mk.injEq] at q
      obtain ⟨rfl, rfl⟩ := q
      dsimp only
      rw [show s + (e - s) = e by omega]
      refine ⟨by omega, h0, by omega, (ha s h0 h1).mpr (Nat.le_refl _), ?_, fun w => ?_⟩
      · by_cases y : s = s0F far
        · exact .inl y
        · refine .inr fun w => ?_
          have := (ha (s - 1) (by omega) (by omega)).mp w
          omega
      · have := (hb s h0 (by omega)).mp w
        omega
theorem run_end {one two : Rows} {far : Int} {a : Nat} (h0 : s0F far ≤ a) (h1 : a ≤ endF one two far) (ha : ∀ s, s0F far ≤ s → s ≤ endF one two far → (OkF one two far s (endF one two far) ↔ a ≤ s)) (p : Nat × Nat) :
    RunP one two far p ↔ RunAt one two far (endF one two far) p ∨ (p = (a, endF one two far - a) ∧ a < endF one two far) := by
  obtain ⟨s, m⟩ := p
  unfold RunAt RunP
  generalize endF one two far = e at *
  constructor
  · rintro ⟨q1, q2, q3, q4, q5, q6⟩
    dsimp only at q1 q2 q3 q4 q5 q6
    by_cases c : s + m < e
    · exact .inl ⟨q1, q2, c, q4, q5, q6.resolve_left (by omega)⟩
    · right
      have ce : s + m = e := by omega
      rw [ce] at q4 q5
      have w1 := (ha s q2 (by omega)).mp q4
      have w2 : s ≤ a := by
        rcases q5 with z | z
        · omega
        · by_cases y : s = s0F far
          · omega
          · have : ¬ a ≤ s - 1 := fun w => z ((ha (s - 1) (by omega) (by omega)).mpr w)
            omega
      refine ⟨by rw [Prod.mk.injEq]; omega, by omega⟩
  · rintro (⟨q1, q2, q3, q4, q5, q6⟩ | ⟨q, q2⟩)
    · exact ⟨q1, q2, by omega, q4, q5, .inr q6⟩
    · rw [Prod.mk.injEq] at q
      obtain ⟨rfl, rfl⟩ := q
      dsimp only
      rw [show s + (e - s) = e by omega]
      refine ⟨by omega, h0, Nat.le_refl _, (ha s h0 h1).mpr (Nat.le_refl _), ?_, .inl rfl⟩
      by_cases y : s = s0F far
      · exact .inl y
      · refine .inr fun w => ?_
        have := (ha (s - 1) (by omega) (by omega)).mp w
        omega
theorem atI_of {α : Type} {ys : List α} {m : Nat} {j : Int} {a : α} (h : ys[m]? = some a) (e : j = (m : Nat)) : L2.atI ys j = some a := by
  obtain ⟨h1, h2⟩ := List.getElem?_eq_some_iff.mp h
  rw [at_nat e h1, h2]
theorem eo_in (ys : List (Nat × Nat)) (q : Nat × Nat) : (eo ((ys ++ [q]).map inN) : D) = D.n true .lst ((ys.map inN).map Enc.en ++ [Enc.en (inN q)]) := by
  unfold eo
  rw [List.map_append, List.map_append]
  rfl
theorem li_nil {z : Nat → List (Str × Str)} {s0 : Nat} {f : Str × Str → Str} : LI z s0 f s0 0 [] := fun a => ⟨fun _ i j q b => by have := b.1; have := b.2; omega, fun v hv => by cases hv⟩
theorem sem_runs : Sem S_runs t_runs 10 := by
  rintro _ Q0 E0 ⟨one, two, far, rfl, h1, h2, hfar, hq⟩
  have l1 := h1.1
  have l2 := h2.1
  walk_at "in"
  unfold t_runs
  walk_at "dg"
  rw [knF_len, knF_len]
  have e5 : max (0 : Int) (0 - far) = ((s0F far : Nat) : Int) := by unfold s0F; omega
  have e6 : endF one two far = (min (one.length : Int) ((two.length : Int) - far)).toNat := rfl
  rw [e5]
  have ht : min (one.length : Int) ((two.length : Int) - far) ≤ one.length ∧ min (one.length : Int) ((two.length : Int) - far) ≤ two.length - far ∧ -300 ≤ min (one.length : Int) ((two.length : Int) - far) := by omega
  generalize min (one.length : Int) ((two.length : Int) - far) = t at e6 ht
  have hs0 : s0F far ≤ 200 := by unfold s0F; omega
  have hs0' : -far ≤ (s0F far : Int) := by unfold s0F; omega
  walk_at "dg"
  refine lw_inv2 (fun y : Nat × List (Nat × Nat) × List (Str × (Int × Int)) × List (Str × (Int × Int)) => [.v (Enc.en (knF one)), .v (Enc.en (knF two)), .v (Enc.en far), .v (dE true y.2.2.1), .v (dE true y.2.2.2), .v (Enc.en (y.1 : Int)), .v (Enc.en t), .v (eo (y.2.1.map inN)), .un, .un])
    (fun rest y => ∃ done, List.range (t - (s0F far : Int)).toNat = done ++ rest ∧ LI (zz one two far) (s0F far) (·.1) (s0F far + done.length) 0 y.2.2.1 ∧ LI (zz one two far) (s0F far) (·.2) (s0F far + done.length) 0 y.2.2.2 ∧
      (s0F far ≤ y.1 ∧ y.1 ≤ s0F far + done.length) ∧ (∀ s, s0F far ≤ s → s ≤ s0F far + done.length → (OkF one two far s (s0F far + done.length) ↔ y.1 ≤ s)) ∧ y.2.1.Nodup ∧ (∀ p, p ∈ y.2.1 ↔ RunAt one two far (s0F far + done.length) p) ∧
      (y.2.2.1.length ≤ 100 * done.length ∧ y.2.2.2.length ≤ 100 * done.length) ∧ y.2.1.length + s0F far ≤ y.1) (s0F far, [], [], []) rfl
    ⟨[], rfl, li_nil, li_nil, ⟨Nat.le_refl _, Nat.le_refl _⟩, fun s a b => ⟨fun _ => a, fun _ => okw_nil (by exact a)⟩, List.nodup_nil, fun p => ⟨fun w => (by cases w), fun w => by have := w.2.1; have := w.2.2.1; simp only [List.length_nil] at *; omega⟩, ⟨Nat.le_refl _, Nat.le_refl _⟩, by simp⟩ ?_ ?_
  · rintro a rest ⟨st, ys, L, B⟩ ⟨done, g1, g2, g3, ⟨g4, g4'⟩, g5, g6, g7, ⟨g8, g8'⟩, g9⟩ K hK
    dsimp only at g2 g3 g4 g4' g5 g6 g7 g8 g8' g9 ⊢
    have hx : (List.range (t - (s0F far : Int)).toNat)[done.length]? = some a := by rw [g1]; simp
    obtain ⟨hlt, rfl⟩ : done.length < (t - (s0F far : Int)).toNat ∧ a = done.length := by
      obtain ⟨w1, w2⟩ := List.getElem?_eq_some_iff.mp hx
      rw [List.length_range] at w1
      rw [List.getElem_range] at w2
      exact ⟨w1, w2.symm⟩
    have ee : ((s0F far : Nat) : Int) + ((done.length : Nat) : Int) = ((s0F far + done.length : Nat) : Int) := by omega
    rw [ee]
    have i1 : s0F far + done.length < one.length := by omega
    have i2 : (((s0F far + done.length : Nat) : Int) + far).toNat < two.length := by omega
    have i3 : (((s0F far + done.length : Nat) : Int) + far) = (((((s0F far + done.length : Nat) : Int) + far).toNat : Nat) : Int) := by omega
    have r1 : one[s0F far + done.length]? = some one[s0F far + done.length] := List.getElem?_eq_getElem i1
    have r2 : two[(((s0F far + done.length : Nat) : Int) + far).toNat]? = some two[(((s0F far + done.length : Nat) : Int) + far).toNat] := List.getElem?_eq_getElem i2
    have k1 := h1.2 _ (List.getElem_mem i1)
    have k2 := h2.2 _ (List.getElem_mem i2)
    have zze : zz one two far (s0F far + done.length) = one[s0F far + done.length].zip two[(((s0F far + done.length : Nat) : Int) + far).toNat] := by
      unfold zz
      rw [List.getD_eq_getElem?_getD, List.getD_eq_getElem?_getD, r1, r2]
      rfl
    have lze : lz one two far (s0F far + done.length) ↔ one[s0F far + done.length].length = two[(((s0F far + done.length : Nat) : Int) + far).toNat].length := by
      unfold lz
      rw [List.getD_eq_getElem?_getD, List.getD_eq_getElem?_getD, r1, r2]
      exact Iff.rfl
    walk_at "dg"
    refine w_ixE (ys := knF one) rfl (atI_of (knF_at r1) rfl) ?_
    walk_at "dg"
    refine w_ixE (ys := knF two) rfl (atI_of (knF_at r2) i3) ?_
    walk_at "dg"
    generalize hE : s0F far + done.length = e at *
    refine ⟨zz one two far, lz one two far, s0F far, e, _, _, L, B, rfl, zze, lze, k1, k2, by omega, by omega, ⟨by omega, by omega⟩, g2, g3, fun m L' B' m1 m2 m3 m4 ⟨m5, m6⟩ => ?_⟩
    walk_at "dg"
    have em : max (st : Int) (m : Int) = ((max st m : Nat) : Int) := by omega
    rw [em]
    generalize hbm : max st m = b
    have hb : ∀ s, s0F far ≤ s → s ≤ e + 1 → (OkF one two far s (e + 1) ↔ b ≤ s) := fun s hs hse => by
      by_cases c : s = e + 1
      · exact ⟨fun _ => by omega, fun _ => okw_nil (by omega)⟩
      · constructor
        · intro h
          have w := okw_mono (Nat.le_succ e) h
          have w1 := (g5 s hs (by omega)).mp w
          have w2 := (m2 s hs (by omega) w).mp h
          omega
        · intro h
          have w := (g5 s hs (by omega)).mpr (by omega)
          exact (m2 s hs (by omega) w).mpr (by omega)
    have hE' : s0F far + (done ++ [done.length]).length = e + 1 := by rw [List.length_append, List.length_singleton]; omega
    have rs := run_step (b := b) g4 g4' g5 hb
    have go : ∀ ys' : List (Nat × Nat), ys'.Nodup → (∀ p, p ∈ ys' ↔ RunAt one two far (e + 1) p) → ys'.length + s0F far ≤ b → ∀ ρ', wipeD ρ' [8, 9] = [.v (Enc.en (knF one)), .v (Enc.en (knF two)), .v (Enc.en far), .v (dE true L'), .v (dE true B'), .v (Enc.en (b : Int)), .v (Enc.en t), .v (eo (ys'.map inN)), .un, .un] → K ρ' := fun ys' q1 q2 q3 ρ' hr => by
      refine hK (b, ys', L', B') ρ' ⟨done ++ [done.length], by rw [g1, List.append_assoc]; rfl, ?_, ?_, ?_, ?_, q1, ?_, ?_, ?_⟩ hr
      · rw [hE']; exact m3
      · rw [hE']; exact m4
      · rw [hE']; dsimp only; omega
      · rw [hE']; exact hb
      · rw [hE']; exact q2
      · rw [List.length_append, List.length_singleton]; dsimp only; omega
      · exact q3
    have no : ¬ (st < e ∧ st < b) → ∀ p, p ∈ ys ↔ RunAt one two far (e + 1) p := fun h p => by
      rw [rs p, g7 p]
      exact ⟨.inl, fun w => w.elim id fun w => absurd w.2 h⟩
    refine w_if (fun c1 => ?_) fun c1 => ?_
    · walk_at "dg"
      refine w_if (fun c2 => ?_) fun c2 => ?_
      · have c1 : (st : Int) < b := by simpa using c1
        have c2 : (st : Int) < e := by simpa using c2
        walk_at "dg"
        have ei : D.n false .tup [Enc.en (st : Int), D.int ((e : Int) - st)] = (Enc.en (inN (st, e - st)) : D) := by
          unfold inN
          rw [show ((e : Int) - st) = (((e - st : Nat)) : Int) by omega]
          rfl
        rw [ei]
        refine go (ys ++ [(st, e - st)]) ?_ (fun p => ?_) (by rw [List.length_append, List.length_singleton]; omega) _ (by rw [eo_in]; walk_at "ne")
        · rw [List.nodup_append]
          refine ⟨g6, List.pairwise_singleton _ _, fun x hx y hy hxy => ?_⟩
          rw [List.mem_singleton.mp hy] at hxy
          subst hxy
          have := ((g7 _).mp hx).2.2.1
          dsimp only at this
          omega
        · rw [List.mem_append, List.mem_singleton, rs p, g7 p]
          exact ⟨fun w => w.elim .inl fun w => .inr ⟨w, by omega, by omega⟩, fun w => w.elim .inl fun w => .inr w.1⟩
      · have c2 : ¬ (st : Int) < e := by simpa using c2
        walk_at "dg"
        exact go ys g6 (no fun w => c2 (by omega)) (by omega) _ (by walk_at "ne")
    · have c1 : ¬ (st : Int) < b := by simpa using c1
      walk_at "dg"
      exact go ys g6 (no fun w => c1 (by omega)) (by omega) _ (by walk_at "ne")
  · rintro ⟨st, ys, L, B⟩ ⟨done, g1, g2, g3, ⟨g4, g4'⟩, g5, g6, g7, ⟨g8, g8'⟩, g9⟩
    dsimp only at g2 g3 g4 g4' g5 g6 g7 g8 g8' g9 ⊢
    rw [List.append_nil] at g1
    have hd : done.length = (t - (s0F far : Int)).toNat := by rw [← g1, List.length_range]
    walk_at "dg"
    by_cases hts : (s0F far : Int) ≤ t
    · have he : s0F far + done.length = endF one two far := by omega
      rw [he] at g4' g5 g7
      have re := run_end g4 g4' g5
      refine w_if (fun c => ?_) fun c => ?_
      · have c : (st : Int) < t := by simpa using c
        walk_at "dg"
        have ei : D.n false .tup [Enc.en (st : Int), D.int (t - st)] = (Enc.en (inN (st, endF one two far - st)) : D) := by
          unfold inN
          rw [show (t - (st : Int)) = (((endF one two far - st : Nat)) : Int) by omega]
          rfl
        rw [ei]
        have := hq (ys ++ [(st, endF one two far - st)]) (by
          rw [List.nodup_append]
          refine ⟨g6, List.pairwise_singleton _ _, fun x hx y hy hxy => ?_⟩
          rw [List.mem_singleton.mp hy] at hxy
          subst hxy
          have := ((g7 _).mp hx).2.2.1
          dsimp only at this
          omega) (fun p => by
          rw [List.mem_append, List.mem_singleton, re p, g7 p]
          exact ⟨fun w => w.elim .inl fun w => .inr ⟨w, by omega⟩, fun w => w.elim .inl fun w => .inr w.1⟩) (by rw [List.length_append, List.length_singleton]; omega)
        rw [eo_in] at this
        exact this
      · have c : ¬ (st : Int) < t := by simpa using c
        walk_at "dg"
        refine hq ys g6 (fun p => ?_) (by omega)
        rw [re p, g7 p]
        exact ⟨.inl, fun w => w.elim id fun w => absurd (Int.lt_toNat.mp (e6 ▸ w.2)) c⟩
    · refine w_if_f (by simp; omega) ?_
      walk_at "dg"
      refine hq ys g6 (fun p => ?_) (by omega)
      rw [g7 p]
      constructor
      · intro w
        have := w.2.1
        have := w.2.2.1
        omega
      · intro w
        have := w.1
        have := w.2.1
        have := w.2.2.1
        omega
--@@
open Enc (en)
theorem pp_app (zs : List P5) (x : P5) : (eo (zs ++ [x]) : D) = D.n true .lst (zs.map en ++ [en x]) := by
  unfold eo
  rw [List.map_append]
  rfl
theorem sem_pairs_of : Sem S_pairs_of t_pairs_of 10 := by
  rintro _ Q0 E0 ⟨t, u, one, two, fars, least, rfl, h1, h2, ⟨hn, hl, hf⟩, hq⟩
  have l1 := h1.1
  have l2 := h2.1
  walk_at "in"
  unfold t_pairs_of
  walk_at "dg"
  refine lw_inv2 (fun zs : List P5 => [.v (en t), .v (en (knF one)), .v (en u), .v (en (knF two)), .v (en fars), .v (en (least : Int)), .v (eo zs), .un, .un, .un])
    (fun rest zs => ∃ done, fars = done ++ rest ∧ zs.Nodup ∧ (∀ p, p ∈ zs ↔ ∃ far ∈ done, ∃ q : Nat × Nat, RunP one two far q ∧ least ≤ q.2 ∧ p = ⟨t, (q.1 : Int), u, (q.1 : Int) + far, (q.2 : Int)⟩) ∧ zs.length ≤ done.length * one.length) [] rfl
    ⟨[], rfl, List.nodup_nil, fun p => ⟨fun w => (by cases w), fun ⟨_, w, _⟩ => (by cases w)⟩, Nat.zero_le _⟩ ?_ ?_
  · rintro far rest zs ⟨done, g1, g2, g3, g4⟩ K hK
    have hfm : far ∈ fars := by rw [g1]; simp
    have hfd : far ∉ done := fun w => by
      rw [g1, List.nodup_append] at hn
      exact hn.2.2 _ w _ (List.mem_cons_self ..) rfl
    walk_at "dg"
    refine ⟨one, two, far, rfl, h1, h2, hf far hfm, fun ys y1 y2 y3 => ?_⟩
    walk_at "dg"
    have gl : done.length * one.length ≤ 300 * 100 := by
      have := congrArg List.length g1
      rw [List.length_append, List.length_cons] at this
      exact Nat.mul_le_mul (by omega) l1
    refine lw_inv2 (fun zs' : List P5 => [.v (en t), .v (en (knF one)), .v (en u), .v (en (knF two)), .v (en fars), .v (en (least : Int)), .v (eo zs'), .v (en far), .un, .un])
      (fun rest2 zs' => ∃ done2 rest3, ys = done2 ++ rest3 ∧ rest2 = rest3.map inN ∧ zs'.Nodup ∧ (∀ p, p ∈ zs' ↔ p ∈ zs ∨ ∃ q ∈ done2, least ≤ q.2 ∧ p = ⟨t, ((q.1 : Nat) : Int), u, ((q.1 : Nat) : Int) + far, ((q.2 : Nat) : Int)⟩) ∧ zs'.length ≤ zs.length + done2.length) zs rfl
      ⟨[], ys, rfl, rfl, g2, fun p => ⟨.inl, fun w => w.elim id fun ⟨_, w, _⟩ => (by cases w)⟩, Nat.le_refl _⟩ ?_ ?_
    · rintro x rest2 zs' ⟨done2, rest3, i1, i2, i3, i4, i5⟩ K2 hK2
      cases rest3 with
      | nil => cases i2
      | cons q rest3 =>
        rw [List.map_cons] at i2
        injection i2 with i2 i2'
        subst i2 i2'
        obtain ⟨a, b⟩ := q
        have hlen := congrArg List.length i1
        rw [List.length_append, List.length_cons] at hlen
        unfold inN
        walk_at "dg"
        refine w_if (fun c => ?_) fun c => ?_
        · have c : (least : Int) ≤ b := by simpa using c
          walk_at "dg"
          refine hK2 (zs' ++ [⟨t, (a : Int), u, (a : Int) + far, (b : Int)⟩]) _ ⟨done2 ++ [(a, b)], rest3, by rw [i1, List.append_assoc]; rfl, rfl, ?_, fun p => ?_, by rw [List.length_append, List.length_append]; simp only [List.length_singleton]; omega⟩ (by rw [pp_app]; walk_at "ne")
          · rw [List.nodup_append]
            refine ⟨i3, List.pairwise_singleton _ _, fun x hx y hy hxy => ?_⟩
            rw [List.mem_singleton.mp hy] at hxy
            subst hxy
            rcases (i4 _).mp hx with w | ⟨q, w1, w2, w3⟩
            · obtain ⟨far', f1, q, f2, f3, f4⟩ := (g3 _).mp w
              simp only [P5.mk.injEq, true_and] at f4
              exact hfd (by rw [show far = far' by omega]; exact f1)
            · simp only [P5.mk.injEq, true_and] at w3
              have : q = (a, b) := by
                obtain ⟨q1, q2⟩ := q
                dsimp only at w3
                rw [Prod.mk.injEq]
                omega
              rw [this] at w1
              rw [i1, List.nodup_append] at y1
              exact y1.2.2 _ w1 _ (List.mem_cons_self ..) rfl
          · rw [List.mem_append, i4 p, List.mem_singleton]
            constructor
            · rintro ((w | ⟨q, w1, w2⟩) | w)
              · exact .inl w
              · exact .inr ⟨q, List.mem_append_left _ w1, w2⟩
              · exact .inr ⟨(a, b), by simp, by dsimp only; omega, w⟩
            · rintro (w | ⟨q, w1, w2, w3⟩)
              · exact .inl (.inl w)
              · rcases List.mem_append.mp w1 with w1 | w1
                · exact .inl (.inr ⟨q, w1, w2, w3⟩)
                · rw [List.mem_singleton.mp w1] at w3
                  exact .inr w3
        · have c : ¬ (least : Int) ≤ b := by simpa using c
          walk_at "dg"
          refine hK2 zs' _ ⟨done2 ++ [(a, b)], rest3, by rw [i1, List.append_assoc]; rfl, rfl, i3, fun p => ?_, by rw [List.length_append]; omega⟩ (by walk_at "ne")
          rw [i4 p]
          constructor
          · rintro (w | ⟨q, w1, w2⟩)
            · exact .inl w
            · exact .inr ⟨q, List.mem_append_left _ w1, w2⟩
          · rintro (w | ⟨q, w1, w2, w3⟩)
            · exact .inl w
            · rcases List.mem_append.mp w1 with w1 | w1
              · exact .inr ⟨q, w1, w2, w3⟩
              · rw [List.mem_singleton.mp w1] at w2
                dsimp only at w2
                omega
    · rintro zs' ⟨done2, rest3, i1, i2, i3, i4, i5⟩
      have : rest3 = [] := List.map_eq_nil_iff.mp i2.symm
      subst this
      rw [List.append_nil] at i1
      subst i1
      walk_at "dg"
      refine hK zs' _ ⟨done ++ [far], by rw [g1, List.append_assoc]; rfl, i3, fun p => ?_, ?_⟩ (by walk_at "ne")
      · rw [i4 p, g3 p]
        constructor
        · rintro (⟨f, w1, w2⟩ | ⟨q, w1, w2, w3⟩)
          · exact ⟨f, List.mem_append_left _ w1, w2⟩
          · exact ⟨far, by simp, q, (y2 q).mp w1, w2, w3⟩
        · rintro ⟨f, w1, q, w2, w3, w4⟩
          rcases List.mem_append.mp w1 with w1 | w1
          · exact .inl ⟨f, w1, q, w2, w3, w4⟩
          · rw [List.mem_singleton.mp w1] at w2 w4
            exact .inr ⟨q, (y2 q).mpr w2, w3, w4⟩
      · rw [List.length_append, List.length_singleton, Nat.add_mul]
        omega
  · rintro zs ⟨done, g1, g2, g3, g4⟩
    rw [List.append_nil] at g1
    subst g1
    walk_at "dg"
    exact hq zs g2 g3 g4
--@@
open Enc (en)
theorem part_get (rows : Rows) (s m i : Nat) : (part rows s m)[i]? = if i < m then rows[s + i]? else none := by
  unfold part
  rw [List.getElem?_take, List.getElem?_drop]
theorem part_len {rows : Rows} {s m : Nat} (h : s + m ≤ rows.length) : (part rows s m).length = m := by
  unfold part
  rw [List.length_take, List.length_drop]
  omega
theorem mem_prs {A B : Rows} {p : Str × Str} : p ∈ prs A B ↔ ∃ (i : Nat) (a b : List Str), A[i]? = some a ∧ B[i]? = some b ∧ p ∈ a.zip b := by
  unfold prs
  rw [List.mem_flatMap]
  constructor
  · rintro ⟨⟨a, b⟩, h1, h2⟩
    obtain ⟨i, hi⟩ := List.mem_iff_getElem?.mp h1
    rw [List.getElem?_zip_eq_some] at hi
    exact ⟨i, a, b, hi.1, hi.2, h2⟩
  · rintro ⟨i, a, b, h1, h2, h3⟩
    exact ⟨(a, b), List.mem_iff_getElem?.mpr ⟨i, List.getElem?_zip_eq_some.mpr ⟨h1, h2⟩⟩, h3⟩
theorem okF_tw {one two : Rows} {far : Int} {s j m : Nat} (hj : (j : Int) = s + far) (h1 : s + m ≤ one.length) (h2 : j + m ≤ two.length) : OkF one two far s (s + m) ↔ Tw (part one s m) (part two j m) := by
  have ix : ∀ i, s ≤ i → i < s + m → ∃ a b, one[i]? = some a ∧ two[((i : Int) + far).toNat]? = some b ∧ (part one s m)[i - s]? = some a ∧ (part two j m)[i - s]? = some b ∧ zz one two far i = a.zip b ∧ (lz one two far i ↔ a.length = b.length) := fun i h3 h4 => by
    have e : ((i : Int) + far).toNat = j + (i - s) := by omega
    have r1 : one[i]? = some (one[i]'(by omega)) := List.getElem?_eq_getElem _
    have r2 : two[j + (i - s)]? = some (two[j + (i - s)]'(by omega)) := List.getElem?_eq_getElem _
    refine ⟨_, _, r1, by rw [e]; exact r2, ?_, ?_, ?_, ?_⟩
    · rw [part_get, if_pos (by omega), show s + (i - s) = i by omega]; exact r1
    · rw [part_get, if_pos (by omega)]; exact r2
    · unfold zz
      rw [List.getD_eq_getElem?_getD, List.getD_eq_getElem?_getD, e, r1, r2]
      rfl
    · unfold lz
      rw [List.getD_eq_getElem?_getD, List.getD_eq_getElem?_getD, e, r1, r2]
      exact Iff.rfl
  have wp : ∀ q, Wk (zz one two far) s (s + m) 0 q ↔ q ∈ prs (part one s m) (part two j m) := fun q => by
    rw [mem_prs]
    constructor
    · rintro ⟨i, k, h3, h4, h5⟩
      obtain ⟨a, b, _, _, p1, p2, p3, _⟩ := ix i h3 (by omega)
      rw [p3] at h5
      exact ⟨i - s, a, b, p1, p2, List.mem_iff_getElem?.mpr ⟨k, h5⟩⟩
    · rintro ⟨i, a, b, p1, p2, p3⟩
      have hi : i < m := by
        rw [part_get] at p1
        by_cases c : i < m
        · exact c
        · rw [if_neg c] at p1; cases p1
      obtain ⟨a', b', _, _, q1, q2, q3, _⟩ := ix (s + i) (by omega) (by omega)
      rw [show s + i - s = i by omega] at q1 q2
      rw [p1] at q1
      rw [p2] at q2
      obtain rfl := Option.some.inj q1
      obtain rfl := Option.some.inj q2
      obtain ⟨k, hk⟩ := List.mem_iff_getElem?.mp p3
      exact ⟨s + i, k, by omega, by omega, by rw [q3]; exact hk⟩
  have hl : (∀ i, s ≤ i → i < s + m → lz one two far i) ↔ (part one s m).map List.length = (part two j m).map List.length := by
    constructor
    · intro h
      refine List.ext_getElem? fun i => ?_
      rw [List.getElem?_map, List.getElem?_map]
      by_cases c : i < m
      · obtain ⟨a, b, _, _, q1, q2, _, q4⟩ := ix (s + i) (by omega) (by omega)
        rw [show s + i - s = i by omega] at q1 q2
        rw [q1, q2, Option.map_some, Option.map_some, q4.mp (h (s + i) (by omega) (by omega))]
      · rw [part_get, part_get, if_neg c, if_neg c]
    · intro h i h3 h4
      obtain ⟨a, b, _, _, q1, q2, _, q4⟩ := ix i h3 h4
      have := congrArg (fun l : List Nat => l[i - s]?) h
      simp only [List.getElem?_map, q1, q2, Option.map_some, Option.some.injEq] at this
      exact q4.mpr this
  unfold OkF OkW Cn Tw
  rw [hl]
  refine and_congr_right fun _ => and_congr ?_ ?_
  · exact ⟨fun h p hp => h p ((wp p).mpr hp), fun h q hq => h q ((wp q).mp hq)⟩
  · constructor
    · intro h p hp q hq a b c d
      exact h p q ((wp p).mpr hp) ((wp q).mpr hq) ⟨a, b⟩ ⟨c, d⟩
    · intro h p q hp hq a b
      exact h p ((wp p).mp hp) q ((wp q).mp hq) a.1 a.2 b.1 b.2
theorem run_most {one two : Rows} {far : Int} {i j m : Nat} (hj : (j : Int) = i + far) : RunP one two far (i, m) ↔ 1 ≤ m ∧ MostP one i two j m ∧ ¬ AhdP one i two j m := by
  have hs : s0F far ≤ i ∧ (i = s0F far ↔ i = 0 ∨ j = 0) := by unfold s0F; omega
  have he : (i + m ≤ endF one two far ↔ (m = 0 ∧ i = 0 ∧ (i + m ≤ endF one two far)) ∨ (i + m ≤ one.length ∧ j + m ≤ two.length)) ∧ (1 ≤ m → i + m ≤ one.length → j + m ≤ two.length → (i + m = endF one two far ↔ i + m = one.length ∨ j + m = two.length)) := by
    unfold endF
    constructor
    · constructor <;> intro h <;> omega
    · intro a b c
      omega
  unfold RunP MostP AhdP
  dsimp only
  constructor
  · rintro ⟨h1, h2, h3, h4, h5, h6⟩
    have hb : i + m ≤ one.length ∧ j + m ≤ two.length := (he.1.mp h3).resolve_left fun w => by omega
    refine ⟨h1, ⟨hb.1, hb.2, (okF_tw hj hb.1 hb.2).mp h4, ?_⟩, ?_⟩
    · rcases h6 with h6 | h6
      · rcases (he.2 h1 hb.1 hb.2).mp h6 with w | w
        · exact .inl w
        · exact .inr (.inl w)
      · by_cases c1 : i + m = one.length
        · exact .inl c1
        · by_cases c2 : j + m = two.length
          · exact .inr (.inl c2)
          · exact .inr (.inr fun w => h6 ((okF_tw (m := m + 1) hj (by omega) (by omega)).mpr w))
    · rintro ⟨a, b, c⟩
      rcases h5 with h5 | h5
      · have := hs.2.mp h5
        omega
      · refine h5 ?_
        have := (okF_tw (s := i - 1) (j := j - 1) (m := m + 1) (far := far) (one := one) (two := two) (by omega) (by omega) (by omega)).mpr c
        rw [show i - 1 + (m + 1) = i + m by omega] at this
        exact this
  · rintro ⟨h1, ⟨h2, h3, h4, h5⟩, h6⟩
    refine ⟨h1, hs.1, he.1.mpr (.inr ⟨h2, h3⟩), (okF_tw hj h2 h3).mpr h4, ?_, ?_⟩
    · by_cases c : i = s0F far
      · exact .inl c
      · refine .inr fun w => h6 ?_
        have : 0 < i ∧ 0 < j := by
          have := hs.2
          omega
        refine ⟨this.1, this.2, ?_⟩
        have := (okF_tw (s := i - 1) (j := j - 1) (m := m + 1) (far := far) (one := one) (two := two) (by omega) (by omega) (by omega)).mp (by rw [show i - 1 + (m + 1) = i + m by omega]; exact w)
        exact this
    · rcases h5 with h5 | h5 | h5
      · exact .inl ((he.2 h1 h2 h3).mpr (.inl h5))
      · exact .inl ((he.2 h1 h2 h3).mpr (.inr h5))
      · by_cases c : i + m = endF one two far
        · exact .inl c
        · refine .inr fun w => h5 ?_
          have hb := (he.2 h1 h2 h3)
          exact (okF_tw (m := m + 1) hj (by omega) (by omega)).mp w
--@@
open Enc (en)
noncomputable def kd (f : Str × Rows) : D := .n false .tup [en f.1, eoo (knF f.2)]
noncomputable def knD (fs : Fs) : List (Str × List (List (Str × Bool))) := fs.map fun f => (f.1, knF f.2)
theorem kd_fz (fs : Fs) : (D.n true .lst (fs.map kd)).fz = en (knD fs) := by
  simp only [D.fz, fzL_map, List.map_map]
  rw [show (en (knD fs) : D) = .n false .lst ((knD fs).map en) from rfl]
  unfold knD
  rw [List.map_map]
  congr 1
  refine List.map_congr_left fun f _ => ?_
  show (D.n false .tup [en f.1, eoo (knF f.2)]).fz = en (f.1, knF f.2)
  rw [D.fz, fzL, fzL, fzL, fr_e, fr_oo]
  rfl
theorem kd_nz (fs : Fs) : (D.n true .lst (fs.map kd)).isFz = false := rfl
local macro_rules | `(tactic| walk_at "fr") => `(tactic| first | exact kd_fz _)
local macro_rules | `(tactic| walk_at "nz") => `(tactic| first | exact kd_nz _)
theorem knD_map (fs : Fs) : (knD fs).map (en : _ → D) = fs.map fun f => en (f.1, knF f.2) := by
  unfold knD
  rw [List.map_map]
  rfl
theorem lt_irr (x : Str) : strLt x x = false := by
  unfold strLt
  exact decide_eq_false (List.lt_irrefl _)
theorem blk_mem {t u : Str} {one two : Rows} {least : Nat} {F : List Int} {lo : Int} {p : P5} (hF : ∀ far, far ∈ F ↔ lo ≤ far ∧ far < (two.length : Int)) (hl : (t = u ∧ lo = 1) ∨ (t ≠ u ∧ lo = 1 - (one.length : Int))) :
    (∃ far ∈ F, ∃ q : Nat × Nat, RunP one two far q ∧ least ≤ q.2 ∧ p = ⟨t, (q.1 : Int), u, (q.1 : Int) + far, (q.2 : Int)⟩) ↔ Grt t one u two p ∧ (least : Int) ≤ p.m := by
  constructor
  · rintro ⟨far, hf, ⟨i, m⟩, h1, h2, rfl⟩
    have hs : (-far ≤ (i : Int)) := by
      have := h1.2.1
      unfold s0F at this
      dsimp only at this
      omega
    have hj : (((((i : Int) + far).toNat : Nat)) : Int) = (i : Int) + far := by omega
    have := (run_most hj).mp h1
    refine ⟨⟨rfl, rfl, i, ((i : Int) + far).toNat, m, rfl, hj.symm, rfl, this.1, this.2.1, this.2.2, ?_⟩, by show (least : Int) ≤ (m : Int); dsimp only at h2; omega⟩
    have := (hF far).mp hf
    rcases hl with ⟨e1, e2⟩ | ⟨e1, e2⟩
    · exact .inr (by omega)
    · exact .inl e1
  · obtain ⟨t', i', u', j', m'⟩ := p
    rintro ⟨⟨h1, h2, i, j, m, h3, h4, h5, h6, h7, h8, h9⟩, h10⟩
    dsimp only at h1 h2 h3 h4 h5 h10
    subst h1 h2 h3 h4 h5
    have hj : (j : Int) = (i : Int) + ((j : Int) - i) := by omega
    have hb := h7.1
    have hb2 := h7.2.1
    refine ⟨(j : Int) - i, (hF _).mpr ⟨?_, by omega⟩, (i, m), (run_most hj).mpr ⟨h6, h7, h8⟩, by dsimp only; omega, by rw [← hj]⟩
    rcases hl with ⟨e1, e2⟩ | ⟨e1, e2⟩
    · rcases h9 with h9 | h9
      · exact absurd e1 h9
      · omega
    · omega
theorem rng_mem (a n : Int) (far : Int) : far ∈ ((List.range (n - a).toNat).map fun k => a + ((k : Nat) : Int)) ↔ a ≤ far ∧ far < n := by
  rw [List.mem_map]
  constructor
  · rintro ⟨k, hk, rfl⟩
    have := List.mem_range.mp hk
    omega
  · rintro ⟨h1, h2⟩
    exact ⟨(far - a).toNat, List.mem_range.mpr (by omega), by omega⟩
theorem rng_nd (a n : Int) : ((List.range (n - a).toNat).map fun k => a + ((k : Nat) : Int)).Nodup := by
  unfold List.Nodup
  rw [List.pairwise_map]
  exact List.nodup_range.imp fun h e => h (by omega)
theorem few_add {d d2 n c : Nat} (h1 : d + 1 ≤ n) (h2 : d2 + 1 ≤ n) : d * n * c + d2 * c + c ≤ n * n * c := by
  have e1 : d2 * c + c ≤ n * c := by
    have := Nat.mul_le_mul_right c h2
    rw [Nat.add_mul, Nat.one_mul] at this
    exact this
  have e2 : d * n * c + n * c ≤ n * n * c := by
    have := Nat.mul_le_mul_right c (Nat.mul_le_mul_right n h1)
    rw [Nat.add_mul, Nat.one_mul, Nat.add_mul] at this
    exact this
  omega
theorem sem_pairs : Sem S_pairs t_pairs 9 := by
  rintro _ Q0 E0 ⟨fs, b, least, rfl, ⟨hl, hb, hfew⟩, hF, hq⟩
  walk_at "in"
  unfold t_pairs
  walk_at "dg"
  refine lc_all (w := kd) ?_ (by omega) ?_
  · rintro ⟨t, rows⟩ hm acc k k' hn hk
    have hR := (hF.2 _ hm).2
    have hS : Sx rows := ⟨by have := hR.1; dsimp only at this; omega, fun r hr => ⟨by have := (hR.2 r hr).1; omega, (hR.2 r hr).2⟩⟩
    walk_at "dg"
    refine ⟨rows, rfl, hS, ?_⟩
    walk_at "dg"
    exact hk
  walk_at "dg"
  rw [knD_map]
  have sx : ∀ f ∈ fs, Sx f.2 ∧ f.2.length ≤ b := fun f hf => by
    have hR := (hF.2 _ hf).2
    exact ⟨⟨by have := hR.1; omega, fun r hr => ⟨by have := (hR.2 r hr).1; omega, (hR.2 r hr).2⟩⟩, hR.1⟩
  have ti : ∀ f ∈ fs, f.1.length ≤ 100 := fun f hf => by have := word_len (hF.2 f hf).1; omega
  refine lw_inv2 (fun zs : List P5 => [.v (en fs), .v (en (least : Int)), .v (en (knD fs)), .v (eo zs), .un, .un, .un, .un, .un])
    (fun rest zs => ∃ done, fs = done ++ rest ∧ zs.Nodup ∧ (∀ p, p ∈ zs ↔ ∃ f ∈ done, ∃ g ∈ fs, (f.1 = g.1 ∨ strLt f.1 g.1 = true) ∧ Grt f.1 f.2 g.1 g.2 p ∧ (least : Int) ≤ p.m) ∧ zs.length ≤ done.length * fs.length * (2 * b * b)) [] rfl
    ⟨[], rfl, List.nodup_nil, fun p => ⟨fun w => (by cases w), fun ⟨_, w, _⟩ => (by cases w)⟩, Nat.zero_le _⟩ ?_ ?_
  · rintro ⟨t, one⟩ rest zs ⟨done, g1, g2, g3, g4⟩ K hK
    have hfm : (t, one) ∈ fs := by rw [g1]; simp
    have hfd : ∀ f ∈ done, f.1 ≠ t := fun f hf e => by
      have := hF.1
      rw [g1, List.map_append, List.map_cons, List.nodup_append] at this
      exact this.2.2 _ (List.mem_map.mpr ⟨f, hf, rfl⟩) _ (List.mem_cons_self ..) e
    have hd1 : done.length + 1 ≤ fs.length := by
      have := congrArg List.length g1
      rw [List.length_append, List.length_cons] at this
      omega
    have s1 := sx _ hfm
    have t1 := ti _ hfm
    dsimp only at s1 t1
    walk_at "dg"
    rw [knD_map]
    refine lw_inv2 (fun zs' : List P5 => [.v (en fs), .v (en (least : Int)), .v (en (knD fs)), .v (eo zs'), .v (en t), .v (en (knF one)), .un, .un, .un])
      (fun rest2 zs' => ∃ done2, fs = done2 ++ rest2 ∧ zs'.Nodup ∧ (∀ p, p ∈ zs' ↔ p ∈ zs ∨ ∃ g ∈ done2, (t = g.1 ∨ strLt t g.1 = true) ∧ Grt t one g.1 g.2 p ∧ (least : Int) ≤ p.m) ∧ zs'.length ≤ zs.length + done2.length * (2 * b * b)) zs rfl
      ⟨[], rfl, g2, fun p => ⟨.inl, fun w => w.elim id fun ⟨_, w, _⟩ => (by cases w)⟩, by omega⟩ ?_ ?_
    · rintro ⟨u, two⟩ rest2 zs' ⟨done2, i1, i2, i3, i4⟩ K2 hK2
      have hgm : (u, two) ∈ fs := by rw [i1]; simp
      have hgd : ∀ f ∈ done2, f.1 ≠ u := fun f hf e => by
        have := hF.1
        rw [i1, List.map_append, List.map_cons, List.nodup_append] at this
        exact this.2.2 _ (List.mem_map.mpr ⟨f, hf, rfl⟩) _ (List.mem_cons_self ..) e
      have hd2 : done2.length + 1 ≤ fs.length := by
        have := congrArg List.length i1
        rw [List.length_append, List.length_cons] at this
        omega
      have s2 := sx _ hgm
      have t2 := ti _ hgm
      dsimp only at s2 t2
      have bound : zs'.length + 2 * b * b ≤ 90000 := by
        have := few_add (c := 2 * b * b) hd1 hd2
        unfold Few at hfew
        omega
      have go : ∀ ws : List P5, ws.Nodup → (∀ p, p ∈ ws ↔ (t = u ∨ strLt t u = true) ∧ Grt t one u two p ∧ (least : Int) ≤ p.m) → ws.length ≤ 2 * b * b → ∀ ρ', wipeD ρ' [6, 7] = [.v (en fs), .v (en (least : Int)), .v (en (knD fs)), .v (eo (zs' ++ ws)), .v (en t), .v (en (knF one)), .un, .un, .un] → K2 ρ' := fun ws q1 q2 q3 ρ' hr => by
        refine hK2 (zs' ++ ws) ρ' ⟨done2 ++ [(u, two)], by rw [i1, List.append_assoc]; rfl, ?_, fun p => ?_, ?_⟩ hr
        · rw [List.nodup_append]
          refine ⟨i2, q1, fun x hx y hy hxy => ?_⟩
          subst hxy
          have hx2 := ((q2 _).mp hy).2.1
          rcases (i3 _).mp hx with w | ⟨g, w1, _, w2, _⟩
          · obtain ⟨f, f1, g, _, _, f2, _⟩ := (g3 _).mp w
            exact hfd f f1 (by rw [← f2.1, hx2.1])
          · exact hgd g w1 (by rw [← w2.2.1, hx2.2.1])
        · rw [List.mem_append, i3 p, q2 p]
          constructor
          · rintro ((w | ⟨g, w1, w2⟩) | w)
            · exact .inl w
            · exact .inr ⟨g, List.mem_append_left _ w1, w2⟩
            · exact .inr ⟨(u, two), by simp, w⟩
          · rintro (w | ⟨g, w1, w2⟩)
            · exact .inl (.inl w)
            · rcases List.mem_append.mp w1 with w1 | w1
              · exact .inl (.inr ⟨g, w1, w2⟩)
              · rw [List.mem_singleton.mp w1] at w2
                exact .inr w2
        · rw [List.length_append, List.length_append, List.length_singleton, Nat.add_mul]
          omega
      have kl1 : (knF one).length ≤ 90 := by rw [knF_len]; omega
      have kl2 : (knF two).length ≤ 90 := by rw [knF_len]; omega
      have lenB : ∀ {n : Nat}, n ≤ 2 * b → n * one.length ≤ 2 * b * b := fun h => Nat.mul_le_mul h s1.2
      dsimp only
      walk_at "dg"
      refine w_if (fun c => ?_) fun c => ?_
      · have c : t = u := dc_t.mp (by simpa using c)
        walk_at "dg"
        refine ⟨t, u, one, two, _, least, rfl, s1.1, s2.1, ⟨rng_nd 1 _, ?_, fun far hf => ?_⟩, fun ws w1 w2 w3 => ?_⟩
        · rw [List.length_map, List.length_range, knF_len]; omega
        · have := (rng_mem 1 _ far).mp hf
          rw [knF_len] at this
          omega
        have wb : ws.length ≤ 2 * b * b := Nat.le_trans w3 (lenB (by rw [List.length_map, List.length_range, knF_len]; omega))
        have w2 : ∀ p, p ∈ ws ↔ (t = u ∨ strLt t u = true) ∧ Grt t one u two p ∧ (least : Int) ≤ p.m := fun p => by
          rw [w2 p, blk_mem (lo := 1) (fun far => by rw [rng_mem, knF_len]) (.inl ⟨c, rfl⟩)]
          exact ⟨fun w => ⟨.inl c, w⟩, fun w => w.2⟩
        walk_at "dg"
        refine w_if_f (by rw [c]; exact lt_irr u) ?_
        walk_at "dg"
        exact go ws w1 w2 wb _ (by walk_at "ne")
      · have c : t ≠ u := dc_f.mp (by simpa using c)
        walk_at "dg"
        refine w_if (fun c2 => ?_) fun c2 => ?_
        · walk_at "dg"
          refine ⟨t, u, one, two, _, least, rfl, s1.1, s2.1, ⟨rng_nd (1 - ((knF one).length : Int)) _, ?_, fun far hf => ?_⟩, fun ws w1 w2 w3 => ?_⟩
          · rw [List.length_map, List.length_range]; omega
          · have := (rng_mem (1 - ((knF one).length : Int)) _ far).mp hf
            omega
          have wb : ws.length ≤ 2 * b * b := Nat.le_trans w3 (lenB (by rw [List.length_map, List.length_range, knF_len, knF_len]; omega))
          have w2 : ∀ p, p ∈ ws ↔ (t = u ∨ strLt t u = true) ∧ Grt t one u two p ∧ (least : Int) ≤ p.m := fun p => by
            rw [w2 p, blk_mem (lo := 1 - (one.length : Int)) (fun far => by rw [rng_mem, knF_len, knF_len]) (.inr ⟨c, rfl⟩)]
            exact ⟨fun w => ⟨.inr c2, w⟩, fun w => w.2⟩
          walk_at "dg"
          exact go ws w1 w2 wb _ (by walk_at "ne")
        · walk_at "dg"
          refine go [] List.nodup_nil (fun p => ⟨fun w => (by cases w), fun w => w.1.elim (fun z => absurd z c) fun z => by rw [z] at c2; cases c2⟩) (Nat.zero_le _) _ (by rw [List.append_nil]; walk_at "ne")
    · rintro zs' ⟨done2, i1, i2, i3, i4⟩
      rw [List.append_nil] at i1
      subst i1
      walk_at "dg"
      refine hK zs' _ ⟨done ++ [(t, one)], by rw [g1, List.append_assoc]; rfl, i2, fun p => ?_, ?_⟩ (by walk_at "ne")
      · rw [i3 p, g3 p]
        constructor
        · rintro (⟨f, w1, w2⟩ | ⟨g, w1, w2⟩)
          · exact ⟨f, List.mem_append_left _ w1, w2⟩
          · exact ⟨(t, one), by simp, g, w1, w2⟩
        · rintro ⟨f, w1, g, w2, w3⟩
          rcases List.mem_append.mp w1 with w1 | w1
          · exact .inl ⟨f, w1, g, w2, w3⟩
          · rw [List.mem_singleton.mp w1] at w3
            exact .inr ⟨g, w2, w3⟩
      · rw [List.length_append, List.length_singleton, Nat.add_mul, Nat.one_mul, Nat.add_mul]
        omega
  · rintro zs ⟨done, g1, g2, g3, g4⟩
    rw [List.append_nil] at g1
    subst g1
    walk_at "dg"
    refine w_sortT (K := itP) (b := true) (sh := [false, true, false, false]) rfl (fun _ => rfl) (fun _ _ => rfl) (fun ys hp hr => ?_) itP_inj
    walk_at "dg"
    refine hq ys (hp.nodup_iff.mpr g2) (fun p => ?_) hr ?_
    · rw [hp.mem_iff, g3 p]
      exact Iff.rfl
    · rw [hp.length_eq]
      unfold Few at hfew
      omega
--@@
open Enc (en)
theorem tw_nil : Tw [] [] := ⟨rfl, fun _ h => (by cases h), fun _ h => (by cases h)⟩
theorem part_zero (rows : Rows) (i : Nat) : part rows i 0 = [] := by
  unfold part
  exact List.take_zero
theorem tw_less {one two : Rows} {i j m m' : Nat} (h1 : i + m' ≤ one.length) (h2 : j + m' ≤ two.length) (h : m ≤ m') (ht : Tw (part one i m') (part two j m')) : Tw (part one i m) (part two j m) := by
  have hj : (j : Int) = (i : Int) + ((j : Int) - i) := by omega
  exact (okF_tw hj (by omega) (by omega)).mp (okw_mono (by omega) ((okF_tw hj h1 h2).mpr ht))
theorem most_uniq {one two : Rows} {i j m m' : Nat} (h : MostP one i two j m) (h' : MostP one i two j m') : m = m' := by
  have key : ∀ {a b : Nat}, MostP one i two j a → MostP one i two j b → ¬ a < b := fun {a b} ha hb hlt => by
    have b1 := hb.1
    have b2 := hb.2.1
    rcases ha.2.2.2 with w | w | w
    · omega
    · omega
    · exact w (tw_less hb.1 hb.2.1 (by omega) hb.2.2.1)
  have := key h h'
  have := key h' h
  omega
open Enc (en)
theorem le_iff (x y : Str) : (!strLt y x) = true ↔ x = y ∨ strLt x y = true := by
  unfold strLt
  rw [Bool.not_eq_true', decide_eq_false_iff_not, decide_eq_true_iff, List.not_lt]
  constructor
  · intro h
    by_cases c : x.cps.toList < y.cps.toList
    · exact .inr c
    · exact .inl (PySem.W.str_of_cps (List.le_antisymm h (List.not_lt.mp c)))
  · rintro (rfl | h)
    · exact List.le_refl _
    · exact List.le_of_lt h
theorem gd_p5 {n : Nat} {ys : List P5} (hl : ys.length ≤ 100000) : Gd (n + 3) (en ys) := gd_lst hl fun x _ => by
  refine .inl ⟨.tup, [en x.t, en x.i, en x.u, en x.j, en x.m], .inr rfl, rfl, by show 5 ≤ _; decide, fun c hc => ?_⟩
  simp only [List.mem_cons, List.not_mem_nil, or_false] at hc
  rcases hc with rfl | rfl | rfl | rfl | rfl
  · exact gd_str n _
  · exact gd_int n _
  · exact gd_str n _
  · exact gd_int n _
  · exact gd_int n _
--@@
open Enc (en)
open Enc (en)
theorem fn_nl {x : Str} (h : Fn x) : Nl x := by
  unfold Fn freeB at h
  rw [Bool.and_eq_true] at h
  exact name_nl h.1
theorem us_kept {y : Str} (h : 95 ∈ y.cps.toList) : y ∉ keptL := by
  have k : ∀ y ∈ keptL, 95 ∉ y.cps.toList := by decide +kernel
  exact fun z => k y z h
def stemF (x : Str) : Str := Str.empty ++ cutS x none (some 15)
theorem stem_nl {x : Str} (h : Nl x) : Nl (stemF x) ∧ (stemF x).length ≤ 15 := by
  have e1 : (cutS x none (some 15)).cps.toList = x.cps.toList.take 15 := cut_take x (by decide)
  obtain ⟨c, r, e, h1, h2⟩ := h
  refine ⟨⟨c, r.take 14, ?_, h1, fun d hd => h2 d (List.mem_of_mem_take hd)⟩, ?_⟩
  · unfold stemF
    rw [app_listS, e1, e]
    rfl
  · unfold stemF
    rw [← str_len, app_listS, e1, List.length_append, List.length_take]
    show 0 + _ ≤ 15
    omega
theorem us_l : (Str.ofString "_").cps.toList = [95] := by decide +kernel
theorem fn_cand {x : Str} (h : Fn x) {k : Nat} (hk : k ≤ 1000) : Fn (candF x k) := by
  obtain ⟨n1, n2⟩ := cand_ok (k := k) (fn_nl h) hk
  refine nl_free n1 n2 (us_kept ?_)
  unfold candF
  rw [app_listS, app_listS, us_l]
  simp
theorem num3 {k : Nat} (h : k < 1000) : (Str.ofString (toString (k : Int))).length ≤ 3 := by
  have e : (Str.ofString (toString ((k : Nat) : Int))).cps.toList = TL.numL k := TL.tl_num k
  rw [← str_len, e]
  exact TL.numL_len (by decide) (by omega)
theorem fn_cand2 {x : Str} (h : Fn x) {k : Nat} (hk : k < 1000) : Fn (candF x k ++ Str.ofString "_") := by
  obtain ⟨n1, n2⟩ := cand_ok (k := k) (fn_nl h) (by omega)
  refine nl_free (nl_app n1 fun d hd => ?_) ?_ (us_kept ?_)
  · rw [us_l] at hd
    rw [List.mem_singleton.mp hd]
    decide
  · have := (stem_nl (fn_nl h)).2
    have h3 := num3 hk
    have hu : (Str.ofString "_").length = 1 := len_us
    unfold candF
    show (((stemF x ++ Str.ofString "_") ++ Str.ofString (toString (k : Int))) ++ Str.ofString "_").length ≤ 20
    rw [app_lenS, app_lenS, app_lenS]
    omega
  · rw [app_listS, us_l]
    simp
theorem us2_l : (Str.ofString "__").cps.toList = [95, 95] := by decide +kernel
theorem fn_two {x : Str} (h : Fn x) : Fn (stemF x ++ Str.ofString "__") := by
  obtain ⟨n1, n2⟩ := stem_nl (fn_nl h)
  refine nl_free (nl_app n1 fun d hd => ?_) ?_ (us_kept ?_)
  · rw [us2_l] at hd
    have : d = 95 := by simpa using hd
    rw [this]
    decide
  · have hu : (Str.ofString "__").length = 2 := by decide +kernel
    rw [app_lenS]
    omega
  · rw [app_listS, us2_l]
    simp
theorem sem_law_rows : Sem S_law_rows t_law_rows 13 := by
  rintro _ Q0 E0 ⟨s, u, rfl, hs, hU, hul, hq⟩
  walk_at "in"
  unfold t_law_rows
  walk_at "dn"
  walk_at "st"
  walk_at "st"
  walk_at "st"
  walk_at "st"
  rename_i k1 s1 hs1 hk1 k2 s2 hs2 hk2 k3 s3 hs3 hk3
  obtain ⟨n, hn⟩ : ∃ n : Nat, 18 + (k1 : Int) = (n : Int) := ⟨18 + k1, by omega⟩
  have hn1 : 18 ≤ n ∧ n ≤ 33 := by omega
  rw [hn]
  refine w_cut1 (fun ρ => ∃ (s : St) (us some : List Str), s.ok ∧ Used (u ++ us) ∧ us.length ≤ 7 ∧ (k2 = 1 → 0 < some.length) ∧ some.length ≤ 7 ∧ (∀ x ∈ some, Fn x) ∧ ρ = [.w s.d, .w (eo (u ++ us)), .v (en (n : Int)), .v (en (k2 : Int)), .v (en (k3 : Int)), .v (eo some), .un, .un, .un, .un, .un, .un, .un]) (fun K hK => ?_) ?_
  · walk_at "dg"
    refine w_if (fun c1 => ?_) fun c1 => ?_
    · walk_at "dg"
      rename_i k4 s4 hs4 hk4
      rw [show (2 + (k4 : Int)).toNat = 2 + k4 by omega]
      refine lc_inv2 (F := fun i : Nat => .p (.int (i : Nat))) (fun z : St × List Str => [.w z.1.d, .w (eo (u ++ z.2)), .v (en (n : Int)), .v (en (k2 : Int)), .v (en (k3 : Int)), .v (D.n true Kd.lst []), .un, .un, .un, .un, .un, .un, .un]) (fun rest acc z => z.1.ok ∧ Used (u ++ z.2) ∧ acc = z.2.map en ∧ z.2.length + rest.length = 2 + k4 ∧ ∀ x ∈ z.2, Fn x) (s4, []) (by dsimp only; rw [List.append_nil]; rfl) ⟨hs4, by dsimp only; rw [List.append_nil]; exact hU, rfl, by rw [List.length_range]; simp, fun x hx => by cases hx⟩ (by rw [List.length_range]; simp; omega) ?_ ?_
      · rintro i rest acc ⟨s5, us⟩ ⟨g1, g2, rfl, g3, g4⟩ hacc K3 hK3
        dsimp only at g1 g2 g3 g4 ⊢
        rw [List.length_cons] at g3
        have hlu : (u ++ us).length ≤ 1000 := by rw [List.length_append]; omega
        walk_at "dg"
        refine use_name g1 g2 hlu fun s6 x hs6 hx hxn => ?_
        walk_at "dg"
        have hU2 := used_add g2 hx hxn (by omega)
        rw [List.append_assoc] at hU2 ⊢
        exact hK3 (s6, us ++ [x]) _ (by rw [List.length_append, List.length_singleton]; exact Nat.le_refl _) ⟨hs6, hU2, by rw [List.map_append]; rfl, by dsimp only; rw [List.length_append, List.length_singleton]; omega, fun y hy => by
          rcases List.mem_append.mp hy with hy | hy
          · exact g4 y hy
          · rw [List.mem_singleton.mp hy]; exact hx⟩
      · rintro acc ⟨s5, us⟩ ⟨g1, g2, rfl, g3, g4⟩
        dsimp only at g1 g2 g3 g4 ⊢
        rw [List.length_nil, Nat.add_zero] at g3
        walk_at "dg"
        exact hK _ ⟨s5, us, us, g1, g2, by omega, fun _ => by omega, by omega, g4, rfl⟩
    · walk_at "dg"
      refine hK _ ⟨s3, [], [], hs3, by rw [List.append_nil]; exact hU, by simp, fun z => ?_, by simp, (fun x hx => by cases hx), by rw [List.append_nil]; rfl⟩
      exact absurd (by rw [z]; rfl) (of_decide_eq_false c1)
  · rintro _ ⟨s4, us, some, hs4, hU2, hus, hp1, hp2, hso, rfl⟩
    have hlu : (u ++ us).length ≤ 1000 := by rw [List.length_append]; omega
    walk_at "dg"
    rename_i i1 s5 hs5 hi1 i2 s6 hs6 hi2
    refine use_name hs6 hU2 hlu fun s7 x hs7 hx hxn => ?_
    have hU3 := used_add hU2 hx hxn (by omega)
    rw [List.append_assoc] at hU3 ⊢
    have hxl := word_len (free_word hx)
    walk_at "dg"
    rename_i z ez lz
    rw [Int.toNat_natCast]
    refine lw_inv2 (F := fun i : Nat => .p (.int (i : Nat))) (fun y : St × Rows => [.w y.1.d, .w (eo (u ++ (us ++ [x]))), .un, .v (en (k2 : Int)), .v (en (k3 : Int)), .v (eo some), .v (en (i1 : Int)), .v (en (i2 : Int)), .v (en z), .v (eo y.2), .un, .un, .un]) (fun rest y => y.1.ok ∧ (∀ r ∈ y.2, (1 ≤ r.length ∧ r.length ≤ 2) ∧ (k2 = 0 → r.length = 1) ∧ ∀ w ∈ r, Fn w) ∧ y.2.length + rest.length = n ∧ (∀ i ∈ rest, i < n)) (s7, []) rfl ⟨hs7, (fun r h => by cases h), by rw [List.length_range]; simp, fun i hi => List.mem_range.mp hi⟩ ?_ ?_
    · rintro at_ rest ⟨s8, rows⟩ ⟨g1, g2, g3, g4⟩ K hK
      dsimp only at g1 g2 g3 g4 ⊢
      rw [List.length_cons] at g3
      have hat := g4 at_ (List.mem_cons_self ..)
      have hn4 := (num4 (k := at_) (by omega)).1
      have hus : (Str.ofString "_").length = 1 := len_us
      have ezc : ((Str.empty ++ z) ++ Str.ofString "_") ++ Str.ofString (toString (at_ : Int)) = candF x at_ := by rw [ez]; rfl
      have hfc := fn_cand hx (k := at_) (by omega)
      walk_at "dn"
      walk_at "st"
      rw [ezc]
      refine w_cut1 (fun ρ => ∃ (s : St) (r : List Str), s.ok ∧ ((1 ≤ r.length ∧ r.length ≤ 2) ∧ (k2 = 0 → r.length = 1) ∧ ∀ w ∈ r, Fn w) ∧ ρ = [.w s.d, .w (eo (u ++ (us ++ [x]))), .un, .v (en (k2 : Int)), .v (en (k3 : Int)), .v (eo some), .v (en (i1 : Int)), .v (en (i2 : Int)), .v (en z), .v (eo rows), .v (en (at_ : Int)), .v (eo r), .un]) (fun K2 hK2 => ?_) ?_
      · walk_at "dg"
        refine w_if (fun c1 => ?_) fun c1 => ?_
        · have c1 : k2 = 1 := by have := of_decide_eq_true c1; omega
          have hsp := hp1 c1
          walk_at "dg"
          rename_i k4 s9 hs9 hk4
          obtain ⟨q, hq9, hq1⟩ : ∃ q : Nat, 1 + (k3 : Int) * (k4 : Int) = (q : Int) ∧ 1 ≤ q ∧ q ≤ 2 := by
            rcases (show k3 = 0 ∨ k3 = 1 by omega) with rfl | rfl <;> rcases (show k4 = 0 ∨ k4 = 1 by omega) with rfl | rfl
            · exact ⟨1, by rfl, by omega, by omega⟩
            · exact ⟨1, by rfl, by omega, by omega⟩
            · exact ⟨1, by rfl, by omega, by omega⟩
            · exact ⟨2, by rfl, by omega, by omega⟩
          rw [hq9]
          walk_at "dg"
          rw [Int.toNat_natCast]
          refine lc_inv2 (F := fun i : Nat => .p (.int (i : Nat))) (fun y : St => [.w y.d, .w (eo (u ++ (us ++ [x]))), .un, .v (en (k2 : Int)), .v (en (k3 : Int)), .v (eo some), .v (en (i1 : Int)), .v (en (i2 : Int)), .v (en z), .v (eo rows), .v (en (at_ : Int)), .v (eo [candF x at_]), .un]) (fun rest acc y => y.ok ∧ ∃ r : List Str, acc = r.map en ∧ (∀ w ∈ r, Fn w) ∧ r.length + rest.length = q) s9 rfl ⟨hs9, [], rfl, (fun w h => by cases h), by rw [List.length_range]; simp⟩ (by rw [List.length_range]; simp; omega) ?_ ?_
          · rintro i rest2 acc s10 ⟨p1, r, rfl, p2, p3⟩ hacc K3 hK3
            rw [List.length_cons] at p3
            walk_at "dg"
            rename_i k5 s11 hs11 hk5 w hw gw
            exact hK3 s11 _ (by rw [List.length_append, List.length_singleton]; exact Nat.le_refl _) ⟨hs11, r ++ [w], by rw [List.map_append]; rfl, fun v hv => by
              rcases List.mem_append.mp hv with hv | hv
              · exact p2 v hv
              · rw [List.mem_singleton.mp hv]; exact hso w hw, by rw [List.length_append, List.length_singleton]; omega⟩
          · rintro acc s10 ⟨p1, r, rfl, p2, p3⟩
            rw [List.length_nil, Nat.add_zero] at p3
            walk_at "dg"
            exact hK2 _ ⟨s10, r, p1, ⟨by omega, fun z => by omega, p2⟩, rfl⟩
        · walk_at "dg"
          exact hK2 _ ⟨s8, [candF x at_], g1, ⟨⟨by simp, by simp⟩, fun _ => rfl, fun w hw => by rw [List.mem_singleton.mp hw]; exact hfc⟩, rfl⟩
      · rintro _ ⟨s9, r, hs9, hr, rfl⟩
        walk_at "dg"
        refine hK (s9, rows ++ [r]) _ ⟨hs9, fun r' hr' => ?_, by dsimp only; rw [List.length_append, List.length_singleton]; omega, fun i hi => g4 i (List.mem_cons_of_mem _ hi)⟩ (by walk_at "ne")
        rcases List.mem_append.mp hr' with hr' | hr'
        · exact g2 r' hr'
        · rw [List.mem_singleton.mp hr']; exact hr
    · rintro ⟨s8, rows⟩ ⟨g1, g2, g3, g4⟩
      dsimp only at g1 g2 g3 g4 ⊢
      rw [List.length_nil, Nat.add_zero] at g3
      walk_at "dg"
      have hc27 : ∀ r ∈ rows, (1 ≤ r.length ∧ r.length ≤ 2) ∧ ∀ w ∈ r, Fn w := fun r hr => ⟨(g2 r hr).1, (g2 r hr).2.2⟩
      have hU4 : Used (u ++ (us ++ [x])) := hU3
      have hul4 : (us ++ [x]).length ≤ 9 := by rw [List.length_append, List.length_singleton]; omega
      refine w_if (fun c1 => ?_) fun c1 => ?_
      · have c1 : k2 = 0 := by have := of_decide_eq_true c1; omega
        have hus2 : (Str.ofString "__").length = 2 := by decide +kernel
        walk_at "dg"
        rename_i r hr gr
        rw [show (Str.empty ++ z) ++ Str.ofString "__" = stemF x ++ Str.ofString "__" by rw [ez]; rfl]
        have hf2 := fn_two hx
        have hr1 := (g2 r hr).2.1 c1
        rw [show cutD r none none = r by unfold cutD HT.sIx; simp]
        refine w_repL (by rfl) ⟨by omega, by omega⟩ (by rw [Int.toNat_natCast, List.length_singleton]; omega) ?_
        obtain ⟨tl, etl, htl1, htl2⟩ : ∃ tl : List Str, (List.replicate (k3 : Int).toNat [D.p (V.str (stemF x ++ Str.ofString "__"))]).flatten = tl.map en ∧ tl.length ≤ 1 ∧ ∀ w ∈ tl, w = stemF x ++ Str.ofString "__" := by
          rcases (show k3 = 0 ∨ k3 = 1 by omega) with rfl | rfl
          · exact ⟨[], rfl, by simp, fun w h => by cases h⟩
          · exact ⟨[stemF x ++ Str.ofString "__"], rfl, by simp, fun w h => List.mem_singleton.mp h⟩
        rw [etl]
        walk_at "dg"
        refine m_setE (l := i2) (a := r ++ tl) (by unfold ixN; rw [if_pos (by omega)]; simp; omega) ?_
        walk_at "dg"
        refine ⟨_, rfl, hq s8 _ _ g1 (by rw [List.length_set]; omega) (fun r' hr' => ?_) hul4 hU4⟩
        rcases List.mem_or_eq_of_mem_set hr' with hr' | rfl
        · exact hc27 r' hr'
        · refine ⟨⟨by rw [List.length_append]; omega, by rw [List.length_append]; omega⟩, fun w hw => ?_⟩
          rcases List.mem_append.mp hw with hw | hw
          · exact (hc27 r hr).2 w hw
          · rw [htl2 w hw]; exact hf2
      · walk_at "dg"
        exact ⟨_, rfl, hq s8 rows _ g1 (by omega) hc27 hul4 hU4⟩
--@@
theorem part_succ {rows : Rows} {f k : Nat} {r : List Str} (h : rows[f + k]? = some r) : part rows f (k + 1) = part rows f k ++ [r] := by
  unfold part
  rw [List.take_add_one, List.getElem?_drop, h]
  rfl
theorem lens_part {one two : Rows} (h : one.map List.length = two.map List.length) (f k : Nat) : (part one f k).map List.length = (part two f k).map List.length := by
  unfold part
  rw [List.map_take, List.map_drop, h, ← List.map_drop, ← List.map_take]
theorem lens_get {one two : Rows} (h : one.map List.length = two.map List.length) {i : Nat} {r r' : List Str} (h1 : one[i]? = some r) (h2 : two[i]? = some r') : r.length = r'.length := by
  have e1 : (one.map List.length)[i]? = some r.length := by rw [List.getElem?_map, h1]; rfl
  have e2 : (two.map List.length)[i]? = some r'.length := by rw [List.getElem?_map, h2]; rfl
  rw [h, e2] at e1
  exact (Option.some.inj e1).symm
theorem prs_snoc {a b : Rows} {r r' : List Str} (h : a.length = b.length) : prs (a ++ [r]) (b ++ [r']) = prs a b ++ r.zip r' := by
  unfold prs
  rw [List.zip_append h, List.flatMap_append]
  simp
theorem prs_free {a b : Rows} (ha : ∀ r ∈ a, ∀ w ∈ r, Fn w) (hb : ∀ r ∈ b, ∀ w ∈ r, Fn w) : ∀ p ∈ prs a b, freeB p.1 = true ∧ freeB p.2 = true := fun p hp => by
  unfold prs at hp
  obtain ⟨q, hq, hp⟩ := List.mem_flatMap.mp hp
  obtain ⟨q1, q2⟩ := List.of_mem_zip hq
  obtain ⟨p1, p2⟩ := List.of_mem_zip hp
  exact ⟨ha _ q1 _ p1, hb _ q2 _ p2⟩
theorem part_mem {rows : Rows} {f k : Nat} {r : List Str} (h : r ∈ part rows f k) : r ∈ rows := List.mem_of_mem_drop (List.mem_of_mem_take h)
theorem fr2_part {rows : Rows} (h : Fr2 rows) (f k : Nat) : ∀ r ∈ part rows f k, ∀ w ∈ r, Fn w := fun r hr => (h r (part_mem hr)).2
theorem tw_of {one two : Rows} (h1 : Fr2 one) (h2 : Fr2 two) (hl : one.map List.length = two.map List.length) {f k : Nat} {fo ba : List (Str × Str)} (g1 : ∀ a b, aget fo a = some b ↔ (a, b) ∈ prs (part one f k) (part two f k)) (g2 : ∀ b a, aget ba b = some a ↔ (a, b) ∈ prs (part one f k) (part two f k)) : Tw (part one f k) (part two f k) := by
  have hf := prs_free (fr2_part h1 f k) (fr2_part h2 f k)
  refine ⟨lens_part hl f k, fun p hp => .inl (hf p hp), fun p hp q hq _ _ _ _ => ⟨fun e => ?_, fun e => ?_⟩⟩
  · have a1 := (g1 p.1 p.2).mpr hp
    have a2 := (g1 q.1 q.2).mpr hq
    rw [e, a2] at a1
    exact (Option.some.inj a1).symm
  · have a1 := (g2 p.2 p.1).mpr hp
    have a2 := (g2 q.2 q.1).mpr hq
    rw [e, a2] at a1
    exact (Option.some.inj a1).symm
theorem tw_putB {fo : List (Str × Str)} {ts : List (Str × Str)} {x y : Str} (h : ∀ a b, aget fo a = some b ↔ (b, a) ∈ ts) (e : (aget fo x).getD y = y) : ∀ a b, aget (aput fo x y) a = some b ↔ (b, a) ∈ ts ++ [(y, x)] := by
  intro a b
  rw [aget_put, List.mem_append, List.mem_singleton, Prod.mk.injEq]
  by_cases z : a = x
  · subst z
    rw [if_pos rfl, Option.some.injEq]
    constructor
    · intro z; exact .inr ⟨z.symm, rfl⟩
    · rintro (z | z)
      · rw [(h a b).mpr z] at e; exact e.symm
      · exact z.1.symm
  · rw [if_neg z, h]
    exact ⟨.inl, fun w => w.elim id fun w => absurd w.2 z⟩
theorem sem_law_end : Sem S_law_end t_law_end 8 := by
  rintro _ Q0 E0 ⟨one, two, first, rfl, h1, h2, hlen, h33, hfl, hq⟩
  have hl2 : two.length = one.length := by
    have := congrArg List.length hlen
    rw [List.length_map, List.length_map] at this
    exact this.symm
  walk_at "in"
  unfold t_law_end
  walk_at "dg"
  obtain ⟨L, hL⟩ : ∃ L : Nat, first + L = one.length := ⟨one.length - first, by omega⟩
  rw [show ((one.length : Nat) - (first : Int) : Int).toNat = L by omega]
  refine lw_inv2 (F := fun n : Nat => D.p (V.int ((first + n : Nat) : Int))) (fun z : List (Str × Str) × List (Str × Str) => [.v (en one), .v (en two), .v (en (first : Int)), .v (dE true z.1), .v (dE true z.2), .un, .un, .un])
    (fun rest z => ∃ k, rest = List.range' k (L - k) ∧ k ≤ L ∧ (∀ a b, aget z.1 a = some b ↔ (a, b) ∈ prs (part one first k) (part two first k)) ∧ (∀ b a, aget z.2 b = some a ↔ (a, b) ∈ prs (part one first k) (part two first k)) ∧ z.1.length ≤ 2 * k ∧ z.2.length ≤ 2 * k) ([], []) rfl
    ⟨0, by rw [List.range_eq_range']; rfl, Nat.zero_le _, fun a b => by rw [part_zero, part_zero]; exact ⟨fun z => (by cases z), fun z => (by cases z)⟩, fun a b => by rw [part_zero, part_zero]; exact ⟨fun z => (by cases z), fun z => (by cases z)⟩, by simp, by simp⟩ ?_ ?_
  · rintro i rest ⟨fo, ba⟩ ⟨k, e0, hk, g1, g2, g3, g4⟩ K hK
    dsimp only at g1 g2 g3 g4 ⊢
    obtain ⟨m, hm⟩ : ∃ m, L - k = m + 1 := by
      cases e : L - k with
      | zero => rw [e] at e0; cases e0
      | succ m => exact ⟨m, rfl⟩
    rw [hm, List.range'_succ] at e0
    injection e0 with e0 e1
    subst e0
    have hik : first + i < one.length := by omega
    have gr : one[first + i]? = some one[first + i] := List.getElem?_eq_getElem hik
    have gr2 : two[first + i]? = some two[first + i] := List.getElem?_eq_getElem (by omega)
    have hrl := lens_get hlen gr gr2
    have hr1 := h1 _ (List.getElem_mem hik)
    have hr2 := h2 _ (List.getElem_mem (show first + i < two.length by omega))
    generalize one[first + i] = r at gr hrl hr1
    generalize two[first + i] = r' at gr2 hrl hr2
    have hpl : (part one first i).length = (part two first i).length := by rw [part_len (by omega), part_len (by omega)]
    have hps : prs (part one first (i + 1)) (part two first (i + 1)) = prs (part one first i) (part two first i) ++ r.zip r' := by rw [part_succ gr, part_succ gr2, prs_snoc hpl]
    have htw := tw_of h1 h2 hlen g1 g2
    have hret : ¬ Tw (part one first (i + 1)) (part two first (i + 1)) → Q0 (en ((first + i : Nat) : Int)) [en one, en two, en (first : Int)] := fun z => hq i ⟨by omega, by omega, htw, .inr (.inr z)⟩
    walk_at "dg"
    rename_i ra hra gra rb hrb grb
    obtain rfl : r = ra := Option.some.inj (gr.symm.trans gra)
    obtain rfl : r' = rb := Option.some.inj (gr2.symm.trans grb)
    refine w_if_f (by rw [hrl]; simp) ?_
    walk_at "dg"
    rename_i rc hrc grc rd hrd grd
    obtain rfl : r = rc := Option.some.inj (gr.symm.trans grc)
    obtain rfl : r' = rd := Option.some.inj (gr2.symm.trans grd)
    have hzl : (r.zip r').length ≤ 2 := by rw [List.length_zip]; omega
    have hfa := prs_free (fr2_part h1 first (i + 1)) (fr2_part h2 first (i + 1))
    refine lw_inv2 (fun z : List (Str × Str) × List (Str × Str) => [.v (en one), .v (en two), .v (en (first : Int)), .v (dE true z.1), .v (dE true z.2), .v (en ((first + i : Nat) : Int)), .un, .un])
      (fun rest2 z => ∃ done2, r.zip r' = done2 ++ rest2 ∧ (∀ u v, aget z.1 u = some v ↔ (u, v) ∈ prs (part one first i) (part two first i) ++ done2) ∧ (∀ v u, aget z.2 v = some u ↔ (u, v) ∈ prs (part one first i) (part two first i) ++ done2) ∧ z.1.length + rest2.length ≤ 2 * i + 2 ∧ z.2.length + rest2.length ≤ 2 * i + 2) (fo, ba) rfl
      ⟨[], rfl, by rw [List.append_nil]; exact g1, by rw [List.append_nil]; exact g2, by dsimp only; omega, by dsimp only; omega⟩ ?_ ?_
    · rintro ⟨x, y⟩ rest2 ⟨fo', ba'⟩ ⟨done2, i1, i3, i3', i4, i5⟩ K2 hK2
      rw [List.length_cons] at i4 i5
      dsimp only at i3 i3' i4 i5 ⊢
      have hmem : (x, y) ∈ prs (part one first (i + 1)) (part two first (i + 1)) := by rw [hps, i1]; simp
      have hin : ∀ p, p ∈ prs (part one first i) (part two first i) ++ done2 → p ∈ prs (part one first (i + 1)) (part two first (i + 1)) := fun p hp => by
        rw [hps, i1]
        rcases List.mem_append.mp hp with z | z
        · exact List.mem_append_left _ z
        · exact List.mem_append_right _ (List.mem_append_left _ z)
      have bad1 : (aget fo' x).getD y ≠ y → ¬ Tw (part one first (i + 1)) (part two first (i + 1)) := fun w z => by
        cases e : aget fo' x with
        | none => rw [e] at w; exact w rfl
        | some c =>
          rw [e] at w
          have h := hin _ ((i3 x c).mp e)
          exact w ((z.2.2 _ h _ hmem (hfa _ h).1 (hfa _ h).2 (hfa _ hmem).1 (hfa _ hmem).2).mp rfl)
      have bad2 : (aget ba' y).getD x ≠ x → ¬ Tw (part one first (i + 1)) (part two first (i + 1)) := fun w z => by
        cases e : aget ba' y with
        | none => rw [e] at w; exact w rfl
        | some c =>
          rw [e] at w
          have h := hin _ ((i3' y c).mp e)
          exact w ((z.2.2 _ h _ hmem (hfa _ h).1 (hfa _ h).2 (hfa _ hmem).1 (hfa _ hmem).2).mpr rfl)
      walk_at "dg"
      rw [getD_en]
      walk_at "dg"
      refine w_if (fun a => ?_) fun a => ?_
      · walk_at "dg"
        try refine w_if_t rfl ?_
        walk_at "dg"
        exact hret (bad1 (dc_f.mp (by simpa using a)))
      walk_at "dg"
      rw [getD_en]
      walk_at "dg"
      refine w_if (fun a2 => ?_) fun a2 => ?_
      · walk_at "dg"
        exact hret (bad2 (dc_f.mp (by simpa using a2)))
      have a : _ = _ := dc_t.mp (by simpa using a)
      have a2 : _ = _ := dc_t.mp (by simpa using a2)
      walk_at "dg"
      any_goals exact (inferInstance : DecidableEq Str)
      have l1' := aput_len fo' x y
      have l2' := aput_len ba' y x
      refine hK2 (aput fo' x y, aput ba' y x) _ ⟨done2 ++ [(x, y)], by rw [i1, List.append_assoc]; rfl, ?_, ?_, by dsimp only; omega, by dsimp only; omega⟩ (by walk_at "ne")
      · rw [← List.append_assoc]; exact tw_put i3 a
      · rw [← List.append_assoc]; exact tw_putB i3' a2
    · rintro ⟨fo', ba'⟩ ⟨done2, i1, i3, i3', i4, i5⟩
      dsimp only at i3 i3' i4 i5 ⊢
      rw [List.append_nil] at i1
      rw [← i1, ← hps] at i3 i3'
      rw [List.length_nil] at i4 i5
      refine hK (fo', ba') _ ⟨i + 1, by rw [e1, show L - (i + 1) = m by omega], by omega, i3, i3', by dsimp only; omega, by dsimp only; omega⟩ (by walk_at "ne")
  · rintro ⟨fo, ba⟩ ⟨k, e0, hk, g1, g2, g3, g4⟩
    have : k = L := by
      have := congrArg List.length e0
      rw [List.length_range'] at this
      simp at this
      omega
    subst this
    walk_at "dg"
    have := hq k ⟨by omega, by omega, tw_of h1 h2 hlen g1 g2, .inl hL⟩
    rw [hL] at this
    exact this
--@@
theorem sem_law_copied : Sem S_law_copied t_law_copied 12 := by
  rintro _ Q0 E0 ⟨s, rows, u, rfl, hs, ⟨hrl0, hrl⟩, hF, hU, hul, hq⟩
  walk_at "in"
  unfold t_law_copied
  walk_at "dg"
  refine lw_inv2 (fun ns : List Str => [.w s.d, .v (en rows), .w (eo u), .v (eo ns), .un, .un, .un, .un, .un, .un, .un, .un]) (fun rest ns => ∃ done, rows = done ++ rest ∧ ns.Nodup ∧ (∀ x ∈ ns, Fn x) ∧ (∀ r ∈ done, ∀ w ∈ r, w ∈ ns) ∧ ns.length ≤ 2 * done.length) [] rfl ⟨[], rfl, List.nodup_nil, (fun x h => by cases h), (fun r h => by cases h), by simp⟩ ?_ ?_
  · rintro row rest ns ⟨done, e0, g1, g2, g3, g4⟩ K hK
    have hrm : row ∈ rows := by rw [e0]; simp
    obtain ⟨⟨hr1, hr2⟩, hr3⟩ := hF row hrm
    have hdl : done.length ≤ 33 := by
      have := congrArg List.length e0
      rw [List.length_append] at this
      omega
    walk_at "dg"
    have fin : ∀ L : List Str, (ns ++ L).Nodup → (∀ x ∈ L, x ∈ row) → (∀ x ∈ row, x ∈ ns ++ L) → L.length ≤ row.length → ∀ ρ', wipeD ρ' [4, 5, 6, 7, 8, 9, 10, 11] = [.w s.d, .v (en rows), .w (eo u), .v (eo (ns ++ L)), .un, .un, .un, .un, .un, .un, .un, .un] → K ρ' := fun L f1 f2 f3 f4 ρ' he => by
      refine hK (ns ++ L) ρ' ⟨done ++ [row], by rw [e0, List.append_assoc]; rfl, f1, fun x hx => ?_, fun r hr w hw => ?_, ?_⟩ he
      · rcases List.mem_append.mp hx with hx | hx
        · exact g2 x hx
        · exact hr3 x (f2 x hx)
      · rcases List.mem_append.mp hr with hr | hr
        · exact List.mem_append_left _ (g3 r hr w hw)
        · rw [List.mem_singleton.mp hr] at hw
          exact f3 w hw
      · rw [List.length_append, List.length_append, List.length_singleton]
        omega
    refine lc_inv2 (F := fun p : Str × Nat => en ((p.2 : Int), p.1)) (fun _ : Unit => [.w s.d, .v (en rows), .w (eo u), .v (eo ns), .v (en row), .un, .un, .un, .un, .un, .un, .un]) (fun rest acc _ => ∃ (k : Nat) (L : List Str), rest = (row.drop k).zipIdx k ∧ k ≤ row.length ∧ acc = L.map en ∧ (ns ++ L).Nodup ∧ (∀ x ∈ L, x ∈ row.take k) ∧ (∀ x ∈ row.take k, x ∈ ns ++ L) ∧ L.length ≤ k) () rfl ⟨0, [], by rw [List.drop_zero], Nat.zero_le _, rfl, by rw [List.append_nil]; exact g1, (fun x h => by cases h), (fun x h => by cases h), Nat.le_refl _⟩ (by rw [List.length_zipIdx]; simp; omega) ?_ ?_
    · rintro a rest2 acc _ ⟨k, L, p0, p1, rfl, p2, p3, p4, p5⟩ hacc K3 hK3
      have hkl : k < row.length := by
        rcases Nat.lt_or_ge k row.length with h | h
        · exact h
        · rw [List.drop_of_length_le h] at p0; cases p0
      rw [List.drop_eq_getElem_cons hkl, List.zipIdx_cons] at p0
      injection p0 with p0 p0'
      subst p0
      have htk : row.take (k + 1) = row.take k ++ [row[k]] := by rw [List.take_add_one, List.getElem?_eq_getElem hkl]; rfl
      have hxm : row[k] ∈ row := List.getElem_mem hkl
      generalize row[k] = x at htk hxm
      dsimp only
      have hskip : x ∈ ns ++ L → K3 [.w s.d, .v (en rows), .w (eo u), .v (eo ns), .v (en row), .un, .un, .un, .un, .un, .un, .un] (L.map en) := fun hx => hK3 () _ (by omega) ⟨k + 1, L, p0', by omega, rfl, p2, fun y hy => by rw [htk]; exact List.mem_append_left _ (p3 y hy), fun y hy => by
        rw [htk] at hy
        rcases List.mem_append.mp hy with hy | hy
        · exact p4 y hy
        · rw [List.mem_singleton.mp hy]; exact hx, by omega⟩
      walk_at "dg"
      refine w_if (fun c1 => ?_) fun c1 => ?_
      · have c1 : x ∉ ns := dc_f.mp (by simpa using c1)
        walk_at "dg"
        rw [cutD_hi (by omega)]
        refine w_if (fun c2 => ?_) fun c2 => ?_
        · have c2 : x ∉ row.take k := dc_f.mp (by simpa using c2)
          walk_at "dg"
          refine hK3 () _ (by rw [List.length_append, List.length_singleton]; exact Nat.le_refl _) ⟨k + 1, L ++ [x], p0', by omega, by rw [List.map_append]; rfl, ?_, fun y hy => ?_, fun y hy => ?_, by rw [List.length_append, List.length_singleton]; omega⟩
          · rw [← List.append_assoc, List.nodup_append]
            refine ⟨p2, by simp, fun a ha b hb => ?_⟩
            rw [List.mem_singleton.mp hb]
            intro z
            subst z
            rcases List.mem_append.mp ha with ha | ha
            · exact c1 ha
            · exact c2 (p3 _ ha)
          · rw [htk]
            rcases List.mem_append.mp hy with hy | hy
            · exact List.mem_append_left _ (p3 y hy)
            · exact List.mem_append_right _ hy
          · rw [htk] at hy
            rw [← List.append_assoc]
            rcases List.mem_append.mp hy with hy | hy
            · exact List.mem_append_left _ (p4 y hy)
            · exact List.mem_append_right _ hy
        · walk_at "dg"
          have c2 : x ∈ row.take k := dc_t.mp (by simpa using c2)
          exact hskip (p4 x c2)
      · walk_at "dg"
        have c1 : x ∈ ns := dc_t.mp (by simpa using c1)
        exact hskip (List.mem_append_left _ c1)
    · rintro acc _ ⟨k, L, p0, p1, rfl, p2, p3, p4, p5⟩
      have hk : k = row.length := by
        rcases Nat.lt_or_ge k row.length with h | h
        · rw [List.drop_eq_getElem_cons h, List.zipIdx_cons] at p0; cases p0
        · omega
      subst hk
      rw [List.take_length] at p3 p4
      walk_at "dg"
      refine fin L p2 p3 p4 p5 _ ?_
      walk_at "ne"
  · rintro ns ⟨done, e0, g1, g2, g3, g4⟩
    rw [List.append_nil] at e0
    subst e0
    have hnl : ns.length ≤ 66 := by omega
    have hn0 : 0 < ns.length := by
      have h0 : 0 < rows.length := by omega
      have hm := List.getElem_mem h0
      have h1 := (hF _ hm).1.1
      obtain ⟨w, hw⟩ : ∃ w, w ∈ rows[0] := by
        cases e : rows[0] with
        | nil => rw [e] at h1; simp at h1
        | cons w r => exact ⟨w, List.mem_cons_self ..⟩
      exact List.length_pos_of_mem (g3 _ hm w hw)
    walk_at "dg"
    refine use_name hs hU (by omega) fun s1 x hs1 hx hxn => ?_
    have hxl := word_len (free_word hx)
    walk_at "dg"
    rename_i z ez lz
    rw [Int.toNat_natCast]
    refine lc_enc (fun k : Nat => candF x k ++ Str.ofString "_") ?_ (by rw [List.length_range]; omega) ?_
    · intro k hk acc kk kk' hacc hgo
      have hk : k < ns.length := List.mem_range.mp hk
      have hn4 := (num4 (k := k) (by omega)).1
      have hus : (Str.ofString "_").length = 1 := len_us
      walk_at "dg"
      rw [show Str.empty ++ z ++ Str.ofString "_" ++ Str.ofString (toString (k : Int)) ++ Str.ofString "_" = candF x k ++ Str.ofString "_" by rw [ez]; rfl]
      exact hgo
    have hs0 : ∀ y ∈ (List.range ns.length).map (fun k : Nat => candF x k ++ Str.ofString "_"), Fn y := fun y hy => by
      obtain ⟨k, hk, rfl⟩ := List.mem_map.mp hy
      have := List.mem_range.mp hk
      exact fn_cand2 hx (by omega)
    have hs1l : ((List.range ns.length).map (fun k : Nat => candF x k ++ Str.ofString "_")).length = ns.length := by rw [List.length_map, List.length_range]
    generalize (List.range ns.length).map (fun k : Nat => candF x k ++ Str.ofString "_") = so at hs0 hs1l
    walk_at "dn"
    refine w_cut1 (fun ρ => ∃ (s : St) (so : List Str), s.ok ∧ (∀ y ∈ so, Fn y) ∧ so.length = ns.length ∧ ρ = [.w s.d, .v (en rows), .w (eo (u ++ [x])), .v (eo ns), .un, .v (en z), .v (eo so), .un, .un, .un, .un, .un]) (fun K hK => ?_) ?_
    · walk_at "dg"
      rename_i k1 s2 hs2 hk1
      refine w_if (fun c1 => ?_) fun c1 => ?_
      · walk_at "dg"
        exact hK _ ⟨s2, ns, hs2, g2, rfl, rfl⟩
      · walk_at "dg"
        exact hK _ ⟨s2, so, hs2, hs0, hs1l, rfl⟩
    clear hs0 hs1l
    clear so
    rintro _ ⟨s2, so, hs2, hso, hsl, rfl⟩
    walk_at "dg"
    refine lw_inv2 (fun y : St × List Str × List (Str × Str) => [.w y.1.d, .v (en rows), .w (eo (u ++ [x])), .v (en ns), .un, .un, .v (eo y.2.1), .v (dE true y.2.2), .un, .un, .un, .un]) (fun rest y => y.1.ok ∧ (∀ w ∈ y.2.1, Fn w) ∧ y.2.1.length = rest.length ∧ ∃ done, ns = done ++ rest ∧ y.2.2.map (·.1) = done ∧ ∀ p ∈ y.2.2, Fn p.2) (s2, so, []) rfl ⟨hs2, hso, hsl, [], rfl, rfl, fun p h => by cases h⟩ ?_ ?_
    · rintro nm rest ⟨s3, so, kv⟩ ⟨q1, q2, q3, done, q4, q5, q6⟩ K hK
      dsimp only at q1 q2 q3 q5 q6 ⊢
      rw [List.length_cons] at q3
      have hkl : kv.length ≤ 66 := by
        have e1 := congrArg List.length q4
        have e2 := congrArg List.length q5
        rw [List.length_append] at e1
        rw [List.length_map] at e2
        omega
      have hsl2 : so.length ≤ 66 := by
        have e1 := congrArg List.length q4
        rw [List.length_append, List.length_cons] at e1
        omega
      have hnk : nm ∉ kv.map (·.1) := by
        rw [q5]
        rw [q4, List.nodup_append] at g1
        exact fun z => g1.2.2 _ z nm (by simp) rfl
      walk_at "dg"
      any_goals exact (inferInstance : DecidableEq Str)
      rename_i k3 s4 hs4 hk3 v hv gv
      have ea : aput kv nm v = kv ++ [(nm, v)] := by
        unfold aput
        rw [if_neg hnk]
      simp only [ea]
      refine hK (s4, so.eraseIdx k3, kv ++ [(nm, v)]) _ ⟨hs4, fun w hw => q2 w ((List.eraseIdx_sublist _ _).subset hw), by dsimp only; rw [List.length_eraseIdx_of_lt (by omega)]; omega, done ++ [nm], by rw [q4, List.append_assoc]; rfl, by dsimp only; rw [List.map_append, q5]; rfl, fun p hp => ?_⟩ (by walk_at "ne")
      rcases List.mem_append.mp hp with hp | hp
      · exact q6 p hp
      · rw [List.mem_singleton.mp hp]; exact q2 v hv
    · rintro ⟨s3, so, kv⟩ ⟨q1, q2, q3, done, q4, q5, q6⟩
      dsimp only at q1 q2 q3 q5 q6 ⊢
      rw [List.append_nil] at q4
      subst q4
      have hget : ∀ w ∈ ns, ∃ v, aget kv w = some v ∧ Fn v := fun w hw => by
        cases e : aget kv w with
        | none => exact absurd (by rw [q5]; exact hw) (aget_none.mp e)
        | some v => exact ⟨v, rfl, q6 _ (aget_mem e)⟩
      walk_at "dg"
      refine lc_all (w := fun r : List Str => (eo (r.map fun w => (aget kv w).getD w) : D)) ?_ (by omega) ?_
      · intro r hr acc kk kk' hn2 hk2
        have := (hF r hr).1
        walk_at "dg"
        refine lc_enc (fun w : Str => (aget kv w).getD w) ?_ (by omega) ?_
        · intro w hw acc2 k3 k3' hn3 hk3
          obtain ⟨v, hv, _⟩ := hget w (g3 r hr w hw)
          walk_at "dg"
          refine w_ixD (b := v) hv ?_
          walk_at "dg"
          rw [hv] at hk3
          exact hk3
        · walk_at "dg"
          exact hk2
      have hc1 : (copyF kv rows).map List.length = rows.map List.length := by
        unfold copyF
        rw [List.map_map]
        exact List.map_congr_left fun r _ => by simp
      have hc2 : Fr2 (copyF kv rows) := fun r hr => by
        unfold copyF at hr
        obtain ⟨r0, hr0, rfl⟩ := List.mem_map.mp hr
        refine ⟨by rw [List.length_map]; exact (hF r0 hr0).1, fun w hw => ?_⟩
        obtain ⟨w0, hw0, rfl⟩ := List.mem_map.mp hw
        obtain ⟨v, hv, hfv⟩ := hget w0 (g3 r0 hr0 w0 hw0)
        rw [hv]
        exact hfv
      rw [show (rows.map fun r : List Str => (eo (r.map fun w => (aget kv w).getD w) : D)) = (copyF kv rows).map eo by unfold copyF; rw [List.map_map]; rfl]
      have hcl : (copyF kv rows).length = rows.length := by unfold copyF; rw [List.length_map]
      generalize copyF kv rows = co at hc1 hc2 hcl
      have hcl2 : 0 < co.length ∧ co.length ≤ 33 := by omega
      walk_at "dg"
      rename_i k4 s5 hs5 hk4
      rw [show (D.n true Kd.lst (List.map eo co)).fz = (en co : D) from fr_oo co]
      refine w_ixN (ys := co) rfl (by omega) fun r hr gr => ?_
      obtain ⟨⟨hr1, hr2⟩, hr3⟩ := hc2 r hr
      walk_at "dg"
      rename_i k5 s6 hs6 hk5 k6 s7 hs7 hk6
      refine w_if (fun c1 => ?_) fun c1 => ?_
      · walk_at "dg"
        refine w_put2 ?_
        walk_at "dg"
        rename_i k7 s8 hs8 hk7 nm hnm gnm
        obtain ⟨v, hv, hfv⟩ := hget nm hnm
        refine w_ixD (b := v) hv ?_
        refine w_p2 (rows := co) (row := r) (a := k4) (b := k5) (w := v) rfl rfl rfl gr (by omega) (by rfl) rfl (by walk_at "ne") ?_
        walk_at "dg"
        refine ⟨_, rfl, hq s8 (co.set k4 (r.set k5 v)) [x] hs8 ?_ fun r' hr' => ?_⟩
        · rw [List.map_set, List.length_set, ← hc1]
          refine List.ext_getElem? fun j => ?_
          by_cases hj : j = k4
          · subst hj
            rw [List.getElem?_set_self (by rw [List.length_map]; omega), List.getElem?_map, gr]
            rfl
          · rw [List.getElem?_set_ne (Ne.symm hj)]
        · rcases List.mem_or_eq_of_mem_set hr' with hr' | rfl
          · exact hc2 r' hr'
          · refine ⟨by rw [List.length_set]; exact ⟨hr1, hr2⟩, fun w hw => ?_⟩
            rcases List.mem_or_eq_of_mem_set hw with hw | rfl
            · exact hr3 w hw
            · exact hfv
      · walk_at "dg"
        exact ⟨_, rfl, hq s7 co [x] hs7 hc1 hc2⟩
--@@
theorem most_up {one two : Rows} {i j : Nat} : ∀ k m, k = one.length - m → i + m ≤ one.length → j + m ≤ two.length → Tw (part one i m) (part two j m) → ∃ m', m ≤ m' ∧ MostP one i two j m' := fun k => by
  induction k using Nat.strongRecOn with
  | ind k ih =>
    intro m hk h1 h2 h3
    by_cases c1 : i + m = one.length
    · exact ⟨m, Nat.le_refl _, h1, h2, h3, .inl c1⟩
    · by_cases c2 : j + m = two.length
      · exact ⟨m, Nat.le_refl _, h1, h2, h3, .inr (.inl c2)⟩
      · by_cases c3 : Tw (part one i (m + 1)) (part two j (m + 1))
        · obtain ⟨m', g1, g2⟩ := ih (one.length - (m + 1)) (by omega) (m + 1) rfl (by omega) (by omega) c3
          exact ⟨m', by omega, g2⟩
        · exact ⟨m, Nat.le_refl _, h1, h2, h3, .inr (.inr c3)⟩
theorem most_ge {one two : Rows} {i j m m' : Nat} (h : MostP one i two j m') (h1 : i + m ≤ one.length) (h2 : j + m ≤ two.length) (ht : Tw (part one i m) (part two j m)) : m ≤ m' := by
  obtain ⟨m2, g1, g2⟩ := most_up (one.length - m) m rfl h1 h2 ht
  rw [most_uniq h g2]
  exact g1
theorem tw_sym {a b : Rows} (h : Tw a b) : Tw b a := (mark_tw _ _).mp ((mark_tw _ _).mpr h).symm
theorem part_cons {rows : Rows} {f k : Nat} (h : f < rows.length) : part rows f (k + 1) = rows[f] :: part rows (f + 1) k := by
  unfold part
  rw [List.drop_eq_getElem_cons h, List.take_succ_cons]
theorem prs_cons (r o : List Str) (one other : Rows) : prs (r :: one) (o :: other) = r.zip o ++ prs one other := by unfold prs; rw [List.zip_cons_cons, List.flatMap_cons]
theorem tw_tail {one two : Rows} {i j m : Nat} (h1 : i < one.length) (h2 : j < two.length) (ht : Tw (part one i (m + 1)) (part two j (m + 1))) : Tw (part one (i + 1) m) (part two (j + 1) m) := by
  rw [part_cons h1, part_cons h2] at ht
  obtain ⟨t1, t2, t3⟩ := ht
  rw [prs_cons] at t2 t3
  rw [List.map_cons, List.map_cons] at t1
  injection t1 with _ t1
  exact ⟨t1, fun p hp => t2 p (List.mem_append_right _ hp), fun p hp q hq => t3 p (List.mem_append_right _ hp) q (List.mem_append_right _ hq)⟩
open Classical in
/-- how many rows are twins from a row on, side by side -/
noncomputable def mF (one two : Rows) (i : Nat) : Nat := if h : ∃ m, MostP one i two i m then h.choose else 0
section
variable {one two : Rows} (hl : two.length = one.length)
include hl
theorem mF_ok {i : Nat} (hi : i ≤ one.length) : MostP one i two i (mF one two i) := by
  have h : ∃ m, MostP one i two i m := by
    obtain ⟨m, _, h⟩ := most_up (one := one) (two := two) (i := i) (j := i) _ 0 rfl (by omega) (by omega) (by rw [part_zero, part_zero]; exact tw_nil)
    exact ⟨m, h⟩
  unfold mF
  rw [dif_pos h]
  exact h.choose_spec
theorem mF_mono {i : Nat} (hi : i < one.length) : i + mF one two i ≤ i + 1 + mF one two (i + 1) := by
  have h := mF_ok hl (Nat.le_of_lt hi)
  have h' := mF_ok hl (show i + 1 ≤ one.length by omega)
  cases e : mF one two i with
  | zero => omega
  | succ m =>
    rw [e] at h
    obtain ⟨a1, a2, a3, _⟩ := h
    have := most_ge h' (by omega) (by omega) (tw_tail hi (by omega) a3)
    omega
theorem ahd_iff {i : Nat} (hi : i < one.length) : AhdP one i two i (mF one two i) ↔ 0 < i ∧ i + mF one two i ≤ i - 1 + mF one two (i - 1) := by
  have h := mF_ok hl (Nat.le_of_lt hi)
  constructor
  · rintro ⟨h0, _, ht⟩
    have h' := mF_ok hl (show i - 1 ≤ one.length by omega)
    have := most_ge h' (by have := h.1; omega) (by have := h.2.1; omega) ht
    exact ⟨h0, by omega⟩
  · rintro ⟨h0, hm⟩
    have h' := mF_ok hl (show i - 1 ≤ one.length by omega)
    exact ⟨h0, h0, tw_less h'.1 h'.2.1 (by omega) h'.2.2.1⟩
end
theorem most_sw {one two : Rows} {i j m : Nat} (h : MostP one i two j m) : MostP two j one i m := by
  obtain ⟨a1, a2, a3, a4⟩ := h
  refine ⟨a2, a1, tw_sym a3, ?_⟩
  rcases a4 with z | z | z
  · exact .inr (.inl z)
  · exact .inl z
  · exact .inr (.inr fun w => z (tw_sym w))
theorem ahd_sw {one two : Rows} {i j m : Nat} : AhdP one i two j m → AhdP two j one i m := fun ⟨a1, a2, a3⟩ => ⟨a2, a1, tw_sym a3⟩
/-- what is due from row i on -/
def CondP (one two : Rows) (least i : Nat) : Prop := least ≤ mF one two i ∧ (i = 0 ∨ i - 1 + mF one two (i - 1) < i + mF one two i)
open Classical in
noncomputable def dueL (lo hi : Str) (one two : Rows) (least k : Nat) : List P5 := ((List.range k).filter fun i : Nat => decide (CondP one two least i)).map fun i : Nat => ⟨lo, (i : Int), hi, (i : Int), (mF one two i : Int)⟩
open Classical in
theorem dueL_succ (lo hi : Str) (one two : Rows) (least k : Nat) : dueL lo hi one two least (k + 1) = dueL lo hi one two least k ++ if CondP one two least k then [⟨lo, (k : Int), hi, (k : Int), (mF one two k : Int)⟩] else [] := by
  unfold dueL
  rw [List.range_succ, List.filter_append, List.map_append]
  congr 1
  by_cases h : CondP one two least k
  · rw [if_pos h, List.filter_cons, if_pos (by exact decide_eq_true h)]
    rfl
  · rw [if_neg h, List.filter_cons, if_neg (by rw [decide_eq_false h]; decide)]
    rfl
theorem dueL_len (lo hi : Str) (one two : Rows) (least k : Nat) : (dueL lo hi one two least k).length ≤ k := by
  unfold dueL
  rw [List.length_map]
  have h := List.length_filter_le (fun i : Nat => @decide (CondP one two least i) (Classical.propDecidable _)) (List.range k)
  rw [List.length_range] at h
  exact h
theorem dueL_ris (lo hi : Str) (one two : Rows) (least k : Nat) : (dueL lo hi one two least k).Pairwise fun a b => a.i < b.i := by
  unfold dueL
  rw [List.pairwise_map]
  refine List.Pairwise.imp (fun h => ?_) (List.Pairwise.sublist List.filter_sublist List.pairwise_lt_range)
  dsimp only
  omega
open PyProof.Rows PySem.W in
theorem itP_lt {lo hi lo2 hi2 : Str} {i j i2 j2 m m2 : Int} (h : i < i2) : ltI (itP ⟨lo, i2, hi, j2, m2⟩) (itP ⟨lo, i, hi2, j, m⟩) = false := by
  have e1 : ∀ a b : Str, itemLt (Itm.k (.inr a)) (Itm.k (.inr b)) = strLt a b := fun a b => rfl
  have e2 : ∀ a b : Int, itemLt (Itm.k (.inl a)) (Itm.k (.inl b)) = decide (a < b) := fun a b => rfl
  unfold ltI itP
  simp only [List.map_cons, List.map_nil, PyProof.Rows.lex_cons, PyProof.Rows.lexLt, e1, e2, lt_irr]
  rw [decide_eq_false (show ¬ i2 < i by omega), decide_eq_true h]
  simp
theorem dueL_ris5 (lo hi : Str) (one two : Rows) (least k : Nat) : Rising5 (dueL lo hi one two least k) := by
  refine List.Pairwise.imp_of_mem (fun {a b} ha hb h => ?_) (dueL_ris lo hi one two least k)
  unfold dueL at ha hb
  obtain ⟨i, _, rfl⟩ := List.mem_map.mp ha
  obtain ⟨j, _, rfl⟩ := List.mem_map.mp hb
  exact itP_lt (lo := lo) (hi := hi) (lo2 := lo) (hi2 := hi) h
theorem dueL_nd (lo hi : Str) (one two : Rows) (least k : Nat) : (dueL lo hi one two least k).Nodup := List.Pairwise.imp (fun {a b} h e => by rw [e] at h; omega) (dueL_ris lo hi one two least k)
open Classical in
theorem dueL_mem {lo hi : Str} {one two : Rows} {least : Nat} {p : P5} : p ∈ dueL lo hi one two least one.length ↔ ∃ i, i < one.length ∧ CondP one two least i ∧ p = ⟨lo, (i : Int), hi, (i : Int), (mF one two i : Int)⟩ := by
  unfold dueL
  rw [List.mem_map]
  constructor
  · rintro ⟨i, hi', rfl⟩
    rw [List.mem_filter] at hi'
    exact ⟨i, List.mem_range.mp hi'.1, of_decide_eq_true hi'.2, rfl⟩
  · rintro ⟨i, h1, h2, rfl⟩
    exact ⟨i, List.mem_filter.mpr ⟨List.mem_range.mpr h1, decide_eq_true h2⟩, rfl⟩
/-- the greatest pairs of two files, side by side -/
theorem due_side {a b lo hi : Str} {one two : Rows} {least : Nat} (hl : two.length = one.length) (h1 : 1 ≤ least) (hab : (lo = a ∧ hi = b) ∨ (lo = b ∧ hi = a)) (hlt : strLt lo hi = true) (p : P5) :
    (Due [(a, one), (b, two)] least p ∧ p.t ≠ p.u ∧ p.i = p.j) ↔ p ∈ dueL lo hi one two least one.length := by
  have hne : lo ≠ hi := fun z => by rw [z, lt_irr] at hlt; cases hlt
  have hnlt : strLt hi lo = false := by
    cases e : strLt hi lo with
    | false => rfl
    | true =>
      have := (le_iff hi lo).mpr (.inr e)
      rw [hlt] at this
      cases this
  rw [dueL_mem]
  have cond : ∀ i, i < one.length → ((least ≤ mF one two i ∧ ¬ AhdP one i two i (mF one two i)) ↔ CondP one two least i) := fun i hi => by
    rw [ahd_iff hl hi]
    unfold CondP
    constructor
    · rintro ⟨c1, c2⟩
      refine ⟨c1, ?_⟩
      by_cases z : i = 0
      · exact .inl z
      · refine .inr ?_
        rcases Nat.lt_or_ge (i - 1 + mF one two (i - 1)) (i + mF one two i) with w | w
        · exact w
        · exact absurd ⟨by omega, w⟩ c2
    · rintro ⟨c1, c2⟩
      exact ⟨c1, fun z => by omega⟩
  constructor
  · rintro ⟨⟨f, hf, g, hg, ho, ⟨e1, e2, i, j, m, ei, ej, em, hm1, hM, hA, _⟩, hlm⟩, hn, hij⟩
    obtain rfl : i = j := by omega
    have hside : (f.1 = lo ∧ g.1 = hi) ∧ MostP one i two i m ∧ ¬ AhdP one i two i m := by
      rw [e1, e2] at hn
      have hst : strLt f.1 g.1 = true := ho.elim (fun z => absurd z hn) id
      simp only [List.mem_cons, List.not_mem_nil, or_false] at hf hg
      rcases hf with rfl | rfl <;> rcases hg with rfl | rfl
      · exact absurd rfl hn
      · refine ⟨?_, hM, hA⟩
        rcases hab with ⟨rfl, rfl⟩ | ⟨rfl, rfl⟩
        · exact ⟨rfl, rfl⟩
        · dsimp only at hst; rw [hnlt] at hst; cases hst
      · refine ⟨?_, most_sw hM, fun z => hA (ahd_sw z)⟩
        rcases hab with ⟨rfl, rfl⟩ | ⟨rfl, rfl⟩
        · dsimp only at hst; rw [hnlt] at hst; cases hst
        · exact ⟨rfl, rfl⟩
      · exact absurd rfl hn
    obtain ⟨⟨r1, r2⟩, r3, r4⟩ := hside
    have hi1 : i < one.length := by have := r3.1; omega
    obtain rfl := most_uniq r3 (mF_ok hl (Nat.le_of_lt hi1))
    refine ⟨i, hi1, (cond i hi1).mp ⟨by omega, r4⟩, ?_⟩
    obtain ⟨pt, pi, pu, pj, pm⟩ := p
    dsimp only at e1 e2 ei ej em
    rw [e1, e2, ei, ej, em, r1, r2]
  · rintro ⟨i, hi1, hc, rfl⟩
    obtain ⟨c1, c2⟩ := (cond i hi1).mpr hc
    have hM := mF_ok hl (Nat.le_of_lt hi1)
    refine ⟨?_, hne, rfl⟩
    rcases hab with ⟨rfl, rfl⟩ | ⟨rfl, rfl⟩
    · exact ⟨(lo, one), by simp, (hi, two), by simp, .inr hlt, ⟨rfl, rfl, i, i, _, rfl, rfl, rfl, by omega, hM, c2, .inl hne⟩, by dsimp only; omega⟩
    · exact ⟨(lo, two), by simp, (hi, one), by simp, .inr hlt, ⟨rfl, rfl, i, i, _, rfl, rfl, rfl, by omega, most_sw hM, fun z => c2 (ahd_sw z), .inl hne⟩, by dsimp only; omega⟩
--@@
/-- how far the stretches ahead of row k reach -/
noncomputable def lastF (one two : Rows) (k : Nat) : Nat := if k = 0 then 0 else k - 1 + mF one two (k - 1)
theorem cnd {one two : Rows} {l c : Nat} (h : 1 ≤ l) : CondP one two l c ↔ lastF one two c < c + mF one two c ∧ l ≤ mF one two c := by
  unfold CondP lastF
  by_cases z : c = 0
  · subst z
    rw [if_pos rfl]
    exact ⟨fun w => ⟨by omega, w.1⟩, fun w => ⟨w.2, .inl rfl⟩⟩
  · rw [if_neg z]
    exact ⟨fun w => ⟨w.2.elim (fun y => absurd y z) id, w.1⟩, fun w => ⟨w.2, .inr w.1⟩⟩
theorem last_succ {one two : Rows} (hl : two.length = one.length) {c : Nat} (hc : c < one.length) : lastF one two c ≤ c + mF one two c ∧ lastF one two (c + 1) = c + mF one two c := by
  refine ⟨?_, by unfold lastF; rw [if_neg (by omega)]; rfl⟩
  unfold lastF
  by_cases z : c = 0
  · rw [if_pos z]
    exact Nat.zero_le _
  · rw [if_neg z]
    have := mF_mono hl (show c - 1 < one.length by omega)
    rw [show c - 1 + 1 = c by omega] at this
    exact this
theorem sem_law : Sem S_law t_law 16 := by
  rintro _ Q0 E0 ⟨ns, rfl, hn, hq⟩
  rw [show (D.n false .lok (ns.map fun i => .p (.int i))) = ek ns from rfl]
  walk_at "in"
  unfold t_law
  walk_at "dg"
  refine ⟨ns, rfl, hn, fun s0 hs0 => ?_⟩
  walk_at "dg"
  rename_i k s1 hs1 hk
  have hk13 : keptL.length = 13 := rfl
  have ku : Used (keptL ++ []) := by rw [List.append_nil]; exact ⟨[], by rw [List.append_nil], by decide, fun _ z => (by cases z), by decide +kernel⟩
  have el : ((1 : Int) + k) = ((1 + k : Nat) : Int) := by omega
  rw [el]
  have ku' : Used keptL := by rw [List.append_nil] at ku; exact ku
  refine ⟨s1, keptL, rfl, hs1, ku', by omega, fun s2 rows us hs2 hrl hrr hul hU => ?_⟩
  walk_at "dg"
  refine ⟨s2, rows, keptL ++ us, rfl, hs2, hrl, hrr, hU, by rw [List.length_append]; omega, fun s3 copy us2 hs3 hcl hcr => ?_⟩
  have hl : copy.length = rows.length := by have := congrArg List.length hcl; rwa [List.length_map, List.length_map] at this
  walk_at "dg"
  refine use_name hs3 ku' (by omega) fun s4 a hs4 ha han => ?_
  walk_at "dg"
  refine use_name hs4 (used_add ku' ha han (by omega)) (by rw [List.length_append, List.length_singleton]; omega) fun s5 b hs5 hb hbn => ?_
  have hab : a ≠ b := fun z => hbn (by rw [z]; simp)
  walk_at "dg"
  have lb : ∀ r ∈ rows, r.length ≤ 2 := fun r hr => (hrr r hr).1.2
  have lb2 : ∀ r ∈ copy, r.length ≤ 2 := fun r hr => (hcr r hr).1.2
  refine lc_all (w := fun r : List Str => (eo r : D)) (fun r hr acc k1 k2 hacc hgo => ?_) (by omega) ?_
  · have := lb r hr
    walk_at "dg"
    exact hgo
  walk_at "dg"
  refine lc_all (w := fun r : List Str => (eo r : D)) (fun r hr acc k1 k2 hacc hgo => ?_) (by omega) ?_
  · have := lb2 r hr
    walk_at "dg"
    exact hgo
  walk_at "dg"
  rw [show (D.n true Kd.lst [D.n false Kd.tup [en a, D.n true Kd.lst (List.map (fun r => eo r) rows)], D.n false Kd.tup [en b, D.n true Kd.lst (List.map (fun r => eo r) copy)]]).fz = (en [(a, rows), (b, copy)] : D) from hnd_fz [(a, rows), (b, copy)]]
  have rbf : ∀ {rs : Rows}, rs.length ≤ 33 → Fr2 rs → Rb 33 9 rs := fun h1 h2 => ⟨h1, fun r hr => ⟨by have := (h2 r hr).1.2; omega, fun w hw => free_word ((h2 r hr).2 w hw)⟩⟩
  have fok : Fok 33 [(a, rows), (b, copy)] := ⟨List.nodup_cons.mpr ⟨fun z => hab (List.mem_singleton.mp z), List.nodup_cons.mpr ⟨fun z => (by cases z), List.nodup_nil⟩⟩, fun f hf => by
    simp only [List.mem_cons, List.not_mem_nil, or_false] at hf
    rcases hf with rfl | rfl
    · exact ⟨free_word ha, rbf hrl.2 hrr⟩
    · exact ⟨free_word hb, rbf (by dsimp only; omega) hcr⟩⟩
  have a20 := word_len (free_word ha)
  have b20 := word_len (free_word hb)
  refine ⟨[(a, rows), (b, copy)], 33, 1 + k, rfl, ⟨by show 2 ≤ 20; decide, by omega, by unfold Few; show 2 * 2 * _ ≤ _; decide⟩, fok, fun zs z1 z2 z3 z4 => ?_⟩
  walk_at "dg"
  rw [Int.toNat_natCast]
  obtain ⟨lo, elo⟩ : ∃ lo, lo = if strLt b a = true then b else a := ⟨_, rfl⟩
  obtain ⟨hi, ehi⟩ : ∃ hi, hi = if strLt a b = true then b else a := ⟨_, rfl⟩
  have hlh : ((lo = a ∧ hi = b) ∨ (lo = b ∧ hi = a)) ∧ strLt lo hi = true := by
    cases c1 : strLt a b with
    | true =>
      have c2 : strLt b a = false := by
        cases c2 : strLt b a with
        | false => rfl
        | true =>
          have := (le_iff a b).mpr (.inr c1)
          rw [c2] at this
          cases this
      rw [if_neg (by rw [c2]; decide)] at elo
      rw [if_pos c1] at ehi
      rw [elo, ehi]
      exact ⟨.inl ⟨rfl, rfl⟩, c1⟩
    | false =>
      have c2 : strLt b a = true := ((le_iff b a).mp (by rw [c1]; rfl)).elim (fun z => absurd z.symm hab) id
      rw [if_pos c2] at elo
      rw [if_neg (by rw [c1]; decide)] at ehi
      rw [elo, ehi]
      exact ⟨.inr ⟨rfl, rfl⟩, c2⟩
  refine lw_inv2 (F := fun i : Nat => .p (.int (i : Nat))) (fun c : Nat => [Sl.v (ek ns), .un, Sl.v (en ((1 + k : Nat) : Int)), .un, .un, Sl.v (en rows), Sl.v (en copy), Sl.v (en a), Sl.v (en b), Sl.v (eo zs), .v (eo (dueL lo hi rows copy (1 + k) c)), .v (en ((lastF rows copy c : Nat) : Int)), .un, .un, .un, .un])
    (fun rest c => ∃ done, List.range rows.length = done ++ rest ∧ c = done.length) 0 (by rw [show dueL lo hi rows copy (1 + k) 0 = [] from rfl, show lastF rows copy 0 = 0 from rfl]; rfl) ⟨[], rfl, rfl⟩ ?_ ?_
  · rintro i rest c ⟨done, g1, hc⟩ K hK
    have hx : (List.range rows.length)[c]? = some i := by rw [g1, hc]; simp
    obtain ⟨hlt, rfl⟩ : c < rows.length ∧ i = c := by
      obtain ⟨w1, w2⟩ := List.getElem?_eq_some_iff.mp hx
      rw [List.length_range] at w1
      rw [List.getElem_range] at w2
      exact ⟨w1, w2.symm⟩
    have hF9 : ∀ {i}, i ≤ rows.length → MostP rows i copy i (mF rows copy i) := fun h => mF_ok hl h
    walk_at "dg"
    refine ⟨rows, copy, i, rfl, hrr, hcr, hcl.symm, by omega, hlt, fun m hm => ?_⟩
    obtain rfl := most_uniq hm (hF9 (Nat.le_of_lt hlt))
    have hm1 := hm.1
    have hcn := cnd (one := rows) (two := copy) (l := 1 + k) (c := i) (by omega)
    obtain ⟨hl1, hl2⟩ := last_succ hl hlt
    have hsu := dueL_succ lo hi rows copy (1 + k) i
    have tail : ∀ ρ', wipeD ρ' [1, 3, 4, 12, 13] = [Sl.v (ek ns), .un, Sl.v (en ((1 + k : Nat) : Int)), .un, .un, Sl.v (en rows), Sl.v (en copy), Sl.v (en a), Sl.v (en b), Sl.v (eo zs), .v (eo (dueL lo hi rows copy (1 + k) (i + 1))), .v (en ((lastF rows copy (i + 1) : Nat) : Int)), .un, .un, .un, .un] → K ρ' := fun ρ' hr => hK (i + 1) ρ' ⟨done ++ [i], by rw [g1, List.append_assoc]; rfl, by rw [List.length_append, ← hc]; rfl⟩ hr
    walk_at "dg"
    refine w_if (fun c1 => ?_) fun c1 => ?_
    · walk_at "dg"
      refine w_if (fun c2 => ?_) fun c2 => ?_
      · have c1 := of_decide_eq_true c1
        have c2 := of_decide_eq_true c2
        have hc5 := hcn.mpr ⟨by omega, by omega⟩
        rw [if_pos hc5] at hsu
        have e5 : ∀ z : Int, z = (mF rows copy i : Int) → D.n false Kd.tup [en lo, D.p (V.int (i : Int)), en hi, D.p (V.int (i : Int)), D.p (V.int z)] = (en (⟨lo, (i : Int), hi, (i : Int), (mF rows copy i : Int)⟩ : P5) : D) := fun z hz => by rw [hz]; rfl
        have hd := dueL_len lo hi rows copy (1 + k) i
        walk_at "dg"
        refine w_minS ?_
        rw [← elo]
        walk_at "dg"
        refine w_maxS ?_
        rw [← ehi]
        walk_at "dg"
        refine tail _ ?_
        have e6 := e5 ((i + mF rows copy i : Nat) - (i : Int) : Int) (by omega)
        rw [hsu, hl2, show max ((lastF rows copy i : Nat) : Int) ((i + mF rows copy i : Nat) : Int) = ((i + mF rows copy i : Nat) : Int) by omega, show (eo (dueL lo hi rows copy (1 + k) i ++ [⟨lo, (i : Int), hi, (i : Int), (mF rows copy i : Int)⟩]) : D) = D.n true .lst ((dueL lo hi rows copy (1 + k) i).map en ++ [en (⟨lo, (i : Int), hi, (i : Int), (mF rows copy i : Int)⟩ : P5)]) by unfold eo; rw [List.map_append]; rfl, ← e6]
        try rfl
      · have c2 := of_decide_eq_false c2
        rw [if_neg (fun z => by have := (hcn.mp z).2; omega), List.append_nil] at hsu
        walk_at "dg"
        refine tail _ ?_
        rw [hsu, hl2, show max ((lastF rows copy i : Nat) : Int) ((i + mF rows copy i : Nat) : Int) = ((i + mF rows copy i : Nat) : Int) by omega]
        try rfl
    · have c1 := of_decide_eq_false c1
      rw [if_neg (fun z => by have := (hcn.mp z).1; omega), List.append_nil] at hsu
      walk_at "dg"
      refine tail _ ?_
      rw [hsu, hl2, show max ((lastF rows copy i : Nat) : Int) ((i + mF rows copy i : Nat) : Int) = ((i + mF rows copy i : Nat) : Int) by omega]
      try rfl
  · rintro c ⟨done, g1, rfl⟩
    rw [List.append_nil] at g1
    have hc : rows.length = done.length := by rw [← g1, List.length_range]
    rw [← hc]
    walk_at "dg"
    refine lc_fil (fun p : P5 => !decide (p.t = p.u) && decide (p.i = p.j)) (fun p : P5 => p) (fun p hp acc k1 k2 hacc h1 h2 => ?_) (by omega) ?_
    · walk_at "dg"
      refine ⟨en p.t, rfl, Enc.fz _, ?_⟩
      walk_at "dg"
      refine ⟨en p.u, rfl, Enc.fz _, ?_⟩
      walk_at "dg"
      refine w_if (fun c1 => ?_) fun c1 => ?_
      · have c1 : p.t ≠ p.u := dc_f.mp (by simpa using c1)
        walk_at "dg"
        refine ⟨en p.i, rfl, Enc.fz _, ?_⟩
        walk_at "dg"
        refine ⟨en p.j, rfl, Enc.fz _, ?_⟩
        walk_at "dg"
        refine w_if (fun c2 => ?_) fun c2 => ?_
        · have c2 := of_decide_eq_true c2
          walk_at "dg"
          exact h1 (by simp [c1, c2])
        · have c2 := of_decide_eq_false c2
          exact h2 (by simp [c2])
      · have c1 : p.t = p.u := dc_t.mp (by simpa using c1)
        walk_at "dg"
        refine h2 ?_
        rw [c1]
        simp
    have eD : List.filter (fun p : P5 => !decide (p.t = p.u) && decide (p.i = p.j)) zs = dueL lo hi rows copy (1 + k) rows.length := by
      refine sort_uniq itP_inj ((List.perm_ext_iff_of_nodup (z1.filter _) (dueL_nd _ _ _ _ _ _)).mpr fun p => ?_) (List.Pairwise.sublist List.filter_sublist z3) (dueL_ris5 _ _ _ _ _ _)
      rw [← due_side hl (by omega) hlh.1 hlh.2 p, List.mem_filter, z2 p]
      simp only [Bool.and_eq_true, Bool.not_eq_true', decide_eq_true_eq, decide_eq_false_iff_not]
    have hd := dueL_len lo hi rows copy (1 + k) rows.length
    walk_at "dg"
    rw [List.map_id' , eD] <;> try rfl
    generalize dueL lo hi rows copy (1 + k) rows.length = ys at *
    refine ⟨en ys, rfl, gd_p5 (by omega), ?_⟩
    walk_at "dg"
    rw [show (en (α := Bool) true : D) = D.p (V.bl true) from rfl]
    exact hq _
theorem len_is_plain : Ar S_is_plain 1 := by
  first
    | (rintro _ _ _ ⟨rfl, _⟩; rfl)
    | (rintro _ _ _ ⟨_, rfl, _⟩; rfl)
    | (rintro _ _ _ ⟨_, _, rfl, _⟩; rfl)
    | (rintro _ _ _ ⟨_, _, _, rfl, _⟩; rfl)
    | (rintro _ _ _ ⟨_, _, _, _, rfl, _⟩; rfl)
    | (rintro _ _ _ ⟨_, _, _, _, _, rfl, _⟩; rfl)
    | (rintro _ _ _ ⟨_, _, _, _, _, _, rfl, _⟩; rfl)
    | (rintro _ _ _ ⟨_, _, _, _, _, _, _, rfl, _⟩; rfl)
    | (rintro _ _ _ ⟨_, _, _, _, _, _, _, _, rfl, _⟩; rfl)
theorem len_sort_of : Ar S_sort_of 1 := by
  first
    | (rintro _ _ _ ⟨rfl, _⟩; rfl)
    | (rintro _ _ _ ⟨_, rfl, _⟩; rfl)
    | (rintro _ _ _ ⟨_, _, rfl, _⟩; rfl)
    | (rintro _ _ _ ⟨_, _, _, rfl, _⟩; rfl)
    | (rintro _ _ _ ⟨_, _, _, _, rfl, _⟩; rfl)
    | (rintro _ _ _ ⟨_, _, _, _, _, rfl, _⟩; rfl)
    | (rintro _ _ _ ⟨_, _, _, _, _, _, rfl, _⟩; rfl)
    | (rintro _ _ _ ⟨_, _, _, _, _, _, _, rfl, _⟩; rfl)
    | (rintro _ _ _ ⟨_, _, _, _, _, _, _, _, rfl, _⟩; rfl)
theorem len_end_of : Ar S_end_of 2 := by
  first
    | (rintro _ _ _ ⟨rfl, _⟩; rfl)
    | (rintro _ _ _ ⟨_, rfl, _⟩; rfl)
    | (rintro _ _ _ ⟨_, _, rfl, _⟩; rfl)
    | (rintro _ _ _ ⟨_, _, _, rfl, _⟩; rfl)
    | (rintro _ _ _ ⟨_, _, _, _, rfl, _⟩; rfl)
    | (rintro _ _ _ ⟨_, _, _, _, _, rfl, _⟩; rfl)
    | (rintro _ _ _ ⟨_, _, _, _, _, _, rfl, _⟩; rfl)
    | (rintro _ _ _ ⟨_, _, _, _, _, _, _, rfl, _⟩; rfl)
    | (rintro _ _ _ ⟨_, _, _, _, _, _, _, _, rfl, _⟩; rfl)
theorem len_parts_of : Ar S_parts_of 1 := by
  first
    | (rintro _ _ _ ⟨rfl, _⟩; rfl)
    | (rintro _ _ _ ⟨_, rfl, _⟩; rfl)
    | (rintro _ _ _ ⟨_, _, rfl, _⟩; rfl)
    | (rintro _ _ _ ⟨_, _, _, rfl, _⟩; rfl)
    | (rintro _ _ _ ⟨_, _, _, _, rfl, _⟩; rfl)
    | (rintro _ _ _ ⟨_, _, _, _, _, rfl, _⟩; rfl)
    | (rintro _ _ _ ⟨_, _, _, _, _, _, rfl, _⟩; rfl)
    | (rintro _ _ _ ⟨_, _, _, _, _, _, _, rfl, _⟩; rfl)
    | (rintro _ _ _ ⟨_, _, _, _, _, _, _, _, rfl, _⟩; rfl)
theorem len_is_word : Ar S_is_word 1 := by
  first
    | (rintro _ _ _ ⟨rfl, _⟩; rfl)
    | (rintro _ _ _ ⟨_, rfl, _⟩; rfl)
    | (rintro _ _ _ ⟨_, _, rfl, _⟩; rfl)
    | (rintro _ _ _ ⟨_, _, _, rfl, _⟩; rfl)
    | (rintro _ _ _ ⟨_, _, _, _, rfl, _⟩; rfl)
    | (rintro _ _ _ ⟨_, _, _, _, _, rfl, _⟩; rfl)
    | (rintro _ _ _ ⟨_, _, _, _, _, _, rfl, _⟩; rfl)
    | (rintro _ _ _ ⟨_, _, _, _, _, _, _, rfl, _⟩; rfl)
    | (rintro _ _ _ ⟨_, _, _, _, _, _, _, _, rfl, _⟩; rfl)
theorem len_is_name : Ar S_is_name 1 := by
  first
    | (rintro _ _ _ ⟨rfl, _⟩; rfl)
    | (rintro _ _ _ ⟨_, rfl, _⟩; rfl)
    | (rintro _ _ _ ⟨_, _, rfl, _⟩; rfl)
    | (rintro _ _ _ ⟨_, _, _, rfl, _⟩; rfl)
    | (rintro _ _ _ ⟨_, _, _, _, rfl, _⟩; rfl)
    | (rintro _ _ _ ⟨_, _, _, _, _, rfl, _⟩; rfl)
    | (rintro _ _ _ ⟨_, _, _, _, _, _, rfl, _⟩; rfl)
    | (rintro _ _ _ ⟨_, _, _, _, _, _, _, rfl, _⟩; rfl)
    | (rintro _ _ _ ⟨_, _, _, _, _, _, _, _, rfl, _⟩; rfl)
theorem len_is_free : Ar S_is_free 1 := by
  first
    | (rintro _ _ _ ⟨rfl, _⟩; rfl)
    | (rintro _ _ _ ⟨_, rfl, _⟩; rfl)
    | (rintro _ _ _ ⟨_, _, rfl, _⟩; rfl)
    | (rintro _ _ _ ⟨_, _, _, rfl, _⟩; rfl)
    | (rintro _ _ _ ⟨_, _, _, _, rfl, _⟩; rfl)
    | (rintro _ _ _ ⟨_, _, _, _, _, rfl, _⟩; rfl)
    | (rintro _ _ _ ⟨_, _, _, _, _, _, rfl, _⟩; rfl)
    | (rintro _ _ _ ⟨_, _, _, _, _, _, _, rfl, _⟩; rfl)
    | (rintro _ _ _ ⟨_, _, _, _, _, _, _, _, rfl, _⟩; rfl)
theorem len_known : Ar S_known 1 := by
  first
    | (rintro _ _ _ ⟨rfl, _⟩; rfl)
    | (rintro _ _ _ ⟨_, rfl, _⟩; rfl)
    | (rintro _ _ _ ⟨_, _, rfl, _⟩; rfl)
    | (rintro _ _ _ ⟨_, _, _, rfl, _⟩; rfl)
    | (rintro _ _ _ ⟨_, _, _, _, rfl, _⟩; rfl)
    | (rintro _ _ _ ⟨_, _, _, _, _, rfl, _⟩; rfl)
    | (rintro _ _ _ ⟨_, _, _, _, _, _, rfl, _⟩; rfl)
    | (rintro _ _ _ ⟨_, _, _, _, _, _, _, rfl, _⟩; rfl)
    | (rintro _ _ _ ⟨_, _, _, _, _, _, _, _, rfl, _⟩; rfl)
theorem len_least_start : Ar S_least_start 5 := by
  first
    | (rintro _ _ _ ⟨rfl, _⟩; rfl)
    | (rintro _ _ _ ⟨_, rfl, _⟩; rfl)
    | (rintro _ _ _ ⟨_, _, rfl, _⟩; rfl)
    | (rintro _ _ _ ⟨_, _, _, rfl, _⟩; rfl)
    | (rintro _ _ _ ⟨_, _, _, _, rfl, _⟩; rfl)
    | (rintro _ _ _ ⟨_, _, _, _, _, rfl, _⟩; rfl)
    | (rintro _ _ _ ⟨_, _, _, _, _, _, rfl, _⟩; rfl)
    | (rintro _ _ _ ⟨_, _, _, _, _, _, _, rfl, _⟩; rfl)
    | (rintro _ _ _ ⟨_, _, _, _, _, _, _, _, rfl, _⟩; rfl)
theorem len_runs : Ar S_runs 3 := by
  first
    | (rintro _ _ _ ⟨rfl, _⟩; rfl)
    | (rintro _ _ _ ⟨_, rfl, _⟩; rfl)
    | (rintro _ _ _ ⟨_, _, rfl, _⟩; rfl)
    | (rintro _ _ _ ⟨_, _, _, rfl, _⟩; rfl)
    | (rintro _ _ _ ⟨_, _, _, _, rfl, _⟩; rfl)
    | (rintro _ _ _ ⟨_, _, _, _, _, rfl, _⟩; rfl)
    | (rintro _ _ _ ⟨_, _, _, _, _, _, rfl, _⟩; rfl)
    | (rintro _ _ _ ⟨_, _, _, _, _, _, _, rfl, _⟩; rfl)
    | (rintro _ _ _ ⟨_, _, _, _, _, _, _, _, rfl, _⟩; rfl)
theorem len_pairs_of : Ar S_pairs_of 6 := by
  first
    | (rintro _ _ _ ⟨rfl, _⟩; rfl)
    | (rintro _ _ _ ⟨_, rfl, _⟩; rfl)
    | (rintro _ _ _ ⟨_, _, rfl, _⟩; rfl)
    | (rintro _ _ _ ⟨_, _, _, rfl, _⟩; rfl)
    | (rintro _ _ _ ⟨_, _, _, _, rfl, _⟩; rfl)
    | (rintro _ _ _ ⟨_, _, _, _, _, rfl, _⟩; rfl)
    | (rintro _ _ _ ⟨_, _, _, _, _, _, rfl, _⟩; rfl)
    | (rintro _ _ _ ⟨_, _, _, _, _, _, _, rfl, _⟩; rfl)
    | (rintro _ _ _ ⟨_, _, _, _, _, _, _, _, rfl, _⟩; rfl)
theorem len_pairs : Ar S_pairs 2 := by
  first
    | (rintro _ _ _ ⟨rfl, _⟩; rfl)
    | (rintro _ _ _ ⟨_, rfl, _⟩; rfl)
    | (rintro _ _ _ ⟨_, _, rfl, _⟩; rfl)
    | (rintro _ _ _ ⟨_, _, _, rfl, _⟩; rfl)
    | (rintro _ _ _ ⟨_, _, _, _, rfl, _⟩; rfl)
    | (rintro _ _ _ ⟨_, _, _, _, _, rfl, _⟩; rfl)
    | (rintro _ _ _ ⟨_, _, _, _, _, _, rfl, _⟩; rfl)
    | (rintro _ _ _ ⟨_, _, _, _, _, _, _, rfl, _⟩; rfl)
    | (rintro _ _ _ ⟨_, _, _, _, _, _, _, _, rfl, _⟩; rfl)
theorem len_law_begun : Ar S_law_begun 1 := by
  first
    | (rintro _ _ _ ⟨rfl, _⟩; rfl)
    | (rintro _ _ _ ⟨_, rfl, _⟩; rfl)
    | (rintro _ _ _ ⟨_, _, rfl, _⟩; rfl)
    | (rintro _ _ _ ⟨_, _, _, rfl, _⟩; rfl)
    | (rintro _ _ _ ⟨_, _, _, _, rfl, _⟩; rfl)
    | (rintro _ _ _ ⟨_, _, _, _, _, rfl, _⟩; rfl)
    | (rintro _ _ _ ⟨_, _, _, _, _, _, rfl, _⟩; rfl)
    | (rintro _ _ _ ⟨_, _, _, _, _, _, _, rfl, _⟩; rfl)
    | (rintro _ _ _ ⟨_, _, _, _, _, _, _, _, rfl, _⟩; rfl)
theorem len_law_take : Ar S_law_take 2 := by
  first
    | (rintro _ _ _ ⟨rfl, _⟩; rfl)
    | (rintro _ _ _ ⟨_, rfl, _⟩; rfl)
    | (rintro _ _ _ ⟨_, _, rfl, _⟩; rfl)
    | (rintro _ _ _ ⟨_, _, _, rfl, _⟩; rfl)
    | (rintro _ _ _ ⟨_, _, _, _, rfl, _⟩; rfl)
    | (rintro _ _ _ ⟨_, _, _, _, _, rfl, _⟩; rfl)
    | (rintro _ _ _ ⟨_, _, _, _, _, _, rfl, _⟩; rfl)
    | (rintro _ _ _ ⟨_, _, _, _, _, _, _, rfl, _⟩; rfl)
    | (rintro _ _ _ ⟨_, _, _, _, _, _, _, _, rfl, _⟩; rfl)
theorem len_law_kept : Ar S_law_kept 0 := by
  first
    | (rintro _ _ _ ⟨rfl, _⟩; rfl)
    | (rintro _ _ _ ⟨_, rfl, _⟩; rfl)
    | (rintro _ _ _ ⟨_, _, rfl, _⟩; rfl)
    | (rintro _ _ _ ⟨_, _, _, rfl, _⟩; rfl)
    | (rintro _ _ _ ⟨_, _, _, _, rfl, _⟩; rfl)
    | (rintro _ _ _ ⟨_, _, _, _, _, rfl, _⟩; rfl)
    | (rintro _ _ _ ⟨_, _, _, _, _, _, rfl, _⟩; rfl)
    | (rintro _ _ _ ⟨_, _, _, _, _, _, _, rfl, _⟩; rfl)
    | (rintro _ _ _ ⟨_, _, _, _, _, _, _, _, rfl, _⟩; rfl)
theorem len_law_name : Ar S_law_name 2 := by
  first
    | (rintro _ _ _ ⟨rfl, _⟩; rfl)
    | (rintro _ _ _ ⟨_, rfl, _⟩; rfl)
    | (rintro _ _ _ ⟨_, _, rfl, _⟩; rfl)
    | (rintro _ _ _ ⟨_, _, _, rfl, _⟩; rfl)
    | (rintro _ _ _ ⟨_, _, _, _, rfl, _⟩; rfl)
    | (rintro _ _ _ ⟨_, _, _, _, _, rfl, _⟩; rfl)
    | (rintro _ _ _ ⟨_, _, _, _, _, _, rfl, _⟩; rfl)
    | (rintro _ _ _ ⟨_, _, _, _, _, _, _, rfl, _⟩; rfl)
    | (rintro _ _ _ ⟨_, _, _, _, _, _, _, _, rfl, _⟩; rfl)
theorem len_law_same : ∀ n, Ar (S_law_same n) 2
  | 0 => fun _ _ _ h => h.elim
  | _ + 1 => by
    first
      | (rintro _ _ _ ⟨rfl, _⟩; rfl)
      | (rintro _ _ _ ⟨_, rfl, _⟩; rfl)
      | (rintro _ _ _ ⟨_, _, rfl, _⟩; rfl)
      | (rintro _ _ _ ⟨_, _, _, rfl, _⟩; rfl)
      | (rintro _ _ _ ⟨_, _, _, _, rfl, _⟩; rfl)
      | (rintro _ _ _ ⟨_, _, _, _, _, rfl, _⟩; rfl)
      | (rintro _ _ _ ⟨_, _, _, _, _, _, rfl, _⟩; rfl)
      | (rintro _ _ _ ⟨_, _, _, _, _, _, _, rfl, _⟩; rfl)
      | (rintro _ _ _ ⟨_, _, _, _, _, _, _, _, rfl, _⟩; rfl)
theorem len_law_rows : Ar S_law_rows 2 := by
  first
    | (rintro _ _ _ ⟨rfl, _⟩; rfl)
    | (rintro _ _ _ ⟨_, rfl, _⟩; rfl)
    | (rintro _ _ _ ⟨_, _, rfl, _⟩; rfl)
    | (rintro _ _ _ ⟨_, _, _, rfl, _⟩; rfl)
    | (rintro _ _ _ ⟨_, _, _, _, rfl, _⟩; rfl)
    | (rintro _ _ _ ⟨_, _, _, _, _, rfl, _⟩; rfl)
    | (rintro _ _ _ ⟨_, _, _, _, _, _, rfl, _⟩; rfl)
    | (rintro _ _ _ ⟨_, _, _, _, _, _, _, rfl, _⟩; rfl)
    | (rintro _ _ _ ⟨_, _, _, _, _, _, _, _, rfl, _⟩; rfl)
theorem len_law_copied : Ar S_law_copied 3 := by
  first
    | (rintro _ _ _ ⟨rfl, _⟩; rfl)
    | (rintro _ _ _ ⟨_, rfl, _⟩; rfl)
    | (rintro _ _ _ ⟨_, _, rfl, _⟩; rfl)
    | (rintro _ _ _ ⟨_, _, _, rfl, _⟩; rfl)
    | (rintro _ _ _ ⟨_, _, _, _, rfl, _⟩; rfl)
    | (rintro _ _ _ ⟨_, _, _, _, _, rfl, _⟩; rfl)
    | (rintro _ _ _ ⟨_, _, _, _, _, _, rfl, _⟩; rfl)
    | (rintro _ _ _ ⟨_, _, _, _, _, _, _, rfl, _⟩; rfl)
    | (rintro _ _ _ ⟨_, _, _, _, _, _, _, _, rfl, _⟩; rfl)
theorem len_law_end : Ar S_law_end 3 := by
  first
    | (rintro _ _ _ ⟨rfl, _⟩; rfl)
    | (rintro _ _ _ ⟨_, rfl, _⟩; rfl)
    | (rintro _ _ _ ⟨_, _, rfl, _⟩; rfl)
    | (rintro _ _ _ ⟨_, _, _, rfl, _⟩; rfl)
    | (rintro _ _ _ ⟨_, _, _, _, rfl, _⟩; rfl)
    | (rintro _ _ _ ⟨_, _, _, _, _, rfl, _⟩; rfl)
    | (rintro _ _ _ ⟨_, _, _, _, _, _, rfl, _⟩; rfl)
    | (rintro _ _ _ ⟨_, _, _, _, _, _, _, rfl, _⟩; rfl)
    | (rintro _ _ _ ⟨_, _, _, _, _, _, _, _, rfl, _⟩; rfl)
theorem len_law : Ar S_law 1 := by
  first
    | (rintro _ _ _ ⟨rfl, _⟩; rfl)
    | (rintro _ _ _ ⟨_, rfl, _⟩; rfl)
    | (rintro _ _ _ ⟨_, _, rfl, _⟩; rfl)
    | (rintro _ _ _ ⟨_, _, _, rfl, _⟩; rfl)
    | (rintro _ _ _ ⟨_, _, _, _, rfl, _⟩; rfl)
    | (rintro _ _ _ ⟨_, _, _, _, _, rfl, _⟩; rfl)
    | (rintro _ _ _ ⟨_, _, _, _, _, _, rfl, _⟩; rfl)
    | (rintro _ _ _ ⟨_, _, _, _, _, _, _, rfl, _⟩; rfl)
    | (rintro _ _ _ ⟨_, _, _, _, _, _, _, _, rfl, _⟩; rfl)
end
open PyProof.Rows
def topS (i : Nat) : Stmt := PySem.Challenge.pw_kinrows_k27_whole_long_copies.main.body.getD i (.Pass ⟨0, 0, 0, 0⟩)
abbrev s_is_plain : Stmt := topS 3
theorem sc_is_plain : FnScope ["thing", "sign"] ["thing"] (defScope s_is_plain) := ⟨rfl, rfl, rfl, by decide +kernel, rfl, by decide +kernel, by decide +kernel⟩
abbrev s_sort_of : Stmt := topS 4
theorem sc_sort_of : FnScope ["sign"] ["sign"] (defScope s_sort_of) := ⟨rfl, rfl, rfl, by decide +kernel, rfl, by decide +kernel, by decide +kernel⟩
abbrev s_end_of : Stmt := topS 5
theorem sc_end_of : FnScope ["text", "at", "sort", "end"] ["text", "at"] (defScope s_end_of) := ⟨rfl, rfl, rfl, by decide +kernel, rfl, by decide +kernel, by decide +kernel⟩
abbrev s_parts_of : Stmt := topS 6
theorem sc_parts_of : FnScope ["text", "found", "at", "end"] ["text"] (defScope s_parts_of) := ⟨rfl, rfl, rfl, by decide +kernel, rfl, by decide +kernel, by decide +kernel⟩
abbrev s_is_word : Stmt := topS 7
theorem sc_is_word : FnScope ["thing"] ["thing"] (defScope s_is_word) := ⟨rfl, rfl, rfl, by decide +kernel, rfl, by decide +kernel, by decide +kernel⟩
abbrev s_is_name : Stmt := topS 8
theorem sc_is_name : FnScope ["thing"] ["thing"] (defScope s_is_name) := ⟨rfl, rfl, rfl, by decide +kernel, rfl, by decide +kernel, by decide +kernel⟩
abbrev s_is_free : Stmt := topS 9
theorem sc_is_free : FnScope ["thing"] ["thing"] (defScope s_is_free) := ⟨rfl, rfl, rfl, by decide +kernel, rfl, by decide +kernel, by decide +kernel⟩
abbrev s_known : Stmt := topS 11
theorem sc_known : FnScope ["stretch", "row", "word"] ["stretch"] (defScope s_known) := ⟨rfl, rfl, rfl, by decide +kernel, rfl, by decide +kernel, by decide +kernel⟩
abbrev s_least_start : Stmt := topS 12
theorem sc_least_start : FnScope ["at", "row", "other", "last", "back", "start", "k", "old", "free", "new", "loose", "here", "there"] ["at", "row", "other", "last", "back"] (defScope s_least_start) := ⟨rfl, rfl, rfl, by decide +kernel, rfl, by decide +kernel, by decide +kernel⟩
abbrev s_runs : Stmt := topS 13
theorem sc_runs : FnScope ["one", "other", "far", "last", "back", "start", "end", "found", "at", "begin"] ["one", "other", "far"] (defScope s_runs) := ⟨rfl, rfl, rfl, by decide +kernel, rfl, by decide +kernel, by decide +kernel⟩
abbrev s_pairs_of : Stmt := topS 14
theorem sc_pairs_of : FnScope ["title", "one", "other", "two", "fars", "least", "found", "far", "first", "many"] ["title", "one", "other", "two", "fars", "least"] (defScope s_pairs_of) := ⟨rfl, rfl, rfl, by decide +kernel, rfl, by decide +kernel, by decide +kernel⟩
abbrev s_pairs : Stmt := topS 15
theorem sc_pairs : FnScope ["files", "least", "rows", "found", "title", "one", "other", "two", "stretch"] ["files", "least"] (defScope s_pairs) := ⟨rfl, rfl, rfl, by decide +kernel, rfl, by decide +kernel, by decide +kernel⟩
abbrev s_law_begun : Stmt := topS 17
theorem sc_law_begun : FnScope ["_law_script"] ["_law_script"] (defScope s_law_begun) := ⟨rfl, rfl, rfl, by decide +kernel, rfl, by decide +kernel, by decide +kernel⟩
abbrev s_law_take : Stmt := topS 18
theorem sc_law_take : FnScope ["_law_state", "_law_many", "_law_cells", "_law_found", "_law_cell"] ["_law_state", "_law_many"] (defScope s_law_take) := ⟨rfl, rfl, rfl, by decide +kernel, rfl, by decide +kernel, by decide +kernel⟩
abbrev s_law_kept : Stmt := topS 19
theorem sc_law_kept : FnScope [] [] (defScope s_law_kept) := ⟨rfl, rfl, rfl, by decide +kernel, rfl, by decide +kernel, by decide +kernel⟩
abbrev s_law_name : Stmt := topS 20
theorem sc_law_name : FnScope ["_law_state", "_law_used", "_law_some", "_law_word", "_law_at", "_law_k", "_law_one"] ["_law_state", "_law_used"] (defScope s_law_name) := ⟨rfl, rfl, rfl, by decide +kernel, rfl, by decide +kernel, by decide +kernel⟩
abbrev s_law_same : Stmt := topS 21
theorem sc_law_same : FnScope ["_law_found", "_law_due", "_law_one", "_law_other"] ["_law_found", "_law_due"] (defScope s_law_same) := ⟨rfl, rfl, rfl, by decide +kernel, rfl, by decide +kernel, by decide +kernel⟩
abbrev s_law_rows : Stmt := topS 22
theorem sc_law_rows : FnScope ["_law_state", "_law_used", "_law_many", "_law_few", "_law_wide", "_law_some", "_law_first", "_law_second", "_law_stem", "_law_rows_here", "_law_at", "_law_row", "_law_k"] ["_law_state", "_law_used"] (defScope s_law_rows) := ⟨rfl, rfl, rfl, by decide +kernel, rfl, by decide +kernel, by decide +kernel⟩
abbrev s_law_copied : Stmt := topS 23
theorem sc_law_copied : FnScope ["_law_state", "_law_rows_here", "_law_used", "_law_names", "_law_row", "_law_stem", "_law_some", "_law_ways", "_law_name_here", "_law_found", "_law_at", "_law_k"] ["_law_state", "_law_rows_here", "_law_used"] (defScope s_law_copied) := ⟨rfl, rfl, rfl, by decide +kernel, rfl, by decide +kernel, by decide +kernel⟩
abbrev s_law_end : Stmt := topS 24
theorem sc_law_end : FnScope ["_law_one", "_law_other", "_law_first", "_law_forth", "_law_back", "_law_at", "_law_a", "_law_b"] ["_law_one", "_law_other", "_law_first"] (defScope s_law_end) := ⟨rfl, rfl, rfl, by decide +kernel, rfl, by decide +kernel, by decide +kernel⟩
abbrev s_law : Stmt := topS 25
theorem sc_law : FnScope ["_law_script", "_law_state", "_law_least", "_law_used", "_law_titles", "_law_rows_here", "_law_copied_here", "_law_one", "_law_other", "_law_found", "_law_due", "_law_last", "_law_first", "_law_end_here", "_law_told", "_law_row"] ["_law_script"] (defScope s_law) := ⟨rfl, rfl, rfl, by decide +kernel, rfl, by decide +kernel, by decide +kernel⟩
set_option maxHeartbeats 0
set_option synthInstance.maxHeartbeats 0
structure Txt (K : PySem.W.Frag) (mg : Str → Option Value) (cn : String → Addr) where
  f_is_plain : Addr
  fd_is_plain : FuncData
  F_is_plain : Fun K "is_plain" "is_plain" s_is_plain f_is_plain fd_is_plain
  m_is_plain : mg "is_plain" = some (.ref f_is_plain)
  b_is_plain : Binds K fd_is_plain ["thing"] []
  f_sort_of : Addr
  fd_sort_of : FuncData
  F_sort_of : Fun K "sort_of" "sort_of" s_sort_of f_sort_of fd_sort_of
  m_sort_of : mg "sort_of" = some (.ref f_sort_of)
  b_sort_of : Binds K fd_sort_of ["sign"] []
  f_end_of : Addr
  fd_end_of : FuncData
  F_end_of : Fun K "end_of" "end_of" s_end_of f_end_of fd_end_of
  m_end_of : mg "end_of" = some (.ref f_end_of)
  b_end_of : Binds K fd_end_of ["text", "at"] []
  f_parts_of : Addr
  fd_parts_of : FuncData
  F_parts_of : Fun K "parts_of" "parts_of" s_parts_of f_parts_of fd_parts_of
  m_parts_of : mg "parts_of" = some (.ref f_parts_of)
  b_parts_of : Binds K fd_parts_of ["text"] []
  f_is_word : Addr
  fd_is_word : FuncData
  F_is_word : Fun K "is_word" "is_word" s_is_word f_is_word fd_is_word
  m_is_word : mg "is_word" = some (.ref f_is_word)
  b_is_word : Binds K fd_is_word ["thing"] []
  f_is_name : Addr
  fd_is_name : FuncData
  F_is_name : Fun K "is_name" "is_name" s_is_name f_is_name fd_is_name
  m_is_name : mg "is_name" = some (.ref f_is_name)
  b_is_name : Binds K fd_is_name ["thing"] []
  f_is_free : Addr
  fd_is_free : FuncData
  F_is_free : Fun K "is_free" "is_free" s_is_free f_is_free fd_is_free
  m_is_free : mg "is_free" = some (.ref f_is_free)
  b_is_free : Binds K fd_is_free ["thing"] []
  f_known : Addr
  fd_known : FuncData
  F_known : Fun K "known" "known" s_known f_known fd_known
  m_known : mg "known" = some (.ref f_known)
  b_known : Binds K fd_known ["stretch"] []
  f_least_start : Addr
  fd_least_start : FuncData
  F_least_start : Fun K "least_start" "least_start" s_least_start f_least_start fd_least_start
  m_least_start : mg "least_start" = some (.ref f_least_start)
  b_least_start : Binds K fd_least_start ["at", "row", "other", "last", "back"] []
  f_runs : Addr
  fd_runs : FuncData
  F_runs : Fun K "runs" "runs" s_runs f_runs fd_runs
  m_runs : mg "runs" = some (.ref f_runs)
  b_runs : Binds K fd_runs ["one", "other", "far"] []
  f_pairs_of : Addr
  fd_pairs_of : FuncData
  F_pairs_of : Fun K "pairs_of" "pairs_of" s_pairs_of f_pairs_of fd_pairs_of
  m_pairs_of : mg "pairs_of" = some (.ref f_pairs_of)
  b_pairs_of : Binds K fd_pairs_of ["title", "one", "other", "two", "fars", "least"] []
  f_pairs : Addr
  fd_pairs : FuncData
  F_pairs : FunDf K "pairs" "pairs" s_pairs [.int 3] f_pairs fd_pairs
  m_pairs : mg "pairs" = some (.ref f_pairs)
  b_pairs : Binds K fd_pairs ["files", "least"] []
  f_law_begun : Addr
  fd_law_begun : FuncData
  F_law_begun : Fun K "_law_begun" "_law_begun" s_law_begun f_law_begun fd_law_begun
  m_law_begun : mg "_law_begun" = some (.ref f_law_begun)
  b_law_begun : Binds K fd_law_begun ["_law_script"] []
  f_law_take : Addr
  fd_law_take : FuncData
  F_law_take : Fun K "_law_take" "_law_take" s_law_take f_law_take fd_law_take
  m_law_take : mg "_law_take" = some (.ref f_law_take)
  b_law_take : Binds K fd_law_take ["_law_state", "_law_many"] []
  f_law_kept : Addr
  fd_law_kept : FuncData
  F_law_kept : Fun K "_law_kept" "_law_kept" s_law_kept f_law_kept fd_law_kept
  m_law_kept : mg "_law_kept" = some (.ref f_law_kept)
  b_law_kept : Binds K fd_law_kept [] []
  f_law_name : Addr
  fd_law_name : FuncData
  F_law_name : Fun K "_law_name" "_law_name" s_law_name f_law_name fd_law_name
  m_law_name : mg "_law_name" = some (.ref f_law_name)
  b_law_name : Binds K fd_law_name ["_law_state", "_law_used"] []
  f_law_same : Addr
  fd_law_same : FuncData
  F_law_same : Fun K "_law_same" "_law_same" s_law_same f_law_same fd_law_same
  m_law_same : mg "_law_same" = some (.ref f_law_same)
  b_law_same : Binds K fd_law_same ["_law_found", "_law_due"] []
  f_law_rows : Addr
  fd_law_rows : FuncData
  F_law_rows : Fun K "_law_rows" "_law_rows" s_law_rows f_law_rows fd_law_rows
  m_law_rows : mg "_law_rows" = some (.ref f_law_rows)
  b_law_rows : Binds K fd_law_rows ["_law_state", "_law_used"] []
  f_law_copied : Addr
  fd_law_copied : FuncData
  F_law_copied : Fun K "_law_copied" "_law_copied" s_law_copied f_law_copied fd_law_copied
  m_law_copied : mg "_law_copied" = some (.ref f_law_copied)
  b_law_copied : Binds K fd_law_copied ["_law_state", "_law_rows_here", "_law_used"] []
  f_law_end : Addr
  fd_law_end : FuncData
  F_law_end : Fun K "_law_end" "_law_end" s_law_end f_law_end fd_law_end
  m_law_end : mg "_law_end" = some (.ref f_law_end)
  b_law_end : Binds K fd_law_end ["_law_one", "_law_other", "_law_first"] []
  f_law : Addr
  fd_law : FuncData
  F_law : Fun K "law" "law" s_law f_law fd_law
  m_law : mg "law" = some (.ref f_law)
  b_law : Binds K fd_law ["_law_script"] []
  n_all : mg "all" = none
  n_bool : mg "bool" = none
  n_enumerate : mg "enumerate" = none
  n_int : mg "int" = none
  n_isinstance : mg "isinstance" = none
  n_len : mg "len" = none
  n_list : mg "list" = none
  n_max : mg "max" = none
  n_min : mg "min" = none
  n_range : mg "range" = none
  n_sorted : mg "sorted" = none
  n_str : mg "str" = none
  n_tuple : mg "tuple" = none
  n_zip : mg "zip" = none
  t_LONGEST : Nat
  k_LONGEST : mg "LONGEST" = some (.int 20 t_LONGEST)
  a_KEPT : Addr
  k_KEPT : mg "KEPT" = some (.ref a_KEPT)
  kt_KEPT : ∀ H, SqT K H a_KEPT [.str "and", .str "def", .str "do", .str "else", .str "end", .str "for", .str "if", .str "in", .str "not", .str "or", .str "return", .str "use", .str "while"]
section
variable {P : Program} {w : World} {K : PySem.W.Frag} {mg : Str → Option Value} {base : Heap} {cn : String → Addr}
theorem ok_is_plain (T : Txt K mg cn)  : FnD P w K mg base cn 1 T.f_is_plain T.fd_is_plain ["thing"] S_is_plain := by
  refine def_mk T.F_is_plain sc_is_plain (by decide) len_is_plain sem_is_plain rfl fun cdv A outer s H E hr => ?_
  have hu65 := hu65_of hr
  have hu1 := hu_of hr
  have tks := takes_of (X := cxOf (L2.CX P w) P w K mg base ["thing", "sign"] "is_plain" (defScope s_is_plain) T.f_is_plain cdv A outer s H E) rfl rfl rfl rfl
  exact (jss_one (js_ret (je_and (je_cb s_isi (pe_callB call_isi (by rfl) T.n_isinstance (by decide +kernel) (ja_cons (je_v (lt_of rfl) (pv 0)) (ja_cons (je_c (pe_bltn (v := .ty "str") (by rfl) T.n_str (by decide +kernel) rfl)) ja_nil)))) (je_one (je_cb s_all (pe_callB (cr_all rfl) (by rfl) T.n_all (by decide +kernel) (ja_cons (je_lc (pe_lc (own := [("sign", 1)]) rfl sc_is_plain.nd (ji_str (je_v (lt_of rfl) (pv 0))) (blkOk_by (N := ["thing", "sign"]) (sc := (defScope s_is_plain)) (by decide +kernel)) (fun _ _ _ _ _ => (jg_name (lt_of rfl) (pg_name (i := 1) sc_is_plain.nd rfl (by first | exact Or.inl rfl | exact Or.inr rfl)))) (fun _ _ _ _ _ => jts_nil) (fun _ _ _ _ _ => (je_chain o_le o_le s_cmp s_cmp (je_c pe_str) (je_v (lt_of rfl) (pv 1)) (je_c pe_str))))) ja_nil)))))))
theorem ok_sort_of (T : Txt K mg cn)  : FnD P w K mg base cn 1 T.f_sort_of T.fd_sort_of ["sign"] S_sort_of := by
  refine def_mk T.F_sort_of sc_sort_of (by decide) len_sort_of sem_sort_of rfl fun cdv A outer s H E hr => ?_
  have hu65 := hu65_of hr
  have hu1 := hu_of hr
  have tks := takes_of (X := cxOf (L2.CX P w) P w K mg base ["sign"] "sort_of" (defScope s_sort_of) T.f_sort_of cdv A outer s H E) rfl rfl rfl rfl
  exact (jss_cons (js_if (jt_cmp (o_eq hu65) s_eq (je_v (lt_of rfl) (pv 0)) (je_c pe_str) (nomark _)) (jss_one (js_ret (je_c pe_str))) jss_nil)
    (jss_cons (js_if (jt_val (je_m0 PySem.F.slot_str_isdigit PySem.F.type_str_isdigit mt_isdigit (je_v (lt_of rfl) (pv 0)))) (jss_one (js_ret (je_c pe_str))) jss_nil)
    (jss_cons (js_if (jw_t (jw_or (jt_val (je_m0 PySem.F.slot_str_isalpha PySem.F.type_str_isalpha mt_isalpha (je_v (lt_of rfl) (pv 0)))) (jw_or1 (jt_cmp (o_eq hu65) s_eq (je_v (lt_of rfl) (pv 0)) (je_c pe_str) (nomark _))))) (jss_one (js_ret (je_c pe_str))) jss_nil)
    (jss_one (js_ret (je_c pe_str))))))
theorem ok_end_of (T : Txt K mg cn) (G_sort_of : FnD P w K mg base cn 1 T.f_sort_of T.fd_sort_of ["sign"] S_sort_of) : FnD P w K mg base cn 2 T.f_end_of T.fd_end_of ["text", "at"] S_end_of := by
  refine def_mk T.F_end_of sc_end_of (by decide) len_end_of sem_end_of rfl fun cdv A outer s H E hr => ?_
  have hu65 := hu65_of hr
  have hu1 := hu_of hr
  have tks := takes_of (X := cxOf (L2.CX P w) P w K mg base ["text", "at", "sort", "end"] "end_of" (defScope s_end_of) T.f_end_of cdv A outer s H E) rfl rfl rfl rfl
  exact (jss_cons (js_set (i := 2) (lt_of rfl) (ps_set sc_end_of.nd rfl (by first | exact Or.inl rfl | exact Or.inr rfl) (je_callN (ms := [false]) (G_sort_of.mono (by decide)) hr (by rfl) T.m_sort_of T.F_sort_of.kp T.b_sort_of tks (ja_cons (je_ixS hu1 (je_v (lt_of rfl) (pv 0)) (je_v (lt_of rfl) (pv 1)) (fun _ _ => rfl)) ja_nil))))
    (jss_cons (js_set (i := 3) (lt_of rfl) (ps_set sc_end_of.nd rfl (by first | exact Or.inl rfl | exact Or.inr rfl) (je_op o_add s_add (je_v (lt_of rfl) (pv 1)) (je_c pe_int))))
    (jss_cons (js_if (jt_cmp (o_eq hu65) s_eq (je_v (lt_of rfl) (pv 2)) (je_c pe_str) (nomark _)) (jss_one (js_while (passes_of rfl) (jw_t (jw_and (jt_cmp o_lt s_cmp (je_v (lt_of rfl) (pv 3)) (je_cb s_len (pe_callB o_len (by rfl) T.n_len boot_len (ja_cons (je_v (lt_of rfl) (pv 0)) ja_nil))) (nomark _)) (jw_and1 (jt_cmp (o_in hu65) s_inS (je_callN (ms := [false]) (G_sort_of.mono (by decide)) hr (by rfl) T.m_sort_of T.F_sort_of.kp T.b_sort_of tks (ja_cons (je_ixS hu1 (je_v (lt_of rfl) (pv 0)) (je_v (lt_of rfl) (pv 3)) (fun _ _ => rfl)) ja_nil)) (je_tup (ja_cons (je_c pe_str) (ja_cons (je_c pe_str) ja_nil))) (by rfl))))) (jss_one (js_augI (lt_of rfl) (ps_aug (i := 3) sc_end_of.nd rfl (by first | exact Or.inl rfl | exact Or.inr rfl) (je_c pe_int) ip_add))))) (jss_one (js_if (jt_cmp (o_eq hu65) s_eq (je_v (lt_of rfl) (pv 2)) (je_c pe_str) (nomark _)) (jss_one (js_while (passes_of rfl) (jw_t (jw_and (jt_cmp o_lt s_cmp (je_v (lt_of rfl) (pv 3)) (je_cb s_len (pe_callB o_len (by rfl) T.n_len boot_len (ja_cons (je_v (lt_of rfl) (pv 0)) ja_nil))) (nomark _)) (jw_and1 (jt_cmp (o_eq hu65) s_eq (je_callN (ms := [false]) (G_sort_of.mono (by decide)) hr (by rfl) T.m_sort_of T.F_sort_of.kp T.b_sort_of tks (ja_cons (je_ixS hu1 (je_v (lt_of rfl) (pv 0)) (je_v (lt_of rfl) (pv 3)) (fun _ _ => rfl)) ja_nil)) (je_c pe_str) (nomark _))))) (jss_one (js_augI (lt_of rfl) (ps_aug (i := 3) sc_end_of.nd rfl (by first | exact Or.inl rfl | exact Or.inr rfl) (je_c pe_int) ip_add))))) jss_nil)))
    (jss_one (js_ret (je_mv (lt_of rfl) (pv 3)))))))
theorem ok_parts_of (T : Txt K mg cn) (G_end_of : FnD P w K mg base cn 2 T.f_end_of T.fd_end_of ["text", "at"] S_end_of) : FnD P w K mg base cn 3 T.f_parts_of T.fd_parts_of ["text"] S_parts_of := by
  refine def_mk T.F_parts_of sc_parts_of (by decide) len_parts_of sem_parts_of rfl fun cdv A outer s H E hr => ?_
  have hu65 := hu65_of hr
  have hu1 := hu_of hr
  have tks := takes_of (X := cxOf (L2.CX P w) P w K mg base ["text", "found", "at", "end"] "parts_of" (defScope s_parts_of) T.f_parts_of cdv A outer s H E) rfl rfl rfl rfl
  exact (jss_cons (js_set (i := 1) (lt_of rfl) (ps_set sc_parts_of.nd rfl (by first | exact Or.inl rfl | exact Or.inr rfl) (je_lst ja_nil)))
    (jss_cons (js_set (i := 2) (lt_of rfl) (ps_set sc_parts_of.nd rfl (by first | exact Or.inl rfl | exact Or.inr rfl) (je_c pe_int)))
    (jss_cons (js_while (passes_of rfl) (jt_cmp o_lt s_cmp (je_v (lt_of rfl) (pv 2)) (je_cb s_len (pe_callB o_len (by rfl) T.n_len boot_len (ja_cons (je_v (lt_of rfl) (pv 0)) ja_nil))) (nomark _)) (jss_cons (js_set (i := 3) (lt_of rfl) (ps_set sc_parts_of.nd rfl (by first | exact Or.inl rfl | exact Or.inr rfl) (je_callN (ms := [false, false]) (G_end_of.mono (by decide)) hr (by rfl) T.m_end_of T.F_end_of.kp T.b_end_of tks (ja_cons (je_v (lt_of rfl) (pv 0)) (ja_cons (je_v (lt_of rfl) (pv 2)) ja_nil)))))
    (jss_cons (js_if (jt_cmp (o_ne hu65) s_ne (je_ixS hu1 (je_v (lt_of rfl) (pv 0)) (je_v (lt_of rfl) (pv 2)) (fun _ _ => rfl)) (je_c pe_str) (nomark _)) (jss_one (js_expr (je_mut m_append (lt_of rfl) (pe_bm PySem.F.plainAttrs_list PySem.F.slot_list_append PySem.F.type_list_append mt_append (pv 1) (ja_cons (je_cut (je_v (lt_of rfl) (pv 0)) (jo_some (je_v (lt_of rfl) (pv 2))) (jo_some (je_v (lt_of rfl) (pv 3)))) ja_nil))))) jss_nil)
    (jss_one (js_set (i := 2) (lt_of rfl) (ps_set sc_parts_of.nd rfl (by first | exact Or.inl rfl | exact Or.inr rfl) (je_v (lt_of rfl) (pv 3))))))))
    (jss_one (js_ret (je_mv (lt_of rfl) (pv 1)))))))
theorem ok_is_word (T : Txt K mg cn) (G_is_plain : FnD P w K mg base cn 1 T.f_is_plain T.fd_is_plain ["thing"] S_is_plain) (G_parts_of : FnD P w K mg base cn 3 T.f_parts_of T.fd_parts_of ["text"] S_parts_of) : FnD P w K mg base cn 4 T.f_is_word T.fd_is_word ["thing"] S_is_word := by
  refine def_mk T.F_is_word sc_is_word (by decide) len_is_word sem_is_word rfl fun cdv A outer s H E hr => ?_
  have hu65 := hu65_of hr
  have hu1 := hu_of hr
  have tks := takes_of (X := cxOf (L2.CX P w) P w K mg base ["thing"] "is_word" (defScope s_is_word) T.f_is_word cdv A outer s H E) rfl rfl rfl rfl
  exact (jss_one (js_ret (je_and (je_callN (ms := [false]) (G_is_plain.mono (by decide)) hr (by rfl) T.m_is_plain T.F_is_plain.kp T.b_is_plain tks (ja_cons (je_v (lt_of rfl) (pv 0)) ja_nil)) (je_and (je_cmp o_le s_cmp (je_cb s_len (pe_callB o_len (by rfl) T.n_len boot_len (ja_cons (je_v (lt_of rfl) (pv 0)) ja_nil))) (je_c (pe_glob (by rfl) T.k_LONGEST ⟨_, rfl⟩)) (nomark _)) (je_one (je_cmp (o_eq hu65) s_eq (je_callN (ms := [false]) (G_parts_of.mono (by decide)) hr (by rfl) T.m_parts_of T.F_parts_of.kp T.b_parts_of tks (ja_cons (je_v (lt_of rfl) (pv 0)) ja_nil)) (je_lst (ja_cons (je_v (lt_of rfl) (pv 0)) ja_nil)) (nomark _)))))))
theorem ok_is_name (T : Txt K mg cn) (G_is_word : FnD P w K mg base cn 4 T.f_is_word T.fd_is_word ["thing"] S_is_word) (G_sort_of : FnD P w K mg base cn 1 T.f_sort_of T.fd_sort_of ["sign"] S_sort_of) : FnD P w K mg base cn 5 T.f_is_name T.fd_is_name ["thing"] S_is_name := by
  refine def_mk T.F_is_name sc_is_name (by decide) len_is_name sem_is_name rfl fun cdv A outer s H E hr => ?_
  have hu65 := hu65_of hr
  have hu1 := hu_of hr
  have tks := takes_of (X := cxOf (L2.CX P w) P w K mg base ["thing"] "is_name" (defScope s_is_name) T.f_is_name cdv A outer s H E) rfl rfl rfl rfl
  exact (jss_one (js_ret (je_and (je_callN (ms := [false]) (G_is_word.mono (by decide)) hr (by rfl) T.m_is_word T.F_is_word.kp T.b_is_word tks (ja_cons (je_v (lt_of rfl) (pv 0)) ja_nil)) (je_one (je_cmp (o_eq hu65) s_eq (je_callN (ms := [false]) (G_sort_of.mono (by decide)) hr (by rfl) T.m_sort_of T.F_sort_of.kp T.b_sort_of tks (ja_cons (je_ixS hu1 (je_v (lt_of rfl) (pv 0)) (je_c pe_int) (fun _ _ => rfl)) ja_nil)) (je_c pe_str) (nomark _))))))
theorem ok_is_free (T : Txt K mg cn) (G_is_name : FnD P w K mg base cn 5 T.f_is_name T.fd_is_name ["thing"] S_is_name) : FnD P w K mg base cn 6 T.f_is_free T.fd_is_free ["thing"] S_is_free := by
  refine def_mk T.F_is_free sc_is_free (by decide) len_is_free sem_is_free rfl fun cdv A outer s H E hr => ?_
  have hu65 := hu65_of hr
  have hu1 := hu_of hr
  have tks := takes_of (X := cxOf (L2.CX P w) P w K mg base ["thing"] "is_free" (defScope s_is_free) T.f_is_free cdv A outer s H E) rfl rfl rfl rfl
  exact (jss_one (js_ret (je_and (je_callN (ms := [false]) (G_is_name.mono (by decide)) hr (by rfl) T.m_is_name T.F_is_name.kp T.b_is_name tks (ja_cons (je_v (lt_of rfl) (pv 0)) ja_nil)) (je_one (je_cmp (o_nin hu65) s_inS (je_v (lt_of rfl) (pv 0)) (je_kt (pe_glob (by rfl) T.k_KEPT rfl) T.kt_KEPT) (by rfl))))))
theorem ok_known (T : Txt K mg cn) (G_is_free : FnD P w K mg base cn 6 T.f_is_free T.fd_is_free ["thing"] S_is_free) : FnD P w K mg base cn 7 T.f_known T.fd_known ["stretch"] S_known := by
  refine def_mk T.F_known sc_known (by decide) len_known sem_known rfl fun cdv A outer s H E hr => ?_
  have hu65 := hu65_of hr
  have hu1 := hu_of hr
  have tks := takes_of (X := cxOf (L2.CX P w) P w K mg base ["stretch", "row", "word"] "known" (defScope s_known) T.f_known cdv A outer s H E) rfl rfl rfl rfl
  exact (jss_one (js_ret (je_lc (pe_lc (own := [("row", 1)]) rfl sc_known.nd (ji_seq (je_v (lt_of rfl) (pv 0))) (blkOk_by (N := ["stretch", "row", "word"]) (sc := (defScope s_known)) (by decide +kernel)) (fun _ _ _ _ _ => (jg_name (lt_of rfl) (pg_name (i := 1) sc_known.nd rfl (by first | exact Or.inl rfl | exact Or.inr rfl)))) (fun _ _ _ _ _ => jts_nil) (fun _ _ _ _ _ => (je_lc (pe_lc (own := [("word", 2)]) rfl sc_known.nd (ji_seq (je_v (lt_of rfl) (pv 1))) (blkOk_by (N := ["stretch", "row", "word"]) (sc := ((relS _ (defScope s_known)))) (by decide +kernel)) (fun _ _ _ _ _ => (jg_name (lt_of rfl) (pg_name (i := 2) sc_known.nd rfl (by first | exact Or.inl rfl | exact Or.inr rfl)))) (fun _ _ _ _ _ => jts_nil) (fun _ _ _ _ _ => (je_tup (ja_cons (je_v (lt_of rfl) (pv 2)) (ja_cons (je_callN (ms := [false]) (G_is_free.mono (by decide)) hr (by rfl) T.m_is_free T.F_is_free.kp T.b_is_free takes0 (ja_cons (je_v (lt_of rfl) (pv 2)) ja_nil)) ja_nil)))))))))))
theorem ok_least_start (T : Txt K mg cn)  : FnD P w K mg base cn 1 T.f_least_start T.fd_least_start ["at", "row", "other", "last", "back"] S_least_start := by
  refine def_mk T.F_least_start sc_least_start (by decide) len_least_start sem_least_start rfl fun cdv A outer s H E hr => ?_
  have hu65 := hu65_of hr
  have hu1 := hu_of hr
  have tks := takes_of (X := cxOf (L2.CX P w) P w K mg base ["at", "row", "other", "last", "back", "start", "k", "old", "free", "new", "loose", "here", "there"] "least_start" (defScope s_least_start) T.f_least_start cdv A outer s H E) rfl rfl rfl rfl
  exact (jss_cons (js_set (i := 5) (lt_of rfl) (ps_set sc_least_start.nd rfl (by first | exact Or.inl rfl | exact Or.inr rfl) (je_c pe_int)))
    (jss_cons (js_forW (vs := [6, 7, 8, 9, 10, 11, 12]) (passes_of rfl) rfl (ji_ez (pi_ez (by rfl) T.n_zip (by rfl) T.n_enumerate (ja_cons (je_v (lt_of rfl) (pv 1)) (ja_cons (je_v (lt_of rfl) (pv 2)) ja_nil)))) (jg_tup (S := [6, 7, 8, 9, 10]) (n := 2) rfl (jgs_cons (jg_mono (S' := [6, 7, 8, 9, 10]) (jg_name (lt_of rfl) (pg_name (i := 6) sc_least_start.nd rfl (by first | exact Or.inl rfl | exact Or.inr rfl))) (by decide)) (jgs_cons (jg_tup (S := [6, 7, 8, 9, 10]) (n := 2) rfl (jgs_cons (jg_tup (S := [6, 7, 8, 9, 10]) (n := 2) rfl (jgs_cons (jg_mono (S' := [6, 7, 8, 9, 10]) (jg_name (lt_of rfl) (pg_name (i := 7) sc_least_start.nd rfl (by first | exact Or.inl rfl | exact Or.inr rfl))) (by decide)) (jgs_cons (jg_mono (S' := [6, 7, 8, 9, 10]) (jg_name (lt_of rfl) (pg_name (i := 8) sc_least_start.nd rfl (by first | exact Or.inl rfl | exact Or.inr rfl))) (by decide)) jgs_nil))) (jgs_cons (jg_tup (S := [6, 7, 8, 9, 10]) (n := 2) rfl (jgs_cons (jg_mono (S' := [6, 7, 8, 9, 10]) (jg_name (lt_of rfl) (pg_name (i := 9) sc_least_start.nd rfl (by first | exact Or.inl rfl | exact Or.inr rfl))) (by decide)) (jgs_cons (jg_mono (S' := [6, 7, 8, 9, 10]) (jg_name (lt_of rfl) (pg_name (i := 10) sc_least_start.nd rfl (by first | exact Or.inl rfl | exact Or.inr rfl))) (by decide)) jgs_nil))) jgs_nil))) jgs_nil))) (jss_one (js_wipe (vs := [11, 12]) (js_if (jw_t (jw_and (jt_val (je_v (lt_of rfl) (pv 8))) (jw_and1 (jt_val (je_v (lt_of rfl) (pv 10)))))) (jss_cons (js_set (i := 11) (lt_of rfl) (ps_set sc_least_start.nd rfl (by first | exact Or.inl rfl | exact Or.inr rfl) (je_get2 hu1 (je_v (lt_of rfl) (pv 3)) (je_v (lt_of rfl) (pv 7)) (je_tup (ja_cons (je_un un_neg s_neg (je_c pe_int)) (ja_cons (je_c pe_int) ja_nil))) ⟨rfl, rfl, rfl, rfl⟩)))
    (jss_cons (js_set (i := 12) (lt_of rfl) (ps_set sc_least_start.nd rfl (by first | exact Or.inl rfl | exact Or.inr rfl) (je_get2 hu1 (je_v (lt_of rfl) (pv 4)) (je_v (lt_of rfl) (pv 9)) (je_tup (ja_cons (je_un un_neg s_neg (je_c pe_int)) (ja_cons (je_c pe_int) ja_nil))) ⟨rfl, rfl, rfl, rfl⟩)))
    (jss_cons (js_if (jt_cmp (o_ne hu65) s_ne (je_v (lt_of rfl) (pv 11)) (je_v (lt_of rfl) (pv 12)) (nomark _)) (jss_one (js_set (i := 5) (lt_of rfl) (ps_set sc_least_start.nd rfl (by first | exact Or.inl rfl | exact Or.inr rfl) (je_cb s_max2 (pe_callB (call_max2 rfl) (by rfl) T.n_max (by decide +kernel) (ja_cons (je_v (lt_of rfl) (pv 5)) (ja_cons (je_op o_add s_add (je_ixS hu1 (je_cb s_maxP (pe_callB (call_maxP rfl hu65) (by rfl) T.n_max (by decide +kernel) (ja_cons (je_v (lt_of rfl) (pv 11)) (ja_cons (je_v (lt_of rfl) (pv 12)) ja_nil)))) (je_c pe_int) (fun _ _ => rfl)) (je_c pe_int)) ja_nil))))))) jss_nil)
    (jss_cons (js_put (lt_of rfl) m_putD setD_h (ps_asg (je_tup (ja_cons (je_v (lt_of rfl) (pv 0)) (ja_cons (je_v (lt_of rfl) (pv 6)) ja_nil))) (pg_sub (pv 3) (je_v (lt_of rfl) (pv 7)) (set_dict hu1))))
    (jss_one (js_put (lt_of rfl) m_putD setD_h (ps_asg (je_tup (ja_cons (je_v (lt_of rfl) (pv 0)) (ja_cons (je_v (lt_of rfl) (pv 6)) ja_nil))) (pg_sub (pv 4) (je_v (lt_of rfl) (pv 9)) (set_dict hu1))))))))) (jss_one (js_if (jt_cmp (o_ne hu65) s_ne (je_v (lt_of rfl) (pv 7)) (je_v (lt_of rfl) (pv 9)) (nomark _)) (jss_one (js_set (i := 5) (lt_of rfl) (ps_set sc_least_start.nd rfl (by first | exact Or.inl rfl | exact Or.inr rfl) (je_op o_add s_add (je_v (lt_of rfl) (pv 0)) (je_c pe_int))))) jss_nil))))))
    (jss_cons (js_if (jt_cmp (o_ne hu65) s_ne (je_cb s_len (pe_callB o_len (by rfl) T.n_len boot_len (ja_cons (je_v (lt_of rfl) (pv 1)) ja_nil))) (je_cb s_len (pe_callB o_len (by rfl) T.n_len boot_len (ja_cons (je_v (lt_of rfl) (pv 2)) ja_nil))) (nomark _)) (jss_one (js_set (i := 5) (lt_of rfl) (ps_set sc_least_start.nd rfl (by first | exact Or.inl rfl | exact Or.inr rfl) (je_op o_add s_add (je_v (lt_of rfl) (pv 0)) (je_c pe_int))))) jss_nil)
    (jss_one (js_ret (je_mv (lt_of rfl) (pv 5)))))))
theorem ok_runs (T : Txt K mg cn) (G_least_start : FnD P w K mg base cn 1 T.f_least_start T.fd_least_start ["at", "row", "other", "last", "back"] S_least_start) : FnD P w K mg base cn 2 T.f_runs T.fd_runs ["one", "other", "far"] S_runs := by
  refine def_mk T.F_runs sc_runs (by decide) len_runs sem_runs rfl fun cdv A outer s H E hr => ?_
  have hu65 := hu65_of hr
  have hu1 := hu_of hr
  have tks := takes_of (X := cxOf (L2.CX P w) P w K mg base ["one", "other", "far", "last", "back", "start", "end", "found", "at", "begin"] "runs" (defScope s_runs) T.f_runs cdv A outer s H E) rfl rfl rfl rfl
  exact (jss_cons (js_set (i := 3) (lt_of rfl) (ps_set sc_runs.nd rfl (by first | exact Or.inl rfl | exact Or.inr rfl) je_newD))
    (jss_cons (js_set (i := 4) (lt_of rfl) (ps_set sc_runs.nd rfl (by first | exact Or.inl rfl | exact Or.inr rfl) je_newD))
    (jss_cons (js_set (i := 5) (lt_of rfl) (ps_set sc_runs.nd rfl (by first | exact Or.inl rfl | exact Or.inr rfl) (je_cb s_max2 (pe_callB (call_max2 rfl) (by rfl) T.n_max (by decide +kernel) (ja_cons (je_c pe_int) (ja_cons (je_op op_sub s_I0 (je_c pe_int) (je_v (lt_of rfl) (pv 2))) ja_nil))))))
    (jss_cons (js_set (i := 6) (lt_of rfl) (ps_set sc_runs.nd rfl (by first | exact Or.inl rfl | exact Or.inr rfl) (je_cb s_min2 (pe_callB (call_min2 rfl) (by rfl) T.n_min (by decide +kernel) (ja_cons (je_cb s_len (pe_callB o_len (by rfl) T.n_len boot_len (ja_cons (je_v (lt_of rfl) (pv 0)) ja_nil))) (ja_cons (je_op op_sub s_I0 (je_cb s_len (pe_callB o_len (by rfl) T.n_len boot_len (ja_cons (je_v (lt_of rfl) (pv 1)) ja_nil))) (je_v (lt_of rfl) (pv 2))) ja_nil))))))
    (jss_cons (js_set (i := 7) (lt_of rfl) (ps_set sc_runs.nd rfl (by first | exact Or.inl rfl | exact Or.inr rfl) (je_lst ja_nil)))
    (jss_cons (js_forW (vs := [8, 9]) (passes_of rfl) rfl (ji_rng2 (pi_range2 (by rfl) T.n_range (ja_cons (je_v (lt_of rfl) (pv 5)) (ja_cons (je_v (lt_of rfl) (pv 6)) ja_nil)))) (jg_name (lt_of rfl) (pg_name (i := 8) sc_runs.nd rfl (by first | exact Or.inl rfl | exact Or.inr rfl))) (jss_cons (js_set (i := 9) (lt_of rfl) (ps_set sc_runs.nd rfl (by first | exact Or.inl rfl | exact Or.inr rfl) (je_cb s_max2 (pe_callB (call_max2 rfl) (by rfl) T.n_max (by decide +kernel) (ja_cons (je_v (lt_of rfl) (pv 5)) (ja_cons (je_callN (ms := [false, false, false, true, true]) (G_least_start.mono (by decide)) hr (by rfl) T.m_least_start T.F_least_start.kp T.b_least_start tks (ja_cons (je_v (lt_of rfl) (pv 8)) (ja_cons (je_ixS hu1 (je_v (lt_of rfl) (pv 0)) (je_v (lt_of rfl) (pv 8)) (fun _ _ => rfl)) (ja_cons (je_ixS hu1 (je_v (lt_of rfl) (pv 1)) (je_op o_add s_add (je_v (lt_of rfl) (pv 8)) (je_v (lt_of rfl) (pv 2))) (fun _ _ => rfl)) (ja_cons (je_v (lt_of rfl) (pv 3)) (ja_cons (je_v (lt_of rfl) (pv 4)) ja_nil)))))) ja_nil))))))
    (jss_cons (js_if (jw_t (jw_and (jt_cmp o_gt s_cmp (je_v (lt_of rfl) (pv 9)) (je_v (lt_of rfl) (pv 5)) (nomark _)) (jw_and1 (jt_cmp o_gt s_cmp (je_v (lt_of rfl) (pv 8)) (je_v (lt_of rfl) (pv 5)) (nomark _))))) (jss_one (js_expr (je_mut m_append (lt_of rfl) (pe_bm PySem.F.plainAttrs_list PySem.F.slot_list_append PySem.F.type_list_append mt_append (pv 7) (ja_cons (je_tup (ja_cons (je_v (lt_of rfl) (pv 5)) (ja_cons (je_op op_sub s_I0 (je_v (lt_of rfl) (pv 8)) (je_v (lt_of rfl) (pv 5))) ja_nil))) ja_nil))))) jss_nil)
    (jss_one (js_set (i := 5) (lt_of rfl) (ps_set sc_runs.nd rfl (by first | exact Or.inl rfl | exact Or.inr rfl) (je_v (lt_of rfl) (pv 9))))))))
    (jss_cons (js_if (jt_cmp o_gt s_cmp (je_v (lt_of rfl) (pv 6)) (je_v (lt_of rfl) (pv 5)) (nomark _)) (jss_one (js_expr (je_mut m_append (lt_of rfl) (pe_bm PySem.F.plainAttrs_list PySem.F.slot_list_append PySem.F.type_list_append mt_append (pv 7) (ja_cons (je_tup (ja_cons (je_v (lt_of rfl) (pv 5)) (ja_cons (je_op op_sub s_I0 (je_v (lt_of rfl) (pv 6)) (je_v (lt_of rfl) (pv 5))) ja_nil))) ja_nil))))) jss_nil)
    (jss_one (js_ret (je_mv (lt_of rfl) (pv 7)))))))))))
theorem ok_pairs_of (T : Txt K mg cn) (G_runs : FnD P w K mg base cn 2 T.f_runs T.fd_runs ["one", "other", "far"] S_runs) : FnD P w K mg base cn 3 T.f_pairs_of T.fd_pairs_of ["title", "one", "other", "two", "fars", "least"] S_pairs_of := by
  refine def_mk T.F_pairs_of sc_pairs_of (by decide) len_pairs_of sem_pairs_of rfl fun cdv A outer s H E hr => ?_
  have hu65 := hu65_of hr
  have hu1 := hu_of hr
  have tks := takes_of (X := cxOf (L2.CX P w) P w K mg base ["title", "one", "other", "two", "fars", "least", "found", "far", "first", "many"] "pairs_of" (defScope s_pairs_of) T.f_pairs_of cdv A outer s H E) rfl rfl rfl rfl
  exact (jss_cons (js_set (i := 6) (lt_of rfl) (ps_set sc_pairs_of.nd rfl (by first | exact Or.inl rfl | exact Or.inr rfl) (je_lst ja_nil)))
    (jss_cons (js_forW (vs := [7, 8, 9]) (passes_of rfl) rfl (ji_seq (je_v (lt_of rfl) (pv 4))) (jg_name (lt_of rfl) (pg_name (i := 7) sc_pairs_of.nd rfl (by first | exact Or.inl rfl | exact Or.inr rfl))) (jss_one (js_forW (vs := [8, 9]) (passes_of rfl) rfl (ji_seq (je_callN (ms := [false, false, false]) (G_runs.mono (by decide)) hr (by rfl) T.m_runs T.F_runs.kp T.b_runs tks (ja_cons (je_v (lt_of rfl) (pv 1)) (ja_cons (je_v (lt_of rfl) (pv 3)) (ja_cons (je_v (lt_of rfl) (pv 7)) ja_nil))))) (jg_tup (S := [8, 9]) (n := 2) rfl (jgs_cons (jg_mono (S' := [8, 9]) (jg_name (lt_of rfl) (pg_name (i := 8) sc_pairs_of.nd rfl (by first | exact Or.inl rfl | exact Or.inr rfl))) (by decide)) (jgs_cons (jg_mono (S' := [8, 9]) (jg_name (lt_of rfl) (pg_name (i := 9) sc_pairs_of.nd rfl (by first | exact Or.inl rfl | exact Or.inr rfl))) (by decide)) jgs_nil))) (jss_one (js_if (jt_cmp o_ge s_cmp (je_v (lt_of rfl) (pv 9)) (je_v (lt_of rfl) (pv 5)) (nomark _)) (jss_one (js_expr (je_mut m_append (lt_of rfl) (pe_bm PySem.F.plainAttrs_list PySem.F.slot_list_append PySem.F.type_list_append mt_append (pv 6) (ja_cons (je_tup (ja_cons (je_v (lt_of rfl) (pv 0)) (ja_cons (je_v (lt_of rfl) (pv 8)) (ja_cons (je_v (lt_of rfl) (pv 2)) (ja_cons (je_op o_add s_add (je_v (lt_of rfl) (pv 8)) (je_v (lt_of rfl) (pv 7))) (ja_cons (je_v (lt_of rfl) (pv 9)) ja_nil)))))) ja_nil))))) jss_nil)))))
    (jss_one (js_ret (je_mv (lt_of rfl) (pv 6))))))
theorem ok_pairs (T : Txt K mg cn) (G_known : FnD P w K mg base cn 7 T.f_known T.fd_known ["stretch"] S_known) (G_pairs_of : FnD P w K mg base cn 3 T.f_pairs_of T.fd_pairs_of ["title", "one", "other", "two", "fars", "least"] S_pairs_of) : FnD P w K mg base cn 8 T.f_pairs T.fd_pairs ["files", "least"] S_pairs := by
  refine def_mkD T.F_pairs sc_pairs (by decide) len_pairs sem_pairs rfl fun cdv A outer s H E hr => ?_
  have hu65 := hu65_of hr
  have hu1 := hu_of hr
  have tks := takes_of (X := cxOf (L2.CX P w) P w K mg base ["files", "least", "rows", "found", "title", "one", "other", "two", "stretch"] "pairs" (defScope s_pairs) T.f_pairs cdv A outer s H E) rfl rfl rfl rfl
  exact (jss_cons (js_setLc (i := 2) (lt_of rfl) (ps_setLc (i := 2) (own := [("title", 4), ("stretch", 8)]) rfl sc_pairs.nd rfl rfl (sw_true rfl rfl rfl (by decide +kernel)) (ji_seq (je_v (lt_of rfl) (pv 0))) (blkOk_by (N := ["files", "least", "rows", "found", "title", "one", "other", "two", "stretch"]) (sc := (defScope s_pairs)) (by decide +kernel)) (fun _ _ _ _ _ => (jg_tup (S := [4, 8]) (n := 2) rfl (jgs_cons (jg_mono (S' := [4, 8]) (jg_name (lt_of rfl) (pg_name (i := 4) sc_pairs.nd rfl (by first | exact Or.inl rfl | exact Or.inr rfl))) (by decide)) (jgs_cons (jg_mono (S' := [4, 8]) (jg_name (lt_of rfl) (pg_name (i := 8) sc_pairs.nd rfl (by first | exact Or.inl rfl | exact Or.inr rfl))) (by decide)) jgs_nil)))) (fun _ _ _ _ _ => jts_nil) (fun _ _ _ _ _ => (je_tup (ja_cons (je_v (lt_of rfl) (pv 4)) (ja_cons (je_callN (ms := [false]) (G_known.mono (by decide)) hr (by rfl) T.m_known T.F_known.kp T.b_known takes0 (ja_cons (je_v (lt_of rfl) (pv 8)) ja_nil)) ja_nil))))))
    (jss_cons (js_set (i := 3) (lt_of rfl) (ps_set sc_pairs.nd rfl (by first | exact Or.inl rfl | exact Or.inr rfl) (je_lst ja_nil)))
    (jss_cons (js_forW (vs := [4, 5, 6, 7]) (passes_of rfl) rfl (ji_seq (je_v (lt_of rfl) (pv 2))) (jg_tup (S := [4, 5]) (n := 2) rfl (jgs_cons (jg_mono (S' := [4, 5]) (jg_name (lt_of rfl) (pg_name (i := 4) sc_pairs.nd rfl (by first | exact Or.inl rfl | exact Or.inr rfl))) (by decide)) (jgs_cons (jg_mono (S' := [4, 5]) (jg_name (lt_of rfl) (pg_name (i := 5) sc_pairs.nd rfl (by first | exact Or.inl rfl | exact Or.inr rfl))) (by decide)) jgs_nil))) (jss_one (js_forW (vs := [6, 7]) (passes_of rfl) rfl (ji_seq (je_v (lt_of rfl) (pv 2))) (jg_tup (S := [6, 7]) (n := 2) rfl (jgs_cons (jg_mono (S' := [6, 7]) (jg_name (lt_of rfl) (pg_name (i := 6) sc_pairs.nd rfl (by first | exact Or.inl rfl | exact Or.inr rfl))) (by decide)) (jgs_cons (jg_mono (S' := [6, 7]) (jg_name (lt_of rfl) (pg_name (i := 7) sc_pairs.nd rfl (by first | exact Or.inl rfl | exact Or.inr rfl))) (by decide)) jgs_nil))) (jss_cons (js_if (jt_cmp (o_eq hu65) s_eq (je_v (lt_of rfl) (pv 4)) (je_v (lt_of rfl) (pv 6)) (nomark _)) (jss_one (js_expr (je_mut m_extend (lt_of rfl) (pe_bm PySem.F.plainAttrs_list PySem.F.slot_list_extend PySem.F.type_list_extend mt_extend (pv 3) (ja_cons (je_callN (ms := [false, false, false, false, false, false]) (G_pairs_of.mono (by decide)) hr (by rfl) T.m_pairs_of T.F_pairs_of.kp T.b_pairs_of tks (ja_cons (je_v (lt_of rfl) (pv 4)) (ja_cons (je_v (lt_of rfl) (pv 5)) (ja_cons (je_v (lt_of rfl) (pv 6)) (ja_cons (je_v (lt_of rfl) (pv 7)) (ja_cons (je_lrg2 rfl (by rfl) T.n_range (by rfl) T.n_list (je_c pe_int) (je_cb s_len (pe_callB o_len (by rfl) T.n_len boot_len (ja_cons (je_v (lt_of rfl) (pv 7)) ja_nil)))) (ja_cons (je_v (lt_of rfl) (pv 1)) ja_nil))))))) ja_nil))))) jss_nil)
    (jss_one (js_if (jt_cmp o_lt s_cmp (je_v (lt_of rfl) (pv 4)) (je_v (lt_of rfl) (pv 6)) (nomark _)) (jss_one (js_expr (je_mut m_extend (lt_of rfl) (pe_bm PySem.F.plainAttrs_list PySem.F.slot_list_extend PySem.F.type_list_extend mt_extend (pv 3) (ja_cons (je_callN (ms := [false, false, false, false, false, false]) (G_pairs_of.mono (by decide)) hr (by rfl) T.m_pairs_of T.F_pairs_of.kp T.b_pairs_of tks (ja_cons (je_v (lt_of rfl) (pv 4)) (ja_cons (je_v (lt_of rfl) (pv 5)) (ja_cons (je_v (lt_of rfl) (pv 6)) (ja_cons (je_v (lt_of rfl) (pv 7)) (ja_cons (je_lrg2 rfl (by rfl) T.n_range (by rfl) T.n_list (je_op op_sub s_I0 (je_c pe_int) (je_cb s_len (pe_callB o_len (by rfl) T.n_len boot_len (ja_cons (je_v (lt_of rfl) (pv 5)) ja_nil)))) (je_cb s_len (pe_callB o_len (by rfl) T.n_len boot_len (ja_cons (je_v (lt_of rfl) (pv 7)) ja_nil)))) (ja_cons (je_v (lt_of rfl) (pv 1)) ja_nil))))))) ja_nil))))) jss_nil))))))
    (jss_one (js_ret (je_cb s_sortT (pe_callB cr_sortedT (by rfl) T.n_sorted (by decide +kernel) (ja_cons (je_v (lt_of rfl) (pv 3)) ja_nil))))))))
theorem ok_law_begun (T : Txt K mg cn)  : FnD P w K mg base cn 1 T.f_law_begun T.fd_law_begun ["_law_script"] S_law_begun := by
  refine def_mk T.F_law_begun sc_law_begun (by decide) len_law_begun sem_law_begun rfl fun cdv A outer s H E hr => ?_
  have hu65 := hu65_of hr
  have hu1 := hu_of hr
  have tks := takes_of (X := cxOf (L2.CX P w) P w K mg base ["_law_script"] "_law_begun" (defScope s_law_begun) T.f_law_begun cdv A outer s H E) rfl rfl rfl rfl
  exact (jss_one (js_ret (je_disp [("cells", (dVar 0)), ("at", (dC (.int 0))), ("rest", (dC (.int 0))), ("turn", (dC (.int 0))), ("more", (dC (.int 17)))] (pps_cons pe_str (je_v (lt_of rfl) (pv 0)) (pps_cons pe_str (je_c pe_int) (pps_cons pe_str (je_c pe_int) (pps_cons pe_str (je_c pe_int) (pps_cons pe_str (je_c pe_int) pps_nil))))) rfl rfl (by simp) (by decide))))
theorem ok_law_take (T : Txt K mg cn)  : FnD P w K mg base cn 1 T.f_law_take T.fd_law_take ["_law_state", "_law_many"] S_law_take := by
  refine def_mk T.F_law_take sc_law_take (by decide) len_law_take sem_law_take rfl fun cdv A outer s H E hr => ?_
  have hu65 := hu65_of hr
  have hu1 := hu_of hr
  have tks := takes_of (X := cxOf (L2.CX P w) P w K mg base ["_law_state", "_law_many", "_law_cells", "_law_found", "_law_cell"] "_law_take" (defScope s_law_take) T.f_law_take cdv A outer s H E) rfl rfl rfl rfl
  exact (jss_cons (js_set (i := 2) (lt_of rfl) (ps_set sc_law_take.nd rfl (by first | exact Or.inl rfl | exact Or.inr rfl) (je_ixS hu1 (je_v (lt_of rfl) (pv 0)) (je_c pe_str) (fun _ _ => rfl))))
    (jss_cons (js_whileW (vs := [3, 4]) (passes_of rfl) (jw_t (jw_and (jt_cmp o_lt s_cmp (je_ixS hu1 (je_v (lt_of rfl) (pv 0)) (je_c pe_str) (fun _ _ => rfl)) (je_c pe_int) (nomark _)) (jw_and1 (jt_cmp o_lt s_cmp (je_ixS hu1 (je_v (lt_of rfl) (pv 0)) (je_c pe_str) (fun _ _ => rfl)) (je_cb s_len (pe_callB o_len (by rfl) T.n_len boot_len (ja_cons (je_v (lt_of rfl) (pv 2)) ja_nil))) (nomark _))))) (jss_cons (js_if (jt_cmp o_ge s_cmp (je_ixS hu1 (je_v (lt_of rfl) (pv 2)) (je_ixS hu1 (je_v (lt_of rfl) (pv 0)) (je_c pe_str) (fun _ _ => rfl)) (fun _ _ => rfl)) (je_op op_pow s_I (je_c pe_int) (je_c pe_int)) (nomark _)) (jss_one (js_put (lt_of rfl) m_putD setD_h (ps_asg (je_ixS hu1 (je_v (lt_of rfl) (pv 2)) (je_ixS hu1 (je_v (lt_of rfl) (pv 0)) (je_c pe_str) (fun _ _ => rfl)) (fun _ _ => rfl)) (pg_sub (pv 0) (je_c pe_str) (set_dict hu1))))) jss_nil)
    (jss_one (js_put (lt_of rfl) m_putD setD_h (ps_asg (je_op o_add s_add (je_ixS hu1 (je_v (lt_of rfl) (pv 0)) (je_c pe_str) (fun _ _ => rfl)) (je_c pe_int)) (pg_sub (pv 0) (je_c pe_str) (set_dict hu1)))))))
    (jss_cons (js_if (jt_cmp o_gt s_cmp (je_ixS hu1 (je_v (lt_of rfl) (pv 0)) (je_c pe_str) (fun _ _ => rfl)) (je_c pe_int) (nomark _)) (jss_cons (js_set (i := 3) (lt_of rfl) (ps_set sc_law_take.nd rfl (by first | exact Or.inl rfl | exact Or.inr rfl) (je_op op_mod s_I (je_ixS hu1 (je_v (lt_of rfl) (pv 0)) (je_c pe_str) (fun _ _ => rfl)) (je_v (lt_of rfl) (pv 1)))))
    (jss_cons (js_put (lt_of rfl) m_putD setD_h (ps_asg (je_op op_fdivW s_div (je_ixS hu1 (je_v (lt_of rfl) (pv 0)) (je_c pe_str) (fun _ _ => rfl)) (je_v (lt_of rfl) (pv 1))) (pg_sub (pv 0) (je_c pe_str) (set_dict hu1))))
    (jss_one (js_ret (je_mv (lt_of rfl) (pv 3)))))) jss_nil)
    (jss_cons (js_set (i := 4) (lt_of rfl) (ps_set sc_law_take.nd rfl (by first | exact Or.inl rfl | exact Or.inr rfl) (je_c pe_int)))
    (jss_cons (js_if (jt_cmp o_gt s_cmp (je_cb s_len (pe_callB o_len (by rfl) T.n_len boot_len (ja_cons (je_v (lt_of rfl) (pv 2)) ja_nil))) (je_c pe_int) (nomark _)) (jss_one (js_set (i := 4) (lt_of rfl) (ps_set sc_law_take.nd rfl (by first | exact Or.inl rfl | exact Or.inr rfl) (je_ixS hu1 (je_v (lt_of rfl) (pv 2)) (je_op op_mod s_I (je_ixS hu1 (je_v (lt_of rfl) (pv 0)) (je_c pe_str) (fun _ _ => rfl)) (je_cb s_len (pe_callB o_len (by rfl) T.n_len boot_len (ja_cons (je_v (lt_of rfl) (pv 2)) ja_nil)))) (fun _ _ => rfl))))) jss_nil)
    (jss_cons (js_put (lt_of rfl) m_putD setD_h (ps_asg (je_op o_add s_add (je_ixS hu1 (je_v (lt_of rfl) (pv 0)) (je_c pe_str) (fun _ _ => rfl)) (je_c pe_int)) (pg_sub (pv 0) (je_c pe_str) (set_dict hu1))))
    (jss_cons (js_put (lt_of rfl) m_putD setD_h (ps_asg (je_op op_mod s_I (je_op o_add s_add (je_op o_add s_add (je_op o_mul s_mul (je_ixS hu1 (je_v (lt_of rfl) (pv 0)) (je_c pe_str) (fun _ _ => rfl)) (je_c pe_int)) (je_v (lt_of rfl) (pv 4))) (je_ixS hu1 (je_v (lt_of rfl) (pv 0)) (je_c pe_str) (fun _ _ => rfl))) (je_c pe_int)) (pg_sub (pv 0) (je_c pe_str) (set_dict hu1))))
    (jss_one (js_ret (je_op op_mod s_I (je_op op_mod s_I (je_op o_add s_add (je_op o_mul s_mul (je_ixS hu1 (je_v (lt_of rfl) (pv 0)) (je_c pe_str) (fun _ _ => rfl)) (je_ixS hu1 (je_v (lt_of rfl) (pv 0)) (je_c pe_str) (fun _ _ => rfl))) (je_op o_mul s_mul (je_c pe_int) (je_ixS hu1 (je_v (lt_of rfl) (pv 0)) (je_c pe_str) (fun _ _ => rfl)))) (je_c pe_int)) (je_v (lt_of rfl) (pv 1))))))))))))
theorem ok_law_kept (T : Txt K mg cn)  : FnD P w K mg base cn 1 T.f_law_kept T.fd_law_kept [] S_law_kept := by
  refine def_mk T.F_law_kept sc_law_kept (by decide) len_law_kept sem_law_kept rfl fun cdv A outer s H E hr => ?_
  have hu65 := hu65_of hr
  have hu1 := hu_of hr
  have tks := takes_of (X := cxOf (L2.CX P w) P w K mg base [] "_law_kept" (defScope s_law_kept) T.f_law_kept cdv A outer s H E) rfl rfl rfl rfl
  exact (jss_one (js_ret (je_lst (ja_cons (je_c pe_str) (ja_cons (je_c pe_str) (ja_cons (je_c pe_str) (ja_cons (je_c pe_str) (ja_cons (je_c pe_str) (ja_cons (je_c pe_str) (ja_cons (je_c pe_str) (ja_cons (je_c pe_str) (ja_cons (je_c pe_str) (ja_cons (je_c pe_str) (ja_cons (je_c pe_str) (ja_cons (je_c pe_str) (ja_cons (je_c pe_str) ja_nil))))))))))))))))
theorem ok_law_name (T : Txt K mg cn) (G_law_take : FnD P w K mg base cn 1 T.f_law_take T.fd_law_take ["_law_state", "_law_many"] S_law_take) : FnD P w K mg base cn 2 T.f_law_name T.fd_law_name ["_law_state", "_law_used"] S_law_name := by
  refine def_mk T.F_law_name sc_law_name (by decide) len_law_name sem_law_name rfl fun cdv A outer s H E hr => ?_
  have hu65 := hu65_of hr
  have hu1 := hu_of hr
  have tks := takes_of (X := cxOf (L2.CX P w) P w K mg base ["_law_state", "_law_used", "_law_some", "_law_word", "_law_at", "_law_k", "_law_one"] "_law_name" (defScope s_law_name) T.f_law_name cdv A outer s H E) rfl rfl rfl rfl
  exact (jss_cons (js_set (i := 2) (lt_of rfl) (ps_set sc_law_name.nd rfl (by first | exact Or.inl rfl | exact Or.inr rfl) (je_c pe_str)))
    (jss_cons (js_set (i := 3) (lt_of rfl) (ps_set sc_law_name.nd rfl (by first | exact Or.inl rfl | exact Or.inr rfl) (je_ixS hu1 (je_v (lt_of rfl) (pv 2)) (je_callN (ms := [true, false]) (G_law_take.mono (by decide)) hr (by rfl) T.m_law_take T.F_law_take.kp T.b_law_take tks (ja_cons (je_v (lt_of rfl) (pv 0)) (ja_cons (je_c pe_int) ja_nil))) (fun _ _ => rfl))))
    (jss_cons (js_wipe (vs := [4, 5]) (js_if (jt_cmp (o_eq hu65) s_eq (je_callN (ms := [true, false]) (G_law_take.mono (by decide)) hr (by rfl) T.m_law_take T.F_law_take.kp T.b_law_take tks (ja_cons (je_v (lt_of rfl) (pv 0)) (ja_cons (je_c pe_int) ja_nil))) (je_c pe_int) (nomark _)) (jss_cons (js_set (i := 3) (lt_of rfl) (ps_set sc_law_name.nd rfl (by first | exact Or.inl rfl | exact Or.inr rfl) (je_ixS hu1 (je_v (lt_of rfl) (pv 1)) (je_callN (ms := [true, false]) (G_law_take.mono (by decide)) hr (by rfl) T.m_law_take T.F_law_take.kp T.b_law_take tks (ja_cons (je_v (lt_of rfl) (pv 0)) (ja_cons (je_cb s_len (pe_callB o_len (by rfl) T.n_len boot_len (ja_cons (je_v (lt_of rfl) (pv 1)) ja_nil))) ja_nil))) (fun _ _ => rfl))))
    (jss_cons (js_set (i := 4) (lt_of rfl) (ps_set sc_law_name.nd rfl (by first | exact Or.inl rfl | exact Or.inr rfl) (je_callN (ms := [true, false]) (G_law_take.mono (by decide)) hr (by rfl) T.m_law_take T.F_law_take.kp T.b_law_take tks (ja_cons (je_v (lt_of rfl) (pv 0)) (ja_cons (je_cb s_len (pe_callB o_len (by rfl) T.n_len boot_len (ja_cons (je_v (lt_of rfl) (pv 3)) ja_nil))) ja_nil)))))
    (jss_one (js_set (i := 3) (lt_of rfl) (ps_set sc_law_name.nd rfl (by first | exact Or.inl rfl | exact Or.inr rfl) (je_op o_add s_add (je_op o_add s_add (je_cut (je_v (lt_of rfl) (pv 3)) jo_none (jo_some (je_v (lt_of rfl) (pv 4)))) (je_ixS hu1 (je_v (lt_of rfl) (pv 2)) (je_callN (ms := [true, false]) (G_law_take.mono (by decide)) hr (by rfl) T.m_law_take T.F_law_take.kp T.b_law_take tks (ja_cons (je_v (lt_of rfl) (pv 0)) (ja_cons (je_c pe_int) ja_nil))) (fun _ _ => rfl))) (je_cut (je_v (lt_of rfl) (pv 3)) (jo_some (je_op o_add s_add (je_v (lt_of rfl) (pv 4)) (je_callN (ms := [true, false]) (G_law_take.mono (by decide)) hr (by rfl) T.m_law_take T.F_law_take.kp T.b_law_take tks (ja_cons (je_v (lt_of rfl) (pv 0)) (ja_cons (je_c pe_int) ja_nil))))) jo_none))))))) (jss_one (js_forW (vs := [4, 5]) (passes_of rfl) rfl (ji_rng1 (pi_range1 (by rfl) T.n_range (ja_cons (je_ixS hu1 (je_lst (ja_cons (je_c pe_int) (ja_cons (je_c pe_int) (ja_cons (je_c pe_int) (ja_cons (je_c pe_int) (ja_cons (je_c pe_int) (ja_cons (je_c pe_int) (ja_cons (je_c pe_int) (ja_cons (je_c pe_int) ja_nil))))))))) (je_callN (ms := [true, false]) (G_law_take.mono (by decide)) hr (by rfl) T.m_law_take T.F_law_take.kp T.b_law_take tks (ja_cons (je_v (lt_of rfl) (pv 0)) (ja_cons (je_c pe_int) ja_nil))) (fun _ _ => rfl)) ja_nil))) (jg_name (lt_of rfl) (pg_name (i := 5) sc_law_name.nd rfl (by first | exact Or.inl rfl | exact Or.inr rfl))) (jss_one (js_set (i := 3) (lt_of rfl) (ps_set sc_law_name.nd rfl (by first | exact Or.inl rfl | exact Or.inr rfl) (je_op o_add s_add (je_v (lt_of rfl) (pv 3)) (je_ixS hu1 (je_v (lt_of rfl) (pv 2)) (je_callN (ms := [true, false]) (G_law_take.mono (by decide)) hr (by rfl) T.m_law_take T.F_law_take.kp T.b_law_take tks (ja_cons (je_v (lt_of rfl) (pv 0)) (ja_cons (je_c pe_int) ja_nil))) (fun _ _ => rfl))))))))))
    (jss_cons (js_if (jw_t (jw_or (jt_cmp (o_in hu65) s_inS (je_v (lt_of rfl) (pv 3)) (je_v (lt_of rfl) (pv 1)) (by rfl)) (jw_or1 (jt_cmp o_gt s_cmp (je_cb s_len (pe_callB o_len (by rfl) T.n_len boot_len (ja_cons (je_v (lt_of rfl) (pv 3)) ja_nil))) (je_c pe_int) (nomark _))))) (jss_one (js_set (i := 3) (lt_of rfl) (ps_set sc_law_name.nd rfl (by first | exact Or.inl rfl | exact Or.inr rfl) (je_ixS hu1 (je_lc (pe_lc (own := [("_law_one", 6)]) rfl sc_law_name.nd (ji_seq (je_lc (pe_lc (own := [("_law_k", 5)]) rfl sc_law_name.nd (ji_rng1 (pi_range1 (by rfl) T.n_range (ja_cons (je_op o_add s_add (je_cb s_len (pe_callB o_len (by rfl) T.n_len boot_len (ja_cons (je_v (lt_of rfl) (pv 1)) ja_nil))) (je_c pe_int)) ja_nil))) (blkOk_by (N := ["_law_state", "_law_used", "_law_some", "_law_word", "_law_at", "_law_k", "_law_one"]) (sc := (defScope s_law_name)) (by decide +kernel)) (fun _ _ _ _ _ => (jg_name (lt_of rfl) (pg_name (i := 5) sc_law_name.nd rfl (by first | exact Or.inl rfl | exact Or.inr rfl)))) (fun _ _ _ _ _ => jts_nil) (fun _ _ _ _ _ => (je_js (ts := [(dFmt (dCut (dVar 3) dNoPart (dPart (dC (.int 15))))), (dC (.str "_")), (dFmt (dVar 5))]) (.cons (je_fmt (je_cut (je_v (lt_of rfl) (pv 3)) jo_none (jo_some (je_c pe_int)))) (.cons (je_c pe_str) (.cons (je_fmt (je_v (lt_of rfl) (pv 5))) .nil)))))))) (blkOk_by (N := ["_law_state", "_law_used", "_law_some", "_law_word", "_law_at", "_law_k", "_law_one"]) (sc := (defScope s_law_name)) (by decide +kernel)) (fun _ _ _ _ _ => (jg_name (lt_of rfl) (pg_name (i := 6) sc_law_name.nd rfl (by first | exact Or.inl rfl | exact Or.inr rfl)))) (fun _ _ _ _ _ => (jts_one (jt_cmp (o_nin hu65) s_inS (je_v (lt_of rfl) (pv 6)) (je_v (lt_of rfl) (pv 1)) (by rfl)))) (fun _ _ _ _ _ => (je_v (lt_of rfl) (pv 6))))) (je_c pe_int) (fun _ _ => rfl))))) jss_nil)
    (jss_cons (js_expr (je_mut m_append (lt_of rfl) (pe_bm PySem.F.plainAttrs_list PySem.F.slot_list_append PySem.F.type_list_append mt_append (pv 1) (ja_cons (je_v (lt_of rfl) (pv 3)) ja_nil))))
    (jss_one (js_ret (je_mv (lt_of rfl) (pv 3)))))))))
theorem okr_law_same (T : Txt K mg cn)  : ∀ n : Nat, FnD P w K mg base cn (1 + n) T.f_law_same T.fd_law_same ["_law_found", "_law_due"] (S_law_same n)
  | 0 => def_mk (t := dNever) T.F_law_same sc_law_same (by decide) (len_law_same 0) (fun _ _ _ h => h.elim) rfl fun cdv A outer s H E hr => jss_never
  | m + 1 => by
    have G_law_same := okr_law_same T  m
    refine def_mk (k := 1 + m) T.F_law_same sc_law_same (by decide) (len_law_same (m + 1)) (sem_law_same m) rfl fun cdv A outer s H E hr => ?_
    have hu65 := hu65_of hr
    have hu1 := hu_of hr
    have tks := takes_of (X := cxOf (L2.CX P w) P w K mg base ["_law_found", "_law_due", "_law_one", "_law_other"] "_law_same" (defScope s_law_same) T.f_law_same cdv A outer s H E) rfl rfl rfl rfl
    exact (jss_cons (js_if (jt_val (je_cb s_isi (pe_callB call_isi (by rfl) T.n_isinstance (by decide +kernel) (ja_cons (je_v (lt_of rfl) (pv 1)) (ja_cons (je_c (pe_bltn (v := .ty "list") (by rfl) T.n_list (by decide +kernel) rfl)) ja_nil))))) (jss_cons (js_if (jw_t (jw_or (jt_not (jt_val (je_cb s_isi (pe_callB call_isi (by rfl) T.n_isinstance (by decide +kernel) (ja_cons (je_v (lt_of rfl) (pv 0)) (ja_cons (je_c (pe_bltn (v := .ty "list") (by rfl) T.n_list (by decide +kernel) rfl)) ja_nil)))))) (jw_or1 (jt_cmp (o_ne hu65) s_ne (je_cb s_len (pe_callB o_len (by rfl) T.n_len boot_len (ja_cons (je_v (lt_of rfl) (pv 0)) ja_nil))) (je_cb s_len (pe_callB o_len (by rfl) T.n_len boot_len (ja_cons (je_v (lt_of rfl) (pv 1)) ja_nil))) (nomark _))))) (jss_one (js_ret (je_c pe_bl))) jss_nil)
      (jss_one (js_ret (je_cb s_all (pe_callB (cr_all rfl) (by rfl) T.n_all (by decide +kernel) (ja_cons (je_lc (pe_lc (own := [("_law_one", 2), ("_law_other", 3)]) rfl sc_law_same.nd (ji_zipA (RZ.pi_zipA (by rfl) T.n_zip (ja_cons (je_v (lt_of rfl) (pv 0)) (ja_cons (je_v (lt_of rfl) (pv 1)) ja_nil)))) (blkOk_by (N := ["_law_found", "_law_due", "_law_one", "_law_other"]) (sc := (defScope s_law_same)) (by decide +kernel)) (fun _ _ _ _ _ => (jg_tup (S := [2, 3]) (n := 2) rfl (jgs_cons (jg_mono (S' := [2, 3]) (jg_name (lt_of rfl) (pg_name (i := 2) sc_law_same.nd rfl (by first | exact Or.inl rfl | exact Or.inr rfl))) (by decide)) (jgs_cons (jg_mono (S' := [2, 3]) (jg_name (lt_of rfl) (pg_name (i := 3) sc_law_same.nd rfl (by first | exact Or.inl rfl | exact Or.inr rfl))) (by decide)) jgs_nil)))) (fun _ _ _ _ _ => jts_nil) (fun _ _ _ _ _ => (je_callN (ms := [false, false]) (G_law_same.mono (by omega)) hr (by rfl) T.m_law_same T.F_law_same.kp T.b_law_same takes0 (ja_cons (je_v (lt_of rfl) (pv 2)) (ja_cons (je_v (lt_of rfl) (pv 3)) ja_nil)))))) ja_nil)))))) jss_nil)
      (jss_cons (js_if (jt_val (je_cb s_isi (pe_callB call_isi (by rfl) T.n_isinstance (by decide +kernel) (ja_cons (je_v (lt_of rfl) (pv 1)) (ja_cons (je_c (pe_bltn (v := .ty "tuple") (by rfl) T.n_tuple (by decide +kernel) rfl)) ja_nil))))) (jss_cons (js_if (jw_t (jw_or (jt_not (jt_val (je_cb s_isi (pe_callB call_isi (by rfl) T.n_isinstance (by decide +kernel) (ja_cons (je_v (lt_of rfl) (pv 0)) (ja_cons (je_c (pe_bltn (v := .ty "tuple") (by rfl) T.n_tuple (by decide +kernel) rfl)) ja_nil)))))) (jw_or1 (jt_cmp (o_ne hu65) s_ne (je_cb s_len (pe_callB o_len (by rfl) T.n_len boot_len (ja_cons (je_v (lt_of rfl) (pv 0)) ja_nil))) (je_cb s_len (pe_callB o_len (by rfl) T.n_len boot_len (ja_cons (je_v (lt_of rfl) (pv 1)) ja_nil))) (nomark _))))) (jss_one (js_ret (je_c pe_bl))) jss_nil)
      (jss_one (js_ret (je_cb s_all (pe_callB (cr_all rfl) (by rfl) T.n_all (by decide +kernel) (ja_cons (je_lc (pe_lc (own := [("_law_one", 2), ("_law_other", 3)]) rfl sc_law_same.nd (ji_zipA (RZ.pi_zipA (by rfl) T.n_zip (ja_cons (je_v (lt_of rfl) (pv 0)) (ja_cons (je_v (lt_of rfl) (pv 1)) ja_nil)))) (blkOk_by (N := ["_law_found", "_law_due", "_law_one", "_law_other"]) (sc := (defScope s_law_same)) (by decide +kernel)) (fun _ _ _ _ _ => (jg_tup (S := [2, 3]) (n := 2) rfl (jgs_cons (jg_mono (S' := [2, 3]) (jg_name (lt_of rfl) (pg_name (i := 2) sc_law_same.nd rfl (by first | exact Or.inl rfl | exact Or.inr rfl))) (by decide)) (jgs_cons (jg_mono (S' := [2, 3]) (jg_name (lt_of rfl) (pg_name (i := 3) sc_law_same.nd rfl (by first | exact Or.inl rfl | exact Or.inr rfl))) (by decide)) jgs_nil)))) (fun _ _ _ _ _ => jts_nil) (fun _ _ _ _ _ => (je_callN (ms := [false, false]) (G_law_same.mono (by omega)) hr (by rfl) T.m_law_same T.F_law_same.kp T.b_law_same takes0 (ja_cons (je_v (lt_of rfl) (pv 2)) (ja_cons (je_v (lt_of rfl) (pv 3)) ja_nil)))))) ja_nil)))))) jss_nil)
      (jss_cons (js_if (jt_cmp op_isN s_isN (je_v (lt_of rfl) (pv 1)) (je_c pe_non) (nomark _)) (jss_one (js_ret (je_cmp op_isN s_isN (je_v (lt_of rfl) (pv 0)) (je_c pe_non) (nomark _)))) jss_nil)
      (jss_cons (js_if (jt_val (je_cb s_isi (pe_callB call_isi (by rfl) T.n_isinstance (by decide +kernel) (ja_cons (je_v (lt_of rfl) (pv 1)) (ja_cons (je_c (pe_bltn (v := .ty "int") (by rfl) T.n_int (by decide +kernel) rfl)) ja_nil))))) (jss_one (js_ret (je_and (je_cb s_isi (pe_callB call_isi (by rfl) T.n_isinstance (by decide +kernel) (ja_cons (je_v (lt_of rfl) (pv 0)) (ja_cons (je_c (pe_bltn (v := .ty "int") (by rfl) T.n_int (by decide +kernel) rfl)) ja_nil)))) (je_and (je_not (je_cb s_isi (pe_callB call_isi (by rfl) T.n_isinstance (by decide +kernel) (ja_cons (je_v (lt_of rfl) (pv 0)) (ja_cons (je_c (pe_bltn (v := .ty "bool") (by rfl) T.n_bool (by decide +kernel) rfl)) ja_nil))))) (je_one (je_cmp (o_eq hu65) s_eq (je_v (lt_of rfl) (pv 0)) (je_v (lt_of rfl) (pv 1)) (nomark _))))))) jss_nil)
      (jss_one (js_ret (je_and (je_cb s_isi (pe_callB call_isi (by rfl) T.n_isinstance (by decide +kernel) (ja_cons (je_v (lt_of rfl) (pv 0)) (ja_cons (je_c (pe_bltn (v := .ty "str") (by rfl) T.n_str (by decide +kernel) rfl)) ja_nil)))) (je_one (je_cmp (o_eq hu65) s_eq (je_v (lt_of rfl) (pv 0)) (je_v (lt_of rfl) (pv 1)) (nomark _))))))))))
theorem ok_law_same (T : Txt K mg cn)  : FnD P w K mg base cn 6 T.f_law_same T.fd_law_same ["_law_found", "_law_due"] (S_law_same 5) := okr_law_same T  5
theorem ok_law_rows (T : Txt K mg cn) (G_law_take : FnD P w K mg base cn 1 T.f_law_take T.fd_law_take ["_law_state", "_law_many"] S_law_take) (G_law_name : FnD P w K mg base cn 2 T.f_law_name T.fd_law_name ["_law_state", "_law_used"] S_law_name) : FnD P w K mg base cn 3 T.f_law_rows T.fd_law_rows ["_law_state", "_law_used"] S_law_rows := by
  refine def_mk T.F_law_rows sc_law_rows (by decide) len_law_rows sem_law_rows rfl fun cdv A outer s H E hr => ?_
  have hu65 := hu65_of hr
  have hu1 := hu_of hr
  have tks := takes_of (X := cxOf (L2.CX P w) P w K mg base ["_law_state", "_law_used", "_law_many", "_law_few", "_law_wide", "_law_some", "_law_first", "_law_second", "_law_stem", "_law_rows_here", "_law_at", "_law_row", "_law_k"] "_law_rows" (defScope s_law_rows) T.f_law_rows cdv A outer s H E) rfl rfl rfl rfl
  exact (jss_cons (js_set (i := 2) (lt_of rfl) (ps_set sc_law_rows.nd rfl (by first | exact Or.inl rfl | exact Or.inr rfl) (je_op o_add s_add (je_c pe_int) (je_callN (ms := [true, false]) (G_law_take.mono (by decide)) hr (by rfl) T.m_law_take T.F_law_take.kp T.b_law_take tks (ja_cons (je_v (lt_of rfl) (pv 0)) (ja_cons (je_c pe_int) ja_nil))))))
    (jss_cons (js_set (i := 3) (lt_of rfl) (ps_set sc_law_rows.nd rfl (by first | exact Or.inl rfl | exact Or.inr rfl) (je_callN (ms := [true, false]) (G_law_take.mono (by decide)) hr (by rfl) T.m_law_take T.F_law_take.kp T.b_law_take tks (ja_cons (je_v (lt_of rfl) (pv 0)) (ja_cons (je_c pe_int) ja_nil)))))
    (jss_cons (js_set (i := 4) (lt_of rfl) (ps_set sc_law_rows.nd rfl (by first | exact Or.inl rfl | exact Or.inr rfl) (je_callN (ms := [true, false]) (G_law_take.mono (by decide)) hr (by rfl) T.m_law_take T.F_law_take.kp T.b_law_take tks (ja_cons (je_v (lt_of rfl) (pv 0)) (ja_cons (je_c pe_int) ja_nil)))))
    (jss_cons (js_set (i := 5) (lt_of rfl) (ps_set sc_law_rows.nd rfl (by first | exact Or.inl rfl | exact Or.inr rfl) (je_lst ja_nil)))
    (jss_cons (js_if (jt_cmp (o_eq hu65) s_eq (je_v (lt_of rfl) (pv 3)) (je_c pe_int) (nomark _)) (jss_one (js_set (i := 5) (lt_of rfl) (ps_set sc_law_rows.nd rfl (Or.inr rfl) (je_lc (pe_lc (own := [("_law_k", 12)]) rfl sc_law_rows.nd (ji_rng1 (pi_range1 (by rfl) T.n_range (ja_cons (je_op o_add s_add (je_c pe_int) (je_callN (ms := [true, false]) (G_law_take.mono (by decide)) hr (by rfl) T.m_law_take T.F_law_take.kp T.b_law_take tks (ja_cons (je_v (lt_of rfl) (pv 0)) (ja_cons (je_c pe_int) ja_nil)))) ja_nil))) (blkOk_by (N := ["_law_state", "_law_used", "_law_many", "_law_few", "_law_wide", "_law_some", "_law_first", "_law_second", "_law_stem", "_law_rows_here", "_law_at", "_law_row", "_law_k"]) (sc := (defScope s_law_rows)) (by decide +kernel)) (fun _ _ _ _ _ => (jg_name (lt_of rfl) (pg_name (i := 12) sc_law_rows.nd rfl (by first | exact Or.inl rfl | exact Or.inr rfl)))) (fun _ _ _ _ _ => jts_nil) (fun _ _ _ _ _ => (je_callN (ms := [true, true]) (G_law_name.mono (by decide)) hr (by rfl) T.m_law_name T.F_law_name.kp T.b_law_name takes0 (ja_cons (je_v (lt_of rfl) (pv 0)) (ja_cons (je_v (lt_of rfl) (pv 1)) ja_nil))))))))) jss_nil)
    (jss_cons (js_set (i := 6) (lt_of rfl) (ps_set sc_law_rows.nd rfl (by first | exact Or.inl rfl | exact Or.inr rfl) (je_callN (ms := [true, false]) (G_law_take.mono (by decide)) hr (by rfl) T.m_law_take T.F_law_take.kp T.b_law_take tks (ja_cons (je_v (lt_of rfl) (pv 0)) (ja_cons (je_v (lt_of rfl) (pv 2)) ja_nil)))))
    (jss_cons (js_set (i := 7) (lt_of rfl) (ps_set sc_law_rows.nd rfl (by first | exact Or.inl rfl | exact Or.inr rfl) (je_callN (ms := [true, false]) (G_law_take.mono (by decide)) hr (by rfl) T.m_law_take T.F_law_take.kp T.b_law_take tks (ja_cons (je_v (lt_of rfl) (pv 0)) (ja_cons (je_v (lt_of rfl) (pv 2)) ja_nil)))))
    (jss_cons (js_set (i := 8) (lt_of rfl) (ps_set sc_law_rows.nd rfl (by first | exact Or.inl rfl | exact Or.inr rfl) (je_cut (je_callN (ms := [true, true]) (G_law_name.mono (by decide)) hr (by rfl) T.m_law_name T.F_law_name.kp T.b_law_name tks (ja_cons (je_v (lt_of rfl) (pv 0)) (ja_cons (je_v (lt_of rfl) (pv 1)) ja_nil))) jo_none (jo_some (je_c pe_int)))))
    (jss_cons (js_set (i := 9) (lt_of rfl) (ps_set sc_law_rows.nd rfl (by first | exact Or.inl rfl | exact Or.inr rfl) (je_lst ja_nil)))
    (jss_cons (js_forW (vs := [2, 10, 11]) (passes_of rfl) rfl (ji_rng1 (pi_range1 (by rfl) T.n_range (ja_cons (je_v (lt_of rfl) (pv 2)) ja_nil))) (jg_name (lt_of rfl) (pg_name (i := 10) sc_law_rows.nd rfl (by first | exact Or.inl rfl | exact Or.inr rfl))) (jss_cons (js_set (i := 11) (lt_of rfl) (ps_set sc_law_rows.nd rfl (by first | exact Or.inl rfl | exact Or.inr rfl) (je_lst (ja_cons (je_js (ts := [(dFmt (dVar 8)), (dC (.str "_")), (dFmt (dVar 10))]) (.cons (je_fmt (je_v (lt_of rfl) (pv 8))) (.cons (je_c pe_str) (.cons (je_fmt (je_v (lt_of rfl) (pv 10))) .nil)))) ja_nil))))
    (jss_cons (js_if (jt_cmp (o_eq hu65) s_eq (je_v (lt_of rfl) (pv 3)) (je_c pe_int) (nomark _)) (jss_one (js_setLc (i := 11) (lt_of rfl) (ps_setLc (i := 11) (own := [("_law_k", 12)]) rfl sc_law_rows.nd rfl rfl (sw_true rfl rfl rfl (by decide +kernel)) (ji_rng1 (pi_range1 (by rfl) T.n_range (ja_cons (je_op o_add s_add (je_c pe_int) (je_op o_mul s_mul (je_v (lt_of rfl) (pv 4)) (je_callN (ms := [true, false]) (G_law_take.mono (by decide)) hr (by rfl) T.m_law_take T.F_law_take.kp T.b_law_take tks (ja_cons (je_v (lt_of rfl) (pv 0)) (ja_cons (je_c pe_int) ja_nil))))) ja_nil))) (blkOk_by (N := ["_law_state", "_law_used", "_law_many", "_law_few", "_law_wide", "_law_some", "_law_first", "_law_second", "_law_stem", "_law_rows_here", "_law_at", "_law_row", "_law_k"]) (sc := (defScope s_law_rows)) (by decide +kernel)) (fun _ _ _ _ _ => (jg_name (lt_of rfl) (pg_name (i := 12) sc_law_rows.nd rfl (by first | exact Or.inl rfl | exact Or.inr rfl)))) (fun _ _ _ _ _ => jts_nil) (fun _ _ _ _ _ => (je_ixS hu1 (je_v (lt_of rfl) (pv 5)) (je_callN (ms := [true, false]) (G_law_take.mono (by decide)) hr (by rfl) T.m_law_take T.F_law_take.kp T.b_law_take takes0 (ja_cons (je_v (lt_of rfl) (pv 0)) (ja_cons (je_cb s_len (pe_callB o_len (by rfl) T.n_len boot_len (ja_cons (je_v (lt_of rfl) (pv 5)) ja_nil))) ja_nil))) (fun _ _ => rfl)))))) jss_nil)
    (jss_one (js_expr (je_mut m_append (lt_of rfl) (pe_bm PySem.F.plainAttrs_list PySem.F.slot_list_append PySem.F.type_list_append mt_append (pv 9) (ja_cons (je_v (lt_of rfl) (pv 11)) ja_nil))))))))
    (jss_cons (js_if (jt_cmp (o_eq hu65) s_eq (je_v (lt_of rfl) (pv 3)) (je_c pe_int) (nomark _)) (jss_one (js_put (lt_of rfl) m_setL setL_h (ps_asg (je_fz (je_op o_add s_add (je_cut (je_ixS hu1 (je_v (lt_of rfl) (pv 9)) (je_v (lt_of rfl) (pv 6)) (fun _ _ => rfl)) jo_none jo_none) (je_op op_rep s_repL (je_lst (ja_cons (je_js (ts := [(dFmt (dVar 8)), (dC (.str "__"))]) (.cons (je_fmt (je_v (lt_of rfl) (pv 8))) (.cons (je_c pe_str) .nil))) ja_nil)) (je_v (lt_of rfl) (pv 4))))) (pg_sub (pv 9) (je_v (lt_of rfl) (pv 7)) set_list)))) jss_nil)
    (jss_one (js_ret (je_mv (lt_of rfl) (pv 9)))))))))))))))
theorem ok_law_copied (T : Txt K mg cn) (G_law_take : FnD P w K mg base cn 1 T.f_law_take T.fd_law_take ["_law_state", "_law_many"] S_law_take) (G_law_name : FnD P w K mg base cn 2 T.f_law_name T.fd_law_name ["_law_state", "_law_used"] S_law_name) : FnD P w K mg base cn 3 T.f_law_copied T.fd_law_copied ["_law_state", "_law_rows_here", "_law_used"] S_law_copied := by
  refine def_mk T.F_law_copied sc_law_copied (by decide) len_law_copied sem_law_copied rfl fun cdv A outer s H E hr => ?_
  have hu65 := hu65_of hr
  have hu1 := hu_of hr
  have tks := takes_of (X := cxOf (L2.CX P w) P w K mg base ["_law_state", "_law_rows_here", "_law_used", "_law_names", "_law_row", "_law_stem", "_law_some", "_law_ways", "_law_name_here", "_law_found", "_law_at", "_law_k"] "_law_copied" (defScope s_law_copied) T.f_law_copied cdv A outer s H E) rfl rfl rfl rfl
  exact (jss_cons (js_set (i := 3) (lt_of rfl) (ps_set sc_law_copied.nd rfl (by first | exact Or.inl rfl | exact Or.inr rfl) (je_lst ja_nil)))
    (jss_cons (js_forW (vs := [4, 5, 6, 7, 8, 9, 10, 11]) (passes_of rfl) rfl (ji_seq (je_v (lt_of rfl) (pv 1))) (jg_name (lt_of rfl) (pg_name (i := 4) sc_law_copied.nd rfl (by first | exact Or.inl rfl | exact Or.inr rfl))) (jss_one (js_set (i := 3) (lt_of rfl) (ps_set sc_law_copied.nd rfl (by first | exact Or.inl rfl | exact Or.inr rfl) (je_op o_add s_add (je_v (lt_of rfl) (pv 3)) (je_lc (pe_lc (own := [("_law_k", 11), ("_law_name_here", 8)]) rfl sc_law_copied.nd (ji_enum (pi_enum (by rfl) T.n_enumerate (ja_cons (je_v (lt_of rfl) (pv 4)) ja_nil))) (blkOk_by (N := ["_law_state", "_law_rows_here", "_law_used", "_law_names", "_law_row", "_law_stem", "_law_some", "_law_ways", "_law_name_here", "_law_found", "_law_at", "_law_k"]) (sc := (defScope s_law_copied)) (by decide +kernel)) (fun _ _ _ _ _ => (jg_tup (S := [11, 8]) (n := 2) rfl (jgs_cons (jg_mono (S' := [11, 8]) (jg_name (lt_of rfl) (pg_name (i := 11) sc_law_copied.nd rfl (by first | exact Or.inl rfl | exact Or.inr rfl))) (by decide)) (jgs_cons (jg_mono (S' := [11, 8]) (jg_name (lt_of rfl) (pg_name (i := 8) sc_law_copied.nd rfl (by first | exact Or.inl rfl | exact Or.inr rfl))) (by decide)) jgs_nil)))) (fun _ _ _ _ _ => (jts_one (jw_t (jw_and (jt_cmp (o_nin hu65) s_inS (je_v (lt_of rfl) (pv 8)) (je_v (lt_of rfl) (pv 3)) (by rfl)) (jw_and1 (jt_cmp (o_nin hu65) s_inS (je_v (lt_of rfl) (pv 8)) (je_cut (je_v (lt_of rfl) (pv 4)) jo_none (jo_some (je_v (lt_of rfl) (pv 11)))) (by rfl))))))) (fun _ _ _ _ _ => (je_v (lt_of rfl) (pv 8))))))))))
    (jss_cons (js_set (i := 5) (lt_of rfl) (ps_set sc_law_copied.nd rfl (by first | exact Or.inl rfl | exact Or.inr rfl) (je_cut (je_callN (ms := [true, true]) (G_law_name.mono (by decide)) hr (by rfl) T.m_law_name T.F_law_name.kp T.b_law_name tks (ja_cons (je_v (lt_of rfl) (pv 0)) (ja_cons (je_v (lt_of rfl) (pv 2)) ja_nil))) jo_none (jo_some (je_c pe_int)))))
    (jss_cons (js_setLc (i := 6) (lt_of rfl) (ps_setLc (i := 6) (own := [("_law_k", 11)]) rfl sc_law_copied.nd rfl rfl (sw_true rfl rfl rfl (by decide +kernel)) (ji_rng1 (pi_range1 (by rfl) T.n_range (ja_cons (je_cb s_len (pe_callB o_len (by rfl) T.n_len boot_len (ja_cons (je_v (lt_of rfl) (pv 3)) ja_nil))) ja_nil))) (blkOk_by (N := ["_law_state", "_law_rows_here", "_law_used", "_law_names", "_law_row", "_law_stem", "_law_some", "_law_ways", "_law_name_here", "_law_found", "_law_at", "_law_k"]) (sc := (defScope s_law_copied)) (by decide +kernel)) (fun _ _ _ _ _ => (jg_name (lt_of rfl) (pg_name (i := 11) sc_law_copied.nd rfl (by first | exact Or.inl rfl | exact Or.inr rfl)))) (fun _ _ _ _ _ => jts_nil) (fun _ _ _ _ _ => (je_js (ts := [(dFmt (dVar 5)), (dC (.str "_")), (dFmt (dVar 11)), (dC (.str "_"))]) (.cons (je_fmt (je_v (lt_of rfl) (pv 5))) (.cons (je_c pe_str) (.cons (je_fmt (je_v (lt_of rfl) (pv 11))) (.cons (je_c pe_str) .nil))))))))
    (jss_cons (js_if (jt_cmp (o_eq hu65) s_eq (je_callN (ms := [true, false]) (G_law_take.mono (by decide)) hr (by rfl) T.m_law_take T.F_law_take.kp T.b_law_take tks (ja_cons (je_v (lt_of rfl) (pv 0)) (ja_cons (je_c pe_int) ja_nil))) (je_c pe_int) (nomark _)) (jss_one (js_set (i := 6) (lt_of rfl) (ps_set sc_law_copied.nd rfl (by first | exact Or.inl rfl | exact Or.inr rfl) (je_cb s_list (pe_callTy call_list_of (by rfl) T.n_list (by decide +kernel) (ja_cons (je_v (lt_of rfl) (pv 3)) ja_nil)))))) jss_nil)
    (jss_cons (js_set (i := 7) (lt_of rfl) (ps_set sc_law_copied.nd rfl (by first | exact Or.inl rfl | exact Or.inr rfl) je_newD))
    (jss_cons (js_forW (vs := [4, 5, 8, 9, 10, 11]) (passes_of rfl) rfl (ji_seq (je_v (lt_of rfl) (pv 3))) (jg_name (lt_of rfl) (pg_name (i := 8) sc_law_copied.nd rfl (by first | exact Or.inl rfl | exact Or.inr rfl))) (jss_one (js_put (lt_of rfl) m_putD setD_h (ps_asg (je_fz (je_mut m_popAt (lt_of rfl) (pe_bm PySem.F.plainAttrs_list PySem.F.slot_list_pop PySem.F.type_list_pop mt_popAt (pv 6) (ja_cons (je_callN (ms := [true, false]) (G_law_take.mono (by decide)) hr (by rfl) T.m_law_take T.F_law_take.kp T.b_law_take tks (ja_cons (je_v (lt_of rfl) (pv 0)) (ja_cons (je_cb s_len (pe_callB o_len (by rfl) T.n_len boot_len (ja_cons (je_v (lt_of rfl) (pv 6)) ja_nil))) ja_nil))) ja_nil)))) (pg_sub (pv 7) (je_v (lt_of rfl) (pv 8)) (set_dict hu1))))))
    (jss_cons (js_setLc (i := 9) (lt_of rfl) (ps_setLc (i := 9) (own := [("_law_row", 4)]) rfl sc_law_copied.nd rfl rfl (sw_true rfl rfl rfl (by decide +kernel)) (ji_seq (je_v (lt_of rfl) (pv 1))) (blkOk_by (N := ["_law_state", "_law_rows_here", "_law_used", "_law_names", "_law_row", "_law_stem", "_law_some", "_law_ways", "_law_name_here", "_law_found", "_law_at", "_law_k"]) (sc := (defScope s_law_copied)) (by decide +kernel)) (fun _ _ _ _ _ => (jg_name (lt_of rfl) (pg_name (i := 4) sc_law_copied.nd rfl (by first | exact Or.inl rfl | exact Or.inr rfl)))) (fun _ _ _ _ _ => jts_nil) (fun _ _ _ _ _ => (je_lc (pe_lc (own := [("_law_name_here", 8)]) rfl sc_law_copied.nd (ji_seq (je_v (lt_of rfl) (pv 4))) (blkOk_by (N := ["_law_state", "_law_rows_here", "_law_used", "_law_names", "_law_row", "_law_stem", "_law_some", "_law_ways", "_law_name_here", "_law_found", "_law_at", "_law_k"]) (sc := ((relS _ (defScope s_law_copied)))) (by decide +kernel)) (fun _ _ _ _ _ => (jg_name (lt_of rfl) (pg_name (i := 8) sc_law_copied.nd rfl (by first | exact Or.inl rfl | exact Or.inr rfl)))) (fun _ _ _ _ _ => jts_nil) (fun _ _ _ _ _ => (je_ixS hu1 (je_v (lt_of rfl) (pv 7)) (je_v (lt_of rfl) (pv 8)) (fun _ _ => rfl))))))))
    (jss_cons (js_set (i := 10) (lt_of rfl) (ps_set sc_law_copied.nd rfl (by first | exact Or.inl rfl | exact Or.inr rfl) (je_callN (ms := [true, false]) (G_law_take.mono (by decide)) hr (by rfl) T.m_law_take T.F_law_take.kp T.b_law_take tks (ja_cons (je_v (lt_of rfl) (pv 0)) (ja_cons (je_cb s_len (pe_callB o_len (by rfl) T.n_len boot_len (ja_cons (je_v (lt_of rfl) (pv 9)) ja_nil))) ja_nil)))))
    (jss_cons (js_set (i := 11) (lt_of rfl) (ps_set sc_law_copied.nd rfl (by first | exact Or.inl rfl | exact Or.inr rfl) (je_callN (ms := [true, false]) (G_law_take.mono (by decide)) hr (by rfl) T.m_law_take T.F_law_take.kp T.b_law_take tks (ja_cons (je_v (lt_of rfl) (pv 0)) (ja_cons (je_lend (je_cb s_len (pe_callB o_len (by rfl) T.n_len boot_len (ja_cons (je_ixS hu1 (je_v (lt_of rfl) (pv 9)) (je_v (lt_of rfl) (pv 10)) (fun _ _ => rfl)) ja_nil)))) ja_nil)))))
    (jss_cons (js_if (jt_cmp o_gt s_cmp (je_callN (ms := [true, false]) (G_law_take.mono (by decide)) hr (by rfl) T.m_law_take T.F_law_take.kp T.b_law_take tks (ja_cons (je_v (lt_of rfl) (pv 0)) (ja_cons (je_c pe_int) ja_nil))) (je_c pe_int) (nomark _)) (jss_one (js_put2 (lt_of rfl) (lt_of rfl) (lt_of rfl) m_setL setL_h (ps_asg (je_ixS hu1 (je_v (lt_of rfl) (pv 7)) (je_ixS hu1 (je_v (lt_of rfl) (pv 3)) (je_callN (ms := [true, false]) (G_law_take.mono (by decide)) hr (by rfl) T.m_law_take T.F_law_take.kp T.b_law_take tks (ja_cons (je_v (lt_of rfl) (pv 0)) (ja_cons (je_cb s_len (pe_callB o_len (by rfl) T.n_len boot_len (ja_cons (je_v (lt_of rfl) (pv 3)) ja_nil))) ja_nil))) (fun _ _ => rfl)) (fun _ _ => rfl)) (pg_sub (pe_ix ix_seq (pv 9) (pv 10) (fun _ _ => rfl)) (pv 11) set_list)))) jss_nil)
    (jss_one (js_ret (je_mv (lt_of rfl) (pv 9)))))))))))))))
theorem ok_law_end (T : Txt K mg cn)  : FnD P w K mg base cn 1 T.f_law_end T.fd_law_end ["_law_one", "_law_other", "_law_first"] S_law_end := by
  refine def_mk T.F_law_end sc_law_end (by decide) len_law_end sem_law_end rfl fun cdv A outer s H E hr => ?_
  have hu65 := hu65_of hr
  have hu1 := hu_of hr
  have tks := takes_of (X := cxOf (L2.CX P w) P w K mg base ["_law_one", "_law_other", "_law_first", "_law_forth", "_law_back", "_law_at", "_law_a", "_law_b"] "_law_end" (defScope s_law_end) T.f_law_end cdv A outer s H E) rfl rfl rfl rfl
  exact (jss_cons (js_set (i := 3) (lt_of rfl) (ps_set sc_law_end.nd rfl (by first | exact Or.inl rfl | exact Or.inr rfl) je_newD))
    (jss_cons (js_set (i := 4) (lt_of rfl) (ps_set sc_law_end.nd rfl (by first | exact Or.inl rfl | exact Or.inr rfl) je_newD))
    (jss_cons (js_forW (vs := [5, 6, 7]) (passes_of rfl) rfl (ji_rng2 (pi_range2 (by rfl) T.n_range (ja_cons (je_v (lt_of rfl) (pv 2)) (ja_cons (je_cb s_len (pe_callB o_len (by rfl) T.n_len boot_len (ja_cons (je_v (lt_of rfl) (pv 0)) ja_nil))) ja_nil)))) (jg_name (lt_of rfl) (pg_name (i := 5) sc_law_end.nd rfl (by first | exact Or.inl rfl | exact Or.inr rfl))) (jss_cons (js_if (jt_cmp (o_ne hu65) s_ne (je_cb s_len (pe_callB o_len (by rfl) T.n_len boot_len (ja_cons (je_ixS hu1 (je_v (lt_of rfl) (pv 0)) (je_v (lt_of rfl) (pv 5)) (fun _ _ => rfl)) ja_nil))) (je_cb s_len (pe_callB o_len (by rfl) T.n_len boot_len (ja_cons (je_ixS hu1 (je_v (lt_of rfl) (pv 1)) (je_v (lt_of rfl) (pv 5)) (fun _ _ => rfl)) ja_nil))) (nomark _)) (jss_one (js_ret (je_mv (lt_of rfl) (pv 5)))) jss_nil)
    (jss_one (js_forW (vs := [6, 7]) (passes_of rfl) rfl (ji_zip (pi_zip (by rfl) T.n_zip (ja_cons (je_ixS hu1 (je_v (lt_of rfl) (pv 0)) (je_v (lt_of rfl) (pv 5)) (fun _ _ => rfl)) (ja_cons (je_ixS hu1 (je_v (lt_of rfl) (pv 1)) (je_v (lt_of rfl) (pv 5)) (fun _ _ => rfl)) ja_nil)))) (jg_tup (S := [6, 7]) (n := 2) rfl (jgs_cons (jg_mono (S' := [6, 7]) (jg_name (lt_of rfl) (pg_name (i := 6) sc_law_end.nd rfl (by first | exact Or.inl rfl | exact Or.inr rfl))) (by decide)) (jgs_cons (jg_mono (S' := [6, 7]) (jg_name (lt_of rfl) (pg_name (i := 7) sc_law_end.nd rfl (by first | exact Or.inl rfl | exact Or.inr rfl))) (by decide)) jgs_nil))) (jss_cons (js_if (jw_t (jw_or (jt_cmp (o_ne hu65) s_ne (je_get2 hu1 (je_v (lt_of rfl) (pv 3)) (je_v (lt_of rfl) (pv 6)) (je_v (lt_of rfl) (pv 7)) ⟨rfl, rfl, rfl, rfl⟩) (je_v (lt_of rfl) (pv 7)) (nomark _)) (jw_or1 (jt_cmp (o_ne hu65) s_ne (je_get2 hu1 (je_v (lt_of rfl) (pv 4)) (je_v (lt_of rfl) (pv 7)) (je_v (lt_of rfl) (pv 6)) ⟨rfl, rfl, rfl, rfl⟩) (je_v (lt_of rfl) (pv 6)) (nomark _))))) (jss_one (js_ret (je_mv (lt_of rfl) (pv 5)))) jss_nil)
    (jss_cons (js_put (lt_of rfl) m_putD setD_h (ps_asg (je_v (lt_of rfl) (pv 7)) (pg_sub (pv 3) (je_v (lt_of rfl) (pv 6)) (set_dict hu1))))
    (jss_one (js_put (lt_of rfl) m_putD setD_h (ps_asg (je_v (lt_of rfl) (pv 6)) (pg_sub (pv 4) (je_v (lt_of rfl) (pv 7)) (set_dict hu1)))))))))))
    (jss_one (js_ret (je_cb s_len (pe_callB o_len (by rfl) T.n_len boot_len (ja_cons (je_v (lt_of rfl) (pv 0)) ja_nil))))))))
theorem ok_law (T : Txt K mg cn) (G_law_begun : FnD P w K mg base cn 1 T.f_law_begun T.fd_law_begun ["_law_script"] S_law_begun) (G_law_kept : FnD P w K mg base cn 1 T.f_law_kept T.fd_law_kept [] S_law_kept) (G_law_rows : FnD P w K mg base cn 3 T.f_law_rows T.fd_law_rows ["_law_state", "_law_used"] S_law_rows) (G_law_copied : FnD P w K mg base cn 3 T.f_law_copied T.fd_law_copied ["_law_state", "_law_rows_here", "_law_used"] S_law_copied) (G_law_name : FnD P w K mg base cn 2 T.f_law_name T.fd_law_name ["_law_state", "_law_used"] S_law_name) (G_pairs : FnD P w K mg base cn 8 T.f_pairs T.fd_pairs ["files", "least"] S_pairs) (G_law_same : FnD P w K mg base cn 6 T.f_law_same T.fd_law_same ["_law_found", "_law_due"] (S_law_same 5)) (G_law_take : FnD P w K mg base cn 1 T.f_law_take T.fd_law_take ["_law_state", "_law_many"] S_law_take) (G_law_end : FnD P w K mg base cn 1 T.f_law_end T.fd_law_end ["_law_one", "_law_other", "_law_first"] S_law_end) : FnD P w K mg base cn 9 T.f_law T.fd_law ["_law_script"] S_law := by
  refine def_mk T.F_law sc_law (by decide) len_law sem_law rfl fun cdv A outer s H E hr => ?_
  have hu65 := hu65_of hr
  have hu1 := hu_of hr
  have tks := takes_of (X := cxOf (L2.CX P w) P w K mg base ["_law_script", "_law_state", "_law_least", "_law_used", "_law_titles", "_law_rows_here", "_law_copied_here", "_law_one", "_law_other", "_law_found", "_law_due", "_law_last", "_law_first", "_law_end_here", "_law_told", "_law_row"] "law" (defScope s_law) T.f_law cdv A outer s H E) rfl rfl rfl rfl
  exact (jss_cons (js_set (i := 1) (lt_of rfl) (ps_set sc_law.nd rfl (by first | exact Or.inl rfl | exact Or.inr rfl) (je_callN (ms := [false]) (G_law_begun.mono (by decide)) hr (by rfl) T.m_law_begun T.F_law_begun.kp T.b_law_begun tks (ja_cons (je_v (lt_of rfl) (pv 0)) ja_nil))))
    (jss_cons (js_set (i := 2) (lt_of rfl) (ps_set sc_law.nd rfl (by first | exact Or.inl rfl | exact Or.inr rfl) (je_op o_add s_add (je_c pe_int) (je_callN (ms := [true, false]) (G_law_take.mono (by decide)) hr (by rfl) T.m_law_take T.F_law_take.kp T.b_law_take tks (ja_cons (je_v (lt_of rfl) (pv 1)) (ja_cons (je_c pe_int) ja_nil))))))
    (jss_cons (js_set (i := 3) (lt_of rfl) (ps_set sc_law.nd rfl (by first | exact Or.inl rfl | exact Or.inr rfl) (je_call0 (G_law_kept.mono (by decide)) hr (by rfl) T.m_law_kept T.F_law_kept.kp T.b_law_kept)))
    (jss_cons (js_set (i := 4) (lt_of rfl) (ps_set sc_law.nd rfl (by first | exact Or.inl rfl | exact Or.inr rfl) (je_call0 (G_law_kept.mono (by decide)) hr (by rfl) T.m_law_kept T.F_law_kept.kp T.b_law_kept)))
    (jss_cons (js_set (i := 5) (lt_of rfl) (ps_set sc_law.nd rfl (by first | exact Or.inl rfl | exact Or.inr rfl) (je_callN (ms := [true, true]) (G_law_rows.mono (by decide)) hr (by rfl) T.m_law_rows T.F_law_rows.kp T.b_law_rows tks (ja_cons (je_v (lt_of rfl) (pv 1)) (ja_cons (je_v (lt_of rfl) (pv 3)) ja_nil)))))
    (jss_cons (js_set (i := 6) (lt_of rfl) (ps_set sc_law.nd rfl (by first | exact Or.inl rfl | exact Or.inr rfl) (je_callN (ms := [true, false, true]) (G_law_copied.mono (by decide)) hr (by rfl) T.m_law_copied T.F_law_copied.kp T.b_law_copied tks (ja_cons (je_v (lt_of rfl) (pv 1)) (ja_cons (je_v (lt_of rfl) (pv 5)) (ja_cons (je_v (lt_of rfl) (pv 3)) ja_nil))))))
    (jss_cons (js_set (i := 7) (lt_of rfl) (ps_set sc_law.nd rfl (by first | exact Or.inl rfl | exact Or.inr rfl) (je_callN (ms := [true, true]) (G_law_name.mono (by decide)) hr (by rfl) T.m_law_name T.F_law_name.kp T.b_law_name tks (ja_cons (je_v (lt_of rfl) (pv 1)) (ja_cons (je_v (lt_of rfl) (pv 4)) ja_nil)))))
    (jss_cons (js_set (i := 8) (lt_of rfl) (ps_set sc_law.nd rfl (by first | exact Or.inl rfl | exact Or.inr rfl) (je_callN (ms := [true, true]) (G_law_name.mono (by decide)) hr (by rfl) T.m_law_name T.F_law_name.kp T.b_law_name tks (ja_cons (je_v (lt_of rfl) (pv 1)) (ja_cons (je_v (lt_of rfl) (pv 4)) ja_nil)))))
    (jss_cons (js_set (i := 9) (lt_of rfl) (ps_set sc_law.nd rfl (by first | exact Or.inl rfl | exact Or.inr rfl) (je_callN (ms := [false, false]) (G_pairs.mono (by decide)) hr (by rfl) T.m_pairs T.F_pairs.kp T.b_pairs tks (ja_cons (je_lst (ja_cons (je_tup (ja_cons (je_v (lt_of rfl) (pv 7)) (ja_cons (je_lc (pe_lc (own := [("_law_row", 15)]) rfl sc_law.nd (ji_seq (je_v (lt_of rfl) (pv 5))) (blkOk_by (N := ["_law_script", "_law_state", "_law_least", "_law_used", "_law_titles", "_law_rows_here", "_law_copied_here", "_law_one", "_law_other", "_law_found", "_law_due", "_law_last", "_law_first", "_law_end_here", "_law_told", "_law_row"]) (sc := (defScope s_law)) (by decide +kernel)) (fun _ _ _ _ _ => (jg_name (lt_of rfl) (pg_name (i := 15) sc_law.nd rfl (by first | exact Or.inl rfl | exact Or.inr rfl)))) (fun _ _ _ _ _ => jts_nil) (fun _ _ _ _ _ => (je_cb s_list (pe_callTy call_list_of (by rfl) T.n_list (by decide +kernel) (ja_cons (je_v (lt_of rfl) (pv 15)) ja_nil)))))) ja_nil))) (ja_cons (je_tup (ja_cons (je_v (lt_of rfl) (pv 8)) (ja_cons (je_lc (pe_lc (own := [("_law_row", 15)]) rfl sc_law.nd (ji_seq (je_v (lt_of rfl) (pv 6))) (blkOk_by (N := ["_law_script", "_law_state", "_law_least", "_law_used", "_law_titles", "_law_rows_here", "_law_copied_here", "_law_one", "_law_other", "_law_found", "_law_due", "_law_last", "_law_first", "_law_end_here", "_law_told", "_law_row"]) (sc := (defScope s_law)) (by decide +kernel)) (fun _ _ _ _ _ => (jg_name (lt_of rfl) (pg_name (i := 15) sc_law.nd rfl (by first | exact Or.inl rfl | exact Or.inr rfl)))) (fun _ _ _ _ _ => jts_nil) (fun _ _ _ _ _ => (je_cb s_list (pe_callTy call_list_of (by rfl) T.n_list (by decide +kernel) (ja_cons (je_v (lt_of rfl) (pv 15)) ja_nil)))))) ja_nil))) ja_nil))) (ja_cons (je_v (lt_of rfl) (pv 2)) ja_nil)))))
    (jss_cons (js_set (i := 10) (lt_of rfl) (ps_set sc_law.nd rfl (by first | exact Or.inl rfl | exact Or.inr rfl) (je_lst ja_nil)))
    (jss_cons (js_set (i := 11) (lt_of rfl) (ps_set sc_law.nd rfl (by first | exact Or.inl rfl | exact Or.inr rfl) (je_c pe_int)))
    (jss_cons (js_forW (vs := [1, 3, 4, 12, 13]) (passes_of rfl) rfl (ji_rng1 (pi_range1 (by rfl) T.n_range (ja_cons (je_cb s_len (pe_callB o_len (by rfl) T.n_len boot_len (ja_cons (je_v (lt_of rfl) (pv 5)) ja_nil))) ja_nil))) (jg_name (lt_of rfl) (pg_name (i := 12) sc_law.nd rfl (by first | exact Or.inl rfl | exact Or.inr rfl))) (jss_cons (js_set (i := 13) (lt_of rfl) (ps_set sc_law.nd rfl (by first | exact Or.inl rfl | exact Or.inr rfl) (je_callN (ms := [false, false, false]) (G_law_end.mono (by decide)) hr (by rfl) T.m_law_end T.F_law_end.kp T.b_law_end tks (ja_cons (je_v (lt_of rfl) (pv 5)) (ja_cons (je_v (lt_of rfl) (pv 6)) (ja_cons (je_v (lt_of rfl) (pv 12)) ja_nil))))))
    (jss_cons (js_if (jw_t (jw_and (jt_cmp o_gt s_cmp (je_v (lt_of rfl) (pv 13)) (je_v (lt_of rfl) (pv 11)) (nomark _)) (jw_and1 (jt_cmp o_ge s_cmp (je_op op_sub s_I0 (je_v (lt_of rfl) (pv 13)) (je_v (lt_of rfl) (pv 12))) (je_v (lt_of rfl) (pv 2)) (nomark _))))) (jss_one (js_expr (je_mut m_append (lt_of rfl) (pe_bm PySem.F.plainAttrs_list PySem.F.slot_list_append PySem.F.type_list_append mt_append (pv 10) (ja_cons (je_tup (ja_cons (je_cb s_minP (pe_callB (call_minP rfl hu65) (by rfl) T.n_min (by decide +kernel) (ja_cons (je_v (lt_of rfl) (pv 7)) (ja_cons (je_v (lt_of rfl) (pv 8)) ja_nil)))) (ja_cons (je_v (lt_of rfl) (pv 12)) (ja_cons (je_cb s_maxP (pe_callB (call_maxP rfl hu65) (by rfl) T.n_max (by decide +kernel) (ja_cons (je_v (lt_of rfl) (pv 7)) (ja_cons (je_v (lt_of rfl) (pv 8)) ja_nil)))) (ja_cons (je_v (lt_of rfl) (pv 12)) (ja_cons (je_op op_sub s_I0 (je_v (lt_of rfl) (pv 13)) (je_v (lt_of rfl) (pv 12))) ja_nil)))))) ja_nil))))) jss_nil)
    (jss_one (js_set (i := 11) (lt_of rfl) (ps_set sc_law.nd rfl (by first | exact Or.inl rfl | exact Or.inr rfl) (je_cb s_max2 (pe_callB (call_max2 rfl) (by rfl) T.n_max (by decide +kernel) (ja_cons (je_v (lt_of rfl) (pv 11)) (ja_cons (je_v (lt_of rfl) (pv 13)) ja_nil))))))))))
    (jss_one (js_ret (je_callN (ms := [false, false]) (G_law_same.mono (by decide)) hr (by rfl) T.m_law_same T.F_law_same.kp T.b_law_same tks (ja_cons (je_lc (pe_lc (own := [("_law_told", 14)]) rfl sc_law.nd (ji_seq (je_v (lt_of rfl) (pv 9))) (blkOk_by (N := ["_law_script", "_law_state", "_law_least", "_law_used", "_law_titles", "_law_rows_here", "_law_copied_here", "_law_one", "_law_other", "_law_found", "_law_due", "_law_last", "_law_first", "_law_end_here", "_law_told", "_law_row"]) (sc := (defScope s_law)) (by decide +kernel)) (fun _ _ _ _ _ => (jg_name (lt_of rfl) (pg_name (i := 14) sc_law.nd rfl (by first | exact Or.inl rfl | exact Or.inr rfl)))) (fun _ _ _ _ _ => (jts_one (jw_t (jw_and (jt_cmp (o_ne hu65) s_ne (je_ixS hu1 (je_v (lt_of rfl) (pv 14)) (je_c pe_int) (fun _ _ => rfl)) (je_ixS hu1 (je_v (lt_of rfl) (pv 14)) (je_c pe_int) (fun _ _ => rfl)) (nomark _)) (jw_and1 (jt_cmp (o_eq hu65) s_eq (je_ixS hu1 (je_v (lt_of rfl) (pv 14)) (je_c pe_int) (fun _ _ => rfl)) (je_ixS hu1 (je_v (lt_of rfl) (pv 14)) (je_c pe_int) (fun _ _ => rfl)) (nomark _))))))) (fun _ _ _ _ _ => (je_v (lt_of rfl) (pv 14))))) (ja_cons (je_v (lt_of rfl) (pv 10)) ja_nil)))))))))))))))))
end
theorem all_mk {l : PySem.W.OpenLaw} {w : World} {K : PySem.W.Frag} {h : Heap} {mg : Str → Option Value} {fa : Addr} (X : K.In h) (G : h.Ns mainGlobals mg) (hfa : mg "law" = some (.ref fa))
    {f_is_plain : Addr} {od_is_plain an_is_plain : Option Addr} {sl_is_plain : Array (Option Value)} {oc_is_plain kV_is_plain dc_is_plain pm_is_plain cd_is_plain ct_is_plain : Value}
    {f_sort_of : Addr} {od_sort_of an_sort_of : Option Addr} {sl_sort_of : Array (Option Value)} {oc_sort_of kV_sort_of dc_sort_of pm_sort_of cd_sort_of ct_sort_of : Value}
    {f_end_of : Addr} {od_end_of an_end_of : Option Addr} {sl_end_of : Array (Option Value)} {oc_end_of kV_end_of dc_end_of pm_end_of cd_end_of ct_end_of : Value}
    {f_parts_of : Addr} {od_parts_of an_parts_of : Option Addr} {sl_parts_of : Array (Option Value)} {oc_parts_of kV_parts_of dc_parts_of pm_parts_of cd_parts_of ct_parts_of : Value}
    {f_is_word : Addr} {od_is_word an_is_word : Option Addr} {sl_is_word : Array (Option Value)} {oc_is_word kV_is_word dc_is_word pm_is_word cd_is_word ct_is_word : Value}
    {f_is_name : Addr} {od_is_name an_is_name : Option Addr} {sl_is_name : Array (Option Value)} {oc_is_name kV_is_name dc_is_name pm_is_name cd_is_name ct_is_name : Value}
    {f_is_free : Addr} {od_is_free an_is_free : Option Addr} {sl_is_free : Array (Option Value)} {oc_is_free kV_is_free dc_is_free pm_is_free cd_is_free ct_is_free : Value}
    {f_known : Addr} {od_known an_known : Option Addr} {sl_known : Array (Option Value)} {oc_known kV_known dc_known pm_known cd_known ct_known : Value}
    {f_least_start : Addr} {od_least_start an_least_start : Option Addr} {sl_least_start : Array (Option Value)} {oc_least_start kV_least_start dc_least_start pm_least_start cd_least_start ct_least_start : Value}
    {f_runs : Addr} {od_runs an_runs : Option Addr} {sl_runs : Array (Option Value)} {oc_runs kV_runs dc_runs pm_runs cd_runs ct_runs : Value}
    {f_pairs_of : Addr} {od_pairs_of an_pairs_of : Option Addr} {sl_pairs_of : Array (Option Value)} {oc_pairs_of kV_pairs_of dc_pairs_of pm_pairs_of cd_pairs_of ct_pairs_of : Value}
    {f_pairs : Addr} {od_pairs an_pairs : Option Addr} {sl_pairs : Array (Option Value)} {oc_pairs kV_pairs dc_pairs pm_pairs cd_pairs ct_pairs : Value}
    {f_law_begun : Addr} {od_law_begun an_law_begun : Option Addr} {sl_law_begun : Array (Option Value)} {oc_law_begun kV_law_begun dc_law_begun pm_law_begun cd_law_begun ct_law_begun : Value}
    {f_law_take : Addr} {od_law_take an_law_take : Option Addr} {sl_law_take : Array (Option Value)} {oc_law_take kV_law_take dc_law_take pm_law_take cd_law_take ct_law_take : Value}
    {f_law_kept : Addr} {od_law_kept an_law_kept : Option Addr} {sl_law_kept : Array (Option Value)} {oc_law_kept kV_law_kept dc_law_kept pm_law_kept cd_law_kept ct_law_kept : Value}
    {f_law_name : Addr} {od_law_name an_law_name : Option Addr} {sl_law_name : Array (Option Value)} {oc_law_name kV_law_name dc_law_name pm_law_name cd_law_name ct_law_name : Value}
    {f_law_same : Addr} {od_law_same an_law_same : Option Addr} {sl_law_same : Array (Option Value)} {oc_law_same kV_law_same dc_law_same pm_law_same cd_law_same ct_law_same : Value}
    {f_law_rows : Addr} {od_law_rows an_law_rows : Option Addr} {sl_law_rows : Array (Option Value)} {oc_law_rows kV_law_rows dc_law_rows pm_law_rows cd_law_rows ct_law_rows : Value}
    {f_law_copied : Addr} {od_law_copied an_law_copied : Option Addr} {sl_law_copied : Array (Option Value)} {oc_law_copied kV_law_copied dc_law_copied pm_law_copied cd_law_copied ct_law_copied : Value}
    {f_law_end : Addr} {od_law_end an_law_end : Option Addr} {sl_law_end : Array (Option Value)} {oc_law_end kV_law_end dc_law_end pm_law_end cd_law_end ct_law_end : Value}
    {f_law : Addr} {od_law an_law : Option Addr} {sl_law : Array (Option Value)} {oc_law kV_law dc_law pm_law cd_law ct_law : Value}
    {dT_pairs : Addr} {dO_pairs : Option Addr} {dn_pairs : Nat} {ds_pairs : Array (Option Value)} {dt_pairs_0 : Nat}
    (a_is_plain : PySem.W.nsIn K mainGlobals "is_plain" = some (some (.ref f_is_plain))) (l_is_plain : K.lookup f_is_plain = some ⟨oc_is_plain, od_is_plain, .func (PySem.W.fnOf "is_plain" "is_plain" (defArgs s_is_plain) (defBody s_is_plain) (defScope s_is_plain) .none kV_is_plain dc_is_plain pm_is_plain an_is_plain cd_is_plain ct_is_plain), sl_is_plain⟩) (c_is_plain : PySem.W.codeIn K cd_is_plain "is_plain" = true) (k_is_plain : PySem.W.keepIn K (.ref f_is_plain) = true)
    (a_sort_of : PySem.W.nsIn K mainGlobals "sort_of" = some (some (.ref f_sort_of))) (l_sort_of : K.lookup f_sort_of = some ⟨oc_sort_of, od_sort_of, .func (PySem.W.fnOf "sort_of" "sort_of" (defArgs s_sort_of) (defBody s_sort_of) (defScope s_sort_of) .none kV_sort_of dc_sort_of pm_sort_of an_sort_of cd_sort_of ct_sort_of), sl_sort_of⟩) (c_sort_of : PySem.W.codeIn K cd_sort_of "sort_of" = true) (k_sort_of : PySem.W.keepIn K (.ref f_sort_of) = true)
    (a_end_of : PySem.W.nsIn K mainGlobals "end_of" = some (some (.ref f_end_of))) (l_end_of : K.lookup f_end_of = some ⟨oc_end_of, od_end_of, .func (PySem.W.fnOf "end_of" "end_of" (defArgs s_end_of) (defBody s_end_of) (defScope s_end_of) .none kV_end_of dc_end_of pm_end_of an_end_of cd_end_of ct_end_of), sl_end_of⟩) (c_end_of : PySem.W.codeIn K cd_end_of "end_of" = true) (k_end_of : PySem.W.keepIn K (.ref f_end_of) = true)
    (a_parts_of : PySem.W.nsIn K mainGlobals "parts_of" = some (some (.ref f_parts_of))) (l_parts_of : K.lookup f_parts_of = some ⟨oc_parts_of, od_parts_of, .func (PySem.W.fnOf "parts_of" "parts_of" (defArgs s_parts_of) (defBody s_parts_of) (defScope s_parts_of) .none kV_parts_of dc_parts_of pm_parts_of an_parts_of cd_parts_of ct_parts_of), sl_parts_of⟩) (c_parts_of : PySem.W.codeIn K cd_parts_of "parts_of" = true) (k_parts_of : PySem.W.keepIn K (.ref f_parts_of) = true)
    (a_is_word : PySem.W.nsIn K mainGlobals "is_word" = some (some (.ref f_is_word))) (l_is_word : K.lookup f_is_word = some ⟨oc_is_word, od_is_word, .func (PySem.W.fnOf "is_word" "is_word" (defArgs s_is_word) (defBody s_is_word) (defScope s_is_word) .none kV_is_word dc_is_word pm_is_word an_is_word cd_is_word ct_is_word), sl_is_word⟩) (c_is_word : PySem.W.codeIn K cd_is_word "is_word" = true) (k_is_word : PySem.W.keepIn K (.ref f_is_word) = true)
    (a_is_name : PySem.W.nsIn K mainGlobals "is_name" = some (some (.ref f_is_name))) (l_is_name : K.lookup f_is_name = some ⟨oc_is_name, od_is_name, .func (PySem.W.fnOf "is_name" "is_name" (defArgs s_is_name) (defBody s_is_name) (defScope s_is_name) .none kV_is_name dc_is_name pm_is_name an_is_name cd_is_name ct_is_name), sl_is_name⟩) (c_is_name : PySem.W.codeIn K cd_is_name "is_name" = true) (k_is_name : PySem.W.keepIn K (.ref f_is_name) = true)
    (a_is_free : PySem.W.nsIn K mainGlobals "is_free" = some (some (.ref f_is_free))) (l_is_free : K.lookup f_is_free = some ⟨oc_is_free, od_is_free, .func (PySem.W.fnOf "is_free" "is_free" (defArgs s_is_free) (defBody s_is_free) (defScope s_is_free) .none kV_is_free dc_is_free pm_is_free an_is_free cd_is_free ct_is_free), sl_is_free⟩) (c_is_free : PySem.W.codeIn K cd_is_free "is_free" = true) (k_is_free : PySem.W.keepIn K (.ref f_is_free) = true)
    (a_known : PySem.W.nsIn K mainGlobals "known" = some (some (.ref f_known))) (l_known : K.lookup f_known = some ⟨oc_known, od_known, .func (PySem.W.fnOf "known" "known" (defArgs s_known) (defBody s_known) (defScope s_known) .none kV_known dc_known pm_known an_known cd_known ct_known), sl_known⟩) (c_known : PySem.W.codeIn K cd_known "known" = true) (k_known : PySem.W.keepIn K (.ref f_known) = true)
    (a_least_start : PySem.W.nsIn K mainGlobals "least_start" = some (some (.ref f_least_start))) (l_least_start : K.lookup f_least_start = some ⟨oc_least_start, od_least_start, .func (PySem.W.fnOf "least_start" "least_start" (defArgs s_least_start) (defBody s_least_start) (defScope s_least_start) .none kV_least_start dc_least_start pm_least_start an_least_start cd_least_start ct_least_start), sl_least_start⟩) (c_least_start : PySem.W.codeIn K cd_least_start "least_start" = true) (k_least_start : PySem.W.keepIn K (.ref f_least_start) = true)
    (a_runs : PySem.W.nsIn K mainGlobals "runs" = some (some (.ref f_runs))) (l_runs : K.lookup f_runs = some ⟨oc_runs, od_runs, .func (PySem.W.fnOf "runs" "runs" (defArgs s_runs) (defBody s_runs) (defScope s_runs) .none kV_runs dc_runs pm_runs an_runs cd_runs ct_runs), sl_runs⟩) (c_runs : PySem.W.codeIn K cd_runs "runs" = true) (k_runs : PySem.W.keepIn K (.ref f_runs) = true)
    (a_pairs_of : PySem.W.nsIn K mainGlobals "pairs_of" = some (some (.ref f_pairs_of))) (l_pairs_of : K.lookup f_pairs_of = some ⟨oc_pairs_of, od_pairs_of, .func (PySem.W.fnOf "pairs_of" "pairs_of" (defArgs s_pairs_of) (defBody s_pairs_of) (defScope s_pairs_of) .none kV_pairs_of dc_pairs_of pm_pairs_of an_pairs_of cd_pairs_of ct_pairs_of), sl_pairs_of⟩) (c_pairs_of : PySem.W.codeIn K cd_pairs_of "pairs_of" = true) (k_pairs_of : PySem.W.keepIn K (.ref f_pairs_of) = true)
    (a_pairs : PySem.W.nsIn K mainGlobals "pairs" = some (some (.ref f_pairs))) (l_pairs : K.lookup f_pairs = some ⟨oc_pairs, od_pairs, .func (PySem.W.fnOf "pairs" "pairs" (defArgs s_pairs) (defBody s_pairs) (defScope s_pairs) (.ref dT_pairs) kV_pairs dc_pairs pm_pairs an_pairs cd_pairs ct_pairs), sl_pairs⟩) (c_pairs : PySem.W.codeIn K cd_pairs "pairs" = true) (k_pairs : PySem.W.keepIn K (.ref f_pairs) = true)
    (a_law_begun : PySem.W.nsIn K mainGlobals "_law_begun" = some (some (.ref f_law_begun))) (l_law_begun : K.lookup f_law_begun = some ⟨oc_law_begun, od_law_begun, .func (PySem.W.fnOf "_law_begun" "_law_begun" (defArgs s_law_begun) (defBody s_law_begun) (defScope s_law_begun) .none kV_law_begun dc_law_begun pm_law_begun an_law_begun cd_law_begun ct_law_begun), sl_law_begun⟩) (c_law_begun : PySem.W.codeIn K cd_law_begun "_law_begun" = true) (k_law_begun : PySem.W.keepIn K (.ref f_law_begun) = true)
    (a_law_take : PySem.W.nsIn K mainGlobals "_law_take" = some (some (.ref f_law_take))) (l_law_take : K.lookup f_law_take = some ⟨oc_law_take, od_law_take, .func (PySem.W.fnOf "_law_take" "_law_take" (defArgs s_law_take) (defBody s_law_take) (defScope s_law_take) .none kV_law_take dc_law_take pm_law_take an_law_take cd_law_take ct_law_take), sl_law_take⟩) (c_law_take : PySem.W.codeIn K cd_law_take "_law_take" = true) (k_law_take : PySem.W.keepIn K (.ref f_law_take) = true)
    (a_law_kept : PySem.W.nsIn K mainGlobals "_law_kept" = some (some (.ref f_law_kept))) (l_law_kept : K.lookup f_law_kept = some ⟨oc_law_kept, od_law_kept, .func (PySem.W.fnOf "_law_kept" "_law_kept" (defArgs s_law_kept) (defBody s_law_kept) (defScope s_law_kept) .none kV_law_kept dc_law_kept pm_law_kept an_law_kept cd_law_kept ct_law_kept), sl_law_kept⟩) (c_law_kept : PySem.W.codeIn K cd_law_kept "_law_kept" = true) (k_law_kept : PySem.W.keepIn K (.ref f_law_kept) = true)
    (a_law_name : PySem.W.nsIn K mainGlobals "_law_name" = some (some (.ref f_law_name))) (l_law_name : K.lookup f_law_name = some ⟨oc_law_name, od_law_name, .func (PySem.W.fnOf "_law_name" "_law_name" (defArgs s_law_name) (defBody s_law_name) (defScope s_law_name) .none kV_law_name dc_law_name pm_law_name an_law_name cd_law_name ct_law_name), sl_law_name⟩) (c_law_name : PySem.W.codeIn K cd_law_name "_law_name" = true) (k_law_name : PySem.W.keepIn K (.ref f_law_name) = true)
    (a_law_same : PySem.W.nsIn K mainGlobals "_law_same" = some (some (.ref f_law_same))) (l_law_same : K.lookup f_law_same = some ⟨oc_law_same, od_law_same, .func (PySem.W.fnOf "_law_same" "_law_same" (defArgs s_law_same) (defBody s_law_same) (defScope s_law_same) .none kV_law_same dc_law_same pm_law_same an_law_same cd_law_same ct_law_same), sl_law_same⟩) (c_law_same : PySem.W.codeIn K cd_law_same "_law_same" = true) (k_law_same : PySem.W.keepIn K (.ref f_law_same) = true)
    (a_law_rows : PySem.W.nsIn K mainGlobals "_law_rows" = some (some (.ref f_law_rows))) (l_law_rows : K.lookup f_law_rows = some ⟨oc_law_rows, od_law_rows, .func (PySem.W.fnOf "_law_rows" "_law_rows" (defArgs s_law_rows) (defBody s_law_rows) (defScope s_law_rows) .none kV_law_rows dc_law_rows pm_law_rows an_law_rows cd_law_rows ct_law_rows), sl_law_rows⟩) (c_law_rows : PySem.W.codeIn K cd_law_rows "_law_rows" = true) (k_law_rows : PySem.W.keepIn K (.ref f_law_rows) = true)
    (a_law_copied : PySem.W.nsIn K mainGlobals "_law_copied" = some (some (.ref f_law_copied))) (l_law_copied : K.lookup f_law_copied = some ⟨oc_law_copied, od_law_copied, .func (PySem.W.fnOf "_law_copied" "_law_copied" (defArgs s_law_copied) (defBody s_law_copied) (defScope s_law_copied) .none kV_law_copied dc_law_copied pm_law_copied an_law_copied cd_law_copied ct_law_copied), sl_law_copied⟩) (c_law_copied : PySem.W.codeIn K cd_law_copied "_law_copied" = true) (k_law_copied : PySem.W.keepIn K (.ref f_law_copied) = true)
    (a_law_end : PySem.W.nsIn K mainGlobals "_law_end" = some (some (.ref f_law_end))) (l_law_end : K.lookup f_law_end = some ⟨oc_law_end, od_law_end, .func (PySem.W.fnOf "_law_end" "_law_end" (defArgs s_law_end) (defBody s_law_end) (defScope s_law_end) .none kV_law_end dc_law_end pm_law_end an_law_end cd_law_end ct_law_end), sl_law_end⟩) (c_law_end : PySem.W.codeIn K cd_law_end "_law_end" = true) (k_law_end : PySem.W.keepIn K (.ref f_law_end) = true)
    (a_law : PySem.W.nsIn K mainGlobals "law" = some (some (.ref f_law))) (l_law : K.lookup f_law = some ⟨oc_law, od_law, .func (PySem.W.fnOf "law" "law" (defArgs s_law) (defBody s_law) (defScope s_law) .none kV_law dc_law pm_law an_law cd_law ct_law), sl_law⟩) (c_law : PySem.W.codeIn K cd_law "law" = true) (k_law : PySem.W.keepIn K (.ref f_law) = true)
    (z_all : PySem.W.nsIn K mainGlobals "all" = some none)
    (z_bool : PySem.W.nsIn K mainGlobals "bool" = some none)
    (z_enumerate : PySem.W.nsIn K mainGlobals "enumerate" = some none)
    (z_int : PySem.W.nsIn K mainGlobals "int" = some none)
    (z_isinstance : PySem.W.nsIn K mainGlobals "isinstance" = some none)
    (z_len : PySem.W.nsIn K mainGlobals "len" = some none)
    (z_list : PySem.W.nsIn K mainGlobals "list" = some none)
    (z_max : PySem.W.nsIn K mainGlobals "max" = some none)
    (z_min : PySem.W.nsIn K mainGlobals "min" = some none)
    (z_range : PySem.W.nsIn K mainGlobals "range" = some none)
    (z_sorted : PySem.W.nsIn K mainGlobals "sorted" = some none)
    (z_str : PySem.W.nsIn K mainGlobals "str" = some none)
    (z_tuple : PySem.W.nsIn K mainGlobals "tuple" = some none)
    (z_zip : PySem.W.nsIn K mainGlobals "zip" = some none)
    {t_LONGEST : Nat} (q_LONGEST : PySem.W.nsIn K mainGlobals "LONGEST" = some (some (.int 20 t_LONGEST)))
    (dl_pairs : K.lookup dT_pairs = some ⟨.type "tuple", dO_pairs, .seq #[.int 3 dt_pairs_0] dn_pairs, ds_pairs⟩)
    {a_KEPT : Addr} {n_KEPT : Nat} {od_KEPT : Option Addr} {sl_KEPT : Array (Option Value)} {t_KEPT_0 t_KEPT_1 t_KEPT_2 t_KEPT_3 t_KEPT_4 t_KEPT_5 t_KEPT_6 t_KEPT_7 t_KEPT_8 t_KEPT_9 t_KEPT_10 t_KEPT_11 t_KEPT_12 : Nat} (q_KEPT : PySem.W.nsIn K mainGlobals "KEPT" = some (some (.ref a_KEPT))) (l_KEPT : K.lookup a_KEPT = some ⟨.type "tuple", od_KEPT, .seq #[.str "and" t_KEPT_0, .str "def" t_KEPT_1, .str "do" t_KEPT_2, .str "else" t_KEPT_3, .str "end" t_KEPT_4, .str "for" t_KEPT_5, .str "if" t_KEPT_6, .str "in" t_KEPT_7, .str "not" t_KEPT_8, .str "or" t_KEPT_9, .str "return" t_KEPT_10, .str "use" t_KEPT_11, .str "while" t_KEPT_12] n_KEPT, sl_KEPT⟩) :
    ∃ fd : FuncData, (∀ (s : Shared) (v : Value), BindsTo s fd ⟨[v], []⟩ [("_law_script", v)]) ∧ ∀ base : Heap, K.In base → base.Ns mainGlobals mg → FnOk l.prog w K mg base (L2.CX l.prog w) 9 fa fd ["_law_script"] (lower K (fun _ => 0) S_law) := by
  have e := hfa.symm.trans (PySem.W.mg_of X G a_law)
  have e : f_law = fa := by
    injection e with e
    injection e with e
    exact e.symm
  subst e
  have F_is_plain := fun_mk (st := s_is_plain) l_is_plain c_is_plain k_is_plain
  have b_is_plain := F_is_plain.binds (ps := ["thing"]) fun _ _ _ _ _ _ us hl => match us, hl with | [_], _ => rfl
  have F_sort_of := fun_mk (st := s_sort_of) l_sort_of c_sort_of k_sort_of
  have b_sort_of := F_sort_of.binds (ps := ["sign"]) fun _ _ _ _ _ _ us hl => match us, hl with | [_], _ => rfl
  have F_end_of := fun_mk (st := s_end_of) l_end_of c_end_of k_end_of
  have b_end_of := F_end_of.binds (ps := ["text", "at"]) fun _ _ _ _ _ _ us hl => match us, hl with | [_, _], _ => rfl
  have F_parts_of := fun_mk (st := s_parts_of) l_parts_of c_parts_of k_parts_of
  have b_parts_of := F_parts_of.binds (ps := ["text"]) fun _ _ _ _ _ _ us hl => match us, hl with | [_], _ => rfl
  have F_is_word := fun_mk (st := s_is_word) l_is_word c_is_word k_is_word
  have b_is_word := F_is_word.binds (ps := ["thing"]) fun _ _ _ _ _ _ us hl => match us, hl with | [_], _ => rfl
  have F_is_name := fun_mk (st := s_is_name) l_is_name c_is_name k_is_name
  have b_is_name := F_is_name.binds (ps := ["thing"]) fun _ _ _ _ _ _ us hl => match us, hl with | [_], _ => rfl
  have F_is_free := fun_mk (st := s_is_free) l_is_free c_is_free k_is_free
  have b_is_free := F_is_free.binds (ps := ["thing"]) fun _ _ _ _ _ _ us hl => match us, hl with | [_], _ => rfl
  have F_known := fun_mk (st := s_known) l_known c_known k_known
  have b_known := F_known.binds (ps := ["stretch"]) fun _ _ _ _ _ _ us hl => match us, hl with | [_], _ => rfl
  have F_least_start := fun_mk (st := s_least_start) l_least_start c_least_start k_least_start
  have b_least_start := F_least_start.binds (ps := ["at", "row", "other", "last", "back"]) fun _ _ _ _ _ _ us hl => match us, hl with | [_, _, _, _, _], _ => rfl
  have F_runs := fun_mk (st := s_runs) l_runs c_runs k_runs
  have b_runs := F_runs.binds (ps := ["one", "other", "far"]) fun _ _ _ _ _ _ us hl => match us, hl with | [_, _, _], _ => rfl
  have F_pairs_of := fun_mk (st := s_pairs_of) l_pairs_of c_pairs_of k_pairs_of
  have b_pairs_of := F_pairs_of.binds (ps := ["title", "one", "other", "two", "fars", "least"]) fun _ _ _ _ _ _ us hl => match us, hl with | [_, _, _, _, _, _], _ => rfl
  have F_pairs := fun_mkD (st := s_pairs) (dvs := [.int 3]) (its := [.int 3 dt_pairs_0]) l_pairs dl_pairs rfl (.cons ⟨_, rfl⟩ .nil) (by simp) c_pairs k_pairs
  have b_pairs := bindsD F_pairs (ps := ["files", "least"]) (by simp) fun _ _ _ _ _ _ _ us its hl h2 => match us, hl, its, h2 with | [_, _], _, [_], _ => ⟨_, rfl, rfl⟩
  have F_law_begun := fun_mk (st := s_law_begun) l_law_begun c_law_begun k_law_begun
  have b_law_begun := F_law_begun.binds (ps := ["_law_script"]) fun _ _ _ _ _ _ us hl => match us, hl with | [_], _ => rfl
  have F_law_take := fun_mk (st := s_law_take) l_law_take c_law_take k_law_take
  have b_law_take := F_law_take.binds (ps := ["_law_state", "_law_many"]) fun _ _ _ _ _ _ us hl => match us, hl with | [_, _], _ => rfl
  have F_law_kept := fun_mk (st := s_law_kept) l_law_kept c_law_kept k_law_kept
  have b_law_kept := F_law_kept.binds (ps := []) fun _ _ _ _ _ _ us hl => match us, hl with | [], _ => rfl
  have F_law_name := fun_mk (st := s_law_name) l_law_name c_law_name k_law_name
  have b_law_name := F_law_name.binds (ps := ["_law_state", "_law_used"]) fun _ _ _ _ _ _ us hl => match us, hl with | [_, _], _ => rfl
  have F_law_same := fun_mk (st := s_law_same) l_law_same c_law_same k_law_same
  have b_law_same := F_law_same.binds (ps := ["_law_found", "_law_due"]) fun _ _ _ _ _ _ us hl => match us, hl with | [_, _], _ => rfl
  have F_law_rows := fun_mk (st := s_law_rows) l_law_rows c_law_rows k_law_rows
  have b_law_rows := F_law_rows.binds (ps := ["_law_state", "_law_used"]) fun _ _ _ _ _ _ us hl => match us, hl with | [_, _], _ => rfl
  have F_law_copied := fun_mk (st := s_law_copied) l_law_copied c_law_copied k_law_copied
  have b_law_copied := F_law_copied.binds (ps := ["_law_state", "_law_rows_here", "_law_used"]) fun _ _ _ _ _ _ us hl => match us, hl with | [_, _, _], _ => rfl
  have F_law_end := fun_mk (st := s_law_end) l_law_end c_law_end k_law_end
  have b_law_end := F_law_end.binds (ps := ["_law_one", "_law_other", "_law_first"]) fun _ _ _ _ _ _ us hl => match us, hl with | [_, _, _], _ => rfl
  have F_law := fun_mk (st := s_law) l_law c_law k_law
  have b_law := F_law.binds (ps := ["_law_script"]) fun _ _ _ _ _ _ us hl => match us, hl with | [_], _ => rfl
  have T : { T : Txt K mg (fun s => (List.lookup s []).getD 0) // T.f_law = f_law ∧ T.fd_law = PySem.W.fnOf "law" "law" (defArgs s_law) (defBody s_law) (defScope s_law) .none kV_law dc_law pm_law an_law cd_law ct_law } := ⟨{ f_is_plain := f_is_plain, fd_is_plain := _, F_is_plain := F_is_plain, m_is_plain := PySem.W.mg_of X G a_is_plain, b_is_plain := b_is_plain, f_sort_of := f_sort_of, fd_sort_of := _, F_sort_of := F_sort_of, m_sort_of := PySem.W.mg_of X G a_sort_of, b_sort_of := b_sort_of, f_end_of := f_end_of, fd_end_of := _, F_end_of := F_end_of, m_end_of := PySem.W.mg_of X G a_end_of, b_end_of := b_end_of, f_parts_of := f_parts_of, fd_parts_of := _, F_parts_of := F_parts_of, m_parts_of := PySem.W.mg_of X G a_parts_of, b_parts_of := b_parts_of, f_is_word := f_is_word, fd_is_word := _, F_is_word := F_is_word, m_is_word := PySem.W.mg_of X G a_is_word, b_is_word := b_is_word, f_is_name := f_is_name, fd_is_name := _, F_is_name := F_is_name, m_is_name := PySem.W.mg_of X G a_is_name, b_is_name := b_is_name, f_is_free := f_is_free, fd_is_free := _, F_is_free := F_is_free, m_is_free := PySem.W.mg_of X G a_is_free, b_is_free := b_is_free, f_known := f_known, fd_known := _, F_known := F_known, m_known := PySem.W.mg_of X G a_known, b_known := b_known, f_least_start := f_least_start, fd_least_start := _, F_least_start := F_least_start, m_least_start := PySem.W.mg_of X G a_least_start, b_least_start := b_least_start, f_runs := f_runs, fd_runs := _, F_runs := F_runs, m_runs := PySem.W.mg_of X G a_runs, b_runs := b_runs, f_pairs_of := f_pairs_of, fd_pairs_of := _, F_pairs_of := F_pairs_of, m_pairs_of := PySem.W.mg_of X G a_pairs_of, b_pairs_of := b_pairs_of, f_pairs := f_pairs, fd_pairs := _, F_pairs := F_pairs, m_pairs := PySem.W.mg_of X G a_pairs, b_pairs := b_pairs, f_law_begun := f_law_begun, fd_law_begun := _, F_law_begun := F_law_begun, m_law_begun := PySem.W.mg_of X G a_law_begun, b_law_begun := b_law_begun, f_law_take := f_law_take, fd_law_take := _, F_law_take := F_law_take, m_law_take := PySem.W.mg_of X G a_law_take, b_law_take := b_law_take, f_law_kept := f_law_kept, fd_law_kept := _, F_law_kept := F_law_kept, m_law_kept := PySem.W.mg_of X G a_law_kept, b_law_kept := b_law_kept, f_law_name := f_law_name, fd_law_name := _, F_law_name := F_law_name, m_law_name := PySem.W.mg_of X G a_law_name, b_law_name := b_law_name, f_law_same := f_law_same, fd_law_same := _, F_law_same := F_law_same, m_law_same := PySem.W.mg_of X G a_law_same, b_law_same := b_law_same, f_law_rows := f_law_rows, fd_law_rows := _, F_law_rows := F_law_rows, m_law_rows := PySem.W.mg_of X G a_law_rows, b_law_rows := b_law_rows, f_law_copied := f_law_copied, fd_law_copied := _, F_law_copied := F_law_copied, m_law_copied := PySem.W.mg_of X G a_law_copied, b_law_copied := b_law_copied, f_law_end := f_law_end, fd_law_end := _, F_law_end := F_law_end, m_law_end := PySem.W.mg_of X G a_law_end, b_law_end := b_law_end, f_law := f_law, fd_law := _, F_law := F_law, m_law := PySem.W.mg_of X G a_law, b_law := b_law, n_all := PySem.W.mg_none_of X G z_all, n_bool := PySem.W.mg_none_of X G z_bool, n_enumerate := PySem.W.mg_none_of X G z_enumerate, n_int := PySem.W.mg_none_of X G z_int, n_isinstance := PySem.W.mg_none_of X G z_isinstance, n_len := PySem.W.mg_none_of X G z_len, n_list := PySem.W.mg_none_of X G z_list, n_max := PySem.W.mg_none_of X G z_max, n_min := PySem.W.mg_none_of X G z_min, n_range := PySem.W.mg_none_of X G z_range, n_sorted := PySem.W.mg_none_of X G z_sorted, n_str := PySem.W.mg_none_of X G z_str, n_tuple := PySem.W.mg_none_of X G z_tuple, n_zip := PySem.W.mg_none_of X G z_zip, t_LONGEST := t_LONGEST, k_LONGEST := PySem.W.mg_of X G q_LONGEST, a_KEPT := a_KEPT, k_KEPT := PySem.W.mg_of X G q_KEPT, kt_KEPT := fun H => sqt_k l_KEPT (show (13 : Nat) ≤ sizeLine by rw [sizeLine_eq]; decide) (.cons ⟨_, rfl⟩ (.cons ⟨_, rfl⟩ (.cons ⟨_, rfl⟩ (.cons ⟨_, rfl⟩ (.cons ⟨_, rfl⟩ (.cons ⟨_, rfl⟩ (.cons ⟨_, rfl⟩ (.cons ⟨_, rfl⟩ (.cons ⟨_, rfl⟩ (.cons ⟨_, rfl⟩ (.cons ⟨_, rfl⟩ (.cons ⟨_, rfl⟩ (.cons ⟨_, rfl⟩ .nil))))))))))))) }, rfl, rfl⟩
  obtain ⟨T, e1, e2⟩ := T
  refine ⟨PySem.W.fnOf "law" "law" (defArgs s_law) (defBody s_law) (defScope s_law) .none kV_law dc_law pm_law an_law cd_law ct_law, fun s v => .of_eq rfl, fun base _ _ => ?_⟩
  rw [← e1, ← e2]
  have G_is_plain := ok_is_plain (P := l.prog) (w := w) (base := base) (cn := (fun s => (List.lookup s []).getD 0)) T 
  have G_sort_of := ok_sort_of (P := l.prog) (w := w) (base := base) (cn := (fun s => (List.lookup s []).getD 0)) T 
  have G_end_of := ok_end_of (P := l.prog) (w := w) (base := base) (cn := (fun s => (List.lookup s []).getD 0)) T G_sort_of
  have G_parts_of := ok_parts_of (P := l.prog) (w := w) (base := base) (cn := (fun s => (List.lookup s []).getD 0)) T G_end_of
  have G_is_word := ok_is_word (P := l.prog) (w := w) (base := base) (cn := (fun s => (List.lookup s []).getD 0)) T G_is_plain G_parts_of
  have G_is_name := ok_is_name (P := l.prog) (w := w) (base := base) (cn := (fun s => (List.lookup s []).getD 0)) T G_is_word G_sort_of
  have G_is_free := ok_is_free (P := l.prog) (w := w) (base := base) (cn := (fun s => (List.lookup s []).getD 0)) T G_is_name
  have G_known := ok_known (P := l.prog) (w := w) (base := base) (cn := (fun s => (List.lookup s []).getD 0)) T G_is_free
  have G_least_start := ok_least_start (P := l.prog) (w := w) (base := base) (cn := (fun s => (List.lookup s []).getD 0)) T 
  have G_runs := ok_runs (P := l.prog) (w := w) (base := base) (cn := (fun s => (List.lookup s []).getD 0)) T G_least_start
  have G_pairs_of := ok_pairs_of (P := l.prog) (w := w) (base := base) (cn := (fun s => (List.lookup s []).getD 0)) T G_runs
  have G_pairs := ok_pairs (P := l.prog) (w := w) (base := base) (cn := (fun s => (List.lookup s []).getD 0)) T G_known G_pairs_of
  have G_law_begun := ok_law_begun (P := l.prog) (w := w) (base := base) (cn := (fun s => (List.lookup s []).getD 0)) T 
  have G_law_take := ok_law_take (P := l.prog) (w := w) (base := base) (cn := (fun s => (List.lookup s []).getD 0)) T 
  have G_law_kept := ok_law_kept (P := l.prog) (w := w) (base := base) (cn := (fun s => (List.lookup s []).getD 0)) T 
  have G_law_name := ok_law_name (P := l.prog) (w := w) (base := base) (cn := (fun s => (List.lookup s []).getD 0)) T G_law_take
  have G_law_same := ok_law_same (P := l.prog) (w := w) (base := base) (cn := (fun s => (List.lookup s []).getD 0)) T 
  have G_law_rows := ok_law_rows (P := l.prog) (w := w) (base := base) (cn := (fun s => (List.lookup s []).getD 0)) T G_law_take G_law_name
  have G_law_copied := ok_law_copied (P := l.prog) (w := w) (base := base) (cn := (fun s => (List.lookup s []).getD 0)) T G_law_take G_law_name
  have G_law_end := ok_law_end (P := l.prog) (w := w) (base := base) (cn := (fun s => (List.lookup s []).getD 0)) T 
  have G_law := ok_law (P := l.prog) (w := w) (base := base) (cn := (fun s => (List.lookup s []).getD 0)) T G_law_begun G_law_kept G_law_rows G_law_copied G_law_name G_pairs G_law_same G_law_take G_law_end
  exact fn_cn (fun _ _ _ q => q) G_law
theorem walk_end {K : PySem.W.Frag} {cn : String → Addr} {H : Hp} {a : Addr} {ns : List Int} (hn : ns.length ≤ 63) (hs : SqL K H a (ns.map V.int)) : lower K cn S_law [.ref a] H (fun v _ => v = .bl true) (fun _ _ _ => False) := by
  refine ⟨H, [.n false .lok (ns.map fun i => .p (.int i))], [], fun r _ => r = .p (.bl true), fun _ _ => False, fun _ _ z => z, RpL.one (Rp.f hs ?_), ⟨ns, rfl, hn, fun _ => rfl⟩, ?_, fun x ds' cls dx G' H' F' z => z.elim⟩
  · have := RpL.of_prims (K := K) (G := H) (H := H) (xs := ns.map V.int)
    rwa [List.map_map] at this
  · rintro r ds' v G' H' Fr F' rfl _ _ _ rr _
    cases rr
    rfl
end Lw
open PySem PySem.W PyProof.Rows
set_option maxRecDepth 100000 in
set_option maxHeartbeats 0 in
theorem PySem.Challenge.cw_kinrows_k27_whole_long_copies_holds : PySem.Challenge.rw_kinrows_k27_whole_long_copies.Holds := by
  w_on; o_law; k_head; (case hw => w_witness2)
  k_fill
  refine L2.walk_of (l := PySem.Challenge.rw_kinrows_k27_whole_long_copies) (n := 63) (k := 9) (x := "_law_script") (CX := fun w => L2.CX PySem.Challenge.rw_kinrows_k27_whole_long_copies.prog w) (sp := fun w => DL.lower _ (fun _ => 0) Lw.S_law) rfl (by decide) rfl ⟨rfl, by decide, by decide⟩ (fun w h Y => PySem.W.kIn_of Y) ?F (fun _ _ a ns hl _ hS => Lw.walk_end hl hS) (fun _ _ _ _ _ h => DL.cx_no h)
  case F =>
    intro w mg fa h KX G hmg
    refine' Lw.all_mk KX G hmg ?a_is_plain ?l_is_plain ?c_is_plain ?k_is_plain ?a_sort_of ?l_sort_of ?c_sort_of ?k_sort_of ?a_end_of ?l_end_of ?c_end_of ?k_end_of ?a_parts_of ?l_parts_of ?c_parts_of ?k_parts_of ?a_is_word ?l_is_word ?c_is_word ?k_is_word ?a_is_name ?l_is_name ?c_is_name ?k_is_name ?a_is_free ?l_is_free ?c_is_free ?k_is_free ?a_known ?l_known ?c_known ?k_known ?a_least_start ?l_least_start ?c_least_start ?k_least_start ?a_runs ?l_runs ?c_runs ?k_runs ?a_pairs_of ?l_pairs_of ?c_pairs_of ?k_pairs_of ?a_pairs ?l_pairs ?c_pairs ?k_pairs ?a_law_begun ?l_law_begun ?c_law_begun ?k_law_begun ?a_law_take ?l_law_take ?c_law_take ?k_law_take ?a_law_kept ?l_law_kept ?c_law_kept ?k_law_kept ?a_law_name ?l_law_name ?c_law_name ?k_law_name ?a_law_same ?l_law_same ?c_law_same ?k_law_same ?a_law_rows ?l_law_rows ?c_law_rows ?k_law_rows ?a_law_copied ?l_law_copied ?c_law_copied ?k_law_copied ?a_law_end ?l_law_end ?c_law_end ?k_law_end ?a_law ?l_law ?c_law ?k_law ?z_all ?z_bool ?z_enumerate ?z_int ?z_isinstance ?z_len ?z_list ?z_max ?z_min ?z_range ?z_sorted ?z_str ?z_tuple ?z_zip ?q_LONGEST ?dl_pairs ?q_KEPT ?l_KEPT
    (case a_is_plain => k_is); (case l_is_plain => k_is); (case c_is_plain => k_is); (case k_is_plain => k_is); (case a_sort_of => k_is); (case l_sort_of => k_is); (case c_sort_of => k_is); (case k_sort_of => k_is); (case a_end_of => k_is); (case l_end_of => k_is); (case c_end_of => k_is); (case k_end_of => k_is); (case a_parts_of => k_is); (case l_parts_of => k_is); (case c_parts_of => k_is); (case k_parts_of => k_is); (case a_is_word => k_is); (case l_is_word => k_is); (case c_is_word => k_is); (case k_is_word => k_is); (case a_is_name => k_is); (case l_is_name => k_is); (case c_is_name => k_is); (case k_is_name => k_is); (case a_is_free => k_is); (case l_is_free => k_is); (case c_is_free => k_is); (case k_is_free => k_is); (case a_known => k_is); (case l_known => k_is); (case c_known => k_is); (case k_known => k_is); (case a_least_start => k_is); (case l_least_start => k_is); (case c_least_start => k_is); (case k_least_start => k_is); (case a_runs => k_is); (case l_runs => k_is); (case c_runs => k_is); (case k_runs => k_is); (case a_pairs_of => k_is); (case l_pairs_of => k_is); (case c_pairs_of => k_is); (case k_pairs_of => k_is); (case a_pairs => k_is); (case l_pairs => k_is); (case c_pairs => k_is); (case k_pairs => k_is); (case a_law_begun => k_is); (case l_law_begun => k_is); (case c_law_begun => k_is); (case k_law_begun => k_is); (case a_law_take => k_is); (case l_law_take => k_is); (case c_law_take => k_is); (case k_law_take => k_is); (case a_law_kept => k_is); (case l_law_kept => k_is); (case c_law_kept => k_is); (case k_law_kept => k_is); (case a_law_name => k_is); (case l_law_name => k_is); (case c_law_name => k_is); (case k_law_name => k_is); (case a_law_same => k_is); (case l_law_same => k_is); (case c_law_same => k_is); (case k_law_same => k_is); (case a_law_rows => k_is); (case l_law_rows => k_is); (case c_law_rows => k_is); (case k_law_rows => k_is); (case a_law_copied => k_is); (case l_law_copied => k_is); (case c_law_copied => k_is); (case k_law_copied => k_is); (case a_law_end => k_is); (case l_law_end => k_is); (case c_law_end => k_is); (case k_law_end => k_is); (case a_law => k_is); (case l_law => k_is); (case c_law => k_is); (case k_law => k_is); (case z_all => k_is); (case z_bool => k_is); (case z_enumerate => k_is); (case z_int => k_is); (case z_isinstance => k_is); (case z_len => k_is); (case z_list => k_is); (case z_max => k_is); (case z_min => k_is); (case z_range => k_is); (case z_sorted => k_is); (case z_str => k_is); (case z_tuple => k_is); (case z_zip => k_is); (case q_LONGEST => k_is); (case dl_pairs => k_is); (case q_KEPT => k_is); (case l_KEPT => k_is)
#print axioms PySem.Challenge.cw_kinrows_k27_whole_long_copies_holds
