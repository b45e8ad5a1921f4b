import PyProof.Rows.All
import Wide.All
import OpenK.AllK
import Wide.FinOn
import HandS.ForMost
import HandS.ForExc
import HandS.TryOnly
import HandS.ExcOwn
import HandS.IsInst
import HandS.Wide
import HandS.SortInts
import HandS.Deep
import KE.DataEq
import PyProof.Rows.Walk
import OpenK.KWalk
import PyProof.StrOps2
import HandS.RaiseMore
import HandS.Style
import KE.KRevSl
import HandS.SetKeys
import HandS.Small
import HandS.StrMore
import HandS.FStr
import HandS.ListItems
import HandS.More
import HandS.Dict
import HandS.Zip
import KE.KExcIs
import HandS.ExcInit
import HandS.SortRule
import KE.KSortTupAny
import KE.DataMinMax
import HandS.Defaults
import HandS.Conv
import KE.DataCmp
import KE.SortCalls
import HandS.CallSlots
import HandS.SortKw
import HandS.SetFor
import HandS.Strs
import PyProof.DictMoreH
import HandS.TupLen
import KE.KEqDict
import KE.KDictZip
import PyProof.ListNew
import HandS.DictTup
import KE.DatumOrd
import HandS.Iter
import HandS.Flt
import HandS.DictComp
import KE.KDictLaw
import HandS.TupAny
import PySem.Challenge.RW_kinrows_k42_forms_of_stretches
set_option Elab.async false
set_option linter.all false
set_option maxRecDepth 100000
/-! DL1: deep values with owners, over the abstract heap: what a value stands for, what a step may touch, environments. -/
namespace DL
open PySem L2

inductive Kd where
  | lst | lok | tup | tok
  | dic (ks : List Key)
  | dit (ks : List (List Key))
  | obj (c : String) (ns : List Str)
  /-- a caught error: its class's name, the names of its fields -/
  | exc (c : String) (ns : List Str)

inductive D where
  | p (v : V)
  | n (o : Bool) (k : Kd) (ch : List D)

mutual
def D.fz : D → D
  | .p v => .p v
  | .n _ k ch => .n false k (fzL ch)
def fzL : List D → List D
  | [] => []
  | d :: ds => d.fz :: fzL ds
end
theorem fzL_map : ∀ ds : List D, fzL ds = ds.map D.fz
  | [] => by simp only [fzL, List.map_nil]
  | d :: ds => by simp only [fzL, List.map_cons, fzL_map ds]

abbrev Sub (G H : Hp) : Prop := ∀ a o, G a = some o → H a = some o

/-- a caught error that is kept: its class, its dict -/
def exK (cls : Value) (dx : Option Addr) (a : Addr) : HO := .ext fun h => ∃ (oe : Obj) (vs : Array Value), h.get? a = some oe ∧ Zc cls dx oe ∧ oe.data = .fields vs
/-- what is kept of the dict -/
def ExcF (G : Hp) (ns : List Str) (vs : List V) : Option Addr → Prop
  | none => ns = [] ∧ vs = []
  | some dd => ns.length = vs.length ∧ G dd = some (.xd (ns.zip vs))
/-- a tuple that is known to the object, without a dict -/
def KnT (K : PySem.W.Frag) (H : Hp) (a : Addr) (vs : List V) : Prop := (∃ o, H a = some (.frz o (.tup vs)) ∧ o.dict = none) ∨ ∃ (o : Obj) (its : Array Value) (n : Nat), K.lookup a = some o ∧ o.cls = .type "tuple" ∧ o.dict = none ∧ o.data = .seq its n ∧ its.size ≤ sizeLine ∧ Vals vs its.toList
theorem KnT.sqt {K : PySem.W.Frag} {H : Hp} {a : Addr} {vs : List V} (h : KnT K H a vs) : SqT K H a vs := by
  rcases h with ⟨o, h, _⟩ | ⟨o, its, n, h1, h2, h3, h4, h5, h6⟩
  · exact .inl (.inr ⟨o, h⟩)
  · exact .inr ⟨o, its, n, h1, h2, h4, h5, h6⟩
theorem KnT.mono {K : PySem.W.Frag} {G G' : Hp} {a : Addr} {xs : List V} (e : Sub G G') (h : KnT K G a xs) : KnT K G' a xs := by
  rcases h with ⟨o, h, hd⟩ | h
  · exact .inl ⟨o, e _ _ h, hd⟩
  · exact .inr h
/-- a node that is read -/
def NdF (K : PySem.W.Frag) (G : Hp) (a : Addr) : Kd → List V → Prop
  | .lst, vs => G a = some (.lst vs)
  | .lok, vs => SqL K G a vs
  | .tup, vs => G a = some (.tup vs)
  | .tok, vs => KnT K G a vs
  | .dic ks, vs => ks.length = vs.length ∧ Rd G a (.dK (ks.zip vs))
  | .dit ks, vs => ks.length = vs.length ∧ G a = some (.dT (ks.zip vs))
  | .obj c ns, vs => ns.length = vs.length ∧ ∃ C dx, PySem.W.nsIn K mainGlobals c = some (some (.ref C)) ∧ G a = some (.ins C dx (ns.zip vs))
  | .exc c ns, vs => ∃ (C : Addr) (od : Option Addr), PySem.W.nsIn K mainGlobals c = some (some (.ref C)) ∧ G a = some (exK (.ref C) od a) ∧ ExcF G ns vs od
/-- a node that one slot alone holds -/
def NdO (K : PySem.W.Frag) (H : Hp) (a : Addr) : Kd → List V → Prop
  | .lst, vs => H a = some (.lst vs)
  | .lok, _ => False
  | .tup, _ => False
  | .tok, _ => False
  | .dic ks, vs => ks.length = vs.length ∧ H a = some (.dK (ks.zip vs))
  | .dit ks, vs => ks.length = vs.length ∧ H a = some (.dT (ks.zip vs))
  | .obj c ns, vs => ns.length = vs.length ∧ ∃ C dx, PySem.W.nsIn K mainGlobals c = some (some (.ref C)) ∧ H a = some (.ins C dx (ns.zip vs))
  | .exc _ _, _ => False

theorem Rd.mono {G G' : Hp} {a : Addr} {u : HO} (e : Sub G G') (h : Rd G a u) : Rd G' a u := by
  rcases h with h | ⟨o, h⟩
  · exact .inl (e _ _ h)
  · exact .inr ⟨o, e _ _ h⟩
theorem SqL.mono {K : PySem.W.Frag} {G G' : Hp} {a : Addr} {xs : List V} (e : Sub G G') (h : SqL K G a xs) : SqL K G' a xs := by
  rcases h with h | h
  · exact .inl (Rd.mono e h)
  · exact .inr h
theorem SqT.mono {K : PySem.W.Frag} {G G' : Hp} {a : Addr} {xs : List V} (e : Sub G G') (h : SqT K G a xs) : SqT K G' a xs := by
  rcases h with h | h
  · exact .inl (Rd.mono e h)
  · exact .inr h
theorem ExcF.mono {G G' : Hp} {ns : List Str} {vs : List V} (e : Sub G G') : ∀ {od : Option Addr}, ExcF G ns vs od → ExcF G' ns vs od
  | none, h => h
  | some _, h => ⟨h.1, e _ _ h.2⟩
theorem NdF.mono {K : PySem.W.Frag} {G G' : Hp} {a : Addr} {k : Kd} {vs : List V} (e : Sub G G') (h : NdF K G a k vs) : NdF K G' a k vs := by
  cases k with
  | lst => exact e _ _ h
  | lok => exact SqL.mono e h
  | tup => exact e _ _ h
  | tok => exact KnT.mono e h
  | dic ks => exact ⟨h.1, Rd.mono e h.2⟩
  | dit ks => exact ⟨h.1, e _ _ h.2⟩
  | obj c ns => obtain ⟨h1, C, dx, hc, h2⟩ := h; exact ⟨h1, C, dx, hc, e _ _ h2⟩
  | exc c ns => obtain ⟨C, od, h1, h2, h3⟩ := h; exact ⟨C, od, h1, e _ _ h2, h3.mono e⟩
theorem NdO.there {K : PySem.W.Frag} {H : Hp} {a : Addr} {k : Kd} {vs : List V} (h : NdO K H a k vs) : ∃ o, H a = some o := by
  cases k with
  | lst => exact ⟨_, h⟩
  | lok => exact h.elim
  | tup => exact h.elim
  | tok => exact h.elim
  | dic ks => exact ⟨_, h.2⟩
  | dit ks => exact ⟨_, h.2⟩
  | obj c ns => obtain ⟨h1, C, dx, hc, h2⟩ := h; exact ⟨_, h2⟩
  | exc c ns => exact h.elim
theorem NdO.keep {K : PySem.W.Frag} {H H' : Hp} {a : Addr} {k : Kd} {vs : List V} (h : NdO K H a k vs) (e : ∀ o, H a = some o → H' a = some o) : NdO K H' a k vs := by
  cases k with
  | lst => exact e _ h
  | lok => exact h.elim
  | tup => exact h.elim
  | tok => exact h.elim
  | dic ks => exact ⟨h.1, e _ h.2⟩
  | dit ks => exact ⟨h.1, e _ h.2⟩
  | obj c ns => obtain ⟨h1, C, dx, hc, h2⟩ := h; exact ⟨h1, C, dx, hc, e _ h2⟩
  | exc c ns => exact h.elim
theorem NdO.read {K : PySem.W.Frag} {H : Hp} {a : Addr} {k : Kd} {vs : List V} (h : NdO K H a k vs) : NdF K H a k vs := by
  cases k with
  | lst => exact h
  | lok => exact h.elim
  | tup => exact h.elim
  | tok => exact h.elim
  | dic ks => exact ⟨h.1, .inl h.2⟩
  | dit ks => exact h
  | obj C ns => exact h
  | exc c ns => exact h.elim

mutual
inductive Rp (K : PySem.W.Frag) (G H : Hp) : V → D → List Addr → Prop
  | p (v : V) : Rp K G H v (.p v) []
  | f {a : Addr} {k : Kd} {vs : List V} {ch : List D} {F : List Addr} : NdF K G a k vs → RpL K G H vs ch F → Rp K G H (.ref a) (.n false k ch) F
  | o {a : Addr} {k : Kd} {vs : List V} {ch : List D} {F : List Addr} : G a = none → NdO K H a k vs → a ∉ F → RpL K G H vs ch F → Rp K G H (.ref a) (.n true k ch) (a :: F)
inductive RpL (K : PySem.W.Frag) (G H : Hp) : List V → List D → List Addr → Prop
  | nil : RpL K G H [] [] []
  | cons {v : V} {vs : List V} {d : D} {ds : List D} {F F' : List Addr} : Rp K G H v d F → RpL K G H vs ds F' → (∀ a ∈ F, a ∉ F') → RpL K G H (v :: vs) (d :: ds) (F ++ F')
end

section
variable {K : PySem.W.Frag} {G H G' H' : Hp}
mutual
theorem Rp.mov (hg : Sub G G') : ∀ {v : V} (d : D) {F : List Addr}, Rp K G H v d F → (∀ a ∈ F, ∀ o, G a = none → H a = some o → G' a = none ∧ H' a = some o) → Rp K G' H' v d F
  | _, .p v, _, h, _ => by
    cases h
    exact Rp.p _
  | _, .n ow k ch, _, h, e => by
    cases h with
    | f h1 h2 => exact Rp.f (h1.mono hg) (RpL.mov hg ch h2 e)
    | o h0 h1 h3 h2 =>
      obtain ⟨o, ho⟩ := h1.there
      exact Rp.o (e _ (List.mem_cons_self ..) o h0 ho).1 (h1.keep fun o' ho' => (e _ (List.mem_cons_self ..) o' h0 ho').2) h3
        (RpL.mov hg ch h2 fun a ha => e a (List.mem_cons_of_mem _ ha))
theorem RpL.mov (hg : Sub G G') : ∀ {vs : List V} (ds : List D) {F : List Addr}, RpL K G H vs ds F → (∀ a ∈ F, ∀ o, G a = none → H a = some o → G' a = none ∧ H' a = some o) → RpL K G' H' vs ds F
  | _, [], _, h, _ => by
    cases h
    exact RpL.nil
  | _, d :: ds, _, h, e => by
    cases h with
    | cons h1 h2 h3 => exact RpL.cons (Rp.mov hg d h1 fun a ha => e a (List.mem_append_left _ ha)) (RpL.mov hg ds h2 fun a ha => e a (List.mem_append_right _ ha)) h3
end
mutual
/-- what a slot alone held is shared from now on -/
theorem Rp.froz (hg : Sub G G') : ∀ {v : V} (d : D) {F : List Addr}, Rp K G H v d F → (∀ a ∈ F, G' a = H a) → Rp K G' H v d.fz []
  | _, .p v, _, h, _ => by
    cases h
    simp only [D.fz]
    exact Rp.p _
  | _, .n ow k ch, _, h, e => by
    simp only [D.fz]
    cases h with
    | f h1 h2 => exact Rp.f (h1.mono hg) (RpL.froz hg ch h2 e)
    | o h0 h1 h3 h2 =>
      have e1 : NdO K G' _ k _ := h1.keep fun o ho => (e _ (List.mem_cons_self ..)).trans ho
      exact Rp.f e1.read (RpL.froz hg ch h2 fun a ha => e a (List.mem_cons_of_mem _ ha))
theorem RpL.froz (hg : Sub G G') : ∀ {vs : List V} (ds : List D) {F : List Addr}, RpL K G H vs ds F → (∀ a ∈ F, G' a = H a) → RpL K G' H vs (fzL ds) []
  | _, [], _, h, _ => by
    cases h
    simp only [fzL]
    exact RpL.nil
  | _, d :: ds, _, h, e => by
    simp only [fzL]
    cases h with
    | cons h1 h2 h3 =>
      have := RpL.cons (Rp.froz hg d h1 fun a ha => e a (List.mem_append_left _ ha)) (RpL.froz hg ds h2 fun a ha => e a (List.mem_append_right _ ha)) (by simp)
      simpa using this
end
mutual
theorem Rp.foot : ∀ {v : V} (d : D) {F : List Addr}, Rp K G H v d F → ∀ a ∈ F, G a = none ∧ ∃ o, H a = some o
  | _, .p v, _, h => by
    cases h
    simp
  | _, .n ow k ch, _, h => by
    cases h with
    | f h1 h2 => exact RpL.foot ch h2
    | o h0 h1 h3 h2 =>
      intro a ha
      rcases List.mem_cons.mp ha with e | ha
      · subst e
        exact ⟨h0, h1.there⟩
      · exact RpL.foot ch h2 a ha
theorem RpL.foot : ∀ {vs : List V} (ds : List D) {F : List Addr}, RpL K G H vs ds F → ∀ a ∈ F, G a = none ∧ ∃ o, H a = some o
  | _, [], _, h => by
    cases h
    simp
  | _, d :: ds, _, h => by
    cases h with
    | cons h1 h2 h3 =>
      intro a ha
      rcases List.mem_append.mp ha with ha | ha
      · exact Rp.foot d h1 a ha
      · exact RpL.foot ds h2 a ha
end
end

/-! ### steps -/
/-- P: what is held alone ahead; P': behind -/
structure Stp (G H : Hp) (P : Addr → Prop) (G' H' : Hp) (P' : Addr → Prop) : Prop where
  g : Sub G G'
  h : ∀ a o, H a = some o → ¬ P a → H' a = some o
  n : ∀ a o, H a = some o → G a = none → ¬ P a → G' a = none
  f : ∀ a, P' a → P a ∨ H a = none
theorem Stp.refl (G H : Hp) (P : Addr → Prop) : Stp G H P G H P := ⟨fun _ _ h => h, fun _ _ h _ => h, fun _ _ _ h _ => h, fun _ h => .inl h⟩
theorem Stp.trans {G H G1 H1 G2 H2 : Hp} {P P1 P2 : Addr → Prop} (a : Stp G H P G1 H1 P1) (b : Stp G1 H1 P1 G2 H2 P2) : Stp G H P G2 H2 P2 := by
  have key : ∀ x o, H x = some o → ¬ P x → ¬ P1 x := fun x o e n q => by
    rcases a.f x q with z | z
    · exact n z
    · rw [e] at z; cases z
  refine ⟨fun x o e => b.g x o (a.g x o e), fun x o e n => b.h x o (a.h x o e n) (key x o e n), fun x o e g n => b.n x o (a.h x o e n) (a.n x o e g n) (key x o e n), fun x q => ?_⟩
  rcases b.f x q with z | z
  · exact a.f x z
  · by_cases hp : P x
    · exact .inl hp
    · cases e : H x with
      | none => exact .inr rfl
      | some o =>
        have := a.h x o e hp
        rw [z] at this; cases this
theorem Stp.mono {G H G' H' : Hp} {P P' Q Q' : Addr → Prop} (a : Stp G H P G' H' P') (h : ∀ x, P x → Q x) (h' : ∀ x, Q' x → P' x ∨ Q x) : Stp G H Q G' H' Q' :=
  ⟨a.g, fun x o e n => a.h x o e fun z => n (h x z), fun x o e g n => a.n x o e g fun z => n (h x z), fun x q => by
    rcases h' x q with z | z
    · rcases a.f x z with z | z
      · exact .inl (h x z)
      · exact .inr z
    · exact .inl z⟩
/-- a new object -/
theorem Stp.new {G H : Hp} {P : Addr → Prop} {p : Addr} {o : HO} (h : H p = none) (hs : Sub G H) : Stp G H P G (upd H p o) (fun a => P a ∨ a = p) :=
  ⟨fun _ _ e => e, fun a u e _ => by rw [upd_ne (ne_of_none e h)]; exact e, fun _ _ _ e _ => e, fun a q => by
    rcases q with q | q
    · exact .inl q
    · subst q; exact .inr h⟩
/-- a new object, shared -/
theorem Stp.newG {G H : Hp} {P : Addr → Prop} {p : Addr} {o : HO} (h : H p = none) (hs : Sub G H) : Stp G H P (upd G p o) (upd H p o) P := by
  have hg : G p = none := by
    cases e : G p with
    | none => rfl
    | some u => rw [hs p u e] at h; cases h
  exact ⟨fun a u e => by rw [upd_ne (ne_of_none e hg)]; exact e, fun a u e _ => by rw [upd_ne (ne_of_none e h)]; exact e, fun a u e g _ => by rw [upd_ne (ne_of_none e h)]; exact g, fun a q => .inl q⟩
theorem Sub.upd {G H : Hp} {p : Addr} {o : HO} (h : H p = none) (hs : Sub G H) : Sub G (upd H p o) := fun a u e => by
  rw [upd_ne (ne_of_none (hs a u e) h)]
  exact hs a u e
theorem Sub.updG {G H : Hp} {p : Addr} {o : HO} (h : H p = none) (hs : Sub G H) : Sub (L2.upd G p o) (L2.upd H p o) := fun a u e => by
  by_cases ha : a = p
  · subst ha; rw [upd_same] at e ⊢; exact e
  · rw [upd_ne ha] at e ⊢; exact hs a u e
/-- freezing what is at F -/
def frzH (G H : Hp) (F : List Addr) : Hp := fun a => if a ∈ F then H a else G a
theorem frzH_in {G H : Hp} {F : List Addr} {a : Addr} (h : a ∈ F) : frzH G H F a = H a := if_pos h
theorem frzH_out {G H : Hp} {F : List Addr} {a : Addr} (h : a ∉ F) : frzH G H F a = G a := if_neg h
theorem frzH_sub {G H : Hp} {F : List Addr} (hs : Sub G H) : Sub (frzH G H F) H := fun a o e => by
  by_cases h : a ∈ F
  · rw [frzH_in h] at e; exact e
  · rw [frzH_out h] at e; exact hs a o e
theorem sub_frzH {G H : Hp} {F : List Addr} (hf : ∀ a ∈ F, G a = none) : Sub G (frzH G H F) := fun a o e => by
  by_cases h : a ∈ F
  · rw [hf a h] at e; cases e
  · rw [frzH_out h]; exact e
theorem Stp.frz {G H : Hp} {F : List Addr} {P : Addr → Prop} (hf : ∀ a ∈ F, G a = none) (hp : ∀ a ∈ F, P a) : Stp G H P (frzH G H F) H (fun a => P a ∧ a ∉ F) :=
  ⟨sub_frzH hf, fun _ _ e _ => e, fun a o e g n => by rw [frzH_out fun z => n (hp a z)]; exact g, fun a q => .inl q.1⟩

/-! ### environments -/
inductive Sl where
  /-- nothing is known -/
  | un
  /-- a value -/
  | v (d : D)
  /-- a value handed in that is to be handed back (the name is not stored to) -/
  | w (d : D)
  /-- a part of what another slot holds -/
  | b (i : Nat) (path : List Nat)
abbrev Env := List Sl
def Sl.d? : Sl → Option D
  | .v d => some d
  | .w d => some d
  | _ => none

def D.at : D → List Nat → Option D
  | d, [] => some d
  | .p _, _ :: _ => none
  | .n true _ ch, i :: q => match ch[i]? with
    | some c => D.at c q
    | none => none
  | .n false _ _, _ :: _ => none
/-- P: where the nodes on the way stand -/
def PathV (K : PySem.W.Frag) (H : Hp) (P : Addr → Prop) : V → List Nat → V → Prop
  | x, [], y => x = y
  | x, i :: q, y => ∃ a k vs z, x = .ref a ∧ P a ∧ NdO K H a k vs ∧ vs[i]? = some z ∧ PathV K H P z q y

abbrev Fps := Nat → List Addr
def InF (fp : Fps) (a : Addr) : Prop := ∃ i, a ∈ fp i
/-- slots, pins, what stands behind them -/
structure Mt (K : PySem.W.Frag) (pv : Nat → V) (σ : St) (ρ : Env) (G H : Hp) (fp : Fps) : Prop where
  sub : Sub G H
  len : ρ.length = σ.length
  sl : ∀ (i : Nat) (d : D), ρ[i]? = some (Sl.v d) → ∃ x, σ[i]? = some (some x) ∧ Rp K G H x d (fp i)
  pn : ∀ (i : Nat) (d : D), ρ[i]? = some (Sl.w d) → σ[i]? = some (some (pv i)) ∧ Rp K G H (pv i) d (fp i)
  br : ∀ (i j : Nat) (q : List Nat), ρ[i]? = some (Sl.b j q) → ∃ x y, σ[j]? = some (some x) ∧ σ[i]? = some (some y) ∧ PathV K H (fun a => a ∈ fp j) x q y
  ap : ∀ i j, i ≠ j → ∀ a ∈ fp i, a ∉ fp j
  ft : ∀ i, ∀ a ∈ fp i, G a = none ∧ ∃ o, H a = some o
section
variable {K : PySem.W.Frag} {pv : Nat → V} {σ : St} {ρ : Env} {G H G' H' : Hp} {fp : Fps}
theorem Mt.at (m : Mt K pv σ ρ G H fp) {i : Nat} {s : Sl} {d : D} (h : ρ[i]? = some s) (e : s.d? = some d) : ∃ x, σ[i]? = some (some x) ∧ Rp K G H x d (fp i) := by
  cases s with
  | un => cases e
  | v d' => cases e; exact m.sl i _ h
  | w d' => cases e; exact ⟨_, m.pn i _ h⟩
  | b j q => cases e
theorem PathV.mono {P P' : Addr → Prop} (e : ∀ a o, P a → H a = some o → H' a = some o) (hp : ∀ a, P a → P' a) : ∀ {q : List Nat} {x y : V}, PathV K H P x q y → PathV K H' P' x q y
  | [], _, _, h => h
  | _ :: _, _, _, h => by
    obtain ⟨a, k, vs, z, e1, h0, h1, h2, h3⟩ := h
    exact ⟨a, k, vs, z, e1, hp a h0, h1.keep fun o => e a o h0, h2, PathV.mono e hp h3⟩
/-- what is held alone stands as it stood -/
theorem Mt.move (m : Mt K pv σ ρ G H fp) (hg : Sub G G') (hs : Sub G' H') (h : ∀ a o, InF fp a → H a = some o → H' a = some o) (hn : ∀ a, InF fp a → G' a = none) : Mt K pv σ ρ G' H' fp where
  sub := hs
  len := m.len
  sl := fun i d e => by
    obtain ⟨x, h1, h2⟩ := m.sl i d e
    exact ⟨x, h1, h2.mov hg _ fun a ha o _ ho => ⟨hn a ⟨i, ha⟩, h a o ⟨i, ha⟩ ho⟩⟩
  pn := fun i d e => by
    obtain ⟨h1, h2⟩ := m.pn i d e
    exact ⟨h1, h2.mov hg _ fun a ha o _ ho => ⟨hn a ⟨i, ha⟩, h a o ⟨i, ha⟩ ho⟩⟩
  br := fun i j q e => by
    obtain ⟨x, y, h1, h2, h3⟩ := m.br i j q e
    exact ⟨x, y, h1, h2, h3.mono (fun a o z => h a o ⟨j, z⟩) fun _ z => z⟩
  ap := m.ap
  ft := fun i a ha => ⟨hn a ⟨i, ha⟩, by
    obtain ⟨_, o, h2⟩ := m.ft i a ha
    exact ⟨o, h a o ⟨i, ha⟩ h2⟩⟩
/-- nothing held alone was touched -/
theorem Mt.step {P' : Addr → Prop} (m : Mt K pv σ ρ G H fp) (s : Stp G H (fun _ => False) G' H' P') (hs : Sub G' H') : Mt K pv σ ρ G' H' fp :=
  m.move s.g hs (fun a o _ e => s.h a o e fun z => z) fun a ⟨i, ha⟩ => by
    obtain ⟨h1, o, h2⟩ := m.ft i a ha
    exact s.n a o h2 h1 fun z => z
/-- a value that is held apart from the slots stays -/
theorem Rp.frame {v : V} {d : D} {F : List Addr} {P P' : Addr → Prop} (r : Rp K G H v d F) (s : Stp G H P G' H' P') (hd : ∀ a ∈ F, ¬ P a) : Rp K G' H' v d F ∧ ∀ a ∈ F, ¬ P' a := by
  refine ⟨r.mov s.g _ fun a ha o hg ho => ⟨s.n a o ho hg (hd a ha), s.h a o ho (hd a ha)⟩, fun a ha q => ?_⟩
  rcases s.f a q with z | z
  · exact hd a ha z
  · obtain ⟨_, o, ho⟩ := Rp.foot d r a ha
    rw [ho] at z; cases z
end

/-! ### handles -/
inductive Rv where
  | t (d : D)
  | s (i : Nat)
def RvOk (K : PySem.W.Frag) (σ : St) (G H : Hp) (P : Addr → Prop) (v : V) : Rv → List Addr → Prop
  | .t d, F => Rp K G H v d F ∧ ∀ a ∈ F, ¬ P a
  | .s i, F => σ[i]? = some (some v) ∧ F = []
/-- what a handle stands for -/
def rootD (ρ : Env) (i : Nat) : Option D := match ρ[i]? with
  | some (.v d) => some d
  | some (.w d) => some d
  | _ => none
def slD (ρ : Env) (i : Nat) : Option D := match ρ[i]? with
  | some (.v d) => some d
  | some (.w d) => some d
  | some (.b j q) => (rootD ρ j).bind fun d => d.at q
  | _ => none
def look (ρ : Env) : Rv → Option D
  | .t d => some d
  | .s i => slD ρ i
section
variable {K : PySem.W.Frag} {pv : Nat → V} {σ : St} {ρ : Env} {G H G' H' : Hp} {fp : Fps}
theorem RvOk.frame {v : V} {r : Rv} {F : List Addr} {P P' : Addr → Prop} (h : RvOk K σ G H P v r F) (s : Stp G H P G' H' P') : RvOk K σ G' H' P' v r F := by
  cases r with
  | t d => exact Rp.frame h.1 s h.2
  | s i => exact h
theorem SqL.inj {G : Hp} {a : Addr} {xs : List V} (h : SqL K G a xs) {ys : List V} (h' : G a = some (.lst ys)) : xs = ys ∨ ∃ o, K.lookup a = some o := by
  rcases h with h | ⟨o, _, _, h, _⟩
  · rcases h with h | ⟨o, h⟩
    · rw [h'] at h; cases h; exact .inl rfl
    · rw [h'] at h; cases h
  · exact .inr ⟨o, h⟩
/-- the children's nodes lie within the whole's -/
theorem RpL.get : ∀ {vs : List V} (ds : List D) {F : List Addr} {i : Nat} {d : D}, RpL K G H vs ds F → ds[i]? = some d → ∃ x F', vs[i]? = some x ∧ Rp K G H x d F' ∧ ∀ a ∈ F', a ∈ F
  | _, [], _, _, _, _, e => by simp at e
  | _, c :: cs, _, i, d, h, e => by
    cases h with
    | cons h1 h2 h3 =>
      cases i with
      | zero =>
        simp only [List.getElem?_cons_zero, Option.some.injEq] at e
        subst e
        exact ⟨_, _, by simp only [List.getElem?_cons_zero], h1, fun a ha => List.mem_append_left _ ha⟩
      | succ i =>
        rw [List.getElem?_cons_succ] at e
        obtain ⟨x, F', q1, q2, q3⟩ := RpL.get cs h2 e
        exact ⟨x, F', by rw [List.getElem?_cons_succ]; exact q1, q2, fun a ha => List.mem_append_right _ (q3 a ha)⟩
theorem NdO.inj {a : Addr} {k k' : Kd} {vs ws : List V} (h : NdO K H a k vs) (h' : NdO K H a k' ws) : vs = ws := by
  have zz : ∀ {α : Type} {ks ks' : List α} {vs ws : List V}, ks.length = vs.length → ks'.length = ws.length → ks.zip vs = ks'.zip ws → vs = ws := by
    intro α ks ks' vs ws h1 h2 e
    have e' := congrArg (List.map Prod.snd) e
    rwa [List.map_snd_zip (by omega), List.map_snd_zip (by omega)] at e'
  cases k <;> cases k' <;> simp only [NdO] at h h' <;> first
    | exact h.elim
    | exact h'.elim
    | (rw [h] at h'; cases h'; done)
    | (rw [h] at h'; cases h'; rfl)
    | (rw [h.2] at h'; cases h'; done)
    | (rw [h] at h'; have := h'.2; cases this; done)
    | (have e := h.2.symm.trans h'.2; injection e with e; injection e with e; exact zz h.1 h'.1 e)
    | (have e := h.2.symm.trans h'.2; injection e with e; cases e; done)
    | (obtain ⟨h1, C, dx, hc, h2⟩ := h; obtain ⟨h3, C', dx', hc', h4⟩ := h'; rw [h2] at h4; injection h4 with e; injection e with e1 e2 e3; exact zz h1 h3 e3)
    | (obtain ⟨h1, C, dx, hc, h2⟩ := h; first | (rw [h2] at h'; cases h'; done) | (have := h2.symm.trans h'.2; cases this; done))
    | (obtain ⟨h1, C, dx, hc, h2⟩ := h'; first | (rw [h2] at h; cases h; done) | (have := h2.symm.trans h.2; cases this; done))
theorem Rp.path {P : Addr → Prop} : ∀ {q : List Nat} {x y : V} {d d' : D} {F : List Addr}, Rp K G H x d F → d.at q = some d' → PathV K H P x q y → ∃ F', Rp K G H y d' F' ∧ ∀ a ∈ F', a ∈ F
  | [], x, y, d, d', F, r, e, h => by
    have e1 : d = d' := by
      cases d with
      | p v => simpa [D.at] using e
      | n o k ch => cases o <;> simpa [D.at] using e
    subst e1
    have e2 : x = y := h
    subst e2
    exact ⟨F, r, fun _ z => z⟩
  | i :: q, x, y, .p v, d', F, r, e, h => by simp [D.at] at e
  | i :: q, x, y, .n false k ch, d', F, r, e, h => by simp [D.at] at e
  | i :: q, x, y, .n true k ch, d', F, r, e, h => by
    cases r with
    | o h0 h1 h3 h2 =>
      simp only [D.at] at e
      obtain ⟨a, k', vs', z, e1, _, n1, g1, p1⟩ := h
      injection e1 with e1
      subst e1
      have ev := NdO.inj n1 h1
      subst ev
      cases ec : ch[i]? with
      | none => rw [ec] at e; cases e
      | some c =>
        rw [ec] at e
        obtain ⟨x', F', q1, q2, q3⟩ := RpL.get ch h2 ec
        rw [q1] at g1
        cases g1
        obtain ⟨F2, r2, s2⟩ := Rp.path q2 e p1
        exact ⟨F2, r2, fun a ha => List.mem_cons_of_mem _ (q3 a (s2 a ha))⟩
theorem RpL.len : ∀ {vs : List V} (ds : List D) {F : List Addr}, RpL K G H vs ds F → vs.length = ds.length
  | _, [], _, h => by cases h; rfl
  | _, _ :: ds, _, h => by
    cases h with
    | cons h1 h2 h3 => rw [List.length_cons, List.length_cons, RpL.len ds h2]
end
end DL
/-! DL2: readings over deep values, and how they are readings over the abstract heap. -/
namespace DL
open PySem L2

structure Exn where
  name : String
  f : Option (Str × D) := none

abbrev DE := Env → (Rv → Env → Prop) → (Exn → Env → Prop) → Prop
abbrev DT := Env → (Bool → Env → Prop) → (Exn → Env → Prop) → Prop
abbrev DA := Env → (List Rv → Env → Prop) → (Exn → Env → Prop) → Prop
structure DEnds where
  nx : Env → Prop
  rt : D → Env → Prop
  bk : Env → Prop := fun _ => False
  ct : Env → Prop := fun _ => False
  ex : Exn → Env → Prop := fun _ _ => False
abbrev DS := DEnds → Env → Prop
/-- a target -/
abbrev DG := Rv → Env → (Env → Prop) → Prop
/-- what is walked: its items -/
abbrev DI := Env → (List D → Env → Prop) → (Exn → Env → Prop) → Prop

def ExOk (K : PySem.W.Frag) (cn : String → Addr) (G H : Hp) (x : Exn) (cls : Value) (dx : Option Addr) : Prop :=
  cls = .ref (cn x.name) ∧ match x.f with
    | none => dx = none
    | some (f, d) => ∃ a v, dx = some a ∧ G a = some (.xd [(f, v)]) ∧ Rp K G H v d []

section
variable (K : PySem.W.Frag) (cn : String → Addr)
def PoX (pv : Nat → V) (γ : St) (n : Nat) (G H : Hp) (fp : Fps) (E0 : Exn → Env → Prop) (E : WX) : Prop :=
  ∀ x ρ' cls dx σ' G' H' fp', E0 x ρ' → Stp G H (InF fp) G' H' (InF fp') → Mt K pv (σ' ++ γ) ρ' G' H' fp' → σ'.length = n → ExOk K cn G' H' x cls dx → E cls dx σ' H'
def PoE (pv : Nat → V) (σ γ : St) (G H : Hp) (fp : Fps) (Q0 : Rv → Env → Prop) (Q : VK) : Prop :=
  ∀ r ρ' v G' H' fp' F, Q0 r ρ' → Stp G H (InF fp) G' H' (fun a => InF fp' a ∨ a ∈ F) → Mt K pv (σ ++ γ) ρ' G' H' fp' → RvOk K (σ ++ γ) G' H' (InF fp') v r F → Q v H'
def liftE (E : WX) (t : DE) : TE := fun σ H Q => ∃ pv γ ρ G fp Q0 E0, Mt K pv (σ ++ γ) ρ G H fp ∧ t ρ Q0 E0 ∧ PoE K pv σ γ G H fp Q0 Q ∧ PoX K cn pv γ σ.length G H fp E0 E
def PoT (pv : Nat → V) (σ γ : St) (G H : Hp) (fp : Fps) (Q0 : Bool → Env → Prop) (Q : Bool → Hp → Prop) : Prop :=
  ∀ b ρ' G' H' fp', Q0 b ρ' → Stp G H (InF fp) G' H' (InF fp') → Mt K pv (σ ++ γ) ρ' G' H' fp' → Q b H'
def liftT (E : WX) (t : DT) : TT := fun σ H Q => ∃ pv γ ρ G fp Q0 E0, Mt K pv (σ ++ γ) ρ G H fp ∧ t ρ Q0 E0 ∧ PoT K pv σ γ G H fp Q0 Q ∧ PoX K cn pv γ σ.length G H fp E0 E
/-- several handles: each held apart -/
inductive RvsOk (σ : St) (G H : Hp) : (Addr → Prop) → List V → List Rv → List Addr → Prop
  | nil {P : Addr → Prop} : RvsOk σ G H P [] [] []
  | cons {P : Addr → Prop} {v : V} {vs : List V} {r : Rv} {rs : List Rv} {F F' : List Addr} : RvOk K σ G H P v r F → RvsOk σ G H (fun a => P a ∨ a ∈ F) vs rs F' → RvsOk σ G H P (v :: vs) (r :: rs) (F ++ F')
def PoA (pv : Nat → V) (σ γ : St) (G H : Hp) (fp : Fps) (Q0 : List Rv → Env → Prop) (Q : List V → Hp → Prop) : Prop :=
  ∀ rs ρ' vs G' H' fp' F, Q0 rs ρ' → Stp G H (InF fp) G' H' (fun a => InF fp' a ∨ a ∈ F) → Mt K pv (σ ++ γ) ρ' G' H' fp' → RvsOk K (σ ++ γ) G' H' (InF fp') vs rs F → Q vs H'
def liftA (E : WX) (t : DA) : TA := fun σ H Q => ∃ pv γ ρ G fp Q0 E0, Mt K pv (σ ++ γ) ρ G H fp ∧ t ρ Q0 E0 ∧ PoA K pv σ γ G H fp Q0 Q ∧ PoX K cn pv γ σ.length G H fp E0 E
def PoN (pv : Nat → V) (γ : St) (n : Nat) (G H : Hp) (fp : Fps) (N0 : Env → Prop) (N : St → Hp → Prop) : Prop :=
  ∀ ρ' σ' G' H' fp', N0 ρ' → Stp G H (InF fp) G' H' (InF fp') → Mt K pv (σ' ++ γ) ρ' G' H' fp' → σ'.length = n → N σ' H'
def PoR (pv : Nat → V) (γ : St) (n : Nat) (G H : Hp) (fp : Fps) (R0 : D → Env → Prop) (R : VK) : Prop :=
  ∀ d ρ' v σ' G' H' fp' F, R0 d ρ' → Stp G H (InF fp) G' H' (fun a => InF fp' a ∨ a ∈ F) → Mt K pv (σ' ++ γ) ρ' G' H' fp' → σ'.length = n → Rp K G' H' v d F → (∀ a ∈ F, ¬ InF fp' a) → R v H'
structure PoS (pv : Nat → V) (γ : St) (n : Nat) (G H : Hp) (fp : Fps) (D0 : DEnds) (Dn : Ends) (E : WX) : Prop where
  nx : PoN K pv γ n G H fp D0.nx Dn.nx
  bk : PoN K pv γ n G H fp D0.bk Dn.bk
  ct : PoN K pv γ n G H fp D0.ct Dn.ct
  rt : PoR K pv γ n G H fp D0.rt Dn.rt
  ex : PoX K cn pv γ n G H fp D0.ex E
def liftS (E : WX) (t : DS) : TS := fun Dn σ H => ∃ pv γ ρ G fp D0, Mt K pv (σ ++ γ) ρ G H fp ∧ t D0 ρ ∧ PoS K cn pv γ σ.length G H fp D0 Dn E
end

abbrev JE (X : Cx) (cn : String → Addr) (E : WX) (e : Expr) (t : DE) : Prop := PE X e (liftE X.K cn E t)
abbrev JT (X : Cx) (cn : String → Addr) (E : WX) (e : Expr) (t : DT) : Prop := PT X e (liftT X.K cn E t)
abbrev JW (X : Cx) (cn : String → Addr) (E : WX) (e : Expr) (t : DT) : Prop := PW X e (liftT X.K cn E t)
abbrev JA (X : Cx) (cn : String → Addr) (E : WX) (es : List Expr) (t : DA) : Prop := PA X es (liftA X.K cn E t)
abbrev JS (X : Cx) (cn : String → Addr) (E : WX) (s : Stmt) (t : DS) : Prop := PS X s (liftS X.K cn E t)
abbrev JSs (X : Cx) (cn : String → Addr) (E : WX) (s : List Stmt) (t : DS) : Prop := PSs X s (liftS X.K cn E t)

/-! ### weakening -/
theorem pe_imp {X : Cx} {e : Expr} {t t' : TE} (h : PE X e t) (i : ∀ σ H Q, t' σ H Q → t σ H Q) : PE X e t' := ⟨fun pins s σ H Q I q => h.run pins s σ H Q I (i σ H Q q)⟩
theorem pt_imp {X : Cx} {e : Expr} {t t' : TT} (h : PT X e t) (i : ∀ σ H Q, t' σ H Q → t σ H Q) : PT X e t' := ⟨fun pins s σ H Q I q => h.run pins s σ H Q I (i σ H Q q)⟩
theorem pw_imp {X : Cx} {e : Expr} {t t' : TT} (h : PW X e t) (i : ∀ σ H Q, t' σ H Q → t σ H Q) : PW X e t' := ⟨fun wh pins s σ H Q I q => h.run wh pins s σ H Q I (i σ H Q q)⟩
theorem pa_imp {X : Cx} {es : List Expr} {t t' : TA} (h : PA X es t) (i : ∀ σ H Q, t' σ H Q → t σ H Q) : PA X es t' := ⟨fun pos pins s σ H Q I q => h.run pos pins s σ H Q I (i σ H Q q)⟩
theorem ps_imp {X : Cx} {e : Stmt} {t t' : TS} (h : PS X e t) (i : ∀ D σ H, t' D σ H → t D σ H) : PS X e t' := ⟨fun pins s σ H D I q => h.run pins s σ H D I (i D σ H q)⟩
theorem pss_imp {X : Cx} {e : List Stmt} {t t' : TS} (h : PSs X e t) (i : ∀ D σ H, t' D σ H → t D σ H) : PSs X e t' := ⟨fun pins s σ H D I q => h.run pins s σ H D I (i D σ H q)⟩
theorem Stp.seq {G H G1 H1 G2 H2 : Hp} {P P1 P' P2 P3 : Addr → Prop} (a : Stp G H P G1 H1 P1) (h : ∀ x, P' x → P1 x) (b : Stp G1 H1 P' G2 H2 P2) (h3 : ∀ x, P3 x → P2 x ∨ P1 x) : Stp G H P G2 H2 P3 :=
  a.trans (b.mono h h3)

section
variable {K : PySem.W.Frag} {cn : String → Addr} {pv : Nat → V} {σ γ : St} {n : Nat} {ρ : Env} {G H G' H' : Hp} {fp fp' : Fps} {F : List Addr} {E : WX}
theorem PoX.on {E0 : Exn → Env → Prop} (h : PoX K cn pv γ n G H fp E0 E) (s : Stp G H (InF fp) G' H' (fun a => InF fp' a ∨ a ∈ F)) : PoX K cn pv γ n G' H' fp' E0 E :=
  fun x ρ' cls dx σ' G2 H2 fp2 q s2 m l o => h x ρ' cls dx σ' G2 H2 fp2 q (s.seq (fun _ z => .inl z) s2 fun _ z => .inl z) m l o
theorem PoX.on0 {E0 : Exn → Env → Prop} (h : PoX K cn pv γ n G H fp E0 E) (s : Stp G H (InF fp) G' H' (InF fp')) : PoX K cn pv γ n G' H' fp' E0 E :=
  fun x ρ' cls dx σ' G2 H2 fp2 q s2 m l o => h x ρ' cls dx σ' G2 H2 fp2 q (s.trans s2) m l o
theorem PoN.on {N0 : Env → Prop} {N : St → Hp → Prop} (h : PoN K pv γ n G H fp N0 N) (s : Stp G H (InF fp) G' H' (InF fp')) : PoN K pv γ n G' H' fp' N0 N :=
  fun ρ' σ' G2 H2 fp2 q s2 m l => h ρ' σ' G2 H2 fp2 q (s.trans s2) m l
theorem PoN.on1 {N0 : Env → Prop} {N : St → Hp → Prop} (h : PoN K pv γ n G H fp N0 N) (s : Stp G H (InF fp) G' H' (fun a => InF fp' a ∨ a ∈ F)) : PoN K pv γ n G' H' fp' N0 N :=
  fun ρ' σ' G2 H2 fp2 q s2 m l => h ρ' σ' G2 H2 fp2 q (s.seq (fun _ z => .inl z) s2 fun _ z => .inl z) m l
theorem PoR.on {R0 : D → Env → Prop} {R : VK} (h : PoR K pv γ n G H fp R0 R) (s : Stp G H (InF fp) G' H' (InF fp')) : PoR K pv γ n G' H' fp' R0 R :=
  fun d ρ' v σ' G2 H2 fp2 F q s2 m l => h d ρ' v σ' G2 H2 fp2 F q (s.trans s2) m l
theorem PoR.on1 {R0 : D → Env → Prop} {R : VK} (h : PoR K pv γ n G H fp R0 R) (s : Stp G H (InF fp) G' H' (fun a => InF fp' a ∨ a ∈ F)) : PoR K pv γ n G' H' fp' R0 R :=
  fun d ρ' v σ' G2 H2 fp2 F q s2 m l => h d ρ' v σ' G2 H2 fp2 F q (s.seq (fun _ z => .inl z) s2 fun _ z => .inl z) m l
theorem PoS.on {D0 : DEnds} {Dn : Ends} (h : PoS K cn pv γ n G H fp D0 Dn E) (s : Stp G H (InF fp) G' H' (InF fp')) : PoS K cn pv γ n G' H' fp' D0 Dn E :=
  ⟨h.nx.on s, h.bk.on s, h.ct.on s, h.rt.on s, h.ex.on0 s⟩
theorem PoS.on1 {D0 : DEnds} {Dn : Ends} (h : PoS K cn pv γ n G H fp D0 Dn E) (s : Stp G H (InF fp) G' H' (fun a => InF fp' a ∨ a ∈ F)) : PoS K cn pv γ n G' H' fp' D0 Dn E :=
  ⟨h.nx.on1 s, h.bk.on1 s, h.ct.on1 s, h.rt.on1 s, h.ex.on s⟩

theorem root_ok {i : Nat} {d : D} (m : Mt K pv σ ρ G H fp) (e : rootD ρ i = some d) : ∃ x, σ[i]? = some (some x) ∧ Rp K G H x d (fp i) := by
  unfold rootD at e
  split at e
  · rename_i d0 h
    cases e
    exact m.sl i _ h
  · rename_i d0 h
    cases e
    exact ⟨_, m.pn i _ h⟩
  · cases e
theorem sl_ok {i : Nat} {d : D} (m : Mt K pv σ ρ G H fp) (e : slD ρ i = some d) : ∃ v F0, σ[i]? = some (some v) ∧ Rp K G H v d F0 ∧ ∀ a ∈ F0, InF fp a := by
  unfold slD at e
  split at e
  · rename_i d0 h
    cases e
    obtain ⟨x, h1, h2⟩ := m.sl i _ h
    exact ⟨x, _, h1, h2, fun a ha => ⟨i, ha⟩⟩
  · rename_i d0 h
    cases e
    obtain ⟨h1, h2⟩ := m.pn i _ h
    exact ⟨_, _, h1, h2, fun a ha => ⟨i, ha⟩⟩
  · rename_i j q h
    cases er : rootD ρ j with
    | none => rw [er] at e; cases e
    | some d0 =>
      rw [er] at e
      obtain ⟨x, h1, h2⟩ := root_ok m er
      obtain ⟨x', y, g1, g2, g3⟩ := m.br i j q h
      rw [h1] at g1; cases g1
      obtain ⟨F', r', s'⟩ := Rp.path h2 e g3
      exact ⟨y, F', g2, r', fun a ha => ⟨j, s' a ha⟩⟩
  · cases e
theorem look_ok {r : Rv} {v : V} {d : D} {P : Addr → Prop} (m : Mt K pv σ ρ G H fp) (o : RvOk K σ G H P v r F) (e : look ρ r = some d) : ∃ F0, Rp K G H v d F0 ∧ ∀ a ∈ F0, a ∈ F ∨ InF fp a := by
  cases r with
  | t d' =>
    cases e
    exact ⟨F, o.1, fun a ha => .inl ha⟩
  | s i =>
    obtain ⟨o1, o2⟩ := o
    obtain ⟨v', F0, h1, h2, h3⟩ := sl_ok m (show slD ρ i = some d from e)
    rw [o1] at h1; cases h1
    exact ⟨F0, h2, fun a ha => .inr (h3 a ha)⟩
end

/-! ### names, constants -/
section
variable {X : Cx} {cn : String → Addr} {E : WX}
def dVar (i : Nat) : DE := fun ρ Q _ => (slD ρ i).isSome = true ∧ Q (.s i) ρ
def dC (v : V) : DE := fun ρ Q _ => Q (.t (.p v)) ρ
theorem get_left {σ γ : St} {i : Nat} {x : V} (hi : i < σ.length) (h : (σ ++ γ)[i]? = some (some x)) : σ[i]? = some (some x) := by
  rwa [List.getElem?_append_left hi] at h
theorem stp0 (G H : Hp) (fp : Fps) : Stp G H (InF fp) G H (fun a => InF fp a ∨ a ∈ ([] : List Addr)) := (Stp.refl _ _ _).mono (fun _ z => z) fun _ z => .inl (z.elim id fun q => by cases q)
theorem je_c {e : Expr} {v : V} (h : PE X e (tC v)) : JE X cn E e (dC v) := pe_imp h fun σ H Q ⟨pv, γ, ρ, G, fp, Q0, E0, m, q, po, _⟩ =>
  po _ _ _ G H fp [] q (stp0 G H fp) m ⟨Rp.p v, fun a z => by cases z⟩
theorem je_v {e : Expr} {i : Nat} (hi : i < X.N.length) (h : PE X e (tVar i)) : JE X cn E e (dVar i) := ⟨fun pins s σ H Q I ⟨pv, γ, ρ, G, fp, Q0, E0, m, ⟨q1, q⟩, po, _⟩ => by
  obtain ⟨d, hd⟩ := Option.isSome_iff_exists.mp q1
  obtain ⟨v, F0, h1, h2, h3⟩ := sl_ok m hd
  have hl : i < σ.length := by rw [I.len]; exact hi
  exact h.run pins s σ H Q I ⟨v, get_left hl h1, po _ _ _ G H fp [] q (stp0 G H fp) m ⟨h1, rfl⟩⟩⟩
end
end DL
/-! DL3: operators, tests, arguments, displays, calls. -/
namespace DL
open PySem L2

mutual
def D.isFz : D → Bool
  | .p _ => true
  | .n o _ ch => !o && isFzL ch
def isFzL : List D → Bool
  | [] => true
  | d :: ds => d.isFz && isFzL ds
end
mutual
theorem fz_of : ∀ {d : D}, d.isFz = true → d.fz = d
  | .p _, _ => by simp only [D.fz]
  | .n o k ch, h => by
    simp only [D.isFz, Bool.and_eq_true, Bool.not_eq_true'] at h
    simp only [D.fz, h.1, fzL_of h.2]
theorem fzL_of : ∀ {ds : List D}, isFzL ds = true → fzL ds = ds
  | [], _ => by simp only [fzL]
  | d :: ds, h => by
    simp only [isFzL, Bool.and_eq_true] at h
    simp only [fzL, fz_of h.1, fzL_of h.2]
end
mutual
theorem isFz_fz : ∀ d : D, d.fz.isFz = true
  | .p _ => by simp only [D.fz, D.isFz]
  | .n o k ch => by simp only [D.fz, D.isFz, isFzL_fz ch, Bool.not_false, Bool.and_self]
theorem isFzL_fz : ∀ ds : List D, isFzL (fzL ds) = true
  | [] => by simp only [fzL, isFzL]
  | d :: ds => by simp only [fzL, isFzL, isFz_fz d, isFzL_fz ds, Bool.and_self]
end
section
variable {K : PySem.W.Frag} {G H : Hp}
mutual
theorem Rp.foot0 : ∀ {v : V} (d : D) {F : List Addr}, Rp K G H v d F → d.isFz = true → F = []
  | _, .p v, _, h, _ => by
    cases h
    rfl
  | _, .n ow k ch, _, h, z => by
    simp only [D.isFz, Bool.and_eq_true, Bool.not_eq_true'] at z
    cases h with
    | f h1 h2 => exact RpL.foot0 ch h2 z.2
    | o h0 h1 h3 h2 => cases z.1
theorem RpL.foot0 : ∀ {vs : List V} (ds : List D) {F : List Addr}, RpL K G H vs ds F → isFzL ds = true → F = []
  | _, [], _, h, _ => by
    cases h
    rfl
  | _, d :: ds, _, h, z => by
    simp only [isFzL, Bool.and_eq_true] at z
    cases h with
    | cons h1 h2 h3 => rw [Rp.foot0 d h1 z.1, RpL.foot0 ds h2 z.2]; rfl
end
theorem RpL.app : ∀ {vs ws : List V} {ds es : List D} {F F' : List Addr}, RpL K G H vs ds F → RpL K G H ws es F' → (∀ a ∈ F, a ∉ F') → RpL K G H (vs ++ ws) (ds ++ es) (F ++ F')
  | _, _, [], es, _, _, h, h', _ => by
    cases h
    exact h'
  | _, _, d :: ds, es, _, _, h, h', e => by
    cases h with
    | cons h1 h2 h3 =>
      rw [List.cons_append, List.cons_append, List.append_assoc]
      refine RpL.cons h1 (RpL.app h2 h' fun a ha => e a (List.mem_append_right _ ha)) fun a ha hn => ?_
      rcases List.mem_append.mp hn with hn | hn
      · exact h3 a ha hn
      · exact e a (List.mem_append_left _ ha) hn
theorem RpL.one {v : V} {d : D} {F : List Addr} (h : Rp K G H v d F) : RpL K G H [v] [d] F := by
  have := RpL.cons h RpL.nil (F' := []) (fun _ _ z => by cases z)
  simpa using this
end

/-! ### taking a handle's value -/
def killB (i : Nat) : Env → Env
  | [] => []
  | .b j q :: r => (if j = i then Sl.un else Sl.b j q) :: killB i r
  | s :: r => s :: killB i r
theorem killB_len (i : Nat) : ∀ ρ : Env, (killB i ρ).length = ρ.length
  | [] => rfl
  | .un :: r => by simp only [killB, List.length_cons, killB_len i r]
  | .v _ :: r => by simp only [killB, List.length_cons, killB_len i r]
  | .w _ :: r => by simp only [killB, List.length_cons, killB_len i r]
  | .b _ _ :: r => by simp only [killB, List.length_cons, killB_len i r]
theorem killB_get (i : Nat) : ∀ (ρ : Env) (k : Nat), (killB i ρ)[k]? = (ρ[k]?).map fun s => match s with
    | .b j q => if j = i then Sl.un else Sl.b j q
    | s => s
  | [], k => by simp [killB]
  | s :: r, 0 => by cases s <;> simp [killB]
  | s :: r, k + 1 => by
    have ih := killB_get i r k
    cases s <;> simpa [killB] using ih
theorem killB_of {i j : Nat} {s : Sl} {ρ : Env} (h : (killB i ρ)[j]? = some s) (hn : s ≠ .un) : ρ[j]? = some s ∧ ∀ q, s ≠ .b i q := by
  rw [killB_get] at h
  cases e : ρ[j]? with
  | none => rw [e] at h; cases h
  | some s' =>
    rw [e] at h
    simp only [Option.map_some, Option.some.injEq] at h
    cases s' with
    | un => subst h; exact ⟨rfl, fun q z => by cases z⟩
    | v _ => subst h; exact ⟨rfl, fun q z => by cases z⟩
    | w _ => subst h; exact ⟨rfl, fun q z => by cases z⟩
    | b k q =>
      simp only at h
      split at h
      · exact absurd h.symm hn
      · rename_i hk
        subst h
        exact ⟨rfl, fun q' z => by cases z; exact hk rfl⟩
/-- a value read as a part of another one, handed on, kept: no more held alone -/
def tk (ρ : Env) : Rv → Option (D × Env)
  | .t d => some (d, ρ)
  | .s i => match slD ρ i with
    | some d => if d.isFz = true then some (d, ρ) else match ρ[i]? with
      | some (.v d) => some (d.fz, (killB i ρ).set i (.v d.fz))
      | _ => none
    | none => none
/-- a name stored -/
def stV (ρ : Env) (i : Nat) (d : D) : Option Env := match ρ[i]? with
  | some (.w _) => none
  | some _ => some ((killB i ρ).set i (.v d))
  | none => none
def updF (fp : Fps) (i : Nat) (F : List Addr) : Fps := fun j => if j = i then F else fp j
theorem updF_same {fp : Fps} {i : Nat} {F : List Addr} : updF fp i F i = F := if_pos rfl
theorem updF_ne {fp : Fps} {i j : Nat} {F : List Addr} (h : j ≠ i) : updF fp i F j = fp j := if_neg h
section
variable {K : PySem.W.Frag} {pv : Nat → V} {σ γ : St} {ρ : Env} {G H G' H' : Hp} {fp : Fps} {F : List Addr}
/-- a slot's value frozen -/
theorem Mt.frz {i : Nat} {d : D} (m : Mt K pv σ ρ G H fp) (hi : ρ[i]? = some (Sl.v d)) : Mt K pv σ ((killB i ρ).set i (.v d.fz)) (frzH G H (fp i)) H (updF fp i []) := by
  have hl : i < ρ.length := (List.getElem?_eq_some_iff.mp hi).1
  have hl' : i < (killB i ρ).length := by rw [killB_len]; exact hl
  have hs : Sub G (frzH G H (fp i)) := sub_frzH fun a ha => (m.ft i a ha).1
  have key : ∀ j, j ≠ i → ∀ {x : V} {d : D}, Rp K G H x d (fp j) → Rp K (frzH G H (fp i)) H x d (updF fp i [] j) := fun j hj x d r => by
    rw [updF_ne hj]
    exact r.mov hs _ fun a ha o hg ho => ⟨by rw [frzH_out (m.ap j i hj a ha)]; exact hg, ho⟩
  have gk : ∀ {j : Nat} {s : Sl}, j ≠ i → ((killB i ρ).set i (.v d.fz))[j]? = some s → s ≠ .un → ρ[j]? = some s ∧ ∀ q, s ≠ .b i q := fun {j s} hj h hn => by
    rw [List.getElem?_set_ne (Ne.symm hj)] at h
    exact killB_of h hn
  refine ⟨frzH_sub m.sub, by rw [List.length_set, killB_len]; exact m.len, fun j d' h => ?_, fun j d' h => ?_, fun j k q h => ?_, fun j k hjk a ha => ?_, fun j a ha => ?_⟩
  · by_cases hj : j = i
    · subst hj
      rw [List.getElem?_set_self hl'] at h
      cases h
      obtain ⟨x, h1, h2⟩ := m.sl j d hi
      refine ⟨x, h1, ?_⟩
      rw [updF_same]
      exact h2.froz hs _ fun a ha => frzH_in ha
    · obtain ⟨x, h1, h2⟩ := m.sl j d' (gk hj h (by intro z; cases z)).1
      exact ⟨x, h1, key j hj h2⟩
  · by_cases hj : j = i
    · subst hj
      rw [List.getElem?_set_self hl'] at h
      cases h
    · obtain ⟨h1, h2⟩ := m.pn j d' (gk hj h (by intro z; cases z)).1
      exact ⟨h1, key j hj h2⟩
  · by_cases hj : j = i
    · subst hj
      rw [List.getElem?_set_self hl'] at h
      cases h
    · obtain ⟨g1, g2⟩ := gk hj h (by intro z; cases z)
      obtain ⟨x, y, h1, h2, h3⟩ := m.br j k q g1
      have hk : k ≠ i := fun z => g2 q (by rw [z])
      exact ⟨x, y, h1, h2, by rw [updF_ne hk]; exact h3⟩
  · by_cases hj : j = i
    · subst hj; rw [updF_same] at ha; cases ha
    · rw [updF_ne hj] at ha
      by_cases hk : k = i
      · subst hk; rw [updF_same]; simp
      · rw [updF_ne hk]; exact m.ap j k hjk a ha
  · by_cases hj : j = i
    · subst hj; rw [updF_same] at ha; cases ha
    · rw [updF_ne hj] at ha
      exact ⟨by rw [frzH_out (m.ap j i hj a ha)]; exact (m.ft j a ha).1, (m.ft j a ha).2⟩
/-- a slot's value moved out -/
theorem Mt.out {i : Nat} {d : D} (m : Mt K pv σ ρ G H fp) (hi : ρ[i]? = some (Sl.v d)) : Mt K pv σ ((killB i ρ).set i .un) G H (updF fp i []) := by
  have hl : i < ρ.length := (List.getElem?_eq_some_iff.mp hi).1
  have hl' : i < (killB i ρ).length := by rw [killB_len]; exact hl
  have gk : ∀ {j : Nat} {s : Sl}, j ≠ i → ((killB i ρ).set i .un)[j]? = some s → s ≠ .un → ρ[j]? = some s ∧ ∀ q, s ≠ .b i q := fun {j s} hj h hn => by
    rw [List.getElem?_set_ne (Ne.symm hj)] at h
    exact killB_of h hn
  refine ⟨m.sub, by rw [List.length_set, killB_len]; exact m.len, fun j d' h => ?_, fun j d' h => ?_, fun j k q h => ?_, fun j k hjk a ha => ?_, fun j a ha => ?_⟩
  · by_cases hj : j = i
    · subst hj; rw [List.getElem?_set_self hl'] at h; cases h
    · rw [updF_ne hj]
      exact m.sl j d' (gk hj h (by intro z; cases z)).1
  · by_cases hj : j = i
    · subst hj; rw [List.getElem?_set_self hl'] at h; cases h
    · rw [updF_ne hj]
      exact m.pn j d' (gk hj h (by intro z; cases z)).1
  · by_cases hj : j = i
    · subst hj; rw [List.getElem?_set_self hl'] at h; cases h
    · obtain ⟨g1, g2⟩ := gk hj h (by intro z; cases z)
      obtain ⟨x, y, h1, h2, h3⟩ := m.br j k q g1
      have hk : k ≠ i := fun z => g2 q (by rw [z])
      exact ⟨x, y, h1, h2, by rw [updF_ne hk]; exact h3⟩
  · by_cases hj : j = i
    · subst hj; rw [updF_same] at ha; cases ha
    · rw [updF_ne hj] at ha
      by_cases hk : k = i
      · subst hk; rw [updF_same]; simp
      · rw [updF_ne hk]; exact m.ap j k hjk a ha
  · by_cases hj : j = i
    · subst hj; rw [updF_same] at ha; cases ha
    · rw [updF_ne hj] at ha
      exact m.ft j a ha
theorem InF.updF {fp : Fps} {i : Nat} {F : List Addr} {a : Addr} (h : InF (DL.updF fp i F) a) : InF fp a ∨ a ∈ F := by
  obtain ⟨j, hj⟩ := h
  by_cases e : j = i
  · subst e; rw [updF_same] at hj; exact .inr hj
  · rw [updF_ne e] at hj; exact .inl ⟨j, hj⟩
/-- a value put in a slot -/
theorem Mt.put {i : Nat} {d : D} {ρ' : Env} {x : V} (m : Mt K pv σ ρ G H fp) (hst : stV ρ i d = some ρ') (r : Rp K G H x d F) (hd : ∀ a ∈ F, ¬ InF fp a) : Mt K pv (σ.set i (some x)) ρ' G H (updF fp i F) := by
  have hl : i < ρ.length := by
    unfold stV at hst
    cases e : ρ[i]? with
    | none => rw [e] at hst; cases hst
    | some s => exact (List.getElem?_eq_some_iff.mp e).1
  have e' : ρ' = (killB i ρ).set i (.v d) := by
    unfold stV at hst
    split at hst
    · cases hst
    · cases hst; rfl
    · cases hst
  have hl' : i < (killB i ρ).length := by rw [killB_len]; exact hl
  have hlσ : i < σ.length := by rw [← m.len]; exact hl
  have gk : ∀ {j : Nat} {s : Sl}, j ≠ i → ρ'[j]? = some s → s ≠ .un → ρ[j]? = some s ∧ ∀ q, s ≠ .b i q := fun {j s} hj h hn => by
    rw [e', List.getElem?_set_ne (Ne.symm hj)] at h
    exact killB_of h hn
  refine ⟨m.sub, by rw [e', List.length_set, killB_len, List.length_set]; exact m.len, fun j d' h => ?_, fun j d' h => ?_, fun j k q h => ?_, fun j k hjk a ha => ?_, fun j a ha => ?_⟩
  · by_cases hj : j = i
    · subst hj
      rw [e', List.getElem?_set_self hl'] at h
      cases h
      exact ⟨x, by rw [List.getElem?_set_self hlσ], by rw [updF_same]; exact r⟩
    · rw [updF_ne hj, List.getElem?_set_ne (Ne.symm hj)]
      exact m.sl j d' (gk hj h (by intro z; cases z)).1
  · by_cases hj : j = i
    · subst hj
      rw [e', List.getElem?_set_self hl'] at h
      cases h
    · rw [updF_ne hj, List.getElem?_set_ne (Ne.symm hj)]
      exact m.pn j d' (gk hj h (by intro z; cases z)).1
  · by_cases hj : j = i
    · subst hj
      rw [e', List.getElem?_set_self hl'] at h
      cases h
    · obtain ⟨g1, g2⟩ := gk hj h (by intro z; cases z)
      obtain ⟨x', y, h1, h2, h3⟩ := m.br j k q g1
      have hk : k ≠ i := fun z => g2 q (by rw [z])
      exact ⟨x', y, by rw [List.getElem?_set_ne (Ne.symm hk)]; exact h1, by rw [List.getElem?_set_ne (Ne.symm hj)]; exact h2, by rw [updF_ne hk]; exact h3⟩
  · by_cases hj : j = i
    · subst hj
      rw [updF_same] at ha
      rw [updF_ne (Ne.symm hjk)]
      exact fun z => hd a ha ⟨k, z⟩
    · rw [updF_ne hj] at ha
      by_cases hk : k = i
      · subst hk; rw [updF_same]; exact fun z => hd a z ⟨j, ha⟩
      · rw [updF_ne hk]; exact m.ap j k hjk a ha
  · by_cases hj : j = i
    · subst hj; rw [updF_same] at ha; exact Rp.foot _ r a ha
    · rw [updF_ne hj] at ha
      exact m.ft j a ha
/-- taking: the shared part may grow -/
theorem tk_ok {r : Rv} {v : V} {d : D} {ρ' : Env} {P : Addr → Prop} (m : Mt K pv σ ρ G H fp) (o : RvOk K σ G H P v r F) (hP : ∀ a, InF fp a → P a) (e : tk ρ r = some (d, ρ')) :
    ∃ G' fp', Stp G H (InF fp) G' H (InF fp') ∧ Mt K pv σ ρ' G' H fp' ∧ Rp K G' H v d F ∧ (∀ a, InF fp' a → InF fp a) := by
  cases r with
  | t d' =>
    cases e
    exact ⟨G, fp, Stp.refl _ _ _, m, o.1, fun _ z => z⟩
  | s i =>
    obtain ⟨o1, o2⟩ := o
    subst o2
    unfold tk at e
    simp only at e
    cases es : slD ρ i with
    | none => rw [es] at e; cases e
    | some d0 =>
      rw [es] at e
      simp only at e
      obtain ⟨v', F0, h1, h2, h3⟩ := sl_ok m es
      rw [o1] at h1; cases h1
      split at e
      · rename_i hz
        cases e
        have := Rp.foot0 _ h2 hz
        subst this
        exact ⟨G, fp, Stp.refl _ _ _, m, h2, fun _ z => z⟩
      · split at e
        · rename_i d1 hi
          cases e
          obtain ⟨x, g1, g2⟩ := m.sl i d1 hi
          rw [o1] at g1; cases g1
          refine ⟨frzH G H (fp i), updF fp i [], ?_, m.frz hi, g2.froz (sub_frzH fun a ha => (m.ft i a ha).1) _ fun a ha => frzH_in ha, fun a z => ?_⟩
          · refine (Stp.frz (P := InF fp) (fun a ha => (m.ft i a ha).1) fun a ha => ⟨i, ha⟩).mono (fun _ z => z) fun a z => .inr ?_
            rcases InF.updF z with z | z
            · exact z
            · cases z
          · rcases InF.updF z with z | z
            · exact z
            · cases z
        · cases e
end
end DL
/-! DL4: rules for expressions and tests. -/
namespace DL
open PySem L2

section
variable {K : PySem.W.Frag} {cn : String → Addr} {pv : Nat → V} {σ γ : St} {n : Nat} {ρ : Env} {G H G' H' G2 H2 G3 H3 : Hp} {fp fp' fp2 : Fps} {F : List Addr} {E : WX}
/-- behind a step that only makes new things -/
theorem fin_new {P P2 P3 : Addr → Prop} (m : Mt K pv σ ρ G2 H2 fp2) (s : Stp G H P G2 H2 P2) (h2 : ∀ a, InF fp2 a → P2 a) (s3 : Stp G2 H2 (fun _ => False) G3 H3 P3) (hs : Sub G3 H3) :
    Stp G H P G3 H3 (fun a => InF fp2 a ∨ P3 a) ∧ Mt K pv σ ρ G3 H3 fp2 ∧ ∀ a, P3 a → ¬ InF fp2 a := by
  refine ⟨s.trans (s3.mono (fun _ z => z.elim) fun x z => z.elim (fun z => .inr (h2 x z)) .inl), m.step s3 hs, fun a z q => ?_⟩
  rcases s3.f a z with y | y
  · exact y
  · obtain ⟨j, hj⟩ := q
    obtain ⟨_, o, ho⟩ := m.ft j a hj
    rw [y] at ho; cases ho
end

/-- a two-place operation on deep values -/
abbrev Op2 := D → D → (D → Prop) → Prop
def Fin (K : PySem.W.Frag) (G H : Hp) (Q0 : D → Prop) (Q : VK) : Prop := ∀ z w G' H' F, Q0 z → Stp G H (fun _ => False) G' H' (fun a => a ∈ F) → Sub G' H' → Rp K G' H' w z F → Q w H'
def Sem2 (K : PySem.W.Frag) (rr : R2) (r : Op2) : Prop := ∀ G H v u d e F1 F2 Q0 Q, Sub G H → Rp K G H v d F1 → Rp K G H u e F2 → r d e Q0 → Fin K G H Q0 Q → rr v u H Q
def Sem1 (K : PySem.W.Frag) (rr : V → Hp → VK → Prop) (r : D → (D → Prop) → Prop) : Prop := ∀ G H v d F1 Q0 Q, Sub G H → Rp K G H v d F1 → r d Q0 → Fin K G H Q0 Q → rr v H Q
/-- each for itself -/
abbrev Rps (K : PySem.W.Frag) (G H : Hp) : List V → List D → Prop := Paired fun v d => ∃ F, Rp K G H v d F
def SemL (K : PySem.W.Frag) (rr : List V → Hp → VK → Prop) (r : List D → (D → Prop) → Prop) : Prop := ∀ G H vs ds Q0 Q, Sub G H → Rps K G H vs ds → r ds Q0 → Fin K G H Q0 Q → rr vs H Q

def dOp (r : Op2) (ta tb : DE) : DE := fun ρ Q E => ta ρ (fun x ρ1 => tb ρ1 (fun y ρ2 => ∃ d e, look ρ2 x = some d ∧ look ρ2 y = some e ∧ r d e fun z => Q (.t z) ρ2) E) E
def dUn (r : D → (D → Prop) → Prop) (ta : DE) : DE := fun ρ Q E => ta ρ (fun x ρ1 => ∃ d, look ρ1 x = some d ∧ r d fun z => Q (.t z) ρ1) E
def dTst (ta : DE) : DT := fun ρ Q E => ta ρ (fun x ρ1 => ∃ b, look ρ1 x = some (.p (.bl b)) ∧ Q b ρ1) E
def dAnd (t u : DT) : DT := fun ρ Q E => t ρ (fun b ρ1 => if b = true then u ρ1 Q E else Q false ρ1) E
def dOr (t u : DT) : DT := fun ρ Q E => t ρ (fun b ρ1 => if b = true then Q true ρ1 else u ρ1 Q E) E
def dNot (t : DT) : DT := fun ρ Q E => t ρ (fun b ρ1 => Q (!b) ρ1) E
def dAndV (ta tb : DE) : DE := fun ρ Q E => ta ρ (fun x ρ1 => ∃ b, look ρ1 x = some (.p (.bl b)) ∧ if b = true then tb ρ1 Q E else Q (.t (.p (.bl false))) ρ1) E
def dOrV (ta tb : DE) : DE := fun ρ Q E => ta ρ (fun x ρ1 => ∃ b, look ρ1 x = some (.p (.bl b)) ∧ if b = true then Q (.t (.p (.bl true))) ρ1 else tb ρ1 Q E) E
def dNotV (ta : DE) : DE := fun ρ Q E => ta ρ (fun x ρ1 => ∃ b, look ρ1 x = some (.p (.bl b)) ∧ Q (.t (.p (.bl (!b)))) ρ1) E
def dIf (t : DT) (ta tb : DE) : DE := fun ρ Q E => t ρ (fun b ρ1 => if b = true then ta ρ1 Q E else tb ρ1 Q E) E
def dMv (i : Nat) : DE := fun ρ Q _ => ∃ d, ρ[i]? = some (.v d) ∧ Q (.t d) ((killB i ρ).set i .un)
/-- x < y < z -/
def dChain (r r' : Op2) (ta tb tc : DE) : DE := fun ρ Q E => ta ρ (fun x ρ1 => tb ρ1 (fun y ρ2 => ∃ d e, look ρ2 x = some d ∧ look ρ2 y = some e ∧ r d e fun z => ∃ b, z = .p (.bl b) ∧
  if b = true then tc ρ2 (fun y' ρ3 => ∃ e' e'', look ρ3 y = some e' ∧ look ρ3 y' = some e'' ∧ r' e' e'' fun z => Q (.t z) ρ3) E else Q (.t (.p (.bl false))) ρ2) E) E

section
variable {X : Cx} {cn : String → Addr} {E : WX} {a b c : Expr} {pos : Pos} {ta tb tc : DE} {t u : DT}
/-- a handle's value, as a value of its own, where it is a plain one -/
theorem look_p {K : PySem.W.Frag} {pv : Nat → V} {σ : St} {ρ : Env} {G H : Hp} {fp : Fps} {P : Addr → Prop} {v x : V} {r : Rv} {F : List Addr} (m : Mt K pv σ ρ G H fp) (o : RvOk K σ G H P v r F) (e : look ρ r = some (.p x)) : v = x := by
  obtain ⟨F0, h, _⟩ := look_ok m o e
  cases h
  rfl
theorem opE {rr : R2} {r : Op2} (hs : Sem2 X.K rr r) (σ : St) (H : Hp) (Q : VK) : liftE X.K cn E (dOp r ta tb) σ H Q → tOp rr (liftE X.K cn E ta) (liftE X.K cn E tb) σ H Q := by
  rintro ⟨pv, γ, ρ, G, fp, Q0, E0, m, q, po, px⟩
  refine ⟨pv, γ, ρ, G, fp, _, E0, m, q, fun x ρ1 v G1 H1 fp1 F1 q1 s1 m1 o1 => ?_, px⟩
  refine ⟨pv, γ, ρ1, G1, fp1, _, E0, m1, q1, fun y ρ2 w G2 H2 fp2 F2 q2 s2 m2 o2 => ?_, px.on s1⟩
  obtain ⟨d, e, l1, l2, q2⟩ := q2
  obtain ⟨A, rA, _⟩ := look_ok m2 (o1.frame s2) l1
  obtain ⟨B, rB, _⟩ := look_ok m2 o2 l2
  refine hs G2 H2 v w d e A B _ Q m2.sub rA rB q2 fun z w' G3 H3 Fz qz s3 hs3 rz => ?_
  obtain ⟨f1, f2, f3⟩ := fin_new m2 (s1.seq (fun _ z => .inl z) s2 fun _ z => .inl z) (fun a z => .inl z) s3 hs3
  exact po (.t z) ρ2 w' G3 H3 fp2 Fz qz f1 f2 ⟨rz, f3⟩
theorem je_op {op : Operator} {rr : R2} {r : Op2} (ho : OpR X (binaryOp op) rr) (hs : Sem2 X.K rr r) (ha : JE X cn E a ta) (hb : JE X cn E b tb) : JE X cn E (.BinOp a op b pos) (dOp r ta tb) :=
  pe_imp (pe_op ho ha hb) (opE hs)
theorem je_cmp {op : CmpOp} {rr : R2} {r : Op2} (ho : OpR X (compareOp op) rr) (hs : Sem2 X.K rr r) (ha : JE X cn E a ta) (hb : JE X cn E b tb) (hm : behindInMarks op b = false) : JE X cn E (.Compare a [op] [b] pos) (dOp r ta tb) :=
  pe_imp (pe_cmpR ho ha hb hm) (opE hs)
theorem drop0 {fp : Fps} {P : Addr → Prop} {G H G' H' : Hp} {F : List Addr} (s : Stp G H P G' H' (fun a => InF fp a ∨ a ∈ F)) : Stp G H P G' H' (InF fp) := s.mono (fun _ z => z) fun _ z => .inl (.inl z)
theorem tstE {tt : DE} (σ : St) (H : Hp) (Q : Bool → Hp → Prop) : liftT X.K cn E (dTst tt) σ H Q → liftE X.K cn E tt σ H (fun x H1 => ∃ k, x = .bl k ∧ Q k H1) := by
  rintro ⟨pv, γ, ρ, G, fp, Q0, E0, m, q, po, px⟩
  refine ⟨pv, γ, ρ, G, fp, _, E0, m, q, fun x ρ1 v G1 H1 fp1 F1 ⟨b, l1, q1⟩ s1 m1 o1 => ?_, px⟩
  exact ⟨b, look_p m1 o1 l1, po b ρ1 G1 H1 fp1 q1 (drop0 s1) m1⟩
theorem jt_cmp {op : CmpOp} {rr : R2} {r : Op2} (ho : OpR X (compareOp op) rr) (hs : Sem2 X.K rr r) (ha : JE X cn E a ta) (hb : JE X cn E b tb) (hm : behindInMarks op b = false) : JT X cn E (.Compare a [op] [b] pos) (dTst (dOp r ta tb)) := by
  refine pt_imp (pt_cmpR ho ha hb hm) fun σ H Q h => ?_
  have := tstE σ H Q h
  exact opE hs σ H _ this
theorem jt_val (h : JE X cn E a ta) (he : ∀ whole, isTrue a X.env whole = (do let v ← whole; standAt a.pos; holding [v] (truthy v)) := by intro _; rfl) : JT X cn E a (dTst ta) :=
  pt_imp (pt_val h he) fun σ H Q h => tstE σ H Q h
theorem jw_and1 (h : JT X cn E a t) : JW X cn E (.BoolOp .And [a] pos) t := pw_and1 h
theorem jw_or1 (h : JT X cn E a t) : JW X cn E (.BoolOp .Or [a] pos) t := pw_or1 h
theorem jw_and {rest : List Expr} (ha : JT X cn E a t) (hb : JW X cn E (.BoolOp .And (b :: rest) pos) u) : JW X cn E (.BoolOp .And (a :: b :: rest) pos) (dAnd t u) :=
  pw_imp (pw_and ha hb) fun σ H Q ⟨pv, γ, ρ, G, fp, Q0, E0, m, q, po, px⟩ => ⟨pv, γ, ρ, G, fp, _, E0, m, q, fun b ρ1 G1 H1 fp1 q1 s1 m1 => by
    cases b with
    | true => exact ⟨pv, γ, ρ1, G1, fp1, Q0, E0, m1, q1, fun b2 ρ2 G2 H2 fp2 q2 s2 m2 => po b2 ρ2 G2 H2 fp2 q2 (s1.trans s2) m2, px.on0 s1⟩
    | false => exact po false ρ1 G1 H1 fp1 q1 s1 m1, px⟩
theorem jw_or {rest : List Expr} (ha : JT X cn E a t) (hb : JW X cn E (.BoolOp .Or (b :: rest) pos) u) : JW X cn E (.BoolOp .Or (a :: b :: rest) pos) (dOr t u) :=
  pw_imp (pw_or ha hb) fun σ H Q ⟨pv, γ, ρ, G, fp, Q0, E0, m, q, po, px⟩ => ⟨pv, γ, ρ, G, fp, _, E0, m, q, fun b ρ1 G1 H1 fp1 q1 s1 m1 => by
    cases b with
    | false => exact ⟨pv, γ, ρ1, G1, fp1, Q0, E0, m1, q1, fun b2 ρ2 G2 H2 fp2 q2 s2 m2 => po b2 ρ2 G2 H2 fp2 q2 (s1.trans s2) m2, px.on0 s1⟩
    | true => exact po true ρ1 G1 H1 fp1 q1 s1 m1, px⟩
theorem jw_t (h : JW X cn E a t) : JT X cn E a t := PW.pt h
theorem jt_not (h : JT X cn E a t) : JT X cn E (.UnaryOp .Not a pos) (dNot t) :=
  pt_imp (pt_not h) fun σ H Q ⟨pv, γ, ρ, G, fp, Q0, E0, m, q, po, px⟩ => ⟨pv, γ, ρ, G, fp, _, E0, m, q, fun b ρ1 G1 H1 fp1 q1 s1 m1 => po (!b) ρ1 G1 H1 fp1 q1 s1 m1, px⟩
theorem po_bl {K : PySem.W.Frag} {pv : Nat → V} {σ γ : St} {G H G1 H1 : Hp} {fp fp1 : Fps} {F1 : List Addr} {Q0 : Rv → Env → Prop} {Q : VK} {b : Bool} {ρ1 : Env} (po : PoE K pv σ γ G H fp Q0 Q) (q : Q0 (.t (.p (.bl b))) ρ1) (s1 : Stp G H (InF fp) G1 H1 (fun a => InF fp1 a ∨ a ∈ F1)) (m1 : Mt K pv (σ ++ γ) ρ1 G1 H1 fp1) : Q (.bl b) H1 :=
  po _ _ _ G1 H1 fp1 [] q (s1.mono (fun _ z => z) fun a z => by
    rcases z with z | z
    · exact .inl (.inl z)
    · cases z) m1 ⟨Rp.p _, fun a z => by cases z⟩
theorem je_and {rest : List Expr} (ha : JE X cn E a ta) (hb : JE X cn E (.BoolOp .And (b :: rest) pos) tb) : JE X cn E (.BoolOp .And (a :: b :: rest) pos) (dAndV ta tb) :=
  pe_imp (pe_and ha hb) fun σ H Q ⟨pv, γ, ρ, G, fp, Q0, E0, m, q, po, px⟩ => ⟨pv, γ, ρ, G, fp, _, E0, m, q, fun x ρ1 v G1 H1 fp1 F1 ⟨b, l1, q1⟩ s1 m1 o1 => ⟨b, look_p m1 o1 l1, by
    cases b with
    | true => exact ⟨pv, γ, ρ1, G1, fp1, Q0, E0, m1, q1, fun r2 ρ2 v2 G2 H2 fp2 F2 q2 s2 m2 o2 => po r2 ρ2 v2 G2 H2 fp2 F2 q2 ((drop0 s1).trans s2) m2 o2, px.on s1⟩
    | false => exact po_bl po q1 s1 m1⟩, px⟩
theorem je_one {op} (h : JE X cn E a ta) : JE X cn E (.BoolOp op [a] pos) ta := pe_one h
theorem je_not (h : JE X cn E a ta) : JE X cn E (.UnaryOp .Not a pos) (dNotV ta) :=
  pe_imp (pe_not h) fun σ H Q ⟨pv, γ, ρ, G, fp, Q0, E0, m, q, po, px⟩ => ⟨pv, γ, ρ, G, fp, _, E0, m, q, fun x ρ1 v G1 H1 fp1 F1 ⟨b, l1, q1⟩ s1 m1 o1 => ⟨b, look_p m1 o1 l1, po_bl po q1 s1 m1⟩, px⟩
theorem je_if (hc : JT X cn E c t) (ha : JE X cn E a ta) (hb : JE X cn E b tb) : JE X cn E (.IfExp c a b pos) (dIf t ta tb) :=
  pe_imp (pe_ifExp hc ha hb) fun σ H Q ⟨pv, γ, ρ, G, fp, Q0, E0, m, q, po, px⟩ => ⟨pv, γ, ρ, G, fp, _, E0, m, q, fun k ρ1 G1 H1 fp1 q1 s1 m1 => by
    cases k with
    | true => exact ⟨pv, γ, ρ1, G1, fp1, Q0, E0, m1, q1, fun r2 ρ2 v2 G2 H2 fp2 F2 q2 s2 m2 o2 => po r2 ρ2 v2 G2 H2 fp2 F2 q2 (s1.trans s2) m2 o2, px.on0 s1⟩
    | false => exact ⟨pv, γ, ρ1, G1, fp1, Q0, E0, m1, q1, fun r2 ρ2 v2 G2 H2 fp2 F2 q2 s2 m2 o2 => po r2 ρ2 v2 G2 H2 fp2 F2 q2 (s1.trans s2) m2 o2, px.on0 s1⟩, px⟩
theorem je_mv {i : Nat} (hi : i < X.N.length) (h : PE X a (tVar i)) : JE X cn E a (dMv i) := ⟨fun pins sh σ H Q I ⟨pv, γ, ρ, G, fp, Q0, E0, m, ⟨d, hd, q⟩, po, _⟩ => by
  obtain ⟨v, h1, h2⟩ := m.sl i d hd
  have hl : i < σ.length := by rw [I.len]; exact hi
  have s : Stp G H (InF fp) G H (fun a => InF (updF fp i []) a ∨ a ∈ fp i) := (Stp.refl _ _ _).mono (fun _ z => z) fun x z => .inl (by
    rcases z with z | z
    · rcases InF.updF z with z | z
      · exact z
      · cases z
    · exact ⟨i, z⟩)
  refine h.run pins sh σ H Q I ⟨v, get_left hl h1, po (.t d) _ v G H _ (fp i) q s (m.out hd) ⟨h2, fun a ha z => ?_⟩⟩
  obtain ⟨j, hj⟩ := z
  by_cases e : j = i
  · subst e; rw [updF_same] at hj; cases hj
  · rw [updF_ne e] at hj
    exact m.ap j i e a hj ha⟩
end
end DL
/-! DL5: arguments, calls of built-ins, displays, small statements. -/
namespace DL
open PySem L2

def dNil : DA := fun ρ Q _ => Q [] ρ
def dCons (ta : DE) (tr : DA) : DA := fun ρ Q E => ta ρ (fun x ρ1 => tr ρ1 (fun xs ρ2 => Q (x :: xs) ρ2) E) E
def lookL (ρ : Env) : List Rv → Option (List D)
  | [] => some []
  | r :: rs => match look ρ r, lookL ρ rs with
    | some d, some ds => some (d :: ds)
    | _, _ => none
/-- all taken, from the left -/
def tkL (ρ : Env) : List Rv → Option (List D × Env)
  | [] => some ([], ρ)
  | r :: rs => match tk ρ r with
    | some (d, ρ1) => match tkL ρ1 rs with
      | some (ds, ρ2) => some (d :: ds, ρ2)
      | none => none
    | none => none
def dCB (r : List D → (D → Prop) → Prop) (t : DA) : DE := fun ρ Q E => t ρ (fun rs ρ1 => ∃ ds, lookL ρ1 rs = some ds ∧ r ds fun z => Q (.t z) ρ1) E
def dLst (t : DA) : DE := fun ρ Q E => t ρ (fun rs ρ1 => ∃ ds ρ2, tkL ρ1 rs = some (ds, ρ2) ∧ ds.length ≤ 100000 ∧ Q (.t (.n true .lst ds)) ρ2) E
def dTup (t : DA) : DE := fun ρ Q E => t ρ (fun rs ρ1 => ∃ ds ρ2, tkL ρ1 rs = some (ds, ρ2) ∧ ds.length ≤ 100000 ∧ Q (.t (.n false .tup ds)) ρ2) E

section
variable {K : PySem.W.Frag} {cn : String → Addr} {pv : Nat → V} {σ γ : St} {n : Nat} {ρ : Env} {G H G' H' G2 H2 G3 H3 : Hp} {fp fp' fp2 : Fps} {E : WX}
theorem RvOk.weak {P P' : Addr → Prop} {v : V} {r : Rv} {F : List Addr} (o : RvOk K σ G H P v r F) (h : ∀ a, P' a → P a) : RvOk K σ G H P' v r F := by
  cases r with
  | t d => exact ⟨o.1, fun a ha z => o.2 a ha (h a z)⟩
  | s i => exact o
theorem RvOk.add {P : Addr → Prop} {v : V} {r : Rv} {F F1 : List Addr} (o : RvOk K σ G H P v r F) (h : ∀ a ∈ F1, a ∉ F) : RvOk K σ G H (fun a => P a ∨ a ∈ F1) v r F := by
  cases r with
  | t d => exact ⟨o.1, fun a ha z => z.elim (o.2 a ha) fun z => h a z ha⟩
  | s i => exact o
theorem RvOk.apart {P : Addr → Prop} {v : V} {r : Rv} {F : List Addr} (o : RvOk K σ G H P v r F) : ∀ a ∈ F, ¬ P a := by
  cases r with
  | t d => exact o.2
  | s i => obtain ⟨_, e⟩ := o; subst e; intro a ha; cases ha
theorem RvsOk.add : ∀ {rs : List Rv} {P P' : Addr → Prop} {vs : List V} {F : List Addr}, RvsOk K σ G H P vs rs F → (∀ a, P' a → P a ∨ a ∉ F) → RvsOk K σ G H P' vs rs F
  | [], _, _, _, _, .nil, _ => .nil
  | r :: rs, P, P', _, _, .cons (F := F0) (F' := F1) h t, e => by
    refine .cons ?_ (RvsOk.add t fun a q => ?_)
    · cases r with
      | t d => exact ⟨h.1, fun a ha z => by
          rcases e a z with y | y
          · exact h.2 a ha y
          · exact y (List.mem_append_left _ ha)⟩
      | s i => exact h
    · rcases q with q | q
      · rcases e a q with y | y
        · exact .inl (.inl y)
        · exact .inr fun z => y (List.mem_append_right _ z)
      · exact .inl (.inr q)
theorem RvsOk.foot : ∀ {rs : List Rv} {P : Addr → Prop} {vs : List V} {F : List Addr}, RvsOk K σ G H P vs rs F → ∀ a ∈ F, ¬ P a
  | [], _, _, _, .nil, _, z => by cases z
  | r :: rs, P, _, _, .cons (F := F0) (F' := F1) h t, a, z => by
    rcases List.mem_append.mp z with z | z
    · exact h.apart a z
    · exact fun q => RvsOk.foot t a z (.inl q)
theorem RvsOk.frame {G' H' : Hp} : ∀ {rs : List Rv} {P P' : Addr → Prop} {vs : List V} {F : List Addr}, RvsOk K σ G H P vs rs F → Stp G H P G' H' P' → RvsOk K σ G' H' P' vs rs F
  | [], _, _, _, _, .nil, _ => .nil
  | r :: rs, P, P', _, _, .cons (F := F0) (F' := F1) h t, s => by
    refine .cons (h.frame s) ?_
    have s' : Stp G H (fun a => P a ∨ a ∈ F0) G' H' (fun a => P' a ∨ a ∈ F0) := s.mono (fun _ z => .inl z) fun _ z => z.elim .inl fun z => .inr (.inr z)
    exact RvsOk.frame t s'
theorem lookL_ok (m : Mt K pv σ ρ G H fp) : ∀ {rs : List Rv} {P : Addr → Prop} {vs : List V} {F : List Addr} {ds : List D}, RvsOk K σ G H P vs rs F → lookL ρ rs = some ds → Rps K G H vs ds
  | [], _, _, _, ds, .nil, e => by
    simp only [lookL, Option.some.injEq] at e
    subst e
    exact .nil
  | r :: rs, P, _, _, ds, .cons h t, e => by
    simp only [lookL] at e
    split at e
    · rename_i d ds' e1 e2
      cases e
      obtain ⟨F0, h1, _⟩ := look_ok m h e1
      exact .cons ⟨F0, h1⟩ (lookL_ok m t e2)
    · cases e
/-- all taken -/
theorem tkL_ok : ∀ {rs : List Rv} {ρ ρ' : Env} {G : Hp} {fp : Fps} {P : Addr → Prop} {vs : List V} {F : List Addr} {ds : List D}, Mt K pv σ ρ G H fp → RvsOk K σ G H P vs rs F → (∀ a, InF fp a → P a) → tkL ρ rs = some (ds, ρ') →
    ∃ G' fp', Stp G H (InF fp) G' H (InF fp') ∧ Mt K pv σ ρ' G' H fp' ∧ RpL K G' H vs ds F ∧ ∀ a, InF fp' a → InF fp a
  | [], ρ, ρ', G, fp, P, _, _, ds, m, .nil, _, e => by
    simp only [tkL, Option.some.injEq, Prod.mk.injEq] at e
    obtain ⟨e1, e2⟩ := e
    subst e1 e2
    exact ⟨G, fp, Stp.refl _ _ _, m, .nil, fun _ z => z⟩
  | r :: rs, ρ, ρ', G, fp, P, _, _, ds, m, .cons (vs := vs1) (F := F0) (F' := F1) h t, hP, e => by
    simp only [tkL] at e
    split at e
    · rename_i d ρ1 e1
      split at e
      · rename_i ds' ρ2 e2
        cases e
        obtain ⟨G1, fp1, s1, m1, r1, i1⟩ := tk_ok m h hP e1
        have t1 : RvsOk K σ G1 H (fun a => InF fp1 a ∨ a ∈ F0) vs1 rs F1 := by
          have s1' : Stp G H (fun a => P a ∨ a ∈ F0) G1 H (fun a => InF fp1 a ∨ a ∈ F0) := s1.mono (fun a z => .inl (hP a z)) fun a z => z.elim .inl fun z => .inr (.inr z)
          exact t.frame s1'
        obtain ⟨G2, fp2, s2, m2, r2, i2⟩ := tkL_ok m1 t1 (fun a z => .inl z) e2
        have dis : ∀ a ∈ F0, ¬ InF fp1 a := fun a ha z => h.apart a ha (hP a (i1 a z))
        refine ⟨G2, fp2, s1.trans s2, m2, .cons (Rp.frame r1 s2 dis).1 r2 fun a ha hb => ?_, fun a z => i1 a (i2 a z)⟩
        exact RvsOk.foot t1 a hb (.inr ha)
      · cases e
    · cases e
end

section
variable {X : Cx} {cn : String → Addr} {E : WX} {e : Expr} {es : List Expr} {pos : Pos} {ta : DE} {t : DA}
theorem ja_nil : JA X cn E [] dNil := pa_imp pa_nil fun σ H Q ⟨pv, γ, ρ, G, fp, Q0, E0, m, q, po, px⟩ => po [] ρ [] G H fp [] q (stp0 G H fp) m .nil
theorem ja_cons (ha : JE X cn E e ta) (hr : JA X cn E es t) (hs : starEach (e :: es) X.env = (false, eval e X.env) :: starEach es X.env := by rfl) : JA X cn E (e :: es) (dCons ta t) := by
  refine pa_imp (pa_cons ha hr hs) ?_
  rintro σ H Q ⟨pv, γ, ρ, G, fp, Q0, E0, m, q, po, px⟩
  refine ⟨pv, γ, ρ, G, fp, _, E0, m, q, fun x ρ1 v G1 H1 fp1 F1 q1 s1 m1 o1 => ?_, px⟩
  refine ⟨pv, γ, ρ1, G1, fp1, _, E0, m1, q1, fun xs ρ2 vs G2 H2 fp2 F2 q2 s2 m2 o2 => ?_, px.on s1⟩
  have o1' := o1.frame s2
  refine po (x :: xs) ρ2 (v :: vs) G2 H2 fp2 (F1 ++ F2) q2 (s1.seq (fun _ z => .inl z) s2 fun a z => ?_) m2 (.cons (o1'.weak fun a z => .inl z) (o2.add fun a z => ?_))
  · rcases z with z | z
    · exact .inl (.inl z)
    · rcases List.mem_append.mp z with z | z
      · exact .inr (.inr z)
      · exact .inl (.inr z)
  · rcases z with z | z
    · exact .inl z
    · exact .inr fun y => o1'.apart a z (.inr y)
theorem je_cb {rr : List V → Hp → VK → Prop} {r : List D → (D → Prop) → Prop} (hs : SemL X.K rr r) (h : PE X e (tCB rr (liftA X.K cn E t))) : JE X cn E e (dCB r t) := by
  refine pe_imp h ?_
  rintro σ H Q ⟨pv, γ, ρ, G, fp, Q0, E0, m, q, po, px⟩
  refine ⟨pv, γ, ρ, G, fp, _, E0, m, q, fun rs ρ1 vs G1 H1 fp1 F1 ⟨ds, l1, q1⟩ s1 m1 o1 => ?_, px⟩
  refine hs G1 H1 vs ds _ Q m1.sub (lookL_ok m1 o1 l1) q1 fun z w G3 H3 F3 qz s3 hs3 rz => ?_
  obtain ⟨f1, f2, f3⟩ := fin_new m1 s1 (fun a z => .inl z) s3 hs3
  exact po (.t z) ρ1 w G3 H3 fp1 F3 qz f1 f2 ⟨rz, f3⟩
theorem size_of {n : Nat} (h : n ≤ 100000) : n ≤ sizeLine := Nat.le_trans h (by decide)
theorem je_lst (h : JA X cn E es t) : JE X cn E (.List es pos) (dLst t) := by
  refine pe_imp (pe_lst h) ?_
  rintro σ H Q ⟨pv, γ, ρ, G, fp, Q0, E0, m, q, po, px⟩
  refine ⟨pv, γ, ρ, G, fp, _, E0, m, q, fun rs ρ1 vs G1 H1 fp1 F1 ⟨ds, ρ2, l1, hz, q1⟩ s1 m1 o1 => ?_, px⟩
  obtain ⟨G2, fp2, s2, m2, r2, i2⟩ := tkL_ok m1 o1 (fun _ z => z) l1
  refine ⟨by rw [r2.len]; exact size_of hz, fun p hp => ?_⟩
  have hGp : G2 p = none := by
    cases e : G2 p with
    | none => rfl
    | some o => rw [m2.sub p o e] at hp; cases hp
  have kF : ∀ a, (∃ o, H1 a = some o) → a ≠ p := fun a ⟨o, ho⟩ z => by rw [z, hp] at ho; cases ho
  have f1 : ∀ a ∈ F1, ∃ o, H1 a = some o := fun a ha => (RpL.foot _ r2 a ha).2
  refine po (.t (.n true .lst ds)) ρ2 (.ref p) G2 (L2.upd H1 p (.lst vs)) fp2 (p :: F1) q1 ?_ (m2.step ⟨fun _ _ z => z, fun a o z _ => by rw [upd_ne (kF a ⟨o, z⟩)]; exact z, fun _ _ _ z _ => z, fun a (z : a = p) => .inr (by rw [z]; exact hp)⟩ (m2.sub.upd hp)) ⟨?_, fun a ha z => ?_⟩
  · refine (s1.trans (s2.mono (P' := InF fp2) (Q' := fun a => InF fp2 a ∨ a ∈ F1) (fun _ z => .inl z) fun a z => z.elim .inl fun z => .inr (.inr z))).trans ⟨fun _ _ z => z, fun a o z _ => by rw [upd_ne (kF a ⟨o, z⟩)]; exact z, fun _ _ _ z _ => z, fun a z => ?_⟩
    rcases z with z | z
    · exact .inl (.inl z)
    · rcases List.mem_cons.mp z with z | z
      · exact .inr (by rw [z]; exact hp)
      · exact .inl (.inr z)
  · refine Rp.o hGp upd_same (fun z => kF p (f1 p z) rfl) (RpL.mov (fun _ _ z => z) _ r2 fun a ha o hg ho => ⟨hg, by rw [upd_ne (kF a (f1 a ha))]; exact ho⟩)
  · rcases List.mem_cons.mp ha with e | ha
    · obtain ⟨j, hj⟩ := z
      exact kF a (m2.ft j a hj).2 e
    · exact RvsOk.foot o1 a ha (i2 a z)
theorem je_tup {k} (h : JA X cn E es t) : JE X cn E (.Tuple es k pos) (dTup t) := by
  refine pe_imp (pe_tup h) ?_
  rintro σ H Q ⟨pv, γ, ρ, G, fp, Q0, E0, m, q, po, px⟩
  refine ⟨pv, γ, ρ, G, fp, _, E0, m, q, fun rs ρ1 vs G1 H1 fp1 F1 ⟨ds, ρ2, l1, hz, q1⟩ s1 m1 o1 => ?_, px⟩
  obtain ⟨G2, fp2, s2, m2, r2, i2⟩ := tkL_ok m1 o1 (fun _ z => z) l1
  refine ⟨by rw [r2.len]; exact size_of hz, fun p hp => ?_⟩
  have hGp : G2 p = none := by
    cases e : G2 p with
    | none => rfl
    | some o => rw [m2.sub p o e] at hp; cases hp
  have kF : ∀ a, (∃ o, H1 a = some o) → a ≠ p := fun a ⟨o, ho⟩ z => by rw [z, hp] at ho; cases ho
  have f1 : ∀ a ∈ F1, ∃ o, H1 a = some o := fun a ha => (RpL.foot _ r2 a ha).2
  have sn : Stp G2 H1 (fun _ => False) (L2.upd G2 p (.tup vs)) (L2.upd H1 p (.tup vs)) (fun _ => False) := Stp.newG hp m2.sub
  refine po (.t (.n false .tup ds)) ρ2 (.ref p) (L2.upd G2 p (.tup vs)) (L2.upd H1 p (.tup vs)) fp2 F1 q1 ?_ (m2.step sn (m2.sub.updG hp)) ⟨?_, fun a ha z => RvsOk.foot o1 a ha (i2 a z)⟩
  · refine (s1.trans (s2.mono (P' := InF fp2) (Q' := fun a => InF fp2 a ∨ a ∈ F1) (fun _ z => .inl z) fun a z => z.elim .inl fun z => .inr (.inr z))).trans (sn.mono (fun _ z => z.elim) fun a z => .inr z)
  · refine Rp.f upd_same (RpL.mov sn.g _ r2 fun a ha o hg ho => ⟨sn.n a o ho hg fun z => z, sn.h a o ho fun z => z⟩)
end

/-! ### statements -/
def dSeq (t u : DS) : DS := fun D ρ => t { D with nx := fun ρ1 => u D ρ1 } ρ
def dNext : DS := fun D ρ => D.nx ρ
def dBreak : DS := fun D ρ => D.bk ρ
def dCont : DS := fun D ρ => D.ct ρ
def dDrop (te : DE) : DS := fun D ρ => te ρ (fun _ ρ1 => D.nx ρ1) D.ex
def dRet (te : DE) : DS := fun D ρ => te ρ (fun r ρ1 => ∃ d ρ2, tk ρ1 r = some (d, ρ2) ∧ D.rt d ρ2) D.ex
def dRetN : DS := fun D ρ => D.rt (.p .non) ρ
def dIfS (c : DT) (t u : DS) : DS := fun D ρ => c ρ (fun b ρ1 => if b = true then t D ρ1 else u D ρ1) D.ex
def dNever : DS := fun _ _ => False
def dAsg (te : DE) (g : DG) : DS := fun D ρ => te ρ (fun r ρ1 => g r ρ1 D.nx) D.ex
def dName (i : Nat) : DG := fun r ρ Q => ∃ d ρ1 ρ2, tk ρ r = some (d, ρ1) ∧ stV ρ1 i d = some ρ2 ∧ Q ρ2

section
variable {X : Cx} {cn : String → Addr} {E : WX} {e c : Expr} {st : Stmt} {rest sa sb : List Stmt} {pos : Pos} {te : DE} {t u : DS} {tc : DT}
theorem jss_nil : JSs X cn E [] dNext := pss_imp pss_nil fun D σ H ⟨pv, γ, ρ, G, fp, D0, m, q, po⟩ => po.nx ρ σ G H fp q (Stp.refl _ _ _) m rfl
theorem jss_cons (h1 : JS X cn E st t) (h2 : JSs X cn E rest u) : JSs X cn E (st :: rest) (dSeq t u) := pss_imp (pss_cons h1 h2) fun D σ H ⟨pv, γ, ρ, G, fp, D0, m, q, po⟩ =>
  ⟨pv, γ, ρ, G, fp, _, m, q, ⟨fun ρ1 σ1 G1 H1 fp1 q1 s1 m1 l1 => ⟨pv, γ, ρ1, G1, fp1, D0, m1, q1, by rw [l1]; exact po.on s1⟩, po.bk, po.ct, po.rt, po.ex⟩⟩
theorem jss_one (h1 : JS X cn E st t) : JSs X cn E [st] t := pss_one h1
theorem js_expr (he : JE X cn E e te) (hs : swapsWith e none pos.line X.env = pure false := by rfl) : JS X cn E (.Expr e pos) (dDrop te) := ps_imp (ps_expr he hs) fun D σ H ⟨pv, γ, ρ, G, fp, D0, m, q, po⟩ =>
  ⟨pv, γ, ρ, G, fp, _, _, m, q, fun r ρ1 v G1 H1 fp1 F1 q1 s1 m1 o1 => po.nx ρ1 σ G1 H1 fp1 q1 (drop0 s1) m1 rfl, po.ex⟩
theorem js_ret (he : JE X cn E e te) : JS X cn E (.Return (some e) pos) (dRet te) := ps_imp (ps_ret he) fun D σ H ⟨pv, γ, ρ, G, fp, D0, m, q, po⟩ =>
  ⟨pv, γ, ρ, G, fp, _, _, m, q, fun r ρ1 v G1 H1 fp1 F1 ⟨d, ρ2, e1, q1⟩ s1 m1 o1 => by
    obtain ⟨G2, fp2, s2, m2, r2, i2⟩ := tk_ok m1 o1 (fun _ z => z) e1
    refine po.rt d ρ2 v σ G2 H1 fp2 F1 q1 (s1.trans (s2.mono (P' := InF fp2) (fun _ z => .inl z) fun a z => z.elim .inl fun z => .inr (.inr z))) m2 rfl r2 fun a ha z => o1.apart a ha (i2 a z), po.ex⟩
theorem js_if (hc : JT X cn E c tc) (ha : JSs X cn E sa t) (hb : JSs X cn E sb u) : JS X cn E (.If c sa sb pos) (dIfS tc t u) := ps_imp (ps_if hc ha hb) fun D σ H ⟨pv, γ, ρ, G, fp, D0, m, q, po⟩ =>
  ⟨pv, γ, ρ, G, fp, _, _, m, q, fun b ρ1 G1 H1 fp1 q1 s1 m1 => by
    cases b with
    | true => exact ⟨pv, γ, ρ1, G1, fp1, D0, m1, q1, po.on s1⟩
    | false => exact ⟨pv, γ, ρ1, G1, fp1, D0, m1, q1, po.on s1⟩, po.ex⟩
/-- a target's rule; S: the slots that it may store to -/
def liftG (K : PySem.W.Frag) (S : List Nat) (g : DG) : TG := fun v σ H Q => ∃ pv γ ρ G fp r F N0, Mt K pv (σ ++ γ) ρ G H fp ∧ RvOk K (σ ++ γ) G H (InF fp) v r F ∧ g r ρ N0 ∧
  ∀ ρ' σ' G' H' fp', N0 ρ' → Stp G H (fun a => InF fp a ∨ a ∈ F) G' H' (InF fp') → Mt K pv (σ' ++ γ) ρ' G' H' fp' → σ'.length = σ.length → (∀ i, i ∉ S → σ'[i]? = σ[i]?) → Q σ' H'
abbrev JG (X : Cx) (S : List Nat) (e : Expr) (g : DG) : Prop := PG X e (liftG X.K S g)
theorem pg_imp {X : Cx} {e : Expr} {t t' : TG} (h : PG X e t) (i : ∀ v σ H Q, t' v σ H Q → t v σ H Q) : PG X e t' := ⟨fun pins s σ H v u Q I r q => h.run pins s σ H v u Q I r (i v σ H Q q)⟩
theorem set_app {σ γ : St} {i : Nat} {x : Option V} (hi : i < σ.length) : (σ ++ γ).set i x = σ.set i x ++ γ := by
  rw [List.set_append_left _ _ hi]
theorem jg_name {i : Nat} (hi : i < X.N.length) (h : PG X e (gName i)) : JG X [i] e (dName i) := ⟨fun pins sh σ H v u Q I r ⟨pv, γ, ρ, G, fp, rv, F, N0, m, o, ⟨d, ρ1, ρ2, e1, e2, q⟩, po⟩ => by
  obtain ⟨G2, fp2, s2, m2, r2, i2⟩ := tk_ok m o (fun _ z => z) e1
  have hl : i < σ.length := by rw [I.len]; exact hi
  have dis : ∀ a ∈ F, ¬ InF fp2 a := fun a ha z => o.apart a ha (i2 a z)
  have m3 := m2.put e2 r2 dis
  rw [set_app hl] at m3
  refine h.run pins sh σ H v u Q I r (po ρ2 _ G2 H _ q (s2.mono (fun _ z => .inl z) fun a z => ?_) m3 (by rw [List.length_set]) fun j hj => List.getElem?_set_ne (fun z => hj (by simp [z])))
  rcases InF.updF z with z | z
  · exact .inl z
  · exact .inr (.inr z)⟩
/-- name = value -/
theorem js_set {i : Nat} (hi : i < X.N.length) (h : PS X st (tAsg (liftE X.K cn E te) (gName i))) : JS X cn E st (dAsg te (dName i)) := ⟨fun pins sh σ H D I ⟨pv, γ, ρ, G, fp, D0, m, q, po⟩ => by
  have hl : i < σ.length := by rw [I.len]; exact hi
  refine h.run pins sh σ H D I ⟨pv, γ, ρ, G, fp, _, _, m, q, fun r ρ1 v G1 H1 fp1 F1 ⟨d, ρ2, ρ3, e1, e2, q1⟩ s1 m1 o1 => ?_, po.ex⟩
  obtain ⟨G2, fp2, s2, m2, r2, i2⟩ := tk_ok m1 o1 (fun _ z => z) e1
  have m3 := m2.put e2 r2 fun a ha z => o1.apart a ha (i2 a z)
  rw [set_app hl] at m3
  refine po.nx ρ3 _ G2 H1 _ q1 (s1.trans (s2.mono (P' := InF fp2) (fun _ z => .inl z) fun a z => ?_)) m3 (by rw [List.length_set])
  rcases InF.updF z with z | z
  · exact .inl z
  · exact .inr (.inr z)⟩
end
end DL
/-! DL6: loops, what is walked, comprehensions. -/
namespace DL
open PySem L2

/-- taken and shared -/
def tkF (ρ : Env) (r : Rv) : Option (D × Env) := match tk ρ r with
  | some (d, ρ1) => some (d.fz, ρ1)
  | none => none
section
variable {K : PySem.W.Frag} {cn : String → Addr} {pv : Nat → V} {σ γ : St} {n : Nat} {ρ : Env} {G H G' H' G2 H2 G3 H3 : Hp} {fp fp' fp2 : Fps} {F : List Addr} {E : WX}
/-- freezing what is held apart -/
theorem Mt.frzT (m : Mt K pv σ ρ G H fp) (h : ∀ a ∈ F, G a = none ∧ ¬ InF fp a) : Mt K pv σ ρ (frzH G H F) H fp :=
  m.move (sub_frzH fun a ha => (h a ha).1) (frzH_sub m.sub) (fun _ _ _ z => z) fun a ⟨i, ha⟩ => by
    rw [frzH_out fun z => (h a z).2 ⟨i, ha⟩]
    exact (m.ft i a ha).1
theorem tkF_ok {r : Rv} {v : V} {d : D} {ρ' : Env} {P : Addr → Prop} (m : Mt K pv σ ρ G H fp) (o : RvOk K σ G H P v r F) (hP : ∀ a, InF fp a → P a) (e : tkF ρ r = some (d, ρ')) :
    ∃ G' fp', Stp G H (fun a => InF fp a ∨ a ∈ F) G' H (InF fp') ∧ Mt K pv σ ρ' G' H fp' ∧ Rp K G' H v d [] ∧ ∀ a, InF fp' a → InF fp a := by
  unfold tkF at e
  split at e
  · rename_i d0 ρ1 e1
    cases e
    obtain ⟨G1, fp1, s1, m1, r1, i1⟩ := tk_ok m o hP e1
    have ff : ∀ a ∈ F, G1 a = none ∧ ¬ InF fp1 a := fun a ha => ⟨(Rp.foot _ r1 a ha).1, fun z => o.apart a ha (hP a (i1 a z))⟩
    refine ⟨frzH G1 H F, fp1, ?_, m1.frzT ff, r1.froz (sub_frzH fun a ha => (ff a ha).1) _ fun a ha => frzH_in ha, i1⟩
    refine (s1.mono (fun _ z => .inl z) (Q' := fun a => InF fp1 a ∨ a ∈ F) fun a z => z.elim .inl fun z => .inr (.inr z)).trans ?_
    exact (Stp.frz (P := fun a => InF fp1 a ∨ a ∈ F) (fun a ha => (ff a ha).1) fun a ha => .inr ha).mono (fun _ z => z) fun a z => .inr (.inl z)
  · cases e
end

/-- what an iterator yields -/
def WalksD (K : PySem.W.Frag) (J : It) (items : List D) (G : Hp) : Prop := ∀ G' H', Sub G G' → Sub G' H' →
  (∀ i d, items[i]? = some d → J.go i H' ∧ ∀ x H2, J.yld i H' x H2 → ∃ G2, Stp G' H' (fun _ => False) G2 H2 (fun _ => False) ∧ Sub G2 H2 ∧ Rp K G2 H2 x d []) ∧
  ∀ i, items.length ≤ i → J.stop i H'
def liftI (K : PySem.W.Frag) (cn : String → Addr) (E : WX) (t : DI) : TI := fun σ H R => ∃ pv γ ρ G fp Q0 E0, Mt K pv (σ ++ γ) ρ G H fp ∧ t ρ Q0 E0 ∧
  (∀ items ρ' J G' H' fp', Q0 items ρ' → Stp G H (InF fp) G' H' (InF fp') → Mt K pv (σ ++ γ) ρ' G' H' fp' → WalksD K J items G' → R J H') ∧ PoX K cn pv γ σ.length G H fp E0 E
abbrev JI (X : Cx) (cn : String → Addr) (E : WX) (tg e : Expr) (t : DI) : Prop := PI X tg e (liftI X.K cn E t)
theorem pi_imp {X : Cx} {tg e : Expr} {t t' : TI} (h : PI X tg e t) (i : ∀ σ H R, t' σ H R → t σ H R) : PI X tg e t' := ⟨fun pins s σ H R I q => h.run pins s σ H R I (i σ H R q)⟩

def dLoop (g : DG) (tb : DS) (D : DEnds) : List DL.D → Env → Prop
  | [], ρ => D.nx ρ
  | d :: ds, ρ => g (.t d) ρ fun ρ1 => tb { D with nx := dLoop g tb D ds, ct := dLoop g tb D ds, bk := D.nx } ρ1
def dFor (ti : DI) (g : DG) (tb : DS) : DS := fun D ρ => ti ρ (fun items ρ1 => dLoop g tb D items ρ1) D.ex
def dWhN (c : DT) (tb : DS) (D : DEnds) : Nat → Env → Prop
  | 0, _ => False
  | n + 1, ρ => c ρ (fun b ρ1 => if b = true then tb { D with nx := dWhN c tb D n, ct := dWhN c tb D n, bk := D.nx } ρ1 else D.nx ρ1) D.ex
def dWhile (c : DT) (tb : DS) : DS := fun D ρ => ∃ n, dWhN c tb D n ρ
section
variable {X : Cx} {cn : String → Addr} {E : WX} {c iter tg : Expr} {body : List Stmt} {pos : Pos} {tb : DS} {tc : DT} {ti : DI} {g : DG} {S : List Nat}
/-! ### what is walked -/
def itemsOf : D → Option (List D)
  | .n _ .lst ch => some ch
  | .n _ .lok ch => some ch
  | .n _ .tup ch => some ch
  | .n _ .tok ch => some ch
  | _ => none
def dISeq (te : DE) : DI := fun ρ Q E => te ρ (fun r ρ1 => ∃ d ρ2 ch, tkF ρ1 r = some (d, ρ2) ∧ itemsOf d = some ch ∧ Q ch ρ2) E
theorem RpL.at0 {K : PySem.W.Frag} {G H : Hp} {vs : List V} {ch : List D} (h : RpL K G H vs ch []) {i : Nat} {d : D} (e : ch[i]? = some d) : ∃ x, vs[i]? = some x ∧ Rp K G H x d [] := by
  obtain ⟨x, F, h1, h2, h3⟩ := RpL.get ch h e
  cases F with
  | nil => exact ⟨x, h1, h2⟩
  | cons a _ => cases h3 a (List.mem_cons_self ..)
theorem Rp.mov0 {K : PySem.W.Frag} {G H G' H' : Hp} {v : V} {d : D} (r : Rp K G H v d []) (h : Sub G G') : Rp K G' H' v d [] := r.mov h _ fun a z => by cases z
theorem RpL.mov0 {K : PySem.W.Frag} {G H G' H' : Hp} {vs : List V} {ds : List D} (r : RpL K G H vs ds []) (h : Sub G G') : RpL K G' H' vs ds [] := r.mov h _ fun a z => by cases z
theorem walks_list {K : PySem.W.Frag} {G H : Hp} {a : Addr} {vs : List V} {ch : List D} (h : SqL K G a vs) (r : RpL K G H vs ch []) : WalksD K (Itl K a) ch G := by
  intro G' H' s s'
  have hq : SqL K H' a vs := SqL.mono s' (SqL.mono s h)
  refine ⟨fun i d e => ?_, fun i hi => ⟨vs, hq, by rw [r.len]; exact hi⟩⟩
  obtain ⟨x, h1, h2⟩ := r.at0 e
  refine ⟨⟨vs, x, hq, h1⟩, fun y H2 ⟨e1, hy⟩ => ?_⟩
  subst e1
  have := hy vs hq
  rw [h1] at this; cases this
  exact ⟨G', Stp.refl _ _ _, s', h2.mov0 s⟩
theorem walks_tup {K : PySem.W.Frag} {G H : Hp} {a : Addr} {vs : List V} {ch : List D} (h : SqT K G a vs) (r : RpL K G H vs ch []) : WalksD K (Itt K a) ch G := by
  intro G' H' s s'
  have hq : SqT K H' a vs := SqT.mono s' (SqT.mono s h)
  refine ⟨fun i d e => ?_, fun i hi => ⟨vs, hq, by rw [r.len]; exact hi⟩⟩
  obtain ⟨x, h1, h2⟩ := r.at0 e
  refine ⟨⟨vs, x, hq, h1⟩, fun y H2 ⟨e1, hy⟩ => ?_⟩
  subst e1
  have := hy vs hq
  rw [h1] at this; cases this
  exact ⟨G', Stp.refl _ _ _, s', h2.mov0 s⟩
/-- an iterator of one object, just laid -/
theorem pie_one {pins : List (Addr × Obj)} {σ : St} {H : Hp} {sh : Shared} {J : It} {ob : Obj} {tn : Nat → Heap → Prop} {R : It → Hp → Prop} (I : Inv X pins σ H sh)
    (T : Turn X.prog X.w X.K tg J [sh.heap.objs.size] sh.heap.objs.size tn) (h0 : tn 0 (sh.heap.push ob)) (hR : R J H) : PIE X pins σ tg R (.ref sh.heap.objs.size) { sh with heap := sh.heap.push ob } := by
  have I2 : Inv X pins σ H { sh with heap := sh.heap.push ob } := I.kept (t' := sh.toks) fun _ _ z => Heap.get?_push_of_some _ z
  refine ⟨_, _, tn, J, H, rfl, I2, T, h0, fun b hb => ?_, hR⟩
  rw [List.mem_singleton.mp hb]
  exact I.fpOk (Nat.le_refl _) (I.hok.fresh (Nat.le_refl _))
theorem ji_seq {te : DE} (h : JE X cn E iter te) : JI X cn E tg iter (dISeq te) := by
  refine ⟨fun pins s σ H R I ⟨pv, γ, ρ, G, fp, Q0, E0, m, q, po, px⟩ => ?_⟩
  -- the value's kind decides which rule is taken
  refine thn (h.run pins s σ H (fun v H1 => ∃ J, R J H1 ∧ ∃ a, v = .ref a ∧ ((∃ xs, SqL X.K H1 a xs ∧ J = Itl X.K a) ∨ ∃ xs, SqT X.K H1 a xs ∧ J = Itt X.K a)) I ⟨pv, γ, ρ, G, fp, _, E0, m, q, ?_, px⟩) ?_
  · rintro r ρ1 v G1 H1 fp1 F1 ⟨d, ρ2, ch, e1, e2, q1⟩ s1 m1 o1
    obtain ⟨G2, fp2, s2, m2, r2, i2⟩ := tkF_ok m1 o1 (fun _ z => z) e1
    have s12 := s1.trans s2
    cases r2 with
    | p _ => simp only [itemsOf] at e2; cases e2
    | @f a k vs ch' _ h1 h2 =>
      cases k with
      | lst => simp only [itemsOf, Option.some.injEq] at e2; subst e2; exact ⟨_, po _ ρ2 _ G2 H1 fp2 q1 s12 m2 (walks_list (.inl (.inl h1)) h2), a, rfl, .inl ⟨vs, .inl (.inl (m2.sub _ _ h1)), rfl⟩⟩
      | lok => simp only [itemsOf, Option.some.injEq] at e2; subst e2; exact ⟨_, po _ ρ2 _ G2 H1 fp2 q1 s12 m2 (walks_list h1 h2), a, rfl, .inl ⟨vs, SqL.mono m2.sub h1, rfl⟩⟩
      | tup => simp only [itemsOf, Option.some.injEq] at e2; subst e2; exact ⟨_, po _ ρ2 _ G2 H1 fp2 q1 s12 m2 (walks_tup (.inl (.inl h1)) h2), a, rfl, .inr ⟨vs, .inl (.inl (m2.sub _ _ h1)), rfl⟩⟩
      | tok => simp only [itemsOf, Option.some.injEq] at e2; subst e2; exact ⟨_, po _ ρ2 _ G2 H1 fp2 q1 s12 m2 (walks_tup (KnT.sqt h1) h2), a, rfl, .inr ⟨vs, SqT.mono m2.sub (KnT.sqt h1), rfl⟩⟩
      | dic _ => simp only [itemsOf] at e2; cases e2
      | dit _ => simp only [itemsOf] at e2; cases e2
      | obj _ _ => simp only [itemsOf] at e2; cases e2
      | exc _ _ => simp only [itemsOf] at e2; cases e2
  · rintro v s1 ⟨x, H1, I1, r1, J, hR, a, rfl, hq⟩
    cases r1
    rcases hq with ⟨xs, hq, rfl⟩ | ⟨xs, hq, rfl⟩
    · have w := I1.list hq
      exact wpAny_pyIter_list w.choose_spec.2.1.isList (pie_one I1 (turn_list a _) ⟨_, Heap.get?_push_size _ rfl, rfl, rfl⟩ hR)
    · have w := I1.tuple hq
      have w2 : s1.heap.IsTuple a w.choose.toArray := w.choose_spec.2.1
      exact wpAny_pyIter_tuple w2 (pie_one I1 (turn_tuple a _) ⟨_, Heap.get?_push_size _ rfl, rfl, rfl⟩ hR)
end
end DL
/-! DL7: ranges, texts, enumerate, zip walked; list comprehensions. -/
namespace DL
open PySem L2

/-! ### ranges and so on -/
def rngL (lo : Int) (n : Nat) : List D := (List.range n).map fun i => D.p (.int (lo + (i : Nat)))
def dIRng1 (t : DA) : DI := fun ρ Q E => t ρ (fun rs ρ1 => ∃ j : Int, lookL ρ1 rs = some [.p (.int j)] ∧ (-(2 ^ 62) ≤ j ∧ j < 2 ^ 62) ∧ Q (rngL 0 j.toNat) ρ1) E
def dIRng2 (t : DA) : DI := fun ρ Q E => t ρ (fun rs ρ1 => ∃ i j : Int, lookL ρ1 rs = some [.p (.int i), .p (.int j)] ∧ (-(2 ^ 62) ≤ i ∧ i < 2 ^ 62 ∧ -(2 ^ 62) ≤ j ∧ j < 2 ^ 62) ∧ Q (rngL i (j - i).toNat) ρ1) E
def strL (x : Str) : List D := x.cps.toList.map fun c => D.p (.str ⟨#[c]⟩)
def dIStr (te : DE) : DI := fun ρ Q E => te ρ (fun r ρ1 => ∃ x, look ρ1 r = some (.p (.str x)) ∧ Q (strL x) ρ1) E
def enumL : Nat → List D → List D
  | _, [] => []
  | i, d :: ds => .n false .tup [.p (.int (i : Nat)), d] :: enumL (i + 1) ds
def zipL : List D → List D → List D
  | d :: ds, e :: es => .n false .tup [d, e] :: zipL ds es
  | _, _ => []
/-- the arguments' items, shared -/
def tkFL (ρ : Env) : List Rv → Option (List D × Env)
  | [] => some ([], ρ)
  | r :: rs => match tkF ρ r with
    | some (d, ρ1) => match tkFL ρ1 rs with
      | some (ds, ρ2) => some (d :: ds, ρ2)
      | none => none
    | none => none
def listOf : D → Option (List D)
  | .n _ .lst ch => some ch
  | .n _ .lok ch => some ch
  | _ => none
def dIEnum (t : DA) : DI := fun ρ Q E => t ρ (fun rs ρ1 => ∃ d ρ2 ch, tkFL ρ1 rs = some ([d], ρ2) ∧ listOf d = some ch ∧ Q (enumL 0 ch) ρ2) E
def dIZip (t : DA) : DI := fun ρ Q E => t ρ (fun rs ρ1 => ∃ d e ρ2 ch ch', tkFL ρ1 rs = some ([d, e], ρ2) ∧ listOf d = some ch ∧ listOf e = some ch' ∧ Q (zipL ch ch') ρ2) E

section
variable {K : PySem.W.Frag} {cn : String → Addr} {pv : Nat → V} {σ γ : St} {n : Nat} {ρ : Env} {G H G' H' : Hp} {fp fp' : Fps} {E : WX}
theorem tkFL_ok : ∀ {rs : List Rv} {ρ ρ' : Env} {G : Hp} {fp : Fps} {P : Addr → Prop} {vs : List V} {F : List Addr} {ds : List D}, Mt K pv σ ρ G H fp → RvsOk K σ G H P vs rs F → (∀ a, InF fp a → P a) → tkFL ρ rs = some (ds, ρ') →
    ∃ G' fp', Stp G H (fun a => InF fp a ∨ a ∈ F) G' H (InF fp') ∧ Mt K pv σ ρ' G' H fp' ∧ RpL K G' H vs ds [] ∧ ∀ a, InF fp' a → InF fp a
  | [], ρ, ρ', G, fp, P, _, _, ds, m, .nil, _, e => by
    simp only [tkFL, Option.some.injEq, Prod.mk.injEq] at e
    obtain ⟨e1, e2⟩ := e
    subst e1 e2
    exact ⟨G, fp, (Stp.refl G H (InF fp)).mono (fun _ z => .inl z) fun _ z => .inl z, m, .nil, fun _ z => z⟩
  | r :: rs, ρ, ρ', G, fp, P, _, _, ds, m, .cons (vs := vs1) (F := F0) (F' := F1) h t, hP, e => by
    simp only [tkFL] at e
    split at e
    · rename_i d ρ1 e1
      split at e
      · rename_i ds' ρ2 e2
        cases e
        obtain ⟨G1, fp1, s1, m1, r1, i1⟩ := tkF_ok m h hP e1
        have t1 : RvsOk K σ G1 H (InF fp1) vs1 rs F1 := by
          have s1' : Stp G H (fun a => P a ∨ a ∈ F0) G1 H (InF fp1) := s1.mono (fun a z => z.elim (fun z => .inl (hP a z)) .inr) fun a z => .inl z
          exact t.frame s1'
        obtain ⟨G2, fp2, s2, m2, r2, i2⟩ := tkFL_ok m1 t1 (fun a z => z) e2
        refine ⟨G2, fp2, ?_, m2, ?_, fun a z => i1 a (i2 a z)⟩
        · refine (s1.mono (Q := fun a => InF fp a ∨ a ∈ F0 ++ F1) (Q' := fun a => InF fp1 a ∨ a ∈ F0 ++ F1) (fun a z => z.elim .inl fun z => .inr (List.mem_append_left _ z)) fun a z => z.elim .inl fun z => .inr (.inr z)).trans ?_
          exact s2.mono (fun a z => z.elim .inl fun z => .inr (List.mem_append_right _ z)) fun a z => .inl z
        · have := RpL.cons (F := []) (F' := []) (r1.mov0 s2.g) r2 fun a z => by cases z
          exact this
      · cases e
    · cases e
theorem walks_rng (lo : Int) (n : Nat) : WalksD K (Itr lo n) (rngL lo n) G := by
  intro G' H' s s'
  refine ⟨fun i d e => ?_, fun i hi => by
    unfold rngL at hi
    rw [List.length_map, List.length_range] at hi
    exact hi⟩
  unfold rngL at e
  rw [List.getElem?_map] at e
  by_cases hi : i < n
  · rw [List.getElem?_range hi] at e
    cases e
    refine ⟨hi, fun x H2 ⟨e1, e2⟩ => ?_⟩
    subst e1 e2
    exact ⟨G', Stp.refl _ _ _, s', Rp.p _⟩
  · rw [List.getElem?_eq_none (by rw [List.length_range]; omega)] at e
    cases e
theorem sqL_node {a : Addr} {k : Kd} {vs : List V} {ch cs : List D} {o : Bool} (h : NdF K G a k vs) (e : listOf (.n o k ch) = some cs) : SqL K G a vs ∧ cs = ch := by
  cases k with
  | lst => simp only [listOf, Option.some.injEq] at e; exact ⟨.inl (.inl h), e.symm⟩
  | lok => simp only [listOf, Option.some.injEq] at e; exact ⟨h, e.symm⟩
  | tup => simp only [listOf] at e; cases e
  | tok => simp only [listOf] at e; cases e
  | dic _ => simp only [listOf] at e; cases e
  | dit _ => simp only [listOf] at e; cases e
  | obj _ _ => simp only [listOf] at e; cases e
  | exc _ _ => simp only [listOf] at e; cases e
theorem listOf_rp {v : V} {d : D} {cs : List D} (r : Rp K G H v d []) (e : listOf d = some cs) : ∃ a vs, v = .ref a ∧ SqL K G a vs ∧ RpL K G H vs cs [] := by
  cases r with
  | p _ => simp only [listOf] at e; cases e
  | @f a k vs ch _ h1 h2 =>
    obtain ⟨q1, q2⟩ := sqL_node h1 e
    subst q2
    exact ⟨a, vs, rfl, q1, h2⟩
theorem enumL_len : ∀ (i : Nat) (ds : List D), (enumL i ds).length = ds.length
  | _, [] => rfl
  | i, _ :: ds => by rw [enumL, List.length_cons, List.length_cons, enumL_len]
theorem enumL_get : ∀ (k : Nat) (ds : List D) (i : Nat) {d : D}, (enumL k ds)[i]? = some d → ∃ e, ds[i]? = some e ∧ d = .n false .tup [.p (.int ((k + i : Nat) : Int)), e]
  | _, [], i, _, h => by simp [enumL] at h
  | k, e :: ds, 0, d, h => by
    simp only [enumL, List.getElem?_cons_zero, Option.some.injEq] at h
    exact ⟨e, rfl, by rw [← h, Nat.add_zero]⟩
  | k, e :: ds, i + 1, d, h => by
    rw [enumL, List.getElem?_cons_succ] at h
    obtain ⟨e', h1, h2⟩ := enumL_get (k + 1) ds i h
    exact ⟨e', by rw [List.getElem?_cons_succ]; exact h1, by rw [h2, show k + 1 + i = k + (i + 1) by omega]⟩
theorem zipL_get : ∀ (ds es : List D) (i : Nat) {d : D}, (zipL ds es)[i]? = some d → ∃ x y, ds[i]? = some x ∧ es[i]? = some y ∧ d = .n false .tup [x, y]
  | [], es, i, d, h => by simp [zipL] at h
  | d0 :: ds, [], i, d, h => by simp [zipL] at h
  | x :: ds, y :: es, 0, d, h => by
    simp only [zipL, List.getElem?_cons_zero, Option.some.injEq] at h
    exact ⟨x, y, rfl, rfl, h.symm⟩
  | x :: ds, y :: es, i + 1, d, h => by
    rw [zipL, List.getElem?_cons_succ] at h
    obtain ⟨a, b, h1, h2, h3⟩ := zipL_get ds es i h
    exact ⟨a, b, by rw [List.getElem?_cons_succ]; exact h1, by rw [List.getElem?_cons_succ]; exact h2, h3⟩
theorem zipL_len : ∀ (ds es : List D), (zipL ds es).length = min ds.length es.length
  | [], es => by simp [zipL]
  | d0 :: ds, [] => by simp [zipL]
  | x :: ds, y :: es => by rw [zipL, List.length_cons, List.length_cons, List.length_cons, zipL_len]; omega
/-- a new tuple of shared things -/
theorem tup2 {x y : V} {d e : D} {T : Addr} (hs : Sub G H) (hT : H T = none) (r1 : Rp K G H x d []) (r2 : Rp K G H y e []) :
    ∃ G2, Stp G H (fun _ => False) G2 (L2.upd H T (.tup [x, y])) (fun _ => False) ∧ Sub G2 (L2.upd H T (.tup [x, y])) ∧ Rp K G2 (L2.upd H T (.tup [x, y])) (.ref T) (.n false .tup [d, e]) [] := by
  have s := Stp.newG (P := fun _ => False) (o := .tup [x, y]) hT hs
  refine ⟨L2.upd G T (.tup [x, y]), s, hs.updG hT, Rp.f upd_same ?_⟩
  have := RpL.cons (F := []) (F' := []) (r1.mov0 s.g) (RpL.one (r2.mov0 (H' := L2.upd H T (.tup [x, y])) s.g)) fun a z => by cases z
  exact this
theorem walks_enum {a : Addr} {vs : List V} {ch : List D} (h : SqL K G a vs) (r : RpL K G H vs ch []) : WalksD K (Ite K a) (enumL 0 ch) G := by
  intro G' H' s s'
  have hq : SqL K H' a vs := SqL.mono s' (SqL.mono s h)
  refine ⟨fun i d e => ?_, fun i hi => ⟨vs, hq, by rw [r.len]; rw [enumL_len] at hi; exact hi⟩⟩
  obtain ⟨e', g1, g2⟩ := enumL_get 0 ch i e
  obtain ⟨x, h1, h2⟩ := r.at0 g1
  refine ⟨⟨vs, x, hq, h1⟩, fun y H2 ⟨T, z, e1, hT, e2, hy⟩ => ?_⟩
  subst e1 e2 g2
  have := hy vs hq
  rw [h1] at this; cases this
  have := tup2 (x := V.int (i : Nat)) (d := .p (.int (i : Nat))) s' hT (Rp.p (K := K) (G := G') (H := H') _) (h2.mov0 s)
  rw [Nat.zero_add]
  exact this
theorem walks_zip {a b : Addr} {vs ws : List V} {ch cs : List D} (h : SqL K G a vs) (h' : SqL K G b ws) (r : RpL K G H vs ch []) (r' : RpL K G H ws cs []) : WalksD K (Itz K a b) (zipL ch cs) G := by
  intro G' H' s s'
  have hq : SqL K H' a vs := SqL.mono s' (SqL.mono s h)
  have hq' : SqL K H' b ws := SqL.mono s' (SqL.mono s h')
  refine ⟨fun i d e => ?_, fun i hi => ⟨vs, ws, hq, hq', by rw [r.len, r'.len]; rw [zipL_len] at hi; omega⟩⟩
  obtain ⟨d1, d2, g1, g2, g3⟩ := zipL_get ch cs i e
  obtain ⟨x, h1, h2⟩ := r.at0 g1
  obtain ⟨y, h3, h4⟩ := r'.at0 g2
  refine ⟨⟨vs, ws, x, y, hq, hq', h1, h3⟩, fun z H2 ⟨T, x', y', e1, hT, e2, f1, f2⟩ => ?_⟩
  subst e1 e2 g3
  have := f1 vs hq
  rw [h1] at this; cases this
  have := f2 ws hq'
  rw [h3] at this; cases this
  exact tup2 s' hT (h2.mov0 s) (h4.mov0 s)
end
theorem RpL.nil2 {K : PySem.W.Frag} {G H : Hp} {vs : List V} (r : RpL K G H vs [] []) : vs = [] := List.eq_nil_of_length_eq_zero r.len
theorem RpL.cons2 {K : PySem.W.Frag} {G H : Hp} {vs : List V} {d : D} {ds : List D} (r : RpL K G H vs (d :: ds) []) : ∃ x xs, vs = x :: xs ∧ Rp K G H x d [] ∧ RpL K G H xs ds [] := by
  generalize e : ([] : List Addr) = F0 at r
  cases r with
  | @cons v vs' _ _ F1 F2 h1 h2 h3 =>
    have := List.append_eq_nil_iff.mp e.symm
    obtain ⟨rfl, rfl⟩ := this
    exact ⟨v, vs', rfl, h1, h2⟩
section
variable {X : Cx} {cn : String → Addr} {E : WX} {iter tg e : Expr} {t : DA} {te : DE}
theorem look_ps {K : PySem.W.Frag} {pv : Nat → V} {σ : St} {ρ : Env} {G H : Hp} {fp : Fps} : ∀ {P : Addr → Prop} {vs xs : List V} {rs : List Rv} {F : List Addr}, Mt K pv σ ρ G H fp → RvsOk K σ G H P vs rs F → lookL ρ rs = some (xs.map D.p) → vs = xs := by
  intro P vs xs rs F m o e
  have := lookL_ok m o e
  clear o e
  induction xs generalizing vs with
  | nil => cases this; rfl
  | cons x xs ih =>
    rw [List.map_cons] at this
    cases this with
    | cons h t =>
      obtain ⟨_, h⟩ := h
      cases h
      rw [ih t]
theorem ji_rng1 (h : PI X tg iter (iRng1 (liftA X.K cn E t))) : JI X cn E tg iter (dIRng1 t) := pi_imp h fun σ H R ⟨pv, γ, ρ, G, fp, Q0, E0, m, q, po, px⟩ =>
  ⟨pv, γ, ρ, G, fp, _, E0, m, q, fun rs ρ1 vs G1 H1 fp1 F1 ⟨j, l1, hb, q1⟩ s1 m1 o1 => by
    have := look_ps (xs := [.int j]) m1 o1 l1
    exact ⟨j, this, hb.1, hb.2, po _ ρ1 _ G1 H1 fp1 q1 (drop0 s1) m1 (walks_rng 0 j.toNat)⟩, px⟩
theorem ji_enum (h : PI X tg iter (iEnum X.K (liftA X.K cn E t))) : JI X cn E tg iter (dIEnum t) := pi_imp h fun σ H R ⟨pv, γ, ρ, G, fp, Q0, E0, m, q, po, px⟩ =>
  ⟨pv, γ, ρ, G, fp, _, E0, m, q, fun rs ρ1 vs G1 H1 fp1 F1 ⟨d, ρ2, ch, e1, e2, q1⟩ s1 m1 o1 => by
    obtain ⟨G2, fp2, s2, m2, r2, _⟩ := tkFL_ok m1 o1 (fun _ z => z) e1
    obtain ⟨x, xs, rfl, r3, r4⟩ := r2.cons2
    have := r4.nil2
    subst this
    obtain ⟨a, ws, rfl, h1, h2⟩ := listOf_rp r3 e2
    exact ⟨a, ws, rfl, SqL.mono m2.sub h1, po _ ρ2 _ G2 H1 fp2 q1 (s1.trans s2) m2 (walks_enum h1 h2)⟩, px⟩
theorem ji_zip (h : PI X tg iter (iZip X.K (liftA X.K cn E t))) : JI X cn E tg iter (dIZip t) := pi_imp h fun σ H R ⟨pv, γ, ρ, G, fp, Q0, E0, m, q, po, px⟩ =>
  ⟨pv, γ, ρ, G, fp, _, E0, m, q, fun rs ρ1 vs G1 H1 fp1 F1 ⟨d, e, ρ2, ch, ch', e1, e2, e3, q1⟩ s1 m1 o1 => by
    obtain ⟨G2, fp2, s2, m2, r2, _⟩ := tkFL_ok m1 o1 (fun _ z => z) e1
    obtain ⟨x, xs, rfl, r3, r4⟩ := r2.cons2
    obtain ⟨y, ys, rfl, r5, r6⟩ := r4.cons2
    have := r6.nil2
    subst this
    obtain ⟨a, ws, rfl, h1, h2⟩ := listOf_rp r3 e2
    obtain ⟨b, us, rfl, h3, h4⟩ := listOf_rp r5 e3
    exact ⟨a, b, ws, us, rfl, SqL.mono m2.sub h1, SqL.mono m2.sub h3, po _ ρ2 _ G2 H1 fp2 q1 (s1.trans s2) m2 (walks_zip h1 h3 h2 h4)⟩, px⟩
end

/-! ### comprehensions -/
def isUn : Option Sl → Bool
  | some .un => true
  | _ => false
def noB (vs : List Nat) : Env → Bool
  | [] => true
  | .b j _ :: r => !vs.contains j && noB vs r
  | _ :: r => noB vs r
def clr (ρ : Env) (vs : List Nat) : Bool := vs.all (fun i => isUn ρ[i]?) && noB vs ρ
def wipeD (ρ : Env) : List Nat → Env
  | [] => ρ
  | i :: r => (killB i (wipeD ρ r)).set i .un
def dTrue : DT := fun ρ Q _ => Q true ρ
def dLcL (g : DG) (tt : DT) (te : DE) (vs : List Nat) (Q : List D → Env → Prop) : List D → Env → List D → Prop
  | [], ρ, acc => Q acc ρ
  | d :: ds, ρ, acc => g (.t d) ρ fun ρ1 => tt ρ1 (fun b ρ2 => if b = true then te ρ2 (fun r ρ3 => ∃ d' ρ4, tk ρ3 r = some (d', ρ4) ∧ acc.length < 100000 ∧ dLcL g tt te vs Q ds (wipeD ρ4 vs) (acc ++ [d'])) (fun _ _ => False)
      else dLcL g tt te vs Q ds (wipeD ρ2 vs) acc) (fun _ _ => False)
def dLc (ti : DI) (g : DG) (tt : DT) (te : DE) (vs : List Nat) : DE := fun ρ Q E => ti ρ (fun items ρ1 => (vs.all fun i => decide (i < ρ1.length)) = true ∧ dLcL g tt te vs (fun ds ρ2 => Q (.t (.n true .lst ds)) ρ2) items (wipeD ρ1 vs) []) E
section
variable {K : PySem.W.Frag} {pv : Nat → V} {σ σ' γ : St} {ρ : Env} {G H : Hp} {fp : Fps}
theorem noB_get {vs : List Nat} : ∀ {ρ : Env} {i j : Nat} {q : List Nat}, noB vs ρ = true → ρ[i]? = some (Sl.b j q) → j ∉ vs
  | [], _, _, _, _, h => by simp at h
  | s :: r, 0, j, q, h, e => by
    simp only [List.getElem?_cons_zero, Option.some.injEq] at e
    subst e
    simp only [noB, Bool.and_eq_true, Bool.not_eq_true'] at h
    intro z
    have := List.contains_iff_mem.mpr z
    rw [h.1] at this; cases this
  | s :: r, i + 1, j, q, h, e => by
    rw [List.getElem?_cons_succ] at e
    refine noB_get (ρ := r) ?_ e
    cases s <;> simp only [noB, Bool.and_eq_true] at h <;> first | exact h.2 | exact h
/-- slots of which nothing is known may hold anything -/
theorem Mt.cong (m : Mt K pv σ ρ G H fp) {vs : List Nat} (hc : clr ρ vs = true) (hl : σ'.length = σ.length) (h : ∀ i, i ∉ vs → σ'[i]? = σ[i]?) : Mt K pv σ' ρ G H fp := by
  simp only [clr, Bool.and_eq_true, List.all_eq_true] at hc
  have nu : ∀ i s, ρ[i]? = some s → s ≠ .un → i ∉ vs := fun i s e n z => by
    have := hc.1 i z
    rw [e] at this
    cases s <;> simp [isUn] at this
    exact n rfl
  refine ⟨m.sub, by rw [hl]; exact m.len, fun i d e => ?_, fun i d e => ?_, fun i j q e => ?_, m.ap, m.ft⟩
  · obtain ⟨x, h1, h2⟩ := m.sl i d e
    exact ⟨x, by rw [h i (nu i _ e (by intro z; cases z))]; exact h1, h2⟩
  · obtain ⟨h1, h2⟩ := m.pn i d e
    exact ⟨by rw [h i (nu i _ e (by intro z; cases z))]; exact h1, h2⟩
  · obtain ⟨x, y, h1, h2, h3⟩ := m.br i j q e
    exact ⟨x, y, by rw [h j (noB_get hc.2 e)]; exact h1, by rw [h i (nu i _ e (by intro z; cases z))]; exact h2, h3⟩
theorem Mt.forget (m : Mt K pv σ ρ G H fp) (i : Nat) : Mt K pv σ ((killB i ρ).set i .un) G H fp := by
  have gk : ∀ {j : Nat} {s : Sl}, ((killB i ρ).set i .un)[j]? = some s → s ≠ .un → ρ[j]? = some s := fun {j s} h hn => by
    by_cases hj : j = i
    · subst hj
      by_cases hl : j < (killB j ρ).length
      · rw [List.getElem?_set_self hl] at h; cases h; exact absurd rfl hn
      · rw [List.getElem?_eq_none (by rw [List.length_set]; omega)] at h; cases h
    · rw [List.getElem?_set_ne (Ne.symm hj)] at h
      exact (killB_of h hn).1
  exact ⟨m.sub, by rw [List.length_set, killB_len]; exact m.len, fun j d h => m.sl j d (gk h (by intro z; cases z)), fun j d h => m.pn j d (gk h (by intro z; cases z)), fun j k q h => m.br j k q (gk h (by intro z; cases z)), m.ap, m.ft⟩
theorem wipeD_len (ρ : Env) : ∀ vs : List Nat, (wipeD ρ vs).length = ρ.length
  | [] => rfl
  | i :: r => by rw [wipeD, List.length_set, killB_len, wipeD_len ρ r]
theorem Mt.wipeD (m : Mt K pv σ ρ G H fp) : ∀ vs : List Nat, Mt K pv σ (DL.wipeD ρ vs) G H fp
  | [] => m
  | i :: r => (Mt.wipeD m r).forget i
theorem noB_of {vs : List Nat} : ∀ {ρ : Env}, (∀ (i j : Nat) (q : List Nat), ρ[i]? = some (Sl.b j q) → j ∉ vs) → noB vs ρ = true
  | [], _ => rfl
  | s :: r, h => by
    have ih : noB vs r = true := noB_of fun i j q e => h (i + 1) j q (by rw [List.getElem?_cons_succ]; exact e)
    cases s with
    | b j q =>
      have := h 0 j q rfl
      simp only [noB, ih, Bool.and_true, Bool.not_eq_true']
      cases e : vs.contains j with
      | false => rfl
      | true => exact absurd (List.contains_iff_mem.mp e) this
    | un => exact ih
    | v _ => exact ih
    | w _ => exact ih
theorem wipeD_get (ρ : Env) : ∀ (vs : List Nat) (k : Nat), k < ρ.length → ((k ∈ vs → (wipeD ρ vs)[k]? = some Sl.un) ∧ ∀ (j : Nat) (q : List Nat), (wipeD ρ vs)[k]? = some (Sl.b j q) → j ∉ vs)
  | [], k, hk => ⟨(fun z => by cases z), (fun j q _ z => by cases z)⟩
  | i :: r, k, hk => by
    obtain ⟨h1, h2⟩ := wipeD_get ρ r k hk
    have hl : ∀ k, k < ρ.length → k < (killB i (wipeD ρ r)).length := fun k h => by rw [killB_len, wipeD_len]; exact h
    rw [wipeD]
    by_cases hki : k = i
    · subst hki
      rw [List.getElem?_set_self (hl k hk)]
      exact ⟨fun _ => rfl, fun j q z => by cases z⟩
    · rw [List.getElem?_set_ne (Ne.symm hki), killB_get]
      refine ⟨fun z => ?_, fun j q z => ?_⟩
      · rcases List.mem_cons.mp z with z | z
        · exact absurd z hki
        · rw [h1 z]; rfl
      · cases e : (wipeD ρ r)[k]? with
        | none => rw [e] at z; cases z
        | some s =>
          rw [e] at z
          simp only [Option.map_some, Option.some.injEq] at z
          cases s with
          | un => cases z
          | v _ => cases z
          | w _ => cases z
          | b j' q' =>
            simp only at z
            split at z
            · cases z
            · rename_i hne
              cases z
              intro y
              rcases List.mem_cons.mp y with y | y
              · exact hne y
              · exact h2 _ _ e y
theorem clr_wipeD (ρ : Env) (vs : List Nat) (h : ∀ i ∈ vs, i < ρ.length) : clr (DL.wipeD ρ vs) vs = true := by
  simp only [clr, Bool.and_eq_true, List.all_eq_true]
  refine ⟨fun i hi => by rw [(wipeD_get ρ vs i (h i hi)).1 hi]; rfl, noB_of fun i j q e => ?_⟩
  have hi : i < ρ.length := by
    have := (List.getElem?_eq_some_iff.mp e).1
    rwa [wipeD_len] at this
  exact (wipeD_get ρ vs i hi).2 j q e
theorem clr_lt {ρ : Env} {vs : List Nat} (h : clr ρ vs = true) : ∀ i ∈ vs, i < ρ.length := fun i hi => by
  simp only [clr, Bool.and_eq_true, List.all_eq_true] at h
  have := h.1 i hi
  cases e : ρ[i]? with
  | none => rw [e] at this; cases this
  | some s => exact (List.getElem?_eq_some_iff.mp e).1
theorem wipe_get {σ : St} {vs : List Nat} {i : Nat} (h : i ∉ vs) : (wipe σ vs)[i]? = σ[i]? := by
  induction vs with
  | nil => rfl
  | cons j r ih =>
    have h1 : j ≠ i := fun z => h (by rw [z]; exact List.mem_cons_self ..)
    rw [wipe, List.getElem?_set_ne h1]
    exact ih fun z => h (List.mem_cons_of_mem _ z)
theorem wipe_in {σ : St} : ∀ {vs : List Nat} {i : Nat}, i ∈ vs → i < σ.length → (wipe σ vs)[i]? = some none
  | [], _, h, _ => by cases h
  | j :: r, i, h, hl => by
    rw [wipe]
    by_cases e : j = i
    · subst e
      exact List.getElem?_set_self (by rw [wipe_length]; exact hl)
    · rw [List.getElem?_set_ne e]
      rcases List.mem_cons.mp h with z | z
      · exact absurd z.symm e
      · exact wipe_in z hl
theorem wipe_eq {σ σ2 : St} {vs : List Nat} (hl : σ2.length = σ.length) (h : ∀ i, i ∉ vs → σ2[i]? = (wipe σ vs)[i]?) : wipe σ2 vs = wipe σ vs := by
  refine List.ext_getElem? fun i => ?_
  by_cases hi : i ∈ vs
  · by_cases hl' : i < σ.length
    · rw [wipe_in hi hl', wipe_in hi (by rw [hl]; exact hl')]
    · rw [List.getElem?_eq_none (by rw [wipe_length]; omega), List.getElem?_eq_none (by rw [wipe_length]; omega)]
  · rw [wipe_get hi]
    exact h i hi
theorem app_get {a b c : St} (hl : a.length = b.length) {i : Nat} (h : a[i]? = b[i]?) : (a ++ c)[i]? = (b ++ c)[i]? := by
  by_cases hi : i < a.length
  · rw [List.getElem?_append_left hi, List.getElem?_append_left (by rw [← hl]; exact hi)]; exact h
  · rw [List.getElem?_append_right (by omega), List.getElem?_append_right (by omega), hl]
end
def WF : WX := fun _ _ _ _ => False
theorem lcE {X : Cx} {cn : String → Addr} {E : WX} {ti : DI} {g : DG} {tt : DT} {te : DE} {vs : List Nat} {σ : St} {H : Hp} {Q : VK} :
    liftE X.K cn E (dLc ti g tt te vs) σ H Q → tLc (liftI X.K cn E ti) (liftG X.K vs g) (liftT X.K cn WF tt) (liftE X.K cn WF te) vs σ H Q := by
  rintro ⟨pv, γ, ρ, G, fp, Q0, E0, m, q, po, px⟩
  refine ⟨pv, γ, ρ, G, fp, _, _, m, q, fun items ρ0 J G0 H0 fp0 ⟨hb0, q0⟩ s0 m00 wk L hL => ?_, px⟩
  have hc0 := clr_wipeD ρ0 vs fun i hi => of_decide_eq_true (List.all_eq_true.mp hb0 i hi)
  have m0 := m00.wipeD vs
  have wl : (wipe σ vs).length = σ.length := wipe_length σ vs
  have toW : ∀ {ρ G H fp}, Mt X.K pv (σ ++ γ) ρ G H fp → clr ρ vs = true → Mt X.K pv (wipe σ vs ++ γ) ρ G H fp := fun m hc =>
    m.cong hc (by rw [List.length_append, List.length_append, wl]) fun i hi => app_get wl (wipe_get hi)
  have ofW : ∀ {ρ G H fp}, Mt X.K pv (wipe σ vs ++ γ) ρ G H fp → clr ρ vs = true → Mt X.K pv (σ ++ γ) ρ G H fp := fun m hc =>
    m.cong hc (by rw [List.length_append, List.length_append, wl]) fun i hi => app_get wl.symm (wipe_get hi).symm
  have hG0 : G0 L = none := by
    cases z : G0 L with
    | none => rfl
    | some o => rw [m0.sub L o z] at hL; cases hL
  have sN : Stp G0 H0 (fun _ => False) G0 (L2.upd H0 L (.lst [])) (fun a => a = L) := ⟨fun _ _ z => z, fun a o z _ => by rw [upd_ne (ne_of_none z hL)]; exact z, fun _ _ _ z _ => z, fun a z => .inr (by rw [z]; exact hL)⟩
  refine ⟨fun i k H' => ∃ ρ' G' fp' accV ds F, k = items.length - i ∧ i ≤ items.length ∧ Sub G0 G' ∧ Mt X.K pv (wipe σ vs ++ γ) ρ' G' H' fp' ∧ clr ρ' vs = true ∧ H' L = some (.lst accV) ∧ G' L = none ∧ L ∉ F ∧ RpL X.K G' H' accV ds F ∧
      (∀ a, a = L ∨ a ∈ F → ¬ InF fp' a) ∧ dLcL g tt te vs (fun ds ρ2 => Q0 (.t (.n true .lst ds)) ρ2) (items.drop i) ρ' ds ∧ Stp G H (InF fp) G' H' (fun a => InF fp' a ∨ a = L ∨ a ∈ F),
    ⟨items.length, _, G0, fp0, [], [], [], by omega, Nat.zero_le _, fun _ _ z => z, toW (m0.step sN (m0.sub.upd hL)) hc0, hc0, upd_same, hG0, by simp, .nil, fun a z y => ?_, q0, ?_⟩, ?_⟩
  · obtain ⟨j, hj⟩ := y
    obtain ⟨_, o, ho⟩ := m0.ft j a hj
    rcases z with z | z
    · rw [z, hL] at ho; cases ho
    · cases z
  · exact s0.trans (sN.mono (fun _ z => z.elim) fun a z => z.elim .inr fun z => z.elim .inl fun z => by cases z)
  rintro i k H1 ⟨ρ1, G1, fp1, accV, ds, F, rfl, hi, sg, m1, hc1, hL1, hG1, hLF, r1, ap1, q1, s1⟩
  obtain ⟨w1, w2⟩ := wk G1 H1 sg m1.sub
  by_cases hlt : i < items.length
  · obtain ⟨go, yl⟩ := w1 i _ (List.getElem?_eq_getElem hlt)
    refine .inr ⟨go, fun H' => ∃ ρ' G' fp' accV ds F, Sub G0 G' ∧ Mt X.K pv (wipe σ vs ++ γ) ρ' G' H' fp' ∧ clr ρ' vs = true ∧ H' L = some (.lst accV) ∧ G' L = none ∧ L ∉ F ∧ RpL X.K G' H' accV ds F ∧
      (∀ a, a = L ∨ a ∈ F → ¬ InF fp' a) ∧ dLcL g tt te vs (fun ds ρ2 => Q0 (.t (.n true .lst ds)) ρ2) (items.drop (i + 1)) ρ' ds ∧ Stp G H (InF fp) G' H' (fun a => InF fp' a ∨ a = L ∨ a ∈ F),
      fun H' ⟨ρ', G', fp', accV, ds, F, z⟩ => ⟨items.length - (i + 1), by omega, ρ', G', fp', accV, ds, F, rfl, hlt, z⟩, fun x H2 hy => ?_⟩
    obtain ⟨G2, s2, hs2, r2⟩ := yl x H2 hy
    rw [List.drop_eq_getElem_cons hlt] at q1
    have m2 := m1.step s2 hs2
    refine ⟨pv, γ, ρ1, G2, fp1, .t items[i], [], _, m2, ⟨r2, fun a z => by cases z⟩, q1, fun ρ3 σ3 G3 H3 fp3 q3 s3 m3 l3 f3 => ?_⟩
    have e3 : wipe σ3 vs = wipe σ vs := wipe_eq (by rw [l3, wl]) f3
    refine ⟨e3, ?_⟩
    have s3' : Stp G2 H2 (InF fp1) G3 H3 (InF fp3) := s3.mono (fun a z => z.elim id fun z => by cases z) fun _ z => .inl z
    refine ⟨pv, γ, ρ3, G3, fp3, _, _, m3, q3, fun b ρ4 G4 H4 fp4 q4 s4 m4 => ?_, fun _ _ _ _ _ _ _ _ z => z.elim⟩
    -- from the turn's start: what was made so far stands
    have back : ∀ {ρ5 G5 H5 fp5}, Mt X.K pv (σ3 ++ γ) ρ5 G5 H5 fp5 → Mt X.K pv (wipe σ vs ++ γ) (DL.wipeD ρ5 vs) G5 H5 fp5 ∧ clr (DL.wipeD ρ5 vs) vs = true := fun {ρ5 G5 H5 fp5} m5 => by
      have hlt5 : ∀ i ∈ vs, i < ρ5.length := fun i hi => by
        have := clr_lt hc1 i hi
        rw [m5.len]
        rw [m1.len] at this
        rw [List.length_append] at this ⊢
        rw [l3]; exact this
      have hc5 := clr_wipeD ρ5 vs hlt5
      refine ⟨(m5.wipeD vs).cong hc5 (by rw [List.length_append, List.length_append, l3]) fun j hj => app_get l3.symm (f3 j hj).symm, hc5⟩
    have s14 : Stp G1 H1 (InF fp1) G4 H4 (InF fp4) := ((s2.mono (fun _ z => z.elim) fun _ z => .inr z : Stp G1 H1 (InF fp1) G2 H2 (InF fp1)).trans s3').trans s4
    have keep : ∀ {G5 H5 P5}, Stp G1 H1 (InF fp1) G5 H5 P5 → H5 L = some (.lst accV) ∧ G5 L = none ∧ RpL X.K G5 H5 accV ds F ∧ ∀ a, a = L ∨ a ∈ F → ¬ P5 a := fun {G5 H5 P5} s5 => by
      have hLn : ¬ InF fp1 L := ap1 L (.inl rfl)
      refine ⟨s5.h L _ hL1 hLn, s5.n L _ hL1 hG1 hLn, r1.mov s5.g _ fun a ha o hg ho => ⟨s5.n a o ho hg (ap1 a (.inr ha)), s5.h a o ho (ap1 a (.inr ha))⟩, fun a z y => ?_⟩
      have ho : ∃ o, H1 a = some o := by
        rcases z with z | z
        · rw [z]; exact ⟨_, hL1⟩
        · exact (RpL.foot _ r1 a z).2
      rcases s5.f a y with u | u
      · exact ap1 a z u
      · obtain ⟨o, ho⟩ := ho
        rw [u] at ho; cases ho
    cases b with
    | false =>
      obtain ⟨k1, k2, k3, k4⟩ := keep s14
      obtain ⟨b1, b2⟩ := back m4
      exact ⟨_, G4, fp4, accV, ds, F, fun a o z => s14.g a o (sg a o z), b1, b2, k1, k2, hLF, k3, k4, q4, s1.trans (s14.mono (fun a z => .inl z) fun a z => z.elim .inl fun z => .inr (.inr z))⟩
    | true =>
      refine ⟨pv, γ, ρ4, G4, fp4, _, _, m4, q4, fun r ρ5 v G5 H5 fp5 F5 ⟨d', ρ6, e6, hz, q6⟩ s5 m5 o5 => ?_, fun _ _ _ _ _ _ _ _ z => z.elim⟩
      obtain ⟨G6, fp6, s6, m6, r6, i6⟩ := tk_ok m5 o5 (fun _ z => z) e6
      have s56 : Stp G4 H4 (InF fp4) G6 H5 (fun a => InF fp6 a ∨ a ∈ F5) := s5.trans (s6.mono (fun _ z => .inl z) fun a z => z.elim .inl fun z => .inr (.inr z))
      have s16 := s14.trans s56
      obtain ⟨k1, k2, k3, k4⟩ := keep s16
      refine ⟨accV, k1, by rw [k3.len]; exact Nat.lt_of_lt_of_le hz (by decide), ?_⟩
      have hLF5 : L ∉ F5 := fun z => k4 L (.inl rfl) (.inr z)
      have dF : ∀ a ∈ F, a ∉ F5 := fun a ha z => k4 a (.inr ha) (.inr z)
      have hLfp : ∀ a, InF fp6 a → a ≠ L := fun a z y => k4 a (.inl y) (.inl z)
      have d5 : ∀ a ∈ F5, ¬ InF fp6 a := fun a ha z => o5.apart a ha (i6 a z)
      have su : Sub G6 (L2.upd H5 L (.lst (accV ++ [v]))) := fun a o z => by
        by_cases e : a = L
        · rw [e, k2] at z; cases z
        · rw [upd_ne e]; exact m6.sub a o z
      have m7 : Mt X.K pv (σ3 ++ γ) ρ6 G6 (L2.upd H5 L (.lst (accV ++ [v]))) fp6 :=
        m6.move (fun _ _ z => z) su (fun a o z e => by rw [upd_ne (hLfp a z)]; exact e) fun a ⟨j, ha⟩ => (m6.ft j a ha).1
      obtain ⟨b1, b2⟩ := back m7
      have rr : RpL X.K G6 (L2.upd H5 L (.lst (accV ++ [v]))) (accV ++ [v]) (ds ++ [d']) (F ++ F5) :=
        RpL.mov (fun _ _ z => z) _ (k3.app (RpL.one r6) dF) fun a ha o hg ho => ⟨hg, by
          rw [upd_ne]
          · exact ho
          · intro z
            subst z
            rcases List.mem_append.mp ha with ha | ha
            · exact hLF ha
            · exact hLF5 ha⟩
      have sU : Stp G6 H5 (fun a => InF fp6 a ∨ a = L ∨ a ∈ F ++ F5) G6 (L2.upd H5 L (.lst (accV ++ [v]))) (fun a => InF fp6 a ∨ a = L ∨ a ∈ F ++ F5) :=
        ⟨fun _ _ z => z, fun a o z n => by rw [upd_ne fun e => n (.inr (.inl e))]; exact z, fun _ _ _ z _ => z, fun _ z => .inl z⟩
      refine ⟨_, G6, fp6, accV ++ [v], ds ++ [d'], F ++ F5, fun a o z => s16.g a o (sg a o z), b1, b2, upd_same, k2, fun z => ?_, rr, fun a z => ?_, q6, ?_⟩
      · rcases List.mem_append.mp z with z | z
        · exact hLF z
        · exact hLF5 z
      · rcases z with z | z
        · exact fun y => hLfp a y z
        · rcases List.mem_append.mp z with z | z
          · exact fun y => k4 a (.inr z) (.inl y)
          · exact d5 a z
      · refine (s1.trans (s16.mono (Q := fun a => InF fp1 a ∨ a = L ∨ a ∈ F) (Q' := fun a => InF fp6 a ∨ a = L ∨ a ∈ F ++ F5) (fun a z => .inl z) fun a z => ?_)).trans sU
        rcases z with z | z | z
        · exact .inl (.inl z)
        · exact .inr (.inr (.inl z))
        · rcases List.mem_append.mp z with z | z
          · exact .inr (.inr (.inr z))
          · exact .inl (.inr z)
  · refine .inl ⟨w2 i (by omega), ?_⟩
    rw [List.drop_of_length_le (by omega)] at q1
    have m' := ofW m1 hc1
    exact po _ ρ1 (.ref L) G1 H1 fp1 (L :: F) q1 (s1.mono (fun _ z => z) fun a z => .inl (z.elim .inl fun z => .inr (List.mem_cons.mp z))) m' ⟨Rp.o hG1 hL1 hLF r1, fun a z => ap1 a (List.mem_cons.mp z)⟩
theorem je_lc {X : Cx} {cn : String → Addr} {E : WX} {e : Expr} {ti : DI} {g : DG} {tt : DT} {te : DE} {vs : List Nat}
    (h : PE X e (tLc (liftI X.K cn E ti) (liftG X.K vs g) (liftT X.K cn WF tt) (liftE X.K cn WF te) vs)) : JE X cn E e (dLc ti g tt te vs) := pe_imp h fun σ H Q q => lcE q
end DL
/-! DL8: defs: their promises over deep values, their calls. -/
namespace DL
open PySem L2

/-- what is handed in, what is wanted of the value and of what was handed in, what of an error -/
abbrev SpD := List D → (D → List D → Prop) → (Exn → List D → Prop) → Prop
def lower (K : PySem.W.Frag) (cn : String → Addr) (s : SpD) : Sp := fun vs H Q E => ∃ G ds F Q0 E0, Sub G H ∧ RpL K G H vs ds F ∧ s ds Q0 E0 ∧
  (∀ r ds' v G' H' Fr F', Q0 r ds' → Stp G H (fun a => a ∈ F) G' H' (fun a => a ∈ Fr ∨ a ∈ F') → Sub G' H' → RpL K G' H' vs ds' F' → Rp K G' H' v r Fr → (∀ a ∈ Fr, a ∉ F') → Q v H') ∧
  (∀ x ds' cls dx G' H' F', E0 x ds' → Stp G H (fun a => a ∈ F) G' H' (fun a => a ∈ F') → Sub G' H' → RpL K G' H' vs ds' F' → ExOk K cn G' H' x cls dx → E cls dx H')

/-! ### a call -/
/-- what a slot holds is handed over -/
def outV (ρ : Env) : Rv → Option (D × Env)
  | .t d => some (d, ρ)
  | .s i => match ρ[i]? with
    | some (.v d) => some (d, (killB i ρ).set i .un)
    | some (.w d) => some (d, (killB i ρ).set i .un)
    | _ => none
/-- .. and handed back -/
def backV (ρ0 ρ : Env) (r : Rv) (d : D) : Option Env := match r with
  | .t _ => some ρ
  | .s i => if (isUn ρ[i]? && noB [i] ρ) = true then match ρ0[i]? with
    | some (.v _) => some (ρ.set i (.v d))
    | some (.w _) => some (ρ.set i (.w d))
    | _ => none
    else none
def argL : List Bool → Env → List Rv → Option (List D × Env)
  | [], ρ, [] => some ([], ρ)
  | true :: ms, ρ, r :: rs => match outV ρ r with
    | some (d, ρ1) => match argL ms ρ1 rs with
      | some (ds, ρ2) => some (d :: ds, ρ2)
      | none => none
    | none => none
  | false :: ms, ρ, r :: rs => match tkF ρ r with
    | some (d, ρ1) => match argL ms ρ1 rs with
      | some (ds, ρ2) => some (d :: ds, ρ2)
      | none => none
    | none => none
  | _, _, _ => none
def backL (ρ0 : Env) : List Bool → Env → List Rv → List D → Option Env
  | [], ρ, [], [] => some ρ
  | true :: ms, ρ, r :: rs, d :: ds => match backV ρ0 ρ r d with
    | some ρ1 => backL ρ0 ms ρ1 rs ds
    | none => none
  | false :: ms, ρ, _ :: rs, _ :: ds => backL ρ0 ms ρ rs ds
  | _, _, _, _ => none
def dCall (ms : List Bool) (s : SpD) (t : DA) : DE := fun ρ Q E => t ρ (fun rs ρ1 => ∃ ds ρ2, argL ms ρ1 rs = some (ds, ρ2) ∧
  s ds (fun res ds' => ∃ ρ3, backL ρ1 ms ρ2 rs ds' = some ρ3 ∧ Q (.t res) ρ3) (fun x ds' => ∃ ρ3, backL ρ1 ms ρ2 rs ds' = some ρ3 ∧ E x ρ3)) E

section
variable {K : PySem.W.Frag} {cn : String → Addr} {pv : Nat → V} {σ γ : St} {n : Nat} {ρ : Env} {G H G' H' : Hp} {fp fp' : Fps} {E : WX}
theorem Mt.outS {i : Nat} {s : Sl} (m : Mt K pv σ ρ G H fp) : Mt K pv σ ((killB i ρ).set i .un) G H (updF fp i []) := by
  have gk : ∀ {j : Nat} {s : Sl}, ((killB i ρ).set i .un)[j]? = some s → s ≠ .un → j ≠ i ∧ ρ[j]? = some s ∧ ∀ q, s ≠ .b i q := fun {j s} h hn => by
    by_cases hj : j = i
    · subst hj
      by_cases hl : j < (killB j ρ).length
      · rw [List.getElem?_set_self hl] at h; cases h; exact absurd rfl hn
      · rw [List.getElem?_eq_none (by rw [List.length_set]; omega)] at h; cases h
    · rw [List.getElem?_set_ne (Ne.symm hj)] at h
      exact ⟨hj, killB_of h hn⟩
  refine ⟨m.sub, by rw [List.length_set, killB_len]; exact m.len, fun j d' h => ?_, fun j d' h => ?_, fun j k q h => ?_, fun j k hjk a ha => ?_, fun j a ha => ?_⟩
  · obtain ⟨hj, h1, _⟩ := gk h (by intro z; cases z)
    rw [updF_ne hj]
    exact m.sl j d' h1
  · obtain ⟨hj, h1, _⟩ := gk h (by intro z; cases z)
    rw [updF_ne hj]
    exact m.pn j d' h1
  · obtain ⟨hj, h1, h2⟩ := gk h (by intro z; cases z)
    obtain ⟨x, y, g1, g2, g3⟩ := m.br j k q h1
    have hk : k ≠ i := fun z => h2 q (by rw [z])
    exact ⟨x, y, g1, g2, by rw [updF_ne hk]; exact g3⟩
  · by_cases hj : j = i
    · subst hj; rw [updF_same] at ha; cases ha
    · rw [updF_ne hj] at ha
      by_cases hk : k = i
      · subst hk; rw [updF_same]; simp
      · rw [updF_ne hk]; exact m.ap j k hjk a ha
  · by_cases hj : j = i
    · subst hj; rw [updF_same] at ha; cases ha
    · rw [updF_ne hj] at ha
      exact m.ft j a ha
theorem outV_ok {r : Rv} {v : V} {d : D} {ρ' : Env} {P : Addr → Prop} {F : List Addr} (m : Mt K pv σ ρ G H fp) (o : RvOk K σ G H P v r F) (hP : ∀ a, InF fp a → P a) (e : outV ρ r = some (d, ρ')) :
    ∃ fp' F', Mt K pv σ ρ' G H fp' ∧ Rp K G H v d F' ∧ (∀ a ∈ F', ¬ InF fp' a) ∧ (∀ a ∈ F', InF fp a ∨ a ∈ F) ∧ ∀ a, InF fp' a → InF fp a := by
  cases r with
  | t d' =>
    cases e
    exact ⟨fp, F, m, o.1, fun a ha z => o.2 a ha (hP a z), fun a ha => .inr ha, fun _ z => z⟩
  | s i =>
    obtain ⟨o1, o2⟩ := o
    have key : ∀ {d0 : D}, (∃ x, σ[i]? = some (some x) ∧ Rp K G H x d0 (fp i)) → d = d0 → ρ' = (killB i ρ).set i .un →
        ∃ fp' F', Mt K pv σ ρ' G H fp' ∧ Rp K G H v d F' ∧ (∀ a ∈ F', ¬ InF fp' a) ∧ (∀ a ∈ F', InF fp a ∨ a ∈ F) ∧ ∀ a, InF fp' a → InF fp a := fun {d0} ⟨x, h1, h2⟩ e1 e2 => by
      subst e1 e2
      rw [o1] at h1; cases h1
      refine ⟨updF fp i [], fp i, m.outS (s := .un), h2, fun a ha z => ?_, fun a ha => .inl ⟨i, ha⟩, fun a z => ?_⟩
      · obtain ⟨j, hj⟩ := z
        by_cases e : j = i
        · subst e; rw [updF_same] at hj; cases hj
        · rw [updF_ne e] at hj; exact m.ap j i e a hj ha
      · rcases InF.updF z with z | z
        · exact z
        · cases z
    unfold outV at e
    simp only at e
    split at e
    · rename_i d0 h
      cases e
      exact key (m.sl i _ h) rfl rfl
    · rename_i d0 h
      cases e
      exact key ⟨_, m.pn i _ h⟩ rfl rfl
    · cases e
/-- the arguments of a call -/
theorem argL_ok : ∀ {ms : List Bool} {rs : List Rv} {ρ ρ' : Env} {G : Hp} {fp : Fps} {P : Addr → Prop} {vs : List V} {F : List Addr} {ds : List D}, Mt K pv σ ρ G H fp → RvsOk K σ G H P vs rs F → (∀ a, InF fp a → P a) → argL ms ρ rs = some (ds, ρ') →
    ∃ G' fp' F', Stp G H (fun a => InF fp a ∨ a ∈ F) G' H (fun a => InF fp' a ∨ a ∈ F') ∧ Mt K pv σ ρ' G' H fp' ∧ RpL K G' H vs ds F' ∧ (∀ a ∈ F', ¬ InF fp' a) ∧ (∀ a ∈ F', InF fp a ∨ a ∈ F) ∧ ∀ a, InF fp' a → InF fp a
  | [], [], ρ, ρ', G, fp, P, _, _, ds, m, .nil, _, e => by
    simp only [argL, Option.some.injEq, Prod.mk.injEq] at e
    obtain ⟨e1, e2⟩ := e
    subst e1 e2
    exact ⟨G, fp, [], (Stp.refl _ _ _), m, .nil, (fun a z => by cases z), (fun a z => by cases z), fun _ z => z⟩
  | true :: ms, r :: rs, ρ, ρ', G, fp, P, _, _, ds, m, .cons (vs := vs1) (F := F0) (F' := F1) h t, hP, e => by
    simp only [argL] at e
    split at e
    · rename_i d ρ1 e1
      split at e
      · rename_i ds' ρ2 e2
        cases e
        obtain ⟨fp1, Fa, m1, r1, a1, b1, i1⟩ := outV_ok m h hP e1
        have t1 : RvsOk K σ G H (fun a => InF fp1 a ∨ a ∈ Fa) vs1 rs F1 := t.add fun a z => .inl (by
          rcases z with z | z
          · exact .inl (hP a (i1 a z))
          · rcases b1 a z with z | z
            · exact .inl (hP a z)
            · exact .inr z)
        obtain ⟨G2, fp2, Fb, s2, m2, r2, a2, b2, i2⟩ := argL_ok m1 t1 (fun a z => .inl z) e2
        have disj : ∀ a ∈ Fa, ¬ (InF fp1 a ∨ a ∈ F1) := fun a ha z => by
          rcases z with z | z
          · exact a1 a ha z
          · exact RvsOk.foot t1 a z (.inr ha)
        obtain ⟨r1', d1'⟩ := Rp.frame r1 s2 disj
        refine ⟨G2, fp2, Fa ++ Fb, ?_, m2, .cons r1' r2 fun a ha hb => d1' a ha (.inr hb), fun a ha z => ?_, fun a ha => ?_, fun a z => i1 a (i2 a z)⟩
        · refine s2.mono (fun a z => ?_) fun a z => ?_
          · rcases z with z | z
            · exact .inl (i1 a z)
            · exact .inr (List.mem_append_right _ z)
          · rcases z with z | z
            · exact .inl (.inl z)
            · rcases List.mem_append.mp z with z | z
              · rcases b1 a z with z | z
                · exact .inr (.inl z)
                · exact .inr (.inr (List.mem_append_left _ z))
              · exact .inl (.inr z)
        · rcases List.mem_append.mp ha with ha | ha
          · exact d1' a ha (.inl z)
          · exact a2 a ha z
        · rcases List.mem_append.mp ha with ha | ha
          · rcases b1 a ha with z | z
            · exact .inl z
            · exact .inr (List.mem_append_left _ z)
          · rcases b2 a ha with z | z
            · exact .inl (i1 a z)
            · exact .inr (List.mem_append_right _ z)
      · cases e
    · cases e
  | false :: ms, r :: rs, ρ, ρ', G, fp, P, _, _, ds, m, .cons (vs := vs1) (F := F0) (F' := F1) h t, hP, e => by
    simp only [argL] at e
    split at e
    · rename_i d ρ1 e1
      split at e
      · rename_i ds' ρ2 e2
        cases e
        obtain ⟨G1, fp1, s1, m1, r1, i1⟩ := tkF_ok m h hP e1
        have t1 : RvsOk K σ G1 H (InF fp1) vs1 rs F1 := by
          have s1' : Stp G H (fun a => P a ∨ a ∈ F0) G1 H (InF fp1) := s1.mono (fun a z => z.elim (fun z => .inl (hP a z)) .inr) fun a z => .inl z
          exact t.frame s1'
        obtain ⟨G2, fp2, Fb, s2, m2, r2, a2, b2, i2⟩ := argL_ok m1 t1 (fun a z => z) e2
        refine ⟨G2, fp2, Fb, ?_, m2, ?_, a2, fun a ha => ?_, fun a z => i1 a (i2 a z)⟩
        · refine (s1.mono (Q := fun a => InF fp a ∨ a ∈ F0 ++ F1) (Q' := fun a => InF fp1 a ∨ a ∈ F0 ++ F1) (fun a z => z.elim .inl fun z => .inr (List.mem_append_left _ z)) fun a z => z.elim .inl fun z => .inr (.inr z)).trans ?_
          exact s2.mono (fun a z => z.elim .inl fun z => .inr (List.mem_append_right _ z)) fun a z => .inl z
        · have := RpL.cons (F := []) (F' := Fb) (r1.mov0 s2.g) r2 fun a z => by cases z
          exact this
        · rcases b2 a ha with z | z
          · exact .inl (i1 a z)
          · exact .inr (List.mem_append_right _ z)
      · cases e
    · cases e
  | [], _ :: _, _, _, _, _, _, _, _, _, _, _, _, e => by simp only [argL] at e; cases e
  | true :: _, [], _, _, _, _, _, _, _, _, _, _, _, e => by simp only [argL] at e; cases e
  | false :: _, [], _, _, _, _, _, _, _, _, _, _, _, e => by simp only [argL] at e; cases e
/-- a value put back where nothing was known -/
theorem Mt.give {i : Nat} {d : D} {s : Sl} {x : V} {F : List Addr} (m : Mt K pv σ ρ G H fp) (hi : ρ[i]? = some Sl.un) (hs : s = .v d ∨ (s = .w d ∧ x = pv i)) (hx : σ[i]? = some (some x)) (r : Rp K G H x d F) (hd : ∀ a ∈ F, ¬ InF fp a) (hb : ∀ (j : Nat) (q : List Nat), ρ[j]? ≠ some (Sl.b i q)) :
    Mt K pv σ (ρ.set i s) G H (updF fp i F) := by
  have hl : i < ρ.length := (List.getElem?_eq_some_iff.mp hi).1
  have gk : ∀ {j : Nat} {s' : Sl}, j ≠ i → (ρ.set i s)[j]? = some s' → ρ[j]? = some s' := fun {j s'} hj h => by
    rwa [List.getElem?_set_ne (Ne.symm hj)] at h
  refine ⟨m.sub, by rw [List.length_set]; exact m.len, fun j d' h => ?_, fun j d' h => ?_, fun j k q h => ?_, fun j k hjk a ha => ?_, fun j a ha => ?_⟩
  · by_cases hj : j = i
    · subst hj
      rw [List.getElem?_set_self hl] at h
      cases h
      rcases hs with hs | ⟨hs, _⟩
      · cases hs; exact ⟨x, hx, by rw [updF_same]; exact r⟩
      · cases hs
    · rw [updF_ne hj]; exact m.sl j d' (gk hj h)
  · by_cases hj : j = i
    · subst hj
      rw [List.getElem?_set_self hl] at h
      cases h
      rcases hs with hs | ⟨hs, e⟩
      · cases hs
      · cases hs; subst e; exact ⟨hx, by rw [updF_same]; exact r⟩
    · rw [updF_ne hj]; exact m.pn j d' (gk hj h)
  · by_cases hj : j = i
    · subst hj
      rw [List.getElem?_set_self hl] at h
      cases h
      rcases hs with hs | ⟨hs, _⟩ <;> cases hs
    · have h' := gk hj h
      obtain ⟨x', y, h1, h2, h3⟩ := m.br j k q h'
      have hk : k ≠ i := fun z => hb j q (by rw [← z]; exact h')
      exact ⟨x', y, h1, h2, by rw [updF_ne hk]; exact h3⟩
  · by_cases hj : j = i
    · subst hj
      rw [updF_same] at ha
      rw [updF_ne (Ne.symm hjk)]
      exact fun z => hd a ha ⟨k, z⟩
    · rw [updF_ne hj] at ha
      by_cases hk : k = i
      · subst hk; rw [updF_same]; exact fun z => hd a z ⟨j, ha⟩
      · rw [updF_ne hk]; exact m.ap j k hjk a ha
  · by_cases hj : j = i
    · subst hj; rw [updF_same] at ha; exact Rp.foot _ r a ha
    · rw [updF_ne hj] at ha
      exact m.ft j a ha
end
section
variable {K : PySem.W.Frag} {cn : String → Addr} {pv : Nat → V} {σ γ : St} {n : Nat} {ρ : Env} {G H G' H' : Hp} {fp fp' : Fps} {E : WX}
theorem isUn_eq {o : Option Sl} (h : isUn o = true) : o = some Sl.un := by
  cases o with
  | none => cases h
  | some s => cases s <;> first | rfl | cases h
theorem backL_ok {ρ0 : Env} {G0 H0 : Hp} {fp0 : Fps} (m0 : Mt K pv σ ρ0 G0 H0 fp0) : ∀ {ms : List Bool} {rs : List Rv} {ρ ρ' : Env} {fp : Fps} {P : Addr → Prop} {vs : List V} {F F0 : List Addr} {ds : List D} {G1 H1 : Hp}, Mt K pv σ ρ G H fp → RvsOk K σ G1 H1 P vs rs F0 → RpL K G H vs ds F → (∀ a ∈ F, ¬ InF fp a) → backL ρ0 ms ρ rs ds = some ρ' →
    ∃ fp', Mt K pv σ ρ' G H fp' ∧ ∀ a, InF fp' a → InF fp a ∨ a ∈ F
  | [], [], ρ, ρ', fp, P, vs, F, F0, ds, _, _, m, o, r, d, e => by
    cases ds with
    | nil =>
      simp only [backL, Option.some.injEq] at e
      subst e
      exact ⟨fp, m, fun a z => .inl z⟩
    | cons _ _ => simp only [backL] at e; cases e
  | true :: ms, .t d0 :: rs, ρ, ρ', fp, P, _, F, _, ds, _, _, m, .cons h t, r, d, e => by
    cases r with
    | cons r1 r2 r3 =>
      simp only [backL, backV] at e
      obtain ⟨fp', m', i'⟩ := backL_ok m0 m t r2 (fun a ha => d a (List.mem_append_right _ ha)) e
      exact ⟨fp', m', fun a z => (i' a z).elim .inl fun z => .inr (List.mem_append_right _ z)⟩
  | true :: ms, .s i :: rs, ρ, ρ', fp, P, _, F, _, ds, _, _, m, .cons (v := v) h t, r, d, e => by
    cases r with
    | @cons _ vs' d1 ds' Fa Fb r1 r2 r3 =>
      simp only [backL] at e
      split at e
      · rename_i ρ1 e1
        unfold backV at e1
        simp only at e1
        split at e1
        · rename_i hc
          simp only [Bool.and_eq_true] at hc
          have hu := isUn_eq hc.1
          have hb : ∀ (j : Nat) (q : List Nat), ρ[j]? ≠ some (Sl.b i q) := fun j q z => noB_get hc.2 z (by simp)
          have hx : σ[i]? = some (some v) := h.1
          have key : ∀ {s : Sl}, ρ1 = ρ.set i s → (s = .v d1 ∨ (s = .w d1 ∧ v = pv i)) → ∃ fp', Mt K pv σ ρ' G H fp' ∧ ∀ a, InF fp' a → InF fp a ∨ a ∈ Fa ++ Fb := fun {s} e2 hs => by
            subst e2
            have m1 := m.give hu hs hx r1 (fun a ha => d a (List.mem_append_left _ ha)) hb
            obtain ⟨fp', m', i'⟩ := backL_ok m0 m1 t r2 (fun a ha z => by
              rcases InF.updF z with z | z
              · exact d a (List.mem_append_right _ ha) z
              · exact r3 a z ha) e
            refine ⟨fp', m', fun a z => ?_⟩
            rcases i' a z with z | z
            · rcases InF.updF z with z | z
              · exact .inl z
              · exact .inr (List.mem_append_left _ z)
            · exact .inr (List.mem_append_right _ z)
          split at e1
          · cases e1; exact key rfl (.inl rfl)
          · rename_i d0 hw
            cases e1
            have := (m0.pn i d0 hw).1
            rw [hx] at this; cases this
            exact key rfl (.inr ⟨rfl, rfl⟩)
          · cases e1
        · cases e1
      · cases e
  | false :: ms, r0 :: rs, ρ, ρ', fp, P, _, F, _, ds, _, _, m, .cons h t, r, d, e => by
    cases r with
    | cons r1 r2 r3 =>
      simp only [backL] at e
      obtain ⟨fp', m', i'⟩ := backL_ok m0 m t r2 (fun a ha => d a (List.mem_append_right _ ha)) e
      exact ⟨fp', m', fun a z => (i' a z).elim .inl fun z => .inr (List.mem_append_right _ z)⟩
  | [], _ :: _, _, _, _, _, _, _, _, _, _, _, _, _, _, _, e => by simp only [backL] at e; cases e
  | true :: _, [], _, _, _, _, _, _, _, _, _, _, _, _, _, _, e => by simp only [backL] at e; cases e
  | false :: _, [], _, _, _, _, _, _, _, _, _, _, _, _, _, _, e => by simp only [backL] at e; cases e
end
/-- the heart of a call: from the arguments' handles to the promise -/
theorem call_go {K : PySem.W.Frag} {cn : String → Addr} {E : WX} {pv : Nat → V} {σ γ : St} {ρ1 : Env} {G H G1 H1 : Hp} {fp fp1 : Fps} {F1 : List Addr} {Q0 : Rv → Env → Prop} {E0 : Exn → Env → Prop} {Q : VK} {ms : List Bool} {s : SpD} {rs : List Rv} {vs : List V}
    (po : PoE K pv σ γ G H fp Q0 Q) (px : PoX K cn pv γ σ.length G H fp E0 E) (s1 : Stp G H (InF fp) G1 H1 (fun a => InF fp1 a ∨ a ∈ F1)) (m1 : Mt K pv (σ ++ γ) ρ1 G1 H1 fp1) (o1 : RvsOk K (σ ++ γ) G1 H1 (InF fp1) vs rs F1)
    (q : ∃ ds ρ2, argL ms ρ1 rs = some (ds, ρ2) ∧ s ds (fun res ds' => ∃ ρ3, backL ρ1 ms ρ2 rs ds' = some ρ3 ∧ Q0 (.t res) ρ3) (fun x ds' => ∃ ρ3, backL ρ1 ms ρ2 rs ds' = some ρ3 ∧ E0 x ρ3)) :
    lower K cn s vs H1 Q (fun c d H' => E c d σ H') := by
  obtain ⟨ds, ρ2, e1, q⟩ := q
  obtain ⟨G2, fp2, F2, s2, m2, r2, a2, b2, i2⟩ := argL_ok m1 o1 (fun _ z => z) e1
  have s12 := s1.trans s2
  refine ⟨G2, ds, F2, _, _, m2.sub, r2, q, ?_, ?_⟩
  · rintro res ds' v G' H' Fr F' ⟨ρ3, e3, q3⟩ s3 hs3 r3 rr d3
    have m2' : Mt K pv (σ ++ γ) ρ2 G' H' fp2 := m2.move s3.g hs3 (fun a o z e => s3.h a o e fun y => a2 a y z) fun a ⟨j, ha⟩ => by
      obtain ⟨h1, o, h2⟩ := m2.ft j a ha
      exact s3.n a o h2 h1 fun y => a2 a y ⟨j, ha⟩
    have nf : ∀ a, (a ∈ Fr ∨ a ∈ F') → ¬ InF fp2 a := fun a z y => by
      rcases s3.f a z with u | u
      · exact a2 a u y
      · obtain ⟨j, ha⟩ := y
        obtain ⟨_, o, h2⟩ := m2.ft j a ha
        rw [u] at h2; cases h2
    obtain ⟨fp3, m3, i3⟩ := backL_ok m1 m2' o1 r3 (fun a ha => nf a (.inr ha)) e3
    refine po (.t res) ρ3 v G' H' fp3 Fr q3 (s12.trans (s3.mono (fun a z => .inr z) fun a z => ?_)) m3 ⟨rr, fun a ha z => ?_⟩
    · rcases z with z | z
      · rcases i3 a z with z | z
        · exact .inr (.inl z)
        · exact .inl (.inr z)
      · exact .inl (.inl z)
    · rcases i3 a z with z | z
      · exact nf a (.inl ha) z
      · exact d3 a ha z
  · rintro x ds' cls dx G' H' F' ⟨ρ3, e3, q3⟩ s3 hs3 r3 ex
    have m2' : Mt K pv (σ ++ γ) ρ2 G' H' fp2 := m2.move s3.g hs3 (fun a o z e => s3.h a o e fun y => a2 a y z) fun a ⟨j, ha⟩ => by
      obtain ⟨h1, o, h2⟩ := m2.ft j a ha
      exact s3.n a o h2 h1 fun y => a2 a y ⟨j, ha⟩
    have nf : ∀ a, a ∈ F' → ¬ InF fp2 a := fun a z y => by
      rcases s3.f a z with u | u
      · exact a2 a u y
      · obtain ⟨j, ha⟩ := y
        obtain ⟨_, o, h2⟩ := m2.ft j a ha
        rw [u] at h2; cases h2
    obtain ⟨fp3, m3, i3⟩ := backL_ok m1 m2' o1 r3 (fun a ha => nf a ha) e3
    refine px x ρ3 cls dx σ G' H' fp3 q3 (s12.trans (s3.mono (fun a z => .inr z) fun a z => ?_)) m3 rfl ex
    rcases i3 a z with z | z
    · exact .inr (.inl z)
    · exact .inl z
theorem je_call {X : Cx} {cn : String → Addr} {E : WX} {e : Expr} {s : SpD} {t : DA} {ms : List Bool}
    (h : PE X e (fun σ H Q => liftA X.K cn E t σ H fun vs H1 => lower X.K cn s vs H1 Q (fun c d H' => E c d σ H'))) : JE X cn E e (dCall ms s t) := by
  refine pe_imp h ?_
  rintro σ H Q ⟨pv, γ, ρ, G, fp, Q0, E0, m, q, po, px⟩
  exact ⟨pv, γ, ρ, G, fp, _, E0, m, q, fun rs ρ1 vs G1 H1 fp1 F1 q1 s1 m1 o1 => call_go po px s1 m1 o1 q1, px⟩

/-! ### a def's promise from its body -/
def initE (n : Nat) (ds : List D) : Env := ds.map (fun d => if d.isFz = true then Sl.v d else Sl.w d) ++ List.replicate (n - ds.length) Sl.un
/-- what was handed in, behind -/
def finL : Nat → List D → Env → Option (List D)
  | _, [], _ => some []
  | i, d :: ds, ρ => match finL (i + 1) ds ρ with
    | some ds' => if d.isFz = true then some (d :: ds') else match ρ[i]? with
      | some (.w d') => some (d' :: ds')
      | _ => none
    | none => none
section
variable {K : PySem.W.Frag} {cn : String → Addr} {G H G' H' : Hp}
/-- the places of what is handed in -/
theorem split_fp : ∀ {vs : List V} (ds : List D) {F : List Addr}, RpL K G H vs ds F → ∃ fp : Fps, (∀ (i : Nat) (d : D), ds[i]? = some d → ∃ x, vs[i]? = some x ∧ Rp K G H x d (fp i)) ∧ (∀ i, ∀ a ∈ fp i, a ∈ F) ∧ (∀ i j, i ≠ j → ∀ a ∈ fp i, a ∉ fp j) ∧ ∀ i, ds.length ≤ i → fp i = []
  | _, [], _, h => by
    cases h
    exact ⟨fun _ => [], (fun i d e => by simp at e), (fun i a z => by cases z), (fun i j _ a z => by cases z), fun _ _ => rfl⟩
  | _, d :: ds, _, h => by
    cases h with
    | @cons v vs' _ _ F0 F1 h1 h2 h3 =>
      obtain ⟨fp, a1, a2, a3, a4⟩ := split_fp ds h2
      refine ⟨fun i => match i with
        | 0 => F0
        | i + 1 => fp i, fun i d' e => ?_, fun i a z => ?_, fun i j hij a z => ?_, fun i hi => ?_⟩
      · cases i with
        | zero =>
          simp only [List.getElem?_cons_zero, Option.some.injEq] at e
          subst e
          exact ⟨v, rfl, h1⟩
        | succ i =>
          rw [List.getElem?_cons_succ] at e
          obtain ⟨x, g1, g2⟩ := a1 i d' e
          exact ⟨x, by rw [List.getElem?_cons_succ]; exact g1, g2⟩
      · cases i with
        | zero => exact List.mem_append_left _ z
        | succ i => exact List.mem_append_right _ (a2 i a z)
      · cases i with
        | zero =>
          cases j with
          | zero => exact absurd rfl hij
          | succ j => exact fun y => h3 a z (a2 j a y)
        | succ i =>
          cases j with
          | zero => exact fun y => h3 a y (a2 i a z)
          | succ j => exact a3 i j (fun e => hij (by rw [e])) a z
      · cases i with
        | zero => simp at hi
        | succ i => exact a4 i (by simpa using hi)
/-- what was handed in, put together again -/
theorem fin_rp {pv : Nat → V} {σ : St} {ρ : Env} {fp : Fps} (m : Mt K pv σ ρ G' H' fp) (hg : Sub G G') : ∀ (k : Nat) (vs : List V) (ds ds' : List D) {F : List Addr}, RpL K G H vs ds F → (∀ i, i < vs.length → vs[i]? = some (pv (k + i))) → finL k ds ρ = some ds' →
    ∃ F', RpL K G' H' vs ds' F' ∧ ∀ a ∈ F', ∃ i, k ≤ i ∧ a ∈ fp i
  | _, _, [], ds', _, h, _, e => by
    cases h
    simp only [finL, Option.some.injEq] at e
    subst e
    exact ⟨[], .nil, fun a z => by cases z⟩
  | k, _, d :: ds, ds', _, h, hv, e => by
    cases h with
    | @cons v vs' _ _ F0 F1 h1 h2 h3 =>
      simp only [finL] at e
      split at e
      · rename_i ds2 e2
        have hv' : ∀ i, i < vs'.length → vs'[i]? = some (pv (k + 1 + i)) := fun i hi => by
          have := hv (i + 1) (by rw [List.length_cons]; omega)
          rw [List.getElem?_cons_succ] at this
          rw [this, show k + (i + 1) = k + 1 + i by omega]
        obtain ⟨F', r', i'⟩ := fin_rp m hg (k + 1) vs' ds ds2 h2 hv' e2
        have i'' : ∀ a ∈ F', ∃ i, k ≤ i ∧ a ∈ fp i := fun a ha => by
          obtain ⟨i, h1, h2⟩ := i' a ha
          exact ⟨i, by omega, h2⟩
        have e0 : v = pv k := by
          have := hv 0 (by rw [List.length_cons]; omega)
          simpa using this
        split at e
        · rename_i hz
          cases e
          have := Rp.foot0 _ h1 hz
          subst this
          exact ⟨[] ++ F', RpL.cons (h1.mov0 hg) r' (fun a z => by cases z), i''⟩
        · split at e
          · rename_i d' hw
            cases e
            obtain ⟨_, g2⟩ := m.pn k d' hw
            rw [← e0] at g2
            refine ⟨fp k ++ F', RpL.cons g2 r' fun a ha hb => ?_, fun a ha => ?_⟩
            · obtain ⟨i, g3, g4⟩ := i' a hb
              exact m.ap k i (by omega) a ha g4
            · rcases List.mem_append.mp ha with ha | ha
              · exact ⟨k, Nat.le_refl _, ha⟩
              · exact i'' a ha
          · cases e
      · cases e
end
theorem start_get {N : List Str} {vs : List V} {i : Nat} {x : V} (h : vs[i]? = some x) : (L2.start N vs)[i]? = some (some x) := by
  unfold L2.start
  have hi : i < vs.length := (List.getElem?_eq_some_iff.mp h).1
  rw [List.getElem?_append_left (by rw [List.length_map]; exact hi), List.getElem?_map, h]
  rfl
theorem init_get {n : Nat} {ds : List D} {i : Nat} {s : Sl} (h : (initE n ds)[i]? = some s) (hn : s ≠ .un) : ∃ d, ds[i]? = some d ∧ s = if d.isFz = true then Sl.v d else Sl.w d := by
  unfold initE at h
  by_cases hi : i < ds.length
  · rw [List.getElem?_append_left (by rw [List.length_map]; exact hi), List.getElem?_map] at h
    cases e : ds[i]? with
    | none => rw [e] at h; cases h
    | some d =>
      rw [e] at h
      cases h
      exact ⟨d, rfl, rfl⟩
  · rw [List.getElem?_append_right (by rw [List.length_map]; omega)] at h
    rw [List.getElem?_replicate] at h
    split at h
    · cases h; exact absurd rfl hn
    · cases h
/-- THE PROMISE: the body's reading over deep values, from the promise's own words -/
theorem def_ok {K : PySem.W.Frag} {cn : String → Addr} {N : List Str} {vs : List V} {H : Hp} {Q : VK} {E : XK} {s : SpD} {t : DS} {n : Nat}
    (hN : N.length = n) (hl : ∀ ds Q0 E0, s ds Q0 E0 → ds.length ≤ n)
    (sem : ∀ ds Q0 E0, s ds Q0 E0 → t { nx := fun ρ => ∃ ds', finL 0 ds ρ = some ds' ∧ Q0 (.p .non) ds', rt := fun d ρ => ∃ ds', finL 0 ds ρ = some ds' ∧ Q0 d ds', ex := fun x ρ => ∃ ds', finL 0 ds ρ = some ds' ∧ E0 x ds' } (initE n ds))
    (h : lower K cn s vs H Q E) : liftS K cn (fun c d _ H' => E c d H') t { nx := fun _ H' => Q .non H', rt := Q } (L2.start N vs) H := by
  obtain ⟨G, ds, F, Q0, E0, hs, r, q, k1, k2⟩ := h
  obtain ⟨fp, a1, a2, a3, a4⟩ := split_fp ds r
  have lv : vs.length = ds.length := r.len
  have ln : ds.length ≤ n := hl ds Q0 E0 q
  have m : Mt K (fun i => (vs[i]?).getD .non) (L2.start N vs ++ []) (initE n ds) G H fp := by
    rw [List.append_nil]
    refine ⟨hs, ?_, fun i d h => ?_, fun i d h => ?_, fun i j q h => ?_, a3, fun i a ha => RpL.foot _ r a (a2 i a ha)⟩
    · unfold initE L2.start
      simp only [List.length_append, List.length_map, List.length_replicate]
      omega
    · obtain ⟨d', h1, h2⟩ := init_get h (by intro z; cases z)
      split at h2
      · cases h2
        obtain ⟨x, g1, g2⟩ := a1 i _ h1
        exact ⟨x, start_get g1, g2⟩
      · cases h2
    · obtain ⟨d', h1, h2⟩ := init_get h (by intro z; cases z)
      split at h2
      · cases h2
      · cases h2
        obtain ⟨x, g1, g2⟩ := a1 i _ h1
        refine ⟨by rw [start_get g1, g1]; rfl, ?_⟩
        rw [g1]; exact g2
    · obtain ⟨d', h1, h2⟩ := init_get h (by intro z; cases z)
      split at h2 <;> cases h2
  have hv : ∀ i, i < vs.length → vs[i]? = some ((fun i => (vs[i]?).getD .non) (0 + i)) := fun i hi => by
    show vs[i]? = some ((vs[0 + i]?).getD .non)
    rw [Nat.zero_add, List.getElem?_eq_getElem hi]; rfl
  have sF : ∀ a, InF fp a → a ∈ F := fun a ⟨i, ha⟩ => a2 i a ha
  have back : ∀ {ds' ρ' σ' G' H'} {fp' : Fps} {P' : Addr → Prop}, finL 0 ds ρ' = some ds' → Stp G H (InF fp) G' H' P' → Mt K (fun i => (vs[i]?).getD .non) (σ' ++ []) ρ' G' H' fp' → ∃ F', RpL K G' H' vs ds' F' ∧ ∀ a ∈ F', InF fp' a := fun e s m => by
    obtain ⟨F', r', i'⟩ := fin_rp m s.g 0 vs ds _ r hv e
    exact ⟨F', r', fun a ha => by
      obtain ⟨i, _, h⟩ := i' a ha
      exact ⟨i, h⟩⟩
  refine ⟨_, [], _, G, fp, _, m, sem ds Q0 E0 q, ⟨?_, fun _ _ _ _ _ z => z.elim, fun _ _ _ _ _ z => z.elim, ?_, ?_⟩⟩
  · rintro ρ' σ' G' H' fp' ⟨ds', e, q'⟩ s' m' l'
    obtain ⟨F', r', i'⟩ := back e s' m'
    exact k1 _ ds' .non G' H' [] F' q' (s'.mono sF fun a z => z.elim (fun z => by cases z) fun z => .inl (i' a z)) m'.sub r' (Rp.p _) fun a z => by cases z
  · rintro d ρ' v σ' G' H' fp' Fr ⟨ds', e, q'⟩ s' m' l' rr dr
    obtain ⟨F', r', i'⟩ := back e s' m'
    exact k1 _ ds' v G' H' Fr F' q' (s'.mono sF fun a z => .inl (z.elim .inr fun z => .inl (i' a z))) m'.sub r' rr fun a ha hb => dr a ha (i' a hb)
  · rintro x ρ' cls dx σ' G' H' fp' ⟨ds', e, q'⟩ s' m' l' ex
    obtain ⟨F', r', i'⟩ := back e s' m'
    exact k2 x ds' cls dx G' H' F' q' (s'.mono sF fun a z => .inl (i' a z)) m'.sub r' ex
end DL
/-! DL9: calls of defs as the text writes them; a def's rule. -/
namespace DL
open PySem L2
open PyProof.Rows (envOfC)

section
variable {X : Cx} {cn : String → Addr} {E : WX} {k : Nat} {f : Addr} {fd : FuncData} {ps ks : List Str} {s : SpD} {x : Str} {p pos : Pos} {e : Expr} {es : List Expr} {kws : List Keyword} {t tk : DA} {ms : List Bool}
abbrev FnD (P : Program) (w : World) (K : PySem.W.Frag) (mg : Str → Option Value) (base : Heap) (cn : String → Addr) (k : Nat) (f : Addr) (fd : FuncData) (ps : List Str) (s : SpD) : Prop :=
  FnOk P w K mg base (L2.CX P w) k f fd ps (lower K cn s)
theorem je_callN (F : FnD X.prog X.w X.K X.mg X.base cn k f fd ps s) (hr : Room k X.A) (hg : Gl X x) (hm : X.mg x = some (.ref f)) (hk : PySem.W.keepIn X.K (.ref f) = true) (hb : Binds X.K fd ps []) (tk : Takes X E)
    (ha : JA X cn E (e :: es) t) (hdb : (x == ("__debug__" : Str)) = false := by decide) (he : starEach (e :: es) X.env = (false, eval e X.env) :: starEach es X.env := by rfl) (hpl : (backTo pos (starEach es X.env)).any (·.1) = false := by rfl) :
    JE X cn E (.Call (.Name x p) (e :: es) [] pos) (dCall ms s t) :=
  je_call (pe_callS (E := fun σ c d H' => E c d σ H') F hr hg hm hk hb (fun σ => passAt tk σ) ha hdb he hpl)
/-- a call without arguments of a def that raises nothing -/
def dCall0 (s : SpD) : DE := fun ρ Q _ => s [] (fun res _ => Q (.t res) ρ) (fun _ _ => False)
where
  passAll {X : Cx} {CX : CXT} {E : XK} (h : ∀ σ, PassesAt CX X σ E) : Passes CX X E := fun pins σ H s e s' I c => h σ pins H s e s' I c
end

/-! ### keywords: all that is handed in is shared -/
def dCallK (g : {α : Type} → List α → List α → List α) (s : SpD) (t tk : DA) : DE := fun ρ Q E => t ρ (fun rs ρ1 => ∃ ds ρ2, tkFL ρ1 rs = some (ds, ρ2) ∧ tk ρ2 (fun zs ρ3 => ∃ es ρ4, tkFL ρ3 zs = some (es, ρ4) ∧
  s (g ds es) (fun res _ => Q (.t res) ρ4) (fun x _ => E x ρ4)) E) E
def GOk (g : {α : Type} → List α → List α → List α) : Prop := ∀ {α β : Type} {R : α → β → Prop} {a : List α} {b : List β} {c : List α} {d : List β}, Paired R a b → Paired R c d → Paired R (g a c) (g b d)
abbrev JK (X : Cx) (cn : String → Addr) (E : WX) (kws : List Keyword) (t : DA) : Prop := PK X kws (liftA X.K cn E t)
section
variable {X : Cx} {cn : String → Addr} {E : WX} {k : Nat} {f : Addr} {fd : FuncData} {ps ks : List Str} {s : SpD} {x : Str} {p pos kpos : Pos} {e : Expr} {es : List Expr} {kws : List Keyword} {t tk : DA} {te : DE} {nm : Option Str} {ms : List Bool}
theorem pk_imp {X : Cx} {es : List Keyword} {t t' : TA} (h : PK X es t) (i : ∀ σ H Q, t' σ H Q → t σ H Q) : PK X es t' := ⟨fun pos pins s σ H Q I q => h.run pos pins s σ H Q I (i σ H Q q)⟩
theorem jk_nil : JK X cn E [] dNil := pk_imp pk_nil fun σ H Q ⟨pv, γ, ρ, G, fp, Q0, E0, m, q, po, px⟩ => po [] ρ [] G H fp [] q (stp0 G H fp) m .nil
theorem consA {ta : DE} {t : DA} (σ : St) (H : Hp) (Q : List V → Hp → Prop) : liftA X.K cn E (dCons ta t) σ H Q → tCons (liftE X.K cn E ta) (liftA X.K cn E t) σ H Q := by
  rintro ⟨pv, γ, ρ, G, fp, Q0, E0, m, q, po, px⟩
  refine ⟨pv, γ, ρ, G, fp, _, E0, m, q, fun x ρ1 v G1 H1 fp1 F1 q1 s1 m1 o1 => ?_, px⟩
  refine ⟨pv, γ, ρ1, G1, fp1, _, E0, m1, q1, fun xs ρ2 vs G2 H2 fp2 F2 q2 s2 m2 o2 => ?_, px.on s1⟩
  have o1' := o1.frame s2
  refine po (x :: xs) ρ2 (v :: vs) G2 H2 fp2 (F1 ++ F2) q2 (s1.seq (fun _ z => .inl z) s2 fun a z => ?_) m2 (.cons (o1'.weak fun a z => .inl z) (o2.add fun a z => ?_))
  · rcases z with z | z
    · exact .inl (.inl z)
    · rcases List.mem_append.mp z with z | z
      · exact .inr (.inr z)
      · exact .inl (.inr z)
  · rcases z with z | z
    · exact .inl z
    · exact .inr fun y => o1'.apart a z (.inr y)
theorem jk_cons (ha : JE X cn E e te) (hr : JK X cn E kws t) : JK X cn E (⟨nm, e, kpos⟩ :: kws) (dCons te t) := pk_imp (pk_cons ha hr) fun σ H Q h => consA σ H Q h
theorem RpL.pair {K : PySem.W.Frag} {G H : Hp} : ∀ {vs : List V} (ds : List D), RpL K G H vs ds [] → Paired (fun v d => Rp K G H v d []) vs ds
  | vs, [], h => by rw [h.nil2]; exact .nil
  | vs, d :: ds, h => by
    obtain ⟨x, xs, rfl, h1, h2⟩ := h.cons2
    exact .cons h1 (RpL.pair ds h2)
theorem RpL.of_pair {K : PySem.W.Frag} {G H : Hp} : ∀ {vs : List V} {ds : List D}, Paired (fun v d => Rp K G H v d []) vs ds → RpL K G H vs ds []
  | _, _, .nil => .nil
  | _, _, .cons h t => by
    have := RpL.cons (F := []) (F' := []) h (RpL.of_pair t) fun a z => by cases z
    exact this
/-- a callee at work, the caller's wish at its slots -/
theorem run_kw {CX : CXT} {sp : Sp} {E : XK} {g : List Value → List Value → List Value} {gV : List V → List V → List V} {pins : List (Addr × Obj)} {σ : St} {H : Hp} {sh : Shared} {Q : VK} {us ws : List Value} {vs zs : List V} (F : FnOk X.prog X.w X.K X.mg X.base CX k f fd ps sp)
    (hr : Room k X.A) (hb : KBinds X.K fd ps ks g gV) (hx : PassesAt CX X σ E) (I : Inv X pins σ H sh) (r : Vals vs us) (rz : Vals zs ws) (h : sp (gV vs zs) H Q E) : wpAny (model X.prog X.w) X.A (call (.ref f) us (ks.zip ws)) (EP X pins σ Q) X.xe sh := by
  have rel := hb.rel r rz
  have bound := hb.to sh us ws I.kIn (rel.length.symm.trans (F.len _ _ _ _ h))
  refine wpAny_call (codeAny_mono (F.run X.A X.stack sh H ⟨us, ks.zip ws⟩ (g us ws) (gV vs zs) Q E hr I.env0 bound rel h) ?_)
  rintro (e | fl) s' hq
  · exact hx pins H sh e s' I hq
  · cases fl <;> first | exact I.after hq | exact False.elim hq
theorem kw_go {pv : Nat → V} {σ γ : St} {G H : Hp} {fp : Fps} {Q0 : Rv → Env → Prop} {E0 : Exn → Env → Prop} {Q : VK} {g : {α : Type} → List α → List α → List α} (hg : GOk g) {G1 H1 : Hp} {fp1 : Fps} {vs zs : List V} {ds es : List D} {ρ1 : Env}
    (po : PoE X.K pv σ γ G H fp Q0 Q) (px : PoX X.K cn pv γ σ.length G H fp E0 E) (s1 : Stp G H (InF fp) G1 H1 (InF fp1)) (m1 : Mt X.K pv (σ ++ γ) ρ1 G1 H1 fp1) (r1 : RpL X.K G1 H1 vs ds []) (r2 : RpL X.K G1 H1 zs es [])
    (q : s (g ds es) (fun res _ => Q0 (.t res) ρ1) (fun x _ => E0 x ρ1)) : lower X.K cn s (g vs zs) H1 Q (fun c d H' => E c d σ H') := by
  refine ⟨G1, g ds es, [], _, _, m1.sub, RpL.of_pair (hg (RpL.pair _ r1) (RpL.pair _ r2)), q, ?_, ?_⟩
  · rintro res ds' v G' H' Fr F' q3 s3 hs3 r3 rr d3
    have s3' : Stp G1 H1 (fun _ => False) G' H' (fun a => a ∈ Fr) := s3.mono (fun a z => by cases z) fun a z => .inl (.inl z)
    obtain ⟨f1, f2, f3⟩ := fin_new m1 s1 (fun a z => z) s3' hs3
    exact po (.t res) ρ1 v G' H' fp1 Fr q3 f1 f2 ⟨rr, f3⟩
  · rintro x ds' cls dx G' H' F' q3 s3 hs3 r3 ex
    have s3' : Stp G1 H1 (fun _ => False) G' H' (fun _ => False) := s3.mono (fun a z => by cases z) fun a z => z.elim
    obtain ⟨f1, f2, f3⟩ := fin_new m1 s1 (fun a z => z) s3' hs3
    exact px x ρ1 cls dx σ G' H' fp1 q3 (f1.mono (fun _ z => z) fun _ z => .inl (.inl z)) f2 rfl ex
theorem kb_of {K : PySem.W.Frag} {g : {α : Type} → List α → List α → List α} (hg : GOk g) (h : ∀ (s : Shared) (us ws : List Value), (g us ws).length = ps.length → BindsTo s fd ⟨us, ks.zip ws⟩ (ps.zip (g us ws))) : KBinds K fd ps ks (fun us ws => g us ws) (fun us ws => g us ws) :=
  ⟨fun s us ws _ hl => h s us ws hl, fun r rz => hg r rz⟩
theorem je_callK0 {g : {α : Type} → List α → List α → List α} (hg : GOk g) (F : FnD X.prog X.w X.K X.mg X.base cn k f fd ps s) (hr : Room k X.A) (hgl : Gl X x) (hm : X.mg x = some (.ref f)) (hk : PySem.W.keepIn X.K (.ref f) = true)
    (hb : KBinds X.K fd ps ks (fun us ws => g us ws) (fun us ws => g us ws)) (tks : Takes X E) (hkw : JK X cn E kws tk) (hall : (backToKw pos (keywordEach kws X.env)).all (·.1.isSome) = true := by rfl) (hks : (backToKw pos (keywordEach kws X.env)).filterMap (·.1) = ks := by rfl)
    (hdb : (x == ("__debug__" : Str)) = false := by decide) (hpl : ((backTo pos (starEach [] X.env)).any (·.1) || (backToKw pos (keywordEach kws X.env)).any (·.1.isNone)) = false := by rfl) :
    JE X cn E (.Call (.Name x p) [] kws pos) (dCallK g s dNil tk) := by
  refine ⟨fun pins sh σ H Q I ⟨pv, γ, ρ, G, fp, Q0, E0, m, q, po, px⟩ => ?_⟩
  refine wpAny_Call_Name_kw (ld_glob I hgl hm ?_ hdb)
  obtain ⟨ds, ρ2, e1, q⟩ := q
  simp only [tkFL, Option.some.injEq, Prod.mk.injEq] at e1
  obtain ⟨e1, e2⟩ := e1
  subst e1 e2
  refine PySem.W.callWith_KW0 (h₀ := X.base) I.ok.mod.kin hk hall (thn (hkw.run pos pins sh σ H (fun zs H2 => lower X.K cn s (g [] zs) H2 Q (fun c d H' => E c d σ H')) I ⟨pv, γ, _, G, fp, _, E0, m, q, ?_, px⟩) ?_) hpl
  · rintro rs ρ3 vs G3 H3 fp3 F3 ⟨es', ρ4, e4, q4⟩ s3 m3 o3
    obtain ⟨G4, fp4, s4, m4, r4, _⟩ := tkFL_ok m3 o3 (fun _ z => z) e4
    exact kw_go hg po px (s3.trans s4) m4 .nil r4 q4
  · rintro ws s2 ⟨zs, H2, I2, rz, q2⟩
    refine ⟨I2.kIn, ?_⟩
    rw [hks]
    exact run_kw (us := []) F hr hb (passAt tks σ) I2 .nil rz q2
end

/-! ### a def's rule -/
section
variable {P : Program} {w : World} {K : PySem.W.Frag} {mg : Str → Option Value} {base : Heap} {cn : String → Addr}
theorem lenD {s : SpD} {n : Nat} (h : ∀ ds Q0 E0, s ds Q0 E0 → ds.length = n) : ∀ vs H Q E, lower K cn s vs H Q E → vs.length = n := fun vs H Q E ⟨G, ds, F, Q0, E0, _, r, q, _⟩ => by rw [r.len]; exact h ds Q0 E0 q
/-- the reading of a body keeps the promise -/
def Sem (s : SpD) (t : DS) (n : Nat) : Prop := ∀ ds Q0 E0, s ds Q0 E0 → t { nx := fun ρ => ∃ ds', finL 0 ds ρ = some ds' ∧ Q0 (.p .non) ds', rt := fun d ρ => ∃ ds', finL 0 ds ρ = some ds' ∧ Q0 d ds', ex := fun x ρ => ∃ ds', finL 0 ds ρ = some ds' ∧ E0 x ds' } (initE n ds)
def Ar (s : SpD) (n : Nat) : Prop := ∀ ds Q0 E0, s ds Q0 E0 → ds.length = n
/-- a def keeps its promise: the derivation of its body, the reading of it over deep values -/
theorem def_mk {x qual : Str} {st : Stmt} {f : Addr} {fd : FuncData} {N ps : List Str} {k n : Nat} {s : SpD} {t : DS} (F : Fun K x qual st f fd) (S : FnScope N ps (defScope st)) (hn : ps.length ≤ N.length) (hl : Ar s ps.length)
    (sem : Sem s t n) (hN : N.length = n)
    (der : ∀ (cdv : Value) (A : Around) (outer : List PySem.Env) (s : Shared) (H : Hp) (E : XK), Room k (A.deeper (envOfC qual (defScope st) s.heap.objs.size f cdv)) →
      JSs (cxOf (L2.CX P w) P w K mg base N qual (defScope st) f cdv A outer s H E) cn (fun c d _ H' => E c d H') (defBody st) t) : FnD P w K mg base cn (k + 1) f fd ps s :=
  F.okX S (lenD hl) fun cdv A outer sh H vs Q E hr h => ⟨_, der cdv A outer sh H E hr, def_ok hN (fun ds Q0 E0 q => by rw [hl ds Q0 E0 q, ← hN]; exact hn) sem h⟩
end

theorem lt_of {X : Cx} {i : Nat} (h : (X.N[i]?).isSome = true) : i < X.N.length := by
  cases e : X.N[i]? with
  | none => rw [e] at h; cases h
  | some x => exact (List.getElem?_eq_some_iff.mp e).1
/-- keywords in the parameters' order -/
def gP (p q : Nat) (ix : List Nat) {α : Type} (us ws : List α) : List α := if us.length = p ∧ ws.length = q then ix.flatMap (fun i => (us ++ ws)[i]?.toList) else []
theorem Paired.app {α β : Type} {R : α → β → Prop} : ∀ {a : List α} {b : List β} {c : List α} {d : List β}, Paired R a b → Paired R c d → Paired R (a ++ c) (b ++ d)
  | _, _, _, _, .nil, h => h
  | _, _, _, _, .cons h t, k => .cons h (Paired.app t k)
theorem Paired.getO {α β : Type} {R : α → β → Prop} : ∀ {a : List α} {b : List β} (i : Nat), Paired R a b → Paired R a[i]?.toList b[i]?.toList
  | _, _, _, .nil => by simp; exact .nil
  | _, _, 0, .cons h t => by simp; exact .cons h .nil
  | _, _, i + 1, .cons h t => by simpa using Paired.getO i t
theorem gP_ok {p q : Nat} {ix : List Nat} : GOk (gP p q ix) := by
  intro α β R a b c d h1 h2
  show Paired R (gP p q ix a c) (gP p q ix b d)
  unfold gP
  rw [h1.length, h2.length]
  split
  · have h := Paired.app h1 h2
    clear h1 h2
    induction ix with
    | nil => exact .nil
    | cons i r ih =>
      rw [List.flatMap_cons, List.flatMap_cons]
      exact Paired.app (Paired.getO i h) ih
  · exact .nil
theorem gP_len {p q n : Nat} {ix : List Nat} {α : Type} {us ws : List α} (h : (gP p q ix us ws).length = n + 1) : us.length = p ∧ ws.length = q := by
  unfold gP at h
  split at h
  · assumption
  · cases h
section
variable {α : Type} {l : List α}
theorem ll0 (h : l.length = 0) : l = [] := List.eq_nil_of_length_eq_zero h
theorem ll1 (h : l.length = 1) : ∃ a, l = [a] := List.length_eq_one_iff.mp h
end
end DL
/-! DL10: operators and built-ins over deep values. -/
namespace DL
open PySem L2

/-! ### short names -/
abbrev D.non : D := .p .non
abbrev D.bl (b : Bool) : D := .p (.bl b)
abbrev D.int (i : Int) : D := .p (.int i)
abbrev D.str (x : Str) : D := .p (.str x)
abbrev D.lst (ds : List D) : D := .n false .lst ds
abbrev D.own (ds : List D) : D := .n true .lst ds
abbrev D.tup (ds : List D) : D := .n false .tup ds

section
variable {K : PySem.W.Frag} {G H : Hp}
theorem Fin.p {Q0 : D → Prop} {Q : VK} {x : V} (h : Fin K G H Q0 Q) (s : Sub G H) (q : Q0 (.p x)) : Q x H :=
  h (.p x) x G H [] q ((Stp.refl _ _ _).mono (fun _ z => z) fun _ z => by cases z) s (Rp.p x)
/-- a new list of shared things -/
theorem Fin.lst {Q0 : D → Prop} {Q : VK} {vs : List V} {ds : List D} {p : Addr} (h : Fin K G H Q0 Q) (s : Sub G H) (r : RpL K G H vs ds []) (hp : H p = none) (q : Q0 (.own ds)) : Q (.ref p) (L2.upd H p (.lst vs)) := by
  have hg : G p = none := by
    cases e : G p with
    | none => rfl
    | some o => rw [s p o e] at hp; cases hp
  refine h (.own ds) (.ref p) G (L2.upd H p (.lst vs)) [p] q ⟨fun _ _ z => z, fun a o z _ => by rw [upd_ne (ne_of_none z hp)]; exact z, fun _ _ _ z _ => z, fun a z => .inr (by rw [List.mem_singleton.mp z]; exact hp)⟩ (s.upd hp) ?_
  exact Rp.o hg upd_same (by simp) (r.mov0 fun _ _ z => z)
/-- a new tuple of shared things -/
theorem Fin.tup {Q0 : D → Prop} {Q : VK} {vs : List V} {ds : List D} {p : Addr} (h : Fin K G H Q0 Q) (s : Sub G H) (r : RpL K G H vs ds []) (hp : H p = none) (q : Q0 (.tup ds)) : Q (.ref p) (L2.upd H p (.tup vs)) := by
  have sn := Stp.newG (P := fun _ => False) (o := .tup vs) hp s
  exact h (.tup ds) (.ref p) _ _ [] q (sn.mono (fun _ z => z) fun _ z => by cases z) (s.updG hp) (Rp.f upd_same (r.mov0 sn.g))
theorem Rp.shared {v : V} {d : D} {F : List Addr} (r : Rp K G H v d F) (h : d.isFz = true) : Rp K G H v d [] := by
  have := Rp.foot0 d r h
  subst this
  exact r
theorem RpL.shared {vs : List V} {ds : List D} {F : List Addr} (r : RpL K G H vs ds F) (h : isFzL ds = true) : RpL K G H vs ds [] := by
  have := RpL.foot0 ds r h
  subst this
  exact r
/-- a list, read -/
theorem Rp.list {v : V} {o : Bool} {ds : List D} {F : List Addr} (s : Sub G H) (r : Rp K G H v (.n o .lst ds) F) : ∃ a vs F', v = .ref a ∧ H a = some (.lst vs) ∧ RpL K G H vs ds F' := by
  cases r with
  | @f a _ vs _ F h1 h2 => exact ⟨a, vs, F, rfl, s _ _ h1, h2⟩
  | @o a _ vs _ F h0 h1 h3 h2 => exact ⟨a, vs, F, rfl, h1, h2⟩
theorem Rp.lok {v : V} {o : Bool} {ds : List D} {F : List Addr} (s : Sub G H) (r : Rp K G H v (.n o .lok ds) F) : ∃ a vs F', v = .ref a ∧ SqL K H a vs ∧ RpL K G H vs ds F' := by
  cases r with
  | @f a _ vs _ F h1 h2 => exact ⟨a, vs, F, rfl, SqL.mono s h1, h2⟩
  | @o a _ vs _ F h0 h1 h3 h2 => exact h1.elim
theorem Rp.tupl {v : V} {o : Bool} {ds : List D} {F : List Addr} (s : Sub G H) (r : Rp K G H v (.n o .tup ds) F) : ∃ a vs F', v = .ref a ∧ H a = some (.tup vs) ∧ RpL K G H vs ds F' := by
  cases r with
  | @f a _ vs _ F h1 h2 => exact ⟨a, vs, F, rfl, s _ _ h1, h2⟩
  | @o a _ vs _ F h0 h1 h3 h2 => exact h1.elim
theorem Rp.tok {v : V} {o : Bool} {ds : List D} {F : List Addr} (s : Sub G H) (r : Rp K G H v (.n o .tok ds) F) : ∃ a vs F', v = .ref a ∧ SqT K H a vs ∧ RpL K G H vs ds F' := by
  cases r with
  | @f a _ vs _ F h1 h2 => exact ⟨a, vs, F, rfl, SqT.mono s (KnT.sqt h1), h2⟩
  | @o a _ vs _ F h0 h1 h3 h2 => exact h1.elim
theorem tq {H : Hp} {a : Addr} {vs : List V} (h : H a = some (.tup vs)) : SqT K H a vs := .inl (.inl h)
theorem Rp.seq {v : V} {d : D} {cs : List D} {F : List Addr} (s : Sub G H) (r : Rp K G H v d F) (e : itemsOf d = some cs) : ∃ a vs F', v = .ref a ∧ (SqL K H a vs ∨ SqT K H a vs) ∧ RpL K G H vs cs F' := by
  cases d with
  | p _ => simp only [itemsOf] at e; cases e
  | n o k ch =>
    cases k with
    | lst => simp only [itemsOf, Option.some.injEq] at e; subst e; obtain ⟨a, vs, F', h1, h2, h3⟩ := r.list s; exact ⟨a, vs, F', h1, .inl (.inl (.inl h2)), h3⟩
    | lok => simp only [itemsOf, Option.some.injEq] at e; subst e; obtain ⟨a, vs, F', h1, h2, h3⟩ := r.lok s; exact ⟨a, vs, F', h1, .inl h2, h3⟩
    | tup => simp only [itemsOf, Option.some.injEq] at e; subst e; obtain ⟨a, vs, F', h1, h2, h3⟩ := r.tupl s; exact ⟨a, vs, F', h1, .inr (tq h2), h3⟩
    | tok => simp only [itemsOf, Option.some.injEq] at e; subst e; obtain ⟨a, vs, F', h1, h2, h3⟩ := r.tok s; exact ⟨a, vs, F', h1, .inr h2, h3⟩
    | dic _ => simp only [itemsOf] at e; cases e
    | dit _ => simp only [itemsOf] at e; cases e
    | obj _ _ => simp only [itemsOf] at e; cases e
    | exc _ _ => simp only [itemsOf] at e; cases e
theorem Rp.listOf {v : V} {d : D} {cs : List D} {F : List Addr} (s : Sub G H) (r : Rp K G H v d F) (e : listOf d = some cs) : ∃ a vs F', v = .ref a ∧ SqL K H a vs ∧ RpL K G H vs cs F' := by
  cases d with
  | p _ => simp only [DL.listOf] at e; cases e
  | n o k ch =>
    cases k with
    | lst => simp only [DL.listOf, Option.some.injEq] at e; subst e; obtain ⟨a, vs, F', h1, h2, h3⟩ := r.list s; exact ⟨a, vs, F', h1, .inl (.inl h2), h3⟩
    | lok => simp only [DL.listOf, Option.some.injEq] at e; subst e; obtain ⟨a, vs, F', h1, h2, h3⟩ := r.lok s; exact ⟨a, vs, F', h1, h2, h3⟩
    | tup => simp only [DL.listOf] at e; cases e
    | tok => simp only [DL.listOf] at e; cases e
    | dic _ => simp only [DL.listOf] at e; cases e
    | dit _ => simp only [DL.listOf] at e; cases e
    | obj _ _ => simp only [DL.listOf] at e; cases e
    | exc _ _ => simp only [DL.listOf] at e; cases e
theorem RpL.prims {vs xs : List V} {F : List Addr} (r : RpL K G H vs (xs.map D.p) F) : vs = xs := by
  induction xs generalizing vs F with
  | nil => cases r; rfl
  | cons x xs ih =>
    rw [List.map_cons] at r
    cases r with
    | cons h1 h2 h3 =>
      cases h1
      rw [ih h2]
theorem RpL.of_prims : ∀ {xs : List V}, RpL K G H xs (xs.map D.p) []
  | [] => .nil
  | x :: xs => by
    have := RpL.cons (F := []) (F' := []) (Rp.p (K := K) (G := G) (H := H) x) (RpL.of_prims (xs := xs)) fun a z => by cases z
    exact this
end

/-! ### == -/
mutual
def toPy : D → PyData
  | .p .non => .none
  | .p (.bl b) => .bool b
  | .p (.int i) => .int i
  | .p (.str x) => .str x
  | .p _ => .dict []
  | .n _ .lst ch => .list (toPyL ch)
  | .n _ .lok ch => .list (toPyL ch)
  | .n _ .tup ch => .tuple (toPyL ch)
  | .n _ .tok ch => .tuple (toPyL ch)
  | .n _ _ _ => .dict []
def toPyL : List D → List PyData
  | [] => []
  | d :: ds => toPy d :: toPyL ds
end
def eqD (d e : D) : Bool := PyData.eqv (toPy d) (toPy e)
def okD (d : D) : Bool := (toPy d).plain && decide ((toPy d).depth ≤ 64)
section
variable {K : PySem.W.Frag} {G H : Hp}
mutual
theorem Rp.dp (s : Sub G H) : ∀ {v : V} (d : D) {F : List Addr}, Rp K G H v d F → (toPy d).plain = true → Dp K H v (toPy d)
  | _, .p .non, _, h, _ => by cases h; simp only [toPy]; exact Dp.non
  | _, .p (.bl b), _, h, _ => by cases h; simp only [toPy]; exact Dp.bl b
  | _, .p (.int i), _, h, _ => by cases h; simp only [toPy]; exact Dp.int i
  | _, .p (.str x), _, h, _ => by cases h; simp only [toPy]; exact Dp.str x
  | _, .p (.byt x), _, h, c => by simp [toPy, PyData.plain] at c
  | _, .p (.flt x), _, h, c => by simp [toPy, PyData.plain] at c
  | _, .p (.ref x), _, h, c => by simp [toPy, PyData.plain] at c
  | _, .p (.ty x), _, h, c => by simp [toPy, PyData.plain] at c
  | _, .n o .lst ch, _, h, c => by
    obtain ⟨a, vs, F', rfl, h1, h2⟩ := h.list s
    simp only [toPy, PyData.plain] at c ⊢
    exact Dp.lst (.inl (.inl h1)) (RpL.dp s ch h2 c)
  | _, .n o .lok ch, _, h, c => by
    obtain ⟨a, vs, F', rfl, h1, h2⟩ := h.lok s
    simp only [toPy, PyData.plain] at c ⊢
    exact Dp.lst h1 (RpL.dp s ch h2 c)
  | _, .n o .tup ch, _, h, c => by
    obtain ⟨a, vs, F', rfl, h1, h2⟩ := h.tupl s
    simp only [toPy, PyData.plain] at c ⊢
    exact Dp.tup (tq h1) (RpL.dp s ch h2 c)
  | _, .n o .tok ch, _, h, c => by
    obtain ⟨a, vs, F', rfl, h1, h2⟩ := h.tok s
    simp only [toPy, PyData.plain] at c ⊢
    exact Dp.tup h1 (RpL.dp s ch h2 c)
  | _, .n o (.dic _) ch, _, h, c => by simp [toPy, PyData.plain] at c
  | _, .n o (.dit _) ch, _, h, c => by simp [toPy, PyData.plain] at c
  | _, .n o (.obj _ _) ch, _, h, c => by simp [toPy, PyData.plain] at c
  | _, .n o (.exc _ _) ch, _, h, c => by simp [toPy, PyData.plain] at c
theorem RpL.dp (s : Sub G H) : ∀ {vs : List V} (ds : List D) {F : List Addr}, RpL K G H vs ds F → PyData.plainAll (toPyL ds) = true → DpAll K H vs (toPyL ds)
  | _, [], _, h, _ => by cases h; simp only [toPyL]; exact DpAll.nil
  | _, d :: ds, _, h, c => by
    simp only [toPyL, PyData.plainAll, Bool.and_eq_true] at c ⊢
    cases h with
    | cons h1 h2 h3 => exact DpAll.cons (Rp.dp s d h1 c.1) (RpL.dp s ds h2 c.2)
end
theorem Rp.dpO {v : V} {d : D} {F : List Addr} (s : Sub G H) (r : Rp K G H v d F) (h : okD d = true) : Dp K H v (toPy d) := Rp.dp s d r (by unfold okD at h; rw [Bool.and_eq_true] at h; exact h.1)
end
theorem okD_dep {d : D} (h : okD d = true) : (toPy d).plain = true ∧ (toPy d).depth ≤ 64 := by
  unfold okD at h
  rw [Bool.and_eq_true] at h
  exact ⟨h.1, of_decide_eq_true h.2⟩
def qEq : Op2 := fun d e Q => (okD d = true ∧ okD e = true) ∧ Q (.bl (eqD d e))
def qNe : Op2 := fun d e Q => (okD d = true ∧ okD e = true) ∧ Q (.bl (!eqD d e))
/-- plain data -/
def Pl (d : PyData) : Prop := d.plain = true ∧ d.depth ≤ 64
def rEqP (K : PySem.W.Frag) : R2 := fun x y H Q => ∃ d e, Dp K H x d ∧ Dp K H y e ∧ Pl d ∧ Pl e ∧ Q (.bl (PyData.eqv d e)) H
def rNeP (K : PySem.W.Frag) : R2 := fun x y H Q => ∃ d e, Dp K H x d ∧ Dp K H y e ∧ Pl d ∧ Pl e ∧ Q (.bl (!PyData.eqv d e)) H
def inB (neg : Bool) (ds : List PyData) (d : PyData) : Bool := if neg = true then !ds.any (fun y => PyData.eqv y d) else ds.any fun y => PyData.eqv y d
def rInP (K : PySem.W.Frag) (neg : Bool) : R2 := fun x y H Q => ∃ d ds, Dp K H x d ∧ (Dp K H y (.list ds) ∨ Dp K H y (.tuple ds)) ∧ Pl d ∧ PyData.plainAll ds = true ∧ Q (.bl (inB neg ds d)) H
section
variable {X : Cx}
theorem o_eq (hu : X.A.units + 65 < cLine) : OpR X (compareOp .Eq) (rEqP X.K) := by
  intro pins s σ H x y v u Q I rx ry ⟨d, e, hd, he, sd, se, q⟩
  obtain ⟨as, r1⟩ := Dp.reads I d x v hd rx
  obtain ⟨bs, r2⟩ := Dp.reads I e y u he ry
  refine SeqAt.eq_plain r1 r2 sd.1 se.1 ?_ ⟨.bl _, H, I, rfl, q⟩
  have := sd.2
  have := se.2
  omega
theorem o_ne (hu : X.A.units + 65 < cLine) : OpR X (compareOp .NotEq) (rNeP X.K) := by
  intro pins s σ H x y v u Q I rx ry ⟨d, e, hd, he, sd, se, q⟩
  obtain ⟨as, r1⟩ := Dp.reads I d x v hd rx
  obtain ⟨bs, r2⟩ := Dp.reads I e y u he ry
  refine SeqAt.ne_plain r1 r2 sd.1 se.1 ?_ ⟨.bl _, H, I, rfl, q⟩
  have := sd.2
  have := se.2
  omega
end
section
variable {X : Cx}
theorem s_eq {K : PySem.W.Frag} : Sem2 K (rEqP K) qEq := fun G H v u d e F1 F2 Q0 Q s r1 r2 ⟨⟨h1, h2⟩, q⟩ fin => ⟨_, _, r1.dpO s h1, r2.dpO s h2, okD_dep h1, okD_dep h2, fin.p s q⟩
theorem s_ne {K : PySem.W.Frag} : Sem2 K (rNeP K) qNe := fun G H v u d e F1 F2 Q0 Q s r1 r2 ⟨⟨h1, h2⟩, q⟩ fin => ⟨_, _, r1.dpO s h1, r2.dpO s h2, okD_dep h1, okD_dep h2, fin.p s q⟩

/-! ### numbers, order -/
def strLt (x y : Str) : Bool := decide (x.cps.toList < y.cps.toList)
def qCmp (f : Int → Int → Bool) (g : Str → Str → Bool) : Op2
  | .p (.int i), .p (.int j), Q => Q (.bl (f i j))
  | .p (.str x), .p (.str y), Q => Q (.bl (g x y))
  | _, _, _ => False
def qLt : Op2 := qCmp (fun i j => decide (i < j)) fun x y => strLt x y
def qLe : Op2 := qCmp (fun i j => decide (i ≤ j)) fun x y => !strLt y x
def qGt : Op2 := qCmp (fun i j => decide (j < i)) fun x y => strLt y x
def qGe : Op2 := qCmp (fun i j => decide (j ≤ i)) fun x y => !strLt x y
theorem s_cmp {K : PySem.W.Frag} {f : Int → Int → Bool} {g : Str → Str → Bool} : Sem2 K (fun x y H Q => rI0 (fun i j => .bl (f i j)) x y H Q ∨ ∃ i j, x = .str i ∧ y = .str j ∧ Q (.bl (g i j)) H) (qCmp f g) := by
  intro G H v u d e F1 F2 Q0 Q s r1 r2 q fin
  unfold qCmp at q
  split at q
  · cases r1; cases r2; exact .inl ⟨_, _, rfl, rfl, fin.p s q⟩
  · cases r1; cases r2; exact .inr ⟨_, _, rfl, rfl, fin.p s q⟩
  · exact q.elim
theorem o_lt : OpR X (compareOp .Lt) (fun x y H Q => rI0 (fun i j => .bl (decide (i < j))) x y H Q ∨ ∃ i j, x = .str i ∧ y = .str j ∧ Q (.bl (strLt i j)) H) := op_lt.or op_lt_str
theorem o_gt : OpR X (compareOp .Gt) (fun x y H Q => rI0 (fun i j => .bl (decide (j < i))) x y H Q ∨ ∃ i j, x = .str i ∧ y = .str j ∧ Q (.bl (strLt j i)) H) := op_gt.or op_gt_str
theorem o_ge : OpR X (compareOp .GtE) (fun x y H Q => rI0 (fun i j => .bl (decide (j ≤ i))) x y H Q ∨ ∃ i j, x = .str i ∧ y = .str j ∧ Q (.bl (!strLt i j)) H) := op_ge.or op_ge_str
def qAdd : Op2
  | .p (.int i), .p (.int j), Q => Q (.int (i + j))
  | .p (.str x), .p (.str y), Q => x.length + y.length ≤ 100000 ∧ Q (.str (x ++ y))
  | .n _ .lst xs, .n _ .lst ys, Q => (isFzL xs && isFzL ys) = true ∧ xs.length + ys.length ≤ 100000 ∧ Q (.own (xs ++ ys))
  | .n _ .tup xs, .n _ .tup ys, Q => (isFzL xs && isFzL ys) = true ∧ xs ≠ [] ∧ ys ≠ [] ∧ xs.length + ys.length ≤ 100000 ∧ Q (.tup (xs ++ ys))
  | _, _, _ => False
def rAddD (K : PySem.W.Frag) : R2 := fun x y H Q => (((rI0 (fun i j => .int (i + j)) x y H Q ∨ ∃ i j, x = .str i ∧ y = .str j ∧ i.length + j.length ≤ sizeLine ∧ Q (.str (i ++ j)) H) ∨ rCat x y H Q) ∨ rCatT K x y H Q)
theorem o_add : OpR X (binaryOp .Add) (rAddD X.K) := ((op_add.or op_add_str).or op_cat).or op_catT
theorem s_add {K : PySem.W.Frag} : Sem2 K (rAddD K) qAdd := by
  intro G H v u d e F1 F2 Q0 Q s r1 r2 q fin
  unfold qAdd at q
  split at q
  · cases r1; cases r2; exact .inl (.inl (.inl ⟨_, _, rfl, rfl, fin.p s q⟩))
  · cases r1; cases r2; exact .inl (.inl (.inr ⟨_, _, rfl, rfl, size_of q.1, fin.p s q.2⟩))
  · obtain ⟨q1, q2, q3⟩ := q
    simp only [Bool.and_eq_true] at q1
    obtain ⟨a, vs, F, rfl, h1, h2⟩ := r1.list s
    obtain ⟨b, ws, F', rfl, h3, h4⟩ := r2.list s
    refine .inl (.inr ⟨a, b, vs, ws, rfl, rfl, h1, h3, by rw [h2.len, h4.len]; exact size_of q2, fun p hp => fin.lst s ?_ hp q3⟩)
    have := (h2.shared q1.1).app (h4.shared q1.2) fun a z => by cases z
    exact this
  · obtain ⟨q1, n1, n2, q2, q3⟩ := q
    simp only [Bool.and_eq_true] at q1
    obtain ⟨a, vs, F, rfl, h1, h2⟩ := r1.tupl s
    obtain ⟨b, ws, F', rfl, h3, h4⟩ := r2.tupl s
    have e1 : vs ≠ [] := fun z => n1 (List.eq_nil_of_length_eq_zero (by rw [← h2.len, z]; rfl))
    have e2 : ws ≠ [] := fun z => n2 (List.eq_nil_of_length_eq_zero (by rw [← h4.len, z]; rfl))
    refine .inr ⟨a, b, vs, ws, rfl, rfl, tq h1, tq h3, e1, by rw [h2.len, h4.len]; exact size_of q2, fun z => absurd z e2, fun _ p hp => fin.tup s ?_ hp q3⟩
    have := (h2.shared q1.1).app (h4.shared q1.2) fun a z => by cases z
    exact this
  · exact q.elim
def qI (C : Int → Int → Prop) (g : Int → Int → Int) : Op2
  | .p (.int i), .p (.int j), Q => C i j ∧ Q (.int (g i j))
  | _, _, _ => False
theorem s_I {K : PySem.W.Frag} {C : Int → Int → Prop} {g : Int → Int → Int} : Sem2 K (rI C fun i j => .int (g i j)) (qI C g) := by
  intro G H v u d e F1 F2 Q0 Q s r1 r2 q fin
  unfold qI at q
  split at q
  · cases r1; cases r2; exact ⟨_, _, rfl, rfl, q.1, fin.p s q.2⟩
  · exact q.elim
theorem s_I0 {K : PySem.W.Frag} {g : Int → Int → Int} : Sem2 K (rI0 fun i j => .int (g i j)) (qI (fun _ _ => True) g) := by
  intro G H v u d e F1 F2 Q0 Q s r1 r2 q fin
  unfold qI at q
  split at q
  · cases r1; cases r2; exact ⟨_, _, rfl, rfl, fin.p s q.2⟩
  · exact q.elim
def qSub : Op2 := qI (fun _ _ => True) fun i j => i - j
def qMul : Op2 := qI CMul fun i j => i * j
def qMod : Op2 := qI (fun _ j => 0 < j) fun i j => i % j
def qDiv : Op2 := qI (fun _ j => 0 < j ∧ j < 2 ^ 128) fun i j => i / j
def qPow : Op2 := qI CPow fun i j => i ^ j.toNat
theorem s_div {K : PySem.W.Frag} : Sem2 K (rI CDivW fun i j => .int (i / j)) qDiv := by
  intro G H v u d e F1 F2 Q0 Q s r1 r2 q fin
  unfold qDiv qI at q
  split at q
  · cases r1; cases r2
    obtain ⟨⟨h1, h2⟩, q⟩ := q
    exact ⟨_, _, rfl, rfl, wide_div (b := 128) h1 (by omega) (by decide) (by decide), fin.p s q⟩
  · exact q.elim
def qNeg : D → (D → Prop) → Prop
  | .p (.int i), Q => Q (.int (-i))
  | _, _ => False
/-! ### is None -/
def isNon : D → Bool
  | .p .non => true
  | _ => false
def qIsN : Op2 := fun d e Q => e = .non ∧ Q (.bl (isNon d))
def qNotN : Op2 := fun d e Q => e = .non ∧ Q (.bl (!isNon d))
theorem rp_non {K : PySem.W.Frag} {G H : Hp} {v : V} {d : D} {F : List Addr} (r : Rp K G H v d F) : decide (v = .non) = isNon d := by
  cases r with
  | p v => cases v <;> simp [isNon]
  | f h1 h2 => simp [isNon]
  | o h0 h1 h3 h2 => simp [isNon]
theorem s_isN {K : PySem.W.Frag} : Sem2 K (fun x y H Q => y = .non ∧ Q (.bl (decide (x = .non))) H) qIsN := by
  intro G H v u d e F1 F2 Q0 Q s r1 r2 ⟨q1, q⟩ fin
  subst q1
  cases r2
  refine ⟨rfl, ?_⟩
  rw [rp_non r1]
  exact fin.p s q
theorem s_notN {K : PySem.W.Frag} : Sem2 K (fun x y H Q => y = .non ∧ Q (.bl (!decide (x = .non))) H) qNotN := by
  intro G H v u d e F1 F2 Q0 Q s r1 r2 ⟨q1, q⟩ fin
  subst q1
  cases r2
  refine ⟨rfl, ?_⟩
  rw [rp_non r1]
  exact fin.p s q

/-! ### in -/
def inD (d : D) (ds : List D) : Bool := ds.any fun e => eqD e d
def seqK : Kd → Bool
  | .lst => true
  | .lok => true
  | .tup => true
  | .tok => true
  | _ => false
def qIn (neg : Bool) : Op2 := fun d e Q => match e with
  | .n _ k ch => (seqK k = true ∧ okD d = true ∧ okD e = true) ∧ Q (.bl (if neg = true then !inD d ch else inD d ch))
  | _ => False
end

/-! ### subscripts -/
def atD (ds : List D) (i : Int) : Option D := atI ds i
def qIx : Op2 := fun d e Q => match d, e with
  | .n _ .lst ch, .p (.int i) => ∃ c, atI ch i = some c ∧ c.isFz = true ∧ Q c
  | .n _ .lok ch, .p (.int i) => ∃ c, atI ch i = some c ∧ c.isFz = true ∧ Q c
  | .n _ .tup ch, .p (.int i) => ∃ c, atI ch i = some c ∧ c.isFz = true ∧ Q c
  | .n _ .tok ch, .p (.int i) => ∃ c, atI ch i = some c ∧ c.isFz = true ∧ Q c
  | .p (.str x), .p (.int i) => x.length ≤ 100000 ∧ ∃ c, atI x.cps.toList i = some c ∧ Q (.str ⟨#[c]⟩)
  | _, _ => False
theorem RpL.atI {K : PySem.W.Frag} {G H : Hp} {vs : List V} {ch : List D} {F : List Addr} {i : Int} {c : D} (r : RpL K G H vs ch F) (e : L2.atI ch i = some c) (hz : c.isFz = true) : ∃ x, L2.atI vs i = some x ∧ Rp K G H x c [] := by
  unfold L2.atI at e ⊢
  rw [r.len]
  cases hj : ixN ch.length i with
  | none => rw [hj] at e; cases e
  | some j =>
    rw [hj] at e
    obtain ⟨x, F', h1, h2, h3⟩ := RpL.get ch r e
    exact ⟨x, h1, h2.shared hz⟩
theorem Fin.old {K : PySem.W.Frag} {G H : Hp} {Q0 : D → Prop} {Q : VK} {x : V} {d : D} (h : Fin K G H Q0 Q) (s : Sub G H) (r : Rp K G H x d []) (q : Q0 d) : Q x H :=
  h d x G H [] q ((Stp.refl _ _ _).mono (fun _ z => z) fun _ z => by cases z) s r
section
variable {X : Cx} {cn : String → Addr} {E : WX} {a b : Expr} {pos : Pos} {ta tb : DE}
theorem s_ix {K : PySem.W.Frag} : Sem2 K (rIx K) qIx := by
  intro G H v u d e F1 F2 Q0 Q s r1 r2 q fin
  unfold qIx at q
  split at q
  · obtain ⟨c, e1, hz, q⟩ := q
    cases r2
    obtain ⟨a, vs, F', rfl, h1, h2⟩ := r1.list s
    obtain ⟨x, g1, g2⟩ := h2.atI e1 hz
    exact .inl ⟨a, vs, _, x, rfl, rfl, .inl (.inl h1), g1, fin.old s g2 q⟩
  · obtain ⟨c, e1, hz, q⟩ := q
    cases r2
    obtain ⟨a, vs, F', rfl, h1, h2⟩ := r1.lok s
    obtain ⟨x, g1, g2⟩ := h2.atI e1 hz
    exact .inl ⟨a, vs, _, x, rfl, rfl, h1, g1, fin.old s g2 q⟩
  · obtain ⟨c, e1, hz, q⟩ := q
    cases r2
    obtain ⟨a, vs, F', rfl, h1, h2⟩ := r1.tupl s
    obtain ⟨x, g1, g2⟩ := h2.atI e1 hz
    exact .inr (.inl ⟨a, vs, _, x, rfl, rfl, tq h1, g1, fin.old s g2 q⟩)
  · obtain ⟨c, e1, hz, q⟩ := q
    cases r2
    obtain ⟨a, vs, F', rfl, h1, h2⟩ := r1.tok s
    obtain ⟨x, g1, g2⟩ := h2.atI e1 hz
    exact .inr (.inl ⟨a, vs, _, x, rfl, rfl, h1, g1, fin.old s g2 q⟩)
  · obtain ⟨hl, c, e1, q⟩ := q
    cases r1; cases r2
    exact .inr (.inr ⟨_, _, c, rfl, rfl, size_of hl, e1, fin.p s q⟩)
  · exact q.elim
/-! ### slices -/
def dPart (te : DE) : Env → (Option Int → Env → Prop) → (Exn → Env → Prop) → Prop := fun ρ Q E => te ρ (fun r ρ1 => ∃ i, look ρ1 r = some (.p (.int i)) ∧ Q (some i) ρ1) E
def dNoPart : Env → (Option Int → Env → Prop) → (Exn → Env → Prop) → Prop := fun ρ Q _ => Q none ρ
abbrev DO := Env → (Option Int → Env → Prop) → (Exn → Env → Prop) → Prop
def PoO (K : PySem.W.Frag) (pv : Nat → V) (σ γ : St) (G H : Hp) (fp : Fps) (Q0 : Option Int → Env → Prop) (Q : Option Int → Hp → Prop) : Prop :=
  ∀ b ρ' G' H' fp', Q0 b ρ' → Stp G H (InF fp) G' H' (InF fp') → Mt K pv (σ ++ γ) ρ' G' H' fp' → Q b H'
def liftO (K : PySem.W.Frag) (cn : String → Addr) (E : WX) (t : DO) : TO := fun σ H Q => ∃ pv γ ρ G fp Q0 E0, Mt K pv (σ ++ γ) ρ G H fp ∧ t ρ Q0 E0 ∧ PoO K pv σ γ G H fp Q0 Q ∧ PoX K cn pv γ σ.length G H fp E0 E
abbrev JO (X : Cx) (cn : String → Addr) (E : WX) (e : Option Expr) (t : DO) : Prop := PO X e (liftO X.K cn E t)
theorem po_imp {X : Cx} {e : Option Expr} {t t' : TO} (h : PO X e t) (i : ∀ σ H Q, t' σ H Q → t σ H Q) : PO X e t' := ⟨fun pins s σ H Q I q => h.run pins s σ H Q I (i σ H Q q)⟩
theorem jo_none : JO X cn E none dNoPart := po_imp po_none fun σ H Q ⟨pv, γ, ρ, G, fp, Q0, E0, m, q, po, px⟩ => po none ρ G H fp q (Stp.refl _ _ _) m
theorem jo_some {e : Expr} {te : DE} (h : JE X cn E e te) : JO X cn E (some e) (dPart te) := po_imp (po_some h) fun σ H Q ⟨pv, γ, ρ, G, fp, Q0, E0, m, q, po, px⟩ =>
  ⟨pv, γ, ρ, G, fp, _, E0, m, q, fun r ρ1 v G1 H1 fp1 F1 ⟨i, l1, q1⟩ s1 m1 o1 => ⟨i, look_p m1 o1 l1, po (some i) ρ1 G1 H1 fp1 q1 (drop0 s1) m1⟩, px⟩
def cutD {α : Type} (xs : List α) (lo hi : Option Int) : List α := (xs.drop (HT.sIx xs.length 0 lo)).take (HT.sIx xs.length xs.length hi - HT.sIx xs.length 0 lo)
def qCut (lo hi : Option Int) : D → (D → Prop) → Prop
  | .n _ .lst ch, Q => isFzL (cutD ch lo hi) = true ∧ Q (.own (cutD ch lo hi))
  | .n _ .lok ch, Q => isFzL (cutD ch lo hi) = true ∧ Q (.own (cutD ch lo hi))
  | .p (.str x), Q => x.length ≤ 100000 ∧ Q (.str (cutS x lo hi))
  | _, _ => False
def dCut (te : DE) (tl th : DO) : DE := fun ρ Q E => te ρ (fun r ρ1 => tl ρ1 (fun lo ρ2 => th ρ2 (fun hi ρ3 => ∃ d, look ρ3 r = some d ∧ qCut lo hi d fun z => Q (.t z) ρ3) E) E) E
theorem RpL.drop {K : PySem.W.Frag} {G H : Hp} : ∀ {vs : List V} {ds : List D} {F : List Addr} (k : Nat), RpL K G H vs ds F → ∃ F', RpL K G H (vs.drop k) (ds.drop k) F' ∧ ∀ a ∈ F', a ∈ F
  | _, _, F, 0, h => ⟨F, h, fun _ z => z⟩
  | _, [], F, k + 1, h => by cases h; exact ⟨[], .nil, fun _ z => z⟩
  | _, d :: ds, F, k + 1, h => by
    cases h with
    | cons h1 h2 h3 =>
      obtain ⟨F', r, i⟩ := RpL.drop k h2
      exact ⟨F', r, fun a z => List.mem_append_right _ (i a z)⟩
theorem RpL.take {K : PySem.W.Frag} {G H : Hp} : ∀ {vs : List V} {ds : List D} {F : List Addr} (k : Nat), RpL K G H vs ds F → ∃ F', RpL K G H (vs.take k) (ds.take k) F' ∧ ∀ a ∈ F', a ∈ F
  | _, _, F, 0, h => ⟨[], .nil, fun _ z => by cases z⟩
  | _, [], F, k + 1, h => by cases h; exact ⟨[], .nil, fun _ z => z⟩
  | _, d :: ds, _, k + 1, h => by
    cases h with
    | cons h1 h2 h3 =>
      obtain ⟨F', r, i⟩ := RpL.take k h2
      refine ⟨_ ++ F', RpL.cons h1 r fun a z y => h3 a z (i a y), fun a z => ?_⟩
      rcases List.mem_append.mp z with z | z
      · exact List.mem_append_left _ z
      · exact List.mem_append_right _ (i a z)
theorem RpL.cut {K : PySem.W.Frag} {G H : Hp} {vs : List V} {ds : List D} {F : List Addr} (h : RpL K G H vs ds F) (lo hi : Option Int) (z : isFzL (cutD ds lo hi) = true) : RpL K G H (cutV vs lo hi) (cutD ds lo hi) [] := by
  unfold cutV
  unfold cutD at z ⊢
  rw [h.len]
  obtain ⟨F1, r1, _⟩ := h.drop (HT.sIx ds.length 0 lo)
  obtain ⟨F2, r2, _⟩ := r1.take (HT.sIx ds.length ds.length hi - HT.sIx ds.length 0 lo)
  exact r2.shared z
theorem je_cut {lo hi : Option Expr} {p2 : Pos} {tl th : DO} (ha : JE X cn E a ta) (hl : JO X cn E lo tl) (hh : JO X cn E hi th) : JE X cn E (.Subscript a (.Slice lo hi none p2) pos) (dCut ta tl th) := by
  refine pe_imp (pe_slice (sl_list.or sl_str) ha hl hh) ?_
  rintro σ H Q ⟨pv, γ, ρ, G, fp, Q0, E0, m, q, po, px⟩
  refine ⟨pv, γ, ρ, G, fp, _, E0, m, q, fun r ρ1 v G1 H1 fp1 F1 q1 s1 m1 o1 => ?_, px⟩
  refine ⟨pv, γ, ρ1, G1, fp1, _, E0, m1, q1, fun l ρ2 G2 H2 fp2 q2 s2 m2 => ?_, px.on s1⟩
  have o2 := o1.frame s2
  refine ⟨pv, γ, ρ2, G2, fp2, _, E0, m2, q2, fun h ρ3 G3 H3 fp3 ⟨d, l3, q3⟩ s3 m3 => ?_, (px.on s1).on0 s2⟩
  have o3 := o2.frame s3
  obtain ⟨A, rA, _⟩ := look_ok m3 o3 l3
  have s13 : Stp G H (InF fp) G3 H3 (fun a => InF fp3 a ∨ a ∈ F1) := s1.trans ((s2.trans s3).mono (fun _ z => .inl z) fun a z => z.elim .inl fun z => .inr (.inr z))
  have fin : Fin X.K G3 H3 (fun z => Q0 (.t z) ρ3) Q := fun z w' G4 H4 Fz qz s4 hs4 rz => by
    obtain ⟨f1, f2, f3⟩ := fin_new m3 s13 (fun a z => .inl z) s4 hs4
    exact po (.t z) ρ3 w' G4 H4 fp3 Fz qz f1 f2 ⟨rz, f3⟩
  unfold qCut at q3
  split at q3
  · obtain ⟨a', vs, F', rfl, h1, h2⟩ := rA.list m3.sub
    exact .inl ⟨a', vs, rfl, .inl (.inl h1), fun p hp => fin.lst m3.sub (h2.cut l h q3.1) hp q3.2⟩
  · obtain ⟨a', vs, F', rfl, h1, h2⟩ := rA.lok m3.sub
    exact .inl ⟨a', vs, rfl, h1, fun p hp => fin.lst m3.sub (h2.cut l h q3.1) hp q3.2⟩
  · cases rA
    exact .inr ⟨_, rfl, size_of q3.1, fin.p m3.sub q3.2⟩
  · exact q3.elim
end
end DL
/-! DL11: built-ins by name. -/
namespace DL
open PySem L2

abbrev OpL := List D → (D → Prop) → Prop
def lenD? : D → Option Nat
  | .n _ .lst ch => some ch.length
  | .n _ .lok ch => some ch.length
  | .n _ .tup ch => some ch.length
  | .n _ .tok ch => some ch.length
  | .n _ (.dic ks) _ => some ks.length
  | .p (.str x) => if x.length ≤ 100000 then some x.length else none
  | _ => none
def qLen : OpL := fun ds Q => ∃ d n, ds = [d] ∧ lenD? d = some n ∧ Q (.int (n : Nat))
def qList : OpL := fun ds Q => ∃ d ch, ds = [d] ∧ itemsOf d = some ch ∧ isFzL ch = true ∧ Q (.own ch)
def qTuple : OpL := fun ds Q => ∃ d ch, ds = [d] ∧ listOf d = some ch ∧ isFzL ch = true ∧ Q (.tup ch)
def intsOf : List D → Option (List Int)
  | [] => some []
  | .p (.int i) :: r => match intsOf r with
    | some is => some (i :: is)
    | none => none
  | _ => none
theorem intsOf_map : ∀ {ds : List D} {is : List Int}, intsOf ds = some is → ds = is.map fun i => D.p (.int i)
  | [], is, h => by simp only [intsOf, Option.some.injEq] at h; subst h; rfl
  | .p (.int i) :: r, is, h => by
    simp only [intsOf] at h
    split at h
    · rename_i is' e
      cases h
      rw [List.map_cons, intsOf_map e]
    · cases h
  | .p .non :: r, is, h => by simp [intsOf] at h
  | .p (.bl _) :: r, is, h => by simp [intsOf] at h
  | .p (.str _) :: r, is, h => by simp [intsOf] at h
  | .p (.byt _) :: r, is, h => by simp [intsOf] at h
  | .p (.flt _) :: r, is, h => by simp [intsOf] at h
  | .p (.ref _) :: r, is, h => by simp [intsOf] at h
  | .p (.ty _) :: r, is, h => by simp [intsOf] at h
  | .n _ _ _ :: r, is, h => by simp [intsOf] at h
theorem intsOf_of (is : List Int) : intsOf (is.map fun i => D.p (.int i)) = some is := by
  induction is with
  | nil => rfl
  | cons i r ih => simp only [List.map_cons, intsOf, ih]
def blsOf : List D → Option (List Bool)
  | [] => some []
  | .p (.bl i) :: r => match blsOf r with
    | some is => some (i :: is)
    | none => none
  | _ => none
theorem blsOf_of (is : List Bool) : blsOf (is.map fun i => D.p (.bl i)) = some is := by
  induction is with
  | nil => rfl
  | cons i r ih => simp only [List.map_cons, blsOf, ih]
def qAll : OpL := fun ds Q => ∃ d ch bs, ds = [d] ∧ listOf d = some ch ∧ blsOf ch = some bs ∧ Q (.bl (bs.all id))
def qAny : OpL := fun ds Q => ∃ d ch bs, ds = [d] ∧ listOf d = some ch ∧ blsOf ch = some bs ∧ Q (.bl (bs.any id))
/-- sorted of ints -/
def qSortI : OpL := fun ds Q => ∃ d ch is, ds = [d] ∧ listOf d = some ch ∧ intsOf ch = some is ∧ is.length ≤ 10000 ∧ ∀ is' : List Int, is'.Perm is → is'.Pairwise (· ≤ ·) → Q (.own (is'.map fun i => .p (.int i)))
def tyN : D → String
  | .p .non => "NoneType"
  | .p (.bl _) => "bool"
  | .p (.int _) => "int"
  | .p (.str _) => "str"
  | .n _ .lst _ => "list"
  | .n _ .lok _ => "list"
  | .n _ .tup _ => "tuple"
  | .n _ .tok _ => "tuple"
  | .n _ (.dic _) _ => "dict"
  | .n _ (.dit _) _ => "dict"
  | _ => "?"
def isiB (a b : String) : Bool := a == b || (a == "bool" && b == "int")
def tyKnown (a : String) : Bool := a == "NoneType" || a == "bool" || a == "int" || a == "str" || a == "list" || a == "tuple" || a == "dict"
def qIsi : OpL := fun ds Q => ∃ d n, ds = [d, .p (.ty n)] ∧ (tyKnown (tyN d) = true ∧ tyKnown n = true ∧ n ≠ "NoneType") ∧ Q (.bl (isiB (tyN d) n))
def qMax2 : OpL := fun ds Q => ∃ i j, ds = [.p (.int i), .p (.int j)] ∧ Q (.int (if j > i then j else i))
def qMin2 : OpL := fun ds Q => ∃ i j, ds = [.p (.int i), .p (.int j)] ∧ Q (.int (if j < i then j else i))
def qInt : OpL := fun ds Q => (∃ i, ds = [.p (.int i)] ∧ Q (.int i)) ∨ ∃ b, ds = [.p (.bl b)] ∧ Q (.int (if b = true then 1 else 0))
section
variable {K : PySem.W.Frag} {X : Cx}
theorem rps1 {G H : Hp} {vs : List V} {d : D} (r : Rps K G H vs [d]) : ∃ v F, vs = [v] ∧ Rp K G H v d F := by
  cases r with
  | cons h t =>
    cases t
    obtain ⟨F, h⟩ := h
    exact ⟨_, F, rfl, h⟩
theorem rps2 {G H : Hp} {vs : List V} {d e : D} (r : Rps K G H vs [d, e]) : ∃ v w F F', vs = [v, w] ∧ Rp K G H v d F ∧ Rp K G H w e F' := by
  cases r with
  | cons h t =>
    obtain ⟨w, F', rfl, h2⟩ := rps1 t
    obtain ⟨F, h⟩ := h
    exact ⟨_, w, F, F', rfl, h, h2⟩
def rLenD (K : PySem.W.Frag) : List V → Hp → VK → Prop := fun xs H Q => (∃ x n, xs = [x] ∧ LenV K x H n ∧ Q (.int n) H) ∨ ∃ a kvs, xs = [.ref a] ∧ Rd H a (.dK kvs) ∧ Q (.int kvs.length) H
theorem call_lenRd {X : Cx} : CallR X (.builtin "len") (fun xs H Q => ∃ a kvs, xs = [V.ref a] ∧ Rd H a (.dK kvs) ∧ Q (.int kvs.length) H) := by
  intro pins s σ H xs us Q I r h
  obtain ⟨a, kvs, rfl, ha, q⟩ := h
  obtain ⟨u, rfl, ru⟩ := vals1 r
  cases ru
  exact d_len I ha fun t s' I' => ⟨.int kvs.length, H, I', ⟨t, rfl⟩, q⟩
theorem o_len : CallR X (.builtin "len") (rLenD X.K) := call_len.or call_lenRd
theorem s_len : SemL X.K (rLenD X.K) qLen := by
  rintro G H vs ds Q0 Q s rs ⟨d, n, rfl, e, q⟩ fin
  obtain ⟨v, F, rfl, r⟩ := rps1 rs
  cases d with
  | p x =>
    cases x with
    | str y =>
      cases r
      simp only [lenD?] at e
      split at e
      · rename_i h
        cases e
        exact .inl ⟨.str y, _, rfl, ⟨size_of h, rfl⟩, fin.p s q⟩
      · cases e
    | non => simp [lenD?] at e
    | bl _ => simp [lenD?] at e
    | int _ => simp [lenD?] at e
    | byt _ => simp [lenD?] at e
    | flt _ => simp [lenD?] at e
    | ref _ => simp [lenD?] at e
    | ty _ => simp [lenD?] at e
  | n o k ch =>
    cases k with
    | lst =>
      simp only [lenD?, Option.some.injEq] at e
      obtain ⟨a, vs, F', rfl, h1, h2⟩ := r.list s
      exact .inl ⟨_, n, rfl, .inl ⟨vs, .inl (.inl h1), by rw [← e]; exact h2.len.symm⟩, fin.p s q⟩
    | lok =>
      simp only [lenD?, Option.some.injEq] at e
      obtain ⟨a, vs, F', rfl, h1, h2⟩ := r.lok s
      exact .inl ⟨_, n, rfl, .inl ⟨vs, h1, by rw [← e]; exact h2.len.symm⟩, fin.p s q⟩
    | tup =>
      simp only [lenD?, Option.some.injEq] at e
      obtain ⟨a, vs, F', rfl, h1, h2⟩ := r.tupl s
      exact .inl ⟨_, n, rfl, .inr ⟨vs, tq h1, by rw [← e]; exact h2.len.symm⟩, fin.p s q⟩
    | tok =>
      simp only [lenD?, Option.some.injEq] at e
      obtain ⟨a, vs, F', rfl, h1, h2⟩ := r.tok s
      exact .inl ⟨_, n, rfl, .inr ⟨vs, h1, by rw [← e]; exact h2.len.symm⟩, fin.p s q⟩
    | dic ks =>
      simp only [lenD?, Option.some.injEq] at e
      have key : ∀ {a : Addr} {vs : List V}, ks.length = vs.length → Rd H a (.dK (ks.zip vs)) → rLenD X.K [.ref a] H Q := fun {a vs} h1 h2 => by
        refine .inr ⟨a, _, rfl, h2, ?_⟩
        rw [List.length_zip, ← h1, Nat.min_self, e]
        exact fin.p s q
      cases r with
      | f h1 h2 => exact key h1.1 (Rd.mono s h1.2)
      | o h0 h1 h3 h2 => exact key h1.1 (.inl h1.2)
    | dit ks => simp [lenD?] at e
    | obj _ _ => simp [lenD?] at e
    | exc _ _ => simp [lenD?] at e
def rListD' (K : PySem.W.Frag) : List V → Hp → VK → Prop := fun xs H Q => ∃ p ys, xs = [.ref p] ∧ (SqL K H p ys ∨ SqT K H p ys) ∧ ∀ l, H l = none → Q (.ref l) (L2.upd H l (.lst ys))
theorem s_list : SemL X.K (rListD' X.K) qList := by
  rintro G H vs ds Q0 Q s rs ⟨d, ch, rfl, e, hz, q⟩ fin
  obtain ⟨v, F, rfl, r⟩ := rps1 rs
  obtain ⟨a, vs, F', rfl, h1, h2⟩ := r.seq s e
  exact ⟨a, vs, rfl, h1, fun p hp => fin.lst s (h2.shared hz) hp q⟩
theorem tyx_of {G H : Hp} {v : V} {d : D} {F : List Addr} (s : Sub G H) (r : Rp X.K G H v d F) (hk : tyKnown (tyN d) = true) : TyX X.K H v (.type (tyN d)) := by
  have sl : ∀ {a : Addr} {vs : List V}, SqL X.K H a vs → TyX X.K H (.ref a) (.type "list") := fun h => by
    rcases h with (h | ⟨o, h⟩) | ⟨o, _, _, h, c, _⟩
    · exact .base (.lst h)
    · exact .base (.frz h)
    · exact .kList h c
  have st : ∀ {a : Addr} {vs : List V}, SqT X.K H a vs → TyX X.K H (.ref a) (.type "tuple") := fun h => by
    rcases h with (h | ⟨o, h⟩) | ⟨o, _, _, h, c, _⟩
    · exact .base (.tup h)
    · exact .fTuple h
    · exact .kTuple h c
  cases d with
  | p x =>
    cases x with
    | non => cases r; exact .base .non
    | bl b => cases r; exact .base (.bl b)
    | int i => cases r; exact .base (.int i)
    | str y => cases r; exact .base (.str y)
    | byt _ => simp [tyN, tyKnown] at hk
    | flt _ => simp [tyN, tyKnown] at hk
    | ref _ => simp [tyN, tyKnown] at hk
    | ty _ => simp [tyN, tyKnown] at hk
  | n o k ch =>
    cases k with
    | lst => obtain ⟨a, vs, F', rfl, h1, h2⟩ := r.list s; exact .base (.lst h1)
    | lok => obtain ⟨a, vs, F', rfl, h1, h2⟩ := r.lok s; exact sl h1
    | tup => obtain ⟨a, vs, F', rfl, h1, h2⟩ := r.tupl s; exact st (tq h1)
    | tok => obtain ⟨a, vs, F', rfl, h1, h2⟩ := r.tok s; exact st h1
    | dic ks =>
      cases r with
      | f h1 h2 => exact (Rd.mono s h1.2).elim (fun z => .base (.dK z)) fun ⟨_, z⟩ => .fDict z
      | o h0 h1 h3 h2 => exact .base (.dK h1.2)
    | dit ks =>
      cases r with
      | f h1 h2 => exact .base (.dT (s _ _ h1.2))
      | o h0 h1 h3 h2 => exact .base (.dT h1.2)
    | obj _ _ => simp [tyN, tyKnown] at hk
    | exc _ _ => simp [tyN, tyKnown] at hk
theorem kit_isi {a b : String} (ha : tyKnown a = true) (hb : tyKnown b = true) (hn : b ≠ "NoneType") : kitB a b = some (isiB a b) := by
  simp only [tyKnown, Bool.or_eq_true, beq_iff_eq] at ha hb
  rcases ha with (((((rfl | rfl) | rfl) | rfl) | rfl) | rfl) | rfl <;> rcases hb with (((((rfl | rfl) | rfl) | rfl) | rfl) | rfl) | rfl <;> first | exact absurd rfl hn | decide +kernel
theorem s_isi : SemL X.K (rIsi X.K) qIsi := by
  rintro G H vs ds Q0 Q s rs ⟨d, n, rfl, ⟨h1, h2, h3⟩, q⟩ fin
  obtain ⟨v, w, F, F', rfl, r1, r2⟩ := rps2 rs
  cases r2
  exact ⟨v, _, _, _, _, rfl, .ty n, tyx_of s r1 h1, kit_ty (kit_isi h1 h2 h3), fin.p s q⟩
theorem s_max2 : SemL X.K (fun xs H Q => ∃ i j, xs = [V.int i, V.int j] ∧ Q (.int (if j > i then j else i)) H) qMax2 := by
  rintro G H vs ds Q0 Q s rs ⟨i, j, rfl, q⟩ fin
  obtain ⟨v, w, F, F', rfl, r1, r2⟩ := rps2 rs
  cases r1; cases r2
  exact ⟨i, j, rfl, fin.p s q⟩
end

/-! ### methods: x.append(e) and so on of what one slot holds -/
def tyM (d : D) : String := match d with
  | .p (.str _) => "str"
  | .n _ .lst _ => "list"
  | .n true (.dic _) _ => "dict"
  | .n _ (.dit _) _ => "dict"
  | _ => "?"
/-- what a method makes of a node alone held: its kind and parts behind, its value -/
abbrev OpM := Kd → List D → List D → (Kd → List D → D → Prop) → Prop
def SemM (K : PySem.W.Frag) (rr : V → List V → Hp → VK → Prop) (r : OpM) : Prop := ∀ G H a k vs ch F ws es Fw Q0 Q, Sub G H → G a = none → NdO K H a k vs → RpL K G H vs ch F → a ∉ F → RpL K G H ws es Fw → (∀ b ∈ Fw, b ∉ F ∧ b ≠ a) → r k ch es Q0 →
  (∀ k' ch' res vs' w o' F' Fr, Q0 k' ch' res → NdO K (L2.upd H a o') a k' vs' → RpL K G H vs' ch' F' → Rp K G H w res Fr → (∀ b ∈ F', b ∈ F ∨ b ∈ Fw) → (∀ b ∈ Fr, (b ∈ F ∨ b ∈ Fw) ∧ b ∉ F') → Q w (L2.upd H a o')) → rr (.ref a) ws H Q
/-- a slot's value anew -/
def Sl.re : Sl → D → Sl
  | .w _, d => .w d
  | _, d => .v d
/-- x.m(e, ..): x in slot i -/
def dMut (T : String) (i : Nat) (r : OpM) (t : DA) : DE := fun ρ Q E => (∃ s d, ρ[i]? = some s ∧ s.d? = some d ∧ tyM d = T ∧ (T = "list" ∨ T = "dict")) ∧ t ρ (fun rs ρ1 => ∃ es ρ2 s k ch, tkL ρ1 rs = some (es, ρ2) ∧ ρ2[i]? = some s ∧ s.d? = some (.n true k ch) ∧
  r k ch es fun k' ch' res => Q (.t res) ((killB i ρ2).set i (s.re (.n true k' ch')))) E
section
variable {K : PySem.W.Frag} {pv : Nat → V} {σ : St} {ρ : Env} {G H : Hp} {fp : Fps}
/-- the node in slot i is written -/
theorem Mt.mut {i : Nat} {s : Sl} {a : Addr} {k k' : Kd} {ch ch' : List D} {vs' : List V} {o' : HO} {F F' : List Addr} (m : Mt K pv σ ρ G H fp) (hi : ρ[i]? = some s) (hs : s.d? = some (.n true k ch)) (hσ : σ[i]? = some (some (.ref a))) (hfp : fp i = a :: F) (hF : a ∉ F)
    (hn : NdO K (L2.upd H a o') a k' vs') (r : RpL K G H vs' ch' F') (hd : ∀ b ∈ F', b ∈ F ∨ ¬ InF fp b) (hd' : ∀ b ∈ F', b ≠ a) :
    Mt K pv σ ((killB i ρ).set i (s.re (.n true k' ch'))) G (L2.upd H a o') (updF fp i (a :: F')) := by
  have hG : G a = none := (m.ft i a (by rw [hfp]; exact List.mem_cons_self ..)).1
  have hl : i < ρ.length := (List.getElem?_eq_some_iff.mp hi).1
  have hl' : i < (killB i ρ).length := by rw [killB_len]; exact hl
  have other : ∀ j, j ≠ i → ∀ b ∈ fp j, b ≠ a := fun j hj b hb z => m.ap j i hj b hb (by rw [hfp, z]; exact List.mem_cons_self ..)
  have gk : ∀ {j : Nat} {s0 s' : Sl}, j ≠ i → ((killB i ρ).set i s0)[j]? = some s' → s' ≠ .un → ρ[j]? = some s' ∧ ∀ q, s' ≠ .b i q := fun {j s0 s'} hj h hn => by
    rw [List.getElem?_set_ne (Ne.symm hj)] at h
    exact killB_of h hn
  have up : ∀ {x : V} {d : D} {F0 : List Addr}, Rp K G H x d F0 → (∀ b ∈ F0, b ≠ a) → Rp K G (L2.upd H a o') x d F0 := fun r h => r.mov (fun _ _ z => z) _ fun b hb o hg ho => ⟨hg, by rw [upd_ne (h b hb)]; exact ho⟩
  have upL : RpL K G (L2.upd H a o') vs' ch' F' := r.mov (fun _ _ z => z) _ fun b hb o hg ho => ⟨hg, by rw [upd_ne (hd' b hb)]; exact ho⟩
  have node : Rp K G (L2.upd H a o') (.ref a) (.n true k' ch') (a :: F') := Rp.o hG hn (fun z => hd' a z rfl) upL
  have dF : ∀ b ∈ F', ∀ j, j ≠ i → b ∉ fp j := fun b hb j hj z => by
    rcases hd b hb with y | y
    · exact m.ap i j (Ne.symm hj) b (by rw [hfp]; exact List.mem_cons_of_mem _ y) z
    · exact y ⟨j, z⟩
  refine ⟨fun b o z => ?_, by rw [List.length_set, killB_len]; exact m.len, fun j d' h => ?_, fun j d' h => ?_, fun j l q h => ?_, fun j l hjl b hb => ?_, fun j b hb => ?_⟩
  · by_cases e : b = a
    · rw [e, hG] at z; cases z
    · rw [upd_ne e]; exact m.sub b o z
  · by_cases hj : j = i
    · subst hj
      rw [List.getElem?_set_self hl'] at h
      cases s with
      | un => cases hs
      | b _ _ => cases hs
      | v _ => cases h; exact ⟨_, hσ, by rw [updF_same]; exact node⟩
      | w _ => cases h
    · obtain ⟨x, h1, h2⟩ := m.sl j d' (gk hj h (by intro z; cases z)).1
      exact ⟨x, h1, by rw [updF_ne hj]; exact up h2 (other j hj)⟩
  · by_cases hj : j = i
    · subst hj
      rw [List.getElem?_set_self hl'] at h
      cases s with
      | un => cases hs
      | b _ _ => cases hs
      | v _ => cases h
      | w d0 =>
        cases h
        have e := (m.pn j d0 hi).1
        rw [hσ] at e
        have e' : V.ref a = pv j := Option.some.inj (Option.some.inj e)
        exact ⟨by rw [← e']; exact hσ, by rw [updF_same, ← e']; exact node⟩
    · obtain ⟨h1, h2⟩ := m.pn j d' (gk hj h (by intro z; cases z)).1
      exact ⟨h1, by rw [updF_ne hj]; exact up h2 (other j hj)⟩
  · by_cases hj : j = i
    · subst hj
      rw [List.getElem?_set_self hl'] at h
      cases s with
      | un => cases hs
      | b _ _ => cases hs
      | v _ => cases h
      | w _ => cases h
    · obtain ⟨g1, g2⟩ := gk hj h (by intro z; cases z)
      obtain ⟨x, y, h1, h2, h3⟩ := m.br j l q g1
      have hk : l ≠ i := fun z => g2 q (by rw [z])
      refine ⟨x, y, h1, h2, ?_⟩
      rw [updF_ne hk]
      exact h3.mono (fun b o hb z => by rw [upd_ne (other l hk b hb)]; exact z) fun _ z => z
  · by_cases hj : j = i
    · subst hj
      rw [updF_same] at hb
      rw [updF_ne (Ne.symm hjl)]
      rcases List.mem_cons.mp hb with e | hb
      · subst e; exact fun z => other l (Ne.symm hjl) b z rfl
      · exact dF b hb l (Ne.symm hjl)
    · rw [updF_ne hj] at hb
      by_cases hk : l = i
      · subst hk
        rw [updF_same]
        intro z
        rcases List.mem_cons.mp z with e | z
        · exact other j hj b hb e
        · exact dF b z j hj hb
      · rw [updF_ne hk]; exact m.ap j l hjl b hb
  · by_cases hj : j = i
    · subst hj
      rw [updF_same] at hb
      exact Rp.foot _ node b hb
    · rw [updF_ne hj] at hb
      obtain ⟨h1, o, h2⟩ := m.ft j b hb
      exact ⟨h1, o, by rw [upd_ne (other j hj b hb)]; exact h2⟩
end

section
variable {X : Cx} {cn : String → Addr} {E : WX} {e : Expr} {t : DA} {i : Nat} {T : String}
theorem tyV_of {K : PySem.W.Frag} {G H : Hp} {v : V} {d : D} {F : List Addr} (s : Sub G H) (r : Rp K G H v d F) (h : tyM d = T) (h2 : T = "list" ∨ T = "dict") : tyV K T v H := by
  subst h
  cases d with
  | p x => cases x <;> simp [tyM] at h2
  | n o k ch =>
    cases k with
    | lst => obtain ⟨a, vs, F', rfl, h1, _⟩ := r.list s; exact .inl ⟨rfl, vs, .inl (.inl h1)⟩
    | lok => simp [tyM] at h2
    | tup => simp [tyM] at h2
    | tok => simp [tyM] at h2
    | dic ks =>
      cases r with
      | f h1 _ => simp [tyM] at h2
      | o h0 h1 _ _ => exact .inr (.inr (.inl ⟨rfl, .inl ⟨_, h1.2⟩⟩))
    | dit ks =>
      cases r with
      | f h1 _ => exact .inr (.inr (.inl ⟨rfl, .inr ⟨_, s _ _ h1.2⟩⟩))
      | o h0 h1 _ _ => exact .inr (.inr (.inl ⟨rfl, .inr ⟨_, h1.2⟩⟩))
    | obj _ _ => simp [tyM] at h2
    | exc _ _ => simp [tyM] at h2
theorem mut_go {K : PySem.W.Frag} {pv : Nat → V} {σ γ : St} {ρ1 : Env} {G H G1 H1 : Hp} {fp fp1 : Fps} {F1 : List Addr} {Q0 : Rv → Env → Prop} {Q : VK} {r : OpM} {rr : V → List V → Hp → VK → Prop} {rs : List Rv} {vs : List V} {x : V} (hs : SemM K rr r) (hx : (σ ++ γ)[i]? = some (some x))
    (po : PoE K pv σ γ G H fp Q0 Q) (s1 : Stp G H (InF fp) G1 H1 (fun a => InF fp1 a ∨ a ∈ F1)) (m1 : Mt K pv (σ ++ γ) ρ1 G1 H1 fp1) (o1 : RvsOk K (σ ++ γ) G1 H1 (InF fp1) vs rs F1)
    (q : ∃ es ρ2 s k ch, tkL ρ1 rs = some (es, ρ2) ∧ ρ2[i]? = some s ∧ s.d? = some (.n true k ch) ∧ r k ch es fun k' ch' res => Q0 (.t res) ((killB i ρ2).set i (s.re (.n true k' ch')))) : rr x vs H1 Q := by
  obtain ⟨es, ρ2, s, k, ch, e1, hi, hd, q⟩ := q
  obtain ⟨G2, fp2, s2, m2, r2, i2⟩ := tkL_ok m1 o1 (fun _ z => z) e1
  obtain ⟨x', h1, h2⟩ := m2.at hi hd
  rw [hx] at h1
  cases h1
  have dW : ∀ b ∈ F1, ¬ InF fp2 b := fun b hb z => RvsOk.foot o1 b hb (i2 b z)
  generalize hfp : fp2 i = Fi at h2
  cases h2 with
  | @o a _ ws _ F h0 n1 hF rl =>
    have hai : InF fp2 a := ⟨i, by rw [hfp]; exact List.mem_cons_self ..⟩
    have hFi : ∀ b ∈ F, InF fp2 b := fun b hb => ⟨i, by rw [hfp]; exact List.mem_cons_of_mem _ hb⟩
    refine hs G2 H1 a k ws ch F vs es F1 _ Q m2.sub h0 n1 rl hF r2 (fun b hb => ⟨fun z => dW b hb (hFi b z), fun z => dW b hb (by rw [z]; exact hai)⟩) q ?_
    intro k' ch' res vs' w o' F' Fr q' n' r' rr' d' dr
    have dF' : ∀ b ∈ F', b ≠ a := fun b hb z => by
      rcases d' b hb with y | y
      · exact hF (by rw [← z]; exact y)
      · exact dW b y (by rw [z]; exact hai)
    have m3 := m2.mut hi hd hx hfp hF n' r' (fun b hb => (d' b hb).imp_right fun y => dW b y) dF'
    have dr' : ∀ b ∈ Fr, b ≠ a := fun b hb z => by
      rcases (dr b hb).1 with y | y
      · exact hF (by rw [← z]; exact y)
      · exact dW b y (by rw [z]; exact hai)
    refine po (.t res) _ w G2 (L2.upd H1 a o') _ Fr q' ?_ m3 ⟨rr'.mov (fun _ _ z => z) _ fun b hb o hg ho => ⟨hg, by rw [upd_ne (dr' b hb)]; exact ho⟩, fun b hb z => ?_⟩
    · refine (s1.trans (s2.mono (P' := InF fp2) (Q' := fun a => InF fp2 a ∨ a ∈ F1) (fun _ z => .inl z) fun a z => z.elim .inl fun z => .inr (.inr z))).trans
        ⟨fun _ _ z => z, fun b o z n => by rw [upd_ne fun y => n (by rw [y]; exact .inl hai)]; exact z, fun _ _ _ z _ => z, fun b z => .inl ?_⟩
      rcases z with z | z
      · rcases InF.updF z with z | z
        · exact .inl z
        · rcases List.mem_cons.mp z with y | z
          · rw [y]; exact .inl hai
          · exact (d' b z).imp (hFi b) id
      · exact (dr b z).1.imp (hFi b) id
    · rcases dr b hb with ⟨y, ny⟩
      obtain ⟨j, hj⟩ := z
      by_cases e : j = i
      · subst e
        rw [updF_same] at hj
        rcases List.mem_cons.mp hj with u | u
        · exact dr' b hb u
        · exact ny u
      · rw [updF_ne e] at hj
        rcases y with y | y
        · exact m2.ap j i e b hj (by rw [hfp]; exact List.mem_cons_of_mem _ y)
        · exact dW b y ⟨j, hj⟩
theorem je_mut {r : OpM} {rr : V → List V → Hp → VK → Prop} (hs : SemM X.K rr r) (hi : i < X.N.length) (h : PE X e (tBM X.K T rr (tVar i) (liftA X.K cn E t))) : JE X cn E e (dMut T i r t) := by
  refine ⟨fun pins sh σ H Q I ⟨pv, γ, ρ, G, fp, Q0, E0, m, ⟨⟨s, d, e1, e2, e3, e4⟩, q⟩, po, px⟩ => ?_⟩
  obtain ⟨x, h1, h2⟩ := m.at e1 e2
  have hl : i < σ.length := by rw [I.len]; exact hi
  exact h.run pins sh σ H Q I ⟨x, get_left hl h1, tyV_of m.sub h2 e3 e4, pv, γ, ρ, G, fp, _, E0, m, q, fun rs ρ1 vs G1 H1 fp1 F1 q1 s1 m1 o1 => mut_go hs h1 po s1 m1 o1 q1, px⟩
def mAppend : OpM := fun k ch es Q => ∃ d, k = .lst ∧ es = [d] ∧ ch.length < 100000 ∧ Q .lst (ch ++ [d]) .non
theorem m_append : SemM X.K rAppend mAppend := by
  rintro G H a k vs ch F ws es Fw Q0 Q s hG n r ha rw dw ⟨d, rfl, rfl, hl, q⟩ fin
  cases rw with
  | @cons y ws' _ _ Fa Fb h1 h2 h3 =>
    have e1 : ws' = [] := by cases h2; rfl
    have e2 : Fb = [] := by cases h2; rfl
    subst e1 e2
    refine ⟨a, vs, y, rfl, rfl, n, by rw [r.len]; exact Nat.lt_of_lt_of_le hl (by decide), ?_⟩
    refine fin .lst (ch ++ [d]) .non (vs ++ [y]) .non (.lst (vs ++ [y])) (F ++ Fa) [] q upd_same (r.app (RpL.one h1) fun b hb hb' => (dw b (List.mem_append_left _ hb')).1 hb) (Rp.p _) (fun b hb => ?_) fun b hb => by cases hb
    rcases List.mem_append.mp hb with z | z
    · exact .inl z
    · exact .inr (List.mem_append_left _ z)
end
end DL
/-! DL12: dicts read; targets; more rules. -/
namespace DL
open PySem L2

def keyD : D → Option Key
  | .p (.int i) => some (.inl i)
  | .p (.str x) => some (.inr x)
  | _ => none
def keysD : List D → Option (List Key)
  | [] => some []
  | d :: ds => match keyD d, keysD ds with
    | some k, some ks => some (k :: ks)
    | _, _ => none
def lookK {κ : Type} [DecidableEq κ] : List κ → List D → κ → Option D
  | k :: ks, d :: ds, x => if k = x then some d else lookK ks ds x
  | _, _, _ => none
theorem keyD_rp {K : PySem.W.Frag} {G H : Hp} {v : V} {d : D} {F : List Addr} {k : Key} (r : Rp K G H v d F) (e : keyD d = some k) : v = kV k := by
  cases d with
  | p x =>
    cases r
    cases v <;> simp only [keyD] at e <;> first | (cases e; rfl) | cases e
  | n _ _ _ => simp [keyD] at e
theorem keysD_rp {K : PySem.W.Frag} {G H : Hp} : ∀ {vs : List V} {ds : List D} {F : List Addr} {ks : List Key}, RpL K G H vs ds F → keysD ds = some ks → vs = ks.map kV
  | _, [], _, ks, r, e => by
    simp only [keysD, Option.some.injEq] at e
    subst e
    cases r
    rfl
  | _, d :: ds, _, ks, r, e => by
    simp only [keysD] at e
    split at e
    · rename_i k ks' e1 e2
      cases e
      cases r with
      | cons h1 h2 h3 => rw [keyD_rp h1 e1, keysD_rp h2 e2]; rfl
    · cases e
theorem look_val {K : PySem.W.Frag} {G H : Hp} {κ : Type} [DecidableEq κ] {x : κ} : ∀ {ks : List κ} {vs : List V} {ds : List D} {F : List Addr}, ks.length = vs.length → RpL K G H vs ds F →
    match lookK ks ds x with
    | some d => ∃ y F', valV (ks.zip vs) x = some y ∧ Rp K G H y d F'
    | none => valV (ks.zip vs) x = none
  | [], vs, ds, F, hl, r => by
    have : vs = [] := List.eq_nil_of_length_eq_zero hl.symm
    subst this
    simp only [lookK]
    exact valV_nil
  | k :: ks, [], ds, F, hl, r => by simp at hl
  | k :: ks, v :: vs, ds, F, hl, r => by
    cases r with
    | cons h1 h2 h3 =>
      rw [List.zip_cons_cons]
      by_cases e : k = x
      · simp only [lookK, if_pos e]
        exact ⟨v, _, valV_pos (p := (k, v)) e, h1⟩
      · simp only [lookK, if_neg e]
        rw [valV_neg (p := (k, v)) e]
        exact look_val (by simpa using hl) h2
/-- what a dict holds at a key -/
def dictD : D → D → Option (Option D)
  | .n _ (.dic ks) ch, k => (keyD k).map (lookK ks ch)
  | .n _ (.dit ks) ch, .n _ .tup kc => (keysD kc).map (lookK ks ch)
  | _, _ => none
def OR (K : PySem.W.Frag) (G H : Hp) : Option V → Option D → Prop
  | some y, some c => ∃ F, Rp K G H y c F
  | none, none => True
  | _, _ => False
theorem look_or {K : PySem.W.Frag} {G H : Hp} {κ : Type} [DecidableEq κ] {x : κ} {ks : List κ} {vs : List V} {ds : List D} {F : List Addr} (hl : ks.length = vs.length) (r : RpL K G H vs ds F) : OR K G H (valV (ks.zip vs) x) (lookK ks ds x) := by
  have lv := look_val (x := x) hl r
  cases e : lookK ks ds x with
  | none => rw [e] at lv; simp only at lv; rw [lv]; trivial
  | some c =>
    rw [e] at lv
    obtain ⟨y, F', h1, h2⟩ := lv
    rw [h1]
    exact ⟨F', h2⟩
theorem dict_get {K : PySem.W.Frag} {G H : Hp} {v u : V} {d k : D} {F F' : List Addr} {o : Option D} (s : Sub G H) (r : Rp K G H v d F) (rk : Rp K G H u k F') (e : dictD d k = some o) : ∃ a o', v = .ref a ∧ DGet H a u o' ∧ OR K G H o' o := by
  cases d with
  | p x => simp [dictD] at e
  | n ow kd ch =>
    cases kd with
    | lst => simp [dictD] at e
    | lok => simp [dictD] at e
    | tup => simp [dictD] at e
    | tok => simp [dictD] at e
    | obj _ _ => simp [dictD] at e
    | exc _ _ => simp [dictD] at e
    | dic ks =>
      simp only [dictD, Option.map_eq_some_iff] at e
      obtain ⟨x, ex, rfl⟩ := e
      have := keyD_rp rk ex
      subst this
      cases r with
      | @f a _ vs _ F h1 h2 => exact ⟨a, _, rfl, .inl ⟨_, _, Rd.mono s h1.2, rfl, rfl⟩, look_or h1.1 h2⟩
      | @o a _ vs _ F h0 h1 h3 h2 => exact ⟨a, _, rfl, DGet.k h1.2, look_or h1.1 h2⟩
    | dit ks =>
      cases k with
      | p x => simp [dictD] at e
      | n ow' kd' kc =>
        cases kd' with
        | tup =>
          simp only [dictD, Option.map_eq_some_iff] at e
          obtain ⟨x, ex, rfl⟩ := e
          obtain ⟨b, ws, F2, rfl, h4, h5⟩ := rk.tupl s
          have := keysD_rp h5 ex
          subst this
          cases r with
          | @f a _ vs _ F h1 h2 => exact ⟨a, _, rfl, DGet.t (s _ _ h1.2) h4, look_or h1.1 h2⟩
          | @o a _ vs _ F h0 h1 h3 h2 => exact ⟨a, _, rfl, DGet.t h1.2 h4, look_or h1.1 h2⟩
        | lst => simp [dictD] at e
        | lok => simp [dictD] at e
        | tok => simp [dictD] at e
        | dic _ => simp [dictD] at e
        | dit _ => simp [dictD] at e
        | obj _ _ => simp [dictD] at e
        | exc _ _ => simp [dictD] at e

/-! ### x in y, of lists, tuples, dicts, texts -/
def qInS (neg : Bool) : Op2 := fun d e Q => match e with
  | .p (.str z) => ∃ c, d = .p (.str ⟨#[c]⟩) ∧ Q (.bl (if neg = true then !decide (c ∈ z.cps.toList) else decide (c ∈ z.cps.toList)))
  | .n _ (.dic _) _ => ∃ o, dictD e d = some o ∧ Q (.bl (if neg = true then !o.isSome else o.isSome))
  | .n _ (.dit _) _ => ∃ o, dictD e d = some o ∧ Q (.bl (if neg = true then !o.isSome else o.isSome))
  | _ => qIn neg d e Q
def rInS (K : PySem.W.Frag) (neg : Bool) : R2 := fun x y H Q => (rInP K neg x y H Q ∨ ∃ a o, y = .ref a ∧ DGet H a x o ∧ Q (.bl (if neg = true then !o.isSome else o.isSome)) H) ∨
  ∃ (c : Nat) (z : Str), x = .str ⟨#[c]⟩ ∧ y = .str z ∧ Q (.bl (if neg = true then !decide (c ∈ z.cps.toList) else decide (c ∈ z.cps.toList))) H
section
variable {X : Cx} {cn : String → Addr} {E : WX}
/-! ### x[i] -/
def qIxS : Op2 := fun d e Q => match d with
  | .n _ (.dic _) _ => ∃ c, dictD d e = some (some c) ∧ c.isFz = true ∧ Q c
  | .n _ (.dit _) _ => ∃ c, dictD d e = some (some c) ∧ c.isFz = true ∧ Q c
  | _ => qIx d e Q
def rIxS' (K : PySem.W.Frag) : R2 := fun x y H Q => rIx K x y H Q ∨ ∃ a v, x = .ref a ∧ DGet H a y (some v) ∧ Q v H
theorem ix_dict (hu : X.A.units + 1 < cLine) : IxR X (fun x y H Q => ∃ a v, x = .ref a ∧ DGet H a y (some v) ∧ Q v H) := by
  intro value slice pins s σ H x y v u Q I rx ry ⟨a, w, e, g, q⟩ hs
  subst e
  cases rx
  refine PyProof.Rows.tail_any (T := "dict") (dict_typeIs I g) slot_dict_getitem.lookup (d_getItem hu I g ry fun w' s' I' r' => ⟨w, H, I', r', q⟩) hs
theorem s_ixS {K : PySem.W.Frag} : Sem2 K (rIxS' K) qIxS := by
  intro G H v u d e F1 F2 Q0 Q s r1 r2 q fin
  unfold qIxS at q
  split at q
  · obtain ⟨c, eo, hz, q⟩ := q
    obtain ⟨a, o', rfl, g, h⟩ := dict_get s r1 r2 eo
    cases o' with
    | none => cases h
    | some y =>
      obtain ⟨F, h⟩ := h
      exact .inr ⟨a, y, rfl, g, fin.old s (h.shared hz) q⟩
  · obtain ⟨c, eo, hz, q⟩ := q
    obtain ⟨a, o', rfl, g, h⟩ := dict_get s r1 r2 eo
    cases o' with
    | none => cases h
    | some y =>
      obtain ⟨F, h⟩ := h
      exact .inr ⟨a, y, rfl, g, fin.old s (h.shared hz) q⟩
  · exact .inl (s_ix G H v u d e F1 F2 Q0 Q s r1 r2 q fin)
theorem je_ixS {a b : Expr} {ta tb : DE} {pos : Pos} (hu : X.A.units + 1 < cLine) (ha : JE X cn E a ta) (hb : JE X cn E b tb) (hs : PlainIx b) : JE X cn E (.Subscript a b pos) (dOp qIxS ta tb) :=
  pe_imp (pe_ix (ix_seq.or (ix_dict hu)) ha hb hs) (opE s_ixS)

/-! ### more rules -/
theorem jts_nil : PTs X [] (liftT X.K cn E dTrue) := ⟨fun pins s σ H Q I ⟨pv, γ, ρ, G, fp, Q0, E0, m, q, po, px⟩ => pts_nil.run pins s σ H Q I (po true ρ G H fp q (Stp.refl _ _ _) m)⟩
theorem jts_one {c : Expr} {t : DT} (h : JT X cn E c t) : PTs X [c] (liftT X.K cn E t) := pts_one h
def dAugI (i : Nat) (te : DE) : DS := fun D ρ => (∃ x, slD ρ i = some (.p (.int x))) ∧ te ρ (fun r ρ1 => ∃ x y ρ2, slD ρ1 i = some (.p (.int x)) ∧ look ρ1 r = some (.p (.int y)) ∧ stV ρ1 i (.p (.int (x + y))) = some ρ2 ∧ D.nx ρ2) D.ex
theorem js_augI {i : Nat} {st : Stmt} {te : DE} (hi : i < X.N.length) (h : PS X st (tAug i (liftE X.K cn E te) (ipI fun i j => i + j))) : JS X cn E st (dAugI i te) := ⟨fun pins sh σ H D I ⟨pv, γ, ρ, G, fp, D0, m, ⟨⟨x, e0⟩, q⟩, po⟩ => by
  have hl : i < σ.length := by rw [I.len]; exact hi
  obtain ⟨v, F0, h1, h2, _⟩ := sl_ok m e0
  refine h.run pins sh σ H D I ⟨v, get_left hl h1, pv, γ, ρ, G, fp, _, _, m, q, fun r ρ1 w G1 H1 fp1 F1 ⟨x', y, ρ2, e1, e2, e3, q1⟩ s1 m1 o1 => ?_, po.ex⟩
  obtain ⟨v', F0', h1', h2', _⟩ := sl_ok m1 e1
  rw [h1] at h1'
  cases h1'
  cases h2'
  have ew := look_p m1 o1 e2
  subst ew
  refine ⟨x', y, rfl, rfl, ?_⟩
  have m3 := m1.put e3 (Rp.p _) (F := []) (fun a z => by cases z)
  rw [set_app hl] at m3
  refine po.nx ρ2 _ G1 H1 _ q1 (s1.mono (fun _ z => z) fun a z => .inl (.inl ?_)) m3 (by rw [List.length_set])
  rcases InF.updF z with z | z
  · exact z
  · cases z⟩
theorem js_setLc {i : Nat} {st : Stmt} {ti : DI} {g : DG} {tt : DT} {te : DE} {vs : List Nat} (hi : i < X.N.length)
    (h : PS X st (tAsg (tLc (liftI X.K cn E ti) (liftG X.K vs g) (liftT X.K cn WF tt) (liftE X.K cn WF te) vs) (gName i))) : JS X cn E st (dAsg (dLc ti g tt te vs) (dName i)) :=
  js_set hi (ps_imp h fun D σ H q => lcE q)
theorem cx_no {P : Program} {w : World} {H : Hp} {s : Shared} {e : Value} {s' : Shared} (h : L2.CX P w [] H s (fun _ _ _ => False) e s') : False := by
  obtain ⟨_, _, _, _, _, _, _, _, _, _, _, _, z⟩ := h
  exact z
/-- text * number -/
def qMulS : Op2
  | .p (.int i), .p (.int j), Q => CMul i j ∧ Q (.int (i * j))
  | .p (.str x), .p (.int n), Q => (0 ≤ n ∧ (x.length : Int) * n ≤ 100000 ∧ n ≤ 100000) ∧ Q (.str ⟨(List.replicate n.toNat x.cps.toList).flatten.toArray⟩)
  | _, _, _ => False
def rMulS : R2 := fun x y H Q => rI CMul (fun i j => .int (i * j)) x y H Q ∨ ∃ z n, x = .str z ∧ y = .int n ∧ (0 ≤ n ∧ (z.length : Int) * n ≤ 100000 ∧ n ≤ 100000) ∧ Q (.str ⟨(List.replicate n.toNat z.cps.toList).flatten.toArray⟩) H
theorem s_mul {K : PySem.W.Frag} : Sem2 K rMulS qMulS := by
  intro G H v u d e F1 F2 Q0 Q s r1 r2 q fin
  unfold qMulS at q
  split at q
  · cases r1; cases r2; exact .inl ⟨_, _, rfl, rfl, q.1, fin.p s q.2⟩
  · cases r1; cases r2; exact .inr ⟨_, _, rfl, rfl, q.1, fin.p s q.2⟩
  · exact q.elim
end
end DL
/-! DL13: plain things and what stands for them; running a reading. -/
namespace DL
open PySem L2

/-! ### what stands for a plain thing -/
/-- the truth of p -/
noncomputable def dc (p : Prop) : Bool := @decide p (Classical.propDecidable p)
theorem dc_t {p : Prop} : dc p = true ↔ p := @decide_eq_true_iff p (Classical.propDecidable p)
theorem dc_f {p : Prop} : dc p = false ↔ ¬p := @decide_eq_false_iff_not p (Classical.propDecidable p)
theorem dc_d {p : Prop} [Decidable p] : dc p = decide p := by
  by_cases h : p
  · rw [dc_t.mpr h, decide_eq_true h]
  · rw [dc_f.mpr h, decide_eq_false h]
class Enc (α : Type) where
  en : α → D
  fz : ∀ x, (en x).isFz = true
  lay : ∀ x, (toPy (en x)).plain = true
  dep : Nat
  de : ∀ x, (toPy (en x)).depth ≤ dep
  eq : ∀ x y, eqD (en x) (en y) = true ↔ x = y
open Enc (en)
instance : Enc Int := ⟨fun i => .p (.int i), fun _ => rfl, fun _ => rfl, 0, fun _ => by simp [toPy, PyData.depth], fun x y => by simp [eqD, toPy, PyData.eqv]⟩
instance : Enc Str := ⟨fun i => .p (.str i), fun _ => rfl, fun _ => rfl, 0, fun _ => by simp [toPy, PyData.depth], fun x y => by simp [eqD, toPy, PyData.eqv]⟩
instance : Enc Bool := ⟨fun i => .p (.bl i), fun _ => rfl, fun _ => rfl, 0, fun _ => by simp [toPy, PyData.depth], fun x y => by simp [eqD, toPy, PyData.eqv]⟩
section
variable {α : Type} [Enc α]
theorem fzl_e : ∀ xs : List α, isFzL (xs.map en) = true
  | [] => rfl
  | x :: xs => by rw [List.map_cons, isFzL, Enc.fz, fzl_e xs]; rfl
theorem lay_e : ∀ xs : List α, PyData.plainAll (toPyL (xs.map en)) = true
  | [] => rfl
  | x :: xs => by rw [List.map_cons, toPyL, PyData.plainAll, Enc.lay, lay_e xs]; rfl
theorem dep_e : ∀ xs : List α, PyData.depthAll (toPyL (xs.map en)) ≤ Enc.dep α
  | [] => Nat.zero_le _
  | x :: xs => by
    rw [List.map_cons, toPyL, PyData.depthAll]
    have := dep_e xs
    have := Enc.de x
    omega
theorem eq_e : ∀ xs ys : List α, PyData.eqvAll (toPyL (xs.map en)) (toPyL (ys.map en)) = true ↔ xs = ys
  | [], [] => by simp [toPyL, PyData.eqvAll]
  | [], y :: ys => by simp [toPyL, PyData.eqvAll]
  | x :: xs, [] => by simp [toPyL, PyData.eqvAll]
  | x :: xs, y :: ys => by
    rw [List.map_cons, List.map_cons, toPyL, toPyL, PyData.eqvAll, Bool.and_eq_true, eq_e xs ys, List.cons.injEq]
    exact and_congr_left' (Enc.eq x y)
end
instance {α : Type} [i : Enc α] : Enc (List α) where
  en xs := .n false .lst (xs.map en)
  fz xs := by rw [D.isFz, fzl_e]; rfl
  lay xs := by rw [toPy, PyData.plain, lay_e]
  dep := Enc.dep α + 1
  de xs := by
    rw [toPy, PyData.depth]
    have := dep_e xs
    omega
  eq x y := by
    unfold eqD
    rw [toPy, toPy, PyData.eqv, eq_e, ]
instance {α β : Type} [i : Enc α] [j : Enc β] : Enc (α × β) where
  en x := .n false .tup [en x.1, en x.2]
  fz x := by simp [D.isFz, isFzL, Enc.fz]
  lay x := by simp [toPy, toPyL, PyData.plain, PyData.plainAll, Enc.lay]
  dep := max (Enc.dep α) (Enc.dep β) + 1
  de x := by
    have := Enc.de x.1
    have := Enc.de x.2
    simp only [toPy, toPyL, PyData.depth, PyData.depthAll]
    omega
  eq x y := by
    unfold eqD
    simp only [toPy, toPyL, PyData.eqv, PyData.eqvAll, Bool.and_true, Bool.and_eq_true]
    rw [Prod.ext_iff]
    exact and_congr (Enc.eq x.1 y.1) (Enc.eq x.2 y.2)
/-- a list that one slot alone holds -/
abbrev eo {α : Type} [Enc α] (xs : List α) : D := .n true .lst (xs.map en)
section
variable {α β : Type} [Enc α] [Enc β]
@[simp] theorem fz_e (x : α) : (en x).isFz = true := Enc.fz x
@[simp] theorem fz_eo (xs : List α) : (eo xs).isFz = false := by unfold eo; rw [D.isFz]; rfl
@[simp] theorem fr_e (x : α) : (en x).fz = en x := fz_of (Enc.fz x)
@[simp] theorem fr_eo (xs : List α) : (eo xs).fz = en xs := by
  unfold eo
  rw [D.fz, fzL_of (fzl_e xs)]
  rfl
theorem ok_of {x : α} (h : Enc.dep α ≤ 64) : okD (en x) = true := by
  unfold okD
  rw [Enc.lay, Bool.true_and]
  have := Enc.de x
  exact decide_eq_true (by omega)
theorem py_eo (xs : List α) : toPy (eo xs) = toPy (en xs) := by
  show toPy (.n true .lst _) = toPy (.n false .lst _)
  rw [toPy, toPy]
theorem ok_eo {xs : List α} (h : Enc.dep α + 1 ≤ 64) : okD (eo xs) = true := by
  unfold okD
  rw [py_eo]
  exact ok_of (α := List α) h
theorem eqD_e (x y : α) : eqD (en x) (en y) = dc (x = y) := by
  by_cases h : x = y
  · rw [dc_t.mpr h, (Enc.eq x y).mpr h]
  · rw [dc_f.mpr h]
    cases g : eqD (en x) (en y) with
    | false => rfl
    | true => exact absurd ((Enc.eq x y).mp g) h
@[simp] theorem items_e (xs : List α) : itemsOf (en xs) = some (xs.map en) := rfl
@[simp] theorem items_eo (xs : List α) : itemsOf (eo xs) = some (xs.map en) := rfl
@[simp] theorem list_e (xs : List α) : listOf (en xs) = some (xs.map en) := rfl
@[simp] theorem list_eo (xs : List α) : listOf (eo xs) = some (xs.map en) := rfl
end

theorem hu65_of {k : Nat} {A : Around} (r : Room k A) : A.units + 65 < cLine := by
  have := r.un
  omega

/-! ### running a reading: one lemma for each head -/
section
variable {n : Env → Prop} {rt : D → Env → Prop} {bk ct : Env → Prop} {ex : Exn → Env → Prop} {ρ ρ1 ρ2 : Env} {Q : Rv → Env → Prop} {QT : Bool → Env → Prop} {QA : List Rv → Env → Prop} {QI : List D → Env → Prop} {E : Exn → Env → Prop}
  {t u : DS} {te ta tb tc : DE} {tt tv : DT} {tA : DA} {ti : DI} {g : DG} {r : Op2} {d d' : D} {i j : Nat} {v : V} {x y : Rv} {xs : List Rv}
theorem w_seq (h : t ⟨fun ρ1 => u ⟨n, rt, bk, ct, ex⟩ ρ1, rt, bk, ct, ex⟩ ρ) : dSeq t u ⟨n, rt, bk, ct, ex⟩ ρ := h
theorem w_next (h : n ρ) : dNext ⟨n, rt, bk, ct, ex⟩ ρ := h
theorem w_break (h : bk ρ) : dBreak ⟨n, rt, bk, ct, ex⟩ ρ := h
theorem w_cont (h : ct ρ) : dCont ⟨n, rt, bk, ct, ex⟩ ρ := h
theorem w_drop (h : te ρ (fun _ ρ1 => n ρ1) ex) : dDrop te ⟨n, rt, bk, ct, ex⟩ ρ := h
def retK (r : Rv) (ρ : Env) (k : D → Env → Prop) : Prop := ∃ d ρ2, tk ρ r = some (d, ρ2) ∧ k d ρ2
theorem w_ret (h : te ρ (fun r ρ1 => retK r ρ1 rt) ex) : dRet te ⟨n, rt, bk, ct, ex⟩ ρ := h
theorem w_retT {k : D → Env → Prop} (h : k d ρ) : retK (.t d) ρ k := ⟨d, ρ, rfl, h⟩
theorem w_retS {k : D → Env → Prop} (h0 : slD ρ i = some d) (hz : d.isFz = true) (h : k d ρ) : retK (.s i) ρ k := ⟨d, ρ, by simp only [tk, h0, hz, if_true], h⟩
theorem w_retN (h : rt (.p .non) ρ) : dRetN ⟨n, rt, bk, ct, ex⟩ ρ := h
theorem w_ifS (h : tt ρ (fun b ρ1 => if b = true then t ⟨n, rt, bk, ct, ex⟩ ρ1 else u ⟨n, rt, bk, ct, ex⟩ ρ1) ex) : dIfS tt t u ⟨n, rt, bk, ct, ex⟩ ρ := h
theorem w_asg (h : te ρ (fun r ρ1 => g r ρ1 n) ex) : dAsg te g ⟨n, rt, bk, ct, ex⟩ ρ := h
theorem w_nameT {k : Env → Prop} (h1 : stV ρ i d = some ρ2) (h : k ρ2) : dName i (.t d) ρ k := ⟨d, ρ, ρ2, rfl, h1, h⟩
theorem w_nameS {k : Env → Prop} (h0 : slD ρ j = some d) (hz : d.isFz = true) (h1 : stV ρ i d = some ρ2) (h : k ρ2) : dName i (.s j) ρ k := ⟨d, ρ, ρ2, by simp only [tk, h0, hz, if_true], h1, h⟩
theorem w_for (h : ti ρ (fun items ρ1 => dLoop g t ⟨n, rt, bk, ct, ex⟩ items ρ1) ex) : dFor ti g t ⟨n, rt, bk, ct, ex⟩ ρ := h
theorem w_ifT {p q : Prop} (h : p) : if true = true then p else q := by rw [if_pos rfl]; exact h
theorem w_ifF {p q : Prop} (h : q) : if false = true then p else q := by rw [if_neg (by decide)]; exact h
theorem w_if {b : Bool} {p q : Prop} (h1 : b = true → p) (h2 : b = false → q) : if b = true then p else q := by
  cases b
  · exact w_ifF (h2 rfl)
  · exact w_ifT (h1 rfl)
theorem w_if_f {b : Bool} {p q : Prop} (e : b = false) (h : q) : if b = true then p else q := by subst e; exact w_ifF h
theorem w_if_t {b : Bool} {p q : Prop} (e : b = true) (h : p) : if b = true then p else q := by subst e; exact w_ifT h
theorem w_var (h0 : slD ρ i = some d) (h : Q (.s i) ρ) : dVar i ρ Q E := ⟨by rw [h0]; rfl, h⟩
theorem w_c (h : Q (.t (.p v)) ρ) : dC v ρ Q E := h
theorem w_mv (h0 : ρ[i]? = some (.v d)) (h1 : (killB i ρ).set i .un = ρ2) (h : Q (.t d) ρ2) : dMv i ρ Q E := ⟨d, h0, by rw [h1]; exact h⟩
def opK (r : Op2) (x y : Rv) (ρ : Env) (k : D → Prop) : Prop := ∃ d e, look ρ x = some d ∧ look ρ y = some e ∧ r d e k
theorem w_op (h : ta ρ (fun x ρ1 => tb ρ1 (fun y ρ2 => opK r x y ρ2 fun z => Q (.t z) ρ2) E) E) : dOp r ta tb ρ Q E := h
theorem w_opK {k : D → Prop} (h1 : look ρ x = some d) (h2 : look ρ y = some d') (h : r d d' k) : opK r x y ρ k := ⟨d, d', h1, h2, h⟩
def unK (r : D → (D → Prop) → Prop) (x : Rv) (ρ : Env) (k : D → Prop) : Prop := ∃ d, look ρ x = some d ∧ r d k
theorem w_un {r : D → (D → Prop) → Prop} (h : ta ρ (fun x ρ1 => unK r x ρ1 fun z => Q (.t z) ρ1) E) : dUn r ta ρ Q E := h
theorem w_unK {r : D → (D → Prop) → Prop} {k : D → Prop} (h1 : look ρ x = some d) (h : r d k) : unK r x ρ k := ⟨d, h1, h⟩
def blK (x : Rv) (ρ : Env) (k : Bool → Prop) : Prop := ∃ b, look ρ x = some (.p (.bl b)) ∧ k b
theorem w_blK {k : Bool → Prop} {b : Bool} (h1 : look ρ x = some (.p (.bl b))) (h : k b) : blK x ρ k := ⟨b, h1, h⟩
theorem w_tst (h : ta ρ (fun x ρ1 => blK x ρ1 fun b => QT b ρ1) E) : dTst ta ρ QT E := h
theorem w_and (h : tt ρ (fun b ρ1 => if b = true then tv ρ1 QT E else QT false ρ1) E) : dAnd tt tv ρ QT E := h
theorem w_or (h : tt ρ (fun b ρ1 => if b = true then QT true ρ1 else tv ρ1 QT E) E) : dOr tt tv ρ QT E := h
theorem w_not (h : tt ρ (fun b ρ1 => QT (!b) ρ1) E) : dNot tt ρ QT E := h
theorem w_andV (h : ta ρ (fun x ρ1 => blK x ρ1 fun b => if b = true then tb ρ1 Q E else Q (.t (.p (.bl false))) ρ1) E) : dAndV ta tb ρ Q E := h
theorem w_orV (h : ta ρ (fun x ρ1 => blK x ρ1 fun b => if b = true then Q (.t (.p (.bl true))) ρ1 else tb ρ1 Q E) E) : dOrV ta tb ρ Q E := h
theorem w_notV (h : ta ρ (fun x ρ1 => blK x ρ1 fun b => Q (.t (.p (.bl (!b)))) ρ1) E) : dNotV ta ρ Q E := h
theorem w_ifE (h : tt ρ (fun b ρ1 => if b = true then ta ρ1 Q E else tb ρ1 Q E) E) : dIf tt ta tb ρ Q E := h
theorem w_nil (h : QA [] ρ) : dNil ρ QA E := h
theorem w_cons (h : ta ρ (fun x ρ1 => tA ρ1 (fun xs ρ2 => QA (x :: xs) ρ2) E) E) : dCons ta tA ρ QA E := h
def cbK (r : OpL) (xs : List Rv) (ρ : Env) (k : D → Prop) : Prop := ∃ ds, lookL ρ xs = some ds ∧ r ds k
theorem w_cb {r : OpL} (h : tA ρ (fun rs ρ1 => cbK r rs ρ1 fun z => Q (.t z) ρ1) E) : dCB r tA ρ Q E := h
theorem w_cbK {r : OpL} {k : D → Prop} {ds : List D} (h1 : lookL ρ xs = some ds) (h : r ds k) : cbK r xs ρ k := ⟨ds, h1, h⟩
def mkK (xs : List Rv) (ρ : Env) (k : List D → Env → Prop) : Prop := ∃ ds ρ2, tkL ρ xs = some (ds, ρ2) ∧ ds.length ≤ 100000 ∧ k ds ρ2
theorem w_lst (h : tA ρ (fun rs ρ1 => mkK rs ρ1 fun ds ρ2 => Q (.t (.n true .lst ds)) ρ2) E) : dLst tA ρ Q E := h
theorem w_tup (h : tA ρ (fun rs ρ1 => mkK rs ρ1 fun ds ρ2 => Q (.t (.n false .tup ds)) ρ2) E) : dTup tA ρ Q E := h
theorem w_mkK {k : List D → Env → Prop} {ds : List D} (h1 : tkL ρ xs = some (ds, ρ2)) (h2 : ds.length ≤ 100000) (h : k ds ρ2) : mkK xs ρ k := ⟨ds, ρ2, h1, h2, h⟩
def itK (x : Rv) (ρ : Env) (k : List D → Env → Prop) : Prop := ∃ d ρ2 ch, tkF ρ x = some (d, ρ2) ∧ itemsOf d = some ch ∧ k ch ρ2
theorem w_iseq (h : ta ρ (fun r ρ1 => itK r ρ1 QI) E) : dISeq ta ρ QI E := h
theorem w_itK {k : List D → Env → Prop} {ch : List D} (h1 : tkF ρ x = some (d, ρ2)) (h2 : itemsOf d = some ch) (h : k ch ρ2) : itK x ρ k := ⟨d, ρ2, ch, h1, h2, h⟩
def lcK (ρ : Env) (vs : List Nat) (k : Env → Prop) : Prop := (vs.all fun i => decide (i < ρ.length)) = true ∧ k (wipeD ρ vs)
theorem w_lc {vs : List Nat} (h : ti ρ (fun items ρ1 => lcK ρ1 vs (fun ρ' => dLcL g tt te vs (fun ds ρ2 => Q (.t (.n true .lst ds)) ρ2) items ρ' [])) E) : dLc ti g tt te vs ρ Q E := h
theorem w_lcK {vs : List Nat} {k : Env → Prop} (h1 : (vs.all fun i => decide (i < ρ.length)) = true) (h2 : wipeD ρ vs = ρ2) (h : k ρ2) : lcK ρ vs k := ⟨h1, by rw [h2]; exact h⟩
theorem w_true (h : QT true ρ) : dTrue ρ QT E := h
def caK (ms : List Bool) (xs : List Rv) (ρ : Env) (k : List D → Env → Prop) : Prop := ∃ ds ρ2, argL ms ρ xs = some (ds, ρ2) ∧ k ds ρ2
def baK (ρ0 : Env) (ms : List Bool) (ρ : Env) (xs : List Rv) (ds : List D) (k : Env → Prop) : Prop := ∃ ρ3, backL ρ0 ms ρ xs ds = some ρ3 ∧ k ρ3
theorem w_call {ms : List Bool} {s : SpD} (h : tA ρ (fun rs ρ1 => caK ms rs ρ1 fun ds ρ2 => s ds (fun res ds' => baK ρ1 ms ρ2 rs ds' fun ρ3 => Q (.t res) ρ3) (fun x ds' => baK ρ1 ms ρ2 rs ds' fun ρ3 => E x ρ3)) E) : dCall ms s tA ρ Q E := h
theorem w_caK {ms : List Bool} {k : List D → Env → Prop} {ds : List D} (h1 : argL ms ρ xs = some (ds, ρ2)) (h : k ds ρ2) : caK ms xs ρ k := ⟨ds, ρ2, h1, h⟩
theorem w_baK {ms : List Bool} {k : Env → Prop} {ds : List D} (h1 : backL ρ ms ρ1 xs ds = some ρ2) (h : k ρ2) : baK ρ ms ρ1 xs ds k := ⟨ρ2, h1, h⟩
def lcA (r : Rv) (ρ : Env) (vs : List Nat) (acc : List D) (k : Env → List D → Prop) : Prop := ∃ d' ρ4, tk ρ r = some (d', ρ4) ∧ acc.length < 100000 ∧ k (wipeD ρ4 vs) (acc ++ [d'])
theorem w_lcT {vs : List Nat} {acc : List D} {k : Env → List D → Prop} (hl : acc.length < 100000) (hw : wipeD ρ vs = ρ2) (h : k ρ2 (acc ++ [d])) : lcA (.t d) ρ vs acc k := ⟨d, ρ, rfl, hl, by rw [hw]; exact h⟩
theorem w_lcS {vs : List Nat} {acc : List D} {k : Env → List D → Prop} (h0 : slD ρ i = some d) (hz : d.isFz = true) (hl : acc.length < 100000) (hw : wipeD ρ vs = ρ2) (h : k ρ2 (acc ++ [d])) : lcA (.s i) ρ vs acc k := ⟨d, ρ, by simp only [tk, h0, hz, if_true], hl, by rw [hw]; exact h⟩
/-- a comprehension: for each, whether it is kept and what becomes of it -/
theorem lc_run {α : Type} {vs : List Nat} {f : α → D} {p : α → Bool} {w : α → D} {K : List D → Env → Prop} : ∀ {xs : List α} {acc : List D},
    (∀ a ∈ xs, ∀ (acc : List D) (k k' : Env → List D → Prop), acc.length < 100000 → (p a = true → k ρ (acc ++ [w a])) → (p a = false → k' ρ acc) →
      g (.t (f a)) ρ fun ρ1 => tt ρ1 (fun b ρ2 => if b = true then te ρ2 (fun r ρ3 => lcA r ρ3 vs acc k) (fun _ _ => False) else k' (wipeD ρ2 vs) acc) (fun _ _ => False)) →
    xs.length + acc.length ≤ 100000 → K (acc ++ (xs.filter p).map w) ρ → dLcL g tt te vs K (xs.map f) ρ acc
  | [], acc, _, _, h => by
    rw [List.filter_nil, List.map_nil, List.append_nil] at h
    exact h
  | a :: xs, acc, st, hl, h => by
    rw [List.length_cons] at hl
    rw [List.map_cons, dLcL]
    refine st a (List.mem_cons_self ..) acc _ (fun ρ' acc' => dLcL g tt te vs K (xs.map f) ρ' acc') (by omega) (fun hp => ?_) fun hp => ?_
    · refine lc_run (fun b hb => st b (List.mem_cons_of_mem _ hb)) (by rw [List.length_append, List.length_singleton]; omega) ?_
      rw [List.filter_cons_of_pos hp, List.map_cons] at h
      rw [List.append_assoc]
      exact h
    · refine lc_run (fun b hb => st b (List.mem_cons_of_mem _ hb)) (by omega) ?_
      rw [List.filter_cons_of_neg (by rw [hp]; decide)] at h
      exact h
/-- .. where all are kept -/
theorem lc_all {α : Type} {vs : List Nat} {f : α → D} {w : α → D} {K : List D → Env → Prop} {xs : List α}
    (st : ∀ a ∈ xs, ∀ (acc : List D) (k k' : Env → List D → Prop), acc.length < 100000 → k ρ (acc ++ [w a]) →
      g (.t (f a)) ρ fun ρ1 => tt ρ1 (fun b ρ2 => if b = true then te ρ2 (fun r ρ3 => lcA r ρ3 vs acc k) (fun _ _ => False) else k' (wipeD ρ2 vs) acc) (fun _ _ => False))
    (hl : xs.length ≤ 100000) (h : K (xs.map w) ρ) : dLcL g tt te vs K (xs.map f) ρ [] :=
  lc_run (p := fun _ => true) (fun a ha acc k k' hl h1 h2 => st a ha acc k k' hl (h1 rfl)) (by simpa using hl) (by
    have : xs.filter (fun _ => true) = xs := List.filter_eq_self.mpr fun _ _ => rfl
    rw [this]
    exact h)
end

/-! ### operators -/
section
variable {k : D → Prop} {i j : Int} {a b : Str}
theorem w_addI (h : k (.int (i + j))) : qAdd (.p (.int i)) (.p (.int j)) k := h
theorem w_addS (h0 : a.length + b.length ≤ 100000) (h : k (.str (a ++ b))) : qAdd (.p (.str a)) (.p (.str b)) k := ⟨h0, h⟩
theorem w_subI (h : k (.int (i - j))) : qSub (.p (.int i)) (.p (.int j)) k := ⟨trivial, h⟩
theorem w_mod (h0 : 0 < j) (h : k (.int (i % j))) : qMod (.p (.int i)) (.p (.int j)) k := ⟨h0, h⟩
theorem w_div (h0 : 0 < j ∧ j < 2 ^ 128) (h : k (.int (i / j))) : qDiv (.p (.int i)) (.p (.int j)) k := ⟨h0, h⟩
theorem w_neg (h : k (.int (-i))) : qNeg (.p (.int i)) k := h
theorem w_ltI (h : k (.bl (decide (i < j)))) : qLt (.p (.int i)) (.p (.int j)) k := h
theorem w_leI (h : k (.bl (decide (i ≤ j)))) : qLe (.p (.int i)) (.p (.int j)) k := h
theorem w_gtI (h : k (.bl (decide (j < i)))) : qGt (.p (.int i)) (.p (.int j)) k := h
theorem w_geI (h : k (.bl (decide (j ≤ i)))) : qGe (.p (.int i)) (.p (.int j)) k := h
theorem w_eq {x y : D} (h1 : okD x = true) (h2 : okD y = true) (h : k (.bl (eqD x y))) : qEq x y k := ⟨⟨h1, h2⟩, h⟩
end
/-! ### the run -/
section
variable {i j : Nat} {d : D} {q : List Nat} {r : Env} {s s' : Sl}
theorem kb_nil : killB i [] = [] := rfl
theorem kb_un : killB i (.un :: r) = .un :: killB i r := rfl
theorem kb_v : killB i (.v d :: r) = .v d :: killB i r := rfl
theorem kb_w : killB i (.w d :: r) = .w d :: killB i r := rfl
theorem kb_b : killB i (.b j q :: r) = (if j = i then Sl.un else .b j q) :: killB i r := rfl
theorem se0 : (s :: r).set 0 s' = s' :: r := rfl
theorem seS : (s :: r).set (i + 1) s' = s :: r.set i s' := rfl
theorem wi0 {ρ : Env} : wipeD ρ [] = ρ := rfl
theorem wiS {ρ : Env} {vs : List Nat} : wipeD ρ (i :: vs) = (killB i (wipeD ρ vs)).set i .un := rfl
end
def okV (ρ : Env) (i : Nat) : Bool := match ρ[i]? with
  | some (.w _) => false
  | some _ => true
  | none => false
theorem stV_v {ρ : Env} {i : Nat} {d : D} (h : okV ρ i = true) : stV ρ i d = some ((killB i ρ).set i (.v d)) := by
  unfold okV at h
  unfold stV
  generalize ρ[i]? = o at h ⊢
  cases o with
  | none => cases h
  | some s =>
    cases s with
    | un => rfl
    | v _ => rfl
    | w _ => cases h
    | b _ _ => rfl
section
variable {k : Env → Prop} {ρ ρ2 : Env} {i j : Nat} {d : D}
theorem w_nT (h0 : okV ρ i = true) (h1 : (killB i ρ).set i (.v d) = ρ2) (h : k ρ2) : dName i (.t d) ρ k := w_nameT (stV_v h0) (by rw [h1]; exact h)
theorem w_nS (hs : slD ρ j = some d) (hz : d.isFz = true) (h0 : okV ρ i = true) (h1 : (killB i ρ).set i (.v d) = ρ2) (h : k ρ2) : dName i (.s j) ρ k := w_nameS hs hz (stV_v h0) (by rw [h1]; exact h)
end
section
variable {k : D → Prop} {ds : List D} {d : D}
theorem w_sortI {ch : List D} {is : List Int} (h1 : listOf d = some ch) (h2 : intsOf ch = some is) (h3 : is.length ≤ 10000) (h : ∀ is' : List Int, is'.Perm is → is'.Pairwise (· ≤ ·) → k (eo is')) : qSortI [d] k := ⟨d, ch, is, rfl, h1, h2, h3, h⟩
theorem w_list {ch : List D} (h1 : itemsOf d = some ch) (h2 : isFzL ch = true) (h : k (.own ch)) : qList [d] k := ⟨d, ch, rfl, h1, h2, h⟩
theorem w_len {n : Nat} (h1 : lenD? d = some n) (h : k (.int (n : Nat))) : qLen [d] k := ⟨d, n, rfl, h1, h⟩
theorem w_all {ch : List D} {bs : List Bool} (h1 : listOf d = some ch) (h2 : blsOf ch = some bs) (h : k (.bl (bs.all id))) : qAll [d] k := ⟨d, ch, bs, rfl, h1, h2, h⟩
theorem w_any {ch : List D} {bs : List Bool} (h1 : listOf d = some ch) (h2 : blsOf ch = some bs) (h : k (.bl (bs.any id))) : qAny [d] k := ⟨d, ch, bs, rfl, h1, h2, h⟩
theorem w_isi {n : String} (h1 : (tyKnown (tyN d) && tyKnown n && n != "NoneType") = true) (h : k (.bl (isiB (tyN d) n))) : qIsi [d, .p (.ty n)] k := by
  simp only [Bool.and_eq_true, bne_iff_ne, ne_eq] at h1
  exact ⟨d, n, rfl, ⟨h1.1.1, h1.1.2, h1.2⟩, h⟩
theorem ints_e (is : List Int) : intsOf (is.map en) = some is := intsOf_of is
theorem bls_e (is : List Bool) : blsOf (is.map en) = some is := blsOf_of is
theorem ints_m {α : Type} (f : α → Int) (xs : List α) : intsOf (xs.map fun x => .p (.int (f x))) = some (xs.map f) := by
  have := intsOf_of (xs.map f)
  rwa [List.map_map] at this
theorem bls_m {α : Type} (f : α → Bool) (xs : List α) : blsOf (xs.map fun x => .p (.bl (f x))) = some (xs.map f) := by
  have := blsOf_of (xs.map f)
  rwa [List.map_map] at this
end

section
variable {ρ ρ1 ρ2 : Env} {Q : Rv → Env → Prop} {QO : Option Int → Env → Prop} {QI : List D → Env → Prop} {E : Exn → Env → Prop} {ta tb tc te : DE} {tA : DA} {r r' : Op2} {x y : Rv} {xs : List Rv} {d d' : D} {i : Nat} {v : V}
def chK (r r' : Op2) (x y : Rv) (ρ : Env) (tc : DE) (Q : Rv → Env → Prop) (E : Exn → Env → Prop) : Prop := ∃ d e, look ρ x = some d ∧ look ρ y = some e ∧ r d e fun z => ∃ b, z = .p (.bl b) ∧
  if b = true then tc ρ (fun y' ρ3 => opK r' y y' ρ3 fun z => Q (.t z) ρ3) E else Q (.t (.p (.bl false))) ρ
theorem w_chain (h : ta ρ (fun x ρ1 => tb ρ1 (fun y ρ2 => chK r r' x y ρ2 tc Q E) E) E) : dChain r r' ta tb tc ρ Q E := h
def isB (k : Bool → Prop) (z : D) : Prop := ∃ b, z = .p (.bl b) ∧ k b
theorem w_isB {k : Bool → Prop} {b : Bool} (h : k b) : isB k (.p (.bl b)) := ⟨b, rfl, h⟩
theorem w_chK (h1 : look ρ x = some d) (h2 : look ρ y = some d') (h : r d d' fun z => isB (fun b => if b = true then tc ρ (fun y' ρ3 => opK r' y y' ρ3 fun z => Q (.t z) ρ3) E else Q (.t (.p (.bl false))) ρ) z) : chK r r' x y ρ tc Q E := ⟨d, d', h1, h2, h⟩
def rg1K (xs : List Rv) (ρ : Env) (k : List D → Env → Prop) : Prop := ∃ j : Int, lookL ρ xs = some [.p (.int j)] ∧ (-(2 ^ 62) ≤ j ∧ j < 2 ^ 62) ∧ k (rngL 0 j.toNat) ρ
theorem w_rng1 (h : tA ρ (fun rs ρ1 => rg1K rs ρ1 QI) E) : dIRng1 tA ρ QI E := h
theorem w_rg1K {k : List D → Env → Prop} {j : Int} (h1 : lookL ρ xs = some [.p (.int j)]) (h2 : -(2 ^ 62) ≤ j ∧ j < 2 ^ 62) (h : k ((List.range j.toNat).map fun i => .p (.int (i : Nat))) ρ) : rg1K xs ρ k := ⟨j, h1, h2, by
  unfold rngL
  simpa only [Int.zero_add] using h⟩
def rg2K (xs : List Rv) (ρ : Env) (k : List D → Env → Prop) : Prop := ∃ i j : Int, lookL ρ xs = some [.p (.int i), .p (.int j)] ∧ (-(2 ^ 62) ≤ i ∧ i < 2 ^ 62 ∧ -(2 ^ 62) ≤ j ∧ j < 2 ^ 62) ∧ k (rngL i (j - i).toNat) ρ
theorem w_rng2 (h : tA ρ (fun rs ρ1 => rg2K rs ρ1 QI) E) : dIRng2 tA ρ QI E := h
theorem w_rg2K {k : List D → Env → Prop} {i j : Int} (h1 : lookL ρ xs = some [.p (.int i), .p (.int j)]) (h2 : -(2 ^ 62) ≤ i ∧ i < 2 ^ 62 ∧ -(2 ^ 62) ≤ j ∧ j < 2 ^ 62) (h : k ((List.range (j - i).toNat).map fun n => .p (.int (i + (n : Nat)))) ρ) : rg2K xs ρ k := ⟨i, j, h1, h2, h⟩
def mu2K (i : Nat) (m : OpM) (xs : List Rv) (ρ : Env) (k : D → Env → Prop) : Prop := ∃ es ρ2 s kd ch, tkL ρ xs = some (es, ρ2) ∧ ρ2[i]? = some s ∧ s.d? = some (.n true kd ch) ∧ m kd ch es fun k' ch' res => k res ((killB i ρ2).set i (s.re (.n true k' ch')))
theorem w_mut {T : String} {m : OpM} (h0 : ∃ s d, ρ[i]? = some s ∧ s.d? = some d ∧ tyM d = T ∧ (T = "list" ∨ T = "dict")) (h : tA ρ (fun rs ρ1 => mu2K i m rs ρ1 fun res ρ3 => Q (.t res) ρ3) E) : dMut T i m tA ρ Q E := ⟨h0, h⟩
/-- append -/
theorem w_appV {k : D → Env → Prop} {ch : List D} {e : D} (h1 : tkL ρ xs = some ([e], ρ2)) (h2 : ρ2[i]? = some (.v (.n true .lst ch))) (h3 : ch.length < 100000) (h4 : (killB i ρ2).set i (.v (.n true .lst (ch ++ [e]))) = ρ1) (h : k .non ρ1) : mu2K i mAppend xs ρ k :=
  ⟨[e], ρ2, _, .lst, ch, h1, h2, rfl, e, rfl, rfl, h3, by
    show k .non ((killB i ρ2).set i (.v (.n true .lst (ch ++ [e]))))
    rw [h4]
    exact h⟩
/-- .. of plain things -/
theorem w_appE {α : Type} {inst : Enc α} {k : D → Env → Prop} {ch : List α} {e : α} (h1 : tkL ρ xs = some ([en e], ρ2)) (h2 : ρ2[i]? = some (.v (eo ch))) (h3 : ch.length < 100000) (h4 : (killB i ρ2).set i (.v (eo (ch ++ [e]))) = ρ1) (h : k .non ρ1) : mu2K i mAppend xs ρ k :=
  w_appV (ch := ch.map en) h1 h2 (by rw [List.length_map]; exact h3) (by
    rw [← h4]
    unfold eo
    rw [List.map_append]
    rfl) h
def cutK (lo hi : Option Int) (x : Rv) (ρ : Env) (k : D → Prop) : Prop := ∃ d, look ρ x = some d ∧ qCut lo hi d k
theorem w_cut {tl th : DO} (h : te ρ (fun r ρ1 => tl ρ1 (fun lo ρ2 => th ρ2 (fun hi ρ3 => cutK lo hi r ρ3 fun z => Q (.t z) ρ3) E) E) E) : dCut te tl th ρ Q E := h
def ptK (x : Rv) (ρ : Env) (k : Option Int → Env → Prop) : Prop := ∃ i, look ρ x = some (.p (.int i)) ∧ k (some i) ρ
theorem w_part (h : te ρ (fun r ρ1 => ptK r ρ1 QO) E) : dPart te ρ QO E := h
theorem w_ptK {k : Option Int → Env → Prop} {j : Int} (h1 : look ρ x = some (.p (.int j))) (h : k (some j) ρ) : ptK x ρ k := ⟨j, h1, h⟩
theorem w_noPart (h : QO none ρ) : dNoPart ρ QO E := h
theorem cutD_map {α β : Type} (f : α → β) (xs : List α) (lo hi : Option Int) : cutD (xs.map f) lo hi = (cutD xs lo hi).map f := by
  unfold cutD
  rw [List.length_map, ← List.map_drop, ← List.map_take]
theorem w_cutE {α : Type} {inst : Enc α} {k : D → Prop} {ys : List α} {lo hi : Option Int} (h1 : look ρ x = some d) (h2 : listOf d = some (ys.map en)) (h : k (eo (cutD ys lo hi))) : cutK lo hi x ρ k := by
  refine ⟨d, h1, ?_⟩
  cases d with
  | p _ => simp [listOf] at h2
  | n o kd ch =>
    cases kd with
    | lst =>
      simp only [listOf, Option.some.injEq] at h2
      subst h2
      refine ⟨?_, ?_⟩
      · rw [cutD_map, fzl_e]
      · rw [cutD_map]; exact h
    | lok =>
      simp only [listOf, Option.some.injEq] at h2
      subst h2
      refine ⟨?_, ?_⟩
      · rw [cutD_map, fzl_e]
      · rw [cutD_map]; exact h
    | tup => simp [listOf] at h2
    | tok => simp [listOf] at h2
    | dic _ => simp [listOf] at h2
    | dit _ => simp [listOf] at h2
    | obj _ _ => simp [listOf] at h2
    | exc _ _ => simp [listOf] at h2
def kwK (xs : List Rv) (ρ : Env) (k : List D → Env → Prop) : Prop := ∃ ds ρ2, tkFL ρ xs = some (ds, ρ2) ∧ k ds ρ2
theorem w_callK {g : {α : Type} → List α → List α → List α} {s : SpD} {tk : DA} (h : tA ρ (fun rs ρ1 => kwK rs ρ1 fun ds ρ2 => tk ρ2 (fun zs ρ3 => kwK zs ρ3 fun es ρ4 => s (g ds es) (fun res _ => Q (.t res) ρ4) (fun x _ => E x ρ4)) E) E) : dCallK g s tA tk ρ Q E := h
theorem w_kwK {k : List D → Env → Prop} {ds : List D} (h1 : tkFL ρ xs = some (ds, ρ2)) (h : k ds ρ2) : kwK xs ρ k := ⟨ds, ρ2, h1, h⟩
/-- x[i] -/
theorem w_ixE {α : Type} {inst : Enc α} {k : D → Prop} {ys : List α} {a : α} {j : Int} (h1 : listOf d = some (ys.map en)) (h2 : atI ys j = some a) (h : k (en a)) : qIxS d (.p (.int j)) k := by
  have e : atI (ys.map (en : α → D)) j = some (en a) := by
    unfold atI at h2 ⊢
    rw [List.length_map]
    cases hj : ixN ys.length j with
    | none => rw [hj] at h2; cases h2
    | some m =>
      rw [hj] at h2
      simp only [Option.bind_some] at h2 ⊢
      rw [List.getElem?_map, h2]
      rfl
  cases d with
  | p _ => simp [listOf] at h1
  | n o kd ch =>
    cases kd with
    | lst =>
      simp only [listOf, Option.some.injEq] at h1
      subst h1
      exact ⟨_, e, Enc.fz a, h⟩
    | lok =>
      simp only [listOf, Option.some.injEq] at h1
      subst h1
      exact ⟨_, e, Enc.fz a, h⟩
    | tup => simp [listOf] at h1
    | tok => simp [listOf] at h1
    | dic _ => simp [listOf] at h1
    | dit _ => simp [listOf] at h1
    | obj _ _ => simp [listOf] at h1
    | exc _ _ => simp [listOf] at h1
theorem at_nat {α : Type} {ys : List α} {m : Nat} {j : Int} (h : j = (m : Nat)) (hl : m < ys.length) : atI ys j = some ys[m] := by
  subst h
  unfold atI ixN
  rw [if_pos (by omega), if_pos (by omega)]
  simp [hl]
end

section
variable {p q : Prop} {b : Bool}
theorem w_ifNT (h : q) : if (!true) = true then p else q := w_if_f rfl h
theorem w_ifNF (h : p) : if (!false) = true then p else q := w_if_t rfl h
end
theorem w_loopNil {g : DG} {t : DS} {n : Env → Prop} {rt : D → Env → Prop} {bk ct : Env → Prop} {ex : Exn → Env → Prop} {ρ : Env} (h : n ρ) : dLoop g t ⟨n, rt, bk, ct, ex⟩ [] ρ := h
theorem w_lcNil {g : DG} {tt : DT} {te : DE} {vs : List Nat} {K : List D → Env → Prop} {ρ : Env} {acc : List D} (h : K acc ρ) : dLcL g tt te vs K [] ρ acc := h

section
variable {α : Type} [Enc α] {ρ : Env} {k : List D → Env → Prop} {xs : List α} {i : Nat}
theorem w_itO (h : k (xs.map en) ρ) : itK (.t (eo xs)) ρ k := w_itK (d := en xs) (by simp only [tkF, tk, fr_eo]) rfl h
theorem w_itN (h : k (xs.map en) ρ) : itK (.t (en xs)) ρ k := w_itK (d := en xs) (by simp only [tkF, tk, fr_e]) rfl h
omit [Enc α] in
theorem w_itS {inst : Enc α} {d : D} {xs : List α} (h0 : slD ρ i = some d) (hd : d = en xs) (h : k (xs.map en) ρ) : itK (.s i) ρ k := w_itK (d := en xs) (by subst hd; simp only [tkF, tk, h0, fz_e, if_true, fr_e]) rfl h
end
def Fr (s : Sl) : Prop := s = .un ∨ ∃ d, s = .v d
/-- a script's list -/
abbrev ek {α : Type} [Enc α] (xs : List α) : D := .n false .lok (xs.map en)
section
variable {α : Type} [Enc α]
theorem fz_ek (xs : List α) : (ek xs).isFz = true := by unfold ek; rw [D.isFz, fzl_e]; rfl
theorem fr_ek (xs : List α) : (ek xs).fz = ek xs := fz_of (fz_ek xs)
theorem py_ek (xs : List α) : toPy (ek xs) = toPy (en xs) := by
  show toPy (.n false .lok _) = toPy (.n false .lst _)
  rw [toPy, toPy]
omit [Enc α] in
theorem eqD_py {inst : Enc α} {a b : D} {x y : α} (h1 : toPy a = toPy (en x)) (h2 : toPy b = toPy (en y)) : eqD a b = dc (x = y) := by
  rw [← eqD_e]
  unfold eqD
  rw [h1, h2]
omit [Enc α] in
theorem w_eqP {inst : Enc α} {k : D → Prop} {a b : D} {x y : α} (h1 : toPy a = toPy (en x)) (h2 : toPy b = toPy (en y)) (hd : Enc.dep α ≤ 64) (h : k (.bl (dc (x = y)))) : qEq a b k := by
  have hx := ok_of (x := x) hd
  have hy := ok_of (x := y) hd
  refine ⟨⟨?_, ?_⟩, ?_⟩
  · unfold okD at hx ⊢; rw [h1]; exact hx
  · unfold okD at hy ⊢; rw [h2]; exact hy
  · rw [eqD_py h1 h2]; exact h
omit [Enc α] in
theorem w_neP {inst : Enc α} {k : D → Prop} {a b : D} {x y : α} (h1 : toPy a = toPy (en x)) (h2 : toPy b = toPy (en y)) (hd : Enc.dep α ≤ 64) (h : k (.bl (!dc (x = y)))) : qNe a b k := by
  have hx := ok_of (x := x) hd
  have hy := ok_of (x := y) hd
  refine ⟨⟨?_, ?_⟩, ?_⟩
  · unfold okD at hx ⊢; rw [h1]; exact hx
  · unfold okD at hy ⊢; rw [h2]; exact hy
  · rw [eqD_py h1 h2]; exact h
omit [Enc α] in
theorem py_nil {inst : Enc α} {o : Bool} : toPy (.n o .lst []) = toPy (en ([] : List α)) := rfl
omit [Enc α] in
theorem w_itK' {inst : Enc α} {ρ : Env} {i : Nat} {k : List D → Env → Prop} {xs : List α} (h0 : slD ρ i = some (ek xs)) (h : k (xs.map en) ρ) : itK (.s i) ρ k := w_itK (d := ek xs) (by simp only [tkF, tk, h0, fz_ek, if_true, fr_ek]) rfl h
omit [Enc α] in
theorem inD_e {inst : Enc α} (x : α) (ys : List α) : inD (en x) (ys.map en) = dc (x ∈ ys) := by
  unfold inD
  rw [List.any_map]
  induction ys with
  | nil => rw [dc_f.mpr (by simp)]; rfl
  | cons y ys ih =>
    rw [List.any_cons, ih, Function.comp, eqD_e]
    by_cases h : y = x
    · subst h
      rw [dc_t.mpr rfl, dc_t.mpr (List.mem_cons_self ..)]; rfl
    · rw [dc_f.mpr h, Bool.false_or]
      by_cases g : x ∈ ys
      · rw [dc_t.mpr g, dc_t.mpr (List.mem_cons_of_mem _ g)]
      · rw [dc_f.mpr g, dc_f.mpr fun z => (List.mem_cons.mp z).elim (fun z => h z.symm) g]
omit [Enc α] in
theorem w_inL {inst : Enc α} {k : D → Prop} {d : D} {x : α} {ys : List α} {neg : Bool} (h1 : listOf d = some (ys.map en)) (hd : Enc.dep α + 1 ≤ 64) (h : k (.bl (if neg = true then !dc (x ∈ ys) else dc (x ∈ ys)))) : qInS neg (en x) d k := by
  have hx := ok_of (x := x) (by omega)
  have hy := ok_of (α := List α) (x := ys) hd
  rw [← inD_e] at h
  cases d with
  | p _ => simp [listOf] at h1
  | n o kd ch =>
    have fin : (kd = .lst ∨ kd = .lok) → ch = ys.map en → qInS neg (en x) (.n o kd ch) k := by
      rintro hk rfl
      have hy' : okD (.n o kd (ys.map en)) = true := by
        rcases hk with rfl | rfl
        · unfold okD at hy ⊢
          have : toPy (.n o .lst (ys.map en)) = toPy (en ys) := by
            show toPy (.n o .lst _) = toPy (.n false .lst _)
            rw [toPy, toPy]
          rw [this]; exact hy
        · unfold okD at hy ⊢
          have : toPy (.n o .lok (ys.map en)) = toPy (en ys) := by
            show toPy (.n o .lok _) = toPy (.n false .lst _)
            rw [toPy, toPy]
          rw [this]; exact hy
      rcases hk with rfl | rfl
      · exact ⟨⟨rfl, hx, hy'⟩, h⟩
      · exact ⟨⟨rfl, hx, hy'⟩, h⟩
    cases kd with
    | lst => exact fin (.inl rfl) (by simpa [listOf] using h1)
    | lok => exact fin (.inr rfl) (by simpa [listOf] using h1)
    | tup => simp [listOf] at h1
    | tok => simp [listOf] at h1
    | dic _ => simp [listOf] at h1
    | dit _ => simp [listOf] at h1
    | obj _ _ => simp [listOf] at h1
    | exc _ _ => simp [listOf] at h1
end

section
variable {ρ ρ1 ρ2 : Env} {ms : List Bool} {rs : List Rv} {ds es : List D} {d d' : D} {i : Nat}
theorem ag_nil : argL [] ρ [] = some ([], ρ) := rfl
theorem ag_fS (h0 : slD ρ i = some d) (hz : d.isFz = true) (h : argL ms ρ rs = some (ds, ρ2)) : argL (false :: ms) ρ (.s i :: rs) = some (d :: ds, ρ2) := by
  simp only [argL, tkF, tk, h0, hz, if_true, fz_of hz, h]
theorem ag_fT (hz : d.fz = d') (h : argL ms ρ rs = some (ds, ρ2)) : argL (false :: ms) ρ (.t d :: rs) = some (d' :: ds, ρ2) := by
  simp only [argL, tkF, tk, hz, h]
theorem ag_tT (h : argL ms ρ rs = some (ds, ρ2)) : argL (true :: ms) ρ (.t d :: rs) = some (d :: ds, ρ2) := by
  simp only [argL, outV, h]
theorem ag_tV (h0 : ρ[i]? = some (.v d)) (h1 : (killB i ρ).set i .un = ρ1) (h : argL ms ρ1 rs = some (ds, ρ2)) : argL (true :: ms) ρ (.s i :: rs) = some (d :: ds, ρ2) := by
  simp only [argL, outV, h0, h1, h]
theorem ag_tW (h0 : ρ[i]? = some (.w d)) (h1 : (killB i ρ).set i .un = ρ1) (h : argL ms ρ1 rs = some (ds, ρ2)) : argL (true :: ms) ρ (.s i :: rs) = some (d :: ds, ρ2) := by
  simp only [argL, outV, h0, h1, h]
theorem ba_nil {ρ0 : Env} : backL ρ0 [] ρ [] [] = some ρ := rfl
theorem ba_f {ρ0 : Env} {r : Rv} (h : backL ρ0 ms ρ rs ds = some ρ2) : backL ρ0 (false :: ms) ρ (r :: rs) (d :: ds) = some ρ2 := h
theorem ba_tT {ρ0 : Env} (h : backL ρ0 ms ρ rs ds = some ρ2) : backL ρ0 (true :: ms) ρ (.t d' :: rs) (d :: ds) = some ρ2 := h
theorem ba_tV {ρ0 : Env} (h0 : (isUn ρ[i]? && noB [i] ρ) = true) (h1 : ρ0[i]? = some (.v d')) (h2 : ρ.set i (.v d) = ρ1) (h : backL ρ0 ms ρ1 rs ds = some ρ2) : backL ρ0 (true :: ms) ρ (.s i :: rs) (d :: ds) = some ρ2 := by
  simp only [backL, backV, h0, h1, if_true, h2, h]
theorem ba_tW {ρ0 : Env} (h0 : (isUn ρ[i]? && noB [i] ρ) = true) (h1 : ρ0[i]? = some (.w d')) (h2 : ρ.set i (.w d) = ρ1) (h : backL ρ0 ms ρ1 rs ds = some ρ2) : backL ρ0 (true :: ms) ρ (.s i :: rs) (d :: ds) = some ρ2 := by
  simp only [backL, backV, h0, h1, if_true, h2, h]
theorem tl_nil : tkL ρ [] = some ([], ρ) := rfl
theorem tl_S (h0 : slD ρ i = some d) (hz : d.isFz = true) (h : tkL ρ rs = some (ds, ρ2)) : tkL ρ (.s i :: rs) = some (d :: ds, ρ2) := by
  simp only [tkL, tk, h0, hz, if_true, h]
theorem tl_T (h : tkL ρ rs = some (ds, ρ2)) : tkL ρ (.t d :: rs) = some (d :: ds, ρ2) := by
  simp only [tkL, tk, h]
theorem tf_nil : tkFL ρ [] = some ([], ρ) := rfl
theorem tf_S (h0 : slD ρ i = some d) (hz : d.isFz = true) (h : tkFL ρ rs = some (ds, ρ2)) : tkFL ρ (.s i :: rs) = some (d :: ds, ρ2) := by
  simp only [tkFL, tkF, tk, h0, hz, if_true, fz_of hz, h]
theorem tf_T (hz : d.fz = d') (h : tkFL ρ rs = some (ds, ρ2)) : tkFL ρ (.t d :: rs) = some (d' :: ds, ρ2) := by
  simp only [tkFL, tkF, tk, hz, h]
/-- an own thing in a slot, shared from now on -/
theorem tl_O (h0 : ρ[i]? = some (.v d)) (hz : d.isFz = false) (hf : d.fz = d') (h1 : (killB i ρ).set i (.v d') = ρ1) (h : tkL ρ1 rs = some (ds, ρ2)) : tkL ρ (.s i :: rs) = some (d' :: ds, ρ2) := by
  have hs : slD ρ i = some d := by simp only [slD, h0]
  simp only [tkL, tk, hs, hz, h0, hf, h1, h, Bool.false_eq_true, if_false]
theorem tf_O (h0 : ρ[i]? = some (.v d)) (hz : d.isFz = false) (hf : d.fz = d') (h1 : (killB i ρ).set i (.v d') = ρ1) (h : tkFL ρ1 rs = some (ds, ρ2)) : tkFL ρ (.s i :: rs) = some (d' :: ds, ρ2) := by
  have hs : slD ρ i = some d := by simp only [slD, h0]
  have hd : d'.fz = d' := by rw [← hf]; exact fz_of (isFz_fz d)
  simp only [tkFL, tkF, tk, hs, hz, h0, hf, h1, h, Bool.false_eq_true, if_false, hd]
theorem ag_fO (h0 : ρ[i]? = some (.v d)) (hz : d.isFz = false) (hf : d.fz = d') (h1 : (killB i ρ).set i (.v d') = ρ1) (h : argL ms ρ1 rs = some (ds, ρ2)) : argL (false :: ms) ρ (.s i :: rs) = some (d' :: ds, ρ2) := by
  have hs : slD ρ i = some d := by simp only [slD, h0]
  have hd : d'.fz = d' := by rw [← hf]; exact fz_of (isFz_fz d)
  simp only [argL, tkF, tk, hs, hz, h0, hf, h1, h, Bool.false_eq_true, if_false, hd]
theorem w_itF {ch : List D} {k : List D → Env → Prop} (h0 : ρ[i]? = some (.v d)) (hz : d.isFz = false) (hf : d.fz = d') (h1 : (killB i ρ).set i (.v d') = ρ1) (h2 : itemsOf d' = some ch) (h : k ch ρ1) : itK (.s i) ρ k := by
  have hs : slD ρ i = some d := by simp only [slD, h0]
  have hd : d'.fz = d' := by rw [← hf]; exact fz_of (isFz_fz d)
  exact w_itK (d := d') (by simp only [tkF, tk, hs, hz, h0, hf, h1, Bool.false_eq_true, if_false, hd]) h2 h
theorem w_nO {k : Env → Prop} {j : Nat} (h0 : ρ[j]? = some (.v d)) (hz : d.isFz = false) (hf : d.fz = d') (h1 : (killB j ρ).set j (.v d') = ρ1) (hk : okV ρ1 i = true) (h2 : (killB i ρ1).set i (.v d') = ρ2) (h : k ρ2) : dName i (.s j) ρ k := by
  have hs : slD ρ j = some d := by simp only [slD, h0]
  refine ⟨d', ρ1, ρ2, by simp only [tk, hs, hz, h0, hf, h1, Bool.false_eq_true, if_false], ?_, h⟩
  rw [stV_v hk, h2]
theorem w_isiT {n : String} {k : D → Prop} (h1 : (tyKnown (tyN d) && tyKnown n && n != "NoneType") = true) (h2 : isiB (tyN d) n = true) (h : k (.bl true)) : qIsi [d, .p (.ty n)] k := w_isi h1 (by rw [h2]; exact h)
theorem w_isiF {n : String} {k : D → Prop} (h1 : (tyKnown (tyN d) && tyKnown n && n != "NoneType") = true) (h2 : isiB (tyN d) n = false) (h : k (.bl false)) : qIsi [d, .p (.ty n)] k := w_isi h1 (by rw [h2]; exact h)
end

section
variable {n : Env → Prop} {rt : D → Env → Prop} {bk ct : Env → Prop} {ex : Exn → Env → Prop} {ρ : Env} {t u : DS}
/-- a statement by itself -/
theorem w_cut1 (I : Env → Prop) (h : ∀ k : Env → Prop, (∀ ρ', I ρ' → k ρ') → t ⟨k, rt, bk, ct, ex⟩ ρ) (h2 : ∀ ρ', I ρ' → u ⟨n, rt, bk, ct, ex⟩ ρ') : dSeq t u ⟨n, rt, bk, ct, ex⟩ ρ := h _ h2
end
theorem at_in {α : Type} {ys : List α} {j : Int} (h0 : 0 ≤ j) (h1 : j < (ys.length : Nat)) : ∃ a, a ∈ ys ∧ atI ys j = some a := by
  have hl : j.toNat < ys.length := by omega
  exact ⟨ys[j.toNat], List.getElem_mem hl, at_nat (by omega) hl⟩
section
variable {ρ : Env} {te : DE} {tt : DT} {g : DG} {α β : Type}
theorem lc_enc [Enc β] {vs : List Nat} {F : α → D} (f : α → β) {K : List D → Env → Prop} {xs : List α}
    (st : ∀ a ∈ xs, ∀ (acc : List D) (k k' : Env → List D → Prop), acc.length < 100000 → k ρ (acc ++ [en (f a)]) →
      g (.t (F a)) ρ fun ρ1 => tt ρ1 (fun b ρ2 => if b = true then te ρ2 (fun r ρ3 => lcA r ρ3 vs acc k) (fun _ _ => False) else k' (wipeD ρ2 vs) acc) (fun _ _ => False))
    (hl : xs.length ≤ 100000) (h : K ((xs.map f).map en) ρ) : dLcL g tt te vs K (xs.map F) ρ [] :=
  lc_all (w := fun a => en (f a)) st hl (by rw [List.map_map] at h; exact h)
theorem lc_fil [Enc β] {vs : List Nat} {F : α → D} (p : α → Bool) (f : α → β) {K : List D → Env → Prop} {xs : List α}
    (st : ∀ a ∈ xs, ∀ (acc : List D) (k k' : Env → List D → Prop), acc.length < 100000 → (p a = true → k ρ (acc ++ [en (f a)])) → (p a = false → k' ρ acc) →
      g (.t (F a)) ρ fun ρ1 => tt ρ1 (fun b ρ2 => if b = true then te ρ2 (fun r ρ3 => lcA r ρ3 vs acc k) (fun _ _ => False) else k' (wipeD ρ2 vs) acc) (fun _ _ => False))
    (hl : xs.length ≤ 100000) (h : K (((xs.filter p).map f).map en) ρ) : dLcL g tt te vs K (xs.map F) ρ [] :=
  lc_run (w := fun a => en (f a)) st (by simpa using hl) (by rw [List.map_map] at h; exact h)
end
end DL
/-! DL14: raise, try, methods of texts, stores at an index. -/
namespace DL
open PySem L2
section
variable {X : Cx} {cn : String → Addr} {E : WX}
def dRaise (nm : String) : DS := fun D ρ => D.ex ⟨nm, none⟩ ρ
theorem js_raise {C : Addr} {bmB : List Value} {B newId initId : String} {x m : Str} {nm : String} {j : Nat} {p p2 pos pos' : Pos} (hc : X.calm = true) (tk : Takes X E) (hC : cn nm = C) (F : ExcBaseFacts B newId initId bmB) (q : PySem.W.excIn X.K C bmB newId = true) (gC : X.mg x = some (.ref C))
    (kC : PySem.W.keepIn X.K (.ref C) = true) (r : Raises X (.ref C)) (hg : Gl X x) (hdb : (x == ("__debug__" : Str)) = false := by decide) :
    JS X cn E (.Raise (some (.Call (.Name x p) [.Constant (.str m) j p2] [] pos)) none pos') (dRaise nm) :=
  ps_imp (ps_raise hc tk (pmk_own F q gC kC r hg hdb)) fun D σ H ⟨pv, γ, ρ, G, fp, D0, m, q, po⟩ =>
    po.ex ⟨nm, none⟩ ρ (.ref C) none σ G H fp q (Stp.refl _ _ _) m rfl ⟨by rw [hC], rfl⟩
/-- try: tb except some class: ts; which of the errors of the body it takes -/
def dTry (ns : List (String × Bool)) (tb ts : DS) : DS := fun D ρ => tb { D with ex := fun x ρ' => match ns.lookup x.name with
  | some true => ts D ρ'
  | some false => D.ex x ρ'
  | none => False } ρ
theorem look_mem {ns : List (String × Bool)} {s : String} {b : Bool} (h : ns.lookup s = some b) : (s, b) ∈ ns := by
  induction ns with
  | nil => cases h
  | cons p ns ih =>
    obtain ⟨a, c⟩ := p
    rw [List.lookup_cons] at h
    split at h
    · rename_i e
      have := beq_iff_eq.mp e
      cases h
      subst this
      exact List.mem_cons_self ..
    · exact List.mem_cons_of_mem _ (ih h)
/-! ### methods of texts -/
def qStr0 (C : Str → Prop) (g : Str → V) : D → (D → Prop) → Prop
  | .p (.str a), Q => C a ∧ Q (.p (g a))
  | _, _ => False
def qIsdigit := qStr0 (fun _ => True) fun a => .bl (Txt.isdigit a)
def qIsalpha := qStr0 (fun _ => True) fun a => .bl (Txt.isalpha a)
/-- a method of a text with one argument -/
def dM1 (r : Op2) (ta tb : DE) : DE := fun ρ Q E => ta ρ (fun x ρ1 => (∃ a, look ρ1 x = some (.p (.str a))) ∧ tb ρ1 (fun y ρ2 => ∃ d e, look ρ2 x = some d ∧ look ρ2 y = some e ∧ r d e fun z => Q (.t z) ρ2) E) E
theorem je_m1 {o e : Expr} {ta tb : DE} {rr : V → List V → Hp → VK → Prop} {q : Op2} {id : String} {name : Str} {apos pos : Pos} (slot : Slot "str" name id) (ty : typeOf (.builtin id) = pure (.type "method_descriptor"))
    (rule : MtR X id rr) (hq : Sem2 X.K (fun x y H Q => rr x [y] H Q) q) (ho : JE X cn E o ta) (he : JE X cn E e tb)
    (hs : starEach [e] X.env = [(false, eval e X.env)] := by rfl) (hbase : attributeBase o name X.env (eval o X.env) = eval o X.env := by rfl) (hline : (apos.endLine == pos.line) = true := by rfl) : JE X cn E (.Call (.Attribute o name apos) [e] [] pos) (dM1 q ta tb) := by
  refine pe_imp (pe_m1 slot ty rule ho he hs hbase hline) ?_
  rintro σ H Q ⟨pv, γ, ρ, G, fp, Q0, E0, m, q0, po, px⟩
  refine ⟨pv, γ, ρ, G, fp, _, E0, m, q0, fun x ρ1 v G1 H1 fp1 F1 q1 s1 m1 o1 => ?_, px⟩
  obtain ⟨⟨a, ha⟩, q1⟩ := q1
  refine ⟨⟨a, look_p m1 o1 ha⟩, pv, γ, ρ1, G1, fp1, _, E0, m1, q1, fun y ρ2 w G2 H2 fp2 F2 q2 s2 m2 o2 => ?_, px.on s1⟩
  obtain ⟨d, e, l1, l2, q2⟩ := q2
  obtain ⟨A, rA, _⟩ := look_ok m2 (o1.frame s2) l1
  obtain ⟨B, rB, _⟩ := look_ok m2 o2 l2
  refine hq G2 H2 v w d e A B _ Q m2.sub rA rB q2 fun z w' G3 H3 Fz qz s3 hs3 rz => ?_
  obtain ⟨f1, f2, f3⟩ := fin_new m2 (s1.seq (fun _ z => .inl z) s2 fun _ z => .inl z) (fun a z => .inl z) s3 hs3
  exact po (.t z) ρ2 w' G3 H3 fp2 Fz qz f1 f2 ⟨rz, f3⟩
def qJoin : Op2
  | .p (.str a), e, Q => ∃ ys : List Str, itemsOf e = some (ys.map fun y => .p (.str y)) ∧ (ys.map (·.length)).sum + ys.length * a.length ≤ 16777216 ∧ Q (.str (Txt.join a ys))
  | _, _, _ => False
theorem s_join {K : PySem.W.Frag} : Sem2 K (fun x y H Q => ∃ a p, ∃ ys : List Str, x = .str a ∧ [y] = [.ref p] ∧ (SqL K H p (ys.map V.str) ∨ SqT K H p (ys.map V.str)) ∧ (ys.map (·.length)).sum + ys.length * a.length ≤ 16777216 ∧ Q (.str (Txt.join a ys)) H) qJoin := by
  intro G H v u d e F1 F2 Q0 Q s r1 r2 q fin
  unfold qJoin at q
  split at q
  · obtain ⟨ys, hi, hb, q⟩ := q
    cases r1
    obtain ⟨a, vs, F', rfl, h1, h2⟩ := r2.seq s hi
    have : vs = ys.map V.str := by
      have h3 : RpL K G H vs ((ys.map V.str).map D.p) F' := by rw [List.map_map]; exact h2
      exact h3.prims
    subst this
    exact ⟨_, a, ys, rfl, rfl, h1, hb, fin.p s q⟩
  · exact q.elim

/-! ### x[i] = e -/
theorem RpL.set {K : PySem.W.Frag} {G H : Hp} {y : V} {d : D} {Fw : List Addr} (ry : Rp K G H y d Fw) : ∀ {vs : List V} (ds : List D) {F : List Addr} (j : Nat), RpL K G H vs ds F → (∀ b ∈ Fw, b ∉ F) → ∃ F', RpL K G H (vs.set j y) (ds.set j d) F' ∧ ∀ b ∈ F', b ∈ F ∨ b ∈ Fw
  | _, [], F, j, h, _ => by
    cases h
    exact ⟨[], .nil, fun b z => by cases z⟩
  | _, c :: cs, _, 0, h, dj => by
    cases h with
    | cons h1 h2 h3 =>
      refine ⟨_, RpL.cons ry h2 fun b hb z => dj b hb (List.mem_append_right _ z), fun b z => ?_⟩
      rcases List.mem_append.mp z with z | z
      · exact .inr z
      · exact .inl (List.mem_append_right _ z)
  | _, c :: cs, _, j + 1, h, dj => by
    cases h with
    | cons h1 h2 h3 =>
      obtain ⟨F', r', i'⟩ := RpL.set ry cs j h2 fun b hb z => dj b hb (List.mem_append_right _ z)
      refine ⟨_, RpL.cons h1 r' fun b hb z => ?_, fun b z => ?_⟩
      · rcases i' b z with y | y
        · exact h3 b hb y
        · exact dj b y (List.mem_append_left _ hb)
      · rcases List.mem_append.mp z with z | z
        · exact .inl (List.mem_append_left _ z)
        · exact (i' b z).imp (List.mem_append_right _) id
def mSetL : OpM := fun k ch es Q => ∃ i d j, k = .lst ∧ es = [.p (.int i), d] ∧ ixN ch.length i = some j ∧ Q .lst (ch.set j d) .non
theorem m_setL {K : PySem.W.Frag} : SemM K (fun x xs H Q => ∃ i v, xs = [i, v] ∧ rSetL x i v H (fun H' => Q .non H')) mSetL := by
  rintro G H a k vs ch F ws es Fw Q0 Q s hG n r ha rw dw ⟨i, d, j, rfl, rfl, hj, q⟩ fin
  cases rw with
  | @cons y ws' _ _ Fa Fb h1 h2 h3 =>
    cases h1
    cases h2 with
    | @cons z ws2 _ _ Fc Fd h4 h5 h6 =>
      have e1 : ws2 = [] := by cases h5; rfl
      have e2 : Fd = [] := by cases h5; rfl
      subst e1 e2
      obtain ⟨F', r', i'⟩ := RpL.set h4 ch j r fun b hb z => (dw b (by simp [hb])).1 z
      refine ⟨_, _, rfl, a, vs, i, j, rfl, rfl, n, by rw [r.len]; exact hj, ?_⟩
      refine fin .lst (ch.set j d) .non (vs.set j z) .non (.lst (vs.set j z)) F' [] q upd_same r' (Rp.p _) (fun b hb => ?_) fun b hb => by cases hb
      rcases i' b hb with y | y
      · exact .inl y
      · exact .inr (by simp [y])
/-- x[i] = e: e, then i; x in slot n -/
def dPut (T : String) (n : Nat) (r : OpM) (te ti : DE) : DS := fun D ρ => te ρ (fun x ρ1 => (∃ s d, ρ1[n]? = some s ∧ s.d? = some d ∧ tyM d = T ∧ (T = "list" ∨ T = "dict")) ∧ ti ρ1 (fun y ρ2 => ∃ es ρ3 s k ch, tkL ρ2 [y, x] = some (es, ρ3) ∧ ρ3[n]? = some s ∧ s.d? = some (.n true k ch) ∧
  r k ch es fun k' ch' _ => D.nx ((killB n ρ3).set n (s.re (.n true k' ch')))) D.ex) D.ex
theorem js_put {n : Nat} {st : Stmt} {T : String} {r : OpM} {rr : V → List V → Hp → VK → Prop} {tset : TSet} {te ti : DE} (hi : n < X.N.length) (hs : SemM X.K rr r) (hset : ∀ o i v H Q, rr o [i, v] H (fun _ H' => Q H') → tset o i v H Q)
    (h : PS X st (tAsg (liftE X.K cn E te) (gSub (tVar n) (liftE X.K cn E ti) tset))) : JS X cn E st (dPut T n r te ti) := ⟨fun pins sh σ H D I ⟨pv, γ, ρ, G, fp, D0, m, q, po⟩ => by
  have hl : n < σ.length := by rw [I.len]; exact hi
  refine h.run pins sh σ H D I ⟨pv, γ, ρ, G, fp, _, _, m, q, fun x ρ1 v G1 H1 fp1 F1 ⟨⟨s, d, e1, e2, e3, e4⟩, q1⟩ s1 m1 o1 => ?_, po.ex⟩
  obtain ⟨z, h1, h2⟩ := m1.at e1 e2
  refine ⟨z, get_left hl h1, pv, γ, ρ1, G1, fp1, _, _, m1, q1, fun y ρ2 w G2 H2 fp2 F2 q2 s2 m2 o2 => ?_, po.ex.on s1⟩
  refine hset _ _ _ _ _ ?_
  have o1' := o1.frame s2
  have po2 : PoE X.K pv σ γ G H fp (fun _ ρ' => D0.nx ρ') (fun _ H' => D.nx σ H') := fun r' ρ' v' G' H' fp' F' q' s' m' o' =>
    po.nx ρ' σ G' H' fp' q' (drop0 s') m' rfl
  refine mut_go (F1 := F2 ++ (F1 ++ [])) (Q := fun _ H' => D.nx σ H') (Q0 := fun _ ρ' => D0.nx ρ') hs h1 po2 (s1.seq (fun _ z => .inl z) s2 fun a z => ?_) m2 (.cons o2 (.cons o1' .nil)) q2
  rcases z with z | z
  · exact .inl (.inl z)
  · rcases List.mem_append.mp z with z | z
    · exact .inl (.inr z)
    · exact .inr (.inr (by simpa using z))⟩
end

theorem setL_h : ∀ o i v H Q, (fun x xs H (Q : VK) => ∃ i v, xs = [i, v] ∧ rSetL x i v H (fun H' => Q .non H')) o [i, v] H (fun _ H' => Q H') → rSetL o i v H Q := by
  rintro o i v H Q ⟨i', v', e, q⟩
  cases e
  exact q
theorem hm_nil {α : Type} {P : α → Prop} : ∀ p ∈ ([] : List α), P p := fun p z => by cases z
theorem hm_cons {α : Type} {P : α → Prop} {a : α} {l : List α} (h : P a) (t : ∀ p ∈ l, P p) : ∀ p ∈ a :: l, P p := fun p z => by
  rcases List.mem_cons.mp z with z | z
  · rw [z]; exact h
  · exact t p z
/-- a def that raises nothing: the classes' places don't matter -/
theorem lower_cn {K : PySem.W.Frag} {cn cn' : String → Addr} {S : SpD} (h : ∀ ds Q E, S ds Q E → S ds Q fun _ _ => False) {vs : List V} {H : Hp} {Q : VK} {E : XK} (q : lower K cn' S vs H Q E) : lower K cn S vs H Q E := by
  obtain ⟨G, ds, F, Q0, E0, s, r, q, k1, k2⟩ := q
  exact ⟨G, ds, F, Q0, fun _ _ => False, s, r, h _ _ _ q, k1, fun x ds' cls dx G' H' F' z => z.elim⟩
theorem fn_cn {P : Program} {w : World} {K : PySem.W.Frag} {mg : Str → Option Value} {base : Heap} {cn cn' : String → Addr} {k : Nat} {f : Addr} {fd : FuncData} {ps : List Str} {S : SpD} {CX : CXT} (h : ∀ ds Q E, S ds Q E → S ds Q fun _ _ => False)
    (F : FnOk P w K mg base CX k f fd ps (lower K cn S)) : FnOk P w K mg base CX k f fd ps (lower K cn' S) := F.imp fun vs H Q E q => lower_cn h q
section
variable {X : Cx}
theorem rep_fold (x : Array Nat) : ∀ (n : Nat) (acc : Array Nat), (List.replicate n x).foldl (· ++ ·) acc = (acc.toList ++ (List.replicate n x.toList).flatten).toArray
  | 0, acc => by simp
  | n + 1, acc => by
    rw [List.replicate_succ, List.foldl_cons, rep_fold x n, List.replicate_succ, List.flatten_cons]
    simp
def repS (x : Str) (n : Int) : Str := ⟨(List.replicate n.toNat x.cps.toList).flatten.toArray⟩
theorem o_mulS : OpR X (binaryOp .Mult) (fun x y H Q => ∃ z n, x = .str z ∧ y = .int n ∧ (0 ≤ n ∧ (z.length : Int) * n ≤ 100000 ∧ n ≤ 100000) ∧ Q (.str ⟨(List.replicate n.toNat z.cps.toList).flatten.toArray⟩) H) := by
  intro pins s σ H x y v u Q I rx ry ⟨z, n, e1, e2, ⟨h0, h1, h2⟩, q⟩
  subst e1 e2
  obtain ⟨t, rfl⟩ := rx
  obtain ⟨t', rfl⟩ := ry
  have key : ∀ (z' : Str) (t k : Nat), z' = ⟨(List.replicate n.toNat z.cps.toList).flatten.toArray⟩ → EP X pins σ Q (.str z' t) { s with toks := k } := fun z' t k e => ⟨.str z', H, I.tok k, ⟨t, rfl⟩, by rw [e]; exact q⟩
  have hlen : (z.length : Int) * n.toNat ≤ 100000 := by rw [Int.toNat_of_nonneg h0]; exact h1
  have hnat : z.length * n.toNat ≤ 100000 := by
    have : ((z.length * n.toNat : Nat) : Int) ≤ 100000 := by rw [Int.natCast_mul]; exact hlen
    omega
  have hsl := sizeLine_eq
  refine PySem.P.mul_str ?_ ?_ ?_ ?_
  · rw [decide_eq_false (by omega), decide_eq_false (by omega)]; rfl
  · intro g1 g2 g3
    have : (z.length : Int) ≤ (2 ^ 63 - 1) / n := (Int.le_ediv_iff_mul_le (by omega)).mpr (by omega)
    omega
  · intro g1 g2
    show decide (z.length * n.toNat > sizeLine) = false
    rw [decide_eq_false]
    omega
  · split
    · rename_i h
      have : n = 0 := by omega
      subst this
      exact ⟨by decide, key _ _ _ rfl⟩
    · rename_i hn
      split
      · rename_i h
        rw [Bool.or_eq_true, beq_iff_eq, beq_iff_eq] at h
        refine key z t s.toks ?_
        rcases h with h | h
        · subst h
          show z = ⟨([z.cps.toList].flatten).toArray⟩
          simp
        · have e : z.cps.toList = [] := List.eq_nil_of_length_eq_zero (by rw [Array.length_toList]; exact h)
          have e2 : z.cps = #[] := by
            rw [← Array.toList_inj, e]
          have e3 : (List.replicate n.toNat ([] : List Nat)).flatten = [] := by simp
          rw [e, e3]
          obtain ⟨c⟩ := z
          subst e2
          rfl
      · have e : (List.replicate n.toNat z.cps).foldl (· ++ ·) #[] = (List.replicate n.toNat z.cps.toList).flatten.toArray := by
          rw [rep_fold]
          rfl
        rw [e]
        refine ⟨?_, key _ _ _ rfl⟩
        show (List.replicate n.toNat z.cps.toList).flatten.toArray.size ≤ sizeLine
        rw [List.size_toArray, List.length_flatten, List.map_replicate, List.sum_replicate_nat, Array.length_toList]
        have : n.toNat * z.cps.size = z.length * n.toNat := Nat.mul_comm _ _
        omega
theorem o_mul : OpR X (binaryOp .Mult) rMulS := op_mul.or o_mulS
end

theorem exm_mk {K : PySem.W.Frag} {C C2 : Addr} {b : Bool} (i : PySem.W.isClsIn K C2 = true) (sb : PySem.W.subIn K (.ref C2) (.type "BaseException") = some true) (t : PySem.W.typeIn K (.ref C2) = some (.type "type")) (s : PySem.W.subIn K (.ref C) (.ref C2) = some b) :
    PySem.W.exmOne K (.ref C) (.ref C2) = some b := by
  unfold PySem.W.exmOne
  rw [sb, if_pos (by rfl)]
  unfold PySem.W.kitCls
  unfold PySem.W.isClsIn at i
  simp only [i, t, Bool.true_and]
  rw [if_pos (by rfl)]
  exact s
end DL
/-! DL15: running: errors, texts, while. -/
namespace DL
open PySem L2
open Enc (en)
/-- a sign as a text -/
def sg (c : Nat) : Str := ⟨#[c]⟩
/-- signs as a text -/
def st (l : List Nat) : Str := ⟨l.toArray⟩
theorem st_list (l : List Nat) : (st l).cps.toList = l := by simp [st]
theorem st_len (l : List Nat) : (st l).length = l.length := by
  show (st l).cps.size = _
  simp [st]
theorem str_st (x : Str) : st x.cps.toList = x := by
  obtain ⟨c⟩ := x
  simp [st]
theorem str_len (x : Str) : x.cps.toList.length = x.length := Array.length_toList
section
variable {n : Env → Prop} {rt : D → Env → Prop} {bk ct : Env → Prop} {ex : Exn → Env → Prop} {ρ ρ1 ρ2 : Env} {Q : Rv → Env → Prop} {QT : Bool → Env → Prop} {QA : List Rv → Env → Prop} {QI : List D → Env → Prop} {E : Exn → Env → Prop}
  {t u tb ts : DS} {te ta : DE} {c tt tv : DT} {tA : DA} {ti : DI} {g : DG} {d d' e : D} {i j : Nat} {v : V} {x y : Rv} {xs : List Rv} {nm : String}
theorem w_raise (h : ex ⟨nm, none⟩ ρ) : dRaise nm ⟨n, rt, bk, ct, ex⟩ ρ := h
def trK (ns : List (String × Bool)) (ts : DS) (D : DEnds) (x : Exn) (ρ : Env) : Prop := match ns.lookup x.name with
  | some true => ts D ρ
  | some false => D.ex x ρ
  | none => False
theorem w_try {ns : List (String × Bool)} (h : tb ⟨n, rt, bk, ct, fun x ρ' => trK ns ts ⟨n, rt, bk, ct, ex⟩ x ρ'⟩ ρ) : dTry ns tb ts ⟨n, rt, bk, ct, ex⟩ ρ := h
theorem w_trT {ns : List (String × Bool)} {x : Exn} (h : ns.lookup x.name = some true) (k : ts ⟨n, rt, bk, ct, ex⟩ ρ) : trK ns ts ⟨n, rt, bk, ct, ex⟩ x ρ := by unfold trK; rw [h]; exact k
theorem w_trF {ns : List (String × Bool)} {x : Exn} (h : ns.lookup x.name = some false) (k : ex x ρ) : trK ns ts ⟨n, rt, bk, ct, ex⟩ x ρ := by unfold trK; rw [h]; exact k
def agK (i : Nat) (r : Rv) (ρ1 : Env) (k : Env → Prop) : Prop := ∃ x y ρ2, slD ρ1 i = some (.p (.int x)) ∧ look ρ1 r = some (.p (.int y)) ∧ stV ρ1 i (.p (.int (x + y))) = some ρ2 ∧ k ρ2
theorem w_augI {p : Int} (h0 : slD ρ i = some (.p (.int p))) (h : te ρ (fun r ρ1 => agK i r ρ1 n) ex) : dAugI i te ⟨n, rt, bk, ct, ex⟩ ρ := ⟨⟨p, h0⟩, h⟩
theorem w_agK {k : Env → Prop} {p q : Int} (h0 : slD ρ i = some (.p (.int p))) (h1 : look ρ x = some (.p (.int q))) (hk : okV ρ i = true) (h2 : (killB i ρ).set i (.v (.p (.int (p + q)))) = ρ2) (h : k ρ2) : agK i x ρ k := ⟨p, q, ρ2, h0, h1, by rw [stV_v hk, h2], h⟩
/-! ### texts -/
section
variable {k : D → Prop} {a b : Str} {m p : Int}
theorem w_ixT {ch : Nat} (hl : a.length ≤ 100000) (h1 : atI a.cps.toList m = some ch) (h : k (.p (.str (sg ch)))) : qIxS (.p (.str a)) (.p (.int m)) k := ⟨hl, ch, h1, h⟩
theorem w_lenS (hl : a.length ≤ 100000) (h : k (.int (a.length : Nat))) : qLen [.p (.str a)] k := ⟨_, a.length, rfl, by simp only [lenD?, hl, if_true], h⟩
theorem w_leS (h : k (.bl (!strLt b a))) : qLe (.p (.str a)) (.p (.str b)) k := h
theorem w_ltS (h : k (.bl (strLt a b))) : qLt (.p (.str a)) (.p (.str b)) k := h
theorem w_inT {ch : Nat} {neg : Bool} (h : k (.bl (if neg = true then !decide (ch ∈ b.cps.toList) else decide (ch ∈ b.cps.toList)))) : qInS neg (.p (.str (sg ch))) (.p (.str b)) k := ⟨ch, rfl, h⟩
theorem w_inTf {ch : Nat} (h : k (.bl (decide (ch ∈ b.cps.toList)))) : qInS false (.p (.str (sg ch))) (.p (.str b)) k := w_inT h
theorem w_inTt {ch : Nat} (h : k (.bl (!decide (ch ∈ b.cps.toList)))) : qInS true (.p (.str (sg ch))) (.p (.str b)) k := w_inT h
theorem w_in2 {o : Bool} {x y z : Str} {neg : Bool} (h : k (.bl (if neg = true then !dc (x = y ∨ x = z) else dc (x = y ∨ x = z)))) : qInS neg (.p (.str x)) (.n o .tup [.p (.str y), .p (.str z)]) k := by
  refine ⟨⟨rfl, ok_of (x := x) (by decide), rfl⟩, ?_⟩
  have : inD (.p (.str x)) [.p (.str y), .p (.str z)] = dc (x = y ∨ x = z) := by
    have h1 : eqD (.p (.str y)) (.p (.str x)) = dc (y = x) := eqD_e y x
    have h2 : eqD (.p (.str z)) (.p (.str x)) = dc (z = x) := eqD_e z x
    unfold inD
    rw [List.any_cons, List.any_cons, List.any_nil, h1, h2, Bool.or_false]
    by_cases e1 : y = x
    · rw [dc_t.mpr e1, (dc_t (p := x = y ∨ x = z)).mpr (.inl e1.symm)]; rfl
    · by_cases e2 : z = x
      · rw [dc_t.mpr e2, (dc_t (p := x = y ∨ x = z)).mpr (.inr e2.symm), Bool.or_true]
      · rw [dc_f.mpr e1, dc_f.mpr e2, (dc_f (p := x = y ∨ x = z)).mpr fun q => q.elim (fun q => e1 q.symm) fun q => e2 q.symm]; rfl
  rw [this]
  exact h
theorem w_in2f {o : Bool} {x y z : Str} (h : k (.bl (dc (x = y ∨ x = z)))) : qInS false (.p (.str x)) (.n o .tup [.p (.str y), .p (.str z)]) k := w_in2 h
theorem w_in2t {o : Bool} {x y z : Str} (h : k (.bl (!dc (x = y ∨ x = z)))) : qInS true (.p (.str x)) (.n o .tup [.p (.str y), .p (.str z)]) k := w_in2 h
theorem w_inLf {α : Type} {inst : Enc α} {d : D} {x : α} {ys : List α} (h1 : listOf d = some (ys.map en)) (hd : Enc.dep α + 1 ≤ 64) (h : k (.bl (dc (x ∈ ys)))) : qInS false (en x) d k := w_inL h1 hd h
theorem w_inLt {α : Type} {inst : Enc α} {d : D} {x : α} {ys : List α} (h1 : listOf d = some (ys.map en)) (hd : Enc.dep α + 1 ≤ 64) (h : k (.bl (!dc (x ∈ ys)))) : qInS true (en x) d k := w_inL h1 hd h
theorem w_intB {b : Bool} (h : k (.int (if b = true then 1 else 0))) : qInt [.p (.bl b)] k := .inr ⟨b, rfl, h⟩
theorem w_intI (h : k (.int m)) : qInt [.p (.int m)] k := .inl ⟨m, rfl, h⟩
theorem w_mulI (hc : CMul m p) (h : k (.int (m * p))) : qMulS (.p (.int m)) (.p (.int p)) k := ⟨hc, h⟩
theorem w_mulS (h0 : 0 ≤ p ∧ (a.length : Int) * p ≤ 100000 ∧ p ≤ 100000) (h : k (.str (repS a p))) : qMulS (.p (.str a)) (.p (.int p)) k := ⟨h0, h⟩
theorem w_pow (hc : CPow m p) (h : k (.int (m ^ p.toNat))) : qPow (.p (.int m)) (.p (.int p)) k := ⟨hc, h⟩
theorem w_isdigit (h : k (.bl (Txt.isdigit a))) : qIsdigit (.p (.str a)) k := ⟨trivial, h⟩
theorem w_isalpha (h : k (.bl (Txt.isalpha a))) : qIsalpha (.p (.str a)) k := ⟨trivial, h⟩
theorem w_isNn (h : k (.bl true)) : qIsN .non .non k := ⟨rfl, h⟩
theorem w_isN {d : D} (h : k (.bl (isNon d))) : qIsN d .non k := ⟨rfl, h⟩
theorem w_notN {d : D} (h : k (.bl (!isNon d))) : qNotN d .non k := ⟨rfl, h⟩
theorem w_cutT {lo hi : Option Int} (h1 : look ρ x = some (.p (.str a))) (hl : a.length ≤ 100000) (h : k (.str (cutS a lo hi))) : cutK lo hi x ρ k := ⟨_, h1, hl, h⟩
end
def isK (x : Rv) (ρ : Env) (k : List D → Env → Prop) : Prop := ∃ a, look ρ x = some (.p (.str a)) ∧ k (strL a) ρ
theorem w_istr (h : te ρ (fun r ρ1 => isK r ρ1 QI) E) : dIStr te ρ QI E := h
theorem w_isK {k : List D → Env → Prop} {a : Str} (h1 : look ρ x = some (.p (.str a))) (h : k (a.cps.toList.map fun c => en (sg c)) ρ) : isK x ρ k := ⟨a, h1, h⟩
def m1K (r : Op2) (x : Rv) (ρ : Env) (tb : DE) (Q : Rv → Env → Prop) (E : Exn → Env → Prop) : Prop := (∃ a, look ρ x = some (.p (.str a))) ∧ tb ρ (fun y ρ2 => opK r x y ρ2 fun z => Q (.t z) ρ2) E
theorem w_m1 {r : Op2} {tb : DE} (h : ta ρ (fun x ρ1 => m1K r x ρ1 tb Q E) E) : dM1 r ta tb ρ Q E := h
theorem w_m1K {r : Op2} {tb : DE} {a : Str} (h1 : look ρ x = some (.p (.str a))) (h : tb ρ (fun y ρ2 => opK r x y ρ2 fun z => Q (.t z) ρ2) E) : m1K r x ρ tb Q E := ⟨⟨a, h1⟩, h⟩
theorem w_join {k : D → Prop} {a : Str} {ys : List Str} (h1 : itemsOf e = some (ys.map en)) (h2 : (ys.map (·.length)).sum + ys.length * a.length ≤ 16777216) (h : k (.str (Txt.join a ys))) : qJoin (.p (.str a)) e k := ⟨ys, h1, h2, h⟩
/-! ### stores -/
def puK (T : String) (i : Nat) (r : OpM) (ti : DE) (x : Rv) (ρ : Env) (k : Env → Prop) (E : Exn → Env → Prop) : Prop := (∃ s d, ρ[i]? = some s ∧ s.d? = some d ∧ tyM d = T ∧ (T = "list" ∨ T = "dict")) ∧ ti ρ (fun y ρ2 => mu2K i r [y, x] ρ2 fun _ ρ3 => k ρ3) E
theorem w_put {T : String} {r : OpM} {ti : DE} (h : te ρ (fun x ρ1 => puK T i r ti x ρ1 n ex) ex) : dPut T i r te ti ⟨n, rt, bk, ct, ex⟩ ρ := h
theorem w_puK {T : String} {r : OpM} {ti : DE} {k : Env → Prop} (h0 : ∃ s d, ρ[i]? = some s ∧ s.d? = some d ∧ tyM d = T ∧ (T = "list" ∨ T = "dict")) (h : ti ρ (fun y ρ2 => mu2K i r [y, x] ρ2 fun _ ρ3 => k ρ3) E) : puK T i r ti x ρ k E := ⟨h0, h⟩
end

section
variable {k : D → Prop} {a b : Str} {i j : Int}
theorem w_eqS (h : k (.bl (dc (a = b)))) : qEq (.p (.str a)) (.p (.str b)) k := w_eqP (x := a) (y := b) rfl rfl (by decide) h
theorem w_neS (h : k (.bl (!dc (a = b)))) : qNe (.p (.str a)) (.p (.str b)) k := w_neP (x := a) (y := b) rfl rfl (by decide) h
theorem w_eqI (h : k (.bl (decide (i = j)))) : qEq (.p (.int i)) (.p (.int j)) k := w_eqP (x := i) (y := j) rfl rfl (by decide) (by rw [dc_d]; exact h)
theorem w_neI (h : k (.bl (!decide (i = j)))) : qNe (.p (.int i)) (.p (.int j)) k := w_neP (x := i) (y := j) rfl rfl (by decide) (by rw [dc_d]; exact h)
end

section
variable {k : D → Env → Prop} {ρ ρ1 ρ2 : Env} {xs : List Rv} {i : Nat}
theorem w_appS {ch : List Str} {a : Str} (h1 : tkL ρ xs = some ([.p (.str a)], ρ2)) (h2 : ρ2[i]? = some (.v (.n true .lst (ch.map en)))) (h3 : ch.length < 100000) (h4 : (killB i ρ2).set i (.v (eo (ch ++ [a]))) = ρ1) (h : k .non ρ1) : mu2K i mAppend xs ρ k := w_appE (e := a) h1 h2 h3 h4 h
theorem w_appI {ch : List Int} {a : Int} (h1 : tkL ρ xs = some ([.p (.int a)], ρ2)) (h2 : ρ2[i]? = some (.v (.n true .lst (ch.map en)))) (h3 : ch.length < 100000) (h4 : (killB i ρ2).set i (.v (eo (ch ++ [a]))) = ρ1) (h : k .non ρ1) : mu2K i mAppend xs ρ k := w_appE (e := a) h1 h2 h3 h4 h
end

/-- a slot that holds something, or nothing -/
def fs : Option D → Sl
  | none => .un
  | some d => .v d
theorem kb_fs {i : Nat} {o : Option D} {r : Env} : killB i (fs o :: r) = fs o :: killB i r := by cases o <;> rfl
theorem okV_fs {ρ : Env} {i : Nat} {o : Option D} (h : ρ[i]? = some (fs o)) : okV ρ i = true := by
  unfold okV
  rw [h]
  cases o <;> rfl
end DL
/-! DL16: shared displays, constants that are tuples, str(). -/
namespace DL
open PySem L2
open Enc (en)
section
variable {X : Cx} {cn : String → Addr} {E : WX}
/-- what a display makes, shared from now on -/
def dFz (te : DE) : DE := fun ρ Q E => te ρ (fun r ρ1 => ∃ d ρ2, tkF ρ1 r = some (d, ρ2) ∧ Q (.t d) ρ2) E
theorem je_fz {e : Expr} {te : DE} (h : JE X cn E e te) : JE X cn E e (dFz te) := pe_imp h fun σ H Q ⟨pv, γ, ρ, G, fp, Q0, E0, m, q, po, px⟩ =>
  ⟨pv, γ, ρ, G, fp, _, E0, m, q, fun r ρ1 v G1 H1 fp1 F1 ⟨d, ρ2, e1, q1⟩ s1 m1 o1 => by
    obtain ⟨G2, fp2, s2, m2, r2, i2⟩ := tkF_ok m1 o1 (fun _ z => z) e1
    exact po (.t d) ρ2 v G2 H1 fp2 [] q1 ((s1.trans s2).mono (fun _ z => z) fun a z => .inl (z.elim id fun z => by cases z)) m2 ⟨r2, fun a z => by cases z⟩, px⟩
/-- a thing of the written part -/
def dK (d : D) : DE := fun ρ Q _ => Q (.t d) ρ
def qStr1 : OpL := fun ds Q => (∃ i : Int, ds = [.p (.int i)] ∧ i.natAbs.log2 < 1920 ∧ Q (.str (toString i))) ∨ ∃ a, ds = [.p (.str a)] ∧ Q (.str a)
end
/-! ### text[::-1] -/
def qUpper := qStr0 (fun a => a.length ≤ 5592405) fun a => .str (Txt.upper a)
def qRevT : D → (D → Prop) → Prop
  | .p (.str x), Q => x.length ≤ 100000 ∧ Q (.str ⟨x.cps.toList.reverse.toArray⟩)
  | _, _ => False
open PySem.Spec PyProof.Rows in
section
variable {n : Env → Prop} {ρ ρ1 ρ2 : Env} {Q : Rv → Env → Prop} {E : Exn → Env → Prop} {te : DE} {d d' : D} {x : Rv} {i : Nat} {k : Rv → Env → Prop}
def fzK (x : Rv) (ρ : Env) (k : Rv → Env → Prop) : Prop := ∃ d ρ2, tkF ρ x = some (d, ρ2) ∧ k (.t d) ρ2
theorem w_fz (h : te ρ (fun r ρ1 => fzK r ρ1 Q) E) : dFz te ρ Q E := h
theorem w_fzT (h1 : d.fz = d') (h : k (.t d') ρ) : fzK (.t d) ρ k := ⟨d', ρ, by simp only [tkF, tk, h1], h⟩
theorem w_dK (h : Q (.t d) ρ) : dK d ρ Q E := h
theorem w_strI {k : D → Prop} {i : Int} (h0 : i.natAbs.log2 < 1920) (h : k (.str (toString i))) : qStr1 [.p (.int i)] k := .inl ⟨i, rfl, h0, h⟩
theorem w_strS {k : D → Prop} {a : Str} (h : k (.str a)) : qStr1 [.p (.str a)] k := .inr ⟨a, rfl, h⟩
end
theorem w_revT {k : D → Prop} {a : Str} (h0 : a.length ≤ 100000) (h : k (.str ⟨a.cps.toList.reverse.toArray⟩)) : qRevT (.p (.str a)) k := ⟨h0, h⟩
theorem w_upper {k : D → Prop} {a : Str} (h0 : a.length ≤ 5592405) (h : k (.str (Txt.upper a))) : qUpper (.p (.str a)) k := ⟨h0, h⟩
end DL
/-! DL17: dicts made, read, written; methods of lists and texts; f-strings. -/
namespace DL
open PySem L2
section
variable {X : Cx} {cn : String → Addr} {E : WX} {pos apos cpos : Pos}
/-! ### {} -/
def dNewD : DE := fun ρ Q _ => Q (.t (.n true (.dic []) [])) ρ
theorem none_G {G H : Hp} {p : Addr} (s : Sub G H) (h : H p = none) : G p = none := by
  cases e : G p with
  | none => rfl
  | some o => rw [s p o e] at h; cases h
theorem je_newD : JE X cn E (.Dict [] [] pos) dNewD := pe_imp pe_dnewK fun σ H Q ⟨pv, γ, ρ, G, fp, Q0, E0, m, q, po, _⟩ p hp => by
  have s3 : Stp G H (fun _ => False) G (L2.upd H p (.dK [])) (fun a => a ∈ [p]) := (Stp.new hp m.sub).mono (fun _ z => z) fun a z => .inl (.inr (List.mem_singleton.mp z))
  obtain ⟨f1, f2, f3⟩ := fin_new m (Stp.refl G H (InF fp)) (fun a z => z) s3 (m.sub.upd hp)
  exact po _ ρ _ G _ fp [p] q f1 f2 ⟨Rp.o (F := []) (none_G m.sub hp) (vs := []) ⟨rfl, upd_same⟩ (fun z => by cases z) .nil, f3⟩

/-! ### monotone -/
theorem liftE_mono {te : DE} {σ : St} {H : Hp} {Q1 Q2 : VK} (h : liftE X.K cn E te σ H Q1) (i : ∀ v H', Q1 v H' → Q2 v H') : liftE X.K cn E te σ H Q2 := by
  obtain ⟨pv, γ, ρ, G, fp, Q0, E0, m, q, po, px⟩ := h
  exact ⟨pv, γ, ρ, G, fp, Q0, E0, m, q, fun r ρ' v G' H' fp' F a b c d => i _ _ (po r ρ' v G' H' fp' F a b c d), px⟩
theorem args0 {σ : St} {H : Hp} {Q : List V → Hp → Prop} (h : liftA X.K cn E dNil σ H Q) : Q [] H := by
  obtain ⟨pv, γ, ρ, G, fp, Q0, E0, m, q, po, px⟩ := h
  exact po [] ρ [] G H fp [] q (stp0 G H fp) m .nil
theorem args1 {ta : DE} {σ : St} {H : Hp} {Q : List V → Hp → Prop} (h : liftA X.K cn E (dCons ta dNil) σ H Q) : liftE X.K cn E ta σ H fun x H1 => Q [x] H1 :=
  liftE_mono (consA σ H Q h) fun v H' q => args0 q
theorem args2 {ta tb : DE} {σ : St} {H : Hp} {Q : List V → Hp → Prop} (h : liftA X.K cn E (dCons ta (dCons tb dNil)) σ H Q) : liftE X.K cn E ta σ H fun x H1 => liftE X.K cn E tb σ H1 fun y H2 => Q [x, y] H2 :=
  liftE_mono (consA σ H Q h) fun v H' q => args1 q

/-! ### displays with written keys -/
def dDs : List DE → DA
  | [] => dNil
  | t :: r => dCons t (dDs r)
theorem pairs_of : ∀ (L : List (Str × DE)) (σ : St) (H : Hp) (Q' : List V → Hp → Prop) (Q : List (V × V) → Hp → Prop), liftA X.K cn E (dDs (L.map (·.2))) σ H Q' → (∀ vs H', vs.length = L.length → Q' vs H' → Q ((L.map fun p => V.str p.1).zip vs) H') →
    tPairs (L.map fun p => (tC (.str p.1), liftE X.K cn E p.2)) σ H Q
  | [], σ, H, Q', Q, h, i => i [] H rfl (args0 h)
  | (k, t) :: L, σ, H, Q', Q, h, i => by
    refine liftE_mono (consA σ H Q' h) fun v H' q => ?_
    exact pairs_of L σ H' _ _ q fun vs H2 hl q2 => i (v :: vs) H2 (by rw [List.length_cons, List.length_cons, hl]) q2
def dDisp (ks : List Str) (t : DA) : DE := fun ρ Q E => t ρ (fun rs ρ1 => ∃ ds ρ2, tkL ρ1 rs = some (ds, ρ2) ∧ (ks.length = ds.length ∧ ks.length ≤ 15 ∧ ks.Nodup) ∧ Q (.t (.n true (.dic (ks.map .inr)) ds)) ρ2) E
theorem merge_nodup {κ : Type} [DecidableEq κ] : ∀ (more kvs : List (κ × V)), ((kvs ++ more).map (·.1)).Nodup → more.foldl (fun acc kv => putK acc kv.1 kv.2) kvs = kvs ++ more
  | [], kvs, _ => by simp
  | kv :: more, kvs, h => by
    rw [List.foldl_cons]
    have hn : valV kvs kv.1 = none := by
      cases e : valV kvs kv.1 with
      | none => rfl
      | some v =>
        have h2 : (kvs.any fun p => decide (p.1 = kv.1)) = true := by rw [valV_any, e]; rfl
        obtain ⟨p, hp, hk⟩ := List.any_eq_true.mp h2
        have hk := of_decide_eq_true hk
        rw [List.map_append, List.nodup_append] at h
        exact absurd hk (h.2.2 _ (List.mem_map.mpr ⟨p, hp, rfl⟩) _ (List.mem_map.mpr ⟨kv, List.mem_cons_self .., rfl⟩))
    rw [putK_new kv.2 hn, merge_nodup more (kvs ++ [(kv.1, kv.2)]) (by simpa using h)]
    simp
theorem je_disp {keys : List (Option Expr)} {values : List Expr} (L : List (Str × DE)) (h : PPs X pos keys values (L.map fun p => (tC (.str p.1), liftE X.K cn E p.2))) (hall : keys.all (·.isSome) = true) (hl : keys.length = values.length) (h0 : keys ≠ []) (h15 : keys.length ≤ 15) :
    JE X cn E (.Dict keys values pos) (dDisp (L.map (·.1)) (dDs (L.map (·.2)))) := by
  refine pe_imp (pe_disp h hall hl h0 h15) ?_
  rintro σ H Q ⟨pv, γ, ρ, G, fp, Q0, E0, m, q, po, px⟩ p hp
  have hGp := none_G m.sub hp
  have nP : ¬ InF fp p := fun ⟨i, hi⟩ => by
    obtain ⟨_, o, ho⟩ := m.ft i p hi
    rw [hp] at ho; cases ho
  have a0 : Stp G H (InF fp) G (L2.upd H p (.dK [])) (InF fp) := (Stp.new hp m.sub).mono (fun _ z => z) fun a z => .inl (.inl z)
  have m1 : Mt X.K pv (σ ++ γ) ρ G (L2.upd H p (.dK [])) fp := m.step (Stp.new (P := fun _ => False) hp m.sub) (m.sub.upd hp)
  refine pairs_of L σ _ (fun vs H' => vs.length = L.length → H' p = some (.dK []) ∧ ∃ kvs : List (Key × V), (L.map fun p => V.str p.1).zip vs = kvs.map (fun kv => (kV kv.1, kv.2)) ∧ kvs.length ≤ 15 ∧ Q (.ref p) (L2.upd H' p (.dK (mergeK [] kvs)))) _ ⟨pv, γ, ρ, G, fp, _, E0, m1, q, ?_, px.on0 a0⟩ fun vs H' hl q => q hl
  rintro rs ρ1 vs G1 H1 fp1 F1 ⟨ds, ρ2, e1, ⟨c1, c2, c3⟩, q1⟩ s1 m2 o1 hl
  obtain ⟨G2, fp2, s2, m3, r3, i2⟩ := tkL_ok m2 o1 (fun _ z => z) e1
  have hp1 : H1 p = some (.dK []) := s1.h p _ upd_same nP
  have nP1 : ¬ (InF fp1 p ∨ p ∈ F1) := fun z => by
    rcases s1.f p z with y | y
    · exact nP y
    · rw [upd_same] at y; cases y
  have hG1 : G1 p = none := s1.n p _ upd_same hGp nP
  have s2' : Stp G1 H1 (fun a => InF fp1 a ∨ a ∈ F1) G2 H1 (fun a => InF fp2 a ∨ a ∈ F1) := s2.mono (fun _ z => .inl z) fun a z => z.elim (fun z => .inl z) fun z => .inr (.inr z)
  have hG2 : G2 p = none := s2'.n p _ hp1 hG1 nP1
  have T := (a0.trans s1).trans s2'
  have kF : ∀ a ∈ F1, a ≠ p := fun a ha z => nP1 (.inr (z ▸ ha))
  have lv : vs.length = ds.length := r3.len
  refine ⟨hp1, ((L.map (·.1)).map Sum.inr).zip vs, ?_, ?_, ?_⟩
  · rw [List.zip_map_left, List.zip_map_left, List.map_map, List.zip_map_left]
    rw [List.map_map]
    rfl
  · rw [List.length_zip, List.length_map]; omega
  · have em : mergeK [] (((L.map (·.1)).map Sum.inr).zip vs) = ((L.map (·.1)).map Sum.inr).zip vs := by
      unfold mergeK
      rw [merge_nodup _ []]
      · rfl
      · rw [List.nil_append, List.map_fst_zip (by rw [List.length_map]; omega)]
        exact List.Pairwise.map _ (fun a b z y => z (by injection y)) c3
    rw [em]
    have m4 : Mt X.K pv (σ ++ γ) ρ2 G2 (L2.upd H1 p (.dK (((L.map (·.1)).map Sum.inr).zip vs))) fp2 := m3.move (fun _ _ z => z) (fun a o z => by rw [upd_ne (fun y => by rw [y, hG2] at z; cases z)]; exact m3.sub a o z)
      (fun a o z e => by rw [upd_ne (fun y => nP1 (.inl (i2 p (by rw [← y]; exact z))))]; exact e) fun a ⟨i, ha⟩ => (m3.ft i a ha).1
    refine po (.t _) ρ2 (.ref p) G2 _ fp2 (p :: F1) q1 ⟨T.g, fun a o e n => ?_, T.n, fun a z => ?_⟩ m4 ⟨Rp.o hG2 (vs := vs) ⟨by rw [List.length_map]; omega, upd_same⟩ (fun z => kF p z rfl) (RpL.mov (fun _ _ z => z) _ r3 fun a ha o hg ho => ⟨hg, by rw [upd_ne (kF a ha)]; exact ho⟩), fun a ha z => ?_⟩
    · rw [upd_ne (fun y => by rw [y, hp] at e; cases e)]
      exact T.h a o e n
    · rcases z with z | z
      · exact T.f a (.inl z)
      · rcases List.mem_cons.mp z with z | z
        · exact .inr (z ▸ hp)
        · exact T.f a (.inr z)
    · rcases List.mem_cons.mp ha with e | ha
      · exact nP1 (.inl (i2 p (e ▸ z)))
      · exact RvsOk.foot o1 a ha (i2 a z)

/-! ### d.get(k), d.get(k, x) -/
def isDic : D → Bool
  | .n _ (.dic _) _ => true
  | .n _ (.dit _) _ => true
  | _ => false
theorem isD_rp {K : PySem.W.Frag} {G H : Hp} {v : V} {d : D} {F : List Addr} (s : Sub G H) (r : Rp K G H v d F) (h : isDic d = true) : ∃ a, v = .ref a ∧ IsD H a := by
  cases d with
  | p x => simp [isDic] at h
  | n ow kd ch =>
    cases kd with
    | lst => simp [isDic] at h
    | lok => simp [isDic] at h
    | tup => simp [isDic] at h
    | tok => simp [isDic] at h
    | obj _ _ => simp [isDic] at h
    | exc _ _ => simp [isDic] at h
    | dic ks =>
      cases r with
      | f h1 h2 => exact ⟨_, rfl, .inl ⟨_, Rd.mono s h1.2⟩⟩
      | o h0 h1 h3 h2 => exact ⟨_, rfl, .inl ⟨_, .inl h1.2⟩⟩
    | dit ks =>
      cases r with
      | f h1 h2 => exact ⟨_, rfl, .inr ⟨_, .inl (s _ _ h1.2)⟩⟩
      | o h0 h1 h3 h2 => exact ⟨_, rfl, .inr ⟨_, .inl h1.2⟩⟩
def dGet2 (ta tb tc : DE) : DE := fun ρ Q E => ta ρ (fun x ρ1 => (∃ d, look ρ1 x = some d ∧ isDic d = true) ∧ tb ρ1 (fun y ρ2 => tc ρ2 (fun z ρ3 => ∃ d k dz o, look ρ3 x = some d ∧ look ρ3 y = some k ∧ look ρ3 z = some dz ∧ dictD d k = some o ∧ (o.getD dz).isFz = true ∧ Q (.t (o.getD dz)) ρ3) E) E) E
def dGet1 (ta tb : DE) : DE := fun ρ Q E => ta ρ (fun x ρ1 => (∃ d, look ρ1 x = some d ∧ isDic d = true) ∧ tb ρ1 (fun y ρ2 => ∃ d k o, look ρ2 x = some d ∧ look ρ2 y = some k ∧ dictD d k = some o ∧ (o.getD (.p .non)).isFz = true ∧ Q (.t (o.getD (.p .non))) ρ2) E) E
/-! ### d[k] = v, d.setdefault(k, v), d.pop(k), d.pop(k, v): what one slot holds -/
def putKs {κ : Type} [DecidableEq κ] (ks : List κ) (k : κ) : List κ := if k ∈ ks then ks else ks ++ [k]
def putCh {κ : Type} [DecidableEq κ] (ks : List κ) (ch : List D) (k : κ) (d : D) : List D := if k ∈ ks then List.zipWith (fun k' c => if k' = k then d else c) ks ch else ch ++ [d]
def delKs {κ : Type} [DecidableEq κ] (ks : List κ) (k : κ) : List κ := ks.filter fun k' => decide (k' ≠ k)
def delCh {κ : Type} [DecidableEq κ] : List κ → List D → κ → List D
  | k' :: ks, c :: ch, k => if k' = k then delCh ks ch k else c :: delCh ks ch k
  | _, _, _ => []
theorem any_key {κ : Type} [DecidableEq κ] {k : κ} : ∀ {ks : List κ} {vs : List V}, ks.length = vs.length → ((ks.zip vs).any fun kv => decide (kv.1 = k)) = decide (k ∈ ks)
  | [], vs, h => by simp
  | k' :: ks, [], h => by simp at h
  | k' :: ks, v :: vs, h => by
    rw [List.zip_cons_cons, List.any_cons, any_key (by simpa using h)]
    by_cases e : k' = k
    · subst e; simp
    · simp [e, Ne.symm e]
theorem put_zip {κ : Type} [DecidableEq κ] {K : PySem.W.Frag} {G H : Hp} {k : κ} {y : V} {d : D} {ks : List κ} {vs : List V} {ch : List D} {F Fw : List Addr} (hl : ks.length = vs.length) (r : RpL K G H vs ch F) (ry : Rp K G H y d Fw) (hz : d.isFz = true) :
    ∃ vs' F', (putKs ks k).length = vs'.length ∧ putK (ks.zip vs) k y = (putKs ks k).zip vs' ∧ RpL K G H vs' (putCh ks ch k d) F' ∧ ∀ b ∈ F', b ∈ F := by
  have ry := ry.shared hz
  unfold putK putKs putCh
  rw [any_key hl]
  by_cases hk : k ∈ ks
  · simp only [hk, decide_true, if_true]
    have key : ∀ (ks : List κ) (vs : List V) (ch : List D) (F : List Addr), ks.length = vs.length → RpL K G H vs ch F → ∃ vs' F', ks.length = vs'.length ∧ (ks.zip vs).map (fun kv => if kv.1 = k then (kv.1, y) else kv) = ks.zip vs' ∧ RpL K G H vs' (List.zipWith (fun k' c => if k' = k then d else c) ks ch) F' ∧ ∀ b ∈ F', b ∈ F := by
      intro ks
      induction ks with
      | nil =>
        intro vs ch F hl r
        refine ⟨[], [], rfl, by simp, ?_, fun b z => by cases z⟩
        simp only [List.zipWith_nil_left]
        exact .nil
      | cons k' ks ih =>
        intro vs ch F hl r
        cases r with
        | nil => simp at hl
        | cons h1 h2 h3 =>
          obtain ⟨vs', F', g1, g2, g3, g4⟩ := ih _ _ _ (by simpa using hl) h2
          rw [List.zip_cons_cons, List.map_cons, List.zipWith_cons_cons, g2]
          by_cases e : k' = k
          · simp only [e, if_true]
            exact ⟨y :: vs', [] ++ F', by simp [g1], by rw [List.zip_cons_cons], .cons ry g3 (fun a z => by cases z), fun b z => List.mem_append_right _ (g4 b (by simpa using z))⟩
          · simp only [e, if_false]
            exact ⟨_ :: vs', _ ++ F', by simp [g1], by rw [List.zip_cons_cons], .cons h1 g3 (fun a z w => h3 a z (g4 a w)), fun b z => (List.mem_append.mp z).elim (fun z => List.mem_append_left _ z) fun z => List.mem_append_right _ (g4 b z)⟩
    exact key ks vs ch F hl r
  · simp only [hk, decide_false, if_false, Bool.false_eq_true]
    refine ⟨vs ++ [y], F ++ [], by simp [hl], by rw [List.zip_append hl]; rfl, r.app (RpL.one ry) (fun _ _ z => by cases z), fun b z => by simpa using z⟩
def mPutD : OpM := fun k ch es Q => ∃ kd d, es = [kd, d] ∧ d.isFz = true ∧ ch.length < 100000 ∧ match k with
  | .dic ks => ∃ x, keyD kd = some x ∧ Q (.dic (putKs ks x)) (putCh ks ch x d) .non
  | .dit ks => ∃ kc x, kd = .n false .tup kc ∧ keysD kc = some x ∧ Q (.dit (putKs ks x)) (putCh ks ch x d) .non
  | _ => False
def dNewT : DE := fun ρ Q _ => Q (.t (.n true (.dit []) [])) ρ
theorem je_newT : JE X cn E (.Dict [] [] pos) dNewT := pe_imp pe_dnewT fun σ H Q ⟨pv, γ, ρ, G, fp, Q0, E0, m, q, po, _⟩ p hp => by
  have s3 : Stp G H (fun _ => False) G (L2.upd H p (.dT [])) (fun a => a ∈ [p]) := (Stp.new hp m.sub).mono (fun _ z => z) fun a z => .inl (.inr (List.mem_singleton.mp z))
  obtain ⟨f1, f2, f3⟩ := fin_new m (Stp.refl G H (InF fp)) (fun a z => z) s3 (m.sub.upd hp)
  exact po _ ρ _ G _ fp [p] q f1 f2 ⟨Rp.o (F := []) (none_G m.sub hp) (vs := []) ⟨rfl, upd_same⟩ (fun z => by cases z) .nil, f3⟩
theorem rl2 {K : PySem.W.Frag} {G H : Hp} {ws : List V} {d e : D} {Fw : List Addr} (r : RpL K G H ws [d, e] Fw) : ∃ y z Fa Fb, ws = [y, z] ∧ Rp K G H y d Fa ∧ Rp K G H z e Fb ∧ (∀ b ∈ Fa, b ∈ Fw ∧ b ∉ Fb) ∧ ∀ b ∈ Fb, b ∈ Fw := by
  cases r with
  | cons h1 h2 h3 =>
    cases h2 with
    | cons h4 h5 h6 =>
      cases h5
      simp only [List.append_nil] at h3
      exact ⟨_, _, _, _, rfl, h1, h4, fun b z => ⟨List.mem_append_left _ z, h3 b z⟩, fun b z => by simp [z]⟩
theorem rl1 {K : PySem.W.Frag} {G H : Hp} {ws : List V} {d : D} {Fw : List Addr} (r : RpL K G H ws [d] Fw) : ∃ y, ws = [y] ∧ Rp K G H y d Fw := by
  cases r with
  | cons h1 h2 h3 =>
    cases h2
    rw [List.append_nil]
    exact ⟨_, rfl, h1⟩
theorem m_putD {K : PySem.W.Frag} : SemM K (fun x xs H Q => ∃ i v, xs = [i, v] ∧ rSetD x i v H (fun H' => Q .non H')) mPutD := by
  rintro G H a k vs ch F ws es Fw Q0 Q s hG n r ha rw dw ⟨kd, d, rfl, hz, hl, q⟩ fin
  obtain ⟨y, z, Fa, Fb, rfl, h1, h2, h3, h4⟩ := rl2 rw
  have len := r.len
  have hs : ch.length < sizeLine := Nat.lt_of_lt_of_le hl (by decide)
  cases k with
  | lst => exact q.elim
  | lok => exact q.elim
  | tup => exact q.elim
  | tok => exact q.elim
  | obj _ _ => exact q.elim
  | exc _ _ => exact q.elim
  | dic ks =>
    obtain ⟨x, ex, q⟩ := q
    have := keyD_rp h1 ex
    subst this
    obtain ⟨vs', F', g1, g2, g3, g4⟩ := put_zip (k := x) n.1 r h2 hz
    refine ⟨_, _, rfl, a, _, rfl, DPut.k n.2 (by rw [List.length_zip, n.1]; omega), ?_⟩
    refine fin _ _ .non vs' .non _ F' [] q ⟨g1, by rw [g2]; exact upd_same⟩ g3 (Rp.p _) (fun b hb => .inl (g4 b hb)) fun b hb => by cases hb
  | dit ks =>
    obtain ⟨kc, x, rfl, ex, q⟩ := q
    obtain ⟨b, us, F2, rfl, h5, h6⟩ := h1.tupl s
    have := keysD_rp h6 ex
    subst this
    obtain ⟨vs', F', g1, g2, g3, g4⟩ := put_zip (k := x) n.1 r h2 hz
    refine ⟨_, _, rfl, a, _, rfl, DPut.t n.2 h5 (by rw [List.length_zip, n.1]; omega), ?_⟩
    refine fin _ _ .non vs' .non _ F' [] q ⟨g1, by rw [g2]; exact upd_same⟩ g3 (Rp.p _) (fun b hb => .inl (g4 b hb)) fun b hb => by cases hb
theorem setD_h : ∀ o i v H Q, (fun x xs H (Q : VK) => ∃ i v, xs = [i, v] ∧ rSetD x i v H (fun H' => Q .non H')) o [i, v] H (fun _ H' => Q H') → rSetD o i v H Q := by
  rintro o i v H Q ⟨i', v', e, q⟩
  cases e
  exact q
/-- a method of a dict in slot i, by its own rule -/
theorem mutD {i : Nat} {t : DA} {r : OpM} {rr : V → List V → Hp → VK → Prop} (hs : SemM X.K rr r) {σ γ : St} {pv : Nat → V} {ρ : Env} {G H : Hp} {fp : Fps} {Q0 : Rv → Env → Prop} {E0 : Exn → Env → Prop} {Q : VK} (hl : i < σ.length) (m : Mt X.K pv (σ ++ γ) ρ G H fp)
    (q : dMut "dict" i r t ρ Q0 E0) (po : PoE X.K pv σ γ G H fp Q0 Q) (px : PoX X.K cn pv γ σ.length G H fp E0 E) : ∃ a, σ[i]? = some (some (.ref a)) ∧ IsD H a ∧ liftA X.K cn E t σ H (fun vs H' => rr (.ref a) vs H' Q) := by
  obtain ⟨⟨s, d, e1, e2, e3, e4⟩, q⟩ := q
  obtain ⟨x, h1, h2⟩ := m.at e1 e2
  have hd : isDic d = true := by
    cases d with
    | p x => cases x <;> simp [tyM] at e3
    | n o k ch => cases o <;> cases k <;> simp [tyM] at e3 <;> rfl
  obtain ⟨a, rfl, hD⟩ := isD_rp m.sub h2 hd
  exact ⟨a, get_left hl h1, hD, pv, γ, ρ, G, fp, _, E0, m, q, fun rs ρ1 vs G1 H1 fp1 F1 q1 s1 m1 o1 => mut_go hs h1 po s1 m1 o1 q1, px⟩
def rSetd : V → List V → Hp → VK → Prop := fun x vs H Q => ∃ (a : Addr) (kvs : List (Key × V)) (k : Key) (y z : V), x = .ref a ∧ vs = [y, z] ∧ H a = some (.dK kvs) ∧ y = kV k ∧ kvs.length < sizeLine ∧ (∀ v, valV kvs k = some v → Q v H) ∧ (valV kvs k = none → Q z (L2.upd H a (.dK (putK kvs k z))))
def mSetd : OpM := fun k ch es Q => ∃ ks kd d x, k = .dic ks ∧ es = [kd, d] ∧ d.isFz = true ∧ ch.length < 100000 ∧ keyD kd = some x ∧ match lookK ks ch x with
  | some c => c.isFz = true ∧ Q (.dic ks) ch c
  | none => Q (.dic (ks ++ [x])) (ch ++ [d]) d
theorem upd_id {H : Hp} {a : Addr} {o : HO} (h : H a = some o) : L2.upd H a o = H := by
  funext b
  by_cases e : b = a
  · rw [e, upd_same, h]
  · rw [upd_ne e]
theorem m_setd {K : PySem.W.Frag} : SemM K rSetd mSetd := by
  rintro G H a k vs ch F ws es Fw Q0 Q s hG n r ha rw dw ⟨ks, kd, d, x, rfl, rfl, hz, hl, ex, q⟩ fin
  obtain ⟨y, z, Fa, Fb, rfl, h1, h2, h3, h4⟩ := rl2 rw
  have := keyD_rp h1 ex
  subst this
  have hs : ch.length < sizeLine := Nat.lt_of_lt_of_le hl (by decide)
  have h2 := h2.shared hz
  have len := r.len
  have lo := look_or (x := x) n.1 r
  have nn := n.2
  refine ⟨a, _, x, _, z, rfl, rfl, n.2, rfl, by rw [List.length_zip, n.1]; omega, fun v hv => ?_, fun hv => ?_⟩
  · cases el : lookK ks ch x with
    | none => rw [hv, el] at lo; cases lo
    | some c =>
      rw [el] at q
      rw [hv, el] at lo
      obtain ⟨Fc, hc⟩ := lo
      have := fin (.dic ks) ch c vs v (.dK (ks.zip vs)) F [] q.2 ⟨n.1, upd_same⟩ r (hc.shared q.1) (fun b z => .inl z) fun b z => by cases z
      rwa [upd_id nn] at this
  · cases el : lookK ks ch x with
    | some c => rw [hv, el] at lo; cases lo
    | none =>
      rw [el] at q
      rw [putK_new _ hv]
      exact fin (.dic (ks ++ [x])) (ch ++ [d]) d (vs ++ [z]) z _ (F ++ []) [] q ⟨by simp [n.1], by rw [upd_same, List.zip_append n.1]; rfl⟩ (r.app (RpL.one h2) fun _ _ z => by cases z) h2 (fun b z => .inl (by simpa using z)) fun b z => by cases z
def rPopD : V → List V → Hp → VK → Prop := fun x vs H Q => ∃ (a : Addr) (kvs : List (Key × V)) (k : Key), x = .ref a ∧ vs = [kV k] ∧ H a = some (.dK kvs) ∧ ∃ v, valV kvs k = some v ∧ Q v (L2.upd H a (.dK (dropK kvs k)))
def rPopD2 : V → List V → Hp → VK → Prop := fun x vs H Q => ∃ (a : Addr) (kvs : List (Key × V)) (k : Key) (z : V), x = .ref a ∧ vs = [kV k, z] ∧ H a = some (.dK kvs) ∧ (∀ v, valV kvs k = some v → Q v (L2.upd H a (.dK (dropK kvs k)))) ∧ (valV kvs k = none → Q z H)
def mPopD : OpM := fun k ch es Q => ∃ ks kd x c, k = .dic ks ∧ es = [kd] ∧ keyD kd = some x ∧ lookK ks ch x = some c ∧ c.isFz = true ∧ Q (.dic (delKs ks x)) (delCh ks ch x) c
def mPopD2 : OpM := fun k ch es Q => ∃ ks kd x d, k = .dic ks ∧ es = [kd, d] ∧ keyD kd = some x ∧ d.isFz = true ∧ match lookK ks ch x with
  | some c => c.isFz = true ∧ Q (.dic (delKs ks x)) (delCh ks ch x) c
  | none => Q (.dic ks) ch d
end
end DL
/-! DL18: methods of lists and texts, dict(..), f-strings. -/
namespace DL
open PySem L2
section
variable {X : Cx} {cn : String → Addr} {E : WX} {pos apos cpos : Pos}
/-! ### lists that one slot holds -/
def mPopAt : OpM := fun k ch es Q => ∃ i j d, k = .lst ∧ es = [.p (.int i)] ∧ (-(2 ^ 63) ≤ i ∧ i < 2 ^ 63) ∧ seqIndex? i ch.length = some j ∧ ch[j]? = some d ∧ Q .lst (ch.eraseIdx j) d
def mPop : OpM := fun k ch es Q => ∃ d, k = .lst ∧ es = [] ∧ ch[ch.length - 1]? = some d ∧ Q .lst ch.dropLast d
theorem RpL.ins {K : PySem.W.Frag} {G H : Hp} {y : V} {d : D} {Fw : List Addr} (ry : Rp K G H y d Fw) : ∀ {vs : List V} {ds : List D} {F : List Addr} (k : Nat), RpL K G H vs ds F → (∀ b ∈ Fw, b ∉ F) → ∃ F', RpL K G H (vs.take k ++ [y] ++ vs.drop k) (ds.take k ++ [d] ++ ds.drop k) F' ∧ ∀ b ∈ F', b ∈ F ∨ b ∈ Fw
  | vs, ds, F, 0, h, dj => ⟨_, by simpa using RpL.cons ry h dj, fun b z => (List.mem_append.mp z).elim .inr .inl⟩
  | _, [], _, k + 1, h, dj => by
    cases h
    exact ⟨_, by simpa using RpL.one ry, fun b z => .inr z⟩
  | _, c :: cs, _, k + 1, .cons h1 h2 h3, dj => by
    obtain ⟨F', g1, g2⟩ := RpL.ins ry k h2 fun b z w => dj b z (List.mem_append_right _ w)
    have key := RpL.cons h1 g1 fun a z w => (by
      rcases g2 a w with w | w
      · exact h3 a z w
      · exact dj a w (List.mem_append_left _ z))
    refine ⟨_, by simpa using key, fun b z => ?_⟩
    · rcases List.mem_append.mp z with z | z
      · exact .inl (List.mem_append_left _ z)
      · exact (g2 b z).imp (List.mem_append_right _) id
def mInsert : OpM := fun k ch es Q => ∃ i d, k = .lst ∧ es = [.p (.int i), d] ∧ (0 ≤ i ∧ i < 2 ^ 63 ∧ ch.length < 100000) ∧ Q .lst (ch.take i.toNat ++ [d] ++ ch.drop i.toNat) .non
def mExtend : OpM := fun k ch es Q => ∃ o ch2, k = .lst ∧ es = [.n o .lst ch2] ∧ ch.length + ch2.length ≤ 100000 ∧ Q .lst (ch ++ ch2) .non
theorem m_extend {K : PySem.W.Frag} : SemM K rExtend mExtend := by
  rintro G H a k vs ch F ws es Fw Q0 Q s hG n r ha rw dw ⟨o, ch2, rfl, rfl, b3, q⟩ fin
  obtain ⟨y, rfl, h1⟩ := rl1 rw
  have hl : ∀ zs : List V, zs.length = ch2.length → vs.length + zs.length ≤ sizeLine := fun zs e => by
    rw [r.len, e]; exact Nat.le_trans b3 (by decide)
  cases h1 with
  | f g1 g2 => exact ⟨a, _, vs, _, rfl, rfl, n, s _ _ g1, hl _ g2.len, fin .lst _ .non _ .non _ _ [] q upd_same (r.app g2 fun b z w => (dw b w).1 z) (Rp.p _) (fun b z => (List.mem_append.mp z).imp id id) fun b z => by cases z⟩
  | o g0 g1 g3 g2 => exact ⟨a, _, vs, _, rfl, rfl, n, g1, hl _ g2.len, fin .lst _ .non _ .non _ _ [] q upd_same (r.app g2 fun b z w => (dw b (List.mem_cons_of_mem _ w)).1 z) (Rp.p _) (fun b z => (List.mem_append.mp z).imp id (List.mem_cons_of_mem _)) fun b z => by cases z⟩
def mClear : OpM := fun k ch es Q => k = .lst ∧ es = [] ∧ Q .lst [] .non
/-! ### a method with one argument that only reads -/
def dBM1 (T : String) (r : Op2) (ta tb : DE) : DE := fun ρ Q E => ta ρ (fun x ρ1 => (∃ d, look ρ1 x = some d ∧ tyM d = T ∧ (T = "list" ∨ T = "dict")) ∧ tb ρ1 (fun y ρ2 => ∃ d e, look ρ2 x = some d ∧ look ρ2 y = some e ∧ r d e fun z => Q (.t z) ρ2) E) E
theorem je_bm1 {o e : Expr} {ta tb : DE} {rr : V → List V → Hp → VK → Prop} {q : Op2} {T id : String} {name : Str} (pa : PlainAttrs T) (slot : Slot T name id) (hty : typeOf (.builtin id) = pure (.type "method_descriptor")) (hm : MtR X id rr) (hq : Sem2 X.K (fun x y H Q => rr x [y] H Q) q)
    (ho : JE X cn E o ta) (he : JE X cn E e tb)
    (hbase : attributeBase o name X.env (eval o X.env) = eval o X.env := by rfl)
    (hfew : ((backTo cpos (starEach [e] X.env)).all (fun x => !x.1) && (backToKw cpos (keywordEach [] X.env)).all (fun x => x.1.isSome)
      && decide (([e] : List Expr).length + ([] : List Keyword).length + (if ([] : List Keyword).isEmpty then 0 else 1) < 30)) = true := by rfl)
    (hline : (apos.endLine == cpos.line) = true := by rfl) (hs : starEach [e] X.env = (false, eval e X.env) :: starEach [] X.env := by rfl) (hplain : (backTo cpos (starEach [] X.env)).any (·.1) = false := by rfl) :
    JE X cn E (.Call (.Attribute o name apos) [e] [] cpos) (dBM1 T q ta tb) := by
  refine pe_imp (pe_bm pa slot hty hm ho (ja_cons he ja_nil hs) hbase hfew hline hs hplain) ?_
  rintro σ H Q ⟨pv, γ, ρ, G, fp, Q0, E0, m, q0, po, px⟩
  refine ⟨pv, γ, ρ, G, fp, _, E0, m, q0, fun x ρ1 v G1 H1 fp1 F1 q1 s1 m1 o1 => ?_, px⟩
  obtain ⟨⟨d, l1, h1, h2⟩, q1⟩ := q1
  obtain ⟨A0, rA0, _⟩ := look_ok m1 o1 l1
  refine ⟨tyV_of m1.sub rA0 h1 h2, ?_⟩
  refine ⟨pv, γ, ρ1, G1, fp1, fun rs ρ2 => match rs with | [y] => ∃ d e, look ρ2 x = some d ∧ look ρ2 y = some e ∧ q d e fun z => Q0 (.t z) ρ2 | _ => False, E0, m1, q1, fun rs ρ2 vs G2 H2 fp2 F2 q2 s2 m2 o2 => ?_, px.on s1⟩
  · obtain ⟨y, rfl⟩ : ∃ y, rs = [y] := by
      match rs, q2 with
      | [y], _ => exact ⟨y, rfl⟩
    obtain ⟨d, e, l1, l2, q2⟩ := q2
    obtain ⟨w, rfl⟩ : ∃ w, vs = [w] := by
      cases o2 with
      | cons a b => cases b; exact ⟨_, rfl⟩
    have o3 : RvOk X.K (σ ++ γ) G2 H2 (InF fp2) w y F2 := by
      cases o2 with
      | cons a b => cases b; rw [List.append_nil]; exact a
    obtain ⟨A, rA, _⟩ := look_ok m2 (o1.frame s2) l1
    obtain ⟨B, rB, _⟩ := look_ok m2 o3 l2
    refine hq G2 H2 v w d e A B _ Q m2.sub rA rB q2 fun z w' G3 H3 Fz qz s3 hs3 rz => ?_
    obtain ⟨f1, f2, f3⟩ := fin_new m2 (s1.seq (fun _ z => .inl z) s2 fun _ z => .inl z) (fun a z => .inl z) s3 hs3
    exact po (.t z) ρ2 w' G3 H3 fp2 Fz qz f1 f2 ⟨rz, f3⟩
/-! ### xs.index(y), flat items -/
def qIndex : Op2 := fun d e Q => ∃ (vs : List V) (y : V) (j : Nat), listOf d = some (vs.map D.p) ∧ e = .p y ∧ (flatV y && vs.all flatV) = true ∧ vs.findIdx? (fun z => eqV z y) = some j ∧ Q (.int (j : Nat))
/-! ### dict(pairs), dict(d) -/
def keyE : Key → D
  | .inl i => .p (.int i)
  | .inr x => .p (.str x)
def mergeD : List (Key × D) → List Key → List D → List Key × List D
  | [], ks, ch => (ks, ch)
  | (k, d) :: r, ks, ch => mergeD r (putKs ks k) (putCh ks ch k d)
def qDict : OpL := fun ds Q => (∃ d ch kvs, ds = [d] ∧ listOf d = some ch ∧ ch = kvs.map (fun kv => .n false .tup [keyE kv.1, kv.2]) ∧ isFzL (kvs.map (·.2)) = true ∧ kvs.length ≤ 100000 ∧ Q (.n true (.dic (mergeD kvs [] []).1) (mergeD kvs [] []).2)) ∨
  ∃ o ks ch, ds = [.n o (.dic ks) ch] ∧ isFzL ch = true ∧ Q (.n true (.dic ks) ch)
/-! ### f'..' -/
def dFmt (te : DE) : DE := fun ρ Q E => te ρ (fun r ρ1 => ∃ d, look ρ1 r = some d ∧ ((∃ y : Str, d = .p (.str y) ∧ y.length ≤ 100000 ∧ Q (.t (.p (.str y))) ρ1) ∨ ∃ i : Int, d = .p (.int i) ∧ i.natAbs.log2 < 1920 ∧ Q (.t (.p (.str (toString i)))) ρ1)) E
def dJl : List DE → Str → Env → (Str → Env → Prop) → (Exn → Env → Prop) → Prop
  | [], acc, ρ, Q, _ => Q acc ρ
  | t :: ts, acc, ρ, Q, E => t ρ (fun r ρ1 => ∃ y : Str, look ρ1 r = some (.p (.str y)) ∧ (acc ++ y).length ≤ 100000 ∧ dJl ts (acc ++ y) ρ1 Q E) E
def dJs (ts : List DE) : DE := fun ρ Q E => dJl ts Str.empty ρ (fun out ρ1 => Q (.t (.p (.str out))) ρ1) E
/-! ### texts -/
def qZfill : Op2
  | .p (.str a), .p (.int i), Q => PadOk i = true ∧ Q (.str (Txt.zfill a i))
  | _, _, _ => False
def qFind : Op2
  | .p (.str a), .p (.str b), Q => Q (.int (Txt.find a b))
  | _, _, _ => False
def qSplit : Op2
  | .p (.str a), .p (.str b), Q => (b.length == 0) = false ∧ a.length ≤ 100000 ∧ Q (.own ((Txt.split a b).map fun y => .p (.str y)))
  | _, _, _ => False
theorem s_split {K : PySem.W.Frag} : Sem2 K (fun x y H Q => ∃ a b, x = .str a ∧ [y] = [.str b] ∧ (b.length == 0) = false ∧ a.length + 2 ≤ sizeLine ∧ rNewStrs (Txt.split a b) H Q) qSplit := by
  intro G H v u d e F1 F2 Q0 Q s r1 r2 q fin
  unfold qSplit at q
  split at q
  · rename_i a b
    cases r1; cases r2
    refine ⟨_, _, rfl, rfl, q.1, Nat.le_trans (Nat.add_le_add_right q.2.1 2) (by decide), fun p hp => ?_⟩
    refine fin _ _ G _ [p] q.2.2 ((Stp.new hp s).mono (fun _ z => z) fun a z => .inl (.inr (List.mem_singleton.mp z))) (s.upd hp) (Rp.o (F := []) (none_G s hp) upd_same (fun z => by cases z) ?_)
    have := RpL.of_prims (K := K) (G := G) (H := L2.upd H p (.lst (List.map V.str (Txt.split a b)))) (xs := (Txt.split a b).map V.str)
    rwa [List.map_map] at this
  · exact q.elim
/-! ### tuple(x) -/
end
end DL
/-! DL19: slots forgotten; loops over what they use up; slots that are parts of what others hold. -/
namespace DL
open PySem L2
/-! ### forgetting -/
def dThenW (t : DS) (vs : List Nat) : DS := fun D ρ => t { D with nx := fun ρ1 => D.nx (wipeD ρ1 vs) } ρ
section
variable {X : Cx} {cn : String → Addr} {E : WX} {pos apos cpos : Pos}
theorem PoN.wipe {K : PySem.W.Frag} {pv : Nat → V} {γ : St} {n : Nat} {G H : Hp} {fp : Fps} {N0 : Env → Prop} {N : St → Hp → Prop} {vs : List Nat} (h : PoN K pv γ n G H fp N0 N) : PoN K pv γ n G H fp (fun ρ => N0 (wipeD ρ vs)) N :=
  fun ρ' σ' G' H' fp' q s m l => h _ σ' G' H' fp' q s (m.wipeD vs) l
theorem js_wipe {st : Stmt} {t : DS} {vs : List Nat} (h : JS X cn E st t) : JS X cn E st (dThenW t vs) := ps_imp h fun D σ H ⟨pv, γ, ρ, G, fp, D0, m, q, po⟩ => ⟨pv, γ, ρ, G, fp, _, m, q, po.nx.wipe, po.bk, po.ct, po.rt, po.ex⟩
def dLoopW (g : DG) (tb : DS) (vs : List Nat) (D : DEnds) : List DL.D → Env → Prop
  | [], ρ => D.nx ρ
  | d :: ds, ρ => g (.t d) ρ fun ρ1 => tb { D with nx := fun ρ2 => dLoopW g tb vs D ds (wipeD ρ2 vs), ct := fun ρ2 => dLoopW g tb vs D ds (wipeD ρ2 vs), bk := fun ρ2 => D.nx (wipeD ρ2 vs) } ρ1
def dForW (ti : DI) (g : DG) (tb : DS) (vs : List Nat) : DS := fun D ρ => ti ρ (fun items ρ1 => dLoopW g tb vs D items (wipeD ρ1 vs)) D.ex
def dWhNW (c : DT) (tb : DS) (vs : List Nat) (D : DEnds) : Nat → Env → Prop
  | 0, _ => False
  | n + 1, ρ => c ρ (fun b ρ1 => if b = true then tb { D with nx := fun ρ2 => dWhNW c tb vs D n (wipeD ρ2 vs), ct := fun ρ2 => dWhNW c tb vs D n (wipeD ρ2 vs), bk := fun ρ2 => D.nx (wipeD ρ2 vs) } ρ1 else D.nx ρ1) D.ex
def dWhileW (c : DT) (tb : DS) (vs : List Nat) : DS := fun D ρ => ∃ n, dWhNW c tb vs D n (wipeD ρ vs)
variable {c iter tg : Expr} {body : List Stmt} {tb : DS} {tc : DT} {ti : DI} {g : DG} {S : List Nat} {vs : List Nat}
theorem js_forW (hp : PassesOwn (model X.prog X.w) X.A X.env X.xe) (hc : X.calm = true) (hi : JI X cn E tg iter ti) (hg : JG X S tg g) (hb : JSs X cn E body tb)
    (hs : ∀ x, foldedSetIterable iter X.env x = pure x := by intro _; rfl) : JS X cn E (.For tg iter body [] pos) (dForW ti g tb vs) := by
  refine ps_imp (ps_for hp hc hi hg hb hs) ?_
  rintro Dn σ H ⟨pv, γ, ρ, G, fp, D0, m, q, po⟩
  refine ⟨pv, γ, ρ, G, fp, _, _, m, q, fun items ρ0 J G0 H0 fp0 q0 s0 m0 wk => ?_, po.ex⟩
  refine ⟨fun i k σ' H' => ∃ ρ' G' fp', k = items.length - i ∧ i ≤ items.length ∧ Sub G0 G' ∧ Mt X.K pv (σ' ++ γ) ρ' G' H' fp' ∧ dLoopW g tb vs D0 (items.drop i) ρ' ∧ PoS X.K cn pv γ σ.length G' H' fp' D0 Dn E ∧ σ'.length = σ.length,
    ⟨items.length, _, G0, fp0, by omega, Nat.zero_le _, fun _ _ z => z, m0.wipeD vs, q0, po.on s0, rfl⟩, ?_⟩
  rintro i k σ1 H1 ⟨ρ1, G1, fp1, rfl, hi, sg, m1, q1, po1, l1⟩
  obtain ⟨w1, w2⟩ := wk G1 H1 sg m1.sub
  by_cases hlt : i < items.length
  · have hd : items[i]? = some items[i] := List.getElem?_eq_getElem hlt
    obtain ⟨go, yl⟩ := w1 i _ hd
    refine .inr ⟨go, fun σ' H' => ∃ ρ' G' fp', Sub G0 G' ∧ Mt X.K pv (σ' ++ γ) ρ' G' H' fp' ∧ dLoopW g tb vs D0 (items.drop (i + 1)) ρ' ∧ PoS X.K cn pv γ σ.length G' H' fp' D0 Dn E ∧ σ'.length = σ.length,
      fun σ' H' ⟨ρ', G', fp', a, b, c, d, e⟩ => ⟨items.length - (i + 1), by omega, ρ', G', fp', rfl, hlt, a, b, c, d, e⟩, fun x H2 hy => ?_⟩
    obtain ⟨G2, s2, hs2, r2⟩ := yl x H2 hy
    rw [List.drop_eq_getElem_cons hlt] at q1
    have m2 := m1.step s2 hs2
    have po2 := po1.on (s2.mono (fun _ z => z.elim) fun _ z => .inr z : Stp G1 H1 (InF fp1) G2 H2 (InF fp1))
    refine ⟨pv, γ, ρ1, G2, fp1, .t items[i], [], _, m2, ⟨r2, fun a z => by cases z⟩, q1, fun ρ3 σ3 G3 H3 fp3 q3 s3 m3 l3 _ => ?_⟩
    have s3' : Stp G2 H2 (InF fp1) G3 H3 (InF fp3) := s3.mono (fun a z => z.elim id fun z => by cases z) fun _ z => .inl z
    have po3 := po2.on s3'
    refine ⟨pv, γ, ρ3, G3, fp3, _, m3, q3, ?_⟩
    rw [l3, l1]
    have sg3 : Sub G0 G3 := fun a o z => s3.g a o (s2.g a o (sg a o z))
    have fin : PoN X.K pv γ σ.length G3 H3 fp3 (fun ρ2 => dLoopW g tb vs D0 (items.drop (i + 1)) (wipeD ρ2 vs)) (fun σ' H' => ∃ ρ' G' fp', Sub G0 G' ∧ Mt X.K pv (σ' ++ γ) ρ' G' H' fp' ∧ dLoopW g tb vs D0 (items.drop (i + 1)) ρ' ∧ PoS X.K cn pv γ σ.length G' H' fp' D0 Dn E ∧ σ'.length = σ.length) :=
      fun ρ4 σ4 G4 H4 fp4 q4 s4 m4 l4 => ⟨_, G4, fp4, fun a o z => s4.g a o (sg3 a o z), m4.wipeD vs, q4, po3.on s4, l4⟩
    exact ⟨fin, po3.nx.wipe, fin, po3.rt, po3.ex⟩
  · refine .inl ⟨w2 i (by omega), ?_⟩
    rw [List.drop_of_length_le (by omega)] at q1
    exact po1.nx ρ1 σ1 G1 H1 fp1 q1 (Stp.refl _ _ _) m1 l1

/-! ### for x in xs, xs used up: each item is x's own -/
def dForC (i : Nat) (g : DG) (tb : DS) (vs : List Nat) : DS := fun D ρ => ∃ ch, ρ[i]? = some (.v (.n true .lst ch)) ∧ dLoopW g tb vs D ch (wipeD ((killB i ρ).set i .un) vs)
theorem RpL.uncons {K : PySem.W.Frag} {G H : Hp} {vs : List V} {d : D} {ds : List D} {F : List Addr} (h : RpL K G H vs (d :: ds) F) : ∃ v vs' F1 F2, vs = v :: vs' ∧ F = F1 ++ F2 ∧ Rp K G H v d F1 ∧ RpL K G H vs' ds F2 ∧ ∀ a ∈ F1, a ∉ F2 := by
  cases h with
  | cons h1 h2 h3 => exact ⟨_, _, _, _, rfl, rfl, h1, h2, h3⟩
theorem RpL.frame {K : PySem.W.Frag} {G H G' H' : Hp} {vs : List V} {ds : List D} {F : List Addr} {P P' : Addr → Prop} (r : RpL K G H vs ds F) (s : Stp G H P G' H' P') (hd : ∀ a ∈ F, ¬ P a) : RpL K G' H' vs ds F ∧ ∀ a ∈ F, ¬ P' a := by
  have hf := RpL.foot ds r
  refine ⟨r.mov s.g _ fun a ha o hg ho => ⟨s.n a o ho hg (hd a ha), s.h a o ho (hd a ha)⟩, fun a ha q => ?_⟩
  rcases s.f a q with z | z
  · exact hd a ha z
  · obtain ⟨_, o, ho⟩ := hf a ha
    rw [z] at ho; cases ho
end
end DL
/-! DL20: slots that are parts of what other slots hold. -/
namespace DL
open PySem L2
/-- a part of a value anew -/
def D.put : D → List Nat → D → D
  | _, [], e => e
  | .p v, _ :: _, _ => .p v
  | .n o k ch, i :: q, e => .n o k (match ch[i]? with
    | some c => ch.set i (D.put c q e)
    | none => ch)
section
variable {K : PySem.W.Frag} {G H H' : Hp}
theorem RpL.focus : ∀ {vs : List V} {ds : List D} {F : List Addr} {i : Nat} {c : D} {z : V}, RpL K G H vs ds F → ds[i]? = some c → vs[i]? = some z →
    ∃ Fi, Rp K G H z c Fi ∧ (∀ a ∈ Fi, a ∈ F) ∧ ∀ (H' : Hp) (c' : D) (Fi' : List Addr), (∀ b o, b ∈ F → b ∉ Fi → H b = some o → H' b = some o) → Rp K G H' z c' Fi' → (∀ b ∈ Fi', b ∈ Fi ∨ b ∉ F) → ∃ F2, RpL K G H' vs (ds.set i c') F2 ∧ (∀ b ∈ F2, (b ∈ F ∧ b ∉ Fi) ∨ b ∈ Fi') ∧ ∀ b ∈ Fi', b ∈ F2
  | _, [], _, i, c, z, h, e, _ => by simp at e
  | _, d :: ds, _, 0, c, z, h, e, ez => by
    obtain ⟨v, vs', F1, F2, rfl, rfl, h1, h2, h3⟩ := h.uncons
    simp only [List.getElem?_cons_zero, Option.some.injEq] at e ez
    subst e ez
    refine ⟨F1, h1, fun a ha => List.mem_append_left _ ha, fun H' c' Fi' hh r hd => ?_⟩
    rw [List.set_cons_zero]
    have h2' : RpL K G H' vs' ds F2 := h2.mov (fun _ _ z => z) _ fun a ha o hg ho => ⟨hg, hh a o (List.mem_append_right _ ha) (fun z => h3 a z ha) ho⟩
    refine ⟨Fi' ++ F2, .cons r h2' fun a ha hb => ?_, fun b hb => ?_, fun b hb => List.mem_append_left _ hb⟩
    · rcases hd a ha with z | z
      · exact h3 a z hb
      · exact z (List.mem_append_right _ hb)
    · rcases List.mem_append.mp hb with z | z
      · exact .inr z
      · exact .inl ⟨List.mem_append_right _ z, fun y => h3 b y z⟩
  | _, d :: ds, _, i + 1, c, z, h, e, ez => by
    obtain ⟨v, vs', F1, F2, rfl, rfl, h1, h2, h3⟩ := h.uncons
    rw [List.getElem?_cons_succ] at e ez
    obtain ⟨Fi, g1, g2, g3⟩ := RpL.focus h2 e ez
    refine ⟨Fi, g1, fun a ha => List.mem_append_right _ (g2 a ha), fun H' c' Fi' hh r hd => ?_⟩
    rw [List.set_cons_succ]
    obtain ⟨F3, k1, k2, k3⟩ := g3 H' c' Fi' (fun b o hb => hh b o (List.mem_append_right _ hb)) r fun b hb => (hd b hb).imp id fun z y => z (List.mem_append_right _ y)
    have h1' : Rp K G H' v d F1 := h1.mov (fun _ _ z => z) _ fun a ha o hg ho => ⟨hg, hh a o (List.mem_append_left _ ha) (fun z => h3 a ha (g2 a z)) ho⟩
    refine ⟨F1 ++ F3, .cons h1' k1 fun a ha hb => ?_, fun b hb => ?_, fun b hb => List.mem_append_right _ (k3 b hb)⟩
    · rcases k2 a hb with z | z
      · exact h3 a ha z.1
      · rcases hd a z with y | y
        · exact h3 a ha (g2 a y)
        · exact y (List.mem_append_left _ ha)
    · rcases List.mem_append.mp hb with z | z
      · exact .inl ⟨List.mem_append_left _ z, fun y => h3 b z (g2 b y)⟩
      · exact (k2 b z).imp (fun y => ⟨List.mem_append_right _ y.1, y.2⟩) id
theorem Rp.focus {P : Addr → Prop} : ∀ {q : List Nat} {x y : V} {d : D} {k : Kd} {ch : List D} {F : List Addr}, Rp K G H x d F → d.at q = some (.n true k ch) → PathV K H P x q y →
    ∃ a vs Fc, y = .ref a ∧ a ∈ F ∧ G a = none ∧ NdO K H a k vs ∧ a ∉ Fc ∧ RpL K G H vs ch Fc ∧ (∀ b ∈ Fc, b ∈ F) ∧
      ∀ (H' : Hp) (k' : Kd) (vs' : List V) (ch' : List D) (F' : List Addr), (∀ b o, b ∈ F → b ≠ a → b ∉ Fc → H b = some o → H' b = some o) → NdO K H' a k' vs' → RpL K G H' vs' ch' F' → (∀ b ∈ F', b ≠ a ∧ (b ∈ Fc ∨ b ∉ F)) →
        ∃ F2, Rp K G H' x (d.put q (.n true k' ch')) F2 ∧ (∀ b ∈ F2, (b ∈ F ∧ b ∉ Fc) ∨ b ∈ F') ∧ (∀ b ∈ F', b ∈ F2) ∧ a ∈ F2 ∧ PathV K H' (fun b => b ∈ F2) x q y
  | [], x, y, d, k, ch, F, r, e, h => by
    have e1 : d = .n true k ch := by
      cases d with
      | p v => simp [D.at] at e
      | n o k0 ch0 => cases o <;> simpa [D.at] using e
    subst e1
    have e2 : x = y := h
    subst e2
    cases r with
    | @o a _ vs _ Fc h0 h1 h3 h2 =>
      refine ⟨a, vs, Fc, rfl, List.mem_cons_self .., h0, h1, h3, h2, fun b hb => List.mem_cons_of_mem _ hb, fun H' k' vs' ch' F' hh hn hr hd => ?_⟩
      refine ⟨a :: F', Rp.o h0 hn (fun z => (hd a z).1 rfl) hr, fun b hb => ?_, fun b hb => List.mem_cons_of_mem _ hb, List.mem_cons_self .., rfl⟩
      rcases List.mem_cons.mp hb with z | z
      · exact .inl ⟨z ▸ List.mem_cons_self .., fun y => h3 (z ▸ y)⟩
      · exact .inr z
  | i :: q, x, y, .p v, k, ch, F, r, e, h => by simp [D.at] at e
  | i :: q, x, y, .n false k0 ch0, k, ch, F, r, e, h => by simp [D.at] at e
  | i :: q, x, y, .n true k0 ch0, k, ch, F, r, e, h => by
    cases r with
    | @o a0 _ vs0 _ F0 h0 h1 h3 h2 =>
      simp only [D.at] at e
      obtain ⟨a', k', vs', z, e1, _, n1, g1, p1⟩ := h
      injection e1 with e1
      subst e1
      have ev := NdO.inj n1 h1
      subst ev
      cases ec : ch0[i]? with
      | none => rw [ec] at e; cases e
      | some c =>
        rw [ec] at e
        obtain ⟨Fi, q1, q2, q3⟩ := RpL.focus h2 ec g1
        obtain ⟨a, vs, Fc, rfl, ha, hg, hn, hac, hrl, hfc, step⟩ := Rp.focus q1 e p1
        have aF : a ∈ F0 := q2 a ha
        have ne0 : a0 ≠ a := fun z => h3 (z ▸ aF)
        refine ⟨a, vs, Fc, rfl, List.mem_cons_of_mem _ aF, hg, hn, hac, hrl, fun b hb => List.mem_cons_of_mem _ (q2 b (hfc b hb)), fun H' k2 vs2 ch2 F' hh hn2 hr2 hd2 => ?_⟩
        obtain ⟨F2, r2, i2, j2, a2, p2⟩ := step H' k2 vs2 ch2 F' (fun b o hb => hh b o (List.mem_cons_of_mem _ (q2 b hb))) hn2 hr2 fun b hb => ⟨(hd2 b hb).1, (hd2 b hb).2.imp id fun z y => z (List.mem_cons_of_mem _ (q2 b y))⟩
        have dF2 : ∀ b ∈ F2, b ∈ Fi ∨ b ∉ F0 := fun b hb => by
          rcases i2 b hb with z | z
          · exact .inl z.1
          · rcases (hd2 b z).2 with y | y
            · exact .inl (hfc b y)
            · exact .inr fun w => y (List.mem_cons_of_mem _ w)
        obtain ⟨F3, r3, i3, j3⟩ := q3 H' _ F2 (fun b o hb hn => hh b o (List.mem_cons_of_mem _ hb) (fun z => hn (z ▸ ha)) fun z => hn (hfc b z)) r2 dF2
        have e0 : ∀ o, H a0 = some o → H' a0 = some o := fun o ho => hh a0 o (List.mem_cons_self ..) ne0 (fun z => h3 (q2 a0 (hfc a0 z))) ho
        have n0 : NdO K H' a0 k0 _ := h1.keep e0
        have n1' : NdO K H' a0 k' _ := n1.keep e0
        have hn0 : a0 ∉ F3 := fun z => by
          rcases i3 a0 z with y | y
          · exact h3 y.1
          · rcases i2 a0 y with w | w
            · exact h3 (q2 a0 w.1)
            · rcases (hd2 a0 w).2 with v | v
              · exact h3 (q2 a0 (hfc a0 v))
              · exact v (List.mem_cons_self ..)
        have ep : (D.n true k0 ch0).put (i :: q) (.n true k2 ch2) = .n true k0 (ch0.set i (c.put q (.n true k2 ch2))) := by
          simp only [D.put, ec]
        rw [ep]
        refine ⟨a0 :: F3, Rp.o h0 n0 hn0 r3, fun b hb => ?_, fun b hb => List.mem_cons_of_mem _ (j3 b (j2 b hb)), List.mem_cons_of_mem _ (j3 a a2), ⟨a0, k', _, z, rfl, List.mem_cons_self .., n1', g1, p2.mono (fun _ _ _ z => z) fun b hb => List.mem_cons_of_mem _ (j3 b hb)⟩⟩
        rcases List.mem_cons.mp hb with w | w
        · exact .inl ⟨w ▸ List.mem_cons_self .., fun z => h3 (q2 a0 (hfc a0 (w ▸ z)))⟩
        · rcases i3 b w with y | y
          · exact .inl ⟨List.mem_cons_of_mem _ y.1, fun z => y.2 (hfc b z)⟩
          · exact (i2 b y).imp (fun v => ⟨List.mem_cons_of_mem _ (q2 b v.1), v.2⟩) id
end

section
variable {K : PySem.W.Frag} {pv : Nat → V} {σ : St} {ρ : Env} {G H H' : Hp} {fp : Fps}
/-- what stands in a slot is changed within -/
theorem Mt.mutG {i : Nat} {s : Sl} {x : V} {d d' : D} {F2 : List Addr} (m : Mt K pv σ ρ G H fp) (hi : ρ[i]? = some s) (hs : s.d? = some d) (hσ : σ[i]? = some (some x))
    (hh : ∀ b o, b ∉ fp i → H b = some o → H' b = some o) (r : Rp K G H' x d' F2) (hd : ∀ b ∈ F2, b ∈ fp i ∨ ¬ InF fp b) :
    Mt K pv σ ((killB i ρ).set i (s.re d')) G H' (updF fp i F2) := by
  have hl : i < ρ.length := (List.getElem?_eq_some_iff.mp hi).1
  have hl' : i < (killB i ρ).length := by rw [killB_len]; exact hl
  have other : ∀ j, j ≠ i → ∀ b ∈ fp j, b ∉ fp i := fun j hj b hb => m.ap j i hj b hb
  have gk : ∀ {j : Nat} {s0 s' : Sl}, j ≠ i → ((killB i ρ).set i s0)[j]? = some s' → s' ≠ .un → ρ[j]? = some s' ∧ ∀ q, s' ≠ .b i q := fun {j s0 s'} hj h hn => by
    rw [List.getElem?_set_ne (Ne.symm hj)] at h
    exact killB_of h hn
  have up : ∀ {x : V} {d : D} {F0 : List Addr}, Rp K G H x d F0 → (∀ b ∈ F0, b ∉ fp i) → Rp K G H' x d F0 := fun r h => r.mov (fun _ _ z => z) _ fun b hb o hg ho => ⟨hg, hh b o (h b hb) ho⟩
  have dF : ∀ b ∈ F2, ∀ j, j ≠ i → b ∉ fp j := fun b hb j hj z => by
    rcases hd b hb with y | y
    · exact m.ap i j (Ne.symm hj) b y z
    · exact y ⟨j, z⟩
  refine ⟨fun b o z => ?_, by rw [List.length_set, killB_len]; exact m.len, fun j d' h => ?_, fun j d' h => ?_, fun j l q h => ?_, fun j l hjl b hb => ?_, fun j b hb => ?_⟩
  · exact hh b o (fun y => by rw [(m.ft i b y).1] at z; cases z) (m.sub b o z)
  · by_cases hj : j = i
    · subst hj
      rw [List.getElem?_set_self hl'] at h
      cases s with
      | un => cases hs
      | b _ _ => cases hs
      | v _ => cases h; exact ⟨_, hσ, by rw [updF_same]; exact r⟩
      | w _ => cases h
    · obtain ⟨x, h1, h2⟩ := m.sl j d' (gk hj h (by intro z; cases z)).1
      exact ⟨x, h1, by rw [updF_ne hj]; exact up h2 (other j hj)⟩
  · by_cases hj : j = i
    · subst hj
      rw [List.getElem?_set_self hl'] at h
      cases s with
      | un => cases hs
      | b _ _ => cases hs
      | v _ => cases h
      | w d0 =>
        cases h
        have e := (m.pn j d0 hi).1
        rw [hσ] at e
        have e' : x = pv j := Option.some.inj (Option.some.inj e)
        exact ⟨by rw [← e']; exact hσ, by rw [updF_same, ← e']; exact r⟩
    · obtain ⟨h1, h2⟩ := m.pn j d' (gk hj h (by intro z; cases z)).1
      exact ⟨h1, by rw [updF_ne hj]; exact up h2 (other j hj)⟩
  · by_cases hj : j = i
    · subst hj
      rw [List.getElem?_set_self hl'] at h
      cases s with
      | un => cases hs
      | b _ _ => cases hs
      | v _ => cases h
      | w _ => cases h
    · obtain ⟨g1, g2⟩ := gk hj h (by intro z; cases z)
      obtain ⟨x, y, h1, h2, h3⟩ := m.br j l q g1
      have hk : l ≠ i := fun z => g2 q (by rw [z])
      refine ⟨x, y, h1, h2, ?_⟩
      rw [updF_ne hk]
      exact h3.mono (fun b o hb z => hh b o (other l hk b hb) z) fun _ z => z
  · by_cases hj : j = i
    · subst hj
      rw [updF_same] at hb
      rw [updF_ne (Ne.symm hjl)]
      exact dF b hb l (Ne.symm hjl)
    · rw [updF_ne hj] at hb
      by_cases hk : l = i
      · subst hk
        rw [updF_same]
        exact fun z => dF b z j hj hb
      · rw [updF_ne hk]; exact m.ap j l hjl b hb
  · by_cases hj : j = i
    · subst hj
      rw [updF_same] at hb
      exact Rp.foot _ r b hb
    · rw [updF_ne hj] at hb
      obtain ⟨h1, o, h2⟩ := m.ft j b hb
      exact ⟨h1, o, hh b o (other j hj b hb) h2⟩
/-- a slot known as a part of what another one holds -/
theorem Mt.setB {i j : Nat} {q : List Nat} {x y : V} (m : Mt K pv σ ρ G H fp) (hi : i < ρ.length) (hx : σ[j]? = some (some x)) (hy : σ[i]? = some (some y)) (h : PathV K H (fun a => a ∈ fp j) x q y) : Mt K pv σ (ρ.set i (.b j q)) G H fp := by
  refine ⟨m.sub, by rw [List.length_set]; exact m.len, fun k d e => ?_, fun k d e => ?_, fun k l q' e => ?_, m.ap, m.ft⟩
  · by_cases hk : k = i
    · subst hk; rw [List.getElem?_set_self hi] at e; cases e
    · rw [List.getElem?_set_ne (Ne.symm hk)] at e; exact m.sl k d e
  · by_cases hk : k = i
    · subst hk; rw [List.getElem?_set_self hi] at e; cases e
    · rw [List.getElem?_set_ne (Ne.symm hk)] at e; exact m.pn k d e
  · by_cases hk : k = i
    · subst hk
      rw [List.getElem?_set_self hi] at e
      cases e
      exact ⟨x, y, hx, hy, h⟩
    · rw [List.getElem?_set_ne (Ne.symm hk)] at e; exact m.br k l q' e
end
section
variable {X : Cx} {cn : String → Addr} {E : WX} {pos apos cpos : Pos} {i j : Nat}
/-- x = y[e]: x stands for a part of what slot j holds -/
def dBor (i j : Nat) (te : DE) : DS := fun D ρ => (∃ s d, ρ[j]? = some s ∧ s.d? = some d) ∧ te ρ (fun r ρ1 => ∃ n s ch m k' ch', look ρ1 r = some (.p (.int n)) ∧ ρ1[j]? = some s ∧ s.d? = some (.n true .lst ch) ∧ ixN ch.length n = some m ∧ ch[m]? = some (.n true k' ch') ∧ okV ρ1 i = true ∧
  D.nx ((killB i ρ1).set i (.b j [m]))) D.ex
theorem okV_lt {ρ : Env} (h : okV ρ i = true) : i < ρ.length := by
  unfold okV at h
  split at h <;> first | (rename_i e; exact (List.getElem?_eq_some_iff.mp e).1) | cases h
/-- x.m(e, ..): x in slot i, a part of what another one holds -/
def dMutB (T : String) (i : Nat) (r : OpM) (t : DA) : DE := fun ρ Q E => (∃ d, slD ρ i = some d ∧ tyM d = T ∧ (T = "list" ∨ T = "dict")) ∧ t ρ (fun rs ρ1 => ∃ es ρ2 j q s root k ch, tkL ρ1 rs = some (es, ρ2) ∧ ρ2[i]? = some (Sl.b j q) ∧ ρ2[j]? = some s ∧ s.d? = some root ∧ root.at q = some (.n true k ch) ∧
  r k ch es fun k' ch' res => Q (.t res) (((killB j ρ2).set j (s.re (root.put q (.n true k' ch')))).set i (.b j q))) E
theorem mutB_go {K : PySem.W.Frag} {pv : Nat → V} {σ γ : St} {ρ1 : Env} {G H G1 H1 : Hp} {fp fp1 : Fps} {F1 : List Addr} {Q0 : Rv → Env → Prop} {Q : VK} {r : OpM} {rr : V → List V → Hp → VK → Prop} {rs : List Rv} {vs : List V} {y : V} (hs : SemM K rr r) (hy : (σ ++ γ)[i]? = some (some y))
    (po : PoE K pv σ γ G H fp Q0 Q) (s1 : Stp G H (InF fp) G1 H1 (fun a => InF fp1 a ∨ a ∈ F1)) (m1 : Mt K pv (σ ++ γ) ρ1 G1 H1 fp1) (o1 : RvsOk K (σ ++ γ) G1 H1 (InF fp1) vs rs F1)
    (q : ∃ es ρ2 j q s root k ch, tkL ρ1 rs = some (es, ρ2) ∧ ρ2[i]? = some (Sl.b j q) ∧ ρ2[j]? = some s ∧ s.d? = some root ∧ root.at q = some (.n true k ch) ∧ r k ch es fun k' ch' res => Q0 (.t res) (((killB j ρ2).set j (s.re (root.put q (.n true k' ch')))).set i (.b j q))) : rr y vs H1 Q := by
  obtain ⟨es, ρ2, j, pq, s, root, k, ch, e1, hi, hj, hd, hat, q⟩ := q
  obtain ⟨G2, fp2, s2, m2, r2, i2⟩ := tkL_ok m1 o1 (fun _ z => z) e1
  obtain ⟨x, h1, h2⟩ := m2.at hj hd
  obtain ⟨x', y', g1, g2, g3⟩ := m2.br i j pq hi
  rw [h1] at g1
  cases g1
  rw [hy] at g2
  cases g2
  have hji : j ≠ i := fun z => by
    subst z
    rw [hi] at hj
    cases hj
    cases hd
  have dW : ∀ b ∈ F1, ¬ InF fp2 b := fun b hb z => RvsOk.foot o1 b hb (i2 b z)
  obtain ⟨a, us, Fc, rfl, ha, hg, hn, hac, hrl, hfc, step⟩ := Rp.focus h2 hat g3
  have hai : InF fp2 a := ⟨j, ha⟩
  have hFi : ∀ b ∈ Fc, InF fp2 b := fun b hb => ⟨j, hfc b hb⟩
  refine hs G2 H1 a k us ch Fc vs es F1 _ Q m2.sub hg hn hrl hac r2 (fun b hb => ⟨fun z => dW b hb (hFi b z), fun z => dW b hb (by rw [z]; exact hai)⟩) q ?_
  intro k' ch' res vs' w o' F' Fr q' n' r' rr' d' dr
  have dF' : ∀ b ∈ F', b ≠ a := fun b hb z => by
    rcases d' b hb with y | y
    · exact hac (by rw [← z]; exact y)
    · exact dW b y (by rw [z]; exact hai)
  have r'' : RpL K G2 (L2.upd H1 a o') vs' ch' F' := r'.mov (fun _ _ z => z) _ fun b hb o hg ho => ⟨hg, by rw [upd_ne (dF' b hb)]; exact ho⟩
  obtain ⟨F2, t1, t2, t3, t4, t5⟩ := step (L2.upd H1 a o') k' vs' ch' F' (fun b o _ hne _ ho => by rw [upd_ne hne]; exact ho) n' r'' fun b hb => ⟨dF' b hb, (d' b hb).imp id fun z y => dW b z ⟨j, y⟩⟩
  have dF2 : ∀ b ∈ F2, b ∈ fp2 j ∨ ¬ InF fp2 b := fun b hb => by
    rcases t2 b hb with z | z
    · exact .inl z.1
    · rcases d' b z with y | y
      · exact .inl (hfc b y)
      · exact .inr (dW b y)
  have m3 := m2.mutG (H' := L2.upd H1 a o') (d' := root.put pq (.n true k' ch')) hj hd h1 (fun b o hb ho => by rw [upd_ne fun z => hb (by rw [z]; exact ha)]; exact ho) t1 dF2
  have hlen : i < ρ2.length := (List.getElem?_eq_some_iff.mp hi).1
  have m4 := m3.setB (i := i) (j := j) (q := pq) (by rw [List.length_set, killB_len]; exact hlen) h1 hy (by rw [updF_same]; exact t5)
  have dr' : ∀ b ∈ Fr, b ≠ a := fun b hb z => by
    rcases (dr b hb).1 with y | y
    · exact hac (by rw [← z]; exact y)
    · exact dW b y (by rw [z]; exact hai)
  refine po (.t res) _ w G2 (L2.upd H1 a o') _ Fr q' ?_ m4 ⟨rr'.mov (fun _ _ z => z) _ fun b hb o hg ho => ⟨hg, by rw [upd_ne (dr' b hb)]; exact ho⟩, fun b hb z => ?_⟩
  · refine (s1.trans (s2.mono (P' := InF fp2) (Q' := fun a => InF fp2 a ∨ a ∈ F1) (fun _ z => .inl z) fun a z => z.elim .inl fun z => .inr (.inr z))).trans
      ⟨fun _ _ z => z, fun b o z n => by rw [upd_ne fun y => n (by rw [y]; exact .inl hai)]; exact z, fun _ _ _ z _ => z, fun b z => .inl ?_⟩
    rcases z with z | z
    · rcases InF.updF z with z | z
      · exact .inl z
      · rcases t2 b z with y | y
        · exact .inl ⟨j, y.1⟩
        · exact (d' b y).imp (hFi b) id
    · exact (dr b z).1.imp (hFi b) id
  · rcases dr b hb with ⟨y, ny⟩
    obtain ⟨l, hl⟩ := z
    by_cases e : l = j
    · subst e
      rw [updF_same] at hl
      rcases t2 b hl with u | u
      · rcases y with y | y
        · exact u.2 y
        · exact dW b y ⟨l, u.1⟩
      · exact ny u
    · rw [updF_ne e] at hl
      rcases y with y | y
      · exact m2.ap l j e b hl (hfc b y)
      · exact dW b y ⟨l, hl⟩
theorem slD_ty {K : PySem.W.Frag} {pv : Nat → V} {σ : St} {ρ : Env} {G H : Hp} {fp : Fps} {T : String} {d : DL.D} (m : Mt K pv σ ρ G H fp) (h : slD ρ i = some d) (h1 : tyM d = T) (h2 : T = "list" ∨ T = "dict") : ∃ v, σ[i]? = some (some v) ∧ tyV K T v H := by
  obtain ⟨v, F0, g1, g2, _⟩ := sl_ok m h
  exact ⟨v, g1, tyV_of m.sub g2 h1 h2⟩
theorem je_mutB {e : Expr} {t : DA} {T : String} {r : OpM} {rr : V → List V → Hp → VK → Prop} (hs : SemM X.K rr r) (hi : i < X.N.length) (h : PE X e (tBM X.K T rr (tVar i) (liftA X.K cn E t))) : JE X cn E e (dMutB T i r t) := by
  refine ⟨fun pins sh σ H Q I ⟨pv, γ, ρ, G, fp, Q0, E0, m, ⟨⟨d, e2, e3, e4⟩, q⟩, po, px⟩ => ?_⟩
  obtain ⟨x, h1, h2⟩ := slD_ty m e2 e3 e4
  have hl : i < σ.length := by rw [I.len]; exact hi
  exact h.run pins sh σ H Q I ⟨x, get_left hl h1, h2, pv, γ, ρ, G, fp, _, E0, m, q, fun rs ρ1 vs G1 H1 fp1 F1 q1 s1 m1 o1 => mutB_go hs h1 po s1 m1 o1 q1, px⟩
/-! ### x[e] = .. as a target -/
/-- what is stored within slot n: itself, or where it is a part of another one -/
def mutK (n : Nat) (r : OpM) (rs : List Rv) (ρ : Env) (Q : Env → Prop) : Prop :=
  (∃ es ρ2 s k ch, tkL ρ rs = some (es, ρ2) ∧ ρ2[n]? = some s ∧ s.d? = some (.n true k ch) ∧ r k ch es fun k' ch' _ => Q ((killB n ρ2).set n (s.re (.n true k' ch')))) ∨
  ∃ es ρ2 j q s root k ch, tkL ρ rs = some (es, ρ2) ∧ ρ2[n]? = some (Sl.b j q) ∧ ρ2[j]? = some s ∧ s.d? = some root ∧ root.at q = some (.n true k ch) ∧ r k ch es fun k' ch' _ => Q (((killB j ρ2).set j (s.re (root.put q (.n true k' ch')))).set n (.b j q))
def dGSub (T : String) (n : Nat) (r : OpM) (ti : DE) : DG := fun x ρ Q => (∃ d, slD ρ n = some d ∧ tyM d = T ∧ (T = "list" ∨ T = "dict")) ∧ ti ρ (fun y ρ1 => mutK n r [y, x] ρ1 Q) (fun _ _ => False)
end
end DL
/-! DL21: targets that are tuples; what is never reached. -/
namespace DL
open PySem L2
abbrev DGs := List D → Env → (Env → Prop) → Prop
def dGNil : DGs := fun ds ρ Q => ds = [] ∧ Q ρ
def dGCons (g : DG) (gs : DGs) : DGs := fun ds ρ Q => match ds with
  | d :: ds => g (.t d) ρ fun ρ1 => gs ds ρ1 Q
  | [] => False
def dGTup (n : Nat) (gs : DGs) : DG := fun r ρ Q => ∃ d ρ1 ch, tkF ρ r = some (d, ρ1) ∧ itemsOf d = some ch ∧ ch.length = n ∧ gs ch ρ1 Q
def liftGs (K : PySem.W.Frag) (S : List Nat) (gs : DGs) : TGs := fun vs σ H Q => ∃ pv γ ρ G fp ds N0, Mt K pv (σ ++ γ) ρ G H fp ∧ RpL K G H vs ds [] ∧ gs ds ρ N0 ∧
  ∀ ρ' σ' G' H' fp', N0 ρ' → Stp G H (InF fp) G' H' (InF fp') → Mt K pv (σ' ++ γ) ρ' G' H' fp' → σ'.length = σ.length → (∀ i, i ∉ S → σ'[i]? = σ[i]?) → Q σ' H'
abbrev JGs (X : Cx) (S : List Nat) (es : List Expr) (gs : DGs) : Prop := PGs X es (liftGs X.K S gs)
section
variable {X : Cx} {cn : String → Addr} {E : WX} {pos : Pos} {S S' : List Nat} {e : Expr} {es : List Expr} {g : DG} {gs : DGs}
theorem pgs_imp {t t' : TGs} (h : PGs X es t) (i : ∀ vs σ H Q, t' vs σ H Q → t vs σ H Q) : PGs X es t' := ⟨fun pins s σ H vs us Q I r q => h.run pins s σ H vs us Q I r (i vs σ H Q q)⟩
theorem jg_mono (h : JG X S e g) (hs : ∀ i ∈ S, i ∈ S') : JG X S' e g := pg_imp h fun v σ H Q ⟨pv, γ, ρ, G, fp, r, F, N0, m, o, q, po⟩ =>
  ⟨pv, γ, ρ, G, fp, r, F, N0, m, o, q, fun ρ' σ' G' H' fp' a b c d e => po ρ' σ' G' H' fp' a b c d fun i hi => e i fun z => hi (hs i z)⟩
theorem jgs_nil : JGs X S [] dGNil := pgs_imp pgs_nil fun vs σ H Q ⟨pv, γ, ρ, G, fp, ds, N0, m, o, ⟨e, q⟩, po⟩ => by
  subst e
  exact ⟨RpL.nil2 o, po ρ σ G H fp q (Stp.refl _ _ _) m rfl fun _ _ => rfl⟩
theorem jgs_cons (h1 : JG X S e g) (h2 : JGs X S es gs) (hs : (assignEach (e :: es) X.env).map (·.2) = assign e X.env :: (assignEach es X.env).map (·.2) := by rfl) : JGs X S (e :: es) (dGCons g gs) := by
  refine pgs_imp (pgs_cons h1 h2 hs) ?_
  rintro vs σ H Q ⟨pv, γ, ρ, G, fp, ds, N0, m, o, q, po⟩
  cases ds with
  | nil => exact q.elim
  | cons d ds =>
    obtain ⟨x, xs, rfl, r1, r2⟩ := RpL.cons2 o
    refine ⟨x, xs, rfl, pv, γ, ρ, G, fp, .t d, [], _, m, ⟨r1, fun a z => by cases z⟩, q, fun ρ1 σ1 G1 H1 fp1 q1 s1 m1 l1 k1 => ?_⟩
    have s1' : Stp G H (InF fp) G1 H1 (InF fp1) := s1.mono (fun a z => z.elim id fun z => by cases z) fun _ z => .inl z
    refine ⟨pv, γ, ρ1, G1, fp1, ds, N0, m1, r2.mov s1.g _ (fun a z => by cases z), q1, fun ρ2 σ2 G2 H2 fp2 q2 s2 m2 l2 k2 => po ρ2 σ2 G2 H2 fp2 q2 (s1'.trans s2) m2 (l2.trans l1) fun i hi => (k2 i hi).trans (k1 i hi)⟩
theorem pg_alt {t t' : TG} (h : PG X e t) (h' : PG X e t') : PG X e (fun v σ H Q => t v σ H Q ∨ t' v σ H Q) := ⟨fun pins s σ H v u Q I r q => q.elim (h.run pins s σ H v u Q I r) (h'.run pins s σ H v u Q I r)⟩
theorem jg_tup {k n : Nat} (hc : X.calm = true) (h : JGs X S es gs) (hn : (assignEach es X.env).length = n := by rfl) (hst : (assignEach es X.env).findIdx? (·.1) = none := by rfl) : JG X S (.Tuple es k pos) (dGTup n gs) := by
  refine pg_imp (pg_alt (pg_tup hc h hn hst) (pg_lst hc h hn hst)) ?_
  rintro v σ H Q ⟨pv, γ, ρ, G, fp, r, F, N0, m, o, ⟨d, ρ1, ch, e1, e2, e3, q⟩, po⟩
  obtain ⟨G2, fp2, s2, m2, r2, i2⟩ := tkF_ok m o (fun _ z => z) e1
  have lift : ∀ vs, RpL X.K G2 H vs ch [] → liftGs X.K S gs vs σ H Q := fun vs hr => ⟨pv, γ, ρ1, G2, fp2, ch, N0, m2, hr, q, fun ρ' σ' G' H' fp' q' s' m' l' k' => po ρ' σ' G' H' fp' q' (s2.trans s') m' l' k'⟩
  cases r2 with
  | p _ => simp only [itemsOf] at e2; cases e2
  | @f a kd vs ch' _ h1 h2 =>
    have hl := h2.len
    cases kd with
    | lst => simp only [itemsOf, Option.some.injEq] at e2; subst e2; exact .inr ⟨a, vs, rfl, .inl (.inl (m2.sub _ _ h1)), by omega, lift vs h2⟩
    | lok => simp only [itemsOf, Option.some.injEq] at e2; subst e2; exact .inr ⟨a, vs, rfl, SqL.mono m2.sub h1, by omega, lift vs h2⟩
    | tup => simp only [itemsOf, Option.some.injEq] at e2; subst e2; exact .inl ⟨a, vs, rfl, .inl (.inl (m2.sub _ _ h1)), by omega, lift vs h2⟩
    | tok => simp only [itemsOf, Option.some.injEq] at e2; subst e2; exact .inl ⟨a, vs, rfl, SqT.mono m2.sub (KnT.sqt h1), by omega, lift vs h2⟩
    | dic _ => simp only [itemsOf] at e2; cases e2
    | dit _ => simp only [itemsOf] at e2; cases e2
    | obj _ _ => simp only [itemsOf] at e2; cases e2
    | exc _ _ => simp only [itemsOf] at e2; cases e2
/-! ### list(d.items()) -/
def keyOf : List Key → List D → List D
  | k :: ks, d :: ds => .n false .tup [keyE k, d] :: keyOf ks ds
  | _, _ => []
def dListItems (te : DE) : DE := fun ρ Q E => te ρ (fun r ρ1 => ∃ o ks ch, look ρ1 r = some (.n o (.dic ks) ch) ∧ isFzL ch = true ∧ Q (.t (.n true .lst (keyOf ks ch))) ρ1) E
end
end DL
/-! DL22: running: dicts, what is written, loops that forget, targets. -/
namespace DL
open PySem L2
open Enc (en)
/-! ### dicts of plain things -/
class KeyE (κ : Type) [Enc κ] where
  key : κ → Key
  inj : ∀ a b, key a = key b → a = b
  kd : ∀ a, keyD (en a) = some (key a)
instance : KeyE Int := ⟨.inl, fun _ _ h => by injection h, fun _ => rfl⟩
instance : KeyE Str := ⟨.inr, fun _ _ h => by injection h, fun _ => rfl⟩
section
variable {κ β : Type} [DecidableEq κ]
def aget : List (κ × β) → κ → Option β
  | [], _ => none
  | p :: r, k => if p.1 = k then some p.2 else aget r k
def aput (kv : List (κ × β)) (k : κ) (v : β) : List (κ × β) := if k ∈ kv.map (·.1) then kv.map fun p => (p.1, if p.1 = k then v else p.2) else kv ++ [(k, v)]
def adel (kv : List (κ × β)) (k : κ) : List (κ × β) := kv.filter fun p => decide (p.1 ≠ k)
theorem aget_none {kv : List (κ × β)} {k : κ} : aget kv k = none ↔ k ∉ kv.map (·.1) := by
  induction kv with
  | nil => simp [aget]
  | cons p r ih =>
    by_cases h : p.1 = k
    · simp [aget, h]
    · simp only [aget, h, if_false, ih, List.map_cons, List.mem_cons, not_or]
      exact ⟨fun z => ⟨fun y => h y.symm, z⟩, fun z => z.2⟩
theorem aget_app (kv kv' : List (κ × β)) (k : κ) : aget (kv ++ kv') k = (aget kv k).or (aget kv' k) := by
  induction kv with
  | nil => simp [aget]
  | cons p r ih =>
    by_cases e : p.1 = k
    · simp [aget, e]
    · simp [aget, e, ih]
theorem aget_put (kv : List (κ × β)) (k j : κ) (v : β) : aget (aput kv k v) j = if j = k then some v else aget kv j := by
  unfold aput
  by_cases hk : k ∈ kv.map (·.1)
  · simp only [hk, if_true]
    induction kv with
    | nil => simp at hk
    | cons p r ih =>
      rw [List.map_cons]
      by_cases e : p.1 = j
      · subst e
        by_cases e2 : p.1 = k
        · simp [aget, e2]
        · simp [aget, e2]
      · simp only [aget, e, if_false]
        by_cases hr : k ∈ r.map (·.1)
        · exact ih hr
        · have hpk : p.1 = k := by
            rcases List.mem_cons.mp hk with z | z
            · exact z.symm
            · exact absurd z hr
          have hj : j ≠ k := fun z => e (by rw [z, hpk])
          simp only [hj, if_false]
          have : (r.map fun p => (p.1, if p.1 = k then v else p.2)) = r := by
            have : ∀ q ∈ r, (fun p : κ × β => (p.1, if p.1 = k then v else p.2)) q = q := fun q hq => by
              have : q.1 ≠ k := fun z => hr (List.mem_map.mpr ⟨q, hq, z⟩)
              simp [this]
            rw [List.map_congr_left this, List.map_id']
          rw [this]
  · simp only [hk, if_false, aget_app]
    by_cases e : j = k
    · subst e
      rw [aget_none.mpr hk]
      simp [aget]
    · simp [aget, Ne.symm e, e]
end
section
variable {κ β : Type} [DecidableEq κ] [Enc κ] [KeyE κ] [Enc β]
/-- a dict -/
abbrev dE (o : Bool) (kv : List (κ × β)) : D := .n o (.dic (kv.map fun p => KeyE.key p.1)) (kv.map fun p => en p.2)
theorem key_eq {a b : κ} : KeyE.key a = KeyE.key b ↔ a = b := ⟨KeyE.inj a b, fun h => by rw [h]⟩
theorem lookK_e (kv : List (κ × β)) (k : κ) : lookK (kv.map fun p => KeyE.key p.1) (kv.map fun p => (en p.2 : D)) (KeyE.key k) = (aget kv k).map en := by
  induction kv with
  | nil => rfl
  | cons p r ih =>
    rw [List.map_cons, List.map_cons, lookK, aget, ih]
    by_cases e : p.1 = k
    · simp [e]
    · simp [e, key_eq]
theorem mem_key {kv : List (κ × β)} {k : κ} : KeyE.key k ∈ (kv.map fun p => KeyE.key p.1) ↔ k ∈ kv.map (·.1) := by
  simp only [List.mem_map, key_eq]
theorem dictD_e {o : Bool} (kv : List (κ × β)) (k : κ) : dictD (dE o kv) (en k) = some ((aget kv k).map en) := by
  show (keyD (en k)).map _ = _
  rw [KeyE.kd, Option.map_some, lookK_e]
theorem put_e (kv : List (κ × β)) (k : κ) (v : β) : putKs (kv.map fun p => KeyE.key p.1) (KeyE.key k) = ((aput kv k v).map fun p => KeyE.key p.1) ∧ putCh (kv.map fun p => KeyE.key p.1) (kv.map fun p => (en p.2 : D)) (KeyE.key k) (en v) = (aput kv k v).map fun p => en p.2 := by
  unfold putKs putCh aput
  simp only [mem_key]
  by_cases h : k ∈ kv.map (·.1)
  · simp only [h, if_true]
    refine ⟨by rw [List.map_map]; rfl, ?_⟩
    rw [List.zipWith_map, List.zipWith_self, List.map_map]
    refine List.map_congr_left fun p _ => ?_
    simp only [key_eq, Function.comp]
    by_cases e : p.1 = k <;> simp [e]
  · simp only [h, if_false]
    exact ⟨by rw [List.map_append]; rfl, by rw [List.map_append]; rfl⟩
theorem fz_dE (kv : List (κ × β)) : (dE false kv).isFz = true := by
  have : (kv.map fun p => (en p.2 : D)) = (kv.map (·.2)).map en := by rw [List.map_map]; rfl
  show (!false && isFzL _) = true
  rw [this, fzl_e]
  rfl
end

/-! ### what is written -/
section
variable {n : Env → Prop} {rt : D → Env → Prop} {bk ct : Env → Prop} {ex : Exn → Env → Prop} {ρ ρ1 ρ2 : Env} {Q : Rv → Env → Prop} {QI : List D → Env → Prop} {E : Exn → Env → Prop}
  {t tb : DS} {te ta tc tt : DE} {tA : DA} {c : DT} {ti : DI} {g : DG} {gs : DGs} {d d' e : D} {ds es ch ch' : List D} {i j : Nat} {x y z : Rv} {xs : List Rv} {T : String} {m : OpM} {kd k' : Kd} {s : Sl} {res : D} {k : D → Env → Prop} {vs : List Nat}
def muE (i : Nat) (ρ2 : Env) (s : Sl) (k' : Kd) (ch' : List D) (res : D) (k : D → Env → Prop) : Prop := k res ((killB i ρ2).set i (s.re (.n true k' ch')))
theorem w_mu (h1 : tkL ρ xs = some (es, ρ2)) (h2 : ρ2[i]? = some s) (h3 : s.d? = some (.n true kd ch)) (h : m kd ch es fun k' ch' res => muE i ρ2 s k' ch' res k) : mu2K i m xs ρ k := ⟨es, ρ2, s, kd, ch, h1, h2, h3, h⟩
theorem w_muV (h1 : (killB i ρ2).set i (.v (.n true k' ch')) = ρ1) (h : k res ρ1) : muE i ρ2 (.v d) k' ch' res k := by subst h1; exact h
theorem w_muW (h1 : (killB i ρ2).set i (.w (.n true k' ch')) = ρ1) (h : k res ρ1) : muE i ρ2 (.w d) k' ch' res k := by subst h1; exact h
/-- of a slot that is a part of another one -/
def muB (i : Nat) (m : OpM) (xs : List Rv) (ρ : Env) (k : D → Env → Prop) : Prop := ∃ es ρ2 j q s root kd ch, tkL ρ xs = some (es, ρ2) ∧ ρ2[i]? = some (Sl.b j q) ∧ ρ2[j]? = some s ∧ s.d? = some root ∧ root.at q = some (.n true kd ch) ∧
  m kd ch es fun k' ch' res => k res (((killB j ρ2).set j (s.re (root.put q (.n true k' ch')))).set i (.b j q))
theorem w_mutB (h0 : ∃ d, slD ρ i = some d ∧ tyM d = T ∧ (T = "list" ∨ T = "dict")) (h : tA ρ (fun rs ρ1 => muB i m rs ρ1 fun res ρ3 => Q (.t res) ρ3) E) : dMutB T i m tA ρ Q E := ⟨h0, h⟩
/-- own rows in an own list -/
abbrev eoo {α : Type} [Enc α] (rows : List (List α)) : D := .n true .lst (rows.map eo)
def mbE (i : Nat) (ρ2 : Env) (j m : Nat) (root : D) (k' : Kd) (ch' : List D) (res : D) (k : D → Env → Prop) : Prop := k res (((killB j ρ2).set j (.v (root.put [m] (.n true k' ch')))).set i (.b j [m]))
theorem oo_at {α : Type} [Enc α] {rows : List (List α)} {row : List α} {p : Nat} (h : rows[p]? = some row) : (eoo rows).at [p] = some (eo row) := by
  simp only [eoo, D.at, List.getElem?_map, h, Option.map_some]
theorem oo_put {α : Type} [Enc α] {rows : List (List α)} {row row' : List α} {p : Nat} (h : rows[p]? = some row) : (eoo rows).put [p] (eo row') = eoo (rows.set p row') := by
  simp only [eoo, D.put, List.getElem?_map, h, Option.map_some, List.map_set]
theorem sl_oo {α : Type} {inst : Enc α} {rows : List (List α)} {row : List α} {p : Nat} (h1 : ρ[i]? = some (.b j [p])) (h2 : ρ[j]? = some (.v (eoo rows))) (h3 : rows[p]? = some row) : slD ρ i = some (eo row) := by
  have : rootD ρ j = some (eoo rows) := by simp only [rootD, h2]
  simp only [slD, h1, this, Option.bind_some]
  exact oo_at h3
theorem w_muB {α : Type} {inst : Enc α} {rows : List (List α)} {row : List α} {p : Nat} (h1 : tkL ρ xs = some (es, ρ2)) (h2 : ρ2[i]? = some (.b j [p])) (h3 : ρ2[j]? = some (.v (eoo rows))) (h4 : rows[p]? = some row) (h : m .lst (row.map en) es fun k' ch' res => mbE i ρ2 j p (eoo rows) k' ch' res k) : muB i m xs ρ k :=
  ⟨es, ρ2, j, [p], _, eoo rows, .lst, row.map en, h1, h2, h3, rfl, oo_at h4, h⟩
theorem w_mbE {α : Type} {inst : Enc α} {rows : List (List α)} {row row' : List α} {p : Nat} (h4 : rows[p]? = some row) (h1 : ((killB j ρ2).set j (.v (eoo (rows.set p row')))).set i (.b j [p]) = ρ1) (h : k res ρ1) : mbE i ρ2 j p (eoo rows) .lst (row'.map en) res k := by
  subst h1
  unfold mbE
  have e := oo_put (row' := row') h4
  unfold eo at e
  rw [e]
  exact h
/-! the methods, of plain things -/
section
variable {α : Type} {inst : Enc α} {xs' : List α} {a : α} {K : Kd → List D → D → Prop} {p : Int} {l : Nat}
theorem m_appE (h1 : xs'.length < 100000) (h : K .lst ((xs' ++ [a]).map en) .non) : mAppend .lst (xs'.map en) [en a] K := ⟨_, rfl, rfl, by rw [List.length_map]; exact h1, by rw [List.map_append] at h; exact h⟩
theorem m_setE (h1 : ixN xs'.length p = some l) (h : K .lst ((xs'.set l a).map en) .non) : mSetL .lst (xs'.map en) [.p (.int p), en a] K := ⟨p, _, l, rfl, rfl, by rw [List.length_map]; exact h1, by rw [List.map_set] at h; exact h⟩
theorem m_insE (h1 : 0 ≤ p ∧ p < 2 ^ 63 ∧ xs'.length < 100000) (h : K .lst ((xs'.take p.toNat ++ [a] ++ xs'.drop p.toNat).map en) .non) : mInsert .lst (xs'.map en) [.p (.int p), en a] K := ⟨p, _, rfl, rfl, by rw [List.length_map]; exact h1, by
  rw [List.map_append, List.map_append, List.map_take, List.map_drop] at h; exact h⟩
theorem eraseIdx_map' {α β : Type} (f : α → β) : ∀ (l : List α) (n : Nat), (l.map f).eraseIdx n = (l.eraseIdx n).map f
  | [], _ => rfl
  | a :: l, 0 => rfl
  | a :: l, n + 1 => by simp [eraseIdx_map' f l n]
theorem m_popE {y : α} (h1 : p = (l : Nat)) (h2 : xs'[l]? = some y) (hb : l < 100000) (h : K .lst ((xs'.eraseIdx l).map en) (en y)) : mPopAt .lst (xs'.map en) [.p (.int p)] K := by
  have hl := (List.getElem?_eq_some_iff.mp h2).1
  subst h1
  refine ⟨_, l, en y, rfl, rfl, ⟨by omega, by omega⟩, ?_, by rw [List.getElem?_map, h2]; rfl, by rw [eraseIdx_map']; exact h⟩
  unfold seqIndex?
  rw [List.length_map]
  simp
  omega
theorem m_extE {o : Bool} {ys : List α} (h1 : xs'.length + ys.length ≤ 100000) (h : K .lst ((xs' ++ ys).map en) .non) : mExtend .lst (xs'.map en) [.n o .lst (ys.map en)] K := ⟨o, _, rfl, rfl, by rw [List.length_map, List.length_map]; exact h1, by rw [List.map_append] at h; exact h⟩
theorem m_clrE (h : K .lst (([] : List α).map en) .non) : mClear .lst (xs'.map en) [] K := ⟨rfl, rfl, h⟩
end
section
variable {κ β : Type} {i0 : DecidableEq κ} {i1 : Enc κ} {i2 : KeyE κ} {i3 : Enc β} {kv : List (κ × β)} {a : κ} {b : β} {K : Kd → List D → D → Prop}
theorem m_putE (h1 : kv.length < 100000) (h : K (.dic ((aput kv a b).map fun p => KeyE.key p.1)) ((aput kv a b).map fun p => en p.2) .non) : mPutD (.dic (kv.map fun p => KeyE.key p.1)) (kv.map fun p => en p.2) [en a, en b] K := by
  refine ⟨_, _, rfl, Enc.fz b, by rw [List.length_map]; exact h1, KeyE.key a, KeyE.kd a, ?_⟩
  obtain ⟨e1, e2⟩ := put_e kv a b
  rw [e1, e2]
  exact h
theorem w_newD (h : Q (.t (.n true (.dic []) [])) ρ) : dNewD ρ Q E := h
def isDK (x : Rv) (ρ : Env) (p : Prop) : Prop := (∃ d, look ρ x = some d ∧ isDic d = true) ∧ p
theorem w_isDK {p : Prop} (h1 : look ρ x = some d) (h2 : isDic d = true) (h : p) : isDK x ρ p := ⟨⟨d, h1, h2⟩, h⟩
def g2K (x y z : Rv) (ρ : Env) (k : D → Prop) : Prop := ∃ d k' dz o, look ρ x = some d ∧ look ρ y = some k' ∧ look ρ z = some dz ∧ dictD d k' = some o ∧ (o.getD dz).isFz = true ∧ k (o.getD dz)
theorem w_get2 (h : ta ρ (fun x ρ1 => isDK x ρ1 (tt ρ1 (fun y ρ2 => tc ρ2 (fun z ρ3 => g2K x y z ρ3 fun d => Q (.t d) ρ3) E) E)) E) : dGet2 ta tt tc ρ Q E := h
theorem w_g2E {o : Bool} {dz : D} {k : D → Prop} (h1 : look ρ x = some (.n o (.dic (kv.map fun p => KeyE.key p.1)) (kv.map fun p => en p.2))) (h2 : look ρ y = some (en a)) (h3 : look ρ z = some dz) (hz : dz.isFz = true) (h : k (((aget kv a).map en).getD dz)) : g2K x y z ρ k := by
  refine ⟨_, _, _, _, h1, h2, h3, dictD_e kv a, ?_, h⟩
  cases aget kv a with
  | none => exact hz
  | some v => exact Enc.fz v
theorem w_inD {o : Bool} {neg : Bool} {k : D → Prop} (h : k (.bl (if neg = true then !decide (a ∈ kv.map (·.1)) else decide (a ∈ kv.map (·.1))))) : qInS neg (en a) (.n o (.dic (kv.map fun p => KeyE.key p.1)) (kv.map fun p => en p.2)) k := by
  refine ⟨_, dictD_e kv a, ?_⟩
  have : ((aget kv a).map (en : β → D)).isSome = decide (a ∈ kv.map (·.1)) := by
    cases e : aget kv a with
    | none => simp only [Option.map_none, Option.isSome_none]; rw [decide_eq_false (aget_none.mp e)]
    | some v => simp only [Option.map_some, Option.isSome_some]; rw [decide_eq_true (by
        apply Classical.byContradiction
        intro z
        rw [aget_none.mpr z] at e
        cases e)]
  rw [this]
  exact h
theorem w_inDf {o : Bool} {k : D → Prop} (h : k (.bl (decide (a ∈ kv.map (·.1))))) : qInS false (en a) (.n o (.dic (kv.map fun p => KeyE.key p.1)) (kv.map fun p => en p.2)) k := w_inD h
theorem w_inDt {o : Bool} {k : D → Prop} (h : k (.bl (!decide (a ∈ kv.map (·.1))))) : qInS true (en a) (.n o (.dic (kv.map fun p => KeyE.key p.1)) (kv.map fun p => en p.2)) k := w_inD h
end
/-- a display with written keys -/
def dpK (ks : List Str) (xs : List Rv) (ρ : Env) (k : D → Env → Prop) : Prop := ∃ ds ρ2, tkL ρ xs = some (ds, ρ2) ∧ (ks.length = ds.length ∧ ks.length ≤ 15 ∧ ks.Nodup) ∧ k (.n true (.dic (ks.map .inr)) ds) ρ2
theorem w_disp {ks : List Str} (h : tA ρ (fun rs ρ1 => dpK ks rs ρ1 fun d ρ2 => Q (.t d) ρ2) E) : dDisp ks tA ρ Q E := h
theorem w_dpK {ks : List Str} (h1 : tkL ρ xs = some (ds, ρ2)) (h2 : ks.length = ds.length ∧ ks.length ≤ 15 ∧ ks.Nodup) (h : k (.n true (.dic (ks.map .inr)) ds) ρ2) : dpK ks xs ρ k := ⟨ds, ρ2, h1, h2, h⟩
theorem w_dsN {QA : List Rv → Env → Prop} (h : dNil ρ QA E) : dDs [] ρ QA E := h
theorem w_dsC {QA : List Rv → Env → Prop} {ts : List DE} (h : dCons te (dDs ts) ρ QA E) : dDs (te :: ts) ρ QA E := h
/-- a dict with written keys, read -/
theorem w_ixR {o : Bool} {ks : List Key} {q : Str} {k : D → Prop} (h1 : lookK ks ch (.inr q) = some d) (hz : d.isFz = true) (h : k d) : qIxS (.n o (.dic ks) ch) (.p (.str q)) k := ⟨d, by show (some (lookK ks ch (.inr q))) = _; rw [h1], hz, h⟩
/-- .. written -/
theorem m_putR {ks : List Key} {q : Str} {K : Kd → List D → D → Prop} (hz : e.isFz = true) (hl : ch.length < 100000) (h1 : putKs ks (.inr q) = ks) (h2 : putCh ks ch (.inr q) e = ch') (h : K (.dic ks) ch' .non) : mPutD (.dic ks) ch [.p (.str q), e] K :=
  ⟨_, _, rfl, hz, hl, .inr q, rfl, by rw [h1, h2]; exact h⟩

/-! ### targets -/
theorem w_gnil {q : Env → Prop} (h : q ρ) : dGNil [] ρ q := ⟨rfl, h⟩
theorem w_gcons {q : Env → Prop} (h : g (.t d) ρ fun ρ1 => gs ds ρ1 q) : dGCons g gs (d :: ds) ρ q := h
theorem w_gtT {q : Env → Prop} {N : Nat} (h1 : d.fz = d') (h2 : itemsOf d' = some ds) (h3 : ds.length = N) (h : gs ds ρ q) : dGTup N gs (.t d) ρ q := ⟨d', ρ, ds, by simp only [tkF, tk, h1], h2, h3, h⟩
theorem w_gtS {q : Env → Prop} {N : Nat} (h0 : slD ρ i = some d) (hz : d.isFz = true) (h2 : itemsOf d = some ds) (h3 : ds.length = N) (h : gs ds ρ q) : dGTup N gs (.s i) ρ q := ⟨d, ρ, ds, by simp only [tkF, tk, h0, hz, if_true, fz_of hz], h2, h3, h⟩
def gsK (T : String) (i : Nat) (ρ : Env) (p : Prop) : Prop := (∃ d, slD ρ i = some d ∧ tyM d = T ∧ (T = "list" ∨ T = "dict")) ∧ p
theorem w_gsub {q : Env → Prop} (h : gsK T i ρ (te ρ (fun y ρ1 => mutK i m [y, x] ρ1 q) (fun _ _ => False))) : dGSub T i m te x ρ q := h
theorem w_gsK {p : Prop} (h0 : ∃ d, slD ρ i = some d ∧ tyM d = T ∧ (T = "list" ∨ T = "dict")) (h : p) : gsK T i ρ p := ⟨h0, h⟩
/-! ### loops -/
def wpK (ρ : Env) (vs : List Nat) (n : Env → Prop) : Prop := n (wipeD ρ vs)
theorem w_wipe (h : t ⟨fun ρ1 => wpK ρ1 vs n, rt, bk, ct, ex⟩ ρ) : dThenW t vs ⟨n, rt, bk, ct, ex⟩ ρ := h
theorem w_wpK (h1 : wipeD ρ vs = ρ1) (h : n ρ1) : wpK ρ vs n := by
  unfold wpK
  rw [h1]; exact h
theorem w_forW (h : ti ρ (fun items ρ1 => wpK ρ1 vs (dLoopW g tb vs ⟨n, rt, bk, ct, ex⟩ items)) ex) : dForW ti g tb vs ⟨n, rt, bk, ct, ex⟩ ρ := h
theorem w_forC (h1 : ρ[i]? = some (.v (.n true .lst ch))) (h2 : wipeD ((killB i ρ).set i .un) vs = ρ1) (h : dLoopW g tb vs ⟨n, rt, bk, ct, ex⟩ ch ρ1) : dForC i g tb vs ⟨n, rt, bk, ct, ex⟩ ρ := ⟨ch, h1, by rw [h2]; exact h⟩
def boK (i j : Nat) (r : Rv) (ρ1 : Env) (n : Env → Prop) : Prop := ∃ p s ch m k' ch', look ρ1 r = some (.p (.int p)) ∧ ρ1[j]? = some s ∧ s.d? = some (.n true .lst ch) ∧ ixN ch.length p = some m ∧ ch[m]? = some (.n true k' ch') ∧ okV ρ1 i = true ∧ n ((killB i ρ1).set i (.b j [m]))
/-- an invariant -/
theorem lw_inv {α σ : Type} {F : α → D} {items : List α} (shape : σ → Env) (P : List α → σ → Prop) (s0 : σ) (h0 : P items s0)
    (step : ∀ a rest s, P (a :: rest) s → ∀ k : Env → Prop, (∀ s' ρ', P rest s' → wipeD ρ' vs = shape s' → k ρ') → g (.t (F a)) (shape s) fun ρ1 => tb ⟨k, rt, fun ρ2 => n (wipeD ρ2 vs), k, ex⟩ ρ1)
    (fin : ∀ s, P [] s → n (shape s)) : dLoopW g tb vs ⟨n, rt, bk, ct, ex⟩ (items.map F) (shape s0) := by
  induction items generalizing s0 with
  | nil => exact fin s0 h0
  | cons a rest ih => exact step a rest s0 h0 _ fun s' ρ' hp e => by rw [e]; exact ih s' hp
theorem lw_nil (h : n ρ) : dLoopW g tb vs ⟨n, rt, bk, ct, ex⟩ [] ρ := h
/-! ### zip, enumerate -/
def zK (xs : List Rv) (ρ : Env) (k : List D → Env → Prop) : Prop := ∃ d e ρ2 ch ch', tkFL ρ xs = some ([d, e], ρ2) ∧ listOf d = some ch ∧ listOf e = some ch' ∧ k (zipL ch ch') ρ2
theorem w_zip (h : tA ρ (fun rs ρ1 => zK rs ρ1 QI) E) : dIZip tA ρ QI E := h
theorem zipL_e {α β : Type} [Enc α] [Enc β] : ∀ (us : List α) (ws : List β), zipL (us.map en) (ws.map en) = (us.zip ws).map en
  | [], ws => by simp [zipL]
  | u :: us, [] => by simp [zipL]
  | u :: us, w :: ws => by rw [List.map_cons, List.map_cons, zipL, zipL_e, List.zip_cons_cons, List.map_cons]; rfl
theorem w_zK {α β : Type} {i1 : Enc α} {i2 : Enc β} {us : List α} {ws : List β} {k : List D → Env → Prop} (h1 : tkFL ρ xs = some ([d, e], ρ2)) (h2 : listOf d = some (us.map en)) (h3 : listOf e = some (ws.map en)) (h : k ((us.zip ws).map en) ρ2) : zK xs ρ k := ⟨d, e, ρ2, _, _, h1, h2, h3, by rw [zipL_e]; exact h⟩
def enK (xs : List Rv) (ρ : Env) (k : List D → Env → Prop) : Prop := ∃ d ρ2 ch, tkFL ρ xs = some ([d], ρ2) ∧ listOf d = some ch ∧ k (enumL 0 ch) ρ2
theorem w_enum (h : tA ρ (fun rs ρ1 => enK rs ρ1 QI) E) : dIEnum tA ρ QI E := h
theorem enumL_e {α : Type} [Enc α] : ∀ (us : List α) (l : Nat), enumL l (us.map en) = (us.zipIdx l).map fun p => en ((p.2 : Int), p.1)
  | [], l => rfl
  | u :: us, l => by rw [List.map_cons, enumL, enumL_e, List.zipIdx_cons, List.map_cons]; rfl
theorem w_enK {α : Type} {i1 : Enc α} {us : List α} {k : List D → Env → Prop} (h1 : tkFL ρ xs = some ([d], ρ2)) (h2 : listOf d = some (us.map en)) (h : k (us.zipIdx.map fun p => en ((p.2 : Int), p.1)) ρ2) : enK xs ρ k := ⟨d, ρ2, _, h1, h2, by rw [enumL_e]; exact h⟩
/-! ### f'..', methods of texts -/
theorem w_js {ts : List DE} (h : dJl ts Str.empty ρ (fun out ρ1 => Q (.t (.p (.str out))) ρ1) E) : dJs ts ρ Q E := h
theorem w_jlN {acc : Str} {q : Str → Env → Prop} (h : q acc ρ) : dJl [] acc ρ q E := h
def jlK (ts : List DE) (acc : Str) (r : Rv) (ρ1 : Env) (q : Str → Env → Prop) (E : Exn → Env → Prop) : Prop := ∃ y : Str, look ρ1 r = some (.p (.str y)) ∧ (acc ++ y).length ≤ 100000 ∧ dJl ts (acc ++ y) ρ1 q E
theorem w_jlC {ts : List DE} {acc : Str} {q : Str → Env → Prop} (h : te ρ (fun r ρ1 => jlK ts acc r ρ1 q E) E) : dJl (te :: ts) acc ρ q E := h
theorem w_jlK {ts : List DE} {acc y : Str} {q : Str → Env → Prop} (h1 : look ρ x = some (.p (.str y))) (h2 : (acc ++ y).length ≤ 100000) (h : dJl ts (acc ++ y) ρ q E) : jlK ts acc x ρ q E := ⟨y, h1, h2, h⟩
def fmK (r : Rv) (ρ1 : Env) (q : Rv → Env → Prop) : Prop := ∃ d, look ρ1 r = some d ∧ ((∃ y : Str, d = .p (.str y) ∧ y.length ≤ 100000 ∧ q (.t (.p (.str y))) ρ1) ∨ ∃ i : Int, d = .p (.int i) ∧ i.natAbs.log2 < 1920 ∧ q (.t (.p (.str (toString i)))) ρ1)
theorem w_fmt (h : te ρ (fun r ρ1 => fmK r ρ1 Q) E) : dFmt te ρ Q E := h
theorem w_fmS {y : Str} (h1 : look ρ x = some (.p (.str y))) (h2 : y.length ≤ 100000) (h : Q (.t (.p (.str y))) ρ) : fmK x ρ Q := ⟨_, h1, .inl ⟨y, rfl, h2, h⟩⟩
theorem w_fmI {y : Int} (h1 : look ρ x = some (.p (.int y))) (h2 : y.natAbs.log2 < 1920) (h : Q (.t (.p (.str (toString y)))) ρ) : fmK x ρ Q := ⟨_, h1, .inr ⟨y, rfl, h2, h⟩⟩
theorem w_zfill {a : Str} {p : Int} {k : D → Prop} (h1 : PadOk p = true) (h : k (.str (Txt.zfill a p))) : qZfill (.p (.str a)) (.p (.int p)) k := ⟨h1, h⟩
def bmK (T : String) (x : Rv) (ρ1 : Env) (p : Prop) : Prop := (∃ d, look ρ1 x = some d ∧ tyM d = T ∧ (T = "list" ∨ T = "dict")) ∧ p
theorem w_bm1 {r : Op2} (h : ta ρ (fun x ρ1 => bmK T x ρ1 (tt ρ1 (fun y ρ2 => opK r x y ρ2 fun z => Q (.t z) ρ2) E)) E) : dBM1 T r ta tt ρ Q E := h
theorem w_bmK {p : Prop} (h0 : ∃ d, look ρ x = some d ∧ tyM d = T ∧ (T = "list" ∨ T = "dict")) (h : p) : bmK T x ρ p := ⟨h0, h⟩
end
end DL
/-! DL23: lending: what is only read stays its holder's own. -/
namespace DL
open PySem L2
open Enc (en)
mutual
/-- nothing within is shared -/
def D.ownd : D → Bool
  | .p _ => true
  | .n o _ ch => o && ownL ch
def ownL : List D → Bool
  | [] => true
  | d :: ds => d.ownd && ownL ds
end
section
variable {K : PySem.W.Frag} {G H G' H' : Hp}
mutual
theorem Rp.own : ∀ {v : V} (d : D) {F : List Addr}, Rp K G H v d F → d.ownd = true → (∀ a, G a = none → G' a = none) → Rp K G' H v d F
  | _, .p v, _, h, _, _ => by
    cases h
    exact Rp.p _
  | _, .n ow k ch, _, h, e, hg => by
    simp only [D.ownd, Bool.and_eq_true] at e
    cases h with
    | f h1 h2 => cases e.1
    | o h0 h1 h3 h2 => exact Rp.o (hg _ h0) h1 h3 (RpL.own ch h2 e.2 hg)
theorem RpL.own : ∀ {vs : List V} (ds : List D) {F : List Addr}, RpL K G H vs ds F → ownL ds = true → (∀ a, G a = none → G' a = none) → RpL K G' H vs ds F
  | _, [], _, h, _, _ => by
    cases h
    exact RpL.nil
  | _, d :: ds, _, h, e, hg => by
    simp only [ownL, Bool.and_eq_true] at e
    cases h with
    | cons h1 h2 h3 => exact RpL.cons (Rp.own d h1 e.1 hg) (RpL.own ds h2 e.2 hg) h3
end
end
def Sl.fz : Sl → Sl
  | .v d => .v d.fz
  | .w d => .v d.fz
  | _ => .un
def frzE (ρ : Env) : Env := ρ.map Sl.fz
def dLend (te : DE) : DE := fun ρ Q _ => te (frzE ρ) (fun r _ => ∃ d, r = .t d ∧ d.ownd = true ∧ Q (.t d) ρ) (fun _ _ => False)
section
variable {K : PySem.W.Frag} {pv : Nat → V} {σ : St} {ρ : Env} {G H : Hp} {fp : Fps}
open Classical in
noncomputable def frzP (G H : Hp) (P : Addr → Prop) : Hp := fun a => if P a then H a else G a
theorem Mt.lend (m : Mt K pv σ ρ G H fp) : Mt K pv σ (frzE ρ) (frzP G H (InF fp)) H (fun _ => []) := by
  have sg : Sub G (frzP G H (InF fp)) := fun a o e => by
    unfold frzP
    split
    · rename_i h
      obtain ⟨i, hi⟩ := h
      rw [(m.ft i a hi).1] at e; cases e
    · exact e
  have ss : Sub (frzP G H (InF fp)) H := fun a o e => by
    unfold frzP at e
    split at e
    · exact e
    · exact m.sub a o e
  have get : ∀ (i : Nat) (d : D), (frzE ρ)[i]? = some (Sl.v d) → ∃ d0, (ρ[i]? = some (Sl.v d0) ∨ ρ[i]? = some (Sl.w d0)) ∧ d = d0.fz := fun i d e => by
    unfold frzE at e
    rw [List.getElem?_map] at e
    cases h : ρ[i]? with
    | none => rw [h] at e; cases e
    | some s =>
      rw [h] at e
      cases s with
      | un => cases e
      | b j q => cases e
      | v d0 => cases e; exact ⟨d0, .inl rfl, rfl⟩
      | w d0 => cases e; exact ⟨d0, .inr rfl, rfl⟩
  have no : ∀ (i : Nat) (s : Sl), (frzE ρ)[i]? = some s → (∃ d, s = .v d) ∨ s = .un := fun i s e => by
    unfold frzE at e
    rw [List.getElem?_map] at e
    cases h : ρ[i]? with
    | none => rw [h] at e; cases e
    | some s0 =>
      rw [h] at e
      cases s0 with
      | un => cases e; exact .inr rfl
      | b j q => cases e; exact .inr rfl
      | v d0 => cases e; exact .inl ⟨_, rfl⟩
      | w d0 => cases e; exact .inl ⟨_, rfl⟩
  refine ⟨ss, by unfold frzE; rw [List.length_map]; exact m.len, fun i d e => ?_, fun i d e => ?_, fun i j q e => ?_, fun _ _ _ a z => (by cases z), fun _ a z => (by cases z)⟩
  · obtain ⟨d0, h, rfl⟩ := get i d e
    obtain ⟨x, h1, h2⟩ : ∃ x, σ[i]? = some (some x) ∧ Rp K G H x d0 (fp i) := by
      rcases h with h | h
      · exact m.sl i d0 h
      · exact ⟨_, m.pn i d0 h⟩
    refine ⟨x, h1, h2.froz sg _ fun a ha => ?_⟩
    unfold frzP
    rw [if_pos ⟨i, ha⟩]
  · rcases no i _ e with ⟨_, z⟩ | z <;> cases z
  · rcases no i _ e with ⟨_, z⟩ | z <;> cases z
end
section
variable {X : Cx} {cn : String → Addr} {E : WX} {pos : Pos} {e : Expr} {te : DE}
theorem je_lend (h : JE X cn E e te) : JE X cn E e (dLend te) := by
  refine pe_imp h ?_
  rintro σ H Q ⟨pv, γ, ρ, G, fp, Q0, E0, m, q, po, px⟩
  have m' : ∀ H', (∀ a o, H a = some o → H' a = some o) → Mt X.K pv (σ ++ γ) ρ G H' fp := fun H' hh => m.move (fun _ _ z => z) (fun a o z => hh a o (m.sub a o z)) (fun a o _ z => hh a o z) fun a ⟨i, hi⟩ => (m.ft i a hi).1
  have nf : ∀ a, ¬ InF (fun _ => []) a := fun a ⟨i, hi⟩ => by cases hi
  refine ⟨pv, γ, frzE ρ, frzP G H (InF fp), fun _ => [], _, _, m.lend, q, ?_, ?_⟩
  · rintro r ρ1 v G1 H1 fp1 F1 ⟨d, rfl, hd, q1⟩ s1 m1 ⟨o1, o2⟩
    have hh : ∀ a o, H a = some o → H1 a = some o := fun a o e => s1.h a o e (nf a)
    have hF : ∀ a ∈ F1, H a = none := fun a ha => (s1.f a (.inr ha)).elim (fun z => absurd z (nf a)) id
    have hg : ∀ a, G1 a = none → G a = none := fun a e => by
      cases hga : G a with
      | none => rfl
      | some o =>
        have : frzP G H (InF fp) a = some o := by
          unfold frzP
          split
          · exact m.sub a o hga
          · exact hga
        rw [s1.g a o this] at e; cases e
    refine po (.t d) ρ v G H1 fp F1 q1 ⟨fun _ _ z => z, fun a o e _ => hh a o e, fun _ _ _ z _ => z, fun a z => z.elim .inl fun z => .inr (hF a z)⟩ (m' H1 hh) ⟨Rp.own d o1 hd hg, fun a ha ⟨i, hi⟩ => ?_⟩
    obtain ⟨_, o, ho⟩ := m.ft i a hi
    rw [hF a ha] at ho; cases ho
  · exact fun x ρ1 cls dx σ1 G1 H1 fp1 q1 => q1.elim
/-- a name whose value is shared from now on -/
def dFzS (i : Nat) : DE := fun ρ Q _ => ∃ d, ρ[i]? = some (.v d) ∧ Q (.s i) ((killB i ρ).set i (.v d.fz))
end
section
variable {ρ ρ1 : Env} {Q : Rv → Env → Prop} {E : Exn → Env → Prop} {te : DE} {d : D} {i : Nat} {g : DG} {tt : DT} {vs : List Nat}
def ldK (r : Rv) (ρ : Env) (Q : Rv → Env → Prop) : Prop := ∃ d, r = .t d ∧ d.ownd = true ∧ Q (.t d) ρ
theorem w_lend (h1 : frzE ρ = ρ1) (h : te ρ1 (fun r _ => ldK r ρ Q) (fun _ _ => False)) : dLend te ρ Q E := by
  subst h1; exact h
theorem w_ldK (h1 : d.ownd = true) (h : Q (.t d) ρ) : ldK (.t d) ρ Q := ⟨d, rfl, h1, h⟩
theorem w_fzS {d' : D} (h0 : ρ[i]? = some (.v d)) (h2 : d.fz = d') (h1 : (killB i ρ).set i (.v d') = ρ1) (h : Q (.s i) ρ1) : dFzS i ρ Q E := ⟨d, h0, by rw [h2, h1]; exact h⟩
theorem fe_nil : frzE [] = [] := rfl
theorem fe_un {r : Env} : frzE (.un :: r) = .un :: frzE r := rfl
theorem fe_b {r : Env} {j : Nat} {q : List Nat} : frzE (.b j q :: r) = .un :: frzE r := rfl
theorem fe_v {r : Env} : frzE (.v d :: r) = .v d.fz :: frzE r := rfl
theorem fe_w {r : Env} : frzE (.w d :: r) = .v d.fz :: frzE r := rfl
/-- a comprehension whose turns change slots -/
theorem lc_inv {α σ : Type} {F : α → D} {K : List D → Env → Prop} (shape : σ → Env) (P : List α → List D → σ → Prop) : ∀ {items : List α} {acc : List D} {s0 : σ}, P items acc s0 → items.length + acc.length ≤ 100000 →
    (∀ a rest acc s, P (a :: rest) acc s → acc.length < 100000 → ∀ k : Env → List D → Prop, (∀ s' acc', acc'.length ≤ acc.length + 1 → P rest acc' s' → k (shape s') acc') →
      g (.t (F a)) (shape s) fun ρ1 => tt ρ1 (fun b ρ2 => if b = true then te ρ2 (fun r ρ3 => lcA r ρ3 vs acc k) (fun _ _ => False) else k (wipeD ρ2 vs) acc) (fun _ _ => False)) →
    (∀ acc s, P [] acc s → K acc (shape s)) → dLcL g tt te vs K (items.map F) (shape s0) acc
  | [], acc, s0, h, _, _, fin => fin acc s0 h
  | a :: rest, acc, s0, h, hl, st, fin => by
    rw [List.length_cons] at hl
    exact st a rest acc s0 h (by omega) (fun ρ' acc' => dLcL g tt te vs K (rest.map F) ρ' acc') fun s' acc' hle hp => lc_inv shape P hp (by omega) st fin
end
theorem own_e {α : Type} [Enc α] {xs : List α} (h : ∀ x : α, (en x : D).ownd = true) : (eo xs).ownd = true := by
  have : ∀ xs : List α, ownL (xs.map en) = true := by
    intro xs
    induction xs with
    | nil => rfl
    | cons x xs ih => rw [List.map_cons, ownL, h, ih]; rfl
  show (true && ownL _) = true
  rw [this]; rfl
theorem own_oo {α : Type} [Enc α] {xs : List (List α)} (h : ∀ x : α, (en x : D).ownd = true) : (eoo xs).ownd = true := by
  have : ∀ xs : List (List α), ownL (xs.map eo) = true := by
    intro xs
    induction xs with
    | nil => rfl
    | cons x xs ih => rw [List.map_cons, ownL, own_e h, ih]; rfl
  show (true && ownL _) = true
  rw [this]; rfl
end DL
/-! DL24: targets; zip of lists or of tuples -/
namespace DL
open PySem L2
section
variable {X : Cx} {cn : String → Addr} {E : WX} {st : Stmt} {te : DE}
end
def tupOf : D → Option (List D)
  | .n _ .tup ch => some ch
  | .n _ .tok ch => some ch
  | _ => none
def zipOf (d e : D) (ch ch' : List D) : Prop := (listOf d = some ch ∧ listOf e = some ch') ∨ (tupOf d = some ch ∧ tupOf e = some ch')
def dIZipA (t : DA) : DI := fun ρ Q E => t ρ (fun rs ρ1 => ∃ d e ρ2 ch ch', tkFL ρ1 rs = some ([d, e], ρ2) ∧ zipOf d e ch ch' ∧ Q (zipL ch ch') ρ2) E
section
variable {K : PySem.W.Frag} {G H : Hp}
end
section
variable {X : Cx} {cn : String → Addr} {E : WX} {iter tg e : Expr} {t : DA} {te : DE}
end
def zAK (xs : List Rv) (ρ : Env) (k : List D → Env → Prop) : Prop := ∃ d e ρ2 ch ch', tkFL ρ xs = some ([d, e], ρ2) ∧ zipOf d e ch ch' ∧ k (zipL ch ch') ρ2
section
variable {ρ ρ2 : Env} {tA : DA} {QI : List D → Env → Prop} {E : Exn → Env → Prop} {xs : List Rv} {d e : D}
theorem w_zipA (h : tA ρ (fun rs ρ1 => zAK rs ρ1 QI) E) : dIZipA tA ρ QI E := h
end
end DL
/-! DL25: caught errors that are kept; what class they are of; their fields; errors with a field. -/
namespace DL
open PySem L2

theorem exK_ok {P : Program} {w : World} {H : Hp} {h : Heap} {a : Addr} {cls : Value} {dx : Option Addr} {oe : Obj} {vs : Array Value} (e : h.get? a = some oe) (z : Zc cls dx oe) (d : oe.data = .fields vs) : ObjOk P w H h a (exK cls dx a) :=
  ⟨⟨oe, vs, e, z, d⟩, ⟨oe, e⟩, fun _ _ ⟨o, v, q, r⟩ k => ⟨o, v, k o q, r⟩⟩
theorem exK_at {P : Program} {w : World} {H : Hp} {h : Heap} {a : Addr} {cls : Value} {dx : Option Addr} (hok : HOk P w H h) (e : H a = some (exK cls dx a)) : ∃ (oe : Obj) (vs : Array Value), h.get? a = some oe ∧ Zc cls dx oe ∧ oe.data = .fields vs := by
  have x : ObjOk P w H h a (.ext fun h => ∃ (oe : Obj) (vs : Array Value), h.get? a = some oe ∧ Zc cls dx oe ∧ oe.data = .fields vs) := hok a _ e
  exact x.1
section
variable {X : Cx} {pins : List (Addr × Obj)} {σ : St} {H : Hp} {s : Shared} {a : Addr} {o : HO}
/-- an object that was made since the def began, not tracked as yet, is tracked from now on -/
theorem Inv.track (I : Inv X pins σ H s) (n0 : X.s_0.heap.get? a = none) (na : H a = none) (nL : a ≠ X.env.locals) (nc : ∀ x c, X.env.cells.lookup x = some c → c ≠ a) (np : ∀ p ∈ X.pn ++ pins, p.1 ≠ a)
    (new : ObjOk X.prog X.w (upd H a o) s.heap a o) : Inv X pins σ (upd H a o) s := by
  have up : ∀ {b : Addr}, b ≠ a → upd H a o b = H b := fun hb => upd_ne hb
  have n0' : ∀ b u, X.s_0.heap.get? b = some u → b ≠ a := fun b u e z => by subst z; rw [n0] at e; cases e
  have ne : ∀ b u, H b = some u → b ≠ a := fun b u e z => by subst z; rw [na] at e; cases e
  refine ⟨I.ok, I.os, I.bare, ?_, I.loc, I.cell, (up (Ne.symm nL)).trans I.free, fun x c e => (up (nc x c e)).trans (I.freeC x c e), fun p hp => ?_, fun b u e => ?_, I.len⟩
  · refine ⟨I.base.keep, I.base.slot, fun b u e n q => (up (n0' b u e)).trans (I.base.free b u e n q), I.base.there, fun b xs e => ?_, fun b u v e => ?_, fun b ps e => ?_⟩
    · have q := I.base.tups b xs e; exact (up (ne b _ q)).trans q
    · have q := I.base.frzs b u v e; exact (up (ne b _ q)).trans q
    · obtain ⟨m, q⟩ := I.base.tbls b ps e; exact ⟨m, (up (ne b _ q)).trans q⟩
  · obtain ⟨p1, p2, p3⟩ := I.pin p hp
    exact ⟨p1, (up (np p hp)).trans p2, p3⟩
  · by_cases hb : b = a
    · subst hb
      rw [upd_same] at e
      cases e
      exact new
    · rw [up hb] at e
      exact (I.hok b u e).stay (fun _ _ _ q => q) (fun c q => (up (ne c _ q)).trans q) fun c xs q => (up (ne c _ q)).trans q
end

/-- j = i, of names -/
def tKeep (i j : Nat) : TS := fun D σ H => ∃ v, σ[i]? = some (some v) ∧ D.nx (σ.set j (some v)) H
/-- what the clause 'except c as n: x = n' wishes of an error of the body: it is kept -/
def wKeep (K : PySem.W.Frag) (c : Value) (i j : Nat) (Wout : WX) (D : Ends) : WX := fun cls d σ H =>
  ∃ b, PySem.W.exmOne K cls c = some b ∧ (b = true → ∀ a, H a = none → i ≠ j ∧ i < σ.length ∧ D.nx (((σ.set i (some (.ref a))).set j (some (.ref a))).set i none) (upd H a (exK cls d a))) ∧ (b = false → Wout cls d σ H)
section
variable {X : Cx} {x n : Str} {c : Value} {i j : Nat} {body suite : List Stmt} {b₀ : Stmt} {np pos pos' : Pos} {tb : WX → TS} {Wout : WX}
theorem ps_try_keep (hs : X.stack = X.env :: X.outer) (hf : X.env.frame = some X.env.locals) (hex : X.ex = []) (hN : X.N.Nodup) (hi : X.N[i]? = some n) (hln : X.env.kindOf n = some .local) (hc : Names X x c) (tk : Takes X Wout)
    (hb : ∀ (W : WX) (pn : List (Addr × Obj)) (xe : Value → Shared → Prop), Takes (X.tr pn xe) W → PassesOwn (model X.prog X.w) X.A X.env xe → PSs (X.tr pn xe) body (tb W))
    (hsu : ∀ (a : Addr) (oe : Obj) (cls : Value) (d : Option Addr) (pn : List (Addr × Obj)), Zc cls d oe → (∃ vs, oe.data = .fields vs) → PSs (X.suite a ((a, oe) :: pn)) (b₀ :: suite) (tKeep i j)) :
    PS X (.Try body [.ExceptHandler (some (.Name x np)) (some n) (b₀ :: suite) pos'] [] [] pos) (fun D σ H => tb (wKeep X.K c i j Wout D) D σ H) := by
  refine ⟨fun pins s σ H D I h => ?_⟩
  have ok := I.ok
  have fr0 : X.A.frames = some (X.env :: X.outer) := ok.frames.trans (congrArg some hs)
  refine wpAny_Try_except ?_
  refine wpAny_mono ((hb (wKeep X.K c i j Wout D) (X.pn ++ pins)
    (fun e s₁ => wpAny (model X.prog X.w) X.A (noteFrame e X.env)
      (fun _ s₂ => wpAny (model X.prog X.w) X.A (setFlight e none)
        (fun _ s₃ => wpAny (model X.prog X.w) X.A (handleBy e X.env [.ExceptHandler (some (.Name x np)) (some n) (b₀ :: suite) pos']) (SP X pins D) X.xe s₃) X.xe s₂) X.xe s₁)
    (fun u s' xx => ?cc) PassesOwn.looking).run [] s σ H D (I.toTry _) h) (fun f s1 hsp => ?dd) (fun e s1 he => he)
  case cc =>
    obtain ⟨a, B, sI, pn1, σ1, H1, cls, d, rfl, J0, nb, up, sky, na, os, ag, b, hb1, hyes, hno⟩ := xx
    have J : Inv X pins σ1 H1 sI := J0.ofTry ok
    rw [show (X.tr (X.pn ++ pins) _).stack = X.env :: X.outer from hs] at sky
    refine Sky.land Zc.steady fr0 hf sky fun h3 fl3 up3 => ?_
    have J3 : Inv X pins σ1 H1 { s' with heap := h3 } := J.landed nb fl3.1 (up.trans up3) os ag
    obtain ⟨oe3, vs3, he3, hz3, hd3⟩ := fl3.there
    have nfr : a ∉ frs (X.env :: X.outer) := fun hm => by
      obtain ⟨_, o', e', hnf⟩ := fl3.2.2.1.mem hm
      obtain rfl := Option.some.inj (he3.symm.trans e')
      exact hnf _ hd3
    have nL : a ≠ X.env.locals := fun z => nfr (List.mem_filterMap.mpr ⟨_, List.mem_cons_self .., hf.trans (congrArg some z.symm)⟩)
    have nF : a ∉ X.fs := fun hm => by
      obtain ⟨e, he, q⟩ := List.mem_filterMap.mp hm
      exact nfr (List.mem_filterMap.mpr ⟨e, List.mem_cons_of_mem _ he, q⟩)
    have nI : ∀ o, sI.heap.get? a ≠ some o := fun o e => by
      have z := nb a o e (by rw [show X.stack = X.env :: X.outer from hs]; exact nfr)
      rw [fl3.2.1] at z; cases z
    have S3 := J3.suite he3 hd3 na nL nF
    refine wpAny_handleBy_cons (codeAny_handlers_test ?_) (by intro q; cases q)
    have LT : PySem.W.Looks (model X.prog X.w) h3 (typeOf (.ref a)) cls := fun _ _ _ _ k q => wpAny_typeOf_ref (k _ _ he3) (by rw [hz3.1]; exact q)
    have asks : ∀ {Q : Value → Shared → Prop} {E : Value → Shared → Prop}, Q c { s' with heap := h3 } → wpAny (model X.prog X.w) (X.A.mark (some (.ref a))) (eval (.Name x np) X.env) Q E { s' with heap := h3 } := fun {Q E} q => by
      obtain ⟨g1, g2, g3 | ⟨g3, g4, g5⟩⟩ := hc
      · exact ld_glob (X := X.suite a ((a, oe3) :: (X.pn ++ pins))) S3 g1 g3 q g2
      · exact ld_blt (X := X.suite a ((a, oe3) :: (X.pn ++ pins))) S3 g1 g3 g4 q g5 g2
    refine asks ((PySem.W.exm_one (M := model X.prog X.w) J3.kIn LT hb1).here ?_)
    cases b with
    | true =>
      refine codeAny_handlers_suite_as (HandSPX.lands_againZ fl3 fun h4 fl4 up4 => ?_)
      have J4 : Inv X pins σ1 H1 { s' with heap := h4 } := J.landed nb fl4.1 ((up.trans up3).trans up4) os ag
      obtain ⟨oe4, vs4, he4, hz4, hd4⟩ := fl4.there
      obtain ⟨hij, hlen, q0⟩ := hyes rfl a na
      refine store_ok (X := X.suite a ((a, oe4) :: (X.pn ++ pins))) (v := .ref a) (J4.suite he4 hd4 na nL nF) hN hi (.inl hln) rfl (fun s5 S5 => ?_) (.inr hln)
      have run6 := (hsu a oe4 cls d (X.pn ++ pins) hz4 ⟨_, hd4⟩).run [] s5 _ H1
        { nx := fun σ6 H6 => σ6 = (σ1.set i (some (.ref a))).set j (some (.ref a)) ∧ H6 = H1, rt := fun _ _ => False, bk := fun _ _ => False, ct := fun _ _ => False } S5
        ⟨.ref a, List.getElem?_set_self hlen, rfl, rfl⟩
      refine wpAny_mono run6 (fun f s6 hsp => ?_) (fun _ _ z => False.elim z)
      cases f with
      | next =>
        obtain ⟨σ6, H6, S6, rfl, rfl⟩ := hsp
        have J6 := S6.unsuite ok
        obtain ⟨g6, _⟩ := S6.pin (a, oe4) (List.mem_append_left _ (List.mem_cons_self ..))
        have T6 := Inv.track (a := a) (o := exK cls d a) J6 (by
          cases e : X.s_0.heap.get? a with
          | none => rfl
          | some o =>
            obtain ⟨o', e1⟩ := J.base.there a o e (by rw [hex]; simp)
            exact absurd e1 (nI o')) na nL (fun y c' e z => by
            subst z
            obtain ⟨v, o', e1, e2⟩ := J6.cell y c' e
            obtain rfl := Option.some.inj (g6.symm.trans e1)
            rw [hd4] at e2; cases e2) (fun p hp z => by
            obtain ⟨p1, _⟩ := J.pin p hp
            rw [z] at p1
            exact nI _ p1) (exK_ok g6 hz4 hd4)
        exact gone_ok T6 hN hi hln fun s7 J7 => ⟨_, _, J7, q0⟩
      | brk => obtain ⟨_, _, _, q⟩ := hsp; exact q.elim
      | cont => obtain ⟨_, _, _, q⟩ := hsp; exact q.elim
      | ret u => obtain ⟨_, _, _, _, _, q⟩ := hsp; exact q.elim
    | false =>
      refine wpAny_handleBy_nil ?_
      obtain ⟨_, _, _, oe, vs, T, oT, ts', he, hz, hd, h1, hr⟩ := id fl3
      unfold PySem.passOn
      refine wpAny_bind (wpAny_field he hd h1 ?_)
      rw [if_neg (show ¬ ((Value.ref T == Value.none) = true) by simp)]
      have fin : wpAny (model X.prog X.w) X.A (setFlight (.ref a) X.env.frame)
          (fun _ s4 => wpAny (model X.prog X.w) X.A (throw (.ref a) : PySem.Sem Flow) (SP X pins D) X.xe s4) X.xe { s' with heap := h3 } := by
        rw [hf]
        refine HandSPX.setFlight_upZ fl3 fun h4 hh4 up4 => wpAny_throw (tk _ _ ⟨a, B, sI, pins, σ1, H1, cls, d, rfl, J, nb, (up.trans up3).trans up4, .inr (.inr ?_), na, os, ag, hno rfl⟩)
        rw [show X.stack = X.env :: X.outer from hs]; exact hh4
      first
        | exact wpAny_bind (wpAny_pure (wpAny_bind fin))
        | exact wpAny_bind fin
  case dd =>
    cases f with
    | next => obtain ⟨σ2, H2, J2, q⟩ := hsp; exact wpAny_execs_nil ⟨σ2, H2, J2.ofTry ok, q⟩
    | brk => obtain ⟨σ2, H2, J2, q⟩ := hsp; exact ⟨σ2, H2, J2.ofTry ok, q⟩
    | cont => obtain ⟨σ2, H2, J2, q⟩ := hsp; exact ⟨σ2, H2, J2.ofTry ok, q⟩
    | ret u => obtain ⟨v, σ2, H2, J2, r, q⟩ := hsp; exact ⟨v, σ2, H2, J2.ofTry ok, r, q⟩
end
end DL
/-! DL26: readings of kept errors: try .. except C as e: x = e, isinstance(x, C), x.f. -/
namespace DL
open PySem L2

/-- an error as a value -/
def excD (x : Exn) : D := match x.f with
  | none => .n false (.exc x.name []) []
  | some (f, d) => .n false (.exc x.name [f]) [d]
/-- try: tb except some class as n (slot i): slot j = n -/
def dTryK (ns : List (String × Bool)) (i j : Nat) (tb : DS) : DS := fun D ρ => tb { D with ex := fun x ρ' => match ns.lookup x.name with
  | some true => ∃ ρ2, stV ((killB i ρ').set i .un) j (excD x) = some ρ2 ∧ clr ρ2 [i] = true ∧ D.nx ρ2
  | some false => D.ex x ρ'
  | none => False } ρ
section
variable {X : Cx} {cn : String → Addr} {E : WX}
theorem js_tryK {x n : Str} {c : Value} {i j : Nat} {body suite : List Stmt} {b₀ : Stmt} {np pos pos' : Pos} {tb : DS} {ns : List (String × Bool)} (hs : X.stack = X.env :: X.outer) (hf : X.env.frame = some X.env.locals) (hex : X.ex = []) (hN : X.N.Nodup) (hi : X.N[i]? = some n)
    (hln : X.env.kindOf n = some .local) (hc : Names X x c) (tk : Takes X E) (hij : i ≠ j) (hj : j < X.N.length)
    (hm : ∀ p ∈ ns, PySem.W.exmOne X.K (.ref (cn p.1)) c = some p.2 ∧ PySem.W.nsIn X.K mainGlobals p.1 = some (some (.ref (cn p.1))))
    (hb : ∀ (W : WX) (pn : List (Addr × Obj)) (xe : Value → Shared → Prop), Takes (X.tr pn xe) W → PassesOwn (model X.prog X.w) X.A X.env xe → JSs (X.tr pn xe) cn W body tb)
    (hsu : ∀ (a : Addr) (oe : Obj) (cls : Value) (d : Option Addr) (pn : List (Addr × Obj)), Zc cls d oe → (∃ vs, oe.data = .fields vs) → PSs (X.suite a ((a, oe) :: pn)) (b₀ :: suite) (tKeep i j)) :
    JS X cn E (.Try body [.ExceptHandler (some (.Name x np)) (some n) (b₀ :: suite) pos'] [] [] pos) (dTryK ns i j tb) := by
  refine ⟨fun pins sh σ H D I ⟨pv, γ, ρ, G, fp, D0, m, q, po⟩ => ?_⟩
  have hi' : i < X.N.length := (List.getElem?_eq_some_iff.mp hi).1
  have hlσ : X.N.length = σ.length := I.len.symm
  refine (ps_try_keep (tb := fun W => liftS X.K cn W tb) hs hf hex hN hi hln hc tk hb hsu).run pins sh σ H D I ?_
  refine ⟨pv, γ, ρ, G, fp, _, m, q, po.nx, po.bk, po.ct, po.rt, ?_⟩
  rintro y ρ' cls dx σ' G' H' fp' q' s' m' l' ex
  revert q'
  simp only
  split
  · rename_i e
    rintro ⟨ρ2, e2, ec, q'⟩
    obtain ⟨h1, h2⟩ := hm _ (look_mem e)
    refine ⟨true, by rw [ex.1]; exact h1, fun _ a na => ⟨hij, by omega, ?_⟩, fun z => by cases z⟩
    have sn : Stp G' H' (fun _ => False) (L2.upd G' a (exK cls dx a)) (L2.upd H' a (exK cls dx a)) (fun _ => False) := Stp.newG na m'.sub
    have m1 := (m'.step sn (m'.sub.updG na)).forget i
    have gn : ∀ b o, G' b = some o → L2.upd G' a (exK cls dx a) b = some o := sn.g
    have r : Rp X.K (L2.upd G' a (exK cls dx a)) (L2.upd H' a (exK cls dx a)) (.ref a) (excD y) [] := by
      obtain ⟨c1, c2⟩ := ex
      obtain ⟨yn, yf⟩ := y
      subst c1
      cases yf with
      | none =>
        simp only at c2
        subst c2
        exact Rp.f ⟨cn yn, none, h2, upd_same, rfl, rfl⟩ .nil
      | some p =>
        obtain ⟨f, d⟩ := p
        simp only at c2
        obtain ⟨dd, v, rfl, g1, g2⟩ := c2
        refine Rp.f (vs := [v]) ⟨cn yn, some dd, h2, upd_same, rfl, gn _ _ g1⟩ ?_
        exact RpL.one (g2.mov sn.g _ fun b hb => by cases hb)
    have m2 := m1.put e2 r fun b hb => by cases hb
    have hlen : (((σ'.set i (some (.ref a))).set j (some (.ref a))).set i none).length = σ'.length := by simp
    have m3 := m2.cong (σ' := ((σ'.set i (some (.ref a))).set j (some (.ref a))).set i none ++ γ) ec (by simp) fun k hk => by
      have hk' : i ≠ k := fun z => hk (by simp [z])
      by_cases hkl : k < σ'.length
      · rw [List.getElem?_append_left (by rw [hlen]; exact hkl), List.getElem?_set_ne hk']
        by_cases hkj : j = k
        · subst hkj
          rw [List.getElem?_set_self (by simpa using hkl), List.getElem?_set_self (by rw [List.length_append]; omega)]
        · rw [List.getElem?_set_ne hkj, List.getElem?_set_ne hk', List.getElem?_set_ne hkj, List.getElem?_append_left hkl]
      · have hkj : j ≠ k := fun z => hkl (by omega)
        rw [List.getElem?_append_right (by rw [hlen]; omega), hlen, List.getElem?_set_ne hkj, List.getElem?_append_right (by omega)]
    refine po.nx ρ2 _ _ _ _ q' ((s'.trans (sn.mono (P' := fun _ => False) (Q' := InF fp') (fun _ z => z.elim) fun z y => .inr y)).mono (fun _ z => z) fun z y => .inl ?_) m3 (by rw [hlen]; exact l')
    rcases InF.updF y with y | y
    · exact y
    · cases y
  · rename_i e
    intro q'
    refine ⟨false, ?_, fun z => (by cases z), fun _ => po.ex y ρ' cls dx σ' G' H' fp' q' s' m' l' ex⟩
    rw [ex.1]; exact (hm _ (look_mem e)).1
  · intro q'; exact q'.elim
/-- the suite of it: j = i -/
theorem keep_ok {i j : Nat} {st : Stmt} (h : PS X st (tAsg (tVar i) (gName j))) : PSs X [st] (tKeep i j) :=
  pss_one (ps_imp h fun D σ H ⟨v, h1, h2⟩ => ⟨v, h1, h2⟩)
end

/-! ### isinstance of a kept error -/
structure ExcD (K : PySem.W.Frag) (D : Addr) : Prop where
  hcl : (PySem.W.clsIn K D).isSome = true
  hga : PySem.W.findIn K (.ref D) "__getattribute__" = some (some (.builtin "BaseException.__getattribute__"))
  hgt : PySem.W.findIn K (.ref D) "__getattr__" = some none
  hsub : PySem.W.subIn K (.ref D) (.type "BaseException") = some true
  ha : PySem.W.findIn K (.ref D) "__class__" = some (some (.builtin "object.__class__"))
  hn : PySem.W.specialIn K (.builtin "object.__class__") "__get__" = some (some (.builtin "getset_descriptor.__get__"))
  ht : PySem.W.takesIn K (.builtin "object.__class__") = some true
  hm : PySem.W.mroIn K D (.type "object") = some true
def rIsX (K : PySem.W.Frag) (c : V) (cv : Value) : List V → Hp → VK → Prop := fun xs H Q => ∃ x b, xs = [x, c] ∧ ((x = .non ∧ PySem.W.kitOne K (.type "NoneType") cv = some b) ∨
  ∃ a D od, x = .ref a ∧ H a = some (exK (.ref D) od a) ∧ (∀ dd, od = some dd → ∃ fs, H dd = some (.xd fs)) ∧ ExcD K D ∧ PySem.W.kitOne K (.ref D) cv = some b) ∧ Q (.bl b) H
theorem exK_inst {X : Cx} {pins : List (Addr × Obj)} {σ : St} {H : Hp} {s : Shared} {a D : Addr} {od : Option Addr} (I : L2.Inv X pins σ H s) (ea : H a = some (exK (.ref D) od a)) (hd : ∀ dd, od = some dd → ∃ fs, H dd = some (.xd fs)) :
    ∃ ox oD, PySem.W.InstAt s.heap a ox D oD ∧ (∀ dd fs n v, od = some dd → H dd = some (.xd fs) → fs.lookup n = some v → ∃ o u, oD = some o ∧ PySem.W.lookIn n o = some (some u) ∧ RelV v u) := by
  obtain ⟨oe, vs, h1, h2, h3⟩ := exK_at I.hok ea
  have hno : PySem.W.notCls oe = true := by unfold PySem.W.notCls; rw [h3] <;> rfl
  cases od with
  | none => exact ⟨oe, none, ⟨h1, h2.1, hno, by rw [h2.2]; trivial⟩, fun dd fs n v z => by cases z⟩
  | some dd =>
    obtain ⟨fs, ef⟩ := hd dd rfl
    have hx : ObjOk X.prog X.w H s.heap dd (.xd fs) := I.hok dd _ ef
    obtain ⟨mA, hns, hr⟩ := hx
    obtain ⟨o, ho, hl⟩ := lookIn_ns hns
    refine ⟨oe, some o, ⟨h1, h2.1, hno, by rw [h2.2]; exact ho⟩, fun d' fs' n v z e1 e2 => ?_⟩
    cases z
    rw [ef] at e1
    cases e1
    obtain ⟨u, hu, ru⟩ := RelO.some_of (v := v) (o := mA n) (by rw [← e2]; exact hr n)
    exact ⟨o, u, rfl, by rw [hl, hu], ru⟩
theorem call_isX {X : Cx} {c : V} {cv : Value} (kc : ClsV c cv) : CallR X (.builtin "isinstance") (rIsX X.K c cv) := by
  rintro pins s σ H xs us Q I r ⟨x, b, rfl, h | ⟨a, D, od, rfl, ea, hd, T, e⟩, q⟩
  · obtain ⟨rfl, e⟩ := h
    exact call_isi pins s σ H _ us Q I r ⟨.non, c, _, _, b, rfl, kc, .base .non, e, q⟩
  · obtain ⟨u1, u2, rfl, r1, r2⟩ := vals2 r
    obtain rfl := kc.eq r2
    cases (show u1 = Value.ref a from r1)
    obtain ⟨ox, oD, J, _⟩ := exK_inst I ea hd
    exact PySem.W.kia_one (PySem.W.kitx_exc T.hcl T.hga T.hgt T.hsub T.ha T.hn T.ht T.hm) I.kIn J e (fun z => nomatch z) fun tk => ⟨.bl b, H, I.tok tk, rfl, q⟩
def isX (tbl : List (String × Bool)) : D → Option Bool
  | .n false (.exc c _) _ => tbl.lookup c
  | .p .non => some false
  | _ => none
/-- isinstance(te, a class) -/
def dIsX (tbl : List (String × Bool)) (te : DE) : DE := fun ρ Q E => te ρ (fun r ρ1 => ∃ d b, look ρ1 r = some d ∧ isX tbl d = some b ∧ Q (.t (.p (.bl b))) ρ1) E
def qIsX (tbl : List (String × Bool)) (c : V) : OpL := fun ds Q => ∃ d b, ds = [d, .p c] ∧ isX tbl d = some b ∧ Q (.p (.bl b))
section
variable {X : Cx} {cn : String → Addr} {E : WX} {tbl : List (String × Bool)} {c : V} {cv : Value}
theorem s_isX (h0 : PySem.W.kitOne X.K (.type "NoneType") cv = some false) (ht : ∀ p ∈ tbl, ∃ D, PySem.W.nsIn X.K mainGlobals p.1 = some (some (.ref D)) ∧ ExcD X.K D ∧ PySem.W.kitOne X.K (.ref D) cv = some p.2) : SemL X.K (rIsX X.K c cv) (qIsX tbl c) := by
  rintro G H vs ds Q0 Q s rs ⟨d, b, rfl, e, q⟩ fin
  obtain ⟨v, w, F, F', rfl, r1, r2⟩ := rps2 rs
  cases r2
  refine ⟨v, b, rfl, ?_, fin.p s q⟩
  unfold isX at e
  split at e
  · rename_i c' ns ch
    obtain ⟨D, h1, h2, h3⟩ := ht _ (look_mem e)
    cases r1 with
    | f g1 g2 =>
      obtain ⟨C', od, k1, k2, k3⟩ := g1
      have e1 := k1.symm.trans h1
      cases e1
      refine .inr ⟨_, D, od, rfl, s _ _ k2, fun dd z => ?_, h2, h3⟩
      subst z
      exact ⟨_, s _ _ k3.2⟩
  · cases e
    cases r1
    exact .inl ⟨rfl, h0⟩
  · cases e
theorem je_isX {e : Expr} {te : DE} (h0 : PySem.W.kitOne X.K (.type "NoneType") cv = some false) (ht : ∀ p ∈ tbl, ∃ D, PySem.W.nsIn X.K mainGlobals p.1 = some (some (.ref D)) ∧ ExcD X.K D ∧ PySem.W.kitOne X.K (.ref D) cv = some p.2)
    (h : PE X e (tCB (rIsX X.K c cv) (tCons (liftE X.K cn E te) (tCons (tC c) tNil)))) : JE X cn E e (dIsX tbl te) := by
  refine pe_imp h ?_
  rintro σ H Q ⟨pv, γ, ρ, G, fp, Q0, E0, m, q, po, px⟩
  refine ⟨pv, γ, ρ, G, fp, _, E0, m, q, fun r ρ1 v G1 H1 fp1 F1 ⟨d, b, l1, hb, q1⟩ s1 m1 o1 => ?_, px⟩
  obtain ⟨A, rA, _⟩ := look_ok m1 o1 l1
  refine s_isX h0 ht G1 H1 [v, c] [d, .p c] (fun z => Q0 (.t z) ρ1) Q m1.sub (.cons ⟨A, rA⟩ (.cons ⟨[], Rp.p _⟩ .nil)) ⟨d, b, rfl, hb, q1⟩ fun z w G3 H3 F3 qz s3 hs3 rz => ?_
  obtain ⟨f1, f2, f3⟩ := fin_new m1 s1 (fun a z => .inl z) s3 hs3
  exact po (.t z) ρ1 w G3 H3 fp1 F3 qz f1 f2 ⟨rz, f3⟩

/-! ### x.f of a kept error -/
def tXk (K : PySem.W.Frag) (n : Str) (te : TE) : TE := fun σ H Q => te σ H fun x H1 => ∃ a D dd fs v, x = .ref a ∧ H1 a = some (exK (.ref D) (some dd) a) ∧ H1 dd = some (.xd fs) ∧ fs.lookup n = some v ∧ ExcD K D ∧ PySem.W.hasDictIn K D = true ∧ PySem.W.findIn K (.ref D) n = some none ∧ Q v H1
theorem pe_xk {e : Expr} {te : TE} {n : Str} {pos : Pos} (he : PE X e te) (hb : attributeBase e n X.env (eval e X.env) = eval e X.env := by rfl) : PE X (.Attribute e n pos) (tXk X.K n te) := by
  refine ⟨fun pins s σ H Q I h => attr_of hb (thn (he.run pins s σ H _ I h) ?_)⟩
  rintro u s1 ⟨x, H1, I1, rx, a, D, dd, fs, v, rfl, ea, ed, el, T, hd, hno, q⟩
  cases (show u = Value.ref a from rx)
  obtain ⟨ox, oD, J, jf⟩ := exK_inst I1 ea fun d' z => by cases z; exact ⟨fs, ed⟩
  obtain ⟨o, w, rfl, hw, rw⟩ := jf dd fs n v rfl ed el
  exact HandSPX.exc_get I1.kIn J T.hga T.hgt T.hsub (PySem.W.findObj_own hd hno rfl hw) (handed_of rw) ⟨v, H1, I1.tok _, rw, q⟩
def fldX (cls : List String) (n : Str) : D → Option V
  | .n false (.exc c ns) ch => if cls.contains c = true then (match ns, ch with
    | [f], [.p v] => if f = n then some v else none
    | _, _ => none) else none
  | _ => none
/-- te.n, of an error of one of some classes -/
def dFld (cls : List String) (n : Str) (te : DE) : DE := fun ρ Q E => te ρ (fun r ρ1 => ∃ d v, look ρ1 r = some d ∧ fldX cls n d = some v ∧ Q (.t (.p v)) ρ1) E
theorem je_fld {e : Expr} {te : DE} {cls : List String} {n : Str} {pos : Pos} (ht : ∀ c ∈ cls, ∃ D, PySem.W.nsIn X.K mainGlobals c = some (some (.ref D)) ∧ ExcD X.K D ∧ PySem.W.hasDictIn X.K D = true ∧ PySem.W.findIn X.K (.ref D) n = some none)
    (he : JE X cn E e te) (hb : attributeBase e n X.env (eval e X.env) = eval e X.env := by rfl) : JE X cn E (.Attribute e n pos) (dFld cls n te) := by
  refine pe_imp (pe_xk he hb) ?_
  rintro σ H Q ⟨pv, γ, ρ, G, fp, Q0, E0, m, q, po, px⟩
  refine ⟨pv, γ, ρ, G, fp, _, E0, m, q, fun r ρ1 x G1 H1 fp1 F1 ⟨d, v, l1, hb, q1⟩ s1 m1 o1 => ?_, px⟩
  obtain ⟨A, rA, _⟩ := look_ok m1 o1 l1
  unfold fldX at hb
  split at hb
  · rename_i c ns ch
    split at hb
    · rename_i hc
      obtain ⟨D, t1, t2, t3, t4⟩ := ht c (by simpa using hc)
      split at hb
      · rename_i f w
        split at hb
        · rename_i hfn
          cases hb
          subst hfn
          cases rA with
          | f g1 g2 =>
            obtain ⟨C', od, k1, k2, k3⟩ := g1
            have e1 := k1.symm.trans t1
            cases e1
            cases g2 with
            | cons p1 p2 p3 =>
              cases p1
              cases p2
              cases od with
              | none => cases k3.1
              | some dd =>
                obtain ⟨f1, f2, f3⟩ := fin_new m1 s1 (fun a z => .inl z) (Stp.refl G1 H1 (fun _ => False)) m1.sub
                refine ⟨_, D, dd, _, v, rfl, m1.sub _ _ k2, m1.sub _ _ k3.2, by simp [List.lookup], t2, t3, t4, ?_⟩
                exact po (.t _) ρ1 _ G1 H1 fp1 [] q1 (f1.mono (fun _ z => z) fun a z => .inl (z.elim .inl fun z => by cases z)) f2 ⟨Rp.p _, fun a z => by cases z⟩
        · cases hb
      · cases hb
    · cases hb
  · cases hb
end
end DL
/-! DL27: raise C(e), C's own __init__ keeping one field. -/
namespace DL
open PySem L2 PyProof.Rows

/-- the n-th statement of a class's body -/
def bodyAt (n : Nat) (s : Stmt) : Stmt := match s with
  | .ClassDef _ _ _ b _ _ _ _ _ _ _ => b.getD n (.Pass ⟨0, 0, 0, 0⟩)
  | s => s
/-- what __init__ does: the field is stored, in a new dict -/
def spInit (f : Str) (K : PySem.W.Frag) : Sp := fun vs H Q _ => ∃ a w C, vs = [.ref a, w] ∧ OexC K C ∧ PySem.W.findIn K (.ref C) f = some none ∧ H a = some (exo a C none) ∧
  ∀ dx, H dx = none → dx ≠ a → Q .non (L2.upd (L2.upd H dx (exd dx [(f, w)])) a (exo a C (some dx)))
theorem init_ok {P : Program} {w : World} {K : PySem.W.Frag} {mg : Str → Option Value} {base : Heap} {f : Str} {qual : Str} {st : Stmt} {fa : Addr} {fd : FuncData} {n : Str} {k : Nat} (F : Fun K "__init__" qual st fa fd) (S : FnScope ["self", n] ["self", n] (defScope st))
    (der : ∀ (cdv : Value) (A : Around) (outer : List PySem.Env) (s : Shared) (H : Hp) (E : XK), Room k (A.deeper (envOfC qual (defScope st) s.heap.objs.size fa cdv)) →
      PSs (cxOf (L2.CX P w) P w K mg base ["self", n] qual (defScope st) fa cdv A outer s H E) (defBody st) (tOst K f (tVar 0) (tVar 1))) : FnOk P w K mg base (L2.CX P w) (k + 1) fa fd ["self", n] (spInit f K) := by
  refine F.okX S (fun vs H Q E ⟨a, w, C, e, _⟩ => by rw [e]; rfl) fun cdv A outer s H vs Q E hr ⟨a, w, C, e, T, hno, ea, q⟩ => ⟨_, der cdv A outer s H E hr, ?_⟩
  subst e
  refine ⟨w, rfl, .ref a, rfl, a, C, rfl, T, hno, .inl ⟨ea, fun dx hn hne => q dx hn hne⟩⟩
def dRaiseF (nm : String) (f : Str) (te : DE) : DS := fun D ρ => te ρ (fun r ρ1 => ∃ v, look ρ1 r = some (.p v) ∧ D.ex ⟨nm, some (f, .p v)⟩ ρ1) D.ex
section
variable {X : Cx} {cn : String → Addr} {E : WX}
theorem js_raiseF {nm : String} {f n x : Str} {C fI : Addr} {k : Nat} {fd : FuncData} {e : Expr} {te : DE} {p pos pos' : Pos} (hc : X.calm = true) (tk : Takes X E) (hC : cn nm = C) (T : OexC X.K C) (iC : PySem.W.findIn X.K (.ref C) "__init__" = some (some (.ref fI)))
    (tI : PySem.W.typeIn X.K (.ref fI) = some (.type "function")) (hno : PySem.W.findIn X.K (.ref C) f = some none) (F1 : FnOk X.prog X.w X.K X.mg X.base (L2.CX X.prog X.w) k fI fd ["self", n] (spInit f X.K)) (hr : Room (k + 1) X.A) (hb : Binds X.K fd ["self", n] []) (hg : Gl X x) (hm : X.mg x = some (.ref C))
    (he : JE X cn E e te) (hdb : (x == ("__debug__" : Str)) = false := by decide) (hst : starEach [e] X.env = [(false, eval e X.env)] := by rfl) :
    JS X cn E (.Raise (some (.Call (.Name x p) [e] [] pos)) none pos') (dRaiseF nm f te) := by
  have ha : PA X [e] (tCons (liftE X.K cn E te) tNil) := pa_cons he pa_nil hst
  refine ps_imp (ps_raise hc tk (pmk_oex (dvs := []) T iC tI F1 hr hb .nil (fun pins σ H s e' s' I c => ?px) hg hm ha hdb hst (by rfl))) ?_
  case px =>
    exact tk e' s' (XE.of_call I (fun _ _ _ h => h.elim) c)
  rintro D σ H ⟨pv, γ, ρ, G, fp, D0, m, q, po⟩
  refine ⟨pv, γ, ρ, G, fp, _, _, m, q, fun r ρ1 v G1 H1 fp1 F1 ⟨w, l1, q1⟩ s1 m1 o1 => ?_, po.ex⟩
  obtain rfl := look_p m1 o1 l1
  refine ⟨by simp, fun a na => ⟨a, v, C, rfl, T, hno, upd_same, fun dx hn hne => ⟨rfl, dx, [(f, v)], upd_same, ?_, ?_, ?_⟩⟩⟩
  · rw [upd_ne hne, upd_same]
  · rw [upd_ne hne] at hn; exact hn
  · have hdx : H1 dx = none := by rw [upd_ne hne] at hn; exact hn
    have e1 : L2.upd (del (L2.upd (L2.upd (L2.upd H1 a (exo a C none)) dx (exd dx [(f, v)])) a (exo a C (some dx))) a) dx (.xd [(f, v)]) = L2.upd H1 dx (.xd [(f, v)]) := by
      funext b
      by_cases hb1 : b = dx
      · subst hb1; rw [upd_same, upd_same]
      · rw [upd_ne hb1, upd_ne hb1]
        by_cases hb2 : b = a
        · subst hb2; rw [del_same, na]
        · rw [del_ne hb2, upd_ne hb2, upd_ne hb1, upd_ne hb2]
    rw [e1]
    have sn : Stp G1 H1 (fun _ => False) (L2.upd G1 dx (.xd [(f, v)])) (L2.upd H1 dx (.xd [(f, v)])) (fun _ => False) := Stp.newG hdx m1.sub
    obtain ⟨f1, f2, _⟩ := fin_new m1 s1 (fun a z => .inl z) sn (m1.sub.updG hdx)
    exact po.ex ⟨nm, some (f, .p v)⟩ ρ1 (.ref C) (some dx) σ _ _ fp1 q1 (f1.mono (fun _ z => z) fun _ z => .inl (.inl z)) f2 rfl ⟨by rw [hC], dx, v, rfl, upd_same, Rp.p _⟩
end
theorem oex_mk {K : PySem.W.Frag} {C : Addr} {nm q : Str} {N : Addr} {bs bm : List Value} {sn : List Str} {sub : List Value} {ab : Bool} {col : Option Bool} {dd : Option Addr} {k0 k1 k2 k3 k5 : Option Value}
    (h : K.lookup C = some (excClassObj nm q C N bs bm true sn sub ab col dd k0 k1 k2 k3 k5 "ValueError.__new__")) (hv : PySem.HandSPX.refsVE bm = true) (sa : PySem.W.findIn K (.ref C) "__setattr__" = some (some (.builtin "object.__setattr__")))
    (exC : PySem.W.subIn K (.ref C) (.type "BaseException") = some true) (tyC : PySem.W.typeIn K (.ref C) = some (.type "type")) (kC : PySem.W.keepIn K (.ref C) = true) : OexC K C :=
  ⟨⟨nm, q, N, bs, bm, sn, sub, ab, col, dd, k0, k1, k2, k3, k5, h, hv⟩, sa, exC, tyC, kC⟩
/-- isinstance over one own class, by the classes' order -/
theorem kit_mk {K : PySem.W.Frag} {t : Value} {C : Addr} {b : Bool} (hne : (t == Value.ref C) = false) (h1 : PySem.W.isClsIn K C = true) (h2 : PySem.W.typeIn K (.ref C) = some (.type "type")) (h3 : PySem.W.subIn K t (.ref C) = some b) : PySem.W.kitOne K t (.ref C) = some b := by
  have h5 : ((PySem.W.clsIn K C).isSome && PySem.W.typeIn K (.ref C) == some (.type "type")) = true := by
    rw [show (PySem.W.clsIn K C).isSome = true from h1, h2]; rfl
  unfold PySem.W.kitOne
  rw [if_neg (by rw [hne]; decide)]
  show (if ((PySem.W.clsIn K C).isSome && PySem.W.typeIn K (.ref C) == some (.type "type")) = true then PySem.W.subIn K t (.ref C) else none) = some b
  rw [if_pos h5]
  exact h3
theorem kit_bt {K : PySem.W.Frag} {D : Addr} {T : String} {b : Bool} (h1 : PySem.W.kitMeta T = true) (h3 : PySem.W.subIn K (.ref D) (.type T) = some b) : PySem.W.kitOne K (.ref D) (.type T) = some b := by
  unfold PySem.W.kitOne
  rw [if_neg (by simp)]
  show (if PySem.W.kitMeta T = true then PySem.W.subIn K (.ref D) (.type T) else none) = some b
  rw [if_pos h1]
  exact h3
theorem kit_self {K : PySem.W.Frag} {C : Addr} : PySem.W.kitOne K (.ref C) (.ref C) = some true := by
  unfold PySem.W.kitOne
  rw [if_pos (by simp)]
end DL
/-! DL28: running lemmas for kept errors. -/
namespace DL
open PySem L2
open Enc (en)
section
variable {n : Env → Prop} {rt : D → Env → Prop} {bk ct : Env → Prop} {ex : Exn → Env → Prop} {ρ ρ1 ρ2 : Env} {Q : Rv → Env → Prop} {E : Exn → Env → Prop} {tb : DS} {te : DE} {d : D} {i j : Nat} {v : V} {x : Rv} {nm : String} {f : Str}
def tyK (ns : List (String × Bool)) (i j : Nat) (n : Env → Prop) (ex : Exn → Env → Prop) (x : Exn) (ρ : Env) : Prop := match ns.lookup x.name with
  | some true => ∃ ρ2, stV ((killB i ρ).set i .un) j (excD x) = some ρ2 ∧ clr ρ2 [i] = true ∧ n ρ2
  | some false => ex x ρ
  | none => False
theorem w_tryK {ns : List (String × Bool)} (h : tb ⟨n, rt, bk, ct, fun x ρ' => tyK ns i j n ex x ρ'⟩ ρ) : dTryK ns i j tb ⟨n, rt, bk, ct, ex⟩ ρ := h
theorem w_tyT {ns : List (String × Bool)} {x : Exn} (h : ns.lookup x.name = some true) (h1 : (killB i ρ).set i .un = ρ1) (h0 : okV ρ1 j = true) (h2 : (killB j ρ1).set j (.v (excD x)) = ρ2) (hc : clr ρ2 [i] = true) (k : n ρ2) : tyK ns i j n ex x ρ := by
  unfold tyK; rw [h]; exact ⟨ρ2, by rw [h1, stV_v h0, h2], hc, k⟩
theorem w_tyF {ns : List (String × Bool)} {x : Exn} (h : ns.lookup x.name = some false) (k : ex x ρ) : tyK ns i j n ex x ρ := by unfold tyK; rw [h]; exact k
def rfK (nm : String) (f : Str) (ex : Exn → Env → Prop) (r : Rv) (ρ : Env) : Prop := ∃ v, look ρ r = some (.p v) ∧ ex ⟨nm, some (f, .p v)⟩ ρ
theorem w_raiseF (h : te ρ (fun r ρ1 => rfK nm f ex r ρ1) ex) : dRaiseF nm f te ⟨n, rt, bk, ct, ex⟩ ρ := h
theorem w_rfK (h0 : look ρ x = some (.p v)) (h : ex ⟨nm, some (f, .p v)⟩ ρ) : rfK nm f ex x ρ := ⟨v, h0, h⟩
def ixK (tbl : List (String × Bool)) (Q : Rv → Env → Prop) (r : Rv) (ρ : Env) : Prop := ∃ d b, look ρ r = some d ∧ isX tbl d = some b ∧ Q (.t (.p (.bl b))) ρ
theorem w_isX {tbl : List (String × Bool)} (h : te ρ (fun r ρ1 => ixK tbl Q r ρ1) E) : dIsX tbl te ρ Q E := h
theorem w_ixK {tbl : List (String × Bool)} {b : Bool} (h0 : look ρ x = some d) (h1 : isX tbl d = some b) (h : Q (.t (.p (.bl b))) ρ) : ixK tbl Q x ρ := ⟨d, b, h0, h1, h⟩
def fdK (cls : List String) (f : Str) (Q : Rv → Env → Prop) (r : Rv) (ρ : Env) : Prop := ∃ d v, look ρ r = some d ∧ fldX cls f d = some v ∧ Q (.t (.p v)) ρ
theorem w_fld {cls : List String} (h : te ρ (fun r ρ1 => fdK cls f Q r ρ1) E) : dFld cls f te ρ Q E := h
theorem w_fdK {cls : List String} (h0 : look ρ x = some d) (h1 : fldX cls f d = some v) (h : Q (.t (.p v)) ρ) : fdK cls f Q x ρ := ⟨d, v, h0, h1, h⟩
end
end DL
/-! DL29: comprehensions whose element may raise: the error is noted at the def's frame, the block's names go, it goes on. -/
namespace DL
open PySem PySem.Spec L2 PyProof.Rows

/-- the frame that a context runs in -/
structure Rt (X : Cx) (e0 : PySem.Env) (os : List PySem.Env) (L : Addr) : Prop where
  st : X.stack = e0 :: os
  fr : e0.frame = some L
  ef : X.env.frame = some L
/-- an error in the air of X, noted at no frame or at L -/
def XF (X : Cx) (L : Addr) (W : WX) (u : Value) (s' : Shared) : Prop :=
  ∃ (a : Addr) (B : Heap) (sI : Shared) (pins : List (Addr × Obj)) (σ : L2.St) (H : Hp) (cls : Value) (d : Option Addr), u = .ref a ∧ L2.Inv X pins σ H sI ∧
    (∀ b o, sI.heap.get? b = some o → b ∉ frs X.stack → B.get? b = some o) ∧ sI.heap.UpToSlots s'.heap ∧ Sky B X.stack a (Zc cls d) L s'.heap ∧ H a = none ∧ s'.os = sI.os ∧ AllBare s'.gens ∧ W cls d σ H
def TakesF (X : Cx) (W : WX) : Prop := ∃ e0 os L, Rt X e0 os L ∧ ∀ u s', XF X L W u s' → X.xe u s'
theorem TakesF.at {X : Cx} {W : WX} (tk : TakesF X W) (σ : L2.St) : PassesAt (L2.CX X.prog X.w) X σ (WE W σ) := by
  obtain ⟨e0, os, L, r, tk⟩ := tk
  intro pins H s u s' I c
  have c0 := c
  obtain ⟨a1, B1, H1, cls1, d1, rfl, ⟨_, _, _, oe1, vs1, T1, oT1, ts1, f1, f2, f3, f4, f5, f6, f7, f8, f9⟩, _⟩ := c
  obtain ⟨a, B, sI, pn, σ2, H2, cls, d, ea, I2, nb, up, sky, na, ho, hg, w⟩ := XE.of_call (W := W) I (fun _ _ _ h => h) c0
  have ea' : a1 = a := by injection ea
  subst ea'
  refine tk _ _ ⟨a1, B, sI, pn, σ2, H2, cls, d, rfl, I2, nb, up, ?_, na, ho, hg, w⟩
  rcases sky with ⟨_, _, _, oe, vs, g1, g2, g3, g4⟩ | fl | ⟨_, _, _, oe, vs, T, oT, ts, g1, g2, g3, g4, g5, g6, g7, g8, g9⟩
  · obtain rfl := Option.some.inj (f1.symm.trans g1)
    rw [f3] at g3
    cases g3
    rw [f4] at g4; cases g4
  · exact .inr (.inl fl)
  · obtain rfl := Option.some.inj (f1.symm.trans g1)
    rw [f3] at g3
    cases g3
    rw [f4] at g4
    cases g4
    obtain rfl := Option.some.inj (f7.symm.trans g7)
    rw [f8] at g8
    cases g8
    rw [f9] at g9
    cases g9
/-- what a block's error does: its names go, it is passed on -/
def errP (M : Model) (A : Around) (E : Value → Shared → Prop) (fr : Option Addr) (x : Value) (C : Addr) (s' : Shared) : Prop :=
  ∃ m, s'.heap.Ns C m ∧ ∀ h', Heap.SameBut C s'.heap h' → ∀ cenv : PySem.Env, cenv.locals = C → cenv.frame = fr →
    wpAny M A (passOn "comprehension.variables-let-go" x cenv : PySem.Sem Value) (fun _ _ => False) E { s' with heap := h' }
def cPost (M : Model) (A : Around) (E : Value → Shared → Prop) (Q : Value → Shared → Prop) (acc : Value) (C : Addr) (fr : Option Addr) (r : Result) (s' : Shared) : Prop := match r with
  | .ok _ => ∃ m, s'.heap.Ns C m ∧ ∀ h', Heap.SameBut C s'.heap h' → Q acc { s' with heap := h' }
  | .error x => errP M A E fr x C s'
end DL
/-! DL30: the rule of such a comprehension. -/
namespace DL
open PySem PySem.Spec L2 PyProof.Rows

section
variable {X : Cx} {pins : List (Addr × Obj)} {σ : L2.St} {H3 : Hp} {s3 : Shared} {W : WX} {e0 : PySem.Env} {os : List PySem.Env} {L : Addr} {scope : Scope} {ce : PySem.Env} {fp : List Addr} {xe : Value → Shared → Prop}
/-- a comprehension: te's wish about errors is the context's, at the slots as they were -/
def tLcX (W : WX) (wi : TI) (g : TG) (tt : TT) (te : WX → TE) (vs : List Nat) : TE := fun σ H Q => tLc wi g tt (te fun cls d _ H' => W cls d σ H') vs σ H Q
end
end DL
/-! DL31: readings of comprehensions whose element may raise; calls in them. -/
namespace DL
open PySem L2

/-- nothing is known of the slots any more -/
def unE (ρ : Env) : Env := ρ.map fun _ => Sl.un
theorem Mt.none {K : PySem.W.Frag} {pv : Nat → V} {σ σ' : St} {ρ : Env} {G H : Hp} {fp : Fps} (m : Mt K pv σ ρ G H fp) (hl : σ'.length = σ.length) : Mt K pv σ' (unE ρ) G H (fun _ => []) := by
  have no : ∀ i s, (unE ρ)[i]? = some s → s = Sl.un := fun i s e => by
    unfold unE at e
    rw [List.getElem?_map] at e
    cases h : ρ[i]? with
    | none => rw [h] at e; cases e
    | some y => rw [h] at e; cases e; rfl
  refine ⟨m.sub, by unfold unE; rw [List.length_map, hl]; exact m.len, fun i d e => ?_, fun i d e => ?_, fun i j q e => ?_, fun _ _ _ _ z => (by cases z), fun _ _ z => (by cases z)⟩
  · cases no _ _ e
  · cases no _ _ e
  · cases no _ _ e
def dLcLX (g : DG) (tt : DT) (te : DE) (vs : List Nat) (Q : List D → Env → Prop) (E : Exn → Env → Prop) : List D → Env → List D → Prop
  | [], ρ, acc => Q acc ρ
  | d :: ds, ρ, acc => g (.t d) ρ fun ρ1 => tt ρ1 (fun b ρ2 => if b = true then te ρ2 (fun r ρ3 => ∃ d' ρ4, tk ρ3 r = some (d', ρ4) ∧ acc.length < 100000 ∧ dLcLX g tt te vs Q E ds (wipeD ρ4 vs) (acc ++ [d'])) (fun x ρ5 => E x (unE ρ5))
      else dLcLX g tt te vs Q E ds (wipeD ρ2 vs) acc) (fun _ _ => False)
def dLcX (ti : DI) (g : DG) (tt : DT) (te : DE) (vs : List Nat) : DE := fun ρ Q E => ti ρ (fun items ρ1 => (vs.all fun i => decide (i < ρ1.length)) = true ∧ dLcLX g tt te vs (fun ds ρ2 => Q (.t (.n true .lst ds)) ρ2) E items (wipeD ρ1 vs) []) E
section
variable {ρ ρ1 : Env} {Q : Rv → Env → Prop} {E : Exn → Env → Prop} {te : DE} {ti : DI} {g : DG} {tt : DT} {vs : List Nat}
theorem w_lcX (h : ti ρ (fun items ρ1 => lcK ρ1 vs (fun ρ' => dLcLX g tt te vs (fun ds ρ2 => Q (.t (.n true .lst ds)) ρ2) E items ρ' [])) E) : dLcX ti g tt te vs ρ Q E := h
end
end DL
/-! DL32: a list some times over. -/
namespace DL
open PySem L2
def qRepL : Op2
  | .n _ .lst ch, .p (.int n), Q => isFzL ch = true ∧ (-(2 ^ 63) ≤ n ∧ n < 2 ^ 63) ∧ n.toNat * ch.length ≤ 100000 ∧ Q (.own (List.replicate n.toNat ch).flatten)
  | _, _, _ => False
theorem RpL.rep {K : PySem.W.Frag} {G H : Hp} {vs : List V} {ch : List D} (r : RpL K G H vs ch []) : ∀ n, RpL K G H (List.replicate n vs).flatten (List.replicate n ch).flatten []
  | 0 => .nil
  | n + 1 => by
    rw [List.replicate_succ, List.replicate_succ, List.flatten_cons, List.flatten_cons]
    have := r.app (RpL.rep r n) fun a z => by cases z
    simpa using this
theorem s_repL {K : PySem.W.Frag} : Sem2 K rRep qRepL := by
  intro G H v u d e F1 F2 Q0 Q s r1 r2 q fin
  unfold qRepL at q
  split at q
  · rename_i o ch n
    obtain ⟨q1, hn, q2, q3⟩ := q
    obtain ⟨a, vs, F, rfl, h1, h2⟩ := r1.list s
    cases r2
    have hl := h2.len
    exact ⟨a, n, vs, rfl, rfl, h1, hn.1, hn.2, by rw [hl, Nat.mul_comm]; exact size_of q2, fun p hp => fin.lst s ((h2.shared q1).rep _) hp q3⟩
  · exact q.elim
section
variable {k : D → Prop} {o : Bool} {ch : List D} {n : Int}
theorem w_repL (h1 : isFzL ch = true) (h0 : -(2 ^ 63) ≤ n ∧ n < 2 ^ 63) (h2 : n.toNat * ch.length ≤ 100000) (h : k (.own (List.replicate n.toNat ch).flatten)) : qRepL (.n o .lst ch) (.p (.int n)) k := ⟨h1, h0, h2, h⟩
end
end DL
/-! DL33: x, y = e, e a tuple with parts of its own. -/
namespace DL
open PySem L2
def dUnp (te : DE) (i j : Nat) : DS := fun D ρ => te ρ (fun r ρ1 => ∃ d1 d2 ρ2 ρ3, r = .t (.n false .tup [d1, d2]) ∧ stV ρ1 i d1 = some ρ2 ∧ stV ρ2 j d2 = some ρ3 ∧ D.nx ρ3) D.ex
section
variable {X : Cx} {cn : String → Addr} {E : WX} {st : Stmt} {te : DE}
end
section
variable {n : Env → Prop} {rt : D → Env → Prop} {bk ct : Env → Prop} {ex : Exn → Env → Prop} {ρ ρ1 ρ2 : Env} {te : DE} {i j : Nat} {d1 d2 : D}
def upK (i j : Nat) (n : Env → Prop) (r : Rv) (ρ1 : Env) : Prop := ∃ d1 d2 ρ2 ρ3, r = .t (.n false .tup [d1, d2]) ∧ stV ρ1 i d1 = some ρ2 ∧ stV ρ2 j d2 = some ρ3 ∧ n ρ3
theorem w_unp (h : te ρ (fun r ρ1 => upK i j n r ρ1) ex) : dUnp te i j ⟨n, rt, bk, ct, ex⟩ ρ := h
theorem w_upK (h0 : okV ρ i = true) (h1 : (killB i ρ).set i (.v d1) = ρ1) (h2 : okV ρ1 j = true) (h3 : (killB j ρ1).set j (.v d2) = ρ2) (h : n ρ2) : upK i j n (.t (.n false .tup [d1, d2])) ρ :=
  ⟨d1, d2, ρ1, ρ2, rfl, by rw [stV_v h0, h1], by rw [stV_v h2, h3], h⟩
end
end DL
/-! DL34: sorted of tuples of ints and texts, xs[::-1]. -/
namespace DL
open PySem L2
abbrev Itm := Int ⊕ Str
def Itm.v : Itm → V
  | .inl i => .int i
  | .inr x => .str x
def Itm.k : Itm → Int ⊕ List Nat
  | .inl i => .inl i
  | .inr x => .inr x.cps.toList
def Itm.b : Itm → Bool
  | .inl _ => false
  | .inr _ => true
/-- as tuples of such compare -/
def ltI (a b : List Itm) : Bool := PyProof.Rows.lexLt PyProof.Rows.itemOrd (a.map Itm.k) (b.map Itm.k)
/-- a tuple of the heap with such items -/
def TupAt (h : Heap) (v : Value) (is : List Itm) : Prop := ∃ t o us n, v = .ref t ∧ h.get? t = some o ∧ o.cls = .type "tuple" ∧ o.data = .seq (List.toArray us) n ∧ Vals (is.map Itm.v) us
theorem tupItems_of {shape : Nat → Bool} : ∀ {is : List Itm} {us : List Value} {i : Nat}, Vals (is.map Itm.v) us → (∀ j x, is[j]? = some x → shape (i + j) = Itm.b x) → PyProof.Rows.tupItems shape i us = some (is.map Itm.k)
  | [], _, _, .nil, _ => rfl
  | x :: is, _, i, .cons r t, h => by
    have h0 := h 0 x rfl
    have ih := tupItems_of (shape := shape) (i := i + 1) t fun j y e => by
      have := h (j + 1) y (by simpa using e)
      rwa [show i + 1 + j = i + (j + 1) by omega]
    cases x with
    | inl n =>
      obtain ⟨k, rfl⟩ := r
      have h0' : shape i = false := h0
      simp only [PyProof.Rows.tupItems, h0', Bool.false_eq_true, if_false, ih, Option.map_some, List.map_cons, Itm.k]
    | inr z =>
      obtain ⟨k, rfl⟩ := r
      have h0' : shape i = true := h0
      simp only [PyProof.Rows.tupItems, h0', if_true, ih, Option.map_some, List.map_cons, Itm.k]
theorem TupAt.keeps {h h' : Heap} {v : Value} {is : List Itm} (x : TupAt h v is) (k : ∀ b o, h.get? b = some o → o.cls = .type "tuple" → h'.get? b = some o) : TupAt h' v is := by
  obtain ⟨t, o, us, n, e, ho, hc, hd, r⟩ := x
  exact ⟨t, o, us, n, e, k _ _ ho hc, hc, hd, r⟩
theorem shape_of {sh : List Bool} {is : List Itm} (e : is.map Itm.b = sh) : ∀ j x, is[j]? = some x → (fun i => sh.getD i false) (0 + j) = Itm.b x := by
  intro j x h
  subst e
  simp [List.getD_eq_getElem?_getD, List.getElem?_map, h]
section
variable {prog : Program} {w : World} {A : Around} {E : Value → Shared → Prop} {s : Shared}
open PyProof.Rows
theorem TupAt.key {h : Heap} {v : Value} {is : List Itm} {sh : List Bool} (x : TupAt h v is) (e : is.map Itm.b = sh) : tupKey h (fun i => sh.getD i false) v = some (is.map Itm.k) := by
  obtain ⟨t, o, us, n, rfl, ho, hc, hd, r⟩ := x
  unfold tupKey
  simp only [ho, hd]
  exact tupItems_of r (shape_of e)
end
/-- sorted(xs), xs a list of tuples of ints and texts, alike place by place -/
def rSortedT (K : PySem.W.Frag) : List V → Hp → VK → Prop := fun vs H Q => ∃ (a : Addr) (xs : List V) (k : V → List Itm) (b : Bool) (sh : List Bool), vs = [V.ref a] ∧ SqL K H a xs ∧ (∀ x ∈ xs, ∃ t, x = V.ref t ∧ H t = some (.tup ((k x).map Itm.v)) ∧ (k x).map Itm.b = b :: sh) ∧
  ∀ ys p, SrtO.Srtd (fun x y => ltI (k x) (k y)) ys → ys.Perm xs → H p = none → Q (.ref p) (L2.upd H p (.lst ys))
section
variable {X : Cx}
end
/-- a tuple of such items -/
def itD (is : List Itm) : D := .tup (is.map fun i => .p i.v)
/-- sorted of tuples of ints and texts -/
def qSortT : OpL := fun ds Q => ∃ (d : D) (ch : List D) (xs : List (List Itm)) (b : Bool) (sh : List Bool), ds = [d] ∧ listOf d = some ch ∧ ch = xs.map itD ∧ (∀ x ∈ xs, x.map Itm.b = b :: sh) ∧ ∀ ys : List (List Itm), ys.Perm xs → ys.Pairwise (fun a b => ltI b a = false) → Q (.own (ys.map itD))
def unI : V → Itm
  | .int i => .inl i
  | .str x => .inr x
  | _ => .inl 0
def kG (G : Hp) : V → List Itm
  | .ref t => match G t with
    | some (.tup ws) => ws.map unI
    | _ => []
  | _ => []
section
variable {K : PySem.W.Frag} {G H : Hp}
end
section
variable {X : Cx} {cn : String → Addr} {E : WX}
/-- xs[::-1] -/
def qRevL : D → (D → Prop) → Prop := fun d Q => ∃ ch, listOf d = some ch ∧ isFzL ch = true ∧ Q (.own ch.reverse)
/-! ### for the run -/
end
end DL
/-! DL35: a slot frozen ahead of a statement. -/
namespace DL
open PySem L2
/-- what slot i holds is shared from here on -/
def dFrz (i : Nat) (t : DS) : DS := fun D ρ => ∃ d, ρ[i]? = some (.v d) ∧ t D ((killB i ρ).set i (.v d.fz))
section
variable {X : Cx} {cn : String → Addr} {E : WX}
theorem js_frz {i : Nat} {st : Stmt} {t : DS} (h : JS X cn E st t) : JS X cn E st (dFrz i t) :=
  ps_imp h fun Dn σ H ⟨pv, γ, ρ, G, fp, D0, m, ⟨d, hd, q⟩, po⟩ => by
    refine ⟨pv, γ, _, frzH G H (fp i), updF fp i [], D0, m.frz hd, q, po.on ?_⟩
    refine (Stp.frz (P := InF fp) (fun a ha => (m.ft i a ha).1) fun a ha => ⟨i, ha⟩).mono (fun _ z => z) fun a z => .inr ?_
    rcases InF.updF z with z | z
    · exact z
    · cases z
end
theorem w_frz {i : Nat} {t : DS} {D : DEnds} {ρ ρ1 : Env} {d d' : DL.D} (h0 : ρ[i]? = some (.v d)) (h2 : d.fz = d') (h1 : (killB i ρ).set i (.v d') = ρ1) (h : t D ρ1) : dFrz i t D ρ := ⟨d, h0, by rw [h2, h1]; exact h⟩
end DL
/-! DL36: {k: v}, k a text that is told by an expression. -/
namespace DL
open PySem L2
def dDisp1 (t : DA) : DE := fun ρ Q E => t ρ (fun rs ρ1 => ∃ k d ρ2, tkL ρ1 rs = some ([.p (.str k), d], ρ2) ∧ Q (.t (.n true (.dic [.inr k]) [d])) ρ2) E
section
variable {X : Cx} {cn : String → Addr} {E : WX} {pos : Pos} {e f : Expr} {ta tb : DE}
end
section
variable {ρ ρ2 : Env} {Q : Rv → Env → Prop} {E : Exn → Env → Prop} {t : DA} {xs : List Rv}
def dp1K (xs : List Rv) (ρ1 : Env) (Q : Rv → Env → Prop) : Prop := ∃ k d ρ2, tkL ρ1 xs = some ([.p (.str k), d], ρ2) ∧ Q (.t (.n true (.dic [.inr k]) [d])) ρ2
theorem w_disp1 (h : t ρ (fun rs ρ1 => dp1K rs ρ1 Q) E) : dDisp1 t ρ Q E := h
theorem w_dp1K {k : Str} {d : D} (h1 : tkL ρ xs = some ([.p (.str k), d], ρ2)) (h : Q (.t (.n true (.dic [.inr k]) [d])) ρ2) : dp1K xs ρ Q := ⟨k, d, ρ2, h1, h⟩
end
end DL
/-! DL37: enumerate(zip(a, b)): the pair that zip gave last may still be held. -/
namespace DL
open PySem L2 PyProof.Rows
section
variable {prog : Program} {w : World} {A : Around} {E : Value → Shared → Prop} {s : Shared}
abbrev zo (v : Value) (b : Bool) (ti tq : Addr) : Obj := { cls := .type "zip", dict := none, data := .fields #[v, .bool b, .bool false, .ref ti, .ref tq], slots := #[] }
def zv (v : Value) : Prop := v = .none ∨ ∃ T : Addr, v = rawInt T
open AutoSeq1 (wpAny_loadPart') in
end
/-- the lists at a and b, both items and the index in new tuples -/
def Itez (K : PySem.W.Frag) (a b : Addr) : It :=
  ⟨fun i H => ∃ (xs ys : List V) (x y : V), SqL K H a xs ∧ SqL K H b ys ∧ xs[i]? = some x ∧ ys[i]? = some y,
    fun i H v H' => ∃ T U x y, v = .ref U ∧ H T = none ∧ (upd H T (.tup [x, y])) U = none ∧ H' = upd (upd H T (.tup [x, y])) U (.tup [.int (i : Nat), .ref T]) ∧ (∀ xs, SqL K H a xs → xs[i]? = some x) ∧ ∀ ys, SqL K H b ys → ys[i]? = some y,
    fun i H => ∃ xs ys : List V, SqL K H a xs ∧ SqL K H b ys ∧ (xs.length ≤ i ∨ ys.length ≤ i)⟩
def iEZ (K : PySem.W.Frag) (ta : TA) : TI := fun σ H R => ta σ H fun vs H1 => ∃ a b xs ys, vs = [.ref a, .ref b] ∧ SqL K H1 a xs ∧ SqL K H1 b ys ∧ R (Itez K a b) H1
/-! ### over deep values -/
def dIEZ (t : DA) : DI := fun ρ Q E => t ρ (fun rs ρ1 => ∃ d e ρ2 ch ch', tkFL ρ1 rs = some ([d, e], ρ2) ∧ listOf d = some ch ∧ listOf e = some ch' ∧ Q (enumL 0 (zipL ch ch')) ρ2) E
section
variable {X : Cx} {cn : String → Addr} {E : WX} {iter tg : Expr} {t : DA}
end
def ezK (xs : List Rv) (ρ : Env) (k : List D → Env → Prop) : Prop := ∃ d e ρ2 ch ch', tkFL ρ xs = some ([d, e], ρ2) ∧ listOf d = some ch ∧ listOf e = some ch' ∧ k (enumL 0 (zipL ch ch')) ρ2
section
variable {ρ ρ2 : Env} {tA : DA} {QI : List D → Env → Prop} {E : Exn → Env → Prop} {xs : List Rv} {d e : D}
theorem w_ez (h : tA ρ (fun rs ρ1 => ezK rs ρ1 QI) E) : dIEZ tA ρ QI E := h
theorem w_ezK {k : List D → Env → Prop} {ch ch' : List D} (h1 : tkFL ρ xs = some ([d, e], ρ2)) (h2 : listOf d = some ch) (h3 : listOf e = some ch') (h : k (enumL 0 (zipL ch ch')) ρ2) : ezK xs ρ k := ⟨d, e, ρ2, ch, ch', h1, h2, h3, h⟩
end
end DL
/-! DL38: max and min of data that can be compared; defs with defaults. -/
namespace DL
open PySem L2 PyProof.Rows PySem.W
section
variable {prog : Program} {w : World} {A : Around} {E : Value → Shared → Prop} {s : Shared}
end
section
variable {X : Cx}
/-- max(x, y) -/
def rMaxP (K : PySem.W.Frag) : List V → Hp → VK → Prop := fun vs H Q => ∃ x y d e, vs = [x, y] ∧ Dp K H x d ∧ Dp K H y e ∧ AlikeAll [d, e] ∧ PyData.depthAll [d, e] ≤ 60 ∧ Q (if dataLt d e = true then y else x) H
/-! ### min, max of a list -/
def rMinL (K : PySem.W.Frag) : List V → Hp → VK → Prop := fun vs H Q => ∃ a xs ds, vs = [.ref a] ∧ SqL K H a xs ∧ DpAll K H xs ds ∧ AlikeAll ds ∧ ds ≠ [] ∧ PyData.depthAll ds ≤ 60 ∧
  ∀ i x, i < xs.length → i = argBest (fun i j => dataLt (ds.getD i .none) (ds.getD j .none)) (xs.length - 1) → xs[i]? = some x → Q x H
def rMaxL (K : PySem.W.Frag) : List V → Hp → VK → Prop := fun vs H Q => ∃ a xs ds, vs = [.ref a] ∧ SqL K H a xs ∧ DpAll K H xs ds ∧ AlikeAll ds ∧ ds ≠ [] ∧ PyData.depthAll ds ≤ 60 ∧
  ∀ i x, i < xs.length → i = argBest (fun i j => dataLt (ds.getD j .none) (ds.getD i .none)) (xs.length - 1) → xs[i]? = some x → Q x H
theorem best_lt (bt : Nat → Nat → Bool) : ∀ n, argBest bt n ≤ n
  | 0 => Nat.le_refl _
  | n + 1 => by
    have := best_lt bt n
    simp only [argBest]
    split <;> omega
theorem dpAll_len {K : PySem.W.Frag} {H : Hp} : ∀ {xs : List V} {ds : List PyData}, DpAll K H xs ds → xs.length = ds.length
  | [], [], _ => rfl
  | _ :: _, _ :: _, .cons _ h => by rw [List.length_cons, List.length_cons, dpAll_len h]
theorem call_maxL (hc : X.calm = true) (hu : X.A.units + 65 < cLine) : CallR X (.builtin "max") (rMaxL X.K) := by
  intro pins s σ H xs us Q I r h
  obtain ⟨a, vs, ds, rfl, hq, hd, hA, hne, hl, q⟩ := h
  obtain ⟨u, rfl, r1⟩ := vals1 r
  cases r1
  obtain ⟨its, rv, p, _⟩ := I.list hq
  obtain ⟨as, ra⟩ := Dp.readsAll I ds vs its hd rv
  have l1 : vs.length = its.length := rv.length
  have l2 := dpAll_len hd
  have h0 : 0 < ds.length := List.length_pos_iff.mpr hne
  refine call_max_walkH (iter_listW (A := X.A.in1) (I.ok.hd hc) p.isList fun s2 e W st gf gw gk => ?_)
  refine ⟨_, _, _, _, _, _, _, s.heap, _, rfl, W, st, gf, by simp; omega, gw, gk, cmpIn_gt (A := X.A.in1) (vs := its.toArray) (by simpa using ra) hA (by show X.A.units + 1 + _ < _; omega), fun v s' hP m => ?_⟩
  obtain ⟨h', tk, rfl, kp⟩ := moved_old e rfl m
  have sz : its.toArray.size - 1 = vs.length - 1 := by simp [l1]
  rw [sz] at hP
  have hi := best_lt (fun i j => dataLt (ds.getD j .none) (ds.getD i .none)) (vs.length - 1)
  generalize ei : argBest (fun i j => dataLt (ds.getD j .none) (ds.getD i .none)) (vs.length - 1) = i at hP hi
  have hlt : i < vs.length := by omega
  have hx : vs[i]? = some vs[i] := List.getElem?_eq_getElem hlt
  obtain ⟨y, hy, ry⟩ := rv.get hx
  have : its[i]? = some v := by simpa using hP
  rw [this] at hy
  cases hy
  exact ⟨_, H, I.kept kp, ry, q i _ hlt ei.symm hx⟩
end
/-! ### over deep values -/
def ltD (d e : D) : Bool := dataLt (toPy d) (toPy e)
def qMaxP : OpL := fun ds Q => ∃ d e, ds = [d, e] ∧ ((d.isFz = true ∧ e.isFz = true) ∧ ((toPy d).plain = true ∧ (toPy e).plain = true)) ∧ AlikeAll [toPy d, toPy e] ∧ PyData.depthAll [toPy d, toPy e] ≤ 60 ∧ Q (if ltD d e = true then e else d)
def qMinL : OpL := fun ds Q => ∃ d ch, ds = [d] ∧ listOf d = some ch ∧ isFzL ch = true ∧ PyData.plainAll (toPyL ch) = true ∧ AlikeAll (toPyL ch) ∧ ch ≠ [] ∧ PyData.depthAll (toPyL ch) ≤ 60 ∧
  ∀ i c, i = argBest (fun i j => dataLt ((toPyL ch).getD i .none) ((toPyL ch).getD j .none)) (ch.length - 1) → ch[i]? = some c → Q c
def qMaxL : OpL := fun ds Q => ∃ d ch, ds = [d] ∧ listOf d = some ch ∧ isFzL ch = true ∧ PyData.plainAll (toPyL ch) = true ∧ AlikeAll (toPyL ch) ∧ ch ≠ [] ∧ PyData.depthAll (toPyL ch) ≤ 60 ∧
  ∀ i c, i = argBest (fun i j => dataLt ((toPyL ch).getD j .none) ((toPyL ch).getD i .none)) (ch.length - 1) → ch[i]? = some c → Q c
theorem toPyL_len : ∀ ch : List D, (toPyL ch).length = ch.length
  | [] => rfl
  | _ :: ch => by rw [toPyL, List.length_cons, List.length_cons, toPyL_len ch]
section
variable {X : Cx}
theorem s_maxL : SemL X.K (rMaxL X.K) qMaxL := by
  rintro G H vs ds Q0 Q s rs ⟨d, ch, rfl, e, hz, hp, hA, hn, hl, q⟩ fin
  obtain ⟨v, F, rfl, r⟩ := rps1 rs
  obtain ⟨a, vs, F', rfl, h1, h2⟩ := r.listOf s e
  refine ⟨a, vs, toPyL ch, rfl, h1, RpL.dp s ch h2 hp, hA, fun z => hn (List.length_eq_zero_iff.mp (by rw [← toPyL_len, z]; rfl)), hl, fun i x hi ei hx => ?_⟩
  have hc : ch[i]? = some (ch[i]'(by rw [← h2.len]; exact hi)) := List.getElem?_eq_getElem _
  obtain ⟨x', hx', rc⟩ := (h2.shared hz).at0 hc
  rw [hx] at hx'
  cases hx'
  rw [h2.len] at ei
  exact fin _ _ G H [] (q i _ ei hc) ((Stp.refl G H _).mono (fun _ z => z) fun a z => by cases z) s rc
end
/-! ### pairs of numbers -/
/-! ### defs with defaults -/
section
variable {P : Program} {w : World} {K : PySem.W.Frag} {mg : Str → Option Value} {base : Heap} {cn : String → Addr}
abbrev FunDf (K : PySem.W.Frag) (x qual : Str) (st : Stmt) (dvs : List V) (f : Addr) (fd : FuncData) : Prop := FunD K x qual (defArgs st) (defBody st) (defScope st) dvs [] f fd
end
end DL
/-! DL39: list(range(..)) as a value. -/
namespace DL
open PySem L2
def dLRg1 (ta : DE) : DE := fun ρ Q E => ta ρ (fun x ρ1 => ∃ j, look ρ1 x = some (.p (.int j)) ∧ RgOk 0 j ∧ Q (.t (.own (rngL 0 j.toNat))) ρ1) E
def dLRg2 (ta tb : DE) : DE := fun ρ Q E => ta ρ (fun x ρ1 => tb ρ1 (fun y ρ2 => ∃ i j, look ρ2 x = some (.p (.int i)) ∧ look ρ2 y = some (.p (.int j)) ∧ RgOk i j ∧ Q (.t (.own (rngL i (j - i).toNat))) ρ2) E) E
section
variable {X : Cx} {cn : String → Addr} {E : WX} {a b : Expr} {ta tb : DE} {p pos p' pos' : Pos}
end
section
variable {ρ : Env} {ta tb : DE} {Q : Rv → Env → Prop} {E : Exn → Env → Prop} {x y : Rv}
def lr1K (x : Rv) (ρ : Env) (Q : Rv → Env → Prop) : Prop := ∃ j, look ρ x = some (.p (.int j)) ∧ RgOk 0 j ∧ Q (.t (.own (rngL 0 j.toNat))) ρ
def lr2K (x y : Rv) (ρ : Env) (Q : Rv → Env → Prop) : Prop := ∃ i j, look ρ x = some (.p (.int i)) ∧ look ρ y = some (.p (.int j)) ∧ RgOk i j ∧ Q (.t (.own (rngL i (j - i).toNat))) ρ
theorem w_lrg1 (h : ta ρ (fun x ρ1 => lr1K x ρ1 Q) E) : dLRg1 ta ρ Q E := h
theorem w_lrg2 (h : ta ρ (fun x ρ1 => tb ρ1 (fun y ρ2 => lr2K x y ρ2 Q) E) E) : dLRg2 ta tb ρ Q E := h
theorem w_lr1K {j : Int} (h1 : look ρ x = some (.p (.int j))) (h2 : j ≤ 16777216 ∧ 0 ≤ j) (h : Q (.t (eo ((List.range j.toNat).map fun k => ((k : Nat) : Int)))) ρ) : lr1K x ρ Q := ⟨j, h1, RgOk.of_le (Int.le_refl _) h2.1 (by omega) h2.2, by
  have e : (D.own (rngL 0 j.toNat) : D) = eo ((List.range j.toNat).map fun k => ((k : Nat) : Int)) := by
    unfold eo rngL
    rw [List.map_map]
    congr 1
    refine List.map_congr_left fun k _ => ?_
    show D.p _ = D.p _
    rw [Int.zero_add]
  rw [e]; exact h⟩
theorem w_lr2K {i j : Int} (h1 : look ρ x = some (.p (.int i))) (h2 : look ρ y = some (.p (.int j))) (h3 : -16777216 ≤ i ∧ i ≤ 16777216 ∧ -16777216 ≤ j ∧ j ≤ 16777216 ∧ j - i ≤ 16777216) (h : Q (.t (eo ((List.range (j - i).toNat).map fun k => i + ((k : Nat) : Int)))) ρ) : lr2K x y ρ Q :=
  ⟨i, j, h1, h2, ⟨by omega, by omega, by omega, by omega, by omega⟩, by
  have e : (D.own (rngL i (j - i).toNat) : D) = eo ((List.range (j - i).toNat).map fun k => i + ((k : Nat) : Int)) := by
    unfold eo rngL
    rw [List.map_map]
    rfl
  rw [e]; exact h⟩
end
theorem w_max2 {i j : Int} {k : D → Prop} (h : k (.int (max i j))) : qMax2 [.p (.int i), .p (.int j)] k := ⟨i, j, rfl, by
  have e : (if j > i then j else i) = max i j := by
    by_cases c : j > i
    · rw [if_pos c]; omega
    · rw [if_neg c]; omega
  rw [e]; exact h⟩
end DL
/-! DL40: calls by keywords of defs with defaults. -/
namespace DL
open PySem L2
def dCallD (g : {α : Type} → List α → List α → List α) (dvs : List V) (s : SpD) (t tk : DA) : DE := fun ρ Q E => t ρ (fun rs ρ1 => ∃ ds ρ2, tkFL ρ1 rs = some (ds, ρ2) ∧ tk ρ2 (fun zs ρ3 => ∃ es ρ4, tkFL ρ3 zs = some (es, ρ4) ∧
  s (g ds es ++ dvs.map D.p) (fun res _ => Q (.t res) ρ4) (fun x _ => E x ρ4)) E) E
section
variable {X : Cx} {cn : String → Addr} {E : WX} {k : Nat} {f : Addr} {fd : FuncData} {ps ks : List Str} {s : SpD} {x : Str} {p pos kpos : Pos} {e : Expr} {es : List Expr} {kws : List Keyword} {t tk : DA} {dvs : List V}
end
section
variable {ρ : Env} {Q : Rv → Env → Prop} {E : Exn → Env → Prop} {tA : DA}
end
end DL
/-! DL41: < of tuples. -/
namespace DL
open PySem L2 PyProof.Rows PySem.W
section
variable {X : Cx}
def rLtP (K : PySem.W.Frag) : R2 := fun x y H Q => ∃ d e, Dp K H x d ∧ Dp K H y e ∧ alike d e = true ∧ d ≠ .none ∧ min d.depth e.depth ≤ 60 ∧ Q (.bl (dataLt d e)) H
end
/-- < of tuples -/
def qLtT : Op2 := fun d e Q => ((toPy d).plain = true ∧ (toPy e).plain = true) ∧ alike (toPy d) (toPy e) = true ∧ toPy d ≠ .none ∧ min (toPy d).depth (toPy e).depth ≤ 60 ∧ Q (.bl (ltD d e))
def Itm.py : Itm → PyData
  | .inl i => .int i
  | .inr x => .str x
theorem Itm.toks (x : Itm) : keyToks x.py = [x.k] := by cases x <;> rfl
end DL
/-! DL42: x[i][k] = e, the inner list being x's own; i, k are slots. -/
namespace DL
open PySem L2
section
end
section
variable {X : Cx} {cn : String → Addr} {E : WX}
/-- x[i][k] = e: x, i, k are slots, the list x[i] is x's own -/
def dPut2 (n i kk : Nat) (r : OpM) (te : DE) : DS := fun D ρ => te ρ (fun x ρ1 => ∃ a b s0 rc m k0 ch0, ρ1[i]? = some (.v (.p (.int a))) ∧ ρ1[kk]? = some (.v (.p (.int b))) ∧ ρ1[n]? = some s0 ∧ s0.d? = some (.n true .lst rc) ∧ ixN rc.length a = some m ∧ rc[m]? = some (.n true k0 ch0) ∧
  ∃ es ρ2 s root rc' k ch, tkL ρ1 [.s kk, x] = some (es, ρ2) ∧ ρ2[n]? = some s ∧ s.d? = some root ∧ root = .n true .lst rc' ∧ root.at [m] = some (.n true k ch) ∧ r k ch es fun k' ch' _ => D.nx ((killB n ρ2).set n (s.re (root.put [m] (.n true k' ch'))))) D.ex
/-- the running lemma -/
def p2K (n i kk : Nat) (r : OpM) (x : Rv) (ρ1 : Env) (k : Env → Prop) : Prop := ∃ a b s0 rc m k0 ch0, ρ1[i]? = some (.v (.p (.int a))) ∧ ρ1[kk]? = some (.v (.p (.int b))) ∧ ρ1[n]? = some s0 ∧ s0.d? = some (.n true .lst rc) ∧ ixN rc.length a = some m ∧ rc[m]? = some (.n true k0 ch0) ∧
  ∃ es ρ2 s root rc' kd ch, tkL ρ1 [.s kk, x] = some (es, ρ2) ∧ ρ2[n]? = some s ∧ s.d? = some root ∧ root = .n true .lst rc' ∧ root.at [m] = some (.n true kd ch) ∧ r kd ch es fun k' ch' _ => k ((killB n ρ2).set n (s.re (root.put [m] (.n true k' ch'))))
end
end DL
/-! DL43: sorted of any data that can be compared. -/
namespace DL
open PySem L2 PyProof.Rows PySem.W
section
variable {X : Cx}
/-- sorted(xs): is: the places of the items, in their new order -/
def rSortedD (K : PySem.W.Frag) : List V → Hp → VK → Prop := fun vs H Q => ∃ (a : Addr) (xs : List V) (ds : List PyData), vs = [V.ref a] ∧ SqL K H a xs ∧ DpAll K H xs ds ∧ (∀ d ∈ ds, ∀ e ∈ ds, alike d e = true) ∧ Sortable ds ∧ PyData.depthAll ds ≤ 60 ∧
  ∀ (is : List Nat) p, is.Perm (List.range xs.length) → is.Pairwise (fun i j => dataLt (ds.getD j .none) (ds.getD i .none) = false) → H p = none → Q (.ref p) (L2.upd H p (.lst (is.map fun i => xs.getD i .non)))
end
/-! ### over deep values -/
def qSortD : OpL := fun ds Q => ∃ d ch, ds = [d] ∧ listOf d = some ch ∧ isFzL ch = true ∧ PyData.plainAll (toPyL ch) = true ∧ (∀ d ∈ toPyL ch, ∀ e ∈ toPyL ch, alike d e = true) ∧ Sortable (toPyL ch) ∧ PyData.depthAll (toPyL ch) ≤ 60 ∧
  ∀ is : List Nat, is.Perm (List.range ch.length) → is.Pairwise (fun i j => dataLt ((toPyL ch).getD j .none) ((toPyL ch).getD i .none) = false) → Q (.own (is.map fun i => ch.getD i (.p .non)))
section
variable {X : Cx}
end
end DL
/-! DL44: triples; dicts whose keys are tuples. -/
namespace DL
open PySem L2
open Enc (en)
/-- a tuple of three -/
structure T3 (α β γ : Type) where
  a : α
  b : β
  c : γ
instance {α β γ : Type} [Enc α] [Enc β] [Enc γ] : Enc (T3 α β γ) := ⟨fun x => .n false .tup [en x.a, en x.b, en x.c], fun x => by simp [D.isFz, isFzL, Enc.fz], fun x => by simp [toPy, toPyL, PyData.plain, PyData.plainAll, Enc.lay], max (Enc.dep α) (max (Enc.dep β) (Enc.dep γ)) + 1, fun x => by
  have := Enc.de x.a
  have := Enc.de x.b
  have := Enc.de x.c
  simp only [toPy, toPyL, PyData.depth, PyData.depthAll]
  omega, fun x y => by
  obtain ⟨a, b, c⟩ := x
  obtain ⟨a', b', c'⟩ := y
  unfold eqD
  simp only [toPy, toPyL, PyData.eqv, PyData.eqvAll, Bool.and_true, Bool.and_eq_true, T3.mk.injEq]
  exact and_congr (Enc.eq a a') (and_congr (Enc.eq b b') (Enc.eq c c'))⟩
instance {α β γ : Type} [DecidableEq α] [DecidableEq β] [DecidableEq γ] : DecidableEq (T3 α β γ) := fun x y => decidable_of_iff (x.a = y.a ∧ x.b = y.b ∧ x.c = y.c) (by cases x; cases y; simp)
class KeyT (κ : Type) [Enc κ] where
  key : κ → List Key
  inj : ∀ a b, key a = key b → a = b
  kd : ∀ a, ∃ kc, (en a : D) = .n false .tup kc ∧ keysD kc = some (key a)
instance {α β : Type} [Enc α] [Enc β] [KeyE α] [KeyE β] : KeyT (α × β) := ⟨fun x => [KeyE.key x.1, KeyE.key x.2], fun x y h => by
  simp only [List.cons.injEq, and_true] at h
  exact Prod.ext (KeyE.inj _ _ h.1) (KeyE.inj _ _ h.2), fun x => ⟨_, rfl, by simp only [keysD, KeyE.kd]⟩⟩
instance {α β γ : Type} [Enc α] [Enc β] [Enc γ] [KeyE α] [KeyE β] [KeyE γ] : KeyT (T3 α β γ) := ⟨fun x => [KeyE.key x.a, KeyE.key x.b, KeyE.key x.c], fun x y h => by
  obtain ⟨a, b, c⟩ := x
  obtain ⟨a', b', c'⟩ := y
  simp only [List.cons.injEq, and_true] at h
  rw [KeyE.inj _ _ h.1, KeyE.inj _ _ h.2.1, KeyE.inj _ _ h.2.2], fun x => ⟨_, rfl, by simp only [keysD, KeyE.kd]⟩⟩
section
variable {κ β : Type} [DecidableEq κ] [Enc κ] [KeyT κ] [Enc β]
abbrev dT (o : Bool) (kv : List (κ × β)) : D := .n o (.dit (kv.map fun p => KeyT.key p.1)) (kv.map fun p => en p.2)
theorem keyt_eq {a b : κ} : KeyT.key a = KeyT.key b ↔ a = b := ⟨KeyT.inj a b, fun h => by rw [h]⟩
theorem lookK_t (kv : List (κ × β)) (k : κ) : lookK (kv.map fun p => KeyT.key p.1) (kv.map fun p => (en p.2 : D)) (KeyT.key k) = (aget kv k).map en := by
  induction kv with
  | nil => rfl
  | cons p r ih =>
    rw [List.map_cons, List.map_cons, lookK, aget, ih]
    by_cases e : p.1 = k
    · simp [e]
    · simp [e, keyt_eq]
end
section
variable {κ β : Type} {i0 : DecidableEq κ} {i1 : Enc κ} {i2 : KeyT κ} {i3 : Enc β} {kv : List (κ × β)} {a : κ} {b : β} {K : Kd → List D → D → Prop} {ρ : Env} {x y z : Rv}
theorem w_newT (Q : Rv → Env → Prop) {E : Exn → Env → Prop} (h : Q (.t (.n true (.dit []) [])) ρ) : dNewT ρ Q E := h
end
end DL
/-! DL45: one step of a run by its head symbol. -/
namespace DL
open PySem L2
open Enc (en)
class St1 (p : Prop) (q : outParam Prop) : Prop where
  go : q → p
/-! ### slots -/
class Gt (ρ : Env) (i : Nat) (s : outParam Sl) : Prop where
  h : ρ[i]? = some s
section
variable {s s' : Sl} {r ρ ρ' ρ1 ρ2 : Env} {i j : Nat} {d d' e : D} {x y : Rv} {xs : List Rv} {ds ch : List D} {k k' : Kd} {o : Bool}
instance gt0 : Gt (s :: r) 0 s := ⟨rfl⟩
instance gtS [g : Gt r i s] : Gt (s' :: r) (i + 1) s := ⟨by rw [List.getElem?_cons_succ]; exact g.h⟩
class SlV (s : Sl) (d : outParam D) : Prop where
  h : s.d? = some d
instance slv_v : SlV (.v d) d := ⟨rfl⟩
instance slv_w : SlV (.w d) d := ⟨rfl⟩
theorem slD_of [g : Gt ρ i s] [h : SlV s d] : slD ρ i = some d := by
  have e := h.h
  unfold slD
  rw [g.h]
  cases s with
  | un => cases e
  | v d0 => exact e
  | w d0 => exact e
  | b _ _ => cases e
class Lk (ρ : Env) (x : Rv) (d : outParam D) : Prop where
  h : look ρ x = some d
instance lk_t : Lk ρ (.t d) d := ⟨rfl⟩
instance lk_s [Gt ρ i s] [SlV s d] : Lk ρ (.s i) d := ⟨slD_of⟩
class LkL (ρ : Env) (xs : List Rv) (ds : outParam (List D)) : Prop where
  h : lookL ρ xs = some ds
instance lkl0 : LkL ρ [] [] := ⟨rfl⟩
instance lklS [a : Lk ρ x d] [b : LkL ρ xs ds] : LkL ρ (x :: xs) (d :: ds) := ⟨by simp only [lookL, a.h, b.h]⟩
/-! ### shared values -/
class Fz (d : D) : Prop where
  h : d.isFz = true
class FzL (ds : List D) : Prop where
  h : isFzL ds = true
instance fz_p {v : V} : Fz (.p v) := ⟨rfl⟩
instance fz_en {α : Type} [Enc α] {x : α} : Fz (en x) := ⟨Enc.fz x⟩
instance fzl_0 : FzL [] := ⟨rfl⟩
instance fzl_S [a : Fz d] [b : FzL ds] : FzL (d :: ds) := ⟨by rw [isFzL, a.h, b.h]; rfl⟩
instance fzl_m {α : Type} [Enc α] {xs : List α} : FzL (xs.map en) := ⟨fzl_e xs⟩
instance fz_n [a : FzL ch] : Fz (.n false k ch) := ⟨by rw [D.isFz, a.h]; rfl⟩
/-- what a value is, shared -/
class Frz (d : D) (d' : outParam D) : Prop where
  h : d.fz = d'
instance (priority := 500) frz_z [a : Fz d] : Frz d d := ⟨fz_of a.h⟩
instance (priority := 2000) frz_o {α : Type} [Enc α] {xs : List α} : Frz (.n true .lst (xs.map en)) (en xs) := ⟨fr_eo xs⟩
instance (priority := 2000) frz_z0 : Frz (.n true .lst []) (.n false .lst []) := ⟨rfl⟩
/-! ### slots written -/
class Nb (ρ : Env) : Prop where
  h : ∀ i, killB i ρ = ρ
instance nb0 : Nb [] := ⟨fun _ => rfl⟩
instance nb_un [a : Nb r] : Nb (.un :: r) := ⟨fun i => by rw [kb_un, a.h]⟩
instance nb_v [a : Nb r] : Nb (.v d :: r) := ⟨fun i => by rw [kb_v, a.h]⟩
instance nb_w [a : Nb r] : Nb (.w d :: r) := ⟨fun i => by rw [kb_w, a.h]⟩
/-- ρ with another slot i -/
class Set1 (ρ : Env) (i : Nat) (s : Sl) (ρ' : outParam Env) : Prop where
  h : ρ.set i s = ρ'
instance set1_0 : Set1 (s' :: r) 0 s (s :: r) := ⟨rfl⟩
instance set1_S [a : Set1 r i s ρ'] : Set1 (s' :: r) (i + 1) s (s' :: ρ') := ⟨by rw [List.set_cons_succ, a.h]⟩
class Kst (ρ : Env) (i : Nat) (s : Sl) (ρ' : outParam Env) : Prop where
  h : (killB i ρ).set i s = ρ'
instance kst [a : Nb ρ] [b : Set1 ρ i s ρ'] : Kst ρ i s ρ' := ⟨by rw [a.h, b.h]⟩
class Wp (ρ : Env) (vs : List Nat) (ρ' : outParam Env) : Prop where
  h : wipeD ρ vs = ρ'
instance wp0 : Wp ρ [] ρ := ⟨rfl⟩
instance wpS {vs : List Nat} [a : Wp ρ vs ρ1] [b : Kst ρ1 i .un ρ2] : Wp ρ (i :: vs) ρ2 := ⟨by rw [wipeD, a.h, b.h]⟩
/-- a slot that may be stored to -/
class Free1 (s : Sl) : Prop where
  h : ∀ d, s ≠ .w d
instance free_un : Free1 .un := ⟨fun _ z => by cases z⟩
instance free_v : Free1 (.v d) := ⟨fun _ z => by cases z⟩
class StV (ρ : Env) (i : Nat) (d : D) (ρ' : outParam Env) : Prop where
  h : stV ρ i d = some ρ'
instance stv [g : Gt ρ i s] [f : Free1 s] [a : Kst ρ i (.v d) ρ'] : StV ρ i d ρ' := ⟨by
  unfold stV
  rw [g.h]
  cases s with
  | un => show some _ = _; rw [a.h]
  | v _ => show some _ = _; rw [a.h]
  | w d => exact absurd rfl (f.h d)
  | b _ _ => show some _ = _; rw [a.h]⟩
/-! ### what is taken -/
class Few (n : Nat) (ds : List D) : Prop where
  h : ds.length ≤ n
instance few0 {n : Nat} : Few n [] := ⟨Nat.zero_le _⟩
instance fewS {n : Nat} [a : Few n ds] : Few (n + 1) (d :: ds) := ⟨Nat.succ_le_succ a.h⟩
class TkL (ρ : Env) (xs : List Rv) (ds : outParam (List D)) (ρ' : outParam Env) : Prop where
  h : tkL ρ xs = some (ds, ρ')
instance tkl0 : TkL ρ [] [] ρ := ⟨rfl⟩
instance tklT [a : TkL ρ xs ds ρ'] : TkL ρ (.t d :: xs) (d :: ds) ρ' := ⟨tl_T a.h⟩
instance tklS [Gt ρ i s] [SlV s d] [z : Fz d] [a : TkL ρ xs ds ρ'] : TkL ρ (.s i :: xs) (d :: ds) ρ' := ⟨tl_S slD_of z.h a.h⟩
class TkF (ρ : Env) (xs : List Rv) (ds : outParam (List D)) (ρ' : outParam Env) : Prop where
  h : tkFL ρ xs = some (ds, ρ')
instance tkf0 : TkF ρ [] [] ρ := ⟨rfl⟩
instance tkfT [f : Frz d d'] [a : TkF ρ xs ds ρ'] : TkF ρ (.t d :: xs) (d' :: ds) ρ' := ⟨tf_T f.h a.h⟩
instance tkfS [Gt ρ i s] [SlV s d] [z : Fz d] [a : TkF ρ xs ds ρ'] : TkF ρ (.s i :: xs) (d :: ds) ρ' := ⟨tf_S slD_of z.h a.h⟩
class Arg (ms : List Bool) (ρ : Env) (xs : List Rv) (ds : outParam (List D)) (ρ' : outParam Env) : Prop where
  h : argL ms ρ xs = some (ds, ρ')
variable {ms : List Bool}
instance arg0 : Arg [] ρ [] [] ρ := ⟨rfl⟩
instance argfS [Gt ρ i s] [SlV s d] [z : Fz d] [a : Arg ms ρ xs ds ρ'] : Arg (false :: ms) ρ (.s i :: xs) (d :: ds) ρ' := ⟨ag_fS slD_of z.h a.h⟩
instance argfT [f : Frz d d'] [a : Arg ms ρ xs ds ρ'] : Arg (false :: ms) ρ (.t d :: xs) (d' :: ds) ρ' := ⟨ag_fT f.h a.h⟩
instance argtT [a : Arg ms ρ xs ds ρ'] : Arg (true :: ms) ρ (.t d :: xs) (d :: ds) ρ' := ⟨ag_tT a.h⟩
instance argtS [g : Gt ρ i s] [h : SlV s d] [b : Kst ρ i .un ρ1] [a : Arg ms ρ1 xs ds ρ'] : Arg (true :: ms) ρ (.s i :: xs) (d :: ds) ρ' := ⟨by
  have e := h.h
  have g := g.h
  cases s with
  | un => cases e
  | v _ => cases e; exact ag_tV g b.h a.h
  | w _ => cases e; exact ag_tW g b.h a.h
  | b _ _ => cases e⟩
class Bak (ρ0 : Env) (ms : List Bool) (ρ : Env) (xs : List Rv) (ds : List D) (ρ' : outParam Env) : Prop where
  h : backL ρ0 ms ρ xs ds = some ρ'
instance bak0 {ρ0 : Env} : Bak ρ0 [] ρ [] [] ρ := ⟨rfl⟩
instance bakf {ρ0 : Env} [a : Bak ρ0 ms ρ xs ds ρ'] : Bak ρ0 (false :: ms) ρ (x :: xs) (d :: ds) ρ' := ⟨ba_f a.h⟩
instance baktT {ρ0 : Env} [a : Bak ρ0 ms ρ xs ds ρ'] : Bak ρ0 (true :: ms) ρ (.t d' :: xs) (d :: ds) ρ' := ⟨ba_tT a.h⟩
theorem noB_of_nb [a : Nb ρ] {vs : List Nat} : noB vs ρ = true := by
  have h := a.h
  clear a
  refine noB_of fun i j q e => ?_
  intro hj
  have := h j
  have e2 : (killB j ρ)[i]? = some (Sl.b j q) := by rw [this]; exact e
  rw [killB_get, e] at e2
  simp only [Option.map_some, if_true] at e2
  cases e2
instance baktV {ρ0 : Env} [g : Gt ρ0 i (.v d')] [u : Gt ρ i .un] [n : Nb ρ] [b : Set1 ρ i (.v d) ρ1] [a : Bak ρ0 ms ρ1 xs ds ρ'] : Bak ρ0 (true :: ms) ρ (.s i :: xs) (d :: ds) ρ' :=
  ⟨ba_tV (by rw [u.h, noB_of_nb]; rfl) g.h b.h a.h⟩
instance baktW {ρ0 : Env} [g : Gt ρ0 i (.w d')] [u : Gt ρ i .un] [n : Nb ρ] [b : Set1 ρ i (.w d) ρ1] [a : Bak ρ0 ms ρ1 xs ds ρ'] : Bak ρ0 (true :: ms) ρ (.s i :: xs) (d :: ds) ρ' :=
  ⟨ba_tW (by rw [u.h, noB_of_nb]; rfl) g.h b.h a.h⟩
class Itm0 (d : D) (ch : outParam (List D)) : Prop where
  h : itemsOf d = some ch
instance itm_l : Itm0 (.n o .lst ch) ch := ⟨rfl⟩
instance itm_k : Itm0 (.n o .lok ch) ch := ⟨rfl⟩
instance itm_e {α : Type} [Enc α] {xs : List α} : Itm0 (en xs) (xs.map en) := ⟨rfl⟩
end
/-! ### steps with looks -/
section
variable {ρ ρ' ρ1 ρ2 : Env} {i j : Nat} {s s' : Sl} {d d' e : D} {x y : Rv} {xs : List Rv} {ds ch : List D} {ms : List Bool} {vs : List Nat} {Q : Rv → Env → Prop} {E : Exn → Env → Prop} {v : V}
instance s_var [Gt ρ i s] [SlV s d] : St1 (dVar i ρ Q E) (Q (.s i) ρ) := ⟨w_var slD_of⟩
instance s_opK {r : Op2} {k : D → Prop} [a : Lk ρ x d] [b : Lk ρ y e] : St1 (opK r x y ρ k) (r d e k) := ⟨w_opK a.h b.h⟩
instance s_unK {r : D → (D → Prop) → Prop} {k : D → Prop} [a : Lk ρ x d] : St1 (unK r x ρ k) (r d k) := ⟨w_unK a.h⟩
instance s_blK {k : Bool → Prop} {b : Bool} [a : Lk ρ x (.p (.bl b))] : St1 (blK x ρ k) (k b) := ⟨w_blK a.h⟩
instance s_cbK {r : OpL} {k : D → Prop} [a : LkL ρ xs ds] : St1 (cbK r xs ρ k) (r ds k) := ⟨w_cbK a.h⟩
instance s_retS {k : D → Env → Prop} [Gt ρ i s] [SlV s d] [z : Fz d] : St1 (retK (.s i) ρ k) (k d ρ) := ⟨w_retS slD_of z.h⟩
instance s_nT {k : Env → Prop} [a : StV ρ i d ρ'] : St1 (dName i (.t d) ρ k) (k ρ') := ⟨w_nameT a.h⟩
instance s_nS {k : Env → Prop} [Gt ρ j s] [SlV s d] [z : Fz d] [a : StV ρ i d ρ'] : St1 (dName i (.s j) ρ k) (k ρ') := ⟨w_nameS slD_of z.h a.h⟩
instance s_mkK {k : List D → Env → Prop} [a : TkL ρ xs ds ρ'] [f : Few 60 ds] : St1 (mkK xs ρ k) (k ds ρ') := ⟨w_mkK a.h (Nat.le_trans f.h (by decide))⟩
instance s_caK {k : List D → Env → Prop} [a : Arg ms ρ xs ds ρ'] : St1 (caK ms xs ρ k) (k ds ρ') := ⟨w_caK a.h⟩
instance s_baK {ρ0 : Env} {k : Env → Prop} [a : Bak ρ0 ms ρ xs ds ρ'] : St1 (baK ρ0 ms ρ xs ds k) (k ρ') := ⟨w_baK a.h⟩
instance s_kwK {k : List D → Env → Prop} [a : TkF ρ xs ds ρ'] : St1 (kwK xs ρ k) (k ds ρ') := ⟨w_kwK a.h⟩
instance s_wpK {n : Env → Prop} [a : Wp ρ vs ρ'] : St1 (wpK ρ vs n) (n ρ') := ⟨w_wpK a.h⟩
instance s_mv [g : Gt ρ i (.v d)] [a : Kst ρ i .un ρ'] : St1 (dMv i ρ Q E) (Q (.t d) ρ') := ⟨w_mv g.h a.h⟩
instance (priority := 900) s_itS {k : List D → Env → Prop} [Gt ρ i s] [SlV s d] [z : Fz d] [a : Itm0 d ch] : St1 (itK (.s i) ρ k) (k ch ρ) := ⟨w_itK (d := d) (ρ2 := ρ) (by
  have h0 : slD ρ i = some d := slD_of
  simp only [tkF, tk, h0, z.h, if_true, fz_of z.h]) a.h⟩
end
section
variable {n : Env → Prop} {rt : D → Env → Prop} {bk ct : Env → Prop} {ex : Exn → Env → Prop} {ρ ρ1 ρ2 : Env} {Q : Rv → Env → Prop} {QT : Bool → Env → Prop} {QA : List Rv → Env → Prop} {QI : List D → Env → Prop} {E : Exn → Env → Prop} {t u : DS} {te ta tb tc : DE} {tt tv : DT} {tA : DA} {ti : DI} {g : DG} {r : Op2} {d d' : D} {i j : Nat} {v : V} {x y : Rv} {xs : List Rv}
instance (priority := 2990) i_w_asg  : St1 (dAsg te g ⟨n, rt, bk, ct, ex⟩ ρ) (te ρ (fun r ρ1 => g r ρ1 n) ex) := ⟨w_asg⟩
end
section
variable {n : Env → Prop} {rt : D → Env → Prop} {bk ct : Env → Prop} {ex : Exn → Env → Prop} {ρ ρ1 ρ2 : Env} {Q : Rv → Env → Prop} {QT : Bool → Env → Prop} {QA : List Rv → Env → Prop} {QI : List D → Env → Prop} {E : Exn → Env → Prop} {t u : DS} {te ta tb tc : DE} {tt tv : DT} {tA : DA} {ti : DI} {g : DG} {r : Op2} {d d' : D} {i j : Nat} {v : V} {x y : Rv} {xs : List Rv}
instance (priority := 2980) i_w_next  : St1 (dNext ⟨n, rt, bk, ct, ex⟩ ρ) (n ρ) := ⟨w_next⟩
end
section
variable {n : Env → Prop} {rt : D → Env → Prop} {bk ct : Env → Prop} {ex : Exn → Env → Prop} {ρ ρ1 ρ2 : Env} {Q : Rv → Env → Prop} {QT : Bool → Env → Prop} {QA : List Rv → Env → Prop} {QI : List D → Env → Prop} {E : Exn → Env → Prop} {t u : DS} {te ta tb tc : DE} {tt tv : DT} {tA : DA} {ti : DI} {g : DG} {r : Op2} {d d' : D} {i j : Nat} {v : V} {x y : Rv} {xs : List Rv}
instance (priority := 2970) i_w_drop  : St1 (dDrop te ⟨n, rt, bk, ct, ex⟩ ρ) (te ρ (fun _ ρ1 => n ρ1) ex) := ⟨w_drop⟩
end
section
variable {n : Env → Prop} {rt : D → Env → Prop} {bk ct : Env → Prop} {ex : Exn → Env → Prop} {ρ ρ1 ρ2 : Env} {Q : Rv → Env → Prop} {QT : Bool → Env → Prop} {QA : List Rv → Env → Prop} {QI : List D → Env → Prop} {E : Exn → Env → Prop} {t u : DS} {te ta tb tc : DE} {tt tv : DT} {tA : DA} {ti : DI} {g : DG} {r : Op2} {d d' : D} {i j : Nat} {v : V} {x y : Rv} {xs : List Rv}
instance (priority := 2960) i_w_ret  : St1 (dRet te ⟨n, rt, bk, ct, ex⟩ ρ) (te ρ (fun r ρ1 => retK r ρ1 rt) ex) := ⟨w_ret⟩
end
section
variable {n : Env → Prop} {rt : D → Env → Prop} {bk ct : Env → Prop} {ex : Exn → Env → Prop} {ρ ρ1 ρ2 : Env} {Q : Rv → Env → Prop} {QT : Bool → Env → Prop} {QA : List Rv → Env → Prop} {QI : List D → Env → Prop} {E : Exn → Env → Prop} {t u : DS} {te ta tb tc : DE} {tt tv : DT} {tA : DA} {ti : DI} {g : DG} {r : Op2} {d d' : D} {i j : Nat} {v : V} {x y : Rv} {xs : List Rv}
instance (priority := 2950) i_w_retN  : St1 (dRetN ⟨n, rt, bk, ct, ex⟩ ρ) (rt (.p .non) ρ) := ⟨w_retN⟩
end
section
variable {n : Env → Prop} {rt : D → Env → Prop} {bk ct : Env → Prop} {ex : Exn → Env → Prop} {ρ ρ1 ρ2 : Env} {Q : Rv → Env → Prop} {QT : Bool → Env → Prop} {QA : List Rv → Env → Prop} {QI : List D → Env → Prop} {E : Exn → Env → Prop} {t u : DS} {te ta tb tc : DE} {tt tv : DT} {tA : DA} {ti : DI} {g : DG} {r : Op2} {d d' : D} {i j : Nat} {v : V} {x y : Rv} {xs : List Rv}
instance (priority := 2940) i_w_ifS  : St1 (dIfS tt t u ⟨n, rt, bk, ct, ex⟩ ρ) (tt ρ (fun b ρ1 => if b = true then t ⟨n, rt, bk, ct, ex⟩ ρ1 else u ⟨n, rt, bk, ct, ex⟩ ρ1) ex) := ⟨w_ifS⟩
end
section
variable {n : Env → Prop} {rt : D → Env → Prop} {bk ct : Env → Prop} {ex : Exn → Env → Prop} {ρ ρ1 ρ2 : Env} {Q : Rv → Env → Prop} {QT : Bool → Env → Prop} {QA : List Rv → Env → Prop} {QI : List D → Env → Prop} {E : Exn → Env → Prop} {t u : DS} {te ta tb tc : DE} {tt tv : DT} {tA : DA} {ti : DI} {g : DG} {r : Op2} {d d' : D} {i j : Nat} {v : V} {x y : Rv} {xs : List Rv}
instance (priority := 2930) i_w_for  : St1 (dFor ti g t ⟨n, rt, bk, ct, ex⟩ ρ) (ti ρ (fun items ρ1 => dLoop g t ⟨n, rt, bk, ct, ex⟩ items ρ1) ex) := ⟨w_for⟩
end
section
variable {n : Env → Prop} {rt : D → Env → Prop} {bk ct : Env → Prop} {ex : Exn → Env → Prop} {ρ ρ1 ρ2 : Env} {Q : Rv → Env → Prop} {QT : Bool → Env → Prop} {QA : List Rv → Env → Prop} {QI : List D → Env → Prop} {E : Exn → Env → Prop} {t u : DS} {te ta tb tc : DE} {tt tv : DT} {tA : DA} {ti : DI} {g : DG} {r : Op2} {d d' : D} {i j : Nat} {v : V} {x y : Rv} {xs : List Rv}
instance (priority := 2920) i_w_break  : St1 (dBreak ⟨n, rt, bk, ct, ex⟩ ρ) (bk ρ) := ⟨w_break⟩
end
section
variable {n : Env → Prop} {rt : D → Env → Prop} {bk ct : Env → Prop} {ex : Exn → Env → Prop} {ρ ρ1 ρ2 : Env} {Q : Rv → Env → Prop} {QT : Bool → Env → Prop} {QA : List Rv → Env → Prop} {QI : List D → Env → Prop} {E : Exn → Env → Prop} {t u : DS} {te ta tb tc : DE} {tt tv : DT} {tA : DA} {ti : DI} {g : DG} {r : Op2} {d d' : D} {i j : Nat} {v : V} {x y : Rv} {xs : List Rv}
instance (priority := 2910) i_w_cont  : St1 (dCont ⟨n, rt, bk, ct, ex⟩ ρ) (ct ρ) := ⟨w_cont⟩
end
section
variable {n : Env → Prop} {rt : D → Env → Prop} {bk ct : Env → Prop} {ex : Exn → Env → Prop} {ρ ρ1 ρ2 : Env} {Q : Rv → Env → Prop} {E : Exn → Env → Prop} {tb : DS} {te : DE} {d : D} {i j : Nat} {v : V} {x : Rv} {nm : String} {f : Str}
instance (priority := 2900) i_w_isX {tbl : List (String × Bool)} : St1 (dIsX tbl te ρ Q E) (te ρ (fun r ρ1 => ixK tbl Q r ρ1) E) := ⟨w_isX⟩
end
section
variable {n : Env → Prop} {rt : D → Env → Prop} {bk ct : Env → Prop} {ex : Exn → Env → Prop} {ρ ρ1 ρ2 : Env} {Q : Rv → Env → Prop} {E : Exn → Env → Prop} {tb : DS} {te : DE} {d : D} {i j : Nat} {v : V} {x : Rv} {nm : String} {f : Str}
instance (priority := 2890) i_w_fld {cls : List String} : St1 (dFld cls f te ρ Q E) (te ρ (fun r ρ1 => fdK cls f Q r ρ1) E) := ⟨w_fld⟩
end
section
variable {n : Env → Prop} {rt : D → Env → Prop} {bk ct : Env → Prop} {ex : Exn → Env → Prop} {ρ ρ1 ρ2 : Env} {Q : Rv → Env → Prop} {E : Exn → Env → Prop} {tb : DS} {te : DE} {d : D} {i j : Nat} {v : V} {x : Rv} {nm : String} {f : Str}
instance (priority := 2880) i_w_raiseF  : St1 (dRaiseF nm f te ⟨n, rt, bk, ct, ex⟩ ρ) (te ρ (fun r ρ1 => rfK nm f ex r ρ1) ex) := ⟨w_raiseF⟩
end
section
variable {n : Env → Prop} {rt : D → Env → Prop} {bk ct : Env → Prop} {ex : Exn → Env → Prop} {ρ ρ1 ρ2 : Env} {Q : Rv → Env → Prop} {E : Exn → Env → Prop} {tb : DS} {te : DE} {d : D} {i j : Nat} {v : V} {x : Rv} {nm : String} {f : Str}
instance (priority := 2870) i_w_tryK {ns : List (String × Bool)} : St1 (dTryK ns i j tb ⟨n, rt, bk, ct, ex⟩ ρ) (tb ⟨n, rt, bk, ct, fun x ρ' => tyK ns i j n ex x ρ'⟩ ρ) := ⟨w_tryK⟩
end
section
variable {n : Env → Prop} {rt : D → Env → Prop} {bk ct : Env → Prop} {ex : Exn → Env → Prop} {ρ ρ1 ρ2 : Env} {te : DE} {i j : Nat} {d1 d2 : D}
instance (priority := 2860) i_w_unp  : St1 (dUnp te i j ⟨n, rt, bk, ct, ex⟩ ρ) (te ρ (fun r ρ1 => upK i j n r ρ1) ex) := ⟨w_unp⟩
end
section
variable {n : Env → Prop} {rt : D → Env → Prop} {bk ct : Env → Prop} {ex : Exn → Env → Prop} {ρ ρ1 ρ2 : Env} {Q : Rv → Env → Prop} {QT : Bool → Env → Prop} {QA : List Rv → Env → Prop} {QI : List D → Env → Prop} {E : Exn → Env → Prop} {t u : DS} {te ta tb tc : DE} {tt tv : DT} {tA : DA} {ti : DI} {g : DG} {r : Op2} {d d' : D} {i j : Nat} {v : V} {x y : Rv} {xs : List Rv}
instance (priority := 2850) i_w_c  : St1 (dC v ρ Q E) (Q (.t (.p v)) ρ) := ⟨w_c⟩
end
section
variable {n : Env → Prop} {rt : D → Env → Prop} {bk ct : Env → Prop} {ex : Exn → Env → Prop} {ρ ρ1 ρ2 : Env} {Q : Rv → Env → Prop} {QT : Bool → Env → Prop} {QA : List Rv → Env → Prop} {QI : List D → Env → Prop} {E : Exn → Env → Prop} {t u : DS} {te ta tb tc : DE} {tt tv : DT} {tA : DA} {ti : DI} {g : DG} {r : Op2} {d d' : D} {i j : Nat} {v : V} {x y : Rv} {xs : List Rv}
instance (priority := 2840) i_w_op  : St1 (dOp r ta tb ρ Q E) (ta ρ (fun x ρ1 => tb ρ1 (fun y ρ2 => opK r x y ρ2 fun z => Q (.t z) ρ2) E) E) := ⟨w_op⟩
end
section
variable {n : Env → Prop} {rt : D → Env → Prop} {bk ct : Env → Prop} {ex : Exn → Env → Prop} {ρ ρ1 ρ2 : Env} {Q : Rv → Env → Prop} {QT : Bool → Env → Prop} {QA : List Rv → Env → Prop} {QI : List D → Env → Prop} {E : Exn → Env → Prop} {t u : DS} {te ta tb tc : DE} {tt tv : DT} {tA : DA} {ti : DI} {g : DG} {r : Op2} {d d' : D} {i j : Nat} {v : V} {x y : Rv} {xs : List Rv}
instance (priority := 2830) i_w_nil  : St1 (dNil ρ QA E) (QA [] ρ) := ⟨w_nil⟩
end
section
variable {n : Env → Prop} {rt : D → Env → Prop} {bk ct : Env → Prop} {ex : Exn → Env → Prop} {ρ ρ1 ρ2 : Env} {Q : Rv → Env → Prop} {QT : Bool → Env → Prop} {QA : List Rv → Env → Prop} {QI : List D → Env → Prop} {E : Exn → Env → Prop} {t u : DS} {te ta tb tc : DE} {tt tv : DT} {tA : DA} {ti : DI} {g : DG} {r : Op2} {d d' : D} {i j : Nat} {v : V} {x y : Rv} {xs : List Rv}
instance (priority := 2820) i_w_cons  : St1 (dCons ta tA ρ QA E) (ta ρ (fun x ρ1 => tA ρ1 (fun xs ρ2 => QA (x :: xs) ρ2) E) E) := ⟨w_cons⟩
end
section
variable {n : Env → Prop} {rt : D → Env → Prop} {bk ct : Env → Prop} {ex : Exn → Env → Prop} {ρ ρ1 ρ2 : Env} {Q : Rv → Env → Prop} {QT : Bool → Env → Prop} {QA : List Rv → Env → Prop} {QI : List D → Env → Prop} {E : Exn → Env → Prop} {t u : DS} {te ta tb tc : DE} {tt tv : DT} {tA : DA} {ti : DI} {g : DG} {r : Op2} {d d' : D} {i j : Nat} {v : V} {x y : Rv} {xs : List Rv}
instance (priority := 2810) i_w_cb {r : OpL} : St1 (dCB r tA ρ Q E) (tA ρ (fun rs ρ1 => cbK r rs ρ1 fun z => Q (.t z) ρ1) E) := ⟨w_cb⟩
end
section
variable {n : Env → Prop} {rt : D → Env → Prop} {bk ct : Env → Prop} {ex : Exn → Env → Prop} {ρ ρ1 ρ2 : Env} {Q : Rv → Env → Prop} {QT : Bool → Env → Prop} {QA : List Rv → Env → Prop} {QI : List D → Env → Prop} {E : Exn → Env → Prop} {t u : DS} {te ta tb tc : DE} {tt tv : DT} {tA : DA} {ti : DI} {g : DG} {r : Op2} {d d' : D} {i j : Nat} {v : V} {x y : Rv} {xs : List Rv}
instance (priority := 2800) i_w_lst  : St1 (dLst tA ρ Q E) (tA ρ (fun rs ρ1 => mkK rs ρ1 fun ds ρ2 => Q (.t (.n true .lst ds)) ρ2) E) := ⟨w_lst⟩
end
section
variable {n : Env → Prop} {rt : D → Env → Prop} {bk ct : Env → Prop} {ex : Exn → Env → Prop} {ρ ρ1 ρ2 : Env} {Q : Rv → Env → Prop} {QT : Bool → Env → Prop} {QA : List Rv → Env → Prop} {QI : List D → Env → Prop} {E : Exn → Env → Prop} {t u : DS} {te ta tb tc : DE} {tt tv : DT} {tA : DA} {ti : DI} {g : DG} {r : Op2} {d d' : D} {i j : Nat} {v : V} {x y : Rv} {xs : List Rv}
instance (priority := 2790) i_w_tup  : St1 (dTup tA ρ Q E) (tA ρ (fun rs ρ1 => mkK rs ρ1 fun ds ρ2 => Q (.t (.n false .tup ds)) ρ2) E) := ⟨w_tup⟩
end
section
variable {n : Env → Prop} {rt : D → Env → Prop} {bk ct : Env → Prop} {ex : Exn → Env → Prop} {ρ ρ1 ρ2 : Env} {Q : Rv → Env → Prop} {QT : Bool → Env → Prop} {QA : List Rv → Env → Prop} {QI : List D → Env → Prop} {E : Exn → Env → Prop} {t u : DS} {te ta tb tc : DE} {tt tv : DT} {tA : DA} {ti : DI} {g : DG} {r : Op2} {d d' : D} {i j : Nat} {v : V} {x y : Rv} {xs : List Rv}
instance (priority := 2780) i_w_iseq  : St1 (dISeq ta ρ QI E) (ta ρ (fun r ρ1 => itK r ρ1 QI) E) := ⟨w_iseq⟩
end
section
variable {α : Type} [Enc α] {ρ : Env} {k : List D → Env → Prop} {xs : List α} {i : Nat}
instance (priority := 2770) i_w_itO  : St1 (itK (.t (eo xs)) ρ k) (k (xs.map en) ρ) := ⟨w_itO⟩
end
section
variable {α : Type} [Enc α] {ρ : Env} {k : List D → Env → Prop} {xs : List α} {i : Nat}
instance (priority := 2760) i_w_itN  : St1 (itK (.t (en xs)) ρ k) (k (xs.map en) ρ) := ⟨w_itN⟩
end
section
variable {n : Env → Prop} {rt : D → Env → Prop} {bk ct : Env → Prop} {ex : Exn → Env → Prop} {ρ ρ1 ρ2 : Env} {Q : Rv → Env → Prop} {QT : Bool → Env → Prop} {QA : List Rv → Env → Prop} {QI : List D → Env → Prop} {E : Exn → Env → Prop} {t u : DS} {te ta tb tc : DE} {tt tv : DT} {tA : DA} {ti : DI} {g : DG} {r : Op2} {d d' : D} {i j : Nat} {v : V} {x y : Rv} {xs : List Rv}
instance (priority := 2750) i_w_lc {vs : List Nat} : St1 (dLc ti g tt te vs ρ Q E) (ti ρ (fun items ρ1 => lcK ρ1 vs (fun ρ' => dLcL g tt te vs (fun ds ρ2 => Q (.t (.n true .lst ds)) ρ2) items ρ' [])) E) := ⟨w_lc⟩
end
section
variable {ρ ρ1 : Env} {Q : Rv → Env → Prop} {E : Exn → Env → Prop} {te : DE} {ti : DI} {g : DG} {tt : DT} {vs : List Nat}
instance (priority := 2740) i_w_lcX  : St1 (dLcX ti g tt te vs ρ Q E) (ti ρ (fun items ρ1 => lcK ρ1 vs (fun ρ' => dLcLX g tt te vs (fun ds ρ2 => Q (.t (.n true .lst ds)) ρ2) E items ρ' [])) E) := ⟨w_lcX⟩
end
section
variable {n : Env → Prop} {rt : D → Env → Prop} {bk ct : Env → Prop} {ex : Exn → Env → Prop} {ρ ρ1 ρ2 : Env} {Q : Rv → Env → Prop} {QT : Bool → Env → Prop} {QA : List Rv → Env → Prop} {QI : List D → Env → Prop} {E : Exn → Env → Prop} {t u : DS} {te ta tb tc : DE} {tt tv : DT} {tA : DA} {ti : DI} {g : DG} {r : Op2} {d d' : D} {i j : Nat} {v : V} {x y : Rv} {xs : List Rv}
instance (priority := 2730) i_w_true  : St1 (dTrue ρ QT E) (QT true ρ) := ⟨w_true⟩
end
section
variable {n : Env → Prop} {rt : D → Env → Prop} {bk ct : Env → Prop} {ex : Exn → Env → Prop} {ρ ρ1 ρ2 : Env} {Q : Rv → Env → Prop} {QT : Bool → Env → Prop} {QA : List Rv → Env → Prop} {QI : List D → Env → Prop} {E : Exn → Env → Prop} {t u : DS} {te ta tb tc : DE} {tt tv : DT} {tA : DA} {ti : DI} {g : DG} {r : Op2} {d d' : D} {i j : Nat} {v : V} {x y : Rv} {xs : List Rv}
instance (priority := 2720) i_w_ifT {p q : Prop} : St1 (if true = true then p else q) (p) := ⟨w_ifT⟩
end
section
variable {n : Env → Prop} {rt : D → Env → Prop} {bk ct : Env → Prop} {ex : Exn → Env → Prop} {ρ ρ1 ρ2 : Env} {Q : Rv → Env → Prop} {QT : Bool → Env → Prop} {QA : List Rv → Env → Prop} {QI : List D → Env → Prop} {E : Exn → Env → Prop} {t u : DS} {te ta tb tc : DE} {tt tv : DT} {tA : DA} {ti : DI} {g : DG} {r : Op2} {d d' : D} {i j : Nat} {v : V} {x y : Rv} {xs : List Rv}
instance (priority := 2710) i_w_ifF {p q : Prop} : St1 (if false = true then p else q) (q) := ⟨w_ifF⟩
end
section
variable {p q : Prop} {b : Bool}
instance (priority := 2700) i_w_ifNT  : St1 (if (!true) = true then p else q) (q) := ⟨w_ifNT⟩
end
section
variable {p q : Prop} {b : Bool}
instance (priority := 2690) i_w_ifNF  : St1 (if (!false) = true then p else q) (p) := ⟨w_ifNF⟩
end
section
variable {n : Env → Prop} {rt : D → Env → Prop} {bk ct : Env → Prop} {ex : Exn → Env → Prop} {ρ ρ1 ρ2 : Env} {Q : Rv → Env → Prop} {QT : Bool → Env → Prop} {QA : List Rv → Env → Prop} {QI : List D → Env → Prop} {E : Exn → Env → Prop} {t u : DS} {te ta tb tc : DE} {tt tv : DT} {tA : DA} {ti : DI} {g : DG} {r : Op2} {d d' : D} {i j : Nat} {v : V} {x y : Rv} {xs : List Rv}
instance (priority := 2680) i_w_retT {k : D → Env → Prop} : St1 (retK (.t d) ρ k) (k d ρ) := ⟨w_retT⟩
end
section
variable {n : Env → Prop} {rt : D → Env → Prop} {bk ct : Env → Prop} {ex : Exn → Env → Prop} {ρ ρ1 ρ2 : Env} {Q : Rv → Env → Prop} {QT : Bool → Env → Prop} {QA : List Rv → Env → Prop} {QI : List D → Env → Prop} {E : Exn → Env → Prop} {t u : DS} {te ta tb tc : DE} {tt tv : DT} {tA : DA} {ti : DI} {g : DG} {r : Op2} {d d' : D} {i j : Nat} {v : V} {x y : Rv} {xs : List Rv}
instance (priority := 2670) i_w_un {r : D → (D → Prop) → Prop} : St1 (dUn r ta ρ Q E) (ta ρ (fun x ρ1 => unK r x ρ1 fun z => Q (.t z) ρ1) E) := ⟨w_un⟩
end
section
variable {n : Env → Prop} {rt : D → Env → Prop} {bk ct : Env → Prop} {ex : Exn → Env → Prop} {ρ ρ1 ρ2 : Env} {Q : Rv → Env → Prop} {QT : Bool → Env → Prop} {QA : List Rv → Env → Prop} {QI : List D → Env → Prop} {E : Exn → Env → Prop} {t u : DS} {te ta tb tc : DE} {tt tv : DT} {tA : DA} {ti : DI} {g : DG} {r : Op2} {d d' : D} {i j : Nat} {v : V} {x y : Rv} {xs : List Rv}
instance (priority := 2660) i_w_tst  : St1 (dTst ta ρ QT E) (ta ρ (fun x ρ1 => blK x ρ1 fun b => QT b ρ1) E) := ⟨w_tst⟩
end
section
variable {n : Env → Prop} {rt : D → Env → Prop} {bk ct : Env → Prop} {ex : Exn → Env → Prop} {ρ ρ1 ρ2 : Env} {Q : Rv → Env → Prop} {QT : Bool → Env → Prop} {QA : List Rv → Env → Prop} {QI : List D → Env → Prop} {E : Exn → Env → Prop} {t u : DS} {te ta tb tc : DE} {tt tv : DT} {tA : DA} {ti : DI} {g : DG} {r : Op2} {d d' : D} {i j : Nat} {v : V} {x y : Rv} {xs : List Rv}
instance (priority := 2650) i_w_and  : St1 (dAnd tt tv ρ QT E) (tt ρ (fun b ρ1 => if b = true then tv ρ1 QT E else QT false ρ1) E) := ⟨w_and⟩
end
section
variable {n : Env → Prop} {rt : D → Env → Prop} {bk ct : Env → Prop} {ex : Exn → Env → Prop} {ρ ρ1 ρ2 : Env} {Q : Rv → Env → Prop} {QT : Bool → Env → Prop} {QA : List Rv → Env → Prop} {QI : List D → Env → Prop} {E : Exn → Env → Prop} {t u : DS} {te ta tb tc : DE} {tt tv : DT} {tA : DA} {ti : DI} {g : DG} {r : Op2} {d d' : D} {i j : Nat} {v : V} {x y : Rv} {xs : List Rv}
instance (priority := 2640) i_w_or  : St1 (dOr tt tv ρ QT E) (tt ρ (fun b ρ1 => if b = true then QT true ρ1 else tv ρ1 QT E) E) := ⟨w_or⟩
end
section
variable {n : Env → Prop} {rt : D → Env → Prop} {bk ct : Env → Prop} {ex : Exn → Env → Prop} {ρ ρ1 ρ2 : Env} {Q : Rv → Env → Prop} {QT : Bool → Env → Prop} {QA : List Rv → Env → Prop} {QI : List D → Env → Prop} {E : Exn → Env → Prop} {t u : DS} {te ta tb tc : DE} {tt tv : DT} {tA : DA} {ti : DI} {g : DG} {r : Op2} {d d' : D} {i j : Nat} {v : V} {x y : Rv} {xs : List Rv}
instance (priority := 2630) i_w_not  : St1 (dNot tt ρ QT E) (tt ρ (fun b ρ1 => QT (!b) ρ1) E) := ⟨w_not⟩
end
section
variable {n : Env → Prop} {rt : D → Env → Prop} {bk ct : Env → Prop} {ex : Exn → Env → Prop} {ρ ρ1 ρ2 : Env} {Q : Rv → Env → Prop} {QT : Bool → Env → Prop} {QA : List Rv → Env → Prop} {QI : List D → Env → Prop} {E : Exn → Env → Prop} {t u : DS} {te ta tb tc : DE} {tt tv : DT} {tA : DA} {ti : DI} {g : DG} {r : Op2} {d d' : D} {i j : Nat} {v : V} {x y : Rv} {xs : List Rv}
instance (priority := 2620) i_w_andV  : St1 (dAndV ta tb ρ Q E) (ta ρ (fun x ρ1 => blK x ρ1 fun b => if b = true then tb ρ1 Q E else Q (.t (.p (.bl false))) ρ1) E) := ⟨w_andV⟩
end
section
variable {n : Env → Prop} {rt : D → Env → Prop} {bk ct : Env → Prop} {ex : Exn → Env → Prop} {ρ ρ1 ρ2 : Env} {Q : Rv → Env → Prop} {QT : Bool → Env → Prop} {QA : List Rv → Env → Prop} {QI : List D → Env → Prop} {E : Exn → Env → Prop} {t u : DS} {te ta tb tc : DE} {tt tv : DT} {tA : DA} {ti : DI} {g : DG} {r : Op2} {d d' : D} {i j : Nat} {v : V} {x y : Rv} {xs : List Rv}
instance (priority := 2610) i_w_orV  : St1 (dOrV ta tb ρ Q E) (ta ρ (fun x ρ1 => blK x ρ1 fun b => if b = true then Q (.t (.p (.bl true))) ρ1 else tb ρ1 Q E) E) := ⟨w_orV⟩
end
section
variable {n : Env → Prop} {rt : D → Env → Prop} {bk ct : Env → Prop} {ex : Exn → Env → Prop} {ρ ρ1 ρ2 : Env} {Q : Rv → Env → Prop} {QT : Bool → Env → Prop} {QA : List Rv → Env → Prop} {QI : List D → Env → Prop} {E : Exn → Env → Prop} {t u : DS} {te ta tb tc : DE} {tt tv : DT} {tA : DA} {ti : DI} {g : DG} {r : Op2} {d d' : D} {i j : Nat} {v : V} {x y : Rv} {xs : List Rv}
instance (priority := 2600) i_w_notV  : St1 (dNotV ta ρ Q E) (ta ρ (fun x ρ1 => blK x ρ1 fun b => Q (.t (.p (.bl (!b)))) ρ1) E) := ⟨w_notV⟩
end
section
variable {n : Env → Prop} {rt : D → Env → Prop} {bk ct : Env → Prop} {ex : Exn → Env → Prop} {ρ ρ1 ρ2 : Env} {Q : Rv → Env → Prop} {QT : Bool → Env → Prop} {QA : List Rv → Env → Prop} {QI : List D → Env → Prop} {E : Exn → Env → Prop} {t u : DS} {te ta tb tc : DE} {tt tv : DT} {tA : DA} {ti : DI} {g : DG} {r : Op2} {d d' : D} {i j : Nat} {v : V} {x y : Rv} {xs : List Rv}
instance (priority := 2590) i_w_ifE  : St1 (dIf tt ta tb ρ Q E) (tt ρ (fun b ρ1 => if b = true then ta ρ1 Q E else tb ρ1 Q E) E) := ⟨w_ifE⟩
end
section
variable {ρ ρ1 ρ2 : Env} {Q : Rv → Env → Prop} {QO : Option Int → Env → Prop} {QI : List D → Env → Prop} {E : Exn → Env → Prop} {ta tb tc te : DE} {tA : DA} {r r' : Op2} {x y : Rv} {xs : List Rv} {d d' : D} {i : Nat} {v : V}
instance (priority := 2580) i_w_chain  : St1 (dChain r r' ta tb tc ρ Q E) (ta ρ (fun x ρ1 => tb ρ1 (fun y ρ2 => chK r r' x y ρ2 tc Q E) E) E) := ⟨w_chain⟩
end
section
variable {ρ ρ1 ρ2 : Env} {Q : Rv → Env → Prop} {QO : Option Int → Env → Prop} {QI : List D → Env → Prop} {E : Exn → Env → Prop} {ta tb tc te : DE} {tA : DA} {r r' : Op2} {x y : Rv} {xs : List Rv} {d d' : D} {i : Nat} {v : V}
instance (priority := 2570) i_w_isB {k : Bool → Prop} {b : Bool} : St1 (isB k (.p (.bl b))) (k b) := ⟨w_isB⟩
end
section
variable {k : D → Prop} {i j : Int} {a b : Str}
instance (priority := 2560) i_w_addI  : St1 (qAdd (.p (.int i)) (.p (.int j)) k) (k (.int (i + j))) := ⟨w_addI⟩
end
section
variable {k : D → Prop} {i j : Int} {a b : Str}
instance (priority := 2550) i_w_subI  : St1 (qSub (.p (.int i)) (.p (.int j)) k) (k (.int (i - j))) := ⟨w_subI⟩
end
section
variable {k : D → Prop} {i j : Int} {a b : Str}
instance (priority := 2540) i_w_neg  : St1 (qNeg (.p (.int i)) k) (k (.int (-i))) := ⟨w_neg⟩
end
section
variable {k : D → Prop} {i j : Int} {a b : Str}
instance (priority := 2530) i_w_ltI  : St1 (qLt (.p (.int i)) (.p (.int j)) k) (k (.bl (decide (i < j)))) := ⟨w_ltI⟩
end
section
variable {k : D → Prop} {i j : Int} {a b : Str}
instance (priority := 2520) i_w_leI  : St1 (qLe (.p (.int i)) (.p (.int j)) k) (k (.bl (decide (i ≤ j)))) := ⟨w_leI⟩
end
section
variable {k : D → Prop} {i j : Int} {a b : Str}
instance (priority := 2510) i_w_gtI  : St1 (qGt (.p (.int i)) (.p (.int j)) k) (k (.bl (decide (j < i)))) := ⟨w_gtI⟩
end
section
variable {k : D → Prop} {i j : Int} {a b : Str}
instance (priority := 2500) i_w_geI  : St1 (qGe (.p (.int i)) (.p (.int j)) k) (k (.bl (decide (j ≤ i)))) := ⟨w_geI⟩
end
section
variable {k : D → Prop} {a b : Str} {i j : Int}
instance (priority := 2490) i_w_eqS  : St1 (qEq (.p (.str a)) (.p (.str b)) k) (k (.bl (dc (a = b)))) := ⟨w_eqS⟩
end
section
variable {k : D → Prop} {a b : Str} {i j : Int}
instance (priority := 2480) i_w_neS  : St1 (qNe (.p (.str a)) (.p (.str b)) k) (k (.bl (!dc (a = b)))) := ⟨w_neS⟩
end
section
variable {k : D → Prop} {a b : Str} {i j : Int}
instance (priority := 2470) i_w_eqI  : St1 (qEq (.p (.int i)) (.p (.int j)) k) (k (.bl (decide (i = j)))) := ⟨w_eqI⟩
end
section
variable {k : D → Prop} {a b : Str} {i j : Int}
instance (priority := 2460) i_w_neI  : St1 (qNe (.p (.int i)) (.p (.int j)) k) (k (.bl (!decide (i = j)))) := ⟨w_neI⟩
end
section
variable {n : Env → Prop} {rt : D → Env → Prop} {bk ct : Env → Prop} {ex : Exn → Env → Prop} {ρ ρ1 ρ2 : Env} {Q : Rv → Env → Prop} {QT : Bool → Env → Prop} {QA : List Rv → Env → Prop} {QI : List D → Env → Prop} {E : Exn → Env → Prop} {t u : DS} {te ta tb tc : DE} {tt tv : DT} {tA : DA} {ti : DI} {g : DG} {r : Op2} {d d' : D} {i j : Nat} {v : V} {x y : Rv} {xs : List Rv}
instance (priority := 2450) i_w_call {ms : List Bool} {s : SpD} : St1 (dCall ms s tA ρ Q E) (tA ρ (fun rs ρ1 => caK ms rs ρ1 fun ds ρ2 => s ds (fun res ds' => baK ρ1 ms ρ2 rs ds' fun ρ3 => Q (.t res) ρ3) (fun x ds' => baK ρ1 ms ρ2 rs ds' fun ρ3 => E x ρ3)) E) := ⟨w_call⟩
end
section
variable {ρ ρ1 ρ2 : Env} {Q : Rv → Env → Prop} {QO : Option Int → Env → Prop} {QI : List D → Env → Prop} {E : Exn → Env → Prop} {ta tb tc te : DE} {tA : DA} {r r' : Op2} {x y : Rv} {xs : List Rv} {d d' : D} {i : Nat} {v : V}
instance (priority := 2440) i_w_callK {g : {α : Type} → List α → List α → List α} {s : SpD} {tk : DA} : St1 (dCallK g s tA tk ρ Q E) (tA ρ (fun rs ρ1 => kwK rs ρ1 fun ds ρ2 => tk ρ2 (fun zs ρ3 => kwK zs ρ3 fun es ρ4 => s (g ds es) (fun res _ => Q (.t res) ρ4) (fun x _ => E x ρ4)) E) E) := ⟨w_callK⟩
end
section
variable {ρ ρ1 ρ2 : Env} {Q : Rv → Env → Prop} {QO : Option Int → Env → Prop} {QI : List D → Env → Prop} {E : Exn → Env → Prop} {ta tb tc te : DE} {tA : DA} {r r' : Op2} {x y : Rv} {xs : List Rv} {d d' : D} {i : Nat} {v : V}
instance (priority := 2430) i_w_rng1  : St1 (dIRng1 tA ρ QI E) (tA ρ (fun rs ρ1 => rg1K rs ρ1 QI) E) := ⟨w_rng1⟩
end
section
variable {ρ ρ1 ρ2 : Env} {Q : Rv → Env → Prop} {QO : Option Int → Env → Prop} {QI : List D → Env → Prop} {E : Exn → Env → Prop} {ta tb tc te : DE} {tA : DA} {r r' : Op2} {x y : Rv} {xs : List Rv} {d d' : D} {i : Nat} {v : V}
instance (priority := 2420) i_w_rng2  : St1 (dIRng2 tA ρ QI E) (tA ρ (fun rs ρ1 => rg2K rs ρ1 QI) E) := ⟨w_rng2⟩
end
section
variable {ρ ρ1 ρ2 : Env} {Q : Rv → Env → Prop} {QO : Option Int → Env → Prop} {QI : List D → Env → Prop} {E : Exn → Env → Prop} {ta tb tc te : DE} {tA : DA} {r r' : Op2} {x y : Rv} {xs : List Rv} {d d' : D} {i : Nat} {v : V}
instance (priority := 2410) i_w_cut {tl th : DO} : St1 (dCut te tl th ρ Q E) (te ρ (fun r ρ1 => tl ρ1 (fun lo ρ2 => th ρ2 (fun hi ρ3 => cutK lo hi r ρ3 fun z => Q (.t z) ρ3) E) E) E) := ⟨w_cut⟩
end
section
variable {ρ ρ1 ρ2 : Env} {Q : Rv → Env → Prop} {QO : Option Int → Env → Prop} {QI : List D → Env → Prop} {E : Exn → Env → Prop} {ta tb tc te : DE} {tA : DA} {r r' : Op2} {x y : Rv} {xs : List Rv} {d d' : D} {i : Nat} {v : V}
instance (priority := 2400) i_w_part  : St1 (dPart te ρ QO E) (te ρ (fun r ρ1 => ptK r ρ1 QO) E) := ⟨w_part⟩
end
section
variable {ρ ρ1 ρ2 : Env} {Q : Rv → Env → Prop} {QO : Option Int → Env → Prop} {QI : List D → Env → Prop} {E : Exn → Env → Prop} {ta tb tc te : DE} {tA : DA} {r r' : Op2} {x y : Rv} {xs : List Rv} {d d' : D} {i : Nat} {v : V}
instance (priority := 2390) i_w_noPart  : St1 (dNoPart ρ QO E) (QO none ρ) := ⟨w_noPart⟩
end
section
variable {n : Env → Prop} {ρ ρ1 ρ2 : Env} {Q : Rv → Env → Prop} {E : Exn → Env → Prop} {te : DE} {d d' : D} {x : Rv} {i : Nat} {k : Rv → Env → Prop}
instance (priority := 2380) i_w_fz  : St1 (dFz te ρ Q E) (te ρ (fun r ρ1 => fzK r ρ1 Q) E) := ⟨w_fz⟩
end
section
variable {n : Env → Prop} {ρ ρ1 ρ2 : Env} {Q : Rv → Env → Prop} {E : Exn → Env → Prop} {te : DE} {d d' : D} {x : Rv} {i : Nat} {k : Rv → Env → Prop}
instance (priority := 2370) i_w_dK  : St1 (dK d ρ Q E) (Q (.t d) ρ) := ⟨w_dK⟩
end
section
variable {n : Env → Prop} {ρ ρ1 ρ2 : Env} {Q : Rv → Env → Prop} {E : Exn → Env → Prop} {te : DE} {d d' : D} {x : Rv} {i : Nat} {k : Rv → Env → Prop}
instance (priority := 2360) i_w_strS {k : D → Prop} {a : Str} : St1 (qStr1 [.p (.str a)] k) (k (.str a)) := ⟨w_strS⟩
end
section
variable {n : Env → Prop} {rt : D → Env → Prop} {bk ct : Env → Prop} {ex : Exn → Env → Prop} {ρ ρ1 ρ2 : Env} {Q : Rv → Env → Prop} {QT : Bool → Env → Prop} {QA : List Rv → Env → Prop} {QI : List D → Env → Prop} {E : Exn → Env → Prop} {t u tb ts : DS} {te ta : DE} {c tt tv : DT} {tA : DA} {ti : DI} {g : DG} {d d' e : D} {i j : Nat} {v : V} {x y : Rv} {xs : List Rv} {nm : String}
instance (priority := 2350) i_w_raise  : St1 (dRaise nm ⟨n, rt, bk, ct, ex⟩ ρ) (ex ⟨nm, none⟩ ρ) := ⟨w_raise⟩
end
section
variable {n : Env → Prop} {rt : D → Env → Prop} {bk ct : Env → Prop} {ex : Exn → Env → Prop} {ρ ρ1 ρ2 : Env} {Q : Rv → Env → Prop} {QT : Bool → Env → Prop} {QA : List Rv → Env → Prop} {QI : List D → Env → Prop} {E : Exn → Env → Prop} {t u tb ts : DS} {te ta : DE} {c tt tv : DT} {tA : DA} {ti : DI} {g : DG} {d d' e : D} {i j : Nat} {v : V} {x y : Rv} {xs : List Rv} {nm : String}
instance (priority := 2340) i_w_try {ns : List (String × Bool)} : St1 (dTry ns tb ts ⟨n, rt, bk, ct, ex⟩ ρ) (tb ⟨n, rt, bk, ct, fun x ρ' => trK ns ts ⟨n, rt, bk, ct, ex⟩ x ρ'⟩ ρ) := ⟨w_try⟩
end
section
variable {n : Env → Prop} {rt : D → Env → Prop} {bk ct : Env → Prop} {ex : Exn → Env → Prop} {ρ ρ1 ρ2 : Env} {Q : Rv → Env → Prop} {QT : Bool → Env → Prop} {QA : List Rv → Env → Prop} {QI : List D → Env → Prop} {E : Exn → Env → Prop} {t u tb ts : DS} {te ta : DE} {c tt tv : DT} {tA : DA} {ti : DI} {g : DG} {d d' e : D} {i j : Nat} {v : V} {x y : Rv} {xs : List Rv} {nm : String}
variable {k : D → Prop} {a b : Str} {m p : Int}
instance (priority := 2330) i_w_leS  : St1 (qLe (.p (.str a)) (.p (.str b)) k) (k (.bl (!strLt b a))) := ⟨w_leS⟩
end
section
variable {n : Env → Prop} {rt : D → Env → Prop} {bk ct : Env → Prop} {ex : Exn → Env → Prop} {ρ ρ1 ρ2 : Env} {Q : Rv → Env → Prop} {QT : Bool → Env → Prop} {QA : List Rv → Env → Prop} {QI : List D → Env → Prop} {E : Exn → Env → Prop} {t u tb ts : DS} {te ta : DE} {c tt tv : DT} {tA : DA} {ti : DI} {g : DG} {d d' e : D} {i j : Nat} {v : V} {x y : Rv} {xs : List Rv} {nm : String}
variable {k : D → Prop} {a b : Str} {m p : Int}
instance (priority := 2320) i_w_ltS  : St1 (qLt (.p (.str a)) (.p (.str b)) k) (k (.bl (strLt a b))) := ⟨w_ltS⟩
end
section
variable {n : Env → Prop} {rt : D → Env → Prop} {bk ct : Env → Prop} {ex : Exn → Env → Prop} {ρ ρ1 ρ2 : Env} {Q : Rv → Env → Prop} {QT : Bool → Env → Prop} {QA : List Rv → Env → Prop} {QI : List D → Env → Prop} {E : Exn → Env → Prop} {t u tb ts : DS} {te ta : DE} {c tt tv : DT} {tA : DA} {ti : DI} {g : DG} {d d' e : D} {i j : Nat} {v : V} {x y : Rv} {xs : List Rv} {nm : String}
variable {k : D → Prop} {a b : Str} {m p : Int}
instance (priority := 2310) i_w_inTf {ch : Nat} : St1 (qInS false (.p (.str (sg ch))) (.p (.str b)) k) (k (.bl (decide (ch ∈ b.cps.toList)))) := ⟨w_inTf⟩
end
section
variable {n : Env → Prop} {rt : D → Env → Prop} {bk ct : Env → Prop} {ex : Exn → Env → Prop} {ρ ρ1 ρ2 : Env} {Q : Rv → Env → Prop} {QT : Bool → Env → Prop} {QA : List Rv → Env → Prop} {QI : List D → Env → Prop} {E : Exn → Env → Prop} {t u tb ts : DS} {te ta : DE} {c tt tv : DT} {tA : DA} {ti : DI} {g : DG} {d d' e : D} {i j : Nat} {v : V} {x y : Rv} {xs : List Rv} {nm : String}
variable {k : D → Prop} {a b : Str} {m p : Int}
instance (priority := 2300) i_w_inTt {ch : Nat} : St1 (qInS true (.p (.str (sg ch))) (.p (.str b)) k) (k (.bl (!decide (ch ∈ b.cps.toList)))) := ⟨w_inTt⟩
end
section
variable {n : Env → Prop} {rt : D → Env → Prop} {bk ct : Env → Prop} {ex : Exn → Env → Prop} {ρ ρ1 ρ2 : Env} {Q : Rv → Env → Prop} {QT : Bool → Env → Prop} {QA : List Rv → Env → Prop} {QI : List D → Env → Prop} {E : Exn → Env → Prop} {t u tb ts : DS} {te ta : DE} {c tt tv : DT} {tA : DA} {ti : DI} {g : DG} {d d' e : D} {i j : Nat} {v : V} {x y : Rv} {xs : List Rv} {nm : String}
variable {k : D → Prop} {a b : Str} {m p : Int}
instance (priority := 2290) i_w_in2f {o : Bool} {x y z : Str} : St1 (qInS false (.p (.str x)) (.n o .tup [.p (.str y), .p (.str z)]) k) (k (.bl (dc (x = y ∨ x = z)))) := ⟨w_in2f⟩
end
section
variable {n : Env → Prop} {rt : D → Env → Prop} {bk ct : Env → Prop} {ex : Exn → Env → Prop} {ρ ρ1 ρ2 : Env} {Q : Rv → Env → Prop} {QT : Bool → Env → Prop} {QA : List Rv → Env → Prop} {QI : List D → Env → Prop} {E : Exn → Env → Prop} {t u tb ts : DS} {te ta : DE} {c tt tv : DT} {tA : DA} {ti : DI} {g : DG} {d d' e : D} {i j : Nat} {v : V} {x y : Rv} {xs : List Rv} {nm : String}
variable {k : D → Prop} {a b : Str} {m p : Int}
instance (priority := 2280) i_w_in2t {o : Bool} {x y z : Str} : St1 (qInS true (.p (.str x)) (.n o .tup [.p (.str y), .p (.str z)]) k) (k (.bl (!dc (x = y ∨ x = z)))) := ⟨w_in2t⟩
end
section
variable {n : Env → Prop} {rt : D → Env → Prop} {bk ct : Env → Prop} {ex : Exn → Env → Prop} {ρ ρ1 ρ2 : Env} {Q : Rv → Env → Prop} {QT : Bool → Env → Prop} {QA : List Rv → Env → Prop} {QI : List D → Env → Prop} {E : Exn → Env → Prop} {t u tb ts : DS} {te ta : DE} {c tt tv : DT} {tA : DA} {ti : DI} {g : DG} {d d' e : D} {i j : Nat} {v : V} {x y : Rv} {xs : List Rv} {nm : String}
variable {k : D → Prop} {a b : Str} {m p : Int}
instance (priority := 2270) i_w_intB {b : Bool} : St1 (qInt [.p (.bl b)] k) (k (.int (if b = true then 1 else 0))) := ⟨w_intB⟩
end
section
variable {n : Env → Prop} {rt : D → Env → Prop} {bk ct : Env → Prop} {ex : Exn → Env → Prop} {ρ ρ1 ρ2 : Env} {Q : Rv → Env → Prop} {QT : Bool → Env → Prop} {QA : List Rv → Env → Prop} {QI : List D → Env → Prop} {E : Exn → Env → Prop} {t u tb ts : DS} {te ta : DE} {c tt tv : DT} {tA : DA} {ti : DI} {g : DG} {d d' e : D} {i j : Nat} {v : V} {x y : Rv} {xs : List Rv} {nm : String}
variable {k : D → Prop} {a b : Str} {m p : Int}
instance (priority := 2260) i_w_intI  : St1 (qInt [.p (.int m)] k) (k (.int m)) := ⟨w_intI⟩
end
section
variable {n : Env → Prop} {rt : D → Env → Prop} {bk ct : Env → Prop} {ex : Exn → Env → Prop} {ρ ρ1 ρ2 : Env} {Q : Rv → Env → Prop} {QT : Bool → Env → Prop} {QA : List Rv → Env → Prop} {QI : List D → Env → Prop} {E : Exn → Env → Prop} {t u tb ts : DS} {te ta : DE} {c tt tv : DT} {tA : DA} {ti : DI} {g : DG} {d d' e : D} {i j : Nat} {v : V} {x y : Rv} {xs : List Rv} {nm : String}
variable {k : D → Prop} {a b : Str} {m p : Int}
instance (priority := 2250) i_w_isdigit  : St1 (qIsdigit (.p (.str a)) k) (k (.bl (Txt.isdigit a))) := ⟨w_isdigit⟩
end
section
variable {n : Env → Prop} {rt : D → Env → Prop} {bk ct : Env → Prop} {ex : Exn → Env → Prop} {ρ ρ1 ρ2 : Env} {Q : Rv → Env → Prop} {QT : Bool → Env → Prop} {QA : List Rv → Env → Prop} {QI : List D → Env → Prop} {E : Exn → Env → Prop} {t u tb ts : DS} {te ta : DE} {c tt tv : DT} {tA : DA} {ti : DI} {g : DG} {d d' e : D} {i j : Nat} {v : V} {x y : Rv} {xs : List Rv} {nm : String}
variable {k : D → Prop} {a b : Str} {m p : Int}
instance (priority := 2240) i_w_isalpha  : St1 (qIsalpha (.p (.str a)) k) (k (.bl (Txt.isalpha a))) := ⟨w_isalpha⟩
end
section
variable {n : Env → Prop} {rt : D → Env → Prop} {bk ct : Env → Prop} {ex : Exn → Env → Prop} {ρ ρ1 ρ2 : Env} {Q : Rv → Env → Prop} {QT : Bool → Env → Prop} {QA : List Rv → Env → Prop} {QI : List D → Env → Prop} {E : Exn → Env → Prop} {t u tb ts : DS} {te ta : DE} {c tt tv : DT} {tA : DA} {ti : DI} {g : DG} {d d' e : D} {i j : Nat} {v : V} {x y : Rv} {xs : List Rv} {nm : String}
variable {k : D → Prop} {a b : Str} {m p : Int}
instance (priority := 2230) i_w_isNn  : St1 (qIsN .non .non k) (k (.bl true)) := ⟨w_isNn⟩
end
section
variable {n : Env → Prop} {rt : D → Env → Prop} {bk ct : Env → Prop} {ex : Exn → Env → Prop} {ρ ρ1 ρ2 : Env} {Q : Rv → Env → Prop} {QT : Bool → Env → Prop} {QA : List Rv → Env → Prop} {QI : List D → Env → Prop} {E : Exn → Env → Prop} {t u tb ts : DS} {te ta : DE} {c tt tv : DT} {tA : DA} {ti : DI} {g : DG} {d d' e : D} {i j : Nat} {v : V} {x y : Rv} {xs : List Rv} {nm : String}
variable {k : D → Prop} {a b : Str} {m p : Int}
instance (priority := 2220) i_w_isN {d : D} : St1 (qIsN d .non k) (k (.bl (isNon d))) := ⟨w_isN⟩
end
section
variable {n : Env → Prop} {rt : D → Env → Prop} {bk ct : Env → Prop} {ex : Exn → Env → Prop} {ρ ρ1 ρ2 : Env} {Q : Rv → Env → Prop} {QT : Bool → Env → Prop} {QA : List Rv → Env → Prop} {QI : List D → Env → Prop} {E : Exn → Env → Prop} {t u tb ts : DS} {te ta : DE} {c tt tv : DT} {tA : DA} {ti : DI} {g : DG} {d d' e : D} {i j : Nat} {v : V} {x y : Rv} {xs : List Rv} {nm : String}
variable {k : D → Prop} {a b : Str} {m p : Int}
instance (priority := 2210) i_w_notN {d : D} : St1 (qNotN d .non k) (k (.bl (!isNon d))) := ⟨w_notN⟩
end
section
variable {n : Env → Prop} {rt : D → Env → Prop} {bk ct : Env → Prop} {ex : Exn → Env → Prop} {ρ ρ1 ρ2 : Env} {Q : Rv → Env → Prop} {QT : Bool → Env → Prop} {QA : List Rv → Env → Prop} {QI : List D → Env → Prop} {E : Exn → Env → Prop} {t u tb ts : DS} {te ta : DE} {c tt tv : DT} {tA : DA} {ti : DI} {g : DG} {d d' e : D} {i j : Nat} {v : V} {x y : Rv} {xs : List Rv} {nm : String}
instance (priority := 2200) i_w_istr  : St1 (dIStr te ρ QI E) (te ρ (fun r ρ1 => isK r ρ1 QI) E) := ⟨w_istr⟩
end
section
variable {n : Env → Prop} {rt : D → Env → Prop} {bk ct : Env → Prop} {ex : Exn → Env → Prop} {ρ ρ1 ρ2 : Env} {Q : Rv → Env → Prop} {QT : Bool → Env → Prop} {QA : List Rv → Env → Prop} {QI : List D → Env → Prop} {E : Exn → Env → Prop} {t u tb ts : DS} {te ta : DE} {c tt tv : DT} {tA : DA} {ti : DI} {g : DG} {d d' e : D} {i j : Nat} {v : V} {x y : Rv} {xs : List Rv} {nm : String}
instance (priority := 2190) i_w_m1 {r : Op2} {tb : DE} : St1 (dM1 r ta tb ρ Q E) (ta ρ (fun x ρ1 => m1K r x ρ1 tb Q E) E) := ⟨w_m1⟩
end
section
variable {n : Env → Prop} {rt : D → Env → Prop} {bk ct : Env → Prop} {ex : Exn → Env → Prop} {ρ ρ1 ρ2 : Env} {Q : Rv → Env → Prop} {QT : Bool → Env → Prop} {QA : List Rv → Env → Prop} {QI : List D → Env → Prop} {E : Exn → Env → Prop} {t u tb ts : DS} {te ta : DE} {c tt tv : DT} {tA : DA} {ti : DI} {g : DG} {d d' e : D} {i j : Nat} {v : V} {x y : Rv} {xs : List Rv} {nm : String}
instance (priority := 2180) i_w_put {T : String} {r : OpM} {ti : DE} : St1 (dPut T i r te ti ⟨n, rt, bk, ct, ex⟩ ρ) (te ρ (fun x ρ1 => puK T i r ti x ρ1 n ex) ex) := ⟨w_put⟩
end
section

instance (priority := 2170) i_w_loopNil {g : DG} {t : DS} {n : Env → Prop} {rt : D → Env → Prop} {bk ct : Env → Prop} {ex : Exn → Env → Prop} {ρ : Env} : St1 (dLoop g t ⟨n, rt, bk, ct, ex⟩ [] ρ) (n ρ) := ⟨w_loopNil⟩
end
section

instance (priority := 2160) i_w_lcNil {g : DG} {tt : DT} {te : DE} {vs : List Nat} {K : List D → Env → Prop} {ρ : Env} {acc : List D} : St1 (dLcL g tt te vs K [] ρ acc) (K acc ρ) := ⟨w_lcNil⟩
end
section
variable {n : Env → Prop} {rt : D → Env → Prop} {bk ct : Env → Prop} {ex : Exn → Env → Prop} {ρ ρ1 ρ2 : Env} {Q : Rv → Env → Prop} {QI : List D → Env → Prop} {E : Exn → Env → Prop} {t tb : DS} {te ta tc tt : DE} {tA : DA} {c : DT} {ti : DI} {g : DG} {gs : DGs} {d d' e : D} {ds es ch ch' : List D} {i j : Nat} {x y z : Rv} {xs : List Rv} {T : String} {m : OpM} {kd k' : Kd} {s : Sl} {res : D} {k : D → Env → Prop} {vs : List Nat}
instance (priority := 2150) i_lw_nil  : St1 (dLoopW g tb vs ⟨n, rt, bk, ct, ex⟩ [] ρ) (n ρ) := ⟨lw_nil⟩
end
section
variable {n : Env → Prop} {rt : D → Env → Prop} {bk ct : Env → Prop} {ex : Exn → Env → Prop} {ρ ρ1 ρ2 : Env} {Q : Rv → Env → Prop} {QI : List D → Env → Prop} {E : Exn → Env → Prop} {t tb : DS} {te ta tc tt : DE} {tA : DA} {c : DT} {ti : DI} {g : DG} {gs : DGs} {d d' e : D} {ds es ch ch' : List D} {i j : Nat} {x y z : Rv} {xs : List Rv} {T : String} {m : OpM} {kd k' : Kd} {s : Sl} {res : D} {k : D → Env → Prop} {vs : List Nat}
instance (priority := 2140) i_w_wipe  : St1 (dThenW t vs ⟨n, rt, bk, ct, ex⟩ ρ) (t ⟨fun ρ1 => wpK ρ1 vs n, rt, bk, ct, ex⟩ ρ) := ⟨w_wipe⟩
end
section
variable {n : Env → Prop} {rt : D → Env → Prop} {bk ct : Env → Prop} {ex : Exn → Env → Prop} {ρ ρ1 ρ2 : Env} {Q : Rv → Env → Prop} {QI : List D → Env → Prop} {E : Exn → Env → Prop} {t tb : DS} {te ta tc tt : DE} {tA : DA} {c : DT} {ti : DI} {g : DG} {gs : DGs} {d d' e : D} {ds es ch ch' : List D} {i j : Nat} {x y z : Rv} {xs : List Rv} {T : String} {m : OpM} {kd k' : Kd} {s : Sl} {res : D} {k : D → Env → Prop} {vs : List Nat}
instance (priority := 2130) i_w_forW  : St1 (dForW ti g tb vs ⟨n, rt, bk, ct, ex⟩ ρ) (ti ρ (fun items ρ1 => wpK ρ1 vs (dLoopW g tb vs ⟨n, rt, bk, ct, ex⟩ items)) ex) := ⟨w_forW⟩
end
section
variable {n : Env → Prop} {rt : D → Env → Prop} {bk ct : Env → Prop} {ex : Exn → Env → Prop} {ρ ρ1 ρ2 : Env} {Q : Rv → Env → Prop} {QI : List D → Env → Prop} {E : Exn → Env → Prop} {t tb : DS} {te ta tc tt : DE} {tA : DA} {c : DT} {ti : DI} {g : DG} {gs : DGs} {d d' e : D} {ds es ch ch' : List D} {i j : Nat} {x y z : Rv} {xs : List Rv} {T : String} {m : OpM} {kd k' : Kd} {s : Sl} {res : D} {k : D → Env → Prop} {vs : List Nat}
variable {α : Type} {inst : Enc α} {xs' : List α} {a : α} {K : Kd → List D → D → Prop} {p : Int} {l : Nat}
instance (priority := 2120) i_m_clrE  : St1 (mClear .lst (xs'.map en) [] K) (K .lst (([] : List α).map en) .non) := ⟨m_clrE⟩
end
section
variable {n : Env → Prop} {rt : D → Env → Prop} {bk ct : Env → Prop} {ex : Exn → Env → Prop} {ρ ρ1 ρ2 : Env} {Q : Rv → Env → Prop} {QI : List D → Env → Prop} {E : Exn → Env → Prop} {t tb : DS} {te ta tc tt : DE} {tA : DA} {c : DT} {ti : DI} {g : DG} {gs : DGs} {d d' e : D} {ds es ch ch' : List D} {i j : Nat} {x y z : Rv} {xs : List Rv} {T : String} {m : OpM} {kd k' : Kd} {s : Sl} {res : D} {k : D → Env → Prop} {vs : List Nat}
variable {κ β : Type} {i0 : DecidableEq κ} {i1 : Enc κ} {i2 : KeyE κ} {i3 : Enc β} {kv : List (κ × β)} {a : κ} {b : β} {K : Kd → List D → D → Prop}
instance (priority := 2110) i_w_newD  : St1 (dNewD ρ Q E) (Q (.t (.n true (.dic []) [])) ρ) := ⟨w_newD⟩
end
section
variable {n : Env → Prop} {rt : D → Env → Prop} {bk ct : Env → Prop} {ex : Exn → Env → Prop} {ρ ρ1 ρ2 : Env} {Q : Rv → Env → Prop} {QI : List D → Env → Prop} {E : Exn → Env → Prop} {t tb : DS} {te ta tc tt : DE} {tA : DA} {c : DT} {ti : DI} {g : DG} {gs : DGs} {d d' e : D} {ds es ch ch' : List D} {i j : Nat} {x y z : Rv} {xs : List Rv} {T : String} {m : OpM} {kd k' : Kd} {s : Sl} {res : D} {k : D → Env → Prop} {vs : List Nat}
variable {κ β : Type} {i0 : DecidableEq κ} {i1 : Enc κ} {i2 : KeyE κ} {i3 : Enc β} {kv : List (κ × β)} {a : κ} {b : β} {K : Kd → List D → D → Prop}
instance (priority := 2100) i_w_get2  : St1 (dGet2 ta tt tc ρ Q E) (ta ρ (fun x ρ1 => isDK x ρ1 (tt ρ1 (fun y ρ2 => tc ρ2 (fun z ρ3 => g2K x y z ρ3 fun d => Q (.t d) ρ3) E) E)) E) := ⟨w_get2⟩
end
section
variable {n : Env → Prop} {rt : D → Env → Prop} {bk ct : Env → Prop} {ex : Exn → Env → Prop} {ρ ρ1 ρ2 : Env} {Q : Rv → Env → Prop} {QI : List D → Env → Prop} {E : Exn → Env → Prop} {t tb : DS} {te ta tc tt : DE} {tA : DA} {c : DT} {ti : DI} {g : DG} {gs : DGs} {d d' e : D} {ds es ch ch' : List D} {i j : Nat} {x y z : Rv} {xs : List Rv} {T : String} {m : OpM} {kd k' : Kd} {s : Sl} {res : D} {k : D → Env → Prop} {vs : List Nat}
instance (priority := 2070) i_w_disp {ks : List Str} : St1 (dDisp ks tA ρ Q E) (tA ρ (fun rs ρ1 => dpK ks rs ρ1 fun d ρ2 => Q (.t d) ρ2) E) := ⟨w_disp⟩
end
section
variable {n : Env → Prop} {rt : D → Env → Prop} {bk ct : Env → Prop} {ex : Exn → Env → Prop} {ρ ρ1 ρ2 : Env} {Q : Rv → Env → Prop} {QI : List D → Env → Prop} {E : Exn → Env → Prop} {t tb : DS} {te ta tc tt : DE} {tA : DA} {c : DT} {ti : DI} {g : DG} {gs : DGs} {d d' e : D} {ds es ch ch' : List D} {i j : Nat} {x y z : Rv} {xs : List Rv} {T : String} {m : OpM} {kd k' : Kd} {s : Sl} {res : D} {k : D → Env → Prop} {vs : List Nat}
instance (priority := 2060) i_w_dsN {QA : List Rv → Env → Prop} : St1 (dDs [] ρ QA E) (dNil ρ QA E) := ⟨w_dsN⟩
end
section
variable {n : Env → Prop} {rt : D → Env → Prop} {bk ct : Env → Prop} {ex : Exn → Env → Prop} {ρ ρ1 ρ2 : Env} {Q : Rv → Env → Prop} {QI : List D → Env → Prop} {E : Exn → Env → Prop} {t tb : DS} {te ta tc tt : DE} {tA : DA} {c : DT} {ti : DI} {g : DG} {gs : DGs} {d d' e : D} {ds es ch ch' : List D} {i j : Nat} {x y z : Rv} {xs : List Rv} {T : String} {m : OpM} {kd k' : Kd} {s : Sl} {res : D} {k : D → Env → Prop} {vs : List Nat}
instance (priority := 2050) i_w_dsC {QA : List Rv → Env → Prop} {ts : List DE} : St1 (dDs (te :: ts) ρ QA E) (dCons te (dDs ts) ρ QA E) := ⟨w_dsC⟩
end
section
variable {n : Env → Prop} {rt : D → Env → Prop} {bk ct : Env → Prop} {ex : Exn → Env → Prop} {ρ ρ1 ρ2 : Env} {Q : Rv → Env → Prop} {QI : List D → Env → Prop} {E : Exn → Env → Prop} {t tb : DS} {te ta tc tt : DE} {tA : DA} {c : DT} {ti : DI} {g : DG} {gs : DGs} {d d' e : D} {ds es ch ch' : List D} {i j : Nat} {x y z : Rv} {xs : List Rv} {T : String} {m : OpM} {kd k' : Kd} {s : Sl} {res : D} {k : D → Env → Prop} {vs : List Nat}
instance (priority := 2040) i_w_gnil {q : Env → Prop} : St1 (dGNil [] ρ q) (q ρ) := ⟨w_gnil⟩
end
section
variable {n : Env → Prop} {rt : D → Env → Prop} {bk ct : Env → Prop} {ex : Exn → Env → Prop} {ρ ρ1 ρ2 : Env} {Q : Rv → Env → Prop} {QI : List D → Env → Prop} {E : Exn → Env → Prop} {t tb : DS} {te ta tc tt : DE} {tA : DA} {c : DT} {ti : DI} {g : DG} {gs : DGs} {d d' e : D} {ds es ch ch' : List D} {i j : Nat} {x y z : Rv} {xs : List Rv} {T : String} {m : OpM} {kd k' : Kd} {s : Sl} {res : D} {k : D → Env → Prop} {vs : List Nat}
instance (priority := 2030) i_w_gcons {q : Env → Prop} : St1 (dGCons g gs (d :: ds) ρ q) (g (.t d) ρ fun ρ1 => gs ds ρ1 q) := ⟨w_gcons⟩
end
section
variable {n : Env → Prop} {rt : D → Env → Prop} {bk ct : Env → Prop} {ex : Exn → Env → Prop} {ρ ρ1 ρ2 : Env} {Q : Rv → Env → Prop} {QI : List D → Env → Prop} {E : Exn → Env → Prop} {t tb : DS} {te ta tc tt : DE} {tA : DA} {c : DT} {ti : DI} {g : DG} {gs : DGs} {d d' e : D} {ds es ch ch' : List D} {i j : Nat} {x y z : Rv} {xs : List Rv} {T : String} {m : OpM} {kd k' : Kd} {s : Sl} {res : D} {k : D → Env → Prop} {vs : List Nat}
instance (priority := 2020) i_w_gsub {q : Env → Prop} : St1 (dGSub T i m te x ρ q) (gsK T i ρ (te ρ (fun y ρ1 => mutK i m [y, x] ρ1 q) (fun _ _ => False))) := ⟨w_gsub⟩
end
section
variable {n : Env → Prop} {rt : D → Env → Prop} {bk ct : Env → Prop} {ex : Exn → Env → Prop} {ρ ρ1 ρ2 : Env} {Q : Rv → Env → Prop} {QI : List D → Env → Prop} {E : Exn → Env → Prop} {t tb : DS} {te ta tc tt : DE} {tA : DA} {c : DT} {ti : DI} {g : DG} {gs : DGs} {d d' e : D} {ds es ch ch' : List D} {i j : Nat} {x y z : Rv} {xs : List Rv} {T : String} {m : OpM} {kd k' : Kd} {s : Sl} {res : D} {k : D → Env → Prop} {vs : List Nat}
instance (priority := 2010) i_w_zip  : St1 (dIZip tA ρ QI E) (tA ρ (fun rs ρ1 => zK rs ρ1 QI) E) := ⟨w_zip⟩
end
section
variable {ρ ρ2 : Env} {tA : DA} {QI : List D → Env → Prop} {E : Exn → Env → Prop} {xs : List Rv} {d e : D}
instance (priority := 2000) i_w_zipA  : St1 (dIZipA tA ρ QI E) (tA ρ (fun rs ρ1 => zAK rs ρ1 QI) E) := ⟨w_zipA⟩
end
section
variable {ρ ρ2 : Env} {tA : DA} {QI : List D → Env → Prop} {E : Exn → Env → Prop} {xs : List Rv} {d e : D}
instance (priority := 1990) i_w_ez  : St1 (dIEZ tA ρ QI E) (tA ρ (fun rs ρ1 => ezK rs ρ1 QI) E) := ⟨w_ez⟩
end
section
variable {ρ : Env} {ta tb : DE} {Q : Rv → Env → Prop} {E : Exn → Env → Prop} {x y : Rv}
instance (priority := 1980) i_w_lrg1  : St1 (dLRg1 ta ρ Q E) (ta ρ (fun x ρ1 => lr1K x ρ1 Q) E) := ⟨w_lrg1⟩
end
section
variable {ρ : Env} {ta tb : DE} {Q : Rv → Env → Prop} {E : Exn → Env → Prop} {x y : Rv}
instance (priority := 1970) i_w_lrg2  : St1 (dLRg2 ta tb ρ Q E) (ta ρ (fun x ρ1 => tb ρ1 (fun y ρ2 => lr2K x y ρ2 Q) E) E) := ⟨w_lrg2⟩
end
section
variable {n : Env → Prop} {rt : D → Env → Prop} {bk ct : Env → Prop} {ex : Exn → Env → Prop} {ρ ρ1 ρ2 : Env} {Q : Rv → Env → Prop} {QI : List D → Env → Prop} {E : Exn → Env → Prop} {t tb : DS} {te ta tc tt : DE} {tA : DA} {c : DT} {ti : DI} {g : DG} {gs : DGs} {d d' e : D} {ds es ch ch' : List D} {i j : Nat} {x y z : Rv} {xs : List Rv} {T : String} {m : OpM} {kd k' : Kd} {s : Sl} {res : D} {k : D → Env → Prop} {vs : List Nat}
instance (priority := 1960) i_w_enum  : St1 (dIEnum tA ρ QI E) (tA ρ (fun rs ρ1 => enK rs ρ1 QI) E) := ⟨w_enum⟩
end
section
variable {n : Env → Prop} {rt : D → Env → Prop} {bk ct : Env → Prop} {ex : Exn → Env → Prop} {ρ ρ1 ρ2 : Env} {Q : Rv → Env → Prop} {QI : List D → Env → Prop} {E : Exn → Env → Prop} {t tb : DS} {te ta tc tt : DE} {tA : DA} {c : DT} {ti : DI} {g : DG} {gs : DGs} {d d' e : D} {ds es ch ch' : List D} {i j : Nat} {x y z : Rv} {xs : List Rv} {T : String} {m : OpM} {kd k' : Kd} {s : Sl} {res : D} {k : D → Env → Prop} {vs : List Nat}
instance (priority := 1950) i_w_js {ts : List DE} : St1 (dJs ts ρ Q E) (dJl ts Str.empty ρ (fun out ρ1 => Q (.t (.p (.str out))) ρ1) E) := ⟨w_js⟩
end
section
variable {n : Env → Prop} {rt : D → Env → Prop} {bk ct : Env → Prop} {ex : Exn → Env → Prop} {ρ ρ1 ρ2 : Env} {Q : Rv → Env → Prop} {QI : List D → Env → Prop} {E : Exn → Env → Prop} {t tb : DS} {te ta tc tt : DE} {tA : DA} {c : DT} {ti : DI} {g : DG} {gs : DGs} {d d' e : D} {ds es ch ch' : List D} {i j : Nat} {x y z : Rv} {xs : List Rv} {T : String} {m : OpM} {kd k' : Kd} {s : Sl} {res : D} {k : D → Env → Prop} {vs : List Nat}
instance (priority := 1940) i_w_jlN {acc : Str} {q : Str → Env → Prop} : St1 (dJl [] acc ρ q E) (q acc ρ) := ⟨w_jlN⟩
end
section
variable {n : Env → Prop} {rt : D → Env → Prop} {bk ct : Env → Prop} {ex : Exn → Env → Prop} {ρ ρ1 ρ2 : Env} {Q : Rv → Env → Prop} {QI : List D → Env → Prop} {E : Exn → Env → Prop} {t tb : DS} {te ta tc tt : DE} {tA : DA} {c : DT} {ti : DI} {g : DG} {gs : DGs} {d d' e : D} {ds es ch ch' : List D} {i j : Nat} {x y z : Rv} {xs : List Rv} {T : String} {m : OpM} {kd k' : Kd} {s : Sl} {res : D} {k : D → Env → Prop} {vs : List Nat}
instance (priority := 1930) i_w_jlC {ts : List DE} {acc : Str} {q : Str → Env → Prop} : St1 (dJl (te :: ts) acc ρ q E) (te ρ (fun r ρ1 => jlK ts acc r ρ1 q E) E) := ⟨w_jlC⟩
end
section
variable {n : Env → Prop} {rt : D → Env → Prop} {bk ct : Env → Prop} {ex : Exn → Env → Prop} {ρ ρ1 ρ2 : Env} {Q : Rv → Env → Prop} {QI : List D → Env → Prop} {E : Exn → Env → Prop} {t tb : DS} {te ta tc tt : DE} {tA : DA} {c : DT} {ti : DI} {g : DG} {gs : DGs} {d d' e : D} {ds es ch ch' : List D} {i j : Nat} {x y z : Rv} {xs : List Rv} {T : String} {m : OpM} {kd k' : Kd} {s : Sl} {res : D} {k : D → Env → Prop} {vs : List Nat}
instance (priority := 1920) i_w_fmt  : St1 (dFmt te ρ Q E) (te ρ (fun r ρ1 => fmK r ρ1 Q) E) := ⟨w_fmt⟩
end
section
variable {n : Env → Prop} {rt : D → Env → Prop} {bk ct : Env → Prop} {ex : Exn → Env → Prop} {ρ ρ1 ρ2 : Env} {Q : Rv → Env → Prop} {QI : List D → Env → Prop} {E : Exn → Env → Prop} {t tb : DS} {te ta tc tt : DE} {tA : DA} {c : DT} {ti : DI} {g : DG} {gs : DGs} {d d' e : D} {ds es ch ch' : List D} {i j : Nat} {x y z : Rv} {xs : List Rv} {T : String} {m : OpM} {kd k' : Kd} {s : Sl} {res : D} {k : D → Env → Prop} {vs : List Nat}
instance (priority := 1910) i_w_bm1 {r : Op2} : St1 (dBM1 T r ta tt ρ Q E) (ta ρ (fun x ρ1 => bmK T x ρ1 (tt ρ1 (fun y ρ2 => opK r x y ρ2 fun z => Q (.t z) ρ2) E)) E) := ⟨w_bm1⟩
end
section
variable {ρ ρ2 : Env} {Q : Rv → Env → Prop} {E : Exn → Env → Prop} {t : DA} {xs : List Rv}
instance (priority := 1900) i_w_disp1  : St1 (dDisp1 t ρ Q E) (t ρ (fun rs ρ1 => dp1K rs ρ1 Q) E) := ⟨w_disp1⟩
end
section
variable {ρ : Env} {gs : DGs} {q : Env → Prop}
instance s_gt2 {α β : Type} [Enc α] [Enc β] {a : α} {b : β} : St1 (dGTup 2 gs (.t (en (a, b))) ρ q) (gs [en a, en b] ρ q) := ⟨fun h => w_gtT (d' := en (a, b)) (Frz.h (d := en (a, b))) rfl rfl h⟩
instance s_gt3 {α β γ : Type} [Enc α] [Enc β] [Enc γ] {a : α} {b : β} {c : γ} : St1 (dGTup 3 gs (.t (en (T3.mk a b c))) ρ q) (gs [en a, en b, en c] ρ q) := ⟨fun h => w_gtT (d' := en (T3.mk a b c)) (Frz.h (d := en (T3.mk a b c))) rfl rfl h⟩
end
/-! ### the rest by groups -/
class Al0 (p : Prop) : Prop where
  go : p → p
instance al_ixK {a0 a1 a2 a3} : Al0 (ixK a0 a1 a2 a3) := ⟨fun z => z⟩
instance al_fdK {a0 a1 a2 a3 a4} : Al0 (fdK a0 a1 a2 a3 a4) := ⟨fun z => z⟩
instance al_rfK {a0 a1 a2 a3 a4} : Al0 (rfK a0 a1 a2 a3 a4) := ⟨fun z => z⟩
instance al_tyK {a0 a1 a2 a3 a4 a5 a6} : Al0 (tyK a0 a1 a2 a3 a4 a5 a6) := ⟨fun z => z⟩
instance al_upK {a0 a1 a2 a3 a4} : Al0 (upK a0 a1 a2 a3 a4) := ⟨fun z => z⟩
instance al_qRepL {a0 a1 a2} : Al0 (qRepL a0 a1 a2) := ⟨fun z => z⟩
instance al_dVar {a0 a1 a2 a3} : Al0 (dVar a0 a1 a2 a3) := ⟨fun z => z⟩
instance al_opK {a0 a1 a2 a3 a4} : Al0 (opK a0 a1 a2 a3 a4) := ⟨fun z => z⟩
instance al_dName {a0 a1 a2 a3} : Al0 (dName a0 a1 a2 a3) := ⟨fun z => z⟩
class Al1 (p : Prop) : Prop where
  go : p → p
instance al_cbK {a0 a1 a2 a3} : Al1 (cbK a0 a1 a2 a3) := ⟨fun z => z⟩
instance al_mkK {a0 a1 a2} : Al1 (mkK a0 a1 a2) := ⟨fun z => z⟩
instance al_itK {a0 a1 a2} : Al1 (itK a0 a1 a2) := ⟨fun z => z⟩
instance al_lcK {a0 a1 a2} : Al1 (lcK a0 a1 a2) := ⟨fun z => z⟩
instance al_lcA {a0 a1 a2 a3 a4} : Al1 (lcA a0 a1 a2 a3 a4) := ⟨fun z => z⟩
instance al_retK {a0 a1 a2} : Al1 (retK a0 a1 a2) := ⟨fun z => z⟩
class Al2 (p : Prop) : Prop where
  go : p → p
instance al_dMv {a0 a1 a2 a3} : Al2 (dMv a0 a1 a2 a3) := ⟨fun z => z⟩
instance al_unK {a0 a1 a2 a3} : Al2 (unK a0 a1 a2 a3) := ⟨fun z => z⟩
instance al_blK {a0 a1 a2} : Al2 (blK a0 a1 a2) := ⟨fun z => z⟩
instance al_chK {a0 a1 a2 a3 a4 a5 a6 a7} : Al2 (chK a0 a1 a2 a3 a4 a5 a6 a7) := ⟨fun z => z⟩
instance al_qAdd {a0 a1 a2} : Al2 (qAdd a0 a1 a2) := ⟨fun z => z⟩
instance al_qMod {a0 a1 a2} : Al2 (qMod a0 a1 a2) := ⟨fun z => z⟩
instance al_qDiv {a0 a1 a2} : Al2 (qDiv a0 a1 a2) := ⟨fun z => z⟩
instance al_qEq {a0 a1 a2} : Al2 (qEq a0 a1 a2) := ⟨fun z => z⟩
instance al_qNe {a0 a1 a2} : Al2 (qNe a0 a1 a2) := ⟨fun z => z⟩
class Al3 (p : Prop) : Prop where
  go : p → p
instance al_qInS {a0 a1 a2 a3} : Al3 (qInS a0 a1 a2 a3) := ⟨fun z => z⟩
instance al_caK {a0 a1 a2 a3} : Al3 (caK a0 a1 a2 a3) := ⟨fun z => z⟩
instance al_baK {a0 a1 a2 a3 a4 a5} : Al3 (baK a0 a1 a2 a3 a4 a5) := ⟨fun z => z⟩
instance al_kwK {a0 a1 a2} : Al3 (kwK a0 a1 a2) := ⟨fun z => z⟩
instance al_qList {a0 a1} : Al3 (qList a0 a1) := ⟨fun z => z⟩
class Al4 (p : Prop) : Prop where
  go : p → p
instance al_qLen {a0 a1} : Al4 (qLen a0 a1) := ⟨fun z => z⟩
instance al_qAll {a0 a1} : Al4 (qAll a0 a1) := ⟨fun z => z⟩
instance al_qAny {a0 a1} : Al4 (qAny a0 a1) := ⟨fun z => z⟩
instance al_qIsi {a0 a1} : Al4 (qIsi a0 a1) := ⟨fun z => z⟩
instance al_qSortI {a0 a1} : Al4 (qSortI a0 a1) := ⟨fun z => z⟩
instance al_rg1K {a0 a1 a2} : Al4 (rg1K a0 a1 a2) := ⟨fun z => z⟩
instance al_rg2K {a0 a1 a2} : Al4 (rg2K a0 a1 a2) := ⟨fun z => z⟩
instance al_dMut {a0 a1 a2 a3 a4 a5 a6} : Al4 (dMut a0 a1 a2 a3 a4 a5 a6) := ⟨fun z => z⟩
instance al_mu2K {a0 a1 a2 a3 a4} : Al4 (mu2K a0 a1 a2 a3 a4) := ⟨fun z => z⟩
class Al5 (p : Prop) : Prop where
  go : p → p
instance al_ptK {a0 a1 a2} : Al5 (ptK a0 a1 a2) := ⟨fun z => z⟩
instance al_cutK {a0 a1 a2 a3 a4} : Al5 (cutK a0 a1 a2 a3 a4) := ⟨fun z => z⟩
instance al_qUpper {a0 a1} : Al5 (qUpper a0 a1) := ⟨fun z => z⟩
instance al_qRevT {a0 a1} : Al5 (qRevT a0 a1) := ⟨fun z => z⟩
instance al_fzK {a0 a1 a2} : Al5 (fzK a0 a1 a2) := ⟨fun z => z⟩
instance al_qStr1 {a0 a1} : Al5 (qStr1 a0 a1) := ⟨fun z => z⟩
instance al_trK {a0 a1 a2 a3 a4} : Al5 (trK a0 a1 a2 a3 a4) := ⟨fun z => z⟩
instance al_dAugI {a0 a1 a2 a3} : Al5 (dAugI a0 a1 a2 a3) := ⟨fun z => z⟩
instance al_agK {a0 a1 a2 a3} : Al5 (agK a0 a1 a2 a3) := ⟨fun z => z⟩
class Al6 (p : Prop) : Prop where
  go : p → p
instance al_qMulS {a0 a1 a2} : Al6 (qMulS a0 a1 a2) := ⟨fun z => z⟩
instance al_qPow {a0 a1 a2} : Al6 (qPow a0 a1 a2) := ⟨fun z => z⟩
instance al_isK {a0 a1 a2} : Al6 (isK a0 a1 a2) := ⟨fun z => z⟩
instance al_m1K {a0 a1 a2 a3 a4 a5} : Al6 (m1K a0 a1 a2 a3 a4 a5) := ⟨fun z => z⟩
instance al_puK {a0 a1 a2 a3 a4 a5 a6 a7} : Al6 (puK a0 a1 a2 a3 a4 a5 a6 a7) := ⟨fun z => z⟩
instance al_wpK {a0 a1 a2} : Al6 (wpK a0 a1 a2) := ⟨fun z => z⟩
instance al_dForC {a0 a1 a2 a3 a4 a5} : Al6 (dForC a0 a1 a2 a3 a4 a5) := ⟨fun z => z⟩
instance al_muE {a0 a1 a2 a3 a4 a5 a6} : Al6 (muE a0 a1 a2 a3 a4 a5 a6) := ⟨fun z => z⟩
instance al_mbE {a0 a1 a2 a3 a4 a5 a6 a7 a8} : Al6 (mbE a0 a1 a2 a3 a4 a5 a6 a7 a8) := ⟨fun z => z⟩
instance al_mAppend {a0 a1 a2 a3} : Al6 (mAppend a0 a1 a2 a3) := ⟨fun z => z⟩
class Al7 (p : Prop) : Prop where
  go : p → p
instance al_mInsert {a0 a1 a2 a3} : Al7 (mInsert a0 a1 a2 a3) := ⟨fun z => z⟩
instance al_mExtend {a0 a1 a2 a3} : Al7 (mExtend a0 a1 a2 a3) := ⟨fun z => z⟩
instance al_mPutD {a0 a1 a2 a3} : Al7 (mPutD a0 a1 a2 a3) := ⟨fun z => z⟩
instance al_muB {a0 a1 a2 a3 a4} : Al7 (muB a0 a1 a2 a3 a4) := ⟨fun z => z⟩
instance al_dMutB {a0 a1 a2 a3 a4 a5 a6} : Al7 (dMutB a0 a1 a2 a3 a4 a5 a6) := ⟨fun z => z⟩
instance al_isDK {a0 a1 a2} : Al7 (isDK a0 a1 a2) := ⟨fun z => z⟩
instance al_g2K {a0 a1 a2 a3 a4} : Al7 (g2K a0 a1 a2 a3 a4) := ⟨fun z => z⟩
instance al_dpK {a0 a1 a2 a3} : Al7 (dpK a0 a1 a2 a3) := ⟨fun z => z⟩
instance al_dGTup {a0 a1 a2 a3 a4} : Al7 (dGTup a0 a1 a2 a3 a4) := ⟨fun z => z⟩
instance al_gsK {a0 a1 a2 a3} : Al7 (gsK a0 a1 a2 a3) := ⟨fun z => z⟩
instance al_zK {a0 a1 a2} : Al7 (zK a0 a1 a2) := ⟨fun z => z⟩
class Al8 (p : Prop) : Prop where
  go : p → p
instance al_ezK {a0 a1 a2} : Al8 (ezK a0 a1 a2) := ⟨fun z => z⟩
instance al_lr1K {a0 a1 a2} : Al8 (lr1K a0 a1 a2) := ⟨fun z => z⟩
instance al_lr2K {a0 a1 a2 a3} : Al8 (lr2K a0 a1 a2 a3) := ⟨fun z => z⟩
instance al_enK {a0 a1 a2} : Al8 (enK a0 a1 a2) := ⟨fun z => z⟩
instance al_jlK {a0 a1 a2 a3 a4 a5} : Al8 (jlK a0 a1 a2 a3 a4 a5) := ⟨fun z => z⟩
instance al_fmK {a0 a1 a2} : Al8 (fmK a0 a1 a2) := ⟨fun z => z⟩
instance al_bmK {a0 a1 a2 a3} : Al8 (bmK a0 a1 a2 a3) := ⟨fun z => z⟩
instance al_dLend {a0 a1 a2 a3} : Al8 (dLend a0 a1 a2 a3) := ⟨fun z => z⟩
instance al_ldK {a0 a1 a2} : Al8 (ldK a0 a1 a2) := ⟨fun z => z⟩
instance al_dFzS {a0 a1 a2 a3} : Al8 (dFzS a0 a1 a2 a3) := ⟨fun z => z⟩
instance al_dp1K {a0 a1 a2} : Al8 (dp1K a0 a1 a2) := ⟨fun z => z⟩
class Al9 (p : Prop) : Prop where
  go : p → p
instance al_dFrz {a0 a1 a2 a3} : Al9 (dFrz a0 a1 a2 a3) := ⟨fun z => z⟩
class Al10 (p : Prop) : Prop where
  go : p → p
instance al_dAsg {a0 a1 a2 a3} : Al10 (dAsg a0 a1 a2 a3) := ⟨fun z => z⟩
instance al_dNext {a0 a1} : Al10 (dNext a0 a1) := ⟨fun z => z⟩
instance al_dDrop {a0 a1 a2} : Al10 (dDrop a0 a1 a2) := ⟨fun z => z⟩
instance al_dRet {a0 a1 a2} : Al10 (dRet a0 a1 a2) := ⟨fun z => z⟩
instance al_dRetN {a0 a1} : Al10 (dRetN a0 a1) := ⟨fun z => z⟩
instance al_dIfS {a0 a1 a2 a3 a4} : Al10 (dIfS a0 a1 a2 a3 a4) := ⟨fun z => z⟩
instance al_dFor {a0 a1 a2 a3 a4} : Al10 (dFor a0 a1 a2 a3 a4) := ⟨fun z => z⟩
instance al_dBreak {a0 a1} : Al10 (dBreak a0 a1) := ⟨fun z => z⟩
instance al_dCont {a0 a1} : Al10 (dCont a0 a1) := ⟨fun z => z⟩
instance al_dIsX {a0 a1 a2 a3 a4} : Al10 (dIsX a0 a1 a2 a3 a4) := ⟨fun z => z⟩
instance al_dFld {a0 a1 a2 a3 a4 a5} : Al10 (dFld a0 a1 a2 a3 a4 a5) := ⟨fun z => z⟩
instance al_dRaiseF {a0 a1 a2 a3 a4} : Al10 (dRaiseF a0 a1 a2 a3 a4) := ⟨fun z => z⟩
instance al_dTryK {a0 a1 a2 a3 a4 a5} : Al10 (dTryK a0 a1 a2 a3 a4 a5) := ⟨fun z => z⟩
instance al_dUnp {a0 a1 a2 a3 a4} : Al10 (dUnp a0 a1 a2 a3 a4) := ⟨fun z => z⟩
instance al_dC {a0 a1 a2 a3} : Al10 (dC a0 a1 a2 a3) := ⟨fun z => z⟩
instance al_dOp {a0 a1 a2 a3 a4 a5} : Al10 (dOp a0 a1 a2 a3 a4 a5) := ⟨fun z => z⟩
instance al_dNil {a0 a1 a2} : Al10 (dNil a0 a1 a2) := ⟨fun z => z⟩
instance al_dCons {a0 a1 a2 a3 a4} : Al10 (dCons a0 a1 a2 a3 a4) := ⟨fun z => z⟩
instance al_dCB {a0 a1 a2 a3 a4} : Al10 (dCB a0 a1 a2 a3 a4) := ⟨fun z => z⟩
instance al_dLst {a0 a1 a2 a3} : Al10 (dLst a0 a1 a2 a3) := ⟨fun z => z⟩
instance al_dTup {a0 a1 a2 a3} : Al10 (dTup a0 a1 a2 a3) := ⟨fun z => z⟩
instance al_dISeq {a0 a1 a2 a3} : Al10 (dISeq a0 a1 a2 a3) := ⟨fun z => z⟩
instance al_dLc {a0 a1 a2 a3 a4 a5 a6 a7} : Al10 (dLc a0 a1 a2 a3 a4 a5 a6 a7) := ⟨fun z => z⟩
class Al11 (p : Prop) : Prop where
  go : p → p
instance al_dLcX {a0 a1 a2 a3 a4 a5 a6 a7} : Al11 (dLcX a0 a1 a2 a3 a4 a5 a6 a7) := ⟨fun z => z⟩
instance al_dTrue {a0 a1 a2} : Al11 (dTrue a0 a1 a2) := ⟨fun z => z⟩
instance al_dUn {a0 a1 a2 a3 a4} : Al11 (dUn a0 a1 a2 a3 a4) := ⟨fun z => z⟩
instance al_dTst {a0 a1 a2 a3} : Al11 (dTst a0 a1 a2 a3) := ⟨fun z => z⟩
instance al_dAnd {a0 a1 a2 a3 a4} : Al11 (dAnd a0 a1 a2 a3 a4) := ⟨fun z => z⟩
instance al_dOr {a0 a1 a2 a3 a4} : Al11 (dOr a0 a1 a2 a3 a4) := ⟨fun z => z⟩
instance al_dNot {a0 a1 a2 a3} : Al11 (dNot a0 a1 a2 a3) := ⟨fun z => z⟩
instance al_dAndV {a0 a1 a2 a3 a4} : Al11 (dAndV a0 a1 a2 a3 a4) := ⟨fun z => z⟩
instance al_dOrV {a0 a1 a2 a3 a4} : Al11 (dOrV a0 a1 a2 a3 a4) := ⟨fun z => z⟩
instance al_dNotV {a0 a1 a2 a3} : Al11 (dNotV a0 a1 a2 a3) := ⟨fun z => z⟩
instance al_dIf {a0 a1 a2 a3 a4 a5} : Al11 (dIf a0 a1 a2 a3 a4 a5) := ⟨fun z => z⟩
instance al_dChain {a0 a1 a2 a3 a4 a5 a6 a7} : Al11 (dChain a0 a1 a2 a3 a4 a5 a6 a7) := ⟨fun z => z⟩
instance al_isB {a0 a1} : Al11 (isB a0 a1) := ⟨fun z => z⟩
instance al_qSub {a0 a1 a2} : Al11 (qSub a0 a1 a2) := ⟨fun z => z⟩
instance al_qNeg {a0 a1} : Al11 (qNeg a0 a1) := ⟨fun z => z⟩
instance al_qLt {a0 a1 a2} : Al11 (qLt a0 a1 a2) := ⟨fun z => z⟩
instance al_qLe {a0 a1 a2} : Al11 (qLe a0 a1 a2) := ⟨fun z => z⟩
instance al_qGt {a0 a1 a2} : Al11 (qGt a0 a1 a2) := ⟨fun z => z⟩
instance al_qGe {a0 a1 a2} : Al11 (qGe a0 a1 a2) := ⟨fun z => z⟩
instance al_dCall {a0 a1 a2 a3 a4 a5} : Al11 (dCall a0 a1 a2 a3 a4 a5) := ⟨fun z => z⟩
instance al_dCallK {a0 a1 a2 a3 a4 a5 a6} : Al11 (dCallK a0 a1 a2 a3 a4 a5 a6) := ⟨fun z => z⟩
class Al12 (p : Prop) : Prop where
  go : p → p
instance al_dIRng1 {a0 a1 a2 a3} : Al12 (dIRng1 a0 a1 a2 a3) := ⟨fun z => z⟩
instance al_dIRng2 {a0 a1 a2 a3} : Al12 (dIRng2 a0 a1 a2 a3) := ⟨fun z => z⟩
instance al_dCut {a0 a1 a2 a3 a4 a5} : Al12 (dCut a0 a1 a2 a3 a4 a5) := ⟨fun z => z⟩
instance al_dPart {a0 a1 a2 a3} : Al12 (dPart a0 a1 a2 a3) := ⟨fun z => z⟩
instance al_dNoPart {a0 a1 a2} : Al12 (dNoPart a0 a1 a2) := ⟨fun z => z⟩
instance al_dFz {a0 a1 a2 a3} : Al12 (dFz a0 a1 a2 a3) := ⟨fun z => z⟩
instance al_dK {a0 a1 a2 a3} : Al12 (dK a0 a1 a2 a3) := ⟨fun z => z⟩
instance al_dRaise {a0 a1 a2} : Al12 (dRaise a0 a1 a2) := ⟨fun z => z⟩
instance al_dTry {a0 a1 a2 a3 a4} : Al12 (dTry a0 a1 a2 a3 a4) := ⟨fun z => z⟩
instance al_qInt {a0 a1} : Al12 (qInt a0 a1) := ⟨fun z => z⟩
instance al_qIsdigit {a0 a1} : Al12 (qIsdigit a0 a1) := ⟨fun z => z⟩
instance al_qIsalpha {a0 a1} : Al12 (qIsalpha a0 a1) := ⟨fun z => z⟩
instance al_qIsN {a0 a1 a2} : Al12 (qIsN a0 a1 a2) := ⟨fun z => z⟩
instance al_qNotN {a0 a1 a2} : Al12 (qNotN a0 a1 a2) := ⟨fun z => z⟩
instance al_dIStr {a0 a1 a2 a3} : Al12 (dIStr a0 a1 a2 a3) := ⟨fun z => z⟩
instance al_dM1 {a0 a1 a2 a3 a4 a5} : Al12 (dM1 a0 a1 a2 a3 a4 a5) := ⟨fun z => z⟩
instance al_dPut {a0 a1 a2 a3 a4 a5 a6} : Al12 (dPut a0 a1 a2 a3 a4 a5 a6) := ⟨fun z => z⟩
instance al_dLoop {a0 a1 a2 a3 a4} : Al12 (dLoop a0 a1 a2 a3 a4) := ⟨fun z => z⟩
instance al_dLcL {a0 a1 a2 a3 a4 a5 a6 a7} : Al12 (dLcL a0 a1 a2 a3 a4 a5 a6 a7) := ⟨fun z => z⟩
instance al_dLoopW {a0 a1 a2 a3 a4 a5} : Al12 (dLoopW a0 a1 a2 a3 a4 a5) := ⟨fun z => z⟩
instance al_dThenW {a0 a1 a2 a3} : Al12 (dThenW a0 a1 a2 a3) := ⟨fun z => z⟩
class Al13 (p : Prop) : Prop where
  go : p → p
instance al_dForW {a0 a1 a2 a3 a4 a5} : Al13 (dForW a0 a1 a2 a3 a4 a5) := ⟨fun z => z⟩
instance al_mClear {a0 a1 a2 a3} : Al13 (mClear a0 a1 a2 a3) := ⟨fun z => z⟩
instance al_dNewD {a0 a1 a2} : Al13 (dNewD a0 a1 a2) := ⟨fun z => z⟩
instance al_dGet2 {a0 a1 a2 a3 a4 a5} : Al13 (dGet2 a0 a1 a2 a3 a4 a5) := ⟨fun z => z⟩
instance al_dDisp {a0 a1 a2 a3 a4} : Al13 (dDisp a0 a1 a2 a3 a4) := ⟨fun z => z⟩
instance al_dDs {a0 a1 a2 a3} : Al13 (dDs a0 a1 a2 a3) := ⟨fun z => z⟩
instance al_dGNil {a0 a1 a2} : Al13 (dGNil a0 a1 a2) := ⟨fun z => z⟩
instance al_dGCons {a0 a1 a2 a3 a4} : Al13 (dGCons a0 a1 a2 a3 a4) := ⟨fun z => z⟩
instance al_dGSub {a0 a1 a2 a3 a4 a5 a6} : Al13 (dGSub a0 a1 a2 a3 a4 a5 a6) := ⟨fun z => z⟩
instance al_dIZip {a0 a1 a2 a3} : Al13 (dIZip a0 a1 a2 a3) := ⟨fun z => z⟩
instance al_dIZipA {a0 a1 a2 a3} : Al13 (dIZipA a0 a1 a2 a3) := ⟨fun z => z⟩
instance al_dIEZ {a0 a1 a2 a3} : Al13 (dIEZ a0 a1 a2 a3) := ⟨fun z => z⟩
instance al_dLRg1 {a0 a1 a2 a3} : Al13 (dLRg1 a0 a1 a2 a3) := ⟨fun z => z⟩
instance al_dLRg2 {a0 a1 a2 a3 a4} : Al13 (dLRg2 a0 a1 a2 a3 a4) := ⟨fun z => z⟩
instance al_dIEnum {a0 a1 a2 a3} : Al13 (dIEnum a0 a1 a2 a3) := ⟨fun z => z⟩
instance al_dJs {a0 a1 a2 a3} : Al13 (dJs a0 a1 a2 a3) := ⟨fun z => z⟩
instance al_dJl {a0 a1 a2 a3 a4} : Al13 (dJl a0 a1 a2 a3 a4) := ⟨fun z => z⟩
instance al_dFmt {a0 a1 a2 a3} : Al13 (dFmt a0 a1 a2 a3) := ⟨fun z => z⟩
instance al_dBM1 {a0 a1 a2 a3 a4 a5 a6} : Al13 (dBM1 a0 a1 a2 a3 a4 a5 a6) := ⟨fun z => z⟩
instance al_dDisp1 {a0 a1 a2 a3} : Al13 (dDisp1 a0 a1 a2 a3) := ⟨fun z => z⟩
end DL
/-! DL46: list(d.items()). -/
namespace DL
open PySem L2
open Enc (en)
def itsD (ks : List Key) (ch : List D) : List D := (ks.zip ch).map fun kv => .n false .tup [keyE kv.1, kv.2]
def dItemsL (te : DE) : DE := fun ρ Q E => te ρ (fun x ρ1 => ∃ ks ch, look ρ1 x = some (.n true (.dic ks) ch) ∧ isFzL ch = true ∧ Q (.t (.n true .lst (itsD ks ch))) ρ1) E
section
variable {X : Cx} {cn : String → Addr} {E : WX} {e : Expr} {te : DE} {p apos cpos pos : Pos}
end
section
variable {ρ : Env} {te : DE} {Q : Rv → Env → Prop} {E : Exn → Env → Prop} {x : Rv}
def itlK (x : Rv) (ρ : Env) (Q : Rv → Env → Prop) : Prop := ∃ ks ch, look ρ x = some (.n true (.dic ks) ch) ∧ isFzL ch = true ∧ Q (.t (.n true .lst (itsD ks ch))) ρ
instance i_itemsL : St1 (dItemsL te ρ Q E) (te ρ (fun x ρ1 => itlK x ρ1 Q) E) := ⟨fun h => h⟩
end
end DL
/-! DL47: objects that one slot alone holds: their fields, their methods, how they are made. -/
namespace DL
open PySem L2
open Enc (en)
/-! ### fields -/
def putNs : List Str → Str → List Str
  | [], f => [f]
  | g :: ns, f => if g = f then g :: ns else g :: putNs ns f
def putFs {α : Type} : List Str → List α → Str → α → List α
  | [], _, _, y => [y]
  | _ :: _, [], _, _ => []
  | g :: ns, x :: vs, f, y => if g = f then y :: vs else x :: putFs ns vs f y
/-- where a field stands -/
def fldN : List Str → Str → Option Nat
  | [], _ => none
  | g :: ns, f => if g = f then some 0 else (fldN ns f).map (· + 1)
/-- a class whose objects have plain fields -/
structure ClsD (K : PySem.W.Frag) (c : String) : Prop where
  ex : ∃ C, PySem.W.nsIn K mainGlobals c = some (some (.ref C)) ∧ Cls K C
def NoF (K : PySem.W.Frag) (c : String) (f : Str) : Prop := ∃ C, PySem.W.nsIn K mainGlobals c = some (some (.ref C)) ∧ NoAttr K C f
/-! ### x.f = e -/
def mSetF (c : String) (f : Str) : OpM := fun k ch es Q => ∃ ns d, k = .obj c ns ∧ es = [d] ∧ ns.length < 1000 ∧ Q (.obj c (putNs ns f)) (putFs ns ch f d) .non
def rSetF (K : PySem.W.Frag) (f : Str) : V → List V → Hp → VK → Prop := fun x ys H Q => ∃ a C dx fs y, x = .ref a ∧ ys = [y] ∧ H a = some (.ins C dx fs) ∧ Cls K C ∧ NoAttr K C f ∧ fs.length < 1000 ∧ Q .non (L2.upd H a (.ins C dx (putF f y fs)))
section
variable {X : Cx} {cn : String → Addr} {E : WX}
def dSetF (i : Nat) (r : OpM) (te : DE) : DS := fun D ρ => te ρ (fun x ρ1 => (∃ s d, ρ1[i]? = some s ∧ s.d? = some d) ∧ ∃ es ρ2 s k ch, tkL ρ1 [x] = some (es, ρ2) ∧ ρ2[i]? = some s ∧ s.d? = some (.n true k ch) ∧ r k ch es fun k' ch' _ => D.nx ((killB i ρ2).set i (s.re (.n true k' ch')))) D.ex
end
/-! ### reading an own dict of an own object: names alone -/
section
variable {X : Cx} {cn : String → Addr} {E : WX} {K : PySem.W.Frag}
/-- the own dict in a field -/
def ofld (ρ : Env) (i : Nat) (c : String) (f : Str) : Option (Nat × D) := match ρ[i]? with
  | some s => match s.d? with
    | some (.n true (.obj c' ns) ch) => if c' = c then (fldN ns f).bind fun m => (ch[m]?).map fun d => (m, d) else none
    | _ => none
  | none => none
/-- self.f.get(j, k) -/
def dFGet (c : String) (f : Str) (i j k : Nat) : DE := fun ρ Q _ => ∃ m d dj dk o, ofld ρ i c f = some (m, d) ∧ isDic d = true ∧ slD ρ j = some dj ∧ slD ρ k = some dk ∧ dictD d dj = some o ∧ (o.getD dk).isFz = true ∧ Q (.t (o.getD dk)) ρ
/-- an operation on a field and a name -/
def dFOp (c : String) (f : Str) (r : Op2) (i j : Nat) : DE := fun ρ Q _ => ∃ m d dj, ofld ρ i c f = some (m, d) ∧ slD ρ j = some dj ∧ r d dj fun z => Q (.t z) ρ
/-- an operation on a name and a field -/
def dOpF (c : String) (f : Str) (r : Op2) (j i : Nat) : DE := fun ρ Q _ => ∃ m d dj, ofld ρ i c f = some (m, d) ∧ slD ρ j = some dj ∧ r dj d fun z => Q (.t z) ρ
/-! ### self.f[k] = e -/
/-- self.f[k] = e -/
def dFPut (c : String) (f : Str) (r : OpM) (i kk : Nat) (te : DE) : DS := fun D ρ => te ρ (fun x ρ1 => ∃ m d dk, ofld ρ1 i c f = some (m, d) ∧ slD ρ1 kk = some dk ∧
  ∃ es ρ2 s root k1 rc k ch, tkL ρ1 [.s kk, x] = some (es, ρ2) ∧ ρ2[i]? = some s ∧ s.d? = some root ∧ root = .n true k1 rc ∧ root.at [m] = some (.n true k ch) ∧ r k ch es fun k' ch' _ => D.nx ((killB i ρ2).set i (s.re (root.put [m] (.n true k' ch'))))) D.ex
/-! ### self.m(e, ..) -/
def dMeth (c : String) (nm : Str) (ms : List Bool) (s : SpD) (i : Nat) (t : DA) : DE := fun ρ Q E => (∃ s0 ns ch, ρ[i]? = some s0 ∧ s0.d? = some (.n true (.obj c ns) ch) ∧ fldN ns nm = none) ∧ t ρ (fun rs ρ1 => ∃ ds ρ2, argL (true :: ms) ρ1 (.s i :: rs) = some (ds, ρ2) ∧
  s ds (fun res ds' => ∃ ρ3, backL ρ1 (true :: ms) ρ2 (.s i :: rs) ds' = some ρ3 ∧ Q (.t res) ρ3) (fun x ds' => ∃ ρ3, backL ρ1 (true :: ms) ρ2 (.s i :: rs) ds' = some ρ3 ∧ E x ρ3)) E
/-! ### C() -/
def dMake0 (c : String) (s : SpD) : DE := fun ρ Q _ => s [.n true (.obj c []) []] (fun res ds' => res = .p .non ∧ ∃ d, ds' = [d] ∧ Q (.t d) ρ) (fun _ _ => False)
end
end DL
/-! DL48: running lemmas for objects; min of one or two. -/
namespace DL
open PySem L2
open Enc (en)
section
variable {n : Env → Prop} {rt : D → Env → Prop} {bk ct : Env → Prop} {ex : Exn → Env → Prop} {ρ ρ1 ρ2 ρ3 : Env} {Q : Rv → Env → Prop} {E : Exn → Env → Prop} {te : DE} {tA : DA} {d d1 : D} {i j kk m : Nat} {x : Rv} {c : String} {f : Str} {r : OpM} {k : Env → Prop} {s s1 : Sl}
def sfK (i : Nat) (r : OpM) (x : Rv) (ρ1 : Env) (k : Env → Prop) : Prop := (∃ s d, ρ1[i]? = some s ∧ s.d? = some d) ∧ ∃ es ρ2 s kd ch, tkL ρ1 [x] = some (es, ρ2) ∧ ρ2[i]? = some s ∧ s.d? = some (.n true kd ch) ∧ r kd ch es fun k' ch' _ => k ((killB i ρ2).set i (s.re (.n true k' ch')))
instance i_setF : St1 (dSetF i r te ⟨n, rt, bk, ct, ex⟩ ρ) (te ρ (fun x ρ1 => sfK i r x ρ1 n) ex) := ⟨fun h => h⟩
def fpK (c : String) (f : Str) (r : OpM) (i kk : Nat) (x : Rv) (ρ1 : Env) (k : Env → Prop) : Prop := ∃ m d dk, ofld ρ1 i c f = some (m, d) ∧ slD ρ1 kk = some dk ∧
  ∃ es ρ2 s root k1 rc kd ch, tkL ρ1 [.s kk, x] = some (es, ρ2) ∧ ρ2[i]? = some s ∧ s.d? = some root ∧ root = .n true k1 rc ∧ root.at [m] = some (.n true kd ch) ∧ r kd ch es fun k' ch' _ => k ((killB i ρ2).set i (s.re (root.put [m] (.n true k' ch'))))
instance i_fput : St1 (dFPut c f r i kk te ⟨n, rt, bk, ct, ex⟩ ρ) (te ρ (fun x ρ1 => fpK c f r i kk x ρ1 n) ex) := ⟨fun h => h⟩
instance i_make0 {sp : SpD} : St1 (dMake0 c sp ρ Q E) (sp [.n true (.obj c []) []] (fun res ds' => res = .p .non ∧ ∃ d, ds' = [d] ∧ Q (.t d) ρ) (fun _ _ => False)) := ⟨fun h => h⟩
end
/-! ### min of some -/
def leP (a b : Int × Int) : Prop := a.1 ≤ b.1 ∧ (a.1 = b.1 → a.2 ≤ b.2)
end DL
/-! DL49: a walk over an own list that stays its slot's own: the slot is pinned while it is walked. -/
namespace DL
open PySem L2
open Enc (en)
def pvAt (pv : Nat → V) (i : Nat) (x : V) : Nat → V := fun j => if j = i then x else pv j
def unpin (i : Nat) (ρ : Env) : Env := match ρ[i]? with
  | some (.w d) => ρ.set i (.v d)
  | _ => ρ
section
variable {K : PySem.W.Frag} {pv : Nat → V} {σ : St} {ρ : Env} {G H : Hp} {fp : Fps} {i : Nat} {d : D} {x : V}
theorem unpin_w (h : ρ[i]? = some (.w d)) : unpin i ρ = ρ.set i (.v d) := by
  unfold unpin
  rw [h]
theorem set_get {s s' : Sl} {j : Nat} (h : (ρ.set i s)[j]? = some s') : (j = i ∧ s' = s) ∨ (j ≠ i ∧ ρ[j]? = some s') := by
  rw [List.getElem?_set] at h
  by_cases e : i = j
  · rw [if_pos e] at h
    split at h
    · exact .inl ⟨e.symm, (Option.some.inj h).symm⟩
    · cases h
  · rw [if_neg e] at h
    exact .inr ⟨fun z => e z.symm, h⟩
theorem Mt.pin (m : Mt K pv σ ρ G H fp) (h : ρ[i]? = some (.v d)) (hx : σ[i]? = some (some x)) : Mt K (pvAt pv i x) σ (ρ.set i (.w d)) G H fp where
  sub := m.sub
  len := by rw [List.length_set]; exact m.len
  sl := fun j d' e => by
    rcases set_get e with ⟨_, z⟩ | ⟨_, z⟩
    · cases z
    · exact m.sl j d' z
  pn := fun j d' e => by
    unfold pvAt
    rcases set_get e with ⟨rfl, z⟩ | ⟨n, z⟩
    · cases z
      rw [if_pos rfl]
      obtain ⟨y, h1, h2⟩ := m.sl j d h
      rw [hx] at h1
      cases h1
      exact ⟨hx, h2⟩
    · rw [if_neg n]
      exact m.pn j d' z
  br := fun j k q e => by
    rcases set_get e with ⟨_, z⟩ | ⟨_, z⟩
    · cases z
    · exact m.br j k q z
  ap := m.ap
  ft := m.ft
theorem Mt.unpin (m : Mt K (pvAt pv i x) σ ρ G H fp) : Mt K pv σ (DL.unpin i ρ) G H fp := by
  have other : ∀ j, j ≠ i → pvAt pv i x j = pv j := fun j n => if_neg n
  by_cases hw : ∃ d, ρ[i]? = some (.w d)
  · obtain ⟨d, hw⟩ := hw
    rw [unpin_w hw]
    refine ⟨m.sub, by rw [List.length_set]; exact m.len, fun j d' e => ?_, fun j d' e => ?_, fun j k q e => ?_, m.ap, m.ft⟩
    · rcases set_get e with ⟨rfl, z⟩ | ⟨_, z⟩
      · cases z
        obtain ⟨h1, h2⟩ := m.pn j d hw
        exact ⟨_, h1, h2⟩
      · exact m.sl j d' z
    · rcases set_get e with ⟨_, z⟩ | ⟨n, z⟩
      · cases z
      · have := m.pn j d' z
        rw [other j n] at this
        exact this
    · rcases set_get e with ⟨_, z⟩ | ⟨_, z⟩
      · cases z
      · exact m.br j k q z
  · have e : DL.unpin i ρ = ρ := by
      unfold DL.unpin
      split
      · rename_i d hd
        exact absurd ⟨d, hd⟩ hw
      · rfl
    rw [e]
    refine ⟨m.sub, m.len, m.sl, fun j d' z => ?_, m.br, m.ap, m.ft⟩
    by_cases n : j = i
    · subst n
      exact absurd ⟨d', z⟩ hw
    · have := m.pn j d' z
      rw [other j n] at this
      exact this
end
def dLoopL (i : Nat) (ch : List D) (g : DG) (tb : DS) (vs : List Nat) (D : DEnds) : List DL.D → Env → Prop
  | [], ρ => ρ[i]? = some (.w (.n true .lst ch)) ∧ D.nx (ρ.set i (.v (.n true .lst ch)))
  | d :: ds, ρ => ρ[i]? = some (.w (.n true .lst ch)) ∧ g (.t d) ρ fun ρ1 => tb { nx := fun ρ2 => dLoopL i ch g tb vs D ds (wipeD ρ2 vs), ct := fun ρ2 => dLoopL i ch g tb vs D ds (wipeD ρ2 vs), bk := fun ρ2 => D.nx (unpin i (wipeD ρ2 vs)), rt := fun d ρ2 => D.rt d (unpin i ρ2), ex := fun x ρ2 => D.ex x (unpin i ρ2) } ρ1
/-- for x in xs: xs is the slot's own, and stays -/
def dForL (i : Nat) (g : DG) (tb : DS) (vs : List Nat) : DS := fun D ρ => ∃ ch, ρ[i]? = some (.v (.n true .lst ch)) ∧ isFzL ch = true ∧ dLoopL i ch g tb vs D ch (wipeD (ρ.set i (.w (.n true .lst ch))) vs)
section
variable {X : Cx} {cn : String → Addr} {E : WX} {pos : Pos} {tg iter : Expr} {body : List Stmt} {tb : DS} {g : DG} {S vs : List Nat}
end
/-! ### runs -/
section
variable {n : Env → Prop} {rt : D → Env → Prop} {bk ct : Env → Prop} {ex : Exn → Env → Prop} {ρ ρ1 : Env} {i : Nat} {ch : List D} {g : DG} {tb : DS} {vs : List Nat}
end
end DL
/-! DL50: a, b = x, y of plain names (no pair is made); `x in self.f` as a test. -/
namespace DL
open PySem L2
open Enc (en)
def dPar (i j : Nat) (t : DA) : DS := fun D ρ => t ρ (fun rs ρ1 => ∃ d1 d2 ρ2 ρ3 ρ4, tkL ρ1 rs = some ([d1, d2], ρ2) ∧ stV ρ2 i d1 = some ρ3 ∧ stV ρ3 j d2 = some ρ4 ∧ D.nx ρ4) D.ex
section
variable {X : Cx} {cn : String → Addr} {E : WX} {st : Stmt} {t : DA}
end
section
variable {X : Cx} {cn : String → Addr} {E : WX}
end
section
variable {n : Env → Prop} {rt : D → Env → Prop} {bk ct : Env → Prop} {ex : Exn → Env → Prop} {ρ ρ1 ρ2 ρ3 : Env} {tA : DA} {i j : Nat} {d1 d2 : D} {rs : List Rv}
def parK (i j : Nat) (n : Env → Prop) (rs : List Rv) (ρ1 : Env) : Prop := ∃ d1 d2 ρ2 ρ3 ρ4, tkL ρ1 rs = some ([d1, d2], ρ2) ∧ stV ρ2 i d1 = some ρ3 ∧ stV ρ3 j d2 = some ρ4 ∧ n ρ4
instance i_par : St1 (dPar i j tA ⟨n, rt, bk, ct, ex⟩ ρ) (tA ρ (fun rs ρ1 => parK i j n rs ρ1) ex) := ⟨fun h => h⟩
instance i_parK {ρ4 : Env} [a : TkL ρ1 rs [d1, d2] ρ2] [b : StV ρ2 i d1 ρ3] [c : StV ρ3 j d2 ρ4] : St1 (parK i j n rs ρ1) (n ρ4) := ⟨fun h => ⟨d1, d2, ρ2, ρ3, ρ4, a.h, b.h, c.h, h⟩⟩
end
end DL
/-! DL51: x[i][e] = v: the part x[i] is held by a slot more while e is looked at. -/
namespace DL
open PySem L2
open Enc (en)
def bOk (n : Nat) (ρ : Env) : Bool := ρ.all fun | .b j _ => decide (j < n) | _ => true
section
variable {K : PySem.W.Frag} {pv : Nat → V} {σ : St} {ρ : Env} {G H : Hp} {fp : Fps}
theorem Mt.push {n : Nat} {q : List Nat} {x y : V} (m : Mt K pv σ ρ G H fp) (hx : σ[n]? = some (some x)) (hp : PathV K H (fun a => a ∈ fp n) x q y) : Mt K pv (σ ++ [some y]) (ρ ++ [.b n q]) G H fp := by
  have hl := m.len
  have cut : ∀ {i : Nat} {t : Sl}, (ρ ++ [.b n q])[i]? = some t → ρ[i]? = some t ∨ (i = ρ.length ∧ t = .b n q) := fun {i t} e => by
    by_cases c : i < ρ.length
    · rw [List.getElem?_append_left c] at e
      exact .inl e
    · rw [List.getElem?_append_right (by omega)] at e
      by_cases c2 : i - ρ.length = 0
      · rw [c2] at e
        exact .inr ⟨by omega, (Option.some.inj e).symm⟩
      · rw [List.getElem?_eq_none (by rw [List.length_singleton]; omega)] at e
        cases e
  have up : ∀ {i : Nat} {z : Option V}, σ[i]? = some z → (σ ++ [some y])[i]? = some z := fun {i z} e => by
    rw [List.getElem?_append_left (List.getElem?_eq_some_iff.mp e).1]
    exact e
  refine ⟨m.sub, by rw [List.length_append, List.length_append, hl]; rfl, fun i d e => ?_, fun i d e => ?_, fun i j p e => ?_, m.ap, m.ft⟩
  · rcases cut e with e | ⟨_, e⟩
    · obtain ⟨x, h1, h2⟩ := m.sl i d e
      exact ⟨x, up h1, h2⟩
    · cases e
  · rcases cut e with e | ⟨_, e⟩
    · obtain ⟨h1, h2⟩ := m.pn i d e
      exact ⟨up h1, h2⟩
    · cases e
  · rcases cut e with e | ⟨hi, e⟩
    · obtain ⟨x, z, h1, h2, h3⟩ := m.br i j p e
      exact ⟨x, z, up h1, up h2, h3⟩
    · cases e
      refine ⟨x, y, up hx, ?_, hp⟩
      rw [List.getElem?_append_right (by omega), hi, hl, Nat.sub_self]
      rfl
end
section
variable {X : Cx} {cn : String → Addr} {E : WX}
def dPut2E (n i : Nat) (r : OpM) (tk te : DE) : DS := fun D ρ => te ρ (fun x ρ1 => ∃ a s0 rc m k0 ch0, ρ1[i]? = some (.v (.p (.int a))) ∧ ρ1[n]? = some s0 ∧ s0.d? = some (.n true .lst rc) ∧ ixN rc.length a = some m ∧ rc[m]? = some (.n true k0 ch0) ∧
  tk (ρ1 ++ [.b n [m]]) (fun xk ρ2 => ρ2[ρ1.length]? = some (.b n [m]) ∧ ∃ es ρ3 s root rc' k ch, tkL ρ2 [xk, x] = some (es, ρ3) ∧ ρ3[n]? = some s ∧ s.d? = some root ∧ root = .n true .lst rc' ∧ root.at [m] = some (.n true k ch) ∧
    r k ch es fun k' ch' _ => ∃ ρ4 s4, (killB n ρ3).set n (s.re (root.put [m] (.n true k' ch'))) = ρ4 ++ [s4] ∧ bOk ρ4.length ρ4 = true ∧ D.nx ρ4) (fun _ _ => False)) D.ex
/-! ### runs -/
def p2F (n m L : Nat) (r : OpM) (x xk : Rv) (ρ2 : Env) (nx : Env → Prop) : Prop := ρ2[L]? = some (.b n [m]) ∧ ∃ es ρ3 s root rc' k ch, tkL ρ2 [xk, x] = some (es, ρ3) ∧ ρ3[n]? = some s ∧ s.d? = some root ∧ root = .n true .lst rc' ∧ root.at [m] = some (.n true k ch) ∧
    r k ch es fun k' ch' _ => ∃ ρ4 s4, (killB n ρ3).set n (s.re (root.put [m] (.n true k' ch'))) = ρ4 ++ [s4] ∧ bOk ρ4.length ρ4 = true ∧ nx ρ4
def p2E (n i : Nat) (r : OpM) (tk : DE) (x : Rv) (ρ1 : Env) (nx : Env → Prop) : Prop := ∃ a s0 rc m k0 ch0, ρ1[i]? = some (.v (.p (.int a))) ∧ ρ1[n]? = some s0 ∧ s0.d? = some (.n true .lst rc) ∧ ixN rc.length a = some m ∧ rc[m]? = some (.n true k0 ch0) ∧
  tk (ρ1 ++ [.b n [m]]) (fun xk ρ2 => p2F n m ρ1.length r x xk ρ2 nx) (fun _ _ => False)
instance i_put2E {n i : Nat} {r : OpM} {te tk : DE} {ρ : Env} {nx : Env → Prop} {rt : D → Env → Prop} {bk ct : Env → Prop} {ex : Exn → Env → Prop} : St1 (dPut2E n i r tk te ⟨nx, rt, bk, ct, ex⟩ ρ) (te ρ (fun x ρ1 => p2E n i r tk x ρ1 nx) ex) := ⟨fun h => h⟩
theorem ixN_nat {l a : Nat} (h : a < l) : ixN l (a : Int) = some a := by
  unfold ixN
  rw [if_pos (by omega), if_pos (by omega)]
  rfl
end
/-! ### a test that only reads -/
def dLendT (tt : DT) : DT := fun ρ Q _ => tt (frzE ρ) (fun b _ => Q b ρ) (fun _ _ => False)
section
variable {X : Cx} {cn : String → Addr} {E : WX} {e : Expr} {tt : DT}
end
end DL
/-! DL52: f(a, ..), the last parameters by their defaults. -/
namespace DL
open PySem L2
def dApC (dvs : List V) (t : DA) : DA := fun ρ Q E => t ρ (fun rs ρ1 => Q (rs ++ dvs.map fun v => .t (.p v)) ρ1) E
section
variable {K : PySem.W.Frag} {σ : St} {G H : Hp}
end
section
variable {X : Cx} {cn : String → Addr} {E : WX} {k : Nat} {f : Addr} {fd : FuncData} {ps : List Str} {s : SpD} {x : Str} {p pos : Pos} {e : Expr} {es : List Expr} {t : DA} {ms : List Bool} {dvs : List V}
end
section
variable {QA : List Rv → Env → Prop} {E : Exn → Env → Prop} {ρ : Env} {t : DA} {dvs : List V}
instance i_apC : St1 (dApC dvs t ρ QA E) (t ρ (fun rs ρ1 => QA (rs ++ dvs.map fun v => .t (.p v)) ρ1) E) := ⟨fun h => h⟩
end
end DL
/-! DL53: sum, max with a default, len(set(xs)) of whole numbers. -/
namespace DL
open PySem L2
open Enc (en)
/-! ### sum -/
def qSum : OpL := fun ds Q => ∃ d ch ns, ds = [d] ∧ listOf d = some ch ∧ intsOf ch = some ns ∧ Q (.p (.int ns.sum))
theorem s_sum {K : PySem.W.Frag} : SemL K (rSum K) qSum := by
  rintro G H vs ds Q0 Q s rs ⟨d, ch, ns, rfl, e, eb, q⟩ fin
  obtain ⟨v, F, rfl, r⟩ := rps1 rs
  obtain ⟨a, vs, F', rfl, h1, h2⟩ := r.listOf s e
  have e2 : ch = (ns.map V.int).map D.p := by rw [intsOf_map eb, List.map_map]; rfl
  subst e2
  have := h2.prims
  subst this
  exact ⟨a, ns, rfl, h1, fin.p s q⟩
theorem w_sum {ns : List Int} {d : D} {k : D → Prop} (h1 : listOf d = some (ns.map fun i => .p (.int i))) (h : k (.p (.int ns.sum))) : qSum [d] k := ⟨d, _, ns, rfl, h1, intsOf_of ns, h⟩
/-! ### max(xs, default=d) -/
def maxZ (e : Int) : List Int → Int
  | [] => e
  | n :: r => r.foldl max n
def rMaxDf (K : PySem.W.Frag) : List V → List V → Hp → VK → Prop := fun vs zs H Q => ∃ a ns d, vs = [.ref a] ∧ zs = [.int d] ∧ SqL K H a (ns.map V.int) ∧ Q (.int (maxZ d ns)) H
section
variable {X : Cx}
/-- max(xs, default=0) -/
def rMax0 (K : PySem.W.Frag) : List V → Hp → VK → Prop := fun vs H Q => rMaxDf K vs [.int 0] H Q
def qMax0 : OpL := fun ds Q => ∃ d ch ns, ds = [d] ∧ listOf d = some ch ∧ intsOf ch = some ns ∧ Q (.p (.int (maxZ 0 ns)))
end
/-! ### len(set(xs)) -/
def nubI (ns : List Int) : List Int := PyProof.Rows.firstMet (fun i => ns.getD i 0) ns.length
section
open PyProof.Rows
end
section
open PySem.Spec PyProof.Rows
variable {X : Cx} {cn : String → Addr} {E : WX}
def tLenSetJ (K : PySem.W.Frag) (ta : TE) : TE := fun σ H Q => ta σ H fun x H1 => ∃ (l : Addr) (ns : List Int), x = .ref l ∧ SqL K H1 l (ns.map V.int) ∧ ns.length ≤ 4000 ∧ Q (.int ((nubI ns).length : Nat)) H1
def dLenSet (ta : DE) : DE := fun ρ Q E => ta ρ (fun x ρ1 => ∃ d ch ns, look ρ1 x = some d ∧ listOf d = some ch ∧ intsOf ch = some ns ∧ ns.length ≤ 4000 ∧ Q (.t (.p (.int ((nubI ns).length : Nat)))) ρ1) E
end
section
variable {ρ : Env} {ta : DE} {Q : Rv → Env → Prop} {E : Exn → Env → Prop} {x : Rv}
def lsK (x : Rv) (ρ : Env) (Q : Rv → Env → Prop) : Prop := ∃ d ch ns, look ρ x = some d ∧ listOf d = some ch ∧ intsOf ch = some ns ∧ ns.length ≤ 4000 ∧ Q (.t (.p (.int ((nubI ns).length : Nat)))) ρ
theorem w_lenset (h : ta ρ (fun x ρ1 => lsK x ρ1 Q) E) : dLenSet ta ρ Q E := h
end
end DL
/-! DL54: setdefault of a dict whose keys are tuples; a dict whose keys may be either. -/
namespace DL
open PySem L2
open Enc (en)
section
open PySem.Spec PyProof.Rows
variable {X : Cx} {pins : List (Addr × Obj)} {σ : L2.St} {H : Hp} {s : Shared} {a b : Addr} {r : Value} {d : V} {k : List Key} {A : Around} {E : Value → Shared → Prop}
theorem d_setdT {kvs : List (List Key × V)} {Q : Value → Shared → Prop} (hu : A.units + 1 < cLine) (I : Inv X pins σ H s) (e : H a = some (.dT kvs)) (eb : H b = some (.tup (k.map kV))) (rd : RelV d r) (hl : kvs.length < sizeLine)
    (h1 : ∀ v, valV kvs k = some v → ∀ (w' : Value) (s' : Shared), Inv X pins σ H s' → RelV v w' → Q w' s') (h2 : valV kvs k = none → ∀ (w' : Value) (s' : Shared), Inv X pins σ (upd H a (.dT (putK kvs k d))) s' → RelV d w' → Q w' s') :
    wpAny (model X.prog X.w) A (call (.builtin "dict.setdefault") [.ref a, .ref b, r]) Q E s := by
  obtain ⟨z, hd, xs, rel, dd⟩ := dt_of I.hok e
  have hz : xs.length ≤ sizeLine := by rw [← Paired.length rel]; exact z
  have hl2 : (putK kvs k d).length ≤ sizeLine := by have := length_putK kvs k d; omega
  have q := rel.val k
  refine call_setdefault_heap (hsz := hz) (tupleKind_room_in1 hu) (key_of I.hok eb) hd dd (fun p hp => ?_) fun hn h' dd' hs => ?_
  · rw [hp] at q
    cases q0 : valV kvs k with
    | none =>
      rw [q0] at q
      exact (show False from q).elim
    | some v0 =>
      rw [q0] at q
      exact h1 v0 q0 _ _ (I.tok _) q
  · rw [hn] at q
    cases q0 : valV kvs k with
    | some v0 =>
      rw [q0] at q
      exact (show False from q).elim
    | none =>
      refine h2 q0 _ _ ?_ rd
      obtain ⟨q, es, ep, hq, h2, h3, h4, _, h5⟩ := dd'
      refine d_write I (by rw [e]; exact True.intro) hs ⟨q, hq⟩ ⟨hl2, hd, _, (rel.put k eb rd).keeps fun c ys ec => ?_, q, es, ep, hq, h2, h3, h4, h5⟩
      rw [upd_ne (ne_of ec e (fun z => nomatch z))]
      exact ec
end
def rSetdT : V → List V → Hp → VK → Prop := fun x vs H Q => ∃ (a : Addr) (kvs : List (List Key × V)) (k : List Key) (b : Addr) (z : V), x = .ref a ∧ vs = [.ref b, z] ∧ H a = some (.dT kvs) ∧ H b = some (.tup (k.map kV)) ∧ kvs.length < sizeLine ∧ (∀ v, valV kvs k = some v → Q v H) ∧ (valV kvs k = none → Q z (L2.upd H a (.dT (putK kvs k z))))
def rSetd2 : V → List V → Hp → VK → Prop := fun x vs H Q => rSetd x vs H Q ∨ rSetdT x vs H Q
def mSetdT : OpM := fun k ch es Q => ∃ ks kc d x, k = .dit ks ∧ es = [.n false .tup kc, d] ∧ d.isFz = true ∧ ch.length < 100000 ∧ keysD kc = some x ∧ match lookK ks ch x with
  | some c => c.isFz = true ∧ Q (.dit ks) ch c
  | none => Q (.dit (ks ++ [x])) (ch ++ [d]) d
def mSetd2 : OpM := fun k ch es Q => mSetd k ch es Q ∨ mSetdT k ch es Q
theorem m_setdTs {K : PySem.W.Frag} : SemM K rSetdT mSetdT := by
  rintro G H a k vs ch F ws es Fw Q0 Q s hG n r ha rw dw ⟨ks, kc, d, x, rfl, rfl, hz, hl, ex, q⟩ fin
  obtain ⟨y, z, Fa, Fb, rfl, h1, h2, h3, h4⟩ := rl2 rw
  obtain ⟨b, us, F2, rfl, h5, h6⟩ := h1.tupl s
  have := keysD_rp h6 ex
  subst this
  have hs : ch.length < sizeLine := Nat.lt_of_lt_of_le hl (by decide)
  have h2 := h2.shared hz
  have len := r.len
  have lo := look_or (x := x) n.1 r
  have nn := n.2
  refine ⟨a, _, x, b, z, rfl, rfl, n.2, h5, by rw [List.length_zip, n.1]; omega, fun v hv => ?_, fun hv => ?_⟩
  · cases el : lookK ks ch x with
    | none => rw [hv, el] at lo; cases lo
    | some c =>
      rw [el] at q
      rw [hv, el] at lo
      obtain ⟨Fc, hc⟩ := lo
      have := fin (.dit ks) ch c vs v (.dT (ks.zip vs)) F [] q.2 ⟨n.1, upd_same⟩ r (hc.shared q.1) (fun b z => .inl z) fun b z => by cases z
      rwa [upd_id nn] at this
  · cases el : lookK ks ch x with
    | some c => rw [hv, el] at lo; cases lo
    | none =>
      rw [el] at q
      rw [putK_new _ hv]
      exact fin (.dit (ks ++ [x])) (ch ++ [d]) d (vs ++ [z]) z _ (F ++ []) [] q ⟨by simp [n.1], by rw [upd_same, List.zip_append n.1]; rfl⟩ (r.app (RpL.one h2) fun _ _ z => by cases z) h2 (fun b z => .inl (by simpa using z)) fun b z => by cases z
theorem m_setd2 {K : PySem.W.Frag} : SemM K rSetd2 mSetd2 := by
  rintro G H a k vs ch F ws es Fw Q0 Q s hG n r ha rw dw (q | q) fin
  · exact .inl (m_setd G H a k vs ch F ws es Fw Q0 Q s hG n r ha rw dw q fin)
  · exact .inr (m_setdTs G H a k vs ch F ws es Fw Q0 Q s hG n r ha rw dw q fin)
section
open PySem.Spec PyProof.Rows
variable {X : Cx} {cn : String → Addr} {E : WX} {apos cpos pos : Pos}
def tDSetd2 (td ty tx : TE) : TE := fun σ H Q => td σ H fun x H1 => ∃ a, x = .ref a ∧ IsD H1 a ∧ ty σ H1 fun y H2 => tx σ H2 fun z H3 => rSetd2 (.ref a) [y, z] H3 Q
theorem pe_dsetd2 {o e f : Expr} {td ty tx : TE} (hu : X.A.units + 1 < cLine) (ho : PE X o td) (he : PE X e ty) (hf : PE X f tx) (m : M2 X o "setdefault" apos e f cpos) : PE X (.Call (.Attribute o "setdefault" apos) [e, f] [] cpos) (tDSetd2 td ty tx) := by
  refine ⟨fun pins s σ H Q I h => ?_⟩
  refine wpAny_Call_method m.base m.few m.line PySem.F.plainAttrs_dict PySem.F.slot_dict_setdefault PySem.F.type_dict_setdefault (thn (ho.run pins s σ H _ I h) fun u s1 ⟨x, H1, I1, rx, a, ex, d, q1⟩ => ?_)
  subst ex
  obtain rfl : u = Value.ref a := rx
  obtain ⟨t1, t2, _⟩ := isD_at I1 d
  refine ⟨t1, t2, ?_⟩
  rw [m.trees]
  refine Calls.callWith_builtin rfl (Calls.evalArgs_plain (Calls.spliced_cons (thn (he.run pins s1 σ H1 _ I1 q1) fun iv s2 ⟨y, H2, I2, ry, q2⟩ =>
    Calls.spliced_cons (thn (hf.run pins s2 σ H2 _ I2 q2) fun fv s3 ⟨z, H3, I3, rz, q3⟩ => Calls.spliced_nil ?_))))
  rcases q3 with ⟨a', kvs, k, y', z', e1, e2, ea, ey, hl, q3, q4⟩ | ⟨a', kvs, k, b, z', e1, e2, ea, eb, hl, q3, q4⟩
  · cases e1
    cases e2
    subst ey
    exact d_setd I3 ea ry rz hl (fun v hv w' s4 I4 rw' => ⟨v, _, I4, rw', q3 v hv⟩) fun hn w' s4 I4 rw' => ⟨_, _, I4, rw', q4 hn⟩
  · cases e1
    cases e2
    cases (show iv = Value.ref b from ry)
    exact d_setdT hu I3 ea eb rz hl (fun v hv w' s4 I4 rw' => ⟨v, _, I4, rw', q3 v hv⟩) fun hn w' s4 I4 rw' => ⟨_, _, I4, rw', q4 hn⟩
theorem je_setd2 {i : Nat} {o e f : Expr} {tb tc : DE} (hu : X.A.units + 1 < cLine) (hi : i < X.N.length) (ho : PE X o (tVar i)) (he : JE X cn E e tb) (hf : JE X cn E f tc) (m : M2 X o "setdefault" apos e f cpos) : JE X cn E (.Call (.Attribute o "setdefault" apos) [e, f] [] cpos) (dMut "dict" i mSetd2 (dCons tb (dCons tc dNil))) := by
  refine ⟨fun pins sh σ H Q I ⟨pv, γ, ρ, G, fp, Q0, E0, mt, q, po, px⟩ => ?_⟩
  have hl : i < σ.length := by rw [I.len]; exact hi
  obtain ⟨a, h1, h2, h3⟩ := mutD m_setd2 hl mt q po px
  exact (pe_dsetd2 hu ho he hf m).run pins sh σ H Q I ⟨.ref a, h1, a, rfl, h2, args2 h3⟩
/-- an empty dict, its keys of either kind -/
def dNewX : DE := fun ρ Q E => dNewD ρ Q E ∨ dNewT ρ Q E
theorem je_newX : JE X cn E (.Dict [] [] pos) dNewX := by
  refine ⟨fun pins sh σ H Q I ⟨pv, γ, ρ, G, fp, Q0, E0, mt, q, po, px⟩ => ?_⟩
  rcases q with q | q
  · exact (je_newD).run pins sh σ H Q I ⟨pv, γ, ρ, G, fp, Q0, E0, mt, q, po, px⟩
  · exact (je_newT).run pins sh σ H Q I ⟨pv, γ, ρ, G, fp, Q0, E0, mt, q, po, px⟩
end
section
variable {κ β : Type} {i0 : DecidableEq κ} {i1 : Enc κ} {i3 : Enc β} {kv : List (κ × β)} {a : κ} {b : β} {K : Kd → List D → D → Prop}
theorem m_setdY {i2 : KeyT κ} (h1 : kv.length < 100000) (h : (∀ v, aget kv a = some v → K (.dit (kv.map fun p => KeyT.key p.1)) (kv.map fun p => en p.2) (en v)) ∧ (aget kv a = none → K (.dit ((kv ++ [(a, b)]).map fun p => KeyT.key p.1)) ((kv ++ [(a, b)]).map fun p => en p.2) (en b))) : mSetd2 (.dit (kv.map fun p => KeyT.key p.1)) (kv.map fun p => en p.2) [en a, en b] K := by
  refine .inr ?_
  obtain ⟨kc, e1, e2⟩ := KeyT.kd a
  refine ⟨_, kc, _, KeyT.key a, rfl, by rw [e1], Enc.fz b, by rw [List.length_map]; exact h1, e2, ?_⟩
  rw [lookK_t]
  cases e : aget kv a with
  | some v => exact ⟨Enc.fz v, h.1 v e⟩
  | none =>
    have := h.2 e
    rw [List.map_append, List.map_append] at this
    exact this
end
/-! ### len of a dict, its keys of either kind -/
def rLen2 (K : PySem.W.Frag) : List V → Hp → VK → Prop := fun xs H Q => rLenD K xs H Q ∨ rLenT xs H Q
theorem o_len2 {X : Cx} : CallR X (.builtin "len") (rLen2 X.K) := o_len.or call_len_dT
def qLen2 : OpL := fun ds Q => qLen ds Q ∨ ∃ o ks ch, ds = [.n o (.dit ks) ch] ∧ Q (.p (.int (ks.length : Nat)))
theorem s_len2 {K : PySem.W.Frag} {X : Cx} (hK : X.K = K) : SemL K (rLen2 K) qLen2 := by
  subst hK
  rintro G H vs ds Q0 Q s rs (q | ⟨o, ks, ch, rfl, q⟩) fin
  · exact .inl (s_len G H vs ds Q0 Q s rs q fin)
  · obtain ⟨v, F, rfl, r⟩ := rps1 rs
    refine .inr ?_
    have key : ∀ {a : Addr} {vs : List V}, ks.length = vs.length → H a = some (.dT (ks.zip vs)) → rLenT [.ref a] H Q := fun {a vs} h1 h2 => by
      refine ⟨a, _, rfl, h2, ?_⟩
      rw [List.length_zip, ← h1, Nat.min_self]
      exact fin.p s q
    cases r with
    | f h1 h2 => exact key h1.1 (s _ _ h1.2)
    | o h0 h1 h3 h2 => exact key h1.1 h1.2
theorem w_len2T {κ β : Type} {i1 : Enc κ} {i2 : KeyT κ} {i3 : Enc β} {o : Bool} {kv : List (κ × β)} {k : D → Prop} (h : k (.p (.int (kv.length : Nat)))) : qLen2 [dT o kv] k := .inr ⟨_, _, _, rfl, by rw [List.length_map]; exact h⟩
end DL
/-! DL55: a, b, c = x, y, z of plain names. -/
namespace DL
open PySem L2
open Enc (en)
def dPar3 (i j l : Nat) (t : DA) : DS := fun D ρ => t ρ (fun rs ρ1 => ∃ d1 d2 d3 ρ2 ρ3 ρ4 ρ5, tkL ρ1 rs = some ([d1, d2, d3], ρ2) ∧ stV ρ2 i d1 = some ρ3 ∧ stV ρ3 j d2 = some ρ4 ∧ stV ρ4 l d3 = some ρ5 ∧ D.nx ρ5) D.ex
section
variable {X : Cx} {cn : String → Addr} {E : WX} {st : Stmt} {t : DA}
end
section
variable {n : Env → Prop} {rt : D → Env → Prop} {bk ct : Env → Prop} {ex : Exn → Env → Prop} {ρ ρ1 ρ2 ρ3 ρ4 : Env} {tA : DA} {i j l : Nat} {d1 d2 d3 : D} {rs : List Rv}
def parK3 (i j l : Nat) (n : Env → Prop) (rs : List Rv) (ρ1 : Env) : Prop := ∃ d1 d2 d3 ρ2 ρ3 ρ4 ρ5, tkL ρ1 rs = some ([d1, d2, d3], ρ2) ∧ stV ρ2 i d1 = some ρ3 ∧ stV ρ3 j d2 = some ρ4 ∧ stV ρ4 l d3 = some ρ5 ∧ n ρ5
instance i_par3 : St1 (dPar3 i j l tA ⟨n, rt, bk, ct, ex⟩ ρ) (tA ρ (fun rs ρ1 => parK3 i j l n rs ρ1) ex) := ⟨fun h => h⟩
instance i_parK3 {ρ5 : Env} [a : TkL ρ1 rs [d1, d2, d3] ρ2] [b : StV ρ2 i d1 ρ3] [c : StV ρ3 j d2 ρ4] [e : StV ρ4 l d3 ρ5] : St1 (parK3 i j l n rs ρ1) (n ρ5) := ⟨fun h => ⟨d1, d2, d3, ρ2, ρ3, ρ4, ρ5, a.h, b.h, c.h, e.h, h⟩⟩
end
end DL
/-! DL56: xs.count(y) of plain data. -/
namespace DL
open PySem L2
open Enc (en)
section
open PySem.Spec PyProof.Rows
variable {X : Cx}
def rCntP (K : PySem.W.Frag) : V → List V → Hp → VK → Prop := fun x xs H Q => ∃ (p : Addr) (vs : List V) (y : V) (ds : List PyData) (d : PyData), x = .ref p ∧ xs = [y] ∧ SqL K H p vs ∧ DpAll K H vs ds ∧ Dp K H y d ∧ (PyData.plainAll ds = true ∧ d.plain = true) ∧ d.depth ≤ 60 ∧ Q (.int ((ds.countP fun z => PyData.eqv z d) : Nat)) H
theorem mt_lcountP (hu : X.A.units + 65 < cLine) : MtR X "list.count" (rCntP X.K) := by
  intro pins s σ H x xs v us Q I rx rxs h
  obtain ⟨p, vs, y, ds, d, rfl, rfl, hs, hd, hy, ⟨hp1, hp2⟩, hdep, q⟩ := h
  cases rx
  obtain ⟨u, rfl, ru⟩ := rxs.one
  obtain ⟨its, rv, ⟨⟨cls, dd, data, sl⟩, n, ho, hc, hdn, hdt⟩, hlen⟩ := I.list hs
  simp only at hc hdt
  subst hc hdt
  obtain ⟨as, ra⟩ := Dp.readsAll I ds vs its hd rv
  obtain ⟨bs, rb⟩ := Dp.reads I d y u hy ru
  refine call_meets PySem.F.slot_list_count ⟨_, ho, rfl⟩ PySem.F.entry_list_count (PySem.F.args_list_count_2 _ _)
    (SeqAt.list_countAt p its.toArray n dd sl u fun z => PyData.eqv (PySem.SeqAt.readOf s.heap z) d) ⟨ho, fun y hy => PySem.SeqAt.items_plain (vs := its.toArray) (by simpa using ra) rb hp1 hp2 (by omega) y hy, ?_⟩
  have ec : its.countP (fun z => PyData.eqv (PySem.SeqAt.readOf s.heap z) d) = ds.countP fun z => PyData.eqv z d := by
    rw [← PySem.SeqAt.readsAll_map_plain ds _ _ hp1 ra, List.countP_map]
    rfl
  refine ⟨.int ((ds.countP fun z => PyData.eqv z d) : Nat), H, I.tok _, ⟨s.toks, ?_⟩, q⟩
  show Value.int ((its.countP _ : Nat) : Int) s.toks = _
  rw [ec]
end
def qCount : Op2 := fun d e Q => ∃ ch, listOf d = some ch ∧ (PyData.plainAll (toPyL ch) = true ∧ (toPy e).plain = true) ∧ (toPy e).depth ≤ 60 ∧ Q (.p (.int (((toPyL ch).countP fun z => PyData.eqv z (toPy e)) : Nat)))
theorem s_count {K : PySem.W.Frag} : Sem2 K (fun x y H Q => rCntP K x [y] H Q) qCount := by
  rintro G H v u d e F1 F2 Q0 Q s r1 r2 ⟨ch, hl, ⟨hp1, hp2⟩, hdep, q⟩ fin
  obtain ⟨a, ws, F', rfl, h1, h2⟩ := r1.listOf s hl
  exact ⟨a, ws, u, _, _, rfl, rfl, h1, RpL.dp s ch h2 hp1, Rp.dp s e r2 hp2, ⟨hp1, hp2⟩, hdep, fin.p s q⟩
section
variable {α : Type} {inst : Enc α}
theorem toPyL_plain : ∀ xs : List α, PyData.plainAll (toPyL (xs.map en)) = true
  | [] => rfl
  | x :: xs => by rw [List.map_cons, toPyL, PyData.plainAll, Enc.lay, toPyL_plain xs]; rfl
theorem count_e [DecidableEq α] (y : α) : ∀ xs : List α, (toPyL (xs.map en)).countP (fun z => PyData.eqv z (toPy (en y))) = xs.countP fun x => decide (x = y)
  | [] => rfl
  | x :: xs => by
    have ih := count_e y xs
    have e : PyData.eqv (toPy (en x)) (toPy (en y)) = decide (x = y) := by
      by_cases h : x = y
      · rw [decide_eq_true h]; exact (Enc.eq x y).mpr h
      · rw [decide_eq_false h]
        exact Bool.eq_false_iff.mpr fun z => h ((Enc.eq x y).mp z)
    rw [List.map_cons, toPyL, List.countP_cons, List.countP_cons, ih, e]
theorem w_count [DecidableEq α] {d : D} {xs : List α} {y : α} {k : D → Prop} (h1 : listOf d = some (xs.map en)) (hd : Enc.dep α ≤ 60) (h : k (.p (.int ((xs.countP fun x => decide (x = y)) : Nat)))) : qCount d (en y) k :=
  ⟨_, h1, ⟨toPyL_plain xs, Enc.lay y⟩, Nat.le_trans (Enc.de y) hd, by rw [count_e]; exact h⟩
end
end DL
/-! DL57: a walk over a list that is the slot's own, the items too: each is, while it is looked at, known as the list's part; x[i] taken out of a slot that is forgotten. -/
namespace DL
open PySem L2
open Enc (en)
/-- r items are left of n -/
def dLoopB (i j n : Nat) (tb : DS) (vs : List Nat) (D : DEnds) : Nat → Env → Prop
  | 0, ρ => (∃ ch, ρ[i]? = some (.w (.n true .lst ch)) ∧ ch.length = n) ∧ D.nx ρ
  | r + 1, ρ => ∃ ch kd cc, ρ[i]? = some (.w (.n true .lst ch)) ∧ ch.length = n ∧ ch[n - (r + 1)]? = some (.n true kd cc) ∧ okV ρ j = true ∧
    tb { nx := fun ρ2 => dLoopB i j n tb vs D r (wipeD ρ2 vs), ct := fun ρ2 => dLoopB i j n tb vs D r (wipeD ρ2 vs), bk := fun ρ2 => D.nx (wipeD ρ2 vs), rt := D.rt, ex := D.ex } ((killB j ρ).set j (.b i [n - (r + 1)]))
/-- for x in xs: xs is handed in and handed back, x is a part of it -/
def dForB (i j : Nat) (tb : DS) (vs : List Nat) : DS := fun D ρ => ∃ ch, ρ[i]? = some (.w (.n true .lst ch)) ∧ dLoopB i j ch.length tb vs D ch.length (wipeD ρ vs)
section
variable {X : Cx} {cn : String → Addr} {E : WX} {pos : Pos} {tg iter : Expr} {body : List Stmt} {tb : DS} {vs : List Nat}
theorem js_forB {i j : Nat} (hi : i < X.N.length) (hj : j < X.N.length) (hij : (i == j) = false) (hp : PassesOwn (model X.prog X.w) X.A X.env X.xe) (hc : X.calm = true) (he : PE X iter (tVar i)) (hg : PG X tg (gName j)) (hb : JSs X cn E body tb)
    (hs : ∀ x, foldedSetIterable iter X.env x = pure x := by intro _; rfl) : JS X cn E (.For tg iter body [] pos) (dForB i j tb vs) := by
  refine ⟨fun pins sh σ H Dn I ⟨pv, γ, ρ, G, fp, D0, m, ⟨ch, e0, q⟩, po⟩ => ?_⟩
  have hln : i < σ.length := by rw [I.len]; exact hi
  have hlj : j < σ.length := by rw [I.len]; exact hj
  have hne : i ≠ j := fun z => by rw [z, beq_self_eq_true] at hij; cases hij
  refine (ps_for hp hc (pi_list he) hg hb hs).run pins sh σ H Dn I ?_
  obtain ⟨h1, h2⟩ := m.pn i _ e0
  generalize hpv : pv i = x at h1 h2
  generalize hF : fp i = Fi at h2
  cases h2 with
  | @o a _ us _ F h0 n1 hnF rl =>
    have n1 : H a = some (.lst us) := n1
    refine ⟨.ref a, get_left hln h1, a, rfl, ⟨us, .inl (.inl n1)⟩, ?_⟩
    refine ⟨fun k r σ' H' => ∃ ρ' G' fp', k + r = ch.length ∧ Mt X.K pv (σ' ++ γ) ρ' G' H' fp' ∧ dLoopB i j ch.length tb vs D0 r ρ' ∧ Stp G H (InF fp) G' H' (InF fp') ∧ σ'.length = σ.length,
      ⟨ch.length, _, G, fp, by omega, m.wipeD vs, q, Stp.refl _ _ _, rfl⟩, ?_⟩
    rintro k r σ1 H1 ⟨ρ1, G1, fp1, hk, m1, q1, s1, l1⟩
    have hw : ∃ ch1, ρ1[i]? = some (.w (.n true .lst ch1)) ∧ ch1.length = ch.length := by
      cases r with
      | zero => exact q1.1
      | succ r =>
        obtain ⟨ch1, _, _, e1, e2, _⟩ := q1
        exact ⟨ch1, e1, e2⟩
    obtain ⟨ch1, hw, hl1⟩ := hw
    obtain ⟨p1, p2⟩ := m1.pn i _ hw
    rw [hpv] at p1 p2
    generalize hF1 : fp1 i = Fi1 at p2
    cases p2 with
    | @o _ _ us1 _ F1 g0 n2 hnF1 rl1 =>
      have n2 : H1 a = some (.lst us1) := n2
      have lu := rl1.len
      have hq : SqL X.K H1 a us1 := .inl (.inl n2)
      cases r with
      | zero =>
        refine .inl ⟨⟨us1, hq, by omega⟩, ?_⟩
        exact po.nx _ σ1 G1 H1 fp1 q1.2 s1 m1 l1
      | succ r =>
        have hlt : k < us1.length := by omega
        refine .inr ⟨⟨us1, us1[k], hq, List.getElem?_eq_getElem hlt⟩, fun σ' H' => ∃ ρ' G' fp', Mt X.K pv (σ' ++ γ) ρ' G' H' fp' ∧ dLoopB i j ch.length tb vs D0 r ρ' ∧ Stp G H (InF fp) G' H' (InF fp') ∧ σ'.length = σ.length,
          fun σ' H' ⟨ρ', G', fp', z⟩ => ⟨r, by omega, ρ', G', fp', by omega, z⟩, fun y H2 ⟨e1, hy⟩ => ?_⟩
        subst e1
        have hy := hy us1 hq
        rw [List.getElem?_eq_getElem hlt] at hy
        cases hy
        obtain ⟨ch2, kd, cc, e1, e2, e3, e4, q3⟩ := q1
        rw [hw] at e1
        cases e1
        have hkk : ch.length - (r + 1) = k := by omega
        rw [hkk] at e3 q3
        have hlj1 : j < (σ1 ++ γ).length := by rw [List.length_append]; omega
        have mf := m1.forget j
        have hkl := okV_lt e4
        have hcl : clr ((killB j ρ1).set j .un) [j] = true := clr_wipeD ρ1 [j] fun z hz => by rw [List.mem_singleton.mp hz]; exact hkl
        have ml : ∀ b, b ≠ j → ((σ1 ++ γ).set j (some us1[k]))[b]? = (σ1 ++ γ)[b]? := fun b hb => List.getElem?_set_ne (Ne.symm hb)
        have mc := mf.cong (σ' := (σ1 ++ γ).set j (some us1[k])) hcl (by rw [List.length_set]) fun b hb => ml b fun z => hb (by simp [z])
        have mb := mc.setB (i := j) (j := i) (q := [k]) (x := .ref a) (y := us1[k]) (by rw [List.length_set, killB_len]; exact hkl) (by rw [ml i hne]; exact p1) (by rw [List.getElem?_set_self hlj1]) ⟨a, .lst, us1, us1[k], rfl, by rw [hF1]; exact List.mem_cons_self .., n2, List.getElem?_eq_getElem hlt, rfl⟩
        rw [List.set_set, set_app (by rw [l1]; exact hlj)] at mb
        refine ⟨pv, γ, _, G1, fp1, _, mb, q3, ?_⟩
        rw [List.length_set, l1]
        have fin : PoN X.K pv γ σ.length G1 _ fp1 (fun ρ2 => dLoopB i j ch.length tb vs D0 r (wipeD ρ2 vs)) (fun σ' H' => ∃ ρ' G' fp', Mt X.K pv (σ' ++ γ) ρ' G' H' fp' ∧ dLoopB i j ch.length tb vs D0 r ρ' ∧ Stp G H (InF fp) G' H' (InF fp') ∧ σ'.length = σ.length) :=
          fun ρ4 σ4 G4 H4 fp4 q5 s5 m5 l5 => ⟨_, G4, fp4, m5.wipeD vs, q5, s1.trans s5, l5⟩
        exact ⟨fin, fun ρ4 σ4 G4 H4 fp4 q5 s5 m5 l5 => po.nx _ σ4 G4 H4 fp4 q5 (s1.trans s5) (m5.wipeD vs) l5, fin,
          fun d ρ4 v σ4 G4 H4 fp4 F q5 s5 m5 l5 r d5 => po.rt d _ v σ4 G4 H4 fp4 F q5 (s1.trans s5) m5 l5 r d5,
          fun x ρ4 cls dx σ4 G4 H4 fp4 q5 s5 m5 l5 e5 => po.ex x _ cls dx σ4 G4 H4 fp4 q5 (s1.trans s5) m5 l5 e5⟩
end
/-! ### x[i], the slot being forgotten -/
def dIxM (j : Nat) (i : Int) : DE := fun ρ Q _ => ∃ o k ch d, ρ[j]? = some (.v (.n o k ch)) ∧ (k = .lst ∨ k = .tup) ∧ L2.atI ch i = some d ∧ Q (.t d) ((killB j ρ).set j .un)
section
variable {X : Cx} {cn : String → Addr} {E : WX} {a : Expr}
theorem je_ixM {j : Nat} {i : Int} (hj : j < X.N.length) (h : PE X a (tOp (rIx X.K) (tVar j) (tC (.int i)))) : JE X cn E a (dIxM j i) := ⟨fun pins sh σ H Q I ⟨pv, γ, ρ, G, fp, Q0, E0, m, ⟨o, k, ch, d, hd, hk, hi, q⟩, po, _⟩ => by
  obtain ⟨v, h1, h2⟩ := m.sl j _ hd
  have hl : j < σ.length := by rw [I.len]; exact hj
  have mo := m.out hd
  have key : ∀ (us : List V) (F' : List Addr), RpL X.K G H us ch F' → (∀ b ∈ F', b ∈ fp j) → ∃ x, L2.atI us i = some x ∧ Q x H := fun us F' rl hF' => by
    unfold L2.atI at hi ⊢
    rw [rl.len]
    cases hx : ixN ch.length i with
    | none => rw [hx] at hi; cases hi
    | some l =>
      rw [hx] at hi
      obtain ⟨x, F2, g1, g2, g3⟩ := RpL.get ch rl hi
      refine ⟨x, g1, po (.t d) _ x G H _ F2 q ((Stp.refl _ _ _).mono (fun _ z => z) fun b z => .inl ?_) mo ⟨g2, fun b hb z => ?_⟩⟩
      · rcases z with z | z
        · rcases InF.updF z with z | z
          · exact z
          · cases z
        · exact ⟨j, hF' b (g3 b z)⟩
      · obtain ⟨l', hl'⟩ := z
        by_cases e : l' = j
        · subst e; rw [updF_same] at hl'; cases hl'
        · rw [updF_ne e] at hl'
          exact m.ap l' j e b hl' (hF' b (g3 b hb))
  refine h.run pins sh σ H Q I ⟨v, get_left hl h1, ?_⟩
  generalize hF : fp j = Fj at h2 key
  rcases hk with rfl | rfl
  · cases h2 with
    | @f a _ us _ F n1 rl =>
      obtain ⟨x, e1, e2⟩ := key us _ rl fun b hb => hb
      exact .inl ⟨a, us, i, x, rfl, rfl, .inl (.inl (m.sub _ _ n1)), e1, e2⟩
    | @o a _ us _ F n0 n1 n2 rl =>
      obtain ⟨x, e1, e2⟩ := key us _ rl fun b hb => List.mem_cons_of_mem _ hb
      exact .inl ⟨a, us, i, x, rfl, rfl, .inl (.inl n1), e1, e2⟩
  · cases h2 with
    | @f a _ us _ F n1 rl =>
      obtain ⟨x, e1, e2⟩ := key us _ rl fun b hb => hb
      exact .inr (.inl ⟨a, us, i, x, rfl, rfl, tq (m.sub _ _ n1), e1, e2⟩)
    | @o a _ us _ F n0 n1 n2 rl => exact n1.elim⟩
end
/-! ### runs -/
section
variable {n : Env → Prop} {rt : D → Env → Prop} {bk ct : Env → Prop} {ex : Exn → Env → Prop} {ρ ρ1 : Env} {i j : Nat} {ch : List D} {tb : DS} {vs : List Nat} {Q : Rv → Env → Prop} {E : Exn → Env → Prop}
theorem w_ixM {o : Bool} {k : Kd} {l : Int} {d : D} (h0 : ρ[j]? = some (.v (.n o k ch))) (hk : k = .lst ∨ k = .tup) (h1 : L2.atI ch l = some d) (h2 : (killB j ρ).set j .un = ρ1) (h : Q (.t d) ρ1) : dIxM j l ρ Q E := ⟨o, k, ch, d, h0, hk, h1, by rw [h2]; exact h⟩
theorem w_forB (h1 : ρ[i]? = some (.w (.n true .lst ch))) (h2 : wipeD ρ vs = ρ1) (h : dLoopB i j ch.length tb vs ⟨n, rt, bk, ct, ex⟩ ch.length ρ1) : dForB i j tb vs ⟨n, rt, bk, ct, ex⟩ ρ := ⟨ch, h1, by rw [h2]; exact h⟩
/-- an invariant: how many are left -/
theorem loopB_run {N : Nat} (P : Nat → Env → Prop) (step : ∀ r ρ, r < N → P (r + 1) ρ → ∃ ch kd cc, ρ[i]? = some (.w (.n true .lst ch)) ∧ ch.length = N ∧ ch[N - (r + 1)]? = some (.n true kd cc) ∧ okV ρ j = true ∧
      ∀ k : Env → Prop, (∀ ρ', P r (wipeD ρ' vs) → k ρ') → tb ⟨k, rt, fun ρ2 => n (wipeD ρ2 vs), k, ex⟩ ((killB j ρ).set j (.b i [N - (r + 1)])))
    (fin : ∀ ρ, P 0 ρ → (∃ ch, ρ[i]? = some (.w (.n true .lst ch)) ∧ ch.length = N) ∧ n ρ) : ∀ r ρ, r ≤ N → P r ρ → dLoopB i j N tb vs ⟨n, rt, bk, ct, ex⟩ r ρ
  | 0, ρ, _, h => fin ρ h
  | r + 1, ρ, hr, h => by
    obtain ⟨ch, kd, cc, e1, e2, e3, e4, st⟩ := step r ρ (by omega) h
    exact ⟨ch, kd, cc, e1, e2, e3, e4, st _ fun ρ' h' => loopB_run P step fin r _ (by omega) h'⟩
theorem w_apB {α : Type} {inst : Enc α} {rows : List (List α)} {row : List α} {p : Nat} {a : α} {v : V} (hv : (en a : D) = .p v) (h1 : ρ[i]? = some (.b j [p])) (h2 : ρ[j]? = some (.w (eoo rows))) (h3 : rows[p]? = some row) (h4 : row.length < 100000)
    (h : Q (.t (.p .non)) (((killB j ρ).set j (.w (eoo (rows.set p (row ++ [a]))))).set i (.b j [p]))) : dMutB "list" i mAppend (dCons (dC v) dNil) ρ Q E := by
  refine ⟨⟨eo row, ?_, rfl, .inl rfl⟩, [.p v], ρ, j, [p], _, eoo rows, .lst, row.map en, rfl, h1, h2, rfl, oo_at h3, .p v, rfl, rfl, by rw [List.length_map]; exact h4, ?_⟩
  · have : rootD ρ j = some (eoo rows) := by simp only [rootD, h2]
    simp only [slD, h1, this, Option.bind_some]
    exact oo_at h3
  · have e := oo_put (row' := row ++ [a]) h3
    rw [show (eo (row ++ [a]) : D) = .n true .lst (row.map en ++ [.p v]) by unfold eo; rw [List.map_append, ← hv]; rfl] at e
    show Q (.t (.p .non)) (((killB j ρ).set j (.w ((eoo rows).put [p] (.n true .lst (row.map en ++ [.p v]))))).set i (.b j [p]))
    rw [e]
    exact h
end
end DL
/-! DL58: != of lists of two, the second of each a dict with nothing in it. -/
namespace DL
open PySem L2
open Enc (en)
/-- the same, or lists of two, the second of each a dict with nothing in it -/
def qNeX : Op2 := fun d e Q => ((okD d = true ∧ okD e = true) ∧ Q (.bl (!eqD d e))) ∨ ∃ o o' u u' a b, d = .n o .lst [a, .n u (.dic []) []] ∧ e = .n o' .lst [b, .n u' (.dic []) []] ∧ okD a = true ∧ okD b = true ∧ Q (.bl (!eqD a b))
def rNeX (K : PySem.W.Frag) : R2 := fun x y H Q => rNeP K x y H Q ∨ ∃ p p' v v' c c' d e, x = .ref p ∧ y = .ref p' ∧ H p = some (.lst [v, .ref c]) ∧ H p' = some (.lst [v', .ref c']) ∧ Rd H c (.dK []) ∧ Rd H c' (.dK []) ∧ Dp K H v d ∧ Dp K H v' e ∧ Pl d ∧ Pl e ∧ Q (.bl (!PyData.eqv d e)) H
section
variable {X : Cx}
end
theorem eqD_refl {d : D} (h : okD d = true) : eqD d d = true := by
  unfold okD at h
  rw [Bool.and_eq_true] at h
  exact SeqAt.eqv_refl_plain _ h.1
end DL
/-! DL59: x is True, x is not True; x in a dict whose keys are tuples, as a test. -/
namespace DL
open PySem L2
open Enc (en)
def qIsB : Op2 := fun d e Q => ∃ a b, d = .p (.bl a) ∧ e = .p (.bl b) ∧ Q (.bl (decide (a = b)))
def qNotB : Op2 := fun d e Q => ∃ a b, d = .p (.bl a) ∧ e = .p (.bl b) ∧ Q (.bl (!decide (a = b)))
end DL
/-! DL60: list(zip(a, b)) of two lists as a value. -/
namespace ZL
open PySem PySem.W PySem.Calls PyProof.Rows PyProof.V PySem.Spec
theorem nolen : typeLookup (.type "zip") "__len__" = pure none := by rw [typeLookup_type, builtinLookup_eq_fast]; kernel_rfl
theorem nohint : typeLookup (.type "zip") "__length_hint__" = pure none := by rw [typeLookup_type, builtinLookup_eq_fast]; kernel_rfl
/-- the zip object ahead of its turn i; S: the list that is being filled -/
def St (z TI TO i1 i2 l1 l2 S : Addr) (xs ys : Array Value) (i : Nat) (h : Heap) : Prop :=
  IsPair h TI (.ref i1) (.ref i2) ∧ h.IsListIter i1 l1 i ∧ h.IsListIter i2 l2 i ∧ h.IsList l1 xs ∧ h.IsList l2 ys ∧
  ((IsZip h z TI TO .none ∧ ∃ a b, IsPair h TO a b) ∨ ∃ T f oT, IsZipHeld h z TI TO T f ∧ h.get? T = some oT ∧ T ≠ z ∧ T ≠ i1 ∧ T ≠ i2 ∧ T ≠ S)
section
variable {z TI TO i1 i2 l1 l2 S : Addr} {xs ys : Array Value}
theorem St.keep {i : Nat} {h h' : Heap} (n : z < S ∧ TI < S ∧ TO < S ∧ i1 < S ∧ i2 < S ∧ l1 < S ∧ l2 < S) (st : St z TI TO i1 i2 l1 l2 S xs ys i h) (hk : ∀ b o, b ≠ S → h.get? b = some o → h'.get? b = some o) : St z TI TO i1 i2 l1 l2 S xs ys i h' := by
  obtain ⟨dz, dTI, dTO, di1, di2, dl1, dl2⟩ := n
  obtain ⟨hTI, h1, h2, hl1, hl2, hz⟩ := st
  refine ⟨hk _ _ (Nat.ne_of_lt dTI) hTI, h1.at fun o e => hk _ o (Nat.ne_of_lt di1) e, h2.at fun o e => hk _ o (Nat.ne_of_lt di2) e, hl1.at fun o e => hk _ o (Nat.ne_of_lt dl1) e, hl2.at fun o e => hk _ o (Nat.ne_of_lt dl2) e, ?_⟩
  rcases hz with ⟨hz, a, b, hTO⟩ | ⟨T, f, oT, hz, hT, r1, r2, r3, r4⟩
  · exact .inl ⟨hk _ _ (Nat.ne_of_lt dz) hz, a, b, hk _ _ (Nat.ne_of_lt dTO) hTO⟩
  · exact .inr ⟨T, f, oT, hk _ _ (Nat.ne_of_lt dz) hz, hk _ _ r4 hT, r1, r2, r3, r4⟩
variable {prog : Program} {w : World} {A : Around} {E : Value → Shared → Prop} {s : Shared}
theorem type_of {i : Nat} {s : Shared} (st : St z TI TO i1 i2 l1 l2 S xs ys i s.heap) : s.TypeIs (.ref z) "zip" := by
  obtain ⟨-, -, -, -, -, ⟨hz, -⟩ | ⟨T, f, oT, hz, -⟩⟩ := st
  · exact ⟨_, hz, rfl⟩
  · exact ⟨_, hz, rfl⟩
theorem item {i : Nat} {x y : Value} {Q : Option Value → Shared → Prop} (D : ZipApart z TI TO i1 i2 l1 l2) (st : St z TI TO i1 i2 l1 l2 S xs ys i s.heap) (hS : S < s.heap.objs.size) (ex : xs[i]? = some x) (ey : ys[i]? = some y)
    (hQ : ∀ h', St z TI TO i1 i2 l1 l2 S xs ys (i + 1) h' → IsPair h' s.heap.objs.size x y → (∀ c o, c ≠ z → c ≠ TO → c ≠ i1 → c ≠ i2 → s.heap.get? c = some o → h'.get? c = some o) → Q (some (.ref s.heap.objs.size)) { s with heap := h' }) :
    wpAny (model prog w) A (pyNext (.ref z)) Q E s := by
  obtain ⟨hTI, h1, h2, hl1, hl2, hz⟩ := st
  have lt : ∀ {c o}, s.heap.get? c = some o → s.heap.objs.size ≠ c := fun e => Nat.ne_of_gt (Heap.lt_size e)
  have n1 : s.heap.objs.size ≠ i1 := let ⟨_, e, _⟩ := h1; lt e
  have n2 : s.heap.objs.size ≠ i2 := let ⟨_, e, _⟩ := h2; lt e
  rcases hz with ⟨hz, a, b, hTO⟩ | ⟨T, f, oT, hz, hT, r1, r2, r3, r4⟩
  · refine wpAny_pyNext_zip_item D hz hTI hTO h1 h2 hl1 hl2 ex ey fun h' a1 a2 a3 a4 a5 a6 hk => ?_
    exact hQ h' ⟨hk _ _ D.TIz D.TITO D.TIi1 D.TIi2 hTI, a3, a4, hl1.at fun o e => hk _ o D.l1z D.l1TO D.l1i1 D.l1i2 e, hl2.at fun o e => hk _ o D.l2z D.l2TO D.l2i1 D.l2i2 e,
      .inr ⟨s.heap.objs.size, false, _, a1, a5, lt hz, n1, n2, Nat.ne_of_gt hS⟩⟩ a5 fun c o q1 q2 q3 q4 e => hk c o q1 q2 q3 q4 e
  · refine wpAny_pyNext_zip_item_held D hz hT hTI h1 h2 hl1 hl2 ex ey fun h' a1 a3 a4 a5 a6 hk => ?_
    exact hQ h' ⟨hk _ _ D.TIz D.TIi1 D.TIi2 hTI, a3, a4, hl1.at fun o e => hk _ o D.l1z D.l1i1 D.l1i2 e, hl2.at fun o e => hk _ o D.l2z D.l2i1 D.l2i2 e,
      .inr ⟨T, true, oT, a1, hk _ _ r1 r2 r3 hT, r1, r2, r3, r4⟩⟩ a5 fun c o q1 q2 q3 q4 e => hk c o q1 q3 q4 e
theorem fin_ {i : Nat} {Q : Option Value → Shared → Prop} (hh : A.handled = none) (D : ZipApart z TI TO i1 i2 l1 l2) (st : St z TI TO i1 i2 l1 l2 S xs ys i s.heap) (hend : xs[i]? = none ∨ ys[i]? = none)
    (hQ : ∀ h', (∀ c o, c ≠ z → c ≠ TO → c ≠ i1 → c ≠ i2 → s.heap.get? c = some o → h'.get? c = some o) → Q none { s with heap := h' }) : wpAny (model prog w) A (pyNext (.ref z)) Q E s := by
  obtain ⟨hTI, h1, h2, hl1, hl2, hz⟩ := st
  rcases hz with ⟨hz, a, b, hTO⟩ | ⟨T, f, oT, hz, hT, r1, r2, r3, r4⟩
  · exact wpAny_pyNext_zip_end hh D hz hTI hTO h1 h2 hl1 hl2 hend fun h' hk => hQ h' fun c o q1 q2 q3 q4 e => hk c o q1 q2 q3 q4 e
  · exact wpAny_pyNext_zip_end_held hh D hz hT hTI h1 h2 hl1 hl2 hend fun h' hk => hQ h' fun c o q1 q2 q3 q4 e => hk c o q1 q3 q4 e
/-- the tuples made so far -/
structure Made (S : Addr) (xs ys : Array Value) (h : Heap) (as : List Addr) : Prop where
  rise : as.Pairwise (· < ·)
  above : ∀ a ∈ as, S < a
  pairs : ∀ (j : Nat) (a : Addr), as[j]? = some a → ∃ x y, xs[j]? = some x ∧ ys[j]? = some y ∧ IsPair h a x y
theorem Made.there {h : Heap} {as : List Addr} (g : Made S xs ys h as) {a : Addr} (ha : a ∈ as) : a < h.objs.size := by
  obtain ⟨j, hj⟩ := List.getElem?_of_mem ha
  obtain ⟨x, y, -, -, e⟩ := g.pairs j a hj
  exact Heap.lt_size e
variable {R : Result → Shared → Prop}
theorem loop (hh : A.handled = none) (D : ZipApart z TI TO i1 i2 l1 l2) (n : z < S ∧ TI < S ∧ TO < S ∧ i1 < S ∧ i2 < S ∧ l1 < S ∧ l2 < S) (hn : min xs.size ys.size ≤ sizeLine) (res : Value) {h₁ : Heap}
    (hR : ∀ h' tk acc c as, (∀ b o, b ≠ S → b ≠ z → b ≠ TO → b ≠ i1 → b ≠ i2 → h₁.get? b = some o → h'.get? b = some o) → h'.get? S = some { cls := .type "list", dict := none, data := .seq acc c, slots := #[] } → as.length = min xs.size ys.size → Made S xs ys h' as →
      acc.toList = as.map Value.ref → R (.ok (.ret res)) { s with heap := h', toks := tk }) :
    ∀ (k i : Nat) (h : Heap) (tk c : Nat) (acc : Array Value) (as : List Addr), min xs.size ys.size - i = k → i ≤ min xs.size ys.size → St z TI TO i1 i2 l1 l2 S xs ys i h → (∀ b o, b ≠ S → b ≠ z → b ≠ TO → b ≠ i1 → b ≠ i2 → h₁.get? b = some o → h.get? b = some o) →
      h.get? S = some { cls := .type "list", dict := none, data := .seq acc c, slots := #[] } → acc.toList = as.map Value.ref → as.length = i → Made S xs ys h as →
      codeAny (model prog w) A (.builtin "list.extend.loop" ⟨[.ref S, .ref z, res], []⟩) R { s with heap := h, toks := tk } := by
  obtain ⟨dz, dTI, dTO, di1, di2, dl1, dl2⟩ := id n
  intro k
  induction k with
  | zero =>
    intro i h tk c acc as hk hi hst hkeep hS hacc hal hG
    refine codeAny_builtin PySem.F.entry_extend_loop ?_
    rw [Around.under_plainId PySem.F.plain_extend_loop _]
    show wpAny _ A.in1 (pyNext (.ref z) >>= _) _ _ _
    have hend : xs[i]? = none ∨ ys[i]? = none := by
      rcases Nat.le_total xs.size ys.size with q | q
      · exact .inl (Array.getElem?_eq_none (by omega))
      · exact .inr (Array.getElem?_eq_none (by omega))
    refine wpAny_bind (fin_ (s := { s with heap := h, toks := tk }) (A := A.in1) hh D hst hend fun h' he => ?_)
    refine wpAny_pure (hR h' tk acc c as (fun b o q0 q1 q2 q3 q4 e => he b o q1 q2 q3 q4 (hkeep b o q0 q1 q2 q3 q4 e)) (he S _ (Nat.ne_of_gt dz) (Nat.ne_of_gt dTO) (Nat.ne_of_gt di1) (Nat.ne_of_gt di2) hS) (by omega) ⟨hG.rise, hG.above, fun j a hj => ?_⟩ hacc)
    obtain ⟨x, y, e1, e2, e3⟩ := hG.pairs j a hj
    have := hG.above a (List.mem_of_getElem? hj)
    exact ⟨x, y, e1, e2, he a _ (Nat.ne_of_gt (Nat.lt_trans dz this)) (Nat.ne_of_gt (Nat.lt_trans dTO this)) (Nat.ne_of_gt (Nat.lt_trans di1 this)) (Nat.ne_of_gt (Nat.lt_trans di2 this)) e3⟩
  | succ k ih =>
    intro i h tk c acc as hk hi hst hkeep hS hacc hal hG
    have hlt : i < min xs.size ys.size := by omega
    have hsz : acc.size = i := by rw [← Array.length_toList, hacc, List.length_map, hal]
    have ex := Array.getElem?_eq_getElem (xs := xs) (i := i) (by omega)
    have ey := Array.getElem?_eq_getElem (xs := ys) (i := i) (by omega)
    have hSl : S < h.objs.size := Heap.lt_size hS
    refine codeAny_builtin PySem.F.entry_extend_loop ?_
    rw [Around.under_plainId PySem.F.plain_extend_loop _]
    show wpAny _ A.in1 (pyNext (.ref z) >>= _) _ _ _
    refine wpAny_bind (item (s := { s with heap := h, toks := tk }) D hst hSl ex ey fun h' hst' ht hkp => ?_)
    dsimp only at ht hkp ⊢
    have hS' := hkp S _ (Nat.ne_of_gt dz) (Nat.ne_of_gt dTO) (Nat.ne_of_gt di1) (Nat.ne_of_gt di2) hS
    have up : ∀ b o, b ≠ S → h'.get? b = some o → (h'.update S (Obj.mapSeq (·.push (Value.ref h.objs.size)))).get? b = some o := fun b o hb e => (Heap.get?_update_other _ _ (Ne.symm hb)).trans e
    show wpAny _ A.in1 (updateSeq S (·.push (Value.ref h.objs.size)) >>= _) _ _ _
    refine wpAny_bind ?_
    refine wpAny_updateSeq hS' rfl (wpAny_pure ⟨plainId_quiet PySem.F.plain_extend_loop _, ih (i + 1) _ tk _ (acc.push (Value.ref h.objs.size)) (as ++ [h.objs.size]) (by omega) hlt (hst'.keep n up)
      (fun b o q0 q1 q2 q3 q4 e => up b o q0 (hkp b o q1 q2 q3 q4 (hkeep b o q0 q1 q2 q3 q4 e))) (Heap.get?_update_self _ hS' rfl) (by rw [Array.toList_push, hacc, List.map_append]; rfl) (by rw [List.length_append, hal]; rfl) ⟨?_, ?_, ?_⟩⟩) (by rw [hsz]; omega) (by show (acc.push (Value.ref h.objs.size)).size ≤ sizeLine + 1; rw [Array.size_push, hsz]; omega)
    · refine List.pairwise_append.mpr ⟨hG.rise, List.pairwise_singleton _ _, fun a ha b hb => ?_⟩
      rw [List.mem_singleton.mp hb]
      exact hG.there ha
    · intro a ha
      rcases List.mem_append.mp ha with ha | ha
      · exact hG.above a ha
      · rw [List.mem_singleton.mp ha]; exact hSl
    · intro j b hj
      rcases Nat.lt_trichotomy j as.length with q | q | q
      · rw [List.getElem?_append_left q] at hj
        obtain ⟨x, y, e1, e2, e3⟩ := hG.pairs j b hj
        have hb := hG.above b (List.mem_of_getElem? hj)
        exact ⟨x, y, e1, e2, up b _ (Nat.ne_of_gt hb) (hkp b _ (Nat.ne_of_gt (Nat.lt_trans dz hb)) (Nat.ne_of_gt (Nat.lt_trans dTO hb)) (Nat.ne_of_gt (Nat.lt_trans di1 hb)) (Nat.ne_of_gt (Nat.lt_trans di2 hb)) e3)⟩
      · subst q
        have hb : h.objs.size = b := by simpa using hj
        subst hb
        exact ⟨_, _, by rw [hal]; exact ex, by rw [hal]; exact ey, up _ _ (Nat.ne_of_gt hSl) ht⟩
      · have hnone : (as ++ [h.objs.size])[j]? = none := List.getElem?_eq_none (by rw [List.length_append, List.length_singleton]; omega)
        rw [hnone] at hj; cases hj
theorem extend (hh : A.handled = none) (D : ZipApart z TI TO i1 i2 l1 l2) (n : z < S ∧ TI < S ∧ TO < S ∧ i1 < S ∧ i2 < S ∧ l1 < S ∧ l2 < S) (hn : min xs.size ys.size ≤ sizeLine) (res : Value) (c₀ : Nat) (st : St z TI TO i1 i2 l1 l2 S xs ys 0 s.heap)
    (hz : IsZip s.heap z TI TO .none) (hS : s.heap.get? S = some { cls := .type "list", data := .seq #[] c₀ })
    (hR : ∀ h' tk acc c as, (∀ b o, b ≠ S → b ≠ z → b ≠ TO → b ≠ i1 → b ≠ i2 → s.heap.get? b = some o → h'.get? b = some o) → h'.get? S = some { cls := .type "list", dict := none, data := .seq acc c, slots := #[] } → as.length = min xs.size ys.size → Made S xs ys h' as →
      acc.toList = as.map Value.ref → R (.ok (.ret res)) { s with heap := h', toks := tk }) :
    wpAny (model prog w) A.in1 (Builtin.List.listExtendWith (.ref S) (.ref z) res)
      (fun fin s' => match fin with | .done f => R (.ok f) s' | .again c' => c'.quiet = true ∧ codeAny (model prog w) A c' R s') (fun e s' => R (.error e) s') s := by
  have hSI : S ≠ z := Nat.ne_of_gt n.1
  have hT := type_of st
  unfold Builtin.List.listExtendWith
  refine wpAny_bind (wpAny_typeOf hT ?_)
  have h1 : Builtin.List.listSameRef (.ref S) (.ref z) = false := by simp [Builtin.List.listSameRef, hSI]
  have h2 : (Value.type "zip" == Value.type "list") = false := by decide
  have h3 : (Value.type "zip" == Value.type "tuple") = false := by decide
  simp only [h1, h2, h3, Bool.or_false, Bool.false_eq_true, if_false]
  refine wpAny_bind (wpAny_pyIter_zip hz ?_)
  refine wpAny_bind (wpAny_holding ?_)
  unfold Builtin.List.listLengthHint
  refine wpAny_bind (wpAny_specialOf hT nolen ?_)
  show wpAny _ A.in1 (specialOf (Value.ref z) (Str.ofString "__length_hint__") >>= _) _ _ _
  refine wpAny_bind (wpAny_specialOf hT nohint ?_)
  refine wpAny_pure ?_
  show wpAny _ A.in1 (rule "list.extend.makes-room" >>= fun _ => Builtin.List.listTouch (.ref S) >>= fun _ =>
    again (.builtin "list.extend.loop" ⟨[.ref S, .ref z, res], []⟩)) _ _ _
  refine wpAny_bind (wpAny_rule ?_)
  refine wpAny_bind ?_
  show wpAny _ A.in1 (updateSeq S (·.push .none) >>= fun _ => updateSeq S (·.pop)) _ _ _
  refine wpAny_bind (wpAny_updateSeq hS rfl ?_)
  have hS₂ := Heap.get?_update_self (Obj.mapSeq (·.push Value.none)) hS rfl
  refine wpAny_updateSeq (hz := by seq_fits) hS₂ rfl ?_
  have hS₃ := Heap.get?_update_self (Obj.mapSeq (·.pop)) hS₂ rfl
  have oth : ∀ b o, b ≠ S → s.heap.get? b = some o → ((s.heap.update S (Obj.mapSeq (·.push Value.none))).update S (Obj.mapSeq (·.pop))).get? b = some o :=
    fun b o hb e => (Heap.get?_update_other _ _ (Ne.symm hb)).trans ((Heap.get?_update_other _ _ (Ne.symm hb)).trans e)
  exact wpAny_pure ⟨plainId_quiet PySem.F.plain_extend_loop _, loop hh D n hn res hR _ 0 _ s.toks _ _ [] rfl (Nat.zero_le _) (st.keep n oth) (fun b o q0 _ _ _ _ e => oth b o q0 e) hS₃ rfl rfl ⟨List.Pairwise.nil, (fun _ h => nomatch h), fun j a h => by simp at h⟩⟩
theorem init (hh : A.handled = none) (D : ZipApart z TI TO i1 i2 l1 l2) (n : z < S ∧ TI < S ∧ TO < S ∧ i1 < S ∧ i2 < S ∧ l1 < S ∧ l2 < S) (hn : min xs.size ys.size ≤ sizeLine) (st : St z TI TO i1 i2 l1 l2 S xs ys 0 s.heap)
    (hz : IsZip s.heap z TI TO .none) (hS : s.heap.get? S = some { cls := .type "list", data := .seq #[] })
    (hR : ∀ h' tk acc c as, (∀ b o, b ≠ S → b ≠ z → b ≠ TO → b ≠ i1 → b ≠ i2 → s.heap.get? b = some o → h'.get? b = some o) → h'.get? S = some { cls := .type "list", dict := none, data := .seq acc c, slots := #[] } → as.length = min xs.size ys.size → Made S xs ys h' as →
      acc.toList = as.map Value.ref → R (.ok (.ret .none)) { s with heap := h', toks := tk }) :
    wpAny (model prog w) A.in1 (Builtin.«list.__init__» ⟨[.ref S, .ref z], []⟩)
      (fun fin s' => match fin with | .done f => R (.ok f) s' | .again c' => c'.quiet = true ∧ codeAny (model prog w) A c' R s') (fun e s' => R (.error e) s') s := by
  show wpAny _ A.in1 (do let old ← Builtin.List.listItems (.ref S); Builtin.List.listUpdate (.ref S) (fun _ => #[]); letGo old.toList.reverse; Builtin.List.listExtendWith (.ref S) (.ref z) .none) _ _ s
  refine wpAny_bind ?_
  unfold Builtin.List.listItems
  refine wpAny_bind (wpAny_seqItems hS rfl (wpAny_pure ?_))
  show wpAny _ A.in1 (updateSeq S (fun _ => #[]) >>= fun _ => letGo (#[] : Array Value).toList.reverse >>= fun _ => Builtin.List.listExtendWith (.ref S) (.ref z) .none) _ _ s
  refine wpAny_bind (wpAny_updateSeq hS rfl ?_)
  have hS₂ := Heap.get?_update_self (Obj.mapSeq (fun _ => (#[] : Array Value))) hS rfl
  have oth : ∀ b o, b ≠ S → s.heap.get? b = some o → (s.heap.update S (Obj.mapSeq (fun _ => (#[] : Array Value)))).get? b = some o :=
    fun b o hb e => (Heap.get?_update_other _ _ (Ne.symm hb)).trans e
  refine wpAny_bind (wpAny_letGo ?_)
  exact extend hh D n hn .none _ (st.keep n oth) (oth _ _ (Nat.ne_of_lt n.1) hz) hS₂ fun h' tk acc c as hk hS' hl hG hacc => hR h' tk acc c as (fun b o q0 q1 q2 q3 q4 e => hk b o q0 q1 q2 q3 q4 (oth b o q0 e)) hS' hl hG hacc
end
section
variable {z TI TO i1 i2 l1 l2 : Addr} {xs ys : Array Value} {prog : Program} {w : World} {A : Around} {E : Value → Shared → Prop} {s : Shared}
theorem call {Q : Value → Shared → Prop} (hh : A.handled = none) (D : ZipApart z TI TO i1 i2 l1 l2) (hn : min xs.size ys.size ≤ sizeLine) (hz : IsZip s.heap z TI TO .none) (hTI : IsPair s.heap TI (.ref i1) (.ref i2)) (hTO : ∃ a b, IsPair s.heap TO a b)
    (h1 : s.heap.IsListIter i1 l1 0) (h2 : s.heap.IsListIter i2 l2 0) (hl1 : s.heap.IsList l1 xs) (hl2 : s.heap.IsList l2 ys)
    (hQ : ∀ h' tk acc c as, (∀ b o, b ≠ z → b ≠ TO → b ≠ i1 → b ≠ i2 → s.heap.get? b = some o → h'.get? b = some o) → h'.get? s.heap.objs.size = some { cls := .type "list", dict := none, data := .seq acc c, slots := #[] } → as.length = min xs.size ys.size →
      Made s.heap.objs.size xs ys h' as → acc.toList = as.map Value.ref → Q (.ref s.heap.objs.size) { s with heap := h', toks := tk }) :
    wpAny (model prog w) A (PySem.call (.type "list") [.ref z]) Q E s := by
  have n : z < s.heap.objs.size ∧ TI < s.heap.objs.size ∧ TO < s.heap.objs.size ∧ i1 < s.heap.objs.size ∧ i2 < s.heap.objs.size ∧ l1 < s.heap.objs.size ∧ l2 < s.heap.objs.size :=
    ⟨Heap.lt_size hz, Heap.lt_size hTI, (let ⟨_, _, e⟩ := hTO; Heap.lt_size e), (let ⟨_, e, _⟩ := h1; Heap.lt_size e), (let ⟨_, e, _⟩ := h2; Heap.lt_size e), (let ⟨_, e, _⟩ := hl1; Heap.lt_size e), (let ⟨_, e, _⟩ := hl2; Heap.lt_size e)⟩
  refine callType_codes (Q₁ := fun obj s₁ => obj = .ref s.heap.objs.size ∧ s₁ = { s with heap := s.heap.push { cls := .type "list", data := .seq #[] } }) PySem.F.called_list (PySem.F.typeCall_list_1 _) PySem.F.entry_list_init
    (code_list_new _ ⟨rfl, rfl⟩) fun obj s₁ h₁ => ?_
  obtain ⟨rfl, rfl⟩ := h₁
  have hS : (s.heap.push { cls := .type "list", data := .seq #[] }).get? s.heap.objs.size = some { cls := .type "list", data := .seq #[] } := Heap.get?_push_size _ rfl
  have up : ∀ b o, s.heap.get? b = some o → (s.heap.push { cls := .type "list", data := .seq #[] }).get? b = some o := fun b o e => Heap.get?_push_of_some _ e
  have st : St z TI TO i1 i2 l1 l2 s.heap.objs.size xs ys 0 s.heap := ⟨hTI, h1, h2, hl1, hl2, .inl ⟨hz, hTO⟩⟩
  refine ⟨⟨_, hS, rfl⟩, PySem.F.args_list_init_2 _ _, init (A := A.in1) hh D n hn (st.keep n fun b o _ e => up b o e) (up _ _ hz) hS fun h' tk acc c as hk hS' hl hG hacc => ?_⟩
  exact ⟨rfl, hQ h' tk acc c as (fun b o q1 q2 q3 q4 e => hk b o (Nat.ne_of_lt (Heap.lt_size e)) q1 q2 q3 q4 (up b o e)) hS' hl hG hacc⟩
end
end ZL
namespace L2
open PySem PySem.W PySem.Calls PyProof.Rows PyProof.V PySem.Spec
variable {X : Cx} {e e2 : Expr} {ta : TA} {p pos p' pos' : Pos}
def ZipPost (X : Cx) (pins : List (Addr × Obj)) (σ : St) (R : Addr → Addr → List V → List V → Hp → Prop) (v : Value) (s : Shared) : Prop :=
  ∃ (z TI TO i1 i2 a b : Addr) (its its2 : List Value) (xs ys : List V) (H1 : Hp), v = .ref z ∧ ZipApart z TI TO i1 i2 a b ∧ IsZip s.heap z TI TO .none ∧ IsPair s.heap TI (.ref i1) (.ref i2) ∧ (∃ x y, IsPair s.heap TO x y) ∧ s.heap.IsListIter i1 a 0 ∧ s.heap.IsListIter i2 b 0 ∧
    s.heap.IsList a its.toArray ∧ s.heap.IsList b its2.toArray ∧ Vals xs its ∧ Vals ys its2 ∧ xs.length ≤ sizeLine ∧ Inv X pins σ H1 s ∧ (∀ c ∈ [z, TO, i1, i2], FpOk X pins H1 c) ∧ R a b xs ys H1
/-- the new pairs -/
def PairsAt (H1 H2 : Hp) (as : List Addr) (xs ys : List V) : Prop := as.length = min xs.length ys.length ∧ ∀ (j : Nat) (c : Addr), as[j]? = some c → H1 c = none ∧ ∃ x y, xs[j]? = some x ∧ ys[j]? = some y ∧ H2 c = some (.tup [x, y])
def tLstZip (K : PySem.W.Frag) (ta : TA) : TE := fun σ H Q => ta σ H fun vs H1 => ∃ a b xs ys, vs = [.ref a, .ref b] ∧ SqL K H1 a xs ∧ SqL K H1 b ys ∧
  ∀ H2 as q, (∀ c o, H1 c = some o → H2 c = some o) → PairsAt H1 H2 as xs ys → H1 q = none → H2 q = some (.lst (as.map V.ref)) → Q (.ref q) H2
end L2
namespace DL
open PySem L2
open Enc (en)
def dLZip (t : DA) : DE := fun ρ Q E => t ρ (fun rs ρ1 => ∃ d e ρ2 ch ch', tkFL ρ1 rs = some ([d, e], ρ2) ∧ listOf d = some ch ∧ listOf e = some ch' ∧ Q (.t (.own (zipL ch ch'))) ρ2) E
section
variable {X : Cx} {cn : String → Addr} {E : WX} {a b : Expr} {t : DA} {p pos p' pos' : Pos}
open Classical in
end
section
variable {ρ : Env} {t : DA} {Q : Rv → Env → Prop} {E : Exn → Env → Prop}
/-- the pairs as a new list -/
def lzK (xs : List Rv) (ρ : Env) (Q : Rv → Env → Prop) : Prop := ∃ d e ρ2 ch ch', tkFL ρ xs = some ([d, e], ρ2) ∧ listOf d = some ch ∧ listOf e = some ch' ∧ Q (.t (.own (zipL ch ch'))) ρ2
theorem w_lzip (h : t ρ (fun rs ρ1 => lzK rs ρ1 Q) E) : dLZip t ρ Q E := h
theorem w_lzK {α β : Type} {i1 : Enc α} {i2 : Enc β} {xs : List Rv} {d e : D} {ρ2 : Env} {us : List α} {ws : List β} (h1 : tkFL ρ xs = some ([d, e], ρ2)) (h2 : listOf d = some (us.map en)) (h3 : listOf e = some (ws.map en)) (h : Q (.t (eo (us.zip ws))) ρ2) : lzK xs ρ Q :=
  ⟨d, e, ρ2, _, _, h1, h2, h3, by rw [zipL_e]; exact h⟩
end
end DL
/-! DL61: e.f, a field of an object (own or shared) that is itself shared, as a value. -/
namespace DL
open PySem L2
open Enc (en)
/-- the field of an object -/
def fldD (c : String) (f : Str) : D → Option D
  | .n _ (.obj c' ns) ch => if c' = c then (fldN ns f).bind fun m => ch[m]? else none
  | _ => none
def dOF (c : String) (f : Str) (te : DE) : DE := fun ρ Q E => te ρ (fun x ρ1 => ∃ d0 d, look ρ1 x = some d0 ∧ fldD c f d0 = some d ∧ d.isFz = true ∧ Q (.t d) ρ1) E
section
variable {X : Cx} {cn : String → Addr} {E : WX} {o : Expr} {te : DE} {c : String} {f : Str} {pos : Pos}
end
section
variable {ρ : Env} {te : DE} {c : String} {f : Str} {Q : Rv → Env → Prop} {E : Exn → Env → Prop}
def ofK (c : String) (f : Str) (x : Rv) (ρ : Env) (Q : Rv → Env → Prop) : Prop := ∃ d0 d, look ρ x = some d0 ∧ fldD c f d0 = some d ∧ d.isFz = true ∧ Q (.t d) ρ
end
end DL
/-! DL62: e.m(e1, ..), a method of a shared object. -/
namespace DL
open PySem L2
open Enc (en)
def isObjD (c : String) (nm : Str) : D → Bool
  | .n _ (.obj c' ns) _ => decide (c' = c) && (fldN ns nm).isNone
  | _ => false
def dMethF (c : String) (nm : Str) (ms : List Bool) (s : SpD) (te : DE) (t : DA) : DE := fun ρ Q E => te ρ (fun x ρ0 => (∃ d, look ρ0 x = some d ∧ isObjD c nm d = true) ∧ t ρ0 (fun rs ρ1 => ∃ ds ρ2, argL (false :: ms) ρ1 (x :: rs) = some (ds, ρ2) ∧
  s ds (fun res ds' => ∃ ρ3, backL ρ1 (false :: ms) ρ2 (x :: rs) ds' = some ρ3 ∧ Q (.t res) ρ3) (fun u ds' => ∃ ρ3, backL ρ1 (false :: ms) ρ2 (x :: rs) ds' = some ρ3 ∧ E u ρ3)) E) E
section
variable {X : Cx} {cn : String → Addr} {E : WX}
end
section
variable {ρ : Env} {te : DE} {t : DA} {c : String} {nm : Str} {ms : List Bool} {s : SpD} {Q : Rv → Env → Prop} {E : Exn → Env → Prop}
/-- the object is looked at, then the arguments -/
def mfK (c : String) (nm : Str) (ms : List Bool) (s : SpD) (x : Rv) (ρ0 : Env) (t : DA) (Q : Rv → Env → Prop) (E : Exn → Env → Prop) : Prop := (∃ d, look ρ0 x = some d ∧ isObjD c nm d = true) ∧ t ρ0 (fun rs ρ1 => caK (false :: ms) (x :: rs) ρ1 fun ds ρ2 => s ds (fun res ds' => baK ρ1 (false :: ms) ρ2 (x :: rs) ds' fun ρ3 => Q (.t res) ρ3) (fun u ds' => baK ρ1 (false :: ms) ρ2 (x :: rs) ds' fun ρ3 => E u ρ3)) E
end
end DL
/-! DL63: C(e1, ..), the arguments shared. -/
namespace DL
open PySem L2
open Enc (en)
section
variable {X : Cx} {cn : String → Addr} {E : WX}
def dMakeF (c : String) (s : SpD) (t : DA) : DE := fun ρ Q E => t ρ (fun rs ρ1 => ∃ ds ρ2, tkFL ρ1 rs = some (ds, ρ2) ∧ s (.n true (.obj c []) [] :: ds) (fun res ds' => res = .p .non ∧ ∃ d dr, ds' = d :: dr ∧ isFzL dr = true ∧ Q (.t d) ρ2) (fun _ _ => False)) E
end
section
variable {ρ : Env} {t : DA} {c : String} {s : SpD} {Q : Rv → Env → Prop} {E : Exn → Env → Prop}
def mkFK (c : String) (s : SpD) (rs : List Rv) (ρ1 : Env) (Q : Rv → Env → Prop) : Prop := ∃ ds ρ2, tkFL ρ1 rs = some (ds, ρ2) ∧ s (.n true (.obj c []) [] :: ds) (fun res ds' => res = .p .non ∧ ∃ d dr, ds' = d :: dr ∧ isFzL dr = true ∧ Q (.t d) ρ2) (fun _ _ => False)
end
end DL
/-! DL64: abs(i); x.f.pop(), a method without arguments of an own part of an own object. -/
namespace DL
open PySem L2
open Enc (en)
def qAbs : OpL := fun ds Q => ∃ i : Int, ds = [.p (.int i)] ∧ Q (.p (.int (if i < 0 then -i else i)))
section
variable {X : Cx} {cn : String → Addr} {E : WX} {e : Expr} {c : String} {f : Str} {T : String}
def dMutF0 (c : String) (f : Str) (T : String) (i : Nat) (r : OpM) : DE := fun ρ Q E => ∃ m d, ofld ρ i c f = some (m, d) ∧ tyM d = T ∧ (T = "list" ∨ T = "dict") ∧
  ∃ s root k1 rc k ch, ρ[i]? = some s ∧ s.d? = some root ∧ root = .n true k1 rc ∧ root.at [m] = some (.n true k ch) ∧ r k ch [] fun k' ch' res => Q (.t res) ((killB i ρ).set i (s.re (root.put [m] (.n true k' ch'))))
end
end DL
/-! DL65: x.m() of an own object; x.f.append((x.g, x.h)). -/
namespace DL
open PySem L2
open Enc (en)
section
variable {X : Cx} {cn : String → Addr} {E : WX}
/-- x.f.append((x.g, x.h)), x own, x.f own, x.g and x.h shared -/
def dPushF (c : String) (f g h : Str) (i : Nat) : DE := fun ρ Q E => ∃ m d mg dg mh dh, ofld ρ i c f = some (m, d) ∧ ofld ρ i c g = some (mg, dg) ∧ ofld ρ i c h = some (mh, dh) ∧ dg.isFz = true ∧ dh.isFz = true ∧
  ∃ s root k1 rc ch, ρ[i]? = some s ∧ s.d? = some root ∧ root = .n true k1 rc ∧ root.at [m] = some (.n true .lst ch) ∧ d = .n true .lst ch ∧ ch.length < 100000 ∧ Q (.t (.p .non)) ((killB i ρ).set i (s.re (root.put [m] (.n true .lst (ch ++ [.n false .tup [dg, dh]])))))
end
end DL
/-! DL66: C(e1, ..) and C(), the last parameters by their defaults. -/
namespace DL
open PySem L2
open Enc (en)
section
variable {X : Cx} {cn : String → Addr} {E : WX}
def dMakeFD (c : String) (dvs : List V) (s : SpD) (t : DA) : DE := fun ρ Q E => t ρ (fun rs ρ1 => ∃ ds ρ2, tkFL ρ1 rs = some (ds, ρ2) ∧ s (.n true (.obj c []) [] :: (ds ++ dvs.map D.p)) (fun res ds' => res = .p .non ∧ ∃ d dr, ds' = d :: dr ∧ isFzL dr = true ∧ Q (.t d) ρ2) (fun _ _ => False)) E
def dMake0D (c : String) (dvs : List V) (s : SpD) : DE := fun ρ Q _ => s (.n true (.obj c []) [] :: dvs.map D.p) (fun res ds' => res = .p .non ∧ ∃ d dr, ds' = d :: dr ∧ isFzL dr = true ∧ Q (.t d) ρ) (fun _ _ => False)
end
section
variable {ρ : Env} {t : DA} {c : String} {dvs : List V} {s : SpD} {Q : Rv → Env → Prop} {E : Exn → Env → Prop}
def mkDK (c : String) (dvs : List V) (s : SpD) (rs : List Rv) (ρ1 : Env) (Q : Rv → Env → Prop) : Prop := ∃ ds ρ2, tkFL ρ1 rs = some (ds, ρ2) ∧ s (.n true (.obj c []) [] :: (ds ++ dvs.map D.p)) (fun res ds' => res = .p .non ∧ ∃ d dr, ds' = d :: dr ∧ isFzL dr = true ∧ Q (.t d) ρ2) (fun _ _ => False)
end
end DL
/-! DL67: e.m(e1, ..), e a new own list or dict that is forgotten behind it. -/
namespace DL
open PySem L2
open Enc (en)
section
variable {X : Cx} {cn : String → Addr} {E : WX} {e : Expr} {T : String}
def dMutT (T : String) (r : OpM) (te : DE) (t : DA) : DE := fun ρ Q E => te ρ (fun x ρ1 => (∃ k ch, x = .t (.n true k ch) ∧ tyM (.n true k ch) = T ∧ (T = "list" ∨ T = "dict")) ∧ t ρ1 (fun rs ρ2 => ∃ k ch es ρ3, x = .t (.n true k ch) ∧ tkL ρ2 rs = some (es, ρ3) ∧ r k ch es fun _ _ res => res.isFz = true ∧ Q (.t res) ρ3) E) E
end
end DL
/-! DL68: x.m(e1, ..), the last parameters by their defaults. -/
namespace DL
open PySem L2
open Enc (en)
section
variable {X : Cx} {cn : String → Addr} {E : WX}
end
end DL
/-! DL69: x["s"][k] = e, an own dict (or list) in an own dict. -/
namespace DL
open PySem L2
open Enc (en)
def keyN : List Key → Key → Option Nat
  | [], _ => none
  | g :: ks, f => if g = f then some 0 else (keyN ks f).map (· + 1)
section
variable {X : Cx} {cn : String → Addr} {E : WX}
def dPutK (n : Nat) (key : Str) (r : OpM) (kk : Nat) (te : DE) : DS := fun D ρ => te ρ (fun x ρ1 => ∃ s0 ks rc m dk, ρ1[n]? = some s0 ∧ s0.d? = some (.n true (.dic ks) rc) ∧ keyN ks (.inr key) = some m ∧ slD ρ1 kk = some dk ∧
  ∃ es ρ2 s root k1 rc k ch, tkL ρ1 [.s kk, x] = some (es, ρ2) ∧ ρ2[n]? = some s ∧ s.d? = some root ∧ root = .n true k1 rc ∧ root.at [m] = some (.n true k ch) ∧ r k ch es fun k' ch' _ => D.nx ((killB n ρ2).set n (s.re (root.put [m] (.n true k' ch'))))) D.ex
end
end DL
/-! DL70: min of things that are ordered data. -/
namespace DL
open PySem L2 PyProof.Rows PySem.W
open Enc (en)
section
variable {α : Type} [DecidableEq α] [DatumOrd α]
end
end DL
/-! DL71: range with a step of -1; max of three whole numbers. -/
namespace DL
open PySem L2
open Enc (en)
def rngD (hi : Int) (n : Nat) : List D := (List.range n).map fun i => D.p (.int (hi - (i : Nat)))
def dIRngD (t : DA) : DI := fun ρ Q E => t ρ (fun rs ρ1 => ∃ i j : Int, lookL ρ1 rs = some [.p (.int i), .p (.int j), .p (.int (-1))] ∧ (-(2 ^ 62) ≤ i ∧ i < 2 ^ 62 ∧ -(2 ^ 62) ≤ j ∧ j < 2 ^ 62) ∧ Q (rngD i (i - j).toNat) ρ1) E
section
variable {K : PySem.W.Frag} {X : Cx} {cn : String → Addr} {E : WX} {tg iter : Expr} {t : DA} {G : Hp}
end
def qMax3 : OpL := fun ds Q => ∃ i j k : Int, ds = [.p (.int i), .p (.int j), .p (.int k)] ∧ Q (.int (max (max i j) k))
section
variable {X : Cx}
end
section
variable {ρ ρ1 : Env} {QI : List D → Env → Prop} {E : Exn → Env → Prop} {tA : DA} {xs : List Rv}
def rgDK (xs : List Rv) (ρ : Env) (k : List D → Env → Prop) : Prop := ∃ i j : Int, lookL ρ xs = some [.p (.int i), .p (.int j), .p (.int (-1))] ∧ (-(2 ^ 62) ≤ i ∧ i < 2 ^ 62 ∧ -(2 ^ 62) ≤ j ∧ j < 2 ^ 62) ∧ k (rngD i (i - j).toNat) ρ
end
end DL
/-! DL72: len(set(xs)) of texts, however many. -/
namespace DL
open PySem PySem.Spec
/-- each thing once, as they come -/
def nubS {α : Type} [DecidableEq α] : List α → List α → List α
  | acc, [] => acc
  | acc, x :: r => if x ∈ acc then nubS acc r else nubS (acc ++ [x]) r
def nubT {α : Type} [DecidableEq α] (xs : List α) : List α := nubS [] xs
section
variable {α : Type} [DecidableEq α]
end
section
variable {P : Program} {w : World} {A : Around} {R : Result → Shared → Prop} {it : Addr} {fp wr : List Addr} {G : Array GenState → Array GenState → Prop} {n : Nat} {V1 : Nat → Value → Prop} {St : Nat → Shared → Prop}
/-- the set of the texts met so far -/
def SetTx (P : Program) (w : World) (h : Heap) (S : Addr) (ys : List Str) : Prop := h.SetOf (PySem.strKind P w) S (fun u => decide (u ∈ nubT ys)) (nubT ys).length
theorem SetTx.old {h h' : Heap} {S : Addr} {ys : List Str} (q : SetTx P w h S ys) (k : ∀ o, h.get? S = some o → h'.get? S = some o) : SetTx P w h' S ys := by
  obtain ⟨o, a, b, c, e, more⟩ := q
  exact ⟨o, a, b, c, k o e, more⟩
end
section
variable {P : Program} {w : World} {A : Around} {E : Value → Shared → Prop} {s : Shared}
abbrev set0 (led : Bool) : Obj := { cls := .type "set", dict := none, data := .set #[] 0 (.fresh 0 0 led) }
end
section
open L2 PyProof.Rows
open Enc (en)
variable {X : Cx} {cn : String → Addr} {E : WX}
def tLenTx (K : PySem.W.Frag) (ta : TE) : TE := fun σ H Q => ta σ H fun x H1 => ∃ (l : Addr) (xs : List Str), x = .ref l ∧ SqL K H1 l (xs.map V.str) ∧ xs.length ≤ 4000 ∧ Q (.int ((nubT xs).length : Nat)) H1
def dLenTx (ta : DE) : DE := fun ρ Q E => ta ρ (fun x ρ1 => ∃ (d : D) (xs : List Str), look ρ1 x = some d ∧ listOf d = some (xs.map en) ∧ xs.length ≤ 4000 ∧ Q (.t (.p (.int ((nubT xs).length : Nat)))) ρ1) E
end
section
open Enc (en)
variable {ρ : Env} {ta : DE} {Q : Rv → Env → Prop} {E : Exn → Env → Prop} {x : Rv}
def ltxK (x : Rv) (ρ : Env) (Q : Rv → Env → Prop) : Prop := ∃ (d : D) (xs : List Str), look ρ x = some d ∧ listOf d = some (xs.map en) ∧ xs.length ≤ 4000 ∧ Q (.t (.p (.int ((nubT xs).length : Nat)))) ρ
end
end DL
/-! DL73: a dict's keys walked: the dict is locked meanwhile. -/
namespace DL
open PySem L2
open Enc (en)

/-! ### a world in which one dict is locked -/
structure Chg (K : PySem.W.Frag) (G H G' H' : Hp) : Prop where
  nd : ∀ b k vs, NdF K G b k vs → NdF K G' b k vs
  xd : ∀ b vs, G b = some (.xd vs) → G' b = some (.xd vs)
  no : ∀ b, G b = none → G' b = none
  ow : ∀ b o, G b = none → H b = some o → H' b = some o
section
variable {K : PySem.W.Frag} {G H G' H' : Hp}
mutual
theorem Rp.chg (c : Chg K G H G' H') : ∀ {v : V} (d : D) {F : List Addr}, Rp K G H v d F → Rp K G' H' v d F
  | _, .p v, _, h => by
    cases h
    exact Rp.p _
  | _, .n ow k ch, _, h => by
    cases h with
    | f h1 h2 => exact Rp.f (c.nd _ _ _ h1) (RpL.chg c ch h2)
    | o h0 h1 h3 h2 => exact Rp.o (c.no _ h0) (h1.keep fun o ho => c.ow _ o h0 ho) h3 (RpL.chg c ch h2)
theorem RpL.chg (c : Chg K G H G' H') : ∀ {vs : List V} (ds : List D) {F : List Addr}, RpL K G H vs ds F → RpL K G' H' vs ds F
  | _, [], _, h => by
    cases h
    exact RpL.nil
  | _, d :: ds, _, h => by
    cases h with
    | cons h1 h2 h3 => exact RpL.cons (Rp.chg c d h1) (RpL.chg c ds h2) h3
end
theorem Mt.chg {pv : Nat → V} {σ : St} {ρ : Env} {fp : Fps} (m : Mt K pv σ ρ G H fp) (c : Chg K G H G' H') (s : Sub G' H') : Mt K pv σ ρ G' H' fp where
  sub := s
  len := m.len
  sl := fun i d e => by
    obtain ⟨x, h1, h2⟩ := m.sl i d e
    exact ⟨x, h1, h2.chg c⟩
  pn := fun i d e => by
    obtain ⟨h1, h2⟩ := m.pn i d e
    exact ⟨h1, h2.chg c⟩
  br := fun i j q e => by
    obtain ⟨x, y, h1, h2, h3⟩ := m.br i j q e
    exact ⟨x, y, h1, h2, h3.mono (fun a o z => c.ow a o (m.ft j a z).1) fun _ z => z⟩
  ap := m.ap
  ft := fun i a ha => ⟨c.no a (m.ft i a ha).1, by
    obtain ⟨h0, o, h2⟩ := m.ft i a ha
    exact ⟨o, c.ow a o h0 h2⟩⟩
theorem ExOk.chg {cn : String → Addr} {x : Exn} {cls : Value} {dx : Option Addr} (c : Chg K G H G' H') (h : ExOk K cn G H x cls dx) : ExOk K cn G' H' x cls dx := by
  obtain ⟨h1, h2⟩ := h
  refine ⟨h1, ?_⟩
  cases hf : x.f with
  | none => rw [hf] at h2; exact h2
  | some fd =>
    obtain ⟨f, d⟩ := fd
    rw [hf] at h2
    obtain ⟨a, v, e1, e2, e3⟩ := h2
    exact ⟨a, v, e1, c.xd _ _ e2, e3.chg c⟩
end

/-! ### errors that leave a locked world -/
def lockW (X : Cx) (W : WX) : WX := fun c d σ H => W c d σ H ∨ ∃ a od u, H a = some (.frz od u) ∧ (∀ o' u', X.H_0 a ≠ some (.frz o' u')) ∧ W c d σ (L2.upd H a u)
/-! ### what runs while the dict in slot i is locked -/
/-- the dict in slot i is not open -/
def LkS (σ : St) (i : Nat) (H : Hp) : Prop := ∀ a kvs, σ[i]? = some (some (.ref a)) → H a ≠ some (.dK kvs)
def dLk (i : Nat) (t : DS) : DS := fun D ρ => (∃ ks ch, slD ρ i = some (.n false (.dic ks) ch)) ∧ t D ρ
def dLkE (i : Nat) (t : DE) : DE := fun ρ Q E => (∃ ks ch, slD ρ i = some (.n false (.dic ks) ch)) ∧ t ρ Q E
section
variable {X : Cx} {cn : String → Addr} {E : WX}
section
variable {pv : Nat → V} {σ γ : St} {n : Nat} {ρ : Env} {G H : Hp} {fp : Fps} {a : Addr} {od : Obj} {kvs : List (Key × V)}
end
/-! ### the keys -/
def dIKey (i : Nat) : DI := fun ρ Q _ => ∃ ks ch, slD ρ i = some (.n false (.dic ks) ch) ∧ Q (ks.map keyE) ρ
/-- for k in <the dict in slot i> -/
def dForK (i : Nat) (g : DG) (tb : DS) (vs : List Nat) : DS := dLk i (dForW (dIKey i) g tb vs)
/-- [.. for k in <the dict in slot i>] -/
def dLcK (i : Nat) (g : DG) (tt : DT) (te : DE) (vs : List Nat) : DE := dLkE i (dLc (dIKey i) g tt te vs)
/-- a slot's value is shared from now on -/
def dFzI (i : Nat) (t : DS) : DS := fun D ρ => ∃ d, ρ[i]? = some (.v d) ∧ t D ((killB i ρ).set i (.v d.fz))
end
/-! ### list(d) -/
def dLKeys (t : DA) : DE := fun ρ Q E => t ρ (fun rs ρ1 => ∃ r ks ch, rs = [r] ∧ look ρ1 r = some (.n true (.dic ks) ch) ∧ Q (.t (.n true .lst (ks.map keyE))) ρ1) E
section
variable {X : Cx} {cn : String → Addr} {E : WX} {e : Expr} {t : DA} {p pos : Pos}
end
/-! ### d == e, of the same keys in the same order -/
def eqDs : List D → List D → Bool
  | [], [] => true
  | a :: r, b :: s => okD a && okD b && eqD a b && eqDs r s
  | _, _ => false
def qEqDD : Op2 := fun d e Q => qEq d e Q ∨ ∃ o o' ks ch ch', d = .n o (.dic ks) ch ∧ e = .n o' (.dic ks) ch' ∧ ks.Nodup ∧ eqDs ch ch' = true ∧ Q (.bl true)
def rEqDD (K : PySem.W.Frag) : R2 := fun x y H Q => rEqP K x y H Q ∨ ∃ a b ks ls, x = .ref a ∧ y = .ref b ∧ Rd H a (.dK ks) ∧ Rd H b (.dK ls) ∧ ks.length = ls.length ∧
  (∀ p ∈ ks, ∃ y d e, valV ls p.1 = some y ∧ Dp K H p.2 d ∧ Dp K H y e ∧ Pl d ∧ Pl e ∧ PyData.eqv d e = true) ∧ Q (.bl true) H
/-! ### running -/
section
variable {n : Env → Prop} {rt : D → Env → Prop} {bk ct : Env → Prop} {ex : Exn → Env → Prop} {ρ ρ1 : Env} {Q : Rv → Env → Prop} {E : Exn → Env → Prop} {i j : Nat} {g : DG} {tb t : DS} {vs : List Nat} {tt : DT} {te : DE} {k : Env → Prop} {d d' : D} {tA : DA}
  {κ β : Type} {i1 : Enc κ} {i2 : KeyE κ} {i3 : Enc β} {kv : List (κ × β)}
def lksK (rs : List Rv) (ρ : Env) (Q : Rv → Env → Prop) : Prop := ∃ r ks ch, rs = [r] ∧ look ρ r = some (.n true (.dic ks) ch) ∧ Q (.t (.n true .lst (ks.map keyE))) ρ
end
end DL
/-! DL74: x[i].m(e, ..), the inner list being x's own (the slot is hidden while the arguments run); a + b of lists that are used up. -/
namespace DL
open PySem L2
open Enc (en)
theorem RvsOk.out {K : PySem.W.Frag} {σ : St} {G H : Hp} {D' : Addr → Prop} : ∀ {rs : List Rv} {P : Addr → Prop} {vs : List V} {F : List Addr}, RvsOk K σ G H P vs rs F → (∀ a ∈ F, ¬ D' a) → RvsOk K σ G H (fun a => P a ∨ D' a) vs rs F
  | [], _, _, _, .nil, _ => .nil
  | r :: rs, P, _, _, .cons (F := F0) (F' := F1) h t, hd => by
    refine .cons ?_ ?_
    · cases r with
      | t d => exact ⟨h.1, fun a ha z => z.elim (h.2 a ha) (hd a (List.mem_append_left _ ha))⟩
      | s i => exact h
    · have := RvsOk.out (D' := D') t fun a ha => hd a (List.mem_append_right _ ha)
      have e : (fun a => (P a ∨ a ∈ F0) ∨ D' a) = fun a => (P a ∨ D' a) ∨ a ∈ F0 := by
        funext a
        exact propext ⟨fun z => z.elim (fun z => z.elim (fun z => .inl (.inl z)) .inr) fun z => .inl (.inr z), fun z => z.elim (fun z => z.elim (fun z => .inl (.inl z)) .inr) fun z => .inl (.inr z)⟩
      rw [e] at this
      exact this
section
variable {X : Cx} {cn : String → Addr} {E : WX}
/-- x[i].m(e, ..): x in slot n an own list of own lists; ix: the index -/
def dMutP (n : Nat) (ix : Env → Option Int) (r : OpM) (tA : DA) : DE := fun ρ Q E => ∃ rc a m ch0, ρ[n]? = some (.v (.n true .lst rc)) ∧ ix ρ = some a ∧ ixN rc.length a = some m ∧ rc[m]? = some (.n true .lst ch0) ∧
  tA ((killB n ρ).set n .un) (fun rs ρ1 => ∃ ρ1', stV ρ1 n (.n true .lst rc) = some ρ1' ∧ ∃ es ρ2 s root rc' k ch, tkL ρ1' rs = some (es, ρ2) ∧ ρ2[n]? = some s ∧ s.d? = some root ∧ root = .n true .lst rc' ∧ root.at [m] = some (.n true k ch) ∧
    r k ch es fun k' ch' res => Q (.t res) ((killB n ρ2).set n (s.re (root.put [m] (.n true k' ch'))))) (fun _ _ => False)
def ixC (c : Int) : Env → Option Int := fun _ => some c
def ixS (i : Nat) : Env → Option Int := fun ρ => match slD ρ i with
  | some (.p (.int a)) => some a
  | _ => none
/-! ### a + b of own lists that are used up -/
def dAddM (ta tb : DE) : DE := fun ρ Q E => ta ρ (fun x ρ1 => tb ρ1 (fun y ρ2 => ∃ xs ys, x = .t (.n true .lst xs) ∧ y = .t (.n true .lst ys) ∧ xs.length + ys.length ≤ 100000 ∧ Q (.t (.n true .lst (xs ++ ys))) ρ2) E) E
end
/-! ### running -/
section
variable {ρ ρ1 ρ2 ρ3 : Env} {Q : Rv → Env → Prop} {E : Exn → Env → Prop} {n : Nat} {ix : Env → Option Int} {r : OpM} {tA : DA} {xs : List Rv} {ta tb : DE} {x y : Rv}
/-- behind the arguments -/
def mpK (n m : Nat) (r : OpM) (d : D) (rs : List Rv) (ρ1 : Env) (Q : Rv → Env → Prop) : Prop := ∃ ρ1', stV ρ1 n d = some ρ1' ∧ ∃ es ρ2 s root rc' k ch, tkL ρ1' rs = some (es, ρ2) ∧ ρ2[n]? = some s ∧ s.d? = some root ∧ root = .n true .lst rc' ∧ root.at [m] = some (.n true k ch) ∧
    r k ch es fun k' ch' res => Q (.t res) ((killB n ρ2).set n (s.re (root.put [m] (.n true k' ch'))))
def adK (x y : Rv) (ρ : Env) (Q : Rv → Env → Prop) : Prop := ∃ xs ys, x = .t (.n true .lst xs) ∧ y = .t (.n true .lst ys) ∧ xs.length + ys.length ≤ 100000 ∧ Q (.t (.n true .lst (xs ++ ys))) ρ
end
end DL
/-! DL75: x[i:j] = ys, ys a new list. -/
namespace L2
open PySem PySem.Spec PyProof.Rows
/-- a target that is a part of a list -/
def gSlc (to : TE) (tl th : TO) (r : Int → Int → V → V → Hp → (Hp → Prop) → Prop) : TG := fun v σ H N => to σ H fun x H1 => tl σ H1 fun l H2 => th σ H2 fun u H3 => ∃ i j, l = some i ∧ u = some j ∧ r i j x v H3 (N σ)
def rSlc (i j : Int) (x v : V) (H : Hp) (Q : Hp → Prop) : Prop := ∃ a b xs ys, x = .ref a ∧ v = .ref b ∧ H a = some (.lst xs) ∧ H b = some (.lst ys) ∧ a ≠ b ∧ 0 ≤ i ∧ i ≤ j ∧ j ≤ xs.length ∧ xs.length + ys.length ≤ sizeLine ∧ Q (upd H a (.lst (xs.take i.toNat ++ ys ++ xs.drop j.toNat)))
end L2
namespace DL
open PySem L2
open Enc (en)
def mSlc (i j : Int) : OpM := fun k ch es Q => ∃ ds, k = .lst ∧ es = [.n true .lst ds] ∧ 0 ≤ i ∧ i ≤ j ∧ j ≤ ch.length ∧ ch.length + ds.length ≤ 100000 ∧ Q .lst (ch.take i.toNat ++ ds ++ ch.drop j.toNat) .non
theorem RpL.split {K : PySem.W.Frag} {G H : Hp} : ∀ {vs : List V} {ds : List D} {F : List Addr} (i j : Nat), i ≤ j → RpL K G H vs ds F → ∃ F1 F2, RpL K G H (vs.take i) (ds.take i) F1 ∧ RpL K G H (vs.drop j) (ds.drop j) F2 ∧ (∀ a ∈ F1, a ∈ F) ∧ (∀ a ∈ F2, a ∈ F) ∧ ∀ a ∈ F1, a ∉ F2
  | _, ds, F, 0, j, _, h => by
    obtain ⟨F2, r2, s2⟩ := h.drop j
    exact ⟨[], F2, .nil, r2, (fun a z => by cases z), s2, (fun a z => by cases z)⟩
  | _, [], _, i + 1, j, _, h => by
    cases h
    exact ⟨[], [], by simp only [List.take_nil]; exact .nil, by simp only [List.drop_nil]; exact .nil, (fun a z => by cases z), (fun a z => by cases z), (fun a z => by cases z)⟩
  | _, d :: ds, _, i + 1, 0, hij, h => by omega
  | _, d :: ds, _, i + 1, j + 1, hij, h => by
    cases h with
    | @cons v vs _ _ Fa Fb h1 h2 h3 =>
      obtain ⟨F1, F2, r1, r2, s1, s2, dd⟩ := RpL.split i j (by omega) h2
      refine ⟨Fa ++ F1, F2, ?_, r2, fun a z => ?_, fun a z => List.mem_append_right _ (s2 a z), fun a z => ?_⟩
      · rw [List.take_succ_cons, List.take_succ_cons]
        exact .cons h1 r1 fun a z y => h3 a z (s1 a y)
      · rcases List.mem_append.mp z with z | z
        · exact List.mem_append_left _ z
        · exact List.mem_append_right _ (s1 a z)
      · rcases List.mem_append.mp z with z | z
        · exact fun y => h3 a z (s2 a y)
        · exact dd a z
def dPutS (n : Nat) (te : DE) (tl th : DO) : DS := fun D ρ => te ρ (fun x ρ1 => (∃ s d, ρ1[n]? = some s ∧ s.d? = some d) ∧ tl ρ1 (fun l ρ2 => th ρ2 (fun h ρ3 => ∃ i j, l = some i ∧ h = some j ∧ ∃ es ρ4 s k ch, tkL ρ3 [x] = some (es, ρ4) ∧ ρ4[n]? = some s ∧ s.d? = some (.n true k ch) ∧
  mSlc i j k ch es fun k' ch' _ => D.nx ((killB n ρ4).set n (s.re (.n true k' ch')))) D.ex) D.ex) D.ex
section
variable {X : Cx} {cn : String → Addr} {E : WX}
end
section
variable {ρ ρ1 ρ2 ρ3 : Env} {nx : Env → Prop} {rt : D → Env → Prop} {bk ct : Env → Prop} {ex : Exn → Env → Prop} {n : Nat} {te : DE} {tl th : DO} {x : Rv}
def psK (n : Nat) (tl th : DO) (x : Rv) (ρ1 : Env) (nx : Env → Prop) (ex : Exn → Env → Prop) : Prop := (∃ s d, ρ1[n]? = some s ∧ s.d? = some d) ∧ tl ρ1 (fun l ρ2 => th ρ2 (fun h ρ3 => ∃ i j, l = some i ∧ h = some j ∧ ∃ es ρ4 s k ch, tkL ρ3 [x] = some (es, ρ4) ∧ ρ4[n]? = some s ∧ s.d? = some (.n true k ch) ∧
  mSlc i j k ch es fun k' ch' _ => nx ((killB n ρ4).set n (s.re (.n true k' ch')))) ex) ex
def psK2 (n : Nat) (x : Rv) (l u : Option Int) (ρ3 : Env) (nx : Env → Prop) : Prop := ∃ i j, l = some i ∧ u = some j ∧ ∃ es ρ4 s k ch, tkL ρ3 [x] = some (es, ρ4) ∧ ρ4[n]? = some s ∧ s.d? = some (.n true k ch) ∧
  mSlc i j k ch es fun k' ch' _ => nx ((killB n ρ4).set n (s.re (.n true k' ch')))
end
end DL
/-! DL76: try .. except C as e: a suite that asks what class e is of (errors without fields). -/
namespace DL
open PySem L2
open Enc (en)
/-- behind the suite slot i is forgotten -/
def enH (i : Nat) (n : Env → Prop) (ρ : Env) : Prop := ∃ ρ4, (killB i ρ).set i .un = ρ4 ∧ clr ρ4 [i] = true ∧ n ρ4
/-- try: tb except some class as n (slot i): ts -/
def dTryH (ns : List (String × Bool)) (i : Nat) (tb : DS) (ts : Addr → String → DS) : DS := fun D ρ => tb { D with ex := fun x ρ' => match ns.lookup x.name with
  | some true => x.f = none ∧ ∀ a : Addr, ∃ ρ2, stV ((killB i ρ').set i .un) i (.p (.ref a)) = some ρ2 ∧ ts a x.name { nx := fun ρ3 => enH i D.nx ρ3, rt := fun _ _ => False } ρ2
  | some false => D.ex x ρ'
  | none => False } ρ
/-- nothing leaves -/
def noX : WX := fun _ _ _ _ => False
section
variable {X : Cx} {cn : String → Addr} {E : WX}
end
/-- isinstance of the error that a suite holds -/
def rIsH (a : Addr) (c : V) (b : Bool) : List V → Hp → VK → Prop := fun xs H Q => xs = [.ref a, c] ∧ Q (.bl b) H
/-- isinstance(n, a class), n the error that the suite holds -/
def dIsH (tbl : List (String × Bool)) (i : Nat) (a : Addr) (nm : String) : DE := fun ρ Q _ => ∃ b, ρ[i]? = some (.v (.p (.ref a))) ∧ tbl.lookup nm = some b ∧ Q (.t (.p (.bl b))) ρ
section
variable {X : Cx} {cn : String → Addr} {E : WX} {tbl : List (String × Bool)} {c : V} {cv : Value}
end
section
variable {n : Env → Prop} {rt : D → Env → Prop} {bk ct : Env → Prop} {ex : Exn → Env → Prop} {ρ ρ1 : Env} {Q : Rv → Env → Prop} {E : Exn → Env → Prop} {tb : DS} {i : Nat} {ts : Addr → String → DS}
def tyH (ns : List (String × Bool)) (i : Nat) (ts : Addr → String → DS) (n : Env → Prop) (ex : Exn → Env → Prop) (x : Exn) (ρ : Env) : Prop := match ns.lookup x.name with
  | some true => x.f = none ∧ ∀ a : Addr, ∃ ρ2, stV ((killB i ρ).set i .un) i (.p (.ref a)) = some ρ2 ∧ ts a x.name ⟨fun ρ3 => enH i n ρ3, fun _ _ => False, fun _ => False, fun _ => False, fun _ _ => False⟩ ρ2
  | some false => ex x ρ
  | none => False
end
end DL
/-! DL77: x[i].m(e, ..), the inner list being x's own; the arguments may read x. -/
namespace DL
open PySem L2
open Enc (en)
section
variable {X : Cx} {cn : String → Addr} {E : WX}
/-- x[i].m(e, ..): x in slot n an own list of own lists; ix: the index; the part is held by a slot more while the arguments run -/
def dMutG (n : Nat) (ix : Env → Option Int) (r : OpM) (tA : DA) : DE := fun ρ Q E => ∃ s0 rc a m ch0, ρ[n]? = some s0 ∧ s0.d? = some (.n true .lst rc) ∧ ix ρ = some a ∧ ixN rc.length a = some m ∧ rc[m]? = some (.n true .lst ch0) ∧
  tA (ρ ++ [.b n [m]]) (fun rs ρ2 => ρ2[ρ.length]? = some (.b n [m]) ∧ ∃ es ρ3 s root rc' k ch, tkL ρ2 rs = some (es, ρ3) ∧ ρ3[n]? = some s ∧ s.d? = some root ∧ root = .n true .lst rc' ∧ root.at [m] = some (.n true k ch) ∧
    r k ch es fun k' ch' res => ∃ ρ4 s4, (killB n ρ3).set n (s.re (root.put [m] (.n true k' ch'))) = ρ4 ++ [s4] ∧ bOk ρ4.length ρ4 = true ∧ Q (.t res) ρ4) (fun _ _ => False)
/-- behind it the slot more is gone -/
def gQ (Q0 : Rv → Env → Prop) : Rv → Env → Prop
  | .t d, ρ' => ∃ ρ4 s4, ρ' = ρ4 ++ [s4] ∧ bOk ρ4.length ρ4 = true ∧ Q0 (.t d) ρ4
  | .s _, _ => False
end
/-! ### running -/
section
variable {ρ ρ1 ρ2 ρ3 ρ4 : Env} {Q : Rv → Env → Prop} {E : Exn → Env → Prop} {n : Nat} {ix : Env → Option Int} {r : OpM} {tA : DA} {xs : List Rv}
/-- behind the arguments -/
def mgK (n m L : Nat) (r : OpM) (rs : List Rv) (ρ2 : Env) (Q : Rv → Env → Prop) : Prop := ρ2[L]? = some (.b n [m]) ∧ ∃ es ρ3 s root rc' k ch, tkL ρ2 rs = some (es, ρ3) ∧ ρ3[n]? = some s ∧ s.d? = some root ∧ root = .n true .lst rc' ∧ root.at [m] = some (.n true k ch) ∧
    r k ch es fun k' ch' res => ∃ ρ4 s4, (killB n ρ3).set n (s.re (root.put [m] (.n true k' ch'))) = ρ4 ++ [s4] ∧ bOk ρ4.length ρ4 = true ∧ Q (.t res) ρ4
end
end DL
/-! DL78: try .. except C as e: .. except D as e: ..; the error is tracked while a suite runs, so that the suite may ask of its class and fields. -/
namespace DL
open PySem L2
section
variable {X : Cx} {pins : List (Addr × Obj)} {σ : St} {H : Hp} {s : Shared} {a : Addr}
end
/-- what handlers wish of an error of the body -/
def wTr (K : PySem.W.Frag) (Wout : WX) (D : Ends) : List (Value × Nat × (Addr → Value → Option Addr → TS)) → WX
  | [] => Wout
  | (c, i, ts) :: r => fun cls d σ H => ∃ b, PySem.W.exmOne K cls c = some b ∧ (b = true → ∀ a, H a = none → ts a cls d { nx := fun σ' H' => D.nx (σ'.set i none) H', rt := D.rt, bk := fun σ' H' => D.bk (σ'.set i none) H', ct := fun σ' H' => D.ct (σ'.set i none) H' } (σ.set i (some (.ref a))) (upd H a (exK cls d a))) ∧
      (b = false → wTr K Wout D r cls d σ H)
inductive HdsT (X : Cx) : List ExceptHandler → List (Value × Nat × (Addr → Value → Option Addr → TS)) → Prop
  | nil : HdsT X [] []
  | cons {x n : Str} {c : Value} {i : Nat} {ts : Addr → Value → Option Addr → TS} {b₀ : Stmt} {suite : List Stmt} {np pos' : Pos} {hds : List ExceptHandler} {l : List (Value × Nat × (Addr → Value → Option Addr → TS))} (hc : Names X x c) (hi : X.N[i]? = some n) (hln : X.env.kindOf n = some .local)
      (hsu : ∀ (a : Addr) (cls : Value) (d : Option Addr) (pn : List (Addr × Obj)), PSs (X.suite a pn) (b₀ :: suite) (ts a cls d)) (r : HdsT X hds l) :
      HdsT X (.ExceptHandler (some (.Name x np)) (some n) (b₀ :: suite) pos' :: hds) ((c, i, ts) :: l)
section
variable {X : Cx} {body : List Stmt} {h₀ : ExceptHandler} {hds : List ExceptHandler} {l : List (Value × Nat × (Addr → Value → Option Addr → TS))} {pos : Pos} {tb : WX → TS} {Wout : WX}
end
/-- which handler takes an error -/
def exT (D : DEnds) : List (List (String × Bool) × Nat × DS) → Exn → Env → Prop
  | [] => D.ex
  | (ns, i, ts) :: r => fun x ρ => match ns.lookup x.name with
    | some true => ∃ ρ2, stV ((killB i ρ).set i .un) i (excD x) = some ρ2 ∧ ts { nx := fun ρ3 => enH i D.nx ρ3, rt := fun _ _ => False } ρ2
    | some false => exT D r x ρ
    | none => False
/-- try: tb except some classes as a slot: .. -/
def dTryT (hs : List (List (String × Bool) × Nat × DS)) (tb : DS) : DS := fun D ρ => tb { D with ex := exT D hs } ρ
inductive HdsJ (X : Cx) (cn : String → Addr) : List ExceptHandler → List (List (String × Bool) × Nat × DS) → Prop
  | nil : HdsJ X cn [] []
  | cons {x n : Str} {c : Value} {i : Nat} {ns : List (String × Bool)} {ts : DS} {b₀ : Stmt} {suite : List Stmt} {np pos' : Pos} {hds : List ExceptHandler} {l : List (List (String × Bool) × Nat × DS)} (hc : Names X x c) (hi : X.N[i]? = some n) (hln : X.env.kindOf n = some .local)
      (hm : ∀ p ∈ ns, PySem.W.exmOne X.K (.ref (cn p.1)) c = some p.2 ∧ PySem.W.nsIn X.K mainGlobals p.1 = some (some (.ref (cn p.1))))
      (hsu : ∀ (a : Addr) (pn : List (Addr × Obj)), JSs (X.suite a pn) cn noX (b₀ :: suite) ts) (r : HdsJ X cn hds l) :
      HdsJ X cn (.ExceptHandler (some (.Name x np)) (some n) (b₀ :: suite) pos' :: hds) ((ns, i, ts) :: l)
section
variable {X : Cx} {cn : String → Addr} {E : WX}
theorem HdsJ.go {hh : List ExceptHandler} {hs : List (List (String × Bool) × Nat × DS)} (hj : HdsJ X cn hh hs) : ∃ l, HdsT X hh l ∧ ∀ (pv : Nat → V) (γ : St) (G H : Hp) (fp : Fps) (D0 : DEnds) (D : Ends), PoS X.K cn pv γ X.N.length G H fp D0 D E →
    ∀ (y : Exn) (ρ' : Env) (cls : Value) (dx : Option Addr) (σ' : St) (G' H' : Hp) (fp' : Fps), Stp G H (InF fp) G' H' (InF fp') → Mt X.K pv (σ' ++ γ) ρ' G' H' fp' → σ'.length = X.N.length → ExOk X.K cn G' H' y cls dx → exT D0 hs y ρ' → wTr X.K E D l cls dx σ' H' := by
   induction hj with
   | nil => exact ⟨[], .nil, fun pv γ G H fp D0 D po y ρ' cls dx σ' G' H' fp' s' m' l' ex q' => po.ex y ρ' cls dx σ' G' H' fp' q' s' m' l' ex⟩
   | @cons x n c i ns ts b₀ suite np pos' hds' l hc hi hln hm hsu r ih =>
     have hi' : i < X.N.length := (List.getElem?_eq_some_iff.mp hi).1
     obtain ⟨l0, ih1, ih2⟩ := ih
     refine ⟨(c, i, fun _ _ _ => liftS X.K cn noX ts) :: l0, .cons hc hi hln (fun a _ _ pn => hsu a pn) ih1, fun pv γ G H fp D0 D po y ρ' cls dx σ' G' H' fp' s' m' l' ex => ?_⟩
     rw [exT]
     dsimp only
     split
     · rename_i e
       rintro ⟨ρ2, e2, q'⟩
       obtain ⟨k1, k2⟩ := hm _ (look_mem e)
       refine ⟨true, by rw [ex.1]; exact k1, fun _ a na => ?_, fun z => by cases z⟩
       have sn : Stp G' H' (fun _ => False) (L2.upd G' a (exK cls dx a)) (L2.upd H' a (exK cls dx a)) (fun _ => False) := Stp.newG na m'.sub
       have m1 := (m'.step sn (m'.sub.updG na)).forget i
       have gn : ∀ b o, G' b = some o → L2.upd G' a (exK cls dx a) b = some o := sn.g
       have rr : Rp X.K (L2.upd G' a (exK cls dx a)) (L2.upd H' a (exK cls dx a)) (.ref a) (excD y) [] := by
         obtain ⟨c1, c2⟩ := ex
         obtain ⟨yn, yf⟩ := y
         subst c1
         cases yf with
         | none =>
           simp only at c2
           subst c2
           exact Rp.f ⟨cn yn, none, k2, upd_same, rfl, rfl⟩ .nil
         | some p =>
           obtain ⟨f, d⟩ := p
           simp only at c2
           obtain ⟨dd, v, rfl, g1, g2⟩ := c2
           refine Rp.f (vs := [v]) ⟨cn yn, some dd, k2, upd_same, rfl, gn _ _ g1⟩ ?_
           exact RpL.one (g2.mov sn.g _ fun b hb => by cases hb)
       have m2 := m1.put e2 rr fun b hb => by cases hb
       have hlt : i < σ'.length := by omega
       rw [show (σ' ++ γ).set i (some (.ref a)) = σ'.set i (some (.ref a)) ++ γ from List.set_append_left _ _ hlt] at m2
       refine ⟨pv, γ, ρ2, _, updF fp' i [], _, m2, q', ?_⟩
       have su : ∀ b, InF (updF fp' i []) b → InF fp' b := fun b z => by
         rcases InF.updF z with y | y
         · exact y
         · cases y
       refine ⟨fun ρ3 σ3 G3 H3 fp3 ⟨ρ4, e4, ec, q3⟩ s3 m3 l3 => ?_, fun _ _ _ _ _ z => z.elim, fun _ _ _ _ _ z => z.elim, fun _ _ _ _ _ _ _ _ z => z.elim, fun _ _ _ _ _ _ _ _ z => z.elim⟩
       rw [List.length_set] at l3
       have m4 := m3.forget i
       rw [e4] at m4
       have m5 := m4.cong (σ' := σ3.set i none ++ γ) ec (by simp) fun k hk => by
         have hk' : i ≠ k := fun z => hk (by simp [z])
         by_cases hkl : k < σ3.length
         · rw [List.getElem?_append_left (by rw [List.length_set]; exact hkl), List.getElem?_set_ne hk', List.getElem?_append_left hkl]
         · rw [List.getElem?_append_right (by rw [List.length_set]; omega), List.length_set, List.getElem?_append_right (by omega)]
       have s4 : Stp G' H' (InF fp') G3 H3 (InF fp3) := (sn.mono (Q := InF fp') (Q' := InF fp') (fun _ z => z.elim) fun b z => .inr z).trans (s3.mono (Q := InF fp') (Q' := InF fp3) (fun b z => su b z) fun b z => .inl z)
       exact po.nx ρ4 _ _ _ _ q3 (s'.trans s4) m5 (by rw [List.length_set, l3]; exact l')
     · rename_i e
       intro q'
       refine ⟨false, ?_, fun z => (by cases z), fun _ => ih2 pv γ G H fp D0 D po y ρ' cls dx σ' G' H' fp' s' m' l' ex q'⟩
       rw [ex.1]; exact (hm _ (look_mem e)).1
     · intro q'; exact q'.elim
end
/-! ### running -/
section
variable {n : Env → Prop} {rt : D → Env → Prop} {bk ct : Env → Prop} {ex : Exn → Env → Prop} {ρ ρ1 ρ2 : Env} {tb ts : DS} {i : Nat} {hs : List (List (String × Bool) × Nat × DS)}
def tyT (n : Env → Prop) (ex : Exn → Env → Prop) : List (List (String × Bool) × Nat × DS) → Exn → Env → Prop
  | [] => ex
  | (ns, i, ts) :: r => fun x ρ => match ns.lookup x.name with
    | some true => ∃ ρ2, stV ((killB i ρ).set i .un) i (excD x) = some ρ2 ∧ ts ⟨fun ρ3 => enH i n ρ3, fun _ _ => False, fun _ => False, fun _ => False, fun _ _ => False⟩ ρ2
    | some false => tyT n ex r x ρ
    | none => False
end
end DL
/-! DL79: an own dict that is read as a shared one for a while. -/
namespace DL
open PySem L2
open Enc (en)
def Kd.ndc : Kd → Bool
  | .dic _ => false
  | _ => true
mutual
/-- no shared dict within -/
def D.ndc : D → Bool
  | .p _ => true
  | .n o k ch => (o || k.ndc) && ndcL ch
def ndcL : List D → Bool
  | [] => true
  | d :: ds => d.ndc && ndcL ds
end
def Sl.ndc : Sl → Bool
  | .v d => d.ndc
  | .w d => d.ndc
  | _ => true
/-- .. in all slots but one -/
def ndcE : Nat → Env → Bool
  | _, [] => true
  | 0, _ :: r => r.all Sl.ndc
  | i + 1, s :: r => s.ndc && ndcE i r
open Classical in
noncomputable def drp (G : Hp) (a : Addr) : Hp := fun b => if b = a then none else G b
theorem drp_ne {G : Hp} {a b : Addr} (h : b ≠ a) : drp G a b = G b := if_neg h
theorem drp_self {G : Hp} {a : Addr} : drp G a a = none := if_pos rfl
section
variable {K : PySem.W.Frag} {G H : Hp} {a : Addr} {kvs : List (Key × V)}
theorem drp_of (ha : G a = some (.dK kvs)) {b : Addr} {u : HO} (e : G b = some u) (h : u ≠ .dK kvs) : drp G a b = some u := by
  rw [drp_ne fun z => by rw [z, ha] at e; cases e; exact h rfl]
  exact e
theorem drp_none {b : Addr} (e : G b = none) : drp G a b = none := by
  by_cases h : b = a
  · subst h; exact drp_self
  · rw [drp_ne h]; exact e
theorem NdF.shut (ha : G a = some (.dK kvs)) {k : Kd} (hk : k.ndc = true) {b : Addr} {vs : List V} (h : NdF K G b k vs) : NdF K (drp G a) b k vs := by
  cases k with
  | lst => exact drp_of ha h fun z => by cases z
  | lok =>
    rcases h with (h | ⟨u, h⟩) | h
    · exact .inl (.inl (drp_of ha h fun z => by cases z))
    · exact .inl (.inr ⟨u, drp_of ha h fun z => by cases z⟩)
    · exact .inr h
  | tup => exact drp_of ha h fun z => by cases z
  | tok =>
    rcases h with ⟨u, h, hd⟩ | h
    · exact .inl ⟨u, drp_of ha h (fun z => by cases z), hd⟩
    · exact .inr h
  | dic ks => cases hk
  | dit ks => exact ⟨h.1, drp_of ha h.2 fun z => by cases z⟩
  | obj c ns =>
    obtain ⟨q1, C, dx, q2, q3⟩ := h
    exact ⟨q1, C, dx, q2, drp_of ha q3 fun z => by cases z⟩
  | exc c ns =>
    obtain ⟨C, od, q1, q2, q3⟩ := h
    refine ⟨C, od, q1, drp_of ha q2 (fun z => by cases z), ?_⟩
    cases od with
    | none => exact q3
    | some dd => exact ⟨q3.1, drp_of ha q3.2 fun z => by cases z⟩
mutual
theorem Rp.shut (ha : G a = some (.dK kvs)) : ∀ {v : V} (d : D) {F : List Addr}, Rp K G H v d F → d.ndc = true → Rp K (drp G a) H v d F
  | _, .p v, _, h, _ => by
    cases h
    exact Rp.p _
  | _, .n ow k ch, _, h, e => by
    simp only [D.ndc, Bool.and_eq_true] at e
    cases h with
    | f h1 h2 => exact Rp.f (h1.shut ha (by simpa using e.1)) (RpL.shut ha ch h2 e.2)
    | o h0 h1 h3 h2 => exact Rp.o (drp_none h0) h1 h3 (RpL.shut ha ch h2 e.2)
theorem RpL.shut (ha : G a = some (.dK kvs)) : ∀ {vs : List V} (ds : List D) {F : List Addr}, RpL K G H vs ds F → ndcL ds = true → RpL K (drp G a) H vs ds F
  | _, [], _, h, _ => by
    cases h
    exact RpL.nil
  | _, d :: ds, _, h, e => by
    simp only [ndcL, Bool.and_eq_true] at e
    cases h with
    | cons h1 h2 h3 => exact RpL.cons (Rp.shut ha d h1 e.1) (RpL.shut ha ds h2 e.2) h3
end
theorem Mt.shut {pv : Nat → V} {σ : St} {ρ : Env} {fp : Fps} (m : Mt K pv σ ρ G H fp) (ha : G a = some (.dK kvs)) (hn : ∀ (j : Nat) (s : Sl), ρ[j]? = some s → s.ndc = true) : Mt K pv σ ρ (drp G a) H fp where
  sub := fun b o e => by
    by_cases h : b = a
    · subst h; rw [drp_self] at e; cases e
    · rw [drp_ne h] at e; exact m.sub b o e
  len := m.len
  sl := fun i d e => by
    obtain ⟨x, h1, h2⟩ := m.sl i d e
    exact ⟨x, h1, h2.shut ha _ (hn i _ e)⟩
  pn := fun i d e => by
    obtain ⟨h1, h2⟩ := m.pn i d e
    exact ⟨h1, h2.shut ha _ (hn i _ e)⟩
  br := m.br
  ap := m.ap
  ft := fun i b hb => ⟨drp_none (m.ft i b hb).1, (m.ft i b hb).2⟩
end
/-- what goes on behind -/
def hdN (i : Nat) (ks : List Key) (ch : List D) (n : Env → Prop) (ρ : Env) : Prop := ρ[i]? = some (.w (.n false (.dic ks) ch)) ∧ ndcE i ρ = true ∧ ∃ ρ2, stV ((killB i ρ).set i .un) i (.n true (.dic ks) ch) = some ρ2 ∧ n ρ2
def dHold (i : Nat) (t : DS) : DS := fun D ρ => ∃ ks ch, ρ[i]? = some (.v (.n true (.dic ks) ch)) ∧ (isFzL ch = true ∧ ndcL ch = true) ∧ t ⟨hdN i ks ch D.nx, fun _ _ => False, fun _ => False, fun _ => False, fun _ _ => False⟩ ((killB i ρ).set i (.w (.n false (.dic ks) ch)))
def dHoldE (i : Nat) (te : DE) : DE := fun ρ Q _ => ∃ ks ch, ρ[i]? = some (.v (.n true (.dic ks) ch)) ∧ (isFzL ch = true ∧ ndcL ch = true) ∧ te ((killB i ρ).set i (.w (.n false (.dic ks) ch))) (fun r ρ' => ∃ d, r = .t d ∧ d.ndc = true ∧ hdN i ks ch (Q (.t d)) ρ') (fun _ _ => False)
section
variable {X : Cx} {cn : String → Addr} {E : WX}
end
/-! ### running -/
mutual
theorem ndc_plain : ∀ d : D, (toPy d).plain = true → d.ndc = true
  | .p _, _ => rfl
  | .n o .lst ch, h => by
    simp only [toPy, PyData.plain] at h
    rw [D.ndc, ndcL_plain ch h]; cases o <;> rfl
  | .n o .lok ch, h => by
    simp only [toPy, PyData.plain] at h
    rw [D.ndc, ndcL_plain ch h]; cases o <;> rfl
  | .n o .tup ch, h => by
    simp only [toPy, PyData.plain] at h
    rw [D.ndc, ndcL_plain ch h]; cases o <;> rfl
  | .n o .tok ch, h => by
    simp only [toPy, PyData.plain] at h
    rw [D.ndc, ndcL_plain ch h]; cases o <;> rfl
  | .n o (.dic ks) ch, h => by simp [toPy, PyData.plain] at h
  | .n o (.dit ks) ch, h => by simp [toPy, PyData.plain] at h
  | .n o (.obj c ns) ch, h => by simp [toPy, PyData.plain] at h
  | .n o (.exc c ns) ch, h => by simp [toPy, PyData.plain] at h
theorem ndcL_plain : ∀ ds : List D, PyData.plainAll (toPyL ds) = true → ndcL ds = true
  | [], _ => rfl
  | d :: ds, h => by
    simp only [toPyL, PyData.plainAll, Bool.and_eq_true] at h
    rw [ndcL, ndc_plain d h.1, ndcL_plain ds h.2]; rfl
end
section
variable {α : Type} [Enc α]
end
section
variable {n : Env → Prop} {rt : D → Env → Prop} {bk ct : Env → Prop} {ex : Exn → Env → Prop} {ρ ρ1 ρ2 : Env} {Q : Rv → Env → Prop} {E : Exn → Env → Prop} {i : Nat} {t : DS} {te : DE} {d : D}
  {κ β : Type} {i1 : Enc κ} {i2 : KeyE κ} {i3 : Enc β} {kv : List (κ × β)}
/-- .. of a dict of plain things -/
def hdE {κ β : Type} [Enc κ] [KeyE κ] [Enc β] (i : Nat) (kv : List (κ × β)) (n : Env → Prop) (ρ : Env) : Prop := hdN i (kv.map fun p => KeyE.key p.1) (kv.map fun p => en p.2) n ρ
def hdQ {κ β : Type} [Enc κ] [KeyE κ] [Enc β] (i : Nat) (kv : List (κ × β)) (Q : Rv → Env → Prop) (r : Rv) (ρ : Env) : Prop := ∃ d, r = .t d ∧ d.ndc = true ∧ hdE i kv (Q (.t d)) ρ
end
end DL
/-! DL80: tuple + tuple, the first one perhaps empty. -/
namespace DL
open PySem L2
open Enc (en)
def qAddA : Op2 := fun d e Q => qAdd d e Q ∨ ∃ o o' ys, d = .n o .tup [] ∧ e = .n o' .tup ys ∧ (isFzL ys = true ∧ ys.length ≤ 100000) ∧ Q (.tup ys)
def rAddA (K : PySem.W.Frag) : R2 := fun x y H Q => rAddD K x y H Q ∨ rCatA K x y H Q
section
variable {α : Type} {inst : Enc α} {o o' : Bool} {xs ys : List α} {k : D → Prop}
end
end DL
/-! DL81: == of dicts, a value of which may be a list with empty dicts among its rows, or an empty dict. -/
namespace DL
open PySem L2
open Enc (en)
def isE : D → Bool
  | .n _ (.dic []) [] => true
  | _ => false
def okS (d : D) : Bool := (toPy d).plain && decide ((toPy d).depth ≤ 60)
def leafS (d e : D) : Bool := (okS d && okS e && eqD d e) || (isE d && isE e)
def leafL : List D → List D → Bool
  | [], [] => true
  | a :: r, b :: s => leafS a b && leafL r s
  | _, _ => false
def rowsS : D → D → Bool
  | .n _ .lst ch, .n _ .lst ch' => leafL ch ch'
  | _, _ => false
def sameS (d e : D) : Bool := leafS d e || rowsS d e
def sameL : List D → List D → Bool
  | [], [] => true
  | a :: r, b :: s => sameS a b && sameL r s
  | _, _ => false
def LeafR (K : PySem.W.Frag) (H : Hp) (x y : V) : Prop := (∃ d e, Dp K H x d ∧ Dp K H y e ∧ (d.plain = true ∧ d.depth ≤ 60) ∧ (e.plain = true ∧ e.depth ≤ 60) ∧ PyData.eqv d e = true) ∨ ∃ c c', x = .ref c ∧ y = .ref c' ∧ Rd H c (.dK []) ∧ Rd H c' (.dK [])
inductive LeafRs (K : PySem.W.Frag) (H : Hp) : List V → List V → Prop
  | nil : LeafRs K H [] []
  | cons {x y : V} {xs ys : List V} : LeafR K H x y → LeafRs K H xs ys → LeafRs K H (x :: xs) (y :: ys)
def SameR (K : PySem.W.Frag) (H : Hp) (x y : V) : Prop := LeafR K H x y ∨ ∃ p p' vs vs', x = .ref p ∧ y = .ref p' ∧ H p = some (.lst vs) ∧ H p' = some (.lst vs') ∧ LeafRs K H vs vs'
def qEqDO : Op2 := fun d e Q => qEqDD d e Q ∨ ∃ o o' ks ch ch', d = .n o (.dic ks) ch ∧ e = .n o' (.dic ks) ch' ∧ ks.Nodup ∧ sameL ch ch' = true ∧ Q (.bl true)
def rEqDO (K : PySem.W.Frag) : R2 := fun x y H Q => rEqDD K x y H Q ∨ ∃ a b ks ls, x = .ref a ∧ y = .ref b ∧ Rd H a (.dK ks) ∧ Rd H b (.dK ls) ∧ ks.length = ls.length ∧
  (∀ p ∈ ks, ∃ y, valV ls p.1 = some y ∧ SameR K H p.2 y) ∧ Q (.bl true) H
section
variable {X : Cx} {pins : List (Addr × Obj)} {σ : St} {H : Hp} {s : Shared}
end
section
variable {K : PySem.W.Frag} {G H : Hp}
end
end DL
/-! DL82: min(x, y) of data that can be compared; of texts. -/
namespace DL
open PySem L2 PyProof.Rows PySem.W
open Enc (en)
section
variable {prog : Program} {w : World} {A : Around} {E : Value → Shared → Prop} {s : Shared}
end
section
variable {X : Cx}
def rMinP (K : PySem.W.Frag) : List V → Hp → VK → Prop := fun vs H Q => ∃ x y d e, vs = [x, y] ∧ Dp K H x d ∧ Dp K H y e ∧ AlikeAll [d, e] ∧ PyData.depthAll [d, e] ≤ 60 ∧ Q (if dataLt e d = true then y else x) H
def qMinP : OpL := fun ds Q => ∃ d e, ds = [d, e] ∧ ((d.isFz = true ∧ e.isFz = true) ∧ ((toPy d).plain = true ∧ (toPy e).plain = true)) ∧ AlikeAll [toPy d, toPy e] ∧ PyData.depthAll [toPy d, toPy e] ≤ 60 ∧ Q (if ltD e d = true then e else d)
end
end DL
/-! DL83: key = tuple(e); keys.append(key); words.append(word if key.count(word) == len(key) else None), e a list of texts, in one. -/
namespace TI
open PySem PySem.SeqAt
open AutoSeq1 (wpAny_loadPart')
open MeetsSeq MeetsSeq2 MeetsSeq3 SeqRoads2
theorem forIn_arr {α β : Type} {M : Model} {A : Around} {E : Value → Shared → Prop} {s : Shared} {xs : Array α} (f : α → β → Sem (ForInStep β)) (I : List α → β → Shared → Prop) (Q : β → Shared → Prop)
    (turn : ∀ x rest b s, I (x :: rest) b s → wpAny M A (f x b) (fun r s' => match r with | .yield b' => I rest b' s' | .done b' => Q b' s') E s)
    (fin : ∀ b s, I [] b s → Q b s) (b : β) (h : I xs.toList b s) : wpAny M A (forIn xs b f) Q E s := by
  rw [← Array.forIn_toList]
  exact wpAny_forIn_list f I Q turn fin _ b h
theorem tuple_countAt (l : Addr) (items : Array Value) (n : Nat) (dd : Option Addr) (sl : Array (Option Value)) (x : Value) (e : Value → Bool) :
    Meets (Builtin.«tuple.count» ⟨[.ref l, x], []⟩)
      (fun A R s => s.heap.get? l = some { cls := .type "tuple", dict := dd, data := .seq items n, slots := sl } ∧ (∀ y, y ∈ items → EqAt A.in1 s y x (e y)) ∧ R (.ok (.ret (.int (items.toList.countP e : Nat) s.toks))) { s with toks := s.toks + 1 }) :=
  .of_wp fun prog w A R s h => by
    obtain ⟨hp, g, d, tk, os⟩ := s; obtain ⟨hl, he, h⟩ := h
    wp_walk using wpAny_loadPart' hl, forIn_arr _ (fun rest b s' => s' = ⟨hp, g, d, tk, os⟩ ∧ (∀ y ∈ rest, y ∈ items) ∧ b + rest.countP e = items.toList.countP e) _
    case turn =>
      rintro y rest b s' ⟨rfl, hm, hb⟩
      refine wpAny_bind (he y (hm y (List.mem_cons_self ..)) prog w _ _ ?_)
      rw [List.countP_cons] at hb
      cases c : e y with
      | true =>
        rw [c] at hb
        wp_walk
        exact ⟨rfl, fun z hz => hm z (List.mem_cons_of_mem _ hz), by rw [if_pos rfl] at hb; omega⟩
      | false =>
        rw [c] at hb
        wp_walk
        exact ⟨rfl, fun z hz => hm z (List.mem_cons_of_mem _ hz), by rw [if_neg (by decide)] at hb; omega⟩
    case fin =>
      rintro b s' ⟨rfl, -, hb⟩
      have hb : b = items.toList.countP e := by simpa using hb
      subst hb
      wp_walk
      exact ⟨_, rfl, h⟩
    exact ⟨rfl, fun y hy => by simpa using hy, by omega⟩
end TI
namespace DL
open PySem L2
open Enc (en)
section
open PySem.Spec PyProof.Rows
variable {X : Cx} {cn : String → Addr} {E : WX} {apos cpos : Pos}
def rTCnt (K : PySem.W.Frag) : V → List V → Hp → VK → Prop := fun x xs H Q => ∃ (p : Addr) (vs : List V) (y : V) (ds : List PyData) (d : PyData), x = .ref p ∧ xs = [y] ∧ SqT K H p vs ∧ DpAll K H vs ds ∧ Dp K H y d ∧ (PyData.plainAll ds = true ∧ d.plain = true) ∧ d.depth ≤ 60 ∧ Q (.int ((ds.countP fun z => PyData.eqv z d) : Nat)) H
theorem mt_tcountP (hu : X.A.units + 65 < cLine) : MtR X "tuple.count" (rTCnt X.K) := by
  intro pins s σ H x xs v us Q I rx rxs h
  obtain ⟨p, vs, y, ds, d, rfl, rfl, hs, hd, hy, ⟨hp1, hp2⟩, hdep, q⟩ := h
  cases rx
  obtain ⟨u, rfl, ru⟩ := rxs.one
  obtain ⟨its, rv, pl, hz⟩ := I.tuple hs
  obtain ⟨⟨cls, dd, dt, sl⟩, ho, hc, n, hdt⟩ := pl
  simp only at hc hdt
  subst hc
  subst hdt
  obtain ⟨as, ra⟩ := Dp.readsAll I ds vs its hd rv
  obtain ⟨bs, rb⟩ := Dp.reads I d y u hy ru
  refine call_meets PySem.F.slot_tuple_count ⟨_, ho, rfl⟩ PySem.F.entry_tuple_count (PySem.F.args_tuple_count_2 _ _)
    (TI.tuple_countAt p its.toArray n dd sl u fun z => PyData.eqv (PySem.SeqAt.readOf s.heap z) d) ⟨ho, fun y hy => PySem.SeqAt.items_plain (vs := its.toArray) (by simpa using ra) rb hp1 hp2 (by omega) y hy, ?_⟩
  have ec : its.countP (fun z => PyData.eqv (PySem.SeqAt.readOf s.heap z) d) = ds.countP fun z => PyData.eqv z d := by
    rw [← PySem.SeqAt.readsAll_map_plain ds _ _ hp1 ra, List.countP_map]
    rfl
  refine ⟨.int ((ds.countP fun z => PyData.eqv z d) : Nat), H, I.tok _, ⟨s.toks, ?_⟩, q⟩
  show Value.int ((its.countP _ : Nat) : Int) s.toks = _
  rw [ec]
/-- a tuple that is known to the object, without a dict -/
def KnT0 (H : Hp) (a : Addr) (vs : List V) : Prop := ∃ o, H a = some (.frz o (.tup vs)) ∧ o.dict = none
def tTM (r : V → List V → Hp → VK → Prop) (to : TE) (t : TA) : TE := fun σ H Q => to σ H fun x H1 => (∃ a vs, x = .ref a ∧ KnT0 H1 a vs) ∧ t σ H1 fun xs H2 => r x xs H2 Q
theorem pe_tm {o e : Expr} {es : List Expr} {to : TE} {t : TA} {name : Str} {id : String} {r : V → List V → Hp → VK → Prop} (slot : Slot "tuple" name id) (hty : typeOf (.builtin id) = pure (.type "method_descriptor")) (hm : MtR X id r) (ho : PE X o to) (ha : PA X (e :: es) t)
    (hbase : attributeBase o name X.env (eval o X.env) = eval o X.env := by rfl)
    (hfew : ((backTo cpos (starEach (e :: es) X.env)).all (fun x => !x.1) && (backToKw cpos (keywordEach [] X.env)).all (fun x => x.1.isSome)
      && decide ((e :: es).length + ([] : List Keyword).length + (if ([] : List Keyword).isEmpty then 0 else 1) < 30)) = true := by rfl)
    (hline : (apos.endLine == cpos.line) = true := by rfl) (hs : starEach (e :: es) X.env = (false, eval e X.env) :: starEach es X.env := by rfl) (hplain : (backTo cpos (starEach es X.env)).any (·.1) = false := by rfl) :
    PE X (.Call (.Attribute o name apos) (e :: es) [] cpos) (tTM r to t) := by
  refine ⟨fun pins s σ H Q I h => ?_⟩
  refine wpAny_Call_method_late hbase hfew hline rfl (thn (ho.run pins s σ H _ I h) fun v s1 ⟨x, H1, I1, r1, ⟨a, vs, ex, ob, hx, hd⟩, q1⟩ => ?_)
  subst ex
  obtain rfl : v = Value.ref a := r1
  obtain ⟨e1, _, its, _, pl⟩ := I1.hok a _ hx
  obtain ⟨o', e1', c, n, hdt⟩ := pl
  rw [e1] at e1'
  cases e1'
  refine ⟨"tuple", id, PySem.F.plainAttrs_tuple, slot, hty, ⟨ob, e1, c⟩, fun b eb => (by cases eb; exact ⟨ob, e1, hd⟩), ?_⟩
  have hA := ha.run cpos pins s1 σ H1 _ I1 q1
  rw [hs] at hA ⊢
  refine Calls.callWith_builtin (by show (false || (backTo cpos (starEach es X.env)).any (·.1)) = false; rw [hplain] <;> rfl) (Calls.evalArgs_plain ?_)
  exact thn hA fun us s2 ⟨vs', H2, I2, r2, q2⟩ => hm pins s2 σ H2 (.ref a) vs' (.ref a) us Q I2 rfl r2 q2
/-- tuple(x) of a list: a new one, known to the object -/
def tTupX (K : PySem.W.Frag) (H0 : Hp) (ta : TE) : TE := fun σ H Q => ta σ H fun x H1 => ∃ p xs, x = .ref p ∧ SqL K H1 p xs ∧ ∀ q o, H1 q = none → (∀ o' u', H0 q ≠ some (.frz o' u')) → o.dict = none → Q (.ref q) (upd H1 q (.frz o (.tup xs)))
theorem pe_tupX {a : Expr} {ta : TE} {p pos : Pos} (hg : Gl X "tuple") (hm : X.mg "tuple" = none) (ha : PE X a ta) (na : starEach [a] X.env = (false, eval a X.env) :: starEach [] X.env := by rfl) :
    PE X (.Call (.Name "tuple" p) [a] [] pos) (tTupX X.K X.H_0 ta) := by
  refine ⟨fun pins s σ H Q I h => ?_⟩
  refine Call_ (ld_blt I hg hm boot_tuple (PyProof.Rows.callWith_type1 (one_arg ha I h (fun v s2 x H2 I2 r q => ?_) na) na))
  obtain ⟨p, xs, rfl, hs, q⟩ := q
  obtain rfl : v = .ref p := r
  obtain ⟨its, rv, pl, hz⟩ := I2.list hs
  refine call_tuple_list pl.isList (fun h' hk => ?_) (by rw [List.size_toArray, ← rv.length]; exact hz)
  have I1 : Inv X pins σ H2 { s2 with heap := h' } := I2.kept (t' := s2.toks) hk
  have fr := I1.hok.fresh (Nat.le_refl _)
  have I3 : Inv X pins σ (upd H2 h'.objs.size (.frz { cls := .type "tuple", data := .seq its.toArray } (.tup xs))) { s2 with heap := h'.push { cls := .type "tuple", data := .seq its.toArray } } :=
    I1.laid (t' := s2.toks) (fun b o e => Heap.get?_push_of_some _ e) (Nat.le_refl _) (show ObjOk X.prog X.w _ _ _ (.frz _ (.tup xs)) from ⟨Heap.get?_push_size _ rfl, hz, its, rv, IsTup.new _ _⟩)
  refine ⟨.ref h'.objs.size, _, I3, rfl, q _ _ fr (fun o' u' e => ?_) rfl⟩
  have := I1.base.frzs _ o' u' e
  rw [fr] at this
  cases this
end
/-! ### the three statements -/
section
open PySem.Spec PyProof.Rows
variable {X : Cx} {cn : String → Addr} {E : WX} {apos cpos : Pos}
def tCnt3 (K : PySem.W.Frag) (i l w : Nat) : TS := tDrop (tBM K "list" rAppend (tVar l) (tCons (tIf (tTest (tOp (rEqP K) (tTM (rTCnt K) (tVar i) (tCons (tVar w) tNil)) (tCB (rLenD K) (tCons (tVar i) tNil)))) (tVar w) (tC .non)) tNil))
def cntV (xs : List Str) (y : Str) : V := if xs.count y = xs.length then .str y else .non
def dTC (i j l w : Nat) (te : DE) : DS := fun Dn ρ => te ρ (fun r ρ1 => ∃ d xs y ρ2, look ρ1 r = some d ∧ listOf d = some (xs.map (en : Str → D)) ∧ xs.length ≤ 4000 ∧ stV ρ1 i (.n false .tup (xs.map en)) = some ρ2 ∧ ρ2[w]? = some (.v (en (y : Str))) ∧
  dMut "list" j mAppend (dCons (dVar i) dNil) ρ2 (fun _ ρ3 => dMut "list" l mAppend (dCons (dC (cntV xs y)) dNil) ρ3 (fun _ ρ4 => Dn.nx ρ4) Dn.ex) Dn.ex) Dn.ex
theorem dp_strs {K : PySem.W.Frag} {H : Hp} : ∀ xs : List Str, DpAll K H (xs.map V.str) (xs.map PyData.str)
  | [] => .nil
  | x :: xs => .cons (.str x) (dp_strs xs)
theorem plain_strs : ∀ xs : List Str, PyData.plainAll (xs.map PyData.str) = true
  | [] => rfl
  | x :: xs => by rw [List.map_cons, PyData.plainAll, plain_strs xs]; rfl
theorem count_strs (y : Str) : ∀ xs : List Str, ((xs.map PyData.str).countP fun z => PyData.eqv z (.str y)) = xs.count y
  | [] => rfl
  | x :: xs => by
    rw [List.map_cons, List.countP_cons, List.count_cons, count_strs y xs]
    rfl
theorem upd_comm3 {H : Hp} {a b : Addr} {o o' : HO} (h : a ≠ b) : upd (upd H a o) b o' = upd (upd H b o') a o := by
  funext x
  by_cases h1 : x = a
  · subst h1
    rw [upd_ne h, upd_same, upd_same]
  · by_cases h2 : x = b
    · subst h2
      rw [upd_same, upd_ne h1, upd_same]
    · rw [upd_ne h2, upd_ne h1, upd_ne h1, upd_ne h2]
theorem upd_twice {H : Hp} {a : Addr} {o o' : HO} : upd (upd H a o) a o' = upd H a o' := by
  funext x
  by_cases h1 : x = a
  · subst h1; rw [upd_same, upd_same]
  · rw [upd_ne h1, upd_ne h1, upd_ne h1]
/-- with the new tuple known to the object, what the two appends and the count do -/
theorem tc_real {K : PySem.W.Frag} {H1 : Hp} {T : Addr} {o : Obj} {σ2 : L2.St} {xs : List Str} {y : Str} {i j l w : Nat} {xj : V} {N : L2.St → Hp → Prop} {D' : Ends}
    (hT : H1 T = none) (hd : o.dict = none) (hi : σ2[i]? = some (some (.ref T))) (hj : σ2[j]? = some (some xj)) (hw : σ2[w]? = some (some (.str y)))
    (A : rAppend xj [.ref T] (upd H1 T (.tup (xs.map V.str))) fun _ H4 => ∃ xl, σ2[l]? = some (some xl) ∧ rAppend xl [cntV xs y] H4 fun _ H5 => N σ2 H5)
    (hD : ∀ H', (∃ o u, H' T = some (.frz o u) ∧ N σ2 (upd H' T u)) → D'.nx σ2 H') :
    tSeq (tDrop (tBM K "list" rAppend (tVar j) (tCons (tVar i) tNil))) (tCnt3 K i l w) D' σ2 (upd H1 T (.frz o (.tup (xs.map V.str)))) := by
  obtain ⟨Lj, ys, y1, rfl, e1, h1, h2, _, hl, Ll, zs, y2, rfl, e2, h3, h4, hN⟩ := A
  cases e1
  cases e2
  have nj : Lj ≠ T := fun z => by rw [z, upd_same] at h1; cases h1
  rw [upd_ne nj] at h1
  have nl : Ll ≠ T := fun z => by
    rw [z, upd_ne (Ne.symm nj), upd_same] at h3
    cases h3
  have r1 : (upd H1 T (.frz o (.tup (xs.map V.str)))) Lj = some (.lst ys) := by rw [upd_ne nj]; exact h1
  refine ⟨_, hj, .inl ⟨rfl, ys, .inl (.inl r1)⟩, _, hi, Lj, ys, .ref T, rfl, rfl, r1, h2, ?_⟩
  have r2 : (upd (upd H1 T (.frz o (.tup (xs.map V.str)))) Lj (.lst (ys ++ [.ref T]))) T = some (.frz o (.tup (xs.map V.str))) := by rw [upd_ne (Ne.symm nj), upd_same]
  have r3 : (upd (upd H1 T (.frz o (.tup (xs.map V.str)))) Lj (.lst (ys ++ [.ref T]))) Ll = some (.lst zs) := by
    by_cases q : Ll = Lj
    · subst q
      rw [upd_same] at h3 ⊢
      exact h3
    · rw [upd_ne q, upd_ne nl] at h3 ⊢
      exact h3
  have r4 : upd (upd (upd H1 T (.tup (xs.map V.str))) Lj (.lst (ys ++ [.ref T]))) Ll (.lst (zs ++ [cntV xs y])) = upd (upd (upd (upd H1 T (.frz o (.tup (xs.map V.str)))) Lj (.lst (ys ++ [.ref T]))) Ll (.lst (zs ++ [cntV xs y]))) T (.tup (xs.map V.str)) := by
    rw [upd_comm3 nl, upd_comm3 nj, upd_twice]
  generalize hH : upd (upd H1 T (.frz o (.tup (xs.map V.str)))) Lj (.lst (ys ++ [.ref T])) = H3 at r2 r3 r4
  have sq : SqT K H3 T (xs.map V.str) := .inl (.inr ⟨o, r2⟩)
  show tCnt3 K i l w D' σ2 H3
  refine ⟨_, hl, .inl ⟨rfl, zs, .inl (.inl r3)⟩, ?_⟩
  show tIf _ _ _ σ2 H3 _
  refine ⟨.ref T, hi, ⟨T, _, rfl, o, r2, hd⟩, .str y, hw, T, xs.map V.str, .str y, xs.map PyData.str, .str y, rfl, rfl, sq, dp_strs xs, .str y, ⟨plain_strs xs, rfl⟩, (by show (0 : Nat) ≤ 60; decide), .ref T, hi, .inl ⟨.ref T, xs.length, rfl, .inr ⟨_, sq, by rw [List.length_map]⟩, ?_⟩⟩
  refine ⟨.int _, .int _, .int _, .int _, ⟨rfl, (by show (0 : Nat) ≤ 64; decide)⟩, ⟨rfl, (by show (0 : Nat) ≤ 64; decide)⟩, ?_⟩
  refine ⟨_, rfl, ?_⟩
  have key : ∀ v : V, v = cntV xs y → rAppend (.ref Ll) [v] H3 fun _ H5 => D'.nx σ2 H5 := fun v e => by
    subst e
    refine ⟨Ll, zs, _, rfl, rfl, r3, h4, hD _ ⟨o, _, by rw [upd_ne (Ne.symm nl)]; exact r2, ?_⟩⟩
    rw [← r4]
    exact hN
  rw [count_strs]
  show if PyData.eqv (.int ((xs.count y : Nat) : Int)) (.int ((xs.length : Nat) : Int)) = true then _ else _
  have e3 : PyData.eqv (.int ((xs.count y : Nat) : Int)) (.int ((xs.length : Nat) : Int)) = decide (xs.count y = xs.length) := by
    show (((xs.count y : Nat) : Int) == ((xs.length : Nat) : Int)) = _
    rw [Bool.eq_iff_iff, beq_iff_eq, decide_eq_true_iff]
    omega
  rw [e3]
  by_cases c : xs.count y = xs.length
  · rw [if_pos (decide_eq_true c)]
    exact ⟨.str y, hw, key _ (by unfold cntV; rw [if_pos c])⟩
  · rw [if_neg (by rw [decide_eq_false c]; decide)]
    exact key _ (by unfold cntV; rw [if_neg c])
theorem jss_tc {st1 st2 st3 : Stmt} {te : DE} {i j l w : Nat} (hi : i < X.N.length) (hj : j < X.N.length) (hl : l < X.N.length) (hw : w < X.N.length)
    (h1 : PS X st1 (tAsg (tTupX X.K X.H_0 (liftE X.K cn E te)) (gName i)))
    (h2 : PS X st2 (tDrop (tBM X.K "list" rAppend (tVar j) (tCons (tVar i) tNil))))
    (h3 : PS X st3 (tCnt3 X.K i l w)) : JSs X cn E [st1, st2, st3] (dTC i j l w te) := by
  refine ⟨fun pins sh σ H Dn I ⟨pv, γ, ρ, G, fp, D0, m, q, po⟩ => ?_⟩
  have hlen : X.N.length = σ.length := I.len.symm
  refine thn ((pss_cons h1 (pss_cons h2 (pss_one h3))).run pins sh σ H ⟨fun σ' H' => ∃ T o u, H' T = some (.frz o u) ∧ (∀ o' u', X.H_0 T ≠ some (.frz o' u')) ∧ Dn.nx σ' (upd H' T u), Dn.rt, Dn.bk, Dn.ct⟩ I ?_) fun f s1 hf => ?_
  · refine ⟨pv, γ, ρ, G, fp, _, _, m, q, fun r ρ1 v G1 H1 fp1 F1 q1 s1 m1 o1 => ?_, po.ex⟩
    obtain ⟨d, xs, y, ρ2, l1, e1, hxl, e2, hwy, ⟨sj, dj, ej1, ej2, _, _⟩, ⟨_, qm⟩⟩ := q1
    obtain ⟨F0, rp, _⟩ := look_ok m1 o1 l1
    obtain ⟨a, vs, F', rfl, sq, rl⟩ := rp.listOf m1.sub e1
    have exs : xs.map (en : Str → D) = (xs.map V.str).map D.p := by rw [List.map_map]; rfl
    rw [exs] at rl
    obtain rfl : vs = xs.map V.str := rl.prims
    refine ⟨a, xs.map V.str, rfl, sq, fun T o hT hn hd => ?_⟩
    have m3 := m1.step (Stp.newG (P := fun _ => False) (o := .tup (xs.map V.str)) hT m1.sub) (m1.sub.updG hT)
    have rT : Rp X.K (upd G1 T (.tup (xs.map V.str))) (upd H1 T (.tup (xs.map V.str))) (.ref T) (.n false .tup (xs.map en)) [] := by
      rw [exs]
      exact Rp.f (k := .tup) (show upd G1 T _ T = _ from upd_same) RpL.of_prims
    have m4 := m3.put e2 rT fun b hb => by cases hb
    rw [set_app (by omega)] at m4
    obtain ⟨xj, hxj1, hxj2⟩ := m4.at ej1 ej2
    obtain ⟨xw, hxw1, hxw2⟩ := m4.at hwy rfl
    obtain rfl : xw = .str y := by
      generalize updF fp1 i [] w = Fw at hxw2
      cases hxw2
      rfl
    have ls : (σ.set i (some (.ref T))).length = σ.length := List.length_set
    have his : (σ.set i (some (V.ref T)))[i]? = some (some (.ref T)) := List.getElem?_set_self (by omega)
    have stpA : Stp G H (InF fp) (upd G1 T (.tup (xs.map V.str))) (upd H1 T (.tup (xs.map V.str))) (InF (updF fp1 i [])) :=
      (drop0 s1).trans ((Stp.newG (P := InF fp1) (o := .tup (xs.map V.str)) hT m1.sub).mono (fun _ z => z) fun b z => .inl (by
        rcases InF.updF z with y | y
        · exact y
        · cases y))
    refine tc_real (N := fun σ' H' => Dn.nx σ' H') hT hd his (get_left (by omega) hxj1) (get_left (by omega) hxw1) ?_ fun H' ⟨o', u, e, hN⟩ => ⟨T, o', u, e, hn, hN⟩
    have o4 : RvsOk X.K (σ.set i (some (V.ref T)) ++ γ) (upd G1 T (.tup (xs.map V.str))) (upd H1 T (.tup (xs.map V.str))) (InF (updF fp1 i [])) [.ref T] [.s i] [] :=
      RvsOk.cons (F := []) (F' := []) (show RvOk _ _ _ _ _ _ (.s i) [] from ⟨by rw [List.getElem?_append_left (by omega)]; exact his, rfl⟩) RvsOk.nil
    refine mut_go (rs := [.s i]) (Q0 := fun _ ρ3 => dMut "list" l mAppend (dCons (dC (cntV xs y)) dNil) ρ3 (fun _ ρ4 => D0.nx ρ4) D0.ex) m_append hxj1 (G := upd G1 T (.tup (xs.map V.str))) (H := upd H1 T (.tup (xs.map V.str))) (fp := updF fp1 i []) ?_ (stp0 _ _ _) m4 o4 qm
    rintro r3 ρ3 v3 G4 H4 fp4 F4 ⟨⟨sl, dl, el1, el2, _, _⟩, ql⟩ s4 m5 o5
    obtain ⟨xl, hxl1, hxl2⟩ := m5.at el1 el2
    have o6 : RvsOk X.K (σ.set i (some (V.ref T)) ++ γ) G4 H4 (InF fp4) [cntV xs y] [.t (.p (cntV xs y))] [] :=
      RvsOk.cons (F := []) (F' := []) (show RvOk _ _ _ _ _ _ (.t _) [] from ⟨Rp.p _, fun a z => by cases z⟩) RvsOk.nil
    refine ⟨xl, get_left (by omega) hxl1, mut_go (rs := [.t (.p (cntV xs y))]) (Q0 := fun _ ρ4 => D0.nx ρ4) m_append hxl1 (G := G4) (H := H4) (fp := fp4) ?_ (stp0 _ _ _) m5 o6 ql⟩
    intro r5 ρ5 v5 G5 H5 fp5 F5 hq5 s5 m6 o6
    exact po.nx ρ5 _ G5 H5 fp5 hq5 ((stpA.trans (drop0 s4)).trans (drop0 s5)) m6 ls
  · cases f with
    | next => obtain ⟨σ', H', I2, T, o, u, e, hn, q⟩ := hf; exact ⟨σ', _, I2.unlock e hn, q⟩
    | brk => exact hf
    | cont => exact hf
    | ret v => exact hf
end
end DL
/-! DL84: tuple(x) of a list as a tuple that is known to the object; t.count(y) of such a one. -/
namespace DL
open PySem L2
open Enc (en)
section
open PySem.Spec PyProof.Rows
variable {X : Cx} {cn : String → Addr} {E : WX} {apos cpos : Pos}
def tTMK (K : PySem.W.Frag) (r : V → List V → Hp → VK → Prop) (to : TE) (t : TA) : TE := fun σ H Q => to σ H fun x H1 => (∃ a vs, x = .ref a ∧ KnT K H1 a vs) ∧ t σ H1 fun xs H2 => r x xs H2 Q
theorem pe_tmK {o e : Expr} {es : List Expr} {to : TE} {t : TA} {name : Str} {id : String} {r : V → List V → Hp → VK → Prop} (slot : Slot "tuple" name id) (hty : typeOf (.builtin id) = pure (.type "method_descriptor")) (hm : MtR X id r) (ho : PE X o to) (ha : PA X (e :: es) t)
    (hbase : attributeBase o name X.env (eval o X.env) = eval o X.env := by rfl)
    (hfew : ((backTo cpos (starEach (e :: es) X.env)).all (fun x => !x.1) && (backToKw cpos (keywordEach [] X.env)).all (fun x => x.1.isSome)
      && decide ((e :: es).length + ([] : List Keyword).length + (if ([] : List Keyword).isEmpty then 0 else 1) < 30)) = true := by rfl)
    (hline : (apos.endLine == cpos.line) = true := by rfl) (hs : starEach (e :: es) X.env = (false, eval e X.env) :: starEach es X.env := by rfl) (hplain : (backTo cpos (starEach es X.env)).any (·.1) = false := by rfl) :
    PE X (.Call (.Attribute o name apos) (e :: es) [] cpos) (tTMK X.K r to t) := by
  refine ⟨fun pins s σ H Q I h => ?_⟩
  refine wpAny_Call_method_late hbase hfew hline rfl (thn (ho.run pins s σ H _ I h) fun v s1 ⟨x, H1, I1, r1, ⟨a, vs, ex, hx⟩, q1⟩ => ?_)
  subst ex
  obtain rfl : v = Value.ref a := r1
  have key : ∃ ob, s1.heap.get? a = some ob ∧ ob.cls = .type "tuple" ∧ ob.dict = none := by
    rcases hx with ⟨ob, hx, hd⟩ | ⟨ob, its, n, hk, hc, hd, _⟩
    · obtain ⟨e1, _, its, _, pl⟩ := I1.hok a _ hx
      obtain ⟨o', e1', c, n, hdt⟩ := pl
      rw [e1] at e1'
      cases e1'
      exact ⟨ob, e1, c, hd⟩
    · exact ⟨ob, I1.kIn a ob hk, hc, hd⟩
  obtain ⟨ob, e1, c, hd⟩ := key
  refine ⟨"tuple", id, PySem.F.plainAttrs_tuple, slot, hty, ⟨ob, e1, c⟩, fun b eb => (by cases eb; exact ⟨ob, e1, hd⟩), ?_⟩
  have hA := ha.run cpos pins s1 σ H1 _ I1 q1
  rw [hs] at hA ⊢
  refine Calls.callWith_builtin (by show (false || (backTo cpos (starEach es X.env)).any (·.1)) = false; rw [hplain] <;> rfl) (Calls.evalArgs_plain ?_)
  exact thn hA fun us s2 ⟨vs', H2, I2, r2, q2⟩ => hm pins s2 σ H2 (.ref a) vs' (.ref a) us Q I2 rfl r2 q2
def tokD : D → Bool
  | .n _ .tok _ => true
  | _ => false
def qCountT : Op2 := fun d e Q => ∃ o ch, d = .n o .tok ch ∧ (PyData.plainAll (toPyL ch) = true ∧ (toPy e).plain = true) ∧ (toPy e).depth ≤ 60 ∧ Q (.p (.int (((toPyL ch).countP fun z => PyData.eqv z (toPy e)) : Nat)))
theorem s_countT {K : PySem.W.Frag} : Sem2 K (fun x y H Q => rTCnt K x [y] H Q) qCountT := by
  rintro G H v u d e F1 F2 Q0 Q s r1 r2 ⟨o, ch, rfl, ⟨hp1, hp2⟩, hdep, q⟩ fin
  obtain ⟨a, ws, F', rfl, h1, h2⟩ := r1.tok s
  exact ⟨a, ws, u, _, _, rfl, rfl, h1, RpL.dp s ch h2 hp1, Rp.dp s e r2 hp2, ⟨hp1, hp2⟩, hdep, fin.p s q⟩
theorem Rp.knt {K : PySem.W.Frag} {G H : Hp} {v : V} {d : D} {F : List Addr} (s : Sub G H) (r : Rp K G H v d F) (h : tokD d = true) : ∃ a vs, v = .ref a ∧ KnT K H a vs := by
  cases d with
  | p _ => cases h
  | n o k ch =>
    cases k with
    | tok =>
      cases r with
      | @f a _ vs _ F h1 h2 => exact ⟨a, vs, rfl, h1.mono s⟩
      | @o a _ vs _ F h0 h1 h3 h2 => exact h1.elim
    | _ => cases h
def dCntT (ta tb : DE) : DE := fun ρ Q E => ta ρ (fun x ρ1 => (∃ d, look ρ1 x = some d ∧ tokD d = true) ∧ tb ρ1 (fun y ρ2 => ∃ d e, look ρ2 x = some d ∧ look ρ2 y = some e ∧ qCountT d e fun z => Q (.t z) ρ2) E) E
theorem w_cntT {ta tb : DE} {ρ : DL.Env} {Q : Rv → DL.Env → Prop} {E : Exn → DL.Env → Prop} (h : ta ρ (fun x ρ1 => (∃ d, look ρ1 x = some d ∧ tokD d = true) ∧ tb ρ1 (fun y ρ2 => ∃ d e, look ρ2 x = some d ∧ look ρ2 y = some e ∧ qCountT d e fun z => Q (.t z) ρ2) E) E) : dCntT ta tb ρ Q E := h
theorem je_cntT (hu : X.A.units + 65 < cLine) {o e : Expr} {ta tb : DE} {name : Str} (slot : Slot "tuple" name "tuple.count") (hty : typeOf (.builtin "tuple.count") = pure (.type "method_descriptor"))
    (ho : JE X cn E o ta) (he : JE X cn E e tb)
    (hbase : attributeBase o name X.env (eval o X.env) = eval o X.env := by rfl)
    (hfew : ((backTo cpos (starEach [e] X.env)).all (fun x => !x.1) && (backToKw cpos (keywordEach [] X.env)).all (fun x => x.1.isSome)
      && decide (([e] : List Expr).length + ([] : List Keyword).length + (if ([] : List Keyword).isEmpty then 0 else 1) < 30)) = true := by rfl)
    (hline : (apos.endLine == cpos.line) = true := by rfl) (hs : starEach [e] X.env = (false, eval e X.env) :: starEach [] X.env := by rfl) (hplain : (backTo cpos (starEach [] X.env)).any (·.1) = false := by rfl) :
    JE X cn E (.Call (.Attribute o name apos) [e] [] cpos) (dCntT ta tb) := by
  refine pe_imp (pe_tmK slot hty (mt_tcountP hu) ho (ja_cons he ja_nil hs) hbase hfew hline hs hplain) ?_
  rintro σ H Q ⟨pv, γ, ρ, G, fp, Q0, E0, m, q0, po, px⟩
  refine ⟨pv, γ, ρ, G, fp, _, E0, m, q0, fun x ρ1 v G1 H1 fp1 F1 q1 s1 m1 o1 => ?_, px⟩
  obtain ⟨⟨d, l1, h1⟩, q1⟩ := q1
  obtain ⟨A0, rA0, _⟩ := look_ok m1 o1 l1
  refine ⟨rA0.knt m1.sub h1, ?_⟩
  refine ⟨pv, γ, ρ1, G1, fp1, fun rs ρ2 => match rs with | [y] => ∃ d e, look ρ2 x = some d ∧ look ρ2 y = some e ∧ qCountT d e fun z => Q0 (.t z) ρ2 | _ => False, E0, m1, q1, fun rs ρ2 vs G2 H2 fp2 F2 q2 s2 m2 o2 => ?_, px.on s1⟩
  · obtain ⟨y, rfl⟩ : ∃ y, rs = [y] := by
      match rs, q2 with
      | [y], _ => exact ⟨y, rfl⟩
    obtain ⟨d, e, l1, l2, q2⟩ := q2
    obtain ⟨w, rfl⟩ : ∃ w, vs = [w] := by
      cases o2 with
      | cons a b => cases b; exact ⟨_, rfl⟩
    have o3 : RvOk X.K (σ ++ γ) G2 H2 (InF fp2) w y F2 := by
      cases o2 with
      | cons a b => cases b; rw [List.append_nil]; exact a
    obtain ⟨A, rA, _⟩ := look_ok m2 (o1.frame s2) l1
    obtain ⟨B, rB, _⟩ := look_ok m2 o3 l2
    refine s_countT G2 H2 v w d e A B _ Q m2.sub rA rB q2 fun z w' G3 H3 Fz qz s3 hs3 rz => ?_
    obtain ⟨f1, f2, f3⟩ := fin_new m2 (s1.seq (fun _ z => .inl z) s2 fun _ z => .inl z) (fun a z => .inl z) s3 hs3
    exact po (.t z) ρ2 w' G3 H3 fp2 Fz qz f1 f2 ⟨rz, f3⟩
/-- tuple(x), known to the object -/
def dTupX (te : DE) : DE := fun ρ Q E => te ρ (fun r ρ1 => ∃ d ch, look ρ1 r = some d ∧ listOf d = some ch ∧ isFzL ch = true ∧ Q (.t (.n false .tok ch)) ρ1) E
theorem w_tupX {te : DE} {ρ : DL.Env} {Q : Rv → DL.Env → Prop} {E : Exn → DL.Env → Prop} (h : te ρ (fun r ρ1 => ∃ d ch, look ρ1 r = some d ∧ listOf d = some ch ∧ isFzL ch = true ∧ Q (.t (.n false .tok ch)) ρ1) E) : dTupX te ρ Q E := h
theorem je_tupX {a : Expr} {te : DE} {p pos : Pos} (hg : Gl X "tuple") (hm : X.mg "tuple" = none) (ha : JE X cn E a te) (na : starEach [a] X.env = (false, eval a X.env) :: starEach [] X.env := by rfl) :
    JE X cn E (.Call (.Name "tuple" p) [a] [] pos) (dTupX te) := by
  refine pe_imp (pe_tupX hg hm ha na) ?_
  rintro σ H Q ⟨pv, γ, ρ, G, fp, Q0, E0, m, q0, po, px⟩
  refine ⟨pv, γ, ρ, G, fp, _, E0, m, q0, fun r ρ1 v G1 H1 fp1 F1 q1 s1 m1 o1 => ?_, px⟩
  obtain ⟨d, ch, l1, e1, hz, q1⟩ := q1
  obtain ⟨F0, rp, _⟩ := look_ok m1 o1 l1
  obtain ⟨x, vs, F', rfl, sq, rl⟩ := rp.listOf m1.sub e1
  refine ⟨x, vs, rfl, sq, fun T o hT _ hd => ?_⟩
  have st := Stp.newG (P := fun _ => False) (o := .frz o (.tup vs)) hT m1.sub
  have m3 := m1.step st (m1.sub.updG hT)
  have hG : ∀ b u, G1 b = some u → upd G1 T (.frz o (.tup vs)) b = some u := fun b u e => by
    by_cases hb : b = T
    · subst hb
      have := m1.sub _ _ e
      rw [hT] at this
      cases this
    · rw [upd_ne hb]; exact e
  refine po (.t (.n false .tok ch)) ρ1 (.ref T) (upd G1 T (.frz o (.tup vs))) (upd H1 T (.frz o (.tup vs))) fp1 [] q1 ?_ m3 ⟨Rp.f (k := .tok) (show NdF _ _ T .tok vs from .inl ⟨o, upd_same, hd⟩) ((rl.shared hz).mov0 hG), fun b hb => by cases hb⟩
  exact ((drop0 s1).trans (Stp.newG (P := InF fp1) (o := .frz o (.tup vs)) hT m1.sub)).mono (fun _ z => z) fun b z => .inl (z.elim id fun z => by cases z)
end
end DL
/-! DL85: xs.index(y) of plain data. -/
namespace DL
open PySem L2
open Enc (en)
section
open PySem.Spec PyProof.Rows
variable {X : Cx}
def rIdxP (K : PySem.W.Frag) : V → List V → Hp → VK → Prop := fun x xs H Q => ∃ (p : Addr) (vs : List V) (y : V) (ds : List PyData) (d : PyData) (j : Nat), x = .ref p ∧ xs = [y] ∧ SqL K H p vs ∧ DpAll K H vs ds ∧ Dp K H y d ∧ (PyData.plainAll ds = true ∧ d.plain = true) ∧ d.depth ≤ 60 ∧ (∃ hj : j < ds.length, PyData.eqv ds[j] d = true ∧ ∀ m (hm : m < ds.length), m < j → PyData.eqv ds[m] d = false) ∧ Q (.int (j : Nat)) H
end
def qIndexP : Op2 := fun d e Q => ∃ ch, listOf d = some ch ∧ (PyData.plainAll (toPyL ch) = true ∧ (toPy e).plain = true) ∧ (toPy e).depth ≤ 60 ∧ ∃ (j : Nat) (hj : j < (toPyL ch).length), (PyData.eqv (toPyL ch)[j] (toPy e) = true ∧ ∀ m (hm : m < (toPyL ch).length), m < j → PyData.eqv (toPyL ch)[m] (toPy e) = false) ∧ Q (.p (.int (j : Nat)))
section
variable {α : Type} {inst : Enc α}
end
end DL
namespace Lw
open PySem L2 DL
section
open Enc (en)
local macro_rules | `(tactic| walk_at "ty") => `(tactic| first | exact ⟨_, _, rfl, rfl, rfl, by decide⟩ | exact ⟨_, _, rfl, rfl, rfl, .inr rfl⟩)
local macro_rules | `(tactic| walk_at "t1") => `(tactic| first | exact ⟨_, rfl, rfl, by decide⟩ | exact ⟨_, sl_oo rfl rfl (by assumption), rfl, by decide⟩)
local macro_rules | `(tactic| walk_at "le") => `(tactic| (simp only [fe_nil, fe_un, fe_b, fe_v, fe_w, fr_e, fr_eo, fr_ek]; first | done | exact rfl))
local macro_rules | `(tactic| walk_at "ow") => `(tactic| first | exact rfl | exact own_oo (fun _ => rfl) | exact own_e (fun _ => rfl))
local macro_rules | `(tactic| walk_at "ok") => `(tactic| first | exact ok_of (by decide) | exact ok_eo (by decide) | rfl | decide)
local macro_rules | `(tactic| walk_at "py") => `(tactic| first | exact py_nil | exact py_eo _ | exact py_ek _ | exact rfl)
local macro_rules | `(tactic| walk_at "g0") => `(tactic| first
      | ((with_reducible_and_instances apply w_ixK); (· walk_at "rf"); (· rfl))
      | ((with_reducible_and_instances apply w_fdK); (· walk_at "rf"); (· rfl))
      | ((with_reducible_and_instances apply w_rfK); (· walk_at "rf"))
      | ((with_reducible_and_instances apply w_tyT); (· rfl); (· walk_at "ne"); (· first | exact rfl | exact okV_fs rfl); (· walk_at "ne"); (· rfl))
      | ((with_reducible_and_instances apply w_tyF); (· rfl))
      | ((with_reducible_and_instances apply w_upK); (· first | exact rfl | exact okV_fs rfl); (· walk_at "ne"); (· first | exact rfl | exact okV_fs rfl); (· walk_at "ne"))
      | ((with_reducible_and_instances apply w_repL); (· rfl); (· decide); (· decide))
      | ((with_reducible_and_instances apply w_var); (· walk_at "rf"))
      | ((with_reducible_and_instances apply w_opK); (· walk_at "rf"); (· walk_at "rf"))
      | ((with_reducible_and_instances apply w_nT); (· first | exact rfl | exact okV_fs rfl); (· walk_at "ne"))
      | ((with_reducible_and_instances apply w_nO); (· walk_at "rf"); (· walk_at "nz"); (· walk_at "fr"); (· walk_at "ne"); (· first | exact rfl | exact okV_fs rfl); (· walk_at "ne"))
      | ((with_reducible_and_instances apply w_nS); (· walk_at "rf"); (· walk_at "fz"); (· first | exact rfl | exact okV_fs rfl); (· walk_at "ne")))
local macro_rules | `(tactic| walk_at "g1") => `(tactic| first
      | ((with_reducible_and_instances apply w_cbK); (· walk_at "rf"))
      | ((with_reducible_and_instances apply w_mkK); (· walk_at "tk"); (· walk_at "bd"))
      | (with_reducible_and_instances apply w_itO)
      | (with_reducible_and_instances apply w_itN)
      | ((with_reducible_and_instances apply w_itK'); (· walk_at "rf"))
      | ((with_reducible_and_instances apply w_itS); (· walk_at "rf"); (· walk_at "rf"))
      | ((with_reducible_and_instances apply w_itF); (· walk_at "rf"); (· walk_at "nz"); (· walk_at "fr"); (· walk_at "ne"); (· walk_at "rf"))
      | ((with_reducible_and_instances apply w_itK); (· walk_at "rf"); (· walk_at "rf"))
      | ((with_reducible_and_instances apply w_lcK); (· walk_at "rf"); (· walk_at "ne"))
      | ((with_reducible_and_instances apply w_lcT); (· assumption); (· walk_at "ne"))
      | ((with_reducible_and_instances apply w_lcS); (· walk_at "rf"); (· walk_at "fz"); (· assumption); (· walk_at "ne"))
      | (with_reducible_and_instances apply w_retT)
      | ((with_reducible_and_instances apply w_retS); (· walk_at "rf"); (· walk_at "fz")))
local macro_rules | `(tactic| walk_at "g2") => `(tactic| first
      | ((with_reducible_and_instances apply w_mv); (· walk_at "rf"); (· walk_at "ne"))
      | ((with_reducible_and_instances apply w_unK); (· walk_at "rf"))
      | ((with_reducible_and_instances apply w_blK); (· walk_at "rf"))
      | ((with_reducible_and_instances apply w_chK); (· walk_at "rf"); (· walk_at "rf"))
      | (with_reducible_and_instances apply w_addI)
      | ((with_reducible_and_instances apply w_addS); (· first | omega | assumption))
      | ((with_reducible_and_instances apply w_mod); (· omega))
      | ((with_reducible_and_instances apply w_div); (· omega))
      | (with_reducible_and_instances apply w_eqS)
      | (with_reducible_and_instances apply w_eqI)
      | ((with_reducible_and_instances apply w_eqP); (· walk_at "py"); (· walk_at "py"); (· decide))
      | (with_reducible_and_instances apply w_neS)
      | (with_reducible_and_instances apply w_neI)
      | ((with_reducible_and_instances apply w_neP); (· walk_at "py"); (· walk_at "py"); (· decide)))
local macro_rules | `(tactic| walk_at "g3") => `(tactic| first
      | ((with_reducible_and_instances apply w_inLf); (· walk_at "rf"); (· decide))
      | ((with_reducible_and_instances apply w_inLt); (· walk_at "rf"); (· decide))
      | (with_reducible_and_instances apply w_inTf)
      | (with_reducible_and_instances apply w_inTt)
      | (with_reducible_and_instances apply w_in2f)
      | (with_reducible_and_instances apply w_in2t)
      | (with_reducible_and_instances apply w_inDf)
      | (with_reducible_and_instances apply w_inDt)
      | ((with_reducible_and_instances apply w_caK); (· walk_at "tk"))
      | ((with_reducible_and_instances apply w_baK); (· walk_at "tk"))
      | ((with_reducible_and_instances apply w_kwK); (· walk_at "tk"))
      | ((with_reducible_and_instances apply w_list); (· walk_at "rf"); (· first | exact rfl | exact fzl_e _)))
local macro_rules | `(tactic| walk_at "g4") => `(tactic| first
      | ((with_reducible_and_instances apply w_len); (· walk_at "rf"))
      | ((with_reducible_and_instances apply w_lenS); (· walk_at "bd"))
      | ((with_reducible_and_instances apply w_all); (· walk_at "rf"); (· first | exact bls_e _ | exact rfl | exact bls_m _ _))
      | ((with_reducible_and_instances apply w_any); (· walk_at "rf"); (· first | exact bls_e _ | exact rfl | exact bls_m _ _))
      | ((with_reducible_and_instances apply w_isiT); (· walk_at "rf"); (· walk_at "rf"))
      | ((with_reducible_and_instances apply w_isiF); (· walk_at "rf"); (· walk_at "rf"))
      | ((with_reducible_and_instances apply w_sortI); (· walk_at "rf"); (· first | exact ints_e _ | exact ints_m _ _); (· walk_at "bd"); intro _ _ _)
      | ((with_reducible_and_instances apply w_rg1K); (· walk_at "rf"); (· walk_at "bd"))
      | ((with_reducible_and_instances apply w_rg2K); (· walk_at "rf"); (· walk_at "bd"))
      | ((with_reducible_and_instances apply w_mut); (· exact ⟨_, _, rfl, rfl, rfl, by decide⟩))
      | ((with_reducible_and_instances apply w_appE); (· walk_at "tk"); (· walk_at "rf"); (· walk_at "bd"); (· walk_at "ne"))
      | ((with_reducible_and_instances apply w_appS); (· walk_at "tk"); (· walk_at "rf"); (· walk_at "bd"); (· walk_at "ne"))
      | ((with_reducible_and_instances apply w_appI); (· walk_at "tk"); (· walk_at "rf"); (· walk_at "bd"); (· walk_at "ne"))
      | ((with_reducible_and_instances apply w_appV); (· walk_at "tk"); (· walk_at "rf"); (· walk_at "bd"); (· walk_at "ne"))
      | ((with_reducible_and_instances apply w_mu); (· walk_at "tk"); (· walk_at "rf"); (· walk_at "rf")))
local macro_rules | `(tactic| walk_at "g5") => `(tactic| first
      | ((with_reducible_and_instances apply w_ptK); (· walk_at "rf"))
      | ((with_reducible_and_instances apply w_cutE); (· walk_at "rf"); (· walk_at "rf"))
      | ((with_reducible_and_instances apply w_cutT); (· walk_at "rf"); (· walk_at "bd"))
      | ((with_reducible_and_instances apply w_upper); (· omega))
      | ((with_reducible_and_instances apply w_revT); (· omega))
      | ((with_reducible_and_instances apply w_fzT); (· walk_at "fr"))
      | ((with_reducible_and_instances apply w_strI); (· first | omega | assumption))
      | (with_reducible_and_instances apply w_strS)
      | ((with_reducible_and_instances apply w_trT); (· walk_at "rf"))
      | ((with_reducible_and_instances apply w_trF); (· walk_at "rf"))
      | ((with_reducible_and_instances apply w_augI); (· walk_at "rf"))
      | ((with_reducible_and_instances apply w_agK); (· walk_at "rf"); (· walk_at "rf"); (· walk_at "rf"); (· walk_at "ne")))
local macro_rules | `(tactic| walk_at "g6") => `(tactic| first
      | ((with_reducible_and_instances apply w_mulI); (· first | exact Or.inr (by omega) | exact Or.inl (by omega)))
      | ((with_reducible_and_instances apply w_mulS); (· first | omega | assumption))
      | ((with_reducible_and_instances apply w_pow); (· first | omega | assumption | exact ⟨by omega, by omega, by omega⟩))
      | ((with_reducible_and_instances apply w_isK); (· walk_at "rf"))
      | ((with_reducible_and_instances apply w_m1K); (· walk_at "rf"))
      | ((with_reducible_and_instances apply w_puK); (· exact ⟨_, _, rfl, rfl, rfl, by decide⟩))
      | ((with_reducible_and_instances apply w_wpK); (· walk_at "ne"))
      | ((with_reducible_and_instances apply w_forC); (· walk_at "rf"); (· walk_at "ne"))
      | ((with_reducible_and_instances apply w_muV); (· walk_at "ne"))
      | ((with_reducible_and_instances apply w_muW); (· walk_at "ne"))
      | ((with_reducible_and_instances apply w_mbE); (· assumption); (· walk_at "ne"))
      | ((with_reducible_and_instances apply m_appE); (· walk_at "bd")))
local macro_rules | `(tactic| walk_at "g7") => `(tactic| first
      | ((with_reducible_and_instances apply m_insE); (· walk_at "bd"))
      | ((with_reducible_and_instances apply m_extE); (· walk_at "bd"))
      | ((with_reducible_and_instances apply m_putE); (· walk_at "bd"))
      | ((with_reducible_and_instances apply w_muB); (· walk_at "tk"); (· walk_at "rf"); (· walk_at "rf"); (· assumption))
      | ((with_reducible_and_instances apply w_mutB); (· walk_at "t1"))
      | ((with_reducible_and_instances apply w_isDK); (· walk_at "rf"); (· walk_at "rf"))
      | ((with_reducible_and_instances apply w_g2E); (· walk_at "rf"); (· walk_at "rf"); (· walk_at "rf"); (· first | exact rfl | exact fz_e _))
      | ((with_reducible_and_instances apply w_dpK); (· walk_at "tk"); (· exact ⟨rfl, by decide, by decide +kernel⟩))
      | ((with_reducible_and_instances apply w_gtT); (· walk_at "fr"); (· exact rfl); (· exact rfl))
      | ((with_reducible_and_instances apply w_gtS); (· walk_at "rf"); (· walk_at "fz"); (· exact rfl); (· exact rfl))
      | ((with_reducible_and_instances apply w_gsK); (· walk_at "t1"))
      | ((with_reducible_and_instances apply w_zK); (· walk_at "tk"); (· exact rfl); (· exact rfl)))
local macro_rules | `(tactic| walk_at "g8") => `(tactic| first
      | ((with_reducible_and_instances apply w_ezK); (· walk_at "tk"); (· exact rfl); (· exact rfl))
      | ((with_reducible_and_instances apply w_lr1K); (· walk_at "rf"); (· omega))
      | ((with_reducible_and_instances apply w_lr2K); (· walk_at "rf"); (· walk_at "rf"); (· walk_at "bd"))
      | ((with_reducible_and_instances apply w_enK); (· walk_at "tk"); (· exact rfl))
      | ((with_reducible_and_instances apply w_jlK); (· walk_at "rf"); (· first | omega | assumption))
      | ((with_reducible_and_instances apply w_fmS); (· walk_at "rf"); (· first | omega | assumption))
      | ((with_reducible_and_instances apply w_fmI); (· walk_at "rf"); (· first | omega | assumption))
      | ((with_reducible_and_instances apply w_bmK); (· walk_at "t1"))
      | ((with_reducible_and_instances apply w_lend); (· walk_at "le"))
      | ((with_reducible_and_instances apply w_ldK); (· walk_at "ow"))
      | ((with_reducible_and_instances apply w_fzS); (· walk_at "rf"); (· walk_at "fr"); (· walk_at "ne"))
      | ((with_reducible_and_instances apply w_dp1K); (· walk_at "tk")))
local macro_rules | `(tactic| walk_at "g9") => `(tactic| first
      | ((with_reducible_and_instances apply w_frz); (· walk_at "rf"); (· walk_at "fr"); (· walk_at "ne")))
local macro_rules | `(tactic| walk_at "g10") => `(tactic| first
      | (with_reducible_and_instances apply w_asg)
      | (with_reducible_and_instances apply w_next)
      | (with_reducible_and_instances apply w_drop)
      | (with_reducible_and_instances apply w_ret)
      | (with_reducible_and_instances apply w_retN)
      | (with_reducible_and_instances apply w_ifS)
      | (with_reducible_and_instances apply w_for)
      | (with_reducible_and_instances apply w_break)
      | (with_reducible_and_instances apply w_cont)
      | (with_reducible_and_instances apply w_isX)
      | (with_reducible_and_instances apply w_fld)
      | (with_reducible_and_instances apply w_raiseF)
      | (with_reducible_and_instances apply w_tryK)
      | (with_reducible_and_instances apply w_unp)
      | (with_reducible_and_instances apply w_c)
      | (with_reducible_and_instances apply w_op)
      | (with_reducible_and_instances apply w_nil)
      | (with_reducible_and_instances apply w_cons)
      | (with_reducible_and_instances apply w_cb)
      | (with_reducible_and_instances apply w_lst)
      | (with_reducible_and_instances apply w_tup)
      | (with_reducible_and_instances apply w_iseq)
      | (with_reducible_and_instances apply w_lc))
local macro_rules | `(tactic| walk_at "g11") => `(tactic| first
      | (with_reducible_and_instances apply w_lcX)
      | (with_reducible_and_instances apply w_true)
      | (with_reducible_and_instances apply w_un)
      | (with_reducible_and_instances apply w_tst)
      | (with_reducible_and_instances apply w_and)
      | (with_reducible_and_instances apply w_or)
      | (with_reducible_and_instances apply w_not)
      | (with_reducible_and_instances apply w_andV)
      | (with_reducible_and_instances apply w_orV)
      | (with_reducible_and_instances apply w_notV)
      | (with_reducible_and_instances apply w_ifE)
      | (with_reducible_and_instances apply w_chain)
      | (with_reducible_and_instances apply w_isB)
      | (with_reducible_and_instances apply w_subI)
      | (with_reducible_and_instances apply w_neg)
      | (with_reducible_and_instances apply w_ltI)
      | (with_reducible_and_instances apply w_ltS)
      | (with_reducible_and_instances apply w_leI)
      | (with_reducible_and_instances apply w_leS)
      | (with_reducible_and_instances apply w_gtI)
      | (with_reducible_and_instances apply w_geI)
      | (with_reducible_and_instances apply w_call)
      | (with_reducible_and_instances apply w_callK))
local macro_rules | `(tactic| walk_at "g12") => `(tactic| first
      | (with_reducible_and_instances apply w_rng1)
      | (with_reducible_and_instances apply w_rng2)
      | (with_reducible_and_instances apply w_cut)
      | (with_reducible_and_instances apply w_part)
      | (with_reducible_and_instances apply w_noPart)
      | (with_reducible_and_instances apply w_fz)
      | (with_reducible_and_instances apply w_dK)
      | (with_reducible_and_instances apply w_raise)
      | (with_reducible_and_instances apply w_try)
      | (with_reducible_and_instances apply w_intB)
      | (with_reducible_and_instances apply w_intI)
      | (with_reducible_and_instances apply w_isdigit)
      | (with_reducible_and_instances apply w_isalpha)
      | (with_reducible_and_instances apply w_isNn)
      | (with_reducible_and_instances apply w_isN)
      | (with_reducible_and_instances apply w_notN)
      | (with_reducible_and_instances apply w_istr)
      | (with_reducible_and_instances apply w_m1)
      | (with_reducible_and_instances apply w_put)
      | (with_reducible_and_instances apply w_loopNil)
      | (with_reducible_and_instances apply w_lcNil)
      | (with_reducible_and_instances apply lw_nil)
      | (with_reducible_and_instances apply w_wipe))
local macro_rules | `(tactic| walk_at "g13") => `(tactic| first
      | (with_reducible_and_instances apply w_forW)
      | (with_reducible_and_instances apply m_clrE)
      | (with_reducible_and_instances apply w_newD)
      | (with_reducible_and_instances apply w_get2)
      | (with_reducible_and_instances apply w_disp)
      | (with_reducible_and_instances apply w_dsN)
      | (with_reducible_and_instances apply w_dsC)
      | (with_reducible_and_instances apply w_gnil)
      | (with_reducible_and_instances apply w_gcons)
      | (with_reducible_and_instances apply w_gsub)
      | (with_reducible_and_instances apply w_zip)
      | (with_reducible_and_instances apply w_zipA)
      | (with_reducible_and_instances apply w_ez)
      | (with_reducible_and_instances apply w_lrg1)
      | (with_reducible_and_instances apply w_lrg2)
      | (with_reducible_and_instances apply w_enum)
      | (with_reducible_and_instances apply w_js)
      | (with_reducible_and_instances apply w_jlN)
      | (with_reducible_and_instances apply w_jlC)
      | (with_reducible_and_instances apply w_fmt)
      | (with_reducible_and_instances apply w_bm1)
      | (with_reducible_and_instances apply w_disp1))
local macro_rules | `(tactic| walk_at "d1") => `(tactic| first | (refine St1.go ?_) | (with_reducible_and_instances apply w_seq) | walk_at "d0")
local macro_rules | `(tactic| walk_at "dn") => `(tactic| repeat (first | (refine St1.go ?_) | walk_at "d0"))
local macro_rules | `(tactic| walk_at "st") => `(tactic| ((with_reducible_and_instances apply w_seq); repeat (first | (refine St1.go ?_) | walk_at "d0")))
local macro_rules | `(tactic| walk_at "br") => `(tactic| repeat' (first | (refine St1.go ?_) | (with_reducible_and_instances apply w_seq) | walk_at "d0" | refine w_if (fun _ => ?_) (fun _ => ?_)))
local macro_rules | `(tactic| walk_at "lc") => `(tactic| (refine lc_all ?_ ?_ ?_; (· intro a ha acc k k' hl hk; walk_at "dg"; exact hk); (· walk_at "bd")))
local macro_rules | `(tactic| walk_at "in") => `(tactic| (simp only [initE, finL, fz_e, fz_eo, fz_ek, if_true, if_false, Bool.false_eq_true, List.map_cons, List.map_nil, List.length_cons, List.length_nil, Nat.zero_add, Nat.reduceAdd, Nat.reduceSub, List.replicate_succ, List.replicate_zero, List.cons_append, List.nil_append, Option.some.injEq, exists_eq_left']))
local macro_rules | `(tactic| walk_at "bd") => `(tactic| first | omega | (simp only [List.length_map, List.length_range, List.length_cons, List.length_nil]; omega) | (simp; omega))
local macro_rules | `(tactic| walk_at "tk") => `(tactic| first
  | exact ag_nil | exact ba_nil | exact tl_nil | exact tf_nil
  | ((with_reducible_and_instances apply ag_fS); (· walk_at "rf"); (· walk_at "fz"); (· walk_at "tk")) | ((with_reducible_and_instances apply ag_fT); (· walk_at "fr"); (· walk_at "tk")) | ((with_reducible_and_instances apply ag_tT); walk_at "tk")
  | ((with_reducible_and_instances apply ag_tV); (· walk_at "rf"); (· walk_at "ne"); (· walk_at "tk")) | ((with_reducible_and_instances apply ag_tW); (· walk_at "rf"); (· walk_at "ne"); (· walk_at "tk"))
  | ((with_reducible_and_instances apply ag_fO); (· walk_at "rf"); (· walk_at "nz"); (· walk_at "fr"); (· walk_at "ne"); (· walk_at "tk"))
  | ((with_reducible_and_instances apply ba_f); walk_at "tk") | ((with_reducible_and_instances apply ba_tT); walk_at "tk") | ((with_reducible_and_instances apply ba_tV); (· walk_at "rf"); (· walk_at "rf"); (· walk_at "ne"); (· walk_at "tk")) | ((with_reducible_and_instances apply ba_tW); (· walk_at "rf"); (· walk_at "rf"); (· walk_at "ne"); (· walk_at "tk"))
  | ((with_reducible_and_instances apply tl_S); (· walk_at "rf"); (· walk_at "fz"); (· walk_at "tk")) | ((with_reducible_and_instances apply tl_T); walk_at "tk")
  | ((with_reducible_and_instances apply tl_O); (· walk_at "rf"); (· walk_at "nz"); (· walk_at "fr"); (· walk_at "ne"); (· walk_at "tk"))
  | ((with_reducible_and_instances apply tf_S); (· walk_at "rf"); (· walk_at "fz"); (· walk_at "tk")) | ((with_reducible_and_instances apply tf_T); (· walk_at "fr"); (· walk_at "tk"))
  | ((with_reducible_and_instances apply tf_O); (· walk_at "rf"); (· walk_at "nz"); (· walk_at "fr"); (· walk_at "ne"); (· walk_at "tk")))
local macro_rules | `(tactic| walk_at "ne") => `(tactic| (simp only [kb_nil, kb_un, kb_v, kb_w, kb_b, kb_fs, se0, seS, wi0, wiS]; first | done | exact rfl))
local macro_rules | `(tactic| walk_at "fr") => `(tactic| first | exact fr_e _ | exact fr_eo _ | exact fr_ek _ | assumption | exact rfl | (simp only [D.fz, fzL]; exact rfl))
local macro_rules | `(tactic| walk_at "nz") => `(tactic| first | exact rfl | exact fz_eo _)
local macro_rules | `(tactic| walk_at "fz") => `(tactic| first | exact rfl | exact fz_e _ | exact fz_ek _ | assumption | (simp only [fz_e, D.isFz]; done))
local macro_rules | `(tactic| walk_at "rf") => `(tactic| first | exact rfl | exact sl_oo rfl rfl (by assumption))
local macro_rules | `(tactic| walk_at "d0") => `(tactic| first | (refine Al0.go ?_; walk_at "g0") | (refine Al1.go ?_; walk_at "g1") | (refine Al2.go ?_; walk_at "g2") | (refine Al3.go ?_; walk_at "g3") | (refine Al4.go ?_; walk_at "g4") | (refine Al5.go ?_; walk_at "g5") | (refine Al6.go ?_; walk_at "g6") | (refine Al7.go ?_; walk_at "g7") | (refine Al8.go ?_; walk_at "g8") | (refine Al9.go ?_; walk_at "g9") | (refine Al10.go ?_; walk_at "g10") | (refine Al11.go ?_; walk_at "g11") | (refine Al12.go ?_; walk_at "g12") | (refine Al13.go ?_; walk_at "g13"))
local macro_rules | `(tactic| walk_at "dg") => `(tactic| repeat (first | (refine St1.go ?_) | (with_reducible_and_instances apply w_seq) | walk_at "d0"))
open Enc (en)
def pcB (c : Nat) : Bool := decide (32 ≤ c) && decide (c ≤ 126)
def plB (x : Str) : Bool := x.cps.toList.all pcB
def digB (c : Nat) : Bool := decide (48 ≤ c) && decide (c ≤ 57)
def letB (c : Nat) : Bool := (decide (65 ≤ c) && decide (c ≤ 90)) || (decide (97 ≤ c) && decide (c ≤ 122)) || c == 95
/-- sorts: 0 blank, 1 figure, 2 letter, 3 sign -/
def sortN (c : Nat) : Nat := if c = 32 then 0 else if digB c then 1 else if letB c then 2 else 3
def sortS : Nat → Str
  | 0 => "blank"
  | 1 => "figure"
  | 2 => "letter"
  | _ => "sign"
/-- what belongs to a word that a sign of sort k began -/
def goesB (k : Nat) (c : Nat) : Bool := (k == 2 && (sortN c == 2 || sortN c == 1)) || (k == 1 && sortN c == 1)
theorem drop_lt {p : Nat → Bool} (l : List Nat) : (l.dropWhile p).length ≤ l.length := (List.dropWhile_suffix p).length_le
/-- the words of a text -/
def wordsL : List Nat → List (List Nat)
  | [] => []
  | c :: r => if c = 32 then wordsL r else (c :: r.takeWhile (goesB (sortN c))) :: wordsL (r.dropWhile (goesB (sortN c)))
termination_by l => l.length
decreasing_by
  · simp
  · have := drop_lt (p := goesB (sortN c)) r
    simp
    omega
def wordsF (x : Str) : List Str := (wordsL x.cps.toList).map st
/-- the words, or that there are too many, too long -/
def rowB (ws : List Str) : Bool := decide (ws.length ≤ 30) && ws.all fun w => decide (w.length ≤ 20)
def bad : Exn := ⟨"BadRow", none⟩
/-- a thing that is no text -/
def Oth (d : D) : Prop := (tyKnown (tyN d) = true ∧ (tyN d == "str") = false) ∧ d.isFz = true ∧ okD d = true
def S_is_plain : SpD := fun ds Q _ => ∃ d : D, ds = [d] ∧ ((∃ x : Str, d = en x ∧ x.length ≤ 100000 ∧ Q (en (plB x)) ds) ∨ (Oth d ∧ Q (en false) ds))
def S_sort_of : SpD := fun ds Q _ => ∃ c : Nat, ds = [en (sg c)] ∧ pcB c = true ∧ Q (en (sortS (sortN c))) ds
def S_end_of : SpD := fun ds Q _ => ∃ (x : Str) (a : Nat) (c : Nat) (r : List Nat), ds = [en x, en (a : Int)] ∧ plB x = true ∧ x.length ≤ 100000 ∧ x.cps.toList.drop a = c :: r ∧ Q (en ((a + 1 + (r.takeWhile (goesB (sortN c))).length : Nat) : Int)) ds
def S_parts_of : SpD := fun ds Q _ => ∃ x : Str, ds = [en x] ∧ plB x = true ∧ x.length ≤ 100000 ∧ Q (eo (wordsF x)) ds
/-- a word -/
noncomputable def wordB (x : Str) : Bool := plB x && (decide (x.length ≤ 20) && dc (wordsF x = [x]))
noncomputable def nameB (x : Str) : Bool := wordB x && decide (sortN (x.cps.toList.headD 32) = 2)
def keptL : List Str := ["and", "def", "do", "else", "end", "for", "if", "in", "not", "or", "return", "use", "while"]
noncomputable def freeB (x : Str) : Bool := nameB x && !dc (x ∈ keptL)
def S_is_word : SpD := fun ds Q _ => ∃ d : D, ds = [d] ∧ ((∃ x : Str, d = en x ∧ x.length ≤ 100000 ∧ Q (en (wordB x)) ds) ∨ (Oth d ∧ Q (en false) ds))
def S_is_name : SpD := fun ds Q _ => ∃ d : D, ds = [d] ∧ ((∃ x : Str, d = en x ∧ x.length ≤ 100000 ∧ Q (en (nameB x)) ds) ∨ (Oth d ∧ Q (en false) ds))
def S_is_free : SpD := fun ds Q _ => ∃ d : D, ds = [d] ∧ ((∃ x : Str, d = en x ∧ x.length ≤ 100000 ∧ Q (en (freeB x)) ds) ∨ (Oth d ∧ Q (en false) ds))
def S_law_kept : SpD := fun ds Q _ => ds = [] ∧ Q (eo keptL) ds
/-! k06 .. k16: words, stretches, draws -/
/-- a word or a number -/
inductive It where
  | w (x : Str)
  | h (i : Int)
instance : Enc It := ⟨fun | .w x => .p (.str x) | .h i => .p (.int i), fun x => by cases x <;> rfl, fun x => by cases x <;> rfl, 0, fun x => by cases x <;> simp [toPy, PyData.depth], fun x y => by cases x <;> cases y <;> simp [eqD, toPy, PyData.eqv]⟩
/-- what draws are taken from -/
structure St where
  ns : List Int
  a : Int
  r : Int
  t : Int
  m : Int
def St.d (s : St) : D := .n true (.dic [.inr "cells", .inr "at", .inr "rest", .inr "turn", .inr "more"]) [ek s.ns, en s.a, en s.r, en s.t, en s.m]
def St.ok (s : St) : Prop := s.ns.length ≤ 63 ∧ 0 ≤ s.a ∧ 0 ≤ s.t ∧ 0 ≤ s.m ∧ s.m < 2147483647
theorem fz_st (s : St) : s.d.isFz = false := rfl
def S_law_begun : SpD := fun ds Q _ => ∃ ns : List Int, ds = [ek ns] ∧ ns.length ≤ 63 ∧ ∀ s : St, s.ok → Q s.d ds
def S_law_take : SpD := fun ds Q _ => ∃ (s : St) (m : Int), ds = [s.d, en m] ∧ s.ok ∧ (0 < m ∧ m < 2 ^ 128) ∧ ∀ (k : Nat) (s' : St), s'.ok → (k : Int) < m → Q (en (k : Int)) [s'.d, en m]
def S_law_free : SpD := fun ds Q _ => ∃ x : Str, ds = [en x] ∧ wordB x = true ∧ Q (en (freeB x)) ds
/-- a free name -/
def Fn (x : Str) : Prop := freeB x = true
/-- names that are used: the kept ones first -/
def Used (u : List Str) : Prop := ∃ us, u = keptL ++ us ∧ u.length ≤ 5000 ∧ (∀ x ∈ us, Fn x) ∧ u.Nodup
def S_law_name : SpD := fun ds Q _ => ∃ (s : St) (u : List Str), ds = [s.d, eo u] ∧ s.ok ∧ Used u ∧ u.length ≤ 1000 ∧ ∀ (s' : St) (x : Str), s'.ok → Fn x → x ∉ u → Q (en x) [s'.d, eo (u ++ [x])]
/-- so many names more -/
def More (u : List Str) (n : Nat) (xs u' : List Str) : Prop := xs.length = n ∧ u' = u ++ xs ∧ (∀ x ∈ xs, Fn x) ∧ xs.Nodup ∧ ∀ x ∈ xs, x ∉ u
def S_law_names : SpD := fun ds Q _ => ∃ (s : St) (u : List Str), ds = [s.d, eo u] ∧ s.ok ∧ Used u ∧ u.length ≤ 900 ∧ ∀ (s' : St) (n : Nat) (xs : List Str), s'.ok → 0 < n → n ≤ 8 → More u n xs (u ++ xs) → Q (eo xs) [s'.d, eo (u ++ xs)]
/-- words -/
def Ws (ws : List Str) : Prop := ws.length ≤ 100 ∧ ∀ w ∈ ws, wordB w = true
/-- a stretch -/
def Sx (rows : List (List Str)) : Prop := rows.length ≤ 100 ∧ ∀ r ∈ rows, Ws r
def S_law_word : SpD := fun ds Q _ => ∃ (s : St) (xs : List Str), ds = [s.d, en xs] ∧ s.ok ∧ (0 < xs.length ∧ xs.length ≤ 1000) ∧ (∀ x ∈ xs, Fn x) ∧ ∀ (s' : St) (x : Str), s'.ok → wordB x = true → (freeB x = true → x ∈ xs) → Q (en x) [s'.d, en xs]
def S_law_stretch : SpD := fun ds Q _ => ∃ (s : St) (xs : List Str) (n : Nat), ds = [s.d, en xs, en (n : Int)] ∧ s.ok ∧ (0 < xs.length ∧ xs.length ≤ 1000) ∧ (∀ x ∈ xs, Fn x) ∧ n ≤ 20 ∧ ∀ (s' : St) (rows : List (List Str)), s'.ok → rows.length = n → (∀ r ∈ rows, r.length ≤ 6 ∧ ∀ w ∈ r, wordB w = true ∧ (freeB w = true → w ∈ xs)) → Q (eoo rows) [s'.d, en xs, en (n : Int)]
def copyF (kv : List (Str × Str)) (rows : List (List Str)) : List (List Str) := rows.map fun r => r.map fun w => (aget kv w).getD w
def S_law_copy : SpD := fun ds Q _ => ∃ (rows : List (List Str)) (kv : List (Str × Str)), ds = [en rows, dE false kv] ∧ Sx rows ∧ Q (eoo (copyF kv rows)) ds
/-- a one-to-one way from names -/
def Way (xs : List Str) (kv : List (Str × Str)) : Prop := kv.map (·.1) = xs ∧ (kv.map (·.2)).Nodup ∧ ∀ p ∈ kv, Fn p.2
def S_law_ways : SpD := fun ds Q _ => ∃ (s : St) (xs u : List Str), ds = [s.d, en xs, eo u] ∧ s.ok ∧ Used u ∧ u.length ≤ 900 ∧ xs.length ≤ 500 ∧ xs.Nodup ∧ (∀ x ∈ xs, Fn x ∧ x ∈ u) ∧ ∀ (s' : St) (kv : List (Str × Str)) (us : List Str), s'.ok → Way xs kv → us.length ≤ 3 → Used (u ++ us) → (∀ p ∈ kv, p.2 ∈ u ++ us) → Q (dE true kv) [s'.d, en xs, eo (u ++ us)]
def S_law_spoilt : SpD := fun ds Q _ => ∃ (P : Str → Prop) (s : St) (rows : List (List Str)) (xs : List Str), ds = [s.d, en rows, en xs] ∧ s.ok ∧ ((∀ w, P w → wordB w = true) ∧ ∀ w, wordB w = true → (freeB w = true → w ∈ xs) → P w) ∧ (rows.length ≤ 90 ∧ ∀ r ∈ rows, r.length ≤ 90 ∧ ∀ w ∈ r, P w) ∧ (0 < xs.length ∧ xs.length ≤ 1000) ∧ (∀ x ∈ xs, Fn x) ∧
  ∀ (s' : St) (d : D) (rows' : List (List Str)), s'.ok → d.fz = en rows' → d.isFz = false → rows'.length ≤ rows.length + 1 → (∀ b, (∀ r ∈ rows, r.length ≤ b) → ∀ r ∈ rows', r.length ≤ b + 3) → (∀ r ∈ rows', ∀ w ∈ r, P w) → Q d [s'.d, en rows, en xs]
/-- marks: each name by its first coming -/
noncomputable def wSt (z : List Str × List It) (w : Str) : List Str × List It :=
  let seen := if freeB w = true ∧ w ∉ z.1 then z.1 ++ [w] else z.1
  (seen, z.2 ++ [if freeB w = true then .h (seen.idxOf w) else .w w])
noncomputable def rSt (z : List Str × List (List It)) (r : List Str) : List Str × List (List It) :=
  let y := r.foldl wSt (z.1, [])
  (y.1, z.2 ++ [y.2])
noncomputable def markF (rows : List (List Str)) : List (List It) := (rows.foldl rSt ([], [])).2
def S_mark : SpD := fun ds Q _ => ∃ rows : List (List Str), ds = [en rows] ∧ Sx rows ∧ Q (eoo (markF rows)) ds
def S_law_mark : SpD := fun ds Q _ => ∃ rows : List (List Str), ds = [en rows] ∧ Sx rows ∧ Q (eoo (markF rows)) ds
/-- twins, by looking at each two places -/
def prs (one other : List (List Str)) : List (Str × Str) := (one.zip other).flatMap fun p => p.1.zip p.2
def Tw (one other : List (List Str)) : Prop := one.map List.length = other.map List.length ∧ (∀ p ∈ prs one other, (freeB p.1 = true ∧ freeB p.2 = true) ∨ p.1 = p.2) ∧
  ∀ p ∈ prs one other, ∀ q ∈ prs one other, freeB p.1 = true → freeB p.2 = true → freeB q.1 = true → freeB q.2 = true → (p.1 = q.1 ↔ p.2 = q.2)
def S_law_twins : SpD := fun ds Q _ => ∃ one other : List (List Str), ds = [en one, en other] ∧ Sx one ∧ Sx other ∧ Q (en (dc (Tw one other))) ds
theorem use_take {s : St} {m : Int} {Q : D → List D → Prop} {E : Exn → List D → Prop} (hs : s.ok) (hm : 0 < m ∧ m < 2 ^ 128) (h : ∀ (k : Nat) (s' : St), s'.ok → (k : Int) < m → Q (en (k : Int)) [s'.d, en m]) : S_law_take [s.d, en m] Q E := ⟨s, m, rfl, hs, hm, h⟩
theorem use_free {x : Str} {Q : D → List D → Prop} {E : Exn → List D → Prop} (hx : wordB x = true) (h : Q (en (freeB x)) [en x]) : S_law_free [en x] Q E := ⟨x, rfl, hx, h⟩
theorem use_kept {Q : D → List D → Prop} {E : Exn → List D → Prop} (h : Q (eo keptL) []) : S_law_kept [] Q E := ⟨rfl, h⟩
theorem w_lenM {α : Type} {f : α → D} {xs : List α} {o : Bool} {k : D → Prop} (h : k (.int (xs.length : Nat))) : qLen [.n o .lst (xs.map f)] k := ⟨_, xs.length, rfl, by simp [lenD?], h⟩
theorem w_ixN {α : Type} {inst : Enc α} {d : D} {k : D → Prop} {ys : List α} {m : Nat} (h1 : listOf d = some (ys.map en)) (hl : m < ys.length) (h : ∀ a, a ∈ ys → ys[m]? = some a → k (en a)) : qIxS d (.p (.int (m : Nat))) k := w_ixE h1 (at_nat rfl hl) (h _ (List.getElem_mem hl) (List.getElem?_eq_getElem hl))
theorem w_ixTN {x : Str} {k : D → Prop} {m : Nat} (hl : x.length ≤ 100000) (h0 : m < x.length) (h : ∀ c, x.cps.toList[m]? = some c → k (en (sg c))) : qIxS (.p (.str x)) (.p (.int (m : Nat))) k := by
  have h0 : m < x.cps.toList.length := by rw [str_len]; exact h0
  exact w_ixT hl (at_nat rfl h0) (h _ (List.getElem?_eq_getElem h0))
theorem fr_oo {α : Type} [Enc α] (rows : List (List α)) : (eoo rows).fz = en rows := by
  unfold eoo
  rw [D.fz, fzL_map, List.map_map]
  show D.n false .lst _ = D.n false .lst _
  congr 1
  refine List.map_congr_left fun r _ => ?_
  exact fr_eo r
theorem fr_dE {κ β : Type} [DecidableEq κ] [Enc κ] [KeyE κ] [Enc β] (kv : List (κ × β)) : (dE true kv).fz = dE false kv := by
  have : (kv.map fun p => (en p.2 : D)) = (kv.map (·.2)).map en := by rw [List.map_map]; rfl
  unfold dE
  rw [D.fz, this, fzL_of (fzl_e _)]
theorem w_call0 {s : SpD} {ρ : DL.Env} {Q : Rv → DL.Env → Prop} {E : Exn → DL.Env → Prop} (h : s [] (fun res _ => Q (.t res) ρ) (fun _ _ => False)) : dCall0 s ρ Q E := h
theorem cutS_len (x : Str) (lo hi : Option Int) : (cutS x lo hi).length ≤ x.length := by
  rw [← str_len, ← str_len x]
  unfold cutS
  simp
  omega
theorem app_listS (a b : Str) : (a ++ b).cps.toList = a.cps.toList ++ b.cps.toList := by
  show (a.cps ++ b.cps).toList = _
  simp
theorem app_lenS (a b : Str) : (a ++ b).length = a.length + b.length := by rw [← str_len, app_listS, List.length_append, str_len, str_len]
theorem lg_ok {i : Int} (h : 0 ≤ i ∧ i < 2 ^ 128) : i.natAbs.log2 < 1920 := by
  obtain ⟨n, rfl⟩ := Int.eq_ofNat_of_zero_le h.1
  have hn : n < 2 ^ 128 := by omega
  rw [Int.natAbs_natCast]
  by_cases hz : n = 0
  · subst hz; decide
  · exact (Nat.log2_lt hz).mpr (Nat.lt_of_lt_of_le hn (Nat.pow_le_pow_right (by decide) (by decide)))
theorem w_addN {a b : Str} {k : D → Prop} (h0 : a.length + b.length ≤ 100000) (h : ∀ z : Str, z = a ++ b → z.length = a.length + b.length → k (en z)) : qAdd (.p (.str a)) (.p (.str b)) k := w_addS h0 (h _ rfl (app_lenS a b))
theorem w_cutN {a : Str} {x : Rv} {ρ : DL.Env} {k : D → Prop} {lo hi : Option Int} (h1 : look ρ x = some (.p (.str a))) (hl : a.length ≤ 100000) (h : ∀ z : Str, z = cutS a lo hi → z.length ≤ a.length → k (en z)) : cutK lo hi x ρ k := w_cutT h1 hl (h _ rfl (cutS_len a lo hi))
theorem w_ixTS {x : Str} {k : D → Prop} {m : Nat} (hl : x.length ≤ 100000) (h0 : m < x.length) (h : ∀ (c : Nat) (y : Str), x.cps.toList[m]? = some c → y = sg c → y.length = 1 → k (en y)) : qIxS (.p (.str x)) (.p (.int (m : Nat))) k := w_ixTN hl h0 fun c hc => h c _ hc rfl rfl
theorem w_addLE {α : Type} {inst : Enc α} {o o' : Bool} {xs ys : List α} {k : D → Prop} (h0 : xs.length + ys.length ≤ 100000) (h : k (eo (xs ++ ys))) : qAdd (.n o .lst (xs.map en)) (.n o' .lst (ys.map en)) k := ⟨by rw [fzl_e, fzl_e]; rfl, by rw [List.length_map, List.length_map]; exact h0, by
  unfold eo at h
  rw [List.map_append] at h
  exact h⟩
theorem w_fmN {x : Rv} {ρ : DL.Env} {Q : Rv → DL.Env → Prop} {y : Int} (h1 : look ρ x = some (.p (.int y))) (h2 : 0 ≤ y ∧ y < 2 ^ 128) (h : Q (.t (.p (.str (Str.ofString (toString y))))) ρ) : fmK x ρ Q := w_fmI h1 (lg_ok h2) h
theorem fr_p (v : V) : (D.p v).fz = .p v := by simp only [D.fz]
theorem len_empty : (Str.empty : Str).length = 0 := rfl
theorem len_us : (Str.ofString "_").length = 1 := by decide +kernel
section
variable {n : DL.Env → Prop} {rt : D → DL.Env → Prop} {bk ct : DL.Env → Prop} {ex : Exn → DL.Env → Prop} {g : DG} {tt : DT} {te : DE} {tb : DS} {vs : List Nat} {ρ : DL.Env}
theorem lc_inv2 {α σ : Type} {F : α → D} {K : List D → DL.Env → Prop} (shape : σ → DL.Env) (P : List α → List D → σ → Prop) {items : List α} {acc : List D} (s0 : σ) (e : ρ = shape s0) (h : P items acc s0) (hl : items.length + acc.length ≤ 100000)
    (st : ∀ a rest acc s, P (a :: rest) acc s → acc.length < 100000 → ∀ k : DL.Env → List D → Prop, (∀ s' acc', acc'.length ≤ acc.length + 1 → P rest acc' s' → k (shape s') acc') →
      g (.t (F a)) (shape s) fun ρ1 => tt ρ1 (fun b ρ2 => if b = true then te ρ2 (fun r ρ3 => lcA r ρ3 vs acc k) (fun _ _ => False) else k (wipeD ρ2 vs) acc) (fun _ _ => False))
    (fin : ∀ acc s, P [] acc s → K acc (shape s)) : dLcL g tt te vs K (items.map F) ρ acc := by
  subst e
  exact lc_inv shape P h hl st fin
theorem lw_inv2 {α σ : Type} {F : α → D} {items : List α} (shape : σ → DL.Env) (P : List α → σ → Prop) (s0 : σ) (e : ρ = shape s0) (h0 : P items s0)
    (step : ∀ a rest s, P (a :: rest) s → ∀ k : DL.Env → Prop, (∀ s' ρ', P rest s' → wipeD ρ' vs = shape s' → k ρ') → g (.t (F a)) (shape s) fun ρ1 => tb ⟨k, rt, fun ρ2 => n (wipeD ρ2 vs), k, ex⟩ ρ1)
    (fin : ∀ s, P [] s → n (shape s)) : dLoopW g tb vs ⟨n, rt, bk, ct, ex⟩ (items.map F) ρ := by
  subst e
  exact lw_inv shape P s0 h0 step fin
end
theorem w_strN {i : Int} {k : D → Prop} (h0 : 0 ≤ i ∧ i < 2 ^ 128) (h : ∀ z : Str, z = Str.ofString (toString i) → k (en z)) : qStr1 [.p (.int i)] k := w_strI (lg_ok h0) (h _ rfl)
theorem pad_ok {p : Int} (h : 0 ≤ p ∧ p ≤ 1000) : PadOk p = true := by
  have key : ∀ i : Fin 1001, PadOk (i.val : Int) = true := by decide +kernel
  have := key ⟨p.toNat, by omega⟩
  rwa [show ((p.toNat : Nat) : Int) = p by omega] at this
theorem w_zfillN {a : Str} {p : Int} {k : D → Prop} (h1 : 0 ≤ p ∧ p ≤ 1000) (h : ∀ z : Str, z = Txt.zfill a p → k (en z)) : qZfill (.p (.str a)) (.p (.int p)) k := w_zfill (pad_ok h1) (h _ rfl)
theorem m_popN {α : Type} {inst : Enc α} {xs' : List α} {K : Kd → List D → D → Prop} {l : Nat} (hl : l < xs'.length ∧ xs'.length ≤ 100000) (h : ∀ y, y ∈ xs' → xs'[l]? = some y → K .lst ((xs'.eraseIdx l).map en) (en y)) : mPopAt .lst (xs'.map en) [.p (.int (l : Nat))] K :=
  m_popE rfl (List.getElem?_eq_getElem hl.1) (by omega) (h _ (List.getElem_mem hl.1) (List.getElem?_eq_getElem hl.1))
/-! forms: rows of words and holes -/
abbrev Fo := List (List It)
noncomputable instance : DecidableEq It := fun a b => Classical.propDecidable (a = b)
def holeB : It → Bool
  | .h _ => true
  | .w _ => false
/-- words and holes, the holes numbered as they first come, so many ahead -/
noncomputable def frmB : Int → List It → Bool
  | _, [] => true
  | m, .h i :: r => (decide (0 ≤ i) && decide (i ≤ m)) && frmB (max m (i + 1)) r
  | m, .w x :: r => wordB x && frmB m r
def tabB (f : Fo) : Bool := decide (f.length ≤ 60) && f.all fun r => decide (r.length ≤ 30)
noncomputable def formB (f : Fo) : Bool := tabB f && frmB 0 f.flatten
/-- rows that may be handed in -/
def Fb (f : Fo) : Prop := f.length ≤ 4000 ∧ f.flatten.length ≤ 4000 ∧ ∀ x, It.w x ∈ f.flatten → x.length ≤ 100000
/-- the items that holes become -/
noncomputable def ledF : List It → List It → List It → Option (List It)
  | acc, .h i :: r, o :: s => match acc[i.toNat]? with
    | some y => if y = o then ledF acc r s else none
    | none => ledF (acc ++ [o]) r s
  | acc, .w x :: r, o :: s => if It.w x = o then ledF acc r s else none
  | acc, _, _ => some acc
def shp (f : Fo) : List Int := f.map fun r => (r.length : Int)
noncomputable def ledO (f g : Fo) : Option (List It) := if shp f = shp g then ledF [] f.flatten g.flatten else none
def badForm : Exn := ⟨"BadForm", none⟩
def S_is_hole : SpD := fun ds Q _ => ∃ d, ds = [d] ∧ d.isFz = true ∧ tyKnown (tyN d) = true ∧ Q (en (tyN d == "int")) ds
def S_is_table : SpD := fun ds Q _ => ∃ f : Fo, ds = [en f] ∧ Fb f ∧ Q (en (tabB f)) ds
def S_items_of : SpD := fun ds Q _ => ∃ f : Fo, ds = [en f] ∧ Fb f ∧ Q (eo f.flatten) ds
def S_is_form : SpD := fun ds Q _ => ∃ f : Fo, ds = [en f] ∧ Fb f ∧ Q (en (formB f)) ds
def S_need_form : SpD := fun ds Q E => ∃ f : Fo, ds = [en f] ∧ Fb f ∧ (formB f = true → Q (.p .non) ds) ∧ (formB f = false → E badForm ds)
def S_shape_of : SpD := fun ds Q _ => ∃ f : Fo, ds = [en f] ∧ Fb f ∧ Q (eo (shp f)) ds
def S_led_by : SpD := fun ds Q _ => ∃ xs ys : List It, ds = [en xs, en ys] ∧ (xs.length = ys.length ∧ xs.length ≤ 5000) ∧ frmB 0 xs = true ∧ (ledF [] xs ys = none → Q (.p .non) ds) ∧ ∀ zs, ledF [] xs ys = some zs → Q (eo zs) ds
def S_fillings : SpD := fun ds Q E => ∃ f g : Fo, ds = [en f, en g] ∧ Fb f ∧ Fb g ∧ (formB f = false → E badForm ds) ∧ (formB f = true → (ledO f g = none → Q (.p .non) ds) ∧ ∀ zs, ledO f g = some zs → Q (eo zs) ds)
def S_led : SpD := fun ds Q E => ∃ f g : Fo, ds = [en f, en g] ∧ Fb f ∧ Fb g ∧ (formB f = true ∧ formB g = true ∧ (ledO f g = none → Q (.p .non) ds) ∧ ∀ zs, ledO f g = some zs → Q (eo zs) ds)
theorem use_hole {t : It} {Q : D → List D → Prop} {E : Exn → List D → Prop} (h : Q (en (holeB t)) [en t]) : S_is_hole [en t] Q E := ⟨_, rfl, Enc.fz t, by cases t <;> rfl, by cases t <;> exact h⟩
theorem use_holeH {i : Int} {Q : D → List D → Prop} {E : Exn → List D → Prop} (h : Q (en true) [en (It.h i)]) : S_is_hole [en (It.h i)] Q E := ⟨_, rfl, rfl, rfl, h⟩
theorem use_holeW {x : Str} {Q : D → List D → Prop} {E : Exn → List D → Prop} (h : Q (en false) [en (It.w x)]) : S_is_hole [en (It.w x)] Q E := ⟨_, rfl, rfl, rfl, h⟩
theorem use_items {f : Fo} {Q : D → List D → Prop} {E : Exn → List D → Prop} (hf : Fb f) (h : Q (eo f.flatten) [en f]) : S_items_of [en f] Q E := ⟨f, rfl, hf, h⟩
theorem use_shape {f : Fo} {Q : D → List D → Prop} {E : Exn → List D → Prop} (hf : Fb f) (h : Q (eo (shp f)) [en f]) : S_shape_of [en f] Q E := ⟨f, rfl, hf, h⟩
/-- so many holes, if they come in order -/
def cntF : Nat → List It → Nat
  | m, [] => m
  | m, .h i :: r => cntF (max m (i.toNat + 1)) r
  | m, .w _ :: r => cntF m r
/-- what is put for holes -/
def putI (zs : List It) : It → It
  | .h i => (zs[i.toNat]?).getD (.h i)
  | .w x => .w x
/-! draws of forms -/
structure Sn where
  ns : List Int
  k : Int
  l : Int
  m : Int
def Sn.d (s : Sn) : D := .n true (.dic [.inr "cells", .inr "next", .inr "left", .inr "mixed"]) [en s.ns, en s.k, en s.l, en s.m]
def Sn.ok (s : Sn) : Prop := s.ns.length ≤ 63 ∧ 0 ≤ s.k
theorem fz_sn (s : Sn) : s.d.isFz = false := rfl
def S_law_begin : SpD := fun ds Q _ => ∃ ns : List Int, ds = [ek ns] ∧ ns.length ≤ 63 ∧ ∀ s : Sn, s.ok → Q s.d ds
def S_law_more : SpD := fun ds Q _ => ∃ s : Sn, ds = [s.d] ∧ s.ok ∧ ∀ (v : Int) (s' : Sn), s'.ok → Q (en v) [s'.d]
def S_law_next : SpD := fun ds Q _ => ∃ (s : Sn) (m : Int), ds = [s.d, en m] ∧ s.ok ∧ (0 < m ∧ m < 2 ^ 128) ∧ ∀ (k : Nat) (s' : Sn), s'.ok → (k : Int) < m → Q (en (k : Int)) [s'.d, en m]
def S_law_pick : SpD := fun ds Q _ => ∃ (s : Sn) (d : D), ds = [s.d, d] ∧ s.ok ∧ d.isFz = true ∧
  ((∃ o ch, d = .n o .lst ch ∧ (0 < ch.length ∧ ch.length ≤ 100000) ∧ ∀ (c : D) (s' : Sn), s'.ok → c ∈ ch → Q c [s'.d, d]) ∨
   ∃ x : Str, d = en x ∧ (0 < x.length ∧ x.length ≤ 100000) ∧ ∀ (k c : Nat) (s' : Sn), s'.ok → x.cps.toList[k]? = some c → Q (en (sg c)) [s'.d, d])
def S_law_wordf : SpD := fun ds Q _ => ∃ s : Sn, ds = [s.d] ∧ s.ok ∧ ∀ (s' : Sn) (x : Str), s'.ok → wordB x = true → Q (en x) [s'.d]
def Pool (xs : List Str) : Prop := (0 < xs.length ∧ xs.length ≤ 5) ∧ ∀ x ∈ xs, wordB x = true
def S_law_pool : SpD := fun ds Q _ => ∃ s : Sn, ds = [s.d] ∧ s.ok ∧ ∀ (s' : Sn) (xs : List Str), s'.ok → Pool xs → Q (eo xs) [s'.d]
def nI (sh : List Nat) : List Int := List.map Int.ofNat sh
def Shp (sh : List Nat) : Prop := sh.length ≤ 60 ∧ (∀ n ∈ sh, n ≤ 30) ∧ sh.sum ≤ 1800
def S_law_shape : SpD := fun ds Q _ => ∃ s : Sn, ds = [s.d] ∧ s.ok ∧ ∀ (s' : Sn) (sh : List Nat), s'.ok → Shp sh → Q (eo (nI sh)) [s'.d]
def inR : List It → List Nat → Fo
  | _, [] => []
  | xs, n :: sh => xs.take n :: inR (xs.drop n) sh
def S_law_in_rows : SpD := fun ds Q _ => ∃ (xs : List It) (sh : List Nat), ds = [en xs, en (nI sh)] ∧ xs.length ≤ 5000 ∧ sh.length ≤ 5000 ∧ sh.sum ≤ 5000 ∧ Q (eoo (inR xs sh)) ds
def S_law_items : SpD := fun ds Q _ => ∃ f : Fo, ds = [en f] ∧ Fb f ∧ Q (eo f.flatten) ds
def S_law_shape_of : SpD := fun ds Q _ => ∃ f : Fo, ds = [en f] ∧ Fb f ∧ Q (eo (shp f)) ds
def S_law_hole : SpD := fun ds Q _ => ∃ d, ds = [d] ∧ d.isFz = true ∧ tyKnown (tyN d) = true ∧ Q (en (tyN d == "int")) ds
def S_law_copyf : SpD := fun ds Q _ => ∃ f : Fo, ds = [en f] ∧ Fb f ∧ Q (eoo f) ds
def S_law_many : SpD := fun ds Q _ => ∃ f : Fo, ds = [en f] ∧ Fb f ∧ formB f = true ∧ Q (en (cntF 0 f.flatten : Int)) ds
/-- keys that are words stay, the others are numbered -/
def numF {κ : Type} [DecidableEq κ] : List κ → List (Str ⊕ κ) → List It
  | _, [] => []
  | seen, .inl x :: r => .w x :: numF seen r
  | seen, .inr k :: r => if k ∈ seen then .h (seen.idxOf k : Nat) :: numF seen r else .h (seen.length : Nat) :: numF (seen ++ [k]) r
def kD {κ : Type} [Enc κ] : Str ⊕ κ → D
  | .inl x => en x
  | .inr k => en k
def S_law_numbered : SpD := fun ds Q _ => ∃ (κ : Type) (_ : DecidableEq κ) (_ : Enc κ) (ks : List (Str ⊕ κ)), (Nonempty (KeyE κ) ∨ Nonempty (KeyT κ)) ∧ (∀ k : κ, tyKnown (tyN (en k)) = true ∧ (tyN (en k : D) == "str") = false) ∧ ds = [.n false .lst (ks.map kD)] ∧ ks.length ≤ 5000 ∧ Q (eo (numF [] ks)) ds
/-- a form of a shape -/
def Frm (sh : List Nat) (f : Fo) : Prop := f.map List.length = sh ∧ frmB 0 f.flatten = true
def S_law_form : SpD := fun ds Q _ => ∃ (s : Sn) (sh : List Nat) (xs : List Str), ds = [s.d, en (nI sh), en xs] ∧ s.ok ∧ Shp sh ∧ Pool xs ∧ ∀ (s' : Sn) (f : Fo), s'.ok → Frm sh f → Q (eoo f) [s'.d, en (nI sh), en xs]
def S_law_narrower : SpD := fun ds Q _ => ∃ (s : Sn) (sh : List Nat) (f : Fo) (xs : List Str), ds = [s.d, en f, en xs] ∧ s.ok ∧ Shp sh ∧ Frm sh f ∧ Pool xs ∧ ∀ (s' : Sn) (g : Fo) (zs : List It), s'.ok → Frm sh g → zs.length = cntF 0 f.flatten → g.flatten = f.flatten.map (putI zs) → Q (eoo g) [s'.d, en f, en xs]
theorem use_next {s : Sn} {m : Int} {Q : D → List D → Prop} {E : Exn → List D → Prop} (hs : s.ok) (hm : 0 < m ∧ m < 2 ^ 128) (h : ∀ (k : Nat) (s' : Sn), s'.ok → (k : Int) < m → Q (en (k : Int)) [s'.d, en m]) : S_law_next [s.d, en m] Q E := ⟨s, m, rfl, hs, hm, h⟩
theorem use_pickL {α : Type} {inst : Enc α} {s : Sn} {ys : List α} {Q : D → List D → Prop} {E : Exn → List D → Prop} (hs : s.ok) (hl : 0 < ys.length ∧ ys.length ≤ 100000) (h : ∀ (a : α) (s' : Sn), s'.ok → a ∈ ys → Q (en a) [s'.d, en ys]) : S_law_pick [s.d, en ys] Q E :=
  ⟨s, _, rfl, hs, Enc.fz ys, .inl ⟨false, _, rfl, by rw [List.length_map]; exact hl, fun c s' hs' hc => by
    obtain ⟨a, ha, rfl⟩ := List.mem_map.mp hc
    exact h a s' hs' ha⟩⟩
theorem use_pickS {s : Sn} {x : Str} {Q : D → List D → Prop} {E : Exn → List D → Prop} (hs : s.ok) (hl : 0 < x.length ∧ x.length ≤ 100000) (h : ∀ (k c : Nat) (s' : Sn), s'.ok → x.cps.toList[k]? = some c → Q (en (sg c)) [s'.d, en x]) : S_law_pick [s.d, en x] Q E :=
  ⟨s, _, rfl, hs, Enc.fz x, .inr ⟨x, rfl, hl, h⟩⟩
theorem use_lhole {t : It} {Q : D → List D → Prop} {E : Exn → List D → Prop} (h : Q (en (holeB t)) [en t]) : S_law_hole [en t] Q E := ⟨_, rfl, Enc.fz t, by cases t <;> rfl, by cases t <;> exact h⟩
theorem use_lholeH {i : Int} {Q : D → List D → Prop} {E : Exn → List D → Prop} (h : Q (en true) [en i]) : S_law_hole [en i] Q E := ⟨_, rfl, rfl, rfl, h⟩
theorem use_lholeW {x : Str} {Q : D → List D → Prop} {E : Exn → List D → Prop} (h : Q (en false) [en x]) : S_law_hole [en x] Q E := ⟨_, rfl, rfl, rfl, h⟩
theorem use_lholeI {i : Int} {Q : D → List D → Prop} {E : Exn → List D → Prop} (h : Q (en true) [en (It.h i)]) : S_law_hole [en (It.h i)] Q E := ⟨_, rfl, rfl, rfl, h⟩
theorem use_lholeX {x : Str} {Q : D → List D → Prop} {E : Exn → List D → Prop} (h : Q (en false) [en (It.w x)]) : S_law_hole [en (It.w x)] Q E := ⟨_, rfl, rfl, rfl, h⟩
theorem use_litems {f : Fo} {Q : D → List D → Prop} {E : Exn → List D → Prop} (hf : Fb f) (h : Q (eo f.flatten) [en f]) : S_law_items [en f] Q E := ⟨f, rfl, hf, h⟩
theorem use_lshape {f : Fo} {Q : D → List D → Prop} {E : Exn → List D → Prop} (hf : Fb f) (h : Q (eo (shp f)) [en f]) : S_law_shape_of [en f] Q E := ⟨f, rfl, hf, h⟩
theorem use_wordf {s : Sn} {Q : D → List D → Prop} {E : Exn → List D → Prop} (hs : s.ok) (h : ∀ (s' : Sn) (x : Str), s'.ok → wordB x = true → Q (en x) [s'.d]) : S_law_wordf [s.d] Q E := ⟨s, rfl, hs, h⟩
theorem fz_kD {κ : Type} [Enc κ] : ∀ ks : List (Str ⊕ κ), isFzL (ks.map kD) = true
  | [] => rfl
  | .inl x :: r => by rw [List.map_cons, isFzL, fz_kD r]; rfl
  | .inr x :: r => by rw [List.map_cons, isFzL, fz_kD r, Bool.and_true]; exact Enc.fz x
theorem fr_kD {κ : Type} [Enc κ] (ks : List (Str ⊕ κ)) : (D.n true .lst (ks.map kD)).fz = .n false .lst (ks.map kD) := by rw [D.fz, fzL_of (fz_kD ks)]
/-- a form -/
def Fg (f : Fo) : Prop := Fb f ∧ formB f = true
def S_law_reshaped : SpD := fun ds Q _ => ∃ (w p : Nat) (f : Fo), ds = [en (w : Int), en (p : Int), en f] ∧ Fb f ∧ tabB f = true ∧ ∀ (d : D) (g : Fo), d.fz = en g → g.length ≤ f.length + 1 → tabB g = true → (∀ t ∈ g.flatten, t ∈ f.flatten ∨ t = .w (Str.ofString "x")) → Q d ds
/-! lattice: forms met -/
instance : Enc (Option Str) := ⟨fun | none => .p .non | some x => .p (.str x), fun x => by cases x <;> rfl, fun x => by cases x <;> rfl, 0, fun x => by cases x <;> simp [toPy, PyData.depth], fun x y => by cases x <;> cases y <;> simp [eqD, toPy, PyData.eqv]⟩
instance : Enc (Option Int) := ⟨fun | none => .p .non | some x => .p (.int x), fun x => by cases x <;> rfl, fun x => by cases x <;> rfl, 0, fun x => by cases x <;> simp [toPy, PyData.depth], fun x y => by cases x <;> cases y <;> simp [eqD, toPy, PyData.eqv]⟩
instance instKeyIt : KeyE It := ⟨fun | .w x => .inr x | .h i => .inl i, fun x y h => by cases x <;> cases y <;> first | (injection h with h; rw [h]) | (cases h), fun x => by cases x <;> rfl⟩
/-- things that are bound: a hole of one side, a word -/
abbrev Th := Str × It
noncomputable instance : DecidableEq Th := fun a b => Classical.propDecidable (a = b)
def wS : Str := Str.ofString "word"
def thF (side : Str) : It → Th
  | .h i => (side, .h i)
  | .w x => (wS, .w x)
/-- how long the rows of some forms at a place are -/
def sizF (fs : List Fo) (r : Nat) : List (Option Int) := fs.map fun f => f[r]?.map fun row => (row.length : Int)
/-- the first row at which shapes are unlike -/
noncomputable def unlF (fs : List Fo) : Option Nat := (List.range ((fs.map List.length).foldl max 0)).find? fun r => !dc (∀ x ∈ sizF fs r, x = (sizF fs r).headD none)
def shapeX (r : Nat) : Exn := ⟨"Shape", some ("row", .p (.int (r : Int)))⟩
def S_need_shape : SpD := fun ds Q E => ∃ fs : List Fo, ds = [en fs] ∧ (0 < fs.length ∧ fs.length ≤ 5000) ∧ (∀ f ∈ fs, f.length ≤ 4000) ∧ (unlF fs = none → Q (.p .non) ds) ∧ ∀ r, unlF fs = some r → E (shapeX r) ds
def S_need_both : SpD := fun ds Q E => ∃ f g : Fo, ds = [en f, en g] ∧ (Fb f ∧ formB f = true) ∧ (Fb g ∧ formB g = true) ∧ (unlF [f, g] = none → Q (.p .non) ds) ∧ ∀ r, unlF [f, g] = some r → E (shapeX r) ds
def S_in_rows : SpD := fun ds Q _ => ∃ (xs : List It) (f : Fo), ds = [en xs, en f] ∧ xs.length ≤ 5000 ∧ f.length ≤ 5000 ∧ f.flatten.length ≤ 5000 ∧ Q (eoo (inR xs (f.map List.length))) ds
/-- words as they are, keys where there is none -/
def opK {κ : Type} (p : Option Str × κ) : Str ⊕ κ := match p.1 with
  | some x => .inl x
  | none => .inr p.2
def S_opened : SpD := fun ds Q _ => ∃ (κ : Type) (_ : DecidableEq κ) (_ : Enc κ) (_ : KeyT κ) (ps : List (Option Str × κ)), ds = [en (ps.map (·.1)), en (ps.map (·.2))] ∧ ps.length ≤ 5000 ∧ Q (eo (numF [] (ps.map opK))) ds
def S_thing_of : SpD := fun ds Q _ => ∃ (t : It) (side : Str), ds = [en t, en side] ∧ Q (en (thF side t)) ds
/-- what is bound, to what in the end -/
structure Good (kv : List (Th × Th)) (d : Th → Nat) (rep : Th → Th) : Prop where
  st : ∀ k v, aget kv k = some v → rep k = rep v ∧ d v < d k
  no : ∀ k, aget kv k = none → rep k = k
  rt : ∀ x, aget kv (rep x) = none
def UF (kv : List (Th × Th)) (rep : Th → Th) : Prop := ∃ d, Good kv d rep
def S_end_of_lattice : SpD := fun ds Q _ => ∃ (kv : List (Th × Th)) (rep : Th → Th) (x : Th), ds = [dT true kv, en x] ∧ UF kv rep ∧ kv.length ≤ 9000 ∧ ∀ kv', UF kv' rep → kv'.length = kv.length → Q (en (rep x)) [dT true kv', en x]
noncomputable def updR (rep : Th → Th) (a b : Th) : Th → Th := fun z => if rep z = a then b else rep z
/-- bound together; none: two words -/
noncomputable def bindF (rep : Th → Th) (p : Th × Th) : Option (Th → Th) := if rep p.1 = rep p.2 then some rep else if (rep p.1).1 ≠ wS then some (updR rep (rep p.1) (rep p.2)) else if (rep p.2).1 ≠ wS then some (updR rep (rep p.2) (rep p.1)) else none
def S_bind : SpD := fun ds Q _ => ∃ (kv : List (Th × Th)) (rep : Th → Th) (x y : Th), ds = [dT true kv, en x, en y] ∧ UF kv rep ∧ kv.length ≤ 8000 ∧ (∀ rep' kv', bindF rep (x, y) = some rep' → UF kv' rep' → kv'.length ≤ kv.length + 1 → Q (en true) [dT true kv', en x, en y]) ∧ (bindF rep (x, y) = none → ∀ kv', UF kv' rep → Q (en false) [dT true kv', en x, en y])
def oneS : Str := Str.ofString "one"
def othS : Str := Str.ofString "other"
/-- what is to be bound, place by place -/
def prT (xs ys : List It) : List (Th × Th) := (xs.zip ys).map fun p => (thF oneS p.1, thF othS p.2)
noncomputable def runB (ps : List (Th × Th)) : Option (Th → Th) := ps.foldlM bindF id
/-- an end as a word or a key -/
def endW (e : Th) : Option Str := match e with
  | (s, .w x) => if s = wS then some x else none
  | _ => none
def metK (rep : Th → Th) (xs : List It) : List (Option Str × Th) := xs.map fun t => (endW (rep (thF oneS t)), rep (thF oneS t))
noncomputable def metF (rep : Th → Th) (xs : List It) : List It := numF [] ((metK rep xs).map opK)
noncomputable def metO (rep : Th → Th) (f : Fo) : Fo := inR (metF rep f.flatten) (f.map List.length)
noncomputable def metD (rep : Th → Th) (f : Fo) : D := .n false .tup [en true, eoo (inR (metF rep f.flatten) (f.map List.length))]
def clsD (r a : Nat) : D := .n false .tup [en false, en ((r : Int), (a : Int))]
/-- so many places ahead of a row's place -/
def posF (f : Fo) (r a : Nat) : Nat := (f.take r).flatten.length + a
def S_met : SpD := fun ds Q E => ∃ f g : Fo, ds = [en f, en g] ∧ (Fb f ∧ formB f = true) ∧ (Fb g ∧ formB g = true) ∧ (∀ r, unlF [f, g] = some r → E (shapeX r) ds) ∧ (unlF [f, g] = none →
  (∀ rep, runB (prT f.flatten g.flatten) = some rep → Q (metD rep f) ds) ∧
  ∀ (r a : Nat) (rep : Th → Th) (p : Th × Th), (∃ row, f[r]? = some row ∧ a < row.length) → runB ((prT f.flatten g.flatten).take (posF f r a)) = some rep → (prT f.flatten g.flatten)[posF f r a]? = some p → bindF rep p = none → Q (clsD r a) ds)
def S_law_is_form : SpD := fun ds Q _ => ∃ (f : Fo) (sh : List Nat), ds = [en f, en (nI sh)] ∧ Fb f ∧ Frm sh f ∧ Q (en true) ds
def S_law_leads : SpD := fun ds Q _ => ∃ (f g : Fo) (zs : List It), ds = [en f, en g] ∧ Fb f ∧ Fb g ∧ frmB 0 f.flatten = true ∧ ledO f g = some zs ∧ Q (en true) ds
def S_law_own : SpD := fun ds Q _ => ∃ f : Fo, ds = [eoo f] ∧ Fb f ∧ (∀ r ∈ f, r.length ≤ 1000) ∧ Q (en true) [eoo (f.map fun r => r ++ [.w (Str.ofString "x")])]
/-! form_of -/
/-- a tuple of texts -/
structure Tk where
  ks : List Str
noncomputable instance : DecidableEq Tk := fun a b => Classical.propDecidable (a = b)
instance : Enc Tk := ⟨fun x => .n false .tup (x.ks.map en), fun x => by rw [D.isFz, fzl_e]; rfl, fun x => by rw [toPy, PyData.plain, toPyL_plain], 1, fun x => by
  rw [toPy]
  have : ∀ xs : List Str, PyData.depthAll (toPyL (xs.map en)) = 0 := fun xs => by
    induction xs with
    | nil => rfl
    | cons x xs ih => rw [List.map_cons, toPyL, PyData.depthAll, ih]; rfl
  rw [PyData.depth, this]
  decide, fun x y => by
  have key : ∀ xs ys : List Str, PyData.eqvAll (toPyL (xs.map en)) (toPyL (ys.map en)) = true ↔ xs = ys := fun xs => by
    induction xs with
    | nil => intro ys; cases ys <;> simp [toPyL, PyData.eqvAll]
    | cons a xs ih =>
      intro ys
      cases ys with
      | nil => simp [toPyL, PyData.eqvAll]
      | cons b ys =>
        simp only [List.map_cons, toPyL, PyData.eqvAll, Bool.and_eq_true, ih, List.cons.injEq]
        exact and_congr_left' (Enc.eq a b)
  unfold eqD
  rw [toPy, toPy, PyData.eqv, key]
  cases x; cases y
  exact ⟨fun h => congrArg Tk.mk h, fun h => by injection h⟩⟩
theorem keysD_str : ∀ xs : List Str, keysD (xs.map (en : Str → D)) = some (xs.map Sum.inr)
  | [] => rfl
  | x :: xs => by
    rw [List.map_cons, List.map_cons]
    show keysD (D.p (V.str x) :: xs.map en) = _
    simp only [keysD, keysD_str xs]
    rfl
instance : KeyT Tk := ⟨fun x => x.ks.map Sum.inr, fun x y h => by
  cases x; cases y
  exact congrArg Tk.mk ((List.map_inj_right fun a b e => by injection e).mp h), fun x => ⟨_, rfl, keysD_str x.ks⟩⟩
def wFo (g : List (List Str)) : Fo := g.map fun r => r.map It.w
/-- what stands at a place of each stretch -/
def colF (gs : List (List (List Str))) (k : Nat) : List Str := gs.map fun g => g.flatten.getD k Str.empty
noncomputable def ofK (gs : List (List (List Str))) (k : Nat) : Option Str × Tk := (if (colF gs k).count ((colF gs k).headD Str.empty) = (colF gs k).length then some ((colF gs k).headD Str.empty) else none, ⟨colF gs k⟩)
noncomputable def formF (gs : List (List (List Str))) : Fo := match gs with
  | [] => []
  | g :: r => inR (numF [] (((List.range g.flatten.length).map (ofK (g :: r))).map opK)) (g.map List.length)
def noRowsX : Exn := ⟨"NoRows", none⟩
/-- few and short stretches -/
def StB (g : List (List Str)) : Prop := g.length ≤ 4000 ∧ g.flatten.length ≤ 4000 ∧ ∀ w ∈ g.flatten, w.length ≤ 100000
def S_form_of : SpD := fun ds Q E => ∃ gs : List (List (List Str)), ds = [en (gs.map wFo)] ∧ gs.length ≤ 4000 ∧ (∀ g ∈ gs, StB g) ∧ (gs = [] → E noRowsX ds) ∧ (gs ≠ [] → (∀ r, unlF (gs.map wFo) = some r → E (shapeX r) ds) ∧ (unlF (gs.map wFo) = none → Q (eoo (formF gs)) ds))
/-- a stretch of words of a shape -/
def Stc (sh : List Nat) (g : List (List Str)) : Prop := g.map List.length = sh ∧ ∀ w ∈ g.flatten, wordB w = true
/-! k42: form_of, asked -/
def optN (o : Option Nat) : Option Int := o.map fun r => (r : Int)
def clsR (r : Option Nat) : List Bool := [r.isSome, r.isNone, false, false, false, false, true]
def shapeD (r : Nat) : D := .n false (.exc "Shape" ["row"]) [.p (.int (r : Int))]
def norowsD : D := .n false (.exc "NoRows" []) []
def refD : Option Nat → D
  | some r => shapeD r
  | none => norowsD
def S_law_classes : SpD := fun ds Q _ => ∃ r : Option Nat, ds = [refD r] ∧ Q (eo (clsR r)) ds
def tolD (f : Fo) : D := .n false .tup [en (Str.ofString "told"), eoo f]
def noD : Option Nat → D
  | some r => .n false .tup [en (Str.ofString "no"), .n true .lst ((clsR (some r)).map en ++ [en (r : Int)])]
  | none => .n false .tup [en (Str.ofString "no"), eo (clsR none)]
def S_law_asked : SpD := fun ds Q _ => ∃ gs : List (List (List Str)), ds = [en (gs.map wFo)] ∧ gs.length ≤ 4000 ∧ (∀ g ∈ gs, StB g) ∧ (gs = [] → Q (noD none) ds) ∧ (gs ≠ [] → (∀ r, unlF (gs.map wFo) = some r → Q (noD (some r)) ds) ∧ (unlF (gs.map wFo) = none → Q (tolD (formF gs)) ds))
def S_law_stretchw : SpD := fun ds Q _ => ∃ (s : Sn) (sh : List Nat) (xs : List Str), ds = [s.d, en (nI sh), en xs] ∧ s.ok ∧ Shp sh ∧ Pool xs ∧ ∀ (s' : Sn) (g : List (List Str)), s'.ok → Stc sh g → Q (eoo (wFo g)) [s'.d, en (nI sh), en xs]
def S_law_unlike : SpD := fun ds Q _ => ∃ fs : List Fo, ds = [en (fs.map shp)] ∧ (0 < fs.length ∧ fs.length ≤ 4000) ∧ (∀ f ∈ fs, f.length ≤ 4000) ∧ Q (en (optN (unlF fs))) ds
/-- a tuple of texts that is known to the object -/
structure Tx where
  ks : List Str
noncomputable instance : DecidableEq Tx := fun a b => Classical.propDecidable (a = b)
instance : Enc Tx := ⟨fun x => .n false .tok (x.ks.map en), fun x => by rw [D.isFz, fzl_e]; rfl, fun x => by rw [toPy, PyData.plain, toPyL_plain], 1, fun x => by
  rw [toPy]
  have : ∀ xs : List Str, PyData.depthAll (toPyL (xs.map en)) = 0 := fun xs => by
    induction xs with
    | nil => rfl
    | cons x xs ih => rw [List.map_cons, toPyL, PyData.depthAll, ih]; rfl
  rw [PyData.depth, this]
  decide, fun x y => by
  have key : ∀ xs ys : List Str, PyData.eqvAll (toPyL (xs.map en)) (toPyL (ys.map en)) = true ↔ xs = ys := fun xs => by
    induction xs with
    | nil => intro ys; cases ys <;> simp [toPyL, PyData.eqvAll]
    | cons a xs ih =>
      intro ys
      cases ys with
      | nil => simp [toPyL, PyData.eqvAll]
      | cons b ys =>
        simp only [List.map_cons, toPyL, PyData.eqvAll, Bool.and_eq_true, ih, List.cons.injEq]
        exact and_congr_left' (Enc.eq a b)
  unfold eqD
  rw [toPy, toPy, PyData.eqv, key]
  cases x; cases y
  exact ⟨fun h => congrArg Tx.mk h, fun h => by injection h⟩⟩
def S_law_right : SpD := fun ds Q _ => ∃ (sh : List Nat) (gs : List (List (List Str))), ds = [en (formF gs), en (gs.map wFo)] ∧ gs ≠ [] ∧ gs.length ≤ 4000 ∧ (∀ g ∈ gs, Stc sh g ∧ StB g) ∧ Q (en true) ds
def S_law : SpD := fun ds Q _ => ∃ ns : List Int, ds = [.n false .lok (ns.map fun i => .p (.int i))] ∧ ns.length ≤ 63 ∧ ∀ ds', Q (.p (.bl true)) ds'
abbrev g_0_stretches_form_of {α : Type} (us ws : List α) : List α := gP 0 1 [0] us ws
/- items_of: rows; N = 3: 0 rows 1 found 2 row -/
def t_items_of : DS := (dSeq (dAsg (dLst dNil) (dName 1))
    (dSeq (dForW (dISeq (dVar 0)) (dName 2) (dDrop (dMut "list" 1 mExtend (dCons (dVar 2) dNil))) [2])
    (dRet (dMv 1))))
/- need_shape: forms; N = 4: 0 forms 1 row 2 sizes 3 form -/
def t_need_shape : DS := (dForW (dIRng1 (dCons (dCB qMaxL (dCons (dLc (dISeq (dVar 0)) (dName 3) dTrue (dCB qLen (dCons (dVar 3) dNil)) [3]) dNil)) dNil)) (dName 1) (dSeq (dAsg (dLc (dISeq (dVar 0)) (dName 3) dTrue (dIf (dTst (dOp qLt (dVar 1) (dCB qLen (dCons (dVar 3) dNil)))) (dCB qLen (dCons (dOp qIxS (dVar 3) (dVar 1)) dNil)) (dC .non)) [3]) (dName 2))
    (dIfS (dTst (dOp qNe (dBM1 "list" qCount (dVar 2) (dOp qIxS (dVar 2) (dC (.int 0)))) (dCB qLen (dCons (dVar 2) dNil)))) (dRaiseF "Shape" "row" (dVar 1)) dNext)) [1, 2])
/- in_rows: items, like; N = 5: 0 items 1 like 2 found 3 at 4 row -/
def t_in_rows : DS := (dSeq (dAsg (dLst dNil) (dName 2))
    (dSeq (dAsg (dC (.int 0)) (dName 3))
    (dSeq (dForW (dISeq (dVar 1)) (dName 4) (dSeq (dDrop (dMut "list" 2 mAppend (dCons (dCut (dVar 0) (dPart (dVar 3)) (dPart (dOp qAdd (dVar 3) (dCB qLen (dCons (dVar 4) dNil))))) dNil)))
    (dAugI 3 (dCB qLen (dCons (dVar 4) dNil)))) [4])
    (dRet (dMv 2)))))
/- opened: words, keys; N = 6: 0 words 1 keys 2 holes 3 found 4 word 5 key -/
def t_opened : DS := (dSeq (dAsg dNewX (dName 2))
    (dSeq (dAsg (dLst dNil) (dName 3))
    (dSeq (dForW (dIZip (dCons (dVar 0) (dCons (dVar 1) dNil))) (dGTup 2 (dGCons (dName 4) (dGCons (dName 5) dGNil))) (dIfS (dTst (dOp qIsN (dVar 4) (dC .non))) (dDrop (dMut "list" 3 mAppend (dCons (dMut "dict" 2 mSetd2 (dCons (dVar 5) (dCons (dCB qLen2 (dCons (dVar 2) dNil)) dNil))) dNil))) (dDrop (dMut "list" 3 mAppend (dCons (dVar 4) dNil)))) [4, 5])
    (dRet (dMv 3)))))
/- form_of: stretches; N = 9: 0 stretches 1 rows 2 keys 3 words 4 k 5 word 6 key 7 stretch 8 row -/
def t_form_of : DS := (dSeq (dIfS (dTst (dOp qEq (dCB qLen (dCons (dVar 0) dNil)) (dC (.int 0)))) (dRaise "NoRows") dNext)
    (dSeq (dDrop (dCall [false] S_need_shape (dCons (dVar 0) dNil)))
    (dSeq (dAsg (dLc (dISeq (dVar 0)) (dName 7) dTrue (dFz (dCall [false] S_items_of (dCons (dVar 7) dNil))) [7]) (dName 1))
    (dSeq (dFrz 1 (dAsg (dLst dNil) (dName 2)))
    (dSeq (dAsg (dLst dNil) (dName 3))
    (dSeq (dForW (dIEnum (dCons (dOp qIxS (dVar 1) (dC (.int 0))) dNil)) (dGTup 2 (dGCons (dName 4) (dGCons (dName 5) dGNil))) (dTC 6 2 3 5 (dLc (dISeq (dVar 1)) (dName 8) dTrue (dOp qIxS (dVar 8) (dVar 4)) [8])) [4, 5, 6])
    (dRet (dCall [false, false] S_in_rows (dCons (dCall [false, false] S_opened (dCons (dVar 3) (dCons (dVar 2) dNil))) (dCons (dOp qIxS (dVar 0) (dC (.int 0))) dNil))))))))))
/- _law_begin: _law_script; N = 3: 0 _law_script 1 _law_mixed 2 _law_cell -/
def t_law_begin : DS := (dSeq (dAsg (dC (.int 11)) (dName 1))
    (dSeq (dForW (dISeq (dVar 0)) (dName 2) (dAsg (dOp qMod (dOp qAdd (dOp qMulS (dVar 1) (dC (.int 69621))) (dVar 2)) (dC (.int 2147483629))) (dName 1)) [2])
    (dRet (dDisp ["cells", "next", "left", "mixed"] (dDs [(dFz (dCB qList (dCons (dVar 0) dNil))), (dC (.int 0)), (dC (.int 0)), (dVar 1)])))))
/- _law_more: _law_state; N = 6: 0 _law_state 1 _law_k 2 _law_cell 3 _law_one 4 _law_two 5 _law_three -/
def t_law_more : DS := (dSeq (dAsg (dOp qIxS (dVar 0) (dC (.str "next"))) (dName 1))
    (dSeq (dPut "dict" 0 mPutD (dOp qAdd (dVar 1) (dC (.int 1))) (dC (.str "next")))
    (dSeq (dAsg (dOp qAdd (dOp qIxS (dVar 0) (dC (.str "mixed"))) (dOp qMulS (dC (.int 104729)) (dVar 1))) (dName 2))
    (dSeq (dIfS (dTst (dOp qLt (dVar 1) (dCB qLen (dCons (dOp qIxS (dVar 0) (dC (.str "cells"))) dNil)))) (dAsg (dOp qIxS (dOp qIxS (dVar 0) (dC (.str "cells"))) (dVar 1)) (dName 2)) dNext)
    (dSeq (dIfS (dTst (dOp qGe (dVar 2) (dOp qPow (dC (.int 10)) (dC (.int 18))))) (dRet (dOp qSub (dVar 2) (dOp qPow (dC (.int 10)) (dC (.int 18))))) dNext)
    (dSeq (dAsg (dOp qMod (dOp qAdd (dOp qAdd (dOp qMulS (dVar 2) (dC (.int 48271))) (dOp qMulS (dC (.int 7919)) (dVar 1))) (dC (.int 11))) (dC (.int 2147483647))) (dName 3))
    (dSeq (dAsg (dOp qMod (dOp qMulS (dVar 3) (dOp qAdd (dOp qAdd (dVar 3) (dOp qMulS (dC (.int 2)) (dVar 1))) (dC (.int 1)))) (dC (.int 2147483629))) (dName 4))
    (dSeq (dAsg (dOp qMod (dOp qMulS (dVar 4) (dOp qAdd (dOp qAdd (dVar 4) (dVar 3)) (dC (.int 1)))) (dC (.int 2147483587))) (dName 5))
    (dRet (dOp qAdd (dOp qMulS (dOp qAdd (dOp qMulS (dVar 3) (dC (.int 2147483629))) (dVar 4)) (dC (.int 2147483587))) (dVar 5)))))))))))
/- _law_next: _law_state, _law_many; N = 3: 0 _law_state 1 _law_many 2 _law_found -/
def t_law_next : DS := (dSeq (dIfS (dTst (dOp qEq (dOp qIxS (dVar 0) (dC (.str "left"))) (dC (.int 0)))) (dPut "dict" 0 mPutD (dFz (dCall [true] S_law_more (dCons (dVar 0) dNil))) (dC (.str "left"))) dNext)
    (dSeq (dAsg (dOp qMod (dOp qIxS (dVar 0) (dC (.str "left"))) (dVar 1)) (dName 2))
    (dSeq (dPut "dict" 0 mPutD (dOp qDiv (dOp qIxS (dVar 0) (dC (.str "left"))) (dVar 1)) (dC (.str "left")))
    (dRet (dMv 2)))))
/- _law_pick: _law_state, _law_some; N = 2: 0 _law_state 1 _law_some -/
def t_law_pick : DS := (dRet (dOp qIxS (dVar 1) (dCall [true, false] S_law_next (dCons (dVar 0) (dCons (dCB qLen (dCons (dVar 1) dNil)) dNil)))))
/- _law_word: _law_state; N = 6: 0 _law_state 1 _law_letters 2 _law_figures 3 _law_sort 4 _law_many 5 _law_k -/
def t_law_wordf : DS := (dSeq (dAsg (dC (.str "abcdefghijklmnopqrstuvwxyzABCDEFGHIJKLMNOPQRSTUVWXYZ_")) (dName 1))
    (dSeq (dAsg (dC (.str "0123456789")) (dName 2))
    (dSeq (dAsg (dCall [true, false] S_law_next (dCons (dVar 0) (dCons (dC (.int 6)) dNil))) (dName 3))
    (dSeq (dAsg (dOp qIxS (dLst (dCons (dC (.int 0)) (dCons (dC (.int 1)) (dCons (dC (.int 2)) (dCons (dC (.int 19)) dNil))))) (dCall [true, false] S_law_next (dCons (dVar 0) (dCons (dC (.int 4)) dNil)))) (dName 4))
    (dSeq (dIfS (dTst (dOp qEq (dVar 3) (dC (.int 0)))) (dRet (dCall [true, false] S_law_pick (dCons (dVar 0) (dCons (dM1 qSplit (dC (.str "and def do else end for if in not or return use while")) (dC (.str " "))) dNil)))) dNext)
    (dSeq (dIfS (dTst (dOp qEq (dVar 3) (dC (.int 1)))) (dRet (dCall [true, false] S_law_pick (dCons (dVar 0) (dCons (dC (.str "!\"#$&'()*+,-./:;<=>?\x40[\\]^`{|}~")) dNil)))) dNext)
    (dSeq (dIfS (dTst (dOp qEq (dVar 3) (dC (.int 2)))) (dRet (dM1 qJoin (dC (.str "")) (dLc (dIRng1 (dCons (dOp qAdd (dVar 4) (dC (.int 1))) dNil)) (dName 5) dTrue (dCall [true, false] S_law_pick (dCons (dVar 0) (dCons (dVar 2) dNil))) [5]))) dNext)
    (dSeq (dIfS (dTst (dOp qEq (dVar 3) (dC (.int 3)))) (dRet (dOp qIxS (dLst (dCons (dC (.str "0")) (dCons (dC (.str "1")) (dCons (dC (.str "2")) dNil)))) (dOp qMod (dVar 4) (dC (.int 3))))) dNext)
    (dRet (dOp qAdd (dCall [true, false] S_law_pick (dCons (dVar 0) (dCons (dVar 1) dNil))) (dM1 qJoin (dC (.str "")) (dLc (dIRng1 (dCons (dVar 4) dNil)) (dName 5) dTrue (dCall [true, false] S_law_pick (dCons (dVar 0) (dCons (dOp qAdd (dVar 1) (dVar 2)) dNil))) [5]))))))))))))
/- _law_pool: _law_state; N = 2: 0 _law_state 1 _law_k -/
def t_law_pool : DS := (dSeq (dIfS (dTst (dOp qEq (dCall [true, false] S_law_next (dCons (dVar 0) (dCons (dC (.int 8)) dNil))) (dC (.int 0)))) (dRet (dLst (dCons (dC (.str "1")) (dCons (dC (.str "11")) (dCons (dC (.str "2")) (dCons (dC (.str "12")) (dCons (dC (.str "21")) dNil))))))) dNext)
    (dRet (dLc (dIRng1 (dCons (dOp qAdd (dC (.int 1)) (dCall [true, false] S_law_next (dCons (dVar 0) (dCons (dC (.int 5)) dNil)))) dNil)) (dName 1) dTrue (dCall [true] S_law_wordf (dCons (dVar 0) dNil)) [1])))
/- _law_shape: _law_state; N = 3: 0 _law_state 1 _law_way 2 _law_k -/
def t_law_shape : DS := (dSeq (dAsg (dCall [true, false] S_law_next (dCons (dVar 0) (dCons (dC (.int 16)) dNil))) (dName 1))
    (dSeq (dIfS (dTst (dOp qEq (dVar 1) (dC (.int 0)))) (dRet (dOp qRepL (dLst (dCons (dC (.int 1)) dNil)) (dC (.int 60)))) dNext)
    (dSeq (dIfS (dTst (dOp qEq (dVar 1) (dC (.int 1)))) (dRet (dLst (dCons (dC (.int 30)) (dCons (dC (.int 0)) (dCons (dC (.int 30)) dNil))))) dNext)
    (dRet (dLc (dIRng1 (dCons (dCall [true, false] S_law_next (dCons (dVar 0) (dCons (dC (.int 5)) dNil))) dNil)) (dName 2) dTrue (dCall [true, false] S_law_next (dCons (dVar 0) (dCons (dC (.int 5)) dNil))) [2])))))
/- _law_in_rows: _law_items_here, _law_shape_here; N = 5: 0 _law_items_here 1 _law_shape_here 2 _law_found 3 _law_at 4 _law_size -/
def t_law_in_rows : DS := (dSeq (dAsg (dLst dNil) (dName 2))
    (dSeq (dAsg (dC (.int 0)) (dName 3))
    (dSeq (dForW (dISeq (dVar 1)) (dName 4) (dSeq (dDrop (dMut "list" 2 mAppend (dCons (dCut (dVar 0) (dPart (dVar 3)) (dPart (dOp qAdd (dVar 3) (dVar 4)))) dNil)))
    (dAsg (dOp qAdd (dVar 3) (dVar 4)) (dName 3))) [4])
    (dRet (dMv 2)))))
/- _law_copy: _law_rows; N = 2: 0 _law_rows 1 _law_row -/
def t_law_copyf : DS := (dRet (dLc (dISeq (dVar 0)) (dName 1) dTrue (dCB qList (dCons (dVar 1) dNil)) [1]))
/- _law_items: _law_rows; N = 3: 0 _law_rows 1 _law_found 2 _law_row -/
def t_law_items : DS := (dSeq (dAsg (dLst dNil) (dName 1))
    (dSeq (dForW (dISeq (dVar 0)) (dName 2) (dAsg (dOp qAdd (dVar 1) (dCB qList (dCons (dVar 2) dNil))) (dName 1)) [2])
    (dRet (dMv 1))))
/- _law_shape_of: _law_rows; N = 2: 0 _law_rows 1 _law_row -/
def t_law_shape_of : DS := (dRet (dLc (dISeq (dVar 0)) (dName 1) dTrue (dCB qLen (dCons (dVar 1) dNil)) [1]))
/- _law_reshaped: _law_way, _law_place, _law_rows; N = 6: 0 _law_way 1 _law_place 2 _law_rows 3 _law_at 4 _law_row 5 _law_k -/
def t_law_reshaped : DS := (dSeq (dAsg (dOp qMod (dVar 1) (dCB qMax2 (dCons (dC (.int 1)) (dCons (dCB qLen (dCons (dVar 2) dNil)) dNil)))) (dName 3))
    (dSeq (dIfS (dAnd (dTst (dOp qEq (dVar 0) (dC (.int 0)))) (dTst (dOp qLt (dCB qLen (dCons (dVar 2) dNil)) (dC (.int 60))))) (dRet (dOp qAdd (dOp qAdd (dCut (dVar 2) dNoPart (dPart (dVar 3))) (dFz (dLst (dCons (dLst dNil) dNil)))) (dCut (dVar 2) (dPart (dVar 3)) dNoPart))) dNext)
    (dSeq (dIfS (dTst (dOp qEq (dVar 2) (dLst dNil))) (dRet (dMv 2)) dNext)
    (dSeq (dAsg (dOp qIxS (dVar 2) (dVar 3)) (dName 4))
    (dSeq (dAsg (dOp qMod (dOp qDiv (dVar 1) (dC (.int 61))) (dCB qMax2 (dCons (dC (.int 1)) (dCons (dCB qLen (dCons (dVar 4) dNil)) dNil)))) (dName 5))
    (dSeq (dIfS (dTst (dOp qEq (dVar 0) (dC (.int 1)))) (dRet (dOp qAdd (dCut (dVar 2) dNoPart (dPart (dVar 3))) (dCut (dVar 2) (dPart (dOp qAdd (dVar 3) (dC (.int 1)))) dNoPart))) dNext)
    (dSeq (dIfS (dAnd (dTst (dOp qEq (dVar 0) (dC (.int 2)))) (dTst (dOp qLt (dCB qLen (dCons (dVar 4) dNil)) (dC (.int 30))))) (dRet (dOp qAdd (dOp qAdd (dCut (dVar 2) dNoPart (dPart (dVar 3))) (dFz (dLst (dCons (dOp qAdd (dOp qAdd (dCut (dVar 4) dNoPart (dPart (dVar 5))) (dLst (dCons (dC (.str "x")) dNil))) (dCut (dVar 4) (dPart (dVar 5)) dNoPart)) dNil)))) (dCut (dVar 2) (dPart (dOp qAdd (dVar 3) (dC (.int 1)))) dNoPart))) dNext)
    (dSeq (dIfS (dAnd (dTst (dOp qEq (dVar 0) (dC (.int 4)))) (dAnd (dTst (dOp qLt (dOp qAdd (dVar 3) (dC (.int 1))) (dCB qLen (dCons (dVar 2) dNil)))) (dTst (dOp qLt (dCB qLen (dCons (dOp qIxS (dVar 2) (dOp qAdd (dVar 3) (dC (.int 1)))) dNil)) (dC (.int 30)))))) (dRet (dOp qAdd (dOp qAdd (dCut (dVar 2) dNoPart (dPart (dVar 3))) (dFz (dLst (dCons (dCut (dVar 4) dNoPart (dPart (dOp qSub (dCB qLen (dCons (dVar 4) dNil)) (dC (.int 1))))) (dCons (dOp qAdd (dCut (dVar 4) (dPart (dOp qSub (dCB qLen (dCons (dVar 4) dNil)) (dC (.int 1)))) dNoPart) (dOp qIxS (dVar 2) (dOp qAdd (dVar 3) (dC (.int 1))))) dNil))))) (dCut (dVar 2) (dPart (dOp qAdd (dVar 3) (dC (.int 2)))) dNoPart))) dNext)
    (dRet (dOp qAdd (dOp qAdd (dCut (dVar 2) dNoPart (dPart (dVar 3))) (dFz (dLst (dCons (dOp qAdd (dCut (dVar 4) dNoPart (dPart (dVar 5))) (dCut (dVar 4) (dPart (dOp qAdd (dVar 5) (dC (.int 1)))) dNoPart)) dNil)))) (dCut (dVar 2) (dPart (dOp qAdd (dVar 3) (dC (.int 1)))) dNoPart)))))))))))
/- _law_hole: _law_item; N = 1: 0 _law_item -/
def t_law_hole : DS := (dRet (dAndV (dCB qIsi (dCons (dVar 0) (dCons (dC (.ty "int")) dNil))) (dNotV (dCB qIsi (dCons (dVar 0) (dCons (dC (.ty "bool")) dNil))))))
/- _law_is_form: _law_thing, _law_shape_here; N = 5: 0 _law_thing 1 _law_shape_here 2 _law_many 3 _law_item 4 _law_row -/
def t_law_is_form : DS := (dSeq (dIfS (dOr (dNot (dTst (dCB qIsi (dCons (dVar 0) (dCons (dC (.ty "list")) dNil))))) (dTst (dOp qNe (dLc (dISeq (dVar 0)) (dName 4) (dNot (dTst (dCB qIsi (dCons (dVar 4) (dCons (dC (.ty "list")) dNil))))) (dVar 4) [4]) (dLst dNil)))) (dRet (dC (.bl false))) dNext)
    (dSeq (dIfS (dTst (dOp qNe (dLc (dISeq (dVar 0)) (dName 4) dTrue (dCB qLen (dCons (dVar 4) dNil)) [4]) (dVar 1))) (dRet (dC (.bl false))) dNext)
    (dSeq (dAsg (dC (.int 0)) (dName 2))
    (dSeq (dForW (dISeq (dCall [false] S_law_items (dCons (dVar 0) dNil))) (dName 3) (dIfS (dTst (dCall [false] S_law_hole (dCons (dVar 3) dNil))) (dSeq (dIfS (dOr (dTst (dOp qLt (dVar 3) (dC (.int 0)))) (dTst (dOp qGt (dVar 3) (dVar 2)))) (dRet (dC (.bl false))) dNext)
    (dAsg (dCB qMax2 (dCons (dVar 2) (dCons (dOp qAdd (dVar 3) (dC (.int 1))) dNil))) (dName 2))) (dIfS (dNot (dTst (dCB qIsi (dCons (dVar 3) (dCons (dC (.ty "str")) dNil))))) (dRet (dC (.bl false))) dNext)) [3])
    (dRet (dC (.bl true)))))))
/- _law_classes: _law_error; N = 2: 0 _law_error 1 _law_found -/
def t_law_classes : DS := (dSeq (dAsg (dLst (dCons (dIsX [("NoRows", false), ("Shape", true)] (dVar 0)) (dCons (dIsX [("NoRows", true), ("Shape", false)] (dVar 0)) (dCons (dIsX [("NoRows", false), ("Shape", false)] (dVar 0)) dNil)))) (dName 1))
    (dSeq (dAsg (dOp qAdd (dVar 1) (dLst (dCons (dIsX [("NoRows", false), ("Shape", false)] (dVar 0)) (dCons (dIsX [("NoRows", false), ("Shape", false)] (dVar 0)) (dCons (dIsX [("NoRows", false), ("Shape", false)] (dVar 0)) dNil))))) (dName 1))
    (dRet (dOp qAdd (dVar 1) (dLst (dCons (dIsX [("NoRows", true), ("Shape", true)] (dVar 0)) dNil))))))
/- _law_asked: _law_given; N = 4: 0 _law_given 1 _law_caught 2 _law_found 3 _law_error -/
def t_law_asked : DS := (dSeq (dAsg (dC .non) (dName 1))
    (dSeq (dAsg (dC .non) (dName 2))
    (dSeq (dThenW (dTryK [("NoRows", true), ("Shape", true)] 3 1 (dAsg (dCallK g_0_stretches_form_of S_form_of dNil (dCons (dVar 0) dNil)) (dName 2))) [3])
    (dSeq (dIfS (dTst (dOp qIsN (dVar 1) (dC .non))) (dRet (dTup (dCons (dC (.str "told")) (dCons (dMv 2) dNil)))) dNext)
    (dSeq (dIfS (dTst (dIsX [("NoRows", false), ("Shape", true)] (dVar 1))) (dRet (dTup (dCons (dC (.str "no")) (dCons (dOp qAdd (dCall [false] S_law_classes (dCons (dVar 1) dNil)) (dLst (dCons (dFld ["Shape"] "row" (dVar 1)) dNil))) dNil)))) dNext)
    (dRet (dTup (dCons (dC (.str "no")) (dCons (dCall [false] S_law_classes (dCons (dVar 1) dNil)) dNil)))))))))
/- _law_stretch: _law_state, _law_shape_here, _law_pool_here; N = 4: 0 _law_state 1 _law_shape_here 2 _law_pool_here 3 _law_k -/
def t_law_stretchw : DS := (dRet (dCall [false, false] S_law_in_rows (dCons (dLc (dIRng1 (dCons (dCB qSum (dCons (dVar 1) dNil)) dNil)) (dName 3) dTrue (dCall [true, false] S_law_pick (dCons (dVar 0) (dCons (dVar 2) dNil))) [3]) (dCons (dVar 1) dNil))))
/- _law_right: _law_found, _law_given; N = 11: 0 _law_found 1 _law_given 2 _law_items_here 3 _law_rows 4 _law_columns 5 _law_p 6 _law_same 7 _law_q 8 _law_alike 9 _law_stretch_here 10 _law_row -/
def t_law_right : DS := (dSeq (dIfS (dNot (dTst (dCall [false, false] S_law_is_form (dCons (dVar 0) (dCons (dCall [false] S_law_shape_of (dCons (dOp qIxS (dVar 1) (dC (.int 0))) dNil)) dNil))))) (dRet (dC (.bl false))) dNext)
    (dSeq (dAsg (dCall [false] S_law_items (dCons (dVar 0) dNil)) (dName 2))
    (dSeq (dAsg (dLc (dISeq (dVar 1)) (dName 9) dTrue (dFz (dCall [false] S_law_items (dCons (dVar 9) dNil))) [9]) (dName 3))
    (dSeq (dFrz 3 (dAsg (dLc (dIRng1 (dCons (dCB qLen (dCons (dVar 2) dNil)) dNil)) (dName 5) dTrue (dTupX (dLc (dISeq (dVar 3)) (dName 10) dTrue (dOp qIxS (dVar 10) (dVar 5)) [10])) [5]) (dName 4)))
    (dSeq (dForW (dIRng1 (dCons (dCB qLen (dCons (dVar 2) dNil)) dNil)) (dName 5) (dSeq (dAsg (dOp qEq (dCntT (dOp qIxS (dVar 4) (dVar 5)) (dOp qIxS (dOp qIxS (dVar 4) (dVar 5)) (dC (.int 0)))) (dCB qLen (dCons (dVar 3) dNil))) (dName 6))
    (dSeq (dIfS (dOr (dTst (dOp qEq (dCall [false] S_law_hole (dCons (dOp qIxS (dVar 2) (dVar 5)) dNil)) (dVar 6))) (dAnd (dTst (dVar 6)) (dTst (dOp qNe (dOp qIxS (dVar 2) (dVar 5)) (dOp qIxS (dOp qIxS (dVar 4) (dVar 5)) (dC (.int 0))))))) (dRet (dC (.bl false))) dNext)
    (dForW (dIRng1 (dCons (dVar 5) dNil)) (dName 7) (dSeq (dAsg (dOp qEq (dOp qIxS (dVar 4) (dVar 5)) (dOp qIxS (dVar 4) (dVar 7))) (dName 8))
    (dIfS (dAnd (dNot (dTst (dVar 6))) (dAnd (dTst (dCall [false] S_law_hole (dCons (dOp qIxS (dVar 2) (dVar 7)) dNil))) (dTst (dOp qNe (dOp qEq (dOp qIxS (dVar 2) (dVar 5)) (dOp qIxS (dVar 2) (dVar 7))) (dVar 8))))) (dRet (dC (.bl false))) dNext)) [7, 8]))) [5, 6, 7, 8])
    (dRet (dC (.bl true))))))))
/- _law_unlike: _law_some; N = 4: 0 _law_some 1 _law_row 2 _law_here 3 _law_one -/
def t_law_unlike : DS := (dSeq (dForW (dIRng1 (dCons (dCB qMaxL (dCons (dLc (dISeq (dVar 0)) (dName 3) dTrue (dCB qLen (dCons (dVar 3) dNil)) [3]) dNil)) dNil)) (dName 1) (dSeq (dAsg (dLc (dISeq (dVar 0)) (dName 3) dTrue (dIf (dTst (dOp qLt (dVar 1) (dCB qLen (dCons (dVar 3) dNil)))) (dOp qIxS (dVar 3) (dVar 1)) (dC .non)) [3]) (dName 2))
    (dIfS (dTst (dOp qNe (dBM1 "list" qCount (dVar 2) (dOp qIxS (dVar 2) (dC (.int 0)))) (dCB qLen (dCons (dVar 2) dNil)))) (dRet (dMv 1)) dNext)) [1, 2])
    (dRet (dC .non)))
/- _law_own: _law_found; N = 3: 0 _law_found 1 _law_kept 2 _law_row -/
def t_law_own : DS := (dSeq (dAsg (dLend (dCall [false] S_law_copyf (dCons (dVar 0) dNil))) (dName 1))
    (dSeq (dForB 0 2 (dDrop (dMutB "list" 2 mAppend (dCons (dC (.str "x")) dNil))) [2])
    (dRet (dOp qEq (dVar 0) (dLc (dISeq (dVar 1)) (dName 2) dTrue (dOp qAdd (dVar 2) (dLst (dCons (dC (.str "x")) dNil))) [2])))))
/- law: _law_script; N = 17: 0 _law_script 1 _law_state 2 _law_spoil 3 _law_way 4 _law_place 5 _law_which 6 _law_twice 7 _law_many 8 _law_shape_here 9 _law_pool_here 10 _law_given 11 _law_handed 12 _law_told 13 _law_row 14 _law_k 15 _law_stretch_here 16 _law_size -/
def t_law : DS := (dSeq (dAsg (dCall [false] S_law_begin (dCons (dVar 0) dNil)) (dName 1))
    (dSeq (dAsg (dCall [true, false] S_law_next (dCons (dVar 1) (dCons (dC (.int 6)) dNil))) (dName 2))
    (dSeq (dAsg (dCall [true, false] S_law_next (dCons (dVar 1) (dCons (dC (.int 5)) dNil))) (dName 3))
    (dSeq (dAsg (dCall [true, false] S_law_next (dCons (dVar 1) (dCons (dC (.int 3599)) dNil))) (dName 4))
    (dSeq (dAsg (dCall [true, false] S_law_next (dCons (dVar 1) (dCons (dC (.int 1000)) dNil))) (dName 5))
    (dSeq (dAsg (dLst (dCons (dCall [true, false] S_law_next (dCons (dVar 1) (dCons (dC (.int 2)) dNil))) (dCons (dCall [true, false] S_law_next (dCons (dVar 1) (dCons (dC (.int 5)) dNil))) (dCons (dCall [true, false] S_law_next (dCons (dVar 1) (dCons (dC (.int 3599)) dNil))) dNil)))) (dName 6))
    (dSeq (dAsg (dCall [true, false] S_law_pick (dCons (dVar 1) (dCons (dLst (dCons (dC (.int 1)) (dCons (dC (.int 2)) (dCons (dC (.int 3)) (dCons (dC (.int 4)) (dCons (dC (.int 2)) (dCons (dC (.int 3)) (dCons (dC (.int 10)) (dCons (dC (.int 100)) dNil))))))))) dNil))) (dName 7))
    (dSeq (dAsg (dCall [true] S_law_shape (dCons (dVar 1) dNil)) (dName 8))
    (dSeq (dIfS (dTst (dOp qEq (dVar 7) (dC (.int 100)))) (dAsg (dLc (dISeq (dCut (dVar 8) dNoPart (dPart (dC (.int 3))))) (dName 16) dTrue (dOp qMod (dVar 16) (dC (.int 4))) [16]) (dName 8)) dNext)
    (dSeq (dAsg (dCall [true] S_law_pool (dCons (dVar 1) dNil)) (dName 9))
    (dSeq (dAsg (dLc (dIRng1 (dCons (dVar 7) dNil)) (dName 14) dTrue (dFz (dCall [true, false, false] S_law_stretchw (dCons (dVar 1) (dCons (dVar 8) (dCons (dVar 9) dNil))))) [14]) (dName 10))
    (dSeq (dIfS (dTst (dOp qLt (dVar 2) (dC (.int 2)))) (dSeq (dPut "list" 10 mSetL (dFz (dCall [false, false, false] S_law_reshaped (dCons (dVar 3) (dCons (dVar 4) (dCons (dOp qIxS (dVar 10) (dOp qMod (dVar 5) (dVar 7))) dNil))))) (dOp qMod (dVar 5) (dVar 7)))
    (dIfS (dAnd (dTst (dOp qEq (dOp qIxS (dVar 6) (dC (.int 0))) (dC (.int 0)))) (dTst (dOp qGt (dVar 7) (dC (.int 2))))) (dPut "list" 10 mSetL (dFz (dCall [false, false, false] S_law_reshaped (dCons (dOp qIxS (dVar 6) (dC (.int 1))) (dCons (dOp qIxS (dVar 6) (dC (.int 2))) (dCons (dOp qIxS (dVar 10) (dOp qMod (dOp qAdd (dVar 5) (dC (.int 1))) (dVar 7))) dNil))))) (dOp qMod (dOp qAdd (dVar 5) (dC (.int 1))) (dVar 7))) dNext)) dNext)
    (dSeq (dIfS (dAnd (dTst (dOp qEq (dVar 2) (dC (.int 2)))) (dTst (dOp qEq (dVar 3) (dC (.int 0))))) (dAsg (dLst dNil) (dName 10)) dNext)
    (dSeq (dAsg (dLc (dISeq (dVar 10)) (dName 15) dTrue (dFz (dCall [false] S_law_copyf (dCons (dVar 15) dNil))) [15]) (dName 11))
    (dSeq (dAsg (dCall [false] S_law_asked (dCons (dVar 11) dNil)) (dName 12))
    (dSeq (dIfS (dTst (dOp qNe (dVar 11) (dVar 10))) (dRet (dC (.bl false))) dNext)
    (dSeq (dIfS (dTst (dOp qEq (dVar 10) (dLst dNil))) (dRet (dOp qEq (dVar 12) (dTup (dCons (dC (.str "no")) (dCons (dLst (dCons (dC (.bl false)) (dCons (dC (.bl true)) (dCons (dC (.bl false)) (dCons (dC (.bl false)) (dCons (dC (.bl false)) (dCons (dC (.bl false)) (dCons (dC (.bl true)) dNil)))))))) dNil))))) dNext)
    (dSeq (dAsg (dCall [false] S_law_unlike (dCons (dLc (dISeq (dVar 10)) (dName 15) dTrue (dFz (dCall [false] S_law_shape_of (dCons (dVar 15) dNil))) [15]) dNil)) (dName 13))
    (dSeq (dIfS (dTst (dOp qNotN (dVar 13) (dC .non))) (dRet (dOp qEq (dVar 12) (dTup (dCons (dC (.str "no")) (dCons (dLst (dCons (dC (.bl true)) (dCons (dC (.bl false)) (dCons (dC (.bl false)) (dCons (dC (.bl false)) (dCons (dC (.bl false)) (dCons (dC (.bl false)) (dCons (dC (.bl true)) (dCons (dVar 13) dNil))))))))) dNil))))) dNext)
    (dSeq (dIfS (dOr (dTst (dOp qNe (dOp qIxS (dVar 12) (dC (.int 0))) (dC (.str "told")))) (dNot (dTst (dLend (dCall [false, false] S_law_right (dCons (dOp qIxS (dVar 12) (dC (.int 1))) (dCons (dVar 10) dNil))))))) (dRet (dC (.bl false))) dNext)
    (dRet (dAndV (dCall [true] S_law_own (dCons (dIxM 12 1) dNil)) (dOp qEq (dVar 11) (dVar 10))))))))))))))))))))))))
theorem pc_lt {c : Nat} (h : pcB c = true) : c < 127 := by
  simp [pcB] at h
  omega
theorem pl_in {x : Str} (h : plB x = true) {c : Nat} (hc : c ∈ x.cps.toList) : pcB c = true := List.all_eq_true.mp h c hc
theorem wordsL_nil : wordsL [] = [] := by rw [wordsL]
theorem wordsL_cons (c : Nat) (r : List Nat) : wordsL (c :: r) = if c = 32 then wordsL r else (c :: r.takeWhile (goesB (sortN c))) :: wordsL (r.dropWhile (goesB (sortN c))) := by rw [wordsL]
theorem tw_le (p : Nat → Bool) (l : List Nat) : (l.takeWhile p).length ≤ l.length := (List.takeWhile_prefix p).length_le
theorem wordsL_len : ∀ (n : Nat) (l : List Nat), l.length ≤ n → (wordsL l).length ≤ l.length
  | _, [], _ => by rw [wordsL_nil]; exact Nat.le_refl _
  | n + 1, c :: r, h => by
    rw [wordsL_cons]
    rw [List.length_cons] at h ⊢
    have hd := drop_lt (p := goesB (sortN c)) r
    split
    · have := wordsL_len n r (by omega)
      omega
    · rw [List.length_cons]
      have := wordsL_len n (r.dropWhile (goesB (sortN c))) (by omega)
      omega
theorem word_le {x : Str} {w : Str} (h : w ∈ wordsF x) : w.length ≤ x.length := by
  obtain ⟨l, hl, rfl⟩ := List.mem_map.mp h
  rw [st_len, ← str_len]
  clear h
  generalize x.cps.toList = xs at hl
  have : ∀ (n : Nat) (xs : List Nat), xs.length ≤ n → l ∈ wordsL xs → l.length ≤ xs.length := by
    intro n
    induction n with
    | zero =>
      intro xs h hl
      have : xs = [] := List.eq_nil_of_length_eq_zero (by omega)
      subst this
      rw [wordsL_nil] at hl
      cases hl
    | succ n ih =>
      intro xs h hl
      cases xs with
      | nil => rw [wordsL_nil] at hl; cases hl
      | cons c r =>
        rw [wordsL_cons] at hl
        rw [List.length_cons] at h ⊢
        have hd := drop_lt (p := goesB (sortN c)) r
        have ht := tw_le (goesB (sortN c)) r
        split at hl
        · have := ih r (by omega) hl
          omega
        · rcases List.mem_cons.mp hl with rfl | hl
          · rw [List.length_cons]; omega
          · have := ih _ (by omega) hl
            omega
  exact this _ xs (Nat.le_refl _) hl
theorem tw_all {p : Nat → Bool} {l : List Nat} (h : ∀ c ∈ l, p c = true) : l.takeWhile p = l ∧ l.dropWhile p = [] := by
  induction l with
  | nil => exact ⟨rfl, rfl⟩
  | cons c r ih =>
    obtain ⟨h1, h2⟩ := ih fun x hx => h x (List.mem_cons_of_mem _ hx)
    have hc := h c (List.mem_cons_self ..)
    rw [List.takeWhile_cons, List.dropWhile_cons, hc]
    exact ⟨by simp [h1], h2⟩
/-- a word of a text is a word, of its signs -/
theorem word_word : ∀ (n : Nat) (l w : List Nat), l.length ≤ n → w ∈ wordsL l → wordsL w = [w] ∧ ∀ c ∈ w, c ∈ l
  | 0, l, w, h, hw => by
    have : l = [] := List.eq_nil_of_length_eq_zero (by omega)
    subst this
    rw [wordsL_nil] at hw
    cases hw
  | n + 1, [], w, h, hw => by
    rw [wordsL_nil] at hw
    cases hw
  | n + 1, c :: r, w, h, hw => by
    rw [wordsL_cons] at hw
    rw [List.length_cons] at h
    have hd := drop_lt (p := goesB (sortN c)) r
    split at hw
    · obtain ⟨g1, g2⟩ := word_word n r w (by omega) hw
      exact ⟨g1, fun x hx => List.mem_cons_of_mem _ (g2 x hx)⟩
    · rename_i hc
      rcases List.mem_cons.mp hw with rfl | hw
      · refine ⟨?_, fun x hx => ?_⟩
        · rw [wordsL_cons, if_neg hc]
          have : ∀ x ∈ r.takeWhile (goesB (sortN c)), goesB (sortN c) x = true := fun x hx => List.all_eq_true.mp List.all_takeWhile x hx
          obtain ⟨t1, t2⟩ := tw_all this
          rw [t1, t2, wordsL_nil]
        · rcases List.mem_cons.mp hx with rfl | hx
          · exact List.mem_cons_self ..
          · exact List.mem_cons_of_mem _ ((List.takeWhile_prefix _).subset hx)
      · obtain ⟨g1, g2⟩ := word_word n _ w (by omega) hw
        exact ⟨g1, fun x hx => List.mem_cons_of_mem _ ((List.dropWhile_suffix _).subset (g2 x hx))⟩
theorem join_list (a : Str) (ys : List Str) : (Txt.join a ys).cps.toList = TL.joinL a.cps.toList (ys.map fun y => y.cps.toList) := by
  rw [TL.join_eq]
  exact TL.tl_join a ys
theorem word_goes {c : Nat} {r : List Nat} (h : wordsL (c :: r) = [c :: r]) : c ≠ 32 ∧ ∀ x ∈ r, goesB (sortN c) x = true := by
  rw [wordsL_cons] at h
  split at h
  · exfalso
    rename_i hc
    have h1 := wordsL_len r.length r (Nat.le_refl _)
    obtain ⟨_, g⟩ := word_word r.length r (c :: r) (Nat.le_refl _) (by rw [h]; exact List.mem_singleton.mpr rfl)
    have h2 : (c :: r).length ≤ r.length := by
      have := word_le (x := st r) (w := st (c :: r)) (by unfold wordsF; rw [st_list, h]; exact List.mem_singleton.mpr rfl)
      rw [st_len, st_len] at this
      exact this
    rw [List.length_cons] at h2
    omega
  · rename_i hc
    injection h with h1 h2
    injection h1 with _ h1
    exact ⟨hc, fun x hx => by
      rw [← h1] at hx
      exact List.all_eq_true.mp List.all_takeWhile x hx⟩
/-- one sign of a text -/
def pick (x : Str) (i n : Int) : Nat := x.cps.toList.getD (i % n).toNat 0
theorem pl_sg {c : Nat} (h : pcB c = true) : plB (sg c) = true := by
  unfold plB sg
  simp [h]
theorem word_head {x : Str} (h : wordB x = true) : ∃ c r, x.cps.toList = c :: r ∧ pcB c = true ∧ plB x = true ∧ x.length ≤ 20 := by
  unfold wordB at h
  rw [Bool.and_eq_true, Bool.and_eq_true] at h
  obtain ⟨h1, h2, h3⟩ := h
  have h3 := dc_t.mp h3
  cases e : x.cps.toList with
  | nil =>
    unfold wordsF at h3
    rw [e, wordsL_nil] at h3
    cases h3
  | cons c r => exact ⟨c, r, rfl, pl_in h1 (by rw [e]; exact List.mem_cons_self ..), h1, of_decide_eq_true h2⟩
local macro_rules | `(tactic| walk_at "in") => `(tactic| (simp only [initE, finL, fz_st, fz_e, fz_eo, fz_ek, fz_dE, if_true, if_false, Bool.false_eq_true, List.map_cons, List.map_nil, List.length_cons, List.length_nil, Nat.zero_add, Nat.reduceAdd, Nat.reduceSub, List.replicate_succ, List.replicate_zero, List.cons_append, List.nil_append, Option.some.injEq, exists_eq_left']))
local macro_rules | `(tactic| walk_at "fr") => `(tactic| first | exact fr_p _ | exact fr_oo _ | exact fr_dE _)
local macro_rules | `(tactic| walk_at "d0") => `(tactic| first
  | (with_reducible_and_instances apply w_lenM)
  | ((with_reducible_and_instances apply use_take); (· assumption); (· walk_at "bd"); intro _ _ _ _)
  | ((with_reducible_and_instances apply use_free); (· assumption))
  | (with_reducible_and_instances apply w_call0) | (with_reducible_and_instances apply use_kept)
  | ((with_reducible_and_instances apply w_ixN); (· exact rfl); (· walk_at "bd"); intro _ _ _)
  | ((with_reducible_and_instances apply w_ixTS); (· omega); (· omega); intro _ _ _ _ _)
  | ((with_reducible_and_instances apply w_addN); (· omega); intro _ _ _)
  | ((with_reducible_and_instances apply w_cutN); (· walk_at "rf"); (· omega); intro _ _ _)
  | ((with_reducible_and_instances apply w_strN); (· omega); intro _ _) | ((with_reducible_and_instances apply w_zfillN); (· omega); intro _ _)
  | ((with_reducible_and_instances apply m_popN); (· walk_at "bd"); intro _ _ _)
  | ((with_reducible_and_instances apply w_addLE); (· walk_at "bd"))
  | ((with_reducible_and_instances apply w_jlK); (· walk_at "rf"); (· simp only [app_lenS, len_empty, len_us]; omega))
  | ((with_reducible_and_instances apply w_lenS); (· omega))
  | ((with_reducible_and_instances apply w_fmN); (· walk_at "rf"); (· omega)))
abbrev KS : List Key := [.inr "cells", .inr "at", .inr "rest", .inr "turn", .inr "more"]
theorem lk_cells {v1 v2 v3 v4 v5 : D} : lookK KS [v1, v2, v3, v4, v5] (.inr "cells") = some v1 := by rfl
theorem lk_at {v1 v2 v3 v4 v5 : D} : lookK KS [v1, v2, v3, v4, v5] (.inr "at") = some v2 := by rfl
theorem lk_rest {v1 v2 v3 v4 v5 : D} : lookK KS [v1, v2, v3, v4, v5] (.inr "rest") = some v3 := by rfl
theorem lk_turn {v1 v2 v3 v4 v5 : D} : lookK KS [v1, v2, v3, v4, v5] (.inr "turn") = some v4 := by rfl
theorem lk_more {v1 v2 v3 v4 v5 : D} : lookK KS [v1, v2, v3, v4, v5] (.inr "more") = some v5 := by rfl
theorem pk_at : putKs KS (.inr "at" : Key) = KS := by rfl
theorem pk_rest : putKs KS (.inr "rest" : Key) = KS := by rfl
theorem pk_turn : putKs KS (.inr "turn" : Key) = KS := by rfl
theorem pk_more : putKs KS (.inr "more" : Key) = KS := by rfl
theorem pc_at {v1 v2 v3 v4 v5 v : D} : putCh KS [v1, v2, v3, v4, v5] (.inr "at" : Key) v = [v1, v, v3, v4, v5] := by rfl
theorem pc_rest {v1 v2 v3 v4 v5 v : D} : putCh KS [v1, v2, v3, v4, v5] (.inr "rest" : Key) v = [v1, v2, v, v4, v5] := by rfl
theorem pc_turn {v1 v2 v3 v4 v5 v : D} : putCh KS [v1, v2, v3, v4, v5] (.inr "turn" : Key) v = [v1, v2, v3, v, v5] := by rfl
theorem pc_more {v1 v2 v3 v4 v5 v : D} : putCh KS [v1, v2, v3, v4, v5] (.inr "more" : Key) v = [v1, v2, v3, v4, v] := by rfl
section
local macro_rules | `(tactic| walk_at "d0") => `(tactic| first | ((with_reducible_and_instances apply w_ixR); (· first | exact lk_cells | exact lk_at | exact lk_rest | exact lk_turn | exact lk_more); (· first | exact rfl | exact fz_ek _); ) | ((with_reducible_and_instances apply m_putR); (· exact rfl); (· exact (by decide : 5 < 100000)); (· first | exact pk_at | exact pk_rest | exact pk_turn | exact pk_more); (· first | exact pc_at | exact pc_rest | exact pc_turn | exact pc_more)))
end
theorem letter2 {c : Nat} (h : pcB c = true) : letB c = decide (sortN c = 2) := by
  have key : ∀ c : Fin 127, pcB c = true → letB c = decide (sortN c = 2) := by decide +kernel
  exact key ⟨c, pc_lt h⟩ h
/-! names -/
def Nl (x : Str) : Prop := ∃ c r, x.cps.toList = c :: r ∧ letB c = true ∧ ∀ d ∈ r, (letB d || digB d) = true
theorem let_pc {c : Nat} (h : (letB c || digB c) = true) : pcB c = true := by
  unfold letB digB at h
  unfold pcB
  simp only [Bool.or_eq_true, Bool.and_eq_true, decide_eq_true_eq, beq_iff_eq] at h ⊢
  omega
theorem goes_2 {d : Nat} (h : (letB d || digB d) = true) : goesB 2 d = true := by
  have hp := let_pc h
  have key : ∀ c : Fin 127, (letB c || digB c) = true → goesB 2 c = true := by decide +kernel
  exact key ⟨d, pc_lt hp⟩ h
theorem nl_pl {x : Str} (h : Nl x) : plB x = true ∧ 0 < x.length := by
  obtain ⟨c, r, e, h1, h2⟩ := h
  refine ⟨?_, by rw [← str_len, e]; simp⟩
  unfold plB
  rw [e, List.all_cons, let_pc (by rw [h1]; rfl), Bool.true_and, List.all_eq_true]
  exact fun d hd => let_pc (h2 d hd)
theorem nl_name {x : Str} (h : Nl x) (hl : x.length ≤ 20) : nameB x = true := by
  have hp := (nl_pl h).1
  obtain ⟨c, r, e, h1, h2⟩ := h
  have hc := let_pc (c := c) (by rw [h1]; rfl)
  have s2 : sortN c = 2 := by
    have := letter2 hc
    rw [h1] at this
    exact of_decide_eq_true this.symm
  have hw : wordsF x = [x] := by
    unfold wordsF
    rw [e, wordsL_cons, s2]
    have h3 : r.takeWhile (goesB 2) = r ∧ r.dropWhile (goesB 2) = [] := tw_all fun d hd => goes_2 (h2 d hd)
    rw [h3.1, h3.2, wordsL_nil, if_neg (by intro z; rw [z] at s2; cases s2)]
    rw [← e]
    show [st x.cps.toList] = [x]
    rw [str_st]
  unfold nameB wordB
  rw [hp, dc_t.mpr hw, decide_eq_true hl, e]
  show (true && (true && true) && decide (sortN c = 2)) = true
  rw [s2]; rfl
theorem word_len {x : Str} (h : wordB x = true) : x.length ≤ 20 ∧ 0 < x.length := by
  obtain ⟨c, r, e, _, _, hl⟩ := word_head h
  exact ⟨hl, by rw [← str_len, e]; simp⟩
theorem name_nl {x : Str} (h : nameB x = true) : Nl x := by
  have hw : wordB x = true := by unfold nameB at h; rw [Bool.and_eq_true] at h; exact h.1
  obtain ⟨c, r, e, hc, hp, hl⟩ := word_head hw
  have s2 : sortN c = 2 := by
    unfold nameB at h
    rw [Bool.and_eq_true, e] at h
    exact of_decide_eq_true h.2
  refine ⟨c, r, e, by rw [letter2 hc, s2]; rfl, fun d hd => ?_⟩
  have h3 : wordsL (c :: r) = [c :: r] := by
    unfold wordB at hw
    rw [Bool.and_eq_true, Bool.and_eq_true] at hw
    have := dc_t.mp hw.2.2
    unfold wordsF at this
    rw [e] at this
    cases g : wordsL (c :: r) with
    | nil => rw [g] at this; cases this
    | cons y ys =>
      rw [g] at this
      injection this with t1 t2
      have t2 : ys = [] := by simpa using t2
      have t1 : y = c :: r := by
        have := congrArg (fun z : Str => z.cps.toList) t1
        simp only [st_list] at this
        rw [this, e]
      rw [t1, t2]
  have h4 := (word_goes h3).2 d hd
  rw [s2] at h4
  have hd' : pcB d = true := pl_in hp (by rw [e]; exact List.mem_cons_of_mem _ hd)
  have key : ∀ c : Fin 127, pcB c = true → goesB 2 c = true → (letB c || digB c) = true := by decide +kernel
  exact key ⟨d, pc_lt hd'⟩ hd' h4
theorem used_nl {u : List Str} (h : Used u) {x : Str} (hx : x ∈ u) : Nl x ∧ x.length ≤ 20 := by
  obtain ⟨us, rfl, _, h2, _⟩ := h
  have hn : nameB x = true := by
    rcases List.mem_append.mp hx with z | z
    · have key : ∀ x ∈ keptL, Nl x ∧ x.length ≤ 20 := by
        have k2 : (keptL.all fun x => match x.cps.toList with | [] => false | c :: r => letB c && (r.all fun d => letB d || digB d) && decide (x.length ≤ 20)) = true := by decide +kernel
        intro x hx
        have := List.all_eq_true.mp k2 x hx
        cases e : x.cps.toList with
        | nil => rw [e] at this; cases this
        | cons c r =>
          rw [e] at this
          simp only [Bool.and_eq_true, List.all_eq_true, decide_eq_true_eq] at this
          exact ⟨⟨c, r, e, this.1.1, this.1.2⟩, this.2⟩
      exact nl_name (key x z).1 (key x z).2
    · have := h2 x z
      unfold Fn freeB at this
      rw [Bool.and_eq_true] at this
      exact this.1
  have hw : wordB x = true := by unfold nameB at hn; rw [Bool.and_eq_true] at hn; exact hn.1
  exact ⟨name_nl hn, (word_len hw).1⟩

/-! draws of names -/
def someS : Str := "abcdefghijklmnopqrstuvwxyz_ABCDEFGHIJKLMNOPQRSTUVWXYZ0123456789"
theorem nl_sg {c : Nat} (h : letB c = true) : Nl (sg c) := ⟨c, [], rfl, h, fun _ z => by cases z⟩
theorem app_list' (a b : Str) : (a ++ b).cps.toList = a.cps.toList ++ b.cps.toList := by
  show (a.cps ++ b.cps).toList = _
  simp
theorem nl_app {a b : Str} (h : Nl a) (hb : ∀ d ∈ b.cps.toList, (letB d || digB d) = true) : Nl (a ++ b) := by
  obtain ⟨c, r, e, h1, h2⟩ := h
  refine ⟨c, r ++ b.cps.toList, by rw [app_list', e]; rfl, h1, fun d hd => ?_⟩
  rcases List.mem_append.mp hd with z | z
  · exact h2 d z
  · exact hb d z
def valS (x : Str) : Nat := x.cps.toList.foldl (fun n c => n * 10 + (c - 48)) 0
def candF (x : Str) (k : Nat) : Str := ((Str.empty ++ cutS x none (some 15)) ++ Str.ofString "_") ++ Str.ofString (toString (k : Int))
theorem kept_word : ∀ x ∈ keptL, wordB x = true ∧ freeB x = false := by
  intro x hx
  have hU : Used keptL := ⟨[], by simp, by decide, fun _ z => (by cases z), by decide +kernel⟩
  obtain ⟨h1, h2⟩ := used_nl hU hx
  have h3 := nl_name h1 h2
  refine ⟨by unfold nameB at h3; rw [Bool.and_eq_true] at h3; exact h3.1, ?_⟩
  unfold freeB
  rw [dc_t.mpr hx]
  simp
theorem dig_word {x : Str} (h0 : 0 < x.length) (hl : x.length ≤ 20) (h : ∀ d ∈ x.cps.toList, digB d = true) : wordB x = true ∧ freeB x = false := by
  cases e : x.cps.toList with
  | nil => rw [← str_len, e] at h0; cases h0
  | cons c r =>
    rw [e] at h
    have hc := h c (List.mem_cons_self ..)
    have pc : ∀ d, digB d = true → pcB d = true ∧ goesB 1 d = true ∧ sortN d = 1 := by
      intro d hd
      have hp : pcB d = true := let_pc (by rw [hd]; simp)
      have key : ∀ c : Fin 127, digB c = true → goesB 1 c = true ∧ sortN c = 1 := by decide +kernel
      exact ⟨hp, key ⟨d, pc_lt hp⟩ hd⟩
    have hp : plB x = true := by
      unfold plB
      rw [e, List.all_eq_true]
      exact fun d hd => (pc d (h d hd)).1
    have s1 := (pc c hc).2.2
    have hw : wordsF x = [x] := by
      unfold wordsF
      rw [e, wordsL_cons, s1]
      have h3 : r.takeWhile (goesB 1) = r ∧ r.dropWhile (goesB 1) = [] := tw_all fun d hd => (pc d (h d (List.mem_cons_of_mem _ hd))).2.1
      rw [h3.1, h3.2, wordsL_nil, if_neg (by intro z; rw [z] at s1; cases s1), ← e]
      show [st x.cps.toList] = [x]
      rw [str_st]
    have hB : wordB x = true := by
      unfold wordB
      rw [hp, dc_t.mpr hw, decide_eq_true hl]; rfl
    refine ⟨hB, ?_⟩
    unfold freeB nameB
    rw [e]
    show (wordB x && decide (sortN c = 2) && _) = false
    rw [s1]
    simp
def signS : Str := "!\"#$&'()*+,-./:;<=>?\x40[\\]^`{|}~"
theorem sign_len : signS.length = 30 := by decide +kernel
theorem sign_word {k c : Nat} (h : signS.cps.toList[k]? = some c) : wordB (sg c) = true ∧ freeB (sg c) = false := by
  have key : (signS.cps.toList.all fun c => pcB c && decide (sortN c = 3) && !decide (c = 32)) = true := by decide +kernel
  have := List.all_eq_true.mp key c (List.mem_of_getElem? h)
  simp only [Bool.and_eq_true, decide_eq_true_eq, Bool.not_eq_true', decide_eq_false_iff_not] at this
  obtain ⟨⟨h1, h2⟩, h3⟩ := this
  have hw : wordsF (sg c) = [sg c] := by
    unfold wordsF
    show (wordsL [c]).map st = _
    rw [wordsL_cons, if_neg h3]
    simp [wordsL_nil, sg, st]
  refine ⟨?_, ?_⟩
  · unfold wordB
    rw [pl_sg h1, dc_t.mpr hw]
    rfl
  · unfold freeB nameB
    show (wordB (sg c) && decide (sortN c = 2) && _) = false
    rw [h2]
    simp
def okP (p : Str × Str) : Prop := (freeB p.1 = true ∧ freeB p.2 = true) ∨ p.1 = p.2
noncomputable def tieB (p : Str × Str) : Bool := freeB p.1 && freeB p.2
def fl (z : List (List Str × List Str)) : List (Str × Str) := z.flatMap fun p => p.1.zip p.2
/-- the numbers of names -/
def kvN (seen : List Str) : List (Str × Int) := seen.zipIdx.map fun p => (p.1, (p.2 : Int))
theorem cutD_len {α : Type} (xs : List α) (lo hi : Option Int) : (cutD xs lo hi).length ≤ xs.length := by
  unfold cutD
  rw [List.length_take, List.length_drop]
  omega
theorem cutD_mem {α : Type} {xs : List α} {lo hi : Option Int} {r : α} (h : r ∈ cutD xs lo hi) : r ∈ xs := List.mem_of_mem_drop (List.mem_of_mem_take h)
theorem cutD_hi {α : Type} {xs : List α} {l : Nat} (h : l ≤ xs.length) : cutD xs none (some (l : Int)) = xs.take l := by
  unfold cutD HT.sIx
  have e1 : ¬ ((l : Int) < 0) := by omega
  simp only [e1, if_false, List.drop_zero, Nat.sub_zero]
  congr 1
  omega
theorem cutD_lo {α : Type} {xs : List α} {l : Nat} (h : l ≤ xs.length) : cutD xs (some ((l : Int) + 1)) none = xs.drop (l + 1) := by
  unfold cutD HT.sIx
  have e1 : ¬ ((l : Int) + 1 < 0) := by omega
  simp only [e1, if_false]
  have e2 : min ((l : Int) + 1).toNat xs.length = min (l + 1) xs.length := by congr 1
  rw [e2]
  by_cases g : l + 1 ≤ xs.length
  · rw [Nat.min_eq_left g, List.take_of_length_le (by rw [List.length_drop]; omega)]
  · rw [Nat.min_eq_right (by omega), List.drop_eq_nil_of_le (Nat.le_refl _), List.drop_eq_nil_of_le (by omega)]
    simp
theorem lkL1 {ρ : DL.Env} {i : Nat} {d : D} (h : slD ρ i = some d) : lookL ρ [.s i] = some [d] := by
  have h : look ρ (.s i) = some d := h
  unfold lookL
  rw [h]
  rfl
theorem lkS {ρ : DL.Env} {i : Nat} {d : D} (h : slD ρ i = some d) : look ρ (.s i) = some d := h
theorem ixN_nat {n l : Nat} (h : l < n) : ixN n (l : Int) = some l := by
  unfold ixN
  have e1 : ¬ ((l : Int) < 0) := by omega
  simp [e1, h]
section
local macro_rules | `(tactic| walk_at "rf") => `(tactic| first | exact lkL1 (sl_oo rfl rfl (by assumption)) | exact lkS (sl_oo rfl rfl (by assumption)))
local macro_rules | `(tactic| walk_at "ne") => `(tactic| (simp only [kb_nil, kb_un, kb_v, kb_w, kb_b, kb_fs, se0, seS, wi0, wiS, show ((3 : Nat) = 0) = False from by decide, show ((3 : Nat) = 6) = False from by decide, show ((3 : Nat) = 7) = False from by decide, show ((3 : Nat) = 8) = False from by decide, if_false, if_true]; first | done | exact rfl))
set_option maxHeartbeats 4000000 in
end
noncomputable def nxS (s : List Str) (w : Str) : List Str := if freeB w = true ∧ w ∉ s then s ++ [w] else s
noncomputable def itS (s : List Str) (w : Str) : It := if freeB w = true then .h (((nxS s w).idxOf w : Nat) : Int) else .w w
noncomputable def mwF : List Str → List Str → List It
  | _, [] => []
  | s, w :: r => itS s w :: mwF (nxS s w) r
noncomputable def mrF : List Str → List (List Str) → List (List It)
  | _, [] => []
  | s, r :: rows => mwF s r :: mrF (r.foldl nxS s) rows
def tieP (p : Str × Str) : Prop := freeB p.1 = true ∧ freeB p.2 = true
def Qf (s t u v : List Str) : Prop := (∀ p ∈ u.zip v, tieP p ∨ p.1 = p.2) ∧ ∀ p ∈ s.zip t ++ u.zip v, ∀ q ∈ u.zip v, tieP p → tieP q → (p.1 = q.1 ↔ p.2 = q.2)
local macro_rules | `(tactic| walk_at "d0") => `(tactic| first
  | (with_reducible_and_instances apply use_holeH) | (with_reducible_and_instances apply use_holeW)
  | (with_reducible_and_instances apply use_hole)
  | ((with_reducible_and_instances apply use_items); (· assumption))
  | ((with_reducible_and_instances apply use_shape); (· assumption)))
/-! forms -/
theorem sem_items_of : Sem S_items_of t_items_of 3 := by
  rintro _ Q0 E0 ⟨f, rfl, ⟨h1, h2, h3⟩, hq⟩
  walk_at "in"
  unfold t_items_of
  walk_at "dg"
  refine lw_inv2 (fun z : List It => [.v (en f), .v (eo z), .un]) (fun rest z => z ++ rest.flatten = f.flatten) [] rfl rfl ?_ ?_
  · rintro r rest z hz k hk
    have : z.length + r.length ≤ 100000 := by
      have := congrArg List.length hz
      rw [List.flatten_cons, List.length_append, List.length_append] at this
      omega
    walk_at "dg"
    refine hk (z ++ r) _ (by rw [List.append_assoc]; exact hz) rfl
  · rintro z hz
    walk_at "dg"
    rw [List.flatten_nil, List.append_nil] at hz
    rw [hz]
    exact hq
/-- a dict of the holes' items -/
def kvH (acc : List It) : List (Int × It) := acc.zipIdx.map fun p => ((p.2 : Int), p.1)
def hlI : It → Option Int
  | .h i => some i
  | .w _ => none
theorem frm_words : ∀ {xs : List It} {m : Int}, frmB m xs = true → ∀ x, It.w x ∈ xs → wordB x = true
  | .h i :: r, m, h, x, hx => by
    rw [frmB] at h
    simp only [Bool.and_eq_true] at h
    rcases List.mem_cons.mp hx with e | e
    · cases e
    · exact frm_words h.2 x e
  | .w y :: r, m, h, x, hx => by
    rw [frmB, Bool.and_eq_true] at h
    rcases List.mem_cons.mp hx with e | e
    · cases e; exact h.1
    · exact frm_words h.2 x e
theorem flat_sum : ∀ f : Fo, f.flatten.length = (f.map List.length).sum
  | [] => rfl
  | r :: f => by rw [List.flatten_cons, List.length_append, flat_sum f]; rfl
theorem en_w (us : List Str) : (en (us.map It.w) : D) = en us := by
  show D.n false .lst ((us.map It.w).map en) = D.n false .lst (us.map en)
  rw [List.map_map]
  rfl
local macro_rules | `(tactic| walk_at "in") => `(tactic| (simp only [initE, finL, fz_sn, fz_st, fz_e, fz_eo, fz_ek, fz_dE, if_true, if_false, Bool.false_eq_true, List.map_cons, List.map_nil, List.length_cons, List.length_nil, Nat.zero_add, Nat.reduceAdd, Nat.reduceSub, List.replicate_succ, List.replicate_zero, List.cons_append, List.nil_append, Option.some.injEq, exists_eq_left']))
local macro_rules | `(tactic| walk_at "d0") => `(tactic| first
  | ((with_reducible_and_instances apply use_next); (· assumption); (· walk_at "bd"); intro _ _ _ _)
  | (with_reducible_and_instances apply w_lenset)
  | (with_reducible_and_instances apply use_lholeI) | (with_reducible_and_instances apply use_lholeX)
  | (with_reducible_and_instances apply use_lholeH) | (with_reducible_and_instances apply use_lholeW)
  | (with_reducible_and_instances apply use_lhole)
  | ((with_reducible_and_instances apply use_litems); (· assumption))
  | ((with_reducible_and_instances apply use_lshape); (· assumption)))
local macro_rules | `(tactic| walk_at "fr") => `(tactic| first | exact fr_kD _)
/-! draws of forms -/
abbrev KN : List Key := [.inr "cells", .inr "next", .inr "left", .inr "mixed"]
theorem ln_cells {v1 v2 v3 v4 : D} : lookK KN [v1, v2, v3, v4] (.inr "cells") = some v1 := by rfl
theorem ln_next {v1 v2 v3 v4 : D} : lookK KN [v1, v2, v3, v4] (.inr "next") = some v2 := by rfl
theorem ln_left {v1 v2 v3 v4 : D} : lookK KN [v1, v2, v3, v4] (.inr "left") = some v3 := by rfl
theorem ln_mixed {v1 v2 v3 v4 : D} : lookK KN [v1, v2, v3, v4] (.inr "mixed") = some v4 := by rfl
theorem pn_next : putKs KN (.inr "next" : Key) = KN := by rfl
theorem pn_left : putKs KN (.inr "left" : Key) = KN := by rfl
theorem cn_next {v1 v2 v3 v4 v : D} : putCh KN [v1, v2, v3, v4] (.inr "next" : Key) v = [v1, v, v3, v4] := by rfl
theorem cn_left {v1 v2 v3 v4 v : D} : putCh KN [v1, v2, v3, v4] (.inr "left" : Key) v = [v1, v2, v, v4] := by rfl
section
local macro_rules | `(tactic| walk_at "d0") => `(tactic| first | ((with_reducible_and_instances apply w_ixR); (· first | exact ln_cells | exact ln_next | exact ln_left | exact ln_mixed); (· first | exact rfl | exact Enc.fz _); ) | ((with_reducible_and_instances apply m_putR); (· exact rfl); (· exact (by decide : 4 < 100000)); (· first | exact pn_next | exact pn_left); (· first | exact cn_next | exact cn_left)))
theorem sem_law_begin : Sem S_law_begin t_law_begin 3 := by
  rintro _ Q0 E0 ⟨ns, rfl, hl, hq⟩
  walk_at "in"
  unfold t_law_begin
  walk_at "dg"
  refine lw_inv2 (F := fun i : Int => .p (.int i)) (fun m : Int => [.v (ek ns), .v (en m), .un]) (fun _ _ => True) 11 rfl trivial ?_ ?_
  · rintro i rest m - k hk
    walk_at "dg"
    exact hk _ _ trivial rfl
  · rintro m -
    walk_at "dg"
    exact hq ⟨ns, 0, 0, m⟩ ⟨hl, Int.le_refl 0⟩
theorem sem_law_more : Sem S_law_more t_law_more 6 := by
  rintro _ Q0 E0 ⟨⟨ns, k, l, m⟩, rfl, ⟨h1, h2⟩, hq⟩
  dsimp only at h1 h2
  walk_at "in"
  unfold t_law_more Sn.d
  walk_at "st"
  walk_at "st"
  walk_at "st"
  refine w_cut1 (fun ρ => ∃ c : Int, ρ = [.w (Sn.d ⟨ns, k + 1, l, m⟩), .v (en k), .v (en c), .un, .un, .un]) ?_ ?_
  · intro K hK
    walk_at "dg"
    refine w_if (fun c => ?_) fun c => ?_
    · have c := of_decide_eq_true c
      walk_at "dg"
      obtain ⟨x, hx1, hx2⟩ := at_in (ys := ns) (j := k) h2 c
      refine w_ixE (ys := ns) rfl hx2 ?_
      walk_at "dg"
      exact hK _ ⟨x, rfl⟩
    · walk_at "dg"
      exact hK _ ⟨_, rfl⟩
  rintro _ ⟨c, rfl⟩
  unfold Sn.d
  walk_at "dg"
  refine w_if (fun c => ?_) fun c => ?_
  · walk_at "dg"
    exact ⟨_, rfl, hq _ ⟨ns, k + 1, l, m⟩ ⟨h1, by dsimp only; omega⟩⟩
  · walk_at "dg"
    exact ⟨_, rfl, hq _ ⟨ns, k + 1, l, m⟩ ⟨h1, by dsimp only; omega⟩⟩
theorem sem_law_next : Sem S_law_next t_law_next 3 := by
  rintro _ Q0 E0 ⟨⟨ns, k, l, m⟩, b, rfl, ⟨h1, h2⟩, ⟨hb, hb2⟩, hq⟩
  dsimp only at h1 h2
  walk_at "in"
  unfold t_law_next Sn.d
  refine w_cut1 (fun ρ => ∃ s : Sn, s.ok ∧ ρ = [.w s.d, .v (en b), .un]) ?_ ?_
  · intro K hK
    walk_at "dg"
    refine w_if (fun c => ?_) fun c => ?_
    · walk_at "dg"
      refine ⟨⟨ns, k, l, m⟩, rfl, ⟨h1, h2⟩, fun v s' hs' => ?_⟩
      obtain ⟨ns', k', l', m'⟩ := s'
      unfold Sn.d
      walk_at "dg"
      exact hK _ ⟨⟨ns', k', v, m'⟩, hs', rfl⟩
    · walk_at "dg"
      exact hK _ ⟨⟨ns, k, l, m⟩, ⟨h1, h2⟩, rfl⟩
  rintro _ ⟨⟨ns, k, l, m⟩, ⟨h1, h2⟩, rfl⟩
  unfold Sn.d
  dsimp only
  walk_at "dg"
  have e1 := Int.emod_nonneg l (show b ≠ 0 by omega)
  have e2 := Int.emod_lt_of_pos l hb
  have := hq (l % b).toNat ⟨ns, k, l / b, m⟩ ⟨h1, h2⟩ (by omega)
  rw [Int.toNat_of_nonneg e1] at this
  exact ⟨_, rfl, this⟩
end
theorem fzl_mem : ∀ {ch : List D}, isFzL ch = true → ∀ c ∈ ch, c.isFz = true
  | d :: ch, h, c, hc => by
    simp only [isFzL, Bool.and_eq_true] at h
    rcases List.mem_cons.mp hc with e | e
    · rw [e]; exact h.1
    · exact fzl_mem h.2 c e
theorem sem_law_pick : Sem S_law_pick t_law_pick 2 := by
  rintro _ Q0 E0 ⟨s, d, rfl, hs, hz, ⟨o, ch, rfl, ⟨hl0, hl⟩, hq⟩ | ⟨x, rfl, ⟨hl0, hl⟩, hq⟩⟩
  · simp only [initE, finL, fz_sn, hz, if_true, if_false, Bool.false_eq_true, List.map_cons, List.map_nil, List.length_cons, List.length_nil, Nat.zero_add, Nat.reduceAdd, Nat.reduceSub, List.replicate_succ, List.replicate_zero, List.cons_append, List.nil_append, Option.some.injEq, exists_eq_left']
    unfold t_law_pick
    walk_at "dg"
    rename_i k s' hs' hk
    have hk : k < ch.length := by omega
    refine ⟨ch[k], at_nat rfl hk, ?_, ?_⟩
    · have hz : (!o && isFzL ch) = true := hz
      simp only [Bool.and_eq_true] at hz
      exact fzl_mem hz.2 _ (List.getElem_mem hk)
    · walk_at "dg"
      exact ⟨_, rfl, hq _ s' hs' (List.getElem_mem hk)⟩
  · walk_at "in"
    unfold t_law_pick
    walk_at "dg"
    rename_i k s' hs' hk c y hc ey hy
    rw [ey]
    exact ⟨_, rfl, hq k c s' hs' hc⟩
def ltS : Str := "abcdefghijklmnopqrstuvwxyzABCDEFGHIJKLMNOPQRSTUVWXYZ_"
def fgS : Str := "0123456789"
theorem lt_len : ltS.length = 53 := by decide +kernel
theorem fg_len : fgS.length = 10 := by decide +kernel
theorem lt_at {c : Nat} (h : c ∈ ltS.cps.toList) : letB c = true := by
  have key : ∀ c ∈ ltS.cps.toList, letB c = true := by decide +kernel
  exact key c h
theorem fg_at {c : Nat} (h : c ∈ fgS.cps.toList) : digB c = true := by
  have key : ∀ c ∈ fgS.cps.toList, digB c = true := by decide +kernel
  exact key c h
theorem joinL_sg : ∀ cs : List Nat, TL.joinL [] (cs.map fun c => [c]) = cs
  | [] => rfl
  | [c] => rfl
  | c :: d :: cs => by
    have ih := joinL_sg (d :: cs)
    rw [List.map_cons] at ih ⊢
    show [c] ++ [] ++ TL.joinL [] ((d :: cs).map fun c => [c]) = _
    rw [List.map_cons, ih]
    rfl
theorem join_cs (cs : List Nat) : (Txt.join (Str.ofString "") (cs.map sg)).cps.toList = cs := by
  rw [join_list, List.map_map]
  exact joinL_sg cs
theorem sum_sg (cs : List Nat) (h : cs.length ≤ 1000) : ((cs.map sg).map (·.length)).sum + (cs.map sg).length * (Str.ofString "").length ≤ 16777216 := by
  have e : ((cs.map sg).map (·.length)).sum = cs.length := by
    clear h
    induction cs with
    | nil => rfl
    | cons c cs ih =>
      rw [List.map_cons, List.map_cons, List.sum_cons, ih, List.length_cons, show (sg c).length = 1 from rfl]
      omega
  rw [e, List.length_map, show (Str.ofString "").length = 0 from rfl]
  omega
theorem sem_law_wordf : Sem S_law_wordf t_law_wordf 6 := by
  rintro _ Q0 E0 ⟨s, rfl, hs, hq⟩
  walk_at "in"
  unfold t_law_wordf
  have hS := sign_len
  have hA := @sign_word
  unfold signS at hS hA
  generalize Str.ofString "!\"#$&'()*+,-./:;<=>?\x40[\\]^`{|}~" = S at hS hA ⊢
  have hL := lt_len
  have hLA := @lt_at
  unfold ltS at hL hLA
  generalize Str.ofString "abcdefghijklmnopqrstuvwxyzABCDEFGHIJKLMNOPQRSTUVWXYZ_" = L at hL hLA ⊢
  have hF := fg_len
  have hFA := @fg_at
  unfold fgS at hF hFA
  generalize Str.ofString "0123456789" = F at hF hFA ⊢
  walk_at "dg"
  rename_i k1 s1 hs1 hk1 k2 s2 hs2 hk2
  obtain ⟨j, hj1, hj2⟩ := at_in (ys := [(0 : Int), 1, 2, 19]) (j := (k2 : Int)) (by omega) (by simp; omega)
  refine w_ixE (ys := [0, 1, 2, 19]) rfl hj2 ?_
  have hj : 0 ≤ j ∧ j ≤ 19 := by simp at hj1; omega
  obtain ⟨j, rfl⟩ := Int.eq_ofNat_of_zero_le hj.1
  walk_at "dg"
  refine w_if (fun c1 => ?_) fun c1 => ?_
  · walk_at "dg"
    refine ⟨by decide +kernel, by decide +kernel, ?_⟩
    rw [show Txt.split (Str.ofString "and def do else end for if in not or return use while") (Str.ofString " ") = keptL by decide +kernel]
    walk_at "dg"
    refine use_pickL (ys := keptL) hs2 ⟨by decide, by decide⟩ fun a s3 hs3 ha => ?_
    walk_at "dg"
    exact ⟨_, rfl, hq s3 a hs3 (kept_word a ha).1⟩
  walk_at "dg"
  refine w_if (fun c2 => ?_) fun c2 => ?_
  · walk_at "dg"
    refine use_pickS hs2 ⟨by omega, by omega⟩ fun k c s3 hs3 hc => ?_
    walk_at "dg"
    exact ⟨_, rfl, hq s3 _ hs3 (hA hc).1⟩
  walk_at "dg"
  refine w_if (fun c3 => ?_) fun c3 => ?_
  · walk_at "dg"
    refine lc_inv2 (fun s : Sn => [.w s.d, .v (en L), .v (en F), .v (en (k1 : Int)), .v (en (j : Int)), .un]) (fun rest acc s => s.ok ∧ ∃ cs : List Nat, acc = cs.map (fun c => en (sg c)) ∧ (∀ c ∈ cs, digB c = true) ∧ cs.length + rest.length = j + 1) s2 rfl ⟨hs2, [], rfl, fun _ z => (by cases z), by rw [List.length_range]; simp⟩ (by rw [List.length_range]; simp; omega) ?_ ?_
    · rintro i rest acc s ⟨g1, cs, rfl, g2, g3⟩ hl K hK
      walk_at "dg"
      refine use_pickS g1 ⟨by omega, by omega⟩ fun k c s3 hs3 hc => ?_
      walk_at "dg"
      refine hK s3 _ (by simp) ⟨hs3, cs ++ [c], by rw [List.map_append]; rfl, ?_, by rw [List.length_cons] at g3; simp; omega⟩
      intro d hd
      rcases List.mem_append.mp hd with z | z
      · exact g2 d z
      · rw [List.mem_singleton.mp z]
        exact hFA (List.mem_of_getElem? hc)
    · rintro acc s ⟨g1, cs, rfl, g2, g3⟩
      rw [List.length_nil] at g3
      walk_at "dg"
      refine w_join (ys := cs.map sg) (by rw [List.map_map]; rfl) (sum_sg cs (by omega)) ?_
      walk_at "dg"
      have hl := join_cs cs
      refine ⟨_, rfl, hq s _ g1 (dig_word ?_ ?_ fun d hd => ?_).1⟩
      · rw [← str_len, hl]; omega
      · rw [← str_len, hl]; omega
      · rw [hl] at hd; exact g2 d hd
  walk_at "dg"
  refine w_if (fun c4 => ?_) fun c4 => ?_
  · walk_at "dg"
    obtain ⟨x, hx1, hx2⟩ := at_in (ys := [(Str.ofString "0" : Str), Str.ofString "1", Str.ofString "2"]) (j := (j : Int) % 3) (by omega) (by simp; omega)
    refine w_ixE (ys := [(Str.ofString "0" : Str), Str.ofString "1", Str.ofString "2"]) rfl hx2 ?_
    have hw : wordB x = true := by
      simp only [List.mem_cons, List.not_mem_nil, or_false] at hx1
      rcases hx1 with rfl | rfl | rfl
      · exact (dig_word (by decide +kernel) (by decide +kernel) (by decide +kernel)).1
      · exact (dig_word (by decide +kernel) (by decide +kernel) (by decide +kernel)).1
      · exact (dig_word (by decide +kernel) (by decide +kernel) (by decide +kernel)).1
    walk_at "dg"
    exact ⟨_, rfl, hq s2 x hs2 hw⟩
  walk_at "dg"
  refine use_pickS hs2 ⟨by omega, by omega⟩ fun k c s3 hs3 hc => ?_
  walk_at "dg"
  refine lc_inv2 (fun s : Sn => [.w s.d, .v (en L), .v (en F), .v (en (k1 : Int)), .v (en (j : Int)), .un]) (fun rest acc s => s.ok ∧ ∃ cs : List Nat, acc = cs.map (fun c => en (sg c)) ∧ (∀ c ∈ cs, (letB c || digB c) = true) ∧ cs.length + rest.length = j) s3 rfl ⟨hs3, [], rfl, fun _ z => (by cases z), by rw [List.length_range]; simp⟩ (by rw [List.length_range]; simp; omega) ?_ ?_
  · rintro i rest acc s ⟨g1, cs, rfl, g2, g3⟩ hl K hK
    walk_at "dg"
    rename_i z ez lz
    refine use_pickS g1 ⟨by omega, by omega⟩ fun k c s4 hs4 hc => ?_
    walk_at "dg"
    refine hK s4 _ (by simp) ⟨hs4, cs ++ [c], by rw [List.map_append]; rfl, ?_, by rw [List.length_cons] at g3; simp; omega⟩
    intro d hd
    rcases List.mem_append.mp hd with y | y
    · exact g2 d y
    · rw [List.mem_singleton.mp y]
      have := List.mem_of_getElem? hc
      rw [ez, app_listS] at this
      rcases List.mem_append.mp this with y | y
      · rw [hLA y]; rfl
      · rw [hFA y, Bool.or_true]
  · rintro acc s ⟨g1, cs, rfl, g2, g3⟩
    rw [List.length_nil] at g3
    walk_at "dg"
    refine w_join (ys := cs.map sg) (by rw [List.map_map]; rfl) (sum_sg cs (by omega)) ?_
    have hl := join_cs cs
    have hll : (Txt.join (Str.ofString "") (cs.map sg)).length = cs.length := by rw [← str_len, hl]
    have h1 : (sg c).length = 1 := rfl
    walk_at "dg"
    rename_i z ez lz
    have hn : Nl z := by
      rw [ez]
      exact nl_app (nl_sg (hLA (List.mem_of_getElem? hc))) fun d hd => g2 d (by rw [hl] at hd; exact hd)
    have := nl_name hn (by omega)
    unfold nameB at this
    rw [Bool.and_eq_true] at this
    exact ⟨_, rfl, hq s z g1 this.1⟩
theorem sumN_le : ∀ (xs : List Nat) (b : Nat), (∀ x ∈ xs, x ≤ b) → xs.sum ≤ b * xs.length
  | [], _, _ => Nat.zero_le _
  | x :: xs, b, h => by
    have := sumN_le xs b fun y hy => h y (List.mem_cons_of_mem _ hy)
    have := h x (List.mem_cons_self ..)
    rw [List.sum_cons, List.length_cons, Nat.mul_succ]
    omega
theorem sem_law_pool : Sem S_law_pool t_law_pool 2 := by
  rintro _ Q0 E0 ⟨s, rfl, hs, hq⟩
  walk_at "in"
  unfold t_law_pool
  walk_at "dg"
  rename_i k1 s1 hs1 hk1
  refine w_if (fun c1 => ?_) fun c1 => ?_
  · walk_at "dg"
    refine ⟨_, rfl, hq s1 [Str.ofString "1", Str.ofString "11", Str.ofString "2", Str.ofString "12", Str.ofString "21"] hs1 ⟨by decide, fun x hx => ?_⟩⟩
    simp only [List.mem_cons, List.not_mem_nil, or_false] at hx
    rcases hx with rfl | rfl | rfl | rfl | rfl <;> exact (dig_word (by decide +kernel) (by decide +kernel) (by decide +kernel)).1
  · walk_at "dg"
    rename_i k2 s2 hs2 hk2
    refine lc_inv2 (fun s : Sn => [.w s.d, .un]) (fun rest acc s => s.ok ∧ ∃ xs : List Str, acc = xs.map en ∧ (∀ x ∈ xs, wordB x = true) ∧ xs.length + rest.length = k2 + 1) s2 rfl ⟨hs2, [], rfl, fun _ z => (by cases z), by rw [List.length_range]; simp; omega⟩ (by rw [List.length_range]; simp; omega) ?_ ?_
    · rintro i rest acc s ⟨g1, xs, rfl, g2, g3⟩ hl K hK
      walk_at "dg"
      refine use_wordf g1 fun s3 x hs3 hx => ?_
      walk_at "dg"
      refine hK s3 _ (by simp) ⟨hs3, xs ++ [x], by rw [List.map_append]; rfl, ?_, by rw [List.length_cons] at g3; simp; omega⟩
      intro d hd
      rcases List.mem_append.mp hd with z | z
      · exact g2 d z
      · rw [List.mem_singleton.mp z]
        exact hx
    · rintro acc s ⟨g1, xs, rfl, g2, g3⟩
      rw [List.length_nil] at g3
      walk_at "dg"
      exact ⟨_, rfl, hq s xs g1 ⟨⟨by omega, by omega⟩, g2⟩⟩
theorem sem_law_shape : Sem S_law_shape t_law_shape 3 := by
  rintro _ Q0 E0 ⟨s, rfl, hs, hq⟩
  walk_at "in"
  unfold t_law_shape
  walk_at "dg"
  rename_i k1 s1 hs1 hk1
  refine w_if (fun c1 => ?_) fun c1 => ?_
  · walk_at "dg"
    have := hq s1 (List.replicate 60 1) hs1 ⟨by decide, by decide, by decide⟩
    exact ⟨_, rfl, this⟩
  walk_at "dg"
  refine w_if (fun c2 => ?_) fun c2 => ?_
  · walk_at "dg"
    exact ⟨_, rfl, hq s1 [30, 0, 30] hs1 ⟨by decide, by decide, by decide⟩⟩
  walk_at "dg"
  rename_i k2 s2 hs2 hk2
  refine lc_inv2 (fun s : Sn => [.w s.d, .v (en (k1 : Int)), .un]) (fun rest acc s => s.ok ∧ ∃ sh : List Nat, acc = sh.map (fun n => en ((n : Nat) : Int)) ∧ (∀ x ∈ sh, x ≤ 4) ∧ sh.length + rest.length = k2) s2 rfl ⟨hs2, [], rfl, fun _ z => (by cases z), by rw [List.length_range]; simp⟩ (by rw [List.length_range]; simp; omega) ?_ ?_
  · rintro i rest acc s ⟨g1, xs, rfl, g2, g3⟩ hl K hK
    walk_at "dg"
    rename_i x s3 hs3 hx
    refine hK s3 _ (by simp) ⟨hs3, xs ++ [x], by rw [List.map_append]; rfl, ?_, by rw [List.length_cons] at g3; simp; omega⟩
    intro d hd
    rcases List.mem_append.mp hd with z | z
    · exact g2 d z
    · rw [List.mem_singleton.mp z]
      omega
  · rintro acc s ⟨g1, xs, rfl, g2, g3⟩
    rw [List.length_nil] at g3
    walk_at "dg"
    have := hq s xs g1 ⟨by omega, fun n hn => by have := g2 n hn; omega, Nat.le_trans (sumN_le xs 4 g2) (by omega)⟩
    unfold nI eo at this
    rw [List.map_map] at this
    exact ⟨_, rfl, this⟩
theorem sem_law_in_rows : Sem S_law_in_rows t_law_in_rows 5 := by
  rintro _ Q0 E0 ⟨xs, sh, rfl, h1, h2, h3, hq⟩
  walk_at "in"
  unfold t_law_in_rows
  walk_at "dg"
  rw [show (nI sh).map (en : Int → D) = sh.map (fun n : Nat => en (n : Int)) by unfold nI; rw [List.map_map]; rfl]
  refine lw_inv2 (fun z : Fo × Nat => [.v (en xs), .v (en (nI sh)), .v (eoo z.1), .v (en (z.2 : Int)), .un]) (fun rest z => z.1 ++ inR (xs.drop z.2) rest = inR xs sh ∧ z.2 + rest.sum ≤ 5000 ∧ z.1.length + rest.length ≤ 5000) ([], 0) rfl ⟨rfl, by simpa using h3, by simpa using h2⟩ ?_ ?_
  · rintro n rest ⟨found, a⟩ ⟨g1, g2, g3⟩ k hk
    rw [List.sum_cons] at g2
    rw [List.length_cons] at g3
    dsimp only at g1 g2 g3 ⊢
    walk_at "dg"
    have e : cutD xs (some (a : Int)) (some ((a : Int) + (n : Int))) = (xs.drop a).take n := by
      rw [show (a : Int) + (n : Int) = ((a + n : Nat) : Int) by omega]
      unfold cutD
      rw [HT.sIx_nat, HT.sIx_nat]
      by_cases ha : a ≤ xs.length
      · rw [show min a xs.length = a by omega, List.take_eq_take_iff, List.length_drop]
        omega
      · rw [List.drop_eq_nil_of_le (by omega), List.drop_eq_nil_of_le (show xs.length ≤ a by omega), List.take_nil, List.take_nil]
    rw [e]
    refine hk (found ++ [(xs.drop a).take n], a + n) _ ⟨?_, by dsimp only; omega, by dsimp only; rw [List.length_append, List.length_singleton]; omega⟩ ?_
    · dsimp only
      rw [← g1, List.append_assoc, inR, ← List.drop_drop]
      rfl
    · unfold eoo
      dsimp only
      rw [List.map_append]
      rfl
  · rintro ⟨found, a⟩ ⟨g1, g2, g3⟩
    walk_at "dg"
    have e : found = inR xs sh := by rw [← g1]; simp [inR]
    rw [← e] at hq
    exact hq
theorem sem_law_items : Sem S_law_items t_law_items 3 := by
  rintro _ Q0 E0 ⟨f, rfl, ⟨h1, h2, h3⟩, hq⟩
  walk_at "in"
  unfold t_law_items
  walk_at "dg"
  refine lw_inv2 (fun z : List It => [.v (en f), .v (eo z), .un]) (fun rest z => z ++ rest.flatten = f.flatten) [] rfl rfl ?_ ?_
  · rintro r rest z hz k hk
    have : z.length + r.length ≤ 100000 := by
      have := congrArg List.length hz
      rw [List.flatten_cons, List.length_append, List.length_append] at this
      omega
    walk_at "dg"
    refine hk (z ++ r) _ (by rw [List.append_assoc]; exact hz) rfl
  · rintro z hz
    walk_at "dg"
    rw [List.flatten_nil, List.append_nil] at hz
    rw [hz]
    exact hq
theorem sem_law_shape_of : Sem S_law_shape_of t_law_shape_of 2 := by
  rintro _ Q0 E0 ⟨f, rfl, hf, hq⟩
  have hl := hf.1
  walk_at "in"
  unfold t_law_shape_of
  walk_at "dg"
  refine lc_enc (fun r : List It => (r.length : Int)) ?_ (by omega) ?_
  · intro r hr acc k k' hn hk
    walk_at "dg"
    exact hk
  walk_at "dg"
  exact hq
theorem sem_law_copyf : Sem S_law_copyf t_law_copyf 2 := by
  rintro _ Q0 E0 ⟨f, rfl, hf, hq⟩
  have hl := hf.1
  walk_at "in"
  unfold t_law_copyf
  walk_at "dg"
  refine lc_all (w := fun r : List It => eo r) ?_ (by omega) ?_
  · intro r hr acc k k' hn hk
    walk_at "dg"
    exact hk
  walk_at "dg"
  exact hq
theorem sem_law_hole : Sem S_law_hole t_law_hole 1 := by
  rintro _ Q0 E0 ⟨d, rfl, hz, hk, hq⟩
  simp only [initE, finL, hz, if_true, List.map_cons, List.map_nil, List.length_cons, List.length_nil, Nat.zero_add, Nat.reduceAdd, Nat.reduceSub, List.replicate_succ, List.replicate_zero, List.cons_append, List.nil_append, Option.some.injEq, exists_eq_left']
  unfold t_law_hole
  walk_at "dg"
  by_cases hi : tyN d = "int"
  · rw [hi] at hq
    refine w_isiT (by rw [hi]; rfl) (by rw [hi]; rfl) ?_
    walk_at "dg"
    refine w_isiF (by rw [hi]; rfl) (by rw [hi]; rfl) ?_
    walk_at "dg"
    exact hq
  · have hn : (tyN d == "int") = false := by simpa using hi
    rw [hn] at hq
    by_cases hb : tyN d = "bool"
    · refine w_isiT (by rw [hb]; rfl) (by rw [hb]; rfl) ?_
      walk_at "dg"
      refine w_isiT (by rw [hb]; rfl) (by rw [hb]; rfl) ?_
      walk_at "dg"
      exact hq
    · refine w_isiF (by rw [hk]; rfl) (by unfold isiB; simp [hi, hb]) ?_
      walk_at "dg"
      exact hq
/-- the numbers of keys -/
def kvG {κ : Type} (seen : List κ) : List (κ × Int) := seen.zipIdx.map fun p => (p.1, (p.2 : Int))
theorem kvG_add {κ : Type} (seen : List κ) (w : κ) : kvG (seen ++ [w]) = kvG seen ++ [(w, (seen.length : Int))] := by
  unfold kvG
  rw [List.zipIdx_append, List.map_append]
  simp
theorem kvG_len {κ : Type} (seen : List κ) : (kvG seen).length = seen.length := by unfold kvG; simp
theorem kvG_go {κ : Type} [DecidableEq κ] (w : κ) : ∀ (seen : List κ) (n : Nat), aget (seen.zipIdx n |>.map fun p => (p.1, (p.2 : Int))) w = if w ∈ seen then some ((n + seen.idxOf w : Nat) : Int) else none
  | [], n => rfl
  | x :: seen, n => by
    rw [List.zipIdx_cons, List.map_cons]
    have ih := kvG_go w seen (n + 1)
    show (if x = w then some ((n : Nat) : Int) else aget ((seen.zipIdx (n + 1)).map fun p => (p.1, (p.2 : Int))) w) = _
    by_cases e : x = w
    · subst e; simp
    · have e2 : ¬ w = x := fun z => e z.symm
      rw [if_neg e, ih]
      by_cases m : w ∈ seen
      · have e3 : (x == w) = false := by simpa using e
        rw [if_pos m, if_pos (List.mem_cons_of_mem _ m), List.idxOf_cons, e3]
        simp only [cond_false]
        congr 2
        omega
      · rw [if_neg m, if_neg (by simp [e2, m])]
theorem kvG_get {κ : Type} [DecidableEq κ] (seen : List κ) (w : κ) : aget (kvG seen) w = if w ∈ seen then some ((seen.idxOf w : Nat) : Int) else none := by
  have := kvG_go w seen 0
  rw [Nat.zero_add] at this
  exact this
theorem eo_add {α : Type} [Enc α] (xs : List α) (x : α) : (eo (xs ++ [x]) : D) = .n true .lst (xs.map en ++ [en x]) := by unfold eo; rw [List.map_append]; rfl
theorem inR_flat : ∀ (sh : List Nat) (xs : List It), xs.length = sh.sum → (inR xs sh).map List.length = sh ∧ (inR xs sh).flatten = xs
  | [], xs, h => by
    have : xs = [] := List.length_eq_zero_iff.mp (by simpa using h)
    subst this
    exact ⟨rfl, rfl⟩
  | n :: sh, xs, h => by
    rw [List.sum_cons] at h
    obtain ⟨h1, h2⟩ := inR_flat sh (xs.drop n) (by rw [List.length_drop]; omega)
    unfold inR
    rw [List.map_cons, List.flatten_cons, h1, h2, List.length_take, List.take_append_drop]
    exact ⟨by congr 1; omega, rfl⟩
section
variable {κ : Type} [DecidableEq κ]
theorem num_len : ∀ (ks : List (Str ⊕ κ)) (seen : List κ), (numF seen ks).length = ks.length
  | [], _ => rfl
  | .inl x :: r, seen => by rw [numF, List.length_cons, List.length_cons, num_len r]
  | .inr k :: r, seen => by
    rw [numF]
    split
    · rw [List.length_cons, List.length_cons, num_len r]
    · rw [List.length_cons, List.length_cons, num_len r]
theorem num_frm : ∀ (ks : List (Str ⊕ κ)) (seen : List κ), (∀ x, Sum.inl x ∈ ks → wordB x = true) → frmB (seen.length : Nat) (numF seen ks) = true
  | [], _, _ => rfl
  | .inl x :: r, seen, h => by
    rw [numF, frmB, h x (List.mem_cons_self ..), num_frm r seen fun y hy => h y (List.mem_cons_of_mem _ hy)]
    rfl
  | .inr k :: r, seen, h => by
    have h' : ∀ x, Sum.inl x ∈ r → wordB x = true := fun y hy => h y (List.mem_cons_of_mem _ hy)
    rw [numF]
    split
    · rename_i m
      have := List.idxOf_lt_length_of_mem m
      rw [frmB, decide_eq_true (by omega), decide_eq_true (by omega), show max (seen.length : Int) ((seen.idxOf k : Nat) + 1) = (seen.length : Nat) by omega, num_frm r seen h']
      rfl
    · have := num_frm r (seen ++ [k]) h'
      rw [List.length_append, List.length_singleton] at this
      rw [frmB, decide_eq_true (by omega), decide_eq_true (by omega), show max (seen.length : Int) ((seen.length : Nat) + 1) = ((seen.length + 1 : Nat) : Int) by omega, this]
      rfl
def allF : List κ → List (Str ⊕ κ) → List κ
  | seen, [] => seen
  | seen, .inl _ :: r => allF seen r
  | seen, .inr k :: r => if k ∈ seen then allF seen r else allF (seen ++ [k]) r
theorem all_pre : ∀ (ks : List (Str ⊕ κ)) (seen : List κ), ∃ t, allF seen ks = seen ++ t
  | [], seen => ⟨[], by rw [List.append_nil]; rfl⟩
  | .inl x :: r, seen => all_pre r seen
  | .inr k :: r, seen => by
    rw [allF]
    split
    · exact all_pre r seen
    · obtain ⟨t, e⟩ := all_pre r (seen ++ [k])
      exact ⟨k :: t, by rw [e, List.append_assoc]; rfl⟩
def rnK (all : List κ) : Str ⊕ κ → It
  | .inl x => .w x
  | .inr k => .h (all.idxOf k : Nat)
theorem num_map : ∀ (ks : List (Str ⊕ κ)) (seen : List κ), numF seen ks = ks.map (rnK (allF seen ks))
  | [], _ => rfl
  | .inl x :: r, seen => by
    rw [numF, allF, List.map_cons, num_map r]
    rfl
  | .inr k :: r, seen => by
    rw [numF, allF]
    split
    · rename_i m
      obtain ⟨t, e⟩ := all_pre r seen
      rw [List.map_cons, num_map r]
      congr 1
      rw [e]
      show It.h ((seen.idxOf k : Nat) : Int) = It.h (((seen ++ t).idxOf k : Nat) : Int)
      rw [List.idxOf_append, if_pos m]
    · rename_i m
      obtain ⟨t, e⟩ := all_pre r (seen ++ [k])
      rw [List.map_cons, num_map r]
      congr 1
      rw [e]
      show It.h ((seen.length : Nat) : Int) = It.h (((seen ++ [k] ++ t).idxOf k : Nat) : Int)
      rw [List.idxOf_append, if_pos (by simp), List.idxOf_append, if_neg m]
      simp
def putK (kf : List (Str ⊕ κ)) : It → Str ⊕ κ
  | .w x => .inl x
  | .h i => (kf[i.toNat]?).getD (.inl (Str.ofString ""))
end
theorem frm_form {sh : List Nat} {f : Fo} (hs : Shp sh) (hf : Frm sh f) : Fb f ∧ formB f = true := by
  obtain ⟨h1, h2, h3⟩ := hs
  obtain ⟨g1, g2⟩ := hf
  have el : f.length = sh.length := by rw [← g1, List.length_map]
  have ef : f.flatten.length = sh.sum := by rw [flat_sum, g1]
  refine ⟨⟨by omega, by omega, fun x hx => ?_⟩, ?_⟩
  · have := frm_words g2 x hx
    unfold wordB at this
    simp only [Bool.and_eq_true, decide_eq_true_eq] at this
    omega
  · unfold formB tabB
    rw [g2, Bool.and_true, decide_eq_true (by omega), Bool.true_and, List.all_eq_true]
    exact fun r hr => decide_eq_true (h2 _ (by rw [← g1]; exact List.mem_map_of_mem hr))
theorem nI_sum : ∀ sh : List Nat, (nI sh).sum = ((sh.sum : Nat) : Int)
  | [] => rfl
  | n :: sh => by
    have ih := nI_sum sh
    unfold nI at ih ⊢
    rw [List.map_cons, List.sum_cons, List.sum_cons, ih]
    show (n : Int) + _ = _
    omega
theorem frm_num {κ : Type} [DecidableEq κ] {sh : List Nat} {ks : List (Str ⊕ κ)} (hl : ks.length = sh.sum) (hw : ∀ x, Sum.inl x ∈ ks → wordB x = true) : Frm sh (inR (numF [] ks) sh) ∧ (inR (numF [] ks) sh).flatten = numF [] ks := by
  obtain ⟨h1, h2⟩ := inR_flat sh (numF [] ks) (by rw [num_len, hl])
  exact ⟨⟨h1, by rw [h2]; exact num_frm ks [] hw⟩, h2⟩
theorem shp_nI {f : Fo} {sh : List Nat} (h : f.map List.length = sh) : shp f = nI sh := by
  rw [← h]
  unfold shp nI
  rw [List.map_map]
  rfl
def kOf : It → Str ⊕ Int
  | .w x => .inl x
  | .h i => .inr i
--@@
/-! leading: plain laws -/
/-- holes put for themselves -/
def idI (n : Nat) : List It := (List.range n).map fun i : Nat => It.h (i : Int)
/-! forms and stretches made another shape -/
theorem cutD_from {α : Type} {xs : List α} {l : Nat} (h : l ≤ xs.length) : cutD xs (some (l : Int)) none = xs.drop l := by
  cases l with
  | zero =>
    unfold cutD HT.sIx
    simp
  | succ l =>
    have := cutD_lo (xs := xs) (l := l) (by omega)
    rw [show ((l + 1 : Nat) : Int) = (l : Int) + 1 by omega]
    exact this
theorem cutD_last {α : Type} (xs : List α) : (cutD xs (some ((xs.length : Int) - 1)) none).length ≤ 1 := by
  cases xs with
  | nil => exact Nat.le_trans (cutD_len _ _ _) (by simp)
  | cons x xs =>
    rw [show (((x :: xs).length : Nat) : Int) - 1 = (xs.length : Nat) by rw [List.length_cons]; omega, cutD_from (by rw [List.length_cons]; omega), List.length_drop, List.length_cons]
    omega
theorem max_len (n : Nat) : ∃ m : Nat, (if (n : Int) > 1 then (n : Int) else 1) = (m : Int) ∧ 0 < m ∧ (0 < n → m = n) ∧ (n = 0 → m = 1) := by
  by_cases h : n > 1
  · exact ⟨n, by rw [if_pos (by omega)], by omega, fun _ => rfl, fun _ => by omega⟩
  · exact ⟨1, by rw [if_neg (by omega)]; rfl, by omega, fun _ => by omega, fun _ => rfl⟩
theorem mod_nat (p : Nat) {m : Nat} (h : 0 < m) : ∃ a : Nat, (p : Int) % (m : Int) = (a : Int) ∧ a < m := ⟨p % m, by omega, Nat.mod_lt _ h⟩
theorem fz0 : (D.n true .lst [D.n true .lst []]).fz = en ([[]] : Fo) := by simp only [D.fz, fzL]; rfl
theorem fz1 (r : List It) : (D.n true .lst [eo r]).fz = en ([r] : Fo) := by simp only [D.fz, fzL]; rw [fzL_of (fzl_e r)]; rfl
theorem fz2 (r s : List It) : (D.n true .lst [eo r, eo s]).fz = en ([r, s] : Fo) := by simp only [D.fz, fzL]; rw [fzL_of (fzl_e r), fzL_of (fzl_e s)]; rfl
theorem rs_ok {f A B C : Fo} (hf : tabB f = true) (hA : ∀ r ∈ A, r ∈ f) (hC : ∀ r ∈ C, r ∈ f) (hB : ∀ r ∈ B, r.length ≤ 30 ∧ ∀ t ∈ r, t ∈ f.flatten ∨ t = .w (Str.ofString "x")) (hl : (A ++ B ++ C).length ≤ 60) :
    tabB (A ++ B ++ C) = true ∧ ∀ t ∈ (A ++ B ++ C).flatten, t ∈ f.flatten ∨ t = .w (Str.ofString "x") := by
  have key : ∀ r ∈ A ++ B ++ C, r.length ≤ 30 ∧ ∀ t ∈ r, t ∈ f.flatten ∨ t = .w (Str.ofString "x") := by
    have kf : ∀ r ∈ f, r.length ≤ 30 ∧ ∀ t ∈ r, t ∈ f.flatten ∨ t = .w (Str.ofString "x") := fun r hr => by
      unfold tabB at hf
      simp only [Bool.and_eq_true, List.all_eq_true, decide_eq_true_eq] at hf
      exact ⟨hf.2 r hr, fun t ht => .inl (List.mem_flatten.mpr ⟨r, hr, ht⟩)⟩
    intro r hr
    rcases List.mem_append.mp hr with hr | hr
    · rcases List.mem_append.mp hr with hr | hr
      · exact kf r (hA r hr)
      · exact hB r hr
    · exact kf r (hC r hr)
  refine ⟨?_, fun t ht => ?_⟩
  · unfold tabB
    rw [decide_eq_true hl, Bool.true_and, List.all_eq_true]
    exact fun r hr => decide_eq_true (key r hr).1
  · obtain ⟨r, hr, ht⟩ := List.mem_flatten.mp ht
    exact (key r hr).2 t ht
theorem sem_law_reshaped : Sem S_law_reshaped t_law_reshaped 6 := by
  rintro _ Q0 E0 ⟨w, p, f, rfl, hf, ht, hq⟩
  have hl := hf.1
  have htl : f.length ≤ 60 := by
    unfold tabB at ht
    simp only [Bool.and_eq_true, decide_eq_true_eq] at ht
    exact ht.1
  have htr : ∀ r ∈ f, r.length ≤ 30 := fun r hr => by
    unfold tabB at ht
    simp only [Bool.and_eq_true, List.all_eq_true, decide_eq_true_eq] at ht
    exact ht.2 r hr
  walk_at "in"
  unfold t_law_reshaped
  walk_at "dg"
  refine ⟨1, (f.length : Int), rfl, ?_⟩
  obtain ⟨m, em, hm0, hm1⟩ := max_len f.length
  rw [em]
  walk_at "dn"
  obtain ⟨a, ea, ha⟩ := mod_nat p hm0
  rw [ea]
  have ha1 : a ≤ f.length := by omega
  have ha2 : f ≠ [] → a < f.length := fun h => by have := List.length_pos_iff.mpr h; omega
  clear ea em
  refine w_cut1 (fun ρ => ρ = [.v (en (w : Int)), .v (en (p : Int)), .v (en f), .v (en (a : Int)), .un, .un]) ?_ ?_
  · intro K hK
    walk_at "dg"
    refine w_if (fun c => ?_) fun c => ?_
    · walk_at "dg"
      refine w_if (fun q2 => ?_) fun q2 => ?_
      · have q2 := of_decide_eq_true q2
        walk_at "dg"
        rw [fz0]
        have l1 := cutD_len f none (some (a : Int))
        have l2 := cutD_len f (some (a : Int)) none
        walk_at "dg"
        have c3 := cutD_from (xs := f) (l := a) ha1
        have c4 := cutD_hi (xs := f) (l := a) ha1
        have hlen : (cutD f none (some (a : Int)) ++ [[]] ++ cutD f (some (a : Int)) none).length = f.length + 1 := by
          rw [c3, c4, List.length_append, List.length_append, List.length_take, List.length_drop, List.length_singleton]
          omega
        obtain ⟨t1, t2⟩ := rs_ok (f := f) (A := cutD f none (some (a : Int))) (B := [[]]) (C := cutD f (some (a : Int)) none) ht (fun r hr => cutD_mem hr) (fun r hr => cutD_mem hr) (fun r hr => by
          rw [List.mem_singleton.mp hr]
          exact ⟨by simp, fun t h => (by cases h)⟩) (by omega)
        exact hq _ _ (fr_eo _) (by omega) t1 t2
      · walk_at "dg"
        exact hK _ rfl
    · walk_at "dg"
      exact hK _ rfl
  rintro _ rfl
  refine w_cut1 (fun ρ => f ≠ [] ∧ ρ = [.v (en (w : Int)), .v (en (p : Int)), .v (en f), .v (en (a : Int)), .un, .un]) ?_ ?_
  · intro K hK
    walk_at "dg"
    refine w_if (fun c => ?_) fun c => ?_
    · walk_at "dg"
      refine hq _ f (fr_e _) (by omega) ht fun t ht => .inl ht
    · walk_at "dg"
      exact hK _ ⟨dc_f.mp c, rfl⟩
  rintro _ ⟨hne, rfl⟩
  have ha := ha2 hne
  walk_at "st"
  rename_i r hr hgr
  have hrl := htr r hr
  have l1 := cutD_len f none (some (a : Int))
  have l2 := cutD_len f (some ((a : Int) + 1)) none
  have c1 := cutD_hi (xs := f) (l := a) (by omega)
  have c2 := cutD_lo (xs := f) (l := a) (by omega)
  refine w_cut1 (fun ρ => ∃ k : Nat, k ≤ r.length ∧ ρ = [.v (en (w : Int)), .v (en (p : Int)), .v (en f), .v (en (a : Int)), .v (en r), .v (en (k : Int))]) ?_ ?_
  · intro K hK
    walk_at "dg"
    refine ⟨1, (r.length : Int), rfl, ?_⟩
    obtain ⟨m, em, hm0, hm1⟩ := max_len r.length
    rw [em]
    rw [show (p : Int) / 61 = ((p / 61 : Nat) : Int) by omega]
    walk_at "dg"
    obtain ⟨k, ek, hk⟩ := mod_nat (p / 61) hm0
    rw [ek]
    exact hK _ ⟨k, by omega, rfl⟩
  rintro _ ⟨k, hk, rfl⟩
  have d1 := cutD_hi (xs := r) (l := k) hk
  have d2 := cutD_from (xs := r) (l := k) hk
  have d3 := cutD_lo (xs := r) (l := k) hk
  refine w_cut1 (fun ρ => ρ = [.v (en (w : Int)), .v (en (p : Int)), .v (en f), .v (en (a : Int)), .v (en r), .v (en (k : Int))]) ?_ ?_
  · intro K hK
    walk_at "dg"
    refine w_if (fun c => ?_) fun c => ?_
    · walk_at "dg"
      have hlen : (cutD f none (some (a : Int)) ++ [] ++ cutD f (some ((a : Int) + 1)) none).length ≤ f.length := by
        rw [c1, c2, List.append_nil, List.length_append, List.length_take, List.length_drop]
        omega
      obtain ⟨t1, t2⟩ := rs_ok (f := f) (A := cutD f none (some (a : Int))) (B := []) (C := cutD f (some ((a : Int) + 1)) none) ht (fun r hr => cutD_mem hr) (fun r hr => cutD_mem hr) (fun r hr => by cases hr) (by omega)
      rw [List.append_nil] at t1 t2 hlen
      exact hq _ _ (fr_eo _) (by omega) t1 t2
    · walk_at "dg"
      exact hK _ rfl
  rintro _ rfl
  refine w_cut1 (fun ρ => ρ = [.v (en (w : Int)), .v (en (p : Int)), .v (en f), .v (en (a : Int)), .v (en r), .v (en (k : Int))]) ?_ ?_
  · intro K hK
    walk_at "dg"
    refine w_if (fun c => ?_) fun c => ?_
    · walk_at "dg"
      refine w_if (fun q2 => ?_) fun q2 => ?_
      · have q2 := of_decide_eq_true q2
        walk_at "dg"
        have m1 := cutD_len r none (some (k : Int))
        have m2 := cutD_len r (some (k : Int)) none
        refine w_addLE (xs := cutD r none (some (k : Int))) (ys := [It.w (Str.ofString "x")]) (by simp; omega) ?_
        have m3 : (cutD r none (some (k : Int)) ++ [It.w (Str.ofString "x")]).length ≤ 40 := by rw [List.length_append, List.length_singleton]; omega
        walk_at "dg"
        rw [fz1]
        have m4 : (cutD f none (some (a : Int))).length + ([cutD r none (some (k : Int)) ++ [It.w (Str.ofString "x")] ++ cutD r (some (k : Int)) none] : Fo).length ≤ 100000 := by rw [List.length_singleton]; omega
        walk_at "dg"
        have hlen : (cutD f none (some (a : Int)) ++ [cutD r none (some (k : Int)) ++ [It.w (Str.ofString "x")] ++ cutD r (some (k : Int)) none] ++ cutD f (some ((a : Int) + 1)) none).length ≤ f.length := by
          rw [c1, c2, List.length_append, List.length_append, List.length_take, List.length_drop, List.length_singleton]
          omega
        obtain ⟨t1, t2⟩ := rs_ok (f := f) (A := cutD f none (some (a : Int))) (B := [cutD r none (some (k : Int)) ++ [It.w (Str.ofString "x")] ++ cutD r (some (k : Int)) none]) (C := cutD f (some ((a : Int) + 1)) none) ht (fun r hr => cutD_mem hr) (fun r hr => cutD_mem hr) (fun q hq => by
          rw [List.mem_singleton.mp hq]
          refine ⟨?_, fun t ht => ?_⟩
          · rw [d1, d2, List.length_append, List.length_append, List.length_take, List.length_drop, List.length_singleton]
            omega
          · rcases List.mem_append.mp ht with z | z
            · rcases List.mem_append.mp z with z | z
              · exact .inl (List.mem_flatten.mpr ⟨r, hr, cutD_mem z⟩)
              · exact .inr (List.mem_singleton.mp z)
            · exact .inl (List.mem_flatten.mpr ⟨r, hr, cutD_mem z⟩)) (by omega)
        exact hq _ _ (fr_eo _) (by omega) t1 t2
      · walk_at "dg"
        exact hK _ rfl
    · walk_at "dg"
      exact hK _ rfl
  rintro _ rfl
  refine w_cut1 (fun ρ => ρ = [.v (en (w : Int)), .v (en (p : Int)), .v (en f), .v (en (a : Int)), .v (en r), .v (en (k : Int))]) ?_ ?_
  · intro K hK
    walk_at "dg"
    refine w_if (fun c => ?_) fun c => ?_
    · walk_at "dg"
      refine w_if (fun q2 => ?_) fun q2 => ?_
      · have q2 := of_decide_eq_true q2
        walk_at "dg"
        rw [show (a : Int) + 1 = ((a + 1 : Nat) : Int) by omega]
        walk_at "dg"
        rename_i q hq1 hq2
        refine w_if (fun c3 => ?_) fun c3 => ?_
        · have c3 := of_decide_eq_true c3
          walk_at "dg"
          rw [show (a : Int) + 1 = ((a + 1 : Nat) : Int) by omega]
          walk_at "dg"
          rename_i q' hq1' hq2'
          have eq' : q' = q := by
            rw [hq2] at hq2'
            exact (Option.some.inj hq2').symm
          subst eq'
          have n1 := cutD_len r none (some ((r.length : Int) - 1))
          have n2 := cutD_last r
          have q30 := htr _ hq1
          walk_at "dg"
          rw [fz2]
          walk_at "dg"
          have c5 : cutD f (some ((a : Int) + 2)) none = f.drop (a + 2) := by
            rw [show (a : Int) + 2 = ((a + 2 : Nat) : Int) by omega]
            exact cutD_from (by omega)
          have l5 := cutD_len f (some ((a : Int) + 2)) none
          refine w_addLE (by simp only [List.length_append, List.length_cons, List.length_nil]; omega) ?_
          walk_at "dg"
          have hlen : (cutD f none (some (a : Int)) ++ [cutD r none (some ((r.length : Int) - 1)), cutD r (some ((r.length : Int) - 1)) none ++ q'] ++ cutD f (some ((a : Int) + 2)) none).length ≤ f.length := by
            rw [c1, c5, List.length_append, List.length_append, List.length_take, List.length_drop]
            simp only [List.length_cons, List.length_nil]
            omega
          obtain ⟨t1, t2⟩ := rs_ok (f := f) (A := cutD f none (some (a : Int))) (B := [cutD r none (some ((r.length : Int) - 1)), cutD r (some ((r.length : Int) - 1)) none ++ q']) (C := cutD f (some ((a : Int) + 2)) none) ht (fun r hr => cutD_mem hr) (fun r hr => cutD_mem hr) (fun v hv => by
            rcases List.mem_cons.mp hv with e | e
            · rw [e]
              exact ⟨by omega, fun t ht => .inl (List.mem_flatten.mpr ⟨r, hr, cutD_mem ht⟩)⟩
            · rw [List.mem_singleton.mp e]
              refine ⟨by rw [List.length_append]; omega, fun t ht => ?_⟩
              rcases List.mem_append.mp ht with z | z
              · exact .inl (List.mem_flatten.mpr ⟨r, hr, cutD_mem z⟩)
              · exact .inl (List.mem_flatten.mpr ⟨q', hq1, z⟩)) (by omega)
          exact hq _ _ (fr_eo _) (by omega) t1 t2
        · walk_at "dg"
          exact hK _ rfl
      · walk_at "dg"
        exact hK _ rfl
    · walk_at "dg"
      exact hK _ rfl
  rintro _ rfl
  have m1 := cutD_len r none (some (k : Int))
  have m2 := cutD_len r (some ((k : Int) + 1)) none
  walk_at "dg"
  rw [fz1]
  have m4 : (cutD f none (some (a : Int))).length + ([cutD r none (some (k : Int)) ++ cutD r (some ((k : Int) + 1)) none] : Fo).length ≤ 100000 := by rw [List.length_singleton]; omega
  walk_at "dg"
  have hlen : (cutD f none (some (a : Int)) ++ [cutD r none (some (k : Int)) ++ cutD r (some ((k : Int) + 1)) none] ++ cutD f (some ((a : Int) + 1)) none).length ≤ f.length := by
    rw [c1, c2, List.length_append, List.length_append, List.length_take, List.length_drop, List.length_singleton]
    omega
  obtain ⟨t1, t2⟩ := rs_ok (f := f) (A := cutD f none (some (a : Int))) (B := [cutD r none (some (k : Int)) ++ cutD r (some ((k : Int) + 1)) none]) (C := cutD f (some ((a : Int) + 1)) none) ht (fun r hr => cutD_mem hr) (fun r hr => cutD_mem hr) (fun q hq => by
    rw [List.mem_singleton.mp hq]
    refine ⟨?_, fun t ht => ?_⟩
    · rw [d1, d3, List.length_append, List.length_take, List.length_drop]
      omega
    · rcases List.mem_append.mp ht with z | z
      · exact .inl (List.mem_flatten.mpr ⟨r, hr, cutD_mem z⟩)
      · exact .inl (List.mem_flatten.mpr ⟨r, hr, cutD_mem z⟩)) (by omega)
  exact hq _ _ (fr_eo _) (by omega) t1 t2
theorem py_oo {α : Type} [Enc α] (rows : List (List α)) : toPy (eoo rows) = toPy (en rows) := by
  show toPy (.n true .lst (rows.map eo)) = toPy (.n false .lst (rows.map en))
  rw [toPy, toPy]
  congr 1
  induction rows with
  | nil => rfl
  | cons r rows ih => rw [List.map_cons, List.map_cons, toPyL, toPyL, ih, py_eo]
theorem set_mid {α : Type} (A B : List α) (x y : α) {k : Nat} (h : k = A.length) : (A ++ x :: B).set k y = A ++ y :: B := by
  subst h
  simp
theorem sem_law_own : Sem S_law_own t_law_own 3 := by
  rintro _ Q0 E0 ⟨f, rfl, hf, hr, hq⟩
  have hl := hf.1
  have hz : (eoo f).isFz = false := by unfold eoo; rw [D.isFz]; rfl
  simp only [initE, finL, hz, if_false, Bool.false_eq_true, List.map_cons, List.map_nil, List.length_cons, List.length_nil, Nat.zero_add, Nat.reduceAdd, Nat.reduceSub, List.replicate_succ, List.replicate_zero, List.cons_append, List.nil_append, Option.some.injEq, exists_eq_left']
  unfold t_law_own
  walk_at "dg"
  rw [fr_oo]
  walk_at "dg"
  refine ⟨f, rfl, hf, ?_⟩
  walk_at "dg"
  refine w_ldK (own_oo fun x => by cases x <;> rfl) ?_
  walk_at "dg"
  have hX : (en (It.w (Str.ofString "x")) : D) = .p (.str (Str.ofString "x")) := rfl
  generalize Str.ofString "x" = xx at hX hq ⊢
  refine w_forB rfl rfl ?_
  refine loopB_run (fun r ρ => r ≤ f.length ∧ ρ = [.w (eoo ((f.take (f.length - r)).map (fun r => r ++ [It.w xx]) ++ f.drop (f.length - r))), .v (eoo f), .un]) ?_ ?_ _ _ (Nat.le_refl _) ⟨by rw [List.length_map]; omega, by rw [List.length_map, Nat.sub_self]; rfl⟩
  · rintro r _ hlt ⟨h1, rfl⟩
    rw [List.length_map] at hlt ⊢
    have hk : f.length - (r + 1) < f.length := by omega
    have hd := List.drop_eq_getElem_cons hk
    have ht := List.take_succ_eq_append_getElem hk
    rw [show f.length - (r + 1) + 1 = f.length - r by omega] at hd ht
    have hm : (f.take (f.length - (r + 1))).length = f.length - (r + 1) := by rw [List.length_take]; omega
    generalize f.length - (r + 1) = k at hk hd ht hm ⊢
    have hA : ((f.take k).map (fun r => r ++ [It.w xx]) ++ f.drop k)[k]? = some f[k] := by
      rw [hd, List.getElem?_append_right (by rw [List.length_map, hm]; exact Nat.le_refl _), List.length_map, hm, Nat.sub_self]
      rfl
    refine ⟨_, .lst, f[k].map en, rfl, ?_, ?_, rfl, ?_⟩
    · rw [List.length_map, List.length_append, List.length_map, hm, List.length_drop]
      omega
    · rw [List.getElem?_map, hA]
      rfl
    · intro K hK
      have hrl := hr f[k] (List.getElem_mem hk)
      refine w_drop ?_
      refine w_apB hX rfl rfl hA (by omega) ?_
      refine hK _ ⟨by omega, ?_⟩
      rw [ht, hd, set_mid _ _ _ _ (by rw [List.length_map, hm]), List.map_append, List.append_assoc]
      rfl
  · rintro _ ⟨-, rfl⟩
    rw [Nat.sub_zero, List.take_length, List.drop_length, List.append_nil]
    refine ⟨⟨_, rfl, by rw [List.length_map, List.length_map, List.length_map]⟩, ?_⟩
    walk_at "dg"
    refine lc_all (w := fun r : List It => eo (r ++ [It.w xx])) ?_ (by omega) ?_
    · intro r h acc k k' hn hk
      have hrl := hr r h
      walk_at "dg"
      refine w_addLE (xs := r) (ys := [It.w xx]) (by simp; omega) ?_
      walk_at "dg"
      exact hk
    rw [show (f.map fun r => (eo (r ++ [It.w xx]) : D)) = (f.map fun r => r ++ [It.w xx]).map eo by rw [List.map_map]; rfl]
    walk_at "dg"
    refine w_eqP (inst := (inferInstance : Enc (List (List It)))) (x := f.map fun r => r ++ [It.w xx]) (y := f.map fun r => r ++ [It.w xx]) (py_oo _) (py_oo _) (by decide) ?_
    rw [dc_t.mpr rfl]
    walk_at "dg"
    exact ⟨_, rfl, hq⟩
theorem sem_in_rows : Sem S_in_rows t_in_rows 5 := by
  rintro _ Q0 E0 ⟨xs, f, rfl, h1, h2, h3, hq⟩
  walk_at "in"
  unfold t_in_rows
  walk_at "dg"
  rw [flat_sum] at h3
  refine lw_inv2 (fun z : Fo × Nat => [.v (en xs), .v (en f), .v (eoo z.1), .v (en (z.2 : Int)), .un]) (fun rest z => z.1 ++ inR (xs.drop z.2) (rest.map List.length) = inR xs (f.map List.length) ∧ z.2 + (rest.map List.length).sum ≤ 5000 ∧ z.1.length + rest.length ≤ 5000) ([], 0) rfl ⟨rfl, by simpa using h3, by simpa using h2⟩ ?_ ?_
  · rintro r rest ⟨found, a⟩ ⟨g1, g2, g3⟩ k hk
    rw [List.map_cons, List.sum_cons] at g2
    rw [List.map_cons] at g1
    rw [List.length_cons] at g3
    dsimp only at g1 g2 g3 ⊢
    walk_at "dg"
    have e : cutD xs (some (a : Int)) (some ((a : Int) + (r.length : Int))) = (xs.drop a).take r.length := by
      rw [show (a : Int) + (r.length : Int) = ((a + r.length : Nat) : Int) by omega]
      unfold cutD
      rw [HT.sIx_nat, HT.sIx_nat]
      by_cases ha : a ≤ xs.length
      · rw [show min a xs.length = a by omega, List.take_eq_take_iff, List.length_drop]
        omega
      · rw [List.drop_eq_nil_of_le (by omega), List.drop_eq_nil_of_le (show xs.length ≤ a by omega), List.take_nil, List.take_nil]
    rw [e]
    refine hk (found ++ [(xs.drop a).take r.length], a + r.length) _ ⟨?_, by dsimp only; omega, by dsimp only; rw [List.length_append, List.length_singleton]; omega⟩ ?_
    · dsimp only
      rw [← g1, List.append_assoc, inR, ← List.drop_drop]
      rfl
    · unfold eoo
      dsimp only
      rw [List.map_append]
      rfl
  · rintro ⟨found, a⟩ ⟨g1, g2, g3⟩
    walk_at "dg"
    have e : found = inR xs (f.map List.length) := by rw [← g1]; simp [inR]
    rw [← e] at hq
    exact hq
theorem sem_opened : Sem S_opened t_opened 6 := by
  rintro _ Q0 E0 ⟨κ, i0, i1, i2, ps, rfl, hl, hq⟩
  walk_at "in"
  unfold t_opened
  walk_at "dg"
  refine .inr ?_
  refine w_newT _ ?_
  walk_at "dg"
  rw [List.zip_map']
  have e0 : (ps.map fun a => (a.fst, a.snd)) = ps := List.map_id ps
  rw [e0]
  refine lw_inv2 (F := (en : Option Str × κ → D)) (fun z : List κ × List It => [.v (en (ps.map (·.1))), .v (en (ps.map (·.2))), .v (dT true (kvG z.1)), .v (eo z.2), .un, .un]) (fun rest z => z.2 ++ numF z.1 (rest.map opK) = numF [] (ps.map opK) ∧ z.1.length + rest.length ≤ 5000 ∧ z.2.length + rest.length ≤ 5000) ([], []) rfl ⟨rfl, by simpa using hl, by simpa using hl⟩ ?_ ?_
  · rintro ⟨t, x⟩ rest ⟨seen, found⟩ ⟨g1, g2, g3⟩ k hk
    rw [List.length_cons] at g2 g3
    dsimp only at g1 g2 g3 ⊢
    cases t with
    | some y =>
      walk_at "dg"
      refine w_if_f rfl ?_
      walk_at "dg"
      refine hk (seen, found ++ [.w y]) _ ⟨by rw [List.append_assoc]; exact g1, by dsimp only; omega, by dsimp only; rw [List.length_append, List.length_singleton]; omega⟩ ?_
      dsimp only
      rw [eo_add]
      try rfl
    | none =>
      rw [List.map_cons, show opK (none, x) = (.inr x : Str ⊕ κ) from rfl, numF] at g1
      walk_at "dg"
      refine w_if_t rfl ?_
      walk_at "dg"
      refine w_len2T ?_
      rw [kvG_len]
      walk_at "dg"
      refine m_setdY (i0 := i0) (kv := kvG seen) (a := x) (b := (seen.length : Int)) (by rw [kvG_len]; omega) ⟨fun v hv => ?_, fun hv => ?_⟩
      · rw [kvG_get] at hv
        by_cases m : x ∈ seen
        · rw [if_pos m] at hv g1
          cases hv
          walk_at "dg"
          refine hk (seen, found ++ [.h (seen.idxOf x : Nat)]) _ ⟨by rw [List.append_assoc]; exact g1, by dsimp only; omega, by dsimp only; rw [List.length_append, List.length_singleton]; omega⟩ ?_
          dsimp only
          rw [eo_add]
          try rfl
        · rw [if_neg m] at hv
          cases hv
      · rw [kvG_get] at hv
        by_cases m : x ∈ seen
        · rw [if_pos m] at hv
          cases hv
        · rw [if_neg m] at g1
          walk_at "dg"
          refine hk (seen ++ [x], found ++ [.h (seen.length : Nat)]) _ ⟨by rw [List.append_assoc]; exact g1, by dsimp only; rw [List.length_append, List.length_singleton]; omega, by dsimp only; rw [List.length_append, List.length_singleton]; omega⟩ ?_
          dsimp only
          rw [eo_add, kvG_add]
          try rfl
  · rintro ⟨seen, found⟩ ⟨g1, g2, g3⟩
    walk_at "dg"
    rw [List.map_nil, numF, List.append_nil] at g1
    rw [← g1] at hq
    exact hq
theorem toPyL_int : ∀ ns : List Int, toPyL (ns.map (en : Int → D)) = ns.map PyData.int
  | [] => rfl
  | n :: ns => by rw [List.map_cons, toPyL, toPyL_int ns]; rfl
theorem bst_congr {f g : Nat → Nat → Bool} : ∀ k, (∀ i j, i ≤ k → j ≤ k → f i j = g i j) → argBest f k = argBest g k ∧ argBest g k ≤ k
  | 0, _ => ⟨rfl, Nat.le_refl _⟩
  | k + 1, h => by
    obtain ⟨e1, e2⟩ := bst_congr k fun i j hi hj => h i j (by omega) (by omega)
    unfold argBest
    rw [e1, h _ _ (Nat.le_refl _) (by omega)]
    refine ⟨rfl, ?_⟩
    split <;> omega
theorem w_maxI {o : Bool} {ns : List Int} {k : D → Prop} (hn : ns ≠ []) (h : ∀ m ∈ ns, (∀ x ∈ ns, x ≤ m) → k (en m)) : qMaxL [.n o .lst (ns.map en)] k := by
  have hlp := List.length_pos_iff.mpr hn
  refine ⟨_, ns.map en, rfl, rfl, fzl_e ns, lay_e ns, ⟨fun x hx y hy => ?_, fun x hx => ?_⟩, by simpa using hn, Nat.le_trans (dep_e ns) (by decide), fun i c e1 e2 => ?_⟩
  · rw [toPyL_int] at hx hy
    obtain ⟨a, -, rfl⟩ := List.mem_map.mp hx
    obtain ⟨b, -, rfl⟩ := List.mem_map.mp hy
    rfl
  · rw [toPyL_int] at hx
    obtain ⟨a, -, rfl⟩ := List.mem_map.mp hx
    simp
  · have hb := bst_congr (f := fun i j => PySem.W.dataLt ((toPyL (ns.map (en : Int → D))).getD j .none) ((toPyL (ns.map (en : Int → D))).getD i .none)) (g := fun i j => decide ((ns.getD i 0) > (ns.getD j 0))) (ns.length - 1) fun i j hi hj => by
      rw [toPyL_int, List.getD_eq_getElem?_getD, List.getD_eq_getElem?_getD, List.getElem?_map, List.getElem?_map, List.getD_eq_getElem?_getD, List.getD_eq_getElem?_getD, List.getElem?_eq_getElem (show i < ns.length by omega), List.getElem?_eq_getElem (show j < ns.length by omega)]
      exact PySem.W.dataLt_int _ _
    rw [List.length_map] at e1
    have e1 := e1.trans hb.1
    have := argBest_gt (fun i => ns.getD i 0) (ns.length - 1)
    rw [← e1] at this
    have hi : i < ns.length := by omega
    rw [List.getElem?_map, List.getElem?_eq_getElem hi] at e2
    cases e2
    refine h _ (List.getElem_mem hi) fun x hx => ?_
    obtain ⟨j, hj, rfl⟩ := List.getElem_of_mem hx
    have := this.2 j (by omega)
    simpa [List.getD_eq_getElem?_getD, List.getElem?_eq_getElem hi, List.getElem?_eq_getElem hj] using this
theorem fold_max : ∀ (xs : List Nat) (m a : Nat), a ≤ m → (∀ x ∈ xs, x ≤ m) → (a = m ∨ m ∈ xs) → xs.foldl max a = m
  | [], m, a, _, _, h => by
    rcases h with h | h
    · exact h
    · cases h
  | x :: xs, m, a, ha, hx, h => by
    have h1 := hx x (List.mem_cons_self ..)
    refine fold_max xs m (max a x) (by omega) (fun y hy => hx y (List.mem_cons_of_mem _ hy)) ?_
    rcases h with h | h
    · left; omega
    · rcases List.mem_cons.mp h with h | h
      · left; omega
      · right; exact h
theorem sem_need_shape : Sem S_need_shape t_need_shape 4 := by
  rintro _ Q0 E0 ⟨fs, rfl, ⟨hp, hl⟩, hf, hq, he⟩
  walk_at "in"
  unfold t_need_shape
  walk_at "dg"
  refine lc_enc (fun f : Fo => (f.length : Int)) ?_ (by omega) ?_
  · intro f h acc k k' hn hk
    walk_at "dg"
    exact hk
  walk_at "dg"
  refine w_maxI (by simpa using List.length_pos_iff.mp hp) fun m hm hmx => ?_
  obtain ⟨f0, hf0, rfl⟩ := List.mem_map.mp hm
  have hM : (fs.map List.length).foldl max 0 = f0.length := fold_max _ _ 0 (Nat.zero_le _) (fun x hx => by
    obtain ⟨f, h, rfl⟩ := List.mem_map.mp hx
    have := hmx _ (List.mem_map_of_mem h)
    omega) (.inr (List.mem_map_of_mem hf0))
  have hfl := hf f0 hf0
  unfold unlF at hq he
  rw [hM] at hq he
  walk_at "dg"
  rw [Int.toNat_natCast]
  refine lw_inv2 (F := fun i : Nat => .p (.int (i : Nat))) (fun _ : Unit => [.v (en fs), .un, .un, .un]) (fun rest _ => (List.range f0.length).find? (fun r => !dc (∀ x ∈ sizF fs r, x = (sizF fs r).headD none)) = rest.find? fun r => !dc (∀ x ∈ sizF fs r, x = (sizF fs r).headD none)) () rfl rfl ?_ ?_
  · rintro r rest - h K hK
    walk_at "dg"
    refine lc_enc (fun f : Fo => f[r]?.map fun row => (row.length : Int)) ?_ (by omega) ?_
    · intro f hff acc k k' hn hk
      walk_at "dg"
      refine w_if (fun c => ?_) fun c => ?_
      · have c : r < f.length := by have := of_decide_eq_true c; omega
        walk_at "dg"
        rename_i row hrow hg
        rw [hg] at hk
        exact hk
      · have c : ¬ r < f.length := by have := of_decide_eq_false c; omega
        rw [List.getElem?_eq_none (by omega)] at hk
        walk_at "dg"
        exact hk
    rw [show (fs.map fun f : Fo => f[r]?.map fun row => (row.length : Int)) = sizF fs r from rfl]
    have hsl : (sizF fs r).length = fs.length := List.length_map _
    generalize hS : sizF fs r = S at hsl h ⊢
    walk_at "dg"
    rename_i a ha hga
    have hh : S.headD none = a := by
      cases S with
      | nil => cases hga
      | cons b S => cases hga; rfl
    have hpr : ∀ b : Bool, (decide (∀ x ∈ S, x = a)) = !b → (!dc (∀ x ∈ sizF fs r, x = (sizF fs r).headD none)) = b := fun b hb => by
      rw [hS, hh]
      by_cases e : ∀ x ∈ S, x = a
      · rw [dc_t.mpr e]
        rw [decide_eq_true e] at hb
        cases b <;> first | rfl | cases hb
      · rw [dc_f.mpr e]
        rw [decide_eq_false e] at hb
        cases b <;> first | rfl | cases hb
    have hcl : (S.countP fun x => decide (x = a)) = S.length ↔ ∀ x ∈ S, x = a := by
      rw [List.countP_eq_length]
      exact forall_congr' fun x => by rw [decide_eq_true_eq]
    refine w_count (inst := (inferInstance : Enc (Option Int))) (xs := S) (y := a) rfl (by decide) ?_
    walk_at "dg"
    refine w_if (fun c => ?_) fun c => ?_
    · have c : ¬ ∀ x ∈ S, x = a := fun e => by
        rw [hcl.mpr e] at c
        simp at c
      have := hpr true (by rw [decide_eq_false c]; rfl)
      have he := he r (by rw [h, List.find?_cons, this])
      walk_at "dg"
      exact he
    · have c : ∀ x ∈ S, x = a := hcl.mp (by simp at c; omega)
      have := hpr false (by rw [decide_eq_true c]; rfl)
      walk_at "dg"
      refine hK () _ (by rw [h, List.find?_cons, this]) rfl
  · rintro ⟨⟩ h
    walk_at "dg"
    exact hq h
theorem Good.bind {kv : List (Th × Th)} {d : Th → Nat} {rep : Th → Th} (h : Good kv d rep) {a b : Th} (ha : aget kv a = none) (hb : aget kv b = none) (hab : a ≠ b) : ∃ d', Good (aput kv a b) d' (updR rep a b) := by
  have ra := h.no a ha
  have rb := h.no b hb
  refine ⟨fun z => if rep z = a then d z + d b + 1 else d z, fun k v e => ?_, fun k e => ?_, fun x => ?_⟩
  · rw [aget_put] at e
    unfold updR
    by_cases c : k = a
    · rw [if_pos c] at e
      cases e
      rw [c, ra, rb, if_pos rfl, if_neg (Ne.symm hab)]
      refine ⟨rfl, ?_⟩
      rw [if_pos rfl, if_neg (Ne.symm hab)]
      omega
    · rw [if_neg c] at e
      obtain ⟨e1, e2⟩ := h.st k v e
      rw [e1]
      refine ⟨rfl, ?_⟩
      by_cases c2 : rep v = a
      · rw [if_pos c2, if_pos c2]; omega
      · rw [if_neg c2, if_neg c2]; exact e2
  · rw [aget_put] at e
    by_cases c : k = a
    · rw [if_pos c] at e; cases e
    · rw [if_neg c] at e
      unfold updR
      rw [h.no k e, if_neg c]
  · rw [aget_put]
    unfold updR
    by_cases c : rep x = a
    · rw [if_pos c, if_neg (Ne.symm hab)]; exact hb
    · rw [if_neg c, if_neg c]; exact h.rt x
theorem zipIdx_succ {α : Type} (x : α) (l : List α) (n : Nat) : (x :: l).zipIdx n = (x, n) :: l.zipIdx (n + 1) := rfl
/-- a thing that stands for a word has one -/
def VT (e : Th) : Prop := e.1 = wS → ∃ x, e.2 = .w x
theorem sem_law_is_form : Sem S_law_is_form t_law_is_form 5 := by
  rintro _ Q0 E0 ⟨f, sh, rfl, bf, hf, hq⟩
  have hl := bf.1
  walk_at "in"
  unfold t_law_is_form
  walk_at "dg"
  refine lc_fil (fun _ : List It => false) (fun r => r) ?_ (by omega) ?_
  · intro r hr acc k k' hn h1 h2
    walk_at "dg"
    exact h2 rfl
  rw [show (f.filter fun _ => false) = [] from List.filter_eq_nil_iff.mpr fun _ _ h => by cases h]
  walk_at "dg"
  refine w_if_f (by rw [List.map_nil, dc_t.mpr rfl]; rfl) ?_
  walk_at "dg"
  refine lc_enc (fun r : List It => (r.length : Int)) ?_ (by omega) ?_
  · intro r hr acc k k' hn hk
    walk_at "dg"
    exact hk
  rw [show (f.map fun r : List It => (r.length : Int)) = nI sh from shp_nI hf.1]
  walk_at "dg"
  refine w_if_f (by rw [dc_t.mpr rfl]; rfl) ?_
  walk_at "dg"
  refine lw_inv2 (fun m : Int => [.v (en f), .v (en (nI sh)), .v (en m), .un, .un]) (fun rest m => frmB m rest = true) 0 rfl hf.2 ?_ ?_
  · rintro t rest m h1 k hk
    cases t with
    | h i =>
      rw [frmB] at h1
      simp only [Bool.and_eq_true, decide_eq_true_eq] at h1
      obtain ⟨⟨c1, c2⟩, h1⟩ := h1
      walk_at "dg"
      refine w_if_f (decide_eq_false (by omega)) ?_
      walk_at "dg"
      refine w_if_f (decide_eq_false (by omega)) ?_
      walk_at "dg"
      refine w_max2 ?_
      walk_at "dg"
      exact hk _ _ h1 rfl
    | w x =>
      rw [frmB] at h1
      simp only [Bool.and_eq_true] at h1
      walk_at "dg"
      exact hk m _ h1.2 rfl
  · rintro m -
    walk_at "dg"
    exact hq
section
variable {κ : Type} [DecidableEq κ]
theorem all_keep (ks : List (Str ⊕ κ)) (seen : List κ) {k : κ} (h : k ∈ seen) : k ∈ allF seen ks := by
  obtain ⟨t, e⟩ := all_pre ks seen
  rw [e]
  exact List.mem_append_left _ h
theorem all_in : ∀ (ks : List (Str ⊕ κ)) (seen : List κ) (k : κ), .inr k ∈ ks → k ∈ allF seen ks
  | .inl x :: r, seen, k, h => by
    rw [allF]
    exact all_in r seen k ((List.mem_cons.mp h).resolve_left fun e => by cases e)
  | .inr j :: r, seen, k, h => by
    rw [allF]
    rcases List.mem_cons.mp h with e | h
    · cases e
      by_cases m : j ∈ seen
      · rw [if_pos m]; exact all_keep r seen m
      · rw [if_neg m]; exact all_keep r _ (List.mem_append_right _ (List.mem_singleton.mpr rfl))
    · by_cases m : j ∈ seen
      · rw [if_pos m]; exact all_in r seen k h
      · rw [if_neg m]; exact all_in r _ k h
end
/-- what stands at a place of the met form, as a key -/
def keyS (side : Str) (rep : Th → Th) (t : It) : Str ⊕ Th := opK (endW (rep (thF side t)), rep (thF side t))
structure Run (xs ys : List It) (rep : Th → Th) : Prop where
  cl : ∀ p ∈ xs.zip ys, rep (thF oneS p.1) = rep (thF othS p.2)
  wd : ∀ x, rep (wS, .w x) = (wS, .w x)
  ls : ∀ {α : Type} (F : Th → α), (∀ p ∈ xs.zip ys, F (thF oneS p.1) = F (thF othS p.2)) → ∀ x, F (rep x) = F x
  vt : ∀ x, VT (rep x) = VT x
/-- sides exchanged -/
def swT (e : Th) : Th := (if e.1 = oneS then othS else if e.1 = othS then oneS else e.1, e.2)
theorem shp_lens {f g : Fo} (h : shp f = shp g) : f.map List.length = g.map List.length := by
  have := congrArg (List.map Int.toNat) h
  unfold shp at this
  rw [List.map_map, List.map_map] at this
  exact this
theorem wfo_flat (g : List (List Str)) : (wFo g).flatten = g.flatten.map It.w := by
  unfold wFo
  rw [List.map_flatten]
theorem wfo_len (g : List (List Str)) : (wFo g).map List.length = g.map List.length := by
  unfold wFo
  rw [List.map_map]
  exact List.map_congr_left fun r _ => by simp
theorem wfo_fb {g : List (List Str)} (h : StB g) : Fb (wFo g) := ⟨by unfold wFo; rw [List.length_map]; exact h.1, by rw [wfo_flat, List.length_map]; exact h.2.1, fun x hx => by
  rw [wfo_flat] at hx
  obtain ⟨y, hy, e⟩ := List.mem_map.mp hx
  injection e with e
  rw [← e]
  exact h.2.2 y hy⟩
theorem fold_ge : ∀ (xs : List Nat) (a : Nat), a ≤ xs.foldl max a ∧ ∀ x ∈ xs, x ≤ xs.foldl max a
  | [], a => ⟨Nat.le_refl _, fun x h => by cases h⟩
  | y :: xs, a => by
    obtain ⟨h1, h2⟩ := fold_ge xs (max a y)
    refine ⟨by show a ≤ xs.foldl max (max a y); omega, fun x hx => ?_⟩
    show x ≤ xs.foldl max (max a y)
    rcases List.mem_cons.mp hx with rfl | hx
    · omega
    · exact h2 x hx
theorem unl_all {fs : List Fo} (h : unlF fs = none) : ∀ f ∈ fs, ∀ g ∈ fs, shp f = shp g := by
  unfold unlF at h
  rw [List.find?_eq_none] at h
  have hm := (fold_ge (fs.map List.length) 0).2
  have key : ∀ r, r < (fs.map List.length).foldl max 0 → ∀ f ∈ fs, (f[r]?.map fun row => (row.length : Int)) = (sizF fs r).headD none := fun r hr f hf => by
    have := h r (List.mem_range.mpr hr)
    have h2 : ∀ x ∈ sizF fs r, x = (sizF fs r).headD none := by simpa [dc_t] using this
    exact h2 _ (List.mem_map.mpr ⟨f, hf, rfl⟩)
  intro f hf g hg
  have lf := hm f.length (List.mem_map.mpr ⟨f, hf, rfl⟩)
  have lg := hm g.length (List.mem_map.mpr ⟨g, hg, rfl⟩)
  refine List.ext_getElem? fun r => ?_
  by_cases hr : r < (fs.map List.length).foldl max 0
  · have e1 := key r hr f hf
    have e2 := key r hr g hg
    unfold shp
    rw [List.getElem?_map, List.getElem?_map]
    exact e1.trans e2.symm
  · rw [List.getElem?_eq_none (by unfold shp; rw [List.length_map]; omega), List.getElem?_eq_none (by unfold shp; rw [List.length_map]; omega)]
theorem w_tc {i j l w : Nat} {te : DE} {D0 : DEnds} {ρ : DL.Env} (h : te ρ (fun r ρ1 => ∃ d xs y ρ2, look ρ1 r = some d ∧ listOf d = some (xs.map (en : Str → D)) ∧ xs.length ≤ 4000 ∧ stV ρ1 i (.n false .tup (xs.map en)) = some ρ2 ∧ ρ2[w]? = some (.v (en (y : Str))) ∧
  dMut "list" j mAppend (dCons (dVar i) dNil) ρ2 (fun _ ρ3 => dMut "list" l mAppend (dCons (dC (cntV xs y)) dNil) ρ3 (fun _ ρ4 => D0.nx ρ4) D0.ex) D0.ex) D0.ex) : dTC i j l w te D0 ρ := h
local macro_rules | `(tactic| walk_at "d0") => `(tactic| first | (with_reducible_and_instances apply w_lzip) | ((with_reducible_and_instances apply w_lzK); (· walk_at "tk"); (· exact rfl); (· exact rfl)))
theorem sem_form_of : Sem S_form_of t_form_of 9 := by
  rintro _ Q0 E0 ⟨gs, rfl, hl, hb, he, hq⟩
  walk_at "in"
  unfold t_form_of
  walk_at "dg"
  refine w_if (fun c1 => ?_) fun c1 => ?_
  · have c1 : gs = [] := by
      have := of_decide_eq_true c1
      rw [List.length_map] at this
      exact List.eq_nil_of_length_eq_zero (by omega)
    walk_at "dg"
    exact he c1
  have hne : gs ≠ [] := fun z => by
    have := of_decide_eq_false c1
    rw [z] at this
    exact this rfl
  obtain ⟨hs, hn⟩ := hq hne
  walk_at "dg"
  have hpos : 0 < gs.length := List.length_pos_iff.mpr hne
  refine ⟨gs.map wFo, rfl, by rw [List.length_map]; omega, fun f hf => ?_, fun h => ?_, fun r h => ?_⟩
  · obtain ⟨g, hg, rfl⟩ := List.mem_map.mp hf
    exact (wfo_fb (hb g hg)).1
  rotate_left
  · walk_at "dg"
    exact hs r h
  have hn := hn h
  walk_at "dg"
  have hsh := unl_all h
  refine lc_enc (fun f : Fo => f.flatten) (fun f hf acc k k' hacc hgo => ?_) (by rw [List.length_map]; omega) ?_
  · obtain ⟨g, hg, rfl⟩ := List.mem_map.mp hf
    have bg := wfo_fb (hb g hg)
    walk_at "dg"
    exact hgo
  rw [show ((gs.map wFo).map fun f : Fo => f.flatten).map (en : List It → D) = (gs.map List.flatten).map en by
    rw [List.map_map, List.map_map, List.map_map]
    refine List.map_congr_left fun g _ => ?_
    show (en (wFo g).flatten : D) = en g.flatten
    rw [wfo_flat, en_w]]
  obtain ⟨g0, gr, hgs⟩ : ∃ g0 gr, gs = g0 :: gr := by
    cases gs with
    | nil => exact absurd rfl hne
    | cons a b => exact ⟨a, b, rfl⟩
  have hg0 : g0 ∈ gs := by rw [hgs]; exact List.mem_cons_self ..
  have hlen : ∀ t ∈ gs.map List.flatten, t.length = g0.flatten.length := fun t ht => by
    obtain ⟨g, hg, rfl⟩ := List.mem_map.mp ht
    have e1 := shp_lens (hsh _ (List.mem_map.mpr ⟨g, hg, rfl⟩) _ (List.mem_map.mpr ⟨g0, hg0, rfl⟩))
    rw [wfo_len, wfo_len] at e1
    have e2 := congrArg List.sum e1
    rw [← List.length_flatten, ← List.length_flatten] at e2
    exact e2
  have htl : (gs.map List.flatten).length = gs.length := List.length_map ..
  have ht0 : (gs.map List.flatten)[0]? = some g0.flatten := by rw [hgs]; rfl
  have hn0 := (hb g0 hg0).2.1
  walk_at "dg"
  rename_i t0 hm0 g00
  obtain rfl : g0.flatten = t0 := by
    have : (gs.map List.flatten)[0]? = some t0 := g00
    rw [ht0] at this
    exact Option.some.inj this
  clear hm0 g00
  refine lw_inv2 (F := fun p : Str × Nat => en ((p.2 : Int), p.1)) (fun z : List Tk × List (Option Str) => [.v (en (gs.map wFo)), .v (en (gs.map List.flatten)), .v (eo z.1), .v (eo z.2), .un, .un, .un, .un, .un]) (fun rest z => ∃ k, rest = (g0.flatten.drop k).zipIdx k ∧ k ≤ g0.flatten.length ∧ z.1 = (List.range k).map (fun k => ⟨colF gs k⟩) ∧ z.2 = (List.range k).map fun k => (ofK gs k).1) ([], []) rfl ⟨0, rfl, Nat.zero_le _, rfl, rfl⟩ ?_ ?_
  · rintro ⟨word, k'⟩ rest ⟨ks, ws⟩ ⟨k, e1, e2, e3, e4⟩ K hK
    have hkl : k < g0.flatten.length := by
      by_cases h : k < g0.flatten.length
      · exact h
      · rw [List.drop_eq_nil_of_le (by omega)] at e1
        cases e1
    rw [List.drop_eq_getElem_cons hkl, zipIdx_succ] at e1
    injection e1 with e6 e7
    injection e6 with e8 e9
    subst e9 e8 e7
    dsimp only at e3 e4 ⊢
    have hkl2 : ks.length = k' := by rw [e3, List.length_map, List.length_range]
    have hwl2 : ws.length = k' := by rw [e4, List.length_map, List.length_range]
    walk_at "dg"
    refine w_tc ?_
    walk_at "dg"
    refine lc_enc (fun t : List Str => t.getD k' Str.empty) (fun t ht acc q1 q2 hacc hgo => ?_) (by omega) ?_
    · have htl2 := hlen t ht
      walk_at "dg"
      rename_i a ha ga
      rw [show t.getD k' Str.empty = a by rw [List.getD_eq_getElem?_getD, ga]; rfl] at hgo
      exact hgo
    · rw [show (gs.map List.flatten).map (fun t => t.getD k' Str.empty) = colF gs k' by unfold colF; rw [List.map_map]; rfl]
      have hcl : (colF gs k').length = gs.length := by unfold colF; rw [List.length_map]
      refine ⟨_, colF gs k', g0.flatten[k'], _, rfl, rfl, by omega, rfl, rfl, ?_⟩
      walk_at "dg"
      show K _
      refine hK (ks ++ [⟨colF gs k'⟩], ws ++ [(ofK gs k').1]) _ ⟨k' + 1, rfl, hkl, by dsimp only; rw [e3, List.range_succ, List.map_append]; rfl, by dsimp only; rw [e4, List.range_succ, List.map_append]; rfl⟩ ?_
      have hh : (colF gs k').headD Str.empty = g0.flatten[k'] := by
        unfold colF
        rw [hgs, List.map_cons, List.headD_cons, List.getD_eq_getElem?_getD, List.getElem?_eq_getElem hkl]
        rfl
      have hc : D.p (cntV (colF gs k') g0.flatten[k']) = (en (ofK gs k').1 : D) := by
        unfold cntV ofK
        rw [hh]
        by_cases c : (colF gs k').count g0.flatten[k'] = (colF gs k').length
        · rw [if_pos c, if_pos c]; rfl
        · rw [if_neg c, if_neg c]; rfl
      rw [hc]
      dsimp only
      rw [show (eo (ks ++ [⟨colF gs k'⟩]) : D) = D.n true .lst (ks.map en ++ [en (⟨colF gs k'⟩ : Tk)]) by unfold eo; rw [List.map_append]; rfl, show (eo (ws ++ [(ofK gs k').1]) : D) = D.n true .lst (ws.map en ++ [en (ofK gs k').1]) by unfold eo; rw [List.map_append]; rfl]
      rfl
  · rintro ⟨ks, ws⟩ ⟨k, e1, e2, e3, e4⟩
    dsimp only at e3 e4 ⊢
    have hk : k = g0.flatten.length := by
      by_cases h : k < g0.flatten.length
      · rw [List.drop_eq_getElem_cons h] at e1
        cases e1
      · omega
    have hw2 : ws = (((List.range g0.flatten.length).map (ofK gs))).map (·.1) := by rw [e4, hk, List.map_map]; rfl
    have hk2 : ks = (((List.range g0.flatten.length).map (ofK gs))).map (·.2) := by rw [e3, hk, List.map_map]; rfl
    walk_at "dg"
    refine ⟨Tk, inferInstance, inferInstance, inferInstance, (List.range g0.flatten.length).map (ofK gs), by rw [hw2, hk2], by rw [List.length_map, List.length_range]; omega, ?_⟩
    walk_at "dg"
    rename_i f0 hf0 gf0
    obtain rfl : wFo g0 = f0 := by
      have : (gs.map wFo)[0]? = some f0 := gf0
      rw [hgs] at this
      exact Option.some.inj this
    have bg0 := hb g0 hg0
    refine ⟨_, wFo g0, rfl, by rw [num_len, List.length_map, List.length_map, List.length_range]; omega, by unfold wFo; rw [List.length_map]; have := bg0.1; omega, by rw [wfo_flat, List.length_map]; omega, ?_⟩
    walk_at "dg"
    rw [wfo_len]
    rw [show formF gs = inR (numF [] (((List.range g0.flatten.length).map (ofK gs)).map opK)) (g0.map List.length) by rw [hgs]; rfl] at hn
    exact hn
noncomputable def keyC (col : List Str) : Str ⊕ Tk := if col.count (col.headD Str.empty) = col.length then .inl (col.headD Str.empty) else .inr ⟨col⟩
theorem key_of (gs : List (List (List Str))) (k : Nat) : Lw.opK (ofK gs k) = keyC (colF gs k) := by
  unfold Lw.opK ofK keyC
  by_cases c : (colF gs k).count ((colF gs k).headD Str.empty) = (colF gs k).length
  · rw [if_pos c, if_pos c]
  · rw [if_neg c, if_neg c]
theorem frm_ws : ∀ (ws : List Str) (m : Int), (∀ w ∈ ws, wordB w = true) → frmB m (ws.map It.w) = true
  | [], _, _ => rfl
  | w :: ws, m, h => by
    rw [List.map_cons, frmB, h w (List.mem_cons_self ..), frm_ws ws m fun x hx => h x (List.mem_cons_of_mem _ hx)]
    rfl
theorem stc_frm {sh : List Nat} {g : List (List Str)} (h : Stc sh g) : Frm sh (wFo g) := ⟨by rw [wfo_len]; exact h.1, by rw [wfo_flat]; exact frm_ws _ _ h.2⟩
theorem stc_len {sh : List Nat} {g : List (List Str)} (h : Stc sh g) : g.flatten.length = sh.sum := by rw [List.length_flatten, h.1]
def cutW : List Str → List Nat → List (List Str)
  | _, [] => []
  | xs, n :: sh => xs.take n :: cutW (xs.drop n) sh
theorem cut_wfo : ∀ (sh : List Nat) (ws : List Str), inR (ws.map It.w) sh = wFo (cutW ws sh)
  | [], ws => rfl
  | n :: sh, ws => by
    rw [inR, cutW, ← List.map_take, ← List.map_drop, cut_wfo sh]
    rfl
theorem cut_stc {sh : List Nat} {ws : List Str} (hl : ws.length = sh.sum) (hw : ∀ w ∈ ws, wordB w = true) : Stc sh (cutW ws sh) := by
  obtain ⟨h1, h2⟩ := inR_flat sh (ws.map It.w) (by rw [List.length_map, hl])
  rw [cut_wfo, wfo_len] at h1
  rw [cut_wfo, wfo_flat] at h2
  refine ⟨h1, fun w hw2 => hw w ?_⟩
  have : It.w w ∈ ws.map It.w := by rw [← h2]; exact List.mem_map.mpr ⟨w, hw2, rfl⟩
  obtain ⟨x, hx, e⟩ := List.mem_map.mp this
  injection e with e
  rwa [← e]
open Enc (en)
theorem w_addLr {k : D → Prop} {o o' : Bool} {xs ys : List D} (h1 : (isFzL xs && isFzL ys) = true) (h2 : xs.length + ys.length ≤ 100000) (h : k (.own (xs ++ ys))) : qAdd (.n o .lst xs) (.n o' .lst ys) k := ⟨h1, h2, h⟩
theorem sem_law_classes : Sem S_law_classes t_law_classes 2 := by
  rintro _ Q0 E0 ⟨r, rfl, hq⟩
  walk_at "in"
  cases r with
  | some r =>
    simp only [show (refD (some r)).isFz = true from rfl, if_true, Option.some.injEq, exists_eq_left']
    rw [show refD (some r) = shapeD r from rfl] at hq ⊢
    unfold t_law_classes
    walk_at "dg"
    refine w_addLE (xs := [true, false, false]) (ys := [false, false, false]) (by decide) ?_
    walk_at "dg"
    refine w_addLE (xs := [true, false, false] ++ [false, false, false]) (ys := [true]) (by decide) ?_
    walk_at "dg"
    exact hq
  | none =>
    simp only [show (refD none).isFz = true from rfl, if_true, Option.some.injEq, exists_eq_left']
    rw [show refD none = norowsD from rfl] at hq ⊢
    unfold t_law_classes
    walk_at "dg"
    refine w_addLE (xs := [false, true, false]) (ys := [false, false, false]) (by decide) ?_
    walk_at "dg"
    refine w_addLE (xs := [false, true, false] ++ [false, false, false]) (ys := [true]) (by decide) ?_
    walk_at "dg"
    exact hq
theorem sem_law_asked : Sem S_law_asked t_law_asked 4 := by
  rintro _ Q0 E0 ⟨gs, rfl, hl, hb, h0, h1⟩
  walk_at "in"
  unfold t_law_asked
  walk_at "dg"
  refine ⟨gs, rfl, hl, hb, fun hg => ?_, fun hg => ⟨fun r hr => ?_, fun hn => ?_⟩⟩
  · have hq := h0 hg
    walk_at "dg"
    refine w_if_f rfl ?_
    walk_at "dg"
    refine ⟨none, rfl, ?_⟩
    walk_at "dg"
    exact hq
  · have hq := (h1 hg).1 r hr
    walk_at "dg"
    refine w_if_f rfl ?_
    walk_at "dg"
    refine ⟨some r, rfl, ?_⟩
    walk_at "dg"
    refine w_addLr rfl (by show 8 ≤ 100000; decide) ?_
    walk_at "dg"
    exact hq
  · have hq := (h1 hg).2 hn
    walk_at "dg"
    exact hq
theorem sem_law_stretchw : Sem S_law_stretchw t_law_stretchw 4 := by
  rintro _ Q0 E0 ⟨s, sh, xs, rfl, hs, hsh, hp, hq⟩
  have hpl := hp.1
  have hss := hsh.2.2
  have hsl := hsh.1
  walk_at "in"
  unfold t_law_stretchw
  walk_at "dg"
  refine w_sum (ns := nI sh) rfl ?_
  rw [nI_sum]
  walk_at "dg"
  rw [Int.toNat_natCast]
  refine lc_inv2 (F := fun i : Nat => .p (.int (i : Nat))) (items := List.range sh.sum) (fun s : Sn => [.w s.d, .v (en (nI sh)), .v (en xs), .un]) (fun rest acc s => s.ok ∧ ∃ ws : List Str, acc = ws.map en ∧ (∀ x ∈ ws, wordB x = true) ∧ ws.length + rest.length = sh.sum) s rfl ⟨hs, [], rfl, fun _ z => (by cases z), by rw [List.length_range, List.length_nil, Nat.zero_add]⟩ (by rw [List.length_range, List.length_nil]; omega) ?_ ?_
  · rintro j rest acc s' ⟨g4, ws, rfl, g5, g6⟩ hl K hK
    rw [List.length_cons] at g6
    walk_at "dg"
    refine use_pickL g4 ⟨by omega, by omega⟩ fun y s8 hs8 hy => ?_
    walk_at "dg"
    refine hK s8 _ (by simp) ⟨hs8, ws ++ [y], by rw [List.map_append]; rfl, fun z hz => ?_, by rw [List.length_append, List.length_singleton]; omega⟩
    rcases List.mem_append.mp hz with z' | z'
    · exact g5 z z'
    · rw [List.mem_singleton.mp z']
      exact hp.2 y hy
  rintro acc s' ⟨g4, ws, rfl, g5, g6⟩
  rw [List.length_nil, Nat.add_zero] at g6
  walk_at "dg"
  refine ⟨ws.map It.w, sh, by rw [en_w], by rw [List.length_map]; omega, by omega, by omega, ?_⟩
  rw [cut_wfo]
  walk_at "dg"
  refine ⟨_, rfl, hq s' _ g4 (cut_stc g6 g5)⟩
theorem sem_law_unlike : Sem S_law_unlike t_law_unlike 4 := by
  rintro _ Q0 E0 ⟨fs, rfl, ⟨hl0, hl⟩, hb, hq⟩
  walk_at "in"
  unfold t_law_unlike
  walk_at "dg"
  refine lc_enc (fun f : List Int => (f.length : Int)) ?_ (by rw [List.length_map]; omega) ?_
  · intro f h acc k k' hn hk
    walk_at "dg"
    exact hk
  have hsl : ∀ f : Fo, (shp f).length = f.length := fun f => by unfold shp; rw [List.length_map]
  rw [List.map_map, List.map_map, show ((en : Int → D) ∘ (fun f : List Int => (f.length : Int))) ∘ shp = (en : Int → D) ∘ fun f : Fo => (f.length : Int) from funext fun f => by show en ((shp f).length : Int) = (en (f.length : Int) : D); rw [hsl], ← List.map_map]
  walk_at "dg"
  refine w_maxI (by simp; exact fun h => by rw [h] at hl0; cases hl0) fun m hm hmx => ?_
  have hms : m = (((fs.map List.length).foldl max 0 : Nat) : Int) := by
    obtain ⟨f, hf, rfl⟩ := List.mem_map.mp hm
    obtain ⟨g1, g2⟩ := fold_ge (fs.map List.length) 0
    have h1 := g2 _ (List.mem_map.mpr ⟨f, hf, rfl⟩)
    have h2 : (fs.map List.length).foldl max 0 ≤ f.length := by
      have key : ∀ (xs : List Nat) (a b : Nat), a ≤ b → (∀ x ∈ xs, x ≤ b) → xs.foldl max a ≤ b := fun xs => by
        induction xs with
        | nil => exact fun a b h _ => h
        | cons x xs ih => exact fun a b h hx => ih _ b (Nat.max_le.mpr ⟨h, hx x (List.mem_cons_self ..)⟩) fun y hy => hx y (List.mem_cons_of_mem _ hy)
      refine key _ 0 _ (Nat.zero_le _) fun x hx => ?_
      obtain ⟨g, hg, rfl⟩ := List.mem_map.mp hx
      have := hmx _ (List.mem_map.mpr ⟨g, hg, rfl⟩)
      omega
    omega
  have hmb : (fs.map List.length).foldl max 0 ≤ 4000 := by
    obtain ⟨f, hf, e⟩ := List.mem_map.mp hm
    have := hb f hf
    omega
  subst hms
  walk_at "dg"
  rw [Int.toNat_natCast]
  have hun : unlF fs = (List.range ((fs.map List.length).foldl max 0)).find? (fun r => !dc (∀ x ∈ sizF fs r, x = (sizF fs r).headD none)) := rfl
  rw [hun] at hq
  clear hm hmx
  generalize hM : (fs.map List.length).foldl max 0 = M at hq hmb ⊢
  refine lw_inv2 (F := fun i : Nat => .p (.int (i : Nat))) (fun _ : Unit => [.v (en (fs.map shp)), .un, .un, .un]) (fun rest _ => (List.range M).find? (fun r => !dc (∀ x ∈ sizF fs r, x = (sizF fs r).headD none)) = rest.find? fun r => !dc (∀ x ∈ sizF fs r, x = (sizF fs r).headD none)) () rfl rfl ?_ ?_
  · rintro r rest - h K hK
    walk_at "dg"
    refine lc_enc (fun xs : List Int => xs[r]?) ?_ (by rw [List.length_map]; omega) ?_
    · intro xs hff acc k k' hn hk
      walk_at "dg"
      refine w_if (fun c => ?_) fun c => ?_
      · have c : r < xs.length := by have := of_decide_eq_true c; omega
        walk_at "dg"
        rename_i row hrow hg
        rw [hg] at hk
        exact hk
      · have c : ¬ r < xs.length := by have := of_decide_eq_false c; omega
        rw [List.getElem?_eq_none (by omega)] at hk
        walk_at "dg"
        exact hk
    rw [show ((fs.map shp).map fun xs : List Int => xs[r]?) = sizF fs r from by
      unfold sizF
      rw [List.map_map]
      refine List.map_congr_left fun f _ => ?_
      show (shp f)[r]? = _
      unfold shp
      rw [List.getElem?_map]]
    have hsl : (sizF fs r).length = fs.length := List.length_map _
    generalize hS : sizF fs r = S at hsl h ⊢
    walk_at "dg"
    rename_i a ha hga
    have hh : S.headD none = a := by
      cases S with
      | nil => cases hga
      | cons b S => cases hga; rfl
    have hpr : ∀ b : Bool, (decide (∀ x ∈ S, x = a)) = !b → (!dc (∀ x ∈ sizF fs r, x = (sizF fs r).headD none)) = b := fun b hb => by
      rw [hS, hh]
      by_cases e : ∀ x ∈ S, x = a
      · rw [dc_t.mpr e]
        rw [decide_eq_true e] at hb
        cases b <;> first | rfl | cases hb
      · rw [dc_f.mpr e]
        rw [decide_eq_false e] at hb
        cases b <;> first | rfl | cases hb
    have hcl : (S.countP fun x => decide (x = a)) = S.length ↔ ∀ x ∈ S, x = a := by
      rw [List.countP_eq_length]
      exact forall_congr' fun x => by rw [decide_eq_true_eq]
    refine w_count (inst := (inferInstance : Enc (Option Int))) (xs := S) (y := a) rfl (by decide) ?_
    walk_at "dg"
    refine w_if (fun c => ?_) fun c => ?_
    · have c : ¬ ∀ x ∈ S, x = a := fun e => by
        rw [hcl.mpr e] at c
        simp at c
      have := hpr true (by rw [decide_eq_false c]; rfl)
      rw [h, List.find?_cons, this] at hq
      walk_at "dg"
      exact hq
    · have c : ∀ x ∈ S, x = a := hcl.mp (by simp at c; omega)
      have := hpr false (by rw [decide_eq_true c]; rfl)
      walk_at "dg"
      refine hK () _ (by rw [h, List.find?_cons, this]) rfl
  · rintro ⟨⟩ h
    rw [h] at hq
    walk_at "dg"
    exact hq
--@@
theorem form_ks {sh : List Nat} {gs : List (List (List Str))} (hne : gs ≠ []) (h : ∀ g ∈ gs, Stc sh g) : Frm sh (formF gs) ∧ (formF gs).flatten = numF [] ((List.range sh.sum).map fun k => keyC (colF gs k)) := by
  have hpos := List.length_pos_iff.mpr hne
  have hks : formF gs = inR (numF [] ((List.range sh.sum).map fun k => keyC (colF gs k))) sh := by
    cases gs with
    | nil => exact absurd rfl hne
    | cons g0 gr =>
      have h0 := h g0 (List.mem_cons_self ..)
      show inR (numF [] (((List.range g0.flatten.length).map (ofK (g0 :: gr))).map Lw.opK)) (g0.map List.length) = _
      rw [stc_len h0, h0.1, List.map_map]
      congr 2
      exact List.map_congr_left fun k _ => key_of _ _
  have hat : ∀ g ∈ gs, ∀ k, k < sh.sum → g.flatten[k]? = some (g.flatten.getD k Str.empty) := fun g hg k hk => by
    rw [List.getD_eq_getElem?_getD, List.getElem?_eq_getElem (by rw [stc_len (h g hg)]; exact hk)]
    rfl
  have hcol : ∀ k, k < sh.sum → ∀ x ∈ colF gs k, wordB x = true := fun k hk x hx => by
    unfold colF at hx
    obtain ⟨g, hg, rfl⟩ := List.mem_map.mp hx
    exact (h g hg).2 _ (List.mem_of_getElem? (hat g hg k hk))
  have hcl : ∀ k, (colF gs k).length = gs.length := fun k => by unfold colF; rw [List.length_map]
  obtain ⟨m1, m2⟩ := frm_num (sh := sh) (ks := (List.range sh.sum).map fun k => keyC (colF gs k)) (by rw [List.length_map, List.length_range]) fun x hx => by
    obtain ⟨k, hk, e⟩ := List.mem_map.mp hx
    unfold keyC at e
    split at e
    · injection e with e
      rw [← e]
      refine hcol k (List.mem_range.mp hk) _ ?_
      have := hcl k
      cases hc : colF gs k with
      | nil => rw [hc] at this; simp at this; omega
      | cons a b => exact List.mem_cons_self ..
    · cases e
  rw [← hks] at m1 m2
  exact ⟨m1, m2⟩
theorem fb_frm {sh : List Nat} {f g : Fo} (hf : Frm sh f) (hg : Frm sh g) (b : Fb g) : Fb f := by
  have e1 : f.length = g.length := by rw [← List.length_map (f := List.length), hf.1, ← hg.1, List.length_map]
  have e2 : f.flatten.length = g.flatten.length := by rw [flat_sum, flat_sum, hf.1, hg.1]
  refine ⟨by rw [e1]; exact b.1, by rw [e2]; exact b.2.1, fun x hx => ?_⟩
  have := frm_words hf.2 x hx
  unfold wordB at this
  simp only [Bool.and_eq_true, decide_eq_true_eq] at this
  omega
/-- what stands at a place of the form -/
noncomputable def itF (gs : List (List (List Str))) (n k : Nat) : It := rnK (allF [] ((List.range n).map fun k => keyC (colF gs k))) (keyC (colF gs k))
theorem it_flat {sh : List Nat} {gs : List (List (List Str))} (hne : gs ≠ []) (h : ∀ g ∈ gs, Stc sh g) : (formF gs).flatten = (List.range sh.sum).map (itF gs sh.sum) := by
  rw [(form_ks hne h).2, num_map, List.map_map]
  rfl
theorem it_word {gs : List (List (List Str))} {n k : Nat} (h : (colF gs k).count ((colF gs k).headD Str.empty) = (colF gs k).length) : itF gs n k = .w ((colF gs k).headD Str.empty) := by
  unfold itF keyC
  rw [if_pos h]
  rfl
theorem it_hole {gs : List (List (List Str))} {n k : Nat} (h : ¬ (colF gs k).count ((colF gs k).headD Str.empty) = (colF gs k).length) : ∃ i : Int, itF gs n k = .h i := by
  unfold itF keyC
  rw [if_neg h]
  exact ⟨_, rfl⟩
theorem it_same {gs : List (List (List Str))} {n p q : Nat} (hp : p < n) (hq : q < n) (h1 : ¬ (colF gs p).count ((colF gs p).headD Str.empty) = (colF gs p).length) (h2 : ¬ (colF gs q).count ((colF gs q).headD Str.empty) = (colF gs q).length) : itF gs n p = itF gs n q ↔ colF gs p = colF gs q := by
  have k1 : keyC (colF gs p) = .inr ⟨colF gs p⟩ := by unfold keyC; rw [if_neg h1]
  have k2 : keyC (colF gs q) = .inr ⟨colF gs q⟩ := by unfold keyC; rw [if_neg h2]
  have m1 : (⟨colF gs p⟩ : Tk) ∈ allF [] ((List.range n).map fun k => keyC (colF gs k)) := all_in _ _ _ (by rw [← k1]; exact List.mem_map.mpr ⟨p, List.mem_range.mpr hp, rfl⟩)
  have m2 : (⟨colF gs q⟩ : Tk) ∈ allF [] ((List.range n).map fun k => keyC (colF gs k)) := all_in _ _ _ (by rw [← k2]; exact List.mem_map.mpr ⟨q, List.mem_range.mpr hq, rfl⟩)
  unfold itF
  rw [k1, k2]
  constructor
  · intro e
    have e : It.h _ = It.h _ := e
    injection e with e
    have e : ((List.idxOf (⟨colF gs p⟩ : Tk) _ : Nat) : Int) = ((List.idxOf (⟨colF gs q⟩ : Tk) _ : Nat) : Int) := e
    have e := Int.ofNat_inj.mp e
    have l1 := List.idxOf_lt_length_of_mem m1
    have l2 := List.idxOf_lt_length_of_mem m2
    have g1 := List.getElem_idxOf l1
    have g2 := List.getElem_idxOf l2
    have : (⟨colF gs p⟩ : Tk) = ⟨colF gs q⟩ := by
      rw [← g1, ← g2]
      congr 1
    injection this
  · intro e
    rw [e]
theorem w_tx0 {x : Tx} {a : Str} {k : D → Prop} (h : x.ks[0]? = some a) (q : k (en a)) : qIxS (en x) (.p (.int 0)) k := by
  have hl := (List.getElem?_eq_some_iff.mp h).1
  have hl2 : 0 < (x.ks.map (en : Str → D)).length := by rw [List.length_map]; exact hl
  refine ⟨en a, ?_, Enc.fz a, q⟩
  show atI (x.ks.map en) ((0 : Nat) : Int) = _
  rw [at_nat rfl hl2, List.getElem_map]
  have := (List.getElem?_eq_some_iff.mp h).2
  rw [← this]
theorem w_countT {x : Tx} {y : Str} {k : D → Prop} (h : k (.p (.int ((x.ks.count y : Nat) : Int)))) : qCountT (en x) (en y) k := by
  refine ⟨false, x.ks.map en, rfl, ⟨toPyL_plain _, Enc.lay y⟩, Nat.le_trans (Enc.de y) (by decide), ?_⟩
  rw [count_e]
  have : (x.ks.countP fun z => decide (z = y)) = x.ks.count y := by
    rw [List.count_eq_countP]
    refine List.countP_congr fun z _ => ?_
    rw [decide_eq_true_eq, beq_iff_eq]
  rw [this]
  exact h
theorem sem_law_right : Sem S_law_right t_law_right 11 := by
  rintro _ Q0 E0 ⟨sh, gs, rfl, hne, hl, hg, hq⟩
  have hst := fun g h => (hg g h).1
  obtain ⟨m1, m2⟩ := form_ks hne hst
  obtain ⟨g0, gr, hgs⟩ : ∃ g0 gr, gs = g0 :: gr := by
    cases gs with
    | nil => exact absurd rfl hne
    | cons a b => exact ⟨a, b, rfl⟩
  have hg0 : g0 ∈ gs := by rw [hgs]; exact List.mem_cons_self ..
  have b0 := wfo_fb (hg g0 hg0).2
  have hs0 : shp (wFo g0) = nI sh := shp_nI (stc_frm (hst g0 hg0)).1
  have bF := fb_frm m1 (stc_frm (hst g0 hg0)) b0
  have hn : sh.sum ≤ 4000 := by have := b0.2.1; rw [wfo_flat, List.length_map, stc_len (hst g0 hg0)] at this; exact this
  walk_at "in"
  unfold t_law_right
  walk_at "dg"
  have hpos : 0 < gs.length := List.length_pos_iff.mpr hne
  have i0 : atI (gs.map wFo) 0 = some (wFo g0) := by
    rw [hgs]
    exact at_nat (m := 0) rfl (by simp)
  refine w_ixE (ys := gs.map wFo) rfl i0 ?_
  walk_at "dg"
  rw [hs0]
  refine ⟨formF gs, sh, rfl, bF, m1, ?_⟩
  walk_at "dg"
  refine lc_enc (fun f : Fo => f.flatten) (fun f hf acc k k' hacc hgo => ?_) (by rw [List.length_map]; omega) ?_
  · obtain ⟨g, hg2, rfl⟩ := List.mem_map.mp hf
    have bg := wfo_fb (hg g hg2).2
    walk_at "dg"
    exact hgo
  rw [show ((gs.map wFo).map fun f : Fo => f.flatten).map (en : List It → D) = (gs.map List.flatten).map en by
    rw [List.map_map, List.map_map, List.map_map]
    refine List.map_congr_left fun g _ => ?_
    show (en (wFo g).flatten : D) = en g.flatten
    rw [wfo_flat, en_w]]
  have htl : (gs.map List.flatten).length = gs.length := List.length_map ..
  have hlen : ∀ t ∈ gs.map List.flatten, t.length = sh.sum := fun t ht => by
    obtain ⟨g, hg2, rfl⟩ := List.mem_map.mp ht
    exact stc_len (hst g hg2)
  have hfl : (formF gs).flatten = (List.range sh.sum).map (itF gs sh.sum) := it_flat hne hst
  have hfn : (formF gs).flatten.length = sh.sum := by rw [hfl, List.length_map, List.length_range]
  have hcl : ∀ k, (colF gs k).length = gs.length := fun k => by unfold colF; rw [List.length_map]
  have hcw : ∀ k, colF gs k = (gs.map List.flatten).map fun t => t.getD k Str.empty := fun k => by unfold colF; rw [List.map_map]; rfl
  have ht0 : (gs.map List.flatten)[0]? = some g0.flatten := by rw [hgs]; rfl
  walk_at "dg"
  rw [hfn, Int.toNat_natCast]
  refine lc_enc (F := fun i : Nat => .p (.int (i : Nat))) (fun k : Nat => (⟨colF gs k⟩ : Tx)) (fun k hk acc k1 k2 hacc hgo => ?_) (by rw [List.length_range]; omega) ?_
  · have hk := List.mem_range.mp hk
    walk_at "dg"
    refine w_tupX ?_
    walk_at "dg"
    refine lc_enc (fun t : List Str => t.getD k Str.empty) (fun t ht acc q1 q2 hacc hgo => ?_) (by omega) ?_
    · have htl2 := hlen t ht
      walk_at "dg"
      rename_i a ha ga
      rw [show t.getD k Str.empty = a by rw [List.getD_eq_getElem?_getD, ga]; rfl] at hgo
      exact hgo
    · rw [← hcw]
      refine ⟨_, _, rfl, rfl, by rw [fzl_e], ?_⟩
      walk_at "dg"
      exact hgo
  have hit : ∀ p, p < sh.sum → (formF gs).flatten[p]? = some (itF gs sh.sum p) := fun p hp => by
    rw [hfl, List.getElem?_map, List.getElem?_range hp]
    rfl
  have hcx : ∀ p, p < sh.sum → ((List.range sh.sum).map fun k => (⟨colF gs k⟩ : Tx))[p]? = some ⟨colF gs p⟩ := fun p hp => by
    rw [List.getElem?_map, List.getElem?_range hp]
    rfl
  have hc0 : ∀ p, (colF gs p)[0]? = some ((colF gs p).headD Str.empty) := fun p => by
    have := hcl p
    cases hc : colF gs p with
    | nil => rw [hc] at this; simp at this; omega
    | cons a r => rfl
  have hXl : ((List.range sh.sum).map fun k => (⟨colF gs k⟩ : Tx)).length = sh.sum := by rw [List.length_map, List.length_range]
  generalize hX : ((List.range sh.sum).map fun k => (⟨colF gs k⟩ : Tx)) = X at hcx hXl ⊢
  generalize hI : (formF gs).flatten = I at hfl hfn hit ⊢
  walk_at "dg"
  rw [hfn, Int.toNat_natCast]
  refine lw_inv2 (F := fun i : Nat => .p (.int (i : Nat))) (fun _ : Unit => [.v (en (formF gs)), .v (en (gs.map wFo)), .v (eo I), .v (en (gs.map List.flatten)), .v (eo X), .un, .un, .un, .un, .un, .un]) (fun rest _ => ∀ p ∈ rest, p < sh.sum) () rfl (fun p hp => List.mem_range.mp hp) ?_ ?_
  · rintro p rest - hp K hK
    have hps := hp p (List.mem_cons_self ..)
    have K2 := fun q (hq : q ∈ rest) => hp q (List.mem_cons_of_mem _ hq)
    walk_at "dg"
    refine w_cntT ?_
    walk_at "dg"
    rename_i a ha ga
    obtain rfl : a = ⟨colF gs p⟩ := by
      have := hcx p hps
      rw [ga] at this
      exact Option.some.inj this
    clear ha ga
    refine ⟨⟨_, rfl, rfl⟩, ?_⟩
    walk_at "dg"
    rename_i a ha ga
    obtain rfl : a = ⟨colF gs p⟩ := by
      have := hcx p hps
      rw [ga] at this
      exact Option.some.inj this
    clear ha ga
    refine w_tx0 (hc0 p) ?_
    walk_at "dg"
    refine ⟨_, _, rfl, rfl, w_countT ?_⟩
    walk_at "dg"
    rename_i t ht gt
    obtain rfl : t = itF gs sh.sum p := by
      have := hit p hps
      rw [gt] at this
      exact Option.some.inj this
    clear ht gt
    have inner : ∀ (b : Bool), (b = true ↔ (colF gs p).count ((colF gs p).headD Str.empty) = (colF gs p).length) → ∀ (rt : D → DL.Env → Prop) (bk : DL.Env → Prop) (ex : Exn → DL.Env → Prop), dLoopW (dName 7)
              (dSeq (dAsg (dOp qEq (dOp qIxS (dVar 4) (dVar 5)) (dOp qIxS (dVar 4) (dVar 7))) (dName 8))
                (dIfS
                  (dAnd (dNot (dTst (dVar 6)))
                    (dAnd (dTst (dCall [false] S_law_hole (dCons (dOp qIxS (dVar 2) (dVar 7)) dNil)))
                      (dTst (dOp qNe (dOp qEq (dOp qIxS (dVar 2) (dVar 5)) (dOp qIxS (dVar 2) (dVar 7))) (dVar 8)))))
                  (dRet (dC (V.bl false))) dNext))
              [7, 8] ⟨K, rt, bk, K, ex⟩ (List.map (fun i : Nat => D.p (V.int (i : Nat))) (List.range p)) [.v (en (formF gs)), .v (en (gs.map wFo)), .v (eo I), .v (en (gs.map List.flatten)), .v (eo X), .v (D.p (V.int ↑p)), .v (D.bl b), .un, .un, .un, .un] := by
      intro b hb rt bk ex
      refine lw_inv2 (F := fun i : Nat => .p (.int (i : Nat))) (fun _ : Unit => [.v (en (formF gs)), .v (en (gs.map wFo)), .v (eo I), .v (en (gs.map List.flatten)), .v (eo X), .v (D.p (V.int ↑p)), .v (D.bl b), .un, .un, .un, .un]) (fun rest _ => ∀ q ∈ rest, q < p) () rfl (fun q hq => List.mem_range.mp hq) ?_ ?_
      · rintro q rest - hq2 K' hK'
        have hqp := hq2 q (List.mem_cons_self ..)
        have K3 := fun q' (h : q' ∈ rest) => hq2 q' (List.mem_cons_of_mem _ h)
        have hqs : q < sh.sum := by omega
        walk_at "dg"
        rename_i x hx gx y hy gy
        obtain rfl : x = ⟨colF gs p⟩ := by
          have := hcx p hps
          rw [gx] at this
          exact Option.some.inj this
        obtain rfl : y = ⟨colF gs q⟩ := by
          have := hcx q hqs
          rw [gy] at this
          exact Option.some.inj this
        clear hx gx hy gy
        have hcc : dc ((⟨colF gs p⟩ : Tx) = ⟨colF gs q⟩) = dc (colF gs p = colF gs q) := by
          rw [Bool.eq_iff_iff, dc_t, dc_t]
          exact ⟨fun h => by injection h, fun h => by rw [h]⟩
        rw [hcc]
        cases b with
        | true =>
          refine w_if_f rfl ?_
          walk_at "dg"
          exact hK' () _ K3 rfl
        | false =>
          have c : ¬ (colF gs p).count ((colF gs p).headD Str.empty) = (colF gs p).length := fun z => by have := hb.mpr z; cases this
          refine w_if_t rfl ?_
          walk_at "dg"
          rename_i z hz gz
          obtain rfl : z = itF gs sh.sum q := by
            have := hit q hqs
            rw [gz] at this
            exact Option.some.inj this
          clear hz gz
          by_cases c2 : (colF gs q).count ((colF gs q).headD Str.empty) = (colF gs q).length
          · rw [it_word c2]
            refine w_if_f rfl ?_
            walk_at "dg"
            exact hK' () _ K3 rfl
          · refine w_if_t (by obtain ⟨i, e⟩ := it_hole (n := sh.sum) c2; rw [e]; rfl) ?_
            walk_at "dg"
            rename_i u hu gu v hv gv
            obtain rfl : u = itF gs sh.sum p := by
              have := hit p hps
              rw [gu] at this
              exact Option.some.inj this
            obtain rfl : v = itF gs sh.sum q := by
              have := hit q hqs
              rw [gv] at this
              exact Option.some.inj this
            clear hu gu hv gv
            have e : dc (itF gs sh.sum p = itF gs sh.sum q) = dc (colF gs p = colF gs q) := by
              rw [Bool.eq_iff_iff, dc_t, dc_t]
              exact it_same hps hqs c c2
            rw [e]
            refine w_neP (x := dc (colF gs p = colF gs q)) (y := dc (colF gs p = colF gs q)) rfl rfl (by decide) ?_
            rw [show (!dc (dc (colF gs p = colF gs q) = dc (colF gs p = colF gs q))) = false by rw [dc_t.mpr rfl]; rfl]
            walk_at "dg"
            exact hK' () _ K3 rfl
      · rintro ⟨⟩ -
        walk_at "dg"
        exact hK () _ K2 rfl
    by_cases c : (colF gs p).count ((colF gs p).headD Str.empty) = (colF gs p).length
    · rw [it_word c, show decide (((colF gs p).count ((colF gs p).headD Str.empty) : Int) = ((gs.map List.flatten).length : Int)) = true from decide_eq_true (by rw [htl, ← hcl p]; exact congrArg Nat.cast c), show holeB (It.w ((colF gs p).headD Str.empty)) = false from rfl, show dc (false = true) = false from dc_f.mpr (by decide)]
      walk_at "dg"
      rename_i t ht gt a ha ga
      obtain rfl : t = itF gs sh.sum p := by
        have := hit p hps
        rw [gt] at this
        exact Option.some.inj this
      obtain rfl : a = ⟨colF gs p⟩ := by
        have := hcx p hps
        rw [ga] at this
        exact Option.some.inj this
      refine w_tx0 (hc0 p) ?_
      walk_at "dg"
      rw [it_word c]
      refine w_neP (x := (colF gs p).headD Str.empty) (y := (colF gs p).headD Str.empty) rfl rfl (by decide) ?_
      rw [show (!dc ((colF gs p).headD Str.empty = (colF gs p).headD Str.empty)) = false by rw [dc_t.mpr rfl]; rfl]
      walk_at "dg"
      rw [Int.toNat_natCast]
      exact inner true (iff_of_true rfl c) _ _ _
    · obtain ⟨i, hi⟩ := it_hole (n := sh.sum) c
      rw [hi, show decide (((colF gs p).count ((colF gs p).headD Str.empty) : Int) = ((gs.map List.flatten).length : Int)) = false from decide_eq_false (by rw [htl, ← hcl p]; omega), show holeB (It.h i) = true from rfl, show dc (true = false) = false from dc_f.mpr (by decide)]
      walk_at "dg"
      rw [Int.toNat_natCast]
      exact inner false (iff_of_false (by decide) c) _ _ _
  · rintro ⟨⟩ -
    walk_at "dg"
    exact hq
--@@
def strO : It → Str
  | .w x => x
  | .h _ => Str.empty
/-- rows of words, few and short -/
def Rws (g : List (List Str)) : Prop := tabB (wFo g) = true ∧ ∀ w ∈ g.flatten, wordB w = true
theorem rws_of {f : Fo} (ht : tabB f = true) (h : ∀ t ∈ f.flatten, ∃ w, t = .w w ∧ wordB w = true) : ∃ g, f = wFo g ∧ Rws g := by
  have e : f = wFo (f.map fun r => r.map strO) := by
    unfold wFo
    rw [List.map_map]
    refine (List.map_id f).symm.trans (List.map_congr_left fun r hr => ?_)
    show r = (r.map strO).map It.w
    rw [List.map_map]
    refine (List.map_id r).symm.trans (List.map_congr_left fun t htr => ?_)
    obtain ⟨w, rfl, _⟩ := h t (List.mem_flatten.mpr ⟨r, hr, htr⟩)
    rfl
  refine ⟨_, e, by rw [← e]; exact ht, fun w hw => ?_⟩
  have : It.w w ∈ f.flatten := by rw [e, wfo_flat]; exact List.mem_map.mpr ⟨w, hw, rfl⟩
  obtain ⟨x, ex, hx⟩ := h _ this
  injection ex with ex
  rw [ex]
  exact hx
theorem rws_stc {sh : List Nat} {g : List (List Str)} (hsh : Shp sh) (h : Stc sh g) : Rws g := by
  have := (frm_form hsh (stc_frm h)).2
  unfold formB at this
  rw [Bool.and_eq_true] at this
  exact ⟨this.1, h.2⟩
theorem rws_len {g : List (List Str)} (h : Rws g) : g.length ≤ 60 ∧ ∀ r ∈ g, r.length ≤ 30 := by
  have := h.1
  unfold tabB at this
  rw [Bool.and_eq_true, List.all_eq_true] at this
  refine ⟨by have := of_decide_eq_true this.1; unfold wFo at this; rwa [List.length_map] at this, fun r hr => ?_⟩
  have := of_decide_eq_true (this.2 (r.map It.w) (List.mem_map.mpr ⟨r, hr, rfl⟩))
  rwa [List.length_map] at this
theorem rws_b {g : List (List Str)} (h : Rws g) : StB g := by
  obtain ⟨h1, h2⟩ := rws_len h
  have key : ∀ (l : List (List Str)), (∀ r ∈ l, r.length ≤ 30) → l.flatten.length ≤ l.length * 30 := fun l => by
    induction l with
    | nil => intro _; simp
    | cons a l ih =>
      intro hl
      have h3 := ih fun r hr => hl r (List.mem_cons_of_mem _ hr)
      have h4 := hl a (List.mem_cons_self ..)
      rw [List.flatten_cons, List.length_append, List.length_cons]
      omega
  have := key g h2
  refine ⟨by omega, by omega, fun w hw => ?_⟩
  have := h.2 w hw
  unfold wordB at this
  simp only [Bool.and_eq_true, decide_eq_true_eq] at this
  omega
theorem shp_small {sh : List Nat} (h : Shp sh) : Shp ((sh.take 3).map (· % 4)) := by
  have hl : ((sh.take 3).map (· % 4)).length ≤ 3 := by rw [List.length_map, List.length_take]; omega
  have hm : ∀ n ∈ (sh.take 3).map (· % 4), n ≤ 3 := fun n hn => by
    obtain ⟨m, _, rfl⟩ := List.mem_map.mp hn
    show m % 4 ≤ 3
    omega
  refine ⟨by omega, fun n hn => Nat.le_trans (hm n hn) (by decide), ?_⟩
  generalize (sh.take 3).map (· % 4) = l at hl hm
  have key : ∀ l : List Nat, (∀ n ∈ l, n ≤ 3) → l.sum ≤ l.length * 3 := fun l => by
    induction l with
    | nil => intro _; simp
    | cons a l ih =>
      intro hl
      have h3 := ih fun r hr => hl r (List.mem_cons_of_mem _ hr)
      have h4 := hl a (List.mem_cons_self ..)
      rw [List.sum_cons, List.length_cons]
      omega
  have := key l hm
  omega
theorem cut3 (xs : List Int) : cutD xs none (some 3) = xs.take 3 := by
  unfold cutD HT.sIx
  have e1 : ¬ ((3 : Int) < 0) := by omega
  simp only [e1, if_false, List.drop_zero, Nat.sub_zero]
  rw [show min (3 : Int).toNat xs.length = min 3 xs.length by congr 1]
  rcases Nat.le_total 3 xs.length with z | z
  · rw [Nat.min_eq_left z]
  · rw [Nat.min_eq_right z, List.take_of_length_le (Nat.le_refl _), List.take_of_length_le z]
theorem word_x : wordB (Str.ofString "x") = true := by
  have hn : Nl (Str.ofString "x") := ⟨120, [], by decide +kernel, by decide, fun d h => by cases h⟩
  have := nl_name hn (by decide +kernel)
  unfold nameB at this
  rw [Bool.and_eq_true] at this
  exact this.1
theorem rws_re {g : List (List Str)} {f : Fo} (h : Rws g) (ht : tabB f = true) (hi : ∀ t ∈ f.flatten, t ∈ (wFo g).flatten ∨ t = .w (Str.ofString "x")) : ∃ g', f = wFo g' ∧ Rws g' :=
  rws_of ht fun t htm => by
    rcases hi t htm with z | z
    · rw [wfo_flat] at z
      obtain ⟨w, hw, e⟩ := List.mem_map.mp z
      exact ⟨w, e.symm, h.2 w hw⟩
    · exact ⟨_, z, word_x⟩
theorem rws_set {gs : List (List (List Str))} {g : List (List Str)} {k : Nat} (h : ∀ g ∈ gs, Rws g) (hg : Rws g) : ∀ x ∈ gs.set k g, Rws x := fun x hx => by
  rcases List.mem_or_eq_of_mem_set hx with z | z
  · exact h x z
  · rw [z]; exact hg
theorem w_eqSame {a b : D} {k : D → Prop} (ok : okD b = true) (e : toPy a = toPy b) (h : k (.bl true)) : qEq a b k := by
  have ok2 : okD a = true := by unfold okD at ok ⊢; rw [e]; exact ok
  refine w_eq ok2 ok ?_
  have : eqD a b = true := by
    have := eqD_refl ok
    unfold eqD at this ⊢
    rw [e]
    exact this
  rw [this]
  exact h
theorem sem_law : Sem S_law t_law 17 := by
  rintro _ Q0 E0 ⟨ns, rfl, hl, hq⟩
  rw [show (D.n false .lok (ns.map fun i => .p (.int i))) = ek ns from rfl]
  walk_at "in"
  unfold t_law
  walk_at "dg"
  refine ⟨ns, rfl, hl, fun s0 hs0 => ?_⟩
  walk_at "dg"
  rename_i k1 _ _ hk1 k2 _ _ hk2 k3 _ _ hk3 k4 _ _ hk4 k5 _ _ hk5 k6 _ _ hk6 k7 s1 hs1 hk7
  rw [show (D.n true Kd.lst [D.p (V.int 1), D.p (V.int 2), D.p (V.int 3), D.p (V.int 4), D.p (V.int 2), D.p (V.int 3), D.p (V.int 10), D.p (V.int 100)]).fz = en ([1, 2, 3, 4, 2, 3, 10, 100] : List Int) from fr_eo ([1, 2, 3, 4, 2, 3, 10, 100] : List Int)]
  refine use_pickL (ys := ([1, 2, 3, 4, 2, 3, 10, 100] : List Int)) hs1 (by decide) fun m s2 hs2 hm => ?_
  have hm2 : ∃ n : Nat, m = (n : Int) ∧ 0 < n ∧ n ≤ 100 := by
    refine ⟨m.toNat, ?_⟩
    simp only [List.mem_cons, List.not_mem_nil, or_false] at hm
    omega
  obtain ⟨n, rfl, hn0, hn1⟩ := hm2
  clear hm
  walk_at "dg"
  refine ⟨s2, rfl, hs2, fun s3 sh hs3 hsh => ?_⟩
  walk_at "dn"
  refine w_cut1 (fun ρ => ∃ sh : List Nat, Shp sh ∧ ρ = [.v (ek ns), .v s3.d, .v (en (k1 : Int)), .v (en (k2 : Int)), .v (en (k3 : Int)), .v (en (k4 : Int)), .v (eo [(k5 : Int), (k6 : Int), (k7 : Int)]), .v (en (n : Int)), .v (eo (nI sh)), .un, .un, .un, .un, .un, .un, .un, .un]) ?_ ?_
  · intro K hK
    walk_at "dg"
    refine w_if (fun c => ?_) fun c => ?_
    · walk_at "dg"
      have hsl := hsh.1
      have hnl : (nI sh).length = sh.length := by unfold nI; rw [List.length_map]
      rw [cut3]
      refine lc_enc (fun i : Int => i % 4) (fun i hi acc q1 q2 hacc hgo => ?_) (by rw [List.length_take]; omega) ?_
      · walk_at "dg"
        exact hgo
      walk_at "dg"
      have e : ((nI sh).take 3).map (fun i : Int => i % 4) = nI ((sh.take 3).map (· % 4)) := by
        unfold nI
        rw [← List.map_take, List.map_map, List.map_map]
        refine List.map_congr_left fun a _ => ?_
        show (a : Int) % 4 = ((a % 4 : Nat) : Int)
        omega
      rw [e]
      exact hK _ ⟨_, shp_small hsh, rfl⟩
    · walk_at "dg"
      exact hK _ ⟨sh, hsh, rfl⟩
  clear hsh sh
  rintro _ ⟨sh, hsh, rfl⟩
  walk_at "dg"
  refine ⟨s3, rfl, hs3, fun s4 xs hs4 hp => ?_⟩
  walk_at "dg"
  rw [Int.toNat_natCast]
  refine lc_inv2 (F := fun i : Nat => .p (.int (i : Nat))) (items := List.range n) (fun z : Sn × Bool => [.v (ek ns), .v z.1.d, .v (en (k1 : Int)), .v (en (k2 : Int)), .v (en (k3 : Int)), .v (en (k4 : Int)), .v (eo [(k5 : Int), (k6 : Int), (k7 : Int)]), .v (en (n : Int)), .v (if z.2 = true then en (nI sh) else eo (nI sh)), .v (if z.2 = true then en xs else eo xs), .un, .un, .un, .un, .un, .un, .un]) (fun rest acc z => z.1.ok ∧ ∃ gs : List (List (List Str)), acc = (gs.map wFo).map en ∧ (∀ g ∈ gs, Rws g) ∧ gs.length + rest.length = n ∧ (z.2 = false → gs = [])) (s4, false) rfl ⟨hs4, [], rfl, fun _ z => (by cases z), by rw [List.length_range]; simp, fun _ => rfl⟩ (by rw [List.length_range, List.length_nil]; omega) ?_ ?_
  · rintro i rest acc ⟨s5, b⟩ ⟨g1, gs, rfl, g2, g3, g4⟩ hl K hK
    rw [List.length_cons] at g3
    dsimp only at g1 g4 ⊢
    cases b with
    | true =>
      walk_at "dg"
      refine ⟨s5, sh, xs, rfl, g1, hsh, hp, fun s6 g hs6 hg => ?_⟩
      walk_at "dg"
      refine hK (s6, true) _ (by simp) ⟨hs6, gs ++ [g], by rw [List.map_append, List.map_append]; rfl, fun f hf => ?_, by rw [List.length_append, List.length_singleton]; omega, fun z => by cases z⟩
      rcases List.mem_append.mp hf with z | z
      · exact g2 f z
      · rw [List.mem_singleton.mp z]
        exact rws_stc hsh hg
    | false =>
      walk_at "dg"
      refine ⟨s5, sh, xs, rfl, g1, hsh, hp, fun s6 g hs6 hg => ?_⟩
      walk_at "dg"
      refine hK (s6, true) _ (by simp) ⟨hs6, gs ++ [g], by rw [List.map_append, List.map_append]; rfl, fun f hf => ?_, by rw [List.length_append, List.length_singleton]; omega, fun z => by cases z⟩
      rcases List.mem_append.mp hf with z | z
      · exact g2 f z
      · rw [List.mem_singleton.mp z]
        exact rws_stc hsh hg
  rintro acc ⟨s5, b⟩ ⟨hs5, gs, rfl, hgs, lgs, hb⟩
  rw [List.length_nil, Nat.add_zero] at lgs
  dsimp only at hs5 hb ⊢
  obtain rfl : b = true := by
    cases b with
    | true => rfl
    | false =>
      have := hb rfl
      rw [this] at lgs
      simp at lgs
      omega
  clear hb
  rw [if_pos rfl, if_pos rfl]
  walk_at "dn"
  refine w_cut1 (fun ρ => ∃ gs : List (List (List Str)), gs.length ≤ 100 ∧ (∀ g ∈ gs, Rws g) ∧ ρ = [.v (ek ns), .v s5.d, .v (en (k1 : Int)), .v (en (k2 : Int)), .v (en (k3 : Int)), .v (en (k4 : Int)), .v (eo [(k5 : Int), (k6 : Int), (k7 : Int)]), .v (en (n : Int)), .v (en (nI sh)), .v (en xs), .v (eo (gs.map wFo)), .un, .un, .un, .un, .un, .un]) ?_ ?_
  · intro K hK
    walk_at "dg"
    refine w_if (fun c => ?_) fun c => ?_
    · walk_at "dg"
      have hidx : ∀ k : Nat, k % n < gs.length := fun k => by rw [lgs]; exact Nat.mod_lt _ hn0
      have hx : ∀ (gs : List (List (List Str))) (k : Nat), gs.length = n → ∃ g, g ∈ gs ∧ atI (gs.map wFo) ((k : Int) % (n : Int)) = some (wFo g) ∧ ixN (gs.map wFo).length ((k : Int) % (n : Int)) = some (k % n) := fun gs k h => by
        have h1 : k % n < gs.length := by rw [h]; exact Nat.mod_lt _ hn0
        refine ⟨gs[k % n], List.getElem_mem h1, ?_, ?_⟩
        · rw [show ((k : Int) % (n : Int)) = ((k % n : Nat) : Int) by omega, at_nat rfl (by rw [List.length_map]; exact h1), List.getElem_map]
        · rw [show ((k : Int) % (n : Int)) = ((k % n : Nat) : Int) by omega]
          exact ixN_nat (by rw [List.length_map]; exact h1)
      obtain ⟨g, hg, hga, hgi⟩ := hx gs k4 lgs
      refine w_ixE (ys := gs.map wFo) rfl hga ?_
      walk_at "dg"
      have hgr := hgs g hg
      refine ⟨k2, k3, wFo g, rfl, wfo_fb (rws_b hgr), hgr.1, fun d f hdf _ hft hfi => ?_⟩
      obtain ⟨g', rfl, hg'⟩ := rws_re hgr hft hfi
      clear hft hfi
      walk_at "dg"
      refine m_setE hgi ?_
      rw [← List.map_set]
      have lgs2 : (gs.set (k4 % n) g').length = n := by rw [List.length_set, lgs]
      have hgs2 := rws_set (k := k4 % n) hgs hg'
      generalize gs.set (k4 % n) g' = gs2 at lgs2 hgs2 ⊢
      clear hg hga hgi hgr
      walk_at "dg"
      have fin2 : K [.v (ek ns), .v s5.d, .v (en (k1 : Int)), .v (en (k2 : Int)), .v (en (k3 : Int)), .v (en (k4 : Int)), .v (eo [(k5 : Int), (k6 : Int), (k7 : Int)]), .v (en (n : Int)), .v (en (nI sh)), .v (en xs), .v (eo (gs2.map wFo)), .un, .un, .un, .un, .un, .un] := hK _ ⟨gs2, by omega, hgs2, rfl⟩
      refine w_if (fun c => ?_) fun c => ?_
      · walk_at "dg"
        refine w_if (fun c => ?_) fun c => ?_
        · walk_at "dg"
          rename_i u hu gu v hv gv
          obtain ⟨w, rfl⟩ : ∃ w : Nat, u = (w : Int) := ⟨u.toNat, by simp only [List.mem_cons, List.not_mem_nil, or_false] at hu; omega⟩
          obtain ⟨p, rfl⟩ : ∃ w : Nat, v = (w : Int) := ⟨v.toNat, by simp only [List.mem_cons, List.not_mem_nil, or_false] at hv; omega⟩
          obtain ⟨g, hg, hga, hgi⟩ := hx gs2 (k4 + 1) lgs2
          have hga : atI (gs2.map wFo) (((k4 : Int) + 1) % (n : Int)) = some (wFo g) := hga
          have hgi : ixN (gs2.map wFo).length (((k4 : Int) + 1) % (n : Int)) = some ((k4 + 1) % n) := hgi
          refine w_ixE (ys := gs2.map wFo) rfl hga ?_
          walk_at "dg"
          have hgr := hgs2 g hg
          refine ⟨w, p, wFo g, rfl, wfo_fb (rws_b hgr), hgr.1, fun d f hdf _ hft hfi => ?_⟩
          obtain ⟨g', rfl, hg'⟩ := rws_re hgr hft hfi
          clear hft hfi
          walk_at "dg"
          refine m_setE hgi ?_
          rw [← List.map_set]
          walk_at "dg"
          exact hK _ ⟨gs2.set ((k4 + 1) % n) g', by rw [List.length_set]; omega, rws_set hgs2 hg', rfl⟩
        · walk_at "dg"
          exact fin2
      · walk_at "dg"
        exact fin2
    · walk_at "dg"
      exact hK _ ⟨gs, by omega, hgs, rfl⟩
  clear hgs lgs gs
  rintro _ ⟨gs, lgs, hgs, rfl⟩
  walk_at "dn"
  refine w_cut1 (fun ρ => ∃ gs : List (List (List Str)), gs.length ≤ 100 ∧ (∀ g ∈ gs, Rws g) ∧ ρ = [.v (ek ns), .v s5.d, .v (en (k1 : Int)), .v (en (k2 : Int)), .v (en (k3 : Int)), .v (en (k4 : Int)), .v (eo [(k5 : Int), (k6 : Int), (k7 : Int)]), .v (en (n : Int)), .v (en (nI sh)), .v (en xs), .v (eo (gs.map wFo)), .un, .un, .un, .un, .un, .un]) ?_ ?_
  · intro K hK
    walk_at "dg"
    refine w_if (fun c => ?_) fun c => ?_
    · walk_at "dg"
      refine w_if (fun c => ?_) fun c => ?_
      · walk_at "dg"
        exact hK _ ⟨[], by simp, fun g z => (by cases z), rfl⟩
      · walk_at "dg"
        exact hK _ ⟨gs, lgs, hgs, rfl⟩
    · walk_at "dg"
      exact hK _ ⟨gs, lgs, hgs, rfl⟩
  clear hgs lgs gs
  rintro _ ⟨gs, lgs, hgs, rfl⟩
  have hmg : (gs.map wFo).length = gs.length := List.length_map ..
  have hfb : ∀ f ∈ gs.map wFo, Fb f := fun f hf => by
    obtain ⟨g, hg, rfl⟩ := List.mem_map.mp hf
    exact wfo_fb (rws_b (hgs g hg))
  have hcp : ∀ fs : List Fo, (fs.map fun f => f) = fs := fun fs => List.map_id _
  walk_at "dg"
  refine lc_enc (fun f : Fo => f) (fun f hf acc q1 q2 hacc hgo => ?_) (by omega) ?_
  · have bf := hfb f hf
    walk_at "dg"
    refine ⟨f, rfl, bf, ?_⟩
    walk_at "dg"
    exact hgo
  rw [hcp]
  walk_at "dg"
  refine ⟨gs, rfl, by omega, fun g hg => rws_b (hgs g hg), fun h0 => ?_, fun hne => ⟨fun r hr => ?_, fun hn => ?_⟩⟩
  · walk_at "dg"
    refine w_if_f (by rw [dc_t.mpr rfl]; rfl) ?_
    walk_at "dg"
    refine w_if_t (dc_t.mpr (by rw [h0]; rfl)) ?_
    walk_at "dg"
    refine w_eqSame (by rfl) (by rfl) ?_
    walk_at "dg"
    exact hq _
  · walk_at "dg"
    refine w_if_f (by rw [dc_t.mpr rfl]; rfl) ?_
    walk_at "dg"
    refine w_if_f (dc_f.mpr fun z => hne (List.map_eq_nil_iff.mp z)) ?_
    walk_at "dg"
    refine lc_enc (fun f : Fo => shp f) (fun f hf acc q1 q2 hacc hgo => ?_) (by omega) ?_
    · have bf := hfb f hf
      walk_at "dg"
      exact hgo
    walk_at "dg"
    refine ⟨gs.map wFo, rfl, ⟨by have := List.length_pos_iff.mpr hne; omega, by omega⟩, fun f hf => (hfb f hf).1, ?_⟩
    rw [hr, show (en (optN (some r)) : D) = en (r : Int) from rfl]
    walk_at "dg"
    refine w_if_t rfl ?_
    walk_at "dg"
    refine w_eqSame (by rfl) (by rfl) ?_
    walk_at "dg"
    exact hq _
  · walk_at "dg"
    refine w_if_f (by rw [dc_t.mpr rfl]; rfl) ?_
    walk_at "dg"
    refine w_if_f (dc_f.mpr fun z => hne (List.map_eq_nil_iff.mp z)) ?_
    walk_at "dg"
    refine lc_enc (fun f : Fo => shp f) (fun f hf acc q1 q2 hacc hgo => ?_) (by omega) ?_
    · have bf := hfb f hf
      walk_at "dg"
      exact hgo
    walk_at "dg"
    refine ⟨gs.map wFo, rfl, ⟨by have := List.length_pos_iff.mpr hne; omega, by omega⟩, fun f hf => (hfb f hf).1, ?_⟩
    rw [hn, show (en (optN none) : D) = .p .non from rfl]
    walk_at "dg"
    refine w_if_f rfl ?_
    walk_at "dg"
    refine ⟨en (Str.ofString "told"), rfl, rfl, ?_⟩
    walk_at "dg"
    refine w_if_f (by rw [dc_t.mpr rfl]; rfl) ?_
    walk_at "dg"
    obtain ⟨g0, gr, hgs0⟩ : ∃ g0 gr, gs = g0 :: gr := by
      cases gs with
      | nil => exact absurd rfl hne
      | cons a b => exact ⟨a, b, rfl⟩
    have hg0 : g0 ∈ gs := by rw [hgs0]; exact List.mem_cons_self ..
    have hst : ∀ g ∈ gs, Stc (g0.map List.length) g := fun g hg => by
      have e := shp_lens (unl_all hn _ (List.mem_map.mpr ⟨g, hg, rfl⟩) _ (List.mem_map.mpr ⟨g0, hg0, rfl⟩))
      rw [wfo_len, wfo_len] at e
      exact ⟨e, (hgs g hg).2⟩
    obtain ⟨m1, m2⟩ := form_ks hne hst
    have bF := fb_frm m1 (stc_frm (hst g0 hg0)) (wfo_fb (rws_b (hgs g0 hg0)))
    have hmr : ∀ r ∈ formF gs, r.length ≤ 1000 := fun r hr => by
      have h1 : r.length ∈ g0.map List.length := by rw [← m1.1]; exact List.mem_map_of_mem hr
      obtain ⟨x, hx, e⟩ := List.mem_map.mp h1
      have := (rws_len (hgs g0 hg0)).2 x hx
      omega
    rw [show (tolD (formF gs)).fz = .n false .tup [en (Str.ofString "told"), en (formF gs)] by unfold tolD; rw [D.fz, fzL, fzL, fzL, fr_oo, fr_e]]
    refine ⟨en (formF gs), rfl, Enc.fz _, ?_⟩
    walk_at "dg"
    refine ⟨g0.map List.length, gs, rfl, hne, by omega, fun g hg => ⟨hst g hg, rws_b (hgs g hg)⟩, ?_⟩
    walk_at "dg"
    apply w_ixM
    case h0 => rfl
    case hk => exact .inr rfl
    case h1 => rfl
    case h2 => walk_at "ne"
    walk_at "dg"
    refine ⟨formF gs, rfl, bF, hmr, ?_⟩
    walk_at "dg"
    rw [dc_t.mpr rfl]
    exact hq _
theorem len_items_of : Ar S_items_of 1 := by
  first
    | (rintro _ _ _ ⟨rfl, _⟩; rfl)
    | (rintro _ _ _ ⟨_, rfl, _⟩; rfl)
    | (rintro _ _ _ ⟨_, _, rfl, _⟩; rfl)
    | (rintro _ _ _ ⟨_, _, _, rfl, _⟩; rfl)
    | (rintro _ _ _ ⟨_, _, _, _, rfl, _⟩; rfl)
    | (rintro _ _ _ ⟨_, _, _, _, _, rfl, _⟩; rfl)
    | (rintro _ _ _ ⟨_, _, _, _, _, _, rfl, _⟩; rfl)
    | (rintro _ _ _ ⟨_, _, _, _, _, _, _, rfl, _⟩; rfl)
    | (rintro _ _ _ ⟨_, _, _, _, _, _, _, _, rfl, _⟩; rfl)
theorem len_need_shape : Ar S_need_shape 1 := by
  first
    | (rintro _ _ _ ⟨rfl, _⟩; rfl)
    | (rintro _ _ _ ⟨_, rfl, _⟩; rfl)
    | (rintro _ _ _ ⟨_, _, rfl, _⟩; rfl)
    | (rintro _ _ _ ⟨_, _, _, rfl, _⟩; rfl)
    | (rintro _ _ _ ⟨_, _, _, _, rfl, _⟩; rfl)
    | (rintro _ _ _ ⟨_, _, _, _, _, rfl, _⟩; rfl)
    | (rintro _ _ _ ⟨_, _, _, _, _, _, rfl, _⟩; rfl)
    | (rintro _ _ _ ⟨_, _, _, _, _, _, _, rfl, _⟩; rfl)
    | (rintro _ _ _ ⟨_, _, _, _, _, _, _, _, rfl, _⟩; rfl)
theorem len_in_rows : Ar S_in_rows 2 := by
  first
    | (rintro _ _ _ ⟨rfl, _⟩; rfl)
    | (rintro _ _ _ ⟨_, rfl, _⟩; rfl)
    | (rintro _ _ _ ⟨_, _, rfl, _⟩; rfl)
    | (rintro _ _ _ ⟨_, _, _, rfl, _⟩; rfl)
    | (rintro _ _ _ ⟨_, _, _, _, rfl, _⟩; rfl)
    | (rintro _ _ _ ⟨_, _, _, _, _, rfl, _⟩; rfl)
    | (rintro _ _ _ ⟨_, _, _, _, _, _, rfl, _⟩; rfl)
    | (rintro _ _ _ ⟨_, _, _, _, _, _, _, rfl, _⟩; rfl)
    | (rintro _ _ _ ⟨_, _, _, _, _, _, _, _, rfl, _⟩; rfl)
theorem len_opened : Ar S_opened 2 := by
  first
    | (rintro _ _ _ ⟨rfl, _⟩; rfl)
    | (rintro _ _ _ ⟨_, rfl, _⟩; rfl)
    | (rintro _ _ _ ⟨_, _, rfl, _⟩; rfl)
    | (rintro _ _ _ ⟨_, _, _, rfl, _⟩; rfl)
    | (rintro _ _ _ ⟨_, _, _, _, rfl, _⟩; rfl)
    | (rintro _ _ _ ⟨_, _, _, _, _, rfl, _⟩; rfl)
    | (rintro _ _ _ ⟨_, _, _, _, _, _, rfl, _⟩; rfl)
    | (rintro _ _ _ ⟨_, _, _, _, _, _, _, rfl, _⟩; rfl)
    | (rintro _ _ _ ⟨_, _, _, _, _, _, _, _, rfl, _⟩; rfl)
theorem len_form_of : Ar S_form_of 1 := by
  first
    | (rintro _ _ _ ⟨rfl, _⟩; rfl)
    | (rintro _ _ _ ⟨_, rfl, _⟩; rfl)
    | (rintro _ _ _ ⟨_, _, rfl, _⟩; rfl)
    | (rintro _ _ _ ⟨_, _, _, rfl, _⟩; rfl)
    | (rintro _ _ _ ⟨_, _, _, _, rfl, _⟩; rfl)
    | (rintro _ _ _ ⟨_, _, _, _, _, rfl, _⟩; rfl)
    | (rintro _ _ _ ⟨_, _, _, _, _, _, rfl, _⟩; rfl)
    | (rintro _ _ _ ⟨_, _, _, _, _, _, _, rfl, _⟩; rfl)
    | (rintro _ _ _ ⟨_, _, _, _, _, _, _, _, rfl, _⟩; rfl)
theorem len_law_begin : Ar S_law_begin 1 := by
  first
    | (rintro _ _ _ ⟨rfl, _⟩; rfl)
    | (rintro _ _ _ ⟨_, rfl, _⟩; rfl)
    | (rintro _ _ _ ⟨_, _, rfl, _⟩; rfl)
    | (rintro _ _ _ ⟨_, _, _, rfl, _⟩; rfl)
    | (rintro _ _ _ ⟨_, _, _, _, rfl, _⟩; rfl)
    | (rintro _ _ _ ⟨_, _, _, _, _, rfl, _⟩; rfl)
    | (rintro _ _ _ ⟨_, _, _, _, _, _, rfl, _⟩; rfl)
    | (rintro _ _ _ ⟨_, _, _, _, _, _, _, rfl, _⟩; rfl)
    | (rintro _ _ _ ⟨_, _, _, _, _, _, _, _, rfl, _⟩; rfl)
theorem len_law_more : Ar S_law_more 1 := by
  first
    | (rintro _ _ _ ⟨rfl, _⟩; rfl)
    | (rintro _ _ _ ⟨_, rfl, _⟩; rfl)
    | (rintro _ _ _ ⟨_, _, rfl, _⟩; rfl)
    | (rintro _ _ _ ⟨_, _, _, rfl, _⟩; rfl)
    | (rintro _ _ _ ⟨_, _, _, _, rfl, _⟩; rfl)
    | (rintro _ _ _ ⟨_, _, _, _, _, rfl, _⟩; rfl)
    | (rintro _ _ _ ⟨_, _, _, _, _, _, rfl, _⟩; rfl)
    | (rintro _ _ _ ⟨_, _, _, _, _, _, _, rfl, _⟩; rfl)
    | (rintro _ _ _ ⟨_, _, _, _, _, _, _, _, rfl, _⟩; rfl)
theorem len_law_next : Ar S_law_next 2 := by
  first
    | (rintro _ _ _ ⟨rfl, _⟩; rfl)
    | (rintro _ _ _ ⟨_, rfl, _⟩; rfl)
    | (rintro _ _ _ ⟨_, _, rfl, _⟩; rfl)
    | (rintro _ _ _ ⟨_, _, _, rfl, _⟩; rfl)
    | (rintro _ _ _ ⟨_, _, _, _, rfl, _⟩; rfl)
    | (rintro _ _ _ ⟨_, _, _, _, _, rfl, _⟩; rfl)
    | (rintro _ _ _ ⟨_, _, _, _, _, _, rfl, _⟩; rfl)
    | (rintro _ _ _ ⟨_, _, _, _, _, _, _, rfl, _⟩; rfl)
    | (rintro _ _ _ ⟨_, _, _, _, _, _, _, _, rfl, _⟩; rfl)
theorem len_law_pick : Ar S_law_pick 2 := by
  first
    | (rintro _ _ _ ⟨rfl, _⟩; rfl)
    | (rintro _ _ _ ⟨_, rfl, _⟩; rfl)
    | (rintro _ _ _ ⟨_, _, rfl, _⟩; rfl)
    | (rintro _ _ _ ⟨_, _, _, rfl, _⟩; rfl)
    | (rintro _ _ _ ⟨_, _, _, _, rfl, _⟩; rfl)
    | (rintro _ _ _ ⟨_, _, _, _, _, rfl, _⟩; rfl)
    | (rintro _ _ _ ⟨_, _, _, _, _, _, rfl, _⟩; rfl)
    | (rintro _ _ _ ⟨_, _, _, _, _, _, _, rfl, _⟩; rfl)
    | (rintro _ _ _ ⟨_, _, _, _, _, _, _, _, rfl, _⟩; rfl)
theorem len_law_wordf : Ar S_law_wordf 1 := by
  first
    | (rintro _ _ _ ⟨rfl, _⟩; rfl)
    | (rintro _ _ _ ⟨_, rfl, _⟩; rfl)
    | (rintro _ _ _ ⟨_, _, rfl, _⟩; rfl)
    | (rintro _ _ _ ⟨_, _, _, rfl, _⟩; rfl)
    | (rintro _ _ _ ⟨_, _, _, _, rfl, _⟩; rfl)
    | (rintro _ _ _ ⟨_, _, _, _, _, rfl, _⟩; rfl)
    | (rintro _ _ _ ⟨_, _, _, _, _, _, rfl, _⟩; rfl)
    | (rintro _ _ _ ⟨_, _, _, _, _, _, _, rfl, _⟩; rfl)
    | (rintro _ _ _ ⟨_, _, _, _, _, _, _, _, rfl, _⟩; rfl)
theorem len_law_pool : Ar S_law_pool 1 := by
  first
    | (rintro _ _ _ ⟨rfl, _⟩; rfl)
    | (rintro _ _ _ ⟨_, rfl, _⟩; rfl)
    | (rintro _ _ _ ⟨_, _, rfl, _⟩; rfl)
    | (rintro _ _ _ ⟨_, _, _, rfl, _⟩; rfl)
    | (rintro _ _ _ ⟨_, _, _, _, rfl, _⟩; rfl)
    | (rintro _ _ _ ⟨_, _, _, _, _, rfl, _⟩; rfl)
    | (rintro _ _ _ ⟨_, _, _, _, _, _, rfl, _⟩; rfl)
    | (rintro _ _ _ ⟨_, _, _, _, _, _, _, rfl, _⟩; rfl)
    | (rintro _ _ _ ⟨_, _, _, _, _, _, _, _, rfl, _⟩; rfl)
theorem len_law_shape : Ar S_law_shape 1 := by
  first
    | (rintro _ _ _ ⟨rfl, _⟩; rfl)
    | (rintro _ _ _ ⟨_, rfl, _⟩; rfl)
    | (rintro _ _ _ ⟨_, _, rfl, _⟩; rfl)
    | (rintro _ _ _ ⟨_, _, _, rfl, _⟩; rfl)
    | (rintro _ _ _ ⟨_, _, _, _, rfl, _⟩; rfl)
    | (rintro _ _ _ ⟨_, _, _, _, _, rfl, _⟩; rfl)
    | (rintro _ _ _ ⟨_, _, _, _, _, _, rfl, _⟩; rfl)
    | (rintro _ _ _ ⟨_, _, _, _, _, _, _, rfl, _⟩; rfl)
    | (rintro _ _ _ ⟨_, _, _, _, _, _, _, _, rfl, _⟩; rfl)
theorem len_law_in_rows : Ar S_law_in_rows 2 := by
  first
    | (rintro _ _ _ ⟨rfl, _⟩; rfl)
    | (rintro _ _ _ ⟨_, rfl, _⟩; rfl)
    | (rintro _ _ _ ⟨_, _, rfl, _⟩; rfl)
    | (rintro _ _ _ ⟨_, _, _, rfl, _⟩; rfl)
    | (rintro _ _ _ ⟨_, _, _, _, rfl, _⟩; rfl)
    | (rintro _ _ _ ⟨_, _, _, _, _, rfl, _⟩; rfl)
    | (rintro _ _ _ ⟨_, _, _, _, _, _, rfl, _⟩; rfl)
    | (rintro _ _ _ ⟨_, _, _, _, _, _, _, rfl, _⟩; rfl)
    | (rintro _ _ _ ⟨_, _, _, _, _, _, _, _, rfl, _⟩; rfl)
theorem len_law_copyf : Ar S_law_copyf 1 := by
  first
    | (rintro _ _ _ ⟨rfl, _⟩; rfl)
    | (rintro _ _ _ ⟨_, rfl, _⟩; rfl)
    | (rintro _ _ _ ⟨_, _, rfl, _⟩; rfl)
    | (rintro _ _ _ ⟨_, _, _, rfl, _⟩; rfl)
    | (rintro _ _ _ ⟨_, _, _, _, rfl, _⟩; rfl)
    | (rintro _ _ _ ⟨_, _, _, _, _, rfl, _⟩; rfl)
    | (rintro _ _ _ ⟨_, _, _, _, _, _, rfl, _⟩; rfl)
    | (rintro _ _ _ ⟨_, _, _, _, _, _, _, rfl, _⟩; rfl)
    | (rintro _ _ _ ⟨_, _, _, _, _, _, _, _, rfl, _⟩; rfl)
theorem len_law_items : Ar S_law_items 1 := by
  first
    | (rintro _ _ _ ⟨rfl, _⟩; rfl)
    | (rintro _ _ _ ⟨_, rfl, _⟩; rfl)
    | (rintro _ _ _ ⟨_, _, rfl, _⟩; rfl)
    | (rintro _ _ _ ⟨_, _, _, rfl, _⟩; rfl)
    | (rintro _ _ _ ⟨_, _, _, _, rfl, _⟩; rfl)
    | (rintro _ _ _ ⟨_, _, _, _, _, rfl, _⟩; rfl)
    | (rintro _ _ _ ⟨_, _, _, _, _, _, rfl, _⟩; rfl)
    | (rintro _ _ _ ⟨_, _, _, _, _, _, _, rfl, _⟩; rfl)
    | (rintro _ _ _ ⟨_, _, _, _, _, _, _, _, rfl, _⟩; rfl)
theorem len_law_shape_of : Ar S_law_shape_of 1 := by
  first
    | (rintro _ _ _ ⟨rfl, _⟩; rfl)
    | (rintro _ _ _ ⟨_, rfl, _⟩; rfl)
    | (rintro _ _ _ ⟨_, _, rfl, _⟩; rfl)
    | (rintro _ _ _ ⟨_, _, _, rfl, _⟩; rfl)
    | (rintro _ _ _ ⟨_, _, _, _, rfl, _⟩; rfl)
    | (rintro _ _ _ ⟨_, _, _, _, _, rfl, _⟩; rfl)
    | (rintro _ _ _ ⟨_, _, _, _, _, _, rfl, _⟩; rfl)
    | (rintro _ _ _ ⟨_, _, _, _, _, _, _, rfl, _⟩; rfl)
    | (rintro _ _ _ ⟨_, _, _, _, _, _, _, _, rfl, _⟩; rfl)
theorem len_law_reshaped : Ar S_law_reshaped 3 := by
  first
    | (rintro _ _ _ ⟨rfl, _⟩; rfl)
    | (rintro _ _ _ ⟨_, rfl, _⟩; rfl)
    | (rintro _ _ _ ⟨_, _, rfl, _⟩; rfl)
    | (rintro _ _ _ ⟨_, _, _, rfl, _⟩; rfl)
    | (rintro _ _ _ ⟨_, _, _, _, rfl, _⟩; rfl)
    | (rintro _ _ _ ⟨_, _, _, _, _, rfl, _⟩; rfl)
    | (rintro _ _ _ ⟨_, _, _, _, _, _, rfl, _⟩; rfl)
    | (rintro _ _ _ ⟨_, _, _, _, _, _, _, rfl, _⟩; rfl)
    | (rintro _ _ _ ⟨_, _, _, _, _, _, _, _, rfl, _⟩; rfl)
theorem len_law_hole : Ar S_law_hole 1 := by
  first
    | (rintro _ _ _ ⟨rfl, _⟩; rfl)
    | (rintro _ _ _ ⟨_, rfl, _⟩; rfl)
    | (rintro _ _ _ ⟨_, _, rfl, _⟩; rfl)
    | (rintro _ _ _ ⟨_, _, _, rfl, _⟩; rfl)
    | (rintro _ _ _ ⟨_, _, _, _, rfl, _⟩; rfl)
    | (rintro _ _ _ ⟨_, _, _, _, _, rfl, _⟩; rfl)
    | (rintro _ _ _ ⟨_, _, _, _, _, _, rfl, _⟩; rfl)
    | (rintro _ _ _ ⟨_, _, _, _, _, _, _, rfl, _⟩; rfl)
    | (rintro _ _ _ ⟨_, _, _, _, _, _, _, _, rfl, _⟩; rfl)
theorem len_law_is_form : Ar S_law_is_form 2 := by
  first
    | (rintro _ _ _ ⟨rfl, _⟩; rfl)
    | (rintro _ _ _ ⟨_, rfl, _⟩; rfl)
    | (rintro _ _ _ ⟨_, _, rfl, _⟩; rfl)
    | (rintro _ _ _ ⟨_, _, _, rfl, _⟩; rfl)
    | (rintro _ _ _ ⟨_, _, _, _, rfl, _⟩; rfl)
    | (rintro _ _ _ ⟨_, _, _, _, _, rfl, _⟩; rfl)
    | (rintro _ _ _ ⟨_, _, _, _, _, _, rfl, _⟩; rfl)
    | (rintro _ _ _ ⟨_, _, _, _, _, _, _, rfl, _⟩; rfl)
    | (rintro _ _ _ ⟨_, _, _, _, _, _, _, _, rfl, _⟩; rfl)
theorem len_law_classes : Ar S_law_classes 1 := by
  first
    | (rintro _ _ _ ⟨rfl, _⟩; rfl)
    | (rintro _ _ _ ⟨_, rfl, _⟩; rfl)
    | (rintro _ _ _ ⟨_, _, rfl, _⟩; rfl)
    | (rintro _ _ _ ⟨_, _, _, rfl, _⟩; rfl)
    | (rintro _ _ _ ⟨_, _, _, _, rfl, _⟩; rfl)
    | (rintro _ _ _ ⟨_, _, _, _, _, rfl, _⟩; rfl)
    | (rintro _ _ _ ⟨_, _, _, _, _, _, rfl, _⟩; rfl)
    | (rintro _ _ _ ⟨_, _, _, _, _, _, _, rfl, _⟩; rfl)
    | (rintro _ _ _ ⟨_, _, _, _, _, _, _, _, rfl, _⟩; rfl)
theorem len_law_asked : Ar S_law_asked 1 := by
  first
    | (rintro _ _ _ ⟨rfl, _⟩; rfl)
    | (rintro _ _ _ ⟨_, rfl, _⟩; rfl)
    | (rintro _ _ _ ⟨_, _, rfl, _⟩; rfl)
    | (rintro _ _ _ ⟨_, _, _, rfl, _⟩; rfl)
    | (rintro _ _ _ ⟨_, _, _, _, rfl, _⟩; rfl)
    | (rintro _ _ _ ⟨_, _, _, _, _, rfl, _⟩; rfl)
    | (rintro _ _ _ ⟨_, _, _, _, _, _, rfl, _⟩; rfl)
    | (rintro _ _ _ ⟨_, _, _, _, _, _, _, rfl, _⟩; rfl)
    | (rintro _ _ _ ⟨_, _, _, _, _, _, _, _, rfl, _⟩; rfl)
theorem len_law_stretchw : Ar S_law_stretchw 3 := by
  first
    | (rintro _ _ _ ⟨rfl, _⟩; rfl)
    | (rintro _ _ _ ⟨_, rfl, _⟩; rfl)
    | (rintro _ _ _ ⟨_, _, rfl, _⟩; rfl)
    | (rintro _ _ _ ⟨_, _, _, rfl, _⟩; rfl)
    | (rintro _ _ _ ⟨_, _, _, _, rfl, _⟩; rfl)
    | (rintro _ _ _ ⟨_, _, _, _, _, rfl, _⟩; rfl)
    | (rintro _ _ _ ⟨_, _, _, _, _, _, rfl, _⟩; rfl)
    | (rintro _ _ _ ⟨_, _, _, _, _, _, _, rfl, _⟩; rfl)
    | (rintro _ _ _ ⟨_, _, _, _, _, _, _, _, rfl, _⟩; rfl)
theorem len_law_right : Ar S_law_right 2 := by
  first
    | (rintro _ _ _ ⟨rfl, _⟩; rfl)
    | (rintro _ _ _ ⟨_, rfl, _⟩; rfl)
    | (rintro _ _ _ ⟨_, _, rfl, _⟩; rfl)
    | (rintro _ _ _ ⟨_, _, _, rfl, _⟩; rfl)
    | (rintro _ _ _ ⟨_, _, _, _, rfl, _⟩; rfl)
    | (rintro _ _ _ ⟨_, _, _, _, _, rfl, _⟩; rfl)
    | (rintro _ _ _ ⟨_, _, _, _, _, _, rfl, _⟩; rfl)
    | (rintro _ _ _ ⟨_, _, _, _, _, _, _, rfl, _⟩; rfl)
    | (rintro _ _ _ ⟨_, _, _, _, _, _, _, _, rfl, _⟩; rfl)
theorem len_law_unlike : Ar S_law_unlike 1 := by
  first
    | (rintro _ _ _ ⟨rfl, _⟩; rfl)
    | (rintro _ _ _ ⟨_, rfl, _⟩; rfl)
    | (rintro _ _ _ ⟨_, _, rfl, _⟩; rfl)
    | (rintro _ _ _ ⟨_, _, _, rfl, _⟩; rfl)
    | (rintro _ _ _ ⟨_, _, _, _, rfl, _⟩; rfl)
    | (rintro _ _ _ ⟨_, _, _, _, _, rfl, _⟩; rfl)
    | (rintro _ _ _ ⟨_, _, _, _, _, _, rfl, _⟩; rfl)
    | (rintro _ _ _ ⟨_, _, _, _, _, _, _, rfl, _⟩; rfl)
    | (rintro _ _ _ ⟨_, _, _, _, _, _, _, _, rfl, _⟩; rfl)
theorem len_law_own : Ar S_law_own 1 := by
  first
    | (rintro _ _ _ ⟨rfl, _⟩; rfl)
    | (rintro _ _ _ ⟨_, rfl, _⟩; rfl)
    | (rintro _ _ _ ⟨_, _, rfl, _⟩; rfl)
    | (rintro _ _ _ ⟨_, _, _, rfl, _⟩; rfl)
    | (rintro _ _ _ ⟨_, _, _, _, rfl, _⟩; rfl)
    | (rintro _ _ _ ⟨_, _, _, _, _, rfl, _⟩; rfl)
    | (rintro _ _ _ ⟨_, _, _, _, _, _, rfl, _⟩; rfl)
    | (rintro _ _ _ ⟨_, _, _, _, _, _, _, rfl, _⟩; rfl)
    | (rintro _ _ _ ⟨_, _, _, _, _, _, _, _, rfl, _⟩; rfl)
theorem len_law : Ar S_law 1 := by
  first
    | (rintro _ _ _ ⟨rfl, _⟩; rfl)
    | (rintro _ _ _ ⟨_, rfl, _⟩; rfl)
    | (rintro _ _ _ ⟨_, _, rfl, _⟩; rfl)
    | (rintro _ _ _ ⟨_, _, _, rfl, _⟩; rfl)
    | (rintro _ _ _ ⟨_, _, _, _, rfl, _⟩; rfl)
    | (rintro _ _ _ ⟨_, _, _, _, _, rfl, _⟩; rfl)
    | (rintro _ _ _ ⟨_, _, _, _, _, _, rfl, _⟩; rfl)
    | (rintro _ _ _ ⟨_, _, _, _, _, _, _, rfl, _⟩; rfl)
    | (rintro _ _ _ ⟨_, _, _, _, _, _, _, _, rfl, _⟩; rfl)
end
open PyProof.Rows
def topS (i : Nat) : Stmt := PySem.Challenge.pw_kinrows_k42_forms_of_stretches.main.body.getD i (.Pass ⟨0, 0, 0, 0⟩)
abbrev s_items_of : Stmt := topS 9
theorem sc_items_of : FnScope ["rows", "found", "row"] ["rows"] (defScope s_items_of) := ⟨rfl, rfl, rfl, by decide +kernel, rfl, by decide +kernel, by decide +kernel⟩
abbrev s_need_shape : Stmt := topS 10
theorem sc_need_shape : FnScope ["forms", "row", "sizes", "form"] ["forms"] (defScope s_need_shape) := ⟨rfl, rfl, rfl, by decide +kernel, rfl, by decide +kernel, by decide +kernel⟩
abbrev s_in_rows : Stmt := topS 11
theorem sc_in_rows : FnScope ["items", "like", "found", "at", "row"] ["items", "like"] (defScope s_in_rows) := ⟨rfl, rfl, rfl, by decide +kernel, rfl, by decide +kernel, by decide +kernel⟩
abbrev s_opened : Stmt := topS 12
theorem sc_opened : FnScope ["words", "keys", "holes", "found", "word", "key"] ["words", "keys"] (defScope s_opened) := ⟨rfl, rfl, rfl, by decide +kernel, rfl, by decide +kernel, by decide +kernel⟩
abbrev s_form_of : Stmt := topS 13
theorem sc_form_of : FnScope ["stretches", "rows", "keys", "words", "k", "word", "key", "stretch", "row"] ["stretches"] (defScope s_form_of) := ⟨rfl, rfl, rfl, by decide +kernel, rfl, by decide +kernel, by decide +kernel⟩
abbrev s_law_begin : Stmt := topS 15
theorem sc_law_begin : FnScope ["_law_script", "_law_mixed", "_law_cell"] ["_law_script"] (defScope s_law_begin) := ⟨rfl, rfl, rfl, by decide +kernel, rfl, by decide +kernel, by decide +kernel⟩
abbrev s_law_more : Stmt := topS 16
theorem sc_law_more : FnScope ["_law_state", "_law_k", "_law_cell", "_law_one", "_law_two", "_law_three"] ["_law_state"] (defScope s_law_more) := ⟨rfl, rfl, rfl, by decide +kernel, rfl, by decide +kernel, by decide +kernel⟩
abbrev s_law_next : Stmt := topS 17
theorem sc_law_next : FnScope ["_law_state", "_law_many", "_law_found"] ["_law_state", "_law_many"] (defScope s_law_next) := ⟨rfl, rfl, rfl, by decide +kernel, rfl, by decide +kernel, by decide +kernel⟩
abbrev s_law_pick : Stmt := topS 18
theorem sc_law_pick : FnScope ["_law_state", "_law_some"] ["_law_state", "_law_some"] (defScope s_law_pick) := ⟨rfl, rfl, rfl, by decide +kernel, rfl, by decide +kernel, by decide +kernel⟩
abbrev s_law_wordf : Stmt := topS 19
theorem sc_law_wordf : FnScope ["_law_state", "_law_letters", "_law_figures", "_law_sort", "_law_many", "_law_k"] ["_law_state"] (defScope s_law_wordf) := ⟨rfl, rfl, rfl, by decide +kernel, rfl, by decide +kernel, by decide +kernel⟩
abbrev s_law_pool : Stmt := topS 20
theorem sc_law_pool : FnScope ["_law_state", "_law_k"] ["_law_state"] (defScope s_law_pool) := ⟨rfl, rfl, rfl, by decide +kernel, rfl, by decide +kernel, by decide +kernel⟩
abbrev s_law_shape : Stmt := topS 21
theorem sc_law_shape : FnScope ["_law_state", "_law_way", "_law_k"] ["_law_state"] (defScope s_law_shape) := ⟨rfl, rfl, rfl, by decide +kernel, rfl, by decide +kernel, by decide +kernel⟩
abbrev s_law_in_rows : Stmt := topS 22
theorem sc_law_in_rows : FnScope ["_law_items_here", "_law_shape_here", "_law_found", "_law_at", "_law_size"] ["_law_items_here", "_law_shape_here"] (defScope s_law_in_rows) := ⟨rfl, rfl, rfl, by decide +kernel, rfl, by decide +kernel, by decide +kernel⟩
abbrev s_law_copyf : Stmt := topS 23
theorem sc_law_copyf : FnScope ["_law_rows", "_law_row"] ["_law_rows"] (defScope s_law_copyf) := ⟨rfl, rfl, rfl, by decide +kernel, rfl, by decide +kernel, by decide +kernel⟩
abbrev s_law_items : Stmt := topS 24
theorem sc_law_items : FnScope ["_law_rows", "_law_found", "_law_row"] ["_law_rows"] (defScope s_law_items) := ⟨rfl, rfl, rfl, by decide +kernel, rfl, by decide +kernel, by decide +kernel⟩
abbrev s_law_shape_of : Stmt := topS 25
theorem sc_law_shape_of : FnScope ["_law_rows", "_law_row"] ["_law_rows"] (defScope s_law_shape_of) := ⟨rfl, rfl, rfl, by decide +kernel, rfl, by decide +kernel, by decide +kernel⟩
abbrev s_law_reshaped : Stmt := topS 26
theorem sc_law_reshaped : FnScope ["_law_way", "_law_place", "_law_rows", "_law_at", "_law_row", "_law_k"] ["_law_way", "_law_place", "_law_rows"] (defScope s_law_reshaped) := ⟨rfl, rfl, rfl, by decide +kernel, rfl, by decide +kernel, by decide +kernel⟩
abbrev s_law_hole : Stmt := topS 27
theorem sc_law_hole : FnScope ["_law_item"] ["_law_item"] (defScope s_law_hole) := ⟨rfl, rfl, rfl, by decide +kernel, rfl, by decide +kernel, by decide +kernel⟩
abbrev s_law_is_form : Stmt := topS 28
theorem sc_law_is_form : FnScope ["_law_thing", "_law_shape_here", "_law_many", "_law_item", "_law_row"] ["_law_thing", "_law_shape_here"] (defScope s_law_is_form) := ⟨rfl, rfl, rfl, by decide +kernel, rfl, by decide +kernel, by decide +kernel⟩
abbrev s_law_classes : Stmt := topS 29
theorem sc_law_classes : FnScope ["_law_error", "_law_found"] ["_law_error"] (defScope s_law_classes) := ⟨rfl, rfl, rfl, by decide +kernel, rfl, by decide +kernel, by decide +kernel⟩
abbrev s_law_asked : Stmt := topS 30
theorem sc_law_asked : FnScope ["_law_given", "_law_caught", "_law_found", "_law_error"] ["_law_given"] (defScope s_law_asked) := ⟨rfl, rfl, rfl, by decide +kernel, rfl, by decide +kernel, by decide +kernel⟩
abbrev s_law_stretchw : Stmt := topS 31
theorem sc_law_stretchw : FnScope ["_law_state", "_law_shape_here", "_law_pool_here", "_law_k"] ["_law_state", "_law_shape_here", "_law_pool_here"] (defScope s_law_stretchw) := ⟨rfl, rfl, rfl, by decide +kernel, rfl, by decide +kernel, by decide +kernel⟩
abbrev s_law_right : Stmt := topS 32
theorem sc_law_right : FnScope ["_law_found", "_law_given", "_law_items_here", "_law_rows", "_law_columns", "_law_p", "_law_same", "_law_q", "_law_alike", "_law_stretch_here", "_law_row"] ["_law_found", "_law_given"] (defScope s_law_right) := ⟨rfl, rfl, rfl, by decide +kernel, rfl, by decide +kernel, by decide +kernel⟩
abbrev s_law_unlike : Stmt := topS 33
theorem sc_law_unlike : FnScope ["_law_some", "_law_row", "_law_here", "_law_one"] ["_law_some"] (defScope s_law_unlike) := ⟨rfl, rfl, rfl, by decide +kernel, rfl, by decide +kernel, by decide +kernel⟩
abbrev s_law_own : Stmt := topS 34
theorem sc_law_own : FnScope ["_law_found", "_law_kept", "_law_row"] ["_law_found"] (defScope s_law_own) := ⟨rfl, rfl, rfl, by decide +kernel, rfl, by decide +kernel, by decide +kernel⟩
abbrev s_law : Stmt := topS 35
theorem sc_law : FnScope ["_law_script", "_law_state", "_law_spoil", "_law_way", "_law_place", "_law_which", "_law_twice", "_law_many", "_law_shape_here", "_law_pool_here", "_law_given", "_law_handed", "_law_told", "_law_row", "_law_k", "_law_stretch_here", "_law_size"] ["_law_script"] (defScope s_law) := ⟨rfl, rfl, rfl, by decide +kernel, rfl, by decide +kernel, by decide +kernel⟩
abbrev s_init_Shape : Stmt := bodyAt 0 (topS 5)
theorem sc_init_Shape : FnScope ["self", "row"] ["self", "row"] (defScope s_init_Shape) := ⟨rfl, rfl, rfl, by decide +kernel, rfl, by decide +kernel, by decide +kernel⟩
theorem g_0_stretches_form_of_ok : GOk (@g_0_stretches_form_of) := gP_ok
set_option maxHeartbeats 0
set_option synthInstance.maxHeartbeats 0
structure Txt (K : PySem.W.Frag) (mg : Str → Option Value) (cn : String → Addr) where
  f_items_of : Addr
  fd_items_of : FuncData
  F_items_of : Fun K "items_of" "items_of" s_items_of f_items_of fd_items_of
  m_items_of : mg "items_of" = some (.ref f_items_of)
  b_items_of : Binds K fd_items_of ["rows"] []
  f_need_shape : Addr
  fd_need_shape : FuncData
  F_need_shape : Fun K "need_shape" "need_shape" s_need_shape f_need_shape fd_need_shape
  m_need_shape : mg "need_shape" = some (.ref f_need_shape)
  b_need_shape : Binds K fd_need_shape ["forms"] []
  f_in_rows : Addr
  fd_in_rows : FuncData
  F_in_rows : Fun K "in_rows" "in_rows" s_in_rows f_in_rows fd_in_rows
  m_in_rows : mg "in_rows" = some (.ref f_in_rows)
  b_in_rows : Binds K fd_in_rows ["items", "like"] []
  f_opened : Addr
  fd_opened : FuncData
  F_opened : Fun K "opened" "opened" s_opened f_opened fd_opened
  m_opened : mg "opened" = some (.ref f_opened)
  b_opened : Binds K fd_opened ["words", "keys"] []
  f_form_of : Addr
  fd_form_of : FuncData
  F_form_of : Fun K "form_of" "form_of" s_form_of f_form_of fd_form_of
  m_form_of : mg "form_of" = some (.ref f_form_of)
  b_form_of : Binds K fd_form_of ["stretches"] []
  f_law_begin : Addr
  fd_law_begin : FuncData
  F_law_begin : Fun K "_law_begin" "_law_begin" s_law_begin f_law_begin fd_law_begin
  m_law_begin : mg "_law_begin" = some (.ref f_law_begin)
  b_law_begin : Binds K fd_law_begin ["_law_script"] []
  f_law_more : Addr
  fd_law_more : FuncData
  F_law_more : Fun K "_law_more" "_law_more" s_law_more f_law_more fd_law_more
  m_law_more : mg "_law_more" = some (.ref f_law_more)
  b_law_more : Binds K fd_law_more ["_law_state"] []
  f_law_next : Addr
  fd_law_next : FuncData
  F_law_next : Fun K "_law_next" "_law_next" s_law_next f_law_next fd_law_next
  m_law_next : mg "_law_next" = some (.ref f_law_next)
  b_law_next : Binds K fd_law_next ["_law_state", "_law_many"] []
  f_law_pick : Addr
  fd_law_pick : FuncData
  F_law_pick : Fun K "_law_pick" "_law_pick" s_law_pick f_law_pick fd_law_pick
  m_law_pick : mg "_law_pick" = some (.ref f_law_pick)
  b_law_pick : Binds K fd_law_pick ["_law_state", "_law_some"] []
  f_law_wordf : Addr
  fd_law_wordf : FuncData
  F_law_wordf : Fun K "_law_word" "_law_word" s_law_wordf f_law_wordf fd_law_wordf
  m_law_wordf : mg "_law_word" = some (.ref f_law_wordf)
  b_law_wordf : Binds K fd_law_wordf ["_law_state"] []
  f_law_pool : Addr
  fd_law_pool : FuncData
  F_law_pool : Fun K "_law_pool" "_law_pool" s_law_pool f_law_pool fd_law_pool
  m_law_pool : mg "_law_pool" = some (.ref f_law_pool)
  b_law_pool : Binds K fd_law_pool ["_law_state"] []
  f_law_shape : Addr
  fd_law_shape : FuncData
  F_law_shape : Fun K "_law_shape" "_law_shape" s_law_shape f_law_shape fd_law_shape
  m_law_shape : mg "_law_shape" = some (.ref f_law_shape)
  b_law_shape : Binds K fd_law_shape ["_law_state"] []
  f_law_in_rows : Addr
  fd_law_in_rows : FuncData
  F_law_in_rows : Fun K "_law_in_rows" "_law_in_rows" s_law_in_rows f_law_in_rows fd_law_in_rows
  m_law_in_rows : mg "_law_in_rows" = some (.ref f_law_in_rows)
  b_law_in_rows : Binds K fd_law_in_rows ["_law_items_here", "_law_shape_here"] []
  f_law_copyf : Addr
  fd_law_copyf : FuncData
  F_law_copyf : Fun K "_law_copy" "_law_copy" s_law_copyf f_law_copyf fd_law_copyf
  m_law_copyf : mg "_law_copy" = some (.ref f_law_copyf)
  b_law_copyf : Binds K fd_law_copyf ["_law_rows"] []
  f_law_items : Addr
  fd_law_items : FuncData
  F_law_items : Fun K "_law_items" "_law_items" s_law_items f_law_items fd_law_items
  m_law_items : mg "_law_items" = some (.ref f_law_items)
  b_law_items : Binds K fd_law_items ["_law_rows"] []
  f_law_shape_of : Addr
  fd_law_shape_of : FuncData
  F_law_shape_of : Fun K "_law_shape_of" "_law_shape_of" s_law_shape_of f_law_shape_of fd_law_shape_of
  m_law_shape_of : mg "_law_shape_of" = some (.ref f_law_shape_of)
  b_law_shape_of : Binds K fd_law_shape_of ["_law_rows"] []
  f_law_reshaped : Addr
  fd_law_reshaped : FuncData
  F_law_reshaped : Fun K "_law_reshaped" "_law_reshaped" s_law_reshaped f_law_reshaped fd_law_reshaped
  m_law_reshaped : mg "_law_reshaped" = some (.ref f_law_reshaped)
  b_law_reshaped : Binds K fd_law_reshaped ["_law_way", "_law_place", "_law_rows"] []
  f_law_hole : Addr
  fd_law_hole : FuncData
  F_law_hole : Fun K "_law_hole" "_law_hole" s_law_hole f_law_hole fd_law_hole
  m_law_hole : mg "_law_hole" = some (.ref f_law_hole)
  b_law_hole : Binds K fd_law_hole ["_law_item"] []
  f_law_is_form : Addr
  fd_law_is_form : FuncData
  F_law_is_form : Fun K "_law_is_form" "_law_is_form" s_law_is_form f_law_is_form fd_law_is_form
  m_law_is_form : mg "_law_is_form" = some (.ref f_law_is_form)
  b_law_is_form : Binds K fd_law_is_form ["_law_thing", "_law_shape_here"] []
  f_law_classes : Addr
  fd_law_classes : FuncData
  F_law_classes : Fun K "_law_classes" "_law_classes" s_law_classes f_law_classes fd_law_classes
  m_law_classes : mg "_law_classes" = some (.ref f_law_classes)
  b_law_classes : Binds K fd_law_classes ["_law_error"] []
  f_law_asked : Addr
  fd_law_asked : FuncData
  F_law_asked : Fun K "_law_asked" "_law_asked" s_law_asked f_law_asked fd_law_asked
  m_law_asked : mg "_law_asked" = some (.ref f_law_asked)
  b_law_asked : Binds K fd_law_asked ["_law_given"] []
  f_law_stretchw : Addr
  fd_law_stretchw : FuncData
  F_law_stretchw : Fun K "_law_stretch" "_law_stretch" s_law_stretchw f_law_stretchw fd_law_stretchw
  m_law_stretchw : mg "_law_stretch" = some (.ref f_law_stretchw)
  b_law_stretchw : Binds K fd_law_stretchw ["_law_state", "_law_shape_here", "_law_pool_here"] []
  f_law_right : Addr
  fd_law_right : FuncData
  F_law_right : Fun K "_law_right" "_law_right" s_law_right f_law_right fd_law_right
  m_law_right : mg "_law_right" = some (.ref f_law_right)
  b_law_right : Binds K fd_law_right ["_law_found", "_law_given"] []
  f_law_unlike : Addr
  fd_law_unlike : FuncData
  F_law_unlike : Fun K "_law_unlike" "_law_unlike" s_law_unlike f_law_unlike fd_law_unlike
  m_law_unlike : mg "_law_unlike" = some (.ref f_law_unlike)
  b_law_unlike : Binds K fd_law_unlike ["_law_some"] []
  f_law_own : Addr
  fd_law_own : FuncData
  F_law_own : Fun K "_law_own" "_law_own" s_law_own f_law_own fd_law_own
  m_law_own : mg "_law_own" = some (.ref f_law_own)
  b_law_own : Binds K fd_law_own ["_law_found"] []
  f_law : Addr
  fd_law : FuncData
  F_law : Fun K "law" "law" s_law f_law fd_law
  m_law : mg "law" = some (.ref f_law)
  b_law : Binds K fd_law ["_law_script"] []
  g_0_stretches_form_of : KBinds K fd_form_of ["stretches"] ["stretches"] (fun us ws => g_0_stretches_form_of us ws) (fun us ws => g_0_stretches_form_of us ws)
  n_ValueError : mg "ValueError" = none
  n_bool : mg "bool" = none
  n_enumerate : mg "enumerate" = none
  n_int : mg "int" = none
  n_isinstance : mg "isinstance" = none
  n_len : mg "len" = none
  n_list : mg "list" = none
  n_max : mg "max" = none
  n_range : mg "range" = none
  n_str : mg "str" = none
  n_sum : mg "sum" = none
  n_tuple : mg "tuple" = none
  n_zip : mg "zip" = none
  C_KinError : Addr
  c_KinError : cn "KinError" = C_KinError
  g_KinError : mg "KinError" = some (.ref C_KinError)
  kc_KinError : PySem.W.keepIn K (.ref C_KinError) = true
  sb_KinError : PySem.W.subIn K (.ref C_KinError) (.type "BaseException") = some true
  ty_KinError : PySem.W.typeIn K (.ref C_KinError) = some (.type "type")
  C_NoRows : Addr
  c_NoRows : cn "NoRows" = C_NoRows
  g_NoRows : mg "NoRows" = some (.ref C_NoRows)
  kc_NoRows : PySem.W.keepIn K (.ref C_NoRows) = true
  sb_NoRows : PySem.W.subIn K (.ref C_NoRows) (.type "BaseException") = some true
  ty_NoRows : PySem.W.typeIn K (.ref C_NoRows) = some (.type "type")
  C_Shape : Addr
  c_Shape : cn "Shape" = C_Shape
  g_Shape : mg "Shape" = some (.ref C_Shape)
  kc_Shape : PySem.W.keepIn K (.ref C_Shape) = true
  sb_Shape : PySem.W.subIn K (.ref C_Shape) (.type "BaseException") = some true
  ty_Shape : PySem.W.typeIn K (.ref C_Shape) = some (.type "type")
  x_KinError : PySem.W.excIn K C_KinError [.type "ValueError", .type "Exception", .type "BaseException", .type "object"] "ValueError.__new__" = true
  x_NoRows : PySem.W.excIn K C_NoRows [.type "ValueError", .type "Exception", .type "BaseException", .type "object"] "ValueError.__new__" = true
  e_NoRows_KinError : PySem.W.exmOne K (.ref C_NoRows) (.ref C_KinError) = some true
  e_Shape_KinError : PySem.W.exmOne K (.ref C_Shape) (.ref C_KinError) = some true
  ng_NoRows : PySem.W.nsIn K mainGlobals "NoRows" = some (some (.ref C_NoRows))
  ng_Shape : PySem.W.nsIn K mainGlobals "Shape" = some (some (.ref C_Shape))
  xd_NoRows : ExcD K C_NoRows
  xd_Shape : ExcD K C_Shape
  C_BadFilling : Addr
  g_BadFilling : mg "BadFilling" = some (.ref C_BadFilling)
  C_BadForm : Addr
  g_BadForm : mg "BadForm" = some (.ref C_BadForm)
  C_BadRow : Addr
  g_BadRow : mg "BadRow" = some (.ref C_BadRow)
  C_BadWord : Addr
  g_BadWord : mg "BadWord" = some (.ref C_BadWord)
  kq_BadFilling : PySem.W.kitOne K (.type "NoneType") (.ref C_BadFilling) = some false ∧ PySem.W.kitOne K (.ref C_NoRows) (.ref C_BadFilling) = some false ∧ PySem.W.kitOne K (.ref C_Shape) (.ref C_BadFilling) = some false
  kq_BadForm : PySem.W.kitOne K (.type "NoneType") (.ref C_BadForm) = some false ∧ PySem.W.kitOne K (.ref C_NoRows) (.ref C_BadForm) = some false ∧ PySem.W.kitOne K (.ref C_Shape) (.ref C_BadForm) = some false
  kq_BadRow : PySem.W.kitOne K (.type "NoneType") (.ref C_BadRow) = some false ∧ PySem.W.kitOne K (.ref C_NoRows) (.ref C_BadRow) = some false ∧ PySem.W.kitOne K (.ref C_Shape) (.ref C_BadRow) = some false
  kq_BadWord : PySem.W.kitOne K (.type "NoneType") (.ref C_BadWord) = some false ∧ PySem.W.kitOne K (.ref C_NoRows) (.ref C_BadWord) = some false ∧ PySem.W.kitOne K (.ref C_Shape) (.ref C_BadWord) = some false
  kq_NoRows : PySem.W.kitOne K (.type "NoneType") (.ref C_NoRows) = some false ∧ PySem.W.kitOne K (.ref C_NoRows) (.ref C_NoRows) = some true ∧ PySem.W.kitOne K (.ref C_Shape) (.ref C_NoRows) = some false
  kq_Shape : PySem.W.kitOne K (.type "NoneType") (.ref C_Shape) = some false ∧ PySem.W.kitOne K (.ref C_NoRows) (.ref C_Shape) = some false ∧ PySem.W.kitOne K (.ref C_Shape) (.ref C_Shape) = some true
  kq_ValueError : PySem.W.kitOne K (.type "NoneType") (.type "ValueError") = some false ∧ PySem.W.kitOne K (.ref C_NoRows) (.type "ValueError") = some true ∧ PySem.W.kitOne K (.ref C_Shape) (.type "ValueError") = some true
  hd_Shape : PySem.W.hasDictIn K C_Shape = true
  nf_Shape_row : PySem.W.findIn K (.ref C_Shape) "row" = some none
  oe_Shape : OexC K C_Shape
  fi_Shape : Addr
  fdi_Shape : FuncData
  ii_Shape : PySem.W.findIn K (.ref C_Shape) "__init__" = some (some (.ref fi_Shape))
  ti_Shape : PySem.W.typeIn K (.ref fi_Shape) = some (.type "function")
  Fi_Shape : Fun K "__init__" "Shape.__init__" s_init_Shape fi_Shape fdi_Shape
  bi_Shape : Binds K fdi_Shape ["self", "row"] []
section
variable {P : Program} {w : World} {K : PySem.W.Frag} {mg : Str → Option Value} {base : Heap} {cn : String → Addr}
theorem ok_init_Shape (T : Txt K mg cn) : FnOk P w K mg base (L2.CX P w) 1 T.fi_Shape T.fdi_Shape ["self", "row"] (spInit "row" K) :=
  init_ok T.Fi_Shape sc_init_Shape fun cdv A outer s H E hr => pss_one (ps_ost (pv 0) (pv 1))
theorem ok_items_of (T : Txt K mg cn)  : FnD P w K mg base cn 1 T.f_items_of T.fd_items_of ["rows"] S_items_of := by
  refine def_mk T.F_items_of sc_items_of (by decide) len_items_of sem_items_of rfl fun cdv A outer s H E hr => ?_
  have hu65 := hu65_of hr
  have hu1 := hu_of hr
  have tks := takes_of (X := cxOf (L2.CX P w) P w K mg base ["rows", "found", "row"] "items_of" (defScope s_items_of) T.f_items_of cdv A outer s H E) rfl rfl rfl rfl
  exact (jss_cons (js_set (i := 1) (lt_of rfl) (ps_set sc_items_of.nd rfl (by first | exact Or.inl rfl | exact Or.inr rfl) (je_lst ja_nil)))
    (jss_cons (js_forW (vs := [2]) (passes_of rfl) rfl (ji_seq (je_v (lt_of rfl) (pv 0))) (jg_name (lt_of rfl) (pg_name (i := 2) sc_items_of.nd rfl (by first | exact Or.inl rfl | exact Or.inr rfl))) (jss_one (js_expr (je_mut m_extend (lt_of rfl) (pe_bm PySem.F.plainAttrs_list PySem.F.slot_list_extend PySem.F.type_list_extend mt_extend (pv 1) (ja_cons (je_v (lt_of rfl) (pv 2)) ja_nil))))))
    (jss_one (js_ret (je_mv (lt_of rfl) (pv 1))))))
theorem ok_need_shape (T : Txt K mg cn)  : FnD P w K mg base cn 3 T.f_need_shape T.fd_need_shape ["forms"] S_need_shape := by
  refine def_mk T.F_need_shape sc_need_shape (by decide) len_need_shape sem_need_shape rfl fun cdv A outer s H E hr => ?_
  have hu65 := hu65_of hr
  have hu1 := hu_of hr
  have tks := takes_of (X := cxOf (L2.CX P w) P w K mg base ["forms", "row", "sizes", "form"] "need_shape" (defScope s_need_shape) T.f_need_shape cdv A outer s H E) rfl rfl rfl rfl
  exact (jss_one (js_forW (vs := [1, 2]) (passes_of rfl) rfl (ji_rng1 (pi_range1 (by rfl) T.n_range (ja_cons (je_cb s_maxL (pe_callB (call_maxL rfl hu65) (by rfl) T.n_max (by decide +kernel) (ja_cons (je_lc (pe_lc (own := [("form", 3)]) rfl sc_need_shape.nd (ji_seq (je_v (lt_of rfl) (pv 0))) (blkOk_by (N := ["forms", "row", "sizes", "form"]) (sc := (defScope s_need_shape)) (by decide +kernel)) (fun _ _ _ _ _ => (jg_name (lt_of rfl) (pg_name (i := 3) sc_need_shape.nd rfl (by first | exact Or.inl rfl | exact Or.inr rfl)))) (fun _ _ _ _ _ => jts_nil) (fun _ _ _ _ _ => (je_cb s_len (pe_callB o_len (by rfl) T.n_len boot_len (ja_cons (je_v (lt_of rfl) (pv 3)) ja_nil)))))) ja_nil))) ja_nil))) (jg_name (lt_of rfl) (pg_name (i := 1) sc_need_shape.nd rfl (by first | exact Or.inl rfl | exact Or.inr rfl))) (jss_cons (js_setLc (i := 2) (lt_of rfl) (ps_setLc (i := 2) (own := [("form", 3)]) rfl sc_need_shape.nd rfl rfl (sw_true rfl rfl rfl (by decide +kernel)) (ji_seq (je_v (lt_of rfl) (pv 0))) (blkOk_by (N := ["forms", "row", "sizes", "form"]) (sc := (defScope s_need_shape)) (by decide +kernel)) (fun _ _ _ _ _ => (jg_name (lt_of rfl) (pg_name (i := 3) sc_need_shape.nd rfl (by first | exact Or.inl rfl | exact Or.inr rfl)))) (fun _ _ _ _ _ => jts_nil) (fun _ _ _ _ _ => (je_if (jt_cmp o_lt s_cmp (je_v (lt_of rfl) (pv 1)) (je_cb s_len (pe_callB o_len (by rfl) T.n_len boot_len (ja_cons (je_v (lt_of rfl) (pv 3)) ja_nil))) (nomark _)) (je_cb s_len (pe_callB o_len (by rfl) T.n_len boot_len (ja_cons (je_ixS hu1 (je_v (lt_of rfl) (pv 3)) (je_v (lt_of rfl) (pv 1)) (fun _ _ => rfl)) ja_nil))) (je_c pe_non)))))
    (jss_one (js_if (jt_cmp (o_ne hu65) s_ne (je_bm1 PySem.F.plainAttrs_list PySem.F.slot_list_count PySem.F.type_list_count (mt_lcountP hu65) s_count (je_v (lt_of rfl) (pv 2)) (je_ixS hu1 (je_v (lt_of rfl) (pv 2)) (je_c pe_int) (fun _ _ => rfl))) (je_cb s_len (pe_callB o_len (by rfl) T.n_len boot_len (ja_cons (je_v (lt_of rfl) (pv 2)) ja_nil))) (nomark _)) (jss_one (js_raiseF rfl tks T.c_Shape T.oe_Shape T.ii_Shape T.ti_Shape T.nf_Shape_row ((ok_init_Shape T).mono (by decide)) hr T.bi_Shape (by rfl) T.g_Shape (je_v (lt_of rfl) (pv 1)))) jss_nil)))))
theorem ok_in_rows (T : Txt K mg cn)  : FnD P w K mg base cn 1 T.f_in_rows T.fd_in_rows ["items", "like"] S_in_rows := by
  refine def_mk T.F_in_rows sc_in_rows (by decide) len_in_rows sem_in_rows rfl fun cdv A outer s H E hr => ?_
  have hu65 := hu65_of hr
  have hu1 := hu_of hr
  have tks := takes_of (X := cxOf (L2.CX P w) P w K mg base ["items", "like", "found", "at", "row"] "in_rows" (defScope s_in_rows) T.f_in_rows cdv A outer s H E) rfl rfl rfl rfl
  exact (jss_cons (js_set (i := 2) (lt_of rfl) (ps_set sc_in_rows.nd rfl (by first | exact Or.inl rfl | exact Or.inr rfl) (je_lst ja_nil)))
    (jss_cons (js_set (i := 3) (lt_of rfl) (ps_set sc_in_rows.nd rfl (by first | exact Or.inl rfl | exact Or.inr rfl) (je_c pe_int)))
    (jss_cons (js_forW (vs := [4]) (passes_of rfl) rfl (ji_seq (je_v (lt_of rfl) (pv 1))) (jg_name (lt_of rfl) (pg_name (i := 4) sc_in_rows.nd rfl (by first | exact Or.inl rfl | exact Or.inr rfl))) (jss_cons (js_expr (je_mut m_append (lt_of rfl) (pe_bm PySem.F.plainAttrs_list PySem.F.slot_list_append PySem.F.type_list_append mt_append (pv 2) (ja_cons (je_cut (je_v (lt_of rfl) (pv 0)) (jo_some (je_v (lt_of rfl) (pv 3))) (jo_some (je_op o_add s_add (je_v (lt_of rfl) (pv 3)) (je_cb s_len (pe_callB o_len (by rfl) T.n_len boot_len (ja_cons (je_v (lt_of rfl) (pv 4)) ja_nil)))))) ja_nil))))
    (jss_one (js_augI (lt_of rfl) (ps_aug (i := 3) sc_in_rows.nd rfl (by first | exact Or.inl rfl | exact Or.inr rfl) (je_cb s_len (pe_callB o_len (by rfl) T.n_len boot_len (ja_cons (je_v (lt_of rfl) (pv 4)) ja_nil))) ip_add)))))
    (jss_one (js_ret (je_mv (lt_of rfl) (pv 2)))))))
theorem ok_opened (T : Txt K mg cn)  : FnD P w K mg base cn 1 T.f_opened T.fd_opened ["words", "keys"] S_opened := by
  refine def_mk T.F_opened sc_opened (by decide) len_opened sem_opened rfl fun cdv A outer s H E hr => ?_
  have hu65 := hu65_of hr
  have hu1 := hu_of hr
  have tks := takes_of (X := cxOf (L2.CX P w) P w K mg base ["words", "keys", "holes", "found", "word", "key"] "opened" (defScope s_opened) T.f_opened cdv A outer s H E) rfl rfl rfl rfl
  exact (jss_cons (js_set (i := 2) (lt_of rfl) (ps_set sc_opened.nd rfl (by first | exact Or.inl rfl | exact Or.inr rfl) je_newX))
    (jss_cons (js_set (i := 3) (lt_of rfl) (ps_set sc_opened.nd rfl (by first | exact Or.inl rfl | exact Or.inr rfl) (je_lst ja_nil)))
    (jss_cons (js_forW (vs := [4, 5]) (passes_of rfl) rfl (ji_zip (pi_zip (by rfl) T.n_zip (ja_cons (je_v (lt_of rfl) (pv 0)) (ja_cons (je_v (lt_of rfl) (pv 1)) ja_nil)))) (jg_tup (S := [4, 5]) (n := 2) rfl (jgs_cons (jg_mono (S' := [4, 5]) (jg_name (lt_of rfl) (pg_name (i := 4) sc_opened.nd rfl (by first | exact Or.inl rfl | exact Or.inr rfl))) (by decide)) (jgs_cons (jg_mono (S' := [4, 5]) (jg_name (lt_of rfl) (pg_name (i := 5) sc_opened.nd rfl (by first | exact Or.inl rfl | exact Or.inr rfl))) (by decide)) jgs_nil))) (jss_one (js_if (jt_cmp op_isN s_isN (je_v (lt_of rfl) (pv 4)) (je_c pe_non) (nomark _)) (jss_one (js_expr (je_mut m_append (lt_of rfl) (pe_bm PySem.F.plainAttrs_list PySem.F.slot_list_append PySem.F.type_list_append mt_append (pv 3) (ja_cons (je_setd2 hu1 (lt_of rfl) (pv 2) (je_v (lt_of rfl) (pv 5)) (je_cb (s_len2 rfl) (pe_callB o_len2 (by rfl) T.n_len boot_len (ja_cons (je_v (lt_of rfl) (pv 2)) ja_nil))) ⟨rfl, rfl, rfl, rfl⟩) ja_nil))))) (jss_one (js_expr (je_mut m_append (lt_of rfl) (pe_bm PySem.F.plainAttrs_list PySem.F.slot_list_append PySem.F.type_list_append mt_append (pv 3) (ja_cons (je_v (lt_of rfl) (pv 4)) ja_nil))))))))
    (jss_one (js_ret (je_mv (lt_of rfl) (pv 3)))))))
theorem ok_form_of (T : Txt K mg cn) (G_need_shape : FnD P w K mg base cn 3 T.f_need_shape T.fd_need_shape ["forms"] S_need_shape) (G_in_rows : FnD P w K mg base cn 1 T.f_in_rows T.fd_in_rows ["items", "like"] S_in_rows) (G_items_of : FnD P w K mg base cn 1 T.f_items_of T.fd_items_of ["rows"] S_items_of) (G_opened : FnD P w K mg base cn 1 T.f_opened T.fd_opened ["words", "keys"] S_opened) : FnD P w K mg base cn 4 T.f_form_of T.fd_form_of ["stretches"] S_form_of := by
  refine def_mk T.F_form_of sc_form_of (by decide) len_form_of sem_form_of rfl fun cdv A outer s H E hr => ?_
  have hu65 := hu65_of hr
  have hu1 := hu_of hr
  have tks := takes_of (X := cxOf (L2.CX P w) P w K mg base ["stretches", "rows", "keys", "words", "k", "word", "key", "stretch", "row"] "form_of" (defScope s_form_of) T.f_form_of cdv A outer s H E) rfl rfl rfl rfl
  exact (jss_cons (js_if (jt_cmp (o_eq hu65) s_eq (je_cb s_len (pe_callB o_len (by rfl) T.n_len boot_len (ja_cons (je_v (lt_of rfl) (pv 0)) ja_nil))) (je_c pe_int) (nomark _)) (jss_one (js_raise rfl tks T.c_NoRows PySem.F.excBase_ValueError T.x_NoRows T.g_NoRows T.kc_NoRows (raises_own T.sb_NoRows T.ty_NoRows) (by rfl))) jss_nil)
    (jss_cons (js_expr (je_callN (ms := [false]) (G_need_shape.mono (by decide)) hr (by rfl) T.m_need_shape T.F_need_shape.kp T.b_need_shape tks (ja_cons (je_v (lt_of rfl) (pv 0)) ja_nil)))
    (jss_cons (js_setLc (i := 1) (lt_of rfl) (ps_setLc (i := 1) (own := [("stretch", 7)]) rfl sc_form_of.nd rfl rfl (sw_true rfl rfl rfl (by decide +kernel)) (ji_seq (je_v (lt_of rfl) (pv 0))) (blkOk_by (N := ["stretches", "rows", "keys", "words", "k", "word", "key", "stretch", "row"]) (sc := (defScope s_form_of)) (by decide +kernel)) (fun _ _ _ _ _ => (jg_name (lt_of rfl) (pg_name (i := 7) sc_form_of.nd rfl (by first | exact Or.inl rfl | exact Or.inr rfl)))) (fun _ _ _ _ _ => jts_nil) (fun _ _ _ _ _ => (je_fz (je_callN (ms := [false]) (G_items_of.mono (by decide)) hr (by rfl) T.m_items_of T.F_items_of.kp T.b_items_of takes0 (ja_cons (je_v (lt_of rfl) (pv 7)) ja_nil))))))
    (jss_cons (js_frz (js_set (i := 2) (lt_of rfl) (ps_set sc_form_of.nd rfl (by first | exact Or.inl rfl | exact Or.inr rfl) (je_lst ja_nil))))
    (jss_cons (js_set (i := 3) (lt_of rfl) (ps_set sc_form_of.nd rfl (by first | exact Or.inl rfl | exact Or.inr rfl) (je_lst ja_nil)))
    (jss_cons (js_forW (vs := [4, 5, 6]) (passes_of rfl) rfl (ji_enum (pi_enum (by rfl) T.n_enumerate (ja_cons (je_ixS hu1 (je_v (lt_of rfl) (pv 1)) (je_c pe_int) (fun _ _ => rfl)) ja_nil))) (jg_tup (S := [4, 5]) (n := 2) rfl (jgs_cons (jg_mono (S' := [4, 5]) (jg_name (lt_of rfl) (pg_name (i := 4) sc_form_of.nd rfl (by first | exact Or.inl rfl | exact Or.inr rfl))) (by decide)) (jgs_cons (jg_mono (S' := [4, 5]) (jg_name (lt_of rfl) (pg_name (i := 5) sc_form_of.nd rfl (by first | exact Or.inl rfl | exact Or.inr rfl))) (by decide)) jgs_nil))) (jss_tc (lt_of rfl) (lt_of rfl) (lt_of rfl) (lt_of rfl) (ps_set sc_form_of.nd rfl (by first | exact Or.inl rfl | exact Or.inr rfl) (pe_tupX (by rfl) T.n_tuple (je_lc (pe_lc (own := [("row", 8)]) rfl sc_form_of.nd (ji_seq (je_v (lt_of rfl) (pv 1))) (blkOk_by (N := ["stretches", "rows", "keys", "words", "k", "word", "key", "stretch", "row"]) (sc := (defScope s_form_of)) (by decide +kernel)) (fun _ _ _ _ _ => (jg_name (lt_of rfl) (pg_name (i := 8) sc_form_of.nd rfl (by first | exact Or.inl rfl | exact Or.inr rfl)))) (fun _ _ _ _ _ => jts_nil) (fun _ _ _ _ _ => (je_ixS hu1 (je_v (lt_of rfl) (pv 8)) (je_v (lt_of rfl) (pv 4)) (fun _ _ => rfl)))))))
    (ps_expr (pe_bm PySem.F.plainAttrs_list PySem.F.slot_list_append PySem.F.type_list_append mt_append (pv 2) (pa_cons (pv 6) pa_nil)))
    (ps_expr (pe_bm PySem.F.plainAttrs_list PySem.F.slot_list_append PySem.F.type_list_append mt_append (pv 3) (pa_cons (pe_ifExp (pt_cmpR (o_eq hu65) (pe_tm PySem.F.slot_tuple_count PySem.F.type_tuple_count (mt_tcountP hu65) (pv 6) (pa_cons (pv 5) pa_nil)) (pe_callB o_len (by rfl) T.n_len boot_len (pa_cons (pv 6) pa_nil)) (nomark _)) (pv 5) pe_non) pa_nil)))))
    (jss_one (js_ret (je_callN (ms := [false, false]) (G_in_rows.mono (by decide)) hr (by rfl) T.m_in_rows T.F_in_rows.kp T.b_in_rows tks (ja_cons (je_callN (ms := [false, false]) (G_opened.mono (by decide)) hr (by rfl) T.m_opened T.F_opened.kp T.b_opened tks (ja_cons (je_v (lt_of rfl) (pv 3)) (ja_cons (je_v (lt_of rfl) (pv 2)) ja_nil))) (ja_cons (je_ixS hu1 (je_v (lt_of rfl) (pv 0)) (je_c pe_int) (fun _ _ => rfl)) ja_nil)))))))))))
theorem ok_law_begin (T : Txt K mg cn)  : FnD P w K mg base cn 1 T.f_law_begin T.fd_law_begin ["_law_script"] S_law_begin := by
  refine def_mk T.F_law_begin sc_law_begin (by decide) len_law_begin sem_law_begin rfl fun cdv A outer s H E hr => ?_
  have hu65 := hu65_of hr
  have hu1 := hu_of hr
  have tks := takes_of (X := cxOf (L2.CX P w) P w K mg base ["_law_script", "_law_mixed", "_law_cell"] "_law_begin" (defScope s_law_begin) T.f_law_begin cdv A outer s H E) rfl rfl rfl rfl
  exact (jss_cons (js_set (i := 1) (lt_of rfl) (ps_set sc_law_begin.nd rfl (by first | exact Or.inl rfl | exact Or.inr rfl) (je_c pe_int)))
    (jss_cons (js_forW (vs := [2]) (passes_of rfl) rfl (ji_seq (je_v (lt_of rfl) (pv 0))) (jg_name (lt_of rfl) (pg_name (i := 2) sc_law_begin.nd rfl (by first | exact Or.inl rfl | exact Or.inr rfl))) (jss_one (js_set (i := 1) (lt_of rfl) (ps_set sc_law_begin.nd rfl (by first | exact Or.inl rfl | exact Or.inr rfl) (je_op op_mod s_I (je_op o_add s_add (je_op o_mul s_mul (je_v (lt_of rfl) (pv 1)) (je_c pe_int)) (je_v (lt_of rfl) (pv 2))) (je_c pe_int))))))
    (jss_one (js_ret (je_disp [("cells", (dFz (dCB qList (dCons (dVar 0) dNil)))), ("next", (dC (.int 0))), ("left", (dC (.int 0))), ("mixed", (dVar 1))] (pps_cons pe_str (je_fz (je_cb s_list (pe_callTy call_list_of (by rfl) T.n_list (by decide +kernel) (ja_cons (je_v (lt_of rfl) (pv 0)) ja_nil)))) (pps_cons pe_str (je_c pe_int) (pps_cons pe_str (je_c pe_int) (pps_cons pe_str (je_v (lt_of rfl) (pv 1)) pps_nil)))) rfl rfl (by simp) (by decide))))))
theorem ok_law_more (T : Txt K mg cn)  : FnD P w K mg base cn 1 T.f_law_more T.fd_law_more ["_law_state"] S_law_more := by
  refine def_mk T.F_law_more sc_law_more (by decide) len_law_more sem_law_more rfl fun cdv A outer s H E hr => ?_
  have hu65 := hu65_of hr
  have hu1 := hu_of hr
  have tks := takes_of (X := cxOf (L2.CX P w) P w K mg base ["_law_state", "_law_k", "_law_cell", "_law_one", "_law_two", "_law_three"] "_law_more" (defScope s_law_more) T.f_law_more cdv A outer s H E) rfl rfl rfl rfl
  exact (jss_cons (js_set (i := 1) (lt_of rfl) (ps_set sc_law_more.nd rfl (by first | exact Or.inl rfl | exact Or.inr rfl) (je_ixS hu1 (je_v (lt_of rfl) (pv 0)) (je_c pe_str) (fun _ _ => rfl))))
    (jss_cons (js_put (lt_of rfl) m_putD setD_h (ps_asg (je_op o_add s_add (je_v (lt_of rfl) (pv 1)) (je_c pe_int)) (pg_sub (pv 0) (je_c pe_str) (set_dict hu1))))
    (jss_cons (js_set (i := 2) (lt_of rfl) (ps_set sc_law_more.nd rfl (by first | exact Or.inl rfl | exact Or.inr rfl) (je_op o_add s_add (je_ixS hu1 (je_v (lt_of rfl) (pv 0)) (je_c pe_str) (fun _ _ => rfl)) (je_op o_mul s_mul (je_c pe_int) (je_v (lt_of rfl) (pv 1))))))
    (jss_cons (js_if (jt_cmp o_lt s_cmp (je_v (lt_of rfl) (pv 1)) (je_cb s_len (pe_callB o_len (by rfl) T.n_len boot_len (ja_cons (je_ixS hu1 (je_v (lt_of rfl) (pv 0)) (je_c pe_str) (fun _ _ => rfl)) ja_nil))) (nomark _)) (jss_one (js_set (i := 2) (lt_of rfl) (ps_set sc_law_more.nd rfl (by first | exact Or.inl rfl | exact Or.inr rfl) (je_ixS hu1 (je_ixS hu1 (je_v (lt_of rfl) (pv 0)) (je_c pe_str) (fun _ _ => rfl)) (je_v (lt_of rfl) (pv 1)) (fun _ _ => rfl))))) jss_nil)
    (jss_cons (js_if (jt_cmp o_ge s_cmp (je_v (lt_of rfl) (pv 2)) (je_op op_pow s_I (je_c pe_int) (je_c pe_int)) (nomark _)) (jss_one (js_ret (je_op op_sub s_I0 (je_v (lt_of rfl) (pv 2)) (je_op op_pow s_I (je_c pe_int) (je_c pe_int))))) jss_nil)
    (jss_cons (js_set (i := 3) (lt_of rfl) (ps_set sc_law_more.nd rfl (by first | exact Or.inl rfl | exact Or.inr rfl) (je_op op_mod s_I (je_op o_add s_add (je_op o_add s_add (je_op o_mul s_mul (je_v (lt_of rfl) (pv 2)) (je_c pe_int)) (je_op o_mul s_mul (je_c pe_int) (je_v (lt_of rfl) (pv 1)))) (je_c pe_int)) (je_c pe_int))))
    (jss_cons (js_set (i := 4) (lt_of rfl) (ps_set sc_law_more.nd rfl (by first | exact Or.inl rfl | exact Or.inr rfl) (je_op op_mod s_I (je_op o_mul s_mul (je_v (lt_of rfl) (pv 3)) (je_op o_add s_add (je_op o_add s_add (je_v (lt_of rfl) (pv 3)) (je_op o_mul s_mul (je_c pe_int) (je_v (lt_of rfl) (pv 1)))) (je_c pe_int))) (je_c pe_int))))
    (jss_cons (js_set (i := 5) (lt_of rfl) (ps_set sc_law_more.nd rfl (by first | exact Or.inl rfl | exact Or.inr rfl) (je_op op_mod s_I (je_op o_mul s_mul (je_v (lt_of rfl) (pv 4)) (je_op o_add s_add (je_op o_add s_add (je_v (lt_of rfl) (pv 4)) (je_v (lt_of rfl) (pv 3))) (je_c pe_int))) (je_c pe_int))))
    (jss_one (js_ret (je_op o_add s_add (je_op o_mul s_mul (je_op o_add s_add (je_op o_mul s_mul (je_v (lt_of rfl) (pv 3)) (je_c pe_int)) (je_v (lt_of rfl) (pv 4))) (je_c pe_int)) (je_v (lt_of rfl) (pv 5)))))))))))))
theorem ok_law_next (T : Txt K mg cn) (G_law_more : FnD P w K mg base cn 1 T.f_law_more T.fd_law_more ["_law_state"] S_law_more) : FnD P w K mg base cn 2 T.f_law_next T.fd_law_next ["_law_state", "_law_many"] S_law_next := by
  refine def_mk T.F_law_next sc_law_next (by decide) len_law_next sem_law_next rfl fun cdv A outer s H E hr => ?_
  have hu65 := hu65_of hr
  have hu1 := hu_of hr
  have tks := takes_of (X := cxOf (L2.CX P w) P w K mg base ["_law_state", "_law_many", "_law_found"] "_law_next" (defScope s_law_next) T.f_law_next cdv A outer s H E) rfl rfl rfl rfl
  exact (jss_cons (js_if (jt_cmp (o_eq hu65) s_eq (je_ixS hu1 (je_v (lt_of rfl) (pv 0)) (je_c pe_str) (fun _ _ => rfl)) (je_c pe_int) (nomark _)) (jss_one (js_put (lt_of rfl) m_putD setD_h (ps_asg (je_fz (je_callN (ms := [true]) (G_law_more.mono (by decide)) hr (by rfl) T.m_law_more T.F_law_more.kp T.b_law_more tks (ja_cons (je_v (lt_of rfl) (pv 0)) ja_nil))) (pg_sub (pv 0) (je_c pe_str) (set_dict hu1))))) jss_nil)
    (jss_cons (js_set (i := 2) (lt_of rfl) (ps_set sc_law_next.nd rfl (by first | exact Or.inl rfl | exact Or.inr rfl) (je_op op_mod s_I (je_ixS hu1 (je_v (lt_of rfl) (pv 0)) (je_c pe_str) (fun _ _ => rfl)) (je_v (lt_of rfl) (pv 1)))))
    (jss_cons (js_put (lt_of rfl) m_putD setD_h (ps_asg (je_op op_fdivW s_div (je_ixS hu1 (je_v (lt_of rfl) (pv 0)) (je_c pe_str) (fun _ _ => rfl)) (je_v (lt_of rfl) (pv 1))) (pg_sub (pv 0) (je_c pe_str) (set_dict hu1))))
    (jss_one (js_ret (je_mv (lt_of rfl) (pv 2)))))))
theorem ok_law_pick (T : Txt K mg cn) (G_law_next : FnD P w K mg base cn 2 T.f_law_next T.fd_law_next ["_law_state", "_law_many"] S_law_next) : FnD P w K mg base cn 3 T.f_law_pick T.fd_law_pick ["_law_state", "_law_some"] S_law_pick := by
  refine def_mk T.F_law_pick sc_law_pick (by decide) len_law_pick sem_law_pick rfl fun cdv A outer s H E hr => ?_
  have hu65 := hu65_of hr
  have hu1 := hu_of hr
  have tks := takes_of (X := cxOf (L2.CX P w) P w K mg base ["_law_state", "_law_some"] "_law_pick" (defScope s_law_pick) T.f_law_pick cdv A outer s H E) rfl rfl rfl rfl
  exact (jss_one (js_ret (je_ixS hu1 (je_v (lt_of rfl) (pv 1)) (je_callN (ms := [true, false]) (G_law_next.mono (by decide)) hr (by rfl) T.m_law_next T.F_law_next.kp T.b_law_next tks (ja_cons (je_v (lt_of rfl) (pv 0)) (ja_cons (je_cb s_len (pe_callB o_len (by rfl) T.n_len boot_len (ja_cons (je_v (lt_of rfl) (pv 1)) ja_nil))) ja_nil))) (fun _ _ => rfl))))
theorem ok_law_wordf (T : Txt K mg cn) (G_law_next : FnD P w K mg base cn 2 T.f_law_next T.fd_law_next ["_law_state", "_law_many"] S_law_next) (G_law_pick : FnD P w K mg base cn 3 T.f_law_pick T.fd_law_pick ["_law_state", "_law_some"] S_law_pick) : FnD P w K mg base cn 4 T.f_law_wordf T.fd_law_wordf ["_law_state"] S_law_wordf := by
  refine def_mk T.F_law_wordf sc_law_wordf (by decide) len_law_wordf sem_law_wordf rfl fun cdv A outer s H E hr => ?_
  have hu65 := hu65_of hr
  have hu1 := hu_of hr
  have tks := takes_of (X := cxOf (L2.CX P w) P w K mg base ["_law_state", "_law_letters", "_law_figures", "_law_sort", "_law_many", "_law_k"] "_law_word" (defScope s_law_wordf) T.f_law_wordf cdv A outer s H E) rfl rfl rfl rfl
  exact (jss_cons (js_set (i := 1) (lt_of rfl) (ps_set sc_law_wordf.nd rfl (by first | exact Or.inl rfl | exact Or.inr rfl) (je_c pe_str)))
    (jss_cons (js_set (i := 2) (lt_of rfl) (ps_set sc_law_wordf.nd rfl (by first | exact Or.inl rfl | exact Or.inr rfl) (je_c pe_str)))
    (jss_cons (js_set (i := 3) (lt_of rfl) (ps_set sc_law_wordf.nd rfl (by first | exact Or.inl rfl | exact Or.inr rfl) (je_callN (ms := [true, false]) (G_law_next.mono (by decide)) hr (by rfl) T.m_law_next T.F_law_next.kp T.b_law_next tks (ja_cons (je_v (lt_of rfl) (pv 0)) (ja_cons (je_c pe_int) ja_nil)))))
    (jss_cons (js_set (i := 4) (lt_of rfl) (ps_set sc_law_wordf.nd rfl (by first | exact Or.inl rfl | exact Or.inr rfl) (je_ixS hu1 (je_lst (ja_cons (je_c pe_int) (ja_cons (je_c pe_int) (ja_cons (je_c pe_int) (ja_cons (je_c pe_int) ja_nil))))) (je_callN (ms := [true, false]) (G_law_next.mono (by decide)) hr (by rfl) T.m_law_next T.F_law_next.kp T.b_law_next tks (ja_cons (je_v (lt_of rfl) (pv 0)) (ja_cons (je_c pe_int) ja_nil))) (fun _ _ => rfl))))
    (jss_cons (js_if (jt_cmp (o_eq hu65) s_eq (je_v (lt_of rfl) (pv 3)) (je_c pe_int) (nomark _)) (jss_one (js_ret (je_callN (ms := [true, false]) (G_law_pick.mono (by decide)) hr (by rfl) T.m_law_pick T.F_law_pick.kp T.b_law_pick tks (ja_cons (je_v (lt_of rfl) (pv 0)) (ja_cons (je_m1 PySem.F.slot_str_split PySem.F.type_str_split mt_split s_split (je_c pe_str) (je_c pe_str)) ja_nil))))) jss_nil)
    (jss_cons (js_if (jt_cmp (o_eq hu65) s_eq (je_v (lt_of rfl) (pv 3)) (je_c pe_int) (nomark _)) (jss_one (js_ret (je_callN (ms := [true, false]) (G_law_pick.mono (by decide)) hr (by rfl) T.m_law_pick T.F_law_pick.kp T.b_law_pick tks (ja_cons (je_v (lt_of rfl) (pv 0)) (ja_cons (je_c pe_str) ja_nil))))) jss_nil)
    (jss_cons (js_if (jt_cmp (o_eq hu65) s_eq (je_v (lt_of rfl) (pv 3)) (je_c pe_int) (nomark _)) (jss_one (js_ret (je_m1 PySem.F.slot_str_join PySem.F.type_str_join mt_join s_join (je_c pe_str) (je_lc (pe_lc (own := [("_law_k", 5)]) rfl sc_law_wordf.nd (ji_rng1 (pi_range1 (by rfl) T.n_range (ja_cons (je_op o_add s_add (je_v (lt_of rfl) (pv 4)) (je_c pe_int)) ja_nil))) (blkOk_by (N := ["_law_state", "_law_letters", "_law_figures", "_law_sort", "_law_many", "_law_k"]) (sc := (defScope s_law_wordf)) (by decide +kernel)) (fun _ _ _ _ _ => (jg_name (lt_of rfl) (pg_name (i := 5) sc_law_wordf.nd rfl (by first | exact Or.inl rfl | exact Or.inr rfl)))) (fun _ _ _ _ _ => jts_nil) (fun _ _ _ _ _ => (je_callN (ms := [true, false]) (G_law_pick.mono (by decide)) hr (by rfl) T.m_law_pick T.F_law_pick.kp T.b_law_pick takes0 (ja_cons (je_v (lt_of rfl) (pv 0)) (ja_cons (je_v (lt_of rfl) (pv 2)) ja_nil))))))))) jss_nil)
    (jss_cons (js_if (jt_cmp (o_eq hu65) s_eq (je_v (lt_of rfl) (pv 3)) (je_c pe_int) (nomark _)) (jss_one (js_ret (je_ixS hu1 (je_lst (ja_cons (je_c pe_str) (ja_cons (je_c pe_str) (ja_cons (je_c pe_str) ja_nil)))) (je_op op_mod s_I (je_v (lt_of rfl) (pv 4)) (je_c pe_int)) (fun _ _ => rfl)))) jss_nil)
    (jss_one (js_ret (je_op o_add s_add (je_callN (ms := [true, false]) (G_law_pick.mono (by decide)) hr (by rfl) T.m_law_pick T.F_law_pick.kp T.b_law_pick tks (ja_cons (je_v (lt_of rfl) (pv 0)) (ja_cons (je_v (lt_of rfl) (pv 1)) ja_nil))) (je_m1 PySem.F.slot_str_join PySem.F.type_str_join mt_join s_join (je_c pe_str) (je_lc (pe_lc (own := [("_law_k", 5)]) rfl sc_law_wordf.nd (ji_rng1 (pi_range1 (by rfl) T.n_range (ja_cons (je_v (lt_of rfl) (pv 4)) ja_nil))) (blkOk_by (N := ["_law_state", "_law_letters", "_law_figures", "_law_sort", "_law_many", "_law_k"]) (sc := (defScope s_law_wordf)) (by decide +kernel)) (fun _ _ _ _ _ => (jg_name (lt_of rfl) (pg_name (i := 5) sc_law_wordf.nd rfl (by first | exact Or.inl rfl | exact Or.inr rfl)))) (fun _ _ _ _ _ => jts_nil) (fun _ _ _ _ _ => (je_callN (ms := [true, false]) (G_law_pick.mono (by decide)) hr (by rfl) T.m_law_pick T.F_law_pick.kp T.b_law_pick takes0 (ja_cons (je_v (lt_of rfl) (pv 0)) (ja_cons (je_op o_add s_add (je_v (lt_of rfl) (pv 1)) (je_v (lt_of rfl) (pv 2))) ja_nil))))))))))))))))))
theorem ok_law_pool (T : Txt K mg cn) (G_law_next : FnD P w K mg base cn 2 T.f_law_next T.fd_law_next ["_law_state", "_law_many"] S_law_next) (G_law_wordf : FnD P w K mg base cn 4 T.f_law_wordf T.fd_law_wordf ["_law_state"] S_law_wordf) : FnD P w K mg base cn 5 T.f_law_pool T.fd_law_pool ["_law_state"] S_law_pool := by
  refine def_mk T.F_law_pool sc_law_pool (by decide) len_law_pool sem_law_pool rfl fun cdv A outer s H E hr => ?_
  have hu65 := hu65_of hr
  have hu1 := hu_of hr
  have tks := takes_of (X := cxOf (L2.CX P w) P w K mg base ["_law_state", "_law_k"] "_law_pool" (defScope s_law_pool) T.f_law_pool cdv A outer s H E) rfl rfl rfl rfl
  exact (jss_cons (js_if (jt_cmp (o_eq hu65) s_eq (je_callN (ms := [true, false]) (G_law_next.mono (by decide)) hr (by rfl) T.m_law_next T.F_law_next.kp T.b_law_next tks (ja_cons (je_v (lt_of rfl) (pv 0)) (ja_cons (je_c pe_int) ja_nil))) (je_c pe_int) (nomark _)) (jss_one (js_ret (je_lst (ja_cons (je_c pe_str) (ja_cons (je_c pe_str) (ja_cons (je_c pe_str) (ja_cons (je_c pe_str) (ja_cons (je_c pe_str) ja_nil)))))))) jss_nil)
    (jss_one (js_ret (je_lc (pe_lc (own := [("_law_k", 1)]) rfl sc_law_pool.nd (ji_rng1 (pi_range1 (by rfl) T.n_range (ja_cons (je_op o_add s_add (je_c pe_int) (je_callN (ms := [true, false]) (G_law_next.mono (by decide)) hr (by rfl) T.m_law_next T.F_law_next.kp T.b_law_next tks (ja_cons (je_v (lt_of rfl) (pv 0)) (ja_cons (je_c pe_int) ja_nil)))) ja_nil))) (blkOk_by (N := ["_law_state", "_law_k"]) (sc := (defScope s_law_pool)) (by decide +kernel)) (fun _ _ _ _ _ => (jg_name (lt_of rfl) (pg_name (i := 1) sc_law_pool.nd rfl (by first | exact Or.inl rfl | exact Or.inr rfl)))) (fun _ _ _ _ _ => jts_nil) (fun _ _ _ _ _ => (je_callN (ms := [true]) (G_law_wordf.mono (by decide)) hr (by rfl) T.m_law_wordf T.F_law_wordf.kp T.b_law_wordf takes0 (ja_cons (je_v (lt_of rfl) (pv 0)) ja_nil))))))))
theorem ok_law_shape (T : Txt K mg cn) (G_law_next : FnD P w K mg base cn 2 T.f_law_next T.fd_law_next ["_law_state", "_law_many"] S_law_next) : FnD P w K mg base cn 3 T.f_law_shape T.fd_law_shape ["_law_state"] S_law_shape := by
  refine def_mk T.F_law_shape sc_law_shape (by decide) len_law_shape sem_law_shape rfl fun cdv A outer s H E hr => ?_
  have hu65 := hu65_of hr
  have hu1 := hu_of hr
  have tks := takes_of (X := cxOf (L2.CX P w) P w K mg base ["_law_state", "_law_way", "_law_k"] "_law_shape" (defScope s_law_shape) T.f_law_shape cdv A outer s H E) rfl rfl rfl rfl
  exact (jss_cons (js_set (i := 1) (lt_of rfl) (ps_set sc_law_shape.nd rfl (by first | exact Or.inl rfl | exact Or.inr rfl) (je_callN (ms := [true, false]) (G_law_next.mono (by decide)) hr (by rfl) T.m_law_next T.F_law_next.kp T.b_law_next tks (ja_cons (je_v (lt_of rfl) (pv 0)) (ja_cons (je_c pe_int) ja_nil)))))
    (jss_cons (js_if (jt_cmp (o_eq hu65) s_eq (je_v (lt_of rfl) (pv 1)) (je_c pe_int) (nomark _)) (jss_one (js_ret (je_op op_rep s_repL (je_lst (ja_cons (je_c pe_int) ja_nil)) (je_c pe_int)))) jss_nil)
    (jss_cons (js_if (jt_cmp (o_eq hu65) s_eq (je_v (lt_of rfl) (pv 1)) (je_c pe_int) (nomark _)) (jss_one (js_ret (je_lst (ja_cons (je_c pe_int) (ja_cons (je_c pe_int) (ja_cons (je_c pe_int) ja_nil)))))) jss_nil)
    (jss_one (js_ret (je_lc (pe_lc (own := [("_law_k", 2)]) rfl sc_law_shape.nd (ji_rng1 (pi_range1 (by rfl) T.n_range (ja_cons (je_callN (ms := [true, false]) (G_law_next.mono (by decide)) hr (by rfl) T.m_law_next T.F_law_next.kp T.b_law_next tks (ja_cons (je_v (lt_of rfl) (pv 0)) (ja_cons (je_c pe_int) ja_nil))) ja_nil))) (blkOk_by (N := ["_law_state", "_law_way", "_law_k"]) (sc := (defScope s_law_shape)) (by decide +kernel)) (fun _ _ _ _ _ => (jg_name (lt_of rfl) (pg_name (i := 2) sc_law_shape.nd rfl (by first | exact Or.inl rfl | exact Or.inr rfl)))) (fun _ _ _ _ _ => jts_nil) (fun _ _ _ _ _ => (je_callN (ms := [true, false]) (G_law_next.mono (by decide)) hr (by rfl) T.m_law_next T.F_law_next.kp T.b_law_next takes0 (ja_cons (je_v (lt_of rfl) (pv 0)) (ja_cons (je_c pe_int) ja_nil)))))))))))
theorem ok_law_in_rows (T : Txt K mg cn)  : FnD P w K mg base cn 1 T.f_law_in_rows T.fd_law_in_rows ["_law_items_here", "_law_shape_here"] S_law_in_rows := by
  refine def_mk T.F_law_in_rows sc_law_in_rows (by decide) len_law_in_rows sem_law_in_rows rfl fun cdv A outer s H E hr => ?_
  have hu65 := hu65_of hr
  have hu1 := hu_of hr
  have tks := takes_of (X := cxOf (L2.CX P w) P w K mg base ["_law_items_here", "_law_shape_here", "_law_found", "_law_at", "_law_size"] "_law_in_rows" (defScope s_law_in_rows) T.f_law_in_rows cdv A outer s H E) rfl rfl rfl rfl
  exact (jss_cons (js_set (i := 2) (lt_of rfl) (ps_set sc_law_in_rows.nd rfl (by first | exact Or.inl rfl | exact Or.inr rfl) (je_lst ja_nil)))
    (jss_cons (js_set (i := 3) (lt_of rfl) (ps_set sc_law_in_rows.nd rfl (by first | exact Or.inl rfl | exact Or.inr rfl) (je_c pe_int)))
    (jss_cons (js_forW (vs := [4]) (passes_of rfl) rfl (ji_seq (je_v (lt_of rfl) (pv 1))) (jg_name (lt_of rfl) (pg_name (i := 4) sc_law_in_rows.nd rfl (by first | exact Or.inl rfl | exact Or.inr rfl))) (jss_cons (js_expr (je_mut m_append (lt_of rfl) (pe_bm PySem.F.plainAttrs_list PySem.F.slot_list_append PySem.F.type_list_append mt_append (pv 2) (ja_cons (je_cut (je_v (lt_of rfl) (pv 0)) (jo_some (je_v (lt_of rfl) (pv 3))) (jo_some (je_op o_add s_add (je_v (lt_of rfl) (pv 3)) (je_v (lt_of rfl) (pv 4))))) ja_nil))))
    (jss_one (js_set (i := 3) (lt_of rfl) (ps_set sc_law_in_rows.nd rfl (by first | exact Or.inl rfl | exact Or.inr rfl) (je_op o_add s_add (je_v (lt_of rfl) (pv 3)) (je_v (lt_of rfl) (pv 4))))))))
    (jss_one (js_ret (je_mv (lt_of rfl) (pv 2)))))))
theorem ok_law_copyf (T : Txt K mg cn)  : FnD P w K mg base cn 1 T.f_law_copyf T.fd_law_copyf ["_law_rows"] S_law_copyf := by
  refine def_mk T.F_law_copyf sc_law_copyf (by decide) len_law_copyf sem_law_copyf rfl fun cdv A outer s H E hr => ?_
  have hu65 := hu65_of hr
  have hu1 := hu_of hr
  have tks := takes_of (X := cxOf (L2.CX P w) P w K mg base ["_law_rows", "_law_row"] "_law_copy" (defScope s_law_copyf) T.f_law_copyf cdv A outer s H E) rfl rfl rfl rfl
  exact (jss_one (js_ret (je_lc (pe_lc (own := [("_law_row", 1)]) rfl sc_law_copyf.nd (ji_seq (je_v (lt_of rfl) (pv 0))) (blkOk_by (N := ["_law_rows", "_law_row"]) (sc := (defScope s_law_copyf)) (by decide +kernel)) (fun _ _ _ _ _ => (jg_name (lt_of rfl) (pg_name (i := 1) sc_law_copyf.nd rfl (by first | exact Or.inl rfl | exact Or.inr rfl)))) (fun _ _ _ _ _ => jts_nil) (fun _ _ _ _ _ => (je_cb s_list (pe_callTy call_list_of (by rfl) T.n_list (by decide +kernel) (ja_cons (je_v (lt_of rfl) (pv 1)) ja_nil))))))))
theorem ok_law_items (T : Txt K mg cn)  : FnD P w K mg base cn 1 T.f_law_items T.fd_law_items ["_law_rows"] S_law_items := by
  refine def_mk T.F_law_items sc_law_items (by decide) len_law_items sem_law_items rfl fun cdv A outer s H E hr => ?_
  have hu65 := hu65_of hr
  have hu1 := hu_of hr
  have tks := takes_of (X := cxOf (L2.CX P w) P w K mg base ["_law_rows", "_law_found", "_law_row"] "_law_items" (defScope s_law_items) T.f_law_items cdv A outer s H E) rfl rfl rfl rfl
  exact (jss_cons (js_set (i := 1) (lt_of rfl) (ps_set sc_law_items.nd rfl (by first | exact Or.inl rfl | exact Or.inr rfl) (je_lst ja_nil)))
    (jss_cons (js_forW (vs := [2]) (passes_of rfl) rfl (ji_seq (je_v (lt_of rfl) (pv 0))) (jg_name (lt_of rfl) (pg_name (i := 2) sc_law_items.nd rfl (by first | exact Or.inl rfl | exact Or.inr rfl))) (jss_one (js_set (i := 1) (lt_of rfl) (ps_set sc_law_items.nd rfl (by first | exact Or.inl rfl | exact Or.inr rfl) (je_op o_add s_add (je_v (lt_of rfl) (pv 1)) (je_cb s_list (pe_callTy call_list_of (by rfl) T.n_list (by decide +kernel) (ja_cons (je_v (lt_of rfl) (pv 2)) ja_nil))))))))
    (jss_one (js_ret (je_mv (lt_of rfl) (pv 1))))))
theorem ok_law_shape_of (T : Txt K mg cn)  : FnD P w K mg base cn 1 T.f_law_shape_of T.fd_law_shape_of ["_law_rows"] S_law_shape_of := by
  refine def_mk T.F_law_shape_of sc_law_shape_of (by decide) len_law_shape_of sem_law_shape_of rfl fun cdv A outer s H E hr => ?_
  have hu65 := hu65_of hr
  have hu1 := hu_of hr
  have tks := takes_of (X := cxOf (L2.CX P w) P w K mg base ["_law_rows", "_law_row"] "_law_shape_of" (defScope s_law_shape_of) T.f_law_shape_of cdv A outer s H E) rfl rfl rfl rfl
  exact (jss_one (js_ret (je_lc (pe_lc (own := [("_law_row", 1)]) rfl sc_law_shape_of.nd (ji_seq (je_v (lt_of rfl) (pv 0))) (blkOk_by (N := ["_law_rows", "_law_row"]) (sc := (defScope s_law_shape_of)) (by decide +kernel)) (fun _ _ _ _ _ => (jg_name (lt_of rfl) (pg_name (i := 1) sc_law_shape_of.nd rfl (by first | exact Or.inl rfl | exact Or.inr rfl)))) (fun _ _ _ _ _ => jts_nil) (fun _ _ _ _ _ => (je_cb s_len (pe_callB o_len (by rfl) T.n_len boot_len (ja_cons (je_v (lt_of rfl) (pv 1)) ja_nil))))))))
theorem ok_law_reshaped (T : Txt K mg cn)  : FnD P w K mg base cn 1 T.f_law_reshaped T.fd_law_reshaped ["_law_way", "_law_place", "_law_rows"] S_law_reshaped := by
  refine def_mk T.F_law_reshaped sc_law_reshaped (by decide) len_law_reshaped sem_law_reshaped rfl fun cdv A outer s H E hr => ?_
  have hu65 := hu65_of hr
  have hu1 := hu_of hr
  have tks := takes_of (X := cxOf (L2.CX P w) P w K mg base ["_law_way", "_law_place", "_law_rows", "_law_at", "_law_row", "_law_k"] "_law_reshaped" (defScope s_law_reshaped) T.f_law_reshaped cdv A outer s H E) rfl rfl rfl rfl
  exact (jss_cons (js_set (i := 3) (lt_of rfl) (ps_set sc_law_reshaped.nd rfl (by first | exact Or.inl rfl | exact Or.inr rfl) (je_op op_mod s_I (je_v (lt_of rfl) (pv 1)) (je_cb s_max2 (pe_callB (call_max2 rfl) (by rfl) T.n_max (by decide +kernel) (ja_cons (je_c pe_int) (ja_cons (je_cb s_len (pe_callB o_len (by rfl) T.n_len boot_len (ja_cons (je_v (lt_of rfl) (pv 2)) ja_nil))) ja_nil)))))))
    (jss_cons (js_if (jw_t (jw_and (jt_cmp (o_eq hu65) s_eq (je_v (lt_of rfl) (pv 0)) (je_c pe_int) (nomark _)) (jw_and1 (jt_cmp o_lt s_cmp (je_cb s_len (pe_callB o_len (by rfl) T.n_len boot_len (ja_cons (je_v (lt_of rfl) (pv 2)) ja_nil))) (je_c pe_int) (nomark _))))) (jss_one (js_ret (je_op o_add s_add (je_op o_add s_add (je_cut (je_v (lt_of rfl) (pv 2)) jo_none (jo_some (je_v (lt_of rfl) (pv 3)))) (je_fz (je_lst (ja_cons (je_lst ja_nil) ja_nil)))) (je_cut (je_v (lt_of rfl) (pv 2)) (jo_some (je_v (lt_of rfl) (pv 3))) jo_none)))) jss_nil)
    (jss_cons (js_if (jt_cmp (o_eq hu65) s_eq (je_v (lt_of rfl) (pv 2)) (je_lst ja_nil) (nomark _)) (jss_one (js_ret (je_mv (lt_of rfl) (pv 2)))) jss_nil)
    (jss_cons (js_set (i := 4) (lt_of rfl) (ps_set sc_law_reshaped.nd rfl (by first | exact Or.inl rfl | exact Or.inr rfl) (je_ixS hu1 (je_v (lt_of rfl) (pv 2)) (je_v (lt_of rfl) (pv 3)) (fun _ _ => rfl))))
    (jss_cons (js_set (i := 5) (lt_of rfl) (ps_set sc_law_reshaped.nd rfl (by first | exact Or.inl rfl | exact Or.inr rfl) (je_op op_mod s_I (je_op op_fdivW s_div (je_v (lt_of rfl) (pv 1)) (je_c pe_int)) (je_cb s_max2 (pe_callB (call_max2 rfl) (by rfl) T.n_max (by decide +kernel) (ja_cons (je_c pe_int) (ja_cons (je_cb s_len (pe_callB o_len (by rfl) T.n_len boot_len (ja_cons (je_v (lt_of rfl) (pv 4)) ja_nil))) ja_nil)))))))
    (jss_cons (js_if (jt_cmp (o_eq hu65) s_eq (je_v (lt_of rfl) (pv 0)) (je_c pe_int) (nomark _)) (jss_one (js_ret (je_op o_add s_add (je_cut (je_v (lt_of rfl) (pv 2)) jo_none (jo_some (je_v (lt_of rfl) (pv 3)))) (je_cut (je_v (lt_of rfl) (pv 2)) (jo_some (je_op o_add s_add (je_v (lt_of rfl) (pv 3)) (je_c pe_int))) jo_none)))) jss_nil)
    (jss_cons (js_if (jw_t (jw_and (jt_cmp (o_eq hu65) s_eq (je_v (lt_of rfl) (pv 0)) (je_c pe_int) (nomark _)) (jw_and1 (jt_cmp o_lt s_cmp (je_cb s_len (pe_callB o_len (by rfl) T.n_len boot_len (ja_cons (je_v (lt_of rfl) (pv 4)) ja_nil))) (je_c pe_int) (nomark _))))) (jss_one (js_ret (je_op o_add s_add (je_op o_add s_add (je_cut (je_v (lt_of rfl) (pv 2)) jo_none (jo_some (je_v (lt_of rfl) (pv 3)))) (je_fz (je_lst (ja_cons (je_op o_add s_add (je_op o_add s_add (je_cut (je_v (lt_of rfl) (pv 4)) jo_none (jo_some (je_v (lt_of rfl) (pv 5)))) (je_lst (ja_cons (je_c pe_str) ja_nil))) (je_cut (je_v (lt_of rfl) (pv 4)) (jo_some (je_v (lt_of rfl) (pv 5))) jo_none)) ja_nil)))) (je_cut (je_v (lt_of rfl) (pv 2)) (jo_some (je_op o_add s_add (je_v (lt_of rfl) (pv 3)) (je_c pe_int))) jo_none)))) jss_nil)
    (jss_cons (js_if (jw_t (jw_and (jt_cmp (o_eq hu65) s_eq (je_v (lt_of rfl) (pv 0)) (je_c pe_int) (nomark _)) (jw_and (jt_cmp o_lt s_cmp (je_op o_add s_add (je_v (lt_of rfl) (pv 3)) (je_c pe_int)) (je_cb s_len (pe_callB o_len (by rfl) T.n_len boot_len (ja_cons (je_v (lt_of rfl) (pv 2)) ja_nil))) (nomark _)) (jw_and1 (jt_cmp o_lt s_cmp (je_cb s_len (pe_callB o_len (by rfl) T.n_len boot_len (ja_cons (je_ixS hu1 (je_v (lt_of rfl) (pv 2)) (je_op o_add s_add (je_v (lt_of rfl) (pv 3)) (je_c pe_int)) (fun _ _ => rfl)) ja_nil))) (je_c pe_int) (nomark _)))))) (jss_one (js_ret (je_op o_add s_add (je_op o_add s_add (je_cut (je_v (lt_of rfl) (pv 2)) jo_none (jo_some (je_v (lt_of rfl) (pv 3)))) (je_fz (je_lst (ja_cons (je_cut (je_v (lt_of rfl) (pv 4)) jo_none (jo_some (je_op op_sub s_I0 (je_cb s_len (pe_callB o_len (by rfl) T.n_len boot_len (ja_cons (je_v (lt_of rfl) (pv 4)) ja_nil))) (je_c pe_int)))) (ja_cons (je_op o_add s_add (je_cut (je_v (lt_of rfl) (pv 4)) (jo_some (je_op op_sub s_I0 (je_cb s_len (pe_callB o_len (by rfl) T.n_len boot_len (ja_cons (je_v (lt_of rfl) (pv 4)) ja_nil))) (je_c pe_int))) jo_none) (je_ixS hu1 (je_v (lt_of rfl) (pv 2)) (je_op o_add s_add (je_v (lt_of rfl) (pv 3)) (je_c pe_int)) (fun _ _ => rfl))) ja_nil))))) (je_cut (je_v (lt_of rfl) (pv 2)) (jo_some (je_op o_add s_add (je_v (lt_of rfl) (pv 3)) (je_c pe_int))) jo_none)))) jss_nil)
    (jss_one (js_ret (je_op o_add s_add (je_op o_add s_add (je_cut (je_v (lt_of rfl) (pv 2)) jo_none (jo_some (je_v (lt_of rfl) (pv 3)))) (je_fz (je_lst (ja_cons (je_op o_add s_add (je_cut (je_v (lt_of rfl) (pv 4)) jo_none (jo_some (je_v (lt_of rfl) (pv 5)))) (je_cut (je_v (lt_of rfl) (pv 4)) (jo_some (je_op o_add s_add (je_v (lt_of rfl) (pv 5)) (je_c pe_int))) jo_none)) ja_nil)))) (je_cut (je_v (lt_of rfl) (pv 2)) (jo_some (je_op o_add s_add (je_v (lt_of rfl) (pv 3)) (je_c pe_int))) jo_none))))))))))))
theorem ok_law_hole (T : Txt K mg cn)  : FnD P w K mg base cn 1 T.f_law_hole T.fd_law_hole ["_law_item"] S_law_hole := by
  refine def_mk T.F_law_hole sc_law_hole (by decide) len_law_hole sem_law_hole rfl fun cdv A outer s H E hr => ?_
  have hu65 := hu65_of hr
  have hu1 := hu_of hr
  have tks := takes_of (X := cxOf (L2.CX P w) P w K mg base ["_law_item"] "_law_hole" (defScope s_law_hole) T.f_law_hole cdv A outer s H E) rfl rfl rfl rfl
  exact (jss_one (js_ret (je_and (je_cb s_isi (pe_callB call_isi (by rfl) T.n_isinstance (by decide +kernel) (ja_cons (je_v (lt_of rfl) (pv 0)) (ja_cons (je_c (pe_bltn (v := .ty "int") (by rfl) T.n_int (by decide +kernel) rfl)) ja_nil)))) (je_one (je_not (je_cb s_isi (pe_callB call_isi (by rfl) T.n_isinstance (by decide +kernel) (ja_cons (je_v (lt_of rfl) (pv 0)) (ja_cons (je_c (pe_bltn (v := .ty "bool") (by rfl) T.n_bool (by decide +kernel) rfl)) ja_nil)))))))))
theorem ok_law_is_form (T : Txt K mg cn) (G_law_items : FnD P w K mg base cn 1 T.f_law_items T.fd_law_items ["_law_rows"] S_law_items) (G_law_hole : FnD P w K mg base cn 1 T.f_law_hole T.fd_law_hole ["_law_item"] S_law_hole) : FnD P w K mg base cn 2 T.f_law_is_form T.fd_law_is_form ["_law_thing", "_law_shape_here"] S_law_is_form := by
  refine def_mk T.F_law_is_form sc_law_is_form (by decide) len_law_is_form sem_law_is_form rfl fun cdv A outer s H E hr => ?_
  have hu65 := hu65_of hr
  have hu1 := hu_of hr
  have tks := takes_of (X := cxOf (L2.CX P w) P w K mg base ["_law_thing", "_law_shape_here", "_law_many", "_law_item", "_law_row"] "_law_is_form" (defScope s_law_is_form) T.f_law_is_form cdv A outer s H E) rfl rfl rfl rfl
  exact (jss_cons (js_if (jw_t (jw_or (jt_not (jt_val (je_cb s_isi (pe_callB call_isi (by rfl) T.n_isinstance (by decide +kernel) (ja_cons (je_v (lt_of rfl) (pv 0)) (ja_cons (je_c (pe_bltn (v := .ty "list") (by rfl) T.n_list (by decide +kernel) rfl)) ja_nil)))))) (jw_or1 (jt_cmp (o_ne hu65) s_ne (je_lc (pe_lc (own := [("_law_row", 4)]) rfl sc_law_is_form.nd (ji_seq (je_v (lt_of rfl) (pv 0))) (blkOk_by (N := ["_law_thing", "_law_shape_here", "_law_many", "_law_item", "_law_row"]) (sc := (defScope s_law_is_form)) (by decide +kernel)) (fun _ _ _ _ _ => (jg_name (lt_of rfl) (pg_name (i := 4) sc_law_is_form.nd rfl (by first | exact Or.inl rfl | exact Or.inr rfl)))) (fun _ _ _ _ _ => (jts_one (jt_not (jt_val (je_cb s_isi (pe_callB call_isi (by rfl) T.n_isinstance (by decide +kernel) (ja_cons (je_v (lt_of rfl) (pv 4)) (ja_cons (je_c (pe_bltn (v := .ty "list") (by rfl) T.n_list (by decide +kernel) rfl)) ja_nil)))))))) (fun _ _ _ _ _ => (je_v (lt_of rfl) (pv 4))))) (je_lst ja_nil) (nomark _))))) (jss_one (js_ret (je_c pe_bl))) jss_nil)
    (jss_cons (js_if (jt_cmp (o_ne hu65) s_ne (je_lc (pe_lc (own := [("_law_row", 4)]) rfl sc_law_is_form.nd (ji_seq (je_v (lt_of rfl) (pv 0))) (blkOk_by (N := ["_law_thing", "_law_shape_here", "_law_many", "_law_item", "_law_row"]) (sc := (defScope s_law_is_form)) (by decide +kernel)) (fun _ _ _ _ _ => (jg_name (lt_of rfl) (pg_name (i := 4) sc_law_is_form.nd rfl (by first | exact Or.inl rfl | exact Or.inr rfl)))) (fun _ _ _ _ _ => jts_nil) (fun _ _ _ _ _ => (je_cb s_len (pe_callB o_len (by rfl) T.n_len boot_len (ja_cons (je_v (lt_of rfl) (pv 4)) ja_nil)))))) (je_v (lt_of rfl) (pv 1)) (nomark _)) (jss_one (js_ret (je_c pe_bl))) jss_nil)
    (jss_cons (js_set (i := 2) (lt_of rfl) (ps_set sc_law_is_form.nd rfl (by first | exact Or.inl rfl | exact Or.inr rfl) (je_c pe_int)))
    (jss_cons (js_forW (vs := [3]) (passes_of rfl) rfl (ji_seq (je_callN (ms := [false]) (G_law_items.mono (by decide)) hr (by rfl) T.m_law_items T.F_law_items.kp T.b_law_items tks (ja_cons (je_v (lt_of rfl) (pv 0)) ja_nil))) (jg_name (lt_of rfl) (pg_name (i := 3) sc_law_is_form.nd rfl (by first | exact Or.inl rfl | exact Or.inr rfl))) (jss_one (js_if (jt_val (je_callN (ms := [false]) (G_law_hole.mono (by decide)) hr (by rfl) T.m_law_hole T.F_law_hole.kp T.b_law_hole tks (ja_cons (je_v (lt_of rfl) (pv 3)) ja_nil))) (jss_cons (js_if (jw_t (jw_or (jt_cmp o_lt s_cmp (je_v (lt_of rfl) (pv 3)) (je_c pe_int) (nomark _)) (jw_or1 (jt_cmp o_gt s_cmp (je_v (lt_of rfl) (pv 3)) (je_v (lt_of rfl) (pv 2)) (nomark _))))) (jss_one (js_ret (je_c pe_bl))) jss_nil)
    (jss_one (js_set (i := 2) (lt_of rfl) (ps_set sc_law_is_form.nd rfl (by first | exact Or.inl rfl | exact Or.inr rfl) (je_cb s_max2 (pe_callB (call_max2 rfl) (by rfl) T.n_max (by decide +kernel) (ja_cons (je_v (lt_of rfl) (pv 2)) (ja_cons (je_op o_add s_add (je_v (lt_of rfl) (pv 3)) (je_c pe_int)) ja_nil)))))))) (jss_one (js_if (jt_not (jt_val (je_cb s_isi (pe_callB call_isi (by rfl) T.n_isinstance (by decide +kernel) (ja_cons (je_v (lt_of rfl) (pv 3)) (ja_cons (je_c (pe_bltn (v := .ty "str") (by rfl) T.n_str (by decide +kernel) rfl)) ja_nil)))))) (jss_one (js_ret (je_c pe_bl))) jss_nil)))))
    (jss_one (js_ret (je_c pe_bl)))))))
theorem ok_law_classes (T : Txt K mg cn)  : FnD P w K mg base cn 1 T.f_law_classes T.fd_law_classes ["_law_error"] S_law_classes := by
  refine def_mk T.F_law_classes sc_law_classes (by decide) len_law_classes sem_law_classes rfl fun cdv A outer s H E hr => ?_
  have hu65 := hu65_of hr
  have hu1 := hu_of hr
  have tks := takes_of (X := cxOf (L2.CX P w) P w K mg base ["_law_error", "_law_found"] "_law_classes" (defScope s_law_classes) T.f_law_classes cdv A outer s H E) rfl rfl rfl rfl
  exact (jss_cons (js_set (i := 1) (lt_of rfl) (ps_set sc_law_classes.nd rfl (by first | exact Or.inl rfl | exact Or.inr rfl) (je_lst (ja_cons (je_isX T.kq_Shape.1 (hm_cons ⟨T.C_NoRows, T.ng_NoRows, T.xd_NoRows, T.kq_Shape.2.1⟩ (hm_cons ⟨T.C_Shape, T.ng_Shape, T.xd_Shape, T.kq_Shape.2.2⟩ hm_nil)) (pe_callB (call_isX (.own T.C_Shape)) (by rfl) T.n_isinstance (by decide +kernel) (pa_cons (je_v (lt_of rfl) (pv 0)) (pa_cons (pe_glob (by rfl) T.g_Shape rfl) pa_nil)))) (ja_cons (je_isX T.kq_NoRows.1 (hm_cons ⟨T.C_NoRows, T.ng_NoRows, T.xd_NoRows, T.kq_NoRows.2.1⟩ (hm_cons ⟨T.C_Shape, T.ng_Shape, T.xd_Shape, T.kq_NoRows.2.2⟩ hm_nil)) (pe_callB (call_isX (.own T.C_NoRows)) (by rfl) T.n_isinstance (by decide +kernel) (pa_cons (je_v (lt_of rfl) (pv 0)) (pa_cons (pe_glob (by rfl) T.g_NoRows rfl) pa_nil)))) (ja_cons (je_isX T.kq_BadForm.1 (hm_cons ⟨T.C_NoRows, T.ng_NoRows, T.xd_NoRows, T.kq_BadForm.2.1⟩ (hm_cons ⟨T.C_Shape, T.ng_Shape, T.xd_Shape, T.kq_BadForm.2.2⟩ hm_nil)) (pe_callB (call_isX (.own T.C_BadForm)) (by rfl) T.n_isinstance (by decide +kernel) (pa_cons (je_v (lt_of rfl) (pv 0)) (pa_cons (pe_glob (by rfl) T.g_BadForm rfl) pa_nil)))) ja_nil))))))
    (jss_cons (js_set (i := 1) (lt_of rfl) (ps_set sc_law_classes.nd rfl (by first | exact Or.inl rfl | exact Or.inr rfl) (je_op o_add s_add (je_v (lt_of rfl) (pv 1)) (je_lst (ja_cons (je_isX T.kq_BadFilling.1 (hm_cons ⟨T.C_NoRows, T.ng_NoRows, T.xd_NoRows, T.kq_BadFilling.2.1⟩ (hm_cons ⟨T.C_Shape, T.ng_Shape, T.xd_Shape, T.kq_BadFilling.2.2⟩ hm_nil)) (pe_callB (call_isX (.own T.C_BadFilling)) (by rfl) T.n_isinstance (by decide +kernel) (pa_cons (je_v (lt_of rfl) (pv 0)) (pa_cons (pe_glob (by rfl) T.g_BadFilling rfl) pa_nil)))) (ja_cons (je_isX T.kq_BadRow.1 (hm_cons ⟨T.C_NoRows, T.ng_NoRows, T.xd_NoRows, T.kq_BadRow.2.1⟩ (hm_cons ⟨T.C_Shape, T.ng_Shape, T.xd_Shape, T.kq_BadRow.2.2⟩ hm_nil)) (pe_callB (call_isX (.own T.C_BadRow)) (by rfl) T.n_isinstance (by decide +kernel) (pa_cons (je_v (lt_of rfl) (pv 0)) (pa_cons (pe_glob (by rfl) T.g_BadRow rfl) pa_nil)))) (ja_cons (je_isX T.kq_BadWord.1 (hm_cons ⟨T.C_NoRows, T.ng_NoRows, T.xd_NoRows, T.kq_BadWord.2.1⟩ (hm_cons ⟨T.C_Shape, T.ng_Shape, T.xd_Shape, T.kq_BadWord.2.2⟩ hm_nil)) (pe_callB (call_isX (.own T.C_BadWord)) (by rfl) T.n_isinstance (by decide +kernel) (pa_cons (je_v (lt_of rfl) (pv 0)) (pa_cons (pe_glob (by rfl) T.g_BadWord rfl) pa_nil)))) ja_nil)))))))
    (jss_one (js_ret (je_op o_add s_add (je_v (lt_of rfl) (pv 1)) (je_lst (ja_cons (je_isX T.kq_ValueError.1 (hm_cons ⟨T.C_NoRows, T.ng_NoRows, T.xd_NoRows, T.kq_ValueError.2.1⟩ (hm_cons ⟨T.C_Shape, T.ng_Shape, T.xd_Shape, T.kq_ValueError.2.2⟩ hm_nil)) (pe_callB (call_isX (.ty "ValueError")) (by rfl) T.n_isinstance (by decide +kernel) (pa_cons (je_v (lt_of rfl) (pv 0)) (pa_cons (pe_bltn (v := .ty "ValueError") (by rfl) T.n_ValueError (by decide +kernel) rfl) pa_nil)))) ja_nil)))))))
theorem ok_law_asked (T : Txt K mg cn) (G_form_of : FnD P w K mg base cn 4 T.f_form_of T.fd_form_of ["stretches"] S_form_of) (G_law_classes : FnD P w K mg base cn 1 T.f_law_classes T.fd_law_classes ["_law_error"] S_law_classes) : FnD P w K mg base cn 5 T.f_law_asked T.fd_law_asked ["_law_given"] S_law_asked := by
  refine def_mk T.F_law_asked sc_law_asked (by decide) len_law_asked sem_law_asked rfl fun cdv A outer s H E hr => ?_
  have hu65 := hu65_of hr
  have hu1 := hu_of hr
  have tks := takes_of (X := cxOf (L2.CX P w) P w K mg base ["_law_given", "_law_caught", "_law_found", "_law_error"] "_law_asked" (defScope s_law_asked) T.f_law_asked cdv A outer s H E) rfl rfl rfl rfl
  exact (jss_cons (js_set (i := 1) (lt_of rfl) (ps_set sc_law_asked.nd rfl (by first | exact Or.inl rfl | exact Or.inr rfl) (je_c pe_non)))
    (jss_cons (js_set (i := 2) (lt_of rfl) (ps_set sc_law_asked.nd rfl (by first | exact Or.inl rfl | exact Or.inr rfl) (je_c pe_non)))
    (jss_cons (js_wipe (vs := [3]) (js_tryK rfl rfl rfl sc_law_asked.nd rfl rfl ⟨by rfl, by decide, .inl T.g_KinError⟩ tks (by decide) (lt_of rfl) (hm_cons ⟨by rw [T.c_NoRows]; exact T.e_NoRows_KinError, by rw [T.c_NoRows]; exact T.ng_NoRows⟩ (hm_cons ⟨by rw [T.c_Shape]; exact T.e_Shape_KinError, by rw [T.c_Shape]; exact T.ng_Shape⟩ hm_nil)) (fun W pn xe tks _ => (jss_one (js_set (i := 2) (lt_of rfl) (ps_set sc_law_asked.nd rfl (by first | exact Or.inl rfl | exact Or.inr rfl) (je_callK0 g_0_stretches_form_of_ok (G_form_of.mono (by decide)) hr (by rfl) T.m_form_of T.F_form_of.kp T.g_0_stretches_form_of tks (jk_cons (je_v (lt_of rfl) (pv 0)) jk_nil)))))) (fun a oe cls d pn _ _ => keep_ok (ps_set (i := 1) sc_law_asked.nd rfl (by first | exact Or.inl rfl | exact Or.inr rfl) (pv 3)))))
    (jss_cons (js_if (jt_cmp op_isN s_isN (je_v (lt_of rfl) (pv 1)) (je_c pe_non) (nomark _)) (jss_one (js_ret (je_tup (ja_cons (je_c pe_str) (ja_cons (je_mv (lt_of rfl) (pv 2)) ja_nil))))) jss_nil)
    (jss_cons (js_if (jt_val (je_isX T.kq_Shape.1 (hm_cons ⟨T.C_NoRows, T.ng_NoRows, T.xd_NoRows, T.kq_Shape.2.1⟩ (hm_cons ⟨T.C_Shape, T.ng_Shape, T.xd_Shape, T.kq_Shape.2.2⟩ hm_nil)) (pe_callB (call_isX (.own T.C_Shape)) (by rfl) T.n_isinstance (by decide +kernel) (pa_cons (je_v (lt_of rfl) (pv 1)) (pa_cons (pe_glob (by rfl) T.g_Shape rfl) pa_nil))))) (jss_one (js_ret (je_tup (ja_cons (je_c pe_str) (ja_cons (je_op o_add s_add (je_callN (ms := [false]) (G_law_classes.mono (by decide)) hr (by rfl) T.m_law_classes T.F_law_classes.kp T.b_law_classes tks (ja_cons (je_v (lt_of rfl) (pv 1)) ja_nil)) (je_lst (ja_cons (je_fld (hm_cons ⟨T.C_Shape, T.ng_Shape, T.xd_Shape, T.hd_Shape, T.nf_Shape_row⟩ hm_nil) (je_v (lt_of rfl) (pv 1))) ja_nil))) ja_nil))))) jss_nil)
    (jss_one (js_ret (je_tup (ja_cons (je_c pe_str) (ja_cons (je_callN (ms := [false]) (G_law_classes.mono (by decide)) hr (by rfl) T.m_law_classes T.F_law_classes.kp T.b_law_classes tks (ja_cons (je_v (lt_of rfl) (pv 1)) ja_nil)) ja_nil))))))))))
theorem ok_law_stretchw (T : Txt K mg cn) (G_law_in_rows : FnD P w K mg base cn 1 T.f_law_in_rows T.fd_law_in_rows ["_law_items_here", "_law_shape_here"] S_law_in_rows) (G_law_pick : FnD P w K mg base cn 3 T.f_law_pick T.fd_law_pick ["_law_state", "_law_some"] S_law_pick) : FnD P w K mg base cn 4 T.f_law_stretchw T.fd_law_stretchw ["_law_state", "_law_shape_here", "_law_pool_here"] S_law_stretchw := by
  refine def_mk T.F_law_stretchw sc_law_stretchw (by decide) len_law_stretchw sem_law_stretchw rfl fun cdv A outer s H E hr => ?_
  have hu65 := hu65_of hr
  have hu1 := hu_of hr
  have tks := takes_of (X := cxOf (L2.CX P w) P w K mg base ["_law_state", "_law_shape_here", "_law_pool_here", "_law_k"] "_law_stretch" (defScope s_law_stretchw) T.f_law_stretchw cdv A outer s H E) rfl rfl rfl rfl
  exact (jss_one (js_ret (je_callN (ms := [false, false]) (G_law_in_rows.mono (by decide)) hr (by rfl) T.m_law_in_rows T.F_law_in_rows.kp T.b_law_in_rows tks (ja_cons (je_lc (pe_lc (own := [("_law_k", 3)]) rfl sc_law_stretchw.nd (ji_rng1 (pi_range1 (by rfl) T.n_range (ja_cons (je_cb s_sum (pe_callB (cr_sum rfl) (by rfl) T.n_sum (by decide +kernel) (ja_cons (je_v (lt_of rfl) (pv 1)) ja_nil))) ja_nil))) (blkOk_by (N := ["_law_state", "_law_shape_here", "_law_pool_here", "_law_k"]) (sc := (defScope s_law_stretchw)) (by decide +kernel)) (fun _ _ _ _ _ => (jg_name (lt_of rfl) (pg_name (i := 3) sc_law_stretchw.nd rfl (by first | exact Or.inl rfl | exact Or.inr rfl)))) (fun _ _ _ _ _ => jts_nil) (fun _ _ _ _ _ => (je_callN (ms := [true, false]) (G_law_pick.mono (by decide)) hr (by rfl) T.m_law_pick T.F_law_pick.kp T.b_law_pick takes0 (ja_cons (je_v (lt_of rfl) (pv 0)) (ja_cons (je_v (lt_of rfl) (pv 2)) ja_nil)))))) (ja_cons (je_v (lt_of rfl) (pv 1)) ja_nil)))))
theorem ok_law_right (T : Txt K mg cn) (G_law_items : FnD P w K mg base cn 1 T.f_law_items T.fd_law_items ["_law_rows"] S_law_items) (G_law_is_form : FnD P w K mg base cn 2 T.f_law_is_form T.fd_law_is_form ["_law_thing", "_law_shape_here"] S_law_is_form) (G_law_shape_of : FnD P w K mg base cn 1 T.f_law_shape_of T.fd_law_shape_of ["_law_rows"] S_law_shape_of) (G_law_hole : FnD P w K mg base cn 1 T.f_law_hole T.fd_law_hole ["_law_item"] S_law_hole) : FnD P w K mg base cn 3 T.f_law_right T.fd_law_right ["_law_found", "_law_given"] S_law_right := by
  refine def_mk T.F_law_right sc_law_right (by decide) len_law_right sem_law_right rfl fun cdv A outer s H E hr => ?_
  have hu65 := hu65_of hr
  have hu1 := hu_of hr
  have tks := takes_of (X := cxOf (L2.CX P w) P w K mg base ["_law_found", "_law_given", "_law_items_here", "_law_rows", "_law_columns", "_law_p", "_law_same", "_law_q", "_law_alike", "_law_stretch_here", "_law_row"] "_law_right" (defScope s_law_right) T.f_law_right cdv A outer s H E) rfl rfl rfl rfl
  exact (jss_cons (js_if (jt_not (jt_val (je_callN (ms := [false, false]) (G_law_is_form.mono (by decide)) hr (by rfl) T.m_law_is_form T.F_law_is_form.kp T.b_law_is_form tks (ja_cons (je_v (lt_of rfl) (pv 0)) (ja_cons (je_callN (ms := [false]) (G_law_shape_of.mono (by decide)) hr (by rfl) T.m_law_shape_of T.F_law_shape_of.kp T.b_law_shape_of tks (ja_cons (je_ixS hu1 (je_v (lt_of rfl) (pv 1)) (je_c pe_int) (fun _ _ => rfl)) ja_nil)) ja_nil))))) (jss_one (js_ret (je_c pe_bl))) jss_nil)
    (jss_cons (js_set (i := 2) (lt_of rfl) (ps_set sc_law_right.nd rfl (by first | exact Or.inl rfl | exact Or.inr rfl) (je_callN (ms := [false]) (G_law_items.mono (by decide)) hr (by rfl) T.m_law_items T.F_law_items.kp T.b_law_items tks (ja_cons (je_v (lt_of rfl) (pv 0)) ja_nil))))
    (jss_cons (js_set (i := 3) (lt_of rfl) (ps_set sc_law_right.nd rfl (Or.inr rfl) (je_lc (pe_lc (own := [("_law_stretch_here", 9)]) rfl sc_law_right.nd (ji_seq (je_v (lt_of rfl) (pv 1))) (blkOk_by (N := ["_law_found", "_law_given", "_law_items_here", "_law_rows", "_law_columns", "_law_p", "_law_same", "_law_q", "_law_alike", "_law_stretch_here", "_law_row"]) (sc := (defScope s_law_right)) (by decide +kernel)) (fun _ _ _ _ _ => (jg_name (lt_of rfl) (pg_name (i := 9) sc_law_right.nd rfl (by first | exact Or.inl rfl | exact Or.inr rfl)))) (fun _ _ _ _ _ => jts_nil) (fun _ _ _ _ _ => (je_fz (je_callN (ms := [false]) (G_law_items.mono (by decide)) hr (by rfl) T.m_law_items T.F_law_items.kp T.b_law_items takes0 (ja_cons (je_v (lt_of rfl) (pv 9)) ja_nil))))))))
    (jss_cons (js_frz (js_setLc (i := 4) (lt_of rfl) (ps_setLc (i := 4) (own := [("_law_p", 5)]) rfl sc_law_right.nd rfl rfl (sw_true rfl rfl rfl (by decide +kernel)) (ji_rng1 (pi_range1 (by rfl) T.n_range (ja_cons (je_cb s_len (pe_callB o_len (by rfl) T.n_len boot_len (ja_cons (je_v (lt_of rfl) (pv 2)) ja_nil))) ja_nil))) (blkOk_by (N := ["_law_found", "_law_given", "_law_items_here", "_law_rows", "_law_columns", "_law_p", "_law_same", "_law_q", "_law_alike", "_law_stretch_here", "_law_row"]) (sc := (defScope s_law_right)) (by decide +kernel)) (fun _ _ _ _ _ => (jg_name (lt_of rfl) (pg_name (i := 5) sc_law_right.nd rfl (by first | exact Or.inl rfl | exact Or.inr rfl)))) (fun _ _ _ _ _ => jts_nil) (fun _ _ _ _ _ => (je_tupX (by rfl) T.n_tuple (je_lc (pe_lc (own := [("_law_row", 10)]) rfl sc_law_right.nd (ji_seq (je_v (lt_of rfl) (pv 3))) (blkOk_by (N := ["_law_found", "_law_given", "_law_items_here", "_law_rows", "_law_columns", "_law_p", "_law_same", "_law_q", "_law_alike", "_law_stretch_here", "_law_row"]) (sc := ((relS _ (defScope s_law_right)))) (by decide +kernel)) (fun _ _ _ _ _ => (jg_name (lt_of rfl) (pg_name (i := 10) sc_law_right.nd rfl (by first | exact Or.inl rfl | exact Or.inr rfl)))) (fun _ _ _ _ _ => jts_nil) (fun _ _ _ _ _ => (je_ixS hu1 (je_v (lt_of rfl) (pv 10)) (je_v (lt_of rfl) (pv 5)) (fun _ _ => rfl))))))))))
    (jss_cons (js_forW (vs := [5, 6, 7, 8]) (passes_of rfl) rfl (ji_rng1 (pi_range1 (by rfl) T.n_range (ja_cons (je_cb s_len (pe_callB o_len (by rfl) T.n_len boot_len (ja_cons (je_v (lt_of rfl) (pv 2)) ja_nil))) ja_nil))) (jg_name (lt_of rfl) (pg_name (i := 5) sc_law_right.nd rfl (by first | exact Or.inl rfl | exact Or.inr rfl))) (jss_cons (js_set (i := 6) (lt_of rfl) (ps_set sc_law_right.nd rfl (by first | exact Or.inl rfl | exact Or.inr rfl) (je_cmp (o_eq hu65) s_eq (je_cntT hu65 PySem.F.slot_tuple_count PySem.F.type_tuple_count (je_ixS hu1 (je_v (lt_of rfl) (pv 4)) (je_v (lt_of rfl) (pv 5)) (fun _ _ => rfl)) (je_ixS hu1 (je_ixS hu1 (je_v (lt_of rfl) (pv 4)) (je_v (lt_of rfl) (pv 5)) (fun _ _ => rfl)) (je_c pe_int) (fun _ _ => rfl))) (je_cb s_len (pe_callB o_len (by rfl) T.n_len boot_len (ja_cons (je_v (lt_of rfl) (pv 3)) ja_nil))) (nomark _))))
    (jss_cons (js_if (jw_t (jw_or (jt_cmp (o_eq hu65) s_eq (je_callN (ms := [false]) (G_law_hole.mono (by decide)) hr (by rfl) T.m_law_hole T.F_law_hole.kp T.b_law_hole tks (ja_cons (je_ixS hu1 (je_v (lt_of rfl) (pv 2)) (je_v (lt_of rfl) (pv 5)) (fun _ _ => rfl)) ja_nil)) (je_v (lt_of rfl) (pv 6)) (nomark _)) (jw_or1 (jw_t (jw_and (jt_val (je_v (lt_of rfl) (pv 6))) (jw_and1 (jt_cmp (o_ne hu65) s_ne (je_ixS hu1 (je_v (lt_of rfl) (pv 2)) (je_v (lt_of rfl) (pv 5)) (fun _ _ => rfl)) (je_ixS hu1 (je_ixS hu1 (je_v (lt_of rfl) (pv 4)) (je_v (lt_of rfl) (pv 5)) (fun _ _ => rfl)) (je_c pe_int) (fun _ _ => rfl)) (nomark _)))))))) (jss_one (js_ret (je_c pe_bl))) jss_nil)
    (jss_one (js_forW (vs := [7, 8]) (passes_of rfl) rfl (ji_rng1 (pi_range1 (by rfl) T.n_range (ja_cons (je_v (lt_of rfl) (pv 5)) ja_nil))) (jg_name (lt_of rfl) (pg_name (i := 7) sc_law_right.nd rfl (by first | exact Or.inl rfl | exact Or.inr rfl))) (jss_cons (js_set (i := 8) (lt_of rfl) (ps_set sc_law_right.nd rfl (by first | exact Or.inl rfl | exact Or.inr rfl) (je_cmp (o_eq hu65) s_eq (je_ixS hu1 (je_v (lt_of rfl) (pv 4)) (je_v (lt_of rfl) (pv 5)) (fun _ _ => rfl)) (je_ixS hu1 (je_v (lt_of rfl) (pv 4)) (je_v (lt_of rfl) (pv 7)) (fun _ _ => rfl)) (nomark _))))
    (jss_one (js_if (jw_t (jw_and (jt_not (jt_val (je_v (lt_of rfl) (pv 6)))) (jw_and (jt_val (je_callN (ms := [false]) (G_law_hole.mono (by decide)) hr (by rfl) T.m_law_hole T.F_law_hole.kp T.b_law_hole tks (ja_cons (je_ixS hu1 (je_v (lt_of rfl) (pv 2)) (je_v (lt_of rfl) (pv 7)) (fun _ _ => rfl)) ja_nil))) (jw_and1 (jt_cmp (o_ne hu65) s_ne (je_cmp (o_eq hu65) s_eq (je_ixS hu1 (je_v (lt_of rfl) (pv 2)) (je_v (lt_of rfl) (pv 5)) (fun _ _ => rfl)) (je_ixS hu1 (je_v (lt_of rfl) (pv 2)) (je_v (lt_of rfl) (pv 7)) (fun _ _ => rfl)) (nomark _)) (je_v (lt_of rfl) (pv 8)) (nomark _)))))) (jss_one (js_ret (je_c pe_bl))) jss_nil))))))))
    (jss_one (js_ret (je_c pe_bl))))))))
theorem ok_law_unlike (T : Txt K mg cn)  : FnD P w K mg base cn 1 T.f_law_unlike T.fd_law_unlike ["_law_some"] S_law_unlike := by
  refine def_mk T.F_law_unlike sc_law_unlike (by decide) len_law_unlike sem_law_unlike rfl fun cdv A outer s H E hr => ?_
  have hu65 := hu65_of hr
  have hu1 := hu_of hr
  have tks := takes_of (X := cxOf (L2.CX P w) P w K mg base ["_law_some", "_law_row", "_law_here", "_law_one"] "_law_unlike" (defScope s_law_unlike) T.f_law_unlike cdv A outer s H E) rfl rfl rfl rfl
  exact (jss_cons (js_forW (vs := [1, 2]) (passes_of rfl) rfl (ji_rng1 (pi_range1 (by rfl) T.n_range (ja_cons (je_cb s_maxL (pe_callB (call_maxL rfl hu65) (by rfl) T.n_max (by decide +kernel) (ja_cons (je_lc (pe_lc (own := [("_law_one", 3)]) rfl sc_law_unlike.nd (ji_seq (je_v (lt_of rfl) (pv 0))) (blkOk_by (N := ["_law_some", "_law_row", "_law_here", "_law_one"]) (sc := (defScope s_law_unlike)) (by decide +kernel)) (fun _ _ _ _ _ => (jg_name (lt_of rfl) (pg_name (i := 3) sc_law_unlike.nd rfl (by first | exact Or.inl rfl | exact Or.inr rfl)))) (fun _ _ _ _ _ => jts_nil) (fun _ _ _ _ _ => (je_cb s_len (pe_callB o_len (by rfl) T.n_len boot_len (ja_cons (je_v (lt_of rfl) (pv 3)) ja_nil)))))) ja_nil))) ja_nil))) (jg_name (lt_of rfl) (pg_name (i := 1) sc_law_unlike.nd rfl (by first | exact Or.inl rfl | exact Or.inr rfl))) (jss_cons (js_setLc (i := 2) (lt_of rfl) (ps_setLc (i := 2) (own := [("_law_one", 3)]) rfl sc_law_unlike.nd rfl rfl (sw_true rfl rfl rfl (by decide +kernel)) (ji_seq (je_v (lt_of rfl) (pv 0))) (blkOk_by (N := ["_law_some", "_law_row", "_law_here", "_law_one"]) (sc := (defScope s_law_unlike)) (by decide +kernel)) (fun _ _ _ _ _ => (jg_name (lt_of rfl) (pg_name (i := 3) sc_law_unlike.nd rfl (by first | exact Or.inl rfl | exact Or.inr rfl)))) (fun _ _ _ _ _ => jts_nil) (fun _ _ _ _ _ => (je_if (jt_cmp o_lt s_cmp (je_v (lt_of rfl) (pv 1)) (je_cb s_len (pe_callB o_len (by rfl) T.n_len boot_len (ja_cons (je_v (lt_of rfl) (pv 3)) ja_nil))) (nomark _)) (je_ixS hu1 (je_v (lt_of rfl) (pv 3)) (je_v (lt_of rfl) (pv 1)) (fun _ _ => rfl)) (je_c pe_non)))))
    (jss_one (js_if (jt_cmp (o_ne hu65) s_ne (je_bm1 PySem.F.plainAttrs_list PySem.F.slot_list_count PySem.F.type_list_count (mt_lcountP hu65) s_count (je_v (lt_of rfl) (pv 2)) (je_ixS hu1 (je_v (lt_of rfl) (pv 2)) (je_c pe_int) (fun _ _ => rfl))) (je_cb s_len (pe_callB o_len (by rfl) T.n_len boot_len (ja_cons (je_v (lt_of rfl) (pv 2)) ja_nil))) (nomark _)) (jss_one (js_ret (je_mv (lt_of rfl) (pv 1)))) jss_nil))))
    (jss_one (js_ret (je_c pe_non))))
theorem ok_law_own (T : Txt K mg cn) (G_law_copyf : FnD P w K mg base cn 1 T.f_law_copyf T.fd_law_copyf ["_law_rows"] S_law_copyf) : FnD P w K mg base cn 2 T.f_law_own T.fd_law_own ["_law_found"] S_law_own := by
  refine def_mk T.F_law_own sc_law_own (by decide) len_law_own sem_law_own rfl fun cdv A outer s H E hr => ?_
  have hu65 := hu65_of hr
  have hu1 := hu_of hr
  have tks := takes_of (X := cxOf (L2.CX P w) P w K mg base ["_law_found", "_law_kept", "_law_row"] "_law_own" (defScope s_law_own) T.f_law_own cdv A outer s H E) rfl rfl rfl rfl
  exact (jss_cons (js_set (i := 1) (lt_of rfl) (ps_set sc_law_own.nd rfl (by first | exact Or.inl rfl | exact Or.inr rfl) (je_lend (je_callN (ms := [false]) (G_law_copyf.mono (by decide)) hr (by rfl) T.m_law_copyf T.F_law_copyf.kp T.b_law_copyf tks (ja_cons (je_v (lt_of rfl) (pv 0)) ja_nil)))))
    (jss_cons (js_forB (vs := [2]) (lt_of rfl) (lt_of rfl) rfl (passes_of rfl) rfl (pv 0) (pg_name (i := 2) sc_law_own.nd rfl (by first | exact Or.inl rfl | exact Or.inr rfl)) (jss_one (js_expr (je_mutB m_append (lt_of rfl) (pe_bm PySem.F.plainAttrs_list PySem.F.slot_list_append PySem.F.type_list_append mt_append (pv 2) (ja_cons (je_c pe_str) ja_nil))))))
    (jss_one (js_ret (je_cmp (o_eq hu65) s_eq (je_v (lt_of rfl) (pv 0)) (je_lc (pe_lc (own := [("_law_row", 2)]) rfl sc_law_own.nd (ji_seq (je_v (lt_of rfl) (pv 1))) (blkOk_by (N := ["_law_found", "_law_kept", "_law_row"]) (sc := (defScope s_law_own)) (by decide +kernel)) (fun _ _ _ _ _ => (jg_name (lt_of rfl) (pg_name (i := 2) sc_law_own.nd rfl (by first | exact Or.inl rfl | exact Or.inr rfl)))) (fun _ _ _ _ _ => jts_nil) (fun _ _ _ _ _ => (je_op o_add s_add (je_v (lt_of rfl) (pv 2)) (je_lst (ja_cons (je_c pe_str) ja_nil)))))) (nomark _))))))
theorem ok_law (T : Txt K mg cn) (G_law_begin : FnD P w K mg base cn 1 T.f_law_begin T.fd_law_begin ["_law_script"] S_law_begin) (G_law_next : FnD P w K mg base cn 2 T.f_law_next T.fd_law_next ["_law_state", "_law_many"] S_law_next) (G_law_pick : FnD P w K mg base cn 3 T.f_law_pick T.fd_law_pick ["_law_state", "_law_some"] S_law_pick) (G_law_shape : FnD P w K mg base cn 3 T.f_law_shape T.fd_law_shape ["_law_state"] S_law_shape) (G_law_pool : FnD P w K mg base cn 5 T.f_law_pool T.fd_law_pool ["_law_state"] S_law_pool) (G_law_asked : FnD P w K mg base cn 5 T.f_law_asked T.fd_law_asked ["_law_given"] S_law_asked) (G_law_unlike : FnD P w K mg base cn 1 T.f_law_unlike T.fd_law_unlike ["_law_some"] S_law_unlike) (G_law_stretchw : FnD P w K mg base cn 4 T.f_law_stretchw T.fd_law_stretchw ["_law_state", "_law_shape_here", "_law_pool_here"] S_law_stretchw) (G_law_reshaped : FnD P w K mg base cn 1 T.f_law_reshaped T.fd_law_reshaped ["_law_way", "_law_place", "_law_rows"] S_law_reshaped) (G_law_copyf : FnD P w K mg base cn 1 T.f_law_copyf T.fd_law_copyf ["_law_rows"] S_law_copyf) (G_law_own : FnD P w K mg base cn 2 T.f_law_own T.fd_law_own ["_law_found"] S_law_own) (G_law_shape_of : FnD P w K mg base cn 1 T.f_law_shape_of T.fd_law_shape_of ["_law_rows"] S_law_shape_of) (G_law_right : FnD P w K mg base cn 3 T.f_law_right T.fd_law_right ["_law_found", "_law_given"] S_law_right) : FnD P w K mg base cn 6 T.f_law T.fd_law ["_law_script"] S_law := by
  refine def_mk T.F_law sc_law (by decide) len_law sem_law rfl fun cdv A outer s H E hr => ?_
  have hu65 := hu65_of hr
  have hu1 := hu_of hr
  have tks := takes_of (X := cxOf (L2.CX P w) P w K mg base ["_law_script", "_law_state", "_law_spoil", "_law_way", "_law_place", "_law_which", "_law_twice", "_law_many", "_law_shape_here", "_law_pool_here", "_law_given", "_law_handed", "_law_told", "_law_row", "_law_k", "_law_stretch_here", "_law_size"] "law" (defScope s_law) T.f_law cdv A outer s H E) rfl rfl rfl rfl
  exact (jss_cons (js_set (i := 1) (lt_of rfl) (ps_set sc_law.nd rfl (by first | exact Or.inl rfl | exact Or.inr rfl) (je_callN (ms := [false]) (G_law_begin.mono (by decide)) hr (by rfl) T.m_law_begin T.F_law_begin.kp T.b_law_begin tks (ja_cons (je_v (lt_of rfl) (pv 0)) ja_nil))))
    (jss_cons (js_set (i := 2) (lt_of rfl) (ps_set sc_law.nd rfl (by first | exact Or.inl rfl | exact Or.inr rfl) (je_callN (ms := [true, false]) (G_law_next.mono (by decide)) hr (by rfl) T.m_law_next T.F_law_next.kp T.b_law_next tks (ja_cons (je_v (lt_of rfl) (pv 1)) (ja_cons (je_c pe_int) ja_nil)))))
    (jss_cons (js_set (i := 3) (lt_of rfl) (ps_set sc_law.nd rfl (by first | exact Or.inl rfl | exact Or.inr rfl) (je_callN (ms := [true, false]) (G_law_next.mono (by decide)) hr (by rfl) T.m_law_next T.F_law_next.kp T.b_law_next tks (ja_cons (je_v (lt_of rfl) (pv 1)) (ja_cons (je_c pe_int) ja_nil)))))
    (jss_cons (js_set (i := 4) (lt_of rfl) (ps_set sc_law.nd rfl (by first | exact Or.inl rfl | exact Or.inr rfl) (je_callN (ms := [true, false]) (G_law_next.mono (by decide)) hr (by rfl) T.m_law_next T.F_law_next.kp T.b_law_next tks (ja_cons (je_v (lt_of rfl) (pv 1)) (ja_cons (je_c pe_int) ja_nil)))))
    (jss_cons (js_set (i := 5) (lt_of rfl) (ps_set sc_law.nd rfl (by first | exact Or.inl rfl | exact Or.inr rfl) (je_callN (ms := [true, false]) (G_law_next.mono (by decide)) hr (by rfl) T.m_law_next T.F_law_next.kp T.b_law_next tks (ja_cons (je_v (lt_of rfl) (pv 1)) (ja_cons (je_c pe_int) ja_nil)))))
    (jss_cons (js_set (i := 6) (lt_of rfl) (ps_set sc_law.nd rfl (by first | exact Or.inl rfl | exact Or.inr rfl) (je_lst (ja_cons (je_callN (ms := [true, false]) (G_law_next.mono (by decide)) hr (by rfl) T.m_law_next T.F_law_next.kp T.b_law_next tks (ja_cons (je_v (lt_of rfl) (pv 1)) (ja_cons (je_c pe_int) ja_nil))) (ja_cons (je_callN (ms := [true, false]) (G_law_next.mono (by decide)) hr (by rfl) T.m_law_next T.F_law_next.kp T.b_law_next tks (ja_cons (je_v (lt_of rfl) (pv 1)) (ja_cons (je_c pe_int) ja_nil))) (ja_cons (je_callN (ms := [true, false]) (G_law_next.mono (by decide)) hr (by rfl) T.m_law_next T.F_law_next.kp T.b_law_next tks (ja_cons (je_v (lt_of rfl) (pv 1)) (ja_cons (je_c pe_int) ja_nil))) ja_nil))))))
    (jss_cons (js_set (i := 7) (lt_of rfl) (ps_set sc_law.nd rfl (by first | exact Or.inl rfl | exact Or.inr rfl) (je_callN (ms := [true, false]) (G_law_pick.mono (by decide)) hr (by rfl) T.m_law_pick T.F_law_pick.kp T.b_law_pick tks (ja_cons (je_v (lt_of rfl) (pv 1)) (ja_cons (je_lst (ja_cons (je_c pe_int) (ja_cons (je_c pe_int) (ja_cons (je_c pe_int) (ja_cons (je_c pe_int) (ja_cons (je_c pe_int) (ja_cons (je_c pe_int) (ja_cons (je_c pe_int) (ja_cons (je_c pe_int) ja_nil))))))))) ja_nil)))))
    (jss_cons (js_set (i := 8) (lt_of rfl) (ps_set sc_law.nd rfl (by first | exact Or.inl rfl | exact Or.inr rfl) (je_callN (ms := [true]) (G_law_shape.mono (by decide)) hr (by rfl) T.m_law_shape T.F_law_shape.kp T.b_law_shape tks (ja_cons (je_v (lt_of rfl) (pv 1)) ja_nil))))
    (jss_cons (js_if (jt_cmp (o_eq hu65) s_eq (je_v (lt_of rfl) (pv 7)) (je_c pe_int) (nomark _)) (jss_one (js_set (i := 8) (lt_of rfl) (ps_set sc_law.nd rfl (Or.inr rfl) (je_lc (pe_lc (own := [("_law_size", 16)]) rfl sc_law.nd (ji_seq (je_cut (je_v (lt_of rfl) (pv 8)) jo_none (jo_some (je_c pe_int)))) (blkOk_by (N := ["_law_script", "_law_state", "_law_spoil", "_law_way", "_law_place", "_law_which", "_law_twice", "_law_many", "_law_shape_here", "_law_pool_here", "_law_given", "_law_handed", "_law_told", "_law_row", "_law_k", "_law_stretch_here", "_law_size"]) (sc := (defScope s_law)) (by decide +kernel)) (fun _ _ _ _ _ => (jg_name (lt_of rfl) (pg_name (i := 16) sc_law.nd rfl (by first | exact Or.inl rfl | exact Or.inr rfl)))) (fun _ _ _ _ _ => jts_nil) (fun _ _ _ _ _ => (je_op op_mod s_I (je_v (lt_of rfl) (pv 16)) (je_c pe_int)))))))) jss_nil)
    (jss_cons (js_set (i := 9) (lt_of rfl) (ps_set sc_law.nd rfl (by first | exact Or.inl rfl | exact Or.inr rfl) (je_callN (ms := [true]) (G_law_pool.mono (by decide)) hr (by rfl) T.m_law_pool T.F_law_pool.kp T.b_law_pool tks (ja_cons (je_v (lt_of rfl) (pv 1)) ja_nil))))
    (jss_cons (js_setLc (i := 10) (lt_of rfl) (ps_setLc (i := 10) (own := [("_law_k", 14)]) rfl sc_law.nd rfl rfl (sw_true rfl rfl rfl (by decide +kernel)) (ji_rng1 (pi_range1 (by rfl) T.n_range (ja_cons (je_v (lt_of rfl) (pv 7)) ja_nil))) (blkOk_by (N := ["_law_script", "_law_state", "_law_spoil", "_law_way", "_law_place", "_law_which", "_law_twice", "_law_many", "_law_shape_here", "_law_pool_here", "_law_given", "_law_handed", "_law_told", "_law_row", "_law_k", "_law_stretch_here", "_law_size"]) (sc := (defScope s_law)) (by decide +kernel)) (fun _ _ _ _ _ => (jg_name (lt_of rfl) (pg_name (i := 14) sc_law.nd rfl (by first | exact Or.inl rfl | exact Or.inr rfl)))) (fun _ _ _ _ _ => jts_nil) (fun _ _ _ _ _ => (je_fz (je_callN (ms := [true, false, false]) (G_law_stretchw.mono (by decide)) hr (by rfl) T.m_law_stretchw T.F_law_stretchw.kp T.b_law_stretchw takes0 (ja_cons (je_v (lt_of rfl) (pv 1)) (ja_cons (je_v (lt_of rfl) (pv 8)) (ja_cons (je_v (lt_of rfl) (pv 9)) ja_nil))))))))
    (jss_cons (js_if (jt_cmp o_lt s_cmp (je_v (lt_of rfl) (pv 2)) (je_c pe_int) (nomark _)) (jss_cons (js_put (lt_of rfl) m_setL setL_h (ps_asg (je_fz (je_callN (ms := [false, false, false]) (G_law_reshaped.mono (by decide)) hr (by rfl) T.m_law_reshaped T.F_law_reshaped.kp T.b_law_reshaped tks (ja_cons (je_v (lt_of rfl) (pv 3)) (ja_cons (je_v (lt_of rfl) (pv 4)) (ja_cons (je_ixS hu1 (je_v (lt_of rfl) (pv 10)) (je_op op_mod s_I (je_v (lt_of rfl) (pv 5)) (je_v (lt_of rfl) (pv 7))) (fun _ _ => rfl)) ja_nil))))) (pg_sub (pv 10) (je_op op_mod s_I (je_v (lt_of rfl) (pv 5)) (je_v (lt_of rfl) (pv 7))) set_list)))
    (jss_one (js_if (jw_t (jw_and (jt_cmp (o_eq hu65) s_eq (je_ixS hu1 (je_v (lt_of rfl) (pv 6)) (je_c pe_int) (fun _ _ => rfl)) (je_c pe_int) (nomark _)) (jw_and1 (jt_cmp o_gt s_cmp (je_v (lt_of rfl) (pv 7)) (je_c pe_int) (nomark _))))) (jss_one (js_put (lt_of rfl) m_setL setL_h (ps_asg (je_fz (je_callN (ms := [false, false, false]) (G_law_reshaped.mono (by decide)) hr (by rfl) T.m_law_reshaped T.F_law_reshaped.kp T.b_law_reshaped tks (ja_cons (je_ixS hu1 (je_v (lt_of rfl) (pv 6)) (je_c pe_int) (fun _ _ => rfl)) (ja_cons (je_ixS hu1 (je_v (lt_of rfl) (pv 6)) (je_c pe_int) (fun _ _ => rfl)) (ja_cons (je_ixS hu1 (je_v (lt_of rfl) (pv 10)) (je_op op_mod s_I (je_op o_add s_add (je_v (lt_of rfl) (pv 5)) (je_c pe_int)) (je_v (lt_of rfl) (pv 7))) (fun _ _ => rfl)) ja_nil))))) (pg_sub (pv 10) (je_op op_mod s_I (je_op o_add s_add (je_v (lt_of rfl) (pv 5)) (je_c pe_int)) (je_v (lt_of rfl) (pv 7))) set_list)))) jss_nil))) jss_nil)
    (jss_cons (js_if (jw_t (jw_and (jt_cmp (o_eq hu65) s_eq (je_v (lt_of rfl) (pv 2)) (je_c pe_int) (nomark _)) (jw_and1 (jt_cmp (o_eq hu65) s_eq (je_v (lt_of rfl) (pv 3)) (je_c pe_int) (nomark _))))) (jss_one (js_set (i := 10) (lt_of rfl) (ps_set sc_law.nd rfl (by first | exact Or.inl rfl | exact Or.inr rfl) (je_lst ja_nil)))) jss_nil)
    (jss_cons (js_setLc (i := 11) (lt_of rfl) (ps_setLc (i := 11) (own := [("_law_stretch_here", 15)]) rfl sc_law.nd rfl rfl (sw_true rfl rfl rfl (by decide +kernel)) (ji_seq (je_v (lt_of rfl) (pv 10))) (blkOk_by (N := ["_law_script", "_law_state", "_law_spoil", "_law_way", "_law_place", "_law_which", "_law_twice", "_law_many", "_law_shape_here", "_law_pool_here", "_law_given", "_law_handed", "_law_told", "_law_row", "_law_k", "_law_stretch_here", "_law_size"]) (sc := (defScope s_law)) (by decide +kernel)) (fun _ _ _ _ _ => (jg_name (lt_of rfl) (pg_name (i := 15) sc_law.nd rfl (by first | exact Or.inl rfl | exact Or.inr rfl)))) (fun _ _ _ _ _ => jts_nil) (fun _ _ _ _ _ => (je_fz (je_callN (ms := [false]) (G_law_copyf.mono (by decide)) hr (by rfl) T.m_law_copyf T.F_law_copyf.kp T.b_law_copyf takes0 (ja_cons (je_v (lt_of rfl) (pv 15)) ja_nil))))))
    (jss_cons (js_set (i := 12) (lt_of rfl) (ps_set sc_law.nd rfl (by first | exact Or.inl rfl | exact Or.inr rfl) (je_callN (ms := [false]) (G_law_asked.mono (by decide)) hr (by rfl) T.m_law_asked T.F_law_asked.kp T.b_law_asked tks (ja_cons (je_v (lt_of rfl) (pv 11)) ja_nil))))
    (jss_cons (js_if (jt_cmp (o_ne hu65) s_ne (je_v (lt_of rfl) (pv 11)) (je_v (lt_of rfl) (pv 10)) (nomark _)) (jss_one (js_ret (je_c pe_bl))) jss_nil)
    (jss_cons (js_if (jt_cmp (o_eq hu65) s_eq (je_v (lt_of rfl) (pv 10)) (je_lst ja_nil) (nomark _)) (jss_one (js_ret (je_cmp (o_eq hu65) s_eq (je_v (lt_of rfl) (pv 12)) (je_tup (ja_cons (je_c pe_str) (ja_cons (je_lst (ja_cons (je_c pe_bl) (ja_cons (je_c pe_bl) (ja_cons (je_c pe_bl) (ja_cons (je_c pe_bl) (ja_cons (je_c pe_bl) (ja_cons (je_c pe_bl) (ja_cons (je_c pe_bl) ja_nil)))))))) ja_nil))) (nomark _)))) jss_nil)
    (jss_cons (js_set (i := 13) (lt_of rfl) (ps_set sc_law.nd rfl (by first | exact Or.inl rfl | exact Or.inr rfl) (je_callN (ms := [false]) (G_law_unlike.mono (by decide)) hr (by rfl) T.m_law_unlike T.F_law_unlike.kp T.b_law_unlike tks (ja_cons (je_lc (pe_lc (own := [("_law_stretch_here", 15)]) rfl sc_law.nd (ji_seq (je_v (lt_of rfl) (pv 10))) (blkOk_by (N := ["_law_script", "_law_state", "_law_spoil", "_law_way", "_law_place", "_law_which", "_law_twice", "_law_many", "_law_shape_here", "_law_pool_here", "_law_given", "_law_handed", "_law_told", "_law_row", "_law_k", "_law_stretch_here", "_law_size"]) (sc := (defScope s_law)) (by decide +kernel)) (fun _ _ _ _ _ => (jg_name (lt_of rfl) (pg_name (i := 15) sc_law.nd rfl (by first | exact Or.inl rfl | exact Or.inr rfl)))) (fun _ _ _ _ _ => jts_nil) (fun _ _ _ _ _ => (je_fz (je_callN (ms := [false]) (G_law_shape_of.mono (by decide)) hr (by rfl) T.m_law_shape_of T.F_law_shape_of.kp T.b_law_shape_of takes0 (ja_cons (je_v (lt_of rfl) (pv 15)) ja_nil)))))) ja_nil))))
    (jss_cons (js_if (jt_cmp op_notN s_notN (je_v (lt_of rfl) (pv 13)) (je_c pe_non) (nomark _)) (jss_one (js_ret (je_cmp (o_eq hu65) s_eq (je_v (lt_of rfl) (pv 12)) (je_tup (ja_cons (je_c pe_str) (ja_cons (je_lst (ja_cons (je_c pe_bl) (ja_cons (je_c pe_bl) (ja_cons (je_c pe_bl) (ja_cons (je_c pe_bl) (ja_cons (je_c pe_bl) (ja_cons (je_c pe_bl) (ja_cons (je_c pe_bl) (ja_cons (je_v (lt_of rfl) (pv 13)) ja_nil))))))))) ja_nil))) (nomark _)))) jss_nil)
    (jss_cons (js_if (jw_t (jw_or (jt_cmp (o_ne hu65) s_ne (je_ixS hu1 (je_v (lt_of rfl) (pv 12)) (je_c pe_int) (fun _ _ => rfl)) (je_c pe_str) (nomark _)) (jw_or1 (jt_not (jt_val (je_lend (je_callN (ms := [false, false]) (G_law_right.mono (by decide)) hr (by rfl) T.m_law_right T.F_law_right.kp T.b_law_right tks (ja_cons (je_ixS hu1 (je_v (lt_of rfl) (pv 12)) (je_c pe_int) (fun _ _ => rfl)) (ja_cons (je_v (lt_of rfl) (pv 10)) ja_nil))))))))) (jss_one (js_ret (je_c pe_bl))) jss_nil)
    (jss_one (js_ret (je_and (je_callN (ms := [true]) (G_law_own.mono (by decide)) hr (by rfl) T.m_law_own T.F_law_own.kp T.b_law_own tks (ja_cons (je_ixM (lt_of rfl) (pe_ix ix_seq (pv 12) pe_int (fun _ _ => rfl))) ja_nil)) (je_one (je_cmp (o_eq hu65) s_eq (je_v (lt_of rfl) (pv 11)) (je_v (lt_of rfl) (pv 10)) (nomark _))))))))))))))))))))))))))
end
theorem all_mk {l : PySem.W.OpenLaw} {w : World} {K : PySem.W.Frag} {h : Heap} {mg : Str → Option Value} {fa : Addr} (X : K.In h) (G : h.Ns mainGlobals mg) (hfa : mg "law" = some (.ref fa))
    {f_items_of : Addr} {od_items_of an_items_of : Option Addr} {sl_items_of : Array (Option Value)} {oc_items_of kV_items_of dc_items_of pm_items_of cd_items_of ct_items_of : Value}
    {f_need_shape : Addr} {od_need_shape an_need_shape : Option Addr} {sl_need_shape : Array (Option Value)} {oc_need_shape kV_need_shape dc_need_shape pm_need_shape cd_need_shape ct_need_shape : Value}
    {f_in_rows : Addr} {od_in_rows an_in_rows : Option Addr} {sl_in_rows : Array (Option Value)} {oc_in_rows kV_in_rows dc_in_rows pm_in_rows cd_in_rows ct_in_rows : Value}
    {f_opened : Addr} {od_opened an_opened : Option Addr} {sl_opened : Array (Option Value)} {oc_opened kV_opened dc_opened pm_opened cd_opened ct_opened : Value}
    {f_form_of : Addr} {od_form_of an_form_of : Option Addr} {sl_form_of : Array (Option Value)} {oc_form_of kV_form_of dc_form_of pm_form_of cd_form_of ct_form_of : Value}
    {f_law_begin : Addr} {od_law_begin an_law_begin : Option Addr} {sl_law_begin : Array (Option Value)} {oc_law_begin kV_law_begin dc_law_begin pm_law_begin cd_law_begin ct_law_begin : Value}
    {f_law_more : Addr} {od_law_more an_law_more : Option Addr} {sl_law_more : Array (Option Value)} {oc_law_more kV_law_more dc_law_more pm_law_more cd_law_more ct_law_more : Value}
    {f_law_next : Addr} {od_law_next an_law_next : Option Addr} {sl_law_next : Array (Option Value)} {oc_law_next kV_law_next dc_law_next pm_law_next cd_law_next ct_law_next : Value}
    {f_law_pick : Addr} {od_law_pick an_law_pick : Option Addr} {sl_law_pick : Array (Option Value)} {oc_law_pick kV_law_pick dc_law_pick pm_law_pick cd_law_pick ct_law_pick : Value}
    {f_law_wordf : Addr} {od_law_wordf an_law_wordf : Option Addr} {sl_law_wordf : Array (Option Value)} {oc_law_wordf kV_law_wordf dc_law_wordf pm_law_wordf cd_law_wordf ct_law_wordf : Value}
    {f_law_pool : Addr} {od_law_pool an_law_pool : Option Addr} {sl_law_pool : Array (Option Value)} {oc_law_pool kV_law_pool dc_law_pool pm_law_pool cd_law_pool ct_law_pool : Value}
    {f_law_shape : Addr} {od_law_shape an_law_shape : Option Addr} {sl_law_shape : Array (Option Value)} {oc_law_shape kV_law_shape dc_law_shape pm_law_shape cd_law_shape ct_law_shape : Value}
    {f_law_in_rows : Addr} {od_law_in_rows an_law_in_rows : Option Addr} {sl_law_in_rows : Array (Option Value)} {oc_law_in_rows kV_law_in_rows dc_law_in_rows pm_law_in_rows cd_law_in_rows ct_law_in_rows : Value}
    {f_law_copyf : Addr} {od_law_copyf an_law_copyf : Option Addr} {sl_law_copyf : Array (Option Value)} {oc_law_copyf kV_law_copyf dc_law_copyf pm_law_copyf cd_law_copyf ct_law_copyf : Value}
    {f_law_items : Addr} {od_law_items an_law_items : Option Addr} {sl_law_items : Array (Option Value)} {oc_law_items kV_law_items dc_law_items pm_law_items cd_law_items ct_law_items : Value}
    {f_law_shape_of : Addr} {od_law_shape_of an_law_shape_of : Option Addr} {sl_law_shape_of : Array (Option Value)} {oc_law_shape_of kV_law_shape_of dc_law_shape_of pm_law_shape_of cd_law_shape_of ct_law_shape_of : Value}
    {f_law_reshaped : Addr} {od_law_reshaped an_law_reshaped : Option Addr} {sl_law_reshaped : Array (Option Value)} {oc_law_reshaped kV_law_reshaped dc_law_reshaped pm_law_reshaped cd_law_reshaped ct_law_reshaped : Value}
    {f_law_hole : Addr} {od_law_hole an_law_hole : Option Addr} {sl_law_hole : Array (Option Value)} {oc_law_hole kV_law_hole dc_law_hole pm_law_hole cd_law_hole ct_law_hole : Value}
    {f_law_is_form : Addr} {od_law_is_form an_law_is_form : Option Addr} {sl_law_is_form : Array (Option Value)} {oc_law_is_form kV_law_is_form dc_law_is_form pm_law_is_form cd_law_is_form ct_law_is_form : Value}
    {f_law_classes : Addr} {od_law_classes an_law_classes : Option Addr} {sl_law_classes : Array (Option Value)} {oc_law_classes kV_law_classes dc_law_classes pm_law_classes cd_law_classes ct_law_classes : Value}
    {f_law_asked : Addr} {od_law_asked an_law_asked : Option Addr} {sl_law_asked : Array (Option Value)} {oc_law_asked kV_law_asked dc_law_asked pm_law_asked cd_law_asked ct_law_asked : Value}
    {f_law_stretchw : Addr} {od_law_stretchw an_law_stretchw : Option Addr} {sl_law_stretchw : Array (Option Value)} {oc_law_stretchw kV_law_stretchw dc_law_stretchw pm_law_stretchw cd_law_stretchw ct_law_stretchw : Value}
    {f_law_right : Addr} {od_law_right an_law_right : Option Addr} {sl_law_right : Array (Option Value)} {oc_law_right kV_law_right dc_law_right pm_law_right cd_law_right ct_law_right : Value}
    {f_law_unlike : Addr} {od_law_unlike an_law_unlike : Option Addr} {sl_law_unlike : Array (Option Value)} {oc_law_unlike kV_law_unlike dc_law_unlike pm_law_unlike cd_law_unlike ct_law_unlike : Value}
    {f_law_own : Addr} {od_law_own an_law_own : Option Addr} {sl_law_own : Array (Option Value)} {oc_law_own kV_law_own dc_law_own pm_law_own cd_law_own ct_law_own : Value}
    {f_law : Addr} {od_law an_law : Option Addr} {sl_law : Array (Option Value)} {oc_law kV_law dc_law pm_law cd_law ct_law : Value}
    (a_items_of : PySem.W.nsIn K mainGlobals "items_of" = some (some (.ref f_items_of))) (l_items_of : K.lookup f_items_of = some ⟨oc_items_of, od_items_of, .func (PySem.W.fnOf "items_of" "items_of" (defArgs s_items_of) (defBody s_items_of) (defScope s_items_of) .none kV_items_of dc_items_of pm_items_of an_items_of cd_items_of ct_items_of), sl_items_of⟩) (c_items_of : PySem.W.codeIn K cd_items_of "items_of" = true) (k_items_of : PySem.W.keepIn K (.ref f_items_of) = true)
    (a_need_shape : PySem.W.nsIn K mainGlobals "need_shape" = some (some (.ref f_need_shape))) (l_need_shape : K.lookup f_need_shape = some ⟨oc_need_shape, od_need_shape, .func (PySem.W.fnOf "need_shape" "need_shape" (defArgs s_need_shape) (defBody s_need_shape) (defScope s_need_shape) .none kV_need_shape dc_need_shape pm_need_shape an_need_shape cd_need_shape ct_need_shape), sl_need_shape⟩) (c_need_shape : PySem.W.codeIn K cd_need_shape "need_shape" = true) (k_need_shape : PySem.W.keepIn K (.ref f_need_shape) = true)
    (a_in_rows : PySem.W.nsIn K mainGlobals "in_rows" = some (some (.ref f_in_rows))) (l_in_rows : K.lookup f_in_rows = some ⟨oc_in_rows, od_in_rows, .func (PySem.W.fnOf "in_rows" "in_rows" (defArgs s_in_rows) (defBody s_in_rows) (defScope s_in_rows) .none kV_in_rows dc_in_rows pm_in_rows an_in_rows cd_in_rows ct_in_rows), sl_in_rows⟩) (c_in_rows : PySem.W.codeIn K cd_in_rows "in_rows" = true) (k_in_rows : PySem.W.keepIn K (.ref f_in_rows) = true)
    (a_opened : PySem.W.nsIn K mainGlobals "opened" = some (some (.ref f_opened))) (l_opened : K.lookup f_opened = some ⟨oc_opened, od_opened, .func (PySem.W.fnOf "opened" "opened" (defArgs s_opened) (defBody s_opened) (defScope s_opened) .none kV_opened dc_opened pm_opened an_opened cd_opened ct_opened), sl_opened⟩) (c_opened : PySem.W.codeIn K cd_opened "opened" = true) (k_opened : PySem.W.keepIn K (.ref f_opened) = true)
    (a_form_of : PySem.W.nsIn K mainGlobals "form_of" = some (some (.ref f_form_of))) (l_form_of : K.lookup f_form_of = some ⟨oc_form_of, od_form_of, .func (PySem.W.fnOf "form_of" "form_of" (defArgs s_form_of) (defBody s_form_of) (defScope s_form_of) .none kV_form_of dc_form_of pm_form_of an_form_of cd_form_of ct_form_of), sl_form_of⟩) (c_form_of : PySem.W.codeIn K cd_form_of "form_of" = true) (k_form_of : PySem.W.keepIn K (.ref f_form_of) = true)
    (a_law_begin : PySem.W.nsIn K mainGlobals "_law_begin" = some (some (.ref f_law_begin))) (l_law_begin : K.lookup f_law_begin = some ⟨oc_law_begin, od_law_begin, .func (PySem.W.fnOf "_law_begin" "_law_begin" (defArgs s_law_begin) (defBody s_law_begin) (defScope s_law_begin) .none kV_law_begin dc_law_begin pm_law_begin an_law_begin cd_law_begin ct_law_begin), sl_law_begin⟩) (c_law_begin : PySem.W.codeIn K cd_law_begin "_law_begin" = true) (k_law_begin : PySem.W.keepIn K (.ref f_law_begin) = true)
    (a_law_more : PySem.W.nsIn K mainGlobals "_law_more" = some (some (.ref f_law_more))) (l_law_more : K.lookup f_law_more = some ⟨oc_law_more, od_law_more, .func (PySem.W.fnOf "_law_more" "_law_more" (defArgs s_law_more) (defBody s_law_more) (defScope s_law_more) .none kV_law_more dc_law_more pm_law_more an_law_more cd_law_more ct_law_more), sl_law_more⟩) (c_law_more : PySem.W.codeIn K cd_law_more "_law_more" = true) (k_law_more : PySem.W.keepIn K (.ref f_law_more) = true)
    (a_law_next : PySem.W.nsIn K mainGlobals "_law_next" = some (some (.ref f_law_next))) (l_law_next : K.lookup f_law_next = some ⟨oc_law_next, od_law_next, .func (PySem.W.fnOf "_law_next" "_law_next" (defArgs s_law_next) (defBody s_law_next) (defScope s_law_next) .none kV_law_next dc_law_next pm_law_next an_law_next cd_law_next ct_law_next), sl_law_next⟩) (c_law_next : PySem.W.codeIn K cd_law_next "_law_next" = true) (k_law_next : PySem.W.keepIn K (.ref f_law_next) = true)
    (a_law_pick : PySem.W.nsIn K mainGlobals "_law_pick" = some (some (.ref f_law_pick))) (l_law_pick : K.lookup f_law_pick = some ⟨oc_law_pick, od_law_pick, .func (PySem.W.fnOf "_law_pick" "_law_pick" (defArgs s_law_pick) (defBody s_law_pick) (defScope s_law_pick) .none kV_law_pick dc_law_pick pm_law_pick an_law_pick cd_law_pick ct_law_pick), sl_law_pick⟩) (c_law_pick : PySem.W.codeIn K cd_law_pick "_law_pick" = true) (k_law_pick : PySem.W.keepIn K (.ref f_law_pick) = true)
    (a_law_wordf : PySem.W.nsIn K mainGlobals "_law_word" = some (some (.ref f_law_wordf))) (l_law_wordf : K.lookup f_law_wordf = some ⟨oc_law_wordf, od_law_wordf, .func (PySem.W.fnOf "_law_word" "_law_word" (defArgs s_law_wordf) (defBody s_law_wordf) (defScope s_law_wordf) .none kV_law_wordf dc_law_wordf pm_law_wordf an_law_wordf cd_law_wordf ct_law_wordf), sl_law_wordf⟩) (c_law_wordf : PySem.W.codeIn K cd_law_wordf "_law_word" = true) (k_law_wordf : PySem.W.keepIn K (.ref f_law_wordf) = true)
    (a_law_pool : PySem.W.nsIn K mainGlobals "_law_pool" = some (some (.ref f_law_pool))) (l_law_pool : K.lookup f_law_pool = some ⟨oc_law_pool, od_law_pool, .func (PySem.W.fnOf "_law_pool" "_law_pool" (defArgs s_law_pool) (defBody s_law_pool) (defScope s_law_pool) .none kV_law_pool dc_law_pool pm_law_pool an_law_pool cd_law_pool ct_law_pool), sl_law_pool⟩) (c_law_pool : PySem.W.codeIn K cd_law_pool "_law_pool" = true) (k_law_pool : PySem.W.keepIn K (.ref f_law_pool) = true)
    (a_law_shape : PySem.W.nsIn K mainGlobals "_law_shape" = some (some (.ref f_law_shape))) (l_law_shape : K.lookup f_law_shape = some ⟨oc_law_shape, od_law_shape, .func (PySem.W.fnOf "_law_shape" "_law_shape" (defArgs s_law_shape) (defBody s_law_shape) (defScope s_law_shape) .none kV_law_shape dc_law_shape pm_law_shape an_law_shape cd_law_shape ct_law_shape), sl_law_shape⟩) (c_law_shape : PySem.W.codeIn K cd_law_shape "_law_shape" = true) (k_law_shape : PySem.W.keepIn K (.ref f_law_shape) = true)
    (a_law_in_rows : PySem.W.nsIn K mainGlobals "_law_in_rows" = some (some (.ref f_law_in_rows))) (l_law_in_rows : K.lookup f_law_in_rows = some ⟨oc_law_in_rows, od_law_in_rows, .func (PySem.W.fnOf "_law_in_rows" "_law_in_rows" (defArgs s_law_in_rows) (defBody s_law_in_rows) (defScope s_law_in_rows) .none kV_law_in_rows dc_law_in_rows pm_law_in_rows an_law_in_rows cd_law_in_rows ct_law_in_rows), sl_law_in_rows⟩) (c_law_in_rows : PySem.W.codeIn K cd_law_in_rows "_law_in_rows" = true) (k_law_in_rows : PySem.W.keepIn K (.ref f_law_in_rows) = true)
    (a_law_copyf : PySem.W.nsIn K mainGlobals "_law_copy" = some (some (.ref f_law_copyf))) (l_law_copyf : K.lookup f_law_copyf = some ⟨oc_law_copyf, od_law_copyf, .func (PySem.W.fnOf "_law_copy" "_law_copy" (defArgs s_law_copyf) (defBody s_law_copyf) (defScope s_law_copyf) .none kV_law_copyf dc_law_copyf pm_law_copyf an_law_copyf cd_law_copyf ct_law_copyf), sl_law_copyf⟩) (c_law_copyf : PySem.W.codeIn K cd_law_copyf "_law_copy" = true) (k_law_copyf : PySem.W.keepIn K (.ref f_law_copyf) = true)
    (a_law_items : PySem.W.nsIn K mainGlobals "_law_items" = some (some (.ref f_law_items))) (l_law_items : K.lookup f_law_items = some ⟨oc_law_items, od_law_items, .func (PySem.W.fnOf "_law_items" "_law_items" (defArgs s_law_items) (defBody s_law_items) (defScope s_law_items) .none kV_law_items dc_law_items pm_law_items an_law_items cd_law_items ct_law_items), sl_law_items⟩) (c_law_items : PySem.W.codeIn K cd_law_items "_law_items" = true) (k_law_items : PySem.W.keepIn K (.ref f_law_items) = true)
    (a_law_shape_of : PySem.W.nsIn K mainGlobals "_law_shape_of" = some (some (.ref f_law_shape_of))) (l_law_shape_of : K.lookup f_law_shape_of = some ⟨oc_law_shape_of, od_law_shape_of, .func (PySem.W.fnOf "_law_shape_of" "_law_shape_of" (defArgs s_law_shape_of) (defBody s_law_shape_of) (defScope s_law_shape_of) .none kV_law_shape_of dc_law_shape_of pm_law_shape_of an_law_shape_of cd_law_shape_of ct_law_shape_of), sl_law_shape_of⟩) (c_law_shape_of : PySem.W.codeIn K cd_law_shape_of "_law_shape_of" = true) (k_law_shape_of : PySem.W.keepIn K (.ref f_law_shape_of) = true)
    (a_law_reshaped : PySem.W.nsIn K mainGlobals "_law_reshaped" = some (some (.ref f_law_reshaped))) (l_law_reshaped : K.lookup f_law_reshaped = some ⟨oc_law_reshaped, od_law_reshaped, .func (PySem.W.fnOf "_law_reshaped" "_law_reshaped" (defArgs s_law_reshaped) (defBody s_law_reshaped) (defScope s_law_reshaped) .none kV_law_reshaped dc_law_reshaped pm_law_reshaped an_law_reshaped cd_law_reshaped ct_law_reshaped), sl_law_reshaped⟩) (c_law_reshaped : PySem.W.codeIn K cd_law_reshaped "_law_reshaped" = true) (k_law_reshaped : PySem.W.keepIn K (.ref f_law_reshaped) = true)
    (a_law_hole : PySem.W.nsIn K mainGlobals "_law_hole" = some (some (.ref f_law_hole))) (l_law_hole : K.lookup f_law_hole = some ⟨oc_law_hole, od_law_hole, .func (PySem.W.fnOf "_law_hole" "_law_hole" (defArgs s_law_hole) (defBody s_law_hole) (defScope s_law_hole) .none kV_law_hole dc_law_hole pm_law_hole an_law_hole cd_law_hole ct_law_hole), sl_law_hole⟩) (c_law_hole : PySem.W.codeIn K cd_law_hole "_law_hole" = true) (k_law_hole : PySem.W.keepIn K (.ref f_law_hole) = true)
    (a_law_is_form : PySem.W.nsIn K mainGlobals "_law_is_form" = some (some (.ref f_law_is_form))) (l_law_is_form : K.lookup f_law_is_form = some ⟨oc_law_is_form, od_law_is_form, .func (PySem.W.fnOf "_law_is_form" "_law_is_form" (defArgs s_law_is_form) (defBody s_law_is_form) (defScope s_law_is_form) .none kV_law_is_form dc_law_is_form pm_law_is_form an_law_is_form cd_law_is_form ct_law_is_form), sl_law_is_form⟩) (c_law_is_form : PySem.W.codeIn K cd_law_is_form "_law_is_form" = true) (k_law_is_form : PySem.W.keepIn K (.ref f_law_is_form) = true)
    (a_law_classes : PySem.W.nsIn K mainGlobals "_law_classes" = some (some (.ref f_law_classes))) (l_law_classes : K.lookup f_law_classes = some ⟨oc_law_classes, od_law_classes, .func (PySem.W.fnOf "_law_classes" "_law_classes" (defArgs s_law_classes) (defBody s_law_classes) (defScope s_law_classes) .none kV_law_classes dc_law_classes pm_law_classes an_law_classes cd_law_classes ct_law_classes), sl_law_classes⟩) (c_law_classes : PySem.W.codeIn K cd_law_classes "_law_classes" = true) (k_law_classes : PySem.W.keepIn K (.ref f_law_classes) = true)
    (a_law_asked : PySem.W.nsIn K mainGlobals "_law_asked" = some (some (.ref f_law_asked))) (l_law_asked : K.lookup f_law_asked = some ⟨oc_law_asked, od_law_asked, .func (PySem.W.fnOf "_law_asked" "_law_asked" (defArgs s_law_asked) (defBody s_law_asked) (defScope s_law_asked) .none kV_law_asked dc_law_asked pm_law_asked an_law_asked cd_law_asked ct_law_asked), sl_law_asked⟩) (c_law_asked : PySem.W.codeIn K cd_law_asked "_law_asked" = true) (k_law_asked : PySem.W.keepIn K (.ref f_law_asked) = true)
    (a_law_stretchw : PySem.W.nsIn K mainGlobals "_law_stretch" = some (some (.ref f_law_stretchw))) (l_law_stretchw : K.lookup f_law_stretchw = some ⟨oc_law_stretchw, od_law_stretchw, .func (PySem.W.fnOf "_law_stretch" "_law_stretch" (defArgs s_law_stretchw) (defBody s_law_stretchw) (defScope s_law_stretchw) .none kV_law_stretchw dc_law_stretchw pm_law_stretchw an_law_stretchw cd_law_stretchw ct_law_stretchw), sl_law_stretchw⟩) (c_law_stretchw : PySem.W.codeIn K cd_law_stretchw "_law_stretch" = true) (k_law_stretchw : PySem.W.keepIn K (.ref f_law_stretchw) = true)
    (a_law_right : PySem.W.nsIn K mainGlobals "_law_right" = some (some (.ref f_law_right))) (l_law_right : K.lookup f_law_right = some ⟨oc_law_right, od_law_right, .func (PySem.W.fnOf "_law_right" "_law_right" (defArgs s_law_right) (defBody s_law_right) (defScope s_law_right) .none kV_law_right dc_law_right pm_law_right an_law_right cd_law_right ct_law_right), sl_law_right⟩) (c_law_right : PySem.W.codeIn K cd_law_right "_law_right" = true) (k_law_right : PySem.W.keepIn K (.ref f_law_right) = true)
    (a_law_unlike : PySem.W.nsIn K mainGlobals "_law_unlike" = some (some (.ref f_law_unlike))) (l_law_unlike : K.lookup f_law_unlike = some ⟨oc_law_unlike, od_law_unlike, .func (PySem.W.fnOf "_law_unlike" "_law_unlike" (defArgs s_law_unlike) (defBody s_law_unlike) (defScope s_law_unlike) .none kV_law_unlike dc_law_unlike pm_law_unlike an_law_unlike cd_law_unlike ct_law_unlike), sl_law_unlike⟩) (c_law_unlike : PySem.W.codeIn K cd_law_unlike "_law_unlike" = true) (k_law_unlike : PySem.W.keepIn K (.ref f_law_unlike) = true)
    (a_law_own : PySem.W.nsIn K mainGlobals "_law_own" = some (some (.ref f_law_own))) (l_law_own : K.lookup f_law_own = some ⟨oc_law_own, od_law_own, .func (PySem.W.fnOf "_law_own" "_law_own" (defArgs s_law_own) (defBody s_law_own) (defScope s_law_own) .none kV_law_own dc_law_own pm_law_own an_law_own cd_law_own ct_law_own), sl_law_own⟩) (c_law_own : PySem.W.codeIn K cd_law_own "_law_own" = true) (k_law_own : PySem.W.keepIn K (.ref f_law_own) = true)
    (a_law : PySem.W.nsIn K mainGlobals "law" = some (some (.ref f_law))) (l_law : K.lookup f_law = some ⟨oc_law, od_law, .func (PySem.W.fnOf "law" "law" (defArgs s_law) (defBody s_law) (defScope s_law) .none kV_law dc_law pm_law an_law cd_law ct_law), sl_law⟩) (c_law : PySem.W.codeIn K cd_law "law" = true) (k_law : PySem.W.keepIn K (.ref f_law) = true)
    (z_ValueError : PySem.W.nsIn K mainGlobals "ValueError" = some none)
    (z_bool : PySem.W.nsIn K mainGlobals "bool" = some none)
    (z_enumerate : PySem.W.nsIn K mainGlobals "enumerate" = some none)
    (z_int : PySem.W.nsIn K mainGlobals "int" = some none)
    (z_isinstance : PySem.W.nsIn K mainGlobals "isinstance" = some none)
    (z_len : PySem.W.nsIn K mainGlobals "len" = some none)
    (z_list : PySem.W.nsIn K mainGlobals "list" = some none)
    (z_max : PySem.W.nsIn K mainGlobals "max" = some none)
    (z_range : PySem.W.nsIn K mainGlobals "range" = some none)
    (z_str : PySem.W.nsIn K mainGlobals "str" = some none)
    (z_sum : PySem.W.nsIn K mainGlobals "sum" = some none)
    (z_tuple : PySem.W.nsIn K mainGlobals "tuple" = some none)
    (z_zip : PySem.W.nsIn K mainGlobals "zip" = some none)
    {C_KinError : Addr} (ag_KinError : PySem.W.nsIn K mainGlobals "KinError" = some (some (.ref C_KinError))) (ak_KinError : PySem.W.keepIn K (.ref C_KinError) = true) (ab_KinError : PySem.W.subIn K (.ref C_KinError) (.type "BaseException") = some true) (at_KinError : PySem.W.typeIn K (.ref C_KinError) = some (.type "type"))
    (ax_KinError : PySem.W.excIn K C_KinError [.type "ValueError", .type "Exception", .type "BaseException", .type "object"] "ValueError.__new__" = true)
    {C_NoRows : Addr} (ag_NoRows : PySem.W.nsIn K mainGlobals "NoRows" = some (some (.ref C_NoRows))) (ak_NoRows : PySem.W.keepIn K (.ref C_NoRows) = true) (ab_NoRows : PySem.W.subIn K (.ref C_NoRows) (.type "BaseException") = some true) (at_NoRows : PySem.W.typeIn K (.ref C_NoRows) = some (.type "type"))
    (ax_NoRows : PySem.W.excIn K C_NoRows [.type "ValueError", .type "Exception", .type "BaseException", .type "object"] "ValueError.__new__" = true)
    {C_Shape : Addr} (ag_Shape : PySem.W.nsIn K mainGlobals "Shape" = some (some (.ref C_Shape))) (ak_Shape : PySem.W.keepIn K (.ref C_Shape) = true) (ab_Shape : PySem.W.subIn K (.ref C_Shape) (.type "BaseException") = some true) (at_Shape : PySem.W.typeIn K (.ref C_Shape) = some (.type "type"))
    (xs0 : PySem.W.specialIn K (.builtin "object.__class__") "__get__" = some (some (.builtin "getset_descriptor.__get__"))) (xs1 : PySem.W.takesIn K (.builtin "object.__class__") = some true)
    (xi_NoRows : PySem.W.isClsIn K C_NoRows = true) (xga_NoRows : PySem.W.findIn K (.ref C_NoRows) "__getattribute__" = some (some (.builtin "BaseException.__getattribute__"))) (xgt_NoRows : PySem.W.findIn K (.ref C_NoRows) "__getattr__" = some none) (xha_NoRows : PySem.W.findIn K (.ref C_NoRows) "__class__" = some (some (.builtin "object.__class__"))) (xhm_NoRows : PySem.W.mroIn K C_NoRows (.type "object") = some true)
    (xi_Shape : PySem.W.isClsIn K C_Shape = true) (xga_Shape : PySem.W.findIn K (.ref C_Shape) "__getattribute__" = some (some (.builtin "BaseException.__getattribute__"))) (xgt_Shape : PySem.W.findIn K (.ref C_Shape) "__getattr__" = some none) (xha_Shape : PySem.W.findIn K (.ref C_Shape) "__class__" = some (some (.builtin "object.__class__"))) (xhm_Shape : PySem.W.mroIn K C_Shape (.type "object") = some true)
    {C_BadFilling : Addr} (ag_BadFilling : PySem.W.nsIn K mainGlobals "BadFilling" = some (some (.ref C_BadFilling))) (at_BadFilling : PySem.W.typeIn K (.ref C_BadFilling) = some (.type "type"))
    {C_BadForm : Addr} (ag_BadForm : PySem.W.nsIn K mainGlobals "BadForm" = some (some (.ref C_BadForm))) (at_BadForm : PySem.W.typeIn K (.ref C_BadForm) = some (.type "type"))
    {C_BadRow : Addr} (ag_BadRow : PySem.W.nsIn K mainGlobals "BadRow" = some (some (.ref C_BadRow))) (at_BadRow : PySem.W.typeIn K (.ref C_BadRow) = some (.type "type"))
    {C_BadWord : Addr} (ag_BadWord : PySem.W.nsIn K mainGlobals "BadWord" = some (some (.ref C_BadWord))) (at_BadWord : PySem.W.typeIn K (.ref C_BadWord) = some (.type "type"))
    (ki_BadFilling : PySem.W.isClsIn K C_BadFilling = true)
    (ki_BadForm : PySem.W.isClsIn K C_BadForm = true)
    (ki_BadRow : PySem.W.isClsIn K C_BadRow = true)
    (ki_BadWord : PySem.W.isClsIn K C_BadWord = true)
    (ki_NoRows : PySem.W.isClsIn K C_NoRows = true)
    (ki_Shape : PySem.W.isClsIn K C_Shape = true)
    (ks_BadFilling : PySem.W.subIn K (.type "NoneType") (.ref C_BadFilling) = some false)
    (ks_BadForm : PySem.W.subIn K (.type "NoneType") (.ref C_BadForm) = some false)
    (ks_BadRow : PySem.W.subIn K (.type "NoneType") (.ref C_BadRow) = some false)
    (ks_BadWord : PySem.W.subIn K (.type "NoneType") (.ref C_BadWord) = some false)
    (ks_NoRows : PySem.W.subIn K (.type "NoneType") (.ref C_NoRows) = some false)
    (ks_Shape : PySem.W.subIn K (.type "NoneType") (.ref C_Shape) = some false)
    (kz_NoRows_BadFilling : PySem.W.subIn K (.ref C_NoRows) (.ref C_BadFilling) = some false) (kd_NoRows_BadFilling : (Value.ref C_NoRows == Value.ref C_BadFilling) = false)
    (kz_NoRows_BadForm : PySem.W.subIn K (.ref C_NoRows) (.ref C_BadForm) = some false) (kd_NoRows_BadForm : (Value.ref C_NoRows == Value.ref C_BadForm) = false)
    (kz_NoRows_BadRow : PySem.W.subIn K (.ref C_NoRows) (.ref C_BadRow) = some false) (kd_NoRows_BadRow : (Value.ref C_NoRows == Value.ref C_BadRow) = false)
    (kz_NoRows_BadWord : PySem.W.subIn K (.ref C_NoRows) (.ref C_BadWord) = some false) (kd_NoRows_BadWord : (Value.ref C_NoRows == Value.ref C_BadWord) = false)
    (kz_NoRows_Shape : PySem.W.subIn K (.ref C_NoRows) (.ref C_Shape) = some false) (kd_NoRows_Shape : (Value.ref C_NoRows == Value.ref C_Shape) = false)
    (kz_NoRows_ValueError : PySem.W.subIn K (.ref C_NoRows) (.type "ValueError") = some true)
    (kz_Shape_BadFilling : PySem.W.subIn K (.ref C_Shape) (.ref C_BadFilling) = some false) (kd_Shape_BadFilling : (Value.ref C_Shape == Value.ref C_BadFilling) = false)
    (kz_Shape_BadForm : PySem.W.subIn K (.ref C_Shape) (.ref C_BadForm) = some false) (kd_Shape_BadForm : (Value.ref C_Shape == Value.ref C_BadForm) = false)
    (kz_Shape_BadRow : PySem.W.subIn K (.ref C_Shape) (.ref C_BadRow) = some false) (kd_Shape_BadRow : (Value.ref C_Shape == Value.ref C_BadRow) = false)
    (kz_Shape_BadWord : PySem.W.subIn K (.ref C_Shape) (.ref C_BadWord) = some false) (kd_Shape_BadWord : (Value.ref C_Shape == Value.ref C_BadWord) = false)
    (kz_Shape_NoRows : PySem.W.subIn K (.ref C_Shape) (.ref C_NoRows) = some false) (kd_Shape_NoRows : (Value.ref C_Shape == Value.ref C_NoRows) = false)
    (kz_Shape_ValueError : PySem.W.subIn K (.ref C_Shape) (.type "ValueError") = some true)
    (hd_Shape : PySem.W.hasDictIn K C_Shape = true)
    (nf_Shape_row : PySem.W.findIn K (.ref C_Shape) "row" = some none)
    {nm_Shape q_Shape : Str} {N_Shape : Addr} {bs_Shape bm_Shape : List Value} {sn_Shape : List Str} {sb_Shape : List Value} {aa_Shape : Bool} {co_Shape : Option Bool} {dd_Shape : Option Addr} {k0_Shape k1_Shape k2_Shape k3_Shape k5_Shape : Option Value} (lC_Shape : K.lookup C_Shape = some (excClassObj nm_Shape q_Shape C_Shape N_Shape bs_Shape bm_Shape true sn_Shape sb_Shape aa_Shape co_Shape dd_Shape k0_Shape k1_Shape k2_Shape k3_Shape k5_Shape "ValueError.__new__")) (rv_Shape : PySem.HandSPX.refsVE bm_Shape = true) (sa_Shape : PySem.W.findIn K (.ref C_Shape) "__setattr__" = some (some (.builtin "object.__setattr__")))
    {fi_Shape : Addr} {od_Shape an_Shape : Option Addr} {sl_Shape : Array (Option Value)} {oc_Shape kV_Shape dc_Shape pm_Shape cd_Shape ct_Shape : Value} (ii_Shape : PySem.W.findIn K (.ref C_Shape) "__init__" = some (some (.ref fi_Shape))) (ti_Shape : PySem.W.typeIn K (.ref fi_Shape) = some (.type "function")) (l_Shape : K.lookup fi_Shape = some ⟨oc_Shape, od_Shape, .func (PySem.W.fnOf "__init__" "Shape.__init__" (defArgs s_init_Shape) (defBody s_init_Shape) (defScope s_init_Shape) .none kV_Shape dc_Shape pm_Shape an_Shape cd_Shape ct_Shape), sl_Shape⟩) (cc_Shape : PySem.W.codeIn K cd_Shape "Shape.__init__" = true) (ck_Shape : PySem.W.keepIn K (.ref fi_Shape) = true)
    (ai_KinError : PySem.W.isClsIn K C_KinError = true)
    (ae_NoRows_KinError : PySem.W.subIn K (.ref C_NoRows) (.ref C_KinError) = some true)
    (ae_Shape_KinError : PySem.W.subIn K (.ref C_Shape) (.ref C_KinError) = some true) :
    ∃ fd : FuncData, (∀ (s : Shared) (v : Value), BindsTo s fd ⟨[v], []⟩ [("_law_script", v)]) ∧ ∀ base : Heap, K.In base → base.Ns mainGlobals mg → FnOk l.prog w K mg base (L2.CX l.prog w) 6 fa fd ["_law_script"] (lower K (fun _ => 0) S_law) := by
  have e := hfa.symm.trans (PySem.W.mg_of X G a_law)
  have e : f_law = fa := by
    injection e with e
    injection e with e
    exact e.symm
  subst e
  have F_items_of := fun_mk (st := s_items_of) l_items_of c_items_of k_items_of
  have b_items_of := F_items_of.binds (ps := ["rows"]) fun _ _ _ _ _ _ us hl => match us, hl with | [_], _ => rfl
  have F_need_shape := fun_mk (st := s_need_shape) l_need_shape c_need_shape k_need_shape
  have b_need_shape := F_need_shape.binds (ps := ["forms"]) fun _ _ _ _ _ _ us hl => match us, hl with | [_], _ => rfl
  have F_in_rows := fun_mk (st := s_in_rows) l_in_rows c_in_rows k_in_rows
  have b_in_rows := F_in_rows.binds (ps := ["items", "like"]) fun _ _ _ _ _ _ us hl => match us, hl with | [_, _], _ => rfl
  have F_opened := fun_mk (st := s_opened) l_opened c_opened k_opened
  have b_opened := F_opened.binds (ps := ["words", "keys"]) fun _ _ _ _ _ _ us hl => match us, hl with | [_, _], _ => rfl
  have F_form_of := fun_mk (st := s_form_of) l_form_of c_form_of k_form_of
  have b_form_of := F_form_of.binds (ps := ["stretches"]) fun _ _ _ _ _ _ us hl => match us, hl with | [_], _ => rfl
  have F_law_begin := fun_mk (st := s_law_begin) l_law_begin c_law_begin k_law_begin
  have b_law_begin := F_law_begin.binds (ps := ["_law_script"]) fun _ _ _ _ _ _ us hl => match us, hl with | [_], _ => rfl
  have F_law_more := fun_mk (st := s_law_more) l_law_more c_law_more k_law_more
  have b_law_more := F_law_more.binds (ps := ["_law_state"]) fun _ _ _ _ _ _ us hl => match us, hl with | [_], _ => rfl
  have F_law_next := fun_mk (st := s_law_next) l_law_next c_law_next k_law_next
  have b_law_next := F_law_next.binds (ps := ["_law_state", "_law_many"]) fun _ _ _ _ _ _ us hl => match us, hl with | [_, _], _ => rfl
  have F_law_pick := fun_mk (st := s_law_pick) l_law_pick c_law_pick k_law_pick
  have b_law_pick := F_law_pick.binds (ps := ["_law_state", "_law_some"]) fun _ _ _ _ _ _ us hl => match us, hl with | [_, _], _ => rfl
  have F_law_wordf := fun_mk (st := s_law_wordf) l_law_wordf c_law_wordf k_law_wordf
  have b_law_wordf := F_law_wordf.binds (ps := ["_law_state"]) fun _ _ _ _ _ _ us hl => match us, hl with | [_], _ => rfl
  have F_law_pool := fun_mk (st := s_law_pool) l_law_pool c_law_pool k_law_pool
  have b_law_pool := F_law_pool.binds (ps := ["_law_state"]) fun _ _ _ _ _ _ us hl => match us, hl with | [_], _ => rfl
  have F_law_shape := fun_mk (st := s_law_shape) l_law_shape c_law_shape k_law_shape
  have b_law_shape := F_law_shape.binds (ps := ["_law_state"]) fun _ _ _ _ _ _ us hl => match us, hl with | [_], _ => rfl
  have F_law_in_rows := fun_mk (st := s_law_in_rows) l_law_in_rows c_law_in_rows k_law_in_rows
  have b_law_in_rows := F_law_in_rows.binds (ps := ["_law_items_here", "_law_shape_here"]) fun _ _ _ _ _ _ us hl => match us, hl with | [_, _], _ => rfl
  have F_law_copyf := fun_mk (st := s_law_copyf) l_law_copyf c_law_copyf k_law_copyf
  have b_law_copyf := F_law_copyf.binds (ps := ["_law_rows"]) fun _ _ _ _ _ _ us hl => match us, hl with | [_], _ => rfl
  have F_law_items := fun_mk (st := s_law_items) l_law_items c_law_items k_law_items
  have b_law_items := F_law_items.binds (ps := ["_law_rows"]) fun _ _ _ _ _ _ us hl => match us, hl with | [_], _ => rfl
  have F_law_shape_of := fun_mk (st := s_law_shape_of) l_law_shape_of c_law_shape_of k_law_shape_of
  have b_law_shape_of := F_law_shape_of.binds (ps := ["_law_rows"]) fun _ _ _ _ _ _ us hl => match us, hl with | [_], _ => rfl
  have F_law_reshaped := fun_mk (st := s_law_reshaped) l_law_reshaped c_law_reshaped k_law_reshaped
  have b_law_reshaped := F_law_reshaped.binds (ps := ["_law_way", "_law_place", "_law_rows"]) fun _ _ _ _ _ _ us hl => match us, hl with | [_, _, _], _ => rfl
  have F_law_hole := fun_mk (st := s_law_hole) l_law_hole c_law_hole k_law_hole
  have b_law_hole := F_law_hole.binds (ps := ["_law_item"]) fun _ _ _ _ _ _ us hl => match us, hl with | [_], _ => rfl
  have F_law_is_form := fun_mk (st := s_law_is_form) l_law_is_form c_law_is_form k_law_is_form
  have b_law_is_form := F_law_is_form.binds (ps := ["_law_thing", "_law_shape_here"]) fun _ _ _ _ _ _ us hl => match us, hl with | [_, _], _ => rfl
  have F_law_classes := fun_mk (st := s_law_classes) l_law_classes c_law_classes k_law_classes
  have b_law_classes := F_law_classes.binds (ps := ["_law_error"]) fun _ _ _ _ _ _ us hl => match us, hl with | [_], _ => rfl
  have F_law_asked := fun_mk (st := s_law_asked) l_law_asked c_law_asked k_law_asked
  have b_law_asked := F_law_asked.binds (ps := ["_law_given"]) fun _ _ _ _ _ _ us hl => match us, hl with | [_], _ => rfl
  have F_law_stretchw := fun_mk (st := s_law_stretchw) l_law_stretchw c_law_stretchw k_law_stretchw
  have b_law_stretchw := F_law_stretchw.binds (ps := ["_law_state", "_law_shape_here", "_law_pool_here"]) fun _ _ _ _ _ _ us hl => match us, hl with | [_, _, _], _ => rfl
  have F_law_right := fun_mk (st := s_law_right) l_law_right c_law_right k_law_right
  have b_law_right := F_law_right.binds (ps := ["_law_found", "_law_given"]) fun _ _ _ _ _ _ us hl => match us, hl with | [_, _], _ => rfl
  have F_law_unlike := fun_mk (st := s_law_unlike) l_law_unlike c_law_unlike k_law_unlike
  have b_law_unlike := F_law_unlike.binds (ps := ["_law_some"]) fun _ _ _ _ _ _ us hl => match us, hl with | [_], _ => rfl
  have F_law_own := fun_mk (st := s_law_own) l_law_own c_law_own k_law_own
  have b_law_own := F_law_own.binds (ps := ["_law_found"]) fun _ _ _ _ _ _ us hl => match us, hl with | [_], _ => rfl
  have F_law := fun_mk (st := s_law) l_law c_law k_law
  have b_law := F_law.binds (ps := ["_law_script"]) fun _ _ _ _ _ _ us hl => match us, hl with | [_], _ => rfl
  have Fi_Shape := fun_mk (st := s_init_Shape) l_Shape cc_Shape ck_Shape
  have bi_Shape := Fi_Shape.binds (ps := ["self", "row"]) fun _ _ _ _ _ _ us hl => match us, hl with | [_, _], _ => rfl
  have T : { T : Txt K mg (fun s => (List.lookup s [("KinError", C_KinError), ("NoRows", C_NoRows), ("Shape", C_Shape)]).getD 0) // T.f_law = f_law ∧ T.fd_law = PySem.W.fnOf "law" "law" (defArgs s_law) (defBody s_law) (defScope s_law) .none kV_law dc_law pm_law an_law cd_law ct_law } := ⟨{ f_items_of := f_items_of, fd_items_of := _, F_items_of := F_items_of, m_items_of := PySem.W.mg_of X G a_items_of, b_items_of := b_items_of, f_need_shape := f_need_shape, fd_need_shape := _, F_need_shape := F_need_shape, m_need_shape := PySem.W.mg_of X G a_need_shape, b_need_shape := b_need_shape, f_in_rows := f_in_rows, fd_in_rows := _, F_in_rows := F_in_rows, m_in_rows := PySem.W.mg_of X G a_in_rows, b_in_rows := b_in_rows, f_opened := f_opened, fd_opened := _, F_opened := F_opened, m_opened := PySem.W.mg_of X G a_opened, b_opened := b_opened, f_form_of := f_form_of, fd_form_of := _, F_form_of := F_form_of, m_form_of := PySem.W.mg_of X G a_form_of, b_form_of := b_form_of, f_law_begin := f_law_begin, fd_law_begin := _, F_law_begin := F_law_begin, m_law_begin := PySem.W.mg_of X G a_law_begin, b_law_begin := b_law_begin, f_law_more := f_law_more, fd_law_more := _, F_law_more := F_law_more, m_law_more := PySem.W.mg_of X G a_law_more, b_law_more := b_law_more, f_law_next := f_law_next, fd_law_next := _, F_law_next := F_law_next, m_law_next := PySem.W.mg_of X G a_law_next, b_law_next := b_law_next, f_law_pick := f_law_pick, fd_law_pick := _, F_law_pick := F_law_pick, m_law_pick := PySem.W.mg_of X G a_law_pick, b_law_pick := b_law_pick, f_law_wordf := f_law_wordf, fd_law_wordf := _, F_law_wordf := F_law_wordf, m_law_wordf := PySem.W.mg_of X G a_law_wordf, b_law_wordf := b_law_wordf, f_law_pool := f_law_pool, fd_law_pool := _, F_law_pool := F_law_pool, m_law_pool := PySem.W.mg_of X G a_law_pool, b_law_pool := b_law_pool, f_law_shape := f_law_shape, fd_law_shape := _, F_law_shape := F_law_shape, m_law_shape := PySem.W.mg_of X G a_law_shape, b_law_shape := b_law_shape, f_law_in_rows := f_law_in_rows, fd_law_in_rows := _, F_law_in_rows := F_law_in_rows, m_law_in_rows := PySem.W.mg_of X G a_law_in_rows, b_law_in_rows := b_law_in_rows, f_law_copyf := f_law_copyf, fd_law_copyf := _, F_law_copyf := F_law_copyf, m_law_copyf := PySem.W.mg_of X G a_law_copyf, b_law_copyf := b_law_copyf, f_law_items := f_law_items, fd_law_items := _, F_law_items := F_law_items, m_law_items := PySem.W.mg_of X G a_law_items, b_law_items := b_law_items, f_law_shape_of := f_law_shape_of, fd_law_shape_of := _, F_law_shape_of := F_law_shape_of, m_law_shape_of := PySem.W.mg_of X G a_law_shape_of, b_law_shape_of := b_law_shape_of, f_law_reshaped := f_law_reshaped, fd_law_reshaped := _, F_law_reshaped := F_law_reshaped, m_law_reshaped := PySem.W.mg_of X G a_law_reshaped, b_law_reshaped := b_law_reshaped, f_law_hole := f_law_hole, fd_law_hole := _, F_law_hole := F_law_hole, m_law_hole := PySem.W.mg_of X G a_law_hole, b_law_hole := b_law_hole, f_law_is_form := f_law_is_form, fd_law_is_form := _, F_law_is_form := F_law_is_form, m_law_is_form := PySem.W.mg_of X G a_law_is_form, b_law_is_form := b_law_is_form, f_law_classes := f_law_classes, fd_law_classes := _, F_law_classes := F_law_classes, m_law_classes := PySem.W.mg_of X G a_law_classes, b_law_classes := b_law_classes, f_law_asked := f_law_asked, fd_law_asked := _, F_law_asked := F_law_asked, m_law_asked := PySem.W.mg_of X G a_law_asked, b_law_asked := b_law_asked, f_law_stretchw := f_law_stretchw, fd_law_stretchw := _, F_law_stretchw := F_law_stretchw, m_law_stretchw := PySem.W.mg_of X G a_law_stretchw, b_law_stretchw := b_law_stretchw, f_law_right := f_law_right, fd_law_right := _, F_law_right := F_law_right, m_law_right := PySem.W.mg_of X G a_law_right, b_law_right := b_law_right, f_law_unlike := f_law_unlike, fd_law_unlike := _, F_law_unlike := F_law_unlike, m_law_unlike := PySem.W.mg_of X G a_law_unlike, b_law_unlike := b_law_unlike, f_law_own := f_law_own, fd_law_own := _, F_law_own := F_law_own, m_law_own := PySem.W.mg_of X G a_law_own, b_law_own := b_law_own, f_law := f_law, fd_law := _, F_law := F_law, m_law := PySem.W.mg_of X G a_law, b_law := b_law, g_0_stretches_form_of := kb_of g_0_stretches_form_of_ok (fun s us ws hl => by have hh := gP_len hl; obtain rfl := ll0 hh.1; obtain ⟨b0, rfl⟩ := ll1 hh.2; exact BindsTo.of_eq rfl), n_ValueError := PySem.W.mg_none_of X G z_ValueError, n_bool := PySem.W.mg_none_of X G z_bool, n_enumerate := PySem.W.mg_none_of X G z_enumerate, n_int := PySem.W.mg_none_of X G z_int, n_isinstance := PySem.W.mg_none_of X G z_isinstance, n_len := PySem.W.mg_none_of X G z_len, n_list := PySem.W.mg_none_of X G z_list, n_max := PySem.W.mg_none_of X G z_max, n_range := PySem.W.mg_none_of X G z_range, n_str := PySem.W.mg_none_of X G z_str, n_sum := PySem.W.mg_none_of X G z_sum, n_tuple := PySem.W.mg_none_of X G z_tuple, n_zip := PySem.W.mg_none_of X G z_zip, C_KinError := C_KinError, c_KinError := rfl, g_KinError := PySem.W.mg_of X G ag_KinError, kc_KinError := ak_KinError, sb_KinError := ab_KinError, ty_KinError := at_KinError, x_KinError := ax_KinError, C_NoRows := C_NoRows, c_NoRows := rfl, g_NoRows := PySem.W.mg_of X G ag_NoRows, kc_NoRows := ak_NoRows, sb_NoRows := ab_NoRows, ty_NoRows := at_NoRows, x_NoRows := ax_NoRows, C_Shape := C_Shape, c_Shape := rfl, g_Shape := PySem.W.mg_of X G ag_Shape, kc_Shape := ak_Shape, sb_Shape := ab_Shape, ty_Shape := at_Shape, e_NoRows_KinError := exm_mk ai_KinError ab_KinError at_KinError ae_NoRows_KinError, e_Shape_KinError := exm_mk ai_KinError ab_KinError at_KinError ae_Shape_KinError, ng_NoRows := ag_NoRows, ng_Shape := ag_Shape, xd_NoRows := ⟨xi_NoRows, xga_NoRows, xgt_NoRows, ab_NoRows, xha_NoRows, xs0, xs1, xhm_NoRows⟩, xd_Shape := ⟨xi_Shape, xga_Shape, xgt_Shape, ab_Shape, xha_Shape, xs0, xs1, xhm_Shape⟩, C_BadFilling := C_BadFilling, g_BadFilling := PySem.W.mg_of X G ag_BadFilling, C_BadForm := C_BadForm, g_BadForm := PySem.W.mg_of X G ag_BadForm, C_BadRow := C_BadRow, g_BadRow := PySem.W.mg_of X G ag_BadRow, C_BadWord := C_BadWord, g_BadWord := PySem.W.mg_of X G ag_BadWord, kq_BadFilling := ⟨kit_mk rfl ki_BadFilling at_BadFilling ks_BadFilling, kit_mk kd_NoRows_BadFilling ki_BadFilling at_BadFilling kz_NoRows_BadFilling, kit_mk kd_Shape_BadFilling ki_BadFilling at_BadFilling kz_Shape_BadFilling⟩, kq_BadForm := ⟨kit_mk rfl ki_BadForm at_BadForm ks_BadForm, kit_mk kd_NoRows_BadForm ki_BadForm at_BadForm kz_NoRows_BadForm, kit_mk kd_Shape_BadForm ki_BadForm at_BadForm kz_Shape_BadForm⟩, kq_BadRow := ⟨kit_mk rfl ki_BadRow at_BadRow ks_BadRow, kit_mk kd_NoRows_BadRow ki_BadRow at_BadRow kz_NoRows_BadRow, kit_mk kd_Shape_BadRow ki_BadRow at_BadRow kz_Shape_BadRow⟩, kq_BadWord := ⟨kit_mk rfl ki_BadWord at_BadWord ks_BadWord, kit_mk kd_NoRows_BadWord ki_BadWord at_BadWord kz_NoRows_BadWord, kit_mk kd_Shape_BadWord ki_BadWord at_BadWord kz_Shape_BadWord⟩, kq_NoRows := ⟨kit_mk rfl ki_NoRows at_NoRows ks_NoRows, kit_self, kit_mk kd_Shape_NoRows ki_NoRows at_NoRows kz_Shape_NoRows⟩, kq_Shape := ⟨kit_mk rfl ki_Shape at_Shape ks_Shape, kit_mk kd_NoRows_Shape ki_Shape at_Shape kz_NoRows_Shape, kit_self⟩, kq_ValueError := ⟨kit_ty (by decide +kernel), kit_bt (by decide +kernel) kz_NoRows_ValueError, kit_bt (by decide +kernel) kz_Shape_ValueError⟩, hd_Shape := hd_Shape, nf_Shape_row := nf_Shape_row, oe_Shape := oex_mk lC_Shape rv_Shape sa_Shape ab_Shape at_Shape ak_Shape, fi_Shape := fi_Shape, fdi_Shape := _, ii_Shape := ii_Shape, ti_Shape := ti_Shape, Fi_Shape := Fi_Shape, bi_Shape := bi_Shape }, rfl, rfl⟩
  obtain ⟨T, e1, e2⟩ := T
  refine ⟨PySem.W.fnOf "law" "law" (defArgs s_law) (defBody s_law) (defScope s_law) .none kV_law dc_law pm_law an_law cd_law ct_law, fun s v => .of_eq rfl, fun base _ _ => ?_⟩
  rw [← e1, ← e2]
  have G_items_of := ok_items_of (P := l.prog) (w := w) (base := base) (cn := (fun s => (List.lookup s [("KinError", C_KinError), ("NoRows", C_NoRows), ("Shape", C_Shape)]).getD 0)) T 
  have G_need_shape := ok_need_shape (P := l.prog) (w := w) (base := base) (cn := (fun s => (List.lookup s [("KinError", C_KinError), ("NoRows", C_NoRows), ("Shape", C_Shape)]).getD 0)) T 
  have G_in_rows := ok_in_rows (P := l.prog) (w := w) (base := base) (cn := (fun s => (List.lookup s [("KinError", C_KinError), ("NoRows", C_NoRows), ("Shape", C_Shape)]).getD 0)) T 
  have G_opened := ok_opened (P := l.prog) (w := w) (base := base) (cn := (fun s => (List.lookup s [("KinError", C_KinError), ("NoRows", C_NoRows), ("Shape", C_Shape)]).getD 0)) T 
  have G_form_of := ok_form_of (P := l.prog) (w := w) (base := base) (cn := (fun s => (List.lookup s [("KinError", C_KinError), ("NoRows", C_NoRows), ("Shape", C_Shape)]).getD 0)) T G_need_shape G_in_rows G_items_of G_opened
  have G_law_begin := ok_law_begin (P := l.prog) (w := w) (base := base) (cn := (fun s => (List.lookup s [("KinError", C_KinError), ("NoRows", C_NoRows), ("Shape", C_Shape)]).getD 0)) T 
  have G_law_more := ok_law_more (P := l.prog) (w := w) (base := base) (cn := (fun s => (List.lookup s [("KinError", C_KinError), ("NoRows", C_NoRows), ("Shape", C_Shape)]).getD 0)) T 
  have G_law_next := ok_law_next (P := l.prog) (w := w) (base := base) (cn := (fun s => (List.lookup s [("KinError", C_KinError), ("NoRows", C_NoRows), ("Shape", C_Shape)]).getD 0)) T G_law_more
  have G_law_pick := ok_law_pick (P := l.prog) (w := w) (base := base) (cn := (fun s => (List.lookup s [("KinError", C_KinError), ("NoRows", C_NoRows), ("Shape", C_Shape)]).getD 0)) T G_law_next
  have G_law_wordf := ok_law_wordf (P := l.prog) (w := w) (base := base) (cn := (fun s => (List.lookup s [("KinError", C_KinError), ("NoRows", C_NoRows), ("Shape", C_Shape)]).getD 0)) T G_law_next G_law_pick
  have G_law_pool := ok_law_pool (P := l.prog) (w := w) (base := base) (cn := (fun s => (List.lookup s [("KinError", C_KinError), ("NoRows", C_NoRows), ("Shape", C_Shape)]).getD 0)) T G_law_next G_law_wordf
  have G_law_shape := ok_law_shape (P := l.prog) (w := w) (base := base) (cn := (fun s => (List.lookup s [("KinError", C_KinError), ("NoRows", C_NoRows), ("Shape", C_Shape)]).getD 0)) T G_law_next
  have G_law_in_rows := ok_law_in_rows (P := l.prog) (w := w) (base := base) (cn := (fun s => (List.lookup s [("KinError", C_KinError), ("NoRows", C_NoRows), ("Shape", C_Shape)]).getD 0)) T 
  have G_law_copyf := ok_law_copyf (P := l.prog) (w := w) (base := base) (cn := (fun s => (List.lookup s [("KinError", C_KinError), ("NoRows", C_NoRows), ("Shape", C_Shape)]).getD 0)) T 
  have G_law_items := ok_law_items (P := l.prog) (w := w) (base := base) (cn := (fun s => (List.lookup s [("KinError", C_KinError), ("NoRows", C_NoRows), ("Shape", C_Shape)]).getD 0)) T 
  have G_law_shape_of := ok_law_shape_of (P := l.prog) (w := w) (base := base) (cn := (fun s => (List.lookup s [("KinError", C_KinError), ("NoRows", C_NoRows), ("Shape", C_Shape)]).getD 0)) T 
  have G_law_reshaped := ok_law_reshaped (P := l.prog) (w := w) (base := base) (cn := (fun s => (List.lookup s [("KinError", C_KinError), ("NoRows", C_NoRows), ("Shape", C_Shape)]).getD 0)) T 
  have G_law_hole := ok_law_hole (P := l.prog) (w := w) (base := base) (cn := (fun s => (List.lookup s [("KinError", C_KinError), ("NoRows", C_NoRows), ("Shape", C_Shape)]).getD 0)) T 
  have G_law_is_form := ok_law_is_form (P := l.prog) (w := w) (base := base) (cn := (fun s => (List.lookup s [("KinError", C_KinError), ("NoRows", C_NoRows), ("Shape", C_Shape)]).getD 0)) T G_law_items G_law_hole
  have G_law_classes := ok_law_classes (P := l.prog) (w := w) (base := base) (cn := (fun s => (List.lookup s [("KinError", C_KinError), ("NoRows", C_NoRows), ("Shape", C_Shape)]).getD 0)) T 
  have G_law_asked := ok_law_asked (P := l.prog) (w := w) (base := base) (cn := (fun s => (List.lookup s [("KinError", C_KinError), ("NoRows", C_NoRows), ("Shape", C_Shape)]).getD 0)) T G_form_of G_law_classes
  have G_law_stretchw := ok_law_stretchw (P := l.prog) (w := w) (base := base) (cn := (fun s => (List.lookup s [("KinError", C_KinError), ("NoRows", C_NoRows), ("Shape", C_Shape)]).getD 0)) T G_law_in_rows G_law_pick
  have G_law_right := ok_law_right (P := l.prog) (w := w) (base := base) (cn := (fun s => (List.lookup s [("KinError", C_KinError), ("NoRows", C_NoRows), ("Shape", C_Shape)]).getD 0)) T G_law_items G_law_is_form G_law_shape_of G_law_hole
  have G_law_unlike := ok_law_unlike (P := l.prog) (w := w) (base := base) (cn := (fun s => (List.lookup s [("KinError", C_KinError), ("NoRows", C_NoRows), ("Shape", C_Shape)]).getD 0)) T 
  have G_law_own := ok_law_own (P := l.prog) (w := w) (base := base) (cn := (fun s => (List.lookup s [("KinError", C_KinError), ("NoRows", C_NoRows), ("Shape", C_Shape)]).getD 0)) T G_law_copyf
  have G_law := ok_law (P := l.prog) (w := w) (base := base) (cn := (fun s => (List.lookup s [("KinError", C_KinError), ("NoRows", C_NoRows), ("Shape", C_Shape)]).getD 0)) T G_law_begin G_law_next G_law_pick G_law_shape G_law_pool G_law_asked G_law_unlike G_law_stretchw G_law_reshaped G_law_copyf G_law_own G_law_shape_of G_law_right
  exact fn_cn (fun _ _ _ q => q) G_law
theorem walk_end {K : PySem.W.Frag} {cn : String → Addr} {H : Hp} {a : Addr} {ns : List Int} (hn : ns.length ≤ 63) (hs : SqL K H a (ns.map V.int)) : lower K cn S_law [.ref a] H (fun v _ => v = .bl true) (fun _ _ _ => False) := by
  refine ⟨H, [.n false .lok (ns.map fun i => .p (.int i))], [], fun r _ => r = .p (.bl true), fun _ _ => False, fun _ _ z => z, RpL.one (Rp.f hs ?_), ⟨ns, rfl, hn, fun _ => rfl⟩, ?_, fun x ds' cls dx G' H' F' z => z.elim⟩
  · have := RpL.of_prims (K := K) (G := H) (H := H) (xs := ns.map V.int)
    rwa [List.map_map] at this
  · rintro r ds' v G' H' Fr F' rfl _ _ _ rr _
    cases rr
    rfl
end Lw
open PySem PySem.W PyProof.Rows
set_option maxRecDepth 100000 in
set_option maxHeartbeats 0 in
theorem PySem.Challenge.cw_kinrows_k42_forms_of_stretches_holds : PySem.Challenge.rw_kinrows_k42_forms_of_stretches.Holds := by
  w_on; o_law; k_head; (case hw => w_witness2)
  k_fill
  refine L2.walk_of (l := PySem.Challenge.rw_kinrows_k42_forms_of_stretches) (n := 63) (k := 6) (x := "_law_script") (CX := fun w => L2.CX PySem.Challenge.rw_kinrows_k42_forms_of_stretches.prog w) (sp := fun w => DL.lower _ (fun _ => 0) Lw.S_law) rfl (by decide) rfl ⟨rfl, by decide, by decide⟩ (fun w h Y => PySem.W.kIn_of Y) ?F (fun _ _ a ns hl _ hS => Lw.walk_end hl hS) (fun _ _ _ _ _ h => DL.cx_no h)
  case F =>
    intro w mg fa h KX G hmg
    refine' Lw.all_mk KX G hmg ?a_items_of ?l_items_of ?c_items_of ?k_items_of ?a_need_shape ?l_need_shape ?c_need_shape ?k_need_shape ?a_in_rows ?l_in_rows ?c_in_rows ?k_in_rows ?a_opened ?l_opened ?c_opened ?k_opened ?a_form_of ?l_form_of ?c_form_of ?k_form_of ?a_law_begin ?l_law_begin ?c_law_begin ?k_law_begin ?a_law_more ?l_law_more ?c_law_more ?k_law_more ?a_law_next ?l_law_next ?c_law_next ?k_law_next ?a_law_pick ?l_law_pick ?c_law_pick ?k_law_pick ?a_law_wordf ?l_law_wordf ?c_law_wordf ?k_law_wordf ?a_law_pool ?l_law_pool ?c_law_pool ?k_law_pool ?a_law_shape ?l_law_shape ?c_law_shape ?k_law_shape ?a_law_in_rows ?l_law_in_rows ?c_law_in_rows ?k_law_in_rows ?a_law_copyf ?l_law_copyf ?c_law_copyf ?k_law_copyf ?a_law_items ?l_law_items ?c_law_items ?k_law_items ?a_law_shape_of ?l_law_shape_of ?c_law_shape_of ?k_law_shape_of ?a_law_reshaped ?l_law_reshaped ?c_law_reshaped ?k_law_reshaped ?a_law_hole ?l_law_hole ?c_law_hole ?k_law_hole ?a_law_is_form ?l_law_is_form ?c_law_is_form ?k_law_is_form ?a_law_classes ?l_law_classes ?c_law_classes ?k_law_classes ?a_law_asked ?l_law_asked ?c_law_asked ?k_law_asked ?a_law_stretchw ?l_law_stretchw ?c_law_stretchw ?k_law_stretchw ?a_law_right ?l_law_right ?c_law_right ?k_law_right ?a_law_unlike ?l_law_unlike ?c_law_unlike ?k_law_unlike ?a_law_own ?l_law_own ?c_law_own ?k_law_own ?a_law ?l_law ?c_law ?k_law ?z_ValueError ?z_bool ?z_enumerate ?z_int ?z_isinstance ?z_len ?z_list ?z_max ?z_range ?z_str ?z_sum ?z_tuple ?z_zip ?ag_KinError ?ak_KinError ?ab_KinError ?at_KinError ?ax_KinError ?ag_NoRows ?ak_NoRows ?ab_NoRows ?at_NoRows ?ax_NoRows ?ag_Shape ?ak_Shape ?ab_Shape ?at_Shape ?xs0 ?xs1 ?xi_NoRows ?xga_NoRows ?xgt_NoRows ?xha_NoRows ?xhm_NoRows ?xi_Shape ?xga_Shape ?xgt_Shape ?xha_Shape ?xhm_Shape ?ag_BadFilling ?at_BadFilling ?ag_BadForm ?at_BadForm ?ag_BadRow ?at_BadRow ?ag_BadWord ?at_BadWord ?ki_BadFilling ?ki_BadForm ?ki_BadRow ?ki_BadWord ?ki_NoRows ?ki_Shape ?ks_BadFilling ?ks_BadForm ?ks_BadRow ?ks_BadWord ?ks_NoRows ?ks_Shape ?kz_NoRows_BadFilling ?kd_NoRows_BadFilling ?kz_NoRows_BadForm ?kd_NoRows_BadForm ?kz_NoRows_BadRow ?kd_NoRows_BadRow ?kz_NoRows_BadWord ?kd_NoRows_BadWord ?kz_NoRows_Shape ?kd_NoRows_Shape ?kz_NoRows_ValueError ?kz_Shape_BadFilling ?kd_Shape_BadFilling ?kz_Shape_BadForm ?kd_Shape_BadForm ?kz_Shape_BadRow ?kd_Shape_BadRow ?kz_Shape_BadWord ?kd_Shape_BadWord ?kz_Shape_NoRows ?kd_Shape_NoRows ?kz_Shape_ValueError ?hd_Shape ?nf_Shape_row ?lC_Shape ?rv_Shape ?sa_Shape ?ii_Shape ?ti_Shape ?l_Shape ?cc_Shape ?ck_Shape ?ai_KinError ?ae_NoRows_KinError ?ae_Shape_KinError
    (case a_items_of => k_is); (case l_items_of => k_is); (case c_items_of => k_is); (case k_items_of => k_is); (case a_need_shape => k_is); (case l_need_shape => k_is); (case c_need_shape => k_is); (case k_need_shape => k_is); (case a_in_rows => k_is); (case l_in_rows => k_is); (case c_in_rows => k_is); (case k_in_rows => k_is); (case a_opened => k_is); (case l_opened => k_is); (case c_opened => k_is); (case k_opened => k_is); (case a_form_of => k_is); (case l_form_of => k_is); (case c_form_of => k_is); (case k_form_of => k_is); (case a_law_begin => k_is); (case l_law_begin => k_is); (case c_law_begin => k_is); (case k_law_begin => k_is); (case a_law_more => k_is); (case l_law_more => k_is); (case c_law_more => k_is); (case k_law_more => k_is); (case a_law_next => k_is); (case l_law_next => k_is); (case c_law_next => k_is); (case k_law_next => k_is); (case a_law_pick => k_is); (case l_law_pick => k_is); (case c_law_pick => k_is); (case k_law_pick => k_is); (case a_law_wordf => k_is); (case l_law_wordf => k_is); (case c_law_wordf => k_is); (case k_law_wordf => k_is); (case a_law_pool => k_is); (case l_law_pool => k_is); (case c_law_pool => k_is); (case k_law_pool => k_is); (case a_law_shape => k_is); (case l_law_shape => k_is); (case c_law_shape => k_is); (case k_law_shape => k_is); (case a_law_in_rows => k_is); (case l_law_in_rows => k_is); (case c_law_in_rows => k_is); (case k_law_in_rows => k_is); (case a_law_copyf => k_is); (case l_law_copyf => k_is); (case c_law_copyf => k_is); (case k_law_copyf => k_is); (case a_law_items => k_is); (case l_law_items => k_is); (case c_law_items => k_is); (case k_law_items => k_is); (case a_law_shape_of => k_is); (case l_law_shape_of => k_is); (case c_law_shape_of => k_is); (case k_law_shape_of => k_is); (case a_law_reshaped => k_is); (case l_law_reshaped => k_is); (case c_law_reshaped => k_is); (case k_law_reshaped => k_is); (case a_law_hole => k_is); (case l_law_hole => k_is); (case c_law_hole => k_is); (case k_law_hole => k_is); (case a_law_is_form => k_is); (case l_law_is_form => k_is); (case c_law_is_form => k_is); (case k_law_is_form => k_is); (case a_law_classes => k_is); (case l_law_classes => k_is); (case c_law_classes => k_is); (case k_law_classes => k_is); (case a_law_asked => k_is); (case l_law_asked => k_is); (case c_law_asked => k_is); (case k_law_asked => k_is); (case a_law_stretchw => k_is); (case l_law_stretchw => k_is); (case c_law_stretchw => k_is); (case k_law_stretchw => k_is); (case a_law_right => k_is); (case l_law_right => k_is); (case c_law_right => k_is); (case k_law_right => k_is); (case a_law_unlike => k_is); (case l_law_unlike => k_is); (case c_law_unlike => k_is); (case k_law_unlike => k_is); (case a_law_own => k_is); (case l_law_own => k_is); (case c_law_own => k_is); (case k_law_own => k_is); (case a_law => k_is); (case l_law => k_is); (case c_law => k_is); (case k_law => k_is); (case z_ValueError => k_is); (case z_bool => k_is); (case z_enumerate => k_is); (case z_int => k_is); (case z_isinstance => k_is); (case z_len => k_is); (case z_list => k_is); (case z_max => k_is); (case z_range => k_is); (case z_str => k_is); (case z_sum => k_is); (case z_tuple => k_is); (case z_zip => k_is); (case ag_KinError => k_is); (case ak_KinError => k_is); (case ab_KinError => k_is); (case at_KinError => k_is); (case ax_KinError => k_exc); (case ag_NoRows => k_is); (case ak_NoRows => k_is); (case ab_NoRows => k_is); (case at_NoRows => k_is); (case ax_NoRows => k_exc); (case ag_Shape => k_is); (case ak_Shape => k_is); (case ab_Shape => k_is); (case at_Shape => k_is); (case xs0 => k_is); (case xs1 => k_is); (case xi_NoRows => k_is); (case xga_NoRows => k_is); (case xgt_NoRows => k_is); (case xha_NoRows => k_is); (case xhm_NoRows => k_is); (case xi_Shape => k_is); (case xga_Shape => k_is); (case xgt_Shape => k_is); (case xha_Shape => k_is); (case xhm_Shape => k_is); (case ag_BadFilling => k_is); (case at_BadFilling => k_is); (case ag_BadForm => k_is); (case at_BadForm => k_is); (case ag_BadRow => k_is); (case at_BadRow => k_is); (case ag_BadWord => k_is); (case at_BadWord => k_is); (case ki_BadFilling => k_is); (case ki_BadForm => k_is); (case ki_BadRow => k_is); (case ki_BadWord => k_is); (case ki_NoRows => k_is); (case ki_Shape => k_is); (case ks_BadFilling => k_is); (case ks_BadForm => k_is); (case ks_BadRow => k_is); (case ks_BadWord => k_is); (case ks_NoRows => k_is); (case ks_Shape => k_is); (case kz_NoRows_BadFilling => k_is); (case kd_NoRows_BadFilling => decide); (case kz_NoRows_BadForm => k_is); (case kd_NoRows_BadForm => decide); (case kz_NoRows_BadRow => k_is); (case kd_NoRows_BadRow => decide); (case kz_NoRows_BadWord => k_is); (case kd_NoRows_BadWord => decide); (case kz_NoRows_Shape => k_is); (case kd_NoRows_Shape => decide); (case kz_NoRows_ValueError => k_is); (case kz_Shape_BadFilling => k_is); (case kd_Shape_BadFilling => decide); (case kz_Shape_BadForm => k_is); (case kd_Shape_BadForm => decide); (case kz_Shape_BadRow => k_is); (case kd_Shape_BadRow => decide); (case kz_Shape_BadWord => k_is); (case kd_Shape_BadWord => decide); (case kz_Shape_NoRows => k_is); (case kd_Shape_NoRows => decide); (case kz_Shape_ValueError => k_is); (case hd_Shape => k_is); (case nf_Shape_row => k_is); (case lC_Shape => k_is); (case rv_Shape => first | rfl | decide +kernel); (case sa_Shape => k_is); (case ii_Shape => k_is); (case ti_Shape => k_is); (case l_Shape => k_is); (case cc_Shape => k_is); (case ck_Shape => k_is); (case ai_KinError => k_is); (case ae_NoRows_KinError => k_is); (case ae_Shape_KinError => k_is)
#print axioms PySem.Challenge.cw_kinrows_k42_forms_of_stretches_holds
