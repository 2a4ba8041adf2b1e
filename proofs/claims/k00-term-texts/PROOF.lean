import PyProof.Rows.All
import Wide.All
import OpenK.AllK
import Wide.FinOn
import HandS.ForMost
import HandS.ForExc
import HandS.IsInst
import HandS.ExcInit
import HandS.ExcField
import HandS.ExcIs
import HandS.TupAny
import HandS.Wide
import HandS.RaiseMore
import HandS.TupMul
import HandS.Deep
import HandS.Flow
import HandS.Conv
import PyProof.ListStr
import HandS.ExcOwn
import HandS.TryOnly
import HandS.Text
import KE.KExcIs
import HandS.Ends
import HandS.More
import HandS.Words
import HandS.WordsExc
import HandS.Defaults
import HandS.Head0
import HandS.Head1
import HandS.Head2
import HandS.HeadEnd
import HandS.HeadHook1
import HandS.HeadHook2
import HandS.Codes
import PySem.Challenge.RW_aimstoldback_k00_term_texts
set_option Elab.async false
set_option linter.all false
set_option maxRecDepth 100000
namespace DV
open PySem PySem.Spec PyProof.Rows L2

inductive D where
  | non | bl (b : Bool) | int (i : Int) | str (x : Str)
  | tup (ds : List D) | lst (ds : List D)
  | ins (c : Nat) (ns : List Str) (ds : List D)
  | dK (ks : List Key) (ds : List D) | dT (ks : List (List Key)) (ds : List D)
  | cls (c : Nat) | ty (n : String) | fn (i : Nat)
  deriving Inhabited

structure Tb where
  K : PySem.W.Frag
  ca : Nat → Addr
  fa : Nat → Addr

mutual
def Is (T : Tb) (H : Hp) : D → V → Prop
  | .non, v => v = .non
  | .bl b, v => v = .bl b
  | .int i, v => v = .int i
  | .str x, v => v = .str x
  | .tup ds, v => ∃ a xs, v = .ref a ∧ SqT T.K H a xs ∧ IsL T H ds xs
  | .lst ds, v => ∃ a xs, v = .ref a ∧ SqL T.K H a xs ∧ IsL T H ds xs
  | .ins c ns ds, v => ∃ a dx xs, v = .ref a ∧ H a = some (.ins (T.ca c) dx (ns.zip xs)) ∧ ns.length = xs.length ∧ IsL T H ds xs
  | .dK ks ds, v => ∃ a xs, v = .ref a ∧ (H a = some (.dK (ks.zip xs)) ∨ ∃ o, H a = some (.frz o (.dK (ks.zip xs)))) ∧ ks.length = xs.length ∧ IsL T H ds xs
  | .dT ks ds, v => ∃ a xs, v = .ref a ∧ (H a = some (.dT (ks.zip xs)) ∨ ∃ o, H a = some (.frz o (.dT (ks.zip xs)))) ∧ ks.length = xs.length ∧ IsL T H ds xs
  | .cls c, v => v = .ref (T.ca c)
  | .ty n, v => v = .ty n
  | .fn i, v => v = .ref (T.fa i)
def IsL (T : Tb) (H : Hp) : List D → List V → Prop
  | [], xs => xs = []
  | d :: ds, xs => ∃ x r, xs = x :: r ∧ Is T H d x ∧ IsL T H ds r
end
def Sub (H H' : Hp) : Prop := ∀ a o, H a = some o → H' a = some o
theorem Sub.sqT {K : PySem.W.Frag} {H H' : Hp} {a : Addr} {xs : List V} (e : Sub H H') (h : SqT K H a xs) : SqT K H' a xs := by
  rcases h with (h | ⟨o, h⟩) | h
  · exact .inl (.inl (e _ _ h))
  · exact .inl (.inr ⟨o, e _ _ h⟩)
  · exact .inr h
theorem Sub.sqL {K : PySem.W.Frag} {H H' : Hp} {a : Addr} {xs : List V} (e : Sub H H') (h : SqL K H a xs) : SqL K H' a xs := by
  rcases h with (h | ⟨o, h⟩) | h
  · exact .inl (.inl (e _ _ h))
  · exact .inl (.inr ⟨o, e _ _ h⟩)
  · exact .inr h
mutual
theorem Is.mono {T : Tb} {H H' : Hp} (e : Sub H H') : ∀ {d : D} {v : V}, Is T H d v → Is T H' d v
  | .non, _, h => h
  | .bl _, _, h => h
  | .int _, _, h => h
  | .str _, _, h => h
  | .tup _, _, ⟨a, xs, h1, h2, h3⟩ => ⟨a, xs, h1, e.sqT h2, IsL.mono e h3⟩
  | .lst _, _, ⟨a, xs, h1, h2, h3⟩ => ⟨a, xs, h1, e.sqL h2, IsL.mono e h3⟩
  | .ins _ _ _, _, ⟨a, dx, xs, h1, h2, h4, h3⟩ => ⟨a, dx, xs, h1, e _ _ h2, h4, IsL.mono e h3⟩
  | .dK _ _, _, ⟨a, xs, h1, h2, h4, h3⟩ => ⟨a, xs, h1, h2.imp (e _ _) fun ⟨o, h⟩ => ⟨o, e _ _ h⟩, h4, IsL.mono e h3⟩
  | .dT _ _, _, ⟨a, xs, h1, h2, h4, h3⟩ => ⟨a, xs, h1, h2.imp (e _ _) fun ⟨o, h⟩ => ⟨o, e _ _ h⟩, h4, IsL.mono e h3⟩
  | .cls _, _, h => h
  | .ty _, _, h => h
  | .fn _, _, h => h
theorem IsL.mono {T : Tb} {H H' : Hp} (e : Sub H H') : ∀ {ds : List D} {xs : List V}, IsL T H ds xs → IsL T H' ds xs
  | [], _, h => h
  | _ :: _, _, ⟨x, r, h1, h2, h3⟩ => ⟨x, r, h1, Is.mono e h2, IsL.mono e h3⟩
end

theorem Is.len {T : Tb} {H : Hp} : ∀ {ds : List D} {xs : List V}, IsL T H ds xs → ds.length = xs.length
  | [], _, h => by rw [show _ = [] from h]; rfl
  | _ :: _, _, ⟨x, r, h1, _, h3⟩ => by rw [h1, List.length_cons, List.length_cons, Is.len h3]

structure EX where
  c : Nat
  ns : List Str
  ds : List D
  deriving Inhabited

inductive Cell where
  | no | fz (d : D) | ow (d : D) | io (d : D) | ex (x : EX) | ol (dss : List (List D))
  deriving Inhabited
abbrev Rho := List Cell

def OwAt (T : Tb) (Hf H : Hp) (a : Addr) : D → Prop
  | .lst ds => ∃ xs, H a = some (.lst xs) ∧ IsL T Hf ds xs
  | .ins c ns ds => ∃ dx xs, H a = some (.ins (T.ca c) dx (ns.zip xs)) ∧ ns.length = xs.length ∧ IsL T Hf ds xs
  | .dK ks ds => ∃ xs, H a = some (.dK (ks.zip xs)) ∧ ks.length = xs.length ∧ IsL T Hf ds xs
  | .dT ks ds => ∃ xs, H a = some (.dT (ks.zip xs)) ∧ ks.length = xs.length ∧ IsL T Hf ds xs
  | _ => False
theorem OwAt.there {T : Tb} {Hf H : Hp} {a : Addr} {d : D} (h : OwAt T Hf H a d) : ∃ o, H a = some o := by
  cases d with
  | lst ds => obtain ⟨xs, e, _⟩ := h; exact ⟨_, e⟩
  | ins c ns ds => obtain ⟨dx, xs, e, _⟩ := h; exact ⟨_, e⟩
  | dK ks ds => obtain ⟨xs, e, _⟩ := h; exact ⟨_, e⟩
  | dT ks ds => obtain ⟨xs, e, _⟩ := h; exact ⟨_, e⟩
  | _ => exact h.elim
theorem OwAt.stp {T : Tb} {Hf Hf' H H' : Hp} {a : Addr} {d : D} (h : OwAt T Hf H a d) (s : Sub Hf Hf') (k : ∀ o, H a = some o → H' a = some o) : OwAt T Hf' H' a d := by
  cases d with
  | lst ds => obtain ⟨xs, e, i⟩ := h; exact ⟨xs, k _ e, i.mono s⟩
  | ins c ns ds => obtain ⟨dx, xs, e, l, i⟩ := h; exact ⟨dx, xs, k _ e, l, i.mono s⟩
  | dK ks ds => obtain ⟨xs, e, l, i⟩ := h; exact ⟨xs, k _ e, l, i.mono s⟩
  | dT ks ds => obtain ⟨xs, e, l, i⟩ := h; exact ⟨xs, k _ e, l, i.mono s⟩
  | _ => exact h.elim
theorem Sub.upd {H : Hp} {p : Addr} {o : HO} (h : H p = none) : Sub H (L2.upd H p o) := fun b u e => by
  rw [upd_ne (ne_of_none e h)]
  exact e
theorem Sub.upd2 {Hf H : Hp} {p : Addr} {o : HO} (s : Sub Hf H) (h : Hf p = none) : Sub Hf (L2.upd H p o) := fun b u e => by
  rw [upd_ne (ne_of_none e h)]
  exact s _ _ e
theorem Sub.updB {Hf H : Hp} {p : Addr} {o : HO} (s : Sub Hf H) : Sub (L2.upd Hf p o) (L2.upd H p o) := fun b u e => by
  by_cases hb : b = p
  · subst hb
    rw [upd_same] at e ⊢
    exact e
  · rw [upd_ne hb] at e ⊢
    exact s _ _ e
theorem Sub.updL {Hf H : Hp} {p : Addr} {o : HO} (s : Sub Hf H) (e : H p = some o) : Sub (L2.upd Hf p o) H := fun b u q => by
  by_cases hb : b = p
  · subst hb
    rw [upd_same] at q
    rw [e]
    exact q
  · rw [upd_ne hb] at q
    exact s _ _ q
theorem Sub.refl (H : Hp) : Sub H H := fun _ _ e => e
theorem Sub.trans {H H1 H2 : Hp} (a : Sub H H1) (b : Sub H1 H2) : Sub H H2 := fun x o e => b _ _ (a x o e)
theorem OwAt.froze {T : Tb} {Hf H : Hp} {a : Addr} {d : D} {o : HO} (h : OwAt T Hf H a d) (e : H a = some o) (n : Hf a = none) : Is T (upd Hf a o) d (.ref a) := by
  have s : Sub Hf (upd Hf a o) := Sub.upd n
  cases d with
  | lst ds =>
    obtain ⟨xs, q, i⟩ := h
    rw [e] at q
    cases q
    exact ⟨a, xs, rfl, SqL.of upd_same, i.mono s⟩
  | ins c ns ds =>
    obtain ⟨dx, xs, q, l, i⟩ := h
    rw [e] at q
    cases q
    exact ⟨a, dx, xs, rfl, upd_same, l, i.mono s⟩
  | dK ks ds =>
    obtain ⟨xs, q, l, i⟩ := h
    rw [e] at q
    cases q
    exact ⟨a, xs, rfl, .inl upd_same, l, i.mono s⟩
  | dT ks ds =>
    obtain ⟨xs, q, l, i⟩ := h
    rw [e] at q
    cases q
    exact ⟨a, xs, rfl, .inl upd_same, l, i.mono s⟩
  | _ => exact h.elim

def ExAt (T : Tb) (Hf : Hp) (x : EX) (cls : Value) (dd : Option Addr) : Prop :=
  cls = .ref (T.ca x.c) ∧ ((x.ns = [] ∧ dd = none) ∨ ∃ d xs, dd = some d ∧ Hf d = some (.xd (x.ns.zip xs)) ∧ x.ns.length = xs.length ∧ IsL T Hf x.ds xs)
theorem ExAt.mono {T : Tb} {Hf Hf' : Hp} {x : EX} {cls : Value} {dd : Option Addr} (s : Sub Hf Hf') (h : ExAt T Hf x cls dd) : ExAt T Hf' x cls dd :=
  ⟨h.1, h.2.imp id fun ⟨d, xs, e, q, l, i⟩ => ⟨d, xs, e, s _ _ q, l, i.mono s⟩⟩

def OlAt (T : Tb) (Hf H : Hp) : List Addr → List (List D) → Prop
  | [], dss => dss = []
  | b :: bs, dss => ∃ ds r xs, dss = ds :: r ∧ H b = some (.lst xs) ∧ IsL T Hf ds xs ∧ OlAt T Hf H bs r
theorem OlAt.stp {T : Tb} {Hf Hf' H H' : Hp} (s : Sub Hf Hf') : ∀ {bs : List Addr} {dss : List (List D)}, OlAt T Hf H bs dss → (∀ a ∈ bs, ∀ o, H a = some o → H' a = some o) → OlAt T Hf' H' bs dss
  | [], _, h, _ => h
  | b :: bs, _, ⟨ds, r, xs, e, h1, h2, h3⟩, k => ⟨ds, r, xs, e, k b (by simp) _ h1, h2.mono s, OlAt.stp s h3 fun a ha => k a (List.mem_cons_of_mem _ ha)⟩
theorem OlAt.there {T : Tb} {Hf H : Hp} : ∀ {bs : List Addr} {dss : List (List D)}, OlAt T Hf H bs dss → ∀ a ∈ bs, ∃ o, H a = some o
  | [], _, _, a, ha => by cases ha
  | b :: bs, _, ⟨ds, r, xs, e, h1, h2, h3⟩, a, ha => by
    rcases List.mem_cons.mp ha with z | z
    · rw [z]; exact ⟨_, h1⟩
    · exact OlAt.there h3 a z
abbrev HX := Option (Addr × Value × Option Addr)
def CellR (T : Tb) (hx : HX) (ioA : Option Addr) (Hf H : Hp) : Cell → Option V → List Addr → Prop
  | .no, _, L => L = []
  | .fz d, v, L => L = [] ∧ ∃ u, v = some u ∧ Is T Hf d u
  | .ow d, v, L => ∃ a, v = some (.ref a) ∧ L = [a] ∧ OwAt T Hf H a d
  | .io d, v, L => ∃ a, v = some (.ref a) ∧ L = [a] ∧ ioA = some a ∧ OwAt T Hf H a d
  | .ex x, v, L => L = [] ∧ ∃ a cls dd, hx = some (a, cls, dd) ∧ v = some (.ref a) ∧ ExAt T Hf x cls dd
  | .ol dss, v, L => ∃ a bs, v = some (.ref a) ∧ L = a :: bs ∧ H a = some (.lst (bs.map V.ref)) ∧ OlAt T Hf H bs dss
theorem CellR.stp {T : Tb} {hx : HX} {ioA : Option Addr} {Hf Hf' H H' : Hp} {c : Cell} {v : Option V} {L : List Addr} (h : CellR T hx ioA Hf H c v L) (s : Sub Hf Hf') (k : ∀ a ∈ L, ∀ o, H a = some o → H' a = some o) : CellR T hx ioA Hf' H' c v L := by
  cases c with
  | no => exact h
  | fz d => obtain ⟨h1, u, h2, h3⟩ := h; exact ⟨h1, u, h2, h3.mono s⟩
  | ow d => obtain ⟨a, h1, h2, h3⟩ := h; subst h2; exact ⟨a, h1, rfl, h3.stp s (k a (by simp))⟩
  | io d => obtain ⟨a, h1, h2, h4, h3⟩ := h; subst h2; exact ⟨a, h1, rfl, h4, h3.stp s (k a (by simp))⟩
  | ex x => obtain ⟨h1, a, cls, dd, h2, h3, h4⟩ := h; exact ⟨h1, a, cls, dd, h2, h3, h4.mono s⟩
  | ol dss => obtain ⟨a, bs, h1, h2, h3, h4⟩ := h; subst h2; exact ⟨a, bs, h1, rfl, k a (by simp) _ h3, h4.stp s fun b hb => k b (List.mem_cons_of_mem _ hb)⟩
theorem CellR.there {T : Tb} {hx : HX} {ioA : Option Addr} {Hf H : Hp} {c : Cell} {v : Option V} {L : List Addr} (h : CellR T hx ioA Hf H c v L) : ∀ a ∈ L, ∃ o, H a = some o := by
  intro a ha
  cases c with
  | no => rw [show L = [] from h] at ha; cases ha
  | fz d => rw [h.1] at ha; cases ha
  | ow d => obtain ⟨b, _, rfl, q⟩ := h; cases List.mem_singleton.mp ha; exact q.there
  | io d => obtain ⟨b, _, rfl, _, q⟩ := h; cases List.mem_singleton.mp ha; exact q.there
  | ex x => rw [h.1] at ha; cases ha
  | ol dss =>
    obtain ⟨b, bs, _, rfl, q1, q2⟩ := h
    rcases List.mem_cons.mp ha with z | z
    · rw [z]; exact ⟨_, q1⟩
    · exact q2.there a z

def Slots (T : Tb) (hx : HX) (io : Nat → Option Addr) (Hf H : Hp) : Nat → L2.St → Rho → List Addr → Prop
  | _, [], [], L => L = []
  | i, v :: σ, c :: ρ, L => ∃ L1 L2, L = L1 ++ L2 ∧ CellR T hx (io i) Hf H c v L1 ∧ Slots T hx io Hf H (i + 1) σ ρ L2
  | _, _, _, _ => False
theorem Slots.stp {T : Tb} {hx : HX} {io : Nat → Option Addr} {Hf Hf' H H' : Hp} (s : Sub Hf Hf') : ∀ {i : Nat} {σ : L2.St} {ρ : Rho} {L : List Addr}, Slots T hx io Hf H i σ ρ L → (∀ a ∈ L, ∀ o, H a = some o → H' a = some o) → Slots T hx io Hf' H' i σ ρ L
  | _, [], [], _, h, _ => h
  | _, [], _ :: _, _, h, _ => h.elim
  | _, _ :: _, [], _, h, _ => h.elim
  | i, v :: σ, c :: ρ, L, h, k => by
    obtain ⟨L1, L2, rfl, hc, hr⟩ := h
    exact ⟨L1, L2, rfl, hc.stp s fun a ha => k a (List.mem_append_left _ ha), Slots.stp s hr fun a ha => k a (List.mem_append_right _ ha)⟩
theorem Slots.there {T : Tb} {hx : HX} {io : Nat → Option Addr} {Hf H : Hp} : ∀ {i : Nat} {σ : L2.St} {ρ : Rho} {L : List Addr}, Slots T hx io Hf H i σ ρ L → ∀ a ∈ L, ∃ o, H a = some o
  | _, [], [], _, h, a, ha => by rw [show _ = [] from h] at ha; cases ha
  | _, [], _ :: _, _, h, _, _ => h.elim
  | _, _ :: _, [], _, h, _, _ => h.elim
  | i, v :: σ, c :: ρ, L, h, a, ha => by
    obtain ⟨L1, L2, rfl, hc, hr⟩ := h
    rcases List.mem_append.mp ha with q | q
    · exact hc.there a q
    · exact Slots.there hr a q
theorem Slots.length {T : Tb} {hx : HX} {io : Nat → Option Addr} {Hf H : Hp} : ∀ {i : Nat} {σ : L2.St} {ρ : Rho} {L : List Addr}, Slots T hx io Hf H i σ ρ L → σ.length = ρ.length
  | _, [], [], _, _ => rfl
  | _, [], _ :: _, _, h => h.elim
  | _, _ :: _, [], _, h => h.elim
  | i, v :: σ, c :: ρ, L, h => by
    obtain ⟨L1, L2, _, _, hr⟩ := h
    rw [List.length_cons, List.length_cons, Slots.length hr]
theorem Slots.at {T : Tb} {hx : HX} {io : Nat → Option Addr} {Hf H : Hp} : ∀ {j i : Nat} {σ : L2.St} {ρ : Rho} {L : List Addr} {c : Cell}, Slots T hx io Hf H i σ ρ L → ρ[j]? = some c →
    ∃ v A B L1, σ[j]? = some v ∧ L = A ++ (L1 ++ B) ∧ CellR T hx (io (i + j)) Hf H c v L1 ∧
      ∀ (Hf' H' : Hp) (c' : Cell) (v' : Option V) (L' : List Addr), Sub Hf Hf' → (∀ a, a ∈ A ∨ a ∈ B → ∀ o, H a = some o → H' a = some o) → CellR T hx (io (i + j)) Hf' H' c' v' L' → Slots T hx io Hf' H' i (σ.set j v') (ρ.set j c') (A ++ (L' ++ B))
  | _, _, [], [], _, _, _, e => by simp at e
  | _, _, [], _ :: _, _, _, h, _ => h.elim
  | _, _, _ :: _, [], _, _, h, _ => h.elim
  | 0, i, v :: σ, c0 :: ρ, L, c, h, e => by
    obtain ⟨L1, L2, rfl, hc, hr⟩ := h
    cases (Option.some.inj e : c0 = c)
    exact ⟨v, [], L2, L1, rfl, rfl, hc, fun Hf' H' c' v' L' s k q => ⟨L', L2, rfl, q, hr.stp s fun a ha => k a (.inr ha)⟩⟩
  | j + 1, i, v :: σ, c0 :: ρ, L, c, h, e => by
    obtain ⟨L1, L2, rfl, hc, hr⟩ := h
    obtain ⟨w, A, B, L3, h1, rfl, h3, h4⟩ := Slots.at (j := j) (c := c) hr e
    refine ⟨w, L1 ++ A, B, L3, h1, by rw [List.append_assoc], by rw [show i + (j + 1) = i + 1 + j by omega]; exact h3, fun Hf' H' c' v' L' s k q => ?_⟩
    refine ⟨L1, A ++ (L' ++ B), by rw [List.append_assoc], hc.stp s fun a ha => k a (.inl (List.mem_append_left _ ha)), ?_⟩
    refine h4 Hf' H' c' v' L' s (fun a ha => k a (ha.imp (List.mem_append_right _) id)) ?_
    rw [show i + 1 + j = i + (j + 1) by omega]
    exact q

structure Stp (L : List Addr) (H Hf H' Hf' : Hp) : Prop where
  s0 : ∀ b, H b ≠ none → H' b ≠ none
  s1 : ∀ b o, H b = some o → b ∉ L → H' b = some o
  s2 : ∀ b, Hf' b ≠ none → Hf b ≠ none ∨ b ∈ L ∨ H b = none
  s3 : Sub Hf Hf'
  s4 : Sub Hf' H'
theorem Stp.refl {L : List Addr} {H Hf : Hp} (s : Sub Hf H) : Stp L H Hf H Hf := ⟨fun _ h => h, fun _ _ h _ => h, fun _ h => .inl h, Sub.refl _, s⟩
theorem Stp.trans {L0 L : List Addr} {H0 Hf0 H Hf H' Hf' : Hp} (a : Stp L0 H0 Hf0 H Hf) (b : Stp L H Hf H' Hf') (hL : ∀ x ∈ L, x ∈ L0 ∨ H0 x = none) : Stp L0 H0 Hf0 H' Hf' where
  s0 := fun x h => b.s0 x (a.s0 x h)
  s1 := fun x o h n => b.s1 x o (a.s1 x o h n) fun z => (hL x z).elim n fun q => by rw [h] at q; cases q
  s2 := fun x h => by
    rcases b.s2 x h with q | q | q
    · exact a.s2 x q
    · exact .inr (hL x q)
    · refine .inr (.inr ?_)
      cases e : H0 x with
      | none => rfl
      | some o => exact absurd q (a.s0 x (by rw [e]; exact fun z => nomatch z))
  s3 := a.s3.trans b.s3
  s4 := b.s4
theorem Stp.mono {L L' : List Addr} {H Hf H' Hf' : Hp} (a : Stp L H Hf H' Hf') (h : ∀ x ∈ L, x ∈ L') : Stp L' H Hf H' Hf' := ⟨a.s0, fun b o e n => a.s1 b o e fun z => n (h b z), fun b e => (a.s2 b e).imp id (Or.imp (h b) id), a.s3, a.s4⟩
theorem Stp.newF {L : List Addr} {H Hf : Hp} {p : Addr} {o : HO} (s : Sub Hf H) (n : H p = none) : Stp L H Hf (upd H p o) (upd Hf p o) where
  s0 := fun b h => by
    by_cases e : b = p
    · subst e; rw [upd_same]; exact fun z => nomatch z
    · rw [upd_ne e]; exact h
  s1 := fun b u e _ => Sub.upd n _ _ e
  s2 := fun b h => by
    by_cases e : b = p
    · subst e; exact .inr (.inr n)
    · rw [upd_ne e] at h; exact .inl h
  s3 := Sub.upd (by cases e : Hf p with
    | none => rfl
    | some u => rw [s _ _ e] at n; cases n)
  s4 := Sub.updB s
theorem Sub.none {Hf H : Hp} {p : Addr} (s : Sub Hf H) (n : H p = Option.none) : Hf p = Option.none := by
  cases e : Hf p with
  | none => rfl
  | some u => rw [s _ _ e] at n; cases n
theorem Stp.newO {L : List Addr} {H Hf : Hp} {p : Addr} {o : HO} (s : Sub Hf H) (n : H p = none) : Stp L H Hf (upd H p o) Hf where
  s0 := fun b h => by
    by_cases e : b = p
    · subst e; rw [upd_same]; exact fun z => nomatch z
    · rw [upd_ne e]; exact h
  s1 := fun b u e _ => Sub.upd n _ _ e
  s2 := fun b h => .inl h
  s3 := Sub.refl _
  s4 := Sub.upd2 s (s.none n)
theorem Stp.write {L : List Addr} {H Hf : Hp} {p : Addr} {o : HO} (s : Sub Hf H) (n : Hf p = none) (hp : p ∈ L) : Stp L H Hf (upd H p o) Hf where
  s0 := fun b h => by
    by_cases e : b = p
    · subst e; rw [upd_same]; exact fun z => nomatch z
    · rw [upd_ne e]; exact h
  s1 := fun b u e nb => by
    rw [upd_ne (fun z => nb (by rw [z]; exact hp))]
    exact e
  s2 := fun b h => .inl h
  s3 := Sub.refl _
  s4 := Sub.upd2 s n
theorem Stp.freeze {L : List Addr} {H Hf : Hp} {p : Addr} {o : HO} (s : Sub Hf H) (n : Hf p = none) (e : H p = some o) (hp : p ∈ L) : Stp L H Hf H (upd Hf p o) where
  s0 := fun _ h => h
  s1 := fun _ _ h _ => h
  s2 := fun b h => by
    by_cases q : b = p
    · exact .inr (.inl (by rw [q]; exact hp))
    · rw [upd_ne q] at h; exact .inl h
  s3 := Sub.upd n
  s4 := Sub.updL s e

inductive Vc where
  | fz (d : D) | ow (d : D)
  deriving Inhabited
@[simp] abbrev Vc.cell : Vc → Cell
  | .fz d => .fz d | .ow d => .ow d
@[simp] abbrev Vc.d : Vc → D
  | .fz d => d | .ow d => d
structure Fm where
  H : Hp
  Hf : Hp
  L : List Addr
  io : Nat → Option Addr

structure Rl (T : Tb) (hx : HX) (F : Fm) (σ : L2.St) (H Hf : Hp) (ρ : Rho) : Prop where
  st : Stp F.L F.H F.Hf H Hf
  sl : ∃ L, Slots T hx F.io Hf H 0 σ ρ L ∧ L.Nodup ∧ (∀ a ∈ L, Hf a = none) ∧ ∀ a ∈ L, a ∈ F.L ∨ F.H a = none
structure RlV (T : Tb) (hx : HX) (F : Fm) (σ : L2.St) (H Hf : Hp) (ρ : Rho) (c : Vc) (v : V) : Prop where
  st : Stp F.L F.H F.Hf H Hf
  sl : ∃ L Lv, Slots T hx F.io Hf H 0 σ ρ L ∧ CellR T none none Hf H c.cell (some v) Lv ∧ (Lv ++ L).Nodup ∧ (∀ a ∈ Lv ++ L, Hf a = none) ∧ ∀ a ∈ Lv ++ L, a ∈ F.L ∨ F.H a = none

@[simp] def Cell.as : Cell → D → Cell
  | .io _, d => .io d
  | .ow _, d => .ow d
  | _, d => .fz d
section
variable {T : Tb} {hx : HX} {F : Fm} {σ : L2.St} {H Hf H' Hf' : Hp} {ρ : Rho} {c : Vc} {v : V}
theorem Rl.sub (r : Rl T hx F σ H Hf ρ) : Sub Hf H := r.st.s4
theorem RlV.sub (r : RlV T hx F σ H Hf ρ c v) : Sub Hf H := r.st.s4
theorem Rl.len (r : Rl T hx F σ H Hf ρ) : σ.length = ρ.length := let ⟨_, h, _⟩ := r.sl; h.length
theorem Rl.val {d : D} (r : Rl T hx F σ H Hf ρ) (i : Is T Hf d v) : RlV T hx F σ H Hf ρ (.fz d) v :=
  let ⟨L, h1, h2, h3, h4⟩ := r.sl
  ⟨r.st, L, [], h1, ⟨rfl, v, rfl, i⟩, h2, h3, h4⟩
theorem RlV.drop (r : RlV T hx F σ H Hf ρ c v) : Rl T hx F σ H Hf ρ :=
  let ⟨L, _, h1, _, h3, h4, h5⟩ := r.sl
  ⟨r.st, L, h1, (List.nodup_append.mp h3).2.1, fun a ha => h4 a (List.mem_append_right _ ha), fun a ha => h5 a (List.mem_append_right _ ha)⟩
theorem RlV.frz (r : RlV T hx F σ H Hf ρ c v) : ∃ Hf', Rl T hx F σ H Hf' ρ ∧ Sub Hf Hf' ∧ Is T Hf' c.d v := by
  obtain ⟨L, Lv, h1, h2, h3, h4, h5⟩ := r.sl
  cases c with
  | fz d =>
    obtain ⟨rfl, u, e, i⟩ := h2
    cases e
    exact ⟨Hf, r.drop, Sub.refl _, i⟩
  | ow d =>
    obtain ⟨a, e, rfl, q⟩ := h2
    cases e
    obtain ⟨o, ho⟩ := q.there
    have na : Hf a = none := h4 a (by simp)
    have hn : a ∉ L := (List.nodup_cons.mp h3).1
    refine ⟨upd Hf a o, ⟨r.st.trans (Stp.freeze (L := [a]) r.st.s4 na ho (by simp)) fun x hx => h5 x (by simp only [List.mem_singleton] at hx; subst hx; simp), L, h1.stp (Sub.upd na) fun _ _ _ e => e, (List.nodup_cons.mp h3).2, fun b hb => ?_, fun b hb => h5 b (List.mem_append_right _ hb)⟩, Sub.upd na, q.froze ho na⟩
    rw [upd_ne (fun z => hn (by rw [← z]; exact hb))]
    exact h4 b (List.mem_append_right _ hb)
theorem Rl.step (r : Rl T hx F σ H Hf ρ) (s : Stp [] H Hf H' Hf') : Rl T hx F σ H' Hf' ρ := by
  obtain ⟨L, h1, h2, h3, h4⟩ := r.sl
  refine ⟨r.st.trans s (fun _ z => nomatch z), L, h1.stp s.s3 fun a _ o e => s.s1 a o e (by simp), h2, fun a ha => ?_, h4⟩
  cases q : Hf' a with
  | none => rfl
  | some o =>
    exfalso
    rcases s.s2 a (by rw [q]; exact fun z => nomatch z) with z | z | z
    · exact z (h3 a ha)
    · cases z
    · obtain ⟨u, hu⟩ := h1.there a ha
      rw [hu] at z
      cases z
theorem Rl.stepV {Lv : List Addr} (r : Rl T hx F σ H Hf ρ) (s : Stp [] H Hf H' Hf') (q : CellR T none none Hf' H' c.cell (some v) Lv) (nd : Lv.Nodup) (hn : ∀ a ∈ Lv, H a = none ∧ Hf' a = none) : RlV T hx F σ H' Hf' ρ c v := by
  obtain ⟨L, h1, h2, h3, h4⟩ := r.sl
  have hf : ∀ a ∈ L, Hf' a = none := fun a ha => by
    cases q : Hf' a with
    | none => rfl
    | some o =>
      exfalso
      rcases s.s2 a (by rw [q]; exact fun z => nomatch z) with z | z | z
      · exact z (h3 a ha)
      · cases z
      · obtain ⟨u, hu⟩ := h1.there a ha
        rw [hu] at z
        cases z
  refine ⟨(r.step s).st, L, Lv, h1.stp s.s3 fun a _ o e => s.s1 a o e (by simp), q, ?_, fun a ha => (List.mem_append.mp ha).elim (fun z => (hn a z).2) (hf a), fun a ha => (List.mem_append.mp ha).elim (fun z => .inr ?_) (h4 a)⟩
  · refine List.nodup_append.mpr ⟨nd, h2, fun a ha b hb e => ?_⟩
    subst e
    obtain ⟨u, hu⟩ := h1.there a hb
    rw [(hn a ha).1] at hu
    cases hu
  · cases e : F.H a with
    | none => rfl
    | some o => exact absurd (hn a z).1 (r.st.s0 a (by rw [e]; exact fun z => nomatch z))
theorem Rl.data {j : Nat} {d : D} (r : Rl T hx F σ H Hf ρ) (e : ρ[j]? = some (.fz d)) : ∃ u, σ[j]? = some (some u) ∧ Is T Hf d u := by
  obtain ⟨L, h1, h2, h3, h4⟩ := r.sl
  obtain ⟨w, A, B, L1, g1, rfl, g3, g4⟩ := h1.at e
  obtain ⟨rfl, u, rfl, i⟩ := g3
  exact ⟨u, g1, i⟩
theorem Rl.caught {j : Nat} {x : EX} (r : Rl T hx F σ H Hf ρ) (e : ρ[j]? = some (.ex x)) : ∃ a cls dd, hx = some (a, cls, dd) ∧ σ[j]? = some (some (.ref a)) ∧ ExAt T Hf x cls dd := by
  obtain ⟨L, h1, h2, h3, h4⟩ := r.sl
  obtain ⟨w, A, B, L1, g1, rfl, g3, g4⟩ := h1.at e
  obtain ⟨rfl, a, cls, dd, q1, rfl, q3⟩ := g3
  exact ⟨a, cls, dd, q1, g1, q3⟩
theorem set_same {α : Type} {l : List α} {j : Nat} {x : α} (h : l[j]? = some x) : l.set j x = l := by
  refine List.ext_getElem? fun i => ?_
  by_cases e : j = i
  · subst e
    rw [List.getElem?_set_self (List.getElem?_eq_some_iff.mp h).1, h]
  · rw [List.getElem?_set_ne e]
theorem Rl.owned {j : Nat} {c : Cell} {d : D} (r : Rl T hx F σ H Hf ρ) (e : ρ[j]? = some c) (hc : c = .ow d ∨ c = .io d) : ∃ a, σ[j]? = some (some (.ref a)) ∧ OwAt T Hf H a d ∧ Hf a = none ∧
    (c = .ow d → ∀ o, H a = some o → Rl T hx F σ H (upd Hf a o) (ρ.set j (.fz d))) ∧
    (∀ (H' Hf' : Hp) (d' : D), Stp [a] H Hf H' Hf' → Hf' a = none → OwAt T Hf' H' a d' → Rl T hx F σ H' Hf' (ρ.set j (c.as d'))) ∧
    (c = .ow d → ∀ v : V, Rl T hx F σ H Hf (ρ.set j .no) ∧ RlV T hx F σ H Hf (ρ.set j .no) (.ow d) (.ref a)) := by
  obtain ⟨L, h1, h2, h3, h4⟩ := r.sl
  obtain ⟨w, A, B, L1, g1, rfl, g3, g4⟩ := h1.at e
  have main : ∃ a, w = some (.ref a) ∧ L1 = [a] ∧ OwAt T Hf H a d ∧ (∀ d' H' Hf', OwAt T Hf' H' a d' → CellR T hx (F.io (0 + j)) Hf' H' (c.as d') w [a]) := by
    rcases hc with rfl | rfl
    · obtain ⟨a, rfl, rfl, q⟩ := g3
      exact ⟨a, rfl, rfl, q, fun d' H' Hf' z => ⟨a, rfl, rfl, z⟩⟩
    · obtain ⟨a, rfl, rfl, z1, q⟩ := g3
      exact ⟨a, rfl, rfl, q, fun d' H' Hf' z => ⟨a, rfl, rfl, z1, z⟩⟩
  obtain ⟨a, rfl, rfl, q, mk⟩ := main
  have ma : a ∈ A ++ ([a] ++ B) := by simp
  have na := h3 a ma
  have nd := h2
  have hnA : a ∉ A ∧ a ∉ B ∧ (A ++ B).Nodup := by
    rw [List.nodup_append] at nd
    obtain ⟨n1, n2, n3⟩ := nd
    have n2' := List.nodup_cons.mp (show (a :: B).Nodup from n2)
    refine ⟨fun z => n3 a z a (by simp) rfl, n2'.1, List.nodup_append.mpr ⟨n1, n2'.2, fun x hx y hy => n3 x hx y (by simp [hy])⟩⟩
  have hAB : ∀ b, b ∈ A ∨ b ∈ B → b ≠ a := fun b hb z => by
    subst z
    exact hb.elim hnA.1 hnA.2.1
  have inL : ∀ b, b ∈ A ++ B → b ∈ A ++ ([a] ++ B) := fun b hb => by
    rcases List.mem_append.mp hb with z | z <;> simp [z]
  have orig : ∀ x ∈ ([a] : List Addr), x ∈ F.L ∨ F.H x = none := fun x hx => by
    rw [List.mem_singleton] at hx
    subst hx
    exact h4 _ ma
  refine ⟨a, g1, q, na, fun ec o ho => ?_, fun H' Hf' d' s n' q' => ?_, fun ec v => ?_⟩
  · have s := Stp.freeze (L := [a]) r.st.s4 na ho (by simp)
    have g5 := g4 (upd Hf a o) H (.fz d) (some (.ref a)) [] s.s3 (fun b hb u e => e) ⟨rfl, .ref a, rfl, q.froze ho na⟩
    rw [set_same g1] at g5
    refine ⟨r.st.trans s orig, A ++ ([] ++ B), g5, hnA.2.2, fun b hb => ?_, fun b hb => h4 b (inL b hb)⟩
    rw [upd_ne (hAB b (List.mem_append.mp hb))]
    exact h3 b (inL b hb)
  · have g5 := g4 Hf' H' (c.as d') (some (.ref a)) [a] s.s3 (fun b hb u e => s.s1 b u e (by simpa using hAB b hb)) (mk d' H' Hf' q')
    rw [set_same g1] at g5
    refine ⟨r.st.trans s orig, _, g5, h2, fun b hb => ?_, h4⟩
    by_cases z : b = a
    · rw [z]; exact n'
    · cases e2 : Hf' b with
      | none => rfl
      | some o =>
        exfalso
        rcases s.s2 b (by rw [e2]; exact fun z => nomatch z) with k | k | k
        · exact k (h3 b hb)
        · exact z (List.mem_singleton.mp k)
        · obtain ⟨u, hu⟩ := h1.there b hb
          rw [hu] at k
          cases k
  · have g5 := g4 Hf H .no (some (.ref a)) [] (Sub.refl _) (fun b hb u e => e) rfl
    rw [set_same g1] at g5
    refine ⟨⟨r.st, A ++ ([] ++ B), g5, hnA.2.2, fun b hb => h3 b (inL b hb), fun b hb => h4 b (inL b hb)⟩, r.st, A ++ ([] ++ B), [a], g5, ⟨a, rfl, rfl, q⟩, ?_, fun b hb => ?_, fun b hb => ?_⟩
    · exact List.nodup_cons.mpr ⟨fun z => (List.mem_append.mp (show a ∈ A ++ B from z)).elim hnA.1 hnA.2.1, hnA.2.2⟩
    · rcases List.mem_append.mp hb with z | z
      · rw [List.mem_singleton] at z; subst z; exact na
      · exact h3 b (inL b z)
    · rcases List.mem_append.mp hb with z | z
      · rw [List.mem_singleton] at z; subst z; exact h4 _ ma
      · exact h4 b (inL b z)
theorem RlV.store {j : Nat} {c0 : Cell} (r : RlV T hx F σ H Hf ρ c v) (e : ρ[j]? = some c0) (h0 : ∀ d, c0 ≠ .io d) : Rl T hx F (σ.set j (some v)) H Hf (ρ.set j c.cell) := by
  obtain ⟨L, Lv, h1, h2, h3, h4, h5⟩ := r.sl
  obtain ⟨w, A, B, L1, g1, rfl, g3, g4⟩ := h1.at e
  have q : CellR T hx (F.io (0 + j)) Hf H c.cell (some v) Lv := by
    cases c with
    | fz d => exact h2
    | ow d => exact h2
  refine ⟨r.st, _, g4 Hf H c.cell (some v) Lv (Sub.refl _) (fun b hb u e => e) q, ?_, fun a ha => ?_, fun a ha => ?_⟩
  · rw [List.nodup_append] at h3
    obtain ⟨n1, n2, n3⟩ := h3
    rw [List.nodup_append] at n2
    obtain ⟨n4, n5, n6⟩ := n2
    rw [List.nodup_append] at n5
    obtain ⟨n7, n8, n9⟩ := n5
    refine List.nodup_append.mpr ⟨n4, List.nodup_append.mpr ⟨n1, n8, fun a ha b hb => n3 a ha b (by simp [hb])⟩, fun a ha b hb => ?_⟩
    rcases List.mem_append.mp hb with z | z
    · exact fun q => n3 b z a (by simp [ha]) q.symm
    · exact n6 a ha b (by simp [z])
  · refine h4 a ?_
    simp only [List.mem_append] at ha ⊢
    rcases ha with z | z | z <;> simp [z]
  · refine h5 a ?_
    simp only [List.mem_append] at ha ⊢
    rcases ha with z | z | z <;> simp [z]
theorem Rl.forget {j : Nat} {c0 : Cell} (r : Rl T hx F σ H Hf ρ) (e : ρ[j]? = some c0) (v : Option V) : Rl T hx F (σ.set j v) H Hf (ρ.set j .no) := by
  obtain ⟨L, h1, h2, h3, h4⟩ := r.sl
  obtain ⟨w, A, B, L1, g1, rfl, g3, g4⟩ := h1.at e
  refine ⟨r.st, _, g4 Hf H .no v [] (Sub.refl _) (fun b hb u e => e) rfl, ?_, fun a ha => h3 a ?_, fun a ha => h4 a ?_⟩
  · rw [List.nodup_append] at h2
    obtain ⟨n4, n5, n6⟩ := h2
    rw [List.nodup_append] at n5
    exact List.nodup_append.mpr ⟨n4, n5.2.1, fun a ha b hb => n6 a ha b (by simp only [List.nil_append] at hb; simp [hb])⟩
  · simp only [List.mem_append, List.nil_append] at ha ⊢
    rcases ha with z | z <;> simp [z]
  · simp only [List.mem_append, List.nil_append] at ha ⊢
    rcases ha with z | z <;> simp [z]
end
end DV

set_option Elab.async false
set_option linter.all false
set_option maxRecDepth 100000
set_option maxHeartbeats 2000000
namespace DV
open PySem PySem.Spec PyProof.Rows L2

inductive R (α : Type) where
  | ok (a : α) (ρ : Rho) | exc (x : EX) (ρ : Rho) | bad
abbrev M (α : Type) := Rho → R α
def R.bind {α β : Type} (r : R α) (k : α → Rho → R β) : R β :=
  match r with
  | .ok a ρ => k a ρ
  | .exc x ρ => .exc x ρ
  | .bad => .bad
inductive SR where
  | next (ρ : Rho) | ret (c : Vc) (ρ : Rho) | brk (ρ : Rho) | cont (ρ : Rho) | exc (x : EX) (ρ : Rho) | bad
abbrev MS := Rho → SR
def liftO {α : Type} (o : Option α) (ρ : Rho) : R α := match o with
  | some a => .ok a ρ
  | none => .bad

section
variable (T : Tb) (hx : HX)
def Xw (W : WX) (F : Fm) (σ : L2.St) (x : EX) (ρ' : Rho) : Prop := ∀ cls dd H' Hf', Rl T hx F σ H' Hf' ρ' → ExAt T Hf' x cls dd → W cls dd σ H'
def oE (W : WX) (F : Fm) (σ : L2.St) (Hf : Hp) (Q : VK) : R Vc → Prop
  | .ok c ρ' => ∀ v H' Hf', RlV T hx F σ H' Hf' ρ' c v → Sub Hf Hf' → Q v H'
  | .exc x ρ' => Xw T hx W F σ x ρ'
  | .bad => False
def oT (W : WX) (F : Fm) (σ : L2.St) (Hf : Hp) (Q : Bool → Hp → Prop) : R Bool → Prop
  | .ok b ρ' => ∀ H' Hf', Rl T hx F σ H' Hf' ρ' → Sub Hf Hf' → Q b H'
  | .exc x ρ' => Xw T hx W F σ x ρ'
  | .bad => False
inductive AV where
  | val (d : D) | bor (j : Nat)
def ArgR (Hf : Hp) (σ : L2.St) : AV → V → Prop
  | .val d, v => Is T Hf d v
  | .bor j, v => σ[j]? = some (some v)
def ArgsR (Hf : Hp) (σ : L2.St) : List AV → List V → Prop
  | [], vs => vs = []
  | a :: as, vs => ∃ v r, vs = v :: r ∧ ArgR T Hf σ a v ∧ ArgsR Hf σ as r
def oA (W : WX) (F : Fm) (σ : L2.St) (Hf : Hp) (Q : List V → Hp → Prop) : R (List AV) → Prop
  | .ok as ρ' => ∀ vs H' Hf', Rl T hx F σ H' Hf' ρ' → Sub Hf Hf' → ArgsR T Hf' σ as vs → Q vs H'
  | .exc x ρ' => Xw T hx W F σ x ρ'
  | .bad => False
def oS (W : WX) (F : Fm) (D : Ends) : SR → Prop
  | .next ρ' => ∀ σ' H' Hf', Rl T hx F σ' H' Hf' ρ' → D.nx σ' H'
  | .ret c ρ' => ∀ v σ' H' Hf', RlV T hx F σ' H' Hf' ρ' c v → D.rt v H'
  | .brk ρ' => ∀ σ' H' Hf', Rl T hx F σ' H' Hf' ρ' → D.bk σ' H'
  | .cont ρ' => ∀ σ' H' Hf', Rl T hx F σ' H' Hf' ρ' → D.ct σ' H'
  | .exc x ρ' => ∀ σ', Xw T hx W F σ' x ρ'
  | .bad => False
def tE (W : WX) (m : M Vc) : TE := fun σ H Q => ∃ F Hf ρ, Rl T hx F σ H Hf ρ ∧ oE T hx W F σ Hf Q (m ρ)
def tT (W : WX) (m : M Bool) : TT := fun σ H Q => ∃ F Hf ρ, Rl T hx F σ H Hf ρ ∧ oT T hx W F σ Hf Q (m ρ)
def tA (W : WX) (m : M (List AV)) : TA := fun σ H Q => ∃ F Hf ρ, Rl T hx F σ H Hf ρ ∧ oA T hx W F σ Hf Q (m ρ)
def tS (W : WX) (m : MS) : TS := fun D σ H => ∃ F Hf ρ, Rl T hx F σ H Hf ρ ∧ oS T hx W F D (m ρ)
end
structure DE (T : Tb) (hx : HX) (X : Cx) (e : Expr) (m : M Vc) : Prop where
  run : ∀ W, Takes X W → PE X e (tE T hx W m)
structure DT (T : Tb) (hx : HX) (X : Cx) (e : Expr) (m : M Bool) : Prop where
  run : ∀ W, Takes X W → PT X e (tT T hx W m)
structure DA (T : Tb) (hx : HX) (X : Cx) (es : List Expr) (m : M (List AV)) : Prop where
  run : ∀ W, Takes X W → PA X es (tA T hx W m)
structure DS (T : Tb) (hx : HX) (X : Cx) (st : Stmt) (m : MS) : Prop where
  run : ∀ W, Takes X W → PS X st (tS T hx W m)
structure DSs (T : Tb) (hx : HX) (X : Cx) (st : List Stmt) (m : MS) : Prop where
  run : ∀ W, Takes X W → PSs X st (tS T hx W m)

theorem PE.imp {X : Cx} {e : Expr} {t t' : TE} (h : PE X e t) (i : ∀ σ H Q, t' σ H Q → t σ H Q) : PE X e t' := ⟨fun pins s σ H Q I q => h.run pins s σ H Q I (i _ _ _ q)⟩
theorem PT.imp {X : Cx} {e : Expr} {t t' : TT} (h : PT X e t) (i : ∀ σ H Q, t' σ H Q → t σ H Q) : PT X e t' := ⟨fun pins s σ H Q I q => h.run pins s σ H Q I (i _ _ _ q)⟩
theorem PA.imp {X : Cx} {e : List Expr} {t t' : TA} (h : PA X e t) (i : ∀ σ H Q, t' σ H Q → t σ H Q) : PA X e t' := ⟨fun pos pins s σ H Q I q => h.run pos pins s σ H Q I (i _ _ _ q)⟩
theorem PS.imp {X : Cx} {e : Stmt} {t t' : TS} (h : PS X e t) (i : ∀ D σ H, t' D σ H → t D σ H) : PS X e t' := ⟨fun pins s σ H D I q => h.run pins s σ H D I (i _ _ _ q)⟩
theorem PSs.imp {X : Cx} {e : List Stmt} {t t' : TS} (h : PSs X e t) (i : ∀ D σ H, t' D σ H → t D σ H) : PSs X e t' := ⟨fun pins s σ H D I q => h.run pins s σ H D I (i _ _ _ q)⟩

def IsN (T : Tb) (Hf H : Hp) (d : D) (v : V) : Prop := Is T Hf d v ∨ ∃ a, v = .ref a ∧ OwAt T Hf H a d
section
variable {T : Tb} {Hf H : Hp} {v : V}
theorem IsN.int {i : Int} (h : IsN T Hf H (.int i) v) : v = .int i := by
  rcases h with h | ⟨a, _, h⟩
  · exact h
  · exact h.elim
theorem IsN.str {x : Str} (h : IsN T Hf H (.str x) v) : v = .str x := by
  rcases h with h | ⟨a, _, h⟩
  · exact h
  · exact h.elim
theorem IsN.bl {b : Bool} (h : IsN T Hf H (.bl b) v) : v = .bl b := by
  rcases h with h | ⟨a, _, h⟩
  · exact h
  · exact h.elim
theorem IsN.non (h : IsN T Hf H .non v) : v = .non := by
  rcases h with h | ⟨a, _, h⟩
  · exact h
  · exact h.elim
theorem IsN.lst {ds : List D} (s : Sub Hf H) (h : IsN T Hf H (.lst ds) v) : ∃ a xs, v = .ref a ∧ SqL T.K H a xs ∧ IsL T Hf ds xs := by
  rcases h with ⟨a, xs, e, q, i⟩ | ⟨a, e, xs, q, i⟩
  · exact ⟨a, xs, e, s.sqL q, i⟩
  · exact ⟨a, xs, e, SqL.of q, i⟩
theorem IsN.tup {ds : List D} (s : Sub Hf H) (h : IsN T Hf H (.tup ds) v) : ∃ a xs, v = .ref a ∧ SqT T.K H a xs ∧ IsL T Hf ds xs := by
  rcases h with ⟨a, xs, e, q, i⟩ | ⟨a, e, q⟩
  · exact ⟨a, xs, e, s.sqT q, i⟩
  · exact q.elim
theorem IsN.ins {c : Nat} {ns : List Str} {ds : List D} (s : Sub Hf H) (h : IsN T Hf H (.ins c ns ds) v) : ∃ a dx xs, v = .ref a ∧ H a = some (.ins (T.ca c) dx (ns.zip xs)) ∧ ns.length = xs.length ∧ IsL T Hf ds xs := by
  rcases h with ⟨a, dx, xs, e, q, l, i⟩ | ⟨a, e, dx, xs, q, l, i⟩
  · exact ⟨a, dx, xs, e, s _ _ q, l, i⟩
  · exact ⟨a, dx, xs, e, q, l, i⟩
theorem IsL.get {ds : List D} {xs : List V} (h : IsL T Hf ds xs) : ∀ {j : Nat} {d : D}, ds[j]? = some d → ∃ x, xs[j]? = some x ∧ Is T Hf d x := by
  induction ds generalizing xs with
  | nil => intro j d e; simp at e
  | cons d0 r ih =>
    obtain ⟨x, r', rfl, h1, h2⟩ := h
    intro j d e
    cases j with
    | zero => cases (Option.some.inj e : d0 = d); exact ⟨x, rfl, h1⟩
    | succ j => exact ih h2 e
theorem IsL.append {ds es : List D} {xs ys : List V} (h : IsL T Hf ds xs) (h' : IsL T Hf es ys) : IsL T Hf (ds ++ es) (xs ++ ys) := by
  induction ds generalizing xs with
  | nil => rw [show xs = [] from h]; exact h'
  | cons d r ih =>
    obtain ⟨x, r', rfl, h1, h2⟩ := h
    exact ⟨x, r' ++ ys, rfl, h1, ih h2⟩
theorem IsL.take {ds : List D} {xs : List V} (n : Nat) (h : IsL T Hf ds xs) : IsL T Hf (ds.take n) (xs.take n) := by
  induction ds generalizing xs n with
  | nil => rw [show xs = [] from h]; cases n <;> exact rfl
  | cons d r ih =>
    obtain ⟨x, r', rfl, h1, h2⟩ := h
    cases n with
    | zero => exact rfl
    | succ n => exact ⟨x, r'.take n, rfl, h1, ih n h2⟩
theorem IsL.drop {ds : List D} {xs : List V} (n : Nat) (h : IsL T Hf ds xs) : IsL T Hf (ds.drop n) (xs.drop n) := by
  induction ds generalizing xs n with
  | nil => rw [show xs = [] from h]; cases n <;> exact rfl
  | cons d r ih =>
    obtain ⟨x, r', rfl, h1, h2⟩ := h
    cases n with
    | zero => exact ⟨x, r', rfl, h1, h2⟩
    | succ n => exact ih n h2
theorem IsL.set {ds : List D} {xs : List V} {d : D} {x : V} (j : Nat) (h : IsL T Hf ds xs) (i : Is T Hf d x) : IsL T Hf (ds.set j d) (xs.set j x) := by
  induction ds generalizing xs j with
  | nil => rw [show xs = [] from h]; exact rfl
  | cons d0 r ih =>
    obtain ⟨x0, r', rfl, h1, h2⟩ := h
    cases j with
    | zero => exact ⟨x, r', rfl, i, h2⟩
    | succ j => exact ⟨x0, r'.set j x, rfl, h1, ih j h2⟩
theorem IsL.rep {ds : List D} {xs : List V} (h : IsL T Hf ds xs) : ∀ k : Nat, IsL T Hf (List.replicate k ds).flatten (List.replicate k xs).flatten
  | 0 => rfl
  | k + 1 => by
    rw [List.replicate_succ, List.flatten_cons, List.replicate_succ, List.flatten_cons]
    exact h.append (IsL.rep h k)
theorem IsL.dropLast {ds : List D} {xs : List V} (h : IsL T Hf ds xs) : IsL T Hf ds.dropLast xs.dropLast := by
  rw [List.dropLast_eq_take, List.dropLast_eq_take, Is.len h]
  exact h.take _
theorem IsL.ints {ns : List Int} {xs : List V} (h : IsL T Hf (ns.map .int) xs) : xs = ns.map V.int := by
  induction ns generalizing xs with
  | nil => exact h
  | cons n r ih =>
    obtain ⟨x, r', rfl, h1, h2⟩ := h
    rw [show x = V.int n from h1, ih h2]
    rfl
theorem IsL.strs {ns : List Str} {xs : List V} (h : IsL T Hf (ns.map .str) xs) : xs = ns.map V.str := by
  induction ns generalizing xs with
  | nil => exact h
  | cons n r ih =>
    obtain ⟨x, r', rfl, h1, h2⟩ := h
    rw [show x = V.str n from h1, ih h2]
    rfl
theorem IsL.bls {ns : List Bool} {xs : List V} (h : IsL T Hf (ns.map .bl) xs) : xs = ns.map V.bl := by
  induction ns generalizing xs with
  | nil => exact h
  | cons n r ih =>
    obtain ⟨x, r', rfl, h1, h2⟩ := h
    rw [show x = V.bl n from h1, ih h2]
    rfl
end

def NewV (T : Tb) (H Hf : Hp) (c : Vc) (Q : VK) : Prop := ∀ v H' Hf' Lv, Stp [] H Hf H' Hf' → CellR T none none Hf' H' c.cell (some v) Lv → Lv.Nodup → (∀ a ∈ Lv, H a = none ∧ Hf' a = none) → Q v H'
section
variable {T : Tb} {Hf H : Hp} {v : V} {Q : VK}
theorem NewV.same {d : D} (h : NewV T H Hf (.fz d) Q) (s : Sub Hf H) (i : Is T Hf d v) : Q v H := h v H Hf [] (Stp.refl s) ⟨rfl, v, rfl, i⟩ List.nodup_nil (fun _ z => nomatch z)
theorem NewV.tup {ds : List D} {xs : List V} {p : Addr} (h : NewV T H Hf (.fz (.tup ds)) Q) (s : Sub Hf H) (i : IsL T Hf ds xs) (n : H p = none) : Q (.ref p) (upd H p (.tup xs)) :=
  h (.ref p) _ (upd Hf p (.tup xs)) [] (Stp.newF s n) ⟨rfl, _, rfl, p, xs, rfl, SqT.of upd_same, i.mono (Sub.upd (s.none n))⟩ List.nodup_nil (fun _ z => nomatch z)
theorem NewV.lst {ds : List D} {xs : List V} {p : Addr} (h : NewV T H Hf (.ow (.lst ds)) Q) (s : Sub Hf H) (i : IsL T Hf ds xs) (n : H p = none) : Q (.ref p) (upd H p (.lst xs)) :=
  h (.ref p) _ Hf [p] (Stp.newO s n) ⟨p, rfl, rfl, xs, upd_same, i⟩ (List.nodup_cons.mpr ⟨by simp, List.nodup_nil⟩) (fun a z => by rw [List.mem_singleton] at z; subst z; exact ⟨n, s.none n⟩)
end

def IsLN (T : Tb) (Hf H : Hp) : List D → List V → Prop
  | [], xs => xs = []
  | d :: ds, xs => ∃ x r, xs = x :: r ∧ IsN T Hf H d x ∧ IsLN T Hf H ds r
theorem IsL.now {T : Tb} {Hf H : Hp} : ∀ {ds : List D} {xs : List V}, IsL T Hf ds xs → IsLN T Hf H ds xs
  | [], _, h => h
  | _ :: _, _, ⟨x, r, e, h1, h2⟩ => ⟨x, r, e, .inl h1, IsL.now h2⟩
def OpS (T : Tb) (r : R2) (f : D → D → Option Vc) : Prop := ∀ (H Hf : Hp) (x y : V) (d e : D) (c : Vc) (Q : VK), Sub Hf H → IsN T Hf H d x → IsN T Hf H e y → f d e = some c → NewV T H Hf c Q → r x y H Q
def UnS (T : Tb) (r : V → Hp → VK → Prop) (f : D → Option Vc) : Prop := ∀ (H Hf : Hp) (x : V) (d : D) (c : Vc) (Q : VK), Sub Hf H → IsN T Hf H d x → f d = some c → NewV T H Hf c Q → r x H Q
def CaS (T : Tb) (r : List V → Hp → VK → Prop) (f : List D → Option Vc) : Prop := ∀ (H Hf : Hp) (xs : List V) (ds : List D) (c : Vc) (Q : VK), Sub Hf H → IsLN T Hf H ds xs → f ds = some c → NewV T H Hf c Q → r xs H Q

def Le (t' t : TE) : Prop := ∀ σ H Q, t' σ H Q → t σ H Q
section
variable {T : Tb} {hx : HX} {X : Cx} {e a b : Expr} {ma mb mc : M Vc} {W : WX}
theorem de_of {m : M Vc} {t : WX → TE} (h : ∀ W, Takes X W → PE X e (t W)) (i : ∀ W, Le (tE T hx W m) (t W)) : DE T hx X e m := ⟨fun W tk => PE.imp (h W tk) (i W)⟩
def mPure (d : D) : M Vc := fun ρ => .ok (.fz d) ρ
theorem in_pure {d : D} {v : V} (i : ∀ Hf, Is T Hf d v) : Le (tE T hx W (mPure d)) (tC v) := fun σ H Q ⟨F, Hf, ρ, rl, o⟩ => o v H Hf (rl.val (i Hf)) (Sub.refl _)
def mVar (j : Nat) : M Vc := fun ρ => match ρ[j]? with
  | some (.fz d) => .ok (.fz d) ρ
  | some (.ow d) => .ok (.fz d) (ρ.set j (.fz d))
  | _ => .bad
theorem in_var {j : Nat} : Le (tE T hx W (mVar j)) (tVar j) := by
  intro σ H Q hh
  obtain ⟨F, Hf, ρ, rl, o⟩ := hh
  unfold mVar at o
  cases c : ρ[j]? with
  | none => rw [c] at o; exact o.elim
  | some q =>
    rw [c] at o
    cases q with
    | fz d =>
      obtain ⟨u, e1, i⟩ := rl.data c
      exact ⟨u, e1, o u H Hf (rl.val i) (Sub.refl _)⟩
    | ow d =>
      obtain ⟨a, e1, q, n, fr, _⟩ := rl.owned c (.inl rfl)
      obtain ⟨u, hu⟩ := q.there
      exact ⟨.ref a, e1, o _ H _ ((fr rfl u hu).val (q.froze hu n)) (Sub.upd n)⟩
    | no => exact o.elim
    | io d => exact o.elim
    | ex x => exact o.elim
    | ol d => exact o.elim
def pk (j : Nat) (ρ : Rho) : Option D := match ρ[j]? with
  | some (.fz d) => some d
  | some (.ow d) => some d
  | some (.io d) => some d
  | _ => none
theorem Rl.pk {F : Fm} {σ : L2.St} {H Hf : Hp} {ρ : Rho} {j : Nat} {d : D} (rl : Rl T hx F σ H Hf ρ) (h : pk j ρ = some d) : ∃ v, σ[j]? = some (some v) ∧ IsN T Hf H d v := by
  unfold DV.pk at h
  cases c : ρ[j]? with
  | none => rw [c] at h; cases h
  | some q =>
    rw [c] at h
    cases q with
    | fz d' =>
      cases h
      obtain ⟨u, e1, i⟩ := rl.data c
      exact ⟨u, e1, .inl i⟩
    | ow d' =>
      cases h
      obtain ⟨a, e1, q, n, _⟩ := rl.owned c (.inl rfl)
      exact ⟨.ref a, e1, .inr ⟨a, rfl, q⟩⟩
    | io d' =>
      cases h
      obtain ⟨a, e1, q, n, _⟩ := rl.owned c (.inr rfl)
      exact ⟨.ref a, e1, .inr ⟨a, rfl, q⟩⟩
    | no => cases h
    | ex x => cases h
    | ol d => cases h
theorem oE_new {F : Fm} {σ : L2.St} {H Hf Hf0 : Hp} {ρ : Rho} {Q : VK} {o : Option Vc} (rl : Rl T hx F σ H Hf ρ) (s : Sub Hf0 Hf) (h : oE T hx W F σ Hf0 Q (liftO o ρ)) : ∃ c, o = some c ∧ NewV T H Hf c Q := by
  cases o with
  | none => exact h.elim
  | some c => exact ⟨c, rfl, fun v H' Hf' Lv st q nd fr => h v H' Hf' (rl.stepV st q nd fr) (s.trans st.s3)⟩
theorem tE_bind {α : Type} {F : Fm} {σ : L2.St} {H Hf Hf0 : Hp} {ρ : Rho} {Q : VK} {k : Vc → Rho → R α} {P : R α → Prop} (rl : Rl T hx F σ H Hf ρ) (s0 : Sub Hf0 Hf)
    (hb : ¬ P .bad) (hexc : ∀ x ρ', P (.exc x ρ') → Xw T hx W F σ x ρ') (o : P ((ma ρ).bind k))
    (go : ∀ v H1 Hf1 c ρ1, Rl T hx F σ H1 Hf1 ρ1 → Sub Hf0 Hf1 → Sub Hf Hf1 → Is T Hf1 c.d v → P (k c ρ1) → Q v H1) : tE T hx W ma σ H Q := by
  refine ⟨F, Hf, ρ, rl, ?_⟩
  cases c1 : ma ρ with
  | bad => rw [c1] at o; exact (hb o).elim
  | exc x ρ1 => rw [c1] at o; exact hexc _ _ o
  | ok a1 ρ1 =>
    rw [c1] at o
    intro v H1 Hf1 rv s1
    obtain ⟨Hf2, r2, s2, i2⟩ := rv.frz
    exact go v H1 Hf2 a1 ρ1 r2 (s0.trans (s1.trans s2)) (s1.trans s2) i2 o
theorem tT_bind {α : Type} {mt : M Bool} {F : Fm} {σ : L2.St} {H Hf Hf0 : Hp} {ρ : Rho} {Q : Bool → Hp → Prop} {k : Bool → Rho → R α} {P : R α → Prop} (rl : Rl T hx F σ H Hf ρ) (s0 : Sub Hf0 Hf)
    (hb : ¬ P .bad) (hexc : ∀ x ρ', P (.exc x ρ') → Xw T hx W F σ x ρ') (o : P ((mt ρ).bind k))
    (go : ∀ H1 Hf1 c ρ1, Rl T hx F σ H1 Hf1 ρ1 → Sub Hf0 Hf1 → Sub Hf Hf1 → P (k c ρ1) → Q c H1) : tT T hx W mt σ H Q := by
  refine ⟨F, Hf, ρ, rl, ?_⟩
  cases c1 : mt ρ with
  | bad => rw [c1] at o; exact (hb o).elim
  | exc x ρ1 => rw [c1] at o; exact hexc _ _ o
  | ok a1 ρ1 =>
    rw [c1] at o
    intro H1 Hf1 rl1 s1
    exact go H1 Hf1 a1 ρ1 rl1 (s0.trans s1) s1 o
theorem tA_bind {α : Type} {mt : M (List AV)} {F : Fm} {σ : L2.St} {H Hf Hf0 : Hp} {ρ : Rho} {Q : List V → Hp → Prop} {k : List AV → Rho → R α} {P : R α → Prop} (rl : Rl T hx F σ H Hf ρ) (s0 : Sub Hf0 Hf)
    (hb : ¬ P .bad) (hexc : ∀ x ρ', P (.exc x ρ') → Xw T hx W F σ x ρ') (o : P ((mt ρ).bind k))
    (go : ∀ vs H1 Hf1 c ρ1, Rl T hx F σ H1 Hf1 ρ1 → Sub Hf0 Hf1 → Sub Hf Hf1 → ArgsR T Hf1 σ c vs → P (k c ρ1) → Q vs H1) : tA T hx W mt σ H Q := by
  refine ⟨F, Hf, ρ, rl, ?_⟩
  cases c1 : mt ρ with
  | bad => rw [c1] at o; exact (hb o).elim
  | exc x ρ1 => rw [c1] at o; exact hexc _ _ o
  | ok a1 ρ1 =>
    rw [c1] at o
    intro vs H1 Hf1 rl1 s1 ar
    exact go vs H1 Hf1 a1 ρ1 rl1 (s0.trans s1) s1 ar o
def mUn (f : D → Option Vc) (ma : M Vc) : M Vc := fun ρ => (ma ρ).bind fun a ρ1 => liftO (f a.d) ρ1
def mUnV (f : D → Option Vc) (j : Nat) : M Vc := fun ρ => liftO ((pk j ρ).bind f) ρ
def mOp2 (f : D → D → Option Vc) (ma mb : M Vc) : M Vc := fun ρ => (ma ρ).bind fun a ρ1 => (mb ρ1).bind fun b ρ2 => liftO (f a.d b.d) ρ2
def mOp2V (f : D → D → Option Vc) (j : Nat) (mb : M Vc) : M Vc := fun ρ => match pk j ρ with
  | none => .bad
  | some _ => (mb ρ).bind fun b ρ2 => liftO ((pk j ρ2).bind fun d => f d b.d) ρ2
def mOp2W (f : D → D → Option Vc) (ma : M Vc) (j : Nat) : M Vc := fun ρ => (ma ρ).bind fun a ρ2 => liftO ((pk j ρ2).bind fun d => f a.d d) ρ2
theorem in_un {f : D → Option Vc} {r : V → Hp → VK → Prop} (hs : UnS T r f) : Le (tE T hx W (mUn f ma)) (tUn r (tE T hx W ma)) := by
  intro σ H Q hh
  obtain ⟨F, Hf, ρ, rl, o⟩ := hh
  refine tE_bind (P := oE T hx W F σ Hf Q) rl (Sub.refl _) (fun z => z) (fun _ _ z => z) o fun v H1 Hf1 c ρ1 r1 s0 s1 i o => ?_
  obtain ⟨c, e1, nv⟩ := oE_new r1 s0 o
  exact hs H1 Hf1 v _ c Q r1.sub (.inl i) e1 nv
theorem in_unV {f : D → Option Vc} {r : V → Hp → VK → Prop} {j : Nat} (hs : UnS T r f) : Le (tE T hx W (mUnV f j)) (tUn r (tVar j)) := by
  intro σ H Q hh
  obtain ⟨F, Hf, ρ, rl, o⟩ := hh
  obtain ⟨c, e1, nv⟩ := oE_new rl (Sub.refl _) o
  obtain ⟨d, h1, h2⟩ := Option.bind_eq_some_iff.mp e1
  obtain ⟨v, g1, g2⟩ := rl.pk h1
  exact ⟨v, g1, hs H Hf v d c Q rl.sub g2 h2 nv⟩
theorem in_op2 {f : D → D → Option Vc} {r : R2} (hs : OpS T r f) : Le (tE T hx W (mOp2 f ma mb)) (tOp r (tE T hx W ma) (tE T hx W mb)) := by
  intro σ H Q hh
  obtain ⟨F, Hf, ρ, rl, o⟩ := hh
  refine tE_bind (P := oE T hx W F σ Hf Q) rl (Sub.refl _) (fun z => z) (fun _ _ z => z) o fun v H1 Hf1 c1 ρ1 r1 s0 s1 i o => ?_
  refine tE_bind (P := oE T hx W F σ Hf Q) r1 s0 (fun z => z) (fun _ _ z => z) o fun u H2 Hf2 c2 ρ2 r2 s3 s4 i2 o => ?_
  obtain ⟨c, e1, nv⟩ := oE_new r2 s3 o
  exact hs H2 Hf2 v u _ _ c Q r2.sub (.inl (i.mono s4)) (.inl i2) e1 nv
theorem in_op2V {f : D → D → Option Vc} {r : R2} {j : Nat} (hs : OpS T r f) : Le (tE T hx W (mOp2V f j mb)) (tOp r (tVar j) (tE T hx W mb)) := by
  intro σ H Q hh
  obtain ⟨F, Hf, ρ, rl, o⟩ := hh
  unfold mOp2V at o
  cases c1 : pk j ρ with
  | none => rw [c1] at o; exact o.elim
  | some d0 =>
    rw [c1] at o
    obtain ⟨v, g1, g2⟩ := rl.pk c1
    refine ⟨v, g1, ?_⟩
    refine tE_bind (P := oE T hx W F σ Hf Q) rl (Sub.refl _) (fun z => z) (fun _ _ z => z) o fun u H2 Hf2 c2 ρ2 r2 s3 s4 i2 o => ?_
    obtain ⟨c, e1, nv⟩ := oE_new r2 s3 o
    obtain ⟨d, h1, h2⟩ := Option.bind_eq_some_iff.mp e1
    obtain ⟨v', k1, k2⟩ := r2.pk h1
    rw [g1] at k1
    cases k1
    exact hs H2 Hf2 v u d _ c Q r2.sub k2 (.inl i2) h2 nv
theorem in_op2W {f : D → D → Option Vc} {r : R2} {j : Nat} (hs : OpS T r f) : Le (tE T hx W (mOp2W f ma j)) (tOp r (tE T hx W ma) (tVar j)) := by
  intro σ H Q hh
  obtain ⟨F, Hf, ρ, rl, o⟩ := hh
  refine tE_bind (P := oE T hx W F σ Hf Q) rl (Sub.refl _) (fun z => z) (fun _ _ z => z) o fun u H2 Hf2 c2 ρ2 r2 s3 s4 i2 o => ?_
  obtain ⟨c, e1, nv⟩ := oE_new r2 s3 o
  obtain ⟨d, h1, h2⟩ := Option.bind_eq_some_iff.mp e1
  obtain ⟨v', k1, k2⟩ := r2.pk h1
  exact ⟨v', k1, hs H2 Hf2 u v' _ d c Q r2.sub (.inl i2) k2 h2 nv⟩
def mChain (f g : D → D → Option Vc) (ma mb mc : M Vc) : M Vc := fun ρ => (ma ρ).bind fun a ρ1 => (mb ρ1).bind fun b ρ2 => match f a.d b.d with
  | some (.fz (.bl true)) => (mc ρ2).bind fun c ρ3 => liftO (g b.d c.d) ρ3
  | some (.fz (.bl false)) => .ok (.fz (.bl false)) ρ2
  | _ => .bad
theorem in_chain {f g : D → D → Option Vc} {r r' : R2} (hs : OpS T r f) (hs' : OpS T r' g) : Le (tE T hx W (mChain f g ma mb mc)) (tChain r r' (tE T hx W ma) (tE T hx W mb) (tE T hx W mc)) := by
  intro σ H Q hh
  obtain ⟨F, Hf, ρ, rl, o⟩ := hh
  refine tE_bind (P := oE T hx W F σ Hf Q) rl (Sub.refl _) (fun z => z) (fun _ _ z => z) o fun v H1 Hf1 c1 ρ1 r1 s0 s1 i o => ?_
  refine tE_bind (P := oE T hx W F σ Hf Q) r1 s0 (fun z => z) (fun _ _ z => z) o fun u H2 Hf2 c2 ρ2 r2 s3 s4 i2 o => ?_
  cases e1 : f c1.d c2.d with
  | none => rw [e1] at o; exact o.elim
  | some q =>
    rw [e1] at o
    refine hs H2 Hf2 v u _ _ q _ r2.sub (.inl (i.mono s4)) (.inl i2) e1 fun w H3 Hf3 Lv st cr nd fr => ?_
    cases q with
    | ow d => exact o.elim
    | fz d =>
      obtain ⟨_, w', ew, iw⟩ := cr
      cases ew
      cases d with
      | bl k =>
        refine ⟨k, iw, ?_⟩
        have r3 := r2.step st
        cases k with
        | true =>
          refine iteT ?_
          refine tE_bind (P := oE T hx W F σ Hf Q) r3 (s3.trans st.s3) (fun z => z) (fun _ _ z => z) o fun y H4 Hf4 c4 ρ4 r4 s5 s6 i4 o => ?_
          obtain ⟨c, e2, nv⟩ := oE_new r4 s5 o
          exact hs' H4 Hf4 u y _ _ c Q r4.sub (.inl (i2.mono (st.s3.trans s6))) (.inl i4) e2 nv
        | false => exact iteF (o _ H3 Hf3 (r3.val rfl) (s3.trans st.s3))
      | _ => exact o.elim
def avs : List AV → Option (List D)
  | [] => some []
  | .val d :: r => (avs r).map (d :: ·)
  | .bor _ :: _ => none
theorem ArgsR.vals {Hf H : Hp} {σ : L2.St} : ∀ {as : List AV} {vs : List V} {ds : List D}, ArgsR T Hf σ as vs → avs as = some ds → IsL T Hf ds vs
  | [], _, _, h, e => by cases e; exact h
  | .bor _ :: _, _, _, _, e => by cases e
  | .val d :: r, vs, ds, ⟨v, rs, h1, h2, h3⟩, e => by
    obtain ⟨ds', e1, e2⟩ := Option.map_eq_some_iff.mp e
    subst e2
    exact ⟨v, rs, h1, h2, ArgsR.vals (H := H) h3 e1⟩
def mAnil : M (List AV) := fun ρ => .ok [] ρ
def mAcons (ma : M Vc) (mr : M (List AV)) : M (List AV) := fun ρ => (ma ρ).bind fun a ρ1 => (mr ρ1).bind fun as ρ2 => .ok (.val a.d :: as) ρ2
def mAbor (j : Nat) (mr : M (List AV)) : M (List AV) := fun ρ => match pk j ρ with
  | none => .bad
  | some _ => (mr ρ).bind fun as ρ2 => .ok (.bor j :: as) ρ2
def LeA (t' t : TA) : Prop := ∀ σ H Q, t' σ H Q → t σ H Q
theorem in_anil : LeA (tA T hx W mAnil) tNil := fun σ H Q ⟨F, Hf, ρ, rl, o⟩ => o [] H Hf rl (Sub.refl _) rfl
theorem in_acons {mr : M (List AV)} : LeA (tA T hx W (mAcons ma mr)) (tCons (tE T hx W ma) (tA T hx W mr)) := by
  intro σ H Q hh
  obtain ⟨F, Hf, ρ, rl, o⟩ := hh
  refine tE_bind (P := oA T hx W F σ Hf Q) rl (Sub.refl _) (fun z => z) (fun _ _ z => z) o fun v H1 Hf1 c1 ρ1 r1 s0 s1 i o => ?_
  refine tA_bind (P := oA T hx W F σ Hf Q) r1 s0 (fun z => z) (fun _ _ z => z) o fun vs H2 Hf2 as ρ2 r2 s3 s4 ar o => ?_
  exact o (v :: vs) H2 Hf2 r2 s3 ⟨v, vs, rfl, i.mono s4, ar⟩
theorem in_abor {mr : M (List AV)} {j : Nat} : LeA (tA T hx W (mAbor j mr)) (tCons (tVar j) (tA T hx W mr)) := by
  intro σ H Q hh
  obtain ⟨F, Hf, ρ, rl, o⟩ := hh
  unfold mAbor at o
  cases c1 : pk j ρ with
  | none => rw [c1] at o; exact o.elim
  | some d0 =>
    rw [c1] at o
    obtain ⟨v, g1, g2⟩ := rl.pk c1
    refine ⟨v, g1, ?_⟩
    refine tA_bind (P := oA T hx W F σ Hf Q) rl (Sub.refl _) (fun z => z) (fun _ _ z => z) o fun vs H2 Hf2 as ρ2 r2 s3 s4 ar o => ?_
    exact o (v :: vs) H2 Hf2 r2 s3 ⟨v, vs, rfl, g1, ar⟩
theorem da_nil : DA T hx X [] mAnil := ⟨fun W tk => PA.imp pa_nil in_anil⟩
theorem da_cons {es : List Expr} {mr : M (List AV)} (ha : DE T hx X a ma) (hr : DA T hx X es mr) (hs : starEach (a :: es) X.env = (false, eval a X.env) :: starEach es X.env) : DA T hx X (a :: es) (mAcons ma mr) :=
  ⟨fun W tk => PA.imp (pa_cons (ha.run W tk) (hr.run W tk) hs) in_acons⟩
theorem da_bor {es : List Expr} {mr : M (List AV)} {j : Nat} (ha : PE X a (tVar j)) (hr : DA T hx X es mr) (hs : starEach (a :: es) X.env = (false, eval a X.env) :: starEach es X.env) : DA T hx X (a :: es) (mAbor j mr) :=
  ⟨fun W tk => PA.imp (pa_cons ha (hr.run W tk) hs) in_abor⟩
def mCB (f : List D → Option Vc) (m : M (List AV)) : M Vc := fun ρ => (m ρ).bind fun as ρ1 => liftO ((avs as).bind f) ρ1
def mCBV (f : List D → Option Vc) (j : Nat) : M Vc := fun ρ => liftO ((pk j ρ).bind fun d => f [d]) ρ
theorem in_cb {m : M (List AV)} {f : List D → Option Vc} {r : List V → Hp → VK → Prop} (hs : CaS T r f) : Le (tE T hx W (mCB f m)) (tCB r (tA T hx W m)) := by
  intro σ H Q hh
  obtain ⟨F, Hf, ρ, rl, o⟩ := hh
  refine tA_bind (P := oE T hx W F σ Hf Q) rl (Sub.refl _) (fun z => z) (fun _ _ z => z) o fun vs H2 Hf2 as ρ2 r2 s3 s4 ar o => ?_
  obtain ⟨c, e1, nv⟩ := oE_new r2 s3 o
  obtain ⟨ds, h1, h2⟩ := Option.bind_eq_some_iff.mp e1
  exact hs H2 Hf2 vs ds c Q r2.sub (IsL.now (ArgsR.vals (H := H) ar h1)) h2 nv
theorem in_cbV {f : List D → Option Vc} {r : List V → Hp → VK → Prop} {j : Nat} (hs : CaS T r f) : Le (tE T hx W (mCBV f j)) (tCB r (tCons (tVar j) tNil)) := by
  intro σ H Q hh
  obtain ⟨F, Hf, ρ, rl, o⟩ := hh
  obtain ⟨c, e1, nv⟩ := oE_new rl (Sub.refl _) o
  obtain ⟨d, h1, h2⟩ := Option.bind_eq_some_iff.mp e1
  obtain ⟨v, g1, g2⟩ := rl.pk h1
  exact ⟨v, g1, hs H Hf [v] [d] c Q rl.sub ⟨v, [], rfl, g2, rfl⟩ h2 nv⟩
def mTup (m : M (List AV)) : M Vc := fun ρ => (m ρ).bind fun as ρ1 => liftO ((avs as).bind fun ds => if ds.length ≤ sizeLine then some (.fz (.tup ds)) else none) ρ1
def mLst (m : M (List AV)) : M Vc := fun ρ => (m ρ).bind fun as ρ1 => liftO ((avs as).bind fun ds => if ds.length ≤ sizeLine then some (.ow (.lst ds)) else none) ρ1
theorem in_tup {m : M (List AV)} : Le (tE T hx W (mTup m)) (tTup (tA T hx W m)) := by
  intro σ H Q hh
  obtain ⟨F, Hf, ρ, rl, o⟩ := hh
  refine tA_bind (P := oE T hx W F σ Hf Q) rl (Sub.refl _) (fun z => z) (fun _ _ z => z) o fun vs H2 Hf2 as ρ2 r2 s3 s4 ar o => ?_
  obtain ⟨c, e1, nv⟩ := oE_new r2 s3 o
  obtain ⟨ds, h1, h2⟩ := Option.bind_eq_some_iff.mp e1
  have il := ArgsR.vals (H := H) ar h1
  by_cases hl : ds.length ≤ sizeLine
  · rw [if_pos hl] at h2
    cases h2
    exact ⟨by rw [← Is.len il]; exact hl, fun p hp => nv.tup r2.sub il hp⟩
  · rw [if_neg hl] at h2
    cases h2
theorem in_lst {m : M (List AV)} : Le (tE T hx W (mLst m)) (tLst (tA T hx W m)) := by
  intro σ H Q hh
  obtain ⟨F, Hf, ρ, rl, o⟩ := hh
  refine tA_bind (P := oE T hx W F σ Hf Q) rl (Sub.refl _) (fun z => z) (fun _ _ z => z) o fun vs H2 Hf2 as ρ2 r2 s3 s4 ar o => ?_
  obtain ⟨c, e1, nv⟩ := oE_new r2 s3 o
  obtain ⟨ds, h1, h2⟩ := Option.bind_eq_some_iff.mp e1
  have il := ArgsR.vals (H := H) ar h1
  by_cases hl : ds.length ≤ sizeLine
  · rw [if_pos hl] at h2
    cases h2
    exact ⟨by rw [← Is.len il]; exact hl, fun p hp => nv.lst r2.sub il hp⟩
  · rw [if_neg hl] at h2
    cases h2
def mIf (mt : M Bool) (ma mb : M Vc) : M Vc := fun ρ => (mt ρ).bind fun b ρ1 => if b = true then ma ρ1 else mb ρ1
theorem in_ifExp {mt : M Bool} : Le (tE T hx W (mIf mt ma mb)) (tIf (tT T hx W mt) (tE T hx W ma) (tE T hx W mb)) := by
  intro σ H Q hh
  obtain ⟨F, Hf, ρ, rl, o⟩ := hh
  refine tT_bind (P := oE T hx W F σ Hf Q) rl (Sub.refl _) (fun z => z) (fun _ _ z => z) o fun H1 Hf1 k ρ1 r1 s0 s1 o => ?_
  have fin : ∀ m : M Vc, oE T hx W F σ Hf Q (m ρ1) → tE T hx W m σ H1 Q := fun m o => ⟨F, Hf1, ρ1, r1, by
    revert o
    cases m ρ1 with
    | ok c ρ2 => exact fun o v H' Hf' rv s => o v H' Hf' rv (s0.trans s)
    | exc x ρ2 => exact fun o => o
    | bad => exact fun o => o⟩
  cases k with
  | true => exact iteT (fin ma o)
  | false => exact iteF (fin mb o)

def truD : D → Option Bool
  | .non => some false
  | .bl b => some b
  | .int i => some (i != 0)
  | .str x => if x.length ≤ sizeLine then some ((x.length : Int) != 0) else none
  | .lst ds => some (!ds.isEmpty)
  | .tup ds => some (!ds.isEmpty)
  | _ => none
theorem IsL.empty {Hf : Hp} : ∀ {ds : List D} {xs : List V}, IsL T Hf ds xs → ds.isEmpty = xs.isEmpty
  | [], _, h => by rw [show _ = [] from h]; rfl
  | _ :: _, _, ⟨x, r, h1, _, h3⟩ => by rw [h1]; rfl
theorem truD_ok {Hf H : Hp} {d : D} {v : V} {k : Bool} (s : Sub Hf H) (i : IsN T Hf H d v) (h : truD d = some k) : TruV T.K v H k := by
  cases d with
  | non => rw [i.non]; cases h; rfl
  | bl b => rw [i.bl]; cases h; rfl
  | int n => rw [i.int]; cases h; rfl
  | str x =>
    rw [i.str]
    replace h : (if x.length ≤ sizeLine then some ((x.length : Int) != 0) else none) = some k := h
    by_cases hz : x.length ≤ sizeLine
    · rw [if_pos hz] at h; cases h; exact ⟨hz, rfl⟩
    · rw [if_neg hz] at h; cases h
  | lst ds =>
    obtain ⟨a, xs, rfl, q, il⟩ := i.lst s
    cases h
    exact .inl ⟨xs, q, by rw [il.empty]⟩
  | tup ds =>
    obtain ⟨a, xs, rfl, q, il⟩ := i.tup s
    cases h
    exact .inr (.inl ⟨xs, q, by rw [il.empty]⟩)
  | _ => cases h
def mTru (ma : M Vc) : M Bool := fun ρ => (ma ρ).bind fun a ρ1 => liftO (truD a.d) ρ1
def mTruV (j : Nat) : M Bool := fun ρ => liftO ((pk j ρ).bind truD) ρ
def LeT (t' t : TT) : Prop := ∀ σ H Q, t' σ H Q → t σ H Q
def tTru (K : PySem.W.Frag) (t : TE) : TT := fun σ H Q => t σ H fun x H' => ∃ k, TruV K x H' k ∧ Q k H'
theorem oT_lift {F : Fm} {σ : L2.St} {H Hf Hf0 : Hp} {ρ : Rho} {Q : Bool → Hp → Prop} {o : Option Bool} (rl : Rl T hx F σ H Hf ρ) (s : Sub Hf0 Hf) (h : oT T hx W F σ Hf0 Q (liftO o ρ)) : ∃ b, o = some b ∧ Q b H := by
  cases o with
  | none => exact h.elim
  | some b => exact ⟨b, rfl, h H Hf rl s⟩
theorem in_tru : LeT (tT T hx W (mTru ma)) (tTru T.K (tE T hx W ma)) := by
  intro σ H Q hh
  obtain ⟨F, Hf, ρ, rl, o⟩ := hh
  refine tE_bind (P := oT T hx W F σ Hf Q) rl (Sub.refl _) (fun z => z) (fun _ _ z => z) o fun v H1 Hf1 c1 ρ1 r1 s0 s1 i o => ?_
  obtain ⟨b, e, q⟩ := oT_lift r1 s0 o
  exact ⟨b, truD_ok r1.sub (.inl i) e, q⟩
theorem in_truV {j : Nat} : LeT (tT T hx W (mTruV j)) (tTru T.K (tVar j)) := by
  intro σ H Q hh
  obtain ⟨F, Hf, ρ, rl, o⟩ := hh
  obtain ⟨b, e, q⟩ := oT_lift rl (Sub.refl _) o
  obtain ⟨d, h1, h2⟩ := Option.bind_eq_some_iff.mp e
  obtain ⟨v, g1, g2⟩ := rl.pk h1
  exact ⟨v, g1, b, truD_ok rl.sub g2 h2, q⟩
def mTest (ma : M Vc) : M Bool := fun ρ => (ma ρ).bind fun a ρ1 => match a.d with
  | .bl b => .ok b ρ1
  | _ => .bad
theorem in_test {t : TE} (h : Le (tE T hx W ma) t) : LeT (tT T hx W (mTest ma)) (tTest t) := by
  intro σ H Q hh
  obtain ⟨F, Hf, ρ, rl, o⟩ := hh
  refine h σ H _ (tE_bind (P := oT T hx W F σ Hf Q) rl (Sub.refl _) (fun z => z) (fun _ _ z => z) o fun v H1 Hf1 c1 ρ1 r1 s0 s1 i o => ?_)
  revert i o
  cases c1.d with
  | bl b =>
    intro i o
    exact ⟨b, i, o H1 Hf1 r1 s0⟩
  | _ =>
    intro i o
    exact o.elim
theorem dt_of {m : M Bool} {t : WX → TT} (h : ∀ W, Takes X W → PT X e (t W)) (i : ∀ W, LeT (tT T hx W m) (t W)) : DT T hx X e m := ⟨fun W tk => PT.imp (h W tk) (i W)⟩
def mNot (mt : M Bool) : M Bool := fun ρ => (mt ρ).bind fun b ρ1 => .ok (!b) ρ1
def mAnd (m n : M Bool) : M Bool := fun ρ => (m ρ).bind fun b ρ1 => if b = true then n ρ1 else .ok false ρ1
def mOr (m n : M Bool) : M Bool := fun ρ => (m ρ).bind fun b ρ1 => if b = true then .ok true ρ1 else n ρ1
variable {mt nt : M Bool}
theorem in_not : LeT (tT T hx W (mNot mt)) (tNot (tT T hx W mt)) := by
  intro σ H Q hh
  obtain ⟨F, Hf, ρ, rl, o⟩ := hh
  exact tT_bind (P := oT T hx W F σ Hf Q) rl (Sub.refl _) (fun z => z) (fun _ _ z => z) o fun H1 Hf1 k ρ1 r1 s0 s1 o => o H1 Hf1 r1 s0
theorem tT_on {F : Fm} {σ : L2.St} {H1 Hf Hf1 : Hp} {ρ1 : Rho} {Q : Bool → Hp → Prop} (r1 : Rl T hx F σ H1 Hf1 ρ1) (s0 : Sub Hf Hf1) (o : oT T hx W F σ Hf Q (mt ρ1)) : tT T hx W mt σ H1 Q := ⟨F, Hf1, ρ1, r1, by
  revert o
  cases mt ρ1 with
  | ok c ρ2 => exact fun o H' Hf' rv s => o H' Hf' rv (s0.trans s)
  | exc x ρ2 => exact fun o => o
  | bad => exact fun o => o⟩
theorem in_and : LeT (tT T hx W (mAnd mt nt)) (tAnd (tT T hx W mt) (tT T hx W nt)) := by
  intro σ H Q hh
  obtain ⟨F, Hf, ρ, rl, o⟩ := hh
  refine tT_bind (P := oT T hx W F σ Hf Q) rl (Sub.refl _) (fun z => z) (fun _ _ z => z) o fun H1 Hf1 k ρ1 r1 s0 s1 o => ?_
  cases k with
  | true => exact iteT (tT_on r1 s0 o)
  | false => exact iteF (o H1 Hf1 r1 s0)
theorem in_or : LeT (tT T hx W (mOr mt nt)) (tOr (tT T hx W mt) (tT T hx W nt)) := by
  intro σ H Q hh
  obtain ⟨F, Hf, ρ, rl, o⟩ := hh
  refine tT_bind (P := oT T hx W F σ Hf Q) rl (Sub.refl _) (fun z => z) (fun _ _ z => z) o fun H1 Hf1 k ρ1 r1 s0 s1 o => ?_
  cases k with
  | true => exact iteT (o H1 Hf1 r1 s0)
  | false => exact iteF (tT_on r1 s0 o)
end
structure DW (T : Tb) (hx : HX) (X : Cx) (e : Expr) (m : M Bool) : Prop where
  run : ∀ W, Takes X W → PW X e (tT T hx W m)
theorem PW.imp {X : Cx} {e : Expr} {t t' : TT} (h : PW X e t) (i : ∀ σ H Q, t' σ H Q → t σ H Q) : PW X e t' := ⟨fun wh pins s σ H Q I q => h.run wh pins s σ H Q I (i _ _ _ q)⟩
section
variable {T : Tb} {hx : HX} {X : Cx} {a b : Expr} {rest : List Expr} {pos : Pos} {m n : M Bool}
theorem dt_not (h : DT T hx X a m) : DT T hx X (.UnaryOp .Not a pos) (mNot m) := ⟨fun W tk => PT.imp (pt_not (h.run W tk)) in_not⟩
theorem dw_and1 (h : DT T hx X a m) : DW T hx X (.BoolOp .And [a] pos) m := ⟨fun W tk => pw_and1 (h.run W tk)⟩
theorem dw_or1 (h : DT T hx X a m) : DW T hx X (.BoolOp .Or [a] pos) m := ⟨fun W tk => pw_or1 (h.run W tk)⟩
theorem dw_and (h : DT T hx X a m) (h' : DW T hx X (.BoolOp .And (b :: rest) pos) n) : DW T hx X (.BoolOp .And (a :: b :: rest) pos) (mAnd m n) := ⟨fun W tk => PW.imp (pw_and (h.run W tk) (h'.run W tk)) in_and⟩
theorem dw_or (h : DT T hx X a m) (h' : DW T hx X (.BoolOp .Or (b :: rest) pos) n) : DW T hx X (.BoolOp .Or (a :: b :: rest) pos) (mOr m n) := ⟨fun W tk => PW.imp (pw_or (h.run W tk) (h'.run W tk)) in_or⟩
theorem DW.dt {e : Expr} (h : DW T hx X e m) : DT T hx X e m := ⟨fun W tk => (h.run W tk).pt⟩
end
end DV

set_option Elab.async false
set_option linter.all false
set_option maxRecDepth 100000
set_option maxHeartbeats 2000000
namespace DV
open PySem PySem.Spec PyProof.Rows L2

def LeS (t' t : TS) : Prop := ∀ D σ H, t' D σ H → t D σ H
def sNext : MS := fun ρ => .next ρ
def sSeq (m n : MS) : MS := fun ρ => match m ρ with
  | .next ρ1 => n ρ1
  | r => r
def sBrk : MS := fun ρ => .brk ρ
def sCont : MS := fun ρ => .cont ρ
def sDrop (m : M Vc) : MS := fun ρ => match m ρ with
  | .ok _ ρ1 => .next ρ1
  | .exc x ρ1 => .exc x ρ1
  | .bad => .bad
def sRet (m : M Vc) : MS := fun ρ => match m ρ with
  | .ok c ρ1 => .ret c ρ1
  | .exc x ρ1 => .exc x ρ1
  | .bad => .bad
def sRetN : MS := fun ρ => .ret (.fz .non) ρ
def sRetV (j : Nat) : MS := fun ρ => match ρ[j]? with
  | some (.fz d) => .ret (.fz d) ρ
  | some (.ow d) => .ret (.ow d) (ρ.set j .no)
  | _ => .bad
def sIf (mt : M Bool) (m n : MS) : MS := fun ρ => match mt ρ with
  | .ok b ρ1 => if b = true then m ρ1 else n ρ1
  | .exc x ρ1 => .exc x ρ1
  | .bad => .bad
def setR (j : Nat) (c : Cell) (ρ : Rho) : Option Rho := match ρ[j]? with
  | none => none
  | some (.io _) => none
  | some _ => some (ρ.set j c)
def sSet (j : Nat) (m : M Vc) : MS := fun ρ => match m ρ with
  | .ok c ρ1 => match setR j c.cell ρ1 with
    | some ρ2 => .next ρ2
    | none => .bad
  | .exc x ρ1 => .exc x ρ1
  | .bad => .bad
abbrev Tgt := D → Rho → Option Rho
def gSet (j : Nat) : Tgt := fun d ρ => setR j (.fz d) ρ
def gSets : List Nat → List D → Rho → Option Rho
  | [], [], ρ => some ρ
  | j :: js, d :: ds, ρ => match setR j (.fz d) ρ with
    | some ρ1 => gSets js ds ρ1
    | none => none
  | _, _, _ => none
def gTupD (js : List Nat) : Tgt := fun d ρ => match d with
  | .tup ds => gSets js ds ρ
  | _ => none
def gLstD (js : List Nat) : Tgt := fun d ρ => match d with
  | .lst ds => gSets js ds ρ
  | _ => none
def sAsg (g : Tgt) (m : M Vc) : MS := fun ρ => match m ρ with
  | .ok c ρ1 => match g c.d ρ1 with
    | some ρ2 => .next ρ2
    | none => .bad
  | .exc x ρ1 => .exc x ρ1
  | .bad => .bad
def sAug (f : D → D → Option Vc) (j : Nat) (m : M Vc) : MS := fun ρ => match ρ[j]? with
  | some (.fz d) => match m ρ with
    | .ok c ρ1 => match f d c.d with
      | some z => match setR j z.cell ρ1 with
        | some ρ2 => .next ρ2
        | none => .bad
      | none => .bad
    | .exc x ρ1 => .exc x ρ1
    | .bad => .bad
  | _ => .bad
def putC (j : Nat) (d : D) (ρ : Rho) : Rho := match ρ[j]? with
  | some c => ρ.set j (c.as d)
  | none => ρ
def own (j : Nat) (ρ : Rho) : Option D := match ρ[j]? with
  | some (.ow d) => some d
  | some (.io d) => some d
  | _ => none

section
variable {T : Tb} {hx : HX} {X : Cx} {W : WX} {m n : MS} {ma : M Vc} {mt : M Bool}
theorem in_next : LeS (tS T hx W sNext) tNext := fun D σ H ⟨F, Hf, ρ, rl, o⟩ => o σ H Hf rl
theorem in_brk : LeS (tS T hx W sBrk) tBreak := fun D σ H ⟨F, Hf, ρ, rl, o⟩ => o σ H Hf rl
theorem in_cont : LeS (tS T hx W sCont) tCont := fun D σ H ⟨F, Hf, ρ, rl, o⟩ => o σ H Hf rl
theorem in_seq : LeS (tS T hx W (sSeq m n)) (tSeq (tS T hx W m) (tS T hx W n)) := by
  intro D σ H hh
  obtain ⟨F, Hf, ρ, rl, o⟩ := hh
  refine ⟨F, Hf, ρ, rl, ?_⟩
  unfold sSeq at o
  cases c1 : m ρ with
  | next ρ1 => rw [c1] at o; exact fun σ' H' Hf' r' => ⟨F, Hf', ρ1, r', o⟩
  | ret c ρ1 => rw [c1] at o; exact o
  | brk ρ1 => rw [c1] at o; exact o
  | cont ρ1 => rw [c1] at o; exact o
  | exc x ρ1 => rw [c1] at o; exact o
  | bad => rw [c1] at o; exact o
theorem tE_S {F : Fm} {σ : L2.St} {H Hf : Hp} {ρ : Rho} {Q : VK} {D : Ends} {k : Vc → Rho → SR} (rl : Rl T hx F σ H Hf ρ)
    (o : oS T hx W F D (match ma ρ with | .ok c ρ1 => k c ρ1 | .exc x ρ1 => .exc x ρ1 | .bad => .bad))
    (go : ∀ v H1 Hf1 c ρ1, RlV T hx F σ H1 Hf1 ρ1 c v → Sub Hf Hf1 → oS T hx W F D (k c ρ1) → Q v H1) : tE T hx W ma σ H Q := by
  refine ⟨F, Hf, ρ, rl, ?_⟩
  cases c1 : ma ρ with
  | ok c ρ1 => rw [c1] at o; exact fun v H1 Hf1 rv s => go v H1 Hf1 c ρ1 rv s o
  | exc x ρ1 => rw [c1] at o; exact o σ
  | bad => rw [c1] at o; exact o
theorem in_drop : LeS (tS T hx W (sDrop ma)) (tDrop (tE T hx W ma)) := by
  intro D σ H hh
  obtain ⟨F, Hf, ρ, rl, o⟩ := hh
  exact tE_S (k := fun _ ρ1 => .next ρ1) rl o fun v H1 Hf1 c ρ1 rv s o => o σ H1 Hf1 rv.drop
theorem in_ret : LeS (tS T hx W (sRet ma)) (tRet (tE T hx W ma)) := by
  intro D σ H hh
  obtain ⟨F, Hf, ρ, rl, o⟩ := hh
  exact tE_S (k := fun c ρ1 => .ret c ρ1) rl o fun v H1 Hf1 c ρ1 rv s o => o v σ H1 Hf1 rv
theorem in_retN : LeS (tS T hx W sRetN) tRetN := fun D σ H ⟨F, Hf, ρ, rl, o⟩ => o .non σ H Hf (rl.val rfl)
theorem in_retV {j : Nat} : LeS (tS T hx W (sRetV j)) (tRet (tVar j)) := by
  intro D σ H hh
  obtain ⟨F, Hf, ρ, rl, o⟩ := hh
  unfold sRetV at o
  cases c : ρ[j]? with
  | none => rw [c] at o; exact o.elim
  | some q =>
    rw [c] at o
    cases q with
    | fz d =>
      obtain ⟨u, e1, i⟩ := rl.data c
      exact ⟨u, e1, o u σ H Hf (rl.val i)⟩
    | ow d =>
      obtain ⟨a, e1, q, n, fr, _, mv⟩ := rl.owned c (.inl rfl)
      exact ⟨.ref a, e1, o _ σ H Hf (mv rfl (.ref a)).2⟩
    | no => exact o.elim
    | io d => exact o.elim
    | ex x => exact o.elim
    | ol d => exact o.elim
theorem tS_on {F : Fm} {D : Ends} {σ : L2.St} {H Hf : Hp} {ρ : Rho} (rl : Rl T hx F σ H Hf ρ) (o : oS T hx W F D (m ρ)) : tS T hx W m D σ H := ⟨F, Hf, ρ, rl, o⟩
theorem in_if : LeS (tS T hx W (sIf mt m n)) (tIfS (tT T hx W mt) (tS T hx W m) (tS T hx W n)) := by
  intro D σ H hh
  obtain ⟨F, Hf, ρ, rl, o⟩ := hh
  refine ⟨F, Hf, ρ, rl, ?_⟩
  unfold sIf at o
  cases c1 : mt ρ with
  | ok b ρ1 =>
    rw [c1] at o
    intro H1 Hf1 r1 s
    cases b with
    | true => exact iteT (tS_on r1 o)
    | false => exact iteF (tS_on r1 o)
  | exc x ρ1 => rw [c1] at o; exact o σ
  | bad => rw [c1] at o; exact o
theorem setR_some {j : Nat} {c : Cell} {ρ ρ' : Rho} (h : setR j c ρ = some ρ') : ∃ c0, ρ[j]? = some c0 ∧ (∀ d, c0 ≠ .io d) ∧ ρ' = ρ.set j c := by
  unfold setR at h
  cases e : ρ[j]? with
  | none => rw [e] at h; cases h
  | some c0 =>
    rw [e] at h
    cases c0 with
    | io d => cases h
    | no => cases h; exact ⟨_, rfl, (fun _ z => nomatch z), rfl⟩
    | fz d => cases h; exact ⟨_, rfl, (fun _ z => nomatch z), rfl⟩
    | ow d => cases h; exact ⟨_, rfl, (fun _ z => nomatch z), rfl⟩
    | ex x => cases h; exact ⟨_, rfl, (fun _ z => nomatch z), rfl⟩
    | ol x => cases h; exact ⟨_, rfl, (fun _ z => nomatch z), rfl⟩
theorem RlV.setR {F : Fm} {σ : L2.St} {H Hf : Hp} {ρ ρ' : Rho} {c : Vc} {v : V} {j : Nat} (r : RlV T hx F σ H Hf ρ c v) (h : setR j c.cell ρ = some ρ') : Rl T hx F (σ.set j (some v)) H Hf ρ' := by
  obtain ⟨c0, e, h0, rfl⟩ := setR_some h
  exact r.store e h0
theorem in_set {j : Nat} : LeS (tS T hx W (sSet j ma)) (tAsg (tE T hx W ma) (gName j)) := by
  intro D σ H hh
  obtain ⟨F, Hf, ρ, rl, o⟩ := hh
  refine tE_S (k := fun c ρ1 => match setR j c.cell ρ1 with | some ρ2 => .next ρ2 | none => .bad) rl o fun v H1 Hf1 c ρ1 rv s o => ?_
  cases e : setR j c.cell ρ1 with
  | none => rw [e] at o; exact o.elim
  | some ρ2 =>
    rw [e] at o
    exact o _ H1 Hf1 (rv.setR e)
structure DG (T : Tb) (hx : HX) (X : Cx) (tg : Expr) (f : Tgt) (js : List Nat) : Prop where
  ex : ∃ g, PG X tg g ∧ ∀ (F : Fm) (σ : L2.St) (H Hf : Hp) (ρ ρ' : Rho) (x : V) (d : D) (Q : L2.St → Hp → Prop), Rl T hx F σ H Hf ρ → Is T Hf d x → f d ρ = some ρ' →
    (∀ σ', Rl T hx F σ' H Hf ρ' → σ'.length = σ.length → (∀ i, i ∉ js → σ'[i]? = σ[i]?) → Q σ' H) → g x σ H Q
theorem dg_name {tg : Expr} {j : Nat} (h : PG X tg (gName j)) : DG T hx X tg (gSet j) [j] :=
  ⟨gName j, h, fun F σ H Hf ρ ρ' x d Q rl i e q => q _ ((rl.val i).setR (c := .fz d) e) (by rw [List.length_set]) fun k hk => by
    rw [List.getElem?_set_ne]
    intro z
    subst z
    exact hk (by simp)⟩
inductive PNs (X : Cx) : List Expr → List Nat → Prop where
  | nil : PNs X [] []
  | cons {e : Expr} {es : List Expr} {j : Nat} {js : List Nat} (h : PG X e (gName j)) (hr : PNs X es js) (hs : (assignEach (e :: es) X.env).map (·.2) = assign e X.env :: (assignEach es X.env).map (·.2)) : PNs X (e :: es) (j :: js)
def gNames : List Nat → TGs
  | [] => gNil
  | j :: js => gCons (gName j) (gNames js)
theorem PNs.pgs {es : List Expr} {js : List Nat} (h : PNs X es js) : PGs X es (gNames js) := by
  induction h with
  | nil => exact pgs_nil
  | cons h hr hs ih => exact pgs_cons h ih hs
theorem gSets_ok {F : Fm} {H Hf : Hp} {Q : L2.St → Hp → Prop} : ∀ {js : List Nat} {ds : List D} {xs : List V} {σ : L2.St} {ρ ρ' : Rho}, Rl T hx F σ H Hf ρ → IsL T Hf ds xs → gSets js ds ρ = some ρ' →
    (∀ σ', Rl T hx F σ' H Hf ρ' → σ'.length = σ.length → (∀ i, i ∉ js → σ'[i]? = σ[i]?) → Q σ' H) → gNames js xs σ H Q
  | [], [], xs, σ, ρ, ρ', rl, i, e, q => by
    cases e
    exact ⟨i, q σ rl rfl fun _ _ => rfl⟩
  | j :: js, d :: ds, xs, σ, ρ, ρ', rl, ⟨x, r, ex, i1, i2⟩, e, q => by
    cases e1 : setR j (.fz d) ρ with
    | none => unfold gSets at e; rw [e1] at e; cases e
    | some ρ1 =>
      have e2 : gSets js ds ρ1 = some ρ' := by
        unfold gSets at e
        rw [e1] at e
        exact e
      refine ⟨x, r, ex, ?_⟩
      refine gSets_ok (js := js) ((rl.val i1).setR (c := .fz d) e1) i2 e2 fun σ' r' hl hk => q σ' r' (by rw [hl, List.length_set]) fun k hkj => ?_
      rw [hk k fun z => hkj (List.mem_cons_of_mem _ z), List.getElem?_set_ne]
      intro z
      subst z
      exact hkj (by simp)
  | [], _ :: _, _, _, _, _, _, _, e, _ => by cases e
  | _ :: _, [], _, _, _, _, _, _, e, _ => by cases e
theorem dg_tup {es : List Expr} {js : List Nat} {k : Nat} {pos : Pos} (hc : X.calm = true) (h : PNs X es js) (hn : (assignEach es X.env).length = js.length) (hst : (assignEach es X.env).findIdx? (·.1) = none) (hK : T.K = X.K) :
    DG T hx X (.Tuple es k pos) (gTupD js) js := by
  refine ⟨_, pg_tup (n := js.length) hc h.pgs hn hst, fun F σ H Hf ρ ρ' x d Q rl i e q => ?_⟩
  cases d with
  | tup ds =>
    obtain ⟨a, xs, rfl, hq, il⟩ := i
    have hl : xs.length = js.length := by
      rw [← Is.len il]
      have : ∀ {js : List Nat} {ds : List D} {ρ ρ' : Rho}, gSets js ds ρ = some ρ' → ds.length = js.length := by
        intro js
        induction js with
        | nil => intro ds ρ ρ' e; cases ds with
          | nil => rfl
          | cons d r => cases e
        | cons j js ih => intro ds ρ ρ' e; cases ds with
          | nil => cases e
          | cons d r =>
            unfold gSets at e
            split at e
            · rw [List.length_cons, List.length_cons, ih e]
            · cases e
      exact this e
    refine ⟨a, xs, rfl, ?_, hl, gSets_ok rl il e q⟩
    rw [← hK]
    exact rl.sub.sqT hq
  | _ => cases e
theorem dg_lst {es : List Expr} {js : List Nat} {k : Nat} {pos : Pos} (hc : X.calm = true) (h : PNs X es js) (hn : (assignEach es X.env).length = js.length) (hst : (assignEach es X.env).findIdx? (·.1) = none) (hK : T.K = X.K) :
    DG T hx X (.Tuple es k pos) (gLstD js) js := by
  refine ⟨_, pg_lst (n := js.length) hc h.pgs hn hst, fun F σ H Hf ρ ρ' x d Q rl i e q => ?_⟩
  cases d with
  | lst ds =>
    obtain ⟨a, xs, rfl, hq, il⟩ := i
    have hl : xs.length = js.length := by
      rw [← Is.len il]
      have : ∀ {js : List Nat} {ds : List D} {ρ ρ' : Rho}, gSets js ds ρ = some ρ' → ds.length = js.length := by
        intro js
        induction js with
        | nil => intro ds ρ ρ' e; cases ds with
          | nil => rfl
          | cons d r => cases e
        | cons j js ih => intro ds ρ ρ' e; cases ds with
          | nil => cases e
          | cons d r =>
            unfold gSets at e
            split at e
            · rw [List.length_cons, List.length_cons, ih e]
            · cases e
      exact this e
    refine ⟨a, xs, rfl, ?_, hl, gSets_ok rl il e q⟩
    rw [← hK]
    exact rl.sub.sqL hq
  | _ => cases e
theorem in_asg {g : TG} {f : Tgt} (h : ∀ (F : Fm) (σ : L2.St) (H Hf : Hp) (ρ ρ' : Rho) (x : V) (d : D) (Q : L2.St → Hp → Prop), Rl T hx F σ H Hf ρ → Is T Hf d x → f d ρ = some ρ' → (∀ σ', Rl T hx F σ' H Hf ρ' → Q σ' H) → g x σ H Q) :
    LeS (tS T hx W (sAsg f ma)) (tAsg (tE T hx W ma) g) := by
  intro D σ H hh
  obtain ⟨F, Hf, ρ, rl, o⟩ := hh
  refine tE_S (k := fun c ρ1 => match f c.d ρ1 with | some ρ2 => .next ρ2 | none => .bad) rl o fun v H1 Hf1 c ρ1 rv s o => ?_
  cases e : f c.d ρ1 with
  | none => rw [e] at o; exact o.elim
  | some ρ2 =>
    rw [e] at o
    obtain ⟨Hf2, r2, s2, i2⟩ := rv.frz
    exact h F σ H1 Hf2 ρ1 ρ2 v _ _ r2 i2 e fun σ' r' => o σ' H1 Hf2 r'
theorem ds_asg {tg e : Expr} {f : Tgt} {js : List Nat} {pos : Pos} (he : DE T hx X e ma) (hg : DG T hx X tg f js) (hs : swapsWithSole [tg] e pos.line X.env = pure false) (hw : swappedStores [tg] e X.env = pure none)
    (h1 : (assignEach [tg] X.env).map (·.2) = [assign tg X.env]) : DS T hx X (.Assign [tg] e pos) (sAsg f ma) := by
  obtain ⟨g, pg, hk⟩ := hg.ex
  exact ⟨fun W tk => PS.imp (ps_asg (he.run W tk) pg hs hw h1) (in_asg fun F σ H Hf ρ ρ' x d Q rl i e q => hk F σ H Hf ρ ρ' x d Q rl i e fun σ' r' _ _ => q σ' r')⟩
def IpS (T : Tb) (t : TIp) (f : D → D → Option Vc) : Prop := OpS T t f
theorem in_aug {f : D → D → Option Vc} {j : Nat} {ti : TIp} (hs : OpS T ti f) : LeS (tS T hx W (sAug f j ma)) (tAug j (tE T hx W ma) ti) := by
  intro D σ H hh
  obtain ⟨F, Hf, ρ, rl, o⟩ := hh
  unfold sAug at o
  cases c : ρ[j]? with
  | none => rw [c] at o; exact o.elim
  | some q =>
    rw [c] at o
    cases q with
    | fz d =>
      obtain ⟨u, e1, i⟩ := rl.data c
      refine ⟨u, e1, ?_⟩
      refine tE_S (k := fun c ρ1 => match f d c.d with | some z => (match setR j z.cell ρ1 with | some ρ2 => .next ρ2 | none => .bad) | none => .bad) rl o fun v H1 Hf1 c ρ1 rv s o => ?_
      obtain ⟨Hf2, r2, s2, i2⟩ := rv.frz
      cases e2 : f d c.d with
      | none => rw [e2] at o; exact o.elim
      | some z =>
        rw [e2] at o
        refine hs H1 Hf2 u v d _ z _ r2.sub (.inl (i.mono (s.trans s2))) (.inl i2) e2 fun w H3 Hf3 Lv st cr nd fr => ?_
        change oS T hx W F D (match setR j z.cell ρ1 with | some ρ2 => .next ρ2 | none => .bad) at o
        cases e3 : setR j z.cell ρ1 with
        | none => rw [e3] at o; exact o.elim
        | some ρ2 =>
          rw [e3] at o
          exact o _ H3 Hf3 ((r2.stepV st cr nd fr).setR e3)
    | no => exact o.elim
    | ow d => exact o.elim
    | io d => exact o.elim
    | ex x => exact o.elim
    | ol d => exact o.elim
end
section
variable {T : Tb} {hx : HX} {X : Cx} {st : Stmt} {rest : List Stmt} {m n : MS} {pos : Pos}
theorem ds_of {t : WX → TS} (h : ∀ W, Takes X W → PS X st (t W)) (i : ∀ W, LeS (tS T hx W m) (t W)) : DS T hx X st m := ⟨fun W tk => PS.imp (h W tk) (i W)⟩
theorem dss_nil : DSs T hx X [] sNext := ⟨fun W tk => PSs.imp pss_nil in_next⟩
theorem dss_cons (h : DS T hx X st m) (hr : DSs T hx X rest n) : DSs T hx X (st :: rest) (sSeq m n) := ⟨fun W tk => PSs.imp (pss_cons (h.run W tk) (hr.run W tk)) in_seq⟩
theorem dss_one (h : DS T hx X st m) : DSs T hx X [st] m := ⟨fun W tk => pss_one (h.run W tk)⟩
theorem ds_pass : DS T hx X (.Pass pos) sNext := ds_of (fun _ _ => ps_pass) fun _ => in_next
theorem ds_brk : DS T hx X (.Break pos) sBrk := ds_of (fun _ _ => ps_break) fun _ => in_brk
theorem ds_cont : DS T hx X (.Continue pos) sCont := ds_of (fun _ _ => ps_continue) fun _ => in_cont
theorem ds_doc {x j p} : DS T hx X (.Expr (.Constant (.str x) j p) pos) sNext := ds_of (fun _ _ => ps_doc) fun _ => in_next
theorem ds_if {c : Expr} {a b : List Stmt} {mt : M Bool} (hc : DT T hx X c mt) (ha : DSs T hx X a m) (hb : DSs T hx X b n) : DS T hx X (.If c a b pos) (sIf mt m n) := ds_of (fun W tk => ps_if (hc.run W tk) (ha.run W tk) (hb.run W tk)) fun _ => in_if
theorem ds_ret {e : Expr} {ma : M Vc} (he : DE T hx X e ma) : DS T hx X (.Return (some e) pos) (sRet ma) := ds_of (fun W tk => ps_ret (he.run W tk)) fun _ => in_ret
theorem ds_retN : DS T hx X (.Return none pos) sRetN := ds_of (fun _ _ => ps_retN) fun _ => in_retN
theorem ds_retV {e : Expr} {j : Nat} (he : PE X e (tVar j)) : DS T hx X (.Return (some e) pos) (sRetV j) := ds_of (fun _ _ => ps_ret he) fun _ => in_retV
theorem ds_drop {e : Expr} {ma : M Vc} (he : DE T hx X e ma) (hs : swapsWith e none pos.line X.env = pure false) : DS T hx X (.Expr e pos) (sDrop ma) := ds_of (fun W tk => ps_expr (he.run W tk) hs) fun _ => in_drop
end

section
variable {T : Tb} {hx : HX} {X : Cx} {W : WX} {F : Fm} {σ σ' : L2.St} {H Hf H' Hf' : Hp} {ρ ρ' : Rho}
theorem Rl.within (r : Rl T hx F σ H Hf ρ) : ∃ F' : Fm, F'.Hf = Hf ∧ F'.H = H ∧ Rl T hx F' σ H Hf ρ ∧ (∀ {σ' : L2.St} {H' Hf' : Hp} {ρ' : Rho}, Rl T hx F' σ' H' Hf' ρ' → Rl T hx F σ' H' Hf' ρ') ∧
    (∀ {σ' : L2.St} {H' Hf' : Hp} {ρ' : Rho} {c : Vc} {v : V}, RlV T hx F' σ' H' Hf' ρ' c v → RlV T hx F σ' H' Hf' ρ' c v) := by
  obtain ⟨L, h1, h2, h3, h4⟩ := r.sl
  have up : ∀ {H' : Hp} {a : Addr}, a ∈ L ∨ H a = none → a ∈ F.L ∨ F.H a = none := fun {H' a} q => by
    rcases q with q | q
    · exact h4 a q
    · refine .inr ?_
      cases e : F.H a with
      | none => rfl
      | some o => exact absurd q (r.st.s0 a (by rw [e]; exact fun z => nomatch z))
  refine ⟨⟨H, Hf, L, F.io⟩, rfl, rfl, ⟨Stp.refl r.sub, L, h1, h2, h3, fun a ha => .inl ha⟩, fun {σ' H' Hf' ρ'} q => ?_, fun {σ' H' Hf' ρ' c v} q => ?_⟩
  · obtain ⟨L', g1, g2, g3, g4⟩ := q.sl
    exact ⟨r.st.trans q.st h4, L', g1, g2, g3, fun a ha => up (H' := H') (g4 a ha)⟩
  · obtain ⟨L', Lv, g1, g0, g2, g3, g4⟩ := q.sl
    exact ⟨r.st.trans q.st h4, L', Lv, g1, g0, g2, g3, fun a ha => up (H' := H') (g4 a ha)⟩
theorem oS_within {F' : Fm} {D : Ends} {r : SR} (h1 : ∀ {σ' : L2.St} {H' Hf' : Hp} {ρ' : Rho}, Rl T hx F' σ' H' Hf' ρ' → Rl T hx F σ' H' Hf' ρ')
    (h2 : ∀ {σ' : L2.St} {H' Hf' : Hp} {ρ' : Rho} {c : Vc} {v : V}, RlV T hx F' σ' H' Hf' ρ' c v → RlV T hx F σ' H' Hf' ρ' c v) (o : oS T hx W F D r) : oS T hx W F' D r := by
  cases r with
  | next ρ' => exact fun σ' H' Hf' q => o σ' H' Hf' (h1 q)
  | ret c ρ' => exact fun v σ' H' Hf' q => o v σ' H' Hf' (h2 q)
  | brk ρ' => exact fun σ' H' Hf' q => o σ' H' Hf' (h1 q)
  | cont ρ' => exact fun σ' H' Hf' q => o σ' H' Hf' (h1 q)
  | exc x ρ' => exact fun σ' cls dd H' Hf' q e => o σ' cls dd H' Hf' (h1 q) e
  | bad => exact o

def whileN (c : M Bool) (b : MS) : Nat → Rho → SR
  | 0, _ => .bad
  | n + 1, ρ => match c ρ with
    | .ok true ρ1 => match b ρ1 with
      | .next ρ2 => whileN c b n ρ2
      | .cont ρ2 => whileN c b n ρ2
      | .brk ρ2 => .next ρ2
      | r => r
    | .ok false ρ1 => .next ρ1
    | .exc x ρ1 => .exc x ρ1
    | .bad => .bad
theorem whileN_mono {c : M Bool} {b : MS} : ∀ {n : Nat} {ρ : Rho} {r : SR}, whileN c b n ρ = r → r ≠ .bad → whileN c b (n + 1) ρ = r
  | 0, ρ, r, h, hr => absurd h.symm hr
  | n + 1, ρ, r, h, hr => by
    unfold whileN at h ⊢
    cases c1 : c ρ with
    | ok k ρ1 =>
      rw [c1] at h
      cases k with
      | true =>
        cases c2 : b ρ1 with
        | next ρ2 => simp only [c2] at h ⊢; exact whileN_mono h hr
        | cont ρ2 => simp only [c2] at h ⊢; exact whileN_mono h hr
        | brk ρ2 => simp only [c2] at h ⊢; exact h
        | ret c ρ2 => simp only [c2] at h ⊢; exact h
        | exc x ρ2 => simp only [c2] at h ⊢; exact h
        | bad => simp only [c2] at h ⊢; exact h
      | false => exact h
    | exc x ρ1 => rw [c1] at h; exact h
    | bad => rw [c1] at h; exact h
theorem whileN_le {c : M Bool} {b : MS} {n k : Nat} {ρ : Rho} {r : SR} (h : whileN c b n ρ = r) (hr : r ≠ .bad) : whileN c b (n + k) ρ = r := by
  induction k with
  | zero => exact h
  | succ k ih => exact whileN_mono ih hr
open Classical in
noncomputable def sWhile (c : M Bool) (b : MS) : MS := fun ρ => if h : ∃ n, whileN c b n ρ ≠ .bad then whileN c b h.choose ρ else .bad
theorem sWhile_of {c : M Bool} {b : MS} {n : Nat} {ρ : Rho} {r : SR} (h : whileN c b n ρ = r) (hr : r ≠ .bad) : sWhile c b ρ = r := by
  have hex : ∃ n, whileN c b n ρ ≠ .bad := ⟨n, by rw [h]; exact hr⟩
  unfold sWhile
  rw [dif_pos hex]
  have h1 := whileN_le (k := n) rfl hex.choose_spec
  have h2 := whileN_le (k := hex.choose) h hr
  rw [Nat.add_comm] at h2
  rw [← h1, h2]
theorem sWhile_ex {c : M Bool} {b : MS} {ρ : Rho} {r : SR} (h : sWhile c b ρ = r) (hr : r ≠ .bad) : ∃ n, whileN c b n ρ = r := by
  unfold sWhile at h
  split at h
  · exact ⟨_, h⟩
  · exact absurd h.symm hr
theorem in_while {mt : M Bool} {m : MS} : LeS (tS T hx W (sWhile mt m)) (tWhile (tT T hx W mt) (tS T hx W m)) := by
  intro D σ H hh
  obtain ⟨F, Hf, ρ, rl, o⟩ := hh
  have hb : sWhile mt m ρ ≠ .bad := fun z => by rw [z] at o; exact o
  obtain ⟨n0, hn⟩ := sWhile_ex rfl hb
  rw [← hn] at o
  refine ⟨fun k σ H => ∃ Hf ρ, Rl T hx F σ H Hf ρ ∧ oS T hx W F D (whileN mt m k ρ), ⟨n0, Hf, ρ, rl, o⟩, ?_⟩
  rintro k σ1 H1 ⟨Hf1, ρ1, r1, o1⟩
  cases k with
  | zero => exact o1.elim
  | succ k =>
    refine ⟨F, Hf1, ρ1, r1, ?_⟩
    unfold whileN at o1
    cases c1 : mt ρ1 with
    | ok b ρ2 =>
      rw [c1] at o1
      intro H2 Hf2 r2 s2
      cases b with
      | true =>
        refine iteT ⟨fun σ' H' => ∃ Hf ρ, Rl T hx F σ' H' Hf ρ ∧ oS T hx W F D (whileN mt m k ρ), fun σ' H' z => ⟨k, Nat.lt_succ_self k, z⟩, F, Hf2, ρ2, r2, ?_⟩
        cases c2 : m ρ2 with
        | next ρ3 => simp only [c2] at o1; exact fun σ' H' Hf' r' => ⟨Hf', ρ3, r', o1⟩
        | cont ρ3 => simp only [c2] at o1; exact fun σ' H' Hf' r' => ⟨Hf', ρ3, r', o1⟩
        | brk ρ3 => simp only [c2] at o1; exact o1
        | ret c ρ3 => simp only [c2] at o1; exact o1
        | exc x ρ3 => simp only [c2] at o1; exact o1
        | bad => simp only [c2] at o1; exact o1
      | false => exact iteF (o1 _ H2 Hf2 r2)
    | exc x ρ2 => rw [c1] at o1; exact o1 _
    | bad => rw [c1] at o1; exact o1

def Wk (T : Tb) (Hf0 : Hp) (J : It) (ds : List D) : Prop := ∀ H Hf, Sub Hf0 Hf → Sub Hf H →
  (∀ i d, ds[i]? = some d → J.go i H ∧ ∀ x H', J.yld i H x H' → ∃ Hf', Stp [] H Hf H' Hf' ∧ Is T Hf' d x) ∧ J.stop ds.length H
def oI (T : Tb) (hx : HX) (W : WX) (F : Fm) (σ : L2.St) (Hf : Hp) (R' : It → Hp → Prop) : R (List D) → Prop
  | .ok ds ρ' => ∀ J H' Hf', Rl T hx F σ H' Hf' ρ' → Sub Hf Hf' → Wk T Hf' J ds → R' J H'
  | .exc x ρ' => Xw T hx W F σ x ρ'
  | .bad => False
def tI (T : Tb) (hx : HX) (W : WX) (m : M (List D)) : TI := fun σ H R' => ∃ F Hf ρ, Rl T hx F σ H Hf ρ ∧ oI T hx W F σ Hf R' (m ρ)
structure DI (T : Tb) (hx : HX) (X : Cx) (tg it : Expr) (m : M (List D)) : Prop where
  run : ∀ W, Takes X W → PI X tg it (tI T hx W m)
def LeI (t' t : TI) : Prop := ∀ σ H R, t' σ H R → t σ H R
theorem PI.imp {tg it : Expr} {t t' : TI} (h : PI X tg it t) (i : LeI t' t) : PI X tg it t' := ⟨fun pins s σ H R I q => h.run pins s σ H R I (i _ _ _ q)⟩
theorem di_of {tg it : Expr} {m : M (List D)} {t : WX → TI} (h : ∀ W, Takes X W → PI X tg it (t W)) (i : ∀ W, LeI (tI T hx W m) (t W)) : DI T hx X tg it m := ⟨fun W tk => PI.imp (h W tk) (i W)⟩
def forL (g : Tgt) (b : MS) : List D → Rho → SR
  | [], ρ => .next ρ
  | d :: ds, ρ => match g d ρ with
    | none => .bad
    | some ρ1 => match b ρ1 with
      | .next ρ2 => forL g b ds ρ2
      | .cont ρ2 => forL g b ds ρ2
      | .brk ρ2 => .next ρ2
      | r => r
def sFor (g : Tgt) (mi : M (List D)) (b : MS) : MS := fun ρ => match mi ρ with
  | .ok ds ρ1 => forL g b ds ρ1
  | .exc x ρ1 => .exc x ρ1
  | .bad => .bad
theorem in_for {mi : M (List D)} {f : Tgt} {m : MS} {g : TG}
    (hg : ∀ (F : Fm) (σ : L2.St) (H Hf : Hp) (ρ ρ' : Rho) (x : V) (d : D) (Q : L2.St → Hp → Prop), Rl T hx F σ H Hf ρ → Is T Hf d x → f d ρ = some ρ' → (∀ σ', Rl T hx F σ' H Hf ρ' → Q σ' H) → g x σ H Q) :
    LeS (tS T hx W (sFor f mi m)) (tFor (tI T hx W mi) g (tS T hx W m)) := by
  intro D σ H hh
  obtain ⟨F, Hf, ρ, rl, o⟩ := hh
  refine ⟨F, Hf, ρ, rl, ?_⟩
  unfold sFor at o
  cases c1 : mi ρ with
  | exc x ρ1 => rw [c1] at o; exact o σ
  | bad => rw [c1] at o; exact o
  | ok ds ρ1 =>
    rw [c1] at o
    intro J H1 Hf1 r1 s1 wk
    obtain ⟨F', eF, eH, r1', up, upV⟩ := r1.within
    have o' : oS T hx W F' D (forL f m ds ρ1) := oS_within up upV o
    refine ⟨fun i k σ H => k = ds.length - i ∧ i ≤ ds.length ∧ ∃ Hf ρ, Rl T hx F' σ H Hf ρ ∧ oS T hx W F' D (forL f m (ds.drop i) ρ), ⟨ds.length, by simp, Nat.zero_le _, Hf1, ρ1, r1', by simpa using o'⟩, ?_⟩
    rintro i k σ2 H2 ⟨rfl, hi, Hf2, ρ2, r2, o2⟩
    have sb : Sub Hf1 Hf2 := by
      have := r2.st.s3
      rw [eF] at this
      exact this
    obtain ⟨wgo, wst⟩ := wk H2 Hf2 sb r2.sub
    by_cases hlt : i < ds.length
    · have hd : ds[i]? = some ds[i] := List.getElem?_eq_getElem hlt
      obtain ⟨go, yl⟩ := wgo i _ hd
      refine .inr ⟨go, fun σ' H' => i + 1 ≤ ds.length ∧ ∃ Hf ρ, Rl T hx F' σ' H' Hf ρ ∧ oS T hx W F' D (forL f m (ds.drop (i + 1)) ρ), fun σ' H' z => ⟨ds.length - (i + 1), by omega, rfl, z⟩, fun x H3 hy => ?_⟩
      obtain ⟨Hf3, st, ix⟩ := yl x H3 hy
      rw [List.drop_eq_getElem_cons hlt] at o2
      unfold forL at o2
      cases e1 : f ds[i] ρ2 with
      | none => rw [e1] at o2; exact o2.elim
      | some ρ3 =>
        rw [e1] at o2
        refine hg F' σ2 H3 Hf3 ρ2 ρ3 x _ _ (r2.step st) ix e1 fun σ4 r4 => ⟨F', Hf3, ρ3, r4, ?_⟩
        cases c2 : m ρ3 with
        | next ρ4 => simp only [c2] at o2; exact fun σ' H' Hf' r' => ⟨hlt, Hf', ρ4, r', o2⟩
        | cont ρ4 => simp only [c2] at o2; exact fun σ' H' Hf' r' => ⟨hlt, Hf', ρ4, r', o2⟩
        | brk ρ4 => simp only [c2] at o2; exact o2
        | ret c ρ4 => simp only [c2] at o2; exact o2
        | exc x ρ4 => simp only [c2] at o2; exact o2
        | bad => simp only [c2] at o2; exact o2
    · have e : i = ds.length := by omega
      subst e
      rw [List.drop_length] at o2
      exact .inl ⟨wst, o2 _ H2 Hf2 r2⟩
theorem ds_for {tg it : Expr} {body : List Stmt} {f : Tgt} {js : List Nat} {mi : M (List D)} {m : MS} {pos : Pos} (hp : PassesOwn (model X.prog X.w) X.A X.env X.xe) (hc : X.calm = true) (hi : DI T hx X tg it mi) (hg : DG T hx X tg f js) (hb : DSs T hx X body m)
    (hs : ∀ x, foldedSetIterable it X.env x = pure x) : DS T hx X (.For tg it body [] pos) (sFor f mi m) := by
  obtain ⟨g, pg, hk⟩ := hg.ex
  exact ⟨fun W tk => PS.imp (ps_for hp hc (hi.run W tk) pg (hb.run W tk) hs) (in_for fun F σ H Hf ρ ρ' x d Q rl i e q => hk F σ H Hf ρ ρ' x d Q rl i e fun σ' r' _ _ => q σ' r')⟩
theorem ds_while {c : Expr} {body : List Stmt} {mt : M Bool} {m : MS} {pos : Pos} (hp : PassesOwn (model X.prog X.w) X.A X.env X.xe) (hc : DT T hx X c mt) (hb : DSs T hx X body m) : DS T hx X (.While c body [] pos) (sWhile mt m) :=
  ⟨fun W tk => PS.imp (ps_while hp (hc.run W tk) (hb.run W tk)) in_while⟩
end
end DV

set_option Elab.async false
set_option linter.all false
set_option maxRecDepth 100000
set_option maxHeartbeats 2000000
namespace DV
open PySem PySem.Spec PyProof.Rows L2

mutual
def D.py : D → PyData
  | .bl b => .bool b
  | .int i => .int i
  | .str x => .str x
  | .tup ds => .tuple (D.pyL ds)
  | .lst ds => .list (D.pyL ds)
  | _ => .none
def D.pyL : List D → List PyData
  | [] => []
  | d :: ds => D.py d :: D.pyL ds
end
mutual
def D.isPy : D → Bool
  | .non => true
  | .bl _ => true
  | .int _ => true
  | .str _ => true
  | .tup ds => D.isPyL ds
  | .lst ds => D.isPyL ds
  | _ => false
def D.isPyL : List D → Bool
  | [] => true
  | d :: ds => D.isPy d && D.isPyL ds
end
def D.flat : D → Bool
  | .non => true | .bl _ => true | .int _ => true | .str _ => true | _ => false
def vOf : D → V
  | .bl b => .bl b | .int i => .int i | .str x => .str x | _ => .non
section
variable {T : Tb} {Hf H : Hp} {v : V}
theorem IsN.flat {d : D} (f : d.flat = true) (h : IsN T Hf H d v) : v = vOf d := by
  cases d with
  | non => exact h.non
  | bl b => exact h.bl
  | int i => exact h.int
  | str x => exact h.str
  | _ => cases f
mutual
theorem Is.dp (s : Sub Hf H) : ∀ {d : D} {v : V}, d.isPy = true → Is T Hf d v → Dp T.K H v d.py
  | .non, _, _, h => by rw [show _ = V.non from h]; exact .non
  | .bl b, _, _, h => by rw [show _ = V.bl b from h]; exact .bl b
  | .int i, _, _, h => by rw [show _ = V.int i from h]; exact .int i
  | .str x, _, _, h => by rw [show _ = V.str x from h]; exact .str x
  | .tup ds, _, p, ⟨a, xs, e, q, il⟩ => by rw [e]; exact .tup (s.sqT q) (IsL.dp s p il)
  | .lst ds, _, p, ⟨a, xs, e, q, il⟩ => by rw [e]; exact .lst (s.sqL q) (IsL.dp s p il)
  | .ins _ _ _, _, p, _ => by cases p
  | .dK _ _, _, p, _ => by cases p
  | .dT _ _, _, p, _ => by cases p
  | .cls _, _, p, _ => by cases p
  | .ty _, _, p, _ => by cases p
  | .fn _, _, p, _ => by cases p
theorem IsL.dp (s : Sub Hf H) : ∀ {ds : List D} {xs : List V}, D.isPyL ds = true → IsL T Hf ds xs → DpAll T.K H xs (D.pyL ds)
  | [], _, _, h => by rw [show _ = [] from h]; exact .nil
  | d :: ds, _, p, ⟨x, r, e, h1, h2⟩ => by
    rw [e]
    obtain ⟨p1, p2⟩ := Bool.and_eq_true_iff.mp (show (d.isPy && D.isPyL ds) = true from p)
    exact .cons (Is.dp s p1 h1) (IsL.dp s p2 h2)
end
theorem IsN.dp {d : D} (s : Sub Hf H) (p : d.isPy = true) (h : IsN T Hf H d v) : Dp T.K H v d.py := by
  rcases h with h | ⟨a, e, h⟩
  · exact h.dp s p
  · cases d with
    | lst ds =>
      obtain ⟨xs, q, il⟩ := h
      rw [e]
      exact .lst (SqL.of q) (IsL.dp s p il)
    | ins c ns ds => cases p
    | dK c ns => cases p
    | dT c ns => cases p
    | _ => exact h.elim
end

abbrev fzb (b : Bool) : Option Vc := some (.fz (.bl b))
abbrev fzi (i : Int) : Option Vc := some (.fz (.int i))
@[simp] def opAdd : D → D → Option Vc
  | .int i, .int j => fzi (i + j)
  | .str x, .str y => if x.length + y.length ≤ sizeLine then some (.fz (.str (x ++ y))) else none
  | .tup xs, .tup ys => if xs.length + ys.length ≤ sizeLine then some (.fz (.tup (xs ++ ys))) else none
  | .lst xs, .lst ys => if xs.length + ys.length ≤ sizeLine then some (.ow (.lst (xs ++ ys))) else none
  | _, _ => none
@[simp] def opSub : D → D → Option Vc
  | .int i, .int j => fzi (i - j)
  | _, _ => none
def opMul : D → D → Option Vc
  | .int i, .int j => if i.natAbs.log2 + j.natAbs.log2 < 1000000 then fzi (i * j) else none
  | .tup xs, .int k => if xs ≠ [] ∧ 2 ≤ k ∧ k ≤ 1000 ∧ xs.length ≤ 1000 then some (.fz (.tup (List.replicate k.toNat xs).flatten)) else none
  | _, _ => none
def opDiv : D → D → Option Vc
  | .int i, .int j => if 0 < j ∧ j.natAbs.log2 < 9000 then fzi (i / j) else none
  | _, _ => none
@[simp] def opMod : D → D → Option Vc
  | .int i, .int j => if 0 < j then fzi (i % j) else none
  | _, _ => none
def opPow : D → D → Option Vc
  | .int i, .int j => if 0 ≤ j ∧ j ≤ 1000000 ∧ i.natAbs < 2 ^ 64 then fzi (i ^ j.toNat) else none
  | _, _ => none
@[simp] def opNeg : D → Option Vc
  | .int i => fzi (-i)
  | _ => none
def opNotV : D → Option Vc := fun d => (truD d).bind fun b => fzb (!b)
def eqD (d e : D) : Option Bool :=
  if d.flat && e.flat then some (PyData.eqv d.py e.py)
  else if d.isPy && e.isPy && SeqAt.shaped d.py && SeqAt.shaped e.py then some (PyData.eqv d.py e.py) else none
def opEq (d e : D) : Option Vc := (eqD d e).bind fun b => fzb b
def opNe (d e : D) : Option Vc := (eqD d e).bind fun b => fzb (!b)
@[simp] def opLt : D → D → Option Vc
  | .int i, .int j => fzb (decide (i < j))
  | .str x, .str y => fzb (decide (x.cps.toList < y.cps.toList))
  | _, _ => none
@[simp] def opLe : D → D → Option Vc
  | .int i, .int j => fzb (decide (i ≤ j))
  | .str x, .str y => fzb (!decide (y.cps.toList < x.cps.toList))
  | _, _ => none
@[simp] def opGt : D → D → Option Vc
  | .int i, .int j => fzb (decide (j < i))
  | .str x, .str y => fzb (decide (y.cps.toList < x.cps.toList))
  | _, _ => none
@[simp] def opGe : D → D → Option Vc
  | .int i, .int j => fzb (decide (j ≤ i))
  | .str x, .str y => fzb (!decide (x.cps.toList < y.cps.toList))
  | _, _ => none
@[simp] def isNon : D → Option Bool
  | .non => some true
  | .bl _ => some false | .int _ => some false | .str _ => some false | .tup _ => some false | .lst _ => some false | .ins _ _ _ => some false | .dK _ _ => some false | .dT _ _ => some false | .cls _ => some false | .fn _ => some false | .ty _ => some false
def opIsN (d : D) : Option Vc := (isNon d).bind fun b => fzb b
def opNotN (d : D) : Option Vc := (isNon d).bind fun b => fzb (!b)
def inD : D → D → Option Bool
  | .str ⟨⟨[c]⟩⟩, .str z => some (decide (c ∈ z.cps.toList))
  | d, .lst ds => if d.flat && ds.all D.flat then some (ds.any fun z => PyData.eqv z.py d.py)
      else if d.isPy && (D.lst ds).isPy && SeqAt.shaped d.py && SeqAt.shaped (D.lst ds).py then some ((D.pyL ds).any fun z => PyData.eqv z d.py) else none
  | d, .tup ds => if d.flat && ds.all D.flat then some (ds.any fun z => PyData.eqv z.py d.py) else none
  | _, _ => none
def opIn (d e : D) : Option Vc := (inD d e).bind fun b => fzb b
def opNotIn (d e : D) : Option Vc := (inD d e).bind fun b => fzb (!b)
def opIx : D → D → Option Vc
  | .lst ds, .int i => (atI ds i).map .fz
  | .tup ds, .int i => (atI ds i).map .fz
  | .str z, .int i => if z.length ≤ sizeLine then (atI z.cps.toList i).map fun c => .fz (.str ⟨#[c]⟩) else none
  | _, _ => none
def cutD (ds : List D) (lo hi : Option Int) : List D := (ds.drop (HT.sIx ds.length 0 lo)).take (HT.sIx ds.length ds.length hi - HT.sIx ds.length 0 lo)
def opSl (d : D) (lo hi : Option Int) : Option Vc := match d with
  | .lst ds => some (.ow (.lst (cutD ds lo hi)))
  | .tup ds => some (.fz (.tup (cutD ds lo hi)))
  | .str z => if z.length ≤ sizeLine then some (.fz (.str (cutS z lo hi))) else none
  | _ => none

section
variable {X : Cx} {T : Tb}
def rCatL (K : PySem.W.Frag) : R2 := fun x y H Q => ∃ l b xs zs, x = .ref l ∧ y = .ref b ∧ SqL K H l xs ∧ SqL K H b zs ∧ xs.length + zs.length ≤ sizeLine ∧ ∀ p, H p = none → Q (.ref p) (upd H p (.lst (xs ++ zs)))
theorem op_catL : OpR X (binaryOp .Add) (rCatL X.K) := by
  intro pins s σ H x y v u Q I rx ry h
  obtain ⟨l, b, xs, zs, rfl, rfl, hH, hB, hz, q⟩ := h
  cases rx
  cases ry
  obtain ⟨its, r, pl, z⟩ := I.list hH
  obtain ⟨its2, r2, pl2, z2⟩ := I.list hB
  have h1 := r.length
  have h2 := r2.length
  obtain ⟨⟨cls, dd, data, sl⟩, ho, hc, n, hd⟩ := pl.isList
  obtain ⟨⟨cls2, dd2, data2, sl2⟩, ho2, hc2, n2, hd2⟩ := pl2.isList
  simp only at hc hd hc2 hd2
  subst hc hd hc2 hd2
  have e : its.toArray ++ its2.toArray = (its ++ its2).toArray := by simp
  refine concat_meets ⟨_, ho, rfl⟩ ⟨_, ho2, rfl⟩ noFill_list_add seq_list_add PySem.F.slot_list_add PySem.F.entry_list_add (PySem.F.args_list_add_2 _ _) (list_addW l b its.toArray its2.toArray n n2 dd dd2 sl sl2 (by simp only [List.size_toArray]; omega)) ⟨ho, ho2, ?_⟩
  rw [e]
  exact ⟨.ref _, _, I.lnew (t' := s.toks) (r.append r2) (by rw [List.length_append]; omega), rfl, q _ I.fresh⟩

def rAddStr : R2 := fun x y H Q => ∃ i j, x = .str i ∧ y = .str j ∧ i.length + j.length ≤ sizeLine ∧ Q (.str (i ++ j)) H
def rAddA (K : PySem.W.Frag) : R2 := fun x y H Q => rI0 (fun i j => .int (i + j)) x y H Q ∨ rAddStr x y H Q ∨ rCatA K x y H Q ∨ rCatL K x y H Q
theorem op_addA : OpR X (binaryOp .Add) (rAddA X.K) := op_add.or (op_add_str.or (op_catA.or op_catL))
theorem s_add : OpS T (rAddA T.K) opAdd := by
  intro H Hf x y d e c Q s hx hy h nv
  cases d with
  | int i =>
    cases e with
    | int j => cases h; rw [hx.int, hy.int]; exact .inl ⟨i, j, rfl, rfl, nv.same s rfl⟩
    | _ => cases h
  | str a =>
    cases e with
    | str b =>
      replace h : (if a.length + b.length ≤ sizeLine then some (Vc.fz (.str (a ++ b))) else none) = some c := h
      by_cases hz : a.length + b.length ≤ sizeLine
      · rw [if_pos hz] at h
        cases h
        rw [hx.str, hy.str]
        exact .inr (.inl ⟨a, b, rfl, rfl, hz, nv.same s rfl⟩)
      · rw [if_neg hz] at h; cases h
    | _ => cases h
  | tup xs =>
    cases e with
    | tup ys =>
      replace h : (if xs.length + ys.length ≤ sizeLine then some (Vc.fz (.tup (xs ++ ys))) else none) = some c := h
      by_cases hz : xs.length + ys.length ≤ sizeLine
      · rw [if_pos hz] at h
        cases h
        obtain ⟨a, us, rfl, q1, i1⟩ := hx.tup s
        obtain ⟨b, vs, rfl, q2, i2⟩ := hy.tup s
        refine .inr (.inr (.inl ⟨a, b, us, vs, rfl, rfl, q1, q2, by rw [← Is.len i1, ← Is.len i2]; exact hz, fun e => ?_, fun _ e => ?_, fun _ _ p hp => nv.tup s (i1.append i2) hp⟩))
        · subst e
          have ex : xs = [] := List.length_eq_zero_iff.mp (Is.len i1)
          subst ex
          rcases hy with hy | ⟨_, _, hy⟩
          · exact nv.same s hy
          · exact hy.elim
        · subst e
          have ey : ys = [] := List.length_eq_zero_iff.mp (Is.len i2)
          subst ey
          rw [List.append_nil] at nv
          rcases hx with hx | ⟨_, _, hx⟩
          · exact nv.same s hx
          · exact hx.elim
      · rw [if_neg hz] at h; cases h
    | _ => cases h
  | lst xs =>
    cases e with
    | lst ys =>
      replace h : (if xs.length + ys.length ≤ sizeLine then some (Vc.ow (.lst (xs ++ ys))) else none) = some c := h
      by_cases hz : xs.length + ys.length ≤ sizeLine
      · rw [if_pos hz] at h
        cases h
        obtain ⟨a, us, rfl, q1, i1⟩ := hx.lst s
        obtain ⟨b, vs, rfl, q2, i2⟩ := hy.lst s
        exact .inr (.inr (.inr ⟨a, b, us, vs, rfl, rfl, q1, q2, by rw [← Is.len i1, ← Is.len i2]; exact hz, fun p hp => nv.lst s (i1.append i2) hp⟩))
      · rw [if_neg hz] at h; cases h
    | _ => cases h
  | _ => cases h
theorem s_sub : OpS T (rI0 fun i j => .int (i - j)) opSub := by
  intro H Hf x y d e c Q s hx hy h nv
  cases d with
  | int i =>
    cases e with
    | int j => cases h; rw [hx.int, hy.int]; exact ⟨i, j, rfl, rfl, nv.same s rfl⟩
    | _ => cases h
  | _ => cases h
def rMulA (K : PySem.W.Frag) : R2 := fun x y H Q => rI CMulW (fun i j => .int (i * j)) x y H Q ∨ rRepT K x y H Q
theorem op_mulA : OpR X (binaryOp .Mult) (rMulA X.K) := op_mulW.or op_repT
theorem s_mul : OpS T (rMulA T.K) opMul := by
  intro H Hf x y d e c Q s hx hy h nv
  cases d with
  | int i =>
    cases e with
    | int j =>
      replace h : (if i.natAbs.log2 + j.natAbs.log2 < 1000000 then fzi (i * j) else none) = some c := h
      by_cases hz : i.natAbs.log2 + j.natAbs.log2 < 1000000
      · rw [if_pos hz] at h
        cases h
        rw [hx.int, hy.int]
        exact .inl ⟨i, j, rfl, rfl, hz, nv.same s rfl⟩
      · rw [if_neg hz] at h; cases h
    | _ => cases h
  | tup xs =>
    cases e with
    | int k =>
      replace h : (if xs ≠ [] ∧ 2 ≤ k ∧ k ≤ 1000 ∧ xs.length ≤ 1000 then some (Vc.fz (.tup (List.replicate k.toNat xs).flatten)) else none) = some c := h
      by_cases hz : xs ≠ [] ∧ 2 ≤ k ∧ k ≤ 1000 ∧ xs.length ≤ 1000
      · rw [if_pos hz] at h
        cases h
        obtain ⟨z1, z2, z3, z4⟩ := hz
        obtain ⟨a, us, rfl, q1, i1⟩ := hx.tup s
        rw [hy.int]
        refine .inr ⟨a, k, us, rfl, rfl, q1, fun z => z1 ?_, z2, z3, by rw [← Is.len i1]; exact z4, fun p hp => nv.tup s (i1.rep _) hp⟩
        subst z
        exact List.length_eq_zero_iff.mp (Is.len i1)
      · rw [if_neg hz] at h; cases h
    | _ => cases h
  | _ => cases h
theorem s_div : OpS T (rI CDivW fun i j => .int (i / j)) opDiv := by
  intro H Hf x y d e c Q s hx hy h nv
  cases d with
  | int i =>
    cases e with
    | int j =>
      replace h : (if 0 < j ∧ j.natAbs.log2 < 9000 then fzi (i / j) else none) = some c := h
      by_cases hz : 0 < j ∧ j.natAbs.log2 < 9000
      · rw [if_pos hz] at h
        cases h
        rw [hx.int, hy.int]
        exact ⟨i, j, rfl, rfl, hz, nv.same s rfl⟩
      · rw [if_neg hz] at h; cases h
    | _ => cases h
  | _ => cases h
theorem s_mod : OpS T (rI (fun _ j => 0 < j) fun i j => .int (i % j)) opMod := by
  intro H Hf x y d e c Q s hx hy h nv
  cases d with
  | int i =>
    cases e with
    | int j =>
      replace h : (if 0 < j then fzi (i % j) else none) = some c := h
      by_cases hz : 0 < j
      · rw [if_pos hz] at h
        cases h
        rw [hx.int, hy.int]
        exact ⟨i, j, rfl, rfl, hz, nv.same s rfl⟩
      · rw [if_neg hz] at h; cases h
    | _ => cases h
  | _ => cases h
theorem s_pow : OpS T (rI CPow fun i j => .int (i ^ j.toNat)) opPow := by
  intro H Hf x y d e c Q s hx hy h nv
  cases d with
  | int i =>
    cases e with
    | int j =>
      replace h : (if 0 ≤ j ∧ j ≤ 1000000 ∧ i.natAbs < 2 ^ 64 then fzi (i ^ j.toNat) else none) = some c := h
      by_cases hz : 0 ≤ j ∧ j ≤ 1000000 ∧ i.natAbs < 2 ^ 64
      · rw [if_pos hz] at h
        cases h
        rw [hx.int, hy.int]
        exact ⟨i, j, rfl, rfl, hz, nv.same s rfl⟩
      · rw [if_neg hz] at h; cases h
    | _ => cases h
  | _ => cases h
theorem s_neg : UnS T (rU fun i => .int (-i)) opNeg := by
  intro H Hf x d c Q s hx h nv
  cases d with
  | int i => cases h; rw [hx.int]; exact ⟨i, rfl, nv.same s rfl⟩
  | _ => cases h
def rNotT (K : PySem.W.Frag) : V → Hp → VK → Prop := fun x H Q => ∃ k, TruV K x H k ∧ Q (.bl (!k)) H
theorem s_not : UnS T (rNotT T.K) opNotV := by
  intro H Hf x d c Q s hx h nv
  obtain ⟨b, h1, h2⟩ := Option.bind_eq_some_iff.mp h
  cases h2
  exact ⟨b, truD_ok s hx h1, nv.same s rfl⟩
def rEqA (K : PySem.W.Frag) : R2 := fun x y H Q => rEq x y H Q ∨ rEqD K x y H Q
def rNeA (K : PySem.W.Frag) : R2 := fun x y H Q => rNe x y H Q ∨ rNeD K x y H Q
theorem op_eqA (hu : X.A.units + 64 < cLine) : OpR X (compareOp .Eq) (rEqA X.K) := op_eq.or (op_eqD hu)
theorem op_neA (hu : X.A.units + 64 < cLine) : OpR X (compareOp .NotEq) (rNeA X.K) := op_ne.or (op_neD hu)
theorem flat_py {d : D} (h : d.flat = true) : d.isPy = true := by
  cases d with
  | non => rfl
  | bl b => rfl
  | int i => rfl
  | str x => rfl
  | _ => cases h
theorem flat_eq {d e : D} (h1 : d.flat = true) (h2 : e.flat = true) : (scal (vOf d) (vOf e) = true ∧ PyData.eqv d.py e.py = decide (vOf d = vOf e)) ∨ (SeqAt.shaped d.py = true ∧ SeqAt.shaped e.py = true) := by
  cases d with
  | non =>
    cases e with
    | non => exact .inl ⟨rfl, by simp [D.py, PyData.eqv, vOf]⟩
    | bl b => exact .inl ⟨rfl, by simp [D.py, PyData.eqv, vOf]⟩
    | int i => exact .inl ⟨rfl, by simp [D.py, PyData.eqv, vOf]⟩
    | str x => exact .inl ⟨rfl, by simp [D.py, PyData.eqv, vOf]⟩
    | _ => cases h2
  | bl a =>
    cases e with
    | non => exact .inl ⟨rfl, by simp [D.py, PyData.eqv, vOf]⟩
    | bl b => exact .inl ⟨rfl, dec_bl.symm⟩
    | int i => exact .inr ⟨rfl, rfl⟩
    | str x => exact .inl ⟨rfl, by simp [D.py, PyData.eqv, vOf]⟩
    | _ => cases h2
  | int a =>
    cases e with
    | non => exact .inl ⟨rfl, by simp [D.py, PyData.eqv, vOf]⟩
    | bl b => exact .inr ⟨rfl, rfl⟩
    | int i => exact .inl ⟨rfl, dec_int.symm⟩
    | str x => exact .inl ⟨rfl, by simp [D.py, PyData.eqv, vOf]⟩
    | _ => cases h2
  | str a =>
    cases e with
    | non => exact .inl ⟨rfl, by simp [D.py, PyData.eqv, vOf]⟩
    | bl b => exact .inl ⟨rfl, by simp [D.py, PyData.eqv, vOf]⟩
    | int i => exact .inl ⟨rfl, by simp [D.py, PyData.eqv, vOf]⟩
    | str x => exact .inl ⟨rfl, dec_str.symm⟩
    | _ => cases h2
  | _ => cases h1
theorem eqD_ok {K : PySem.W.Frag} {Hf H : Hp} {d e : D} {x y : V} {b : Bool} {P : Bool → Prop} (eK : T.K = K) (s : Sub Hf H) (hx : IsN T Hf H d x) (hy : IsN T Hf H e y) (h : eqD d e = some b) (p : P b) :
    (scal x y = true ∧ P (decide (x = y))) ∨ ∃ p q, Dp K H x p ∧ Dp K H y q ∧ SeqAt.shaped p = true ∧ SeqAt.shaped q = true ∧ P (PyData.eqv p q) := by
  subst eK
  unfold eqD at h
  by_cases f : (d.flat && e.flat) = true
  · rw [if_pos f] at h
    cases h
    obtain ⟨f1, f2⟩ := Bool.and_eq_true_iff.mp f
    rcases flat_eq f1 f2 with ⟨g1, g2⟩ | ⟨g1, g2⟩
    · rw [hx.flat f1, hy.flat f2]
      exact .inl ⟨g1, by rw [← g2]; exact p⟩
    · exact .inr ⟨_, _, hx.dp s (flat_py f1), hy.dp s (flat_py f2), g1, g2, p⟩
  · rw [if_neg f] at h
    by_cases g : (d.isPy && e.isPy && SeqAt.shaped d.py && SeqAt.shaped e.py) = true
    · rw [if_pos g] at h
      cases h
      simp only [Bool.and_eq_true] at g
      obtain ⟨⟨⟨g1, g2⟩, g3⟩, g4⟩ := g
      exact .inr ⟨_, _, hx.dp s g1, hy.dp s g2, g3, g4, p⟩
    · rw [if_neg g] at h
      cases h
theorem s_eq : OpS T (rEqA T.K) opEq := by
  intro H Hf x y d e c Q s hx hy h nv
  obtain ⟨b, h1, h2⟩ := Option.bind_eq_some_iff.mp h
  cases h2
  exact eqD_ok (P := fun b => Q (.bl b) H) rfl s hx hy h1 (nv.same s rfl)
theorem s_ne : OpS T (rNeA T.K) opNe := by
  intro H Hf x y d e c Q s hx hy h nv
  obtain ⟨b, h1, h2⟩ := Option.bind_eq_some_iff.mp h
  cases h2
  exact eqD_ok (P := fun b => Q (.bl (!b)) H) rfl s hx hy h1 (nv.same s rfl)
def rLtS : R2 := fun x y H Q => ∃ i j, x = .str i ∧ y = .str j ∧ Q (.bl (decide (i.cps.toList < j.cps.toList))) H
def rLeS : R2 := fun x y H Q => ∃ i j, x = .str i ∧ y = .str j ∧ Q (.bl (!decide (j.cps.toList < i.cps.toList))) H
def rGtS : R2 := fun x y H Q => ∃ i j, x = .str i ∧ y = .str j ∧ Q (.bl (decide (j.cps.toList < i.cps.toList))) H
def rGeS : R2 := fun x y H Q => ∃ i j, x = .str i ∧ y = .str j ∧ Q (.bl (!decide (i.cps.toList < j.cps.toList))) H
def rOrd (g : Int → Int → Bool) (r : R2) : R2 := fun x y H Q => rI0 (fun i j => .bl (g i j)) x y H Q ∨ r x y H Q
theorem op_ltA : OpR X (compareOp .Lt) (rOrd (fun i j => decide (i < j)) rLtS) := op_lt.or op_lt_str
theorem op_leA : OpR X (compareOp .LtE) (rOrd (fun i j => decide (i ≤ j)) rLeS) := op_le.or op_le_str
theorem op_gtA : OpR X (compareOp .Gt) (rOrd (fun i j => decide (j < i)) rGtS) := op_gt.or op_gt_str
theorem op_geA : OpR X (compareOp .GtE) (rOrd (fun i j => decide (j ≤ i)) rGeS) := op_ge.or op_ge_str
theorem s_lt : OpS T (rOrd (fun i j => decide (i < j)) rLtS) opLt := by
  intro H Hf x y d e c Q s hx hy h nv
  cases d with
  | int i =>
    cases e with
    | int j => cases h; rw [hx.int, hy.int]; exact .inl ⟨i, j, rfl, rfl, nv.same s rfl⟩
    | _ => cases h
  | str i =>
    cases e with
    | str j => cases h; rw [hx.str, hy.str]; exact .inr ⟨i, j, rfl, rfl, nv.same s rfl⟩
    | _ => cases h
  | _ => cases h
theorem s_le : OpS T (rOrd (fun i j => decide (i ≤ j)) rLeS) opLe := by
  intro H Hf x y d e c Q s hx hy h nv
  cases d with
  | int i =>
    cases e with
    | int j => cases h; rw [hx.int, hy.int]; exact .inl ⟨i, j, rfl, rfl, nv.same s rfl⟩
    | _ => cases h
  | str i =>
    cases e with
    | str j => cases h; rw [hx.str, hy.str]; exact .inr ⟨i, j, rfl, rfl, nv.same s rfl⟩
    | _ => cases h
  | _ => cases h
theorem s_gt : OpS T (rOrd (fun i j => decide (j < i)) rGtS) opGt := by
  intro H Hf x y d e c Q s hx hy h nv
  cases d with
  | int i =>
    cases e with
    | int j => cases h; rw [hx.int, hy.int]; exact .inl ⟨i, j, rfl, rfl, nv.same s rfl⟩
    | _ => cases h
  | str i =>
    cases e with
    | str j => cases h; rw [hx.str, hy.str]; exact .inr ⟨i, j, rfl, rfl, nv.same s rfl⟩
    | _ => cases h
  | _ => cases h
theorem s_ge : OpS T (rOrd (fun i j => decide (j ≤ i)) rGeS) opGe := by
  intro H Hf x y d e c Q s hx hy h nv
  cases d with
  | int i =>
    cases e with
    | int j => cases h; rw [hx.int, hy.int]; exact .inl ⟨i, j, rfl, rfl, nv.same s rfl⟩
    | _ => cases h
  | str i =>
    cases e with
    | str j => cases h; rw [hx.str, hy.str]; exact .inr ⟨i, j, rfl, rfl, nv.same s rfl⟩
    | _ => cases h
  | _ => cases h
theorem isNon_ok {Hf H : Hp} {d : D} {v : V} {b : Bool} (h : IsN T Hf H d v) (e : isNon d = some b) : decide (v = .non) = b := by
  have key : ∀ a : Addr, decide (V.ref a = .non) = false := fun a => decide_eq_false fun z => nomatch z
  cases d with
  | non => cases e; rw [h.non]; rfl
  | bl k => cases e; rw [h.bl]; rfl
  | int i => cases e; rw [h.int]; rfl
  | str x => cases e; rw [h.str]; rfl
  | ty n =>
    cases e
    rcases h with h | ⟨a, rfl, h⟩
    · rw [show v = .ty n from h]; rfl
    · exact h.elim
  | cls n =>
    cases e
    rcases h with h | ⟨a, rfl, h⟩
    · rw [show v = .ref _ from h]; rfl
    · exact h.elim
  | fn n =>
    cases e
    rcases h with h | ⟨a, rfl, h⟩
    · rw [show v = .ref _ from h]; rfl
    · exact h.elim
  | tup ds =>
    cases e
    rcases h with ⟨a, xs, rfl, _⟩ | ⟨a, rfl, h⟩ <;> rfl
  | lst ds =>
    cases e
    rcases h with ⟨a, xs, rfl, _⟩ | ⟨a, rfl, h⟩ <;> rfl
  | ins c ns ds =>
    cases e
    rcases h with ⟨a, dx, xs, rfl, _⟩ | ⟨a, rfl, h⟩ <;> rfl
  | dK c ns =>
    cases e
    rcases h with ⟨a, xs, rfl, _⟩ | ⟨a, rfl, h⟩ <;> rfl
  | dT c ns =>
    cases e
    rcases h with ⟨a, xs, rfl, _⟩ | ⟨a, rfl, h⟩ <;> rfl
theorem s_isN : UnS T (fun x H Q => Q (.bl (decide (x = .non))) H) opIsN := by
  intro H Hf x d c Q s hx h nv
  obtain ⟨b, h1, h2⟩ := Option.bind_eq_some_iff.mp h
  cases h2
  show Q (.bl (decide (x = .non))) H
  rw [isNon_ok hx h1]
  exact nv.same s rfl
theorem s_notN : UnS T (fun x H Q => Q (.bl (!decide (x = .non))) H) opNotN := by
  intro H Hf x d c Q s hx h nv
  obtain ⟨b, h1, h2⟩ := Option.bind_eq_some_iff.mp h
  cases h2
  show Q (.bl (!decide (x = .non))) H
  rw [isNon_ok hx h1]
  exact nv.same s rfl
def rInSign : R2 := fun x y H Q => ∃ (c : Nat) (z : Str), x = .str ⟨#[c]⟩ ∧ y = .str z ∧ Q (.bl (decide (c ∈ z.cps.toList))) H
def rNiSign : R2 := fun x y H Q => ∃ (c : Nat) (z : Str), x = .str ⟨#[c]⟩ ∧ y = .str z ∧ Q (.bl (!decide (c ∈ z.cps.toList))) H
def rInA (K : PySem.W.Frag) : R2 := fun x y H Q => rInSign x y H Q ∨ rIn K false x y H Q ∨ rInD K x y H Q
def rNiA (K : PySem.W.Frag) : R2 := fun x y H Q => rNiSign x y H Q ∨ rIn K true x y H Q ∨ rNotInD K x y H Q
theorem op_inA (hu : X.A.units + 65 < cLine) : OpR X (compareOp .In) (rInA X.K) := op_in_sign.or (op_in_seq.or (op_inD hu))
theorem op_niA (hu : X.A.units + 65 < cLine) : OpR X (compareOp .NotIn) (rNiA X.K) := op_notIn_sign.or (op_notIn_seq.or (op_notInD hu))
theorem flat_flatV {d : D} (h : d.flat = true) : flatV (vOf d) = true := by
  cases d with
  | non => rfl
  | bl b => rfl
  | int i => rfl
  | str x => rfl
  | _ => cases h
theorem flat_eqV {d e : D} (h1 : d.flat = true) (h2 : e.flat = true) : eqV (vOf d) (vOf e) = PyData.eqv d.py e.py := by
  cases d with
  | non => cases e with
    | non => rfl
    | bl b => rfl
    | int b => rfl
    | str b => rfl
    | _ => cases h2
  | bl a => cases e with
    | non => rfl
    | bl b => rfl
    | int b => rfl
    | str b => rfl
    | _ => cases h2
  | int a => cases e with
    | non => rfl
    | bl b => rfl
    | int b => rfl
    | str b => rfl
    | _ => cases h2
  | str a => cases e with
    | non => rfl
    | bl b => rfl
    | int b => rfl
    | str b => rfl
    | _ => cases h2
  | _ => cases h1
theorem IsL.flat {Hf : Hp} : ∀ {ds : List D} {xs : List V}, ds.all D.flat = true → IsL T Hf ds xs → xs = ds.map vOf
  | [], _, _, h => h
  | d :: ds, _, f, ⟨x, r, e, h1, h2⟩ => by
    obtain ⟨f1, f2⟩ := Bool.and_eq_true_iff.mp (show (d.flat && ds.all D.flat) = true from f)
    rw [e, IsL.flat f2 h2, (show IsN T Hf Hf d x from .inl h1).flat f1]
    rfl
theorem flat_all {ds : List D} (f : ds.all D.flat = true) : (ds.map vOf).all flatV = true := by
  rw [List.all_eq_true]
  intro x hx
  obtain ⟨d, hd, rfl⟩ := List.mem_map.mp hx
  exact flat_flatV (List.all_eq_true.mp f d hd)
theorem flat_inV {d : D} {ds : List D} (h1 : d.flat = true) (f : ds.all D.flat = true) : inV (vOf d) (ds.map vOf) = ds.any fun z => PyData.eqv z.py d.py := by
  unfold inV
  induction ds with
  | nil => rfl
  | cons e r ih =>
    obtain ⟨f1, f2⟩ := Bool.and_eq_true_iff.mp (show (e.flat && r.all D.flat) = true from f)
    rw [List.map_cons, List.any_cons, List.any_cons, flat_eqV f1 h1, ih f2]
theorem inD_ok {Hf H : Hp} {d e : D} {x y : V} {b : Bool} {P : Bool → Prop} (s : Sub Hf H) (hx : IsN T Hf H d x) (hy : IsN T Hf H e y) (h : inD d e = some b) (p : P b) :
    (∃ (c : Nat) (z : Str), x = .str ⟨#[c]⟩ ∧ y = .str z ∧ P (decide (c ∈ z.cps.toList))) ∨ (∃ q xs, y = .ref q ∧ (SqL T.K H q xs ∨ SqT T.K H q xs) ∧ flatV x = true ∧ xs.all flatV = true ∧ P (inV x xs)) ∨
      ∃ p ds, Dp T.K H x p ∧ Dp T.K H y (.list ds) ∧ SeqAt.shaped p = true ∧ SeqAt.shaped (.list ds) = true ∧ P (ds.any fun z => PyData.eqv z p) := by
  unfold inD at h
  split at h
  · cases h
    rw [hx.str, hy.str]
    exact .inl ⟨_, _, rfl, rfl, p⟩
  · rename_i ds
    obtain ⟨a, xs, rfl, q, il⟩ := hy.lst s
    by_cases f : (d.flat && ds.all D.flat) = true
    · rw [if_pos f] at h
      cases h
      obtain ⟨f1, f2⟩ := Bool.and_eq_true_iff.mp f
      refine .inr (.inl ⟨a, xs, rfl, .inl q, ?_, ?_, ?_⟩)
      · rw [hx.flat f1]; exact flat_flatV f1
      · rw [il.flat f2]; exact flat_all f2
      · rw [hx.flat f1, il.flat f2, flat_inV f1 f2]; exact p
    · rw [if_neg f] at h
      by_cases g : (d.isPy && (D.lst ds).isPy && SeqAt.shaped d.py && SeqAt.shaped (D.lst ds).py) = true
      · rw [if_pos g] at h
        cases h
        simp only [Bool.and_eq_true] at g
        obtain ⟨⟨⟨g1, g2⟩, g3⟩, g4⟩ := g
        exact .inr (.inr ⟨_, D.pyL ds, hx.dp s g1, .lst q (IsL.dp s g2 il), g3, g4, p⟩)
      · rw [if_neg g] at h
        cases h
  · rename_i ds
    obtain ⟨a, xs, rfl, q, il⟩ := hy.tup s
    by_cases f : (d.flat && ds.all D.flat) = true
    · rw [if_pos f] at h
      cases h
      obtain ⟨f1, f2⟩ := Bool.and_eq_true_iff.mp f
      refine .inr (.inl ⟨a, xs, rfl, .inr q, ?_, ?_, ?_⟩)
      · rw [hx.flat f1]; exact flat_flatV f1
      · rw [il.flat f2]; exact flat_all f2
      · rw [hx.flat f1, il.flat f2, flat_inV f1 f2]; exact p
    · rw [if_neg f] at h
      cases h
  · cases h
theorem s_in : OpS T (rInA T.K) opIn := by
  intro H Hf x y d e c Q s hx hy h nv
  obtain ⟨b, h1, h2⟩ := Option.bind_eq_some_iff.mp h
  cases h2
  exact inD_ok (P := fun b => Q (.bl b) H) s hx hy h1 (nv.same s rfl)
theorem s_ni : OpS T (rNiA T.K) opNotIn := by
  intro H Hf x y d e c Q s hx hy h nv
  obtain ⟨b, h1, h2⟩ := Option.bind_eq_some_iff.mp h
  cases h2
  exact inD_ok (P := fun b => Q (.bl (!b)) H) s hx hy h1 (nv.same s rfl)
theorem IsL.atI {Hf : Hp} {ds : List D} {xs : List V} {i : Int} {d : D} (il : IsL T Hf ds xs) (h : L2.atI ds i = some d) : ∃ x, L2.atI xs i = some x ∧ Is T Hf d x := by
  unfold L2.atI at h ⊢
  obtain ⟨j, h1, h2⟩ := Option.bind_eq_some_iff.mp h
  obtain ⟨x, h3, h4⟩ := il.get h2
  rw [Is.len il] at h1
  exact ⟨x, by rw [h1]; exact h3, h4⟩
theorem s_ix : OpS T (rIx T.K) opIx := by
  intro H Hf x y d e c Q s hx hy h nv
  cases d with
  | lst ds =>
    cases e with
    | int i =>
      obtain ⟨d', h1, h2⟩ := Option.map_eq_some_iff.mp (show (L2.atI ds i).map Vc.fz = some c from h)
      cases h2
      obtain ⟨a, xs, rfl, q, il⟩ := hx.lst s
      obtain ⟨z, h3, h4⟩ := il.atI h1
      rw [hy.int]
      exact .inl ⟨a, xs, i, z, rfl, rfl, q, h3, nv.same s h4⟩
    | _ => cases h
  | tup ds =>
    cases e with
    | int i =>
      obtain ⟨d', h1, h2⟩ := Option.map_eq_some_iff.mp (show (L2.atI ds i).map Vc.fz = some c from h)
      cases h2
      obtain ⟨a, xs, rfl, q, il⟩ := hx.tup s
      obtain ⟨z, h3, h4⟩ := il.atI h1
      rw [hy.int]
      exact .inr (.inl ⟨a, xs, i, z, rfl, rfl, q, h3, nv.same s h4⟩)
    | _ => cases h
  | str z =>
    cases e with
    | int i =>
      replace h : (if z.length ≤ sizeLine then (L2.atI z.cps.toList i).map fun c => Vc.fz (.str ⟨#[c]⟩) else none) = some c := h
      by_cases hz : z.length ≤ sizeLine
      · rw [if_pos hz] at h
        obtain ⟨k, h1, h2⟩ := Option.map_eq_some_iff.mp h
        cases h2
        rw [hx.str, hy.int]
        exact .inr (.inr ⟨z, i, k, rfl, rfl, hz, h1, nv.same s rfl⟩)
      · rw [if_neg hz] at h; cases h
    | _ => cases h
  | _ => cases h
theorem IsL.cut {Hf : Hp} {ds : List D} {xs : List V} (il : IsL T Hf ds xs) (lo hi : Option Int) : IsL T Hf (cutD ds lo hi) (cutV xs lo hi) := by
  unfold cutD cutV
  rw [Is.len il]
  exact (il.drop _).take _
def rSl (K : PySem.W.Frag) : V → Option Int → Option Int → Hp → VK → Prop := fun x lo hi H Q => rSlL K x lo hi H Q ∨ rSlA K x lo hi H Q ∨ rSlS x lo hi H Q
theorem sl_all : L2.SlR X (rSl X.K) := L2.SlR.or sl_list (L2.SlR.or sl_tupA sl_str)
theorem s_sl {Hf H : Hp} {d : D} {x : V} {lo hi : Option Int} {c : Vc} {Q : VK} (s : Sub Hf H) (hx : IsN T Hf H d x) (h : opSl d lo hi = some c) (nv : NewV T H Hf c Q) : rSl T.K x lo hi H Q := by
  cases d with
  | lst ds =>
    cases h
    obtain ⟨a, xs, rfl, q, il⟩ := hx.lst s
    exact .inl ⟨a, xs, rfl, q, fun p hp => nv.lst s (il.cut lo hi) hp⟩
  | tup ds =>
    cases h
    obtain ⟨a, xs, rfl, q, il⟩ := hx.tup s
    refine .inr (.inl ⟨a, xs, rfl, q, fun e => ?_, fun _ p hp => nv.tup s (il.cut lo hi) hp⟩)
    have ec : cutD ds lo hi = ds := by
      unfold cutD
      rw [Is.len il, e.1, e.2, Nat.sub_zero, List.drop_zero, ← Is.len il, List.take_length]
    rw [ec] at nv
    rcases hx with hx | ⟨_, _, hx⟩
    · exact nv.same s hx
    · exact hx.elim
  | str z =>
    replace h : (if z.length ≤ sizeLine then some (Vc.fz (.str (cutS z lo hi))) else none) = some c := h
    by_cases hz : z.length ≤ sizeLine
    · rw [if_pos hz] at h
      cases h
      rw [hx.str]
      exact .inr (.inr ⟨z, rfl, hz, nv.same s rfl⟩)
    · rw [if_neg hz] at h; cases h
  | _ => cases h
end
end DV

set_option Elab.async false
set_option linter.all false
set_option maxRecDepth 100000
set_option maxHeartbeats 2000000
namespace DV
open PySem PySem.Spec PyProof.Rows L2

section
variable {T : Tb} {hx : HX} {X : Cx} {W : WX}
theorem wk_list {Hf0 : Hp} {a : Addr} {xs : List V} {ds : List D} (q : SqL T.K Hf0 a xs) (il : IsL T Hf0 ds xs) (inj : ∀ {H : Hp} {ys : List V}, SqL T.K H a xs → SqL T.K H a ys → ys = xs) : Wk T Hf0 (Itl T.K a) ds := by
  intro H Hf s0 s
  have q' := s.sqL (s0.sqL q)
  refine ⟨fun i d e => ?_, xs, q', Nat.le_of_eq (Is.len il).symm⟩
  obtain ⟨x, e1, i1⟩ := il.get e
  refine ⟨⟨xs, x, q', e1⟩, fun y H' hy => ?_⟩
  obtain ⟨rfl, hy⟩ := hy
  have e2 := hy xs q'
  rw [e1] at e2
  cases e2
  exact ⟨Hf, Stp.refl s, i1.mono s0⟩
theorem wk_tup {Hf0 : Hp} {a : Addr} {xs : List V} {ds : List D} (q : SqT T.K Hf0 a xs) (il : IsL T Hf0 ds xs) : Wk T Hf0 (Itt T.K a) ds := by
  intro H Hf s0 s
  have q' := s.sqT (s0.sqT q)
  refine ⟨fun i d e => ?_, xs, q', Nat.le_of_eq (Is.len il).symm⟩
  obtain ⟨x, e1, i1⟩ := il.get e
  refine ⟨⟨xs, x, q', e1⟩, fun y H' hy => ?_⟩
  obtain ⟨rfl, hy⟩ := hy
  have e2 := hy xs q'
  rw [e1] at e2
  cases e2
  exact ⟨Hf, Stp.refl s, i1.mono s0⟩
def rgD (lo : Int) (n : Nat) : List D := (List.range n).map fun i => .int (lo + (i : Nat))
theorem rgD_get {lo : Int} {n i : Nat} {d : D} (h : (rgD lo n)[i]? = some d) : i < n ∧ d = .int (lo + (i : Nat)) := by
  unfold rgD at h
  rw [List.getElem?_map] at h
  by_cases hi : i < n
  · rw [List.getElem?_range hi] at h
    cases h
    exact ⟨hi, rfl⟩
  · rw [List.getElem?_eq_none (by simpa using hi)] at h
    cases h
theorem wk_range {Hf0 : Hp} {lo : Int} {n : Nat} : Wk T Hf0 (Itr lo n) (rgD lo n) := by
  intro H Hf s0 s
  refine ⟨fun i d e => ?_, by unfold rgD; rw [List.length_map, List.length_range]; exact Nat.le_refl _⟩
  obtain ⟨hi, rfl⟩ := rgD_get e
  refine ⟨hi, fun y H' hy => ?_⟩
  obtain ⟨rfl, rfl⟩ := hy
  exact ⟨Hf, Stp.refl s, rfl⟩
def sgD (x : Str) : List D := x.cps.toList.map fun c => .str ⟨#[c]⟩
theorem wk_str {Hf0 : Hp} {x : Str} : Wk T Hf0 (Its x) (sgD x) := by
  intro H Hf s0 s
  refine ⟨fun i d e => ?_, by unfold sgD; rw [List.length_map, Array.length_toList]; exact Nat.le_refl _⟩
  unfold sgD at e
  rw [List.getElem?_map] at e
  obtain ⟨c, e1, e2⟩ := Option.map_eq_some_iff.mp e
  subst e2
  have e3 : x.cps[i]? = some c := by rw [← e1, Array.getElem?_toList]
  refine ⟨(Array.getElem?_eq_some_iff.mp e3).1, fun y H' hy => ?_⟩
  obtain ⟨rfl, c', e4, rfl⟩ := hy
  rw [e3] at e4
  cases e4
  exact ⟨Hf, Stp.refl s, rfl⟩
@[simp] def itemsD : D → Option (List D)
  | .lst ds => some ds
  | .tup ds => some ds
  | .str x => some (sgD x)
  | _ => none
def iAny (K : PySem.W.Frag) (tl : TE) : TI := fun σ H R => tl σ H fun x H1 => (∃ a, x = .ref a ∧ (∃ xs, SqL K H1 a xs) ∧ R (Itl K a) H1) ∨ (∃ a, x = .ref a ∧ (∃ xs, SqT K H1 a xs) ∧ R (Itt K a) H1) ∨ ∃ z, x = .str z ∧ R (Its z) H1
theorem pi_any {tg l : Expr} {tl : TE} (hl : PE X l tl) : PI X tg l (iAny X.K tl) := by
  refine ⟨fun pins s σ H R I h => ?_⟩
  refine thn (hl.run pins s σ H _ I h) fun v s1 ⟨x, H1, I1, r1, q1⟩ => ?_
  have one : PE { X with } l (fun σ' H' Q => tl σ' H' Q) := hl
  rcases q1 with ⟨a, e, ⟨xs, hq⟩, q⟩ | ⟨a, e, ⟨xs, hq⟩, q⟩ | ⟨z, e, q⟩
  · subst e
    cases r1
    obtain ⟨its, rv, p, hz⟩ := I1.list hq
    refine wpAny_pyIter_list p.isList ?_
    refine ⟨s1.heap.objs.size, [s1.heap.objs.size], _, _, H1, rfl, I1.kept (t' := s1.toks) fun b o e => Heap.get?_push_of_some _ e, turn_list a _, ⟨_, Heap.get?_push_size _ rfl, rfl, rfl⟩, fun b hb => ?_, q⟩
    have e : b = s1.heap.objs.size := by simpa using hb
    subst e
    exact I1.fpOk (Nat.le_refl _) (I1.hok.fresh (Nat.le_refl _))
  · subst e
    cases r1
    obtain ⟨its, rv, p, hz⟩ := I1.tuple hq
    refine wpAny_pyIter_tuple p ?_
    refine ⟨s1.heap.objs.size, [s1.heap.objs.size], _, _, H1, rfl, I1.kept (t' := s1.toks) fun b o e => Heap.get?_push_of_some _ e, turn_tuple a _, ⟨_, Heap.get?_push_size _ rfl, rfl, rfl⟩, fun b hb => ?_, q⟩
    have e : b = s1.heap.objs.size := by simpa using hb
    subst e
    exact I1.fpOk (Nat.le_refl _) (I1.hok.fresh (Nat.le_refl _))
  · subst e
    obtain ⟨t, rfl⟩ := r1
    cases ha : z.cps.all (· < 128)
    · exact wpAny_pyIter_wide ha (pi_one (tk := s1.toks) I1 _ (turn_str _ z t "str_iterator" (.inr rfl)) ⟨_, Heap.get?_push_size _ rfl, rfl, rfl⟩ q)
    · exact wpAny_pyIter_ascii ha (pi_one (tk := s1.toks) I1 _ (turn_str _ z t "str_ascii_iterator" (.inl rfl)) ⟨_, Heap.get?_push_size _ rfl, rfl, rfl⟩ q)
def mIter (ma : M Vc) : M (List D) := fun ρ => (ma ρ).bind fun c ρ1 => liftO (itemsD c.d) ρ1
theorem tE_I {ma : M Vc} {F : Fm} {σ : L2.St} {H Hf : Hp} {ρ : Rho} {Q : VK} {R' : It → Hp → Prop} {k : Vc → Rho → R (List D)} (rl : Rl T hx F σ H Hf ρ) (o : oI T hx W F σ Hf R' ((ma ρ).bind k))
    (go : ∀ v H1 Hf1 c ρ1, Rl T hx F σ H1 Hf1 ρ1 → Sub Hf Hf1 → Is T Hf1 c.d v → oI T hx W F σ Hf R' (k c ρ1) → Q v H1) : tE T hx W ma σ H Q :=
  tE_bind (P := oI T hx W F σ Hf R') rl (Sub.refl _) (fun z => z) (fun _ _ z => z) o fun v H1 Hf1 c ρ1 r1 s0 s1 i o => go v H1 Hf1 c ρ1 r1 s0 i o
theorem in_iter {ma : M Vc} : LeI (tI T hx W (mIter ma)) (iAny T.K (tE T hx W ma)) := by
  intro σ H R' hh
  obtain ⟨F, Hf, ρ, rl, o⟩ := hh
  refine tE_I rl o fun v H1 Hf1 c ρ1 r1 s0 i o => ?_
  revert i o
  cases c.d with
  | lst ds =>
    intro i o
    obtain ⟨a, xs, rfl, q, il⟩ := i
    exact .inl ⟨a, rfl, ⟨xs, r1.sub.sqL q⟩, o _ H1 Hf1 r1 s0 fun H Hf s0 s => by
      have q' := s.sqL (s0.sqL q)
      refine ⟨fun i d e => ?_, xs, q', Nat.le_of_eq (Is.len il).symm⟩
      obtain ⟨x, e1, i1⟩ := il.get e
      refine ⟨⟨xs, x, q', e1⟩, fun y H' hy => ?_⟩
      obtain ⟨rfl, hy⟩ := hy
      have e2 := hy xs q'
      rw [e1] at e2
      cases e2
      exact ⟨Hf, Stp.refl s, i1.mono s0⟩⟩
  | tup ds =>
    intro i o
    obtain ⟨a, xs, rfl, q, il⟩ := i
    exact .inr (.inl ⟨a, rfl, ⟨xs, r1.sub.sqT q⟩, o _ H1 Hf1 r1 s0 (wk_tup q il)⟩)
  | str x =>
    intro i o
    rw [show v = .str x from i]
    exact .inr (.inr ⟨x, rfl, o _ H1 Hf1 r1 s0 wk_str⟩)
  | _ =>
    intro i o
    exact o.elim
theorem di_iter {tg l : Expr} {ma : M Vc} (hK : T.K = X.K) (h : DE T hx X l ma) : DI T hx X tg l (mIter ma) := di_of (fun W tk => pi_any (h.run W tk)) fun W => by rw [← hK]; exact in_iter
@[simp] def D.int? : D → Option Int
  | .int i => some i
  | _ => none
theorem D.int?_some {d : D} {i : Int} (h : d.int? = some i) : d = .int i := by
  cases d with
  | int j => cases h; rfl
  | _ => cases h
def rng1 (d : D) : Option (List D) := d.int?.bind fun j => if j.natAbs < 4611686018427387904 then some (rgD 0 j.toNat) else none
def rng2 (d e : D) : Option (List D) := d.int?.bind fun i => e.int?.bind fun j => if i.natAbs < 4611686018427387904 ∧ j.natAbs < 4611686018427387904 then some (rgD i (j - i).toNat) else none
def mRange1 (ma : M Vc) : M (List D) := fun ρ => (ma ρ).bind fun a ρ1 => liftO (rng1 a.d) ρ1
def mRange2 (ma mb : M Vc) : M (List D) := fun ρ => (ma ρ).bind fun a ρ1 => (mb ρ1).bind fun b ρ2 => liftO (rng2 a.d b.d) ρ2
theorem oI_lift {F : Fm} {σ : L2.St} {H Hf Hf0 : Hp} {ρ : Rho} {R' : It → Hp → Prop} {o : Option (List D)} (rl : Rl T hx F σ H Hf ρ) (s : Sub Hf0 Hf) (h : oI T hx W F σ Hf0 R' (liftO o ρ)) : ∃ ds, o = some ds ∧ ∀ J, Wk T Hf J ds → R' J H := by
  cases o with
  | none => exact h.elim
  | some ds => exact ⟨ds, rfl, fun J w => h J H Hf rl s w⟩
theorem in_range1 {ma : M Vc} : LeI (tI T hx W (mRange1 ma)) (iRng1 (tCons (tE T hx W ma) tNil)) := by
  intro σ H R' hh
  obtain ⟨F, Hf, ρ, rl, o⟩ := hh
  refine tE_I rl o fun v H1 Hf1 c ρ1 r1 s0 i o => ?_
  obtain ⟨ds, e, k⟩ := oI_lift r1 s0 o
  obtain ⟨j, e1, e2⟩ := Option.bind_eq_some_iff.mp e
  rw [D.int?_some e1] at i
  by_cases hj : j.natAbs < 4611686018427387904
  · rw [if_pos hj] at e2
    cases e2
    rw [show v = .int j from i]
    exact ⟨j, rfl, by omega, by omega, k _ wk_range⟩
  · rw [if_neg hj] at e2
    cases e2
theorem in_range2 {ma mb : M Vc} : LeI (tI T hx W (mRange2 ma mb)) (iRng2 (tCons (tE T hx W ma) (tCons (tE T hx W mb) tNil))) := by
  intro σ H R' hh
  obtain ⟨F, Hf, ρ, rl, o⟩ := hh
  refine tE_I rl o fun v H1 Hf1 c ρ1 r1 s0 i o => ?_
  refine tE_bind (P := oI T hx W F σ Hf R') r1 s0 (fun z => z) (fun _ _ z => z) o fun u H2 Hf2 c2 ρ2 r2 s3 s4 i2 o => ?_
  obtain ⟨ds, e, k⟩ := oI_lift r2 s3 o
  obtain ⟨a, e1, e2⟩ := Option.bind_eq_some_iff.mp e
  obtain ⟨b, e3, e4⟩ := Option.bind_eq_some_iff.mp e2
  rw [D.int?_some e1] at i
  rw [D.int?_some e3] at i2
  by_cases hj : a.natAbs < 4611686018427387904 ∧ b.natAbs < 4611686018427387904
  · rw [if_pos hj] at e4
    cases e4
    rw [show v = .int a from i, show u = .int b from i2]
    exact ⟨a, b, rfl, by omega, k _ wk_range⟩
  · rw [if_neg hj] at e4
    cases e4
theorem di_range1 {tg a : Expr} {ma : M Vc} {p pos : Pos} (hg : Gl X "range") (hm : X.mg "range" = none) (ha : DE T hx X a ma) (hs : starEach [a] X.env = [(false, eval a X.env)]) : DI T hx X tg (.Call (.Name "range" p) [a] [] pos) (mRange1 ma) :=
  ⟨fun W tk => PI.imp (pi_range1 hg hm (pa_cons (ha.run W tk) pa_nil hs) hs) in_range1⟩
theorem di_range2 {tg a b : Expr} {ma mb : M Vc} {p pos : Pos} (hg : Gl X "range") (hm : X.mg "range" = none) (ha : DE T hx X a ma) (hb : DE T hx X b mb) (hs : starEach [a, b] X.env = [(false, eval a X.env), (false, eval b X.env)]) (hs2 : starEach [b] X.env = [(false, eval b X.env)]) :
    DI T hx X tg (.Call (.Name "range" p) [a, b] [] pos) (mRange2 ma mb) :=
  ⟨fun W tk => PI.imp (pi_range2 hg hm (pa_cons (ha.run W tk) (pa_cons (hb.run W tk) pa_nil hs2) (by rw [hs, hs2])) hs hs2) in_range2⟩

section
variable {F : Fm} {σ : L2.St} {H Hf : Hp} {ρ : Rho} {c : Vc} {v : V}
theorem RlV.within (r : RlV T hx F σ H Hf ρ c v) : ∃ F' : Fm, F'.Hf = Hf ∧ F'.H = H ∧ Rl T hx F' σ H Hf ρ ∧ (∀ {σ' : L2.St} {H' Hf' : Hp} {ρ' : Rho}, Rl T hx F' σ' H' Hf' ρ' → RlV T hx F σ' H' Hf' ρ' c v ∧ ∀ o a, v = .ref a → c.cell = .ow c.d → H a = some o → H' a = some o) := by
  obtain ⟨L, Lv, h1, h0, h2, h3, h4⟩ := r.sl
  rw [List.nodup_append] at h2
  obtain ⟨n1, n2, n3⟩ := h2
  have up : ∀ {a : Addr}, a ∈ L ∨ H a = none → a ∈ F.L ∨ F.H a = none := fun {a} q => by
    rcases q with q | q
    · exact h4 a (List.mem_append_right _ q)
    · refine .inr ?_
      cases e : F.H a with
      | none => rfl
      | some o => exact absurd q (r.st.s0 a (by rw [e]; exact fun z => nomatch z))
  refine ⟨⟨H, Hf, L, F.io⟩, rfl, rfl, ⟨Stp.refl r.sub, L, h1, n2, fun a ha => h3 a (List.mem_append_right _ ha), fun a ha => .inl ha⟩, fun {σ' H' Hf' ρ'} q => ?_⟩
  obtain ⟨L', g1, g2, g3, g4⟩ := q.sl
  have keep : ∀ a ∈ Lv, ∀ o, H a = some o → H' a = some o := fun a ha o e => q.st.s1 a o e fun z => n3 a ha a z rfl
  have fr : ∀ a ∈ Lv, Hf' a = none := fun a ha => by
    cases e : Hf' a with
    | none => rfl
    | some o =>
      exfalso
      rcases q.st.s2 a (by rw [e]; exact fun z => nomatch z) with z | z | z
      · exact z (h3 a (List.mem_append_left _ ha))
      · exact n3 a ha a z rfl
      · obtain ⟨u, hu⟩ := h0.there a ha
        rw [show H a = none from z] at hu
        cases hu
  refine ⟨⟨r.st.trans q.st fun a ha => h4 a (List.mem_append_right _ ha), L', Lv, g1, h0.stp q.st.s3 keep, List.nodup_append.mpr ⟨n1, g2, fun a ha b hb e => ?_⟩, fun a ha => (List.mem_append.mp ha).elim (fr a) (g3 a), fun a ha => (List.mem_append.mp ha).elim (fun z => h4 a (List.mem_append_left _ z)) fun z => up (g4 a z)⟩, fun o a ev ec e => ?_⟩
  · subst e
    rcases g4 a hb with z | z
    · exact n3 a ha a z rfl
    · obtain ⟨u, hu⟩ := h0.there a ha
      rw [show H a = none from z] at hu
      cases hu
  · cases c with
    | fz d => cases ec
    | ow d =>
      obtain ⟨b, eb, rfl, _⟩ := h0
      rw [ev] at eb
      cases eb
      exact keep a (by simp) o e
theorem RlV.app {acc : List D} {xs : List V} {a : Addr} {d : D} {y : V} (r : RlV T hx F σ H Hf ρ (.ow (.lst acc)) (.ref a)) (e : H a = some (.lst xs)) (i : Is T Hf d y) :
    RlV T hx F σ (upd H a (.lst (xs ++ [y]))) Hf ρ (.ow (.lst (acc ++ [d]))) (.ref a) := by
  obtain ⟨L, Lv, h1, h0, h2, h3, h4⟩ := r.sl
  obtain ⟨b, eb, rfl, xs', e', il⟩ := h0
  cases eb
  rw [e] at e'
  cases e'
  have na : Hf a = none := h3 a (by simp)
  have nL : a ∉ L := (List.nodup_cons.mp h2).1
  have st := Stp.write (L := [a]) (o := .lst (xs ++ [y])) r.st.s4 na (by simp)
  exact ⟨r.st.trans st fun z hz => by rw [List.mem_singleton] at hz; subst hz; exact h4 _ (by simp), L, [a],
    h1.stp (Sub.refl _) (fun z hz o q => by rw [upd_ne (fun k => nL (by rw [← k]; exact hz))]; exact q), ⟨a, rfl, rfl, xs ++ [y], upd_same, il.append ⟨y, [], rfl, i, rfl⟩⟩, h2, h3, h4⟩
end
def wipeR : List Nat → Rho → Option Rho
  | [], ρ => some ρ
  | v :: vs, ρ => (wipeR vs ρ).bind (setR v .no)
def lcL (vs : List Nat) (g : Tgt) (mt : M Bool) (me : M Vc) : List D → List D → Rho → R (List D)
  | [], acc, ρ => .ok acc ρ
  | d :: ds, acc, ρ => match g d ρ with
    | none => .bad
    | some ρ1 => (mt ρ1).bind fun b ρ2 => if b = true then (me ρ2).bind fun c ρ3 => if acc.length < sizeLine then (match wipeR vs ρ3 with
        | some ρ4 => lcL vs g mt me ds (acc ++ [c.d]) ρ4
        | none => .bad) else .bad
      else match wipeR vs ρ2 with
        | some ρ4 => lcL vs g mt me ds acc ρ4
        | none => .bad
def mLc (vs : List Nat) (mi : M (List D)) (g : Tgt) (mt : M Bool) (me : M Vc) : M Vc := fun ρ => (mi ρ).bind fun ds ρ1 => match wipeR vs ρ1 with
  | some ρ2 => (match lcL vs g mt me ds [] ρ2 with
    | .ok acc ρ3 => .ok (.ow (.lst acc)) ρ3
    | _ => .bad)
  | none => .bad
theorem Rl.wiped {F : Fm} {σ : L2.St} {H Hf : Hp} {ρ : Rho} : ∀ {vs : List Nat} {ρ' : Rho}, Rl T hx F σ H Hf ρ → wipeR vs ρ = some ρ' → Rl T hx F (wipe σ vs) H Hf ρ'
  | [], ρ', rl, e => by cases e; exact rl
  | v :: vs, ρ', rl, e => by
    obtain ⟨ρ1, e1, e2⟩ := Option.bind_eq_some_iff.mp e
    obtain ⟨c0, g1, g2, rfl⟩ := setR_some e2
    exact (Rl.wiped (vs := vs) rl e1).forget g1 none
theorem wipeR_no : ∀ {vs : List Nat} {ρ ρ' : Rho}, wipeR vs ρ = some ρ' → ∀ v ∈ vs, ρ'[v]? = some .no
  | [], _, _, _, v, hv => nomatch hv
  | w :: vs, ρ, ρ', e, v, hv => by
    obtain ⟨ρ1, e1, e2⟩ := Option.bind_eq_some_iff.mp e
    obtain ⟨c0, g1, g2, rfl⟩ := setR_some e2
    by_cases h : v = w
    · subst h
      rw [List.getElem?_set_self (List.getElem?_eq_some_iff.mp g1).1]
    · rw [List.getElem?_set_ne (Ne.symm h)]
      rcases List.mem_cons.mp hv with z | z
      · exact absurd z h
      · exact wipeR_no e1 v z
theorem Rl.unwipe {F : Fm} {σ : L2.St} {H Hf : Hp} {ρ : Rho} : ∀ {vs : List Nat}, Rl T hx F (wipe σ vs) H Hf ρ → (∀ v ∈ vs, ρ[v]? = some .no) → Rl T hx F σ H Hf ρ
  | [], rl, _ => rl
  | v :: vs, rl, h => by
    have e := h v List.mem_cons_self
    have r1 := rl.forget e ((wipe σ vs)[v]?.join)
    rw [set_same e] at r1
    refine Rl.unwipe (vs := vs) ?_ fun w hw => h w (List.mem_cons_of_mem _ hw)
    have ew : (wipe σ (v :: vs)).set v ((wipe σ vs)[v]?.join) = wipe σ vs := by
      show ((wipe σ vs).set v none).set v ((wipe σ vs)[v]?.join) = wipe σ vs
      rw [List.set_set]
      by_cases hv : v < (wipe σ vs).length
      · refine set_same ?_
        rw [List.getElem?_eq_getElem hv]
        rfl
      · exact List.set_eq_of_length_le (Nat.le_of_not_lt hv)
    rw [ew] at r1
    exact r1
theorem wipe_same {σ σ' : L2.St} : ∀ {vs : List Nat}, σ'.length = σ.length → (∀ i, i ∉ vs → σ'[i]? = (wipe σ vs)[i]?) → wipe σ' vs = wipe σ vs := by
  intro vs hl h
  have key : ∀ (vs : List Nat) (τ : L2.St) (i : Nat), (wipe τ vs)[i]? = if i < τ.length then (if i ∈ vs then some none else τ[i]?) else none := by
    intro vs
    induction vs with
    | nil =>
      intro τ i
      show τ[i]? = _
      by_cases hi : i < τ.length
      · rw [if_pos hi, if_neg (by simp)]
      · rw [if_neg hi, List.getElem?_eq_none (Nat.le_of_not_lt hi)]
    | cons v vs ih =>
      intro τ i
      show ((wipe τ vs).set v none)[i]? = _
      by_cases hv : v = i
      · subst hv
        by_cases hi : v < τ.length
        · rw [List.getElem?_set_self (by rw [wipe_length]; exact hi), if_pos hi, if_pos (by simp)]
        · rw [List.getElem?_eq_none (by rw [List.length_set, wipe_length]; exact Nat.le_of_not_lt hi), if_neg hi]
      · rw [List.getElem?_set_ne hv, ih τ i]
        have e : (i ∈ v :: vs) ↔ i ∈ vs := by
          rw [List.mem_cons]
          exact ⟨fun z => z.elim (fun z => absurd z.symm hv) id, .inr⟩
        by_cases hi : i < τ.length
        · rw [if_pos hi, if_pos hi]
          by_cases hm : i ∈ vs
          · rw [if_pos hm, if_pos (e.mpr hm)]
          · rw [if_neg hm, if_neg (fun z => hm (e.mp z))]
        · rw [if_neg hi, if_neg hi]
  refine List.ext_getElem? fun i => ?_
  rw [key, key, hl]
  by_cases hi : i < σ.length
  · rw [if_pos hi, if_pos hi]
    by_cases hm : i ∈ vs
    · rw [if_pos hm, if_pos hm]
    · rw [if_neg hm, if_neg hm, h i hm, key, if_pos hi, if_neg hm]
  · rw [if_neg hi, if_neg hi]
def noX : WX := fun _ _ _ _ => False
theorem in_lc {vs js : List Nat} {mi : M (List D)} {f : Tgt} {mt : M Bool} {me : M Vc} {g : TG} (hjs : ∀ j ∈ js, j ∈ vs)
    (hg : ∀ (F : Fm) (σ : L2.St) (H Hf : Hp) (ρ ρ' : Rho) (x : V) (d : D) (Q : L2.St → Hp → Prop), Rl T hx F σ H Hf ρ → Is T Hf d x → f d ρ = some ρ' →
      (∀ σ', Rl T hx F σ' H Hf ρ' → σ'.length = σ.length → (∀ i, i ∉ js → σ'[i]? = σ[i]?) → Q σ' H) → g x σ H Q)
    :
    Le (tE T hx W (mLc vs mi f mt me)) (tLc (tI T hx W mi) g (tT T hx noX mt) (tE T hx noX me) vs) := by
  intro σ H Q hh
  obtain ⟨F, Hf, ρ, rl, o⟩ := hh
  refine ⟨F, Hf, ρ, rl, ?_⟩
  unfold mLc at o
  cases c1 : mi ρ with
  | exc x ρ1 => rw [c1] at o; exact o
  | bad => rw [c1] at o; exact o
  | ok ds ρ1 =>
    rw [c1] at o
    intro J H1 Hf1 r1 s1 wk D hD
    change oE T hx W F σ Hf Q (match wipeR vs ρ1 with | some ρ2 => (match lcL vs f mt me ds [] ρ2 with | .ok acc ρ3 => .ok (.ow (.lst acc)) ρ3 | _ => .bad) | none => .bad) at o
    cases c2 : wipeR vs ρ1 with
    | none => rw [c2] at o; exact o.elim
    | some ρ2 =>
      rw [c2] at o
      change oE T hx W F σ Hf Q (match lcL vs f mt me ds [] ρ2 with | .ok acc ρ3 => .ok (.ow (.lst acc)) ρ3 | _ => .bad) at o
      have rw2 := r1.wiped c2
      have rv : RlV T hx F (wipe σ vs) (upd H1 D (.lst [])) Hf1 ρ2 (.ow (.lst [])) (.ref D) :=
        rw2.stepV (Lv := [D]) (Stp.newO r1.sub hD) ⟨D, rfl, rfl, [], upd_same, rfl⟩ (List.nodup_cons.mpr ⟨by simp, List.nodup_nil⟩) fun a ha => by
          rw [List.mem_singleton] at ha
          subst ha
          exact ⟨hD, r1.sub.none hD⟩
      refine ⟨fun i k H => k = ds.length - i ∧ i ≤ ds.length ∧ ∃ Hf ρ acc, RlV T hx F (wipe σ vs) H Hf ρ (.ow (.lst acc)) (.ref D) ∧ Sub Hf1 Hf ∧ (∀ v ∈ vs, ρ[v]? = some .no) ∧ ∃ acc' ρ', lcL vs f mt me (ds.drop i) acc ρ = .ok acc' ρ' ∧ oE T hx W F σ Hf1 Q (.ok (.ow (.lst acc')) ρ'),
        ⟨ds.length, by simp, Nat.zero_le _, Hf1, ρ2, [], rv, Sub.refl _, wipeR_no c2, ?_⟩, ?_⟩
      · rw [List.drop_zero]
        cases c3 : lcL vs f mt me ds [] ρ2 with
        | ok acc ρ3 => rw [c3] at o; exact ⟨acc, ρ3, rfl, fun v H' Hf' r' s' => o v H' Hf' r' (s1.trans s')⟩
        | exc x ρ3 => rw [c3] at o; exact o.elim
        | bad => rw [c3] at o; exact o.elim
      · rintro i k H2 ⟨rfl, hi, Hf2, ρ3, acc, rv2, sb, hno, acc', ρ', el, oo⟩
        obtain ⟨wgo, wst⟩ := wk H2 Hf2 sb rv2.sub
        by_cases hlt : i < ds.length
        · have hd : ds[i]? = some ds[i] := List.getElem?_eq_getElem hlt
          obtain ⟨go, yl⟩ := wgo i _ hd
          rw [List.drop_eq_getElem_cons hlt] at el
          unfold lcL at el
          refine .inr ⟨go, fun H' => i + 1 ≤ ds.length ∧ ∃ Hf ρ acc, RlV T hx F (wipe σ vs) H' Hf ρ (.ow (.lst acc)) (.ref D) ∧ Sub Hf1 Hf ∧ (∀ v ∈ vs, ρ[v]? = some .no) ∧ ∃ acc' ρ', lcL vs f mt me (ds.drop (i + 1)) acc ρ = .ok acc' ρ' ∧ oE T hx W F σ Hf1 Q (.ok (.ow (.lst acc')) ρ'),
            fun H' z => ⟨ds.length - (i + 1), by omega, rfl, z⟩, fun x H3 hy => ?_⟩
          obtain ⟨Hf3, st, ix⟩ := yl x H3 hy
          cases e1 : f ds[i] ρ3 with
          | none => rw [e1] at el; cases el
          | some ρ4 =>
            rw [e1] at el
            -- the list is held while the turn is reckoned
            obtain ⟨xs, hxs⟩ : ∃ xs, H2 D = some (.lst xs) := by
              obtain ⟨L, Lv, _, h0, _⟩ := rv2.sl
              obtain ⟨a, ea, rfl, xs, q, _⟩ := h0
              cases ea
              exact ⟨xs, q⟩
            obtain ⟨F', eF, eH, r2', back⟩ := rv2.within
            refine hg F' (wipe σ vs) H3 Hf3 ρ3 ρ4 x _ _ (r2'.step st) ix e1 fun σ4 r4 hl4 hk4 => ?_
            have ew : wipe σ4 vs = wipe σ vs := wipe_same (by rw [hl4, wipe_length]) fun j hj => hk4 j fun z => hj (hjs j z)
            refine ⟨ew, ?_⟩
            
            refine tT_bind (P := fun r => r = .ok acc' ρ') r4 (Sub.refl _) (fun z => nomatch z) (fun x ρ' z => nomatch z) el fun H5 Hf5 b ρ5 r5 s5 _ el => ?_
            cases b with
            | true =>
              refine iteT ?_
              refine tE_bind (P := fun r => r = .ok acc' ρ') r5 (Sub.refl _) (fun z => nomatch z) (fun x ρ' z => nomatch z) el fun y H6 Hf6 c6 ρ6 r6 s6 _ i6 el => ?_
              replace el : (if acc.length < sizeLine then (match wipeR vs ρ6 with | some ρ4 => lcL vs f mt me (ds.drop (i + 1)) (acc ++ [c6.d]) ρ4 | none => .bad) else .bad) = R.ok acc' ρ' := el
              by_cases hz : acc.length < sizeLine
              · rw [if_pos hz] at el
                cases e7 : wipeR vs ρ6 with
                | none => rw [e7] at el; cases el
                | some ρ7 =>
                  rw [e7] at el
                  have r7 := r6.wiped e7
                  rw [ew] at r7
                  obtain ⟨rv7, kp⟩ := back r7
                  have hD6 := kp _ D rfl rfl hxs
                  have hlen : xs.length = acc.length := by
                    obtain ⟨L, Lv, _, h0, _⟩ := rv7.sl
                    obtain ⟨a, ea, _, xs', q, il⟩ := h0
                    cases ea
                    rw [hD6] at q
                    cases q
                    exact (Is.len il).symm
                  refine ⟨xs, hD6, by rw [hlen]; exact hz, hlt, Hf6, ρ7, acc ++ [c6.d], rv7.app hD6 i6, ?_, wipeR_no e7, acc', ρ', el, oo⟩
                  have z := r7.st.s3
                  rw [eF] at z
                  exact sb.trans z
              · rw [if_neg hz] at el
                cases el
            | false =>
              refine iteF ?_
              replace el : (match wipeR vs ρ5 with | some ρ4 => lcL vs f mt me (ds.drop (i + 1)) acc ρ4 | none => .bad) = R.ok acc' ρ' := el
              cases e7 : wipeR vs ρ5 with
              | none => rw [e7] at el; cases el
              | some ρ7 =>
                rw [e7] at el
                have r7 := r5.wiped e7
                rw [ew] at r7
                obtain ⟨rv7, kp⟩ := back r7
                refine ⟨hlt, Hf5, ρ7, acc, rv7, ?_, wipeR_no e7, acc', ρ', el, oo⟩
                have z := r7.st.s3
                rw [eF] at z
                exact sb.trans z
        · have e : i = ds.length := by omega
          subst e
          rw [List.drop_length] at el
          cases el
          refine .inl ⟨wst, ?_⟩
          obtain ⟨L, Lv, h1, h0, h2, h3, h4⟩ := rv2.sl
          have ru := (Rl.unwipe rv2.drop hno)
          refine oo _ H2 Hf2 ?_ sb
          -- the held list beside the slots as they were
          obtain ⟨F', eF, eH, r2', back⟩ := rv2.within
          exact (back (Rl.unwipe r2' hno)).1
end
end DV

set_option Elab.async false
set_option linter.all false
set_option maxRecDepth 100000
set_option maxHeartbeats 2000000
namespace DV
open PySem PySem.Spec PyProof.Rows L2

section
variable {T : Tb} {hx : HX} {X : Cx} {W : WX}
theorem own_cell {j : Nat} {ρ : Rho} {d : D} (h : own j ρ = some d) : ∃ c, ρ[j]? = some c ∧ (c = .ow d ∨ c = .io d) := by
  unfold own at h
  cases e : ρ[j]? with
  | none => rw [e] at h; cases h
  | some c =>
    rw [e] at h
    cases c with
    | ow d' => cases h; exact ⟨_, rfl, .inl rfl⟩
    | io d' => cases h; exact ⟨_, rfl, .inr rfl⟩
    | no => cases h
    | fz d' => cases h
    | ex x => cases h
    | ol d => cases h
theorem Rl.put {F : Fm} {σ : L2.St} {H Hf : Hp} {ρ : Rho} {j : Nat} {d : D} (rl : Rl T hx F σ H Hf ρ) (h : own j ρ = some d) : ∃ a, σ[j]? = some (some (.ref a)) ∧ OwAt T Hf H a d ∧ Hf a = none ∧
    ∀ (H' Hf' : Hp) (d' : D), Stp [a] H Hf H' Hf' → Hf' a = none → OwAt T Hf' H' a d' → Rl T hx F σ H' Hf' (putC j d' ρ) := by
  obtain ⟨c, e, hc⟩ := own_cell h
  obtain ⟨a, h1, h2, h3, _, h5, _⟩ := rl.owned e hc
  refine ⟨a, h1, h2, h3, fun H' Hf' d' s n q => ?_⟩
  unfold putC
  rw [e]
  exact h5 H' Hf' d' s n q
def sAppend (j : Nat) (m : M Vc) : MS := fun ρ => match own j ρ with
  | some (.lst _) => (match m ρ with
    | .ok c ρ1 => (match own j ρ1 with
      | some (.lst ds) => if ds.length < sizeLine then .next (putC j (.lst (ds ++ [c.d])) ρ1) else .bad
      | _ => .bad)
    | .exc x ρ1 => .exc x ρ1
    | .bad => .bad)
  | _ => .bad
theorem in_append {j : Nat} {ma : M Vc} : LeS (tS T hx W (sAppend j ma)) (tDrop (tBM T.K "list" rAppend (tVar j) (tCons (tE T hx W ma) tNil))) := by
  intro D σ H hh
  obtain ⟨F, Hf, ρ, rl, o⟩ := hh
  unfold sAppend at o
  cases e0 : own j ρ with
  | none => rw [e0] at o; exact o.elim
  | some d0 =>
    rw [e0] at o
    cases d0 with
    | lst ds0 =>
      obtain ⟨a, h1, ⟨xs0, h2, i2⟩, h3, _⟩ := rl.put e0
      refine ⟨.ref a, h1, .inl ⟨rfl, xs0, SqL.of h2⟩, ?_⟩
      refine tE_S (k := fun c ρ1 => match own j ρ1 with | some (.lst ds) => if ds.length < sizeLine then .next (putC j (.lst (ds ++ [c.d])) ρ1) else .bad | _ => .bad) rl o fun v H1 Hf1 c ρ1 rv s o => ?_
      obtain ⟨Hf2, r2, s2, i2⟩ := rv.frz
      cases e1 : own j ρ1 with
      | none => rw [e1] at o; exact o.elim
      | some d1 =>
        rw [e1] at o
        cases d1 with
        | lst ds =>
          obtain ⟨a', g1, ⟨xs, g2, gi⟩, g3, g4⟩ := r2.put e1
          rw [h1] at g1
          cases g1
          replace o : oS T hx W F D (if ds.length < sizeLine then .next (putC j (.lst (ds ++ [c.d])) ρ1) else .bad) := o
          by_cases hz : ds.length < sizeLine
          · rw [if_pos hz] at o
            refine ⟨a, xs, v, rfl, rfl, g2, by rw [← Is.len gi]; exact hz, ?_⟩
            exact o _ _ Hf2 (g4 _ Hf2 (.lst (ds ++ [c.d])) (Stp.write r2.sub g3 (by simp)) g3 ⟨xs ++ [v], upd_same, gi.append ⟨v, [], rfl, i2, rfl⟩⟩)
          · rw [if_neg hz] at o; exact o.elim
        | _ => exact o.elim
    | _ => exact o.elim
def sSetIx (j : Nat) (mi m : M Vc) : MS := fun ρ => match m ρ with
  | .ok c ρ1 => (match own j ρ1 with
    | some (.lst _) => (match mi ρ1 with
      | .ok k ρ2 => (match own j ρ2, k.d.int? with
        | some (.lst ds), some i => (match ixN ds.length i with
          | some p => .next (putC j (.lst (ds.set p c.d)) ρ2)
          | none => .bad)
        | _, _ => .bad)
      | .exc x ρ2 => .exc x ρ2
      | .bad => .bad)
    | _ => .bad)
  | .exc x ρ1 => .exc x ρ1
  | .bad => .bad
theorem in_setIx {j : Nat} {mi ma : M Vc} : LeS (tS T hx W (sSetIx j mi ma)) (tAsg (tE T hx W ma) (gSub (tVar j) (tE T hx W mi) rSetL)) := by
  intro D σ H hh
  obtain ⟨F, Hf, ρ, rl, o⟩ := hh
  refine tE_S (k := fun c ρ1 => (match own j ρ1 with
    | some (.lst _) => (match mi ρ1 with
      | .ok k ρ2 => (match own j ρ2, k.d.int? with
        | some (.lst ds), some i => (match ixN ds.length i with
          | some p => .next (putC j (.lst (ds.set p c.d)) ρ2)
          | none => .bad)
        | _, _ => .bad)
      | .exc x ρ2 => .exc x ρ2
      | .bad => .bad)
    | _ => .bad)) rl o fun v H1 Hf1 c ρ1 rv s o => ?_
  obtain ⟨Hf2, r2, s2, i2⟩ := rv.frz
  cases e0 : own j ρ1 with
  | none => rw [e0] at o; exact o.elim
  | some d0 =>
    rw [e0] at o
    cases d0 with
    | lst ds0 =>
      obtain ⟨a, h1, ⟨xs0, h2, _⟩, h3, _⟩ := r2.put e0
      refine ⟨.ref a, h1, ?_⟩
      refine tE_S (k := fun k ρ2 => (match own j ρ2, k.d.int? with
        | some (.lst ds), some i => (match ixN ds.length i with
          | some p => .next (putC j (.lst (ds.set p c.d)) ρ2)
          | none => .bad)
        | _, _ => .bad)) r2 o fun u H3 Hf3 k ρ2 rv3 s3 o => ?_
      obtain ⟨Hf4, r4, s4, i4⟩ := rv3.frz
      cases e1 : own j ρ2 with
      | none => rw [e1] at o; exact o.elim
      | some d1 =>
        rw [e1] at o
        cases d1 with
        | lst ds =>
          cases ek : k.d.int? with
          | none => rw [ek] at o; exact o.elim
          | some i =>
            rw [ek] at o
            replace o : oS T hx W F D (match ixN ds.length i with | some p => .next (putC j (.lst (ds.set p c.d)) ρ2) | none => .bad) := o
            rw [DV.D.int?_some ek] at i4
            obtain ⟨a', g1, ⟨xs, g2, gi⟩, g3, g4⟩ := r4.put e1
            rw [h1] at g1
            cases g1
            cases ep : ixN ds.length i with
            | none => rw [ep] at o; exact o.elim
            | some p =>
              rw [ep] at o
              refine ⟨a, xs, i, p, rfl, i4, g2, by rw [← Is.len gi]; exact ep, ?_⟩
              exact o _ _ Hf4 (g4 _ Hf4 (.lst (ds.set p c.d)) (Stp.write r4.sub g3 (by simp)) g3 ⟨xs.set p v, upd_same, gi.set p (i2.mono (s3.trans s4))⟩)
        | _ => exact o.elim
    | _ => exact o.elim
def mPop (j : Nat) : M Vc := fun ρ => match own j ρ with
  | some (.lst ds) => (match ds[ds.length - 1]? with
    | some d => .ok (.fz d) (putC j (.lst ds.dropLast) ρ)
    | none => .bad)
  | _ => .bad
theorem in_pop {j : Nat} : Le (tE T hx W (mPop j)) (tBM0 T.K "list" rPop (tVar j)) := by
  intro σ H Q hh
  obtain ⟨F, Hf, ρ, rl, o⟩ := hh
  unfold mPop at o
  cases e0 : own j ρ with
  | none => rw [e0] at o; exact o.elim
  | some d0 =>
    rw [e0] at o
    cases d0 with
    | lst ds =>
      obtain ⟨a, h1, ⟨xs, h2, il⟩, h3, h4⟩ := rl.put e0
      replace o : oE T hx W F σ Hf Q (match ds[ds.length - 1]? with | some d => .ok (.fz d) (putC j (.lst ds.dropLast) ρ) | none => .bad) := o
      cases e1 : ds[ds.length - 1]? with
      | none => rw [e1] at o; exact o.elim
      | some d =>
        rw [e1] at o
        obtain ⟨y, g1, g2⟩ := il.get e1
        rw [Is.len il] at g1
        refine ⟨.ref a, h1, .inl ⟨rfl, xs, SqL.of h2⟩, a, xs, y, rfl, rfl, h2, g1, ?_⟩
        exact o y _ Hf ((h4 _ Hf (.lst ds.dropLast) (Stp.write rl.sub h3 (by simp)) h3 ⟨xs.dropLast, upd_same, il.dropLast⟩).val g2) (Sub.refl _)
    | _ => exact o.elim
def mPart (o : Option (M Vc)) : M (Option Int) := fun ρ => match o with
  | none => .ok none ρ
  | some m => (m ρ).bind fun c ρ1 => match c.d.int? with
    | some i => .ok (some i) ρ1
    | none => .bad
def mSl (ma : M Vc) (lo hi : Option (M Vc)) : M Vc := fun ρ => (ma ρ).bind fun a ρ1 => (mPart lo ρ1).bind fun l ρ2 => (mPart hi ρ2).bind fun u ρ3 => liftO (opSl a.d l u) ρ3
def tPt (T : Tb) (hx : HX) (W : WX) : Option (M Vc) → L2.TO
  | none => tNoPart
  | some m => tPart (tE T hx W m)
theorem tO_bind {α : Type} {mo : Option (M Vc)} {F : Fm} {σ : L2.St} {H Hf Hf0 : Hp} {ρ : Rho} {Q : Option Int → Hp → Prop} {k : Option Int → Rho → R α} {P : R α → Prop} (rl : Rl T hx F σ H Hf ρ) (s0 : Sub Hf0 Hf)
    (hb : ¬ P .bad) (hexc : ∀ x ρ', P (.exc x ρ') → Xw T hx W F σ x ρ') (o : P ((mPart mo ρ).bind k))
    (go : ∀ H1 Hf1 l ρ1, Rl T hx F σ H1 Hf1 ρ1 → Sub Hf0 Hf1 → Sub Hf Hf1 → P (k l ρ1) → Q l H1) : tPt T hx W mo σ H Q := by
  cases mo with
  | none => exact go H Hf none ρ rl s0 (Sub.refl _) o
  | some m =>
    unfold mPart at o
    have o' : P ((m ρ).bind fun c ρ1 => (match c.d.int? with | some i => R.ok (some i) ρ1 | none => R.bad).bind k) := by
      cases e : m ρ with
      | ok c ρ1 => simp only [e] at o; exact o
      | exc x ρ1 => simp only [e] at o; exact o
      | bad => simp only [e] at o; exact o
    refine tE_bind (P := P) rl s0 hb hexc o' fun v H1 Hf1 c ρ1 r1 s1 s2 i o => ?_
    cases ei : c.d.int? with
    | none => rw [ei] at o; exact (hb o).elim
    | some n =>
      rw [ei] at o
      rw [DV.D.int?_some ei] at i
      exact ⟨n, i, go H1 Hf1 (some n) ρ1 r1 s1 s2 o⟩
theorem in_sl {ma : M Vc} {lo hi : Option (M Vc)} : Le (tE T hx W (mSl ma lo hi)) (tSl (rSl T.K) (tE T hx W ma) (tPt T hx W lo) (tPt T hx W hi)) := by
  intro σ H Q hh
  obtain ⟨F, Hf, ρ, rl, o⟩ := hh
  refine tE_bind (P := oE T hx W F σ Hf Q) rl (Sub.refl _) (fun z => z) (fun _ _ z => z) o fun v H1 Hf1 c ρ1 r1 s0 s1 i o => ?_
  refine tO_bind (P := oE T hx W F σ Hf Q) r1 s0 (fun z => z) (fun _ _ z => z) o fun H2 Hf2 l ρ2 r2 s2 s3 o => ?_
  refine tO_bind (P := oE T hx W F σ Hf Q) r2 s2 (fun z => z) (fun _ _ z => z) o fun H3 Hf3 u ρ3 r3 s4 s5 o => ?_
  obtain ⟨c', e1, nv⟩ := oE_new r3 s4 o
  exact s_sl r3.sub (.inl (i.mono (s3.trans s5))) e1 nv
def mAndV (ma mb : M Vc) : M Vc := fun ρ => (ma ρ).bind fun a ρ1 => match truD a.d with
  | some true => mb ρ1
  | some false => .ok (.fz a.d) ρ1
  | none => .bad
def mOrV (ma mb : M Vc) : M Vc := fun ρ => (ma ρ).bind fun a ρ1 => match truD a.d with
  | some true => .ok (.fz a.d) ρ1
  | some false => mb ρ1
  | none => .bad
theorem tE_on {m : M Vc} {F : Fm} {σ : L2.St} {H1 Hf Hf1 : Hp} {ρ1 : Rho} {Q : VK} (r1 : Rl T hx F σ H1 Hf1 ρ1) (s0 : Sub Hf Hf1) (o : oE T hx W F σ Hf Q (m ρ1)) : tE T hx W m σ H1 Q := ⟨F, Hf1, ρ1, r1, by
  revert o
  cases m ρ1 with
  | ok c ρ2 => exact fun o v H' Hf' rv s => o v H' Hf' rv (s0.trans s)
  | exc x ρ2 => exact fun o => o
  | bad => exact fun o => o⟩
theorem in_andV {ma mb : M Vc} : Le (tE T hx W (mAndV ma mb)) (tAndT T.K (tE T hx W ma) (tE T hx W mb)) := by
  intro σ H Q hh
  obtain ⟨F, Hf, ρ, rl, o⟩ := hh
  refine tE_bind (P := oE T hx W F σ Hf Q) rl (Sub.refl _) (fun z => z) (fun _ _ z => z) o fun v H1 Hf1 c ρ1 r1 s0 s1 i o => ?_
  cases e : truD c.d with
  | none => rw [e] at o; exact o.elim
  | some b =>
    rw [e] at o
    refine ⟨b, truD_ok r1.sub (.inl i) e, ?_⟩
    cases b with
    | true => exact iteT (tE_on r1 s0 o)
    | false => exact iteF (o v H1 Hf1 (r1.val i) s0)
theorem in_orV {ma mb : M Vc} : Le (tE T hx W (mOrV ma mb)) (tOrT T.K (tE T hx W ma) (tE T hx W mb)) := by
  intro σ H Q hh
  obtain ⟨F, Hf, ρ, rl, o⟩ := hh
  refine tE_bind (P := oE T hx W F σ Hf Q) rl (Sub.refl _) (fun z => z) (fun _ _ z => z) o fun v H1 Hf1 c ρ1 r1 s0 s1 i o => ?_
  cases e : truD c.d with
  | none => rw [e] at o; exact o.elim
  | some b =>
    rw [e] at o
    refine ⟨b, truD_ok r1.sub (.inl i) e, ?_⟩
    cases b with
    | true => exact iteT (o v H1 Hf1 (r1.val i) s0)
    | false => exact iteF (tE_on r1 s0 o)
end

inductive FR where
  | ok (c : Vc) (fin : Rho) | exc (x : EX) (fin : Rho) | bad
abbrev Fn := List Cell → FR
def ioKeep : List Cell → Rho → Bool
  | [], _ => true
  | .io _ :: cs, .io _ :: ρ => ioKeep cs ρ
  | .io _ :: _, _ => false
  | _ :: cs, _ :: ρ => ioKeep cs ρ
  | _ :: _, [] => false
@[simp] def argOk : Cell → Bool
  | .fz _ => true | .io _ => true | _ => false
def runF (np N : Nat) (m : MS) : Fn := fun cs => if cs.length = np ∧ np ≤ N ∧ cs.all argOk = true then (match m (cs ++ List.replicate (N - np) .no) with
    | .next ρ => if ioKeep cs ρ then .ok (.fz .non) (ρ.take np) else .bad
    | .ret c ρ => if ioKeep cs ρ then .ok c (ρ.take np) else .bad
    | .exc x ρ => if ioKeep cs ρ then .exc x (ρ.take np) else .bad
    | _ => .bad)
  else .bad
def Fin (T : Tb) (cs : List Cell) (vs : List V) (fin : Rho) (H' Hf' : Hp) : Prop := ∀ (i : Nat) (d : D), cs[i]? = some (.io d) → ∃ (a : Addr) (d' : D), vs[i]? = some (.ref a) ∧ fin[i]? = some (.io d') ∧ OwAt T Hf' H' a d' ∧ Hf' a = none
def SpD (T : Tb) (F : Fn) : Sp := fun vs H Q E => ∃ (Hf : Hp) (L : List Addr) (io : Nat → Option Addr) (cs : List Cell), Sub Hf H ∧ Slots T none io Hf H 0 (vs.map some) cs L ∧ L.Nodup ∧ (∀ a ∈ L, Hf a = none) ∧
  match F cs with
  | .ok c fin => ∀ v H' Hf' Lv, Stp L H Hf H' Hf' → Fin T cs vs fin H' Hf' → CellR T none none Hf' H' c.cell (some v) Lv → Lv.Nodup → (∀ a ∈ Lv, H a = none ∧ Hf' a = none) → Q v H'
  | .exc x fin => ∀ cls dd H' Hf', Stp L H Hf H' Hf' → Fin T cs vs fin H' Hf' → ExAt T Hf' x cls dd → E cls dd H'
  | .bad => False

theorem slots_app {T : Tb} {hx : HX} {io : Nat → Option Addr} {Hf H : Hp} : ∀ {i : Nat} {σ : L2.St} {ρ : Rho} {L : List Addr} (n : Nat), Slots T hx io Hf H i σ ρ L → Slots T hx io Hf H i (σ ++ List.replicate n none) (ρ ++ List.replicate n .no) L
  | i, [], [], L, n, h => by
    have hl : L = [] := h
    subst hl
    rw [List.nil_append, List.nil_append]
    clear h
    induction n generalizing i with
    | zero => exact rfl
    | succ n ih =>
      rw [List.replicate_succ, List.replicate_succ]
      exact ⟨[], [], rfl, rfl, ih (i := i + 1)⟩
  | _, [], _ :: _, _, _, h => h.elim
  | _, _ :: _, [], _, _, h => h.elim
  | i, v :: σ, c :: ρ, L, n, h => by
    obtain ⟨L1, L2, rfl, hc, hr⟩ := h
    exact ⟨L1, L2, rfl, hc, slots_app n hr⟩
theorem ioKeep_at : ∀ {cs : List Cell} {ρ : Rho}, ioKeep cs ρ = true → ∀ (i : Nat) d, cs[i]? = some (.io d) → ∃ d', ρ[i]? = some (.io d')
  | [], _, _, i, d, e => by simp at e
  | c :: cs, [], h, i, d, e => by cases c <;> cases h
  | .io d0 :: cs, .io d1 :: ρ, h, i, d, e => by
    cases i with
    | zero => exact ⟨d1, rfl⟩
    | succ i => exact ioKeep_at (cs := cs) (ρ := ρ) h i d e
  | .io d0 :: cs, .no :: ρ, h, i, d, e => by cases h
  | .io d0 :: cs, .fz _ :: ρ, h, i, d, e => by cases h
  | .io d0 :: cs, .ow _ :: ρ, h, i, d, e => by cases h
  | .io d0 :: cs, .ex _ :: ρ, h, i, d, e => by cases h
  | .io d0 :: cs, .ol _ :: ρ, h, i, d, e => by cases h
  | .no :: cs, c1 :: ρ, h, i, d, e => by
    cases i with
    | zero => cases e
    | succ i => exact ioKeep_at (cs := cs) (ρ := ρ) (by cases c1 <;> exact h) i d e
  | .fz d0 :: cs, c1 :: ρ, h, i, d, e => by
    cases i with
    | zero => cases e
    | succ i => exact ioKeep_at (cs := cs) (ρ := ρ) (by cases c1 <;> exact h) i d e
  | .ow d0 :: cs, c1 :: ρ, h, i, d, e => by
    cases i with
    | zero => cases e
    | succ i => exact ioKeep_at (cs := cs) (ρ := ρ) (by cases c1 <;> exact h) i d e
  | .ex d0 :: cs, c1 :: ρ, h, i, d, e => by
    cases i with
    | zero => cases e
    | succ i => exact ioKeep_at (cs := cs) (ρ := ρ) (by cases c1 <;> exact h) i d e
  | .ol d0 :: cs, c1 :: ρ, h, i, d, e => by
    cases i with
    | zero => cases e
    | succ i => exact ioKeep_at (cs := cs) (ρ := ρ) (by cases c1 <;> exact h) i d e

section
variable {T : Tb} {P : Program} {w : World} {K : PySem.W.Frag} {mg : Str → Option Value} {base : Heap}
theorem fin_of {Hf H H' Hf' : Hp} {L : List Addr} {io : Nat → Option Addr} {cs : List Cell} {vs : List V} {σ' : L2.St} {ρ' : Rho} {N : Nat} (sl : Slots T none io Hf H 0 (vs.map some) cs L) (k : ioKeep cs ρ' = true)
    {L' : List Addr} (sl' : Slots T none io Hf' H' 0 σ' ρ' L') (n' : ∀ a ∈ L', Hf' a = none) : Fin T cs vs (ρ'.take cs.length) H' Hf' ∧ ∀ a ∈ L, cs.all argOk = true → a ∈ L' := by
  have at_ : ∀ (i : Nat) (d : D), cs[i]? = some (.io d) → ∃ (a : Addr) (d' : D), vs[i]? = some (.ref a) ∧ ρ'[i]? = some (.io d') ∧ OwAt T Hf' H' a d' ∧ Hf' a = none ∧ a ∈ L' := fun i d e => by
    obtain ⟨d', e'⟩ := ioKeep_at k i d e
    obtain ⟨v, A, B, L1, h1, h2, h3, _⟩ := sl.at e
    obtain ⟨a, q1, q2, q3, q4⟩ := h3
    obtain ⟨v', A', B', L1', g1, g2, g3, _⟩ := sl'.at e'
    obtain ⟨a', p1, p2, p3, p4⟩ := g3
    rw [q3] at p3
    cases p3
    refine ⟨a, d', ?_, e', p4, n' a (by rw [g2, p2]; simp), by rw [g2, p2]; simp⟩
    rw [List.getElem?_map, q1] at h1
    obtain ⟨u, e1, e2⟩ := Option.map_eq_some_iff.mp h1
    cases e2
    exact e1
  refine ⟨fun i d e => ?_, fun a ha hall => ?_⟩
  · obtain ⟨a, d', h1, h2, h3, h4, _⟩ := at_ i d e
    refine ⟨a, d', h1, ?_, h3, h4⟩
    rw [List.getElem?_take_of_lt (List.getElem?_eq_some_iff.mp e).1]
    exact h2
  · have find : ∀ {i : Nat} {σ : L2.St} {cs : List Cell} {L : List Addr}, Slots T none io Hf H i σ cs L → cs.all argOk = true → ∀ a ∈ L, ∃ (j : Nat) (d : D), cs[j]? = some (.io d) ∧ σ[j]? = some (some (.ref a)) := by
      intro i σ cs
      induction cs generalizing i σ with
      | nil =>
        intro L h _ a ha
        cases σ with
        | nil => rw [show L = [] from h] at ha; cases ha
        | cons v σ => exact h.elim
      | cons c cs ih =>
        intro L h hall a ha
        cases σ with
        | nil => exact h.elim
        | cons v σ =>
          obtain ⟨L1, L2, rfl, hc, hr⟩ := h
          obtain ⟨f1, f2⟩ := Bool.and_eq_true_iff.mp (show (argOk c && cs.all argOk) = true from hall)
          rcases List.mem_append.mp ha with z | z
          · cases c with
            | io d =>
              obtain ⟨b, q1, q2, q3, q4⟩ := hc
              subst q2
              rw [List.mem_singleton] at z
              subst z
              exact ⟨0, d, rfl, by rw [q1]; rfl⟩
            | fz d => rw [hc.1] at z; cases z
            | no => cases f1
            | ow d => cases f1
            | ex x => cases f1
            | ol d => cases f1
          · obtain ⟨j, d, h1, h2⟩ := ih hr f2 a z
            exact ⟨j + 1, d, h1, h2⟩
    obtain ⟨j, d, h1, h2⟩ := find sl hall a ha
    obtain ⟨b, d', g1, _, _, _, g5⟩ := at_ j d h1
    rw [List.getElem?_map, g1] at h2
    cases h2
    exact g5
end
end DV

set_option Elab.async false
set_option linter.all false
set_option maxRecDepth 100000
set_option maxHeartbeats 2000000
namespace DV
open PySem PySem.Spec PyProof.Rows L2

section
variable {T : Tb} {hx : HX} {X : Cx} {W : WX} {F : Fm} {σ : L2.St} {H Hf : Hp} {ρ : Rho}
theorem own_pk {j : Nat} {ρ : Rho} {d : D} (h : own j ρ = some d) : pk j ρ = some d := by
  obtain ⟨c, e, hc⟩ := own_cell h
  unfold pk
  rw [e]
  rcases hc with rfl | rfl <;> rfl
theorem Rl.lend {j : Nat} {d : D} (r : Rl T hx F σ H Hf ρ) (h : own j ρ = some d) : ∃ a, σ[j]? = some (some (.ref a)) ∧ OwAt T Hf H a d ∧ Hf a = none ∧
    ∀ (H' Hf' : Hp) (d' : D), Stp [a] H Hf H' Hf' → Hf' a = none → OwAt T Hf' H' a d' → Rl T hx F σ H' Hf' (putC j d' ρ) ∧
      ∀ (c : Vc) (v : V) (Lv : List Addr), CellR T none none Hf' H' c.cell (some v) Lv → Lv.Nodup → (∀ a ∈ Lv, H a = none ∧ Hf' a = none) → RlV T hx F σ H' Hf' (putC j d' ρ) c v := by
  obtain ⟨c0, e, hc⟩ := own_cell h
  obtain ⟨L, h1, h2, h3, h4⟩ := r.sl
  obtain ⟨w, A, B, L1, g1, rfl, g3, g4⟩ := h1.at e
  have main : ∃ a, w = some (.ref a) ∧ L1 = [a] ∧ OwAt T Hf H a d ∧ (∀ d' H' Hf', OwAt T Hf' H' a d' → CellR T hx (F.io (0 + j)) Hf' H' (c0.as d') w [a]) := by
    rcases hc with rfl | rfl
    · obtain ⟨a, rfl, rfl, q⟩ := g3
      exact ⟨a, rfl, rfl, q, fun d' H' Hf' z => ⟨a, rfl, rfl, z⟩⟩
    · obtain ⟨a, rfl, rfl, z1, q⟩ := g3
      exact ⟨a, rfl, rfl, q, fun d' H' Hf' z => ⟨a, rfl, rfl, z1, z⟩⟩
  obtain ⟨a, rfl, rfl, q, mk⟩ := main
  have ma : a ∈ A ++ ([a] ++ B) := by simp
  have nd := h2
  have hAB : ∀ b, b ∈ A ∨ b ∈ B → b ≠ a := fun b hb z => by
    subst z
    rw [List.nodup_append] at nd
    obtain ⟨n1, n2, n3⟩ := nd
    have n2' := List.nodup_cons.mp (show (b :: B).Nodup from n2)
    rcases hb with z | z
    · exact n3 b z b (by simp) rfl
    · exact n2'.1 z
  refine ⟨a, g1, q, h3 a ma, fun H' Hf' d' s n' q' => ?_⟩
  have orig : ∀ x ∈ ([a] : List Addr), x ∈ F.L ∨ F.H x = none := fun x hx => by
    rw [List.mem_singleton] at hx
    subst hx
    exact h4 _ ma
  have g5 := g4 Hf' H' (c0.as d') (some (.ref a)) [a] s.s3 (fun b hb u e => s.s1 b u e (by simpa using hAB b hb)) (mk d' H' Hf' q')
  rw [set_same g1] at g5
  have hn : ∀ b ∈ A ++ ([a] ++ B), Hf' b = none := fun b hb => by
    by_cases z : b = a
    · rw [z]; exact n'
    · cases e2 : Hf' b with
      | none => rfl
      | some o =>
        exfalso
        rcases s.s2 b (by rw [e2]; exact fun z => nomatch z) with k | k | k
        · exact k (h3 b hb)
        · exact z (List.mem_singleton.mp k)
        · obtain ⟨u, hu⟩ := h1.there b hb
          rw [hu] at k
          cases k
  have ep : putC j d' ρ = ρ.set j (c0.as d') := by
    unfold putC
    rw [e]
  rw [ep]
  refine ⟨⟨r.st.trans s orig, _, g5, h2, hn, h4⟩, fun c v Lv cr nl fr => ⟨r.st.trans s orig, _, Lv, g5, cr, ?_, fun b hb => ?_, fun b hb => ?_⟩⟩
  · refine List.nodup_append.mpr ⟨nl, h2, fun x hx y hy exy => ?_⟩
    subst exy
    obtain ⟨u, hu⟩ := h1.there x hy
    rw [(fr x hx).1] at hu
    cases hu
  · exact (List.mem_append.mp hb).elim (fun z => (fr b z).2) (hn b)
  · refine (List.mem_append.mp hb).elim (fun z => .inr ?_) (h4 b)
    cases e2 : F.H b with
    | none => rfl
    | some o => exact absurd (fr b z).1 (r.st.s0 b (by rw [e2]; exact fun z => nomatch z))
def mkArgs (ρ : Rho) : List AV → Option (List Cell)
  | [] => some []
  | .val d :: r => match mkArgs ρ r with
    | some cs => some (.fz d :: cs)
    | none => none
  | .bor j :: r => match own j ρ, avs r with
    | some d, some ds => some (.io d :: ds.map .fz)
    | _, _ => none
def putFin : List AV → Rho → Rho → Option Rho
  | [], _, ρ => some ρ
  | .val _ :: r, fin, ρ => putFin r fin.tail ρ
  | .bor j :: r, fin, ρ => match fin with
    | .io d :: _ => some (putC j d ρ)
    | _ => none
def mCall (G : Fn) (m : M (List AV)) : M Vc := fun ρ => (m ρ).bind fun as ρ1 => match mkArgs ρ1 as with
  | some cs => (match G cs with
    | .ok c fin => (match putFin as fin ρ1 with
      | some ρ2 => .ok c ρ2
      | none => .bad)
    | .exc x fin => (match putFin as fin ρ1 with
      | some ρ2 => .exc x ρ2
      | none => .bad)
    | .bad => .bad)
  | none => .bad
def ioOf (vs : List V) : Nat → Option Addr := fun i => match vs[i]? with
  | some (.ref a) => some a
  | _ => none
theorem slots_fz {io : Nat → Option Addr} : ∀ {ds : List D} {vs : List V} {i : Nat}, IsL T Hf ds vs → Slots T none io Hf H i (vs.map some) (ds.map .fz) []
  | [], _, _, h => by rw [show _ = [] from h]; exact rfl
  | d :: ds, _, i, ⟨v, r, e, h1, h2⟩ => by
    rw [e]
    exact ⟨[], [], rfl, ⟨rfl, v, rfl, h1⟩, slots_fz h2⟩
theorem lent {io : Nat → Option Addr} {vs0 : List V} (hio : ∀ i a, vs0[i]? = some (.ref a) → io i = some a) (r : Rl T hx F σ H Hf ρ) : ∀ {as : List AV} {vs : List V} {cs : List Cell} {i : Nat}, (∀ k, vs[k]? = vs0[i + k]?) → ArgsR T Hf σ as vs → mkArgs ρ as = some cs →
    (Slots T none io Hf H i (vs.map some) cs [] ∧ (∀ (fin ρ' : Rho), putFin as fin ρ = some ρ' → ρ' = ρ)) ∨
    ∃ (j : Nat) (d : D) (a : Addr) (p : Nat), own j ρ = some d ∧ σ[j]? = some (some (.ref a)) ∧ OwAt T Hf H a d ∧ Slots T none io Hf H i (vs.map some) cs [a] ∧ cs[p]? = some (.io d) ∧ vs[p]? = some (.ref a) ∧ (∀ (fin ρ' : Rho), putFin as fin ρ = some ρ' → ∃ (d' : D), fin[p]? = some (.io d') ∧ ρ' = putC j d' ρ)
  | [], vs, cs, i, hk, ar, e => by
    cases e
    rw [show vs = [] from ar]
    exact .inl ⟨rfl, fun fin ρ' e => by cases e; rfl⟩
  | .val d :: as, vs, cs, i, hk, ⟨v, rs, ev, h1, h2⟩, e => by
    subst ev
    unfold mkArgs at e
    cases e1 : mkArgs ρ as with
    | none => rw [e1] at e; cases e
    | some cs' =>
      rw [e1] at e
      cases e
      have hk' : ∀ k, rs[k]? = vs0[i + 1 + k]? := fun k => by
        have := hk (k + 1)
        rw [show i + (k + 1) = i + 1 + k by omega] at this
        exact this
      rcases lent hio r hk' h2 e1 with ⟨z1, z2⟩ | ⟨j, d0, a, p, y1, y2, y3, y4, y5, y6, y7⟩
      · exact .inl ⟨⟨[], [], rfl, ⟨rfl, v, rfl, h1⟩, z1⟩, fun fin ρ' e => z2 _ ρ' e⟩
      · refine .inr ⟨j, d0, a, p + 1, y1, y2, y3, ⟨[], [a], rfl, ⟨rfl, v, rfl, h1⟩, y4⟩, y5, y6, fun fin ρ' e => ?_⟩
        obtain ⟨d', q1, q2⟩ := y7 _ ρ' e
        refine ⟨d', ?_, q2⟩
        cases fin with
        | nil => simp at q1
        | cons f fs => exact q1
  | .bor j :: as, vs, cs, i, hk, ⟨v, rs, ev, h1, h2⟩, e => by
    subst ev
    unfold mkArgs at e
    cases e1 : own j ρ with
    | none => rw [e1] at e; cases e
    | some d =>
      cases e2 : avs as with
      | none => rw [e1, e2] at e; cases e
      | some ds =>
        rw [e1, e2] at e
        cases e
        obtain ⟨a, g1, g2, g3, _⟩ := r.lend e1
        rw [show σ[j]? = some (some v) from h1] at g1
        cases g1
        refine .inr ⟨j, d, a, 0, e1, h1, g2, ⟨[a], [], rfl, ⟨a, rfl, rfl, hio i a (by rw [← Nat.add_zero i, ← hk 0]; rfl), g2⟩, slots_fz (ArgsR.vals (H := H) h2 e2)⟩, rfl, rfl, fun fin ρ' e => ?_⟩
        cases fin with
        | nil => cases e
        | cons f fs =>
          cases f with
          | io d' => cases e; exact ⟨d', rfl, rfl⟩
          | _ => cases e
theorem in_call {m : M (List AV)} {G : Fn} : Le (tE T hx W (mCall G m)) (tCallS (SpD T G) (WE W) (tA T hx W m)) := by
  intro σ H Q hh
  obtain ⟨F, Hf, ρ, rl, o⟩ := hh
  refine tA_bind (P := oE T hx W F σ Hf Q) rl (Sub.refl _) (fun z => z) (fun _ _ z => z) o fun vs H1 Hf1 as ρ1 r1 s0 s1 ar o => ?_
  cases e1 : mkArgs ρ1 as with
  | none => rw [e1] at o; exact o.elim
  | some cs =>
    rw [e1] at o
    replace o : oE T hx W F σ Hf Q (match G cs with
      | .ok c fin => (match putFin as fin ρ1 with
        | some ρ2 => .ok c ρ2
        | none => .bad)
      | .exc x fin => (match putFin as fin ρ1 with
        | some ρ2 => .exc x ρ2
        | none => .bad)
      | .bad => .bad) := o
    rcases lent (io := ioOf vs) (vs0 := vs) (fun i a e => by unfold ioOf; rw [e]) r1 (i := 0) (fun k => by rw [Nat.zero_add]) ar e1 with ⟨z1, z2⟩ | ⟨j, d, a, p, y1, y2, y3, y4, y5, y6, y7⟩
    · refine ⟨Hf1, [], ioOf vs, cs, r1.sub, z1, List.nodup_nil, (fun _ z => nomatch z), ?_⟩
      cases eG : G cs with
      | ok c fin =>
        rw [eG] at o
        cases ep : putFin as fin ρ1 with
        | none => simp only [ep] at o; exact o.elim
        | some ρ2 =>
          simp only [ep] at o
          cases z2 _ _ ep
          exact fun v H' Hf' Lv st _ cr nd fr => o v H' Hf' (r1.stepV st cr nd fr) (s0.trans st.s3)
      | exc x fin =>
        rw [eG] at o
        cases ep : putFin as fin ρ1 with
        | none => simp only [ep] at o; exact o.elim
        | some ρ2 =>
          simp only [ep] at o
          cases z2 _ _ ep
          exact fun cls dd H' Hf' st _ ex => o cls dd H' Hf' (r1.step st) ex
      | bad => rw [eG] at o; exact o.elim
    · obtain ⟨a', g1, g2, g3, g4⟩ := r1.lend y1
      rw [y2] at g1
      cases g1
      refine ⟨Hf1, [a], ioOf vs, cs, r1.sub, y4, List.nodup_cons.mpr ⟨by simp, List.nodup_nil⟩, (fun x z => by rw [List.mem_singleton] at z; subst z; exact g3), ?_⟩
      cases eG : G cs with
      | ok c fin =>
        rw [eG] at o
        cases ep : putFin as fin ρ1 with
        | none => simp only [ep] at o; exact o.elim
        | some ρ2 =>
          simp only [ep] at o
          obtain ⟨d', q1, q2⟩ := y7 _ _ ep
          subst q2
          intro v H' Hf' Lv st fi cr nd fr
          obtain ⟨b, d2, k1, k2, k3, k4⟩ := fi p d y5
          rw [y6] at k1
          cases k1
          rw [q1] at k2
          cases k2
          exact o v H' Hf' ((g4 H' Hf' d' st k4 k3).2 c v Lv cr nd fr) (s0.trans st.s3)
      | exc x fin =>
        rw [eG] at o
        cases ep : putFin as fin ρ1 with
        | none => simp only [ep] at o; exact o.elim
        | some ρ2 =>
          simp only [ep] at o
          obtain ⟨d', q1, q2⟩ := y7 _ _ ep
          subst q2
          intro cls dd H' Hf' st fi ex
          obtain ⟨b, d2, k1, k2, k3, k4⟩ := fi p d y5
          rw [y6] at k1
          cases k1
          rw [q1] at k2
          cases k2
          exact o cls dd H' Hf' (g4 H' Hf' d' st k4 k3).1 ex
      | bad => rw [eG] at o; exact o.elim
end
structure DF (T : Tb) (P : Program) (w : World) (K : PySem.W.Frag) (mg : Str → Option Value) (base : Heap) (x : Str) (k : Nat) (ps : List Str) (G : Fn) : Prop where
  ex : ∃ (f : Addr) (fd : FuncData), FnOk P w K mg base (L2.CX P w) k f fd ps (SpD T G) ∧ mg x = some (.ref f) ∧ PySem.W.keepIn K (.ref f) = true ∧ Binds K fd ps []
section
variable {T : Tb} {hx : HX} {X : Cx} {x : Str} {k : Nat} {ps : List Str} {G : Fn} {e : Expr} {es : List Expr} {m : M (List AV)} {p pos : Pos}
theorem de_call (g : DF T X.prog X.w X.K X.mg X.base x k ps G) (hr : Room k X.A) (hg : Gl X x) (ha : DA T hx X (e :: es) m) (hdb : (x == ("__debug__" : Str)) = false := by decide)
    (he : starEach (e :: es) X.env = (false, eval e X.env) :: starEach es X.env := by rfl) (hpl : (backTo pos (starEach es X.env)).any (·.1) = false := by rfl) : DE T hx X (.Call (.Name x p) (e :: es) [] pos) (mCall G m) := by
  obtain ⟨f, fd, F, hm, hk, hb⟩ := g.ex
  exact ⟨fun W tk => PE.imp (pe_callS F hr hg hm hk hb (fun σ => passAt tk σ) (ha.run W tk) hdb he hpl) in_call⟩
end
end DV

set_option Elab.async false
set_option linter.all false
set_option maxRecDepth 100000
set_option maxHeartbeats 2000000
namespace DV
open PySem PySem.Spec PyProof.Rows L2

def sRaise (c : Nat) (ns : List Str) (m : M (List AV)) : MS := fun ρ => match m ρ with
  | .ok as ρ1 => (match avs as with
    | some ds => if ds.length = ns.length ∧ ds.length ≤ 1000 then .exc ⟨c, ns.reverse, ds.reverse⟩ ρ1 else .bad
    | none => .bad)
  | .exc x ρ1 => .exc x ρ1
  | .bad => .bad
def sRaise0 (c : Nat) : MS := fun ρ => .exc ⟨c, [], []⟩ ρ
def SpI (T : Tb) (c : Nat) (ns : List Str) : Sp := fun vs H Q _ => ∃ (a : Addr) (xs : List V), vs = .ref a :: xs ∧ xs.length = ns.length ∧ H a = some (exo a (T.ca c) none) ∧
  ∀ (d : Addr) (H2 : Hp), H d = none → d ≠ a → H2 a = some (exo a (T.ca c) (some d)) → H2 d = some (exd d (ns.reverse.zip xs.reverse)) → (∀ b, b ≠ a → b ≠ d → H2 b = H b) → Q .non H2
structure EcI (T : Tb) (P : Program) (w : World) (K : PySem.W.Frag) (mg : Str → Option Value) (base : Heap) (x : Str) (c : Nat) (k : Nat) (ns : List Str) : Prop where
  oe : OexC K (T.ca c)
  gl : mg x = some (.ref (T.ca c))
  ex : ∃ (f : Addr) (fd : FuncData) (ps : List Str), PySem.W.findIn K (.ref (T.ca c)) "__init__" = some (some (.ref f)) ∧ PySem.W.typeIn K (.ref f) = some (.type "function") ∧ FnOk P w K mg base (L2.CX P w) k f fd ps (SpI T c ns) ∧ Binds K fd ps []
theorem IsL.rev {T : Tb} {H : Hp} : ∀ {ds : List D} {xs : List V}, IsL T H ds xs → IsL T H ds.reverse xs.reverse
  | [], _, h => by rw [show _ = [] from h]; exact rfl
  | d :: ds, _, ⟨x, r, e, h1, h2⟩ => by
    rw [e, List.reverse_cons, List.reverse_cons]
    exact (IsL.rev h2).append ⟨x, [], rfl, h1, rfl⟩
section
variable {T : Tb} {hx : HX} {X : Cx} {W : WX}
theorem in_raise {c : Nat} {ns : List Str} {m : M (List AV)} : LeS (tS T hx W (sRaise c ns m)) (fun _ σ H => tMkO (T.ca c) (SpI T c ns) [] (tA T hx W m) σ H fun cls d H' => W cls d σ H') := by
  intro D σ H hh
  obtain ⟨F, Hf, ρ, rl, o⟩ := hh
  refine ⟨F, Hf, ρ, rl, ?_⟩
  unfold sRaise at o
  cases e0 : m ρ with
  | bad => rw [e0] at o; exact o.elim
  | exc x ρ1 => rw [e0] at o; exact o σ
  | ok as ρ1 =>
    rw [e0] at o
    intro vs H1 Hf1 r1 s1 ar
    replace o : oS T hx W F D (match avs as with
      | some ds => if ds.length = ns.length ∧ ds.length ≤ 1000 then .exc ⟨c, ns.reverse, ds.reverse⟩ ρ1 else .bad
      | none => .bad) := o
    cases e1 : avs as with
    | none => rw [e1] at o; exact o.elim
    | some ds =>
      rw [e1] at o
      replace o : oS T hx W F D (if ds.length = ns.length ∧ ds.length ≤ 1000 then .exc ⟨c, ns.reverse, ds.reverse⟩ ρ1 else .bad) := o
      have il := ArgsR.vals (H := H1) ar e1
      by_cases hl : ds.length = ns.length ∧ ds.length ≤ 1000
      · rw [if_pos hl] at o
        have lv := Is.len il
        refine ⟨by rw [← lv]; exact hl.2, fun a ha => ⟨a, vs, by rw [List.append_nil], by rw [← lv]; exact hl.1, upd_same, fun d H2 hd hne h2a h2d h2 => ⟨rfl, d, _, h2a, h2d, ?_, ?_⟩⟩⟩
        · rw [upd_ne hne] at hd
          exact hd
        · have hd1 : H1 d = none := by
            rw [upd_ne hne] at hd
            exact hd
          have eH : upd (del H2 a) d (.xd (ns.reverse.zip vs.reverse)) = upd H1 d (.xd (ns.reverse.zip vs.reverse)) := by
            funext b
            by_cases hb : b = d
            · subst hb; rw [upd_same, upd_same]
            · rw [upd_ne hb, upd_ne hb]
              by_cases hba : b = a
              · subst hba; rw [del_same, ha]
              · rw [del_ne hba, h2 b hba hb, upd_ne hba]
          rw [eH]
          refine o σ _ _ _ _ (r1.step (Stp.newF r1.sub hd1)) ⟨rfl, .inr ⟨d, vs.reverse, rfl, upd_same, ?_, ?_⟩⟩
          · rw [List.length_reverse, List.length_reverse, ← lv, hl.1]
          · exact (il.rev).mono (Sub.upd (r1.sub.none hd1))
      · rw [if_neg hl] at o; exact o.elim
theorem in_raise0 {c : Nat} : LeS (tS T hx W (sRaise0 c)) (fun _ σ H => W (.ref (T.ca c)) none σ H) := by
  intro D σ H hh
  obtain ⟨F, Hf, ρ, rl, o⟩ := hh
  exact o σ _ _ H Hf rl ⟨rfl, .inl ⟨rfl, rfl⟩⟩
end
section
variable {T : Tb} {hx : HX} {X : Cx} {x : Str} {k c : Nat} {ns : List Str} {e : Expr} {es : List Expr} {m : M (List AV)} {p pos pos' : Pos}
theorem ds_raise (g : EcI T X.prog X.w X.K X.mg X.base x c k ns) (hr : Room (k + 1) X.A) (hc : X.calm = true) (hg : Gl X x) (ha : DA T hx X (e :: es) m) (hdb : (x == ("__debug__" : Str)) = false := by decide)
    (he : starEach (e :: es) X.env = (false, eval e X.env) :: starEach es X.env := by rfl) (hpl : (backTo pos (starEach es X.env)).any (·.1) = false := by rfl) : DS T hx X (.Raise (some (.Call (.Name x p) (e :: es) [] pos)) none pos') (sRaise c ns m) := by
  obtain ⟨f, fd, ps, iC, tI, F1, hb⟩ := g.ex
  exact ⟨fun W tk => PS.imp (ps_raise hc tk (pmk_oex g.oe iC tI F1 hr hb .nil (fun _ _ _ _ _ _ I z => by
    obtain ⟨a, B, sI, H', cls, d, e1, e2⟩ := z
    first
      | exact (e2.2.2.2.2.2.2.2.2.2.2).elim
      | simp_all) hg g.gl (ha.run W tk) hdb he hpl)) in_raise⟩
end
section
variable {T : Tb} {P : Program} {w : World} {K : PySem.W.Frag} {mg : Str → Option Value} {base : Heap}
theorem fn_init1 {st : Stmt} {x qual f : Str} {fI : Addr} {fd : FuncData} {c : Nat} {p1 p2 p3 p4 : Pos} (F : Fun K x qual st fI fd) (S : FnScope [("self" : Str), f] [("self" : Str), f] (defScope st)) (oe : OexC K (T.ca c)) (hno : PySem.W.findIn K (.ref (T.ca c)) f = some none)
    (hb : defBody st = [.Assign [.Attribute (.Name "self" p1) f p2] (.Name f p3) p4])
    (h0 : ∀ X : Cx, X.N = [("self" : Str), f] → X.env.scope = defScope st → PE X (.Name "self" p1) (tVar 0)) (h1 : ∀ X : Cx, X.N = [("self" : Str), f] → X.env.scope = defScope st → PE X (.Name f p3) (tVar 1))
    (hs : ∀ env : Env, swapsWith (.Name f p3) (some (.Attribute (.Name "self" p1) f p2)) p4.line env = pure false) : FnOk P w K mg base (L2.CX P w) 1 fI fd [("self" : Str), f] (SpI T c [f]) := by
  refine F.okX S (fun vs H Q E h => ?_) (fun cdv A outer s H vs Q E hr h => ?_)
  · obtain ⟨a, xs, rfl, hl, _⟩ := h
    simpa using hl
  · obtain ⟨a, xs, rfl, hl, ha, k⟩ := h
    obtain ⟨y, rfl⟩ : ∃ y, xs = [y] := by
      match xs, hl with
      | [y], _ => exact ⟨y, rfl⟩
    rw [hb]
    refine ⟨_, pss_one (ps_ost (h0 _ rfl rfl) (h1 _ rfl rfl) (hs _)), ?_⟩
    refine ⟨y, rfl, .ref a, rfl, a, T.ca c, rfl, oe, hno, .inl ⟨ha, fun dx hd hne => ?_⟩⟩
    refine k dx _ hd hne upd_same (by rw [upd_ne hne, upd_same]; rfl) fun b h1 h2 => by rw [upd_ne h1, upd_ne h2]
theorem fn_init2 {st : Stmt} {x qual f g : Str} {fI : Addr} {fd : FuncData} {c : Nat} {p1 p2 p3 p4 q1 q2 q3 q4 : Pos} (F : Fun K x qual st fI fd) (S : FnScope [("self" : Str), f, g] [("self" : Str), f, g] (defScope st)) (oe : OexC K (T.ca c)) (hno : PySem.W.findIn K (.ref (T.ca c)) f = some none) (hno2 : PySem.W.findIn K (.ref (T.ca c)) g = some none)
    (hb : defBody st = [.Assign [.Attribute (.Name "self" p1) f p2] (.Name f p3) p4, .Assign [.Attribute (.Name "self" q1) g q2] (.Name g q3) q4])
    (h0 : ∀ X : Cx, X.N = [("self" : Str), f, g] → X.env.scope = defScope st → PE X (.Name "self" p1) (tVar 0)) (h1 : ∀ X : Cx, X.N = [("self" : Str), f, g] → X.env.scope = defScope st → PE X (.Name f p3) (tVar 1))
    (h2 : ∀ X : Cx, X.N = [("self" : Str), f, g] → X.env.scope = defScope st → PE X (.Name "self" q1) (tVar 0)) (h3 : ∀ X : Cx, X.N = [("self" : Str), f, g] → X.env.scope = defScope st → PE X (.Name g q3) (tVar 2))
    (hs : ∀ env : Env, swapsWith (.Name f p3) (some (.Attribute (.Name "self" p1) f p2)) p4.line env = pure false) (hs2 : ∀ env : Env, swapsWith (.Name g q3) (some (.Attribute (.Name "self" q1) g q2)) q4.line env = pure false) :
    FnOk P w K mg base (L2.CX P w) 1 fI fd [("self" : Str), f, g] (SpI T c [f, g]) := by
  refine F.okX S (fun vs H Q E h => ?_) (fun cdv A outer s H vs Q E hr h => ?_)
  · obtain ⟨a, xs, rfl, hl, _⟩ := h
    simpa using hl
  · obtain ⟨a, xs, rfl, hl, ha, k⟩ := h
    obtain ⟨y, z, rfl⟩ : ∃ y z, xs = [y, z] := by
      match xs, hl with
      | [y, z], _ => exact ⟨y, z, rfl⟩
    rw [hb]
    refine ⟨_, pss_cons (ps_ost (h0 _ rfl rfl) (h1 _ rfl rfl) (hs _)) (pss_one (ps_ost (h2 _ rfl rfl) (h3 _ rfl rfl) (hs2 _))), ?_⟩
    refine ⟨y, rfl, .ref a, rfl, a, T.ca c, rfl, oe, hno, .inl ⟨ha, fun dx hd hne => ?_⟩⟩
    refine ⟨z, rfl, .ref a, rfl, a, T.ca c, rfl, oe, hno2, .inr ⟨dx, _, upd_same, (by rw [upd_ne hne, upd_same]), (by show 1 ≤ 900; decide), ?_⟩⟩
    refine k dx _ hd hne (by rw [upd_ne hne.symm, upd_same]) (by rw [upd_same]; rfl) fun b h1 h2 => by rw [upd_ne h2, upd_ne h1, upd_ne h2]
end
structure Ec0 (T : Tb) (K : PySem.W.Frag) (mg : Str → Option Value) (x : Str) (c : Nat) : Prop where
  ok : PySem.W.excIn K (T.ca c) [.type "ValueError", .type "Exception", .type "BaseException", .type "object"] "ValueError.__new__" = true
  gl : mg x = some (.ref (T.ca c))
  kp : PySem.W.keepIn K (.ref (T.ca c)) = true
  sb : PySem.W.subIn K (.ref (T.ca c)) (.type "BaseException") = some true
  tp : PySem.W.typeIn K (.ref (T.ca c)) = some (.type "type")
section
variable {T : Tb} {hx : HX} {X : Cx} {x z : Str} {c j : Nat} {p p2 pos pos' : Pos}
theorem ds_raise0 (g : Ec0 T X.K X.mg x c) (hc : X.calm = true) (hg : Gl X x) (hdb : (x == ("__debug__" : Str)) = false := by decide) : DS T hx X (.Raise (some (.Call (.Name x p) [.Constant (.str z) j p2] [] pos)) none pos') (sRaise0 c) :=
  ⟨fun W tk => PS.imp (ps_raise hc tk (pmk_own F.excBase_ValueError g.ok g.gl g.kp (raises_own g.sb g.tp) hg hdb)) in_raise0⟩
end
end DV

set_option Elab.async false
set_option linter.all false
set_option maxRecDepth 100000
set_option maxHeartbeats 2000000
namespace DV
open PySem PySem.Spec PyProof.Rows L2

@[simp] def Cell.isEx : Cell → Bool
  | .ex _ => true
  | _ => false
def noEx (ρ : Rho) : Bool := ρ.all fun c => !c.isEx
def outEx (i : Nat) (ρ : Rho) (k : Rho → SR) : SR := match ρ[i]? with
  | none => .bad
  | some _ => if noEx (ρ.set i .no) = true then k (ρ.set i .no) else .bad
def sSuite (i : Nat) : SR → SR
  | .next ρ => outEx i ρ .next
  | .ret c ρ => outEx i ρ (.ret c)
  | .brk ρ => outEx i ρ .brk
  | .cont ρ => outEx i ρ .cont
  | _ => .bad
def sTry (cat : Nat → Option Bool) (i : Nat) (mb ms : MS) : MS := fun ρ => match mb ρ with
  | .exc x ρ1 => (match cat x.c with
    | some true => (match setR i (.ex x) ρ1 with
      | some ρ2 => sSuite i (ms ρ2)
      | none => .bad)
    | some false => .exc x ρ1
    | none => .bad)
  | r => r
section
variable {T : Tb} {hx : HX} {X : Cx} {W : WX} {F : Fm} {σ : L2.St} {H Hf : Hp} {ρ : Rho}
theorem slots_up {io : Nat → Option Addr} : ∀ {i : Nat} {σ : L2.St} {ρ : Rho} {L : List Addr}, Slots T none io Hf H i σ ρ L → Slots T hx io Hf H i σ ρ L
  | _, [], [], _, h => h
  | _, [], _ :: _, _, h => h.elim
  | _, _ :: _, [], _, h => h.elim
  | i, v :: σ, c :: ρ, L, h => by
    obtain ⟨L1, L2, rfl, hc, hr⟩ := h
    refine ⟨L1, L2, rfl, ?_, slots_up hr⟩
    cases c with
    | ex x => obtain ⟨_, _, _, _, z, _⟩ := hc; cases z
    | no => exact hc
    | fz d => exact hc
    | ow d => exact hc
    | io d => exact hc
    | ol d => exact hc
theorem slots_down {io : Nat → Option Addr} : ∀ {i : Nat} {σ : L2.St} {ρ : Rho} {L : List Addr}, Slots T hx io Hf H i σ ρ L → noEx ρ = true → Slots T none io Hf H i σ ρ L
  | _, [], [], _, h, _ => h
  | _, [], _ :: _, _, h, _ => h.elim
  | _, _ :: _, [], _, h, _ => h.elim
  | i, v :: σ, c :: ρ, L, h, n => by
    obtain ⟨L1, L2, rfl, hc, hr⟩ := h
    obtain ⟨n1, n2⟩ := Bool.and_eq_true_iff.mp (show ((!c.isEx) && noEx ρ) = true from n)
    refine ⟨L1, L2, rfl, ?_, slots_down hr n2⟩
    cases c with
    | ex x => cases n1
    | no => exact hc
    | fz d => exact hc
    | ow d => exact hc
    | io d => exact hc
    | ol d => exact hc
theorem Rl.up (r : Rl T none F σ H Hf ρ) : Rl T hx F σ H Hf ρ :=
  let ⟨L, h1, h2⟩ := r.sl
  ⟨r.st, L, slots_up h1, h2⟩
theorem Rl.down (r : Rl T hx F σ H Hf ρ) (n : noEx ρ = true) : Rl T none F σ H Hf ρ :=
  let ⟨L, h1, h2⟩ := r.sl
  ⟨r.st, L, slots_down h1 n, h2⟩
theorem RlV.down {c : Vc} {v : V} (r : RlV T hx F σ H Hf ρ c v) (n : noEx ρ = true) : RlV T none F σ H Hf ρ c v :=
  let ⟨L, Lv, h1, h2⟩ := r.sl
  ⟨r.st, L, Lv, slots_down h1 n, h2⟩
theorem RlV.forget {j : Nat} {c0 : Cell} {c : Vc} {v0 : V} (r : RlV T hx F σ H Hf ρ c v0) (e : ρ[j]? = some c0) (v : Option V) : RlV T hx F (σ.set j v) H Hf (ρ.set j .no) c v0 := by
  obtain ⟨L, Lv, h1, h0, h2, h3, h4⟩ := r.sl
  obtain ⟨w, A, B, L1, g1, rfl, g3, g4⟩ := h1.at e
  have sb : ∀ a, a ∈ Lv ++ (A ++ ([] ++ B)) → a ∈ Lv ++ (A ++ (L1 ++ B)) := fun a ha => by
    simp only [List.mem_append, List.nil_append] at ha ⊢
    rcases ha with z | z | z <;> simp [z]
  refine ⟨r.st, _, Lv, g4 Hf H .no v [] (Sub.refl _) (fun b hb u e => e) rfl, h0, ?_, fun a ha => h3 a (sb a ha), fun a ha => h4 a (sb a ha)⟩
  rw [List.nodup_append] at h2
  obtain ⟨n1, n2, n3⟩ := h2
  rw [List.nodup_append] at n2
  obtain ⟨n4, n5, n6⟩ := n2
  rw [List.nodup_append] at n5
  refine List.nodup_append.mpr ⟨n1, List.nodup_append.mpr ⟨n4, n5.2.1, fun a ha b hb => n6 a ha b (by simp only [List.nil_append] at hb; simp [hb])⟩, fun a ha b hb => n3 a ha b ?_⟩
  simp only [List.mem_append, List.nil_append] at hb ⊢
  rcases hb with z | z <;> simp [z]
theorem Rl.setEx {i : Nat} {x : EX} {a : Addr} {cls : Value} {dd : Option Addr} {ρ' : Rho} (r : Rl T (some (a, cls, dd)) F σ H Hf ρ) (e : ExAt T Hf x cls dd) (h : setR i (.ex x) ρ = some ρ') : Rl T (some (a, cls, dd)) F (σ.set i (some (.ref a))) H Hf ρ' := by
  obtain ⟨c0, e0, _, rfl⟩ := setR_some h
  obtain ⟨L, h1, h2, h3, h4⟩ := r.sl
  obtain ⟨w, A, B, L1, g1, rfl, g3, g4⟩ := h1.at e0
  have sb : ∀ a, a ∈ (A ++ ([] ++ B)) → a ∈ (A ++ (L1 ++ B)) := fun a ha => by
    simp only [List.mem_append, List.nil_append] at ha ⊢
    rcases ha with z | z <;> simp [z]
  refine ⟨r.st, _, g4 Hf H (.ex x) (some (.ref a)) [] (Sub.refl _) (fun b hb u e => e) ⟨rfl, a, cls, dd, rfl, rfl, e⟩, ?_, fun a ha => h3 a (sb a ha), fun a ha => h4 a (sb a ha)⟩
  rw [List.nodup_append] at h2
  obtain ⟨n4, n5, n6⟩ := h2
  rw [List.nodup_append] at n5
  exact List.nodup_append.mpr ⟨n4, n5.2.1, fun a ha b hb => n6 a ha b (by simp only [List.nil_append] at hb; simp [hb])⟩
def noW : WX := fun _ _ _ _ => False
theorem takes_noW {X : Cx} : Takes X noW := fun u s' ⟨_, _, _, _, _, _, _, _, _, _, _, _, _, _, _, _, z⟩ => z.elim
theorem in_try {cat : Nat → Option Bool} {i : Nat} {mb ms : MS} {cv : Value} (hcat : ∀ c b, cat c = some b → PySem.W.exmOne T.K (.ref (T.ca c)) cv = some b) :
    LeS (tS T none W (sTry cat i mb ms)) (fun D σ H => tS T none (wAs T.K cv i (fun a cls d => tS T (some (a, cls, d)) noW ms) W D) mb D σ H) := by
  intro D σ H hh
  obtain ⟨F, Hf, ρ, rl, o⟩ := hh
  refine ⟨F, Hf, ρ, rl, ?_⟩
  unfold sTry at o
  cases e0 : mb ρ with
  | bad => rw [e0] at o; exact o
  | next ρ1 => rw [e0] at o; exact o
  | ret c ρ1 => rw [e0] at o; exact o
  | brk ρ1 => rw [e0] at o; exact o
  | cont ρ1 => rw [e0] at o; exact o
  | exc x ρ1 =>
    rw [e0] at o
    replace o : oS T none W F D (match cat x.c with
      | some true => (match setR i (.ex x) ρ1 with
        | some ρ2 => sSuite i (ms ρ2)
        | none => .bad)
      | some false => .exc x ρ1
      | none => .bad) := o
    intro σ' cls dd H' Hf' r' ex
    cases ec : cat x.c with
    | none => rw [ec] at o; exact o.elim
    | some b =>
      have q := hcat _ _ ec
      rw [← ex.1] at q
      cases b with
      | false =>
        rw [ec] at o
        exact ⟨false, q, (fun z => nomatch z), fun _ => o σ' cls dd H' Hf' r' ex⟩
      | true =>
        rw [ec] at o
        replace o : oS T none W F D (match setR i (.ex x) ρ1 with
          | some ρ2 => sSuite i (ms ρ2)
          | none => .bad) := o
        refine ⟨true, q, fun _ a ha => ?_, fun z => nomatch z⟩
        cases es : setR i (.ex x) ρ1 with
        | none => rw [es] at o; exact o.elim
        | some ρ2 =>
          rw [es] at o
          replace o : oS T none W F D (sSuite i (ms ρ2)) := o
          refine ⟨F, Hf', ρ2, (r'.up).setEx ex es, ?_⟩
          have fin : ∀ {k : Rho → SR} {ρ3 : Rho}, oS T none W F D (outEx i ρ3 k) → ∃ c0, ρ3[i]? = some c0 ∧ noEx (ρ3.set i .no) = true ∧ oS T none W F D (k (ρ3.set i .no)) := fun {k ρ3} o => by
            unfold outEx at o
            cases e3 : ρ3[i]? with
            | none => rw [e3] at o; exact o.elim
            | some c0 =>
              rw [e3] at o
              replace o : oS T none W F D (if noEx (ρ3.set i .no) = true then k (ρ3.set i .no) else .bad) := o
              by_cases hn : noEx (ρ3.set i .no) = true
              · rw [if_pos hn] at o; exact ⟨c0, rfl, hn, o⟩
              · rw [if_neg hn] at o; exact o.elim
          cases e4 : ms ρ2 with
          | bad => rw [e4] at o; exact o.elim
          | exc x ρ3 => rw [e4] at o; exact o.elim
          | next ρ3 =>
            rw [e4] at o
            obtain ⟨c0, h1, h2, h3⟩ := fin o
            exact fun σ3 H3 Hf3 r3 => h3 _ H3 Hf3 ((r3.forget h1 none).down h2)
          | brk ρ3 =>
            rw [e4] at o
            obtain ⟨c0, h1, h2, h3⟩ := fin o
            exact fun σ3 H3 Hf3 r3 => h3 _ H3 Hf3 ((r3.forget h1 none).down h2)
          | cont ρ3 =>
            rw [e4] at o
            obtain ⟨c0, h1, h2, h3⟩ := fin o
            exact fun σ3 H3 Hf3 r3 => h3 _ H3 Hf3 ((r3.forget h1 none).down h2)
          | ret c ρ3 =>
            rw [e4] at o
            obtain ⟨c0, h1, h2, h3⟩ := fin o
            exact fun v σ3 H3 Hf3 r3 => h3 v _ H3 Hf3 ((r3.forget h1 none).down h2)
def mXf (i : Nat) (okc : Nat → Bool) (f : Str) : M Vc := fun ρ => match ρ[i]? with
  | some (.ex x) => if okc x.c = true then (match (x.ns.zip x.ds).lookup f with
    | some d => .ok (.fz d) ρ
    | none => .bad) else .bad
  | _ => .bad
def mXis (i : Nat) (tab : Nat → Option Bool) : M Vc := fun ρ => match ρ[i]? with
  | some (.ex x) => (match tab x.c with
    | some b => .ok (.fz (.bl b)) ρ
    | none => .bad)
  | _ => .bad
theorem lookup_isL {f : Str} : ∀ {ns : List Str} {ds : List D} {xs : List V} {d : D}, IsL T Hf ds xs → (ns.zip ds).lookup f = some d → ∃ v, (ns.zip xs).lookup f = some v ∧ Is T Hf d v
  | [], _, _, _, _, e => by simp at e
  | _ :: _, [], _, _, _, e => by simp at e
  | n :: ns, d0 :: ds, _, d, ⟨x, r, ex, h1, h2⟩, e => by
    subst ex
    rw [List.zip_cons_cons] at e ⊢
    rw [List.lookup_cons] at e ⊢
    cases q : (f == n) with
    | true => rw [q] at e; cases e; exact ⟨x, rfl, h1⟩
    | false => rw [q] at e; exact lookup_isL h2 e
end
section
variable {T : Tb} {X : Cx} {a : Addr} {oe : Obj} {cls : Value} {d : Option Addr} {pn : List (Addr × Obj)} {e : Expr} {i : Nat} {f : Str} {pos : Pos}
theorem de_xf {okc : Nat → Bool} (hK : X.K = T.K) (hok : ∀ c, okc c = true → XfC T.K (T.ca c) ∧ PySem.W.findIn T.K (.ref (T.ca c)) f = some none) (hz : Zc cls d oe) (hf : ∃ vs, oe.data = .fields vs) (he : PE (X.suite a ((a, oe) :: pn)) e (tVar i))
    (hb : attributeBase e f X.env (eval e X.env) = eval e X.env := by rfl) : DE T (some (a, cls, d)) (X.suite a ((a, oe) :: pn)) (.Attribute e f pos) (mXf i okc f) := by
  refine ⟨fun W tk => ⟨fun pins s σ H Q I hh => ?_⟩⟩
  obtain ⟨F, Hf, ρ, rl, o⟩ := hh
  unfold mXf at o
  cases c : ρ[i]? with
  | none => rw [c] at o; exact o.elim
  | some q =>
    rw [c] at o
    cases q with
    | ex x =>
      replace o : oE T (some (a, cls, d)) W F σ Hf Q (if okc x.c = true then (match (x.ns.zip x.ds).lookup f with
        | some d => .ok (.fz d) ρ
        | none => .bad) else .bad) := o
      by_cases hk : okc x.c = true
      · rw [if_pos hk] at o
        obtain ⟨b, cls', dd, h1, h2, h3⟩ := rl.caught c
        cases h1
        obtain ⟨h4, h5⟩ := h3
        cases el : (x.ns.zip x.ds).lookup f with
        | none => rw [el] at o; exact o.elim
        | some dv =>
          rw [el] at o
          rcases h5 with ⟨z1, z2⟩ | ⟨dx, xs, z1, z2, z3, z4⟩
          · rw [z1] at el; simp at el
          · obtain ⟨v, k1, k2⟩ := lookup_isL z4 el
            obtain ⟨m1, m2⟩ := hok _ hk
            rw [← hK] at m1 m2
            exact (pe_xf (pn := pn) m1 m2 hz hf he hb).run pins s σ H Q I ⟨_, h2, rfl, h4, dx, _, v, z1, rl.sub _ _ z2, k1, o v H Hf (rl.val k2) (Sub.refl _)⟩
      · rw [if_neg hk] at o; exact o.elim
    | no => exact o.elim
    | fz d => exact o.elim
    | ow d => exact o.elim
    | io d => exact o.elim
    | ol d => exact o.elim
theorem de_xis {tab : Nat → Option Bool} {x : Str} {c : Str} {cv : Value} {p1 p2 p3 : Pos} (hK : X.K = T.K) (htab : ∀ c b, tab c = some b → ExcC T.K (T.ca c) ∧ PySem.W.kitOne T.K (.ref (T.ca c)) cv = some b) (hz : Zc cls d oe) (hf : ∃ vs, oe.data = .fields vs)
    (he : PE (X.suite a ((a, oe) :: pn)) (.Name x p1) (tVar i)) (cvv : V) (hcv : ∀ u, RelV cvv u → u = cv) (hc : PE (X.suite a ((a, oe) :: pn)) (.Name c p2) (tC cvv)) (hg : Gl X "isinstance") (hm : X.mg "isinstance" = none) :
    DE T (some (a, cls, d)) (X.suite a ((a, oe) :: pn)) (.Call (.Name "isinstance" p3) [.Name x p1, .Name c p2] [] pos) (mXis i tab) := by
  refine ⟨fun W tk => ⟨fun pins s σ H Q I hh => ?_⟩⟩
  obtain ⟨F, Hf, ρ, rl, o⟩ := hh
  unfold mXis at o
  cases c0 : ρ[i]? with
  | none => rw [c0] at o; exact o.elim
  | some q =>
    rw [c0] at o
    cases q with
    | ex y =>
      replace o : oE T (some (a, cls, d)) W F σ Hf Q (match tab y.c with
        | some b => .ok (.fz (.bl b)) ρ
        | none => .bad) := o
      cases et : tab y.c with
      | none => rw [et] at o; exact o.elim
      | some b =>
        rw [et] at o
        obtain ⟨b', cls', dd, h1, h2, h3⟩ := rl.caught c0
        cases h1
        obtain ⟨h4, h5⟩ := h3
        obtain ⟨m1, m2⟩ := htab _ _ et
        have hcr : CallR (X.suite a ((a, oe) :: pn)) (.builtin "isinstance") (fun xs H' Q' => xs = [.ref a, cvv] ∧ H' = H ∧ Q' (.bl b) H) := by
          intro pins5 s5 σ5 H2 xs us Q2 I5 r h
          obtain ⟨rfl, rfl, q⟩ := h
          cases r with
          | cons rx rr =>
            cases rr with
            | cons rt rr =>
              cases rr
              cases rx
              have ec := hcv _ rt
              subst ec
              obtain ⟨hget, _⟩ := I5.pin (a, oe) (List.mem_append.mpr (.inl List.mem_cons_self))
              obtain ⟨vs, hv⟩ := hf
              have J : ∃ od, PySem.W.InstAt s5.heap a oe (T.ca y.c) od := by
                rcases h5 with ⟨z1, z2⟩ | ⟨dx, xs, z1, z2, z3, z4⟩
                · refine ⟨none, hget, by rw [hz.1, h4], by unfold PySem.W.notCls; rw [hv], ?_⟩
                  rw [hz.2, z2]
                  trivial
                · have hx : ObjOk X.prog X.w H2 s5.heap dx (.xd _) := I5.hok dx _ (rl.sub _ _ z2)
                  obtain ⟨mA, hns, hr⟩ := hx
                  obtain ⟨od, ho, hl⟩ := lookIn_ns hns
                  refine ⟨some od, hget, by rw [hz.1, h4], by unfold PySem.W.notCls; rw [hv], ?_⟩
                  rw [hz.2, z1]
                  exact ho
              obtain ⟨od, J⟩ := J
              rw [← hK] at m1 m2
              obtain ⟨cd, hcd, _⟩ := PySem.W.any_some m1.hd
              exact PySem.W.kia_one (PySem.W.kitx_exc (by rw [hcd]; rfl) m1.hg m1.hk m1.hs m1.ha m1.hn m1.ht m1.hm) I5.kIn J m2 (fun z => nomatch z) fun tk => ⟨.bl b, H2, I5.kept (t' := tk) fun _ _ z => z, rfl, q⟩
        exact (pe_callB hcr hg hm rfl (pa_cons he (pa_cons hc pa_nil))).run pins s σ H Q I ⟨.ref a, h2, rfl, rfl, o _ H Hf (rl.val rfl) (Sub.refl _)⟩
    | no => exact o.elim
    | fz d => exact o.elim
    | ow d => exact o.elim
    | io d => exact o.elim
    | ol d => exact o.elim
end
section
variable {T : Tb} {X : Cx} {x n : Str} {cv : Value} {i : Nat} {body suite : List Stmt} {b₀ : Stmt} {np pos pos' : Pos} {mb ms : MS} {cat : Nat → Option Bool}
theorem ds_try (hK : X.K = T.K) (hs : X.stack = X.env :: X.outer) (hf : X.env.frame = some X.env.locals) (hN : X.N.Nodup) (hi : X.N[i]? = some n) (hln : X.env.kindOf n = some .local) (hc : Names X x cv) (hcat : ∀ c b, cat c = some b → PySem.W.exmOne T.K (.ref (T.ca c)) cv = some b)
    (hb : ∀ (pn : List (Addr × Obj)) (xe : Value → Shared → Prop), PassesOwn (model X.prog X.w) X.A X.env xe → DSs T none (X.tr pn xe) body mb)
    (hsu : ∀ (a : Addr) (oe : Obj) (cls : Value) (d : Option Addr) (pn : List (Addr × Obj)), Zc cls d oe → (∃ vs, oe.data = .fields vs) → DSs T (some (a, cls, d)) (X.suite a ((a, oe) :: pn)) (b₀ :: suite) ms) :
    DS T none X (.Try body [.ExceptHandler (some (.Name x np)) (some n) (b₀ :: suite) pos'] [] [] pos) (sTry cat i mb ms) := by
  refine ⟨fun W tk => PS.imp (ps_try_as (tb := fun W => tS T none W mb) (ts := fun a cls d => tS T (some (a, cls, d)) noW ms) hs hf hN hi hln hc tk (fun W' pn xe tk' hp => (hb pn xe hp).run W' tk') (fun a oe cls d pn hz hd => (hsu a oe cls d pn hz hd).run noW takes_noW)) ?_⟩
  rw [hK]
  exact in_try hcat
end
end DV

set_option Elab.async false
set_option linter.all false
set_option maxRecDepth 100000
set_option maxHeartbeats 2000000
namespace DV
open PySem PySem.Spec PyProof.Rows L2

section
variable {T : Tb} {Hf H : Hp}
theorem IsLN.one {ds : List D} {xs : List V} (h : IsLN T Hf H ds xs) {d : D} (e : ds = [d]) : ∃ x, xs = [x] ∧ IsN T Hf H d x := by
  subst e
  obtain ⟨x, r, rfl, h1, h2⟩ := h
  exact ⟨x, by rw [show r = [] from h2], h1⟩
theorem IsLN.two {ds : List D} {xs : List V} (h : IsLN T Hf H ds xs) {d e : D} (eq : ds = [d, e]) : ∃ x y, xs = [x, y] ∧ IsN T Hf H d x ∧ IsN T Hf H e y := by
  subst eq
  obtain ⟨x, r, rfl, h1, y, r2, rfl, h2, h3⟩ := h
  exact ⟨x, y, by rw [show r2 = [] from h3], h1, h2⟩
@[simp] def D.seq? : D → Option (List D)
  | .lst ds => some ds
  | .tup ds => some ds
  | _ => none
theorem seq_ok {d : D} {v : V} {ds : List D} (s : Sub Hf H) (i : IsN T Hf H d v) (h : d.seq? = some ds) : ∃ a xs, v = .ref a ∧ (SqL T.K H a xs ∨ SqT T.K H a xs) ∧ IsL T Hf ds xs := by
  cases d with
  | lst es =>
    cases h
    obtain ⟨a, xs, e, q, il⟩ := i.lst s
    exact ⟨a, xs, e, .inl q, il⟩
  | tup es =>
    cases h
    obtain ⟨a, xs, e, q, il⟩ := i.tup s
    exact ⟨a, xs, e, .inr q, il⟩
  | _ => cases h
@[simp] def lenD : D → Option Nat
  | .str x => if x.length ≤ sizeLine then some x.length else none
  | .lst ds => some ds.length
  | .tup ds => some ds.length
  | _ => none
@[simp] def fLen : List D → Option Vc
  | [d] => (lenD d).map fun (n : Nat) => Vc.fz (.int (n : Int))
  | _ => none
theorem c_len : CaS T (fun xs H Q => ∃ x n, xs = [x] ∧ LenV T.K x H n ∧ Q (.int n) H) fLen := by
  intro H Hf xs ds c Q s il e nv
  match ds, e with
  | [d], e =>
    obtain ⟨x, rfl, ix⟩ := il.one rfl
    obtain ⟨n, h1, h2⟩ := Option.map_eq_some_iff.mp e
    subst h2
    refine ⟨x, n, rfl, ?_, nv.same s rfl⟩
    cases d with
    | str y =>
      rw [ix.str]
      replace h1 : (if y.length ≤ sizeLine then some y.length else none) = some n := h1
      by_cases hz : y.length ≤ sizeLine
      · rw [if_pos hz] at h1; cases h1; exact ⟨hz, rfl⟩
      · rw [if_neg hz] at h1; cases h1
    | lst es =>
      cases h1
      obtain ⟨a, ys, rfl, q, iy⟩ := ix.lst s
      exact .inl ⟨ys, q, Is.len iy⟩
    | tup es =>
      cases h1
      obtain ⟨a, ys, rfl, q, iy⟩ := ix.tup s
      exact .inr ⟨ys, q, Is.len iy⟩
    | _ => cases h1
@[simp] def fInt : List D → Option Vc
  | [.int i] => some (.fz (.int i))
  | [.bl b] => some (.fz (.int (if b then 1 else 0)))
  | [.str x] => if x.length ≤ 640 then (PySem.intText? x).map fun n => .fz (.int n) else none
  | _ => none
theorem c_int : CaS T (fun xs H Q => ((∃ i, xs = [.int i] ∧ Q (.int i) H) ∨ ∃ k, xs = [.bl k] ∧ Q (.int (if k then 1 else 0)) H) ∨ ∃ a n, xs = [.str a] ∧ PySem.intText? a = some n ∧ a.length ≤ 640 ∧ Q (.int n) H) fInt := by
  intro H Hf xs ds c Q s il e nv
  match ds, e with
  | [.int i], e =>
    obtain ⟨x, rfl, ix⟩ := il.one rfl
    cases e
    rw [ix.int]
    exact .inl (.inl ⟨i, rfl, nv.same s rfl⟩)
  | [.bl i], e =>
    obtain ⟨x, rfl, ix⟩ := il.one rfl
    cases e
    rw [ix.bl]
    exact .inl (.inr ⟨i, rfl, nv.same s rfl⟩)
  | [.str i], e =>
    obtain ⟨x, rfl, ix⟩ := il.one rfl
    rw [ix.str]
    replace e : (if i.length ≤ 640 then (PySem.intText? i).map fun n => Vc.fz (.int n) else none) = some c := e
    by_cases hz : i.length ≤ 640
    · rw [if_pos hz] at e
      obtain ⟨n, h1, h2⟩ := Option.map_eq_some_iff.mp e
      subst h2
      exact .inr ⟨i, n, rfl, h1, hz, nv.same s rfl⟩
    · rw [if_neg hz] at e; cases e
@[simp] def fStr : List D → Option Vc
  | [.int i] => if i.natAbs.log2 < 1920 then some (.fz (.str (toString i))) else none
  | [.str x] => some (.fz (.str x))
  | _ => none
theorem c_str : CaS T (fun xs H Q => (∃ i, xs = [.int i] ∧ i.natAbs.log2 < 1920 ∧ Q (.str (toString i)) H) ∨ ∃ a, xs = [.str a] ∧ Q (.str a) H) fStr := by
  intro H Hf xs ds c Q s il e nv
  match ds, e with
  | [.int i], e =>
    obtain ⟨x, rfl, ix⟩ := il.one rfl
    rw [ix.int]
    replace e : (if i.natAbs.log2 < 1920 then some (Vc.fz (.str (toString i))) else none) = some c := e
    by_cases hz : i.natAbs.log2 < 1920
    · rw [if_pos hz] at e; cases e; exact .inl ⟨i, rfl, hz, nv.same s rfl⟩
    · rw [if_neg hz] at e; cases e
  | [.str i], e =>
    obtain ⟨x, rfl, ix⟩ := il.one rfl
    cases e
    rw [ix.str]
    exact .inr ⟨i, rfl, nv.same s rfl⟩
@[simp] def fTuple : List D → Option Vc
  | [d] => d.seq?.map fun ds => .fz (.tup ds)
  | _ => none
@[simp] def fList : List D → Option Vc
  | [d] => d.seq?.map fun ds => .ow (.lst ds)
  | _ => none
theorem c_tuple : CaS T (fun xs H Q => ∃ p ys, xs = [.ref p] ∧ ((SqL T.K H p ys ∧ ∀ l, H l = none → Q (.ref l) (upd H l (.tup ys))) ∨ (SqT T.K H p ys ∧ Q (.ref p) H))) fTuple := by
  intro H Hf xs ds c Q s il e nv
  match ds, e with
  | [d], e =>
    obtain ⟨x, rfl, ix⟩ := il.one rfl
    obtain ⟨es, h1, h2⟩ := Option.map_eq_some_iff.mp e
    subst h2
    cases d with
    | lst es' =>
      cases h1
      obtain ⟨a, ys, rfl, q, iy⟩ := ix.lst s
      exact ⟨a, ys, rfl, .inl ⟨q, fun l hl => nv.tup s iy hl⟩⟩
    | tup es' =>
      cases h1
      rcases ix with i | ⟨b, _, z⟩
      · obtain ⟨a, ys, rfl, q, iy⟩ := id i
        exact ⟨a, ys, rfl, .inr ⟨s.sqT q, nv.same s i⟩⟩
      · exact z.elim
    | _ => cases h1
theorem c_list : CaS T (fun xs H Q => ∃ p ys, xs = [.ref p] ∧ (SqL T.K H p ys ∨ SqT T.K H p ys) ∧ ∀ l, H l = none → Q (.ref l) (upd H l (.lst ys))) fList := by
  intro H Hf xs ds c Q s il e nv
  match ds, e with
  | [d], e =>
    obtain ⟨x, rfl, ix⟩ := il.one rfl
    obtain ⟨es, h1, h2⟩ := Option.map_eq_some_iff.mp e
    subst h2
    obtain ⟨a, ys, rfl, q, iy⟩ := seq_ok s ix h1
    exact ⟨a, ys, rfl, q, fun l hl => nv.lst s iy hl⟩
def bls? : List D → Option (List Bool)
  | [] => some []
  | .bl b :: r => (bls? r).map (b :: ·)
  | _ => none
theorem bls_ok : ∀ {ds : List D} {bs : List Bool}, bls? ds = some bs → ds = bs.map .bl
  | [], _, e => by cases e; rfl
  | .bl b :: r, bs, e => by
    obtain ⟨bs', h1, rfl⟩ := Option.map_eq_some_iff.mp (show (bls? r).map (b :: ·) = some bs from e)
    rw [List.map_cons, bls_ok h1]
  | .non :: _, _, e => by cases e
  | .int _ :: _, _, e => by cases e
  | .str _ :: _, _, e => by cases e
  | .tup _ :: _, _, e => by cases e
  | .lst _ :: _, _, e => by cases e
  | .ins _ _ _ :: _, _, e => by cases e
  | .dK _ _ :: _, _, e => by cases e
  | .dT _ _ :: _, _, e => by cases e
  | .cls _ :: _, _, e => by cases e
  | .ty _ :: _, _, e => by cases e
  | .fn _ :: _, _, e => by cases e
def fAll : List D → Option Vc
  | [.lst ds] => (bls? ds).map fun bs => .fz (.bl (bs.all id))
  | _ => none
def fAny : List D → Option Vc
  | [.lst ds] => (bls? ds).map fun bs => .fz (.bl (bs.any id))
  | _ => none
theorem c_all : CaS T (rAll T.K) fAll := by
  intro H Hf xs ds c Q s il e nv
  match ds, e with
  | [.lst es], e =>
    obtain ⟨x, rfl, ix⟩ := il.one rfl
    obtain ⟨bs, h1, rfl⟩ := Option.map_eq_some_iff.mp (show (bls? es).map (fun bs => Vc.fz (.bl (bs.all id))) = some c from e)
    obtain ⟨a, ys, rfl, q, iy⟩ := ix.lst s
    rw [bls_ok h1] at iy
    rw [iy.bls] at q
    exact ⟨a, bs, rfl, q, nv.same s rfl⟩
theorem c_any : CaS T (rAny T.K) fAny := by
  intro H Hf xs ds c Q s il e nv
  match ds, e with
  | [.lst es], e =>
    obtain ⟨x, rfl, ix⟩ := il.one rfl
    obtain ⟨bs, h1, rfl⟩ := Option.map_eq_some_iff.mp (show (bls? es).map (fun bs => Vc.fz (.bl (bs.any id))) = some c from e)
    obtain ⟨a, ys, rfl, q, iy⟩ := ix.lst s
    rw [bls_ok h1] at iy
    rw [iy.bls] at q
    exact ⟨a, bs, rfl, q, nv.same s rfl⟩
@[simp] def D.str? : D → Option Str
  | .str x => some x
  | _ => none
theorem D.str?_some {d : D} {x : Str} (h : d.str? = some x) : d = .str x := by
  cases d with
  | str y => cases h; rfl
  | _ => cases h
def strs? : List D → Option (List Str)
  | [] => some []
  | d :: r => match d.str?, strs? r with
    | some x, some xs => some (x :: xs)
    | _, _ => none
theorem strs_ok : ∀ {ds : List D} {bs : List Str}, strs? ds = some bs → ds = bs.map .str
  | [], _, e => by cases e; rfl
  | d :: r, bs, e => by
    unfold strs? at e
    cases h1 : d.str? with
    | none => rw [h1] at e; cases e
    | some x =>
      cases h2 : strs? r with
      | none => rw [h1, h2] at e; cases e
      | some xs =>
        rw [h1, h2] at e
        cases e
        rw [List.map_cons, ← strs_ok h2, ← D.str?_some h1]
def ints? : List D → Option (List Int)
  | [] => some []
  | d :: r => match d.int?, ints? r with
    | some x, some xs => some (x :: xs)
    | _, _ => none
theorem ints_ok {T : Tb} {Hf : Hp} : ∀ {ds : List D} {bs : List Int} {xs : List V}, ints? ds = some bs → IsL T Hf ds xs → xs = bs.map V.int
  | [], _, _, e, i => by cases e; exact i
  | d :: r, bs, xs, e, ⟨x, q, ex, i1, i2⟩ => by
    subst ex
    unfold ints? at e
    cases h1 : d.int? with
    | none => rw [h1] at e; cases e
    | some n =>
      cases h2 : ints? r with
      | none => rw [h1, h2] at e; cases e
      | some ns =>
        rw [h1, h2] at e
        cases e
        rw [D.int?_some h1] at i1
        rw [List.map_cons, ints_ok h2 i2, show x = V.int n from i1]
def fMax : List D → Option Vc
  | [.lst ds] => (ints? ds).bind fun ns => ns.max?.map fun m => .fz (.int m)
  | _ => none
def fMin : List D → Option Vc
  | [.lst ds] => (ints? ds).bind fun ns => ns.min?.map fun m => .fz (.int m)
  | _ => none
def fSum : List D → Option Vc
  | [.lst ds] => (ints? ds).map fun ns => .fz (.int ns.sum)
  | _ => none
def ins1 (x : Int) : List Int → List Int
  | [] => [x]
  | y :: r => if x ≤ y then x :: y :: r else y :: ins1 x r
def isort : List Int → List Int
  | [] => []
  | x :: r => ins1 x (isort r)
theorem ins1_perm (x : Int) : ∀ l, (ins1 x l).Perm (x :: l)
  | [] => List.Perm.refl _
  | y :: r => by
    unfold ins1
    by_cases h : x ≤ y
    · rw [if_pos h]
    · rw [if_neg h]
      exact ((ins1_perm x r).cons y).trans (List.Perm.swap x y r)
theorem isort_perm : ∀ l, (isort l).Perm l
  | [] => List.Perm.refl _
  | x :: r => (ins1_perm x _).trans ((isort_perm r).cons x)
theorem ins1_sorted (x : Int) : ∀ l, l.Pairwise (· ≤ ·) → (ins1 x l).Pairwise (· ≤ ·)
  | [], _ => by simp [ins1]
  | y :: r, h => by
    obtain ⟨h1, h2⟩ := List.pairwise_cons.mp h
    unfold ins1
    by_cases hx : x ≤ y
    · rw [if_pos hx]
      refine List.pairwise_cons.mpr ⟨fun z hz => ?_, h⟩
      rcases List.mem_cons.mp hz with rfl | hz
      · exact hx
      · exact Int.le_trans hx (h1 z hz)
    · rw [if_neg hx]
      refine List.pairwise_cons.mpr ⟨fun z hz => ?_, ins1_sorted x r h2⟩
      rcases List.mem_cons.mp ((ins1_perm x r).mem_iff.mp hz) with rfl | hz
      · omega
      · exact h1 z hz
theorem isort_sorted : ∀ l, (isort l).Pairwise (· ≤ ·)
  | [] => List.Pairwise.nil
  | x :: r => ins1_sorted x _ (isort_sorted r)
theorem sorted_one : ∀ {l m : List Int}, l.Pairwise (· ≤ ·) → m.Pairwise (· ≤ ·) → l.Perm m → l = m
  | [], m, _, _, p => (List.Perm.nil_eq p)
  | x :: l, [], _, _, p => absurd p.symm.nil_eq (by simp)
  | x :: l, y :: m, hl, hm, p => by
    obtain ⟨a1, a2⟩ := List.pairwise_cons.mp hl
    obtain ⟨b1, b2⟩ := List.pairwise_cons.mp hm
    have e : x = y := by
      have h1 : x ∈ y :: m := p.mem_iff.mp (by simp)
      have h2 : y ∈ x :: l := p.mem_iff.mpr (by simp)
      rcases List.mem_cons.mp h1 with rfl | h1
      · rfl
      · rcases List.mem_cons.mp h2 with rfl | h2
        · rfl
        · exact Int.le_antisymm (a1 y h2) (b1 x h1)
    subst e
    rw [sorted_one a2 b2 (List.Perm.cons_inv p)]
def fSorted : List D → Option Vc
  | [.lst ds] => (ints? ds).bind fun ns => if ns.length < 64 then some (.ow (.lst ((isort ns).map .int))) else none
  | _ => none
theorem IsL.ofInts {ns : List Int} : IsL T Hf (ns.map .int) (ns.map V.int) := by
  induction ns with
  | nil => exact rfl
  | cons n r ih => exact ⟨.int n, _, rfl, rfl, ih⟩
theorem c_sum : CaS T (rSum T.K) fSum := by
  intro H Hf xs ds c Q s il e nv
  match ds, e with
  | [.lst es], e =>
    obtain ⟨x, rfl, ix⟩ := il.one rfl
    obtain ⟨bs, h1, rfl⟩ := Option.map_eq_some_iff.mp (show (ints? es).map (fun bs => Vc.fz (.int (bs.sum))) = some c from e)
    obtain ⟨a, ys, rfl, q, iy⟩ := ix.lst s
    rw [ints_ok h1 iy] at q
    exact ⟨a, bs, rfl, q, nv.same s rfl⟩
theorem c_max : CaS T (rMax T.K) fMax := by
  intro H Hf xs ds c Q s il e nv
  match ds, e with
  | [.lst es], e =>
    obtain ⟨x, rfl, ix⟩ := il.one rfl
    obtain ⟨bs, h1, h2⟩ := Option.bind_eq_some_iff.mp (show (ints? es).bind (fun ns => ns.max?.map fun m => Vc.fz (.int m)) = some c from e)
    obtain ⟨m, h3, rfl⟩ := Option.map_eq_some_iff.mp h2
    obtain ⟨a, ys, rfl, q, iy⟩ := ix.lst s
    rw [ints_ok h1 iy] at q
    refine ⟨a, bs, rfl, q, ?_, fun m' hm hle => ?_⟩
    · cases bs with
      | nil => simp at h3
      | cons b r => simp
    · have h4 := List.max?_eq_some_iff.mp h3
      have : m' = m := Int.le_antisymm (h4.2 m' hm) (hle m h4.1)
      subst this
      exact nv.same s rfl
theorem c_min : CaS T (rMin T.K) fMin := by
  intro H Hf xs ds c Q s il e nv
  match ds, e with
  | [.lst es], e =>
    obtain ⟨x, rfl, ix⟩ := il.one rfl
    obtain ⟨bs, h1, h2⟩ := Option.bind_eq_some_iff.mp (show (ints? es).bind (fun ns => ns.min?.map fun m => Vc.fz (.int m)) = some c from e)
    obtain ⟨m, h3, rfl⟩ := Option.map_eq_some_iff.mp h2
    obtain ⟨a, ys, rfl, q, iy⟩ := ix.lst s
    rw [ints_ok h1 iy] at q
    refine ⟨a, bs, rfl, q, ?_, fun m' hm hle => ?_⟩
    · cases bs with
      | nil => simp at h3
      | cons b r => simp
    · have h4 := List.min?_eq_some_iff.mp h3
      have : m' = m := Int.le_antisymm (hle m h4.1) (h4.2 m' hm)
      subst this
      exact nv.same s rfl
theorem c_sorted : CaS T (rSorted T.K) fSorted := by
  intro H Hf xs ds c Q s il e nv
  match ds, e with
  | [.lst es], e =>
    obtain ⟨x, rfl, ix⟩ := il.one rfl
    obtain ⟨bs, h1, h2⟩ := Option.bind_eq_some_iff.mp (show (ints? es).bind (fun ns => if ns.length < 64 then some (Vc.ow (.lst ((isort ns).map .int))) else none) = some c from e)
    obtain ⟨a, ys, rfl, q, iy⟩ := ix.lst s
    rw [ints_ok h1 iy] at q
    by_cases h6 : bs.length < 64
    · rw [if_pos h6] at h2
      cases h2
      refine ⟨a, bs, rfl, q, h6, fun ns' p hp hs hn => ?_⟩
      rw [sorted_one hs (isort_sorted bs) (hp.trans (isort_perm bs).symm)]
      exact nv.lst s IsL.ofInts hn
    · rw [if_neg h6] at h2; cases h2
def fMax2 : List D → Option Vc
  | [.int i, .int j] => some (.fz (.int (if j > i then j else i)))
  | _ => none
def fMin2 : List D → Option Vc
  | [.int i, .int j] => some (.fz (.int (if j < i then j else i)))
  | _ => none
theorem c_max2 : CaS T (fun xs H Q => ∃ i j, xs = [.int i, .int j] ∧ Q (.int (if j > i then j else i)) H) fMax2 := by
  intro H Hf xs ds c Q s il e nv
  match ds, e with
  | [.int i, .int j], e =>
    obtain ⟨x, y, rfl, ix, iy⟩ := il.two rfl
    cases e
    rw [ix.int, iy.int]
    exact ⟨i, j, rfl, nv.same s rfl⟩
theorem c_min2 : CaS T (fun xs H Q => ∃ i j, xs = [.int i, .int j] ∧ Q (.int (if j < i then j else i)) H) fMin2 := by
  intro H Hf xs ds c Q s il e nv
  match ds, e with
  | [.int i, .int j], e =>
    obtain ⟨x, y, rfl, ix, iy⟩ := il.two rfl
    cases e
    rw [ix.int, iy.int]
    exact ⟨i, j, rfl, nv.same s rfl⟩
end
end DV

set_option Elab.async false
set_option linter.all false
set_option maxRecDepth 100000
set_option maxHeartbeats 2000000
namespace DV
open PySem PySem.Spec PyProof.Rows L2

def rListS : List V → Hp → VK → Prop := fun xs H Q => ∃ x : Str, xs = [.str x] ∧ x.length ≤ sizeLine ∧ ∀ l, H l = none → Q (.ref l) (upd H l (.lst (x.cps.toList.map fun c => V.str ⟨#[c]⟩)))
theorem call_list_txt {X : Cx} (hc : X.calm = true) : CallR X (.type "list") rListS := by
  intro pins s σ H xs us Q I r h
  obtain ⟨x, rfl, hz, q⟩ := h
  obtain ⟨u, rfl, t, rfl⟩ := vals1 r
  refine call_list_str (I.ok.hd hc) x t (hn := hz) fun h' tk acc' c' hk hS hacc => ?_
  have hn := I.hok.fresh (Nat.le_refl s.heap.objs.size)
  refine ⟨.ref s.heap.objs.size, _, I.laid (t' := tk) hk (Nat.le_refl _) (o := .lst (x.cps.toList.map fun c => V.str ⟨#[c]⟩)) ⟨?_, acc'.toList, c', ?_, ?_⟩, rfl, q _ hn⟩
  · rw [List.length_map, Array.length_toList]; exact hz
  · refine vals_of_at (by rw [List.length_map, Array.length_toList, Array.length_toList, hacc.1]) fun j y u h1 h2 => ?_
    rw [List.getElem?_map, Array.getElem?_toList] at h1
    rw [Array.getElem?_toList] at h2
    obtain ⟨c, u', e1, rfl⟩ := hacc.2 j u h2
    rw [e1] at h1
    cases h1
    exact ⟨u', rfl⟩
  · simpa using hS
def fListA : List D → Option Vc
  | [.str x] => if x.length ≤ sizeLine then some (.ow (.lst (sgD x))) else none
  | ds => fList ds
section
variable {T : Tb} {Hf H : Hp}
theorem isL_sg {x : Str} : IsL T Hf (sgD x) (x.cps.toList.map fun c => V.str ⟨#[c]⟩) := by
  unfold sgD
  induction x.cps.toList with
  | nil => exact rfl
  | cons c r ih => exact ⟨_, _, rfl, rfl, ih⟩
theorem c_listA : CaS T (fun xs H Q => rListS xs H Q ∨ ∃ p ys, xs = [.ref p] ∧ (SqL T.K H p ys ∨ SqT T.K H p ys) ∧ ∀ l, H l = none → Q (.ref l) (upd H l (.lst ys))) fListA := by
  intro H Hf xs ds c Q s il e nv
  unfold fListA at e
  split at e
  · rename_i x
    obtain ⟨v, rfl, iv⟩ := il.one rfl
    rw [iv.str]
    split at e
    · rename_i hz
      cases e
      exact .inl ⟨x, rfl, hz, fun l hl => nv.lst s isL_sg hl⟩
    · cases e
  · exact .inr (c_list H Hf xs ds c Q s il e nv)
@[simp] def tyD : D → Option String
  | .non => some "NoneType"
  | .bl _ => some "bool"
  | .int _ => some "int"
  | .str _ => some "str"
  | .tup _ => some "tuple"
  | .lst _ => some "list"
  | _ => none
@[simp] def isTab : String → String → Bool
  | "bool", "bool" => true
  | "int", "int" => true
  | "str", "str" => true
  | "tuple", "tuple" => true
  | "list", "list" => true
  | "bool", "int" => true
  | _, _ => false
def isKn (n : String) : Bool := n == "bool" || n == "int" || n == "str" || n == "tuple" || n == "list"
theorem kitB_tab : ∀ t ∈ ["NoneType", "bool", "int", "str", "tuple", "list"], ∀ n ∈ ["bool", "int", "str", "tuple", "list"], kitB t n = some (isTab t n) := by decide +kernel
def isD (d : D) (n : String) : Option Bool := if isKn n = true then (tyD d).map fun t => isTab t n else none
theorem isD_ok {d : D} {n : String} {b : Bool} (h : isD d n = some b) : ∃ t, tyD d = some t ∧ kitB t n = some b := by
  unfold isD at h
  split at h
  · rename_i hk
    obtain ⟨t, h1, rfl⟩ := Option.map_eq_some_iff.mp h
    refine ⟨t, h1, kitB_tab t ?_ n ?_⟩
    · cases d <;> cases h1 <;> simp
    · simp only [isKn, Bool.or_eq_true, beq_iff_eq] at hk
      rcases hk with (((h | h) | h) | h) | h <;> subst h <;> simp
  · cases h
theorem tyD_ok {d : D} {v : V} {t : String} (s : Sub Hf H) (i : IsN T Hf H d v) (h : tyD d = some t) : TyX T.K H v (.type t) := by
  cases d with
  | non => cases h; rw [i.non]; exact .base .non
  | bl b => cases h; rw [i.bl]; exact .base (.bl b)
  | int n => cases h; rw [i.int]; exact .base (.int n)
  | str x => cases h; rw [i.str]; exact .base (.str x)
  | tup ds =>
    cases h
    obtain ⟨a, xs, rfl, q, _⟩ := i.tup s
    rcases q with (q | ⟨o, q⟩) | ⟨o, its, n, q1, q2, _⟩
    · exact .base (.tup q)
    · exact .fTuple q
    · exact .kTuple q1 q2
  | lst ds =>
    cases h
    obtain ⟨a, xs, rfl, q, _⟩ := i.lst s
    rcases q with (q | ⟨o, q⟩) | ⟨o, its, n, q1, q2, _⟩
    · exact .base (.lst q)
    · exact .base (.frz q)
    · exact .kList q1 q2
  | _ => cases h
@[simp] def fIsi : List D → Option Vc
  | [d, .ty n] => (isD d n).map fun b => .fz (.bl b)
  | _ => none
theorem c_isi : CaS T (rIsi T.K) fIsi := by
  intro H Hf xs ds c Q s il e nv
  match ds, e with
  | [d, .ty n], e =>
    obtain ⟨x, y, rfl, ix, iy⟩ := il.two rfl
    obtain ⟨b, h1, rfl⟩ := Option.map_eq_some_iff.mp (show (isD d n).map (fun b => Vc.fz (.bl b)) = some c from e)
    obtain ⟨t, h2, h3⟩ := isD_ok h1
    have ey : y = .ty n := by
      rcases iy with h | ⟨a, _, z⟩
      · exact h
      · exact z.elim
    subst ey
    exact ⟨x, .ty n, .type t, .type n, b, rfl, .ty n, tyD_ok s ix h2, kit_ty h3, nv.same s rfl⟩
end

section
variable {T : Tb} {hx : HX} {X : Cx} {x : Str} {e : Expr} {es : List Expr} {m : M (List AV)} {p pos : Pos} {id : String} {f : List D → Option Vc} {r : List V → Hp → VK → Prop} {j : Nat}
theorem de_cb (hs : CaS T r f) (hc : CallR X (.builtin id) r) (hg : Gl X x) (hm : X.mg x = none) (hv : bootBuiltins x = some (.builtin id)) (ha : DA T hx X (e :: es) m) (hn : x ≠ "__name__" := by decide) (hdb : (x == ("__debug__" : Str)) = false := by decide)
    (he : starEach (e :: es) X.env = (false, eval e X.env) :: starEach es X.env := by rfl) (hpl : (backTo pos (starEach es X.env)).any (·.1) = false := by rfl) : DE T hx X (.Call (.Name x p) (e :: es) [] pos) (mCB f m) :=
  ⟨fun W tk => PE.imp (pe_callB hc hg hm hv (ha.run W tk) hn hdb he hpl) (in_cb hs)⟩
theorem de_ct (hs : CaS T r f) (hc : CallR X (.type id) r) (hg : Gl X x) (hm : X.mg x = none) (hv : bootBuiltins x = some (.type id)) (ha : DA T hx X (e :: es) m) (hn : x ≠ "__name__" := by decide) (hdb : (x == ("__debug__" : Str)) = false := by decide)
    (he : starEach (e :: es) X.env = (false, eval e X.env) :: starEach es X.env := by rfl) (hpl : (backTo pos (starEach es X.env)).any (·.1) = false := by rfl) : DE T hx X (.Call (.Name x p) (e :: es) [] pos) (mCB f m) :=
  ⟨fun W tk => PE.imp (pe_callTy hc hg hm hv (ha.run W tk) hn hdb he hpl) (in_cb hs)⟩
theorem de_cbV (hs : CaS T r f) (hc : CallR X (.builtin id) r) (hg : Gl X x) (hm : X.mg x = none) (hv : bootBuiltins x = some (.builtin id)) (ha : PE X e (tVar j)) (hn : x ≠ "__name__" := by decide) (hdb : (x == ("__debug__" : Str)) = false := by decide)
    (he : starEach [e] X.env = (false, eval e X.env) :: starEach [] X.env := by rfl) (hpl : (backTo pos (starEach [] X.env)).any (·.1) = false := by rfl) : DE T hx X (.Call (.Name x p) [e] [] pos) (mCBV f j) :=
  ⟨fun W tk => PE.imp (pe_callB hc hg hm hv (pa_cons ha pa_nil he) hn hdb he hpl) (in_cbV hs)⟩
theorem de_ctV (hs : CaS T r f) (hc : CallR X (.type id) r) (hg : Gl X x) (hm : X.mg x = none) (hv : bootBuiltins x = some (.type id)) (ha : PE X e (tVar j)) (hn : x ≠ "__name__" := by decide) (hdb : (x == ("__debug__" : Str)) = false := by decide)
    (he : starEach [e] X.env = (false, eval e X.env) :: starEach [] X.env := by rfl) (hpl : (backTo pos (starEach [] X.env)).any (·.1) = false := by rfl) : DE T hx X (.Call (.Name x p) [e] [] pos) (mCBV f j) :=
  ⟨fun W tk => PE.imp (pe_callTy hc hg hm hv (pa_cons ha pa_nil he) hn hdb he hpl) (in_cbV hs)⟩
end
section
variable {X : Cx} {f : Value} {r r' : List V → Hp → VK → Prop}
theorem CallR.or (h : CallR X f r) (h' : CallR X f r') : CallR X f (fun xs H Q => r xs H Q ∨ r' xs H Q) := fun pins s σ H xs us Q I q z => z.elim (h pins s σ H xs us Q I q) (h' pins s σ H xs us Q I q)
theorem cr_int : CallR X (.type "int") (fun xs H Q => ((∃ i, xs = [.int i] ∧ Q (.int i) H) ∨ ∃ k, xs = [.bl k] ∧ Q (.int (if k then 1 else 0)) H) ∨ ∃ a n, xs = [.str a] ∧ PySem.intText? a = some n ∧ a.length ≤ 640 ∧ Q (.int n) H) := call_int1.or call_int_str
theorem cr_str : CallR X (.type "str") (fun xs H Q => (∃ i, xs = [.int i] ∧ i.natAbs.log2 < 1920 ∧ Q (.str (toString i)) H) ∨ ∃ a, xs = [.str a] ∧ Q (.str a) H) := call_str_int.or SkE.call_str_str
theorem cr_listA (hc : X.calm = true) : CallR X (.type "list") (fun xs H Q => rListS xs H Q ∨ ∃ p ys, xs = [.ref p] ∧ (SqL X.K H p ys ∨ SqT X.K H p ys) ∧ ∀ l, H l = none → Q (.ref l) (upd H l (.lst ys))) := (call_list_txt hc).or call_list_of
end
end DV

set_option Elab.async false
set_option linter.all false
set_option maxRecDepth 100000
set_option maxHeartbeats 2000000
namespace DV
open PySem PySem.Spec PyProof.Rows L2

section
variable {T : Tb} {hx : HX} {X : Cx} {a b c e : Expr} {ma mb mc : M Vc} {mt nt : M Bool} {pos p : Pos} {j k : Nat}
theorem de_int {i : Int} {n : Nat} : DE T hx X (.Constant (.int i) n pos) (mPure (.int i)) := de_of (fun _ _ => pe_int) fun _ => in_pure fun _ => rfl
theorem de_str {x : Str} {n : Nat} : DE T hx X (.Constant (.str x) n pos) (mPure (.str x)) := de_of (fun _ _ => pe_str) fun _ => in_pure fun _ => rfl
theorem de_bl {b : Bool} {n : Nat} : DE T hx X (.Constant (.bool b) n pos) (mPure (.bl b)) := de_of (fun _ _ => pe_bl) fun _ => in_pure fun _ => rfl
theorem de_non {n : Nat} : DE T hx X (.Constant .none n pos) (mPure .non) := de_of (fun _ _ => pe_non) fun _ => in_pure fun _ => rfl
theorem de_var (h : PE X e (tVar j)) : DE T hx X e (mVar j) := de_of (fun _ _ => h) fun _ => in_var
theorem de_ty {x : Str} {n : String} (hg : Gl X x) (hm : X.mg x = none) (hv : bootBuiltins x = some (.type n)) (hn : x ≠ "__name__" := by decide) (hd : (x == ("__debug__" : Str)) = false := by decide) : DE T hx X (.Name x pos) (mPure (.ty n)) :=
  de_of (fun _ _ => pe_bltn (v := .ty n) hg hm hv rfl hn hd) fun _ => in_pure fun _ => rfl
theorem de_glo {x : Str} {v : V} {u : Value} {d : D} (hg : Gl X x) (hm : X.mg x = some u) (r : RelV v u) (i : ∀ Hf, Is T Hf d v) (hd : (x == ("__debug__" : Str)) = false := by decide) : DE T hx X (.Name x pos) (mPure d) := de_of (fun _ _ => pe_glob hg hm r hd) fun _ => in_pure i
theorem de_op {op : Operator} {r : R2} {f : D → D → Option Vc} (ho : OpR X (binaryOp op) r) (hs : OpS T r f) (ha : DE T hx X a ma) (hb : DE T hx X b mb) : DE T hx X (.BinOp a op b pos) (mOp2 f ma mb) := de_of (fun W tk => pe_op ho (ha.run W tk) (hb.run W tk)) fun _ => in_op2 hs
theorem de_un {op : UnaryOp} {r : V → Hp → VK → Prop} {f : D → Option Vc} (ho : UnR X (unaryOp op) r) (hs : UnS T r f) (ha : DE T hx X a ma) : DE T hx X (.UnaryOp op a pos) (mUn f ma) := de_of (fun W tk => pe_un ho (ha.run W tk)) fun _ => in_un hs
theorem de_cmp {op : CmpOp} {r : R2} {f : D → D → Option Vc} (ho : OpR X (compareOp op) r) (hs : OpS T r f) (ha : DE T hx X a ma) (hb : DE T hx X b mb) (hm : behindInMarks op b = false) : DE T hx X (.Compare a [op] [b] pos) (mOp2 f ma mb) :=
  de_of (fun W tk => pe_cmpR ho (ha.run W tk) (hb.run W tk) hm) fun _ => in_op2 hs
theorem dt_cmp {op : CmpOp} {r : R2} {f : D → D → Option Vc} (ho : OpR X (compareOp op) r) (hs : OpS T r f) (ha : DE T hx X a ma) (hb : DE T hx X b mb) (hm : behindInMarks op b = false) : DT T hx X (.Compare a [op] [b] pos) (mTest (mOp2 f ma mb)) :=
  dt_of (fun W tk => pt_cmpR ho (ha.run W tk) (hb.run W tk) hm) fun _ => in_test (in_op2 hs)
theorem de_cmpW {op : CmpOp} {r : R2} {f : D → D → Option Vc} (ho : OpR X (compareOp op) r) (hs : OpS T r f) (ha : DE T hx X a ma) (hb : PE X b (tVar j)) (hm : behindInMarks op b = false) : DE T hx X (.Compare a [op] [b] pos) (mOp2W f ma j) :=
  de_of (fun W tk => pe_cmpR ho (ha.run W tk) hb hm) fun _ => in_op2W hs
theorem dt_cmpW {op : CmpOp} {r : R2} {f : D → D → Option Vc} (ho : OpR X (compareOp op) r) (hs : OpS T r f) (ha : DE T hx X a ma) (hb : PE X b (tVar j)) (hm : behindInMarks op b = false) : DT T hx X (.Compare a [op] [b] pos) (mTest (mOp2W f ma j)) :=
  dt_of (fun W tk => pt_cmpR ho (ha.run W tk) hb hm) fun _ => in_test (in_op2W hs)
theorem de_chain {op op' : CmpOp} {r r' : R2} {f g : D → D → Option Vc} (ho : OpR X (compareOp op) r) (hs : OpS T r f) (ho' : OpR X (compareOp op') r') (hs' : OpS T r' g) (ha : DE T hx X a ma) (hb : DE T hx X b mb) (hc : DE T hx X c mc)
    (h : ∀ W, Takes X W → PE X a (tE T hx W ma) → PE X b (tE T hx W mb) → PE X c (tE T hx W mc) → PE X e (tChain r r' (tE T hx W ma) (tE T hx W mb) (tE T hx W mc))) : DE T hx X e (mChain f g ma mb mc) :=
  de_of (fun W tk => h W tk (ha.run W tk) (hb.run W tk) (hc.run W tk)) fun _ => in_chain hs hs'
theorem dt_chain {op op' : CmpOp} {r r' : R2} {f g : D → D → Option Vc} (ho : OpR X (compareOp op) r) (hs : OpS T r f) (ho' : OpR X (compareOp op') r') (hs' : OpS T r' g) (ha : DE T hx X a ma) (hb : DE T hx X b mb) (hc : DE T hx X c mc)
    (h : ∀ W, Takes X W → PE X a (tE T hx W ma) → PE X b (tE T hx W mb) → PE X c (tE T hx W mc) → PT X e (tTest (tChain r r' (tE T hx W ma) (tE T hx W mb) (tE T hx W mc)))) : DT T hx X e (mTest (mChain f g ma mb mc)) :=
  dt_of (fun W tk => h W tk (ha.run W tk) (hb.run W tk) (hc.run W tk)) fun _ => in_test (in_chain hs hs')
theorem de_ix {r : R2} {f : D → D → Option Vc} (hr : IxR X r) (hs : OpS T r f) (ha : DE T hx X a ma) (hb : DE T hx X b mb) (hp : PlainIx b) : DE T hx X (.Subscript a b pos) (mOp2 f ma mb) := de_of (fun W tk => pe_ix hr (ha.run W tk) (hb.run W tk) hp) fun _ => in_op2 hs
theorem de_ixV {r : R2} {f : D → D → Option Vc} (hr : IxR X r) (hs : OpS T r f) (ha : PE X a (tVar j)) (hb : DE T hx X b mb) (hp : PlainIx b) : DE T hx X (.Subscript a b pos) (mOp2V f j mb) := de_of (fun W tk => pe_ix hr ha (hb.run W tk) hp) fun _ => in_op2V hs
structure DP (T : Tb) (hx : HX) (X : Cx) (e : Option Expr) (m : Option (M Vc)) : Prop where
  run : ∀ W, Takes X W → PO X e (tPt T hx W m)
theorem dp_none : DP T hx X none none := ⟨fun _ _ => po_none⟩
theorem dp_some (h : DE T hx X e ma) : DP T hx X (some e) (some ma) := ⟨fun W tk => po_some (h.run W tk)⟩
theorem de_sl {lo hi : Option Expr} {ml mh : Option (M Vc)} {p2 : Pos} (hK : T.K = X.K) (ha : DE T hx X a ma) (hl : DP T hx X lo ml) (hh : DP T hx X hi mh) : DE T hx X (.Subscript a (.Slice lo hi none p2) pos) (mSl ma ml mh) :=
  de_of (fun W tk => pe_slice sl_all (ha.run W tk) (hl.run W tk) (hh.run W tk)) fun _ => by rw [← hK]; exact in_sl
theorem de_tup {es : List Expr} {n : Nat} {m : M (List AV)} (h : DA T hx X es m) : DE T hx X (.Tuple es n pos) (mTup m) := de_of (fun W tk => pe_tup (h.run W tk)) fun _ => in_tup
theorem de_lst {es : List Expr} {m : M (List AV)} (h : DA T hx X es m) : DE T hx X (.List es pos) (mLst m) := de_of (fun W tk => pe_lst (h.run W tk)) fun _ => in_lst
theorem de_ife (hc : DT T hx X c mt) (ha : DE T hx X a ma) (hb : DE T hx X b mb) : DE T hx X (.IfExp c a b pos) (mIf mt ma mb) := de_of (fun W tk => pe_ifExp (hc.run W tk) (ha.run W tk) (hb.run W tk)) fun _ => in_ifExp
theorem de_and {rest : List Expr} (hK : T.K = X.K) (ha : DE T hx X a ma) (hb : DE T hx X (.BoolOp .And (b :: rest) pos) mb) : DE T hx X (.BoolOp .And (a :: b :: rest) pos) (mAndV ma mb) := de_of (fun W tk => pe_andT (ha.run W tk) (hb.run W tk)) fun _ => by rw [← hK]; exact in_andV
theorem de_or {rest : List Expr} (hK : T.K = X.K) (ha : DE T hx X a ma) (hb : DE T hx X (.BoolOp .Or (b :: rest) pos) mb) : DE T hx X (.BoolOp .Or (a :: b :: rest) pos) (mOrV ma mb) := de_of (fun W tk => pe_orT (ha.run W tk) (hb.run W tk)) fun _ => by rw [← hK]; exact in_orV
theorem de_notV (hK : T.K = X.K) (ha : DE T hx X a ma) : DE T hx X (.UnaryOp .Not a pos) (mUn opNotV ma) := de_of (fun W tk => pe_notT (ha.run W tk)) fun _ => by rw [← hK]; exact in_un (r := rNotT T.K) s_not
theorem dt_tru (hK : T.K = X.K) (ha : DE T hx X a ma) (he : ∀ whole, isTrue a X.env whole = (do let v ← whole; standAt a.pos; holding [v] (truthy v))) : DT T hx X a (mTru ma) := dt_of (fun W tk => pt_truth (ha.run W tk) he) fun _ => by rw [← hK]; exact in_tru
theorem dt_truV (hK : T.K = X.K) (ha : PE X a (tVar j)) (he : ∀ whole, isTrue a X.env whole = (do let v ← whole; standAt a.pos; holding [v] (truthy v))) : DT T hx X a (mTruV j) := dt_of (fun W tk => pt_truth ha he) fun _ => by rw [← hK]; exact in_truV
end

def mMeth (ty : D → Bool) (f : D → List D → Option Vc) (ma : M Vc) (m : M (List AV)) : M Vc := fun ρ => (ma ρ).bind fun a ρ1 => if ty a.d = true then (m ρ1).bind fun as ρ2 => liftO ((avs as).bind fun ds => f a.d ds) ρ2 else .bad
def MtS (T : Tb) (r : V → List V → Hp → VK → Prop) (f : D → List D → Option Vc) : Prop := ∀ (H Hf : Hp) (x : V) (xs : List V) (d : D) (ds : List D) (c : Vc) (Q : VK), Sub Hf H → Is T Hf d x → IsL T Hf ds xs → f d ds = some c → NewV T H Hf c Q → r x xs H Q
section
variable {T : Tb} {hx : HX} {X : Cx} {W : WX} {o e : Expr} {es : List Expr} {ma : M Vc} {m : M (List AV)} {cpos apos : Pos}
theorem in_meth {ty : D → Bool} {f : D → List D → Option Vc} {r : V → List V → Hp → VK → Prop} {n : String} (hty : ∀ d H Hf x, ty d = true → Sub Hf H → Is T Hf d x → tyV T.K n x H) (hs : MtS T r f) : Le (tE T hx W (mMeth ty f ma m)) (tBM T.K n r (tE T hx W ma) (tA T hx W m)) := by
  intro σ H Q hh
  obtain ⟨F, Hf, ρ, rl, o⟩ := hh
  refine tE_bind (P := oE T hx W F σ Hf Q) rl (Sub.refl _) (fun z => z) (fun _ _ z => z) o fun v H1 Hf1 c ρ1 r1 s0 s1 i o => ?_
  by_cases ht : ty c.d = true
  · rw [if_pos ht] at o
    refine ⟨hty _ _ _ _ ht r1.sub i, ?_⟩
    refine tA_bind (P := oE T hx W F σ Hf Q) r1 s0 (fun z => z) (fun _ _ z => z) o fun vs H2 Hf2 as ρ2 r2 s3 s4 ar o => ?_
    obtain ⟨c', e1, nv⟩ := oE_new r2 s3 o
    obtain ⟨ds, h1, h2⟩ := Option.bind_eq_some_iff.mp e1
    exact hs H2 Hf2 v vs _ ds c' Q r2.sub (i.mono s4) (ArgsR.vals (H := H) ar h1) h2 nv
  · rw [if_neg ht] at o; exact o.elim
@[simp] def D.isStr : D → Bool
  | .str _ => true
  | _ => false
theorem ty_str (d : D) (H Hf : Hp) (x : V) (h : d.isStr = true) (s : Sub Hf H) (i : Is T Hf d x) : tyV T.K "str" x H := by
  cases d with
  | str y => rw [show x = .str y from i]; exact rfl
  | _ => cases h
def fJoin : D → List D → Option Vc
  | .str a, [d] => d.seq?.bind fun ds => (strs? ds).bind fun ys => if (ys.map (·.length)).sum + ys.length * a.length ≤ 16777216 then some (.fz (.str (Txt.join a ys))) else none
  | _, _ => none
theorem s_join : MtS T (fun x xs H Q => ∃ a p, ∃ ys : List Str, x = .str a ∧ xs = [.ref p] ∧ (SqL T.K H p (ys.map V.str) ∨ SqT T.K H p (ys.map V.str)) ∧ (ys.map (·.length)).sum + ys.length * a.length ≤ 16777216 ∧ Q (.str (Txt.join a ys)) H) fJoin := by
  intro H Hf x xs d ds c Q s i il e nv
  match d, ds, e with
  | .str a, [d], e =>
    obtain ⟨z, r, rfl, i1, i2⟩ := il
    rw [show r = [] from i2, show x = .str a from i]
    obtain ⟨es, h1, h2⟩ := Option.bind_eq_some_iff.mp (show (d.seq?.bind fun ds => (strs? ds).bind fun ys => if (ys.map (·.length)).sum + ys.length * a.length ≤ 16777216 then some (Vc.fz (.str (Txt.join a ys))) else none) = some c from e)
    obtain ⟨ys, h3, h4⟩ := Option.bind_eq_some_iff.mp h2
    obtain ⟨p, vs, rfl, q, iv⟩ := seq_ok s (.inl i1) h1
    rw [strs_ok h3] at iv
    rw [iv.strs] at q
    by_cases hz : (ys.map (·.length)).sum + ys.length * a.length ≤ 16777216
    · rw [if_pos hz] at h4
      cases h4
      exact ⟨a, p, ys, rfl, rfl, q, hz, nv.same s rfl⟩
    · rw [if_neg hz] at h4; cases h4
theorem de_join (hK : T.K = X.K) (ho : DE T hx X o ma) (ha : DA T hx X (e :: es) m) (hbase : attributeBase o "join" X.env (eval o X.env) = eval o X.env := by rfl)
    (hfew : ((backTo cpos (starEach (e :: es) X.env)).all (fun x => !x.1) && (backToKw cpos (keywordEach [] X.env)).all (fun x => x.1.isSome)
      && decide ((e :: es).length + ([] : List Keyword).length + (if ([] : List Keyword).isEmpty then 0 else 1) < 30)) = true := by rfl)
    (hline : (apos.endLine == cpos.line) = true := by rfl) (hs : starEach (e :: es) X.env = (false, eval e X.env) :: starEach es X.env := by rfl) (hplain : (backTo cpos (starEach es X.env)).any (·.1) = false := by rfl) :
    DE T hx X (.Call (.Attribute o "join" apos) (e :: es) [] cpos) (mMeth D.isStr fJoin ma m) :=
  de_of (fun W tk => pe_bm F.plainAttrs_str F.slot_str_join F.type_str_join mt_join (ho.run W tk) (ha.run W tk) hbase hfew hline hs hplain) fun _ => by rw [← hK]; exact in_meth ty_str s_join
theorem ds_append {j : Nat} {pos : Pos} (hK : T.K = X.K) (ho : PE X o (tVar j)) (ha : DE T hx X e ma) (hsw : swapsWith (.Call (.Attribute o "append" apos) [e] [] cpos) none pos.line X.env = pure false := by rfl) (hbase : attributeBase o "append" X.env (eval o X.env) = eval o X.env := by rfl)
    (hfew : ((backTo cpos (starEach [e] X.env)).all (fun x => !x.1) && (backToKw cpos (keywordEach [] X.env)).all (fun x => x.1.isSome)
      && decide ([e].length + ([] : List Keyword).length + (if ([] : List Keyword).isEmpty then 0 else 1) < 30)) = true := by rfl)
    (hline : (apos.endLine == cpos.line) = true := by rfl) (hs : starEach [e] X.env = (false, eval e X.env) :: starEach [] X.env := by rfl) (hplain : (backTo cpos (starEach [] X.env)).any (·.1) = false := by rfl) :
    DS T hx X (.Expr (.Call (.Attribute o "append" apos) [e] [] cpos) pos) (sAppend j ma) :=
  ds_of (fun W tk => ps_expr (pe_bm F.plainAttrs_list F.slot_list_append F.type_list_append mt_append ho (pa_cons (ha.run W tk) pa_nil hs) hbase hfew hline hs hplain) hsw) fun _ => by rw [← hK]; exact in_append
end
end DV

set_option Elab.async false
set_option linter.all false
set_option maxRecDepth 100000
set_option maxHeartbeats 2000000
namespace DV
open PySem PySem.Spec PyProof.Rows L2

section
variable {T : Tb} {hx : HX} {X : Cx} {a b c e : Expr} {ma mb mc : M Vc} {mt nt : M Bool} {pos p : Pos} {j k : Nat}
theorem de_ch {op op' : CmpOp} {r r' : R2} {f g : D → D → Option Vc} (ho : OpR X (compareOp op) r) (hs : OpS T r f) (ho' : OpR X (compareOp op') r') (hs' : OpS T r' g) (ha : DE T hx X a ma) (hb : DE T hx X b mb) (hc : DE T hx X c mc) (hm : lastMarks [op, op'] [b, c] = false) :
    DE T hx X (.Compare a [op, op'] [b, c] pos) (mChain f g ma mb mc) := de_of (fun W tk => pe_chain ho ho' (ha.run W tk) (hb.run W tk) (hc.run W tk) hm) fun _ => in_chain hs hs'
theorem dt_ch {op op' : CmpOp} {r r' : R2} {f g : D → D → Option Vc} (ho : OpR X (compareOp op) r) (hs : OpS T r f) (ho' : OpR X (compareOp op') r') (hs' : OpS T r' g) (ha : DE T hx X a ma) (hb : DE T hx X b mb) (hc : DE T hx X c mc) (hm : lastMarks [op, op'] [b, c] = false) :
    DT T hx X (.Compare a [op, op'] [b, c] pos) (mTest (mChain f g ma mb mc)) := dt_of (fun W tk => pt_chain ho ho' (ha.run W tk) (hb.run W tk) (hc.run W tk) hm) fun _ => in_test (in_chain hs hs')
theorem ds_set {x : Str} {i : Nat} {pos' : Pos} (hN : X.N.Nodup) (hi : X.N[i]? = some x) (hx' : Loc X.env.scope x) (he : DE T hx X e ma) (hs : swapsWith e (some (.Name x pos')) pos.line X.env = pure false) (hf : X.fn x = true ∨ X.env.scope.names.lookup x = some .local) :
    DS T hx X (.Assign [.Name x pos'] e pos) (sSet i ma) := ds_of (fun W tk => ps_set hN hi hx' (he.run W tk) hs hf) fun _ => in_set
theorem ds_aug {x : Str} {i : Nat} {pos' : Pos} {op : Operator} {ti : TIp} {f : D → D → Option Vc} (hN : X.N.Nodup) (hi : X.N[i]? = some x) (hx' : Loc X.env.scope x) (he : DE T hx X e ma) (ho : PIp X op ti) (hs : OpS T ti f) (hf : X.fn x = true ∨ X.env.scope.names.lookup x = some .local) :
    DS T hx X (.AugAssign (.Name x pos') op e pos) (sAug f i ma) := ds_of (fun W tk => ps_aug hN hi hx' (he.run W tk) ho hf) fun _ => in_aug hs
theorem ds_setIx {o i : Expr} {mi : M Vc} {pos' : Pos} (hK : T.K = X.K) (ho : PE X o (tVar j)) (hi : DE T hx X i mi) (he : DE T hx X e ma) (hp : PSet X rSetL)
    (h0 : ∀ v, assign (.Subscript o i pos') X.env v = (do
      let ov ← holding [v] (eval o X.env)
      let iv ← holding [v, ov] (eval i X.env)
      standAt pos'
      holding [v, ov, iv] (setItem ov iv v)
      release [v, ov, iv] [])) (hs : swapsWithSole [.Subscript o i pos'] e pos.line X.env = pure false) (hw : swappedStores [.Subscript o i pos'] e X.env = pure none)
    (h1 : (assignEach [.Subscript o i pos'] X.env).map (·.2) = [assign (.Subscript o i pos') X.env]) : DS T hx X (.Assign [.Subscript o i pos'] e pos) (sSetIx j mi ma) :=
  ds_of (fun W tk => ps_asg (he.run W tk) (pg_sub ho (hi.run W tk) hp h0) hs hw h1) fun _ => in_setIx
end
def mYes : M Bool := fun ρ => .ok true ρ
structure DTs (T : Tb) (hx : HX) (X : Cx) (es : List Expr) (m : M Bool) : Prop where
  run : ∀ W, Takes X W → PTs X es (tT T hx W m)
theorem PTs.imp {X : Cx} {e : List Expr} {t t' : TT} (h : PTs X e t) (i : ∀ σ H Q, t' σ H Q → t σ H Q) : PTs X e t' := ⟨fun pins s σ H Q I q => h.run pins s σ H Q I (i _ _ _ q)⟩
def GS (T : Tb) (hx : HX) (g : TG) (f : Tgt) (js : List Nat) : Prop := ∀ (F : Fm) (σ : L2.St) (H Hf : Hp) (ρ ρ' : Rho) (x : V) (d : D) (Q : L2.St → Hp → Prop), Rl T hx F σ H Hf ρ → Is T Hf d x → f d ρ = some ρ' →
      (∀ σ', Rl T hx F σ' H Hf ρ' → σ'.length = σ.length → (∀ i, i ∉ js → σ'[i]? = σ[i]?) → Q σ' H) → g x σ H Q
section
variable {T : Tb} {hx : HX} {X : Cx} {W : WX} {a b c e : Expr} {ma mb mc : M Vc} {mt nt : M Bool} {pos p : Pos} {j k : Nat}
theorem dts_nil : DTs T hx X [] mYes := ⟨fun W tk => PTs.imp pts_nil fun σ H Q ⟨F, Hf, ρ, rl, o⟩ => o H Hf rl (Sub.refl _)⟩
theorem dts_one (h : DT T hx X c mt) : DTs T hx X [c] mt := ⟨fun W tk => pts_one (h.run W tk)⟩
theorem gs_name {j : Nat} : GS T hx (gName j) (gSet j) [j] := fun F σ H Hf ρ ρ' x d Q rl i e q => q _ ((rl.val i).setR (c := .fz d) e) (by rw [List.length_set]) fun k hk => by
    rw [List.getElem?_set_ne]
    intro z
    subst z
    exact hk (by simp)
theorem takes_noX (hxe : ∀ u s, X.xe u s → True) : Takes X noX := fun u s' ⟨_, _, _, _, _, _, _, _, _, _, _, _, _, _, _, _, z⟩ => z.elim
theorem de_lc {elt tg iter : Expr} {ifs : List Expr} {scope : Scope} {own : List (Str × Nat)} {mi : M (List D)} {f : Tgt} {js : List Nat} {g : TG} {me : M Vc} (hc : X.calm = true) (hN : X.N.Nodup) (hi : DI T hx X tg iter mi) (ok : BlkOk X.N X.env.scope scope own)
    (hgs : GS T hx g f js) (hjs : ∀ j ∈ js, j ∈ own.map (·.2)) (hg : ∀ (s : Shared) (H : Hp) (C : Addr) (cl : List (Str × Addr)) (fp : List Addr), PG (X.blk s H scope (compEnvC scope cl C X.env) fp) tg g)
    (ht : ∀ (s : Shared) (H : Hp) (C : Addr) (cl : List (Str × Addr)) (fp : List Addr), DTs T hx (X.blk s H scope (compEnvC scope cl C X.env) fp) ifs mt)
    (he : ∀ (s : Shared) (H : Hp) (C : Addr) (cl : List (Str × Addr)) (fp : List Addr), DE T hx (X.blk s H scope (compEnvC scope cl C X.env) fp) elt me) (hs : ∀ x, foldedSetIterable iter X.env x = pure x) :
    DE T hx X (.ListComp elt [⟨tg, iter, ifs, 0⟩] scope pos) (mLc (own.map (·.2)) mi f mt me) :=
  de_of (fun W tk => pe_lc hc hN (hi.run W tk) ok hg (fun s H C cl fp => (ht s H C cl fp).run noX (takes_noX fun _ _ _ => trivial)) (fun s H C cl fp => (he s H C cl fp).run noX (takes_noX fun _ _ _ => trivial)) hs) fun _ => in_lc hjs hgs
theorem ds_setLc {i : Nat} {y : Str} {py spos : Pos} {elt tg iter : Expr} {ifs : List Expr} {scope : Scope} {own : List (Str × Nat)} {mi : M (List D)} {f : Tgt} {js : List Nat} {g : TG} {me : M Vc} (hc : X.calm = true) (hN : X.N.Nodup) (hy : X.N[i]? = some y) (hyl : X.env.scope.names.lookup y = some .local)
    (hsw : swapsWith (.ListComp elt [⟨tg, iter, ifs, 0⟩] scope pos) (some (.Name y py)) spos.line X.env = pure true) (hi : DI T hx X tg iter mi) (ok : BlkOk X.N X.env.scope scope own)
    (hgs : GS T hx g f js) (hjs : ∀ j ∈ js, j ∈ own.map (·.2)) (hg : ∀ (s : Shared) (H : Hp) (C : Addr) (cl : List (Str × Addr)) (fp : List Addr), PG (X.blk s H scope (compEnvC scope cl C X.env) fp) tg g)
    (ht : ∀ (s : Shared) (H : Hp) (C : Addr) (cl : List (Str × Addr)) (fp : List Addr), DTs T hx (X.blk s H scope (compEnvC scope cl C X.env) fp) ifs mt)
    (he : ∀ (s : Shared) (H : Hp) (C : Addr) (cl : List (Str × Addr)) (fp : List Addr), DE T hx (X.blk s H scope (compEnvC scope cl C X.env) fp) elt me) (hs : ∀ x, foldedSetIterable iter X.env x = pure x) :
    DS T hx X (.Assign [.Name y py] (.ListComp elt [⟨tg, iter, ifs, 0⟩] scope pos) spos) (sSet i (mLc (own.map (·.2)) mi f mt me)) :=
  ds_of (fun W tk => ps_setLc hc hN hy hyl hsw (hi.run W tk) ok hg (fun s H C cl fp => (ht s H C cl fp).run noX (takes_noX fun _ _ _ => trivial)) (fun s H C cl fp => (he s H C cl fp).run noX (takes_noX fun _ _ _ => trivial)) hs) fun W => by
    intro D σ H hh
    obtain ⟨F, Hf, ρ, rl, o⟩ := hh
    have : tE T hx W (mLc (own.map (·.2)) mi f mt me) σ H fun x H' => gName i x σ H' D.nx := by
      refine tE_S (k := fun c ρ1 => match setR i c.cell ρ1 with | some ρ2 => .next ρ2 | none => .bad) rl o fun v H1 Hf1 c ρ1 rv s o => ?_
      cases e : setR i c.cell ρ1 with
      | none => rw [e] at o; exact o.elim
      | some ρ2 =>
        rw [e] at o
        exact o _ H1 Hf1 (rv.setR e)
    exact in_lc hjs hgs _ _ _ this
end
end DV

set_option Elab.async false
set_option linter.all false
set_option maxRecDepth 100000
set_option maxHeartbeats 2000000
namespace DV
open PySem PySem.Spec PyProof.Rows L2

structure FF (K : PySem.W.Frag) (mg : Str → Option Value) (x : Str) (st : Stmt) (ps : List Str) : Prop where
  ex : ∃ (f : Addr) (fd : FuncData), FunD K x x (defArgs st) (defBody st) (defScope st) [] [] f fd ∧ mg x = some (.ref f) ∧ Binds K fd ps []
section
variable {T : Tb} {P : Program} {w : World} {mg : Str → Option Value} {base : Heap} {x : Str} {st : Stmt} {ps N : List Str} {m : MS} {G : Fn} {j k : Nat}
theorem DF.mono (g : DF T P w T.K mg base x j ps G) (h : j ≤ k) : DF T P w T.K mg base x k ps G :=
  let ⟨f, fd, F, a, b, c⟩ := g.ex
  ⟨f, fd, F.mono h, a, b, c⟩
theorem fn_denD {qual : Str} {params : Arguments} {bodyS : List Stmt} {scope : Scope} {dvs : List V} {kws : List (Str × V)} {f : Addr} {fd : FuncData} (F : FunD T.K x qual params bodyS scope dvs kws f fd) (S : FnScope N ps scope)
    (body : ∀ (cdv : Value) (A : Around) (outer : List Env) (s : Shared) (H : Hp) (E : XK), Room k (A.deeper (envOfC qual scope s.heap.objs.size f cdv)) → DSs T none (cxOf (L2.CX P w) P w T.K mg base N qual scope f cdv A outer s H E) bodyS m) :
    FnOk P w T.K mg base (L2.CX P w) (k + 1) f fd ps (SpD T (runF ps.length N.length m)) := by
  refine F.ok S (fun vs H Q E h => ?_) (fun cdv A outer s H vs Q E hr h => ?_)
  · obtain ⟨Hf, L, io, cs, _, sl, _, _, o⟩ := h
    have hl := sl.length
    rw [List.length_map] at hl
    by_cases c : cs.length = ps.length ∧ ps.length ≤ N.length ∧ cs.all argOk = true
    · rw [hl, c.1]
    · unfold runF at o
      rw [if_neg c] at o
      exact o.elim
  · obtain ⟨Hf, L, io, cs, sub, sl, nd, nf, o⟩ := h
    have hl := sl.length
    rw [List.length_map] at hl
    by_cases c : cs.length = ps.length ∧ ps.length ≤ N.length ∧ cs.all argOk = true
    · have tk : Takes (cxOf (L2.CX P w) P w T.K mg base N qual scope f cdv A outer s H E) (fun cls d _ H => E cls d H) := takes_of rfl rfl rfl rfl
      refine ⟨_, (body cdv A outer s H E hr).run _ tk, ⟨H, Hf, L, io⟩, Hf, cs ++ List.replicate (N.length - ps.length) .no, ?_, ?_⟩
      · refine ⟨Stp.refl sub, L, ?_, nd, nf, fun a ha => .inl ha⟩
        have := slots_app (N.length - ps.length) sl
        unfold L2.start
        rw [hl, c.1]
        exact this
      · unfold runF at o
        rw [if_pos c] at o
        have rv_fin : ∀ {c' : Vc} {v : V} {σ' : L2.St} {H' Hf' : Hp} {ρ' : Rho}, ioKeep cs ρ' = true → RlV T none ⟨H, Hf, L, io⟩ σ' H' Hf' ρ' c' v → ∃ Lv, Stp L H Hf H' Hf' ∧ Fin T cs vs (ρ'.take ps.length) H' Hf' ∧ CellR T none none Hf' H' c'.cell (some v) Lv ∧ Lv.Nodup ∧ ∀ a ∈ Lv, H a = none ∧ Hf' a = none := fun {c' v σ' H' Hf' ρ'} hk rv => by
          obtain ⟨L', Lv, h1, h0, h2, h3, h4⟩ := rv.sl
          obtain ⟨f1, f2⟩ := fin_of (N := 0) sl hk h1 fun a ha => h3 a (List.mem_append_right _ ha)
          rw [List.nodup_append] at h2
          refine ⟨Lv, rv.st, by rw [← c.1]; exact f1, h0, h2.1, fun a ha => ⟨?_, h3 a (List.mem_append_left _ ha)⟩⟩
          rcases h4 a (List.mem_append_left _ ha) with z | z
          · exact absurd rfl (h2.2.2 a ha a (f2 a z c.2.2))
          · exact z
        cases e : m (cs ++ List.replicate (N.length - ps.length) .no) with
        | next ρ' =>
          rw [e] at o
          intro σ' H' Hf' r'
          cases hk : ioKeep cs ρ' with
          | false => simp only [hk] at o; exact o.elim
          | true =>
            simp only [hk, if_true] at o
            obtain ⟨Lv, h1, h2, h3, h4, h5⟩ := rv_fin hk (r'.val (v := .non) (d := .non) rfl)
            exact o .non H' Hf' Lv h1 h2 h3 h4 h5
        | ret c' ρ' =>
          rw [e] at o
          intro v σ' H' Hf' r'
          cases hk : ioKeep cs ρ' with
          | false => simp only [hk] at o; exact o.elim
          | true =>
            simp only [hk, if_true] at o
            obtain ⟨Lv, h1, h2, h3, h4, h5⟩ := rv_fin hk r'
            exact o v H' Hf' Lv h1 h2 h3 h4 h5
        | brk ρ' => rw [e] at o; exact o.elim
        | cont ρ' => rw [e] at o; exact o.elim
        | exc x ρ' =>
          rw [e] at o
          intro σ' cls dd H' Hf' r' ex
          cases hk : ioKeep cs ρ' with
          | false => simp only [hk] at o; exact o.elim
          | true =>
            simp only [hk, if_true] at o
            obtain ⟨Lv, h1, h2, _⟩ := rv_fin hk (r'.val (v := .non) (d := .non) rfl)
            exact o cls dd H' Hf' h1 h2 ex
        | bad => rw [e] at o; exact o.elim
    · unfold runF at o
      rw [if_neg c] at o
      exact o.elim
theorem df_mk (g : FF T.K mg x st ps) (S : FnScope N ps (defScope st))
    (body : ∀ (f : Addr) (cdv : Value) (A : Around) (outer : List Env) (s : Shared) (H : Hp) (E : XK), Room k (A.deeper (envOfC x (defScope st) s.heap.objs.size f cdv)) → DSs T none (cxOf (L2.CX P w) P w T.K mg base N x (defScope st) f cdv A outer s H E) (defBody st) m) :
    DF T P w T.K mg base x (k + 1) ps (runF ps.length N.length m) :=
  let ⟨f, fd, F, hm, hb⟩ := g.ex
  ⟨f, fd, fn_denD F S (body f), hm, F.kp, hb⟩
theorem df_bad (g : FF T.K mg x st ps) : DF T P w T.K mg base x k ps (fun _ => .bad) :=
  let ⟨f, fd, F, hm, hb⟩ := g.ex
  ⟨f, fd, ⟨fun vs H Q E h => by
    obtain ⟨_, _, _, _, _, _, _, _, o⟩ := h
    exact o.elim, fun A outer s H args us vs Q E hr he hb hv h => by
    obtain ⟨_, _, _, _, _, _, _, _, o⟩ := h
    exact o.elim⟩, hm, F.kp, hb⟩
theorem df_rec {G : Nat → Fn} (g : FF T.K mg x st ps) (h0 : G 0 = fun _ => .bad) (step : ∀ n, DF T P w T.K mg base x (j + n) ps (G n) → DF T P w T.K mg base x (j + (n + 1)) ps (G (n + 1))) : ∀ n, DF T P w T.K mg base x (j + n) ps (G n)
  | 0 => by rw [h0]; exact df_bad g
  | n + 1 => step n (df_rec g h0 step n)
end

abbrev Fx := PySem.W.Frag → Bool
def obsV (fx : List Fx) (fn : List He.DefD) (K : PySem.W.Frag) : He.AlD := ((fx.all fun f => f K) && fn.all fun d => d.ok K, fn.map fun d => He.fnW K d.at_)
def SaysV (fx : List Fx) (fn : List He.DefD) (K : PySem.W.Frag) : Prop := obsV fx fn K = He.valD fn
def obsVG (n : Nat) (fx : List Fx) (fn : List He.DefD) (g : Addr → Option Obj) : He.AlD := obsV fx fn (He.frG g (He.asD g n))
def hookV (n : Nat) (fx : List Fx) (fn : List He.DefD) : PySem.W.Hook where
  α := He.AlD
  obs := fun s => obsVG n fx fn s.heap.get?
  val := fun _ => He.valD fn
  says := fun _ h => ∃ K : PySem.W.Frag, K.In h ∧ SaysV fx fn K
  of := fun _ _ e => ⟨_, He.frG_in, e⟩
  keeps := fun _ _ _ ⟨K, hK, c⟩ k => ⟨K, PySem.W.Frag.In.keeps hK k, c⟩
theorem obsVG_eq {n : Nat} {fx : List Fx} {fn : List He.DefD} {g : Addr → Option Obj} {s : Shared} (h : ∀ a, g a = s.heap.get? a) : obsVG n fx fn g = (hookV n fx fn).obs s := by
  have e : g = s.heap.get? := funext h
  rw [e] <;> rfl
section
variable {fx : List Fx} {fn : List He.DefD} {K : PySem.W.Frag}
theorem SaysV.fact (c : SaysV fx fn K) (i : Nat) {f : Fx} (h : fx[i]? = some f) : f K = true := by
  have c1 := (He.ba (show ((fx.all fun f => f K) && fn.all fun d => d.ok K) = true from congrArg (fun z : He.AlD => z.1) c)).1
  exact List.all_eq_true.mp c1 f (List.mem_of_getElem? h)
theorem SaysV.def_ (c : SaysV fx fn K) (i : Nat) {d : He.DefD} (h : fn[i]? = some d) : ∃ fd, FunD K d.name d.qual d.params d.body d.scope (d.dvs K) (d.kws K) (He.fAd K d.at_) fd := by
  have c2 := (He.ba (show ((fx.all fun f => f K) && fn.all fun d => d.ok K) = true from congrArg (fun z : He.AlD => z.1) c)).2
  have e : fn.map (fun d => He.fnW K d.at_) = fn.map He.DefD.val := congrArg (fun z : He.AlD => z.2) c
  have e2 : (fn.map fun d => He.fnW K d.at_)[i]? = (fn.map He.DefD.val)[i]? := by rw [e]
  rw [List.getElem?_map, List.getElem?_map, h] at e2
  exact He.DefD.funD (Option.some.inj e2) (List.all_eq_true.mp c2 d (List.mem_of_getElem? h))
end
def oexB (x : Str) : Fx := fun K => (match K.lookup (He.ga K x) with
    | some ⟨.type "type", _, .cls cd, sl⟩ => (match cd.mro, sl.toList with
      | .ref C' :: bm, [_, _, _, _, some (.builtin n), _] => C' == He.ga K x && n == "ValueError.__new__" && !cd.hasDel && cd.hasDict && PySem.HandSPX.refsVE bm
      | _, _ => false)
    | _ => false) && (He.eqO (PySem.W.findIn K (.ref (He.ga K x)) "__setattr__") (some (some (.builtin "object.__setattr__"))) && (decide (PySem.W.subIn K (.ref (He.ga K x)) (.type "BaseException") = some true) && (decide (PySem.W.typeIn K (.ref (He.ga K x)) = some (.type "type")) && PySem.W.keepIn K (.ref (He.ga K x)))))
theorem oexB_ok {K : PySem.W.Frag} {x : Str} (h : oexB x K = true) : OexC K (He.ga K x) := by
  obtain ⟨h1, h⟩ := He.ba h
  obtain ⟨h2, h⟩ := He.ba h
  obtain ⟨h3, h⟩ := He.ba h
  obtain ⟨h4, h5⟩ := He.ba h
  refine ⟨?_, He.eqO_ok h2, of_decide_eq_true h3, of_decide_eq_true h4, h5⟩
  split at h1
  · rename_i dd cd sl ho
    split at h1
    · rename_i C' bm k0 k1 k2 k3 n k5 hm hs
      simp only [Bool.and_eq_true, beq_iff_eq, Bool.not_eq_true'] at h1
      obtain ⟨⟨⟨⟨e1, rfl⟩, hdel⟩, hdic⟩, hr⟩ := h1
      obtain ⟨nm, bs, mro, ns, qn, hd, sn, sub, ab, col, del⟩ := cd
      dsimp only at hm hdel hdic
      subst hm hdel hdic e1
      have hsl : sl = #[k0, k1, k2, k3, some (.builtin "ValueError.__new__"), k5] := by
        obtain ⟨l⟩ := sl
        simp only at hs
        rw [hs]
      subst hsl
      exact ⟨nm, qn, ns, bs, bm, sn, sub, ab, col, dd, k0, k1, k2, k3, k5, ho, hr⟩
    · cases h1
  · cases h1
def excB (x : Str) : Fx := fun K => (He.Fa.exc x).ok K
def excCB (x : Str) : Fx := fun K => He.eqO (PySem.W.findIn K (.ref (He.ga K x)) "__getattribute__") (some (some (.builtin "BaseException.__getattribute__"))) && (He.eqO (PySem.W.findIn K (.ref (He.ga K x)) "__getattr__") (some none) && (decide (PySem.W.subIn K (.ref (He.ga K x)) (.type "BaseException") = some true) && (PySem.W.hasDictIn K (He.ga K x) &&
  (He.eqO (PySem.W.findIn K (.ref (He.ga K x)) "__class__") (some (some (.builtin "object.__class__"))) && (He.eqO (PySem.W.specialIn K (.builtin "object.__class__") "__get__") (some (some (.builtin "getset_descriptor.__get__"))) && (decide (PySem.W.takesIn K (.builtin "object.__class__") = some true) && decide (PySem.W.mroIn K (He.ga K x) (.type "object") = some true)))))))
theorem excCB_ok {K : PySem.W.Frag} {x : Str} (h : excCB x K = true) : ExcC K (He.ga K x) ∧ XfC K (He.ga K x) := by
  obtain ⟨h1, h⟩ := He.ba h
  obtain ⟨h2, h⟩ := He.ba h
  obtain ⟨h3, h⟩ := He.ba h
  obtain ⟨h4, h⟩ := He.ba h
  obtain ⟨h5, h⟩ := He.ba h
  obtain ⟨h6, h⟩ := He.ba h
  obtain ⟨h7, h8⟩ := He.ba h
  exact ⟨⟨He.eqO_ok h1, He.eqO_ok h2, of_decide_eq_true h3, h4, He.eqO_ok h5, He.eqO_ok h6, of_decide_eq_true h7, of_decide_eq_true h8⟩, ⟨He.eqO_ok h1, He.eqO_ok h2, of_decide_eq_true h3, h4⟩⟩
def initB (x y : Str) : Fx := fun K => He.eqO (PySem.W.findIn K (.ref (He.ga K x)) "__init__") (some (some (.ref (He.ma K (He.ga K y) "__init__")))) && decide (PySem.W.typeIn K (.ref (He.ma K (He.ga K y) "__init__")) = some (.type "function"))
theorem initB_ok {K : PySem.W.Frag} {x y : Str} (h : initB x y K = true) : PySem.W.findIn K (.ref (He.ga K x)) "__init__" = some (some (.ref (He.ma K (He.ga K y) "__init__"))) ∧ PySem.W.typeIn K (.ref (He.ma K (He.ga K y) "__init__")) = some (.type "function") := by
  obtain ⟨h1, h2⟩ := He.ba h
  exact ⟨He.eqO_ok h1, of_decide_eq_true h2⟩
def kitB2 (x y : Str) (b : Bool) : Fx := fun K => decide (PySem.W.kitOne K (.ref (He.ga K x)) (.ref (He.ga K y)) = some b)
def kitBT (x : Str) (n : String) (b : Bool) : Fx := fun K => decide (PySem.W.kitOne K (.ref (He.ga K x)) (.type n) = some b)
theorem walk_end {l : PySem.W.OpenLaw} {n k : Nat} {q : Program} {loose : List Str} {XP : (Str → Option Value) → Heap → Prop} {YP : World → Heap → Prop} {d : DefRec} {x : Str}
    (hn : l.most = some n) (hn2 : n ≤ sizeLine) (hdf : d.params.defaults = []) (hr : Room k callerA)
    (F : ∀ (w : World) (mg : Str → Option Value) (fa : Addr) (h : Heap), YP w h → h.Ns mainGlobals mg → mg d.name = some (.ref fa) →
      ∃ (T : Tb) (fd : FuncData) (G : Fn), T.K.In h ∧ (∀ (s : Shared) (u : Value), BindsTo s fd ⟨[u], []⟩ [(x, u)]) ∧
        (∀ ns : List Int, ns.length ≤ n → ∃ fin, G [.fz (.lst (ns.map .int))] = .ok (.fz (.bl true)) fin) ∧
        ∀ base : Heap, T.K.In base → base.Ns mainGlobals mg → FnOk l.prog w T.K mg base (L2.CX l.prog w) k fa fd [x] (SpD T G)) :
    PySem.W.WalkO q loose XP YP l.row.toRowW d [] (fun f vs => PySem.call f vs) := by
  refine Att.attach_call hn hdf fun w s₀ s₁ mg mb fa o pm cd doc a vs ns G Y ho hd hcd hmg hobj hints hlen hg => ?_
  obtain ⟨T, fd, Gf, KX, hb, hpl, hF⟩ := F w mg fa _ Y G.T.g hmg
  refine law_call KX G.T.g G.T.b G.T.builtins G.T.nolimit hg hobj hints (Nat.le_trans hlen hn2) hr hF hb (fun H hO hS => ?_) fun H e s' z => ?_
  · obtain ⟨fin, e⟩ := hpl ns hlen
    have il : IsL T H (ns.map .int) (ns.map V.int) := IsL.ofInts
    refine ⟨H, [], fun _ => none, [.fz (.lst (ns.map .int))], Sub.refl H, ⟨[], [], rfl, ⟨rfl, .ref a, rfl, a, _, rfl, hS, il⟩, rfl⟩, List.nodup_nil, (fun _ z => nomatch z), ?_⟩
    rw [e]
    intro v H' Hf' Lv st _ cr nd fr
    obtain ⟨_, u, eu, iu⟩ := cr
    cases eu
    exact iu
  · obtain ⟨_, _, _, _, _, _, _, _, _, _, _, _, z⟩ := z
    exact z
end DV

set_option Elab.async false
set_option linter.all false
set_option maxRecDepth 100000
set_option maxHeartbeats 2000000
namespace DV
open PySem PySem.Spec PyProof.Rows L2

section
variable {T : Tb} {hx : HX} {X : Cx} {W : WX} {a b e : Expr} {ma : M Vc} {pos p2 : Pos} {j n : Nat}
theorem Room.units65 {k : Nat} {A : Around} (r : Room k A) : A.units + 65 < cLine := by have := r.un; omega
theorem in_isN : Le (tE T hx W (mUn opIsN ma)) (tOp (fun x y H Q => y = .non ∧ Q (.bl (decide (x = .non))) H) (tE T hx W ma) (tC .non)) := fun σ H Q hh => by
  have := in_un s_isN σ H Q hh
  obtain ⟨F, Hf, ρ, rl, o⟩ := hh
  refine tE_bind (P := oE T hx W F σ Hf Q) rl (Sub.refl _) (fun z => z) (fun _ _ z => z) o fun v H1 Hf1 c1 ρ1 r1 s0 s1 i o => ?_
  obtain ⟨c, e1, nv⟩ := oE_new r1 s0 o
  exact ⟨rfl, s_isN H1 Hf1 v _ c Q r1.sub (.inl i) e1 nv⟩
theorem in_notN : Le (tE T hx W (mUn opNotN ma)) (tOp (fun x y H Q => y = .non ∧ Q (.bl (!decide (x = .non))) H) (tE T hx W ma) (tC .non)) := fun σ H Q hh => by
  obtain ⟨F, Hf, ρ, rl, o⟩ := hh
  refine tE_bind (P := oE T hx W F σ Hf Q) rl (Sub.refl _) (fun z => z) (fun _ _ z => z) o fun v H1 Hf1 c1 ρ1 r1 s0 s1 i o => ?_
  obtain ⟨c, e1, nv⟩ := oE_new r1 s0 o
  exact ⟨rfl, s_notN H1 Hf1 v _ c Q r1.sub (.inl i) e1 nv⟩
theorem de_isN (ha : DE T hx X a ma) : DE T hx X (.Compare a [.Is] [.Constant .none n p2] pos) (mUn opIsN ma) := de_of (fun W tk => pe_cmpR op_isN (ha.run W tk) pe_non rfl) fun _ => in_isN
theorem de_isNN (ha : DE T hx X a ma) : DE T hx X (.Compare a [.IsNot] [.Constant .none n p2] pos) (mUn opNotN ma) := de_of (fun W tk => pe_cmpR op_notN (ha.run W tk) pe_non rfl) fun _ => in_notN
theorem dt_isN (ha : DE T hx X a ma) : DT T hx X (.Compare a [.Is] [.Constant .none n p2] pos) (mTest (mUn opIsN ma)) := dt_of (fun W tk => pt_cmpR op_isN (ha.run W tk) pe_non rfl) fun _ => in_test in_isN
theorem dt_isNN (ha : DE T hx X a ma) : DT T hx X (.Compare a [.IsNot] [.Constant .none n p2] pos) (mTest (mUn opNotN ma)) := dt_of (fun W tk => pt_cmpR op_notN (ha.run W tk) pe_non rfl) fun _ => in_test in_notN
theorem de_one1 {op : BoolOp} (h : DE T hx X a ma) : DE T hx X (.BoolOp op [a] pos) ma := ⟨fun W tk => pe_one (h.run W tk)⟩
def mTT : M Bool := fun ρ => .ok true ρ
@[simp] def ipAdd : D → D → Option Vc
  | .int i, .int j => some (.fz (.int (i + j)))
  | _, _ => none
@[simp] def ipSub : D → D → Option Vc
  | .int i, .int j => some (.fz (.int (i - j)))
  | _, _ => none
theorem s_ipadd : OpS T (ipI fun i j => i + j) ipAdd := by
  intro H Hf x y d e c Q s ix iy h nv
  match d, e, h with
  | .int i, .int j, h =>
    cases h
    exact ⟨i, j, ix.int, iy.int, nv.same s rfl⟩
theorem s_ipsub : OpS T (ipI fun i j => i - j) ipSub := by
  intro H Hf x y d e c Q s ix iy h nv
  match d, e, h with
  | .int i, .int j, h =>
    cases h
    exact ⟨i, j, ix.int, iy.int, nv.same s rfl⟩
end
section
variable {T : Tb} {P : Program} {w : World} {mg : Str → Option Value} {base : Heap}
theorem fnD_init1 {x qual f : Str} {params : Arguments} {bodyS : List Stmt} {scope : Scope} {fI : Addr} {fd : FuncData} {c : Nat} {p1 p2 p3 p4 : Pos} (F : FunD T.K x qual params bodyS scope [] [] fI fd) (S : FnScope [("self" : Str), f] [("self" : Str), f] scope) (oe : OexC T.K (T.ca c)) (hno : PySem.W.findIn T.K (.ref (T.ca c)) f = some none)
    (hb : bodyS = [.Assign [.Attribute (.Name "self" p1) f p2] (.Name f p3) p4])
    (h0 : ∀ X : Cx, X.N = [("self" : Str), f] → X.env.scope = scope → PE X (.Name "self" p1) (tVar 0)) (h1 : ∀ X : Cx, X.N = [("self" : Str), f] → X.env.scope = scope → PE X (.Name f p3) (tVar 1))
    (hs : ∀ env : Env, swapsWith (.Name f p3) (some (.Attribute (.Name "self" p1) f p2)) p4.line env = pure false) : FnOk P w T.K mg base (L2.CX P w) 1 fI fd [("self" : Str), f] (SpI T c [f]) := by
  refine F.ok S (fun vs H Q E h => ?_) (fun cdv A outer s H vs Q E hr h => ?_)
  · obtain ⟨a, xs, rfl, hl, _⟩ := h
    simpa using hl
  · obtain ⟨a, xs, rfl, hl, ha, k⟩ := h
    obtain ⟨y, rfl⟩ : ∃ y, xs = [y] := by
      match xs, hl with
      | [y], _ => exact ⟨y, rfl⟩
    rw [hb]
    refine ⟨_, pss_one (ps_ost (h0 _ rfl rfl) (h1 _ rfl rfl) (hs _)), ?_⟩
    refine ⟨y, rfl, .ref a, rfl, a, T.ca c, rfl, oe, hno, .inl ⟨ha, fun dx hd hne => ?_⟩⟩
    refine k dx _ hd hne upd_same (by rw [upd_ne hne, upd_same]; rfl) fun b h1 h2 => by rw [upd_ne h1, upd_ne h2]
theorem pv_of {N : List Str} {sc : Scope} {i : Nat} {x : Str} {p : Pos} (hN : N[i]? = some x) (hv : Vis sc x) (hd : (x == ("__debug__" : Str)) = false) (hcd : (x == ("__classdict__" : Str)) = false) (X : Cx) (e1 : X.N = N) (e2 : X.env.scope = sc) : PE X (.Name x p) (tVar i) :=
  pe_var (by rw [e1]; exact hN) (by rw [e2]; exact hv) hd hcd
end
end DV

set_option Elab.async false
set_option linter.all false
set_option maxRecDepth 100000
set_option maxHeartbeats 2000000
namespace DV
open PySem PySem.Spec PyProof.Rows L2

section
variable {T : Tb} {hx : HX} {X : Cx} {W : WX} {F : Fm} {σ : L2.St} {H Hf : Hp} {ρ : Rho}
theorem Rl.cellAt {j : Nat} {c : Cell} (r : Rl T hx F σ H Hf ρ) (e : ρ[j]? = some c) : ∃ v L1, σ[j]? = some v ∧ CellR T hx (F.io (0 + j)) Hf H c v L1 ∧ L1.Nodup ∧ (∀ a ∈ L1, Hf a = none) ∧
    ∀ (H' Hf' : Hp) (c' : Cell) (v' : Option V) (L' : List Addr), Stp L1 H Hf H' Hf' → CellR T hx (F.io (0 + j)) Hf' H' c' v' L' → L'.Nodup → (∀ a ∈ L', Hf' a = none ∧ (a ∈ L1 ∨ H a = none)) → Rl T hx F (σ.set j v') H' Hf' (ρ.set j c') := by
  obtain ⟨L, h1, h2, h3, h4⟩ := r.sl
  obtain ⟨w, A, B, L1, g1, rfl, g3, g4⟩ := h1.at e
  have nd := h2
  rw [List.nodup_append] at nd
  obtain ⟨n1, n2, n3⟩ := nd
  rw [List.nodup_append] at n2
  obtain ⟨n4, n5, n6⟩ := n2
  have hAB : ∀ b, b ∈ A ∨ b ∈ B → b ∉ L1 := fun b hb hL => by
    rcases hb with z | z
    · exact n3 b z b (by simp [hL]) rfl
    · exact n6 b hL b z rfl
  have inL : ∀ b, b ∈ A ∨ b ∈ B → b ∈ A ++ (L1 ++ B) := fun b hb => by rcases hb with z | z <;> simp [z]
  refine ⟨w, L1, g1, g3, n4, fun a ha => h3 a (by simp [ha]), fun H' Hf' c' v' L' s q nd' hn => ?_⟩
  have orig : ∀ x ∈ L1, x ∈ F.L ∨ F.H x = none := fun x hx => h4 x (by simp [hx])
  have keepN : ∀ b, b ∈ A ∨ b ∈ B → Hf' b = none := fun b hb => by
    cases e2 : Hf' b with
    | none => rfl
    | some o =>
      exfalso
      rcases s.s2 b (by rw [e2]; exact fun z => nomatch z) with k | k | k
      · exact k (h3 b (inL b hb))
      · exact hAB b hb k
      · obtain ⟨u, hu⟩ := h1.there b (inL b hb)
        rw [hu] at k
        cases k
  have dis : ∀ b, b ∈ A ∨ b ∈ B → b ∉ L' := fun b hb hL => by
    rcases (hn b hL).2 with z | z
    · exact hAB b hb z
    · obtain ⟨u, hu⟩ := h1.there b (inL b hb)
      rw [hu] at z
      cases z
  refine ⟨r.st.trans s orig, _, g4 Hf' H' c' v' L' s.s3 (fun b hb u e => s.s1 b u e (hAB b hb)) q, ?_, fun a ha => ?_, fun a ha => ?_⟩
  · refine List.nodup_append.mpr ⟨n1, List.nodup_append.mpr ⟨nd', n5, fun a ha b hb z => ?_⟩, fun a ha b hb z => ?_⟩
    · subst z; exact dis a (.inr hb) ha
    · subst z
      rcases List.mem_append.mp hb with hb | hb
      · exact dis a (.inl ha) hb
      · exact n3 a ha a (by simp [hb]) rfl
  · simp only [List.mem_append] at ha
    rcases ha with z | z | z
    · exact keepN a (.inl z)
    · exact (hn a z).1
    · exact keepN a (.inr z)
  · simp only [List.mem_append] at ha
    rcases ha with z | z | z
    · exact h4 a (by simp [z])
    · rcases (hn a z).2 with k | k
      · exact orig a k
      · refine .inr ?_
        cases e2 : F.H a with
        | none => rfl
        | some o => exact absurd k (r.st.s0 a (by rw [e2]; exact fun z => nomatch z))
    · exact h4 a (by simp [z])
theorem OlAt.len {bs : List Addr} {dss : List (List D)} (h : OlAt T Hf H bs dss) : bs.length = dss.length := by
  induction bs generalizing dss with
  | nil => rw [show dss = [] from h]; rfl
  | cons b bs ih =>
    obtain ⟨ds, r, xs, rfl, _, _, h3⟩ := h
    rw [List.length_cons, List.length_cons, ih h3]
theorem OlAt.append {bs cs : List Addr} {dss ess : List (List D)} (h : OlAt T Hf H bs dss) (h' : OlAt T Hf H cs ess) : OlAt T Hf H (bs ++ cs) (dss ++ ess) := by
  induction bs generalizing dss with
  | nil => rw [show dss = [] from h]; exact h'
  | cons b bs ih =>
    obtain ⟨ds, r, xs, rfl, h1, h2, h3⟩ := h
    exact ⟨ds, r ++ ess, xs, rfl, h1, h2, ih h3⟩
theorem OlAt.split {bs cs : List Addr} {dss : List (List D)} (h : OlAt T Hf H (bs ++ cs) dss) : ∃ d1 d2, dss = d1 ++ d2 ∧ OlAt T Hf H bs d1 ∧ OlAt T Hf H cs d2 := by
  induction bs generalizing dss with
  | nil => exact ⟨[], dss, rfl, rfl, h⟩
  | cons b bs ih =>
    obtain ⟨ds, r, xs, rfl, h1, h2, h3⟩ := h
    obtain ⟨d1, d2, rfl, k1, k2⟩ := ih h3
    exact ⟨ds :: d1, d2, rfl, ⟨ds, d1, xs, rfl, h1, h2, k1⟩, k2⟩
def sNewOl (i : Nat) : MS := fun ρ => match setR i (.ol []) ρ with
  | some ρ2 => .next ρ2
  | none => .bad
theorem in_newOl {i : Nat} : LeS (tS T hx W (sNewOl i)) (tAsg (tLst tNil) (gName i)) := by
  intro D σ H hh
  obtain ⟨F, Hf, ρ, rl, o⟩ := hh
  unfold sNewOl at o
  cases e : setR i (.ol []) ρ with
  | none => rw [e] at o; exact o.elim
  | some ρ2 =>
    rw [e] at o
    refine ⟨by decide, fun p hp => ?_⟩
    obtain ⟨c0, e0, _, rfl⟩ := setR_some e
    obtain ⟨v, L1, g1, g2, g3, g4, g5⟩ := rl.cellAt e0
    exact o _ _ Hf (g5 _ Hf (.ol []) (some (.ref p)) [p] (Stp.newO rl.sub hp) ⟨p, [], rfl, rfl, upd_same, rfl⟩ (List.nodup_cons.mpr ⟨by simp, List.nodup_nil⟩) fun a ha => by
      rw [List.mem_singleton] at ha
      subst ha
      exact ⟨rl.sub.none hp, .inr hp⟩)
def sAppNew (j : Nat) : MS := fun ρ => match ρ[j]? with
  | some (.ol dss) => if dss.length < sizeLine then .next (ρ.set j (.ol (dss ++ [[]]))) else .bad
  | _ => .bad
theorem in_appNew {j : Nat} : LeS (tS T hx W (sAppNew j)) (tDrop (tBM T.K "list" rAppend (tVar j) (tCons (tLst tNil) tNil))) := by
  intro D σ H hh
  obtain ⟨F, Hf, ρ, rl, o⟩ := hh
  unfold sAppNew at o
  split at o
  · rename_i dss e
    split at o
    · rename_i hz
      obtain ⟨v, L1, g1, g2, g3, g4, g5⟩ := rl.cellAt e
      obtain ⟨a, bs, rfl, rfl, k1, k2⟩ := g2
      refine ⟨.ref a, g1, .inl ⟨rfl, _, SqL.of k1⟩, by decide, fun p hp => ?_⟩
      have hpa : a ≠ p := ne_of_none k1 hp
      refine ⟨a, bs.map V.ref, .ref p, rfl, rfl, by rw [upd_ne hpa]; exact k1, by rw [List.length_map, k2.len]; exact hz, ?_⟩
      have hpb : ∀ b ∈ bs, b ≠ p := fun b hb => by
        obtain ⟨u, hu⟩ := k2.there b hb
        exact ne_of_none hu hp
      obtain ⟨n1, n2⟩ := List.nodup_cons.mp g3
      have hba : ∀ b ∈ bs, b ≠ a := fun b hb z => n1 (by rw [← z]; exact hb)
      have st : Stp (a :: bs) H Hf (upd (upd H p (.lst [])) a (.lst (bs.map V.ref ++ [V.ref p]))) Hf :=
        (Stp.newO rl.sub hp).trans (Stp.write (L := a :: bs) (Sub.upd2 rl.sub (rl.sub.none hp)) (g4 a (by simp)) (by simp)) fun x hx => .inl hx
      have := g5 _ Hf (.ol (dss ++ [[]])) (some (.ref a)) (a :: (bs ++ [p])) st ⟨a, bs ++ [p], rfl, rfl, by rw [upd_same, List.map_append]; rfl, ?_⟩ ?_ ?_
      · rw [set_same g1] at this
        exact o _ _ Hf this
      · refine (k2.stp (Sub.refl _) fun b hb u e => ?_).append ⟨[], [], [], rfl, ?_, rfl, rfl⟩
        · rw [upd_ne (hba b hb), upd_ne (hpb b hb)]; exact e
        · rw [upd_ne (Ne.symm hpa), upd_same]
      · refine List.nodup_cons.mpr ⟨fun z => ?_, List.nodup_append.mpr ⟨n2, by simp, fun x hx y hy z => ?_⟩⟩
        · rcases List.mem_append.mp z with z | z
          · exact n1 z
          · exact hpa (List.mem_singleton.mp z)
        · rw [List.mem_singleton] at hy
          exact hpb x hx (z.trans hy)
      · intro x hx
        rcases List.mem_cons.mp hx with z | z
        · rw [z]; exact ⟨g4 a (by simp), .inl (by simp)⟩
        · rcases List.mem_append.mp z with z | z
          · exact ⟨g4 x (by simp [z]), .inl (by simp [z])⟩
          · rw [List.mem_singleton] at z
            subst z
            exact ⟨rl.sub.none hp, .inr hp⟩
    · exact o.elim
  · exact o.elim
def unsnoc {α : Type} : List α → Option (List α × α)
  | [] => none
  | x :: r => match unsnoc r with
    | none => some ([], x)
    | some (i, l) => some (x :: i, l)
theorem unsnoc_none {α : Type} : ∀ {l : List α}, unsnoc l = none → l = []
  | [], _ => rfl
  | x :: r, h => by
    unfold unsnoc at h
    split at h <;> cases h
theorem unsnoc_some {α : Type} : ∀ {l i : List α} {x : α}, unsnoc l = some (i, x) → l = i ++ [x]
  | [], _, _, h => by cases h
  | y :: r, i, x, h => by
    unfold unsnoc at h
    split at h
    · rename_i e
      cases h
      rw [unsnoc_none e]; rfl
    · rename_i i' l' e
      cases h
      rw [unsnoc_some e]; rfl
theorem unsnoc_concat {α : Type} : ∀ (i : List α) (x : α), unsnoc (i ++ [x]) = some (i, x)
  | [], x => rfl
  | y :: r, x => by
    show (match unsnoc (r ++ [x]) with | none => some ([], y) | some (i, l) => some (y :: i, l)) = _
    rw [unsnoc_concat r x]
theorem OlAt.last {bs : List Addr} {d0 : List (List D)} {ds : List D} (h : OlAt T Hf H bs (d0 ++ [ds])) : ∃ b0 b xs, bs = b0 ++ [b] ∧ OlAt T Hf H b0 d0 ∧ H b = some (.lst xs) ∧ IsL T Hf ds xs := by
  induction d0 generalizing bs with
  | nil =>
    cases bs with
    | nil => cases (show [ds] = [] from h)
    | cons b bs =>
      obtain ⟨ds', r, xs, e, h1, h2, h3⟩ := h
      cases e
      have hl := h3.len
      cases bs with
      | nil => exact ⟨[], b, xs, rfl, rfl, h1, h2⟩
      | cons c cs => simp at hl
  | cons d d0 ih =>
    cases bs with
    | nil => cases (show (d :: d0) ++ [ds] = [] from h)
    | cons b bs =>
      obtain ⟨ds', r, xs, e, h1, h2, h3⟩ := h
      cases e
      obtain ⟨b0, c, ys, rfl, k1, k2, k3⟩ := ih h3
      exact ⟨b :: b0, c, ys, rfl, ⟨d, d0, xs, rfl, h1, h2, k1⟩, k2, k3⟩
def sAppLast (j i : Nat) : MS := fun ρ => match ρ[j]?, ρ[i]? with
  | some (.ol dss), some (.fz d) => (match unsnoc dss with
    | some (d0, ds) => if ds.length < sizeLine then .next (ρ.set j (.ol (d0 ++ [ds ++ [d]]))) else .bad
    | none => .bad)
  | _, _ => .bad
theorem in_appLast {j i : Nat} : LeS (tS T hx W (sAppLast j i)) (tDrop (tBM T.K "list" rAppend (tOp (rIx T.K) (tVar j) (tUn (rU fun i => .int (-i)) (tC (.int 1)))) (tCons (tVar i) tNil))) := by
  intro D σ H hh
  obtain ⟨F, Hf, ρ, rl, o⟩ := hh
  unfold sAppLast at o
  split at o
  · rename_i dss d e ei
    cases el : unsnoc dss with
    | none => rw [el] at o; exact o.elim
    | some p0 =>
      obtain ⟨d0, ds⟩ := p0
      rw [el] at o
      replace o : oS T hx W F D (if ds.length < sizeLine then .next (ρ.set j (.ol (d0 ++ [ds ++ [d]]))) else .bad) := o
      by_cases hz : ds.length < sizeLine
      · rw [if_pos hz] at o
        obtain ⟨v, L1, g1, g2, g3, g4, g5⟩ := rl.cellAt e
        obtain ⟨a, bs, rfl, rfl, k1, k2⟩ := g2
        rw [unsnoc_some el] at k2
        obtain ⟨b0, b, xs, rfl, q1, m1, m2⟩ := k2.last
        obtain ⟨w, ew, iw⟩ := rl.data ei
        obtain ⟨n1, n2⟩ := List.nodup_cons.mp g3
        have n2' := n2
        rw [List.nodup_append] at n2
        obtain ⟨n3, n4, n5⟩ := n2
        have hba : b ≠ a := fun z => n1 (by rw [← z]; simp)
        have hb0 : ∀ x ∈ b0, x ≠ b := fun x hx => n5 x hx b (by simp)
        have hat : atI ((b0 ++ [b]).map V.ref) (-1) = some (V.ref b) := by
          unfold atI ixN
          rw [List.length_map, List.length_append]
          simp only [List.length_cons, List.length_nil]
          rw [if_neg (by omega), if_pos (by omega)]
          have e9 : (-1 + ((b0.length + (0 + 1) : Nat) : Int)).toNat = b0.length := by omega
          show (List.map V.ref (b0 ++ [b]))[_]? = _
          rw [List.map_append]
          rw [List.getElem?_append_right (by rw [List.length_map]; omega), List.length_map]
          first
            | (rw [e9, Nat.sub_self]; rfl)
            | simp
        refine ⟨.ref a, g1, 1, rfl, .inl ⟨a, _, -1, .ref b, rfl, rfl, SqL.of k1, hat, .inl ⟨rfl, xs, SqL.of m1⟩, w, ew, b, xs, w, rfl, rfl, m1, by rw [← Is.len m2]; exact hz, ?_⟩⟩
        have st : Stp (a :: (b0 ++ [b])) H Hf (upd H b (.lst (xs ++ [w]))) Hf := Stp.write rl.sub (g4 b (by simp)) (by simp)
        have := g5 _ Hf (.ol (d0 ++ [ds ++ [d]])) (some (.ref a)) (a :: (b0 ++ [b])) st ⟨a, b0 ++ [b], rfl, rfl, by rw [upd_ne (Ne.symm hba)]; exact k1, ?_⟩ g3 (fun x hx => ⟨g4 x hx, .inl hx⟩)
        · rw [set_same g1] at this
          exact o _ _ Hf this
        · exact (q1.stp (Sub.refl _) fun x hx u e => by rw [upd_ne (hb0 x hx)]; exact e).append ⟨_, [], _, rfl, upd_same, m2.append ⟨w, [], rfl, iw, rfl⟩, rfl⟩
      · rw [if_neg hz] at o; exact o.elim
  · exact o.elim
def mLenOl (j : Nat) : M Vc := fun ρ => match ρ[j]? with
  | some (.ol dss) => .ok (.fz (.int dss.length)) ρ
  | _ => .bad
theorem in_lenOl {j : Nat} : Le (tE T hx W (mLenOl j)) (tCB (fun xs H Q => ∃ x n, xs = [x] ∧ LenV T.K x H n ∧ Q (.int n) H) (tCons (tVar j) tNil)) := by
  intro σ H Q hh
  obtain ⟨F, Hf, ρ, rl, o⟩ := hh
  unfold mLenOl at o
  split at o
  · rename_i dss e
    obtain ⟨v, L1, g1, g2, g3, g4, g5⟩ := rl.cellAt e
    obtain ⟨a, bs, rfl, rfl, k1, k2⟩ := g2
    exact ⟨.ref a, g1, .ref a, dss.length, rfl, .inl ⟨_, SqL.of k1, by rw [List.length_map, k2.len]⟩, o _ H Hf (rl.val rfl) (Sub.refl _)⟩
  · exact o.elim
def mPopTup (j : Nat) : M Vc := fun ρ => match ρ[j]? with
  | some (.ol dss) => (match unsnoc dss with
    | some (d0, ds) => .ok (.fz (.tup ds)) (ρ.set j (.ol d0))
    | none => .bad)
  | _ => .bad
theorem in_popTup {j : Nat} : Le (tE T hx W (mPopTup j)) (tCB (fun xs H Q => ∃ p ys, xs = [.ref p] ∧ ((SqL T.K H p ys ∧ ∀ l, H l = none → Q (.ref l) (upd H l (.tup ys))) ∨ (SqT T.K H p ys ∧ Q (.ref p) H))) (tCons (tBM0 T.K "list" rPop (tVar j)) tNil)) := by
  intro σ H Q hh
  obtain ⟨F, Hf, ρ, rl, o⟩ := hh
  unfold mPopTup at o
  split at o
  · rename_i dss e
    cases el : unsnoc dss with
    | none => rw [el] at o; exact o.elim
    | some p0 =>
      obtain ⟨d0, ds⟩ := p0
      rw [el] at o
      replace o : oE T hx W F σ Hf Q (.ok (.fz (.tup ds)) (ρ.set j (.ol d0))) := o
      obtain ⟨v, L1, g1, g2, g3, g4, g5⟩ := rl.cellAt e
      obtain ⟨a, bs, rfl, rfl, k1, k2⟩ := g2
      rw [unsnoc_some el] at k2
      obtain ⟨b0, b, xs, rfl, q1, m1, m2⟩ := k2.last
      obtain ⟨n1, n2⟩ := List.nodup_cons.mp g3
      rw [List.nodup_append] at n2
      obtain ⟨n3, n4, n5⟩ := n2
      have hba : b ≠ a := fun z => n1 (by rw [← z]; simp)
      have h0a : ∀ x ∈ b0, x ≠ a := fun x hx z => n1 (by rw [← z]; simp [hx])
      refine ⟨.ref a, g1, .inl ⟨rfl, _, SqL.of k1⟩, a, _, .ref b, rfl, rfl, k1, by simp, b, xs, rfl, .inl ⟨SqL.of (by rw [upd_ne hba]; exact m1), fun p hp => ?_⟩⟩
      have st : Stp (a :: (b0 ++ [b])) H Hf (upd H a (.lst ((b0 ++ [b]).map V.ref).dropLast)) Hf := Stp.write rl.sub (g4 a (by simp)) (by simp)
      have r2 := g5 _ Hf (.ol d0) (some (.ref a)) (a :: b0) st ⟨a, b0, rfl, rfl, by rw [upd_same, List.map_append]; simp, q1.stp (Sub.refl _) fun x hx u e => by rw [upd_ne (h0a x hx)]; exact e⟩
        (List.nodup_cons.mpr ⟨fun z => n1 (by simp [z]), n3⟩) (fun x hx => by
          rcases List.mem_cons.mp hx with z | z
          · rw [z]; exact ⟨g4 a (by simp), .inl (by simp)⟩
          · exact ⟨g4 x (by simp [z]), .inl (by simp [z])⟩)
      rw [set_same g1] at r2
      exact o (.ref p) _ (upd Hf p (.tup xs)) (r2.stepV (c := .fz (.tup ds)) (Lv := []) (Stp.newF r2.sub hp) ⟨rfl, _, rfl, p, xs, rfl, SqT.of upd_same, m2.mono (Sub.upd (r2.sub.none hp))⟩ List.nodup_nil (fun _ z => nomatch z)) (Sub.upd (r2.sub.none hp))
  · exact o.elim
end
section
variable {T : Tb} {hx : HX} {X : Cx} {o1 : Expr} {i j : Nat} {pos p1 p2 p3 p4 p5 p6 apos cpos : Pos} {x y : Str}
theorem ds_newOl {pos' : Pos} (hN : X.N.Nodup) (hi : X.N[i]? = some x) (hx' : Loc X.env.scope x) (hs : swapsWith (.List [] p1) (some (.Name x pos')) pos.line X.env = pure false) (hf : X.fn x = true ∨ X.env.scope.names.lookup x = some .local) :
    DS T hx X (.Assign [.Name x pos'] (.List [] p1) pos) (sNewOl i) := ds_of (fun W tk => ps_set hN hi hx' (pe_lst pa_nil) hs hf) fun _ => in_newOl
theorem ds_appNew (hK : T.K = X.K) (ho : PE X o1 (tVar j)) (hsw : swapsWith (.Call (.Attribute o1 "append" apos) [.List [] p1] [] cpos) none pos.line X.env = pure false) (hbase : attributeBase o1 "append" X.env (eval o1 X.env) = eval o1 X.env)
    (hfew : ((backTo cpos (starEach [.List [] p1] X.env)).all (fun x => !x.1) && (backToKw cpos (keywordEach [] X.env)).all (fun x => x.1.isSome)
      && decide ([Expr.List [] p1].length + ([] : List Keyword).length + (if ([] : List Keyword).isEmpty then 0 else 1) < 30)) = true)
    (hline : (apos.endLine == cpos.line) = true) (hs : starEach [.List [] p1] X.env = (false, eval (.List [] p1) X.env) :: starEach [] X.env) (hplain : (backTo cpos (starEach [] X.env)).any (·.1) = false) :
    DS T hx X (.Expr (.Call (.Attribute o1 "append" apos) [.List [] p1] [] cpos) pos) (sAppNew j) :=
  ds_of (fun W tk => ps_expr (pe_bm F.plainAttrs_list F.slot_list_append F.type_list_append mt_append ho (pa_cons (pe_lst pa_nil) pa_nil hs) hbase hfew hline hs hplain) hsw) fun _ => by rw [← hK]; exact in_appNew
theorem ds_appLast {oi : Expr} {n : Nat} (hK : T.K = X.K) (ho : PE X o1 (tVar j)) (hi : PE X oi (tVar i)) (hix : PlainIx (.UnaryOp .USub (.Constant (.int 1) n p1) p2))
    (hsw : swapsWith (.Call (.Attribute (.Subscript o1 (.UnaryOp .USub (.Constant (.int 1) n p1) p2) p3) "append" apos) [oi] [] cpos) none pos.line X.env = pure false)
    (hbase : attributeBase (.Subscript o1 (.UnaryOp .USub (.Constant (.int 1) n p1) p2) p3) "append" X.env (eval (.Subscript o1 (.UnaryOp .USub (.Constant (.int 1) n p1) p2) p3) X.env) = eval (.Subscript o1 (.UnaryOp .USub (.Constant (.int 1) n p1) p2) p3) X.env)
    (hfew : ((backTo cpos (starEach [oi] X.env)).all (fun x => !x.1) && (backToKw cpos (keywordEach [] X.env)).all (fun x => x.1.isSome)
      && decide ([oi].length + ([] : List Keyword).length + (if ([] : List Keyword).isEmpty then 0 else 1) < 30)) = true)
    (hline : (apos.endLine == cpos.line) = true) (hs : starEach [oi] X.env = (false, eval oi X.env) :: starEach [] X.env) (hplain : (backTo cpos (starEach [] X.env)).any (·.1) = false) :
    DS T hx X (.Expr (.Call (.Attribute (.Subscript o1 (.UnaryOp .USub (.Constant (.int 1) n p1) p2) p3) "append" apos) [oi] [] cpos) pos) (sAppLast j i) :=
  ds_of (fun W tk => ps_expr (pe_bm F.plainAttrs_list F.slot_list_append F.type_list_append mt_append (pe_ix ix_seq ho (pe_un un_neg pe_int) hix) (pa_cons hi pa_nil hs) hbase hfew hline hs hplain) hsw) fun _ => by rw [← hK]; exact in_appLast
theorem de_lenOl {e : Expr} (hK : T.K = X.K) (hg : Gl X "len") (hm : X.mg "len" = none) (ha : PE X e (tVar j)) (he : starEach [e] X.env = (false, eval e X.env) :: starEach [] X.env := by rfl) (hpl : (backTo pos (starEach [] X.env)).any (·.1) = false := by rfl) :
    DE T hx X (.Call (.Name "len" p1) [e] [] pos) (mLenOl j) := ⟨fun W tk => PE.imp (pe_callB call_len hg hm boot_len (pa_cons ha pa_nil he) (by decide) (by decide) he hpl) (by rw [← hK]; exact in_lenOl)⟩
theorem de_popTup {e : Expr} (hK : T.K = X.K) (hg : Gl X "tuple") (hm : X.mg "tuple" = none) (ha : PE X e (tVar j)) (hbase : attributeBase e "pop" X.env (eval e X.env) = eval e X.env := by rfl) (hline : (apos.endLine == cpos.line) = true := by rfl)
    (he : starEach [.Call (.Attribute e "pop" apos) [] [] cpos] X.env = (false, eval (.Call (.Attribute e "pop" apos) [] [] cpos) X.env) :: starEach [] X.env := by rfl) (hpl : (backTo pos (starEach [] X.env)).any (·.1) = false := by rfl) :
    DE T hx X (.Call (.Name "tuple" p1) [.Call (.Attribute e "pop" apos) [] [] cpos] [] pos) (mPopTup j) :=
  ⟨fun W tk => PE.imp (pe_callTy call_tuple_of hg hm boot_tuple (pa_cons (pe_bm0 F.plainAttrs_list F.slot_list_pop F.type_list_pop mt_pop ha hbase hline) pa_nil he) (by decide) (by decide) he hpl) (by rw [← hK]; exact in_popTup)⟩
end
end DV

set_option Elab.async false
set_option linter.all false
set_option maxRecDepth 100000
set_option maxHeartbeats 2000000
namespace DV
open PySem PySem.Spec PyProof.Rows L2

@[simp] def SR.seq : SR → MS → SR
  | .next ρ, n => n ρ
  | .ret c ρ, _ => .ret c ρ
  | .brk ρ, _ => .brk ρ
  | .cont ρ, _ => .cont ρ
  | .exc x ρ, _ => .exc x ρ
  | .bad, _ => .bad
@[simp] def R.drp : R Vc → SR
  | .ok _ ρ => .next ρ | .exc x ρ => .exc x ρ | .bad => .bad
@[simp] def R.rt : R Vc → SR
  | .ok c ρ => .ret c ρ | .exc x ρ => .exc x ρ | .bad => .bad
@[simp] def R.ift : R Bool → MS → MS → SR
  | .ok true ρ, m, _ => m ρ | .ok false ρ, _, n => n ρ | .exc x ρ, _, _ => .exc x ρ | .bad, _, _ => .bad
@[simp] def nxt : Option Rho → SR
  | some ρ => .next ρ | none => .bad
@[simp] def R.st (j : Nat) : R Vc → SR
  | .ok c ρ => nxt (setR j c.cell ρ) | .exc x ρ => .exc x ρ | .bad => .bad
@[simp] def R.tg (g : Tgt) : R Vc → SR
  | .ok c ρ => nxt (g c.d ρ) | .exc x ρ => .exc x ρ | .bad => .bad
def setC (j : Nat) (c : Cell) (ρ : Rho) : Option Cell → Option Rho
  | some (.io _) => none
  | some _ => some (ρ.set j c)
  | none => none
@[simp] theorem setC_no {j : Nat} {c : Cell} {ρ : Rho} : setC j c ρ (some .no) = some (ρ.set j c) := rfl
@[simp] theorem setC_fz {j : Nat} {c : Cell} {ρ : Rho} {d : D} : setC j c ρ (some (.fz d)) = some (ρ.set j c) := rfl
@[simp] theorem setC_ow {j : Nat} {c : Cell} {ρ : Rho} {d : D} : setC j c ρ (some (.ow d)) = some (ρ.set j c) := rfl
@[simp] theorem setC_ex {j : Nat} {c : Cell} {ρ : Rho} {d : EX} : setC j c ρ (some (.ex d)) = some (ρ.set j c) := rfl
@[simp] theorem setC_ol {j : Nat} {c : Cell} {ρ : Rho} {d : List (List D)} : setC j c ρ (some (.ol d)) = some (ρ.set j c) := rfl
@[simp] def Cell.ownO : Option Cell → Option D
  | some (.ow d) => some d | some (.io d) => some d | _ => none
@[simp] def Cell.pkO : Option Cell → Option D
  | some (.fz d) => some d | some (.ow d) => some d | some (.io d) => some d | _ => none
@[simp] def varO (j : Nat) (ρ : Rho) : Option Cell → R Vc
  | some (.fz d) => .ok (.fz d) ρ | some (.ow d) => .ok (.fz d) (ρ.set j (.fz d)) | _ => .bad
@[simp] def putO (j : Nat) (d : D) (ρ : Rho) : Option Cell → Rho
  | some c => ρ.set j (c.as d) | none => ρ
@[simp] def retO (j : Nat) (ρ : Rho) : Option Cell → SR
  | some (.fz d) => .ret (.fz d) ρ | some (.ow d) => .ret (.ow d) (ρ.set j .no) | _ => .bad
@[simp] def R.lft (f : D → Option Vc) : R Vc → R Vc
  | .ok a ρ => liftO (f a.d) ρ | .exc x ρ => .exc x ρ | .bad => .bad
@[simp] def R.op2b (f : D → D → Option Vc) (a : Vc) : R Vc → R Vc
  | .ok b ρ => liftO (f a.d b.d) ρ | .exc x ρ => .exc x ρ | .bad => .bad
@[simp] def R.op2 (f : D → D → Option Vc) : R Vc → M Vc → R Vc
  | .ok a ρ, mb => R.op2b f a (mb ρ) | .exc x ρ, _ => .exc x ρ | .bad, _ => .bad
@[simp] def op2O (f : D → D → Option Vc) (d : D) : Option D → Option Vc
  | some e => f e d | none => none
@[simp] def op2P (f : D → D → Option Vc) (d : D) : Option D → Option Vc
  | some e => f d e | none => none
@[simp] def R.op2v (f : D → D → Option Vc) (j : Nat) : R Vc → R Vc
  | .ok b ρ => liftO (op2O f b.d (pk j ρ)) ρ | .exc x ρ => .exc x ρ | .bad => .bad
@[simp] def op2V (f : D → D → Option Vc) (j : Nat) (mb : M Vc) (ρ : Rho) : Option D → R Vc
  | some _ => R.op2v f j (mb ρ) | none => .bad
@[simp] def R.op2w (f : D → D → Option Vc) (j : Nat) : R Vc → R Vc
  | .ok a ρ => liftO (op2P f a.d (pk j ρ)) ρ | .exc x ρ => .exc x ρ | .bad => .bad
@[simp] def R.cons2 (a : D) : R (List AV) → R (List AV)
  | .ok as ρ => .ok (.val a :: as) ρ | .exc x ρ => .exc x ρ | .bad => .bad
@[simp] def R.cons1 : R Vc → M (List AV) → R (List AV)
  | .ok a ρ, mr => R.cons2 a.d (mr ρ) | .exc x ρ, _ => .exc x ρ | .bad, _ => .bad
@[simp] def R.consB (j : Nat) : R (List AV) → R (List AV)
  | .ok as ρ => .ok (.bor j :: as) ρ | .exc x ρ => .exc x ρ | .bad => .bad
@[simp] def borO (j : Nat) (mr : M (List AV)) (ρ : Rho) : Option D → R (List AV)
  | some _ => R.consB j (mr ρ) | none => .bad
@[simp] def capp (f : List D → Option Vc) : Option (List D) → Option Vc
  | some ds => f ds | none => none
@[simp] def R.cb (f : List D → Option Vc) : R (List AV) → R Vc
  | .ok as ρ => liftO (capp f (avs as)) ρ | .exc x ρ => .exc x ρ | .bad => .bad
def tupC (ds : List D) : Option Vc := if ds.length ≤ sizeLine then some (.fz (.tup ds)) else none
def lstC (ds : List D) : Option Vc := if ds.length ≤ sizeLine then some (.ow (.lst ds)) else none
@[simp] def R.tru : R Vc → R Bool
  | .ok a ρ => liftO (truD a.d) ρ | .exc x ρ => .exc x ρ | .bad => .bad
@[simp] def D.test (ρ : Rho) : D → R Bool
  | .bl b => .ok b ρ | _ => .bad
@[simp] def R.tst : R Vc → R Bool
  | .ok a ρ => D.test ρ a.d | .exc x ρ => .exc x ρ | .bad => .bad
@[simp] def R.ng : R Bool → R Bool
  | .ok b ρ => .ok (!b) ρ | .exc x ρ => .exc x ρ | .bad => .bad
@[simp] def R.an : R Bool → M Bool → R Bool
  | .ok true ρ, n => n ρ | .ok false ρ, _ => .ok false ρ | .exc x ρ, _ => .exc x ρ | .bad, _ => .bad
@[simp] def R.orr : R Bool → M Bool → R Bool
  | .ok true ρ, _ => .ok true ρ | .ok false ρ, n => n ρ | .exc x ρ, _ => .exc x ρ | .bad, _ => .bad
@[simp] def anO (a : Vc) (mb : M Vc) (ρ : Rho) : Option Bool → R Vc
  | some true => mb ρ | some false => .ok (.fz a.d) ρ | none => .bad
@[simp] def orO (a : Vc) (mb : M Vc) (ρ : Rho) : Option Bool → R Vc
  | some true => .ok (.fz a.d) ρ | some false => mb ρ | none => .bad
@[simp] def R.anV : R Vc → M Vc → R Vc
  | .ok a ρ, mb => anO a mb ρ (truD a.d) | .exc x ρ, _ => .exc x ρ | .bad, _ => .bad
@[simp] def R.orV : R Vc → M Vc → R Vc
  | .ok a ρ, mb => orO a mb ρ (truD a.d) | .exc x ρ, _ => .exc x ρ | .bad, _ => .bad
@[simp] def R.ifE : R Bool → M Vc → M Vc → R Vc
  | .ok true ρ, m, _ => m ρ | .ok false ρ, _, n => n ρ | .exc x ρ, _, _ => .exc x ρ | .bad, _, _ => .bad
@[simp] def chO (g : D → D → Option Vc) (b : Vc) (mc : M Vc) (ρ : Rho) : Option Vc → R Vc
  | some (.fz (.bl true)) => R.op2b g b (mc ρ) | some (.fz (.bl false)) => .ok (.fz (.bl false)) ρ | _ => .bad
@[simp] def R.ch2 (f g : D → D → Option Vc) (a : Vc) (mc : M Vc) : R Vc → R Vc
  | .ok b ρ => chO g b mc ρ (f a.d b.d) | .exc x ρ => .exc x ρ | .bad => .bad
@[simp] def R.ch1 (f g : D → D → Option Vc) (mb mc : M Vc) : R Vc → R Vc
  | .ok a ρ => R.ch2 f g a mc (mb ρ) | .exc x ρ => .exc x ρ | .bad => .bad
@[simp] def putR (c : Vc) : Option Rho → R Vc
  | some ρ => .ok c ρ | none => .bad
@[simp] def putX (x : EX) : Option Rho → R Vc
  | some ρ => .exc x ρ | none => .bad
@[simp] def FR.back (as : List AV) (ρ : Rho) : FR → R Vc
  | .ok c fin => putR c (putFin as fin ρ) | .exc x fin => putX x (putFin as fin ρ) | .bad => .bad
@[simp] def callO (G : Fn) (as : List AV) (ρ : Rho) : Option (List Cell) → R Vc
  | some cs => FR.back as ρ (G cs) | none => .bad
@[simp] def R.cl (G : Fn) : R (List AV) → R Vc
  | .ok as ρ => callO G as ρ (mkArgs ρ as) | .exc x ρ => .exc x ρ | .bad => .bad
@[simp] def R.meth2 (f : D → List D → Option Vc) (a : Vc) : R (List AV) → R Vc
  | .ok as ρ => liftO (capp (f a.d) (avs as)) ρ | .exc x ρ => .exc x ρ | .bad => .bad
@[simp] def methB (f : D → List D → Option Vc) (a : Vc) (m : M (List AV)) (ρ : Rho) : Bool → R Vc
  | true => R.meth2 f a (m ρ) | false => .bad
@[simp] def R.meth (ty : D → Bool) (f : D → List D → Option Vc) (m : M (List AV)) : R Vc → R Vc
  | .ok a ρ => methB f a m ρ (ty a.d) | .exc x ρ => .exc x ρ | .bad => .bad
@[simp] def prtO (ρ : Rho) : Option Int → R (Option Int)
  | some i => .ok (some i) ρ | none => .bad
@[simp] def R.prt : R Vc → R (Option Int)
  | .ok c ρ => prtO ρ c.d.int? | .exc x ρ => .exc x ρ | .bad => .bad
@[simp] def R.sl3 (a : Vc) (l : Option Int) : R (Option Int) → R Vc
  | .ok u ρ => liftO (opSl a.d l u) ρ | .exc x ρ => .exc x ρ | .bad => .bad
@[simp] def R.sl2 (a : Vc) (hi : Option (M Vc)) : R (Option Int) → R Vc
  | .ok l ρ => R.sl3 a l (mPart hi ρ) | .exc x ρ => .exc x ρ | .bad => .bad
@[simp] def R.sl1 (lo hi : Option (M Vc)) : R Vc → R Vc
  | .ok a ρ => R.sl2 a hi (mPart lo ρ) | .exc x ρ => .exc x ρ | .bad => .bad
@[simp] def R.itm (f : D → Option (List D)) : R Vc → R (List D)
  | .ok a ρ => liftO (f a.d) ρ | .exc x ρ => .exc x ρ | .bad => .bad
@[simp] def R.rg2 (a : D) : R Vc → R (List D)
  | .ok b ρ => liftO (rng2 a b.d) ρ | .exc x ρ => .exc x ρ | .bad => .bad
@[simp] def R.rg1 (mb : M Vc) : R Vc → R (List D)
  | .ok a ρ => R.rg2 a.d (mb ρ) | .exc x ρ => .exc x ρ | .bad => .bad
@[simp] def R.for_ (g : Tgt) (b : MS) : R (List D) → SR
  | .ok ds ρ => forL g b ds ρ | .exc x ρ => .exc x ρ | .bad => .bad
@[simp] def R.lc2 : R (List D) → R Vc
  | .ok acc ρ => .ok (.ow (.lst acc)) ρ | .exc _ _ => .bad | .bad => .bad
@[simp] def lcO (vs : List Nat) (g : Tgt) (mt : M Bool) (me : M Vc) (ds : List D) : Option Rho → R Vc
  | some ρ => R.lc2 (lcL vs g mt me ds [] ρ) | none => .bad
@[simp] def R.lc (vs : List Nat) (g : Tgt) (mt : M Bool) (me : M Vc) : R (List D) → R Vc
  | .ok ds ρ => lcO vs g mt me ds (wipeR vs ρ) | .exc x ρ => .exc x ρ | .bad => .bad
def appD (j : Nat) (c : D) (ρ : Rho) : Option D → SR
  | some (.lst ds) => if ds.length < sizeLine then .next (putC j (.lst (ds ++ [c])) ρ) else .bad
  | _ => .bad
@[simp] def R.app (j : Nat) : R Vc → SR
  | .ok c ρ => appD j c.d ρ (own j ρ) | .exc x ρ => .exc x ρ | .bad => .bad
@[simp] def appO (j : Nat) (m : M Vc) (ρ : Rho) : Option D → SR
  | some (.lst _) => R.app j (m ρ) | _ => .bad
@[simp] def six3 (j : Nat) (ds : List D) (c : D) (ρ : Rho) : Option Nat → SR
  | some p => .next (putC j (.lst (ds.set p c)) ρ) | none => .bad
@[simp] def six2 (j : Nat) (c : D) (ρ : Rho) : Option D → Option Int → SR
  | some (.lst ds), some i => six3 j ds c ρ (ixN ds.length i) | _, _ => .bad
@[simp] def R.six2 (j : Nat) (c : D) : R Vc → SR
  | .ok k ρ => DV.six2 j c ρ (own j ρ) k.d.int? | .exc x ρ => .exc x ρ | .bad => .bad
@[simp] def six1 (j : Nat) (mi : M Vc) (c : D) (ρ : Rho) : Option D → SR
  | some (.lst _) => R.six2 j c (mi ρ) | _ => .bad
@[simp] def R.six (j : Nat) (mi : M Vc) : R Vc → SR
  | .ok c ρ => six1 j mi c.d ρ (own j ρ) | .exc x ρ => .exc x ρ | .bad => .bad
@[simp] def augO (j : Nat) (ρ : Rho) : Option Vc → SR
  | some z => nxt (setR j z.cell ρ) | none => .bad
@[simp] def R.aug (f : D → D → Option Vc) (j : Nat) (d : D) : R Vc → SR
  | .ok c ρ => augO j ρ (f d c.d) | .exc x ρ => .exc x ρ | .bad => .bad
@[simp] def augC (f : D → D → Option Vc) (j : Nat) (m : M Vc) (ρ : Rho) : Option Cell → SR
  | some (.fz d) => R.aug f j d (m ρ) | _ => .bad
def excO (c : Nat) (ns : List Str) (ρ : Rho) : Option (List D) → SR
  | some ds => if ds.length = ns.length ∧ ds.length ≤ 1000 then .exc ⟨c, ns.reverse, ds.reverse⟩ ρ else .bad
  | none => .bad
@[simp] def R.rse (c : Nat) (ns : List Str) : R (List AV) → SR
  | .ok as ρ => excO c ns ρ (avs as) | .exc x ρ => .exc x ρ | .bad => .bad
def appNewO (j : Nat) (ρ : Rho) : Option Cell → SR
  | some (.ol dss) => if dss.length < sizeLine then .next (ρ.set j (.ol (dss ++ [[]]))) else .bad
  | _ => .bad
def appLast2 (j : Nat) (d : D) (ρ : Rho) : Option (List (List D) × List D) → SR
  | some (d0, ds) => if ds.length < sizeLine then .next (ρ.set j (.ol (d0 ++ [ds ++ [d]]))) else .bad
  | none => .bad
@[simp] def appLastO (j : Nat) (ρ : Rho) : Option Cell → Option Cell → SR
  | some (.ol dss), some (.fz d) => appLast2 j d ρ (unsnoc dss) | _, _ => .bad
@[simp] def lenOlO (ρ : Rho) : Option Cell → R Vc
  | some (.ol dss) => .ok (.fz (.int dss.length)) ρ | _ => .bad
@[simp] def popTup2 (j : Nat) (ρ : Rho) : Option (List (List D) × List D) → R Vc
  | some (d0, ds) => .ok (.fz (.tup ds)) (ρ.set j (.ol d0)) | none => .bad
@[simp] def popTupO (j : Nat) (ρ : Rho) : Option Cell → R Vc
  | some (.ol dss) => popTup2 j ρ (unsnoc dss) | _ => .bad
@[simp] def outO (i : Nat) (ρ : Rho) (k : Rho → SR) : Option Cell → SR
  | some _ => if noEx (ρ.set i .no) = true then k (ρ.set i .no) else .bad
  | none => .bad
@[simp] def tryS (i : Nat) (ms : MS) : Option Rho → SR
  | some ρ => sSuite i (ms ρ) | none => .bad
@[simp] def tryC (i : Nat) (x : EX) (ρ : Rho) (ms : MS) : Option Bool → SR
  | some true => tryS i ms (setR i (.ex x) ρ) | some false => .exc x ρ | none => .bad
@[simp] def SR.tr (cat : Nat → Option Bool) (i : Nat) (ms : MS) : SR → SR
  | .exc x ρ => tryC i x ρ ms (cat x.c) | .next ρ => .next ρ | .ret c ρ => .ret c ρ | .brk ρ => .brk ρ | .cont ρ => .cont ρ | .bad => .bad
@[simp] def xfO (f : Str) (ρ : Rho) (okc : Nat → Bool) : Option Cell → R Vc
  | some (.ex x) => if okc x.c = true then liftO (((x.ns.zip x.ds).lookup f).map .fz) ρ else .bad | _ => .bad
@[simp] def xisO (ρ : Rho) (tab : Nat → Option Bool) : Option Cell → R Vc
  | some (.ex x) => liftO ((tab x.c).map fun b => .fz (.bl b)) ρ | _ => .bad
section
variable {m n : MS} {ma mb mc : M Vc} {mt nt : M Bool} {mr : M (List AV)} {mi : M (List D)} {ρ : Rho} {j i : Nat} {f g : D → D → Option Vc} {h : D → Option Vc} {fl : List D → Option Vc} {G : Fn}
@[simp] theorem e_lift {α : Type} {a : α} : liftO (some a) ρ = .ok a ρ := rfl
@[simp] theorem e_lift0 {α : Type} : liftO (none : Option α) ρ = .bad := rfl
@[simp] theorem e_seq : sSeq m n ρ = (m ρ).seq n := by unfold sSeq; cases m ρ <;> rfl
@[simp] theorem e_next : sNext ρ = .next ρ := rfl
@[simp] theorem e_brk : sBrk ρ = .brk ρ := rfl
@[simp] theorem e_cont : sCont ρ = .cont ρ := rfl
@[simp] theorem e_drop : sDrop ma ρ = (ma ρ).drp := by unfold sDrop; cases ma ρ <;> rfl
@[simp] theorem e_ret : sRet ma ρ = (ma ρ).rt := by unfold sRet; cases ma ρ <;> rfl
@[simp] theorem e_retN : sRetN ρ = .ret (.fz .non) ρ := rfl
@[simp] theorem e_retV : sRetV j ρ = retO j ρ ρ[j]? := by unfold sRetV; cases ρ[j]? with
  | none => rfl
  | some c => cases c <;> rfl
@[simp] theorem e_if : sIf mt m n ρ = (mt ρ).ift m n := by unfold sIf; cases mt ρ with
  | ok b ρ => cases b <;> rfl
  | _ => rfl
@[simp] theorem e_setR {c : Cell} : setR j c ρ = setC j c ρ ρ[j]? := by unfold setR; cases ρ[j]? with
  | none => rfl
  | some c => cases c <;> rfl
@[simp] theorem e_set : sSet j ma ρ = (ma ρ).st j := by
  unfold sSet
  cases ma ρ with
  | ok c ρ => show (match setR j c.cell ρ with | some ρ2 => SR.next ρ2 | none => .bad) = nxt (setR j c.cell ρ); cases setR j c.cell ρ <;> rfl
  | _ => rfl
@[simp] theorem e_asg {t : Tgt} : sAsg t ma ρ = (ma ρ).tg t := by
  unfold sAsg
  cases ma ρ with
  | ok c ρ => show (match t c.d ρ with | some ρ2 => SR.next ρ2 | none => .bad) = nxt (t c.d ρ); cases t c.d ρ <;> rfl
  | _ => rfl
@[simp] theorem e_gSet {d : D} : gSet j d ρ = setR j (.fz d) ρ := rfl
@[simp] theorem e_own : own j ρ = Cell.ownO ρ[j]? := by unfold own; cases ρ[j]? with
  | none => rfl
  | some c => cases c <;> rfl
@[simp] theorem e_pk : pk j ρ = Cell.pkO ρ[j]? := by unfold pk; cases ρ[j]? with
  | none => rfl
  | some c => cases c <;> rfl
@[simp] theorem e_put {d : D} : putC j d ρ = putO j d ρ ρ[j]? := by unfold putC; cases ρ[j]? <;> rfl
@[simp] theorem e_pure {d : D} : mPure d ρ = .ok (.fz d) ρ := rfl
@[simp] theorem e_var : mVar j ρ = varO j ρ ρ[j]? := by unfold mVar; cases ρ[j]? with
  | none => rfl
  | some c => cases c <;> rfl
@[simp] theorem e_un : mUn h ma ρ = (ma ρ).lft h := by unfold mUn; cases ma ρ <;> rfl
@[simp] theorem e_op2 : mOp2 f ma mb ρ = (ma ρ).op2 f mb := by
  unfold mOp2
  cases ma ρ with
  | ok a ρ1 => show (mb ρ1).bind _ = R.op2b f a (mb ρ1); cases mb ρ1 <;> rfl
  | _ => rfl
@[simp] theorem e_op2V : mOp2V f j mb ρ = op2V f j mb ρ (pk j ρ) := by
  unfold mOp2V
  cases pk j ρ with
  | none => rfl
  | some d =>
    show (mb ρ).bind _ = R.op2v f j (mb ρ)
    cases mb ρ with
    | ok b ρ2 => show liftO ((pk j ρ2).bind fun d => f d b.d) ρ2 = liftO (op2O f b.d (pk j ρ2)) ρ2; cases pk j ρ2 <;> rfl
    | _ => rfl
@[simp] theorem e_op2W : mOp2W f ma j ρ = (ma ρ).op2w f j := by
  unfold mOp2W
  cases ma ρ with
  | ok a ρ2 => show liftO ((pk j ρ2).bind fun d => f a.d d) ρ2 = liftO (op2P f a.d (pk j ρ2)) ρ2; cases pk j ρ2 <;> rfl
  | _ => rfl
@[simp] theorem e_nil : mAnil ρ = .ok [] ρ := rfl
@[simp] theorem e_cons : mAcons ma mr ρ = (ma ρ).cons1 mr := by
  unfold mAcons
  cases ma ρ with
  | ok a ρ1 => show (mr ρ1).bind _ = R.cons2 a.d (mr ρ1); cases mr ρ1 <;> rfl
  | _ => rfl
@[simp] theorem e_bor : mAbor j mr ρ = borO j mr ρ (pk j ρ) := by
  unfold mAbor
  cases pk j ρ with
  | none => rfl
  | some d => show (mr ρ).bind _ = R.consB j (mr ρ); cases mr ρ <;> rfl
@[simp] theorem e_avs0 : avs [] = some [] := rfl
@[simp] theorem e_avs1 {d : D} {as : List AV} : avs (.val d :: as) = (avs as).map (d :: ·) := rfl
@[simp] theorem e_cb : mCB fl mr ρ = (mr ρ).cb fl := by
  unfold mCB
  cases mr ρ with
  | ok as ρ1 => show liftO ((avs as).bind fl) ρ1 = liftO (capp fl (avs as)) ρ1; cases avs as <;> rfl
  | _ => rfl
@[simp] theorem e_cbV : mCBV fl j ρ = liftO (capp fl ((pk j ρ).map fun d => [d])) ρ := by unfold mCBV; cases pk j ρ <;> rfl
@[simp] theorem e_tup : mTup mr ρ = (mr ρ).cb tupC := by
  unfold mTup
  cases mr ρ with
  | ok as ρ1 => show liftO ((avs as).bind tupC) ρ1 = liftO (capp tupC (avs as)) ρ1; cases avs as <;> rfl
  | _ => rfl
@[simp] theorem e_lst : mLst mr ρ = (mr ρ).cb lstC := by
  unfold mLst
  cases mr ρ with
  | ok as ρ1 => show liftO ((avs as).bind lstC) ρ1 = liftO (capp lstC (avs as)) ρ1; cases avs as <;> rfl
  | _ => rfl
@[simp] theorem e_ife : mIf mt ma mb ρ = (mt ρ).ifE ma mb := by unfold mIf; cases mt ρ with
  | ok b ρ => cases b <;> rfl
  | _ => rfl
@[simp] theorem e_tru : mTru ma ρ = (ma ρ).tru := by unfold mTru; cases ma ρ <;> rfl
@[simp] theorem e_truV : mTruV j ρ = liftO ((pk j ρ).bind truD) ρ := rfl
@[simp] theorem e_test : mTest ma ρ = (ma ρ).tst := by
  unfold mTest
  cases ma ρ with
  | ok a ρ1 => show (match a.d with | .bl b => R.ok b ρ1 | _ => .bad) = D.test ρ1 a.d; cases a.d <;> rfl
  | _ => rfl
@[simp] theorem e_not : mNot mt ρ = (mt ρ).ng := by unfold mNot; cases mt ρ <;> rfl
@[simp] theorem e_and : mAnd mt nt ρ = (mt ρ).an nt := by unfold mAnd; cases mt ρ with
  | ok b ρ => cases b <;> rfl
  | _ => rfl
@[simp] theorem e_or : mOr mt nt ρ = (mt ρ).orr nt := by unfold mOr; cases mt ρ with
  | ok b ρ => cases b <;> rfl
  | _ => rfl
@[simp] theorem e_andV : mAndV ma mb ρ = (ma ρ).anV mb := by
  unfold mAndV
  cases ma ρ with
  | ok a ρ1 =>
    show (match truD a.d with | some true => mb ρ1 | some false => .ok (.fz a.d) ρ1 | none => .bad) = anO a mb ρ1 (truD a.d)
    cases truD a.d with
    | none => rfl
    | some b => cases b <;> rfl
  | _ => rfl
@[simp] theorem e_orV : mOrV ma mb ρ = (ma ρ).orV mb := by
  unfold mOrV
  cases ma ρ with
  | ok a ρ1 =>
    show (match truD a.d with | some true => .ok (.fz a.d) ρ1 | some false => mb ρ1 | none => .bad) = orO a mb ρ1 (truD a.d)
    cases truD a.d with
    | none => rfl
    | some b => cases b <;> rfl
  | _ => rfl
@[simp] theorem e_chain : mChain f g ma mb mc ρ = (ma ρ).ch1 f g mb mc := by
  unfold mChain
  cases ma ρ with
  | ok a ρ1 =>
    show (mb ρ1).bind _ = R.ch2 f g a mc (mb ρ1)
    cases mb ρ1 with
    | ok b ρ2 =>
      show (match f a.d b.d with | some (.fz (.bl true)) => _ | some (.fz (.bl false)) => _ | _ => _) = chO g b mc ρ2 (f a.d b.d)
      cases f a.d b.d with
      | none => rfl
      | some v =>
        cases v with
        | ow d => rfl
        | fz d =>
          cases d with
          | bl k => cases k with
            | true => show (mc ρ2).bind _ = R.op2b g b (mc ρ2); cases mc ρ2 <;> rfl
            | false => rfl
          | _ => rfl
    | _ => rfl
  | _ => rfl
@[simp] theorem e_mk0 : mkArgs ρ [] = some [] := rfl
@[simp] def mkC (d : D) : Option (List Cell) → Option (List Cell)
  | some cs => some (.fz d :: cs) | none => none
@[simp] theorem e_mk1 {d : D} {as : List AV} : mkArgs ρ (.val d :: as) = mkC d (mkArgs ρ as) := by
  show (match mkArgs ρ as with | some cs => some (Cell.fz d :: cs) | none => none) = _
  cases mkArgs ρ as <;> rfl
@[simp] def mkB : Option D → Option (List D) → Option (List Cell)
  | some d, some ds => some (.io d :: ds.map .fz) | _, _ => none
@[simp] theorem e_mk2 {as : List AV} : mkArgs ρ (.bor j :: as) = mkB (own j ρ) (avs as) := by
  show (match own j ρ, avs as with | some d, some ds => some (Cell.io d :: ds.map .fz) | _, _ => none) = _
  cases own j ρ <;> cases avs as <;> rfl
@[simp] theorem e_pf0 {fin : Rho} : putFin [] fin ρ = some ρ := rfl
@[simp] theorem e_pf1 {d : D} {as : List AV} {fin : Rho} : putFin (.val d :: as) fin ρ = putFin as fin.tail ρ := rfl
@[simp] theorem e_pf2 {d : D} {as : List AV} {fin : Rho} : putFin (.bor j :: as) (.io d :: fin) ρ = some (putC j d ρ) := rfl
@[simp] theorem e_call : mCall G mr ρ = (mr ρ).cl G := by
  unfold mCall
  cases mr ρ with
  | ok as ρ1 =>
    show (match mkArgs ρ1 as with | some cs => _ | none => _) = callO G as ρ1 (mkArgs ρ1 as)
    cases mkArgs ρ1 as with
    | none => rfl
    | some cs =>
      show (match G cs with | .ok c fin => _ | .exc x fin => _ | .bad => _) = FR.back as ρ1 (G cs)
      cases G cs with
      | ok c fin => show (match putFin as fin ρ1 with | some ρ2 => R.ok c ρ2 | none => .bad) = putR c (putFin as fin ρ1); cases putFin as fin ρ1 <;> rfl
      | exc x fin => show (match putFin as fin ρ1 with | some ρ2 => R.exc x ρ2 | none => .bad) = putX x (putFin as fin ρ1); cases putFin as fin ρ1 <;> rfl
      | bad => rfl
  | _ => rfl
@[simp] theorem e_meth {ty : D → Bool} {fm : D → List D → Option Vc} : mMeth ty fm ma mr ρ = (ma ρ).meth ty fm mr := by
  unfold mMeth
  cases ma ρ with
  | ok a ρ1 =>
    show (if ty a.d = true then _ else _) = methB fm a mr ρ1 (ty a.d)
    cases ty a.d with
    | true =>
      show (mr ρ1).bind _ = R.meth2 fm a (mr ρ1)
      cases mr ρ1 with
      | ok as ρ2 => show liftO ((avs as).bind fun ds => fm a.d ds) ρ2 = liftO (capp (fm a.d) (avs as)) ρ2; cases avs as <;> rfl
      | _ => rfl
    | false => rfl
  | _ => rfl
@[simp] theorem e_part0 : mPart none ρ = .ok none ρ := rfl
@[simp] theorem e_part1 : mPart (some ma) ρ = (ma ρ).prt := by
  show (ma ρ).bind _ = _
  cases ma ρ with
  | ok c ρ1 => show (match c.d.int? with | some i => R.ok (some i) ρ1 | none => .bad) = prtO ρ1 c.d.int?; cases c.d.int? <;> rfl
  | _ => rfl
@[simp] theorem e_sl {lo hi : Option (M Vc)} : mSl ma lo hi ρ = (ma ρ).sl1 lo hi := by
  unfold mSl
  cases ma ρ with
  | ok a ρ1 =>
    show (mPart lo ρ1).bind _ = R.sl2 a hi (mPart lo ρ1)
    cases mPart lo ρ1 with
    | ok l ρ2 => show (mPart hi ρ2).bind _ = R.sl3 a l (mPart hi ρ2); cases mPart hi ρ2 <;> rfl
    | _ => rfl
  | _ => rfl
@[simp] theorem e_iter : mIter ma ρ = (ma ρ).itm itemsD := by unfold mIter; cases ma ρ <;> rfl
@[simp] theorem e_range1 : mRange1 ma ρ = (ma ρ).itm rng1 := by unfold mRange1; cases ma ρ <;> rfl
@[simp] theorem e_range2 : mRange2 ma mb ρ = (ma ρ).rg1 mb := by
  unfold mRange2
  cases ma ρ with
  | ok a ρ1 => show (mb ρ1).bind _ = R.rg2 a.d (mb ρ1); cases mb ρ1 <;> rfl
  | _ => rfl
@[simp] theorem e_yes : mYes ρ = .ok true ρ := rfl
@[simp] theorem e_for {t : Tgt} : sFor t mi m ρ = (mi ρ).for_ t m := by unfold sFor; cases mi ρ <;> rfl
@[simp] theorem e_lc {vs : List Nat} {t : Tgt} : mLc vs mi t mt ma ρ = (mi ρ).lc vs t mt ma := by
  unfold mLc
  cases mi ρ with
  | ok ds ρ1 =>
    show (match wipeR vs ρ1 with | some ρ2 => _ | none => _) = lcO vs t mt ma ds (wipeR vs ρ1)
    cases wipeR vs ρ1 with
    | none => rfl
    | some ρ2 => show (match lcL vs t mt ma ds [] ρ2 with | .ok acc ρ3 => R.ok (.ow (.lst acc)) ρ3 | _ => .bad) = R.lc2 (lcL vs t mt ma ds [] ρ2); cases lcL vs t mt ma ds [] ρ2 <;> rfl
  | _ => rfl
@[simp] theorem e_append : sAppend j ma ρ = appO j ma ρ (own j ρ) := by
  unfold sAppend
  cases own j ρ with
  | none => rfl
  | some d =>
    cases d with
    | lst ds =>
      show (match ma ρ with | .ok c ρ1 => _ | .exc x ρ => .exc x ρ | .bad => .bad) = R.app j (ma ρ)
      cases ma ρ with
      | ok c ρ1 =>
        show (match own j ρ1 with | some (.lst ds) => _ | _ => _) = appD j c.d ρ1 (own j ρ1)
        cases own j ρ1 with
        | none => rfl
        | some d => cases d <;> rfl
      | _ => rfl
    | _ => rfl
@[simp] theorem e_setIx {mx : M Vc} : sSetIx j mx ma ρ = (ma ρ).six j mx := by
  unfold sSetIx
  cases ma ρ with
  | ok c ρ1 =>
    show (match own j ρ1 with | some (.lst _) => _ | _ => _) = six1 j mx c.d ρ1 (own j ρ1)
    cases own j ρ1 with
    | none => rfl
    | some d =>
      cases d with
      | lst ds =>
        show (match mx ρ1 with | .ok k ρ2 => _ | .exc x ρ => .exc x ρ | .bad => .bad) = R.six2 j c.d (mx ρ1)
        cases mx ρ1 with
        | ok k ρ2 =>
          show (match own j ρ2, k.d.int? with | some (.lst ds), some i => _ | _, _ => _) = DV.six2 j c.d ρ2 (own j ρ2) k.d.int?
          cases own j ρ2 with
          | none => cases k.d.int? <;> rfl
          | some d =>
            cases k.d.int? with
            | none => cases d <;> rfl
            | some i =>
              cases d with
              | lst ds => show (match ixN ds.length i with | some p => _ | none => _) = six3 j ds c.d ρ2 (ixN ds.length i); cases ixN ds.length i <;> rfl
              | _ => rfl
        | _ => rfl
      | _ => rfl
  | _ => rfl
@[simp] theorem e_aug : sAug f j ma ρ = augC f j ma ρ ρ[j]? := by
  unfold sAug
  cases ρ[j]? with
  | none => rfl
  | some q =>
    cases q with
    | fz d =>
      show (match ma ρ with | .ok c ρ1 => _ | .exc x ρ => .exc x ρ | .bad => .bad) = R.aug f j d (ma ρ)
      cases ma ρ with
      | ok c ρ1 =>
        show (match f d c.d with | some z => _ | none => _) = augO j ρ1 (f d c.d)
        cases f d c.d with
        | none => rfl
        | some z => show (match setR j z.cell ρ1 with | some ρ2 => SR.next ρ2 | none => .bad) = nxt (setR j z.cell ρ1); cases setR j z.cell ρ1 <;> rfl
      | _ => rfl
    | _ => rfl
@[simp] theorem e_raise {c : Nat} {ns : List Str} : sRaise c ns mr ρ = (mr ρ).rse c ns := by
  unfold sRaise
  cases mr ρ with
  | ok as ρ1 => show (match avs as with | some ds => _ | none => _) = excO c ns ρ1 (avs as); cases avs as <;> rfl
  | _ => rfl
@[simp] theorem e_raise0 {c : Nat} : sRaise0 c ρ = .exc ⟨c, [], []⟩ ρ := rfl
@[simp] theorem e_newOl : sNewOl i ρ = nxt (setR i (.ol []) ρ) := by unfold sNewOl; cases setR i (.ol []) ρ <;> rfl
@[simp] theorem e_appNew : sAppNew j ρ = appNewO j ρ ρ[j]? := by
  unfold sAppNew
  cases ρ[j]? with
  | none => rfl
  | some c => cases c <;> rfl
@[simp] theorem e_appLast : sAppLast j i ρ = appLastO j ρ ρ[j]? ρ[i]? := by
  unfold sAppLast
  cases ρ[j]? with
  | none => cases ρ[i]? <;> rfl
  | some c =>
    cases c with
    | ol dss =>
      cases ρ[i]? with
      | none => rfl
      | some c2 =>
        cases c2 with
        | fz d =>
          show (match unsnoc dss with | some (d0, ds) => _ | none => _) = appLast2 j d ρ (unsnoc dss)
          cases unsnoc dss with
          | none => rfl
          | some p => cases p; rfl
        | _ => rfl
    | _ => cases ρ[i]? <;> rfl
@[simp] theorem e_lenOl : mLenOl j ρ = lenOlO ρ ρ[j]? := by
  unfold mLenOl
  cases ρ[j]? with
  | none => rfl
  | some c => cases c <;> rfl
@[simp] theorem e_popTup : mPopTup j ρ = popTupO j ρ ρ[j]? := by
  unfold mPopTup
  cases ρ[j]? with
  | none => rfl
  | some c =>
    cases c with
    | ol dss =>
      show (match unsnoc dss with | some (d0, ds) => _ | none => _) = popTup2 j ρ (unsnoc dss)
      cases unsnoc dss with
      | none => rfl
      | some p => cases p; rfl
    | _ => rfl
@[simp] theorem e_out {k : Rho → SR} : outEx i ρ k = outO i ρ k ρ[i]? := by unfold outEx; cases ρ[i]? <;> rfl
@[simp] theorem e_su1 : sSuite i (.next ρ) = outEx i ρ .next := rfl
@[simp] theorem e_su2 {c : Vc} : sSuite i (.ret c ρ) = outEx i ρ (.ret c) := rfl
@[simp] theorem e_try {cat : Nat → Option Bool} : sTry cat i m n ρ = (m ρ).tr cat i n := by
  unfold sTry
  cases m ρ with
  | exc x ρ1 =>
    show (match cat x.c with | some true => _ | some false => _ | none => _) = tryC i x ρ1 n (cat x.c)
    cases cat x.c with
    | none => rfl
    | some b =>
      cases b with
      | true => show (match setR i (.ex x) ρ1 with | some ρ2 => _ | none => _) = tryS i n (setR i (.ex x) ρ1); cases setR i (.ex x) ρ1 <;> rfl
      | false => rfl
  | _ => rfl
@[simp] theorem e_xf {okc : Nat → Bool} {fs : Str} : mXf i okc fs ρ = xfO fs ρ okc ρ[i]? := by
  unfold mXf
  cases ρ[i]? with
  | none => rfl
  | some c =>
    cases c with
    | ex x =>
      show (if okc x.c = true then _ else _) = (if okc x.c = true then _ else _)
      cases okc x.c with
      | true => show (match (x.ns.zip x.ds).lookup fs with | some d => R.ok (.fz d) ρ | none => .bad) = liftO (((x.ns.zip x.ds).lookup fs).map Vc.fz) ρ; cases (x.ns.zip x.ds).lookup fs <;> rfl
      | false => rfl
    | _ => rfl
@[simp] theorem e_xis {tab : Nat → Option Bool} : mXis i tab ρ = xisO ρ tab ρ[i]? := by
  unfold mXis
  cases ρ[i]? with
  | none => rfl
  | some c =>
    cases c with
    | ex x => show (match tab x.c with | some b => R.ok (.fz (.bl b)) ρ | none => .bad) = liftO ((tab x.c).map fun b => Vc.fz (.bl b)) ρ; cases tab x.c <;> rfl
    | _ => rfl
end
@[simp] def SR.fn (np : Nat) (cs : List Cell) : SR → FR
  | .next ρ => if ioKeep cs ρ then .ok (.fz .non) (ρ.take np) else .bad
  | .ret c ρ => if ioKeep cs ρ then .ok c (ρ.take np) else .bad
  | .exc x ρ => if ioKeep cs ρ then .exc x (ρ.take np) else .bad
  | .brk _ => .bad | .cont _ => .bad | .bad => .bad
theorem runF_eq {np N : Nat} {m : MS} {cs : List Cell} (h : cs.length = np ∧ np ≤ N ∧ cs.all argOk = true) : runF np N m cs = (m (cs ++ List.replicate (N - np) .no)).fn np cs := by
  unfold runF
  rw [if_pos h]
  cases m (cs ++ List.replicate (N - np) .no) <;> rfl
@[simp] theorem ioKeep_nil {ρ : Rho} : ioKeep [] ρ = true := by cases ρ <;> rfl
@[simp] theorem ioKeep_io {d e : D} {cs ρ : List Cell} : ioKeep (.io d :: cs) (.io e :: ρ) = ioKeep cs ρ := rfl
@[simp] theorem ioKeep_fz {d : D} {c : Cell} {cs ρ : List Cell} : ioKeep (.fz d :: cs) (c :: ρ) = ioKeep cs ρ := by cases c <;> rfl
section
variable {c : M Bool} {b : MS} {ρ ρ1 ρ2 : Rho}
theorem sWhile_step (h1 : c ρ = .ok true ρ1) (h2 : b ρ1 = .next ρ2 ∨ b ρ1 = .cont ρ2) : sWhile c b ρ = sWhile c b ρ2 := by
  have key : ∀ n, whileN c b (n + 1) ρ = whileN c b n ρ2 := fun n => by
    rcases h2 with h2 | h2
    · show (match c ρ with | .ok true ρ1 => (match b ρ1 with | .next ρ2 => whileN c b n ρ2 | .cont ρ2 => whileN c b n ρ2 | .brk ρ2 => .next ρ2 | r => r) | .ok false ρ1 => .next ρ1 | .exc x ρ1 => .exc x ρ1 | .bad => .bad) = _
      rw [h1]; show (match b ρ1 with | .next ρ2 => whileN c b n ρ2 | .cont ρ2 => whileN c b n ρ2 | .brk ρ2 => .next ρ2 | r => r) = _
      rw [h2]
    · show (match c ρ with | .ok true ρ1 => (match b ρ1 with | .next ρ2 => whileN c b n ρ2 | .cont ρ2 => whileN c b n ρ2 | .brk ρ2 => .next ρ2 | r => r) | .ok false ρ1 => .next ρ1 | .exc x ρ1 => .exc x ρ1 | .bad => .bad) = _
      rw [h1]; show (match b ρ1 with | .next ρ2 => whileN c b n ρ2 | .cont ρ2 => whileN c b n ρ2 | .brk ρ2 => .next ρ2 | r => r) = _
      rw [h2]
  by_cases h : ∃ n, whileN c b n ρ2 ≠ .bad
  · obtain ⟨n, hn⟩ := h
    rw [sWhile_of (n := n) rfl hn]
    exact sWhile_of (n := n + 1) (key n) hn
  · have h0 : ¬ ∃ n, whileN c b n ρ ≠ .bad := fun ⟨n, hn⟩ => by
      cases n with
      | zero => exact hn rfl
      | succ n => exact h ⟨n, by rw [← key n]; exact hn⟩
    unfold sWhile
    rw [dif_neg h, dif_neg h0]
theorem sWhile_stop (h1 : c ρ = .ok false ρ1) : sWhile c b ρ = .next ρ1 := sWhile_of (n := 1) (by unfold whileN; rw [h1]) (fun z => nomatch z)
theorem sWhile_out {r : SR} (h1 : c ρ = .ok true ρ1) (h2 : b ρ1 = r) (h3 : (∃ v ρ', r = .ret v ρ') ∨ ∃ x ρ', r = .exc x ρ') : sWhile c b ρ = r := by
  refine sWhile_of (n := 1) ?_ ?_
  · unfold whileN
    rw [h1]
    show (match b ρ1 with | .next ρ2 => whileN c b 0 ρ2 | .cont ρ2 => whileN c b 0 ρ2 | .brk ρ2 => SR.next ρ2 | r => r) = _
    rw [h2]
    rcases h3 with ⟨_, _, rfl⟩ | ⟨_, _, rfl⟩ <;> rfl
  · rcases h3 with ⟨_, _, rfl⟩ | ⟨_, _, rfl⟩ <;> exact fun z => nomatch z
end
end DV
namespace DV
open PySem PySem.Spec PyProof.Rows L2
@[simp] noncomputable def SR.loop (c : M Bool) (b : MS) : SR → SR
  | .next ρ => sWhile c b ρ | .cont ρ => sWhile c b ρ | .brk ρ => .next ρ | .ret v ρ => .ret v ρ | .exc x ρ => .exc x ρ | .bad => .bad
theorem sWhile_unf {c : M Bool} {b : MS} {ρ ρ1 : Rho} (h : c ρ = .ok true ρ1) : sWhile c b ρ = SR.loop c b (b ρ1) := by
  cases e : b ρ1 with
  | next ρ2 => exact sWhile_step h (.inl e)
  | cont ρ2 => exact sWhile_step h (.inr e)
  | ret v ρ2 => exact sWhile_out h e (.inl ⟨_, _, rfl⟩)
  | exc x ρ2 => exact sWhile_out h e (.inr ⟨_, _, rfl⟩)
  | brk ρ2 =>
    refine sWhile_of (n := 1) ?_ (fun z => nomatch z)
    unfold whileN
    rw [h]
    show (match b ρ1 with | .next ρ2 => whileN c b 0 ρ2 | .cont ρ2 => whileN c b 0 ρ2 | .brk ρ2 => SR.next ρ2 | r => r) = _
    rw [e]
    rfl
  | bad =>
    have h0 : ¬ ∃ n, whileN c b n ρ ≠ .bad := fun ⟨n, hn⟩ => by
      cases n with
      | zero => exact hn rfl
      | succ n =>
        refine hn ?_
        unfold whileN
        rw [h]
        show (match b ρ1 with | .next ρ2 => whileN c b n ρ2 | .cont ρ2 => whileN c b n ρ2 | .brk ρ2 => SR.next ρ2 | r => r) = _
        rw [e]
    unfold sWhile
    rw [dif_neg h0]
    first | rfl | simp
def oc : Option D → Cell
  | none => .no | some d => .fz d
@[simp] theorem setC_oc {j : Nat} {c : Cell} {ρ : Rho} {o : Option D} : setC j c ρ (some (oc o)) = some (ρ.set j c) := by cases o <;> rfl
theorem oc_some {d : D} : Cell.fz d = oc (some d) := rfl
end DV
namespace DV
@[simp] theorem truD_bl {b : Bool} : truD (.bl b) = some b := rfl
@[simp] theorem truD_non : truD .non = some false := rfl
@[simp] theorem truD_int {i : Int} : truD (.int i) = some (i != 0) := rfl
@[simp] theorem truD_tup {ds : List D} : truD (.tup ds) = some (!ds.isEmpty) := rfl
@[simp] theorem truD_lst {ds : List D} : truD (.lst ds) = some (!ds.isEmpty) := rfl
end DV
namespace DV
open PySem PySem.Spec PyProof.Rows L2
@[simp] def SR.fk (g : Tgt) (b : MS) (ds : List D) : SR → SR
  | .next ρ => forL g b ds ρ | .cont ρ => forL g b ds ρ | .brk ρ => .next ρ | .ret c ρ => .ret c ρ | .exc x ρ => .exc x ρ | .bad => .bad
@[simp] def forG (g : Tgt) (b : MS) (ds : List D) : Option Rho → SR
  | none => .bad | some ρ => (b ρ).fk g b ds
theorem forL_nil {g : Tgt} {b : MS} {ρ : Rho} : forL g b [] ρ = .next ρ := rfl
theorem forL_cons {g : Tgt} {b : MS} {d : D} {ds : List D} {ρ : Rho} : forL g b (d :: ds) ρ = forG g b ds (g d ρ) := by
  show (match g d ρ with | none => SR.bad | some ρ1 => _) = _
  cases g d ρ with
  | none => rfl
  | some ρ1 =>
    show (match b ρ1 with | .next ρ2 => forL g b ds ρ2 | .cont ρ2 => forL g b ds ρ2 | .brk ρ2 => SR.next ρ2 | r => r) = (b ρ1).fk g b ds
    cases b ρ1 <;> rfl
@[simp] def lcB (vs : List Nat) (g : Tgt) (mt : M Bool) (me : M Vc) (ds acc : List D) (c : Vc) : Option Rho → R (List D)
  | some ρ => lcL vs g mt me ds (acc ++ [c.d]) ρ | none => .bad
@[simp] def lcN (vs : List Nat) (g : Tgt) (mt : M Bool) (me : M Vc) (ds acc : List D) : Option Rho → R (List D)
  | some ρ => lcL vs g mt me ds acc ρ | none => .bad
def R.lcE (vs : List Nat) (g : Tgt) (mt : M Bool) (me : M Vc) (ds acc : List D) : R Vc → R (List D)
  | .ok c ρ => if acc.length < sizeLine then lcB vs g mt me ds acc c (wipeR vs ρ) else .bad
  | .exc x ρ => .exc x ρ | .bad => .bad
@[simp] def R.lcT (vs : List Nat) (g : Tgt) (mt : M Bool) (me : M Vc) (ds acc : List D) : R Bool → R (List D)
  | .ok true ρ => R.lcE vs g mt me ds acc (me ρ)
  | .ok false ρ => lcN vs g mt me ds acc (wipeR vs ρ)
  | .exc x ρ => .exc x ρ | .bad => .bad
@[simp] def lcG (vs : List Nat) (g : Tgt) (mt : M Bool) (me : M Vc) (ds acc : List D) : Option Rho → R (List D)
  | none => .bad | some ρ => R.lcT vs g mt me ds acc (mt ρ)
theorem lcL_nil {vs : List Nat} {g : Tgt} {mt : M Bool} {me : M Vc} {acc : List D} {ρ : Rho} : lcL vs g mt me [] acc ρ = .ok acc ρ := rfl
theorem lcL_cons {vs : List Nat} {g : Tgt} {mt : M Bool} {me : M Vc} {d : D} {ds acc : List D} {ρ : Rho} : lcL vs g mt me (d :: ds) acc ρ = lcG vs g mt me ds acc (g d ρ) := by
  conv => lhs; unfold lcL
  cases g d ρ with
  | none => rfl
  | some ρ1 =>
    show (mt ρ1).bind _ = R.lcT vs g mt me ds acc (mt ρ1)
    cases mt ρ1 with
    | ok b ρ2 =>
      cases b with
      | true =>
        show (me ρ2).bind _ = R.lcE vs g mt me ds acc (me ρ2)
        cases me ρ2 with
        | ok c ρ3 =>
          show (if acc.length < sizeLine then _ else _) = (if acc.length < sizeLine then _ else _)
          by_cases hz : acc.length < sizeLine
          · rw [if_pos hz, if_pos hz]; cases wipeR vs ρ3 <;> rfl
          · rw [if_neg hz, if_neg hz]
        | _ => rfl
      | false => show (match wipeR vs ρ2 with | some ρ4 => _ | none => _) = lcN vs g mt me ds acc (wipeR vs ρ2); cases wipeR vs ρ2 <;> rfl
    | _ => rfl
@[simp] theorem wipe0 {ρ : Rho} : wipeR [] ρ = some ρ := rfl
end DV

set_option Elab.async false
set_option linter.all false
set_option maxRecDepth 100000
set_option maxHeartbeats 4000000
namespace LW
open PySem PySem.Spec PyProof.Rows L2 DV
def top (i : Nat) : Stmt := PySem.Challenge.pw_aimstoldback_k00_term_texts.main.body.getD i (.Pass ⟨0, 0, 0, 0⟩)

def cn : Nat → Str
  | 0 => "ChoosersError"
  | 1 => "InvalidText"
  | 2 => "InvalidTerm"
  | _ => ""

def mkT (K : PySem.W.Frag) : Tb := ⟨K, fun c => He.ga K (cn c), fun _ => 0⟩

def C_DIGITS : D := .str "0123456789"
def C_LETTERS : D := .str "abcdefghijklmnopqrstuvwxyz"
def C_MOST_DEPTH : D := .int 30
def C_MOST_DIGITS : D := .int 9
def C_MOST_LETTERS : D := .int 12
def C_MOST_NUMBER : D := .int 999999999
def cat_ChoosersError : Nat → Option Bool
  | 0 => some true
  | 1 => some true
  | 2 => some true
  | _ => none
def cat_InvalidText : Nat → Option Bool
  | 0 => some false
  | 1 => some true
  | 2 => some false
  | _ => none
def isT_ChoosersError : Nat → Option Bool
  | 0 => some true
  | 1 => some true
  | 2 => some true
  | _ => none
def isT_InvalidTerm : Nat → Option Bool
  | 0 => some false
  | 1 => some false
  | 2 => some true
  | _ => none
def isT_ValueError : Nat → Option Bool
  | 0 => some true
  | 1 => some true
  | 2 => some true
  | _ => none
def okc_path : Nat → Bool
  | 2 => true
  | _ => false
def okc_position : Nat → Bool
  | 1 => true
  | _ => false

abbrev s_is_word : Stmt := top 11
abbrev N_is_word : List Str := ["item", "sign"]
abbrev P_is_word : List Str := ["item"]
theorem sc_is_word : FnScope N_is_word P_is_word (defScope s_is_word) := ⟨rfl, rfl, rfl, by decide +kernel, rfl, by decide +kernel, by decide +kernel⟩
noncomputable def m_is_word : MS :=
  sSeq (sIf (mOr (mNot (mTru (mCB fIsi (mAcons (mVar 0) (mAcons (mPure (.ty "str")) (mAnil)))))) (mOr (mTest (mOp2 opEq (mVar 0) (mPure (.str "")))) (mTest (mOp2 opGt (mCB fLen (mAcons (mVar 0) (mAnil))) (mPure C_MOST_LETTERS))))) (sRet (mPure (.bl false))) (sNext)) (sSeq (sFor (gSet 1) (mIter (mVar 0)) (sIf (mTest (mOp2 opNotIn (mVar 1) (mPure C_LETTERS))) (sRet (mPure (.bl false))) (sNext))) (sRet (mPure (.bl true))))
noncomputable def F_is_word : Fn := runF 1 2 m_is_word

abbrev s_is_number : Stmt := top 12
abbrev N_is_number : List Str := ["item"]
abbrev P_is_number : List Str := ["item"]
theorem sc_is_number : FnScope N_is_number P_is_number (defScope s_is_number) := ⟨rfl, rfl, rfl, by decide +kernel, rfl, by decide +kernel, by decide +kernel⟩
noncomputable def m_is_number : MS :=
  sRet (mAndV (mCB fIsi (mAcons (mVar 0) (mAcons (mPure (.ty "int")) (mAnil)))) (mChain opLe opLe (mPure (.int 0)) (mVar 0) (mPure C_MOST_NUMBER)))
noncomputable def F_is_number : Fn := runF 1 1 m_is_number

abbrev s_write_part : Stmt := top 13
abbrev N_write_part : List Str := ["term", "path", "texts", "k"]
abbrev P_write_part : List Str := ["term", "path"]
theorem sc_write_part : FnScope N_write_part P_write_part (defScope s_write_part) := ⟨rfl, rfl, rfl, by decide +kernel, rfl, by decide +kernel, by decide +kernel⟩
noncomputable def m_write_part (G : Fn) : MS :=
  sSeq (sIf (mTru (mCall F_is_word (mAcons (mVar 0) (mAnil)))) (sRet (mVar 0)) (sNext)) (sSeq (sIf (mTru (mCall F_is_number (mAcons (mVar 0) (mAnil)))) (sRet (mCB fStr (mAcons (mVar 0) (mAnil)))) (sNext)) (sSeq (sIf (mOr (mNot (mTru (mCB fIsi (mAcons (mVar 0) (mAcons (mPure (.ty "tuple")) (mAnil)))))) (mTest (mOp2 opGe (mCB fLen (mAcons (mVar 1) (mAnil))) (mPure C_MOST_DEPTH)))) (sRaise 2 ["path"] (mAcons (mVar 1) (mAnil))) (sNext)) (sSeq (sSet 2 (mLst (mAnil))) (sSeq (sFor (gSet 3) (mRange1 (mCB fLen (mAcons (mVar 0) (mAnil)))) (sAppend 2 (mCall G (mAcons (mOp2 opIx (mVar 0) (mVar 3)) (mAcons (mOp2 opAdd (mVar 1) (mTup (mAcons (mVar 3) (mAnil)))) (mAnil)))))) (sRet (mOp2 opAdd (mOp2 opAdd (mPure (.str "(")) (mMeth D.isStr fJoin (mPure (.str " ")) (mAcons (mVar 2) (mAnil)))) (mPure (.str ")"))))))))
noncomputable def F_write_part : Nat → Fn
  | 0 => fun _ => .bad
  | n + 1 => runF 2 4 (m_write_part (F_write_part n))

abbrev s_write_term : Stmt := top 14
abbrev N_write_term : List Str := ["term"]
abbrev P_write_term : List Str := ["term"]
theorem sc_write_term : FnScope N_write_term P_write_term (defScope s_write_term) := ⟨rfl, rfl, rfl, by decide +kernel, rfl, by decide +kernel, by decide +kernel⟩
noncomputable def m_write_term : MS :=
  sRet (mCall (F_write_part 64) (mAcons (mVar 0) (mAcons (mTup (mAnil)) (mAnil))))
noncomputable def F_write_term : Fn := runF 1 1 m_write_term

abbrev s_atom_end : Stmt := top 15
abbrev N_atom_end : List Str := ["text", "start", "signs", "most", "end"]
abbrev P_atom_end : List Str := ["text", "start"]
theorem sc_atom_end : FnScope N_atom_end P_atom_end (defScope s_atom_end) := ⟨rfl, rfl, rfl, by decide +kernel, rfl, by decide +kernel, by decide +kernel⟩
noncomputable def m_atom_end : MS :=
  sSeq (sIf (mTest (mOp2 opEq (mVar 1) (mCB fLen (mAcons (mVar 0) (mAnil))))) (sRaise 1 ["position"] (mAcons (mVar 1) (mAnil))) (sNext)) (sSeq (sSet 2 (mPure C_LETTERS)) (sSeq (sSet 3 (mPure C_MOST_LETTERS)) (sSeq (sIf (mTest (mOp2 opIn (mOp2 opIx (mVar 0) (mVar 1)) (mPure C_DIGITS))) (sSeq (sSet 2 (mPure C_DIGITS)) (sSeq (sSet 3 (mPure C_MOST_DIGITS)) (sIf (mTest (mOp2 opEq (mOp2 opIx (mVar 0) (mVar 1)) (mPure (.str "0")))) (sRet (mOp2 opAdd (mVar 1) (mPure (.int 1)))) (sNext)))) (sNext)) (sSeq (sIf (mTest (mOp2 opNotIn (mOp2 opIx (mVar 0) (mVar 1)) (mVar 2))) (sRaise 1 ["position"] (mAcons (mVar 1) (mAnil))) (sNext)) (sSeq (sSet 4 (mVar 1)) (sSeq (sWhile (mAnd (mTest (mOp2 opLt (mVar 4) (mCB fLen (mAcons (mVar 0) (mAnil))))) (mAnd (mTest (mOp2 opLt (mOp2 opSub (mVar 4) (mVar 1)) (mVar 3))) (mTest (mOp2 opIn (mOp2 opIx (mVar 0) (mVar 4)) (mVar 2))))) (sAug ipAdd 4 (mPure (.int 1)))) (sRet (mVar 4))))))))
noncomputable def F_atom_end : Fn := runF 2 5 m_atom_end

abbrev s_atom : Stmt := top 16
abbrev N_atom : List Str := ["text"]
abbrev P_atom : List Str := ["text"]
theorem sc_atom : FnScope N_atom P_atom (defScope s_atom) := ⟨rfl, rfl, rfl, by decide +kernel, rfl, by decide +kernel, by decide +kernel⟩
noncomputable def m_atom : MS :=
  sSeq (sIf (mTest (mOp2 opIn (mOp2 opIx (mVar 0) (mPure (.int 0))) (mPure C_DIGITS))) (sRet (mCB fInt (mAcons (mVar 0) (mAnil)))) (sNext)) (sRet (mVar 0))
noncomputable def F_atom : Fn := runF 1 1 m_atom

abbrev s_whole : Stmt := top 18
abbrev N_whole : List Str := ["item", "text", "at"]
abbrev P_whole : List Str := ["item", "text", "at"]
theorem sc_whole : FnScope N_whole P_whole (defScope s_whole) := ⟨rfl, rfl, rfl, by decide +kernel, rfl, by decide +kernel, by decide +kernel⟩
noncomputable def m_whole : MS :=
  sSeq (sIf (mTest (mOp2 opNe (mVar 2) (mCB fLen (mAcons (mVar 1) (mAnil))))) (sRaise 1 ["position"] (mAcons (mVar 2) (mAnil))) (sNext)) (sRet (mVar 0))
noncomputable def F_whole : Fn := runF 3 3 m_whole

abbrev s_read_term : Stmt := top 17
abbrev N_read_term : List Str := ["text", "lists", "at", "end", "item"]
abbrev P_read_term : List Str := ["text"]
theorem sc_read_term : FnScope N_read_term P_read_term (defScope s_read_term) := ⟨rfl, rfl, rfl, by decide +kernel, rfl, by decide +kernel, by decide +kernel⟩
noncomputable def m_read_term : MS :=
  sSeq (sNewOl 1) (sSeq (sSet 2 (mPure (.int 0))) (sWhile (mTru (mPure (.bl true))) (sSeq (sIf (mTest (mOp2 opEq (mSl (mVar 0) (some (mVar 2)) (some (mOp2 opAdd (mVar 2) (mPure (.int 1))))) (mPure (.str "(")))) (sSeq (sIf (mTest (mOp2 opEq (mLenOl 1) (mPure C_MOST_DEPTH))) (sRaise 1 ["position"] (mAcons (mVar 2) (mAnil))) (sNext)) (sSeq (sAppNew 1) (sSeq (sAug ipAdd 2 (mPure (.int 1))) (sIf (mTest (mOp2 opNe (mSl (mVar 0) (some (mVar 2)) (some (mOp2 opAdd (mVar 2) (mPure (.int 1))))) (mPure (.str ")")))) (sCont) (sNext))))) (sSeq (sSet 3 (mCall F_atom_end (mAcons (mVar 0) (mAcons (mVar 2) (mAnil))))) (sSeq (sSet 4 (mCall F_atom (mAcons (mSl (mVar 0) (some (mVar 2)) (some (mVar 3))) (mAnil)))) (sSeq (sSet 2 (mVar 3)) (sSeq (sIf (mTest (mOp2 opEq (mLenOl 1) (mPure (.int 0)))) (sRet (mCall F_whole (mAcons (mVar 4) (mAcons (mVar 0) (mAcons (mVar 2) (mAnil)))))) (sNext)) (sAppLast 1 4)))))) (sSeq (sWhile (mTest (mOp2 opEq (mSl (mVar 0) (some (mVar 2)) (some (mOp2 opAdd (mVar 2) (mPure (.int 1))))) (mPure (.str ")")))) (sSeq (sAug ipAdd 2 (mPure (.int 1))) (sSeq (sSet 4 (mPopTup 1)) (sSeq (sIf (mTest (mOp2 opEq (mLenOl 1) (mPure (.int 0)))) (sRet (mCall F_whole (mAcons (mVar 4) (mAcons (mVar 0) (mAcons (mVar 2) (mAnil)))))) (sNext)) (sAppLast 1 4))))) (sSeq (sIf (mTest (mOp2 opNe (mSl (mVar 0) (some (mVar 2)) (some (mOp2 opAdd (mVar 2) (mPure (.int 1))))) (mPure (.str " ")))) (sRaise 1 ["position"] (mAcons (mVar 2) (mAnil))) (sNext)) (sAug ipAdd 2 (mPure (.int 1))))))))
noncomputable def F_read_term : Fn := runF 1 5 m_read_term

abbrev s__law_start : Stmt := top 20
abbrev N__law_start : List Str := ["script", "seed", "k"]
abbrev P__law_start : List Str := ["script"]
theorem sc__law_start : FnScope N__law_start P__law_start (defScope s__law_start) := ⟨rfl, rfl, rfl, by decide +kernel, rfl, by decide +kernel, by decide +kernel⟩
noncomputable def m__law_start : MS :=
  sSeq (sSet 1 (mPure (.int 7))) (sSeq (sFor (gSet 2) (mRange1 (mCB fLen (mAcons (mVar 0) (mAnil)))) (sSet 1 (mOp2 opMod (mOp2 opAdd (mOp2 opAdd (mOp2 opAdd (mOp2 opMul (mVar 1) (mPure (.int 48271))) (mOp2 opMod (mCB fInt (mAcons (mOp2 opIx (mVar 0) (mVar 2)) (mAnil))) (mPure (.int 2147483647)))) (mVar 2)) (mPure (.int 1))) (mPure (.int 2147483647))))) (sRet (mLst (mAcons (mVar 1) (mAcons (mCB fListA (mAcons (mVar 0) (mAnil))) (mAcons (mPure (.int 0)) (mAcons (mPure (.int 0)) (mAnil))))))))
noncomputable def F__law_start : Fn := runF 1 3 m__law_start

abbrev s__law_pick : Stmt := top 21
abbrev N__law_pick : List Str := ["state", "limit", "cell", "mixed", "rest"]
abbrev P__law_pick : List Str := ["state", "limit"]
theorem sc__law_pick : FnScope N__law_pick P__law_pick (defScope s__law_pick) := ⟨rfl, rfl, rfl, by decide +kernel, rfl, by decide +kernel, by decide +kernel⟩
noncomputable def m__law_pick : MS :=
  sSeq (sIf (mTest (mOp2 opGe (mOp2V opIx 0 (mPure (.int 3))) (mVar 1))) (sSeq (sSet 4 (mCB fInt (mAcons (mOp2V opIx 0 (mPure (.int 3))) (mAnil)))) (sSeq (sSetIx 0 (mPure (.int 3)) (mOp2 opDiv (mVar 4) (mVar 1))) (sRet (mOp2 opMod (mVar 4) (mVar 1))))) (sNext)) (sSeq (sSet 2 (mPure (.int 11))) (sSeq (sIf (mTest (mOp2 opLt (mOp2V opIx 0 (mPure (.int 2))) (mCB fLen (mAcons (mOp2V opIx 0 (mPure (.int 1))) (mAnil))))) (sSeq (sSet 2 (mCB fInt (mAcons (mOp2 opIx (mOp2V opIx 0 (mPure (.int 1))) (mOp2V opIx 0 (mPure (.int 2)))) (mAnil)))) (sSeq (sSetIx 0 (mPure (.int 2)) (mOp2 opAdd (mOp2V opIx 0 (mPure (.int 2))) (mPure (.int 1)))) (sSeq (sIf (mTest (mOp2 opLt (mVar 2) (mPure (.int 0)))) (sSet 2 (mOp2 opSub (mPure (.int 1)) (mVar 2))) (sNext)) (sIf (mTest (mOp2 opGe (mVar 2) (mOp2 opPow (mPure (.int 10)) (mPure (.int 18))))) (sSeq (sSetIx 0 (mPure (.int 3)) (mOp2 opDiv (mVar 2) (mVar 1))) (sRet (mOp2 opMod (mVar 2) (mVar 1)))) (sNext))))) (sNext)) (sSeq (sSet 3 (mOp2 opMod (mOp2 opMul (mOp2 opAdd (mOp2 opAdd (mCB fInt (mAcons (mOp2V opIx 0 (mPure (.int 0))) (mAnil))) (mOp2 opMod (mVar 2) (mPure (.int 2147483647)))) (mPure (.int 1))) (mPure (.int 48271))) (mPure (.int 2147483647)))) (sSeq (sSetIx 0 (mPure (.int 0)) (mOp2 opMod (mOp2 opAdd (mOp2 opMul (mVar 3) (mPure (.int 69621))) (mPure (.int 12345))) (mPure (.int 2147483647)))) (sRet (mOp2 opMod (mOp2 opDiv (mCB fInt (mAcons (mOp2V opIx 0 (mPure (.int 0))) (mAnil))) (mPure (.int 7))) (mVar 1)))))))
noncomputable def F__law_pick : Fn := runF 2 5 m__law_pick

abbrev s__law_atom : Stmt := top 22
abbrev N__law_atom : List Str := ["state", "letters", "size", "k"]
abbrev P__law_atom : List Str := ["state"]
theorem sc__law_atom : FnScope N__law_atom P__law_atom (defScope s__law_atom) := ⟨rfl, rfl, rfl, by decide +kernel, rfl, by decide +kernel, by decide +kernel⟩
noncomputable def m__law_atom : MS :=
  sSeq (sIf (mTest (mOp2 opEq (mCall F__law_pick (mAbor 0 (mAcons (mPure (.int 2)) (mAnil)))) (mPure (.int 0)))) (sSeq (sSet 1 (mPure (.str "abcdefghijklmnopqrstuvwxyz"))) (sSeq (sSet 2 (mOp2 opAdd (mPure (.int 1)) (mCall F__law_pick (mAbor 0 (mAcons (mPure (.int 12)) (mAnil)))))) (sRet (mMeth D.isStr fJoin (mPure (.str "")) (mAcons (mLc [3] (mRange1 (mVar 2)) (gSet 3) (mYes) (mOp2 opIx (mVar 1) (mCall F__law_pick (mAbor 0 (mAcons (mPure (.int 26)) (mAnil)))))) (mAnil)))))) (sNext)) (sRet (mCall F__law_pick (mAbor 0 (mAcons (mOp2 opIx (mLst (mAcons (mPure (.int 2)) (mAcons (mPure (.int 10)) (mAcons (mPure (.int 1000)) (mAcons (mOp2 opPow (mPure (.int 10)) (mPure (.int 9))) (mAnil)))))) (mCall F__law_pick (mAbor 0 (mAcons (mPure (.int 4)) (mAnil))))) (mAnil)))))
noncomputable def F__law_atom : Fn := runF 1 4 m__law_atom

abbrev s__law_term : Stmt := top 23
abbrev N__law_term : List Str := ["state", "levels", "k"]
abbrev P__law_term : List Str := ["state", "levels"]
theorem sc__law_term : FnScope N__law_term P__law_term (defScope s__law_term) := ⟨rfl, rfl, rfl, by decide +kernel, rfl, by decide +kernel, by decide +kernel⟩
noncomputable def m__law_term (G : Fn) : MS :=
  sSeq (sIf (mOr (mTest (mOp2 opEq (mVar 1) (mPure (.int 0)))) (mTest (mOp2 opEq (mCall F__law_pick (mAbor 0 (mAcons (mPure (.int 3)) (mAnil)))) (mPure (.int 0))))) (sRet (mCall F__law_atom (mAbor 0 (mAnil)))) (sNext)) (sRet (mCB fTuple (mAcons (mLc [2] (mRange1 (mCall F__law_pick (mAbor 0 (mAcons (mPure (.int 4)) (mAnil))))) (gSet 2) (mYes) (mCall G (mAbor 0 (mAcons (mOp2 opSub (mVar 1) (mPure (.int 1))) (mAnil))))) (mAnil))))
noncomputable def F__law_term : Nat → Fn
  | 0 => fun _ => .bad
  | n + 1 => runF 2 3 (m__law_term (F__law_term n))

abbrev s__law_text : Stmt := top 24
abbrev N__law_text : List Str := ["term", "item"]
abbrev P__law_text : List Str := ["term"]
theorem sc__law_text : FnScope N__law_text P__law_text (defScope s__law_text) := ⟨rfl, rfl, rfl, by decide +kernel, rfl, by decide +kernel, by decide +kernel⟩
noncomputable def m__law_text (G : Fn) : MS :=
  sSeq (sIf (mTru (mCB fIsi (mAcons (mVar 0) (mAcons (mPure (.ty "tuple")) (mAnil))))) (sRet (mOp2 opAdd (mOp2 opAdd (mPure (.str "(")) (mMeth D.isStr fJoin (mPure (.str " ")) (mAcons (mLc [1] (mIter (mVar 0)) (gSet 1) (mYes) (mCall G (mAcons (mVar 1) (mAnil)))) (mAnil)))) (mPure (.str ")")))) (sNext)) (sRet (mCB fStr (mAcons (mVar 0) (mAnil))))
noncomputable def F__law_text : Nat → Fn
  | 0 => fun _ => .bad
  | n + 1 => runF 1 2 (m__law_text (F__law_text n))

abbrev s__law_next : Stmt := top 25
abbrev N__law_next : List Str := ["kind", "many", "depth", "sign", "letters"]
abbrev P__law_next : List Str := ["kind", "many", "depth", "sign"]
theorem sc__law_next : FnScope N__law_next P__law_next (defScope s__law_next) := ⟨rfl, rfl, rfl, by decide +kernel, rfl, by decide +kernel, by decide +kernel⟩
noncomputable def m__law_next : MS :=
  sSeq (sSet 4 (mPure (.str "abcdefghijklmnopqrstuvwxyz"))) (sSeq (sIf (mOr (mTest (mOp2 opEq (mVar 0) (mPure (.str "item")))) (mTest (mOp2 opEq (mVar 0) (mPure (.str "open"))))) (sSeq (sIf (mTest (mOp2 opIn (mVar 3) (mVar 4))) (sRet (mLst (mAcons (mPure (.str "word")) (mAcons (mPure (.int 1)) (mAcons (mVar 2) (mAnil)))))) (sNext)) (sSeq (sIf (mTest (mOp2 opEq (mVar 3) (mPure (.str "0")))) (sRet (mLst (mAcons (mPure (.str "zero")) (mAcons (mPure (.int 1)) (mAcons (mVar 2) (mAnil)))))) (sNext)) (sSeq (sIf (mTest (mOp2 opIn (mVar 3) (mPure (.str "123456789")))) (sRet (mLst (mAcons (mPure (.str "number")) (mAcons (mPure (.int 1)) (mAcons (mVar 2) (mAnil)))))) (sNext)) (sSeq (sIf (mAnd (mTest (mOp2 opEq (mVar 3) (mPure (.str "(")))) (mTest (mOp2 opLt (mVar 2) (mPure (.int 30))))) (sRet (mLst (mAcons (mPure (.str "open")) (mAcons (mPure (.int 0)) (mAcons (mOp2 opAdd (mVar 2) (mPure (.int 1))) (mAnil)))))) (sNext)) (sSeq (sIf (mAnd (mTest (mOp2 opEq (mVar 3) (mPure (.str ")")))) (mTest (mOp2 opEq (mVar 0) (mPure (.str "open"))))) (sRet (mLst (mAcons (mPure (.str "done")) (mAcons (mPure (.int 0)) (mAcons (mOp2 opSub (mVar 2) (mPure (.int 1))) (mAnil)))))) (sNext)) (sRet (mPure .non))))))) (sNext)) (sSeq (sIf (mAnd (mTest (mOp2 opEq (mVar 0) (mPure (.str "word")))) (mAnd (mTest (mOp2 opIn (mVar 3) (mVar 4))) (mTest (mOp2 opLt (mVar 1) (mPure (.int 12)))))) (sRet (mLst (mAcons (mPure (.str "word")) (mAcons (mOp2 opAdd (mVar 1) (mPure (.int 1))) (mAcons (mVar 2) (mAnil)))))) (sNext)) (sSeq (sIf (mAnd (mTest (mOp2 opEq (mVar 0) (mPure (.str "number")))) (mAnd (mTest (mOp2 opIn (mVar 3) (mPure (.str "0123456789")))) (mTest (mOp2 opLt (mVar 1) (mPure (.int 9)))))) (sRet (mLst (mAcons (mPure (.str "number")) (mAcons (mOp2 opAdd (mVar 1) (mPure (.int 1))) (mAcons (mVar 2) (mAnil)))))) (sNext)) (sSeq (sIf (mAnd (mTest (mOp2 opGt (mVar 2) (mPure (.int 0)))) (mTest (mOp2 opEq (mVar 3) (mPure (.str " "))))) (sRet (mLst (mAcons (mPure (.str "item")) (mAcons (mPure (.int 0)) (mAcons (mVar 2) (mAnil)))))) (sNext)) (sSeq (sIf (mAnd (mTest (mOp2 opGt (mVar 2) (mPure (.int 0)))) (mTest (mOp2 opEq (mVar 3) (mPure (.str ")"))))) (sRet (mLst (mAcons (mPure (.str "done")) (mAcons (mPure (.int 0)) (mAcons (mOp2 opSub (mVar 2) (mPure (.int 1))) (mAnil)))))) (sNext)) (sRet (mPure .non)))))))
noncomputable def F__law_next : Fn := runF 4 5 m__law_next

abbrev s__law_fault : Stmt := top 26
abbrev N__law_fault : List Str := ["text", "place", "k"]
abbrev P__law_fault : List Str := ["text"]
theorem sc__law_fault : FnScope N__law_fault P__law_fault (defScope s__law_fault) := ⟨rfl, rfl, rfl, by decide +kernel, rfl, by decide +kernel, by decide +kernel⟩
noncomputable def m__law_fault : MS :=
  sSeq (sSet 1 (mLst (mAcons (mPure (.str "item")) (mAcons (mPure (.int 0)) (mAcons (mPure (.int 0)) (mAnil)))))) (sSeq (sFor (gSet 2) (mRange1 (mCB fLen (mAcons (mVar 0) (mAnil)))) (sSeq (sSet 1 (mCall F__law_next (mAcons (mOp2 opIx (mVar 1) (mPure (.int 0))) (mAcons (mOp2 opIx (mVar 1) (mPure (.int 1))) (mAcons (mOp2 opIx (mVar 1) (mPure (.int 2))) (mAcons (mOp2 opIx (mVar 0) (mVar 2)) (mAnil))))))) (sIf (mTest (mUn opIsN (mVar 1))) (sRet (mVar 2)) (sNext)))) (sSeq (sIf (mAnd (mTest (mOp2 opEq (mOp2 opIx (mVar 1) (mPure (.int 2))) (mPure (.int 0)))) (mTest (mOp2 opNotIn (mOp2 opIx (mVar 1) (mPure (.int 0))) (mLst (mAcons (mPure (.str "item")) (mAcons (mPure (.str "open")) (mAnil))))))) (sRet (mUn opNeg (mPure (.int 1)))) (sNext)) (sRet (mCB fLen (mAcons (mVar 0) (mAnil))))))
noncomputable def F__law_fault : Fn := runF 1 3 m__law_fault

abbrev s__law_spoilt : Stmt := top 27
abbrev N__law_spoilt : List Str := ["state", "text", "signs", "at", "how", "sign"]
abbrev P__law_spoilt : List Str := ["state", "text"]
theorem sc__law_spoilt : FnScope N__law_spoilt P__law_spoilt (defScope s__law_spoilt) := ⟨rfl, rfl, rfl, by decide +kernel, rfl, by decide +kernel, by decide +kernel⟩
noncomputable def m__law_spoilt : MS :=
  sSeq (sSet 2 (mPure (.str "az09() ,-A"))) (sSeq (sSet 3 (mCall F__law_pick (mAbor 0 (mAcons (mOp2 opAdd (mCB fLen (mAcons (mVar 1) (mAnil))) (mPure (.int 1))) (mAnil))))) (sSeq (sSet 4 (mCall F__law_pick (mAbor 0 (mAcons (mPure (.int 4)) (mAnil))))) (sSeq (sSet 5 (mOp2 opIx (mVar 2) (mCall F__law_pick (mAbor 0 (mAcons (mPure (.int 10)) (mAnil)))))) (sSeq (sIf (mTest (mOp2 opEq (mVar 4) (mPure (.int 0)))) (sRet (mOp2 opAdd (mSl (mVar 1) none (some (mVar 3))) (mSl (mVar 1) (some (mOp2 opAdd (mVar 3) (mPure (.int 1)))) none))) (sNext)) (sSeq (sIf (mTest (mOp2 opEq (mVar 4) (mPure (.int 1)))) (sRet (mOp2 opAdd (mOp2 opAdd (mSl (mVar 1) none (some (mVar 3))) (mVar 5)) (mSl (mVar 1) (some (mVar 3)) none))) (sNext)) (sSeq (sIf (mTest (mOp2 opEq (mVar 4) (mPure (.int 2)))) (sRet (mOp2 opAdd (mOp2 opAdd (mSl (mVar 1) none (some (mVar 3))) (mVar 5)) (mSl (mVar 1) (some (mOp2 opAdd (mVar 3) (mPure (.int 1)))) none))) (sNext)) (sRet (mOp2 opAdd (mVar 1) (mVar 5)))))))))
noncomputable def F__law_spoilt : Fn := runF 2 6 m__law_spoilt

abbrev s__law_right : Stmt := top 28
abbrev N__law_right : List Str := ["item", "sign"]
abbrev P__law_right : List Str := ["item"]
theorem sc__law_right : FnScope N__law_right P__law_right (defScope s__law_right) := ⟨rfl, rfl, rfl, by decide +kernel, rfl, by decide +kernel, by decide +kernel⟩
noncomputable def m__law_right : MS :=
  sSeq (sIf (mTru (mCB fIsi (mAcons (mVar 0) (mAcons (mPure (.ty "str")) (mAnil))))) (sRet (mAndV (mChain opLe opLe (mPure (.int 1)) (mCB fLen (mAcons (mVar 0) (mAnil))) (mPure (.int 12))) (mCB fAll (mAcons (mLc [1] (mIter (mVar 0)) (gSet 1) (mYes) (mOp2 opIn (mVar 1) (mPure (.str "abcdefghijklmnopqrstuvwxyz")))) (mAnil))))) (sNext)) (sRet (mChain opLe opLt (mPure (.int 0)) (mVar 0) (mOp2 opPow (mPure (.int 10)) (mPure (.int 9)))))
noncomputable def F__law_right : Fn := runF 1 2 m__law_right

abbrev s__law_first_wrong : Stmt := top 29
abbrev N__law_first_wrong : List Str := ["term", "path", "k", "found"]
abbrev P__law_first_wrong : List Str := ["term", "path"]
theorem sc__law_first_wrong : FnScope N__law_first_wrong P__law_first_wrong (defScope s__law_first_wrong) := ⟨rfl, rfl, rfl, by decide +kernel, rfl, by decide +kernel, by decide +kernel⟩
noncomputable def m__law_first_wrong (G : Fn) : MS :=
  sSeq (sIf (mNot (mTru (mCB fIsi (mAcons (mVar 0) (mAcons (mPure (.ty "tuple")) (mAnil)))))) (sRet (mOp2 opIx (mLst (mAcons (mVar 1) (mAcons (mPure .non) (mAnil)))) (mCB fInt (mAcons (mCall F__law_right (mAcons (mVar 0) (mAnil))) (mAnil))))) (sNext)) (sSeq (sIf (mTest (mOp2 opGe (mCB fLen (mAcons (mVar 1) (mAnil))) (mPure (.int 30)))) (sRet (mVar 1)) (sNext)) (sSeq (sFor (gSet 2) (mRange1 (mCB fLen (mAcons (mVar 0) (mAnil)))) (sSeq (sSet 3 (mCall G (mAcons (mOp2 opIx (mVar 0) (mVar 2)) (mAcons (mOp2 opAdd (mVar 1) (mTup (mAcons (mVar 2) (mAnil)))) (mAnil))))) (sIf (mTest (mUn opNotN (mVar 3))) (sRet (mVar 3)) (sNext)))) (sRet (mPure .non))))
noncomputable def F__law_first_wrong : Nat → Fn
  | 0 => fun _ => .bad
  | n + 1 => runF 2 4 (m__law_first_wrong (F__law_first_wrong n))

abbrev s__law_strayed : Stmt := top 30
abbrev N__law_strayed : List Str := ["state", "term", "at"]
abbrev P__law_strayed : List Str := ["state", "term"]
theorem sc__law_strayed : FnScope N__law_strayed P__law_strayed (defScope s__law_strayed) := ⟨rfl, rfl, rfl, by decide +kernel, rfl, by decide +kernel, by decide +kernel⟩
noncomputable def m__law_strayed (G : Fn) : MS :=
  sSeq (sIf (mOr (mNot (mTru (mCB fIsi (mAcons (mVar 1) (mAcons (mPure (.ty "tuple")) (mAnil)))))) (mOr (mTest (mOp2 opEq (mCB fLen (mAcons (mVar 1) (mAnil))) (mPure (.int 0)))) (mTest (mOp2 opEq (mCall F__law_pick (mAbor 0 (mAcons (mPure (.int 3)) (mAnil)))) (mPure (.int 0)))))) (sRet (mOp2 opIx (mLst (mAcons (mPure (.str "")) (mAcons (mPure (.str "A")) (mAcons (mPure (.str "a1")) (mAcons (mPure (.str "a b")) (mAcons (mPure (.str "abcdefghijklm")) (mAcons (mUn opNeg (mPure (.int 1))) (mAcons (mOp2 opPow (mPure (.int 10)) (mPure (.int 9))) (mAnil))))))))) (mCall F__law_pick (mAbor 0 (mAcons (mPure (.int 7)) (mAnil)))))) (sNext)) (sSeq (sSet 2 (mCall F__law_pick (mAbor 0 (mAcons (mCB fLen (mAcons (mVar 1) (mAnil))) (mAnil))))) (sRet (mOp2 opAdd (mOp2 opAdd (mSl (mVar 1) none (some (mVar 2))) (mTup (mAcons (mCall G (mAbor 0 (mAcons (mOp2 opIx (mVar 1) (mVar 2)) (mAnil)))) (mAnil)))) (mSl (mVar 1) (some (mOp2 opAdd (mVar 2) (mPure (.int 1)))) none))))
noncomputable def F__law_strayed : Nat → Fn
  | 0 => fun _ => .bad
  | n + 1 => runF 2 3 (m__law_strayed (F__law_strayed n))

abbrev s__law_same : Stmt := top 31
abbrev N__law_same : List Str := ["actual", "term", "k"]
abbrev P__law_same : List Str := ["actual", "term"]
theorem sc__law_same : FnScope N__law_same P__law_same (defScope s__law_same) := ⟨rfl, rfl, rfl, by decide +kernel, rfl, by decide +kernel, by decide +kernel⟩
noncomputable def m__law_same (G : Fn) : MS :=
  sSeq (sIf (mTru (mCB fIsi (mAcons (mVar 1) (mAcons (mPure (.ty "tuple")) (mAnil))))) (sSeq (sIf (mOr (mNot (mTru (mCB fIsi (mAcons (mVar 0) (mAcons (mPure (.ty "tuple")) (mAnil)))))) (mTest (mOp2 opNe (mCB fLen (mAcons (mVar 0) (mAnil))) (mCB fLen (mAcons (mVar 1) (mAnil)))))) (sRet (mPure (.bl false))) (sNext)) (sRet (mCB fAll (mAcons (mLc [2] (mRange1 (mCB fLen (mAcons (mVar 1) (mAnil)))) (gSet 2) (mYes) (mCall G (mAcons (mOp2 opIx (mVar 0) (mVar 2)) (mAcons (mOp2 opIx (mVar 1) (mVar 2)) (mAnil))))) (mAnil))))) (sNext)) (sSeq (sIf (mTru (mCB fIsi (mAcons (mVar 1) (mAcons (mPure (.ty "str")) (mAnil))))) (sRet (mAndV (mCB fIsi (mAcons (mVar 0) (mAcons (mPure (.ty "str")) (mAnil)))) (mOp2 opEq (mVar 0) (mVar 1)))) (sNext)) (sRet (mAndV (mCB fIsi (mAcons (mVar 0) (mAcons (mPure (.ty "int")) (mAnil)))) (mAndV (mUn opNotV (mCB fIsi (mAcons (mVar 0) (mAcons (mPure (.ty "bool")) (mAnil))))) (mOp2 opEq (mVar 0) (mVar 1))))))
noncomputable def F__law_same : Nat → Fn
  | 0 => fun _ => .bad
  | n + 1 => runF 2 3 (m__law_same (F__law_same n))

abbrev s__law_is_term : Stmt := top 32
abbrev N__law_is_term : List Str := ["actual", "item"]
abbrev P__law_is_term : List Str := ["actual"]
theorem sc__law_is_term : FnScope N__law_is_term P__law_is_term (defScope s__law_is_term) := ⟨rfl, rfl, rfl, by decide +kernel, rfl, by decide +kernel, by decide +kernel⟩
noncomputable def m__law_is_term (G : Fn) : MS :=
  sSeq (sIf (mTru (mCB fIsi (mAcons (mVar 0) (mAcons (mPure (.ty "tuple")) (mAnil))))) (sRet (mCB fAll (mAcons (mLc [1] (mIter (mVar 0)) (gSet 1) (mYes) (mCall G (mAcons (mVar 1) (mAnil)))) (mAnil)))) (sNext)) (sSeq (sIf (mTru (mCB fIsi (mAcons (mVar 0) (mAcons (mPure (.ty "str")) (mAnil))))) (sRet (mOp2 opIn (mSl (mVar 0) none (some (mPure (.int 1)))) (mCB fListA (mAcons (mPure (.str "abcdefghijklmnopqrstuvwxyz")) (mAnil))))) (sNext)) (sRet (mAndV (mCB fIsi (mAcons (mVar 0) (mAcons (mPure (.ty "int")) (mAnil)))) (mUn opNotV (mCB fIsi (mAcons (mVar 0) (mAcons (mPure (.ty "bool")) (mAnil))))))))
noncomputable def F__law_is_term : Nat → Fn
  | 0 => fun _ => .bad
  | n + 1 => runF 1 2 (m__law_is_term (F__law_is_term n))

abbrev s__law_read : Stmt := top 33
abbrev N__law_read : List Str := ["text", "e"]
abbrev P__law_read : List Str := ["text"]
theorem sc__law_read : FnScope N__law_read P__law_read (defScope s__law_read) := ⟨rfl, rfl, rfl, by decide +kernel, rfl, by decide +kernel, by decide +kernel⟩
noncomputable def m__law_read : MS :=
  sTry cat_InvalidText 1 (sRet (mTup (mAcons (mPure (.str "read")) (mAcons (mCall F_read_term (mAcons (mVar 0) (mAnil))) (mAnil))))) (sSeq (sIf (mOr (mTru (mXis 1 isT_InvalidTerm)) (mNot (mTru (mXis 1 isT_ChoosersError)))) (sRet (mTup (mAcons (mPure (.str "refused")) (mAcons (mUn opNeg (mPure (.int 2))) (mAnil))))) (sNext)) (sRet (mTup (mAcons (mPure (.str "refused")) (mAcons (mXf 1 okc_position "position") (mAnil))))))
noncomputable def F__law_read : Fn := runF 1 2 m__law_read

abbrev s__law_wrong_path : Stmt := top 34
abbrev N__law_wrong_path : List Str := ["term", "e"]
abbrev P__law_wrong_path : List Str := ["term"]
theorem sc__law_wrong_path : FnScope N__law_wrong_path P__law_wrong_path (defScope s__law_wrong_path) := ⟨rfl, rfl, rfl, by decide +kernel, rfl, by decide +kernel, by decide +kernel⟩
noncomputable def m__law_wrong_path : MS :=
  sSeq (sTry cat_ChoosersError 1 (sDrop (mCall F_write_term (mAcons (mVar 0) (mAnil)))) (sIf (mAnd (mTru (mXis 1 isT_InvalidTerm)) (mTru (mXis 1 isT_ValueError))) (sRet (mXf 1 okc_path "path")) (sNext))) (sRet (mPure .non))
noncomputable def F__law_wrong_path : Fn := runF 1 2 m__law_wrong_path

abbrev s__law_deep_told : Stmt := top 35
abbrev N__law_deep_told : List Str := ["state", "term", "wrong", "item"]
abbrev P__law_deep_told : List Str := ["state", "term"]
theorem sc__law_deep_told : FnScope N__law_deep_told P__law_deep_told (defScope s__law_deep_told) := ⟨rfl, rfl, rfl, by decide +kernel, rfl, by decide +kernel, by decide +kernel⟩
noncomputable def m__law_deep_told : MS :=
  sSeq (sSet 2 (mCall (F__law_strayed 64) (mAbor 0 (mAcons (mCall (F__law_term 64) (mAbor 0 (mAcons (mPure (.int 2)) (mAnil)))) (mAnil))))) (sSeq (sFor (gSet 3) (mIter (mLst (mAcons (mVar 1) (mAcons (mTup (mAcons (mVar 1) (mAcons (mVar 2) (mAnil)))) (mAcons (mTup (mAcons (mVar 2) (mAcons (mVar 1) (mAnil)))) (mAnil)))))) (sIf (mNot (mTru (mCall (F__law_same 64) (mAcons (mCall F__law_wrong_path (mAcons (mVar 3) (mAnil))) (mAcons (mCall (F__law_first_wrong 64) (mAcons (mVar 3) (mAcons (mTup (mAnil)) (mAnil)))) (mAnil)))))) (sRet (mPure (.bl false))) (sNext))) (sRet (mPure (.bl true))))
noncomputable def F__law_deep_told : Fn := runF 2 4 m__law_deep_told

abbrev s_law : Stmt := top 36
abbrev N_law : List Str := ["script", "state", "term", "text", "spoilt", "fault", "actual", "strayed", "k"]
abbrev P_law : List Str := ["script"]
theorem sc_law : FnScope N_law P_law (defScope s_law) := ⟨rfl, rfl, rfl, by decide +kernel, rfl, by decide +kernel, by decide +kernel⟩
noncomputable def m_law : MS :=
  sSeq (sSet 1 (mCall F__law_start (mAcons (mVar 0) (mAnil)))) (sSeq (sSet 2 (mCall (F__law_term 64) (mAbor 1 (mAcons (mPure (.int 4)) (mAnil))))) (sSeq (sIf (mTest (mOp2 opEq (mCall F__law_pick (mAbor 1 (mAcons (mPure (.int 9)) (mAnil)))) (mPure (.int 8)))) (sFor (gSet 8) (mRange1 (mOp2 opAdd (mPure (.int 20)) (mCall F__law_pick (mAbor 1 (mAcons (mPure (.int 13)) (mAnil)))))) (sSet 2 (mTup (mAcons (mVar 2) (mAnil))))) (sNext)) (sSeq (sIf (mTest (mUn opNotN (mCall (F__law_first_wrong 64) (mAcons (mVar 2) (mAcons (mTup (mAnil)) (mAnil)))))) (sRet (mCall F__law_deep_told (mAbor 1 (mAcons (mVar 2) (mAnil))))) (sNext)) (sSeq (sSet 3 (mCall (F__law_text 64) (mAcons (mVar 2) (mAnil)))) (sSeq (sIf (mOr (mNot (mTru (mCall (F__law_same 64) (mAcons (mCall F_write_term (mAcons (mVar 2) (mAnil))) (mAcons (mVar 3) (mAnil)))))) (mNot (mTru (mCall (F__law_same 64) (mAcons (mCall F__law_read (mAcons (mVar 3) (mAnil))) (mAcons (mTup (mAcons (mPure (.str "read")) (mAcons (mVar 2) (mAnil)))) (mAnil))))))) (sRet (mPure (.bl false))) (sNext)) (sSeq (sSet 4 (mCall F__law_spoilt (mAbor 1 (mAcons (mVar 3) (mAnil))))) (sSeq (sSet 5 (mCall F__law_fault (mAcons (mVar 4) (mAnil)))) (sSeq (sSet 6 (mCall F__law_read (mAcons (mVar 4) (mAnil)))) (sSeq (sIf (mAnd (mTest (mOp2 opGe (mVar 5) (mPure (.int 0)))) (mNot (mTru (mCall (F__law_same 64) (mAcons (mVar 6) (mAcons (mTup (mAcons (mPure (.str "refused")) (mAcons (mVar 5) (mAnil)))) (mAnil))))))) (sRet (mPure (.bl false))) (sNext)) (sSeq (sIf (mAnd (mTest (mOp2 opLt (mVar 5) (mPure (.int 0)))) (mOr (mTest (mOp2 opNe (mOp2 opIx (mVar 6) (mPure (.int 0))) (mPure (.str "read")))) (mOr (mNot (mTru (mCall (F__law_is_term 64) (mAcons (mOp2 opIx (mVar 6) (mPure (.int 1))) (mAnil))))) (mTest (mOp2 opNe (mCall (F__law_text 64) (mAcons (mOp2 opIx (mVar 6) (mPure (.int 1))) (mAnil))) (mVar 4)))))) (sRet (mPure (.bl false))) (sNext)) (sSeq (sSet 7 (mCall (F__law_strayed 64) (mAbor 1 (mAcons (mCall (F__law_strayed 64) (mAbor 1 (mAcons (mVar 2) (mAnil)))) (mAnil))))) (sRet (mCall (F__law_same 64) (mAcons (mCall F__law_wrong_path (mAcons (mVar 7) (mAnil))) (mAcons (mCall (F__law_first_wrong 64) (mAcons (mVar 7) (mAcons (mTup (mAnil)) (mAnil)))) (mAnil))))))))))))))))
noncomputable def F_law : Fn := runF 1 9 m_law

structure Ev (T : Tb) (P : Program) (w : World) (mg : Str → Option Value) (base : Heap) : Prop where
  b_ValueError : mg "ValueError" = none
  b_all : mg "all" = none
  b_bool : mg "bool" = none
  b_int : mg "int" = none
  b_isinstance : mg "isinstance" = none
  b_len : mg "len" = none
  b_list : mg "list" = none
  b_range : mg "range" = none
  b_str : mg "str" = none
  b_tuple : mg "tuple" = none
  c_DIGITS : ∃ u, mg "DIGITS" = some u ∧ RelV (.str "0123456789") u
  c_LETTERS : ∃ u, mg "LETTERS" = some u ∧ RelV (.str "abcdefghijklmnopqrstuvwxyz") u
  c_MOST_DEPTH : ∃ u, mg "MOST_DEPTH" = some u ∧ RelV (.int 30) u
  c_MOST_DIGITS : ∃ u, mg "MOST_DIGITS" = some u ∧ RelV (.int 9) u
  c_MOST_LETTERS : ∃ u, mg "MOST_LETTERS" = some u ∧ RelV (.int 12) u
  c_MOST_NUMBER : ∃ u, mg "MOST_NUMBER" = some u ∧ RelV (.int 999999999) u
  g_ChoosersError : mg "ChoosersError" = some (.ref (T.ca 0))
  g_InvalidTerm : mg "InvalidTerm" = some (.ref (T.ca 2))
  g_InvalidText : mg "InvalidText" = some (.ref (T.ca 1))
  ei_InvalidTerm : EcI T P w T.K mg base "InvalidTerm" 2 1 ["path"]
  ei_InvalidText : EcI T P w T.K mg base "InvalidText" 1 1 ["position"]
  k_ChoosersError : ∀ c b, cat_ChoosersError c = some b → PySem.W.exmOne T.K (.ref (T.ca c)) (.ref (T.ca 0)) = some b
  k_InvalidText : ∀ c b, cat_InvalidText c = some b → PySem.W.exmOne T.K (.ref (T.ca c)) (.ref (T.ca 1)) = some b
  is_ChoosersError : ∀ c b, isT_ChoosersError c = some b → ExcC T.K (T.ca c) ∧ PySem.W.kitOne T.K (.ref (T.ca c)) (.ref (T.ca 0)) = some b
  is_InvalidTerm : ∀ c b, isT_InvalidTerm c = some b → ExcC T.K (T.ca c) ∧ PySem.W.kitOne T.K (.ref (T.ca c)) (.ref (T.ca 2)) = some b
  is_ValueError : ∀ c b, isT_ValueError c = some b → ExcC T.K (T.ca c) ∧ PySem.W.kitOne T.K (.ref (T.ca c)) (.type "ValueError") = some b
  xf_path : ∀ c, okc_path c = true → XfC T.K (T.ca c) ∧ PySem.W.findIn T.K (.ref (T.ca c)) "path" = some none
  xf_position : ∀ c, okc_position c = true → XfC T.K (T.ca c) ∧ PySem.W.findIn T.K (.ref (T.ca c)) "position" = some none
  f_is_word : FF T.K mg "is_word" s_is_word P_is_word
  f_is_number : FF T.K mg "is_number" s_is_number P_is_number
  f_write_part : FF T.K mg "write_part" s_write_part P_write_part
  f_write_term : FF T.K mg "write_term" s_write_term P_write_term
  f_atom_end : FF T.K mg "atom_end" s_atom_end P_atom_end
  f_atom : FF T.K mg "atom" s_atom P_atom
  f_whole : FF T.K mg "whole" s_whole P_whole
  f_read_term : FF T.K mg "read_term" s_read_term P_read_term
  f__law_start : FF T.K mg "_law_start" s__law_start P__law_start
  f__law_pick : FF T.K mg "_law_pick" s__law_pick P__law_pick
  f__law_atom : FF T.K mg "_law_atom" s__law_atom P__law_atom
  f__law_term : FF T.K mg "_law_term" s__law_term P__law_term
  f__law_text : FF T.K mg "_law_text" s__law_text P__law_text
  f__law_next : FF T.K mg "_law_next" s__law_next P__law_next
  f__law_fault : FF T.K mg "_law_fault" s__law_fault P__law_fault
  f__law_spoilt : FF T.K mg "_law_spoilt" s__law_spoilt P__law_spoilt
  f__law_right : FF T.K mg "_law_right" s__law_right P__law_right
  f__law_first_wrong : FF T.K mg "_law_first_wrong" s__law_first_wrong P__law_first_wrong
  f__law_strayed : FF T.K mg "_law_strayed" s__law_strayed P__law_strayed
  f__law_same : FF T.K mg "_law_same" s__law_same P__law_same
  f__law_is_term : FF T.K mg "_law_is_term" s__law_is_term P__law_is_term
  f__law_read : FF T.K mg "_law_read" s__law_read P__law_read
  f__law_wrong_path : FF T.K mg "_law_wrong_path" s__law_wrong_path P__law_wrong_path
  f__law_deep_told : FF T.K mg "_law_deep_told" s__law_deep_told P__law_deep_told
  f_law : FF T.K mg "law" s_law P_law
theorem de_C_DIGITS {T : Tb} {P : Program} {w : World} {mg : Str → Option Value} {base : Heap} (ev : Ev T P w mg base) {hx : HX} {X : Cx} {pos : Pos} (e : X.mg = mg) (hg : Gl X "DIGITS") : DE T hx X (.Name "DIGITS" pos) (mPure C_DIGITS) :=
  let ⟨_, h1, h2⟩ := ev.c_DIGITS
  de_glo hg (by rw [e]; exact h1) h2 (fun _ => rfl)
theorem de_C_LETTERS {T : Tb} {P : Program} {w : World} {mg : Str → Option Value} {base : Heap} (ev : Ev T P w mg base) {hx : HX} {X : Cx} {pos : Pos} (e : X.mg = mg) (hg : Gl X "LETTERS") : DE T hx X (.Name "LETTERS" pos) (mPure C_LETTERS) :=
  let ⟨_, h1, h2⟩ := ev.c_LETTERS
  de_glo hg (by rw [e]; exact h1) h2 (fun _ => rfl)
theorem de_C_MOST_DEPTH {T : Tb} {P : Program} {w : World} {mg : Str → Option Value} {base : Heap} (ev : Ev T P w mg base) {hx : HX} {X : Cx} {pos : Pos} (e : X.mg = mg) (hg : Gl X "MOST_DEPTH") : DE T hx X (.Name "MOST_DEPTH" pos) (mPure C_MOST_DEPTH) :=
  let ⟨_, h1, h2⟩ := ev.c_MOST_DEPTH
  de_glo hg (by rw [e]; exact h1) h2 (fun _ => rfl)
theorem de_C_MOST_DIGITS {T : Tb} {P : Program} {w : World} {mg : Str → Option Value} {base : Heap} (ev : Ev T P w mg base) {hx : HX} {X : Cx} {pos : Pos} (e : X.mg = mg) (hg : Gl X "MOST_DIGITS") : DE T hx X (.Name "MOST_DIGITS" pos) (mPure C_MOST_DIGITS) :=
  let ⟨_, h1, h2⟩ := ev.c_MOST_DIGITS
  de_glo hg (by rw [e]; exact h1) h2 (fun _ => rfl)
theorem de_C_MOST_LETTERS {T : Tb} {P : Program} {w : World} {mg : Str → Option Value} {base : Heap} (ev : Ev T P w mg base) {hx : HX} {X : Cx} {pos : Pos} (e : X.mg = mg) (hg : Gl X "MOST_LETTERS") : DE T hx X (.Name "MOST_LETTERS" pos) (mPure C_MOST_LETTERS) :=
  let ⟨_, h1, h2⟩ := ev.c_MOST_LETTERS
  de_glo hg (by rw [e]; exact h1) h2 (fun _ => rfl)
theorem de_C_MOST_NUMBER {T : Tb} {P : Program} {w : World} {mg : Str → Option Value} {base : Heap} (ev : Ev T P w mg base) {hx : HX} {X : Cx} {pos : Pos} (e : X.mg = mg) (hg : Gl X "MOST_NUMBER") : DE T hx X (.Name "MOST_NUMBER" pos) (mPure C_MOST_NUMBER) :=
  let ⟨_, h1, h2⟩ := ev.c_MOST_NUMBER
  de_glo hg (by rw [e]; exact h1) h2 (fun _ => rfl)

theorem d_is_word {T : Tb} {P : Program} {w : World} {mg : Str → Option Value} {base : Heap} (ev : Ev T P w mg base) : DF T P w T.K mg base "is_word" 3 P_is_word F_is_word :=
  df_mk (k := 2) ev.f_is_word sc_is_word fun f cdv A outer s H E hr =>
    (dss_cons (ds_if (DW.dt (dw_or (dt_not (dt_tru rfl (de_cb c_isi call_isi (by exact rfl) ev.b_isinstance boot_isinstance (da_cons (de_var (pv 0)) (da_cons (de_ty (by exact rfl) ev.b_str boot_str) da_nil rfl) rfl)) (fun _ => rfl))) (dw_or (dt_cmp (op_eqA hr.units) s_eq (de_var (pv 0)) de_str (nomark _)) (dw_or1 (dt_cmp op_gtA s_gt (de_cb c_len call_len (by exact rfl) ev.b_len boot_len (da_cons (de_var (pv 0)) da_nil rfl)) (de_C_MOST_LETTERS ev (by exact rfl) (by exact rfl)) (nomark _)))))) (dss_one (ds_ret de_bl)) dss_nil)
    (dss_cons (ds_for (passes_of rfl) rfl (di_iter rfl (de_var (pv 0))) (dg_name (pg_name sc_is_word.nd rfl (by first | exact .inl rfl | exact .inr rfl) (by first | exact .inr rfl | exact .inl rfl))) (dss_one (ds_if (dt_cmp (op_niA (Room.units65 hr)) s_ni (de_var (pv 1)) (de_C_LETTERS ev (by exact rfl) (by exact rfl)) (by with_unfolding_all rfl)) (dss_one (ds_ret de_bl)) dss_nil)) (fun _ => rfl))
    (dss_one (ds_ret de_bl))))

theorem d_is_number {T : Tb} {P : Program} {w : World} {mg : Str → Option Value} {base : Heap} (ev : Ev T P w mg base) : DF T P w T.K mg base "is_number" 3 P_is_number F_is_number :=
  df_mk (k := 2) ev.f_is_number sc_is_number fun f cdv A outer s H E hr =>
    (dss_one (ds_ret (de_and rfl (de_cb c_isi call_isi (by exact rfl) ev.b_isinstance boot_isinstance (da_cons (de_var (pv 0)) (da_cons (de_ty (by exact rfl) ev.b_int boot_int) da_nil rfl) rfl)) (de_one1 (de_ch op_leA s_le op_leA s_le de_int (de_var (pv 0)) (de_C_MOST_NUMBER ev (by exact rfl) (by exact rfl)) (by with_unfolding_all rfl))))))

theorem d_write_part {T : Tb} {P : Program} {w : World} {mg : Str → Option Value} {base : Heap} (ev : Ev T P w mg base) : ∀ n, DF T P w T.K mg base "write_part" (3 + n) P_write_part (F_write_part n) :=
  df_rec ev.f_write_part rfl fun n ih => df_mk (k := 3 + n) ev.f_write_part sc_write_part fun f cdv A outer s H E hr =>
    (dss_cons (ds_if (dt_tru rfl (de_call ((d_is_word ev).mono (by omega)) hr (by exact rfl) (da_cons (de_var (pv 0)) da_nil rfl)) (fun _ => rfl)) (dss_one (ds_ret (de_var (pv 0)))) dss_nil)
    (dss_cons (ds_if (dt_tru rfl (de_call ((d_is_number ev).mono (by omega)) hr (by exact rfl) (da_cons (de_var (pv 0)) da_nil rfl)) (fun _ => rfl)) (dss_one (ds_ret (de_ct c_str cr_str (by exact rfl) ev.b_str boot_str (da_cons (de_var (pv 0)) da_nil rfl)))) dss_nil)
    (dss_cons (ds_if (DW.dt (dw_or (dt_not (dt_tru rfl (de_cb c_isi call_isi (by exact rfl) ev.b_isinstance boot_isinstance (da_cons (de_var (pv 0)) (da_cons (de_ty (by exact rfl) ev.b_tuple boot_tuple) da_nil rfl) rfl)) (fun _ => rfl))) (dw_or1 (dt_cmp op_geA s_ge (de_cb c_len call_len (by exact rfl) ev.b_len boot_len (da_cons (de_var (pv 1)) da_nil rfl)) (de_C_MOST_DEPTH ev (by exact rfl) (by exact rfl)) (nomark _))))) (dss_one (ds_raise (ns := ["path"]) ev.ei_InvalidTerm (hr.mono (by omega)) rfl rfl (da_cons (de_var (pv 1)) da_nil rfl))) dss_nil)
    (dss_cons (ds_set sc_write_part.nd rfl (by first | exact .inl rfl | exact .inr rfl) (de_lst da_nil) rfl (by first | exact .inr rfl | exact .inl rfl))
    (dss_cons (ds_for (passes_of rfl) rfl (di_range1 (by exact rfl) ev.b_range (de_cb c_len call_len (by exact rfl) ev.b_len boot_len (da_cons (de_var (pv 0)) da_nil rfl)) (by exact rfl)) (dg_name (pg_name sc_write_part.nd rfl (by first | exact .inl rfl | exact .inr rfl) (by first | exact .inr rfl | exact .inl rfl))) (dss_one (ds_append rfl (pv 2) (de_call ih hr (by exact rfl) (da_cons (de_ix ix_seq s_ix (de_var (pv 0)) (de_var (pv 3)) (fun _ _ => rfl)) (da_cons (de_op op_addA s_add (de_var (pv 1)) (de_tup (da_cons (de_var (pv 3)) da_nil rfl))) da_nil rfl) rfl)))) (fun _ => rfl))
    (dss_one (ds_ret (de_op op_addA s_add (de_op op_addA s_add de_str (de_join rfl de_str (da_cons (de_var (pv 2)) da_nil rfl))) de_str))))))))

theorem d_write_term {T : Tb} {P : Program} {w : World} {mg : Str → Option Value} {base : Heap} (ev : Ev T P w mg base) : DF T P w T.K mg base "write_term" 68 P_write_term F_write_term :=
  df_mk (k := 67) ev.f_write_term sc_write_term fun f cdv A outer s H E hr =>
    (dss_one (ds_ret (de_call ((d_write_part ev 64).mono (by omega)) hr (by exact rfl) (da_cons (de_var (pv 0)) (da_cons (de_tup da_nil) da_nil rfl) rfl))))

theorem d_atom_end {T : Tb} {P : Program} {w : World} {mg : Str → Option Value} {base : Heap} (ev : Ev T P w mg base) : DF T P w T.K mg base "atom_end" 4 P_atom_end F_atom_end :=
  df_mk (k := 3) ev.f_atom_end sc_atom_end fun f cdv A outer s H E hr =>
    (dss_cons (ds_if (dt_cmp (op_eqA hr.units) s_eq (de_var (pv 1)) (de_cb c_len call_len (by exact rfl) ev.b_len boot_len (da_cons (de_var (pv 0)) da_nil rfl)) (nomark _)) (dss_one (ds_raise (ns := ["position"]) ev.ei_InvalidText (hr.mono (by omega)) rfl rfl (da_cons (de_var (pv 1)) da_nil rfl))) dss_nil)
    (dss_cons (ds_set sc_atom_end.nd rfl (by first | exact .inl rfl | exact .inr rfl) (de_C_LETTERS ev (by exact rfl) (by exact rfl)) rfl (by first | exact .inr rfl | exact .inl rfl))
    (dss_cons (ds_set sc_atom_end.nd rfl (by first | exact .inl rfl | exact .inr rfl) (de_C_MOST_LETTERS ev (by exact rfl) (by exact rfl)) rfl (by first | exact .inr rfl | exact .inl rfl))
    (dss_cons (ds_if (dt_cmp (op_inA (Room.units65 hr)) s_in (de_ix ix_seq s_ix (de_var (pv 0)) (de_var (pv 1)) (fun _ _ => rfl)) (de_C_DIGITS ev (by exact rfl) (by exact rfl)) (by with_unfolding_all rfl)) (dss_cons (ds_set sc_atom_end.nd rfl (by first | exact .inl rfl | exact .inr rfl) (de_C_DIGITS ev (by exact rfl) (by exact rfl)) rfl (by first | exact .inr rfl | exact .inl rfl))
    (dss_cons (ds_set sc_atom_end.nd rfl (by first | exact .inl rfl | exact .inr rfl) (de_C_MOST_DIGITS ev (by exact rfl) (by exact rfl)) rfl (by first | exact .inr rfl | exact .inl rfl))
    (dss_one (ds_if (dt_cmp (op_eqA hr.units) s_eq (de_ix ix_seq s_ix (de_var (pv 0)) (de_var (pv 1)) (fun _ _ => rfl)) de_str (nomark _)) (dss_one (ds_ret (de_op op_addA s_add (de_var (pv 1)) de_int))) dss_nil)))) dss_nil)
    (dss_cons (ds_if (dt_cmp (op_niA (Room.units65 hr)) s_ni (de_ix ix_seq s_ix (de_var (pv 0)) (de_var (pv 1)) (fun _ _ => rfl)) (de_var (pv 2)) (by with_unfolding_all rfl)) (dss_one (ds_raise (ns := ["position"]) ev.ei_InvalidText (hr.mono (by omega)) rfl rfl (da_cons (de_var (pv 1)) da_nil rfl))) dss_nil)
    (dss_cons (ds_set sc_atom_end.nd rfl (by first | exact .inl rfl | exact .inr rfl) (de_var (pv 1)) rfl (by first | exact .inr rfl | exact .inl rfl))
    (dss_cons (ds_while (passes_of rfl) (DW.dt (dw_and (dt_cmp op_ltA s_lt (de_var (pv 4)) (de_cb c_len call_len (by exact rfl) ev.b_len boot_len (da_cons (de_var (pv 0)) da_nil rfl)) (nomark _)) (dw_and (dt_cmp op_ltA s_lt (de_op op_sub s_sub (de_var (pv 4)) (de_var (pv 1))) (de_var (pv 3)) (nomark _)) (dw_and1 (dt_cmp (op_inA (Room.units65 hr)) s_in (de_ix ix_seq s_ix (de_var (pv 0)) (de_var (pv 4)) (fun _ _ => rfl)) (de_var (pv 2)) (by with_unfolding_all rfl)))))) (dss_one (ds_aug sc_atom_end.nd rfl (by first | exact .inl rfl | exact .inr rfl) de_int ip_add s_ipadd (by first | exact .inr rfl | exact .inl rfl))))
    (dss_one (ds_ret (de_var (pv 4)))))))))))

theorem d_atom {T : Tb} {P : Program} {w : World} {mg : Str → Option Value} {base : Heap} (ev : Ev T P w mg base) : DF T P w T.K mg base "atom" 3 P_atom F_atom :=
  df_mk (k := 2) ev.f_atom sc_atom fun f cdv A outer s H E hr =>
    (dss_cons (ds_if (dt_cmp (op_inA (Room.units65 hr)) s_in (de_ix ix_seq s_ix (de_var (pv 0)) de_int (fun _ _ => rfl)) (de_C_DIGITS ev (by exact rfl) (by exact rfl)) (by with_unfolding_all rfl)) (dss_one (ds_ret (de_ct c_int cr_int (by exact rfl) ev.b_int boot_int (da_cons (de_var (pv 0)) da_nil rfl)))) dss_nil)
    (dss_one (ds_ret (de_var (pv 0)))))

theorem d_whole {T : Tb} {P : Program} {w : World} {mg : Str → Option Value} {base : Heap} (ev : Ev T P w mg base) : DF T P w T.K mg base "whole" 4 P_whole F_whole :=
  df_mk (k := 3) ev.f_whole sc_whole fun f cdv A outer s H E hr =>
    (dss_cons (ds_if (dt_cmp (op_neA hr.units) s_ne (de_var (pv 2)) (de_cb c_len call_len (by exact rfl) ev.b_len boot_len (da_cons (de_var (pv 1)) da_nil rfl)) (nomark _)) (dss_one (ds_raise (ns := ["position"]) ev.ei_InvalidText (hr.mono (by omega)) rfl rfl (da_cons (de_var (pv 2)) da_nil rfl))) dss_nil)
    (dss_one (ds_ret (de_var (pv 0)))))

theorem d_read_term {T : Tb} {P : Program} {w : World} {mg : Str → Option Value} {base : Heap} (ev : Ev T P w mg base) : DF T P w T.K mg base "read_term" 5 P_read_term F_read_term :=
  df_mk (k := 4) ev.f_read_term sc_read_term fun f cdv A outer s H E hr =>
    (dss_cons (ds_newOl sc_read_term.nd rfl (by first | exact .inl rfl | exact .inr rfl) rfl (by first | exact .inr rfl | exact .inl rfl))
    (dss_cons (ds_set sc_read_term.nd rfl (by first | exact .inl rfl | exact .inr rfl) de_int rfl (by first | exact .inr rfl | exact .inl rfl))
    (dss_one (ds_while (passes_of rfl) (dt_tru rfl de_bl (fun _ => rfl)) (dss_cons (ds_if (dt_cmp (op_eqA hr.units) s_eq (de_sl rfl (de_var (pv 0)) (dp_some (de_var (pv 2))) (dp_some (de_op op_addA s_add (de_var (pv 2)) de_int))) de_str (nomark _)) (dss_cons (ds_if (dt_cmp (op_eqA hr.units) s_eq (de_lenOl rfl (by exact rfl) ev.b_len (pv 1)) (de_C_MOST_DEPTH ev (by exact rfl) (by exact rfl)) (nomark _)) (dss_one (ds_raise (ns := ["position"]) ev.ei_InvalidText (hr.mono (by omega)) rfl rfl (da_cons (de_var (pv 2)) da_nil rfl))) dss_nil)
    (dss_cons (ds_appNew rfl (pv 1) rfl rfl rfl rfl rfl rfl)
    (dss_cons (ds_aug sc_read_term.nd rfl (by first | exact .inl rfl | exact .inr rfl) de_int ip_add s_ipadd (by first | exact .inr rfl | exact .inl rfl))
    (dss_one (ds_if (dt_cmp (op_neA hr.units) s_ne (de_sl rfl (de_var (pv 0)) (dp_some (de_var (pv 2))) (dp_some (de_op op_addA s_add (de_var (pv 2)) de_int))) de_str (nomark _)) (dss_one ds_cont) dss_nil))))) (dss_cons (ds_set sc_read_term.nd rfl (by first | exact .inl rfl | exact .inr rfl) (de_call ((d_atom_end ev).mono (by omega)) hr (by exact rfl) (da_cons (de_var (pv 0)) (da_cons (de_var (pv 2)) da_nil rfl) rfl)) rfl (by first | exact .inr rfl | exact .inl rfl))
    (dss_cons (ds_set sc_read_term.nd rfl (by first | exact .inl rfl | exact .inr rfl) (de_call ((d_atom ev).mono (by omega)) hr (by exact rfl) (da_cons (de_sl rfl (de_var (pv 0)) (dp_some (de_var (pv 2))) (dp_some (de_var (pv 3)))) da_nil rfl)) rfl (by first | exact .inr rfl | exact .inl rfl))
    (dss_cons (ds_set sc_read_term.nd rfl (by first | exact .inl rfl | exact .inr rfl) (de_var (pv 3)) rfl (by first | exact .inr rfl | exact .inl rfl))
    (dss_cons (ds_if (dt_cmp (op_eqA hr.units) s_eq (de_lenOl rfl (by exact rfl) ev.b_len (pv 1)) de_int (nomark _)) (dss_one (ds_ret (de_call ((d_whole ev).mono (by omega)) hr (by exact rfl) (da_cons (de_var (pv 4)) (da_cons (de_var (pv 0)) (da_cons (de_var (pv 2)) da_nil rfl) rfl) rfl)))) dss_nil)
    (dss_one (ds_appLast rfl (pv 1) (pv 4) (fun _ _ => rfl) rfl rfl rfl rfl rfl rfl)))))))
    (dss_cons (ds_while (passes_of rfl) (dt_cmp (op_eqA hr.units) s_eq (de_sl rfl (de_var (pv 0)) (dp_some (de_var (pv 2))) (dp_some (de_op op_addA s_add (de_var (pv 2)) de_int))) de_str (nomark _)) (dss_cons (ds_aug sc_read_term.nd rfl (by first | exact .inl rfl | exact .inr rfl) de_int ip_add s_ipadd (by first | exact .inr rfl | exact .inl rfl))
    (dss_cons (ds_set sc_read_term.nd rfl (by first | exact .inl rfl | exact .inr rfl) (de_popTup rfl (by exact rfl) ev.b_tuple (pv 1)) rfl (by first | exact .inr rfl | exact .inl rfl))
    (dss_cons (ds_if (dt_cmp (op_eqA hr.units) s_eq (de_lenOl rfl (by exact rfl) ev.b_len (pv 1)) de_int (nomark _)) (dss_one (ds_ret (de_call ((d_whole ev).mono (by omega)) hr (by exact rfl) (da_cons (de_var (pv 4)) (da_cons (de_var (pv 0)) (da_cons (de_var (pv 2)) da_nil rfl) rfl) rfl)))) dss_nil)
    (dss_one (ds_appLast rfl (pv 1) (pv 4) (fun _ _ => rfl) rfl rfl rfl rfl rfl rfl))))))
    (dss_cons (ds_if (dt_cmp (op_neA hr.units) s_ne (de_sl rfl (de_var (pv 0)) (dp_some (de_var (pv 2))) (dp_some (de_op op_addA s_add (de_var (pv 2)) de_int))) de_str (nomark _)) (dss_one (ds_raise (ns := ["position"]) ev.ei_InvalidText (hr.mono (by omega)) rfl rfl (da_cons (de_var (pv 2)) da_nil rfl))) dss_nil)
    (dss_one (ds_aug sc_read_term.nd rfl (by first | exact .inl rfl | exact .inr rfl) de_int ip_add s_ipadd (by first | exact .inr rfl | exact .inl rfl))))))))))

theorem d__law_start {T : Tb} {P : Program} {w : World} {mg : Str → Option Value} {base : Heap} (ev : Ev T P w mg base) : DF T P w T.K mg base "_law_start" 3 P__law_start F__law_start :=
  df_mk (k := 2) ev.f__law_start sc__law_start fun f cdv A outer s H E hr =>
    (dss_cons (ds_set sc__law_start.nd rfl (by first | exact .inl rfl | exact .inr rfl) de_int rfl (by first | exact .inr rfl | exact .inl rfl))
    (dss_cons (ds_for (passes_of rfl) rfl (di_range1 (by exact rfl) ev.b_range (de_cb c_len call_len (by exact rfl) ev.b_len boot_len (da_cons (de_var (pv 0)) da_nil rfl)) (by exact rfl)) (dg_name (pg_name sc__law_start.nd rfl (by first | exact .inl rfl | exact .inr rfl) (by first | exact .inr rfl | exact .inl rfl))) (dss_one (ds_set sc__law_start.nd rfl (by first | exact .inl rfl | exact .inr rfl) (de_op op_mod s_mod (de_op op_addA s_add (de_op op_addA s_add (de_op op_addA s_add (de_op op_mulA s_mul (de_var (pv 1)) de_int) (de_op op_mod s_mod (de_ct c_int cr_int (by exact rfl) ev.b_int boot_int (da_cons (de_ix ix_seq s_ix (de_var (pv 0)) (de_var (pv 2)) (fun _ _ => rfl)) da_nil rfl)) de_int)) (de_var (pv 2))) de_int) de_int) rfl (by first | exact .inr rfl | exact .inl rfl))) (fun _ => rfl))
    (dss_one (ds_ret (de_lst (da_cons (de_var (pv 1)) (da_cons (de_ct c_listA (cr_listA (by exact rfl)) (by exact rfl) ev.b_list boot_list (da_cons (de_var (pv 0)) da_nil rfl)) (da_cons de_int (da_cons de_int da_nil rfl) rfl) rfl) rfl))))))

theorem d__law_pick {T : Tb} {P : Program} {w : World} {mg : Str → Option Value} {base : Heap} (ev : Ev T P w mg base) : DF T P w T.K mg base "_law_pick" 3 P__law_pick F__law_pick :=
  df_mk (k := 2) ev.f__law_pick sc__law_pick fun f cdv A outer s H E hr =>
    (dss_cons (ds_if (dt_cmp op_geA s_ge (de_ixV ix_seq s_ix (pv 0) de_int (fun _ _ => rfl)) (de_var (pv 1)) (nomark _)) (dss_cons (ds_set sc__law_pick.nd rfl (by first | exact .inl rfl | exact .inr rfl) (de_ct c_int cr_int (by exact rfl) ev.b_int boot_int (da_cons (de_ixV ix_seq s_ix (pv 0) de_int (fun _ _ => rfl)) da_nil rfl)) rfl (by first | exact .inr rfl | exact .inl rfl))
    (dss_cons (ds_setIx rfl (pv 0) de_int (de_op op_fdivW s_div (de_var (pv 4)) (de_var (pv 1))) set_list (fun _ => rfl) rfl rfl rfl)
    (dss_one (ds_ret (de_op op_mod s_mod (de_var (pv 4)) (de_var (pv 1))))))) dss_nil)
    (dss_cons (ds_set sc__law_pick.nd rfl (by first | exact .inl rfl | exact .inr rfl) de_int rfl (by first | exact .inr rfl | exact .inl rfl))
    (dss_cons (ds_if (dt_cmp op_ltA s_lt (de_ixV ix_seq s_ix (pv 0) de_int (fun _ _ => rfl)) (de_cb c_len call_len (by exact rfl) ev.b_len boot_len (da_cons (de_ixV ix_seq s_ix (pv 0) de_int (fun _ _ => rfl)) da_nil rfl)) (nomark _)) (dss_cons (ds_set sc__law_pick.nd rfl (by first | exact .inl rfl | exact .inr rfl) (de_ct c_int cr_int (by exact rfl) ev.b_int boot_int (da_cons (de_ix ix_seq s_ix (de_ixV ix_seq s_ix (pv 0) de_int (fun _ _ => rfl)) (de_ixV ix_seq s_ix (pv 0) de_int (fun _ _ => rfl)) (fun _ _ => rfl)) da_nil rfl)) rfl (by first | exact .inr rfl | exact .inl rfl))
    (dss_cons (ds_setIx rfl (pv 0) de_int (de_op op_addA s_add (de_ixV ix_seq s_ix (pv 0) de_int (fun _ _ => rfl)) de_int) set_list (fun _ => rfl) rfl rfl rfl)
    (dss_cons (ds_if (dt_cmp op_ltA s_lt (de_var (pv 2)) de_int (nomark _)) (dss_one (ds_set sc__law_pick.nd rfl (by first | exact .inl rfl | exact .inr rfl) (de_op op_sub s_sub de_int (de_var (pv 2))) rfl (by first | exact .inr rfl | exact .inl rfl))) dss_nil)
    (dss_one (ds_if (dt_cmp op_geA s_ge (de_var (pv 2)) (de_op op_pow s_pow de_int de_int) (nomark _)) (dss_cons (ds_setIx rfl (pv 0) de_int (de_op op_fdivW s_div (de_var (pv 2)) (de_var (pv 1))) set_list (fun _ => rfl) rfl rfl rfl)
    (dss_one (ds_ret (de_op op_mod s_mod (de_var (pv 2)) (de_var (pv 1)))))) dss_nil))))) dss_nil)
    (dss_cons (ds_set sc__law_pick.nd rfl (by first | exact .inl rfl | exact .inr rfl) (de_op op_mod s_mod (de_op op_mulA s_mul (de_op op_addA s_add (de_op op_addA s_add (de_ct c_int cr_int (by exact rfl) ev.b_int boot_int (da_cons (de_ixV ix_seq s_ix (pv 0) de_int (fun _ _ => rfl)) da_nil rfl)) (de_op op_mod s_mod (de_var (pv 2)) de_int)) de_int) de_int) de_int) rfl (by first | exact .inr rfl | exact .inl rfl))
    (dss_cons (ds_setIx rfl (pv 0) de_int (de_op op_mod s_mod (de_op op_addA s_add (de_op op_mulA s_mul (de_var (pv 3)) de_int) de_int) de_int) set_list (fun _ => rfl) rfl rfl rfl)
    (dss_one (ds_ret (de_op op_mod s_mod (de_op op_fdivW s_div (de_ct c_int cr_int (by exact rfl) ev.b_int boot_int (da_cons (de_ixV ix_seq s_ix (pv 0) de_int (fun _ _ => rfl)) da_nil rfl)) de_int) (de_var (pv 1))))))))))

theorem d__law_atom {T : Tb} {P : Program} {w : World} {mg : Str → Option Value} {base : Heap} (ev : Ev T P w mg base) : DF T P w T.K mg base "_law_atom" 4 P__law_atom F__law_atom :=
  df_mk (k := 3) ev.f__law_atom sc__law_atom fun f cdv A outer s H E hr =>
    (dss_cons (ds_if (dt_cmp (op_eqA hr.units) s_eq (de_call ((d__law_pick ev).mono (by omega)) hr (by exact rfl) (da_bor (pv 0) (da_cons de_int da_nil rfl) rfl)) de_int (nomark _)) (dss_cons (ds_set sc__law_atom.nd rfl (by first | exact .inl rfl | exact .inr rfl) de_str rfl (by first | exact .inr rfl | exact .inl rfl))
    (dss_cons (ds_set sc__law_atom.nd rfl (by first | exact .inl rfl | exact .inr rfl) (de_op op_addA s_add de_int (de_call ((d__law_pick ev).mono (by omega)) hr (by exact rfl) (da_bor (pv 0) (da_cons de_int da_nil rfl) rfl))) rfl (by first | exact .inr rfl | exact .inl rfl))
    (dss_one (ds_ret (de_join rfl de_str (da_cons (de_lc (own := [("k", 3)]) rfl sc__law_atom.nd (di_range1 (by exact rfl) ev.b_range (de_var (pv 2)) (by exact rfl)) (blkOk_by (N := N__law_atom) (sc := defScope s__law_atom) (by decide +kernel)) gs_name (by decide) (fun _ _ _ _ _ => pg_name sc__law_atom.nd rfl (by first | exact .inl rfl | exact .inr rfl) (by first | exact .inr rfl | exact .inl rfl)) (fun _ _ _ _ _ => dts_nil) (fun _ _ _ _ _ => (de_ix ix_seq s_ix (de_var (pv 1)) (de_call ((d__law_pick ev).mono (by omega)) hr (by exact rfl) (da_bor (pv 0) (da_cons de_int da_nil rfl) rfl)) (fun _ _ => rfl))) (fun _ => rfl)) da_nil rfl)))))) dss_nil)
    (dss_one (ds_ret (de_call ((d__law_pick ev).mono (by omega)) hr (by exact rfl) (da_bor (pv 0) (da_cons (de_ix ix_seq s_ix (de_lst (da_cons de_int (da_cons de_int (da_cons de_int (da_cons (de_op op_pow s_pow de_int de_int) da_nil rfl) rfl) rfl) rfl)) (de_call ((d__law_pick ev).mono (by omega)) hr (by exact rfl) (da_bor (pv 0) (da_cons de_int da_nil rfl) rfl)) (fun _ _ => rfl)) da_nil rfl) rfl)))))

theorem d__law_term {T : Tb} {P : Program} {w : World} {mg : Str → Option Value} {base : Heap} (ev : Ev T P w mg base) : ∀ n, DF T P w T.K mg base "_law_term" (4 + n) P__law_term (F__law_term n) :=
  df_rec ev.f__law_term rfl fun n ih => df_mk (k := 4 + n) ev.f__law_term sc__law_term fun f cdv A outer s H E hr =>
    (dss_cons (ds_if (DW.dt (dw_or (dt_cmp (op_eqA hr.units) s_eq (de_var (pv 1)) de_int (nomark _)) (dw_or1 (dt_cmp (op_eqA hr.units) s_eq (de_call ((d__law_pick ev).mono (by omega)) hr (by exact rfl) (da_bor (pv 0) (da_cons de_int da_nil rfl) rfl)) de_int (nomark _))))) (dss_one (ds_ret (de_call ((d__law_atom ev).mono (by omega)) hr (by exact rfl) (da_bor (pv 0) da_nil rfl)))) dss_nil)
    (dss_one (ds_ret (de_ct c_tuple call_tuple_of (by exact rfl) ev.b_tuple boot_tuple (da_cons (de_lc (own := [("k", 2)]) rfl sc__law_term.nd (di_range1 (by exact rfl) ev.b_range (de_call ((d__law_pick ev).mono (by omega)) hr (by exact rfl) (da_bor (pv 0) (da_cons de_int da_nil rfl) rfl)) (by exact rfl)) (blkOk_by (N := N__law_term) (sc := defScope s__law_term) (by decide +kernel)) gs_name (by decide) (fun _ _ _ _ _ => pg_name sc__law_term.nd rfl (by first | exact .inl rfl | exact .inr rfl) (by first | exact .inr rfl | exact .inl rfl)) (fun _ _ _ _ _ => dts_nil) (fun _ _ _ _ _ => (de_call ih hr (by exact rfl) (da_bor (pv 0) (da_cons (de_op op_sub s_sub (de_var (pv 1)) de_int) da_nil rfl) rfl))) (fun _ => rfl)) da_nil rfl)))))

theorem d__law_text {T : Tb} {P : Program} {w : World} {mg : Str → Option Value} {base : Heap} (ev : Ev T P w mg base) : ∀ n, DF T P w T.K mg base "_law_text" (2 + n) P__law_text (F__law_text n) :=
  df_rec ev.f__law_text rfl fun n ih => df_mk (k := 2 + n) ev.f__law_text sc__law_text fun f cdv A outer s H E hr =>
    (dss_cons (ds_if (dt_tru rfl (de_cb c_isi call_isi (by exact rfl) ev.b_isinstance boot_isinstance (da_cons (de_var (pv 0)) (da_cons (de_ty (by exact rfl) ev.b_tuple boot_tuple) da_nil rfl) rfl)) (fun _ => rfl)) (dss_one (ds_ret (de_op op_addA s_add (de_op op_addA s_add de_str (de_join rfl de_str (da_cons (de_lc (own := [("item", 1)]) rfl sc__law_text.nd (di_iter rfl (de_var (pv 0))) (blkOk_by (N := N__law_text) (sc := defScope s__law_text) (by decide +kernel)) gs_name (by decide) (fun _ _ _ _ _ => pg_name sc__law_text.nd rfl (by first | exact .inl rfl | exact .inr rfl) (by first | exact .inr rfl | exact .inl rfl)) (fun _ _ _ _ _ => dts_nil) (fun _ _ _ _ _ => (de_call ih hr (by exact rfl) (da_cons (de_var (pv 1)) da_nil rfl))) (fun _ => rfl)) da_nil rfl))) de_str))) dss_nil)
    (dss_one (ds_ret (de_ct c_str cr_str (by exact rfl) ev.b_str boot_str (da_cons (de_var (pv 0)) da_nil rfl)))))

theorem d__law_next {T : Tb} {P : Program} {w : World} {mg : Str → Option Value} {base : Heap} (ev : Ev T P w mg base) : DF T P w T.K mg base "_law_next" 3 P__law_next F__law_next :=
  df_mk (k := 2) ev.f__law_next sc__law_next fun f cdv A outer s H E hr =>
    (dss_cons (ds_set sc__law_next.nd rfl (by first | exact .inl rfl | exact .inr rfl) de_str rfl (by first | exact .inr rfl | exact .inl rfl))
    (dss_cons (ds_if (DW.dt (dw_or (dt_cmp (op_eqA hr.units) s_eq (de_var (pv 0)) de_str (nomark _)) (dw_or1 (dt_cmp (op_eqA hr.units) s_eq (de_var (pv 0)) de_str (nomark _))))) (dss_cons (ds_if (dt_cmp (op_inA (Room.units65 hr)) s_in (de_var (pv 3)) (de_var (pv 4)) (by with_unfolding_all rfl)) (dss_one (ds_ret (de_lst (da_cons de_str (da_cons de_int (da_cons (de_var (pv 2)) da_nil rfl) rfl) rfl)))) dss_nil)
    (dss_cons (ds_if (dt_cmp (op_eqA hr.units) s_eq (de_var (pv 3)) de_str (nomark _)) (dss_one (ds_ret (de_lst (da_cons de_str (da_cons de_int (da_cons (de_var (pv 2)) da_nil rfl) rfl) rfl)))) dss_nil)
    (dss_cons (ds_if (dt_cmp (op_inA (Room.units65 hr)) s_in (de_var (pv 3)) de_str (by with_unfolding_all rfl)) (dss_one (ds_ret (de_lst (da_cons de_str (da_cons de_int (da_cons (de_var (pv 2)) da_nil rfl) rfl) rfl)))) dss_nil)
    (dss_cons (ds_if (DW.dt (dw_and (dt_cmp (op_eqA hr.units) s_eq (de_var (pv 3)) de_str (nomark _)) (dw_and1 (dt_cmp op_ltA s_lt (de_var (pv 2)) de_int (nomark _))))) (dss_one (ds_ret (de_lst (da_cons de_str (da_cons de_int (da_cons (de_op op_addA s_add (de_var (pv 2)) de_int) da_nil rfl) rfl) rfl)))) dss_nil)
    (dss_cons (ds_if (DW.dt (dw_and (dt_cmp (op_eqA hr.units) s_eq (de_var (pv 3)) de_str (nomark _)) (dw_and1 (dt_cmp (op_eqA hr.units) s_eq (de_var (pv 0)) de_str (nomark _))))) (dss_one (ds_ret (de_lst (da_cons de_str (da_cons de_int (da_cons (de_op op_sub s_sub (de_var (pv 2)) de_int) da_nil rfl) rfl) rfl)))) dss_nil)
    (dss_one (ds_ret de_non))))))) dss_nil)
    (dss_cons (ds_if (DW.dt (dw_and (dt_cmp (op_eqA hr.units) s_eq (de_var (pv 0)) de_str (nomark _)) (dw_and (dt_cmp (op_inA (Room.units65 hr)) s_in (de_var (pv 3)) (de_var (pv 4)) (by with_unfolding_all rfl)) (dw_and1 (dt_cmp op_ltA s_lt (de_var (pv 1)) de_int (nomark _)))))) (dss_one (ds_ret (de_lst (da_cons de_str (da_cons (de_op op_addA s_add (de_var (pv 1)) de_int) (da_cons (de_var (pv 2)) da_nil rfl) rfl) rfl)))) dss_nil)
    (dss_cons (ds_if (DW.dt (dw_and (dt_cmp (op_eqA hr.units) s_eq (de_var (pv 0)) de_str (nomark _)) (dw_and (dt_cmp (op_inA (Room.units65 hr)) s_in (de_var (pv 3)) de_str (by with_unfolding_all rfl)) (dw_and1 (dt_cmp op_ltA s_lt (de_var (pv 1)) de_int (nomark _)))))) (dss_one (ds_ret (de_lst (da_cons de_str (da_cons (de_op op_addA s_add (de_var (pv 1)) de_int) (da_cons (de_var (pv 2)) da_nil rfl) rfl) rfl)))) dss_nil)
    (dss_cons (ds_if (DW.dt (dw_and (dt_cmp op_gtA s_gt (de_var (pv 2)) de_int (nomark _)) (dw_and1 (dt_cmp (op_eqA hr.units) s_eq (de_var (pv 3)) de_str (nomark _))))) (dss_one (ds_ret (de_lst (da_cons de_str (da_cons de_int (da_cons (de_var (pv 2)) da_nil rfl) rfl) rfl)))) dss_nil)
    (dss_cons (ds_if (DW.dt (dw_and (dt_cmp op_gtA s_gt (de_var (pv 2)) de_int (nomark _)) (dw_and1 (dt_cmp (op_eqA hr.units) s_eq (de_var (pv 3)) de_str (nomark _))))) (dss_one (ds_ret (de_lst (da_cons de_str (da_cons de_int (da_cons (de_op op_sub s_sub (de_var (pv 2)) de_int) da_nil rfl) rfl) rfl)))) dss_nil)
    (dss_one (ds_ret de_non))))))))

theorem d__law_fault {T : Tb} {P : Program} {w : World} {mg : Str → Option Value} {base : Heap} (ev : Ev T P w mg base) : DF T P w T.K mg base "_law_fault" 4 P__law_fault F__law_fault :=
  df_mk (k := 3) ev.f__law_fault sc__law_fault fun f cdv A outer s H E hr =>
    (dss_cons (ds_set sc__law_fault.nd rfl (by first | exact .inl rfl | exact .inr rfl) (de_lst (da_cons de_str (da_cons de_int (da_cons de_int da_nil rfl) rfl) rfl)) rfl (by first | exact .inr rfl | exact .inl rfl))
    (dss_cons (ds_for (passes_of rfl) rfl (di_range1 (by exact rfl) ev.b_range (de_cb c_len call_len (by exact rfl) ev.b_len boot_len (da_cons (de_var (pv 0)) da_nil rfl)) (by exact rfl)) (dg_name (pg_name sc__law_fault.nd rfl (by first | exact .inl rfl | exact .inr rfl) (by first | exact .inr rfl | exact .inl rfl))) (dss_cons (ds_set sc__law_fault.nd rfl (by first | exact .inl rfl | exact .inr rfl) (de_call ((d__law_next ev).mono (by omega)) hr (by exact rfl) (da_cons (de_ix ix_seq s_ix (de_var (pv 1)) de_int (fun _ _ => rfl)) (da_cons (de_ix ix_seq s_ix (de_var (pv 1)) de_int (fun _ _ => rfl)) (da_cons (de_ix ix_seq s_ix (de_var (pv 1)) de_int (fun _ _ => rfl)) (da_cons (de_ix ix_seq s_ix (de_var (pv 0)) (de_var (pv 2)) (fun _ _ => rfl)) da_nil rfl) rfl) rfl) rfl)) rfl (by first | exact .inr rfl | exact .inl rfl))
    (dss_one (ds_if (dt_isN (de_var (pv 1))) (dss_one (ds_ret (de_var (pv 2)))) dss_nil))) (fun _ => rfl))
    (dss_cons (ds_if (DW.dt (dw_and (dt_cmp (op_eqA hr.units) s_eq (de_ix ix_seq s_ix (de_var (pv 1)) de_int (fun _ _ => rfl)) de_int (nomark _)) (dw_and1 (dt_cmp (op_niA (Room.units65 hr)) s_ni (de_ix ix_seq s_ix (de_var (pv 1)) de_int (fun _ _ => rfl)) (de_lst (da_cons de_str (da_cons de_str da_nil rfl) rfl)) (by with_unfolding_all rfl))))) (dss_one (ds_ret (de_un un_neg s_neg de_int))) dss_nil)
    (dss_one (ds_ret (de_cb c_len call_len (by exact rfl) ev.b_len boot_len (da_cons (de_var (pv 0)) da_nil rfl)))))))

theorem d__law_spoilt {T : Tb} {P : Program} {w : World} {mg : Str → Option Value} {base : Heap} (ev : Ev T P w mg base) : DF T P w T.K mg base "_law_spoilt" 4 P__law_spoilt F__law_spoilt :=
  df_mk (k := 3) ev.f__law_spoilt sc__law_spoilt fun f cdv A outer s H E hr =>
    (dss_cons (ds_set sc__law_spoilt.nd rfl (by first | exact .inl rfl | exact .inr rfl) de_str rfl (by first | exact .inr rfl | exact .inl rfl))
    (dss_cons (ds_set sc__law_spoilt.nd rfl (by first | exact .inl rfl | exact .inr rfl) (de_call ((d__law_pick ev).mono (by omega)) hr (by exact rfl) (da_bor (pv 0) (da_cons (de_op op_addA s_add (de_cb c_len call_len (by exact rfl) ev.b_len boot_len (da_cons (de_var (pv 1)) da_nil rfl)) de_int) da_nil rfl) rfl)) rfl (by first | exact .inr rfl | exact .inl rfl))
    (dss_cons (ds_set sc__law_spoilt.nd rfl (by first | exact .inl rfl | exact .inr rfl) (de_call ((d__law_pick ev).mono (by omega)) hr (by exact rfl) (da_bor (pv 0) (da_cons de_int da_nil rfl) rfl)) rfl (by first | exact .inr rfl | exact .inl rfl))
    (dss_cons (ds_set sc__law_spoilt.nd rfl (by first | exact .inl rfl | exact .inr rfl) (de_ix ix_seq s_ix (de_var (pv 2)) (de_call ((d__law_pick ev).mono (by omega)) hr (by exact rfl) (da_bor (pv 0) (da_cons de_int da_nil rfl) rfl)) (fun _ _ => rfl)) rfl (by first | exact .inr rfl | exact .inl rfl))
    (dss_cons (ds_if (dt_cmp (op_eqA hr.units) s_eq (de_var (pv 4)) de_int (nomark _)) (dss_one (ds_ret (de_op op_addA s_add (de_sl rfl (de_var (pv 1)) dp_none (dp_some (de_var (pv 3)))) (de_sl rfl (de_var (pv 1)) (dp_some (de_op op_addA s_add (de_var (pv 3)) de_int)) dp_none)))) dss_nil)
    (dss_cons (ds_if (dt_cmp (op_eqA hr.units) s_eq (de_var (pv 4)) de_int (nomark _)) (dss_one (ds_ret (de_op op_addA s_add (de_op op_addA s_add (de_sl rfl (de_var (pv 1)) dp_none (dp_some (de_var (pv 3)))) (de_var (pv 5))) (de_sl rfl (de_var (pv 1)) (dp_some (de_var (pv 3))) dp_none)))) dss_nil)
    (dss_cons (ds_if (dt_cmp (op_eqA hr.units) s_eq (de_var (pv 4)) de_int (nomark _)) (dss_one (ds_ret (de_op op_addA s_add (de_op op_addA s_add (de_sl rfl (de_var (pv 1)) dp_none (dp_some (de_var (pv 3)))) (de_var (pv 5))) (de_sl rfl (de_var (pv 1)) (dp_some (de_op op_addA s_add (de_var (pv 3)) de_int)) dp_none)))) dss_nil)
    (dss_one (ds_ret (de_op op_addA s_add (de_var (pv 1)) (de_var (pv 5))))))))))))

theorem d__law_right {T : Tb} {P : Program} {w : World} {mg : Str → Option Value} {base : Heap} (ev : Ev T P w mg base) : DF T P w T.K mg base "_law_right" 3 P__law_right F__law_right :=
  df_mk (k := 2) ev.f__law_right sc__law_right fun f cdv A outer s H E hr =>
    (dss_cons (ds_if (dt_tru rfl (de_cb c_isi call_isi (by exact rfl) ev.b_isinstance boot_isinstance (da_cons (de_var (pv 0)) (da_cons (de_ty (by exact rfl) ev.b_str boot_str) da_nil rfl) rfl)) (fun _ => rfl)) (dss_one (ds_ret (de_and rfl (de_ch op_leA s_le op_leA s_le de_int (de_cb c_len call_len (by exact rfl) ev.b_len boot_len (da_cons (de_var (pv 0)) da_nil rfl)) de_int (by with_unfolding_all rfl)) (de_one1 (de_cb c_all (cr_all (by exact rfl)) (by exact rfl) ev.b_all boot_all (da_cons (de_lc (own := [("sign", 1)]) rfl sc__law_right.nd (di_iter rfl (de_var (pv 0))) (blkOk_by (N := N__law_right) (sc := defScope s__law_right) (by decide +kernel)) gs_name (by decide) (fun _ _ _ _ _ => pg_name sc__law_right.nd rfl (by first | exact .inl rfl | exact .inr rfl) (by first | exact .inr rfl | exact .inl rfl)) (fun _ _ _ _ _ => dts_nil) (fun _ _ _ _ _ => (de_cmp (op_inA (Room.units65 hr)) s_in (de_var (pv 1)) de_str (by with_unfolding_all rfl))) (fun _ => rfl)) da_nil rfl)))))) dss_nil)
    (dss_one (ds_ret (de_ch op_leA s_le op_ltA s_lt de_int (de_var (pv 0)) (de_op op_pow s_pow de_int de_int) (by with_unfolding_all rfl)))))

theorem d__law_first_wrong {T : Tb} {P : Program} {w : World} {mg : Str → Option Value} {base : Heap} (ev : Ev T P w mg base) : ∀ n, DF T P w T.K mg base "_law_first_wrong" (3 + n) P__law_first_wrong (F__law_first_wrong n) :=
  df_rec ev.f__law_first_wrong rfl fun n ih => df_mk (k := 3 + n) ev.f__law_first_wrong sc__law_first_wrong fun f cdv A outer s H E hr =>
    (dss_cons (ds_if (dt_not (dt_tru rfl (de_cb c_isi call_isi (by exact rfl) ev.b_isinstance boot_isinstance (da_cons (de_var (pv 0)) (da_cons (de_ty (by exact rfl) ev.b_tuple boot_tuple) da_nil rfl) rfl)) (fun _ => rfl))) (dss_one (ds_ret (de_ix ix_seq s_ix (de_lst (da_cons (de_var (pv 1)) (da_cons de_non da_nil rfl) rfl)) (de_ct c_int cr_int (by exact rfl) ev.b_int boot_int (da_cons (de_call ((d__law_right ev).mono (by omega)) hr (by exact rfl) (da_cons (de_var (pv 0)) da_nil rfl)) da_nil rfl)) (fun _ _ => rfl)))) dss_nil)
    (dss_cons (ds_if (dt_cmp op_geA s_ge (de_cb c_len call_len (by exact rfl) ev.b_len boot_len (da_cons (de_var (pv 1)) da_nil rfl)) de_int (nomark _)) (dss_one (ds_ret (de_var (pv 1)))) dss_nil)
    (dss_cons (ds_for (passes_of rfl) rfl (di_range1 (by exact rfl) ev.b_range (de_cb c_len call_len (by exact rfl) ev.b_len boot_len (da_cons (de_var (pv 0)) da_nil rfl)) (by exact rfl)) (dg_name (pg_name sc__law_first_wrong.nd rfl (by first | exact .inl rfl | exact .inr rfl) (by first | exact .inr rfl | exact .inl rfl))) (dss_cons (ds_set sc__law_first_wrong.nd rfl (by first | exact .inl rfl | exact .inr rfl) (de_call ih hr (by exact rfl) (da_cons (de_ix ix_seq s_ix (de_var (pv 0)) (de_var (pv 2)) (fun _ _ => rfl)) (da_cons (de_op op_addA s_add (de_var (pv 1)) (de_tup (da_cons (de_var (pv 2)) da_nil rfl))) da_nil rfl) rfl)) rfl (by first | exact .inr rfl | exact .inl rfl))
    (dss_one (ds_if (dt_isNN (de_var (pv 3))) (dss_one (ds_ret (de_var (pv 3)))) dss_nil))) (fun _ => rfl))
    (dss_one (ds_ret de_non)))))

theorem d__law_strayed {T : Tb} {P : Program} {w : World} {mg : Str → Option Value} {base : Heap} (ev : Ev T P w mg base) : ∀ n, DF T P w T.K mg base "_law_strayed" (3 + n) P__law_strayed (F__law_strayed n) :=
  df_rec ev.f__law_strayed rfl fun n ih => df_mk (k := 3 + n) ev.f__law_strayed sc__law_strayed fun f cdv A outer s H E hr =>
    (dss_cons (ds_if (DW.dt (dw_or (dt_not (dt_tru rfl (de_cb c_isi call_isi (by exact rfl) ev.b_isinstance boot_isinstance (da_cons (de_var (pv 1)) (da_cons (de_ty (by exact rfl) ev.b_tuple boot_tuple) da_nil rfl) rfl)) (fun _ => rfl))) (dw_or (dt_cmp (op_eqA hr.units) s_eq (de_cb c_len call_len (by exact rfl) ev.b_len boot_len (da_cons (de_var (pv 1)) da_nil rfl)) de_int (nomark _)) (dw_or1 (dt_cmp (op_eqA hr.units) s_eq (de_call ((d__law_pick ev).mono (by omega)) hr (by exact rfl) (da_bor (pv 0) (da_cons de_int da_nil rfl) rfl)) de_int (nomark _)))))) (dss_one (ds_ret (de_ix ix_seq s_ix (de_lst (da_cons de_str (da_cons de_str (da_cons de_str (da_cons de_str (da_cons de_str (da_cons (de_un un_neg s_neg de_int) (da_cons (de_op op_pow s_pow de_int de_int) da_nil rfl) rfl) rfl) rfl) rfl) rfl) rfl)) (de_call ((d__law_pick ev).mono (by omega)) hr (by exact rfl) (da_bor (pv 0) (da_cons de_int da_nil rfl) rfl)) (fun _ _ => rfl)))) dss_nil)
    (dss_cons (ds_set sc__law_strayed.nd rfl (by first | exact .inl rfl | exact .inr rfl) (de_call ((d__law_pick ev).mono (by omega)) hr (by exact rfl) (da_bor (pv 0) (da_cons (de_cb c_len call_len (by exact rfl) ev.b_len boot_len (da_cons (de_var (pv 1)) da_nil rfl)) da_nil rfl) rfl)) rfl (by first | exact .inr rfl | exact .inl rfl))
    (dss_one (ds_ret (de_op op_addA s_add (de_op op_addA s_add (de_sl rfl (de_var (pv 1)) dp_none (dp_some (de_var (pv 2)))) (de_tup (da_cons (de_call ih hr (by exact rfl) (da_bor (pv 0) (da_cons (de_ix ix_seq s_ix (de_var (pv 1)) (de_var (pv 2)) (fun _ _ => rfl)) da_nil rfl) rfl)) da_nil rfl))) (de_sl rfl (de_var (pv 1)) (dp_some (de_op op_addA s_add (de_var (pv 2)) de_int)) dp_none))))))

theorem d__law_same {T : Tb} {P : Program} {w : World} {mg : Str → Option Value} {base : Heap} (ev : Ev T P w mg base) : ∀ n, DF T P w T.K mg base "_law_same" (2 + n) P__law_same (F__law_same n) :=
  df_rec ev.f__law_same rfl fun n ih => df_mk (k := 2 + n) ev.f__law_same sc__law_same fun f cdv A outer s H E hr =>
    (dss_cons (ds_if (dt_tru rfl (de_cb c_isi call_isi (by exact rfl) ev.b_isinstance boot_isinstance (da_cons (de_var (pv 1)) (da_cons (de_ty (by exact rfl) ev.b_tuple boot_tuple) da_nil rfl) rfl)) (fun _ => rfl)) (dss_cons (ds_if (DW.dt (dw_or (dt_not (dt_tru rfl (de_cb c_isi call_isi (by exact rfl) ev.b_isinstance boot_isinstance (da_cons (de_var (pv 0)) (da_cons (de_ty (by exact rfl) ev.b_tuple boot_tuple) da_nil rfl) rfl)) (fun _ => rfl))) (dw_or1 (dt_cmp (op_neA hr.units) s_ne (de_cb c_len call_len (by exact rfl) ev.b_len boot_len (da_cons (de_var (pv 0)) da_nil rfl)) (de_cb c_len call_len (by exact rfl) ev.b_len boot_len (da_cons (de_var (pv 1)) da_nil rfl)) (nomark _))))) (dss_one (ds_ret de_bl)) dss_nil)
    (dss_one (ds_ret (de_cb c_all (cr_all (by exact rfl)) (by exact rfl) ev.b_all boot_all (da_cons (de_lc (own := [("k", 2)]) rfl sc__law_same.nd (di_range1 (by exact rfl) ev.b_range (de_cb c_len call_len (by exact rfl) ev.b_len boot_len (da_cons (de_var (pv 1)) da_nil rfl)) (by exact rfl)) (blkOk_by (N := N__law_same) (sc := defScope s__law_same) (by decide +kernel)) gs_name (by decide) (fun _ _ _ _ _ => pg_name sc__law_same.nd rfl (by first | exact .inl rfl | exact .inr rfl) (by first | exact .inr rfl | exact .inl rfl)) (fun _ _ _ _ _ => dts_nil) (fun _ _ _ _ _ => (de_call ih hr (by exact rfl) (da_cons (de_ix ix_seq s_ix (de_var (pv 0)) (de_var (pv 2)) (fun _ _ => rfl)) (da_cons (de_ix ix_seq s_ix (de_var (pv 1)) (de_var (pv 2)) (fun _ _ => rfl)) da_nil rfl) rfl))) (fun _ => rfl)) da_nil rfl))))) dss_nil)
    (dss_cons (ds_if (dt_tru rfl (de_cb c_isi call_isi (by exact rfl) ev.b_isinstance boot_isinstance (da_cons (de_var (pv 1)) (da_cons (de_ty (by exact rfl) ev.b_str boot_str) da_nil rfl) rfl)) (fun _ => rfl)) (dss_one (ds_ret (de_and rfl (de_cb c_isi call_isi (by exact rfl) ev.b_isinstance boot_isinstance (da_cons (de_var (pv 0)) (da_cons (de_ty (by exact rfl) ev.b_str boot_str) da_nil rfl) rfl)) (de_one1 (de_cmp (op_eqA hr.units) s_eq (de_var (pv 0)) (de_var (pv 1)) (nomark _)))))) dss_nil)
    (dss_one (ds_ret (de_and rfl (de_cb c_isi call_isi (by exact rfl) ev.b_isinstance boot_isinstance (da_cons (de_var (pv 0)) (da_cons (de_ty (by exact rfl) ev.b_int boot_int) da_nil rfl) rfl)) (de_and rfl (de_notV rfl (de_cb c_isi call_isi (by exact rfl) ev.b_isinstance boot_isinstance (da_cons (de_var (pv 0)) (da_cons (de_ty (by exact rfl) ev.b_bool boot_bool) da_nil rfl) rfl))) (de_one1 (de_cmp (op_eqA hr.units) s_eq (de_var (pv 0)) (de_var (pv 1)) (nomark _)))))))))

theorem d__law_is_term {T : Tb} {P : Program} {w : World} {mg : Str → Option Value} {base : Heap} (ev : Ev T P w mg base) : ∀ n, DF T P w T.K mg base "_law_is_term" (2 + n) P__law_is_term (F__law_is_term n) :=
  df_rec ev.f__law_is_term rfl fun n ih => df_mk (k := 2 + n) ev.f__law_is_term sc__law_is_term fun f cdv A outer s H E hr =>
    (dss_cons (ds_if (dt_tru rfl (de_cb c_isi call_isi (by exact rfl) ev.b_isinstance boot_isinstance (da_cons (de_var (pv 0)) (da_cons (de_ty (by exact rfl) ev.b_tuple boot_tuple) da_nil rfl) rfl)) (fun _ => rfl)) (dss_one (ds_ret (de_cb c_all (cr_all (by exact rfl)) (by exact rfl) ev.b_all boot_all (da_cons (de_lc (own := [("item", 1)]) rfl sc__law_is_term.nd (di_iter rfl (de_var (pv 0))) (blkOk_by (N := N__law_is_term) (sc := defScope s__law_is_term) (by decide +kernel)) gs_name (by decide) (fun _ _ _ _ _ => pg_name sc__law_is_term.nd rfl (by first | exact .inl rfl | exact .inr rfl) (by first | exact .inr rfl | exact .inl rfl)) (fun _ _ _ _ _ => dts_nil) (fun _ _ _ _ _ => (de_call ih hr (by exact rfl) (da_cons (de_var (pv 1)) da_nil rfl))) (fun _ => rfl)) da_nil rfl)))) dss_nil)
    (dss_cons (ds_if (dt_tru rfl (de_cb c_isi call_isi (by exact rfl) ev.b_isinstance boot_isinstance (da_cons (de_var (pv 0)) (da_cons (de_ty (by exact rfl) ev.b_str boot_str) da_nil rfl) rfl)) (fun _ => rfl)) (dss_one (ds_ret (de_cmp (op_inA (Room.units65 hr)) s_in (de_sl rfl (de_var (pv 0)) dp_none (dp_some de_int)) (de_ct c_listA (cr_listA (by exact rfl)) (by exact rfl) ev.b_list boot_list (da_cons de_str da_nil rfl)) (by with_unfolding_all rfl)))) dss_nil)
    (dss_one (ds_ret (de_and rfl (de_cb c_isi call_isi (by exact rfl) ev.b_isinstance boot_isinstance (da_cons (de_var (pv 0)) (da_cons (de_ty (by exact rfl) ev.b_int boot_int) da_nil rfl) rfl)) (de_one1 (de_notV rfl (de_cb c_isi call_isi (by exact rfl) ev.b_isinstance boot_isinstance (da_cons (de_var (pv 0)) (da_cons (de_ty (by exact rfl) ev.b_bool boot_bool) da_nil rfl) rfl)))))))))

theorem d__law_read {T : Tb} {P : Program} {w : World} {mg : Str → Option Value} {base : Heap} (ev : Ev T P w mg base) : DF T P w T.K mg base "_law_read" 6 P__law_read F__law_read :=
  df_mk (k := 5) ev.f__law_read sc__law_read fun f cdv A outer s H E hr =>
    (dss_one (ds_try rfl rfl rfl sc__law_read.nd rfl rfl ⟨rfl, by decide, .inl ev.g_InvalidText⟩ ev.k_InvalidText (fun pn xe hp => (dss_one (ds_ret (de_tup (da_cons de_str (da_cons (de_call ((d_read_term ev).mono (by omega)) hr (by exact rfl) (da_cons (de_var (pv 0)) da_nil rfl)) da_nil rfl) rfl))))) (fun a oe cls d pn hz hd => (dss_cons (ds_if (DW.dt (dw_or (dt_tru rfl (de_xis rfl ev.is_InvalidTerm hz hd (pv 1) (.ref (T.ca 2)) (fun _ h => h) (pe_glob rfl ev.g_InvalidTerm rfl) rfl ev.b_isinstance) (fun _ => rfl)) (dw_or1 (dt_not (dt_tru rfl (de_xis rfl ev.is_ChoosersError hz hd (pv 1) (.ref (T.ca 0)) (fun _ h => h) (pe_glob rfl ev.g_ChoosersError rfl) rfl ev.b_isinstance) (fun _ => rfl)))))) (dss_one (ds_ret (de_tup (da_cons de_str (da_cons (de_un un_neg s_neg de_int) da_nil rfl) rfl)))) dss_nil)
    (dss_one (ds_ret (de_tup (da_cons de_str (da_cons (de_xf rfl ev.xf_position hz hd (pv 1)) da_nil rfl) rfl))))))))

theorem d__law_wrong_path {T : Tb} {P : Program} {w : World} {mg : Str → Option Value} {base : Heap} (ev : Ev T P w mg base) : DF T P w T.K mg base "_law_wrong_path" 69 P__law_wrong_path F__law_wrong_path :=
  df_mk (k := 68) ev.f__law_wrong_path sc__law_wrong_path fun f cdv A outer s H E hr =>
    (dss_cons (ds_try rfl rfl rfl sc__law_wrong_path.nd rfl rfl ⟨rfl, by decide, .inl ev.g_ChoosersError⟩ ev.k_ChoosersError (fun pn xe hp => (dss_one (ds_drop (de_call ((d_write_term ev).mono (by omega)) hr (by exact rfl) (da_cons (de_var (pv 0)) da_nil rfl)) rfl))) (fun a oe cls d pn hz hd => (dss_one (ds_if (DW.dt (dw_and (dt_tru rfl (de_xis rfl ev.is_InvalidTerm hz hd (pv 1) (.ref (T.ca 2)) (fun _ h => h) (pe_glob rfl ev.g_InvalidTerm rfl) rfl ev.b_isinstance) (fun _ => rfl)) (dw_and1 (dt_tru rfl (de_xis rfl ev.is_ValueError hz hd (pv 1) (.ty "ValueError") (fun _ h => h) (pe_bltn (v := .ty "ValueError") rfl ev.b_ValueError PyProof.Rows.Boot.«ValueError» rfl) rfl ev.b_isinstance) (fun _ => rfl))))) (dss_one (ds_ret (de_xf rfl ev.xf_path hz hd (pv 1)))) dss_nil))))
    (dss_one (ds_ret de_non)))

theorem d__law_deep_told {T : Tb} {P : Program} {w : World} {mg : Str → Option Value} {base : Heap} (ev : Ev T P w mg base) : DF T P w T.K mg base "_law_deep_told" 70 P__law_deep_told F__law_deep_told :=
  df_mk (k := 69) ev.f__law_deep_told sc__law_deep_told fun f cdv A outer s H E hr =>
    (dss_cons (ds_set sc__law_deep_told.nd rfl (by first | exact .inl rfl | exact .inr rfl) (de_call ((d__law_strayed ev 64).mono (by omega)) hr (by exact rfl) (da_bor (pv 0) (da_cons (de_call ((d__law_term ev 64).mono (by omega)) hr (by exact rfl) (da_bor (pv 0) (da_cons de_int da_nil rfl) rfl)) da_nil rfl) rfl)) rfl (by first | exact .inr rfl | exact .inl rfl))
    (dss_cons (ds_for (passes_of rfl) rfl (di_iter rfl (de_lst (da_cons (de_var (pv 1)) (da_cons (de_tup (da_cons (de_var (pv 1)) (da_cons (de_var (pv 2)) da_nil rfl) rfl)) (da_cons (de_tup (da_cons (de_var (pv 2)) (da_cons (de_var (pv 1)) da_nil rfl) rfl)) da_nil rfl) rfl) rfl))) (dg_name (pg_name sc__law_deep_told.nd rfl (by first | exact .inl rfl | exact .inr rfl) (by first | exact .inr rfl | exact .inl rfl))) (dss_one (ds_if (dt_not (dt_tru rfl (de_call ((d__law_same ev 64).mono (by omega)) hr (by exact rfl) (da_cons (de_call ((d__law_wrong_path ev).mono (by omega)) hr (by exact rfl) (da_cons (de_var (pv 3)) da_nil rfl)) (da_cons (de_call ((d__law_first_wrong ev 64).mono (by omega)) hr (by exact rfl) (da_cons (de_var (pv 3)) (da_cons (de_tup da_nil) da_nil rfl) rfl)) da_nil rfl) rfl)) (fun _ => rfl))) (dss_one (ds_ret de_bl)) dss_nil)) (fun _ => rfl))
    (dss_one (ds_ret de_bl))))

theorem d_law {T : Tb} {P : Program} {w : World} {mg : Str → Option Value} {base : Heap} (ev : Ev T P w mg base) : DF T P w T.K mg base "law" 71 P_law F_law :=
  df_mk (k := 70) ev.f_law sc_law fun f cdv A outer s H E hr =>
    (dss_cons (ds_set sc_law.nd rfl (by first | exact .inl rfl | exact .inr rfl) (de_call ((d__law_start ev).mono (by omega)) hr (by exact rfl) (da_cons (de_var (pv 0)) da_nil rfl)) rfl (by first | exact .inr rfl | exact .inl rfl))
    (dss_cons (ds_set sc_law.nd rfl (by first | exact .inl rfl | exact .inr rfl) (de_call ((d__law_term ev 64).mono (by omega)) hr (by exact rfl) (da_bor (pv 1) (da_cons de_int da_nil rfl) rfl)) rfl (by first | exact .inr rfl | exact .inl rfl))
    (dss_cons (ds_if (dt_cmp (op_eqA hr.units) s_eq (de_call ((d__law_pick ev).mono (by omega)) hr (by exact rfl) (da_bor (pv 1) (da_cons de_int da_nil rfl) rfl)) de_int (nomark _)) (dss_one (ds_for (passes_of rfl) rfl (di_range1 (by exact rfl) ev.b_range (de_op op_addA s_add de_int (de_call ((d__law_pick ev).mono (by omega)) hr (by exact rfl) (da_bor (pv 1) (da_cons de_int da_nil rfl) rfl))) (by exact rfl)) (dg_name (pg_name sc_law.nd rfl (by first | exact .inl rfl | exact .inr rfl) (by first | exact .inr rfl | exact .inl rfl))) (dss_one (ds_set sc_law.nd rfl (by first | exact .inl rfl | exact .inr rfl) (de_tup (da_cons (de_var (pv 2)) da_nil rfl)) rfl (by first | exact .inr rfl | exact .inl rfl))) (fun _ => rfl))) dss_nil)
    (dss_cons (ds_if (dt_isNN (de_call ((d__law_first_wrong ev 64).mono (by omega)) hr (by exact rfl) (da_cons (de_var (pv 2)) (da_cons (de_tup da_nil) da_nil rfl) rfl))) (dss_one (ds_ret (de_call ((d__law_deep_told ev).mono (by omega)) hr (by exact rfl) (da_bor (pv 1) (da_cons (de_var (pv 2)) da_nil rfl) rfl)))) dss_nil)
    (dss_cons (ds_set sc_law.nd rfl (by first | exact .inl rfl | exact .inr rfl) (de_call ((d__law_text ev 64).mono (by omega)) hr (by exact rfl) (da_cons (de_var (pv 2)) da_nil rfl)) rfl (by first | exact .inr rfl | exact .inl rfl))
    (dss_cons (ds_if (DW.dt (dw_or (dt_not (dt_tru rfl (de_call ((d__law_same ev 64).mono (by omega)) hr (by exact rfl) (da_cons (de_call ((d_write_term ev).mono (by omega)) hr (by exact rfl) (da_cons (de_var (pv 2)) da_nil rfl)) (da_cons (de_var (pv 3)) da_nil rfl) rfl)) (fun _ => rfl))) (dw_or1 (dt_not (dt_tru rfl (de_call ((d__law_same ev 64).mono (by omega)) hr (by exact rfl) (da_cons (de_call ((d__law_read ev).mono (by omega)) hr (by exact rfl) (da_cons (de_var (pv 3)) da_nil rfl)) (da_cons (de_tup (da_cons de_str (da_cons (de_var (pv 2)) da_nil rfl) rfl)) da_nil rfl) rfl)) (fun _ => rfl)))))) (dss_one (ds_ret de_bl)) dss_nil)
    (dss_cons (ds_set sc_law.nd rfl (by first | exact .inl rfl | exact .inr rfl) (de_call ((d__law_spoilt ev).mono (by omega)) hr (by exact rfl) (da_bor (pv 1) (da_cons (de_var (pv 3)) da_nil rfl) rfl)) rfl (by first | exact .inr rfl | exact .inl rfl))
    (dss_cons (ds_set sc_law.nd rfl (by first | exact .inl rfl | exact .inr rfl) (de_call ((d__law_fault ev).mono (by omega)) hr (by exact rfl) (da_cons (de_var (pv 4)) da_nil rfl)) rfl (by first | exact .inr rfl | exact .inl rfl))
    (dss_cons (ds_set sc_law.nd rfl (by first | exact .inl rfl | exact .inr rfl) (de_call ((d__law_read ev).mono (by omega)) hr (by exact rfl) (da_cons (de_var (pv 4)) da_nil rfl)) rfl (by first | exact .inr rfl | exact .inl rfl))
    (dss_cons (ds_if (DW.dt (dw_and (dt_cmp op_geA s_ge (de_var (pv 5)) de_int (nomark _)) (dw_and1 (dt_not (dt_tru rfl (de_call ((d__law_same ev 64).mono (by omega)) hr (by exact rfl) (da_cons (de_var (pv 6)) (da_cons (de_tup (da_cons de_str (da_cons (de_var (pv 5)) da_nil rfl) rfl)) da_nil rfl) rfl)) (fun _ => rfl)))))) (dss_one (ds_ret de_bl)) dss_nil)
    (dss_cons (ds_if (DW.dt (dw_and (dt_cmp op_ltA s_lt (de_var (pv 5)) de_int (nomark _)) (dw_and1 (DW.dt (dw_or (dt_cmp (op_neA hr.units) s_ne (de_ix ix_seq s_ix (de_var (pv 6)) de_int (fun _ _ => rfl)) de_str (nomark _)) (dw_or (dt_not (dt_tru rfl (de_call ((d__law_is_term ev 64).mono (by omega)) hr (by exact rfl) (da_cons (de_ix ix_seq s_ix (de_var (pv 6)) de_int (fun _ _ => rfl)) da_nil rfl)) (fun _ => rfl))) (dw_or1 (dt_cmp (op_neA hr.units) s_ne (de_call ((d__law_text ev 64).mono (by omega)) hr (by exact rfl) (da_cons (de_ix ix_seq s_ix (de_var (pv 6)) de_int (fun _ _ => rfl)) da_nil rfl)) (de_var (pv 4)) (nomark _))))))))) (dss_one (ds_ret de_bl)) dss_nil)
    (dss_cons (ds_set sc_law.nd rfl (by first | exact .inl rfl | exact .inr rfl) (de_call ((d__law_strayed ev 64).mono (by omega)) hr (by exact rfl) (da_bor (pv 1) (da_cons (de_call ((d__law_strayed ev 64).mono (by omega)) hr (by exact rfl) (da_bor (pv 1) (da_cons (de_var (pv 2)) da_nil rfl) rfl)) da_nil rfl) rfl)) rfl (by first | exact .inr rfl | exact .inl rfl))
    (dss_one (ds_ret (de_call ((d__law_same ev 64).mono (by omega)) hr (by exact rfl) (da_cons (de_call ((d__law_wrong_path ev).mono (by omega)) hr (by exact rfl) (da_cons (de_var (pv 7)) da_nil rfl)) (da_cons (de_call ((d__law_first_wrong ev 64).mono (by omega)) hr (by exact rfl) (da_cons (de_var (pv 7)) (da_cons (de_tup da_nil) da_nil rfl) rfl)) da_nil rfl) rfl))))))))))))))))

end LW

set_option Elab.async false
set_option linter.all false
set_option maxRecDepth 100000
set_option maxHeartbeats 4000000
namespace LW
open PySem DV
theorem log_lt {i : Int} {k : Nat} (h : i.natAbs < 2 ^ k) : i.natAbs.log2 ≤ k := by
  by_cases h0 : i.natAbs = 0
  · rw [h0]; simp
  · exact Nat.le_of_lt ((Nat.log2_lt h0).mpr h)
theorem div_ok {i j : Int} (h : 0 < j) (h2 : j < 2 ^ 64) : opDiv (.int i) (.int j) = some (.fz (.int (i / j))) := by
  exact if_pos ⟨h, Nat.lt_of_le_of_lt (log_lt (k := 64) (by omega)) (by decide)⟩
theorem mul_ok {i j : Int} (h : -2 ^ 64 < i) (h2 : i < 2 ^ 64) (h3 : -2 ^ 64 < j) (h4 : j < 2 ^ 64) : opMul (.int i) (.int j) = some (.fz (.int (i * j))) := by
  exact if_pos (Nat.lt_of_le_of_lt (Nat.add_le_add (log_lt (k := 64) (by omega)) (log_lt (k := 64) (by omega))) (by decide))
@[simp] theorem pow18 : opPow (.int 10) (.int 18) = some (.fz (.int 1000000000000000000)) := by rfl
@[simp] theorem pow9 : opPow (.int 10) (.int 9) = some (.fz (.int 1000000000)) := by rfl
def Wst (st : D) : Prop := ∃ (a c d : Int) (ns : List Int), st = .lst [.int a, .lst (ns.map .int), .int c, .int d] ∧ 0 ≤ c ∧ 0 ≤ a ∧ a < 2147483647
theorem pick_ok {st : D} {n : Int} (h : Wst st) (h1 : 0 < n) (h2 : n < 2 ^ 40) : ∃ (r : Int) (st' : D), Wst st' ∧ 0 ≤ r ∧ r < n ∧ F__law_pick [.io st, .fz (.int n)] = .ok (.fz (.int r)) [.io st', .fz (.int n)] := by
  obtain ⟨a, c, d, ns, rfl, hc, ha, ha2⟩ := h
  unfold F__law_pick
  rw [runF_eq (by simp)]
  have dv : ∀ i : Int, opDiv (.int i) (.int n) = some (.fz (.int (i / n))) := fun i => div_ok h1 (by omega)
  have d7 : ∀ i : Int, opDiv (.int i) (.int 7) = some (.fz (.int (i / 7))) := fun i => div_ok (by omega) (by omega)
  have rest : ∀ (cell c' : Int), 0 ≤ c' → ∃ (r : Int) (st' : D), Wst st' ∧ 0 ≤ r ∧ r < n ∧ (D.lst [.int ((((a + cell % 2147483647 + 1) * 48271 % 2147483647) * 69621 + 12345) % 2147483647), .lst (ns.map .int), .int c', .int d] = st') ∧ ((((a + cell % 2147483647 + 1) * 48271 % 2147483647) * 69621 + 12345) % 2147483647) / 7 % n = r := fun cell c' h' =>
    ⟨_, _, ⟨_, _, _, ns, rfl, h', Int.emod_nonneg _ (by omega), Int.emod_lt_of_pos _ (by omega)⟩, Int.emod_nonneg _ (by omega), Int.emod_lt_of_pos _ h1, rfl, rfl⟩
  have m1 : ∀ cell : Int, opMul (.int (a + cell % 2147483647 + 1)) (.int 48271) = some (.fz (.int ((a + cell % 2147483647 + 1) * 48271))) := fun cell => mul_ok (by omega) (by omega) (by omega) (by omega)
  have m2 : ∀ z : Int, opMul (.int (z % 2147483647)) (.int 69621) = some (.fz (.int (z % 2147483647 * 69621))) := fun z => mul_ok (by omega) (by omega) (by omega) (by omega)
  by_cases hd : n ≤ d
  · refine ⟨d % n, _, ⟨a, c, d / n, ns, rfl, hc, ha, ha2⟩, Int.emod_nonneg _ (by omega), Int.emod_lt_of_pos _ h1, ?_⟩
    simp [m__law_pick, opIx, L2.atI, L2.ixN, hd, h1, dv]
  · by_cases hk : c < (ns.length : Int)
    · have hlt : c.toNat < ns.length := by omega
      obtain ⟨cell0, he⟩ : ∃ x, ns[c.toNat]'hlt = x := ⟨_, rfl⟩
      by_cases hn : cell0 < 0
      · by_cases hb : 1000000000000000000 ≤ 1 - cell0
        · refine ⟨(1 - cell0) % n, _, ⟨a, c + 1, (1 - cell0) / n, ns, rfl, by omega, ha, ha2⟩, Int.emod_nonneg _ (by omega), Int.emod_lt_of_pos _ h1, ?_⟩
          simp [m__law_pick, opIx, L2.atI, L2.ixN, hd, h1, dv, hk, hc, he, hn, hb]
        · obtain ⟨r, st', w, r0, r1, rfl, rfl⟩ := rest (1 - cell0) (c + 1) (by omega)
          refine ⟨_, _, w, r0, r1, ?_⟩
          simp [m__law_pick, opIx, L2.atI, L2.ixN, hd, h1, dv, d7, m1, m2, hk, hc, he, hn, hb]
      · by_cases hb : 1000000000000000000 ≤ cell0
        · refine ⟨cell0 % n, _, ⟨a, c + 1, cell0 / n, ns, rfl, by omega, ha, ha2⟩, Int.emod_nonneg _ (by omega), Int.emod_lt_of_pos _ h1, ?_⟩
          simp [m__law_pick, opIx, L2.atI, L2.ixN, hd, h1, dv, hk, hc, he, hn, hb]
        · obtain ⟨r, st', w, r0, r1, rfl, rfl⟩ := rest cell0 (c + 1) (by omega)
          refine ⟨_, _, w, r0, r1, ?_⟩
          simp [m__law_pick, opIx, L2.atI, L2.ixN, hd, h1, dv, d7, m1, m2, hk, hc, he, hn, hb]
    · obtain ⟨r, st', w, r0, r1, rfl, rfl⟩ := rest 11 c hc
      refine ⟨_, _, w, r0, r1, ?_⟩
      have m0 : opMul (.int (a + 11 + 1)) (.int 48271) = some (.fz (.int ((a + 11 + 1) * 48271))) := mul_ok (by omega) (by omega) (by omega) (by omega)
      simp [m__law_pick, opIx, L2.atI, L2.ixN, hd, h1, dv, d7, m0, m2, hk]
end LW

set_option Elab.async false
set_option linter.all false
set_option maxRecDepth 100000
set_option maxHeartbeats 4000000
namespace LW
open PySem DV SX
@[simp] theorem S_len2 (l : List Nat) : (S l).length = l.length := S_len l
theorem eqD_str (x y : Str) : eqD (.str x) (.str y) = some (decide (x = y)) := by
  unfold eqD
  simp [D.flat, D.py, PyData.eqv]
  cases h : decide (x = y)
  · exact beq_eq_false_iff_ne.mpr (of_decide_eq_false h)
  · exact beq_iff_eq.mpr (of_decide_eq_true h)
theorem eqS (a b : List Nat) : decide (S a = S b) = decide (a = b) := by
  have e : (S a = S b) = (a = b) := propext ⟨S_inj, fun h => by rw [h]⟩
  simp [e]
@[simp] theorem opEq_S (a b : List Nat) : opEq (.str (S a)) (.str (S b)) = some (.fz (.bl (decide (a = b)))) := by
  unfold opEq
  rw [eqD_str, eqS] <;> rfl
@[simp] theorem opNe_S (a b : List Nat) : opNe (.str (S a)) (.str (S b)) = some (.fz (.bl (!decide (a = b)))) := by
  unfold opNe
  rw [eqD_str, eqS] <;> rfl
theorem eqD_int (i j : Int) : eqD (.int i) (.int j) = some (decide (i = j)) := by
  unfold eqD
  simp [D.flat, D.py, PyData.eqv]
  cases h : decide (i = j)
  · exact beq_eq_false_iff_ne.mpr (of_decide_eq_false h)
  · exact beq_iff_eq.mpr (of_decide_eq_true h)
@[simp] theorem opEq_int (i j : Int) : opEq (.int i) (.int j) = some (.fz (.bl (decide (i = j)))) := by
  unfold opEq
  rw [eqD_int] <;> rfl
@[simp] theorem opNe_int (i j : Int) : opNe (.int i) (.int j) = some (.fz (.bl (!decide (i = j)))) := by
  unfold opNe
  rw [eqD_int] <;> rfl
@[simp] theorem opIn_S (c : Nat) (l : List Nat) : opIn (.str (S [c])) (.str (S l)) = some (.fz (.bl (decide (c ∈ l)))) := rfl
@[simp] theorem opNi_S (c : Nat) (l : List Nat) : opNotIn (.str (S [c])) (.str (S l)) = some (.fz (.bl (!decide (c ∈ l)))) := rfl
theorem opIx_S {l : List Nat} {a : Nat} {c : Nat} (h : l[a]? = some c) (hl : l.length ≤ sizeLine) : opIx (.str (S l)) (.int (a : Int)) = some (.fz (.str (S [c]))) := by
  show (if (S l).length ≤ sizeLine then _ else none) = _
  rw [if_pos (by rw [S_len]; exact hl)]
  show Option.map _ (L2.atI l (a : Int)) = _
  have ha : a < l.length := (List.getElem?_eq_some_iff.mp h).1
  unfold L2.atI L2.ixN
  rw [if_pos (by omega), if_pos (by omega)]
  show Option.map _ (l[(a : Int).toNat]?) = _
  rw [Int.toNat_natCast, h]
  rfl
theorem cut_S {l : List Nat} {a b : Nat} (hl : l.length ≤ sizeLine) : opSl (.str (S l)) (some (a : Int)) (some (b : Int)) = some (.fz (.str (S ((l.drop a).take (b - a))))) := by
  show (if (S l).length ≤ sizeLine then _ else none) = _
  rw [if_pos (by rw [S_len]; exact hl)]
  show some (Vc.fz (.str (S ((l.drop (HT.sIx (S l).length 0 (some (a : Int)))).take (HT.sIx (S l).length (S l).length (some (b : Int)) - HT.sIx (S l).length 0 (some (a : Int))))))) = _
  rw [HT.sIx_nat, HT.sIx_nat, S_len]
  congr 4
  by_cases h : a ≤ l.length
  · rw [Nat.min_eq_left h]
    by_cases h2 : b ≤ l.length
    · rw [Nat.min_eq_left h2]
    · rw [show min b l.length = l.length by omega, List.take_of_length_le (by rw [List.length_drop]; omega), List.take_of_length_le (by rw [List.length_drop]; omega)]
  · rw [show min a l.length = l.length by omega, List.drop_of_length_le (l := l) (Nat.le_refl _), List.drop_of_length_le (l := l) (i := a) (by omega)]
    simp
theorem cut_1 {l : List Nat} {a : Nat} (hl : l.length ≤ sizeLine) : opSl (.str (S l)) (some (a : Int)) (some ((a : Int) + 1)) = some (.fz (.str (S ((l.drop a).take 1)))) := by
  have := cut_S (l := l) (a := a) (b := a + 1) hl
  rw [show a + 1 - a = 1 by omega] at this
  exact this
theorem cut_lo {l : List Nat} {b : Nat} (hl : l.length ≤ sizeLine) : opSl (.str (S l)) none (some (b : Int)) = some (.fz (.str (S (l.take b)))) := by
  have := cut_S (l := l) (a := 0) (b := b) hl
  rw [List.drop_zero, Nat.sub_zero] at this
  rw [← this]
  show (if (S l).length ≤ sizeLine then _ else none) = (if (S l).length ≤ sizeLine then _ else none)
  rfl
theorem cut_hi {l : List Nat} {a : Nat} (hl : l.length ≤ sizeLine) : opSl (.str (S l)) (some (a : Int)) none = some (.fz (.str (S (l.drop a)))) := by
  have := cut_S (l := l) (a := a) (b := l.length) hl
  rw [List.take_of_length_le (by rw [List.length_drop]; omega)] at this
  rw [← this]
  show (if (S l).length ≤ sizeLine then some (Vc.fz (.str (S ((l.drop (HT.sIx (S l).length 0 (some (a : Int)))).take (HT.sIx (S l).length (S l).length none - HT.sIx (S l).length 0 (some (a : Int))))))) else none) = (if (S l).length ≤ sizeLine then some (Vc.fz (.str (S ((l.drop (HT.sIx (S l).length 0 (some (a : Int)))).take (HT.sIx (S l).length (S l).length (some (l.length : Int)) - HT.sIx (S l).length 0 (some (a : Int))))))) else none)
  rw [HT.sIx_nat, HT.sIx_none, S_len, HT.sIx_nat, Nat.min_self]
theorem letters_mem (c : Nat) : c ∈ ("abcdefghijklmnopqrstuvwxyz" : Str).cps.toList ↔ 97 ≤ c ∧ c ≤ 122 := by
  have e : ("abcdefghijklmnopqrstuvwxyz" : Str).cps.toList = List.range' 97 26 := by decide +kernel
  rw [e, List.mem_range'_1]
  omega
theorem digits_mem (c : Nat) : c ∈ ("0123456789" : Str).cps.toList ↔ 48 ≤ c ∧ c ≤ 57 := by
  have e : ("0123456789" : Str).cps.toList = List.range' 48 10 := by decide +kernel
  rw [e, List.mem_range'_1]
  omega
theorem digits1_mem (c : Nat) : c ∈ ("123456789" : Str).cps.toList ↔ 49 ≤ c ∧ c ≤ 57 := by
  have e : ("123456789" : Str).cps.toList = List.range' 49 9 := by decide +kernel
  rw [e, List.mem_range'_1]
  omega
def LETS : List Nat := List.range' 97 26
def DIGS : List Nat := List.range' 48 10
def DIG1 : List Nat := List.range' 49 9
@[simp] theorem lit_lets : (Str.ofString "abcdefghijklmnopqrstuvwxyz") = S LETS := by decide +kernel
@[simp] theorem lit_digs : (Str.ofString "0123456789") = S DIGS := by decide +kernel
@[simp] theorem lit_digs1 : (Str.ofString "123456789") = S DIG1 := by decide +kernel
@[simp] theorem lit_open : (Str.ofString "(") = S [40] := by decide +kernel
@[simp] theorem lit_close : (Str.ofString ")") = S [41] := by decide +kernel
@[simp] theorem lit_sp : (Str.ofString " ") = S [32] := by decide +kernel
@[simp] theorem lit_0 : (Str.ofString "0") = S [48] := by decide +kernel
@[simp] theorem lit_none : (Str.ofString "") = S [] := by decide +kernel
theorem mem_lets {c : Nat} : c ∈ LETS ↔ 97 ≤ c ∧ c ≤ 122 := by unfold LETS; rw [List.mem_range'_1]; omega
theorem mem_digs {c : Nat} : c ∈ DIGS ↔ 48 ≤ c ∧ c ≤ 57 := by unfold DIGS; rw [List.mem_range'_1]; omega
theorem mem_digs1 {c : Nat} : c ∈ DIG1 ↔ 49 ≤ c ∧ c ≤ 57 := by unfold DIG1; rw [List.mem_range'_1]; omega
def isL (c : Nat) : Bool := decide (97 ≤ c ∧ c ≤ 122)
def isG (c : Nat) : Bool := decide (48 ≤ c ∧ c ≤ 57)
theorem dec_lets {c : Nat} : decide (c ∈ LETS) = isL c := by unfold isL; exact decide_eq_decide.mpr mem_lets
theorem dec_digs {c : Nat} : decide (c ∈ DIGS) = isG c := by unfold isG; exact decide_eq_decide.mpr mem_digs
@[simp] theorem fLen_S {l : List Nat} (hl : l.length ≤ sizeLine) : fLen [.str (S l)] = some (.fz (.int (l.length : Int))) := by
  show (if (S l).length ≤ sizeLine then some (S l).length else none).map _ = _
  rw [if_pos (by rw [S_len]; exact hl), S_len]
  rfl
end LW

set_option Elab.async false
set_option linter.all false
set_option maxRecDepth 100000
set_option maxHeartbeats 4000000
namespace LW
open PySem DV SX
inductive Rd where
  | ok (d : D) | err (at_ : Nat)
def run (p : Nat → Bool) : Nat → List Nat → Nat
  | 0, _ => 0
  | _, [] => 0
  | m + 1, c :: r => if p c = true then run p m r + 1 else 0
def atomN : List Nat → Option Nat
  | [] => none
  | c :: r => if isG c = true then (if c = 48 then some 1 else some (run isG 9 (c :: r))) else if isL c = true then some (run isL 12 (c :: r)) else none
theorem run_le (p : Nat → Bool) : ∀ (m : Nat) (l : List Nat), run p m l ≤ l.length ∧ run p m l ≤ m
  | 0, _ => by simp [run]
  | m + 1, [] => by simp [run]
  | m + 1, c :: r => by
    unfold run
    have := run_le p m r
    split <;> simp <;> omega
theorem run_spec (p : Nat → Bool) : ∀ (m : Nat) (l : List Nat) (k : Nat), k < run p m l → ∃ c, l[k]? = some c ∧ p c = true
  | 0, l, k, h => by simp [run] at h
  | m + 1, [], k, h => by simp [run] at h
  | m + 1, c :: r, k, h => by
    unfold run at h
    split at h
    · rename_i hc
      cases k with
      | zero => exact ⟨c, rfl, hc⟩
      | succ k => exact run_spec p m r k (by omega)
    · omega
theorem run_stop (p : Nat → Bool) : ∀ (m : Nat) (l : List Nat), run p m l = m ∨ run p m l = l.length ∨ ∃ c, l[run p m l]? = some c ∧ p c = false
  | 0, l => .inl rfl
  | m + 1, [] => .inr (.inl rfl)
  | m + 1, c :: r => by
    unfold run
    split
    · rcases run_stop p m r with h | h | ⟨c', h1, h2⟩
      · exact .inl (by omega)
      · exact .inr (.inl (by simp; omega))
      · exact .inr (.inr ⟨c', by simpa using h1, h2⟩)
    · rename_i hc
      exact .inr (.inr ⟨c, rfl, by simpa using hc⟩)
section
variable {l : List Nat}
theorem atom_loop (hl : l.length ≤ sizeLine) {sg : List Nat} {p : Nat → Bool} (hp : ∀ c, decide (c ∈ sg) = p c) {a m : Nat} : ∀ (j n : Nat), a ≤ n → j + n = a + run p m (l.drop a) → sWhile (mAnd (mTest (mOp2 opLt (mVar 4) (mCB fLen (mAcons (mVar 0) (mAnil))))) (mAnd (mTest (mOp2 opLt (mOp2 opSub (mVar 4) (mVar 1)) (mVar 3))) (mTest (mOp2 opIn (mOp2 opIx (mVar 0) (mVar 4)) (mVar 2))))) (sAug ipAdd 4 (mPure (.int 1)))
      [.fz (.str (S l)), .fz (.int (a : Int)), .fz (.str (S sg)), .fz (.int (m : Int)), .fz (.int (n : Int))] = .next [.fz (.str (S l)), .fz (.int (a : Int)), .fz (.str (S sg)), .fz (.int (m : Int)), .fz (.int ((a + run p m (l.drop a) : Nat) : Int))] := by
  intro j
  have hle := run_le p m (l.drop a)
  rw [List.length_drop] at hle
  induction j with
  | zero =>
    intro n ha hk
    rw [Nat.zero_add] at hk
    rw [← hk]
    refine sWhile_stop ?_
    by_cases e1 : (n : Int) < (l.length : Int)
    · by_cases e2 : (n : Int) - (a : Int) < (m : Int)
      · rcases run_stop p m (l.drop a) with h | h | ⟨c, h1, h2⟩
        · omega
        · rw [List.length_drop] at h
          omega
        · rw [List.getElem?_drop, ← hk] at h1
          simp [hl, e1, e2, opIx_S h1 hl, hp, h2]
      · simp [hl, e1, e2]
    · simp [hl, e1]
  | succ j ih =>
    intro n ha hk
    obtain ⟨c, h1, h2⟩ := run_spec p m (l.drop a) (n - a) (by omega)
    rw [List.getElem?_drop, show a + (n - a) = n by omega] at h1
    refine (sWhile_step (ρ1 := [.fz (.str (S l)), .fz (.int (a : Int)), .fz (.str (S sg)), .fz (.int (m : Int)), .fz (.int (n : Int))]) (ρ2 := [.fz (.str (S l)), .fz (.int (a : Int)), .fz (.str (S sg)), .fz (.int (m : Int)), .fz (.int ((n + 1 : Nat) : Int))]) ?_ (.inl ?_)).trans (ih (n + 1) (by omega) (by omega))
    · have e1 : (n : Int) < (l.length : Int) := by
        have := (List.getElem?_eq_some_iff.mp h1).1
        omega
      have e2 : (n : Int) - (a : Int) < (m : Int) := by omega
      simp [hl, e1, e2, opIx_S h1 hl, hp, h2]
    · simp
theorem atom_end_ok (hl : l.length ≤ sizeLine) {a : Nat} (ha : a ≤ l.length) : F_atom_end [.fz (.str (S l)), .fz (.int (a : Int))] = (match atomN (l.drop a) with
    | some k => .ok (.fz (.int ((a + k : Nat) : Int))) [.fz (.str (S l)), .fz (.int (a : Int))]
    | none => .exc ⟨1, ["position"], [.int (a : Int)]⟩ [.fz (.str (S l)), .fz (.int (a : Int))]) := by
  unfold F_atom_end
  rw [runF_eq (by simp)]
  by_cases hz : a = l.length
  · subst hz
    rw [List.drop_length]
    simp [m_atom_end, hl, atomN, excO]
  · have hlt : a < l.length := by omega
    obtain ⟨c, hc⟩ : ∃ c, l[a]? = some c := ⟨_, List.getElem?_eq_getElem hlt⟩
    have hd : l.drop a = c :: l.drop (a + 1) := by
      rw [List.drop_eq_getElem_cons hlt]
      rw [List.getElem?_eq_getElem hlt] at hc
      rw [Option.some.inj hc]
    have hne : ¬ ((a : Int) = (l.length : Int)) := by omega
    by_cases hg : isG c = true
    · by_cases h0 : c = 48
      · subst h0
        simp [m_atom_end, hl, hne, opIx_S hc hl, C_LETTERS, C_MOST_LETTERS, C_DIGITS, C_MOST_DIGITS, dec_digs, hg, hd, atomN]
      · have lp := atom_loop hl (sg := DIGS) (p := isG) (fun c => dec_digs) (a := a) (m := 9) (run isG 9 (l.drop a)) a (Nat.le_refl _) (by omega)
        simp [m_atom_end, hl, hne, opIx_S hc hl, C_LETTERS, C_MOST_LETTERS, C_DIGITS, C_MOST_DIGITS, dec_digs, hg, hd, atomN, h0] at lp ⊢
        simp [lp]
    · by_cases hL : isL c = true
      · have lp := atom_loop hl (sg := LETS) (p := isL) (fun c => dec_lets) (a := a) (m := 12) (run isL 12 (l.drop a)) a (Nat.le_refl _) (by omega)
        simp [m_atom_end, hl, hne, opIx_S hc hl, C_LETTERS, C_MOST_LETTERS, C_DIGITS, C_MOST_DIGITS, dec_digs, dec_lets, hg, hL, hd, atomN] at lp ⊢
        simp [lp]
      · simp [m_atom_end, hl, hne, opIx_S hc hl, C_LETTERS, C_MOST_LETTERS, C_DIGITS, C_MOST_DIGITS, dec_digs, dec_lets, hg, hL, hd, atomN, excO]
end
end LW

set_option Elab.async false
set_option linter.all false
set_option maxRecDepth 100000
set_option maxHeartbeats 4000000
namespace LW
open PySem DV SX
def atomD (p : List Nat) : D := match p with
  | c :: _ => if isG c = true then .int (NumText.digitsVal p) else .str (S p)
  | [] => .non
theorem run_take (p : Nat → Bool) : ∀ (m : Nat) (l : List Nat), (l.take (run p m l)).all p = true
  | 0, l => by simp [run]
  | m + 1, [] => by simp [run]
  | m + 1, c :: r => by
    unfold run
    split
    · rename_i h
      rw [List.take_succ_cons, List.all_cons, h, run_take p m r]
      rfl
    · simp
theorem run_pos {p : Nat → Bool} {m : Nat} {c : Nat} {r : List Nat} (h : p c = true) : run p (m + 1) (c :: r) = run p m r + 1 := by
  show (if p c = true then run p m r + 1 else 0) = _
  rw [if_pos h]
theorem atomN_some {s : List Nat} {k : Nat} (h : atomN s = some k) : ∃ c r, s = c :: r ∧ 1 ≤ k ∧ k ≤ s.length ∧ k ≤ 12 ∧ ((isG c = true ∧ k ≤ 9 ∧ (s.take k).all isG = true ∧ (c = 48 → k = 1)) ∨ (isG c = false ∧ isL c = true ∧ (s.take k).all isL = true)) := by
  cases s with
  | nil => cases h
  | cons c r =>
    refine ⟨c, r, rfl, ?_⟩
    replace h : (if isG c = true then (if c = 48 then some 1 else some (run isG 9 (c :: r))) else if isL c = true then some (run isL 12 (c :: r)) else none) = some k := h
    by_cases hg : isG c = true
    · rw [if_pos hg] at h
      by_cases h0 : c = 48
      · rw [if_pos h0] at h
        cases h
        refine ⟨by omega, by simp, by omega, .inl ⟨hg, by omega, ?_, fun _ => rfl⟩⟩
        simp [hg]
      · rw [if_neg h0] at h
        cases h
        have h1 := run_le isG 9 (c :: r)
        refine ⟨by rw [run_pos hg]; omega, h1.1, by omega, .inl ⟨hg, h1.2, run_take _ _ _, fun z => absurd z h0⟩⟩
    · rw [if_neg hg] at h
      by_cases hL : isL c = true
      · rw [if_pos hL] at h
        cases h
        have h1 := run_le isL 12 (c :: r)
        exact ⟨by rw [run_pos hL]; omega, h1.1, h1.2, .inr ⟨by simpa using hg, hL, run_take _ _ _⟩⟩
      · rw [if_neg hL] at h
        cases h
theorem allG {p : List Nat} (h : p.all isG = true) : p.all (fun c => decide (48 ≤ c) && decide (c ≤ 57)) = true := by
  rw [List.all_eq_true] at h ⊢
  intro c hc
  have := h c hc
  unfold isG at this
  simpa using this
theorem atom_ok {c : Nat} {r : List Nat} (hg : isG c = true → (c :: r).all isG = true) (hL : (c :: r).length ≤ 12) : F_atom [.fz (.str (S (c :: r)))] = .ok (.fz (atomD (c :: r))) [.fz (.str (S (c :: r)))] := by
  unfold F_atom
  rw [runF_eq (by simp)]
  have e : opIx (.str (S (c :: r))) (.int 0) = some (.fz (.str (S [c]))) := opIx_S (a := 0) rfl (Nat.le_trans hL (by decide))
  by_cases h : isG c = true
  · have ei := int_S (allG (hg h)) (by simp) (by omega)
    have e6 : r.length + 1 ≤ 640 := by simp at hL; omega
    simp [m_atom, e, C_DIGITS, dec_digs, h, atomD, ei, e6]
  · simp [m_atom, e, C_DIGITS, dec_digs, h, atomD]
theorem whole_ok {l : List Nat} (hl : l.length ≤ sizeLine) {d : D} {a : Int} : F_whole [.fz d, .fz (.str (S l)), .fz (.int a)] = (if a = l.length then .ok (.fz d) [.fz d, .fz (.str (S l)), .fz (.int a)] else .exc ⟨1, ["position"], [.int a]⟩ [.fz d, .fz (.str (S l)), .fz (.int a)]) := by
  unfold F_whole
  rw [runF_eq (by simp)]
  by_cases h : a = l.length
  · simp [m_whole, hl, h]
  · simp [m_whole, hl, h, excO]
inductive Md where
  | it | cl
def aftK (k : List Nat → Nat → List (List D) → Rd) (d : D) (s : List Nat) (a : Nat) (st : List (List D)) : Rd := match unsnoc st with
  | none => if s = [] then .ok d else .err a
  | some (st0, ds) => k s a (st0 ++ [ds ++ [d]])
def mach : Nat → Md → List Nat → Nat → List (List D) → Rd
  | 0, _, _, a, _ => .err a
  | n + 1, .it, s, a, st => if s.take 1 = [40] then (if st.length = 30 then .err a else if (s.drop 1).take 1 = [41] then mach n .cl (s.drop 1) (a + 1) (st ++ [[]]) else mach n .it (s.drop 1) (a + 1) (st ++ [[]]))
    else match atomN s with
      | none => .err a
      | some k => aftK (mach n .cl) (atomD (s.take k)) (s.drop k) (a + k) st
  | n + 1, .cl, s, a, st => if s.take 1 = [41] then (match unsnoc st with
      | some (st0, ds) => aftK (mach n .cl) (.tup ds) (s.drop 1) (a + 1) st0
      | none => .err a)
    else if s.take 1 = [32] then mach n .it (s.drop 1) (a + 1) st
    else .err a
theorem mach_it {n : Nat} {s : List Nat} {a : Nat} {st : List (List D)} : mach (n + 1) .it s a st = (if s.take 1 = [40] then (if st.length = 30 then .err a else if (s.drop 1).take 1 = [41] then mach n .cl (s.drop 1) (a + 1) (st ++ [[]]) else mach n .it (s.drop 1) (a + 1) (st ++ [[]]))
    else match atomN s with
      | none => .err a
      | some k => aftK (mach n .cl) (atomD (s.take k)) (s.drop k) (a + k) st) := rfl
theorem mach_cl {n : Nat} {s : List Nat} {a : Nat} {st : List (List D)} : mach (n + 1) .cl s a st = (if s.take 1 = [41] then (match unsnoc st with
      | some (st0, ds) => aftK (mach n .cl) (.tup ds) (s.drop 1) (a + 1) st0
      | none => .err a)
    else if s.take 1 = [32] then mach n .it (s.drop 1) (a + 1) st
    else .err a) := rfl
end LW

set_option Elab.async false
set_option linter.all false
set_option maxRecDepth 100000
set_option maxHeartbeats 4000000
namespace LW
open PySem DV SX
noncomputable def rC : M Bool := mTru (mPure (.bl true))
noncomputable def rInC : M Bool := mTest (mOp2 opEq (mSl (mVar 0) (some (mVar 2)) (some (mOp2 opAdd (mVar 2) (mPure (.int 1))))) (mPure (.str ")")))
noncomputable def rInB : MS := sSeq (sAug ipAdd 2 (mPure (.int 1))) (sSeq (sSet 4 (mPopTup 1)) (sSeq (sIf (mTest (mOp2 opEq (mLenOl 1) (mPure (.int 0)))) (sRet (mCall F_whole (mAcons (mVar 4) (mAcons (mVar 0) (mAcons (mVar 2) (mAnil)))))) (sNext)) (sAppLast 1 4)))
noncomputable def rSp : MS := sSeq (sIf (mTest (mOp2 opNe (mSl (mVar 0) (some (mVar 2)) (some (mOp2 opAdd (mVar 2) (mPure (.int 1))))) (mPure (.str " ")))) (sRaise 1 ["position"] (mAcons (mVar 2) (mAnil))) (sNext)) (sAug ipAdd 2 (mPure (.int 1)))
noncomputable def rClose : MS := sSeq (sWhile rInC rInB) rSp
noncomputable def rIf : MS := (sIf (mTest (mOp2 opEq (mSl (mVar 0) (some (mVar 2)) (some (mOp2 opAdd (mVar 2) (mPure (.int 1))))) (mPure (.str "(")))) (sSeq (sIf (mTest (mOp2 opEq (mLenOl 1) (mPure C_MOST_DEPTH))) (sRaise 1 ["position"] (mAcons (mVar 2) (mAnil))) (sNext)) (sSeq (sAppNew 1) (sSeq (sAug ipAdd 2 (mPure (.int 1))) (sIf (mTest (mOp2 opNe (mSl (mVar 0) (some (mVar 2)) (some (mOp2 opAdd (mVar 2) (mPure (.int 1))))) (mPure (.str ")")))) (sCont) (sNext))))) (sSeq (sSet 3 (mCall F_atom_end (mAcons (mVar 0) (mAcons (mVar 2) (mAnil))))) (sSeq (sSet 4 (mCall F_atom (mAcons (mSl (mVar 0) (some (mVar 2)) (some (mVar 3))) (mAnil)))) (sSeq (sSet 2 (mVar 3)) (sSeq (sIf (mTest (mOp2 opEq (mLenOl 1) (mPure (.int 0)))) (sRet (mCall F_whole (mAcons (mVar 4) (mAcons (mVar 0) (mAcons (mVar 2) (mAnil)))))) (sNext)) (sAppLast 1 4))))))
noncomputable def rBody : MS := sSeq rIf rClose
theorem m_read_eq : m_read_term = sSeq (sNewOl 1) (sSeq (sSet 2 (mPure (.int 0))) (sWhile rC rBody)) := rfl
theorem oc_s {d : D} : oc (some d) = Cell.fz d := rfl
def Out (l : List Nat) : Rd → SR → Prop
  | .ok d, z => ∃ ρ', z = .ret (.fz d) (.fz (.str (S l)) :: ρ')
  | .err p, z => ∃ ρ', z = .exc ⟨1, ["position"], [.int (p : Int)]⟩ (.fz (.str (S l)) :: ρ')
theorem unsnoc_len {α : Type} {st st0 : List α} {x : α} (h : unsnoc st = some (st0, x)) : st.length = st0.length + 1 := by
  rw [unsnoc_some h]; simp
theorem mach_ok {l : List Nat} (hl : l.length ≤ 1000000) : ∀ (n : Nat) (s : List Nat) (a : Nat) (st : List (List D)) (o3 o4 : Option D), l.drop a = s → a ≤ l.length → s.length < n → (∀ x ∈ st, x.length ≤ a) →
    (st.length ≤ 30 → Out l (mach n .it s a st) (sWhile rC rBody [.fz (.str (S l)), .ol st, .fz (.int (a : Int)), oc o3, oc o4])) ∧
    (st ≠ [] → st.length ≤ 30 → Out l (mach n .cl s a st) (SR.loop rC rBody (rClose [.fz (.str (S l)), .ol st, .fz (.int (a : Int)), oc o3, oc o4]))) := by
  have hl2 : l.length ≤ sizeLine := Nat.le_trans hl (by decide)
  have hz : 1000000 < sizeLine := by decide
  intro n
  induction n with
  | zero => intro s a st o3 o4 _ _ h; omega
  | succ n ih =>
    intro s a st o3 o4 hs ha hn hst
    have nxt1 : ∀ {c r}, s = c :: r → l.drop (a + 1) = r ∧ a + 1 ≤ l.length := fun {c r} e => by
      have h1 : a < l.length := by
        have : (l.drop a).length = r.length + 1 := by rw [hs, e]; rfl
        rw [List.length_drop] at this
        omega
      refine ⟨?_, h1⟩
      rw [← List.drop_drop, hs, e]
      rfl
    refine ⟨fun h30 => ?_, fun hne h30 => ?_⟩
    · rw [sWhile_unf (ρ1 := [.fz (.str (S l)), .ol st, .fz (.int (a : Int)), oc o3, oc o4]) (by simp [rC])]
      have e0 : rBody [.fz (.str (S l)), .ol st, .fz (.int (a : Int)), oc o3, oc o4] = SR.seq (rIf [.fz (.str (S l)), .ol st, .fz (.int (a : Int)), oc o3, oc o4]) rClose := e_seq
      rw [e0]
      by_cases h40 : ∃ r, s = 40 :: r
      · obtain ⟨r, rfl⟩ := h40
        obtain ⟨n1, n2⟩ := nxt1 rfl
        by_cases hf : st.length = 30
        · have em : mach (n + 1) .it (40 :: r) a st = .err a := by
            rw [mach_it, if_pos (by simp), if_pos hf]
          rw [em]
          simp [rIf, cut_1 hl2, hs, C_MOST_DEPTH, hf, excO, Out]
        · have hf2 : ¬ ((st.length : Nat) : Int) = 30 := by omega
          have hz3 : st.length < sizeLine := by omega
          have hst' : ∀ x ∈ st ++ [[]], x.length ≤ a + 1 := fun x hx => by
            rcases List.mem_append.mp hx with h | h
            · have := hst x h
              omega
            · rw [List.mem_singleton] at h
              subst h
              simp
          have cut2 : opSl (.str (S l)) (some ((a : Int) + 1)) (some ((a : Int) + 1 + 1)) = some (.fz (.str (S (r.take 1)))) := by
            have := cut_1 (l := l) (a := a + 1) hl2
            rw [n1] at this
            exact this
          by_cases h41 : ∃ r2, r = 41 :: r2
          · obtain ⟨r2, rfl⟩ := h41
            have em : mach (n + 1) .it (40 :: 41 :: r2) a st = mach n .cl (41 :: r2) (a + 1) (st ++ [[]]) := by
              rw [mach_it, if_pos (by simp), if_neg hf, if_pos (by simp)]
              rfl
            have hB : rIf [.fz (.str (S l)), .ol st, .fz (.int (a : Int)), oc o3, oc o4] = .next [.fz (.str (S l)), .ol (st ++ [[]]), .fz (.int ((a + 1 : Nat) : Int)), oc o3, oc o4] := by
              simp [rIf, cut_1 hl2, cut2, hs, C_MOST_DEPTH, hf2, hf, appNewO, hz3]
            rw [em, hB]
            exact (ih (41 :: r2) (a + 1) (st ++ [[]]) o3 o4 n1 n2 (by simp at hn ⊢; omega) hst').2 (by simp) (by simp; omega)
          · have h41' : ¬ r.take 1 = [41] := fun z => h41 (by
              cases r with
              | nil => cases z
              | cons c r => exact ⟨r, by simp at z; rw [z]⟩)
            have em : mach (n + 1) .it (40 :: r) a st = mach n .it r (a + 1) (st ++ [[]]) := by
              rw [mach_it, if_pos (by simp), if_neg hf, if_neg (by simpa using h41')]
              rfl
            have hB : rIf [.fz (.str (S l)), .ol st, .fz (.int (a : Int)), oc o3, oc o4] = .cont [.fz (.str (S l)), .ol (st ++ [[]]), .fz (.int ((a + 1 : Nat) : Int)), oc o3, oc o4] := by
              simp [rIf, cut_1 hl2, cut2, hs, C_MOST_DEPTH, hf2, hf, appNewO, hz3, h41']
            rw [em, hB]
            exact (ih r (a + 1) (st ++ [[]]) o3 o4 n1 n2 (by simp at hn ⊢; omega) hst').1 (by simp; omega)
      · have h40' : ¬ s.take 1 = [40] := fun z => h40 (by
          cases s with
          | nil => cases z
          | cons c r => exact ⟨r, by simp at z; rw [z]⟩)
        have em : mach (n + 1) .it s a st = (match atomN s with
            | none => .err a
            | some k => aftK (mach n .cl) (atomD (s.take k)) (s.drop k) (a + k) st) := by
          rw [mach_it, if_neg h40']
          try (cases atomN s <;> rfl)
        rw [em]
        have hae := atom_end_ok hl2 ha
        rw [hs] at hae
        cases hk : atomN s with
        | none =>
          rw [hk] at hae
          simp [rIf, cut_1 hl2, hs, h40', hae, Out]
        | some k =>
          rw [hk] at hae
          obtain ⟨c, r, rfl, k1, k2, k3, k4⟩ := atomN_some hk
          have hsl : opSl (.str (S l)) (some (a : Int)) (some ((a : Int) + (k : Int))) = some (.fz (.str (S ((c :: r).take k)))) := by
            have := cut_S (l := l) (a := a) (b := a + k) hl2
            rw [hs, show a + k - a = k by omega] at this
            exact this
          have htk : (c :: r).take k = c :: r.take (k - 1) := by
            cases k with
            | zero => omega
            | succ k => rfl
          have hat : F_atom [.fz (.str (S ((c :: r).take k)))] = .ok (.fz (atomD ((c :: r).take k))) [.fz (.str (S ((c :: r).take k)))] := by
            rw [htk]
            refine atom_ok (fun hg => ?_) ?_
            · rw [← htk]
              rcases k4 with h | h
              · exact h.2.2.1
              · rw [h.1] at hg; cases hg
            · rw [← htk, List.length_take]; omega
          have hc40 : ¬ c = 40 := fun z => h40 ⟨r, by rw [z]⟩
          have hn2 : l.drop (a + k) = (c :: r).drop k := by rw [← List.drop_drop, hs]
          have hak : a + k ≤ l.length := by
            have : (l.drop a).length = (c :: r).length := by rw [hs]
            rw [List.length_drop] at this
            omega
          generalize hat' : atomD ((c :: r).take k) = at_ at hat
          show Out l (aftK (mach n .cl) (atomD ((c :: r).take k)) ((c :: r).drop k) (a + k) st) _
          rw [hat']
          unfold aftK
          cases hu : unsnoc st with
          | none =>
            have e1 := unsnoc_none hu
            subst e1
            have hlen : (l.drop (a + k)).length = l.length - (a + k) := List.length_drop
            rw [hn2] at hlen
            by_cases hr : (c :: r).drop k = []
            · have : (a : Int) + (k : Int) = (l.length : Int) := by
                rw [hr] at hlen
                simp at hlen
                omega
              have hw : F_whole [.fz at_, .fz (.str (S l)), .fz (.int ((a : Int) + (k : Int)))] = .ok (.fz at_) [.fz at_, .fz (.str (S l)), .fz (.int ((a : Int) + (k : Int)))] := by rw [whole_ok hl2, if_pos this]
              simp [rIf, cut_1 hl2, hs, hc40, hae, hsl, hat, hw, hr, Out]
            · have : ¬ (a : Int) + (k : Int) = (l.length : Int) := by
                have : ((c :: r).drop k).length ≠ 0 := fun z => hr (List.eq_nil_of_length_eq_zero z)
                omega
              have hw : F_whole [.fz at_, .fz (.str (S l)), .fz (.int ((a : Int) + (k : Int)))] = .exc ⟨1, ["position"], [.int ((a : Int) + (k : Int))]⟩ [.fz at_, .fz (.str (S l)), .fz (.int ((a : Int) + (k : Int)))] := by rw [whole_ok hl2, if_neg this]
              simp [rIf, cut_1 hl2, hs, hc40, hae, hsl, hat, hw, hr, Out]
          | some p =>
            obtain ⟨st0, ds⟩ := p
            have l1 := unsnoc_len hu
            have hl0 : ¬ st = [] := fun z => by rw [z] at l1; simp at l1
            have hd1 : ds.length < sizeLine := by
              have := hst ds (by rw [unsnoc_some hu]; simp)
              omega
            have hB : rIf [.fz (.str (S l)), .ol st, .fz (.int (a : Int)), oc o3, oc o4] = .next [.fz (.str (S l)), .ol (st0 ++ [ds ++ [at_]]), .fz (.int ((a + k : Nat) : Int)), oc (some (.int ((a + k : Nat) : Int))), oc (some at_)] := by
              simp [rIf, cut_1 hl2, hs, hc40, hae, hsl, hat, hl0, hu, appLast2, hd1, oc_s]
            rw [hB]
            refine (ih ((c :: r).drop k) (a + k) (st0 ++ [ds ++ [at_]]) (some _) (some at_) hn2 hak (by simp at hn ⊢; omega) (fun x hx => ?_)).2 (by simp) (by simp; omega)
            rcases List.mem_append.mp hx with h | h
            · have := hst x (by rw [unsnoc_some hu]; simp [h])
              omega
            · have := hst ds (by rw [unsnoc_some hu]; simp)
              rw [List.mem_singleton] at h
              subst h
              simp
              omega
    · by_cases h41 : ∃ r, s = 41 :: r
      · obtain ⟨r, rfl⟩ := h41
        obtain ⟨n1, n2⟩ := nxt1 rfl
        cases hu : unsnoc st with
        | none => exact absurd (unsnoc_none hu) hne
        | some p =>
          obtain ⟨st0, ds⟩ := p
          have hc : rInC [.fz (.str (S l)), .ol st, .fz (.int (a : Int)), oc o3, oc o4] = .ok true [.fz (.str (S l)), .ol st, .fz (.int (a : Int)), oc o3, oc o4] := by
            simp [rInC, cut_1 hl2, hs]
          have e1 : rClose [.fz (.str (S l)), .ol st, .fz (.int (a : Int)), oc o3, oc o4] = SR.seq (SR.loop rInC rInB (rInB [.fz (.str (S l)), .ol st, .fz (.int (a : Int)), oc o3, oc o4])) rSp := by
            show sSeq _ _ _ = _
            rw [e_seq, sWhile_unf hc]
          rw [e1]
          rw [mach_cl, if_pos (by simp), hu]
          show Out l (aftK (mach n .cl) (.tup ds) r (a + 1) st0) _
          unfold aftK
          cases hu2 : unsnoc st0 with
          | none =>
            have e0 := unsnoc_none hu2
            subst e0
            have hw := whole_ok (d := .tup ds) (a := a + 1) hl2
            have hlen : (l.drop (a + 1)).length = l.length - (a + 1) := List.length_drop
            rw [n1] at hlen
            by_cases hr : r = []
            · have : (a : Int) + 1 = (l.length : Int) := by
                rw [hr] at hlen
                simp at hlen
                omega
              simp [rInB, hu, whole_ok hl2, this, hr, Out]
            · have : ¬ (a : Int) + 1 = (l.length : Int) := by
                have : r.length ≠ 0 := fun z => hr (List.eq_nil_of_length_eq_zero z)
                omega
              simp [rInB, hu, whole_ok hl2, this, hr, Out]
          | some p2 =>
            obtain ⟨st1, ds1⟩ := p2
            have l1 := unsnoc_len hu
            have l2 := unsnoc_len hu2
            have s1 := unsnoc_some hu2
            have hd1 : ds1.length < sizeLine := by
              have := hst ds1 (by rw [unsnoc_some hu, s1]; simp)
              omega
            have hl0 : ¬ st0 = [] := fun z => by rw [z] at l2; simp at l2
            have hB : rInB [.fz (.str (S l)), .ol st, .fz (.int (a : Int)), oc o3, oc o4] = .next [.fz (.str (S l)), .ol (st1 ++ [ds1 ++ [.tup ds]]), .fz (.int ((a + 1 : Nat) : Int)), oc o3, oc (some (.tup ds))] := by
              simp [rInB, hu, hu2, hl0, appLast2, hd1, oc_s]
            rw [hB]
            have e2 : ∀ ρ2, SR.seq (SR.loop rInC rInB (.next ρ2)) rSp = rClose ρ2 := fun ρ2 => (e_seq (m := sWhile rInC rInB) (n := rSp) (ρ := ρ2)).symm
            rw [e2]
            refine (ih r (a + 1) (st1 ++ [ds1 ++ [.tup ds]]) o3 (some (.tup ds)) n1 n2 (by simp at hn; omega) (fun x hx => ?_)).2 (by simp) (by simp; omega)
            rcases List.mem_append.mp hx with h | h
            · have := hst x (by rw [unsnoc_some hu, s1]; simp [h])
              omega
            · have := hst ds1 (by rw [unsnoc_some hu, s1]; simp)
              rw [List.mem_singleton] at h
              subst h
              simp
              omega
      · have hc : rInC [.fz (.str (S l)), .ol st, .fz (.int (a : Int)), oc o3, oc o4] = .ok false [.fz (.str (S l)), .ol st, .fz (.int (a : Int)), oc o3, oc o4] := by
          have : ¬ s.take 1 = [41] := fun z => h41 (by
            cases s with
            | nil => cases z
            | cons c r => exact ⟨r, by simp at z; rw [z]⟩)
          simp [rInC, cut_1 hl2, hs, this]
        have e1 : rClose [.fz (.str (S l)), .ol st, .fz (.int (a : Int)), oc o3, oc o4] = rSp [.fz (.str (S l)), .ol st, .fz (.int (a : Int)), oc o3, oc o4] := by
          show sSeq _ _ _ = _
          rw [e_seq, sWhile_stop hc]
          rfl
        rw [e1]
        by_cases h32 : ∃ r, s = 32 :: r
        · obtain ⟨r, rfl⟩ := h32
          obtain ⟨n1, n2⟩ := nxt1 rfl
          have hB : rSp [.fz (.str (S l)), .ol st, .fz (.int (a : Int)), oc o3, oc o4] = .next [.fz (.str (S l)), .ol st, .fz (.int ((a + 1 : Nat) : Int)), oc o3, oc o4] := by
            simp [rSp, cut_1 hl2, hs]
          rw [hB, mach_cl, if_neg (by simp), if_pos (by simp)]
          exact (ih r (a + 1) st o3 o4 n1 n2 (by simp at hn; omega) (fun x hx => Nat.le_succ_of_le (hst x hx))).1 h30
        · have : ¬ s.take 1 = [32] := fun z => h32 (by
            cases s with
            | nil => cases z
            | cons c r => exact ⟨r, by simp at z; rw [z]⟩)
          have h41' : ¬ s.take 1 = [41] := fun z => h41 (by
            cases s with
            | nil => cases z
            | cons c r => exact ⟨r, by simp at z; rw [z]⟩)
          have em : mach (n + 1) .cl s a st = .err a := by rw [mach_cl, if_neg h41', if_neg this]
          rw [em]
          simp [rSp, cut_1 hl2, hs, this, excO, Out]
end LW

set_option Elab.async false
set_option linter.all false
set_option maxRecDepth 100000
set_option maxHeartbeats 4000000
namespace LW
open PySem DV SX
theorem read_ok {l : List Nat} (hl : l.length ≤ 1000000) : F_read_term [.fz (.str (S l))] = (match mach (l.length + 1) .it l 0 [] with
    | .ok d => .ok (.fz d) [.fz (.str (S l))]
    | .err p => .exc ⟨1, ["position"], [.int (p : Int)]⟩ [.fz (.str (S l))]) := by
  unfold F_read_term
  rw [runF_eq (by simp), m_read_eq]
  have h := (mach_ok hl (l.length + 1) l 0 [] none none rfl (Nat.zero_le _) (by omega) (by simp)).1 (by simp)
  have e : sSeq (sNewOl 1) (sSeq (sSet 2 (mPure (.int 0))) (sWhile rC rBody)) ([.fz (.str (S l))] ++ List.replicate (5 - 1) Cell.no) = sWhile rC rBody [.fz (.str (S l)), .ol [], .fz (.int ((0 : Nat) : Int)), oc none, oc none] := by
    simp [List.replicate, oc]
  rw [e]
  cases hm : mach (l.length + 1) .it l 0 [] with
  | ok d =>
    rw [hm] at h
    obtain ⟨ρ', h⟩ := h
    rw [h]
    simp
  | err p =>
    rw [hm] at h
    obtain ⟨ρ', h⟩ := h
    rw [h]
    simp
inductive Kd where
  | item | word | zero | number | open_ | done
  deriving DecidableEq
def kS : Kd → Str
  | .item => "item" | .word => "word" | .zero => "zero" | .number => "number" | .open_ => "open" | .done => "done"
abbrev Ls := Kd × Nat × Nat
def step : Ls → Nat → Option Ls
  | (k, m, dp), c =>
    if k = .item ∨ k = .open_ then
      if isL c = true then some (.word, 1, dp)
      else if c = 48 then some (.zero, 1, dp)
      else if decide (c ∈ DIG1) = true then some (.number, 1, dp)
      else if c = 40 ∧ dp < 30 then some (.open_, 0, dp + 1)
      else if c = 41 ∧ k = .open_ then some (.done, 0, dp - 1)
      else none
    else if k = .word ∧ isL c = true ∧ m < 12 then some (.word, m + 1, dp)
    else if k = .number ∧ isG c = true ∧ m < 9 then some (.number, m + 1, dp)
    else if 0 < dp ∧ c = 32 then some (.item, 0, dp)
    else if 0 < dp ∧ c = 41 then some (.done, 0, dp - 1)
    else none
def lsD (s : Ls) : List D := [.str (kS s.1), .int (s.2.1 : Int), .int (s.2.2 : Int)]
def stepV : Option Ls → Vc
  | some s => .ow (.lst (lsD s))
  | none => .fz .non
@[simp] theorem opEq_str (x y : Str) : opEq (.str x) (.str y) = some (.fz (.bl (decide (x = y)))) := by
  unfold opEq
  rw [eqD_str] <;> rfl
@[simp] theorem kS_eq (a b : Kd) : (kS a = kS b) = (a = b) := by cases a <;> cases b <;> simp <;> decide +kernel
@[simp] theorem l_item : (Str.ofString "item") = kS .item := rfl
@[simp] theorem l_open : (Str.ofString "open") = kS .open_ := rfl
@[simp] theorem l_word : (Str.ofString "word") = kS .word := rfl
@[simp] theorem l_number : (Str.ofString "number") = kS .number := rfl
@[simp] theorem l_zero : (Str.ofString "zero") = kS .zero := rfl
@[simp] theorem l_done : (Str.ofString "done") = kS .done := rfl
@[simp] theorem lstC3 {a b c : D} : lstC [a, b, c] = some (.ow (.lst [a, b, c])) := if_pos (by show 3 ≤ sizeLine; decide)
theorem next_ok {k : Kd} {m dp c : Nat} (hdp : k = .open_ → 0 < dp) : F__law_next [.fz (.str (kS k)), .fz (.int (m : Int)), .fz (.int (dp : Int)), .fz (.str (S [c]))] = .ok (stepV (step (k, m, dp) c)) [.fz (.str (kS k)), .fz (.int (m : Int)), .fz (.int (dp : Int)), .fz (.str (S [c]))] := by
  unfold F__law_next
  rw [runF_eq (by simp)]
  have i1 : ∀ c, opIn (.str (S [c])) (.str (S LETS)) = some (.fz (.bl (isL c))) := fun c => by rw [opIn_S, dec_lets]
  have i2 : ∀ c, opIn (.str (S [c])) (.str (S DIGS)) = some (.fz (.bl (isG c))) := fun c => by rw [opIn_S, dec_digs]
  have tail : ∀ k : Kd, (k = .zero ∨ k = .done) → step (k, m, dp) c = if 0 < dp ∧ c = 32 then some (.item, 0, dp) else if 0 < dp ∧ c = 41 then some (.done, 0, dp - 1) else none := fun k hk => by
    rcases hk with rfl | rfl <;> simp [step]
  have e1 : 0 < dp → ((dp - 1 : Nat) : Int) = (dp : Int) - 1 := fun h => by omega
  cases k with
  | item =>
    by_cases hL : isL c = true
    · simp [m__law_next, i1, i2, step, stepV, lsD, hL]
    · by_cases h0 : c = 48
      · subst h0
        simp [m__law_next, i1, i2, step, stepV, lsD, show isL 48 = false from rfl]
      · by_cases h1 : c ∈ DIG1
        · simp [m__law_next, i1, i2, step, stepV, lsD, hL, h0, h1]
        · by_cases h40 : c = 40
          · subst h40
            by_cases hd : dp < 30
            · simp [m__law_next, i1, i2, step, stepV, lsD, show isL 40 = false from rfl, show ¬ (40 : Nat) ∈ DIG1 from fun h => by have := mem_digs1.mp h; omega, hd, show ((dp : Nat) : Int) < 30 from by omega]
            · simp [m__law_next, i1, i2, step, stepV, lsD, show isL 40 = false from rfl, show ¬ (40 : Nat) ∈ DIG1 from fun h => by have := mem_digs1.mp h; omega, hd, show ¬ ((dp : Nat) : Int) < 30 from by omega]
          · by_cases h41 : c = 41
            · subst h41
              simp [m__law_next, i1, i2, step, stepV, lsD, show isL 41 = false from rfl, show ¬ (41 : Nat) ∈ DIG1 from fun h => by have := mem_digs1.mp h; omega]
            · simp [m__law_next, i1, i2, step, stepV, lsD, hL, h0, h1, h40, h41]
  | open_ =>
    by_cases hL : isL c = true
    · simp [m__law_next, i1, i2, step, stepV, lsD, hL]
    · by_cases h0 : c = 48
      · subst h0
        simp [m__law_next, i1, i2, step, stepV, lsD, show isL 48 = false from rfl]
      · by_cases h1 : c ∈ DIG1
        · simp [m__law_next, i1, i2, step, stepV, lsD, hL, h0, h1]
        · by_cases h40 : c = 40
          · subst h40
            by_cases hd : dp < 30
            · simp [m__law_next, i1, i2, step, stepV, lsD, show isL 40 = false from rfl, show ¬ (40 : Nat) ∈ DIG1 from fun h => by have := mem_digs1.mp h; omega, hd, show ((dp : Nat) : Int) < 30 from by omega]
            · simp [m__law_next, i1, i2, step, stepV, lsD, show isL 40 = false from rfl, show ¬ (40 : Nat) ∈ DIG1 from fun h => by have := mem_digs1.mp h; omega, hd, show ¬ ((dp : Nat) : Int) < 30 from by omega]
          · by_cases h41 : c = 41
            · subst h41
              simp [m__law_next, i1, i2, step, stepV, lsD, show isL 41 = false from rfl, show ¬ (41 : Nat) ∈ DIG1 from fun h => by have := mem_digs1.mp h; omega, e1 (hdp rfl)]
            · simp [m__law_next, i1, i2, step, stepV, lsD, hL, h0, h1, h40, h41]
  | word =>
    by_cases hL : isL c = true
    · by_cases hm : m < 12
      · have hmi : (m : Int) < 12 := by omega
        simp [m__law_next, i1, i2, step, stepV, lsD, hL, hm, hmi]
      · have hmi : ¬ (m : Int) < 12 := by omega
        by_cases hp : 0 < dp
        · have c1 : c ≠ 32 := fun z => by rw [z] at hL; cases hL
          have c2 : c ≠ 41 := fun z => by rw [z] at hL; cases hL
          simp [m__law_next, i1, i2, step, stepV, lsD, hL, hm, hp, c1, c2, hmi]
        · simp [m__law_next, i1, i2, step, stepV, lsD, hL, hm, hp, hmi]
    · by_cases hp : 0 < dp
      · by_cases h32 : c = 32
        · subst h32
          simp [m__law_next, i1, i2, step, stepV, lsD, hp, show isL 32 = false from rfl]
        · by_cases h41 : c = 41
          · subst h41
            simp [m__law_next, i1, i2, step, stepV, lsD, hp, e1 hp, show isL 41 = false from rfl]
          · simp [m__law_next, i1, i2, step, stepV, lsD, hp, h32, h41, hL]
      · simp [m__law_next, i1, i2, step, stepV, lsD, hp, hL]
  | number =>
    by_cases hL : isG c = true
    · by_cases hm : m < 9
      · have hmi : (m : Int) < 9 := by omega
        simp [m__law_next, i1, i2, step, stepV, lsD, hL, hm, hmi]
      · have hmi : ¬ (m : Int) < 9 := by omega
        by_cases hp : 0 < dp
        · have c1 : c ≠ 32 := fun z => by rw [z] at hL; cases hL
          have c2 : c ≠ 41 := fun z => by rw [z] at hL; cases hL
          simp [m__law_next, i1, i2, step, stepV, lsD, hL, hm, hp, c1, c2, hmi]
        · simp [m__law_next, i1, i2, step, stepV, lsD, hL, hm, hp, hmi]
    · by_cases hp : 0 < dp
      · by_cases h32 : c = 32
        · subst h32
          simp [m__law_next, i1, i2, step, stepV, lsD, hp, show isG 32 = false from rfl]
        · by_cases h41 : c = 41
          · subst h41
            simp [m__law_next, i1, i2, step, stepV, lsD, hp, e1 hp, show isG 41 = false from rfl]
          · simp [m__law_next, i1, i2, step, stepV, lsD, hp, h32, h41, hL]
      · simp [m__law_next, i1, i2, step, stepV, lsD, hp, hL]
  | zero =>
    by_cases hp : 0 < dp
    · by_cases h32 : c = 32
      · subst h32
        simp [m__law_next, i1, i2, step, stepV, lsD, hp]
      · by_cases h41 : c = 41
        · subst h41
          simp [m__law_next, i1, i2, step, stepV, lsD, hp, e1 hp]
        · simp [m__law_next, i1, i2, step, stepV, lsD, hp, h32, h41]
    · simp [m__law_next, i1, i2, step, stepV, lsD, hp]
  | done =>
    by_cases hp : 0 < dp
    · by_cases h32 : c = 32
      · subst h32
        simp [m__law_next, i1, i2, step, stepV, lsD, hp]
      · by_cases h41 : c = 41
        · subst h41
          simp [m__law_next, i1, i2, step, stepV, lsD, hp, e1 hp]
        · simp [m__law_next, i1, i2, step, stepV, lsD, hp, h32, h41]
    · simp [m__law_next, i1, i2, step, stepV, lsD, hp]
end LW

set_option Elab.async false
set_option linter.all false
set_option maxRecDepth 100000
set_option maxHeartbeats 4000000
namespace LW
open PySem DV SX
@[simp] theorem wipe1 {v : Nat} {ρ : Rho} : wipeR [v] ρ = setR v .no ρ := rfl
def flt : Ls → List Nat → Nat → Nat ⊕ Ls
  | st, [], _ => .inr st
  | st, c :: r, k => match step st c with
    | none => .inl k
    | some st' => flt st' r (k + 1)
def okL (s : Ls) : Prop := s.1 = .open_ → 0 < s.2.2
theorem step_ok {s s' : Ls} {c : Nat} (h : step s c = some s') : okL s' := by
  obtain ⟨k, m, dp⟩ := s
  unfold step at h
  intro ho
  simp only at h
  repeat' split at h
  all_goals first | (cases h; done) | (cases h; first | (cases ho; done) | (show 0 < dp + 1; omega))
def fault (l : List Nat) : Int := match flt (.item, 0, 0) l 0 with
  | .inl k => k
  | .inr s => if s.2.2 = 0 ∧ s.1 ≠ .item ∧ s.1 ≠ .open_ then -1 else l.length
noncomputable def fB : MS := sSeq (sSet 1 (mCall F__law_next (mAcons (mOp2 opIx (mVar 1) (mPure (.int 0))) (mAcons (mOp2 opIx (mVar 1) (mPure (.int 1))) (mAcons (mOp2 opIx (mVar 1) (mPure (.int 2))) (mAcons (mOp2 opIx (mVar 0) (mVar 2)) (mAnil))))))) (sIf (mTest (mUn opIsN (mVar 1))) (sRet (mVar 2)) (sNext))
theorem ix3 {a b c : D} : opIx (.lst [a, b, c]) (.int 0) = some (.fz a) ∧ opIx (.lst [a, b, c]) (.int 1) = some (.fz b) ∧ opIx (.lst [a, b, c]) (.int 2) = some (.fz c) := ⟨rfl, rfl, rfl⟩
def Pc (st : Ls) (pc : Cell) : Prop := pc = .ow (.lst (lsD st)) ∨ pc = .fz (.lst (lsD st))
theorem fault_loop {l : List Nat} (hl : l.length ≤ 1000000) : ∀ (s : List Nat) (a : Nat) (st : Ls) (pc : Cell) (o : Option D), l.drop a = s → okL st → Pc st pc → match flt st s a with
    | .inl k => ∃ ρ', forL (gSet 2) fB ((List.range' a s.length).map fun i : Nat => D.int (i : Int)) [.fz (.str (S l)), pc, oc o] = .ret (.fz (.int (k : Int))) (.fz (.str (S l)) :: ρ')
    | .inr st' => ∃ pc' o', Pc st' pc' ∧ forL (gSet 2) fB ((List.range' a s.length).map fun i : Nat => D.int (i : Int)) [.fz (.str (S l)), pc, oc o] = .next [.fz (.str (S l)), pc', oc o'] := by
  have hl2 : l.length ≤ sizeLine := Nat.le_trans hl (by decide)
  intro s
  induction s with
  | nil => exact fun a st pc o hs hok hpc => ⟨pc, o, hpc, rfl⟩
  | cons c r ih =>
    intro a st pc o hs hok hpc
    have ha : l[a]? = some c := by
      rw [← List.head?_drop, hs]; rfl
    have hn : l.drop (a + 1) = r := by rw [← List.drop_drop, hs]; rfl
    rw [List.length_cons, List.range'_succ, List.map_cons, forL_cons]
    obtain ⟨k, m, dp⟩ := st
    have hnx := next_ok (k := k) (m := m) (dp := dp) (c := c) hok
    have e : forG (gSet 2) fB ((List.range' (a + 1) r.length).map fun i : Nat => D.int (i : Int)) (gSet 2 (.int (a : Int)) [.fz (.str (S l)), pc, oc o]) = SR.fk (gSet 2) fB ((List.range' (a + 1) r.length).map fun i : Nat => D.int (i : Int)) (fB [.fz (.str (S l)), pc, .fz (.int (a : Int))]) := by simp
    rw [e]
    cases hst : step (k, m, dp) c with
    | none =>
      rw [hst] at hnx
      simp only [flt, hst]
      refine ⟨[.fz .non, .fz (.int (a : Int))], ?_⟩
      rcases hpc with rfl | rfl <;> simp [fB, lsD, ix3, opIx_S ha hl2, hnx, stepV, opIsN]
    | some st' =>
      rw [hst] at hnx
      have hB : fB [.fz (.str (S l)), pc, .fz (.int (a : Int))] = .next [.fz (.str (S l)), .fz (.lst (lsD st')), oc (some (.int (a : Int)))] := by
        rcases hpc with rfl | rfl <;> simp [fB, lsD, ix3, opIx_S ha hl2, hnx, stepV, opIsN, oc_s]
      rw [hB]
      simp only [flt, hst]
      exact ih (a + 1) st' _ (some (.int (a : Int))) hn (step_ok hst) (.inr rfl)
theorem rg_eq (n : Nat) : rgD 0 n = (List.range' 0 n).map fun i : Nat => D.int (i : Int) := by
  unfold rgD
  rw [List.range_eq_range']
  congr 1
  funext i
  rw [Int.zero_add]
theorem rng1_ok {n : Nat} (h : n ≤ 1000000) : rng1 (.int (n : Int)) = some ((List.range' 0 n).map fun i : Nat => D.int (i : Int)) := by
  unfold rng1
  rw [show D.int? (.int (n : Int)) = some (n : Int) from rfl, Option.bind_some, if_pos (by omega), Int.toNat_natCast, rg_eq]
theorem m_fault_eq : m__law_fault = sSeq (sSet 1 (mLst (mAcons (mPure (.str "item")) (mAcons (mPure (.int 0)) (mAcons (mPure (.int 0)) (mAnil)))))) (sSeq (sFor (gSet 2) (mRange1 (mCB fLen (mAcons (mVar 0) (mAnil)))) fB) (sSeq (sIf (mAnd (mTest (mOp2 opEq (mOp2 opIx (mVar 1) (mPure (.int 2))) (mPure (.int 0)))) (mTest (mOp2 opNotIn (mOp2 opIx (mVar 1) (mPure (.int 0))) (mLst (mAcons (mPure (.str "item")) (mAcons (mPure (.str "open")) (mAnil))))))) (sRet (mUn opNeg (mPure (.int 1)))) (sNext)) (sRet (mCB fLen (mAcons (mVar 0) (mAnil)))))) := rfl
@[simp] theorem lstC2 {a b : D} : lstC [a, b] = some (.ow (.lst [a, b])) := if_pos (by show 2 ≤ sizeLine; decide)
theorem notin2 (k : Kd) : opNotIn (.str (kS k)) (.lst [.str (kS .item), .str (kS .open_)]) = some (.fz (.bl (decide (k ≠ .item ∧ k ≠ .open_)))) := by
  cases k <;> rfl
theorem fault_ok {l : List Nat} (hl : l.length ≤ 1000000) : F__law_fault [.fz (.str (S l))] = .ok (.fz (.int (fault l))) [.fz (.str (S l))] := by
  have hl2 : l.length ≤ sizeLine := Nat.le_trans hl (by decide)
  unfold F__law_fault
  rw [runF_eq (by simp), m_fault_eq]
  have h := fault_loop hl l 0 (.item, 0, 0) (.ow (.lst (lsD (.item, 0, 0)))) none rfl (fun z => nomatch z) (.inl rfl)
  simp [hl2, rng1_ok hl]
  have e0 : ([.fz (.str (S l)), .ow (.lst [.str (kS .item), .int 0, .int 0]), Cell.no] : List Cell) = [.fz (.str (S l)), .ow (.lst (lsD (.item, 0, 0))), oc none] := rfl
  rw [e0]
  unfold fault
  cases hf : flt (.item, 0, 0) l 0 with
  | inl k =>
    rw [hf] at h
    obtain ⟨ρ', h⟩ := h
    rw [h]
    simp
  | inr st' =>
    rw [hf] at h
    obtain ⟨pc, o', hpc, h⟩ := h
    rw [h]
    obtain ⟨k, m, dp⟩ := st'
    by_cases h0 : dp = 0
    · by_cases h1 : k ≠ .item ∧ k ≠ .open_
      · rcases hpc with rfl | rfl <;> simp [lsD, ix3, h0, notin2, h1]
      · rcases hpc with rfl | rfl <;> simp [lsD, ix3, h0, notin2, h1, hl2]
    · rcases hpc with rfl | rfl <;> simp [lsD, ix3, h0, hl2]
end LW

set_option Elab.async false
set_option linter.all false
set_option maxRecDepth 100000
set_option maxHeartbeats 4000000
namespace LW
open PySem DV SX
def okW (l : List Nat) : Bool := decide (1 ≤ l.length ∧ l.length ≤ 12) && l.all isL
def okI (i : Int) : Bool := decide (0 ≤ i ∧ i < 1000000000)
mutual
def Vd : Nat → D → Bool
  | _, .str x => okW x.cps.toList
  | _, .int i => okI i
  | k, .tup ds => decide (0 < k) && VdL (k - 1) ds
  | _, _ => false
def VdL : Nat → List D → Bool
  | _, [] => true
  | k, d :: ds => Vd k d && VdL k ds
end
mutual
def wt : D → List Nat
  | .str x => x.cps.toList
  | .int i => TL.numL i.toNat
  | .tup ds => 40 :: (wtL ds ++ [41])
  | _ => []
def wtL : List D → List Nat
  | [] => []
  | d :: ds => wt d ++ wtR ds
def wtR : List D → List Nat
  | [] => []
  | d :: ds => 32 :: (wt d ++ wtR ds)
end
def sp : List D → List Nat
  | [] => []
  | d :: ds => wt d ++ 32 :: sp ds
theorem wtR_snoc : ∀ (ds : List D) (x : D), wtR (ds ++ [x]) = wtR ds ++ 32 :: wt x
  | [], x => by simp [wtR]
  | d :: ds, x => by simp [wtR, wtR_snoc ds x]
theorem sp_eq : ∀ (d : D) (ds : List D), sp (d :: ds) = wtL (d :: ds) ++ [32]
  | d, [] => by simp [sp, wtL, wtR]
  | d, e :: ds => by
    have := sp_eq e ds
    simp [sp, wtL, wtR] at this ⊢
    exact this
theorem wtL_snoc : ∀ (ds : List D) (x : D), wtL (ds ++ [x]) = sp ds ++ wt x
  | [], x => by simp [wtL, wtR, sp]
  | d :: ds, x => by
    rw [sp_eq]
    simp [wtL, wtR_snoc]
def pfx : List (List D) → List Nat
  | [] => []
  | ds :: r => 40 :: (sp ds ++ pfx r)
theorem pfx_snoc : ∀ (st : List (List D)) (ds : List D), pfx (st ++ [ds]) = pfx st ++ 40 :: sp ds
  | [], ds => by simp [pfx]
  | e :: st, ds => by simp [pfx, pfx_snoc st ds]
theorem VdL_all {k : Nat} : ∀ {ds : List D}, VdL k ds = true ↔ ∀ d ∈ ds, Vd k d = true
  | [] => by simp [VdL]
  | d :: ds => by simp [VdL, VdL_all (ds := ds)]
def fa (q : Ls) (s : List Nat) (a : Nat) : Int := match flt q s a with
  | .inl k => k
  | .inr s' => if s'.2.2 = 0 ∧ s'.1 ≠ .item ∧ s'.1 ≠ .open_ then -1 else ((a + s.length : Nat) : Int)
theorem fa_cons {q q' : Ls} {c : Nat} {r : List Nat} {a : Nat} (h : step q c = some q') : fa q (c :: r) a = fa q' r (a + 1) := by
  unfold fa
  simp only [flt, h, List.length_cons]
  rw [show a + (r.length + 1) = a + 1 + r.length by omega]
theorem fa_none {q : Ls} {c : Nat} {r : List Nat} {a : Nat} (h : step q c = none) : fa q (c :: r) a = a := by
  unfold fa
  simp only [flt, h]
theorem run_word {dp : Nat} : ∀ (s : List Nat) (m a : Nat), m ≤ 12 → fa (.word, m, dp) s a = fa (.word, m + run isL (12 - m) s, dp) (s.drop (run isL (12 - m) s)) (a + run isL (12 - m) s)
  | [], m, a, hm => by
    have : run isL (12 - m) [] = 0 := by cases 12 - m <;> rfl
    rw [this]
    rfl
  | c :: r, m, a, hm => by
    by_cases h : isL c = true ∧ m < 12
    · have e : run isL (12 - m) (c :: r) = run isL (12 - (m + 1)) r + 1 := by
        rw [show 12 - m = (12 - (m + 1)) + 1 by omega]
        exact run_pos h.1
      have es : step (.word, m, dp) c = some (.word, m + 1, dp) := by simp [step, h.1, h.2]
      rw [fa_cons es, run_word r (m + 1) (a + 1) (by omega), e, List.drop_succ_cons]
      congr 1
      · congr 2; omega
      · omega
    · have e : run isL (12 - m) (c :: r) = 0 := by
        cases hk : 12 - m with
        | zero => rfl
        | succ j =>
          show (if isL c = true then _ else 0) = 0
          rw [if_neg (fun z => h ⟨z, by omega⟩)]
      rw [e]
      rfl
theorem run_num {dp : Nat} : ∀ (s : List Nat) (m a : Nat), m ≤ 9 → fa (.number, m, dp) s a = fa (.number, m + run isG (9 - m) s, dp) (s.drop (run isG (9 - m) s)) (a + run isG (9 - m) s)
  | [], m, a, hm => by
    have : run isG (9 - m) [] = 0 := by cases 9 - m <;> rfl
    rw [this]
    rfl
  | c :: r, m, a, hm => by
    by_cases h : isG c = true ∧ m < 9
    · have e : run isG (9 - m) (c :: r) = run isG (9 - (m + 1)) r + 1 := by
        rw [show 9 - m = (9 - (m + 1)) + 1 by omega]
        exact run_pos h.1
      have es : step (.number, m, dp) c = some (.number, m + 1, dp) := by simp [step, h.1, h.2]
      rw [fa_cons es, run_num r (m + 1) (a + 1) (by omega), e, List.drop_succ_cons]
      congr 1
      · congr 2; omega
      · omega
    · have e : run isG (9 - m) (c :: r) = 0 := by
        cases hk : 9 - m with
        | zero => rfl
        | succ j =>
          show (if isG c = true then _ else 0) = 0
          rw [if_neg (fun z => h ⟨z, by omega⟩)]
      rw [e]
      rfl
def Set_ (q : Ls) (s : List Nat) : Prop := q.1 ≠ .item ∧ q.1 ≠ .open_ ∧ ∀ c r, s = c :: r → step q c = (if 0 < q.2.2 ∧ c = 32 then some (.item, 0, q.2.2) else if 0 < q.2.2 ∧ c = 41 then some (.done, 0, q.2.2 - 1) else none)
theorem set_word {m dp : Nat} {s : List Nat} (h : m = 12 ∨ ∀ c r, s = c :: r → isL c = false) : Set_ (.word, m, dp) s := by
  refine ⟨by simp, by simp, fun c r e => ?_⟩
  rcases h with rfl | h
  · simp [step]
  · simp [step, h c r e]
theorem set_num {m dp : Nat} {s : List Nat} (h : m = 9 ∨ ∀ c r, s = c :: r → isG c = false) : Set_ (.number, m, dp) s := by
  refine ⟨by simp, by simp, fun c r e => ?_⟩
  rcases h with rfl | h
  · simp [step]
  · simp [step, h c r e]
theorem set_zd {k : Kd} {m dp : Nat} {s : List Nat} (h : k = .zero ∨ k = .done) : Set_ (k, m, dp) s := by
  rcases h with rfl | rfl <;> exact ⟨by simp, by simp, fun c r e => by simp [step]⟩
theorem atom_fa {k : Kd} {m dp a : Nat} {s : List Nat} {j : Nat} (hk : k = .item ∨ k = .open_) (h : atomN s = some j) : ∃ q : Ls, q.2.2 = dp ∧ Set_ q (s.drop j) ∧ fa (k, m, dp) s a = fa q (s.drop j) (a + j) := by
  cases s with
  | nil => cases h
  | cons c r =>
    replace h : (if isG c = true then (if c = 48 then some 1 else some (run isG 9 (c :: r))) else if isL c = true then some (run isL 12 (c :: r)) else none) = some j := h
    by_cases hg : isG c = true
    · rw [if_pos hg] at h
      have hL : ¬ isL c = true := fun z => by unfold isL at z; unfold isG at hg; simp at z hg; omega
      by_cases h0 : c = 48
      · rw [if_pos h0] at h
        cases h
        refine ⟨(.zero, 1, dp), rfl, set_zd (.inl rfl), ?_⟩
        exact fa_cons (by rcases hk with rfl | rfl <;> simp [step, h0, show isL 48 = false from rfl])
      · rw [if_neg h0] at h
        cases h
        have h1 : c ∈ DIG1 := mem_digs1.mpr (by unfold isG at hg; simp at hg; omega)
        have e := run_pos (m := 8) (r := r) hg
        refine ⟨(.number, 1 + run isG (9 - 1) r, dp), rfl, set_num ?_, ?_⟩
        · rcases run_stop isG 8 r with z | z | ⟨c', z1, z2⟩
          · exact .inl (by show 1 + run isG 8 r = 9; omega)
          · refine .inr fun c' r' e' => ?_
            rw [e, List.drop_succ_cons, z, List.drop_length] at e'
            cases e'
          · refine .inr fun c'' r' e' => ?_
            rw [e, List.drop_succ_cons] at e'
            have : r[run isG 8 r]? = some c'' := by rw [← List.head?_drop, e']; rfl
            rw [this] at z1
            cases z1
            exact z2
        · rw [fa_cons (q' := (.number, 1, dp)) (by rcases hk with rfl | rfl <;> simp [step, hL, h0, h1]), run_num r 1 (a + 1) (by omega), e, List.drop_succ_cons]
          congr 1
          show a + 1 + run isG 8 r = _
          omega
    · rw [if_neg hg] at h
      by_cases hL : isL c = true
      · rw [if_pos hL] at h
        cases h
        have e := run_pos (m := 11) (r := r) hL
        refine ⟨(.word, 1 + run isL (12 - 1) r, dp), rfl, set_word ?_, ?_⟩
        · rcases run_stop isL 11 r with z | z | ⟨c', z1, z2⟩
          · exact .inl (by show 1 + run isL 11 r = 12; omega)
          · refine .inr fun c' r' e' => ?_
            rw [e, List.drop_succ_cons, z, List.drop_length] at e'
            cases e'
          · refine .inr fun c'' r' e' => ?_
            rw [e, List.drop_succ_cons] at e'
            have : r[run isL 11 r]? = some c'' := by rw [← List.head?_drop, e']; rfl
            rw [this] at z1
            cases z1
            exact z2
        · rw [fa_cons (q' := (.word, 1, dp)) (by rcases hk with rfl | rfl <;> simp [step, hL]), run_word r 1 (a + 1) (by omega), e, List.drop_succ_cons]
          congr 1
          show a + 1 + run isL 11 r = _
          omega
      · rw [if_neg hL] at h
        cases h
theorem atom_faN {k : Kd} {m dp a : Nat} {s : List Nat} (hk : k = .item ∨ (k = .open_ ∧ s.take 1 ≠ [41])) (h40 : ¬ s.take 1 = [40]) (h : atomN s = none) : fa (k, m, dp) s a = a := by
  cases s with
  | nil => rcases hk with rfl | ⟨rfl, _⟩ <;> simp [fa, flt]
  | cons c r =>
    have c40 : c ≠ 40 := fun z => h40 (by rw [z]; rfl)
    replace h : (if isG c = true then (if c = 48 then some 1 else some (run isG 9 (c :: r))) else if isL c = true then some (run isL 12 (c :: r)) else none) = none := h
    by_cases hg : isG c = true
    · rw [if_pos hg] at h
      split at h <;> cases h
    · rw [if_neg hg] at h
      by_cases hL : isL c = true
      · rw [if_pos hL] at h; cases h
      · have h0 : c ≠ 48 := fun z => hg (by rw [z]; rfl)
        have h1 : ¬ c ∈ DIG1 := fun z => hg (by have := mem_digs1.mp z; unfold isG; simp; omega)
        refine fa_none ?_
        rcases hk with rfl | ⟨rfl, h41⟩
        · simp [step, hL, h0, h1, c40]
        · have c41 : c ≠ 41 := fun z => h41 (by rw [z]; rfl)
          simp [step, hL, h0, h1, c40, c41]
end LW

set_option Elab.async false
set_option linter.all false
set_option maxRecDepth 100000
set_option maxHeartbeats 4000000
namespace LW
open PySem DV SX
theorem dv_snoc (l : List Nat) (c : Nat) : NumText.digitsVal (l ++ [c]) = NumText.digitsVal l * 10 + (c - 48) := by
  unfold NumText.digitsVal
  rw [List.foldl_append]
  rfl
theorem isG_of {p : List Nat} {c : Nat} (h : p.all isG = true) (hc : c ∈ p) : 48 ≤ c ∧ c ≤ 57 := by
  have := List.all_eq_true.mp h c hc
  unfold isG at this
  simpa using this
theorem digits_lt' : ∀ (n : Nat) (p : List Nat), p.length = n → p.all isG = true → NumText.digitsVal p < 10 ^ n := by
  intro n
  induction n with
  | zero =>
    intro p hp _
    rw [List.eq_nil_of_length_eq_zero hp]
    decide
  | succ n ih =>
    intro p hp hall
    cases hu : unsnoc p with
    | none => rw [unsnoc_none hu] at hp; cases hp
    | some q =>
      obtain ⟨l, c⟩ := q
      have e := unsnoc_some hu
      subst e
      rw [List.all_append, Bool.and_eq_true] at hall
      have := ih l (by simp at hp; exact hp) hall.1
      have hc := isG_of hall.2 (c := c) (by simp)
      rw [dv_snoc, Nat.pow_succ]
      omega
theorem digits_lt (p : List Nat) (h : p.all isG = true) (hl : p.length ≤ 9) : NumText.digitsVal p < 1000000000 := by
  have h1 := digits_lt' p.length p rfl h
  have h2 : 10 ^ p.length ≤ 10 ^ 9 := Nat.pow_le_pow_right (by decide) hl
  have h3 : (10 : Nat) ^ 9 = 1000000000 := by decide
  omega
theorem digits_back : ∀ (n : Nat) (p : List Nat), p.length = n → p.all isG = true → p ≠ [] → (∀ r, p = 48 :: r → r = []) → TL.numL (NumText.digitsVal p) = p := by
  intro n
  induction n with
  | zero =>
    intro p hp _ hne
    exact absurd (List.eq_nil_of_length_eq_zero hp) hne
  | succ n ih =>
    intro p hp hall hne h0
    cases hu : unsnoc p with
    | none => exact absurd (unsnoc_none hu) hne
    | some q =>
      obtain ⟨l, c⟩ := q
      have e := unsnoc_some hu
      subst e
      rw [List.all_append, Bool.and_eq_true] at hall
      have hc := isG_of hall.2 (c := c) (by simp)
      rw [dv_snoc]
      cases l with
      | nil =>
        show TL.numL (0 * 10 + (c - 48)) = [c]
        rw [Nat.zero_mul, Nat.zero_add, TL.numL_lt (by omega)]
        congr 1
        omega
      | cons d l =>
        have hd : d ≠ 48 := fun z => by
          have := h0 (l ++ [c]) (by rw [z]; rfl)
          simp at this
        have hb := ih (d :: l) (by simp at hp ⊢; omega) hall.1 (by simp) (fun r z => absurd (List.cons.inj z).1 hd)
        have hv : NumText.digitsVal (d :: l) ≠ 0 := fun z => by
          rw [z] at hb
          have : TL.numL 0 = [48] := TL.numL_lt (by decide)
          rw [this] at hb
          exact hd (List.cons.inj hb).1.symm
        rw [TL.numL_step (by omega)]
        have e1 : (NumText.digitsVal (d :: l) * 10 + (c - 48)) / 10 = NumText.digitsVal (d :: l) := by omega
        have e2 : (NumText.digitsVal (d :: l) * 10 + (c - 48)) % 10 = c - 48 := by omega
        rw [e1, e2, hb]
        congr 2
        omega
theorem atomD_ok {s : List Nat} {k : Nat} (h : atomN s = some k) (j : Nat) : Vd j (atomD (s.take k)) = true ∧ wt (atomD (s.take k)) = s.take k := by
  obtain ⟨c, r, rfl, k1, k2, k3, k4⟩ := atomN_some h
  have htk : (c :: r).take k = c :: r.take (k - 1) := by
    cases k with
    | zero => omega
    | succ k => rfl
  have hlen : ((c :: r).take k).length = k := by rw [List.length_take]; omega
  rcases k4 with ⟨hg, h9, hall, h48⟩ | ⟨hg, hL, hall⟩
  · have e : atomD ((c :: r).take k) = .int (NumText.digitsVal ((c :: r).take k)) := by
      rw [htk]
      show (if isG c = true then _ else _) = _
      rw [if_pos hg]
    rw [e]
    refine ⟨?_, ?_⟩
    · have := digits_lt _ hall (by omega)
      unfold Vd okI
      simp
      omega
    · show TL.numL ((NumText.digitsVal ((c :: r).take k) : Nat) : Int).toNat = _
      rw [Int.toNat_natCast]
      refine digits_back _ _ rfl hall (by rw [htk]; simp) fun r' e' => ?_
      rw [htk] at e'
      have hc : c = 48 := (List.cons.inj e').1
      have := h48 hc
      subst this
      exact ((List.cons.inj e').2).symm.trans (by simp)
  · have e : atomD ((c :: r).take k) = .str (S ((c :: r).take k)) := by
      rw [htk]
      show (if isG c = true then _ else _) = _
      rw [if_neg (by rw [hg]; simp)]
    rw [e]
    refine ⟨?_, rfl⟩
    show okW ((c :: r).take k) = true
    unfold okW
    rw [hall]
    simp
    omega
def Vst (st : List (List D)) : Prop := ∀ i ds, st[i]? = some ds → ∀ d ∈ ds, Vd (29 - i) d = true
theorem Vst_snoc {st : List (List D)} {ds : List D} : Vst (st ++ [ds]) ↔ Vst st ∧ ∀ d ∈ ds, Vd (29 - st.length) d = true := by
  constructor
  · intro h
    refine ⟨fun i es e => h i es ?_, h st.length ds (by simp)⟩
    rw [List.getElem?_append_left (List.getElem?_eq_some_iff.mp e).1]
    exact e
  · rintro ⟨h1, h2⟩ i es e
    by_cases hi : i < st.length
    · rw [List.getElem?_append_left hi] at e
      exact h1 i es e
    · rw [List.getElem?_append_right (by omega)] at e
      have : i - st.length = 0 := by
        cases hk : i - st.length with
        | zero => rfl
        | succ j => rw [hk] at e; simp at e
      rw [this] at e
      have hi2 : i = st.length := by omega
      subst hi2
      cases e
      exact h2
def pcl (st : List (List D)) : List Nat := match unsnoc st with
  | some (st0, ds) => pfx st0 ++ 40 :: wtL ds
  | none => []
def Res (pre s : List Nat) (f : Int) : Rd → Prop
  | .err p => f = p
  | .ok d => f = -1 ∧ wt d = pre ++ s ∧ Vd 30 d = true
theorem Res.eq {pre pre' s s' : List Nat} {f : Int} {x : Rd} (h : Res pre s f x) (e : pre ++ s = pre' ++ s') : Res pre' s' f x := by
  cases x with
  | err p => exact h
  | ok d => exact ⟨h.1, h.2.1.trans e, h.2.2⟩
theorem comp : ∀ (n : Nat) (s : List Nat) (a m : Nat) (st : List (List D)), s.length < n → st.length ≤ 30 → Vst st →
    (∀ k : Kd, (k = .item ∨ (k = .open_ ∧ s.take 1 ≠ [41])) → Res (pfx st) s (fa (k, m, st.length) s a) (mach n .it s a st)) ∧
    (∀ q : Ls, q.2.2 = st.length → st ≠ [] → (Set_ q s ∧ (∃ st0 ds, unsnoc st = some (st0, ds) ∧ ds ≠ [])) ∨ (q.1 = .open_ ∧ s.take 1 = [41]) → Res (pcl st) s (fa q s a) (mach n .cl s a st)) := by
  intro n
  induction n with
  | zero => intro s a m st h; omega
  | succ n ih =>
    intro s a m st hn h30 hv
    -- behind an item
    have aft : ∀ (d : D) (s' : List Nat) (a' : Nat) (st' : List (List D)) (q : Ls), s'.length < n → st'.length ≤ 30 → Vst st' → Vd (30 - st'.length) d = true → q.2.2 = st'.length → Set_ q s' → Res (pfx st' ++ wt d) s' (fa q s' a') (aftK (mach n .cl) d s' a' st') := by
      intro d s' a' st' q h1 h2 h3 h4 h5 h6
      unfold aftK
      cases hu : unsnoc st' with
      | none =>
        have e := unsnoc_none hu
        subst e
        by_cases hs' : s' = []
        · subst hs'
          show Res _ _ _ (if ([] : List Nat) = [] then Rd.ok d else .err a')
          rw [if_pos rfl]
          refine ⟨?_, by simp [pfx], h4⟩
          have h51 : q.2.2 = 0 := h5
          simp [fa, flt, h51, h6.1, h6.2.1]
        · show Res _ _ _ (if s' = [] then _ else _)
          rw [if_neg hs']
          cases s' with
          | nil => exact absurd rfl hs'
          | cons c r =>
            have := h6.2.2 c r rfl
            have h51 : q.2.2 = 0 := h5
            rw [h51] at this
            simp at this
            exact fa_none this
      | some p =>
        obtain ⟨st0, ds⟩ := p
        have e := unsnoc_some hu
        have hl := unsnoc_len hu
        rw [e] at h3
        obtain ⟨v1, v2⟩ := Vst_snoc.mp h3
        have hr := (ih s' a' m (st0 ++ [ds ++ [d]]) h1 (by simp; omega) (Vst_snoc.mpr ⟨v1, fun x hx => ?_⟩)).2 q (by simp; omega) (by simp) (.inl ⟨h6, st0, ds ++ [d], unsnoc_concat _ _, by simp⟩)
        · have ep : pcl (st0 ++ [ds ++ [d]]) = pfx st' ++ wt d := by
            unfold pcl
            rw [unsnoc_concat, e, pfx_snoc]
            simp [wtL_snoc]
          rw [ep] at hr
          exact hr
        · rcases List.mem_append.mp hx with h | h
          · exact v2 x h
          · rw [List.mem_singleton] at h
            subst h
            rw [show 29 - st0.length = 30 - st'.length by omega]
            exact h4
    refine ⟨fun k hk => ?_, fun q hq hne hs => ?_⟩
    · rw [mach_it]
      by_cases h40 : s.take 1 = [40]
      · rw [if_pos h40]
        obtain ⟨r, rfl⟩ : ∃ r, s = 40 :: r := by
          cases s with
          | nil => cases h40
          | cons c r => exact ⟨r, by simp at h40; rw [h40]⟩
        by_cases hf : st.length = 30
        · rw [if_pos hf]
          refine fa_none ?_
          rcases hk with rfl | ⟨rfl, _⟩ <;> simp [step, hf, show isL 40 = false from rfl, show ¬ (40 : Nat) ∈ DIG1 from fun h => by have := mem_digs1.mp h; omega]
        · rw [if_neg hf]
          have es : step (k, m, st.length) 40 = some (.open_, 0, st.length + 1) := by
            have : st.length < 30 := by omega
            rcases hk with rfl | ⟨rfl, _⟩ <;> simp [step, this, show isL 40 = false from rfl, show ¬ (40 : Nat) ∈ DIG1 from fun h => by have := mem_digs1.mp h; omega]
          rw [fa_cons es]
          have hv' : Vst (st ++ [[]]) := Vst_snoc.mpr ⟨hv, fun x hx => by cases hx⟩
          by_cases h41 : ((40 :: r).drop 1).take 1 = [41]
          · rw [if_pos h41]
            have hr := (ih r (a + 1) 0 (st ++ [[]]) (by simp at hn; omega) (by simp; omega) hv').2 (.open_, 0, st.length + 1) (by simp) (by simp) (.inr ⟨rfl, h41⟩)
            have ep : pcl (st ++ [[]]) = pfx st ++ [40] := by
              unfold pcl
              rw [unsnoc_concat]
              simp [wtL]
            rw [ep] at hr
            exact hr.eq (by simp)
          · rw [if_neg h41]
            have hr := (ih r (a + 1) 0 (st ++ [[]]) (by simp at hn; omega) (by simp; omega) hv').1 .open_ (.inr ⟨rfl, h41⟩)
            have hs : (st ++ [[]]).length = st.length + 1 := by simp
            rw [hs] at hr
            exact hr.eq (by rw [pfx_snoc]; simp [sp])
      · rw [if_neg h40]
        cases hk' : atomN s with
        | none => exact atom_faN hk h40 hk'
        | some j =>
          obtain ⟨c, r, e, k1, k2, k3, k4⟩ := atomN_some hk'
          obtain ⟨q, q1, q2, q3⟩ := atom_fa (k := k) (m := m) (dp := st.length) (a := a) (hk.imp id fun z => z.1) hk'
          rw [q3]
          have ad := atomD_ok hk' (30 - st.length)
          have := aft (atomD (s.take j)) (s.drop j) (a + j) st q (by rw [List.length_drop]; omega) h30 hv ad.1 q1 q2
          rw [ad.2] at this
          exact this.eq (by simp)
    · rw [mach_cl]
      cases hu : unsnoc st with
      | none => exact absurd (unsnoc_none hu) hne
      | some p =>
        obtain ⟨st0, ds⟩ := p
        have e := unsnoc_some hu
        have hl := unsnoc_len hu
        obtain ⟨v1, v2⟩ := Vst_snoc.mp (by rw [← e]; exact hv)
        have ep : pcl st = pfx st0 ++ 40 :: wtL ds := by unfold pcl; rw [hu]
        rw [ep]
        have hpos : 0 < q.2.2 := by omega
        by_cases h41 : s.take 1 = [41]
        · rw [if_pos h41]
          obtain ⟨r, rfl⟩ : ∃ r, s = 41 :: r := by
            cases s with
            | nil => cases h41
            | cons c r => exact ⟨r, by simp at h41; rw [h41]⟩
          have es : step q 41 = some (.done, 0, q.2.2 - 1) := by
            rcases hs with ⟨h6, _⟩ | ⟨ho, _⟩
            · have := h6.2.2 41 r rfl
              simpa [hpos] using this
            · obtain ⟨k, m', dp⟩ := q
              cases ho
              simp [step, show isL 41 = false from rfl, show ¬ (41 : Nat) ∈ DIG1 from fun h => by have := mem_digs1.mp h; omega]
          rw [fa_cons es]
          have hd : Vd (30 - st0.length) (.tup ds) = true := by
            unfold Vd
            simp only [Bool.and_eq_true, decide_eq_true_eq]
            refine ⟨by omega, ?_⟩
            rw [show 30 - st0.length - 1 = 29 - st0.length by omega]
            exact VdL_all.mpr v2
          have := aft (.tup ds) r (a + 1) st0 (.done, 0, q.2.2 - 1) (by simp at hn; omega) (by omega) v1 hd (by show q.2.2 - 1 = st0.length; omega) (set_zd (.inr rfl))
          exact this.eq (by simp [wt])
        · rw [if_neg h41]
          rcases hs with ⟨h6, st1, ds1, hu1, hds⟩ | ⟨_, z⟩
          · rw [hu] at hu1
            cases hu1
            by_cases h32 : s.take 1 = [32]
            · rw [if_pos h32]
              obtain ⟨r, rfl⟩ : ∃ r, s = 32 :: r := by
                cases s with
                | nil => cases h32
                | cons c r => exact ⟨r, by simp at h32; rw [h32]⟩
              have es : step q 32 = some (.item, 0, st.length) := by
                have := h6.2.2 32 r rfl
                rw [this, hq]
                simp
                omega
              rw [fa_cons es]
              have := (ih r (a + 1) 0 st (by simp at hn; omega) h30 hv).1 .item (.inl rfl)
              refine this.eq ?_
              rw [e, pfx_snoc]
              cases ds with
              | nil => exact absurd rfl hds
              | cons d ds => rw [sp_eq]; simp
            · rw [if_neg h32]
              cases s with
              | nil =>
                show fa q [] a = a
                have : q.2.2 ≠ 0 := by omega
                simp [fa, flt, this]
              | cons c r =>
                refine fa_none ?_
                rw [h6.2.2 c r rfl]
                have c1 : c ≠ 32 := fun z => h32 (by rw [z]; rfl)
                have c2 : c ≠ 41 := fun z => h41 (by rw [z]; rfl)
                simp [c1, c2]
          · exact absurd z h41
end LW

set_option Elab.async false
set_option linter.all false
set_option maxRecDepth 100000
set_option maxHeartbeats 4000000
namespace LW
open PySem DV SX
theorem fault_fa (l : List Nat) : fault l = fa (.item, 0, 0) l 0 := by
  unfold fault fa
  rw [Nat.zero_add]
  try (cases flt (.item, 0, 0) l 0 <;> rfl)
theorem any_text (l : List Nat) : match mach (l.length + 1) .it l 0 [] with
    | .err p => fault l = p
    | .ok d => fault l = -1 ∧ wt d = l ∧ Vd 30 d = true := by
  have h := (comp (l.length + 1) l 0 0 [] (by omega) (by simp) (fun i ds e => by simp at e)).1 .item (.inl rfl)
  rw [fault_fa]
  cases hm : mach (l.length + 1) .it l 0 [] with
  | err p => rw [hm] at h; exact h
  | ok d => rw [hm] at h; exact h
def Rst (rest : List Nat) : Prop := ∀ c r, rest = c :: r → c = 32 ∨ c = 41
theorem run_all {p : Nat → Bool} : ∀ (w : List Nat) (m : Nat) (rest : List Nat), w.length ≤ m → w.all p = true → (∀ c r, rest = c :: r → p c = false) → run p m (w ++ rest) = w.length
  | [], m, rest, _, _, hr => by
    cases m with
    | zero => rfl
    | succ m =>
      cases rest with
      | nil => rfl
      | cons c r =>
        show (if p c = true then _ else 0) = 0
        rw [if_neg (by rw [hr c r rfl]; simp)]
  | c :: w, 0, rest, h, _, _ => by simp at h
  | c :: w, m + 1, rest, h, ha, hr => by
    rw [List.all_cons, Bool.and_eq_true] at ha
    rw [List.cons_append, run_pos ha.1, run_all w m rest (by simp at h; omega) ha.2 hr]
    rfl
theorem numL_head : ∀ (n : Nat), 0 < n → ∃ c r, TL.numL n = c :: r ∧ c ≠ 48 := by
  intro n
  induction n using Nat.strongRecOn with
  | _ n ih =>
    intro h
    by_cases h10 : n < 10
    · exact ⟨48 + n, [], TL.numL_lt h10, by omega⟩
    · obtain ⟨c, r, e, hc⟩ := ih (n / 10) (by omega) (by omega)
      exact ⟨c, r ++ [48 + n % 10], by rw [TL.numL_step (by omega), e]; rfl, hc⟩
theorem numL_isG (n : Nat) : (TL.numL n).all isG = true := by
  rw [List.all_eq_true]
  intro c hc
  have := TL.numL_digits n c hc
  unfold isG
  simp
  omega
theorem atom_front {d : D} {j : Nat} (h : Vd j d = true) (ht : ∀ ds, d ≠ .tup ds) {rest : List Nat} (hr : Rst rest) : atomN (wt d ++ rest) = some (wt d).length ∧ atomD (wt d) = d ∧ ∃ c r, wt d = c :: r ∧ c ≠ 40 ∧ c ≠ 41 := by
  have r1 : ∀ c r, rest = c :: r → isL c = false := fun c r e => by rcases hr c r e with rfl | rfl <;> rfl
  have r2 : ∀ c r, rest = c :: r → isG c = false := fun c r e => by rcases hr c r e with rfl | rfl <;> rfl
  cases d with
  | str x =>
    have hw : okW x.cps.toList = true := h
    unfold okW at hw
    simp only [Bool.and_eq_true, decide_eq_true_eq] at hw
    obtain ⟨⟨h1, h2⟩, h3⟩ := hw
    show atomN (x.cps.toList ++ rest) = some x.cps.toList.length ∧ atomD x.cps.toList = .str x ∧ _
    cases hx : x.cps.toList with
    | nil => rw [hx] at h1; simp at h1
    | cons c r =>
      rw [hx] at h3 h2
      have hc : isL c = true := by rw [List.all_cons, Bool.and_eq_true] at h3; exact h3.1
      have hg : ¬ isG c = true := fun z => by unfold isL at hc; unfold isG at z; simp at hc z; omega
      refine ⟨?_, ?_, c, r, hx, ?_, ?_⟩
      · rw [List.cons_append]
        show (if isG c = true then _ else if isL c = true then some (run isL 12 (c :: (r ++ rest))) else none) = _
        rw [if_neg hg, if_pos hc, ← List.cons_append, run_all (c :: r) 12 rest h2 h3 r1]
      · show (if isG c = true then _ else D.str (S (c :: r))) = _
        rw [if_neg hg, ← hx, S_tl]
      · intro z; rw [z] at hc; cases hc
      · intro z; rw [z] at hc; cases hc
  | int i =>
    have hi : okI i = true := h
    unfold okI at hi
    simp only [decide_eq_true_eq] at hi
    obtain ⟨n, rfl⟩ : ∃ n : Nat, i = (n : Int) := ⟨i.toNat, by omega⟩
    show atomN (TL.numL (n : Int).toNat ++ rest) = some (TL.numL (n : Int).toNat).length ∧ atomD (TL.numL (n : Int).toNat) = .int n ∧ ∃ c r, TL.numL (n : Int).toNat = c :: r ∧ _
    rw [Int.toNat_natCast]
    have hlen : (TL.numL n).length ≤ 9 := TL.numL_len (by decide) (by omega)
    have hall := numL_isG n
    have hv := TL.numL_val n
    cases hx : TL.numL n with
    | nil => exact absurd hx (TL.numL_ne n)
    | cons c r =>
      rw [hx] at hlen hall hv
      have hc : isG c = true := by rw [List.all_cons, Bool.and_eq_true] at hall; exact hall.1
      refine ⟨?_, ?_, c, r, rfl, ?_, ?_⟩
      · rw [List.cons_append]
        show (if isG c = true then (if c = 48 then some 1 else some (run isG 9 (c :: (r ++ rest)))) else _) = _
        rw [if_pos hc]
        by_cases h0 : c = 48
        · rw [if_pos h0]
          by_cases hn : 0 < n
          · obtain ⟨c', r', e', hc'⟩ := numL_head n hn
            rw [hx] at e'
            exact absurd ((List.cons.inj e').1.symm.trans h0) hc'
          · have : n = 0 := by omega
            subst this
            have : TL.numL 0 = [48] := TL.numL_lt (by decide)
            rw [this] at hx
            rw [← (List.cons.inj hx).2]
            rfl
        · rw [if_neg h0, ← List.cons_append, run_all (c :: r) 9 rest hlen hall r2]
      · show (if isG c = true then D.int (NumText.digitsVal (c :: r)) else _) = _
        rw [if_pos hc, hv]
      · intro z; rw [z] at hc; cases hc
      · intro z; rw [z] at hc; cases hc
  | tup ds => exact absurd rfl (ht ds)
  | non => cases h
  | bl b => cases h
  | lst ds => cases h
  | ins c ns ds => cases h
  | dK ks ds => cases h
  | dT ks ds => cases h
  | cls c => cases h
  | ty n => cases h
  | fn i => cases h
theorem aftK_snoc {k : List Nat → Nat → List (List D) → Rd} {d : D} {s : List Nat} {a : Nat} {st : List (List D)} {acc : List D} : aftK k d s a (st ++ [acc]) = k s a (st ++ [acc ++ [d]]) := by
  unfold aftK
  rw [unsnoc_concat]
theorem wt_head {d : D} {j : Nat} (h : Vd j d = true) : ∃ c r, wt d = c :: r ∧ c ≠ 41 := by
  cases d with
  | tup ds => exact ⟨40, _, rfl, by decide⟩
  | _ => obtain ⟨_, _, c, r, e, _, h⟩ := atom_front h (fun ds z => nomatch z) (rest := []) (fun c r e => by cases e); exact ⟨c, r, e, h⟩
theorem front1 {d : D} {j : Nat} {rest : List Nat} {a n : Nat} {st : List (List D)} (hv : Vd j d = true) (ht : ∀ ds, d ≠ .tup ds) (hr : Rst rest) (hn : (wt d ++ rest).length < n) : ∃ n', rest.length < n' ∧ mach n .it (wt d ++ rest) a st = aftK (mach n' .cl) d rest (a + (wt d).length) st := by
  obtain ⟨h1, h2, c, r, e, h40, h41⟩ := atom_front hv ht hr
  cases n with
  | zero => omega
  | succ n =>
    refine ⟨n, ?_, ?_⟩
    · rw [e] at hn
      simp at hn
      omega
    · rw [mach_it, if_neg (by rw [e]; simp [h40]), h1]
      show aftK (mach n .cl) (atomD ((wt d ++ rest).take (wt d).length)) ((wt d ++ rest).drop (wt d).length) (a + (wt d).length) st = _
      rw [List.take_left, List.drop_left, h2]
mutual
theorem front : ∀ (d : D) (j : Nat) (rest : List Nat) (a n : Nat) (st : List (List D)), Vd j d = true → st.length + j ≤ 30 → Rst rest → (wt d ++ rest).length < n → ∃ n', rest.length < n' ∧ mach n .it (wt d ++ rest) a st = aftK (mach n' .cl) d rest (a + (wt d).length) st
  | .tup ds, j, rest, a, 0, st, _, _, _, h => by omega
  | .tup ds, j, rest, a, n + 1, st, hv, hj, hr, hn => by
    have hv' : 0 < j ∧ VdL (j - 1) ds = true := by
      unfold Vd at hv
      simpa using hv
    have ew : wt (.tup ds) ++ rest = 40 :: (wtL ds ++ 41 :: rest) := by simp [wt]
    rw [ew] at hn ⊢
    rw [mach_it, if_pos (by simp), if_neg (by omega)]
    simp only [List.drop_succ_cons, List.drop_zero]
    cases ds with
    | nil =>
      rw [if_pos (by simp [wtL])]
      obtain ⟨n', h1, h2⟩ := frontR [] j rest (a + 1) n st [] hv'.1 hv'.2 hj hr (by simp [wtR, wtL] at hn ⊢; omega)
      refine ⟨n', h1, ?_⟩
      have e : wtL [] ++ 41 :: rest = wtR [] ++ 41 :: rest := by simp [wtL, wtR]
      rw [e, h2]
      simp [wt, wtL, wtR]
    | cons d ds =>
      have hvd : Vd (j - 1) d = true ∧ VdL (j - 1) ds = true := by
        have := hv'.2
        unfold VdL at this
        simpa using this
      have e : wtL (d :: ds) ++ 41 :: rest = wt d ++ (wtR ds ++ 41 :: rest) := by simp [wtL]
      rw [e] at hn ⊢
      have h41 : ¬ (wt d ++ (wtR ds ++ 41 :: rest)).take 1 = [41] := by
        obtain ⟨c, r, ec, hc⟩ := wt_head hvd.1
        rw [ec]
        simp [hc]
      rw [if_neg h41]
      have hr' : Rst (wtR ds ++ 41 :: rest) := fun c r e => by
        cases ds with
        | nil => right; simp [wtR] at e; exact e.1.symm
        | cons d' ds' => left; simp [wtR] at e; exact e.1.symm
      obtain ⟨n1, h1, h2⟩ := front d (j - 1) (wtR ds ++ 41 :: rest) (a + 1) n (st ++ [[]]) hvd.1 (by simp; omega) hr' (by simp at hn ⊢; omega)
      rw [h2, aftK_snoc]
      obtain ⟨n2, h3, h4⟩ := frontR ds j rest (a + 1 + (wt d).length) n1 st ([] ++ [d]) hv'.1 hvd.2 hj hr h1
      refine ⟨n2, h3, ?_⟩
      rw [h4]
      simp [wt, wtL]
      congr 1
      omega
  | .str x, j, rest, a, n, st, hv, hj, hr, hn => front1 hv (fun ds z => nomatch z) hr hn
  | .int x, j, rest, a, n, st, hv, hj, hr, hn => front1 hv (fun ds z => nomatch z) hr hn
  | .non, j, rest, a, n, st, hv, hj, hr, hn => by cases hv
  | .bl b, j, rest, a, n, st, hv, hj, hr, hn => by cases hv
  | .lst ds, j, rest, a, n, st, hv, hj, hr, hn => by cases hv
  | .ins c ns ds, j, rest, a, n, st, hv, hj, hr, hn => by cases hv
  | .dK ks ds, j, rest, a, n, st, hv, hj, hr, hn => by cases hv
  | .dT ks ds, j, rest, a, n, st, hv, hj, hr, hn => by cases hv
  | .cls c, j, rest, a, n, st, hv, hj, hr, hn => by cases hv
  | .ty m, j, rest, a, n, st, hv, hj, hr, hn => by cases hv
  | .fn i, j, rest, a, n, st, hv, hj, hr, hn => by cases hv
theorem frontR : ∀ (ds : List D) (j : Nat) (rest : List Nat) (a n : Nat) (st : List (List D)) (acc : List D), 0 < j → VdL (j - 1) ds = true → st.length + j ≤ 30 → Rst rest → (wtR ds ++ 41 :: rest).length < n → ∃ n', rest.length < n' ∧ mach n .cl (wtR ds ++ 41 :: rest) a (st ++ [acc]) = aftK (mach n' .cl) (.tup (acc ++ ds)) rest (a + (wtR ds).length + 1) st
  | _, j, rest, a, 0, st, acc, _, _, _, _, h => by omega
  | [], j, rest, a, n + 1, st, acc, h0, hv, hj, hr, hn => by
    refine ⟨n, by simp [wtR] at hn; omega, ?_⟩
    rw [mach_cl, if_pos (by simp [wtR]), unsnoc_concat]
    simp [wtR]
  | d :: ds, j, rest, a, n + 1, st, acc, h0, hv, hj, hr, hn => by
    have hvd : Vd (j - 1) d = true ∧ VdL (j - 1) ds = true := by
      unfold VdL at hv
      simpa using hv
    have e : wtR (d :: ds) ++ 41 :: rest = 32 :: (wt d ++ (wtR ds ++ 41 :: rest)) := by simp [wtR]
    rw [e] at hn ⊢
    rw [mach_cl, if_neg (by simp), if_pos (by simp)]
    simp only [List.drop_succ_cons, List.drop_zero]
    have hr' : Rst (wtR ds ++ 41 :: rest) := fun c r e => by
      cases ds with
      | nil => right; simp [wtR] at e; exact e.1.symm
      | cons d' ds' => left; simp [wtR] at e; exact e.1.symm
    obtain ⟨n1, h1, h2⟩ := front d (j - 1) (wtR ds ++ 41 :: rest) (a + 1) n (st ++ [acc]) hvd.1 (by simp; omega) hr' (by simp at hn ⊢; omega)
    rw [h2, aftK_snoc]
    obtain ⟨n2, h3, h4⟩ := frontR ds j rest (a + 1 + (wt d).length) n1 st (acc ++ [d]) h0 hvd.2 hj hr h1
    refine ⟨n2, h3, ?_⟩
    rw [h4]
    simp [wtR]
    congr 1
    omega
end
theorem own_text {d : D} (h : Vd 30 d = true) : mach ((wt d).length + 1) .it (wt d) 0 [] = .ok d := by
  obtain ⟨n', _, h2⟩ := front d 30 [] 0 ((wt d).length + 1) [] h (by simp) (fun c r e => by cases e) (by simp)
  rw [List.append_nil] at h2
  rw [h2]
  rfl
end LW

set_option Elab.async false
set_option linter.all false
set_option maxRecDepth 100000
set_option maxHeartbeats 4000000
namespace LW
open PySem DV SX
mutual
def Tr : D → Bool
  | .str x => decide (x.length ≤ 1000)
  | .int _ => true
  | .tup ds => decide (ds.length ≤ 1000) && TrL ds
  | _ => false
def TrL : List D → Bool
  | [] => true
  | d :: ds => Tr d && TrL ds
end
def okA : D → Bool
  | .str x => okW x.cps.toList
  | .int i => okI i
  | _ => false
mutual
def fw : D → List Nat → Option (List Nat)
  | .tup ds, p => if 30 ≤ p.length then some p else fwL ds 0 p
  | .str x, p => if okW x.cps.toList = true then none else some p
  | .int i, p => if okI i = true then none else some p
  | _, p => some p
def fwL : List D → Nat → List Nat → Option (List Nat)
  | [], _, _ => none
  | d :: ds, k, p => match fw d (p ++ [k]) with
    | some q => some q
    | none => fwL ds (k + 1) p
end
abbrev pD (p : List Nat) : D := .tup (p.map fun n : Nat => D.int ((n : Nat) : Int))
theorem word_loop {x : Str} : ∀ (s : List Nat) (o : Option D), ∃ o', forL (gSet 1) (sIf (mTest (mOp2 opNotIn (mVar 1) (mPure C_LETTERS))) (sRet (mPure (.bl false))) (sNext)) (s.map fun c => D.str ⟨#[c]⟩) [.fz (.str x), oc o] = (if s.all isL = true then .next [.fz (.str x), oc o'] else .ret (.fz (.bl false)) [.fz (.str x), oc o']) := by
  intro s
  induction s with
  | nil => exact fun o => ⟨o, rfl⟩
  | cons c r ih =>
    intro o
    rw [List.map_cons, forL_cons]
    have i1 : opNotIn (.str ⟨#[c]⟩) (.str (S LETS)) = some (.fz (.bl (!isL c))) := by
      have := opNi_S c LETS
      rw [dec_lets] at this
      exact this
    by_cases h : isL c = true
    · obtain ⟨o', e⟩ := ih (some (.str ⟨#[c]⟩))
      refine ⟨o', ?_⟩
      rw [List.all_cons, h, Bool.true_and, ← e]
      simp [C_LETTERS, i1, h, oc_s]
    · refine ⟨some (.str ⟨#[c]⟩), ?_⟩
      rw [List.all_cons]
      simp [C_LETTERS, i1, h, oc_s]
theorem isT_str (d : D) : isD d "str" = (tyD d).map fun t => isTab t "str" := rfl
theorem isT_int (d : D) : isD d "int" = (tyD d).map fun t => isTab t "int" := rfl
theorem isT_tup (d : D) : isD d "tuple" = (tyD d).map fun t => isTab t "tuple" := rfl
theorem isT_bool (d : D) : isD d "bool" = (tyD d).map fun t => isTab t "bool" := rfl
def isW : D → Bool
  | .str x => okW x.cps.toList
  | _ => false
theorem is_word_ok {d : D} (h : Tr d = true) : F_is_word [.fz d] = .ok (.fz (.bl (isW d))) [.fz d] := by
  unfold F_is_word
  rw [runF_eq (by simp)]
  cases d with
  | str x =>
    have hx : x.length ≤ 1000 := by simpa [Tr] using h
    have hz : x.length ≤ sizeLine := Nat.le_trans hx (by decide)
    obtain ⟨l, rfl⟩ : ∃ l, x = S l := ⟨x.cps.toList, (S_tl x).symm⟩
    rw [S_len2] at hx hz
    have e1 : opEq (.str (S l)) (.str (S [])) = some (.fz (.bl (decide (l = [])))) := opEq_S l []
    have ew : isW (.str (S l)) = okW l := rfl
    rw [ew]
    by_cases h0 : l = []
    · subst h0
      simp [m_is_word, isT_str, okW]
    · have h1 : 1 ≤ l.length := List.length_pos_iff.mpr h0
      by_cases h12 : (12 : Int) < (l.length : Int)
      · have : ¬ l.length ≤ 12 := by omega
        simp [m_is_word, isT_str, e1, h0, C_MOST_LETTERS, hz, h12, okW, this]
      · have h12' : l.length ≤ 12 := by omega
        have lp := word_loop (x := S l) l none
        obtain ⟨o', lp⟩ := lp
        have eit : sgD (S l) = l.map fun c => D.str ⟨#[c]⟩ := rfl
        have eo : ([.fz (.str (S l)), .no] : List Cell) = [.fz (.str (S l)), oc none] := rfl
        by_cases ha : l.all isL = true
        · rw [if_pos ha] at lp
          simp [m_is_word, isT_str, e1, h0, C_MOST_LETTERS, hz, h12, eit, eo, lp, okW, h12', h1]
          simpa using ha
        · rw [if_neg ha] at lp
          simp [m_is_word, isT_str, e1, h0, C_MOST_LETTERS, hz, h12, eit, eo, lp, okW, h12', h1]
          simpa using ha
  | int i => simp [m_is_word, isT_str, isW]
  | tup ds => simp [m_is_word, isT_str, isW]
  | _ => cases h
theorem is_number_ok {d : D} (h : Tr d = true) : F_is_number [.fz d] = .ok (.fz (.bl (match d with | .int i => okI i | _ => false))) [.fz d] := by
  unfold F_is_number
  rw [runF_eq (by simp)]
  cases d with
  | int i =>
    by_cases h0 : 0 ≤ i
    · by_cases h1 : i ≤ 999999999
      · have : i < 1000000000 := by omega
        simp [m_is_number, isT_int, okI, C_MOST_NUMBER, h0, h1, this]
      · have : ¬ i < 1000000000 := by omega
        simp [m_is_number, isT_int, okI, C_MOST_NUMBER, h0, h1, this]
    · simp [m_is_number, isT_int, okI, h0]
  | str x => simp [m_is_number, isT_int]
  | tup ds => simp [m_is_number, isT_int]
  | _ => cases h
end LW

set_option Elab.async false
set_option linter.all false
set_option maxRecDepth 100000
set_option maxHeartbeats 4000000
namespace LW
open PySem DV SX
theorem oc_n : oc none = Cell.no := rfl
mutual
def dep : D → Nat
  | .tup ds => depL ds + 1
  | _ => 0
def depL : List D → Nat
  | [] => 0
  | d :: ds => max (dep d) (depL ds)
end
theorem dep_mem : ∀ {ds : List D} {d : D}, d ∈ ds → dep d ≤ depL ds
  | e :: ds, d, h => by
    unfold depL
    rcases List.mem_cons.mp h with rfl | h
    · exact Nat.le_max_left _ _
    · exact Nat.le_trans (dep_mem h) (Nat.le_max_right _ _)
theorem TrL_all : ∀ {ds : List D}, TrL ds = true ↔ ∀ d ∈ ds, Tr d = true
  | [] => by simp [TrL]
  | d :: ds => by simp [TrL, TrL_all (ds := ds)]
theorem Tr_tup {ds : List D} (h : Tr (.tup ds) = true) : ds.length ≤ 1000 ∧ ∀ d ∈ ds, Tr d = true := by
  unfold Tr at h
  simp only [Bool.and_eq_true, decide_eq_true_eq] at h
  exact ⟨h.1, TrL_all.mp h.2⟩
theorem lc_map {α : Type} {j : Nat} {me : M Vc} {ρ : Rho} (f e : α → D) (hj : ρ[j]? = some .no) : ∀ (s : List α) (acc : List D), (∀ x ∈ s, ∃ c, me (ρ.set j (.fz (f x))) = .ok c (ρ.set j (.fz (f x))) ∧ c.d = e x) → acc.length + s.length ≤ sizeLine → lcL [j] (gSet j) mYes me (s.map f) acc ρ = .ok (acc ++ s.map e) ρ
  | [], acc, _, _ => by rw [List.map_nil, lcL_nil]; simp
  | d :: ds, acc, h, hl => by
    obtain ⟨c, h1, h2⟩ := h d (by simp)
    have hlt : j < ρ.length := (List.getElem?_eq_some_iff.mp hj).1
    rw [List.map_cons, lcL_cons]
    have e1 : gSet j (f d) ρ = some (ρ.set j (.fz (f d))) := by simp [hj]
    have e2 : wipeR [j] (ρ.set j (.fz (f d))) = some ρ := by
      rw [wipe1, e_setR, List.getElem?_set_self hlt, setC_fz, List.set_set]
      rw [set_same hj]
    rw [e1]
    show R.lcE [j] (gSet j) mYes me (ds.map f) acc (me (ρ.set j (.fz (f d)))) = _
    rw [h1]
    show (if acc.length < sizeLine then lcB [j] (gSet j) mYes me (ds.map f) acc c (wipeR [j] (ρ.set j (.fz (f d)))) else .bad) = _
    rw [if_pos (by simp at hl; omega), e2]
    show lcL [j] (gSet j) mYes me (ds.map f) (acc ++ [c.d]) ρ = _
    rw [lc_map f e hj ds (acc ++ [c.d]) (fun d' hd' => h d' (by simp [hd'])) (by simp at hl ⊢; omega), h2]
    simp
theorem bls_map (bs : List Bool) : bls? (bs.map D.bl) = some bs := by
  induction bs with
  | nil => rfl
  | cons b bs ih =>
    show (bls? (bs.map D.bl)).map (b :: ·) = _
    rw [ih]
    rfl
theorem right_ok {d : D} (h : Tr d = true) (ht : ∀ ds, d ≠ .tup ds) : F__law_right [.fz d] = .ok (.fz (.bl (okA d))) [.fz d] := by
  unfold F__law_right
  rw [runF_eq (by simp)]
  cases d with
  | tup ds => exact absurd rfl (ht ds)
  | int i =>
    by_cases h0 : 0 ≤ i
    · by_cases h1 : i < 1000000000
      · simp [m__law_right, isT_str, okA, okI, h0, h1]
      · simp [m__law_right, isT_str, okA, okI, h0, h1]
    · simp [m__law_right, isT_str, okA, okI, h0]
  | str x =>
    have hx : x.length ≤ 1000 := by simpa [Tr] using h
    have hz : x.length ≤ sizeLine := Nat.le_trans hx (by decide)
    obtain ⟨l, rfl⟩ : ∃ l, x = S l := ⟨x.cps.toList, (S_tl x).symm⟩
    rw [S_len2] at hx hz
    have eo : okA (.str (S l)) = okW l := rfl
    rw [eo]
    by_cases h1 : (1 : Int) ≤ (l.length : Int)
    · by_cases h12 : (l.length : Int) ≤ 12
      · have i1 : ∀ c, opIn (.str ⟨#[c]⟩) (.str (S LETS)) = some (.fz (.bl (isL c))) := fun c => by
          have := opIn_S c LETS
          rw [dec_lets] at this
          exact this
        have lc := lc_map (j := 1) (me := mOp2 opIn (mVar 1) (mPure (.str (S LETS)))) (ρ := [.fz (.str (S l)), .no]) (fun c : Nat => D.str ⟨#[c]⟩) (fun c => .bl (isL c)) rfl l [] (fun c hc => ⟨.fz (.bl (isL c)), by simp [i1], rfl⟩) (by simpa using hz)
        have eb : bls? (l.map fun c => D.bl (isL c)) = some (l.map isL) := by
          have := bls_map (l.map isL)
          rw [List.map_map] at this
          exact this
        have eit : sgD (S l) = l.map fun c => D.str ⟨#[c]⟩ := rfl
        have a1 : 1 ≤ l.length := by omega
        have a2 : l.length ≤ 12 := by omega
        have ea : (l.map isL).all id = l.all isL := by rw [List.all_map]; rfl
        simp [m__law_right, isT_str, hz, h1, h12, eit, fAll, lc, okW, a1, a2, eb]
        try rfl
      · have : ¬ l.length ≤ 12 := by omega
        simp [m__law_right, isT_str, hz, h1, h12, okW, this]
    · have : ¬ 1 ≤ l.length := by omega
      simp [m__law_right, isT_str, hz, h1, okW, this]
  | _ => cases h
theorem opIx_tup {ds : List D} {a : Nat} {d : D} (h : ds[a]? = some d) : opIx (.tup ds) (.int (a : Int)) = some (.fz d) := by
  show Option.map _ (L2.atI ds (a : Int)) = _
  have ha : a < ds.length := (List.getElem?_eq_some_iff.mp h).1
  unfold L2.atI L2.ixN
  rw [if_pos (by omega), if_pos (by omega)]
  show Option.map _ (ds[(a : Int).toNat]?) = _
  rw [Int.toNat_natCast, h]
  rfl
theorem tupC_ok {ds : List D} (h : ds.length ≤ 1000000) : tupC ds = some (.fz (.tup ds)) := if_pos (Nat.le_trans h (by decide))
theorem opAdd_path {p : List Nat} {a : Nat} (h : p.length ≤ 1000) : opAdd (pD p) (.tup [.int (a : Int)]) = some (.fz (pD (p ++ [a]))) := by
  show (if (p.map fun n : Nat => D.int ((n : Nat) : Int)).length + [D.int (a : Int)].length ≤ sizeLine then _ else _) = _
  rw [if_pos (by rw [List.length_map]; show p.length + 1 ≤ sizeLine; exact Nat.le_trans (by omega : p.length + 1 ≤ 1001) (by decide))]
  simp
def optP : Option (List Nat) → D
  | some p => pD p
  | none => .non
noncomputable def wB (G : Fn) : MS := sSeq (sSet 3 (mCall G (mAcons (mOp2 opIx (mVar 0) (mVar 2)) (mAcons (mOp2 opAdd (mVar 1) (mTup (mAcons (mVar 2) (mAnil)))) (mAnil))))) (sIf (mTest (mUn opNotN (mVar 3))) (sRet (mVar 3)) (sNext))
theorem wrong_loop {G : Fn} {ds : List D} {p : List Nat} (hp : p.length ≤ 1000) (hG : ∀ d ∈ ds, ∀ k : Nat, G [.fz d, .fz (pD (p ++ [k]))] = .ok (.fz (optP (fw d (p ++ [k])))) [.fz d, .fz (pD (p ++ [k]))]) : ∀ (s : List D) (a : Nat) (o2 o3 : Option D), ds.drop a = s → ∃ ρ', forL (gSet 2) (wB G) ((List.range' a s.length).map fun i : Nat => D.int (i : Int)) [.fz (.tup ds), .fz (pD p), oc o2, oc o3] = (match fwL s a p with
    | some q => .ret (.fz (pD q)) (.fz (.tup ds) :: .fz (pD p) :: ρ')
    | none => .next (.fz (.tup ds) :: .fz (pD p) :: ρ')) := by
  intro s
  induction s with
  | nil => exact fun a o2 o3 hs => ⟨_, rfl⟩
  | cons d r ih =>
    intro a o2 o3 hs
    have ha : ds[a]? = some d := by rw [← List.head?_drop, hs]; rfl
    have hn : ds.drop (a + 1) = r := by rw [← List.drop_drop, hs]; rfl
    have hm : d ∈ ds := List.mem_of_getElem? ha
    have hg := hG d hm a
    have hz : p.length + 1 ≤ sizeLine := Nat.le_trans (by omega : p.length + 1 ≤ 1001) (by decide)
    rw [List.length_cons, List.range'_succ, List.map_cons, forL_cons]
    have e : forG (gSet 2) (wB G) ((List.range' (a + 1) r.length).map fun i : Nat => D.int (i : Int)) (gSet 2 (.int (a : Int)) [.fz (.tup ds), .fz (pD p), oc o2, oc o3]) = SR.fk (gSet 2) (wB G) ((List.range' (a + 1) r.length).map fun i : Nat => D.int (i : Int)) (wB G [.fz (.tup ds), .fz (pD p), .fz (.int (a : Int)), oc o3]) := by simp
    rw [e]
    cases hf : fw d (p ++ [a]) with
    | some q =>
      rw [hf] at hg
      simp only [fwL, hf]
      simp only [pD, List.map_append, List.map_cons, List.map_nil] at hg
      refine ⟨[.fz (.int (a : Int)), .fz (pD q)], ?_⟩
      simp [wB, opIx_tup ha, tupC_ok, hz, hg, optP, opNotN]
    | none =>
      rw [hf] at hg
      simp only [fwL, hf]
      simp only [pD, List.map_append, List.map_cons, List.map_nil] at hg
      have hB : wB G [.fz (.tup ds), .fz (pD p), .fz (.int (a : Int)), oc o3] = .next [.fz (.tup ds), .fz (pD p), oc (some (.int (a : Int))), oc (some .non)] := by
        simp [wB, opIx_tup ha, tupC_ok, hz, hg, optP, opNotN, oc_s]
      rw [hB]
      exact ih (a + 1) (some (.int (a : Int))) (some .non) hn
theorem wrong_ok : ∀ (n : Nat) (d : D) (p : List Nat), Tr d = true → dep d < n → p.length ≤ 900 → F__law_first_wrong n [.fz d, .fz (pD p)] = .ok (.fz (optP (fw d p))) [.fz d, .fz (pD p)] := by
  intro n
  induction n with
  | zero => intro d p _ h; omega
  | succ n ih =>
    intro d p ht hd hp
    have em : m__law_first_wrong (F__law_first_wrong n) = sSeq (sIf (mNot (mTru (mCB fIsi (mAcons (mVar 0) (mAcons (mPure (.ty "tuple")) (mAnil)))))) (sRet (mOp2 opIx (mLst (mAcons (mVar 1) (mAcons (mPure .non) (mAnil)))) (mCB fInt (mAcons (mCall F__law_right (mAcons (mVar 0) (mAnil))) (mAnil))))) (sNext)) (sSeq (sIf (mTest (mOp2 opGe (mCB fLen (mAcons (mVar 1) (mAnil))) (mPure (.int 30)))) (sRet (mVar 1)) (sNext)) (sSeq (sFor (gSet 2) (mRange1 (mCB fLen (mAcons (mVar 0) (mAnil)))) (wB (F__law_first_wrong n))) (sRet (mPure .non)))) := rfl
    show runF 2 4 (m__law_first_wrong (F__law_first_wrong n)) _ = _
    rw [runF_eq (by simp), em]
    have ix2 : ∀ x y : D, opIx (.lst [x, y]) (.int 0) = some (.fz x) ∧ opIx (.lst [x, y]) (.int 1) = some (.fz y) := fun x y => ⟨rfl, rfl⟩
    cases d with
    | tup ds =>
      obtain ⟨t1, t2⟩ := Tr_tup ht
      by_cases h30 : 30 ≤ p.length
      · have h30' : (30 : Int) ≤ ((p.length : Nat) : Int) := by omega
        simp [isT_tup, h30', fw, h30, optP]
      · have h30' : ¬ (30 : Int) ≤ ((p.length : Nat) : Int) := by omega
        have hG : ∀ d ∈ ds, ∀ k : Nat, F__law_first_wrong n [.fz d, .fz (pD (p ++ [k]))] = .ok (.fz (optP (fw d (p ++ [k])))) [.fz d, .fz (pD (p ++ [k]))] := fun d hd' k => ih d (p ++ [k]) (t2 d hd') (by
          have := dep_mem hd'
          have : dep (.tup ds) = depL ds + 1 := by rw [dep]
          omega) (by simp; omega)
        obtain ⟨ρ', lp⟩ := wrong_loop (G := F__law_first_wrong n) (by omega) hG ds 0 none none rfl
        rw [oc_n] at lp
        have er : rng1 (.int ((ds.length : Nat) : Int)) = some ((List.range' 0 ds.length).map fun i : Nat => D.int (i : Int)) := rng1_ok (by omega)
        have efw : fw (.tup ds) p = fwL ds 0 p := by rw [fw, if_neg h30]
        rw [efw]
        cases hq : fwL ds 0 p with
        | some q =>
          rw [hq] at lp
          simp [isT_tup, h30', er, lp, optP]
        | none =>
          rw [hq] at lp
          simp [isT_tup, h30', er, lp, optP]
    | str x =>
      have hr := right_ok ht (fun ds z => nomatch z)
      by_cases hw : okW x.cps.toList = true
      · have : okA (.str x) = true := hw
        rw [this] at hr
        simp [isT_tup, hr, ix2, fw, hw, optP]
      · have : okA (.str x) = false := by simpa [okA] using hw
        rw [this] at hr
        simp [isT_tup, hr, ix2, fw, hw, optP]
    | int i =>
      have hr := right_ok ht (fun ds z => nomatch z)
      by_cases hw : okI i = true
      · have : okA (.int i) = true := hw
        rw [this] at hr
        simp [isT_tup, hr, ix2, fw, hw, optP]
      · have : okA (.int i) = false := by simpa [okA] using hw
        rw [this] at hr
        simp [isT_tup, hr, ix2, fw, hw, optP]
    | _ => cases ht
end LW

set_option Elab.async false
set_option linter.all false
set_option maxRecDepth 100000
set_option maxHeartbeats 4000000
namespace LW
open PySem DV SX
theorem range_tup {ds : List D} {ρ : Rho} (h : ds.length ≤ 1000000) : mRange1 (mCB fLen (mAcons (mVar 0) (mAnil))) (.fz (.tup ds) :: ρ) = .ok ((List.range' 0 ds.length).map fun i : Nat => D.int (i : Int)) (.fz (.tup ds) :: ρ) := by
  have e : mCB fLen (mAcons (mVar 0) (mAnil)) (.fz (.tup ds) :: ρ) = .ok (.fz (.int ((ds.length : Nat) : Int))) (.fz (.tup ds) :: ρ) := by simp
  rw [e_range1, e]
  show liftO (rng1 (.int ((ds.length : Nat) : Int))) _ = _
  rw [rng1_ok h]
  rfl
theorem numS (n : Nat) : (Str.ofString (toString ((n : Nat) : Int))) = S (TL.numL n) := num_S n
theorem strs_map (ls : List (List Nat)) : strs? (ls.map fun l => D.str (S l)) = some (ls.map S) := by
  induction ls with
  | nil => rfl
  | cons l ls ih =>
    show (match D.str? (.str (S l)), strs? (ls.map fun l => D.str (S l)) with | some x, some xs => some (x :: xs) | _, _ => none) = _
    rw [ih]
    rfl
theorem wtL_cons2 (d e : D) (ds : List D) : wtL (d :: e :: ds) = wt d ++ 32 :: wtL (e :: ds) := by simp [wtL, wtR]
theorem join_wt : ∀ (ds : List D), Str.join (S [32]) ((ds.map wt).map S) = S (wtL ds)
  | [] => rfl
  | [d] => by simp [Str.join, wtL, wtR]
  | d :: e :: ds => by
    have ih := join_wt (e :: ds)
    rw [wtL_cons2]
    show S (wt d) ++ S [32] ++ Str.join (S [32]) (((e :: ds).map wt).map S) = _
    rw [ih, S_cat, S_cat]
    simp
theorem sum_wt : ∀ (ds : List D), (((ds.map wt).map S).map (·.length)).sum + ds.length ≤ (wtL ds).length + 1
  | [] => by simp
  | [d] => by simp [wtL, wtR]
  | d :: e :: ds => by
    have := sum_wt (e :: ds)
    rw [wtL_cons2]
    simp at this ⊢
    omega
theorem fJoin_wt {c : Bool} {ds : List D} (h : (wtL ds).length ≤ 1000000) : fJoin (.str (S [32])) [.lst ((ds.map wt).map fun l => D.str (S l))] = some (.fz (.str (S (wtL ds)))) := by
  unfold fJoin
  simp only [D.seq?, Option.bind_some, strs_map]
  have := sum_wt ds
  rw [if_pos (by rw [List.length_map, List.length_map, S_len2]; simp at this ⊢; omega), TL.join_eq, join_wt]
theorem wt_tup (ds : List D) : wt (.tup ds) = 40 :: (wtL ds ++ [41]) := by rw [wt]
theorem wt_mem : ∀ {ds : List D} {d : D}, d ∈ ds → (wt d).length ≤ (wtL ds).length
  | e :: ds, d, h => by
    rcases List.mem_cons.mp h with rfl | h
    · simp [wtL]
    · cases ds with
      | nil => cases h
      | cons e' ds =>
        have := wt_mem h
        rw [wtL_cons2]
        simp
        omega
theorem add_S {a b : List Nat} (h : a.length + b.length ≤ 2000000) : opAdd (.str (S a)) (.str (S b)) = some (.fz (.str (S (a ++ b)))) := by
  show (if (S a).length + (S b).length ≤ sizeLine then some (Vc.fz (.str (S a ++ S b))) else none) = _
  rw [if_pos (by rw [S_len2, S_len2]; exact Nat.le_trans h (by decide)), S_cat]
theorem text_ok : ∀ (n k : Nat) (d : D), Vd k d = true → dep d < n → (wt d).length ≤ 1000000 → F__law_text n [.fz d] = .ok (.fz (.str (S (wt d)))) [.fz d] := by
  intro n
  induction n with
  | zero => intro k d _ h; omega
  | succ n ih =>
    intro k d hv hd hw
    have ru : F__law_text (n + 1) [.fz d] = runF 1 2 (m__law_text (F__law_text n)) [.fz d] := rfl
    rw [ru, runF_eq (by simp)]
    cases d with
    | str x =>
      have : wt (.str x) = x.cps.toList := by rw [wt]
      rw [this, S_tl]
      simp [m__law_text, isT_tup]
    | int i =>
      have hi : okI i = true := by rw [Vd] at hv; exact hv
      unfold okI at hi
      simp only [decide_eq_true_eq] at hi
      obtain ⟨m, rfl⟩ : ∃ m : Nat, i = (m : Int) := ⟨i.toNat, by omega⟩
      have e : wt (.int (m : Int)) = TL.numL m := by rw [wt, Int.toNat_natCast]
      rw [e, ← numS]
      have hlog : ((m : Int).natAbs.log2) < 1920 := Nat.lt_of_le_of_lt (log_lt (k := 64) (by omega)) (by decide)
      simp [m__law_text, isT_tup] at hlog ⊢
      simp [hlog]
    | tup ds =>
      have hv' : 0 < k ∧ VdL (k - 1) ds = true := by
        rw [Vd] at hv
        simpa using hv
      rw [wt_tup] at hw ⊢
      have hwl : (wtL ds).length + 2 ≤ 1000000 := by simp at hw; omega
      have hdl : dep (.tup ds) = depL ds + 1 := by rw [dep]
      have hall := VdL_all.mp hv'.2
      have hlen : ds.length ≤ 1000001 := by
        have := sum_wt ds
        omega
      have lc := lc_map (j := 1) (me := mCall (F__law_text n) (mAcons (mVar 1) (mAnil))) (ρ := [.fz (.tup ds), .no]) id (fun d => D.str (S (wt d))) rfl ds [] (fun d hd' => ⟨.fz (.str (S (wt d))), by
        have := ih (k - 1) d (hall d hd') (by have := dep_mem hd'; omega) (by have := wt_mem hd'; omega)
        simp [this], rfl⟩) (by show 0 + ds.length ≤ sizeLine; exact Nat.le_trans (by omega : 0 + ds.length ≤ 1000001) (by decide))
      rw [List.map_id, List.nil_append] at lc
      have ej := fJoin_wt (c := true) (ds := ds) (by omega)
      rw [List.map_map] at ej
      have a1 : opAdd (.str (S [40])) (.str (S (wtL ds))) = some (.fz (.str (S (40 :: wtL ds)))) := add_S (by simp; omega)
      have a2 : opAdd (.str (S (40 :: wtL ds))) (.str (S [41])) = some (.fz (.str (S (40 :: (wtL ds ++ [41]))))) := add_S (by simp; omega)
      have ej' : fJoin (.str (S [32])) [.lst (ds.map fun d => D.str (S (wt d)))] = some (.fz (.str (S (wtL ds)))) := ej
      have z1 : 1 + (wtL ds).length ≤ sizeLine := Nat.le_trans (by omega : 1 + (wtL ds).length ≤ 1000001) (by decide)
      have z2 : 1 + (wtL ds).length + 1 ≤ sizeLine := Nat.le_trans (by omega : 1 + (wtL ds).length + 1 ≤ 1000001) (by decide)
      have z3 : (wtL ds).length + 1 + 1 ≤ sizeLine := Nat.le_trans (by omega : (wtL ds).length + 1 + 1 ≤ 1000001) (by decide)
      simp [m__law_text, isT_tup, lc, ej', z1, z2, z3, S_cat]
    | _ => cases hv
end LW

set_option Elab.async false
set_option linter.all false
set_option maxRecDepth 100000
set_option maxHeartbeats 4000000
namespace LW
open PySem DV SX
def wr (d : D) (p : List Nat) (cs : List Cell) : FR := match fw d p with
  | some q => .exc ⟨2, ["path"], [pD q]⟩ cs
  | none => .ok (.fz (.str (S (wt d)))) cs
noncomputable def aB (G : Fn) : MS := sAppend 2 (mCall G (mAcons (mOp2 opIx (mVar 0) (mVar 3)) (mAcons (mOp2 opAdd (mVar 1) (mTup (mAcons (mVar 3) (mAnil)))) (mAnil))))
theorem write_loop {G : Fn} {ds : List D} {p : List Nat} (hp : p.length ≤ 1000) (hG : ∀ d ∈ ds, ∀ k : Nat, G [.fz d, .fz (pD (p ++ [k]))] = wr d (p ++ [k]) [.fz d, .fz (pD (p ++ [k]))]) : ∀ (s : List D) (a : Nat) (acc : List D) (o3 : Option D), ds.drop a = s → acc.length + s.length ≤ 2000 → ∃ ρ', forL (gSet 3) (aB G) ((List.range' a s.length).map fun i : Nat => D.int (i : Int)) [.fz (.tup ds), .fz (pD p), .ow (.lst acc), oc o3] = (match fwL s a p with
    | some q => .exc ⟨2, ["path"], [pD q]⟩ (.fz (.tup ds) :: .fz (pD p) :: ρ')
    | none => .next (.fz (.tup ds) :: .fz (pD p) :: .ow (.lst (acc ++ s.map fun d => .str (S (wt d)))) :: ρ')) := by
  intro s
  induction s with
  | nil => exact fun a acc o3 hs hl => ⟨[oc o3], by simp [forL_nil, fwL]⟩
  | cons d r ih =>
    intro a acc o3 hs hl
    have ha : ds[a]? = some d := by rw [← List.head?_drop, hs]; rfl
    have hn : ds.drop (a + 1) = r := by rw [← List.drop_drop, hs]; rfl
    have hm : d ∈ ds := List.mem_of_getElem? ha
    have hg := hG d hm a
    have hz : p.length + 1 ≤ sizeLine := Nat.le_trans (by omega : p.length + 1 ≤ 1001) (by decide)
    have hz2 : acc.length < sizeLine := Nat.lt_of_le_of_lt (by simp at hl; omega : acc.length ≤ 2000) (by decide)
    rw [List.length_cons, List.range'_succ, List.map_cons, forL_cons]
    have e : forG (gSet 3) (aB G) ((List.range' (a + 1) r.length).map fun i : Nat => D.int (i : Int)) (gSet 3 (.int (a : Int)) [.fz (.tup ds), .fz (pD p), .ow (.lst acc), oc o3]) = SR.fk (gSet 3) (aB G) ((List.range' (a + 1) r.length).map fun i : Nat => D.int (i : Int)) (aB G [.fz (.tup ds), .fz (pD p), .ow (.lst acc), .fz (.int (a : Int))]) := by simp
    rw [e]
    unfold wr at hg
    cases hf : fw d (p ++ [a]) with
    | some q =>
      rw [hf] at hg
      simp only [fwL, hf]
      simp only [pD, List.map_append, List.map_cons, List.map_nil] at hg
      refine ⟨[.ow (.lst acc), .fz (.int (a : Int))], ?_⟩
      simp [aB, opIx_tup ha, tupC_ok, hz, hg]
    | none =>
      rw [hf] at hg
      simp only [fwL, hf]
      simp only [pD, List.map_append, List.map_cons, List.map_nil] at hg
      have hB : aB G [.fz (.tup ds), .fz (pD p), .ow (.lst acc), .fz (.int (a : Int))] = .next [.fz (.tup ds), .fz (pD p), .ow (.lst (acc ++ [.str (S (wt d))])), oc (some (.int (a : Int)))] := by
        simp [aB, opIx_tup ha, tupC_ok, hz, hg, appD, hz2, oc_s]
      rw [hB]
      obtain ⟨ρ', h⟩ := ih (a + 1) (acc ++ [.str (S (wt d))]) (some (.int (a : Int))) hn (by simp at hl ⊢; omega)
      refine ⟨ρ', ?_⟩
      simp at h ⊢
      exact h
theorem lstC0 : lstC [] = some (.ow (.lst [])) := if_pos (by show 0 ≤ sizeLine; decide)
theorem write_ok : ∀ (n : Nat) (d : D) (p : List Nat), Tr d = true → dep d < n → p.length ≤ 900 → (wt d).length ≤ 1000000 → F_write_part n [.fz d, .fz (pD p)] = wr d p [.fz d, .fz (pD p)] := by
  intro n
  induction n with
  | zero => intro d p _ h; omega
  | succ n ih =>
    intro d p ht hd hp hw
    have ru : F_write_part (n + 1) [.fz d, .fz (pD p)] = runF 2 4 (m_write_part (F_write_part n)) [.fz d, .fz (pD p)] := rfl
    have em : m_write_part (F_write_part n) = sSeq (sIf (mTru (mCall F_is_word (mAcons (mVar 0) (mAnil)))) (sRet (mVar 0)) (sNext)) (sSeq (sIf (mTru (mCall F_is_number (mAcons (mVar 0) (mAnil)))) (sRet (mCB fStr (mAcons (mVar 0) (mAnil)))) (sNext)) (sSeq (sIf (mOr (mNot (mTru (mCB fIsi (mAcons (mVar 0) (mAcons (mPure (.ty "tuple")) (mAnil)))))) (mTest (mOp2 opGe (mCB fLen (mAcons (mVar 1) (mAnil))) (mPure C_MOST_DEPTH)))) (sRaise 2 ["path"] (mAcons (mVar 1) (mAnil))) (sNext)) (sSeq (sSet 2 (mLst (mAnil))) (sSeq (sFor (gSet 3) (mRange1 (mCB fLen (mAcons (mVar 0) (mAnil)))) (aB (F_write_part n))) (sRet (mOp2 opAdd (mOp2 opAdd (mPure (.str "(")) (mMeth D.isStr fJoin (mPure (.str " ")) (mAcons (mVar 2) (mAnil)))) (mPure (.str ")")))))))) := rfl
    rw [ru, runF_eq (by simp), em]
    have hisw := is_word_ok ht
    have hisn := is_number_ok ht
    cases d with
    | tup ds =>
      obtain ⟨t1, t2⟩ := Tr_tup ht
      rw [wt_tup] at hw
      have hwl : (wtL ds).length + 2 ≤ 1000000 := by simp at hw; omega
      have eiw : isW (.tup ds) = false := rfl
      rw [eiw] at hisw
      by_cases h30 : 30 ≤ p.length
      · have h30' : (30 : Int) ≤ ((p.length : Nat) : Int) := by omega
        simp [hisw, hisn, isT_tup, C_MOST_DEPTH, h30', excO, wr, fw, h30]
      · have h30' : ¬ (30 : Int) ≤ ((p.length : Nat) : Int) := by omega
        have hG : ∀ d ∈ ds, ∀ k : Nat, F_write_part n [.fz d, .fz (pD (p ++ [k]))] = wr d (p ++ [k]) [.fz d, .fz (pD (p ++ [k]))] := fun d hd' k => ih d (p ++ [k]) (t2 d hd') (by
          have := dep_mem hd'
          have : dep (.tup ds) = depL ds + 1 := by rw [dep]
          omega) (by simp; omega) (by have := wt_mem hd'; omega)
        obtain ⟨ρ', lp⟩ := write_loop (G := F_write_part n) (by omega) hG ds 0 [] none rfl (by simp; omega)
        rw [oc_n] at lp
        have er := range_tup (ds := ds) (ρ := [.fz (pD p), .ow (.lst []), .no]) (by omega)
        have efw : fw (.tup ds) p = fwL ds 0 p := by rw [fw, if_neg h30]
        unfold wr
        rw [efw]
        have e1 : ∀ z : SR, ∀ w : SR, z = w → SR.fn 2 [.fz (.tup ds), .fz (pD p)] z = SR.fn 2 [.fz (.tup ds), .fz (pD p)] w := fun z w h => by rw [h]
        have er1 : rng1 (.int ((ds.length : Nat) : Int)) = some ((List.range' 0 ds.length).map fun i : Nat => D.int (i : Int)) := rng1_ok (by omega)
        cases hq : fwL ds 0 p with
        | some q =>
          rw [hq] at lp
          simp [hisw, hisn, isT_tup, C_MOST_DEPTH, h30', lstC0, er1, lp]
        | none =>
          rw [hq] at lp
          have ej := fJoin_wt (c := true) (ds := ds) (by omega)
          rw [List.map_map] at ej
          have ej' : fJoin (.str (S [32])) [.lst (ds.map fun d => D.str (S (wt d)))] = some (.fz (.str (S (wtL ds)))) := ej
          have z1 : 1 + (wtL ds).length ≤ sizeLine := Nat.le_trans (by omega : 1 + (wtL ds).length ≤ 1000001) (by decide)
          have z2 : 1 + (wtL ds).length + 1 ≤ sizeLine := Nat.le_trans (by omega : 1 + (wtL ds).length + 1 ≤ 1000001) (by decide)
          have z3 : (wtL ds).length + 1 + 1 ≤ sizeLine := Nat.le_trans (by omega : (wtL ds).length + 1 + 1 ≤ 1000001) (by decide)
          simp [hisw, hisn, isT_tup, C_MOST_DEPTH, h30', lstC0, er1, lp, ej', z1, z2, z3, S_cat, wt_tup]
    | str x =>
      have eiw : isW (.str x) = okW x.cps.toList := rfl
      rw [eiw] at hisw
      have ew : wt (.str x) = x.cps.toList := by rw [wt]
      unfold wr
      rw [ew, S_tl, fw]
      by_cases hk : okW x.cps.toList = true
      · rw [hk] at hisw
        simp [hisw, hk]
      · have hk' : okW x.cps.toList = false := by simpa using hk
        rw [hk'] at hisw
        simp [hisw, hisn, hk', isT_tup, excO]
    | int i =>
      have eiw : isW (.int i) = false := rfl
      rw [eiw] at hisw
      unfold wr
      rw [fw]
      by_cases hk : okI i = true
      · have hisn' : F_is_number [.fz (.int i)] = .ok (.fz (.bl true)) [.fz (.int i)] := by rw [hisn]; simp [hk]
        have hk2 := hk
        unfold okI at hk2
        simp only [decide_eq_true_eq] at hk2
        obtain ⟨m, rfl⟩ : ∃ m : Nat, i = (m : Int) := ⟨i.toNat, by omega⟩
        have e : wt (.int (m : Int)) = TL.numL m := by rw [wt, Int.toNat_natCast]
        have hlog : ((m : Int).natAbs.log2) < 1920 := Nat.lt_of_le_of_lt (log_lt (k := 64) (by omega)) (by decide)
        rw [e, ← numS]
        simp at hlog
        simp [hisw, hisn', hk, hlog]
      · have hk' : okI i = false := by simpa using hk
        have hisn' : F_is_number [.fz (.int i)] = .ok (.fz (.bl false)) [.fz (.int i)] := by rw [hisn]; simp [hk']
        simp [hisw, hisn', hk', isT_tup, excO]
    | _ => cases ht
theorem write_term_ok {d : D} (h1 : Tr d = true) (h2 : dep d < 64) (h3 : (wt d).length ≤ 1000000) : F_write_term [.fz d] = (match fw d [] with
    | some q => .exc ⟨2, ["path"], [pD q]⟩ [.fz d]
    | none => .ok (.fz (.str (S (wt d)))) [.fz d]) := by
  unfold F_write_term
  rw [runF_eq (by simp)]
  have h := write_ok 64 d [] h1 h2 (by simp) h3
  have e0 : pD [] = .tup [] := rfl
  rw [e0] at h
  unfold wr at h
  cases hf : fw d [] with
  | some q =>
    rw [hf] at h
    simp [m_write_term, tupC_ok, h]
  | none =>
    rw [hf] at h
    simp [m_write_term, tupC_ok, h]
end LW

set_option Elab.async false
set_option linter.all false
set_option maxRecDepth 100000
set_option maxHeartbeats 4000000
namespace LW
open PySem DV SX
theorem all_true (n : Nat) : fAll [.lst ((List.range' 0 n).map fun _ => D.bl true)] = some (.fz (.bl true)) := by
  have e : ((List.range' 0 n).map fun _ => D.bl true) = (List.replicate n true).map D.bl := by
    rw [List.map_const']
    simp
  show (bls? _).map _ = _
  rw [e, bls_map]
  simp
theorem all_true' (ds : List D) : fAll [.lst (ds.map fun _ => D.bl true)] = some (.fz (.bl true)) := by
  have e : (ds.map fun _ => D.bl true) = (List.replicate ds.length true).map D.bl := by
    rw [List.map_const']
    simp
  show (bls? _).map _ = _
  rw [e, bls_map]
  simp
theorem all_rep (n : Nat) : fAll [.lst (List.replicate n (D.bl true))] = some (.fz (.bl true)) := by
  have := all_true n
  rw [List.map_const', List.length_range'] at this
  exact this
theorem same_ok : ∀ (n : Nat) (d : D), Tr d = true → dep d < n → F__law_same n [.fz d, .fz d] = .ok (.fz (.bl true)) [.fz d, .fz d] := by
  intro n
  induction n with
  | zero => intro d _ h; omega
  | succ n ih =>
    intro d ht hd
    have ru : F__law_same (n + 1) [.fz d, .fz d] = runF 2 3 (m__law_same (F__law_same n)) [.fz d, .fz d] := rfl
    rw [ru, runF_eq (by simp)]
    cases d with
    | tup ds =>
      obtain ⟨t1, t2⟩ := Tr_tup ht
      have hdl : dep (.tup ds) = depL ds + 1 := by rw [dep]
      have lc := lc_map (j := 2) (me := mCall (F__law_same n) (mAcons (mOp2 opIx (mVar 0) (mVar 2)) (mAcons (mOp2 opIx (mVar 1) (mVar 2)) (mAnil)))) (ρ := [.fz (.tup ds), .fz (.tup ds), .no]) (fun i : Nat => D.int (i : Int)) (fun _ => .bl true) rfl (List.range' 0 ds.length) [] (fun i hi => ⟨.fz (.bl true), by
        have hlt : i < ds.length := by have := (List.mem_range'_1.mp hi).2; omega
        have ha : ds[i]? = some ds[i] := List.getElem?_eq_getElem hlt
        have hm : ds[i] ∈ ds := List.getElem_mem hlt
        have := ih ds[i] (t2 _ hm) (by have := dep_mem hm; omega)
        simp only [e_call, e_cons, e_op2, e_var]
        simp [opIx_tup ha, this], rfl⟩) (by simp; exact Nat.le_trans t1 (by decide))
      rw [List.nil_append] at lc
      have er1 : rng1 (.int ((ds.length : Nat) : Int)) = some ((List.range' 0 ds.length).map fun i : Nat => D.int (i : Int)) := rng1_ok (by omega)
      have ea := all_true ds.length
      simp [m__law_same, isT_tup, er1, lc, ea, all_rep, all_true']
    | str x => simp [m__law_same, isT_tup, isT_str]
    | int i => simp [m__law_same, isT_tup, isT_str, isT_int, isT_bool, opNotV]
    | _ => cases ht
theorem fListA_S {l : List Nat} (h : l.length ≤ sizeLine) : fListA [.str (S l)] = some (.ow (.lst (sgD (S l)))) :=
  if_pos (show (S l).length ≤ sizeLine by rw [S_len2]; exact h)
theorem in_lets : ∀ c ∈ LETS, inD (.str (S [c])) (.lst (sgD (S LETS))) = some true := by
  intro c hc
  have h : ∀ c ∈ LETS, inD (.str (S [c])) (.lst (sgD (S LETS))) = some true := by decide +kernel
  exact h c hc
theorem is_term_ok : ∀ (n k : Nat) (d : D), Vd k d = true → dep d < n → (wt d).length ≤ 1000000 → F__law_is_term n [.fz d] = .ok (.fz (.bl true)) [.fz d] := by
  intro n
  induction n with
  | zero => intro k d _ h; omega
  | succ n ih =>
    intro k d hv hd hw
    have ru : F__law_is_term (n + 1) [.fz d] = runF 1 2 (m__law_is_term (F__law_is_term n)) [.fz d] := rfl
    rw [ru, runF_eq (by simp)]
    cases d with
    | str x =>
      obtain ⟨l, rfl⟩ : ∃ l, x = S l := ⟨x.cps.toList, (S_tl x).symm⟩
      have hok : okW l = true := by rw [Vd] at hv; exact hv
      unfold okW at hok
      simp only [Bool.and_eq_true, decide_eq_true_eq] at hok
      obtain ⟨⟨h1, h2⟩, h3⟩ := hok
      have hl2 : l.length ≤ sizeLine := Nat.le_trans h2 (by decide)
      cases l with
      | nil => simp at h1
      | cons c r =>
        have hc : c ∈ LETS := by
          rw [List.all_cons, Bool.and_eq_true] at h3
          have := h3.1
          unfold isL at this
          simp at this
          exact mem_lets.mpr this
        have e1 : opSl (.str (S (c :: r))) none (some 1) = some (.fz (.str (S [c]))) := by
          have := cut_lo (l := c :: r) (b := 1) hl2
          exact this
        have e2 : fListA [.str (S LETS)] = some (.ow (.lst (sgD (S LETS)))) := by
          exact fListA_S (by decide)
        have e3 : opIn (.str (S [c])) (.lst (sgD (S LETS))) = some (.fz (.bl true)) := by
          unfold opIn
          rw [in_lets c hc]
          rfl
        simp [m__law_is_term, isT_tup, isT_str, e1, e2, e3]
    | int i => simp [m__law_is_term, isT_tup, isT_str, isT_int, isT_bool, opNotV]
    | tup ds =>
      have hv' : 0 < k ∧ VdL (k - 1) ds = true := by
        rw [Vd] at hv
        simpa using hv
      rw [wt_tup] at hw
      have hwl : (wtL ds).length + 2 ≤ 1000000 := by simp at hw; omega
      have hdl : dep (.tup ds) = depL ds + 1 := by rw [dep]
      have hall := VdL_all.mp hv'.2
      have hlen : ds.length ≤ 1000001 := by
        have := sum_wt ds
        omega
      have lc := lc_map (j := 1) (me := mCall (F__law_is_term n) (mAcons (mVar 1) (mAnil))) (ρ := [.fz (.tup ds), .no]) id (fun d => D.bl true) rfl ds [] (fun d hd' => ⟨.fz (.bl true), by
        have := ih (k - 1) d (hall d hd') (by have := dep_mem hd'; omega) (by have := wt_mem hd'; omega)
        simp [this], rfl⟩) (by show 0 + ds.length ≤ sizeLine; exact Nat.le_trans (by omega : 0 + ds.length ≤ 1000001) (by decide))
      rw [List.map_id, List.nil_append] at lc
      simp [m__law_is_term, isT_tup, lc, all_rep, all_true']
    | _ => cases hv
theorem law_read_ok {l : List Nat} (hl : l.length ≤ 1000000) : F__law_read [.fz (.str (S l))] = .ok (.fz (match mach (l.length + 1) .it l 0 [] with
    | .ok d => .tup [.str "read", d]
    | .err p => .tup [.str "refused", .int (p : Int)])) [.fz (.str (S l))] := by
  unfold F__law_read
  rw [runF_eq (by simp)]
  have h := read_ok hl
  cases hm : mach (l.length + 1) .it l 0 [] with
  | ok d =>
    rw [hm] at h
    simp [m__law_read, h, tupC_ok]
  | err p =>
    rw [hm] at h
    simp [m__law_read, h, tupC_ok, cat_InvalidText, isT_InvalidTerm, isT_ChoosersError, okc_position, noEx, List.lookup]
theorem wrong_path_ok {d : D} (h1 : Tr d = true) (h2 : dep d < 64) (h3 : (wt d).length ≤ 1000000) : F__law_wrong_path [.fz d] = .ok (.fz (optP (fw d []))) [.fz d] := by
  unfold F__law_wrong_path
  rw [runF_eq (by simp)]
  have h := write_term_ok h1 h2 h3
  cases hf : fw d [] with
  | some q =>
    rw [hf] at h
    simp [m__law_wrong_path, h, cat_ChoosersError, isT_InvalidTerm, isT_ValueError, okc_path, noEx, List.lookup, optP]
  | none =>
    rw [hf] at h
    simp [m__law_wrong_path, h, optP]
end LW

set_option Elab.async false
set_option linter.all false
set_option maxRecDepth 100000
set_option maxHeartbeats 4000000
namespace LW
open PySem DV SX
theorem lc_st {i : Nat} {me : M Vc} {ρ : Rho} {Q : D → Prop} (hi : ρ[i]? = some .no) : ∀ (s : List D) (acc : List D) (st : D), Wst st → (∀ st x, Wst st → x ∈ s → ∃ c st', Wst st' ∧ Q c.d ∧ me (.io st :: ρ.set i (.fz x)) = .ok c (.io st' :: ρ.set i (.fz x))) → acc.length + s.length ≤ sizeLine → ∃ out st', Wst st' ∧ (∀ d ∈ out, Q d) ∧ out.length = s.length ∧ lcL [i + 1] (gSet (i + 1)) mYes me s acc (.io st :: ρ) = .ok (acc ++ out) (.io st' :: ρ)
  | [], acc, st, hw, _, _ => ⟨[], st, hw, by simp, rfl, by rw [lcL_nil]; simp⟩
  | d :: ds, acc, st, hw, h, hl => by
    obtain ⟨c, st1, hw1, hq, h1⟩ := h st d hw (by simp)
    obtain ⟨out, st2, hw2, hq2, hl2, h2⟩ := lc_st hi ds (acc ++ [c.d]) st1 hw1 (fun st x a b => h st x a (by simp [b])) (by simp at hl ⊢; omega)
    refine ⟨c.d :: out, st2, hw2, ?_, by simp [hl2], ?_⟩
    · intro e he
      rcases List.mem_cons.mp he with rfl | he
      · exact hq
      · exact hq2 e he
    have hlt : i < ρ.length := (List.getElem?_eq_some_iff.mp hi).1
    rw [lcL_cons]
    have e1 : gSet (i + 1) d (.io st :: ρ) = some (.io st :: ρ.set i (.fz d)) := by simp [hi]
    have e2 : wipeR [i + 1] (.io st1 :: ρ.set i (.fz d)) = some (.io st1 :: ρ) := by
      rw [wipe1, e_setR, List.getElem?_cons_succ, List.getElem?_set_self hlt, setC_fz, List.set_cons_succ, List.set_set]
      rw [set_same hi]
    rw [e1]
    show R.lcE [i + 1] (gSet (i + 1)) mYes me ds acc (me (.io st :: ρ.set i (.fz d))) = _
    rw [h1]
    show (if acc.length < sizeLine then lcB [i + 1] (gSet (i + 1)) mYes me ds acc c (wipeR [i + 1] (.io st1 :: ρ.set i (.fz d))) else .bad) = _
    rw [if_pos (by simp at hl; omega), e2]
    show lcL [i + 1] (gSet (i + 1)) mYes me ds (acc ++ [c.d]) (.io st1 :: ρ) = _
    rw [h2]
    simp
noncomputable def stB : MS := sSet 1 (mOp2 opMod (mOp2 opAdd (mOp2 opAdd (mOp2 opAdd (mOp2 opMul (mVar 1) (mPure (.int 48271))) (mOp2 opMod (mCB fInt (mAcons (mOp2 opIx (mVar 0) (mVar 2)) (mAnil))) (mPure (.int 2147483647)))) (mVar 2)) (mPure (.int 1))) (mPure (.int 2147483647)))
theorem opIx_lst {ds : List D} {a : Nat} {d : D} (h : ds[a]? = some d) : opIx (.lst ds) (.int (a : Int)) = some (.fz d) := by
  show Option.map _ (L2.atI ds (a : Int)) = _
  have ha : a < ds.length := (List.getElem?_eq_some_iff.mp h).1
  unfold L2.atI L2.ixN
  rw [if_pos (by omega), if_pos (by omega)]
  show Option.map _ (ds[(a : Int).toNat]?) = _
  rw [Int.toNat_natCast, h]
  rfl
theorem start_loop {ns : List Int} : ∀ (s : List Int) (a : Nat) (o : Option D) (x : Int), ns.drop a = s → 0 ≤ x → x < 2147483647 → ∃ x' o', 0 ≤ x' ∧ x' < 2147483647 ∧ forL (gSet 2) stB ((List.range' a s.length).map fun i : Nat => D.int (i : Int)) [.fz (.lst (ns.map .int)), .fz (.int x), oc o] = .next [.fz (.lst (ns.map .int)), .fz (.int x'), oc o'] := by
  intro s
  induction s with
  | nil => exact fun a o x _ h1 h2 => ⟨x, o, h1, h2, rfl⟩
  | cons c r ih =>
    intro a o x hs h1 h2
    have ha : ns[a]? = some c := by rw [← List.head?_drop, hs]; rfl
    have hn : ns.drop (a + 1) = r := by rw [← List.drop_drop, hs]; rfl
    have hx : opIx (.lst (ns.map .int)) (.int (a : Int)) = some (.fz (.int c)) := opIx_lst (by rw [List.getElem?_map, ha]; rfl)
    have hm : opMul (.int x) (.int 48271) = some (.fz (.int (x * 48271))) := mul_ok (by omega) (by omega) (by omega) (by omega)
    obtain ⟨x', o', b1, b2, e⟩ := ih (a + 1) (some (.int (a : Int))) ((x * 48271 + c % 2147483647 + a + 1) % 2147483647) hn (Int.emod_nonneg _ (by omega)) (Int.emod_lt_of_pos _ (by omega))
    refine ⟨x', o', b1, b2, ?_⟩
    rw [List.length_cons, List.range'_succ, List.map_cons, forL_cons, ← e]
    simp [stB, hx, hm, oc_s]
theorem start_ok {ns : List Int} (h : ns.length ≤ 63) : ∃ st, Wst st ∧ F__law_start [.fz (.lst (ns.map .int))] = .ok (.ow st) [.fz (.lst (ns.map .int))] := by
  unfold F__law_start
  rw [runF_eq (by simp)]
  obtain ⟨x', o', b1, b2, e⟩ := start_loop (ns := ns) ns 0 none 7 rfl (by omega) (by omega)
  refine ⟨.lst [.int x', .lst (ns.map .int), .int 0, .int 0], ⟨x', 0, 0, ns, rfl, by omega, b1, b2⟩, ?_⟩
  have hz : ns.length ≤ sizeLine := Nat.le_trans h (by decide)
  have er1 : rng1 (.int ((ns.length : Nat) : Int)) = some ((List.range' 0 ns.length).map fun i : Nat => D.int (i : Int)) := rng1_ok (by omega)
  have l4 : ∀ a b c d : D, lstC [a, b, c, d] = some (.ow (.lst [a, b, c, d])) := fun a b c d => if_pos (by show 4 ≤ sizeLine; decide)
  have eB : (sSet 1 (mOp2 opMod (mOp2 opAdd (mOp2 opAdd (mOp2 opAdd (mOp2 opMul (mVar 1) (mPure (.int 48271))) (mOp2 opMod (mCB fInt (mAcons (mOp2 opIx (mVar 0) (mVar 2)) (mAnil))) (mPure (.int 2147483647)))) (mVar 2)) (mPure (.int 1))) (mPure (.int 2147483647)))) = stB := rfl
  simp only [oc_n] at e
  simp [m__law_start, hz, er1, eB, e, l4, fListA]
end LW

set_option Elab.async false
set_option linter.all false
set_option maxRecDepth 100000
set_option maxHeartbeats 4000000
namespace LW
open PySem DV SX
def sz : Nat → Nat
  | 0 => 12
  | n + 1 => 3 * sz n + 5
def Gd (n : Nat) (d : D) : Prop := Tr d = true ∧ dep d ≤ n ∧ (wt d).length ≤ sz n
theorem sz_pos : ∀ n, 12 ≤ sz n
  | 0 => by decide
  | n + 1 => by have := sz_pos n; show 12 ≤ 3 * sz n + 5; omega
theorem join_nil : ∀ (cs : List Nat), Str.join (S []) (cs.map fun c => S [c]) = S cs
  | [] => rfl
  | [c] => rfl
  | c :: e :: cs => by
    have ih := join_nil (e :: cs)
    show S [c] ++ S [] ++ Str.join (S []) ((e :: cs).map fun c => S [c]) = _
    rw [ih, S_cat, S_cat]
    simp
theorem letters_of : ∀ {ds : List D}, (∀ d ∈ ds, ∃ c, isL c = true ∧ d = .str (S [c])) → ∃ cs : List Nat, cs.all isL = true ∧ ds = cs.map (fun c => D.str (S [c])) ∧ ds.length = cs.length
  | [], _ => ⟨[], rfl, rfl, rfl⟩
  | d :: ds, h => by
    obtain ⟨c, h1, h2⟩ := h d (by simp)
    obtain ⟨cs, h3, h4, h5⟩ := letters_of (ds := ds) fun d hd => h d (by simp [hd])
    exact ⟨c :: cs, by simp [h1, h3], by rw [h2, h4]; rfl, by simp [h5]⟩
theorem sum_one (cs : List Nat) : ((cs.map fun c => S [c]).map (·.length)).sum = cs.length := by
  induction cs with
  | nil => rfl
  | cons c cs ih =>
    rw [List.map_cons, List.map_cons, List.sum_cons, ih, S_len2]
    simp
    omega
theorem fJoin_nil {cs : List Nat} (h : cs.length ≤ 1000) : fJoin (.str (S [])) [.lst (cs.map fun c => D.str (S [c]))] = some (.fz (.str (S cs))) := by
  unfold fJoin
  have := strs_map (cs.map fun c => [c])
  rw [List.map_map, List.map_map] at this
  have e : strs? (cs.map fun c => D.str (S [c])) = some (cs.map fun c => S [c]) := this
  simp only [D.seq?, Option.bind_some, e]
  rw [if_pos (by rw [sum_one, S_len2]; simp; omega), TL.join_eq, join_nil]
theorem okW_Gd {cs : List Nat} (h : cs.all isL = true) (h1 : 1 ≤ cs.length) (h2 : cs.length ≤ 12) (n : Nat) : Gd n (.str (S cs)) := by
  refine ⟨?_, ?_, ?_⟩
  · rw [Tr]
    simp
    omega
  · simp [dep]
  · have : wt (.str (S cs)) = cs := by rw [wt]
    rw [this]
    have := sz_pos n
    omega
theorem okI_Gd {i : Int} (h : okI i = true) (n : Nat) : Gd n (.int i) := by
  refine ⟨by rw [Tr], by simp [dep], ?_⟩
  have hv : Vd 0 (.int i) = true := by rw [Vd]; exact h
  have h2 := (atom_front (rest := []) hv (fun _ => by simp) (fun c r e => by cases e)).1
  obtain ⟨_, _, _, _, _, h3, _⟩ := atomN_some h2
  have := sz_pos n
  omega
theorem let_at {r : Int} (h0 : 0 ≤ r) (h1 : r < 26) : ∃ c, isL c = true ∧ opIx (.str (S LETS)) (.int r) = some (.fz (.str (S [c]))) := by
  obtain ⟨k, rfl⟩ : ∃ k : Nat, r = (k : Int) := ⟨r.toNat, by omega⟩
  have hk : k < LETS.length := by show k < 26; omega
  refine ⟨LETS[k], ?_, ?_⟩
  · rw [← dec_lets]
    simp
  · exact opIx_S (List.getElem?_eq_getElem hk) (by decide)
theorem at4 {r : Int} (h0 : 0 ≤ r) (h1 : r < 4) : ∃ n : Int, 0 < n ∧ n ≤ 1000000000 ∧ opIx (.lst [.int 2, .int 10, .int 1000, .int 1000000000]) (.int r) = some (.fz (.int n)) := by
  rcases (by omega : r = 0 ∨ r = 1 ∨ r = 2 ∨ r = 3) with rfl | rfl | rfl | rfl
  · exact ⟨2, by omega, by omega, rfl⟩
  · exact ⟨10, by omega, by omega, rfl⟩
  · exact ⟨1000, by omega, by omega, rfl⟩
  · exact ⟨1000000000, by omega, by omega, rfl⟩
theorem atom_gd {st : D} (h : Wst st) : ∃ d st', Wst st' ∧ (∀ n, Gd n d) ∧ F__law_atom [.io st] = .ok (.fz d) [.io st'] := by
  unfold F__law_atom
  rw [runF_eq (by simp)]
  obtain ⟨r1, st1, w1, a0, a1, e1⟩ := pick_ok (n := 2) h (by omega) (by omega)
  by_cases hr : r1 = 0
  · subst hr
    obtain ⟨r2, st2, w2, b0, b1, e2⟩ := pick_ok (n := 12) w1 (by omega) (by omega)
    obtain ⟨k, rfl⟩ : ∃ k : Nat, r2 = (k : Int) := ⟨r2.toNat, by omega⟩
    have er1 : rng1 (.int (((k + 1 : Nat)) : Int)) = some ((List.range' 0 (k + 1)).map fun i : Nat => D.int (i : Int)) := rng1_ok (by omega)
    rw [show (((k + 1 : Nat)) : Int) = 1 + (k : Int) by omega] at er1
    obtain ⟨out, st3, w3, q, ol, lc⟩ := lc_st (i := 2) (me := mOp2 opIx (mVar 1) (mCall F__law_pick (mAbor 0 (mAcons (mPure (.int 26)) (mAnil))))) (ρ := [.fz (.str (S LETS)), .fz (.int (1 + (k : Int))), .no]) (Q := fun d => ∃ c, isL c = true ∧ d = .str (S [c])) rfl ((List.range' 0 (k + 1)).map fun i : Nat => D.int (i : Int)) [] st2 w2 (fun st x hw _ => by
      obtain ⟨r3, st3, w3, c0, c1, e3⟩ := pick_ok (n := 26) hw (by omega) (by omega)
      obtain ⟨c, hc, ec⟩ := let_at c0 c1
      exact ⟨.fz (.str (S [c])), st3, w3, ⟨c, hc, rfl⟩, by simp [e3, ec]⟩) (by simp; exact Nat.le_trans (by omega : k + 1 ≤ 100) (by decide))
    obtain ⟨cs, h1, rfl, h3⟩ := letters_of q
    have hl : cs.length = k + 1 := by rw [← h3, ol]; simp
    refine ⟨.str (S cs), st3, w3, okW_Gd h1 (by omega) (by omega), ?_⟩
    have ej := fJoin_nil (cs := cs) (by omega)
    rw [List.nil_append] at lc
    simp [m__law_atom, e1, e2, er1, lc, ej]
  · obtain ⟨r2, st2, w2, b0, b1, e2⟩ := pick_ok (n := 4) w1 (by omega) (by omega)
    obtain ⟨n, n0, n1, en⟩ := at4 b0 b1
    obtain ⟨r3, st3, w3, c0, c1, e3⟩ := pick_ok (n := n) w2 n0 (by omega)
    refine ⟨.int r3, st3, w3, okI_Gd (by unfold okI; simp; omega), ?_⟩
    have l4 : ∀ a b c d : D, lstC [a, b, c, d] = some (.ow (.lst [a, b, c, d])) := fun a b c d => if_pos (by show 4 ≤ sizeLine; decide)
    simp [m__law_atom, e1, hr, l4, e2, en, e3]
theorem wtL_le {m : Nat} : ∀ {ds : List D}, (∀ d ∈ ds, (wt d).length ≤ m) → (wtL ds).length ≤ ds.length * (m + 1)
  | [], _ => by simp [wtL]
  | [d], h => by
    have := h d (by simp)
    simp [wtL, wtR]
    omega
  | d :: e :: ds, h => by
    have h1 := h d (by simp)
    have ih := wtL_le (ds := e :: ds) fun x hx => h x (by simp [hx])
    rw [wtL_cons2, List.length_cons, Nat.succ_mul]
    simp at ih ⊢
    omega
theorem depL_le {m : Nat} : ∀ {ds : List D}, (∀ d ∈ ds, dep d ≤ m) → depL ds ≤ m
  | [], _ => by simp [depL]
  | d :: ds, h => by
    rw [depL]
    exact Nat.max_le.mpr ⟨h d (by simp), depL_le fun x hx => h x (by simp [hx])⟩
theorem tup_Gd {n : Nat} {ds : List D} (h : ∀ d ∈ ds, Gd n d) (hl : ds.length ≤ 3) : Gd (n + 1) (.tup ds) := by
  refine ⟨?_, ?_, ?_⟩
  · rw [Tr, TrL_all.mpr fun d hd => (h d hd).1]
    simp
    omega
  · rw [dep]
    have := depL_le fun d hd => (h d hd).2.1
    omega
  · have h1 := wtL_le fun d hd => (h d hd).2.2
    have h2 : ds.length * (sz n + 1) ≤ 3 * (sz n + 1) := Nat.mul_le_mul_right _ hl
    rw [wt_tup, sz]
    simp
    omega
theorem term_gd : ∀ (n lev : Nat) (st : D), lev < n → lev ≤ 100 → Wst st → ∃ d st', Wst st' ∧ Gd lev d ∧ F__law_term n [.io st, .fz (.int (lev : Int))] = .ok (.fz d) [.io st', .fz (.int (lev : Int))] := by
  intro n
  induction n with
  | zero => intro lev _ h; omega
  | succ n ih =>
    intro lev st hl hh hw
    have ru : F__law_term (n + 1) [.io st, .fz (.int (lev : Int))] = runF 2 3 (m__law_term (F__law_term n)) [.io st, .fz (.int (lev : Int))] := rfl
    rw [ru, runF_eq (by simp)]
    by_cases h0 : lev = 0
    · subst h0
      obtain ⟨d, st1, w1, g, e1⟩ := atom_gd hw
      refine ⟨d, st1, w1, g 0, ?_⟩
      simp [m__law_term, e1]
    · have hz : ¬ (lev : Int) = 0 := by omega
      obtain ⟨r1, st1, w1, a0, a1, e1⟩ := pick_ok (n := 3) hw (by omega) (by omega)
      by_cases hr : r1 = 0
      · subst hr
        obtain ⟨d, st2, w2, g, e2⟩ := atom_gd w1
        refine ⟨d, st2, w2, g lev, ?_⟩
        simp [m__law_term, hz, h0, e1, e2]
      · obtain ⟨r2, st2, w2, b0, b1, e2⟩ := pick_ok (n := 4) w1 (by omega) (by omega)
        obtain ⟨k, rfl⟩ : ∃ k : Nat, r2 = (k : Int) := ⟨r2.toNat, by omega⟩
        obtain ⟨l, rfl⟩ : ∃ l : Nat, lev = l + 1 := ⟨lev - 1, by omega⟩
        have er1 : rng1 (.int ((k : Nat) : Int)) = some ((List.range' 0 k).map fun i : Nat => D.int (i : Int)) := rng1_ok (by omega)
        have el : ((l + 1 : Nat) : Int) - 1 = (l : Int) := by omega
        obtain ⟨out, st3, w3, q, ol, lc⟩ := lc_st (i := 1) (me := mCall (F__law_term n) (mAbor 0 (mAcons (mOp2 opSub (mVar 1) (mPure (.int 1))) (mAnil)))) (ρ := [.fz (.int ((l + 1 : Nat) : Int)), .no]) (Q := Gd l) rfl ((List.range' 0 k).map fun i : Nat => D.int (i : Int)) [] st2 w2 (fun st x hw _ => by
          obtain ⟨d, st3, w3, g, e3⟩ := ih l st (by omega) (by omega) hw
          exact ⟨.fz d, st3, w3, g, by simp [-Int.natCast_add, el, e3]⟩) (by simp; exact Nat.le_trans (by omega : k ≤ 100) (by decide))
        rw [List.nil_append] at lc
        refine ⟨.tup out, st3, w3, tup_Gd q (by rw [ol]; simp; omega), ?_⟩
        simp [-Int.natCast_add, m__law_term, hz, h0, e1, hr, e2, er1, lc]
end LW

set_option Elab.async false
set_option linter.all false
set_option maxRecDepth 100000
set_option maxHeartbeats 4000000
namespace LW
open PySem DV SX
def SGN : List Nat := [97, 122, 48, 57, 40, 41, 32, 44, 45, 65]
theorem lit_sgn : (Str.ofString "az09() ,-A") = S SGN := by decide +kernel
theorem sgn_at {r : Int} (h0 : 0 ≤ r) (h1 : r < 10) : ∃ c, opIx (.str (S SGN)) (.int r) = some (.fz (.str (S [c]))) := by
  obtain ⟨k, rfl⟩ : ∃ k : Nat, r = (k : Int) := ⟨r.toNat, by omega⟩
  have hk : k < SGN.length := by show k < 10; omega
  exact ⟨SGN[k], opIx_S (List.getElem?_eq_getElem hk) (by decide)⟩
theorem spoilt_ok {st : D} {l : List Nat} (h : Wst st) (hl : l.length ≤ 100000) : ∃ (l' : List Nat) (st' : D), Wst st' ∧ l'.length ≤ l.length + 1 ∧ F__law_spoilt [.io st, .fz (.str (S l))] = .ok (.fz (.str (S l'))) [.io st', .fz (.str (S l))] := by
  unfold F__law_spoilt
  rw [runF_eq (by simp)]
  have hz : l.length ≤ sizeLine := Nat.le_trans hl (by decide)
  obtain ⟨r1, st1, w1, a0, a1, e1⟩ := pick_ok (n := (l.length : Int) + 1) h (by omega) (by omega)
  obtain ⟨a, rfl⟩ : ∃ a : Nat, r1 = (a : Int) := ⟨r1.toNat, by omega⟩
  obtain ⟨r2, st2, w2, b0, b1, e2⟩ := pick_ok (n := 4) w1 (by omega) (by omega)
  obtain ⟨r3, st3, w3, c0, c1, e3⟩ := pick_ok (n := 10) w2 (by omega) (by omega)
  obtain ⟨c, ec⟩ := sgn_at c0 c1
  have t1 := cut_lo (l := l) (b := a) hz
  have t2 := cut_hi (l := l) (a := a) hz
  have t3 : opSl (.str (S l)) (some ((a : Int) + 1)) none = some (.fz (.str (S (l.drop (a + 1))))) := cut_hi (l := l) (a := a + 1) hz
  have ai : ∀ i j : Int, opAdd (.int i) (.int j) = some (.fz (.int (i + j))) := fun _ _ => rfl
  have lt : (l.take a).length = a := by rw [List.length_take]; omega
  have ld : (l.drop a).length ≤ l.length := by rw [List.length_drop]; omega
  have ld1 : (l.drop (a + 1)).length ≤ l.length := by rw [List.length_drop]; omega
  have ld2 : (l.drop a).length + a = l.length := by rw [List.length_drop]; omega
  have ld3 : (l.drop (a + 1)).length + a ≤ l.length := by rw [List.length_drop]; omega
  by_cases h0 : r2 = 0
  · subst h0
    refine ⟨l.take a ++ l.drop (a + 1), st3, w3, ?_, ?_⟩
    · simp; omega
    · have p1 : opAdd (.str (S (l.take a))) (.str (S (l.drop (a + 1)))) = some (.fz (.str (S (l.take a ++ l.drop (a + 1))))) := add_S (by omega)
      simp only [m__law_spoilt, lit_sgn]
      simp [-List.take_append_drop, -opAdd, ai, e1, e2, e3, ec, t1, t3, p1, hz]
  · by_cases h1 : r2 = 1
    · subst h1
      refine ⟨l.take a ++ [c] ++ l.drop a, st3, w3, ?_, ?_⟩
      · simp; omega
      · have p1 : opAdd (.str (S (l.take a))) (.str (S [c])) = some (.fz (.str (S (l.take a ++ [c])))) := add_S (by simp; omega)
        have p2 : opAdd (.str (S (l.take a ++ [c]))) (.str (S (l.drop a))) = some (.fz (.str (S (l.take a ++ [c] ++ l.drop a)))) := add_S (by simp; omega)
        simp only [m__law_spoilt, lit_sgn]
        simp [-List.take_append_drop, -opAdd, ai, e1, e2, e3, ec, t1, t2, p1, p2, hz]
    · by_cases h2 : r2 = 2
      · subst h2
        refine ⟨l.take a ++ [c] ++ l.drop (a + 1), st3, w3, ?_, ?_⟩
        · simp; omega
        · have p1 : opAdd (.str (S (l.take a))) (.str (S [c])) = some (.fz (.str (S (l.take a ++ [c])))) := add_S (by simp; omega)
          have p2 : opAdd (.str (S (l.take a ++ [c]))) (.str (S (l.drop (a + 1)))) = some (.fz (.str (S (l.take a ++ [c] ++ l.drop (a + 1))))) := add_S (by simp; omega)
          simp only [m__law_spoilt, lit_sgn]
          simp [-List.take_append_drop, -opAdd, ai, e1, e2, e3, ec, t1, t3, p1, p2, hz]
      · refine ⟨l ++ [c], st3, w3, by simp, ?_⟩
        have p1 : opAdd (.str (S l)) (.str (S [c])) = some (.fz (.str (S (l ++ [c])))) := add_S (by simp; omega)
        simp only [m__law_spoilt, lit_sgn]
        simp [-opAdd, ai, e1, e2, e3, ec, h0, h1, h2, p1, hz]
end LW

set_option Elab.async false
set_option linter.all false
set_option maxRecDepth 100000
set_option maxHeartbeats 4000000
namespace LW
open PySem DV SX
def NV (d : D) : Prop := ∀ k, Vd k d = false
theorem wtL_swap {x y : D} {b : List D} {c : Nat} (h : (wt x).length ≤ (wt y).length + c) : ∀ (a : List D), (wtL (a ++ x :: b)).length ≤ (wtL (a ++ y :: b)).length + c
  | [] => by simp [wtL]; omega
  | [e] => by
    show (wtL (e :: x :: b)).length ≤ (wtL (e :: y :: b)).length + c
    rw [wtL_cons2, wtL_cons2]
    have := wtL_swap (b := b) h []
    simp at this ⊢
    omega
  | e :: f :: a => by
    show (wtL (e :: f :: (a ++ x :: b))).length ≤ (wtL (e :: f :: (a ++ y :: b))).length + c
    rw [wtL_cons2, wtL_cons2]
    have := wtL_swap (b := b) h (f :: a)
    simp at this ⊢
    omega
theorem depL_swap {x y : D} {b : List D} (h : dep x ≤ dep y) : ∀ (a : List D), depL (a ++ x :: b) ≤ depL (a ++ y :: b)
  | [] => by simp [depL]; omega
  | e :: a => by
    have := depL_swap (b := b) h a
    show depL (e :: (a ++ x :: b)) ≤ depL (e :: (a ++ y :: b))
    rw [depL, depL]
    omega
theorem NV_tup {ds : List D} {d : D} (h : NV d) (hm : d ∈ ds) : NV (.tup ds) := by
  intro k
  rw [Vd]
  cases hv : VdL (k - 1) ds with
  | false => simp
  | true =>
    have := VdL_all.mp hv d hm
    rw [h (k - 1)] at this
    cases this
def BAD : List D := [.str (S []), .str (S [65]), .str (S [97, 49]), .str (S [97, 32, 98]), .str (S [97, 98, 99, 100, 101, 102, 103, 104, 105, 106, 107, 108, 109]), .int (-1), .int 1000000000]
theorem lit_A : Str.ofString "A" = S [65] := by decide +kernel
theorem lit_a1 : Str.ofString "a1" = S [97, 49] := by decide +kernel
theorem lit_ab : Str.ofString "a b" = S [97, 32, 98] := by decide +kernel
theorem lit_13 : Str.ofString "abcdefghijklm" = S [97, 98, 99, 100, 101, 102, 103, 104, 105, 106, 107, 108, 109] := by decide +kernel
theorem str_NV {l : List Nat} (h : okW l = false) : NV (.str (S l)) := fun k => by rw [Vd]; exact h
theorem int_NV {i : Int} (h : okI i = false) : NV (.int i) := fun k => by rw [Vd]; exact h
def Bd (d : D) : Prop := NV d ∧ Tr d = true ∧ dep d = 0 ∧ (wt d).length ≤ 13
theorem str_Bd {l : List Nat} (h : okW l = false) (hl : l.length ≤ 13) : Bd (.str (S l)) := by
  refine ⟨str_NV h, by rw [Tr]; simp; omega, by simp [dep], ?_⟩
  have : wt (.str (S l)) = l := by rw [wt]
  rw [this]
  exact hl
theorem bad_ok : ∀ d ∈ BAD, Bd d := by
  intro d hd
  unfold BAD at hd
  simp only [List.mem_cons, List.not_mem_nil, or_false] at hd
  rcases hd with rfl | rfl | rfl | rfl | rfl | rfl | rfl
  · exact str_Bd (by decide +kernel) (by decide)
  · exact str_Bd (by decide +kernel) (by decide)
  · exact str_Bd (by decide +kernel) (by decide)
  · exact str_Bd (by decide +kernel) (by decide)
  · exact str_Bd (by decide +kernel) (by decide)
  · exact ⟨int_NV (by decide +kernel), by rw [Tr], by simp [dep], by rw [wt]; decide +kernel⟩
  · exact ⟨int_NV (by decide +kernel), by rw [Tr], by simp [dep], by rw [wt]; decide +kernel⟩
theorem bad_at {r : Int} (h0 : 0 ≤ r) (h1 : r < 7) : ∃ d ∈ BAD, opIx (.lst BAD) (.int r) = some (.fz d) := by
  obtain ⟨k, rfl⟩ : ∃ k : Nat, r = (k : Int) := ⟨r.toNat, by omega⟩
  have hk : k < BAD.length := by show k < 7; omega
  exact ⟨BAD[k], List.getElem_mem hk, opIx_lst (List.getElem?_eq_getElem hk)⟩
theorem cutD_lo {ds : List D} {b : Nat} : cutD ds none (some (b : Int)) = ds.take b := by
  unfold cutD
  have e0 : HT.sIx ds.length 0 none = 0 := rfl
  rw [e0, HT.sIx_nat, List.drop_zero, Nat.sub_zero]
  by_cases h : b ≤ ds.length
  · rw [Nat.min_eq_left h]
  · rw [show min b ds.length = ds.length by omega, List.take_of_length_le (by omega), List.take_of_length_le (by omega)]
theorem cutD_hi {ds : List D} {a : Nat} : cutD ds (some (a : Int)) none = ds.drop a := by
  unfold cutD
  have e0 : HT.sIx ds.length ds.length none = ds.length := rfl
  rw [e0, HT.sIx_nat]
  by_cases h : a ≤ ds.length
  · rw [Nat.min_eq_left h, List.take_of_length_le (by rw [List.length_drop]; omega)]
  · rw [show min a ds.length = ds.length by omega, List.drop_of_length_le (l := ds) (i := a) (by omega)]
    simp
theorem strayed_ok : ∀ (n : Nat) (d st : D), Wst st → Tr d = true → dep d < n → ∃ d' st', Wst st' ∧ NV d' ∧ Tr d' = true ∧ dep d' ≤ dep d ∧ (wt d').length ≤ (wt d).length + 13 ∧ F__law_strayed n [.io st, .fz d] = .ok (.fz d') [.io st', .fz d] := by
  intro n
  induction n with
  | zero => intro d st _ _ h; omega
  | succ n ih =>
    intro d st hw ht hd
    have ru : F__law_strayed (n + 1) [.io st, .fz d] = runF 2 3 (m__law_strayed (F__law_strayed n)) [.io st, .fz d] := rfl
    rw [ru, runF_eq (by simp)]
    have hB : ∀ a b c d e f g : D, lstC [a, b, c, d, e, f, g] = some (.ow (.lst [a, b, c, d, e, f, g])) := fun _ _ _ _ _ _ _ => if_pos (by show 7 ≤ sizeLine; decide)
    have eB : ∀ x : D, opIx (.lst [.str (S []), .str (S [65]), .str (S [97, 49]), .str (S [97, 32, 98]), .str (S [97, 98, 99, 100, 101, 102, 103, 104, 105, 106, 107, 108, 109]), .int (-1), .int 1000000000]) x = opIx (.lst BAD) x := fun _ => rfl
    have ai : ∀ i j : Int, opAdd (.int i) (.int j) = some (.fz (.int (i + j))) := fun _ _ => rfl
    by_cases htu : ∃ ds, d = .tup ds
    · obtain ⟨ds, rfl⟩ := htu
      obtain ⟨t1, t2⟩ := Tr_tup ht
      have hz : ds.length ≤ sizeLine := Nat.le_trans t1 (by decide)
      by_cases h0 : ds.length = 0
      · obtain ⟨r1, st1, w1, a0, a1, e1⟩ := pick_ok (n := 7) hw (by omega) (by omega)
        obtain ⟨x, hx, ex⟩ := bad_at a0 a1
        obtain ⟨b1, b2, b3, b4⟩ := bad_ok x hx
        refine ⟨x, st1, w1, b1, b2, by omega, by omega, ?_⟩
        simp only [m__law_strayed, lit_A, lit_a1, lit_ab, lit_13]
        simp [isT_tup, h0, e1, hB, eB, ex]
      · obtain ⟨r0, st0, w0, c0, c1, e0⟩ := pick_ok (n := 3) hw (by omega) (by omega)
        by_cases hr : r0 = 0
        · subst hr
          obtain ⟨r1, st1, w1, a0, a1, e1⟩ := pick_ok (n := 7) w0 (by omega) (by omega)
          obtain ⟨x, hx, ex⟩ := bad_at a0 a1
          obtain ⟨b1, b2, b3, b4⟩ := bad_ok x hx
          refine ⟨x, st1, w1, b1, b2, by omega, by omega, ?_⟩
          simp only [m__law_strayed, lit_A, lit_a1, lit_ab, lit_13]
          simp [isT_tup, h0, e0, e1, hB, eB, ex]
        · obtain ⟨r1, st1, w1, a0, a1, e1⟩ := pick_ok (n := (ds.length : Int)) w0 (by omega) (by omega)
          obtain ⟨a, rfl⟩ : ∃ a : Nat, r1 = (a : Int) := ⟨r1.toNat, by omega⟩
          have hlt : a < ds.length := by omega
          obtain ⟨y, hy⟩ : ∃ y, ds[a] = y := ⟨_, rfl⟩
          have ha : ds[a]? = some y := by rw [List.getElem?_eq_getElem hlt, hy]
          have hm : y ∈ ds := hy ▸ List.getElem_mem hlt
          have hdl : dep (.tup ds) = depL ds + 1 := by rw [dep]
          obtain ⟨x, st2, w2, nv, tx, dx, wx, e2⟩ := ih y st1 w1 (t2 y hm) (by have := dep_mem hm; omega)
          have esp : ds.take a ++ y :: ds.drop (a + 1) = ds := by
            rw [← hy, List.getElem_cons_drop]
            exact List.take_append_drop a ds
          refine ⟨.tup (ds.take a ++ x :: ds.drop (a + 1)), st2, w2, NV_tup nv (by simp), ?_, ?_, ?_, ?_⟩
          · rw [Tr, TrL_all.mpr]
            · simp
              omega
            · intro d hd
              rcases List.mem_append.mp hd with h | h
              · exact t2 d (List.mem_of_mem_take h)
              · rcases List.mem_cons.mp h with rfl | h
                · exact tx
                · exact t2 d (List.mem_of_mem_drop h)
          · rw [dep, hdl]
            have := depL_swap (b := ds.drop (a + 1)) dx (ds.take a)
            rw [esp] at this
            omega
          · rw [wt_tup, wt_tup]
            have := wtL_swap (b := ds.drop (a + 1)) wx (ds.take a)
            rw [esp] at this
            simp at this ⊢
            omega
          · have s1 : opSl (.tup ds) none (some (a : Int)) = some (.fz (.tup (ds.take a))) := by
              show some (Vc.fz (.tup (cutD ds none (some (a : Int))))) = _
              rw [cutD_lo]
            have s2 : opSl (.tup ds) (some ((a : Int) + 1)) none = some (.fz (.tup (ds.drop (a + 1)))) := by
              show some (Vc.fz (.tup (cutD ds (some ((a + 1 : Nat) : Int)) none))) = _
              rw [cutD_hi]
            have lt : (ds.take a).length = a := by rw [List.length_take]; omega
            have ld : (ds.drop (a + 1)).length + a < ds.length := by rw [List.length_drop]; omega
            have p1 : opAdd (.tup (ds.take a)) (.tup [x]) = some (.fz (.tup (ds.take a ++ [x]))) := if_pos (by rw [lt]; show a + 1 ≤ sizeLine; exact Nat.le_trans (by omega) hz)
            have p2 : opAdd (.tup (ds.take a ++ [x])) (.tup (ds.drop (a + 1))) = some (.fz (.tup (ds.take a ++ x :: ds.drop (a + 1)))) := by
              have : opAdd (.tup (ds.take a ++ [x])) (.tup (ds.drop (a + 1))) = some (.fz (.tup (ds.take a ++ [x] ++ ds.drop (a + 1)))) := if_pos (by rw [List.length_append, lt]; exact Nat.le_trans (by simp at ld ⊢; omega : a + 1 + (ds.drop (a + 1)).length ≤ ds.length) hz)
              rw [this]
              simp
            have ix := opIx_tup ha
            simp only [m__law_strayed, lit_A, lit_a1, lit_ab, lit_13]
            simp [-List.take_append_drop, -opAdd, ai, isT_tup, h0, e0, hr, e1, e2, ix, s1, s2, p1, p2, tupC_ok]
    · obtain ⟨r1, st1, w1, a0, a1, e1⟩ := pick_ok (n := 7) hw (by omega) (by omega)
      obtain ⟨x, hx, ex⟩ := bad_at a0 a1
      obtain ⟨b1, b2, b3, b4⟩ := bad_ok x hx
      refine ⟨x, st1, w1, b1, b2, by omega, by omega, ?_⟩
      cases d with
      | tup ds => exact absurd ⟨ds, rfl⟩ htu
      | str z =>
        simp only [m__law_strayed, lit_A, lit_a1, lit_ab, lit_13]
        simp [isT_tup, e1, hB, eB, ex]
      | int i =>
        simp only [m__law_strayed, lit_A, lit_a1, lit_ab, lit_13]
        simp [isT_tup, e1, hB, eB, ex]
      | _ => cases ht
theorem fwL_none {p : List Nat} : ∀ {ds : List D} {k : Nat}, fwL ds k p = none → ∀ d ∈ ds, ∃ j, fw d (p ++ [j]) = none
  | d :: ds, k, h, e, he => by
    rw [fwL] at h
    cases hf : fw d (p ++ [k]) with
    | some q => rw [hf] at h; cases h
    | none =>
      rw [hf] at h
      rcases List.mem_cons.mp he with rfl | he
      · exact ⟨k, hf⟩
      · exact fwL_none h e he
theorem fwL_some {p q : List Nat} : ∀ {ds : List D} {k : Nat}, fwL ds k p = some q → ∃ d ∈ ds, ∃ j, fw d (p ++ [j]) = some q
  | d :: ds, k, h => by
    rw [fwL] at h
    cases hf : fw d (p ++ [k]) with
    | some q' =>
      rw [hf] at h
      cases h
      exact ⟨d, by simp, k, hf⟩
    | none =>
      rw [hf] at h
      obtain ⟨e, he, j, hj⟩ := fwL_some h
      exact ⟨e, by simp [he], j, hj⟩
theorem fw_vd : ∀ (n : Nat) (d : D) (p : List Nat), dep d < n → fw d p = none → Vd (30 - p.length) d = true := by
  intro n
  induction n with
  | zero => intro d p h; omega
  | succ n ih =>
    intro d p hd hf
    cases d with
    | str x =>
      rw [fw] at hf
      rw [Vd]
      by_cases h : okW x.cps.toList = true
      · exact h
      · rw [if_neg h] at hf; cases hf
    | int i =>
      rw [fw] at hf
      rw [Vd]
      by_cases h : okI i = true
      · exact h
      · rw [if_neg h] at hf; cases hf
    | tup ds =>
      rw [fw] at hf
      by_cases h : 30 ≤ p.length
      · rw [if_pos h] at hf; cases hf
      · rw [if_neg h] at hf
        have hdl : dep (.tup ds) = depL ds + 1 := by rw [dep]
        rw [Vd, VdL_all.mpr]
        · simp
          omega
        · intro e he
          obtain ⟨j, hj⟩ := fwL_none hf e he
          have := ih e (p ++ [j]) (by have := dep_mem he; omega) hj
          rw [List.length_append] at this
          rw [show 30 - p.length - 1 = 30 - (p.length + [j].length) by simp; omega]
          exact this
    | _ => simp [fw] at hf
theorem fw_len : ∀ (n : Nat) (d : D) (p q : List Nat), dep d < n → fw d p = some q → q.length ≤ p.length + dep d := by
  intro n
  induction n with
  | zero => intro d p q h; omega
  | succ n ih =>
    intro d p q hd hf
    cases d with
    | tup ds =>
      rw [fw] at hf
      by_cases h : 30 ≤ p.length
      · rw [if_pos h] at hf; cases hf; omega
      · rw [if_neg h] at hf
        have hdl : dep (.tup ds) = depL ds + 1 := by rw [dep]
        obtain ⟨e, he, j, hj⟩ := fwL_some hf
        have h1 := dep_mem he
        have := ih e (p ++ [j]) q (by omega) hj
        rw [List.length_append] at this
        simp at this
        omega
    | str x =>
      rw [fw] at hf
      by_cases h : okW x.cps.toList = true
      · rw [if_pos h] at hf; cases hf
      · rw [if_neg h] at hf; cases hf; omega
    | int i =>
      rw [fw] at hf
      by_cases h : okI i = true
      · rw [if_pos h] at hf; cases hf
      · rw [if_neg h] at hf; cases hf; omega
    | _ => simp [fw] at hf; rw [hf]; omega
theorem Vd_dep : ∀ (n : Nat) (d : D) (k : Nat), dep d < n → Vd k d = true → dep d ≤ k := by
  intro n
  induction n with
  | zero => intro d k h; omega
  | succ n ih =>
    intro d k hd hv
    cases d with
    | tup ds =>
      have hdl : dep (.tup ds) = depL ds + 1 := by rw [dep]
      have hv' : 0 < k ∧ VdL (k - 1) ds = true := by
        rw [Vd] at hv
        simpa using hv
      have := depL_le fun e he => ih e (k - 1) (by have := dep_mem he; omega) (VdL_all.mp hv'.2 e he)
      omega
    | _ => simp [dep]
theorem pD_ok {q : List Nat} (h : q.length ≤ 1000) : Tr (pD q) = true ∧ dep (pD q) < 64 := by
  refine ⟨?_, ?_⟩
  · rw [Tr, TrL_all.mpr]
    · simp
      omega
    · intro d hd
      obtain ⟨n, _, rfl⟩ := List.mem_map.mp hd
      rw [Tr]
  · rw [dep]
    have : depL (q.map fun n : Nat => D.int ((n : Nat) : Int)) ≤ 0 := depL_le fun d hd => by
      obtain ⟨n, _, rfl⟩ := List.mem_map.mp hd
      simp [dep]
    omega
end LW

set_option Elab.async false
set_option linter.all false
set_option maxRecDepth 100000
set_option maxHeartbeats 4000000
namespace LW
open PySem DV SX
theorem same_str (n : Nat) (x : Str) : F__law_same (n + 1) [.fz (.str x), .fz (.str x)] = .ok (.fz (.bl true)) [.fz (.str x), .fz (.str x)] := by
  have ru : F__law_same (n + 1) [.fz (.str x), .fz (.str x)] = runF 2 3 (m__law_same (F__law_same n)) [.fz (.str x), .fz (.str x)] := rfl
  rw [ru, runF_eq (by simp)]
  simp [m__law_same, isT_tup, isT_str]
def Fit (d : D) : Prop := Tr d = true ∧ dep d < 50 ∧ (wt d).length ≤ 10000
theorem told {d : D} (h : Fit d) (hf : fw d [] ≠ none) : ∃ q, F__law_wrong_path [.fz d] = .ok (.fz (pD q)) [.fz d] ∧ F__law_first_wrong 64 [.fz d, .fz (.tup [])] = .ok (.fz (pD q)) [.fz d, .fz (.tup [])] ∧ F__law_same 64 [.fz (pD q), .fz (pD q)] = .ok (.fz (.bl true)) [.fz (pD q), .fz (pD q)] := by
  obtain ⟨h1, h2, h3⟩ := h
  cases e : fw d [] with
  | none => exact absurd e hf
  | some q =>
    refine ⟨q, ?_, ?_, ?_⟩
    · have := wrong_path_ok h1 (by omega) (by omega)
      rw [e] at this
      exact this
    · have := wrong_ok 64 d [] h1 (by omega) (by simp)
      rw [e] at this
      exact this
    · have hl := fw_len 50 d [] q h2 e
      simp at hl
      obtain ⟨p1, p2⟩ := pD_ok (q := q) (by omega)
      exact same_ok 64 (pD q) p1 p2
theorem NV_fw {d : D} (h : NV d) (hd : dep d < 1000) : fw d [] ≠ none := by
  intro e
  have := fw_vd 1000 d [] hd e
  rw [h] at this
  cases this
theorem pair_fit {a b : D} (ha : Fit a) (hb : Fit b) (h1 : dep a < 40) (h2 : dep b < 40) (h3 : (wt a).length ≤ 3000) (h4 : (wt b).length ≤ 3000) : Fit (.tup [a, b]) := by
  refine ⟨?_, ?_, ?_⟩
  · simp [Tr, TrL, ha.1, hb.1]
  · simp [dep, depL]
    omega
  · rw [wt_tup, wtL_cons2]
    simp [wtL, wtR]
    omega
noncomputable def dtB : MS := sIf (mNot (mTru (mCall (F__law_same 64) (mAcons (mCall F__law_wrong_path (mAcons (mVar 3) (mAnil))) (mAcons (mCall (F__law_first_wrong 64) (mAcons (mVar 3) (mAcons (mTup (mAnil)) (mAnil)))) (mAnil)))))) (sRet (mPure (.bl false))) (sNext)
theorem dtB_ok {a b c d : _} (h : Fit d) (hf : fw d [] ≠ none) : dtB [a, b, c, .fz d] = .next [a, b, c, .fz d] := by
  obtain ⟨q, e1, e2, e3⟩ := told h hf
  unfold dtB
  simp only [pD] at e1 e2 e3
  simp [e1, e2, e3, tupC_ok]
theorem deep_ok {st t : D} (hw : Wst st) (ht : Fit t) (hd : dep t < 40) (hl : (wt t).length ≤ 3000) (hf : fw t [] ≠ none) : ∃ st', Wst st' ∧ F__law_deep_told [.io st, .fz t] = .ok (.fz (.bl true)) [.io st', .fz t] := by
  unfold F__law_deep_told
  rw [runF_eq (by simp)]
  obtain ⟨x, st1, w1, g, e1⟩ := term_gd 64 2 st (by omega) (by omega) hw
  obtain ⟨g1, g2, g3⟩ := g
  have hs : sz 2 = 128 := rfl
  obtain ⟨y, st2, w2, nv, y1, y2, y3, e2⟩ := strayed_ok 64 x st1 w1 g1 (by omega)
  have fy : Fit y := ⟨y1, by omega, by omega⟩
  have p1 := pair_fit ht fy hd (by omega) hl (by omega)
  have p2 := pair_fit fy ht (by omega) hd (by omega) hl
  have n1 := NV_fw (NV_tup (ds := [t, y]) nv (by simp)) (by have := p1.2.1; omega)
  have n2 := NV_fw (NV_tup (ds := [y, t]) nv (by simp)) (by have := p2.2.1; omega)
  refine ⟨st2, w2, ?_⟩
  have eB : (sIf (mNot (mTru (mCall (F__law_same 64) (mAcons (mCall F__law_wrong_path (mAcons (mVar 3) (mAnil))) (mAcons (mCall (F__law_first_wrong 64) (mAcons (mVar 3) (mAcons (mTup (mAnil)) (mAnil)))) (mAnil)))))) (sRet (mPure (.bl false))) (sNext)) = dtB := rfl
  have e1' : F__law_term 64 [.io st, .fz (.int 2)] = .ok (.fz x) [.io st1, .fz (.int 2)] := e1
  have tc : ∀ a b : D, tupC [a, b] = some (.fz (.tup [a, b])) := fun a b => tupC_ok (by simp)
  unfold m__law_deep_told
  rw [eB]
  simp [e1', e2, tc, forL_cons, forL_nil, dtB_ok ht hf, dtB_ok p1 n1, dtB_ok p2 n2]
end LW

set_option Elab.async false
set_option linter.all false
set_option maxRecDepth 100000
set_option maxHeartbeats 4000000
namespace LW
open PySem DV SX
noncomputable def lawE : MS := sSeq (sSet 7 (mCall (F__law_strayed 64) (mAbor 1 (mAcons (mCall (F__law_strayed 64) (mAbor 1 (mAcons (mVar 2) (mAnil)))) (mAnil))))) (sRet (mCall (F__law_same 64) (mAcons (mCall F__law_wrong_path (mAcons (mVar 7) (mAnil))) (mAcons (mCall (F__law_first_wrong 64) (mAcons (mVar 7) (mAcons (mTup (mAnil)) (mAnil)))) (mAnil)))))
noncomputable def lawC : MS := sSeq (sIf (mAnd (mTest (mOp2 opGe (mVar 5) (mPure (.int 0)))) (mNot (mTru (mCall (F__law_same 64) (mAcons (mVar 6) (mAcons (mTup (mAcons (mPure (.str "refused")) (mAcons (mVar 5) (mAnil)))) (mAnil))))))) (sRet (mPure (.bl false))) (sNext)) (sSeq (sIf (mAnd (mTest (mOp2 opLt (mVar 5) (mPure (.int 0)))) (mOr (mTest (mOp2 opNe (mOp2 opIx (mVar 6) (mPure (.int 0))) (mPure (.str "read")))) (mOr (mNot (mTru (mCall (F__law_is_term 64) (mAcons (mOp2 opIx (mVar 6) (mPure (.int 1))) (mAnil))))) (mTest (mOp2 opNe (mCall (F__law_text 64) (mAcons (mOp2 opIx (mVar 6) (mPure (.int 1))) (mAnil))) (mVar 4)))))) (sRet (mPure (.bl false))) (sNext)) lawE)
noncomputable def lawB : MS := sSeq (sSet 4 (mCall F__law_spoilt (mAbor 1 (mAcons (mVar 3) (mAnil))))) (sSeq (sSet 5 (mCall F__law_fault (mAcons (mVar 4) (mAnil)))) (sSeq (sSet 6 (mCall F__law_read (mAcons (mVar 4) (mAnil)))) lawC))
noncomputable def lawA : MS := sSeq (sIf (mTest (mUn opNotN (mCall (F__law_first_wrong 64) (mAcons (mVar 2) (mAcons (mTup (mAnil)) (mAnil)))))) (sRet (mCall F__law_deep_told (mAbor 1 (mAcons (mVar 2) (mAnil))))) (sNext)) (sSeq (sSet 3 (mCall (F__law_text 64) (mAcons (mVar 2) (mAnil)))) (sSeq (sIf (mOr (mNot (mTru (mCall (F__law_same 64) (mAcons (mCall F_write_term (mAcons (mVar 2) (mAnil))) (mAcons (mVar 3) (mAnil)))))) (mNot (mTru (mCall (F__law_same 64) (mAcons (mCall F__law_read (mAcons (mVar 3) (mAnil))) (mAcons (mTup (mAcons (mPure (.str "read")) (mAcons (mVar 2) (mAnil)))) (mAnil))))))) (sRet (mPure (.bl false))) (sNext)) lawB))
theorem m_law_eq : m_law = sSeq (sSet 1 (mCall F__law_start (mAcons (mVar 0) (mAnil)))) (sSeq (sSet 2 (mCall (F__law_term 64) (mAbor 1 (mAcons (mPure (.int 4)) (mAnil))))) (sSeq (sIf (mTest (mOp2 opEq (mCall F__law_pick (mAbor 1 (mAcons (mPure (.int 9)) (mAnil)))) (mPure (.int 8)))) (sFor (gSet 8) (mRange1 (mOp2 opAdd (mPure (.int 20)) (mCall F__law_pick (mAbor 1 (mAcons (mPure (.int 13)) (mAnil)))))) (sSet 2 (mTup (mAcons (mVar 2) (mAnil))))) (sNext)) lawA)) := rfl

theorem lawE_ok {st t : D} {c0 c3 c4 c5 c6 c8 : Cell} (hw : Wst st) (ht : Fit t) (hd : dep t < 40) (hl : (wt t).length ≤ 3000) : ∃ ρ', lawE [c0, .ow st, .fz t, c3, c4, c5, c6, .no, c8] = .ret (.fz (.bl true)) (c0 :: ρ') := by
  obtain ⟨x, st1, w1, _, x1, x2, x3, e1⟩ := strayed_ok 64 t st hw ht.1 (by omega)
  obtain ⟨y, st2, w2, nv, y1, y2, y3, e2⟩ := strayed_ok 64 x st1 w1 x1 (by omega)
  have fy : Fit y := ⟨y1, by omega, by omega⟩
  obtain ⟨q, t1, t2, t3⟩ := told fy (NV_fw nv (by omega))
  simp only [pD] at t1 t2 t3
  refine ⟨[.ow st2, .fz t, c3, c4, c5, c6, .fz y, c8], ?_⟩
  unfold lawE
  simp [e1, e2, t1, t2, t3, tupC_ok]

theorem lawC_ok {st t : D} {l : List Nat} {c0 c3 c8 : Cell} (hw : Wst st) (ht : Fit t) (hd : dep t < 40) (hl : (wt t).length ≤ 3000) (hs : l.length ≤ 4000) : ∃ ρ', lawC [c0, .ow st, .fz t, c3, .fz (.str (S l)), .fz (.int (fault l)), .fz (match mach (l.length + 1) .it l 0 [] with
    | .ok d => .tup [.str "read", d]
    | .err p => .tup [.str "refused", .int (p : Int)]), .no, c8] = .ret (.fz (.bl true)) (c0 :: ρ') := by
  have ha := any_text l
  cases hm : mach (l.length + 1) .it l 0 [] with
  | err p =>
    rw [hm] at ha
    have ha' : fault l = (p : Int) := ha
    rw [ha']
    obtain ⟨ρ', e⟩ := lawE_ok (c0 := c0) (c3 := c3) (c4 := .fz (.str (S l))) (c5 := .fz (.int (p : Int))) (c6 := .fz (.tup [.str "refused", .int (p : Int)])) (c8 := c8) hw ht hd hl
    have hlen : (Str.ofString "refused").length ≤ 1000 := by decide +kernel
    have hsm := same_ok 64 (.tup [.str "refused", .int (p : Int)]) (by simp [Tr, TrL, hlen]) (by simp [dep, depL])
    have tc : ∀ a b : D, tupC [a, b] = some (.fz (.tup [a, b])) := fun a b => tupC_ok (by simp)
    have n0 : ¬ (p : Int) < 0 := by omega
    refine ⟨ρ', ?_⟩
    rw [← e]
    unfold lawC
    simp [hsm, tc, n0]
  | ok d =>
    rw [hm] at ha
    obtain ⟨f1, f2, f3⟩ : fault l = -1 ∧ wt d = l ∧ Vd 30 d = true := ha
    have hdd := Vd_dep (dep d + 1) d 30 (by omega) f3
    have hit := is_term_ok 64 30 d f3 (by omega) (by rw [f2]; omega)
    have htx := text_ok 64 30 d f3 (by omega) (by rw [f2]; omega)
    rw [f2] at htx
    rw [f1]
    obtain ⟨ρ', e⟩ := lawE_ok (c0 := c0) (c3 := c3) (c4 := .fz (.str (S l))) (c5 := .fz (.int (-1))) (c6 := .fz (.tup [.str "read", d])) (c8 := c8) hw ht hd hl
    have i0 : opIx (.tup [.str "read", d]) (.int 0) = some (.fz (.str "read")) := rfl
    have i1 : opIx (.tup [.str "read", d]) (.int 1) = some (.fz d) := rfl
    have nr : opNe (.str "read") (.str "read") = some (.fz (.bl false)) := by
      unfold opNe
      rw [eqD_str]
      simp
    refine ⟨ρ', ?_⟩
    rw [← e]
    unfold lawC
    simp [i0, i1, nr, hit, htx]
theorem lawB_ok {st t : D} {l : List Nat} {c0 c8 : Cell} (hw : Wst st) (ht : Fit t) (hd : dep t < 40) (hl : (wt t).length ≤ 3000) (hs : l.length ≤ 3000) : ∃ ρ', lawB [c0, .ow st, .fz t, .fz (.str (S l)), .no, .no, .no, .no, c8] = .ret (.fz (.bl true)) (c0 :: ρ') := by
  obtain ⟨l', st1, w1, hl', e1⟩ := spoilt_ok hw (by omega : l.length ≤ 100000)
  have e2 := fault_ok (l := l') (by omega)
  have e3 := law_read_ok (l := l') (by omega)
  obtain ⟨ρ', e⟩ := lawC_ok (l := l') (c0 := c0) (c3 := .fz (.str (S l))) (c8 := c8) w1 ht hd hl (by omega)
  refine ⟨ρ', ?_⟩
  rw [← e]
  unfold lawB
  simp [e1, e2, e3]
  try rfl
theorem lawA_ok {st t : D} {c0 c8 : Cell} (hw : Wst st) (ht : Fit t) (hd : dep t < 40) (hl : (wt t).length ≤ 3000) : ∃ ρ', lawA [c0, .ow st, .fz t, .no, .no, .no, .no, .no, c8] = .ret (.fz (.bl true)) (c0 :: ρ') := by
  have hwr := wrong_ok 64 t [] ht.1 (by omega) (by simp)
  have e0 : pD [] = .tup [] := rfl
  rw [e0] at hwr
  cases hf : fw t [] with
  | some q =>
    rw [hf] at hwr
    obtain ⟨st', w', e⟩ := deep_ok hw ht hd hl (by rw [hf]; simp)
    have tc : tupC [] = some (.fz (.tup [])) := tupC_ok (by simp)
    refine ⟨[.ow st', .fz t, .no, .no, .no, .no, .no, c8], ?_⟩
    unfold lawA
    simp [tc, hwr, optP, opNotN, e]
  | none =>
    rw [hf] at hwr
    have hv := fw_vd (dep t + 1) t [] (by omega) hf
    simp at hv
    have etx := text_ok 64 30 t hv (by omega) (by omega)
    have ewr := write_term_ok ht.1 (by have := ht.2.1; omega) (by omega)
    rw [hf] at ewr
    have erd := law_read_ok (l := wt t) (by omega)
    rw [own_text hv] at erd
    have s1 := same_str 63 (S (wt t))
    have hlen : (Str.ofString "read").length ≤ 1000 := by decide +kernel
    have s2 := same_ok 64 (.tup [.str "read", t]) (by simp [Tr, TrL, hlen, ht.1]) (by simp [dep, depL]; omega)
    have tc : tupC [] = some (.fz (.tup [])) := tupC_ok (by simp)
    have tc2 : ∀ a b : D, tupC [a, b] = some (.fz (.tup [a, b])) := fun a b => tupC_ok (by simp)
    obtain ⟨ρ', e⟩ := lawB_ok (l := wt t) (c0 := c0) (c8 := c8) hw ht hd hl hl
    refine ⟨ρ', ?_⟩
    rw [← e]
    unfold lawA
    have n0 : opNotN .non = some (.fz (.bl false)) := rfl
    simp [tc, hwr, optP, n0, etx, ewr, erd, s1, s2, tc2]
def wrp : Nat → D → D
  | 0, d => d
  | n + 1, d => wrp n (.tup [d])
theorem wrp_ok : ∀ (n : Nat) (d : D), Tr d = true → Tr (wrp n d) = true ∧ dep (wrp n d) = dep d + n ∧ (wt (wrp n d)).length = (wt d).length + 2 * n
  | 0, d, h => ⟨h, rfl, rfl⟩
  | n + 1, d, h => by
    have ht : Tr (.tup [d]) = true := by simp [Tr, TrL, h]
    obtain ⟨h1, h2, h3⟩ := wrp_ok n (.tup [d]) ht
    refine ⟨h1, ?_, ?_⟩
    · show dep (wrp n (.tup [d])) = _
      rw [h2]
      simp [dep, depL]
      omega
    · show (wt (wrp n (.tup [d]))).length = _
      rw [h3, wt_tup]
      simp [wtL, wtR]
      omega
theorem wrap_loop {c0 c1 c3 c4 c5 c6 c7 : Cell} : ∀ (s : List D) (t : D) (o : Option D), ∃ o', forL (gSet 8) (sSet 2 (mTup (mAcons (mVar 2) (mAnil)))) s [c0, c1, .fz t, c3, c4, c5, c6, c7, oc o] = .next [c0, c1, .fz (wrp s.length t), c3, c4, c5, c6, c7, oc o']
  | [], t, o => ⟨o, rfl⟩
  | d :: s, t, o => by
    obtain ⟨o', e⟩ := wrap_loop (c0 := c0) (c1 := c1) (c3 := c3) (c4 := c4) (c5 := c5) (c6 := c6) (c7 := c7) s (.tup [t]) (some d)
    refine ⟨o', ?_⟩
    show _ = SR.next [c0, c1, .fz (wrp s.length (.tup [t])), c3, c4, c5, c6, c7, oc o']
    rw [forL_cons, ← e]
    have tc : tupC [t] = some (.fz (.tup [t])) := tupC_ok (by simp)
    cases o <;> simp [tc, oc_s, oc_n]
theorem law_true : ∀ ns : List Int, ns.length ≤ 63 → ∃ fin, F_law [.fz (.lst (ns.map .int))] = .ok (.fz (.bl true)) fin := by
  intro ns h
  unfold F_law
  rw [runF_eq (by simp), m_law_eq]
  obtain ⟨st, hw, e0⟩ := start_ok h
  obtain ⟨t, st1, w1, ⟨g1, g2, g3⟩, e1⟩ := term_gd 64 4 st (by omega) (by omega) hw
  have hs : sz 4 = 1172 := rfl
  have e1' : F__law_term 64 [.io st, .fz (.int 4)] = .ok (.fz t) [.io st1, .fz (.int 4)] := e1
  obtain ⟨r2, st2, w2, a0, a1, e2⟩ := pick_ok (n := 9) w1 (by omega) (by omega)
  by_cases h8 : r2 = 8
  · subst h8
    obtain ⟨r3, st3, w3, b0, b1, e3⟩ := pick_ok (n := 13) w2 (by omega) (by omega)
    obtain ⟨k, rfl⟩ : ∃ k : Nat, r3 = (k : Int) := ⟨r3.toNat, by omega⟩
    have er1 : rng1 (.int ((20 + k : Nat) : Int)) = some ((List.range' 0 (20 + k)).map fun i : Nat => D.int (i : Int)) := rng1_ok (by omega)
    rw [show ((20 + k : Nat) : Int) = 20 + (k : Int) by omega] at er1
    obtain ⟨o', ew⟩ := wrap_loop (c0 := .fz (.lst (ns.map .int))) (c1 := .ow st3) (c3 := .no) (c4 := .no) (c5 := .no) (c6 := .no) (c7 := .no) ((List.range' 0 (20 + k)).map fun i : Nat => D.int (i : Int)) t none
    rw [oc_n] at ew
    obtain ⟨p1, p2, p3⟩ := wrp_ok ((List.range' 0 (20 + k)).map fun i : Nat => D.int (i : Int)).length t g1
    have hl : ((List.range' 0 (20 + k)).map fun i : Nat => D.int (i : Int)).length = 20 + k := by simp
    rw [hl] at p1 p2 p3 ew
    obtain ⟨ρ', e⟩ := lawA_ok (c0 := .fz (.lst (ns.map .int))) (c8 := oc o') w3 ⟨p1, by omega, by omega⟩ (by omega) (by omega)
    refine ⟨[.fz (.lst (ns.map .int))], ?_⟩
    simp [e0, e1', e2, e3, er1, ew, e]
  · obtain ⟨ρ', e⟩ := lawA_ok (c0 := .fz (.lst (ns.map .int))) (c8 := .no) w2 ⟨g1, by omega, by omega⟩ (by omega) (by omega)
    refine ⟨[.fz (.lst (ns.map .int))], ?_⟩
    simp [e0, e1', e2, h8, e]
end LW

set_option Elab.async false
set_option linter.all false
set_option maxRecDepth 100000
set_option maxHeartbeats 4000000
namespace LW
open PySem PySem.Spec PyProof.Rows L2 DV
theorem law_fn {T : Tb} {P : Program} {w : World} {mg : Str → Option Value} {base : Heap} (ev : Ev T P w mg base) {f : Addr} {fd : FuncData} (Ff : FunD T.K "law" "law" (defArgs s_law) (defBody s_law) (defScope s_law) [] [] f fd) : FnOk P w T.K mg base (L2.CX P w) 71 f fd ["script"] (SpD T F_law) :=
  fn_denD (k := 70) Ff sc_law fun cdv A outer s H E hr =>
    (dss_cons (ds_set sc_law.nd rfl (by first | exact .inl rfl | exact .inr rfl) (de_call ((d__law_start ev).mono (by omega)) hr (by exact rfl) (da_cons (de_var (pv 0)) da_nil rfl)) rfl (by first | exact .inr rfl | exact .inl rfl))
    (dss_cons (ds_set sc_law.nd rfl (by first | exact .inl rfl | exact .inr rfl) (de_call ((d__law_term ev 64).mono (by omega)) hr (by exact rfl) (da_bor (pv 1) (da_cons de_int da_nil rfl) rfl)) rfl (by first | exact .inr rfl | exact .inl rfl))
    (dss_cons (ds_if (dt_cmp (op_eqA hr.units) s_eq (de_call ((d__law_pick ev).mono (by omega)) hr (by exact rfl) (da_bor (pv 1) (da_cons de_int da_nil rfl) rfl)) de_int (nomark _)) (dss_one (ds_for (passes_of rfl) rfl (di_range1 (by exact rfl) ev.b_range (de_op op_addA s_add de_int (de_call ((d__law_pick ev).mono (by omega)) hr (by exact rfl) (da_bor (pv 1) (da_cons de_int da_nil rfl) rfl))) (by exact rfl)) (dg_name (pg_name sc_law.nd rfl (by first | exact .inl rfl | exact .inr rfl) (by first | exact .inr rfl | exact .inl rfl))) (dss_one (ds_set sc_law.nd rfl (by first | exact .inl rfl | exact .inr rfl) (de_tup (da_cons (de_var (pv 2)) da_nil rfl)) rfl (by first | exact .inr rfl | exact .inl rfl))) (fun _ => rfl))) dss_nil)
    (dss_cons (ds_if (dt_isNN (de_call ((d__law_first_wrong ev 64).mono (by omega)) hr (by exact rfl) (da_cons (de_var (pv 2)) (da_cons (de_tup da_nil) da_nil rfl) rfl))) (dss_one (ds_ret (de_call ((d__law_deep_told ev).mono (by omega)) hr (by exact rfl) (da_bor (pv 1) (da_cons (de_var (pv 2)) da_nil rfl) rfl)))) dss_nil)
    (dss_cons (ds_set sc_law.nd rfl (by first | exact .inl rfl | exact .inr rfl) (de_call ((d__law_text ev 64).mono (by omega)) hr (by exact rfl) (da_cons (de_var (pv 2)) da_nil rfl)) rfl (by first | exact .inr rfl | exact .inl rfl))
    (dss_cons (ds_if (DW.dt (dw_or (dt_not (dt_tru rfl (de_call ((d__law_same ev 64).mono (by omega)) hr (by exact rfl) (da_cons (de_call ((d_write_term ev).mono (by omega)) hr (by exact rfl) (da_cons (de_var (pv 2)) da_nil rfl)) (da_cons (de_var (pv 3)) da_nil rfl) rfl)) (fun _ => rfl))) (dw_or1 (dt_not (dt_tru rfl (de_call ((d__law_same ev 64).mono (by omega)) hr (by exact rfl) (da_cons (de_call ((d__law_read ev).mono (by omega)) hr (by exact rfl) (da_cons (de_var (pv 3)) da_nil rfl)) (da_cons (de_tup (da_cons de_str (da_cons (de_var (pv 2)) da_nil rfl) rfl)) da_nil rfl) rfl)) (fun _ => rfl)))))) (dss_one (ds_ret de_bl)) dss_nil)
    (dss_cons (ds_set sc_law.nd rfl (by first | exact .inl rfl | exact .inr rfl) (de_call ((d__law_spoilt ev).mono (by omega)) hr (by exact rfl) (da_bor (pv 1) (da_cons (de_var (pv 3)) da_nil rfl) rfl)) rfl (by first | exact .inr rfl | exact .inl rfl))
    (dss_cons (ds_set sc_law.nd rfl (by first | exact .inl rfl | exact .inr rfl) (de_call ((d__law_fault ev).mono (by omega)) hr (by exact rfl) (da_cons (de_var (pv 4)) da_nil rfl)) rfl (by first | exact .inr rfl | exact .inl rfl))
    (dss_cons (ds_set sc_law.nd rfl (by first | exact .inl rfl | exact .inr rfl) (de_call ((d__law_read ev).mono (by omega)) hr (by exact rfl) (da_cons (de_var (pv 4)) da_nil rfl)) rfl (by first | exact .inr rfl | exact .inl rfl))
    (dss_cons (ds_if (DW.dt (dw_and (dt_cmp op_geA s_ge (de_var (pv 5)) de_int (nomark _)) (dw_and1 (dt_not (dt_tru rfl (de_call ((d__law_same ev 64).mono (by omega)) hr (by exact rfl) (da_cons (de_var (pv 6)) (da_cons (de_tup (da_cons de_str (da_cons (de_var (pv 5)) da_nil rfl) rfl)) da_nil rfl) rfl)) (fun _ => rfl)))))) (dss_one (ds_ret de_bl)) dss_nil)
    (dss_cons (ds_if (DW.dt (dw_and (dt_cmp op_ltA s_lt (de_var (pv 5)) de_int (nomark _)) (dw_and1 (DW.dt (dw_or (dt_cmp (op_neA hr.units) s_ne (de_ix ix_seq s_ix (de_var (pv 6)) de_int (fun _ _ => rfl)) de_str (nomark _)) (dw_or (dt_not (dt_tru rfl (de_call ((d__law_is_term ev 64).mono (by omega)) hr (by exact rfl) (da_cons (de_ix ix_seq s_ix (de_var (pv 6)) de_int (fun _ _ => rfl)) da_nil rfl)) (fun _ => rfl))) (dw_or1 (dt_cmp (op_neA hr.units) s_ne (de_call ((d__law_text ev 64).mono (by omega)) hr (by exact rfl) (da_cons (de_ix ix_seq s_ix (de_var (pv 6)) de_int (fun _ _ => rfl)) da_nil rfl)) (de_var (pv 4)) (nomark _))))))))) (dss_one (ds_ret de_bl)) dss_nil)
    (dss_cons (ds_set sc_law.nd rfl (by first | exact .inl rfl | exact .inr rfl) (de_call ((d__law_strayed ev 64).mono (by omega)) hr (by exact rfl) (da_bor (pv 1) (da_cons (de_call ((d__law_strayed ev 64).mono (by omega)) hr (by exact rfl) (da_bor (pv 1) (da_cons (de_var (pv 2)) da_nil rfl) rfl)) da_nil rfl) rfl)) rfl (by first | exact .inr rfl | exact .inl rfl))
    (dss_one (ds_ret (de_call ((d__law_same ev 64).mono (by omega)) hr (by exact rfl) (da_cons (de_call ((d__law_wrong_path ev).mono (by omega)) hr (by exact rfl) (da_cons (de_var (pv 7)) da_nil rfl)) (da_cons (de_call ((d__law_first_wrong ev 64).mono (by omega)) hr (by exact rfl) (da_cons (de_var (pv 7)) (da_cons (de_tup da_nil) da_nil rfl) rfl)) da_nil rfl) rfl))))))))))))))))

def D_is_word : He.DefD := ⟨("is_word", none), "is_word", "is_word", defArgs s_is_word, defBody s_is_word, defScope s_is_word, [], []⟩
def D_is_number : He.DefD := ⟨("is_number", none), "is_number", "is_number", defArgs s_is_number, defBody s_is_number, defScope s_is_number, [], []⟩
def D_write_part : He.DefD := ⟨("write_part", none), "write_part", "write_part", defArgs s_write_part, defBody s_write_part, defScope s_write_part, [], []⟩
def D_write_term : He.DefD := ⟨("write_term", none), "write_term", "write_term", defArgs s_write_term, defBody s_write_term, defScope s_write_term, [], []⟩
def D_atom_end : He.DefD := ⟨("atom_end", none), "atom_end", "atom_end", defArgs s_atom_end, defBody s_atom_end, defScope s_atom_end, [], []⟩
def D_atom : He.DefD := ⟨("atom", none), "atom", "atom", defArgs s_atom, defBody s_atom, defScope s_atom, [], []⟩
def D_whole : He.DefD := ⟨("whole", none), "whole", "whole", defArgs s_whole, defBody s_whole, defScope s_whole, [], []⟩
def D_read_term : He.DefD := ⟨("read_term", none), "read_term", "read_term", defArgs s_read_term, defBody s_read_term, defScope s_read_term, [], []⟩
def D__law_start : He.DefD := ⟨("_law_start", none), "_law_start", "_law_start", defArgs s__law_start, defBody s__law_start, defScope s__law_start, [], []⟩
def D__law_pick : He.DefD := ⟨("_law_pick", none), "_law_pick", "_law_pick", defArgs s__law_pick, defBody s__law_pick, defScope s__law_pick, [], []⟩
def D__law_atom : He.DefD := ⟨("_law_atom", none), "_law_atom", "_law_atom", defArgs s__law_atom, defBody s__law_atom, defScope s__law_atom, [], []⟩
def D__law_term : He.DefD := ⟨("_law_term", none), "_law_term", "_law_term", defArgs s__law_term, defBody s__law_term, defScope s__law_term, [], []⟩
def D__law_text : He.DefD := ⟨("_law_text", none), "_law_text", "_law_text", defArgs s__law_text, defBody s__law_text, defScope s__law_text, [], []⟩
def D__law_next : He.DefD := ⟨("_law_next", none), "_law_next", "_law_next", defArgs s__law_next, defBody s__law_next, defScope s__law_next, [], []⟩
def D__law_fault : He.DefD := ⟨("_law_fault", none), "_law_fault", "_law_fault", defArgs s__law_fault, defBody s__law_fault, defScope s__law_fault, [], []⟩
def D__law_spoilt : He.DefD := ⟨("_law_spoilt", none), "_law_spoilt", "_law_spoilt", defArgs s__law_spoilt, defBody s__law_spoilt, defScope s__law_spoilt, [], []⟩
def D__law_right : He.DefD := ⟨("_law_right", none), "_law_right", "_law_right", defArgs s__law_right, defBody s__law_right, defScope s__law_right, [], []⟩
def D__law_first_wrong : He.DefD := ⟨("_law_first_wrong", none), "_law_first_wrong", "_law_first_wrong", defArgs s__law_first_wrong, defBody s__law_first_wrong, defScope s__law_first_wrong, [], []⟩
def D__law_strayed : He.DefD := ⟨("_law_strayed", none), "_law_strayed", "_law_strayed", defArgs s__law_strayed, defBody s__law_strayed, defScope s__law_strayed, [], []⟩
def D__law_same : He.DefD := ⟨("_law_same", none), "_law_same", "_law_same", defArgs s__law_same, defBody s__law_same, defScope s__law_same, [], []⟩
def D__law_is_term : He.DefD := ⟨("_law_is_term", none), "_law_is_term", "_law_is_term", defArgs s__law_is_term, defBody s__law_is_term, defScope s__law_is_term, [], []⟩
def D__law_read : He.DefD := ⟨("_law_read", none), "_law_read", "_law_read", defArgs s__law_read, defBody s__law_read, defScope s__law_read, [], []⟩
def D__law_wrong_path : He.DefD := ⟨("_law_wrong_path", none), "_law_wrong_path", "_law_wrong_path", defArgs s__law_wrong_path, defBody s__law_wrong_path, defScope s__law_wrong_path, [], []⟩
def D__law_deep_told : He.DefD := ⟨("_law_deep_told", none), "_law_deep_told", "_law_deep_told", defArgs s__law_deep_told, defBody s__law_deep_told, defScope s__law_deep_told, [], []⟩
def D_law : He.DefD := ⟨("law", none), "law", "law", defArgs s_law, defBody s_law, defScope s_law, [], []⟩
abbrev si_InvalidTerm : Stmt := inClass (top 3) 0
theorem sci_InvalidTerm : FnScope ["self", "path"] ["self", "path"] (defScope si_InvalidTerm) := ⟨rfl, rfl, rfl, by decide +kernel, rfl, by decide +kernel, by decide +kernel⟩
def DI_InvalidTerm : He.DefD := ⟨("InvalidTerm", some "__init__"), "__init__", "InvalidTerm.__init__", defArgs si_InvalidTerm, defBody si_InvalidTerm, defScope si_InvalidTerm, [], []⟩
abbrev si_InvalidText : Stmt := inClass (top 2) 0
theorem sci_InvalidText : FnScope ["self", "position"] ["self", "position"] (defScope si_InvalidText) := ⟨rfl, rfl, rfl, by decide +kernel, rfl, by decide +kernel, by decide +kernel⟩
def DI_InvalidText : He.DefD := ⟨("InvalidText", some "__init__"), "__init__", "InvalidText.__init__", defArgs si_InvalidText, defBody si_InvalidText, defScope si_InvalidText, [], []⟩
def fns_0 : List He.DefD := [D_is_word, D_is_number, D_write_part, D_write_term, D_atom_end, D_atom, D_whole, D_read_term, D__law_start, D__law_pick, D__law_atom, D__law_term, D__law_text, D__law_next, D__law_fault, D__law_spoilt, D__law_right, D__law_first_wrong, D__law_strayed, D__law_same, D__law_is_term, D__law_read, D__law_wrong_path, D__law_deep_told, D_law, DI_InvalidTerm, DI_InvalidText]
def fns : List He.DefD := fns_0
def fxs_0 : List Fx := [(fun K => (He.Fa.free "ValueError").ok K), (fun K => (He.Fa.free "all").ok K), (fun K => (He.Fa.free "bool").ok K), (fun K => (He.Fa.free "int").ok K), (fun K => (He.Fa.free "isinstance").ok K), (fun K => (He.Fa.free "len").ok K), (fun K => (He.Fa.free "list").ok K), (fun K => (He.Fa.free "range").ok K), (fun K => (He.Fa.free "str").ok K), (fun K => (He.Fa.free "tuple").ok K), (fun K => (He.Fa.str "DIGITS" "0123456789").ok K), (fun K => (He.Fa.str "LETTERS" "abcdefghijklmnopqrstuvwxyz").ok K), (fun K => (He.Fa.int "MOST_DEPTH" 30).ok K), (fun K => (He.Fa.int "MOST_DIGITS" 9).ok K), (fun K => (He.Fa.int "MOST_LETTERS" 12).ok K), (fun K => (He.Fa.int "MOST_NUMBER" 999999999).ok K), (fun K => (He.Fa.glo "ChoosersError").ok K), (fun K => (He.Fa.glo "InvalidTerm").ok K), (fun K => (He.Fa.glo "InvalidText").ok K), (oexB "InvalidTerm"), (initB "InvalidTerm" "InvalidTerm"), (fun K => He.eqO (PySem.W.findIn K (.ref (He.ga K "InvalidTerm")) "path") (some none)), (oexB "InvalidText"), (initB "InvalidText" "InvalidText"), (fun K => He.eqO (PySem.W.findIn K (.ref (He.ga K "InvalidText")) "position") (some none)), (fun K => (He.Fa.exm "ChoosersError" "ChoosersError" true).ok K), (fun K => (He.Fa.exm "InvalidText" "ChoosersError" true).ok K), (fun K => (He.Fa.exm "InvalidTerm" "ChoosersError" true).ok K), (fun K => (He.Fa.exm "ChoosersError" "InvalidText" false).ok K), (fun K => (He.Fa.exm "InvalidText" "InvalidText" true).ok K)]
def fxs_1 : List Fx := [(fun K => (He.Fa.exm "InvalidTerm" "InvalidText" false).ok K), (excCB "ChoosersError"), (kitB2 "ChoosersError" "ChoosersError" true), (excCB "InvalidText"), (kitB2 "InvalidText" "ChoosersError" true), (excCB "InvalidTerm"), (kitB2 "InvalidTerm" "ChoosersError" true), (kitB2 "ChoosersError" "InvalidTerm" false), (kitB2 "InvalidText" "InvalidTerm" false), (kitB2 "InvalidTerm" "InvalidTerm" true), (kitBT "ChoosersError" "ValueError" true), (kitBT "InvalidText" "ValueError" true), (kitBT "InvalidTerm" "ValueError" true), (fun K => (He.Fa.glo "is_word").ok K), (fun K => (He.Fa.glo "is_number").ok K), (fun K => (He.Fa.glo "write_part").ok K), (fun K => (He.Fa.glo "write_term").ok K), (fun K => (He.Fa.glo "atom_end").ok K), (fun K => (He.Fa.glo "atom").ok K), (fun K => (He.Fa.glo "whole").ok K), (fun K => (He.Fa.glo "read_term").ok K), (fun K => (He.Fa.glo "_law_start").ok K), (fun K => (He.Fa.glo "_law_pick").ok K), (fun K => (He.Fa.glo "_law_atom").ok K), (fun K => (He.Fa.glo "_law_term").ok K), (fun K => (He.Fa.glo "_law_text").ok K), (fun K => (He.Fa.glo "_law_next").ok K), (fun K => (He.Fa.glo "_law_fault").ok K), (fun K => (He.Fa.glo "_law_spoilt").ok K), (fun K => (He.Fa.glo "_law_right").ok K)]
def fxs_2 : List Fx := [(fun K => (He.Fa.glo "_law_first_wrong").ok K), (fun K => (He.Fa.glo "_law_strayed").ok K), (fun K => (He.Fa.glo "_law_same").ok K), (fun K => (He.Fa.glo "_law_is_term").ok K), (fun K => (He.Fa.glo "_law_read").ok K), (fun K => (He.Fa.glo "_law_wrong_path").ok K), (fun K => (He.Fa.glo "_law_deep_told").ok K), (fun K => (He.Fa.glo "law").ok K)]
def fxs : List Fx := fxs_0 ++ fxs_1 ++ fxs_2
theorem ev_of {P : Program} {w : World} {K : PySem.W.Frag} {h base : Heap} {mg : Str → Option Value} (KX : K.In h) (G : h.Ns mainGlobals mg) (sv : SaysV fxs fns K) : Ev (mkT K) P w mg base := by
  obtain ⟨fdi_InvalidTerm, Fi_InvalidTerm⟩ := sv.def_ 25 (d := DI_InvalidTerm) rfl
  have ei_InvalidTerm : EcI (mkT K) P w (mkT K).K mg base "InvalidTerm" 2 1 ["path"] := ⟨oexB_ok (sv.fact 19 (f := oexB "InvalidTerm") rfl), He.glo_ok KX G (sv.fact 17 (f := fun K => (He.Fa.glo "InvalidTerm").ok K) rfl), _, fdi_InvalidTerm, _, (initB_ok (sv.fact 20 (f := initB "InvalidTerm" "InvalidTerm") rfl)).1, (initB_ok (sv.fact 20 (f := initB "InvalidTerm" "InvalidTerm") rfl)).2,
    fnD_init1 (T := mkT K) (c := 2) Fi_InvalidTerm sci_InvalidTerm (oexB_ok (sv.fact 19 (f := oexB "InvalidTerm") rfl)) (He.eqO_ok (sv.fact 21 (f := fun K => He.eqO (PySem.W.findIn K (.ref (He.ga K "InvalidTerm")) "path") (some none)) rfl)) rfl (fun X => pv_of rfl (.inl rfl) (by decide) (by decide) X) (fun X => pv_of rfl (.inl rfl) (by decide) (by decide) X) (fun _ => rfl),
    FunD.bindsN Fi_InvalidTerm fun _ _ _ _ _ _ us hl => match us, hl with | [_, _], _ => rfl⟩
  obtain ⟨fdi_InvalidText, Fi_InvalidText⟩ := sv.def_ 26 (d := DI_InvalidText) rfl
  have ei_InvalidText : EcI (mkT K) P w (mkT K).K mg base "InvalidText" 1 1 ["position"] := ⟨oexB_ok (sv.fact 22 (f := oexB "InvalidText") rfl), He.glo_ok KX G (sv.fact 18 (f := fun K => (He.Fa.glo "InvalidText").ok K) rfl), _, fdi_InvalidText, _, (initB_ok (sv.fact 23 (f := initB "InvalidText" "InvalidText") rfl)).1, (initB_ok (sv.fact 23 (f := initB "InvalidText" "InvalidText") rfl)).2,
    fnD_init1 (T := mkT K) (c := 1) Fi_InvalidText sci_InvalidText (oexB_ok (sv.fact 22 (f := oexB "InvalidText") rfl)) (He.eqO_ok (sv.fact 24 (f := fun K => He.eqO (PySem.W.findIn K (.ref (He.ga K "InvalidText")) "position") (some none)) rfl)) rfl (fun X => pv_of rfl (.inl rfl) (by decide) (by decide) X) (fun X => pv_of rfl (.inl rfl) (by decide) (by decide) X) (fun _ => rfl),
    FunD.bindsN Fi_InvalidText fun _ _ _ _ _ _ us hl => match us, hl with | [_, _], _ => rfl⟩
  have k_ChoosersError : ∀ c b, cat_ChoosersError c = some b → PySem.W.exmOne K (.ref ((mkT K).ca c)) (.ref ((mkT K).ca 0)) = some b := fun c b h => match c, b, h with
    | 0, _, h => by cases h; exact He.exm_ok (sv.fact 25 (f := fun K => (He.Fa.exm "ChoosersError" "ChoosersError" true).ok K) rfl)
    | 1, _, h => by cases h; exact He.exm_ok (sv.fact 26 (f := fun K => (He.Fa.exm "InvalidText" "ChoosersError" true).ok K) rfl)
    | 2, _, h => by cases h; exact He.exm_ok (sv.fact 27 (f := fun K => (He.Fa.exm "InvalidTerm" "ChoosersError" true).ok K) rfl)
    | n + 3, _, h => by cases h
  have k_InvalidText : ∀ c b, cat_InvalidText c = some b → PySem.W.exmOne K (.ref ((mkT K).ca c)) (.ref ((mkT K).ca 1)) = some b := fun c b h => match c, b, h with
    | 0, _, h => by cases h; exact He.exm_ok (sv.fact 28 (f := fun K => (He.Fa.exm "ChoosersError" "InvalidText" false).ok K) rfl)
    | 1, _, h => by cases h; exact He.exm_ok (sv.fact 29 (f := fun K => (He.Fa.exm "InvalidText" "InvalidText" true).ok K) rfl)
    | 2, _, h => by cases h; exact He.exm_ok (sv.fact 30 (f := fun K => (He.Fa.exm "InvalidTerm" "InvalidText" false).ok K) rfl)
    | n + 3, _, h => by cases h
  have is_ChoosersError : ∀ c b, isT_ChoosersError c = some b → ExcC K ((mkT K).ca c) ∧ PySem.W.kitOne K (.ref ((mkT K).ca c)) (.ref ((mkT K).ca 0)) = some b := fun c b h => match c, b, h with
    | 0, _, h => by cases h; exact ⟨(excCB_ok (sv.fact 31 (f := excCB "ChoosersError") rfl)).1, of_decide_eq_true (sv.fact 32 (f := kitB2 "ChoosersError" "ChoosersError" true) rfl)⟩
    | 1, _, h => by cases h; exact ⟨(excCB_ok (sv.fact 33 (f := excCB "InvalidText") rfl)).1, of_decide_eq_true (sv.fact 34 (f := kitB2 "InvalidText" "ChoosersError" true) rfl)⟩
    | 2, _, h => by cases h; exact ⟨(excCB_ok (sv.fact 35 (f := excCB "InvalidTerm") rfl)).1, of_decide_eq_true (sv.fact 36 (f := kitB2 "InvalidTerm" "ChoosersError" true) rfl)⟩
    | n + 3, _, h => by cases h
  have is_InvalidTerm : ∀ c b, isT_InvalidTerm c = some b → ExcC K ((mkT K).ca c) ∧ PySem.W.kitOne K (.ref ((mkT K).ca c)) (.ref ((mkT K).ca 2)) = some b := fun c b h => match c, b, h with
    | 0, _, h => by cases h; exact ⟨(excCB_ok (sv.fact 31 (f := excCB "ChoosersError") rfl)).1, of_decide_eq_true (sv.fact 37 (f := kitB2 "ChoosersError" "InvalidTerm" false) rfl)⟩
    | 1, _, h => by cases h; exact ⟨(excCB_ok (sv.fact 33 (f := excCB "InvalidText") rfl)).1, of_decide_eq_true (sv.fact 38 (f := kitB2 "InvalidText" "InvalidTerm" false) rfl)⟩
    | 2, _, h => by cases h; exact ⟨(excCB_ok (sv.fact 35 (f := excCB "InvalidTerm") rfl)).1, of_decide_eq_true (sv.fact 39 (f := kitB2 "InvalidTerm" "InvalidTerm" true) rfl)⟩
    | n + 3, _, h => by cases h
  have is_ValueError : ∀ c b, isT_ValueError c = some b → ExcC K ((mkT K).ca c) ∧ PySem.W.kitOne K (.ref ((mkT K).ca c)) (.type "ValueError") = some b := fun c b h => match c, b, h with
    | 0, _, h => by cases h; exact ⟨(excCB_ok (sv.fact 31 (f := excCB "ChoosersError") rfl)).1, of_decide_eq_true (sv.fact 40 (f := kitBT "ChoosersError" "ValueError" true) rfl)⟩
    | 1, _, h => by cases h; exact ⟨(excCB_ok (sv.fact 33 (f := excCB "InvalidText") rfl)).1, of_decide_eq_true (sv.fact 41 (f := kitBT "InvalidText" "ValueError" true) rfl)⟩
    | 2, _, h => by cases h; exact ⟨(excCB_ok (sv.fact 35 (f := excCB "InvalidTerm") rfl)).1, of_decide_eq_true (sv.fact 42 (f := kitBT "InvalidTerm" "ValueError" true) rfl)⟩
    | n + 3, _, h => by cases h
  have xf_path : ∀ c, okc_path c = true → XfC K ((mkT K).ca c) ∧ PySem.W.findIn K (.ref ((mkT K).ca c)) "path" = some none := fun c h => match c, h with
    | 0, h => by cases h
    | 1, h => by cases h
    | 2, h => ⟨(excCB_ok (sv.fact 35 (f := excCB "InvalidTerm") rfl)).2, He.eqO_ok (sv.fact 21 (f := fun K => He.eqO (PySem.W.findIn K (.ref (He.ga K "InvalidTerm")) "path") (some none)) rfl)⟩
    | n + 3, h => by cases h
  have xf_position : ∀ c, okc_position c = true → XfC K ((mkT K).ca c) ∧ PySem.W.findIn K (.ref ((mkT K).ca c)) "position" = some none := fun c h => match c, h with
    | 0, h => by cases h
    | 1, h => ⟨(excCB_ok (sv.fact 33 (f := excCB "InvalidText") rfl)).2, He.eqO_ok (sv.fact 24 (f := fun K => He.eqO (PySem.W.findIn K (.ref (He.ga K "InvalidText")) "position") (some none)) rfl)⟩
    | 2, h => by cases h
    | n + 3, h => by cases h
  obtain ⟨fd_is_word, Ff_is_word⟩ := sv.def_ 0 (d := D_is_word) rfl
  obtain ⟨fd_is_number, Ff_is_number⟩ := sv.def_ 1 (d := D_is_number) rfl
  obtain ⟨fd_write_part, Ff_write_part⟩ := sv.def_ 2 (d := D_write_part) rfl
  obtain ⟨fd_write_term, Ff_write_term⟩ := sv.def_ 3 (d := D_write_term) rfl
  obtain ⟨fd_atom_end, Ff_atom_end⟩ := sv.def_ 4 (d := D_atom_end) rfl
  obtain ⟨fd_atom, Ff_atom⟩ := sv.def_ 5 (d := D_atom) rfl
  obtain ⟨fd_whole, Ff_whole⟩ := sv.def_ 6 (d := D_whole) rfl
  obtain ⟨fd_read_term, Ff_read_term⟩ := sv.def_ 7 (d := D_read_term) rfl
  obtain ⟨fd__law_start, Ff__law_start⟩ := sv.def_ 8 (d := D__law_start) rfl
  obtain ⟨fd__law_pick, Ff__law_pick⟩ := sv.def_ 9 (d := D__law_pick) rfl
  obtain ⟨fd__law_atom, Ff__law_atom⟩ := sv.def_ 10 (d := D__law_atom) rfl
  obtain ⟨fd__law_term, Ff__law_term⟩ := sv.def_ 11 (d := D__law_term) rfl
  obtain ⟨fd__law_text, Ff__law_text⟩ := sv.def_ 12 (d := D__law_text) rfl
  obtain ⟨fd__law_next, Ff__law_next⟩ := sv.def_ 13 (d := D__law_next) rfl
  obtain ⟨fd__law_fault, Ff__law_fault⟩ := sv.def_ 14 (d := D__law_fault) rfl
  obtain ⟨fd__law_spoilt, Ff__law_spoilt⟩ := sv.def_ 15 (d := D__law_spoilt) rfl
  obtain ⟨fd__law_right, Ff__law_right⟩ := sv.def_ 16 (d := D__law_right) rfl
  obtain ⟨fd__law_first_wrong, Ff__law_first_wrong⟩ := sv.def_ 17 (d := D__law_first_wrong) rfl
  obtain ⟨fd__law_strayed, Ff__law_strayed⟩ := sv.def_ 18 (d := D__law_strayed) rfl
  obtain ⟨fd__law_same, Ff__law_same⟩ := sv.def_ 19 (d := D__law_same) rfl
  obtain ⟨fd__law_is_term, Ff__law_is_term⟩ := sv.def_ 20 (d := D__law_is_term) rfl
  obtain ⟨fd__law_read, Ff__law_read⟩ := sv.def_ 21 (d := D__law_read) rfl
  obtain ⟨fd__law_wrong_path, Ff__law_wrong_path⟩ := sv.def_ 22 (d := D__law_wrong_path) rfl
  obtain ⟨fd__law_deep_told, Ff__law_deep_told⟩ := sv.def_ 23 (d := D__law_deep_told) rfl
  obtain ⟨fd_law, Ff_law⟩ := sv.def_ 24 (d := D_law) rfl
  exact {
    b_ValueError := He.free_ok KX G (sv.fact 0 (f := fun K => (He.Fa.free "ValueError").ok K) rfl),
    b_all := He.free_ok KX G (sv.fact 1 (f := fun K => (He.Fa.free "all").ok K) rfl),
    b_bool := He.free_ok KX G (sv.fact 2 (f := fun K => (He.Fa.free "bool").ok K) rfl),
    b_int := He.free_ok KX G (sv.fact 3 (f := fun K => (He.Fa.free "int").ok K) rfl),
    b_isinstance := He.free_ok KX G (sv.fact 4 (f := fun K => (He.Fa.free "isinstance").ok K) rfl),
    b_len := He.free_ok KX G (sv.fact 5 (f := fun K => (He.Fa.free "len").ok K) rfl),
    b_list := He.free_ok KX G (sv.fact 6 (f := fun K => (He.Fa.free "list").ok K) rfl),
    b_range := He.free_ok KX G (sv.fact 7 (f := fun K => (He.Fa.free "range").ok K) rfl),
    b_str := He.free_ok KX G (sv.fact 8 (f := fun K => (He.Fa.free "str").ok K) rfl),
    b_tuple := He.free_ok KX G (sv.fact 9 (f := fun K => (He.Fa.free "tuple").ok K) rfl),
    c_DIGITS := (let ⟨t, h⟩ := He.str_ok KX G (sv.fact 10 (f := fun K => (He.Fa.str "DIGITS" "0123456789").ok K) rfl); ⟨_, h, ⟨t, rfl⟩⟩),
    c_LETTERS := (let ⟨t, h⟩ := He.str_ok KX G (sv.fact 11 (f := fun K => (He.Fa.str "LETTERS" "abcdefghijklmnopqrstuvwxyz").ok K) rfl); ⟨_, h, ⟨t, rfl⟩⟩),
    c_MOST_DEPTH := (let ⟨t, h⟩ := He.int_ok KX G (sv.fact 12 (f := fun K => (He.Fa.int "MOST_DEPTH" 30).ok K) rfl); ⟨_, h, ⟨t, rfl⟩⟩),
    c_MOST_DIGITS := (let ⟨t, h⟩ := He.int_ok KX G (sv.fact 13 (f := fun K => (He.Fa.int "MOST_DIGITS" 9).ok K) rfl); ⟨_, h, ⟨t, rfl⟩⟩),
    c_MOST_LETTERS := (let ⟨t, h⟩ := He.int_ok KX G (sv.fact 14 (f := fun K => (He.Fa.int "MOST_LETTERS" 12).ok K) rfl); ⟨_, h, ⟨t, rfl⟩⟩),
    c_MOST_NUMBER := (let ⟨t, h⟩ := He.int_ok KX G (sv.fact 15 (f := fun K => (He.Fa.int "MOST_NUMBER" 999999999).ok K) rfl); ⟨_, h, ⟨t, rfl⟩⟩),
    g_ChoosersError := He.glo_ok KX G (sv.fact 16 (f := fun K => (He.Fa.glo "ChoosersError").ok K) rfl),
    g_InvalidTerm := He.glo_ok KX G (sv.fact 17 (f := fun K => (He.Fa.glo "InvalidTerm").ok K) rfl),
    g_InvalidText := He.glo_ok KX G (sv.fact 18 (f := fun K => (He.Fa.glo "InvalidText").ok K) rfl),
    ei_InvalidTerm := ei_InvalidTerm,
    ei_InvalidText := ei_InvalidText,
    k_ChoosersError := k_ChoosersError,
    k_InvalidText := k_InvalidText,
    is_ChoosersError := is_ChoosersError,
    is_InvalidTerm := is_InvalidTerm,
    is_ValueError := is_ValueError,
    xf_path := xf_path,
    xf_position := xf_position,
    f_is_word := ⟨_, fd_is_word, Ff_is_word, He.glo_ok KX G (sv.fact 43 (f := fun K => (He.Fa.glo "is_word").ok K) rfl), FunD.bindsN Ff_is_word fun _ _ _ _ _ _ us hl => match us, hl with | [_], _ => rfl⟩,
    f_is_number := ⟨_, fd_is_number, Ff_is_number, He.glo_ok KX G (sv.fact 44 (f := fun K => (He.Fa.glo "is_number").ok K) rfl), FunD.bindsN Ff_is_number fun _ _ _ _ _ _ us hl => match us, hl with | [_], _ => rfl⟩,
    f_write_part := ⟨_, fd_write_part, Ff_write_part, He.glo_ok KX G (sv.fact 45 (f := fun K => (He.Fa.glo "write_part").ok K) rfl), FunD.bindsN Ff_write_part fun _ _ _ _ _ _ us hl => match us, hl with | [_, _], _ => rfl⟩,
    f_write_term := ⟨_, fd_write_term, Ff_write_term, He.glo_ok KX G (sv.fact 46 (f := fun K => (He.Fa.glo "write_term").ok K) rfl), FunD.bindsN Ff_write_term fun _ _ _ _ _ _ us hl => match us, hl with | [_], _ => rfl⟩,
    f_atom_end := ⟨_, fd_atom_end, Ff_atom_end, He.glo_ok KX G (sv.fact 47 (f := fun K => (He.Fa.glo "atom_end").ok K) rfl), FunD.bindsN Ff_atom_end fun _ _ _ _ _ _ us hl => match us, hl with | [_, _], _ => rfl⟩,
    f_atom := ⟨_, fd_atom, Ff_atom, He.glo_ok KX G (sv.fact 48 (f := fun K => (He.Fa.glo "atom").ok K) rfl), FunD.bindsN Ff_atom fun _ _ _ _ _ _ us hl => match us, hl with | [_], _ => rfl⟩,
    f_whole := ⟨_, fd_whole, Ff_whole, He.glo_ok KX G (sv.fact 49 (f := fun K => (He.Fa.glo "whole").ok K) rfl), FunD.bindsN Ff_whole fun _ _ _ _ _ _ us hl => match us, hl with | [_, _, _], _ => rfl⟩,
    f_read_term := ⟨_, fd_read_term, Ff_read_term, He.glo_ok KX G (sv.fact 50 (f := fun K => (He.Fa.glo "read_term").ok K) rfl), FunD.bindsN Ff_read_term fun _ _ _ _ _ _ us hl => match us, hl with | [_], _ => rfl⟩,
    f__law_start := ⟨_, fd__law_start, Ff__law_start, He.glo_ok KX G (sv.fact 51 (f := fun K => (He.Fa.glo "_law_start").ok K) rfl), FunD.bindsN Ff__law_start fun _ _ _ _ _ _ us hl => match us, hl with | [_], _ => rfl⟩,
    f__law_pick := ⟨_, fd__law_pick, Ff__law_pick, He.glo_ok KX G (sv.fact 52 (f := fun K => (He.Fa.glo "_law_pick").ok K) rfl), FunD.bindsN Ff__law_pick fun _ _ _ _ _ _ us hl => match us, hl with | [_, _], _ => rfl⟩,
    f__law_atom := ⟨_, fd__law_atom, Ff__law_atom, He.glo_ok KX G (sv.fact 53 (f := fun K => (He.Fa.glo "_law_atom").ok K) rfl), FunD.bindsN Ff__law_atom fun _ _ _ _ _ _ us hl => match us, hl with | [_], _ => rfl⟩,
    f__law_term := ⟨_, fd__law_term, Ff__law_term, He.glo_ok KX G (sv.fact 54 (f := fun K => (He.Fa.glo "_law_term").ok K) rfl), FunD.bindsN Ff__law_term fun _ _ _ _ _ _ us hl => match us, hl with | [_, _], _ => rfl⟩,
    f__law_text := ⟨_, fd__law_text, Ff__law_text, He.glo_ok KX G (sv.fact 55 (f := fun K => (He.Fa.glo "_law_text").ok K) rfl), FunD.bindsN Ff__law_text fun _ _ _ _ _ _ us hl => match us, hl with | [_], _ => rfl⟩,
    f__law_next := ⟨_, fd__law_next, Ff__law_next, He.glo_ok KX G (sv.fact 56 (f := fun K => (He.Fa.glo "_law_next").ok K) rfl), FunD.bindsN Ff__law_next fun _ _ _ _ _ _ us hl => match us, hl with | [_, _, _, _], _ => rfl⟩,
    f__law_fault := ⟨_, fd__law_fault, Ff__law_fault, He.glo_ok KX G (sv.fact 57 (f := fun K => (He.Fa.glo "_law_fault").ok K) rfl), FunD.bindsN Ff__law_fault fun _ _ _ _ _ _ us hl => match us, hl with | [_], _ => rfl⟩,
    f__law_spoilt := ⟨_, fd__law_spoilt, Ff__law_spoilt, He.glo_ok KX G (sv.fact 58 (f := fun K => (He.Fa.glo "_law_spoilt").ok K) rfl), FunD.bindsN Ff__law_spoilt fun _ _ _ _ _ _ us hl => match us, hl with | [_, _], _ => rfl⟩,
    f__law_right := ⟨_, fd__law_right, Ff__law_right, He.glo_ok KX G (sv.fact 59 (f := fun K => (He.Fa.glo "_law_right").ok K) rfl), FunD.bindsN Ff__law_right fun _ _ _ _ _ _ us hl => match us, hl with | [_], _ => rfl⟩,
    f__law_first_wrong := ⟨_, fd__law_first_wrong, Ff__law_first_wrong, He.glo_ok KX G (sv.fact 60 (f := fun K => (He.Fa.glo "_law_first_wrong").ok K) rfl), FunD.bindsN Ff__law_first_wrong fun _ _ _ _ _ _ us hl => match us, hl with | [_, _], _ => rfl⟩,
    f__law_strayed := ⟨_, fd__law_strayed, Ff__law_strayed, He.glo_ok KX G (sv.fact 61 (f := fun K => (He.Fa.glo "_law_strayed").ok K) rfl), FunD.bindsN Ff__law_strayed fun _ _ _ _ _ _ us hl => match us, hl with | [_, _], _ => rfl⟩,
    f__law_same := ⟨_, fd__law_same, Ff__law_same, He.glo_ok KX G (sv.fact 62 (f := fun K => (He.Fa.glo "_law_same").ok K) rfl), FunD.bindsN Ff__law_same fun _ _ _ _ _ _ us hl => match us, hl with | [_, _], _ => rfl⟩,
    f__law_is_term := ⟨_, fd__law_is_term, Ff__law_is_term, He.glo_ok KX G (sv.fact 63 (f := fun K => (He.Fa.glo "_law_is_term").ok K) rfl), FunD.bindsN Ff__law_is_term fun _ _ _ _ _ _ us hl => match us, hl with | [_], _ => rfl⟩,
    f__law_read := ⟨_, fd__law_read, Ff__law_read, He.glo_ok KX G (sv.fact 64 (f := fun K => (He.Fa.glo "_law_read").ok K) rfl), FunD.bindsN Ff__law_read fun _ _ _ _ _ _ us hl => match us, hl with | [_], _ => rfl⟩,
    f__law_wrong_path := ⟨_, fd__law_wrong_path, Ff__law_wrong_path, He.glo_ok KX G (sv.fact 65 (f := fun K => (He.Fa.glo "_law_wrong_path").ok K) rfl), FunD.bindsN Ff__law_wrong_path fun _ _ _ _ _ _ us hl => match us, hl with | [_], _ => rfl⟩,
    f__law_deep_told := ⟨_, fd__law_deep_told, Ff__law_deep_told, He.glo_ok KX G (sv.fact 66 (f := fun K => (He.Fa.glo "_law_deep_told").ok K) rfl), FunD.bindsN Ff__law_deep_told fun _ _ _ _ _ _ us hl => match us, hl with | [_, _], _ => rfl⟩,
    f_law := ⟨_, fd_law, Ff_law, He.glo_ok KX G (sv.fact 67 (f := fun K => (He.Fa.glo "law").ok K) rfl), FunD.bindsN Ff_law fun _ _ _ _ _ _ us hl => match us, hl with | [_], _ => rfl⟩ }
def nm_0 : List PySem.Str := ["is_word", "is_number", "write_part", "write_term", "atom_end", "atom", "read_term", "whole", "_law_start", "_law_pick", "_law_atom", "_law_term", "_law_text", "_law_next", "_law_fault", "_law_spoilt", "_law_right", "_law_first_wrong", "_law_strayed", "_law_same", "_law_is_term", "_law_read", "_law_wrong_path", "_law_deep_told", "ChoosersError", "InvalidText", "InvalidTerm", "LETTERS", "DIGITS", "MOST_LETTERS"]
def nm_1 : List PySem.Str := ["MOST_DIGITS", "MOST_NUMBER", "MOST_DEPTH"]
def nms : List PySem.Str := nm_0 ++ nm_1
abbrev RR : PySem.W.OpenRow := PySem.W.OpenLaw.row PySem.Challenge.rw_aimstoldback_k00_term_texts
abbrev hk : PySem.W.Hook := hookV 6 fxs fns
def ob (s : PySem.W.SharedT) : He.AlD := obsVG 6 fxs fns (HandSHeadRun.getT s)
theorem ob_eq (s : PySem.W.SharedT) : ob s = hk.obs s.abs := obsVG_eq (HandSHeadRun.getT_eq s)
theorem hd_run (w : World) : HandSHeadRun.RunEq RR (PySem.W.view RR.prog [36]) hk ob 4000 nms w := by
  intro os
  kernel_rfl
end LW

open PySem PySem.W PySem.Calls PyProof.Rows
set_option maxHeartbeats 0 in
theorem PySem.Challenge.cw_aimstoldback_k00_term_texts_holds : PySem.Challenge.rw_aimstoldback_k00_term_texts.Holds := by
  w_on; o_law
  refine HandSHeadRun.head_any (r := OpenLaw.row PySem.Challenge.rw_aimstoldback_k00_term_texts) (q := view (OpenLaw.row PySem.Challenge.rw_aimstoldback_k00_term_texts).prog [36]) (H := LW.hk) (ob := LW.ob) (M := 4000) (loose := LW.nms) (d := HandSHeadRun.topDef (OpenLaw.row PySem.Challenge.rw_aimstoldback_k00_term_texts).prog 36) (kwd := []) LW.ob_eq
    (by kernel_rfl) (fun s => by kernel_rfl) LW.hd_run (by kernel_rfl) (by kernel_rfl) (by kernel_rfl) (by rfl) (by first | assumption | decide +kernel) (by decide +kernel) ⟨rfl, rfl, rfl, rfl, rfl, by decide +kernel⟩ ?hw ?hc
  case hw => w_witness2
  case hc =>
    refine DV.walk_end (l := PySem.Challenge.rw_aimstoldback_k00_term_texts) (n := 63) (k := 71) (x := "script") rfl (by decide) (by kernel_rfl) ⟨rfl, by decide, by decide⟩ ?F
    intro w mg fa h Y G hmg0
    obtain ⟨K, KX, sv⟩ := Y
    have hmg : mg ("law" : PySem.Str) = some (.ref fa) := by
      have e : (HandSHeadRun.topDef (OpenLaw.row PySem.Challenge.rw_aimstoldback_k00_term_texts).prog 36).name = ("law" : PySem.Str) := by kernel_rfl
      rw [← e]
      exact hmg0
    obtain ⟨fd, Ff⟩ := sv.def_ 24 (d := LW.D_law) rfl
    have e := hmg.symm.trans (He.glo_ok KX G (sv.fact 67 (f := fun K => (He.Fa.glo "law").ok K) rfl))
    cases e
    refine ⟨LW.mkT K, fd, LW.F_law, KX, fun s u => L2.FunD.bindsA (ps := ["script"]) Ff (fun _ _ _ _ _ _ us hl => match us, hl with | [_], _ => rfl) s [u] rfl, LW.law_true, fun base Kb Gb => ?_⟩
    have ev : LW.Ev (LW.mkT K) PySem.Challenge.rw_aimstoldback_k00_term_texts.prog w mg base := LW.ev_of KX G sv
    exact LW.law_fn ev Ff
