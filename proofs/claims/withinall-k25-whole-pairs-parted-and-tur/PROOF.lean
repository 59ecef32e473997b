import PyProof.Rows.All
import Wide.All
import OpenK.AllK
import Wide.FinOn
import HandS.ForMost
import HandS.Comp
import HandS.Wide
import HandS.TupAny
import HandS.Deep
import HandS.IsInst
import HandS.Flow
import HandS.Iter
import HandS.Zip
import HandS.More
import HandS.Defaults
import HandS.Ends
import HandS.HeadEnd
import HandS.Head0
import HandS.Head1
import HandS.Head2
import HandS.HeadHook1
import HandS.HeadHook2
import HandS.HeadHook3
import HandS.HeadHook4
import PySem.Challenge.RW_withinall_k25_whole_pairs_parted_and_tur
import HandS.HeadNt
section
set_option Elab.async false
set_option linter.all false
set_option maxRecDepth 100000
/-! MP1: pure data D, how a value denotes it over an abstract heap (Den), what an evaluation may change (Evo). -/
namespace MP
open PySem PySem.Spec PyProof.Rows L2

inductive D where
  | non | bl (b : Bool) | int (i : Int) | str (x : Str)
  | tup (xs : List D)
  | lst (u : Bool) (xs : List D)
  | dct (u : Bool) (kvs : List (D × D))
  | ins (u : Bool) (c : Nat) (fs : List (Str × D))
  | scr (ns : List Int)

instance : Inhabited D := ⟨.non⟩

/-! ### frozen data -/
mutual
def D.isFrz : D → Bool
  | .non => true
  | .bl _ => true
  | .int _ => true
  | .str _ => true
  | .tup xs => frzAll xs
  | .lst u xs => !u && frzAll xs
  | .dct u kvs => !u && frzKv kvs
  | .ins _ _ _ => false
  | .scr _ => true
def frzAll : List D → Bool
  | [] => true
  | x :: xs => x.isFrz && frzAll xs
def frzKv : List (D × D) → Bool
  | [] => true
  | (k, v) :: r => v.isFrz && frzKv r
end
mutual
def D.frz : D → D
  | .non => .non
  | .bl b => .bl b
  | .int i => .int i
  | .str x => .str x
  | .tup xs => .tup (mapFrz xs)
  | .lst _ xs => .lst false (mapFrz xs)
  | .dct _ kvs => .dct false (mapFrzKv kvs)
  | .ins u c fs => .ins u c fs
  | .scr ns => .scr ns
def mapFrz : List D → List D
  | [] => []
  | x :: xs => x.frz :: mapFrz xs
def mapFrzKv : List (D × D) → List (D × D)
  | [] => []
  | (k, v) :: r => (k, v.frz) :: mapFrzKv r
end

abbrev AS := Addr → Prop
def isDic : HO → Prop
  | .dK _ => True
  | .dT _ => True
  | _ => False
/-- what stands in F stands in H, a dict perhaps locked -/
def Le (F H : Hp) : Prop := ∀ a u, F a = some u → H a = some u ∨ (isDic u ∧ ∃ o, H a = some (.frz o u))
theorem Le.rd {F H : Hp} (h : Le F H) {a : Addr} {u : HO} (e : Rd F a u) : Rd H a u := by
  rcases e with e | ⟨o, e⟩
  · rcases h a u e with e | ⟨_, o, e⟩
    · exact .inl e
    · exact .inr ⟨o, e⟩
  · rcases h a _ e with e | ⟨z, _⟩
    · exact .inr ⟨o, e⟩
    · exact z.elim
theorem Le.l {K : PySem.W.Frag} {F H : Hp} (h : Le F H) {a : Addr} {xs : List V} (e : SqL K F a xs) : SqL K H a xs := by
  rcases e with e | e
  · exact .inl (h.rd e)
  · exact .inr e
theorem Le.t {K : PySem.W.Frag} {F H : Hp} (h : Le F H) {a : Addr} {xs : List V} (e : SqT K F a xs) : SqT K H a xs := by
  rcases e with e | e
  · exact .inl (h.rd e)
  · exact .inr e
theorem Le.lst {F H : Hp} (h : Le F H) {a : Addr} {xs : List V} (e : F a = some (.lst xs)) : H a = some (.lst xs) := by
  rcases h a _ e with e | ⟨z, _⟩
  · exact e
  · exact z.elim
theorem same_rd {H H' : Hp} (h : Same H H') {a : Addr} {u : HO} (e : Rd H a u) : Rd H' a u := by
  rcases e with e | ⟨o, e⟩
  · exact .inl (h _ _ e)
  · exact .inr ⟨o, h _ _ e⟩
theorem same_le {H H' : Hp} (h : Same H H') : Le H H' := fun _ _ e => .inl (h _ _ e)
theorem Le.trans {F G H : Hp} (a : Le F G) (b : Le G H) : Le F H := fun x u e => by
  rcases a x u e with e | ⟨d, o, e⟩
  · exact b x u e
  · rcases b x _ e with e | ⟨z, _⟩
    · exact .inr ⟨d, o, e⟩
    · exact z.elim
theorem Le.refl (F : Hp) : Le F F := fun _ _ e => .inl e
theorem same_l {K : PySem.W.Frag} {F H : Hp} (h : Same F H) {a : Addr} {xs : List V} (e : SqL K F a xs) : SqL K H a xs := (same_le h).l e
theorem same_t {K : PySem.W.Frag} {F H : Hp} (h : Same F H) {a : Addr} {xs : List V} (e : SqT K F a xs) : SqT K H a xs := (same_le h).t e

def kD : Key → D
  | .inl i => .int i
  | .inr x => .str x

/-! ### what a value denotes: F the frozen heap, H the whole one, U the objects it owns -/
mutual
inductive Den (K : PySem.W.Frag) (F H : Hp) : V → D → AS → Prop
  | non {U : AS} (e : ∀ b, ¬ U b) : Den K F H .non .non U
  | bl {b : Bool} {U : AS} (e : ∀ b, ¬ U b) : Den K F H (.bl b) (.bl b) U
  | int {i : Int} {U : AS} (e : ∀ b, ¬ U b) : Den K F H (.int i) (.int i) U
  | str {x : Str} {U : AS} (e : ∀ b, ¬ U b) : Den K F H (.str x) (.str x) U
  | tup {a : Addr} {vs : List V} {ds : List D} {U : AS} (h : SqT K F a vs) (l : DenL K F H vs ds U) : Den K F H (.ref a) (.tup ds) U
  | lstF {a : Addr} {vs : List V} {ds : List D} {U : AS} (h : F a = some (.lst vs)) (l : DenL K F H vs ds U) (e : ∀ b, ¬ U b) : Den K F H (.ref a) (.lst false ds) U
  | scr {a : Addr} {ns : List Int} {U : AS} (h : SqL K F a (ns.map V.int)) (e : ∀ b, ¬ U b) : Den K F H (.ref a) (.scr ns) U
  | lstU {a : Addr} {vs : List V} {ds : List D} {U U' : AS} (h : H a = some (.lst vs)) (l : DenL K F H vs ds U) (n : ¬ U a) (e : ∀ b, U' b ↔ (b = a ∨ U b)) : Den K F H (.ref a) (.lst true ds) U'
  | dKF {a : Addr} {kvs : List (Key × V)} {ds : List (D × D)} {U : AS} (h : F a = some (.dK kvs)) (hk : ds.map (·.1) = kvs.map (fun p => kD p.1)) (l : DenL K F H (kvs.map (·.2)) (ds.map (·.2)) U) (e : ∀ b, ¬ U b) :
      Den K F H (.ref a) (.dct false ds) U
  | dKU {a : Addr} {kvs : List (Key × V)} {ds : List (D × D)} {U U' : AS} (h : H a = some (.dK kvs)) (hk : ds.map (·.1) = kvs.map (fun p => kD p.1)) (l : DenL K F H (kvs.map (·.2)) (ds.map (·.2)) U) (n : ¬ U a)
      (e : ∀ b, U' b ↔ (b = a ∨ U b)) : Den K F H (.ref a) (.dct true ds) U'
  | dTF {a : Addr} {kvs : List (List Key × V)} {ds : List (D × D)} {U : AS} (h : F a = some (.dT kvs)) (hk : ds.map (·.1) = kvs.map (fun p => D.tup (p.1.map kD))) (l : DenL K F H (kvs.map (·.2)) (ds.map (·.2)) U) (e : ∀ b, ¬ U b) :
      Den K F H (.ref a) (.dct false ds) U
  | dTU {a : Addr} {kvs : List (List Key × V)} {ds : List (D × D)} {U U' : AS} (h : H a = some (.dT kvs)) (hk : ds.map (·.1) = kvs.map (fun p => D.tup (p.1.map kD))) (l : DenL K F H (kvs.map (·.2)) (ds.map (·.2)) U) (n : ¬ U a)
      (e : ∀ b, U' b ↔ (b = a ∨ U b)) : Den K F H (.ref a) (.dct true ds) U'
inductive DenL (K : PySem.W.Frag) (F H : Hp) : List V → List D → AS → Prop
  | nil {U : AS} (e : ∀ b, ¬ U b) : DenL K F H [] [] U
  | cons {v : V} {d : D} {vs : List V} {ds : List D} {U1 U2 U : AS} (h : Den K F H v d U1) (l : DenL K F H vs ds U2) (dj : ∀ b, U1 b → ¬ U2 b) (e : ∀ b, U b ↔ (U1 b ∨ U2 b)) : DenL K F H (v :: vs) (d :: ds) U
end

section
variable {K : PySem.W.Frag} {F H F' H' : Hp}
mutual
theorem Den.known : ∀ {v : V} {d : D} {U : AS}, Den K F H v d U → ∀ b, U b → ∃ o, H b = some o
  | _, _, _, .non e, b, u => absurd u (e b)
  | _, _, _, .bl e, b, u => absurd u (e b)
  | _, _, _, .int e, b, u => absurd u (e b)
  | _, _, _, .str e, b, u => absurd u (e b)
  | _, _, _, .tup _ l, b, u => DenL.known l b u
  | _, _, _, .lstF _ _ e, b, u => absurd u (e b)
  | _, _, _, .scr _ e, b, u => absurd u (e b)
  | _, _, _, .lstU h l n e, b, u => ((e b).mp u).elim (fun z => z ▸ ⟨_, h⟩) (DenL.known l b)
  | _, _, _, .dKF _ _ _ e, b, u => absurd u (e b)
  | _, _, _, .dKU h _ l n e, b, u => ((e b).mp u).elim (fun z => z ▸ ⟨_, h⟩) (DenL.known l b)
  | _, _, _, .dTF _ _ _ e, b, u => absurd u (e b)
  | _, _, _, .dTU h _ l n e, b, u => ((e b).mp u).elim (fun z => z ▸ ⟨_, h⟩) (DenL.known l b)
theorem DenL.known : ∀ {vs : List V} {ds : List D} {U : AS}, DenL K F H vs ds U → ∀ b, U b → ∃ o, H b = some o
  | _, _, _, .nil e, b, u => absurd u (e b)
  | _, _, _, .cons h l _ e, b, u => ((e b).mp u).elim (Den.known h b) (DenL.known l b)
end
mutual
theorem Den.keep (hF : Same F F') : ∀ {v : V} {d : D} {U : AS}, Den K F H v d U → (∀ b o, U b → H b = some o → H' b = some o) → Den K F' H' v d U
  | _, _, _, .non e, _ => .non e
  | _, _, _, .bl e, _ => .bl e
  | _, _, _, .int e, _ => .int e
  | _, _, _, .str e, _ => .str e
  | _, _, _, .tup h l, hU => .tup (same_t hF h) (DenL.keep hF l hU)
  | _, _, _, .lstF h l e, hU => .lstF (hF _ _ h) (DenL.keep hF l hU) e
  | _, _, _, .scr h e, hU => .scr (same_l hF h) e
  | _, _, _, .lstU h l n e, hU => .lstU (hU _ _ ((e _).mpr (.inl rfl)) h) (DenL.keep hF l fun b o u => hU b o ((e b).mpr (.inr u))) n e
  | _, _, _, .dKF h k l e, hU => .dKF (hF _ _ h) k (DenL.keep hF l hU) e
  | _, _, _, .dKU h k l n e, hU => .dKU (hU _ _ ((e _).mpr (.inl rfl)) h) k (DenL.keep hF l fun b o u => hU b o ((e b).mpr (.inr u))) n e
  | _, _, _, .dTF h k l e, hU => .dTF (hF _ _ h) k (DenL.keep hF l hU) e
  | _, _, _, .dTU h k l n e, hU => .dTU (hU _ _ ((e _).mpr (.inl rfl)) h) k (DenL.keep hF l fun b o u => hU b o ((e b).mpr (.inr u))) n e
theorem DenL.keep (hF : Same F F') : ∀ {vs : List V} {ds : List D} {U : AS}, DenL K F H vs ds U → (∀ b o, U b → H b = some o → H' b = some o) → DenL K F' H' vs ds U
  | _, _, _, .nil e, _ => .nil e
  | _, _, _, .cons h l dj e, hU => .cons (Den.keep hF h fun b o u => hU b o ((e b).mpr (.inl u))) (DenL.keep hF l fun b o u => hU b o ((e b).mpr (.inr u))) dj e
end
theorem DenL.length {vs : List V} {ds : List D} {U : AS} (h : DenL K F H vs ds U) : vs.length = ds.length := by
  induction ds generalizing vs U with
  | nil => cases h; rfl
  | cons d ds ih =>
    cases h with
    | cons h l _ _ => simp [ih l]
mutual
theorem Den.iff : ∀ {v : V} {d : D} {U U' : AS}, Den K F H v d U → (∀ b, U b ↔ U' b) → Den K F H v d U'
  | _, _, _, _, .non h, e => .non fun b u => h b ((e b).mpr u)
  | _, _, _, _, .bl h, e => .bl fun b u => h b ((e b).mpr u)
  | _, _, _, _, .int h, e => .int fun b u => h b ((e b).mpr u)
  | _, _, _, _, .str h, e => .str fun b u => h b ((e b).mpr u)
  | _, _, _, _, .tup h l, e => .tup h (DenL.iff l e)
  | _, _, _, _, .lstF h l z, e => .lstF h (DenL.iff l e) fun b u => z b ((e b).mpr u)
  | _, _, _, _, .scr h z, e => .scr h fun b u => z b ((e b).mpr u)
  | _, _, _, _, .lstU h l n z, e => .lstU h l n fun b => (e b).symm.trans (z b)
  | _, _, _, _, .dKF h k l z, e => .dKF h k (DenL.iff l e) fun b u => z b ((e b).mpr u)
  | _, _, _, _, .dKU h k l n z, e => .dKU h k l n fun b => (e b).symm.trans (z b)
  | _, _, _, _, .dTF h k l z, e => .dTF h k (DenL.iff l e) fun b u => z b ((e b).mpr u)
  | _, _, _, _, .dTU h k l n z, e => .dTU h k l n fun b => (e b).symm.trans (z b)
theorem DenL.iff : ∀ {vs : List V} {ds : List D} {U U' : AS}, DenL K F H vs ds U → (∀ b, U b ↔ U' b) → DenL K F H vs ds U'
  | _, _, _, _, .nil h, e => .nil fun b u => h b ((e b).mpr u)
  | _, _, _, _, .cons h l dj z, e => .cons h l dj fun b => (e b).symm.trans (z b)
end
/-! ### frozen: nothing is owned -/
mutual
theorem Den.frz_none : ∀ {v : V} {d : D} {U : AS}, Den K F H v d U → d.isFrz = true → ∀ b, ¬ U b
  | _, _, _, .non e, _ => e
  | _, _, _, .bl e, _ => e
  | _, _, _, .int e, _ => e
  | _, _, _, .str e, _ => e
  | _, _, _, .tup h l, f => DenL.frz_none l (by simpa [D.isFrz] using f)
  | _, _, _, .lstF h l e, _ => e
  | _, _, _, .scr h e, _ => e
  | _, _, _, .lstU h l n e, f => by simp [D.isFrz] at f
  | _, _, _, .dKF h k l e, _ => e
  | _, _, _, .dKU h k l n e, f => by simp [D.isFrz] at f
  | _, _, _, .dTF h k l e, _ => e
  | _, _, _, .dTU h k l n e, f => by simp [D.isFrz] at f
theorem DenL.frz_none : ∀ {vs : List V} {ds : List D} {U : AS}, DenL K F H vs ds U → frzAll ds = true → ∀ b, ¬ U b
  | _, _, _, .nil e, _ => e
  | _, _, _, .cons h l dj e, f => by
    simp only [frzAll, Bool.and_eq_true] at f
    exact fun b u => ((e b).mp u).elim (Den.frz_none h f.1 b) (DenL.frz_none l f.2 b)
end
/-- freezing: what is owned goes over into the frozen heap -/
theorem mapFrzKv_fst : ∀ kvs : List (D × D), (mapFrzKv kvs).map (·.1) = kvs.map (·.1)
  | [] => rfl
  | (k, v) :: r => by simp [mapFrzKv, mapFrzKv_fst r]
theorem mapFrzKv_snd : ∀ kvs : List (D × D), (mapFrzKv kvs).map (·.2) = mapFrz (kvs.map (·.2))
  | [] => rfl
  | (k, v) :: r => by simp [mapFrzKv, mapFrz, mapFrzKv_snd r]
mutual
theorem Den.freeze (hF : Same F F') : ∀ {v : V} {d : D} {U U0 : AS}, Den K F H v d U → (∀ b, U b → F' b = H b) → (∀ b, ¬ U0 b) → Den K F' H' v d.frz U0
  | _, _, _, _, .non e, _, e0 => .non e0
  | _, _, _, _, .bl e, _, e0 => .bl e0
  | _, _, _, _, .int e, _, e0 => .int e0
  | _, _, _, _, .str e, _, e0 => .str e0
  | _, _, _, _, .tup h l, hU, e0 => .tup (same_t hF h) (DenL.freeze hF l hU e0)
  | _, _, _, _, .lstF h l e, hU, e0 => .lstF (hF _ _ h) (DenL.freeze hF l hU e0) e0
  | _, _, _, _, .scr h e, hU, e0 => .scr (same_l hF h) e0
  | _, _, _, _, .lstU h l n e, hU, e0 => .lstF ((hU _ ((e _).mpr (.inl rfl))).trans h) (DenL.freeze hF l (fun b u => hU b ((e b).mpr (.inr u))) e0) e0
  | _, _, _, _, .dKF h k l e, hU, e0 => .dKF (hF _ _ h) (by rw [mapFrzKv_fst]; exact k) (by rw [mapFrzKv_snd]; exact DenL.freeze hF l hU e0) e0
  | _, _, _, _, .dKU h k l n e, hU, e0 => .dKF ((hU _ ((e _).mpr (.inl rfl))).trans h) (by rw [mapFrzKv_fst]; exact k) (by rw [mapFrzKv_snd]; exact DenL.freeze hF l (fun b u => hU b ((e b).mpr (.inr u))) e0) e0
  | _, _, _, _, .dTF h k l e, hU, e0 => .dTF (hF _ _ h) (by rw [mapFrzKv_fst]; exact k) (by rw [mapFrzKv_snd]; exact DenL.freeze hF l hU e0) e0
  | _, _, _, _, .dTU h k l n e, hU, e0 => .dTF ((hU _ ((e _).mpr (.inl rfl))).trans h) (by rw [mapFrzKv_fst]; exact k) (by rw [mapFrzKv_snd]; exact DenL.freeze hF l (fun b u => hU b ((e b).mpr (.inr u))) e0) e0
theorem DenL.freeze (hF : Same F F') : ∀ {vs : List V} {ds : List D} {U U0 : AS}, DenL K F H vs ds U → (∀ b, U b → F' b = H b) → (∀ b, ¬ U0 b) → DenL K F' H' vs (mapFrz ds) U0
  | _, _, _, _, .nil e, _, e0 => .nil e0
  | _, _, _, _, .cons h l dj e, hU, e0 => .cons (Den.freeze hF h (fun b u => hU b ((e b).mpr (.inl u))) e0) (DenL.freeze hF l (fun b u => hU b ((e b).mpr (.inr u))) e0) (fun b u => absurd u (e0 b)) (fun b => ⟨fun u => absurd u (e0 b), fun u => u.elim id id⟩)
end
/-- the items, one by one -/
theorem DenL.get {vs : List V} {ds : List D} {U : AS} (h : DenL K F H vs ds U) {i : Nat} {v : V} (hv : vs[i]? = some v) : ∃ d U1, ds[i]? = some d ∧ Den K F H v d U1 ∧ ∀ b, U1 b → U b := by
  induction ds generalizing vs U i with
  | nil => cases h; simp at hv
  | cons d ds ih =>
    cases h with
    | cons h l dj e =>
      cases i with
      | zero =>
        simp at hv
        subst hv
        exact ⟨d, _, rfl, h, fun b u => (e b).mpr (.inl u)⟩
      | succ i =>
        obtain ⟨d', U1, a, b, c⟩ := ih l (by simpa using hv)
        exact ⟨d', U1, by simpa using a, b, fun z u => (e z).mpr (.inr (c z u))⟩
theorem DenL.getD {vs : List V} {ds : List D} {U : AS} (h : DenL K F H vs ds U) {i : Nat} {d : D} (hd : ds[i]? = some d) : ∃ v U1, vs[i]? = some v ∧ Den K F H v d U1 ∧ ∀ b, U1 b → U b := by
  have hl := h.length
  have hi : i < vs.length := by
    have := (List.getElem?_eq_some_iff.mp hd).1
    omega
  obtain ⟨d', U1, a, b, c⟩ := h.get (List.getElem?_eq_getElem hi)
  rw [hd] at a
  cases a
  exact ⟨_, U1, List.getElem?_eq_getElem hi, b, c⟩
theorem DenL.append {vs ws : List V} {ds es : List D} {U W U' : AS} (h : DenL K F H vs ds U) (l : DenL K F H ws es W) (dj : ∀ b, U b → ¬ W b) (e : ∀ b, U' b ↔ (U b ∨ W b)) : DenL K F H (vs ++ ws) (ds ++ es) U' := by
  induction ds generalizing vs U U' with
  | nil =>
    cases h with
    | nil z => exact l.iff fun b => ⟨fun u => (e b).mpr (.inr u), fun u => ((e b).mp u).elim (fun q => absurd q (z b)) id⟩
  | cons d ds ih =>
    cases h with
    | cons h r dj2 z =>
      exact .cons h (ih (U' := fun b => _ ∨ W b) r (fun b u => dj b ((z b).mpr (.inr u))) fun b => Iff.rfl) (fun b u q => q.elim (dj2 b u) (dj b ((z b).mpr (.inl u)))) fun b => by rw [e, z, or_assoc]
theorem DenL.one {v : V} {d : D} {U : AS} (h : Den K F H v d U) : DenL K F H [v] [d] U := .cons h (.nil (U := fun _ => False) fun _ u => u) (fun _ _ u => u) fun b => by simp
end

/-! ### what an evaluation may change: T what it might touch, T' what is owned behind it -/
structure Evo (F H : Hp) (T : AS) (F' H' : Hp) (T' : AS) : Prop where
  fle : Same F F'
  frm : ∀ a o, H a = some o → ¬ T a → H' a = some o
  own : ∀ a, T' a → T a ∨ H a = none
  frz : ∀ a, F a = none → F' a ≠ none → T a ∨ H a = none
section
variable {K : PySem.W.Frag} {F H F' H' F2 H2 : Hp} {T T' T2 : AS}
theorem Evo.trans (a : Evo F H T F' H' T') (b : Evo F' H' T' F2 H2 T2) : Evo F H T F2 H2 T2 where
  fle := a.fle.trans b.fle
  frm := fun x o h n => by
    refine b.frm x o (a.frm x o h n) fun t => ?_
    rcases a.own x t with t | t
    · exact n t
    · rw [t] at h; cases h
  own := fun x t => by
    rcases b.own x t with t | t
    · exact a.own x t
    · cases e : H x with
      | none => exact .inr rfl
      | some o =>
        by_cases q : T x
        · exact .inl q
        · have := a.frm x o e q
          rw [this] at t; cases t
  frz := fun x n f => by
    cases e : F' x with
    | some o => exact a.frz x n (by rw [e]; exact fun z => by cases z)
    | none =>
      rcases b.frz x e f with t | t
      · exact a.own x t
      · cases e2 : H x with
        | none => exact .inr rfl
        | some o =>
          by_cases q : T x
          · exact .inl q
          · have := a.frm x o e2 q
            rw [this] at t; cases t
theorem Evo.refl : Evo F H T F H T := ⟨Same.refl _, fun _ _ h _ => h, fun _ t => .inl t, fun _ n f => absurd n f⟩
theorem Evo.weak (a : Evo F H T F' H' T') (h : ∀ b, T2 b → T' b) : Evo F H T F' H' T2 := ⟨a.fle, a.frm, fun x t => a.own x (h x t), a.frz⟩
theorem Evo.more (a : Evo F H T F' H' T') (h : ∀ b, T b → T2 b) : Evo F H T2 F' H' T' := ⟨a.fle, fun x o e n => a.frm x o e fun t => n (h x t), fun x t => (a.own x t).imp (h x) id, fun x n f => (a.frz x n f).imp (h x) id⟩
/-- a root beside what may be touched -/
structure Root (K : PySem.W.Frag) (F H : Hp) (T : AS) (v : V) (d : D) (U : AS) : Prop where
  den : Den K F H v d U
  dj : ∀ b, U b → ¬ T b
  out : ∀ b, U b → F b = none
theorem Root.keep {v : V} {d : D} {U : AS} (r : Root K F H T v d U) (e : Evo F H T F' H' T') : Root K F' H' T' v d U where
  den := r.den.keep e.fle fun b o u h => e.frm b o h (r.dj b u)
  dj := fun b u t => by
    rcases e.own b t with t | t
    · exact r.dj b u t
    · obtain ⟨o, h⟩ := r.den.known b u
      rw [h] at t; cases t
  out := fun b u => by
    cases q : F' b with
    | none => rfl
    | some o =>
      rcases e.frz b (r.out b u) (by rw [q]; exact fun z => by cases z) with t | t
      · exact absurd t (r.dj b u)
      · obtain ⟨o', h⟩ := r.den.known b u
        rw [h] at t; cases t
end
end MP

end
section
set_option Elab.async false
set_option linter.all false
set_option maxRecDepth 100000
/-! MP2: the small language and what it means over pure data. -/
namespace MP
open PySem PySem.Spec PyProof.Rows L2

/-! ### data: as PyData, equality, truth -/
mutual
def D.py : D → PyData
  | .non => .none
  | .bl b => .bool b
  | .int i => .int i
  | .str x => .str x
  | .tup xs => .tuple (pyAll xs)
  | .lst _ xs => .list (pyAll xs)
  | .dct _ kvs => .dict (pyKv kvs)
  | .ins _ _ _ => .none
  | .scr ns => .list (ns.map .int)
def pyAll : List D → List PyData
  | [] => []
  | x :: xs => x.py :: pyAll xs
def pyKv : List (D × D) → List (PyData × PyData)
  | [] => []
  | (k, v) :: r => (k.py, v.py) :: pyKv r
end

mutual
def D.flat : D → Bool
  | .non => true
  | .bl _ => true
  | .int _ => true
  | .str _ => true
  | .tup xs => flatAll xs
  | .lst _ xs => flatAll xs
  | .dct _ _ => false
  | .ins _ _ _ => false
  | .scr _ => false
def flatAll : List D → Bool
  | [] => true
  | x :: xs => x.flat && flatAll xs
end
def shapedD (d : D) : Bool := d.flat && SeqAt.shaped d.py
def eqD (x y : D) : Option Bool := if shapedD x && shapedD y then some (PyData.eqv x.py y.py) else none
def inLine (n : Nat) : Bool := decide (n ≤ sizeLine)
def D.truth : D → Option Bool
  | .non => some false
  | .bl b => some b
  | .int i => some (i != 0)
  | .str x => if inLine x.length then some ((x.length : Int) != 0) else none
  | .tup xs => some (!xs.isEmpty)
  | .lst _ xs => some (!xs.isEmpty)
  | .dct _ _ => none
  | .ins _ _ _ => none
  | .scr ns => some (!ns.isEmpty)

/-! ### the pure operations -/
inductive Op where
  | add | sub | mul | fdiv | mod | pow | neg
  | eq | ne | lt | le | gt | ge | isN | notN | inn | nin | not
  | ix | sl | part
  | len | min | max | abs | tuple | list | int | str | repr | any | all
  | range | zip | enum
  | isi (T : List Nat)
  deriving DecidableEq

def intsD : List D → Option (List Int)
  | [] => some []
  | .int i :: r => (intsD r).map (i :: ·)
  | _ :: _ => none
def boolsD : List D → Option (List Bool)
  | [] => some []
  | .bl i :: r => (boolsD r).map (i :: ·)
  | _ :: _ => none
def opt (b : Bool) (d : D) : Option D := if b then some d else none
def mulOk (i j : Int) : Bool := decide (i.natAbs.log2 + j.natAbs.log2 < 1000000)
def partD : D → Option (Option Int)
  | .non => some none
  | .int i => some (some i)
  | _ => none
def cutD {α : Type} (xs : List α) (lo hi : Option Int) : List α := (xs.drop (HT.sIx xs.length 0 lo)).take (HT.sIx xs.length xs.length hi - HT.sIx xs.length 0 lo)
def findD (k : D) : List (D × D) → Option (Option D)
  | [] => some none
  | (k', v) :: r => match eqD k' k with
    | some true => some (some v)
    | some false => findD k r
    | none => none
def anyEq (x : D) : List D → Option Bool
  | [] => some false
  | y :: r => match eqD y x with
    | some true => some true
    | some false => anyEq x r
    | none => none
def D.isNon : D → Bool
  | .non => true
  | _ => false
def D.isScal : D → Bool
  | .non => true
  | .bl _ => true
  | .int _ => true
  | .str _ => true
  | _ => false
def inScal (x : D) (ys : List D) : Option Bool := if x.isScal && ys.all D.isScal then some (ys.any fun y => PyData.eqv y.py x.py) else none
def inDeep (x : D) (ys : List D) : Option Bool := if x.isScal && ys.all D.isScal then some (ys.any fun y => PyData.eqv y.py x.py)
  else if shapedD x && shapedD (.lst false ys) then some ((pyAll ys).any fun z => PyData.eqv z x.py) else none
def itemsOf : D → Option (List D)
  | .lst _ xs => some xs
  | .tup xs => some xs
  | .str x => some (x.cps.toList.map fun c => .str ⟨#[c]⟩)
  | _ => none
def isType (d : D) : Nat → Bool
  | 0 => match d with | .int _ => true | .bl _ => true | _ => false
  | 1 => match d with | .str _ => true | _ => false
  | 2 => match d with | .bl _ => true | _ => false
  | 3 => match d with | .tup _ => true | _ => false
  | 4 => match d with | .lst _ _ => true | .scr _ => true | _ => false
  | 5 => match d with | .dct _ _ => true | _ => false
  | _ => false
def rangeD (lo hi : Int) : List D := (List.range (hi - lo).toNat).map fun (k : Nat) => .int (lo + k)
def small62 (i : Int) : Bool := decide (-(2 ^ 62) ≤ i) && decide (i < 2 ^ 62)
def zipD : List D → List D → List D
  | x :: xs, y :: ys => .tup [x, y] :: zipD xs ys
  | _, _ => []
def enumD : Nat → List D → List D
  | _, [] => []
  | n, x :: xs => .tup [.int n, x] :: enumD (n + 1) xs
def minI : List Int → Int
  | [] => 0
  | x :: r => r.foldl (fun m y => if y < m then y else m) x
def maxI : List Int → Int
  | [] => 0
  | x :: r => r.foldl (fun m y => if y > m then y else m) x

def sAdd : List D → Option D
  | [.int i, .int j] => some (.int (i + j))
  | [.str x, .str y] => opt (inLine (x.length + y.length)) (.str (x ++ y))
  | [.lst _ xs, .lst _ ys] => opt (frzAll xs && frzAll ys && inLine (xs.length + ys.length)) (.lst true (xs ++ ys))
  | [.tup xs, .tup ys] => opt (frzAll xs && frzAll ys && inLine (xs.length + ys.length)) (.tup (xs ++ ys))
  | _ => none
def sSub : List D → Option D
  | [.int i, .int j] => some (.int (i - j))
  | _ => none
def sMul : List D → Option D
  | [.int i, .int j] => opt (mulOk i j) (.int (i * j))
  | [.lst _ xs, .int j] => opt (frzAll xs && small62 j && inLine (xs.length * j.toNat)) (.lst true (List.replicate j.toNat xs).flatten)
  | _ => none
def sFdiv : List D → Option D
  | [.int i, .int j] => opt (decide (j ≠ 0) && decide (j.natAbs.log2 < 9000)) (.int (i.fdiv j))
  | _ => none
def sMod : List D → Option D
  | [.int i, .int j] => opt (decide (j ≠ 0)) (.int (i.fmod j))
  | _ => none
def sPow : List D → Option D
  | [.int i, .int j] => opt (decide (0 ≤ j) && decide (j ≤ 1000000) && decide (i.natAbs < 2 ^ 64)) (.int (i ^ j.toNat))
  | _ => none
def sNeg : List D → Option D
  | [.int i] => some (.int (-i))
  | _ => none
def sEq : List D → Option D
  | [.str x, .str y] => some (.bl (decide (x = y)))
  | [x, y] => (eqD x y).map .bl
  | _ => none
def sNe : List D → Option D
  | [.str x, .str y] => some (.bl (!decide (x = y)))
  | [x, y] => (eqD x y).map fun b => .bl (!b)
  | _ => none
def sLt : List D → Option D
  | [.int i, .int j] => some (.bl (decide (i < j)))
  | [.str x, .str y] => some (.bl (decide (x.cps.toList < y.cps.toList)))
  | _ => none
def sLe : List D → Option D
  | [.int i, .int j] => some (.bl (decide (i ≤ j)))
  | _ => none
def sGt : List D → Option D
  | [.int i, .int j] => some (.bl (decide (j < i)))
  | _ => none
def sGe : List D → Option D
  | [.int i, .int j] => some (.bl (decide (j ≤ i)))
  | _ => none
def sIsN : List D → Option D
  | [x] => some (.bl x.isNon)
  | _ => none
def sNotN : List D → Option D
  | [x] => some (.bl (!x.isNon))
  | _ => none
def sInn : List D → Option D
  | [x, .tup ys] => (inScal x ys).map .bl
  | [x, .lst _ ys] => (inDeep x ys).map .bl
  | [.str x, .str y] => some (.bl (!(Builtin.Str.occurrences y x 0 y.length 1).isEmpty))
  | _ => none
def sNin : List D → Option D
  | [x, .tup ys] => (inScal x ys).map fun b => .bl (!b)
  | [x, .lst _ ys] => (inDeep x ys).map fun b => .bl (!b)
  | [.str x, .str y] => some (.bl (!(!(Builtin.Str.occurrences y x 0 y.length 1).isEmpty)))
  | _ => none
def sNot : List D → Option D
  | [x] => x.truth.map fun b => .bl (!b)
  | _ => none
def sIx : List D → Option D
  | [.lst _ xs, .int i] => atI xs i
  | [.tup xs, .int i] => atI xs i
  | [.scr ns, .int i] => (atI ns i).map .int
  | [.str x, .int i] => (if inLine x.length then atI x.cps.toList i else none).map fun c => .str ⟨#[c]⟩
  | _ => none
def sSl : List D → Option D
  | [.tup xs, lo, hi] => (partD lo).bind fun l => (partD hi).bind fun h => opt (frzAll xs) (.tup (cutD xs l h))
  | [.lst _ xs, lo, hi] => (partD lo).bind fun l => (partD hi).bind fun h => opt (frzAll xs) (.lst true (cutD xs l h))
  | _ => none
def sPart : List D → Option D
  | [.int i] => some (.int i)
  | _ => none
def sLen : List D → Option D
  | [.tup xs] => some (.int xs.length)
  | [.lst _ xs] => some (.int xs.length)
  | [.scr ns] => some (.int ns.length)
  | [.str x] => opt (inLine x.length) (.int x.length)
  | _ => none
def sMin : List D → Option D
  | [.int i, .int j] => some (.int (if j < i then j else i))
  | [.lst _ xs] => (intsD xs).bind fun ns => opt (decide (0 < ns.length)) (.int (minI ns))
  | _ => none
def sMax : List D → Option D
  | [.int i, .int j] => some (.int (if j > i then j else i))
  | [.lst _ xs] => (intsD xs).bind fun ns => opt (decide (0 < ns.length)) (.int (maxI ns))
  | _ => none
def sAbs : List D → Option D
  | [.int i] => some (.int (if i < 0 then -i else i))
  | _ => none
def sTuple : List D → Option D
  | [.lst _ xs] => opt (frzAll xs) (.tup xs)
  | [.tup xs] => opt (frzAll xs) (.tup xs)
  | _ => none
def sList : List D → Option D
  | [.lst _ xs] => opt (frzAll xs) (.lst true xs)
  | [.tup xs] => opt (frzAll xs) (.lst true xs)
  | _ => none
def sInt : List D → Option D
  | [.int i] => some (.int i)
  | [.bl b] => some (.int (if b then 1 else 0))
  | _ => none
def sRepr : List D → Option D
  | [d] => opt (d.flat && d.py.showable && !d.py.hasDict && decide (d.py.depth ≤ 60) && inLine d.py.shown.length) (.str d.py.shown)
  | _ => none
def sAny : List D → Option D
  | [.lst _ xs] => (boolsD xs).map fun bs => .bl (bs.any id)
  | _ => none
def sAll : List D → Option D
  | [.lst _ xs] => (boolsD xs).map fun bs => .bl (bs.all id)
  | _ => none
def sRange : List D → Option D
  | [.int j] => opt (small62 j) (.lst false (rangeD 0 j))
  | [.int i, .int j] => opt (small62 i && small62 j) (.lst false (rangeD i j))
  | _ => none
def sZip : List D → Option D
  | [.lst _ xs, .lst _ ys] => some (.lst false (zipD xs ys))
  | [.tup xs, .tup ys] => some (.lst false (zipD xs ys))
  | _ => none
def sEnum : List D → Option D
  | [.lst _ xs] => some (.lst false (enumD 0 xs))
  | _ => none
def sIsi (ts : List Nat) : List D → Option D
  | [.dct _ _] => none
  | [d] => if ts.all (fun t => decide (t < 6)) then some (.bl (ts.any (isType d))) else none
  | _ => none
def opSem (o : Op) (ds : List D) : Option D := match o with
  | .add => sAdd ds
  | .sub => sSub ds
  | .mul => sMul ds
  | .fdiv => sFdiv ds
  | .mod => sMod ds
  | .pow => sPow ds
  | .neg => sNeg ds
  | .eq => sEq ds
  | .ne => sNe ds
  | .lt => sLt ds
  | .le => sLe ds
  | .gt => sGt ds
  | .ge => sGe ds
  | .isN => sIsN ds
  | .notN => sNotN ds
  | .inn => sInn ds
  | .nin => sNin ds
  | .not => sNot ds
  | .ix => sIx ds
  | .sl => sSl ds
  | .part => sPart ds
  | .len => sLen ds
  | .min => sMin ds
  | .max => sMax ds
  | .abs => sAbs ds
  | .tuple => sTuple ds
  | .list => sList ds
  | .int => sInt ds
  | .repr => sRepr ds
  | .any => sAny ds
  | .all => sAll ds
  | .range => sRange ds
  | .zip => sZip ds
  | .enum => sEnum ds
  | .isi ts => sIsi ts ds
  | .str => none

/-! ### the language -/
inductive Tg where
  | nm (i : Nat) | tp (ts : List Tg)
inductive Src where
  | a (j : Nat) | d (v : D) | s (k i : Nat)
inductive MOp where
  | append | extend | popLast | popAt | insert | reverse | clear | remove | update
  deriving DecidableEq
inductive E where
  | var (i : Nat) | mov (i : Nat) | ref (i : Nat) | cst (d : D)
  | op (o : Op) (es : List E)
  | band (a b : E) | bor (a b : E) | ite (c a b : E)
  | chn (o1 o2 : Op) (a b c : E)
  | tup (es : List E) | lst (es : List E)
  | call (f : Nat) (es : List E) (srcs : List Src)
  | mtd (o : MOp) (i : Nat) (es : List E)
  | lc (own : List Nat) (t : Tg) (it c e : E)
  | itr (o : Op) (es : List E)
instance : Inhabited E := ⟨.cst .non⟩
inductive S where
  | exp (e : E) | asg (t : Tg) (e : E) | sti (i : Nat) (k e : E)
  | ite (c : E) (a b : List S) | whl (c : E) (b : List S) | for_ (t : Tg) (it : E) (b : List S)
  | ret (e : E) | retN | pass | brk | cnt
instance : Inhabited S := ⟨.pass⟩

abbrev Rho := List (Option D)
/-- an exception: its class, its fields -/
structure XV where
  c : Nat
  fs : List (Str × D)
inductive Res (α : Type) where
  | ok (a : α) (ρ : Rho) | exc (x : XV) (ρ : Rho) | stk
abbrev M (α : Type) := Rho → Res α
def M.bind {α β : Type} (m : M α) (f : α → M β) : M β := fun ρ => match m ρ with
  | .ok a ρ' => f a ρ'
  | .exc x ρ' => .exc x ρ'
  | .stk => .stk
def M.pure {α : Type} (a : α) : M α := fun ρ => .ok a ρ
def M.lift {α : Type} (o : Option α) : M α := fun ρ => match o with
  | some a => .ok a ρ
  | none => .stk
inductive Fl where
  | nx | ret (d : D) | brk | cnt

def rootOf : E → Option Nat
  | .var i => some i
  | .op .ix [a, _] => rootOf a
  | _ => none

mutual
def tgN : Tg → List Nat
  | .nm i => [i]
  | .tp ts => tgNs ts
def tgNs : List Tg → List Nat
  | [] => []
  | t :: ts => tgN t ++ tgNs ts
end
mutual
def quiet : E → Bool
  | .var _ => true
  | .cst _ => true
  | .op _ es => quietAll es
  | .chn _ _ a b c => quiet a && quiet b && quiet c
  | _ => false
def quietAll : List E → Bool
  | [] => true
  | e :: es => quiet e && quietAll es
end
def setSlot (i : Nat) (d : Option D) : M Unit := fun ρ => if i < ρ.length then .ok () (ρ.set i d) else .stk
/-- a value is taken: what is not frozen is frozen with its root -/
def takeP (e : E) (d : D) : M D := match rootOf e with
  | none => M.pure d
  | some i => if d.isFrz then M.pure d else fun ρ => match ρ[i]? with
    | some (some r) => .ok d.frz (ρ.set i (some r.frz))
    | _ => .stk
mutual
def asgT : Tg → D → M Unit
  | .nm i, d => setSlot i (some d)
  | .tp ts, .tup ds => asgTs ts ds
  | .tp _, _ => fun _ => .stk
def asgTs : List Tg → List D → M Unit
  | [], [] => M.pure ()
  | t :: ts, d :: ds => (asgT t d).bind fun _ => asgTs ts ds
  | _, _ => fun _ => .stk
end
def wipeR (ρ : Rho) : List Nat → Rho
  | [] => ρ
  | v :: vs => (wipeR ρ vs).set v none
def putBack (ρ0 ρ : Rho) : List Nat → Rho
  | [] => ρ
  | v :: vs => (putBack ρ0 ρ vs).set v (ρ0.getD v none)
def noX {α : Type} (m : M α) : M α := fun ρ => match m ρ with
  | .ok a ρ' => .ok a ρ'
  | _ => .stk
/-- the turns of a comprehension -/
def turns (f : D → M (Option D)) : List D → M (List D)
  | [] => M.pure []
  | x :: xs => (f x).bind fun r => (turns f xs).bind fun rs => M.pure (match r with | some d => d :: rs | none => rs)
def inBlk (own : List Nat) (m : M (List D)) : M (List D) := fun ρ => ((noX m).bind fun ds ρ' => .ok ds (putBack ρ ρ' own)) (wipeR ρ own)
def mopSem : MOp → D → List D → Option (D × D)
  | .append, .lst true xs, [d] => if decide (xs.length < sizeLine) then some (.non, .lst true (xs ++ [d])) else none
  | .extend, .lst true xs, [.lst _ ys] => if frzAll ys && inLine (xs.length + ys.length) then some (.non, .lst true (xs ++ ys)) else none
  | .popLast, .lst true xs, [] => xs.getLast?.map fun d => (d, .lst true xs.dropLast)
  | .popAt, .lst true xs, [.int i] => if small62 i then (match ixN xs.length i with
      | some k => xs[k]?.map fun d => (d, .lst true (xs.eraseIdx k))
      | none => none) else none
  | .reverse, .lst true xs, [] => some (.non, .lst true xs.reverse)
  | .clear, .lst true _, [] => some (.non, .lst true [])
  | .insert, .lst true xs, [.int i, d] => if decide (xs.length < sizeLine) && decide (0 ≤ i) && small62 i then some (.non, .lst true (xs.take i.toNat ++ [d] ++ xs.drop i.toNat)) else none
  | _, _, _ => none
def chkS (i : Nat) : M Unit := fun ρ => match ρ[i]? with
  | some (some _) => .ok () ρ
  | _ => .stk
def chkL (i : Nat) : M Unit := fun ρ => match ρ[i]? with
  | some (some (.lst true _)) => .ok () ρ
  | _ => .stk
def mutV (o : MOp) (i : Nat) (ds : List D) : M D := fun ρ => match ρ[i]? with
  | some (some d) => (match mopSem o d ds with
    | some (v, d') => .ok v (ρ.set i (some d'))
    | none => .stk)
  | _ => .stk
def mutS : D → D → D → Option D
  | .lst true xs, .int k, d => (ixN xs.length k).map fun j => .lst true (xs.set j d)
  | _, _, _ => none
def setV (i : Nat) (k d : D) : M Unit := fun ρ => match ρ[i]? with
  | some (some r) => (match mutS r k d with
    | some r' => .ok () (ρ.set i (some r'))
    | none => .stk)
  | _ => .stk
def movS (i : Nat) : M D := fun ρ => match ρ[i]? with
  | some (some d) => .ok d (ρ.set i none)
  | _ => .stk
/-- the arguments in the params' order: given ones are frozen, what is lent stands in its slot -/
def pick (ds : List D) : List Src → M (List D)
  | [] => M.pure []
  | .a j :: r => (M.lift ds[j]?).bind fun d => (pick ds r).bind fun as => M.pure (d.frz :: as)
  | .d v :: r => (pick ds r).bind fun as => M.pure (v :: as)
  | .s _ i :: r => (movS i).bind fun d => (pick ds r).bind fun as => M.pure (d :: as)
/-- a place of the arguments is what the call says -/
def okSrc (es : List E) : Src → Bool
  | .a k => match es[k]? with
    | some (.ref _) => false
    | some _ => true
    | none => false
  | .s k i => match es[k]? with
    | some (.ref j) => i == j
    | _ => false
  | .d v => v.isFrz
def okOuts (outs : List Nat) : Nat → List Src → Bool
  | _, [] => true
  | j, .s _ _ :: r => outs.contains j && okOuts outs (j + 1) r
  | j, _ :: r => okOuts outs (j + 1) r
def Src.key : Src → Option Nat
  | .a k => some k
  | .s k _ => some k
  | .d _ => none
def putS : List Src → List D → M Unit
  | [], [] => M.pure ()
  | .s _ i :: r, d :: ds => (setSlot i (some d)).bind fun _ => putS r ds
  | .a _ :: r, _ :: ds => putS r ds
  | .d _ :: r, _ :: ds => putS r ds
  | _, _ => fun _ => .stk
/-- what a call of a def is worth: the value, and what the params that it changes stand for behind it -/
abbrev Fns := Nat → List D → Res (D × List D)
def callD (Γ : Fns) (f : Nat) (ds : List D) : M (D × List D) := fun ρ => match Γ f ds with
  | .ok r _ => .ok r ρ
  | .exc x _ => .exc x ρ
  | .stk => .stk
section
variable (Γ : Fns)
mutual
/-- as an operand: borrowed -/
def evB : E → M D
  | .var i => fun ρ => match ρ[i]? with
    | some (some d) => .ok d ρ
    | _ => .stk
  | .mov i => movS i
  | .ref _ => fun _ => .stk
  | .cst d => M.pure d
  | .op o es => (evOs es).bind fun ds => M.lift (opSem o ds)
  | .band a b => (evB a).bind fun x => (takeP a x).bind fun x => match x.truth with
    | some true => (evB b).bind fun y => takeP b y
    | some false => M.pure x
    | none => fun _ => .stk
  | .bor a b => (evB a).bind fun x => (takeP a x).bind fun x => match x.truth with
    | some true => M.pure x
    | some false => (evB b).bind fun y => takeP b y
    | none => fun _ => .stk
  | .ite c a b => (evT c).bind fun k => if k then (evB a).bind fun y => takeP a y else (evB b).bind fun y => takeP b y
  | .chn o1 o2 a b c => (evB a).bind fun x => (if quiet b && quiet c then M.pure x else takeP a x).bind fun x => (evB b).bind fun y => (if quiet c then M.pure y else takeP b y).bind fun y =>
      (M.lift (opSem o1 [x, y])).bind fun k => match k with
      | .bl true => (evB c).bind fun z => M.lift (opSem o2 [y, z])
      | .bl false => M.pure (.bl false)
      | _ => fun _ => .stk
  | .itr o es => (evVs es).bind fun ds => M.lift (opSem o (mapFrz ds))
  | .tup es => (evVs es).bind fun ds => if inLine ds.length then M.pure (.tup ds) else fun _ => .stk
  | .lst es => (evVs es).bind fun ds => if inLine ds.length then M.pure (.lst true ds) else fun _ => .stk
  | .call f es srcs => (evAs es).bind fun ds => (pick ds srcs).bind fun as => (callD Γ f as).bind fun r => (putS srcs r.2).bind fun _ => M.pure r.1
  | .mtd o i es => (chkL i).bind fun _ => (evVs es).bind fun ds => mutV o i ds
  | .lc own t it c e => (evB it).bind fun x => (takeP it x).bind fun x => (M.lift (itemsOf x.frz)).bind fun xs =>
      if inLine xs.length then (inBlk own (turns (fun x => (asgT t x).bind fun _ => (evT c).bind fun k => if k then (evB e).bind fun y => (takeP e y).bind fun d ρ => .ok (some d) (wipeR ρ own) else fun ρ => .ok none (wipeR ρ own)) xs)).bind fun ds =>
      M.pure (.lst true ds) else fun _ => .stk
/-- a test -/
def evT : E → M Bool
  | .op .not [x] => (evT x).bind fun k => M.pure (!k)
  | .band a b => (evT a).bind fun k => if k then evT b else M.pure false
  | .bor a b => (evT a).bind fun k => if k then M.pure true else evT b
  | .ite c a b => (evT c).bind fun k => if k then evT a else evT b
  | e => (evB e).bind fun d => M.lift d.truth
/-- operands, from the left: all but the last are taken where a later one is not quiet -/
def evOs : List E → M (List D)
  | [] => M.pure []
  | e :: es => (evB e).bind fun x => (if quietAll es then M.pure x else takeP e x).bind fun x => (evOs es).bind fun ds => M.pure (x :: ds)
/-- values, from the left -/
def evVs : List E → M (List D)
  | [] => M.pure []
  | e :: es => (evB e).bind fun x => (takeP e x).bind fun x => (evVs es).bind fun ds => M.pure (x :: ds)
/-- the arguments of a call: what is lent stays where it is -/
def evAs : List E → M (List D)
  | [] => M.pure []
  | .ref i :: es => (chkS i).bind fun _ => (evAs es).bind fun ds => M.pure (.non :: ds)
  | e :: es => (evB e).bind fun x => (takeP e x).bind fun x => (evAs es).bind fun ds => M.pure (x :: ds)
end
def evV (e : E) : M D := (evB Γ e).bind fun x => takeP e x
/-- what is walked -/
def evI (e : E) : M (List D) := (evV Γ e).bind fun x => M.lift (itemsOf x.frz)
/-- the turns of a for -/
def loopF (t : Tg) (body : M Fl) : List D → M Fl
  | [] => M.pure .nx
  | x :: xs => (asgT t x).bind fun _ => body.bind fun f => match f with
    | .nx => loopF t body xs
    | .cnt => loopF t body xs
    | .brk => M.pure .nx
    | .ret d => M.pure (.ret d)
/-- the turns of a while -/
def loopW (c : M Bool) (body : M Fl) : Nat → M Fl
  | 0 => fun _ => .stk
  | n + 1 => c.bind fun k => if k then body.bind fun f => match f with
    | .nx => loopW c body n
    | .cnt => loopW c body n
    | .brk => M.pure .nx
    | .ret d => M.pure (.ret d) else M.pure .nx
def most : Nat := 1000000
mutual
def ex : S → M Fl
  | .exp e => (evB Γ e).bind fun _ => M.pure .nx
  | .asg t e => (evV Γ e).bind fun d => (asgT t d).bind fun _ => M.pure .nx
  | .sti i k e => (evV Γ e).bind fun d => (chkS i).bind fun _ => (evV Γ k).bind fun kd => (setV i kd d).bind fun _ => M.pure .nx
  | .ite c a b => (evT Γ c).bind fun k => if k then exs a else exs b
  | .whl c b => loopW (evT Γ c) (exs b) most
  | .for_ t it b => (evI Γ it).bind fun xs => loopF t (exs b) xs
  | .ret e => (evV Γ e).bind fun d => M.pure (.ret d)
  | .retN => M.pure (.ret .non)
  | .pass => M.pure .nx
  | .brk => M.pure .brk
  | .cnt => M.pure .cnt
def exs : List S → M Fl
  | [] => M.pure .nx
  | s :: r => (ex s).bind fun f => match f with
    | .nx => exs r
    | f => M.pure f
end
end
/-- a def: how many params, how many names, which params it may change, its body -/
structure Fn where
  np : Nat
  n : Nat
  outs : List Nat
  body : List S
instance : Inhabited Fn := ⟨⟨0, 0, [], []⟩⟩
def startR (n : Nat) (ds : List D) : Rho := ds.map some ++ List.replicate (n - ds.length) none
def outsOf (ρ : Rho) : Nat → List Nat → List D → List D
  | _, _, [] => []
  | j, os, d :: r => (if os.contains j then (ρ.getD j none).getD d else d) :: outsOf ρ (j + 1) os r
/-- the params that may be changed still stand -/
def outsOk (ρ : Rho) (os : List Nat) : Bool := os.all fun j => (ρ.getD j none).isSome
def runFn (Γ : Fns) (fn : Fn) (ds : List D) : Res (D × List D) :=
  if ds.length = fn.np then
    match exs Γ fn.body (startR fn.n ds) with
    | .ok (.ret d) ρ => if outsOk ρ fn.outs then .ok (d, outsOf ρ 0 fn.outs ds) [] else .stk
    | .ok .nx ρ => if outsOk ρ fn.outs then .ok (.non, outsOf ρ 0 fn.outs ds) [] else .stk
    | .ok _ _ => .stk
    | .exc x _ => .exc x []
    | .stk => .stk
  else .stk
/-- the defs, down so many levels of calls -/
def fns (T : List Fn) : Nat → Fns
  | 0 => fun _ _ => .stk
  | k + 1 => fun f ds => match T[f]? with
    | some fn => runFn (fns T k) fn ds
    | none => .stk
end MP

end
section
set_option Elab.async false
set_option linter.all false
set_option maxRecDepth 100000
/-! MP3: from the text to the small language. -/
namespace MP
open PySem PySem.Spec PyProof.Rows L2

inductive GK where
  | con (d : D) | fn (id : Nat)
structure FI where
  ps : List Str
  npos : Nat
  dfl : List (Option D)
  outs : List Nat
instance : Inhabited FI := ⟨⟨[], 0, [], []⟩⟩
structure Cc where
  N : List Str
  sc : Scope
  globs : List (Str × GK)
  fis : List FI
  bsc : Option Scope := none
def ixOf (x : Str) : List Str → Nat → Option Nat
  | [], _ => none
  | y :: r, n => if y = x then some n else ixOf x r (n + 1)
def visB (sc : Scope) (x : Str) : Bool := match sc.names.lookup x with
  | some .local => true
  | some .cell => true
  | some .free => true
  | _ => false
def locB (sc : Scope) (x : Str) : Bool := match sc.names.lookup x with
  | some .local => true
  | some .cell => true
  | _ => false
def globB (sc : Scope) (x : Str) : Bool := match sc.names.lookup x with
  | some .globalImplicit => true
  | _ => false
def badName (x : Str) : Bool := x == ("__debug__" : Str) || x == ("__classdict__" : Str) || x == ("__name__" : Str)
def slotOf (c : Cc) (x : Str) : Option Nat := if visB c.sc x && !badName x then ixOf x c.N 0 else none
def binO : Operator → Option Op
  | .Add => some .add
  | .Sub => some .sub
  | .Mult => some .mul
  | .FloorDiv => some .fdiv
  | .Mod => some .mod
  | .Pow => some .pow
  | _ => none
def cmpO : CmpOp → Option Op
  | .Eq => some .eq
  | .NotEq => some .ne
  | .Lt => some .lt
  | .LtE => some .le
  | .Gt => some .gt
  | .GtE => some .ge
  | .In => some .inn
  | .NotIn => some .nin
  | _ => none
def constD : Const → Option D
  | .none => some .non
  | .bool b => some (.bl b)
  | .int i => some (.int i)
  | .str s => some (.str s)
  | _ => none
def typeNo (x : Str) : Option Nat :=
  if x = ("int" : Str) then some 0 else if x = ("str" : Str) then some 1 else if x = ("bool" : Str) then some 2
  else if x = ("tuple" : Str) then some 3 else if x = ("list" : Str) then some 4 else if x = ("dict" : Str) then some 5 else none
def bltO (f : Str) (n : Nat) : Option Op :=
  if f = ("len" : Str) then (if n = 1 then some .len else none)
  else if f = ("min" : Str) then (if n = 1 ∨ n = 2 then some .min else none)
  else if f = ("max" : Str) then (if n = 1 ∨ n = 2 then some .max else none)
  else if f = ("abs" : Str) then (if n = 1 then some .abs else none)
  else if f = ("tuple" : Str) then (if n = 1 then some .tuple else none)
  else if f = ("list" : Str) then (if n = 1 then some .list else none)
  else if f = ("int" : Str) then (if n = 1 then some .int else none)
  else if f = ("repr" : Str) then (if n = 1 then some .repr else none)
  else if f = ("any" : Str) then (if n = 1 then some .any else none)
  else if f = ("all" : Str) then (if n = 1 then some .all else none)
  else none
def itO (f : Str) (n : Nat) : Option Op :=
  if f = ("range" : Str) then (if n = 1 ∨ n = 2 then some .range else none)
  else if f = ("zip" : Str) then (if n = 2 then some .zip else none)
  else if f = ("enumerate" : Str) then (if n = 1 then some .enum else none)
  else none
def mtdO (m : Str) (n : Nat) : Option MOp :=
  if m = ("append" : Str) then (if n = 1 then some .append else none)
  else if m = ("extend" : Str) then (if n = 1 then some .extend else none)
  else if m = ("pop" : Str) then (if n = 0 then some .popLast else if n = 1 then some .popAt else none)
  else if m = ("reverse" : Str) then (if n = 0 then some .reverse else none)
  else if m = ("clear" : Str) then (if n = 0 then some .clear else none)
  else if m = ("insert" : Str) then (if n = 2 then some .insert else none)
  else none
/-- where the values of the params come from: n positional ones, then the keywords ks, then defaults -/
def srcsOf (n : Nat) (ks : List Str) : Nat → List Str → List (Option D) → Option (List Src)
  | _, [], _ => some []
  | _, _ :: _, [] => none
  | j, p :: ps, d :: ds => (srcsOf n ks (j + 1) ps ds).bind fun r =>
      if j < n then some (.a j :: r) else match ixOf p ks 0 with
      | some i => some (.a (n + i) :: r)
      | none => match d with
        | some v => some (.d v :: r)
        | none => none
def allIn (ks ps : List Str) : Bool := ks.all fun k => ps.contains k
def noDup : List Str → Bool
  | [] => true
  | k :: r => !r.contains k && noDup r
/-- what a call lends: of each param that the callee may change the argument, a slot -/
def lendOf (es : List E) (srcs : List Src) : List Nat → Option (List (Nat × Nat × Nat))
  | [] => some []
  | j :: os => (lendOf es srcs os).bind fun r => match srcs[j]? with
    | some (.a k) => (match es[k]? with
      | some (.var i) => some ((j, k, i) :: r)
      | _ => none)
    | _ => none
def lendE (l : List (Nat × Nat × Nat)) (es : List E) : List E := l.foldl (fun es p => es.set p.2.1 (.ref p.2.2)) es
def lendS (l : List (Nat × Nat × Nat)) (ss : List Src) : List Src := l.foldl (fun ss p => ss.set p.1 (.s p.2.1 p.2.2)) ss
def callOk (fi : FI) (es : List E) (s0 s : List Src) : Bool := s.all (okSrc es) && okOuts fi.outs 0 s && decide (s.map Src.key = s0.map Src.key)
def ownIx (N : List Str) : List (Str × NameKind) → Option (List (Str × Nat))
  | [] => some []
  | (x, k) :: r => (ownIx N r).bind fun l => match k with
    | .local => (match ixOf x N 0 with
      | some i => some ((x, i) :: l)
      | none => some l)
    | .cell => (match ixOf x N 0 with
      | some i => some ((x, i) :: l)
      | none => some l)
    | _ => some l
def cellB (o : Option Scope) (x : Str) : Bool := match o with
  | none => true
  | some s => s.names.lookup x == some .cell
/-- a name that is stored to -/
def tgB (c : Cc) (x : Str) : Bool := match c.sc.names.lookup x with
  | some .local => true
  | some .cell => cellB c.bsc x
  | _ => false
mutual
def cT (c : Cc) : Expr → Option Tg
  | .Name x _ => if tgB c x && !badName x then (ixOf x c.N 0).map .nm else none
  | .Tuple es _ _ => (cTs c es).map .tp
  | _ => none
def cTs (c : Cc) : List Expr → Option (List Tg)
  | [] => some []
  | e :: r => (cT c e).bind fun t => (cTs c r).map (t :: ·)
end
def cName (c : Cc) (x : Str) : Option E := match slotOf c x with
  | some i => some (.var i)
  | none => if globB c.sc x && !badName x then (match c.globs.lookup x with
    | some (.con d) => some (.cst d)
    | _ => none) else none
def unE (o : UnaryOp) (x : E) : Option E := match o with
  | .USub => some (.op .neg [x])
  | .Not => some (.op .not [x])
  | _ => none
def boolE (o : BoolOp) : List E → Option E
  | [] => none
  | [a] => some a
  | a :: r => (boolE o r).map fun b => match o with
    | .And => .band a b
    | .Or => .bor a b
def cmpE (os : List CmpOp) (bs : List Expr) (x : E) (ys : List E) : Option E := match os, bs, ys with
  | [.Is], [.Constant .none _ _], [_] => some (.op .isN [x])
  | [.IsNot], [.Constant .none _ _], [_] => some (.op .notN [x])
  | [o], [_], [y] => (cmpO o).map fun o => .op o [x, y]
  | [o1, o2], [_, _], [y, z] => (cmpO o1).bind fun o1 => (cmpO o2).map fun o2 => .chn o1 o2 x y z
  | _, _, _ => none
/-- a name that the program does not bind, at the module or at all -/
def freeG (c : Cc) (x : Str) : Bool := globB c.sc x && !badName x && (c.globs.lookup x).isNone
def callE (c : Cc) (f : Str) (xs : List E) (zs : List (Str × E)) : Option E :=
  if globB c.sc f && !badName f then (match c.globs.lookup f with
    | some (.fn id) => (match c.fis[id]? with
      | some fi => if decide (xs.length ≤ fi.npos) && allIn (zs.map Prod.fst) (fi.ps.drop xs.length) && noDup (zs.map Prod.fst) then
          (srcsOf xs.length (zs.map Prod.fst) 0 fi.ps fi.dfl).bind fun srcs => (lendOf (xs ++ zs.map Prod.snd) srcs fi.outs).bind fun l =>
            if callOk fi (lendE l (xs ++ zs.map Prod.snd)) srcs (lendS l srcs) then some (.call id (lendE l (xs ++ zs.map Prod.snd)) (lendS l srcs)) else none else none
      | none => none)
    | some (.con _) => none
    | none => match zs with
      | [] => (bltO f xs.length).map fun o => .op o xs
      | _ => none) else none
def isiE (c : Cc) (t : Expr) (x : E) : Option E := match t with
  | .Name t _ => if freeG c t then (typeNo t).map fun n => .op (.isi [n]) [x] else none
  | .Tuple [.Name t _, .Name t2 _] _ _ => if freeG c t && freeG c t2 then (typeNo t).bind fun n => (typeNo t2).map fun n2 => .op (.isi [n, n2]) [x] else none
  | _ => none
/-- a subscript: of an index, of a slice (written itr sl [lo, hi]) -/
def subE (x i : E) : E := match i with
  | .itr .sl [l, h] => .op .sl [x, l, h]
  | y => .op .ix [x, y]
def isTup : Expr → Bool
  | .Tuple .. => true
  | _ => false
/-- m: 0 a value; 1 what is walked into a tuple of names, 2 into another target; 3 an index -/
def itM (m : Nat) (o : Op) : Bool := m == 1 || (m == 2 && o == .range)
mutual
def cE (c : Cc) (m : Nat) : Expr → Option E
  | .Constant k _ _ => (constD k).map .cst
  | .Name x _ => cName c x
  | .BinOp a o b _ => (cE c 0 a).bind fun x => (cE c 0 b).bind fun y => (binO o).map fun o => .op o [x, y]
  | .UnaryOp o a _ => (cE c 0 a).bind (unE o)
  | .BoolOp o es _ => (cEs c es).bind (boolE o)
  | .IfExp t a b _ => (cE c 0 t).bind fun t => (cE c 0 a).bind fun a => (cE c 0 b).map fun b => .ite t a b
  | .Compare a os bs _ => (cE c 0 a).bind fun x => (cEs c bs).bind (cmpE os bs x)
  | .Tuple es _ _ => (cEs c es).map .tup
  | .List es _ => (cEs c es).map .lst
  | .Subscript a s _ => (cE c 0 a).bind fun x => (cE c 3 s).map (subE x)
  | .Slice lo hi st _ => if m == 3 && st.isNone then (cO c lo).bind fun l => (cO c hi).map fun h => .itr .sl [l, h] else none
  | .Call f es ks cp => match f with
    | .Name f _ => if f = ("isinstance" : Str) then (match es with
        | [a, t] => if ks.isEmpty && freeG c f then (cE c 0 a).bind (isiE c t) else none
        | _ => none) else (cEs c es).bind fun xs => (cKs c ks).bind fun zs => match itO f es.length with
          | some o => if freeG c f && ks.isEmpty then (if itM m o then some (.itr o xs) else none) else callE c f xs zs
          | none => callE c f xs zs
    | .Attribute (.Name x _) mm ap => if ks.isEmpty && ap.endLine == cp.line && tgB c x then (slotOf c x).bind fun i => (cEs c es).bind fun xs => (mtdO mm xs.length).map fun o => .mtd o i xs else none
    | _ => none
  | .ListComp e gs sc _ => match gs with
    | [⟨t, it, ifs, 0⟩] =>
      (cE c (if isTup t then 1 else 2) it).bind fun it => (ownIx c.N sc.names).bind fun (own : List (Str × Nat)) => if blkC c.N c.sc sc own then
        (cT { c with sc := relS sc c.sc, bsc := some sc } t).bind fun t => (cEs { c with sc := relS sc c.sc, bsc := some sc } ifs).bind fun ks => (match ks with
          | [] => some (E.cst (.bl true))
          | [k] => some k
          | _ => none).bind fun k => (cE { c with sc := relS sc c.sc, bsc := some sc } 0 e).bind fun e => if (tgN t).all (fun j => (own.map Prod.snd).contains j) then some (.lc (own.map Prod.snd) t it k e) else none else none
    | _ => none
  | _ => none
def cEs (c : Cc) : List Expr → Option (List E)
  | [] => some []
  | e :: r => (cE c 0 e).bind fun x => (cEs c r).map (x :: ·)
def cO (c : Cc) : Option Expr → Option E
  | none => some (.cst .non)
  | some e => (cE c 0 e).map fun x => .op .part [x]
def cKs (c : Cc) : List Keyword → Option (List (Str × E))
  | [] => some []
  | ⟨some n, e, _⟩ :: r => (cE c 0 e).bind fun x => (cKs c r).map ((n, x) :: ·)
  | ⟨none, _, _⟩ :: _ => none
end
mutual
def cntV (i : Nat) : E → Nat
  | .var j => if i = j then 1 else 0
  | .mov j => if i = j then 1 else 0
  | .ref j => if i = j then 1 else 0
  | .cst _ => 0
  | .op _ es => cntVs i es
  | .band a b => cntV i a + cntV i b
  | .bor a b => cntV i a + cntV i b
  | .ite c a b => cntV i c + cntV i a + cntV i b
  | .chn _ _ a b c => cntV i a + cntV i b + cntV i c
  | .tup es => cntVs i es
  | .lst es => cntVs i es
  | .call _ es _ => cntVs i es
  | .mtd _ j es => (if i = j then 1 else 0) + cntVs i es
  | .lc _ _ a b c => cntV i a + 2 * cntV i b + 2 * cntV i c
  | .itr _ es => cntVs i es
def cntVs (i : Nat) : List E → Nat
  | [] => 0
  | e :: r => cntV i e + cntVs i r
end
def mvs (whole : List E) : List E → List E
  | [] => []
  | .var i :: r => (if cntVs i whole = 1 then .mov i else .var i) :: mvs whole r
  | e :: r => e :: mvs whole r
def isLc : Expr → Bool
  | .ListComp .. => true
  | _ => false
/-- whether the stores of a = b are swapped: some true, two names; some false, they are not -/
def isStar : Expr → Bool
  | .Starred .. => true
  | _ => false
def swTwo (sc : Scope) (x y : Str) (px py : Pos) (a b : Expr) : Bool :=
  (sc.names.lookup x == some .local) && (sc.names.lookup y == some .local) && (py.line == px.line) && (x != y) && !isStar a && !isStar b && !([a, b].all (foldedForSure 8)) && !([a, b].all (constantsAlone 8))
def swO (sc : Scope) (t e : Expr) : Option Bool := match t, e with
  | .Tuple ts _ _, .Tuple vs _ _ =>
    if !(ts.length == 2 || ts.length == 3) || vs.length != ts.length then some false
    else match ts, vs with
      | [.Name x px, .Name y py], [a, b] => if swTwo sc x y px py a b then some true else none
      | _, _ => none
  | .List .., _ => none
  | _, _ => some false
def retV (outs : List Nat) : E → E
  | .var i => if outs.contains i then .var i else .mov i
  | e => e
mutual
def cS (c : Cc) (outs : List Nat) : Stmt → Option S
  | .Expr e _ => if isLc e then none else (cE c 0 e).map .exp
  | .Assign [t] e _ => (match t with
    | .Subscript (.Name x _) k _ => if tgB c x then (slotOf c x).bind fun i => (cE c 0 k).bind fun k => (cE c 0 e).map fun e => .sti i k e else none
    | t => (swO c.sc t e).bind fun _ => (cT c t).bind fun t => (cE c 0 e).bind fun e => if (tgN t).all (fun j => !outs.contains j) then some (.asg t e) else none)
  | .If t a b _ => (cE c 0 t).bind fun t => (cSs c outs a).bind fun a => (cSs c outs b).map fun b => .ite t a b
  | .While t b [] _ => (cE c 0 t).bind fun t => (cSs c outs b).map fun b => .whl t b
  | .For t it b [] _ => (cT c t).bind fun tg => (cE c (if isTup t then 1 else 2) it).bind fun it => (cSs c outs b).bind fun b => if (tgN tg).all (fun j => !outs.contains j) then some (.for_ tg it b) else none
  | .Return (some e) _ => (match e with
    | .Tuple es _ _ => (cEs c es).map fun xs => .ret (.tup (mvs (xs ++ outs.map .var) xs))
    | e => (cE c 0 e).map fun x => .ret (retV outs x))
  | .Return none _ => some .retN
  | .Pass _ => some .pass
  | .Break _ => some .brk
  | .Continue _ => some .cnt
  | _ => none
def cSs (c : Cc) (outs : List Nat) : List Stmt → Option (List S)
  | [] => some []
  | s :: r => (cS c outs s).bind fun x => (cSs c outs r).map (x :: ·)
end
end MP

end
section
set_option Elab.async false
set_option linter.all false
set_option maxRecDepth 100000
/-! MP4: states, outcomes, what it takes that a reading holds. -/
namespace MP
open PySem PySem.Spec PyProof.Rows L2

abbrev US := Nat → AS
def Tot (Us : US) : AS := fun b => ∃ i, Us i b
def US.put (Us : US) (i : Nat) (U : AS) : US := fun j => if j = i then U else Us j
def none0 : AS := fun _ => False
theorem US.put_same (Us : US) (i : Nat) (U : AS) : Us.put i U i = U := by unfold US.put; rw [if_pos rfl]
theorem US.put_ne (Us : US) {i j : Nat} (U : AS) (h : j ≠ i) : Us.put i U j = Us j := by unfold US.put; rw [if_neg h]
structure Wf (K : PySem.W.Frag) (F H : Hp) (σ : L2.St) (ρ : Rho) (Us : US) : Prop where
  le : Le F H
  len : σ.length = ρ.length
  den : ∀ i d, ρ[i]? = some (some d) → ∃ v, σ[i]? = some (some v) ∧ Den K F H v d (Us i)
  emp : ∀ i, (∀ d, ρ[i]? ≠ some (some d)) → ∀ b, ¬ Us i b
  dj : ∀ i j b, Us i b → Us j b → i = j
  out : ∀ i b, Us i b → F b = none

section
variable {K : PySem.W.Frag} {F H F' H' F2 H2 : Hp} {σ σ' : L2.St} {ρ ρ' : Rho} {Us Us' : US} {v : V} {d : D} {U : AS} {i : Nat} {T T' : AS}
theorem Wf.known (w : Wf K F H σ ρ Us) {b : Addr} (t : Tot Us b) : ∃ o, H b = some o := by
  obtain ⟨i, u⟩ := t
  cases e : ρ[i]? with
  | none => exact absurd u (w.emp i (fun d q => by rw [e] at q; cases q) b)
  | some o =>
    cases o with
    | none => exact absurd u (w.emp i (fun d q => by rw [e] at q; cases q) b)
    | some d =>
      obtain ⟨v, _, h⟩ := w.den i d e
      exact h.known b u
theorem Wf.tout (w : Wf K F H σ ρ Us) {b : Addr} (t : Tot Us b) : F b = none := let ⟨i, u⟩ := t; w.out i b u
/-- a slot is set to a root -/
theorem Wf.set (w : Wf K F H σ ρ Us) (r : Root K F H (Tot Us) v d U) (hi : i < ρ.length) : Wf K F H (σ.set i (some v)) (ρ.set i (some d)) (Us.put i U) where
  le := w.le
  len := by rw [List.length_set, List.length_set, w.len]
  den := fun j e h => by
    by_cases hj : j = i
    · subst hj
      rw [List.getElem?_set_self hi] at h
      cases h
      rw [US.put_same]
      exact ⟨v, List.getElem?_set_self (by rw [w.len]; exact hi), r.den⟩
    · rw [List.getElem?_set_ne (Ne.symm hj)] at h
      rw [US.put_ne _ _ hj, List.getElem?_set_ne (Ne.symm hj)]
      exact w.den j e h
  emp := fun j h b => by
    by_cases hj : j = i
    · subst hj
      exact absurd (List.getElem?_set_self hi) (h d)
    · rw [US.put_ne _ _ hj]
      refine w.emp j (fun e q => h e ?_) b
      rw [List.getElem?_set_ne (Ne.symm hj)]
      exact q
  dj := fun j k b h1 h2 => by
    by_cases hj : j = i
    · subst hj
      rw [US.put_same] at h1
      by_cases hk : k = j
      · exact hk.symm
      · rw [US.put_ne _ _ hk] at h2
        exact absurd ⟨k, h2⟩ (r.dj b h1)
    · rw [US.put_ne _ _ hj] at h1
      by_cases hk : k = i
      · subst hk
        rw [US.put_same] at h2
        exact absurd ⟨j, h1⟩ (r.dj b h2)
      · rw [US.put_ne _ _ hk] at h2
        exact w.dj j k b h1 h2
  out := fun j b h => by
    by_cases hj : j = i
    · subst hj
      rw [US.put_same] at h
      exact r.out b h
    · rw [US.put_ne _ _ hj] at h
      exact w.out j b h
theorem tot_put {b : Addr} (t : Tot (Us.put i U) b) : Tot Us b ∨ U b := by
  obtain ⟨j, h⟩ := t
  by_cases hj : j = i
  · subst hj
    rw [US.put_same] at h
    exact .inr h
  · rw [US.put_ne _ _ hj] at h
    exact .inl ⟨j, h⟩
/-- a slot is forgotten -/
theorem Wf.drop (w : Wf K F H σ ρ Us) : Wf K F H σ (ρ.set i none) (Us.put i none0) where
  le := w.le
  len := by rw [List.length_set, w.len]
  den := fun j e h => by
    by_cases hj : j = i
    · subst hj
      by_cases hl : j < ρ.length
      · rw [List.getElem?_set_self hl] at h; cases h
      · rw [List.getElem?_eq_none (by simpa using hl)] at h; cases h
    · rw [List.getElem?_set_ne (Ne.symm hj)] at h
      rw [US.put_ne _ _ hj]
      exact w.den j e h
  emp := fun j h b => by
    by_cases hj : j = i
    · subst hj
      rw [US.put_same]
      exact fun z => z
    · rw [US.put_ne _ _ hj]
      refine w.emp j (fun e q => h e ?_) b
      rw [List.getElem?_set_ne (Ne.symm hj)]
      exact q
  dj := fun j k b h1 h2 => by
    by_cases hj : j = i
    · subst hj
      rw [US.put_same] at h1
      exact h1.elim
    · by_cases hk : k = i
      · subst hk
        rw [US.put_same] at h2
        exact h2.elim
      · rw [US.put_ne _ _ hj] at h1
        rw [US.put_ne _ _ hk] at h2
        exact w.dj j k b h1 h2
  out := fun j b h => by
    by_cases hj : j = i
    · subst hj
      rw [US.put_same] at h
      exact h.elim
    · rw [US.put_ne _ _ hj] at h
      exact w.out j b h
theorem tot_drop {b : Addr} (t : Tot (Us.put i none0) b) : Tot Us b := (tot_put t).elim id fun z => z.elim
/-- the slot's own part stands beside the rest -/
theorem Wf.root (w : Wf K F H σ ρ Us) (h : ρ[i]? = some (some d)) : ∃ v, σ[i]? = some (some v) ∧ Root K F H (Tot (Us.put i none0)) v d (Us i) := by
  obtain ⟨v, e, den⟩ := w.den i d h
  refine ⟨v, e, den, fun b u t => ?_, w.out i⟩
  obtain ⟨j, t⟩ := t
  by_cases hj : j = i
  · subst hj
    rw [US.put_same] at t
    exact t
  · rw [US.put_ne _ _ hj] at t
    exact hj (w.dj j i b t u)
/-- a slot and all that it owns is frozen -/
theorem Wf.freeze (w : Wf K F H σ ρ Us) (h : ρ[i]? = some (some d)) : ∃ F', Wf K F' H σ (ρ.set i (some d.frz)) (Us.put i none0) ∧ Evo F H (Tot Us) F' H (Tot (Us.put i none0)) ∧ (∀ b, Us i b → F' b = H b) := by
  classical
  have hi : i < ρ.length := (List.getElem?_eq_some_iff.mp h).1
  let F' : Hp := fun b => if Us i b then H b else F b
  have fin : ∀ b, Us i b → F' b = H b := fun b u => if_pos u
  have fout : ∀ b, ¬ Us i b → F' b = F b := fun b u => if_neg u
  have hF : Same F F' := fun b o e => by
    by_cases u : Us i b
    · rw [w.out i b u] at e; cases e
    · rw [fout b u]; exact e
  refine ⟨F', ⟨fun a u r => ?_, by rw [List.length_set, w.len], fun j e q => ?_, fun j q b => ?_, fun j k b h1 h2 => ?_, fun j b u => ?_⟩, ⟨hF, fun a o e _ => e, fun a t => .inl (tot_drop t), fun a n q => ?_⟩, fin⟩
  · by_cases z : Us i a
    · rw [fin a z] at r
      exact .inl r
    · rw [fout a z] at r
      exact w.le a u r
  · by_cases hj : j = i
    · subst hj
      rw [List.getElem?_set_self hi] at q
      cases q
      obtain ⟨v, e1, den⟩ := w.den j d h
      rw [US.put_same]
      exact ⟨v, e1, den.freeze hF fin fun b z => z⟩
    · rw [List.getElem?_set_ne (Ne.symm hj)] at q
      obtain ⟨v, e1, den⟩ := w.den j e q
      rw [US.put_ne _ _ hj]
      exact ⟨v, e1, den.keep hF fun b o _ z => z⟩
  · by_cases hj : j = i
    · subst hj
      rw [US.put_same]
      exact fun z => z
    · rw [US.put_ne _ _ hj]
      refine w.emp j (fun e z => q e ?_) b
      rw [List.getElem?_set_ne (Ne.symm hj)]
      exact z
  · by_cases hj : j = i
    · subst hj; rw [US.put_same] at h1; exact h1.elim
    · by_cases hk : k = i
      · subst hk; rw [US.put_same] at h2; exact h2.elim
      · rw [US.put_ne _ _ hj] at h1
        rw [US.put_ne _ _ hk] at h2
        exact w.dj j k b h1 h2
  · by_cases hj : j = i
    · subst hj; rw [US.put_same] at u; exact u.elim
    · rw [US.put_ne _ _ hj] at u
      rw [fout b fun z => hj (w.dj j i b u z)]
      exact w.out j b u
  · by_cases z : Us i a
    · exact .inl ⟨i, z⟩
    · rw [fout a z] at q
      exact absurd n q
/-- the heaps grow: all else stays -/
structure Grow (F H F' H' : Hp) : Prop where
  f : Same F F'
  h : Same H H'
  le : Le F' H'
  new : ∀ b, F b = none → F' b ≠ none → H b = none
theorem Grow.refl (h : Le F H) : Grow F H F H := ⟨Same.refl _, Same.refl _, h, fun b n q => absurd n q⟩
theorem Grow.trans (a : Grow F H F' H') (b : Grow F' H' F2 H2) : Grow F H F2 H2 := ⟨a.f.trans b.f, a.h.trans b.h, b.le, fun c n q => by
  cases e : F' c with
  | some o => exact a.new c n (by rw [e]; exact fun z => by cases z)
  | none => exact a.h.free (b.new c e q)⟩
theorem Grow.evo (g : Grow F H F' H') : Evo F H T F' H' T := ⟨g.f, fun a o e _ => g.h a o e, fun a t => .inl t, fun a n q => .inr (g.new a n q)⟩
theorem Grow.evo_new (g : Grow F H F' H') {U : AS} (hU : ∀ b, U b → H b = none) : Evo F H T F' H' (fun b => T b ∨ U b) := ⟨g.f, fun a o e _ => g.h a o e, fun a t => t.imp id (hU a), fun a n q => .inr (g.new a n q)⟩
theorem Wf.grow (w : Wf K F H σ ρ Us) (g : Grow F H F' H') : Wf K F' H' σ ρ Us where
  le := g.le
  len := w.len
  den := fun i d h => let ⟨v, e, den⟩ := w.den i d h; ⟨v, e, den.keep g.f fun b o _ z => g.h b o z⟩
  emp := w.emp
  dj := w.dj
  out := fun i b u => by
    cases q : F' b with
    | none => rfl
    | some o =>
      obtain ⟨o', z⟩ := w.known ⟨i, u⟩
      rw [g.new b (w.out i b u) (by rw [q]; exact fun z => by cases z)] at z
      cases z
theorem Grow.lst {p : Addr} {o : HO} (h : Le F H) (hp : H p = none) : Grow F H F (upd H p o) := ⟨Same.refl _, fun b u e => by rw [upd_ne (ne_of_none e hp)]; exact e, h.trans (same_le fun b u e => by rw [upd_ne (ne_of_none e hp)]; exact e), fun b n q => absurd n q⟩
theorem le_none {p : Addr} (h : Le F H) (hp : H p = none) : F p = none := by
  cases e : F p with
  | none => rfl
  | some u =>
    rcases h p u e with z | ⟨_, o, z⟩
    · rw [hp] at z; cases z
    · rw [hp] at z; cases z
theorem Grow.tup {p : Addr} {o : HO} (h : Le F H) (hp : H p = none) : Grow F H (upd F p o) (upd H p o) := by
  have fp := le_none h hp
  have hH : Same H (upd H p o) := fun b u e => by rw [upd_ne (ne_of_none e hp)]; exact e
  refine ⟨fun b u e => by rw [upd_ne (ne_of_none e fp)]; exact e, hH, fun a u r => ?_, fun b n q => ?_⟩
  · by_cases z : a = p
    · subst z
      rw [upd_same] at r ⊢
      exact .inl r
    · rw [upd_ne z] at r
      rw [upd_ne z]
      exact h a u r
  · by_cases z : b = p
    · subst z; exact hp
    · rw [upd_ne z] at q
      exact absurd n q
/-- a new tuple -/
theorem Root.tup {T : AS} {p : Addr} {vs : List V} {ds : List D} (l : DenL K F H vs ds U) (dj : ∀ b, U b → ¬ T b) (out : ∀ b, U b → F b = none) (le : Le F H) (hp : H p = none) : Root K (upd F p (.tup vs)) (upd H p (.tup vs)) T (.ref p) (.tup ds) U := by
  have g : Grow F H (upd F p (.tup vs)) (upd H p (.tup vs)) := Grow.tup le hp
  refine ⟨.tup (.inl (.inl upd_same)) (l.keep g.f fun b o _ z => g.h b o z), dj, fun b u => ?_⟩
  obtain ⟨o, z⟩ := l.known b u
  rw [upd_ne (ne_of_none z hp)]
  exact out b u
/-- a new list -/
theorem Root.lst {T : AS} {p : Addr} {vs : List V} {ds : List D} (l : DenL K F H vs ds U) (dj : ∀ b, U b → ¬ T b) (out : ∀ b, U b → F b = none) (le : Le F H) (hp : H p = none) (hT : ∀ b, T b → ∃ o, H b = some o) : Root K F (upd H p (.lst vs)) T (.ref p) (.lst true ds) (fun b => b = p ∨ U b) := by
  have g : Grow F H F (upd H p (.lst vs)) := Grow.lst le hp
  refine ⟨.lstU upd_same (l.keep g.f fun b o _ z => g.h b o z) (fun u => ?_) fun b => Iff.rfl, fun b u t => ?_, fun b u => ?_⟩
  · obtain ⟨o, z⟩ := l.known p u
    rw [hp] at z; cases z
  · rcases u with u | u
    · subst u
      obtain ⟨o, z⟩ := hT b t
      rw [hp] at z; cases z
    · exact dj b u t
  · rcases u with u | u
    · subst u; exact le_none le hp
    · exact out b u
end

theorem bind_ok {α β : Type} {m : M α} {f : α → M β} {ρ ρ1 : Rho} {a : α} (h : m ρ = .ok a ρ1) : (m.bind f) ρ = f a ρ1 := by unfold M.bind; rw [h]
theorem bind_exc {α β : Type} {m : M α} {f : α → M β} {ρ ρ1 : Rho} {x : XV} (h : m ρ = .exc x ρ1) : (m.bind f) ρ = .exc x ρ1 := by unfold M.bind; rw [h]
theorem bind_stk {α β : Type} {m : M α} {f : α → M β} {ρ : Rho} (h : m ρ = .stk) : (m.bind f) ρ = .stk := by unfold M.bind; rw [h]
theorem pure_ok {α : Type} {a : α} {ρ : Rho} : (M.pure a) ρ = .ok a ρ := rfl
theorem lift_some {α : Type} {a : α} {ρ : Rho} : (M.lift (some a)) ρ = .ok a ρ := rfl
theorem lift_none {α : Type} {ρ : Rho} : (M.lift (none : Option α)) ρ = .stk := rfl
/-! ### outcomes -/
/-- the class of an exception, by its number -/
abbrev Cls := Nat → Addr
def XDen (K : PySem.W.Frag) (cl : Cls) (F H : Hp) (C : Value) (a : Option Addr) (x : XV) : Prop :=
  C = .ref (cl x.c) ∧ ∃ p fs, a = some p ∧ H p = some (.xd fs) ∧ ∀ f d, x.fs.lookup f = some d → ∃ v, fs.lookup f = some v ∧ ∃ U, Den K F H v d U ∧ ∀ b, ¬ U b
/-- the static side: the defs' addresses and so on come later -/
structure Ct where
  K : PySem.W.Frag
  cl : Cls
  xc : L2.St → XK
section
variable (Y : Ct)
def Out {α β : Type} (σ : L2.St) (F H : Hp) (Us : US) (q : Bool) (R : Hp → Hp → US → α → β → AS → Prop) (r : Res α) (Q : β → Hp → Prop) : Prop := match r with
  | .ok a ρ' => ∀ b F' H' Us' U, Wf Y.K F' H' σ ρ' Us' → R F' H' Us' a b U → Evo F H (Tot Us) F' H' (fun x => Tot Us' x ∨ U x) → (q = true → Same H H' ∧ Us' = Us) → Q b H'
  | .exc x ρ' => ∀ C a F' H' Us', Wf Y.K F' H' σ ρ' Us' → XDen Y.K Y.cl F' H' C a x → Evo F H (Tot Us) F' H' (Tot Us') → Y.xc σ C a H'
  | .stk => False
/-- value mode -/
def RV (e : E) (F' H' : Hp) (Us' : US) (d : D) (v : V) (U : AS) : Prop := Root Y.K F' H' (Tot Us') v d U ∧ (rootOf e ≠ none → ∀ b, ¬ U b)
/-- operand mode -/
def RB (e : E) (F' H' : Hp) (Us' : US) (d : D) (v : V) (U : AS) : Prop := match rootOf e with
  | none => Root Y.K F' H' (Tot Us') v d U
  | some i => (∀ b, ¬ U b) ∧ ∃ U0, Den Y.K F' H' v d U0 ∧ ∀ b, U0 b → Us' i b
def tM {α β : Type} (q : Bool) (R : Hp → Hp → US → α → β → AS → Prop) (m : M α) : L2.St → Hp → (β → Hp → Prop) → Prop :=
  fun σ H Q => ∃ F ρ Us, Wf Y.K F H σ ρ Us ∧ Out Y σ F H Us q R (m ρ) Q
end
section
variable {Y : Ct} {α β α' β' : Type} {σ : L2.St} {F H : Hp} {q q1 q2 : Bool} {R : Hp → Hp → US → α → β → AS → Prop} {R' : Hp → Hp → US → α' → β' → AS → Prop} {ρ : Rho} {Us : US}
theorem out_exc {x : XV} {ρ' : Rho} {Q : β → Hp → Prop} {Q' : β' → Hp → Prop} {F1 H1 : Hp} {Us1 : US} (h : Out Y σ F H Us q R (.exc x ρ' : Res α) Q) (e : Evo F H (Tot Us) F1 H1 (Tot Us1)) : Out Y σ F1 H1 Us1 q2 R' (.exc x ρ' : Res α') Q' :=
  fun C a F' H' Us' w xd ev => h C a F' H' Us' w xd (e.trans ev)
/-- one evaluation behind another, of which the first is under way at F1, H1, Us1 -/
theorem out_bind {m : M α'} {f : α' → M α} {Q : β → Hp → Prop} {Q' : β' → Hp → Prop} {F1 H1 : Hp} {Us1 : US} (h : Out Y σ F H Us q R ((m.bind f) ρ) Q) (e : Evo F H (Tot Us) F1 H1 (Tot Us1))
    (k : ∀ a ρ1, m ρ = .ok a ρ1 → Out Y σ F H Us q R (f a ρ1) Q → Out Y σ F1 H1 Us1 q2 R' (.ok a ρ1) Q') : Out Y σ F1 H1 Us1 q2 R' (m ρ) Q' := by
  cases r : m ρ with
  | stk => rw [bind_stk r] at h; exact h
  | exc x ρ1 => rw [bind_exc r] at h; exact out_exc h e
  | ok a ρ1 => rw [bind_ok r] at h; exact k a ρ1 r h
end
end MP

end
section
set_option Elab.async false
set_option linter.all false
set_option maxRecDepth 100000
/-! MP5: readings of operands and values. -/
namespace MP
open PySem PySem.Spec PyProof.Rows L2

theorem PE.imp {X : Cx} {e : Expr} {t t' : TE} (h : PE X e t) (i : ∀ σ H Q, t' σ H Q → t σ H Q) : PE X e t' := ⟨fun pins s σ H Q I hq => h.run pins s σ H Q I (i σ H Q hq)⟩
theorem PT.imp {X : Cx} {e : Expr} {t t' : TT} (h : PT X e t) (i : ∀ σ H Q, t' σ H Q → t σ H Q) : PT X e t' := ⟨fun pins s σ H Q I hq => h.run pins s σ H Q I (i σ H Q hq)⟩
theorem PW.imp {X : Cx} {e : Expr} {t t' : TT} (h : PW X e t) (i : ∀ σ H Q, t' σ H Q → t σ H Q) : PW X e t' := ⟨fun w pins s σ H Q I hq => h.run w pins s σ H Q I (i σ H Q hq)⟩
theorem PS.imp {X : Cx} {e : Stmt} {t t' : TS} (h : PS X e t) (i : ∀ D σ H, t' D σ H → t D σ H) : PS X e t' := ⟨fun pins s σ H D I hq => h.run pins s σ H D I (i D σ H hq)⟩
theorem PSs.imp {X : Cx} {e : List Stmt} {t t' : TS} (h : PSs X e t) (i : ∀ D σ H, t' D σ H → t D σ H) : PSs X e t' := ⟨fun pins s σ H D I hq => h.run pins s σ H D I (i D σ H hq)⟩
theorem PA.imp {X : Cx} {e : List Expr} {t t' : TA} (h : PA X e t) (i : ∀ σ H Q, t' σ H Q → t σ H Q) : PA X e t' := ⟨fun pos pins s σ H Q I hq => h.run pos pins s σ H Q I (i σ H Q hq)⟩

/-- no ownership: each value denotes its datum -/
inductive DenB (K : PySem.W.Frag) (F H : Hp) : List V → List D → Prop
  | nil : DenB K F H [] []
  | cons {v : V} {d : D} {vs : List V} {ds : List D} {U : AS} (h : Den K F H v d U) (r : DenB K F H vs ds) : DenB K F H (v :: vs) (d :: ds)
theorem DenB.keep {K : PySem.W.Frag} {F H F' H' : Hp} (hF : Same F F') (hH : Same H H') : ∀ {vs : List V} {ds : List D}, DenB K F H vs ds → DenB K F' H' vs ds
  | _, _, .nil => .nil
  | _, _, .cons h r => .cons (h.keep hF fun b o _ z => hH b o z) (DenB.keep hF hH r)

section
variable (Y : Ct) (Γ : Fns)
def tE (e : E) : TE := tM Y (quiet e) (RB Y e) (evB Γ e)
def tV (e : E) : TE := tM Y false (RV Y e) (evV Γ e)
def tOpd (q : Bool) (e : E) : TE := if q then tE Y Γ e else tV Y Γ e
def RO (F' H' : Hp) (Us' : US) (ds : List D) (vs : List V) (U : AS) : Prop := (∀ b, ¬ U b) ∧ DenB Y.K F' H' vs ds
def tO (es : List E) : TA := tM Y (quietAll es) (RO Y) (evOs Γ es)
def tOs : List E → TA
  | [] => tNil
  | e :: es => tCons (tOpd Y Γ (quietAll es) e) (tOs es)
/-- what the new is: a datum made, the heaps grown -/
def New (K : PySem.W.Frag) (F H : Hp) (d : D) (Q : VK) : Prop := ∀ v F' H' U, Grow F H F' H' → Den K F' H' v d U → (∀ b, U b → H b = none) → (∀ b, U b → F' b = none) → Q v H'
/-- a pure operation on operands -/
def rOp (K : PySem.W.Frag) (o : Op) : List V → Hp → VK → Prop := fun vs H Q => ∃ F ds d, Le F H ∧ DenB K F H vs ds ∧ opSem o ds = some d ∧ New K F H d Q
end

section
variable {X : Cx} {Y : Ct} {Γ : Fns} {e : E} {es : List E} {σ : L2.St} {H : Hp}
theorem v_of_e {Q : VK} (h : tV Y Γ e σ H Q) : tE Y Γ e σ H Q := by
  obtain ⟨F, ρ, Us, w, h⟩ := h
  unfold evV at h
  refine ⟨F, ρ, Us, w, out_bind h Evo.refl fun d ρ1 r h => ?_⟩
  intro v F' H' Us' U w' rb ev qs
  unfold takeP at h
  unfold RB at rb
  cases ro : rootOf e with
  | none =>
    rw [ro] at h rb
    exact h v F' H' Us' U w' ⟨rb, fun z => absurd ro z⟩ ev fun z => by cases z
  | some i =>
    rw [ro] at h rb
    obtain ⟨hU, U0, den, sub⟩ := rb
    have ev0 : Evo F H (Tot Us) F' H' (Tot Us') := ev.weak fun b t => .inl t
    by_cases fz : d.isFrz = true
    · simp only [if_pos fz, pure_ok] at h
      refine h v F' H' Us' none0 w' ⟨⟨den.iff fun b => ⟨fun u => den.frz_none fz b u, fun u => u.elim⟩, fun b u => u.elim, fun b u => u.elim⟩, fun _ _ z => z⟩ (ev0.weak fun b t => t.elim id fun z => z.elim) fun z => by cases z
    · simp only [if_neg fz] at h
      cases q : ρ1[i]? with
      | none => rw [q] at h; exact h.elim
      | some o =>
        cases o with
        | none => rw [q] at h; exact h.elim
        | some r0 =>
          rw [q] at h
          obtain ⟨F2, w2, ev2, fin⟩ := w'.freeze q
          refine h v F2 H' _ none0 w2 ⟨⟨den.freeze ev2.fle (fun b u => fin b (sub b u)) fun b z => z, fun b u => u.elim, fun b u => u.elim⟩, fun _ _ z => z⟩ ((ev0.trans ev2).weak fun b t => t.elim id fun z => z.elim) fun z => by cases z
theorem pe_v {a : Expr} (h : PE X a (tE Y Γ e)) : PE X a (tV Y Γ e) := PE.imp h fun _ _ _ => v_of_e
theorem pe_opd {a : Expr} (q : Bool) (h : PE X a (tE Y Γ e)) : PE X a (tOpd Y Γ q e) := by
  cases q
  · exact pe_v h
  · exact h
theorem evo_res {T : AS} {F H F' H' : Hp} {Us' : US} {U : AS} (ev : Evo F H T F' H' (fun x => Tot Us' x ∨ U x)) : Evo F H T F' H' (Tot Us') := ev.weak fun b t => .inl t
theorem evo_no {T : AS} {F H F' H' : Hp} {Us' : US} {U : AS} (ev : Evo F H T F' H' (Tot Us')) (h : ∀ b, ¬ U b) : Evo F H T F' H' (fun x => Tot Us' x ∨ U x) := ev.weak fun b t => t.elim id fun z => absurd z (h b)
theorem no0 : ∀ b, ¬ none0 b := fun _ z => z
theorem rb_den {F H : Hp} {Us : US} {d : D} {v : V} {U : AS} (rb : RB Y e F H Us d v U) : ∃ U, Den Y.K F H v d U := by
  unfold RB at rb
  cases ro : rootOf e with
  | none => rw [ro] at rb; exact ⟨_, rb.den⟩
  | some i => rw [ro] at rb; obtain ⟨_, U0, den, _⟩ := rb; exact ⟨U0, den⟩
theorem os_ok : ∀ (es : List E) (σ : L2.St) (H : Hp) (Q : List V → Hp → Prop), tO Y Γ es σ H Q → tOs Y Γ es σ H Q
  | [], σ, H, Q, ⟨F, ρ, Us, w, h⟩ => by
    have e : evOs Γ [] ρ = .ok [] ρ := by unfold evOs; rfl
    rw [e] at h
    exact h [] F H Us none0 w ⟨fun b z => z, .nil⟩ (evo_no Evo.refl no0) fun _ => ⟨Same.refl _, rfl⟩
  | e :: es, σ, H, Q, ⟨F, ρ, Us, w, h⟩ => by
    have eo : evOs Γ (e :: es) = (evB Γ e).bind fun x => (if quietAll es then M.pure x else takeP e x).bind fun x => (evOs Γ es).bind fun ds => M.pure (x :: ds) := by
      rw [evOs]
    rw [eo] at h
    show tOpd Y Γ (quietAll es) e σ H fun x H1 => tOs Y Γ es σ H1 fun xs H2 => Q (x :: xs) H2
    cases qa : quietAll es with
    | true =>
      show tE Y Γ e σ H _
      refine ⟨F, ρ, Us, w, out_bind h Evo.refl fun d ρ1 r h => ?_⟩
      rw [qa, if_pos rfl, bind_ok pure_ok] at h
      intro v F1 H1 Us1 U1 w1 rb ev qs
      obtain ⟨U0, den⟩ := rb_den rb
      refine os_ok es σ H1 _ ⟨F1, ρ1, Us1, w1, out_bind h (evo_res ev) fun ds ρ2 r2 h => ?_⟩
      intro vs F2 H2 Us2 U2 w2 ro ev2 qs2
      obtain ⟨s2, e2⟩ := qs2 qa
      refine h (v :: vs) F2 H2 Us2 U2 w2 ⟨ro.1, .cons (den.keep ev2.fle fun b o _ z => s2 b o z) ro.2⟩ ((evo_res ev).trans ev2) fun qq => ?_
      have qe : quiet e = true := by
        unfold quietAll at qq
        exact (Bool.and_eq_true_iff.mp qq).1
      obtain ⟨s1, e1⟩ := qs qe
      exact ⟨s1.trans s2, e2.trans e1⟩
    | false =>
      show tV Y Γ e σ H _
      have eb : (evB Γ e).bind (fun x => (if quietAll es then M.pure x else takeP e x).bind fun x => (evOs Γ es).bind fun ds => M.pure (x :: ds)) = (evV Γ e).bind fun x => (evOs Γ es).bind fun ds => M.pure (x :: ds) := by
        funext ρ
        unfold evV
        cases r : evB Γ e ρ with
        | stk => rw [bind_stk r, bind_stk (bind_stk r)]
        | exc x ρ1 => rw [bind_exc r, bind_exc (bind_exc r)]
        | ok d ρ1 =>
          rw [bind_ok r, qa, if_neg Bool.false_ne_true]
          cases r2 : takeP e d ρ1 with
          | stk => rw [bind_stk r2, bind_stk ((bind_ok r).trans r2)]
          | exc x ρ2 => rw [bind_exc r2, bind_exc ((bind_ok r).trans r2)]
          | ok d2 ρ2 => rw [bind_ok r2, bind_ok ((bind_ok r).trans r2)]
      rw [eb] at h
      refine ⟨F, ρ, Us, w, out_bind h Evo.refl fun d ρ1 r h => ?_⟩
      intro v F1 H1 Us1 U1 w1 rv ev qs
      refine os_ok es σ H1 _ ⟨F1, ρ1, Us1, w1, out_bind h (evo_res ev) fun ds ρ2 r2 h => ?_⟩
      intro vs F2 H2 Us2 U2 w2 ro ev2 qs2
      have rv2 : Root Y.K F1 H1 (Tot Us1) v d U1 := rv.1
      refine h (v :: vs) F2 H2 Us2 U2 w2 ⟨ro.1, .cons (rv2.keep ev2).den ro.2⟩ ((evo_res ev).trans ev2) fun qq => ?_
      have : quietAll es = true := by
        unfold quietAll at qq
        exact (Bool.and_eq_true_iff.mp qq).2
      rw [qa] at this
      cases this
theorem rootOf_op {o : Op} (h : o ≠ .ix) : rootOf (.op o es) = none := by
  unfold rootOf
  split
  · rename_i q; cases q
  · rename_i q; cases q; exact absurd rfl h
  · rfl
/-- a pure operation: its reading from that of its operands -/
theorem op_ok {o : Op} (ho : o ≠ .ix) {Q : VK} {R : List V → Hp → Prop} (h : tE Y Γ (.op o es) σ H Q) (imp : ∀ vs H', rOp Y.K o vs H' Q → R vs H') : tOs Y Γ es σ H R := by
  obtain ⟨F, ρ, Us, w, h⟩ := h
  refine os_ok es σ H _ ⟨F, ρ, Us, w, ?_⟩
  have eo : evB Γ (.op o es) = (evOs Γ es).bind fun ds => M.lift (opSem o ds) := by
    rw [evB]
  rw [eo] at h
  refine out_bind h Evo.refl fun ds ρ1 r h => ?_
  intro vs F1 H1 Us1 U1 w1 ro ev qs
  cases s : opSem o ds with
  | none => rw [s] at h; exact h.elim
  | some d =>
    rw [s] at h
    refine imp vs H1 ⟨F1, ds, d, w1.le, ro.2, s, fun v F2 H2 U g den hf hF => ?_⟩
    refine h v F2 H2 Us1 U (w1.grow g) ?_ ((evo_res ev).trans (g.evo_new hf)) fun qq => ?_
    · unfold RB
      rw [rootOf_op ho]
      refine ⟨den, fun b u t => ?_, hF⟩
      obtain ⟨o', z⟩ := w1.known t
      rw [hf b u] at z
      cases z
    · obtain ⟨s1, e1⟩ := qs (by unfold quiet at qq; exact qq)
      exact ⟨s1.trans g.h, e1⟩
end
end MP

end
section
set_option Elab.async false
set_option linter.all false
set_option maxRecDepth 100000
/-! MP6: the pure operations, one by one. -/
namespace MP
open PySem PySem.Spec PyProof.Rows L2

section
variable {K : PySem.W.Frag} {F H : Hp} {v : V} {U : AS} {Q : VK}
theorem New.int {i : Int} (k : New K F H (.int i) Q) (le : Le F H) : Q (.int i) H := k _ F H none0 (Grow.refl le) (.int fun _ z => z) (fun _ z => z.elim) (fun _ z => z.elim)
theorem New.bl {b : Bool} (k : New K F H (.bl b) Q) (le : Le F H) : Q (.bl b) H := k _ F H none0 (Grow.refl le) (.bl fun _ z => z) (fun _ z => z.elim) (fun _ z => z.elim)
theorem New.str {x : Str} (k : New K F H (.str x) Q) (le : Le F H) : Q (.str x) H := k _ F H none0 (Grow.refl le) (.str fun _ z => z) (fun _ z => z.elim) (fun _ z => z.elim)
theorem New.old {d : D} (k : New K F H d Q) (le : Le F H) (h : Den K F H v d U) (e : ∀ b, ¬ U b) : Q v H := k v F H U (Grow.refl le) h (fun b z => absurd z (e b)) (fun b z => absurd z (e b))
theorem New.tup {vs : List V} {ds : List D} (k : New K F H (.tup ds) Q) (le : Le F H) (l : DenL K F H vs ds none0) : ∀ p, H p = none → Q (.ref p) (upd H p (.tup vs)) := fun p hp =>
  let r := Root.tup (T := none0) l (fun _ z => z.elim) (fun _ z => z.elim) le hp
  k _ _ _ none0 (Grow.tup le hp) r.den (fun _ z => z.elim) (fun _ z => z.elim)
theorem New.lst {vs : List V} {ds : List D} (k : New K F H (.lst true ds) Q) (le : Le F H) (l : DenL K F H vs ds none0) : ∀ p, H p = none → Q (.ref p) (upd H p (.lst vs)) := fun p hp =>
  let r := Root.lst (T := none0) l (fun _ z => z.elim) (fun _ z => z.elim) le hp (fun _ z => z.elim)
  k _ _ _ _ (Grow.lst le hp) r.den (fun b z => z.elim (fun e => by rw [e]; exact hp) fun z => z.elim) r.out
theorem DenL.none {vs : List V} {ds : List D} (l : DenL K F H vs ds U) (f : frzAll ds = true) : DenL K F H vs ds none0 := l.iff fun b => ⟨fun u => l.frz_none f b u, fun z => z.elim⟩
theorem den_lst {u : Bool} {ds : List D} (le : Le F H) (h : Den K F H v (.lst u ds) U) : ∃ a vs U1, v = .ref a ∧ H a = some (.lst vs) ∧ DenL K F H vs ds U1 ∧ ∀ b, U1 b → U b := by
  cases h with
  | lstF h l e => exact ⟨_, _, _, rfl, le.lst h, l, fun _ z => z⟩
  | lstU h l n e => exact ⟨_, _, _, rfl, h, l, fun b z => (e b).mpr (.inr z)⟩
theorem den_tup {ds : List D} (le : Le F H) (h : Den K F H v (.tup ds) U) : ∃ a vs, v = .ref a ∧ SqT K H a vs ∧ DenL K F H vs ds U := by
  cases h with
  | tup h l => exact ⟨_, _, rfl, le.t h, l⟩
theorem sq_l {a : Addr} {vs : List V} (h : H a = some (.lst vs)) : SqL K H a vs := .inl (.inl h)
theorem denl_nil {vs : List V} {ds : List D} (l : DenL K F H vs ds U) : vs = [] ↔ ds = [] := by
  have := l.length
  constructor
  · intro e; subst e; cases ds with
    | nil => rfl
    | cons _ _ => simp at this
  · intro e; subst e; cases vs with
    | nil => rfl
    | cons _ _ => simp at this
mutual
theorem Den.dp (le : Le F H) : ∀ {v : V} {d : D} {U : AS}, Den K F H v d U → d.flat = true → Dp K H v d.py
  | _, _, _, .non _, _ => .non
  | _, _, _, .bl _, _ => .bl _
  | _, _, _, .int _, _ => .int _
  | _, _, _, .str _, _ => .str _
  | _, _, _, .tup h l, f => by
    unfold D.py
    exact .tup (le.t h) (DenL.dp le l (by simpa [D.flat] using f))
  | _, _, _, .lstF h l _, f => by
    unfold D.py
    exact .lst (sq_l (le.lst h)) (DenL.dp le l (by simpa [D.flat] using f))
  | _, _, _, .lstU h l _ _, f => by
    unfold D.py
    exact .lst (sq_l h) (DenL.dp le l (by simpa [D.flat] using f))
  | _, _, _, .scr _ _, f => by simp [D.flat] at f
  | _, _, _, .dKF _ _ _ _, f => by simp [D.flat] at f
  | _, _, _, .dKU _ _ _ _ _, f => by simp [D.flat] at f
  | _, _, _, .dTF _ _ _ _, f => by simp [D.flat] at f
  | _, _, _, .dTU _ _ _ _ _, f => by simp [D.flat] at f
theorem DenL.dp (le : Le F H) : ∀ {vs : List V} {ds : List D} {U : AS}, DenL K F H vs ds U → flatAll ds = true → DpAll K H vs (pyAll ds)
  | _, _, _, .nil _, _ => by unfold pyAll; exact .nil
  | _, _, _, .cons h l _ _, f => by
    unfold pyAll
    simp only [flatAll, Bool.and_eq_true] at f
    exact .cons (Den.dp le h f.1) (DenL.dp le l f.2)
end
/-- scalars -/
theorem scal_flat {d : D} (h : Den K F H v d U) (s : d.isScal = true) : flatV v = true := by
  cases h <;> first
    | rfl
    | (simp [D.isScal] at s)
theorem scal_eq {d e : D} {x y : V} {W : AS} (h : Den K F H x d U) (k : Den K F H y e W) (s : d.isScal = true) (t : e.isScal = true) : eqV x y = PyData.eqv d.py e.py := by
  cases h <;> first
    | (simp [D.isScal] at s; done)
    | (cases k <;> first
        | (simp [D.isScal] at t; done)
        | (simp [D.py, eqV, PyData.eqv]))
theorem scal_any {x : V} {d : D} (h : Den K F H x d U) (s : d.isScal = true) : ∀ {vs : List V} {ds : List D} {W : AS}, DenL K F H vs ds W → ds.all D.isScal = true → vs.all flatV = true ∧ inV x vs = ds.any fun y => PyData.eqv y.py d.py
  | _, _, _, .nil _, _ => ⟨rfl, rfl⟩
  | _, _, _, .cons k l _ _, f => by
    rw [List.all_cons, Bool.and_eq_true] at f
    obtain ⟨a, b⟩ := scal_any h s l f.2
    refine ⟨by rw [List.all_cons, scal_flat k f.1, a]; rfl, ?_⟩
    unfold inV at b ⊢
    rw [List.any_cons, List.any_cons, scal_eq k h f.1 s, b]
theorem opt_some {b : Bool} {d e : D} (h : opt b d = some e) : b = true ∧ d = e := by
  unfold opt at h
  split at h
  · rename_i q; cases h; exact ⟨q, rfl⟩
  · cases h
theorem den_intsD : ∀ {ds : List D} {ns : List Int} {vs : List V} {U : AS}, intsD ds = some ns → DenL K F H vs ds U → vs = ns.map V.int
  | [], ns, vs, U, e, l => by
    cases l
    simp [intsD] at e
    subst e
    rfl
  | d :: ds, ns, vs, U, e, l => by
    cases l with
    | cons h l _ _ =>
      cases d with
      | int i =>
        cases h
        simp only [intsD, Option.map_eq_some_iff] at e
        obtain ⟨ms, e1, e2⟩ := e
        subst e2
        rw [den_intsD e1 l]
        rfl
      | _ => simp [intsD] at e
theorem den_boolsD : ∀ {ds : List D} {ns : List Bool} {vs : List V} {U : AS}, boolsD ds = some ns → DenL K F H vs ds U → vs = ns.map V.bl
  | [], ns, vs, U, e, l => by
    cases l
    simp [boolsD] at e
    subst e
    rfl
  | d :: ds, ns, vs, U, e, l => by
    cases l with
    | cons h l _ _ =>
      cases d with
      | bl i =>
        cases h
        simp only [boolsD, Option.map_eq_some_iff] at e
        obtain ⟨ms, e1, e2⟩ := e
        subst e2
        rw [den_boolsD e1 l]
        rfl
      | _ => simp [boolsD] at e
end

section
variable {X : Cx}
/-- two operands -/
def r2 (K : PySem.W.Frag) (o : Op) : R2 := fun x y H Q => rOp K o [x, y] H Q
def r1 (K : PySem.W.Frag) (o : Op) : V → Hp → VK → Prop := fun x H Q => rOp K o [x] H Q
theorem r2_inv {K : PySem.W.Frag} {o : Op} {x y : V} {H : Hp} {Q : VK} (h : r2 K o x y H Q) : ∃ F a b d U W, Le F H ∧ Den K F H x a U ∧ Den K F H y b W ∧ opSem o [a, b] = some d ∧ New K F H d Q := by
  obtain ⟨F, ds, d, le, den, e, k⟩ := h
  cases den with
  | cons h1 r =>
    cases r with
    | cons h2 r =>
      cases r
      exact ⟨F, _, _, d, _, _, le, h1, h2, e, k⟩
theorem r1_inv {K : PySem.W.Frag} {o : Op} {x : V} {H : Hp} {Q : VK} (h : rOp K o [x] H Q) : ∃ F a d U, Le F H ∧ Den K F H x a U ∧ opSem o [a] = some d ∧ New K F H d Q := by
  obtain ⟨F, ds, d, le, den, e, k⟩ := h
  cases den with
  | cons h1 r =>
    cases r
    exact ⟨F, _, d, _, le, h1, e, k⟩
theorem o_add : OpR X (binaryOp .Add) (r2 X.K .add) := by
  intro pins s σ H x y v u Q I rx ry h
  obtain ⟨F, a, b, d, U, W, le, h1, h2, e, k⟩ := r2_inv h
  have e : sAdd [a, b] = some d := e
  unfold sAdd at e
  split at e
  case h_1 q =>
    cases q; cases e; cases h1; cases h2
    exact op_add pins s σ H _ _ v u Q I rx ry ⟨_, _, rfl, rfl, k.int le⟩
  case h_2 q =>
    cases q
    obtain ⟨hb, rfl⟩ := opt_some e
    cases h1; cases h2
    exact op_add_str pins s σ H _ _ v u Q I rx ry ⟨_, _, rfl, rfl, of_decide_eq_true hb, k.str le⟩
  case h_3 q =>
    cases q
    obtain ⟨hb, rfl⟩ := opt_some e
    rw [Bool.and_eq_true, Bool.and_eq_true] at hb
    obtain ⟨⟨f1, f2⟩, f3⟩ := hb
    obtain ⟨a, vs, U1, rfl, ha, l1, _⟩ := den_lst le h1
    obtain ⟨b, ws, U2, rfl, hb, l2, _⟩ := den_lst le h2
    exact op_cat pins s σ H _ _ v u Q I rx ry ⟨a, b, vs, ws, rfl, rfl, ha, hb, by rw [l1.length, l2.length]; exact of_decide_eq_true f3, k.lst le ((l1.none f1).append (l2.none f2) (fun _ z => z.elim) fun b => by simp [none0])⟩
  case h_4 q =>
    cases q
    obtain ⟨hb, rfl⟩ := opt_some e
    rw [Bool.and_eq_true, Bool.and_eq_true] at hb
    obtain ⟨⟨f1, f2⟩, f3⟩ := hb
    obtain ⟨a, vs, rfl, ha, l1⟩ := den_tup le h1
    obtain ⟨b, ws, rfl, hb, l2⟩ := den_tup le h2
    have l := (l1.none f1).append (l2.none f2) (fun _ z => z.elim) (U' := none0) fun b => by simp [none0]
    refine op_catA pins s σ H _ _ v u Q I rx ry ⟨a, b, vs, ws, rfl, rfl, ha, hb, by rw [l1.length, l2.length]; exact of_decide_eq_true f3, fun z => ?_, fun z1 z2 => ?_, fun _ _ => k.tup le l⟩
    · rw [(denl_nil l1).mp z] at k
      exact k.old le h2 fun b => l2.frz_none f2 b
    · rw [(denl_nil l2).mp z2, List.append_nil] at k
      exact k.old le h1 fun b => l1.frz_none f1 b
  case h_5 => cases e

theorem mulOk_ok {i j : Int} (h : mulOk i j = true) : CMulW i j := of_decide_eq_true (p := i.natAbs.log2 + j.natAbs.log2 < 1000000) h
theorem o_sub : OpR X (binaryOp .Sub) (r2 X.K .sub) := by
  intro pins s σ H x y v u Q I rx ry h
  obtain ⟨F, a, b, d, U, W, le, h1, h2, e, k⟩ := r2_inv h
  have e : sSub [a, b] = some d := e
  unfold sSub at e
  split at e
  case h_1 q => cases q; cases e; cases h1; cases h2; exact op_sub pins s σ H _ _ v u Q I rx ry ⟨_, _, rfl, rfl, k.int le⟩
  case h_2 => cases e
theorem o_mul : OpR X (binaryOp .Mult) (r2 X.K .mul) := by
  intro pins s σ H x y v u Q I rx ry h
  obtain ⟨F, a, b, d, U, W, le, h1, h2, e, k⟩ := r2_inv h
  have e : sMul [a, b] = some d := e
  unfold sMul at e
  split at e
  case h_1 q =>
    cases q
    obtain ⟨hb, rfl⟩ := opt_some e
    cases h1; cases h2
    exact op_mulW pins s σ H _ _ v u Q I rx ry ⟨_, _, rfl, rfl, mulOk_ok hb, k.int le⟩
  case h_2 q =>
    cases q
    obtain ⟨hb, rfl⟩ := opt_some e
    rw [Bool.and_eq_true, Bool.and_eq_true] at hb
    obtain ⟨⟨f1, f2⟩, f3⟩ := hb
    obtain ⟨a, vs, U1, rfl, ha, l1, _⟩ := den_lst le h1
    cases h2
    unfold small62 at f2
    rw [Bool.and_eq_true] at f2
    have b1 := of_decide_eq_true f2.1
    have b2 := of_decide_eq_true f2.2
    refine op_rep pins s σ H _ _ v u Q I rx ry ⟨a, _, vs, rfl, rfl, ha, by omega, by omega, by rw [l1.length]; exact of_decide_eq_true f3, k.lst le ?_⟩
    have l0 := l1.none f1
    have : ∀ n, DenL X.K F H (List.replicate n vs).flatten (List.replicate n _).flatten none0 := fun n => by
      induction n with
      | zero => exact .nil fun _ z => z
      | succ n ih =>
        rw [List.replicate_succ, List.replicate_succ, List.flatten_cons, List.flatten_cons]
        exact l0.append ih (fun _ z => z.elim) fun b => by simp [none0]
    exact this _
  case h_3 => cases e
theorem o_fdiv : OpR X (binaryOp .FloorDiv) (r2 X.K .fdiv) := by
  intro pins s σ H x y v u Q I rx ry h
  obtain ⟨F, a, b, d, U, W, le, h1, h2, e, k⟩ := r2_inv h
  have e : sFdiv [a, b] = some d := e
  unfold sFdiv at e
  split at e
  case h_1 q =>
    cases q
    obtain ⟨hb, rfl⟩ := opt_some e
    rw [Bool.and_eq_true] at hb
    cases h1; cases h2
    obtain ⟨t, rfl⟩ := rx
    obtain ⟨t', rfl⟩ := ry
    exact floordiv_int (of_decide_eq_true hb.1) ⟨.int _, H, I.tok _, ⟨_, rfl⟩, k.int le⟩ (.inl (PyProof.noPylong_of_log2 (of_decide_eq_true hb.2)))
  case h_2 => cases e
theorem o_mod : OpR X (binaryOp .Mod) (r2 X.K .mod) := by
  intro pins s σ H x y v u Q I rx ry h
  obtain ⟨F, a, b, d, U, W, le, h1, h2, e, k⟩ := r2_inv h
  have e : sMod [a, b] = some d := e
  unfold sMod at e
  split at e
  case h_1 q =>
    cases q
    obtain ⟨hb, rfl⟩ := opt_some e
    cases h1; cases h2
    exact op_modN pins s σ H _ _ v u Q I rx ry ⟨_, _, rfl, rfl, of_decide_eq_true hb, k.int le⟩
  case h_2 => cases e
theorem o_pow : OpR X (binaryOp .Pow) (r2 X.K .pow) := by
  intro pins s σ H x y v u Q I rx ry h
  obtain ⟨F, a, b, d, U, W, le, h1, h2, e, k⟩ := r2_inv h
  have e : sPow [a, b] = some d := e
  unfold sPow at e
  split at e
  case h_1 q =>
    cases q
    obtain ⟨hb, rfl⟩ := opt_some e
    rw [Bool.and_eq_true, Bool.and_eq_true] at hb
    cases h1; cases h2
    exact op_pow pins s σ H _ _ v u Q I rx ry ⟨_, _, rfl, rfl, ⟨of_decide_eq_true hb.1.1, of_decide_eq_true hb.1.2, of_decide_eq_true hb.2⟩, k.int le⟩
  case h_2 => cases e
theorem o_neg : UnR X (unaryOp .USub) (fun x H Q => rOp X.K .neg [x] H Q) := by
  intro pins s σ H x v Q I rx h
  obtain ⟨F, a, d, U, le, h1, e, k⟩ := r1_inv h
  have e : sNeg [a] = some d := e
  unfold sNeg at e
  split at e
  case h_1 q => cases q; cases e; cases h1; exact un_neg pins s σ H _ v Q I rx ⟨_, rfl, k.int le⟩
  case h_2 => cases e
/-- comparisons of numbers, texts -/
theorem o_lt : OpR X (compareOp .Lt) (r2 X.K .lt) := by
  intro pins s σ H x y v u Q I rx ry h
  obtain ⟨F, a, b, d, U, W, le, h1, h2, e, k⟩ := r2_inv h
  have e : sLt [a, b] = some d := e
  unfold sLt at e
  split at e
  case h_1 q => cases q; cases e; cases h1; cases h2; exact op_lt pins s σ H _ _ v u Q I rx ry ⟨_, _, rfl, rfl, k.bl le⟩
  case h_2 q => cases q; cases e; cases h1; cases h2; exact op_lt_str pins s σ H _ _ v u Q I rx ry ⟨_, _, rfl, rfl, k.bl le⟩
  case h_3 => cases e
theorem o_le : OpR X (compareOp .LtE) (r2 X.K .le) := by
  intro pins s σ H x y v u Q I rx ry h
  obtain ⟨F, a, b, d, U, W, le, h1, h2, e, k⟩ := r2_inv h
  have e : sLe [a, b] = some d := e
  unfold sLe at e
  split at e
  case h_1 q => cases q; cases e; cases h1; cases h2; exact op_le pins s σ H _ _ v u Q I rx ry ⟨_, _, rfl, rfl, k.bl le⟩
  case h_2 => cases e
theorem o_gt : OpR X (compareOp .Gt) (r2 X.K .gt) := by
  intro pins s σ H x y v u Q I rx ry h
  obtain ⟨F, a, b, d, U, W, le, h1, h2, e, k⟩ := r2_inv h
  have e : sGt [a, b] = some d := e
  unfold sGt at e
  split at e
  case h_1 q => cases q; cases e; cases h1; cases h2; exact op_gt pins s σ H _ _ v u Q I rx ry ⟨_, _, rfl, rfl, k.bl le⟩
  case h_2 => cases e
theorem o_ge : OpR X (compareOp .GtE) (r2 X.K .ge) := by
  intro pins s σ H x y v u Q I rx ry h
  obtain ⟨F, a, b, d, U, W, le, h1, h2, e, k⟩ := r2_inv h
  have e : sGe [a, b] = some d := e
  unfold sGe at e
  split at e
  case h_1 q => cases q; cases e; cases h1; cases h2; exact op_ge pins s σ H _ _ v u Q I rx ry ⟨_, _, rfl, rfl, k.bl le⟩
  case h_2 => cases e
theorem eqD_inv {a b : D} {r : Bool} (h : eqD a b = some r) : a.flat = true ∧ b.flat = true ∧ SeqAt.shaped a.py = true ∧ SeqAt.shaped b.py = true ∧ r = PyData.eqv a.py b.py := by
  unfold eqD at h
  split at h
  · rename_i q
    unfold shapedD at q
    simp only [Bool.and_eq_true] at q
    cases h
    exact ⟨q.1.1, q.2.1, q.1.2, q.2.2, rfl⟩
  · cases h
theorem o_eq (hu : X.A.units + 64 < cLine) : OpR X (compareOp .Eq) (r2 X.K .eq) := by
  intro pins s σ H x y v u Q I rx ry h
  obtain ⟨F, a, b, d, U, W, le, h1, h2, e, k⟩ := r2_inv h
  have e : sEq [a, b] = some d := e
  by_cases hs : ∃ x y, a = .str x ∧ b = .str y
  · obtain ⟨x, y, rfl, rfl⟩ := hs
    cases e
    cases h1; cases h2
    refine op_eq pins s σ H _ _ v u Q I rx ry ⟨rfl, ?_⟩
    rw [show decide (V.str x = V.str y) = decide (x = y) by simp]
    exact k.bl le
  have e : (eqD a b).map .bl = some d := by
    unfold sEq at e
    split at e
    · rename_i q; cases q; exact absurd ⟨_, _, rfl, rfl⟩ hs
    · rename_i q; cases q; exact e
    · cases e
  obtain ⟨r, e1, e2⟩ := Option.map_eq_some_iff.mp e
  subst e2
  obtain ⟨f1, f2, s1, s2, rfl⟩ := eqD_inv e1
  exact op_eqD hu pins s σ H _ _ v u Q I rx ry ⟨_, _, h1.dp le f1, h2.dp le f2, s1, s2, k.bl le⟩
theorem o_ne (hu : X.A.units + 64 < cLine) : OpR X (compareOp .NotEq) (r2 X.K .ne) := by
  intro pins s σ H x y v u Q I rx ry h
  obtain ⟨F, a, b, d, U, W, le, h1, h2, e, k⟩ := r2_inv h
  have e : sNe [a, b] = some d := e
  by_cases hs : ∃ x y, a = .str x ∧ b = .str y
  · obtain ⟨x, y, rfl, rfl⟩ := hs
    cases e
    cases h1; cases h2
    refine op_ne pins s σ H _ _ v u Q I rx ry ⟨rfl, ?_⟩
    rw [show decide (V.str x = V.str y) = decide (x = y) by simp]
    exact k.bl le
  have e : (eqD a b).map (fun b => D.bl (!b)) = some d := by
    unfold sNe at e
    split at e
    · rename_i q; cases q; exact absurd ⟨_, _, rfl, rfl⟩ hs
    · rename_i q; cases q; exact e
    · cases e
  obtain ⟨r, e1, e2⟩ := Option.map_eq_some_iff.mp e
  subst e2
  obtain ⟨f1, f2, s1, s2, rfl⟩ := eqD_inv e1
  exact op_neD hu pins s σ H _ _ v u Q I rx ry ⟨_, _, h1.dp le f1, h2.dp le f2, s1, s2, k.bl le⟩
/-- x is None -/
theorem isN_den {K : PySem.W.Frag} {F H : Hp} {v : V} {d : D} {U : AS} (h : Den K F H v d U) : decide (v = .non) = d.isNon := by
  cases h <;> rfl
theorem o_isN : OpR X (compareOp .Is) (fun x y H Q => y = .non ∧ rOp X.K .isN [x] H Q) := by
  intro pins s σ H x y v u Q I rx ry ⟨e0, h⟩
  obtain ⟨F, a, d, U, le, h1, e, k⟩ := r1_inv h
  have e : some (D.bl a.isNon) = some d := e
  cases e
  refine op_isN pins s σ H x y v u Q I rx ry ⟨e0, ?_⟩
  rw [isN_den h1]
  exact k.bl le
theorem o_notN : OpR X (compareOp .IsNot) (fun x y H Q => y = .non ∧ rOp X.K .notN [x] H Q) := by
  intro pins s σ H x y v u Q I rx ry ⟨e0, h⟩
  obtain ⟨F, a, d, U, le, h1, e, k⟩ := r1_inv h
  have e : some (D.bl (!a.isNon)) = some d := e
  cases e
  refine op_notN pins s σ H x y v u Q I rx ry ⟨e0, ?_⟩
  rw [isN_den h1]
  exact k.bl le
theorem inScal_inv {x : D} {ys : List D} {r : Bool} (h : inScal x ys = some r) : x.isScal = true ∧ ys.all D.isScal = true ∧ r = ys.any fun y => PyData.eqv y.py x.py := by
  unfold inScal at h
  split at h
  · rename_i q
    rw [Bool.and_eq_true] at q
    cases h
    exact ⟨q.1, q.2, rfl⟩
  · cases h
theorem inDeep_inv {x : D} {ys : List D} {r : Bool} (h : inDeep x ys = some r) : (x.isScal = true ∧ ys.all D.isScal = true ∧ r = ys.any fun y => PyData.eqv y.py x.py) ∨
    (x.flat = true ∧ flatAll ys = true ∧ SeqAt.shaped x.py = true ∧ SeqAt.shaped (.list (pyAll ys)) = true ∧ r = (pyAll ys).any fun z => PyData.eqv z x.py) := by
  unfold inDeep at h
  split at h
  · rename_i q
    rw [Bool.and_eq_true] at q
    cases h
    exact .inl ⟨q.1, q.2, rfl⟩
  · split at h
    · rename_i q
      unfold shapedD at q
      simp only [Bool.and_eq_true, D.flat, D.py] at q
      cases h
      exact .inr ⟨q.1.1, q.2.1, q.1.2, q.2.2, rfl⟩
    · cases h
theorem o_inn (hu : X.A.units + 65 < cLine) : OpR X (compareOp .In) (r2 X.K .inn) := by
  intro pins s σ H x y v u Q I rx ry h
  obtain ⟨F, a, b, d, U, W, le, h1, h2, e, k⟩ := r2_inv h
  have e : sInn [a, b] = some d := e
  unfold sInn at e
  split at e
  case h_1 q =>
    cases q
    obtain ⟨r, e1, e2⟩ := Option.map_eq_some_iff.mp e
    subst e2
    obtain ⟨s1, s2, rfl⟩ := inScal_inv e1
    obtain ⟨c, vs, rfl, hc, l⟩ := den_tup le h2
    obtain ⟨z1, z2⟩ := scal_any h1 s1 l s2
    refine op_in_seq pins s σ H _ _ v u Q I rx ry ⟨c, vs, rfl, .inr hc, scal_flat h1 s1, z1, ?_⟩
    show Q (.bl (inV x vs)) H
    rw [z2]
    exact k.bl le
  case h_2 q =>
    cases q
    obtain ⟨r, e1, e2⟩ := Option.map_eq_some_iff.mp e
    subst e2
    rcases inDeep_inv e1 with ⟨s1, s2, rfl⟩ | ⟨f1, f2, s1, s2, rfl⟩
    · obtain ⟨c, vs, U1, rfl, hc, l, _⟩ := den_lst le h2
      obtain ⟨z1, z2⟩ := scal_any h1 s1 l s2
      refine op_in_seq pins s σ H _ _ v u Q I rx ry ⟨c, vs, rfl, .inl (sq_l hc), scal_flat h1 s1, z1, ?_⟩
      show Q (.bl (inV x vs)) H
      rw [z2]
      exact k.bl le
    · refine op_inD hu pins s σ H _ _ v u Q I rx ry ⟨_, _, h1.dp le f1, ?_, s1, s2, k.bl le⟩
      have := h2.dp le (by unfold D.flat; exact f2)
      unfold D.py at this
      exact this
  case h_3 q => cases q; cases e; cases h1; cases h2; exact op_in_str pins s σ H _ _ v u Q I rx ry ⟨_, _, rfl, rfl, k.bl le⟩
  case h_4 => cases e
theorem o_nin (hu : X.A.units + 65 < cLine) : OpR X (compareOp .NotIn) (r2 X.K .nin) := by
  intro pins s σ H x y v u Q I rx ry h
  obtain ⟨F, a, b, d, U, W, le, h1, h2, e, k⟩ := r2_inv h
  have e : sNin [a, b] = some d := e
  unfold sNin at e
  split at e
  case h_1 q =>
    cases q
    obtain ⟨r, e1, e2⟩ := Option.map_eq_some_iff.mp e
    subst e2
    obtain ⟨s1, s2, rfl⟩ := inScal_inv e1
    obtain ⟨c, vs, rfl, hc, l⟩ := den_tup le h2
    obtain ⟨z1, z2⟩ := scal_any h1 s1 l s2
    refine op_notIn_seq pins s σ H _ _ v u Q I rx ry ⟨c, vs, rfl, .inr hc, scal_flat h1 s1, z1, ?_⟩
    show Q (.bl (!inV x vs)) H
    rw [z2]
    exact k.bl le
  case h_2 q =>
    cases q
    obtain ⟨r, e1, e2⟩ := Option.map_eq_some_iff.mp e
    subst e2
    rcases inDeep_inv e1 with ⟨s1, s2, rfl⟩ | ⟨f1, f2, s1, s2, rfl⟩
    · obtain ⟨c, vs, U1, rfl, hc, l, _⟩ := den_lst le h2
      obtain ⟨z1, z2⟩ := scal_any h1 s1 l s2
      refine op_notIn_seq pins s σ H _ _ v u Q I rx ry ⟨c, vs, rfl, .inl (sq_l hc), scal_flat h1 s1, z1, ?_⟩
      show Q (.bl (!inV x vs)) H
      rw [z2]
      exact k.bl le
    · refine op_notInD hu pins s σ H _ _ v u Q I rx ry ⟨_, _, h1.dp le f1, ?_, s1, s2, k.bl le⟩
      have := h2.dp le (by unfold D.flat; exact f2)
      unfold D.py at this
      exact this
  case h_3 q => cases q; cases e; cases h1; cases h2; exact op_notin_str pins s σ H _ _ v u Q I rx ry ⟨_, _, rfl, rfl, k.bl le⟩
  case h_4 => cases e

/-! ### built-in functions -/
theorem c_len : CallR X (.builtin "len") (rOp X.K .len) := by
  intro pins s σ H xs us Q I r h
  obtain ⟨F, ds, d, le, den, e, k⟩ := h
  have e : sLen ds = some d := e
  unfold sLen at e
  split at e
  case h_1 =>
    cases e
    cases den with
    | cons h1 r1 =>
      cases r1
      obtain ⟨a, vs, rfl, ha, l⟩ := den_tup le h1
      rw [← l.length] at k
      exact call_len_seq pins s σ H _ us Q I r ⟨a, vs, rfl, .inr ha, k.int le⟩
  case h_2 =>
    cases e
    cases den with
    | cons h1 r1 =>
      cases r1
      obtain ⟨a, vs, U1, rfl, ha, l, _⟩ := den_lst le h1
      rw [← l.length] at k
      exact call_len_seq pins s σ H _ us Q I r ⟨a, vs, rfl, .inl (sq_l ha), k.int le⟩
  case h_3 =>
    cases e
    cases den with
    | cons h1 r1 =>
      cases r1
      cases h1 with
      | scr ha _ =>
        refine call_len_seq pins s σ H _ us Q I r ⟨_, _, rfl, .inl (le.l ha), ?_⟩
        rw [List.length_map]
        exact k.int le
  case h_4 =>
    obtain ⟨hb, rfl⟩ := opt_some e
    cases den with
    | cons h1 r1 =>
      cases r1
      cases h1
      exact call_len_str pins s σ H _ us Q I r ⟨_, rfl, of_decide_eq_true hb, k.int le⟩
  case h_5 => cases e
theorem maxI_spec : ∀ (r : List Int) (x : Int), (r.foldl (fun m y => if y > m then y else m) x ∈ x :: r) ∧ ∀ y, y ∈ x :: r → y ≤ r.foldl (fun m y => if y > m then y else m) x
  | [], x => ⟨by simp, fun y h => by simp at h; simp [h]⟩
  | z :: r, x => by
    obtain ⟨a, b⟩ := maxI_spec r (if z > x then z else x)
    rw [List.foldl_cons]
    refine ⟨?_, fun y hy => ?_⟩
    · rcases List.mem_cons.mp a with e | e
      · rw [e]
        by_cases q : z > x
        · simp [q]
        · simp [q]
      · exact List.mem_cons_of_mem _ (List.mem_cons_of_mem _ e)
    · have b0 := b _ (List.mem_cons_self ..)
      rcases List.mem_cons.mp hy with e | e
      · subst e
        by_cases q : z > y
        · rw [if_pos q] at b0 ⊢; omega
        · rw [if_neg q] at b0 ⊢; omega
      · rcases List.mem_cons.mp e with e | e
        · subst e
          by_cases q : y > x
          · rw [if_pos q] at b0 ⊢; omega
          · rw [if_neg q] at b0 ⊢; omega
        · exact b y (List.mem_cons_of_mem _ e)
theorem minI_spec : ∀ (r : List Int) (x : Int), (r.foldl (fun m y => if y < m then y else m) x ∈ x :: r) ∧ ∀ y, y ∈ x :: r → r.foldl (fun m y => if y < m then y else m) x ≤ y
  | [], x => ⟨by simp, fun y h => by simp at h; simp [h]⟩
  | z :: r, x => by
    obtain ⟨a, b⟩ := minI_spec r (if z < x then z else x)
    rw [List.foldl_cons]
    refine ⟨?_, fun y hy => ?_⟩
    · rcases List.mem_cons.mp a with e | e
      · rw [e]
        by_cases q : z < x
        · simp [q]
        · simp [q]
      · exact List.mem_cons_of_mem _ (List.mem_cons_of_mem _ e)
    · have b0 := b _ (List.mem_cons_self ..)
      rcases List.mem_cons.mp hy with e | e
      · subst e
        by_cases q : z < y
        · rw [if_pos q] at b0 ⊢; omega
        · rw [if_neg q] at b0 ⊢; omega
      · rcases List.mem_cons.mp e with e | e
        · subst e
          by_cases q : y < x
          · rw [if_pos q] at b0 ⊢; omega
          · rw [if_neg q] at b0 ⊢; omega
        · exact b y (List.mem_cons_of_mem _ e)
theorem c_min (hc : X.calm = true) : CallR X (.builtin "min") (rOp X.K .min) := by
  intro pins s σ H xs us Q I r h
  obtain ⟨F, ds, d, le, den, e, k⟩ := h
  have e : sMin ds = some d := e
  unfold sMin at e
  split at e
  case h_1 =>
    cases e
    cases den with
    | cons h1 r1 => cases r1 with
      | cons h2 r2 =>
        cases r2; cases h1; cases h2
        exact call_min2 hc pins s σ H _ us Q I r ⟨_, _, rfl, k.int le⟩
  case h_2 =>
    obtain ⟨ns, e1, e2⟩ := Option.bind_eq_some_iff.mp e
    obtain ⟨hb, rfl⟩ := opt_some e2
    cases den with
    | cons h1 r1 =>
      cases r1
      obtain ⟨a, vs, U1, rfl, ha, l, _⟩ := den_lst le h1
      have ev := den_intsD e1 l
      subst ev
      have hp := of_decide_eq_true hb
      refine cr_min hc pins s σ H _ us Q I r ⟨a, ns, rfl, sq_l ha, hp, fun m hm hle => ?_⟩
      cases ns with
      | nil => simp at hp
      | cons x r0 =>
        obtain ⟨m1, m2⟩ := minI_spec r0 x
        have : m = minI (x :: r0) := by
          have a1 := hle _ m1
          have a2 := m2 _ hm
          show m = r0.foldl _ x
          omega
        rw [this]
        exact k.int le
  case h_3 => cases e
theorem c_max (hc : X.calm = true) : CallR X (.builtin "max") (rOp X.K .max) := by
  intro pins s σ H xs us Q I r h
  obtain ⟨F, ds, d, le, den, e, k⟩ := h
  have e : sMax ds = some d := e
  unfold sMax at e
  split at e
  case h_1 =>
    cases e
    cases den with
    | cons h1 r1 => cases r1 with
      | cons h2 r2 =>
        cases r2; cases h1; cases h2
        exact call_max2 hc pins s σ H _ us Q I r ⟨_, _, rfl, k.int le⟩
  case h_2 =>
    obtain ⟨ns, e1, e2⟩ := Option.bind_eq_some_iff.mp e
    obtain ⟨hb, rfl⟩ := opt_some e2
    cases den with
    | cons h1 r1 =>
      cases r1
      obtain ⟨a, vs, U1, rfl, ha, l, _⟩ := den_lst le h1
      have ev := den_intsD e1 l
      subst ev
      have hp := of_decide_eq_true hb
      refine cr_max hc pins s σ H _ us Q I r ⟨a, ns, rfl, sq_l ha, hp, fun m hm hle => ?_⟩
      cases ns with
      | nil => simp at hp
      | cons x r0 =>
        obtain ⟨m1, m2⟩ := maxI_spec r0 x
        have : m = maxI (x :: r0) := by
          have a1 := hle _ m1
          have a2 := m2 _ hm
          show m = r0.foldl _ x
          omega
        rw [this]
        exact k.int le
  case h_3 => cases e
theorem c_abs : CallR X (.builtin "abs") (rOp X.K .abs) := by
  intro pins s σ H xs us Q I r h
  obtain ⟨F, ds, d, le, den, e, k⟩ := h
  have e : sAbs ds = some d := e
  unfold sAbs at e
  split at e
  case h_1 =>
    cases e
    cases den with
    | cons h1 r1 => cases r1; cases h1; exact call_abs pins s σ H _ us Q I r ⟨_, rfl, k.int le⟩
  case h_2 => cases e
theorem c_tuple : CallR X (.type "tuple") (rOp X.K .tuple) := by
  intro pins s σ H xs us Q I r h
  obtain ⟨F, ds, d, le, den, e, k⟩ := h
  have e : sTuple ds = some d := e
  unfold sTuple at e
  split at e
  case h_1 =>
    obtain ⟨hb, rfl⟩ := opt_some e
    cases den with
    | cons h1 r1 =>
      cases r1
      obtain ⟨a, vs, U1, rfl, ha, l, _⟩ := den_lst le h1
      exact call_tuple_of pins s σ H _ us Q I r ⟨a, vs, rfl, .inl ⟨sq_l ha, k.tup le (l.none hb)⟩⟩
  case h_2 =>
    obtain ⟨hb, rfl⟩ := opt_some e
    cases den with
    | cons h1 r1 =>
      cases r1
      obtain ⟨a, vs, rfl, ha, l⟩ := den_tup le h1
      exact call_tuple_of pins s σ H _ us Q I r ⟨a, vs, rfl, .inr ⟨ha, k.old le h1 (l.frz_none hb)⟩⟩
  case h_3 => cases e
theorem c_list : CallR X (.type "list") (rOp X.K .list) := by
  intro pins s σ H xs us Q I r h
  obtain ⟨F, ds, d, le, den, e, k⟩ := h
  have e : sList ds = some d := e
  unfold sList at e
  split at e
  case h_1 =>
    obtain ⟨hb, rfl⟩ := opt_some e
    cases den with
    | cons h1 r1 =>
      cases r1
      obtain ⟨a, vs, U1, rfl, ha, l, _⟩ := den_lst le h1
      exact call_list_of pins s σ H _ us Q I r ⟨a, vs, rfl, .inl (sq_l ha), k.lst le (l.none hb)⟩
  case h_2 =>
    obtain ⟨hb, rfl⟩ := opt_some e
    cases den with
    | cons h1 r1 =>
      cases r1
      obtain ⟨a, vs, rfl, ha, l⟩ := den_tup le h1
      exact call_list_of pins s σ H _ us Q I r ⟨a, vs, rfl, .inr ha, k.lst le (l.none hb)⟩
  case h_3 => cases e
theorem c_int : CallR X (.type "int") (rOp X.K .int) := by
  intro pins s σ H xs us Q I r h
  obtain ⟨F, ds, d, le, den, e, k⟩ := h
  have e : sInt ds = some d := e
  unfold sInt at e
  split at e
  case h_1 =>
    cases e
    cases den with
    | cons h1 r1 => cases r1; cases h1; exact call_int1 pins s σ H _ us Q I r (.inl ⟨_, rfl, k.int le⟩)
  case h_2 =>
    cases e
    cases den with
    | cons h1 r1 => cases r1; cases h1; exact call_int1 pins s σ H _ us Q I r (.inr ⟨_, rfl, k.int le⟩)
  case h_3 => cases e
theorem c_any (hc : X.calm = true) : CallR X (.builtin "any") (rOp X.K .any) := by
  intro pins s σ H xs us Q I r h
  obtain ⟨F, ds, d, le, den, e, k⟩ := h
  have e : sAny ds = some d := e
  unfold sAny at e
  split at e
  case h_1 =>
    obtain ⟨bs, e1, e2⟩ := Option.map_eq_some_iff.mp e
    subst e2
    cases den with
    | cons h1 r1 =>
      cases r1
      obtain ⟨a, vs, U1, rfl, ha, l, _⟩ := den_lst le h1
      have ev := den_boolsD e1 l
      subst ev
      exact cr_any hc pins s σ H _ us Q I r ⟨a, bs, rfl, sq_l ha, k.bl le⟩
  case h_2 => cases e
theorem c_all (hc : X.calm = true) : CallR X (.builtin "all") (rOp X.K .all) := by
  intro pins s σ H xs us Q I r h
  obtain ⟨F, ds, d, le, den, e, k⟩ := h
  have e : sAll ds = some d := e
  unfold sAll at e
  split at e
  case h_1 =>
    obtain ⟨bs, e1, e2⟩ := Option.map_eq_some_iff.mp e
    subst e2
    cases den with
    | cons h1 r1 =>
      cases r1
      obtain ⟨a, vs, U1, rfl, ha, l, _⟩ := den_lst le h1
      have ev := den_boolsD e1 l
      subst ev
      exact cr_all hc pins s σ H _ us Q I r ⟨a, bs, rfl, sq_l ha, k.bl le⟩
  case h_2 => cases e
theorem flat_py : ∀ {d : D}, d.flat = true → ∀ {K : PySem.W.Frag} {F H : Hp} {v : V} {U : AS}, Den K F H v d U → (d.isScal = true ∨ ∃ a, v = .ref a) := by
  intro d f K F H v U h
  cases h <;> first
    | exact .inl rfl
    | exact .inr ⟨_, rfl⟩
theorem c_repr (hu : X.A.units + 65 < cLine) (hg : X.A.guards = some []) : CallR X (.builtin "repr") (rOp X.K .repr) := by
  intro pins s σ H xs us Q I r h
  obtain ⟨F, ds, d, le, den, e, k⟩ := h
  have e : sRepr ds = some d := e
  cases den with
  | nil => cases e
  | @cons v0 d0 vs ds U h1 r1 =>
  cases r1 with
  | cons _ _ => cases e
  | nil =>
    obtain ⟨hb, rfl⟩ := opt_some e
    simp only [Bool.and_eq_true, Bool.not_eq_true', decide_eq_true_eq] at hb
    obtain ⟨⟨⟨⟨f1, f2⟩, f3⟩, f4⟩, f5⟩ := hb
    obtain ⟨u, rfl, ru⟩ := vals1 r
    have hs : d0.py.shown.length ≤ sizeLine := of_decide_eq_true f5
    have q : ∀ (h' : Heap) (u tk : Nat), (∀ b o, s.heap.get? b = some o → h'.get? b = some o) → EP X pins σ Q (.str d0.py.shown u) { s with heap := h', toks := tk } := fun h' u tk hk =>
      ⟨.str _, H, I.kept (t' := tk) hk, ⟨_, rfl⟩, k.str le⟩
    have q0 : ∀ (u tk : Nat), EP X pins σ Q (.str d0.py.shown u) { s with toks := tk } := fun u tk => ⟨.str _, H, I.tok _, ⟨_, rfl⟩, k.str le⟩
    rcases flat_py f1 h1 with sc | ⟨a, rfl⟩
    · cases h1 with
      | non => cases ru; exact PySem.P.repr_of_none (q0 _ _)
      | @bl b U e0 => cases ru; exact PySem.P.repr_of_bool (by have := q0 s.toks (s.toks + 1); simpa [D.py, PyData.shown] using this)
      | @int i U e0 =>
        obtain ⟨t, rfl⟩ := ru
        have f2' : i.natAbs.log2 < 1920 := by simpa [D.py, PyData.showable] using f2
        exact PySem.P.repr_of_int f2' (by have := q0 s.toks (s.toks + 1); simpa [D.py, PyData.shown] using this)
      | @str x U e0 =>
        obtain ⟨t, rfl⟩ := ru
        exact PySem.P.repr_of_str (by have := q0 s.toks (s.toks + 1); simpa [D.py, PyData.shown] using this) (by simpa [D.py, PyData.shown] using hs)
      | _ => simp [D.isScal] at sc
    · cases ru
      obtain ⟨as, rd⟩ := Dp.reads I _ _ _ (h1.dp le f1) rfl
      exact repr_of_reads' rd f2 (PyData.noDict_hsm f3) hg (by omega) (fun _ _ e => e) q hs
end
end MP

end
section
set_option Elab.async false
set_option linter.all false
set_option maxRecDepth 100000
/-! MP7: expressions and tests, construct by construct. -/
namespace MP
open PySem PySem.Spec PyProof.Rows L2

theorem M.bind_assoc {α β γ : Type} (m : M α) (f : α → M β) (g : β → M γ) : (m.bind f).bind g = m.bind fun a => (f a).bind g := by
  funext ρ
  cases r : m ρ with
  | stk => rw [bind_stk r, bind_stk (bind_stk r)]
  | exc x ρ1 => rw [bind_exc r, bind_exc (bind_exc r)]
  | ok a ρ1 =>
    rw [bind_ok r]
    cases r2 : f a ρ1 with
    | stk => rw [bind_stk r2, bind_stk ((bind_ok r).trans r2)]
    | exc x ρ2 => rw [bind_exc r2, bind_exc ((bind_ok r).trans r2)]
    | ok b ρ2 => rw [bind_ok r2, bind_ok ((bind_ok r).trans r2)]
theorem M.pure_bind {α β : Type} (a : α) (f : α → M β) : (M.pure a).bind f = f a := by
  funext ρ
  exact bind_ok pure_ok
theorem evV_bind {Γ : Fns} {e : E} {β : Type} (f : D → M β) : ((evB Γ e).bind fun x => (takeP e x).bind f) = (evV Γ e).bind f := by
  unfold evV
  rw [M.bind_assoc]

section
variable (Y : Ct) (Γ : Fns)
def RT (F' H' : Hp) (Us' : US) (a b : Bool) (U : AS) : Prop := a = b ∧ ∀ x, ¬ U x
def tT (e : E) : TT := tM Y false (RT) (evT Γ e)
end
section
variable {X : Cx} {Y : Ct} {Γ : Fns} {e : E} {es : List E} {σ : L2.St} {H : Hp} {α α' β β' : Type} {q : Bool} {R : Hp → Hp → US → α → β → AS → Prop} {F : Hp} {Us : US} {ρ : Rho}

theorem seqE {F1 H1 : Hp} {Us1 : US} {f : D → M α} {Q : β → Hp → Prop} {Q' : VK} (w : Wf Y.K F1 H1 σ ρ Us1) (h : Out Y σ F H Us q R ((evB Γ e).bind f ρ) Q) (ev0 : Evo F H (Tot Us) F1 H1 (Tot Us1))
    (k : ∀ d ρ2 v F2 H2 Us2 U2, Wf Y.K F2 H2 σ ρ2 Us2 → RB Y e F2 H2 Us2 d v U2 → Evo F1 H1 (Tot Us1) F2 H2 (fun x => Tot Us2 x ∨ U2 x) → (quiet e = true → Same H1 H2 ∧ Us2 = Us1) → Out Y σ F H Us q R (f d ρ2) Q → Q' v H2) : tE Y Γ e σ H1 Q' :=
  ⟨F1, ρ, Us1, w, out_bind h ev0 fun d ρ2 _ h2 => fun v F2 H2 Us2 U2 w2 rb ev qs => k d ρ2 v F2 H2 Us2 U2 w2 rb ev qs h2⟩
theorem seqV {F1 H1 : Hp} {Us1 : US} {f : D → M α} {Q : β → Hp → Prop} {Q' : VK} (w : Wf Y.K F1 H1 σ ρ Us1) (h : Out Y σ F H Us q R ((evV Γ e).bind f ρ) Q) (ev0 : Evo F H (Tot Us) F1 H1 (Tot Us1))
    (k : ∀ d ρ2 v F2 H2 Us2 U2, Wf Y.K F2 H2 σ ρ2 Us2 → Root Y.K F2 H2 (Tot Us2) v d U2 → (rootOf e ≠ none → ∀ b, ¬ U2 b) → Evo F1 H1 (Tot Us1) F2 H2 (fun x => Tot Us2 x ∨ U2 x) → Out Y σ F H Us q R (f d ρ2) Q → Q' v H2) : tV Y Γ e σ H1 Q' :=
  ⟨F1, ρ, Us1, w, out_bind h ev0 fun d ρ2 _ h2 => fun v F2 H2 Us2 U2 w2 rb ev qs => k d ρ2 v F2 H2 Us2 U2 w2 rb.1 rb.2 ev h2⟩
theorem seqT {F1 H1 : Hp} {Us1 : US} {f : Bool → M α} {Q : β → Hp → Prop} {Q' : Bool → Hp → Prop} (w : Wf Y.K F1 H1 σ ρ Us1) (h : Out Y σ F H Us q R ((evT Γ e).bind f ρ) Q) (ev0 : Evo F H (Tot Us) F1 H1 (Tot Us1))
    (k : ∀ b ρ2 F2 H2 Us2, Wf Y.K F2 H2 σ ρ2 Us2 → Evo F1 H1 (Tot Us1) F2 H2 (Tot Us2) → Out Y σ F H Us q R (f b ρ2) Q → Q' b H2) : tT Y Γ e σ H1 Q' :=
  ⟨F1, ρ, Us1, w, out_bind h ev0 fun d ρ2 _ h2 => fun v F2 H2 Us2 U2 w2 rb ev qs => by
    obtain ⟨rfl, _⟩ := rb
    exact k d ρ2 F2 H2 Us2 w2 (evo_res ev) h2⟩
/-- an outcome told at a later state -/
theorem out_at {F1 H1 : Hp} {Us1 : US} {r : Res α} {Q : β → Hp → Prop} (h : Out Y σ F H Us false R r Q) (e : Evo F H (Tot Us) F1 H1 (Tot Us1)) : Out Y σ F1 H1 Us1 false R r Q := by
  cases r with
  | stk => exact h
  | exc x ρ1 => exact out_exc h e
  | ok a ρ1 => exact fun b F' H' Us' U w r ev _ => h b F' H' Us' U w r (e.trans ev) fun z => by cases z
theorem out_q {r : Res α} {Q : β → Hp → Prop} (h : Out Y σ F H Us q R r Q) : Out Y σ F H Us q R r Q := h

/-! ### names, constants -/
theorem e_cst {d : D} {v : V} {Q : VK} (hd : ∀ F H, Den Y.K F H v d none0) (h : tE Y Γ (.cst d) σ H Q) : Q v H := by
  obtain ⟨F, ρ, Us, w, h⟩ := h
  have e : evB Γ (.cst d) ρ = .ok d ρ := by rw [evB]; rfl
  rw [e] at h
  exact h v F H Us none0 w ⟨hd F H, fun _ z => z.elim, fun _ z => z.elim⟩ (evo_no Evo.refl no0) fun _ => ⟨Same.refl _, rfl⟩
theorem e_var {i : Nat} {Q : VK} (h : tE Y Γ (.var i) σ H Q) : tVar i σ H Q := by
  obtain ⟨F, ρ, Us, w, h⟩ := h
  rw [evB] at h
  dsimp only at h
  cases e : ρ[i]? with
  | none => rw [e] at h; exact h.elim
  | some o =>
    cases o with
    | none => rw [e] at h; exact h.elim
    | some d =>
      rw [e] at h
      obtain ⟨v, e1, den⟩ := w.den i d e
      exact ⟨v, e1, h v F H Us none0 w ⟨no0, Us i, den, fun _ z => z⟩ (evo_no Evo.refl no0) fun _ => ⟨Same.refl _, rfl⟩⟩
theorem e_mov {i : Nat} {Q : VK} (h : tE Y Γ (.mov i) σ H Q) : tVar i σ H Q := by
  obtain ⟨F, ρ, Us, w, h⟩ := h
  rw [evB] at h
  unfold movS at h
  cases e : ρ[i]? with
  | none => rw [e] at h; exact h.elim
  | some o =>
    cases o with
    | none => rw [e] at h; exact h.elim
    | some d =>
      rw [e] at h
      obtain ⟨v, e1, r⟩ := w.root e
      refine ⟨v, e1, h v F H (Us.put i none0) (Us i) w.drop r (Evo.refl.weak fun b t => ?_) fun z => by cases z⟩
      exact t.elim tot_drop fun u => ⟨i, u⟩
/-! ### a[i] -/
theorem atI_den {K : PySem.W.Frag} {F H : Hp} {vs : List V} {ds : List D} {U : AS} {i : Int} {d : D} (l : DenL K F H vs ds U) (h : atI ds i = some d) : ∃ v U1, atI vs i = some v ∧ Den K F H v d U1 ∧ ∀ b, U1 b → U b := by
  unfold atI at h ⊢
  rw [l.length]
  cases e : ixN ds.length i with
  | none => rw [e] at h; cases h
  | some j =>
    rw [e] at h
    obtain ⟨v, U1, e1, den, sub⟩ := l.getD (show ds[j]? = some d from h)
    exact ⟨v, U1, e1, den, sub⟩
theorem atI_scr {ns : List Int} {i z : Int} (h : atI ns i = some z) : atI (ns.map V.int) i = some (.int z) := by
  unfold atI at h ⊢
  rw [List.length_map]
  cases e : ixN ns.length i with
  | none => rw [e] at h; cases h
  | some j =>
    rw [e] at h
    show (ns.map V.int)[j]? = _
    rw [List.getElem?_map, show ns[j]? = some z from h]
    rfl
/-- the item of a container that is read: at any heap where the container means what it does -/
theorem ix_at {K : PySem.W.Frag} {F H : Hp} {x y : V} {a b d : D} {U W : AS} (le : Le F H) (h1 : Den K F H x a U) (h2 : Den K F H y b W) (e : opSem .ix [a, b] = some d) :
    ∃ v U1, Den K F H v d U1 ∧ (∀ c, U1 c → U c) ∧ ∀ Q : VK, Q v H → rIx K x y H Q := by
  have e : sIx [a, b] = some d := e
  unfold sIx at e
  split at e
  case h_1 q =>
    cases q
    obtain ⟨c, vs, U1, rfl, hc, l, sub⟩ := den_lst le h1
    cases h2
    obtain ⟨v, U2, e1, den, sub2⟩ := atI_den l e
    exact ⟨v, U2, den, fun c z => sub c (sub2 c z), fun Q hq => .inl ⟨c, vs, _, v, rfl, rfl, sq_l hc, e1, hq⟩⟩
  case h_2 q =>
    cases q
    obtain ⟨c, vs, rfl, hc, l⟩ := den_tup le h1
    cases h2
    obtain ⟨v, U2, e1, den, sub2⟩ := atI_den l e
    exact ⟨v, U2, den, sub2, fun Q hq => .inr (.inl ⟨c, vs, _, v, rfl, rfl, hc, e1, hq⟩)⟩
  case h_3 q =>
    cases q
    obtain ⟨z, e1, rfl⟩ := Option.map_eq_some_iff.mp e
    cases h1 with
    | scr hc _ =>
      cases h2
      exact ⟨.int z, none0, .int no0, fun _ q => q.elim, fun Q hq => .inl ⟨_, _, _, _, rfl, rfl, le.l hc, atI_scr e1, hq⟩⟩
  case h_4 q =>
    cases q
    obtain ⟨c, e1, rfl⟩ := Option.map_eq_some_iff.mp e
    cases h1
    cases h2
    split at e1
    · rename_i hl
      exact ⟨_, none0, .str no0, fun _ q => q.elim, fun Q hq => .inr (.inr ⟨_, _, _, rfl, rfl, of_decide_eq_true hl, e1, hq⟩)⟩
    · cases e1
  case h_5 => cases e
theorem e_ix {a i : E} {Q : VK} (h : tE Y Γ (.op .ix [a, i]) σ H Q) : tOp (rIx Y.K) (tOpd Y Γ (quiet i) a) (tE Y Γ i) σ H Q := by
  obtain ⟨F, ρ, Us, w, h⟩ := h
  have eo : evB Γ (.op .ix [a, i]) = (evB Γ a).bind fun x => (if quiet i then M.pure x else takeP a x).bind fun x => (evB Γ i).bind fun y => M.lift (opSem .ix [x, y]) := by
    rw [evB, evOs]
    simp only [M.bind_assoc]
    congr 1
    funext x
    simp only [quietAll, Bool.and_true]
    congr 1
    funext x
    rw [evOs, evOs]
    simp only [M.bind_assoc, M.pure_bind, quietAll, if_true]
  rw [eo] at h
  show tOpd Y Γ (quiet i) a σ H fun x H1 => tE Y Γ i σ H1 fun y H2 => rIx Y.K x y H2 Q
  have rt : rootOf (.op .ix [a, i]) = rootOf a := rfl
  cases qi : quiet i with
  | true =>
    simp only [qi, if_true, M.pure_bind] at h
    refine seqE w h Evo.refl fun d ρ1 v F1 H1 Us1 U1 w1 rb ev qs h => ?_
    refine seqE w1 h (evo_res ev) fun b ρ2 y F2 H2 Us2 U2 w2 rb2 ev2 qs2 h => ?_
    obtain ⟨s2, e2⟩ := qs2 qi
    subst e2
    obtain ⟨W, den2⟩ := rb_den rb2
    cases s : opSem .ix [d, b] with
    | none => rw [s] at h; exact h.elim
    | some r =>
      rw [s] at h
      have fin : ∀ Q', Q' = Q → (quiet (.op .ix [a, i]) = true → Same H H2 ∧ Us2 = Us) := fun _ _ qq => by
        have qa : quiet a = true := by
          simp only [quiet, quietAll, Bool.and_true, Bool.and_eq_true] at qq
          exact qq.1
        obtain ⟨s1, e1⟩ := qs qa
        exact ⟨s1.trans s2, e1⟩
      cases ro : rootOf a with
      | none =>
        unfold RB at rb
        rw [ro] at rb
        have r1 : Root Y.K F1 H1 (Tot Us2) v d U1 := rb
        have r2 := r1.keep (evo_res ev2)
        obtain ⟨z, U3, den3, sub, hq⟩ := ix_at w2.le r2.den den2 s
        refine hq Q (h z F2 H2 Us2 U3 w2 ?_ ?_ (fin Q rfl))
        · unfold RB
          rw [rt, ro]
          exact ⟨den3, fun b u => r2.dj b (sub b u), fun b u => r2.out b (sub b u)⟩
        · refine Evo.weak (ev.trans (Evo.more (T2 := fun x => Tot Us2 x ∨ U1 x) (T' := fun x => Tot Us2 x ∨ U1 x) ?_ fun b t => t)) fun b t => t.imp id (sub b)
          exact ⟨ev2.fle, fun a o e n => s2 a o e, fun a t => .inl t, fun a n q => (ev2.frz a n q).imp .inl id⟩
      | some j =>
        unfold RB at rb
        rw [ro] at rb
        obtain ⟨hU, U0, den, sub0⟩ := rb
        have den' := den.keep ev2.fle (H' := H2) fun b o _ z => s2 b o z
        obtain ⟨z, U3, den3, sub, hq⟩ := ix_at w2.le den' den2 s
        refine hq Q (h z F2 H2 Us2 none0 w2 ?_ (evo_no ((evo_res ev).trans (evo_res ev2)) no0) (fin Q rfl))
        unfold RB
        rw [rt, ro]
        exact ⟨no0, U3, den3, fun b u => sub0 b (sub b u)⟩
  | false =>
    simp only [qi, Bool.false_eq_true, if_false] at h
    rw [evV_bind (Γ := Γ) (e := a)] at h
    refine seqV w h Evo.refl fun d ρ1 v F1 H1 Us1 U1 w1 r1 n1 ev h => ?_
    refine seqE w1 h (evo_res ev) fun b ρ2 y F2 H2 Us2 U2 w2 rb2 ev2 qs2 h => ?_
    obtain ⟨W, den2⟩ := rb_den rb2
    cases s : opSem .ix [d, b] with
    | none => rw [s] at h; exact h.elim
    | some r =>
      rw [s] at h
      have r2 := r1.keep (evo_res ev2)
      obtain ⟨z, U3, den3, sub, hq⟩ := ix_at w2.le r2.den den2 s
      have nq : quiet (.op .ix [a, i]) = true → Same H H2 ∧ Us2 = Us := fun qq => by
        simp only [quiet, quietAll, Bool.and_true, Bool.and_eq_true] at qq
        rw [qi] at qq
        cases qq.2
      have evf : Evo F H (Tot Us) F2 H2 (fun x => Tot Us2 x ∨ U3 x) := by
        have e2 : Evo F1 H1 (fun x => Tot Us1 x ∨ U1 x) F2 H2 (fun x => Tot Us2 x ∨ U1 x) :=
          ⟨ev2.fle, fun a o e n => ev2.frm a o e fun t => n (.inl t), fun a t => t.elim (fun t => (ev2.own a (.inl t)).imp .inl id) fun t => .inl (.inr t), fun a n q => (ev2.frz a n q).imp .inl id⟩
        exact (ev.trans e2).weak fun b t => t.imp id (sub b)
      cases ro : rootOf a with
      | none =>
        refine hq Q (h z F2 H2 Us2 U3 w2 ?_ evf nq)
        unfold RB
        rw [rt, ro]
        exact ⟨den3, fun b u => r2.dj b (sub b u), fun b u => r2.out b (sub b u)⟩
      | some j =>
        have no : ∀ b, ¬ U3 b := fun b u => n1 (by rw [ro]; exact fun z => by cases z) b (sub b u)
        refine hq Q (h z F2 H2 Us2 U3 w2 ?_ evf nq)
        unfold RB
        rw [rt, ro]
        exact ⟨no, U3, den3, fun b u => absurd u (no b)⟩

/-! ### and, or, if, chains -/
theorem truth_tru {K : PySem.W.Frag} {F H : Hp} {v : V} {d : D} {U : AS} {k : Bool} (le : Le F H) (h : Den K F H v d U) (e : d.truth = some k) : TruV K v H k := by
  cases h with
  | non => cases e; rfl
  | bl => cases e; rfl
  | int => cases e; rfl
  | str =>
    unfold D.truth at e
    dsimp only at e
    split at e
    · rename_i hl
      cases e
      exact ⟨of_decide_eq_true hl, rfl⟩
    · cases e
  | tup h l =>
    cases e
    refine .inr (.inl ⟨_, le.t h, ?_⟩)
    have := l.length
    cases l <;> rfl
  | lstF h l _ =>
    cases e
    refine .inl ⟨_, sq_l (le.lst h), ?_⟩
    cases l <;> rfl
  | lstU h l _ _ =>
    cases e
    refine .inl ⟨_, sq_l h, ?_⟩
    cases l <;> rfl
  | scr h _ =>
    cases e
    refine .inl ⟨_, le.l h, ?_⟩
    rename_i ns _ _
    simp
  | dKF h hk l _ => cases e
  | dKU h hk l _ _ => cases e
  | dTF h hk l _ => cases e
  | dTU h hk l _ _ => cases e
theorem rootOf_none {e : E} (h : ∀ i, e ≠ .var i) (h2 : ∀ es, e ≠ .op .ix es) : rootOf e = none := by
  unfold rootOf
  split
  · exact absurd rfl (h _)
  · exact absurd rfl (h2 _)
  · rfl
theorem rb_root {F H : Hp} {Us : US} {d : D} {v : V} {U : AS} (ro : rootOf e = none) (r : Root Y.K F H (Tot Us) v d U) : RB Y e F H Us d v U := by
  unfold RB
  rw [ro]
  exact r
theorem e_band {a b : E} {Q : VK} (h : tE Y Γ (.band a b) σ H Q) : tAndT Y.K (tV Y Γ a) (tV Y Γ b) σ H Q := by
  obtain ⟨F, ρ, Us, w, h⟩ := h
  rw [evB, evV_bind (Γ := Γ) (e := a)] at h
  have rn : rootOf (.band a b) = none := rfl
  refine seqV w h Evo.refl fun d ρ1 v F1 H1 Us1 U1 w1 r1 n1 ev h => ?_
  cases t : d.truth with
  | none => rw [t] at h; exact h.elim
  | some k =>
    rw [t] at h
    refine ⟨k, truth_tru w1.le r1.den t, ?_⟩
    cases k with
    | true =>
      rw [if_pos rfl]
      have h : Out Y σ F H Us (quiet (.band a b)) (RB Y (.band a b)) (evV Γ b ρ1) Q := h
      refine ⟨F1, ρ1, Us1, w1, ?_⟩
      cases r : evV Γ b ρ1 with
      | stk => rw [r] at h; exact h
      | exc x ρ2 => rw [r] at h; exact out_exc h (evo_res ev)
      | ok e ρ2 =>
        rw [r] at h
        exact fun z F2 H2 Us2 U2 w2 rv ev2 _ => h z F2 H2 Us2 U2 w2 (rb_root rn rv.1) ((evo_res ev).trans ev2) fun z => by cases z
    | false =>
      rw [if_neg Bool.false_ne_true]
      exact h v F1 H1 Us1 U1 w1 (rb_root rn r1) ev fun z => by cases z
theorem e_bor {a b : E} {Q : VK} (h : tE Y Γ (.bor a b) σ H Q) : tOrT Y.K (tV Y Γ a) (tV Y Γ b) σ H Q := by
  obtain ⟨F, ρ, Us, w, h⟩ := h
  rw [evB, evV_bind (Γ := Γ) (e := a)] at h
  have rn : rootOf (.bor a b) = none := rfl
  refine seqV w h Evo.refl fun d ρ1 v F1 H1 Us1 U1 w1 r1 n1 ev h => ?_
  cases t : d.truth with
  | none => rw [t] at h; exact h.elim
  | some k =>
    rw [t] at h
    refine ⟨k, truth_tru w1.le r1.den t, ?_⟩
    cases k with
    | true =>
      rw [if_pos rfl]
      exact h v F1 H1 Us1 U1 w1 (rb_root rn r1) ev fun z => by cases z
    | false =>
      rw [if_neg Bool.false_ne_true]
      have h : Out Y σ F H Us (quiet (.bor a b)) (RB Y (.bor a b)) (evV Γ b ρ1) Q := h
      refine ⟨F1, ρ1, Us1, w1, ?_⟩
      cases r : evV Γ b ρ1 with
      | stk => rw [r] at h; exact h
      | exc x ρ2 => rw [r] at h; exact out_exc h (evo_res ev)
      | ok e ρ2 =>
        rw [r] at h
        exact fun z F2 H2 Us2 U2 w2 rv ev2 _ => h z F2 H2 Us2 U2 w2 (rb_root rn rv.1) ((evo_res ev).trans ev2) fun z => by cases z
theorem e_ite {c a b : E} {Q : VK} (h : tE Y Γ (.ite c a b) σ H Q) : tIf (tT Y Γ c) (tV Y Γ a) (tV Y Γ b) σ H Q := by
  obtain ⟨F, ρ, Us, w, h⟩ := h
  rw [evB] at h
  have rn : rootOf (.ite c a b) = none := rfl
  refine seqT w h Evo.refl fun k ρ1 F1 H1 Us1 w1 ev h => ?_
  have fin : ∀ e : E, Out Y σ F H Us (quiet (.ite c a b)) (RB Y (.ite c a b)) (evV Γ e ρ1) Q → tV Y Γ e σ H1 Q := fun e h => by
    refine ⟨F1, ρ1, Us1, w1, ?_⟩
    cases r : evV Γ e ρ1 with
    | stk => rw [r] at h; exact h
    | exc x ρ2 => rw [r] at h; exact out_exc h ev
    | ok d ρ2 =>
      rw [r] at h
      exact fun z F2 H2 Us2 U2 w2 rv ev2 _ => h z F2 H2 Us2 U2 w2 (rb_root rn rv.1) (ev.trans ev2) fun z => by cases z
  cases k with
  | true =>
    rw [if_pos rfl] at h ⊢
    exact fin a h
  | false =>
    rw [if_neg Bool.false_ne_true] at h ⊢
    exact fin b h
theorem e_chn {o1 o2 : Op} {a b c : E} {Q : VK} (hb : ∀ x y d, opSem o1 [x, y] = some d → ∃ k, d = .bl k) (h : tE Y Γ (.chn o1 o2 a b c) σ H Q) :
    tChain (r2 Y.K o1) (r2 Y.K o2) (tOpd Y Γ (quiet b && quiet c) a) (tOpd Y Γ (quiet c) b) (tE Y Γ c) σ H Q := by
  obtain ⟨F, ρ, Us, w, h⟩ := h
  rw [evB] at h
  have rn : rootOf (.chn o1 o2 a b c) = none := rfl
  show tOpd Y Γ (quiet b && quiet c) a σ H fun x H1 => tOpd Y Γ (quiet c) b σ H1 fun y H2 => r2 Y.K o1 x y H2 fun z H3 => ∃ k, z = .bl k ∧ (if k = true then tE Y Γ c σ H3 fun w' H4 => r2 Y.K o2 y w' H4 Q else Q (.bl false) H3)
  -- what is held of an operand: it means d wherever all stays, or it is a root
  have third : ∀ (d1 d2 : D) (ρ2 : Rho) (x y : V) (F2 H2 : Hp) (Us2 : US) (U1 U2 : AS), Wf Y.K F2 H2 σ ρ2 Us2 → Den Y.K F2 H2 x d1 U1 → Den Y.K F2 H2 y d2 U2 →
      (quiet c = true ∨ ((∀ u, U2 u → ¬ Tot Us2 u) ∧ ∀ u, U2 u → F2 u = none)) → Evo F H (Tot Us) F2 H2 (Tot Us2) → (quiet a = true → quiet b = true → quiet c = true → Same H H2 ∧ Us2 = Us) →
      Out Y σ F H Us (quiet (.chn o1 o2 a b c)) (RB Y (.chn o1 o2 a b c)) (((M.lift (opSem o1 [d1, d2])).bind fun k => match k with
        | .bl true => (evB Γ c).bind fun z => M.lift (opSem o2 [d2, z])
        | .bl false => M.pure (.bl false)
        | _ => fun _ => .stk) ρ2) Q →
      r2 Y.K o1 x y H2 fun z H3 => ∃ k, z = .bl k ∧ (if k = true then tE Y Γ c σ H3 fun w' H4 => r2 Y.K o2 y w' H4 Q else Q (.bl false) H3) := by
    intro d1 d2 ρ2 x y F2 H2 Us2 U1 U2 w2 den1 den2 held ev qs h
    cases s : opSem o1 [d1, d2] with
    | none => rw [s] at h; exact h.elim
    | some r =>
      rw [s, bind_ok lift_some] at h
      obtain ⟨k, rfl⟩ := hb _ _ _ s
      refine ⟨F2, _, _, w2.le, .cons den1 (.cons den2 .nil), s, fun v F3 H3 U g den3 hf hF => ?_⟩
      have w3 := w2.grow g
      have ev3 : Evo F H (Tot Us) F3 H3 (Tot Us2) := ev.trans g.evo
      have den2' : Den Y.K F3 H3 y d2 U2 := den2.keep g.f fun b o _ z => g.h b o z
      cases den3
      refine ⟨k, rfl, ?_⟩
      cases k with
      | true =>
        rw [if_pos rfl]
        refine seqE w3 h ev3 fun d3 ρ4 z F4 H4 Us4 U4 w4 rb4 ev4 qs4 h => ?_
        cases s2 : opSem o2 [d2, d3] with
        | none => rw [s2] at h; exact h.elim
        | some r4 =>
          rw [s2] at h
          obtain ⟨W4, den4⟩ := rb_den rb4
          have den2'' : Den Y.K F4 H4 y d2 U2 := by
            rcases held with hq | ⟨hd, ho⟩
            · exact den2'.keep ev4.fle fun b o _ z => (qs4 hq).1 b o z
            · exact den2'.keep ev4.fle fun b o u z => ev4.frm b o z (hd b u)
          refine ⟨F4, _, _, w4.le, .cons den2'' (.cons den4 .nil), s2, fun v F5 H5 U g5 den5 hf5 hF5 => ?_⟩
          refine h v F5 H5 Us4 U (w4.grow g5) (rb_root rn ⟨den5, fun b u t => ?_, hF5⟩) ((ev3.trans (evo_res ev4)).trans (g5.evo_new hf5)) fun qq => ?_
          · obtain ⟨o', z⟩ := w4.known t
            rw [hf5 b u] at z; cases z
          · simp only [quiet, Bool.and_eq_true] at qq
            obtain ⟨s1, e1⟩ := qs qq.1.1 qq.1.2 qq.2
            obtain ⟨s4, e4⟩ := qs4 qq.2
            exact ⟨((s1.trans g.h).trans s4).trans g5.h, e4.trans e1⟩
      | false =>
        rw [if_neg Bool.false_ne_true]
        refine h (.bl false) F3 H3 Us2 none0 w3 (rb_root rn ⟨.bl no0, fun _ z => z.elim, fun _ z => z.elim⟩) (evo_no ev3 no0) fun qq => ?_
        simp only [quiet, Bool.and_eq_true] at qq
        obtain ⟨s1, e1⟩ := qs qq.1.1 qq.1.2 qq.2
        exact ⟨s1.trans g.h, e1⟩
  -- the second operand, the first held
  have second : ∀ (d1 : D) (ρ1 : Rho) (x : V) (F1 H1 : Hp) (Us1 : US) (U1 : AS), Wf Y.K F1 H1 σ ρ1 Us1 → Den Y.K F1 H1 x d1 U1 → ((quiet b = true ∧ quiet c = true) ∨ ((∀ u, U1 u → ¬ Tot Us1 u) ∧ ∀ u, U1 u → F1 u = none)) → Evo F H (Tot Us) F1 H1 (Tot Us1) →
      (quiet a = true → quiet b = true → quiet c = true → Same H H1 ∧ Us1 = Us) →
      Out Y σ F H Us (quiet (.chn o1 o2 a b c)) (RB Y (.chn o1 o2 a b c)) (((evB Γ b).bind fun y => (if quiet c then M.pure y else takeP b y).bind fun y => (M.lift (opSem o1 [d1, y])).bind fun k => match k with
        | .bl true => (evB Γ c).bind fun z => M.lift (opSem o2 [y, z])
        | .bl false => M.pure (.bl false)
        | _ => fun _ => .stk) ρ1) Q →
      tOpd Y Γ (quiet c) b σ H1 fun y H2 => r2 Y.K o1 x y H2 fun z H3 => ∃ k, z = .bl k ∧ (if k = true then tE Y Γ c σ H3 fun w' H4 => r2 Y.K o2 y w' H4 Q else Q (.bl false) H3) := by
    intro d1 ρ1 x F1 H1 Us1 U1 w1 den1 held ev qs h
    cases qc : quiet c with
    | true =>
      simp only [qc, if_true, M.pure_bind] at h
      refine seqE w1 h ev fun d2 ρ2 y F2 H2 Us2 U2 w2 rb2 ev2 qs2 h => ?_
      obtain ⟨W2, den2⟩ := rb_den rb2
      refine third d1 d2 ρ2 x y F2 H2 Us2 U1 W2 w2 ?_ den2 (.inl qc) (ev.trans (evo_res ev2)) (fun qa qb _ => ?_) h
      · rcases held with ⟨hq, _⟩ | ⟨hd, ho⟩
        · exact den1.keep ev2.fle fun b o _ z => (qs2 hq).1 b o z
        · exact den1.keep ev2.fle fun b o u z => ev2.frm b o z (hd b u)
      · obtain ⟨s1, e1⟩ := qs qa qb qc
        obtain ⟨s2, e2⟩ := qs2 qb
        exact ⟨s1.trans s2, e2.trans e1⟩
    | false =>
      simp only [qc, Bool.false_eq_true, if_false] at h
      rw [evV_bind (Γ := Γ) (e := b)] at h
      refine seqV w1 h ev fun d2 ρ2 y F2 H2 Us2 U2 w2 r2' n2 ev2 h => ?_
      refine third d1 d2 ρ2 x y F2 H2 Us2 U1 U2 w2 ?_ r2'.den (.inr ⟨r2'.dj, r2'.out⟩) (ev.trans (evo_res ev2)) (fun qa qb z => by rw [qc] at z; cases z) h
      rcases held with ⟨_, z⟩ | ⟨hd, ho⟩
      · rw [qc] at z; cases z
      · exact den1.keep ev2.fle fun b o u z => ev2.frm b o z (hd b u)
  cases qb : quiet b && quiet c with
  | true =>
    simp only [qb, if_true, M.pure_bind] at h
    rw [Bool.and_eq_true] at qb
    refine seqE w h Evo.refl fun d1 ρ1 x F1 H1 Us1 U1 w1 rb1 ev1 qs1 h => ?_
    obtain ⟨W1, den1⟩ := rb_den rb1
    exact second d1 ρ1 x F1 H1 Us1 W1 w1 den1 (.inl qb) (evo_res ev1) (fun qa _ _ => qs1 qa) h
  | false =>
    simp only [qb, Bool.false_eq_true, if_false] at h
    rw [evV_bind (Γ := Γ) (e := a)] at h
    refine seqV w h Evo.refl fun d1 ρ1 x F1 H1 Us1 U1 w1 r1 n1 ev1 h => ?_
    exact second d1 ρ1 x F1 H1 Us1 U1 w1 r1.den (.inr ⟨r1.dj, r1.out⟩) (evo_res ev1) (fun _ z z2 => by rw [z, z2] at qb; cases qb) h
end
end MP

end
section
set_option Elab.async false
set_option linter.all false
set_option maxRecDepth 100000
/-! MP8: displays, arguments, tests. -/
namespace MP
open PySem PySem.Spec PyProof.Rows L2

/-- the arguments of a call: what is lent stands in its slot -/
inductive ArgL (K : PySem.W.Frag) (F H : Hp) (σ : L2.St) : List E → List V → List D → AS → Prop
  | nil {U : AS} (e : ∀ b, ¬ U b) : ArgL K F H σ [] [] [] U
  | ref {i : Nat} {v : V} {es : List E} {vs : List V} {ds : List D} {U : AS} (h : σ[i]? = some (some v)) (r : ArgL K F H σ es vs ds U) : ArgL K F H σ (.ref i :: es) (v :: vs) (.non :: ds) U
  | val {e : E} {v : V} {d : D} {es : List E} {vs : List V} {ds : List D} {U1 U2 U : AS} (nr : ∀ i, e ≠ .ref i) (h : Den K F H v d U1) (r : ArgL K F H σ es vs ds U2) (dj : ∀ b, U1 b → ¬ U2 b) (z : ∀ b, U b ↔ (U1 b ∨ U2 b)) : ArgL K F H σ (e :: es) (v :: vs) (d :: ds) U
section
variable (Y : Ct) (Γ : Fns)
def RVs (F' H' : Hp) (Us' : US) (ds : List D) (vs : List V) (U : AS) : Prop := DenL Y.K F' H' vs ds U ∧ (∀ b, U b → ¬ Tot Us' b) ∧ ∀ b, U b → F' b = none
def tVL (es : List E) : TA := tM Y false (RVs Y) (evVs Γ es)
def tVs : List E → TA
  | [] => tNil
  | e :: es => tCons (tV Y Γ e) (tVs es)
def RAs (σ : L2.St) (es : List E) (F' H' : Hp) (Us' : US) (ds : List D) (vs : List V) (U : AS) : Prop := ArgL Y.K F' H' σ es vs ds U ∧ (∀ b, U b → ¬ Tot Us' b) ∧ ∀ b, U b → F' b = none
def tAL (es : List E) : TA := fun σ H Q => tM Y false (RAs Y σ es) (evAs Γ es) σ H Q
def tAs : List E → TA
  | [] => tNil
  | .ref i :: es => tCons (tVar i) (tAs es)
  | e :: es => tCons (tV Y Γ e) (tAs es)
end
section
variable {X : Cx} {Y : Ct} {Γ : Fns} {e : E} {es : List E} {σ : L2.St} {H : Hp} {α α' β β' : Type} {q : Bool} {R : Hp → Hp → US → α → β → AS → Prop} {F : Hp} {Us : US} {ρ : Rho}
theorem vs_ok : ∀ (es : List E) (σ : L2.St) (H : Hp) (Q : List V → Hp → Prop), tVL Y Γ es σ H Q → tVs Y Γ es σ H Q
  | [], σ, H, Q, ⟨F, ρ, Us, w, h⟩ => by
    have e : evVs Γ [] ρ = .ok [] ρ := by unfold evVs; rfl
    rw [e] at h
    exact h [] F H Us none0 w ⟨.nil no0, fun _ z => z.elim, fun _ z => z.elim⟩ (evo_no Evo.refl no0) fun z => by cases z
  | e :: es, σ, H, Q, ⟨F, ρ, Us, w, h⟩ => by
    rw [evVs, evV_bind (Γ := Γ) (e := e)] at h
    show tV Y Γ e σ H fun x H1 => tVs Y Γ es σ H1 fun xs H2 => Q (x :: xs) H2
    refine seqV w h Evo.refl fun d ρ1 v F1 H1 Us1 U1 w1 r1 n1 ev h => ?_
    refine vs_ok es σ H1 _ ⟨F1, ρ1, Us1, w1, out_bind h (evo_res ev) fun ds ρ2 r2 h => ?_⟩
    intro vs F2 H2 Us2 U2 w2 ⟨l, dj, ou⟩ ev2 _
    have r1' := r1.keep ev2
    refine h (v :: vs) F2 H2 Us2 (fun b => U1 b ∨ U2 b) w2 ⟨.cons r1'.den l (fun b u z => r1'.dj b u (.inr z)) fun b => Iff.rfl, fun b u => u.elim (fun u t => r1'.dj b u (.inl t)) (dj b), fun b u => u.elim (r1'.out b) (ou b)⟩ ?_ fun z => by cases z
    have e2 : Evo F1 H1 (fun x => Tot Us1 x ∨ U1 x) F2 H2 (fun x => Tot Us2 x ∨ (U1 x ∨ U2 x)) :=
      ⟨ev2.fle, fun a o e n => ev2.frm a o e fun t => n (.inl t), fun a t => by
        rcases t with t | t | t
        · exact (ev2.own a (.inl t)).imp .inl id
        · exact .inl (.inr t)
        · exact (ev2.own a (.inr t)).imp .inl id, fun a n q => (ev2.frz a n q).imp .inl id⟩
    exact ev.trans e2
theorem as_ok : ∀ (es : List E) (σ : L2.St) (H : Hp) (Q : List V → Hp → Prop), tAL Y Γ es σ H Q → tAs Y Γ es σ H Q
  | [], σ, H, Q, ⟨F, ρ, Us, w, h⟩ => by
    have e : evAs Γ [] ρ = .ok [] ρ := by unfold evAs; rfl
    rw [e] at h
    exact h [] F H Us none0 w ⟨.nil no0, fun _ z => z.elim, fun _ z => z.elim⟩ (evo_no Evo.refl no0) fun z => by cases z
  | e :: es, σ, H, Q, ⟨F, ρ, Us, w, h⟩ => by
    by_cases hr : ∃ i, e = .ref i
    · obtain ⟨i, rfl⟩ := hr
      rw [evAs] at h
      show tVar i σ H fun x H1 => tAs Y Γ es σ H1 fun xs H2 => Q (x :: xs) H2
      cases c : ρ[i]? with
      | none =>
        have : chkS i ρ = .stk := by unfold chkS; rw [c]
        rw [bind_stk this] at h
        exact h.elim
      | some o =>
        cases o with
        | none =>
          have : chkS i ρ = .stk := by unfold chkS; rw [c]
          rw [bind_stk this] at h
          exact h.elim
        | some d =>
          have : chkS i ρ = .ok () ρ := by unfold chkS; rw [c]
          rw [bind_ok this] at h
          obtain ⟨v, e1, _⟩ := w.den i d c
          refine ⟨v, e1, as_ok es σ H _ ⟨F, ρ, Us, w, out_bind h Evo.refl fun ds ρ2 r2 h => ?_⟩⟩
          intro vs F2 H2 Us2 U2 w2 ⟨l, dj, ou⟩ ev2 _
          exact h (v :: vs) F2 H2 Us2 U2 w2 ⟨.ref e1 l, dj, ou⟩ ev2 fun z => by cases z
    · have eq1 : evAs Γ (e :: es) = (evV Γ e).bind fun x => (evAs Γ es).bind fun ds => M.pure (x :: ds) := by
        rw [← evV_bind (Γ := Γ) (e := e)]
        rw [evAs]
        exact fun i z => hr ⟨i, z⟩
      have eq2 : tAs Y Γ (e :: es) = tCons (tV Y Γ e) (tAs Y Γ es) := by
        rw [tAs]
        exact fun i z => hr ⟨i, z⟩
      rw [eq2]
      have h : Out Y σ F H Us false (RAs Y σ (e :: es)) (evAs Γ (e :: es) ρ) Q := h
      rw [eq1] at h
      show tV Y Γ e σ H fun x H1 => tAs Y Γ es σ H1 fun xs H2 => Q (x :: xs) H2
      refine seqV w h Evo.refl fun d ρ1 v F1 H1 Us1 U1 w1 r1 n1 ev h => ?_
      refine as_ok es σ H1 _ ⟨F1, ρ1, Us1, w1, out_bind h (evo_res ev) fun ds ρ2 r2 h => ?_⟩
      intro vs F2 H2 Us2 U2 w2 ⟨l, dj, ou⟩ ev2 _
      have r1' := r1.keep ev2
      refine h (v :: vs) F2 H2 Us2 (fun b => U1 b ∨ U2 b) w2 ⟨.val (fun i z => hr ⟨i, z⟩) r1'.den l (fun b u z => r1'.dj b u (.inr z)) fun b => Iff.rfl, fun b u => u.elim (fun u t => r1'.dj b u (.inl t)) (dj b), fun b u => u.elim (r1'.out b) (ou b)⟩ ?_ fun z => by cases z
      have e2 : Evo F1 H1 (fun x => Tot Us1 x ∨ U1 x) F2 H2 (fun x => Tot Us2 x ∨ (U1 x ∨ U2 x)) :=
        ⟨ev2.fle, fun a o e n => ev2.frm a o e fun t => n (.inl t), fun a t => by
          rcases t with t | t | t
          · exact (ev2.own a (.inl t)).imp .inl id
          · exact .inl (.inr t)
          · exact (ev2.own a (.inr t)).imp .inl id, fun a n q => (ev2.frz a n q).imp .inl id⟩
      exact ev.trans e2
theorem e_tup {Q : VK} (h : tE Y Γ (.tup es) σ H Q) : tTup (tVs Y Γ es) σ H Q := by
  obtain ⟨F, ρ, Us, w, h⟩ := h
  rw [evB] at h
  have rn : rootOf (.tup es) = none := rfl
  show tVs Y Γ es σ H fun xs H1 => xs.length ≤ sizeLine ∧ ∀ p, H1 p = none → Q (.ref p) (upd H1 p (.tup xs))
  refine vs_ok es σ H _ ⟨F, ρ, Us, w, out_bind h Evo.refl fun ds ρ1 r h => ?_⟩
  intro vs F1 H1 Us1 U1 w1 ⟨l, dj, ou⟩ ev _
  by_cases hl : inLine ds.length = true
  · rw [if_pos hl] at h
    refine ⟨by rw [l.length]; exact of_decide_eq_true hl, fun p hp => ?_⟩
    have g : Grow F1 H1 (upd F1 p (.tup vs)) (upd H1 p (.tup vs)) := Grow.tup w1.le hp
    refine h (.ref p) _ _ Us1 U1 (w1.grow g) (rb_root rn (Root.tup l dj ou w1.le hp)) (ev.trans g.evo) fun z => by cases z
  · rw [if_neg hl] at h
    exact h.elim
theorem e_lst {Q : VK} (h : tE Y Γ (.lst es) σ H Q) : tLst (tVs Y Γ es) σ H Q := by
  obtain ⟨F, ρ, Us, w, h⟩ := h
  rw [evB] at h
  have rn : rootOf (.lst es) = none := rfl
  show tVs Y Γ es σ H fun xs H1 => xs.length ≤ sizeLine ∧ ∀ p, H1 p = none → Q (.ref p) (upd H1 p (.lst xs))
  refine vs_ok es σ H _ ⟨F, ρ, Us, w, out_bind h Evo.refl fun ds ρ1 r h => ?_⟩
  intro vs F1 H1 Us1 U1 w1 ⟨l, dj, ou⟩ ev _
  by_cases hl : inLine ds.length = true
  · rw [if_pos hl] at h
    refine ⟨by rw [l.length]; exact of_decide_eq_true hl, fun p hp => ?_⟩
    have g : Grow F1 H1 F1 (upd H1 p (.lst vs)) := Grow.lst w1.le hp
    refine h (.ref p) _ _ Us1 (fun b => b = p ∨ U1 b) (w1.grow g) (rb_root rn (Root.lst l dj ou w1.le hp fun b t => w1.known t)) (ev.trans ?_) fun z => by cases z
    exact ⟨g.f, fun a o e _ => g.h a o e, fun a t => by
      rcases t with t | t | t
      · exact .inl (.inl t)
      · exact .inr (by rw [t]; exact hp)
      · exact .inl (.inr t), fun a n q => .inr (g.new a n q)⟩
  · rw [if_neg hl] at h
    exact h.elim
/-! ### tests -/
theorem t_dflt {Q : Bool → Hp → Prop} (he : evT Γ e = (evB Γ e).bind fun d => M.lift d.truth) (h : tT Y Γ e σ H Q) : tE Y Γ e σ H fun x H' => ∃ k, TruV Y.K x H' k ∧ Q k H' := by
  obtain ⟨F, ρ, Us, w, h⟩ := h
  rw [he] at h
  refine seqE w h Evo.refl fun d ρ1 v F1 H1 Us1 U1 w1 rb ev qs h => ?_
  obtain ⟨U, den⟩ := rb_den rb
  cases t : d.truth with
  | none => rw [t] at h; exact h.elim
  | some k =>
    rw [t] at h
    exact ⟨k, truth_tru w1.le den t, h k F1 H1 Us1 none0 w1 ⟨rfl, no0⟩ (evo_no (evo_res ev) no0) fun z => by cases z⟩
/-- a test whose value is a truth -/
theorem t_bl {Q : Bool → Hp → Prop} (he : evT Γ e = (evB Γ e).bind fun d => M.lift d.truth) (hb : ∀ ρ d ρ', evB Γ e ρ = .ok d ρ' → ∃ k, d = .bl k) (h : tT Y Γ e σ H Q) : tE Y Γ e σ H fun x H' => ∃ k, x = .bl k ∧ Q k H' := by
  obtain ⟨F, ρ, Us, w, h⟩ := h
  rw [he] at h
  refine ⟨F, ρ, Us, w, out_bind h Evo.refl fun d ρ1 r h => ?_⟩
  intro v F1 H1 Us1 U1 w1 rb ev qs
  obtain ⟨U, den⟩ := rb_den rb
  obtain ⟨k, rfl⟩ := hb ρ d ρ1 r
  cases den
  exact ⟨k, rfl, h k F1 H1 Us1 none0 w1 ⟨rfl, no0⟩ (evo_no (evo_res ev) no0) fun z => by cases z⟩
theorem t_cont {Q : Bool → Hp → Prop} {F1 H1 : Hp} {Us1 : US} {ρ1 : Rho} (w : Wf Y.K F1 H1 σ ρ1 Us1) (ev : Evo F H (Tot Us) F1 H1 (Tot Us1)) (h : Out Y σ F H Us false RT (evT Γ e ρ1) Q) : tT Y Γ e σ H1 Q :=
  ⟨F1, ρ1, Us1, w, out_at h ev⟩
theorem t_not {Q : Bool → Hp → Prop} (h : tT Y Γ (.op .not [e]) σ H Q) : tNot (tT Y Γ e) σ H Q := by
  obtain ⟨F, ρ, Us, w, h⟩ := h
  rw [evT] at h
  refine seqT w h Evo.refl fun k ρ1 F1 H1 Us1 w1 ev h => ?_
  exact h (!k) F1 H1 Us1 none0 w1 ⟨rfl, no0⟩ (evo_no ev no0) fun z => by cases z
theorem t_and {a b : E} {Q : Bool → Hp → Prop} (h : tT Y Γ (.band a b) σ H Q) : tAnd (tT Y Γ a) (tT Y Γ b) σ H Q := by
  obtain ⟨F, ρ, Us, w, h⟩ := h
  rw [evT] at h
  refine seqT w h Evo.refl fun k ρ1 F1 H1 Us1 w1 ev h => ?_
  cases k with
  | true =>
    rw [if_pos rfl] at h ⊢
    exact t_cont w1 ev h
  | false =>
    rw [if_neg Bool.false_ne_true] at h ⊢
    exact h false F1 H1 Us1 none0 w1 ⟨rfl, no0⟩ (evo_no ev no0) fun z => by cases z
theorem t_or {a b : E} {Q : Bool → Hp → Prop} (h : tT Y Γ (.bor a b) σ H Q) : tOr (tT Y Γ a) (tT Y Γ b) σ H Q := by
  obtain ⟨F, ρ, Us, w, h⟩ := h
  rw [evT] at h
  refine seqT w h Evo.refl fun k ρ1 F1 H1 Us1 w1 ev h => ?_
  cases k with
  | true =>
    rw [if_pos rfl] at h ⊢
    exact h true F1 H1 Us1 none0 w1 ⟨rfl, no0⟩ (evo_no ev no0) fun z => by cases z
  | false =>
    rw [if_neg Bool.false_ne_true] at h ⊢
    exact t_cont w1 ev h
end
end MP

end
section
set_option Elab.async false
set_option linter.all false
set_option maxRecDepth 100000
/-! MP9: targets, what is walked. -/
namespace MP
open PySem PySem.Spec PyProof.Rows L2

mutual
def gT (K : PySem.W.Frag) : Tg → TG
  | .nm i => gName i
  | .tp ts => gTup K ts.length (gTs K ts)
def gTs (K : PySem.W.Frag) : List Tg → TGs
  | [] => gNil
  | t :: ts => gCons (gT K t) (gTs K ts)
end
section
variable {K : PySem.W.Frag} {F H : Hp}
theorem setSlot_inv {i : Nat} {o : Option D} {ρ ρ' : Rho} {u : Unit} (h : setSlot i o ρ = .ok u ρ') : i < ρ.length ∧ ρ' = ρ.set i o := by
  unfold setSlot at h
  split at h
  · rename_i q; cases h; exact ⟨q, rfl⟩
  · cases h
theorem bind_inv {α β : Type} {m : M α} {f : α → M β} {ρ ρ' : Rho} {b : β} (h : (m.bind f) ρ = .ok b ρ') : ∃ a ρ1, m ρ = .ok a ρ1 ∧ f a ρ1 = .ok b ρ' := by
  cases r : m ρ with
  | stk => rw [bind_stk r] at h; cases h
  | exc x ρ1 => rw [bind_exc r] at h; cases h
  | ok a ρ1 => rw [bind_ok r] at h; exact ⟨a, ρ1, rfl, h⟩
theorem bind_exc_inv {α β : Type} {m : M α} {f : α → M β} {ρ ρ' : Rho} {x : XV} (h : (m.bind f) ρ = .exc x ρ') : m ρ = .exc x ρ' ∨ ∃ a ρ1, m ρ = .ok a ρ1 ∧ f a ρ1 = .exc x ρ' := by
  cases r : m ρ with
  | stk => rw [bind_stk r] at h; cases h
  | exc x ρ1 => rw [bind_exc r] at h; cases h; exact .inl rfl
  | ok a ρ1 => rw [bind_ok r] at h; exact .inr ⟨a, ρ1, rfl, h⟩
mutual
theorem asgT_exc : ∀ (t : Tg) (d : D) (ρ : Rho) (x : XV) (ρ' : Rho), asgT t d ρ ≠ .exc x ρ'
  | .nm i, d, ρ, x, ρ', h => by
    rw [asgT] at h
    unfold setSlot at h
    split at h <;> cases h
  | .tp ts, .tup ds, ρ, x, ρ', h => by
    rw [asgT] at h
    exact asgTs_exc ts ds ρ x ρ' h
  | .tp ts, .non, ρ, x, ρ', h => by unfold asgT at h; cases h
  | .tp ts, .bl _, ρ, x, ρ', h => by unfold asgT at h; cases h
  | .tp ts, .int _, ρ, x, ρ', h => by unfold asgT at h; cases h
  | .tp ts, .str _, ρ, x, ρ', h => by unfold asgT at h; cases h
  | .tp ts, .lst _ _, ρ, x, ρ', h => by unfold asgT at h; cases h
  | .tp ts, .dct _ _, ρ, x, ρ', h => by unfold asgT at h; cases h
  | .tp ts, .ins _ _ _, ρ, x, ρ', h => by unfold asgT at h; cases h
  | .tp ts, .scr _, ρ, x, ρ', h => by unfold asgT at h; cases h
theorem asgTs_exc : ∀ (ts : List Tg) (ds : List D) (ρ : Rho) (x : XV) (ρ' : Rho), asgTs ts ds ρ ≠ .exc x ρ'
  | [], [], ρ, x, ρ', h => by rw [asgTs] at h; cases h
  | t :: ts, d :: ds, ρ, x, ρ', h => by
    rw [asgTs] at h
    rcases bind_exc_inv h with e | ⟨_, ρ1, _, e⟩
    · exact asgT_exc t d ρ x ρ' e
    · exact asgTs_exc ts ds ρ1 x ρ' e
  | [], _ :: _, ρ, x, ρ', h => by unfold asgTs at h; cases h
  | _ :: _, [], ρ, x, ρ', h => by unfold asgTs at h; cases h
end
theorem asgT_tup {ts : List Tg} {d : D} {ρ ρ' : Rho} {u : Unit} (h : asgT (.tp ts) d ρ = .ok u ρ') : ∃ ds, d = .tup ds ∧ asgTs ts ds ρ = .ok u ρ' := by
  cases d with
  | tup ds => rw [asgT] at h; exact ⟨ds, rfl, h⟩
  | _ => unfold asgT at h; cases h
theorem asgTs_len : ∀ {ts : List Tg} {ds : List D} {ρ ρ' : Rho} {u : Unit}, asgTs ts ds ρ = .ok u ρ' → ds.length = ts.length
  | [], [], _, _, _, _ => rfl
  | t :: ts, d :: ds, ρ, ρ', u, h => by
    rw [asgTs] at h
    obtain ⟨a, ρ1, _, e⟩ := bind_inv h
    simp [asgTs_len e]
  | [], _ :: _, _, _, _, h => by unfold asgTs at h; cases h
  | _ :: _, [], _, _, _, h => by unfold asgTs at h; cases h
/-- a target takes a root -/
def GT (K : PySem.W.Frag) (F H : Hp) (names : List Nat) (U : AS) (σ : L2.St) (Us : US) (ρ' : Rho) (Q : L2.St → Hp → Prop) : Prop :=
  ∀ σ' Us', Wf K F H σ' ρ' Us' → (∀ b, Tot Us' b → Tot Us b ∨ U b) → (∀ j, j ∉ names → σ'[j]? = σ[j]?) → σ'.length = σ.length → Q σ' H
mutual
theorem gT_ok : ∀ (t : Tg) {d : D} {v : V} {σ : L2.St} {ρ ρ' : Rho} {Us : US} {U : AS} {u : Unit} {Q : L2.St → Hp → Prop}, Wf K F H σ ρ Us → Root K F H (Tot Us) v d U → asgT t d ρ = .ok u ρ' → GT K F H (tgN t) U σ Us ρ' Q → gT K t v σ H Q
  | .nm i, d, v, σ, ρ, ρ', Us, U, u, Q, w, r, e, k => by
    rw [asgT] at e
    obtain ⟨hi, rfl⟩ := setSlot_inv e
    unfold gT
    refine k _ _ (w.set r hi) (fun b t => tot_put t) (fun j hj => ?_) (List.length_set ..)
    rw [List.getElem?_set_ne]
    intro z
    exact hj (by unfold tgN; simp [z])
  | .tp ts, d, v, σ, ρ, ρ', Us, U, u, Q, w, r, e, k => by
    obtain ⟨ds, rfl, e⟩ := asgT_tup e
    obtain ⟨a, vs, rfl, ha, l⟩ := den_tup w.le r.den
    unfold gT
    exact ⟨a, vs, rfl, ha, by rw [l.length, asgTs_len e], gTs_ok ts w l r.dj r.out e (by unfold tgN at k; exact k)⟩
theorem gTs_ok : ∀ (ts : List Tg) {ds : List D} {vs : List V} {σ : L2.St} {ρ ρ' : Rho} {Us : US} {U : AS} {u : Unit} {Q : L2.St → Hp → Prop}, Wf K F H σ ρ Us → DenL K F H vs ds U → (∀ b, U b → ¬ Tot Us b) → (∀ b, U b → F b = none) → asgTs ts ds ρ = .ok u ρ' → GT K F H (tgNs ts) U σ Us ρ' Q → gTs K ts vs σ H Q
  | [], [], vs, σ, ρ, ρ', Us, U, u, Q, w, l, dj, ou, e, k => by
    rw [asgTs] at e
    cases e
    cases l
    unfold gTs
    exact ⟨rfl, k σ Us w (fun b t => .inl t) (fun _ _ => rfl) rfl⟩
  | t :: ts, d :: ds, vs, σ, ρ, ρ', Us, U, u, Q, w, l, dj, ou, e, k => by
    rw [asgTs] at e
    obtain ⟨_, ρ1, e1, e2⟩ := bind_inv e
    cases l with
    | cons h l dj2 z =>
      unfold gTs
      refine ⟨_, _, rfl, gT_ok t w ⟨h, fun b u => dj b ((z b).mpr (.inl u)), fun b u => ou b ((z b).mpr (.inl u))⟩ e1 fun σ1 Us1 w1 t1 s1 n1 => ?_⟩
      refine gTs_ok ts w1 l (fun b u q => ?_) (fun b u => ou b ((z b).mpr (.inr u))) e2 fun σ2 Us2 w2 t2 s2 n2 => ?_
      · rcases t1 b q with q | q
        · exact dj b ((z b).mpr (.inr u)) q
        · exact dj2 b q u
      · refine k σ2 Us2 w2 (fun b q => ?_) (fun j hj => ?_) (n2.trans n1)
        · rcases t2 b q with q | q
          · exact (t1 b q).imp id fun q => (z b).mpr (.inl q)
          · exact .inr ((z b).mpr (.inr q))
        · have hj2 : j ∉ tgN t ∧ j ∉ tgNs ts := by
            unfold tgNs at hj
            simpa [not_or] using hj
          exact (s2 j hj2.2).trans (s1 j hj2.1)
  | [], _ :: _, vs, σ, ρ, ρ', Us, U, u, Q, w, l, dj, ou, e, k => by unfold asgTs at e; cases e
  | _ :: _, [], vs, σ, ρ, ρ', Us, U, u, Q, w, l, dj, ou, e, k => by unfold asgTs at e; cases e
end
/-- what a root owns goes over into the frozen heap -/
theorem Wf.freezeU {σ : L2.St} {ρ : Rho} {Us : US} {U : AS} (w : Wf K F H σ ρ Us) (dj : ∀ b, U b → ¬ Tot Us b) (ou : ∀ b, U b → F b = none) :
    ∃ F', Wf K F' H σ ρ Us ∧ Evo F H (fun x => Tot Us x ∨ U x) F' H (Tot Us) ∧ Same F F' ∧ ∀ b, U b → F' b = H b := by
  classical
  let F' : Hp := fun b => if U b then H b else F b
  have fin : ∀ b, U b → F' b = H b := fun b u => if_pos u
  have fout : ∀ b, ¬ U b → F' b = F b := fun b u => if_neg u
  have hF : Same F F' := fun b o e => by
    by_cases u : U b
    · rw [ou b u] at e; cases e
    · rw [fout b u]; exact e
  refine ⟨F', ⟨fun a u r => ?_, w.len, fun j e q => ?_, w.emp, w.dj, fun j b u => ?_⟩, ⟨hF, fun a o e _ => e, fun a t => .inl (.inl t), fun a n q => ?_⟩, hF, fin⟩
  · by_cases z : U a
    · rw [fin a z] at r
      exact .inl r
    · rw [fout a z] at r
      exact w.le a u r
  · obtain ⟨v, e1, den⟩ := w.den j e q
    exact ⟨v, e1, den.keep hF fun b o _ z => z⟩
  · rw [fout b fun z => dj b z ⟨j, u⟩]
    exact w.out j b u
  · by_cases z : U a
    · exact .inl (.inr z)
    · rw [fout a z] at q
      exact absurd n q
end

/-! ### what is walked -/
def Walks (K : PySem.W.Frag) (F : Hp) (J : It) (xs : List D) : Prop :=
  ∀ F' H', Same F F' → Le F' H' → ∀ i, (∀ d, xs[i]? = some d → J.go i H' ∧ ∀ x H'', J.yld i H' x H'' → ∃ F'', Grow F' H' F'' H'' ∧ Den K F'' H'' x d none0) ∧ (xs.length ≤ i → J.stop i H')
section
variable (Y : Ct) (Γ : Fns)
def RI (F' H' : Hp) (Us' : US) (xs : List D) (J : It) (U : AS) : Prop := Walks Y.K F' J xs ∧ ∀ b, ¬ U b
def tI (e : E) : TI := tM Y false (RI Y) (evI Γ e)
end
def iAny (K : PySem.W.Frag) (x : V) (H : Hp) (R : It → Hp → Prop) : Prop :=
  (∃ a, x = .ref a ∧ (∃ xs, SqL K H a xs) ∧ R (Itl K a) H) ∨ (∃ a, x = .ref a ∧ (∃ xs, SqT K H a xs) ∧ R (Itt K a) H) ∨ (∃ z, x = .str z ∧ R (Its z) H)
theorem pi_any {X : Cx} {tg l : Expr} {tl : TE} (hl : PE X l tl) : PI X tg l (fun σ H R => tl σ H fun x H1 => iAny X.K x H1 R) := by
  refine ⟨fun pins s σ H R I h => ?_⟩
  refine thn (hl.run pins s σ H _ I h) fun v s1 ⟨x, H1, I1, r1, q1⟩ => ?_
  rcases q1 with ⟨a, e, ⟨xs, hq⟩, q⟩ | ⟨a, e, ⟨xs, hq⟩, q⟩ | ⟨z, e, q⟩
  · subst e
    cases r1
    obtain ⟨its, rv, p, hz⟩ := I1.list hq
    refine wpAny_pyIter_list p.isList ?_
    refine ⟨s1.heap.objs.size, [s1.heap.objs.size], _, _, H1, rfl, I1.kept (t' := s1.toks) fun b o e => Heap.get?_push_of_some _ e, turn_list a _, ⟨_, Heap.get?_push_size _ rfl, rfl, rfl⟩, fun b hb => ?_, q⟩
    have e : b = s1.heap.objs.size := by simpa using hb
    subst e
    exact I1.fpOk (Nat.le_refl _) (I1.hok.fresh (Nat.le_refl _))
  · subst e
    cases r1
    obtain ⟨its, rv, p, hz⟩ := I1.tuple hq
    refine wpAny_pyIter_tuple (show s1.heap.IsTuple a its.toArray from p) ?_
    refine ⟨s1.heap.objs.size, [s1.heap.objs.size], _, _, H1, rfl, I1.kept (t' := s1.toks) fun b o e => Heap.get?_push_of_some _ e, turn_tuple a _, ⟨_, Heap.get?_push_size _ rfl, rfl, rfl⟩, fun b hb => ?_, q⟩
    have e : b = s1.heap.objs.size := by simpa using hb
    subst e
    exact I1.fpOk (Nat.le_refl _) (I1.hok.fresh (Nat.le_refl _))
  · subst e
    obtain ⟨t, rfl⟩ := r1
    cases ha : z.cps.all (· < 128)
    · exact wpAny_pyIter_wide ha (pi_one (tk := s1.toks) I1 _ (turn_str _ z t "str_iterator" (.inr rfl)) ⟨_, Heap.get?_push_size _ rfl, rfl, rfl⟩ q)
    · exact wpAny_pyIter_ascii ha (pi_one (tk := s1.toks) I1 _ (turn_str _ z t "str_ascii_iterator" (.inl rfl)) ⟨_, Heap.get?_push_size _ rfl, rfl, rfl⟩ q)
section
variable {K : PySem.W.Frag} {F H F' H' : Hp}
theorem denl_at {vs : List V} {ds : List D} {i : Nat} {d : D} {x : V} (l : DenL K F H vs ds none0) (hd : ds[i]? = some d) (hx : vs[i]? = some x) : Den K F H x d none0 := by
  obtain ⟨v, U1, e1, den, sub⟩ := l.getD hd
  rw [hx] at e1
  cases e1
  exact den.iff fun b => ⟨fun u => sub b u, fun z => z.elim⟩
theorem walks_l {a : Addr} {vs : List V} {ds : List D} (h : SqL K F a vs) (l : DenL K F H vs ds none0) : Walks K F (Itl K a) ds := fun F' H' sF le i => by
  have hq : SqL K H' a vs := le.l (same_l sF h)
  have l' : DenL K F' H' vs ds none0 := l.keep sF fun b o u => u.elim
  refine ⟨fun d hd => ?_, fun hl => ⟨vs, hq, by rw [l.length]; exact hl⟩⟩
  obtain ⟨v, U1, e1, den, sub⟩ := l'.getD hd
  refine ⟨⟨vs, v, hq, e1⟩, fun x H'' y => ?_⟩
  obtain ⟨e, y⟩ := y
  subst e
  exact ⟨F', Grow.refl le, denl_at l' hd (y vs hq)⟩
theorem walks_t {a : Addr} {vs : List V} {ds : List D} (h : SqT K F a vs) (l : DenL K F H vs ds none0) : Walks K F (Itt K a) ds := fun F' H' sF le i => by
  have hq : SqT K H' a vs := le.t (same_t sF h)
  have l' : DenL K F' H' vs ds none0 := l.keep sF fun b o u => u.elim
  refine ⟨fun d hd => ?_, fun hl => ⟨vs, hq, by rw [l.length]; exact hl⟩⟩
  obtain ⟨v, U1, e1, den, sub⟩ := l'.getD hd
  refine ⟨⟨vs, v, hq, e1⟩, fun x H'' y => ?_⟩
  obtain ⟨e, y⟩ := y
  subst e
  exact ⟨F', Grow.refl le, denl_at l' hd (y vs hq)⟩
theorem walks_s {z : Str} : Walks K F (Its z) (z.cps.toList.map fun c => .str ⟨#[c]⟩) := fun F' H' sF le i => by
  refine ⟨fun d hd => ?_, fun hl => (by simpa using hl : z.cps.size ≤ i)⟩
  rw [List.getElem?_map, Option.map_eq_some_iff] at hd
  obtain ⟨c, hc, rfl⟩ := hd
  have hc' : z.cps[i]? = some c := by simpa using hc
  refine ⟨?_, fun x H'' y => ?_⟩
  · show i < z.cps.size
    exact (Array.getElem?_eq_some_iff.mp hc').1
  · obtain ⟨e, c', hc2, rfl⟩ := y
    subst e
    rw [hc'] at hc2
    cases hc2
    exact ⟨F', Grow.refl le, .str no0⟩
/-- a value that is frozen is walked -/
theorem walks_any {x : V} {d : D} {xs : List D} {R : It → Hp → Prop} (le : Le F H) (h : Den K F H x d none0) (fz : ∃ e, d = D.frz e) (e : itemsOf d = some xs) (k : ∀ J, Walks K F J xs → R J H) : iAny K x H R := by
  cases h with
  | tup h l => cases e; exact .inr (.inl ⟨_, rfl, ⟨_, le.t h⟩, k _ (walks_t h l)⟩)
  | lstF h l _ => cases e; exact .inl ⟨_, rfl, ⟨_, sq_l (le.lst h)⟩, k _ (walks_l (sq_l h) l)⟩
  | str => cases e; exact .inr (.inr ⟨_, rfl, k _ walks_s⟩)
  | lstU h l n e' => exact ((e' _).mpr (.inl rfl) : none0 _).elim
  | _ => cases e
end
section
variable {X : Cx} {Y : Ct} {Γ : Fns} {e : E} {es : List E} {σ : L2.St} {H : Hp}
theorem i_val {R : It → Hp → Prop} (h : tI Y Γ e σ H R) : tV Y Γ e σ H fun x H1 => iAny Y.K x H1 R := by
  obtain ⟨F, ρ, Us, w, h⟩ := h
  unfold evI at h
  refine seqV w h Evo.refl fun d ρ1 v F1 H1 Us1 U1 w1 r1 n1 ev h => ?_
  cases s : itemsOf d.frz with
  | none => rw [s] at h; exact h.elim
  | some xs =>
    rw [s] at h
    obtain ⟨F2, w2, ev2, s2, fin⟩ := w1.freezeU r1.dj r1.out
    refine walks_any w2.le (r1.den.freeze s2 fin no0) ⟨d, rfl⟩ s fun J wk => ?_
    exact h J F2 H1 Us1 none0 w2 ⟨wk, no0⟩ (evo_no (ev.trans ev2) no0) fun z => by cases z
theorem pi_val {tg a : Expr} (h : PE X a (tE Y Γ e)) (hK : X.K = Y.K) : PI X tg a (tI Y Γ e) := by
  have := pi_any (tg := tg) (pe_v h)
  rw [hK] at this
  exact ⟨fun pins s σ H R I hw => this.run pins s σ H R I (i_val hw)⟩
end
end MP

end
section
set_option Elab.async false
set_option linter.all false
set_option maxRecDepth 100000
/-! MP10: range, zip, enumerate. -/
namespace MP
open PySem PySem.Spec PyProof.Rows L2

theorem mapFrz_eq : ∀ xs : List D, mapFrz xs = xs.map D.frz
  | [] => rfl
  | x :: xs => by simp [mapFrz, mapFrz_eq xs]
mutual
theorem frz_frz : ∀ d : D, d.frz.frz = d.frz
  | .non => rfl
  | .bl _ => rfl
  | .int _ => rfl
  | .str _ => rfl
  | .tup xs => by simp only [D.frz, mapFrz_frz xs]
  | .lst _ xs => by simp only [D.frz, mapFrz_frz xs]
  | .dct _ kvs => by simp only [D.frz, mapFrzKv_frz kvs]
  | .ins _ _ _ => rfl
  | .scr _ => rfl
theorem mapFrz_frz : ∀ xs : List D, mapFrz (mapFrz xs) = mapFrz xs
  | [] => rfl
  | x :: xs => by simp only [mapFrz, frz_frz x, mapFrz_frz xs]
theorem mapFrzKv_frz : ∀ xs : List (D × D), mapFrzKv (mapFrzKv xs) = mapFrzKv xs
  | [] => rfl
  | (k, v) :: xs => by simp only [mapFrzKv, frz_frz v, mapFrzKv_frz xs]
end
section
variable {K : PySem.W.Frag} {F H F' H' : Hp}
theorem rangeD_frz (lo hi : Int) : mapFrz (rangeD lo hi) = rangeD lo hi := by
  rw [mapFrz_eq]
  unfold rangeD
  rw [List.map_map]
  rfl
theorem walks_r {lo hi : Int} {n : Nat} (hn : (hi - lo).toNat = n) : Walks K F (Itr lo n) (rangeD lo hi) := fun F' H' sF le i => by
  unfold rangeD
  rw [hn]
  refine ⟨fun d hd => ?_, fun hl => (by simpa using hl : n ≤ i)⟩
  rw [List.getElem?_map, Option.map_eq_some_iff] at hd
  obtain ⟨k, hk, rfl⟩ := hd
  obtain ⟨hk0, hk1⟩ := List.getElem?_eq_some_iff.mp hk
  have hk2 : i = k := by simpa using hk1
  subst hk2
  have hk : i < n := by simpa using hk0
  exact ⟨hk, fun x H'' y => by
    obtain ⟨e, rfl⟩ := y
    subst e
    exact ⟨F', Grow.refl le, .int no0⟩⟩
theorem zipD_get : ∀ {xs ys : List D} {i : Nat} {d : D}, (zipD xs ys)[i]? = some d → ∃ x y, xs[i]? = some x ∧ ys[i]? = some y ∧ d = .tup [x, y]
  | [], _, i, d, h => by simp [zipD] at h
  | _ :: _, [], i, d, h => by simp [zipD] at h
  | x :: xs, y :: ys, 0, d, h => by simp [zipD] at h; exact ⟨x, y, rfl, rfl, h.symm⟩
  | x :: xs, y :: ys, i + 1, d, h => by
    simp only [zipD, List.getElem?_cons_succ] at h
    obtain ⟨a, b, h1, h2, h3⟩ := zipD_get h
    exact ⟨a, b, by simpa using h1, by simpa using h2, h3⟩
theorem zipD_len : ∀ (xs ys : List D), (zipD xs ys).length = min xs.length ys.length
  | [], _ => by simp [zipD]
  | _ :: _, [] => by simp [zipD]
  | x :: xs, y :: ys => by simp [zipD, zipD_len xs ys]
theorem zipD_frz : ∀ (xs ys : List D), mapFrz (zipD xs ys) = zipD (mapFrz xs) (mapFrz ys)
  | [], _ => by simp [zipD, mapFrz]
  | _ :: _, [] => by simp [zipD, mapFrz]
  | x :: xs, y :: ys => by simp [zipD, mapFrz, zipD_frz xs ys, D.frz]
theorem pair_new {T : Addr} {x y : V} {a b : D} (le : Le F H) (hT : H T = none) (h1 : Den K F H x a none0) (h2 : Den K F H y b none0) : ∃ F'', Grow F H F'' (upd H T (.tup [x, y])) ∧ Den K F'' (upd H T (.tup [x, y])) (.ref T) (.tup [a, b]) none0 := by
  have l : DenL K F H [x, y] [a, b] none0 := .cons h1 (.one h2) (fun _ z => z.elim) fun b => by simp [none0]
  exact ⟨_, Grow.tup le hT, (Root.tup (T := none0) l (fun _ z => z.elim) (fun _ z => z.elim) le hT).den⟩
theorem walks_z {a b : Addr} {vs ws : List V} {ds es : List D} (h : SqL K F a vs) (h2 : SqL K F b ws) (l : DenL K F H vs ds none0) (l2 : DenL K F H ws es none0) : Walks K F (Itz K a b) (zipD ds es) := fun F' H' sF le i => by
  have hq : SqL K H' a vs := le.l (same_l sF h)
  have hq2 : SqL K H' b ws := le.l (same_l sF h2)
  have l' : DenL K F' H' vs ds none0 := l.keep sF fun b o u => u.elim
  have l2' : DenL K F' H' ws es none0 := l2.keep sF fun b o u => u.elim
  refine ⟨fun d hd => ?_, fun hl => ⟨vs, ws, hq, hq2, ?_⟩⟩
  · obtain ⟨d1, d2, e1, e2, rfl⟩ := zipD_get hd
    obtain ⟨v, _, x1, _, _⟩ := l'.getD e1
    obtain ⟨w, _, x2, _, _⟩ := l2'.getD e2
    refine ⟨⟨vs, ws, v, w, hq, hq2, x1, x2⟩, fun x H'' y => ?_⟩
    obtain ⟨T, x, y, rfl, hT, rfl, y1, y2⟩ := y
    exact pair_new le hT (denl_at l' e1 (y1 vs hq)) (denl_at l2' e2 (y2 ws hq2))
  · rw [zipD_len] at hl
    rw [l.length, l2.length]
    omega
theorem walks_zT {a b : Addr} {vs ws : List V} {ds es : List D} (h : SqT K F a vs) (h2 : SqT K F b ws) (l : DenL K F H vs ds none0) (l2 : DenL K F H ws es none0) : Walks K F (RZ.ItzT K a b) (zipD ds es) := fun F' H' sF le i => by
  have hq : SqT K H' a vs := le.t (same_t sF h)
  have hq2 : SqT K H' b ws := le.t (same_t sF h2)
  have l' : DenL K F' H' vs ds none0 := l.keep sF fun b o u => u.elim
  have l2' : DenL K F' H' ws es none0 := l2.keep sF fun b o u => u.elim
  refine ⟨fun d hd => ?_, fun hl => ⟨vs, ws, hq, hq2, ?_⟩⟩
  · obtain ⟨d1, d2, e1, e2, rfl⟩ := zipD_get hd
    obtain ⟨v, _, x1, _, _⟩ := l'.getD e1
    obtain ⟨w, _, x2, _, _⟩ := l2'.getD e2
    refine ⟨⟨vs, ws, v, w, hq, hq2, x1, x2⟩, fun x H'' y => ?_⟩
    obtain ⟨T, x, y, rfl, hT, rfl, y1, y2⟩ := y
    exact pair_new le hT (denl_at l' e1 (y1 vs hq)) (denl_at l2' e2 (y2 ws hq2))
  · rw [zipD_len] at hl
    rw [l.length, l2.length]
    omega
theorem enumD_get : ∀ {xs : List D} {n i : Nat} {d : D}, (enumD n xs)[i]? = some d → ∃ x, xs[i]? = some x ∧ d = .tup [.int ((n + i : Nat) : Int), x]
  | [], n, i, d, h => by simp [enumD] at h
  | x :: xs, n, 0, d, h => by simp [enumD] at h; exact ⟨x, rfl, h.symm⟩
  | x :: xs, n, i + 1, d, h => by
    simp only [enumD, List.getElem?_cons_succ] at h
    obtain ⟨a, h1, h3⟩ := enumD_get h
    refine ⟨a, by simpa using h1, ?_⟩
    rw [h3]
    congr 3
    omega
theorem enumD_len : ∀ (xs : List D) (n : Nat), (enumD n xs).length = xs.length
  | [], _ => rfl
  | x :: xs, n => by simp [enumD, enumD_len xs]
theorem enumD_frz : ∀ (xs : List D) (n : Nat), mapFrz (enumD n xs) = enumD n (mapFrz xs)
  | [], _ => rfl
  | x :: xs, n => by simp [enumD, mapFrz, enumD_frz xs, D.frz]
theorem walks_e {a : Addr} {vs : List V} {ds : List D} (h : SqL K F a vs) (l : DenL K F H vs ds none0) : Walks K F (Ite K a) (enumD 0 ds) := fun F' H' sF le i => by
  have hq : SqL K H' a vs := le.l (same_l sF h)
  have l' : DenL K F' H' vs ds none0 := l.keep sF fun b o u => u.elim
  refine ⟨fun d hd => ?_, fun hl => ⟨vs, hq, ?_⟩⟩
  · obtain ⟨d1, e1, rfl⟩ := enumD_get hd
    obtain ⟨v, _, x1, _, _⟩ := l'.getD e1
    refine ⟨⟨vs, v, hq, x1⟩, fun x H'' y => ?_⟩
    obtain ⟨T, x, rfl, hT, rfl, y1⟩ := y
    rw [Nat.zero_add]
    exact pair_new le hT (.int no0) (denl_at l' e1 (y1 vs hq))
  · rw [enumD_len] at hl
    rw [l.length]
    exact hl
end
section
variable {X : Cx} {Y : Ct} {Γ : Fns} {e : E} {es : List E} {σ : L2.St} {H : Hp}
def rItr (K : PySem.W.Frag) (o : Op) (R : It → Hp → Prop) : List V → Hp → Prop := fun vs H1 => ∃ F ds d xs, Le F H1 ∧ DenL K F H1 vs ds none0 ∧ mapFrz ds = ds ∧ opSem o ds = some d ∧ itemsOf d.frz = some xs ∧ ∀ J, Walks K F J xs → R J H1
theorem i_itr {o : Op} {R : It → Hp → Prop} {P : List V → Hp → Prop} (h : tI Y Γ (.itr o es) σ H R) (imp : ∀ vs H1, rItr Y.K o R vs H1 → P vs H1) : tVs Y Γ es σ H P := by
  obtain ⟨F, ρ, Us, w, h⟩ := h
  have eq : evI Γ (.itr o es) = (evVs Γ es).bind fun ds => (M.lift (opSem o (mapFrz ds))).bind fun x => M.lift (itemsOf x.frz) := by
    unfold evI evV
    rw [evB]
    simp only [M.bind_assoc]
    congr 1
  rw [eq] at h
  refine vs_ok es σ H _ ⟨F, ρ, Us, w, out_bind h Evo.refl fun ds ρ1 r h => ?_⟩
  intro vs F1 H1 Us1 U1 w1 ⟨l, dj, ou⟩ ev _
  obtain ⟨F2, w2, ev2, s2, fin⟩ := w1.freezeU dj ou
  cases s : opSem o (mapFrz ds) with
  | none => rw [s, bind_stk lift_none] at h; exact h.elim
  | some d =>
    rw [s, bind_ok lift_some] at h
    cases s3 : itemsOf d.frz with
    | none => rw [s3] at h; exact h.elim
    | some xs =>
      rw [s3] at h
      refine imp vs H1 ⟨F2, mapFrz ds, d, xs, w2.le, l.freeze s2 fin no0, mapFrz_frz ds, s, s3, fun J wk => ?_⟩
      exact h J F2 H1 Us1 none0 w2 ⟨wk, no0⟩ (evo_no (ev.trans ev2) no0) fun z => by cases z
theorem small62_inv {i : Int} (h : small62 i = true) : -(2 ^ 62) ≤ i ∧ i < 2 ^ 62 := by
  unfold small62 at h
  rw [Bool.and_eq_true] at h
  exact ⟨of_decide_eq_true h.1, of_decide_eq_true h.2⟩
theorem r_range {K : PySem.W.Frag} {vs : List V} {H1 : Hp} {R : It → Hp → Prop} (h : rItr K .range R vs H1) :
    (∃ j : Int, vs = [.int j] ∧ -(2 ^ 62) ≤ j ∧ j < 2 ^ 62 ∧ R (Itr 0 j.toNat) H1) ∨ (∃ i j : Int, vs = [.int i, .int j] ∧ (-(2 ^ 62) ≤ i ∧ i < 2 ^ 62 ∧ -(2 ^ 62) ≤ j ∧ j < 2 ^ 62) ∧ R (Itr i (j - i).toNat) H1) := by
  obtain ⟨F, ds, d, xs, le, l, fz, s, s2, k⟩ := h
  have s : sRange ds = some d := s
  unfold sRange at s
  split at s
  case h_1 j =>
    obtain ⟨hb, rfl⟩ := opt_some s
    cases l with
    | cons h1 l => cases l; cases h1
                   cases s2
                   refine .inl ⟨_, rfl, (small62_inv hb).1, (small62_inv hb).2, k _ ?_⟩
                   rw [rangeD_frz]
                   exact walks_r (by simp)
  case h_2 i j =>
    obtain ⟨hb, rfl⟩ := opt_some s
    rw [Bool.and_eq_true] at hb
    cases l with
    | cons h1 l => cases l with
      | cons h2 l => cases l; cases h1; cases h2
                     cases s2
                     refine .inr ⟨_, _, rfl, ⟨(small62_inv hb.1).1, (small62_inv hb.1).2, (small62_inv hb.2).1, (small62_inv hb.2).2⟩, k _ ?_⟩
                     rw [rangeD_frz]
                     exact walks_r rfl
  case h_3 => cases s
theorem denl_cons {K : PySem.W.Frag} {F H : Hp} {vs : List V} {d : D} {ds : List D} (l : DenL K F H vs (d :: ds) none0) : ∃ v r, vs = v :: r ∧ Den K F H v d none0 ∧ DenL K F H r ds none0 := by
  cases l with
  | cons h l dj z => exact ⟨_, _, rfl, h.iff fun b => ⟨fun u => (z b).mpr (.inl u), fun u => u.elim⟩, l.iff fun b => ⟨fun u => (z b).mpr (.inr u), fun u => u.elim⟩⟩
theorem frz_lst {u : Bool} {xs : List D} (h : (D.lst u xs).frz = .lst u xs) : u = false ∧ mapFrz xs = xs := by
  simp only [D.frz, D.lst.injEq] at h
  exact ⟨h.1.symm, h.2⟩
theorem sq_frz {K : PySem.W.Frag} {F H : Hp} {v : V} {u : Bool} {xs : List D} (h : Den K F H v (.lst u xs) none0) : ∃ a vs, v = .ref a ∧ SqL K F a vs ∧ DenL K F H vs xs none0 := by
  cases h with
  | lstF h l e => exact ⟨_, _, rfl, sq_l h, l⟩
  | lstU h l n e => exact ((e _).mpr (.inl rfl) : none0 _).elim
theorem sqt_frz {K : PySem.W.Frag} {F H : Hp} {v : V} {xs : List D} (h : Den K F H v (.tup xs) none0) : ∃ a vs, v = .ref a ∧ SqT K F a vs ∧ DenL K F H vs xs none0 := by
  cases h with
  | tup h l => exact ⟨_, _, rfl, h, l⟩
theorem r_zip {K : PySem.W.Frag} {vs : List V} {H1 : Hp} {R : It → Hp → Prop} (h : rItr K .zip R vs H1) :
    ∃ a b xs ys, vs = [.ref a, .ref b] ∧ ((SqL K H1 a xs ∧ SqL K H1 b ys ∧ R (Itz K a b) H1) ∨ (SqT K H1 a xs ∧ SqT K H1 b ys ∧ R (RZ.ItzT K a b) H1)) := by
  obtain ⟨F, ds, d, xs, le, l, fz, s, s2, k⟩ := h
  have s : sZip ds = some d := s
  unfold sZip at s
  split at s
  case h_1 =>
    obtain ⟨v, r, rfl, h1, l⟩ := denl_cons l
    obtain ⟨w, r, rfl, h2, l⟩ := denl_cons l
    cases l
    cases s
    obtain ⟨a, vs, rfl, ha, l1⟩ := sq_frz h1
    obtain ⟨b, ws, rfl, hb, l2⟩ := sq_frz h2
    simp only [mapFrz, List.cons.injEq, D.frz, D.lst.injEq, and_true] at fz
    cases s2
    refine ⟨a, b, vs, ws, rfl, .inl ⟨le.l ha, le.l hb, k _ ?_⟩⟩
    rw [zipD_frz, fz.1.2, fz.2.2]
    exact walks_z ha hb l1 l2
  case h_2 =>
    obtain ⟨v, r, rfl, h1, l⟩ := denl_cons l
    obtain ⟨w, r, rfl, h2, l⟩ := denl_cons l
    cases l
    cases s
    obtain ⟨a, vs, rfl, ha, l1⟩ := sqt_frz h1
    obtain ⟨b, ws, rfl, hb, l2⟩ := sqt_frz h2
    simp only [mapFrz, List.cons.injEq, D.frz, D.tup.injEq, and_true] at fz
    cases s2
    refine ⟨a, b, vs, ws, rfl, .inr ⟨le.t ha, le.t hb, k _ ?_⟩⟩
    rw [zipD_frz, fz.1, fz.2]
    exact walks_zT ha hb l1 l2
  case h_3 => cases s
theorem r_enum {K : PySem.W.Frag} {vs : List V} {H1 : Hp} {R : It → Hp → Prop} (h : rItr K .enum R vs H1) : ∃ a xs, vs = [.ref a] ∧ SqL K H1 a xs ∧ R (Ite K a) H1 := by
  obtain ⟨F, ds, d, xs, le, l, fz, s, s2, k⟩ := h
  have s : sEnum ds = some d := s
  unfold sEnum at s
  split at s
  case h_1 =>
    obtain ⟨v, r, rfl, h1, l⟩ := denl_cons l
    cases l
    cases s
    obtain ⟨a, vs, rfl, ha, l1⟩ := sq_frz h1
    simp only [mapFrz, List.cons.injEq, D.frz, D.lst.injEq, and_true] at fz
    cases s2
    refine ⟨a, vs, rfl, le.l ha, k _ ?_⟩
    rw [enumD_frz, fz.2]
    exact walks_e ha l1
  case h_2 => cases s
end
end MP

end
section
set_option Elab.async false
set_option linter.all false
set_option maxRecDepth 100000
/-! MP11: statements. -/
namespace MP
open PySem PySem.Spec PyProof.Rows L2

def Kp (os : List Nat) (σ σ' : L2.St) : Prop := ∀ j ∈ os, σ'[j]? = σ[j]?
theorem Kp.refl (os : List Nat) (σ : L2.St) : Kp os σ σ := fun _ _ => rfl
theorem Kp.trans {os : List Nat} {a b c : L2.St} (h : Kp os a b) (k : Kp os b c) : Kp os a c := fun j hj => (k j hj).trans (h j hj)
section
variable (Y : Ct) (Γ : Fns) (os : List Nat)
/-- what is wanted behind a statement, told from σ, F, H, Us -/
def OutS (σ : L2.St) (F H : Hp) (Us : US) (r : Res Fl) (D : Ends) : Prop := match r with
  | .ok .nx ρ' => ∀ σ' F' H' Us', Wf Y.K F' H' σ' ρ' Us' → Evo F H (Tot Us) F' H' (Tot Us') → Kp os σ σ' → D.nx σ' H'
  | .ok .brk ρ' => ∀ σ' F' H' Us', Wf Y.K F' H' σ' ρ' Us' → Evo F H (Tot Us) F' H' (Tot Us') → Kp os σ σ' → D.bk σ' H'
  | .ok .cnt ρ' => ∀ σ' F' H' Us', Wf Y.K F' H' σ' ρ' Us' → Evo F H (Tot Us) F' H' (Tot Us') → Kp os σ σ' → D.ct σ' H'
  | .ok (.ret d) ρ' => ∀ σ' F' H' Us' v U, Wf Y.K F' H' σ' ρ' Us' → Root Y.K F' H' (Tot Us') v d U → Evo F H (Tot Us) F' H' (fun b => Tot Us' b ∨ U b) → Kp os σ σ' → D.rt v H'
  | .exc x ρ' => ∀ σ' C a F' H' Us', Wf Y.K F' H' σ' ρ' Us' → XDen Y.K Y.cl F' H' C a x → Evo F H (Tot Us) F' H' (Tot Us') → Kp os σ σ' → Y.xc σ' C a H'
  | .stk => False
def tS (s : S) : TS := fun D σ H => ∃ F ρ Us, Wf Y.K F H σ ρ Us ∧ OutS Y os σ F H Us (ex Γ s ρ) D
def tSs (s : List S) : TS := fun D σ H => ∃ F ρ Us, Wf Y.K F H σ ρ Us ∧ OutS Y os σ F H Us (exs Γ s ρ) D
end
section
variable {Y : Ct} {Γ : Fns} {os : List Nat} {σ σ1 : L2.St} {F H F1 H1 : Hp} {Us Us1 : US} {ρ : Rho} {D D' : Ends} {α β' α' : Type} {q2 : Bool} {R' : Hp → Hp → US → α' → β' → AS → Prop}
theorem outS_exc {x : XV} {ρ' : Rho} {Q' : β' → Hp → Prop} (h : OutS Y os σ F H Us (.exc x ρ') D) (e : Evo F H (Tot Us) F1 H1 (Tot Us1)) (kp : Kp os σ σ1) : Out Y σ1 F1 H1 Us1 q2 R' (.exc x ρ' : Res α') Q' :=
  fun C a F' H' Us' w xd ev => h σ1 C a F' H' Us' w xd (e.trans ev) kp
theorem outS_bind {m : M α'} {f : α' → M Fl} {Q' : β' → Hp → Prop} (h : OutS Y os σ F H Us ((m.bind f) ρ) D) (e : Evo F H (Tot Us) F1 H1 (Tot Us1)) (kp : Kp os σ σ1)
    (k : ∀ a ρ1, m ρ = .ok a ρ1 → OutS Y os σ F H Us (f a ρ1) D → Out Y σ1 F1 H1 Us1 q2 R' (.ok a ρ1) Q') : Out Y σ1 F1 H1 Us1 q2 R' (m ρ) Q' := by
  cases r : m ρ with
  | stk => rw [bind_stk r] at h; exact h
  | exc x ρ1 => rw [bind_exc r] at h; exact outS_exc h e kp
  | ok a ρ1 => rw [bind_ok r] at h; exact k a ρ1 r h
theorem outS_bindS {m : M Fl} {f : Fl → M Fl} (h : OutS Y os σ F H Us ((m.bind f) ρ) D) (e : Evo F H (Tot Us) F1 H1 (Tot Us1)) (kp : Kp os σ σ1)
    (k : ∀ a ρ1, m ρ = .ok a ρ1 → OutS Y os σ F H Us (f a ρ1) D → OutS Y os σ1 F1 H1 Us1 (.ok a ρ1) D') : OutS Y os σ1 F1 H1 Us1 (m ρ) D' := by
  cases r : m ρ with
  | stk => rw [bind_stk r] at h; exact h
  | exc x ρ1 => rw [bind_exc r] at h; exact fun σ' C a F' H' Us' w xd ev kp' => h σ' C a F' H' Us' w xd (e.trans ev) (kp.trans kp')
  | ok a ρ1 => rw [bind_ok r] at h; exact k a ρ1 r h
theorem outS_at {r : Res Fl} (h : OutS Y os σ F H Us r D) (e : Evo F H (Tot Us) F1 H1 (Tot Us1)) (kp : Kp os σ σ1) : OutS Y os σ1 F1 H1 Us1 r D := by
  cases r with
  | stk => exact h
  | exc x ρ1 => exact fun σ' C a F' H' Us' w xd ev kp' => h σ' C a F' H' Us' w xd (e.trans ev) (kp.trans kp')
  | ok a ρ1 => cases a with
    | nx => exact fun σ' F' H' Us' w ev kp' => h σ' F' H' Us' w (e.trans ev) (kp.trans kp')
    | brk => exact fun σ' F' H' Us' w ev kp' => h σ' F' H' Us' w (e.trans ev) (kp.trans kp')
    | cnt => exact fun σ' F' H' Us' w ev kp' => h σ' F' H' Us' w (e.trans ev) (kp.trans kp')
    | ret d => exact fun σ' F' H' Us' v U w r ev kp' => h σ' F' H' Us' v U w r (e.trans ev) (kp.trans kp')
theorem seqES {e : E} {f : MP.D → M Fl} {Q' : VK} (w : Wf Y.K F1 H1 σ1 ρ Us1) (h : OutS Y os σ F H Us ((evB Γ e).bind f ρ) D') (ev0 : Evo F H (Tot Us) F1 H1 (Tot Us1)) (kp : Kp os σ σ1)
    (k : ∀ d ρ2 v F2 H2 Us2 U2, Wf Y.K F2 H2 σ1 ρ2 Us2 → RB Y e F2 H2 Us2 d v U2 → Evo F1 H1 (Tot Us1) F2 H2 (fun x => Tot Us2 x ∨ U2 x) → OutS Y os σ F H Us (f d ρ2) D' → Q' v H2) : tE Y Γ e σ1 H1 Q' :=
  ⟨F1, ρ, Us1, w, outS_bind h ev0 kp fun d ρ2 _ h2 => fun v F2 H2 Us2 U2 w2 rb ev qs => k d ρ2 v F2 H2 Us2 U2 w2 rb ev h2⟩
theorem seqVS {e : E} {f : MP.D → M Fl} {Q' : VK} (w : Wf Y.K F1 H1 σ1 ρ Us1) (h : OutS Y os σ F H Us ((evV Γ e).bind f ρ) D') (ev0 : Evo F H (Tot Us) F1 H1 (Tot Us1)) (kp : Kp os σ σ1)
    (k : ∀ d ρ2 v F2 H2 Us2 U2, Wf Y.K F2 H2 σ1 ρ2 Us2 → Root Y.K F2 H2 (Tot Us2) v d U2 → Evo F1 H1 (Tot Us1) F2 H2 (fun x => Tot Us2 x ∨ U2 x) → OutS Y os σ F H Us (f d ρ2) D' → Q' v H2) : tV Y Γ e σ1 H1 Q' :=
  ⟨F1, ρ, Us1, w, outS_bind h ev0 kp fun d ρ2 _ h2 => fun v F2 H2 Us2 U2 w2 rb ev qs => k d ρ2 v F2 H2 Us2 U2 w2 rb.1 ev h2⟩
theorem seqTS {e : E} {f : Bool → M Fl} {Q' : Bool → Hp → Prop} (w : Wf Y.K F1 H1 σ1 ρ Us1) (h : OutS Y os σ F H Us ((evT Γ e).bind f ρ) D') (ev0 : Evo F H (Tot Us) F1 H1 (Tot Us1)) (kp : Kp os σ σ1)
    (k : ∀ d ρ2 F2 H2 Us2, Wf Y.K F2 H2 σ1 ρ2 Us2 → Evo F1 H1 (Tot Us1) F2 H2 (Tot Us2) → OutS Y os σ F H Us (f d ρ2) D' → Q' d H2) : tT Y Γ e σ1 H1 Q' :=
  ⟨F1, ρ, Us1, w, outS_bind h ev0 kp fun d ρ2 _ h2 => fun v F2 H2 Us2 U2 w2 rb ev qs => by
    obtain ⟨rfl, _⟩ := rb
    exact k d ρ2 F2 H2 Us2 w2 (evo_res ev) h2⟩
theorem kp_of {names : List Nat} (h : ∀ j, j ∉ names → σ1[j]? = σ[j]?) (d : ∀ j ∈ os, j ∉ names) : Kp os σ σ1 := fun j hj => h j (d j hj)
/-! ### one by one -/
theorem ss_nil (h : tSs Y Γ os [] D σ H) : tNext D σ H := by
  obtain ⟨F, ρ, Us, w, h⟩ := h
  have e : exs Γ [] ρ = .ok .nx ρ := by rw [exs]; rfl
  rw [e] at h
  exact h σ F H Us w Evo.refl (Kp.refl _ _)
theorem ss_cons {s : S} {r : List S} (h : tSs Y Γ os (s :: r) D σ H) : tSeq (tS Y Γ os s) (tSs Y Γ os r) D σ H := by
  obtain ⟨F, ρ, Us, w, h⟩ := h
  rw [exs] at h
  show tS Y Γ os s _ σ H
  refine ⟨F, ρ, Us, w, outS_bindS h Evo.refl (Kp.refl _ _) fun a ρ1 _ h => ?_⟩
  cases a with
  | nx => exact fun σ' F' H' Us' w' ev kp => ⟨F', ρ1, Us', w', outS_at h ev kp⟩
  | brk => exact h
  | cnt => exact h
  | ret d => exact h
theorem s_exp {e : E} (h : tS Y Γ os (.exp e) D σ H) : tDrop (tE Y Γ e) D σ H := by
  obtain ⟨F, ρ, Us, w, h⟩ := h
  rw [ex] at h
  exact seqES w h Evo.refl (Kp.refl _ _) fun d ρ2 v F2 H2 Us2 U2 w2 rb ev h => h σ F2 H2 Us2 w2 (evo_res ev) (Kp.refl _ _)
theorem s_asg {t : Tg} {e : E} (ht : ∀ j ∈ os, j ∉ tgN t) (h : tS Y Γ os (.asg t e) D σ H) : tAsg (tV Y Γ e) (gT Y.K t) D σ H := by
  obtain ⟨F, ρ, Us, w, h⟩ := h
  rw [ex] at h
  show tV Y Γ e σ H fun x H1 => gT Y.K t x σ H1 D.nx
  refine seqVS w h Evo.refl (Kp.refl _ _) fun d ρ2 v F2 H2 Us2 U2 w2 r2 ev h => ?_
  cases r : asgT t d ρ2 with
  | stk => rw [bind_stk r] at h; exact h.elim
  | exc x ρ3 => exact absurd r (asgT_exc _ _ _ _ _)
  | ok u ρ3 =>
    rw [bind_ok r] at h
    refine gT_ok t w2 r2 r fun σ' Us' w3 sub keep len => ?_
    exact h σ' F2 H2 Us' w3 (ev.weak sub) (kp_of keep ht)
theorem s_par {i j : Nat} {a b : E} (hij : i ≠ j) (ht : ∀ k ∈ os, k ∉ [i, j]) (h : tS Y Γ os (.asg (.tp [.nm i, .nm j]) (.tup [a, b])) D σ H) : tPar i j (tVs Y Γ [a, b]) D σ H := by
  obtain ⟨F, ρ, Us, w, h⟩ := h
  have eq : ex Γ (.asg (.tp [.nm i, .nm j]) (.tup [a, b])) = (evVs Γ [a, b]).bind fun ds => if inLine ds.length then (asgTs [.nm i, .nm j] ds).bind fun _ => M.pure .nx else fun _ => .stk := by
    rw [ex]
    unfold evV
    rw [evB]
    simp only [M.bind_assoc]
    congr 1
    funext ds
    by_cases hl : inLine ds.length = true
    · simp only [if_pos hl, M.pure_bind]
      have : takeP (.tup [a, b]) (MP.D.tup ds) = M.pure (.tup ds) := rfl
      rw [this, M.pure_bind, asgT]
    · simp only [if_neg hl]
      rfl
  rw [eq] at h
  show tVs Y Γ [a, b] σ H fun vs H1 => ∃ v w, vs = [v, w] ∧ D.nx ((σ.set i (some v)).set j (some w)) H1
  refine vs_ok _ σ H _ ⟨F, ρ, Us, w, outS_bind h Evo.refl (Kp.refl _ _) fun ds ρ1 r h => ?_⟩
  intro vs F1 H1 Us1 U1 w1 ⟨l, dj, ou⟩ ev _
  by_cases hl : inLine ds.length = true
  · rw [if_pos hl] at h
    cases r : asgTs [.nm i, .nm j] ds ρ1 with
    | stk => rw [bind_stk r] at h; exact h.elim
    | exc x ρ3 => exact absurd r (asgTs_exc _ _ _ _ _)
    | ok u ρ3 =>
      rw [bind_ok r] at h
      have g := gTs_ok (Q := fun σ' H' => H' = H1 → D.nx σ' H') _ w1 l dj ou r fun σ' Us' w3 sub keep len _ => h σ' F1 H1 Us' w3 (ev.weak sub) (kp_of keep (by simpa [tgNs, tgN] using ht))
      simp only [gTs, gT, gCons, gNil, gName] at g
      obtain ⟨v, r, rfl, v2, r2, rfl, rfl, g⟩ := g
      exact ⟨v, v2, rfl, g trivial⟩
  · rw [if_neg hl] at h
    exact h.elim
theorem s_ite {c : E} {a b : List S} (h : tS Y Γ os (.ite c a b) D σ H) : tIfS (tT Y Γ c) (tSs Y Γ os a) (tSs Y Γ os b) D σ H := by
  obtain ⟨F, ρ, Us, w, h⟩ := h
  rw [ex] at h
  refine seqTS w h Evo.refl (Kp.refl _ _) fun k ρ2 F2 H2 Us2 w2 ev h => ?_
  cases k with
  | true =>
    rw [if_pos rfl] at h ⊢
    exact ⟨F2, ρ2, Us2, w2, outS_at h ev (Kp.refl _ _)⟩
  | false =>
    rw [if_neg Bool.false_ne_true] at h ⊢
    exact ⟨F2, ρ2, Us2, w2, outS_at h ev (Kp.refl _ _)⟩
theorem s_ret {e : E} (h : tS Y Γ os (.ret e) D σ H) : tRet (tV Y Γ e) D σ H := by
  obtain ⟨F, ρ, Us, w, h⟩ := h
  rw [ex] at h
  exact seqVS w h Evo.refl (Kp.refl _ _) fun d ρ2 v F2 H2 Us2 U2 w2 r2 ev h => h σ F2 H2 Us2 v U2 w2 r2 ev (Kp.refl _ _)
theorem s_retN (h : tS Y Γ os .retN D σ H) : tRetN D σ H := by
  obtain ⟨F, ρ, Us, w, h⟩ := h
  rw [ex] at h
  exact h σ F H Us .non none0 w ⟨.non no0, fun _ z => z.elim, fun _ z => z.elim⟩ (evo_no Evo.refl no0) (Kp.refl _ _)
theorem s_pass (h : tS Y Γ os .pass D σ H) : tNext D σ H := by
  obtain ⟨F, ρ, Us, w, h⟩ := h
  rw [ex] at h
  exact h σ F H Us w Evo.refl (Kp.refl _ _)
theorem s_brk (h : tS Y Γ os .brk D σ H) : tBreak D σ H := by
  obtain ⟨F, ρ, Us, w, h⟩ := h
  rw [ex] at h
  exact h σ F H Us w Evo.refl (Kp.refl _ _)
theorem s_cnt (h : tS Y Γ os .cnt D σ H) : tCont D σ H := by
  obtain ⟨F, ρ, Us, w, h⟩ := h
  rw [ex] at h
  exact h σ F H Us w Evo.refl (Kp.refl _ _)
theorem s_for {t : Tg} {it : E} {b : List S} (ht : ∀ j ∈ os, j ∉ tgN t) (h : tS Y Γ os (.for_ t it b) D σ H) : tFor (tI Y Γ it) (gT Y.K t) (tSs Y Γ os b) D σ H := by
  obtain ⟨F, ρ, Us, w, h⟩ := h
  rw [ex] at h
  refine ⟨F, ρ, Us, w, outS_bind h Evo.refl (Kp.refl _ _) fun xs ρ1 r h => ?_⟩
  intro J F1 H1 Us1 U1 w1 ⟨wk, no⟩ ev1 _
  let W : Nat → Nat → L2.St → Hp → Prop := fun i m σ' H' => m = xs.length - i ∧ i ≤ xs.length ∧ ∃ F' ρ' Us', Wf Y.K F' H' σ' ρ' Us' ∧ Evo F H (Tot Us) F' H' (Tot Us') ∧ Same F1 F' ∧ Kp os σ σ' ∧ OutS Y os σ F H Us (loopF t (exs Γ b) (xs.drop i) ρ') D
  refine ⟨W, ⟨xs.length, by simp, Nat.zero_le _, F1, ρ1, Us1, w1, evo_res ev1, Same.refl _, Kp.refl _ _, h⟩, ?_⟩
  rintro i m σ2 H2 ⟨rfl, hi, F2, ρ2, Us2, w2, ev2, s2, kp2, h⟩
  obtain ⟨go, stop⟩ := wk F2 H2 s2 w2.le i
  by_cases hlt : i < xs.length
  · obtain ⟨go, yl⟩ := go xs[i] (by simp [hlt])
    refine .inr ⟨go, W (i + 1) (xs.length - (i + 1)), fun σ' H' wn => ⟨xs.length - (i + 1), by omega, wn⟩, fun x H3 y => ?_⟩
    obtain ⟨F3, g, den⟩ := yl x H3 y
    rw [List.drop_eq_getElem_cons hlt, loopF] at h
    have w3 := w2.grow g
    have ev3 := ev2.trans (g.evo (T := Tot Us2))
    cases r : asgT t xs[i] ρ2 with
    | stk => rw [bind_stk r] at h; exact h.elim
    | exc x ρ3 => exact absurd r (asgT_exc _ _ _ _ _)
    | ok u ρ3 =>
      rw [bind_ok r] at h
      refine gT_ok t w3 ⟨den, fun _ z => z.elim, fun _ z => z.elim⟩ r fun σ4 Us4 w4 sub keep len => ?_
      have kp4 : Kp os σ σ4 := kp2.trans (kp_of keep ht)
      have ev4 : Evo F H (Tot Us) F3 H3 (Tot Us4) := ev3.weak fun b t => (sub b t).elim id fun z => z.elim
      refine ⟨F3, ρ3, Us4, w4, outS_bindS h ev4 kp4 fun a ρ5 _ h => ?_⟩
      cases a with
      | nx => exact fun σ5 F5 H5 Us5 w5 ev5 kp5 => ⟨rfl, hlt, F5, ρ5, Us5, w5, ev4.trans ev5, (s2.trans g.f).trans ev5.fle, kp4.trans kp5, h⟩
      | cnt => exact fun σ5 F5 H5 Us5 w5 ev5 kp5 => ⟨rfl, hlt, F5, ρ5, Us5, w5, ev4.trans ev5, (s2.trans g.f).trans ev5.fle, kp4.trans kp5, h⟩
      | brk => exact fun σ5 F5 H5 Us5 w5 ev5 kp5 => h σ5 F5 H5 Us5 w5 (ev4.trans ev5) (kp4.trans kp5)
      | ret d => exact fun σ5 F5 H5 Us5 v U w5 r5 ev5 kp5 => h σ5 F5 H5 Us5 v U w5 r5 (ev4.trans ev5) (kp4.trans kp5)
  · refine .inl ⟨stop (by omega), ?_⟩
    rw [List.drop_eq_nil_of_le (by omega), loopF] at h
    exact h σ2 F2 H2 Us2 w2 ev2 kp2
theorem s_whl {c : E} {b : List S} (h : tS Y Γ os (.whl c b) D σ H) : tWhile (tT Y Γ c) (tSs Y Γ os b) D σ H := by
  obtain ⟨F, ρ, Us, w, h⟩ := h
  rw [ex] at h
  let W : Nat → L2.St → Hp → Prop := fun m σ' H' => ∃ F' ρ' Us', Wf Y.K F' H' σ' ρ' Us' ∧ Evo F H (Tot Us) F' H' (Tot Us') ∧ Kp os σ σ' ∧ OutS Y os σ F H Us (loopW (evT Γ c) (exs Γ b) m ρ') D
  refine ⟨W, ⟨most, F, ρ, Us, w, Evo.refl, Kp.refl _ _, h⟩, ?_⟩
  rintro m σ2 H2 ⟨F2, ρ2, Us2, w2, ev2, kp2, h⟩
  cases m with
  | zero => rw [loopW] at h; exact h.elim
  | succ m =>
    rw [loopW] at h
    refine seqTS w2 h ev2 kp2 fun k ρ3 F3 H3 Us3 w3 ev3 h => ?_
    have ev3' := ev2.trans ev3
    cases k with
    | true =>
      rw [if_pos rfl] at h ⊢
      refine ⟨W m, fun σ' H' wn => ⟨m, Nat.lt_succ_self _, wn⟩, F3, ρ3, Us3, w3, outS_bindS h ev3' kp2 fun a ρ5 _ h => ?_⟩
      cases a with
      | nx => exact fun σ5 F5 H5 Us5 w5 ev5 kp5 => ⟨F5, ρ5, Us5, w5, ev3'.trans ev5, kp2.trans kp5, h⟩
      | cnt => exact fun σ5 F5 H5 Us5 w5 ev5 kp5 => ⟨F5, ρ5, Us5, w5, ev3'.trans ev5, kp2.trans kp5, h⟩
      | brk => exact fun σ5 F5 H5 Us5 w5 ev5 kp5 => h σ5 F5 H5 Us5 w5 (ev3'.trans ev5) (kp2.trans kp5)
      | ret d => exact fun σ5 F5 H5 Us5 v U w5 r5 ev5 kp5 => h σ5 F5 H5 Us5 v U w5 r5 (ev3'.trans ev5) (kp2.trans kp5)
    | false =>
      rw [if_neg Bool.false_ne_true] at h ⊢
      exact h σ2 F3 H3 Us3 w3 ev3' kp2
end
end MP

end
section
set_option Elab.async false
set_option linter.all false
set_option maxRecDepth 100000
/-! MP12: what changes a list in place. -/
namespace MP
open PySem PySem.Spec PyProof.Rows L2

section
variable {K : PySem.W.Frag} {F H F' H' : Hp}
theorem DenL.split : ∀ (n : Nat) {vs : List V} {ds : List D} {U : AS}, DenL K F H vs ds U → ∃ U1 U2, DenL K F H (vs.take n) (ds.take n) U1 ∧ DenL K F H (vs.drop n) (ds.drop n) U2 ∧ (∀ b, U1 b → ¬ U2 b) ∧ ∀ b, U b ↔ (U1 b ∨ U2 b)
  | 0, vs, ds, U, l => ⟨none0, U, by simpa using .nil no0, by simpa using l, fun _ z => z.elim, fun b => by simp [none0]⟩
  | n + 1, _, _, U, .nil e => ⟨none0, none0, .nil no0, .nil no0, fun _ z => z.elim, fun b => ⟨fun u => absurd u (e b), fun z => z.elim (fun z => z.elim) fun z => z.elim⟩⟩
  | n + 1, _, _, U, .cons (U1 := W1) h l dj e => by
    obtain ⟨U1, U2, l1, l2, d2, e2⟩ := DenL.split n l
    refine ⟨fun b => W1 b ∨ U1 b, U2, .cons h l1 (fun b u z => dj b u ((e2 b).mpr (.inl z))) fun b => Iff.rfl, l2, fun b u => u.elim (fun u z => dj b u ((e2 b).mpr (.inr z))) (d2 b), fun b => by rw [e b, e2 b, or_assoc]⟩
theorem DenL.rev : ∀ {vs : List V} {ds : List D} {U : AS}, DenL K F H vs ds U → DenL K F H vs.reverse ds.reverse U
  | _, _, U, .nil e => .nil e
  | _, _, U, .cons h l dj e => by
    rw [List.reverse_cons, List.reverse_cons]
    exact (DenL.rev l).append (.one h) (fun b u z => dj b z u) fun b => by rw [e b, or_comm]
theorem DenL.pick {vs : List V} {ds : List D} {U : AS} {k : Nat} {d : D} (l : DenL K F H vs ds U) (hd : ds[k]? = some d) : ∃ v U1 U2 U3, vs[k]? = some v ∧ Den K F H v d U2 ∧ DenL K F H (vs.take k) (ds.take k) U1 ∧ DenL K F H (vs.drop (k + 1)) (ds.drop (k + 1)) U3 ∧ (∀ b, U1 b → ¬ U2 b ∧ ¬ U3 b) ∧ (∀ b, U2 b → ¬ U3 b) ∧ ∀ b, U b ↔ (U1 b ∨ U2 b ∨ U3 b) := by
  obtain ⟨U1, W, l1, l2, dj, e⟩ := l.split k
  have hk : k < ds.length := (List.getElem?_eq_some_iff.mp hd).1
  have hk2 : k < vs.length := by rw [l.length]; exact hk
  have he : ds[k] = d := (List.getElem?_eq_some_iff.mp hd).2
  rw [List.drop_eq_getElem_cons hk, List.drop_eq_getElem_cons hk2, he] at l2
  cases l2 with
  | cons h r dj2 e2 =>
    exact ⟨vs[k], U1, _, _, List.getElem?_eq_getElem hk2, h, l1, r, fun b u => ⟨fun z => dj b u ((e2 b).mpr (.inl z)), fun z => dj b u ((e2 b).mpr (.inr z))⟩, dj2, fun b => by rw [e b, e2 b]⟩
/-- a slot's list is rewritten -/
theorem Wf.upd {σ : L2.St} {ρ : Rho} {Us : US} {i : Nat} {x : V} {d d' : D} {U' W : AS} (w : Wf K F H σ ρ Us) (hi : ρ[i]? = some (some d)) (hx : σ[i]? = some (some x)) (fr : ∀ a o, H a = some o → ¬ Us i a → H' a = some o)
    (den : Den K F H' x d' U') (sub : ∀ b, U' b → Us i b ∨ W b) (dj : ∀ b, W b → ¬ Tot Us b) (ou : ∀ b, W b → F b = none) : Wf K F H' σ (ρ.set i (some d')) (Us.put i U') where
  le := fun a u e => by
    have n : ¬ Us i a := fun z => by rw [w.out i a z] at e; cases e
    rcases w.le a u e with q | ⟨dc, o, q⟩
    · exact .inl (fr a u q n)
    · exact .inr ⟨dc, o, fr a _ q n⟩
  len := by rw [List.length_set, w.len]
  den := fun j e h => by
    have hl : i < ρ.length := (List.getElem?_eq_some_iff.mp hi).1
    by_cases hj : j = i
    · subst hj
      rw [List.getElem?_set_self hl] at h
      cases h
      rw [US.put_same]
      exact ⟨x, hx, den⟩
    · rw [List.getElem?_set_ne (Ne.symm hj)] at h
      rw [US.put_ne _ _ hj]
      obtain ⟨v, e1, den1⟩ := w.den j e h
      exact ⟨v, e1, den1.keep (Same.refl _) fun b o u z => fr b o z fun z => hj (w.dj j i b u z)⟩
  emp := fun j h b => by
    have hl : i < ρ.length := (List.getElem?_eq_some_iff.mp hi).1
    by_cases hj : j = i
    · subst hj
      exact absurd (List.getElem?_set_self hl) (h d')
    · rw [US.put_ne _ _ hj]
      refine w.emp j (fun e q => h e ?_) b
      rw [List.getElem?_set_ne (Ne.symm hj)]
      exact q
  dj := fun j k b h1 h2 => by
    by_cases hj : j = i
    · subst hj
      by_cases hk : k = j
      · exact hk.symm
      · rw [US.put_same] at h1
        rw [US.put_ne _ _ hk] at h2
        rcases sub b h1 with z | z
        · exact w.dj j k b z h2
        · exact absurd ⟨k, h2⟩ (dj b z)
    · rw [US.put_ne _ _ hj] at h1
      by_cases hk : k = i
      · subst hk
        rw [US.put_same] at h2
        rcases sub b h2 with z | z
        · exact w.dj j k b h1 z
        · exact absurd ⟨j, h1⟩ (dj b z)
      · rw [US.put_ne _ _ hk] at h2
        exact w.dj j k b h1 h2
  out := fun j b h => by
    by_cases hj : j = i
    · subst hj
      rw [US.put_same] at h
      exact (sub b h).elim (w.out j b) (ou b)
    · rw [US.put_ne _ _ hj] at h
      exact w.out j b h
def rOf : MOp → V → List V → Hp → VK → Prop
  | .append => rAppend
  | .extend => rExtend
  | .popLast => rPop
  | .popAt => rPopAt
  | .insert => fun x vs H Q => ∃ (l : Addr) (xs : List V) (i : Int) (y : V), x = .ref l ∧ vs = [.int i, y] ∧ H l = some (.lst xs) ∧ xs.length < sizeLine ∧ 0 ≤ i ∧ i < 2 ^ 63 ∧ Q .non (L2.upd H l (.lst (xs.take i.toNat ++ [y] ++ xs.drop i.toNat)))
  | .reverse => rReverse
  | .clear => rClear
  | _ => fun _ _ _ _ => False
/-- what the change comes to -/
def Mut (K : PySem.W.Frag) (F H : Hp) (o : MOp) (x : V) (vs : List V) (U W : AS) (r d' : D) : Prop :=
  ∃ l xs ys y U' V', x = .ref l ∧ U l ∧ H l = some (.lst xs) ∧ Den K F (L2.upd H l (.lst ys)) x d' U' ∧ Den K F (L2.upd H l (.lst ys)) y r V' ∧ (∀ b, V' b → ¬ U' b) ∧ (∀ b, U' b → U b ∨ W b) ∧ (∀ b, V' b → U b) ∧ ∀ Q : VK, Q y (L2.upd H l (.lst ys)) → rOf o x vs H Q
theorem mut_by {o : MOp} {l : Addr} {xs ys : List V} {ds : List D} {vs : List V} {U U0 W U1 V' : AS} {y : V} {r : D} (h : H l = some (.lst xs)) (n : ¬ U0 l) (e : ∀ b, U b ↔ (b = l ∨ U0 b)) (hW : ∀ b, U b → ¬ W b)
    (ld : DenL K F H ys ds U1) (ry : Den K F H y r V') (s1 : ∀ b, U1 b → U0 b ∨ W b) (s2 : ∀ b, V' b → U0 b) (dj : ∀ b, V' b → ¬ U1 b) (k : ∀ Q : VK, Q y (L2.upd H l (.lst ys)) → rOf o (.ref l) vs H Q) : Mut K F H o (.ref l) vs U W r (.lst true ds) := by
  have nl : ¬ U1 l := fun z => (s1 l z).elim n (hW l ((e l).mpr (.inl rfl)))
  have kp : ∀ b o, b ≠ l → H b = some o → (L2.upd H l (.lst ys)) b = some o := fun b o ne z => by rw [upd_ne ne]; exact z
  refine ⟨l, xs, ys, y, fun b => b = l ∨ U1 b, V', rfl, (e l).mpr (.inl rfl), h, .lstU upd_same (ld.keep (Same.refl _) fun b o u z => kp b o (fun q => nl (q ▸ u)) z) nl fun b => Iff.rfl, ry.keep (Same.refl _) fun b o u z => kp b o (fun q => n (q ▸ s2 b u)) z, fun b u z => ?_, fun b u => ?_, fun b u => (e b).mpr (.inr (s2 b u)), k⟩
  · rcases z with z | z
    · subst z; exact n (s2 _ u)
    · exact dj b u z
  · rcases u with u | u
    · exact .inl ((e b).mpr (.inl u))
    · exact (s1 b u).imp (fun z => (e b).mpr (.inr z)) id
theorem denl_one {v : List V} {d : D} {U : AS} (l : DenL K F H v [d] U) : ∃ x, v = [x] ∧ Den K F H x d U := by
  cases l with
  | cons h r dj e =>
    cases r with
    | nil z => exact ⟨_, rfl, h.iff fun b => ⟨fun u => (e b).mpr (.inl u), fun u => ((e b).mp u).elim id fun q => absurd q (z b)⟩⟩
theorem mop_ok {o : MOp} {x : V} {d r d' : D} {ds : List D} {vs : List V} {U W : AS} (le : Le F H) (h : Den K F H x d U) (l : DenL K F H vs ds W) (hW : ∀ b, U b → ¬ W b) (e : mopSem o d ds = some (r, d')) : Mut K F H o x vs U W r d' := by
  unfold mopSem at e
  split at e
  case h_1 =>
    obtain ⟨y, rfl, hy⟩ := denl_one l
    split at e
    · rename_i hz
      cases e
      cases h with
      | lstU h l0 n eU =>
        refine mut_by h n eU hW (l0.append (.one hy) (fun b u z => hW b ((eU b).mpr (.inr u)) z) fun b => Iff.rfl) (.non no0) (fun b u => u) (fun _ z => z.elim) (fun _ z => z.elim) fun Q q => ?_
        exact ⟨_, _, _, rfl, rfl, h, by rw [l0.length]; exact of_decide_eq_true hz, q⟩
    · cases e
  case h_2 =>
    obtain ⟨y, rfl, hy⟩ := denl_one l
    split at e
    · rename_i hz
      cases e
      rw [Bool.and_eq_true] at hz
      obtain ⟨a, ws, U2, rfl, ha, l2, _⟩ := den_lst le hy
      cases h with
      | lstU h l0 n eU =>
        refine mut_by h n eU hW (l0.append (l2.none hz.1) (fun _ _ z => z) fun b => Iff.rfl) (.non no0) (fun b u => u.elim .inl fun z => z.elim) (fun _ z => z.elim) (fun _ z => z.elim) fun Q q => ?_
        exact ⟨_, _, _, _, rfl, rfl, h, ha, by rw [l0.length, l2.length]; exact of_decide_eq_true hz.2, q⟩
    · cases e
  case h_3 xs =>
    cases l
    obtain ⟨z, hz, e⟩ := Option.map_eq_some_iff.mp e
    cases e
    rw [List.getLast?_eq_getElem?] at hz
    cases h with
    | lstU h l0 n eU =>
      obtain ⟨v, U1, U2, U3, hv, hd, l1, l3, d1, d2, eu⟩ := l0.pick hz
      rw [← l0.length] at hv
      have e1 : ∀ {α : Type} (q : List α), q.take (q.length - 1) = q.dropLast := fun q => by rw [List.dropLast_eq_take]
      rw [e1, ← l0.length, e1] at l1
      refine mut_by h n eU hW l1 hd (fun b u => .inl ((eu b).mpr (.inl u))) (fun b u => (eu b).mpr (.inr (.inl u))) (fun b u z => (d1 b z).1 u) fun Q q => ?_
      exact ⟨_, _, _, rfl, rfl, h, hv, q⟩
  case h_4 xs i =>
    obtain ⟨y, rfl, hy⟩ := denl_one l
    cases hy
    split at e
    · rename_i hs
      split at e
      · rename_i k hk
        obtain ⟨z, hz, e⟩ := Option.map_eq_some_iff.mp e
        cases e
        cases h with
        | lstU h l0 n eU =>
          obtain ⟨v, U1, U2, U3, hv, hd, l1, l3, d1, d2, eu⟩ := l0.pick hz
          have lw := l1.append l3 (fun b u => (d1 b u).2) fun b => Iff.rfl
          rw [← List.eraseIdx_eq_take_drop_succ, ← List.eraseIdx_eq_take_drop_succ] at lw
          refine mut_by h n eU hW lw hd (fun b u => .inl ((eu b).mpr (u.elim .inl fun z => .inr (.inr z)))) (fun b u => (eu b).mpr (.inr (.inl u))) (fun b u z => z.elim (fun z => (d1 b z).1 u) (d2 b u)) fun Q q => ?_
          rw [← l0.length] at hk
          have sm := small62_inv hs
          exact ⟨_, _, _, k, _, rfl, rfl, h, by omega, by omega, (ixN_seq hk).1, hv, q⟩
      · cases e
    · cases e
  case h_5 =>
    cases l
    cases e
    cases h with
    | lstU h l0 n eU =>
      refine mut_by h n eU hW l0.rev (.non no0) (fun b u => .inl u) (fun _ z => z.elim) (fun _ z => z.elim) fun Q q => ?_
      exact ⟨_, _, rfl, rfl, h, q⟩
  case h_6 =>
    cases l
    cases e
    cases h with
    | lstU h l0 n eU =>
      refine mut_by h n eU hW (.nil no0) (.non no0) (fun _ z => z.elim) (fun _ z => z.elim) (fun _ z => z.elim) fun Q q => ?_
      exact ⟨_, _, rfl, rfl, h, q⟩
  case h_7 xs i dd =>
    cases l with
    | cons h1 l2 dj2 e2 =>
      cases h1
      obtain ⟨y, rfl, hy⟩ := denl_one l2
      split at e
      · rename_i hz
        cases e
        simp only [Bool.and_eq_true, decide_eq_true_eq] at hz
        cases h with
        | lstU h l0 n eU =>
          obtain ⟨U1, U2, la, lb, d12, eu⟩ := l0.split i.toNat
          refine mut_by h n eU hW ((la.append (.one hy) (fun b u z => hW b ((eU b).mpr (.inr ((eu b).mpr (.inl u)))) ((e2 b).mpr (.inr z))) fun b => Iff.rfl).append lb (fun b u => u.elim (d12 b) fun z q => hW b ((eU b).mpr (.inr ((eu b).mpr (.inr q)))) ((e2 b).mpr (.inr z))) fun b => Iff.rfl) (.non no0) (fun b u => ?_) (fun _ z => z.elim) (fun _ z => z.elim) fun Q q => ?_
          · rcases u with (u | u) | u
            · exact .inl ((eu b).mpr (.inl u))
            · exact .inr ((e2 b).mpr (.inr u))
            · exact .inl ((eu b).mpr (.inr u))
          · have sm := small62_inv hz.2
            exact ⟨_, _, _, _, rfl, rfl, h, by rw [l0.length]; exact hz.1.1, hz.1.2, by omega, q⟩
      · cases e
  case h_8 => cases e
end
section
variable {X : Cx} {Y : Ct} {Γ : Fns} {os : List Nat} {e : E} {es : List E} {σ : L2.St} {H : Hp} {D : Ends}
theorem e_mtd {o : MOp} {i : Nat} {Q : VK} (h : tE Y Γ (.mtd o i es) σ H Q) : tBM Y.K "list" (rOf o) (tVar i) (tVs Y Γ es) σ H Q := by
  obtain ⟨F, ρ, Us, w, h⟩ := h
  rw [evB] at h
  show tVar i σ H fun x H1 => tyV Y.K "list" x H1 ∧ tVs Y Γ es σ H1 fun xs H2 => rOf o x xs H2 Q
  have rn : rootOf (.mtd o i es) = none := rfl
  cases c : chkL i ρ with
  | stk => rw [bind_stk c] at h; exact h.elim
  | exc x ρ1 =>
    unfold chkL at c
    split at c <;> cases c
  | ok u ρ1 =>
    rw [bind_ok c] at h
    unfold chkL at c
    split at c
    case h_2 => cases c
    case h_1 xs hi =>
      cases c
      obtain ⟨x, hx, den⟩ := w.den i _ hi
      refine ⟨x, hx, ?_, ?_⟩
      · obtain ⟨a, vs, U1, rfl, ha, _, _⟩ := den_lst w.le den
        exact .inl ⟨rfl, vs, sq_l ha⟩
      · refine vs_ok es σ H _ ⟨F, ρ, Us, w, out_bind h Evo.refl fun ds ρ1 r h => ?_⟩
        intro vs F1 H1 Us1 U1 w1 ⟨l, dj, ou⟩ ev _
        unfold mutV at h
        split at h
        case h_2 => exact h.elim
        case h_1 d hi1 =>
          split at h
          case h_2 => exact h.elim
          case h_1 rv d' hm =>
            obtain ⟨x', hx', den1⟩ := w1.den i _ hi1
            rw [hx] at hx'
            cases hx'
            obtain ⟨l1, xs1, ys, y, U', V', rfl, ul, hl, dx, dy, djv, s1, s2, k⟩ := mop_ok w1.le den1 l (fun b u z => dj b z ⟨i, u⟩) hm
            have fr : ∀ a o, H1 a = some o → ¬ Us1 i a → (L2.upd H1 l1 (.lst ys)) a = some o := fun a o z n => by
              have ne : a ≠ l1 := fun q => n (by rw [q]; exact ul)
              rw [upd_ne ne]; exact z
            have w2 := w1.upd hi1 hx fr dx s1 dj ou
            have tt : ∀ b, Tot (Us1.put i U') b → Tot Us1 b ∨ U1 b := fun b t => by
              rcases tot_put t with z | z
              · exact .inl z
              · exact (s1 b z).imp (fun q => ⟨i, q⟩) id
            refine k Q (h y F1 _ (Us1.put i U') V' w2 (rb_root rn ⟨dy, fun b u t => ?_, fun b u => w1.out i b (s2 b u)⟩) ?_ fun z => by cases z)
            · obtain ⟨j, t⟩ := t
              by_cases hj : j = i
              · subst hj; rw [US.put_same] at t; exact djv b u t
              · rw [US.put_ne _ _ hj] at t
                exact hj (w1.dj j i b t (s2 b u))
            · have e2 : Evo F1 H1 (fun x => Tot Us1 x ∨ U1 x) F1 (L2.upd H1 l1 (.lst ys)) (fun x => Tot (Us1.put i U') x ∨ V' x) :=
                ⟨Same.refl _, fun a o z n => fr a o z fun q => n (.inl ⟨i, q⟩), fun a t => .inl (t.elim (tt a) fun z => .inl ⟨i, s2 a z⟩), fun a n q => absurd n q⟩
              exact ev.trans e2
theorem s_sti {i : Nat} {k e : E} (h : tS Y Γ os (.sti i k e) D σ H) : tAsg (tV Y Γ e) (gSub (tVar i) (tV Y Γ k) rSetL) D σ H := by
  obtain ⟨F, ρ, Us, w, h⟩ := h
  rw [ex] at h
  show tV Y Γ e σ H fun v H1 => tVar i σ H1 fun o H1 => tV Y Γ k σ H1 fun j H2 => rSetL o j v H2 fun H3 => D.nx σ H3
  refine seqVS w h Evo.refl (Kp.refl _ _) fun d ρ1 v F1 H1 Us1 U1 w1 r1 ev h => ?_
  cases c : chkS i ρ1 with
  | stk => rw [bind_stk c] at h; exact h.elim
  | exc x ρ2 =>
    unfold chkS at c
    split at c <;> cases c
  | ok u ρ2 =>
    rw [bind_ok c] at h
    unfold chkS at c
    split at c
    case h_2 => cases c
    case h_1 d0 hi =>
      cases c
      obtain ⟨x, hx, den0⟩ := w1.den i _ hi
      clear den0
      refine ⟨x, hx, ?_⟩
      refine seqVS w1 h (evo_res ev) (Kp.refl _ _) fun kd ρ2 j F2 H2 Us2 U2 w2 rb2 ev2 h => ?_
      have den2 := rb2.den
      have r2 := r1.keep (evo_res ev2)
      cases c2 : setV i kd d ρ2 with
      | stk => rw [bind_stk c2] at h; exact h.elim
      | exc x ρ2 =>
        unfold setV at c2
        split at c2
        · split at c2 <;> cases c2
        · cases c2
      | ok u ρ3 =>
        rw [bind_ok c2] at h
        unfold setV at c2
        split at c2
        case h_2 => cases c2
        case h_1 d1 hi2 =>
          split at c2
          case h_2 => cases c2
          case h_1 d' hm =>
            cases c2
            obtain ⟨x', hx', den1⟩ := w2.den i _ hi2
            rw [hx] at hx'
            cases hx'
            unfold mutS at hm
            split at hm
            case h_2 => cases hm
            case h_1 xs kk =>
              cases den2
              obtain ⟨jj, hj, rfl⟩ := Option.map_eq_some_iff.mp hm
              generalize hU : Us2 i = UU at den1
              cases den1 with
              | lstU hl l0 n eU =>
                have hjl : jj < xs.length := (ixN_seq hj).2.1
                obtain ⟨v0, W1, W2, W3, hv, hd, l1, l3, d1, d2, eu⟩ := l0.pick (List.getElem?_eq_getElem hjl)
                rename_i l vs U0
                have djW : ∀ b, U0 b → ¬ U1 b := fun b u z => r2.dj b z ⟨i, by rw [hU]; exact (eU b).mpr (.inr u)⟩
                have lw : DenL Y.K F2 H2 (vs.set jj v) (xs.set jj d) (fun b => (W1 b ∨ (U1 b ∨ W3 b))) := by
                  rw [List.set_eq_take_append_cons_drop, List.set_eq_take_append_cons_drop, if_pos hjl, if_pos (by rw [l0.length]; exact hjl)]
                  refine l1.append (.cons r2.den l3 (fun b u z => djW b ((eu b).mpr (.inr (.inr z))) u) fun b => Iff.rfl) (fun b u z => ?_) fun b => Iff.rfl
                  rcases z with z | z
                  · exact djW b ((eu b).mpr (.inl u)) z
                  · exact (d1 b u).2 z
                have nl : ¬ (W1 l ∨ (U1 l ∨ W3 l)) := fun z => by
                  rcases z with z | z | z
                  · exact n ((eu l).mpr (.inl z))
                  · exact r2.dj l z ⟨i, by rw [hU]; exact (eU l).mpr (.inl rfl)⟩
                  · exact n ((eu l).mpr (.inr (.inr z)))
                have den' : Den Y.K F2 (L2.upd H2 l (.lst (vs.set jj v))) (.ref l) (.lst true (xs.set jj d)) (fun b => b = l ∨ (W1 b ∨ (U1 b ∨ W3 b))) :=
                  .lstU upd_same (lw.keep (Same.refl _) fun b o u z => by
                    have ne : b ≠ l := fun q => nl (by rw [← q]; exact u)
                    rw [upd_ne ne]; exact z) nl fun b => Iff.rfl
                have fr : ∀ a o, H2 a = some o → ¬ Us2 i a → (L2.upd H2 l (.lst (vs.set jj v))) a = some o := fun a o z n => by
                  have ne : a ≠ l := fun q => n (by rw [hU, q]; exact (eU l).mpr (.inl rfl))
                  rw [upd_ne ne]; exact z
                have sub : ∀ b, (b = l ∨ (W1 b ∨ (U1 b ∨ W3 b))) → Us2 i b ∨ U1 b := fun b z => by
                  rw [hU]
                  rcases z with z | z | z | z
                  · exact .inl ((eU b).mpr (.inl z))
                  · exact .inl ((eU b).mpr (.inr ((eu b).mpr (.inl z))))
                  · exact .inr z
                  · exact .inl ((eU b).mpr (.inr ((eu b).mpr (.inr (.inr z)))))
                have w3 := w2.upd hi2 hx fr den' sub (fun b u t => r2.dj b u t) r2.out
                refine ⟨l, vs, kk, jj, rfl, rfl, hl, by rw [l0.length]; exact hj, h σ F2 _ _ w3 ?_ (Kp.refl _ _)⟩
                have e2 : Evo F1 H1 (fun x => Tot Us1 x ∨ U1 x) F2 H2 (fun x => Tot Us2 x ∨ U1 x) :=
                  ⟨ev2.fle, fun a o e n => ev2.frm a o e fun t => n (.inl t), fun a t => t.elim (fun t => (ev2.own a (.inl t)).imp .inl id) fun t => .inl (.inr t), fun a n q => (ev2.frz a n q).imp .inl id⟩
                refine (ev.trans e2).trans ⟨Same.refl _, fun a o z n => fr a o z fun q => n (.inl ⟨i, q⟩), fun a t => .inl ?_, fun a n q => absurd n q⟩
                rcases tot_put t with z | z
                · exact .inl z
                · exact (sub a z).imp (fun q => ⟨i, q⟩) id
end
end MP

end
section
set_option Elab.async false
set_option linter.all false
set_option maxRecDepth 100000
/-! MP13: list comprehensions. -/
namespace MP
open PySem PySem.Spec PyProof.Rows L2

section
variable {K : PySem.W.Frag} {F H F' H' : Hp}
theorem Evo.plus {T T' A : AS} (e : Evo F H T F' H' T') : Evo F H (fun b => T b ∨ A b) F' H' (fun b => T' b ∨ A b) :=
  ⟨e.fle, fun a o h n => e.frm a o h fun t => n (.inl t), fun a t => t.elim (fun t => (e.own a t).imp .inl id) fun t => .inl (.inr t), fun a n q => (e.frz a n q).imp .inl id⟩
theorem Evo.iff {T T' S S' : AS} (e : Evo F H T F' H' T') (h : ∀ b, T b ↔ S b) (h' : ∀ b, T' b ↔ S' b) : Evo F H S F' H' S' := (e.more fun b t => (h b).mp t).weak fun b t => (h' b).mpr t
theorem Evo.at {T : AS} {D : Addr} {o : HO} (h : T D) : Evo F H T F (upd H D o) T :=
  ⟨Same.refl _, fun a u e n => by
    have ne : a ≠ D := fun q => n (by rw [q]; exact h)
    rw [upd_ne ne]; exact e, fun a t => .inl t, fun a n q => absurd n q⟩
theorem Wf.sig {σ σ' : L2.St} {ρ : Rho} {Us : US} (w : Wf K F H σ ρ Us) (h : ∀ (j : Nat) (d : MP.D), ρ[j]? = some (some d) → σ'[j]? = σ[j]?) (l : σ'.length = σ.length) : Wf K F H σ' ρ Us :=
  ⟨w.le, l.trans w.len, fun i d e => let ⟨v, e1, den⟩ := w.den i d e; ⟨v, (h i d e).trans e1, den⟩, w.emp, w.dj, w.out⟩
theorem Wf.at {σ : L2.St} {ρ : Rho} {Us : US} {D : Addr} {o : HO} (w : Wf K F H σ ρ Us) (h : ¬ Tot Us D) (f : F D = none) : Wf K F (L2.upd H D o) σ ρ Us :=
  ⟨fun a u e => by
    have ne : a ≠ D := fun q => by rw [q, f] at e; cases e
    rw [upd_ne ne]
    exact w.le a u e, w.len, fun i d e => let ⟨v, e1, den⟩ := w.den i d e; ⟨v, e1, den.keep (Same.refl _) fun b o' u z => by
      have ne : b ≠ D := fun q => h (by rw [← q]; exact ⟨i, u⟩)
      rw [upd_ne ne]; exact z⟩, w.emp, w.dj, w.out⟩
def US.wipe (Us : US) : List Nat → US
  | [] => Us
  | v :: vs => (US.wipe Us vs).put v none0
theorem US.wipe_in {Us : US} {i : Nat} {b : Addr} : ∀ {vs : List Nat}, Us.wipe vs i b → Us i b ∧ i ∉ vs
  | [], h => ⟨h, by simp⟩
  | v :: vs, h => by
    unfold US.wipe at h
    by_cases hi : i = v
    · subst hi; rw [US.put_same] at h; exact h.elim
    · rw [US.put_ne _ _ hi] at h
      obtain ⟨h1, h2⟩ := US.wipe_in h
      exact ⟨h1, by simp only [List.mem_cons, not_or]; exact ⟨hi, h2⟩⟩
theorem wipeR_length (ρ : Rho) : ∀ vs : List Nat, (wipeR ρ vs).length = ρ.length
  | [] => rfl
  | v :: vs => by unfold wipeR; rw [List.length_set, wipeR_length ρ vs]
theorem Wf.wipe {σ : L2.St} {ρ : Rho} {Us : US} (w : Wf K F H σ ρ Us) : ∀ vs : List Nat, Wf K F H (L2.wipe σ vs) (wipeR ρ vs) (Us.wipe vs)
  | [] => w
  | v :: vs => by
    unfold L2.wipe wipeR US.wipe
    refine (Wf.wipe w vs).drop.sig (fun j d e => ?_) (by rw [List.length_set])
    rw [List.getElem?_set_ne]
    intro z
    subst z
    by_cases hl : v < (wipeR ρ vs).length
    · rw [List.getElem?_set_self hl] at e; cases e
    · rw [List.getElem?_eq_none (by simpa using hl)] at e; cases e
theorem putBack_length (ρ0 ρ : Rho) : ∀ vs : List Nat, (putBack ρ0 ρ vs).length = ρ.length
  | [] => rfl
  | v :: vs => by unfold putBack; rw [List.length_set, putBack_length ρ0 ρ vs]
theorem putBack_in {ρ0 ρ : Rho} (hl : ρ.length = ρ0.length) {i : Nat} : ∀ {vs : List Nat}, i ∈ vs → (putBack ρ0 ρ vs)[i]? = ρ0[i]?
  | v :: vs, h => by
    unfold putBack
    by_cases hi : v = i
    · subst hi
      by_cases hv : v < ρ0.length
      · rw [List.getElem?_set_self (by rw [putBack_length, hl]; exact hv), List.getElem?_eq_getElem hv, List.getD_eq_getElem?_getD, List.getElem?_eq_getElem hv]
        rfl
      · rw [List.getElem?_eq_none (by rw [List.length_set, putBack_length, hl]; omega), List.getElem?_eq_none (by omega)]
    · rw [List.getElem?_set_ne hi]
      rcases List.mem_cons.mp h with e | e
      · exact absurd e.symm hi
      · exact putBack_in hl e
theorem putBack_out {ρ0 ρ : Rho} {i : Nat} : ∀ {vs : List Nat}, i ∉ vs → (putBack ρ0 ρ vs)[i]? = ρ[i]?
  | [], _ => rfl
  | v :: vs, h => by
    unfold putBack
    rw [List.getElem?_set_ne (fun e => h (by simp [e])), putBack_out fun z => h (by simp [z])]
theorem Wf.back {σ : L2.St} {ρ0 ρ2 : Rho} {Us0 Us2 : US} {vs : List Nat} {F0 H0 : Hp} {T2 : AS} (w0 : Wf K F0 H0 σ ρ0 Us0) (w2 : Wf K F H (L2.wipe σ vs) ρ2 Us2) (ev : Evo F0 H0 (Tot (Us0.wipe vs)) F H (fun b => Tot Us2 b ∨ T2 b)) :
    Wf K F H σ (putBack ρ0 ρ2 vs) (fun i => if i ∈ vs then Us0 i else Us2 i) ∧ ∀ i b, i ∈ vs → Us0 i b → ¬ (Tot Us2 b ∨ T2 b) := by
  have hl : ρ2.length = ρ0.length := by rw [← w2.len, wipe_length, w0.len]
  have nt : ∀ i b, i ∈ vs → Us0 i b → ¬ Tot (Us0.wipe vs) b := fun i b hi u t => by
    obtain ⟨k, t⟩ := t
    obtain ⟨t, hk⟩ := US.wipe_in t
    exact hk (w0.dj k i b t u ▸ hi)
  have rt : ∀ i d, i ∈ vs → ρ0[i]? = some (some d) → ∃ v, σ[i]? = some (some v) ∧ Root K F H (fun b => Tot Us2 b ∨ T2 b) v d (Us0 i) := fun i d hi e => by
    obtain ⟨v, e1, den⟩ := w0.den i d e
    have r : Root K F0 H0 (Tot (Us0.wipe vs)) v d (Us0 i) := ⟨den, fun b u => nt i b hi u, w0.out i⟩
    exact ⟨v, e1, r.keep ev⟩
  have cs : ∀ i b, Us0 i b → ∃ d, ρ0[i]? = some (some d) := fun i b u => by
    cases e : ρ0[i]? with
    | none => exact absurd u (w0.emp i (fun d q => by rw [e] at q; cases q) b)
    | some o =>
      cases o with
      | none => exact absurd u (w0.emp i (fun d q => by rw [e] at q; cases q) b)
      | some d => exact ⟨d, rfl⟩
  have sep : ∀ i b, i ∈ vs → Us0 i b → ¬ (Tot Us2 b ∨ T2 b) := fun i b hi u => by
    obtain ⟨d, e⟩ := cs i b u
    obtain ⟨v, _, r⟩ := rt i d hi e
    exact r.dj b u
  refine ⟨⟨w2.le, by rw [putBack_length, ← w2.len, wipe_length], fun i d e => ?_, fun i h b => ?_, fun i j b u v => ?_, fun i b u => ?_⟩, sep⟩
  · by_cases hi : i ∈ vs
    · rw [putBack_in hl hi] at e
      obtain ⟨v, e1, r⟩ := rt i d hi e
      simp only [if_pos hi]
      exact ⟨v, e1, r.den⟩
    · rw [putBack_out hi] at e
      obtain ⟨v, e1, den⟩ := w2.den i d e
      simp only [if_neg hi]
      exact ⟨v, (wipe_some e1).1, den⟩
  · by_cases hi : i ∈ vs
    · simp only [if_pos hi]
      exact w0.emp i (fun d q => h d (by rw [putBack_in hl hi]; exact q)) b
    · simp only [if_neg hi]
      exact w2.emp i (fun d q => h d (by rw [putBack_out hi]; exact q)) b
  · by_cases hi : i ∈ vs
    · simp only [if_pos hi] at u
      by_cases hj : j ∈ vs
      · simp only [if_pos hj] at v
        exact w0.dj i j b u v
      · simp only [if_neg hj] at v
        exact absurd (.inl ⟨j, v⟩) (sep i b hi u)
    · simp only [if_neg hi] at u
      by_cases hj : j ∈ vs
      · simp only [if_pos hj] at v
        exact absurd (.inl ⟨i, u⟩) (sep j b hj v)
      · simp only [if_neg hj] at v
        exact w2.dj i j b u v
  · by_cases hi : i ∈ vs
    · simp only [if_pos hi] at u
      obtain ⟨d, e⟩ := cs i b u
      obtain ⟨v, _, r⟩ := rt i d hi e
      exact r.out b u
    · simp only [if_neg hi] at u
      exact w2.out i b u
end
theorem noX_bind {α β : Type} (m : M α) (f : α → M β) : noX (m.bind f) = (noX m).bind fun a => noX (f a) := by
  funext ρ
  cases r : m ρ with
  | stk =>
    have e1 : noX m ρ = .stk := by unfold noX; rw [r]
    rw [bind_stk e1]
    unfold noX
    rw [bind_stk r]
  | exc x ρ1 =>
    have e1 : noX m ρ = .stk := by unfold noX; rw [r]
    rw [bind_stk e1]
    unfold noX
    rw [bind_exc r]
  | ok a ρ1 =>
    have e1 : noX m ρ = .ok a ρ1 := by unfold noX; rw [r]
    rw [bind_ok e1]
    unfold noX
    rw [bind_ok r]
theorem noX_pure {α : Type} (a : α) : noX (M.pure a) = M.pure a := rfl
/-- within a block nothing is raised -/
def Ct.nox (Y : Ct) : Ct := { Y with xc := fun _ _ _ _ => False }
section
variable {X : Cx} {Y Y' : Ct} {Γ : Fns} {e c it : E} {t : Tg} {own : List Nat} {σ σ' : L2.St} {H F : Hp} {Us : US} {ρ : Rho} {α α' β β' : Type} {q q2 : Bool} {R : Hp → Hp → US → α → β → AS → Prop} {R' : Hp → Hp → US → α' → β' → AS → Prop}
theorem out_nox {m : M α'} {f : α' → M α} {Q : β → Hp → Prop} {Q' : β' → Hp → Prop} {F1 H1 : Hp} {Us1 : US} (h : Out Y σ F H Us q R (((noX m).bind f) ρ) Q)
    (k : ∀ a ρ1, m ρ = .ok a ρ1 → Out Y σ F H Us q R (f a ρ1) Q → Out Y' σ' F1 H1 Us1 q2 R' (.ok a ρ1) Q') : Out Y' σ' F1 H1 Us1 q2 R' (m ρ) Q' := by
  cases r : m ρ with
  | stk =>
    have e1 : noX m ρ = .stk := by unfold noX; rw [r]
    rw [bind_stk e1] at h
    exact h.elim
  | exc x ρ1 =>
    have e1 : noX m ρ = .stk := by unfold noX; rw [r]
    rw [bind_stk e1] at h
    exact h.elim
  | ok a ρ1 =>
    have e1 : noX m ρ = .ok a ρ1 := by unfold noX; rw [r]
    rw [bind_ok e1] at h
    exact k a ρ1 r h
theorem wipe_at {vs : List Nat} {i : Nat} (h : i ∈ vs) : (L2.wipe σ vs)[i]? = if i < σ.length then some none else none := by
  induction vs with
  | nil => cases h
  | cons v vs ih =>
    unfold L2.wipe
    by_cases hv : v = i
    · subst hv
      by_cases hl : v < σ.length
      · rw [List.getElem?_set_self (by rw [wipe_length]; exact hl), if_pos hl]
      · rw [List.getElem?_eq_none (by rw [List.length_set, wipe_length]; omega), if_neg hl]
    · rw [List.getElem?_set_ne hv]
      rcases List.mem_cons.mp h with z | z
      · exact absurd z.symm hv
      · exact ih z
theorem wipe_eq {vs : List Nat} {σ2 : L2.St} (l : σ2.length = σ.length) (h : ∀ j, j ∉ vs → σ2[j]? = (L2.wipe σ vs)[j]?) : L2.wipe σ2 vs = L2.wipe σ vs := by
  apply List.ext_getElem?
  intro j
  by_cases hj : j ∈ vs
  · rw [wipe_at hj, wipe_at hj, l]
  · rw [wipe_out hj]
    exact h j hj
def turnF (Γ : Fns) (own : List Nat) (t : Tg) (c e : E) (x : D) : M (Option D) := (asgT t x).bind fun _ => (evT Γ c).bind fun k => if k then (evB Γ e).bind fun y => (takeP e y).bind fun d ρ => .ok (some d) (wipeR ρ own) else fun ρ => .ok none (wipeR ρ own)
theorem e_lc {Q : VK} (ht : ∀ j ∈ tgN t, j ∈ own) (h : tE Y Γ (.lc own t it c e) σ H Q) : tLc (tI Y Γ it) (gT Y.K t) (tT Y.nox Γ c) (tV Y.nox Γ e) own σ H Q := by
  obtain ⟨F, ρ, Us, w, h⟩ := h
  have eq : evB Γ (.lc own t it c e) = (evI Γ it).bind fun xs => if inLine xs.length then (inBlk own (turns (turnF Γ own t c e) xs)).bind fun ds => M.pure (.lst true ds) else fun _ => .stk := by
    rw [evB]
    unfold evI evV turnF
    simp only [M.bind_assoc]
  rw [eq] at h
  have rn : rootOf (.lc own t it c e) = none := rfl
  refine ⟨F, ρ, Us, w, out_bind h Evo.refl fun xs ρ1 r h => ?_⟩
  intro J F1 H1 Us1 U1 w1 ⟨wk, no⟩ ev1 _ D hD
  by_cases hl : inLine xs.length = true
  case neg => rw [if_neg hl] at h; exact h.elim
  rw [if_pos hl] at h
  have hl : xs.length ≤ sizeLine := of_decide_eq_true hl
  let fin : List MP.D → M MP.D := fun ds ρ' => .ok (.lst true ds) (putBack ρ1 ρ' own)
  have h : Out Y σ F H Us false (RB Y (.lc own t it c e)) (((noX (turns (turnF Γ own t c e) xs)).bind fin) (wipeR ρ1 own)) Q := by
    have z : ((inBlk own (turns (turnF Γ own t c e) xs)).bind fun ds => M.pure (.lst true ds)) ρ1 = ((noX (turns (turnF Γ own t c e) xs)).bind fin) (wipeR ρ1 own) := by
      have z1 : ∀ (m : M (List MP.D)), ((inBlk own m).bind fun ds => M.pure (MP.D.lst true ds)) ρ1 = (((noX m).bind fun ds ρ' => (.ok ds (putBack ρ1 ρ' own) : Res (List MP.D))).bind fun ds => M.pure (MP.D.lst true ds)) (wipeR ρ1 own) := fun m => rfl
      rw [z1, M.bind_assoc]
      rfl
    rw [z] at h
    exact h
  have g0 : Grow F1 H1 F1 (upd H1 D (.lst [])) := Grow.lst w1.le hD
  have ww := w1.wipe own
  have f1 : F1 D = none := le_none w1.le hD
  have nD : ¬ Tot (Us1.wipe own) D := fun t => by
    obtain ⟨o, z⟩ := ww.known t
    rw [hD] at z; cases z
  let W : Nat → Nat → Hp → Prop := fun i m H' => m = xs.length - i ∧ i ≤ xs.length ∧ ∃ F' ρ' Us' acc ds UA, Wf Y.K F' H' (L2.wipe σ own) ρ' Us' ∧ H' D = some (.lst acc) ∧ DenL Y.K F' H' acc ds UA ∧ (∀ b, UA b → ¬ Tot Us' b) ∧ (∀ b, UA b → F' b = none) ∧ ¬ UA D ∧ ¬ Tot Us' D ∧ F' D = none ∧ acc.length ≤ i ∧
    Same F1 F' ∧ Evo F1 H1 (Tot (Us1.wipe own)) F' H' (fun b => Tot Us' b ∨ (b = D ∨ UA b)) ∧ Out Y σ F H Us false (RB Y (.lc own t it c e)) (((noX (turns (turnF Γ own t c e) (xs.drop i))).bind fun rs => fin (ds ++ rs)) ρ') Q
  refine ⟨W, ⟨xs.length, by simp, Nat.zero_le _, F1, wipeR ρ1 own, Us1.wipe own, [], [], none0, ww.at nD f1, upd_same, .nil no0, fun _ z => z.elim, fun _ z => z.elim, no0 _, nD, f1, Nat.le_refl _, Same.refl _, ?_, h⟩, ?_⟩
  · exact ⟨Same.refl _, fun a o z _ => by
      have ne : a ≠ D := fun q => by rw [q, hD] at z; cases z
      rw [upd_ne ne]; exact z, fun a t => by
      rcases t with t | t | t
      · exact .inl t
      · exact .inr (by rw [t]; exact hD)
      · exact t.elim, fun a n q => absurd n q⟩
  rintro i m H2 ⟨rfl, hi, F2, ρ2, Us2, acc, ds, UA, w2, hDa, la, djA, ouA, nUA, nT, fD, hacc, s2, ev2, h⟩
  obtain ⟨go, stop⟩ := wk F2 H2 s2 w2.le i
  by_cases hlt : i < xs.length
  · obtain ⟨go, yl⟩ := go xs[i] (by simp [hlt])
    refine .inr ⟨go, W (i + 1) (xs.length - (i + 1)), fun H' wn => ⟨xs.length - (i + 1), by omega, wn⟩, fun x H3 y => ?_⟩
    obtain ⟨F3, g, den⟩ := yl x H3 y
    have eqt : (noX (turns (turnF Γ own t c e) (xs.drop i))).bind (fun rs => fin (ds ++ rs)) = (noX (asgT t xs[i])).bind fun _ => (noX (evT Γ c)).bind fun k => (noX (if k then (evV Γ e).bind fun d ρ => .ok (some d) (wipeR ρ own) else fun ρ => .ok none (wipeR ρ own))).bind fun r => (noX (turns (turnF Γ own t c e) (xs.drop (i + 1)))).bind fun rs => fin (ds ++ (match r with | some d => d :: rs | none => rs)) := by
      rw [List.drop_eq_getElem_cons hlt, turns, noX_bind, M.bind_assoc]
      unfold turnF
      rw [noX_bind, M.bind_assoc]
      congr 1
      funext _
      rw [noX_bind, M.bind_assoc]
      congr 1
      funext k
      unfold evV
      simp only [M.bind_assoc]
      congr 1
      funext r
      rw [noX_bind, M.bind_assoc]
      congr 1
    rw [eqt] at h
    have w3 := w2.grow g
    have evg : Evo F2 H2 (Tot Us2) F3 H3 (Tot Us2) := g.evo
    cases ra : asgT t xs[i] ρ2 with
    | stk =>
      have : ((noX (asgT t xs[i])) ρ2 : Res Unit) = .stk := by unfold noX; rw [ra]
      rw [bind_stk this] at h
      exact h.elim
    | exc x ρ3 => exact absurd ra (asgT_exc _ _ _ _ _)
    | ok u ρ3 =>
      have : ((noX (asgT t xs[i])) ρ2 : Res Unit) = .ok u ρ3 := by unfold noX; rw [ra]
      rw [bind_ok this] at h
      refine gT_ok t w3 ⟨den, fun _ z => z.elim, fun _ z => z.elim⟩ ra fun σ4 Us4 w4 sub keep len => ?_
      have hw : L2.wipe σ4 own = L2.wipe σ own := wipe_eq (len.trans (wipe_length σ own)) fun j hj => keep j fun z => hj (ht j z)
      refine ⟨hw, ?_⟩
      have ev4 : Evo F2 H2 (Tot Us2) F3 H3 (Tot Us4) := evg.weak fun b t => (sub b t).elim id fun z => z.elim
      refine ⟨F3, ρ3, Us4, w4, out_nox h fun k ρ5 rk h => ?_⟩
      intro b F5 H5 Us5 U5 w5 rt5 ev5 _
      obtain ⟨rfl, no5⟩ := rt5
      have ev5 : Evo F2 H2 (Tot Us2) F5 H5 (Tot Us5) := ev4.trans (evo_res ev5)
      cases k with
      | false =>
        rw [if_neg Bool.false_ne_true]
        have e0 : (noX (if false = true then (evV Γ e).bind fun d ρ => (.ok (some d) (wipeR ρ own) : Res (Option MP.D)) else fun ρ => .ok none (wipeR ρ own))) ρ5 = .ok none (wipeR ρ5 own) := rfl
        rw [bind_ok e0] at h
        have w6 := w5.wipe own
        rw [hw] at w6
        have sub6 : ∀ b, Tot (Us5.wipe own) b → Tot Us5 b := fun b ⟨j, t⟩ => ⟨j, (US.wipe_in t).1⟩
        have ev6 : Evo F2 H2 (Tot Us2) F5 H5 (Tot (Us5.wipe own)) := ev5.weak sub6
        have ev6' := ev6.plus (A := fun b => b = D ∨ UA b)
        have hD5 : H5 D = some (.lst acc) := ev6.frm _ _ hDa nT
        have lA : DenL Y.K F5 H5 acc ds UA := la.keep ev6.fle fun b o u z => ev6.frm b o z (djA b u)
        have nT6 : ¬ Tot (Us5.wipe own) D := fun t => (ev6.own D t).elim nT fun z => by rw [hDa] at z; cases z
        refine ⟨rfl, hlt, F5, wipeR ρ5 own, Us5.wipe own, acc, ds, UA, w6, hD5, lA, fun b u t => ?_, fun b u => ?_, nUA, nT6, ?_, by omega, s2.trans ev6.fle, ev2.trans ev6', h⟩
        · rcases ev6.own b t with z | z
          · exact djA b u z
          · obtain ⟨o, z2⟩ := la.known b u
            rw [z2] at z; cases z
        · cases q : F5 b with
          | none => rfl
          | some o =>
            rcases ev6.frz b (ouA b u) (by rw [q]; exact fun z => by cases z) with z | z
            · exact absurd z (djA b u)
            · obtain ⟨o, z2⟩ := la.known b u
              rw [z2] at z; cases z
        · cases q : F5 D with
          | none => rfl
          | some o =>
            rcases ev6.frz D fD (by rw [q]; exact fun z => by cases z) with z | z
            · exact absurd z nT
            · rw [hDa] at z; cases z
      | true =>
        rw [if_pos rfl]
        have e0 : noX (if true = true then (evV Γ e).bind fun d ρ => (.ok (some d) (wipeR ρ own) : Res (Option MP.D)) else fun ρ => .ok none (wipeR ρ own)) = (noX (evV Γ e)).bind fun d ρ => .ok (some d) (wipeR ρ own) := by
          rw [if_pos rfl, noX_bind]; rfl
        rw [e0, M.bind_assoc] at h
        refine ⟨F5, ρ5, Us5, w5, out_nox h fun d ρ6 rd h => ?_⟩
        intro y F6 H6 Us6 U6 w6 rv ev6 _
        obtain ⟨r6, _⟩ := rv
        have h : Out Y σ F H Us false (RB Y (.lc own t it c e)) ((noX (turns (turnF Γ own t c e) (xs.drop (i + 1)))).bind (fun rs => fin (ds ++ d :: rs)) (wipeR ρ6 own)) Q := h
        have w7 := w6.wipe own
        rw [hw] at w7
        have sub7 : ∀ b, Tot (Us6.wipe own) b → Tot Us6 b := fun b ⟨j, t⟩ => ⟨j, (US.wipe_in t).1⟩
        have ev7 : Evo F2 H2 (Tot Us2) F6 H6 (fun b => Tot (Us6.wipe own) b ∨ U6 b) := (ev5.trans ev6).weak fun b t => t.imp (sub7 b) id
        have hD7 : H6 D = some (.lst acc) := ev7.frm _ _ hDa nT
        have lA : DenL Y.K F6 H6 acc ds UA := la.keep ev7.fle fun b o u z => ev7.frm b o z (djA b u)
        have nD7 : ¬ (Tot (Us6.wipe own) D ∨ U6 D) := fun t => (ev7.own D t).elim nT fun z => by rw [hDa] at z; cases z
        have djA7 : ∀ b, UA b → ¬ (Tot (Us6.wipe own) b ∨ U6 b) := fun b u t => by
          rcases ev7.own b t with z | z
          · exact djA b u z
          · obtain ⟨o, z2⟩ := la.known b u
            rw [z2] at z; cases z
        have fD7 : F6 D = none := by
          cases q : F6 D with
          | none => rfl
          | some o =>
            rcases ev7.frz D fD (by rw [q]; exact fun z => by cases z) with z | z
            · exact absurd z nT
            · rw [hDa] at z; cases z
        have ouA7 : ∀ b, UA b → F6 b = none := fun b u => by
          cases q : F6 b with
          | none => rfl
          | some o =>
            rcases ev7.frz b (ouA b u) (by rw [q]; exact fun z => by cases z) with z | z
            · exact absurd z (djA b u)
            · obtain ⟨o, z2⟩ := la.known b u
              rw [z2] at z; cases z
        have l7 : DenL Y.K F6 H6 (acc ++ [y]) (ds ++ [d]) (fun b => UA b ∨ U6 b) := lA.append (.one r6.den) (fun b u z => djA7 b u (.inr z)) fun b => Iff.rfl
        refine ⟨acc, hD7, by omega, rfl, hlt, F6, wipeR ρ6 own, Us6.wipe own, acc ++ [y], ds ++ [d], fun b => UA b ∨ U6 b, w7.at (fun z => nD7 (.inl z)) fD7, upd_same, l7.keep (Same.refl _) fun b o u z => ?_, fun b u t => ?_, fun b u => u.elim (ouA7 b) (r6.out b), fun z => z.elim nUA fun z => nD7 (.inr z), fun z => nD7 (.inl z), fD7, by rw [List.length_append, List.length_singleton]; omega, s2.trans ev7.fle, ?_, ?_⟩
        · have ne : b ≠ D := fun q => by
            rw [q] at u
            exact u.elim nUA fun z => nD7 (.inr z)
          rw [upd_ne ne]; exact z
        · rcases u with u | u
          · exact djA7 b u (.inl t)
          · exact r6.dj b u (sub7 b t)
        · refine ((ev2.trans (ev7.plus (A := fun b => b = D ∨ UA b))).trans (Evo.at (.inr (.inl rfl)))).weak fun b t => ?_
          rcases t with t | t | t | t
          · exact .inl (.inl t)
          · exact .inr (.inl t)
          · exact .inr (.inr t)
          · exact .inl (.inr t)
        · have e1 : (fun rs => fin (ds ++ d :: rs)) = fun rs => fin ((ds ++ [d]) ++ rs) := by
            funext rs
            rw [List.append_assoc]
            rfl
          rw [e1] at h
          exact h
  · refine .inl ⟨stop (by omega), ?_⟩
    have e1 : (noX (turns (turnF Γ own t c e) (xs.drop i))).bind (fun rs => fin (ds ++ rs)) = fin ds := by
      rw [List.drop_eq_nil_of_le (by omega), turns, noX_pure, M.pure_bind, List.append_nil]
    rw [e1] at h
    obtain ⟨wb, sep⟩ := Wf.back w1 w2 ev2
    have tb : ∀ b, Tot (fun i => if i ∈ own then Us1 i else Us2 i) b → (∃ i, i ∈ own ∧ Us1 i b) ∨ Tot Us2 b := fun b ⟨j, t⟩ => by
      by_cases hj : j ∈ own
      · simp only [if_pos hj] at t; exact .inl ⟨j, hj, t⟩
      · simp only [if_neg hj] at t; exact .inr ⟨j, t⟩
    refine h (.ref D) F2 H2 _ (fun b => b = D ∨ UA b) wb (rb_root rn ⟨.lstU hDa la nUA fun b => Iff.rfl, fun b u t => ?_, fun b u => ?_⟩) ?_ fun z => by cases z
    · rcases tb b t with ⟨j, hj, t⟩ | t
      · exact sep j b hj t (.inr u)
      · rcases u with u | u
        · rw [u] at t; exact nT t
        · exact djA b u t
    · rcases u with u | u
      · rw [u]; exact fD
      · exact ouA b u
    · refine (evo_res ev1).trans ⟨ev2.fle, fun a o z n => ev2.frm a o z fun ⟨j, t⟩ => n ⟨j, (US.wipe_in t).1⟩, fun a t => ?_, fun a n q => (ev2.frz a n q).imp (fun ⟨j, t⟩ => ⟨j, (US.wipe_in t).1⟩) id⟩
      rcases t with t | t
      · rcases tb a t with ⟨j, hj, t⟩ | t
        · exact .inl ⟨j, t⟩
        · exact (ev2.own a (.inl t)).imp (fun ⟨j, t⟩ => ⟨j, (US.wipe_in t).1⟩) id
      · exact (ev2.own a (.inr t)).imp (fun ⟨j, t⟩ => ⟨j, (US.wipe_in t).1⟩) id
theorem t_yes {Q : Bool → Hp → Prop} (h : tT Y Γ (.cst (.bl true)) σ H Q) : tYes σ H Q := by
  obtain ⟨F, ρ, Us, w, h⟩ := h
  have e : evT Γ (.cst (.bl true)) ρ = .ok true ρ := by
    rw [evT, evB]
    rfl
    all_goals (intros; contradiction)
  rw [e] at h
  exact h true F H Us none0 w ⟨rfl, no0⟩ (evo_no Evo.refl no0) fun z => by cases z
end
end MP

end
section
set_option Elab.async false
set_option linter.all false
set_option maxRecDepth 100000
/-! MP14: how the arguments of a call are bound. -/
namespace MP
open PySem PySem.Spec PyProof.Rows L2

abbrev Sl := List (Str × Value)
theorem lookup_append {α : Type} (a b : List (Str × α)) (n : Str) : (a ++ b).lookup n = (a.lookup n).or (b.lookup n) := by
  induction a with
  | nil => rfl
  | cons p r ih =>
    rw [List.cons_append, List.lookup_cons, List.lookup_cons]
    cases n == p.1 <;> simp [ih]
theorem loop_kw (ok : Str → Bool) (f : Str × Value → Sl × Sl → Sem (ForInStep (Sl × Sl))) (hf : ∀ x st, ok x.1 = true → (st.1.lookup x.1).isSome = false → f x st = pure (.yield (st.1 ++ [(x.1, x.2)], st.2))) :
    ∀ (kw slots extra : Sl), (∀ x ∈ kw, ok x.1 = true) → (∀ x ∈ kw, (slots.lookup x.1).isSome = false) → (kw.map (·.1)).Nodup → forIn kw (slots, extra) f = pure (slots ++ kw, extra)
  | [], slots, extra, _, _, _ => by rw [List.forIn_nil, List.append_nil]
  | x :: r, slots, extra, h1, h2, nd => by
    rw [List.forIn_cons, hf x _ (h1 x (List.mem_cons_self ..)) (h2 x (List.mem_cons_self ..))]
    have nd2 := List.nodup_cons.mp nd
    have ih := loop_kw ok f hf r (slots ++ [(x.1, x.2)]) extra (fun y hy => h1 y (List.mem_cons_of_mem _ hy)) (fun y hy => ?_) nd2.2
    · rw [List.append_assoc] at ih
      exact ih
    · rw [lookup_append]
      have a := h2 y (List.mem_cons_of_mem _ hy)
      cases e : slots.lookup y.1 with
      | some v => rw [e] at a; cases a
      | none =>
        have ne : (y.1 == x.1) = false := by
          rw [beq_eq_false_iff_ne]
          intro q
          exact nd2.1 (List.mem_map.mpr ⟨y, hy, q⟩)
        simp [List.lookup_cons, ne]
def addD (S : Sl) (p : Str × Value) : Sl := if (S.lookup p.1).isNone then S ++ [(p.1, p.2)] else S
theorem addD_lookup (S : Sl) (p : Str × Value) (n : Str) : (addD S p).lookup n = (S.lookup n).or (if n == p.1 then some p.2 else none) := by
  unfold addD
  cases e : S.lookup p.1 with
  | none =>
    rw [if_pos (by rfl), lookup_append, List.lookup_cons]
    cases n == p.1 <;> rfl
  | some v =>
    rw [if_neg (by simp)]
    by_cases q : (n == p.1) = true
    · have q' : n = p.1 := by simpa using q
      subst q'
      rw [e]
      rfl
    · simp only [if_neg q]
      cases S.lookup n <;> rfl
theorem fold_lookup (n : Str) : ∀ (l S : Sl), (l.foldl addD S).lookup n = (S.lookup n).or (l.lookup n)
  | [], S => by simp
  | p :: l, S => by
    rw [List.foldl_cons, fold_lookup n l, addD_lookup, List.lookup_cons, Option.or_assoc]
    congr 1
    cases n == p.1 <;> rfl
theorem loop_df (f : Str × Value → Sl → Sem (ForInStep Sl)) (hf : ∀ x st, f x st = pure (.yield (addD st x))) : ∀ (l S : Sl), forIn l S f = pure (l.foldl addD S)
  | [], S => by rw [List.forIn_nil]; rfl
  | x :: r, S => by
    rw [List.forIn_cons, hf]
    exact loop_df f hf r (addD S x)
/-- a loop that only looks, as a rule -/
theorem loop_wp {α β : Type} {M : Model} {A : Around} {E : Value → Shared → Prop} {s : Shared} {f : α → β → Sem (ForInStep β)} (g : β → α → β) (I : β → List α → Prop) (hf : ∀ x r st (Q : ForInStep β → Shared → Prop), I st (x :: r) → Q (.yield (g st x)) s → I (g st x) r ∧ wpAny M A (f x st) Q E s) :
    ∀ (l : List α) (st : β) (Q : β → Shared → Prop), I st l → Q (l.foldl g st) s → wpAny M A (forIn l st f) Q E s
  | [], st, Q, _, q => by rw [List.forIn_nil]; exact wpAny_pure q
  | x :: r, st, Q, i, q => by
    rw [List.forIn_cons]
    have i2 : I (g st x) r := (hf x r st (fun _ _ => True) i trivial).1
    exact wpAny_bind ((hf x r st _ i (loop_wp g I hf r (g st x) Q i2 q)).2)
/-- the values that a call binds -/
def slotV (P KO ks : List Str) (us ws dl : List Value) (kd : Str → Option Value) (n : Str) : Option Value :=
  (((P.zip us ++ ks.zip ws).lookup n).or (((P.drop (P.length - dl.length)).zip dl).lookup n)).or (if KO.contains n then kd n else none)
def kadd (kd : Str → Option Value) (st : Sl × List Str) (n : Str) : Sl × List Str := if (st.1.lookup n).isNone then (match kd n with
  | some v => (st.1 ++ [(n, v)], st.2)
  | none => (st.1, st.2 ++ [n])) else st
theorem kadd_fold (kd : Str → Option Value) (n : Str) : ∀ (l : List Str) (S : Sl), (∀ x ∈ l, (S.lookup x).isNone → (kd x).isSome) → (l.foldl (kadd kd) (S, [])).2 = [] ∧ ((l.foldl (kadd kd) (S, [])).1).lookup n = (S.lookup n).or (if l.contains n then kd n else none)
  | [], S, _ => by simp
  | x :: l, S, h => by
    rw [List.foldl_cons]
    cases e : S.lookup x with
    | some v =>
      have k : kadd kd (S, []) x = (S, []) := by unfold kadd; simp [e]
      rw [k]
      obtain ⟨a, b⟩ := kadd_fold kd n l S fun y hy => h y (List.mem_cons_of_mem _ hy)
      refine ⟨a, ?_⟩
      rw [b, List.contains_cons]
      by_cases q : (n == x) = true
      · have q' : n = x := by simpa using q
        subst q'
        rw [e]
        rfl
      · simp [q]
    | none =>
      obtain ⟨v, hv⟩ := Option.isSome_iff_exists.mp (h x (List.mem_cons_self ..) (by rw [e]; rfl))
      have k : kadd kd (S, []) x = (S ++ [(x, v)], []) := by unfold kadd; simp [e, hv]
      rw [k]
      obtain ⟨a, b⟩ := kadd_fold kd n l (S ++ [(x, v)]) fun y hy hz => h y (List.mem_cons_of_mem _ hy) (by
        rw [lookup_append] at hz
        cases e2 : S.lookup y with
        | none => rfl
        | some w => rw [e2] at hz; cases hz)
      refine ⟨a, ?_⟩
      rw [b, lookup_append, List.contains_cons, Option.or_assoc]
      congr 1
      by_cases q : (n == x) = true
      · have q' : n = x := by simpa using q
        subst q'
        simp [hv, List.lookup_cons]
      · have q2 : (n == x) = false := by simpa using q
        simp [q2, List.lookup_cons]
theorem zip_none : ∀ {P : List Str} {us : List Value} {x : Str}, x ∉ P.take us.length → (P.zip us).lookup x = none
  | [], us, x, _ => by simp
  | p :: P, [], x, _ => by simp
  | p :: P, u :: us, x, h => by
    rw [List.zip_cons_cons, List.lookup_cons]
    have h : x ∉ p :: P.take us.length := h
    have ne : (x == p) = false := by
      rw [beq_eq_false_iff_ne]
      intro q
      exact h (by rw [q]; exact List.mem_cons_self ..)
    rw [ne]
    exact zip_none fun z => h (List.mem_cons_of_mem _ z)
theorem zip_some : ∀ {P : List Str} {us : List Value} {x : Str}, x ∈ P → P.length ≤ us.length → ((P.zip us).lookup x).isSome
  | p :: P, [], x, _, l => by simp at l
  | p :: P, u :: us, x, h, l => by
    rw [List.zip_cons_cons, List.lookup_cons]
    by_cases q : (x == p) = true
    · rw [q]; rfl
    · have q2 : (x == p) = false := by simpa using q
      rw [q2]
      rcases List.mem_cons.mp h with e | e
      · rw [e] at q2; simp at q2
      · exact zip_some e (by simpa using l)
theorem zip_at : ∀ {P : List Str} {us : List Value} {j : Nat} {x : Str}, P.Nodup → P[j]? = some x → (P.zip us).lookup x = us[j]?
  | [], us, j, x, _, h => by simp at h
  | p :: P, [], j, x, _, h => by simp
  | p :: P, u :: us, 0, x, _, h => by
    simp at h
    subst h
    simp [List.lookup_cons]
  | p :: P, u :: us, j + 1, x, nd, h => by
    have nd2 := List.nodup_cons.mp nd
    have hx : P[j]? = some x := by simpa using h
    have ne : (x == p) = false := by
      rw [beq_eq_false_iff_ne]
      intro q
      exact nd2.1 (by rw [← q]; exact List.mem_of_getElem? hx)
    rw [List.zip_cons_cons, List.lookup_cons, ne]
    simp only [List.getElem?_cons_succ]
    exact zip_at nd2.2 hx
theorem items_of {K : PySem.W.Frag} {M : Model} {A : Around} {E : Value → Shared → Prop} {s : Shared} {d : Value} {dl : List Value} {T : Addr} {o : Obj} {m : Nat} {Q : Option (Array Value) → Shared → Prop} (X : K.In s.heap)
    (hd : (dl = [] ∧ d = .none) ∨ (d = .ref T ∧ K.lookup T = some o ∧ o.data = .seq dl.toArray m)) (h : ∀ r : Option (Array Value), (r.getD #[]).toList = dl → Q r s) : wpAny M A (seqItems? d) Q E s := by
  rcases hd with ⟨rfl, rfl⟩ | ⟨rfl, lT, oT⟩
  · exact wpAny_pure (h none rfl)
  · exact wpAny_seqItems (X _ _ lT) oT (h _ rfl)
theorem bind_all {K : PySem.W.Frag} {fd : FuncData} {s : Shared} {P KO ks : List Str} {us ws dl : List Value} {kd : Str → Option Value} {T : Addr} {o : Obj} {m : Nat} (X : K.In s.heap)
    (h1 : fd.params.posonlyargs = []) (h2 : fd.params.vararg = none) (h3 : fd.params.kwarg = none) (hP : fd.params.args.map (·.arg) = P) (hKO : fd.params.kwonlyargs.map (·.arg) = KO)
    (hn : us.length ≤ P.length) (hk : ∀ x ∈ ks, (P.contains x || KO.contains x) = true) (hk2 : ∀ x ∈ ks, x ∉ P.take us.length) (nd : ks.Nodup) (hw : ws.length = ks.length)
    (hd : (dl = [] ∧ fd.defaults = .none) ∨ (fd.defaults = .ref T ∧ K.lookup T = some o ∧ o.data = .seq dl.toArray m)) (hdl : dl.length ≤ P.length)
    (hkd : ∀ x ∈ KO, x ∉ ks → ∃ D v, fd.kwdefaults = .ref D ∧ PySem.W.nsIn K D x = some (some v) ∧ kd x = some v)
    (full : ∀ x ∈ P.take (P.length - dl.length), ((P.zip us ++ ks.zip ws).lookup x).isSome) :
    BindsTo s fd ⟨us, ks.zip ws⟩ ((P ++ KO).filterMap fun n => (slotV P KO ks us ws dl kd n).map fun v => (n, v)) := by
  intro M A E Q hQ
  unfold bindArgs
  simp only [h1, h2, h3, hP, hKO, List.map_nil, List.nil_append]
  have zk : (ks.zip ws).map (·.1) = ks := List.map_fst_zip (by omega)
  refine wpAny_bind ?_
  rw [loop_kw (fun k => P.contains k || KO.contains k) _ (fun x st a b => by
    rw [if_pos a, if_neg (by rw [b]; exact Bool.false_ne_true)]) (ks.zip ws) (P.zip us) [] (fun x hx => hk x.1 (List.of_mem_zip hx).1) (fun x hx => ?_) (by rw [zk]; exact nd)]
  · refine wpAny_pure (wpAny_bind (items_of X hd fun r hr => ?_))
    dsimp only
    rw [hr]
    rw [if_neg (by simp; omega)]
    have e0 : dl.length - P.length = 0 := by omega
    rw [e0, List.drop_zero]
    rw [if_neg (by
      simp only [Bool.not_eq_true', List.isEmpty_eq_false_iff, ne_eq, Decidable.not_not]
      rw [List.filter_eq_nil_iff]
      intro x hx
      have := full x hx
      rw [Option.isNone_iff_eq_none]
      intro z
      rw [z] at this
      cases this)]
    refine wpAny_bind ?_
    rw [loop_df _ (fun x st => by
      unfold addD
      split <;> rfl)]
    refine wpAny_pure ?_
    have lk2 : ∀ n, ((((P.drop (P.length - dl.length)).zip dl).foldl addD (P.zip us ++ ks.zip ws))).lookup n = ((P.zip us ++ ks.zip ws).lookup n).or (((P.drop (P.length - dl.length)).zip dl).lookup n) := fun n => fold_lookup n _ _
    generalize hS : ((P.drop (P.length - dl.length)).zip dl).foldl addD (P.zip us ++ ks.zip ws) = S2 at lk2
    have nk : ∀ x ∈ KO, (S2.lookup x).isNone → ∃ D v, fd.kwdefaults = .ref D ∧ PySem.W.nsIn K D x = some (some v) ∧ kd x = some v := fun x hx hz => by
      refine hkd x hx fun hy => ?_
      rw [lk2, lookup_append] at hz
      have := zip_some (us := ws) hy (by omega)
      cases e : (P.zip us).lookup x with
      | some v => rw [e] at hz; cases hz
      | none =>
        rw [e] at hz
        cases e2 : (ks.zip ws).lookup x with
        | none => rw [e2] at this; cases this
        | some v => rw [e2] at hz; cases hz
    have kf := kadd_fold kd
    refine wpAny_bind (loop_wp (kadd kd) (fun st l => ∀ x ∈ l, (st.1.lookup x).isNone → ∃ D v, fd.kwdefaults = .ref D ∧ PySem.W.nsIn K D x = some (some v) ∧ kd x = some v) (fun x r st Q i q => ⟨fun y hy hz => ?_, ?_⟩) KO (S2, []) _ nk ?_)
    · refine i y (List.mem_cons_of_mem _ hy) ?_
      unfold kadd at hz
      split at hz
      · split at hz
        · rw [lookup_append] at hz
          cases e : st.1.lookup y with
          | none => rfl
          | some v => rw [e] at hz; cases hz
        · exact hz
      · exact hz
    · by_cases hz : (st.1.lookup x).isNone = true
      · rw [if_pos hz]
        obtain ⟨D, v, e1, e2, e3⟩ := i x (List.mem_cons_self ..) hz
        rw [e1]
        have kq : kadd kd st x = (st.1 ++ [(x, v)], st.2) := by unfold kadd; rw [if_pos hz, e3]
        rw [kq] at q
        exact wpAny_bind ((PySem.W.looks_nsIn X e2).here (wpAny_pure q))
      · rw [if_neg hz]
        have kq : kadd kd st x = st := by unfold kadd; rw [if_neg hz]
        rw [kq] at q
        exact wpAny_pure q
    · have kf := fun n => kadd_fold kd n KO S2 fun x hx hz => by
        obtain ⟨D, v, _, _, e3⟩ := nk x hx hz
        rw [e3]; rfl
      obtain ⟨k1, _⟩ := kf (⟨#[]⟩ : Str)
      rw [k1, if_neg (by simp)]
      refine wpAny_pure ?_
      have e : (fun n => Option.map (fun x => (n, x)) (List.lookup n (KO.foldl (kadd kd) (S2, [])).1)) = fun n => (slotV P KO ks us ws dl kd n).map fun v => (n, v) := by
        funext n
        unfold slotV
        rw [(kf n).2, lk2]
      rw [e]
      exact hQ
  · have hx1 := (List.of_mem_zip hx).1
    rw [Option.isSome_eq_false_iff, Option.isNone_iff_eq_none]
    exact zip_none (hk2 x.1 hx1)
end MP

end
section
set_option Elab.async false
set_option linter.all false
set_option maxRecDepth 100000
/-! MP15: calls of defs. -/
namespace MP
open PySem PySem.Spec PyProof.Rows L2

/-! ### the arguments in the params' order -/
def selO {α : Type} (xs : List α) (dv : Nat → Option α) : Nat → List Src → Option (List α)
  | _, [] => some []
  | j, .a k :: r => xs[k]?.bind fun v => (selO xs dv (j + 1) r).map (v :: ·)
  | j, .d _ :: r => (dv j).bind fun v => (selO xs dv (j + 1) r).map (v :: ·)
  | j, .s k _ :: r => xs[k]?.bind fun v => (selO xs dv (j + 1) r).map (v :: ·)
theorem selO_len {α : Type} {xs : List α} {dv : Nat → Option α} : ∀ {j : Nat} {srcs : List Src} {l : List α}, selO xs dv j srcs = some l → l.length = srcs.length
  | _, [], l, h => by cases h; rfl
  | j, s :: r, l, h => by
    have : ∃ o : Option α, o.bind (fun v => (selO xs dv (j + 1) r).map (v :: ·)) = some l := by
      cases s with
      | a k => exact ⟨_, h⟩
      | d v => exact ⟨_, h⟩
      | s k i => exact ⟨_, h⟩
    obtain ⟨o, h⟩ := this
    obtain ⟨v, _, h⟩ := Option.bind_eq_some_iff.mp h
    obtain ⟨l', h2, rfl⟩ := Option.map_eq_some_iff.mp h
    simp [selO_len h2]
theorem selO_rel {vs : List V} {us : List Value} {dv : Nat → Option V} {dw : Nat → Option Value} (r : Vals vs us) (hd : ∀ j v, dv j = some v → ∃ u, dw j = some u ∧ RelV v u) : ∀ {j : Nat} {srcs : List Src} {l : List V}, selO vs dv j srcs = some l → ∃ m, selO us dw j srcs = some m ∧ Vals l m
  | _, [], l, h => by cases h; exact ⟨[], rfl, .nil⟩
  | j, .a k :: srcs, l, h => by
    obtain ⟨v, e, h⟩ := Option.bind_eq_some_iff.mp h
    obtain ⟨l', h2, rfl⟩ := Option.map_eq_some_iff.mp h
    obtain ⟨u, e2, rv⟩ := r.get e
    obtain ⟨m, e3, r3⟩ := selO_rel r hd h2
    exact ⟨u :: m, by simp [selO, e2, e3], .cons rv r3⟩
  | j, .s k _ :: srcs, l, h => by
    obtain ⟨v, e, h⟩ := Option.bind_eq_some_iff.mp h
    obtain ⟨l', h2, rfl⟩ := Option.map_eq_some_iff.mp h
    obtain ⟨u, e2, rv⟩ := r.get e
    obtain ⟨m, e3, r3⟩ := selO_rel r hd h2
    exact ⟨u :: m, by simp [selO, e2, e3], .cons rv r3⟩
  | j, .d _ :: srcs, l, h => by
    obtain ⟨v, e, h⟩ := Option.bind_eq_some_iff.mp h
    obtain ⟨l', h2, rfl⟩ := Option.map_eq_some_iff.mp h
    obtain ⟨u, e2, rv⟩ := hd j v e
    obtain ⟨m, e3, r3⟩ := selO_rel r hd h2
    exact ⟨u :: m, by simp [selO, e2, e3], .cons rv r3⟩
theorem selO_at {α : Type} {xs : List α} {dv : Nat → Option α} : ∀ {o : Nat} {srcs : List Src} {l : List α} {j : Nat} {s : Src}, selO xs dv o srcs = some l → srcs[j]? = some s → l[j]? = match s with
    | .a k => xs[k]?
    | .s k _ => xs[k]?
    | .d _ => dv (o + j)
  | _, [], l, j, s, h, hs => by simp at hs
  | o, t :: r, l, 0, s, h, hs => by
    simp at hs
    subst hs
    cases t with
    | a k =>
      obtain ⟨v, e, h⟩ := Option.bind_eq_some_iff.mp h
      obtain ⟨l', h2, rfl⟩ := Option.map_eq_some_iff.mp h
      simp [e]
    | d v =>
      obtain ⟨v, e, h⟩ := Option.bind_eq_some_iff.mp h
      obtain ⟨l', h2, rfl⟩ := Option.map_eq_some_iff.mp h
      simp [e]
    | s k i =>
      obtain ⟨v, e, h⟩ := Option.bind_eq_some_iff.mp h
      obtain ⟨l', h2, rfl⟩ := Option.map_eq_some_iff.mp h
      simp [e]
  | o, t :: r, l, j + 1, s, h, hs => by
    have : ∃ q : Option α, q.bind (fun v => (selO xs dv (o + 1) r).map (v :: ·)) = some l := by
      cases t with
      | a k => exact ⟨_, h⟩
      | d v => exact ⟨_, h⟩
      | s k i => exact ⟨_, h⟩
    obtain ⟨q, h⟩ := this
    obtain ⟨v, _, h⟩ := Option.bind_eq_some_iff.mp h
    obtain ⟨l', h2, rfl⟩ := Option.map_eq_some_iff.mp h
    have := selO_at h2 (show r[j]? = some s by simpa using hs)
    simp only [List.getElem?_cons_succ]
    rw [this]
    cases s with
    | a k => rfl
    | s k i => rfl
    | d v => show dv _ = dv _; congr 1; omega
theorem selO_key {α : Type} {xs : List α} {dv : Nat → Option α} : ∀ {o : Nat} {a b : List Src}, a.map Src.key = b.map Src.key → selO xs dv o a = selO xs dv o b
  | _, [], [], _ => rfl
  | _, [], _ :: _, h => by simp at h
  | _, _ :: _, [], h => by simp at h
  | o, x :: a, y :: b, h => by
    simp only [List.map_cons, List.cons.injEq] at h
    have ih := selO_key (xs := xs) (dv := dv) (o := o + 1) h.2
    cases x <;> cases y <;> first
      | (simp [Src.key] at h; done)
      | (simp only [Src.key, Option.some.injEq] at h; simp only [selO, ih, h.1]; done)
      | (simp only [selO, ih]; done)

/-! ### ownership of argument lists -/
section
variable {K : PySem.W.Frag} {F H F' H' : Hp}
/-- from a list to the slots -/
def US.shift (Us : US) (U : AS) : US := fun i => match i with
  | 0 => U
  | j + 1 => Us j
theorem wf_start {vs : List V} {ds : List D} {U : AS} (n : Nat) (le : Le F H) (l : DenL K F H vs ds U) (ou : ∀ b, U b → F b = none) : ∃ Us, Wf K F H (vs.map some ++ List.replicate n none) (ds.map some ++ List.replicate n none) Us ∧ (∀ b, Tot Us b ↔ U b) := by
  induction ds generalizing vs U with
  | nil =>
    cases l with
    | nil e =>
      refine ⟨fun _ => none0, ⟨le, by simp, fun i d h => ?_, fun _ _ _ z => z, fun _ _ _ z => z.elim, fun _ _ z => z.elim⟩, fun b => ⟨fun ⟨_, z⟩ => z.elim, fun u => absurd u (e b)⟩⟩
      simp only [List.map_nil, List.nil_append, List.getElem?_replicate] at h
      split at h <;> cases h
  | cons d ds ih =>
    cases l with
    | cons h l dj e =>
      obtain ⟨Us, w, t⟩ := ih l fun b u => ou b ((e b).mpr (.inr u))
      rename_i v vs U1 U2
      refine ⟨Us.shift U1, ⟨le, by simpa using w.len, fun i d h => ?_, fun i h b => ?_, fun i j b u v => ?_, fun i b u => ?_⟩, fun b => ?_⟩
      · cases i with
        | zero => simp at h; subst h; exact ⟨v, rfl, by assumption⟩
        | succ i => exact w.den i d (by simpa using h)
      · cases i with
        | zero => exact absurd rfl (h d)
        | succ i => exact w.emp i (fun d q => h d (by simpa using q)) b
      · cases i with
        | zero =>
          cases j with
          | zero => rfl
          | succ j => exact absurd ((t b).mp ⟨j, v⟩) (dj b u)
        | succ i =>
          cases j with
          | zero => exact absurd ((t b).mp ⟨i, u⟩) (dj b v)
          | succ j => rw [w.dj i j b u v]
      · cases i with
        | zero => exact ou b ((e b).mpr (.inl u))
        | succ i => exact w.out i b u
      · rw [e b, ← t b]
        constructor
        · rintro ⟨i, u⟩
          cases i with
          | zero => exact .inl u
          | succ i => exact .inr ⟨i, u⟩
        · rintro (u | ⟨i, u⟩)
          · exact ⟨0, u⟩
          · exact ⟨i + 1, u⟩
/-- from the slots to a list -/
theorem denl_of {Us : US} : ∀ {vs : List V} {ds : List D} (o : Nat), vs.length = ds.length → (∀ (j : Nat) (v : V) (d : D), vs[j]? = some v → ds[j]? = some d → Den K F H v d (Us (o + j))) → (∀ i j b, Us i b → Us j b → i = j) → DenL K F H vs ds (fun b => ∃ j, j < vs.length ∧ Us (o + j) b)
  | [], [], o, _, _, _ => .nil fun b ⟨j, h, _⟩ => by simp at h
  | v :: vs, d :: ds, o, hl, h, dj => by
    have ih := denl_of (vs := vs) (ds := ds) (o + 1) (by simpa using hl) (fun j v d e1 e2 => by
      have := h (j + 1) v d (by simpa using e1) (by simpa using e2)
      rwa [show o + (j + 1) = o + 1 + j by omega] at this) dj
    refine .cons (h 0 v d rfl rfl) ih (fun b u ⟨j, hj, z⟩ => ?_) fun b => ?_
    · have := dj _ _ b u z
      omega
    · constructor
      · rintro ⟨j, hj, z⟩
        cases j with
        | zero => exact .inl z
        | succ j => exact .inr ⟨j, by simpa using hj, by rwa [show o + 1 + j = o + (j + 1) by omega]⟩
      · rintro (z | ⟨j, hj, z⟩)
        · exact ⟨0, by simp, z⟩
        · exact ⟨j + 1, by simpa using hj, by rwa [show o + 1 + j = o + (j + 1) by omega] at z⟩
  | [], _ :: _, _, hl, _, _ => by simp at hl
  | _ :: _, [], _, hl, _, _ => by simp at hl
theorem kvFrz : ∀ {ds : List (D × D)}, frzAll (mapFrz (ds.map (·.2))) = true → frzKv (mapFrzKv ds) = true
  | [], _ => rfl
  | (k, v) :: r, h => by
    simp only [List.map_cons, mapFrz, frzAll, Bool.and_eq_true] at h
    simp only [mapFrzKv, frzKv, Bool.and_eq_true]
    exact ⟨h.1, kvFrz h.2⟩
mutual
theorem Den.isFrz_frz : ∀ {v : V} {d : D} {U : AS}, Den K F H v d U → d.frz.isFrz = true
  | _, _, _, .non _ => rfl
  | _, _, _, .bl _ => rfl
  | _, _, _, .int _ => rfl
  | _, _, _, .str _ => rfl
  | _, _, _, .tup _ l => by simp only [D.frz, D.isFrz]; exact DenL.isFrz_frz l
  | _, _, _, .lstF _ l _ => by simp only [D.frz, D.isFrz, Bool.not_false, Bool.true_and]; exact DenL.isFrz_frz l
  | _, _, _, .scr _ _ => rfl
  | _, _, _, .lstU _ l _ _ => by simp only [D.frz, D.isFrz, Bool.not_false, Bool.true_and]; exact DenL.isFrz_frz l
  | _, _, _, .dKF _ k l _ => by simp only [D.frz, D.isFrz, Bool.not_false, Bool.true_and]; exact kvFrz (DenL.isFrz_frz l)
  | _, _, _, .dKU _ k l _ _ => by simp only [D.frz, D.isFrz, Bool.not_false, Bool.true_and]; exact kvFrz (DenL.isFrz_frz l)
  | _, _, _, .dTF _ k l _ => by simp only [D.frz, D.isFrz, Bool.not_false, Bool.true_and]; exact kvFrz (DenL.isFrz_frz l)
  | _, _, _, .dTU _ k l _ _ => by simp only [D.frz, D.isFrz, Bool.not_false, Bool.true_and]; exact kvFrz (DenL.isFrz_frz l)
theorem DenL.isFrz_frz : ∀ {vs : List V} {ds : List D} {U : AS}, DenL K F H vs ds U → frzAll (mapFrz ds) = true
  | _, _, _, .nil _ => rfl
  | _, _, _, .cons h l _ _ => by simp only [mapFrz, frzAll, Bool.and_eq_true]; exact ⟨Den.isFrz_frz h, DenL.isFrz_frz l⟩
end
end
end MP

end
section
set_option Elab.async false
set_option linter.all false
set_option maxRecDepth 100000
/-! MP16: what a def promises; its body keeps it; a call uses it. -/
namespace MP
open PySem PySem.Spec PyProof.Rows L2

/-- the promise -/
def spF (K : PySem.W.Frag) (cl : Cls) (Γ : Fns) (id : Nat) (np : Nat) (outs : List Nat) : Sp := fun vs H Q E => ∃ F ds U, Le F H ∧ DenL K F H vs ds U ∧ (∀ b, U b → F b = none) ∧ ds.length = np ∧ (∀ (j : Nat) (d : D), ds[j]? = some d → j ∉ outs → d.isFrz = true) ∧
  match Γ id ds with
  | .ok r _ => ∀ F' H' v U1 U2, Le F' H' → DenL K F' H' vs r.2 U1 → (∀ b, U1 b → F' b = none) → Root K F' H' U1 v r.1 U2 → Evo F H U F' H' (fun b => U1 b ∨ U2 b) → Q v H'
  | .exc x _ => ∀ C a F' H', Le F' H' → XDen K cl F' H' C a x → Evo F H U F' H' none0 → E C a H'
  | .stk => False
section
variable {K : PySem.W.Frag} {F H F' H' : Hp}
theorem outsOf_at (ρ : Rho) (os : List Nat) : ∀ (ds : List D) (o j : Nat) (d : D), ds[j]? = some d → (outsOf ρ o os ds)[j]? = some (if os.contains (o + j) then (ρ.getD (o + j) none).getD d else d)
  | [], o, j, d, h => by simp at h
  | e :: ds, o, 0, d, h => by
    simp at h
    subst h
    simp [outsOf]
  | e :: ds, o, j + 1, d, h => by
    have := outsOf_at ρ os ds (o + 1) j d (by simpa using h)
    simp only [outsOf, List.getElem?_cons_succ]
    rw [this, show o + 1 + j = o + (j + 1) by omega]
theorem outsOf_len (ρ : Rho) (os : List Nat) : ∀ (ds : List D) (o : Nat), (outsOf ρ o os ds).length = ds.length
  | [], _ => rfl
  | e :: ds, o => by simp [outsOf, outsOf_len ρ os ds]
theorem start_at {N : List Str} {vs : List V} {j : Nat} (h : j < vs.length) : (L2.start N vs)[j]? = some vs[j]? := by
  unfold L2.start
  rw [List.getElem?_append_left (by simpa using h), List.getElem?_map, List.getElem?_eq_getElem h]
  rfl
/-- what a body leaves, as its caller takes it -/
theorem outs_den {N : List Str} {vs : List V} {ds : List D} {U : AS} {σ' : L2.St} {ρ' : Rho} {Us' : US} {os : List Nat} (le : Le F H) (l : DenL K F H vs ds U) (fz : ∀ (j : Nat) (d : D), ds[j]? = some d → j ∉ os → d.isFrz = true)
    (w : Wf K F' H' σ' ρ' Us') (sF : Same F F') (kp : Kp os (L2.start N vs) σ') (ok : outsOk ρ' os = true) :
    ∃ U1, DenL K F' H' vs (outsOf ρ' 0 os ds) U1 ∧ ∀ b, U1 b → Tot Us' b := by
  let Us2 : US := fun j => if j ∈ os then Us' j else none0
  have key : DenL K F' H' vs (outsOf ρ' 0 os ds) (fun b => ∃ j, j < vs.length ∧ Us2 (0 + j) b) := by
    refine denl_of 0 (by rw [outsOf_len, l.length]) (fun j v d e1 e2 => ?_) fun i j b u v => ?_
    · have hj : j < vs.length := (List.getElem?_eq_some_iff.mp e1).1
      have hj2 : j < ds.length := by rw [← l.length]; exact hj
      rw [outsOf_at ρ' os ds 0 j ds[j] (List.getElem?_eq_getElem hj2), Nat.zero_add] at e2
      rw [Nat.zero_add]
      by_cases hm : j ∈ os
      · rw [if_pos (by simpa using hm)] at e2
        have hk : (ρ'.getD j none).isSome = true := by
          unfold outsOk at ok
          exact (List.all_eq_true.mp ok) j hm
        obtain ⟨d', hd'⟩ := Option.isSome_iff_exists.mp hk
        rw [hd'] at e2
        cases e2
        have hr : ρ'[j]? = some (some d') := by
          rw [List.getD_eq_getElem?_getD] at hd'
          cases q : ρ'[j]? with
          | none => rw [q] at hd'; cases hd'
          | some o => rw [q] at hd'; exact congrArg some hd'
        obtain ⟨v', hv, den⟩ := w.den j d' hr
        have := kp j hm
        rw [start_at hj, hv, e1] at this
        cases this
        show Den K F' H' v d' (if j ∈ os then Us' j else none0)
        rw [if_pos hm]
        exact den
      · rw [if_neg (by simpa using hm)] at e2
        cases e2
        obtain ⟨v', U1, e3, den, sub⟩ := l.getD (List.getElem?_eq_getElem hj2)
        rw [e1] at e3
        cases e3
        have no := den.frz_none (fz j ds[j] (List.getElem?_eq_getElem hj2) hm)
        show Den K F' H' v ds[j] (if j ∈ os then Us' j else none0)
        rw [if_neg hm]
        exact (den.keep sF fun b o u _ => absurd u (no b)).iff fun b => ⟨fun u => no b u, fun z => z.elim⟩
    · show i = j
      have u : (if i ∈ os then Us' i else none0) b := u
      have v : (if j ∈ os then Us' j else none0) b := v
      split at u
      · split at v
        · exact w.dj i j b u v
        · exact v.elim
      · exact u.elim
  refine ⟨_, key, fun b ⟨j, _, u⟩ => ?_⟩
  have u : (if 0 + j ∈ os then Us' (0 + j) else none0) b := u
  split at u
  · exact ⟨_, u⟩
  · exact u.elim
end
section
variable {Y : Ct} {Γ Γ' : Fns} {id : Nat} {fn : Fn} {N : List Str} {vs : List V} {H : Hp} {Q : VK} {E : XK}
/-- a body keeps the promise -/
theorem body_ok (hN : N.length = fn.n) (hnp : fn.np ≤ fn.n) (hx : ∀ σ C a H, E C a H → Y.xc σ C a H) (hΓ : ∀ ds, Γ' id ds = runFn Γ fn ds) (h : spF Y.K Y.cl Γ' id fn.np fn.outs vs H Q E) :
    vs.length = fn.np ∧ tSs Y Γ fn.outs fn.body { nx := fun _ H' => Q .non H', rt := Q } (L2.start N vs) H := by
  obtain ⟨F, ds, U, le, l, ou, hl, fz, h⟩ := h
  refine ⟨by rw [l.length, hl], ?_⟩
  obtain ⟨Us, w, tt⟩ := wf_start (N.length - vs.length) le l ou
  have es : startR fn.n ds = ds.map some ++ List.replicate (N.length - vs.length) none := by
    unfold startR
    rw [hN, l.length]
  rw [← es] at w
  refine ⟨F, startR fn.n ds, Us, w, ?_⟩
  rw [hΓ] at h
  unfold runFn at h
  rw [if_pos hl] at h
  have evU : ∀ {F' H' T'}, Evo F H (Tot Us) F' H' T' → Evo F H U F' H' T' := fun e => e.more fun b t => (tt b).mp t
  cases r : exs Γ fn.body (startR fn.n ds) with
  | stk => rw [r] at h; exact h
  | exc x ρ' =>
    rw [r] at h
    exact fun σ' C a F' H' Us' w' xd ev kp => hx _ _ _ _ (h C a F' H' w'.le xd ((evU ev).weak fun b z => z.elim))
  | ok fl ρ' =>
    rw [r] at h
    cases fl with
    | brk => exact h.elim
    | cnt => exact h.elim
    | nx =>
      dsimp only at h
      intro σ' F' H' Us' w' ev kp
      by_cases ok : outsOk ρ' fn.outs = true
      · rw [if_pos ok] at h
        obtain ⟨U1, l1, sub⟩ := outs_den le l fz w' ev.fle kp ok
        exact h F' H' .non U1 none0 w'.le l1 (fun b u => w'.tout (sub b u)) ⟨.non no0, fun _ z => z.elim, fun _ z => z.elim⟩ ((evU ev).weak fun b t => t.elim (sub b) fun z => z.elim)
      · rw [if_neg ok] at h
        exact h.elim
    | ret d =>
      dsimp only at h
      intro σ' F' H' Us' v U2 w' rv ev kp
      by_cases ok : outsOk ρ' fn.outs = true
      · rw [if_pos ok] at h
        obtain ⟨U1, l1, sub⟩ := outs_den le l fz w' ev.fle kp ok
        exact h F' H' v U1 U2 w'.le l1 (fun b u => w'.tout (sub b u)) ⟨rv.den, fun b u t => rv.dj b u (sub b t), rv.out⟩ ((evU ev).weak fun b t => t.imp (sub b) fun z => z)
      · rw [if_neg ok] at h
        exact h.elim
end
/-! ### the caller -/
section
variable {K : PySem.W.Frag} {F H F' H' : Hp} {σ : L2.St}
theorem ArgL.freeze {es : List E} {vs : List V} {ds : List D} {U : AS} (sF : Same F F') (A : ArgL K F H σ es vs ds U) (hU : ∀ b, U b → F' b = H b) : vs.length = es.length ∧ ds.length = es.length ∧ ∀ (k : Nat) (v : V) (d : D), vs[k]? = some v → ds[k]? = some d → (∀ i, es[k]? = some (.ref i) → σ[i]? = some (some v)) ∧ ((∀ i, es[k]? ≠ some (.ref i)) → Den K F' H v d.frz none0) := by
  induction A with
  | nil => exact ⟨rfl, rfl, fun k v d e1 _ => by simp at e1⟩
  | ref h r ih =>
    obtain ⟨a, b, c⟩ := ih hU
    refine ⟨by simp [a], by simp [b], fun k v d e1 e2 => ?_⟩
    cases k with
    | zero =>
      simp at e1
      subst e1
      exact ⟨fun i e => by simp at e; subst e; exact h, fun n => absurd rfl (n _)⟩
    | succ k => exact c k v d (by simpa using e1) (by simpa using e2)
  | val nr h r dj z ih =>
    obtain ⟨a, b, c⟩ := ih fun b u => hU b ((z b).mpr (.inr u))
    refine ⟨by simp [a], by simp [b], fun k v d e1 e2 => ?_⟩
    cases k with
    | zero =>
      simp at e1 e2
      subst e1 e2
      exact ⟨fun i e => by simp at e; exact absurd e (nr i), fun _ => h.freeze sF (fun b u => hU b ((z b).mpr (.inl u))) no0⟩
    | succ k => exact c k v d (by simpa using e1) (by simpa using e2)
theorem lift_inv {α : Type} {o : Option α} {ρ ρ' : Rho} {a : α} (h : M.lift o ρ = .ok a ρ') : o = some a ∧ ρ' = ρ := by
  cases o with
  | none => cases h
  | some b => cases h; exact ⟨rfl, rfl⟩
theorem movS_inv {i : Nat} {ρ ρ' : Rho} {d : D} (h : movS i ρ = .ok d ρ') : ρ[i]? = some (some d) ∧ ρ' = ρ.set i none := by
  unfold movS at h
  split at h
  · rename_i e; cases h; exact ⟨e, rfl⟩
  · cases h
/-- the arguments are laid out in the params' order; what is lent leaves its slot -/
theorem pick_ok {es : List E} {args : List V} {ds : List D} {dv : Nat → Option V} (l1 : args.length = es.length) (l2 : ds.length = es.length)
    (hA : ∀ (k : Nat) (v : V) (d : D), args[k]? = some v → ds[k]? = some d → (∀ i, es[k]? = some (.ref i) → σ[i]? = some (some v)) ∧ ((∀ i, es[k]? ≠ some (.ref i)) → Den K F H v d.frz none0)) :
    ∀ (srcs : List Src) (o : Nat) (ρ : Rho) (Us : US) (as : List D) (ρ' : Rho), Wf K F H σ ρ Us → srcs.all (okSrc es) = true → (∀ (j : Nat) (d : D), srcs[j]? = some (.d d) → ∃ v, dv (o + j) = some v ∧ Den K F H v d none0) → pick ds srcs ρ = .ok as ρ' →
      ∃ vf Us' U, selO args dv o srcs = some vf ∧ Wf K F H σ ρ' Us' ∧ DenL K F H vf as U ∧ (∀ b, U b → F b = none) ∧ (∀ b, U b → ¬ Tot Us' b) ∧ (∀ b, Tot Us' b ∨ U b → Tot Us b) ∧ (∀ (j k i : Nat), srcs[j]? = some (.s k i) → ∃ v, vf[j]? = some v ∧ σ[i]? = some (some v)) ∧
        ∀ (j : Nat) (d : D), as[j]? = some d → (∃ k i, srcs[j]? = some (.s k i)) ∨ d.isFrz = true
  | [], o, ρ, Us, as, ρ', w, _, _, h => by
    unfold pick at h
    cases h
    exact ⟨[], Us, none0, rfl, w, .nil no0, fun _ z => z.elim, fun _ z => z.elim, fun b t => t.elim id fun z => z.elim, fun j k i e => by simp at e, fun j d e => by simp at e⟩
  | .a k :: r, o, ρ, Us, as, ρ', w, ok, hd, h => by
    rw [pick] at h
    obtain ⟨d, ρ1, e0, h1⟩ := bind_inv h
    obtain ⟨e1, rfl⟩ := lift_inv e0
    obtain ⟨as', ρ2, e2, h2⟩ := bind_inv h1
    cases h2
    rw [List.all_cons, Bool.and_eq_true] at ok
    obtain ⟨vf, Us', U, s1, w', l', ou, dj, sub, lent, fz⟩ := pick_ok l1 l2 hA r (o + 1) ρ1 Us as' _ w ok.2 (fun j d e => by
      have := hd (j + 1) d (by simpa using e)
      rwa [show o + (j + 1) = o + 1 + j by omega] at this) e2
    have hk : k < es.length := by rw [← l2]; exact (List.getElem?_eq_some_iff.mp e1).1
    have hv : args[k]? = some args[k] := List.getElem?_eq_getElem (by rw [l1]; exact hk)
    have den := (hA k _ d hv e1).2 fun i e => by
      have := ok.1
      unfold okSrc at this
      dsimp only at this
      rw [e] at this
      cases this
    refine ⟨args[k] :: vf, Us', U, by simp [selO, hv, s1], w', .cons den l' (fun _ z => z.elim) fun b => ⟨.inr, fun z => z.elim (fun z => z.elim) id⟩, ou, dj, sub, fun j k' i e => ?_, fun j d' e => ?_⟩
    · cases j with
      | zero => simp at e
      | succ j => exact lent j k' i (by simpa using e)
    · cases j with
      | zero =>
        simp at e
        subst e
        exact .inr (by have := den.isFrz_frz; rwa [frz_frz] at this)
      | succ j => exact fz j d' (by simpa using e)
  | .d d0 :: r, o, ρ, Us, as, ρ', w, ok, hd, h => by
    rw [pick] at h
    obtain ⟨as', ρ2, e2, h1⟩ := bind_inv h
    cases h1
    rw [List.all_cons, Bool.and_eq_true] at ok
    obtain ⟨vf, Us', U, s1, w', l', ou, dj, sub, lent, fz⟩ := pick_ok l1 l2 hA r (o + 1) ρ Us as' _ w ok.2 (fun j d e => by
      have := hd (j + 1) d (by simpa using e)
      rwa [show o + (j + 1) = o + 1 + j by omega] at this) e2
    obtain ⟨v, hv, den⟩ := hd 0 d0 rfl
    rw [Nat.add_zero] at hv
    refine ⟨v :: vf, Us', U, by simp [selO, hv, s1], w', .cons den l' (fun _ z => z.elim) fun b => ⟨.inr, fun z => z.elim (fun z => z.elim) id⟩, ou, dj, sub, fun j k' i e => ?_, fun j d' e => ?_⟩
    · cases j with
      | zero => simp at e
      | succ j => exact lent j k' i (by simpa using e)
    · cases j with
      | zero =>
        simp at e
        subst e
        exact .inr ok.1
      | succ j => exact fz j d' (by simpa using e)
  | .s k i :: r, o, ρ, Us, as, ρ', w, ok, hd, h => by
    rw [pick] at h
    obtain ⟨d, ρ1, e0, h1⟩ := bind_inv h
    obtain ⟨e1, rfl⟩ := movS_inv e0
    obtain ⟨as', ρ2, e2, h2⟩ := bind_inv h1
    cases h2
    rw [List.all_cons, Bool.and_eq_true] at ok
    obtain ⟨v, hσ, rt⟩ := w.root e1
    obtain ⟨vf, Us', U, s1, w', l', ou, dj, sub, lent, fz⟩ := pick_ok l1 l2 hA r (o + 1) _ _ as' _ w.drop ok.2 (fun j d e => by
      have := hd (j + 1) d (by simpa using e)
      rwa [show o + (j + 1) = o + 1 + j by omega] at this) e2
    have he : es[k]? = some (.ref i) := by
      have := ok.1
      unfold okSrc at this
      dsimp only at this
      split at this
      · rename_i j e
        have q : i = j := by simpa using this
        rw [e, q]
      · cases this
    have hk : k < es.length := (List.getElem?_eq_some_iff.mp he).1
    have hv : args[k]? = some args[k] := List.getElem?_eq_getElem (by rw [l1]; exact hk)
    have hv2 := (hA k _ _ hv (List.getElem?_eq_getElem (by rw [l2]; exact hk))).1 i he
    rw [hσ] at hv2
    cases hv2
    refine ⟨args[k] :: vf, Us', fun b => Us i b ∨ U b, by simp [selO, hv, s1], w', .cons rt.den l' (fun b u z => rt.dj b u (sub b (.inr z))) fun b => Iff.rfl, fun b u => u.elim (rt.out b) (ou b), fun b u t => u.elim (fun u => rt.dj b u (sub b (.inl t))) fun u => dj b u t, fun b t => ?_, fun j k' i' e => ?_, fun j d' e => ?_⟩
    · rcases t with t | t | t
      · exact tot_drop (sub b (.inl t))
      · exact ⟨i, t⟩
      · exact tot_drop (sub b (.inr t))
    · cases j with
      | zero =>
        simp at e
        obtain ⟨rfl, rfl⟩ := e
        exact ⟨_, rfl, hσ⟩
      | succ j => exact lent j k' i' (by simpa using e)
    · cases j with
      | zero => exact .inl ⟨k, i, rfl⟩
      | succ j => exact fz j d' (by simpa using e)
theorem pick_exc {ds : List D} : ∀ (srcs : List Src) (ρ : Rho) (x : XV) (ρ' : Rho), pick ds srcs ρ ≠ .exc x ρ'
  | [], ρ, x, ρ', h => by rw [pick] at h; cases h
  | .a k :: r, ρ, x, ρ', h => by
    rw [pick] at h
    rcases bind_exc_inv h with e | ⟨d, ρ1, _, h⟩
    · cases q : ds[k]? <;> rw [q] at e <;> cases e
    · rcases bind_exc_inv h with e | ⟨_, _, _, h⟩
      · exact pick_exc r _ _ _ e
      · cases h
  | .d v :: r, ρ, x, ρ', h => by
    rw [pick] at h
    rcases bind_exc_inv h with e | ⟨_, _, _, h⟩
    · exact pick_exc r _ _ _ e
    · cases h
  | .s k i :: r, ρ, x, ρ', h => by
    rw [pick] at h
    rcases bind_exc_inv h with e | ⟨d, ρ1, _, h⟩
    · unfold movS at e
      split at e <;> cases e
    · rcases bind_exc_inv h with e | ⟨_, _, _, h⟩
      · exact pick_exc r _ _ _ e
      · cases h
theorem putS_exc : ∀ (srcs : List Src) (ds : List D) (ρ : Rho) (x : XV) (ρ' : Rho), putS srcs ds ρ ≠ .exc x ρ'
  | [], [], ρ, x, ρ', h => by rw [putS] at h; cases h
  | .a k :: r, d :: ds, ρ, x, ρ', h => by rw [putS] at h; exact putS_exc r ds _ _ _ h
  | .d k :: r, d :: ds, ρ, x, ρ', h => by rw [putS] at h; exact putS_exc r ds _ _ _ h
  | .s k i :: r, d :: ds, ρ, x, ρ', h => by
    rw [putS] at h
    rcases bind_exc_inv h with e | ⟨_, _, _, h⟩
    · unfold setSlot at e
      split at e <;> cases e
    · exact putS_exc r ds _ _ _ h
  | [], _ :: _, ρ, x, ρ', h => by unfold putS at h; cases h
  | .a _ :: _, [], ρ, x, ρ', h => by unfold putS at h; cases h
  | .d _ :: _, [], ρ, x, ρ', h => by unfold putS at h; cases h
  | .s _ _ :: _, [], ρ, x, ρ', h => by unfold putS at h; cases h
theorem set_self {α : Type} {l : List α} {i : Nat} {a : α} (h : l[i]? = some a) : l.set i a = l := by
  apply List.ext_getElem?
  intro j
  by_cases e : i = j
  · subst e
    rw [List.getElem?_set_self (List.getElem?_eq_some_iff.mp h).1, h]
  · rw [List.getElem?_set_ne e]
theorem putS_ok : ∀ (srcs : List Src) (vf : List V) (os : List D) (ρ : Rho) (Us : US) (U1 : AS) (u : Unit) (ρ' : Rho), Wf K F H σ ρ Us → DenL K F H vf os U1 → (∀ b, U1 b → ¬ Tot Us b) → (∀ b, U1 b → F b = none) →
    (∀ (j k i : Nat), srcs[j]? = some (.s k i) → ∃ v, vf[j]? = some v ∧ σ[i]? = some (some v)) → putS srcs os ρ = .ok u ρ' → ∃ Us', Wf K F H σ ρ' Us' ∧ ∀ b, Tot Us' b → Tot Us b ∨ U1 b
  | [], vf, [], ρ, Us, U1, u, ρ', w, l, dj, ou, lent, h => by
    rw [putS] at h
    cases h
    exact ⟨Us, w, fun b t => .inl t⟩
  | .a k :: r, vf, d :: os, ρ, Us, U1, u, ρ', w, l, dj, ou, lent, h => by
    rw [putS] at h
    cases l with
    | cons h1 l dj2 e =>
      obtain ⟨Us', w', sub⟩ := putS_ok r _ os ρ Us _ u ρ' w l (fun b u => dj b ((e b).mpr (.inr u))) (fun b u => ou b ((e b).mpr (.inr u))) (fun j k i q => by
        obtain ⟨v, a, b⟩ := lent (j + 1) k i (by simpa using q)
        exact ⟨v, by simpa using a, b⟩) h
      exact ⟨Us', w', fun b t => (sub b t).imp id fun u => (e b).mpr (.inr u)⟩
  | .d k :: r, vf, d :: os, ρ, Us, U1, u, ρ', w, l, dj, ou, lent, h => by
    rw [putS] at h
    cases l with
    | cons h1 l dj2 e =>
      obtain ⟨Us', w', sub⟩ := putS_ok r _ os ρ Us _ u ρ' w l (fun b u => dj b ((e b).mpr (.inr u))) (fun b u => ou b ((e b).mpr (.inr u))) (fun j k i q => by
        obtain ⟨v, a, b⟩ := lent (j + 1) k i (by simpa using q)
        exact ⟨v, by simpa using a, b⟩) h
      exact ⟨Us', w', fun b t => (sub b t).imp id fun u => (e b).mpr (.inr u)⟩
  | .s k i :: r, vf, d :: os, ρ, Us, U1, u, ρ', w, l, dj, ou, lent, h => by
    rw [putS] at h
    obtain ⟨u', ρ1, e1, h⟩ := bind_inv h
    obtain ⟨hi, rfl⟩ := setSlot_inv e1
    cases l with
    | cons h1 l dj2 e =>
      rename_i v vs V1 V2
      obtain ⟨v', a, b⟩ := lent 0 k i rfl
      simp at a
      subst a
      have w1 := w.set (U := V1) ⟨h1, fun b u => dj b ((e b).mpr (.inl u)), fun b u => ou b ((e b).mpr (.inl u))⟩ hi
      rw [set_self b] at w1
      obtain ⟨Us', w', sub⟩ := putS_ok r _ os _ _ _ u ρ' w1 l (fun b u t => (tot_put t).elim (dj b ((e b).mpr (.inr u))) fun z => dj2 b z u) (fun b u => ou b ((e b).mpr (.inr u))) (fun j k i q => by
        obtain ⟨v, a, b⟩ := lent (j + 1) k i (by simpa using q)
        exact ⟨v, by simpa using a, b⟩) h
      refine ⟨Us', w', fun b t => ?_⟩
      rcases sub b t with t | t
      · exact (tot_put t).imp id fun u => (e b).mpr (.inl u)
      · exact .inr ((e b).mpr (.inr t))
  | [], vf, _ :: _, ρ, Us, U1, u, ρ', w, l, dj, ou, lent, h => by unfold putS at h; cases h
  | .a _ :: _, vf, [], ρ, Us, U1, u, ρ', w, l, dj, ou, lent, h => by unfold putS at h; cases h
  | .d _ :: _, vf, [], ρ, Us, U1, u, ρ', w, l, dj, ou, lent, h => by unfold putS at h; cases h
  | .s _ _ :: _, vf, [], ρ, Us, U1, u, ρ', w, l, dj, ou, lent, h => by unfold putS at h; cases h
theorem Wf.evo {ρ : Rho} {Us : US} {T T' : AS} (w : Wf K F H σ ρ Us) (ev : Evo F H T F' H' T') (dj : ∀ b, Tot Us b → ¬ T b) (le : Le F' H') : Wf K F' H' σ ρ Us :=
  ⟨le, w.len, fun i d e => let ⟨v, e1, den⟩ := w.den i d e; ⟨v, e1, den.keep ev.fle fun b o u z => ev.frm b o z (dj b ⟨i, u⟩)⟩, w.emp, w.dj, fun i b u => by
    cases q : F' b with
    | none => rfl
    | some o =>
      rcases ev.frz b (w.out i b u) (by rw [q]; exact fun z => by cases z) with z | z
      · exact absurd z (dj b ⟨i, u⟩)
      · obtain ⟨o', z2⟩ := w.known ⟨i, u⟩
        rw [z2] at z; cases z⟩
theorem okOuts_s {outs : List Nat} : ∀ {srcs : List Src} {o j k i : Nat}, okOuts outs o srcs = true → srcs[j]? = some (.s k i) → (o + j) ∈ outs
  | [], o, j, k, i, _, h => by simp at h
  | .a _ :: r, o, 0, k, i, a, h => by simp at h
  | .d _ :: r, o, 0, k, i, a, h => by simp at h
  | .s _ _ :: r, o, 0, k, i, a, h => by
    simp only [okOuts, Bool.and_eq_true] at a
    simpa using a.1
  | .a _ :: r, o, j + 1, k, i, a, h => by
    have := okOuts_s (show okOuts outs (o + 1) r = true from a) (show r[j]? = some (.s k i) by simpa using h)
    rwa [show o + 1 + j = o + (j + 1) by omega] at this
  | .d _ :: r, o, j + 1, k, i, a, h => by
    have := okOuts_s (show okOuts outs (o + 1) r = true from a) (show r[j]? = some (.s k i) by simpa using h)
    rwa [show o + 1 + j = o + (j + 1) by omega] at this
  | .s _ _ :: r, o, j + 1, k, i, a, h => by
    simp only [okOuts, Bool.and_eq_true] at a
    have := okOuts_s a.2 (show r[j]? = some (.s k i) by simpa using h)
    rwa [show o + 1 + j = o + (j + 1) by omega] at this
end
section
variable {Y : Ct} {Γ : Fns} {σ : L2.St} {H : Hp} {Q : VK} {E : XK}
theorem e_call {id np : Nat} {outs : List Nat} {es : List MP.E} {srcs : List Src} {dv : Nat → Option V} (hE : ∀ C a H, Y.xc σ C a H → E C a H) (hs : srcs.all (okSrc es) = true) (ho : okOuts outs 0 srcs = true) (hn : srcs.length = np)
    (hd : ∀ (j : Nat) (d : D), srcs[j]? = some (.d d) → ∃ v, dv j = some v ∧ ∀ F H, Den Y.K F H v d none0) (h : tE Y Γ (.call id es srcs) σ H Q) :
    tAs Y Γ es σ H fun vs H1 => ∃ vf, selO vs dv 0 srcs = some vf ∧ spF Y.K Y.cl Γ id np outs vf H1 Q E := by
  obtain ⟨F, ρ, Us, w, h⟩ := h
  rw [evB] at h
  have rn : rootOf (.call id es srcs) = none := rfl
  refine as_ok es σ H _ ⟨F, ρ, Us, w, out_bind h Evo.refl fun ds ρ1 r h => ?_⟩
  intro vs F1 H1 Us1 U1 w1 ⟨A, dj, ou⟩ ev _
  obtain ⟨F2, w2, ev2, s2, fin⟩ := w1.freezeU dj ou
  obtain ⟨l1, l2, hA⟩ := A.freeze s2 fin
  cases rp : pick ds srcs ρ1 with
  | stk => rw [bind_stk rp] at h; exact h.elim
  | exc x ρ2 => exact absurd rp (pick_exc _ _ _ _)
  | ok as ρ2 =>
    rw [bind_ok rp] at h
    obtain ⟨vf, Us2, U, sl, w3, l', ou', dj', sub, lent, fz⟩ := pick_ok l1 l2 hA srcs 0 ρ1 Us1 as ρ2 w2 hs (fun j d e => by
      obtain ⟨v, a, b⟩ := hd j d e
      exact ⟨v, by rw [Nat.zero_add]; exact a, b _ _⟩) rp
    refine ⟨vf, sl, F2, as, U, w3.le, l', ou', by rw [← l'.length, selO_len sl, hn], fun j d e hj => ?_, ?_⟩
    · rcases fz j d e with ⟨k, i, q⟩ | q
      · have := okOuts_s ho q
        rw [Nat.zero_add] at this
        exact absurd this hj
      · exact q
    have evc : Evo F H (Tot Us) F2 H1 (Tot Us1) := ev.trans ev2
    cases rc : Γ id as with
    | stk =>
      have : callD Γ id as ρ2 = .stk := by unfold callD; rw [rc]
      rw [bind_stk this] at h
      exact h
    | exc x ρ3 =>
      have : callD Γ id as ρ2 = .exc x ρ2 := by unfold callD; rw [rc]
      rw [bind_exc this] at h
      intro C a F' H' le xd ev3
      have w4 := w3.evo ev3 (fun b t u => dj' b u t) le
      refine hE _ _ _ (h C a F' H' Us2 w4 xd ?_)
      refine evc.trans (((ev3.plus (A := Tot Us2)).more fun b t => ?_).weak fun b t => .inr t)
      exact t.elim (fun t => sub b (.inr t)) fun t => sub b (.inl t)
    | ok r ρ3 =>
      have : callD Γ id as ρ2 = .ok r ρ2 := by unfold callD; rw [rc]
      rw [bind_ok this] at h
      intro F' H' v U3 U4 le l3 ou3 rt ev3
      have w4 := w3.evo ev3 (fun b t u => dj' b u t) le
      have dj3 : ∀ b, U3 b ∨ U4 b → ¬ Tot Us2 b := fun b u t => by
        rcases ev3.own b u with z | z
        · exact dj' b z t
        · obtain ⟨o, z2⟩ := w3.known t
          rw [z2] at z; cases z
      cases rs : putS srcs r.2 ρ2 with
      | stk => rw [bind_stk rs] at h; exact h.elim
      | exc x ρ3 => exact absurd rs (putS_exc _ _ _ _ _)
      | ok u ρ4 =>
        rw [bind_ok rs] at h
        obtain ⟨Us3, w5, sub3⟩ := putS_ok srcs vf r.2 ρ2 Us2 U3 u ρ4 w4 l3 (fun b u => dj3 b (.inl u)) ou3 lent rs
        refine h v F' H' Us3 U4 w5 (rb_root rn ⟨rt.den, fun b u t => ?_, rt.out⟩) ?_ fun z => by cases z
        · exact (sub3 b t).elim (dj3 b (.inr u)) (rt.dj b u)
        · refine evc.trans (((ev3.plus (A := Tot Us2)).more fun b t => ?_).weak fun b t => ?_)
          · exact t.elim (fun t => sub b (.inr t)) fun t => sub b (.inl t)
          · rcases t with t | t
            · exact (sub3 b t).elim .inr fun z => .inl (.inl z)
            · exact .inl (.inr t)
end
end MP

end
section
set_option Elab.async false
set_option linter.all false
set_option maxRecDepth 100000
/-! MP17: the call of a def, bound by srcsOf. -/
namespace MP
open PySem PySem.Spec PyProof.Rows L2

theorem ixOf_some {x : Str} : ∀ {l : List Str} {o i : Nat}, ixOf x l o = some i → o ≤ i ∧ l[i - o]? = some x
  | [], o, i, h => by simp [ixOf] at h
  | y :: r, o, i, h => by
    unfold ixOf at h
    split at h
    · rename_i e
      cases h
      exact ⟨Nat.le_refl _, by simp [e]⟩
    · obtain ⟨a, b⟩ := ixOf_some h
      refine ⟨by omega, ?_⟩
      rw [show i - o = (i - (o + 1)) + 1 by omega, List.getElem?_cons_succ]
      exact b
theorem ixOf_none {x : Str} : ∀ {l : List Str} {o : Nat}, ixOf x l o = none → x ∉ l
  | [], o, h => by simp
  | y :: r, o, h => by
    unfold ixOf at h
    split at h
    · cases h
    · rename_i e
      simp only [List.mem_cons, not_or]
      exact ⟨fun q => e q.symm, ixOf_none h⟩
theorem srcs_get {n : Nat} {ks : List Str} : ∀ {o : Nat} {ps : List Str} {dfl : List (Option D)} {srcs : List Src}, srcsOf n ks o ps dfl = some srcs → srcs.length = ps.length ∧ ∀ (j : Nat) (x : Str), ps[j]? = some x →
    (o + j < n ∧ srcs[j]? = some (.a (o + j))) ∨ (n ≤ o + j ∧ ∃ i, ixOf x ks 0 = some i ∧ srcs[j]? = some (.a (n + i))) ∨ (n ≤ o + j ∧ ixOf x ks 0 = none ∧ ∃ d, dfl[j]? = some (some d) ∧ srcs[j]? = some (.d d))
  | o, [], dfl, srcs, h => by
    unfold srcsOf at h
    cases h
    exact ⟨rfl, fun j x e => by simp at e⟩
  | o, p :: ps, [], srcs, h => by unfold srcsOf at h; cases h
  | o, p :: ps, d :: dfl, srcs, h => by
    unfold srcsOf at h
    obtain ⟨r, hr, h⟩ := Option.bind_eq_some_iff.mp h
    obtain ⟨l, ih⟩ := srcs_get hr
    have step : ∀ s, srcs = s :: r → srcs.length = (p :: ps).length ∧ ∀ (j : Nat) (x : Str), ps[j]? = some x →
        (o + (j + 1) < n ∧ srcs[j + 1]? = some (.a (o + (j + 1)))) ∨ (n ≤ o + (j + 1) ∧ ∃ i, ixOf x ks 0 = some i ∧ srcs[j + 1]? = some (.a (n + i))) ∨ (n ≤ o + (j + 1) ∧ ixOf x ks 0 = none ∧ ∃ e, (d :: dfl)[j + 1]? = some (some e) ∧ srcs[j + 1]? = some (.d e)) := fun s e => by
      subst e
      refine ⟨by simp [l], fun j x hx => ?_⟩
      simp only [List.getElem?_cons_succ]
      rw [show o + (j + 1) = o + 1 + j by omega]
      exact ih j x hx
    by_cases hn : o < n
    · rw [if_pos hn] at h
      cases h
      obtain ⟨a, b⟩ := step _ rfl
      refine ⟨a, fun j x hx => ?_⟩
      cases j with
      | zero => exact .inl ⟨hn, rfl⟩
      | succ j => exact b j x (by simpa using hx)
    · rw [if_neg hn] at h
      cases e : ixOf p ks 0 with
      | some i =>
        rw [e] at h
        cases h
        obtain ⟨a, b⟩ := step _ rfl
        refine ⟨a, fun j x hx => ?_⟩
        cases j with
        | zero => simp at hx; subst hx; exact .inr (.inl ⟨by omega, i, e, rfl⟩)
        | succ j => exact b j x (by simpa using hx)
      | none =>
        rw [e] at h
        cases d with
        | none => cases h
        | some v =>
          cases h
          obtain ⟨a, b⟩ := step _ rfl
          refine ⟨a, fun j x hx => ?_⟩
          cases j with
          | zero => simp at hx; subst hx; exact .inr (.inr ⟨by omega, e, v, rfl, rfl⟩)
          | succ j => exact b j x (by simpa using hx)
/-- the defaults, by the params' places -/
def dvV {α : Type} (ps : List Str) (npos : Nat) (dvs : List α) (kd : Str → Option α) (j : Nat) : Option α := if j < npos then (if npos - dvs.length ≤ j then dvs[j - (npos - dvs.length)]? else none) else (ps[j]?).bind kd
theorem filterMap_zip {g : Str → Option Value} : ∀ {l : List Str} {uf : List Value}, l.length = uf.length → (∀ (j : Nat) (x : Str), l[j]? = some x → g x = uf[j]?) → l.filterMap (fun n => (g n).map fun v => (n, v)) = l.zip uf
  | [], [], _, _ => rfl
  | x :: l, u :: uf, hl, h => by
    have h0 : g x = some u := by simpa using h 0 x rfl
    rw [List.filterMap_cons, h0]
    simp only [Option.map_some, List.zip_cons_cons, List.cons.injEq, true_and]
    exact filterMap_zip (by simpa using hl) fun j x e => by simpa using h (j + 1) x (by simpa using e)
  | [], _ :: _, hl, _ => by simp at hl
  | _ :: _, [], hl, _ => by simp at hl
theorem mem_of_lookup' {α : Type} : ∀ {l : List (Str × α)} {x : Str} {v : α}, l.lookup x = some v → (x, v) ∈ l
  | (k, u) :: r, x, v, h => by
    rw [List.lookup_cons] at h
    cases e : x == k with
    | true =>
      rw [e] at h
      cases h
      rw [show x = k by simpa using e]
      exact List.mem_cons_self ..
    | false =>
      rw [e] at h
      exact List.mem_cons_of_mem _ (mem_of_lookup' h)
/-- what is known of a def's params -/
structure ParOk (params : Arguments) (ps : List Str) (npos : Nat) : Prop where
  h1 : params.posonlyargs = []
  h2 : params.vararg = none
  h3 : params.kwarg = none
  hP : params.args.map (·.arg) = ps.take npos
  hKO : params.kwonlyargs.map (·.arg) = ps.drop npos
  le : npos ≤ ps.length
  nd : ps.Nodup
def kdOf (K : PySem.W.Frag) (kV : Value) (y : Str) : Option Value := match kV with
    | .ref D => (match PySem.W.nsIn K D y with
      | some (some u) => some u
      | _ => none)
    | _ => none
theorem nodup_inj : ∀ {l : List Str} {i j : Nat} {y : Str}, l.Nodup → l[i]? = some y → l[j]? = some y → i = j
  | [], i, j, y, _, a, _ => by simp at a
  | x :: l, 0, 0, y, _, _, _ => rfl
  | x :: l, 0, j + 1, y, nd, a, b => by
    simp at a b
    subst a
    exact absurd (List.mem_of_getElem? b) (List.nodup_cons.mp nd).1
  | x :: l, i + 1, 0, y, nd, a, b => by
    simp at a b
    subst b
    exact absurd (List.mem_of_getElem? a) (List.nodup_cons.mp nd).1
  | x :: l, i + 1, j + 1, y, nd, a, b => by
    exact congrArg Nat.succ (nodup_inj (List.nodup_cons.mp nd).2 (by simpa using a) (by simpa using b))
theorem bind_srcs {K : PySem.W.Frag} {x qual : Str} {params : Arguments} {body : List Stmt} {scope : Scope} {dvs : List V} {kws : List (Str × V)} {f : Addr} {fd : FuncData} {ps ks : List Str} {npos n : Nat} {dfl : List (Option D)} {srcs : List Src} {s : Shared} {us ws : List Value} {vs zs vf : List V}
    (FD : FunD K x qual params body scope dvs kws f fd) (par : ParOk params ps npos) (hdv : dvs.length ≤ npos) (hdfl : ∀ (j : Nat) (d : D), dfl[j]? = some (some d) → ∃ v, dvV ps npos dvs (fun y => kws.lookup y) j = some v)
    (hs : srcsOf n ks 0 ps dfl = some srcs) (hn : n ≤ npos) (hk : ∀ y ∈ ks, y ∈ ps.drop n) (nd : ks.Nodup) (X : K.In s.heap) (r : Vals vs us) (rz : Vals zs ws) (l1 : vs.length = n) (l2 : zs.length = ks.length) (hv : selO (vs ++ zs) (dvV ps npos dvs (fun y => kws.lookup y)) 0 srcs = some vf) :
    ∃ uf, Vals vf uf ∧ BindsTo s fd ⟨us, ks.zip ws⟩ (ps.zip uf) := by
  obtain ⟨oc, od, dV, kV, doc, pm, an, cdv, ct, osl, rfl, lk, hcd, hD, hK⟩ := FD.ex
  have hn1 : us.length = n := r.length.symm.trans l1
  have hw1 : ws.length = ks.length := rz.length.symm.trans l2
  -- the defaults, as values
  obtain ⟨dl, T, o, m, hd, rd⟩ : ∃ (dl : List Value) (T : Addr) (o : Obj) (m : Nat), ((dl = [] ∧ dV = .none) ∨ (dV = .ref T ∧ K.lookup T = some o ∧ o.data = .seq dl.toArray m)) ∧ Vals dvs dl := by
    rcases hD with ⟨rfl, rfl⟩ | ⟨_, T, o, its, m, rfl, lT, oT, rT⟩
    · exact ⟨[], 0, ⟨.none, none, .seq #[] 0, #[]⟩, 0, .inl ⟨rfl, rfl⟩, .nil⟩
    · exact ⟨its, T, o, m, .inr ⟨rfl, lT, oT⟩, rT⟩
  have hdl : dl.length = dvs.length := rd.length.symm
  have kq : ∀ y v, kws.lookup y = some v → ∃ D u, kV = .ref D ∧ PySem.W.nsIn K D y = some (some u) ∧ kdOf K kV y = some u ∧ RelV v u := fun y v e => by
    rcases hK with rfl | ⟨D, rfl, hq⟩
    · cases e
    · obtain ⟨u, e1, e2⟩ := hq (y, v) (mem_of_lookup' e)
      exact ⟨D, u, rfl, e1, by unfold kdOf; dsimp only; rw [e1], e2⟩
  have hdw : ∀ j v, dvV ps npos dvs (fun y => kws.lookup y) j = some v → ∃ u, dvV ps npos dl (kdOf K kV) j = some u ∧ RelV v u := fun j v e => by
    unfold dvV at e ⊢
    by_cases hj : j < npos
    · rw [if_pos hj] at e ⊢
      rw [hdl]
      by_cases hj2 : npos - dvs.length ≤ j
      · rw [if_pos hj2] at e ⊢
        exact rd.get e
      · rw [if_neg hj2] at e
        cases e
    · rw [if_neg hj] at e ⊢
      cases q : ps[j]? with
      | none => rw [q] at e; cases e
      | some y =>
        rw [q] at e
        obtain ⟨D, u, _, _, e3, e4⟩ := kq y v e
        exact ⟨u, e3, e4⟩
  obtain ⟨uf, e1, rf⟩ := selO_rel (r.append rz) hdw hv
  obtain ⟨sl, sg⟩ := srcs_get hs
  have hP : (ps.take npos).length = npos := by rw [List.length_take]; have := par.le; omega
  have psp : ps.take npos ++ ps.drop npos = ps := List.take_append_drop _ _
  have ndP : (ps.take npos).Nodup := par.nd.sublist (List.take_sublist _ _)
  have inj : ∀ {i j : Nat} {y : Str}, ps[i]? = some y → ps[j]? = some y → i = j := fun a b => nodup_inj par.nd a b
  have notake : ∀ {j : Nat} {y : Str} {q : Nat}, ps[j]? = some y → q ≤ j → y ∉ ps.take q := fun {j y q} e hq z => by
    obtain ⟨i, hi⟩ := List.mem_iff_getElem?.mp z
    have hi2 : i < q := by
      have := (List.getElem?_eq_some_iff.mp hi).1
      rw [List.length_take] at this
      omega
    rw [List.getElem?_take_of_lt hi2] at hi
    have := inj hi e
    omega
  have tk : ∀ q, q ≤ npos → (ps.take npos).take q = ps.take q := fun q hq => by rw [List.take_take, Nat.min_eq_left hq]
  -- what stands in the first two lists
  have s1 : ∀ (j : Nat) (y : Str), ps[j]? = some y → j < n → ((ps.take npos).zip us ++ ks.zip ws).lookup y = us[j]? ∧ (us[j]?).isSome := fun j y e hj => by
    have e2 : (ps.take npos)[j]? = some y := by rw [List.getElem?_take_of_lt (by omega)]; exact e
    have : us[j]? = some us[j] := List.getElem?_eq_getElem (by omega)
    rw [lookup_append, zip_at ndP e2, this]
    exact ⟨rfl, rfl⟩
  have s2 : ∀ (j : Nat) (y : Str) (i : Nat), ps[j]? = some y → n ≤ j → ixOf y ks 0 = some i → ((ps.take npos).zip us ++ ks.zip ws).lookup y = ws[i]? ∧ (ws[i]?).isSome := fun j y i e hj hi => by
    obtain ⟨_, hi⟩ := ixOf_some hi
    rw [Nat.sub_zero] at hi
    have hil : i < ks.length := (List.getElem?_eq_some_iff.mp hi).1
    have : ws[i]? = some ws[i] := List.getElem?_eq_getElem (by omega)
    rw [lookup_append, zip_none (by rw [hn1, tk n hn]; exact notake e hj), Option.none_or, zip_at nd hi, this]
    exact ⟨rfl, rfl⟩
  have s3 : ∀ (j : Nat) (y : Str), ps[j]? = some y → n ≤ j → ixOf y ks 0 = none → ((ps.take npos).zip us ++ ks.zip ws).lookup y = none := fun j y e hj hi => by
    rw [lookup_append, zip_none (by rw [hn1, tk n hn]; exact notake e hj), Option.none_or, zip_none]
    exact fun z => ixOf_none hi (List.mem_of_mem_take z)
  have val : ∀ (j : Nat) (y : Str), ps[j]? = some y → slotV (ps.take npos) (ps.drop npos) ks us ws dl (kdOf K kV) y = uf[j]? := fun j y e => by
    unfold slotV
    rcases sg j y e with ⟨hj, q⟩ | ⟨hj, i, hi, q⟩ | ⟨hj, hi, d, hd, q⟩
    · rw [Nat.zero_add] at hj q
      have := selO_at e1 q
      rw [this]
      obtain ⟨a, b⟩ := s1 j y e hj
      rw [a]
      show _ = (us ++ ws)[j]?
      rw [List.getElem?_append_left (by omega)]
      cases q2 : us[j]? with
      | none => rw [q2] at b; cases b
      | some u => rfl
    · rw [Nat.zero_add] at hj
      have := selO_at e1 q
      rw [this]
      obtain ⟨a, b⟩ := s2 j y i e hj hi
      rw [a]
      show _ = (us ++ ws)[n + i]?
      rw [List.getElem?_append_right (by omega), hn1, Nat.add_sub_cancel_left]
      cases q2 : ws[i]? with
      | none => rw [q2] at b; cases b
      | some u => rfl
    · rw [Nat.zero_add] at hj
      have := selO_at e1 q
      rw [this]
      rw [s3 j y e hj hi, Option.none_or, Nat.zero_add]
      obtain ⟨v, hv2⟩ := hdfl j d hd
      obtain ⟨u, hu, _⟩ := hdw j v hv2
      show _ = dvV ps npos dl (kdOf K kV) j
      rw [hu]
      unfold dvV at hu
      by_cases hp : j < npos
      · rw [if_pos hp] at hu
        by_cases hp2 : npos - dl.length ≤ j
        · rw [if_pos hp2] at hu
          have e3 : ((ps.take npos).drop (npos - dl.length))[j - (npos - dl.length)]? = some y := by
            rw [List.getElem?_drop, show npos - dl.length + (j - (npos - dl.length)) = j by omega, List.getElem?_take_of_lt hp]
            exact e
          rw [hP, zip_at (ndP.sublist (List.drop_sublist _ _)) e3, hu]
          rfl
        · rw [if_neg hp2] at hu
          cases hu
      · rw [if_neg hp, e] at hu
        have hc : (ps.drop npos).contains y = true := by
          rw [List.contains_iff_mem]
          exact List.mem_iff_getElem?.mpr ⟨j - npos, by rw [List.getElem?_drop, show npos + (j - npos) = j by omega]; exact e⟩
        have hz : (((ps.take npos).drop ((ps.take npos).length - dl.length)).zip dl).lookup y = none := zip_none fun z => notake e (by omega) (List.mem_of_mem_drop (List.mem_of_mem_take z))
        rw [hz, Option.none_or, if_pos hc]
        exact hu
  have lf : ps.length = uf.length := by rw [selO_len e1, sl]
  refine ⟨uf, rf, ?_⟩
  have b := bind_all (K := K) (fd := PySem.W.fnOf x qual params body scope dV kV doc pm an cdv ct) (s := s) (P := ps.take npos) (KO := ps.drop npos) (ks := ks) (us := us) (ws := ws) (dl := dl) (kd := kdOf K kV) (T := T) (o := o) (m := m) X par.h1 par.h2 par.h3 par.hP par.hKO (by omega) (fun y hy => ?_) (fun y hy => ?_) nd hw1 hd (by omega) (fun y hy hy2 => ?_) fun y hy => ?_
  · rw [psp, filterMap_zip lf val] at b
    exact b
  · have := List.mem_of_mem_drop (hk y hy)
    rw [← psp] at this
    rw [Bool.or_eq_true, List.contains_iff_mem, List.contains_iff_mem]
    exact List.mem_append.mp this
  · rw [hn1, tk n hn]
    obtain ⟨i, hi⟩ := List.mem_iff_getElem?.mp (hk y hy)
    rw [List.getElem?_drop] at hi
    exact notake hi (by omega)
  · obtain ⟨i, hi⟩ := List.mem_iff_getElem?.mp hy
    rw [List.getElem?_drop] at hi
    rcases sg (npos + i) y hi with ⟨hj, _⟩ | ⟨_, i', hi', _⟩ | ⟨hj, _, d, hd, _⟩
    · omega
    · obtain ⟨_, z⟩ := ixOf_some hi'
      exact absurd (List.mem_of_getElem? z) hy2
    · obtain ⟨v, hv2⟩ := hdfl _ d hd
      unfold dvV at hv2
      rw [if_neg (by omega), hi] at hv2
      obtain ⟨D, u, a1, a2, a3, _⟩ := kq y v hv2
      exact ⟨D, u, a1, a2, a3⟩
  · rw [hP] at hy
    obtain ⟨j, hj⟩ := List.mem_iff_getElem?.mp hy
    have hj2 : j < npos - dl.length := by
      have := (List.getElem?_eq_some_iff.mp hj).1
      rw [List.length_take, hP] at this
      omega
    rw [List.getElem?_take_of_lt hj2, List.getElem?_take_of_lt (by omega)] at hj
    rcases sg j y hj with ⟨hj3, _⟩ | ⟨hj3, i', hi', _⟩ | ⟨hj3, _, d, hd, _⟩
    · rw [(s1 j y hj (by omega)).1]; exact (s1 j y hj (by omega)).2
    · rw [(s2 j y i' hj (by omega) hi').1]; exact (s2 j y i' hj (by omega) hi').2
    · obtain ⟨v, hv2⟩ := hdfl j d hd
      unfold dvV at hv2
      rw [if_pos (by omega), if_neg (by omega)] at hv2
      cases hv2
end MP

end
section
set_option Elab.async false
set_option linter.all false
set_option maxRecDepth 100000
/-! MP18: defs and their calls as rules. -/
namespace MP
open PySem PySem.Spec PyProof.Rows L2

/-- a def's promise kept, where no guard stands around -/
structure FnP (P : Program) (w : World) (K : PySem.W.Frag) (mg : Str → Option Value) (base : Heap) (CX : CXT) (k : Nat) (f : Addr) (fd : FuncData) (ps : List Str) (sp : Sp) : Prop where
  run : ∀ (A : Around) (outer : List Env) (s : Shared) (H : Hp) (args : Args) (us : List Value) (vs : List V) (Q : VK) (E : XK), Room k A → A.guards = some [] → Env0 P w K mg base A outer s H → BindsTo s fd args (ps.zip us) → Vals vs us → vs.length = ps.length → sp vs H Q E →
    codeAny (model P w) A (.call (.ref f) args) (CR CX outer P w H s Q E) s
theorem fn_of2 {CX : CXT} {P : Program} {w : World} {K : PySem.W.Frag} {mg : Str → Option Value} {base : Heap} {k : Nat} {f : Addr} {fd : FuncData} {x qual : Str} {params : Arguments} {body : List Stmt} {scope : Scope} {dvs : List V} {kws : List (Str × V)} {N ps : List Str} {sp : Sp}
    (FD : FunD K x qual params body scope dvs kws f fd) (S : FnScope N ps scope)
    (hbody : ∀ (cdv : Value) (A : Around) (outer : List Env) (s : Shared) (H : Hp) (vs : List V) (Q : VK) (E : XK), Room k (A.deeper (envOfC qual scope s.heap.objs.size f cdv)) → A.guards = some [] → sp vs H Q E →
      ∃ t, PSs (cxOf CX P w K mg base N qual scope f cdv A outer s H E) body t ∧ t { nx := fun _ H' => Q .non H', rt := Q } (L2.start N vs) H) :
    FnP P w K mg base CX (k + 1) f fd ps sp := by
  obtain ⟨oc, od, dV, kV, doc, pm, an, cdv, ct, osl, rfl, lk, hcd, _, _⟩ := FD.ex
  refine ⟨fun A outer s H args us vs Q E hr hg e0 hb r hl hsp => ?_⟩
  have KX : K.In s.heap := e0.mod.kin.keeps fun b o e => (e0.bs b o e).1
  have lim : s.heap.NoLimit := e0.mod.nolimit.keeps fun b o e => (e0.bs b o e).1
  have hkind : ∀ y ∈ ps.zip us, scope.names.lookup y.1 = some .local ∨ (scope.names.lookup y.1 = some .cell ∧ ((cellsFrom (s.heap.objs.size + 1) scope.names []).lookup y.1).isSome = true) := fun ⟨n, v⟩ hy => by
    rcases S.par n (List.of_mem_zip hy).1 with q | q
    · exact .inl q
    · exact .inr ⟨q, PySem.W.cellsFrom_some _ _ _ (.inl q)⟩
  refine codeAny_call_function hr.depth (KX _ _ lk) rfl S.co S.gen rfl (PySem.W.codeRec_of KX hcd) (hb _ _ _ _ ?_)
  refine wpAny_newFunctionEnv_cells S.kind hkind fun env he s1 x => ?_
  subst he
  refine ⟨lim.keeps x.toInCall.keep, codeAny_func ?_⟩
  obtain ⟨t, ht, hq⟩ := hbody cdv A outer s H vs Q E (hr.deeper _) hg hsp
  have I : Inv (cxOf CX P w K mg base N qual scope f cdv A outer s H E) [] (L2.start N vs) H s1 := inv_start S hr.hd e0 hl r x
  refine wpAny_mono (ht.run [] s1 (L2.start N vs) H _ I hq) (fun fl s' hs => ?_) fun e s' hs => hs
  have fin : ∀ {σ' : L2.St} {H' : Hp} {v : V} {u : Value}, Inv (cxOf CX P w K mg base N qual scope f cdv A outer s H E) [] σ' H' s' → RelV v u → Q v H' → CE outer P w H s Q u s' :=
    fun {σ' H' v u} J rv q => ⟨v, H', J.os, J.bare, J.base, J.hok, rv, q⟩
  cases fl with
  | ret u =>
    obtain ⟨v, σ', H', J, rv, q⟩ := hs
    exact fin J rv q
  | next =>
    obtain ⟨σ', H', J, q⟩ := hs
    exact fin (v := V.non) (u := Value.none) J rfl q
  | brk =>
    obtain ⟨_, _, _, q⟩ := hs
    exact False.elim q
  | cont =>
    obtain ⟨_, _, _, q⟩ := hs
    exact False.elim q
theorem FnP.mono {P : Program} {w : World} {K : PySem.W.Frag} {mg : Str → Option Value} {base : Heap} {CX : CXT} {j k : Nat} {f : Addr} {fd : FuncData} {ps : List Str} {sp : Sp} (F : FnP P w K mg base CX j f fd ps sp) (h : j ≤ k) : FnP P w K mg base CX k f fd ps sp :=
  ⟨fun A outer s H args us vs Q E hr => F.run A outer s H args us vs Q E (hr.mono h)⟩
/-- what a call site knows of the def that it calls -/
structure Callee (X : Cx) (CX : CXT) (k : Nat) (x : Str) (f : Addr) (ps : List Str) (npos : Nat) (dfl : List (Option D)) (dv : Nat → Option V) (sp : Sp) : Prop where
  ex : ∃ (x' qual : Str) (params : Arguments) (body : List Stmt) (scope : Scope) (dvs : List V) (kws : List (Str × V)) (fd : FuncData), FunD X.K x' qual params body scope dvs kws f fd ∧ ParOk params ps npos ∧ dvs.length ≤ npos ∧
    dv = dvV ps npos dvs (fun y => kws.lookup y) ∧ FnP X.prog X.w X.K X.mg X.base CX k f fd ps sp
  mg : X.mg x = some (.ref f)
  dfl : ∀ (j : Nat) (d : D), dfl[j]? = some (some d) → ∃ v, dv j = some v
def tCallM (sp : Sp) (dv : Nat → Option V) (srcs : List Src) (n m : Nat) (E : XK) (t tk : TA) : TE := fun σ H Q => t σ H fun vs H1 => tk σ H1 fun zs H2 => vs.length = n ∧ zs.length = m ∧ ∃ vf, selO (vs ++ zs) dv 0 srcs = some vf ∧ vf.length = srcs.length ∧ sp vf H2 Q E
section
variable {X : Cx} {CX : CXT} {k npos n : Nat} {f : Addr} {ps ks : List Str} {sp : Sp} {E : XK} {x : Str} {p pos : Pos} {es : List Expr} {kws : List Keyword} {t tk : TA} {dfl : List (Option D)} {dv : Nat → Option V} {srcs : List Src}
theorem run_fnP {pins : List (Addr × Obj)} {σ : L2.St} {H : Hp} {s : Shared} {Q : VK} {us ws : List Value} {vs zs vf : List V} (F : Callee X CX k x f ps npos dfl dv sp) (hr : Room k X.A) (hg : X.A.guards = some []) (hx : Passes CX X E)
    (hs : srcsOf n ks 0 ps dfl = some srcs) (hn : n ≤ npos) (hk : ∀ y ∈ ks, y ∈ ps.drop n) (nd : ks.Nodup)
    (I : Inv X pins σ H s) (r : Vals vs us) (rz : Vals zs ws) (l1 : vs.length = n) (l2 : zs.length = ks.length) (hv : selO (vs ++ zs) dv 0 srcs = some vf) (h : sp vf H Q E) : wpAny (model X.prog X.w) X.A (call (.ref f) us (ks.zip ws)) (EP X pins σ Q) X.xe s := by
  obtain ⟨x', qual, params, body, scope, dvs, kws, fd, FD, par, hdv, rfl, FP⟩ := F.ex
  obtain ⟨uf, rf, hb⟩ := bind_srcs FD par hdv F.dfl hs hn hk nd I.kIn r rz l1 l2 hv
  have hl : vf.length = ps.length := by rw [selO_len hv, (srcs_get hs).1]
  refine wpAny_call (codeAny_mono (FP.run X.A X.stack s H ⟨us, ks.zip ws⟩ uf vf Q E hr hg I.env0 hb rf hl h) fun r s' hq => ?_)
  cases r with
  | error e => exact hx pins σ H s e s' I hq
  | ok fl =>
    cases fl with
    | ret u => exact I.after hq
    | next => exact False.elim hq
    | brk => exact False.elim hq
    | cont => exact False.elim hq
theorem Callee.keep (F : Callee X CX k x f ps npos dfl dv sp) : PySem.W.keepIn X.K (.ref f) = true := let ⟨_, _, _, _, _, _, _, _, FD, _⟩ := F.ex; FD.kp
/-- f(e, .., k = v, ..) -/
theorem pe_callM {e : Expr} (F : Callee X CX k x f ps npos dfl dv sp) (hr : Room k X.A) (hgd : X.A.guards = some []) (hg : Gl X x) (hx : Passes CX X E)
    (hs : srcsOf n ks 0 ps dfl = some srcs) (hn : n ≤ npos) (hkk : ∀ y ∈ ks, y ∈ ps.drop n) (nd : ks.Nodup)
    (ha : PA X (e :: es) t) (hkw : PK X kws tk) (hall : (backToKw pos (keywordEach kws X.env)).all (·.1.isSome) = true) (hks : (backToKw pos (keywordEach kws X.env)).filterMap (·.1) = ks)
    (hdb : (x == ("__debug__" : Str)) = false) (he : starEach (e :: es) X.env = (false, eval e X.env) :: starEach es X.env)
    (hpl : ((backTo pos (starEach (e :: es) X.env)).any (·.1) || (backToKw pos (keywordEach kws X.env)).any (·.1.isNone)) = false) :
    PE X (.Call (.Name x p) (e :: es) kws pos) (tCallM sp dv srcs n ks.length E t tk) := by
  refine ⟨fun pins s σ H Q I h => ?_⟩
  refine wpAny_Call_Name_kw (ld_glob I hg F.mg ?_ hdb)
  refine PySem.W.callWith_KW (h₀ := X.base) I.ok.mod.kin F.keep hall (thn (ha.run pos pins s σ H _ I h) fun us s1 ⟨vs, H1, I1, r, q⟩ => ?_) hpl he
  refine thn (hkw.run pos pins s1 σ H1 _ I1 q) fun ws s2 ⟨zs, H2, I2, rz, l1, l2, vf, hv, _, q2⟩ => ⟨I2.kIn, ?_⟩
  rw [hks]
  exact run_fnP F hr hgd hx hs hn hkk nd I2 r rz l1 l2 hv q2
theorem pe_callM0 (F : Callee X CX k x f ps npos dfl dv sp) (hr : Room k X.A) (hgd : X.A.guards = some []) (hg : Gl X x) (hx : Passes CX X E)
    (hs : srcsOf 0 ks 0 ps dfl = some srcs) (hkk : ∀ y ∈ ks, y ∈ ps.drop 0) (nd : ks.Nodup)
    (hkw : PK X kws tk) (hall : (backToKw pos (keywordEach kws X.env)).all (·.1.isSome) = true) (hks : (backToKw pos (keywordEach kws X.env)).filterMap (·.1) = ks)
    (hdb : (x == ("__debug__" : Str)) = false)
    (hpl : ((backTo pos (starEach [] X.env)).any (·.1) || (backToKw pos (keywordEach kws X.env)).any (·.1.isNone)) = false) :
    PE X (.Call (.Name x p) [] kws pos) (tCallM sp dv srcs 0 ks.length E tNil tk) := by
  refine ⟨fun pins s σ H Q I h => ?_⟩
  refine wpAny_Call_Name_kw (ld_glob I hg F.mg ?_ hdb)
  refine PySem.W.callWith_KW0 (h₀ := X.base) I.ok.mod.kin F.keep hall (thn (hkw.run pos pins s σ H _ I h) fun ws s2 ⟨zs, H2, I2, rz, l1, l2, vf, hv, _, q2⟩ => ⟨I2.kIn, ?_⟩) hpl
  rw [hks]
  exact run_fnP (us := []) F hr hgd hx hs (Nat.zero_le _) hkk nd I2 .nil rz l1 l2 hv q2
end
end MP

end
section
set_option Elab.async false
set_option linter.all false
set_option maxRecDepth 100000
/-! MP19: slices, not, isinstance, tests. -/
namespace MP
open PySem PySem.Spec PyProof.Rows L2

section
variable {X : Cx} {Y : Ct} {Γ : Fns} {e l h x : E} {es : List E} {σ : L2.St} {H : Hp}
theorem tM_mono {α β : Type} {q : Bool} {R : Hp → Hp → US → α → β → AS → Prop} {m : M α} {Q Q' : β → Hp → Prop} (hm : tM Y q R m σ H Q) (hq : ∀ b H', Q b H' → Q' b H') : tM Y q R m σ H Q' := by
  obtain ⟨F, ρ, Us, w, o⟩ := hm
  refine ⟨F, ρ, Us, w, ?_⟩
  cases r : m ρ with
  | stk => rw [r] at o; exact o
  | exc x ρ1 => rw [r] at o; exact o
  | ok a ρ1 => rw [r] at o; exact fun b F' H' Us' U w' rr ev qs => hq _ _ (o b F' H' Us' U w' rr ev qs)
theorem tOpd_mono {q : Bool} {Q Q' : VK} (hm : tOpd Y Γ q e σ H Q) (hq : ∀ b H', Q b H' → Q' b H') : tOpd Y Γ q e σ H Q' := by
  cases q
  · exact tM_mono hm hq
  · exact tM_mono hm hq
theorem e_of_v {Q : VK} (ro : rootOf e = none) (hm : tV Y Γ e σ H Q) : tE Y Γ e σ H Q := by
  obtain ⟨F, ρ, Us, w, o⟩ := hm
  refine ⟨F, ρ, Us, w, ?_⟩
  have eq : evV Γ e = evB Γ e := by
    funext ρ
    unfold evV
    cases r : evB Γ e ρ with
    | stk => exact bind_stk r
    | exc x ρ1 => exact bind_exc r
    | ok a ρ1 =>
      rw [bind_ok r]
      unfold takeP
      rw [ro]
      rfl
  rw [eq] at o
  cases r : evB Γ e ρ with
  | stk => rw [r] at o; exact o
  | exc x ρ1 => rw [r] at o; exact o
  | ok a ρ1 =>
    rw [r] at o
    refine fun b F' H' Us' U w' rr ev qs => o b F' H' Us' U w' ⟨?_, fun z => absurd ro z⟩ ev fun z => by cases z
    unfold RB at rr
    rw [ro] at rr
    exact rr
theorem e_of_opd {q : Bool} {Q : VK} (ro : rootOf e = none) (hm : tOpd Y Γ q e σ H Q) : tE Y Γ e σ H Q := by
  cases q
  · exact e_of_v ro hm
  · exact hm
/-- a part of a slice -/
def PartV : Option Int → V → Prop
  | none, v => v = .non
  | some i, v => v = .int i
theorem part_none {q : Bool} {Q : VK} (hm : tOpd Y Γ q (.cst .non) σ H Q) : tNoPart σ H fun o H' => ∃ v, PartV o v ∧ Q v H' :=
  ⟨.non, rfl, e_cst (v := .non) (fun _ _ => .non no0) (e_of_opd rfl hm)⟩
theorem part_some {q : Bool} {Q : VK} (hm : tOpd Y Γ q (.op .part [e]) σ H Q) : tPart (tE Y Γ e) σ H fun o H' => ∃ v, PartV o v ∧ Q v H' := by
  have h1 := e_of_opd rfl hm
  exact op_ok (R := fun vs H' => ∃ v, vs = [v] ∧ ∃ i, v = .int i ∧ ∃ v, PartV (some i) v ∧ Q v H') (by decide) h1 (fun vs H' hr => by
    obtain ⟨F, ds, d, le, den, e, k⟩ := hr
    cases den with
    | nil => cases e
    | cons h1 r =>
      cases r with
      | cons h2 r =>
        have e : sPart _ = _ := e
        unfold sPart at e
        split at e
        · rename_i q; cases q
        · cases e
      | nil =>
        have e : sPart _ = _ := e
        unfold sPart at e
        split at e
        · rename_i q
          cases q
          cases e
          cases h1
          exact ⟨_, rfl, _, rfl, _, rfl, k.int le⟩
        · cases e) |> fun z => tM_mono z fun b H' ⟨v, e, i, e2, q⟩ => by
    simp only [List.cons.injEq, and_true] at e
    exact ⟨i, e.trans e2, q⟩
/-! ### slices -/
def rSl (K : PySem.W.Frag) : V → Option Int → Option Int → Hp → VK → Prop := fun x lo hi H Q => rSlA K x lo hi H Q ∨ rSlL K x lo hi H Q
theorem sl_any : SlR X (rSl X.K) := SlR.or sl_tupA sl_list
theorem denl_take {K : PySem.W.Frag} {F H : Hp} {vs : List V} {ds : List D} (l : DenL K F H vs ds none0) (n : Nat) : DenL K F H (vs.take n) (ds.take n) none0 ∧ DenL K F H (vs.drop n) (ds.drop n) none0 := by
  obtain ⟨U1, U2, a, b, _, e⟩ := l.split n
  exact ⟨a.iff fun b => ⟨fun u => (e b).mpr (.inl u), fun z => z.elim⟩, b.iff fun b => ⟨fun u => (e b).mpr (.inr u), fun z => z.elim⟩⟩
theorem denl_cut {K : PySem.W.Frag} {F H : Hp} {vs : List V} {ds : List D} (l : DenL K F H vs ds none0) (lo hi : Option Int) : DenL K F H (cutV vs lo hi) (cutD ds lo hi) none0 := by
  unfold cutV cutD
  rw [l.length]
  exact (denl_take (denl_take l _).2 _).1
theorem part_d {K : PySem.W.Frag} {F H : Hp} {v : V} {d : D} {U : AS} {o l : Option Int} (p : PartV o v) (h : Den K F H v d U) (e : partD d = some l) : l = o := by
  cases o with
  | none =>
    have p : v = .non := p
    subst p
    cases h
    cases e
    rfl
  | some i =>
    have p : v = .int i := p
    subst p
    cases h
    cases e
    rfl
theorem cut_whole {ds : List D} {lo hi : Option Int} (hw : HT.sIx ds.length 0 lo = 0 ∧ HT.sIx ds.length ds.length hi = ds.length) : cutD ds lo hi = ds := by
  unfold cutD
  rw [hw.1, hw.2, List.drop_zero, Nat.sub_zero, List.take_length]
theorem sl_of {K : PySem.W.Frag} {vx vl vh : V} {lo hi : Option Int} {Q : VK} (hr : rOp K .sl [vx, vl, vh] H Q) (pl : PartV lo vl) (ph : PartV hi vh) : rSl K vx lo hi H Q := by
  obtain ⟨F, ds, d, le, den, e, k⟩ := hr
  cases den with
  | cons h1 r => cases r with
    | cons h2 r => cases r with
      | cons h3 r =>
        cases r
        have e : sSl _ = _ := e
        unfold sSl at e
        split at e
        case h_1 q =>
          simp only [List.cons.injEq, and_true] at q
          obtain ⟨q1, q2, q3⟩ := q
          subst q1 q2 q3
          obtain ⟨l, e1, e⟩ := Option.bind_eq_some_iff.mp e
          obtain ⟨u, e2, e⟩ := Option.bind_eq_some_iff.mp e
          obtain ⟨f, rfl⟩ := opt_some e
          have := part_d pl h2 e1
          subst this
          have := part_d ph h3 e2
          subst this
          obtain ⟨a, vs, rfl, ha, l0⟩ := den_tup le h1
          have l1 := l0.none f
          refine .inl ⟨a, vs, rfl, ha, fun hw => ?_, fun hw p hp => k.tup le (denl_cut l1 _ _) p hp⟩
          rw [l0.length] at hw
          rw [cut_whole hw] at k
          exact k.old le h1 fun b => l0.frz_none f b
        case h_2 q =>
          simp only [List.cons.injEq, and_true] at q
          obtain ⟨q1, q2, q3⟩ := q
          subst q1 q2 q3
          obtain ⟨l, e1, e⟩ := Option.bind_eq_some_iff.mp e
          obtain ⟨u, e2, e⟩ := Option.bind_eq_some_iff.mp e
          obtain ⟨f, rfl⟩ := opt_some e
          have := part_d pl h2 e1
          subst this
          have := part_d ph h3 e2
          subst this
          obtain ⟨a, vs, U1, rfl, ha, l0, _⟩ := den_lst le h1
          exact .inr ⟨a, vs, rfl, sq_l ha, fun p hp => k.lst le (denl_cut (l0.none f) _ _) p hp⟩
        case h_3 => cases e
theorem e_sl {tl th : TO} {Q : VK} (hl : ∀ σ H Q q, tOpd Y Γ q l σ H Q → tl σ H fun o H' => ∃ v, PartV o v ∧ Q v H') (hh : ∀ σ H Q q, tOpd Y Γ q h σ H Q → th σ H fun o H' => ∃ v, PartV o v ∧ Q v H')
    (ml : ∀ σ H (Q Q' : Option Int → Hp → Prop), tl σ H Q → (∀ o H', Q o H' → Q' o H') → tl σ H Q') (mh : ∀ σ H (Q Q' : Option Int → Hp → Prop), th σ H Q → (∀ o H', Q o H' → Q' o H') → th σ H Q')
    (hm : tE Y Γ (.op .sl [x, l, h]) σ H Q) : tSl (rSl Y.K) (tOpd Y Γ (quietAll [l, h]) x) tl th σ H Q := by
  have h1 : tOs Y Γ [x, l, h] σ H fun vs H' => rOp Y.K .sl vs H' Q := op_ok (by decide) hm fun vs H' hr => hr
  show tOpd Y Γ (quietAll [l, h]) x σ H fun x H1 => tl σ H1 fun lo H2 => th σ H2 fun hi H3 => rSl Y.K x lo hi H3 Q
  refine tOpd_mono h1 fun vx H1 h2 => ?_
  refine ml _ _ _ _ (hl _ _ _ _ (show tOpd Y Γ (quietAll [h]) l _ _ _ from h2)) fun lo H2 ⟨vl, pl, h3⟩ => ?_
  refine mh _ _ _ _ (hh _ _ _ _ (show tOpd Y Γ (quietAll []) h _ _ _ from h3)) fun hi H3 ⟨vh, ph, h4⟩ => ?_
  exact sl_of h4 pl ph
/-! ### not, isinstance -/
theorem e_not {Q : VK} (hm : tE Y Γ (.op .not [e]) σ H Q) : tNotT Y.K (tE Y Γ e) σ H Q := by
  refine tM_mono (op_ok (R := fun vs H' => ∃ v, vs = [v] ∧ ∃ k, TruV Y.K v H' k ∧ Q (.bl (!k)) H') (by decide) hm fun vs H' hr => ?_) fun b H' ⟨v, e, k, t, q⟩ => by
    simp only [List.cons.injEq, and_true] at e
    subst e
    exact ⟨k, t, q⟩
  obtain ⟨F, ds, d, le, den, e, k⟩ := hr
  have e : sNot ds = some d := e
  unfold sNot at e
  split at e
  · obtain ⟨b, e1, rfl⟩ := Option.map_eq_some_iff.mp e
    cases den with
    | cons h1 r =>
      cases r
      exact ⟨_, rfl, b, truth_tru le h1 e1, k.bl le⟩
  · cases e
def tyName : D → String
  | .non => "NoneType"
  | .bl _ => "bool"
  | .int _ => "int"
  | .str _ => "str"
  | .tup _ => "tuple"
  | .lst _ _ => "list"
  | .dct _ _ => "dict"
  | .ins _ _ _ => "?"
  | .scr _ => "list"
def tName : Nat → String
  | 0 => "int"
  | 1 => "str"
  | 2 => "bool"
  | 3 => "tuple"
  | 4 => "list"
  | _ => "dict"
def kits : List (String × List Bool) := [("NoneType", [false, false, false, false, false, false]), ("bool", [true, false, true, false, false, false]), ("int", [true, false, false, false, false, false]), ("str", [false, true, false, false, false, false]),
  ("tuple", [false, false, false, true, false, false]), ("list", [false, false, false, false, true, false]), ("dict", [false, false, false, false, false, true])]
theorem kits_ok : kits.all (fun p => (List.range 6).all fun n => kitB p.1 (tName n) == p.2[n]?) = true := by decide +kernel
def kitRow (d : D) : List Bool := (List.range 6).map (isType d)
theorem kit_row {K : PySem.W.Frag} {F H : Hp} {v : V} {d : D} {U : AS} (h : Den K F H v d U) : (tyName d, kitRow d) ∈ kits := by
  have six : ∀ f : Nat → Bool, (List.range 6).map f = [f 0, f 1, f 2, f 3, f 4, f 5] := fun f => rfl
  unfold kitRow
  rw [six]
  cases h <;> simp [kits, tyName, isType]
theorem kit_ok {d : D} {n : Nat} {K : PySem.W.Frag} {F H : Hp} {v : V} {U : AS} (h : Den K F H v d U) (hn : n < 6) : PySem.W.kitOne K (.type (tyName d)) (.type (tName n)) = some (isType d n) := by
  apply kit_ty
  have := List.all_eq_true.mp (List.all_eq_true.mp kits_ok _ (kit_row h)) n (List.mem_range.mpr hn)
  have this : kitB (tyName d) (tName n) = (kitRow d)[n]? := by simpa using this
  rw [this]
  unfold kitRow
  rw [List.getElem?_map, List.getElem?_range hn]
  rfl
theorem den_ty {K : PySem.W.Frag} {F H : Hp} {v : V} {d : D} {U : AS} (le : Le F H) (h : Den K F H v d U) (nd : ∀ u kvs, d ≠ .dct u kvs) : TyX K H v (.type (tyName d)) := by
  cases h with
  | non => exact .base .non
  | bl => exact .base (.bl _)
  | int => exact .base (.int _)
  | str => exact .base (.str _)
  | tup h l =>
    rcases le.t h with (q | ⟨o, q⟩) | ⟨o, its, n, a, b, _⟩
    · exact .base (.tup q)
    · exact .fTuple q
    · exact .kTuple a b
  | lstF h l => exact .base (.lst (le.lst h))
  | lstU h l => exact .base (.lst h)
  | scr h _ =>
    rcases le.l h with (q | ⟨o, q⟩) | ⟨o, its, n, a, b, _⟩
    · exact .base (.lst q)
    · exact .base (.frz q)
    · exact .kList a b
  | dKF h _ _ _ => exact absurd rfl (nd _ _)
  | dKU h _ _ _ _ => exact absurd rfl (nd _ _)
  | dTF h _ _ _ => exact absurd rfl (nd _ _)
  | dTU h _ _ _ _ => exact absurd rfl (nd _ _)
theorem isi_inv {ts : List Nat} {ds : List D} {d : D} (e : sIsi ts ds = some d) : ∃ a, ds = [a] ∧ (∀ u kvs, a ≠ .dct u kvs) ∧ ts.all (fun t => decide (t < 6)) = true ∧ d = .bl (ts.any (isType a)) := by
  unfold sIsi at e
  split at e
  · cases e
  · rename_i a ha
    split at e
    · rename_i hq
      cases e
      exact ⟨a, rfl, fun u kvs z => ha u kvs (by rw [z]), hq, rfl⟩
    · cases e
  · cases e
theorem e_isi {n : Nat} {Q : VK} (hm : tE Y Γ (.op (.isi [n]) [e]) σ H Q) : tCons (tE Y Γ e) (tCons (tC (.ty (tName n))) tNil) σ H fun vs H' => rIsi Y.K vs H' Q := by
  show tE Y Γ e σ H fun v H1 => rIsi Y.K [v, .ty (tName n)] H1 Q
  refine tM_mono (op_ok (R := fun vs H' => ∃ v, vs = [v] ∧ rIsi Y.K [v, .ty (tName n)] H' Q) (by intro z; cases z) hm fun vs H' hr => ?_) fun b H' ⟨v, e, q⟩ => by
    simp only [List.cons.injEq, and_true] at e
    subst e
    exact q
  obtain ⟨F, ds, d, le, den, e, k⟩ := hr
  obtain ⟨a, rfl, nd, ht, rfl⟩ := isi_inv e
  cases den with
  | cons h1 r =>
    cases r
    have hn : n < 6 := by simpa using ht
    refine ⟨_, rfl, _, _, _, _, _, rfl, .ty _, den_ty le h1 nd, kit_ok h1 hn, ?_⟩
    have := k.bl le
    simpa using this
theorem e_isi2 {n m : Nat} {Q : VK} (hm : tE Y Γ (.op (.isi [n, m]) [e]) σ H Q) : tCons (tE Y Γ e) (tCons (tTup (tCons (tC (.ty (tName n))) (tCons (tC (.ty (tName m))) tNil))) tNil) σ H fun vs H' => rIsiT Y.K vs H' Q := by
  show tE Y Γ e σ H fun v H1 => [V.ty (tName n), .ty (tName m)].length ≤ sizeLine ∧ ∀ p, H1 p = none → rIsiT Y.K [v, .ref p] (L2.upd H1 p (.tup [.ty (tName n), .ty (tName m)])) Q
  refine tM_mono (op_ok (R := fun vs H' => ∃ v, vs = [v] ∧ ([V.ty (tName n), .ty (tName m)].length ≤ sizeLine ∧ ∀ p, H' p = none → rIsiT Y.K [v, .ref p] (L2.upd H' p (.tup [.ty (tName n), .ty (tName m)])) Q)) (by intro z; cases z) hm fun vs H' hr => ?_) fun b H' ⟨v, e, q⟩ => by
    simp only [List.cons.injEq, and_true] at e
    subst e
    exact q
  obtain ⟨F, ds, d, le, den, e, k⟩ := hr
  obtain ⟨a, rfl, nd, ht, rfl⟩ := isi_inv e
  cases den with
  | cons h1 r =>
    cases r
    have hn : n < 6 ∧ m < 6 := by simpa using ht
    refine ⟨_, rfl, by show 2 ≤ sizeLine; rw [sizeLine_eq]; decide, fun p hp => ?_⟩
    have g : Grow F H' (L2.upd F p (.tup [.ty (tName n), .ty (tName m)])) (L2.upd H' p (.tup [.ty (tName n), .ty (tName m)])) := Grow.tup le hp
    have h2 := h1.keep g.f fun b o _ z => g.h b o z
    have kq : PySem.W.kitAny Y.K (.type (tyName a)) [.type (tName n), .type (tName m)] = some (isType a n || isType a m) := by
      have k1 := kit_ok (n := n) h2 hn.1
      have k2 := kit_ok (n := m) h2 hn.2
      unfold PySem.W.kitAny
      rw [k1]
      cases isType a n with
      | true => rfl
      | false =>
        unfold PySem.W.kitAny
        dsimp only
        rw [k2]
        cases isType a m <;> rfl
    refine ⟨_, p, _, _, _, _, rfl, upd_same, .cons (.ty _) (.cons (.ty _) .nil), den_ty g.le h2 nd, kq, ?_⟩
    have e2 : [n, m].any (isType a) = (isType a n || isType a m) := by simp
    rw [e2] at k
    exact k _ _ _ none0 g (.bl no0) (fun _ z => z.elim) (fun _ z => z.elim)
end
end MP

end
section
set_option Elab.async false
set_option linter.all false
set_option maxRecDepth 100000
/-! MP20: what is compiled is read rightly: helpers. -/
namespace MP
open PySem PySem.Spec PyProof.Rows L2

def CX0 : CXT := fun _ _ _ _ _ _ => False
def bltNames : List Str := ["len", "min", "max", "abs", "tuple", "list", "int", "repr", "any", "all", "range", "zip", "enumerate", "isinstance", "str", "bool", "dict"]
/-- the static side -/
structure Lk (c : Cc) (X : Cx) (Y : Ct) (Γ : Fns) (k : Nat) : Prop where
  N : X.N = c.N
  nd : X.N.Nodup
  sc : X.env.scope = c.sc
  kind : c.sc.kind = .function
  K : X.K = Y.K
  calm : X.calm = true
  room : Room k X.A
  gd : X.A.guards = some []
  fn : ∀ x, cellB c.bsc x = true → X.fn x = true
  con : ∀ x d, c.globs.lookup x = some (.con d) → ∃ v u, X.mg x = some u ∧ RelV v u ∧ ∀ F H, Den Y.K F H v d none0
  fnc : ∀ x id fi, c.globs.lookup x = some (.fn id) → c.fis[id]? = some fi → ∃ f dv, Callee X CX0 k x f fi.ps fi.npos fi.dfl dv (spF Y.K Y.cl Γ id fi.ps.length fi.outs) ∧ ∀ (j : Nat) (d : D), fi.dfl[j]? = some (some d) → ∃ v, dv j = some v ∧ ∀ F H, Den Y.K F H v d none0
  blt : ∀ x, c.globs.lookup x = none → x ∈ bltNames → X.mg x = none
  xcc : ∀ σ σ' C a H, Y.xc σ C a H → Y.xc σ' C a H
/-- an expression read rightly -/
structure Sim (X : Cx) (Y : Ct) (Γ : Fns) (a : Expr) (e : E) : Prop where
  pe : PE X a (tE Y Γ e)
  pt : PT X a (tT Y Γ e)
  var : ∀ i, e = .var i → PE X a (tVar i)
  st : ∀ r env, starEach (a :: r) env = (false, eval a env) :: starEach r env
  bh : ∀ op, behindInMarks op a = false
  ix : PlainIx a
  fo : ∀ env x, foldedSetIterable a env x = pure x
  nr : ∀ i, e ≠ .ref i
  nit : ∀ o es, e ≠ .itr o es
section
variable {X : Cx} {Y : Ct} {Γ : Fns} {c : Cc} {k : Nat}
theorem evT_dflt {e : E} (h1 : ∀ x, e ≠ .op .not [x]) (h2 : ∀ a b, e ≠ .band a b) (h3 : ∀ a b, e ≠ .bor a b) (h4 : ∀ a b d, e ≠ .ite a b d) : evT Γ e = (evB Γ e).bind fun d => M.lift d.truth := by
  rw [evT]
  all_goals first
    | exact h1
    | exact h2
    | exact h3
    | exact h4
theorem lk_vis (lk : Lk c X Y Γ k) {x : Str} {i : Nat} (h : slotOf c x = some i) : X.N[i]? = some x ∧ Vis X.env.scope x ∧ (x == ("__debug__" : Str)) = false ∧ (x == ("__classdict__" : Str)) = false := by
  unfold slotOf at h
  split at h
  · rename_i q
    rw [Bool.and_eq_true] at q
    obtain ⟨q1, q2⟩ := q
    obtain ⟨_, hi⟩ := ixOf_some h
    rw [Nat.sub_zero] at hi
    refine ⟨by rw [lk.N]; exact hi, ?_, ?_, ?_⟩
    · unfold Vis
      rw [lk.sc]
      unfold visB at q1
      split at q1
      · exact .inl (by assumption)
      · exact .inr (.inl (by assumption))
      · exact .inr (.inr (by assumption))
      · cases q1
    · unfold badName at q2
      cases z : x == ("__debug__" : Str)
      · rfl
      · rw [z] at q2; cases q2
    · unfold badName at q2
      cases z : x == ("__classdict__" : Str)
      · rfl
      · rw [z] at q2; simp at q2
  · cases h
theorem bad_dbg {x : Str} (h : badName x = false) : (x == ("__debug__" : Str)) = false ∧ x ≠ ("__name__" : Str) := by
  unfold badName at h
  simp only [Bool.or_eq_false_iff] at h
  exact ⟨h.1.1, fun z => by rw [z] at h; simp at h⟩
theorem glob_gl (lk : Lk c X Y Γ k) {x : Str} (h : globB c.sc x = true) : Gl X x := by
  show X.env.scope.names.lookup x = some .globalImplicit
  rw [lk.sc]
  unfold globB at h
  split at h
  · assumption
  · cases h
theorem Sim.of {a : Expr} {e : E} (pe : PE X a (tE Y Γ e)) (pt : PT X a (tT Y Γ e)) (var : ∀ i, e = .var i → PE X a (tVar i))
    (s : (∀ r env, starEach (a :: r) env = (false, eval a env) :: starEach r env) ∧ (∀ op, behindInMarks op a = false) ∧ PlainIx a ∧ ∀ env x, foldedSetIterable a env x = pure x := by exact ⟨fun _ _ => rfl, fun _ => rfl, fun _ _ => rfl, fun _ _ => rfl⟩) (nr : ∀ i, e ≠ .ref i := by intro i z; cases z) (nit : ∀ o es, e ≠ .itr o es := by intro o es z; cases z) : Sim X Y Γ a e :=
  ⟨pe, pt, var, s.1, s.2.1, s.2.2.1, s.2.2.2, nr, nit⟩
theorem pt_dflt (lk : Lk c X Y Γ k) {a : Expr} {e : E} (pe : PE X a (tE Y Γ e)) (he : ∀ whole, isTrue a X.env whole = (do let v ← whole; standAt a.pos; holding [v] (truthy v))) (hT : evT Γ e = (evB Γ e).bind fun d => M.lift d.truth) : PT X a (tT Y Γ e) := by
  have := pt_truth pe he
  rw [lk.K] at this
  exact PT.imp this fun σ H Q h => t_dflt hT h
theorem pt_bl {a : Expr} {e : E} {t : TE} (pt : PT X a (tTest t)) (ht : ∀ σ H Q, tE Y Γ e σ H Q → t σ H Q) (hT : evT Γ e = (evB Γ e).bind fun d => M.lift d.truth) (hb : ∀ ρ d ρ', evB Γ e ρ = .ok d ρ' → ∃ k, d = .bl k) : PT X a (tT Y Γ e) :=
  PT.imp pt fun σ H Q h => ht _ _ _ (t_bl hT hb h)
theorem sim_const {kc : Const} {j : Nat} {pos : Pos} {d : D} (lk : Lk c X Y Γ k) (h : constD kc = some d) : Sim X Y Γ (.Constant kc j pos) (.cst d) := by
  have pe : PE X (.Constant kc j pos) (tE Y Γ (.cst d)) := by
    unfold constD at h
    split at h
    · cases h; exact PE.imp pe_non fun σ H Q h => e_cst (v := .non) (fun _ _ => .non no0) h
    · cases h; exact PE.imp pe_bl fun σ H Q h => e_cst (v := .bl _) (fun _ _ => .bl no0) h
    · cases h; exact PE.imp pe_int fun σ H Q h => e_cst (v := .int _) (fun _ _ => .int no0) h
    · cases h; exact PE.imp pe_str fun σ H Q h => e_cst (v := .str _) (fun _ _ => .str no0) h
    · cases h
  exact Sim.of pe (pt_dflt lk pe (fun _ => rfl) (evT_dflt (fun _ z => by cases z) (fun _ _ z => by cases z) (fun _ _ z => by cases z) fun _ _ _ z => by cases z)) fun i z => by cases z
theorem sim_name {x : Str} {pos : Pos} {e : E} (lk : Lk c X Y Γ k) (h : cName c x = some e) : Sim X Y Γ (.Name x pos) e := by
  unfold cName at h
  split at h
  · rename_i i hs
    cases h
    obtain ⟨a, b, d1, d2⟩ := lk_vis lk hs
    have pv : PE X (.Name x pos) (tVar i) := pe_var a b d1 d2
    have pe : PE X (.Name x pos) (tE Y Γ (.var i)) := PE.imp pv fun σ H Q => e_var
    exact Sim.of pe (pt_dflt lk pe (fun _ => rfl) (evT_dflt (fun _ z => by cases z) (fun _ _ z => by cases z) (fun _ _ z => by cases z) fun _ _ _ z => by cases z)) fun j z => by cases z; exact pv
  · split at h
    · rename_i q
      rw [Bool.and_eq_true] at q
      split at h
      · rename_i d hd
        cases h
        obtain ⟨v, u, m1, m2, m3⟩ := lk.con _ _ hd
        have pe : PE X (.Name x pos) (tE Y Γ (.cst d)) := PE.imp (pe_glob (glob_gl lk q.1) m1 m2 (bad_dbg (by simpa using q.2)).1) fun σ H Q h => e_cst m3 h
        exact Sim.of pe (pt_dflt lk pe (fun _ => rfl) (evT_dflt (fun _ z => by cases z) (fun _ _ z => by cases z) (fun _ _ z => by cases z) fun _ _ _ z => by cases z)) fun j z => by cases z
      · cases h
    · cases h
/-- two operands -/
theorem op2 {o : Op} (ho : o ≠ .ix) {x y : E} {σ : L2.St} {H : Hp} {Q : VK} (h : tE Y Γ (.op o [x, y]) σ H Q) : tOp (r2 Y.K o) (tOpd Y Γ (quietAll [y]) x) (tOpd Y Γ (quietAll []) y) σ H Q :=
  op_ok (R := fun vs H' => ∀ v w, vs = [v, w] → r2 Y.K o v w H' Q) ho h (fun vs H' hr v w e => by subst e; exact hr) |> fun z => by
    show tOpd Y Γ (quietAll [y]) x σ H fun v H1 => tOpd Y Γ (quietAll []) y σ H1 fun w H2 => r2 Y.K o v w H2 Q
    refine tOpd_mono z fun v H1 z => ?_
    have z : tOpd Y Γ (quietAll []) y σ H1 (fun w H2 => ∀ v' w', [v, w] = [v', w'] → r2 Y.K o v' w' H2 Q) := z
    exact tOpd_mono z fun w H2 z => z v w rfl
theorem bin_rule (lk : Lk c X Y Γ k) {o : Operator} {op : Op} (h : binO o = some op) : op ≠ .ix ∧ OpR X (binaryOp o) (r2 Y.K op) ∧ ∀ x, op ≠ .not ∧ Op.not ≠ x ∨ True := by
  rw [← lk.K]
  cases o <;> simp only [binO, Option.some.injEq, reduceCtorEq] at h
  · subst h; exact ⟨by decide, o_add, fun _ => .inr trivial⟩
  · subst h; exact ⟨by decide, o_sub, fun _ => .inr trivial⟩
  · subst h; exact ⟨by decide, o_mul, fun _ => .inr trivial⟩
  · subst h; exact ⟨by decide, o_mod, fun _ => .inr trivial⟩
  · subst h; exact ⟨by decide, o_pow, fun _ => .inr trivial⟩
  · subst h; exact ⟨by decide, o_fdiv, fun _ => .inr trivial⟩
theorem sim_bin (lk : Lk c X Y Γ k) {a b : Expr} {o : Operator} {op : Op} {pos : Pos} {x y : E} (ho : binO o = some op) (sa : Sim X Y Γ a x) (sb : Sim X Y Γ b y) : Sim X Y Γ (.BinOp a o b pos) (.op op [x, y]) := by
  obtain ⟨n, r, _⟩ := bin_rule lk ho
  have pe : PE X (.BinOp a o b pos) (tE Y Γ (.op op [x, y])) := PE.imp (pe_op r (pe_opd _ sa.pe) (pe_opd _ sb.pe)) fun σ H Q h => op2 n h
  exact Sim.of pe (pt_dflt lk pe (fun _ => rfl) (evT_dflt (fun _ z => by cases z) (fun _ _ z => by cases z) (fun _ _ z => by cases z) fun _ _ _ z => by cases z)) fun j z => by cases z
theorem sim_neg (lk : Lk c X Y Γ k) {a : Expr} {pos : Pos} {x : E} (sa : Sim X Y Γ a x) : Sim X Y Γ (.UnaryOp .USub a pos) (.op .neg [x]) := by
  have r : UnR X (unaryOp .USub) (fun x H Q => rOp Y.K .neg [x] H Q) := by rw [← lk.K]; exact o_neg
  have pe : PE X (.UnaryOp .USub a pos) (tE Y Γ (.op .neg [x])) := PE.imp (pe_un r (pe_opd (quietAll []) sa.pe)) fun σ H Q h => op_ok (by decide) h fun vs H' hr => hr
  exact Sim.of pe (pt_dflt lk pe (fun _ => rfl) (evT_dflt (fun _ z => by cases z) (fun _ _ z => by cases z) (fun _ _ z => by cases z) fun _ _ _ z => by cases z)) fun j z => by cases z
theorem sim_not (lk : Lk c X Y Γ k) {a : Expr} {pos : Pos} {x : E} (sa : Sim X Y Γ a x) : Sim X Y Γ (.UnaryOp .Not a pos) (.op .not [x]) := by
  have p := pe_notT (pos := pos) sa.pe
  rw [lk.K] at p
  exact Sim.of (PE.imp p fun σ H Q h => e_not h) (PT.imp (pt_not sa.pt) fun σ H Q h => t_not h) fun j z => by cases z
theorem sim_ite (lk : Lk c X Y Γ k) {t a b : Expr} {pos : Pos} {x y z : E} (st : Sim X Y Γ t x) (sa : Sim X Y Γ a y) (sb : Sim X Y Γ b z) : Sim X Y Γ (.IfExp t a b pos) (.ite x y z) := by
  have pt : PT X (.IfExp t a b pos) (fun σ H Q => tT Y Γ x σ H fun k H1 => if k = true then tT Y Γ y σ H1 Q else tT Y Γ z σ H1 Q) := ⟨fun pins s σ H Q I h => by
    refine isTrue_IfExp (thn (st.pt.run pins s σ H _ I h) fun d s1 ⟨H1, I1, q1⟩ => ?_)
    cases d with
    | true => exact sa.pt.run pins s1 σ H1 Q I1 q1
    | false => exact sb.pt.run pins s1 σ H1 Q I1 q1⟩
  refine Sim.of (PE.imp (pe_ifExp st.pt (pe_v sa.pe) (pe_v sb.pe)) fun σ H Q h => e_ite h) (PT.imp pt fun σ H Q h => ?_) fun j z => by cases z
  obtain ⟨F, ρ, Us, w, h⟩ := h
  rw [evT] at h
  refine seqT w h Evo.refl fun k ρ1 F1 H1 Us1 w1 ev h => ?_
  cases k with
  | true => rw [if_pos rfl] at h ⊢; exact t_cont w1 ev h
  | false => rw [if_neg Bool.false_ne_true] at h ⊢; exact t_cont w1 ev h
end
end MP

end
section
set_option Elab.async false
set_option linter.all false
set_option maxRecDepth 100000
/-! MP21: more constructs. -/
namespace MP
open PySem PySem.Spec PyProof.Rows L2

section
variable {X : Cx} {Y : Ct} {Γ : Fns} {c : Cc} {k : Nat}
inductive SimL (X : Cx) (Y : Ct) (Γ : Fns) : List Expr → List E → Prop
  | nil : SimL X Y Γ [] []
  | cons {a : Expr} {x : E} {es : List Expr} {xs : List E} (h : Sim X Y Γ a x) (r : SimL X Y Γ es xs) : SimL X Y Γ (a :: es) (x :: xs)
theorem SimL.length {es : List Expr} {xs : List E} (h : SimL X Y Γ es xs) : es.length = xs.length := by
  induction h with
  | nil => rfl
  | cons _ _ ih => simp [ih]
theorem paV {es : List Expr} {xs : List E} (h : SimL X Y Γ es xs) : PA X es (tVs Y Γ xs) := by
  induction h with
  | nil => exact pa_nil
  | cons h r ih => exact pa_cons (pe_v h.pe) ih (h.st _ _)
theorem paO {es : List Expr} {xs : List E} (h : SimL X Y Γ es xs) : PA X es (tOs Y Γ xs) := by
  induction h with
  | nil => exact pa_nil
  | cons h r ih => exact pa_cons (pe_opd _ h.pe) ih (h.st _ _)
/-! ### and, or -/
theorem bool_and {es : List Expr} {xs : List E} (lk : Lk c X Y Γ k) (h : SimL X Y Γ es xs) : ∀ {e : E} {pos : Pos}, boolE .And xs = some e → PE X (.BoolOp .And es pos) (tE Y Γ e) ∧ PW X (.BoolOp .And es pos) (tT Y Γ e) ∧ (∀ i, e = .var i → ∃ a, es = [a] ∧ PE X a (tVar i)) := by
  induction h with
  | nil => intro e pos h; cases h
  | cons h r ih =>
    intro e pos hb
    cases r with
    | nil => cases hb; exact ⟨pe_one h.pe, pw_and1 h.pt, fun i z => ⟨_, rfl, h.var i z⟩⟩
    | cons h2 r2 =>
      obtain ⟨e', he, rfl⟩ := Option.map_eq_some_iff.mp hb
      obtain ⟨p, q, _⟩ := ih (pos := pos) he
      refine ⟨PE.imp (pe_andT (pe_v h.pe) (pe_v p)) fun σ H Q h => ?_, PW.imp (pw_and h.pt q) fun σ H Q h => t_and h, fun i z => by cases z⟩
      rw [lk.K]
      exact e_band h
theorem bool_or {es : List Expr} {xs : List E} (lk : Lk c X Y Γ k) (h : SimL X Y Γ es xs) : ∀ {e : E} {pos : Pos}, boolE .Or xs = some e → PE X (.BoolOp .Or es pos) (tE Y Γ e) ∧ PW X (.BoolOp .Or es pos) (tT Y Γ e) ∧ (∀ i, e = .var i → ∃ a, es = [a] ∧ PE X a (tVar i)) := by
  induction h with
  | nil => intro e pos h; cases h
  | cons h r ih =>
    intro e pos hb
    cases r with
    | nil => cases hb; exact ⟨pe_one h.pe, pw_or1 h.pt, fun i z => ⟨_, rfl, h.var i z⟩⟩
    | cons h2 r2 =>
      obtain ⟨e', he, rfl⟩ := Option.map_eq_some_iff.mp hb
      obtain ⟨p, q, _⟩ := ih (pos := pos) he
      refine ⟨PE.imp (pe_orT (pe_v h.pe) (pe_v p)) fun σ H Q h => ?_, PW.imp (pw_or h.pt q) fun σ H Q h => t_or h, fun i z => by cases z⟩
      rw [lk.K]
      exact e_bor h
theorem bool_nr {es : List Expr} {xs : List E} {o : BoolOp} {e : E} (h : SimL X Y Γ es xs) (hb : boolE o xs = some e) : (∀ i, e ≠ .ref i) ∧ ∀ p es, e ≠ .itr p es := by
  cases h with
  | nil => cases hb
  | cons h r =>
    cases r with
    | nil => cases hb; exact ⟨h.nr, h.nit⟩
    | cons h2 r2 =>
      obtain ⟨e', _, rfl⟩ := Option.map_eq_some_iff.mp hb
      cases o
      · exact ⟨fun i z => (by cases z), fun p es z => (by cases z)⟩
      · exact ⟨fun i z => (by cases z), fun p es z => (by cases z)⟩
theorem sim_bool (lk : Lk c X Y Γ k) {es : List Expr} {xs : List E} {o : BoolOp} {e : E} {pos : Pos} (h : SimL X Y Γ es xs) (hb : boolE o xs = some e) : Sim X Y Γ (.BoolOp o es pos) e := by
  cases o with
  | And =>
    obtain ⟨p, q, v⟩ := bool_and lk h (pos := pos) hb
    exact Sim.of p q.pt (fun i z => by obtain ⟨a, rfl, pv⟩ := v i z; exact pe_one pv) (nr := (bool_nr h hb).1) (nit := (bool_nr h hb).2)
  | Or =>
    obtain ⟨p, q, v⟩ := bool_or lk h (pos := pos) hb
    exact Sim.of p q.pt (fun i z => by obtain ⟨a, rfl, pv⟩ := v i z; exact pe_one pv) (nr := (bool_nr h hb).1) (nit := (bool_nr h hb).2)
/-! ### comparisons -/
theorem opt_map_bl {α : Type} {o : Option α} {f : α → D} {d : D} (h : o.map f = some d) (hf : ∀ a, ∃ k, f a = .bl k) : ∃ k, d = .bl k := by
  obtain ⟨a, _, rfl⟩ := Option.map_eq_some_iff.mp h
  exact hf a
theorem cmp_rule (lk : Lk c X Y Γ k) {o : CmpOp} {op : Op} (h : cmpO o = some op) : op ≠ .ix ∧ op ≠ .not ∧ OpR X (compareOp o) (r2 Y.K op) ∧ ∀ ds d, opSem op ds = some d → ∃ k, d = .bl k := by
  have hu := lk.room.un
  rw [← lk.K]
  cases o <;> simp only [cmpO, Option.some.injEq, reduceCtorEq] at h
  · subst h
    refine ⟨by decide, by decide, o_eq (by omega), fun ds d e => ?_⟩
    have e : sEq ds = some d := e
    unfold sEq at e
    split at e
    · cases e; exact ⟨_, rfl⟩
    · exact opt_map_bl e fun a => ⟨a, rfl⟩
    · cases e
  · subst h
    refine ⟨by decide, by decide, o_ne (by omega), fun ds d e => ?_⟩
    have e : sNe ds = some d := e
    unfold sNe at e
    split at e
    · cases e; exact ⟨_, rfl⟩
    · exact opt_map_bl e fun a => ⟨_, rfl⟩
    · cases e
  · subst h
    refine ⟨by decide, by decide, o_lt, fun ds d e => ?_⟩
    have e : sLt ds = some d := e
    unfold sLt at e
    split at e <;> cases e <;> exact ⟨_, rfl⟩
  · subst h
    refine ⟨by decide, by decide, o_le, fun ds d e => ?_⟩
    have e : sLe ds = some d := e
    unfold sLe at e
    split at e <;> cases e <;> exact ⟨_, rfl⟩
  · subst h
    refine ⟨by decide, by decide, o_gt, fun ds d e => ?_⟩
    have e : sGt ds = some d := e
    unfold sGt at e
    split at e <;> cases e <;> exact ⟨_, rfl⟩
  · subst h
    refine ⟨by decide, by decide, o_ge, fun ds d e => ?_⟩
    have e : sGe ds = some d := e
    unfold sGe at e
    split at e <;> cases e <;> exact ⟨_, rfl⟩
  · subst h
    refine ⟨by decide, by decide, o_inn (by omega), fun ds d e => ?_⟩
    have e : sInn ds = some d := e
    unfold sInn at e
    split at e
    · exact opt_map_bl e fun a => ⟨_, rfl⟩
    · exact opt_map_bl e fun a => ⟨_, rfl⟩
    · cases e; exact ⟨_, rfl⟩
    · cases e
  · subst h
    refine ⟨by decide, by decide, o_nin (by omega), fun ds d e => ?_⟩
    have e : sNin ds = some d := e
    unfold sNin at e
    split at e
    · exact opt_map_bl e fun a => ⟨_, rfl⟩
    · exact opt_map_bl e fun a => ⟨_, rfl⟩
    · cases e; exact ⟨_, rfl⟩
    · cases e
theorem op_bl {o : Op} {es : List E} (hb : ∀ ds d, opSem o ds = some d → ∃ k, d = .bl k) : ∀ ρ d ρ', evB Γ (.op o es) ρ = .ok d ρ' → ∃ k, d = .bl k := fun ρ d ρ' h => by
  rw [evB] at h
  obtain ⟨ds, ρ1, _, h⟩ := bind_inv h
  exact hb ds d (lift_inv h).1
theorem evT_op {o : Op} {es : List E} (hn : o ≠ .not) : evT Γ (.op o es) = (evB Γ (.op o es)).bind fun d => M.lift d.truth :=
  evT_dflt (fun x z => by cases z; exact hn rfl) (fun _ _ z => by cases z) (fun _ _ z => by cases z) fun _ _ _ z => by cases z
theorem sim_cmp1 (lk : Lk c X Y Γ k) {a b : Expr} {o : CmpOp} {op : Op} {pos : Pos} {x y : E} (ho : cmpO o = some op) (sa : Sim X Y Γ a x) (sb : Sim X Y Γ b y) : Sim X Y Γ (.Compare a [o] [b] pos) (.op op [x, y]) := by
  obtain ⟨n, n2, r, hb⟩ := cmp_rule lk ho
  exact Sim.of (PE.imp (pe_cmpR r (pe_opd _ sa.pe) (pe_opd _ sb.pe) (sb.bh _)) fun σ H Q h => op2 n h)
    (pt_bl (pt_cmpR r (pe_opd _ sa.pe) (pe_opd _ sb.pe) (sb.bh _)) (fun σ H Q h => op2 n h) (evT_op n2) (op_bl hb)) fun j z => by cases z
theorem sim_isN (lk : Lk c X Y Γ k) {a : Expr} {j : Nat} {p pos : Pos} {x : E} (sa : Sim X Y Γ a x) : Sim X Y Γ (.Compare a [.Is] [.Constant .none j p] pos) (.op .isN [x]) := by
  have r : OpR X (compareOp .Is) (fun x y H Q => y = .non ∧ rOp Y.K .isN [x] H Q) := by rw [← lk.K]; exact o_isN
  have im : ∀ σ H Q, tE Y Γ (.op .isN [x]) σ H Q → tOp (fun x y H Q => y = .non ∧ rOp Y.K .isN [x] H Q) (tOpd Y Γ (quietAll []) x) (tC .non) σ H Q := fun σ H Q h => by
    have z := op_ok (R := fun vs H' => rOp Y.K .isN vs H' Q) (by decide) h fun vs H' hr => hr
    show tOpd Y Γ (quietAll []) x σ H fun v H1 => V.non = .non ∧ rOp Y.K .isN [v] H1 Q
    exact tOpd_mono z fun v H1 z => ⟨rfl, z⟩
  exact Sim.of (PE.imp (pe_cmpR r (pe_opd _ sa.pe) pe_non rfl) im)
    (pt_bl (pt_cmpR r (pe_opd _ sa.pe) pe_non rfl) im (evT_op (by decide)) (op_bl fun ds d e => by
      have e : sIsN ds = some d := e
      unfold sIsN at e
      split at e <;> cases e
      exact ⟨_, rfl⟩)) fun j z => by cases z
theorem sim_notN (lk : Lk c X Y Γ k) {a : Expr} {j : Nat} {p pos : Pos} {x : E} (sa : Sim X Y Γ a x) : Sim X Y Γ (.Compare a [.IsNot] [.Constant .none j p] pos) (.op .notN [x]) := by
  have r : OpR X (compareOp .IsNot) (fun x y H Q => y = .non ∧ rOp Y.K .notN [x] H Q) := by rw [← lk.K]; exact o_notN
  have im : ∀ σ H Q, tE Y Γ (.op .notN [x]) σ H Q → tOp (fun x y H Q => y = .non ∧ rOp Y.K .notN [x] H Q) (tOpd Y Γ (quietAll []) x) (tC .non) σ H Q := fun σ H Q h => by
    have z := op_ok (R := fun vs H' => rOp Y.K .notN vs H' Q) (by decide) h fun vs H' hr => hr
    show tOpd Y Γ (quietAll []) x σ H fun v H1 => V.non = .non ∧ rOp Y.K .notN [v] H1 Q
    exact tOpd_mono z fun v H1 z => ⟨rfl, z⟩
  exact Sim.of (PE.imp (pe_cmpR r (pe_opd _ sa.pe) pe_non rfl) im)
    (pt_bl (pt_cmpR r (pe_opd _ sa.pe) pe_non rfl) im (evT_op (by decide)) (op_bl fun ds d e => by
      have e : sNotN ds = some d := e
      unfold sNotN at e
      split at e <;> cases e
      exact ⟨_, rfl⟩)) fun j z => by cases z
theorem chn_bl {o1 o2 : Op} {x y z : E} (hb : ∀ ds d, opSem o2 ds = some d → ∃ k, d = .bl k) : ∀ ρ d ρ', evB Γ (.chn o1 o2 x y z) ρ = .ok d ρ' → ∃ k, d = .bl k := fun ρ d ρ' h => by
  rw [evB] at h
  obtain ⟨_, _, _, h⟩ := bind_inv h
  obtain ⟨_, _, _, h⟩ := bind_inv h
  obtain ⟨_, _, _, h⟩ := bind_inv h
  obtain ⟨_, _, _, h⟩ := bind_inv h
  obtain ⟨k, _, _, h⟩ := bind_inv h
  split at h
  · obtain ⟨w, ρ1, _, h⟩ := bind_inv h
    exact hb _ d (lift_inv h).1
  · cases h; exact ⟨_, rfl⟩
  · cases h
theorem sim_chn (lk : Lk c X Y Γ k) {a b d : Expr} {o1 o2 : CmpOp} {p1 p2 : Op} {pos : Pos} {x y z : E} (h1 : cmpO o1 = some p1) (h2 : cmpO o2 = some p2) (sa : Sim X Y Γ a x) (sb : Sim X Y Γ b y) (sd : Sim X Y Γ d z) :
    Sim X Y Γ (.Compare a [o1, o2] [b, d] pos) (.chn p1 p2 x y z) := by
  obtain ⟨n1, _, r1, hb1⟩ := cmp_rule lk h1
  obtain ⟨n2, _, r2, hb2⟩ := cmp_rule lk h2
  have hm : lastMarks [o1, o2] [b, d] = false := sd.bh o2
  have im : ∀ σ H Q, tE Y Γ (.chn p1 p2 x y z) σ H Q → tChain (MP.r2 Y.K p1) (MP.r2 Y.K p2) (tOpd Y Γ (quiet y && quiet z) x) (tOpd Y Γ (quiet z) y) (tE Y Γ z) σ H Q := fun σ H Q h => e_chn (fun x y d e => hb1 _ d e) h
  exact Sim.of (PE.imp (pe_chain r1 r2 (pe_opd _ sa.pe) (pe_opd _ sb.pe) sd.pe hm) im)
    (pt_bl (pt_chain r1 r2 (pe_opd _ sa.pe) (pe_opd _ sb.pe) sd.pe hm) im (evT_dflt (fun _ z => by cases z) (fun _ _ z => by cases z) (fun _ _ z => by cases z) fun _ _ _ z => by cases z) (chn_bl hb2)) fun j z => by cases z
theorem sim_cmp (lk : Lk c X Y Γ k) {a : Expr} {os : List CmpOp} {bs : List Expr} {pos : Pos} {x e : E} {ys : List E} (sa : Sim X Y Γ a x) (sl : SimL X Y Γ bs ys) (h : cmpE os bs x ys = some e) : Sim X Y Γ (.Compare a os bs pos) e := by
  unfold cmpE at h
  split at h
  · cases h; exact sim_isN lk sa
  · cases h; exact sim_notN lk sa
  · obtain ⟨op, ho, rfl⟩ := Option.map_eq_some_iff.mp h
    cases sl with
    | cons h1 r => cases r; exact sim_cmp1 lk ho sa h1
  · obtain ⟨p1, h1, h⟩ := Option.bind_eq_some_iff.mp h
    obtain ⟨p2, h2, rfl⟩ := Option.map_eq_some_iff.mp h
    cases sl with
    | cons s1 r => cases r with
      | cons s2 r => cases r; exact sim_chn lk h1 h2 sa s1 s2
  · cases h
/-! ### displays -/
theorem sim_tup (lk : Lk c X Y Γ k) {es : List Expr} {xs : List E} {j : Nat} {pos : Pos} (sl : SimL X Y Γ es xs) : Sim X Y Γ (.Tuple es j pos) (.tup xs) := by
  have pe : PE X (.Tuple es j pos) (tE Y Γ (.tup xs)) := PE.imp (pe_tup (paV sl)) fun σ H Q h => e_tup h
  exact Sim.of pe (pt_dflt lk pe (fun _ => rfl) (evT_dflt (fun _ z => by cases z) (fun _ _ z => by cases z) (fun _ _ z => by cases z) fun _ _ _ z => by cases z)) fun i z => by cases z
theorem sim_lst (lk : Lk c X Y Γ k) {es : List Expr} {xs : List E} {pos : Pos} (sl : SimL X Y Γ es xs) : Sim X Y Γ (.List es pos) (.lst xs) := by
  have pe : PE X (.List es pos) (tE Y Γ (.lst xs)) := PE.imp (pe_lst (paV sl)) fun σ H Q h => e_lst h
  exact Sim.of pe (pt_dflt lk pe (fun _ => rfl) (evT_dflt (fun _ z => by cases z) (fun _ _ z => by cases z) (fun _ _ z => by cases z) fun _ _ _ z => by cases z)) fun i z => by cases z
/-! ### subscripts -/
theorem sim_ix (lk : Lk c X Y Γ k) {a b : Expr} {x y : E} {pos : Pos} (sa : Sim X Y Γ a x) (sb : Sim X Y Γ b y) : Sim X Y Γ (.Subscript a b pos) (.op .ix [x, y]) := by
  have r : IxR X (rIx Y.K) := by rw [← lk.K]; exact ix_seq
  have pe : PE X (.Subscript a b pos) (tE Y Γ (.op .ix [x, y])) := PE.imp (pe_ix r (pe_opd (quiet y) sa.pe) sb.pe sb.ix) fun σ H Q h => e_ix h
  exact Sim.of pe (pt_dflt lk pe (fun _ => rfl) (evT_op (by decide))) fun i z => by cases z
def partT (Y : Ct) (Γ : Fns) : E → TO
  | .op .part [x] => tPart (tE Y Γ x)
  | _ => tNoPart
structure SimO (X : Cx) (Y : Ct) (Γ : Fns) (o : Option Expr) (l : E) : Prop where
  po : PO X o (partT Y Γ l)
  hl : ∀ σ H (Q : VK) q, tOpd Y Γ q l σ H Q → partT Y Γ l σ H fun o H' => ∃ v, PartV o v ∧ Q v H'
theorem partT_mono {l : E} : ∀ σ H (Q Q' : Option Int → Hp → Prop), partT Y Γ l σ H Q → (∀ o H', Q o H' → Q' o H') → partT Y Γ l σ H Q' := fun σ H Q Q' h hq => by
  unfold partT at h
  split at h
  · exact tM_mono h fun v H' ⟨i, e, q⟩ => ⟨i, e, hq _ _ q⟩
  · rename_i hne
    unfold partT
    split
    · exact absurd rfl (hne _)
    · exact hq _ _ h
theorem simO_none : SimO X Y Γ none (.cst .non) := ⟨po_none, fun σ H Q q h => part_none h⟩
theorem simO_some {a : Expr} {x : E} (s : Sim X Y Γ a x) : SimO X Y Γ (some a) (.op .part [x]) := ⟨po_some s.pe, fun σ H Q q h => part_some h⟩
theorem sim_sl (lk : Lk c X Y Γ k) {a : Expr} {lo hi : Option Expr} {x l h : E} {p2 pos : Pos} (sa : Sim X Y Γ a x) (sl : SimO X Y Γ lo l) (sh : SimO X Y Γ hi h) :
    Sim X Y Γ (.Subscript a (.Slice lo hi none p2) pos) (.op .sl [x, l, h]) := by
  have r : SlR X (rSl Y.K) := by rw [← lk.K]; exact sl_any
  have pe : PE X (.Subscript a (.Slice lo hi none p2) pos) (tE Y Γ (.op .sl [x, l, h])) := PE.imp (pe_slice r (pe_opd (quietAll [l, h]) sa.pe) sl.po sh.po) fun σ H Q hm => e_sl sl.hl sh.hl partT_mono partT_mono hm
  exact Sim.of pe (pt_dflt lk pe (fun _ => rfl) (evT_op (by decide))) fun i z => by cases z
end
end MP

end
section
set_option Elab.async false
set_option linter.all false
set_option maxRecDepth 100000
set_option maxHeartbeats 4000000
/-! MP22: built-in functions, isinstance, methods, targets, what is walked, comprehensions. -/
namespace MP
open PySem PySem.Spec PyProof.Rows L2

section
variable {X : Cx} {Y : Ct} {Γ : Fns} {c : Cc} {k : Nat}
theorem starEach_nil (env : Env) : starEach [] env = [] := rfl
theorem pl_of {es : List Expr} {xs : List E} (h : SimL X Y Γ es xs) (pos : Pos) : (backTo pos (starEach es X.env)).any (·.1) = false := by
  induction h with
  | nil => rfl
  | cons h r ih =>
    rw [h.st]
    show (false || (backTo pos (starEach _ X.env)).any (·.1)) = false
    rw [ih]
    rfl
/-! ### built-in functions -/
def bltOk (X : Cx) (Y : Ct) (f : Str) (o : Op) : Prop := o ≠ .ix ∧ o ≠ .not ∧ f ∈ bltNames ∧ f ≠ ("__name__" : Str) ∧ (f == ("__debug__" : Str)) = false ∧
  ((∃ id, bootBuiltins f = some (.builtin id) ∧ CallR X (.builtin id) (rOp Y.K o)) ∨ (∃ T, bootBuiltins f = some (.type T) ∧ CallR X (.type T) (rOp Y.K o)))
theorem blt_rule (lk : Lk c X Y Γ k) {f : Str} {n : Nat} {o : Op} (h : bltO f n = some o) : 0 < n ∧ bltOk X Y f o := by
  have hu := lk.room.un
  unfold bltOk
  rw [← lk.K]
  unfold bltO at h
  split at h
  · rename_i q; subst q
    split at h
    · cases h; refine ⟨by omega, by decide, by decide, by decide, by decide, by decide, .inl ⟨_, boot_len, c_len⟩⟩
    · cases h
  split at h
  · rename_i q; subst q
    split at h
    · cases h; refine ⟨by omega, by decide, by decide, by decide, by decide, by decide, .inl ⟨_, boot_min, c_min lk.calm⟩⟩
    · cases h
  split at h
  · rename_i q; subst q
    split at h
    · cases h; refine ⟨by omega, by decide, by decide, by decide, by decide, by decide, .inl ⟨_, boot_max, c_max lk.calm⟩⟩
    · cases h
  split at h
  · rename_i q; subst q
    split at h
    · cases h; refine ⟨by omega, by decide, by decide, by decide, by decide, by decide, .inl ⟨"abs", by decide +kernel, c_abs⟩⟩
    · cases h
  split at h
  · rename_i q; subst q
    split at h
    · cases h; refine ⟨by omega, by decide, by decide, by decide, by decide, by decide, .inr ⟨"tuple", by decide +kernel, c_tuple⟩⟩
    · cases h
  split at h
  · rename_i q; subst q
    split at h
    · cases h; refine ⟨by omega, by decide, by decide, by decide, by decide, by decide, .inr ⟨"list", by decide +kernel, c_list⟩⟩
    · cases h
  split at h
  · rename_i q; subst q
    split at h
    · cases h; refine ⟨by omega, by decide, by decide, by decide, by decide, by decide, .inr ⟨"int", by decide +kernel, c_int⟩⟩
    · cases h
  split at h
  · rename_i q; subst q
    split at h
    · cases h; refine ⟨by omega, by decide, by decide, by decide, by decide, by decide, .inl ⟨"repr", by decide +kernel, c_repr (by omega) lk.gd⟩⟩
    · cases h
  split at h
  · rename_i q; subst q
    split at h
    · cases h; refine ⟨by omega, by decide, by decide, by decide, by decide, by decide, .inl ⟨"any", by decide +kernel, c_any lk.calm⟩⟩
    · cases h
  split at h
  · rename_i q; subst q
    split at h
    · cases h; refine ⟨by omega, by decide, by decide, by decide, by decide, by decide, .inl ⟨"all", by decide +kernel, c_all lk.calm⟩⟩
    · cases h
  · cases h
theorem sim_blt (lk : Lk c X Y Γ k) {f : Str} {es : List Expr} {xs : List E} {o : Op} {p pos : Pos} (sl : SimL X Y Γ es xs) (hg : globB c.sc f = true) (hn : c.globs.lookup f = none) (h : bltO f xs.length = some o) :
    Sim X Y Γ (.Call (.Name f p) es [] pos) (.op o xs) := by
  obtain ⟨h1, n1, n2, hb, d1, d2, hc⟩ := blt_rule lk h
  have hm := lk.blt _ hn hb
  cases sl with
  | nil => simp at h1
  | @cons a0 x0 es0 xs0 s r =>
    have sl := SimL.cons s r
    have pe : PE X (.Call (.Name f p) (a0 :: es0) [] pos) (tE Y Γ (.op o (x0 :: xs0))) := by
      rcases hc with ⟨id, hv, hc⟩ | ⟨T, hv, hc⟩
      · exact PE.imp (pe_callB hc (glob_gl lk hg) hm hv (paO sl) d1 d2 (s.st _ _) (pl_of r pos)) fun σ H Q h => op_ok n1 h fun vs H' hr => hr
      · exact PE.imp (pe_callTy hc (glob_gl lk hg) hm hv (paO sl) d1 d2 (s.st _ _) (pl_of r pos)) fun σ H Q h => op_ok n1 h fun vs H' hr => hr
    exact Sim.of pe (pt_dflt lk pe (fun _ => rfl) (evT_op n2)) fun i z => by cases z
/-! ### isinstance -/
theorem freeG_inv (lk : Lk c X Y Γ k) {f : Str} (h : freeG c f = true) (hb : f ∈ bltNames) : Gl X f ∧ X.mg f = none := by
  unfold freeG at h
  simp only [Bool.and_eq_true] at h
  exact ⟨glob_gl lk h.1.1, lk.blt _ (by simpa using h.2) hb⟩
theorem pe_tyn (lk : Lk c X Y Γ k) {t : Str} {n : Nat} {p : Pos} (h : typeNo t = some n) (hf : freeG c t = true) : PE X (.Name t p) (tC (.ty (tName n))) := by
  unfold typeNo at h
  split at h
  · rename_i q; subst q; cases h
    obtain ⟨a, b⟩ := freeG_inv lk hf (by decide)
    exact pe_bltn (v := .ty "int") (u := .type "int") a b (by decide +kernel) rfl (by decide) (by decide)
  split at h
  · rename_i q; subst q; cases h
    obtain ⟨a, b⟩ := freeG_inv lk hf (by decide)
    exact pe_bltn (v := .ty "str") (u := .type "str") a b (by decide +kernel) rfl (by decide) (by decide)
  split at h
  · rename_i q; subst q; cases h
    obtain ⟨a, b⟩ := freeG_inv lk hf (by decide)
    exact pe_bltn (v := .ty "bool") (u := .type "bool") a b (by decide +kernel) rfl (by decide) (by decide)
  split at h
  · rename_i q; subst q; cases h
    obtain ⟨a, b⟩ := freeG_inv lk hf (by decide)
    exact pe_bltn (v := .ty "tuple") (u := .type "tuple") a b (by decide +kernel) rfl (by decide) (by decide)
  split at h
  · rename_i q; subst q; cases h
    obtain ⟨a, b⟩ := freeG_inv lk hf (by decide)
    exact pe_bltn (v := .ty "list") (u := .type "list") a b (by decide +kernel) rfl (by decide) (by decide)
  split at h
  · rename_i q; subst q; cases h
    obtain ⟨a, b⟩ := freeG_inv lk hf (by decide)
    exact pe_bltn (v := .ty "dict") (u := .type "dict") a b (by decide +kernel) rfl (by decide) (by decide)
  · cases h
theorem sim_isi (lk : Lk c X Y Γ k) {a t : Expr} {x e : E} {p pos : Pos} (sa : Sim X Y Γ a x) (hf : freeG c ("isinstance" : Str) = true) (h : isiE c t x = some e) : Sim X Y Γ (.Call (.Name "isinstance" p) [a, t] [] pos) e := by
  obtain ⟨g, m⟩ := freeG_inv lk hf (by decide)
  unfold isiE at h
  split at h
  · rename_i t tp
    split at h
    · rename_i ht
      obtain ⟨n, hn, rfl⟩ := Option.map_eq_some_iff.mp h
      have r : CallR X (.builtin "isinstance") (rIsi Y.K) := by rw [← lk.K]; exact call_isi
      have pt := pe_tyn (p := tp) lk hn ht
      have pe := PE.imp (pe_callB (p := p) (pos := pos) r g m (by decide +kernel) (pa_cons sa.pe (pa_cons pt pa_nil rfl) (sa.st _ _)) (by decide) (by decide) (sa.st _ _) rfl) fun σ H Q h => e_isi h
      exact Sim.of pe (pt_dflt lk pe (fun _ => rfl) (evT_op (by intro z; cases z))) fun i z => by cases z
    · cases h
  · rename_i t tp t2 tp2 jj pp
    split at h
    · rename_i ht
      rw [Bool.and_eq_true] at ht
      obtain ⟨n, hn, h⟩ := Option.bind_eq_some_iff.mp h
      obtain ⟨n2, hn2, rfl⟩ := Option.map_eq_some_iff.mp h
      have r : CallR X (.builtin "isinstance") (rIsiT Y.K) := by rw [← lk.K]; exact call_isiT
      have pt := pe_tyn (p := tp) lk hn ht.1
      have pt2 := pe_tyn (p := tp2) lk hn2 ht.2
      have pe := PE.imp (pe_callB (p := p) (pos := pos) r g m (by decide +kernel) (pa_cons sa.pe (pa_cons (pe_tup (x1 := jj) (pos := pp) (pa_cons pt (pa_cons pt2 pa_nil rfl) rfl)) pa_nil rfl) (sa.st _ _)) (by decide) (by decide) (sa.st _ _) rfl) fun σ H Q h => e_isi2 h
      exact Sim.of pe (pt_dflt lk pe (fun _ => rfl) (evT_op (by intro z; cases z))) fun i z => by cases z
    · cases h
  · cases h
/-! ### methods of a list in a name -/
def mtdOk (X : Cx) (m : Str) (o : MOp) : Prop := ∃ id : String, Slot "list" m id ∧ typeOf (.builtin id) = pure (.type "method_descriptor") ∧ MtR X id (rOf o)
theorem mtd_rule {m : Str} {n : Nat} {o : MOp} (h : mtdO m n = some o) : n ≤ 2 ∧ mtdOk X m o := by
  unfold mtdOk
  unfold mtdO at h
  split at h
  · rename_i q; subst q
    split at h
    · cases h; exact ⟨by omega, _, F.slot_list_append, F.type_list_append, mt_append⟩
    · cases h
  split at h
  · rename_i q; subst q
    split at h
    · cases h; exact ⟨by omega, _, F.slot_list_extend, F.type_list_extend, mt_extend⟩
    · cases h
  split at h
  · rename_i q; subst q
    split at h
    · cases h; exact ⟨by omega, _, F.slot_list_pop, F.type_list_pop, mt_pop⟩
    · split at h
      · cases h; exact ⟨by omega, _, F.slot_list_pop, F.type_list_pop, mt_popAt⟩
      · cases h
  split at h
  · rename_i q; subst q
    split at h
    · cases h; exact ⟨by omega, _, F.slot_list_reverse, F.type_list_reverse, mt_reverse⟩
    · cases h
  split at h
  · rename_i q; subst q
    split at h
    · cases h; exact ⟨by omega, _, F.slot_list_clear, F.type_list_clear, mt_clear⟩
    · cases h
  split at h
  · rename_i q; subst q
    split at h
    · cases h; exact ⟨by omega, _, F.slot_list_insert, F.type_list_insert, mt_insert⟩
    · cases h
  · cases h
theorem sim_mtd (lk : Lk c X Y Γ k) {x m : Str} {i : Nat} {o : MOp} {es : List Expr} {xs : List E} {p1 ap cp : Pos} (hs : slotOf c x = some i) (sl : SimL X Y Γ es xs) (ho : mtdO m xs.length = some o) (hl : (ap.endLine == cp.line) = true) :
    Sim X Y Γ (.Call (.Attribute (.Name x p1) m ap) es [] cp) (.mtd o i xs) := by
  obtain ⟨hlen, id, slot, ty, mt⟩ := mtd_rule (X := X) ho
  obtain ⟨a, b, d1, d2⟩ := lk_vis lk hs
  have pv : PE X (.Name x p1) (tVar i) := pe_var a b d1 d2
  have pe : PE X (.Call (.Attribute (.Name x p1) m ap) es [] cp) (tE Y Γ (.mtd o i xs)) := by
    cases sl with
    | nil =>
      have p := pe_bm0 PySem.F.plainAttrs_list slot ty mt pv (hline := hl) (hbase := rfl)
      rw [lk.K] at p
      exact PE.imp p fun σ H Q h => e_mtd h
    | @cons a0 x0 es0 xs0 s r =>
      have sl := SimL.cons s r
      have p := pe_bm PySem.F.plainAttrs_list slot ty mt pv (paV sl) (cpos := cp) (hbase := rfl) (hfew := by
        have e1 : (backTo cp (starEach (a0 :: es0) X.env)).all (fun x => !x.1) = true := by
          have := pl_of sl cp
          rw [List.all_eq_not_any_not]
          simp only [Bool.not_not]
          rw [this]
          rfl
        rw [e1]
        have hl2 := sl.length
        simp only [List.length_cons] at hl2 hlen
        have e2 : (backToKw cp (keywordEach [] X.env)).all (fun x => x.1.isSome) = true := rfl
        rw [e2]
        simp only [Bool.and_self, Bool.true_and, decide_eq_true_eq]
        simp only [List.length_cons, List.length_nil, List.isEmpty_nil, if_true]
        omega) (hline := hl) (hs := s.st _ _) (hplain := pl_of r cp)
      rw [lk.K] at p
      exact PE.imp p fun σ H Q h => e_mtd h
  exact Sim.of pe (pt_dflt lk pe (fun _ => rfl) (evT_dflt (fun _ z => by cases z) (fun _ _ z => by cases z) (fun _ _ z => by cases z) fun _ _ _ z => by cases z)) fun i z => by cases z
/-! ### targets -/
theorem tg_name (lk : Lk c X Y Γ k) {x : Str} {i : Nat} {p : Pos} (h : tgB c x = true) (hi : ixOf x c.N 0 = some i) : PG X (.Name x p) (gName i) ∧ X.N[i]? = some x ∧ Loc X.env.scope x := by
  obtain ⟨_, hi⟩ := ixOf_some hi
  rw [Nat.sub_zero, ← lk.N] at hi
  unfold tgB at h
  split at h
  · rename_i q
    rw [← lk.sc] at q
    exact ⟨pg_name lk.nd hi (.inl q) (.inr q), hi, .inl q⟩
  · rename_i q
    rw [← lk.sc] at q
    exact ⟨pg_name lk.nd hi (.inr q) (.inl (lk.fn _ h)), hi, .inr q⟩
  · cases h
mutual
theorem simT (lk : Lk c X Y Γ k) : ∀ (a : Expr) {t : Tg}, cT c a = some t → PG X a (gT Y.K t) ∧ ∀ r env, assignEach (a :: r) env = (false, assign a env) :: assignEach r env
  | .Name x p, t, h => by
    rw [cT] at h
    split at h
    · rename_i q
      rw [Bool.and_eq_true] at q
      obtain ⟨i, hi, rfl⟩ := Option.map_eq_some_iff.mp h
      exact ⟨by unfold gT; exact (tg_name lk q.1 hi).1, fun _ _ => rfl⟩
    · cases h
  | .Tuple es j p, t, h => by
    rw [cT] at h
    obtain ⟨ts, ht, rfl⟩ := Option.map_eq_some_iff.mp h
    obtain ⟨pg, hl, hf⟩ := simTs lk es ht
    refine ⟨?_, fun _ _ => rfl⟩
    unfold gT
    rw [← lk.K]
    refine pg_tup lk.calm (by rw [lk.K]; exact pg) ?_ ?_
    · exact hl
    · exact hf
  | .BoolOp .., t, h => by simp [cT] at h
  | .NamedExpr .., t, h => by simp [cT] at h
  | .BinOp .., t, h => by simp [cT] at h
  | .UnaryOp .., t, h => by simp [cT] at h
  | .Lambda .., t, h => by simp [cT] at h
  | .IfExp .., t, h => by simp [cT] at h
  | .Dict .., t, h => by simp [cT] at h
  | .Set .., t, h => by simp [cT] at h
  | .ListComp .., t, h => by simp [cT] at h
  | .SetComp .., t, h => by simp [cT] at h
  | .DictComp .., t, h => by simp [cT] at h
  | .GeneratorExp .., t, h => by simp [cT] at h
  | .Await .., t, h => by simp [cT] at h
  | .Yield .., t, h => by simp [cT] at h
  | .YieldFrom .., t, h => by simp [cT] at h
  | .Compare .., t, h => by simp [cT] at h
  | .Call .., t, h => by simp [cT] at h
  | .FormattedValue .., t, h => by simp [cT] at h
  | .JoinedStr .., t, h => by simp [cT] at h
  | .Constant .., t, h => by simp [cT] at h
  | .Attribute .., t, h => by simp [cT] at h
  | .Subscript .., t, h => by simp [cT] at h
  | .Starred .., t, h => by simp [cT] at h
  | .List .., t, h => by simp [cT] at h
  | .Slice .., t, h => by simp [cT] at h
theorem simTs (lk : Lk c X Y Γ k) : ∀ (es : List Expr) {ts : List Tg}, cTs c es = some ts → PGs X es (gTs Y.K ts) ∧ (assignEach es X.env).length = ts.length ∧ (assignEach es X.env).findIdx? (·.1) = none
  | [], ts, h => by
    rw [cTs] at h
    cases h
    exact ⟨by unfold gTs; exact pgs_nil, rfl, rfl⟩
  | a :: es, ts, h => by
    rw [cTs] at h
    obtain ⟨t, ht, h⟩ := Option.bind_eq_some_iff.mp h
    obtain ⟨r, hr, rfl⟩ := Option.map_eq_some_iff.mp h
    obtain ⟨p, e⟩ := simT lk a ht
    obtain ⟨ps, hl, hf⟩ := simTs lk es hr
    refine ⟨by unfold gTs; exact pgs_cons p ps (by rw [e]; rfl), by rw [e, List.length_cons, hl, List.length_cons], ?_⟩
    rw [e, List.findIdx?_cons, hf]
    rfl
end
end
end MP

end
section
set_option Elab.async false
set_option linter.all false
set_option maxRecDepth 100000
set_option maxHeartbeats 4000000
/-! MP23: calls of defs, comprehensions, what is walked: as rules of the compiled text. -/
namespace MP
open PySem PySem.Spec PyProof.Rows L2

section
variable {X : Cx} {Y : Ct} {Γ : Fns} {c : Cc} {k : Nat}
/-! ### what is lent -/
def Rep (es cur : List E) : Prop := cur.length = es.length ∧ ∀ j : Nat, cur[j]? = es[j]? ∨ ∃ i, es[j]? = some (.var i) ∧ cur[j]? = some (.ref i)
theorem rep_set {es cur : List E} {j i : Nat} (h : Rep es cur) (e : es[j]? = some (.var i)) : Rep es (cur.set j (.ref i)) := by
  refine ⟨by rw [List.length_set, h.1], fun n => ?_⟩
  by_cases q : j = n
  · subst q
    exact .inr ⟨i, e, List.getElem?_set_self (by rw [h.1]; exact (List.getElem?_eq_some_iff.mp e).1)⟩
  · rw [List.getElem?_set_ne q]
    exact h.2 n
theorem lend_rep {es : List E} : ∀ (l : List (Nat × Nat × Nat)) (cur : List E), Rep es cur → (∀ p ∈ l, es[p.2.1]? = some (.var p.2.2)) → Rep es (l.foldl (fun es p => es.set p.2.1 (.ref p.2.2)) cur)
  | [], cur, h, _ => h
  | p :: l, cur, h, hp => by
    rw [List.foldl_cons]
    exact lend_rep l _ (rep_set h (hp p (List.mem_cons_self ..))) fun q hq => hp q (List.mem_cons_of_mem _ hq)
theorem lendOf_ok {es : List E} {srcs : List Src} : ∀ {os : List Nat} {l : List (Nat × Nat × Nat)}, lendOf es srcs os = some l → ∀ p ∈ l, es[p.2.1]? = some (.var p.2.2)
  | [], l, h, p, hp => by
    rw [lendOf] at h
    cases h
    cases hp
  | o :: os, l, h, p, hp => by
    rw [lendOf] at h
    obtain ⟨r, hr, h⟩ := Option.bind_eq_some_iff.mp h
    split at h
    · split at h
      · rename_i i e
        cases h
        rcases List.mem_cons.mp hp with z | z
        · rw [z]; exact e
        · exact lendOf_ok hr p z
      · cases h
    · cases h
theorem lendS_d {d : D} : ∀ (l : List (Nat × Nat × Nat)) (ss : List Src) (j : Nat), (lendS l ss)[j]? = some (.d d) → ss[j]? = some (.d d)
  | [], ss, j, h => h
  | p :: l, ss, j, h => by
    have h : (lendS l (ss.set p.1 (.s p.2.1 p.2.2)))[j]? = some (.d d) := h
    have h := lendS_d l _ j h
    by_cases q : p.1 = j
    · rw [q] at h
      by_cases hl : j < ss.length
      · rw [List.getElem?_set_self hl] at h; cases h
      · rw [List.getElem?_eq_none (by simpa using hl)] at h; cases h
    · rw [List.getElem?_set_ne q] at h
      exact h
/-! ### arguments -/
theorem tAs_one {e : E} {es : List E} {σ : L2.St} {H : Hp} {Q : List V → Hp → Prop} (h : tAs Y Γ (e :: es) σ H Q) : (∃ i, e = .ref i ∧ tVar i σ H fun x H1 => tAs Y Γ es σ H1 fun xs H2 => Q (x :: xs) H2) ∨ ((∀ i, e ≠ .ref i) ∧ tV Y Γ e σ H fun x H1 => tAs Y Γ es σ H1 fun xs H2 => Q (x :: xs) H2) := by
  by_cases hr : ∃ i, e = .ref i
  · obtain ⟨i, rfl⟩ := hr
    exact .inl ⟨i, rfl, h⟩
  · rw [tAs] at h
    · exact .inr ⟨fun i z => hr ⟨i, z⟩, h⟩
    · exact fun i z => hr ⟨i, z⟩
theorem tAs_cons_v {e : E} {es : List E} (hr : ∀ i, e ≠ .ref i) : tAs Y Γ (e :: es) = tCons (tV Y Γ e) (tAs Y Γ es) := by
  rw [tAs]
  exact hr
theorem tAs_imp : ∀ {es : List E} {σ : L2.St} {H : Hp} {Q Q' : List V → Hp → Prop}, tAs Y Γ es σ H Q → (∀ vs H', vs.length = es.length → Q vs H' → Q' vs H') → tAs Y Γ es σ H Q'
  | [], σ, H, Q, Q', h, hq => hq [] H rfl h
  | e :: es, σ, H, Q, Q', h, hq => by
    rcases tAs_one h with ⟨i, rfl, v, hv, h⟩ | ⟨hr, h⟩
    · exact ⟨v, hv, tAs_imp h fun vs H' l q => hq _ _ (by simp [l]) q⟩
    · rw [tAs_cons_v hr]
      show tV Y Γ e σ H fun x H1 => tAs Y Γ es σ H1 fun xs H2 => Q' (x :: xs) H2
      exact tM_mono h fun x H1 h => tAs_imp h fun vs H' l q => hq _ _ (by simp [l]) q
theorem tAs_split : ∀ (n : Nat) {es : List E} {σ : L2.St} {H : Hp} {Q : List V → Hp → Prop}, tAs Y Γ es σ H Q → tAs Y Γ (es.take n) σ H fun vs H1 => tAs Y Γ (es.drop n) σ H1 fun zs H2 => Q (vs ++ zs) H2
  | 0, es, σ, H, Q, h => by
    rw [List.take_zero, List.drop_zero]
    exact h
  | n + 1, [], σ, H, Q, h => h
  | n + 1, e :: es, σ, H, Q, h => by
    rw [List.take_succ_cons, List.drop_succ_cons]
    rcases tAs_one h with ⟨i, rfl, v, hv, h⟩ | ⟨hr, h⟩
    · exact ⟨v, hv, tAs_split n h⟩
    · rw [tAs_cons_v hr]
      show tV Y Γ e σ H fun x H1 => tAs Y Γ (es.take n) σ H1 fun xs H2 => tAs Y Γ (es.drop n) σ H2 fun zs H3 => Q (x :: xs ++ zs) H3
      exact tM_mono h fun x H1 h => tAs_split n h
theorem paA {es : List Expr} {xs : List E} (h : SimL X Y Γ es xs) : ∀ {ys : List E}, Rep xs ys → PA X es (tAs Y Γ ys) := by
  induction h with
  | nil =>
    intro ys r
    have : ys = [] := List.eq_nil_of_length_eq_zero r.1
    subst this
    exact pa_nil
  | @cons a x es xs h r ih =>
    intro ys rp
    cases ys with
    | nil => have := rp.1; simp at this
    | cons y ys =>
      have rp2 : Rep xs ys := ⟨by simpa using rp.1, fun j => by simpa using rp.2 (j + 1)⟩
      have h0 := rp.2 0
      simp only [List.getElem?_cons_zero, Option.some.injEq] at h0
      by_cases hr : ∃ i, y = .ref i
      · obtain ⟨i, rfl⟩ := hr
        rcases h0 with e | ⟨j, e, e2⟩
        · -- the argument is no ref as written: nothing reads it
          exact PA.imp (pa_cons (te := fun _ _ _ => False) ⟨fun _ _ _ _ _ _ z => z.elim⟩ (ih rp2) (h.st _ _)) fun σ H Q hq => by
            have := h.nr i
            exact absurd e.symm this
        · cases e2
          exact pa_cons (h.var _ e) (ih rp2) (h.st _ _)
      · have hr : ∀ i, y ≠ .ref i := fun i z => hr ⟨i, z⟩
        rcases h0 with e | ⟨j, e, e2⟩
        · subst e
          rw [tAs_cons_v hr]
          exact pa_cons (pe_v h.pe) (ih rp2) (h.st _ _)
        · exact absurd e2 (hr j)
end
end MP

end
section
set_option Elab.async false
set_option linter.all false
set_option maxRecDepth 100000
set_option maxHeartbeats 4000000
/-! MP24: calls, what is walked, comprehensions; all expressions. -/
namespace MP
open PySem PySem.Spec PyProof.Rows L2

section
variable {X : Cx} {Y : Ct} {Γ : Fns} {c : Cc} {k : Nat}
inductive SimK (X : Cx) (Y : Ct) (Γ : Fns) : List Keyword → List (Str × E) → Prop
  | nil : SimK X Y Γ [] []
  | cons {n : Str} {a : Expr} {p : Pos} {x : E} {kws : List Keyword} {zs : List (Str × E)} (h : Sim X Y Γ a x) (r : SimK X Y Γ kws zs) : SimK X Y Γ (⟨some n, a, p⟩ :: kws) ((n, x) :: zs)
theorem SimK.facts {kws : List Keyword} {zs : List (Str × E)} (h : SimK X Y Γ kws zs) (pos : Pos) : (backToKw pos (keywordEach kws X.env)).all (·.1.isSome) = true ∧ (backToKw pos (keywordEach kws X.env)).filterMap (·.1) = zs.map Prod.fst ∧ (backToKw pos (keywordEach kws X.env)).any (·.1.isNone) = false := by
  induction h with
  | nil => exact ⟨rfl, rfl, rfl⟩
  | @cons n a p x kws zs h r ih =>
    obtain ⟨a1, a2, a3⟩ := ih
    have e : backToKw pos (keywordEach (⟨some n, a, p⟩ :: kws) X.env) = (some n, do let v ← eval a X.env; standAt pos; pure v) :: backToKw pos (keywordEach kws X.env) := rfl
    rw [e]
    refine ⟨?_, ?_, ?_⟩
    · rw [List.all_cons, a1]; rfl
    · rw [List.filterMap_cons]
      simp only [a2, List.map_cons]
    · rw [List.any_cons, a3]; rfl
theorem pkA {kws : List Keyword} {zs : List (Str × E)} (h : SimK X Y Γ kws zs) : ∀ {ys : List E}, Rep (zs.map Prod.snd) ys → PK X kws (tAs Y Γ ys) := by
  induction h with
  | nil =>
    intro ys r
    have : ys = [] := List.eq_nil_of_length_eq_zero r.1
    subst this
    exact pk_nil
  | @cons n a p x kws zs h r ih =>
    intro ys rp
    cases ys with
    | nil => have := rp.1; simp at this
    | cons y ys =>
      have rp2 : Rep (zs.map Prod.snd) ys := ⟨by simpa using rp.1, fun j => by simpa using rp.2 (j + 1)⟩
      have h0 := rp.2 0
      simp only [List.map_cons, List.getElem?_cons_zero, Option.some.injEq] at h0
      by_cases hr : ∃ i, y = .ref i
      · obtain ⟨i, rfl⟩ := hr
        rcases h0 with e | ⟨j, e, e2⟩
        · exact absurd e.symm (h.nr i)
        · cases e2
          exact pk_cons (h.var _ e) (ih rp2)
      · have hr : ∀ i, y ≠ .ref i := fun i z => hr ⟨i, z⟩
        rcases h0 with e | ⟨j, e, e2⟩
        · subst e
          rw [tAs_cons_v hr]
          exact pk_cons (pe_v h.pe) (ih rp2)
        · exact absurd e2 (hr j)
theorem rep_split {a b cur : List E} (h : Rep (a ++ b) cur) : Rep a (cur.take a.length) ∧ Rep b (cur.drop a.length) := by
  obtain ⟨hl, hj⟩ := h
  rw [List.length_append] at hl
  refine ⟨⟨by rw [List.length_take]; omega, fun j => ?_⟩, ⟨by rw [List.length_drop]; omega, fun j => ?_⟩⟩
  · by_cases q : j < a.length
    · have := hj j
      rw [List.getElem?_append_left q] at this
      rw [List.getElem?_take_of_lt q]
      exact this
    · exact .inl (by rw [List.getElem?_eq_none (by rw [List.length_take]; omega), List.getElem?_eq_none (by omega)])
  · have := hj (a.length + j)
    rw [List.getElem?_append_right (by omega), Nat.add_sub_cancel_left] at this
    rw [List.getElem?_drop]
    exact this
theorem noDup_ok : ∀ {ks : List Str}, noDup ks = true → ks.Nodup
  | [], _ => List.nodup_nil
  | k :: r, h => by
    unfold noDup at h
    simp only [Bool.and_eq_true, Bool.not_eq_true'] at h
    refine List.nodup_cons.mpr ⟨fun z => ?_, noDup_ok h.2⟩
    have q : r.contains k = true := by simpa using z
    rw [q] at h
    exact absurd h.1 (by decide)
theorem map_key_len {a b : List Src} (h : a.map Src.key = b.map Src.key) : a.length = b.length := by
  have := congrArg List.length h
  simpa using this
theorem sim_call (lk : Lk c X Y Γ k) {f : Str} {id : Nat} {fi : FI} {es : List Expr} {kws : List Keyword} {xs : List E} {zs : List (Str × E)} {srcs : List Src} {l : List (Nat × Nat × Nat)} {p pos : Pos} (hg : globB c.sc f = true) (hd : (f == ("__debug__" : Str)) = false) (hf : c.globs.lookup f = some (.fn id)) (hfi : c.fis[id]? = some fi)
    (sl : SimL X Y Γ es xs) (sk : SimK X Y Γ kws zs) (hn : xs.length ≤ fi.npos) (hk : allIn (zs.map Prod.fst) (fi.ps.drop xs.length) = true) (nd : noDup (zs.map Prod.fst) = true) (hs : srcsOf xs.length (zs.map Prod.fst) 0 fi.ps fi.dfl = some srcs) (hl : lendOf (xs ++ zs.map Prod.snd) srcs fi.outs = some l)
    (hc : callOk fi (lendE l (xs ++ zs.map Prod.snd)) srcs (lendS l srcs) = true) : Sim X Y Γ (.Call (.Name f p) es kws pos) (.call id (lendE l (xs ++ zs.map Prod.snd)) (lendS l srcs)) := by
  obtain ⟨fa, dv, cal, hdv⟩ := lk.fnc _ _ _ hf hfi
  have rp : Rep (xs ++ zs.map Prod.snd) (lendE l (xs ++ zs.map Prod.snd)) := lend_rep l _ ⟨rfl, fun j => .inl rfl⟩ (lendOf_ok hl)
  obtain ⟨rp1, rp2⟩ := rep_split rp
  obtain ⟨k1, k2, k3⟩ := sk.facts pos
  unfold callOk at hc
  simp only [Bool.and_eq_true, decide_eq_true_eq] at hc
  obtain ⟨⟨c1, c2⟩, c3⟩ := hc
  have pass : Passes CX0 X (fun C a H => Y.xc [] C a H) := fun _ _ _ _ _ _ _ z => z.elim
  have hkk : ∀ y ∈ zs.map Prod.fst, y ∈ fi.ps.drop xs.length := fun y hy => by
    unfold allIn at hk
    have := List.all_eq_true.mp hk y hy
    simpa using this
  obtain ⟨sl0, sg⟩ := srcs_get hs
  have hlen : (lendS l srcs).length = fi.ps.length := by rw [map_key_len c3, sl0]
  have dfl : ∀ (j : Nat) (d : D), (lendS l srcs)[j]? = some (.d d) → ∃ v, dv j = some v ∧ ∀ F H, Den Y.K F H v d none0 := fun j d e => by
    have e := lendS_d l srcs j e
    have hj : j < fi.ps.length := by rw [← sl0]; exact (List.getElem?_eq_some_iff.mp e).1
    rcases sg j _ (List.getElem?_eq_getElem hj) with ⟨_, q⟩ | ⟨_, i, _, q⟩ | ⟨_, _, d', hd', q⟩
    · rw [e] at q; cases q
    · rw [e] at q; cases q
    · rw [e] at q; cases q; exact hdv j _ hd'
  have im : ∀ σ H Q, tE Y Γ (.call id (lendE l (xs ++ zs.map Prod.snd)) (lendS l srcs)) σ H Q → tCallM (spF Y.K Y.cl Γ id fi.ps.length fi.outs) dv srcs xs.length (zs.map Prod.fst).length (fun C a H => Y.xc [] C a H) (tAs Y Γ ((lendE l (xs ++ zs.map Prod.snd)).take xs.length)) (tAs Y Γ ((lendE l (xs ++ zs.map Prod.snd)).drop xs.length)) σ H Q := fun σ H Q h => by
    have h1 := e_call (E := fun C a H => Y.xc [] C a H) (fun C a H z => lk.xcc _ _ _ _ _ z) c1 c2 hlen dfl h
    refine tAs_imp (tAs_split xs.length h1) fun vs H1 l1 h2 => tAs_imp h2 fun zv H2 l2 h3 => ?_
    obtain ⟨vf, s1, s2⟩ := h3
    refine ⟨by rw [l1, rp1.1], by rw [l2, rp2.1]; simp, vf, ?_, ?_, s2⟩
    · rw [← s1]
      exact selO_key c3.symm
    · rw [selO_len s1, map_key_len c3]
  have pe : PE X (.Call (.Name f p) es kws pos) (tE Y Γ (.call id (lendE l (xs ++ zs.map Prod.snd)) (lendS l srcs))) := by
    cases sl with
    | nil =>
      exact PE.imp (pe_callM0 cal lk.room lk.gd (glob_gl lk hg) pass hs hkk (noDup_ok nd) (pkA sk rp2) k1 k2 hd (by rw [k3]; rfl)) fun σ H Q h => im σ H Q h
    | @cons a0 x0 es0 xs0 s r =>
      have sl := SimL.cons s r
      exact PE.imp (pe_callM cal lk.room lk.gd (glob_gl lk hg) pass hs hn hkk (noDup_ok nd) (paA sl rp1) (pkA sk rp2) k1 k2 hd (s.st _ _) (by rw [k3, pl_of sl]; rfl)) im
  exact Sim.of pe (pt_dflt lk pe (fun _ => rfl) (evT_dflt (fun _ z => by cases z) (fun _ _ z => by cases z) (fun _ _ z => by cases z) fun _ _ _ z => by cases z)) fun i z => by cases z
/-! ### what is walked -/
theorem pi_imp {tg a : Expr} {wi wi' : TI} (h : PI X tg a wi) (i : ∀ σ H R, wi' σ H R → wi σ H R) : PI X tg a wi' := ⟨fun pins s σ H R I hw => h.run pins s σ H R I (i _ _ _ hw)⟩
theorem tVs_mono : ∀ {xs : List E} {σ : L2.St} {H : Hp} {Q Q' : List V → Hp → Prop}, tVs Y Γ xs σ H Q → (∀ vs H', Q vs H' → Q' vs H') → tVs Y Γ xs σ H Q'
  | [], σ, H, Q, Q', h, hq => hq _ _ h
  | x :: xs, σ, H, Q, Q', h, hq => by
    show tV Y Γ x σ H fun v H1 => tVs Y Γ xs σ H1 fun vs H2 => Q' (v :: vs) H2
    exact tM_mono h fun v H1 h => tVs_mono h fun vs H2 q => hq _ _ q
theorem tVs_len : ∀ {xs : List E} {σ : L2.St} {H : Hp} {Q : List V → Hp → Prop}, tVs Y Γ xs σ H Q → tVs Y Γ xs σ H fun vs H' => vs.length = xs.length ∧ Q vs H'
  | [], σ, H, Q, h => ⟨rfl, h⟩
  | x :: xs, σ, H, Q, h => by
    show tV Y Γ x σ H fun v H1 => tVs Y Γ xs σ H1 fun vs H2 => (v :: vs).length = (x :: xs).length ∧ Q (v :: vs) H2
    refine tM_mono h fun v H1 h => tVs_mono (tVs_len h) fun vs H2 ⟨a, b⟩ => ⟨by simp [a], b⟩
theorem sim_itr (lk : Lk c X Y Γ k) {f : Str} {o : Op} {es : List Expr} {xs : List E} {m : Nat} {tg : Expr} {p pos : Pos} (sl : SimL X Y Γ es xs) (ho : itO f es.length = some o) (hf : freeG c f = true) (hm : itM m o = true) (ht : m = 1 → isTup tg = true) : PI X tg (.Call (.Name f p) es [] pos) (tI Y Γ (.itr o xs)) := by
  have tup : o ≠ .range → isTup tg = true := fun hr => by
    unfold itM at hm
    by_cases q : m = 1
    · exact ht q
    · have : (m == 1) = false := by simpa using q
      rw [this, Bool.false_or, Bool.and_eq_true] at hm
      exact absurd (by simpa using hm.2) hr
  have hs := sl.length
  have pa := paV sl
  unfold itO at ho
  split at ho
  · rename_i q; subst q
    obtain ⟨g, mm⟩ := freeG_inv lk hf (by decide)
    split at ho
    · cases ho
      cases sl with
      | nil => rename_i q; simp at q
      | @cons a0 x0 es0 xs0 s r =>
        cases r with
        | nil =>
          refine pi_imp (pi_range1 g mm pa (s.st _ _)) fun σ H R h => ?_
          refine tVs_mono (tVs_len (i_itr h fun vs H1 hr => hr)) fun vs H1 ⟨hl, hr⟩ => ?_
          rcases r_range hr with z | ⟨i, j, e, _⟩
          · exact z
          · rw [e] at hl; simp at hl
        | @cons a1 x1 es1 xs1 s1 r1 =>
          cases r1 with
          | nil =>
            refine pi_imp (pi_range2 g mm pa (by rw [s.st, s1.st]; rfl) (s1.st _ _)) fun σ H R h => ?_
            refine tVs_mono (tVs_len (i_itr h fun vs H1 hr => hr)) fun vs H1 ⟨hl, hr⟩ => ?_
            rcases r_range hr with ⟨j, e, _⟩ | z
            · rw [e] at hl; simp at hl
            · exact z
          | cons s2 r2 => rename_i q; simp at q
    · cases ho
  split at ho
  · rename_i q; subst q
    obtain ⟨g, mm⟩ := freeG_inv lk hf (by decide)
    split at ho
    · rename_i hq
      cases ho
      have ht2 := tup (by decide)
      cases tg with
      | Tuple elts kk tp =>
        cases sl with
        | nil => simp at hq
        | @cons a0 x0 es0 xs0 s r =>
          cases r with
          | nil => simp at hq
          | @cons a1 x1 es1 xs1 s1 r1 =>
            cases r1 with
            | nil =>
              have r := RZ.pi_zipA (kk := kk) (tpos := tp) (elts := elts) (p := p) (pos := pos) g mm pa (s.st _ _) (by rw [s1.st]; rfl)
              rw [lk.K] at r
              refine pi_imp r fun σ H R h => ?_
              exact i_itr h fun vs H1 hr => r_zip hr
            | cons s2 r2 => simp at hq
      | _ => cases ht2
    · cases ho
  split at ho
  · rename_i q; subst q
    obtain ⟨g, mm⟩ := freeG_inv lk hf (by decide)
    split at ho
    · rename_i hq
      cases ho
      have ht2 := tup (by decide)
      cases tg with
      | Tuple elts kk tp =>
        cases sl with
        | nil => simp at hq
        | @cons a0 x0 es0 xs0 s r =>
          cases r with
          | nil =>
            have r := pi_enum (kk := kk) (tpos := tp) (elts := elts) (p := p) (pos := pos) g mm pa (s.st _ _)
            rw [lk.K] at r
            refine pi_imp r fun σ H R h => ?_
            exact i_itr h fun vs H1 hr => r_enum hr
          | cons s1 r1 => simp at hq
      | _ => cases ht2
    · cases ho
  · cases ho
end
end MP

end
section
set_option Elab.async false
set_option linter.all false
set_option maxRecDepth 100000
set_option maxHeartbeats 4000000
/-! MP25: comprehensions; every expression. -/
namespace MP
open PySem PySem.Spec PyProof.Rows L2

section
variable {X : Cx} {Y : Ct} {Γ : Fns} {c : Cc} {k : Nat}
theorem Lk.blk (lk : Lk c X Y Γ k) {sc : Scope} {own : List (Str × Nat)} (ok : blkC c.N c.sc sc own = true) (s : Shared) (H : Hp) (C : Addr) (cl : List (Str × Addr)) (fp : List Addr) :
    Lk { c with sc := relS sc c.sc, bsc := some sc } (X.blk s H sc (compEnvC sc cl C X.env) fp) Y.nox Γ k where
  N := lk.N
  nd := lk.nd
  sc := by show relS sc X.env.scope = relS sc c.sc; rw [lk.sc]
  kind := (blkOk_by ok).kind
  K := lk.K
  calm := lk.calm
  room := lk.room
  gd := lk.gd
  fn := fun x h => h
  con := lk.con
  fnc := fun x id fi h1 h2 => by
    obtain ⟨f, dv, cal, hd⟩ := lk.fnc x id fi h1 h2
    exact ⟨f, dv, ⟨cal.ex, cal.mg, cal.dfl⟩, hd⟩
  blt := lk.blt
  xcc := fun _ _ _ _ _ h => h
theorem sim_lc (lk : Lk c X Y Γ k) {elt tg iter : Expr} {ifs : List Expr} {sc : Scope} {own : List (Str × Nat)} {t : Tg} {it kk e : E} {pos : Pos} (ok : blkC c.N c.sc sc own = true) (hi : PI X tg iter (tI Y Γ it)) (hs : ∀ x, foldedSetIterable iter X.env x = pure x)
    (ht : cT { c with sc := relS sc c.sc, bsc := some sc } tg = some t) (hk : ∀ X' Y', Lk { c with sc := relS sc c.sc, bsc := some sc } X' Y' Γ k → PTs X' ifs (tT Y' Γ kk)) (he : ∀ X' Y', Lk { c with sc := relS sc c.sc, bsc := some sc } X' Y' Γ k → Sim X' Y' Γ elt e)
    (hin : (tgN t).all (fun j => (own.map Prod.snd).contains j) = true) : Sim X Y Γ (.ListComp elt [⟨tg, iter, ifs, 0⟩] sc pos) (.lc (own.map Prod.snd) t it kk e) := by
  have bo : BlkOk X.N X.env.scope sc own := by rw [lk.N, lk.sc]; exact blkOk_by ok
  have hsub : ∀ j ∈ tgN t, j ∈ own.map Prod.snd := fun j hj => by simpa using List.all_eq_true.mp hin j hj
  have pe : PE X (.ListComp elt [⟨tg, iter, ifs, 0⟩] sc pos) (tE Y Γ (.lc (own.map Prod.snd) t it kk e)) :=
    PE.imp (pe_lc lk.calm lk.nd hi bo (fun s H C cl fp => (simT (lk.blk ok s H C cl fp) tg ht).1) (fun s H C cl fp => hk _ _ (lk.blk ok s H C cl fp)) (fun s H C cl fp => pe_v (he _ _ (lk.blk ok s H C cl fp)).pe) hs) fun σ H Q h => e_lc hsub h
  exact Sim.of pe (pt_dflt lk pe (fun _ => rfl) (evT_dflt (fun _ z => by cases z) (fun _ _ z => by cases z) (fun _ _ z => by cases z) fun _ _ _ z => by cases z)) fun i z => by cases z
/-- an expression, by the mode -/
def SimM (X : Cx) (Y : Ct) (Γ : Fns) (m : Nat) (a : Expr) (e : E) : Prop := Sim X Y Γ a e ∨ ((m = 1 ∨ m = 2) ∧ (∀ tg, (m = 1 → isTup tg = true) → PI X tg a (tI Y Γ e)) ∧ ∀ env x, foldedSetIterable a env x = pure x)
theorem SimM.zero {a : Expr} {e : E} (h : SimM X Y Γ 0 a e) : Sim X Y Γ a e := h.elim id fun z => by rcases z.1 with q | q <;> cases q
theorem SimM.three {a : Expr} {e : E} (h : SimM X Y Γ 3 a e) : Sim X Y Γ a e := h.elim id fun z => by rcases z.1 with q | q <;> cases q
theorem SimM.pi {m : Nat} {a tg : Expr} {e : E} (lk : Lk c X Y Γ k) (h : SimM X Y Γ m a e) (ht : m = 1 → isTup tg = true) : PI X tg a (tI Y Γ e) ∧ ∀ env x, foldedSetIterable a env x = pure x := by
  rcases h with h | ⟨_, h, f⟩
  · exact ⟨pi_val h.pe lk.K, h.fo⟩
  · exact ⟨h tg ht, f⟩
theorem sub_ix {x i : E} (h : ∀ o es, i ≠ .itr o es) : subE x i = .op .ix [x, i] := by
  unfold subE
  split
  · exact absurd rfl (h _ _)
  · rfl
def isSl : Expr → Bool
  | .Slice .. => true
  | _ => false
theorem callE_inv {f : Str} {xs : List E} {zs : List (Str × E)} {e : E} (h : callE c f xs zs = some e) : globB c.sc f = true ∧ badName f = false ∧
    ((∃ id fi srcs l, c.globs.lookup f = some (.fn id) ∧ c.fis[id]? = some fi ∧ xs.length ≤ fi.npos ∧ allIn (zs.map Prod.fst) (fi.ps.drop xs.length) = true ∧ noDup (zs.map Prod.fst) = true ∧ srcsOf xs.length (zs.map Prod.fst) 0 fi.ps fi.dfl = some srcs ∧ lendOf (xs ++ zs.map Prod.snd) srcs fi.outs = some l ∧
      callOk fi (lendE l (xs ++ zs.map Prod.snd)) srcs (lendS l srcs) = true ∧ e = .call id (lendE l (xs ++ zs.map Prod.snd)) (lendS l srcs)) ∨ (c.globs.lookup f = none ∧ zs = [] ∧ ∃ o, bltO f xs.length = some o ∧ e = .op o xs)) := by
  unfold callE at h
  split at h
  · rename_i q
    rw [Bool.and_eq_true] at q
    refine ⟨q.1, by simpa using q.2, ?_⟩
    split at h
    · rename_i id hid
      split at h
      · rename_i fi hfi
        split at h
        · rename_i hc
          simp only [Bool.and_eq_true, decide_eq_true_eq] at hc
          obtain ⟨srcs, h1, h⟩ := Option.bind_eq_some_iff.mp h
          obtain ⟨l, h2, h⟩ := Option.bind_eq_some_iff.mp h
          split at h
          · rename_i hok
            cases h
            exact .inl ⟨id, fi, srcs, l, hid, hfi, hc.1.1, hc.1.2, hc.2, h1, h2, hok, rfl⟩
          · cases h
        · cases h
      · cases h
    · cases h
    · rename_i hn
      split at h
      · obtain ⟨o, ho, rfl⟩ := Option.map_eq_some_iff.mp h
        exact .inr ⟨hn, rfl, o, ho, rfl⟩
      · cases h
  · cases h
theorem sim_callE (lk : Lk c X Y Γ k) {f : Str} {es : List Expr} {kws : List Keyword} {xs : List E} {zs : List (Str × E)} {e : E} {p pos : Pos} (sl : SimL X Y Γ es xs) (sk : SimK X Y Γ kws zs) (h : callE c f xs zs = some e) : Sim X Y Γ (.Call (.Name f p) es kws pos) e := by
  obtain ⟨hg, hb, h⟩ := callE_inv h
  rcases h with ⟨id, fi, srcs, l, h1, h2, h3, h4, h5, h6, h7, h8, rfl⟩ | ⟨h1, rfl, o, h2, rfl⟩
  · exact sim_call lk hg (bad_dbg hb).1 h1 h2 sl sk h3 h4 h5 h6 h7 h8
  · cases sk
    exact sim_blt lk sl hg h1 h2
mutual
theorem simE : ∀ (a : Expr) {c : Cc} {X : Cx} {Y : Ct} {m : Nat} {e : E}, Lk c X Y Γ k → (m = 3 → isSl a = false) → cE c m a = some e → SimM X Y Γ m a e
  | .Constant kc j pos, c, X, Y, m, e, lk, hm, h => by
    rw [cE] at h
    obtain ⟨d, hd, rfl⟩ := Option.map_eq_some_iff.mp h
    exact .inl (sim_const lk hd)
  | .Name x pos, c, X, Y, m, e, lk, hm, h => by
    rw [cE] at h
    exact .inl (sim_name lk h)
  | .BinOp a o b pos, c, X, Y, m, e, lk, hm, h => by
    rw [cE] at h
    obtain ⟨x, hx, h⟩ := Option.bind_eq_some_iff.mp h
    obtain ⟨y, hy, h⟩ := Option.bind_eq_some_iff.mp h
    obtain ⟨op, ho, rfl⟩ := Option.map_eq_some_iff.mp h
    exact .inl (sim_bin lk ho (simE a lk (fun z => by cases z) hx).zero (simE b lk (fun z => by cases z) hy).zero)
  | .UnaryOp o a pos, c, X, Y, m, e, lk, hm, h => by
    rw [cE] at h
    obtain ⟨x, hx, h⟩ := Option.bind_eq_some_iff.mp h
    have sa := (simE a lk (fun z => by cases z) hx).zero
    unfold unE at h
    split at h
    · cases h; exact .inl (sim_neg lk sa)
    · cases h; exact .inl (sim_not lk sa)
    · cases h
  | .BoolOp o es pos, c, X, Y, m, e, lk, hm, h => by
    rw [cE] at h
    obtain ⟨xs, hx, h⟩ := Option.bind_eq_some_iff.mp h
    exact .inl (sim_bool lk (simEs es lk hx) h)
  | .IfExp t a b pos, c, X, Y, m, e, lk, hm, h => by
    rw [cE] at h
    obtain ⟨x, hx, h⟩ := Option.bind_eq_some_iff.mp h
    obtain ⟨y, hy, h⟩ := Option.bind_eq_some_iff.mp h
    obtain ⟨z, hz, rfl⟩ := Option.map_eq_some_iff.mp h
    exact .inl (sim_ite lk (simE t lk (fun z => by cases z) hx).zero (simE a lk (fun z => by cases z) hy).zero (simE b lk (fun z => by cases z) hz).zero)
  | .Compare a os bs pos, c, X, Y, m, e, lk, hm, h => by
    rw [cE] at h
    obtain ⟨x, hx, h⟩ := Option.bind_eq_some_iff.mp h
    obtain ⟨ys, hy, h⟩ := Option.bind_eq_some_iff.mp h
    exact .inl (sim_cmp lk (simE a lk (fun z => by cases z) hx).zero (simEs bs lk hy) h)
  | .Tuple es j pos, c, X, Y, m, e, lk, hm, h => by
    rw [cE] at h
    obtain ⟨xs, hx, rfl⟩ := Option.map_eq_some_iff.mp h
    exact .inl (sim_tup lk (simEs es lk hx))
  | .List es pos, c, X, Y, m, e, lk, hm, h => by
    rw [cE] at h
    obtain ⟨xs, hx, rfl⟩ := Option.map_eq_some_iff.mp h
    exact .inl (sim_lst lk (simEs es lk hx))
  | .Subscript a b pos, c, X, Y, m, e, lk, hm, h => by
    rw [cE] at h
    obtain ⟨x, hx, h⟩ := Option.bind_eq_some_iff.mp h
    obtain ⟨i, hi', rfl⟩ := Option.map_eq_some_iff.mp h
    by_cases hs : isSl b = true
    · cases b with
      | Slice lo hi st sp =>
        rw [cE] at hi'
        split at hi'
        · rename_i q
          obtain ⟨l, hl, hi'⟩ := Option.bind_eq_some_iff.mp hi'
          obtain ⟨u, hu, rfl⟩ := Option.map_eq_some_iff.mp hi'
          have st0 : st = none := by simpa using q
          subst st0
          exact .inl (sim_sl lk (simE a lk (fun z => by cases z) hx).zero (simO lo lk hl) (simO hi lk hu))
        · cases hi'
      | _ => cases hs
    · have sb := (simE b lk (fun _ => by simpa using hs) hi').three
      rw [sub_ix sb.nit]
      exact .inl (sim_ix lk (simE a lk (fun z => by cases z) hx).zero sb)
  | .Call (.Name f p) es ks pos, c, X, Y, m, e, lk, hm, h => by
    by_cases hf : f = ("isinstance" : Str)
    · subst hf
      by_cases hes : ∃ a t, es = [a, t]
      · obtain ⟨a, t, rfl⟩ := hes
        rw [cE, if_pos rfl] at h
        split at h
        · rename_i q
          rw [Bool.and_eq_true] at q
          obtain ⟨x, hx, h⟩ := Option.bind_eq_some_iff.mp h
          have : ks = [] := by simpa using q.1
          subst this
          exact .inl (sim_isi lk (simE a lk (fun z => by cases z) hx).zero q.2 h)
        · cases h
      · rw [cE, if_pos rfl] at h
        · cases h
        · exact fun a t z => hes ⟨a, t, z⟩
    · have h2 : ((cEs c es).bind fun xs => (cKs c ks).bind fun zs => match itO f es.length with
          | some o => if freeG c f && ks.isEmpty then (if itM m o then some (.itr o xs) else none) else callE c f xs zs
          | none => callE c f xs zs) = some e := by
        by_cases hes : ∃ a t, es = [a, t]
        · obtain ⟨a, t, rfl⟩ := hes
          rw [cE, if_neg hf] at h
          exact h
        · rw [cE, if_neg hf] at h
          · exact h
          · exact fun a t z => hes ⟨a, t, z⟩
      obtain ⟨xs, hx, h2⟩ := Option.bind_eq_some_iff.mp h2
      obtain ⟨zs, hz, h2⟩ := Option.bind_eq_some_iff.mp h2
      have sl := simEs es lk hx
      have sk := simKs ks lk hz
      split at h2
      · rename_i o ho
        split at h2
        · rename_i q
          rw [Bool.and_eq_true] at q
          split at h2
          · rename_i hit
            cases h2
            have : ks = [] := by simpa using q.2
            subst this
            refine .inr ⟨?_, fun tg ht => sim_itr lk sl ho q.1 hit ht, fun _ _ => rfl⟩
            unfold itM at hit
            simp only [Bool.or_eq_true, Bool.and_eq_true, beq_iff_eq] at hit
            rcases hit with z | z
            · exact .inl z
            · exact .inr z.1
          · cases h2
        · exact .inl (sim_callE lk sl sk h2)
      · exact .inl (sim_callE lk sl sk h2)
  | .Call (.Attribute a mm ap) es ks cp, c, X, Y, m, e, lk, hm, h => by
    cases a with
    | Name x p1 =>
      rw [cE] at h
      split at h
      · rename_i q
        simp only [Bool.and_eq_true] at q
        obtain ⟨i, hi, h⟩ := Option.bind_eq_some_iff.mp h
        obtain ⟨xs, hx, h⟩ := Option.bind_eq_some_iff.mp h
        obtain ⟨o, ho, rfl⟩ := Option.map_eq_some_iff.mp h
        have : ks = [] := by simpa using q.1.1
        subst this
        exact .inl (sim_mtd lk hi (simEs es lk hx) ho q.1.2)
      · cases h
    | _ => simp [cE] at h
  | .ListComp elt [⟨tg, iter, ifs, as⟩] sc pos, c, X, Y, m, e, lk, hm, h => by
    by_cases has : as = 0
    case neg =>
      rw [cE] at h
      · cases h
      · intro a b d z
        simp only [List.cons.injEq, Comprehension.mk.injEq, and_true] at z
        exact has z.2.2.2
    subst has
    rw [cE] at h
    obtain ⟨it, hit, h⟩ := Option.bind_eq_some_iff.mp h
    obtain ⟨own, hown, h⟩ := Option.bind_eq_some_iff.mp h
    split at h
    · rename_i ok
      obtain ⟨t, ht, h⟩ := Option.bind_eq_some_iff.mp h
      obtain ⟨ks, hks, h⟩ := Option.bind_eq_some_iff.mp h
      obtain ⟨kk, hkk, h⟩ := Option.bind_eq_some_iff.mp h
      obtain ⟨x, hx, h⟩ := Option.bind_eq_some_iff.mp h
      split at h
      · rename_i hin
        cases h
        have hmode : ((if isTup tg then 1 else 2 : Nat) = 3 → isSl iter = false) := fun z => by split at z <;> cases z
        have si := (simE iter lk hmode hit).pi (tg := tg) lk fun z => by
          split at z
          · assumption
          · cases z
        refine .inl (sim_lc lk ok si.1 (fun x => si.2 _ x) ht (fun X' Y' lk' => ?_) (fun X' Y' lk' => (simE elt lk' (fun z => by cases z) hx).zero) hin)
        have sl := simEs ifs lk' hks
        split at hkk
        · cases hkk
          cases sl
          exact ⟨fun pins s σ H Q I h => pts_nil.run pins s σ H Q I (t_yes h)⟩
        · cases hkk
          cases sl with
          | cons s r => cases r; exact pts_one s.pt
        · cases hkk
      · cases h
    · cases h
  | .ListComp elt [] sc pos, c, X, Y, m, e, lk, hm, h => by simp [cE] at h
  | .ListComp elt (g1 :: g2 :: gs) sc pos, c, X, Y, m, e, lk, hm, h => by simp [cE] at h
  | .Slice lo hi st sp, c, X, Y, m, e, lk, hm, h => by
    rw [cE] at h
    split at h
    · rename_i q
      rw [Bool.and_eq_true] at q
      have := hm (by simpa using q.1)
      cases this
    · cases h
  | .Call (.BoolOp ..) es ks cp, c, X, Y, m, e, lk, hm, h => by simp [cE] at h
  | .Call (.NamedExpr ..) es ks cp, c, X, Y, m, e, lk, hm, h => by simp [cE] at h
  | .Call (.BinOp ..) es ks cp, c, X, Y, m, e, lk, hm, h => by simp [cE] at h
  | .Call (.UnaryOp ..) es ks cp, c, X, Y, m, e, lk, hm, h => by simp [cE] at h
  | .Call (.Lambda ..) es ks cp, c, X, Y, m, e, lk, hm, h => by simp [cE] at h
  | .Call (.IfExp ..) es ks cp, c, X, Y, m, e, lk, hm, h => by simp [cE] at h
  | .Call (.Dict ..) es ks cp, c, X, Y, m, e, lk, hm, h => by simp [cE] at h
  | .Call (.Set ..) es ks cp, c, X, Y, m, e, lk, hm, h => by simp [cE] at h
  | .Call (.ListComp ..) es ks cp, c, X, Y, m, e, lk, hm, h => by simp [cE] at h
  | .Call (.SetComp ..) es ks cp, c, X, Y, m, e, lk, hm, h => by simp [cE] at h
  | .Call (.DictComp ..) es ks cp, c, X, Y, m, e, lk, hm, h => by simp [cE] at h
  | .Call (.GeneratorExp ..) es ks cp, c, X, Y, m, e, lk, hm, h => by simp [cE] at h
  | .Call (.Await ..) es ks cp, c, X, Y, m, e, lk, hm, h => by simp [cE] at h
  | .Call (.Yield ..) es ks cp, c, X, Y, m, e, lk, hm, h => by simp [cE] at h
  | .Call (.YieldFrom ..) es ks cp, c, X, Y, m, e, lk, hm, h => by simp [cE] at h
  | .Call (.Compare ..) es ks cp, c, X, Y, m, e, lk, hm, h => by simp [cE] at h
  | .Call (.Call ..) es ks cp, c, X, Y, m, e, lk, hm, h => by simp [cE] at h
  | .Call (.FormattedValue ..) es ks cp, c, X, Y, m, e, lk, hm, h => by simp [cE] at h
  | .Call (.JoinedStr ..) es ks cp, c, X, Y, m, e, lk, hm, h => by simp [cE] at h
  | .Call (.Constant ..) es ks cp, c, X, Y, m, e, lk, hm, h => by simp [cE] at h
  | .Call (.Subscript ..) es ks cp, c, X, Y, m, e, lk, hm, h => by simp [cE] at h
  | .Call (.Starred ..) es ks cp, c, X, Y, m, e, lk, hm, h => by simp [cE] at h
  | .Call (.List ..) es ks cp, c, X, Y, m, e, lk, hm, h => by simp [cE] at h
  | .Call (.Tuple ..) es ks cp, c, X, Y, m, e, lk, hm, h => by simp [cE] at h
  | .Call (.Slice ..) es ks cp, c, X, Y, m, e, lk, hm, h => by simp [cE] at h
  | .NamedExpr .., c, X, Y, m, e, lk, hm, h => by simp [cE] at h
  | .Lambda .., c, X, Y, m, e, lk, hm, h => by simp [cE] at h
  | .Dict .., c, X, Y, m, e, lk, hm, h => by simp [cE] at h
  | .Set .., c, X, Y, m, e, lk, hm, h => by simp [cE] at h
  | .SetComp .., c, X, Y, m, e, lk, hm, h => by simp [cE] at h
  | .DictComp .., c, X, Y, m, e, lk, hm, h => by simp [cE] at h
  | .GeneratorExp .., c, X, Y, m, e, lk, hm, h => by simp [cE] at h
  | .Await .., c, X, Y, m, e, lk, hm, h => by simp [cE] at h
  | .Yield .., c, X, Y, m, e, lk, hm, h => by simp [cE] at h
  | .YieldFrom .., c, X, Y, m, e, lk, hm, h => by simp [cE] at h
  | .FormattedValue .., c, X, Y, m, e, lk, hm, h => by simp [cE] at h
  | .JoinedStr .., c, X, Y, m, e, lk, hm, h => by simp [cE] at h
  | .Attribute .., c, X, Y, m, e, lk, hm, h => by simp [cE] at h
  | .Starred .., c, X, Y, m, e, lk, hm, h => by simp [cE] at h
theorem simEs : ∀ (es : List Expr) {c : Cc} {X : Cx} {Y : Ct} {xs : List E}, Lk c X Y Γ k → cEs c es = some xs → SimL X Y Γ es xs
  | [], c, X, Y, xs, lk, h => by rw [cEs] at h; cases h; exact .nil
  | a :: es, c, X, Y, xs, lk, h => by
    rw [cEs] at h
    obtain ⟨x, hx, h⟩ := Option.bind_eq_some_iff.mp h
    obtain ⟨r, hr, rfl⟩ := Option.map_eq_some_iff.mp h
    exact .cons (simE a lk (fun z => by cases z) hx).zero (simEs es lk hr)
theorem simO : ∀ (o : Option Expr) {c : Cc} {X : Cx} {Y : Ct} {l : E}, Lk c X Y Γ k → cO c o = some l → SimO X Y Γ o l
  | none, c, X, Y, l, lk, h => by rw [cO] at h; cases h; exact simO_none
  | some a, c, X, Y, l, lk, h => by
    rw [cO] at h
    obtain ⟨x, hx, rfl⟩ := Option.map_eq_some_iff.mp h
    exact simO_some (simE a lk (fun z => by cases z) hx).zero
theorem simKs : ∀ (ks : List Keyword) {c : Cc} {X : Cx} {Y : Ct} {zs : List (Str × E)}, Lk c X Y Γ k → cKs c ks = some zs → SimK X Y Γ ks zs
  | [], c, X, Y, zs, lk, h => by rw [cKs] at h; cases h; exact .nil
  | ⟨some n, a, p⟩ :: r, c, X, Y, zs, lk, h => by
    rw [cKs] at h
    obtain ⟨x, hx, h⟩ := Option.bind_eq_some_iff.mp h
    obtain ⟨q, hq, rfl⟩ := Option.map_eq_some_iff.mp h
    exact .cons (simE a lk (fun z => by cases z) hx).zero (simKs r lk hq)
  | ⟨none, a, p⟩ :: r, c, X, Y, zs, lk, h => by rw [cKs] at h; cases h
end
end
end MP

end
section
set_option Elab.async false
set_option linter.all false
set_option maxRecDepth 100000
set_option maxHeartbeats 4000000
/-! MP26: statements. -/
namespace MP
open PySem PySem.Spec PyProof.Rows L2

section
variable {X : Cx} {Y : Ct} {Γ : Fns} {c : Cc} {k : Nat} {outs : List Nat}
theorem blk_fn {env : Env} (h : env.scope.kind = .function) : env.blockKind = .function := by
  unfold Env.blockKind
  rw [h]
  rfl
theorem swaps_no {e : Expr} {m : Nat} {x : E} (h : cE c m e = some x) (hl : isLc e = false) (t : Option Expr) (l : Nat) (env : Env) : swapsWith e t l env = pure false := by
  cases e <;> first
    | rfl
    | (simp [cE] at h; done)
    | (cases hl)
/-- the condition under which a comprehension's list goes straight into its name -/
def goesTo (sc : Scope) (y : Str) (py : Pos) (cs : Scope) (p : Pos) : Bool := (sc.names.lookup y == some .local) && (py.line == p.line) && !(cs.names.any fun (n, k) => n == y && (k == .local || k == .cell))
theorem swaps_lc {elt : Expr} {gs : List Comprehension} {cs : Scope} {p py : Pos} {y : Str} {l : Nat} {env : Env} (hk : env.scope.kind = .function) : swapsWith (.ListComp elt gs cs p) (some (.Name y py)) l env = pure (goesTo env.scope y py cs p) := by
  have hb := blk_fn hk
  unfold swapsWith goesTo
  simp only [hb, Expr.pos]
  show pure _ = pure _
  congr 1
theorem swaps_other {elt : Expr} {gs : List Comprehension} {cs : Scope} {p : Pos} {t : Expr} {l : Nat} {env : Env} (h : ∀ y py, t ≠ .Name y py) : swapsWith (.ListComp elt gs cs p) (some t) l env = pure false := by
  unfold swapsWith
  cases t <;> first
    | rfl
    | exact absurd rfl (h _ _)
theorem sw_false {t e : Expr} {env : Env} (h : swO env.scope t e = some false) : swappedStores [t] e env = pure none := by
  unfold swO at h
  split at h
  · rename_i ts j p vs j2 p2
    split at h
    · rename_i q
      have q2 : (!(ts.length == 2 || ts.length == 3) || vs.length != ts.length || env.blockKind != .function) = true := by rw [q]; rfl
      unfold swappedStores
      simp only [q2, if_true]
    · split at h
      · split at h <;> cases h
      · cases h
  · cases h
  · rename_i h1 h2
    cases t <;> first
      | rfl
      | (exfalso; exact h1 _ _ rfl)
      | (cases e <;> first
          | rfl
          | (exfalso; exact h2 _ _ _ _ _ _ rfl rfl))
theorem sw_two {x y : Str} {px py pt p2 : Pos} {a b : Expr} {kt k2 : Nat} {env : Env} (hk : env.scope.kind = .function) (h : swTwo env.scope x y px py a b = true) :
    swappedStores [.Tuple [.Name x px, .Name y py] kt pt] (.Tuple [a, b] k2 p2) env = pure (some [x, y]) := by
  unfold swTwo at h
  simp only [Bool.and_eq_true, Bool.not_eq_true'] at h
  obtain ⟨⟨⟨⟨⟨⟨⟨h1, h2⟩, h3⟩, h4⟩, h5⟩, h6⟩, h7⟩, h8⟩ := h
  have hb := blk_fn hk
  unfold swappedStores
  have l2 : ([Expr.Name x px, Expr.Name y py].length == 2) = true := rfl
  simp only [hb, List.length_cons, List.length_nil, List.any_cons, List.any_nil, h7, h8, h1, h2, Env.kindOf, List.filterMap_cons, List.filterMap_nil, List.head?_cons, Option.map_some, Option.getD_some, Expr.pos, h3, BEq.rfl, Bool.and_self, if_true]
  refine (if_neg (by decide)).trans ?_
  refine (if_neg ?_).trans ?_
  · intro z
    rw [Bool.or_eq_true, Bool.or_eq_true] at z
    rcases z with z | z | z
    · cases a <;> first
        | (cases z; done)
        | (cases h5; done)
    · cases b <;> first
        | (cases z; done)
        | (cases h6; done)
    · cases z
  · have hne : x ≠ y := by simpa using h4
    have hne2 : (y == x) = false := by rw [beq_eq_false_iff_ne]; exact fun z => hne z.symm
    refine (if_neg ?_).trans ?_
    · simp [List.eraseDups, List.eraseDupsBy, List.eraseDupsBy.loop, hne2]
    · rfl
end
end MP

end
section
set_option Elab.async false
set_option linter.all false
set_option maxRecDepth 100000
set_option maxHeartbeats 4000000
/-! MP27: every statement. -/
namespace MP
open PySem PySem.Spec PyProof.Rows L2

section
variable {X : Cx} {Y : Ct} {Γ : Fns} {c : Cc} {k : Nat} {outs : List Nat}
/-- the parts of a comprehension -/
structure LcP (X : Cx) (Y : Ct) (Γ : Fns) (c : Cc) (k : Nat) (elt : Expr) (gs : List Comprehension) (sc : Scope) (e : E) : Prop where
  ex : ∃ tg iter ifs own t it kk x, gs = [⟨tg, iter, ifs, 0⟩] ∧ e = .lc (own.map Prod.snd) t it kk x ∧ blkC c.N c.sc sc own = true ∧ PI X tg iter (tI Y Γ it) ∧ (∀ x, foldedSetIterable iter X.env x = pure x) ∧ cT { c with sc := relS sc c.sc, bsc := some sc } tg = some t ∧
    (∀ X' Y', Lk { c with sc := relS sc c.sc, bsc := some sc } X' Y' Γ k → PTs X' ifs (tT Y' Γ kk)) ∧ (∀ X' Y', Lk { c with sc := relS sc c.sc, bsc := some sc } X' Y' Γ k → Sim X' Y' Γ elt x) ∧ (tgN t).all (fun j => (own.map Prod.snd).contains j) = true
theorem lc_parts (lk : Lk c X Y Γ k) {m : Nat} {elt : Expr} {gs : List Comprehension} {sc : Scope} {pos : Pos} {e : E} (h : cE c m (.ListComp elt gs sc pos) = some e) : LcP X Y Γ c k elt gs sc e := by
  rcases gs with _ | ⟨⟨tg, iter, ifs, as⟩, _ | ⟨g2, gs⟩⟩
  · simp [cE] at h
  · by_cases has : as = 0
    case neg =>
      rw [cE] at h
      · cases h
      · intro a b d z
        simp only [List.cons.injEq, Comprehension.mk.injEq, and_true] at z
        exact has z.2.2.2
    subst has
    rw [cE] at h
    obtain ⟨it, hit, h⟩ := Option.bind_eq_some_iff.mp h
    obtain ⟨own, hown, h⟩ := Option.bind_eq_some_iff.mp h
    split at h
    · rename_i ok
      obtain ⟨t, ht, h⟩ := Option.bind_eq_some_iff.mp h
      obtain ⟨ks, hks, h⟩ := Option.bind_eq_some_iff.mp h
      obtain ⟨kk, hkk, h⟩ := Option.bind_eq_some_iff.mp h
      obtain ⟨x, hx, h⟩ := Option.bind_eq_some_iff.mp h
      split at h
      · rename_i hin
        cases h
        have hmode : ((if isTup tg then 1 else 2 : Nat) = 3 → isSl iter = false) := fun z => by split at z <;> cases z
        have si := (simE iter lk hmode hit).pi (tg := tg) lk fun z => by
          split at z
          · assumption
          · cases z
        refine ⟨tg, iter, ifs, own, t, it, kk, x, rfl, rfl, ok, si.1, fun x => si.2 _ x, ht, fun X' Y' lk' => ?_, fun X' Y' lk' => (simE elt lk' (fun z => by cases z) hx).zero, hin⟩
        have sl := simEs ifs lk' hks
        split at hkk
        · cases hkk
          cases sl
          exact ⟨fun pins s σ H Q I h => pts_nil.run pins s σ H Q I (t_yes h)⟩
        · cases hkk
          cases sl with
          | cons s r => cases r; exact pts_one s.pt
        · cases hkk
      · cases h
    · cases h
  · simp [cE] at h
theorem not_outs {t : Tg} (h : (tgN t).all (fun j => !outs.contains j) = true) : ∀ j ∈ outs, j ∉ tgN t := fun j hj hm => by
  have := List.all_eq_true.mp h j hm
  simp at this
  exact this hj
/-- name = [..], the list straight into its name -/
theorem sim_setLc (lk : Lk c X Y Γ k) {elt : Expr} {gs : List Comprehension} {sc : Scope} {pos py spos : Pos} {y : Str} {e : E} {i : Nat} (lp : LcP X Y Γ c k elt gs sc e) (hg : goesTo c.sc y py sc pos = true) (hi : ixOf y c.N 0 = some i) (ht : ∀ j ∈ outs, j ∉ [i]) :
    PS X (.Assign [.Name y py] (.ListComp elt gs sc pos) spos) (tS Y Γ outs (.asg (.nm i) e)) := by
  obtain ⟨tg, iter, ifs, own, t, it, kk, x, rfl, rfl, ok, pi, fo, hT, hk, he, hin⟩ := lp.ex
  have bo : BlkOk X.N X.env.scope sc own := by rw [lk.N, lk.sc]; exact blkOk_by ok
  have hsub : ∀ j ∈ tgN t, j ∈ own.map Prod.snd := fun j hj => by simpa using List.all_eq_true.mp hin j hj
  obtain ⟨_, hi⟩ := ixOf_some hi
  rw [Nat.sub_zero, ← lk.N] at hi
  unfold goesTo at hg
  simp only [Bool.and_eq_true, Bool.not_eq_true', beq_iff_eq] at hg
  have hl : X.env.scope.names.lookup y = some .local := by rw [lk.sc]; exact hg.1.1
  have hsw : swapsWith (.ListComp elt [⟨tg, iter, ifs, 0⟩] sc pos) (some (.Name y py)) spos.line X.env = pure true := sw_true (by rw [lk.sc]; exact lk.kind) hl (by simpa using hg.1.2) hg.2
  exact PS.imp (ps_setLc lk.calm lk.nd hi hl hsw pi bo (fun s H C cl fp => (simT (lk.blk ok s H C cl fp) tg hT).1) (fun s H C cl fp => hk _ _ (lk.blk ok s H C cl fp)) (fun s H C cl fp => pe_v (he _ _ (lk.blk ok s H C cl fp)).pe) fo) fun D σ H h => by
    have h1 := s_asg (by simpa [tgN] using ht) h
    have h2 : tV Y Γ (.lc (own.map Prod.snd) t it kk x) σ H (fun x H1 => gT Y.K (.nm i) x σ H1 D.nx) := h1
    have eg : gT Y.K (.nm i) = gName i := by unfold gT; rfl
    rw [eg] at h2
    exact e_lc hsub (e_of_v rfl h2)
/-- what is returned from a name moves out -/
theorem pe_ret (lk : Lk c X Y Γ k) {a : Expr} {x : E} (s : Sim X Y Γ a x) : PE X a (tV Y Γ (retV outs x)) := by
  unfold retV
  split
  · split
    · exact pe_v s.pe
    · exact PE.imp (s.var _ rfl) fun σ H Q h => e_mov (e_of_v rfl h)
  · exact pe_v s.pe
theorem pa_mvs {whole : List E} {es : List Expr} {xs : List E} (h : SimL X Y Γ es xs) : PA X es (tVs Y Γ (mvs whole xs)) := by
  induction h with
  | nil => exact pa_nil
  | @cons a x es xs s r ih =>
    have hx : PE X a (tV Y Γ x) := pe_v s.pe
    unfold mvs
    split
    · cases ‹_ = _›
    · rename_i i r' q
      simp only [List.cons.injEq] at q
      obtain ⟨rfl, rfl⟩ := q
      split
      · exact pa_cons (PE.imp (s.var _ rfl) fun σ H Q h => e_mov (e_of_v rfl h)) ih (s.st _ _)
      · exact pa_cons hx ih (s.st _ _)
    · rename_i q
      simp only [List.cons.injEq] at q
      obtain ⟨rfl, rfl⟩ := q
      exact pa_cons hx ih (s.st _ _)
theorem asg_one {t : Expr} {tg : Tg} (lk : Lk c X Y Γ k) (h : cT c t = some tg) : (assignEach [t] X.env).map (·.2) = [assign t X.env] := by
  rw [(simT lk t h).2]
  rfl
/-- target = e -/
theorem sim_asg (lk : Lk c X Y Γ k) {t e : Expr} {b : Bool} {tg : Tg} {x : E} {pos : Pos} (hw : swO c.sc t e = some b) (ht : cT c t = some tg) (he : cE c 0 e = some x) (ho : (tgN tg).all (fun j => !outs.contains j) = true) : PS X (.Assign [t] e pos) (tS Y Γ outs (.asg tg x)) := by
  have hk : X.env.scope.kind = .function := by rw [lk.sc]; exact lk.kind
  have se := (simE e lk (fun z => by cases z) he).zero
  have no := not_outs ho
  cases b with
  | true =>
    unfold swO at hw
    split at hw
    · split at hw
      · cases hw
      · split at hw
        · rename_i a1 b1 kt pt k2 p2 hq x1 px y1 py a b
          split at hw
          · rename_i sw
            rw [← lk.sc] at sw
            have sw' := sw
            unfold swTwo at sw'
            simp only [Bool.and_eq_true, beq_iff_eq] at sw'
            obtain ⟨⟨⟨⟨⟨⟨⟨l1, l2⟩, _⟩, ne⟩, _⟩, _⟩, _⟩, _⟩ := sw'
            have l1' := l1
            have l2' := l2
            rw [lk.sc] at l1' l2'
            rw [cT] at ht
            obtain ⟨ts, hts, rfl⟩ := Option.map_eq_some_iff.mp ht
            rw [cTs] at hts
            obtain ⟨t1, ht1, hts⟩ := Option.bind_eq_some_iff.mp hts
            obtain ⟨r1, hr1, rfl⟩ := Option.map_eq_some_iff.mp hts
            rw [cTs] at hr1
            obtain ⟨t2, ht2, hr1⟩ := Option.bind_eq_some_iff.mp hr1
            obtain ⟨r2, hr2, rfl⟩ := Option.map_eq_some_iff.mp hr1
            rw [cTs] at hr2
            cases hr2
            rw [cT] at ht1 ht2
            split at ht1
            · split at ht2
              · obtain ⟨i, hi, rfl⟩ := Option.map_eq_some_iff.mp ht1
                obtain ⟨j, hj, rfl⟩ := Option.map_eq_some_iff.mp ht2
                obtain ⟨_, hi⟩ := ixOf_some hi
                obtain ⟨_, hj⟩ := ixOf_some hj
                rw [Nat.sub_zero, ← lk.N] at hi hj
                have hij : i ≠ j := fun z => by
                  subst z
                  rw [hi] at hj
                  cases hj
                  simp at ne
                rw [cE] at he
                obtain ⟨xs, hxs, rfl⟩ := Option.map_eq_some_iff.mp he
                have sl := simEs _ lk hxs
                cases sl with
                | cons s1 r => cases r with
                  | cons s2 r =>
                    cases r
                    exact PS.imp (ps_par lk.calm lk.nd hi hj hij l1 l2 (paV (.cons s1 (.cons s2 .nil))) (sw_two hk sw) rfl) fun D σ H h => s_par hij (by simpa [tgN, tgNs] using no) h
              · cases ht2
            · cases ht1
          · cases hw
        · cases hw
    · cases hw
    · cases hw
  | false =>
    rw [← lk.sc] at hw
    have hw2 := sw_false hw
    have pg := (simT lk t ht).1
    by_cases hl : isLc e = true
    · cases e with
      | ListComp elt gs sc p =>
        by_cases hn : ∃ y py, t = .Name y py
        · obtain ⟨y, py, rfl⟩ := hn
          cases hg : goesTo X.env.scope y py sc p with
          | true =>
            rw [cT] at ht
            split at ht
            · obtain ⟨i, hi, rfl⟩ := Option.map_eq_some_iff.mp ht
              exact sim_setLc lk (lc_parts lk he) (by rw [← lk.sc]; exact hg) hi (by simpa [tgN] using no)
            · cases ht
          | false =>
            refine PS.imp (ps_asg (pe_v se.pe) pg ?_ hw2 (asg_one lk ht)) fun D σ H h => s_asg no h
            unfold swapsWithSole
            dsimp only
            rw [swaps_lc hk, hg]
        · exact PS.imp (ps_asg (pe_v se.pe) pg (swaps_other fun y py z => hn ⟨y, py, z⟩) hw2 (asg_one lk ht)) fun D σ H h => s_asg no h
      | _ => cases hl
    · exact PS.imp (ps_asg (pe_v se.pe) pg (swaps_no he (by simpa using hl) _ _ _) hw2 (asg_one lk ht)) fun D σ H h => s_asg no h
/-- x[k] = e -/
theorem sim_sti (lk : Lk c X Y Γ k) {x : Str} {kx e : Expr} {i : Nat} {ky y : E} {p1 p2 pos : Pos} (hi : slotOf c x = some i) (hk : cE c 0 kx = some ky) (he : cE c 0 e = some y) : PS X (.Assign [.Subscript (.Name x p1) kx p2] e pos) (tS Y Γ outs (.sti i ky y)) := by
  obtain ⟨a, b, d1, d2⟩ := lk_vis lk hi
  have pv : PE X (.Name x p1) (tVar i) := pe_var a b d1 d2
  have sk := (simE kx lk (fun z => by cases z) hk).zero
  have se := (simE e lk (fun z => by cases z) he).zero
  have hs : swapsWithSole [.Subscript (.Name x p1) kx p2] e pos.line X.env = pure false := by
    unfold swapsWithSole
    dsimp only
    by_cases hl : isLc e = true
    · cases e with
      | ListComp elt gs sc p => exact swaps_other fun y py z => by cases z
      | _ => cases hl
    · exact swaps_no he (by simpa using hl) _ _ _
  have ha : ∀ v, assign (.Subscript (.Name x p1) kx p2) X.env v = (do
      let ov ← holding [v] (eval (.Name x p1) X.env)
      let iv ← holding [v, ov] (eval kx X.env)
      standAt p2
      holding [v, ov, iv] (setItem ov iv v)
      release [v, ov, iv] []) := fun v => by
    clear sk se
    cases kx <;> first
      | rfl
      | (simp [cE] at hk; done)
  exact PS.imp (ps_asg (pe_v se.pe) (pg_sub pv (pe_v sk.pe) set_list ha) hs rfl rfl) fun D σ H h => s_sti h
mutual
theorem simS (lk : Lk c X Y Γ k) (own : PassesOwn (model X.prog X.w) X.A X.env X.xe) : ∀ (st : Stmt) {s : S}, cS c outs st = some s → PS X st (tS Y Γ outs s)
  | .Expr e pos, s, h => by
    rw [cS] at h
    split at h
    · cases h
    · rename_i hl
      obtain ⟨x, hx, rfl⟩ := Option.map_eq_some_iff.mp h
      exact PS.imp (ps_expr (simE e lk (fun z => by cases z) hx).zero.pe (swaps_no hx (by simpa using hl) _ _ _)) fun D σ H h => s_exp h
  | .Assign [t] e pos, s, h => by
    have main : ((swO c.sc t e).bind fun _ => (cT c t).bind fun t => (cE c 0 e).bind fun e => if (tgN t).all (fun j => !outs.contains j) then some (S.asg t e) else none) = some s → PS X (.Assign [t] e pos) (tS Y Γ outs s) := fun h => by
      obtain ⟨b, hb, h⟩ := Option.bind_eq_some_iff.mp h
      obtain ⟨tg, ht, h⟩ := Option.bind_eq_some_iff.mp h
      obtain ⟨x, hx, h⟩ := Option.bind_eq_some_iff.mp h
      split at h
      · rename_i ho
        cases h
        exact sim_asg lk hb ht hx ho
      · cases h
    by_cases hs : ∃ x p1 kx p2, t = .Subscript (.Name x p1) kx p2
    · obtain ⟨x, p1, kx, p2, rfl⟩ := hs
      rw [cS] at h
      split at h
      · obtain ⟨i, hi, h⟩ := Option.bind_eq_some_iff.mp h
        obtain ⟨ky, hk, h⟩ := Option.bind_eq_some_iff.mp h
        obtain ⟨y, hy, rfl⟩ := Option.map_eq_some_iff.mp h
        exact sim_sti lk hi hk hy
      · cases h
    · rw [cS] at h
      · exact main h
      · exact fun x p1 kx p2 z => hs ⟨x, p1, kx, p2, z⟩
  | .If t a b pos, s, h => by
    rw [cS] at h
    obtain ⟨x, hx, h⟩ := Option.bind_eq_some_iff.mp h
    obtain ⟨y, hy, h⟩ := Option.bind_eq_some_iff.mp h
    obtain ⟨z, hz, rfl⟩ := Option.map_eq_some_iff.mp h
    exact PS.imp (ps_if (simE t lk (fun z => by cases z) hx).zero.pt (simSs lk own a hy) (simSs lk own b hz)) fun D σ H h => s_ite h
  | .While t b [] pos, s, h => by
    rw [cS] at h
    obtain ⟨x, hx, h⟩ := Option.bind_eq_some_iff.mp h
    obtain ⟨y, hy, rfl⟩ := Option.map_eq_some_iff.mp h
    exact PS.imp (ps_while own (simE t lk (fun z => by cases z) hx).zero.pt (simSs lk own b hy)) fun D σ H h => s_whl h
  | .For t it b [] pos, s, h => by
    rw [cS] at h
    obtain ⟨tg, ht, h⟩ := Option.bind_eq_some_iff.mp h
    obtain ⟨x, hx, h⟩ := Option.bind_eq_some_iff.mp h
    obtain ⟨y, hy, h⟩ := Option.bind_eq_some_iff.mp h
    split at h
    · rename_i ho
      cases h
      have hmode : ((if isTup t then 1 else 2 : Nat) = 3 → isSl it = false) := fun z => by split at z <;> cases z
      have si := (simE it lk hmode hx).pi (tg := t) lk fun z => by
        split at z
        · assumption
        · cases z
      exact PS.imp (ps_for own lk.calm si.1 (simT lk t ht).1 (simSs lk own b hy) (fun x => si.2 _ x)) fun D σ H h => s_for (not_outs ho) h
    · cases h
  | .Return (some e) pos, s, h => by
    by_cases ht : ∃ es j p, e = .Tuple es j p
    · obtain ⟨es, j, p, rfl⟩ := ht
      rw [cS] at h
      obtain ⟨xs, hx, rfl⟩ := Option.map_eq_some_iff.mp h
      exact PS.imp (ps_ret (pe_tup (pa_mvs (simEs es lk hx)))) fun D σ H h => e_tup (e_of_v rfl (s_ret h))
    · rw [cS] at h
      · obtain ⟨x, hx, rfl⟩ := Option.map_eq_some_iff.mp h
        exact PS.imp (ps_ret (pe_ret lk (simE e lk (fun z => by cases z) hx).zero)) fun D σ H h => s_ret h
      · exact fun es j p z => ht ⟨es, j, p, z⟩
  | .Return none pos, s, h => by
    rw [cS] at h
    cases h
    exact PS.imp ps_retN fun D σ H h => s_retN h
  | .Pass pos, s, h => by
    rw [cS] at h
    cases h
    exact PS.imp ps_pass fun D σ H h => s_pass h
  | .Break pos, s, h => by
    rw [cS] at h
    cases h
    exact PS.imp ps_break fun D σ H h => s_brk h
  | .Continue pos, s, h => by
    rw [cS] at h
    cases h
    exact PS.imp ps_continue fun D σ H h => s_cnt h
  | .Assign [] e pos, s, h => by simp [cS] at h
  | .Assign (a :: b :: r) e pos, s, h => by simp [cS] at h
  | .While t b (a :: r) pos, s, h => by simp [cS] at h
  | .For t it b (a :: r) pos, s, h => by simp [cS] at h
  | .FunctionDef .., s, h => by simp [cS] at h
  | .AsyncFunctionDef .., s, h => by simp [cS] at h
  | .ClassDef .., s, h => by simp [cS] at h
  | .Delete .., s, h => by simp [cS] at h
  | .TypeAlias .., s, h => by simp [cS] at h
  | .AugAssign .., s, h => by simp [cS] at h
  | .AnnAssign .., s, h => by simp [cS] at h
  | .AsyncFor .., s, h => by simp [cS] at h
  | .With .., s, h => by simp [cS] at h
  | .AsyncWith .., s, h => by simp [cS] at h
  | .Match .., s, h => by simp [cS] at h
  | .Raise .., s, h => by simp [cS] at h
  | .Try .., s, h => by simp [cS] at h
  | .TryStar .., s, h => by simp [cS] at h
  | .Assert .., s, h => by simp [cS] at h
  | .Import .., s, h => by simp [cS] at h
  | .ImportFrom .., s, h => by simp [cS] at h
  | .Global .., s, h => by simp [cS] at h
  | .Nonlocal .., s, h => by simp [cS] at h
theorem simSs (lk : Lk c X Y Γ k) (own : PassesOwn (model X.prog X.w) X.A X.env X.xe) : ∀ (sts : List Stmt) {ss : List S}, cSs c outs sts = some ss → PSs X sts (tSs Y Γ outs ss)
  | [], ss, h => by
    rw [cSs] at h
    cases h
    exact PSs.imp pss_nil fun D σ H h => ss_nil h
  | a :: r, ss, h => by
    rw [cSs] at h
    obtain ⟨x, hx, h⟩ := Option.bind_eq_some_iff.mp h
    obtain ⟨y, hy, rfl⟩ := Option.map_eq_some_iff.mp h
    exact PSs.imp (pss_cons (simS lk own a hx) (simSs lk own r hy)) fun D σ H h => ss_cons h
end
end
end MP

end
section
set_option Elab.async false
set_option linter.all false
set_option maxRecDepth 100000
set_option maxHeartbeats 4000000
/-! MP28: all defs of a program; the law's end. -/
namespace MP
open PySem PySem.Spec PyProof.Rows L2

/-! ### the law's call, from where no guard stands -/
section
variable {P : Program} {w : World} {K : PySem.W.Frag} {mg mb : Str → Option Value} {k : Nat} {fa a : Addr} {fd : FuncData} {x : Str} {sp : Sp} {s : Shared} {vs : List Value} {ns : List Int}
/-- what is asked of the heap ahead of the call -/
structure Ahead (K : PySem.W.Frag) (mg mb : Str → Option Value) (s : Shared) (a : Addr) (vs : List Value) (ns : List Int) : Prop where
  kin : K.In s.heap
  glob : s.heap.Ns mainGlobals mg
  blt : s.heap.Ns builtinsNs mb
  boot : ∀ x : Str, x ≠ "__name__" → mb x = bootBuiltins x
  lim : s.heap.NoLimit
  gens : s.gens = #[]
  obj : s.heap.get? a = some { cls := .type "list", data := .seq vs.toArray }
  isInts : IntsAre vs ns
  len : ns.length ≤ sizeLine
/-- the abstract heap ahead of the call: at most the script is tracked, frozen -/
def Hs (a : Addr) (vs : List Value) (ns : List Int) (there : Bool) : Hp := fun b => if there = true ∧ b = a then some (.frz { cls := .type "list", data := .seq vs.toArray } (.lst (ns.map V.int))) else none
theorem Hs_cases {there : Bool} (b : Addr) : (Hs a vs ns there b = none) ∨ (there = true ∧ b = a ∧ Hs a vs ns there b = some (.frz { cls := .type "list", data := .seq vs.toArray } (.lst (ns.map V.int)))) := by
  unfold Hs
  by_cases h : there = true ∧ b = a
  · exact .inr ⟨h.1, h.2, if_pos h⟩
  · exact .inl (if_neg h)
theorem law_run (A : Ahead K mg mb s a vs ns) (hr : Room k callerA) (hgd : callerA.guards = some []) (F : ∀ base : Heap, K.In base → base.Ns mainGlobals mg → FnP P w K mg base CX0 k fa fd [x] sp) (hbind : ∀ (s : Shared) (u : Value), BindsTo s fd ⟨[u], []⟩ [(x, u)])
    (hsp : ∀ H : Hp, SqL K H a (ns.map V.int) → sp [.ref a] H (fun v _ => v = .bl true) fun _ _ _ => False) :
    codeAny (model P w) callerA (.call (.ref fa) ⟨[.ref a], []⟩) (fun r s' => r = .ok (.ret (.bool true)) ∧ OldK s.heap s'.heap ∧ s'.os = s.os ∧ AllBare s'.gens) s := by
  have rv : Vals (ns.map V.int) vs := vals_ints A.isInts
  let there : Bool := (K.lookup a).isNone
  let H : Hp := Hs a vs ns there
  have hok : HOk P w H s.heap := fun b u z => by
    rcases Hs_cases (vs := vs) (ns := ns) (a := a) (there := there) b with q | ⟨_, rfl, q⟩
    · have z : Hs a vs ns there b = some u := z
      rw [q] at z; cases z
    · have z : Hs b vs ns there b = some u := z
      rw [q] at z
      cases z
      exact ⟨A.obj, by rw [List.length_map]; exact A.len, vs, _, rv, A.obj⟩
  have hS : SqL K H a (ns.map V.int) := by
    cases e : K.lookup a with
    | none => exact .inl (.inr ⟨_, if_pos ⟨by show (K.lookup a).isNone = true; rw [e]; rfl, rfl⟩⟩)
    | some o =>
      have q := A.kin a o e
      rw [A.obj] at q
      cases q
      exact .inr ⟨_, vs.toArray, _, e, rfl, rfl, rfl, by rw [List.size_toArray, A.isInts.length]; exact A.len, by simpa using rv⟩
  -- what is no tracked object lies in the part that stays
  have low : ∀ {b : Addr} {o : Obj}, s.heap.get? b = some o → H b = none → (hidT s.heap H).get? b = some o := fun e n => hidT_get e n
  have dic : ∀ {b : Addr} {m : Str → Option Value}, s.heap.Ns b m → (hidT s.heap H).Ns b m := fun {b m} ⟨o, es, ep, e, d, r⟩ => by
    refine ⟨o, es, ep, low e ?_, d, r⟩
    rcases Hs_cases (vs := vs) (ns := ns) (a := a) (there := there) b with q | ⟨_, rfl, _⟩
    · exact q
    · rw [A.obj] at e
      cases e
      have d' : Data.seq vs.toArray _ = Data.dict es ep := d
      cases d'
  have kb : K.In (hidT s.heap H) := fun b o e => low (A.kin b o e) (by
    rcases Hs_cases (vs := vs) (ns := ns) (a := a) (there := there) b with q | ⟨t, rfl, _⟩
    · exact q
    · have t : (K.lookup b).isNone = true := t
      rw [e] at t
      cases t)
  have md : Mod K mg (hidT s.heap H) := ⟨kb, dic A.glob, ⟨mb, dic A.blt, A.boot⟩, let ⟨mc, h1, h2⟩ := A.lim; ⟨mc, dic h1, h2⟩⟩
  have e0 : Env0 P w K mg (hidT s.heap H) callerA [] s H := ⟨rfl, md, fun b o e => of_hidT e, Nat.le_of_eq (hidT_size _ _), trivial, fun b hb => absurd (show b ∈ ([] : List Addr) from hb) (by simp), hok, .of_eq A.gens⟩
  refine codeAny_mono ((F _ kb (dic A.glob)).run callerA [] s H ⟨[.ref a], []⟩ [.ref a] [.ref a] _ _ hr hgd e0 (hbind s (.ref a)) (.cons rfl .nil) rfl (hsp H hS)) fun r s' h => ?_
  cases r with
  | error e => exact (show False from h).elim
  | ok fl =>
    cases fl with
    | next => exact False.elim h
    | brk => exact False.elim h
    | cont => exact False.elim h
    | ret u =>
      obtain ⟨v, H', os, bare, un, hok', r', q⟩ := h
      have q' : v = .bl true := q
      subst q'
      obtain rfl : u = Value.bool true := r'
      refine ⟨rfl, OldK.of_keep fun b o e => ?_, os, bare⟩
      rcases Hs_cases (vs := vs) (ns := ns) (a := a) (there := there) b with q | ⟨_, rfl, q⟩
      · exact un.keep b o e q (by intro z; exact absurd (show b ∈ ([] : List Addr) from z) (by simp)) (by simp)
      · have z2 := un.frzs b _ _ q
        obtain ⟨e1, _⟩ := hok b _ q
        obtain ⟨e2, _⟩ := hok' b _ z2
        rw [e] at e1
        cases e1
        exact e2
end
theorem walk_ofP {l : PySem.W.OpenLaw} {n k : Nat} {q : Program} {loose : List Str} {XP : (Str → Option Value) → Heap → Prop} {YP : World → Heap → Prop} {d : DefRec} {x : Str}
    (hn : l.most = some n) (hn2 : n ≤ sizeLine) (hdf : d.params.defaults = []) (hr : Room k callerA) (hgd : callerA.guards = some [])
    (F : ∀ (w : World) (mg : Str → Option Value) (fa : Addr) (h : Heap), YP w h → h.Ns mainGlobals mg → mg d.name = some (.ref fa) →
      ∃ (K : PySem.W.Frag) (fd : FuncData) (sp : Sp), K.In h ∧ (∀ (s : Shared) (u : Value), BindsTo s fd ⟨[u], []⟩ [(x, u)]) ∧
        (∀ (H : Hp) (a : Addr) (ns : List Int), ns.length ≤ n → SqL K H a (ns.map V.int) → sp [.ref a] H (fun v _ => v = .bl true) fun _ _ _ => False) ∧
        ∀ base : Heap, K.In base → base.Ns mainGlobals mg → FnP l.prog w K mg base CX0 k fa fd [x] sp) :
    PySem.W.WalkO q loose XP YP l.row.toRowW d [] (fun f vs => PySem.call f vs) := by
  refine Att.attach_call hn hdf fun w s₀ s₁ mg mb fa o pm cd doc a vs ns G Y ho hd hcd hmg hobj hints hlen hg => ?_
  obtain ⟨K, fd, sp, KX, hb, hsp, hF⟩ := F w mg fa _ Y G.T.g hmg
  exact law_run ⟨KX, G.T.g, G.T.b, G.T.builtins, G.T.nolimit, hg, hobj, hints, Nat.le_trans hlen hn2⟩ hr hgd hF hb fun H hS => hsp H a ns hlen hS
end MP

end
section
set_option Elab.async false
set_option linter.all false
set_option maxRecDepth 100000
set_option maxHeartbeats 4000000
/-! MP29: all defs of a program keep their promises. -/
namespace MP
open PySem PySem.Spec PyProof.Rows L2

theorem rel_of_abs {u : Value} {v : V} (h : absV u = some v) : RelV v u := by
  cases u <;> simp only [absV, Option.some.injEq, reduceCtorEq] at h <;> subst h <;> first
    | rfl
    | exact ⟨_, rfl⟩
/-! ### what K's own values mean -/
mutual
def denB (K : PySem.W.Frag) : V → D → Bool
  | .non, .non => true
  | .bl b, .bl c => b == c
  | .int i, .int j => i == j
  | .str x, .str y => decide (x = y)
  | .ref a, .tup ds => match K.lookup a with
    | some ⟨.type c, _, .seq its _, _⟩ => decide (c = "tuple") && decide (its.size ≤ sizeLine) && denBs K its.toList ds
    | _ => false
  | _, _ => false
def denBs (K : PySem.W.Frag) : List Value → List D → Bool
  | [], [] => true
  | u :: us, d :: ds => (match absV u with
    | some v => denB K v d
    | none => false) && denBs K us ds
  | _, _ => false
end
mutual
theorem denB_ok {K : PySem.W.Frag} {F H : Hp} : ∀ {d : D} {v : V}, denB K v d = true → Den K F H v d none0
  | .non, v, h => by cases v <;> simp [denB] at h; exact .non no0
  | .bl b, v, h => by cases v <;> simp [denB] at h; subst h; exact .bl no0
  | .int i, v, h => by cases v <;> simp [denB] at h; subst h; exact .int no0
  | .str x, v, h => by cases v <;> simp [denB] at h; subst h; exact .str no0
  | .tup ds, v, h => by
    cases v <;> first
      | (simp [denB] at h; done)
      | skip
    rename_i a
    unfold denB at h
    split at h
    · rename_i c od its n sl e
      simp only [Bool.and_eq_true, decide_eq_true_eq] at h
      obtain ⟨⟨h1, h2⟩, h3⟩ := h
      obtain ⟨vs, r, l⟩ := denBs_ok (F := F) (H := H) h3
      exact .tup (.inr ⟨_, its, n, e, by rw [h1], rfl, h2, r⟩) l
    · cases h
  | .lst _ _, v, h => by cases v <;> simp [denB] at h
  | .dct _ _, v, h => by cases v <;> simp [denB] at h
  | .ins _ _ _, v, h => by cases v <;> simp [denB] at h
  | .scr _, v, h => by cases v <;> simp [denB] at h
theorem denBs_ok {K : PySem.W.Frag} {F H : Hp} : ∀ {ds : List D} {us : List Value}, denBs K us ds = true → ∃ vs, Vals vs us ∧ DenL K F H vs ds none0
  | [], us, h => by
    cases us with
    | nil => exact ⟨[], .nil, .nil no0⟩
    | cons u us => simp [denBs] at h
  | d :: ds, us, h => by
    cases us with
    | nil => simp [denBs] at h
    | cons u us =>
      simp only [denBs, Bool.and_eq_true] at h
      obtain ⟨h1, h2⟩ := h
      split at h1
      · rename_i v e
        obtain ⟨vs, r, l⟩ := denBs_ok (F := F) (H := H) h2
        exact ⟨v :: vs, .cons (rel_of_abs e) r, .cons (denB_ok h1) l (fun _ z => z.elim) fun b => by simp [none0]⟩
      · cases h1
end
/-! ### the static checks -/
structure PDef where
  d : He.DefD
  N : List Str
  fi : FI
def ctxOf (globs : List (Str × GK)) (fis : List FI) (x : PDef) : Cc := ⟨x.N, x.d.scope, globs, fis, none⟩
def mkFn (globs : List (Str × GK)) (fis : List FI) (x : PDef) : Fn := ⟨x.fi.ps.length, x.N.length, x.fi.outs, (cSs (ctxOf globs fis x) x.fi.outs x.d.body).getD []⟩
def fsB (N P : List Str) (sc : Scope) : Bool := (match sc.kind with | .function => true | _ => false) && !sc.isCoroutine && !sc.isGenerator && decide N.Nodup && decide (N.take P.length = P) &&
  P.all (fun x => (match sc.names.lookup x with | some .local => true | some .cell => true | _ => false)) && sc.names.all fun y => (match y.2 with | .free => false | _ => true)
theorem fsB_ok {N P : List Str} {sc : Scope} (h : fsB N P sc = true) : FnScope N P sc := by
  unfold fsB at h
  simp only [Bool.and_eq_true, Bool.not_eq_true', decide_eq_true_eq, List.all_eq_true] at h
  obtain ⟨⟨⟨⟨⟨⟨h1, h2⟩, h3⟩, h4⟩, h5⟩, h6⟩, h7⟩ := h
  refine ⟨?_, h2, h3, h4, h5, fun x hx => ?_, fun y hy => ?_⟩
  · split at h1
    · assumption
    · cases h1
  · have := h6 x hx
    split at this
    · exact .inl (by assumption)
    · exact .inr (by assumption)
    · cases this
  · have := h7 y hy
    intro z
    rw [z] at this
    cases this
def parB (p : Arguments) (ps : List Str) (npos : Nat) : Bool := p.posonlyargs.isEmpty && p.vararg.isNone && p.kwarg.isNone && decide (p.args.map (·.arg) = ps.take npos) && decide (p.kwonlyargs.map (·.arg) = ps.drop npos) && decide (npos ≤ ps.length) && decide ps.Nodup
theorem parB_ok {p : Arguments} {ps : List Str} {npos : Nat} (h : parB p ps npos = true) : ParOk p ps npos := by
  unfold parB at h
  simp only [Bool.and_eq_true, decide_eq_true_eq] at h
  obtain ⟨⟨⟨⟨⟨⟨h1, h2⟩, h3⟩, h4⟩, h5⟩, h6⟩, h7⟩ := h
  exact ⟨by simpa using h1, by simpa using h2, by simpa using h3, h4, h5, h6, h7⟩
def chkP (globs : List (Str × GK)) (fis : List FI) (x : PDef) : Bool := (cSs (ctxOf globs fis x) x.fi.outs x.d.body).isSome && fsB x.N x.fi.ps x.d.scope && parB x.d.params x.fi.ps x.fi.npos && decide (x.d.dfl.length ≤ x.fi.npos)
/-- K's defaults mean what the text says -/
def dflB2 (K : PySem.W.Frag) (x : PDef) : Bool := (List.range x.fi.dfl.length).all fun j => match x.fi.dfl[j]? with
  | some (some d) => (match dvV x.fi.ps x.fi.npos (x.d.dvs K) (fun y => (x.d.kws K).lookup y) j with
    | some v => denB K v d
    | none => false)
  | _ => true
theorem dflB2_ok {K : PySem.W.Frag} {x : PDef} (h : dflB2 K x = true) (j : Nat) (d : D) (e : x.fi.dfl[j]? = some (some d)) : ∃ v, dvV x.fi.ps x.fi.npos (x.d.dvs K) (fun y => (x.d.kws K).lookup y) j = some v ∧ ∀ F H, Den K F H v d none0 := by
  have hj : j < x.fi.dfl.length := (List.getElem?_eq_some_iff.mp e).1
  have := List.all_eq_true.mp h j (List.mem_range.mpr hj)
  rw [e] at this
  dsimp only at this
  split at this
  · rename_i v hv
    exact ⟨v, hv, fun F H => denB_ok this⟩
  · cases this
/-- the names: which def stands behind a name -/
def nameB (ds : List PDef) (globs : List (Str × GK)) : Bool := globs.all fun p => match p.2 with
  | .fn id => (match ds[id]? with
    | some x => decide (x.d.name = p.1)
    | none => false)
  | .con _ => true
/-- what the heads tell -/
structure Told (K : PySem.W.Frag) (mg : Str → Option Value) (ds : List PDef) (globs : List (Str × GK)) (fA : Nat → Addr) (fD : Nat → FuncData) : Prop where
  fn : ∀ (id : Nat) (x : PDef), ds[id]? = some x → FunD K x.d.name x.d.qual x.d.params x.d.body x.d.scope (x.d.dvs K) (x.d.kws K) (fA id) (fD id) ∧ mg x.d.name = some (.ref (fA id)) ∧ dflB2 K x = true
  con : ∀ (x : Str) (d : D), globs.lookup x = some (.con d) → ∃ v u, mg x = some u ∧ RelV v u ∧ ∀ F H, Den K F H v d none0
  blt : ∀ x, globs.lookup x = none → x ∈ bltNames → mg x = none
section
variable {P : Program} {w : World} {K : PySem.W.Frag} {mg : Str → Option Value} {base : Heap} {ds : List PDef} {globs : List (Str × GK)} {fA : Nat → Addr} {fD : Nat → FuncData} {cl : Cls}
theorem all_fns (T : Told K mg ds globs fA fD) (chk : ds.all (chkP globs (ds.map PDef.fi)) = true) (nm : nameB ds globs = true) : ∀ (k id : Nat) (x : PDef), ds[id]? = some x →
    FnP P w K mg base CX0 k (fA id) (fD id) x.fi.ps (spF K cl (fns (ds.map (mkFn globs (ds.map PDef.fi))) k) id x.fi.ps.length x.fi.outs)
  | 0, id, x, hx => ⟨fun A outer s H args us vs Q E _ _ _ _ _ _ h => by
      obtain ⟨F, dd, U, _, _, _, _, _, h⟩ := h
      exact h.elim⟩
  | k + 1, id, x, hx => by
    have ih := all_fns T chk nm k
    have c := List.all_eq_true.mp chk x (List.mem_of_getElem? hx)
    unfold chkP at c
    simp only [Bool.and_eq_true, decide_eq_true_eq] at c
    obtain ⟨⟨⟨c1, c2⟩, c3⟩, c4⟩ := c
    obtain ⟨body, hbody⟩ := Option.isSome_iff_exists.mp c1
    have S := fsB_ok c2
    obtain ⟨FD, hmg, hdfl⟩ := T.fn id x hx
    refine fn_of2 FD S fun cdv A outer s H vs Q E hr hg hsp => ?_
    let Y : Ct := ⟨K, cl, fun _ C a H => E C a H⟩
    let Γ := fns (ds.map (mkFn globs (ds.map PDef.fi))) k
    have lk : Lk (ctxOf globs (ds.map PDef.fi) x) (cxOf CX0 P w K mg base x.N x.d.qual x.d.scope (fA id) cdv A outer s H E) Y Γ k :=
      { N := rfl, nd := S.nd, sc := rfl, kind := S.kind, K := rfl, calm := rfl, room := hr, gd := hg, fn := fun _ _ => rfl, con := T.con, blt := T.blt, xcc := fun _ _ _ _ _ h => h,
        fnc := fun y id' fi' h1 h2 => by
          obtain ⟨z, hz, rfl⟩ : ∃ z, ds[id']? = some z ∧ z.fi = fi' := by
            have h2 : (ds.map PDef.fi)[id']? = some fi' := h2
            rw [List.getElem?_map, Option.map_eq_some_iff] at h2
            exact h2
          have cz := List.all_eq_true.mp chk z (List.mem_of_getElem? hz)
          unfold chkP at cz
          simp only [Bool.and_eq_true, decide_eq_true_eq] at cz
          obtain ⟨FD', hmg', hdfl'⟩ := T.fn id' z hz
          have hn : z.d.name = y := by
            have := List.all_eq_true.mp nm _ (mem_of_lookup' h1)
            dsimp only at this
            rw [hz] at this
            exact of_decide_eq_true this
          refine ⟨fA id', _, ⟨⟨_, _, _, _, _, _, _, _, FD', parB_ok cz.1.2, ?_, rfl, ih id' z hz⟩, by rw [← hn]; exact hmg', fun j d e => let ⟨v, e1, _⟩ := dflB2_ok hdfl' j d e; ⟨v, e1⟩⟩, dflB2_ok hdfl'⟩
          show (z.d.dfl.map _).length ≤ _
          rw [List.length_map]
          exact cz.2 }
    have own : PassesOwn (model P w) (A.deeper (envOfC x.d.qual x.d.scope s.heap.objs.size (fA id) cdv)) (envOfC x.d.qual x.d.scope s.heap.objs.size (fA id) cdv) (cxOf CX0 P w K mg base x.N x.d.qual x.d.scope (fA id) cdv A outer s H E).xe := passes_of rfl
    refine ⟨tSs Y Γ x.fi.outs body, simSs lk own _ hbody, ?_⟩
    have hΓ : ∀ dd, fns (ds.map (mkFn globs (ds.map PDef.fi))) (k + 1) id dd = runFn Γ (mkFn globs (ds.map PDef.fi) x) dd := fun dd => by
      show (match (ds.map (mkFn globs (ds.map PDef.fi)))[id]? with | some fn => runFn Γ fn dd | none => .stk) = _
      rw [List.getElem?_map, hx]
      rfl
    have hb := body_ok (Y := Y) (N := x.N) (fn := mkFn globs (ds.map PDef.fi) x) rfl (by
      have := congrArg List.length S.pre
      rw [List.length_take] at this
      show x.fi.ps.length ≤ x.N.length
      omega) (fun _ _ _ _ z => z) hΓ hsp
    have e : (mkFn globs (ds.map PDef.fi) x).body = body := by
      show (cSs (ctxOf globs (ds.map PDef.fi) x) x.fi.outs x.d.body).getD [] = body
      rw [hbody]
      rfl
    rw [e] at hb
    exact hb.2
end
end MP

end
section
set_option Elab.async false
set_option linter.all false
set_option maxRecDepth 100000
set_option maxHeartbeats 4000000
/-! MP30: a law's end. -/
namespace MP
open PySem PySem.Spec PyProof.Rows L2

/-- a constant of the module -/
def conB (K : PySem.W.Frag) (x : Str) (d : D) : Bool := match PySem.W.nsIn K mainGlobals x with
  | some (some u) => (match absV u with
    | some v => denB K v d
    | none => false)
  | _ => false
/-- what is looked up behind the top -/
def exB (ds : List PDef) (globs : List (Str × GK)) (K : PySem.W.Frag) : Bool :=
  ds.all (fun x => dflB2 K x && He.eqO (PySem.W.nsIn K mainGlobals x.d.name) (some (some (.ref (He.fAd K x.d.at_))))) &&
  (globs.all (fun p => match p.2 with
    | .con d => conB K p.1 d
    | .fn _ => true) && bltNames.all fun x => (globs.lookup x).isSome || He.eqO (PySem.W.nsIn K mainGlobals x) (some none))
def fAof (K : PySem.W.Frag) (ds : List PDef) (id : Nat) : Addr := match ds[id]? with
  | some x => He.fAd K x.d.at_
  | none => 0
theorem fAof_eq {K : PySem.W.Frag} {ds : List PDef} {id : Nat} {x : PDef} (h : ds[id]? = some x) : fAof K ds id = He.fAd K x.d.at_ := by
  unfold fAof
  rw [h]
section
variable {P : Program} {w : World} {K : PySem.W.Frag} {mg : Str → Option Value} {h : Heap} {ds : List PDef} {globs : List (Str × GK)} {fn : List He.DefD}
theorem told_of (X : K.In h) (G : h.Ns mainGlobals mg) (c : He.SaysX [] fn [] [] (exB ds globs) w h K) (hfn : fn = ds.map PDef.d) (fd0 : FuncData) : ∃ fD, Told K mg ds globs (fAof K ds) fD := by
  classical
  have m := c.more
  unfold exB at m
  simp only [Bool.and_eq_true, List.all_eq_true] at m
  obtain ⟨m1, m2, m3⟩ := m
  have ex : ∀ (id : Nat) (x : PDef), ds[id]? = some x → ∃ fd, FunD K x.d.name x.d.qual x.d.params x.d.body x.d.scope (x.d.dvs K) (x.d.kws K) (He.fAd K x.d.at_) fd := fun id x hx =>
    He.SaysD.defs c.t.d (by rw [hfn]; exact List.mem_map_of_mem (List.mem_of_getElem? hx))
  refine ⟨fun id => if q : ∃ x, ds[id]? = some x then Classical.choose (ex id _ (Classical.choose_spec q)) else fd0, fun id x hx => ?_, fun x d e => ?_, fun x e hb => ?_⟩
  · have q : ∃ x, ds[id]? = some x := ⟨x, hx⟩
    have e1 : Classical.choose q = x := Option.some.inj ((Classical.choose_spec q).symm.trans hx)
    have a1 := m1 x (List.mem_of_getElem? hx)
    have z := Classical.choose_spec (ex id _ (Classical.choose_spec q))
    rw [dif_pos q, fAof_eq hx]
    refine ⟨?_, PySem.W.mg_of X G (He.eqO_ok a1.2), a1.1⟩
    have key : ∀ (y : PDef) (hy : ds[id]? = some y), y = x → FunD K x.d.name x.d.qual x.d.params x.d.body x.d.scope (x.d.dvs K) (x.d.kws K) (He.fAd K x.d.at_) (Classical.choose (ex id y hy)) := fun y hy e => by
      subst e
      exact Classical.choose_spec (ex id y hy)
    exact key _ (Classical.choose_spec q) e1
  · have := m2 _ (mem_of_lookup' e)
    dsimp only at this
    unfold conB at this
    split at this
    · rename_i u hu
      split at this
      · rename_i v hv
        exact ⟨v, u, PySem.W.mg_of X G hu, rel_of_abs hv, fun F H => denB_ok this⟩
      · cases this
    · cases this
  · have := m3 x hb
    rw [e] at this
    simp only [Option.isSome_none, Bool.false_or] at this
    exact PySem.W.mg_none_of X G (He.eqO_ok this)
/-- the law's def: true of every script -/
theorem law_sp {cl : Cls} {Γ : Fns} {id n : Nat} {H : Hp} {a : Addr} {ns : List Int} (hL : ∃ os ρ, Γ id [.scr ns] = .ok (.bl true, os) ρ) (hS : SqL K H a (ns.map V.int)) : spF K cl Γ id 1 [] [.ref a] H (fun v _ => v = .bl true) fun _ _ _ => False := by
  obtain ⟨os, ρ, e⟩ := hL
  refine ⟨H, [.scr ns], none0, Le.refl H, .one (.scr hS no0), fun _ z => z.elim, rfl, fun j d e _ => ?_, ?_⟩
  · cases j with
    | zero => simp at e; subst e; rfl
    | succ j => simp at e
  · rw [e]
    intro F' H' v U1 U2 _ _ _ r _
    have := r.den
    cases this
    rfl
end
/-- a law's end -/
theorem law_end {l : PySem.W.OpenLaw} {n k lawId : Nat} {ds : List PDef} {globs : List (Str × GK)} {fn : List He.DefD} {lx : PDef} (hlaw : ds[lawId]? = some lx) (hps : lx.fi.ps = (["script"] : List Str)) (hout : lx.fi.outs = []) (hdf : lx.d.dfl = []) (hfn : fn = ds.map PDef.d)
    (chk : ds.all (chkP globs (ds.map PDef.fi)) = true) (nm : nameB ds globs = true)
    (hbind : ∀ (kV doc pm : Value) (an : Option Addr) (cdv ct : Value) (us : List Value), us.length = (["script"] : List Str).length → bindArgs (PySem.W.fnOf lx.d.name lx.d.qual lx.d.params lx.d.body lx.d.scope .none kV doc pm an cdv ct) ⟨us, []⟩ = pure ((["script"] : List Str).zip us))
    (hL : ∀ ns : List Int, ns.length ≤ n → ∃ os ρ, fns (ds.map (mkFn globs (ds.map PDef.fi))) k lawId [.scr ns] = .ok (.bl true, os) ρ)
    (w : World) (mg : Str → Option Value) (fa : Addr) (h : Heap) (Y : ∃ K : PySem.W.Frag, K.In h ∧ He.SaysX [] fn [] [] (exB ds globs) w h K) (G : h.Ns mainGlobals mg) (hmg : mg lx.d.name = some (.ref fa)) :
    ∃ (K : PySem.W.Frag) (fd : FuncData) (sp : Sp), K.In h ∧ (∀ (s : Shared) (u : Value), BindsTo s fd ⟨[u], []⟩ [("script", u)]) ∧
      (∀ (H : Hp) (a : Addr) (ns : List Int), ns.length ≤ n → SqL K H a (ns.map V.int) → sp [.ref a] H (fun v _ => v = .bl true) fun _ _ _ => False) ∧
      ∀ base : Heap, K.In base → base.Ns mainGlobals mg → FnP l.prog w K mg base CX0 k fa fd ["script"] sp := by
  obtain ⟨K, KX, c⟩ := Y
  obtain ⟨fd0, FD0⟩ := He.SaysD.defs c.t.d (d := lx.d) (by rw [hfn]; exact List.mem_map_of_mem (List.mem_of_getElem? hlaw))
  obtain ⟨fD, T⟩ := told_of KX G c hfn fd0
  obtain ⟨FD, hm, _⟩ := T.fn lawId lx hlaw
  have e := hmg.symm.trans hm
  have e2 : fa = fAof K ds lawId := by
    injection e with e
    injection e
  subst e2
  have hd : lx.d.dvs K = [] := by show lx.d.dfl.map _ = []; rw [hdf]; rfl
  rw [hd] at FD
  have b := FunD.bindsA (ps := ["script"]) FD hbind
  refine ⟨K, fD lawId, spF K (fun _ => 0) (fns (ds.map (mkFn globs (ds.map PDef.fi))) k) lawId 1 [], KX, fun s u => b s [u] rfl, fun H a ns hl hS => law_sp (n := n) (hL ns hl) hS, fun base _ _ => ?_⟩
  have := all_fns (P := l.prog) (w := w) (base := base) (cl := fun _ => 0) T chk nm k lawId lx hlaw
  rw [hps, hout] at this
  exact this
end MP

end
section
set_option Elab.async false
set_option linter.all false
set_option maxRecDepth 100000
set_option maxHeartbeats 4000000
/-! MP31: what the second half of a law needs of the small language: the tape and its draws, lists made turn by turn, loops, what is shown. -/
namespace MP
open PySem PySem.Spec PyProof.Rows L2
theorem fns_at {T : List Fn} {k id : Nat} {f : Fn} {ds : List D} (h : T[id]? = some f) : fns T (k + 1) id ds = runFn (fns T k) f ds := by
  show (match T[id]? with | some fn => runFn (fns T k) fn ds | none => .stk) = _
  rw [h]
theorem at0 {α : Type} (a : α) (l : List α) : atI (a :: l) 0 = some a := by
  unfold atI ixN
  rw [if_pos (by omega), if_pos (by simp)]
  rfl
theorem at1 {α : Type} (a b : α) (l : List α) : atI (a :: b :: l) 1 = some b := by
  unfold atI ixN
  rw [if_pos (by omega), if_pos (by simp; omega)]
  rfl
theorem at2 {α : Type} (a b c : α) (l : List α) : atI (a :: b :: c :: l) 2 = some c := by
  unfold atI ixN
  rw [if_pos (by omega), if_pos (by simp; omega)]
  rfl
theorem atN {α : Type} {l : List α} {j : Nat} {a : α} (h : l[j]? = some a) : atI l (j : Int) = some a := by
  have hj : j < l.length := by
    rcases Nat.lt_or_ge j l.length with h1 | h1
    · exact h1
    · rw [List.getElem?_eq_none h1] at h; cases h
  unfold atI ixN
  rw [if_pos (by omega), if_pos (by omega)]
  simpa using h
theorem iN0 : D.isNon .non = true := rfl
theorem iN1 (b : Bool) : D.isNon (.bl b) = false := rfl
theorem iN2 (i : Int) : D.isNon (.int i) = false := rfl
theorem iN3 (x : Str) : D.isNon (.str x) = false := rfl
theorem iN4 (xs : List D) : D.isNon (.tup xs) = false := rfl
theorem iN5 (u : Bool) (xs : List D) : D.isNon (.lst u xs) = false := rfl
theorem iN6 (u : Bool) (xs : List (D × D)) : D.isNon (.dct u xs) = false := rfl
def ab (y : Int) : Int := if y < 0 then -y else y
theorem s_abs (y : Int) : sAbs [.int y] = some (.int (ab y)) := rfl
/-- a tape -/
def tp (a b c : Int) : D := .lst true [.int a, .int b, .int c]
theorem fmod_rng (x m : Int) (h : 0 < m) : 0 ≤ x.fmod m ∧ x.fmod m < m := by
  rw [Int.fmod_eq_emod_of_nonneg x (by omega)]
  exact ⟨Int.emod_nonneg x (by omega), Int.emod_lt_of_pos x h⟩
theorem log_small {x : Int} {n : Nat} (h : x.natAbs < 2 ^ n) (hn : 0 < n) : x.natAbs.log2 < n := by
  by_cases hx : x.natAbs = 0
  · rw [hx]; simpa using hn
  · exact (Nat.log2_lt hx).mpr h
theorem s_mod {i j : Int} (h : j ≠ 0) : sMod [.int i, .int j] = some (.int (i.fmod j)) := by simp [sMod, opt, h]
theorem s_fdiv {i j : Int} (h : j ≠ 0) (h2 : j.natAbs.log2 < 9000) : sFdiv [.int i, .int j] = some (.int (i.fdiv j)) := by simp [sFdiv, opt, h, h2]
theorem s_mul {i j : Int} (h : mulOk i j = true) : sMul [.int i, .int j] = some (.int (i * j)) := by simp [sMul, opt, h]
theorem s_pow {i j : Int} (h : 0 ≤ j ∧ j ≤ 1000000) (h2 : i.natAbs < 2 ^ 64) : sPow [.int i, .int j] = some (.int (i ^ j.toNat)) := by
  have e : decide (i.natAbs < 2 ^ 64) = true := decide_eq_true h2
  unfold sPow opt
  simp only [h.1, h.2, decide_true, e, Bool.and_self, if_true]
theorem mulOk_of {i j : Int} (h : i.natAbs < 2 ^ 1000) (h2 : j.natAbs < 2 ^ 1000) : mulOk i j = true := by
  have a := log_small h (by decide)
  have b := log_small h2 (by decide)
  unfold mulOk
  exact decide_eq_true (by omega)
theorem pw1000 : (2 : Nat) ^ 64 ≤ 2 ^ 1000 := Nat.pow_le_pow_right (by decide) (by decide)
theorem mulOk64 {i j : Int} (h : i.natAbs < 2 ^ 64) (h2 : j.natAbs < 2 ^ 64) : mulOk i j = true := mulOk_of (Nat.lt_of_lt_of_le h pw1000) (Nat.lt_of_lt_of_le h2 pw1000)
theorem mul_le {x y a b : Int} (hx : 0 ≤ x) (hxa : x ≤ a) (hy : 0 ≤ y) (hyb : y ≤ b) : 0 ≤ x * y ∧ x * y ≤ a * b := ⟨Int.mul_nonneg hx hy, Int.mul_le_mul hxa hyb hy (by omega)⟩
theorem s_fdiv11 (i : Int) : sFdiv [.int i, .int 11] = some (.int (i.fdiv 11)) := s_fdiv (by decide) (by decide)

def tapeFn : Fn := ⟨2, 4, [], [
  .asg (.nm 2) (.op .add [.op .mul [.cst (.int 60029), .var 1], .cst (.int 3001)]),
  .ite (.op .lt [.var 1, .op .len [.var 0]]) [
    .asg (.nm 2) (.op .ix [.var 0, .var 1])] [],
  .asg (.nm 3) (.cst (.int 0)),
  .ite (.op .ge [.var 2, .op .pow [.cst (.int 10), .cst (.int 18)]]) [
    .asg (.nm 3) (.op .sub [.var 2, .op .pow [.cst (.int 10), .cst (.int 18)]])] [],
  .ret (.lst [.var 3, .op .add [.op .mod [.var 2, .cst (.int 4611686018427387847)], .op .mul [.cst (.int 59), .var 1]], .cst (.int 0)])]⟩
def drawFn : Fn := ⟨2, 7, [0], [
  .ite (.op .ge [.op .ix [.var 0, .cst (.int 0)], .var 1]) [
    .asg (.nm 2) (.op .mod [.op .ix [.var 0, .cst (.int 0)], .var 1]),
    .sti 0 (.cst (.int 0)) (.op .fdiv [.op .ix [.var 0, .cst (.int 0)], .var 1]),
    .ret (.mov 2)] [],
  .sti 0 (.cst (.int 2)) (.op .add [.op .ix [.var 0, .cst (.int 2)], .cst (.int 1)]),
  .asg (.nm 3) (.lst [.cst (.int 2147483489), .cst (.int 2147483477), .cst (.int 2147483423), .cst (.int 2147483399), .cst (.int 2147483353), .cst (.int 2147483323), .cst (.int 2147483269), .cst (.int 2147483249)]),
  .asg (.nm 4) (.op .ix [.var 3, .op .mod [.op .ix [.var 0, .cst (.int 2)], .cst (.int 8)]]),
  .asg (.nm 5) (.op .add [.op .mul [.op .mod [.op .ix [.var 0, .cst (.int 1)], .var 4], .op .add [.op .mul [.cst (.int 2), .op .ix [.var 0, .cst (.int 2)]], .cst (.int 7)]], .op .mul [.cst (.int 7001), .op .ix [.var 0, .cst (.int 2)]]]),
  .asg (.nm 5) (.op .mod [.op .pow [.var 5, .cst (.int 3)], .var 4]),
  .asg (.nm 6) (.op .add [.op .add [.op .mul [.var 5, .var 5], .op .mod [.op .ix [.var 0, .cst (.int 1)], .cst (.int 1000033)]], .op .ix [.var 0, .cst (.int 2)]]),
  .ret (.op .mod [.op .fdiv [.op .mod [.op .pow [.var 6, .cst (.int 5)], .op .ix [.var 3, .op .mod [.op .add [.op .ix [.var 0, .cst (.int 2)], .cst (.int 3)], .cst (.int 8)]]], .cst (.int 11)], .var 1])]⟩
def pickFn (d : Nat) : Fn := ⟨2, 2, [0], [
  .ret (.op .ix [.var 1, .call d [.ref 0, .op .len [.var 1]] [.s 0 0, .a 1]])]⟩
def awordFn (d p : Nat) : Fn := ⟨2, 3, [0], [
  .asg (.nm 2) (.lst [.cst (.int 0), .cst (.int 1), .op .sub [.cst (.int 0), .cst (.int 1)], .var 1, .op .sub [.cst (.int 0), .var 1], .op .sub [.call d [.ref 0, .op .add [.op .mul [.cst (.int 2), .var 1], .cst (.int 1)]] [.s 0 0, .a 1], .var 1], .call d [.ref 0, .op .add [.var 1, .cst (.int 1)]] [.s 0 0, .a 1]]),
  .ret (.call p [.ref 0, .var 2] [.s 0 0, .a 1])]⟩
section
variable {T : List Fn} {dr pk aw tr : Nat}
theorem draw1 (hT : T[dr]? = some drawFn) (k : Nat) (a b c m : Int) (h : m ≤ a) (hm : 0 < m) (hm2 : m < 2 ^ 40) : fns T (k + 1) dr [tp a b c, .int m] = .ok (.int (a.fmod m), [tp (a.fdiv m) b c, .int m]) [] := by
  rw [fns_at hT]
  have hl : m.natAbs.log2 < 9000 := by
    have : m.natAbs < 2 ^ 40 := by omega
    have := Nat.log2_lt (n := m.natAbs) (k := 40) (by omega)
    omega
  have h1 : decide (m ≤ a) = true := by simp [h]
  have h2 : decide (m ≠ 0) = true := by simp; omega
  have h3 : decide (m.natAbs.log2 < 9000) = true := by simp [hl]
  simp [runFn, drawFn, tp, startR, exs, ex, evT, evB, evOs, evV, takeP, rootOf, quiet, quietAll, M.bind, M.pure, M.lift, opSem, sGe, sIx, atI, ixN, D.truth, asgT, setSlot, sMod, sFdiv, opt, h1, h2, h3, setV, mutS, chkS, movS, outsOk, outsOf, h, h2]
def primes : List D := [.int 2147483489, .int 2147483477, .int 2147483423, .int 2147483399, .int 2147483353, .int 2147483323, .int 2147483269, .int 2147483249]
theorem prime_at (j : Int) (h0 : 0 ≤ j) (h1 : j < 8) : ∃ p : Int, atI primes j = some (.int p) ∧ 2 ^ 30 < p ∧ p < 2 ^ 31 := by
  have : j = 0 ∨ j = 1 ∨ j = 2 ∨ j = 3 ∨ j = 4 ∨ j = 5 ∨ j = 6 ∨ j = 7 := by omega
  rcases this with rfl | rfl | rfl | rfl | rfl | rfl | rfl | rfl <;> exact ⟨_, rfl, by decide, by decide⟩
theorem draw2 (hT : T[dr]? = some drawFn) (k : Nat) (a b c m : Int) (h : a < m) (hm : 0 < m) (hm2 : m < 2 ^ 40) (hb : 0 ≤ b) (hb2 : b < 2 ^ 63) (hc : 0 ≤ c) (hc2 : c < 2 ^ 29) : ∃ r : Int, fns T (k + 1) dr [tp a b c, .int m] = .ok (.int r, [tp a b (c + 1), .int m]) [] ∧ 0 ≤ r ∧ r < m := by
  obtain ⟨j0, j1⟩ := fmod_rng (c + 1) 8 (by decide)
  obtain ⟨i0, i1⟩ := fmod_rng (c + 1 + 3) 8 (by decide)
  obtain ⟨p, hp, p1, p2⟩ := prime_at _ j0 j1
  obtain ⟨q, hq, q1, q2⟩ := prime_at _ i0 i1
  rw [fns_at hT]
  obtain ⟨b0, b1⟩ := fmod_rng b p (by omega)
  obtain ⟨d0, d1⟩ := fmod_rng b 1000033 (by decide)
  have h1 : decide (m ≤ a) = false := by simp; omega
  have e0 : ∀ x y z : D, atI [x, y, z] 0 = some x := fun _ _ _ => rfl
  have e1 : ∀ x y z : D, atI [x, y, z] 1 = some y := fun _ _ _ => rfl
  have e2 : ∀ x y z : D, atI [x, y, z] 2 = some z := fun _ _ _ => rfl
  have hp' : atI [D.int 2147483489, D.int 2147483477, D.int 2147483423, D.int 2147483399, D.int 2147483353, D.int 2147483323, D.int 2147483269, D.int 2147483249] ((c + 1).fmod 8) = some (.int p) := hp
  have hq' : atI [D.int 2147483489, D.int 2147483477, D.int 2147483423, D.int 2147483399, D.int 2147483353, D.int 2147483323, D.int 2147483269, D.int 2147483249] ((c + 1 + 3).fmod 8) = some (.int q) := hq
  have p0 : p ≠ 0 := by omega
  have q0 : q ≠ 0 := by omega
  have m0 : m ≠ 0 := by omega
  obtain ⟨u0, u1⟩ := mul_le (a := 2 ^ 31) (b := 2 ^ 30 + 9) b0 (by omega) (show 0 ≤ 2 * (c + 1) + 7 by omega) (by omega)
  have k1 : mulOk 2 (c + 1) = true := mulOk64 (by decide) (by omega)
  have k2 : mulOk (b.fmod p) (2 * (c + 1) + 7) = true := mulOk64 (by omega) (by omega)
  have k3 : mulOk 7001 (c + 1) = true := mulOk64 (by decide) (by omega)
  have k4 : (b.fmod p * (2 * (c + 1) + 7) + 7001 * (c + 1)).natAbs < 2 ^ 64 := by omega
  obtain ⟨x0, x1⟩ := fmod_rng ((b.fmod p * (2 * (c + 1) + 7) + 7001 * (c + 1)) ^ 3) p (by omega)
  generalize hx : ((b.fmod p * (2 * (c + 1) + 7) + 7001 * (c + 1)) ^ 3).fmod p = x at x0 x1
  obtain ⟨v0, v1⟩ := mul_le (a := 2 ^ 31) (b := 2 ^ 31) x0 (by omega) x0 (by omega)
  have k5 : mulOk x x = true := mulOk64 (by omega) (by omega)
  have k6 : (x * x + b.fmod 1000033 + (c + 1)).natAbs < 2 ^ 64 := by omega
  obtain ⟨r0, r1⟩ := fmod_rng ((((x * x + b.fmod 1000033 + (c + 1)) ^ 5).fmod q).fdiv 11) m hm
  refine ⟨_, ?_, r0, r1⟩
  simp [runFn, drawFn, tp, startR, exs, ex, evT, evB, evVs, evOs, evV, takeP, rootOf, quiet, quietAll, M.bind, M.pure, M.lift, opSem, sGe, sIx, e0, e1, e2, hp', hq', D.truth, asgT, setSlot, s_mod, s_fdiv11, sAdd, s_mul, s_pow, h1, setV, mutS, ixN, chkS, movS, outsOk, outsOf, inLine, sizeLine_eq, D.isFrz, frzAll, D.frz, mapFrz, p0, q0, m0, k1, k2, k3, k4, k5, k6, hx]
structure Tape (a b c n : Int) : Prop where
  ha : 0 ≤ a
  hb : 0 ≤ b
  hb2 : b < 2 ^ 63
  hc : 0 ≤ c
  hc2 : c ≤ n
theorem draw_ok (hT : T[dr]? = some drawFn) (k : Nat) {a b c n m : Int} (t : Tape a b c n) (hn : n < 2 ^ 29) (hm : 0 < m) (hm2 : m < 2 ^ 40) : ∃ r a' c', fns T (k + 1) dr [tp a b c, .int m] = .ok (.int r, [tp a' b c', .int m]) [] ∧ 0 ≤ r ∧ r < m ∧ Tape a' b c' (n + 1) := by
  by_cases h : m ≤ a
  · obtain ⟨r0, r1⟩ := fmod_rng a m hm
    refine ⟨_, _, _, draw1 hT k a b c m h hm hm2, r0, r1, ⟨?_, t.hb, t.hb2, t.hc, by have := t.hc2; omega⟩⟩
    rw [Int.fdiv_eq_ediv_of_nonneg a (by omega)]
    exact Int.ediv_nonneg t.ha (by omega)
  · have c2 := t.hc2
    obtain ⟨r, e, r0, r1⟩ := draw2 hT k a b c m (by omega) hm hm2 t.hb t.hb2 t.hc (by omega)
    have c0 := t.hc
    exact ⟨r, a, c + 1, e, r0, r1, ⟨t.ha, t.hb, t.hb2, by omega, by omega⟩⟩
theorem pick_at (hT : T[dr]? = some drawFn) (hP : T[pk]? = some (pickFn dr)) (k : Nat) {a b c n : Int} (t : Tape a b c n) (hn : n < 2 ^ 29) (xs : List D) (hx : 0 < xs.length) (hx2 : xs.length < 2 ^ 24) (fz : frzAll xs = true) : ∃ x a' c', fns T (k + 2) pk [tp a b c, .lst false xs] = .ok (x, [tp a' b c', .lst false xs]) [] ∧ x ∈ xs ∧ Tape a' b c' (n + 1) := by
  obtain ⟨r, a', c', e, r0, r1, t'⟩ := draw_ok hT k t hn (m := xs.length) (by omega) (by omega)
  obtain ⟨j, rfl⟩ := Int.eq_ofNat_of_zero_le r0
  have hj : j < xs.length := by omega
  have hi : atI xs (j : Int) = some xs[j] := by
    unfold atI ixN
    rw [if_pos (by omega), if_pos (by omega)]
    simp [hj]
  have hf : xs[j].isFrz = true := by
    have : ∀ (l : List D) (i : Nat) (h : i < l.length), frzAll l = true → l[i].isFrz = true := fun l => by
      induction l with
      | nil => intro i h; simp at h
      | cons x l ih =>
        intro i h hf
        simp only [frzAll, Bool.and_eq_true] at hf
        cases i with
        | zero => exact hf.1
        | succ i => exact ih i (by simpa using h) hf.2
    exact this xs j hj fz
  refine ⟨xs[j], a', c', ?_, List.getElem_mem hj, t'⟩
  rw [fns_at hP]
  have e' : fns T (k + 1) dr [D.lst true [.int a, .int b, .int c], .int xs.length] = .ok (.int (j : Int), [D.lst true [.int a', .int b, .int c'], .int xs.length]) [] := e
  simp [runFn, pickFn, tp, startR, exs, ex, evT, evB, evVs, evAs, evOs, evV, takeP, rootOf, quiet, quietAll, M.bind, M.pure, M.lift, opSem, sLen, sIx, hi, setSlot, chkS, MP.pick, movS, callD, e', putS, D.isFrz, fz, hf, D.frz, outsOk, outsOf]
theorem aword_ok (hT : T[dr]? = some drawFn) (hP : T[pk]? = some (pickFn dr)) (hA : T[aw]? = some (awordFn dr pk)) (k : Nat) {a b c n w : Int} (t : Tape a b c n) (hn : n + 3 < 2 ^ 29) (h1 : 1 ≤ w) (h2 : w < 2 ^ 38) : ∃ x a' c', fns T (k + 3) aw [tp a b c, .int w] = .ok (.int x, [tp a' b c', .int w]) [] ∧ -w ≤ x ∧ x ≤ w ∧ Tape a' b c' (n + 3) := by
  obtain ⟨r1, a1, c1, e1, r10, r11, t1⟩ := draw_ok hT (k + 1) t (by omega) (m := 2 * w + 1) (by omega) (by omega)
  obtain ⟨r2, a2, c2, e2, r20, r21, t2⟩ := draw_ok hT (k + 1) t1 (by omega) (m := w + 1) (by omega) (by omega)
  obtain ⟨x, a3, c3, e3, hx, t3⟩ := pick_at hT hP k t2 (by omega) [.int 0, .int 1, .int (0 - 1), .int w, .int (0 - w), .int (r1 - w), .int r2] (by simp) (by simp) rfl
  have t4 : Tape a3 b c3 (n + 3) := ⟨t3.ha, t3.hb, t3.hb2, t3.hc, by have := t3.hc2; omega⟩
  obtain ⟨y, rfl, y0, y1⟩ : ∃ y : Int, x = .int y ∧ -w ≤ y ∧ y ≤ w := by
    simp only [List.mem_cons, List.not_mem_nil, or_false] at hx
    rcases hx with rfl | rfl | rfl | rfl | rfl | rfl | rfl
    · exact ⟨_, rfl, by omega, by omega⟩
    · exact ⟨_, rfl, by omega, by omega⟩
    · exact ⟨_, rfl, by omega, by omega⟩
    · exact ⟨_, rfl, by omega, by omega⟩
    · exact ⟨_, rfl, by omega, by omega⟩
    · exact ⟨_, rfl, by omega, by omega⟩
    · exact ⟨_, rfl, by omega, by omega⟩
  refine ⟨y, a3, c3, ?_, y0, y1, t4⟩
  rw [fns_at hA]
  have k1 : mulOk 2 w = true := mulOk64 (by decide) (by omega)
  simp only [tp, Int.zero_sub] at e1 e2 e3
  simp [runFn, awordFn, tp, startR, exs, ex, evT, evB, evVs, evAs, evOs, evV, takeP, rootOf, quiet, quietAll, M.bind, M.pure, M.lift, opSem, sSub, sAdd, s_mul, k1, setSlot, chkS, MP.pick, movS, callD, e1, e2, e3, putS, D.isFrz, frzAll, D.frz, mapFrz, outsOk, outsOf, asgT, inLine, sizeLine_eq]
theorem tape_ok (hR : T[tr]? = some tapeFn) (k : Nat) (ns : List Int) (i : Nat) (hi : i < 2 ^ 20) : ∃ a b, fns T (k + 1) tr [.scr ns, .int i] = .ok (tp a b 0, [.scr ns, .int i]) [] ∧ Tape a b 0 0 := by
  obtain ⟨cell, hc⟩ : ∃ cell : Int, (if i < ns.length then ns[i]? else some (60029 * i + 3001)) = some cell := by
    by_cases h : i < ns.length
    · exact ⟨ns[i], by simp [h]⟩
    · exact ⟨_, by simp [h]; rfl⟩
  obtain ⟨m0, m1⟩ := fmod_rng cell 4611686018427387847 (by decide)
  refine ⟨if 10 ^ 18 ≤ cell then cell - 10 ^ 18 else 0, cell.fmod 4611686018427387847 + 59 * i, ?_, ⟨by split <;> omega, by omega, by omega, by omega, by omega⟩⟩
  rw [fns_at hR]
  have k1 : mulOk 60029 i = true := mulOk64 (by decide) (by omega)
  have k2 : mulOk 59 i = true := mulOk64 (by decide) (by omega)
  by_cases h : i < ns.length
  · rw [if_pos h] at hc
    have hs : sIx [.scr ns, .int i] = some (.int cell) := by
      have : atI ns (i : Int) = some cell := by
        unfold atI ixN
        rw [if_pos (by omega), if_pos (by omega)]
        simpa using hc
      simp [sIx, this]
    by_cases hq : (1000000000000000000 : Int) ≤ cell
    · simp [runFn, tapeFn, tp, startR, exs, ex, evT, evB, evVs, evAs, evOs, evV, takeP, rootOf, quiet, quietAll, M.bind, M.pure, M.lift, opSem, sLen, sLt, sGe, s_mul, k1, k2, sAdd, sSub, s_mod, s_pow, hs, h, hq, D.truth, setSlot, D.isFrz, frzAll, D.frz, mapFrz, outsOk, outsOf, asgT, inLine, sizeLine_eq]
    · simp [runFn, tapeFn, tp, startR, exs, ex, evT, evB, evVs, evAs, evOs, evV, takeP, rootOf, quiet, quietAll, M.bind, M.pure, M.lift, opSem, sLen, sLt, sGe, s_mul, k1, k2, sAdd, sSub, s_mod, s_pow, hs, h, hq, D.truth, setSlot, D.isFrz, frzAll, D.frz, mapFrz, outsOk, outsOf, asgT, inLine, sizeLine_eq]
  · rw [if_neg h] at hc
    cases hc
    have hq : ¬ (1000000000000000000 : Int) ≤ 60029 * i + 3001 := by omega
    simp [runFn, tapeFn, tp, startR, exs, ex, evT, evB, evVs, evAs, evOs, evV, takeP, rootOf, quiet, quietAll, M.bind, M.pure, M.lift, opSem, sLen, sLt, sGe, s_mul, k1, k2, sAdd, sSub, s_mod, s_pow, h, hq, D.truth, setSlot, D.isFrz, frzAll, D.frz, mapFrz, outsOk, outsOf, asgT, inLine, sizeLine_eq]

end
theorem eq_int (x y : Int) : eqD (.int x) (.int y) = some (decide (x = y)) := by
  simp [eqD, shapedD, D.flat, D.py, SeqAt.shaped, PyData.eqv]
  exact ⟨⟨⟨rfl, rfl⟩, rfl, rfl⟩, by rw [Bool.eq_iff_iff]; simp⟩
theorem eq_bl (x y : Bool) : eqD (.bl x) (.bl y) = some (decide (x = y)) := by
  simp [eqD, shapedD, D.flat, D.py, SeqAt.shaped, PyData.eqv]
  exact ⟨⟨⟨rfl, rfl⟩, rfl, rfl⟩, by rw [Bool.eq_iff_iff]; simp⟩
theorem turns_ok {f : D → M (Option D)} {g : D → Option D} {ρ : Rho} : ∀ (xs : List D), (∀ x ∈ xs, f x ρ = .ok (g x) ρ) → turns f xs ρ = .ok (xs.filterMap g) ρ
  | [], _ => rfl
  | x :: xs, h => by
    rw [turns, bind_ok (h x (List.mem_cons_self ..)), bind_ok (turns_ok xs fun y hy => h y (List.mem_cons_of_mem _ hy))]
    cases e : g x <;> simp [List.filterMap_cons, e, M.pure]
def dI (xs : List Int) : List D := xs.map .int
theorem dI_py : ∀ xs : List Int, pyAll (dI xs) = xs.map PyData.int
  | [] => rfl
  | x :: xs => by simp [dI, pyAll, D.py]; exact dI_py xs
theorem dI_flat : ∀ xs : List Int, flatAll (dI xs) = true
  | [] => rfl
  | x :: xs => by simp [dI, flatAll, D.flat]; exact dI_flat xs
theorem dI_frz : ∀ xs : List Int, frzAll (dI xs) = true
  | [] => rfl
  | x :: xs => by simp [dI, frzAll, D.isFrz]; exact dI_frz xs
theorem dI_mapFrz : ∀ xs : List Int, mapFrz (dI xs) = dI xs
  | [] => rfl
  | x :: xs => by simp [dI, mapFrz, D.frz]; exact dI_mapFrz xs
theorem dI_ints : ∀ xs : List Int, intsD (dI xs) = some xs
  | [] => rfl
  | x :: xs => by simp [dI, intsD]; exact dI_ints xs
theorem lay_ints : ∀ xs : List Int, PyData.canLayAll0 (xs.map PyData.int) = true
  | [] => rfl
  | x :: xs => by simp [PyData.canLayAll0, PyData.canLay0, lay_ints xs]
theorem depth_ints : ∀ xs : List Int, PyData.depthAll (xs.map PyData.int) ≤ 1
  | [] => by simp [PyData.depthAll]
  | x :: xs => by have := depth_ints xs; simp [PyData.depthAll, PyData.depth]; omega
theorem shaped_ints (u : Bool) (xs : List Int) : shapedD (.lst u (dI xs)) = true := by
  have := depth_ints xs
  simp [shapedD, D.flat, dI_flat, D.py, dI_py, SeqAt.shaped, PyData.canLay0, lay_ints, PyData.depth]
  omega
theorem eq_nil_int (u v : Bool) (xs : List Int) : eqD (.lst u (dI xs)) (.lst v []) = some xs.isEmpty := by
  have h := shaped_ints u xs
  have h2 := shaped_ints v []
  unfold eqD
  rw [h, show shapedD (.lst v []) = true from h2]
  cases xs <;> simp [dI, D.py, pyAll, PyData.eqv, PyData.eqvAll]
def mm (xs : List Int) : D := if xs.isEmpty then .non else .tup [.int (minI xs), .int (maxI xs)]
theorem wipeR_out {ρ : Rho} {i : Nat} : ∀ {vs : List Nat}, i ∉ vs → (wipeR ρ vs)[i]? = ρ[i]?
  | [], _ => rfl
  | v :: vs, h => by
    unfold wipeR
    rw [List.getElem?_set_ne (fun e => h (by simp [e])), wipeR_out fun z => h (by simp [z])]
theorem putBack_wipe (ρ : Rho) (own : List Nat) : putBack ρ (wipeR ρ own) own = ρ := by
  apply List.ext_getElem?
  intro i
  by_cases h : i ∈ own
  · exact putBack_in (wipeR_length ρ own) h
  · rw [putBack_out h, wipeR_out h]
theorem lc_ok {Γ : Fns} {own : List Nat} {t : Tg} {it c e : E} {ρ0 ρ : Rho} {xs : List D} {g : D → Option D} (hi : evI Γ it ρ0 = .ok xs ρ) (hl : inLine xs.length = true) (hf : ∀ x ∈ xs, turnF Γ own t c e x (wipeR ρ own) = .ok (g x) (wipeR ρ own)) :
    evB Γ (.lc own t it c e) ρ0 = .ok (.lst true (xs.filterMap g)) ρ := by
  have eq : evB Γ (.lc own t it c e) = (evI Γ it).bind fun xs => if inLine xs.length then (inBlk own (turns (turnF Γ own t c e) xs)).bind fun ds => M.pure (.lst true ds) else fun _ => .stk := by
    rw [evB]
    unfold evI evV turnF
    simp only [M.bind_assoc]
  rw [eq, bind_ok hi, if_pos hl]
  have e1 : inBlk own (turns (turnF Γ own t c e) xs) ρ = .ok (xs.filterMap g) ρ := by
    unfold inBlk
    have e2 : noX (turns (turnF Γ own t c e) xs) (wipeR ρ own) = .ok (xs.filterMap g) (wipeR ρ own) := by
      unfold noX
      rw [turns_ok xs hf]
    rw [bind_ok e2, putBack_wipe]
  rw [bind_ok e1]
  rfl
def dP (ps : List (Int × Int)) : List D := ps.map fun p => .tup [.int p.1, .int p.2]
theorem dP_frz : ∀ ps : List (Int × Int), frzAll (dP ps) = true
  | [] => rfl
  | x :: xs => by simp [dP, frzAll, D.isFrz]; exact dP_frz xs
theorem dP_mapFrz : ∀ ps : List (Int × Int), mapFrz (dP ps) = dP ps
  | [] => rfl
  | x :: xs => by simp [dP, mapFrz, D.frz]; exact dP_mapFrz xs
theorem dP_flat : ∀ ps : List (Int × Int), flatAll (dP ps) = true
  | [] => rfl
  | x :: xs => by simp [dP, flatAll, D.flat]; exact dP_flat xs
theorem dP_lay : ∀ ps : List (Int × Int), PyData.canLayAll0 (pyAll (dP ps)) = true ∧ PyData.depthAll (pyAll (dP ps)) ≤ 2
  | [] => by simp [dP, pyAll, PyData.canLayAll0, PyData.depthAll]
  | x :: xs => by
    have := dP_lay xs
    simp only [dP] at this
    simp [dP, pyAll, D.py, PyData.canLayAll0, PyData.canLay0, PyData.depthAll, PyData.depth, this.1]
    omega
theorem eq_nil_pair (u v : Bool) (ps : List (Int × Int)) : eqD (.lst u (dP ps)) (.lst v []) = some ps.isEmpty := by
  have h2 := shaped_ints v []
  have h : shapedD (.lst u (dP ps)) = true := by
    have := dP_lay ps
    simp [shapedD, D.flat, dP_flat, D.py, SeqAt.shaped, PyData.canLay0, this.1, PyData.depth]
    omega
  unfold eqD
  rw [h, show shapedD (.lst v []) = true from h2]
  cases ps <;> simp [dP, D.py, pyAll, PyData.eqv, PyData.eqvAll]
theorem evI_var {Γ : Fns} {i : Nat} {ρ : Rho} {xs : List D} (h : ρ[i]? = some (some (.lst false xs))) (f : frzAll xs = true) (m : mapFrz xs = xs) : evI Γ (.var i) ρ = .ok xs ρ := by
  have e : evV Γ (.var i) ρ = .ok (.lst false xs) ρ := by
    unfold evV
    have e0 : evB Γ (.var i) ρ = .ok (.lst false xs) ρ := by rw [evB]; dsimp only; rw [h]
    rw [bind_ok e0]
    simp [takeP, rootOf, D.isFrz, f, M.pure]
  unfold evI
  rw [bind_ok e]
  simp [D.frz, m, itemsOf, M.lift]
def rng (lo hi : Int) : List Int := (List.range (hi + 1 - lo).toNat).map fun (k : Nat) => lo + k
theorem rng_D (lo hi : Int) : rangeD lo (hi + 1) = dI (rng lo hi) := by
  unfold rangeD rng dI
  rw [List.map_map]
  rfl
theorem rng_mem {lo hi y : Int} (h : y ∈ rng lo hi) : lo ≤ y ∧ y ≤ hi := by
  unfold rng at h
  simp only [List.mem_map, List.mem_range] at h
  obtain ⟨k, hk, rfl⟩ := h
  omega
theorem evI_range {Γ : Fns} {es : List E} {ρ : Rho} {lo hi : Int} (h : evVs Γ es ρ = .ok [.int lo, .int (hi + 1)] ρ) (h0 : -(2 ^ 40) ≤ lo) (h1 : lo ≤ 2 ^ 40) (h2 : hi ≤ 2 ^ 40) (h3 : -(2 ^ 40) ≤ hi) : evI Γ (.itr .range es) ρ = .ok (dI (rng lo hi)) ρ := by
  have s1 : small62 lo = true := by simp [small62]; omega
  have s2 : small62 (hi + 1) = true := by simp [small62]; omega
  have eq : evI Γ (.itr .range es) = (evVs Γ es).bind fun ds => (M.lift (opSem .range (mapFrz ds))).bind fun x => M.lift (itemsOf x.frz) := by
    unfold evI evV
    rw [evB]
    simp only [M.bind_assoc]
    congr 1
  rw [eq, bind_ok h]
  simp [mapFrz, D.frz, opSem, sRange, s1, s2, opt, M.bind, M.lift, itemsOf, rng_D, dI_mapFrz]
theorem exs_append {Γ : Fns} : ∀ (a b : List S) (ρ ρ' : Rho), exs Γ a ρ = .ok .nx ρ' → exs Γ (a ++ b) ρ = exs Γ b ρ'
  | [], b, ρ, ρ', h => by
    rw [exs] at h
    cases h
    rfl
  | s :: a, b, ρ, ρ', h => by
    rw [exs] at h
    rw [List.cons_append, exs]
    obtain ⟨f, ρ1, e1, h⟩ := bind_inv h
    rw [bind_ok e1]
    cases f with
    | nx => exact exs_append a b ρ1 ρ' h
    | ret d => cases h
    | brk => cases h
    | cnt => cases h
theorem loop_inv {t : Tg} {m : M Fl} (P : Nat → Rho → Prop) : ∀ (xs : List D) (i : Nat) (ρ : Rho), P i ρ → (∀ j x ρ, j < i + xs.length → xs[j - i]? = some x → i ≤ j → P j ρ → ∃ ρ', ((asgT t x).bind fun _ => m) ρ = .ok .nx ρ' ∧ P (j + 1) ρ') → ∃ ρ', loopF t m xs ρ = .ok .nx ρ' ∧ P (i + xs.length) ρ'
  | [], i, ρ, h, _ => ⟨ρ, by rw [loopF]; rfl, h⟩
  | x :: xs, i, ρ, h, st => by
    obtain ⟨ρ1, e1, p1⟩ := st i x ρ (by simp) (by simp) (Nat.le_refl _) h
    obtain ⟨ρ2, e2, p2⟩ := loop_inv P xs (i + 1) ρ1 p1 fun j y ρ hj hx hle hp => st j y ρ (by simp; omega) (by
      rw [show j - i = (j - (i + 1)) + 1 by omega, List.getElem?_cons_succ]
      exact hx) (by omega) hp
    refine ⟨ρ2, ?_, by rw [List.length_cons, show i + (xs.length + 1) = i + 1 + xs.length by omega]; exact p2⟩
    rw [loopF]
    obtain ⟨u, ρ0, a1, a2⟩ := bind_inv e1
    rw [bind_ok a1, bind_ok a2]
    exact e2
theorem for_ok {Γ : Fns} {t : Tg} {it : E} {b : List S} {xs : List D} {ρ ρ1 : Rho} {r : Res Fl} (hi : evI Γ it ρ = .ok xs ρ1) (hl : loopF t (exs Γ b) xs ρ1 = r) : ex Γ (.for_ t it b) ρ = r := by
  rw [ex, bind_ok hi]
  exact hl
theorem exs_nx {Γ : Fns} {s : S} {r : List S} {ρ ρ1 : Rho} (h : ex Γ s ρ = .ok .nx ρ1) : exs Γ (s :: r) ρ = exs Γ r ρ1 := by
  rw [exs, bind_ok h]
theorem frz_range (lo hi : Int) : (D.lst false (rangeD lo hi)).frz = .lst false (rangeD lo hi) := by
  rw [D.frz]
  congr 1
  unfold rangeD
  generalize List.range (hi - lo).toNat = l
  induction l with
  | nil => rfl
  | cons x l ih => rw [List.map_cons, mapFrz, D.frz, ih]
theorem rangeD_at {lo hi : Int} {j : Nat} {x : D} (h : (rangeD lo hi)[j]? = some x) : x = .int (lo + j) ∧ (lo + j < hi) := by
  unfold rangeD at h
  rw [List.getElem?_map] at h
  cases e : (List.range (hi - lo).toNat)[j]? with
  | none => rw [e] at h; cases h
  | some m =>
    rw [e] at h
    have hm := List.getElem?_eq_some_iff.mp e
    obtain ⟨hj, hm⟩ := hm
    rw [List.getElem_range] at hm
    rw [List.length_range] at hj
    cases h
    exact ⟨by rw [hm], by omega⟩

theorem rng_in {lo hi y : Int} : y ∈ rng lo hi ↔ lo ≤ y ∧ y ≤ hi := by
  refine ⟨rng_mem, fun h => ?_⟩
  unfold rng
  simp only [List.mem_map, List.mem_range]
  exact ⟨(y - lo).toNat, by omega, by omega⟩
theorem rng_length (lo hi : Int) : (rng lo hi).length = (hi + 1 - lo).toNat := by
  unfold rng
  rw [List.length_map, List.length_range]
theorem range_mapFrz (lo hi : Int) : mapFrz (rangeD lo hi) = rangeD lo hi := by
  have := frz_range lo hi
  rw [D.frz] at this
  injection this
theorem lc_eq {Γ : Fns} {own : List Nat} {t : Tg} {it c e : E} : evB Γ (.lc own t it c e) = (evI Γ it).bind fun xs => if inLine xs.length then (inBlk own (turns (turnF Γ own t c e) xs)).bind fun ds => M.pure (.lst true ds) else fun _ => .stk := by
  rw [evB]
  unfold evI evV turnF
  simp only [M.bind_assoc]
/-- a loop: what holds behind the items gone through -/
theorem loop_pre {α : Type} {t : Tg} {m : M Fl} {f : α → D} (P : List α → Rho → Prop) : ∀ (l : List α) (l0 : List α) (ρ : Rho), P l0 ρ → (∀ l1 a l2 ρ, l = l1 ++ a :: l2 → P (l0 ++ l1) ρ → ∃ ρ', ((asgT t (f a)).bind fun _ => m) ρ = .ok .nx ρ' ∧ P (l0 ++ l1 ++ [a]) ρ') → ∃ ρ', loopF t m (l.map f) ρ = .ok .nx ρ' ∧ P (l0 ++ l) ρ'
  | [], l0, ρ, h, _ => ⟨ρ, by rw [List.map_nil, loopF]; rfl, by rw [List.append_nil]; exact h⟩
  | a :: l, l0, ρ, h, st => by
    obtain ⟨ρ1, e1, p1⟩ := st [] a l ρ rfl (by rw [List.append_nil]; exact h)
    rw [List.append_nil] at p1
    obtain ⟨ρ2, e2, p2⟩ := loop_pre P l (l0 ++ [a]) ρ1 p1 fun l1 b l2 ρ hl hp => by
      have := st (a :: l1) b l2 ρ (by rw [hl]; rfl) (by rw [List.append_cons]; exact hp)
      rw [show l0 ++ a :: l1 = l0 ++ [a] ++ l1 from List.append_cons ..] at this
      exact this
    refine ⟨ρ2, ?_, by rw [List.append_cons]; exact p2⟩
    rw [List.map_cons, loopF]
    obtain ⟨u, ρ0, a1, a2⟩ := bind_inv e1
    rw [bind_ok a1, bind_ok a2]
    exact e2
/-- lists over typed items -/
theorem lc_list {α : Type} {Γ : Fns} {own : List Nat} {t : Tg} {it c e : E} {ρ0 ρ : Rho} {l : List α} {f : α → D} {g : α → Option D} (hi : evI Γ it ρ0 = .ok (l.map f) ρ) (hl : l.length < 2 ^ 24) (hf : ∀ a ∈ l, turnF Γ own t c e (f a) (wipeR ρ own) = .ok (g a) (wipeR ρ own)) :
    evB Γ (.lc own t it c e) ρ0 = .ok (.lst true (l.filterMap g)) ρ := by
  have eq : evB Γ (.lc own t it c e) = (evI Γ it).bind fun xs => if inLine xs.length then (inBlk own (turns (turnF Γ own t c e) xs)).bind fun ds => M.pure (.lst true ds) else fun _ => .stk := by
    rw [evB]
    unfold evI evV turnF
    simp only [M.bind_assoc]
  have hl : inLine (l.map f).length = true := by
    rw [List.length_map]
    unfold inLine
    rw [sizeLine_eq]
    exact decide_eq_true (by omega)
  rw [eq, bind_ok hi, if_pos hl]
  have tk : ∀ l : List α, (∀ a ∈ l, turnF Γ own t c e (f a) (wipeR ρ own) = .ok (g a) (wipeR ρ own)) → turns (turnF Γ own t c e) (l.map f) (wipeR ρ own) = .ok (l.filterMap g) (wipeR ρ own) := by
    intro l
    induction l with
    | nil => intro _; rfl
    | cons a l ih =>
      intro h
      rw [List.map_cons, turns, bind_ok (h a (List.mem_cons_self ..)), bind_ok (ih fun b hb => h b (List.mem_cons_of_mem _ hb))]
      cases e : g a <;> simp [List.filterMap_cons, e, M.pure]
  have e1 : inBlk own (turns (turnF Γ own t c e) (l.map f)) ρ = .ok (l.filterMap g) ρ := by
    unfold inBlk
    have e2 : noX (turns (turnF Γ own t c e) (l.map f)) (wipeR ρ own) = .ok (l.filterMap g) (wipeR ρ own) := by
      unfold noX
      rw [tk l hf]
    rw [bind_ok e2, putBack_wipe]
  rw [bind_ok e1]
  rfl
theorem lc_map {α : Type} {Γ : Fns} {own : List Nat} {t : Tg} {it c e : E} {ρ0 ρ : Rho} {l : List α} {f : α → D} {g : α → D} (hi : evI Γ it ρ0 = .ok (l.map f) ρ) (hl : l.length < 2 ^ 24) (hf : ∀ a ∈ l, turnF Γ own t c e (f a) (wipeR ρ own) = .ok (some (g a)) (wipeR ρ own)) :
    evB Γ (.lc own t it c e) ρ0 = .ok (.lst true (l.map g)) ρ := by
  rw [lc_list (g := fun a => some (g a)) hi hl hf]
  simp
theorem lc_filt {α : Type} {Γ : Fns} {own : List Nat} {t : Tg} {it c e : E} {ρ0 ρ : Rho} {l : List α} {f : α → D} {p : α → Bool} {g : α → D} (hi : evI Γ it ρ0 = .ok (l.map f) ρ) (hl : l.length < 2 ^ 24) (hf : ∀ a ∈ l, turnF Γ own t c e (f a) (wipeR ρ own) = .ok (if p a then some (g a) else none) (wipeR ρ own)) :
    evB Γ (.lc own t it c e) ρ0 = .ok (.lst true ((l.filter p).map g)) ρ := by
  rw [lc_list (g := fun a => if p a then some (g a) else none) hi hl hf]
  congr 2
  clear hi hl hf
  induction l with
  | nil => rfl
  | cons a l ih => cases h : p a <;> simp [List.filterMap_cons, List.filter_cons, h, ih]
/-- a list in a name is walked: it is frozen -/
theorem evI_nm {α : Type} {Γ : Fns} {i : Nat} {ρ : Rho} {u : Bool} {l : List α} {f : α → D} (h : ρ[i]? = some (some (.lst u (l.map f)))) (hz : ∀ a ∈ l, (f a).isFrz = true ∧ (f a).frz = f a) : evI Γ (.var i) ρ = .ok (l.map f) (if u then ρ.set i (some (.lst false (l.map f))) else ρ) := by
  have fz : frzAll (l.map f) = true ∧ mapFrz (l.map f) = l.map f := by
    clear h
    induction l with
    | nil => exact ⟨rfl, rfl⟩
    | cons a l ih =>
      obtain ⟨h1, h2⟩ := hz a (List.mem_cons_self ..)
      obtain ⟨i1, i2⟩ := ih fun b hb => hz b (List.mem_cons_of_mem _ hb)
      exact ⟨by simp [frzAll, h1, i1], by simp [mapFrz, h2, i2]⟩
  have e0 : evB Γ (.var i) ρ = .ok (.lst u (l.map f)) ρ := by rw [evB]; dsimp only; rw [h]
  unfold evI evV
  cases u with
  | true => simp [M.bind, M.pure, M.lift, e0, takeP, rootOf, D.isFrz, h, D.frz, fz.2, itemsOf]
  | false => simp [M.bind, M.pure, M.lift, e0, takeP, rootOf, D.isFrz, fz.1, D.frz, fz.2, itemsOf]
theorem frz_map {α : Type} {l : List α} {f : α → D} (hz : ∀ a ∈ l, (f a).isFrz = true ∧ (f a).frz = f a) : frzAll (l.map f) = true ∧ mapFrz (l.map f) = l.map f := by
  induction l with
  | nil => exact ⟨rfl, rfl⟩
  | cons a l ih =>
    obtain ⟨h1, h2⟩ := hz a (List.mem_cons_self ..)
    obtain ⟨i1, i2⟩ := ih fun b hb => hz b (List.mem_cons_of_mem _ hb)
    exact ⟨by simp [frzAll, h1, i1], by simp [mapFrz, h2, i2]⟩
/-! ### what is shown, what is alike: easy data -/
mutual
def ez : D → Bool
  | .non => true
  | .bl _ => true
  | .int i => decide (i.natAbs < 2 ^ 64)
  | .str x => PyData.strOk x
  | .tup xs => ezAll xs
  | .lst _ xs => ezAll xs
  | _ => false
def ezAll : List D → Bool
  | [] => true
  | x :: xs => ez x && ezAll xs
end
mutual
def wt : D → Nat
  | .int _ => 64
  | .str x => x.length
  | .tup xs => wtAll xs
  | .lst _ xs => wtAll xs
  | _ => 0
def wtAll : List D → Nat
  | [] => 0
  | x :: xs => wt x + 1 + wtAll xs
end
mutual
def dep : D → Nat
  | .tup xs => depAll xs + 1
  | .lst _ xs => depAll xs + 1
  | _ => 0
def depAll : List D → Nat
  | [] => 0
  | x :: xs => max (dep x) (depAll xs)
end
mutual
theorem ez_facts : ∀ d : D, ez d = true → d.flat = true ∧ d.py.canLay0 = true ∧ d.py.showable = true ∧ d.py.hasDict = false ∧ d.py.leavesShort 66 = true ∧ d.py.weight ≤ wt d ∧ d.py.depth ≤ dep d
  | .non, _ => ⟨rfl, rfl, rfl, rfl, rfl, Nat.zero_le _, Nat.zero_le _⟩
  | .bl _, _ => ⟨rfl, rfl, rfl, rfl, rfl, Nat.zero_le _, Nat.zero_le _⟩
  | .int i, h => by
    have h : i.natAbs < 2 ^ 64 := by simpa only [ez, decide_eq_true_eq] using h
    have hl := log_small h (by decide)
    refine ⟨rfl, rfl, decide_eq_true (by omega), rfl, ?_, ?_, Nat.zero_le _⟩
    · show decide _ = true
      apply decide_eq_true
      show (Str.ofString (toString i)).length ≤ 66
      have e := PySem.ofString_length (toString i)
      have nl := int_text_length_le (a := i) (k := 64) (by decide) hl
      rw [e]
      omega
    · show (if i == 0 then 0 else i.natAbs.log2 + 1) ≤ 64
      split <;> omega
  | .str x, h => by
    have h : PyData.strOk x = true := by simpa only [ez] using h
    refine ⟨rfl, h, rfl, rfl, ?_, Nat.le_refl _, Nat.zero_le _⟩
    have h1 : ∀ c ∈ x.cps.toList, c < 0x110000 := by
      have h0 : x.cps.all (· < 0x110000) = true := by simpa only [PyData.strOk] using h
      intro c hcm
      have := (Array.all_eq_true_iff_forall_mem.mp h0) c (Array.mem_toList_iff.mp hcm)
      simpa using this
    show (x.cps.toList.all fun c => decide (c < 16 ^ 8)) = true
    rw [List.all_eq_true]
    intro c hc
    exact decide_eq_true (Nat.lt_trans (h1 c hc) (by decide))
  | .tup xs, h => by
    obtain ⟨a1, a2, a3, a4, a5, a6, a7⟩ := ezAll_facts xs (by simpa only [ez] using h)
    exact ⟨a1, a2, a3, a4, a5, a6, Nat.succ_le_succ a7⟩
  | .lst _ xs, h => by
    obtain ⟨a1, a2, a3, a4, a5, a6, a7⟩ := ezAll_facts xs (by simpa only [ez] using h)
    exact ⟨a1, a2, a3, a4, a5, a6, Nat.succ_le_succ a7⟩
  | .dct _ _, h => by cases h
  | .ins _ _ _, h => by cases h
  | .scr _, h => by cases h
theorem ezAll_facts : ∀ xs : List D, ezAll xs = true → flatAll xs = true ∧ PyData.canLayAll0 (pyAll xs) = true ∧ PyData.showableAll (pyAll xs) = true ∧ PyData.hasDictAll (pyAll xs) = false ∧ PyData.leavesShortAll 66 (pyAll xs) = true ∧ PyData.weightAll (pyAll xs) ≤ wtAll xs ∧ PyData.depthAll (pyAll xs) ≤ depAll xs
  | [], _ => ⟨rfl, rfl, rfl, rfl, rfl, Nat.le_refl _, Nat.le_refl _⟩
  | x :: xs, h => by
    have h : ez x = true ∧ ezAll xs = true := by simpa only [ezAll, Bool.and_eq_true] using h
    obtain ⟨a1, a2, a3, a4, a5, a6, a7⟩ := ez_facts x h.1
    obtain ⟨b1, b2, b3, b4, b5, b6, b7⟩ := ezAll_facts xs h.2
    refine ⟨by simp [flatAll, a1, b1], by simp [pyAll, PyData.canLayAll0, a2, b2], by simp [pyAll, PyData.showableAll, a3, b3], by simp [pyAll, PyData.hasDictAll, a4, b4], by simp [pyAll, PyData.leavesShortAll, a5, b5], ?_, ?_⟩
    · simp only [pyAll, PyData.weightAll, wtAll]; omega
    · simp only [pyAll, PyData.depthAll, depAll]; omega
end
theorem repr_ez {d : D} (h : ez d = true) (hd : dep d ≤ 60) (hw : wt d ≤ 131072) : sRepr [d] = some (.str d.py.shown) := by
  obtain ⟨a1, a2, a3, a4, a5, a6, a7⟩ := ez_facts d h
  have hs := PyData.shown_le 66 (by decide) d.py a5
  have hl : inLine d.py.shown.length = true := by
    unfold inLine
    rw [sizeLine_eq]
    exact decide_eq_true (by omega)
  show opt _ _ = _
  rw [a1, a3, a4, hl, decide_eq_true (show d.py.depth ≤ 60 by omega)]
  rfl
theorem shaped_ez {d : D} (h : ez d = true) (hd : dep d ≤ 60) : shapedD d = true := by
  obtain ⟨a1, a2, a3, a4, a5, a6, a7⟩ := ez_facts d h
  unfold shapedD SeqAt.shaped
  rw [a1, a2, decide_eq_true (show d.py.depth ≤ 64 by omega)]
  rfl
theorem eqD_ez {x y : D} (hx : ez x = true) (hxd : dep x ≤ 60) (hy : ez y = true) (hyd : dep y ≤ 60) : eqD x y = some (PyData.eqv x.py y.py) := by
  unfold eqD
  rw [shaped_ez hx hxd, shaped_ez hy hyd]
  rfl
theorem eqD_refl {x : D} (hx : ez x = true) (hxd : dep x ≤ 60) : eqD x x = some true := by
  rw [eqD_ez hx hxd hx hxd, SeqAt.eqv_refl _ (ez_facts x hx).2.1]
theorem sNe_refl {x : D} (hx : ez x = true) (hxd : dep x ≤ 60) : sNe [x, x] = some (.bl false) := by
  cases x <;> first | (simp [sNe]; done) | (simp only [sNe, eqD_refl hx hxd]; rfl)
theorem sEq_refl {x : D} (hx : ez x = true) (hxd : dep x ≤ 60) : sEq [x, x] = some (.bl true) := by
  cases x <;> first | (simp [sEq]; done) | (simp only [sEq, eqD_refl hx hxd]; rfl)
end MP

end
section
set_option Elab.async false
set_option linter.all false
set_option maxRecDepth 100000
set_option maxHeartbeats 4000000
/-! SM: words added, taken away, multiplied, divided: what pairs of two stretches come to. -/
namespace MP
namespace Sums
open PySem PySem.Spec PyProof.Rows L2
inductive Sg where | plus | minus | times | over | rest
  deriving DecidableEq
def Sg.s : Sg → Str
  | .plus => "plus" | .minus => "minus" | .times => "times" | .over => "over" | .rest => "rest"
def Sg.sum : Sg → Bool
  | .plus => true | .minus => true | .times => true | .over => false | .rest => false
def mk : Sg → Int → Int → Int
  | .plus, y, z => y + z | .minus, y, z => y - z | .times, y, z => y * z | .over, y, z => y.fdiv z | .rest, y, z => y.fmod z
def pmx (i j : Int) : Int := if j > i then j else i
def pmn (i j : Int) : Int := if j < i then j else i
def st (a b : Int) : Int × Int := (pmn a b, pmx a b)
def most (y w : Int) : Int := if y = 0 then w else w.fdiv (ab y)
def part (s : Sg) (y w : Int) (g : Int × Int) : Int × Int := match s with
  | .plus => (pmx g.1 (-w - y), pmn g.2 (w - y))
  | .minus => (pmx g.1 (y - w), pmn g.2 (y + w))
  | _ => (pmx g.1 (-(most y w)), pmn g.2 (most y w))
def rr (lo hi z : Int) : Int × Int := if lo.fdiv z = hi.fdiv z then (lo.fmod z, hi.fmod z) else (0, z - 1)
def rs (lo hi z : Int) : Int × Int := if z < 0 then (-(rr (-hi) (-lo) (-z)).2, -(rr (-hi) (-lo) (-z)).1) else rr lo hi z
theorem fdiv_mono {a b z : Int} (hz : 0 < z) (h : a ≤ b) : a.fdiv z ≤ b.fdiv z := by
  rw [Int.fdiv_eq_ediv_of_nonneg a (by omega), Int.fdiv_eq_ediv_of_nonneg b (by omega)]
  exact Int.ediv_le_ediv hz h
theorem fdiv_anti {a b z : Int} (hz : z < 0) (h : a ≤ b) : b.fdiv z ≤ a.fdiv z := by
  rw [← Int.neg_fdiv_neg a z, ← Int.neg_fdiv_neg b z]
  exact fdiv_mono (by omega) (by omega)
theorem st_in {a b x : Int} : (st a b).1 ≤ x ∧ x ≤ (st a b).2 ↔ (a ≤ x ∧ x ≤ b) ∨ (b ≤ x ∧ x ≤ a) := by
  unfold st pmn pmx
  dsimp only
  split <;> split <;> omega
theorem st_ends (a b : Int) : ((st a b).1 = a ∨ (st a b).1 = b) ∧ ((st a b).2 = a ∨ (st a b).2 = b) := by
  unfold st pmn pmx
  dsimp only
  split <;> split <;> simp
theorem fdiv_between {a b y z : Int} (hz : z ≠ 0) (h1 : a ≤ y) (h2 : y ≤ b) : (st (a.fdiv z) (b.fdiv z)).1 ≤ y.fdiv z ∧ y.fdiv z ≤ (st (a.fdiv z) (b.fdiv z)).2 := by
  rw [st_in]
  rcases Int.lt_or_gt_of_ne hz with h | h
  · exact .inr ⟨fdiv_anti h h2, fdiv_anti h h1⟩
  · exact .inl ⟨fdiv_mono h h1, fdiv_mono h h2⟩
theorem fmod_pos (y : Int) {z : Int} (h : 0 < z) : 0 ≤ y.fmod z ∧ y.fmod z < z := fmod_rng y z h
theorem fmod_neg (y : Int) {z : Int} (h : z < 0) : z < y.fmod z ∧ y.fmod z ≤ 0 := by
  have := fmod_pos (-y) (z := -z) (by omega)
  rw [Int.neg_fmod_neg] at this
  omega
theorem rr_in {lo hi z y : Int} (hz : 0 < z) (h1 : lo ≤ y) (h2 : y ≤ hi) : (rr lo hi z).1 ≤ y.fmod z ∧ y.fmod z ≤ (rr lo hi z).2 := by
  unfold rr
  split
  · rename_i e
    have a := fdiv_mono hz h1
    have b := fdiv_mono hz h2
    have e2 : y.fdiv z = lo.fdiv z := by omega
    have e3 : hi.fdiv z = lo.fdiv z := by omega
    have m1 := Int.mul_fdiv_add_fmod lo z
    have m2 := Int.mul_fdiv_add_fmod hi z
    have m3 := Int.mul_fdiv_add_fmod y z
    rw [e2] at m3
    rw [e3] at m2
    dsimp only
    omega
  · have := fmod_pos y hz
    dsimp only
    omega
theorem rr_ends {lo hi z : Int} (hz : 0 < z) (h : lo ≤ hi) : (∃ y, lo ≤ y ∧ y ≤ hi ∧ (rr lo hi z).1 = y.fmod z) ∧ ∃ y, lo ≤ y ∧ y ≤ hi ∧ (rr lo hi z).2 = y.fmod z := by
  unfold rr
  split
  · exact ⟨⟨lo, by omega, h, rfl⟩, ⟨hi, h, by omega, rfl⟩⟩
  · rename_i e
    have a := fdiv_mono hz h
    have c1 : lo < z * lo.fdiv z + z := Int.lt_mul_fdiv_self_add hz
    have c2 : z * hi.fdiv z ≤ hi := Int.mul_fdiv_self_le hz
    have c3 : z * (lo.fdiv z + 1) ≤ z * hi.fdiv z := Int.mul_le_mul_of_nonneg_left (by omega) (by omega)
    rw [Int.mul_add, Int.mul_one] at c3
    have q1 : (z * hi.fdiv z).fdiv z = hi.fdiv z := by
      rw [Int.fdiv_eq_ediv_of_nonneg _ (by omega)]
      exact Int.mul_ediv_cancel_left _ (by omega)
    have q2 : (z * hi.fdiv z).fmod z = 0 := by
      have := Int.mul_fdiv_add_fmod (z * hi.fdiv z) z
      rw [q1] at this
      omega
    have q3 : (z * hi.fdiv z - 1).fmod z = z - 1 := by
      have r1 := fmod_pos (z * hi.fdiv z - 1) hz
      have r2 := Int.mul_fdiv_add_fmod (z * hi.fdiv z - 1) z
      generalize (z * hi.fdiv z - 1).fdiv z = u at r2
      generalize hi.fdiv z = v at *
      have r3 : z * (u - v) = - 1 - (z * v - 1).fmod z := by rw [Int.mul_sub]; omega
      have r4 : u - v = -1 := by
        rcases Int.lt_trichotomy (u - v) (-1) with h1 | h1 | h1
        · have := Int.mul_le_mul_of_nonneg_left (c := z) (show u - v ≤ -2 by omega) (by omega)
          omega
        · exact h1
        · have := Int.mul_le_mul_of_nonneg_left (c := z) (show 0 ≤ u - v by omega) (by omega)
          omega
      rw [r4] at r3
      omega
    exact ⟨⟨z * hi.fdiv z, by omega, c2, q2.symm⟩, ⟨z * hi.fdiv z - 1, by omega, by omega, q3.symm⟩⟩
theorem rs_in {lo hi z y : Int} (hz : z ≠ 0) (h1 : lo ≤ y) (h2 : y ≤ hi) : (rs lo hi z).1 ≤ y.fmod z ∧ y.fmod z ≤ (rs lo hi z).2 := by
  unfold rs
  split
  · have := rr_in (lo := -hi) (hi := -lo) (z := -z) (y := -y) (by omega) (by omega) (by omega)
    rw [Int.neg_fmod_neg] at this
    dsimp only
    omega
  · exact rr_in (by omega) h1 h2
theorem rs_ends {lo hi z : Int} (hz : z ≠ 0) (h : lo ≤ hi) : (∃ y, lo ≤ y ∧ y ≤ hi ∧ (rs lo hi z).1 = y.fmod z) ∧ ∃ y, lo ≤ y ∧ y ≤ hi ∧ (rs lo hi z).2 = y.fmod z := by
  unfold rs
  split
  · obtain ⟨⟨y, a1, a2, a3⟩, ⟨x, b1, b2, b3⟩⟩ := rr_ends (lo := -hi) (hi := -lo) (z := -z) (by omega) (by omega)
    refine ⟨⟨-x, by omega, by omega, ?_⟩, ⟨-y, by omega, by omega, ?_⟩⟩
    · have := Int.neg_fmod_neg (-x) z
      rw [Int.neg_neg] at this
      dsimp only
      omega
    · have := Int.neg_fmod_neg (-y) z
      rw [Int.neg_neg] at this
      dsimp only
      omega
  · exact rr_ends (by omega) h
/-- which pairs don't fault -/
def ok (s : Sg) (z : Int) : Bool := s.sum || decide (z ≠ 0)
def keep (w r : Int) : Bool := decide (-w ≤ r) && decide (r ≤ w)
def tri (s : Sg) (w : Int) (f g : Int × Int) : List (Int × Int × Int) :=
  (rng f.1 f.2).flatMap fun y => (rng g.1 g.2).filterMap fun z => if ok s z && keep w (mk s y z) then some (mk s y z, y, z) else none
theorem tri_in {s : Sg} {w : Int} {f g : Int × Int} {r y z : Int} : (r, y, z) ∈ tri s w f g ↔ (f.1 ≤ y ∧ y ≤ f.2) ∧ (g.1 ≤ z ∧ z ≤ g.2) ∧ ok s z = true ∧ r = mk s y z ∧ -w ≤ r ∧ r ≤ w := by
  unfold tri
  simp only [List.mem_flatMap, List.mem_filterMap, rng_in]
  constructor
  · rintro ⟨y', hy, z', hz, h⟩
    split at h
    · rename_i hk
      simp only [Bool.and_eq_true, keep, decide_eq_true_eq] at hk
      cases h
      exact ⟨hy, hz, hk.1, rfl, hk.2.1, hk.2.2⟩
    · cases h
  · rintro ⟨hy, hz, ho, rfl, h1, h2⟩
    exact ⟨y, hy, z, hz, by simp [ho, keep, h1, h2]⟩
/-- what spans of stretches are, and the least and the greatest -/
def sp (ps : List (Int × Int)) : D := if ps.isEmpty then .non else .tup [.int (minI (ps.map (·.1))), .int (maxI (ps.map (·.2)))]
theorem minI_of {xs : List Int} {m : Int} (h : m ∈ xs) (h2 : ∀ x ∈ xs, m ≤ x) : minI xs = m := by
  cases xs with
  | nil => cases h
  | cons x r =>
    obtain ⟨a, b⟩ := minI_spec r x
    have c1 := b m h
    have c2 := h2 _ a
    show r.foldl _ x = m
    omega
theorem maxI_of {xs : List Int} {m : Int} (h : m ∈ xs) (h2 : ∀ x ∈ xs, x ≤ m) : maxI xs = m := by
  cases xs with
  | nil => cases h
  | cons x r =>
    obtain ⟨a, b⟩ := maxI_spec r x
    have c1 := b m h
    have c2 := h2 _ a
    show r.foldl _ x = m
    omega
theorem minI_mem {xs : List Int} (h : xs ≠ []) : minI xs ∈ xs ∧ ∀ x ∈ xs, minI xs ≤ x := by
  cases xs with
  | nil => exact absurd rfl h
  | cons x r => exact minI_spec r x
theorem maxI_mem {xs : List Int} (h : xs ≠ []) : maxI xs ∈ xs ∧ ∀ x ∈ xs, x ≤ maxI xs := by
  cases xs with
  | nil => exact absurd rfl h
  | cons x r => exact maxI_spec r x
theorem mm_of {xs : List Int} {a b : Int} (h1 : a ∈ xs) (h2 : b ∈ xs) (h3 : ∀ x ∈ xs, a ≤ x ∧ x ≤ b) : mm xs = .tup [.int a, .int b] := by
  unfold mm
  rw [minI_of h1 fun x h => (h3 x h).1, maxI_of h2 fun x h => (h3 x h).2]
  cases xs with
  | nil => cases h1
  | cons => rfl
theorem mm_congr {xs ys : List Int} (h : ∀ x, x ∈ xs ↔ x ∈ ys) : mm xs = mm ys := by
  cases hx : xs with
  | nil =>
    cases ys with
    | nil => rfl
    | cons y r => have := (h y).mpr (List.mem_cons_self ..); rw [hx] at this; cases this
  | cons x r =>
    rw [← hx]
    have hn : xs ≠ [] := by rw [hx]; simp
    have hn2 : ys ≠ [] := by
      intro e
      have := (h x).mp (by rw [hx]; exact List.mem_cons_self ..)
      rw [e] at this
      cases this
    obtain ⟨a1, a2⟩ := minI_mem hn2
    obtain ⟨b1, b2⟩ := maxI_mem hn2
    rw [mm_of ((h _).mpr a1) ((h _).mpr b1) fun z hz => ⟨a2 z ((h z).mp hz), b2 z ((h z).mp hz)⟩, mm_of a1 b1 fun z hz => ⟨a2 z hz, b2 z hz⟩]
theorem sp_mm {ps : List (Int × Int)} {xs : List Int} (h1 : ∀ p ∈ ps, p.1 ∈ xs ∧ p.2 ∈ xs) (h2 : ∀ x ∈ xs, ∃ p ∈ ps, p.1 ≤ x ∧ x ≤ p.2) : sp ps = mm xs := by
  cases hp : ps with
  | nil =>
    cases xs with
    | nil => rfl
    | cons x r => obtain ⟨p, hq, _⟩ := h2 x (List.mem_cons_self ..); rw [hp] at hq; cases hq
  | cons q r =>
    rw [← hp]
    have hn1 : ps.map (·.1) ≠ [] := by rw [hp]; simp
    have hn2 : ps.map (·.2) ≠ [] := by rw [hp]; simp
    obtain ⟨a1, a2⟩ := minI_mem hn1
    obtain ⟨b1, b2⟩ := maxI_mem hn2
    have e : sp ps = .tup [.int (minI (ps.map (·.1))), .int (maxI (ps.map (·.2)))] := by unfold sp; rw [hp]; rfl
    rw [e]
    simp only [List.mem_map] at a1 b1
    obtain ⟨p, hp1, e1⟩ := a1
    obtain ⟨p', hp2, e2⟩ := b1
    refine (mm_of (e1 ▸ (h1 p hp1).1) (e2 ▸ (h1 p' hp2).2) fun x hx => ?_).symm
    obtain ⟨o, ho, o1, o2⟩ := h2 x hx
    have c1 := a2 o.1 (List.mem_map_of_mem ho)
    have c2 := b2 o.2 (List.mem_map_of_mem ho)
    omega
theorem ab_pos {y : Int} (h : y ≠ 0) : 0 < ab y := by unfold ab; split <;> omega
theorem most_in {y z w : Int} (hw : 0 ≤ w) (h0 : y = 0 → -w ≤ z ∧ z ≤ w) : (-w ≤ y * z ∧ y * z ≤ w) ↔ (-(most y w) ≤ z ∧ z ≤ most y w) := by
  unfold most
  split
  · rename_i e
    subst e
    have := h0 rfl
    simp only [Int.zero_mul]
    omega
  · rename_i e
    have hp := ab_pos e
    rw [Int.fdiv_eq_ediv_of_nonneg _ (by omega)]
    have k1 : z ≤ w / ab y ↔ z * ab y ≤ w := Int.le_ediv_iff_mul_le hp
    have k2 : -z ≤ w / ab y ↔ -z * ab y ≤ w := Int.le_ediv_iff_mul_le hp
    have e3 : (-(w / ab y) ≤ z ∧ z ≤ w / ab y) ↔ (-z ≤ w / ab y ∧ z ≤ w / ab y) := by constructor <;> intro h <;> omega
    rw [e3, k1, k2]
    unfold ab
    rw [Int.neg_mul]
    split
    · rw [Int.mul_neg, Int.mul_comm z y]; omega
    · rw [Int.mul_comm z y]; omega
/-- the rows that the program makes -/
abbrev Row := (Int × Int) × (Int × Int) × (Int × Int)
def rows (s : Sg) (w : Int) (f g : Int × Int) : List Row :=
  if s.sum then (((rng f.1 f.2).map fun y => (y, part s y w g)).filter fun q => decide (q.2.1 ≤ q.2.2)).map fun q => (st (mk s q.1 q.2.1) (mk s q.1 q.2.2), (q.1, q.1), q.2)
  else ((rng g.1 g.2).filter fun z => decide (z ≠ 0)).map fun z => ((if s = .over then st (f.1.fdiv z) (f.2.fdiv z) else rs f.1 f.2 z), f, (z, z))
/-- a stretch of words of the width -/
def Str0 (w : Int) (f : Int × Int) : Prop := -w ≤ f.1 ∧ f.1 ≤ f.2 ∧ f.2 ≤ w
theorem part_in {s : Sg} {y z w : Int} {g : Int × Int} (hs : s.sum = true) (hw : 0 ≤ w) (hg : Str0 w g) : (g.1 ≤ z ∧ z ≤ g.2 ∧ -w ≤ mk s y z ∧ mk s y z ≤ w) ↔ ((part s y w g).1 ≤ z ∧ z ≤ (part s y w g).2) := by
  obtain ⟨g0, g1, g2⟩ := hg
  cases s with
  | plus => simp only [part, mk, pmx, pmn]; split <;> split <;> omega
  | minus => simp only [part, mk, pmx, pmn]; split <;> split <;> omega
  | times =>
    have e : (g.1 ≤ z ∧ z ≤ g.2 ∧ -w ≤ y * z ∧ y * z ≤ w) ↔ (g.1 ≤ z ∧ z ≤ g.2 ∧ -(most y w) ≤ z ∧ z ≤ most y w) := by
      constructor
      · rintro ⟨a, b, c⟩
        exact ⟨a, b, (most_in hw fun _ => by omega).mp c⟩
      · rintro ⟨a, b, c⟩
        exact ⟨a, b, (most_in hw fun _ => by omega).mpr c⟩
    show (g.1 ≤ z ∧ z ≤ g.2 ∧ -w ≤ y * z ∧ y * z ≤ w) ↔ _
    rw [e]
    simp only [part, pmx, pmn]
    split <;> split <;> omega
  | over => cases hs
  | rest => cases hs
theorem mk_between {s : Sg} {y z a b : Int} (hs : s.sum = true) (h1 : a ≤ z) (h2 : z ≤ b) : (st (mk s y a) (mk s y b)).1 ≤ mk s y z ∧ mk s y z ≤ (st (mk s y a) (mk s y b)).2 := by
  rw [st_in]
  cases s with
  | plus => left; simp only [mk]; omega
  | minus => right; simp only [mk]; omega
  | times =>
    simp only [mk]
    rcases Int.le_total 0 y with h | h
    · exact .inl ⟨Int.mul_le_mul_of_nonneg_left h1 h, Int.mul_le_mul_of_nonneg_left h2 h⟩
    · exact .inr ⟨Int.mul_le_mul_of_nonpos_left h h2, Int.mul_le_mul_of_nonpos_left h h1⟩
  | over => cases hs
  | rest => cases hs
theorem quot_keep {s : Sg} {w y z : Int} (hs : s.sum = false) (hz : z ≠ 0) (h1 : 1 ≤ w) (hy : -w ≤ y ∧ y ≤ w) (hz2 : -w ≤ z ∧ z ≤ w) : -w ≤ mk s y z ∧ mk s y z ≤ w := by
  cases s with
  | plus => cases hs
  | minus => cases hs
  | times => cases hs
  | over =>
    show -w ≤ y.fdiv z ∧ y.fdiv z ≤ w
    have key : ∀ y z : Int, 0 < z → -w ≤ y ∧ y ≤ w → -w ≤ y.fdiv z ∧ y.fdiv z ≤ w := by
      intro y z h hy
      rw [Int.fdiv_eq_ediv_of_nonneg _ (by omega)]
      constructor
      · rw [Int.le_ediv_iff_mul_le h]
        have := Int.mul_le_mul_of_nonneg_left (c := w) (show 1 ≤ z by omega) (by omega)
        rw [Int.neg_mul]
        omega
      · have : y / z < w + 1 := by
          rw [Int.ediv_lt_iff_lt_mul h]
          have := Int.mul_le_mul_of_nonneg_left (c := w + 1) (show 1 ≤ z by omega) (by omega)
          omega
        omega
    rcases Int.lt_or_gt_of_ne hz with h | h
    · rw [← Int.neg_fdiv_neg]
      exact key (-y) (-z) (by omega) (by omega)
    · exact key y z h hy
  | rest =>
    show -w ≤ y.fmod z ∧ y.fmod z ≤ w
    rcases Int.lt_or_gt_of_ne hz with h | h
    · have := fmod_neg y h; omega
    · have := fmod_pos y h; omega
/-- the rows tell what all pairs come to -/
theorem rows_tri {s : Sg} {w : Int} {f g : Int × Int} (hw : 1 ≤ w) (hf : Str0 w f) (hg : Str0 w g) :
    sp ((rows s w f g).map (·.1)) = mm ((tri s w f g).map (·.1)) ∧ sp ((rows s w f g).map (·.2.1)) = mm ((tri s w f g).map (·.2.1)) ∧ sp ((rows s w f g).map (·.2.2)) = mm ((tri s w f g).map (·.2.2)) := by
  have key : (∀ q ∈ rows s w f g, (∃ y z, (q.1.1, y, z) ∈ tri s w f g) ∧ (∃ y z, (q.1.2, y, z) ∈ tri s w f g) ∧ (∃ r z, (r, q.2.1.1, z) ∈ tri s w f g) ∧ (∃ r z, (r, q.2.1.2, z) ∈ tri s w f g) ∧ (∃ r y, (r, y, q.2.2.1) ∈ tri s w f g) ∧ (∃ r y, (r, y, q.2.2.2) ∈ tri s w f g)) ∧
      ∀ r y z, (r, y, z) ∈ tri s w f g → ∃ q ∈ rows s w f g, (q.1.1 ≤ r ∧ r ≤ q.1.2) ∧ (q.2.1.1 ≤ y ∧ y ≤ q.2.1.2) ∧ (q.2.2.1 ≤ z ∧ z ≤ q.2.2.2) := by
    obtain ⟨f0, f1, f2⟩ := hf
    cases hs : s.sum with
    | true =>
      have hok : ∀ z, ok s z = true := fun z => by simp [ok, hs]
      have hm : ∀ q, q ∈ rows s w f g ↔ ∃ y, (f.1 ≤ y ∧ y ≤ f.2) ∧ (part s y w g).1 ≤ (part s y w g).2 ∧ q = (st (mk s y (part s y w g).1) (mk s y (part s y w g).2), (y, y), part s y w g) := by
        intro q
        unfold rows
        rw [if_pos hs]
        simp only [List.mem_map, List.mem_filter, rng_in, decide_eq_true_eq]
        constructor
        · rintro ⟨q', ⟨⟨y, hy, rfl⟩, hl⟩, rfl⟩
          exact ⟨y, hy, hl, rfl⟩
        · rintro ⟨y, hy, hl, rfl⟩
          exact ⟨_, ⟨⟨y, hy, rfl⟩, hl⟩, rfl⟩
      have hin : ∀ y z, (f.1 ≤ y ∧ y ≤ f.2) → (part s y w g).1 ≤ z → z ≤ (part s y w g).2 → (mk s y z, y, z) ∈ tri s w f g := by
        intro y z hy h1 h2
        obtain ⟨a, b, c, d⟩ := (part_in hs (by omega) hg).mpr ⟨h1, h2⟩
        exact tri_in.mpr ⟨hy, ⟨a, b⟩, hok z, rfl, c, d⟩
      constructor
      · intro q hq
        obtain ⟨y, hy, hl, rfl⟩ := (hm q).mp hq
        have i1 := hin y _ hy (Int.le_refl _) hl
        have i2 := hin y _ hy hl (Int.le_refl _)
        obtain ⟨e1, e2⟩ := st_ends (mk s y (part s y w g).1) (mk s y (part s y w g).2)
        refine ⟨?_, ?_, ⟨_, _, i1⟩, ⟨_, _, i1⟩, ⟨_, _, i1⟩, ⟨_, _, i2⟩⟩
        · rcases e1 with e | e
          · exact ⟨_, _, by dsimp only; rw [e]; exact i1⟩
          · exact ⟨_, _, by dsimp only; rw [e]; exact i2⟩
        · rcases e2 with e | e
          · exact ⟨_, _, by dsimp only; rw [e]; exact i1⟩
          · exact ⟨_, _, by dsimp only; rw [e]; exact i2⟩
      · intro r y z h
        obtain ⟨hy, hz, _, rfl, c, d⟩ := tri_in.mp h
        obtain ⟨p1, p2⟩ := (part_in hs (by omega) hg).mp ⟨hz.1, hz.2, c, d⟩
        exact ⟨_, (hm _).mpr ⟨y, hy, by omega, rfl⟩, mk_between hs p1 p2, ⟨Int.le_refl _, Int.le_refl _⟩, p1, p2⟩
    | false =>
      obtain ⟨g0, g1, g2⟩ := hg
      have hok : ∀ z, ok s z = true ↔ z ≠ 0 := fun z => by simp [ok, hs]
      have hm : ∀ q, q ∈ rows s w f g ↔ ∃ z, (g.1 ≤ z ∧ z ≤ g.2) ∧ z ≠ 0 ∧ q = ((if s = .over then st (f.1.fdiv z) (f.2.fdiv z) else rs f.1 f.2 z), f, (z, z)) := by
        intro q
        unfold rows
        rw [if_neg (by rw [hs]; decide)]
        simp only [List.mem_map, List.mem_filter, rng_in, decide_eq_true_eq]
        constructor
        · rintro ⟨z, ⟨hz, h0⟩, rfl⟩
          exact ⟨z, hz, h0, rfl⟩
        · rintro ⟨z, hz, h0, rfl⟩
          exact ⟨z, ⟨hz, h0⟩, rfl⟩
      have hin : ∀ y z, (f.1 ≤ y ∧ y ≤ f.2) → (g.1 ≤ z ∧ z ≤ g.2) → z ≠ 0 → (mk s y z, y, z) ∈ tri s w f g := by
        intro y z hy hz h0
        obtain ⟨c, d⟩ := quot_keep hs h0 hw (y := y) (by omega) (by omega)
        exact tri_in.mpr ⟨hy, hz, (hok z).mpr h0, rfl, c, d⟩
      have hends : ∀ z, z ≠ 0 → let p := (if s = .over then st (f.1.fdiv z) (f.2.fdiv z) else rs f.1 f.2 z); (∃ y, (f.1 ≤ y ∧ y ≤ f.2) ∧ p.1 = mk s y z) ∧ (∃ y, (f.1 ≤ y ∧ y ≤ f.2) ∧ p.2 = mk s y z) ∧ ∀ y, f.1 ≤ y → y ≤ f.2 → p.1 ≤ mk s y z ∧ mk s y z ≤ p.2 := by
        intro z h0
        cases s with
        | plus => cases hs
        | minus => cases hs
        | times => cases hs
        | over =>
          rw [if_pos rfl]
          obtain ⟨e1, e2⟩ := st_ends (f.1.fdiv z) (f.2.fdiv z)
          refine ⟨?_, ?_, fun y h1 h2 => fdiv_between h0 h1 h2⟩
          · rcases e1 with e | e
            · exact ⟨f.1, ⟨by omega, by omega⟩, e⟩
            · exact ⟨f.2, ⟨by omega, by omega⟩, e⟩
          · rcases e2 with e | e
            · exact ⟨f.1, ⟨by omega, by omega⟩, e⟩
            · exact ⟨f.2, ⟨by omega, by omega⟩, e⟩
        | rest =>
          rw [if_neg (by decide)]
          obtain ⟨⟨y, a1, a2, a3⟩, ⟨x, b1, b2, b3⟩⟩ := rs_ends (lo := f.1) (hi := f.2) h0 f1
          exact ⟨⟨y, ⟨a1, a2⟩, a3⟩, ⟨x, ⟨b1, b2⟩, b3⟩, fun y h1 h2 => rs_in h0 h1 h2⟩
      constructor
      · intro q hq
        obtain ⟨z, hz, h0, rfl⟩ := (hm q).mp hq
        obtain ⟨⟨y, hy, e1⟩, ⟨x, hx, e2⟩, _⟩ := hends z h0
        refine ⟨⟨y, z, ?_⟩, ⟨x, z, ?_⟩, ⟨_, z, hin f.1 z ⟨by omega, by omega⟩ hz h0⟩, ⟨_, z, hin f.2 z ⟨by omega, by omega⟩ hz h0⟩, ⟨_, _, hin y z hy hz h0⟩, ⟨_, _, hin y z hy hz h0⟩⟩
        · dsimp only; rw [e1]; exact hin y z hy hz h0
        · dsimp only; rw [e2]; exact hin x z hx hz h0
      · intro r y z h
        obtain ⟨hy, hz, ho, rfl, c, d⟩ := tri_in.mp h
        have h0 := (hok z).mp ho
        obtain ⟨_, _, k⟩ := hends z h0
        exact ⟨_, (hm _).mpr ⟨z, hz, h0, rfl⟩, k y hy.1 hy.2, hy, Int.le_refl _, Int.le_refl _⟩
  obtain ⟨k1, k2⟩ := key
  refine ⟨sp_mm ?_ ?_, sp_mm ?_ ?_, sp_mm ?_ ?_⟩
  · intro p hp
    obtain ⟨q, hq, rfl⟩ := List.mem_map.mp hp
    obtain ⟨⟨_, _, a⟩, ⟨_, _, b⟩, _⟩ := k1 q hq
    exact ⟨List.mem_map.mpr ⟨_, a, rfl⟩, List.mem_map.mpr ⟨_, b, rfl⟩⟩
  · intro x hx
    obtain ⟨⟨r, y, z⟩, ht, rfl⟩ := List.mem_map.mp hx
    obtain ⟨q, hq, c, _⟩ := k2 r y z ht
    exact ⟨_, List.mem_map_of_mem hq, c⟩
  · intro p hp
    obtain ⟨q, hq, rfl⟩ := List.mem_map.mp hp
    obtain ⟨_, _, ⟨_, _, a⟩, ⟨_, _, b⟩, _⟩ := k1 q hq
    exact ⟨List.mem_map.mpr ⟨_, a, rfl⟩, List.mem_map.mpr ⟨_, b, rfl⟩⟩
  · intro x hx
    obtain ⟨⟨r, y, z⟩, ht, rfl⟩ := List.mem_map.mp hx
    obtain ⟨q, hq, _, c, _⟩ := k2 r y z ht
    exact ⟨_, List.mem_map_of_mem hq, c⟩
  · intro p hp
    obtain ⟨q, hq, rfl⟩ := List.mem_map.mp hp
    obtain ⟨_, _, _, _, ⟨_, _, a⟩, ⟨_, _, b⟩⟩ := k1 q hq
    exact ⟨List.mem_map.mpr ⟨_, a, rfl⟩, List.mem_map.mpr ⟨_, b, rfl⟩⟩
  · intro x hx
    obtain ⟨⟨r, y, z⟩, ht, rfl⟩ := List.mem_map.mp hx
    obtain ⟨q, hq, _, _, c⟩ := k2 r y z ht
    exact ⟨_, List.mem_map_of_mem hq, c⟩
end Sums
end MP

end
section
set_option Elab.async false
set_option linter.all false
set_option maxRecDepth 100000
set_option maxHeartbeats 4000000
/-! PS: what the program's pairs tells. -/
namespace MP
namespace Sums
open PySem PySem.Spec PyProof.Rows L2
def F0 : Fn := ⟨3, 3, [], [
  .ite (.op .eq [.var 0, .cst (.str "plus")]) [
    .ret (.op .add [.var 1, .var 2])] [],
  .ite (.op .eq [.var 0, .cst (.str "minus")]) [
    .ret (.op .sub [.var 1, .var 2])] [],
  .ite (.op .eq [.var 0, .cst (.str "times")]) [
    .ret (.op .mul [.var 1, .var 2])] [],
  .ret (.ite (.op .eq [.var 0, .cst (.str "over")]) (.op .fdiv [.var 1, .var 2]) (.op .mod [.var 1, .var 2]))]⟩
def F1 : Fn := ⟨4, 7, [], [
  .asg (.tp [.nm 4, .nm 5]) (.var 2),
  .ite (.op .eq [.var 0, .cst (.str "plus")]) [
    .ret (.tup [.op .max [.var 4, .op .sub [.op .neg [.var 3], .var 1]], .op .min [.var 5, .op .sub [.var 3, .var 1]]])] [],
  .ite (.op .eq [.var 0, .cst (.str "minus")]) [
    .ret (.tup [.op .max [.var 4, .op .sub [.var 1, .var 3]], .op .min [.var 5, .op .add [.var 1, .var 3]]])] [],
  .asg (.nm 6) (.ite (.op .ne [.var 1, .cst (.int 0)]) (.op .fdiv [.var 3, .op .abs [.var 1]]) (.var 3)),
  .ret (.tup [.op .max [.var 4, .op .neg [.var 6]], .op .min [.var 5, .var 6]])]⟩
def F2 : Fn := ⟨2, 4, [], [
  .asg (.tp [.nm 2, .nm 3]) (.var 0),
  .ite (.op .lt [.var 1, .cst (.int 0)]) [
    .asg (.tp [.nm 2, .nm 3]) (.call 2 [.tup [.op .neg [.var 3], .op .neg [.var 2]], .op .neg [.var 1]] [.a 0, .a 1]),
    .ret (.tup [.op .neg [.var 3], .op .neg [.var 2]])] [],
  .ite (.op .ne [.op .fdiv [.var 2, .var 1], .op .fdiv [.var 3, .var 1]]) [
    .ret (.tup [.cst (.int 0), .op .sub [.var 1, .cst (.int 1)]])] [],
  .ret (.tup [.op .mod [.var 2, .var 1], .op .mod [.var 3, .var 1]])]⟩
def F3 : Fn := ⟨2, 2, [], [
  .ret (.tup [.op .min [.var 0, .var 1], .op .max [.var 0, .var 1]])]⟩
abbrev F4_c0 : E := .lc [5] (.nm 5) (.itr .range [.op .ix [.var 1, .cst (.int 0)], .op .add [.op .ix [.var 1, .cst (.int 1)], .cst (.int 1)]]) (.cst (.bl true)) (.tup [.var 5, .call 1 [.var 0, .var 5, .var 2, .var 3] [.a 0, .a 1, .a 2, .a 3]])
abbrev F4_c1 : E := .lc [5, 6, 7] (.tp [.nm 5, .tp [.nm 6, .nm 7]]) (.var 4) (.op .le [.var 6, .var 7]) (.tup [.call 3 [.call 0 [.var 0, .var 5, .var 6] [.a 0, .a 1, .a 2], .call 0 [.var 0, .var 5, .var 7] [.a 0, .a 1, .a 2]] [.a 0, .a 1], .tup [.var 5, .var 5], .tup [.var 6, .var 7]])
abbrev F4_c2 : E := .lc [8] (.nm 8) (.itr .range [.op .ix [.var 2, .cst (.int 0)], .op .add [.op .ix [.var 2, .cst (.int 1)], .cst (.int 1)]]) (.op .ne [.var 8, .cst (.int 0)]) (.var 8)
abbrev F4_c3 : E := .lc [8] (.nm 8) (.var 4) (.cst (.bl true)) (.tup [.call 3 [.op .fdiv [.op .ix [.var 1, .cst (.int 0)], .var 8], .op .fdiv [.op .ix [.var 1, .cst (.int 1)], .var 8]] [.a 0, .a 1], .var 1, .tup [.var 8, .var 8]])
abbrev F4_c4 : E := .lc [8] (.nm 8) (.var 4) (.cst (.bl true)) (.tup [.call 2 [.var 1, .var 8] [.a 0, .a 1], .var 1, .tup [.var 8, .var 8]])
def F4 : Fn := ⟨4, 9, [], [
  .ite (.op .inn [.var 0, .cst (.tup [.str "plus", .str "minus", .str "times"])]) [
    .asg (.nm 4) (F4_c0),
    .ret (F4_c1)] [],
  .asg (.nm 4) (F4_c2),
  .ite (.op .eq [.var 0, .cst (.str "over")]) [
    .ret (F4_c3)] [],
  .ret (F4_c4)]⟩
abbrev F5_c0 : E := .lc [1, 2] (.tp [.nm 1, .nm 2]) (.var 0) (.cst (.bl true)) (.var 1)
abbrev F5_c1 : E := .lc [1, 2] (.tp [.nm 1, .nm 2]) (.var 0) (.cst (.bl true)) (.var 2)
def F5 : Fn := ⟨1, 3, [], [
  .ite (.op .eq [.var 0, .lst []]) [
    .ret (.cst (.non))] [],
  .ret (.tup [.op .min [F5_c0], .op .max [F5_c1]])]⟩
abbrev F6_c0 : E := .lc [6] (.nm 6) (.var 4) (.cst (.bl true)) (.op .ix [.var 6, .var 5])
abbrev F6_c1 : E := .lc [5] (.nm 5) (.itr .range [.cst (.int 3)]) (.cst (.bl true)) (.call 5 [F6_c0] [.a 0])
def F6 : Fn := ⟨4, 7, [], [
  .ite (.bor (.op .isN [.var 1]) (.op .isN [.var 2])) [
    .ret (.tup [.cst (.non), .cst (.non), .cst (.non)])] [],
  .asg (.nm 4) (.call 4 [.var 0, .var 1, .var 2, .var 3] [.a 0, .a 1, .a 2, .a 3]),
  .ret (.op .tuple [F6_c1])]⟩

/-- the program's defs stand there -/
structure Has (T : List Fn) : Prop where
  h0 : T[0]? = some F0
  h1 : T[1]? = some F1
  h2 : T[2]? = some F2
  h3 : T[3]? = some F3
  h4 : T[4]? = some F4
  h5 : T[5]? = some F5
  h6 : T[6]? = some F6
theorem s_ne (a b : Sg) : (a.s = b.s) = (a = b) := by cases a <;> cases b <;> simp [Sg.s] <;> decide
theorem q0 (a : Sg) : (a.s = "plus") = (a = .plus) := s_ne a .plus
theorem q1 (a : Sg) : (a.s = "minus") = (a = .minus) := s_ne a .minus
theorem q2 (a : Sg) : (a.s = "times") = (a = .times) := s_ne a .times
theorem q3 (a : Sg) : (a.s = "over") = (a = .over) := s_ne a .over
theorem q4 (a : Sg) : (a.s = "rest") = (a = .rest) := s_ne a .rest
section
variable {T : List Fn} (H : Has T)
include H
theorem made_ok (k : Nat) (s : Sg) (y z : Int) (hz : s.sum = false → z ≠ 0) (hy : y.natAbs < 200) (hz2 : z.natAbs < 200) : fns T (k + 1) 0 [.str s.s, .int y, .int z] = .ok (.int (mk s y z), [.str s.s, .int y, .int z]) [] := by
  rw [fns_at H.h0]
  have k1 : mulOk y z = true := mulOk64 (by omega) (by omega)
  have k2 : z.natAbs.log2 < 9000 := Nat.lt_trans (log_small (n := 8) (by omega) (by decide)) (by decide)
  cases s with
  | plus => simp [runFn, startR, exs, ex, evT, evB, evVs, evAs, evOs, evV, takeP, rootOf, quiet, quietAll, M.bind, M.pure, M.lift, opSem, D.truth, asgT, asgTs, setSlot, chkS, chkL, mutV, mopSem, movS, setV, mutS, MP.pick, callD, putS, D.isFrz, frzAll, D.frz, mapFrz, outsOk, outsOf, inLine, sizeLine_eq, sAdd, sSub, sNeg, sLt, sLe, sGt, sGe, sIsN, sNotN, sNot, iN0, iN1, iN2, iN3, iN4, iN5, iN6, sLen, sMin, sMax, s_abs, sInt, opt, F0, sEq, q0, q1, q2, q3, mk]
  | minus => simp [runFn, startR, exs, ex, evT, evB, evVs, evAs, evOs, evV, takeP, rootOf, quiet, quietAll, M.bind, M.pure, M.lift, opSem, D.truth, asgT, asgTs, setSlot, chkS, chkL, mutV, mopSem, movS, setV, mutS, MP.pick, callD, putS, D.isFrz, frzAll, D.frz, mapFrz, outsOk, outsOf, inLine, sizeLine_eq, sAdd, sSub, sNeg, sLt, sLe, sGt, sGe, sIsN, sNotN, sNot, iN0, iN1, iN2, iN3, iN4, iN5, iN6, sLen, sMin, sMax, s_abs, sInt, opt, F0, sEq, q0, q1, q2, q3, mk]
  | times => simp [runFn, startR, exs, ex, evT, evB, evVs, evAs, evOs, evV, takeP, rootOf, quiet, quietAll, M.bind, M.pure, M.lift, opSem, D.truth, asgT, asgTs, setSlot, chkS, chkL, mutV, mopSem, movS, setV, mutS, MP.pick, callD, putS, D.isFrz, frzAll, D.frz, mapFrz, outsOk, outsOf, inLine, sizeLine_eq, sAdd, sSub, sNeg, sLt, sLe, sGt, sGe, sIsN, sNotN, sNot, iN0, iN1, iN2, iN3, iN4, iN5, iN6, sLen, sMin, sMax, s_abs, sInt, opt, F0, sEq, q0, q1, q2, q3, mk, s_mul, k1]
  | over => have h0 := hz rfl; simp [runFn, startR, exs, ex, evT, evB, evVs, evAs, evOs, evV, takeP, rootOf, quiet, quietAll, M.bind, M.pure, M.lift, opSem, D.truth, asgT, asgTs, setSlot, chkS, chkL, mutV, mopSem, movS, setV, mutS, MP.pick, callD, putS, D.isFrz, frzAll, D.frz, mapFrz, outsOk, outsOf, inLine, sizeLine_eq, sAdd, sSub, sNeg, sLt, sLe, sGt, sGe, sIsN, sNotN, sNot, iN0, iN1, iN2, iN3, iN4, iN5, iN6, sLen, sMin, sMax, s_abs, sInt, opt, F0, sEq, q0, q1, q2, q3, mk, s_fdiv, k2, h0]
  | rest => have h0 := hz rfl; simp [runFn, startR, exs, ex, evT, evB, evVs, evAs, evOs, evV, takeP, rootOf, quiet, quietAll, M.bind, M.pure, M.lift, opSem, D.truth, asgT, asgTs, setSlot, chkS, chkL, mutV, mopSem, movS, setV, mutS, MP.pick, callD, putS, D.isFrz, frzAll, D.frz, mapFrz, outsOk, outsOf, inLine, sizeLine_eq, sAdd, sSub, sNeg, sLt, sLe, sGt, sGe, sIsN, sNotN, sNot, iN0, iN1, iN2, iN3, iN4, iN5, iN6, sLen, sMin, sMax, s_abs, sInt, opt, F0, sEq, q0, q1, q2, q3, mk, s_mod, h0]
def dpr (p : Int × Int) : D := .tup [.int p.1, .int p.2]
theorem partners_ok (k : Nat) (s : Sg) (y w : Int) (g : Int × Int) (hs : s.sum = true) (hy : y.natAbs < 200) : fns T (k + 1) 1 [.str s.s, .int y, dpr g, .int w] = .ok (dpr (part s y w g), [.str s.s, .int y, dpr g, .int w]) [] := by
  rw [fns_at H.h1]
  have k2 : (ab y).natAbs.log2 < 9000 := Nat.lt_trans (log_small (n := 8) (by unfold ab; split <;> omega) (by decide)) (by decide)
  cases s with
  | plus => simp [runFn, startR, exs, ex, evT, evB, evVs, evAs, evOs, evV, takeP, rootOf, quiet, quietAll, M.bind, M.pure, M.lift, opSem, D.truth, asgT, asgTs, setSlot, chkS, chkL, mutV, mopSem, movS, setV, mutS, MP.pick, callD, putS, D.isFrz, frzAll, D.frz, mapFrz, outsOk, outsOf, inLine, sizeLine_eq, sAdd, sSub, sNeg, sLt, sLe, sGt, sGe, sIsN, sNotN, sNot, iN0, iN1, iN2, iN3, iN4, iN5, iN6, sLen, sMin, sMax, s_abs, sInt, opt, F1, sEq, q0, q1, dpr, part, pmx, pmn]
  | minus => simp [runFn, startR, exs, ex, evT, evB, evVs, evAs, evOs, evV, takeP, rootOf, quiet, quietAll, M.bind, M.pure, M.lift, opSem, D.truth, asgT, asgTs, setSlot, chkS, chkL, mutV, mopSem, movS, setV, mutS, MP.pick, callD, putS, D.isFrz, frzAll, D.frz, mapFrz, outsOk, outsOf, inLine, sizeLine_eq, sAdd, sSub, sNeg, sLt, sLe, sGt, sGe, sIsN, sNotN, sNot, iN0, iN1, iN2, iN3, iN4, iN5, iN6, sLen, sMin, sMax, s_abs, sInt, opt, F1, sEq, q0, q1, dpr, part, pmx, pmn]
  | times =>
    by_cases h : y = 0
    · simp [runFn, startR, exs, ex, evT, evB, evVs, evAs, evOs, evV, takeP, rootOf, quiet, quietAll, M.bind, M.pure, M.lift, opSem, D.truth, asgT, asgTs, setSlot, chkS, chkL, mutV, mopSem, movS, setV, mutS, MP.pick, callD, putS, D.isFrz, frzAll, D.frz, mapFrz, outsOk, outsOf, inLine, sizeLine_eq, sAdd, sSub, sNeg, sLt, sLe, sGt, sGe, sIsN, sNotN, sNot, iN0, iN1, iN2, iN3, iN4, iN5, iN6, sLen, sMin, sMax, s_abs, sInt, opt, F1, sEq, sNe, eq_int, q0, q1, dpr, part, pmx, pmn, most, h]
    · have h2 := ab_pos h
      have e : sFdiv [.int w, .int (ab y)] = some (.int (w.fdiv (ab y))) := s_fdiv (by show ab y ≠ 0; omega) k2
      simp [runFn, startR, exs, ex, evT, evB, evVs, evAs, evOs, evV, takeP, rootOf, quiet, quietAll, M.bind, M.pure, M.lift, opSem, D.truth, asgT, asgTs, setSlot, chkS, chkL, mutV, mopSem, movS, setV, mutS, MP.pick, callD, putS, D.isFrz, frzAll, D.frz, mapFrz, outsOk, outsOf, inLine, sizeLine_eq, sAdd, sSub, sNeg, sLt, sLe, sGt, sGe, sIsN, sNotN, sNot, iN0, iN1, iN2, iN3, iN4, iN5, iN6, sLen, sMin, sMax, s_abs, sInt, opt, F1, sEq, sNe, eq_int, q0, q1, dpr, part, pmx, pmn, most, h, e]
  | over => cases hs
  | rest => cases hs
theorem rests_pos (k : Nat) (lo hi z : Int) (hz : 0 < z) (hz2 : z < 200) : fns T (k + 1) 2 [dpr (lo, hi), .int z] = .ok (dpr (rr lo hi z), [dpr (lo, hi), .int z]) [] := by
  rw [fns_at H.h2]
  have h0 : z ≠ 0 := by omega
  have h1 : ¬ z < 0 := by omega
  have k2 : z.natAbs.log2 < 9000 := Nat.lt_trans (log_small (n := 8) (by omega) (by decide)) (by decide)
  by_cases h : lo.fdiv z = hi.fdiv z
  · simp [runFn, startR, exs, ex, evT, evB, evVs, evAs, evOs, evV, takeP, rootOf, quiet, quietAll, M.bind, M.pure, M.lift, opSem, D.truth, asgT, asgTs, setSlot, chkS, chkL, mutV, mopSem, movS, setV, mutS, MP.pick, callD, putS, D.isFrz, frzAll, D.frz, mapFrz, outsOk, outsOf, inLine, sizeLine_eq, sAdd, sSub, sNeg, sLt, sLe, sGt, sGe, sIsN, sNotN, sNot, iN0, iN1, iN2, iN3, iN4, iN5, iN6, sLen, sMin, sMax, s_abs, sInt, opt, F2, sNe, eq_int, dpr, rr, h, h0, h1, s_fdiv, s_mod, k2]
  · simp [runFn, startR, exs, ex, evT, evB, evVs, evAs, evOs, evV, takeP, rootOf, quiet, quietAll, M.bind, M.pure, M.lift, opSem, D.truth, asgT, asgTs, setSlot, chkS, chkL, mutV, mopSem, movS, setV, mutS, MP.pick, callD, putS, D.isFrz, frzAll, D.frz, mapFrz, outsOk, outsOf, inLine, sizeLine_eq, sAdd, sSub, sNeg, sLt, sLe, sGt, sGe, sIsN, sNotN, sNot, iN0, iN1, iN2, iN3, iN4, iN5, iN6, sLen, sMin, sMax, s_abs, sInt, opt, F2, sNe, eq_int, dpr, rr, h, h0, h1, s_fdiv, s_mod, k2]
theorem rests_ok (k : Nat) (f : Int × Int) (z : Int) (h0 : z ≠ 0) (hz2 : z.natAbs < 200) : fns T (k + 2) 2 [dpr f, .int z] = .ok (dpr (rs f.1 f.2 z), [dpr f, .int z]) [] := by
  obtain ⟨lo, hi⟩ := f
  unfold rs
  split
  · rename_i h
    have e := rests_pos H k (-hi) (-lo) (-z) (by omega) (by omega)
    rw [fns_at H.h2]
    simp only [dpr] at e ⊢
    simp [runFn, startR, exs, ex, evT, evB, evVs, evAs, evOs, evV, takeP, rootOf, quiet, quietAll, M.bind, M.pure, M.lift, opSem, D.truth, asgT, asgTs, setSlot, chkS, chkL, mutV, mopSem, movS, setV, mutS, MP.pick, callD, putS, D.isFrz, frzAll, D.frz, mapFrz, outsOk, outsOf, inLine, sizeLine_eq, sAdd, sSub, sNeg, sLt, sLe, sGt, sGe, sIsN, sNotN, sNot, iN0, iN1, iN2, iN3, iN4, iN5, iN6, sLen, sMin, sMax, s_abs, sInt, opt, F2, h, e]
  · exact rests_pos H (k + 1) lo hi z (by omega) (by omega)
theorem st_ok (k : Nat) (a b : Int) : fns T (k + 1) 3 [.int a, .int b] = .ok (dpr (st a b), [.int a, .int b]) [] := by
  rw [fns_at H.h3]
  simp [runFn, startR, exs, ex, evT, evB, evVs, evAs, evOs, evV, takeP, rootOf, quiet, quietAll, M.bind, M.pure, M.lift, opSem, D.truth, asgT, asgTs, setSlot, chkS, chkL, mutV, mopSem, movS, setV, mutS, MP.pick, callD, putS, D.isFrz, frzAll, D.frz, mapFrz, outsOk, outsOf, inLine, sizeLine_eq, sAdd, sSub, sNeg, sLt, sLe, sGt, sGe, sIsN, sNotN, sNot, iN0, iN1, iN2, iN3, iN4, iN5, iN6, sLen, sMin, sMax, s_abs, sInt, opt, F3, dpr, st, pmn, pmx]
omit H
def dRow (r : Row) : D := .tup [dpr r.1, dpr r.2.1, dpr r.2.2]
theorem dpr_z (p : Int × Int) : (dpr p).isFrz = true ∧ (dpr p).frz = dpr p := ⟨rfl, rfl⟩
theorem dRow_z (r : Row) : (dRow r).isFrz = true ∧ (dRow r).frz = dRow r := ⟨rfl, rfl⟩
theorem in_sums (s : Sg) : sInn [.str s.s, .tup [.str "plus", .str "minus", .str "times"]] = some (.bl s.sum) := by
  cases s <;> simp [sInn, inScal, D.isScal, D.py, PyData.eqv, Sg.s, Sg.sum] <;> decide
theorem rng_small {w : Int} {f : Int × Int} (hf : Str0 w f) (hw : w ≤ 100) : (rng f.1 f.2).length ≤ 201 := by
  obtain ⟨a, b, c⟩ := hf
  rw [rng_length]
  omega
theorem range_ok {Γ : Fns} {i : Nat} {ρ : Rho} {w : Int} {f : Int × Int} (h : ρ[i]? = some (some (dpr f))) (hf : Str0 w f) (hw : w ≤ 100) : evI Γ (.itr .range [.op .ix [.var i, .cst (.int 0)], .op .add [.op .ix [.var i, .cst (.int 1)], .cst (.int 1)]]) ρ = .ok (dI (rng f.1 f.2)) ρ := by
  obtain ⟨a, b, c⟩ := hf
  exact evI_range (by simp [evVs, evB, evOs, h, dpr, M.bind, M.pure, M.lift, takeP, rootOf, quiet, quietAll, opSem, sIx, at0, at1, sAdd, D.isFrz, frzAll, D.frz]) (by omega) (by omega) (by omega) (by omega)
include H
theorem c0_ok (k : Nat) (s : Sg) (w : Int) (f g : Int × Int) (hs : s.sum = true) (hf : Str0 w f) (hw : w ≤ 100) (x4 x5 x6 x7 x8 : Option D) :
    evB (fns T (k + 2)) F4_c0 [some (.str s.s), some (dpr f), some (dpr g), some (.int w), x4, x5, x6, x7, x8] = .ok (.lst true ((rng f.1 f.2).map fun y => .tup [.int y, dpr (part s y w g)])) [some (.str s.s), some (dpr f), some (dpr g), some (.int w), x4, x5, x6, x7, x8] := by
  refine lc_map (f := D.int) (range_ok rfl hf hw) (by have := rng_small hf hw; omega) fun y hy => ?_
  have e := partners_ok H (k + 1) s y w g hs (by have := rng_in.mp hy; obtain ⟨a, b, c⟩ := hf; omega)
  simp [turnF, wipeR, asgT, asgTs, setSlot, M.bind, M.pure, M.lift, evT, evB, evOs, evVs, evAs, opSem, D.truth, takeP, rootOf, quiet, quietAll, D.isFrz, frzAll, D.frz, mapFrz, MP.pick, callD, putS, inLine, sizeLine_eq, sAdd, sSub, sNeg, sLt, sLe, sGt, sGe, sIsN, sNotN, sNot, iN0, iN1, iN2, iN3, iN4, iN5, iN6, sLen, s_abs, sInt, opt, e, dpr_z]
theorem c1_ok (k : Nat) (s : Sg) (w : Int) (f g : Int × Int) (hs : s.sum = true) (hf : Str0 w f) (hg : Str0 w g) (hw : w ≤ 100) (u : Bool) (x5 x6 x7 x8 : Option D) :
    ∃ ρ, evB (fns T (k + 2)) F4_c1 [some (.str s.s), some (dpr f), some (dpr g), some (.int w), some (.lst u ((rng f.1 f.2).map fun y => .tup [.int y, dpr (part s y w g)])), x5, x6, x7, x8] = .ok (.lst true ((rows s w f g).map dRow)) ρ := by
  have e : rows s w f g = (((rng f.1 f.2).map fun y => (y, part s y w g)).filter fun q => decide (q.2.1 ≤ q.2.2)).map fun q => (st (mk s q.1 q.2.1) (mk s q.1 q.2.2), (q.1, q.1), q.2) := by
    unfold rows
    rw [if_pos hs]
  have e2 : ((rng f.1 f.2).map fun y => D.tup [.int y, dpr (part s y w g)]) = ((rng f.1 f.2).map fun y => (y, part s y w g)).map fun q => .tup [.int q.1, dpr q.2] := by
    rw [List.map_map]
    rfl
  rw [e, e2]
  refine ⟨_, (lc_filt (l := (rng f.1 f.2).map fun y => (y, part s y w g)) (f := fun q => .tup [.int q.1, dpr q.2]) (p := fun q => decide (q.2.1 ≤ q.2.2)) (g := dRow ∘ fun q => (st (mk s q.1 q.2.1) (mk s q.1 q.2.2), (q.1, q.1), q.2)) (evI_nm rfl fun a _ => ⟨rfl, rfl⟩) (by rw [List.length_map]; have := rng_small hf hw; omega) fun q hq => ?_).trans (congrArg (fun x => Res.ok (D.lst true x) _) (List.map_map ..).symm)⟩
  obtain ⟨y, hy, rfl⟩ := List.mem_map.mp hq
  have hy1 := rng_in.mp hy
  obtain ⟨f0, f1, f2⟩ := hf
  obtain ⟨g0, g1, g2⟩ := hg
  have hz : s.sum = false → ∀ z : Int, z ≠ 0 := fun z => absurd z (by rw [hs]; decide)
  by_cases hl : (part s y w g).1 ≤ (part s y w g).2
  · obtain ⟨p1, p2, _⟩ := (part_in hs (show 0 ≤ w by omega) ⟨g0, g1, g2⟩).mpr ⟨Int.le_refl _, hl⟩
    obtain ⟨p3, p4, _⟩ := (part_in hs (show 0 ≤ w by omega) ⟨g0, g1, g2⟩).mpr ⟨hl, Int.le_refl _⟩
    have m1 := made_ok H (k + 1) s y (part s y w g).1 (fun z => hz z _) (by omega) (by omega)
    have m2 := made_ok H (k + 1) s y (part s y w g).2 (fun z => hz z _) (by omega) (by omega)
    have m3 := st_ok H (k + 1) (mk s y (part s y w g).1) (mk s y (part s y w g).2)
    cases u <;> simp [turnF, wipeR, asgT, asgTs, setSlot, M.bind, M.pure, M.lift, evT, evB, evOs, evVs, evAs, opSem, D.truth, takeP, rootOf, quiet, quietAll, D.isFrz, frzAll, D.frz, mapFrz, MP.pick, callD, putS, inLine, sizeLine_eq, sAdd, sSub, sNeg, sLt, sLe, sGt, sGe, sIsN, sNotN, sNot, iN0, iN1, iN2, iN3, iN4, iN5, iN6, sLen, s_abs, sInt, opt, dpr, m1, m2, m3, hl, dRow]
  · cases u <;> simp [turnF, wipeR, asgT, asgTs, setSlot, M.bind, M.pure, M.lift, evT, evB, evOs, evVs, evAs, opSem, D.truth, takeP, rootOf, quiet, quietAll, D.isFrz, frzAll, D.frz, mapFrz, MP.pick, callD, putS, inLine, sizeLine_eq, sAdd, sSub, sNeg, sLt, sLe, sGt, sGe, sIsN, sNotN, sNot, iN0, iN1, iN2, iN3, iN4, iN5, iN6, sLen, s_abs, sInt, opt, dpr, hl]
theorem c2_ok (k : Nat) (w : Int) (g : Int × Int) (hg : Str0 w g) (hw : w ≤ 100) (x0 x1 x3 x4 x5 x6 x7 x8 : Option D) :
    evB (fns T k) F4_c2 [x0, x1, some (dpr g), x3, x4, x5, x6, x7, x8] = .ok (.lst true (((rng g.1 g.2).filter fun z => decide (z ≠ 0)).map .int)) [x0, x1, some (dpr g), x3, x4, x5, x6, x7, x8] := by
  refine lc_filt (f := D.int) (p := fun z => decide (z ≠ 0)) (g := D.int) (range_ok rfl hg hw) (by have := rng_small hg hw; omega) fun z hz => ?_
  by_cases h : z = 0 <;> simp [turnF, wipeR, asgT, asgTs, setSlot, M.bind, M.pure, M.lift, evT, evB, evOs, evVs, evAs, opSem, D.truth, takeP, rootOf, quiet, quietAll, D.isFrz, frzAll, D.frz, mapFrz, MP.pick, callD, putS, inLine, sizeLine_eq, sAdd, sSub, sNeg, sLt, sLe, sGt, sGe, sIsN, sNotN, sNot, iN0, iN1, iN2, iN3, iN4, iN5, iN6, sLen, s_abs, sInt, opt, sNe, eq_int, h]
theorem c34_ok (k : Nat) (s : Sg) (w : Int) (f g : Int × Int) (hs : s.sum = false) (hf : Str0 w f) (hg : Str0 w g) (hw : w ≤ 100) (u : Bool) (x0 x2 x3 x5 x6 x7 x8 : Option D) :
    ∃ ρ, evB (fns T (k + 2)) (if s = .over then F4_c3 else F4_c4) [x0, some (dpr f), x2, x3, some (.lst u (((rng g.1 g.2).filter fun z => decide (z ≠ 0)).map .int)), x5, x6, x7, x8] = .ok (.lst true ((rows s w f g).map dRow)) ρ := by
  have e : rows s w f g = ((rng g.1 g.2).filter fun z => decide (z ≠ 0)).map fun z => ((if s = .over then st (f.1.fdiv z) (f.2.fdiv z) else rs f.1 f.2 z), f, (z, z)) := by
    unfold rows
    rw [if_neg (by rw [hs]; decide)]
  have hl : ((rng g.1 g.2).filter fun z => decide (z ≠ 0)).length ≤ 201 := Nat.le_trans (List.length_filter_le _ _) (rng_small hg hw)
  have hb : ∀ z ∈ (rng g.1 g.2).filter fun z => decide (z ≠ 0), z ≠ 0 ∧ z.natAbs < 200 := by
    intro z hz
    simp only [List.mem_filter, rng_in, decide_eq_true_eq] at hz
    obtain ⟨g0, g1, g2⟩ := hg
    omega
  rw [e, List.map_map]
  generalize (rng g.1 g.2).filter (fun z => decide (z ≠ 0)) = L at *
  split
  · rename_i h
    refine ⟨_, lc_map (f := D.int) (evI_nm rfl fun a _ => ⟨rfl, rfl⟩) (by omega) fun z hz => ?_⟩
    obtain ⟨h0, h1⟩ := hb z hz
    have k2 : z.natAbs.log2 < 9000 := Nat.lt_trans (log_small (n := 8) (by omega) (by decide)) (by decide)
    have m3 := st_ok H (k + 1) (f.1.fdiv z) (f.2.fdiv z)
    cases u <;> simp [turnF, wipeR, asgT, asgTs, setSlot, M.bind, M.pure, M.lift, evT, evB, evOs, evVs, evAs, opSem, D.truth, takeP, rootOf, quiet, quietAll, D.isFrz, frzAll, D.frz, mapFrz, MP.pick, callD, putS, inLine, sizeLine_eq, sAdd, sSub, sNeg, sLt, sLe, sGt, sGe, sIsN, sNotN, sNot, iN0, iN1, iN2, iN3, iN4, iN5, iN6, sLen, s_abs, sInt, opt, dpr, sIx, at0, at1, s_fdiv, h0, k2, m3, dRow]
  · refine ⟨_, lc_map (f := D.int) (evI_nm rfl fun a _ => ⟨rfl, rfl⟩) (by omega) fun z hz => ?_⟩
    obtain ⟨h0, h1⟩ := hb z hz
    have m3 := rests_ok H k f z h0 h1
    simp only [dpr] at m3
    cases u <;> simp [turnF, wipeR, asgT, asgTs, setSlot, M.bind, M.pure, M.lift, evT, evB, evOs, evVs, evAs, opSem, D.truth, takeP, rootOf, quiet, quietAll, D.isFrz, frzAll, D.frz, mapFrz, MP.pick, callD, putS, inLine, sizeLine_eq, sAdd, sSub, sNeg, sLt, sLe, sGt, sGe, sIsN, sNotN, sNot, iN0, iN1, iN2, iN3, iN4, iN5, iN6, sLen, s_abs, sInt, opt, dpr, m3, dRow]
theorem some_ok (k : Nat) (s : Sg) (w : Int) (f g : Int × Int) (hf : Str0 w f) (hg : Str0 w g) (hw : w ≤ 100) :
    fns T (k + 3) 4 [.str s.s, dpr f, dpr g, .int w] = .ok (.lst true ((rows s w f g).map dRow), [.str s.s, dpr f, dpr g, .int w]) [] := by
  rw [fns_at H.h4]
  cases hs : s.sum with
  | true =>
    have a := c0_ok H k s w f g hs hf hw none none none none none
    obtain ⟨ρ, b⟩ := c1_ok H k s w f g hs hf hg hw true none none none none
    have i := in_sums s
    rw [hs] at i
    simp only [F4_c0, F4_c1] at a b
    simp [runFn, startR, exs, ex, evT, evB, evVs, evAs, evOs, evV, takeP, rootOf, quiet, quietAll, M.bind, M.pure, M.lift, opSem, D.truth, asgT, asgTs, setSlot, chkS, chkL, mutV, mopSem, movS, setV, mutS, MP.pick, callD, putS, D.isFrz, frzAll, D.frz, mapFrz, outsOk, outsOf, inLine, sizeLine_eq, sAdd, sSub, sNeg, sLt, sLe, sGt, sGe, sIsN, sNotN, sNot, iN0, iN1, iN2, iN3, iN4, iN5, iN6, sLen, sMin, sMax, s_abs, sInt, opt, F4, i, a, b]
  | false =>
    have a := c2_ok H (k + 2) w g hg hw (some (.str s.s)) (some (dpr f)) (some (.int w)) none none none none none
    obtain ⟨ρ, b⟩ := c34_ok H k s w f g hs hf hg hw true (some (.str s.s)) (some (dpr g)) (some (.int w)) none none none none
    have i := in_sums s
    rw [hs] at i
    generalize (rows s w f g).map dRow = R at *
    generalize ((rng g.1 g.2).filter (fun z => decide (z ≠ 0))).map D.int = L at *
    simp only [F4_c2, F4_c3, F4_c4] at a b
    by_cases h : s = .over
    · rw [if_pos h] at b
      have e3 : sEq [.str s.s, .str "over"] = some (.bl true) := by simp [sEq, q3, h]
      simp [runFn, startR, exs, ex, evT, evB, evVs, evAs, evOs, evV, takeP, rootOf, quiet, quietAll, M.bind, M.pure, M.lift, opSem, D.truth, asgT, asgTs, setSlot, chkS, chkL, mutV, mopSem, movS, setV, mutS, MP.pick, callD, putS, D.isFrz, frzAll, D.frz, mapFrz, outsOk, outsOf, inLine, sizeLine_eq, sAdd, sSub, sNeg, sLt, sLe, sGt, sGe, sIsN, sNotN, sNot, iN0, iN1, iN2, iN3, iN4, iN5, iN6, sLen, sMin, sMax, s_abs, sInt, opt, F4, i, a, b, e3]
    · rw [if_neg h] at b
      simp [runFn, startR, exs, ex, evT, evB, evVs, evAs, evOs, evV, takeP, rootOf, quiet, quietAll, M.bind, M.pure, M.lift, opSem, D.truth, asgT, asgTs, setSlot, chkS, chkL, mutV, mopSem, movS, setV, mutS, MP.pick, callD, putS, D.isFrz, frzAll, D.frz, mapFrz, outsOk, outsOf, inLine, sizeLine_eq, sAdd, sSub, sNeg, sLt, sLe, sGt, sGe, sIsN, sNotN, sNot, iN0, iN1, iN2, iN3, iN4, iN5, iN6, sLen, sMin, sMax, s_abs, sInt, opt, F4, i, a, b, sEq, q3, h]
omit H
def dPr (ps : List (Int × Int)) : List D := ps.map dpr
include H
theorem spanned_ok (k : Nat) (ps : List (Int × Int)) (hl : ps.length < 1000) : fns T (k + 1) 5 [.lst false (ps.map dpr)] = .ok (sp ps, [.lst false (ps.map dpr)]) [] := by
  rw [fns_at H.h5]
  have fz := frz_map (l := ps) (f := dpr) fun a _ => dpr_z a
  have en : eqD (.lst false (ps.map dpr)) (.lst true []) = some ps.isEmpty := eq_nil_pair false true ps
  unfold sp
  cases h : ps.isEmpty with
  | true => simp [runFn, startR, exs, ex, evT, evB, evVs, evAs, evOs, evV, takeP, rootOf, quiet, quietAll, M.bind, M.pure, M.lift, opSem, D.truth, asgT, asgTs, setSlot, chkS, chkL, mutV, mopSem, movS, setV, mutS, MP.pick, callD, putS, D.isFrz, frzAll, D.frz, mapFrz, outsOk, outsOf, inLine, sizeLine_eq, sAdd, sSub, sNeg, sLt, sLe, sGt, sGe, sIsN, sNotN, sNot, iN0, iN1, iN2, iN3, iN4, iN5, iN6, sLen, sMin, sMax, s_abs, sInt, opt, F5, sEq, en, h, fz]
  | false =>
    have hp : 0 < ps.length := by cases ps <;> simp_all
    have a : ∀ Γ, evB Γ F5_c0 [some (.lst false (ps.map dpr)), none, none] = .ok (.lst true (dI (ps.map (·.1)))) [some (.lst false (ps.map dpr)), none, none] := fun Γ => by
      have := lc_map (Γ := Γ) (own := [1, 2]) (t := .tp [.nm 1, .nm 2]) (it := .var 0) (c := .cst (.bl true)) (e := .var 1) (ρ0 := [some (.lst false (ps.map dpr)), none, none]) (l := ps) (f := dpr) (g := fun p => .int p.1) (evI_nm rfl fun a _ => dpr_z a) (by omega) fun p hp => by simp [turnF, wipeR, asgT, asgTs, setSlot, M.bind, M.pure, M.lift, evT, evB, evOs, evVs, evAs, opSem, D.truth, takeP, rootOf, quiet, quietAll, D.isFrz, frzAll, D.frz, mapFrz, MP.pick, callD, putS, inLine, sizeLine_eq, sAdd, sSub, sNeg, sLt, sLe, sGt, sGe, sIsN, sNotN, sNot, iN0, iN1, iN2, iN3, iN4, iN5, iN6, sLen, s_abs, sInt, opt, dpr]
      rw [this, dI, List.map_map]
      rfl
    have b : ∀ Γ, evB Γ F5_c1 [some (.lst false (ps.map dpr)), none, none] = .ok (.lst true (dI (ps.map (·.2)))) [some (.lst false (ps.map dpr)), none, none] := fun Γ => by
      have := lc_map (Γ := Γ) (own := [1, 2]) (t := .tp [.nm 1, .nm 2]) (it := .var 0) (c := .cst (.bl true)) (e := .var 2) (ρ0 := [some (.lst false (ps.map dpr)), none, none]) (l := ps) (f := dpr) (g := fun p => .int p.2) (evI_nm rfl fun a _ => dpr_z a) (by omega) fun p hp => by simp [turnF, wipeR, asgT, asgTs, setSlot, M.bind, M.pure, M.lift, evT, evB, evOs, evVs, evAs, opSem, D.truth, takeP, rootOf, quiet, quietAll, D.isFrz, frzAll, D.frz, mapFrz, MP.pick, callD, putS, inLine, sizeLine_eq, sAdd, sSub, sNeg, sLt, sLe, sGt, sGe, sIsN, sNotN, sNot, iN0, iN1, iN2, iN3, iN4, iN5, iN6, sLen, s_abs, sInt, opt, dpr]
      rw [this, dI, List.map_map]
      rfl
    generalize hd : ps.map dpr = dd at *
    simp [runFn, startR, exs, ex, evT, evB, evVs, evAs, evOs, evV, takeP, rootOf, quiet, quietAll, M.bind, M.pure, M.lift, opSem, D.truth, asgT, asgTs, setSlot, chkS, chkL, mutV, mopSem, movS, setV, mutS, MP.pick, callD, putS, D.isFrz, frzAll, D.frz, mapFrz, outsOk, outsOf, inLine, sizeLine_eq, sAdd, sSub, sNeg, sLt, sLe, sGt, sGe, sIsN, sNotN, sNot, iN0, iN1, iN2, iN3, iN4, iN5, iN6, sLen, sMin, sMax, s_abs, sInt, opt, F5, sEq, en, h, fz, a, b, dI_ints, hp]
omit H
def sel (r : Row) : Nat → Int × Int
  | 0 => r.1
  | 1 => r.2.1
  | _ => r.2.2
theorem c60_ok (Γ : Fns) (rs : List Row) (j : Nat) (hj : j < 3) (hl : rs.length < 1000) (u : Bool) (x0 x1 x2 x3 x6 : Option D) :
    evB Γ F6_c0 [x0, x1, x2, x3, some (.lst u (rs.map dRow)), some (.int j), x6] = .ok (.lst true (rs.map fun r => dpr (sel r j))) [x0, x1, x2, x3, some (.lst false (rs.map dRow)), some (.int j), x6] := by
  have hr : (if u then [x0, x1, x2, x3, some (.lst u (rs.map dRow)), some (.int j), x6].set 4 (some (.lst false (rs.map dRow))) else [x0, x1, x2, x3, some (.lst u (rs.map dRow)), some (.int j), x6]) = [x0, x1, x2, x3, some (.lst false (rs.map dRow)), some (.int j), x6] := by cases u <;> rfl
  have := lc_map (Γ := Γ) (own := [6]) (t := .nm 6) (it := .var 4) (c := .cst (.bl true)) (e := .op .ix [.var 6, .var 5]) (ρ0 := [x0, x1, x2, x3, some (.lst u (rs.map dRow)), some (.int j), x6]) (l := rs) (f := dRow) (g := fun r => dpr (sel r j)) (ρ := [x0, x1, x2, x3, some (.lst false (rs.map dRow)), some (.int j), x6]) (hr ▸ evI_nm rfl fun a _ => dRow_z a) (by omega) fun r _ => by
    have hj : j = 0 ∨ j = 1 ∨ j = 2 := by omega
    rcases hj with rfl | rfl | rfl <;> simp [turnF, wipeR, asgT, asgTs, setSlot, M.bind, M.pure, M.lift, evT, evB, evOs, evVs, evAs, opSem, D.truth, takeP, rootOf, quiet, quietAll, D.isFrz, frzAll, D.frz, mapFrz, MP.pick, callD, putS, inLine, sizeLine_eq, sAdd, sSub, sNeg, sLt, sLe, sGt, sGe, sIsN, sNotN, sNot, iN0, iN1, iN2, iN3, iN4, iN5, iN6, sLen, s_abs, sInt, opt, dRow, sIx, at0, at1, at2, dpr_z, sel]
  exact this
include H
theorem pairs_rows (k : Nat) (s : Sg) (w : Int) (f g : Int × Int) (hf : Str0 w f) (hg : Str0 w g) (hw : w ≤ 100) :
    fns T (k + 4) 6 [.str s.s, dpr f, dpr g, .int w] = .ok (.tup [sp ((rows s w f g).map (·.1)), sp ((rows s w f g).map (·.2.1)), sp ((rows s w f g).map (·.2.2))], [.str s.s, dpr f, dpr g, .int w]) [] := by
  rw [fns_at H.h6]
  have e := some_ok H k s w f g hf hg hw
  have hl : (rows s w f g).length < 1000 := by
    unfold rows
    split
    · rw [List.length_map]
      refine Nat.lt_of_le_of_lt (List.length_filter_le _ _) ?_
      rw [List.length_map]
      have := rng_small hf hw
      omega
    · rw [List.length_map]
      refine Nat.lt_of_le_of_lt (List.length_filter_le _ _) ?_
      have := rng_small hg hw
      omega
  generalize rows s w f g = R at *
  have sz : ∀ ps : List (Int × Int), (sp ps).isFrz = true ∧ (sp ps).frz = sp ps := fun ps => by unfold sp; split <;> exact ⟨rfl, rfl⟩
  have a : ∀ j : Nat, j < 3 → ∀ u (x6 : Option D), evB (fns T (k + 3)) F6_c0 [some (.str s.s), some (dpr f), some (dpr g), some (.int w), some (.lst u (R.map dRow)), some (.int j), x6] = .ok (.lst true (R.map fun r => dpr (sel r j))) [some (.str s.s), some (dpr f), some (dpr g), some (.int w), some (.lst false (R.map dRow)), some (.int j), x6] := fun j hj u x6 => c60_ok (fns T (k + 3)) R j hj hl u _ _ _ _ x6
  have b : ∀ j : Nat, j < 3 → fns T (k + 3) 5 [.lst false (R.map fun r => dpr (sel r j))] = .ok (sp (R.map fun r => sel r j), [.lst false (R.map fun r => dpr (sel r j))]) [] := fun j hj => by
    have := spanned_ok H (k + 2) (R.map fun r => sel r j) (by rw [List.length_map]; exact hl)
    rw [List.map_map] at this
    exact this
  have mz : ∀ j : Nat, mapFrz (R.map fun r => dpr (sel r j)) = R.map fun r => dpr (sel r j) := fun j => (frz_map (l := R) (f := fun r => dpr (sel r j)) fun a _ => dpr_z _).2
  have a0 := a 0 (by decide) true none
  have a1 := a 1 (by decide) false none
  have a2 := a 2 (by decide) false none
  rw [show ((0 : Nat) : Int) = 0 from rfl] at a0
  rw [show ((1 : Nat) : Int) = 1 from rfl] at a1
  rw [show ((2 : Nat) : Int) = 2 from rfl] at a2
  have b0 := b 0 (by decide)
  have b1 := b 1 (by decide)
  have b2 := b 2 (by decide)
  have z0 := mz 0
  have z1 := mz 1
  have z2 := mz 2
  have s0 := sz (R.map fun r => sel r 0)
  have s1 := sz (R.map fun r => sel r 1)
  have s2 := sz (R.map fun r => sel r 2)
  have r3 : opSem .range [.int 3] = some (.lst false [.int 0, .int 1, .int 2]) := rfl
  show _ = Res.ok (D.tup [sp (R.map fun r => sel r 0), sp (R.map fun r => sel r 1), sp (R.map fun r => sel r 2)], _) []
  clear a b mz sz
  generalize sp (R.map fun r => sel r 0) = p0 at *
  generalize sp (R.map fun r => sel r 1) = p1 at *
  generalize sp (R.map fun r => sel r 2) = p2 at *
  generalize (R.map fun r => dpr (sel r 0)) = l0 at *
  generalize (R.map fun r => dpr (sel r 1)) = l1 at *
  generalize (R.map fun r => dpr (sel r 2)) = l2 at *
  generalize R.map dRow = l at *
  have c1 : evB (fns T (k + 3)) F6_c1 [some (.str s.s), some (dpr f), some (dpr g), some (.int w), some (.lst true l), none, none] = .ok (.lst true [p0, p1, p2]) [some (.str s.s), some (dpr f), some (dpr g), some (.int w), some (.lst false l), none, none] := by
    have u0 : turnF (fns T (k + 3)) [5] (.nm 5) (.cst (.bl true)) (.call 5 [F6_c0] [.a 0]) (.int 0) [some (.str s.s), some (dpr f), some (dpr g), some (.int w), some (.lst true l), none, none] = .ok (some p0) [some (.str s.s), some (dpr f), some (dpr g), some (.int w), some (.lst false l), none, none] := by
      simp only [F6_c0] at a0 ⊢
      simp [turnF, wipeR, asgT, asgTs, setSlot, M.bind, M.pure, M.lift, evT, evB, evOs, evVs, evAs, opSem, D.truth, takeP, rootOf, quiet, quietAll, D.isFrz, frzAll, D.frz, mapFrz, MP.pick, callD, putS, inLine, sizeLine_eq, sAdd, sSub, sNeg, sLt, sLe, sGt, sGe, sIsN, sNotN, sNot, iN0, iN1, iN2, iN3, iN4, iN5, iN6, sLen, s_abs, sInt, opt, a0, z0, b0, s0]
    have u1 : turnF (fns T (k + 3)) [5] (.nm 5) (.cst (.bl true)) (.call 5 [F6_c0] [.a 0]) (.int 1) [some (.str s.s), some (dpr f), some (dpr g), some (.int w), some (.lst false l), none, none] = .ok (some p1) [some (.str s.s), some (dpr f), some (dpr g), some (.int w), some (.lst false l), none, none] := by
      simp only [F6_c0] at a1 ⊢
      simp [turnF, wipeR, asgT, asgTs, setSlot, M.bind, M.pure, M.lift, evT, evB, evOs, evVs, evAs, opSem, D.truth, takeP, rootOf, quiet, quietAll, D.isFrz, frzAll, D.frz, mapFrz, MP.pick, callD, putS, inLine, sizeLine_eq, sAdd, sSub, sNeg, sLt, sLe, sGt, sGe, sIsN, sNotN, sNot, iN0, iN1, iN2, iN3, iN4, iN5, iN6, sLen, s_abs, sInt, opt, a1, z1, b1, s1]
    have u2 : turnF (fns T (k + 3)) [5] (.nm 5) (.cst (.bl true)) (.call 5 [F6_c0] [.a 0]) (.int 2) [some (.str s.s), some (dpr f), some (dpr g), some (.int w), some (.lst false l), none, none] = .ok (some p2) [some (.str s.s), some (dpr f), some (dpr g), some (.int w), some (.lst false l), none, none] := by
      simp only [F6_c0] at a2 ⊢
      simp [turnF, wipeR, asgT, asgTs, setSlot, M.bind, M.pure, M.lift, evT, evB, evOs, evVs, evAs, opSem, D.truth, takeP, rootOf, quiet, quietAll, D.isFrz, frzAll, D.frz, mapFrz, MP.pick, callD, putS, inLine, sizeLine_eq, sAdd, sSub, sNeg, sLt, sLe, sGt, sGe, sIsN, sNotN, sNot, iN0, iN1, iN2, iN3, iN4, iN5, iN6, sLen, s_abs, sInt, opt, a2, z2, b2, s2]
    have ei : evI (fns T (k + 3)) (.itr .range [.cst (.int 3)]) [some (.str s.s), some (dpr f), some (dpr g), some (.int w), some (.lst true l), none, none] = .ok [.int 0, .int 1, .int 2] [some (.str s.s), some (dpr f), some (dpr g), some (.int w), some (.lst true l), none, none] := by
      simp [evI, evV, evB, evVs, M.bind, M.pure, M.lift, takeP, rootOf, D.isFrz, mapFrz, D.frz, r3, itemsOf]
    have il : inLine [D.int 0, D.int 1, D.int 2].length = true := by simp [inLine, sizeLine_eq]
    rw [lc_eq, bind_ok ei, if_pos il]
    simp [inBlk, noX, M.bind, M.pure, turns, wipeR, u0, u1, u2, putBack]
  simp only [F6_c1] at c1
  have d1 : (dpr f).isNon = false := rfl
  have d2 : (dpr g).isNon = false := rfl
  have d3 := dpr_z f
  have d4 := dpr_z g
  generalize dpr f = df at *
  generalize dpr g = dg at *
  simp [runFn, startR, exs, ex, evT, evB, evVs, evAs, evOs, evV, takeP, rootOf, quiet, quietAll, M.bind, M.pure, M.lift, opSem, D.truth, asgT, asgTs, setSlot, chkS, chkL, mutV, mopSem, movS, setV, mutS, MP.pick, callD, putS, D.isFrz, frzAll, D.frz, mapFrz, outsOk, outsOf, inLine, sizeLine_eq, sAdd, sSub, sNeg, sLt, sLe, sGt, sGe, sIsN, sNotN, sNot, iN0, iN1, iN2, iN3, iN4, iN5, iN6, sLen, sMin, sMax, s_abs, sInt, opt, F6, d1, d2, d3, d4, e, c1, sTuple, s0, s1, s2]
/-- what pairs tells: the least and the greatest of all pairs that don't fault -/
theorem pairs_ok (k : Nat) (s : Sg) (w : Int) (f g : Int × Int) (hf : Str0 w f) (hg : Str0 w g) (h1 : 1 ≤ w) (hw : w ≤ 100) :
    fns T (k + 4) 6 [.str s.s, dpr f, dpr g, .int w] = .ok (.tup [mm ((tri s w f g).map (·.1)), mm ((tri s w f g).map (·.2.1)), mm ((tri s w f g).map (·.2.2))], [.str s.s, dpr f, dpr g, .int w]) [] := by
  obtain ⟨a, b, c⟩ := rows_tri (s := s) h1 hf hg
  rw [pairs_rows H k s w f g hf hg hw, a, b, c]
theorem pairs_none (k : Nat) (s : Sg) (x y : D) (w : Int) (hx : x.isFrz = true) (hy : y.isFrz = true) (h : x.isNon = true ∨ y.isNon = true) :
    fns T (k + 1) 6 [.str s.s, x, y, .int w] = .ok (.tup [.non, .non, .non], [.str s.s, x, y, .int w]) [] := by
  rw [fns_at H.h6]
  cases hn : x.isNon with
  | true => simp [runFn, startR, exs, ex, evT, evB, evVs, evAs, evOs, evV, takeP, rootOf, quiet, quietAll, M.bind, M.pure, M.lift, opSem, D.truth, asgT, asgTs, setSlot, chkS, chkL, mutV, mopSem, movS, setV, mutS, MP.pick, callD, putS, D.isFrz, frzAll, D.frz, mapFrz, outsOk, outsOf, inLine, sizeLine_eq, sAdd, sSub, sNeg, sLt, sLe, sGt, sGe, sIsN, sNotN, sNot, iN0, iN1, iN2, iN3, iN4, iN5, iN6, sLen, sMin, sMax, s_abs, sInt, opt, F6, hn]
  | false =>
    have : y.isNon = true := by rcases h with h | h <;> simp_all
    simp [runFn, startR, exs, ex, evT, evB, evVs, evAs, evOs, evV, takeP, rootOf, quiet, quietAll, M.bind, M.pure, M.lift, opSem, D.truth, asgT, asgTs, setSlot, chkS, chkL, mutV, mopSem, movS, setV, mutS, MP.pick, callD, putS, D.isFrz, frzAll, D.frz, mapFrz, outsOk, outsOf, inLine, sizeLine_eq, sAdd, sSub, sNeg, sLt, sLe, sGt, sGe, sIsN, sNotN, sNot, iN0, iN1, iN2, iN3, iN4, iN5, iN6, sLen, sMin, sMax, s_abs, sInt, opt, F6, hn, this]
end
end Sums
end MP

end
section
set_option Elab.async false
set_option linter.all false
set_option maxRecDepth 100000
set_option maxHeartbeats 4000000
namespace MP
namespace Sums
open PySem PySem.Spec PyProof.Rows L2
def spanFn (aw : Nat) : Fn := ⟨2, 4, [0], [
  .asg (.tp [.nm 2, .nm 3]) (.tup [.call aw [.ref 0, .var 1] [.s 0 0, .a 1], .call aw [.ref 0, .var 1] [.s 0 0, .a 1]]),
  .ret (.tup [.op .min [.var 2, .var 3], .op .max [.var 2, .var 3]])]⟩
theorem span_ok {T : List Fn} {dr pk aw sn : Nat} (hT : T[dr]? = some drawFn) (hP : T[pk]? = some (pickFn dr)) (hA : T[aw]? = some (awordFn dr pk)) (hS : T[sn]? = some (spanFn aw)) (k : Nat) {a b c n w : Int} (t : Tape a b c n) (hn : n + 6 < 2 ^ 29) (h1 : 1 ≤ w) (h2 : w ≤ 100) : ∃ f a' c', fns T (k + 4) sn [tp a b c, .int w] = .ok (dpr f, [tp a' b c', .int w]) [] ∧ Str0 w f ∧ Tape a' b c' (n + 6) := by
  obtain ⟨x, a1, c1, e1, x0, x1, t1⟩ := aword_ok hT hP hA k t (by omega) h1 (by omega)
  obtain ⟨y, a2, c2, e2, y0, y1, t2⟩ := aword_ok hT hP hA k t1 (by omega) h1 (by omega)
  refine ⟨(if y < x then y else x, if y > x then y else x), a2, c2, ?_, ⟨by dsimp only; split <;> omega, by dsimp only; split <;> split <;> omega, by dsimp only; split <;> omega⟩, ⟨t2.ha, t2.hb, t2.hb2, t2.hc, by have := t2.hc2; omega⟩⟩
  rw [fns_at hS]
  simp only [tp] at e1 e2 ⊢
  simp [runFn, startR, exs, ex, evT, evB, evVs, evAs, evOs, evV, takeP, rootOf, quiet, quietAll, M.bind, M.pure, M.lift, opSem, D.truth, asgT, asgTs, setSlot, chkS, chkL, mutV, mopSem, movS, setV, mutS, MP.pick, callD, putS, D.isFrz, frzAll, D.frz, mapFrz, outsOk, outsOf, inLine, sizeLine_eq, sAdd, sSub, sNeg, sLt, sLe, sGt, sGe, sIsN, sNotN, sNot, iN0, iN1, iN2, iN3, iN4, iN5, iN6, sLen, sMin, sMax, s_abs, sInt, opt, spanFn, e1, e2, dpr]

def oD : Option (Int × Int) → D
  | none => .non
  | some f => dpr f
theorem oD_z (f : Option (Int × Int)) : (oD f).isFrz = true ∧ (oD f).frz = oD f := by cases f <;> exact ⟨rfl, rfl⟩
theorem oD_n (f : Option (Int × Int)) : (oD f).isNon = !f.isSome := by cases f <;> rfl
/-- the hull of numbers, of two, turned about nought -/
def hl (xs : List Int) : Option (Int × Int) := if xs.isEmpty then none else some (minI xs, maxI xs)
theorem mm_hl (xs : List Int) : mm xs = oD (hl xs) := by cases xs <;> rfl
def jD : Option (Int × Int) → Option (Int × Int) → Option (Int × Int)
  | none, y => y
  | x, none => x
  | some p, some q => some (pmn p.1 q.1, pmx p.2 q.2)
def nD (x : Option (Int × Int)) : Option (Int × Int) := x.map fun p => (0 - p.2, 0 - p.1)
theorem hl_of {xs : List Int} {a b : Int} (h1 : a ∈ xs) (h2 : b ∈ xs) (h3 : ∀ x ∈ xs, a ≤ x ∧ x ≤ b) : hl xs = some (a, b) := by
  unfold hl
  rw [minI_of h1 fun x h => (h3 x h).1, maxI_of h2 fun x h => (h3 x h).2]
  cases xs with
  | nil => cases h1
  | cons => rfl
theorem hl_some {xs : List Int} (h : xs ≠ []) : ∃ a b, hl xs = some (a, b) ∧ a ∈ xs ∧ b ∈ xs ∧ ∀ x ∈ xs, a ≤ x ∧ x ≤ b := by
  refine ⟨minI xs, maxI xs, ?_, (minI_mem h).1, (maxI_mem h).1, fun x hx => ⟨(minI_mem h).2 x hx, (maxI_mem h).2 x hx⟩⟩
  unfold hl
  cases xs with
  | nil => exact absurd rfl h
  | cons => rfl
theorem hl_congr {xs ys : List Int} (h : ∀ x, x ∈ xs ↔ x ∈ ys) : hl xs = hl ys := by
  by_cases hx : xs = []
  · have : ys = [] := by
      cases ys with
      | nil => rfl
      | cons y r => have := (h y).mpr (List.mem_cons_self ..); rw [hx] at this; cases this
    rw [hx, this]
  · obtain ⟨a, b, e, a1, b1, c⟩ := hl_some hx
    rw [e, hl_of ((h a).mp a1) ((h b).mp b1) fun x hx => c x ((h x).mpr hx)]
theorem hl_join (xs ys : List Int) : jD (hl xs) (hl ys) = hl (xs ++ ys) := by
  by_cases hx : xs = []
  · subst hx; rfl
  · by_cases hy : ys = []
    · subst hy
      obtain ⟨a, b, e, _⟩ := hl_some hx
      rw [List.append_nil, e]
      rfl
    · obtain ⟨a, b, e, a1, b1, c⟩ := hl_some hx
      obtain ⟨a', b', e', a1', b1', c'⟩ := hl_some hy
      rw [e, e']
      symm
      refine hl_of ?_ ?_ fun x hx => ?_
      · unfold pmn; dsimp only; split <;> simp [a1, a1']
      · unfold pmx; dsimp only; split <;> simp [b1, b1']
      · unfold pmn pmx
        dsimp only
        rcases List.mem_append.mp hx with h | h
        · have := c x h; split <;> split <;> omega
        · have := c' x h; split <;> split <;> omega
theorem hl_neg {xs ys : List Int} (h : ∀ x, x ∈ xs ↔ -x ∈ ys) : hl xs = nD (hl ys) := by
  by_cases hy : ys = []
  · have : xs = [] := by
      cases xs with
      | nil => rfl
      | cons x r => have := (h x).mp (List.mem_cons_self ..); rw [hy] at this; cases this
    rw [hy, this]
    rfl
  · obtain ⟨a, b, e, a1, b1, c⟩ := hl_some hy
    rw [e]
    show _ = some (0 - b, 0 - a)
    refine hl_of ((h _).mpr (by rw [Int.zero_sub, Int.neg_neg]; exact b1)) ((h _).mpr (by rw [Int.zero_sub, Int.neg_neg]; exact a1)) fun x hx => ?_
    have := c _ ((h x).mp hx)
    omega
theorem mem1 {t : List (Int × Int × Int)} {x : Int} : x ∈ t.map (·.1) ↔ ∃ y z, (x, y, z) ∈ t := by
  rw [List.mem_map]
  constructor
  · rintro ⟨⟨r, y, z⟩, h, rfl⟩; exact ⟨y, z, h⟩
  · rintro ⟨y, z, h⟩; exact ⟨_, h, rfl⟩
theorem mem2 {t : List (Int × Int × Int)} {x : Int} : x ∈ t.map (·.2.1) ↔ ∃ r z, (r, x, z) ∈ t := by
  rw [List.mem_map]
  constructor
  · rintro ⟨⟨r, y, z⟩, h, rfl⟩; exact ⟨r, z, h⟩
  · rintro ⟨y, z, h⟩; exact ⟨_, h, rfl⟩
theorem mem3 {t : List (Int × Int × Int)} {x : Int} : x ∈ t.map (·.2.2) ↔ ∃ r y, (r, y, x) ∈ t := by
  rw [List.mem_map]
  constructor
  · rintro ⟨⟨r, y, z⟩, h, rfl⟩; exact ⟨r, y, h⟩
  · rintro ⟨y, z, h⟩; exact ⟨_, h, rfl⟩
def p1 (s : Sg) (w : Int) (f g : Int × Int) := hl ((tri s w f g).map (·.1))
def p2 (s : Sg) (w : Int) (f g : Int × Int) := hl ((tri s w f g).map (·.2.1))
def p3 (s : Sg) (w : Int) (f g : Int × Int) := hl ((tri s w f g).map (·.2.2))
/-- tellings of three stretches alike -/
theorem p_map {s s' : Sg} {w w' : Int} {f g f' g' : Int × Int} (h : ∀ r y z, (r, y, z) ∈ tri s w f g ↔ (r, y, z) ∈ tri s' w' f' g') : p1 s w f g = p1 s' w' f' g' ∧ p2 s w f g = p2 s' w' f' g' ∧ p3 s w f g = p3 s' w' f' g' := by
  refine ⟨hl_congr fun x => ?_, hl_congr fun x => ?_, hl_congr fun x => ?_⟩
  · rw [mem1, mem1]; simp only [h]
  · rw [mem2, mem2]; simp only [h]
  · rw [mem3, mem3]; simp only [h]
/-- parted: the first one -/
theorem parted1 (s : Sg) (w a : Int) (f g : Int × Int) (h1 : f.1 ≤ a) (h2 : a < f.2) :
    jD (p1 s w (f.1, a) g) (p1 s w (a + 1, f.2) g) = p1 s w f g ∧ jD (p2 s w (f.1, a) g) (p2 s w (a + 1, f.2) g) = p2 s w f g ∧ jD (p3 s w (f.1, a) g) (p3 s w (a + 1, f.2) g) = p3 s w f g := by
  have h : ∀ r y z, (r, y, z) ∈ tri s w f g ↔ ((r, y, z) ∈ tri s w (f.1, a) g ∨ (r, y, z) ∈ tri s w (a + 1, f.2) g) := fun r y z => by
    simp only [tri_in]
    constructor
    · rintro ⟨c1, c2, c3⟩
      rcases Int.lt_or_le a y with h | h
      · exact .inr ⟨⟨by omega, by omega⟩, c2, c3⟩
      · exact .inl ⟨⟨by omega, by omega⟩, c2, c3⟩
    · rintro (⟨c1, c2, c3⟩ | ⟨c1, c2, c3⟩)
      · exact ⟨⟨by omega, by omega⟩, c2, c3⟩
      · exact ⟨⟨by omega, by omega⟩, c2, c3⟩
  unfold p1 p2 p3
  simp only [hl_join]
  refine ⟨hl_congr fun x => ?_, hl_congr fun x => ?_, hl_congr fun x => ?_⟩
  · rw [List.mem_append, mem1, mem1, mem1]; simp only [h, exists_or]
  · rw [List.mem_append, mem2, mem2, mem2]; simp only [h, exists_or]
  · rw [List.mem_append, mem3, mem3, mem3]; simp only [h, exists_or]
theorem parted2 (s : Sg) (w a : Int) (f g : Int × Int) (h1 : f.1 ≤ a) (h2 : a < f.2) :
    jD (p1 s w g (f.1, a)) (p1 s w g (a + 1, f.2)) = p1 s w g f ∧ jD (p2 s w g (f.1, a)) (p2 s w g (a + 1, f.2)) = p2 s w g f ∧ jD (p3 s w g (f.1, a)) (p3 s w g (a + 1, f.2)) = p3 s w g f := by
  have h : ∀ r y z, (r, y, z) ∈ tri s w g f ↔ ((r, y, z) ∈ tri s w g (f.1, a) ∨ (r, y, z) ∈ tri s w g (a + 1, f.2)) := fun r y z => by
    simp only [tri_in]
    constructor
    · rintro ⟨c1, c2, c3⟩
      rcases Int.lt_or_le a z with h | h
      · exact .inr ⟨c1, ⟨by omega, by omega⟩, c3⟩
      · exact .inl ⟨c1, ⟨by omega, by omega⟩, c3⟩
    · rintro (⟨c1, c2, c3⟩ | ⟨c1, c2, c3⟩)
      · exact ⟨c1, ⟨by omega, by omega⟩, c3⟩
      · exact ⟨c1, ⟨by omega, by omega⟩, c3⟩
  unfold p1 p2 p3
  simp only [hl_join]
  refine ⟨hl_congr fun x => ?_, hl_congr fun x => ?_, hl_congr fun x => ?_⟩
  · rw [List.mem_append, mem1, mem1, mem1]; simp only [h, exists_or]
  · rw [List.mem_append, mem2, mem2, mem2]; simp only [h, exists_or]
  · rw [List.mem_append, mem3, mem3, mem3]; simp only [h, exists_or]
def bk (f : Int × Int) : Int × Int := (0 - f.2, 0 - f.1)
theorem swap {s : Sg} {w : Int} {f g : Int × Int} (hs : s = .plus ∨ s = .times) : p1 s w g f = p1 s w f g ∧ p2 s w g f = p3 s w f g ∧ p3 s w g f = p2 s w f g := by
  have h : ∀ r y z, (r, y, z) ∈ tri s w g f ↔ (r, z, y) ∈ tri s w f g := fun r y z => by
    simp only [tri_in]
    rcases hs with rfl | rfl <;> simp only [mk, ok, Sg.sum, Bool.true_or, true_and, Int.add_comm y z, Int.mul_comm y z] <;> constructor <;> rintro ⟨a, b, c⟩ <;> exact ⟨b, a, c⟩
  refine ⟨hl_congr fun x => ?_, hl_congr fun x => ?_, hl_congr fun x => ?_⟩
  · rw [mem1, mem1]; simp only [h]; exact ⟨fun ⟨a, b, c⟩ => ⟨b, a, c⟩, fun ⟨a, b, c⟩ => ⟨b, a, c⟩⟩
  · rw [mem2, mem3]; simp only [h]
  · rw [mem3, mem2]; simp only [h]
theorem minus_far {w : Int} {f g : Int × Int} : p1 .minus w f (bk g) = p1 .plus w f g ∧ p2 .minus w f (bk g) = p2 .plus w f g ∧ p3 .minus w f (bk g) = nD (p3 .plus w f g) := by
  have h : ∀ r y z, (r, y, z) ∈ tri .minus w f (bk g) ↔ (r, y, -z) ∈ tri .plus w f g := fun r y z => by
    simp only [tri_in, mk, ok, Sg.sum, Bool.true_or, true_and, bk]
    constructor <;> rintro ⟨a, b, c, d⟩ <;> exact ⟨a, by omega, by omega, d⟩
  have h' : ∀ r y z, (r, y, z) ∈ tri .plus w f g ↔ (r, y, -z) ∈ tri .minus w f (bk g) := fun r y z => by rw [h, Int.neg_neg]
  refine ⟨hl_congr fun x => ?_, hl_congr fun x => ?_, hl_neg fun x => ?_⟩
  · rw [mem1, mem1]; exact ⟨fun ⟨a, b, c⟩ => ⟨a, -b, (h _ _ _).mp c⟩, fun ⟨a, b, c⟩ => ⟨a, -b, (h' _ _ _).mp c⟩⟩
  · rw [mem2, mem2]; exact ⟨fun ⟨a, b, c⟩ => ⟨a, -b, (h _ _ _).mp c⟩, fun ⟨a, b, c⟩ => ⟨a, -b, (h' _ _ _).mp c⟩⟩
  · rw [mem3, mem3]; simp only [h]
theorem times_back {w : Int} {f g : Int × Int} : p1 .times w (bk f) g = nD (p1 .times w f g) ∧ p2 .times w (bk f) g = nD (p2 .times w f g) ∧ p3 .times w (bk f) g = p3 .times w f g := by
  have h : ∀ r y z, (r, y, z) ∈ tri .times w (bk f) g ↔ (-r, -y, z) ∈ tri .times w f g := fun r y z => by
    simp only [tri_in, mk, ok, Sg.sum, Bool.true_or, true_and, bk, Int.neg_mul]
    constructor <;> rintro ⟨a, b, c, d⟩ <;> exact ⟨by omega, b, by omega, by omega⟩
  have h' : ∀ r y z, (r, y, z) ∈ tri .times w f g ↔ (-r, -y, z) ∈ tri .times w (bk f) g := fun r y z => by rw [h, Int.neg_neg, Int.neg_neg]
  refine ⟨hl_neg fun x => ?_, hl_neg fun x => ?_, hl_congr fun x => ?_⟩
  · rw [mem1, mem1]; exact ⟨fun ⟨a, b, c⟩ => ⟨-a, b, (h _ _ _).mp c⟩, fun ⟨a, b, c⟩ => ⟨-a, b, by have := (h' _ _ _).mp c; rw [Int.neg_neg] at this; exact this⟩⟩
  · rw [mem2, mem2]; exact ⟨fun ⟨a, b, c⟩ => ⟨-a, b, (h _ _ _).mp c⟩, fun ⟨a, b, c⟩ => ⟨-a, b, by have := (h' _ _ _).mp c; rw [Int.neg_neg] at this; exact this⟩⟩
  · rw [mem3, mem3]; exact ⟨fun ⟨a, b, c⟩ => ⟨-a, -b, (h _ _ _).mp c⟩, fun ⟨a, b, c⟩ => ⟨-a, -b, (h' _ _ _).mp c⟩⟩
theorem over_both {w : Int} {f g : Int × Int} : p1 .over w (bk f) (bk g) = p1 .over w f g ∧ p2 .over w (bk f) (bk g) = nD (p2 .over w f g) ∧ p3 .over w (bk f) (bk g) = nD (p3 .over w f g) := by
  have h : ∀ r y z, (r, y, z) ∈ tri .over w (bk f) (bk g) ↔ (r, -y, -z) ∈ tri .over w f g := fun r y z => by
    simp only [tri_in, mk, ok, Sg.sum, Bool.false_or, decide_eq_true_eq, bk, Int.neg_fdiv_neg]
    constructor <;> rintro ⟨a, b, c, d⟩ <;> exact ⟨by omega, by omega, by omega, d⟩
  have h' : ∀ r y z, (r, y, z) ∈ tri .over w f g ↔ (r, -y, -z) ∈ tri .over w (bk f) (bk g) := fun r y z => by rw [h, Int.neg_neg, Int.neg_neg]
  refine ⟨hl_congr fun x => ?_, hl_neg fun x => ?_, hl_neg fun x => ?_⟩
  · rw [mem1, mem1]; exact ⟨fun ⟨a, b, c⟩ => ⟨-a, -b, (h _ _ _).mp c⟩, fun ⟨a, b, c⟩ => ⟨-a, -b, (h' _ _ _).mp c⟩⟩
  · rw [mem2, mem2]; exact ⟨fun ⟨a, b, c⟩ => ⟨a, -b, (h _ _ _).mp c⟩, fun ⟨a, b, c⟩ => ⟨a, -b, by have := (h' _ _ _).mp c; rw [Int.neg_neg] at this; exact this⟩⟩
  · rw [mem3, mem3]; exact ⟨fun ⟨a, b, c⟩ => ⟨a, -b, (h _ _ _).mp c⟩, fun ⟨a, b, c⟩ => ⟨a, -b, by have := (h' _ _ _).mp c; rw [Int.neg_neg] at this; exact this⟩⟩
theorem rest_both {w : Int} {f g : Int × Int} : p1 .rest w (bk f) (bk g) = nD (p1 .rest w f g) ∧ p2 .rest w (bk f) (bk g) = nD (p2 .rest w f g) ∧ p3 .rest w (bk f) (bk g) = nD (p3 .rest w f g) := by
  have h : ∀ r y z, (r, y, z) ∈ tri .rest w (bk f) (bk g) ↔ (-r, -y, -z) ∈ tri .rest w f g := fun r y z => by
    simp only [tri_in, mk, ok, Sg.sum, Bool.false_or, decide_eq_true_eq, bk, Int.neg_fmod_neg]
    constructor <;> rintro ⟨a, b, c, d⟩ <;> exact ⟨by omega, by omega, by omega, by omega⟩
  have h' : ∀ r y z, (r, y, z) ∈ tri .rest w f g ↔ (-r, -y, -z) ∈ tri .rest w (bk f) (bk g) := fun r y z => by rw [h, Int.neg_neg, Int.neg_neg, Int.neg_neg]
  refine ⟨hl_neg fun x => ?_, hl_neg fun x => ?_, hl_neg fun x => ?_⟩
  · rw [mem1, mem1]; exact ⟨fun ⟨a, b, c⟩ => ⟨-a, -b, (h _ _ _).mp c⟩, fun ⟨a, b, c⟩ => ⟨-a, -b, by have := (h' _ _ _).mp c; rw [Int.neg_neg] at this; exact this⟩⟩
  · rw [mem2, mem2]; exact ⟨fun ⟨a, b, c⟩ => ⟨-a, -b, (h _ _ _).mp c⟩, fun ⟨a, b, c⟩ => ⟨-a, -b, by have := (h' _ _ _).mp c; rw [Int.neg_neg] at this; exact this⟩⟩
  · rw [mem3, mem3]; exact ⟨fun ⟨a, b, c⟩ => ⟨-a, -b, (h _ _ _).mp c⟩, fun ⟨a, b, c⟩ => ⟨-a, -b, by have := (h' _ _ _).mp c; rw [Int.neg_neg] at this; exact this⟩⟩
theorem wider {s : Sg} {w : Int} {f g : Int × Int} : jD (p1 s w f g) (p1 s (w + 3) f g) = p1 s (w + 3) f g ∧ jD (p2 s w f g) (p2 s (w + 3) f g) = p2 s (w + 3) f g ∧ jD (p3 s w f g) (p3 s (w + 3) f g) = p3 s (w + 3) f g := by
  have h : ∀ r y z, (r, y, z) ∈ tri s w f g → (r, y, z) ∈ tri s (w + 3) f g := fun r y z => by
    simp only [tri_in]
    rintro ⟨a, b, c, d, e1, e2⟩
    exact ⟨a, b, c, d, by omega, by omega⟩
  unfold p1 p2 p3
  simp only [hl_join]
  refine ⟨hl_congr fun x => ?_, hl_congr fun x => ?_, hl_congr fun x => ?_⟩
  · rw [List.mem_append, mem1, mem1]; exact ⟨fun q => q.elim (fun ⟨a, b, c⟩ => ⟨a, b, h _ _ _ c⟩) id, .inr⟩
  · rw [List.mem_append, mem2, mem2]; exact ⟨fun q => q.elim (fun ⟨a, b, c⟩ => ⟨a, b, h _ _ _ c⟩) id, .inr⟩
  · rw [List.mem_append, mem3, mem3]; exact ⟨fun q => q.elim (fun ⟨a, b, c⟩ => ⟨a, b, h _ _ _ c⟩) id, .inr⟩
/-- three of them as data -/
def t3 (a b c : Option (Int × Int)) : D := .tup [oD a, oD b, oD c]
def Bd (o : Option (Int × Int)) : Prop := ez (oD o) = true ∧ dep (oD o) ≤ 1
theorem bd_hl {xs : List Int} (h : ∀ x ∈ xs, x.natAbs < 2 ^ 64) : Bd (hl xs) := by
  by_cases hx : xs = []
  · subst hx; exact ⟨rfl, by decide⟩
  · obtain ⟨a, b, e, a1, b1, _⟩ := hl_some hx
    rw [e]
    have := h a a1
    have := h b b1
    exact ⟨by simp [oD, dpr, ez, ezAll, *], by simp [oD, dpr, dep, depAll]⟩
theorem t3_ez {a b c : Option (Int × Int)} (ha : Bd a) (hb : Bd b) (hc : Bd c) : ez (t3 a b c) = true ∧ dep (t3 a b c) ≤ 60 := by
  obtain ⟨a1, a2⟩ := ha
  obtain ⟨b1, b2⟩ := hb
  obtain ⟨c1, c2⟩ := hc
  exact ⟨by simp [t3, ez, ezAll, a1, b1, c1], by simp only [t3, dep, depAll]; omega⟩
theorem p_bd {s : Sg} {w : Int} {f g : Int × Int} (hf : Str0 100 f) (hg : Str0 100 g) (hw : w ≤ 100) : Bd (p1 s w f g) ∧ Bd (p2 s w f g) ∧ Bd (p3 s w f g) := by
  obtain ⟨f0, f1, f2⟩ := hf
  obtain ⟨g0, g1, g2⟩ := hg
  have h : ∀ r y z, (r, y, z) ∈ tri s w f g → r.natAbs < 2 ^ 64 ∧ y.natAbs < 2 ^ 64 ∧ z.natAbs < 2 ^ 64 := fun r y z h => by
    obtain ⟨a, b, _, _, c, d⟩ := tri_in.mp h
    omega
  refine ⟨bd_hl fun x hx => ?_, bd_hl fun x hx => ?_, bd_hl fun x hx => ?_⟩
  · obtain ⟨y, z, hx⟩ := mem1.mp hx; exact (h _ _ _ hx).1
  · obtain ⟨y, z, hx⟩ := mem2.mp hx; exact (h _ _ _ hx).2.1
  · obtain ⟨y, z, hx⟩ := mem3.mp hx; exact (h _ _ _ hx).2.2
theorem pairs_t3 {T : List Fn} (H : Has T) (k : Nat) (s : Sg) (w : Int) (f g : Int × Int) (hf : Str0 w f) (hg : Str0 w g) (h1 : 1 ≤ w) (hw : w ≤ 100) :
    fns T (k + 4) 6 [.str s.s, dpr f, dpr g, .int w] = .ok (t3 (p1 s w f g) (p2 s w f g) (p3 s w f g), [.str s.s, dpr f, dpr g, .int w]) [] := by
  rw [pairs_ok H k s w f g hf hg h1 hw, mm_hl, mm_hl, mm_hl]
  rfl
theorem t3_z (a b c : Option (Int × Int)) : (t3 a b c).isFrz = true ∧ (t3 a b c).frz = t3 a b c := by cases a <;> cases b <;> cases c <;> exact ⟨rfl, rfl⟩
theorem t3_0 (a b c : Option (Int × Int)) : sIx [t3 a b c, .int 0] = some (oD a) := at0 _ _
theorem t3_1 (a b c : Option (Int × Int)) : sIx [t3 a b c, .int 1] = some (oD b) := at1 _ _ _
theorem t3_2 (a b c : Option (Int × Int)) : sIx [t3 a b c, .int 2] = some (oD c) := at2 _ _ _ _
end Sums
namespace T
open PySem PySem.Spec PyProof.Rows L2 Sums
def top (i : Nat) : Stmt := PySem.Challenge.pw_withinall_k25_whole_pairs_parted_and_tur.main.body.getD i (.Pass ⟨0, 0, 0, 0⟩)
def mkD (st : Stmt) (nm : Str) (dd : List He.Dv) (kd : List (Str × He.Dv)) : He.DefD := ⟨(nm, none), nm, nm, defArgs st, defBody st, defScope st, dd, kd⟩
def globs : List (Str × GK) := [("SUMS", .con (.tup [.str "plus", .str "minus", .str "times"])),
  ("made", .fn 0),
  ("partners", .fn 1),
  ("rests", .fn 2),
  ("as_stretch", .fn 3),
  ("some_pairs", .fn 4),
  ("spanned", .fn 5),
  ("pairs", .fn 6),
  ("_law_tape", .fn 7),
  ("_law_draw", .fn 8),
  ("_law_pick", .fn 9),
  ("_law_a_word", .fn 10),
  ("_law_span", .fn 11),
  ("_law_joined", .fn 12),
  ("_law_over_nought", .fn 13),
  ("_law_parted_right", .fn 14),
  ("_law_turned_right", .fn 15),
  ("_law_wider_right", .fn 16),
  ("law", .fn 17)]
def ds : List PDef := [
  ⟨mkD (top 2) "made" [] [], ["word", "y", "z"], ⟨["word", "y", "z"], 3, [none, none, none], []⟩⟩,
  ⟨mkD (top 3) "partners" [] [], ["word", "y", "other", "width", "low", "high", "most"], ⟨["word", "y", "other", "width"], 4, [none, none, none, none], []⟩⟩,
  ⟨mkD (top 4) "rests" [] [], ["one", "z", "low", "high"], ⟨["one", "z"], 2, [none, none], []⟩⟩,
  ⟨mkD (top 5) "as_stretch" [] [], ["one", "other"], ⟨["one", "other"], 2, [none, none], []⟩⟩,
  ⟨mkD (top 6) "some_pairs" [] [], ["word", "one", "other", "width", "found", "y", "low", "high", "z"], ⟨["word", "one", "other", "width"], 4, [none, none, none, none], []⟩⟩,
  ⟨mkD (top 7) "spanned" [] [], ["stretches", "low", "high"], ⟨["stretches"], 1, [none], []⟩⟩,
  ⟨mkD (top 8) "pairs" [] [], ["word", "one", "other", "width", "found", "place", "row"], ⟨["word", "one", "other", "width"], 3, [none, none, none, none], []⟩⟩,
  ⟨mkD (top 10) "_law_tape" [] [], ["script", "k", "cell", "own"], ⟨["script", "k"], 2, [none, none], []⟩⟩,
  ⟨mkD (top 11) "_law_draw" [] [], ["tape", "many", "digit", "primes", "prime", "first", "second"], ⟨["tape", "many"], 2, [none, none], [0]⟩⟩,
  ⟨mkD (top 12) "_law_pick" [] [], ["tape", "some"], ⟨["tape", "some"], 2, [none, none], [0]⟩⟩,
  ⟨mkD (top 13) "_law_a_word" [] [], ["tape", "wide", "some"], ⟨["tape", "wide"], 2, [none, none], [0]⟩⟩,
  ⟨mkD (top 14) "_law_span" [] [], ["tape", "wide", "first", "second"], ⟨["tape", "wide"], 2, [none, none], [0]⟩⟩,
  ⟨mkD (top 15) "_law_joined" [] [], ["first", "second", "some", "span"], ⟨["first", "second"], 2, [none, none], []⟩⟩,
  ⟨mkD (top 16) "_law_over_nought" [] [], ["span"], ⟨["span"], 1, [none], []⟩⟩,
  ⟨mkD (top 17) "_law_parted_right" [] [], ["word", "wide", "first", "second", "at", "whole", "low", "high", "spot"], ⟨["word", "wide", "first", "second", "at"], 5, [none, none, none, none, none], []⟩⟩,
  ⟨mkD (top 18) "_law_turned_right" [] [], ["wide", "first", "second", "back", "far", "plus", "times", "over", "rest", "span"], ⟨["wide", "first", "second"], 3, [none, none, none], []⟩⟩,
  ⟨mkD (top 19) "_law_wider_right" [] [], ["word", "wide", "first", "second", "some", "more", "spot"], ⟨["word", "wide", "first", "second"], 4, [none, none, none, none], []⟩⟩,
  ⟨mkD (top 20) "law" [] [], ["script", "k", "tape", "turn", "wide", "first", "second", "word", "at"], ⟨["script"], 1, [none], []⟩⟩]
def lawNo : Nat := 17
abbrev T : List Fn := ds.map (mkFn globs (ds.map PDef.fi))
abbrev F12_c0 : E := .lc [3] (.nm 3) (.lst [.var 0, .var 1]) (.op .notN [.var 3]) (.var 3)
abbrev F12_c1 : E := .lc [3] (.nm 3) (.var 2) (.cst (.bl true)) (.op .ix [.var 3, .cst (.int 0)])
abbrev F12_c2 : E := .lc [3] (.nm 3) (.var 2) (.cst (.bl true)) (.op .ix [.var 3, .cst (.int 1)])
def F12 : Fn := ⟨2, 4, [], [
  .asg (.nm 2) (F12_c0),
  .ite (.op .eq [.var 2, .lst []]) [
    .ret (.cst (.non))] [],
  .ret (.tup [.op .min [F12_c1], .op .max [F12_c2]])]⟩
def F13 : Fn := ⟨1, 1, [], [
  .ite (.op .isN [.var 0]) [
    .ret (.cst (.non))] [],
  .ret (.tup [.op .sub [.cst (.int 0), .op .ix [.var 0, .cst (.int 1)]], .op .sub [.cst (.int 0), .op .ix [.var 0, .cst (.int 0)]]])]⟩
abbrev F14_c0 : E := .lc [8] (.nm 8) (.itr .range [.cst (.int 3)]) (.cst (.bl true)) (.call 12 [.op .ix [.var 6, .var 8], .op .ix [.var 7, .var 8]] [.a 0, .a 1])
abbrev F14_c1 : E := .lc [8] (.nm 8) (.itr .range [.cst (.int 3)]) (.cst (.bl true)) (.call 12 [.op .ix [.var 6, .var 8], .op .ix [.var 7, .var 8]] [.a 0, .a 1])
def F14 : Fn := ⟨5, 9, [], [
  .asg (.nm 5) (.call 6 [.var 0, .var 2, .var 3, .var 1] [.a 0, .a 1, .a 2, .a 3]),
  .ite (.op .lt [.var 4, .op .ix [.var 2, .cst (.int 1)]]) [
    .asg (.nm 6) (.call 6 [.var 0, .tup [.op .ix [.var 2, .cst (.int 0)], .var 4], .var 3, .var 1] [.a 0, .a 1, .a 2, .a 3]),
    .asg (.nm 7) (.call 6 [.var 0, .tup [.op .add [.var 4, .cst (.int 1)], .op .ix [.var 2, .cst (.int 1)]], .var 3, .var 1] [.a 0, .a 1, .a 2, .a 3]),
    .ite (.op .ne [.op .tuple [F14_c0], .var 5]) [
      .ret (.cst (.bl false))] [],
    .asg (.nm 6) (.call 6 [.var 0, .var 3, .tup [.op .ix [.var 2, .cst (.int 0)], .var 4], .var 1] [.a 0, .a 1, .a 2, .a 3]),
    .asg (.nm 7) (.call 6 [.var 0, .var 3, .tup [.op .add [.var 4, .cst (.int 1)], .op .ix [.var 2, .cst (.int 1)]], .var 1] [.a 0, .a 1, .a 2, .a 3]),
    .ite (.op .ne [.op .tuple [F14_c1], .call 6 [.var 0, .var 3, .var 2, .var 1] [.a 0, .a 1, .a 2, .a 3]]) [
      .ret (.cst (.bl false))] []] [],
  .ret (.cst (.bl true))]⟩
abbrev F15_c0 : E := .lc [9] (.nm 9) (.var 8) (.cst (.bl true)) (.call 13 [.var 9] [.a 0])
def F15 : Fn := ⟨3, 10, [], [
  .asg (.tp [.nm 3, .nm 4]) (.tup [.call 13 [.var 1] [.a 0], .call 13 [.var 2] [.a 0]]),
  .asg (.nm 5) (.call 6 [.cst (.str "plus"), .var 1, .var 2, .var 0] [.a 0, .a 1, .a 2, .a 3]),
  .ite (.op .ne [.call 6 [.cst (.str "plus"), .var 2, .var 1, .var 0] [.a 0, .a 1, .a 2, .a 3], .tup [.op .ix [.var 5, .cst (.int 0)], .op .ix [.var 5, .cst (.int 2)], .op .ix [.var 5, .cst (.int 1)]]]) [
    .ret (.cst (.bl false))] [],
  .ite (.op .ne [.call 6 [.cst (.str "minus"), .var 1, .var 4, .var 0] [.a 0, .a 1, .a 2, .a 3], .op .add [.op .sl [.var 5, .cst (.non), .op .part [.cst (.int 2)]], .tup [.call 13 [.op .ix [.var 5, .cst (.int 2)]] [.a 0]]]]) [
    .ret (.cst (.bl false))] [],
  .asg (.nm 6) (.call 6 [.cst (.str "times"), .var 1, .var 2, .var 0] [.a 0, .a 1, .a 2, .a 3]),
  .ite (.op .ne [.call 6 [.cst (.str "times"), .var 2, .var 1, .var 0] [.a 0, .a 1, .a 2, .a 3], .tup [.op .ix [.var 6, .cst (.int 0)], .op .ix [.var 6, .cst (.int 2)], .op .ix [.var 6, .cst (.int 1)]]]) [
    .ret (.cst (.bl false))] [],
  .ite (.op .ne [.call 6 [.cst (.str "times"), .var 3, .var 2, .var 0] [.a 0, .a 1, .a 2, .a 3], .tup [.call 13 [.op .ix [.var 6, .cst (.int 0)]] [.a 0], .call 13 [.op .ix [.var 6, .cst (.int 1)]] [.a 0], .op .ix [.var 6, .cst (.int 2)]]]) [
    .ret (.cst (.bl false))] [],
  .asg (.nm 7) (.call 6 [.cst (.str "over"), .var 1, .var 2, .var 0] [.a 0, .a 1, .a 2, .a 3]),
  .ite (.op .ne [.call 6 [.cst (.str "over"), .var 3, .var 4, .var 0] [.a 0, .a 1, .a 2, .a 3], .tup [.op .ix [.var 7, .cst (.int 0)], .call 13 [.op .ix [.var 7, .cst (.int 1)]] [.a 0], .call 13 [.op .ix [.var 7, .cst (.int 2)]] [.a 0]]]) [
    .ret (.cst (.bl false))] [],
  .asg (.nm 8) (.call 6 [.cst (.str "rest"), .var 1, .var 2, .var 0] [.a 0, .a 1, .a 2, .a 3]),
  .ret (.op .eq [.call 6 [.cst (.str "rest"), .var 3, .var 4, .var 0] [.a 0, .a 1, .a 2, .a 3], .op .tuple [F15_c0]])]⟩
abbrev F16_b0 : List S := [
  .ite (.band (.op .notN [.op .ix [.var 4, .var 6]]) (.op .ne [.call 12 [.op .ix [.var 4, .var 6], .op .ix [.var 5, .var 6]] [.a 0, .a 1], .op .ix [.var 5, .var 6]])) [
    .ret (.cst (.bl false))] []]
def F16 : Fn := ⟨4, 7, [], [
  .asg (.nm 4) (.call 6 [.var 0, .var 2, .var 3, .var 1] [.a 0, .a 1, .a 2, .a 3]),
  .asg (.nm 5) (.call 6 [.var 0, .var 2, .var 3, .op .add [.var 1, .cst (.int 3)]] [.a 0, .a 1, .a 2, .a 3]),
  .for_ (.nm 6) (.itr .range [.cst (.int 3)]) F16_b0,
  .ret (.cst (.bl true))]⟩
abbrev F17_b0 : List S := [
  .asg (.nm 4) (.call 9 [.ref 2, .lst [.cst (.int 1), .cst (.int 2), .cst (.int 4), .cst (.int 9), .cst (.int 28)]] [.s 0 2, .a 1]),
  .asg (.tp [.nm 5, .nm 6]) (.tup [.call 11 [.ref 2, .var 4] [.s 0 2, .a 1], .call 11 [.ref 2, .var 4] [.s 0 2, .a 1]]),
  .asg (.nm 7) (.call 9 [.ref 2, .lst [.cst (.str "plus"), .cst (.str "minus"), .cst (.str "times"), .cst (.str "over"), .cst (.str "rest")]] [.s 0 2, .a 1]),
  .asg (.nm 8) (.op .add [.op .ix [.var 5, .cst (.int 0)], .call 8 [.ref 2, .op .add [.op .sub [.op .ix [.var 5, .cst (.int 1)], .op .ix [.var 5, .cst (.int 0)]], .cst (.int 1)]] [.s 0 2, .a 1]]),
  .ite (.bor (.op .not [.call 14 [.var 7, .var 4, .var 5, .var 6, .var 8] [.a 0, .a 1, .a 2, .a 3, .a 4]]) (.op .not [.call 15 [.var 4, .var 5, .var 6] [.a 0, .a 1, .a 2]])) [
    .ret (.cst (.bl false))] [],
  .ite (.op .not [.call 16 [.var 7, .var 4, .var 5, .var 6] [.a 0, .a 1, .a 2, .a 3]]) [
    .ret (.cst (.bl false))] []]
abbrev F17_b1 : List S := [
  .asg (.nm 2) (.call 7 [.var 0, .var 1] [.a 0, .a 1]),
  .for_ (.nm 3) (.itr .range [.cst (.int 4)]) F17_b0]
def F17 : Fn := ⟨1, 9, [], [
  .for_ (.nm 1) (.itr .range [.op .max [.cst (.int 2), .op .min [.cst (.int 4), .op .len [.var 0]]]]) F17_b1,
  .ret (.cst (.bl true))]⟩
theorem hT : T = [Sums.F0, Sums.F1, Sums.F2, Sums.F3, Sums.F4, Sums.F5, Sums.F6, tapeFn, drawFn, pickFn 8, awordFn 8 9, spanFn 10, F12, F13, F14, F15, F16, F17] := by kernel_rfl
theorem H : Has T := by rw [hT]; exact ⟨rfl, rfl, rfl, rfl, rfl, rfl, rfl⟩
theorem t7 : T[7]? = some tapeFn := by rw [hT]; rfl
theorem t8 : T[8]? = some drawFn := by rw [hT]; rfl
theorem t9 : T[9]? = some (pickFn 8) := by rw [hT]; rfl
theorem t10 : T[10]? = some (awordFn 8 9) := by rw [hT]; rfl
theorem t11 : T[11]? = some (spanFn 10) := by rw [hT]; rfl
theorem t12 : T[12]? = some F12 := by rw [hT]; rfl
theorem t13 : T[13]? = some F13 := by rw [hT]; rfl
theorem t14 : T[14]? = some F14 := by rw [hT]; rfl
theorem t15 : T[15]? = some F15 := by rw [hT]; rfl
theorem t16 : T[16]? = some F16 := by rw [hT]; rfl
theorem t17 : T[17]? = some F17 := by rw [hT]; rfl
theorem nought_ok (k : Nat) (x : Option (Int × Int)) : fns T (k + 1) 13 [oD x] = .ok (oD (nD x), [oD x]) [] := by
  rw [fns_at t13]
  cases x <;> simp [runFn, startR, exs, ex, evT, evB, evVs, evAs, evOs, evV, takeP, rootOf, quiet, quietAll, M.bind, M.pure, M.lift, opSem, D.truth, asgT, asgTs, setSlot, chkS, chkL, mutV, mopSem, movS, setV, mutS, MP.pick, callD, putS, D.isFrz, frzAll, D.frz, mapFrz, outsOk, outsOf, inLine, sizeLine_eq, sAdd, sSub, sNeg, sLt, sLe, sGt, sGe, sIsN, sNotN, sNot, iN0, iN1, iN2, iN3, iN4, iN5, iN6, sLen, sMin, sMax, s_abs, sInt, opt, F13, oD, nD, dpr, sIx, at0, at1]
def js (x y : Option (Int × Int)) : List (Int × Int) := [x, y].filterMap id
theorem js_sp (x y : Option (Int × Int)) : sp (js x y) = oD (jD x y) := by
  cases x <;> cases y <;> simp [js, sp, jD, oD, dpr, minI, maxI, pmn, pmx]
theorem joined_ok (k : Nat) (x y : Option (Int × Int)) : fns T (k + 1) 12 [oD x, oD y] = .ok (oD (jD x y), [oD x, oD y]) [] := by
  rw [fns_at t12]
  have ox := oD_z x
  have oy := oD_z y
  have hjl : (js x y).length ≤ 2 := List.length_filterMap_le _ _
  have c0 : evB (fns T k) F12_c0 [some (oD x), some (oD y), none, none] = .ok (.lst true ((js x y).map dpr)) [some (oD x), some (oD y), none, none] := by
    have := lc_list (Γ := fns T k) (own := [3]) (t := .nm 3) (it := .lst [.var 0, .var 1]) (c := .op .notN [.var 3]) (e := .var 3) (ρ0 := [some (oD x), some (oD y), none, none]) (ρ := [some (oD x), some (oD y), none, none]) (l := [x, y]) (f := oD) (g := fun o => o.map dpr)
      (by simp [evI, evV, evB, evVs, M.bind, M.pure, M.lift, takeP, rootOf, ox, oy, D.isFrz, mapFrz, D.frz, itemsOf, inLine, sizeLine_eq]) (by simp) (fun a _ => by
        cases a <;> simp [turnF, wipeR, asgT, asgTs, setSlot, M.bind, M.pure, M.lift, evT, evB, evOs, evVs, evAs, opSem, D.truth, takeP, rootOf, quiet, quietAll, D.isFrz, frzAll, D.frz, mapFrz, MP.pick, callD, putS, inLine, sizeLine_eq, sAdd, sSub, sNeg, sLt, sLe, sGt, sGe, sIsN, sNotN, sNot, iN0, iN1, iN2, iN3, iN4, iN5, iN6, sLen, s_abs, sInt, opt, oD, dpr])
    rw [show F12_c0 = _ from rfl, this]
    cases x <;> cases y <;> rfl
  rw [← js_sp]
  generalize js x y = ps at *
  have fz := frz_map (l := ps) (f := dpr) fun a _ => dpr_z a
  have en : eqD (.lst false (ps.map dpr)) (.lst true []) = some ps.isEmpty := eq_nil_pair false true ps
  unfold sp
  simp only [F12_c0] at c0
  cases h : ps.isEmpty with
  | true =>
    have : ps.map dpr = [] := by cases ps <;> simp_all
    rw [this] at c0 en
    simp [runFn, startR, exs, ex, evT, evB, evVs, evAs, evOs, evV, takeP, rootOf, quiet, quietAll, M.bind, M.pure, M.lift, opSem, D.truth, asgT, asgTs, setSlot, chkS, chkL, mutV, mopSem, movS, setV, mutS, MP.pick, callD, putS, D.isFrz, frzAll, D.frz, mapFrz, outsOk, outsOf, inLine, sizeLine_eq, sAdd, sSub, sNeg, sLt, sLe, sGt, sGe, sIsN, sNotN, sNot, iN0, iN1, iN2, iN3, iN4, iN5, iN6, sLen, sMin, sMax, s_abs, sInt, opt, F12, c0, sEq, en, h]
  | false =>
    have hp : 0 < ps.length := by cases ps <;> simp_all
    have a : evB (fns T k) F12_c1 [some (oD x), some (oD y), some (.lst false (ps.map dpr)), none] = .ok (.lst true (dI (ps.map (·.1)))) [some (oD x), some (oD y), some (.lst false (ps.map dpr)), none] := by
      have := lc_map (Γ := fns T k) (own := [3]) (t := .nm 3) (it := .var 2) (c := .cst (.bl true)) (e := .op .ix [.var 3, .cst (.int 0)]) (ρ0 := [some (oD x), some (oD y), some (.lst false (ps.map dpr)), none]) (l := ps) (f := dpr) (g := fun p => .int p.1) (evI_nm rfl fun a _ => dpr_z a) (by omega) fun p hp => by simp [turnF, wipeR, asgT, asgTs, setSlot, M.bind, M.pure, M.lift, evT, evB, evOs, evVs, evAs, opSem, D.truth, takeP, rootOf, quiet, quietAll, D.isFrz, frzAll, D.frz, mapFrz, MP.pick, callD, putS, inLine, sizeLine_eq, sAdd, sSub, sNeg, sLt, sLe, sGt, sGe, sIsN, sNotN, sNot, iN0, iN1, iN2, iN3, iN4, iN5, iN6, sLen, s_abs, sInt, opt, dpr, sIx, at0]
      rw [show F12_c1 = _ from rfl, this, dI, List.map_map]
      rfl
    have b : evB (fns T k) F12_c2 [some (oD x), some (oD y), some (.lst false (ps.map dpr)), none] = .ok (.lst true (dI (ps.map (·.2)))) [some (oD x), some (oD y), some (.lst false (ps.map dpr)), none] := by
      have := lc_map (Γ := fns T k) (own := [3]) (t := .nm 3) (it := .var 2) (c := .cst (.bl true)) (e := .op .ix [.var 3, .cst (.int 1)]) (ρ0 := [some (oD x), some (oD y), some (.lst false (ps.map dpr)), none]) (l := ps) (f := dpr) (g := fun p => .int p.2) (evI_nm rfl fun a _ => dpr_z a) (by omega) fun p hp => by simp [turnF, wipeR, asgT, asgTs, setSlot, M.bind, M.pure, M.lift, evT, evB, evOs, evVs, evAs, opSem, D.truth, takeP, rootOf, quiet, quietAll, D.isFrz, frzAll, D.frz, mapFrz, MP.pick, callD, putS, inLine, sizeLine_eq, sAdd, sSub, sNeg, sLt, sLe, sGt, sGe, sIsN, sNotN, sNot, iN0, iN1, iN2, iN3, iN4, iN5, iN6, sLen, s_abs, sInt, opt, dpr, sIx, at1]
      rw [show F12_c2 = _ from rfl, this, dI, List.map_map]
      rfl
    generalize hd : ps.map dpr = dd at *
    simp only [F12_c1, F12_c2] at a b
    simp [runFn, startR, exs, ex, evT, evB, evVs, evAs, evOs, evV, takeP, rootOf, quiet, quietAll, M.bind, M.pure, M.lift, opSem, D.truth, asgT, asgTs, setSlot, chkS, chkL, mutV, mopSem, movS, setV, mutS, MP.pick, callD, putS, D.isFrz, frzAll, D.frz, mapFrz, outsOk, outsOf, inLine, sizeLine_eq, sAdd, sSub, sNeg, sLt, sLe, sGt, sGe, sIsN, sNotN, sNot, iN0, iN1, iN2, iN3, iN4, iN5, iN6, sLen, sMin, sMax, s_abs, sInt, opt, F12, c0, sEq, en, h, a, b, dI_ints, hp, fz]
/-- tuples of three calls -/
theorem three (Γ : Fns) (e : E) (ρ : Rho) (x0 x1 x2 : D) (own : Nat) (hu : ∀ j d, (j, d) ∈ [((0 : Int), x0), (1, x1), (2, x2)] → turnF Γ [own] (.nm own) (.cst (.bl true)) e (.int j) (ρ.set own none) = .ok (some d) (ρ.set own none)) :
    evB Γ (.lc [own] (.nm own) (.itr .range [.cst (.int 3)]) (.cst (.bl true)) e) ρ = .ok (.lst true [x0, x1, x2]) ρ := by
  have r3 : opSem .range [.int 3] = some (.lst false [.int 0, .int 1, .int 2]) := rfl
  have ei : evI Γ (.itr .range [.cst (.int 3)]) ρ = .ok ([((0 : Int), x0), (1, x1), (2, x2)].map fun p => D.int p.1) ρ := by
    simp [evI, evV, evB, evVs, M.bind, M.pure, M.lift, takeP, rootOf, D.isFrz, mapFrz, D.frz, r3, itemsOf]
  exact lc_map (l := [((0 : Int), x0), (1, x1), (2, x2)]) (f := fun p => D.int p.1) (g := fun p => p.2) ei (by simp) fun p hp => hu p.1 p.2 hp
theorem parted_ok (k : Nat) (s : Sg) (w at_ : Int) (f g : Int × Int) (hf : Str0 w f) (hg : Str0 w g) (h1 : 1 ≤ w) (hw : w ≤ 90) (ha : f.1 ≤ at_ ∧ at_ ≤ f.2) :
    fns T (k + 5) 14 [.str s.s, .int w, dpr f, dpr g, .int at_] = .ok (.bl true, [.str s.s, .int w, dpr f, dpr g, .int at_]) [] := by
  rw [fns_at t14]
  have wh := pairs_t3 H k s w f g hf hg h1 (by omega)
  have hf1 : Str0 100 f := by obtain ⟨a, b, c⟩ := hf; exact ⟨by omega, b, by omega⟩
  have hg1 : Str0 100 g := by obtain ⟨a, b, c⟩ := hg; exact ⟨by omega, b, by omega⟩
  by_cases hl : at_ < f.2
  · have hlo : Str0 w (f.1, at_) := by obtain ⟨a, b, c⟩ := hf; exact ⟨a, ha.1, by dsimp only; omega⟩
    have hhi : Str0 w (at_ + 1, f.2) := by obtain ⟨a, b, c⟩ := hf; exact ⟨by dsimp only; omega, by dsimp only; omega, c⟩
    have e1 := pairs_t3 H k s w _ g hlo hg h1 (by omega)
    have e2 := pairs_t3 H k s w _ g hhi hg h1 (by omega)
    have e3 := pairs_t3 H k s w g _ hg hlo h1 (by omega)
    have e4 := pairs_t3 H k s w g _ hg hhi h1 (by omega)
    have e5 := pairs_t3 H k s w g f hg hf h1 (by omega)
    obtain ⟨a1, a2, a3⟩ := parted1 s w at_ f g ha.1 hl
    obtain ⟨b1, b2, b3⟩ := parted2 s w at_ f g ha.1 hl
    obtain ⟨q1, q2, q3⟩ := p_bd (s := s) hf1 hg1 (show w ≤ 100 by omega)
    obtain ⟨r1, r2, r3⟩ := p_bd (s := s) hg1 hf1 (show w ≤ 100 by omega)
    have n1 := sNe_refl (t3_ez q1 q2 q3).1 (t3_ez q1 q2 q3).2
    have n2 := sNe_refl (t3_ez r1 r2 r3).1 (t3_ez r1 r2 r3).2
    generalize p1 s w (f.1, at_) g = u1 at *
    generalize p2 s w (f.1, at_) g = u2 at *
    generalize p3 s w (f.1, at_) g = u3 at *
    generalize p1 s w (at_ + 1, f.2) g = v1 at *
    generalize p2 s w (at_ + 1, f.2) g = v2 at *
    generalize p3 s w (at_ + 1, f.2) g = v3 at *
    generalize p1 s w g (f.1, at_) = y1 at *
    generalize p2 s w g (f.1, at_) = y2 at *
    generalize p3 s w g (f.1, at_) = y3 at *
    generalize p1 s w g (at_ + 1, f.2) = z1 at *
    generalize p2 s w g (at_ + 1, f.2) = z2 at *
    generalize p3 s w g (at_ + 1, f.2) = z3 at *
    generalize p1 s w f g = i1 at *
    generalize p2 s w f g = i2 at *
    generalize p3 s w f g = i3 at *
    generalize p1 s w g f = j1 at *
    generalize p2 s w g f = j2 at *
    generalize p3 s w g f = j3 at *
    have c (a1 a2 a3 b1 b2 b3 : Option (Int × Int)) (x5 : D) : evB (fns T (k + 4)) F14_c0 [some (.str s.s), some (.int w), some (dpr f), some (dpr g), some (.int at_), some x5, some (t3 a1 a2 a3), some (t3 b1 b2 b3), none] = .ok (.lst true [oD (jD a1 b1), oD (jD a2 b2), oD (jD a3 b3)]) [some (.str s.s), some (.int w), some (dpr f), some (dpr g), some (.int at_), some x5, some (t3 a1 a2 a3), some (t3 b1 b2 b3), none] := by
      refine three _ _ _ _ _ _ _ fun j d hd => ?_
      have j1 := joined_ok (k + 3) a1 b1
      have j2 := joined_ok (k + 3) a2 b2
      have j3 := joined_ok (k + 3) a3 b3
      simp only [List.mem_cons, List.not_mem_nil, or_false, Prod.mk.injEq] at hd
      rcases hd with ⟨rfl, rfl⟩ | ⟨rfl, rfl⟩ | ⟨rfl, rfl⟩ <;> simp [turnF, wipeR, asgT, asgTs, setSlot, M.bind, M.pure, M.lift, evT, evB, evOs, evVs, evAs, opSem, D.truth, takeP, rootOf, quiet, quietAll, D.isFrz, frzAll, D.frz, mapFrz, MP.pick, callD, putS, inLine, sizeLine_eq, sAdd, sSub, sNeg, sLt, sLe, sGt, sGe, sIsN, sNotN, sNot, iN0, iN1, iN2, iN3, iN4, iN5, iN6, sLen, s_abs, sInt, opt, t3_0, t3_1, t3_2, oD_z, j1, j2, j3]
    have c1 := c u1 u2 u3 v1 v2 v3 (t3 i1 i2 i3)
    have c2 := c y1 y2 y3 z1 z2 z3 (t3 i1 i2 i3)
    rw [a1, a2, a3] at c1
    rw [b1, b2, b3] at c2
    have tt (a b c : Option (Int × Int)) : sTuple [.lst true [oD a, oD b, oD c]] = some (t3 a b c) := by cases a <;> cases b <;> cases c <;> rfl
    have z5 := t3_z
    generalize ht : t3 = t3' at *
    simp only [F14_c0, dpr] at c1 c2 wh e1 e2 e3 e4 e5 ⊢
    simp [runFn, startR, exs, ex, evT, evB, evVs, evAs, evOs, evV, takeP, rootOf, quiet, quietAll, M.bind, M.pure, M.lift, opSem, D.truth, asgT, asgTs, setSlot, chkS, chkL, mutV, mopSem, movS, setV, mutS, MP.pick, callD, putS, D.isFrz, frzAll, D.frz, mapFrz, outsOk, outsOf, inLine, sizeLine_eq, sAdd, sSub, sNeg, sLt, sLe, sGt, sGe, sIsN, sNotN, sNot, iN0, iN1, iN2, iN3, iN4, iN5, iN6, sLen, sMin, sMax, s_abs, sInt, opt, F14, wh, e1, e2, e3, e4, e5, c1, c2, sIx, at0, at1, hl, tt, n1, n2, z5]
  · have z5 := t3_z
    generalize ht : t3 = t3' at *
    simp only [dpr] at wh ⊢
    simp [runFn, startR, exs, ex, evT, evB, evVs, evAs, evOs, evV, takeP, rootOf, quiet, quietAll, M.bind, M.pure, M.lift, opSem, D.truth, asgT, asgTs, setSlot, chkS, chkL, mutV, mopSem, movS, setV, mutS, MP.pick, callD, putS, D.isFrz, frzAll, D.frz, mapFrz, outsOk, outsOf, inLine, sizeLine_eq, sAdd, sSub, sNeg, sLt, sLe, sGt, sGe, sIsN, sNotN, sNot, iN0, iN1, iN2, iN3, iN4, iN5, iN6, sLen, sMin, sMax, s_abs, sInt, opt, F14, wh, sIx, at0, at1, hl, z5]
end T
end MP

end
section
set_option Elab.async false
set_option linter.all false
set_option maxRecDepth 100000
set_option maxHeartbeats 4000000
namespace MP
namespace T
open PySem PySem.Spec PyProof.Rows L2 Sums
theorem str0_up {w v : Int} {f : Int × Int} (h : Str0 w f) (hv : w ≤ v) : Str0 v f := ⟨by have := h.1; omega, h.2.1, by have := h.2.2; omega⟩
theorem nD_some (f : Int × Int) : oD (nD (some f)) = dpr (bk f) := rfl
theorem turned_ok (k : Nat) (w : Int) (f g : Int × Int) (hf : Str0 w f) (hg : Str0 w g) (h1 : 1 ≤ w) (hw : w ≤ 90) :
    fns T (k + 5) 15 [.int w, dpr f, dpr g] = .ok (.bl true, [.int w, dpr f, dpr g]) [] := by
  rw [fns_at t15]
  have hbf : Str0 w (bk f) := by obtain ⟨a, b, c⟩ := hf; exact ⟨by simp only [bk]; omega, by simp only [bk]; omega, by simp only [bk]; omega⟩
  have hbg : Str0 w (bk g) := by obtain ⟨a, b, c⟩ := hg; exact ⟨by simp only [bk]; omega, by simp only [bk]; omega, by simp only [bk]; omega⟩
  have n1 := nought_ok (k + 3) (some f)
  have n2 := nought_ok (k + 3) (some g)
  rw [nD_some] at n1 n2
  have e1 := pairs_t3 H k .plus w f g hf hg h1 (by omega)
  have e2 := pairs_t3 H k .plus w g f hg hf h1 (by omega)
  have e3 := pairs_t3 H k .minus w f (bk g) hf hbg h1 (by omega)
  have e4 := pairs_t3 H k .times w f g hf hg h1 (by omega)
  have e5 := pairs_t3 H k .times w g f hg hf h1 (by omega)
  have e6 := pairs_t3 H k .times w (bk f) g hbf hg h1 (by omega)
  have e7 := pairs_t3 H k .over w f g hf hg h1 (by omega)
  have e8 := pairs_t3 H k .over w (bk f) (bk g) hbf hbg h1 (by omega)
  have e9 := pairs_t3 H k .rest w f g hf hg h1 (by omega)
  have e10 := pairs_t3 H k .rest w (bk f) (bk g) hbf hbg h1 (by omega)
  obtain ⟨a1, a2, a3⟩ := swap (s := .plus) (w := w) (f := f) (g := g) (.inl rfl)
  obtain ⟨b1, b2, b3⟩ := minus_far (w := w) (f := f) (g := g)
  obtain ⟨c1, c2, c3⟩ := swap (s := .times) (w := w) (f := f) (g := g) (.inr rfl)
  obtain ⟨d1, d2, d3⟩ := times_back (w := w) (f := f) (g := g)
  obtain ⟨i1, i2, i3⟩ := over_both (w := w) (f := f) (g := g)
  obtain ⟨j1, j2, j3⟩ := rest_both (w := w) (f := f) (g := g)
  have hf2 := str0_up hf (show w ≤ 100 by omega)
  have hg2 := str0_up hg (show w ≤ 100 by omega)
  have hbf2 := str0_up hbf (show w ≤ 100 by omega)
  have hbg2 := str0_up hbg (show w ≤ 100 by omega)
  have hw' : w ≤ 100 := by omega
  obtain ⟨m1, m2, m3⟩ := p_bd (s := .plus) hg2 hf2 hw'
  have v2 := sNe_refl (t3_ez m1 m2 m3).1 (t3_ez m1 m2 m3).2
  obtain ⟨m1, m2, m3⟩ := p_bd (s := .minus) hf2 hbg2 hw'
  have v3 := sNe_refl (t3_ez m1 m2 m3).1 (t3_ez m1 m2 m3).2
  obtain ⟨m1, m2, m3⟩ := p_bd (s := .times) hg2 hf2 hw'
  have v5 := sNe_refl (t3_ez m1 m2 m3).1 (t3_ez m1 m2 m3).2
  obtain ⟨m1, m2, m3⟩ := p_bd (s := .times) hbf2 hg2 hw'
  have v6 := sNe_refl (t3_ez m1 m2 m3).1 (t3_ez m1 m2 m3).2
  obtain ⟨m1, m2, m3⟩ := p_bd (s := .over) hbf2 hbg2 hw'
  have v8 := sNe_refl (t3_ez m1 m2 m3).1 (t3_ez m1 m2 m3).2
  obtain ⟨m1, m2, m3⟩ := p_bd (s := .rest) hbf2 hbg2 hw'
  have v10 := sEq_refl (t3_ez m1 m2 m3).1 (t3_ez m1 m2 m3).2
  rw [a1, a2, a3] at e2 v2
  rw [b1, b2, b3] at e3 v3
  rw [c1, c2, c3] at e5 v5
  rw [d1, d2, d3] at e6 v6
  rw [i1, i2, i3] at e8 v8
  rw [j1, j2, j3] at e10 v10
  clear m1 m2 m3 a1 a2 a3 b1 b2 b3 c1 c2 c3 d1 d2 d3 i1 i2 i3 j1 j2 j3
  generalize p1 .plus w f g = pl1 at *
  generalize p2 .plus w f g = pl2 at *
  generalize p3 .plus w f g = pl3 at *
  generalize p1 .times w f g = ti1 at *
  generalize p2 .times w f g = ti2 at *
  generalize p3 .times w f g = ti3 at *
  generalize p1 .over w f g = ov1 at *
  generalize p2 .over w f g = ov2 at *
  generalize p3 .over w f g = ov3 at *
  generalize p1 .rest w f g = re1 at *
  generalize p2 .rest w f g = re2 at *
  generalize p3 .rest w f g = re3 at *
  have no := nought_ok (k + 3)
  have oz := oD_z
  have tz := t3_z
  have x0 := t3_0
  have x1 := t3_1
  have x2 := t3_2
  have tt (a b c : Option (Int × Int)) : sTuple [.lst true [oD a, oD b, oD c]] = some (t3 a b c) := by cases a <;> cases b <;> cases c <;> rfl
  have td (a b c : Option (Int × Int)) : D.tup [oD a, oD b, oD c] = t3 a b c := rfl
  have cut (a b c : Option (Int × Int)) : sSl [t3 a b c, .non, .int 2] = some (.tup [oD a, oD b]) := by cases a <;> cases b <;> cases c <;> rfl
  have pt : sPart [.int 2] = some (.int 2) := rfl
  have app (a b c : Option (Int × Int)) : sAdd [.tup [oD a, oD b], .tup [oD c]] = some (t3 a b c) := by
    have : (opt (frzAll [oD a, oD b] && frzAll [oD c] && inLine ([oD a, oD b].length + [oD c].length)) (D.tup ([oD a, oD b] ++ [oD c]))) = some (t3 a b c) := by
      simp [opt, frzAll, oz, inLine, sizeLine_eq, t3]
    exact this
  have cc (a b c : Option (Int × Int)) (y0 y1 y2 y3 y4 y5 y6 y7 : Option D) (u : D) (hu : u = t3 a b c) : evB (fns T (k + 4)) F15_c0 [y0, y1, y2, y3, y4, y5, y6, y7, some u, none] = .ok (.lst true [oD (nD a), oD (nD b), oD (nD c)]) [y0, y1, y2, y3, y4, y5, y6, y7, some u, none] := by
    subst hu
    have n1 := no a
    have n2 := no b
    have n3 := no c
    have ei : evI (fns T (k + 4)) (.var 8) [y0, y1, y2, y3, y4, y5, y6, y7, some (t3 a b c), none] = .ok ([a, b, c].map oD) [y0, y1, y2, y3, y4, y5, y6, y7, some (t3 a b c), none] := by
      have : itemsOf (t3 a b c) = some [oD a, oD b, oD c] := rfl
      simp [evI, evV, evB, M.bind, M.pure, M.lift, takeP, rootOf, tz, this]
    exact lc_map (l := [a, b, c]) (f := oD) (g := fun x => oD (nD x)) ei (by simp) fun x _ => by
      have := no x
      simp [turnF, wipeR, asgT, asgTs, setSlot, M.bind, M.pure, M.lift, evT, evB, evOs, evVs, evAs, opSem, D.truth, takeP, rootOf, quiet, quietAll, D.isFrz, frzAll, D.frz, mapFrz, MP.pick, callD, putS, inLine, sizeLine_eq, sAdd, sSub, sNeg, sLt, sLe, sGt, sGe, sIsN, sNotN, sNot, iN0, iN1, iN2, iN3, iN4, iN5, iN6, sLen, s_abs, sInt, opt, oz, this]
  have cr := cc re1 re2 re3
  simp only [F15_c0] at cr
  clear cc
  have dz := dpr_z
  have s1 : Sg.plus.s = ("plus" : Str) := rfl
  have s2 : Sg.minus.s = ("minus" : Str) := rfl
  have s3 : Sg.times.s = ("times" : Str) := rfl
  have s4 : Sg.over.s = ("over" : Str) := rfl
  have s5 : Sg.rest.s = ("rest" : Str) := rfl
  rw [s1] at e1 e2
  rw [s2] at e3
  rw [s3] at e4 e5 e6
  rw [s4] at e7 e8
  rw [s5] at e9 e10
  change fns T (k + 4) 13 [dpr f] = .ok (dpr (bk f), [dpr f]) [] at n1
  change fns T (k + 4) 13 [dpr g] = .ok (dpr (bk g), [dpr g]) [] at n2
  have zf := dpr_z f
  have zg := dpr_z g
  have zbf := dpr_z (bk f)
  have zbg := dpr_z (bk g)
  generalize dpr (bk f) = bf at *
  generalize dpr (bk g) = bg at *
  generalize dpr f = df at *
  generalize dpr g = dg at *
  clear app tt
  have tt (a b c : Option (Int × Int)) : sTuple [.lst true [oD a, oD b, oD c]] = some (t3 a b c) := by cases a <;> cases b <;> cases c <;> rfl
  generalize hT3 : t3 = t3' at *
  simp [runFn, startR, exs, ex, evT, evB, evVs, evAs, evOs, evV, takeP, rootOf, quiet, quietAll, M.bind, M.pure, M.lift, opSem, D.truth, asgT, asgTs, setSlot, chkS, chkL, mutV, mopSem, movS, setV, mutS, MP.pick, callD, putS, D.isFrz, frzAll, D.frz, mapFrz, outsOk, outsOf, inLine, sizeLine_eq, sAdd, sSub, sNeg, sLt, sLe, sGt, sGe, sIsN, sNotN, sNot, iN0, iN1, iN2, iN3, iN4, iN5, iN6, sLen, sMin, sMax, s_abs, sInt, opt, F15, n1, n2, e1, e2, e3, e4, e5, e6, e7, e8, e9, e10, v2, v3, v5, v6, v8, v10, no, oz, tz, x0, x1, x2, tt, td, cut, pt, cr, zf, zg, zbf, zbg]
theorem wider_ok (k : Nat) (s : Sg) (w : Int) (f g : Int × Int) (hf : Str0 w f) (hg : Str0 w g) (h1 : 1 ≤ w) (hw : w ≤ 90) :
    fns T (k + 5) 16 [.str s.s, .int w, dpr f, dpr g] = .ok (.bl true, [.str s.s, .int w, dpr f, dpr g]) [] := by
  rw [fns_at t16]
  have e1 := pairs_t3 H k s w f g hf hg h1 (by omega)
  have e2 := pairs_t3 H k s (w + 3) f g (str0_up hf (by omega)) (str0_up hg (by omega)) (by omega) (by omega)
  obtain ⟨m1, m2, m3⟩ := p_bd (s := s) (w := w + 3) (str0_up hf (show w ≤ 100 by omega)) (str0_up hg (show w ≤ 100 by omega)) (by omega)
  obtain ⟨a1, a2, a3⟩ := wider (s := s) (w := w) (f := f) (g := g)
  have q1 := sNe_refl m1.1 (show _ ≤ 60 by have := m1.2; omega)
  have q2 := sNe_refl m2.1 (show _ ≤ 60 by have := m2.2; omega)
  have q3 := sNe_refl m3.1 (show _ ≤ 60 by have := m3.2; omega)
  have i1 := joined_ok (k + 3) (p1 s w f g) (p1 s (w + 3) f g)
  have i2 := joined_ok (k + 3) (p2 s w f g) (p2 s (w + 3) f g)
  have i3 := joined_ok (k + 3) (p3 s w f g) (p3 s (w + 3) f g)
  rw [a1] at i1
  rw [a2] at i2
  rw [a3] at i3
  clear m1 m2 m3 a1 a2 a3
  generalize p1 s w f g = u1 at *
  generalize p2 s w f g = u2 at *
  generalize p3 s w f g = u3 at *
  generalize p1 s (w + 3) f g = v1 at *
  generalize p2 s (w + 3) f g = v2 at *
  generalize p3 s (w + 3) f g = v3 at *
  have zf := dpr_z f
  have zg := dpr_z g
  generalize dpr f = df at *
  generalize dpr g = dg at *
  have oz := oD_z
  have on := oD_n
  have tz := t3_z
  have tr (j : Int) (a b : Option (Int × Int)) (x6 : Option D) (ha : sIx [t3 u1 u2 u3, .int j] = some (oD a)) (hb : sIx [t3 v1 v2 v3, .int j] = some (oD b)) (hj : fns T (k + 4) 12 [oD a, oD b] = .ok (oD b, [oD a, oD b]) []) (hq : sNe [oD b, oD b] = some (.bl false)) :
      ((asgT (.nm 6) (.int j)).bind fun _ => exs (fns T (k + 4)) F16_b0) [some (.str s.s), some (.int w), some df, some dg, some (t3 u1 u2 u3), some (t3 v1 v2 v3), x6] = .ok .nx [some (.str s.s), some (.int w), some df, some dg, some (t3 u1 u2 u3), some (t3 v1 v2 v3), some (.int j)] := by
    generalize t3 u1 u2 u3 = tu at *
    generalize t3 v1 v2 v3 = tv at *
    cases hs : a.isSome with
    | true => simp [runFn, startR, exs, ex, evT, evB, evVs, evAs, evOs, evV, takeP, rootOf, quiet, quietAll, M.bind, M.pure, M.lift, opSem, D.truth, asgT, asgTs, setSlot, chkS, chkL, mutV, mopSem, movS, setV, mutS, MP.pick, callD, putS, D.isFrz, frzAll, D.frz, mapFrz, outsOk, outsOf, inLine, sizeLine_eq, sAdd, sSub, sNeg, sLt, sLe, sGt, sGe, sIsN, sNotN, sNot, iN0, iN1, iN2, iN3, iN4, iN5, iN6, sLen, sMin, sMax, s_abs, sInt, opt, F16_b0, ha, hb, hj, hq, oz, on, hs]
    | false => simp [runFn, startR, exs, ex, evT, evB, evVs, evAs, evOs, evV, takeP, rootOf, quiet, quietAll, M.bind, M.pure, M.lift, opSem, D.truth, asgT, asgTs, setSlot, chkS, chkL, mutV, mopSem, movS, setV, mutS, MP.pick, callD, putS, D.isFrz, frzAll, D.frz, mapFrz, outsOk, outsOf, inLine, sizeLine_eq, sAdd, sSub, sNeg, sLt, sLe, sGt, sGe, sIsN, sNotN, sNot, iN0, iN1, iN2, iN3, iN4, iN5, iN6, sLen, sMin, sMax, s_abs, sInt, opt, F16_b0, ha, hb, hj, hq, oz, on, hs]
  have r0 := tr 0 u1 v1 none (t3_0 ..) (t3_0 ..) i1 q1
  have r1 := tr 1 u2 v2 (some (.int 0)) (t3_1 ..) (t3_1 ..) i2 q2
  have r2 := tr 2 u3 v3 (some (.int 1)) (t3_2 ..) (t3_2 ..) i3 q3
  have tzu := tz u1 u2 u3
  have tzv := tz v1 v2 v3
  clear tr tz
  generalize t3 u1 u2 u3 = tu at *
  generalize t3 v1 v2 v3 = tv at *
  have r3 : opSem .range [.int 3] = some (.lst false [.int 0, .int 1, .int 2]) := rfl
  have lp : ex (fns T (k + 4)) (.for_ (.nm 6) (.itr .range [.cst (.int 3)]) F16_b0) [some (.str s.s), some (.int w), some df, some dg, some tu, some tv, none] = .ok .nx [some (.str s.s), some (.int w), some df, some dg, some tu, some tv, some (.int 2)] := by
    refine for_ok (xs := [.int 0, .int 1, .int 2]) (ρ1 := [some (.str s.s), some (.int w), some df, some dg, some tu, some tv, none]) ?_ ?_
    · simp [evI, evV, evB, evVs, M.bind, M.pure, M.lift, takeP, rootOf, D.isFrz, mapFrz, D.frz, r3, itemsOf]
    · obtain ⟨_, ρ0, c0, d0⟩ := bind_inv r0
      obtain ⟨_, ρ1, c1, d1⟩ := bind_inv r1
      obtain ⟨_, ρ2, c2, d2⟩ := bind_inv r2
      rw [loopF, bind_ok c0, bind_ok d0]
      dsimp only
      rw [loopF, bind_ok c1, bind_ok d1]
      dsimp only
      rw [loopF, bind_ok c2, bind_ok d2]
      rfl
  have es : exs (fns T (k + 4)) F16.body [some (.str s.s), some (.int w), some df, some dg, none, none, none] = .ok (.ret (.bl true)) [some (.str s.s), some (.int w), some df, some dg, some tu, some tv, some (.int 2)] := by
    have g1 : ex (fns T (k + 4)) (.asg (.nm 4) (.call 6 [.var 0, .var 2, .var 3, .var 1] [.a 0, .a 1, .a 2, .a 3])) [some (.str s.s), some (.int w), some df, some dg, none, none, none] = .ok .nx [some (.str s.s), some (.int w), some df, some dg, some tu, none, none] := by
      simp [runFn, startR, exs, ex, evT, evB, evVs, evAs, evOs, evV, takeP, rootOf, quiet, quietAll, M.bind, M.pure, M.lift, opSem, D.truth, asgT, asgTs, setSlot, chkS, chkL, mutV, mopSem, movS, setV, mutS, MP.pick, callD, putS, D.isFrz, frzAll, D.frz, mapFrz, outsOk, outsOf, inLine, sizeLine_eq, sAdd, sSub, sNeg, sLt, sLe, sGt, sGe, sIsN, sNotN, sNot, iN0, iN1, iN2, iN3, iN4, iN5, iN6, sLen, sMin, sMax, s_abs, sInt, opt, e1, zf, zg]
    have g2 : ex (fns T (k + 4)) (.asg (.nm 5) (.call 6 [.var 0, .var 2, .var 3, .op .add [.var 1, .cst (.int 3)]] [.a 0, .a 1, .a 2, .a 3])) [some (.str s.s), some (.int w), some df, some dg, some tu, none, none] = .ok .nx [some (.str s.s), some (.int w), some df, some dg, some tu, some tv, none] := by
      simp [runFn, startR, exs, ex, evT, evB, evVs, evAs, evOs, evV, takeP, rootOf, quiet, quietAll, M.bind, M.pure, M.lift, opSem, D.truth, asgT, asgTs, setSlot, chkS, chkL, mutV, mopSem, movS, setV, mutS, MP.pick, callD, putS, D.isFrz, frzAll, D.frz, mapFrz, outsOk, outsOf, inLine, sizeLine_eq, sAdd, sSub, sNeg, sLt, sLe, sGt, sGe, sIsN, sNotN, sNot, iN0, iN1, iN2, iN3, iN4, iN5, iN6, sLen, sMin, sMax, s_abs, sInt, opt, e2, zf, zg]
    refine (exs_nx g1).trans ((exs_nx g2).trans ((exs_nx lp).trans ?_))
    simp [exs, ex, evV, evB, takeP, rootOf, M.bind, M.pure]
  unfold runFn
  rw [if_pos (show [D.str s.s, D.int w, df, dg].length = F16.np from rfl)]
  rw [show startR F16.n [D.str s.s, D.int w, df, dg] = [some (.str s.s), some (.int w), some df, some dg, none, none, none] from rfl, es]
  rfl
def signs : List D := [.str "plus", .str "minus", .str "times", .str "over", .str "rest"]
def St (ns : List Int) (x1 : Option D) (n : Int) (ρ : Rho) : Prop := ∃ a b c x3 x4 x5 x6 x7 x8, ρ = [some (.scr ns), x1, some (tp a b c), x3, x4, x5, x6, x7, x8] ∧ Tape a b c n
theorem turn (k : Nat) (ns : List Int) (x1 : Option D) (n : Int) (hn : n + 15 < 2 ^ 29) (ρ : Rho) (h : St ns x1 n ρ) (i : Int) : ∃ ρ', ((asgT (.nm 3) (.int i)).bind fun _ => exs (fns T (k + 6)) F17_b0) ρ = .ok .nx ρ' ∧ St ns x1 (n + 15) ρ' := by
  obtain ⟨a, b, c, x3, x4, x5, x6, x7, x8, rfl, t⟩ := h
  obtain ⟨w', a2, c2, e2, hw, t2⟩ := pick_at t8 t9 (k + 4) t (by omega) [.int 1, .int 2, .int 4, .int 9, .int 28] (by simp) (by simp) rfl
  obtain ⟨w, rfl, w0, w1⟩ : ∃ w : Int, w' = .int w ∧ 1 ≤ w ∧ w ≤ 31 := by
    simp only [List.mem_cons, List.not_mem_nil, or_false] at hw
    rcases hw with rfl | rfl | rfl | rfl | rfl <;> exact ⟨_, rfl, by omega, by omega⟩
  obtain ⟨f, a3, c3, e3, hf, t3⟩ := span_ok t8 t9 t10 t11 (k + 2) t2 (by omega) w0 (by omega)
  obtain ⟨g, a4, c4, e4, hg, t4⟩ := span_ok t8 t9 t10 t11 (k + 2) t3 (by omega) w0 (by omega)
  obtain ⟨sg, a5, c5, e5, hsg, t5⟩ := pick_at t8 t9 (k + 4) t4 (by omega) signs (by simp [signs]) (by simp [signs]) rfl
  obtain ⟨s, rfl⟩ : ∃ s : Sg, sg = .str s.s := by
    simp only [signs, List.mem_cons, List.not_mem_nil, or_false] at hsg
    rcases hsg with rfl | rfl | rfl | rfl | rfl
    · exact ⟨.plus, rfl⟩
    · exact ⟨.minus, rfl⟩
    · exact ⟨.times, rfl⟩
    · exact ⟨.over, rfl⟩
    · exact ⟨.rest, rfl⟩
  have fo := hf.2.1
  have fb : f.2 - f.1 + 1 < 2 ^ 40 := by have := hf.1; have := hf.2.2; omega
  obtain ⟨r, a6, c6, e6, r0, r1, t6⟩ := draw_ok t8 (k + 5) t5 (by omega) (m := f.2 - f.1 + 1) (by omega) fb
  have e7 := parted_ok (k + 1) s w (f.1 + r) f g hf hg w0 (by omega) ⟨by omega, by omega⟩
  have e8 := turned_ok (k + 1) w f g hf hg w0 (by omega)
  have e9 := wider_ok (k + 1) s w f g hf hg w0 (by omega)
  refine ⟨[some (.scr ns), x1, some (tp a6 b c6), some (.int i), some (.int w), some (dpr f), some (dpr g), some (.str s.s), some (.int (f.1 + r))], ?_, a6, b, c6, _, _, _, _, _, _, rfl, ⟨t6.ha, t6.hb, t6.hb2, t6.hc, by have := t6.hc2; omega⟩⟩
  have zf := dpr_z f
  have zg := dpr_z g
  have i0 : sIx [dpr f, .int 0] = some (.int f.1) := at0 _ _
  have i1 : sIx [dpr f, .int 1] = some (.int f.2) := at1 _ _ _
  generalize dpr f = df at *
  generalize dpr g = dg at *
  simp only [tp, signs] at e2 e3 e4 e5 e6 ⊢
  simp [runFn, startR, exs, ex, evT, evB, evVs, evAs, evOs, evV, takeP, rootOf, quiet, quietAll, M.bind, M.pure, M.lift, opSem, D.truth, asgT, asgTs, setSlot, chkS, chkL, mutV, mopSem, movS, setV, mutS, MP.pick, callD, putS, D.isFrz, frzAll, D.frz, mapFrz, outsOk, outsOf, inLine, sizeLine_eq, sAdd, sSub, sNeg, sLt, sLe, sGt, sGe, sIsN, sNotN, sNot, iN0, iN1, iN2, iN3, iN4, iN5, iN6, sLen, sMin, sMax, s_abs, sInt, opt, F17_b0, e2, e3, e4, e5, e6, e7, e8, e9, zf, zg, i0, i1]
def St0 (ns : List Int) (ρ : Rho) : Prop := ∃ x1 x2 x3 x4 x5 x6 x7 x8, ρ = [some (.scr ns), x1, x2, x3, x4, x5, x6, x7, x8]
theorem round (k : Nat) (ns : List Int) (j : Nat) (hj : j < 4) (ρ : Rho) (h : St0 ns ρ) : ∃ ρ', ((asgT (.nm 1) (.int j)).bind fun _ => exs (fns T (k + 6)) F17_b1) ρ = .ok .nx ρ' ∧ St0 ns ρ' := by
  obtain ⟨x1, x2, x3, x4, x5, x6, x7, x8, rfl⟩ := h
  obtain ⟨a, b, e, t⟩ := tape_ok t7 (k + 5) ns j (by omega)
  have ea : asgT (.nm 1) (.int j) [some (.scr ns), x1, x2, x3, x4, x5, x6, x7, x8] = .ok () [some (.scr ns), some (.int j), x2, x3, x4, x5, x6, x7, x8] := rfl
  have e1 : ex (fns T (k + 6)) (.asg (.nm 2) (.call 7 [.var 0, .var 1] [.a 0, .a 1])) [some (.scr ns), some (.int j), x2, x3, x4, x5, x6, x7, x8] = .ok .nx [some (.scr ns), some (.int j), some (tp a b 0), x3, x4, x5, x6, x7, x8] := by
    simp [ex, evB, evAs, evV, takeP, rootOf, M.bind, M.pure, M.lift, D.isFrz, D.frz, asgT, setSlot, MP.pick, callD, e, putS]
  have h4 : opSem .range [.int 4] = some (.lst false (rangeD 0 4)) := rfl
  have ei : evI (fns T (k + 6)) (.itr .range [.cst (.int 4)]) [some (.scr ns), some (.int j), some (tp a b 0), x3, x4, x5, x6, x7, x8] = .ok (rangeD 0 4) [some (.scr ns), some (.int j), some (tp a b 0), x3, x4, x5, x6, x7, x8] := by
    simp [evI, evV, evB, evVs, M.bind, M.pure, M.lift, takeP, rootOf, D.isFrz, mapFrz, D.frz, h4, itemsOf, range_mapFrz]
  obtain ⟨ρ', e2, p⟩ := loop_inv (t := .nm 3) (m := exs (fns T (k + 6)) F17_b0) (fun i ρ => St ns (some (.int j)) (15 * i) ρ) (rangeD 0 4) 0 _ ⟨a, b, 0, x3, x4, x5, x6, x7, x8, rfl, by simpa using t⟩ (fun i x ρ hi hx _ hp => by
    have hl : (rangeD 0 4).length = 4 := rfl
    obtain ⟨rfl, _⟩ := rangeD_at hx
    have := turn k ns (some (.int j)) (15 * i) (by omega) ρ hp (0 + ↑(i - 0))
    rw [show (15 : Int) * ((i + 1 : Nat) : Int) = 15 * i + 15 by omega]
    exact this)
  obtain ⟨a', b', c', y3, y4, y5, y6, y7, y8, rfl, _⟩ := p
  refine ⟨[some (.scr ns), some (.int j), some (tp a' b' c'), y3, y4, y5, y6, y7, y8], ?_, _, _, _, _, _, _, _, _, rfl⟩
  rw [bind_ok ea, F17_b1, exs_nx e1]
  refine (exs_nx (for_ok ei e2)).trans ?_
  simp [exs, M.pure]
theorem main : ∀ ns : List Int, ns.length ≤ 63 → ∃ os ρ, fns T 40 lawNo [.scr ns] = .ok (.bl true, os) ρ := by
  intro ns hns
  refine ⟨[.scr ns], [], ?_⟩
  rw [show lawNo = 17 from rfl, fns_at (k := 39) t17]
  obtain ⟨m, hm, em⟩ : ∃ m : Int, m ≤ 4 ∧ evI (fns T 39) (.itr .range [.op .max [.cst (.int 2), .op .min [.cst (.int 4), .op .len [.var 0]]]]) (startR 9 [.scr ns]) = .ok (rangeD 0 m) (startR 9 [.scr ns]) := by
    refine ⟨if (if (ns.length : Int) < 4 then (ns.length : Int) else 4) > 2 then (if (ns.length : Int) < 4 then (ns.length : Int) else 4) else 2, by split <;> split <;> omega, ?_⟩
    have hs : small62 (if (if (ns.length : Int) < 4 then (ns.length : Int) else 4) > 2 then (if (ns.length : Int) < 4 then (ns.length : Int) else 4) else 2) = true := by
      unfold small62
      rw [Bool.and_eq_true, decide_eq_true_iff, decide_eq_true_iff]
      split <;> split <;> omega
    generalize hq : (if (if (ns.length : Int) < 4 then (ns.length : Int) else 4) > 2 then (if (ns.length : Int) < 4 then (ns.length : Int) else 4) else 2) = q at *
    have h1 : opSem .max [.int 2, .int (if (ns.length : Int) < 4 then (ns.length : Int) else 4)] = some (.int q) := by
      rw [← hq]; rfl
    have h2 : opSem .min [.int 4, .int ns.length] = some (.int (if (ns.length : Int) < 4 then (ns.length : Int) else 4)) := rfl
    have h3 : opSem .len [.scr ns] = some (.int ns.length) := rfl
    have h4 : opSem .range [.int q] = some (.lst false (rangeD 0 q)) := by simp [opSem, sRange, opt, hs]
    simp [evI, evV, evB, evVs, evOs, M.bind, M.pure, M.lift, startR, takeP, rootOf, quiet, quietAll, h1, h2, h3, h4, range_mapFrz, D.frz, D.isFrz, mapFrz, itemsOf]
  obtain ⟨ρ', e, p⟩ := loop_inv (t := .nm 1) (m := exs (fns T 39) F17_b1) (fun _ ρ => St0 ns ρ) (rangeD 0 m) 0 (startR 9 [.scr ns]) ⟨_, _, _, _, _, _, _, _, rfl⟩ (fun i x ρ hi hx _ hp => by
    obtain ⟨rfl, hlt⟩ := rangeD_at hx
    rw [Int.zero_add] at hlt ⊢
    exact round 33 ns (i - 0) (by omega) ρ hp)
  have eb : exs (fns T 39) F17.body (startR F17.n [.scr ns]) = .ok (.ret (.bl true)) ρ' := by
    refine (exs_nx (for_ok em e)).trans ?_
    simp [exs, ex, evV, evB, takeP, rootOf, M.bind, M.pure]
  obtain ⟨x1, x2, x3, x4, x5, x6, x7, x8, rfl⟩ := p
  unfold runFn
  rw [if_pos (show [D.scr ns].length = F17.np from rfl), eb]
  rfl
end T
end MP

end
section
set_option Elab.async false
set_option linter.all false
set_option maxRecDepth 100000
set_option maxHeartbeats 0
namespace MP
namespace T
open PySem PySem.Spec PyProof.Rows L2
abbrev R : PySem.W.OpenRow := PySem.W.OpenLaw.row PySem.Challenge.rw_withinall_k25_whole_pairs_parted_and_tur
def fn : List He.DefD := ds.map PDef.d
abbrev hk : PySem.W.Hook := He.hookX 4 [] fn [] [] (exB ds globs)
def ob (s : PySem.W.SharedT) : He.AlX := He.obsX 4 [] fn [] [] (exB ds globs) (HandSHeadRun.getT s)
theorem ob_eq (s : PySem.W.SharedT) : ob s = hk.obs s.abs := He.obsX_eq (HandSHeadRun.getT_eq s)
def names : List PySem.Str := (["SUMS", "made", "partners", "rests", "as_stretch", "some_pairs", "spanned", "pairs", "_law_tape", "_law_draw", "_law_pick", "_law_a_word", "_law_span", "_law_joined", "_law_over_nought", "_law_parted_right", "_law_turned_right", "_law_wider_right"] : List PySem.Str)
theorem run (w : World) : HandSHeadRun.RunEq R (PySem.W.view R.prog [20]) hk ob 20000 names w := by
  refine PySem.W.byRow2 "special-get-raises" (P := fun w => HandSHeadRun.RunEq R (PySem.W.view R.prog [20]) hk ob 20000 names w) ?_ ?_ w
  · intro w os
    kernel_rfl
  · intro w os
    kernel_rfl
theorem chk : ds.all (chkP globs (ds.map PDef.fi)) = true := by decide +kernel
theorem nm : nameB ds globs = true := by decide +kernel

end T
end MP
open PySem PySem.W PySem.Calls PyProof.Rows
theorem PySem.Challenge.cw_withinall_k25_whole_pairs_parted_and_tur_holds : PySem.Challenge.rw_withinall_k25_whole_pairs_parted_and_tur.Holds := by
  w_on; o_law
  refine HandSHeadRun.head_any (r := OpenLaw.row PySem.Challenge.rw_withinall_k25_whole_pairs_parted_and_tur) (q := view (OpenLaw.row PySem.Challenge.rw_withinall_k25_whole_pairs_parted_and_tur).prog [20]) (H := MP.T.hk) (ob := MP.T.ob) (M := 20000) (loose := MP.T.names) (d := HandSHeadRun.topDef (OpenLaw.row PySem.Challenge.rw_withinall_k25_whole_pairs_parted_and_tur).prog 20) (kwd := []) MP.T.ob_eq
    (by kernel_rfl) (fun s => by kernel_rfl) MP.T.run (by kernel_rfl) (by kernel_rfl) (by kernel_rfl) (by rfl) (by first | assumption | decide +kernel) (by decide +kernel) ⟨rfl, rfl, rfl, rfl, rfl, by decide +kernel⟩ ?hw ?hc
  case hw => w_witness2
  case hc =>
    refine MP.walk_ofP (l := PySem.Challenge.rw_withinall_k25_whole_pairs_parted_and_tur) (n := 63) (k := 40) (x := "script") rfl (by decide) (by kernel_rfl) ⟨rfl, by decide, by decide⟩ rfl ?F
    intro w mg fa h Y G hmg0
    have hmg : mg ("law" : PySem.Str) = some (.ref fa) := by
      have e : (HandSHeadRun.topDef (OpenLaw.row PySem.Challenge.rw_withinall_k25_whole_pairs_parted_and_tur).prog 20).name = ("law" : PySem.Str) := by kernel_rfl
      rw [← e]
      exact hmg0
    exact MP.law_end (lawId := 17) rfl rfl rfl rfl rfl MP.T.chk MP.T.nm (fun _ _ _ _ _ _ us hl => match us, hl with | [_], _ => rfl) MP.T.main w mg fa h Y G hmg

end